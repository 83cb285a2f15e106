import PyProof.Rows.All
import HandS.Dict
import HandS.List
import Wide.All
import OpenK.AllK
import Wide.FinOn
import HandS.ForMost
import HandS.Exc
import HandS.ExcOwn
import HandS.TupAny
import HandS.TupMul
import HandS.Wide
import HandS.Deep
import HandS.IsInst
import HandS.Flow
import HandS.Style
import HandS.RaiseMore
import HandS.StrMore
import HandS.Strs
import HandS.Zip
import HandS.Zip0
import HandS.Walk
import HandS.DictComp
import HandS.Conv
import HandS.Codes
import HandS.Words
import HandS.Defaults
import HandS.HeadHook1
import HandS.HeadHook2
import HandS.HeadEnd
import KE.KStateDown
import Lean
import HandS.Ends
import HandS.More
import HandS.WordsExc
import HandS.Head0
import HandS.Head1
import HandS.Head2
import HandS.HeadHook3
import HandS.HeadHook4
import PySem.Challenge.RW_barsneeded_k09_single_changes
section
/-! The small language: data, a store of cells, expressions, statements, and what they do. -/
namespace MP
abbrev T := List Nat
/-- data: None, boolsOf, intsOf, texts (their codes), tuples, lists that never change, the script, cells of the store -/
inductive D where
  | non | bl (b : Bool) | int (i : Int) | str (s : T) | tup (ds : List D) | lst (ds : List D) | rol (ds : List D) | loc (n : Nat)
  deriving Inhabited
abbrev SZ : Nat := 16777216
mutual
def D.eqb : D → D → Bool
  | .non, .non => true
  | .bl a, .bl b => a == b
  | .bl a, .int j => (if a then 1 else 0) == j
  | .int i, .bl b => i == (if b then 1 else 0)
  | .int i, .int j => i == j
  | .str s, .str t => s == t
  | .tup xs, .tup ys => D.eqbs xs ys
  | .lst xs, .lst ys => D.eqbs xs ys
  | _, _ => false
def D.eqbs : List D → List D → Bool
  | [], [] => true
  | x :: xs, y :: ys => x.eqb y && D.eqbs xs ys
  | _, _ => false
end
mutual
/-- plain data at most n deep -/
def D.okd : D → Nat → Bool
  | .non, _ | .bl _, _ | .int _, _ => true
  | .str s, _ => s.all fun c => decide (c < 1114112)
  | .tup ds, n + 1 => D.okds ds n
  | .lst ds, n + 1 => D.okds ds n
  | _, _ => false
def D.okds : List D → Nat → Bool
  | [], _ => true
  | d :: ds, n => d.okd n && D.okds ds n
end
def D.flat : D → Bool
  | .non | .bl _ | .int _ | .str _ => true
  | _ => false
/-- keys of dicts -/
abbrev K := Sum Int T
def D.key : D → Option K
  | .int i => some (.inl i)
  | .str s => some (.inr s)
  | _ => none
def K.d : K → D
  | .inl i => .int i
  | .inr s => .str s
/-- what stands in a cell -/
inductive Cell where
  | lst (ds : List D)
  | dct (kvs : List (K × D))
  deriving Inhabited
abbrev Store := List Cell
/-- an exception: its class, what it bears -/
structure Exn where
  cls : Nat
  args : List D
inductive R (α : Type) where
  | ok (a : α) (st : Store)
  | ex (x : Exn) (st : Store)
  | no
/-- a mark that hangs on a value: what bears it is not gone into by simp's own congruence -/
def Wrp {γ : Type} (_ : γ) : Type := Unit
class Wrc {γ : Type} (x : γ) : Type where
instance instWrc {γ : Type} (x : γ) : Wrc x := ⟨⟩
def R.bd {α β : Type} (r : R α) (f : α → Store → R β) (_ : Wrp f := ()) : R β := match r with
  | .ok a st => f a st
  | .ex x st => .ex x st
  | .no => .no
@[simp] theorem R.bd_ok {α β : Type} (a : α) (st : Store) (f : α → Store → R β) : (R.ok a st).bd f = f a st := rfl
@[simp] theorem R.bd_ex {α β : Type} (x : Exn) (st : Store) (f : α → Store → R β) : (R.ex x st : R α).bd f = .ex x st := rfl
@[simp] theorem R.bd_no {α β : Type} (f : α → Store → R β) : (R.no : R α).bd f = .no := rfl
def R.of {α : Type} (o : Option α) (st : Store) : R α := match o with
  | some a => .ok a st
  | none => .no
@[simp] theorem R.of_some {α : Type} (a : α) (st : Store) : R.of (some a) st = .ok a st := rfl
@[simp] theorem R.of_none {α : Type} (st : Store) : (R.of (none : Option α) st) = .no := rfl

/-- what came, no exception -/
def R.oks {α β : Type} (r : R α) (f : α → Store → R β) (_ : Wrp f := ()) : R β := match r with
  | .ok a st => f a st
  | _ => .no
@[simp] theorem R.oks_ok {α β : Type} (a : α) (st : Store) (f : α → Store → R β) : (R.ok a st).oks f = f a st := rfl
@[simp] theorem R.oks_ex {α β : Type} (x : Exn) (st : Store) (f : α → Store → R β) : (R.ex x st : R α).oks f = .no := rfl
@[simp] theorem R.oks_no {α β : Type} (f : α → Store → R β) : (R.no : R α).oks f = .no := rfl
/-- a branch -/
def brE {α : Type} (o : Option Bool) (f : Bool → R α) (_ : Wrp f := ()) : R α := match o with
  | some b => f b
  | none => .no
@[simp] theorem brE_some {α : Type} (b : Bool) (f : Bool → R α) : brE (some b) f = f b := rfl
@[simp] theorem brE_none {α : Type} (f : Bool → R α) : brE none f = .no := rfl
inductive Bop where
  | add | sub | mul | mod | fdiv | pow
  deriving DecidableEq
inductive Cop where
  | eq | ne | lt | le | gt | ge | isin | notin
  deriving DecidableEq
inductive Ty where
  | int | bool | str | tuple | list
  deriving DecidableEq
inductive Blt where
  | len | abs | max2 | min2 | maxl | int | bool | str | sum | all | any | sorted | tuple | list | listm | dict
  deriving DecidableEq
inductive Mth where
  | append | pop | lindex | sindex | count | get | split | join
  deriving DecidableEq
/-- targets -/
inductive Tg where
  | nm (i : Nat)
  | nil
  | cons (t : Tg) (r : Tg)
  deriving DecidableEq
mutual
inductive E where
  | nm (i : Nat) | gl (g : Nat)
  | non | bl (b : Bool) | int (i : Int) | str (s : T)
  | tup (es : Es) | lst (m : Bool) (es : Es) | dct (ks : List T) (es : Es)
  | bin (op : Bop) (a b : E) | neg (a : E)
  | not (a : E) | and (a b : E) | or (a b : E) | ife (c a b : E)
  | cmp (op : Cop) (a b : E) | chn (o p : Cop) (a b c : E)
  | isn (a : E) | nisn (a : E)
  | idx (a b : E) | sll (a lo : E) | slh (a hi : E) | slb (a lo hi : E) | rev (a : E)
  | gix (g : Nat) (a : E)
  | call (f : Nat) (es : Es) | blt (b : Blt) (es : Es) | mth (m : Mth) (o : E) (es : Es) | isi (a : E) (t : Ty)
  | lc (t : Tg) (i : Iter) (c : Oe) (r : Gs) (m : Bool)
  | dc (t : Tg) (i : Iter) (k v : E) | skeys (t i : Nat)
  | lrng1 (m : Bool) (a : E) | lrng2 (m : Bool) (a b : E)
inductive Es where
  | nil
  | cons (e : E) (r : Es)
inductive Iter where
  | e (e : E) | rng1 (a : E) | rng2 (a b : E) | enm (a : E) | zip (a b : E)
/-- the clauses of a comprehension (target, what is walked, at most one if), then its element -/
inductive Gs where
  | elt (e : E)
  | cons (t : Tg) (i : Iter) (c : Oe) (r : Gs)
inductive Oe where
  | none
  | some (e : E)
end
mutual
inductive S where
  | expr (e : E) | asg (i : Nat) (e : E) | asgT (t : Tg) (e : E) | par (is : List Nat) (es : Es) | setIx (o i e : E)
  | ret (e : E) | retN | ite (c : E) (a b : Ss) | for_ (t : Tg) (i : Iter) (b : Ss) | while_ (c : E) (b : Ss)
  | brk | cont | pass | raise (cls : Nat) | never
inductive Ss where
  | nil
  | cons (s : S) (r : Ss)
end
structure Fn where
  np : Nat
  ns : Nat
  body : Ss

/-- what stands around: the defs, the module's constants, how often a while turns at most -/
structure G where
  call : Nat → List D → Store → R D
  glob : Nat → Option D
  W : Nat
abbrev Rho := List (Option D)

/-! ### by values -/
def items (st : Store) : D → Option (List D)
  | .tup ds | .lst ds | .rol ds => some ds
  | .loc n => match st[n]? with
    | some (.lst ds) => some ds
    | _ => none
  | _ => none
/-- as plain data: a cell's list is a list -/
def deref (st : Store) : D → D
  | .loc n => match st[n]? with
    | some (.lst ds) => .lst ds
    | _ => .loc n
  | d => d
def truth (st : Store) : D → Option Bool
  | .non => some false
  | .bl b => some b
  | .int i => some (i != 0)
  | .str s => if s.length ≤ SZ then some (!s.isEmpty) else none
  | .tup ds | .lst ds => some (!ds.isEmpty)
  | .loc n => match st[n]? with
    | some (.lst ds) => some (!ds.isEmpty)
    | _ => none
  | _ => none
def mulOk (i j : Int) : Bool := decide (i.natAbs.log2 + j.natAbs.log2 < 1000000)
def catl (st : Store) (a b : D) : Option D := match items st a, items st b with
  | some xs, some ys => if xs.length + ys.length ≤ SZ then some (.lst (xs ++ ys)) else none
  | _, _ => none
def isList : D → Bool
  | .lst _ | .loc _ => true
  | _ => false
def isTup : D → Bool
  | .tup _ => true
  | _ => false
def evBin (op : Bop) (a b : D) (st : Store) : Option D := match op, a, b with
  | .add, .int i, .int j => some (.int (i + j))
  | .add, .str s, .str t => if s.length + t.length ≤ SZ then some (.str (s ++ t)) else none
  | .add, .tup xs, .tup ys => if xs.length + ys.length ≤ SZ then some (.tup (xs ++ ys)) else none
  | .add, .lst _, .lst _ => catl st a b
  | .add, .lst _, .loc _ => catl st a b
  | .add, .loc _, .lst _ => catl st a b
  | .add, .loc _, .loc _ => catl st a b
  | .sub, .int i, .int j => some (.int (i - j))
  | .mul, .int i, .int j => if mulOk i j then some (.int (i * j)) else none
  | .mul, .tup xs, .int k => if 1 ≤ k ∧ k ≤ 1000 ∧ xs.length ≤ 1000 ∧ xs ≠ [] then some (.tup (List.replicate k.toNat xs).flatten) else none
  | .mul, .lst xs, .int k => if 0 ≤ k ∧ k ≤ 1000 ∧ xs.length ≤ 1000 then some (.lst (List.replicate k.toNat xs).flatten) else none
  | .mod, .int i, .int j => if 0 < j then some (.int (i % j)) else none
  | .fdiv, .int i, .int j => if 0 < j ∧ j.natAbs.log2 < 9000 then some (.int (i / j)) else none
  | .pow, .int i, .int j => if 0 ≤ j ∧ j ≤ 1000 ∧ i.natAbs < 1000 then some (.int (i ^ j.toNat)) else none
  | _, _, _ => none
/-- x in xs -/
def memb (x : D) (xs : List D) : Bool := xs.any fun y => y.eqb x
def evIn (a b : D) (st : Store) : Option Bool := match b with
  | .str t => match a with
    | .str [c] => some (t.contains c)
    | _ => none
  | .tup ds => if a.flat && ds.all D.flat then some (memb a ds) else none
  | .lst _ | .loc _ => match items st b with
    | some ds => if a.okd 60 && D.okds ds 60 then some (memb a ds) else none
    | none => none
  | _ => none
def eqOk (a b : D) : Bool := a.flat && b.flat || a.okd 60 && b.okd 60
def evCmp (op : Cop) (a b : D) (st : Store) : Option Bool := match op with
  | .eq => if eqOk (deref st a) (deref st b) then some ((deref st a).eqb (deref st b)) else none
  | .ne => if eqOk (deref st a) (deref st b) then some (!(deref st a).eqb (deref st b)) else none
  | .isin => evIn a b st
  | .notin => (evIn a b st).map (!·)
  | .lt => match a, b with | .int i, .int j => some (decide (i < j)) | _, _ => none
  | .le => match a, b with | .int i, .int j => some (decide (i ≤ j)) | _, _ => none
  | .gt => match a, b with | .int i, .int j => some (decide (j < i)) | _, _ => none
  | .ge => match a, b with | .int i, .int j => some (decide (j ≤ i)) | _, _ => none
def evIdx (a b : D) (st : Store) : Option D := match a with
  | .str s => match b with
    | .int i => if s.length ≤ SZ then (L2.atI s i).map fun c => .str [c] else none
    | _ => none
  | .loc n => match st[n]? with
    | some (.lst ds) => match b with
      | .int i => L2.atI ds i
      | _ => none
    | some (.dct kvs) => match b.key with
      | some k => (kvs.find? fun kv => decide (kv.1 = k)).map (·.2)
      | none => none
    | none => none
  | .tup ds | .lst ds | .rol ds => match b with
    | .int i => L2.atI ds i
    | _ => none
  | _ => none
def cut {α : Type} (xs : List α) (lo hi : Option Int) : List α := (xs.drop (HT.sIx xs.length 0 lo)).take (HT.sIx xs.length xs.length hi - HT.sIx xs.length 0 lo)
def evSl (a : D) (lo hi : Option Int) (st : Store) : Option D := match a with
  | .str s => if s.length ≤ SZ then some (.str (cut s lo hi)) else none
  | .tup ds => some (.tup (cut ds lo hi))
  | .lst ds => some (.lst (cut ds lo hi))
  | .loc n => match st[n]? with
    | some (.lst ds) => some (.lst (cut ds lo hi))
    | _ => none
  | _ => none
def evIsi (a : D) (t : Ty) (st : Store) : Option Bool := match a with
  | .non => some false
  | .bl _ => some (t == .bool || t == .int)
  | .int _ => some (t == .int)
  | .str _ => some (t == .str)
  | .tup _ => some (t == .tuple)
  | .lst _ => some (t == .list)
  | .rol _ => none
  | .loc n => match st[n]? with
    | some (.lst _) => some (t == .list)
    | some (.dct _) => some false
    | none => none
def intsOf : List D → Option (List Int)
  | [] => some []
  | .int i :: r => (intsOf r).map (i :: ·)
  | _ :: _ => none
def boolsOf : List D → Option (List Bool)
  | [] => some []
  | .bl b :: r => (boolsOf r).map (b :: ·)
  | _ :: _ => none
def strsOf : List D → Option (List T)
  | [] => some []
  | .str s :: r => (strsOf r).map (s :: ·)
  | _ :: _ => none
def digits (i : Int) : T := (toString i).toList.map (·.toNat)
/-- the items of a list (not a tuple) -/
def lItems (st : Store) (d : D) : Option (List D) := if isList d then items st d else none
def insT (x : T) : List T → List T
  | [] => [x]
  | y :: r => if x ≤ y then x :: y :: r else y :: insT x r
def sortT (xs : List T) : List T := xs.foldr insT []
def pairsOf : List D → Option (List (K × D))
  | [] => some []
  | .tup [a, b] :: r => match a.key, pairsOf r with
    | some k, some q => some ((k, b) :: q)
    | _, _ => none
  | _ :: _ => none
def putK (kvs : List (K × D)) (k : K) (v : D) : List (K × D) :=
  if kvs.any fun kv => decide (kv.1 = k) then kvs.map fun kv => if kv.1 = k then (kv.1, v) else kv else kvs ++ [(k, v)]
def mergeK (kvs more : List (K × D)) : List (K × D) := more.foldl (fun acc kv => putK acc kv.1 kv.2) kvs
/-- the place of a text in a constant of texts -/
def gixV (o : Option D) (x : D) : Option D := match o, x with
  | some (.tup ds), .str t => match strsOf ds with
    | some xs => (xs.findIdx? (· == t)).map fun j : Nat => D.int (j : Int)
    | none => none
  | _, _ => none
/-- the keys of a dict of texts -/
def textsOf : List (K × D) → Option (List T)
  | [] => some []
  | (.inr s, _) :: r => (textsOf r).map (s :: ·)
  | (.inl _, _) :: _ => none
def keysOf (st : Store) : D → Option (List T)
  | .loc n => match st[n]? with
    | some (.dct kvs) => if kvs.length < SZ then textsOf kvs else none
    | _ => none
  | _ => none
def putR (acc : List (K × D)) (x y : D) (st : Store) : R (List (K × D)) := match x.key with
  | some k => if acc.length < SZ then .ok (putK acc k y) st else .no
  | none => .no
def evBlt (b : Blt) (ds : List D) (st : Store) : R D := match b, ds with
  | .len, [.str s] => if s.length ≤ SZ then .ok (.int s.length) st else .no
  | .len, [d] => R.of ((items st d).map fun xs => .int xs.length) st
  | .abs, [.int i] => .ok (.int (if i < 0 then -i else i)) st
  | .max2, [.int i, .int j] => .ok (.int (if j > i then j else i)) st
  | .min2, [.int i, .int j] => .ok (.int (if j < i then j else i)) st
  | .maxl, [d] => match (lItems st d).bind intsOf with
    | some (i :: is) => .ok (.int (is.foldl max i)) st
    | _ => .no
  | .int, [.int i] => .ok (.int i) st
  | .int, [.bl b] => .ok (.int (if b then 1 else 0)) st
  | .bool, [.int i] => .ok (.bl (i != 0)) st
  | .bool, [.bl b] => .ok (.bl b) st
  | .str, [.int i] => if i.natAbs.log2 < 1920 then .ok (.str (digits i)) st else .no
  | .str, [.str s] => .ok (.str s) st
  | .sum, [d] => R.of (((lItems st d).bind intsOf).map fun is => .int is.sum) st
  | .all, [d] => R.of (((lItems st d).bind boolsOf).map fun is => .bl (is.all id)) st
  | .any, [d] => R.of (((lItems st d).bind boolsOf).map fun is => .bl (is.any id)) st
  | .sorted, [d] => match (lItems st d).bind strsOf with
    | some xs => if xs.length < 64 then .ok (.lst ((sortT xs).map .str)) st else .no
    | none => .no
  | .tuple, [.tup ds] => .ok (.tup ds) st
  | .tuple, [d] => R.of ((lItems st d).map .tup) st
  | .list, [d] => R.of ((items st d).map .lst) st
  | .listm, [d] => match items st d with
    | some xs => .ok (.loc st.length) (st ++ [.lst xs])
    | none => .no
  | .dict, [d] => match (lItems st d).bind pairsOf with
    | some kvs => .ok (.loc st.length) (st ++ [.dct (mergeK [] kvs)])
    | none => .no
  | _, _ => .no
def splitT (sep : Nat) : T → List T
  | [] => [[]]
  | c :: r => if c = sep then [] :: splitT sep r else match splitT sep r with
    | w :: ws => (c :: w) :: ws
    | [] => [[c]]
def joinT (sep : T) : List T → T
  | [] => []
  | [x] => x
  | x :: r => x ++ sep ++ joinT sep r
def sumLen (sep : T) (xs : List T) : Nat := (xs.map (·.length)).sum + xs.length * sep.length
def evMth (m : Mth) (o : D) (ds : List D) (st : Store) : R D := match m, o, ds with
  | .append, .loc n, [d] => match st[n]? with
    | some (.lst xs) => if xs.length < SZ then .ok .non (st.set n (.lst (xs ++ [d]))) else .no
    | _ => .no
  | .pop, .loc n, [] => match st[n]? with
    | some (.lst xs) => match xs.getLast? with
      | some d => .ok d (st.set n (.lst xs.dropLast))
      | none => .no
    | _ => .no
  | .sindex, .str t, [.str [c]] => if t = [97, 98, 99, 100] then (match t.findIdx? (· == c) with
    | some j => .ok (.int j) st
    | none => .no) else .no
  | .lindex, o, [d] => match lItems st o with
    | some xs => if d.flat && xs.all D.flat then (match xs.findIdx? (fun y => y.eqb d) with
      | some j => .ok (.int j) st
      | none => .no) else .no
    | none => .no
  | .count, o, [.str t] => match (lItems st o).bind strsOf with
    | some xs => .ok (.int (xs.count t)) st
    | none => .no
  | .get, .loc n, [k, v] => match st[n]?, k.key with
    | some (.dct kvs), some k => .ok (((kvs.find? fun kv => decide (kv.1 = k)).map (·.2)).getD v) st
    | _, _ => .no
  | .split, .str s, [.str [c]] => if s.length + 2 ≤ SZ ∧ c < 256 then .ok (.lst ((splitT c s).map .str)) st else .no
  | .join, .str s, [d] => match (lItems st d).bind strsOf with
    | some xs => if sumLen s xs ≤ SZ then .ok (.str (joinT s xs)) st else .no
    | none => .no
  | _, _, _ => .no
/-- may the method's receiver be this -/
def recvK (m : Mth) (x : D) (st : Store) : Bool := match m with
  | .append | .pop | .lindex | .count => (lItems st x).isSome
  | .sindex | .split | .join => match x with
    | .str _ => true
    | _ => false
  | .get => match x with
    | .loc n => match st[n]? with
      | some (.dct _) => true
      | _ => false
    | _ => false
/-- o[i] = v -/
def evSet (o i v : D) (st : Store) : Option Store := match o with
  | .loc n => match st[n]? with
    | some (.lst xs) => match i with
      | .int k => (L2.ixN xs.length k).map fun j => st.set n (.lst (xs.set j v))
      | _ => none
    | some (.dct kvs) => match i.key with
      | some k => if kvs.length < SZ then some (st.set n (.dct (putK kvs k v))) else none
      | none => none
    | none => none
  | _ => none
mutual
/-- a target takes a value -/
def asgn : Tg → D → Rho → Option Rho
  | .nm i, d, ρ => if i < ρ.length then some (ρ.set i (some d)) else none
  | .nil, d, ρ => match d with
    | .tup ds => match ds with
      | [] => some ρ
      | _ => none
    | _ => none
  | .cons t r, d, ρ => match d with
    | .tup ds => match ds with
      | x :: xs => match asgn t x ρ with
        | some ρ' => asgnL r xs ρ'
        | none => none
      | [] => none
    | _ => none
def asgnL : Tg → List D → Rho → Option Rho
  | .nm _, _, _ => none
  | .nil, ds, ρ => match ds with
    | [] => some ρ
    | _ => none
  | .cons t r, ds, ρ => match ds with
    | x :: xs => match asgn t x ρ with
      | some ρ' => asgnL r xs ρ'
      | none => none
    | [] => none
end
def wipeR (ρ : Rho) : List Nat → Rho
  | [] => ρ
  | v :: vs => (wipeR ρ vs).set v none
mutual
def D.beq : D → D → Bool
  | .non, .non => true
  | .bl a, .bl b => a == b
  | .int i, .int j => i == j
  | .str s, .str t => s == t
  | .tup xs, .tup ys => D.beqs xs ys
  | .lst xs, .lst ys => D.beqs xs ys
  | .rol xs, .rol ys => D.beqs xs ys
  | .loc n, .loc m => n == m
  | _, _ => false
def D.beqs : List D → List D → Bool
  | [], [] => true
  | x :: xs, y :: ys => x.beq y && D.beqs xs ys
  | _, _ => false
end
mutual
theorem D.beq_self : ∀ a : D, a.beq a = true
  | .non => rfl
  | .bl a => by simp [D.beq]
  | .int i => by simp [D.beq]
  | .str s => by simp [D.beq]
  | .tup xs => by simp [D.beq, D.beqs_self xs]
  | .lst xs => by simp [D.beq, D.beqs_self xs]
  | .rol xs => by simp [D.beq, D.beqs_self xs]
  | .loc n => by simp [D.beq]
theorem D.beqs_self : ∀ a : List D, D.beqs a a = true
  | [] => rfl
  | x :: xs => by simp [D.beqs, D.beq_self x, D.beqs_self xs]
end
mutual
theorem D.beq_eq : ∀ a b : D, a.beq b = true → a = b
  | .non, b, h => by cases b <;> simp [D.beq] at h ⊢
  | .bl a, b, h => by cases b <;> simp [D.beq] at h ⊢; exact h
  | .int i, b, h => by cases b <;> simp [D.beq] at h ⊢; exact h
  | .str s, b, h => by cases b <;> simp [D.beq] at h ⊢; exact h
  | .tup xs, b, h => by
    cases b <;> simp [D.beq] at h ⊢
    exact D.beqs_eq _ _ h
  | .lst xs, b, h => by
    cases b <;> simp [D.beq] at h ⊢
    exact D.beqs_eq _ _ h
  | .rol xs, b, h => by
    cases b <;> simp [D.beq] at h ⊢
    exact D.beqs_eq _ _ h
  | .loc n, b, h => by cases b <;> simp [D.beq] at h ⊢; exact h
theorem D.beqs_eq : ∀ a b : List D, D.beqs a b = true → a = b
  | [], b, h => by cases b <;> simp [D.beqs] at h ⊢
  | x :: xs, b, h => by
    cases b with
    | nil => simp [D.beqs] at h
    | cons y ys =>
      simp [D.beqs] at h
      rw [D.beq_eq x y h.1, D.beqs_eq xs ys h.2]
end
/-- the slots of a target, of the targets of clauses -/
def Tg.slots : Tg → List Nat
  | .nm i => [i]
  | .nil => []
  | .cons t r => t.slots ++ r.slots
def Gs.slots : Gs → List Nat
  | .elt _ => []
  | .cons t _ _ r => t.slots ++ r.slots
/-- what is walked: its items, and the cells that must stand as they are meanwhile -/
structure Walked where
  xs : List D
  keep : List (Nat × List D)
def Walked.ok (w : Walked) (st : Store) : Bool := w.keep.all fun p => match st[p.1]? with
  | some (.lst ds) => D.beqs ds p.2
  | _ => false
def keepOf (d : D) (xs : List D) : List (Nat × List D) := match d with
  | .loc n => [(n, xs)]
  | _ => []
def enum : Nat → List D → List D
  | _, [] => []
  | i, x :: r => .tup [.int i, x] :: enum (i + 1) r
def zipD : List D → List D → List D
  | x :: xs, y :: ys => .tup [x, y] :: zipD xs ys
  | _, _ => []
def rng (lo : Int) : Nat → List D
  | 0 => []
  | n + 1 => .int lo :: rng (lo + 1) n
def isSeq : D → Bool
  | .tup _ | .lst _ | .loc _ | .rol _ => true
  | _ => false
def walked (d : D) (st : Store) : Option Walked := match d with
  | .str s => if s.length ≤ SZ then some ⟨s.map fun c => .str [c], []⟩ else none
  | d => (items st d).map fun xs => ⟨xs, keepOf d xs⟩
def rngOk (i : Int) : Bool := decide (-(2 ^ 62) ≤ i ∧ i < 2 ^ 62)
/-- list(range(i, j)) -/
def lrR (m : Bool) (i j : Int) (st : Store) : R D := if rngOk i && rngOk j && decide ((j - i).toNat ≤ SZ) then (if m then .ok (.loc st.length) (st ++ [.lst (rng i (j - i).toNat)]) else .ok (.lst (rng i (j - i).toNat)) st) else .no
/-- how often a while turns at most: any number -/
def bigW : Nat := 2 ^ 200000
theorem bigW_le {k : Nat} (h : k ≤ 200000) : 2 ^ k ≤ bigW := Nat.pow_le_pow_right (by decide) h
/-- over the items: the element's own work -/
def lcL {α : Type} (w : Walked) (t : Tg) (f : Rho → Store → α → R α) [Wrc w] [Wrc t] [Wrc f] : List D → Rho → Store → α → R α
  | [], _, st, acc => .ok acc st
  | x :: r, ρ, st, acc => match asgn t x ρ with
    | none => .no
    | some ρ' => (f ρ' st acc).oks fun acc' st' => if w.ok st' = true then lcL w t f r ρ st' acc' else .no
/-- a turn of a comprehension: its test, then what it does -/
def lcT {α : Type} (fo : Rho → Store → R Bool) (fg : Rho → Store → α → R α) (ρ : Rho) (st : Store) (acc : α) : R α := (fo ρ st).oks fun b st' => if b = true then fg ρ st' acc else .ok acc st'
mutual
def evE (Γ : G) : E → Rho → Store → R D
  | .nm i, ρ, st => match ρ[i]? with
    | some (some d) => .ok d st
    | _ => .no
  | .gl g, _, st => R.of (Γ.glob g) st
  | .non, _, st => .ok .non st
  | .bl b, _, st => .ok (.bl b) st
  | .int i, _, st => .ok (.int i) st
  | .str s, _, st => .ok (.str s) st
  | .tup es, ρ, st => (evEs Γ es ρ st).bd fun ds st => if ds.length ≤ SZ then .ok (.tup ds) st else .no
  | .lst m es, ρ, st => (evEs Γ es ρ st).bd fun ds st => if ds.length ≤ SZ then (if m then .ok (.loc st.length) (st ++ [.lst ds]) else .ok (.lst ds) st) else .no
  | .dct ks es, ρ, st => (evEs Γ es ρ st).oks fun ds st => if ks.length = ds.length ∧ ks.length ≤ 15 then .ok (.loc st.length) (st ++ [.dct (mergeK [] ((ks.map Sum.inr).zip ds))]) else .no
  | .bin op a b, ρ, st => (evE Γ a ρ st).bd fun x st => (evE Γ b ρ st).bd fun y st => R.of (evBin op x y st) st
  | .neg a, ρ, st => (evE Γ a ρ st).bd fun x st => match x with
    | .int i => .ok (.int (-i)) st
    | _ => .no
  | .not a, ρ, st => (evE Γ a ρ st).bd fun x st => R.of ((truth st x).map fun b => .bl (!b)) st
  | .and a b, ρ, st => (evE Γ a ρ st).bd fun x st => brE (truth st x) fun k => if k = true then evE Γ b ρ st else .ok x st
  | .or a b, ρ, st => (evE Γ a ρ st).bd fun x st => brE (truth st x) fun k => if k = true then .ok x st else evE Γ b ρ st
  | .ife c a b, ρ, st => (evE Γ c ρ st).bd fun x st => brE (truth st x) fun k => if k = true then evE Γ a ρ st else evE Γ b ρ st
  | .cmp op a b, ρ, st => (evE Γ a ρ st).bd fun x st => (evE Γ b ρ st).bd fun y st => R.of ((evCmp op x y st).map .bl) st
  | .chn o p a b c, ρ, st => (evE Γ a ρ st).bd fun x st => (evE Γ b ρ st).bd fun y st => brE (evCmp o x y st) fun k => if k = true then (evE Γ c ρ st).bd fun z st => R.of ((evCmp p y z st).map .bl) st else .ok (.bl false) st
  | .isn a, ρ, st => (evE Γ a ρ st).bd fun x st => .ok (.bl (match x with | .non => true | _ => false)) st
  | .nisn a, ρ, st => (evE Γ a ρ st).bd fun x st => .ok (.bl (match x with | .non => false | _ => true)) st
  | .idx a b, ρ, st => (evE Γ a ρ st).bd fun x st => (evE Γ b ρ st).bd fun y st => R.of (evIdx x y st) st
  | .sll a lo, ρ, st => (evE Γ a ρ st).bd fun x st => (evE Γ lo ρ st).bd fun y st => match y with
    | .int i => R.of (evSl x (some i) none st) st
    | _ => .no
  | .slh a hi, ρ, st => (evE Γ a ρ st).bd fun x st => (evE Γ hi ρ st).bd fun y st => match y with
    | .int i => R.of (evSl x none (some i) st) st
    | _ => .no
  | .slb a lo hi, ρ, st => (evE Γ a ρ st).bd fun x st => (evE Γ lo ρ st).bd fun y st => match y with
    | .int i => (evE Γ hi ρ st).bd fun z st => match z with
      | .int j => R.of (evSl x (some i) (some j) st) st
      | _ => .no
    | _ => .no
  | .rev a, ρ, st => (evE Γ a ρ st).bd fun x st => R.of ((lItems st x).map fun xs => .lst xs.reverse) st
  | .gix g a, ρ, st => (evE Γ a ρ st).bd fun x st => R.of (gixV (Γ.glob g) x) st
  | .call f es, ρ, st => (evEs Γ es ρ st).bd fun ds st => Γ.call f ds st
  | .blt b es, ρ, st => (evEs Γ es ρ st).bd fun ds st => evBlt b ds st
  | .mth m o es, ρ, st => (evE Γ o ρ st).bd fun x st => if recvK m x st then (evEs Γ es ρ st).bd fun ds st => evMth m x ds st else .no
  | .isi a t, ρ, st => (evE Γ a ρ st).bd fun x st => R.of ((evIsi x t st).map .bl) st
  | .lc t i c r m, ρ, st => (evI Γ i ρ st).bd fun w st1 => (lcL w t (lcT (evO Γ c) (evGs Γ r)) w.xs (wipeR ρ (t.slots ++ r.slots)) st1 []).oks fun acc st2 => if m = true then .ok (.loc st2.length) (st2 ++ [.lst acc]) else .ok (.lst acc) st2
  | .dc t i k v, ρ, st => (evI Γ i ρ st).bd fun w st1 => (lcL w t (fun ρ st acc => (evE Γ k ρ st).oks fun x st => (evE Γ v ρ st).oks fun y st => putR acc x y st) w.xs (wipeR ρ t.slots) st1 []).oks fun acc st2 => .ok (.loc st2.length) (st2 ++ [.dct acc])
  | .lrng1 m a, ρ, st => (evE Γ a ρ st).bd fun x st => match x with
    | .int j => lrR m 0 j st
    | _ => .no
  | .lrng2 m a b, ρ, st => (evE Γ a ρ st).bd fun x st => (evE Γ b ρ st).bd fun y st => match x, y with
    | .int i, .int j => lrR m i j st
    | _, _ => .no
  | .skeys t i, ρ, st => match ρ[i]? with
    | some (some x) => if t < ρ.length then R.of ((keysOf st x).map fun ks => .lst (ks.map .str)) st else .no
    | _ => .no
def evEs (Γ : G) : Es → Rho → Store → R (List D)
  | .nil, _, st => .ok [] st
  | .cons e r, ρ, st => (evE Γ e ρ st).bd fun x st => (evEs Γ r ρ st).bd fun xs st => .ok (x :: xs) st
def evI (Γ : G) : Iter → Rho → Store → R Walked
  | .e a, ρ, st => (evE Γ a ρ st).bd fun x st => R.of (walked x st) st
  | .rng1 a, ρ, st => (evE Γ a ρ st).bd fun x st => match x with
    | .int j => if rngOk j then .ok ⟨rng 0 j.toNat, []⟩ st else .no
    | _ => .no
  | .rng2 a b, ρ, st => (evE Γ a ρ st).bd fun x st => (evE Γ b ρ st).bd fun y st => match x, y with
    | .int i, .int j => if rngOk i && rngOk j then .ok ⟨rng i (j - i).toNat, []⟩ st else .no
    | _, _ => .no
  | .enm a, ρ, st => (evE Γ a ρ st).bd fun x st => R.of ((lItems st x).map fun xs => ⟨enum 0 xs, keepOf x xs⟩) st
  | .zip a b, ρ, st => (evE Γ a ρ st).bd fun x st => (evE Γ b ρ st).bd fun y st => if (isList x || isTup x) && (isList y || isTup y) then match items st x, items st y with
    | some xs, some ys => .ok ⟨zipD xs ys, keepOf x xs ++ keepOf y ys⟩ st
    | _, _ => .no
    else .no
def evO (Γ : G) : Oe → Rho → Store → R Bool
  | .none, _, st => .ok true st
  | .some e, ρ, st => (evE Γ e ρ st).bd fun x st => R.of (truth st x) st
def evGs (Γ : G) : Gs → Rho → Store → List D → R (List D)
  | .elt e, ρ, st, acc => (evE Γ e ρ st).bd fun x st => if acc.length < SZ then .ok (acc ++ [x]) st else .no
  | .cons t i c r, ρ, st, acc => (evI Γ i ρ st).oks fun w st1 => lcL w t (lcT (evO Γ c) (evGs Γ r)) w.xs (wipeR ρ (t.slots ++ r.slots)) st1 acc
end
/-! ### statements -/
inductive SR where
  | nx (ρ : Rho) (st : Store)
  | bk (ρ : Rho) (st : Store)
  | ct (ρ : Rho) (st : Store)
  | ret (d : D) (st : Store)
  | ex (x : Exn) (ρ : Rho) (st : Store)
  | no
def SR.sq (r : SR) (f : Rho → Store → SR) (_ : Wrp f := ()) : SR := match r with
  | .nx ρ st => f ρ st
  | r => r
@[simp] theorem SR.sq_nx (ρ : Rho) (st : Store) (f : Rho → Store → SR) : (SR.nx ρ st).sq f = f ρ st := rfl
@[simp] theorem SR.sq_bk (ρ : Rho) (st : Store) (f : Rho → Store → SR) : (SR.bk ρ st).sq f = .bk ρ st := rfl
@[simp] theorem SR.sq_ct (ρ : Rho) (st : Store) (f : Rho → Store → SR) : (SR.ct ρ st).sq f = .ct ρ st := rfl
@[simp] theorem SR.sq_ret (d : D) (st : Store) (f : Rho → Store → SR) : (SR.ret d st).sq f = .ret d st := rfl
@[simp] theorem SR.sq_ex (x : Exn) (ρ : Rho) (st : Store) (f : Rho → Store → SR) : (SR.ex x ρ st).sq f = .ex x ρ st := rfl
@[simp] theorem SR.sq_no (f : Rho → Store → SR) : SR.no.sq f = .no := rfl
def R.st {α : Type} (r : R α) (ρ : Rho) (f : α → Store → SR) (_ : Wrp ρ := ()) (_ : Wrp f := ()) : SR := match r with
  | .ok a st => f a st
  | .ex x st => .ex x ρ st
  | .no => .no
@[simp] theorem R.st_ok {α : Type} (a : α) (st : Store) (ρ : Rho) (f : α → Store → SR) : (R.ok a st).st ρ f = f a st := rfl
@[simp] theorem R.st_ex {α : Type} (x : Exn) (st : Store) (ρ : Rho) (f : α → Store → SR) : (R.ex x st : R α).st ρ f = .ex x ρ st := rfl
@[simp] theorem R.st_no {α : Type} (ρ : Rho) (f : α → Store → SR) : (R.no : R α).st ρ f = .no := rfl
def nxO (o : Option Rho) (st : Store) : SR := match o with
  | some ρ => .nx ρ st
  | none => .no
@[simp] theorem nxO_some (ρ : Rho) (st : Store) : nxO (some ρ) st = .nx ρ st := rfl
def brS (o : Option Bool) (f : Bool → SR) (_ : Wrp f := ()) : SR := match o with
  | some b => f b
  | none => .no
@[simp] theorem brS_some (b : Bool) (f : Bool → SR) : brS (some b) f = f b := rfl
@[simp] theorem brS_none (f : Bool → SR) : brS none f = .no := rfl
/-- a turn's end: whether it goes on, what then -/
def SR.turn (r : SR) (f : Rho → Store → SR) (_ : Wrp f := ()) : SR := match r with
  | .nx ρ st => f ρ st
  | .ct ρ st => f ρ st
  | .bk ρ st => .nx ρ st
  | .ret d st => .ret d st
  | .ex x ρ st => .ex x ρ st
  | .no => .no
@[simp] theorem SR.turn_nx (ρ : Rho) (st : Store) (f : Rho → Store → SR) : (SR.nx ρ st).turn f = f ρ st := rfl
@[simp] theorem SR.turn_ct (ρ : Rho) (st : Store) (f : Rho → Store → SR) : (SR.ct ρ st).turn f = f ρ st := rfl
@[simp] theorem SR.turn_bk (ρ : Rho) (st : Store) (f : Rho → Store → SR) : (SR.bk ρ st).turn f = .nx ρ st := rfl
@[simp] theorem SR.turn_ret (d : D) (st : Store) (f : Rho → Store → SR) : (SR.ret d st).turn f = .ret d st := rfl
@[simp] theorem SR.turn_ex (x : Exn) (ρ : Rho) (st : Store) (f : Rho → Store → SR) : (SR.ex x ρ st).turn f = .ex x ρ st := rfl
@[simp] theorem SR.turn_no (f : Rho → Store → SR) : SR.no.turn f = .no := rfl
/-- a for over the items -/
def forL (w : Walked) (t : Tg) (f : Rho → Store → SR) [Wrc w] [Wrc t] [Wrc f] : List D → Rho → Store → SR
  | [], ρ, st => .nx ρ st
  | x :: r, ρ, st => match asgn t x ρ with
    | none => .no
    | some ρ' => (f ρ' st).turn fun ρ'' st' => if w.ok st' = true then forL w t f r ρ'' st' else .no
/-- a while of at most n turns -/
def whL (c : Rho → Store → R D) (f : Rho → Store → SR) : Nat → Rho → Store → SR
  | 0, _, _ => .no
  | n + 1, ρ, st => (c ρ st).st ρ fun x st => brS (truth st x) fun k => if k = true then (f ρ st).turn fun ρ'' st' => whL c f n ρ'' st' else .nx ρ st
def setAll : List Nat → List D → Rho → Option Rho
  | [], [], ρ => some ρ
  | i :: is, d :: ds, ρ => if i < ρ.length then setAll is ds (ρ.set i (some d)) else none
  | _, _, _ => none
mutual
def evS (Γ : G) : S → Rho → Store → SR
  | .expr e, ρ, st => (evE Γ e ρ st).st ρ fun _ st => .nx ρ st
  | .asg i e, ρ, st => (evE Γ e ρ st).st ρ fun x st => if i < ρ.length then .nx (ρ.set i (some x)) st else .no
  | .asgT t e, ρ, st => (evE Γ e ρ st).st ρ fun x st => nxO (asgn t x ρ) st
  | .par is es, ρ, st => (evEs Γ es ρ st).st ρ fun ds st => nxO (setAll is ds ρ) st
  | .setIx o i e, ρ, st => (evE Γ e ρ st).st ρ fun v st => (evE Γ o ρ st).st ρ fun x st => (evE Γ i ρ st).st ρ fun y st => match evSet x y v st with
    | some st => .nx ρ st
    | none => .no
  | .ret e, ρ, st => (evE Γ e ρ st).st ρ fun x st => .ret x st
  | .retN, _, st => .ret .non st
  | .ite c a b, ρ, st => (evE Γ c ρ st).st ρ fun x st => brS (truth st x) fun k => if k = true then evSs Γ a ρ st else evSs Γ b ρ st
  | .for_ t i b, ρ, st => (evI Γ i ρ st).st ρ fun w st => forL w t (evSs Γ b) w.xs ρ st
  | .while_ c b, ρ, st => whL (evE Γ c) (evSs Γ b) Γ.W ρ st
  | .brk, ρ, st => .bk ρ st
  | .cont, ρ, st => .ct ρ st
  | .pass, ρ, st => .nx ρ st
  | .raise cls, ρ, st => .ex ⟨cls, []⟩ ρ st
  | .never, _, _ => .no
def evSs (Γ : G) : Ss → Rho → Store → SR
  | .nil, ρ, st => .nx ρ st
  | .cons s r, ρ, st => (evS Γ s ρ st).sq fun ρ st => evSs Γ r ρ st
end
/-! ### defs -/
def SR.out (r : SR) : R D := match r with
  | .nx _ st => .ok .non st
  | .ret d st => .ok d st
  | .ex x _ st => .ex x st
  | _ => .no
@[simp] theorem SR.out_nx (ρ : Rho) (st : Store) : (SR.nx ρ st).out = .ok .non st := rfl
@[simp] theorem SR.out_ret (d : D) (st : Store) : (SR.ret d st).out = .ok d st := rfl
@[simp] theorem SR.out_ex (x : Exn) (ρ : Rho) (st : Store) : (SR.ex x ρ st).out = .ex x st := rfl
@[simp] theorem SR.out_no : SR.no.out = .no := rfl
def start (F : Fn) (ds : List D) : Rho := ds.map some ++ List.replicate (F.ns - ds.length) none
/-- a program: its defs by number, its constants -/
structure Pr where
  fns : Nat → Option Fn
  glob : Nat → Option D
  W : Nat
def run (P : Pr) : Nat → Nat → List D → Store → R D
  | 0, _, _, _ => .no
  | n + 1, f, ds, st => match P.fns f with
    | some F => if ds.length = F.np then (evSs ⟨run P n, P.glob, P.W⟩ F.body (start F ds) st).out else .no
    | none => .no
end MP
end

section
set_option Elab.async false
set_option linter.all false
/-! How the small language's data and cells lie in the abstract heap. -/
namespace MP
open PySem L2
/-- where the cells lie; what is being made meanwhile -/
structure M where
  locs : List Addr
  rsv : List Addr
def S0 (s : T) : Str := ⟨s.toArray⟩
def Ro (K : PySem.W.Frag) (m : M) (H : Hp) (a : Addr) (vs : List V) : Prop :=
  (H a = some (.lst vs) ∧ a ∉ m.locs ∧ a ∉ m.rsv) ∨ (∃ o, H a = some (.frz o (.lst vs)) ∧ a ∉ m.locs) ∨
    ∃ (o : Obj) (its : Array Value) (n : Nat), K.lookup a = some o ∧ o.cls = .type "list" ∧ o.dict = none ∧ o.data = .seq its n ∧ its.size ≤ sizeLine ∧ Vals vs its.toList
def To (K : PySem.W.Frag) (m : M) (H : Hp) (a : Addr) (vs : List V) : Prop :=
  (H a = some (.tup vs) ∧ a ∉ m.locs) ∨ 
    ∃ (o : Obj) (its : Array Value) (n : Nat), K.lookup a = some o ∧ o.cls = .type "tuple" ∧ o.data = .seq its n ∧ its.size ≤ sizeLine ∧ Vals vs its.toList
mutual
inductive At (K : PySem.W.Frag) (m : M) (H : Hp) : V → D → Prop
  | non : At K m H .non .non
  | bl (b : Bool) : At K m H (.bl b) (.bl b)
  | int (i : Int) : At K m H (.int i) (.int i)
  | str (s : T) : At K m H (.str (S0 s)) (.str s)
  | tup {a : Addr} {vs : List V} {ds : List D} : To K m H a vs → Ats K m H vs ds → At K m H (.ref a) (.tup ds)
  | lst {a : Addr} {vs : List V} {ds : List D} : H a = some (.lst vs) → a ∉ m.locs → a ∉ m.rsv → Ats K m H vs ds → At K m H (.ref a) (.lst ds)
  | rol {a : Addr} {vs : List V} {ds : List D} : Ro K m H a vs → Ats K m H vs ds → At K m H (.ref a) (.rol ds)
  | loc {a : Addr} {n : Nat} : m.locs[n]? = some a → At K m H (.ref a) (.loc n)
inductive Ats (K : PySem.W.Frag) (m : M) (H : Hp) : List V → List D → Prop
  | nil : Ats K m H [] []
  | cons {v : V} {vs : List V} {d : D} {ds : List D} : At K m H v d → Ats K m H vs ds → Ats K m H (v :: vs) (d :: ds)
end
/-- no list and no dict: what is being made never is that -/
def Fxd (o : HO) : Prop := (∀ xs, o ≠ .lst xs) ∧ ∀ ks, o ≠ .dK ks
theorem fxd_tup {xs : List V} : Fxd (.tup xs) := ⟨fun _ => HO.noConfusion, fun _ => HO.noConfusion⟩
theorem fxd_frz {o : Obj} {u : HO} : Fxd (.frz o u) := ⟨fun _ => HO.noConfusion, fun _ => HO.noConfusion⟩
/-- nothing that stood is changed but the cells, and the lists and dicts that are being made -/
structure ExtW (m : M) (H : Hp) (m' : M) (H' : Hp) : Prop where
  rsv : ∀ a ∈ m.rsv, a ∈ m'.rsv
  rsf : ∀ a ∈ m'.rsv, a ∈ m.rsv ∨ H a = none
  pre : ∃ more, m'.locs = m.locs ++ more
  th : ∀ a, H a ≠ none → H' a ≠ none
  nl : ∀ a, H a ≠ none → a ∉ m.locs → a ∉ m'.locs
  kp : ∀ a o, H a = some o → a ∉ m.locs → (a ∈ m.rsv → Fxd o) → (∀ ps, o ≠ .tbl ps) → H' a = some o
/-- the same, but for what is at D -/
structure ExtD (D : Addr) (m : M) (H : Hp) (m' : M) (H' : Hp) : Prop extends ExtW m H m' H' where
  rk : ∀ a ∈ m.rsv, a ≠ D → H' a = H a
/-- nothing that stood is changed but the cells -/
structure Ext (m : M) (H : Hp) (m' : M) (H' : Hp) : Prop extends ExtW m H m' H' where
  rk : ∀ a ∈ m.rsv, H' a = H a
theorem ExtW.refl (m : M) (H : Hp) : ExtW m H m H := ⟨fun _ h => h, fun _ h => .inl h, ⟨[], by simp⟩, fun _ h => h, fun _ _ n => n, fun _ _ e _ _ _ => e⟩
theorem Ext.refl (m : M) (H : Hp) : Ext m H m H := ⟨.refl m H, fun _ _ => rfl⟩
theorem ExtD.refl (D : Addr) (m : M) (H : Hp) : ExtD D m H m H := ⟨.refl m H, fun _ _ _ => rfl⟩
theorem some_ne {H : Hp} {a : Addr} {o : HO} (e : H a = some o) : H a ≠ none := by rw [e]; simp
theorem ExtW.trans {m m1 m2 : M} {H H1 H2 : Hp} (a : ExtW m H m1 H1) (b : ExtW m1 H1 m2 H2) : ExtW m H m2 H2 := by
  refine ⟨fun x h => b.rsv x (a.rsv x h), fun x h => ?_, ?_, fun x h => b.th x (a.th x h), fun x h n => b.nl x (a.th x h) (a.nl x h n), fun x o e n r t => ?_⟩
  · rcases b.rsf x h with h | h
    · exact a.rsf x h
    · exact .inr (Classical.byContradiction fun q => a.th x q h)
  · obtain ⟨p, e⟩ := a.pre
    obtain ⟨q, e2⟩ := b.pre
    exact ⟨p ++ q, by rw [e2, e, List.append_assoc]⟩
  · refine b.kp x o (a.kp x o e n r t) (a.nl x (some_ne e) n) (fun h => ?_) t
    rcases a.rsf x h with h | h
    · exact r h
    · exact absurd h (some_ne e)
theorem Ext.trans {m m1 m2 : M} {H H1 H2 : Hp} (a : Ext m H m1 H1) (b : Ext m1 H1 m2 H2) : Ext m H m2 H2 :=
  ⟨a.toExtW.trans b.toExtW, fun x h => (b.rk x (a.rsv x h)).trans (a.rk x h)⟩
theorem ExtD.trans {D : Addr} {m m1 m2 : M} {H H1 H2 : Hp} (a : ExtD D m H m1 H1) (b : ExtD D m1 H1 m2 H2) : ExtD D m H m2 H2 :=
  ⟨a.toExtW.trans b.toExtW, fun x h n => (b.rk x (a.rsv x h) n).trans (a.rk x h n)⟩
theorem Ext.toD {m m1 : M} {H H1 : Hp} (D : Addr) (a : Ext m H m1 H1) : ExtD D m H m1 H1 := ⟨a.toExtW, fun x h _ => a.rk x h⟩
theorem ExtW.loc {m m' : M} {H H' : Hp} (x : ExtW m H m' H') {n : Nat} {a : Addr} (h : m.locs[n]? = some a) : m'.locs[n]? = some a := by
  obtain ⟨p, e⟩ := x.pre
  rw [e, List.getElem?_append_left (List.getElem?_eq_some_iff.mp h).1]
  exact h
section
variable {K : PySem.W.Frag} {m m' : M} {H H' : Hp}
theorem To.extW {a : Addr} {vs : List V} (x : ExtW m H m' H') (h : To K m H a vs) : To K m' H' a vs := by
  rcases h with ⟨h, n⟩ | h
  · exact .inl ⟨x.kp a _ h n (fun _ => fxd_tup) fun _ => HO.noConfusion, x.nl a (some_ne h) n⟩
  · exact .inr h
theorem rsv_not {a : Addr} {o : HO} (x : ExtW m H m' H') (e : H a = some o) (r : a ∉ m.rsv) : a ∉ m'.rsv := fun h => by
  rcases x.rsf a h with h | h
  · exact r h
  · exact some_ne e h
theorem Ro.extW {a : Addr} {vs : List V} (x : ExtW m H m' H') (h : Ro K m H a vs) : Ro K m' H' a vs := by
  rcases h with ⟨h, n, r⟩ | ⟨o, h, n⟩ | h
  · exact .inl ⟨x.kp a _ h n (fun q => absurd q r) fun _ => HO.noConfusion, x.nl a (some_ne h) n, rsv_not x h r⟩
  · exact .inr (.inl ⟨o, x.kp a _ h n (fun _ => fxd_frz) fun _ => HO.noConfusion, x.nl a (some_ne h) n⟩)
  · exact .inr (.inr h)
mutual
theorem At.extW (x : ExtW m H m' H') : ∀ {v : V} {d : D}, At K m H v d → At K m' H' v d
  | _, _, .non => .non
  | _, _, .bl b => .bl b
  | _, _, .int i => .int i
  | _, _, .str s => .str s
  | _, _, .tup h r => .tup (h.extW x) (r.extW x)
  | _, _, .lst h n q r => .lst (x.kp _ _ h n (fun p => absurd p q) fun _ => HO.noConfusion) (x.nl _ (some_ne h) n) (rsv_not x h q) (r.extW x)
  | _, _, .rol h r => .rol (h.extW x) (r.extW x)
  | _, _, .loc h => .loc (x.loc h)
theorem Ats.extW (x : ExtW m H m' H') : ∀ {vs : List V} {ds : List D}, Ats K m H vs ds → Ats K m' H' vs ds
  | _, _, .nil => .nil
  | _, _, .cons h r => .cons (h.extW x) (r.extW x)
end
theorem At.ext (x : Ext m H m' H') {v : V} {d : D} (h : At K m H v d) : At K m' H' v d := h.extW x.toExtW
theorem Ats.ext (x : Ext m H m' H') {v : List V} {d : List D} (h : Ats K m H v d) : Ats K m' H' v d := h.extW x.toExtW
mutual
/-- fewer lists are being made -/
theorem At.unrsv {r : List Addr} (x : ∀ a ∈ r, a ∈ m.rsv) : ∀ {v : V} {d : D}, At K m H v d → At K ⟨m.locs, r⟩ H v d
  | _, _, .non => .non
  | _, _, .bl b => .bl b
  | _, _, .int i => .int i
  | _, _, .str s => .str s
  | _, _, .tup h r => .tup h (r.unrsv x)
  | _, _, .lst h n q r => .lst h n (fun z => q (x _ z)) (r.unrsv x)
  | _, _, .rol h r => .rol (by
    rcases h with ⟨h, n, q⟩ | h | h
    · exact .inl ⟨h, n, fun z => q (x _ z)⟩
    · exact .inr (.inl h)
    · exact .inr (.inr h)) (r.unrsv x)
  | _, _, .loc h => .loc h
theorem Ats.unrsv {r : List Addr} (x : ∀ a ∈ r, a ∈ m.rsv) : ∀ {vs : List V} {ds : List D}, Ats K m H vs ds → Ats K ⟨m.locs, r⟩ H vs ds
  | _, _, .nil => .nil
  | _, _, .cons h q => .cons (h.unrsv x) (q.unrsv x)
end
theorem To.seq {a : Addr} {vs : List V} (h : To K m H a vs) : SqT K H a vs := by
  rcases h with ⟨h, _⟩ | h
  · exact .inl (.inl h)
  · exact .inr h
theorem Ro.seq {a : Addr} {vs : List V} (h : Ro K m H a vs) : SqL K H a vs := by
  rcases h with ⟨h, _⟩ | ⟨o, h, _⟩ | h
  · exact .inl (.inl h)
  · exact .inl (.inr ⟨o, h⟩)
  · exact .inr h
theorem Ats.length : ∀ {vs : List V} {ds : List D}, Ats K m H vs ds → vs.length = ds.length
  | _, _, .nil => rfl
  | _, _, .cons _ r => by rw [List.length_cons, List.length_cons, r.length]
theorem Ats.get : ∀ {vs : List V} {ds : List D}, Ats K m H vs ds → ∀ {i : Nat} {d : D}, ds[i]? = some d → ∃ v, vs[i]? = some v ∧ At K m H v d
  | _, _, .nil, _, _, e => by simp at e
  | _, _, .cons h r, 0, _, e => by
    simp at e
    subst e
    exact ⟨_, rfl, h⟩
  | _, _, .cons h r, i + 1, _, e => by
    obtain ⟨v, e1, e2⟩ := r.get (i := i) (by simpa using e)
    exact ⟨v, by simpa using e1, e2⟩
theorem Ats.getV : ∀ {vs : List V} {ds : List D}, Ats K m H vs ds → ∀ {i : Nat} {v : V}, vs[i]? = some v → ∃ d, ds[i]? = some d ∧ At K m H v d
  | _, _, .nil, _, _, e => by simp at e
  | _, _, .cons h r, 0, _, e => by
    simp at e
    subst e
    exact ⟨_, rfl, h⟩
  | _, _, .cons h r, i + 1, _, e => by
    obtain ⟨v, e1, e2⟩ := r.getV (i := i) (by simpa using e)
    exact ⟨v, by simpa using e1, e2⟩
theorem Ats.append : ∀ {vs ws : List V} {ds es : List D}, Ats K m H vs ds → Ats K m H ws es → Ats K m H (vs ++ ws) (ds ++ es)
  | _, _, _, _, .nil, s => s
  | _, _, _, _, .cons h r, s => .cons h (r.append s)
theorem Ats.drop : ∀ {vs : List V} {ds : List D} (n : Nat), Ats K m H vs ds → Ats K m H (vs.drop n) (ds.drop n)
  | _, _, 0, r => by simpa using r
  | _, _, _ + 1, .nil => by simpa using Ats.nil
  | _, _, n + 1, .cons _ r => by simpa using r.drop n
theorem Ats.take : ∀ {vs : List V} {ds : List D} (n : Nat), Ats K m H vs ds → Ats K m H (vs.take n) (ds.take n)
  | _, _, 0, _ => by simpa using Ats.nil
  | _, _, _ + 1, .nil => by simpa using Ats.nil
  | _, _, n + 1, .cons h r => by simpa using Ats.cons h (r.take n)
theorem Ats.reverse {vs : List V} {ds : List D} (r : Ats K m H vs ds) : Ats K m H vs.reverse ds.reverse := by
  induction vs generalizing ds with
  | nil => cases r; simpa using Ats.nil
  | cons v vs ih =>
    cases r with
    | cons h r =>
      rw [List.reverse_cons, List.reverse_cons]
      exact (ih r).append (.cons h .nil)
theorem Ats.set : ∀ {vs : List V} {ds : List D} {v : V} {d : D} (i : Nat), Ats K m H vs ds → At K m H v d → Ats K m H (vs.set i v) (ds.set i d)
  | _, _, _, _, _, .nil, _ => .nil
  | _, _, _, _, 0, .cons _ r, q => .cons q r
  | _, _, _, _, i + 1, .cons h r, q => .cons h (r.set i q)
theorem Ats.rep {vs : List V} {ds : List D} (r : Ats K m H vs ds) : ∀ k : Nat, Ats K m H (List.replicate k vs).flatten (List.replicate k ds).flatten
  | 0 => .nil
  | k + 1 => by
    rw [List.replicate_succ, List.replicate_succ, List.flatten_cons, List.flatten_cons]
    exact r.append (r.rep k)
theorem Ats.dropLast {vs : List V} {ds : List D} (r : Ats K m H vs ds) : Ats K m H vs.dropLast ds.dropLast := by
  rw [List.dropLast_eq_take, List.dropLast_eq_take, r.length]
  exact r.take _
theorem Ats.cut {vs : List V} {ds : List D} (r : Ats K m H vs ds) (lo hi : Option Int) : Ats K m H (cutV vs lo hi) (MP.cut ds lo hi) := by
  unfold cutV MP.cut
  rw [r.length]
  exact (r.drop _).take _
theorem Ats.ints : ∀ {vs : List V} {ds : List D} {is : List Int}, Ats K m H vs ds → intsOf ds = some is → vs = is.map V.int
  | _, [], is, .nil, e => by
    simp [intsOf] at e
    subst e
    rfl
  | _, d :: ds, is, .cons h r, e => by
    cases d <;> simp [intsOf] at e
    obtain ⟨js, e1, e2⟩ := e
    subst e2
    cases h
    rw [r.ints e1]
    rfl
theorem Ats.bools : ∀ {vs : List V} {ds : List D} {is : List Bool}, Ats K m H vs ds → boolsOf ds = some is → vs = is.map V.bl
  | _, [], is, .nil, e => by
    simp [boolsOf] at e
    subst e
    rfl
  | _, d :: ds, is, .cons h r, e => by
    cases d <;> simp [boolsOf] at e
    obtain ⟨js, e1, e2⟩ := e
    subst e2
    cases h
    rw [r.bools e1]
    rfl
theorem Ats.strs : ∀ {vs : List V} {ds : List D} {is : List T}, Ats K m H vs ds → strsOf ds = some is → vs = (is.map S0).map V.str
  | _, [], is, .nil, e => by
    simp [strsOf] at e
    subst e
    rfl
  | _, d :: ds, is, .cons h r, e => by
    cases d <;> simp [strsOf] at e
    obtain ⟨js, e1, e2⟩ := e
    subst e2
    cases h
    rw [r.strs e1]
    rfl
theorem Ats.ofInts : ∀ is : List Int, Ats K m H (is.map V.int) (is.map D.int)
  | [] => .nil
  | i :: is => .cons (.int i) (Ats.ofInts is)
theorem Ats.ofStrs : ∀ is : List T, Ats K m H ((is.map S0).map V.str) (is.map D.str)
  | [] => .nil
  | i :: is => .cons (.str i) (Ats.ofStrs is)
end
/-! ### cells -/
def kk : MP.K → Key
  | .inl i => .inl i
  | .inr s => .inr (S0 s)
inductive KAt (K : PySem.W.Frag) (m : M) (H : Hp) : List (Key × V) → List (MP.K × D) → Prop
  | nil : KAt K m H [] []
  | cons {k : MP.K} {v : V} {d : D} {r : List (Key × V)} {q : List (MP.K × D)} : At K m H v d → KAt K m H r q → KAt K m H ((kk k, v) :: r) ((k, d) :: q)
def CellAt (K : PySem.W.Frag) (m : M) (H : Hp) (a : Addr) : Cell → Prop
  | .lst ds => ∃ vs, H a = some (.lst vs) ∧ Ats K m H vs ds
  | .dct kvs => ∃ ks, H a = some (.dK ks) ∧ KAt K m H ks kvs
structure Rep (K : PySem.W.Frag) (m : M) (H : Hp) (st : Store) : Prop where
  len : m.locs.length = st.length
  nd : m.locs.Nodup
  cell : ∀ (n : Nat) (a : Addr) (c : Cell), m.locs[n]? = some a → st[n]? = some c → CellAt K m H a c
  rsv : ∀ a ∈ m.rsv, a ∉ m.locs ∧ ∃ o, H a = some o ∧ ∀ ps, o ≠ .tbl ps
structure EnvR (K : PySem.W.Frag) (m : M) (H : Hp) (σ : L2.St) (ρ : Rho) : Prop where
  len : ρ.length = σ.length
  at_ : ∀ (i : Nat) (d : D), ρ[i]? = some (some d) → ∃ v, σ[i]? = some (some v) ∧ At K m H v d
section
variable {K : PySem.W.Frag} {m m' : M} {H H' : Hp} {st : Store} {σ : L2.St} {ρ : Rho}
theorem EnvR.extW (x : ExtW m H m' H') (e : EnvR K m H σ ρ) : EnvR K m' H' σ ρ :=
  ⟨e.len, fun i d h => let ⟨v, h1, h2⟩ := e.at_ i d h; ⟨v, h1, h2.extW x⟩⟩
theorem EnvR.ext (x : Ext m H m' H') (e : EnvR K m H σ ρ) : EnvR K m' H' σ ρ := e.extW x.toExtW
theorem EnvR.set {i : Nat} {v : V} {d : D} (e : EnvR K m H σ ρ) (h : At K m H v d) : EnvR K m H (σ.set i (some v)) (ρ.set i (some d)) := by
  refine ⟨by simp [e.len], fun j x q => ?_⟩
  by_cases hj : i = j
  · subst hj
    by_cases hi : i < ρ.length
    · rw [List.getElem?_set_self hi] at q
      cases q
      exact ⟨v, List.getElem?_set_self (by rw [← e.len]; exact hi), h⟩
    · rw [List.getElem?_eq_none (by simpa using hi)] at q
      cases q
  · rw [List.getElem?_set_ne hj] at q ⊢
    exact e.at_ j x q
theorem KAt.ext (x : ExtW m H m' H') : ∀ {ks : List (Key × V)} {kvs : List (MP.K × D)}, KAt K m H ks kvs → KAt K m' H' ks kvs
  | _, _, .nil => .nil
  | _, _, .cons h r => .cons (h.extW x) (r.ext x)
theorem Rep.cellOf (r : Rep K m H st) {n : Nat} {c : Cell} (h : st[n]? = some c) : ∃ a, m.locs[n]? = some a ∧ CellAt K m H a c := by
  have hn : n < m.locs.length := by rw [r.len]; exact (List.getElem?_eq_some_iff.mp h).1
  exact ⟨m.locs[n], List.getElem?_eq_getElem hn, r.cell n _ c (List.getElem?_eq_getElem hn) h⟩
theorem CellAt.mut {a : Addr} {c : Cell} (h : CellAt K m H a c) : ∃ o, H a = some o ∧ ∀ ps, o ≠ .tbl ps := by
  cases c with
  | lst ds => obtain ⟨vs, e, _⟩ := h; exact ⟨_, e, fun _ => HO.noConfusion⟩
  | dct kvs => obtain ⟨vs, e, _⟩ := h; exact ⟨_, e, fun _ => HO.noConfusion⟩
theorem Rep.here (r : Rep K m H st) {a : Addr} (h : a ∈ m.locs) : ∃ o, H a = some o := by
  obtain ⟨n, hn, e⟩ := List.mem_iff_getElem.mp h
  have hs : n < st.length := by rw [← r.len]; exact hn
  have := r.cell n a st[n] (by rw [List.getElem?_eq_getElem hn, e]) (List.getElem?_eq_getElem hs)
  obtain ⟨o, h1, _⟩ := this.mut
  exact ⟨o, h1⟩
theorem Rep.fresh (r : Rep K m H st) {p : Addr} (h : H p = none) : p ∉ m.locs ∧ p ∉ m.rsv := by
  refine ⟨fun q => ?_, fun q => ?_⟩
  · obtain ⟨o, e⟩ := r.here q
    rw [h] at e
    cases e
  · obtain ⟨_, o, e, _⟩ := r.rsv p q
    rw [h] at e
    cases e
theorem ExtW.new {p : Addr} {o : HO} (r : Rep K m H st) (h : H p = none) : ExtW m H m (upd H p o) :=
  ⟨fun _ h => h, fun _ h => .inl h, ⟨[], by simp⟩, fun a e => by
    by_cases q : a = p
    · rw [q, upd_same]; simp
    · rw [upd_ne q]; exact e, fun _ _ n => n, fun a u e n _ _ => by rw [upd_ne (ne_of_none e h)]; exact e⟩
/-- a new object that is no cell -/
theorem Ext.new {p : Addr} {o : HO} (r : Rep K m H st) (h : H p = none) : Ext m H m (upd H p o) :=
  ⟨.new r h, fun a ha => upd_ne fun e => (r.fresh h).2 (e ▸ ha)⟩
theorem CellAt.keep {a : Addr} {c : Cell} (x : ExtW m H m' H') (ha : H' a = H a) (h : CellAt K m H a c) : CellAt K m' H' a c := by
  cases c with
  | lst ds =>
    obtain ⟨vs, e, r⟩ := h
    exact ⟨vs, by rw [ha]; exact e, r.extW x⟩
  | dct kvs =>
    obtain ⟨vs, e, r⟩ := h
    exact ⟨vs, by rw [ha]; exact e, r.ext x⟩
theorem Rep.new {p : Addr} {o : HO} (r : Rep K m H st) (h : H p = none) : Rep K m (upd H p o) st := by
  have x : ExtW m H m (upd H p o) := .new r h
  refine ⟨r.len, r.nd, fun n a c h1 h2 => ?_, fun a ha => ?_⟩
  · refine (r.cell n a c h1 h2).keep x (upd_ne fun e => ?_)
    subst e
    exact (r.fresh h).1 (List.mem_of_getElem? h1)
  · obtain ⟨n, o', e, t⟩ := r.rsv a ha
    exact ⟨n, o', by rw [upd_ne (ne_of_none e h)]; exact e, t⟩
/-- a new cell -/
def M.push (m : M) (p : Addr) : M := ⟨m.locs ++ [p], m.rsv⟩
theorem Ext.push {p : Addr} {o : HO} (r : Rep K m H st) (h : H p = none) : Ext m H (m.push p) (upd H p o) :=
  ⟨⟨fun _ h => h, fun _ h => .inl h, ⟨[p], rfl⟩, (ExtW.new (o := o) r h).th, fun a e n q => by
    rcases List.mem_append.mp q with q | q
    · exact n q
    · rw [List.mem_singleton.mp q] at e
      exact e h, fun a u e n _ _ => by rw [upd_ne (ne_of_none e h)]; exact e⟩, fun a ha => upd_ne fun e => (r.fresh h).2 (e ▸ ha)⟩
theorem Rep.push {p : Addr} {o : HO} {c : Cell} (r : Rep K m H st) (h : H p = none) (hc : CellAt K (m.push p) (upd H p o) p c) : Rep K (m.push p) (upd H p o) (st ++ [c]) := by
  have x : ExtW m H (m.push p) (upd H p o) := (Ext.push r h).toExtW
  refine ⟨by simp [M.push, r.len], ?_, fun n a c' h1 h2 => ?_, fun a ha => ?_⟩
  · refine List.nodup_append.mpr ⟨r.nd, by simp, fun a ha b hb e => ?_⟩
    rw [List.mem_singleton.mp hb] at e
    subst e
    exact (r.fresh h).1 ha
  · by_cases hn : n < st.length
    · rw [List.getElem?_append_left hn] at h2
      have h3 : m.locs[n]? = some a := by
        rw [M.push] at h1
        rw [List.getElem?_append_left (by rw [r.len]; exact hn)] at h1
        exact h1
      refine (r.cell n a c' h3 h2).keep x (upd_ne fun e => ?_)
      subst e
      exact (r.fresh h).1 (List.mem_of_getElem? h3)
    · have hn2 : n = st.length := by
        have := (List.getElem?_eq_some_iff.mp h2).1
        simp at this
        omega
      subst hn2
      rw [List.getElem?_append_right (Nat.le_refl _)] at h2
      have ha : a = p := by
        rw [M.push, List.getElem?_append_right (by rw [r.len]; exact Nat.le_refl _), r.len] at h1
        simpa using h1.symm
      subst ha
      have hc' : c' = c := by simpa using h2.symm
      rw [hc']
      exact hc
  · obtain ⟨n, o', e, t⟩ := r.rsv a ha
    refine ⟨fun q => ?_, o', by rw [upd_ne (ne_of_none e h)]; exact e, t⟩
    rcases List.mem_append.mp q with q | q
    · exact n q
    · rw [List.mem_singleton.mp q, h] at e
      cases e
/-- a cell written -/
theorem ExtW.write {n : Nat} {a : Addr} {o : HO} (ha : m.locs[n]? = some a) : ExtW m H m (upd H a o) :=
  ⟨fun _ h => h, fun _ h => .inl h, ⟨[], by simp⟩, fun b e => by
    by_cases q : b = a
    · rw [q, upd_same]; simp
    · rw [upd_ne q]; exact e, fun _ _ n => n, fun b u e q _ _ => by rw [upd_ne fun z => q (by rw [z]; exact List.mem_of_getElem? ha)]; exact e⟩
theorem Ext.write {n : Nat} {a : Addr} {o : HO} (r : Rep K m H st) (ha : m.locs[n]? = some a) : Ext m H m (upd H a o) :=
  ⟨.write ha, fun b hb => upd_ne fun e => (r.rsv b hb).1 (by rw [e]; exact List.mem_of_getElem? ha)⟩
theorem Rep.write {n : Nat} {a : Addr} {o : HO} {c : Cell} (r : Rep K m H st) (ha : m.locs[n]? = some a) (hc : CellAt K m (upd H a o) a c) : Rep K m (upd H a o) (st.set n c) := by
  have x : ExtW m H m (upd H a o) := .write ha
  refine ⟨by simp [r.len], r.nd, fun k b c' h1 h2 => ?_, fun b hb => ?_⟩
  · by_cases hk : n = k
    · subst hk
      rw [ha] at h1
      cases h1
      have hn : n < st.length := by rw [← r.len]; exact (List.getElem?_eq_some_iff.mp ha).1
      rw [List.getElem?_set_self hn] at h2
      cases h2
      exact hc
    · rw [List.getElem?_set_ne hk] at h2
      refine (r.cell k b c' h1 h2).keep x (upd_ne fun e => hk ?_)
      subst e
      obtain ⟨i1, e1⟩ := List.getElem?_eq_some_iff.mp ha
      obtain ⟨i2, e2⟩ := List.getElem?_eq_some_iff.mp h1
      exact (List.getElem_inj r.nd).mp (e1.trans e2.symm)
  · obtain ⟨q, o', e, t⟩ := r.rsv b hb
    exact ⟨q, o', by rw [upd_ne fun z => q (by rw [z]; exact List.mem_of_getElem? ha)]; exact e, t⟩
/-- the items of a sequence -/
theorem At.items {v : V} {d : D} {ds : List D} (r : Rep K m H st) (h : At K m H v d) (e : items st d = some ds) :
    ∃ a vs, v = .ref a ∧ Ats K m H vs ds ∧ (SqL K H a vs ∨ SqT K H a vs) := by
  cases h with
  | tup h1 h2 =>
    simp [MP.items] at e
    subst e
    exact ⟨_, _, rfl, h2, .inr h1.seq⟩
  | lst h1 h2 h3 h4 =>
    simp [MP.items] at e
    subst e
    exact ⟨_, _, rfl, h4, .inl (.inl (.inl h1))⟩
  | rol h1 h2 =>
    simp [MP.items] at e
    subst e
    exact ⟨_, _, rfl, h2, .inl h1.seq⟩
  | @loc a n h1 =>
    cases q : st[n]? with
    | none => simp [MP.items, q] at e
    | some c =>
      cases c with
      | dct kvs => simp [MP.items, q] at e
      | lst xs =>
        simp [MP.items, q] at e
        subst e
        obtain ⟨vs, e1, e2⟩ := r.cell n a _ h1 q
        exact ⟨a, vs, rfl, e2, .inl (.inl (.inl e1))⟩
  | _ => simp [MP.items] at e
/-- the items of a list that stands in H by itself -/
theorem At.listH {v : V} {d : D} {ds : List D} (r : Rep K m H st) (h : At K m H v d) (hl : isList d = true) (e : MP.items st d = some ds) :
    ∃ a vs, v = .ref a ∧ Ats K m H vs ds ∧ H a = some (.lst vs) := by
  cases h with
  | lst h1 h2 h3 h4 =>
    simp [MP.items] at e
    subst e
    exact ⟨_, _, rfl, h4, h1⟩
  | @loc a n h1 =>
    cases q : st[n]? with
    | none => simp [MP.items, q] at e
    | some c =>
      cases c with
      | dct kvs => simp [MP.items, q] at e
      | lst xs =>
        simp [MP.items, q] at e
        subst e
        obtain ⟨vs, e1, e2⟩ := r.cell n a _ h1 q
        exact ⟨a, vs, rfl, e2, e1⟩
  | _ => simp [isList] at hl
end
end MP
end

section
set_option Elab.async false
set_option linter.all false
set_option maxRecDepth 100000
/-! What is done with values: the small language's results are what the model gives. -/
namespace MP
open PySem L2
/-- what a result promises: Q of what came, X of an exception -/
def R.sat {α : Type} (K : PySem.W.Frag) (r : R α) (m : M) (H : Hp) (Q : α → Store → M → Hp → Prop) (X : Exn → Store → M → Hp → Prop) : Prop := match r with
  | .ok a st => ∀ m' H', Ext m H m' H' → Rep K m' H' st → Q a st m' H'
  | .ex x st => ∀ m' H', Ext m H m' H' → Rep K m' H' st → X x st m' H'
  | .no => False
section
variable {K : PySem.W.Frag} {α β : Type} {r : R α} {m m1 : M} {H H1 : Hp} {Q : α → Store → M → Hp → Prop} {X X' : Exn → Store → M → Hp → Prop} {σ : L2.St} {st : Store}
theorem R.sat.ext (h : r.sat K m H Q X) (x : Ext m H m1 H1) : r.sat K m1 H1 Q X := by
  cases r with
  | ok a st => exact fun m' H' y rp => h m' H' (x.trans y) rp
  | ex e st => exact fun m' H' y rp => h m' H' (x.trans y) rp
  | no => exact h
theorem R.sat.mono {Q' : α → Store → M → Hp → Prop} (h : r.sat K m H Q X) (hQ : ∀ a st m' H', Ext m H m' H' → Rep K m' H' st → Q a st m' H' → Q' a st m' H') : r.sat K m H Q' X := by
  cases r with
  | ok a st => exact fun m' H' y rp => hQ a st m' H' y rp (h m' H' y rp)
  | ex e st => exact h
  | no => exact h
theorem R.sat.monoX {Q' : α → Store → M → Hp → Prop} (h : r.sat K m H Q X) (hQ : ∀ a st m' H', Ext m H m' H' → Rep K m' H' st → Q a st m' H' → Q' a st m' H')
    (hX : ∀ x st m' H', Ext m H m' H' → Rep K m' H' st → X x st m' H' → X' x st m' H') : r.sat K m H Q' X' := by
  cases r with
  | ok a st => exact fun m' H' y rp => hQ a st m' H' y rp (h m' H' y rp)
  | ex e st => exact fun m' H' y rp => hX e st m' H' y rp (h m' H' y rp)
  | no => exact h
theorem sat_bd {f : α → Store → R β} {Q : β → Store → M → Hp → Prop} (h : (r.bd f).sat K m H Q X) : r.sat K m H (fun a st m1 H1 => (f a st).sat K m1 H1 Q X) X := by
  cases r with
  | ok a st => exact fun m' H' y _ => R.sat.ext h y
  | ex e st => exact h
  | no => exact h
theorem sat_ok {a : α} (h : (R.ok a st).sat K m H Q X) (rp : Rep K m H st) : Q a st m H := h m H (Ext.refl m H) rp
theorem sat_of {o : Option α} (h : (R.of o st).sat K m H Q X) : ∃ a, o = some a ∧ (R.ok a st).sat K m H Q X := by
  cases o with
  | none => exact h.elim
  | some a => exact ⟨a, rfl, h⟩
end
/-- a two-place operation by the small language's own -/
def rOp (K : PySem.W.Frag) (f : D → D → Store → R D) : R2 := fun x y H Q => ∃ m st d e X, At K m H x d ∧ At K m H y e ∧ Rep K m H st ∧ (f d e st).sat K m H (fun z _ m' H' => ∀ v, At K m' H' v z → Q v H') X
/-- the same of a result in an option -/
abbrev rOpt (K : PySem.W.Frag) (f : D → D → Store → Option D) : R2 := rOp K fun a b st => R.of (f a b st) st
theorem seq_cases {α : Type} {o : Option α} {P : α → Prop} : (∃ a, o = some a ∧ P a) → ∃ a, o = some a ∧ P a := id
section
variable {X : Cx}
/-- plain data of At -/
theorem sizeSZ : sizeLine = SZ := sizeLine_eq
mutual
def toPy : D → PyData
  | .non => .none
  | .bl b => .bool b
  | .int i => .int i
  | .str s => .str (S0 s)
  | .tup ds => .tuple (toPys ds)
  | .lst ds => .list (toPys ds)
  | _ => .none
def toPys : List D → List PyData
  | [] => []
  | d :: ds => toPy d :: toPys ds
end
theorem S0_inj {s t : T} (h : S0 s = S0 t) : s = t := by
  have := congrArg (fun x => x.cps.toList) h
  simpa [S0] using this
theorem S0_beq (s t : T) : (S0 s == S0 t) = (s == t) := by
  rw [Bool.eq_iff_iff]
  simp only [beq_iff_eq]
  exact ⟨S0_inj, fun e => by rw [e]⟩
mutual
theorem eqb_py : ∀ (a b : D) (n : Nat), a.okd n = true → b.okd n = true → PyData.eqv (toPy a) (toPy b) = a.eqb b
  | .non, b, n, _, hb => by cases b <;> simp [toPy, PyData.eqv, D.eqb, D.okd] at hb ⊢
  | .bl x, b, n, _, hb => by cases b <;> simp [toPy, PyData.eqv, D.eqb, D.okd] at hb ⊢
  | .int x, b, n, _, hb => by cases b <;> simp [toPy, PyData.eqv, D.eqb, D.okd] at hb ⊢
  | .str x, b, n, _, hb => by
    cases b <;> simp [toPy, PyData.eqv, D.eqb, D.okd] at hb ⊢
    exact S0_beq _ _
  | .tup xs, b, 0, ha, hb => by simp [D.okd] at ha
  | .tup xs, b, n + 1, ha, hb => by
    cases b <;> simp [toPy, PyData.eqv, D.eqb, D.okd] at ha hb ⊢
    exact eqbs_py _ _ n ha hb
  | .lst xs, b, 0, ha, hb => by simp [D.okd] at ha
  | .lst xs, b, n + 1, ha, hb => by
    cases b <;> simp [toPy, PyData.eqv, D.eqb, D.okd] at ha hb ⊢
    exact eqbs_py _ _ n ha hb
  | .rol xs, b, n, ha, hb => by simp [D.okd] at ha
  | .loc k, b, n, ha, hb => by simp [D.okd] at ha
theorem eqbs_py : ∀ (a b : List D) (n : Nat), D.okds a n = true → D.okds b n = true → PyData.eqvAll (toPys a) (toPys b) = D.eqbs a b
  | [], b, n, _, hb => by cases b <;> simp [toPys, PyData.eqvAll, D.eqbs]
  | x :: xs, [], n, _, _ => by simp [toPys, PyData.eqvAll, D.eqbs]
  | x :: xs, y :: ys, n, ha, hb => by
    simp only [D.okds, Bool.and_eq_true] at ha hb
    simp only [toPys, PyData.eqvAll, D.eqbs, eqb_py x y n ha.1 hb.1, eqbs_py xs ys n ha.2 hb.2]
end
mutual
theorem okd_lay : ∀ (a : D) (n : Nat), a.okd n = true → (toPy a).canLay0 = true ∧ (toPy a).depth ≤ n + 1
  | .non, n, _ => by simp [toPy, PyData.canLay0, PyData.depth]
  | .bl x, n, _ => by simp [toPy, PyData.canLay0, PyData.depth]
  | .int x, n, _ => by simp [toPy, PyData.canLay0, PyData.depth]
  | .str x, n, h => by
    simp only [toPy, PyData.canLay0, PyData.depth]
    refine ⟨?_, by omega⟩
    simp only [D.okd] at h
    simpa [PyData.strOk, S0] using h
  | .tup xs, 0, ha => by simp [D.okd] at ha
  | .tup xs, n + 1, ha => by
    obtain ⟨h1, h2⟩ := okds_lay xs n (by simpa [D.okd] using ha)
    simp only [toPy, PyData.canLay0, PyData.depth]
    exact ⟨h1, by omega⟩
  | .lst xs, 0, ha => by simp [D.okd] at ha
  | .lst xs, n + 1, ha => by
    obtain ⟨h1, h2⟩ := okds_lay xs n (by simpa [D.okd] using ha)
    simp only [toPy, PyData.canLay0, PyData.depth]
    exact ⟨h1, by omega⟩
  | .rol xs, n, ha => by simp [D.okd] at ha
  | .loc k, n, ha => by simp [D.okd] at ha
theorem okds_lay : ∀ (a : List D) (n : Nat), D.okds a n = true → PyData.canLayAll0 (toPys a) = true ∧ PyData.depthAll (toPys a) ≤ n + 1
  | [], n, _ => by simp [toPys, PyData.canLayAll0, PyData.depthAll]
  | x :: xs, n, ha => by
    simp only [D.okds, Bool.and_eq_true] at ha
    obtain ⟨h1, h2⟩ := okd_lay x n ha.1
    obtain ⟨h3, h4⟩ := okds_lay xs n ha.2
    simp only [toPys, PyData.canLayAll0, PyData.depthAll]
    exact ⟨by rw [h1, h3]; rfl, by omega⟩
end
theorem okd_shaped {a : D} (h : a.okd 60 = true) : SeqAt.shaped (toPy a) = true := by
  obtain ⟨h1, h2⟩ := okd_lay a 60 h
  unfold SeqAt.shaped
  rw [h1, decide_eq_true (by omega)]
  rfl
mutual
theorem At.dp {K : PySem.W.Frag} {m : M} {H : Hp} : ∀ {v : V} {d : D} {n : Nat}, At K m H v d → d.okd n = true → Dp K H v (toPy d)
  | _, _, _, .non, _ => .non
  | _, _, _, .bl b, _ => .bl b
  | _, _, _, .int i, _ => .int i
  | _, _, _, .str s, _ => .str _
  | _, _, 0, .tup h r, e => by simp [D.okd] at e
  | _, _, n + 1, .tup h r, e => .tup h.seq (r.dps (n := n) (by simpa [D.okd] using e))
  | _, _, 0, .lst h _ _ r, e => by simp [D.okd] at e
  | _, _, n + 1, .lst h _ _ r, e => .lst (.inl (.inl h)) (r.dps (n := n) (by simpa [D.okd] using e))
  | _, _, n, .rol h r, e => by simp [D.okd] at e
  | _, _, n, .loc h, e => by simp [D.okd] at e
theorem Ats.dps {K : PySem.W.Frag} {m : M} {H : Hp} : ∀ {vs : List V} {ds : List D} {n : Nat}, Ats K m H vs ds → D.okds ds n = true → DpAll K H vs (toPys ds)
  | _, _, _, .nil, _ => .nil
  | _, _, n, .cons h r, e => by
    simp only [D.okds, Bool.and_eq_true] at e
    exact .cons (h.dp e.1) (r.dps e.2)
end
/-- a cell's list as plain data -/
theorem At.dpR {K : PySem.W.Frag} {m : M} {H : Hp} {st : Store} {v : V} {d : D} {n : Nat} (r : Rep K m H st) (h : At K m H v d) (e : (deref st d).okd n = true) : Dp K H v (toPy (deref st d)) := by
  cases h with
  | @loc a k h1 =>
    cases q : st[k]? with
    | none => simp [deref, q, D.okd] at e
    | some c =>
      cases c with
      | dct kvs => simp [deref, q, D.okd] at e
      | lst xs =>
        obtain ⟨vs, e1, e2⟩ := r.cell k a _ h1 q
        simp only [deref, q] at e ⊢
        cases n with
        | zero => simp [D.okd] at e
        | succ n => exact .lst (.inl (.inl e1)) (e2.dps (n := n) (by simpa [D.okd] using e))
  | non => exact .non
  | bl b => exact .bl b
  | int b => exact .int b
  | str b => exact .str _
  | tup h1 h2 => exact At.dp (.tup h1 h2) e
  | lst h1 h2 h3 h4 => exact At.dp (.lst h1 h2 h3 h4) e
  | rol h1 h2 => simp [deref, D.okd] at e
theorem tuple_mul1 (l : Addr) (items : Array Value) (n : Nat) (dd : Option Addr) (sl : Array (Option Value)) (u : Tok) :
    Meets (Builtin.«tuple.__mul__» ⟨[.ref l, .int 1 u], []⟩) (fun _ R s => s.heap.get? l = some { cls := .type "tuple", dict := dd, data := .seq items n, slots := sl } ∧
      R (.ok (.ret (Value.ref l))) s) :=
  .of_wp fun prog w A R s h => by
    obtain ⟨hp, g, d, tk, os⟩ := s
    obtain ⟨hl, h⟩ := h
    have f1 := AutoSeq1.idx_int
    wp_walk using wpAny_loadPart' hl
    exact ⟨_, rfl, h⟩
/-! ### a op b -/
theorem repT1 : OpR X (binaryOp .Mult) (fun x y H Q => ∃ l xs, x = .ref l ∧ y = .int 1 ∧ SqT X.K H l xs ∧ Q (.ref l) H) := by
  intro pins s σ H x y v u Q I rx ry h
  obtain ⟨l, xs, rfl, rfl, hx, q⟩ := h
  cases rx
  obtain ⟨t, rfl⟩ := ry
  obtain ⟨its, r, ⟨⟨cls, dd, data, sl⟩, ho, hc, n, hd⟩, hs⟩ := I.tuple hx
  simp only at hc hd
  subst hc hd
  refine wpAny_binaryOp_repeat_ref (T := "tuple") (U := "int") (by decide) ⟨_, ho, rfl⟩ (fun s' => typeIs_int s' 1 t) noFill_tuple_mul F.fills_int_mul F.slot_int_rmul repeat_tuple F.slot_int_index.lookup
    (call_meets F.slot_int_rmul (typeIs_int s 1 t) F.entry_int_rmul (F.args_int_rmul_2 _ _) (int_rmul_tuple 1 t l its.toArray n dd sl)
      ⟨ho, rfl, ⟨_, ho, rfl⟩, call_meets F.slot_tuple_mul ⟨_, ho, rfl⟩ F.entry_tuple_mul (F.args_tuple_mul_2 _ _) (tuple_mul1 l its.toArray n dd sl t) ⟨ho, ?_⟩⟩)
  exact ⟨.ref l, H, I, rfl, q⟩
theorem S0_app (s t : T) : S0 s ++ S0 t = S0 (s ++ t) := by
  show (⟨s.toArray ++ t.toArray⟩ : Str) = ⟨(s ++ t).toArray⟩
  simp
theorem S0_len (s : T) : (S0 s).length = s.length := by
  show s.toArray.size = s.length
  simp
def bop : Bop → Operator
  | .add => .Add
  | .sub => .Sub
  | .mul => .Mult
  | .mod => .Mod
  | .fdiv => .FloorDiv
  | .pow => .Pow
theorem flat_len {α : Type} (k : Nat) (xs : List α) : (List.replicate k xs).flatten.length = k * xs.length := by simp
theorem op_bin (op : Bop) : OpR X (binaryOp (bop op)) (rOpt X.K (evBin op)) := by
  intro pins s σ H x y v u Q I rx ry h
  obtain ⟨m, st, d, e, Xx, hd, he, rp, hs⟩ := h
  obtain ⟨z, ez, hz⟩ := sat_of hs
  have here : ∀ v, At X.K m H v z → Q v H := sat_ok hz rp
  have lists : ∀ {xs ys : List D}, isList d = true → isList e = true → catl st d e = some z → binaryOp (bop op) = binaryOp .Add → wpAny (model X.prog X.w) X.A (binaryOp (bop op) v u) (EP X pins σ Q) X.xe s := by
    intro _ _ h1 h2 ec eb
    unfold catl at ec
    cases q1 : items st d with
    | none => rw [q1] at ec; cases items st e <;> cases ec
    | some xs =>
      cases q2 : items st e with
      | none => rw [q1, q2] at ec; cases ec
      | some ys =>
        rw [q1, q2] at ec
        simp only at ec
        split at ec
        · rename_i hl
          cases ec
          obtain ⟨a, vs, rfl, r1, e1⟩ := hd.listH rp h1 q1
          obtain ⟨b, ws, rfl, r2, e2⟩ := he.listH rp h2 q2
          rw [eb]
          refine op_cat pins s σ H _ _ v u Q I rx ry ⟨a, b, vs, ws, rfl, rfl, e1, e2, by rw [r1.length, r2.length, sizeSZ]; exact hl, fun p hp => ?_⟩
          have xx : Ext m H m (upd H p (.lst (vs ++ ws))) := Ext.new rp hp
          exact hz m _ xx (rp.new hp) _ (.lst upd_same (rp.fresh hp).1 (rp.fresh hp).2 ((r1.append r2).ext xx))
        · cases ec
  cases op with
  | add =>
    cases hd with
    | int i =>
      cases he <;> simp [evBin] at ez
      subst ez
      exact op_add pins s σ H _ _ v u Q I rx ry ⟨_, _, rfl, rfl, here _ (.int _)⟩
    | str a =>
      cases he <;> simp [evBin] at ez
      obtain ⟨hl, ez⟩ := ez
      subst ez
      refine op_add_str pins s σ H _ _ v u Q I rx ry ⟨_, _, rfl, rfl, by rw [S0_len, S0_len, sizeSZ]; exact hl, ?_⟩
      rw [S0_app]
      exact here _ (.str _)
    | @tup a vs ds h1 r1 =>
      cases he with
      | @tup b ws es h2 r2 =>
        simp [evBin] at ez
        obtain ⟨hl, ez⟩ := ez
        subst ez
        refine op_catA pins s σ H _ _ v u Q I rx ry ⟨_, _, vs, ws, rfl, rfl, h1.seq, h2.seq, by rw [r1.length, r2.length, sizeSZ]; exact hl, fun q => ?_, fun q1 q2 => ?_, fun _ _ p hp => ?_⟩
        · subst q
          cases r1
          exact here _ (.tup h2 r2)
        · subst q2
          cases r2
          exact here _ (.tup h1 (by simpa using r1))
        · have xx : Ext m H m (upd H p (.tup (vs ++ ws))) := Ext.new rp hp
          exact hz m _ xx (rp.new hp) _ (.tup (.inl ⟨upd_same, (rp.fresh hp).1⟩) ((r1.append r2).ext xx))
      | _ => simp [evBin] at ez
    | lst h1 h2 h3 r1 =>
      cases he with
      | lst k1 k2 k3 k4 => exact lists (xs := []) (ys := []) rfl rfl (by simpa [evBin] using ez) rfl
      | loc k1 => exact lists (xs := []) (ys := []) rfl rfl (by simpa [evBin] using ez) rfl
      | _ => simp [evBin] at ez
    | loc h1 =>
      cases he with
      | lst k1 k2 k3 k4 => exact lists (xs := []) (ys := []) rfl rfl (by simpa [evBin] using ez) rfl
      | loc k1 => exact lists (xs := []) (ys := []) rfl rfl (by simpa [evBin] using ez) rfl
      | _ => simp [evBin] at ez
    | _ => cases he <;> simp [evBin] at ez
  | sub =>
    cases hd <;> cases he <;> simp [evBin] at ez
    subst ez
    exact op_sub pins s σ H _ _ v u Q I rx ry ⟨_, _, rfl, rfl, here _ (.int _)⟩
  | mul =>
    cases hd with
    | int i =>
      cases he <;> simp [evBin] at ez
      obtain ⟨hl, ez⟩ := ez
      subst ez
      exact op_mulW pins s σ H _ _ v u Q I rx ry ⟨_, _, rfl, rfl, (by unfold CMulW; simpa [mulOk] using hl), here _ (.int _)⟩
    | @tup a vs ds h1 r1 =>
      cases he <;> simp [evBin] at ez
      rename_i k
      obtain ⟨⟨k1, k2, k3, k4⟩, ez⟩ := ez
      subst ez
      by_cases hk : k = 1
      · subst hk
        refine repT1 pins s σ H _ _ v u Q I rx ry ⟨_, vs, rfl, rfl, h1.seq, ?_⟩
        refine here _ (.tup h1 ?_)
        simpa using r1
      · refine op_repT pins s σ H _ _ v u Q I rx ry ⟨_, k, vs, rfl, rfl, h1.seq, fun q => k4 ?_, by omega, k2, by rw [r1.length]; exact k3, fun p hp => ?_⟩
        · subst q
          cases r1
          rfl
        · have xx : Ext m H m (upd H p (.tup (List.replicate k.toNat vs).flatten)) := Ext.new rp hp
          exact hz m _ xx (rp.new hp) _ (.tup (.inl ⟨upd_same, (rp.fresh hp).1⟩) ((r1.rep _).ext xx))
    | @lst a vs ds h1 h2 h3 r1 =>
      cases he <;> simp [evBin] at ez
      rename_i k
      obtain ⟨⟨k1, k2, k3⟩, ez⟩ := ez
      subst ez
      refine op_rep pins s σ H _ _ v u Q I rx ry ⟨_, k, vs, rfl, rfl, h1, by omega, by omega, ?_, fun p hp => ?_⟩
      · rw [r1.length, sizeSZ]
        have a1 : ds.length * k.toNat ≤ 1000 * 1000 := Nat.mul_le_mul k3 (by omega)
        show _ ≤ 16777216
        omega
      · have xx : Ext m H m (upd H p (.lst (List.replicate k.toNat vs).flatten)) := Ext.new rp hp
        exact hz m _ xx (rp.new hp) _ (.lst upd_same (rp.fresh hp).1 (rp.fresh hp).2 ((r1.rep _).ext xx))
    | _ => cases he <;> simp [evBin] at ez
  | mod =>
    cases hd <;> cases he <;> simp [evBin] at ez
    obtain ⟨hl, ez⟩ := ez
    subst ez
    exact op_mod pins s σ H _ _ v u Q I rx ry ⟨_, _, rfl, rfl, hl, here _ (.int _)⟩
  | fdiv =>
    cases hd <;> cases he <;> simp [evBin] at ez
    obtain ⟨hl, ez⟩ := ez
    subst ez
    exact op_fdivW pins s σ H _ _ v u Q I rx ry ⟨_, _, rfl, rfl, hl, here _ (.int _)⟩
  | pow =>
    cases hd <;> cases he <;> simp [evBin] at ez
    obtain ⟨⟨k1, k2, k3⟩, ez⟩ := ez
    subst ez
    exact op_pow pins s σ H _ _ v u Q I rx ry ⟨_, _, rfl, rfl, ⟨k1, by omega, by omega⟩, here _ (.int _)⟩
/-! ### comparisons -/
def cop : Cop → CmpOp
  | .eq => .Eq
  | .ne => .NotEq
  | .lt => .Lt
  | .le => .LtE
  | .gt => .Gt
  | .ge => .GtE
  | .isin => .In
  | .notin => .NotIn
theorem flat_eq {m : M} {H : Hp} {x y : V} {d e : D} (hd : At X.K m H x d) (he : At X.K m H y e) (h1 : d.flat = true) (h2 : e.flat = true) :
    (scal x y = true ∧ decide (x = y) = d.eqb e) ∨ (d.okd 60 = true ∧ e.okd 60 = true) := by
  cases hd <;> cases he <;> first
    | (simp [D.flat] at h1; done)
    | (simp [D.flat] at h2; done)
    | (simp [scal, D.eqb, D.okd]; done)
    | skip
  all_goals try
    rename_i s t
    refine .inl ⟨rfl, ?_⟩
    simp only [D.eqb]
    rw [Bool.eq_iff_iff, decide_eq_true_iff, beq_iff_eq]
    simp
    exact ⟨S0_inj, fun e => by rw [e]⟩
theorem op_eqs (hu : X.A.units + 64 < cLine) (neg : Bool) : OpR X (compareOp (if neg then .NotEq else .Eq)) (fun x y H Q => ∃ m st d e, At X.K m H x d ∧ At X.K m H y e ∧ Rep X.K m H st ∧ eqOk (deref st d) (deref st e) = true ∧ Q (.bl (if neg then !(deref st d).eqb (deref st e) else (deref st d).eqb (deref st e))) H) := by
  intro pins s σ H x y v u Q I rx ry h
  obtain ⟨m, st, d, e, hd, he, rp, hk, q⟩ := h
  have deep : (deref st d).okd 60 = true → (deref st e).okd 60 = true → wpAny (model X.prog X.w) X.A (compareOp (if neg then .NotEq else .Eq) v u) (EP X pins σ Q) X.xe s := by
    intro h1 h2
    have d1 := hd.dpR rp h1
    have d2 := he.dpR rp h2
    have eq := eqb_py _ _ 60 h1 h2
    cases neg with
    | true => exact op_neD hu pins s σ H x y v u Q I rx ry ⟨_, _, d1, d2, okd_shaped h1, okd_shaped h2, by rw [eq]; exact q⟩
    | false => exact op_eqD hu pins s σ H x y v u Q I rx ry ⟨_, _, d1, d2, okd_shaped h1, okd_shaped h2, by rw [eq]; exact q⟩
  unfold eqOk at hk
  rw [Bool.or_eq_true, Bool.and_eq_true, Bool.and_eq_true] at hk
  rcases hk with ⟨h1, h2⟩ | ⟨h1, h2⟩
  · have n1 : ∀ {z : D}, (deref st z).flat = true → deref st z = z := by
      intro z hz
      cases z with
      | loc n =>
        cases q : st[n]? with
        | none => simp [deref, q]
        | some c => cases c <;> simp [deref, q, D.flat] at hz ⊢
      | _ => rfl
    have e1 := n1 h1
    have e2 := n1 h2
    rw [e1] at h1
    rw [e2] at h2
    rcases flat_eq hd he h1 h2 with ⟨k1, k2⟩ | ⟨k1, k2⟩
    · rw [e1, e2] at q
      cases neg with
      | true => exact op_ne pins s σ H x y v u Q I rx ry ⟨k1, by rw [k2]; exact q⟩
      | false => exact op_eq pins s σ H x y v u Q I rx ry ⟨k1, by rw [k2]; exact q⟩
    · exact deep (by rw [e1]; exact k1) (by rw [e2]; exact k2)
  · exact deep h1 h2
theorem flatV_of {m : M} {H : Hp} {x : V} {d : D} (hd : At X.K m H x d) (h : d.flat = true) : flatV x = true := by
  cases hd <;> simp [D.flat, flatV] at h ⊢
theorem flatVs_of {m : M} {H : Hp} : ∀ {xs : List V} {ds : List D}, Ats X.K m H xs ds → ds.all D.flat = true → xs.all flatV = true
  | _, _, .nil, _ => rfl
  | _, _, .cons h r, e => by
    rw [List.all_cons, Bool.and_eq_true] at e ⊢
    exact ⟨flatV_of h e.1, flatVs_of r e.2⟩
theorem eqV_of {m : M} {H : Hp} {x y : V} {d e : D} (hd : At X.K m H x d) (he : At X.K m H y e) (h1 : d.flat = true) (h2 : e.flat = true) : eqV x y = d.eqb e := by
  cases hd <;> cases he <;> simp [D.flat] at h1 h2 <;> simp [eqV, D.eqb]
  exact S0_beq _ _
theorem inV_of {m : M} {H : Hp} {x : V} {d : D} (hd : At X.K m H x d) (h1 : d.flat = true) : ∀ {xs : List V} {ds : List D}, Ats X.K m H xs ds → ds.all D.flat = true → inV x xs = memb d ds
  | _, _, .nil, _ => rfl
  | _, _, .cons h r, e => by
    rw [List.all_cons, Bool.and_eq_true] at e
    have ih := inV_of hd h1 r e.2
    unfold inV memb at ih ⊢
    rw [List.any_cons, List.any_cons, eqV_of h hd e.1 h1, ih]
theorem toPys_any (d : D) (hd : d.okd 60 = true) : ∀ (ds : List D), D.okds ds 60 = true → ((toPys ds).any fun z => PyData.eqv z (toPy d)) = memb d ds
  | [], _ => rfl
  | e :: ds, h => by
    simp only [D.okds, Bool.and_eq_true] at h
    have ih := toPys_any d hd ds h.2
    unfold memb at ih ⊢
    simp only [toPys, List.any_cons]
    rw [eqb_py e d 60 h.1 hd, ih]
theorem okds_shaped {a : List D} (h : D.okds a 60 = true) : SeqAt.shaped (.list (toPys a)) = true := by
  obtain ⟨h1, h2⟩ := okds_lay a 60 h
  have h3 : (PyData.list (toPys a)).canLay0 = true := by simp only [PyData.canLay0]; exact h1
  have h4 : (PyData.list (toPys a)).depth ≤ 64 := by simp only [PyData.depth]; omega
  unfold SeqAt.shaped
  rw [h3, decide_eq_true h4]
  rfl
theorem op_ins (hu : X.A.units + 65 < cLine) (neg : Bool) : OpR X (compareOp (if neg then .NotIn else .In)) (fun x y H Q => ∃ m st d e b, At X.K m H x d ∧ At X.K m H y e ∧ Rep X.K m H st ∧ evIn d e st = some b ∧ Q (.bl (if neg then !b else b)) H) := by
  intro pins s σ H x y v u Q I rx ry h
  obtain ⟨m, st, d, e, b, hd, he, rp, hb, q⟩ := h
  have deep : ∀ ds, items st e = some ds → isList e = true → d.okd 60 = true → D.okds ds 60 = true → memb d ds = b → wpAny (model X.prog X.w) X.A (compareOp (if neg then .NotIn else .In) v u) (EP X pins σ Q) X.xe s := by
    intro ds hi hl h1 h2 hm
    obtain ⟨a, vs, rfl, r, eH⟩ := he.listH rp hl hi
    have d1 : Dp X.K H x (toPy d) := hd.dp h1
    have d2 : Dp X.K H (.ref a) (.list (toPys ds)) := .lst (.inl (.inl eH)) (r.dps h2)
    have ea := toPys_any d h1 ds h2
    rw [hm] at ea
    cases neg with
    | true => exact op_notInD hu pins s σ H _ _ v u Q I rx ry ⟨_, _, d1, d2, okd_shaped h1, okds_shaped h2, by rw [ea]; exact q⟩
    | false => exact op_inD hu pins s σ H _ _ v u Q I rx ry ⟨_, _, d1, d2, okd_shaped h1, okds_shaped h2, by rw [ea]; exact q⟩
  cases e with
  | str t =>
    cases d with
    | str c =>
      match c, hd, hb with
      | [c], hd, hb =>
        simp [evIn] at hb
        cases he
        cases hd
        have key : (S0 t).cps.toList = t := by simp [S0]
        have hc : (S0 [c]) = ⟨#[c]⟩ := rfl
        subst hb
        cases neg with
        | true =>
          refine op_notIn_sign pins s σ H _ _ v u Q I rx ry ⟨c, _, by rw [hc], rfl, ?_⟩
          rw [key]
          simpa using q
        | false =>
          refine op_in_sign pins s σ H _ _ v u Q I rx ry ⟨c, _, by rw [hc], rfl, ?_⟩
          rw [key]
          simpa using q
      | [], _, hb => simp [evIn] at hb
      | _ :: _ :: _, _, hb => simp [evIn] at hb
    | _ => simp [evIn] at hb
  | tup ds =>
    cases he with
    | tup h2 r2 =>
      simp [evIn] at hb
      obtain ⟨⟨h1, h3⟩, hb⟩ := hb
      have h3' : ds.all D.flat = true := by rw [List.all_eq_true]; exact h3
      have e1 := inV_of (X := X) hd h1 r2 h3'
      subst hb
      cases neg with
      | true => exact op_notIn_seq pins s σ H _ _ v u Q I rx ry ⟨_, _, rfl, .inr h2.seq, flatV_of hd h1, flatVs_of r2 h3', by simpa [e1] using q⟩
      | false => exact op_in_seq pins s σ H _ _ v u Q I rx ry ⟨_, _, rfl, .inr h2.seq, flatV_of hd h1, flatVs_of r2 h3', by simpa [e1] using q⟩
  | lst ds =>
    simp [evIn, items] at hb
    exact deep ds rfl rfl hb.1.1 hb.1.2 hb.2
  | loc n =>
    cases hq : items st (.loc n) with
    | none => simp [evIn, hq] at hb
    | some ds =>
      simp [evIn, hq] at hb
      exact deep ds hq rfl hb.1.1 hb.1.2 hb.2
  | _ => simp [evIn] at hb
theorem op_cmp (hu : X.A.units + 65 < cLine) (op : Cop) : OpR X (compareOp (cop op)) (fun x y H Q => ∃ m st d e b, At X.K m H x d ∧ At X.K m H y e ∧ Rep X.K m H st ∧ evCmp op d e st = some b ∧ Q (.bl b) H) := by
  intro pins s σ H x y v u Q I rx ry h
  obtain ⟨m, st, d, e, b, hd, he, rp, hb, q⟩ := h
  cases op with
  | eq =>
    simp [evCmp] at hb
    obtain ⟨hk, hb⟩ := hb
    exact op_eqs (X := X) (by omega) false pins s σ H x y v u Q I rx ry ⟨m, st, d, e, hd, he, rp, hk, by simpa [hb] using q⟩
  | ne =>
    simp [evCmp] at hb
    obtain ⟨hk, hb⟩ := hb
    exact op_eqs (X := X) (by omega) true pins s σ H x y v u Q I rx ry ⟨m, st, d, e, hd, he, rp, hk, by rw [if_pos rfl, hb, Bool.not_not]; exact q⟩
  | isin =>
    have hb : evIn d e st = some b := hb
    exact op_ins (X := X) hu false pins s σ H x y v u Q I rx ry ⟨m, st, d, e, b, hd, he, rp, hb, by simpa using q⟩
  | notin =>
    have hb : (evIn d e st).map (!·) = some b := hb
    obtain ⟨c, hc, hb⟩ := Option.map_eq_some_iff.mp hb
    exact op_ins (X := X) hu true pins s σ H x y v u Q I rx ry ⟨m, st, d, e, c, hd, he, rp, hc, by simpa [hb] using q⟩
  | lt =>
    cases hd <;> cases he <;> simp [evCmp] at hb
    exact op_lt pins s σ H _ _ v u Q I rx ry ⟨_, _, rfl, rfl, by subst hb; exact q⟩
  | le =>
    cases hd <;> cases he <;> simp [evCmp] at hb
    exact op_le pins s σ H _ _ v u Q I rx ry ⟨_, _, rfl, rfl, by subst hb; exact q⟩
  | gt =>
    cases hd <;> cases he <;> simp [evCmp] at hb
    exact op_gt pins s σ H _ _ v u Q I rx ry ⟨_, _, rfl, rfl, by subst hb; exact q⟩
  | ge =>
    cases hd <;> cases he <;> simp [evCmp] at hb
    exact op_ge pins s σ H _ _ v u Q I rx ry ⟨_, _, rfl, rfl, by subst hb; exact q⟩
/-! ### truth -/
theorem tru_of {m : M} {H : Hp} {st : Store} {v : V} {d : D} {b : Bool} (h : At X.K m H v d) (rp : Rep X.K m H st) (e : truth st d = some b) : TruV X.K v H b := by
  cases h with
  | non => simp [truth] at e; subst e; rfl
  | bl c => simp [truth] at e; subst e; rfl
  | int i => simp [truth] at e; subst e; rfl
  | str s =>
    simp [truth] at e
    obtain ⟨hl, e⟩ := e
    refine ⟨by rw [S0_len, sizeSZ]; exact hl, ?_⟩
    have e2 : b = !s.isEmpty := by rw [e, Bool.not_not]
    rw [S0_len, e2]
    cases s <;> simp
    omega
  | @tup a vs ds h1 r1 =>
    simp [truth] at e
    refine .inr (.inl ⟨vs, h1.seq, ?_⟩)
    have e2 : b = !ds.isEmpty := by rw [e, Bool.not_not]
    rw [e2]
    cases r1 <;> rfl
  | @lst a vs ds h1 h2 h3 r1 =>
    simp [truth] at e
    refine .inl ⟨vs, .inl (.inl h1), ?_⟩
    have e2 : b = !ds.isEmpty := by rw [e, Bool.not_not]
    rw [e2]
    cases r1 <;> rfl
  | rol h1 r1 => simp [truth] at e
  | @loc a n h1 =>
    cases q : st[n]? with
    | none => simp [truth, q] at e
    | some c =>
      cases c with
      | dct kvs => simp [truth, q] at e
      | lst xs =>
        simp [truth, q] at e
        obtain ⟨vs, e1, r1⟩ := rp.cell n a _ h1 q
        refine .inl ⟨vs, .inl (.inl e1), ?_⟩
        have e2 : b = !xs.isEmpty := by rw [e, Bool.not_not]
        rw [e2]
        cases r1 <;> rfl
end
end MP
end

section
set_option Elab.async false
set_option linter.all false
set_option maxRecDepth 100000
/-! What is done with values, further: subscripts, slices, built-ins, methods. -/
namespace MP
open PySem PySem.Spec PyProof.Rows L2
section
variable {X : Cx}
theorem atI_of {m : M} {H : Hp} {vs : List V} {ds : List D} {i : Int} {z : D} (r : Ats X.K m H vs ds) (e : atI ds i = some z) : ∃ v, atI vs i = some v ∧ At X.K m H v z := by
  unfold atI at e ⊢
  rw [r.length]
  cases q : ixN ds.length i with
  | none => rw [q] at e; cases e
  | some j =>
    rw [q] at e
    exact r.get e
theorem valV_of {m : M} {H : Hp} {k : MP.K} : ∀ {ks : List (Key × V)} {kvs : List (MP.K × D)}, KAt X.K m H ks kvs → ∀ {o : Option D}, (kvs.find? fun kv => decide (kv.1 = k)).map (·.2) = o →
    (∀ d, o = some d → ∃ v, valV ks (kk k) = some v ∧ At X.K m H v d) ∧ (o = none → valV ks (kk k) = none)
  | _, _, .nil, o, e => by
    simp at e
    subst e
    exact ⟨fun d h => (nomatch h), fun _ => rfl⟩
  | _, _, .cons (k := k') (v := v) (d := d) (r := r) h t, o, e => by
    by_cases hk : k' = k
    · subst hk
      simp at e
      subst e
      exact ⟨fun d' h' => ⟨v, valV_pos rfl, by cases h'; exact h⟩, fun h => nomatch h⟩
    · simp only [List.find?_cons, hk, decide_false] at e
      have hk2 : ¬ kk k' = kk k := fun q => hk (by
        cases k' <;> cases k <;> simp [kk] at q ⊢
        · exact q
        · exact S0_inj q)
      obtain ⟨a, b⟩ := valV_of t e
      exact ⟨fun d' h' => let ⟨w, e1, e2⟩ := a d' h'; ⟨w, (valV_neg hk2).trans e1, e2⟩, fun h' => (valV_neg hk2).trans (b h')⟩
theorem key_of {m : M} {H : Hp} {v : V} {d : D} {k : MP.K} (h : At X.K m H v d) (e : d.key = some k) : v = kV (kk k) := by
  cases h <;> simp [D.key] at e <;> subst e <;> rfl
theorem ix_all (hu : X.A.units + 1 < cLine) : IxR X (rOpt X.K evIdx) := by
  intro value slice pins s σ H x y v u Q I rx ry h hs
  obtain ⟨m, st, d, e, Xx, hd, he, rp, hsat⟩ := h
  obtain ⟨z, ez, hz⟩ := sat_of hsat
  have here : ∀ v, At X.K m H v z → Q v H := sat_ok hz rp
  cases hd with
  | str t =>
    cases he <;> simp [evIdx] at ez
    obtain ⟨hl, c, ec, ez⟩ := ez
    subst ez
    refine ix_str value slice pins s σ H _ _ v u Q I rx ry ⟨S0 t, _, c, rfl, rfl, by rw [S0_len, sizeSZ]; exact hl, by simpa [S0] using ec, ?_⟩ hs
    exact here _ (.str [c])
  | tup h1 r1 =>
    cases he <;> simp [evIdx] at ez
    obtain ⟨w, e1, e2⟩ := atI_of r1 ez
    exact ix_tup value slice pins s σ H _ _ v u Q I rx ry ⟨_, _, _, w, rfl, rfl, h1.seq, e1, here _ e2⟩ hs
  | lst h1 h2 h3 r1 =>
    cases he <;> simp [evIdx] at ez
    obtain ⟨w, e1, e2⟩ := atI_of r1 ez
    exact ix_list value slice pins s σ H _ _ v u Q I rx ry ⟨_, _, _, w, rfl, rfl, .inl (.inl h1), e1, here _ e2⟩ hs
  | rol h1 r1 =>
    cases he <;> simp [evIdx] at ez
    obtain ⟨w, e1, e2⟩ := atI_of r1 ez
    exact ix_list value slice pins s σ H _ _ v u Q I rx ry ⟨_, _, _, w, rfl, rfl, h1.seq, e1, here _ e2⟩ hs
  | @loc a n h1 =>
    cases q : st[n]? with
    | none => simp [evIdx, q] at ez
    | some c =>
      cases c with
      | lst xs =>
        obtain ⟨vs, e1, r1⟩ := rp.cell n a _ h1 q
        cases he <;> simp [evIdx, q] at ez
        obtain ⟨w, e2, e3⟩ := atI_of r1 ez
        exact ix_list value slice pins s σ H _ _ v u Q I rx ry ⟨_, _, _, w, rfl, rfl, .inl (.inl e1), e2, here _ e3⟩ hs
      | dct kvs =>
        obtain ⟨ks, e1, r1⟩ := rp.cell n a _ h1 q
        cases hk : e.key with
        | none => simp [evIdx, q, hk] at ez
        | some k =>
          simp only [evIdx, q, hk] at ez
          obtain ⟨w, e2, e3⟩ := (valV_of r1 ez).1 z rfl
          have g : DGet H a y (some w) := by
            rw [key_of he hk, ← e2]
            exact DGet.k e1
          cases rx
          have hT := dict_typeIs I g
          unfold subscriptTail
          refine PySem.wpAny_bind ?_
          rw [getitemInPython_of_ne hT.not_modules]
          refine wpAny_bind (wpAny_specialOf hT PySem.F.slot_dict_getitem.lookup ?_)
          have fin : wpAny (model X.prog X.w) X.A (subscripted slice false (.ref a) u) (fun r s₃ => wpAny (model X.prog X.w) X.A (letTemporaryGo value (.ref a) r >>= fun _ => pure r) (EP X pins σ Q) X.xe s₃) X.xe s := by
            rw [hs]
            exact wpAny_operating (wpAny_mono (d_getItem hu I g ry (Q := EP X pins σ Q) fun w' s3 I3 rw' => ⟨w, H, I3, rw', here _ e3⟩) (fun r s₃ h₃ => wpAny_bind (wpAny_letTemporaryGo (wpAny_pure h₃))) fun _ _ x => x)
          first
            | exact wpAny_pure (wpAny_bind fin)
            | exact wpAny_bind fin
            | exact fin
  | _ => simp [evIdx] at ez
/-! ### slices -/
theorem sl_all : SlR X (fun x lo hi H Q => ∃ m st d z, At X.K m H x d ∧ Rep X.K m H st ∧ evSl d lo hi st = some z ∧ ∀ m' H', Ext m H m' H' → Rep X.K m' H' st → ∀ v, At X.K m' H' v z → Q v H') := by
  intro pins s σ H x v vl vu lo hi sl Q I rx hs pl pu h
  obtain ⟨m, st, d, z, hd, rp, ez, hz⟩ := h
  have here : ∀ v, At X.K m H v z → Q v H := hz m H (Ext.refl m H) rp
  cases hd with
  | str t =>
    simp [evSl] at ez
    obtain ⟨hl, ez⟩ := ez
    subst ez
    refine sl_str pins s σ H _ v vl vu lo hi sl Q I rx hs pl pu ⟨S0 t, rfl, by rw [S0_len, sizeSZ]; exact hl, ?_⟩
    have e : cutS (S0 t) lo hi = S0 (cut t lo hi) := by
      unfold cutS cut S0
      simp [Str.length]
    rw [e]
    exact here _ (.str _)
  | @tup a vs ds h1 r1 =>
    simp [evSl] at ez
    subst ez
    refine sl_tupA pins s σ H _ v vl vu lo hi sl Q I rx hs pl pu ⟨_, vs, rfl, h1.seq, fun q => ?_, fun _ p hp => ?_⟩
    · refine here _ (.tup h1 ?_)
      have e : cutV vs lo hi = vs := by
        unfold cutV
        rw [q.1, q.2]
        simp
      rw [← e]
      exact r1.cut lo hi
    · have xx : Ext m H m (upd H p (.tup (cutV vs lo hi))) := Ext.new rp hp
      exact hz m _ xx (rp.new hp) _ (.tup (.inl ⟨upd_same, (rp.fresh hp).1⟩) ((r1.cut lo hi).ext xx))
  | @lst a vs ds h1 h2 h3 r1 =>
    simp [evSl] at ez
    subst ez
    refine sl_list pins s σ H _ v vl vu lo hi sl Q I rx hs pl pu ⟨_, vs, rfl, .inl (.inl h1), fun p hp => ?_⟩
    have xx : Ext m H m (upd H p (.lst (cutV vs lo hi))) := Ext.new rp hp
    exact hz m _ xx (rp.new hp) _ (.lst upd_same (rp.fresh hp).1 (rp.fresh hp).2 ((r1.cut lo hi).ext xx))
  | @loc a n h1 =>
    cases q : st[n]? with
    | none => simp [evSl, q] at ez
    | some c =>
      cases c with
      | dct kvs => simp [evSl, q] at ez
      | lst xs =>
        obtain ⟨vs, e1, r1⟩ := rp.cell n a _ h1 q
        simp [evSl, q] at ez
        subst ez
        refine sl_list pins s σ H _ v vl vu lo hi sl Q I rx hs pl pu ⟨_, vs, rfl, .inl (.inl e1), fun p hp => ?_⟩
        have xx : Ext m H m (upd H p (.lst (cutV vs lo hi))) := Ext.new rp hp
        exact hz m _ xx (rp.new hp) _ (.lst upd_same (rp.fresh hp).1 (rp.fresh hp).2 ((r1.cut lo hi).ext xx))
  | _ => simp [evSl] at ez
/-! ### isinstance -/
def tyN : Ty → String
  | .int => "int"
  | .bool => "bool"
  | .str => "str"
  | .tuple => "tuple"
  | .list => "list"
theorem kit_all (a : String) (ha : a ∈ ["NoneType", "bool", "int", "str", "tuple", "list", "dict"]) (t : Ty) : kitB a (tyN t) = some (decide (a = tyN t) || (decide (a = "bool") && decide (t = .int))) := by
  simp only [List.mem_cons, List.mem_nil_iff, or_false] at ha
  rcases ha with rfl | rfl | rfl | rfl | rfl | rfl | rfl <;> cases t <;> decide +kernel
theorem tyX_of {m : M} {H : Hp} {st : Store} {v : V} {d : D} {t : Ty} {b : Bool} (h : At X.K m H v d) (rp : Rep X.K m H st) (e : evIsi d t st = some b) :
    ∃ a, a ∈ ["NoneType", "bool", "int", "str", "tuple", "list", "dict"] ∧ TyX X.K H v (.type a) ∧ (decide (a = tyN t) || (decide (a = "bool") && decide (t = .int))) = b := by
  cases h with
  | non => simp [evIsi] at e; subst e; exact ⟨"NoneType", by simp, .base .non, by cases t <;> decide⟩
  | bl c => simp [evIsi] at e; subst e; exact ⟨"bool", by simp, .base (.bl _), by cases t <;> decide⟩
  | int i => simp [evIsi] at e; subst e; exact ⟨"int", by simp, .base (.int _), by cases t <;> decide⟩
  | str s => simp [evIsi] at e; subst e; exact ⟨"str", by simp, .base (.str _), by cases t <;> decide⟩
  | tup h1 r1 =>
    simp [evIsi] at e
    subst e
    refine ⟨"tuple", by simp, ?_, by cases t <;> decide⟩
    rcases h1 with ⟨h1, _⟩ | ⟨o, its, n, h1, h2, _⟩
    · exact .base (.tup h1)
    · exact .kTuple h1 h2
  | lst h1 h2 h3 r1 =>
    simp [evIsi] at e
    subst e
    exact ⟨"list", by simp, .base (.lst h1), by cases t <;> decide⟩
  | rol h1 r1 => simp [evIsi] at e
  | @loc a n h1 =>
    cases q : st[n]? with
    | none => simp [evIsi, q] at e
    | some c =>
      cases c with
      | dct kvs =>
        obtain ⟨ks, e1, r1⟩ := rp.cell n a _ h1 q
        simp [evIsi, q] at e
        subst e
        exact ⟨"dict", by simp, .base (.dK e1), by cases t <;> decide⟩
      | lst xs =>
        obtain ⟨vs, e1, r1⟩ := rp.cell n a _ h1 q
        simp [evIsi, q] at e
        subst e
        exact ⟨"list", by simp, .base (.lst e1), by cases t <;> decide⟩
/-! ### built-ins by name -/
def bltB : Blt → Option String
  | .len => some "len"
  | .abs => some "abs"
  | .max2 => some "max"
  | .min2 => some "min"
  | .maxl => some "max"
  | .sum => some "sum"
  | .all => some "all"
  | .any => some "any"
  | .sorted => some "sorted"
  | _ => none
def bltT : Blt → Option String
  | .int => some "int"
  | .bool => some "bool"
  | .str => some "str"
  | .tuple => some "tuple"
  | .list => some "list"
  | .listm => some "list"
  | .dict => some "dict"
  | _ => none
def bltV (b : Blt) : Value := match bltB b with
  | some n => .builtin n
  | none => match bltT b with
    | some n => .type n
    | none => .none
theorem Ats.one {K : PySem.W.Frag} {m : M} {H : Hp} {vs : List V} {d : D} (h : Ats K m H vs [d]) : ∃ v, vs = [v] ∧ At K m H v d := by
  cases h with
  | cons h r => cases r; exact ⟨_, rfl, h⟩
theorem Ats.two {K : PySem.W.Frag} {m : M} {H : Hp} {vs : List V} {d e : D} (h : Ats K m H vs [d, e]) : ∃ v w, vs = [v, w] ∧ At K m H v d ∧ At K m H w e := by
  cases h with
  | cons h r => cases r with
    | cons h2 r => cases r; exact ⟨_, _, rfl, h, h2⟩
theorem lItems_ok {m : M} {H : Hp} {st : Store} {v : V} {d : D} {ds : List D} (h : At X.K m H v d) (rp : Rep X.K m H st) (e : lItems st d = some ds) : ∃ a vs, v = .ref a ∧ Ats X.K m H vs ds ∧ H a = some (.lst vs) := by
  unfold lItems at e
  split at e
  · rename_i hl
    exact h.listH rp hl e
  · cases e
theorem digits_ok (i : Int) : (Str.ofString (toString i)) = S0 (digits i) := by
  rw [Str.ofString_eq_toList]
  rfl
theorem foldl_max (is : List Int) : ∀ (a : Int), (is.foldl max a = a ∨ is.foldl max a ∈ is) ∧ a ≤ is.foldl max a ∧ ∀ x ∈ is, x ≤ is.foldl max a := by
  induction is with
  | nil => intro a; simp
  | cons b r ih =>
    intro a
    obtain ⟨h1, h2, h3⟩ := ih (max a b)
    simp only [List.foldl_cons]
    refine ⟨?_, by omega, fun x hx => ?_⟩
    · rcases h1 with h1 | h1
      · rw [h1]
        rcases Int.le_total a b with q | q
        · right
          rw [Int.max_eq_right q]
          simp
        · left
          exact Int.max_eq_left q
      · right
        exact List.mem_cons_of_mem _ h1
    · rcases List.mem_cons.mp hx with e | e
      · subst e
        omega
      · exact h3 x e
inductive PAt (K : PySem.W.Frag) (m : M) (H : Hp) : List Addr → List (Key × V) → List (MP.K × D) → Prop
  | nil : PAt K m H [] [] []
  | cons {p : Addr} {k : MP.K} {v : V} {d : D} {ps r q} : SqT K H p [kV (kk k), v] → At K m H v d → PAt K m H ps r q → PAt K m H (p :: ps) ((kk k, v) :: r) ((k, d) :: q)
theorem pairs_ok {m : M} {H : Hp} : ∀ {vs : List V} {ds : List D} {kvs : List (MP.K × D)}, Ats X.K m H vs ds → pairsOf ds = some kvs →
    ∃ (ps : List Addr) (ks : List (Key × V)), vs = ps.map V.ref ∧ PAt X.K m H ps ks kvs
  | _, [], kvs, .nil, e => by
    simp [pairsOf] at e
    subst e
    exact ⟨[], [], rfl, .nil⟩
  | _, d :: ds, kvs, .cons h r, e => by
    match d, h, e with
    | .tup [a, b], h, e =>
      simp only [pairsOf] at e
      cases q1 : a.key with
      | none => simp [q1] at e
      | some k =>
        cases q2 : pairsOf ds with
        | none => simp [q1, q2] at e
        | some q =>
          simp [q1, q2] at e
          subst e
          cases h with
          | tup h1 r1 =>
            obtain ⟨v, w, rfl, hv, hw⟩ := r1.two
            obtain ⟨ps, ks, e1, e2⟩ := pairs_ok r q2
            subst e1
            refine ⟨_ :: ps, (kk k, w) :: ks, rfl, .cons ?_ hw e2⟩
            rw [← key_of hv q1]
            exact h1.seq
    | .tup [], _, e => simp [pairsOf] at e
    | .tup [_], _, e => simp [pairsOf] at e
    | .tup (_ :: _ :: _ :: _), _, e => simp [pairsOf] at e
    | .non, _, e => simp [pairsOf] at e
    | .bl _, _, e => simp [pairsOf] at e
    | .int _, _, e => simp [pairsOf] at e
    | .str _, _, e => simp [pairsOf] at e
    | .lst _, _, e => simp [pairsOf] at e
    | .rol _, _, e => simp [pairsOf] at e
    | .loc _, _, e => simp [pairsOf] at e
theorem PAt.paired {K : PySem.W.Frag} {m : M} {H : Hp} : ∀ {ps : List Addr} {ks : List (Key × V)} {kvs : List (MP.K × D)}, PAt K m H ps ks kvs → Paired (fun p (kv : Key × V) => SqT K H p [kV kv.1, kv.2]) ps ks ∧ KAt K m H ks kvs
  | _, _, _, .nil => ⟨.nil, .nil⟩
  | _, _, _, .cons h1 h2 r => ⟨.cons h1 r.paired.1, .cons h2 r.paired.2⟩
theorem kk_inj {a b : MP.K} (h : kk a = kk b) : a = b := by
  cases a <;> cases b <;> simp [kk] at h ⊢
  · exact h
  · exact S0_inj h
theorem KAt.any {K : PySem.W.Frag} {m : M} {H : Hp} (k : MP.K) : ∀ {ks : List (Key × V)} {kvs : List (MP.K × D)}, KAt K m H ks kvs → (ks.any fun kv => decide (kv.1 = kk k)) = kvs.any fun kv => decide (kv.1 = k)
  | _, _, .nil => rfl
  | _, _, .cons (k := k') h r => by
    rw [List.any_cons, List.any_cons, KAt.any k r]
    congr 1
    by_cases e : k' = k
    · subst e
      simp
    · rw [decide_eq_false e, decide_eq_false fun q => e (kk_inj q)]
theorem KAt.repl {K : PySem.W.Frag} {m : M} {H : Hp} (k : MP.K) {v : V} {d : D} (hv : At K m H v d) : ∀ {ks : List (Key × V)} {kvs : List (MP.K × D)}, KAt K m H ks kvs →
    KAt K m H (ks.map fun kv => if kv.1 = kk k then (kv.1, v) else kv) (kvs.map fun kv => if kv.1 = k then (kv.1, d) else kv)
  | _, _, .nil => .nil
  | _, _, .cons (k := k') h r => by
    rw [List.map_cons, List.map_cons]
    by_cases e : k' = k
    · subst e
      simp only [if_true]
      exact .cons hv (KAt.repl _ hv r)
    · rw [if_neg (fun q => e (kk_inj q)), if_neg e]
      exact .cons h (KAt.repl k hv r)
theorem KAt.app {K : PySem.W.Frag} {m : M} {H : Hp} : ∀ {ks ls : List (Key × V)} {kvs lvs : List (MP.K × D)}, KAt K m H ks kvs → KAt K m H ls lvs → KAt K m H (ks ++ ls) (kvs ++ lvs)
  | _, _, _, _, .nil, s => s
  | _, _, _, _, .cons h r, s => .cons h (r.app s)
theorem KAt.put {K : PySem.W.Frag} {m : M} {H : Hp} {ks : List (Key × V)} {kvs : List (MP.K × D)} {k : MP.K} {v : V} {d : D} (r : KAt K m H ks kvs) (hv : At K m H v d) : KAt K m H (L2.putK ks (kk k) v) (MP.putK kvs k d) := by
  unfold L2.putK MP.putK
  rw [r.any k]
  by_cases e : (kvs.any fun kv => decide (kv.1 = k)) = true
  · rw [if_pos e, if_pos e]
    exact r.repl k hv
  · rw [if_neg e, if_neg e]
    exact r.app (.cons hv .nil)
theorem KAt.merge {K : PySem.W.Frag} {m : M} {H : Hp} {more : List (Key × V)} {mvs : List (MP.K × D)} (h : KAt K m H more mvs) : ∀ {ks : List (Key × V)} {kvs : List (MP.K × D)}, KAt K m H ks kvs → KAt K m H (L2.mergeK ks more) (MP.mergeK kvs mvs) := by
  induction h with
  | nil => exact fun s => s
  | cons h r ih => exact fun s => ih (s.put h)
theorem KAt.length {K : PySem.W.Frag} {m : M} {H : Hp} : ∀ {ks : List (Key × V)} {kvs : List (MP.K × D)}, KAt K m H ks kvs → ks.length = kvs.length
  | _, _, .nil => rfl
  | _, _, .cons _ r => by rw [List.length_cons, List.length_cons, r.length]
/-! ### sorted texts -/
theorem insT_perm (x : T) : ∀ l : List T, (insT x l).Perm (x :: l)
  | [] => .refl _
  | y :: r => by
    unfold insT
    split
    · exact .refl _
    · exact ((insT_perm x r).cons y).trans (.swap x y r)
theorem sortT_perm : ∀ l : List T, (sortT l).Perm l
  | [] => .refl _
  | x :: r => (insT_perm x (sortT r)).trans ((sortT_perm r).cons x)
theorem insT_pw (x : T) : ∀ {l : List T}, l.Pairwise (· ≤ ·) → (insT x l).Pairwise (· ≤ ·)
  | [], _ => by simp [insT]
  | y :: r, h => by
    have h1 := List.pairwise_cons.mp h
    unfold insT
    split
    · rename_i c
      refine List.pairwise_cons.mpr ⟨fun z hz => ?_, h⟩
      rcases List.mem_cons.mp hz with e | e
      · rw [e]; exact c
      · exact List.le_trans c (h1.1 z e)
    · rename_i c
      have hyx : y ≤ x := (List.le_total x y).resolve_left c
      refine List.pairwise_cons.mpr ⟨fun z hz => ?_, insT_pw x h1.2⟩
      rcases List.mem_cons.mp ((insT_perm x r).mem_iff.mp hz) with e | e
      · rw [e]; exact hyx
      · exact h1.1 z e
theorem sortT_pw : ∀ l : List T, (sortT l).Pairwise (· ≤ ·)
  | [] => .nil
  | x :: r => insT_pw x (sortT_pw r)
theorem rising_pw : ∀ (r : List Str) (p : Str), risingS p r = true → ((p :: r).map fun y => y.cps.toList).Pairwise (· ≤ ·)
  | [], p, _ => by simp
  | x :: r, p, h => by
    simp only [risingS, Bool.and_eq_true, Bool.not_eq_true'] at h
    have ih := rising_pw r x h.2
    have hpx : p.cps.toList ≤ x.cps.toList := by
      rw [ltCps_eq, decide_eq_false_iff_not] at h
      exact List.not_lt.mp h.1
    have i1 := List.pairwise_cons.mp (show (x.cps.toList :: r.map fun y => y.cps.toList).Pairwise (· ≤ ·) from ih)
    rw [List.map_cons]
    refine List.pairwise_cons.mpr ⟨fun z hz => ?_, ih⟩
    rw [List.map_cons] at hz
    rcases List.mem_cons.mp hz with e | e
    · rw [e]; exact hpx
    · exact List.le_trans hpx (i1.1 z e)
theorem sorted_same {ts : List T} {ys : List Str} (hp : ys.Perm (ts.map S0)) (hs : sortedS ys = true) : ys = (sortT ts).map S0 := by
  have pw : (ys.map fun y => y.cps.toList).Pairwise (· ≤ ·) := by
    cases ys with
    | nil => exact .nil
    | cons x r => exact rising_pw r x hs
  have hm : (ts.map S0).map (fun y => y.cps.toList) = ts := by
    rw [List.map_map]
    exact List.map_id'' (fun _ => rfl) _
  have pp : (ys.map fun y => y.cps.toList).Perm (sortT ts) := by
    have := hp.map fun y => y.cps.toList
    rw [hm] at this
    exact this.trans (sortT_perm ts).symm
  have e := List.Perm.eq_of_pairwise (le := (· ≤ ·)) (fun a b _ _ h1 h2 => List.le_antisymm h1 h2) pw (sortT_pw ts) pp
  rw [← e, List.map_map]
  refine (List.map_id'' (fun y => ?_) _).symm
  cases y
  simp [S0]
theorem call_blt (hc : X.calm = true) (b : Blt) (hb : (bltB b).isSome = true ∨ (bltT b).isSome = true) : CallR X (bltV b) (fun xs H Q => ∃ m st ds Xx, Ats X.K m H xs ds ∧ Rep X.K m H st ∧ (evBlt b ds st).sat X.K m H (fun z _ m' H' => ∀ v, At X.K m' H' v z → Q v H') Xx) := by
  intro pins s σ H xs us Q I r h
  obtain ⟨m, st, ds, Xx, hd, rp, hs⟩ := h
  have here : ∀ {z}, evBlt b ds st = .ok z st → ∀ v, At X.K m H v z → Q v H := fun {z} e => by
    rw [e] at hs
    exact sat_ok hs rp
  have there : ∀ {z st'}, evBlt b ds st = .ok z st' → ∀ m' H', Ext m H m' H' → Rep X.K m' H' st' → ∀ v, At X.K m' H' v z → Q v H' := fun {z st'} e => by
    rw [e] at hs
    exact hs
  have dead : evBlt b ds st = .no → wpAny (model X.prog X.w) X.A (call (bltV b) us) (EP X pins σ Q) X.xe s := fun e => by
    rw [e] at hs
    exact hs.elim
  have deadA : ∀ {α : Type} {o : Option α} {f : α → D}, evBlt b ds st = R.of (o.map f) st → (∀ a, o = some a → wpAny (model X.prog X.w) X.A (call (bltV b) us) (EP X pins σ Q) X.xe s) → wpAny (model X.prog X.w) X.A (call (bltV b) us) (EP X pins σ Q) X.xe s := fun {α o f} e k => by
    cases o with
    | none => exact dead e
    | some a => exact k a rfl
  match b, ds, hd with
  | .len, [d], hd =>
    obtain ⟨v, rfl, hv⟩ := hd.one
    by_cases hstr : ∃ t, d = .str t
    · obtain ⟨t, rfl⟩ := hstr
      by_cases hl : t.length ≤ SZ
      · cases hv
        refine call_len pins s σ H _ us Q I r ⟨_, t.length, rfl, ⟨by rw [S0_len, sizeSZ]; exact hl, (S0_len t).symm⟩, ?_⟩
        exact here (by simp [evBlt, hl]) _ (.int _)
      · exact dead (by simp [evBlt, hl])
    · have e0 : evBlt .len [d] st = R.of ((items st d).map fun xs => .int xs.length) st := by
        cases d <;> first | rfl | exact absurd ⟨_, rfl⟩ hstr
      refine deadA e0 fun xs ex => ?_
      obtain ⟨a, vs, rfl, r1, q⟩ := hv.items rp ex
      refine call_len pins s σ H _ us Q I r ⟨_, vs.length, rfl, ?_, ?_⟩
      · rcases q with q | q
        · exact .inl ⟨vs, q, rfl⟩
        · exact .inr ⟨vs, q, rfl⟩
      · rw [r1.length]
        exact here (by rw [e0, ex]; rfl) _ (.int _)
  | .abs, [d], hd =>
    obtain ⟨v, rfl, hv⟩ := hd.one
    cases hv with
    | int i => exact call_abs pins s σ H _ us Q I r ⟨i, rfl, here rfl _ (.int _)⟩
    | _ => exact dead rfl
  | .max2, [d, e], hd =>
    obtain ⟨v, w, rfl, hv, hw⟩ := hd.two
    cases hv with
    | int i =>
      cases hw with
      | int j => exact call_max2 hc pins s σ H _ us Q I r ⟨i, j, rfl, here rfl _ (.int _)⟩
      | _ => exact dead rfl
    | _ => exact dead rfl
  | .min2, [d, e], hd =>
    obtain ⟨v, w, rfl, hv, hw⟩ := hd.two
    cases hv with
    | int i =>
      cases hw with
      | int j => exact call_min2 hc pins s σ H _ us Q I r ⟨i, j, rfl, here rfl _ (.int _)⟩
      | _ => exact dead rfl
    | _ => exact dead rfl
  | .maxl, [d], hd =>
    obtain ⟨v, rfl, hv⟩ := hd.one
    cases q1 : lItems st d with
    | none => exact dead (by simp [evBlt, q1])
    | some xs =>
      cases q2 : intsOf xs with
      | none => exact dead (by simp [evBlt, q1, q2])
      | some is =>
        cases is with
        | nil => exact dead (by simp [evBlt, q1, q2])
        | cons i is =>
          obtain ⟨a, vs, rfl, r1, e1⟩ := lItems_ok hv rp q1
          have ev := r1.ints q2
          subst ev
          refine cr_max hc pins s σ H _ us Q I r ⟨a, i :: is, rfl, .inl (.inl e1), by simp, fun M hM hle => ?_⟩
          have hmx := foldl_max is i
          have eM : M = is.foldl max i := by
            have k1 : is.foldl max i ≤ M := by
              rcases hmx.1 with k | k
              · rw [k]
                exact hle _ (by simp)
              · exact hle _ (List.mem_cons_of_mem _ k)
            have k2 : M ≤ is.foldl max i := by
              rcases List.mem_cons.mp hM with k | k
              · rw [k]
                exact hmx.2.1
              · exact hmx.2.2 _ k
            omega
          rw [eM]
          exact here (by simp [evBlt, q1, q2]) _ (.int _)
  | .int, [d], hd =>
    obtain ⟨v, rfl, hv⟩ := hd.one
    cases hv with
    | int i => exact call_int1 pins s σ H _ us Q I r (.inl ⟨i, rfl, here rfl _ (.int _)⟩)
    | bl c => exact call_int1 pins s σ H _ us Q I r (.inr ⟨c, rfl, here rfl _ (.int _)⟩)
    | _ => exact dead rfl
  | .bool, [d], hd =>
    obtain ⟨v, rfl, hv⟩ := hd.one
    cases hv with
    | int i => exact call_bool1 pins s σ H _ us Q I r (.inl ⟨i, rfl, here rfl _ (.bl _)⟩)
    | bl c => exact call_bool1 pins s σ H _ us Q I r (.inr ⟨c, rfl, here rfl _ (.bl _)⟩)
    | _ => exact dead rfl
  | .str, [d], hd =>
    obtain ⟨v, rfl, hv⟩ := hd.one
    cases hv with
    | int i =>
      by_cases hl : i.natAbs.log2 < 1920
      · refine call_str_int pins s σ H _ us Q I r ⟨i, rfl, hl, ?_⟩
        have := here (z := .str (digits i)) (by simp [evBlt, hl]) _ (.str _)
        rw [← digits_ok] at this
        exact this
      · exact dead (by simp [evBlt, hl])
    | str t => exact SkE.call_str_str pins s σ H _ us Q I r ⟨_, rfl, here rfl _ (.str _)⟩
    | _ => exact dead rfl
  | .sum, [d], hd =>
    obtain ⟨v, rfl, hv⟩ := hd.one
    refine deadA (o := (lItems st d).bind intsOf) (f := fun is => .int is.sum) rfl fun is e => ?_
    obtain ⟨xs, q1, q2⟩ := Option.bind_eq_some_iff.mp e
    obtain ⟨a, vs, rfl, r1, e1⟩ := lItems_ok hv rp q1
    have ev := r1.ints q2
    subst ev
    exact cr_sum hc pins s σ H _ us Q I r ⟨a, is, rfl, .inl (.inl e1), here (by simp [evBlt, q1, q2]) _ (.int _)⟩
  | .all, [d], hd =>
    obtain ⟨v, rfl, hv⟩ := hd.one
    refine deadA (o := (lItems st d).bind boolsOf) (f := fun is => .bl (is.all id)) rfl fun is e => ?_
    obtain ⟨xs, q1, q2⟩ := Option.bind_eq_some_iff.mp e
    obtain ⟨a, vs, rfl, r1, e1⟩ := lItems_ok hv rp q1
    have ev := r1.bools q2
    subst ev
    exact cr_all hc pins s σ H _ us Q I r ⟨a, is, rfl, .inl (.inl e1), here (by simp [evBlt, q1, q2]) _ (.bl _)⟩
  | .any, [d], hd =>
    obtain ⟨v, rfl, hv⟩ := hd.one
    refine deadA (o := (lItems st d).bind boolsOf) (f := fun is => .bl (is.any id)) rfl fun is e => ?_
    obtain ⟨xs, q1, q2⟩ := Option.bind_eq_some_iff.mp e
    obtain ⟨a, vs, rfl, r1, e1⟩ := lItems_ok hv rp q1
    have ev := r1.bools q2
    subst ev
    exact cr_any hc pins s σ H _ us Q I r ⟨a, is, rfl, .inl (.inl e1), here (by simp [evBlt, q1, q2]) _ (.bl _)⟩
  | .tuple, [d], hd =>
    obtain ⟨v, rfl, hv⟩ := hd.one
    by_cases ht : ∃ ds, d = .tup ds
    · obtain ⟨ds, rfl⟩ := ht
      cases hv with
      | tup h1 r1 => exact call_tupleT pins s σ H _ us Q I r ⟨_, _, rfl, h1.seq, here rfl _ (.tup h1 r1)⟩
    · have e0 : evBlt .tuple [d] st = R.of ((lItems st d).map .tup) st := by
        cases d <;> first | rfl | exact absurd ⟨_, rfl⟩ ht
      refine deadA e0 fun xs ex => ?_
      obtain ⟨a, vs, rfl, r1, e1⟩ := lItems_ok hv rp ex
      refine call_tuple_of pins s σ H _ us Q I r ⟨a, vs, rfl, .inl ⟨.inl (.inl e1), fun p hp => ?_⟩⟩
      have xx : Ext m H m (upd H p (.tup vs)) := Ext.new rp hp
      exact there (z := .tup xs) (by rw [e0, ex]; rfl) m _ xx (rp.new hp) _ (.tup (.inl ⟨upd_same, (rp.fresh hp).1⟩) (r1.ext xx))
  | .list, [d], hd =>
    obtain ⟨v, rfl, hv⟩ := hd.one
    refine deadA (o := items st d) (f := .lst) rfl fun xs ex => ?_
    obtain ⟨a, vs, rfl, r1, q⟩ := hv.items rp ex
    refine call_list_of pins s σ H _ us Q I r ⟨a, vs, rfl, q, fun p hp => ?_⟩
    have xx : Ext m H m (upd H p (.lst vs)) := Ext.new rp hp
    exact there (z := .lst xs) (by simp [evBlt, ex]) m _ xx (rp.new hp) _ (.lst upd_same (rp.fresh hp).1 (rp.fresh hp).2 (r1.ext xx))
  | .listm, [d], hd =>
    obtain ⟨v, rfl, hv⟩ := hd.one
    cases ex : items st d with
    | none => exact dead (by simp [evBlt, ex])
    | some xs =>
      obtain ⟨a, vs, rfl, r1, q⟩ := hv.items rp ex
      refine call_list_of pins s σ H _ us Q I r ⟨a, vs, rfl, q, fun p hp => ?_⟩
      have xx : Ext m H (m.push p) (upd H p (.lst vs)) := Ext.push rp hp
      refine there (z := .loc st.length) (st' := st ++ [.lst xs]) (by simp [evBlt, ex]) _ _ xx (rp.push (c := .lst xs) hp ⟨vs, upd_same, r1.ext xx⟩) _ (.loc ?_)
      rw [M.push, List.getElem?_append_right (by rw [rp.len]; exact Nat.le_refl _), rp.len]
      simp
  | .dict, [d], hd =>
    obtain ⟨v, rfl, hv⟩ := hd.one
    cases q1 : lItems st d with
    | none => exact dead (by simp [evBlt, q1])
    | some xs =>
      cases q2 : pairsOf xs with
      | none => exact dead (by simp [evBlt, q1, q2])
      | some kvs =>
        obtain ⟨a, vs, rfl, r1, e1⟩ := lItems_ok hv rp q1
        obtain ⟨ps, ks, ev, pt⟩ := pairs_ok r1 q2
        subst ev
        obtain ⟨p1, p2⟩ := pt.paired
        refine call_dictP hc pins s σ H _ us Q I r ⟨a, ps, ks, rfl, .inl (.inl e1), p1, fun p hp => ?_⟩
        have xx : Ext m H (m.push p) (upd H p (.dK (L2.mergeK [] ks))) := Ext.push rp hp
        refine there (z := .loc st.length) (st' := st ++ [.dct (MP.mergeK [] kvs)]) (by simp [evBlt, q1, q2]) _ _ xx (rp.push (c := .dct (MP.mergeK [] kvs)) hp ⟨_, upd_same, (KAt.merge p2 .nil).ext xx.toExtW⟩) _ (.loc ?_)
        rw [M.push, List.getElem?_append_right (by rw [rp.len]; exact Nat.le_refl _), rp.len]
        simp
  | .sorted, [d], hd =>
    obtain ⟨v, rfl, hv⟩ := hd.one
    cases q : (lItems st d).bind strsOf with
    | none => exact dead (by simp [evBlt, q])
    | some ts =>
      by_cases hl : ts.length < 64
      · obtain ⟨xs, q1, q2⟩ := Option.bind_eq_some_iff.mp q
        obtain ⟨a, vs, rfl, r1, e1⟩ := lItems_ok hv rp q1
        have ev := r1.strs q2
        subst ev
        refine cr_sortedS pins s σ H _ us Q I r ⟨a, ts.map S0, rfl, .inl (.inl e1), by simpa using hl, fun ys p hp hs hn => ?_⟩
        have ey := sorted_same hp hs
        subst ey
        have xx : Ext m H m (upd H p (.lst (((sortT ts).map S0).map V.str))) := Ext.new rp hn
        exact there (z := .lst ((sortT ts).map .str)) (by simp [evBlt, q, hl]) m _ xx (rp.new hn) _ (.lst upd_same (rp.fresh hn).1 (rp.fresh hn).2 (.ofStrs _))
      · exact dead (by simp [evBlt, q, hl])
  | .sorted, [], _ => exact dead rfl
  | .sorted, _ :: _ :: _, _ => exact dead rfl
  | .len, [], _ => exact dead rfl
  | .len, _ :: _ :: _, _ => exact dead (by simp [evBlt])
  | .abs, [], _ => exact dead rfl
  | .abs, _ :: _ :: _, _ => exact dead (by simp [evBlt])
  | .max2, [], _ => exact dead rfl
  | .max2, [_], _ => exact dead (by simp [evBlt])
  | .max2, _ :: _ :: _ :: _, _ => exact dead (by simp [evBlt])
  | .min2, [], _ => exact dead rfl
  | .min2, [_], _ => exact dead (by simp [evBlt])
  | .min2, _ :: _ :: _ :: _, _ => exact dead (by simp [evBlt])
  | .maxl, [], _ => exact dead rfl
  | .maxl, _ :: _ :: _, _ => exact dead rfl
  | .int, [], _ => exact dead rfl
  | .int, _ :: _ :: _, _ => exact dead (by simp [evBlt])
  | .bool, [], _ => exact dead rfl
  | .bool, _ :: _ :: _, _ => exact dead (by simp [evBlt])
  | .str, [], _ => exact dead rfl
  | .str, _ :: _ :: _, _ => exact dead (by simp [evBlt])
  | .sum, [], _ => exact dead rfl
  | .sum, _ :: _ :: _, _ => exact dead rfl
  | .all, [], _ => exact dead rfl
  | .all, _ :: _ :: _, _ => exact dead rfl
  | .any, [], _ => exact dead rfl
  | .any, _ :: _ :: _, _ => exact dead rfl
  | .tuple, [], _ => exact dead rfl
  | .tuple, _ :: _ :: _, _ => exact dead (by simp [evBlt])
  | .list, [], _ => exact dead rfl
  | .list, _ :: _ :: _, _ => exact dead rfl
  | .listm, [], _ => exact dead rfl
  | .listm, _ :: _ :: _, _ => exact dead rfl
  | .dict, [], _ => exact dead rfl
  | .dict, _ :: _ :: _, _ => exact dead rfl
end
end MP
end

section
set_option Elab.async false
set_option linter.all false
set_option maxRecDepth 100000
/-! What is done with values, further: methods, stores. -/
namespace MP
open PySem PySem.Spec PyProof.Rows L2
section
variable {X : Cx}
/-- a method by the small language's own -/
def rM (K : PySem.W.Frag) (k : Mth) : V → List V → Hp → VK → Prop := fun x vs H Q => ∃ m st d ds Xx, At K m H x d ∧ Ats K m H vs ds ∧ Rep K m H st ∧ (evMth k d ds st).sat K m H (fun z _ m' H' => ∀ v, At K m' H' v z → Q v H') Xx
theorem spl_splitT (c : Nat) : ∀ (s : T) (acc : T), TL.spl [c] 0 acc s = match splitT c s with
    | w :: ws => (acc ++ w) :: ws
    | [] => []
  | [], acc => by simp [TL.spl, splitT]
  | a :: r, acc => by
    have ih := spl_splitT c r
    by_cases e : a = c
    · subst e
      have h1 : TL.spl [a] 0 acc (a :: r) = acc :: TL.spl [a] 0 [] r := TL.spl_hit (by simp [TL.pre])
      rw [h1, ih []]
      simp only [splitT, if_true]
      cases q : splitT a r with
      | nil => 
        exfalso
        cases r with
        | nil => simp [splitT] at q
        | cons b r =>
          simp only [splitT] at q
          split at q
          · cases q
          · split at q <;> cases q
      | cons w ws => simp
    · have h1 : TL.spl [c] 0 acc (a :: r) = TL.spl [c] 0 (acc ++ [a]) r := by
        show (if TL.pre [c] (a :: r) = true then _ else _) = _
        rw [if_neg (by simp [TL.pre]; exact fun q => e q)]
      rw [h1, ih]
      simp only [splitT, if_neg e]
      cases q : splitT c r with
      | nil => 
        exfalso
        cases r with
        | nil => simp [splitT] at q
        | cons b r =>
          simp only [splitT] at q
          split at q
          · cases q
          · split at q <;> cases q
      | cons w ws => simp
theorem splitT_ne (c : Nat) (s : T) : splitT c s ≠ [] := by
  cases s with
  | nil => simp [splitT]
  | cons b r =>
    simp only [splitT]
    split
    · simp
    · split <;> simp
theorem map_tl_inj : ∀ {xs ys : List Str}, xs.map TL.tl = ys.map TL.tl → xs = ys
  | [], [], _ => rfl
  | [], _ :: _, h => by simp at h
  | _ :: _, [], h => by simp at h
  | x :: xs, y :: ys, h => by
    simp only [List.map_cons, List.cons.injEq] at h
    obtain ⟨⟨x⟩⟩ := x
    obtain ⟨⟨y⟩⟩ := y
    have h1 : x = y := by simpa using h.1
    rw [h1, map_tl_inj h.2]
theorem split_ok (s : T) (c : Nat) (hc : c < 256) : Txt.split (S0 s) (S0 [c]) = (splitT c s).map S0 := by
  refine map_tl_inj ?_
  rw [TL.split_spl (S0 s) (S0 [c]) (by simp [S0]) (TL.kind_ok (by simp [S0, hc]))]
  have e1 : TL.tl (S0 [c]) = [c] := by simp [S0]
  have e2 : TL.tl (S0 s) = s := by simp [S0]
  rw [e1, e2, spl_splitT]
  cases q : splitT c s with
  | nil => exact absurd q (splitT_ne c s)
  | cons w ws =>
    simp [S0]
    have : (TL.tl ∘ S0) = id := by
      funext x
      simp [S0]
    rw [this]
    simp
theorem join_ok (sep : T) : ∀ xs : List T, Str.join (S0 sep) (xs.map S0) = S0 (joinT sep xs)
  | [] => rfl
  | [x] => rfl
  | x :: y :: r => by
    have ih := join_ok sep (y :: r)
    show S0 x ++ S0 sep ++ Str.join (S0 sep) ((y :: r).map S0) = _
    rw [ih, S0_app, S0_app]
    rfl
theorem idx_abcd (c j : Nat) (h : ([97, 98, 99, 100] : T).findIdx? (· == c) = some j) : Txt.index0 (S0 [97, 98, 99, 100]) (S0 [c]) = some j := by
  simp only [List.findIdx?_cons, List.findIdx?_nil] at h
  by_cases h1 : 97 = c
  · subst h1
    simp at h
    subst h
    decide +kernel
  · by_cases h2 : 98 = c
    · subst h2
      simp at h
      subst h
      decide +kernel
    · by_cases h3 : 99 = c
      · subst h3
        simp at h
        subst h
        decide +kernel
      · by_cases h4 : 100 = c
        · subst h4
          simp at h
          subst h
          decide +kernel
        · simp [h1, h2, h3, h4] at h
theorem m_append : MtR X "list.append" (rM X.K .append) := by
  intro pins s σ H x xs v us Q I rx rs h
  obtain ⟨m, st, d, ds, Xx, hd, hds, rp, hs⟩ := h
  match d, ds, hd, hds with
  | .loc n, [e], hd, hds =>
    obtain ⟨w, rfl, hw⟩ := hds.one
    cases hd with
    | @loc a n h1 =>
      cases q : st[n]? with
      | none => simp only [evMth, q] at hs; exact hs.elim
      | some c =>
        cases c with
        | dct kvs => simp only [evMth, q] at hs; exact hs.elim
        | lst ys =>
          simp only [evMth, q] at hs
          split at hs
          · rename_i hl
            obtain ⟨vs, e1, r1⟩ := rp.cell n a _ h1 q
            refine mt_append pins s σ H _ _ v us Q I rx rs ⟨a, vs, w, rfl, rfl, e1, by rw [r1.length, sizeSZ]; exact hl, ?_⟩
            have xx : Ext m H m (upd H a (.lst (vs ++ [w]))) := Ext.write rp h1
            exact hs m _ xx (rp.write (c := .lst (ys ++ [e])) h1 ⟨_, upd_same, (r1.append (.cons hw .nil)).ext xx⟩) _ .non
          · exact hs.elim
  | .loc n, [], _, _ => exact hs.elim
  | .loc n, _ :: _ :: _, _, _ => exact hs.elim
  | .non, _, _, _ => exact hs.elim
  | .bl _, _, _, _ => exact hs.elim
  | .int _, _, _, _ => exact hs.elim
  | .str _, _, _, _ => exact hs.elim
  | .tup _, _, _, _ => exact hs.elim
  | .lst _, _, _, _ => exact hs.elim
  | .rol _, _, _, _ => exact hs.elim
theorem m_pop : MtR X "list.pop" (rM X.K .pop) := by
  intro pins s σ H x xs v us Q I rx rs h
  obtain ⟨m, st, d, ds, Xx, hd, hds, rp, hs⟩ := h
  match d, ds, hd, hds with
  | .loc n, [], hd, hds =>
    cases hds
    cases hd with
    | @loc a n h1 =>
      cases q : st[n]? with
      | none => simp only [evMth, q] at hs; exact hs.elim
      | some c =>
        cases c with
        | dct kvs => simp only [evMth, q] at hs; exact hs.elim
        | lst ys =>
          simp only [evMth, q] at hs
          split at hs
          · rename_i e hl
            obtain ⟨vs, e1, r1⟩ := rp.cell n a _ h1 q
            rw [List.getLast?_eq_getElem?] at hl
            obtain ⟨w, e2, hw⟩ := r1.get hl
            refine mt_pop pins s σ H _ _ v us Q I rx rs ⟨a, vs, w, rfl, rfl, e1, by rw [r1.length]; exact e2, ?_⟩
            have xx : Ext m H m (upd H a (.lst vs.dropLast)) := Ext.write rp h1
            exact hs m _ xx (rp.write (c := .lst ys.dropLast) h1 ⟨_, upd_same, (r1.dropLast).ext xx⟩) _ (hw.ext xx)
          · exact hs.elim
  | .loc n, _ :: _, _, _ => exact hs.elim
  | .non, _, _, _ => exact hs.elim
  | .bl _, _, _, _ => exact hs.elim
  | .int _, _, _, _ => exact hs.elim
  | .str _, _, _, _ => exact hs.elim
  | .tup _, _, _, _ => exact hs.elim
  | .lst _, _, _, _ => exact hs.elim
  | .rol _, _, _, _ => exact hs.elim
theorem m_lindex : MtR X "list.index" (rM X.K .lindex) := by
  intro pins s σ H x xs v us Q I rx rs h
  obtain ⟨m, st, d, ds, Xx, hd, hds, rp, hs⟩ := h
  match ds, hds with
  | [e], hds =>
    obtain ⟨w, rfl, hw⟩ := hds.one
    cases q : lItems st d with
    | none => simp only [evMth, q] at hs; exact hs.elim
    | some ys =>
      simp only [evMth, q] at hs
      split at hs
      · rename_i hf
        rw [Bool.and_eq_true] at hf
        split at hs
        · rename_i j hj
          obtain ⟨a, vs, rfl, r1, e1⟩ := lItems_ok hd rp q
          obtain ⟨h1, h2, h3⟩ := List.findIdx?_eq_some_iff_getElem.mp hj
          obtain ⟨z, hz, az⟩ := r1.get (List.getElem?_eq_getElem h1)
          have fl : ∀ (k : Nat) (hk : k < ys.length), ys[k].flat = true := fun k hk => List.all_eq_true.mp hf.2 _ (List.getElem_mem hk)
          refine mt_index pins s σ H _ _ v us Q I rx rs ⟨a, vs, w, j, z, rfl, rfl, .inl (.inl e1), flatV_of hw hf.1, flatVs_of r1 hf.2, hz, ?_, fun k z' hk hz' => ?_, ?_⟩
          · rw [eqV_of az hw (fl j h1) hf.1]
            exact h2
          · obtain ⟨y', hy', ay'⟩ := r1.getV hz'
            obtain ⟨hk2, ek⟩ := List.getElem?_eq_some_iff.mp hy'
            subst ek
            rw [eqV_of ay' hw (fl k hk2) hf.1]
            simpa using h3 k hk
          · exact hs m H (Ext.refl m H) rp _ (.int _)
        · exact hs.elim
      · exact hs.elim
  | [], _ => exact hs.elim
  | _ :: _ :: _, _ => exact hs.elim
theorem m_sindex {W : WX} (hc : X.calm = true) (tk : Takes X W) : MtS X "str.index" (fun _ => rM X.K .sindex) := by
  intro pins s σ H x xs v us Q I rx rs h
  obtain ⟨m, st, d, ds, Xx, hd, hds, rp, hs⟩ := h
  match d, ds, hd, hds with
  | .str t, [.str [c]], hd, hds =>
    obtain ⟨w, rfl, hw⟩ := hds.one
    cases hd
    cases hw
    simp only [evMth] at hs
    split at hs
    · rename_i ht
      subst ht
      split at hs
      · rename_i j hj
        have e := idx_abcd c j hj
        refine mt_indexX hc tk pins s σ H _ _ v us Q I rx rs ⟨_, _, rfl, rfl, fun k hk => ?_, fun hn => ?_⟩
        · rw [e] at hk
          cases hk
          exact hs m H (Ext.refl m H) rp _ (.int _)
        · rw [e] at hn
          cases hn
      · exact hs.elim
    · exact hs.elim
  | .str _, [], _, _ => exact hs.elim
  | .str _, _ :: _ :: _, _, _ => simp only [evMth] at hs; exact hs.elim
  | .str _, [.str []], _, _ => exact hs.elim
  | .str _, [.str (_ :: _ :: _)], _, _ => exact hs.elim
  | .str _, [.non], _, _ => exact hs.elim
  | .str _, [.bl _], _, _ => exact hs.elim
  | .str _, [.int _], _, _ => exact hs.elim
  | .str _, [.tup _], _, _ => exact hs.elim
  | .str _, [.lst _], _, _ => exact hs.elim
  | .str _, [.rol _], _, _ => exact hs.elim
  | .str _, [.loc _], _, _ => exact hs.elim
  | .loc n, _, _, _ => exact hs.elim
  | .non, _, _, _ => exact hs.elim
  | .bl _, _, _, _ => exact hs.elim
  | .int _, _, _, _ => exact hs.elim
  | .tup _, _, _, _ => exact hs.elim
  | .lst _, _, _, _ => exact hs.elim
  | .rol _, _, _, _ => exact hs.elim
theorem m_split : MtR X "str.split" (rM X.K .split) := by
  intro pins s σ H x xs v us Q I rx rs h
  obtain ⟨m, st, d, ds, Xx, hd, hds, rp, hs⟩ := h
  match d, ds, hd, hds with
  | .str t, [.str [c]], hd, hds =>
    obtain ⟨w, rfl, hw⟩ := hds.one
    cases hd
    cases hw
    simp only [evMth] at hs
    split at hs
    · rename_i ht
      refine mt_split pins s σ H _ _ v us Q I rx rs ⟨_, _, rfl, rfl, rfl, by rw [S0_len, sizeSZ]; exact ht.1, fun p hp => ?_⟩
      rw [split_ok t c ht.2]
      have xx : Ext m H m (upd H p (.lst (((splitT c t).map S0).map V.str))) := Ext.new rp hp
      exact hs m _ xx (rp.new hp) _ (.lst upd_same (rp.fresh hp).1 (rp.fresh hp).2 (Ats.ofStrs _))
    · exact hs.elim
  | .str _, [], _, _ => exact hs.elim
  | .str _, _ :: _ :: _, _, _ => simp only [evMth] at hs; exact hs.elim
  | .str _, [.str []], _, _ => exact hs.elim
  | .str _, [.str (_ :: _ :: _)], _, _ => exact hs.elim
  | .str _, [.non], _, _ => exact hs.elim
  | .str _, [.bl _], _, _ => exact hs.elim
  | .str _, [.int _], _, _ => exact hs.elim
  | .str _, [.tup _], _, _ => exact hs.elim
  | .str _, [.lst _], _, _ => exact hs.elim
  | .str _, [.rol _], _, _ => exact hs.elim
  | .str _, [.loc _], _, _ => exact hs.elim
  | .loc n, _, _, _ => exact hs.elim
  | .non, _, _, _ => exact hs.elim
  | .bl _, _, _, _ => exact hs.elim
  | .int _, _, _, _ => exact hs.elim
  | .tup _, _, _, _ => exact hs.elim
  | .lst _, _, _, _ => exact hs.elim
  | .rol _, _, _, _ => exact hs.elim
theorem m_join : MtR X "str.join" (rM X.K .join) := by
  intro pins s σ H x xs v us Q I rx rs h
  obtain ⟨m, st, d, ds, Xx, hd, hds, rp, hs⟩ := h
  match d, ds, hd, hds with
  | .str t, [e], hd, hds =>
    obtain ⟨w, rfl, hw⟩ := hds.one
    cases hd
    simp only [evMth] at hs
    split at hs
    · rename_i ys hy
      split at hs
      · rename_i hl
        obtain ⟨zs, q1, q2⟩ := Option.bind_eq_some_iff.mp hy
        obtain ⟨a, vs, rfl, r1, e1⟩ := lItems_ok hw rp q1
        have ev := r1.strs q2
        subst ev
        refine mt_join pins s σ H _ _ v us Q I rx rs ⟨_, a, ys.map S0, rfl, rfl, .inl (.inl (.inl e1)), ?_, ?_⟩
        · have e2 : (ys.map S0).map (·.length) = ys.map (·.length) := by
            rw [List.map_map]
            refine List.map_congr_left fun z _ => S0_len z
          rw [e2, List.length_map, S0_len]
          exact hl
        · rw [TL.join_eq, join_ok]
          exact hs m H (Ext.refl m H) rp _ (.str _)
      · exact hs.elim
    · exact hs.elim
  | .str _, [], _, _ => exact hs.elim
  | .str _, _ :: _ :: _, _, _ => exact hs.elim
  | .loc n, _, _, _ => exact hs.elim
  | .non, _, _, _ => exact hs.elim
  | .bl _, _, _, _ => exact hs.elim
  | .int _, _, _, _ => exact hs.elim
  | .tup _, _, _, _ => exact hs.elim
  | .lst _, _, _, _ => exact hs.elim
  | .rol _, _, _, _ => exact hs.elim
theorem count_eqU (t : T) : ∀ {ys : List T} {us : List Value}, Vals ((ys.map S0).map V.str) us → us.countP (eqU (.str (S0 t))) = ys.count t
  | [], _, .nil => rfl
  | y :: ys, u :: us, .cons r q => by
    have ih := count_eqU t q
    obtain ⟨k, rfl⟩ := r
    rw [List.countP_cons, List.count_cons, ih]
    have e : (eqU (.str (S0 t)) (Value.str (S0 y) k)) = (y == t) := S0_beq y t
    rw [e]
theorem m_count : MtR X "list.count" (rM X.K .count) := by
  intro pins s σ H x xs v us Q I rx rs h
  obtain ⟨m, st, d, ds, Xx, hd, hds, rp, hs⟩ := h
  match ds, hds with
  | [.str t], hds =>
    obtain ⟨w, rfl, hw⟩ := hds.one
    cases hw
    simp only [evMth] at hs
    split at hs
    · rename_i ys hy
      obtain ⟨zs, q1, q2⟩ := Option.bind_eq_some_iff.mp hy
      obtain ⟨p, vs, rfl, r1, e1⟩ := lItems_ok hd rp q1
      have ev := r1.strs q2
      subst ev
      cases rx
      obtain ⟨u, rfl, ru⟩ := rs.one
      obtain ⟨its, rv, ⟨⟨cls, dd, data, sl⟩, n, ho, hc, hdn, hd'⟩, hlen⟩ := I.list (X := X) (.inl (.inl e1))
      simp only at hc hd'
      subst hc hd'
      refine call_meets PySem.F.slot_list_count ⟨_, ho, rfl⟩ PySem.F.entry_list_count (PySem.F.args_list_count_2 _ _)
        (SeqAt.list_countAt p its.toArray n dd sl u (eqU (.str (S0 t)))) ⟨ho, fun y hy => mem_eqAt (x := .str (S0 t)) ru rfl rv (flat_strs _) y (by simpa using hy), ?_⟩
      have ec := count_eqU t rv
      refine ⟨.int (ys.count t : Nat), H, I.tok _, ⟨s.toks, ?_⟩, ?_⟩
      · show Value.int ((its.toArray.toList.countP (eqU (.str (S0 t))) : Nat) : Int) s.toks = _
        rw [show its.toArray.toList = its from rfl, ec]
      · exact hs m H (Ext.refl m H) rp _ (.int _)
    · exact hs.elim
  | [], _ => cases d <;> exact hs.elim
  | _ :: _ :: _, _ => simp only [evMth] at hs; exact hs.elim
  | [.non], _ => exact hs.elim
  | [.bl _], _ => exact hs.elim
  | [.int _], _ => exact hs.elim
  | [.tup _], _ => exact hs.elim
  | [.lst _], _ => exact hs.elim
  | [.rol _], _ => exact hs.elim
  | [.loc _], _ => exact hs.elim
/-- o[i] = v -/
theorem set_all (hu : X.A.units + 1 < cLine) : PSet X (fun o i v H Q => ∃ m st x y z st', At X.K m H o x ∧ At X.K m H i y ∧ At X.K m H v z ∧ Rep X.K m H st ∧ evSet x y z st = some st' ∧ ∀ m' H', Ext m H m' H' → Rep X.K m' H' st' → Q H') := by
  intro pins s σ H o i v ov iv u Q I ro ri rv h
  obtain ⟨m, st, x, y, z, st', hx, hy, hz, rp, e, k⟩ := h
  cases hx with
  | @loc a n h1 =>
    cases q : st[n]? with
    | none => simp [evSet, q] at e
    | some c =>
      cases c with
      | lst xs =>
        obtain ⟨vs, e1, r1⟩ := rp.cell n a _ h1 q
        cases hy <;> simp [evSet, q] at e
        obtain ⟨j, ej, e⟩ := e
        subst e
        have xx : Ext m H m (upd H a (.lst (vs.set j v))) := Ext.write rp h1
        exact set_list pins s σ H _ _ v ov iv u Q I ro ri rv ⟨a, vs, _, j, rfl, rfl, e1, by rw [r1.length]; exact ej, k m _ xx (rp.write (c := .lst (xs.set j z)) h1 ⟨_, upd_same, (r1.set j hz).ext xx⟩)⟩
      | dct kvs =>
        obtain ⟨ks, e1, r1⟩ := rp.cell n a _ h1 q
        cases hk : y.key with
        | none => simp [evSet, q, hk] at e
        | some kx =>
          simp [evSet, q, hk] at e
          obtain ⟨hl, e⟩ := e
          subst e
          have ei := key_of hy hk
          subst ei
          cases ro
          have xx : Ext m H m (upd H a (.dK (L2.putK ks (kk kx) v))) := Ext.write rp h1
          exact d_setItem hu I (DPut.k e1 (by rw [r1.length, sizeSZ]; exact hl)) ri rv fun s' I' =>
            ⟨_, I', k m _ xx (rp.write (c := .dct (MP.putK kvs kx z)) h1 ⟨_, upd_same, (r1.put hz).ext xx.toExtW⟩)⟩
  | _ => simp [evSet] at e
end
end MP
end

section
set_option Elab.async false
set_option linter.all false
set_option maxRecDepth 100000
set_option maxHeartbeats 1000000
/-! List comprehensions of any number of clauses. -/
namespace MP
open PySem PySem.Spec PyProof.Rows L2
/-- what stands within a turn of the clause at depth d -/
def inn (elt : Expr) (gens : List Comprehension) (scope : Scope) (pos : Pos) (d : Nat) (acc : Value) (env : Env) : Sem Unit := match gens[d + 1]? with
  | some g' => do
    let x ← eval g'.iter env
    standAt g'.iter.pos
    let x ← foldedSetIterable g'.iter env x
    let _ ← runOwn (.compStart (.ListComp elt gens scope pos) (d + 1) (← holding [x] (pyIter x)) acc env) env
  | none => do let _ ← call (.builtin "list.append") [acc, ← eval elt env]
theorem compTurn_gen {elt : Expr} {gens : List Comprehension} {scope : Scope} {pos : Pos} {d : Nat} {it acc : Value} {env : Env} {t i : Expr} {ifs : List Expr} (hg : gens[d]? = some ⟨t, i, ifs, 0⟩) (ha : ∀ g', gens[d + 1]? = some g' → g'.is_async = 0) :
    compTurn (.ListComp elt gens scope pos) d it acc env = (do
      standAt i.pos
      match ← pyNext it with
      | none => pure (.done .next)
      | some v =>
        letOwnedTupleGo t it v
        assign t env v
        let mut ok := true
        for c in ifs do
          if ok then ok ← isTrue c env (eval c env)
        if ok then inn elt gens scope pos d acc env
        again (.compLoop (.ListComp elt gens scope pos) d it acc env)) := by
  unfold compTurn
  simp only [hg]
  unfold inn
  cases q : gens[d + 1]? with
  | none =>
    simp only [bind_assoc, pure_bind]
    rfl
  | some g' =>
    obtain ⟨t', i', ifs', a'⟩ := g'
    have e : a' = 0 := ha _ q
    subst e
    simp only [bind_assoc, pure_bind]
    rfl
theorem compLoop_gen {prog : Program} {w : World} {A : Around} {R : Result → Shared → Prop} {s : Shared} {elt t i : Expr} {gens : List Comprehension} {ifs : List Expr} {scope : Scope} {pos : Pos} {d : Nat} {it acc : Value} {env : Env} (hg : gens[d]? = some ⟨t, i, ifs, 0⟩) (ha : ∀ g', gens[d + 1]? = some g' → g'.is_async = 0) (I : Nat → Shared → Prop)
    (turn : ∀ n s, I n s → wpAny (model prog w) A (pyNext it) (fun r s₁ => match r with
      | none => R (.ok .next) s₁
      | some v => wpAny (model prog w) A (letOwnedTupleGo t it v) (fun _ s₁' => wpAny (model prog w) A (assign t env v) (fun _ s₂ =>
          wpAny (model prog w) A (forIn ifs true fun c r => if r = true then do let ok ← isTrue c env (eval c env); pure (ForInStep.yield ok) else pure (ForInStep.yield r)) (fun ok s₃ =>
            if ok = true then wpAny (model prog w) A (inn elt gens scope pos d acc env) (fun _ s₄ => ∃ m, m < n ∧ I m s₄) (notedBy (model prog w) A env fun e s' => R (.error e) s') s₃
            else ∃ m, m < n ∧ I m s₃) (notedBy (model prog w) A env fun e s' => R (.error e) s') s₂) (notedBy (model prog w) A env fun e s' => R (.error e) s') s₁') (notedBy (model prog w) A env fun e s' => R (.error e) s') s₁) (notedBy (model prog w) A env fun e s' => R (.error e) s') s)
    (n : Nat) (h : I n s) :
    codeAny (model prog w) A (.compLoop (.ListComp elt gens scope pos) d it acc env) R s := by
  refine codeAny_loop rfl I (fun n s hI => ?_) n h
  show wpAny _ A ((compTurn (.ListComp elt gens scope pos) d it acc env).onRaise (fun x => do noteFrame x env; theTreesLotGoes x)) _ _ s
  refine wpAny_noted ?_
  rw [compTurn_gen hg ha]
  refine wpAny_bind (wpAny_standAt (wpAny_bind (wpAny_mono (turn n s hI) (fun r s₁ h₁ => ?_) fun _ _ h' => h')))
  cases r with
  | none => exact wpAny_pure h₁
  | some v =>
    refine wpAny_bind (wpAny_mono h₁ (fun _ s₁' h₁' => ?_) fun _ _ h' => h')
    refine wpAny_bind (wpAny_mono h₁' (fun _ s₂ h₂ => wpAny_bind (wpAny_mono h₂ (fun ok s₃ h₃ => ?_) fun _ _ h' => h')) fun _ _ h' => h')
    cases ok with
    | false => exact wpAny_pure ⟨rfl, h₃⟩
    | true => exact wpAny_bind (wpAny_mono h₃ (fun _ s₄ h₄ => wpAny_pure ⟨rfl, h₄⟩) fun _ _ h' => h')
/-- the slots that the comprehension does not own are known as before -/
def Kp (own : List Nat) (σ σ' : L2.St) : Prop := σ'.length = σ.length ∧ ∀ j v, j ∉ own → σ[j]? = some (some v) → σ'[j]? = some (some v)
abbrev TN := L2.St → Hp → (Hp → Prop) → Prop
def PIn (Y : Cx) (elt : Expr) (gens : List Comprehension) (scope : Scope) (pos : Pos) (d : Nat) (D : Addr) (own : List Nat) (t : TN) : Prop :=
  ∀ (pins : List (Addr × Obj)) (s : Shared) (σ : L2.St) (H : Hp) (N : Hp → Prop), Inv Y pins σ H s → t σ H N →
    wpAny (model Y.prog Y.w) Y.A (inn elt gens scope pos d (.ref D) Y.env) (fun _ s' => ∃ σ' H', Inv Y pins σ' H' s' ∧ Kp own σ σ' ∧ N H') (fun _ _ => False) s
/-- the element -/
def tElt (te : TE) (D : Addr) : TN := fun σ H N => te σ H fun y H1 => ∃ acc, H1 D = some (.lst acc) ∧ acc.length < sizeLine ∧ N (upd H1 D (.lst (acc ++ [y])))
/-- the turns of a clause -/
def tTurns (J : It) (g : TG) (tt : TT) (vs : List Nat) (t : TN) (σ : L2.St) (H : Hp) (N : Hp → Prop) : Prop := ∃ W : Nat → Nat → Hp → Prop, (∃ m, W 0 m H) ∧ ∀ i m H, W i m H →
  (J.stop i H ∧ N H) ∨ (J.go i H ∧ ∃ Nx : Hp → Prop, (∀ H', Nx H' → ∃ m', m' < m ∧ W (i + 1) m' H') ∧ ∀ x H', J.yld i H x H' → g x (wipe σ vs) H' fun σ2 H2 => wipe σ2 vs = wipe σ vs ∧ tt σ2 H2 fun b H3 =>
    if b = true then t σ2 H3 Nx else Nx H3)
def tCl (wi : TI) (g : TG) (tt : TT) (vs : List Nat) (t : TN) : TN := fun σ H N => wi σ H fun J H1 => tTurns J g tt vs t σ H1 N
theorem pin_elt {Y : Cx} {elt : Expr} {gens : List Comprehension} {scope : Scope} {pos : Pos} {d : Nat} {D : Addr} {own : List Nat} {te : TE} (hd : gens[d + 1]? = none) (he : PE { Y with xe := fun _ _ => False } elt te) (hx : Y.xe = fun _ _ => False) : PIn Y elt gens scope pos d D own (tElt te D) := by
  intro pins s σ H N I h
  obtain ⟨P, w, K, mg, base, A, NN, s0, H0, env, outer, stack, ex, fn, calm, pn, xe⟩ := Y
  cases hx
  unfold inn
  rw [hd]
  refine wpAny_bind (wpAny_mono (he.run pins s σ H _ I h) (fun z s1 ⟨y, H1, I1, r1, acc, e1, hz, n⟩ => ?_) fun _ _ q => q)
  refine wpAny_bind (app_ok I1 e1 hz r1 fun s2 I2 => wpAny_pure ⟨σ, _, I2, ⟨rfl, fun _ _ _ q => q⟩, n⟩)
/-- the loop of a clause, the iterator made; vs: the slots of this clause and of the further ones, vs': of the further ones -/
theorem loop_gen {Y : Cx} {elt tg iter : Expr} {gens : List Comprehension} {ifs : List Expr} {scope : Scope} {pos : Pos} {d : Nat} {D : Addr} {vs vs' : List Nat} {g : TG} {tt : TT} {t : TN} {pins : List (Addr × Obj)} {σ : L2.St} {H : Hp} {s : Shared} {N : Hp → Prop}
    {J : It} {fp : List Addr} {it : Addr} {tn : Nat → Heap → Prop} (hx : Y.xe = fun _ _ => False) (hc : Y.calm = true) (hd : gens[d]? = some ⟨tg, iter, ifs, 0⟩) (ha : ∀ g', gens[d + 1]? = some g' → g'.is_async = 0) (hg : PG Y tg g) (ht : PTs Y ifs tt) (hin : PIn Y elt gens scope pos d D vs' t) (hvo : ∀ i ∈ vs', i ∈ vs)
    (I : Inv Y pins σ H s) (T : Turn Y.prog Y.w Y.K tg J fp it tn) (st : tn 0 s.heap) (hf : ∀ b ∈ fp, FpOk Y pins H b) (h : tTurns J g tt vs t σ H N) :
    codeAny (model Y.prog Y.w) Y.A (.compLoop (.ListComp elt gens scope pos) d (.ref it) (.ref D) Y.env) (fun r s' => match r with
      | .ok f => f = .next ∧ ∃ σ' H', Inv Y pins σ' H' s' ∧ Kp vs σ σ' ∧ N H'
      | .error _ => False) s := by
  obtain ⟨W, ⟨m0, w0⟩, turn⟩ := h
  have stat : ∀ {H' : Hp}, (∀ b ∈ fp, H' b = none) → ∀ b ∈ fp, FpOk Y pins H' b := fun hn b hb => ⟨hn b hb, (hf b hb).2⟩
  have kp0 : Kp vs σ (wipe σ vs) := ⟨wipe_length σ vs, fun j v hj e => by rw [wipe_out hj]; exact e⟩
  refine compLoop_gen hd ha (fun n s' => ∃ i H', Inv Y pins (wipe σ vs) H' s' ∧ tn i s'.heap ∧ (∀ b ∈ fp, H' b = none) ∧ W i n H') ?_ m0
    ⟨0, H, I.weak (wipe_length _ _) (fun j v e => (wipe_some e).1), st, fun b hb => (hf b hb).1, w0⟩
  rintro n s1 ⟨i, H1, I1', st1, n1, w1⟩
  have bad : ∀ {α : Type} {c : Sem α} {Q : α → Shared → Prop} {E : Value → Shared → Prop} {s : Shared}, wpAny (model Y.prog Y.w) Y.A c Q (fun _ _ => False) s → wpAny (model Y.prog Y.w) Y.A c Q E s := fun h => wpAny_mono h (fun _ _ q => q) fun _ _ q => q.elim
  have badx : ∀ {α : Type} {c : Sem α} {Q : α → Shared → Prop} {E : Value → Shared → Prop} {s : Shared}, wpAny (model Y.prog Y.w) Y.A c Q Y.xe s → wpAny (model Y.prog Y.w) Y.A c Q E s := fun h => bad (by rw [← hx]; exact h)
  rcases turn i n H1 w1 with ⟨stop, nn⟩ | ⟨go, Nx, hNx, step⟩
  · refine bad (wpAny_mono (T.done Y rfl rfl rfl hc i pins s1 _ H1 (fun _ _ => False) I1' (stat n1) st1 stop) (fun r s2 ⟨hr, I2⟩ => ?_) fun _ _ q => q)
    subst hr
    exact ⟨rfl, _, H1, I2, kp0, nn⟩
  · refine bad (wpAny_mono (T.item Y rfl rfl rfl hc i pins s1 _ H1 (fun _ _ => False) I1' (stat n1) st1 go) (fun r s2 ⟨u, hr, h2⟩ => ?_) fun _ _ q => q)
    subst hr
    refine bad (wpAny_mono h2 (fun _ s3 ⟨x, H3, I3, r3, y3, st3, n3⟩ => ?_) fun _ _ q => q)
    have I3' := I3.pinned (stat n3) (T.obj _ _ st3)
    refine badx (wpAny_mono (hg.run _ s3 _ H3 x u _ I3' r3 (step x H3 y3)) (fun _ s4 ⟨σ4, H4, I4, hw4, q4⟩ => ?_) fun _ _ q => q)
    refine badx (wpAny_mono (ht.run _ s4 σ4 H4 _ I4 q4) (fun b s5 ⟨H5, I5, q5⟩ => ?_) fun _ _ q => q)
    have keep4 : ∀ j v, (wipe σ vs)[j]? = some (some v) → σ4[j]? = some (some v) ∧ j ∉ vs := fun j v e => by
      rw [← hw4] at e
      exact wipe_some e
    have len4 : σ4.length = (wipe σ vs).length := by rw [← wipe_length σ4 vs, hw4]
    have fin : ∀ {σ9 : L2.St} {s' : Shared} {H' : Hp}, Inv Y (pins ++ pinsAt fp s3.heap) σ9 H' s' → σ9.length = (wipe σ vs).length → (∀ j v, (wipe σ vs)[j]? = some (some v) → σ9[j]? = some (some v)) → Nx H' →
        ∃ m, m < n ∧ ∃ i H', Inv Y pins (wipe σ vs) H' s' ∧ tn i s'.heap ∧ (∀ b ∈ fp, H' b = none) ∧ W i m H' := fun {σ9 s' H'} I' hl hk nx => by
      obtain ⟨m', hm, w'⟩ := hNx H' nx
      have pin' : ∀ b ∈ fp, ∀ o, s3.heap.get? b = some o → s'.heap.get? b = some o ∧ H' b = none := fun b hb o e =>
        let z := I'.pin (b, o) (List.mem_append_right _ (List.mem_append_right _ (mem_pinsAt hb e)))
        ⟨z.1, z.2.1⟩
      refine ⟨m', hm, i + 1, H', I'.unpinned.weak hl.symm hk, T.keep _ _ _ st3 fun b hb o e => (pin' b hb o e).1, fun b hb => ?_, w'⟩
      obtain ⟨o, e, _⟩ := T.obj _ _ st3 b hb
      exact (pin' b hb o e).2
    cases b with
    | false =>
      simp only [Bool.false_eq_true, if_false] at q5 ⊢
      exact fin I5 len4 (fun j v e => (keep4 j v e).1) q5
    | true =>
      simp only [if_true] at q5 ⊢
      refine bad (wpAny_mono (hin _ s5 σ4 H5 Nx I5 q5) (fun _ s6 ⟨σ6, H6, I6, k6, n6⟩ => ?_) fun _ _ q => q)
      exact fin I6 (k6.1.trans len4) (fun j v e => k6.2 j v (fun q => (keep4 j v e).2 (hvo j q)) (keep4 j v e).1) n6
theorem compStart_gen {prog : Program} {w : World} {A : Around} {R : Result → Shared → Prop} {s : Shared} {elt t i : Expr} {gens : List Comprehension} {ifs : List Expr} {scope : Scope} {pos : Pos} {d : Nat} {it acc : Value} {env : Env} (hd : gens[d]? = some ⟨t, i, ifs, 0⟩)
    (h0 : codeAny (model prog w) A (.compLoop (.ListComp elt gens scope pos) d it acc env) R s)
    (h : wpAny (model prog w) A (pyIter it) (fun it' s' => codeAny (model prog w) A (.compLoop (.ListComp elt gens scope pos) d it' acc env) R s') (notedBy (model prog w) A env fun x s' => R (.error x) s') s) :
    codeAny (model prog w) A (.compStart (.ListComp elt gens scope pos) d it acc env) R s := by
  refine codeAny_of_tree ?_
  show wpAny _ _ ((compStart (.ListComp elt gens scope pos) d it acc env).onRaise (fun x => do noteFrame x env; standAt theWindowsPlace)) _ _ s
  refine wpAny_notedAt ?_
  unfold compStart
  have hk : (clausesOf (.ListComp elt gens scope pos))[d]? = some ⟨t, i, ifs, 0⟩ := hd
  simp only [hk]
  show wpAny _ _ (ask >>= _) _ _ s
  refine wpAny_bind (wpAny_askSetting (wpAny_ite ?_))
  split
  · first
      | exact wpAny_bind (wpAny_pure (wpAny_pure (And.intro rfl h0)))
      | exact wpAny_pure (And.intro rfl h0)
  · first
      | exact wpAny_bind (wpAny_rule (wpAny_bind (wpAny_standAt (wpAny_bind (wpAny_mono h (fun it' s' h' => wpAny_pure (And.intro rfl h')) fun _ _ x => x)))))
      | (refine wpAny_bind (wpAny_rule ?_); show wpAny _ _ (standAt i.pos >>= _) _ _ s; exact wpAny_bind (wpAny_standAt (wpAny_bind (wpAny_mono h (fun it' s' h' => wpAny_pure (And.intro rfl h')) fun _ _ x => x))))
/-- a further clause -/
theorem pin_cl {Y : Cx} {elt tg iter : Expr} {gens : List Comprehension} {ifs : List Expr} {scope : Scope} {pos : Pos} {d : Nat} {D : Addr} {vs vs' : List Nat} {wi : TI} {g : TG} {tt : TT} {t : TN} (hx : Y.xe = fun _ _ => False) (hc : Y.calm = true)
    (hd : gens[d + 1]? = some ⟨tg, iter, ifs, 0⟩) (ha : ∀ g', gens[d + 2]? = some g' → g'.is_async = 0) (hi : PI Y tg iter wi) (hg : PG Y tg g) (ht : PTs Y ifs tt) (hin : PIn Y elt gens scope pos (d + 1) D vs' t) (hvo : ∀ i ∈ vs', i ∈ vs) (hs : ∀ env x, foldedSetIterable iter env x = pure x) :
    PIn Y elt gens scope pos d D vs (tCl wi g tt vs t) := by
  intro pins s σ H N I h
  have badx : ∀ {α : Type} {c : Sem α} {Q : α → Shared → Prop} {E : Value → Shared → Prop} {s : Shared}, wpAny (model Y.prog Y.w) Y.A c Q Y.xe s → wpAny (model Y.prog Y.w) Y.A c Q E s := fun h => wpAny_mono h (fun _ _ q => q) fun _ _ q => by
    rw [hx] at q
    exact q.elim
  unfold inn
  rw [hd]
  refine wpAny_bind (badx (wpAny_mono (hi.run pins s σ H _ I h) (fun xv s1 h1 => ?_) fun _ _ q => q))
  refine wpAny_bind (wpAny_standAt (wpAny_bind (wpAny_of_eq (hs _ xv) (wpAny_bind (wpAny_holding (badx (wpAny_mono h1 (fun itv s2 h2 => ?_) fun _ _ q => q)))))))
  obtain ⟨it, fp, tn, J, H2, e, I2, T, st2, f2, q⟩ := h2
  subst e
  refine wpAny_bind (wpAny_runOwn ?_)
  rw [Around.mark_none]
  have lp := loop_gen (vs := vs) hx hc hd ha hg ht hin hvo I2 T st2 f2 q
  refine codeAny_mono (compStart_gen hd lp (T.self Y.A 0 _ _ _ st2 lp)) fun r s' hr => ?_
  cases r with
  | ok f => exact wpAny_pure hr.2
  | error e => exact hr.elim
def tLcN (wi : TI) (g : TG) (tt : TT) (vs : List Nat) (t : Addr → TN) : TE := fun σ H Q => wi σ H fun J H1 => ∀ D, H1 D = none → tTurns J g tt vs (t D) σ (upd H1 D (.lst [])) fun H2 => Q (.ref D) H2
theorem lcN_core {X : Cx} {pins : List (Addr × Obj)} {s : Shared} {σ : L2.St} {H : Hp} {Q : VK} {elt tg iter : Expr} {gens : List Comprehension} {ifs : List Expr} {scope : Scope} {own : List (Str × Nat)} {pos pos' : Pos} {vs' : List Nat} {wi : TI} {g : TG} {tt : TT} {t : Addr → TN} {use : Option (Value → Sem Unit)} {Qf : Value → Shared → Prop}
    (hc : X.calm = true) (hN : X.N.Nodup) (I : Inv X pins σ H s) (hi : PI X tg iter wi) (ok : BlkOk X.N X.env.scope scope own) (hvo : ∀ i ∈ vs', i ∈ own.map (·.2)) (ha : ∀ g', gens[0]? = some g' → g'.is_async = 0)
    (hg : ∀ (s : Shared) (H : Hp) (C : Addr) (cl : List (Str × Addr)) (fp : List Addr), PG (X.blk s H scope (compEnvC scope cl C X.env) fp) tg g) (ht : ∀ (s : Shared) (H : Hp) (C : Addr) (cl : List (Str × Addr)) (fp : List Addr), PTs (X.blk s H scope (compEnvC scope cl C X.env) fp) ifs tt)
    (he : ∀ (s : Shared) (H : Hp) (C : Addr) (cl : List (Str × Addr)) (fp : List Addr) (D : Addr), PIn (X.blk s H scope (compEnvC scope cl C X.env) fp) elt (⟨tg, iter, ifs, 0⟩ :: gens) scope pos 0 D vs' (t D)) (hs : ∀ x, foldedSetIterable iter X.env x = pure x)
    (h : tLcN wi g tt (own.map (·.2)) t σ H Q)
    (hRR : ∀ D C s' m H', Inv X pins σ H' s' → Q (.ref D) H' → s'.heap.Ns C m → FpOk X pins H' C → compPost (model X.prog X.w) X.A X.xe use Qf (.ref D) C (.ok .next) s') :
    wpAny (model X.prog X.w) X.A (comprehension (.ListComp elt (⟨tg, iter, ifs, 0⟩ :: gens) scope pos) scope X.env pos' (newList []) false (eval iter X.env) use) Qf X.xe s := by
  have hfree : ∀ y ∈ scope.names, y.2 = .free → ∃ c, X.env.cells.lookup y.1 = some c := fun y hy e => by
    rcases ok.free y hy e with k | k
    · exact I.ok.has _ (.inl k)
    · exact I.ok.has _ (.inr k)
  refine wpAny_comprehension_free (use := use) rfl hs (closure_ok hfree) ok.kind (fun y hy e => by rw [ok.uniq y hy, e])
    (thn (hi.run pins s σ H _ I h) fun xv s1 hx => thn hx fun itv s2 h2 => ?_)
  obtain ⟨it, fp, tn, J, H2, e, I2, T, st2, f2, q⟩ := h2
  subst e
  refine wpAny_newObj_type (newEnv_comp ?_) (by show 0 ≤ sizeLine; decide)
  generalize hD : s2.heap.objs.size = D
  have hDn : H2 D = none := I2.hok.fresh (Nat.le_of_eq hD)
  have q := q D hDn
  generalize hs3 : ({ s2 with heap := s2.heap.push { cls := .type "list", data := .seq ([] : List Value).toArray } } : Shared) = s3
  have I3 : Inv X pins σ (upd H2 D (.lst [])) s3 := by
    rw [← hs3]
    refine I2.laid (t' := s2.toks) (fun b o e => Heap.get?_push_of_some _ e) (Nat.le_of_eq hD) ⟨Nat.zero_le _, [], 0, .nil, ?_⟩
    rw [← hD]
    exact Heap.get?_push_size _ rfl
  have h3 : s3.heap = s2.heap.push { cls := .type "list", data := .seq ([] : List Value).toArray } := by rw [← hs3]
  have sz : ∀ b ∈ fp, b < s2.heap.objs.size := fun b hb => by
    obtain ⟨o, e, _⟩ := T.obj _ _ st2 b hb
    exact Heap.lt_size e
  have f3 : ∀ b ∈ fp, FpOk X pins (upd H2 D (.lst [])) b ∧ b < s3.heap.objs.size := fun b hb => by
    have hlt := sz b hb
    refine ⟨⟨?_, (f2 b hb).2⟩, by rw [h3, Heap.size_push]; exact Nat.lt_succ_of_lt hlt⟩
    rw [upd_ne (by rw [← hD]; exact Nat.ne_of_lt hlt)]
    exact (f2 b hb).1
  have st3 : tn 0 s3.heap := T.keep _ _ _ st2 fun b _ o e => by rw [h3]; exact Heap.get?_push_of_some _ e
  have I4 := block_start I3 ok hN f3
  have pg := hg s3 (upd H2 D (.lst [])) s3.heap.objs.size (cellsFrom (s3.heap.objs.size + 1) scope.names (cloFrom X.env.cells scope.names [])) fp
  have pt := ht s3 (upd H2 D (.lst [])) s3.heap.objs.size (cellsFrom (s3.heap.objs.size + 1) scope.names (cloFrom X.env.cells scope.names [])) fp
  have pe := he s3 (upd H2 D (.lst [])) s3.heap.objs.size (cellsFrom (s3.heap.objs.size + 1) scope.names (cloFrom X.env.cells scope.names [])) fp D
  show codeAny _ _ (.compStart (.ListComp elt (⟨tg, iter, ifs, 0⟩ :: gens) scope pos) 0 (.ref it) (.ref D) (compEnvC scope (cellsFrom (s3.heap.objs.size + 1) scope.names (cloFrom X.env.cells scope.names [])) s3.heap.objs.size X.env)) (compPost (model X.prog X.w) X.A X.xe use Qf (.ref D) s3.heap.objs.size) { s3 with heap := pushCells (s3.heap.push { cls := .type "dict", data := .dict #[] }) scope.names }
  have nfp : ∀ b ∈ fp, (upd H2 D (.lst [])) b = none := fun b hb => (f3 b hb).1.1
  generalize hce : compEnvC scope (cellsFrom (s3.heap.objs.size + 1) scope.names (cloFrom X.env.cells scope.names [])) s3.heap.objs.size X.env = ce at I4 pg pt pe ⊢
  have cL : ce.locals = s3.heap.objs.size := by subst hce; rfl
  generalize hH3 : upd H2 D (.lst []) = H3 at I3 I4 pg pt pe q nfp f3
  generalize hs4 : ({ s3 with heap := pushCells (s3.heap.push { cls := .type "dict", data := .dict #[] }) scope.names } : Shared) = s4 at I4 ⊢
  have st4 : tn 0 s4.heap := T.keep _ _ _ st3 fun b _ o e => by rw [← hs4]; exact pushCells_keeps _ _ _ _ (Heap.get?_push_of_some _ e)
  have f4 : ∀ b ∈ fp, FpOk (X.blk s3 H3 scope ce fp) [] H3 b := fun b hb =>
    ⟨nfp b hb, (I4.ok.exf b hb).1, I4.ok.exfs b hb, .inl hb, fun x c e => (I4.ok.exf b hb).2 x c e, fun p hp => absurd (show p ∈ ([] : List (Addr × Obj)) ++ [] from hp) (by simp)⟩
  have q' : tTurns J g tt (own.map (·.2)) (t D) (wipe σ (own.map (·.2))) H3 fun H2 => Q (.ref D) H2 := by
    obtain ⟨W, w0, turn⟩ := q
    refine ⟨W, w0, fun i m H w => ?_⟩
    have ww : wipe (wipe σ (own.map (·.2))) (own.map (·.2)) = wipe σ (own.map (·.2)) := by
      generalize own.map (·.2) = l
      have key : ∀ (l : List Nat) (τ : L2.St), (∀ i ∈ l, τ[i]? = some none ∨ τ[i]? = none) → wipe τ l = τ := by
        intro l
        induction l with
        | nil => intro τ _; rfl
        | cons a r ih =>
          intro τ hτ
          unfold wipe
          rw [ih τ fun i hi => hτ i (List.mem_cons_of_mem _ hi)]
          refine List.ext_getElem? fun j => ?_
          by_cases hj : a = j
          · subst hj
            rcases hτ a (List.mem_cons_self ..) with e | e
            · have hlt := (List.getElem?_eq_some_iff.mp e).1
              rw [List.getElem?_set_self hlt, e]
            · rw [e, List.getElem?_eq_none (by simpa using List.getElem?_eq_none_iff.mp e)]
          · rw [List.getElem?_set_ne hj]
      refine key l _ fun i hi => ?_
      have : ∀ (l : List Nat) (τ : L2.St), i ∈ l → (wipe τ l)[i]? = some none ∨ (wipe τ l)[i]? = none := by
        intro l
        induction l with
        | nil => intro τ h; cases h
        | cons a r ih =>
          intro τ h
          unfold wipe
          by_cases ha : a = i
          · subst ha
            by_cases hlt : a < (wipe τ r).length
            · left
              exact List.getElem?_set_self hlt
            · right
              exact List.getElem?_eq_none (by simpa using hlt)
          · rw [List.getElem?_set_ne ha]
            rcases List.mem_cons.mp h with e | e
            · exact absurd e.symm ha
            · exact ih τ e
      exact this l σ hi
    rw [ww]
    exact turn i m H w
  have loop := loop_gen (Y := X.blk s3 H3 scope ce fp) (vs := own.map (·.2)) (d := 0) (elt := elt) (gens := ⟨tg, iter, ifs, 0⟩ :: gens) (scope := scope) (pos := pos) (D := D) rfl hc rfl (fun g' e => ha g' e) pg pt pe hvo I4 T st4 f4 q'
  refine codeAny_mono (codeAny_compStart_list loop (T.self X.A 0 _ _ _ st4 loop)) fun r s6 hr => ?_
  cases r with
  | error e => exact hr.elim
  | ok f =>
    obtain ⟨rfl, σ6, H5, I6, _, qq⟩ := hr
    have I7 : Inv X pins σ H5 s6 := I3.call' (ch := fp) I6.os I6.base I6.hok I6.bare fun b hb => ⟨(f3 b hb).1.2.2.2.1, (f3 b hb).1.2.1, (f3 b hb).1.2.2.2.2.1, (f3 b hb).1.2.2.2.2.2⟩
    have nC : H5 s3.heap.objs.size = none := by
      have z : H5 ce.locals = none := I6.free
      rw [cL] at z
      exact z
    obtain ⟨m, hn, _⟩ := I6.loc
    have hn : s6.heap.Ns ce.locals m := hn
    rw [cL] at hn
    exact hRR D s3.heap.objs.size s6 m H5 I7 qq hn (I3.fpOk (Nat.le_refl _) nC)
section
variable {X : Cx} {elt tg iter : Expr} {gens : List Comprehension} {ifs : List Expr} {scope : Scope} {own : List (Str × Nat)} {pos : Pos} {vs' : List Nat} {wi : TI} {g : TG} {tt : TT} {t : Addr → TN}
theorem pe_lcN (hc : X.calm = true) (hN : X.N.Nodup) (hi : PI X tg iter wi) (ok : BlkOk X.N X.env.scope scope own) (hvo : ∀ i ∈ vs', i ∈ own.map (·.2)) (ha : ∀ g', gens[0]? = some g' → g'.is_async = 0)
    (hg : ∀ (s : Shared) (H : Hp) (C : Addr) (cl : List (Str × Addr)) (fp : List Addr), PG (X.blk s H scope (compEnvC scope cl C X.env) fp) tg g) (ht : ∀ (s : Shared) (H : Hp) (C : Addr) (cl : List (Str × Addr)) (fp : List Addr), PTs (X.blk s H scope (compEnvC scope cl C X.env) fp) ifs tt)
    (he : ∀ (s : Shared) (H : Hp) (C : Addr) (cl : List (Str × Addr)) (fp : List Addr) (D : Addr), PIn (X.blk s H scope (compEnvC scope cl C X.env) fp) elt (⟨tg, iter, ifs, 0⟩ :: gens) scope pos 0 D vs' (t D)) (hs : ∀ x, foldedSetIterable iter X.env x = pure x) :
    PE X (.ListComp elt (⟨tg, iter, ifs, 0⟩ :: gens) scope pos) (tLcN wi g tt (own.map (·.2)) t) := by
  refine ⟨fun pins s σ H Q I h => ?_⟩
  rw [eval_ListComp]
  refine lcN_core hc hN I hi ok hvo ha hg ht he hs h fun D C s' m H' I' q hn f => ⟨m, hn, fun h'' sb => ?_⟩
  obtain ⟨f0, f1, f2, f3, f4, f5⟩ := f
  exact ⟨.ref D, H', I'.turned (t' := s'.toks) (fun b o hb e => (sb.2 b hb).trans e) f0 f1 f3 f4 f5, rfl, q⟩
theorem ps_setLcN {i : Nat} {y : Str} {py spos : Pos} (hc : X.calm = true) (hN : X.N.Nodup) (hy : X.N[i]? = some y) (hyl : X.env.scope.names.lookup y = some .local)
    (hsw : swapsWith (.ListComp elt (⟨tg, iter, ifs, 0⟩ :: gens) scope pos) (some (.Name y py)) spos.line X.env = pure true) (hi : PI X tg iter wi) (ok : BlkOk X.N X.env.scope scope own) (hvo : ∀ i ∈ vs', i ∈ own.map (·.2)) (ha : ∀ g', gens[0]? = some g' → g'.is_async = 0)
    (hg : ∀ (s : Shared) (H : Hp) (C : Addr) (cl : List (Str × Addr)) (fp : List Addr), PG (X.blk s H scope (compEnvC scope cl C X.env) fp) tg g) (ht : ∀ (s : Shared) (H : Hp) (C : Addr) (cl : List (Str × Addr)) (fp : List Addr), PTs (X.blk s H scope (compEnvC scope cl C X.env) fp) ifs tt)
    (he : ∀ (s : Shared) (H : Hp) (C : Addr) (cl : List (Str × Addr)) (fp : List Addr) (D : Addr), PIn (X.blk s H scope (compEnvC scope cl C X.env) fp) elt (⟨tg, iter, ifs, 0⟩ :: gens) scope pos 0 D vs' (t D)) (hs : ∀ x, foldedSetIterable iter X.env x = pure x) :
    PS X (.Assign [.Name y py] (.ListComp elt (⟨tg, iter, ifs, 0⟩ :: gens) scope pos) spos) (tAsg (tLcN wi g tt (own.map (·.2)) t) (gName i)) := by
  refine ⟨fun pins s σ H D I h => ?_⟩
  rw [exec_Assign_Name_used _ _ _ _ hsw]
  refine wpAny_bind (wpAny_standAt (wpAny_bind ?_))
  show wpAny _ X.A (do let _ ← comprehension (.ListComp elt (⟨tg, iter, ifs, 0⟩ :: gens) scope pos) scope X.env (firstIterPos (⟨tg, iter, ifs, 0⟩ :: gens) pos) (newList []) false (eval iter X.env) (some (assign (.Name y py) X.env))) _ _ s
  have h : tLcN wi g tt (own.map (·.2)) t σ H (fun x H1 => gName i x σ H1 D.nx) := h
  refine wpAny_bind (thn (lcN_core (Qf := fun _ s' => SP X pins D .next s') hc hN I hi ok hvo ha hg ht he hs h fun L C s' m H' I' q hn f => ?_) fun _ s' hq => wpAny_pure (wpAny_pure hq))
  show wpAny _ _ (assign (.Name y py) X.env (.ref L)) _ _ _
  refine wpAny_assign_Name (store_ok2 (v := V.ref L) I' hN hy (.inl hyl) rfl (fun s2 I2 ⟨a, sb, ha⟩ => ?_) (.inr hyl))
  obtain ⟨f0, f1, f2, f3, f4, f5⟩ := f
  have haC : C ≠ a := by
    rcases ha with z | z
    · rw [z]; exact f1
    · exact fun e => f4 y a z e.symm
  refine ⟨m, hn.sameBut sb haC, fun h3 sb3 => ?_⟩
  exact ⟨_, H', I2.turned (t' := s2.toks) (fun b o hb e => (sb3.2 b hb).trans e) f0 f1 f3 f4 f5, q⟩
end
end MP
end

section
set_option Elab.async false
set_option linter.all false
set_option maxRecDepth 100000
/-! Expressions: what the small language says of a term of the row holds of it. First what wants no call. -/
namespace MP
open PySem PySem.Spec PyProof.Rows L2
/-- the names of the defs, constants, exception classes of a program -/
structure Lnk where
  pr : Pr
  fnm : Nat → Str
  gnm : Nat → Str
  exn : Nat → Str
def Lnk.G (L : Lnk) (n : Nat) : MP.G := ⟨run L.pr n, L.pr.glob, L.pr.W⟩
/-- an exception as it lies -/
def ExnAt (L : Lnk) (mg : Str → Option Value) (x : Exn) (cls : Value) (dd : Option Addr) (H : Hp) : Prop := mg (L.exn x.cls) = some cls ∧ dd = none
def xW (L : Lnk) (X : Cx) (W : WX) (σ : L2.St) : Exn → Store → M → Hp → Prop := fun x _ _ H => ∀ cls dd, ExnAt L X.mg x cls dd H → W cls dd σ H
section
variable (L : Lnk) (n : Nat) (X : Cx) (W : WX)
def tE (e : E) : TE := fun σ H Q => ∃ m ρ st, EnvR X.K m H σ ρ ∧ Rep X.K m H st ∧ (evE (L.G n) e ρ st).sat X.K m H (fun d _ m' H' => ∀ v, At X.K m' H' v d → Q v H') (xW L X W σ)
def tEs (e : Es) : TA := fun σ H Q => ∃ m ρ st, EnvR X.K m H σ ρ ∧ Rep X.K m H st ∧ (evEs (L.G n) e ρ st).sat X.K m H (fun ds _ m' H' => ∀ vs, Ats X.K m' H' vs ds → Q vs H') (xW L X W σ)
def tT (e : E) : TT := fun σ H Q => ∃ m ρ st, EnvR X.K m H σ ρ ∧ Rep X.K m H st ∧ ((evE (L.G n) e ρ st).bd fun d st => R.of (truth st d) st).sat X.K m H (fun b _ _ H' => Q b H') (xW L X W σ)
end
/-- what must stand around -/
structure Facts (L : Lnk) (n : Nat) (X : Cx) (W : WX) : Prop where
  calm : X.calm = true
  room : Room n X.A
  nd : X.N.Nodup
  fn : ∀ f F, L.pr.fns f = some F → ∃ a fd ps, X.mg (L.fnm f) = some (.ref a) ∧ PySem.W.keepIn X.K (.ref a) = true ∧ Binds X.K fd ps [] ∧
    FnOk X.prog X.w X.K X.mg X.base (L2.CX X.prog X.w) n a fd ps (fun vs H Q E => ∃ m ds st, Ats X.K m H vs ds ∧ Rep X.K m H st ∧ (run L.pr n f ds st).sat X.K m H (fun d _ m' H' => ∀ v, At X.K m' H' v d → Q v H') (fun x _ _ H' => ∀ cls dd, ExnAt L X.mg x cls dd H' → E cls dd H'))
  gl : ∀ g d, L.pr.glob g = some d → ∃ v u, X.mg (L.gnm g) = some u ∧ RelV v u ∧ (∀ m H, At X.K m H v d) ∧ ∀ ds, d = .tup ds → ∃ a o, v = .ref a ∧ X.K.lookup a = some o ∧ o.cls = .type "tuple" ∧ o.dict = none
  blt : ∀ x ∈ (["len", "abs", "max", "min", "sum", "all", "any", "int", "bool", "str", "tuple", "list", "dict", "isinstance", "range", "enumerate", "zip", "sorted"] : List Str), X.mg x = none
  tk : Takes X W
theorem Facts.units {L : Lnk} {n : Nat} {X : Cx} {W : WX} (F : Facts L n X W) : X.A.units + 65 < cLine := by have := F.room.un; omega
theorem eby {X : Cx} {e : Expr} {t t' : TE} (h : PE X e t) (i : ∀ σ H Q, t' σ H Q → t σ H Q) : PE X e t' := ⟨fun pins s σ H Q I q => h.run pins s σ H Q I (i σ H Q q)⟩
theorem tby {X : Cx} {e : Expr} {t t' : TT} (h : PT X e t) (i : ∀ σ H Q, t' σ H Q → t σ H Q) : PT X e t' := ⟨fun pins s σ H Q I q => h.run pins s σ H Q I (i σ H Q q)⟩
theorem wby {X : Cx} {e : Expr} {t t' : TT} (h : PW X e t) (i : ∀ σ H Q, t' σ H Q → t σ H Q) : PW X e t' := ⟨fun w pins s σ H Q I q => h.run w pins s σ H Q I (i σ H Q q)⟩
theorem aby {X : Cx} {e : List Expr} {t t' : TA} (h : PA X e t) (i : ∀ σ H Q, t' σ H Q → t σ H Q) : PA X e t' := ⟨fun p pins s σ H Q I q => h.run p pins s σ H Q I (i σ H Q q)⟩
section
variable {L : Lnk} {n : Nat} {X : Cx} {W : WX} {m : M} {σ : L2.St} {ρ : Rho} {st : Store} {H : Hp}
/-- first one thing, then another -/
theorem tE_bd {α : Type} {e : E} {f : D → Store → R α} {Q : VK} {Qs : α → Store → M → Hp → Prop} (er : EnvR X.K m H σ ρ) (rp : Rep X.K m H st) (h : ((evE (L.G n) e ρ st).bd f).sat X.K m H Qs (xW L X W σ))
    (k : ∀ d st1 m1 H1 v, Ext m H m1 H1 → EnvR X.K m1 H1 σ ρ → Rep X.K m1 H1 st1 → At X.K m1 H1 v d → (f d st1).sat X.K m1 H1 Qs (xW L X W σ) → Q v H1) : tE L n X W e σ H Q :=
  ⟨m, ρ, st, er, rp, (sat_bd h).mono fun d st1 m1 H1 x rp1 q v hv => k d st1 m1 H1 v x (er.ext x) rp1 hv q⟩
theorem tEs_bd {α : Type} {e : Es} {f : List D → Store → R α} {Q : List V → Hp → Prop} {Qs : α → Store → M → Hp → Prop} (er : EnvR X.K m H σ ρ) (rp : Rep X.K m H st) (h : ((evEs (L.G n) e ρ st).bd f).sat X.K m H Qs (xW L X W σ))
    (k : ∀ d st1 m1 H1 v, Ext m H m1 H1 → EnvR X.K m1 H1 σ ρ → Rep X.K m1 H1 st1 → Ats X.K m1 H1 v d → (f d st1).sat X.K m1 H1 Qs (xW L X W σ) → Q v H1) : tEs L n X W e σ H Q :=
  ⟨m, ρ, st, er, rp, (sat_bd h).mono fun d st1 m1 H1 x rp1 q v hv => k d st1 m1 H1 v x (er.ext x) rp1 hv q⟩
theorem tT_bd {α : Type} {e : E} {f : Bool → Store → R α} {Q : Bool → Hp → Prop} {Qs : α → Store → M → Hp → Prop} (er : EnvR X.K m H σ ρ) (rp : Rep X.K m H st) (h : (((evE (L.G n) e ρ st).bd fun d st => R.of (truth st d) st).bd f).sat X.K m H Qs (xW L X W σ))
    (k : ∀ d st1 m1 H1, Ext m H m1 H1 → EnvR X.K m1 H1 σ ρ → Rep X.K m1 H1 st1 → (f d st1).sat X.K m1 H1 Qs (xW L X W σ) → Q d H1) : tT L n X W e σ H Q :=
  ⟨m, ρ, st, er, rp, (sat_bd h).mono fun d st1 m1 H1 x rp1 q => k d st1 m1 H1 x (er.ext x) rp1 q⟩
/-- bd in bd -/
theorem bd_bd {α β γ : Type} (r : R α) (f : α → Store → R β) (g : β → Store → R γ) : (r.bd f).bd g = r.bd fun a st => (f a st).bd g := by cases r <;> rfl
theorem tT_bd2 {α : Type} {e : E} {f : D → Store → R α} {Q : Bool → Hp → Prop} {Qs : α → Store → M → Hp → Prop} (er : EnvR X.K m H σ ρ) (rp : Rep X.K m H st) (h : ((evE (L.G n) e ρ st).bd f).sat X.K m H Qs (xW L X W σ))
    (h0 : ∀ d st, truth st d = none → f d st = .no)
    (k : ∀ d b st1 m1 H1, Ext m H m1 H1 → EnvR X.K m1 H1 σ ρ → Rep X.K m1 H1 st1 → truth st1 d = some b → (f d st1).sat X.K m1 H1 Qs (xW L X W σ) → Q b H1) : tT L n X W e σ H Q := by
  refine ⟨m, ρ, st, er, rp, ?_⟩
  cases q : evE (L.G n) e ρ st with
  | no => rw [q] at h; exact h.elim
  | ex x st' => rw [q] at h; exact h
  | ok d st' =>
    rw [q] at h
    simp only [R.bd_ok] at h ⊢
    cases t : truth st' d with
    | none => rw [h0 d st' t] at h; exact h.elim
    | some b => exact fun m1 H1 x rp1 => k d b st' m1 H1 x (er.ext x) rp1 t (R.sat.ext h x)
/-! ### names and constants -/
def okName (x : Str) : Bool := !(x == ("__debug__" : Str)) && !(x == ("__classdict__" : Str))
def visB (sc : Scope) (x : Str) : Bool := match sc.names.lookup x with
  | some .local | some .cell | some .free => true
  | _ => false
theorem visB_ok {sc : Scope} {x : Str} (h : visB sc x = true) : Vis sc x := by
  unfold visB at h
  unfold Vis
  split at h <;> first | exact .inl (by assumption) | exact .inr (.inl (by assumption)) | exact .inr (.inr (by assumption)) | cases h
def glB (sc : Scope) (x : Str) : Bool := decide (sc.names.lookup x = some .globalImplicit)
theorem glB_ok {x : Str} (h : glB X.env.scope x = true) : Gl X x := by
  unfold glB at h
  have q := of_decide_eq_true h
  exact q
theorem s_nm {i : Nat} {x : Str} {pos : Pos} (h1 : X.N[i]? = some x) (h2 : visB X.env.scope x = true) (h3 : okName x = true) : PE X (.Name x pos) (tE L n X W (.nm i)) := by
  simp only [okName, Bool.and_eq_true, Bool.not_eq_true'] at h3
  refine eby (pe_var h1 (visB_ok h2) h3.1 h3.2) fun σ H Q ⟨m, ρ, st, er, rp, h⟩ => ?_
  simp only [evE] at h
  cases q : ρ[i]? with
  | none => rw [q] at h; exact h.elim
  | some o =>
    cases o with
    | none => rw [q] at h; exact h.elim
    | some d =>
      rw [q] at h
      obtain ⟨v, e, a⟩ := er.at_ i d q
      exact ⟨v, e, sat_ok h rp v a⟩
theorem s_gl {g : Nat} {pos : Pos} (F : Facts L n X W) (h2 : glB X.env.scope (L.gnm g) = true) (h3 : okName (L.gnm g) = true) : PE X (.Name (L.gnm g) pos) (tE L n X W (.gl g)) := by
  simp only [okName, Bool.and_eq_true, Bool.not_eq_true'] at h3
  refine ⟨fun pins s σ H Q I ⟨m, ρ, st, er, rp, h⟩ => ?_⟩
  simp only [evE] at h
  obtain ⟨d, e, h⟩ := sat_of h
  have e : L.pr.glob g = some d := e
  obtain ⟨v, u, e1, e2, e3, _⟩ := F.gl g d e
  exact (pe_glob (glB_ok h2) e1 e2 h3.1).run pins s σ H Q I (sat_ok h rp v (e3 m H))
theorem s_non {j pos} : PE X (.Constant .none j pos) (tE L n X W .non) := eby pe_non fun σ H Q ⟨m, ρ, st, er, rp, h⟩ => sat_ok h rp _ .non
theorem s_bl {b j pos} : PE X (.Constant (.bool b) j pos) (tE L n X W (.bl b)) := eby pe_bl fun σ H Q ⟨m, ρ, st, er, rp, h⟩ => sat_ok h rp _ (.bl b)
theorem s_int {i j pos} : PE X (.Constant (.int i) j pos) (tE L n X W (.int i)) := eby pe_int fun σ H Q ⟨m, ρ, st, er, rp, h⟩ => sat_ok h rp _ (.int i)
theorem s_str {x : Str} {t : T} {j pos} (e : x = S0 t) : PE X (.Constant (.str x) j pos) (tE L n X W (.str t)) := by
  subst e
  exact eby pe_str fun σ H Q ⟨m, ρ, st, er, rp, h⟩ => sat_ok h rp _ (.str t)
/-! ### argument lists, displays -/
theorem s_nil : PA X [] (tEs L n X W .nil) := aby pa_nil fun σ H Q ⟨m, ρ, st, er, rp, h⟩ => sat_ok h rp [] .nil
/-- no star, no set display: what argument lists and comparisons may hold -/
def okx : Expr → Bool
  | .Starred .. | .Set .. | .Slice .. => false
  | _ => true
theorem star_ok {e : Expr} {es : List Expr} {env : Env} (h : okx e = true) : starEach (e :: es) env = (false, eval e env) :: starEach es env := by
  cases e <;> first | rfl | cases h
theorem okx_mark {op : CmpOp} {e : Expr} (h : okx e = true) : behindInMarks op e = false := by
  cases e <;> first | rfl | cases h
theorem okx_fold {e : Expr} {env : Env} {x : Value} (h : okx e = true) : foldedSetIterable e env x = pure x := by
  cases e <;> first | rfl | cases h
theorem okx_ix {e : Expr} (h : okx e = true) : PlainIx e := by
  cases e <;> first | (intro o i; rfl) | cases h
theorem s_cons {e : E} {r : Es} {ex : Expr} {es : List Expr} (ha : PE X ex (tE L n X W e)) (hr : PA X es (tEs L n X W r)) (ho : okx ex = true) : PA X (ex :: es) (tEs L n X W (.cons e r)) := by
  refine aby (pa_cons ha hr (star_ok ho)) fun σ H Q ⟨m, ρ, st, er, rp, h⟩ => ?_
  simp only [evEs] at h
  refine tE_bd er rp h fun d st1 m1 H1 v x er1 rp1 a h => ?_
  refine tEs_bd er1 rp1 h fun ds st2 m2 H2 vs y er2 rp2 b h => ?_
  exact sat_ok h rp2 (v :: vs) (.cons (a.ext y) b)
theorem s_tup {es : Es} {exs : List Expr} {k pos} (h : PA X exs (tEs L n X W es)) : PE X (.Tuple exs k pos) (tE L n X W (.tup es)) := by
  refine eby (pe_tup h) fun σ H Q ⟨m, ρ, st, er, rp, h⟩ => ?_
  simp only [evE] at h
  refine tEs_bd er rp h fun ds st1 m1 H1 vs x er1 rp1 a h => ?_
  split at h
  · rename_i hz
    refine ⟨by rw [a.length, sizeSZ]; exact hz, fun p hp => ?_⟩
    have x2 : Ext m1 H1 m1 (upd H1 p (.tup vs)) := Ext.new rp1 hp
    exact h m1 _ x2 (rp1.new hp) (.ref p) (.tup (.inl ⟨upd_same, (rp1.fresh hp).1⟩) (a.ext x2))
  · exact h.elim
theorem s_lst {es : Es} {exs : List Expr} {b : Bool} {pos} (h : PA X exs (tEs L n X W es)) : PE X (.List exs pos) (tE L n X W (.lst b es)) := by
  refine eby (pe_lst h) fun σ H Q ⟨m, ρ, st, er, rp, h⟩ => ?_
  simp only [evE] at h
  refine tEs_bd er rp h fun ds st1 m1 H1 vs x er1 rp1 a h => ?_
  split at h
  · rename_i hz
    refine ⟨by rw [a.length, sizeSZ]; exact hz, fun p hp => ?_⟩
    cases b with
    | false =>
      have x2 : Ext m1 H1 m1 (upd H1 p (.lst vs)) := Ext.new rp1 hp
      exact h m1 _ x2 (rp1.new hp) (.ref p) (.lst upd_same (rp1.fresh hp).1 (rp1.fresh hp).2 (a.ext x2))
    | true =>
      have x2 : Ext m1 H1 (m1.push p) (upd H1 p (.lst vs)) := Ext.push rp1 hp
      have rp2 := rp1.push (o := .lst vs) (c := .lst ds) hp ⟨vs, upd_same, a.ext x2⟩
      refine h _ _ x2 rp2 (.ref p) (.loc ?_)
      show (m1.locs ++ [p])[st1.length]? = some p
      rw [← rp1.len, List.getElem?_append_right (Nat.le_refl _)]
      simp
  · exact h.elim
/-! ### operations -/
theorem s_bin {op : Bop} {a b : E} {ea eb : Expr} {pos} (ha : PE X ea (tE L n X W a)) (hb : PE X eb (tE L n X W b)) : PE X (.BinOp ea (bop op) eb pos) (tE L n X W (.bin op a b)) := by
  refine eby (pe_op (op_bin op) ha hb) fun σ H Q ⟨m, ρ, st, er, rp, h⟩ => ?_
  simp only [evE] at h
  refine tE_bd er rp h fun d st1 m1 H1 v x er1 rp1 a h => ?_
  refine tE_bd er1 rp1 h fun e st2 m2 H2 w y er2 rp2 b h => ?_
  exact ⟨m2, st2, d, e, _, a.ext y, b, rp2, h⟩
theorem s_neg {a : E} {ea : Expr} {pos} (ha : PE X ea (tE L n X W a)) : PE X (.UnaryOp .USub ea pos) (tE L n X W (.neg a)) := by
  refine eby (pe_un un_neg ha) fun σ H Q ⟨m, ρ, st, er, rp, h⟩ => ?_
  simp only [evE] at h
  refine tE_bd er rp h fun d st1 m1 H1 v x er1 rp1 a h => ?_
  cases a <;> first | exact h.elim | (exact ⟨_, rfl, sat_ok h rp1 _ (.int _)⟩)
theorem s_negc {i : Int} {j p pos} : PE X (.UnaryOp .USub (.Constant (.int i) j p) pos) (tE L n X W (.int (-i))) := by
  refine eby (pe_un un_neg pe_int) fun σ H Q ⟨m, ρ, st, er, rp, h⟩ => ?_
  exact ⟨_, rfl, sat_ok h rp _ (.int _)⟩
theorem s_not {a : E} {ea : Expr} {pos} (ha : PE X ea (tE L n X W a)) : PE X (.UnaryOp .Not ea pos) (tE L n X W (.not a)) := by
  refine eby (pe_notT ha) fun σ H Q ⟨m, ρ, st, er, rp, h⟩ => ?_
  simp only [evE] at h
  refine tE_bd er rp h fun d st1 m1 H1 v x er1 rp1 a h => ?_
  obtain ⟨z, e, h⟩ := sat_of h
  obtain ⟨k, e1, e2⟩ := Option.map_eq_some_iff.mp e
  subst e2
  exact ⟨k, tru_of a rp1 e1, sat_ok h rp1 _ (.bl _)⟩
theorem s_and {a b : E} {ea eb : Expr} {rest : List Expr} {pos} (ha : PE X ea (tE L n X W a)) (hb : PE X (.BoolOp .And (eb :: rest) pos) (tE L n X W b)) : PE X (.BoolOp .And (ea :: eb :: rest) pos) (tE L n X W (.and a b)) := by
  refine eby (pe_andT ha hb) fun σ H Q ⟨m, ρ, st, er, rp, h⟩ => ?_
  simp only [evE] at h
  refine tE_bd er rp h fun d st1 m1 H1 v x er1 rp1 a h => ?_
  cases q : truth st1 d with
  | none => rw [q] at h; exact h.elim
  | some k =>
    rw [q] at h
    refine ⟨k, tru_of a rp1 q, ?_⟩
    cases k with
    | true => exact ⟨m1, ρ, st1, er1, rp1, h⟩
    | false => exact sat_ok h rp1 v a
theorem s_or {a b : E} {ea eb : Expr} {rest : List Expr} {pos} (ha : PE X ea (tE L n X W a)) (hb : PE X (.BoolOp .Or (eb :: rest) pos) (tE L n X W b)) : PE X (.BoolOp .Or (ea :: eb :: rest) pos) (tE L n X W (.or a b)) := by
  refine eby (pe_orT ha hb) fun σ H Q ⟨m, ρ, st, er, rp, h⟩ => ?_
  simp only [evE] at h
  refine tE_bd er rp h fun d st1 m1 H1 v x er1 rp1 a h => ?_
  cases q : truth st1 d with
  | none => rw [q] at h; exact h.elim
  | some k =>
    rw [q] at h
    refine ⟨k, tru_of a rp1 q, ?_⟩
    cases k with
    | false => exact ⟨m1, ρ, st1, er1, rp1, h⟩
    | true => exact sat_ok h rp1 v a
theorem s_ife {c a b : E} {ec ea eb : Expr} {pos} (hc : PT X ec (tT L n X W c)) (ha : PE X ea (tE L n X W a)) (hb : PE X eb (tE L n X W b)) : PE X (.IfExp ec ea eb pos) (tE L n X W (.ife c a b)) := by
  refine eby (pe_ifExp hc ha hb) fun σ H Q ⟨m, ρ, st, er, rp, h⟩ => ?_
  simp only [evE] at h
  refine tT_bd2 er rp h (fun d st q => by simp only [q]; rfl) fun d k st1 m1 H1 x er1 rp1 q h => ?_
  simp only [q] at h
  cases k with
  | true => exact ⟨m1, ρ, st1, er1, rp1, h⟩
  | false => exact ⟨m1, ρ, st1, er1, rp1, h⟩
theorem s_cmp {op : Cop} {a b : E} {ea eb : Expr} {pos} (F : Facts L n X W) (ha : PE X ea (tE L n X W a)) (hb : PE X eb (tE L n X W b)) (ho : okx eb = true) : PE X (.Compare ea [cop op] [eb] pos) (tE L n X W (.cmp op a b)) := by
  refine eby (pe_cmpR (op_cmp F.units op) ha hb (okx_mark ho)) fun σ H Q ⟨m, ρ, st, er, rp, h⟩ => ?_
  simp only [evE] at h
  refine tE_bd er rp h fun d st1 m1 H1 v x er1 rp1 a h => ?_
  refine tE_bd er1 rp1 h fun e st2 m2 H2 w y er2 rp2 b h => ?_
  obtain ⟨z, e0, h⟩ := sat_of h
  obtain ⟨k, e1, e2⟩ := Option.map_eq_some_iff.mp e0
  subst e2
  exact ⟨m2, st2, d, e, k, a.ext y, b, rp2, e1, sat_ok h rp2 _ (.bl _)⟩
theorem s_chn {o p : Cop} {a b c : E} {ea eb ec : Expr} {pos} (F : Facts L n X W) (ha : PE X ea (tE L n X W a)) (hb : PE X eb (tE L n X W b)) (hc : PE X ec (tE L n X W c)) (ho : okx ec = true) : PE X (.Compare ea [cop o, cop p] [eb, ec] pos) (tE L n X W (.chn o p a b c)) := by
  refine eby (pe_chain (op_cmp F.units o) (op_cmp F.units p) ha hb hc (okx_mark ho)) fun σ H Q ⟨m, ρ, st, er, rp, h⟩ => ?_
  simp only [evE] at h
  refine tE_bd er rp h fun d st1 m1 H1 v x er1 rp1 a h => ?_
  refine tE_bd er1 rp1 h fun e st2 m2 H2 w y er2 rp2 b h => ?_
  cases q : evCmp o d e st2 with
  | none => rw [q] at h; exact h.elim
  | some k =>
    rw [q] at h
    refine ⟨m2, st2, d, e, k, a.ext y, b, rp2, q, k, rfl, ?_⟩
    cases k with
    | false => exact sat_ok h rp2 _ (.bl _)
    | true =>
      refine tE_bd er2 rp2 h fun g st3 m3 H3 w3 y3 er3 rp3 c h => ?_
      obtain ⟨z, e0, h⟩ := sat_of h
      obtain ⟨k, e1, e2⟩ := Option.map_eq_some_iff.mp e0
      subst e2
      exact ⟨m3, st3, e, g, k, b.ext y3, c, rp3, e1, sat_ok h rp3 _ (.bl _)⟩
theorem s_isn {a : E} {ea : Expr} {pos j p} (ha : PE X ea (tE L n X W a)) : PE X (.Compare ea [.Is] [.Constant .none j p] pos) (tE L n X W (.isn a)) := by
  refine eby (pe_cmp (pc_isN ha)) fun σ H Q ⟨m, ρ, st, er, rp, h⟩ => ?_
  simp only [evE] at h
  refine tE_bd er rp h fun d st1 m1 H1 v x er1 rp1 a h => ?_
  cases a <;> exact sat_ok h rp1 _ (.bl _)
theorem s_nisn {a : E} {ea : Expr} {pos j p} (ha : PE X ea (tE L n X W a)) : PE X (.Compare ea [.IsNot] [.Constant .none j p] pos) (tE L n X W (.nisn a)) := by
  refine eby (pe_cmp (pc_notN ha)) fun σ H Q ⟨m, ρ, st, er, rp, h⟩ => ?_
  simp only [evE] at h
  refine tE_bd er rp h fun d st1 m1 H1 v x er1 rp1 a h => ?_
  cases a <;> exact sat_ok h rp1 _ (.bl _)
/-! ### subscripts -/
theorem s_idx {a b : E} {ea eb : Expr} {pos} (F : Facts L n X W) (ha : PE X ea (tE L n X W a)) (hb : PE X eb (tE L n X W b)) (ho : okx eb = true) : PE X (.Subscript ea eb pos) (tE L n X W (.idx a b)) := by
  refine eby (pe_ix (ix_all (by have := F.units; omega)) ha hb (okx_ix ho)) fun σ H Q ⟨m, ρ, st, er, rp, h⟩ => ?_
  simp only [evE] at h
  refine tE_bd er rp h fun d st1 m1 H1 v x er1 rp1 a h => ?_
  refine tE_bd er1 rp1 h fun e st2 m2 H2 w y er2 rp2 b h => ?_
  exact ⟨m2, st2, d, e, _, a.ext y, b, rp2, h⟩
end
end MP
end

section
set_option Elab.async false
set_option linter.all false
set_option maxRecDepth 100000
/-! Expressions: slices, calls, methods, tests. -/
namespace MP
open PySem PySem.Spec PyProof.Rows L2
section
variable {L : Lnk} {n : Nat} {X : Cx} {W : WX} {m : M} {σ : L2.St} {ρ : Rho} {st : Store} {H : Hp}
/-! ### slices -/
theorem s_sll {a lo : E} {ea el : Expr} {p pos} (ha : PE X ea (tE L n X W a)) (hl : PE X el (tE L n X W lo)) : PE X (.Subscript ea (.Slice (some el) none none p) pos) (tE L n X W (.sll a lo)) := by
  refine eby (pe_slice sl_all ha (po_some hl) po_none) fun σ H Q ⟨m, ρ, st, er, rp, h⟩ => ?_
  simp only [evE] at h
  refine tE_bd er rp h fun d st1 m1 H1 v x er1 rp1 a h => ?_
  refine tE_bd er1 rp1 h fun e st2 m2 H2 w y er2 rp2 b h => ?_
  cases b <;> first | exact h.elim | skip
  obtain ⟨z, e, h⟩ := sat_of h
  exact ⟨_, rfl, m2, st2, d, z, a.ext y, rp2, e, h⟩
theorem s_slh {a lo : E} {ea el : Expr} {p pos} (ha : PE X ea (tE L n X W a)) (hl : PE X el (tE L n X W lo)) : PE X (.Subscript ea (.Slice none (some el) none p) pos) (tE L n X W (.slh a lo)) := by
  refine eby (pe_slice sl_all ha po_none (po_some hl)) fun σ H Q ⟨m, ρ, st, er, rp, h⟩ => ?_
  simp only [evE] at h
  refine tE_bd er rp h fun d st1 m1 H1 v x er1 rp1 a h => ?_
  refine tE_bd er1 rp1 h fun e st2 m2 H2 w y er2 rp2 b h => ?_
  cases b <;> first | exact h.elim | skip
  obtain ⟨z, e, h⟩ := sat_of h
  exact ⟨_, rfl, m2, st2, d, z, a.ext y, rp2, e, h⟩
theorem s_slb {a lo hi : E} {ea el eh : Expr} {p pos} (ha : PE X ea (tE L n X W a)) (hl : PE X el (tE L n X W lo)) (hh : PE X eh (tE L n X W hi)) : PE X (.Subscript ea (.Slice (some el) (some eh) none p) pos) (tE L n X W (.slb a lo hi)) := by
  refine eby (pe_slice sl_all ha (po_some hl) (po_some hh)) fun σ H Q ⟨m, ρ, st, er, rp, h⟩ => ?_
  simp only [evE] at h
  refine tE_bd er rp h fun d st1 m1 H1 v x er1 rp1 a h => ?_
  refine tE_bd er1 rp1 h fun e st2 m2 H2 w y er2 rp2 b h => ?_
  cases b <;> first | exact h.elim | skip
  refine ⟨_, rfl, ?_⟩
  refine tE_bd er2 rp2 h fun e3 st3 m3 H3 w3 y3 er3 rp3 c h => ?_
  cases c <;> first | exact h.elim | skip
  obtain ⟨z, e, h⟩ := sat_of h
  exact ⟨_, rfl, m3, st3, d, z, (a.ext y).ext y3, rp3, e, h⟩
theorem s_rev {a : E} {ea : Expr} {j p1 p2 p3 pos} (ha : PE X ea (tE L n X W a)) : PE X (.Subscript ea (.Slice none none (some (.UnaryOp .USub (.Constant (.int 1) j p1) p2)) p3) pos) (tE L n X W (.rev a)) := by
  refine eby (pe_revL ha) fun σ H Q ⟨m, ρ, st, er, rp, h⟩ => ?_
  simp only [evE] at h
  refine tE_bd er rp h fun d st1 m1 H1 v x er1 rp1 a h => ?_
  obtain ⟨z, e, h⟩ := sat_of h
  obtain ⟨ds, e1, e2⟩ := Option.map_eq_some_iff.mp e
  subst e2
  obtain ⟨p, vs, rfl, hv, hp⟩ := lItems_ok a rp1 e1
  refine ⟨p, vs, rfl, .of hp, fun q hq => ?_⟩
  have x2 : Ext m1 H1 m1 (upd H1 q (.lst vs.reverse)) := Ext.new rp1 hq
  exact h m1 _ x2 (rp1.new hq) (.ref q) (.lst upd_same (rp1.fresh hq).1 (rp1.fresh hq).2 (hv.reverse.ext x2))
/-! ### calls -/
theorem backTo_star {pos : Pos} {env : Env} : ∀ {es : List Expr}, es.all okx = true → (backTo pos (starEach es env)).any (·.1) = false
  | [], _ => rfl
  | e :: es, h => by
    simp only [List.all_cons, Bool.and_eq_true] at h
    rw [star_ok h.1]
    exact backTo_star (es := es) h.2
def bltN : Blt → Str
  | .len => "len" | .abs => "abs" | .max2 => "max" | .min2 => "min" | .maxl => "max" | .sum => "sum" | .all => "all" | .any => "any"
  | .int => "int" | .bool => "bool" | .str => "str" | .tuple => "tuple" | .list => "list" | .listm => "list" | .dict => "dict" | .sorted => "sorted"
theorem bltN_name (b : Blt) : bltN b ≠ "__name__" ∧ (bltN b == ("__debug__" : Str)) = false := by cases b <;> decide +kernel
theorem bltN_in (b : Blt) : bltN b ∈ (["len", "abs", "max", "min", "sum", "all", "any", "int", "bool", "str", "tuple", "list", "dict", "isinstance", "range", "enumerate", "zip", "sorted"] : List Str) := by cases b <;> decide +kernel
theorem boot_B (b : Blt) : ∀ id, bltB b = some id → bootBuiltins (bltN b) = some (.builtin id) := by
  intro id h
  cases b <;> simp [bltB] at h <;> subst h <;> decide +kernel
theorem boot_T (b : Blt) : ∀ id, bltT b = some id → bootBuiltins (bltN b) = some (.type id) := by
  intro id h
  cases b <;> simp [bltT] at h <;> subst h <;> decide +kernel
theorem s_blt {b : Blt} {es : Es} {ex : Expr} {exs : List Expr} {p pos} (F : Facts L n X W) (hb : (bltB b).isSome = true ∨ (bltT b).isSome = true) (hg : glB X.env.scope (bltN b) = true) (ha : PA X (ex :: exs) (tEs L n X W es)) (ho : (ex :: exs).all okx = true) :
    PE X (.Call (.Name (bltN b) p) (ex :: exs) [] pos) (tE L n X W (.blt b es)) := by
  simp only [List.all_cons, Bool.and_eq_true] at ho
  have hm := F.blt (bltN b) (bltN_in b)
  have key : ∀ σ H Q, tE L n X W (.blt b es) σ H Q → tCB (fun xs H Q => ∃ m st ds Xx, Ats X.K m H xs ds ∧ Rep X.K m H st ∧ (evBlt b ds st).sat X.K m H (fun z _ m' H' => ∀ v, At X.K m' H' v z → Q v H') Xx) (tEs L n X W es) σ H Q := fun σ H Q ⟨m, ρ, st, er, rp, h⟩ => by
    simp only [evE] at h
    refine tEs_bd er rp h fun ds st1 m1 H1 vs x er1 rp1 a h => ?_
    exact ⟨m1, st1, ds, _, a, rp1, h⟩
  have rule := call_blt F.calm b hb
  rcases h : bltB b with _ | id
  · rcases h2 : bltT b with _ | T
    · simp [h, h2] at hb
    · have e : bltV b = .type T := by simp [bltV, h, h2]
      rw [e] at rule
      exact eby (pe_callTy rule (glB_ok hg) hm (boot_T b T h2) ha (bltN_name b).1 (bltN_name b).2 (star_ok ho.1) (backTo_star ho.2)) key
  · have e : bltV b = .builtin id := by simp [bltV, h]
    rw [e] at rule
    exact eby (pe_callB rule (glB_ok hg) hm (boot_B b id h) ha (bltN_name b).1 (bltN_name b).2 (star_ok ho.1) (backTo_star ho.2)) key
def tyS (t : Ty) : Str := Str.ofString (tyN t)
theorem tyS_ok (t : Ty) : (tyS t ∈ (["len", "abs", "max", "min", "sum", "all", "any", "int", "bool", "str", "tuple", "list", "dict", "isinstance", "range", "enumerate", "zip", "sorted"] : List Str)) ∧ bootBuiltins (tyS t) = some (.type (tyN t)) ∧ tyS t ≠ "__name__" ∧ (tyS t == ("__debug__" : Str)) = false := by cases t <;> decide +kernel
theorem s_isi {t : Ty} {a : E} {ea : Expr} {p q pos} (F : Facts L n X W) (hg : glB X.env.scope "isinstance" = true) (hg2 : glB X.env.scope (tyS t) = true) (ha : PE X ea (tE L n X W a)) (ho : okx ea = true) :
    PE X (.Call (.Name "isinstance" p) [ea, .Name (tyS t) q] [] pos) (tE L n X W (.isi a t)) := by
  obtain ⟨h1, h2, h3, h4⟩ := tyS_ok t
  have hn : PE X (.Name (tyS t) q) (tC (.ty (tyN t))) := pe_bltn (glB_ok hg2) (F.blt _ h1) h2 rfl h3 h4
  have hargs : PA X [ea, .Name (tyS t) q] (tCons (tE L n X W a) (tCons (tC (.ty (tyN t))) tNil)) := pa_cons ha (pa_cons hn pa_nil) (star_ok ho)
  refine eby (pe_callB call_isi (glB_ok hg) (F.blt _ (by decide +kernel)) PyProof.Rows.boot_isinstance hargs (by decide +kernel) (by decide +kernel) (star_ok ho) rfl) fun σ H Q ⟨m, ρ, st, er, rp, h⟩ => ?_
  simp only [evE] at h
  refine tE_bd er rp h fun d st1 m1 H1 v x er1 rp1 a h => ?_
  obtain ⟨z, e, h⟩ := sat_of h
  obtain ⟨b, e1, e2⟩ := Option.map_eq_some_iff.mp e
  subst e2
  obtain ⟨aa, hin, ty, eb⟩ := tyX_of a rp1 e1
  refine ⟨v, .ty (tyN t), .type aa, .type (tyN t), b, rfl, .ty _, ty, ?_, sat_ok h rp1 _ (.bl _)⟩
  have k := kit_all aa hin t
  rw [eb] at k
  exact k
theorem s_call {f : Nat} {es : Es} {ex : Expr} {exs : List Expr} {p pos} (F : Facts L n X W) (hf : (L.pr.fns f).isSome = true) (hg : glB X.env.scope (L.fnm f) = true) (hn : okName (L.fnm f) = true) (ha : PA X (ex :: exs) (tEs L n X W es)) (ho : (ex :: exs).all okx = true) :
    PE X (.Call (.Name (L.fnm f) p) (ex :: exs) [] pos) (tE L n X W (.call f es)) := by
  simp only [List.all_cons, Bool.and_eq_true] at ho
  simp only [okName, Bool.and_eq_true, Bool.not_eq_true'] at hn
  obtain ⟨Fd, e⟩ := Option.isSome_iff_exists.mp hf
  obtain ⟨a, fd, ps, e1, e2, e3, e4⟩ := F.fn f Fd e
  refine eby (pe_callS e4 F.room (glB_ok hg) e1 e2 e3 (passAt F.tk) ha hn.1 (star_ok ho.1) (backTo_star ho.2)) fun σ H Q ⟨m, ρ, st, er, rp, h⟩ => ?_
  simp only [evE] at h
  refine tEs_bd er rp h fun ds st1 m1 H1 vs x er1 rp1 a h => ?_
  exact ⟨m1, ds, st1, a, rp1, h⟩
theorem s_call0 {f : Nat} {p pos} (F : Facts L n X W) (hf : (L.pr.fns f).isSome = true) (hg : glB X.env.scope (L.fnm f) = true) (hn : okName (L.fnm f) = true) : PE X (.Call (.Name (L.fnm f) p) [] [] pos) (tE L n X W (.call f .nil)) := by
  simp only [okName, Bool.and_eq_true, Bool.not_eq_true'] at hn
  obtain ⟨Fd, e⟩ := Option.isSome_iff_exists.mp hf
  obtain ⟨a, fd, ps, e1, e2, e3, e4⟩ := F.fn f Fd e
  refine ⟨fun pins s σ H Q I ⟨m, ρ, st, er, rp, h⟩ => ?_⟩
  simp only [evE, evEs, R.bd_ok] at h
  refine wpAny_Call_Name_kw (ld_glob I (glB_ok hg) e1 ?_ hn.1)
  exact PySem.W.callWith_K0 I.kIn e2 (run_fnS (us := []) (vs := []) (E := WE W) e4 F.room e3 (passAt F.tk σ) I .nil ⟨m, [], st, .nil, rp, h⟩)
/-! ### methods -/
def recv : Expr → Bool
  | .Call .. => false
  | _ => true
theorem recv_ok {o : Expr} {name : Str} {env : Env} (h : recv o = true) : attributeBase o name env (eval o env) = eval o env := by
  cases o <;> first | rfl | cases h
/-- a call whose function is a name and that has arguments -/
theorem recv_call {f e : Expr} {es : List Expr} {k : List Keyword} {p : Pos} {name : Str} {env : Env} : attributeBase (.Call f (e :: es) k p) name env (eval (.Call f (e :: es) k p) env) = eval (.Call f (e :: es) k p) env := by
  cases f <;> rfl
theorem recv_callA {o : Expr} {at_ : Str} {q : Pos} {es : List Expr} {k : List Keyword} {p : Pos} {name : Str} {env : Env} : attributeBase (.Call (.Attribute o at_ q) es k p) name env (eval (.Call (.Attribute o at_ q) es k p) env) = eval (.Call (.Attribute o at_ q) es k p) env := rfl
def recvB : Expr → Bool
  | .Call f es _ _ => match f with
    | .Name _ _ => !es.isEmpty
    | _ => true
  | _ => true
theorem recvB_ok {o : Expr} {name : Str} {env : Env} (h : recvB o = true) : attributeBase o name env (eval o env) = eval o env := by
  cases o <;> first | rfl | skip
  rename_i f es k p
  cases es with
  | cons e es => exact recv_call
  | nil => cases f <;> first | rfl | (simp [recvB] at h)
def mthN : Mth → Str
  | .append => "append" | .pop => "pop" | .lindex => "index" | .sindex => "index" | .count => "count" | .get => "get" | .split => "split" | .join => "join"
theorem tyV_list {X : Cx} {v : V} {d : D} {ds : List D} (h : At X.K m H v d) (rp : Rep X.K m H st) (q : lItems st d = some ds) : tyV X.K "list" v H := by
  obtain ⟨a, vs, rfl, _, e⟩ := lItems_ok h rp q
  exact .inl ⟨rfl, vs, .of e⟩
theorem s_pop {a : E} {ea : Expr} {ap pos} (ha : PE X ea (tE L n X W a)) (hr : recvB ea = true) (hl : (ap.endLine == pos.line) = true) : PE X (.Call (.Attribute ea "pop" ap) [] [] pos) (tE L n X W (.mth .pop a .nil)) := by
  refine eby (pe_bm0 PySem.F.plainAttrs_list PySem.F.slot_list_pop rfl m_pop ha (recvB_ok hr) hl) fun σ H Q ⟨m, ρ, st, er, rp, h⟩ => ?_
  simp only [evE, evEs, R.bd_ok] at h
  refine tE_bd er rp h fun d st1 m1 H1 v x er1 rp1 a h => ?_
  split at h
  · rename_i hk
    obtain ⟨ds, e⟩ := Option.isSome_iff_exists.mp hk
    exact ⟨tyV_list a rp1 e, m1, st1, d, [], _, a, .nil, rp1, h⟩
  · exact h.elim
/-- one argument -/
theorem hfew1 {e : Expr} {pos : Pos} {env : Env} (h : okx e = true) : ((backTo pos (starEach [e] env)).all (fun x => !x.1) && (backToKw pos (keywordEach [] env)).all (fun x => x.1.isSome)
      && decide (([e] : List Expr).length + ([] : List Keyword).length + (if ([] : List Keyword).isEmpty then 0 else 1) < 30)) = true := by
  rw [star_ok h]
  rfl
/-- one argument -/
def mthT : Mth → String
  | .append | .pop | .lindex | .count => "list"
  | .get => "dict"
  | _ => "str"
theorem s_mth1 {k : Mth} {a b : E} {ea eb : Expr} {ap pos} {id : String} (hk : k ≠ .get) (pa : PlainAttrs (mthT k)) (slot : Slot (mthT k) (mthN k) id) (hty : typeOf (.builtin id) = pure (.type "method_descriptor")) (hm : MtS X id fun _ => rM X.K k) (ha : PE X ea (tE L n X W a)) (hb : PE X eb (tE L n X W b))
    (ho : okx eb = true) (hr : recvB ea = true) (hl : (ap.endLine == pos.line) = true) : PE X (.Call (.Attribute ea (mthN k) ap) [eb] [] pos) (tE L n X W (.mth k a (.cons b .nil))) := by
  refine eby (pe_bmS pa slot hty hm ha (s_cons hb s_nil ho) (recvB_ok hr) (hfew1 ho) hl (star_ok ho) rfl) fun σ H Q ⟨m, ρ, st, er, rp, h⟩ => ?_
  simp only [evE] at h
  refine tE_bd er rp h fun d st1 m1 H1 v x er1 rp1 a h => ?_
  split at h
  · rename_i hq
    refine ⟨?_, ?_⟩
    · cases k
      case get => exact absurd rfl hk
      case append | pop | lindex | count =>
        obtain ⟨ds, e⟩ := Option.isSome_iff_exists.mp hq
        exact tyV_list a rp1 e
      all_goals
        cases a <;> first | rfl | (simp [recvK] at hq)
    · refine tEs_bd er1 rp1 h fun ds st2 m2 H2 vs y er2 rp2 c h => ?_
      exact ⟨m2, st2, d, ds, _, a.ext y, c, rp2, h⟩
  · exact h.elim
theorem s_mth {k : Mth} {a b : E} {ea eb : Expr} {ap pos} (F : Facts L n X W) (hk : k ≠ .get) (hk2 : k ≠ .pop) (ha : PE X ea (tE L n X W a)) (hb : PE X eb (tE L n X W b))
    (ho : okx eb = true) (hr : recvB ea = true) (hl : (ap.endLine == pos.line) = true) : PE X (.Call (.Attribute ea (mthN k) ap) [eb] [] pos) (tE L n X W (.mth k a (.cons b .nil))) := by
  cases k with
  | append => exact s_mth1 hk PySem.F.plainAttrs_list PySem.F.slot_list_append rfl m_append.toS ha hb ho hr hl
  | pop => exact absurd rfl hk2
  | lindex => exact s_mth1 hk PySem.F.plainAttrs_list PySem.F.slot_list_index rfl m_lindex.toS ha hb ho hr hl
  | sindex => exact s_mth1 hk PySem.F.plainAttrs_str PySem.F.slot_str_index rfl (m_sindex F.calm F.tk) ha hb ho hr hl
  | count => exact s_mth1 hk PySem.F.plainAttrs_list PySem.F.slot_list_count rfl m_count.toS ha hb ho hr hl
  | get => exact absurd rfl hk
  | split => exact s_mth1 hk PySem.F.plainAttrs_str PySem.F.slot_str_split rfl m_split.toS ha hb ho hr hl
  | join => exact s_mth1 hk PySem.F.plainAttrs_str PySem.F.slot_str_join rfl m_join.toS ha hb ho hr hl
/-! ### tests -/
theorem s_tru {a : E} {ea : Expr} (ha : PE X ea (tE L n X W a)) (he : ∀ whole, isTrue ea X.env whole = (do let v ← whole; standAt ea.pos; holding [v] (truthy v))) : PT X ea (tT L n X W a) := by
  refine tby (pt_truth ha he) fun σ H Q ⟨m, ρ, st, er, rp, h⟩ => ?_
  refine tE_bd er rp h fun d st1 m1 H1 v x er1 rp1 a h => ?_
  obtain ⟨k, e, h⟩ := sat_of h
  exact ⟨k, tru_of a rp1 e, sat_ok h rp1⟩
theorem s_Tnot {a : E} {ea : Expr} {pos} (ha : PT X ea (tT L n X W a)) : PT X (.UnaryOp .Not ea pos) (tT L n X W (.not a)) := by
  refine tby (pt_not ha) fun σ H Q ⟨m, ρ, st, er, rp, h⟩ => ?_
  simp only [evE, bd_bd] at h
  refine tT_bd2 er rp h (fun d st q => by simp only [q]; rfl) fun d k st1 m1 H1 x er1 rp1 q h => ?_
  simp only [q] at h
  exact sat_ok h rp1
theorem s_Wand {a b : E} {ea eb : Expr} {rest : List Expr} {pos} (ha : PT X ea (tT L n X W a)) (hb : PW X (.BoolOp .And (eb :: rest) pos) (tT L n X W b)) : PW X (.BoolOp .And (ea :: eb :: rest) pos) (tT L n X W (.and a b)) := by
  refine wby (pw_and ha hb) fun σ H Q ⟨m, ρ, st, er, rp, h⟩ => ?_
  simp only [evE, bd_bd] at h
  refine tT_bd2 er rp h (fun d st q => by simp only [q]; rfl) fun d k st1 m1 H1 x er1 rp1 q h => ?_
  simp only [q] at h
  cases k with
  | true => exact ⟨m1, ρ, st1, er1, rp1, h⟩
  | false =>
    have h : ((R.ok d st1).bd fun d st => R.of (truth st d) st).sat X.K m1 H1 (fun b _ _ H' => Q b H') (xW L X W σ) := h
    simp only [R.bd_ok, q] at h
    exact sat_ok h rp1
theorem s_Wor {a b : E} {ea eb : Expr} {rest : List Expr} {pos} (ha : PT X ea (tT L n X W a)) (hb : PW X (.BoolOp .Or (eb :: rest) pos) (tT L n X W b)) : PW X (.BoolOp .Or (ea :: eb :: rest) pos) (tT L n X W (.or a b)) := by
  refine wby (pw_or ha hb) fun σ H Q ⟨m, ρ, st, er, rp, h⟩ => ?_
  simp only [evE, bd_bd] at h
  refine tT_bd2 er rp h (fun d st q => by simp only [q]; rfl) fun d k st1 m1 H1 x er1 rp1 q h => ?_
  simp only [q] at h
  cases k with
  | false => exact ⟨m1, ρ, st1, er1, rp1, h⟩
  | true =>
    have h : ((R.ok d st1).bd fun d st => R.of (truth st d) st).sat X.K m1 H1 (fun b _ _ H' => Q b H') (xW L X W σ) := h
    simp only [R.bd_ok, q] at h
    exact sat_ok h rp1
theorem s_Tcmp {op : Cop} {a b : E} {ea eb : Expr} {pos} (F : Facts L n X W) (ha : PE X ea (tE L n X W a)) (hb : PE X eb (tE L n X W b)) (ho : okx eb = true) : PT X (.Compare ea [cop op] [eb] pos) (tT L n X W (.cmp op a b)) := by
  refine tby (pt_cmpR (op_cmp F.units op) ha hb (okx_mark ho)) fun σ H Q ⟨m, ρ, st, er, rp, h⟩ => ?_
  simp only [evE, bd_bd] at h
  refine tE_bd er rp h fun d st1 m1 H1 v x er1 rp1 a h => ?_
  (try simp only [bd_bd] at h)
  refine tE_bd er1 rp1 h fun e st2 m2 H2 w y er2 rp2 b h => ?_
  cases q : evCmp op d e st2 with
  | none => rw [q] at h; exact h.elim
  | some k =>
    rw [q] at h
    exact ⟨m2, st2, d, e, k, a.ext y, b, rp2, q, k, rfl, sat_ok h rp2⟩
theorem s_Tchn {o p : Cop} {a b c : E} {ea eb ec : Expr} {pos} (F : Facts L n X W) (ha : PE X ea (tE L n X W a)) (hb : PE X eb (tE L n X W b)) (hc : PE X ec (tE L n X W c)) (ho : okx ec = true) : PT X (.Compare ea [cop o, cop p] [eb, ec] pos) (tT L n X W (.chn o p a b c)) := by
  refine tby (pt_chain (op_cmp F.units o) (op_cmp F.units p) ha hb hc (okx_mark ho)) fun σ H Q ⟨m, ρ, st, er, rp, h⟩ => ?_
  simp only [evE, bd_bd] at h
  refine tE_bd er rp h fun d st1 m1 H1 v x er1 rp1 a h => ?_
  (try simp only [bd_bd] at h)
  refine tE_bd er1 rp1 h fun e st2 m2 H2 w y er2 rp2 b h => ?_
  cases q : evCmp o d e st2 with
  | none => rw [q] at h; exact h.elim
  | some k =>
    rw [q] at h
    refine ⟨m2, st2, d, e, k, a.ext y, b, rp2, q, k, rfl, ?_⟩
    cases k with
    | false => exact ⟨false, rfl, sat_ok h rp2⟩
    | true =>
      have h : (((evE (L.G n) c ρ st2).bd fun z st => R.of ((evCmp p e z st).map .bl) st).bd fun d st => R.of (truth st d) st).sat X.K m2 H2 (fun b _ _ H' => Q b H') (xW L X W σ) := h
      simp only [bd_bd] at h
      refine tE_bd er2 rp2 h fun g st3 m3 H3 w3 y3 er3 rp3 c h => ?_
      cases q2 : evCmp p e g st3 with
      | none => rw [q2] at h; exact h.elim
      | some k =>
        rw [q2] at h
        exact ⟨m3, st3, e, g, k, b.ext y3, c, rp3, q2, k, rfl, sat_ok h rp3⟩
theorem tTest_pc {op : CmpOp} {a b : Expr} {t : TE} {pos} (h : PC X op a b t) (h1 : behindInMarks op b = false) : PT X (.Compare a [op] [b] pos) (fun σ H Q => t σ H fun x H1 => ∃ k, x = .bl k ∧ Q k H1) := tby (pt_cmp h h1) fun σ H Q q => q
theorem s_Tisn {a : E} {ea : Expr} {pos j p} (ha : PE X ea (tE L n X W a)) : PT X (.Compare ea [.Is] [.Constant .none j p] pos) (tT L n X W (.isn a)) := by
  refine tby (tTest_pc (pc_isN ha) rfl) fun σ H Q ⟨m, ρ, st, er, rp, h⟩ => ?_
  simp only [evE, bd_bd] at h
  refine tE_bd er rp h fun d st1 m1 H1 v x er1 rp1 a h => ?_
  cases a <;> exact ⟨_, rfl, sat_ok h rp1⟩
theorem s_Tnisn {a : E} {ea : Expr} {pos j p} (ha : PE X ea (tE L n X W a)) : PT X (.Compare ea [.IsNot] [.Constant .none j p] pos) (tT L n X W (.nisn a)) := by
  refine tby (tTest_pc (pc_notN ha) rfl) fun σ H Q ⟨m, ρ, st, er, rp, h⟩ => ?_
  simp only [evE, bd_bd] at h
  refine tE_bd er rp h fun d st1 m1 H1 v x er1 rp1 a h => ?_
  cases a <;> exact ⟨_, rfl, sat_ok h rp1⟩
theorem s_Tife {c a b : E} {ec ea eb : Expr} {pos} (hc : PT X ec (tT L n X W c)) (ha : PT X ea (tT L n X W a)) (hb : PT X eb (tT L n X W b)) : PT X (.IfExp ec ea eb pos) (tT L n X W (.ife c a b)) := by
  have key : PT X (.IfExp ec ea eb pos) (fun σ H Q => tT L n X W c σ H fun k H1 => if k = true then tT L n X W a σ H1 Q else tT L n X W b σ H1 Q) := by
    refine ⟨fun pins s σ H Q I h => ?_⟩
    show wpAny _ _ (do if ← isTrue ec X.env (eval ec X.env) then isTrue ea X.env (eval ea X.env) else isTrue eb X.env (eval eb X.env)) _ _ s
    refine wpAny_bind (thn (hc.run pins s σ H _ I h) fun k s1 ⟨H1, I1, q1⟩ => ?_)
    cases k with
    | true => exact ha.run pins s1 σ H1 _ I1 q1
    | false => exact hb.run pins s1 σ H1 _ I1 q1
  refine tby key fun σ H Q ⟨m, ρ, st, er, rp, h⟩ => ?_
  simp only [evE, bd_bd] at h
  refine tT_bd2 er rp h (fun d st q => by simp only [q]; rfl) fun d k st1 m1 H1 x er1 rp1 q h => ?_
  simp only [q] at h
  cases k with
  | true => exact ⟨m1, ρ, st1, er1, rp1, h⟩
  | false => exact ⟨m1, ρ, st1, er1, rp1, h⟩
end
end MP
end

section
set_option Elab.async false
set_option linter.all false
set_option maxRecDepth 100000
set_option maxHeartbeats 1000000
/-! zip of a list and a tuple. -/
namespace MZ
open PySem PySem.Spec PyProof.Rows L2
open PySem.Sem (wp)
/-- l is a tuple (b) or a list -/
def IsS (b : Bool) (h : Heap) (l : Addr) (xs : Array Value) : Prop := if b = true then h.IsTuple l xs else h.IsList l xs
def IsI (b : Bool) (h : Heap) (it l : Addr) (i : Nat) : Prop := if b = true then h.IsTupleIter it l i else h.IsListIter it l i
theorem IsS.eb {b : Bool} {h g : Heap} {l a : Addr} {xs : Array Value} (x : IsS b h l xs) (k : Heap.ExtBut a h g) (n : l ≠ a) : IsS b g l xs := by
  cases b with
  | true => exact Heap.IsTuple.extBut (show h.IsTuple l xs from x) k n
  | false => exact Heap.IsList.extBut (show h.IsList l xs from x) k n
theorem IsI.eb {b : Bool} {h g : Heap} {it l a : Addr} {i : Nat} (x : IsI b h it l i) (k : Heap.ExtBut a h g) (n : it ≠ a) : IsI b g it l i := by
  cases b with
  | true => exact Heap.IsTupleIter.extBut (show h.IsTupleIter it l i from x) k n
  | false => exact Heap.IsListIter.extBut (show h.IsListIter it l i from x) k n
theorem IsI.obj {b : Bool} {h : Heap} {it l : Addr} {i : Nat} (x : IsI b h it l i) : ∃ o vs, h.get? it = some o ∧ o.data = .fields vs := by
  cases b with
  | true => obtain ⟨o, e, _, d⟩ := (show h.IsTupleIter it l i from x); exact ⟨o, _, e, d⟩
  | false => obtain ⟨o, e, _, d⟩ := (show h.IsListIter it l i from x); exact ⟨o, _, e, d⟩
theorem IsI.at' {b : Bool} {h g : Heap} {it l : Addr} {i : Nat} (x : IsI b h it l i) (k : ∀ o, h.get? it = some o → g.get? it = some o) : IsI b g it l i := by
  cases b with
  | true => exact (show h.IsTupleIter it l i from x).at k
  | false => exact (show h.IsListIter it l i from x).at k
section
variable {prog : Program} {w : World} {A : Around} {E : Value → Shared → Prop} {s : Shared}
theorem next_one {b : Bool} {it l : Addr} {i : Nat} {xs : Array Value} {x : Value} {Q : Value → Shared → Prop} (hi : IsI b s.heap it l i) (hl : IsS b s.heap l xs) (hx : xs[i]? = some x)
    (k : ∀ g, IsI b g it l (i + 1) → Heap.SameBut it s.heap g → Q x { s with heap := g }) : wpAny (model prog w) A (Builtin.SmallTypes.nextOf (.ref it)) Q E s := by
  cases b with
  | true => exact RZ.nextOf_tuple_item (show s.heap.IsTupleIter it l i from hi) hl hx k
  | false => exact wpAny_nextOf_list_item (show s.heap.IsListIter it l i from hi) hl hx k
theorem next_end {b : Bool} {it l : Addr} {i : Nat} {xs : Array Value} {Q : Value → Shared → Prop} (hh : A.handled = none) (hi : IsI b s.heap it l i) (hl : IsS b s.heap l xs) (hx : xs[i]? = none)
    (k : ∀ g e, Heap.ExtBut it s.heap g → (∃ o, g.get? e = some o ∧ o.cls = .type "StopIteration") → E (.ref e) { s with heap := g }) : wpAny (model prog w) A (Builtin.SmallTypes.nextOf (.ref it)) Q E s := by
  cases b with
  | true => exact RZ.nextOf_tuple_end hh (show s.heap.IsTupleIter it l i from hi) hl hx k
  | false => exact wpAny_nextOf_list_end hh (show s.heap.IsListIter it l i from hi) hl hx k
variable {b c : Bool} {z TI TO p q l1 l2 : Addr} {k1 k2 : Nat} {xs ys : Array Value} {x y u v : Value}
theorem step_item {Q : Value → Shared → Prop} (D : ZipApart z TI TO p q l1 l2) (hz : IsZip s.heap z TI TO .none) (hI : IsPair s.heap TI (.ref p) (.ref q)) (hO : IsPair s.heap TO u v)
    (a1 : IsI b s.heap p l1 k1) (a2 : IsI c s.heap q l2 k2) (m1 : IsS b s.heap l1 xs) (m2 : IsS c s.heap l2 ys) (hx : xs[k1]? = some x) (hy : ys[k2]? = some y)
    (k : ∀ g, IsZip g z TI TO (rawInt s.heap.objs.size) → IsPair g TO x y → IsI b g p l1 (k1 + 1) → IsI c g q l2 (k2 + 1) → IsPair g s.heap.objs.size x y → g.objs.size = s.heap.objs.size + 1 →
      (∀ d o, d ≠ z → d ≠ TO → d ≠ p → d ≠ q → s.heap.get? d = some o → g.get? d = some o) → Q (.ref s.heap.objs.size) { s with heap := g }) :
    wpAny (model prog w) A (Builtin.«zip.__next__» ⟨[.ref z], []⟩) (fun f s' => ∃ r, f = .done (.ret r) ∧ Q r s') E s := by
  show wpAny _ _ (field (.ref z) 2 >>= _) _ _ s
  refine wpAny_bind (wpAny_field hz rfl (x := .bool false) rfl ?_)
  show wpAny _ _ (field (.ref z) 3 >>= _) _ _ s
  refine wpAny_bind (wpAny_field hz rfl (x := .ref TI) rfl (wpAny_bind (wpAny_seqItems hI rfl ?_)))
  show wpAny _ _ (Builtin.SmallTypes.ownedTupleIsFree (.ref z) >>= _) _ _ s
  refine wpAny_bind ?_
  unfold Builtin.SmallTypes.ownedTupleIsFree
  refine wpAny_bind (wpAny_field hz rfl (x := Value.none) rfl (wpAny_pure ?_))
  simp only [if_true]
  refine wpAny_bind (wpAny_rule (wpAny_bind (wpAny_field hz rfl (x := .ref TO) rfl (wpAny_bind (wpAny_setField_rec hz (by simp) fun g1 z1 s1 => ?_)))))
  replace z1 : IsZip g1 z TI TO .ellipsis := z1
  refine wpAny_bind ?_
  simp only [List.zipIdx_cons, List.zipIdx_nil, List.forIn_cons, List.forIn_nil]
  refine wpAny_bind (wpAny_bind (wpAny_onRaise ?_))
  show wpAny _ _ (Builtin.SmallTypes.nextOf (.ref p) >>= _) _ _ _
  refine wpAny_bind (next_one (a1.eb s1.extBut D.i1z) (m1.eb s1.extBut D.l1z) hx fun g2 b1 s2 => wpAny_pure ?_)
  have O2 : IsPair g2 TO u v := s2.extBut _ _ D.TOi1 (s1.extBut _ _ D.TOz hO)
  refine wpAny_bind (wpAny_seqItems O2 rfl (wpAny_bind (wpAny_updateSeq_pair O2 fun g3 O3 s3 => ?_)))
  replace O3 : IsPair g3 TO x v := O3
  refine wpAny_bind (wpAny_letGo (wpAny_pure (wpAny_bind (wpAny_bind (wpAny_onRaise ?_)))))
  show wpAny _ _ (Builtin.SmallTypes.nextOf (.ref q) >>= _) _ _ _
  refine wpAny_bind (next_one (((a2.eb s1.extBut D.i2z).eb s2.extBut D.i12.symm).eb s3.extBut D.TOi2.symm) (((m2.eb s1.extBut D.l2z).eb s2.extBut D.l2i1).eb s3.extBut D.l2TO) hy fun g4 b2 s4 => wpAny_pure ?_)
  have O4 : IsPair g4 TO x v := s4.extBut _ _ D.TOi2 O3
  refine wpAny_bind (wpAny_seqItems O4 rfl (wpAny_bind (wpAny_updateSeq_pair O4 fun g5 O5 s5 => ?_)))
  replace O5 : IsPair g5 TO x y := O5
  refine wpAny_bind (wpAny_letGo (wpAny_pure (wpAny_pure (wpAny_bind (wpAny_seqItems O5 rfl (wpAny_bind (wpAny_newTuple ?_)))))))
  have sz : g5.objs.size = s.heap.objs.size := by rw [s5.1, s4.1, s3.1, s2.1, s1.1]
  have z5 : IsZip g5 z TI TO .ellipsis := s5.extBut _ _ D.TOz.symm (s4.extBut _ _ D.i2z.symm (s3.extBut _ _ D.TOz.symm (s2.extBut _ _ D.i1z.symm z1)))
  have kp : ∀ d o, d ≠ z → d ≠ TO → d ≠ p → d ≠ q → s.heap.get? d = some o → g5.get? d = some o := fun d o n1 n2 n3 n4 e =>
    s5.extBut _ _ n2 (s4.extBut _ _ n4 (s3.extBut _ _ n2 (s2.extBut _ _ n3 (s1.extBut _ _ n1 e))))
  have t1 : IsI b g5 p l1 (k1 + 1) := ((b1.eb s3.extBut D.TOi1.symm).eb s4.extBut D.i12).eb s5.extBut D.TOi1.symm
  have t2 : IsI c g5 q l2 (k2 + 1) := b2.eb s5.extBut D.TOi2.symm
  have zl : z < g5.objs.size := Heap.lt_size z5
  show wpAny _ _ (Builtin.SmallTypes.ownedTupleHandOut (.ref z) (.ref g5.objs.size) >>= _) _ _ _
  refine wpAny_bind ?_
  unfold Builtin.SmallTypes.ownedTupleHandOut
  have z6 : IsZip (g5.push { cls := .type "tuple", data := .seq #[x, y] }) z TI TO .ellipsis := Heap.get?_push_of_some _ z5
  refine wpAny_bind (wpAny_setField_rec z6 (by simp) fun g7 z7 s7 => ?_)
  replace z7 : IsZip g7 z TI TO (rawInt g5.objs.size) := z7
  refine wpAny_setField_rec z7 (by simp) fun g8 z8 s8 => ?_
  replace z8 : IsZip g8 z TI TO (rawInt g5.objs.size) := z8
  have up : ∀ d o, d ≠ z → g5.get? d = some o → g8.get? d = some o := fun d o n e => s8.extBut _ _ n (s7.extBut _ _ n (Heap.get?_push_of_some _ e))
  have T8 : IsPair g8 g5.objs.size x y := s8.extBut _ _ (Nat.ne_of_gt zl) (s7.extBut _ _ (Nat.ne_of_gt zl) (Heap.get?_push_size _ rfl))
  have n8 : g8.objs.size = g5.objs.size + 1 := by rw [s8.1, s7.1, Heap.size_push]
  rw [sz] at z8 T8 n8
  refine wpAny_pure ⟨_, rfl, ?_⟩
  show Q (.ref g5.objs.size) _
  rw [sz]
  exact k g8 z8 (up _ _ D.TOz O5) (t1.at' fun o e => up _ o D.i1z e) (t2.at' fun o e => up _ o D.i2z e) T8 n8 fun d o n1 n2 n3 n4 e => up d o n1 (kp d o n1 n2 n3 n4 e)
theorem step_end {Q : Fin → Shared → Prop} (hh : A.handled = none) (D : ZipApart z TI TO p q l1 l2) (hz : IsZip s.heap z TI TO .none) (hI : IsPair s.heap TI (.ref p) (.ref q)) (hO : IsPair s.heap TO u v)
    (a1 : IsI b s.heap p l1 k1) (a2 : IsI c s.heap q l2 k2) (m1 : IsS b s.heap l1 xs) (m2 : IsS c s.heap l2 ys) (he : xs[k1]? = none ∨ ys[k2]? = none)
    (k : ∀ g e, (∀ d o, d ≠ z → d ≠ TO → d ≠ p → d ≠ q → s.heap.get? d = some o → g.get? d = some o) → (∃ o, g.get? e = some o ∧ o.cls = .type "StopIteration") → E (.ref e) { s with heap := g }) :
    wpAny (model prog w) A (Builtin.«zip.__next__» ⟨[.ref z], []⟩) Q E s := by
  show wpAny _ _ (field (.ref z) 2 >>= _) _ _ s
  refine wpAny_bind (wpAny_field hz rfl (x := .bool false) rfl ?_)
  show wpAny _ _ (field (.ref z) 3 >>= _) _ _ s
  refine wpAny_bind (wpAny_field hz rfl (x := .ref TI) rfl (wpAny_bind (wpAny_seqItems hI rfl ?_)))
  show wpAny _ _ (Builtin.SmallTypes.ownedTupleIsFree (.ref z) >>= _) _ _ s
  refine wpAny_bind ?_
  unfold Builtin.SmallTypes.ownedTupleIsFree
  refine wpAny_bind (wpAny_field hz rfl (x := Value.none) rfl (wpAny_pure ?_))
  simp only [if_true]
  refine wpAny_bind (wpAny_rule (wpAny_bind (wpAny_field hz rfl (x := .ref TO) rfl (wpAny_bind (wpAny_setField_rec hz (by simp) fun g1 z1 s1 => ?_)))))
  replace z1 : IsZip g1 z TI TO .ellipsis := z1
  refine wpAny_bind ?_
  simp only [List.zipIdx_cons, List.zipIdx_nil, List.forIn_cons, List.forIn_nil]
  refine wpAny_bind (wpAny_bind (wpAny_onRaise ?_))
  show wpAny _ _ (Builtin.SmallTypes.nextOf (.ref p) >>= _) _ _ _
  cases hx : xs[k1]? with
  | none =>
    refine wpAny_bind (next_end hh (a1.eb s1.extBut D.i1z) (m1.eb s1.extBut D.l1z) hx fun g2 e s2 he => ?_)
    obtain ⟨o, ho, hc⟩ := he
    have z2 : IsZip g2 z TI TO .ellipsis := s2 _ _ D.i1z.symm z1
    have ez : e ≠ z := fun r => by subst r; rw [z2] at ho; cases ho; simp at hc
    refine wpAny_setField_rec z2 (by simp) fun g3 _ s3 => k g3 e (fun d o n1 _ n3 _ r => s3.extBut _ _ n1 (s2 _ _ n3 (s1.extBut _ _ n1 r))) ⟨o, s3.extBut _ _ ez ho, hc⟩
  | some x =>
    have hy : ys[k2]? = none := by
      rcases he with h | h
      · rw [hx] at h; cases h
      · exact h
    refine wpAny_bind (next_one (a1.eb s1.extBut D.i1z) (m1.eb s1.extBut D.l1z) hx fun g2 b1 s2 => wpAny_pure ?_)
    have O2 : IsPair g2 TO u v := s2.extBut _ _ D.TOi1 (s1.extBut _ _ D.TOz hO)
    refine wpAny_bind (wpAny_seqItems O2 rfl (wpAny_bind (wpAny_updateSeq_pair O2 fun g3 O3 s3 => ?_)))
    refine wpAny_bind (wpAny_letGo (wpAny_pure (wpAny_bind (wpAny_bind (wpAny_onRaise ?_)))))
    show wpAny _ _ (Builtin.SmallTypes.nextOf (.ref q) >>= _) _ _ _
    refine wpAny_bind (next_end hh (((a2.eb s1.extBut D.i2z).eb s2.extBut D.i12.symm).eb s3.extBut D.TOi2.symm) (((m2.eb s1.extBut D.l2z).eb s2.extBut D.l2i1).eb s3.extBut D.l2TO) hy fun g4 e s4 he => ?_)
    obtain ⟨o, ho, hc⟩ := he
    have z4 : IsZip g4 z TI TO .ellipsis := s4 _ _ D.i2z.symm (s3.extBut _ _ D.TOz.symm (s2.extBut _ _ D.i1z.symm z1))
    have ez : e ≠ z := fun r => by subst r; rw [z4] at ho; cases ho; simp at hc
    refine wpAny_setField_rec z4 (by simp) fun g5 _ s5 => k g5 e (fun d o n1 n2 n3 n4 r => s5.extBut _ _ n1 (s4 _ _ n4 (s3.extBut _ _ n2 (s2.extBut _ _ n3 (s1.extBut _ _ n1 r))))) ⟨o, s5.extBut _ _ ez ho, hc⟩
theorem turn_item {Q : Option Value → Shared → Prop} (D : ZipApart z TI TO p q l1 l2) (hz : IsZip s.heap z TI TO .none) (hI : IsPair s.heap TI (.ref p) (.ref q)) (hO : IsPair s.heap TO u v)
    (a1 : IsI b s.heap p l1 k1) (a2 : IsI c s.heap q l2 k2) (m1 : IsS b s.heap l1 xs) (m2 : IsS c s.heap l2 ys) (hx : xs[k1]? = some x) (hy : ys[k2]? = some y)
    (k : ∀ g, IsZip g z TI TO (rawInt s.heap.objs.size) → IsPair g TO x y → IsI b g p l1 (k1 + 1) → IsI c g q l2 (k2 + 1) → IsPair g s.heap.objs.size x y → g.objs.size = s.heap.objs.size + 1 →
      (∀ d o, d ≠ z → d ≠ TO → d ≠ p → d ≠ q → s.heap.get? d = some o → g.get? d = some o) → Q (some (.ref s.heap.objs.size)) { s with heap := g }) :
    wpAny (model prog w) A (pyNext (.ref z)) Q E s := by
  have ty : s.TypeIs (.ref z) "zip" := ⟨_, hz, rfl⟩
  unfold pyNext
  exact wpAny_bind (wpAny_attempt (wpAny_callSpecial?_slot (name := Str.ofString "__next__") ty F.slot_zip_next (wpAny_call_entry F.slot_zip_next ty F.entry_zip_next
      (step_item D hz hI hO a1 a2 m1 m2 hx hy fun g r1 r2 r3 r4 r5 r6 r7 => wpAny_pure (k g r1 r2 r3 r4 r5 r6 r7)) (F.args_zip_next_1 _))))
theorem turn_end {Q : Option Value → Shared → Prop} (hh : A.handled = none) (D : ZipApart z TI TO p q l1 l2) (hz : IsZip s.heap z TI TO .none) (hI : IsPair s.heap TI (.ref p) (.ref q)) (hO : IsPair s.heap TO u v)
    (a1 : IsI b s.heap p l1 k1) (a2 : IsI c s.heap q l2 k2) (m1 : IsS b s.heap l1 xs) (m2 : IsS c s.heap l2 ys) (he : xs[k1]? = none ∨ ys[k2]? = none)
    (k : ∀ g, (∀ d o, d ≠ z → d ≠ TO → d ≠ p → d ≠ q → s.heap.get? d = some o → g.get? d = some o) → Q none { s with heap := g }) : wpAny (model prog w) A (pyNext (.ref z)) Q E s := by
  have ty : s.TypeIs (.ref z) "zip" := ⟨_, hz, rfl⟩
  unfold pyNext
  refine wpAny_bind (wpAny_attempt (wpAny_callSpecial?_slot (name := Str.ofString "__next__") ty F.slot_zip_next (wpAny_call_entry F.slot_zip_next ty F.entry_zip_next (step_end hh D hz hI hO a1 a2 m1 m2 he fun g e r1 r2 => ?_) (F.args_zip_next_1 _))))
  obtain ⟨o, ho, hc⟩ := r2
  exact wpAny_bind (wpAny_isInstance (T := "StopIteration") (b := true) ⟨o, ho, hc⟩ isSubtype_stop (wpAny_pure (k _ r1)))
end
/-! ### the making -/
def itN (b : Bool) : String := if b = true then "tuple_iterator" else "list_iterator"
abbrev zh1 (b : Bool) (h : Heap) (l1 : Addr) : Heap := h.push { cls := .type (itN b), data := .fields #[.ref l1, .int 0 0] }
abbrev zh2 (b c : Bool) (h : Heap) (l1 l2 : Addr) : Heap := (zh1 b h l1).push { cls := .type (itN c), data := .fields #[.ref l2, .int 0 0] }
abbrev zh3 (b c : Bool) (h : Heap) (l1 l2 : Addr) : Heap := (zh2 b c h l1 l2).push { cls := .type "tuple", data := .seq #[.ref h.objs.size, .ref (zh1 b h l1).objs.size] }
abbrev zh4 (b c : Bool) (h : Heap) (l1 l2 : Addr) : Heap := (zh3 b c h l1 l2).push { cls := .type "tuple", data := .seq #[.none, .none] }
abbrev zh5 (b c : Bool) (h : Heap) (l1 l2 : Addr) : Heap := (zh4 b c h l1 l2).push { cls := .type "zip", data := .fields #[.none, .bool false, .bool false, .ref (zh2 b c h l1 l2).objs.size, .ref (zh3 b c h l1 l2).objs.size] }
theorem new_lt (l1 l2 : Addr) (xs ys : Array Value) : Meets (Builtin.«zip.__new__» ⟨[.type "zip", .ref l1, .ref l2], []⟩) (fun _ R s => s.heap.IsList l1 xs ∧ s.heap.IsTuple l2 ys ∧
      R (.ok (.ret (.ref (zh4 false true s.heap l1 l2).objs.size))) { s with heap := zh5 false true s.heap l1 l2 }) :=
  .of_wp fun prog w A R s h => by
    obtain ⟨hp, gs, dr, tk, os⟩ := s
    obtain ⟨g1, g2, h⟩ := h
    have sz := sub_zip
    have e1 : Heap.IsList (Shared.heap ⟨hp, gs, dr, tk, os⟩) l1 xs := g1
    have e2 : Heap.IsTuple (Shared.heap ⟨hp.push { cls := .type "list_iterator", data := .fields #[.ref l1, .int 0 0] }, gs, dr, tk, os⟩) l2 ys := Heap.IsTuple.push g2 _
    wp_walk using wpAny_pyIter_list e1, wpAny_pyIter_tuple e2
    exact ⟨_, rfl, h⟩
theorem new_tl (l1 l2 : Addr) (xs ys : Array Value) : Meets (Builtin.«zip.__new__» ⟨[.type "zip", .ref l1, .ref l2], []⟩) (fun _ R s => s.heap.IsTuple l1 xs ∧ s.heap.IsList l2 ys ∧
      R (.ok (.ret (.ref (zh4 true false s.heap l1 l2).objs.size))) { s with heap := zh5 true false s.heap l1 l2 }) :=
  .of_wp fun prog w A R s h => by
    obtain ⟨hp, gs, dr, tk, os⟩ := s
    obtain ⟨g1, g2, h⟩ := h
    have sz := sub_zip
    have e1 : Heap.IsTuple (Shared.heap ⟨hp, gs, dr, tk, os⟩) l1 xs := g1
    have e2 : Heap.IsList (Shared.heap ⟨hp.push { cls := .type "tuple_iterator", data := .fields #[.ref l1, .int 0 0] }, gs, dr, tk, os⟩) l2 ys := Heap.IsList.push g2 _
    wp_walk using wpAny_pyIter_tuple e1, wpAny_pyIter_list e2
    exact ⟨_, rfl, h⟩
section
variable {prog : Program} {w : World} {A : Around} {E : Value → Shared → Prop} {s : Shared}
theorem call_mix {b c : Bool} (hbc : b ≠ c) {l1 l2 : Addr} {xs ys : Array Value} {Q : Value → Shared → Prop} (m1 : IsS b s.heap l1 xs) (m2 : IsS c s.heap l2 ys)
    (k : ∀ g, IsZip g (s.heap.objs.size + 4) (s.heap.objs.size + 2) (s.heap.objs.size + 3) .none → IsPair g (s.heap.objs.size + 2) (.ref s.heap.objs.size) (.ref (s.heap.objs.size + 1)) →
      IsPair g (s.heap.objs.size + 3) .none .none → IsI b g s.heap.objs.size l1 0 → IsI c g (s.heap.objs.size + 1) l2 0 → (∀ d o, s.heap.get? d = some o → g.get? d = some o) → Q (.ref (s.heap.objs.size + 4)) { s with heap := g }) :
    wpAny (model prog w) A (call (.type "zip") [.ref l1, .ref l2]) Q E s := by
  have z1 : (zh1 b s.heap l1).objs.size = s.heap.objs.size + 1 := Heap.size_push ..
  have z2 : (zh2 b c s.heap l1 l2).objs.size = s.heap.objs.size + 2 := by rw [Heap.size_push, z1]
  have z3 : (zh3 b c s.heap l1 l2).objs.size = s.heap.objs.size + 3 := by rw [Heap.size_push, z2]
  have z4 : (zh4 b c s.heap l1 l2).objs.size = s.heap.objs.size + 4 := by rw [Heap.size_push, z3]
  have g5 : (zh5 b c s.heap l1 l2).get? (zh4 b c s.heap l1 l2).objs.size = some _ := Heap.get?_push_size _ rfl
  have g4 : (zh5 b c s.heap l1 l2).get? (zh3 b c s.heap l1 l2).objs.size = some _ := Heap.get?_push_of_some _ (Heap.get?_push_size _ rfl)
  have g3 : (zh5 b c s.heap l1 l2).get? (zh2 b c s.heap l1 l2).objs.size = some _ := Heap.get?_push_of_some _ (Heap.get?_push_of_some _ (Heap.get?_push_size _ rfl))
  have g2 : (zh5 b c s.heap l1 l2).get? (zh1 b s.heap l1).objs.size = some _ := Heap.get?_push_of_some _ (Heap.get?_push_of_some _ (Heap.get?_push_of_some _ (Heap.get?_push_size _ rfl)))
  have g1 : (zh5 b c s.heap l1 l2).get? s.heap.objs.size = some _ := Heap.get?_push_of_some _ (Heap.get?_push_of_some _ (Heap.get?_push_of_some _ (Heap.get?_push_of_some _ (Heap.get?_push_size _ rfl))))
  rw [z2, z3, z4] at g5
  rw [z1, z2] at g3
  rw [z3] at g4
  rw [z1] at g2
  have kk : Q (.ref (zh4 b c s.heap l1 l2).objs.size) { s with heap := zh5 b c s.heap l1 l2 } := by
    rw [z4]
    refine k _ g5 g3 g4 ?_ ?_ fun d o e => Heap.get?_push_of_some _ (Heap.get?_push_of_some _ (Heap.get?_push_of_some _ (Heap.get?_push_of_some _ (Heap.get?_push_of_some _ e))))
    · cases b <;> exact ⟨_, g1, rfl, rfl⟩
    · cases c <;> exact ⟨_, g2, rfl, rfl⟩
  have gz : ∃ o, (zh5 b c s.heap l1 l2).get? (zh4 b c s.heap l1 l2).objs.size = some o ∧ o.cls = .type "zip" := by
    rw [z4]
    exact ⟨_, g5, rfl⟩
  cases b with
  | true =>
    cases c with
    | true => exact absurd rfl hbc
    | false => exact callType_new F.called_zip (by decide) (F.typeCall_zip_2 _ _) (F.newCall_zip_2 _ _) (fun obj => F.args_object_init_3 obj _ _) F.entry_zip_new (new_tl l1 l2 xs ys) ⟨m1, m2, gz, kk⟩
  | false =>
    cases c with
    | false => exact absurd rfl hbc
    | true => exact callType_new F.called_zip (by decide) (F.typeCall_zip_2 _ _) (F.newCall_zip_2 _ _) (fun obj => F.args_object_init_3 obj _ _) F.entry_zip_new (new_lt l1 l2 xs ys) ⟨m1, m2, gz, kk⟩
end
/-! ### over the layer -/
def Sq (b : Bool) (K : PySem.W.Frag) (H : Hp) (a : Addr) (xs : List V) : Prop := if b = true then SqT K H a xs else SqL K H a xs
def ItM (b c : Bool) (K : PySem.W.Frag) (a d : Addr) : It :=
  ⟨fun i H => ∃ (xs ys : List V) (x y : V), Sq b K H a xs ∧ Sq c K H d ys ∧ xs[i]? = some x ∧ ys[i]? = some y,
    fun i H v H' => ∃ T x y, v = .ref T ∧ H T = none ∧ H' = upd H T (.tup [x, y]) ∧ (∀ xs, Sq b K H a xs → xs[i]? = some x) ∧ ∀ ys, Sq c K H d ys → ys[i]? = some y,
    fun i H => ∃ xs ys : List V, Sq b K H a xs ∧ Sq c K H d ys ∧ (xs.length ≤ i ∨ ys.length ≤ i)⟩
theorem sq_of {b : Bool} {X : Cx} {pins : List (Addr × Obj)} {σ : L2.St} {H : Hp} {s : Shared} {a : Addr} {xs : List V} (I : Inv X pins σ H s) (h : Sq b X.K H a xs) : ∃ its : List Value, Vals xs its ∧ IsS b s.heap a its.toArray ∧ a < s.heap.objs.size := by
  cases b with
  | true =>
    obtain ⟨its, r, p, _⟩ := I.tuple (show SqT X.K H a xs from h)
    obtain ⟨o, ho, _⟩ := id p
    exact ⟨its, r, p, Heap.lt_size ho⟩
  | false =>
    obtain ⟨its, r, p, _⟩ := I.list (show SqL X.K H a xs from h)
    exact ⟨its, r, p.isList, p.lt⟩
theorem sq_inj {b : Bool} {X : Cx} {pins : List (Addr × Obj)} {σ : L2.St} {H : Hp} {s : Shared} {a : Addr} {xs ys : List V} (I : Inv X pins σ H s) (h : Sq b X.K H a xs) (k : Sq b X.K H a ys) : xs = ys := by
  cases b with
  | true => exact I.tuple_inj (show SqT X.K H a xs from h) k
  | false => exact I.list_inj (show SqL X.K H a xs from h) k
theorem turn_mix {b c : Bool} {P : Program} {w : World} {K : PySem.W.Frag} {elts : List Expr} {kk : Nat} {tpos : Pos} {a d z TI TO p q : Addr} (D : ZipApart z TI TO p q a d) :
    Turn P w K (.Tuple elts kk tpos) (ItM b c K a d) [z, TI, TO, p, q] z (fun i h => IsZip h z TI TO .none ∧ IsPair h TI (.ref p) (.ref q) ∧ (∃ x y, IsPair h TO x y) ∧ IsI b h p a i ∧ IsI c h q d i) where
  mem := by simp
  obj := fun i h st e he => by
    obtain ⟨hz, hI, ⟨x, y, hO⟩, h1, h2⟩ := st
    obtain ⟨o1, _, e1, d1⟩ := h1.obj
    obtain ⟨o2, _, e2, d2⟩ := h2.obj
    have e' : e = z ∨ e = TI ∨ e = TO ∨ e = p ∨ e = q := by simpa using he
    rcases e' with r | r | r | r | r
    · subst r; exact ⟨_, hz, fun v q => nomatch q⟩
    · subst r; exact ⟨_, hI, fun v q => nomatch q⟩
    · subst r; exact ⟨_, hO, fun v q => nomatch q⟩
    · subst r; exact ⟨o1, e1, fun v q => by rw [d1] at q; cases q⟩
    · subst r; exact ⟨o2, e2, fun v q => by rw [d2] at q; cases q⟩
  keep := fun i h g st k => by
    obtain ⟨hz, hI, ⟨x, y, hO⟩, h1, h2⟩ := st
    exact ⟨k z (by simp) _ hz, k TI (by simp) _ hI, ⟨x, y, k TO (by simp) _ hO⟩, h1.at' fun o r => k p (by simp) o r, h2.at' fun o r => k q (by simp) o r⟩
  item := by
    intro X hP hw hK hc i pins s σ H E I hf st hg
    subst hP hw hK
    obtain ⟨hz, hI, ⟨x0, y0, hO⟩, h1, h2⟩ := st
    obtain ⟨xs, ys, x, y, qx, qy, hx, hy⟩ := hg
    obtain ⟨its, rv, p1, _⟩ := sq_of I qx
    obtain ⟨its2, rv2, p2, _⟩ := sq_of I qy
    obtain ⟨u, hu, ru⟩ := rv.get hx
    obtain ⟨u2, hu2, ru2⟩ := rv2.get hy
    have zl : z < s.heap.objs.size := Heap.lt_size hz
    refine turn_item D hz hI hO h1 h2 p1 p2 (x := u) (y := u2) (by simpa using hu) (by simpa using hu2) fun g z' O' t1 t2 T' sz kp => ?_
    refine ⟨_, rfl, wpAny_letOwnedTupleGo_zip (s := { s with heap := g }) z' fun g2 z2 sb => ?_⟩
    have T2 : g2.get? s.heap.objs.size = some { cls := .type "tuple", data := .seq #[u, u2] } := (sb.2 _ (Nat.ne_of_gt zl)).trans T'
    have nw : ObjOk X.prog X.w (upd H s.heap.objs.size (.tup [x, y])) g2 s.heap.objs.size (.tup [x, y]) := ⟨by show 2 ≤ sizeLine; decide, [u, u2], .cons ru (.cons ru2 .nil), ⟨_, T2, rfl, _, rfl⟩⟩
    have I1 : Inv X pins σ (upd H s.heap.objs.size (.tup [x, y])) { s with heap := g2 } :=
      I.turnedNew (t' := s.toks) (ch := [z, TI, TO, p, q]) (fun e o hb r => (sb.2 e (fun n => hb (by simp [n]))).trans (kp e o (fun n => hb (by simp [n])) (fun n => hb (by simp [n])) (fun n => hb (by simp [n])) (fun n => hb (by simp [n])) r)) hf (Nat.le_refl _) nw
    refine ⟨.ref s.heap.objs.size, _, I1, rfl, ⟨_, x, y, rfl, I.hok.fresh (Nat.le_refl _), rfl, fun l hl => by rw [sq_inj I hl qx]; exact hx, fun l hl => by rw [sq_inj I hl qy]; exact hy⟩, ⟨z2, ?_, ⟨u, u2, ?_⟩, ?_, ?_⟩, fun e he => ?_⟩
    · exact (sb.2 _ D.TIz).trans (kp _ _ D.TIz D.TITO D.TIi1 D.TIi2 hI)
    · exact (sb.2 _ D.TOz).trans O'
    · exact t1.at' fun o r => (sb.2 _ D.i1z).trans r
    · exact t2.at' fun o r => (sb.2 _ D.i2z).trans r
    · have hlt : e < s.heap.objs.size := by
        obtain ⟨_, _, e1, _⟩ := h1.obj
        obtain ⟨_, _, e2, _⟩ := h2.obj
        have e' : e = z ∨ e = TI ∨ e = TO ∨ e = p ∨ e = q := by simpa using he
        rcases e' with r | r | r | r | r
        · rw [r]; exact zl
        · rw [r]; exact Heap.lt_size hI
        · rw [r]; exact Heap.lt_size hO
        · rw [r]; exact Heap.lt_size e1
        · rw [r]; exact Heap.lt_size e2
      rw [upd_ne (Nat.ne_of_lt hlt)]
      exact (hf e he).1
  done := by
    intro X hP hw hK hc i pins s σ H E I hf st hg
    subst hP hw hK
    obtain ⟨hz, hI, ⟨x0, y0, hO⟩, h1, h2⟩ := st
    obtain ⟨xs, ys, qx, qy, hend⟩ := hg
    obtain ⟨its, rv, p1, _⟩ := sq_of I qx
    obtain ⟨its2, rv2, p2, _⟩ := sq_of I qy
    have l1 := rv.length
    have l2 := rv2.length
    have he : its.toArray[i]? = none ∨ its2.toArray[i]? = none := by
      rcases hend with r | r
      · exact .inl (by simp; omega)
      · exact .inr (by simp; omega)
    exact turn_end (I.ok.hd hc) D hz hI hO h1 h2 p1 p2 he fun g kp => ⟨rfl, I.turnedL (t' := s.toks) (ch := [z, TI, TO, p, q]) (fun e o hb r =>
      kp e o (fun n => hb (by simp [n])) (fun n => hb (by simp [n])) (fun n => hb (by simp [n])) (fun n => hb (by simp [n])) r) hf⟩
  self := fun A i s Q E st h => wpAny_pyIter_zip st.1 h
def iMix (K : PySem.W.Frag) (ta : TA) : TI := fun σ H R => ta σ H fun vs H1 => ∃ a d xs ys, vs = [.ref a, .ref d] ∧ ((SqL K H1 a xs ∧ SqL K H1 d ys ∧ R (Itz K a d) H1) ∨ (SqT K H1 a xs ∧ SqT K H1 d ys ∧ R (RZ.ItzT K a d) H1) ∨
  ∃ b c, b ≠ c ∧ Sq b K H1 a xs ∧ Sq c K H1 d ys ∧ R (ItM b c K a d) H1)
theorem pi_mix {X : Cx} {e e2 : Expr} {ta : TA} {p pos tpos : Pos} {elts : List Expr} {kk : Nat} (hg : Gl X "zip") (hm : X.mg "zip" = none) (ha : PA X [e, e2] ta)
    (hs : starEach [e, e2] X.env = (false, eval e X.env) :: starEach [e2] X.env) (hpl : (backTo pos (starEach [e2] X.env)).any (·.1) = false) :
    PI X (.Tuple elts kk tpos) (.Call (.Name "zip" p) [e, e2] [] pos) (iMix X.K ta) := by
  refine ⟨fun pins s σ H R I h => Call_ (ld_blt I hg hm PyProof.Rows.boot_zip (PyProof.Rows.callWith_type1 (thn (ha.run pos pins s σ H _ I h) fun us s1 ⟨vs, H1, I1, r1, q1⟩ => ?_) hs hpl))⟩
  obtain ⟨a, d, xs, ys, ex, q1⟩ := q1
  subst ex
  cases r1 with
  | cons r rr =>
    cases rr with
    | cons r' rr =>
      cases rr
      cases r
      cases r'
      have fresh : ∀ e, e ∈ [s1.heap.objs.size + 4, s1.heap.objs.size + 2, s1.heap.objs.size + 3, s1.heap.objs.size, s1.heap.objs.size + 1] → FpOk X pins H1 e := fun e he => by
        have hle : s1.heap.objs.size ≤ e := by simp at he; omega
        exact I1.fpOk hle (I1.hok.fresh hle)
      rcases q1 with ⟨qx, qy, q⟩ | ⟨qx, qy, q⟩ | ⟨b, c, hbc, qx, qy, q⟩
      · obtain ⟨its, rv, p1, _⟩ := I1.list qx
        obtain ⟨its2, rv2, p2, _⟩ := I1.list qy
        refine call_zip_2 p1.isList p2.isList fun g hz hI hO h1 h2 sz kp => wpAny_pyIter_zip hz ?_
        have I2 : Inv X pins σ H1 { s1 with heap := g } := I1.kept (t' := s1.toks) kp
        exact ⟨s1.heap.objs.size + 4, [s1.heap.objs.size + 4, s1.heap.objs.size + 2, s1.heap.objs.size + 3, s1.heap.objs.size, s1.heap.objs.size + 1], _, _, H1, rfl, I2, turn_zip (PySem.W.ktu_apart s1.heap.objs.size a d p1.lt p2.lt), ⟨hz, hI, ⟨_, _, hO⟩, h1, h2⟩, fresh, q⟩
      · obtain ⟨its, rv, p1, l1⟩ := sq_of (b := true) I1 qx
        obtain ⟨its2, rv2, p2, l2⟩ := sq_of (b := true) I1 qy
        refine RZ.call_zipT p1 p2 fun g hz hI hO h1 h2 sz kp => wpAny_pyIter_zip hz ?_
        have I2 : Inv X pins σ H1 { s1 with heap := g } := I1.kept (t' := s1.toks) kp
        exact ⟨s1.heap.objs.size + 4, [s1.heap.objs.size + 4, s1.heap.objs.size + 2, s1.heap.objs.size + 3, s1.heap.objs.size, s1.heap.objs.size + 1], _, _, H1, rfl, I2, RZ.turn_zipT (PySem.W.ktu_apart s1.heap.objs.size a d l1 l2), ⟨hz, hI, ⟨_, _, hO⟩, h1, h2⟩, fresh, q⟩
      · obtain ⟨its, rv, p1, l1⟩ := sq_of I1 qx
        obtain ⟨its2, rv2, p2, l2⟩ := sq_of I1 qy
        refine call_mix hbc p1 p2 fun g hz hI hO h1 h2 kp => wpAny_pyIter_zip hz ?_
        have I2 : Inv X pins σ H1 { s1 with heap := g } := I1.kept (t' := s1.toks) kp
        exact ⟨s1.heap.objs.size + 4, [s1.heap.objs.size + 4, s1.heap.objs.size + 2, s1.heap.objs.size + 3, s1.heap.objs.size, s1.heap.objs.size + 1], _, _, H1, rfl, I2, turn_mix (PySem.W.ktu_apart s1.heap.objs.size a d l1 l2), ⟨hz, hI, ⟨_, _, hO⟩, h1, h2⟩, fresh, q⟩
end MZ
end

section
set_option Elab.async false
set_option linter.all false
set_option maxRecDepth 100000
/-! Targets, what is walked. -/
namespace MP
open PySem PySem.Spec PyProof.Rows L2
section
variable {L : Lnk} {n : Nat} {X : Cx} {W : WX} {m : M} {σ : L2.St} {ρ : Rho} {st : Store} {H : Hp}
/-! ### targets -/
def Same (vs : List Nat) (σ σ' : L2.St) : Prop := σ'.length = σ.length ∧ ∀ j, j ∉ vs → σ'[j]? = σ[j]?
def tG (K : PySem.W.Frag) (t : Tg) : TG := fun v σ H Q => ∃ m ρ st d ρ', EnvR K m H σ ρ ∧ Rep K m H st ∧ At K m H v d ∧ asgn t d ρ = some ρ' ∧ ∀ σ', EnvR K m H σ' ρ' → Same t.slots σ σ' → Q σ' H
def tGs (K : PySem.W.Frag) (t : Tg) : TGs := fun vs σ H Q => ∃ m ρ st ds ρ', EnvR K m H σ ρ ∧ Rep K m H st ∧ Ats K m H vs ds ∧ asgnL t ds ρ = some ρ' ∧ ∀ σ', EnvR K m H σ' ρ' → Same t.slots σ σ' → Q σ' H
theorem gby {tg : Expr} {t t' : TG} (h : PG X tg t) (i : ∀ v σ H Q, t' v σ H Q → t v σ H Q) : PG X tg t' := ⟨fun pins s σ H v u Q I r q => h.run pins s σ H v u Q I r (i v σ H Q q)⟩
theorem gsby {tg : List Expr} {t t' : TGs} (h : PGs X tg t) (i : ∀ v σ H Q, t' v σ H Q → t v σ H Q) : PGs X tg t' := ⟨fun pins s σ H v u Q I r q => h.run pins s σ H v u Q I r (i v σ H Q q)⟩
/-- N, the scope, what is a cell of one's own -/
structure Scp where
  N : List Str
  sc : Scope
  fn : Str → Bool
def Scp.of (X : Cx) : Scp := ⟨X.N, X.env.scope, X.fn⟩
def tgB (c : Scp) (i : Nat) (x : Str) : Bool := decide (c.N[i]? = some x) && (match c.sc.names.lookup x with
  | some .local => true
  | some .cell => c.fn x
  | _ => false)
theorem tgB_ok {i : Nat} {x : Str} (h : tgB (Scp.of X) i x = true) : X.N[i]? = some x ∧ L2.Loc X.env.scope x ∧ (X.fn x = true ∨ X.env.scope.names.lookup x = some .local) := by
  unfold tgB Scp.of at h
  simp only [Bool.and_eq_true, decide_eq_true_eq] at h
  refine ⟨h.1, ?_⟩
  have h2 := h.2
  unfold L2.Loc
  split at h2
  · rename_i e
    exact ⟨.inl e, .inr e⟩
  · rename_i e
    exact ⟨.inr e, .inl h2⟩
  · cases h2
mutual
def ckG (c : Scp) : Tg → Expr → Bool
  | .nm i, ex => match ex with
    | .Name x _ => tgB c i x
    | _ => false
  | .nil, ex => match ex with
    | .Tuple es _ _ => es.isEmpty
    | _ => false
  | .cons t r, ex => match ex with
    | .Tuple es _ _ => match es with
      | e :: es => ckG c t e && ckGl c r es
      | [] => false
    | _ => false
def ckGl (c : Scp) : Tg → List Expr → Bool
  | .nm _, _ => false
  | .nil, es => es.isEmpty
  | .cons t r, es => match es with
    | e :: es => ckG c t e && ckGl c r es
    | [] => false
end
theorem asgnL_len : ∀ {r : Tg} {ds : List D} {ρ ρ' : Rho} {c : Scp} {es : List Expr}, ckGl c r es = true → asgnL r ds ρ = some ρ' → ds.length = es.length
  | .nm _, _, _, _, _, _, h, _ => by simp [ckGl] at h
  | .nil, ds, _, _, _, es, h, e => by
    cases ds <;> simp [asgnL] at e
    cases es <;> simp [ckGl] at h
    rfl
  | .cons t r, ds, ρ, _, _, es, h, e => by
    cases ds <;> simp [asgnL] at e
    cases es <;> simp [ckGl] at h
    rename_i x xs e' es'
    split at e
    · rw [List.length_cons, List.length_cons, asgnL_len h.2 e]
    · cases e
def tgx : Expr → Bool
  | .Starred .. => false
  | _ => true
theorem assign_each {e : Expr} {es : List Expr} {env : Env} (h : tgx e = true) : assignEach (e :: es) env = (false, assign e env) :: assignEach es env := by
  cases e <;> first | rfl | cases h
theorem ckG_tgx {c : Scp} : ∀ {t : Tg} {e : Expr}, ckG c t e = true → tgx e = true := by
  intro t e h
  cases t <;> cases e <;> first | rfl | (simp [ckG] at h)
theorem each_len {c : Scp} {env : Env} : ∀ {r : Tg} {es : List Expr}, ckGl c r es = true → (assignEach es env).length = es.length ∧ (assignEach es env).findIdx? (·.1) = none
  | .nm _, _, h => by simp [ckGl] at h
  | .nil, es, h => by
    cases es <;> simp [ckGl] at h
    exact ⟨rfl, rfl⟩
  | .cons t r, es, h => by
    cases es <;> simp [ckGl] at h
    rename_i e es
    rw [assign_each (ckG_tgx h.1)]
    obtain ⟨a, b⟩ := each_len (c := c) (env := env) h.2
    refine ⟨by rw [List.length_cons, List.length_cons, a], ?_⟩
    rw [List.findIdx?_cons]
    simp [b]
theorem Same.refl {vs : List Nat} : Same vs σ σ := ⟨rfl, fun _ _ => rfl⟩
theorem Same.trans {vs ws : List Nat} {σ σ' σ'' : L2.St} (a : Same vs σ σ') (b : Same ws σ' σ'') : Same (vs ++ ws) σ σ'' :=
  ⟨b.1.trans a.1, fun j hj => by
    simp only [List.mem_append, not_or] at hj
    exact (b.2 j hj.2).trans (a.2 j hj.1)⟩
theorem At.tup_inv {K : PySem.W.Frag} {v : V} {ds : List D} (a : At K m H v (.tup ds)) : ∃ p vs, v = .ref p ∧ To K m H p vs ∧ Ats K m H vs ds := by
  cases a with
  | tup h r => exact ⟨_, _, rfl, h, r⟩
mutual
theorem s_G (calm : X.calm = true) (nd : X.N.Nodup) : ∀ {t : Tg} {e : Expr}, ckG (Scp.of X) t e = true → PG X e (tG X.K t)
  | .nm i, .Name x pos, h => by
    obtain ⟨h1, h2, h3⟩ := tgB_ok (X := X) (i := i) (x := x) (by simpa [ckG] using h)
    refine gby (pg_name nd h1 h2 h3) fun v σ H Q ⟨m, ρ, st, d, ρ', er, rp, a, e, k⟩ => ?_
    simp only [asgn] at e
    split at e
    · cases e
      refine k _ (er.set a) ⟨by simp, fun j hj => ?_⟩
      rw [List.getElem?_set_ne]
      simp [Tg.slots] at hj
      exact fun q => hj q.symm
    · cases e
  | .nil, .Tuple [] k pos, h => by
    refine gby (pg_tup (n := 0) calm pgs_nil rfl rfl) fun v σ H Q ⟨m, ρ, st, d, ρ', er, rp, a, e, k⟩ => ?_
    unfold asgn at e
    cases d <;> first | (cases e; done) | skip
    obtain ⟨a1, vs, rfl, h1, h2⟩ := a.tup_inv
    cases h2 with
    | nil =>
      have e : some ρ = some ρ' := e
      cases e
      exact ⟨a1, [], rfl, h1.seq, rfl, rfl, k _ er .refl⟩
    | cons _ _ => exact absurd (show none = some ρ' from e) (by simp)
  | .cons t r, .Tuple (ex :: es) kk pos, h => by
    simp only [ckG, Bool.and_eq_true] at h
    obtain ⟨l1, l2⟩ := each_len (env := X.env) h.2
    have g1 := s_G calm nd h.1
    have g2 := s_Gs calm nd h.2
    have hp := pgs_cons g1 g2 (by rw [assign_each (ckG_tgx h.1)]; rfl)
    refine gby (pg_tup (n := (ex :: es).length) calm hp (by rw [assign_each (ckG_tgx h.1), List.length_cons, List.length_cons, l1]) (by rw [assign_each (ckG_tgx h.1), List.findIdx?_cons]; simp [l2])) fun v σ H Q ⟨m, ρ, st, d, ρ', er, rp, a, e, k⟩ => ?_
    unfold asgn at e
    cases d <;> first | (cases e; done) | skip
    obtain ⟨a1, vs, rfl, h1, h2⟩ := a.tup_inv
    cases h2 with
    | nil => simp at e
    | @cons v1 vs1 d1 ds1 a1' as =>
      simp only at e
      split at e
      · rename_i ρ1 e1
        refine ⟨a1, v1 :: vs1, rfl, h1.seq, ?_, v1, vs1, rfl, m, ρ, st, d1, ρ1, er, rp, a1', e1, fun σ1 er1 s1 => ?_⟩
        · rw [List.length_cons, List.length_cons, as.length, asgnL_len h.2 e]
        · exact ⟨m, ρ1, st, ds1, ρ', er1, rp, as, e, fun σ2 er2 s2 => k σ2 er2 (s1.trans s2)⟩
      · cases e
  | .nm _, .BoolOp .., h | .nm _, .NamedExpr .., h | .nm _, .BinOp .., h | .nm _, .UnaryOp .., h | .nm _, .Lambda .., h | .nm _, .IfExp .., h | .nm _, .Dict .., h | .nm _, .Set .., h | .nm _, .ListComp .., h | .nm _, .SetComp .., h | .nm _, .DictComp .., h | .nm _, .GeneratorExp .., h | .nm _, .Await .., h | .nm _, .Yield .., h | .nm _, .YieldFrom .., h | .nm _, .Compare .., h | .nm _, .Call .., h | .nm _, .FormattedValue .., h | .nm _, .JoinedStr .., h | .nm _, .Constant .., h | .nm _, .Attribute .., h | .nm _, .Subscript .., h | .nm _, .Starred .., h | .nm _, .List .., h | .nm _, .Tuple .., h | .nm _, .Slice .., h => by simp [ckG] at h
  | .nil, .BoolOp .., h | .nil, .NamedExpr .., h | .nil, .BinOp .., h | .nil, .UnaryOp .., h | .nil, .Lambda .., h | .nil, .IfExp .., h | .nil, .Dict .., h | .nil, .Set .., h | .nil, .ListComp .., h | .nil, .SetComp .., h | .nil, .DictComp .., h | .nil, .GeneratorExp .., h | .nil, .Await .., h | .nil, .Yield .., h | .nil, .YieldFrom .., h | .nil, .Compare .., h | .nil, .Call .., h | .nil, .FormattedValue .., h | .nil, .JoinedStr .., h | .nil, .Constant .., h | .nil, .Attribute .., h | .nil, .Subscript .., h | .nil, .Starred .., h | .nil, .List .., h | .nil, .Tuple (_ :: _) _ _, h | .nil, .Slice .., h | .nil, .Name .., h => by simp [ckG] at h
  | .cons _ _, .BoolOp .., h | .cons _ _, .NamedExpr .., h | .cons _ _, .BinOp .., h | .cons _ _, .UnaryOp .., h | .cons _ _, .Lambda .., h | .cons _ _, .IfExp .., h | .cons _ _, .Dict .., h | .cons _ _, .Set .., h | .cons _ _, .ListComp .., h | .cons _ _, .SetComp .., h | .cons _ _, .DictComp .., h | .cons _ _, .GeneratorExp .., h | .cons _ _, .Await .., h | .cons _ _, .Yield .., h | .cons _ _, .YieldFrom .., h | .cons _ _, .Compare .., h | .cons _ _, .Call .., h | .cons _ _, .FormattedValue .., h | .cons _ _, .JoinedStr .., h | .cons _ _, .Constant .., h | .cons _ _, .Attribute .., h | .cons _ _, .Subscript .., h | .cons _ _, .Starred .., h | .cons _ _, .List .., h | .cons _ _, .Tuple [] _ _, h | .cons _ _, .Slice .., h | .cons _ _, .Name .., h => by simp [ckG] at h
theorem s_Gs (calm : X.calm = true) (nd : X.N.Nodup) : ∀ {t : Tg} {es : List Expr}, ckGl (Scp.of X) t es = true → PGs X es (tGs X.K t)
  | .nm _, _, h => by simp [ckGl] at h
  | .nil, [], h => gsby pgs_nil fun vs σ H Q ⟨m, ρ, st, ds, ρ', er, rp, a, e, k⟩ => by
    cases a <;> simp [asgnL] at e
    subst e
    exact ⟨rfl, k _ er .refl⟩
  | .nil, _ :: _, h => by simp [ckGl] at h
  | .cons _ _, [], h => by simp [ckGl] at h
  | .cons t r, ex :: es, h => by
    simp only [ckGl, Bool.and_eq_true] at h
    have g1 := s_G calm nd h.1
    have g2 := s_Gs calm nd h.2
    refine gsby (pgs_cons g1 g2 (by rw [assign_each (ckG_tgx h.1)]; rfl)) fun vs σ H Q ⟨m, ρ, st, ds, ρ', er, rp, a, e, k⟩ => ?_
    cases a with
    | nil => simp [asgnL] at e
    | @cons v1 vs1 d1 ds1 a1 as =>
      simp only [asgnL] at e
      split at e
      · rename_i ρ1 e1
        refine ⟨v1, vs1, rfl, m, ρ, st, d1, ρ1, er, rp, a1, e1, fun σ1 er1 s1 => ?_⟩
        exact ⟨m, ρ1, st, ds1, ρ', er1, rp, as, e, fun σ2 er2 s2 => k σ2 er2 (s1.trans s2)⟩
      · cases e
end
/-! ### what is walked -/
structure ItOf (K : PySem.W.Frag) (m0 : M) (H0 : Hp) (J : It) (w : Walked) : Prop where
  go : ∀ i m H st, ExtW m0 H0 m H → Rep K m H st → w.ok st = true → i < w.xs.length → J.go i H
  stop : ∀ m H st, ExtW m0 H0 m H → Rep K m H st → w.ok st = true → J.stop w.xs.length H
  yld : ∀ i m H st x H', ExtW m0 H0 m H → Rep K m H st → w.ok st = true → i < w.xs.length → J.yld i H x H' → Ext m H m H' ∧ Rep K m H' st ∧ ∃ d, w.xs[i]? = some d ∧ At K m H' x d
def tI (L : Lnk) (n : Nat) (X : Cx) (W : WX) (it : Iter) : TI := fun σ H R => ∃ m ρ st, EnvR X.K m H σ ρ ∧ Rep X.K m H st ∧ (evI (L.G n) it ρ st).sat X.K m H (fun w st' m' H' => w.ok st' = true ∧ ∀ J, ItOf X.K m' H' J w → R J H') (xW L X W σ)
theorem D.beqs_self' (xs : List D) : D.beqs xs xs = true := D.beqs_self xs
theorem keepOf_ok {d : D} {xs : List D} (e : items st d = some xs) : (Walked.mk xs (keepOf d xs)).ok st = true := by
  unfold Walked.ok
  cases d <;> simp [keepOf]
  rename_i k
  cases q : st[k]? with
  | none => simp [items, q] at e
  | some c => cases c with
    | dct kvs => simp [items, q] at e
    | lst ds =>
      simp [items, q] at e
      subst e
      exact D.beqs_self _
/-- a sequence stands as it is while it is kept -/
theorem keep_list {v : V} {d : D} {xs : List D} {K : PySem.W.Frag} (a : At K m H v d) (rp : Rep K m H st) (e : items st d = some xs) (ht : isTup d = false) {m' : M} {H' : Hp} {st' : Store} (x : ExtW m H m' H') (rp' : Rep K m' H' st') (ok : ∀ p ∈ keepOf d xs, (match st'[p.1]? with
  | some (.lst ds) => D.beqs ds p.2
  | _ => false) = true) : ∃ p vs, v = .ref p ∧ SqL K H' p vs ∧ Ats K m' H' vs xs := by
  cases d <;> first | (simp [items] at e; done) | (simp [isTup] at ht; done) | skip
  · have a' := a.extW x
    cases a' with
    | lst h1 h2 h3 h4 =>
      simp [items] at e
      subst e
      exact ⟨_, _, rfl, .of h1, h4⟩
  · have a' := a.extW x
    cases a' with
    | rol h1 h4 =>
      simp [items] at e
      subst e
      exact ⟨_, _, rfl, h1.seq, h4⟩
  · rename_i k
    have q := ok (k, xs) (by simp [keepOf])
    have a' := a.extW x
    cases a' with
    | @loc p _ h1 =>
      simp only at q
      split at q
      · rename_i ds e2
        have e3 := D.beqs_eq _ _ q
        subst e3
        obtain ⟨vs, c1, c2⟩ := rp'.cell k p _ h1 e2
        exact ⟨p, vs, rfl, .of c1, c2⟩
      · cases q
theorem keep_tup {v : V} {d : D} {xs : List D} {K : PySem.W.Frag} (a : At K m H v d) (e : items st d = some xs) (ht : isTup d = true) {m' : M} {H' : Hp} (x : ExtW m H m' H') : ∃ p vs, v = .ref p ∧ SqT K H' p vs ∧ Ats K m' H' vs xs := by
  cases d <;> first | (simp [isTup] at ht; done) | skip
  have a' := a.extW x
  obtain ⟨p, vs, e1, h1, h2⟩ := a'.tup_inv
  simp [items] at e
  subst e
  exact ⟨p, vs, e1, h1.seq, h2⟩
theorem walked_keep {w : Walked} (h : w.ok st = true) : ∀ p ∈ w.keep, (match st[p.1]? with
  | some (.lst ds) => D.beqs ds p.2
  | _ => false) = true := by
  unfold Walked.ok at h
  exact List.all_eq_true.mp h
theorem ref_inj {p q : Addr} (h : V.ref p = V.ref q) : p = q := by cases h; rfl
theorem it_list {a : Addr} {d : D} {xs : List D} {K : PySem.W.Frag} (hd : At K m H (.ref a) d) (rp : Rep K m H st) (e : items st d = some xs) (ht : isTup d = false) : ItOf K m H (Itl K a) ⟨xs, keepOf d xs⟩ where
  go := fun i m' H' st' x rp' ok hi => by
    obtain ⟨p, vs, e1, h1, h2⟩ := keep_list hd rp e ht x rp' (walked_keep ok)
    cases ref_inj e1
    have hi : i < xs.length := hi
    rw [← h2.length] at hi
    exact ⟨vs, vs[i], h1, List.getElem?_eq_getElem hi⟩
  stop := fun m' H' st' x rp' ok => by
    obtain ⟨p, vs, e1, h1, h2⟩ := keep_list hd rp e ht x rp' (walked_keep ok)
    cases ref_inj e1
    exact ⟨vs, h1, Nat.le_of_eq h2.length⟩
  yld := fun i m' H' st' v H2 x rp' ok hi y => by
    obtain ⟨p, vs, e1, h1, h2⟩ := keep_list hd rp e ht x rp' (walked_keep ok)
    cases ref_inj e1
    obtain ⟨rfl, y⟩ := y
    obtain ⟨d, e3, h3⟩ := h2.getV (y vs h1)
    exact ⟨.refl _ _, rp', d, e3, h3⟩
theorem it_tup {a : Addr} {d : D} {xs : List D} {K : PySem.W.Frag} (hd : At K m H (.ref a) d) (e : items st d = some xs) (ht : isTup d = true) : ItOf K m H (Itt K a) ⟨xs, keepOf d xs⟩ where
  go := fun i m' H' st' x rp' ok hi => by
    obtain ⟨p, vs, e1, h1, h2⟩ := keep_tup hd e ht x
    cases ref_inj e1
    have hi : i < xs.length := hi
    rw [← h2.length] at hi
    exact ⟨vs, vs[i], h1, List.getElem?_eq_getElem hi⟩
  stop := fun m' H' st' x rp' ok => by
    obtain ⟨p, vs, e1, h1, h2⟩ := keep_tup hd e ht x
    cases ref_inj e1
    exact ⟨vs, h1, Nat.le_of_eq h2.length⟩
  yld := fun i m' H' st' v H2 x rp' ok hi y => by
    obtain ⟨p, vs, e1, h1, h2⟩ := keep_tup hd e ht x
    cases ref_inj e1
    obtain ⟨rfl, y⟩ := y
    obtain ⟨d, e3, h3⟩ := h2.getV (y vs h1)
    exact ⟨.refl _ _, rp', d, e3, h3⟩
theorem rng_len : ∀ (n : Nat) (lo : Int), (rng lo n).length = n
  | 0, _ => rfl
  | n + 1, lo => by rw [rng, List.length_cons, rng_len n]
theorem rng_get : ∀ (n : Nat) (lo : Int) (i : Nat), i < n → (rng lo n)[i]? = some (.int (lo + i))
  | n + 1, lo, 0, _ => by simp [rng]
  | n + 1, lo, i + 1, h => by
    rw [rng, List.getElem?_cons_succ, rng_get n (lo + 1) i (by omega)]
    have : lo + 1 + (i : Nat) = lo + ((i + 1 : Nat) : Int) := by omega
    rw [this]
theorem it_rng {lo : Int} {k : Nat} {K : PySem.W.Frag} : ItOf K m H (Itr lo k) ⟨rng lo k, []⟩ where
  go := fun i m' H' st' x rp' ok hi => by rw [rng_len] at hi; exact hi
  stop := fun m' H' st' x rp' ok => Nat.le_of_eq (rng_len _ _).symm
  yld := fun i m' H' st' v H2 x rp' ok hi y => by
    rw [rng_len] at hi
    obtain ⟨rfl, rfl⟩ := y
    exact ⟨.refl _ _, rp', _, rng_get _ _ _ hi, .int _⟩
theorem it_str {s : T} {K : PySem.W.Frag} : ItOf K m H (Its (S0 s)) ⟨s.map fun c => .str [c], []⟩ where
  go := fun i m' H' st' x rp' ok hi => by
    show i < s.toArray.size
    simpa using hi
  stop := fun m' H' st' x rp' ok => by
    show s.toArray.size ≤ _
    simp
  yld := fun i m' H' st' v H2 x rp' ok hi y => by
    obtain ⟨rfl, c, e, rfl⟩ := y
    have e : s.toArray[i]? = some c := e
    refine ⟨.refl _ _, rp', .str [c], ?_, .str [c]⟩
    rw [List.getElem?_map]
    simp at e
    simp [e]
theorem enum_len : ∀ (i : Nat) (xs : List D), (enum i xs).length = xs.length
  | _, [] => rfl
  | i, x :: r => by rw [enum, List.length_cons, List.length_cons, enum_len]
theorem enum_get : ∀ (i : Nat) (xs : List D) (j : Nat) (d : D), xs[j]? = some d → (enum i xs)[j]? = some (.tup [.int ((i + j : Nat) : Int), d])
  | _, [], _, _, h => by simp at h
  | i, x :: r, 0, d, h => by
    simp at h
    subst h
    simp [enum]
  | i, x :: r, j + 1, d, h => by
    rw [enum, List.getElem?_cons_succ, enum_get (i + 1) r j d (by simpa using h)]
    have : i + 1 + j = i + (j + 1) := by omega
    rw [this]
theorem it_enum {a : Addr} {d : D} {xs : List D} {K : PySem.W.Frag} (hd : At K m H (.ref a) d) (rp : Rep K m H st) (e : items st d = some xs) (ht : isTup d = false) : ItOf K m H (Ite K a) ⟨enum 0 xs, keepOf d xs⟩ where
  go := fun i m' H' st' x rp' ok hi => by
    obtain ⟨p, vs, e1, h1, h2⟩ := keep_list hd rp e ht x rp' (walked_keep ok)
    cases ref_inj e1
    rw [enum_len, ← h2.length] at hi
    exact ⟨vs, vs[i], h1, List.getElem?_eq_getElem hi⟩
  stop := fun m' H' st' x rp' ok => by
    obtain ⟨p, vs, e1, h1, h2⟩ := keep_list hd rp e ht x rp' (walked_keep ok)
    cases ref_inj e1
    exact ⟨vs, h1, by rw [enum_len]; exact Nat.le_of_eq h2.length⟩
  yld := fun i m' H' st' v H2 x rp' ok hi y => by
    obtain ⟨p, vs, e1, h1, h2⟩ := keep_list hd rp e ht x rp' (walked_keep ok)
    cases ref_inj e1
    obtain ⟨T, z, rfl, hT, rfl, y⟩ := y
    obtain ⟨d, e3, h3⟩ := h2.getV (y vs h1)
    have x2 : Ext m' H' m' (upd H' T (.tup [.int (i : Nat), z])) := Ext.new rp' hT
    refine ⟨x2, rp'.new hT, _, enum_get 0 xs i d e3, .tup (.inl ⟨upd_same, (rp'.fresh hT).1⟩) (.cons ?_ (.cons (h3.ext x2) .nil))⟩
    rw [Nat.zero_add]
    exact .int _
theorem zip_len : ∀ (xs ys : List D), (zipD xs ys).length = min xs.length ys.length
  | [], ys => by simp [zipD]
  | _ :: _, [] => by simp [zipD]
  | x :: xs, y :: ys => by rw [zipD, List.length_cons, List.length_cons, List.length_cons, zip_len xs ys]; omega
theorem zip_get : ∀ (xs ys : List D) (j : Nat) (d e : D), xs[j]? = some d → ys[j]? = some e → (zipD xs ys)[j]? = some (.tup [d, e])
  | [], ys, _, _, _, h, _ => by simp at h
  | _ :: _, [], _, _, _, _, h => by simp at h
  | x :: xs, y :: ys, 0, d, e, h, k => by
    simp at h k
    subst h; subst k
    simp [zipD]
  | x :: xs, y :: ys, j + 1, d, e, h, k => by
    rw [zipD, List.getElem?_cons_succ]
    exact zip_get xs ys j d e (by simpa using h) (by simpa using k)
theorem it_zip {a b : Addr} {d e : D} {xs ys : List D} {K : PySem.W.Frag} (hd : At K m H (.ref a) d) (he : At K m H (.ref b) e) (rp : Rep K m H st) (e1 : items st d = some xs) (e2 : items st e = some ys) (t1 : isTup d = false) (t2 : isTup e = false) :
    ItOf K m H (Itz K a b) ⟨zipD xs ys, keepOf d xs ++ keepOf e ys⟩ where
  go := fun i m' H' st' x rp' ok hi => by
    obtain ⟨p, vs, q1, h1, h2⟩ := keep_list hd rp e1 t1 x rp' fun p hp => walked_keep ok p (List.mem_append_left _ hp)
    obtain ⟨p2, ws, q2, k1, k2⟩ := keep_list he rp e2 t2 x rp' fun p hp => walked_keep ok p (List.mem_append_right _ hp)
    cases ref_inj q1
    cases ref_inj q2
    rw [zip_len, ← h2.length, ← k2.length] at hi
    exact ⟨vs, ws, vs[i], ws[i], h1, k1, List.getElem?_eq_getElem (by omega), List.getElem?_eq_getElem (by omega)⟩
  stop := fun m' H' st' x rp' ok => by
    obtain ⟨p, vs, q1, h1, h2⟩ := keep_list hd rp e1 t1 x rp' fun p hp => walked_keep ok p (List.mem_append_left _ hp)
    obtain ⟨p2, ws, q2, k1, k2⟩ := keep_list he rp e2 t2 x rp' fun p hp => walked_keep ok p (List.mem_append_right _ hp)
    cases ref_inj q1
    cases ref_inj q2
    refine ⟨vs, ws, h1, k1, ?_⟩
    rw [zip_len, ← h2.length, ← k2.length]
    omega
  yld := fun i m' H' st' v H2 x rp' ok hi y => by
    obtain ⟨p, vs, q1, h1, h2⟩ := keep_list hd rp e1 t1 x rp' fun p hp => walked_keep ok p (List.mem_append_left _ hp)
    obtain ⟨p2, ws, q2, k1, k2⟩ := keep_list he rp e2 t2 x rp' fun p hp => walked_keep ok p (List.mem_append_right _ hp)
    cases ref_inj q1
    cases ref_inj q2
    obtain ⟨T, z, z', rfl, hT, rfl, y1, y2⟩ := y
    obtain ⟨d1, e3, h3⟩ := h2.getV (y1 vs h1)
    obtain ⟨d2, e4, h4⟩ := k2.getV (y2 ws k1)
    have x2 : Ext m' H' m' (upd H' T (.tup [z, z'])) := Ext.new rp' hT
    exact ⟨x2, rp'.new hT, _, zip_get xs ys i d1 d2 e3 e4, .tup (.inl ⟨upd_same, (rp'.fresh hT).1⟩) (.cons (h3.ext x2) (.cons (h4.ext x2) .nil))⟩
theorem it_zipT {a b : Addr} {d e : D} {xs ys : List D} {K : PySem.W.Frag} {kp : List (Nat × List D)} (hd : At K m H (.ref a) d) (he : At K m H (.ref b) e) (e1 : items st d = some xs) (e2 : items st e = some ys) (t1 : isTup d = true) (t2 : isTup e = true) :
    ItOf K m H (RZ.ItzT K a b) ⟨zipD xs ys, kp⟩ where
  go := fun i m' H' st' x rp' ok hi => by
    obtain ⟨p, vs, q1, h1, h2⟩ := keep_tup hd e1 t1 x
    obtain ⟨p2, ws, q2, k1, k2⟩ := keep_tup he e2 t2 x
    cases ref_inj q1
    cases ref_inj q2
    rw [zip_len, ← h2.length, ← k2.length] at hi
    exact ⟨vs, ws, vs[i], ws[i], h1, k1, List.getElem?_eq_getElem (by omega), List.getElem?_eq_getElem (by omega)⟩
  stop := fun m' H' st' x rp' ok => by
    obtain ⟨p, vs, q1, h1, h2⟩ := keep_tup hd e1 t1 x
    obtain ⟨p2, ws, q2, k1, k2⟩ := keep_tup he e2 t2 x
    cases ref_inj q1
    cases ref_inj q2
    refine ⟨vs, ws, h1, k1, ?_⟩
    rw [zip_len, ← h2.length, ← k2.length]
    omega
  yld := fun i m' H' st' v H2 x rp' ok hi y => by
    obtain ⟨p, vs, q1, h1, h2⟩ := keep_tup hd e1 t1 x
    obtain ⟨p2, ws, q2, k1, k2⟩ := keep_tup he e2 t2 x
    cases ref_inj q1
    cases ref_inj q2
    obtain ⟨T, z, z', rfl, hT, rfl, y1, y2⟩ := y
    obtain ⟨d1, e3, h3⟩ := h2.getV (y1 vs h1)
    obtain ⟨d2, e4, h4⟩ := k2.getV (y2 ws k1)
    have x2 : Ext m' H' m' (upd H' T (.tup [z, z'])) := Ext.new rp' hT
    exact ⟨x2, rp'.new hT, _, zip_get xs ys i d1 d2 e3 e4, .tup (.inl ⟨upd_same, (rp'.fresh hT).1⟩) (.cons (h3.ext x2) (.cons (h4.ext x2) .nil))⟩
/-! ### the iterators of the row -/
theorem iby {tg iter : Expr} {t t' : TI} (h : PI X tg iter t) (i : ∀ σ H Q, t' σ H Q → t σ H Q) : PI X tg iter t' := ⟨fun pins s σ H R I q => h.run pins s σ H R I (i σ H R q)⟩
theorem s_Ie {a : E} {tg ea : Expr} (ha : PE X ea (tE L n X W a)) : PI X tg ea (tI L n X W (.e a)) := by
  refine ⟨fun pins s σ H R I ⟨m, ρ, st, er, rp, h⟩ => ?_⟩
  simp only [evI] at h
  -- which kind it is stands fast ahead of the walk
  have kind : ∀ (P : D → Bool) (t : TI), PI X tg ea t → (∀ d st', evE (L.G n) a ρ st = .ok d st' → P d = true) → ((∀ d st', evE (L.G n) a ρ st = .ok d st' → P d = true) → t σ H R) → wpAny (model X.prog X.w) X.A (eval ea X.env) (fun v s1 => wpAny (model X.prog X.w) X.A (pyIter v) (PIE X pins σ tg R) X.xe s1) X.xe s := fun P t hp hk ht => hp.run pins s σ H R I (ht hk)
  have list_go : (∀ d st', evE (L.G n) a ρ st = .ok d st' → (items st' d).isSome = true ∧ isTup d = false) → iList X.K (tE L n X W a) σ H R := fun hk => by
    refine ⟨m, ρ, st, er, rp, ?_⟩
    cases q : evE (L.G n) a ρ st with
    | no => rw [q] at h; exact h.elim
    | ex x st' => rw [q] at h; exact h
    | ok d st1 =>
      rw [q, MP.R.bd_ok] at h
      intro m1 H1 x rp1 v hv
      obtain ⟨k1, k2⟩ := hk d st1 q
      obtain ⟨xs, e⟩ := Option.isSome_iff_exists.mp k1
      have e2 : walked d st1 = some ⟨xs, keepOf d xs⟩ := by
        cases d <;> first | (simp [items] at e; done) | (simp [walked, e])
      rw [e2] at h
      obtain ⟨p, vs, rfl, h1, h2⟩ := keep_list hv rp1 e k2 (.refl _ _) rp1 (walked_keep (keepOf_ok e))
      exact ⟨p, rfl, ⟨vs, h1⟩, (h m1 H1 x rp1).2 _ (it_list hv rp1 e k2)⟩
  have tup_go : (∀ d st', evE (L.G n) a ρ st = .ok d st' → (items st' d).isSome = true ∧ isTup d = true) → iTup X.K (tE L n X W a) σ H R := fun hk => by
    refine ⟨m, ρ, st, er, rp, ?_⟩
    cases q : evE (L.G n) a ρ st with
    | no => rw [q] at h; exact h.elim
    | ex x st' => rw [q] at h; exact h
    | ok d st1 =>
      rw [q, MP.R.bd_ok] at h
      intro m1 H1 x rp1 v hv
      obtain ⟨k1, k2⟩ := hk d st1 q
      obtain ⟨xs, e⟩ := Option.isSome_iff_exists.mp k1
      have e2 : walked d st1 = some ⟨xs, keepOf d xs⟩ := by
        cases d <;> first | (simp [items] at e; done) | (simp [walked, e])
      rw [e2] at h
      obtain ⟨p, vs, rfl, h1, h2⟩ := keep_tup hv e k2 (.refl _ _)
      exact ⟨p, rfl, ⟨vs, h1⟩, (h m1 H1 x rp1).2 _ (it_tup hv e k2)⟩
  have str_go : (∀ d st', evE (L.G n) a ρ st = .ok d st' → ∃ z, d = .str z) → iStr (tE L n X W a) σ H R := fun hk => by
    refine ⟨m, ρ, st, er, rp, ?_⟩
    cases q : evE (L.G n) a ρ st with
    | no => rw [q] at h; exact h.elim
    | ex x st' => rw [q] at h; exact h
    | ok d st1 =>
      rw [q, MP.R.bd_ok] at h
      intro m1 H1 x rp1 v hv
      obtain ⟨z, rfl⟩ := hk d st1 q
      cases hv
      refine ⟨S0 z, rfl, ?_⟩
      by_cases hz : z.length ≤ SZ
      · have e2 : walked (.str z) st1 = some ⟨z.map fun c => .str [c], []⟩ := by simp [walked, hz]
        rw [e2] at h
        exact (h m1 H1 x rp1).2 _ it_str
      · have e2 : walked (.str z) st1 = none := by simp [walked, hz]
        rw [e2] at h
        exact h.elim
  cases q : evE (L.G n) a ρ st with
  | no => rw [q] at h; exact h.elim
  | ex x st' => exact (pi_list ha).run pins s σ H R I (list_go fun d st' e => by rw [q] at e; cases e)
  | ok d st1 =>
    rw [q, MP.R.bd_ok] at h
    cases hd : items st1 d with
    | some xs =>
      cases ht : isTup d with
      | false => exact (pi_list ha).run pins s σ H R I (list_go fun d' st' e => by rw [q] at e; cases e; rw [hd]; exact ⟨rfl, ht⟩)
      | true => exact (pi_tup ha).run pins s σ H R I (tup_go fun d' st' e => by rw [q] at e; cases e; rw [hd]; exact ⟨rfl, ht⟩)
    | none =>
      cases d with
      | str z => exact (pi_str ha).run pins s σ H R I (str_go fun d' st' e => by rw [q] at e; cases e; exact ⟨z, rfl⟩)
      | _ =>
        have e2 : ∀ d, items st1 d = none → (∀ z, d ≠ .str z) → walked d st1 = none := fun d h1 h2 => by
          cases d <;> first | exact absurd rfl (h2 _) | simp [walked, h1]
        rw [e2 _ hd (fun z => D.noConfusion)] at h
        exact h.elim
theorem s_Irng1 {a : E} {tg ea : Expr} {p pos} (F : Facts L n X W) (hg : glB X.env.scope "range" = true) (ha : PE X ea (tE L n X W a)) (ho : okx ea = true) : PI X tg (.Call (.Name "range" p) [ea] [] pos) (tI L n X W (.rng1 a)) := by
  refine iby (pi_range1 (glB_ok hg) (F.blt _ (by decide +kernel)) (pa_cons ha pa_nil (star_ok ho)) (star_ok ho)) fun σ H R ⟨m, ρ, st, er, rp, h⟩ => ?_
  simp only [evI] at h
  refine tE_bd er rp h fun d st1 m1 H1 v x er1 rp1 a h => ?_
  cases a <;> first | exact h.elim | skip
  simp only at h
  split at h
  · rename_i hk
    simp only [rngOk, decide_eq_true_eq] at hk
    exact ⟨_, rfl, hk.1, hk.2, (sat_ok h rp1).2 _ it_rng⟩
  · exact h.elim
theorem s_Irng2 {a b : E} {tg ea eb : Expr} {p pos} (F : Facts L n X W) (hg : glB X.env.scope "range" = true) (ha : PE X ea (tE L n X W a)) (hb : PE X eb (tE L n X W b)) (ho : okx ea = true) (ho2 : okx eb = true) : PI X tg (.Call (.Name "range" p) [ea, eb] [] pos) (tI L n X W (.rng2 a b)) := by
  have s2 : starEach [eb] X.env = [(false, eval eb X.env)] := star_ok ho2
  have s1 : starEach [ea, eb] X.env = [(false, eval ea X.env), (false, eval eb X.env)] := by rw [star_ok ho, s2]
  refine iby (pi_range2 (glB_ok hg) (F.blt _ (by decide +kernel)) (pa_cons ha (pa_cons hb pa_nil (star_ok ho2)) (star_ok ho)) s1 s2) fun σ H R ⟨m, ρ, st, er, rp, h⟩ => ?_
  simp only [evI] at h
  refine tE_bd er rp h fun d st1 m1 H1 v x er1 rp1 a h => ?_
  refine tE_bd er1 rp1 h fun d2 st2 m2 H2 w y er2 rp2 b h => ?_
  cases a <;> first | exact h.elim | skip
  cases b <;> first | exact h.elim | skip
  simp only at h
  split at h
  · rename_i hk
    simp only [rngOk, decide_eq_true_eq, Bool.and_eq_true] at hk
    exact ⟨_, _, rfl, ⟨hk.1.1, hk.1.2, hk.2.1, hk.2.2⟩, (sat_ok h rp2).2 _ it_rng⟩
  · exact h.elim
theorem isList_tup {d : D} (h : isList d = true) : isTup d = false := by cases d <;> first | rfl | cases h
theorem lItems_items {d : D} {xs : List D} (h : lItems st d = some xs) : items st d = some xs ∧ isTup d = false := by
  unfold lItems at h
  split at h
  · rename_i hl
    exact ⟨h, isList_tup hl⟩
  · cases h
theorem s_Ienm {a : E} {ea : Expr} {p pos tpos elts kk} (F : Facts L n X W) (hg : glB X.env.scope "enumerate" = true) (ha : PE X ea (tE L n X W a)) (ho : okx ea = true) : PI X (.Tuple elts kk tpos) (.Call (.Name "enumerate" p) [ea] [] pos) (tI L n X W (.enm a)) := by
  refine iby (pi_enum (glB_ok hg) (F.blt _ (by decide +kernel)) (pa_cons ha pa_nil (star_ok ho)) (star_ok ho)) fun σ H R ⟨m, ρ, st, er, rp, h⟩ => ?_
  simp only [evI] at h
  refine tE_bd er rp h fun d st1 m1 H1 v x er1 rp1 a h => ?_
  obtain ⟨w, e, h⟩ := sat_of h
  obtain ⟨xs, e1, e2⟩ := Option.map_eq_some_iff.mp e
  subst e2
  obtain ⟨q1, q2⟩ := lItems_items e1
  obtain ⟨b, vs, rfl, h1, h2⟩ := lItems_ok a rp1 e1
  exact ⟨b, vs, rfl, .of h2, (sat_ok h rp1).2 _ (it_enum a rp1 q1 q2)⟩
theorem sqB_of {b : Bool} {v : V} {d : D} {xs : List D} {K : PySem.W.Frag} (a : At K m H v d) (rp : Rep K m H st) (e : items st d = some xs) (ht : isTup d = b) {m' : M} {H' : Hp} {st' : Store} (x : ExtW m H m' H') (rp' : Rep K m' H' st') (ok : ∀ p ∈ keepOf d xs, (match st'[p.1]? with | some (.lst ds) => D.beqs ds p.2 | _ => false) = true) : ∃ p vs, v = .ref p ∧ MZ.Sq b K H' p vs ∧ Ats K m' H' vs xs := by
  cases b with
  | true => exact keep_tup a e ht x
  | false => exact keep_list a rp e ht x rp' ok
theorem it_mix {b c : Bool} {p q : Addr} {d e : D} {xs ys : List D} {K : PySem.W.Frag} (hd : At K m H (.ref p) d) (he : At K m H (.ref q) e) (rp : Rep K m H st) (e1 : items st d = some xs) (e2 : items st e = some ys) (t1 : isTup d = b) (t2 : isTup e = c) :
    ItOf K m H (MZ.ItM b c K p q) ⟨zipD xs ys, keepOf d xs ++ keepOf e ys⟩ where
  go := fun i m' H' st' x rp' ok hi => by
    obtain ⟨p, vs, q1, h1, h2⟩ := sqB_of hd rp e1 t1 x rp' fun p hp => walked_keep ok p (List.mem_append_left _ hp)
    obtain ⟨p2, ws, q2, k1, k2⟩ := sqB_of he rp e2 t2 x rp' fun p hp => walked_keep ok p (List.mem_append_right _ hp)
    cases ref_inj q1
    cases ref_inj q2
    rw [zip_len, ← h2.length, ← k2.length] at hi
    exact ⟨vs, ws, vs[i], ws[i], h1, k1, List.getElem?_eq_getElem (by omega), List.getElem?_eq_getElem (by omega)⟩
  stop := fun m' H' st' x rp' ok => by
    obtain ⟨p, vs, q1, h1, h2⟩ := sqB_of hd rp e1 t1 x rp' fun p hp => walked_keep ok p (List.mem_append_left _ hp)
    obtain ⟨p2, ws, q2, k1, k2⟩ := sqB_of he rp e2 t2 x rp' fun p hp => walked_keep ok p (List.mem_append_right _ hp)
    cases ref_inj q1
    cases ref_inj q2
    refine ⟨vs, ws, h1, k1, ?_⟩
    rw [zip_len, ← h2.length, ← k2.length]
    omega
  yld := fun i m' H' st' v H2 x rp' ok hi y => by
    obtain ⟨p, vs, q1, h1, h2⟩ := sqB_of hd rp e1 t1 x rp' fun p hp => walked_keep ok p (List.mem_append_left _ hp)
    obtain ⟨p2, ws, q2, k1, k2⟩ := sqB_of he rp e2 t2 x rp' fun p hp => walked_keep ok p (List.mem_append_right _ hp)
    cases ref_inj q1
    cases ref_inj q2
    obtain ⟨T, z, z', rfl, hT, rfl, y1, y2⟩ := y
    obtain ⟨d1, e3, h3⟩ := h2.getV (y1 vs h1)
    obtain ⟨d2, e4, h4⟩ := k2.getV (y2 ws k1)
    have x2 : Ext m' H' m' (upd H' T (.tup [z, z'])) := Ext.new rp' hT
    exact ⟨x2, rp'.new hT, _, zip_get xs ys i d1 d2 e3 e4, .tup (.inl ⟨upd_same, (rp'.fresh hT).1⟩) (.cons (h3.ext x2) (.cons (h4.ext x2) .nil))⟩
theorem tup_or_list {d : D} (h : (isList d || isTup d) = true) : isTup d = true ∨ isTup d = false := by cases isTup d <;> simp
theorem s_Izip {a b : E} {ea eb : Expr} {p pos tpos elts kk} (F : Facts L n X W) (hg : glB X.env.scope "zip" = true) (ha : PE X ea (tE L n X W a)) (hb : PE X eb (tE L n X W b)) (ho : okx ea = true) (ho2 : okx eb = true) : PI X (.Tuple elts kk tpos) (.Call (.Name "zip" p) [ea, eb] [] pos) (tI L n X W (.zip a b)) := by
  refine iby (MZ.pi_mix (glB_ok hg) (F.blt _ (by decide +kernel)) (pa_cons ha (pa_cons hb pa_nil (star_ok ho2)) (star_ok ho)) (star_ok ho) (by rw [star_ok ho2]; rfl)) fun σ H R ⟨m, ρ, st, er, rp, h⟩ => ?_
  simp only [evI] at h
  refine tE_bd er rp h fun d st1 m1 H1 v x er1 rp1 a h => ?_
  refine tE_bd er1 rp1 h fun d2 st2 m2 H2 w y er2 rp2 b h => ?_
  split at h
  · rename_i hk
    split at h
    · rename_i xs ys e1 e2
      have a2 := a.ext y
      simp only [Bool.and_eq_true] at hk
      have key : ∀ b1 b2, isTup d = b1 → isTup d2 = b2 → ∃ p1 p2 vs ws, v = .ref p1 ∧ w = .ref p2 ∧ MZ.Sq b1 X.K H2 p1 vs ∧ MZ.Sq b2 X.K H2 p2 ws := fun b1 b2 k1 k2 => by
        obtain ⟨p1, vs, q1, h1, h2⟩ := sqB_of a2 rp2 e1 k1 (.refl _ _) rp2 (walked_keep (keepOf_ok e1))
        obtain ⟨p2, ws, q2, g1, g2⟩ := sqB_of b rp2 e2 k2 (.refl _ _) rp2 (walked_keep (keepOf_ok e2))
        exact ⟨p1, p2, vs, ws, q1, q2, h1, g1⟩
      rcases tup_or_list hk.1 with k1 | k1
      · rcases tup_or_list hk.2 with k2 | k2
        · obtain ⟨p1, p2, vs, ws, rfl, rfl, h1, h2⟩ := key _ _ k1 k2
          exact ⟨p1, p2, vs, ws, rfl, .inr (.inl ⟨h1, h2, (sat_ok h rp2).2 _ (it_zipT a2 b e1 e2 k1 k2)⟩)⟩
        · obtain ⟨p1, p2, vs, ws, rfl, rfl, h1, h2⟩ := key _ _ k1 k2
          exact ⟨p1, p2, vs, ws, rfl, .inr (.inr ⟨true, false, by decide, h1, h2, (sat_ok h rp2).2 _ (it_mix a2 b rp2 e1 e2 k1 k2)⟩)⟩
      · rcases tup_or_list hk.2 with k2 | k2
        · obtain ⟨p1, p2, vs, ws, rfl, rfl, h1, h2⟩ := key _ _ k1 k2
          exact ⟨p1, p2, vs, ws, rfl, .inr (.inr ⟨false, true, by decide, h1, h2, (sat_ok h rp2).2 _ (it_mix a2 b rp2 e1 e2 k1 k2)⟩)⟩
        · obtain ⟨p1, p2, vs, ws, rfl, rfl, h1, h2⟩ := key _ _ k1 k2
          exact ⟨p1, p2, vs, ws, rfl, .inl ⟨h1, h2, (sat_ok h rp2).2 _ (it_zip a2 b rp2 e1 e2 k1 k2)⟩⟩
    · exact h.elim
  · exact h.elim
end
end MP
end

section
set_option Elab.async false
set_option linter.all false
set_option maxRecDepth 100000
/-! List comprehensions. -/
namespace MP
open PySem PySem.Spec PyProof.Rows L2
section
variable {L : Lnk} {n : Nat} {X : Cx} {W : WX} {K : PySem.W.Frag} {m m1 : M} {σ : L2.St} {ρ : Rho} {st : Store} {H H1 : Hp} {D : Addr} {N : Hp → Prop}
theorem walked_ok {d : MP.D} {s : Store} {w : Walked} (e : walked d s = some w) : w.ok s = true := by
  cases d <;> unfold walked at e
  case str z =>
    simp only at e
    split at e
    · cases e; rfl
    · cases e
  all_goals
    obtain ⟨xs, e1, e2⟩ := Option.map_eq_some_iff.mp e
    subst e2
    exact keepOf_ok e1
/-- what is walked is as it is kept -/
theorem evI_ok {Γ : MP.G} {i : Iter} {ρ : Rho} {st st1 : Store} {w : Walked} (h : evI Γ i ρ st = .ok w st1) : w.ok st1 = true := by
  cases i with
  | e a =>
    simp only [evI] at h
    cases q : evE Γ a ρ st with
    | no => rw [q] at h; cases h
    | ex x s => rw [q] at h; cases h
    | ok d s =>
      rw [q, R.bd_ok] at h
      unfold R.of at h
      split at h
      · rename_i w' e
        cases h
        exact walked_ok e
      · cases h
  | rng1 a =>
    simp only [evI] at h
    cases q : evE Γ a ρ st with
    | no => rw [q] at h; cases h
    | ex x s => rw [q] at h; cases h
    | ok d s =>
      rw [q, R.bd_ok] at h
      cases d <;> first | (cases h; done) | skip
      simp only at h
      split at h
      · cases h; rfl
      · cases h
  | rng2 a b =>
    simp only [evI] at h
    cases q : evE Γ a ρ st with
    | no => rw [q] at h; cases h
    | ex x s => rw [q] at h; cases h
    | ok d s =>
      rw [q, R.bd_ok] at h
      cases q2 : evE Γ b ρ s with
      | no => rw [q2] at h; cases h
      | ex x s => rw [q2] at h; cases h
      | ok e s2 =>
        rw [q2, R.bd_ok] at h
        cases d <;> first | (cases h; done) | skip
        cases e <;> first | (cases h; done) | skip
        simp only at h
        split at h
        · cases h; rfl
        · cases h
  | enm a =>
    simp only [evI] at h
    cases q : evE Γ a ρ st with
    | no => rw [q] at h; cases h
    | ex x s => rw [q] at h; cases h
    | ok d s =>
      rw [q, R.bd_ok] at h
      unfold R.of at h
      split at h
      · rename_i w' e
        cases h
        obtain ⟨xs, e1, e2⟩ := Option.map_eq_some_iff.mp e
        subst e2
        have := keepOf_ok (lItems_items e1).1
        exact this
      · cases h
  | zip a b =>
    simp only [evI] at h
    cases q : evE Γ a ρ st with
    | no => rw [q] at h; cases h
    | ex x s => rw [q] at h; cases h
    | ok d s =>
      rw [q, R.bd_ok] at h
      cases q2 : evE Γ b ρ s with
      | no => rw [q2] at h; cases h
      | ex x s => rw [q2] at h; cases h
      | ok e s2 =>
        rw [q2, R.bd_ok] at h
        split at h
        · split at h
          · rename_i xs ys e1 e2
            cases h
            unfold Walked.ok
            refine List.all_eq_true.mpr fun p hp => ?_
            rcases List.mem_append.mp hp with hp | hp
            · exact walked_keep (keepOf_ok e1) p hp
            · exact walked_keep (keepOf_ok e2) p hp
          · cases h
        · cases h
/-! ### the list that is being made -/
theorem ExtD.app {avs zs : List V} (hr : D ∈ m.rsv) (e : H D = some (.lst avs)) : ExtD D m H m (upd H D (.lst zs)) := by
  refine ⟨⟨fun _ h => h, fun _ h => .inl h, ⟨[], by simp⟩, fun b q => ?_, fun _ _ q => q, fun b o q _ r _ => ?_⟩, fun b _ q => upd_ne q⟩
  · by_cases z : b = D
    · rw [z, upd_same]; simp
    · rw [upd_ne z]; exact q
  · rw [upd_ne]
    · exact q
    · intro z
      subst z
      rw [e] at q
      cases q
      exact (r hr).1 avs rfl
theorem Rep.app {avs zs : List V} (rp : Rep K m H st) (hr : D ∈ m.rsv) (e : H D = some (.lst avs)) : Rep K m (upd H D (.lst zs)) st := by
  have x : ExtW m H m (upd H D (.lst zs)) := (ExtD.app hr e).toExtW
  refine ⟨rp.len, rp.nd, fun k a c h1 h2 => (rp.cell k a c h1 h2).keep x (upd_ne fun z => ?_), fun a ha => ?_⟩
  · subst z
    exact (rp.rsv _ hr).1 (List.mem_of_getElem? h1)
  · obtain ⟨h1, o, h2, h3⟩ := rp.rsv a ha
    by_cases z : a = D
    · subst z
      exact ⟨h1, _, upd_same, fun _ => HO.noConfusion⟩
    · exact ⟨h1, o, by rw [upd_ne z]; exact h2, h3⟩
def satD (K : PySem.W.Frag) (D : Addr) (r : R (List MP.D)) (m : M) (H : Hp) (N : Hp → Prop) : Prop := match r with
  | .ok acc st => ∀ m' H' avs, ExtD D m H m' H' → Rep K m' H' st → H' D = some (.lst avs) → Ats K m' H' avs acc → N H'
  | _ => False
theorem satD.ext {r : R (List MP.D)} (h : satD K D r m H N) (x : ExtD D m H m1 H1) : satD K D r m1 H1 N := by
  cases r with
  | ok acc st => exact fun m' H' avs y => h m' H' avs (x.trans y)
  | ex _ _ => exact h
  | no => exact h
def tN (L : Lnk) (n : Nat) (K : PySem.W.Frag) (D : Addr) (r : Gs) : TN := fun σ H N => ∃ m ρ st acc avs, EnvR K m H σ ρ ∧ Rep K m H st ∧ D ∈ m.rsv ∧ H D = some (.lst avs) ∧ Ats K m H avs acc ∧ satD K D (evGs (L.G n) r ρ st acc) m H N
def tO (L : Lnk) (n : Nat) (X : Cx) (c : Oe) : TT := fun σ H Q => ∃ m ρ st, EnvR X.K m H σ ρ ∧ Rep X.K m H st ∧ (evO (L.G n) c ρ st).sat X.K m H (fun b _ _ H' => Q b H') (fun _ _ _ _ => False)
theorem n_elt {e : E} (h : tN L n X.K D (.elt e) σ H N) : tElt (tE L n X W e) D σ H N := by
  obtain ⟨m, ρ, st, acc, avs, er, rp, hr, eD, as, h⟩ := h
  simp only [evGs] at h
  refine ⟨m, ρ, st, er, rp, ?_⟩
  cases q : evE (L.G n) e ρ st with
  | no => rw [q] at h; exact h.elim
  | ex x s => rw [q] at h; exact h.elim
  | ok d st1 =>
    rw [q, R.bd_ok] at h
    intro m2 H2 x rp2 v hv
    have eD2 : H2 D = some (.lst avs) := (x.rk D hr).trans eD
    have hr2 := x.rsv D hr
    split at h
    · rename_i hz
      refine ⟨avs, eD2, by rw [(as.ext x).length, sizeSZ]; exact hz, ?_⟩
      have y : ExtD D m2 H2 m2 (upd H2 D (.lst (avs ++ [v]))) := .app hr2 eD2
      exact h m2 _ (avs ++ [v]) ((x.toD D).trans y) (rp2.app hr2 eD2) upd_same (((as.ext x).append (.cons hv .nil)).extW y.toExtW)
    · exact h.elim
theorem wipe_in {vs : List Nat} {j : Nat} : ∀ {σ : L2.St}, j ∈ vs → (wipe σ vs)[j]? = if j < σ.length then some none else none := by
  induction vs with
  | nil => intro σ h; cases h
  | cons a r ih =>
    intro σ h
    unfold wipe
    by_cases ha : a = j
    · subst ha
      by_cases hlt : a < σ.length
      · rw [if_pos hlt, List.getElem?_set_self (by rw [wipe_length]; exact hlt)]
      · rw [if_neg hlt]
        exact List.getElem?_eq_none (by rw [List.length_set, wipe_length]; omega)
    · rw [List.getElem?_set_ne ha]
      rcases List.mem_cons.mp h with e | e
      · exact absurd e.symm ha
      · exact ih e
theorem wipe_same {vs : List Nat} {σ σ' : L2.St} (s : Same vs σ σ') : wipe σ' vs = wipe σ vs := by
  refine List.ext_getElem? fun j => ?_
  by_cases hj : j ∈ vs
  · rw [wipe_in hj, wipe_in hj, s.1]
  · rw [wipe_out hj, wipe_out hj, s.2 j hj]
theorem wipe_wipe {vs : List Nat} {σ : L2.St} : wipe (wipe σ vs) vs = wipe σ vs :=
  wipe_same ⟨wipe_length _ _, fun j hj => wipe_out hj⟩
theorem Same.sub {vs ws : List Nat} {σ σ' : L2.St} (s : Same vs σ σ') (h : ∀ i ∈ vs, i ∈ ws) : Same ws σ σ' := ⟨s.1, fun j hj => s.2 j fun q => hj (h j q)⟩
theorem wipeR_len (ρ : Rho) : ∀ vs : List Nat, (wipeR ρ vs).length = ρ.length
  | [] => rfl
  | v :: vs => by unfold wipeR; rw [List.length_set, wipeR_len ρ vs]
theorem wipeR_some {ρ : Rho} {i : Nat} {x : MP.D} : ∀ {vs : List Nat}, (wipeR ρ vs)[i]? = some (some x) → ρ[i]? = some (some x) ∧ i ∉ vs
  | [], h => ⟨h, by simp⟩
  | v :: vs, h => by
    unfold wipeR at h
    by_cases hi : v = i
    · subst hi
      by_cases hv : v < (wipeR ρ vs).length
      · rw [List.getElem?_set_self hv] at h; cases h
      · rw [List.getElem?_eq_none (by simpa using hv)] at h; cases h
    · rw [List.getElem?_set_ne hi] at h
      obtain ⟨h1, h2⟩ := wipeR_some h
      exact ⟨h1, by simp only [List.mem_cons, not_or]; exact ⟨fun e => hi e.symm, h2⟩⟩
theorem EnvR.wipe {vs : List Nat} (er : EnvR K m H σ ρ) : EnvR K m H (L2.wipe σ vs) (wipeR ρ vs) := by
  refine ⟨by rw [wipe_length, wipeR_len]; exact er.len, fun i d h => ?_⟩
  obtain ⟨h1, h2⟩ := wipeR_some h
  obtain ⟨v, e, a⟩ := er.at_ i d h1
  exact ⟨v, by rw [wipe_out h2]; exact e, a⟩
/-- the turns -/
def lcF (L : Lnk) (n : Nat) (c : Oe) (r : Gs) : Rho → Store → List MP.D → R (List MP.D) := lcT (evO (L.G n) c) (evGs (L.G n) r)
theorem n_turns {J : It} {w : Walked} {m0 : M} {H0 : Hp} {t : Tg} {c : Oe} {r : Gs} {vs : List Nat} {ρw : Rho} {acc : List MP.D} {avs : List V} (it : ItOf X.K m0 H0 J w) (x0 : ExtW m0 H0 m H) (er : EnvR X.K m H (wipe σ vs) ρw) (rp : Rep X.K m H st) (hr : D ∈ m.rsv) (eD : H D = some (.lst avs)) (as : Ats X.K m H avs acc)
    (ok : w.ok st = true) (hs : ∀ i ∈ t.slots, i ∈ vs) (h : satD X.K D (lcL w t (lcF L n c r) w.xs ρw st acc) m H N) : tTurns J (tG X.K t) (tO L n X c) vs (tN L n X.K D r) σ H N := by
  let Iv : Nat → Hp → Prop := fun i H' => i ≤ w.xs.length ∧ ∃ m' st' acc' avs', ExtD D m H m' H' ∧ Rep X.K m' H' st' ∧ w.ok st' = true ∧ H' D = some (.lst avs') ∧ Ats X.K m' H' avs' acc' ∧ satD X.K D (lcL w t (lcF L n c r) (w.xs.drop i) ρw st' acc') m' H' N
  refine ⟨fun i k H' => k = w.xs.length - i ∧ Iv i H', ⟨w.xs.length, rfl, Nat.zero_le _, m, st, acc, avs, .refl _ _ _, rp, ok, eD, as, by simpa using h⟩, ?_⟩
  rintro i k H' ⟨rfl, hi, m', st', acc', avs', x', rp', ok', eD', as', h'⟩
  have xx := x0.trans x'.toExtW
  by_cases hlt : i < w.xs.length
  · refine .inr ⟨it.go i m' H' st' xx rp' ok' hlt, Iv (i + 1), fun H2 iv => ⟨w.xs.length - (i + 1), by omega, rfl, iv⟩, fun v H2 y => ?_⟩
    obtain ⟨x2, rp2, d, ed, hd⟩ := it.yld i m' H' st' v H2 xx rp' ok' hlt y
    have hr' : D ∈ m'.rsv := x'.rsv D hr
    have eD2 : H2 D = some (.lst avs') := (x2.rk D hr').trans eD'
    have e0 : w.xs[i] = d := by
      rw [List.getElem?_eq_getElem hlt] at ed
      exact Option.some.inj ed
    rw [List.drop_eq_getElem_cons hlt, e0] at h'
    unfold lcL at h'
    split at h'
    · exact h'.elim
    · rename_i ρ' ea
      refine ⟨m', ρw, st', d, ρ', (er.extW x'.toExtW).extW x2.toExtW, rp2, hd, ea, fun σ2 er2 same => ⟨?_, ?_⟩⟩
      · have := wipe_same (same.sub hs)
        rw [this, wipe_wipe]
      · refine ⟨m', ρ', st', er2, rp2, ?_⟩
        have xD2 : ExtD D m H m' H2 := x'.trans (x2.toD D)
        unfold lcF lcT at h'
        cases q : evO (L.G n) c ρ' st' with
        | no => rw [q] at h'; exact h'.elim
        | ex _ _ => rw [q] at h'; exact h'.elim
        | ok b st3 =>
          rw [q] at h'
          intro m3 H3 x3 rp3
          have eD3 : H3 D = some (.lst avs') := (x3.rk D hr').trans eD2
          have hr3 : D ∈ m3.rsv := x3.rsv D hr'
          have as3 : Ats X.K m3 H3 avs' acc' := (as'.ext x2).ext x3
          have xD3 : ExtD D m H m3 H3 := xD2.trans (x3.toD D)
          have x13 : ExtD D m' H' m3 H3 := (x2.toD D).trans (x3.toD D)
          cases b with
          | false =>
            simp only [Bool.false_eq_true, if_false]
            simp only [R.oks_ok, Bool.false_eq_true, if_false] at h'
            split at h'
            · rename_i okk
              exact ⟨hlt, m3, st3, acc', avs', xD3, rp3, okk, eD3, as3, satD.ext h' x13⟩
            · exact h'.elim
          | true =>
            simp only [if_true]
            simp only [R.oks_ok, if_true] at h'
            refine ⟨m3, ρ', st3, acc', avs', er2.ext x3, rp3, hr3, eD3, as3, ?_⟩
            cases q2 : evGs (L.G n) r ρ' st3 acc' with
            | no => rw [q2] at h'; exact h'.elim
            | ex _ _ => rw [q2] at h'; exact h'.elim
            | ok acc2 st2 =>
              rw [q2] at h'
              simp only [R.oks_ok] at h'
              split at h'
              · rename_i okk
                exact fun m4 H4 avs4 x4 rp4 e4 as4 => ⟨hlt, m4, st2, acc2, avs4, xD3.trans x4, rp4, okk, e4, as4, satD.ext h' (x13.trans x4)⟩
              · exact h'.elim
  · have e : i = w.xs.length := by omega
    subst e
    refine .inl ⟨it.stop m' H' st' xx rp' ok', ?_⟩
    rw [List.drop_length] at h'
    exact h' m' H' avs' (.refl _ _ _) rp' eD' as'
/-- a further clause -/
theorem n_cl {t : Tg} {i : Iter} {c : Oe} {r : Gs} (h : tN L n X.K D (.cons t i c r) σ H N) : tCl (tI L n X W i) (tG X.K t) (tO L n X c) (t.slots ++ r.slots) (tN L n X.K D r) σ H N := by
  obtain ⟨m, ρ, st, acc, avs, er, rp, hr, eD, as, h⟩ := h
  refine ⟨m, ρ, st, er, rp, ?_⟩
  simp only [evGs] at h
  cases q : evI (L.G n) i ρ st with
  | no => rw [q] at h; exact h.elim
  | ex x s => rw [q] at h; exact h.elim
  | ok w st1 =>
    rw [q] at h
    intro m1 H1 x rp1
    have ok := evI_ok q
    refine ⟨ok, fun J it => ?_⟩
    exact n_turns it (.refl _ _) (er.ext x).wipe rp1 (x.rsv D hr) ((x.rk D hr).trans eD) (as.ext x) ok (fun i hi => List.mem_append_left _ hi) (satD.ext h (x.toD D))
/-! ### the whole -/
theorem Ext.lay (rp : Rep K m H st) (hD : H D = none) : ExtW m H ⟨m.locs, D :: m.rsv⟩ (upd H D (.lst [])) := by
  have x := ExtW.new (o := .lst []) rp hD
  exact ⟨fun _ h => List.mem_cons_of_mem _ h, fun a h => by
    rcases List.mem_cons.mp h with e | e
    · exact .inr (by rw [e]; exact hD)
    · exact .inl e, ⟨[], by simp⟩, x.th, fun _ _ q => q, x.kp⟩
theorem CellAt.same {m' : M} {a : Addr} {c : Cell} (f : ∀ {v d}, At K m H v d → At K m' H v d) (h : CellAt K m H a c) : CellAt K m' H a c := by
  have fs : ∀ {vs ds}, Ats K m H vs ds → Ats K m' H vs ds := fun {vs ds} h => by
    induction vs generalizing ds with
    | nil => cases h; exact .nil
    | cons v vs ih => cases h with
      | cons h r => exact .cons (f h) (ih r)
  cases c with
  | lst ds =>
    obtain ⟨vs, e, r⟩ := h
    exact ⟨vs, e, fs r⟩
  | dct kvs =>
    obtain ⟨ks, e, r⟩ := h
    refine ⟨ks, e, ?_⟩
    clear e
    induction ks generalizing kvs with
    | nil => cases r; exact .nil
    | cons k ks ih => cases r with
      | cons h r => exact .cons (f h) (ih _ r)
theorem Rep.lay (rp : Rep K m H st) (hD : H D = none) : Rep K ⟨m.locs, D :: m.rsv⟩ (upd H D (.lst [])) st := by
  have x := Ext.lay rp hD
  refine ⟨rp.len, rp.nd, fun k a c h1 h2 => (rp.cell k a c h1 h2).keep x (upd_ne fun z => ?_), fun a ha => ?_⟩
  · subst z
    exact (rp.fresh hD).1 (List.mem_of_getElem? h1)
  · rcases List.mem_cons.mp ha with e | e
    · subst e
      exact ⟨(rp.fresh hD).1, _, upd_same, fun _ => HO.noConfusion⟩
    · obtain ⟨h1, o, h2, h3⟩ := rp.rsv a e
      exact ⟨h1, o, by rw [upd_ne (ne_of_none h2 hD)]; exact h2, h3⟩
def NoTF (o : HO) : Prop := (∀ xs, o ≠ .tup xs) ∧ ∀ b u, o ≠ .frz b u
theorem notf_lst {xs : List V} : NoTF (.lst xs) := ⟨fun _ => HO.noConfusion, fun _ _ => HO.noConfusion⟩
theorem notf_dK {xs : List (Key × V)} : NoTF (.dK xs) := ⟨fun _ => HO.noConfusion, fun _ _ => HO.noConfusion⟩
mutual
/-- the list that was made becomes a cell -/
theorem At.seal {r : List Addr} {o : HO} (hr : D ∈ m.rsv) (e : H D = some o) (ho : NoTF o) (x : ∀ a ∈ r, a ∈ m.rsv) : ∀ {v : V} {d : MP.D}, At K m H v d → At K ⟨m.locs ++ [D], r⟩ H v d
  | _, _, .non => .non
  | _, _, .bl b => .bl b
  | _, _, .int i => .int i
  | _, _, .str s => .str s
  | _, _, .tup h q => .tup (by
    rcases h with ⟨h, n⟩ | h
    · refine .inl ⟨h, fun z => ?_⟩
      rcases List.mem_append.mp z with z | z
      · exact n z
      · rw [List.mem_singleton.mp z, e] at h
        exact absurd (Option.some.inj h) (ho.1 _)
    · exact .inr h) (q.seal hr e ho x)
  | _, _, .lst h n q s => .lst h (fun z => by
      rcases List.mem_append.mp z with z | z
      · exact n z
      · exact q (by rw [List.mem_singleton.mp z]; exact hr)) (fun z => q (x _ z)) (s.seal hr e ho x)
  | _, _, .rol h q => .rol (by
    rcases h with ⟨h, n, s⟩ | ⟨o, h, n⟩ | h
    · refine .inl ⟨h, fun z => ?_, fun z => s (x _ z)⟩
      rcases List.mem_append.mp z with z | z
      · exact n z
      · exact s (by rw [List.mem_singleton.mp z]; exact hr)
    · refine .inr (.inl ⟨o, h, fun z => ?_⟩)
      rcases List.mem_append.mp z with z | z
      · exact n z
      · rw [List.mem_singleton.mp z, e] at h
        exact absurd (Option.some.inj h) (ho.2 _ _)
    · exact .inr (.inr h)) (q.seal hr e ho x)
  | _, _, .loc h => .loc (by
    show (m.locs ++ [D])[_]? = _
    rw [List.getElem?_append_left (List.getElem?_eq_some_iff.mp h).1]
    exact h)
theorem Ats.seal {r : List Addr} {o : HO} (hr : D ∈ m.rsv) (e : H D = some o) (ho : NoTF o) (x : ∀ a ∈ r, a ∈ m.rsv) : ∀ {vs : List V} {ds : List MP.D}, Ats K m H vs ds → Ats K ⟨m.locs ++ [D], r⟩ H vs ds
  | _, _, .nil => .nil
  | _, _, .cons h q => .cons (h.seal hr e ho x) (q.seal hr e ho x)
end
theorem n_lc {t : Tg} {i : Iter} {c : Oe} {r : Gs} {b : Bool} {σ : L2.St} {H : Hp} {Q : VK} (h : tE L n X W (.lc t i c r b) σ H Q) : tLcN (tI L n X W i) (tG X.K t) (tO L n X c) (t.slots ++ r.slots) (fun D => tN L n X.K D r) σ H Q := by
  obtain ⟨m, ρ, st, er, rp, h⟩ := h
  refine ⟨m, ρ, st, er, rp, ?_⟩
  simp only [evE] at h
  cases q : evI (L.G n) i ρ st with
  | no => rw [q] at h; exact h.elim
  | ex x s => rw [q] at h; exact h
  | ok w st1 =>
    rw [q] at h
    intro m1 H1 x rp1
    have ok := evI_ok q
    refine ⟨ok, fun J it D hD => ?_⟩
    have xl := Ext.lay rp1 hD
    refine n_turns (D := D) (avs := []) (acc := []) it xl (((er.ext x).wipe).extW xl) (rp1.lay hD) (List.mem_cons_self ..) upd_same .nil ok (fun i hi => List.mem_append_left _ hi) ?_
    have h : ((lcL w t (lcF L n c r) w.xs (wipeR ρ (t.slots ++ r.slots)) st1 []).oks fun acc st2 => if b = true then .ok (.loc st2.length) (st2 ++ [.lst acc]) else .ok (.lst acc) st2 : R MP.D).sat X.K m H (fun d _ m' H' => ∀ v, At X.K m' H' v d → Q v H') (xW L X W σ) := h
    cases q2 : lcL w t (lcF L n c r) w.xs (wipeR ρ (t.slots ++ r.slots)) st1 [] with
    | no => rw [q2] at h; exact h.elim
    | ex _ _ => rw [q2] at h; exact h.elim
    | ok acc st2 =>
      rw [q2] at h
      simp only [R.oks_ok] at h
      intro m2 H2 avs x2 rp2 e2 as2
      have hr2 : D ∈ m2.rsv := x2.rsv D (List.mem_cons_self ..)
      have nD := rp1.fresh hD
      have sub : ∀ a ∈ m1.rsv, a ∈ m2.rsv := fun a ha => x2.rsv a (List.mem_cons_of_mem _ ha)
      have xw : ExtW m1 H1 m2 H2 := xl.trans x2.toExtW
      have rk : ∀ a ∈ m1.rsv, H2 a = H1 a := fun a ha => by
        have ne : a ≠ D := fun z => nD.2 (z ▸ ha)
        rw [x2.rk a (List.mem_cons_of_mem _ ha) ne, upd_ne ne]
      have kp : ∀ a o, H1 a = some o → a ∉ m1.locs → (a ∈ m1.rsv → Fxd o) → (∀ ps, o ≠ .tbl ps) → H2 a = some o := xw.kp
      cases b with
      | false =>
        simp only [Bool.false_eq_true, if_false] at h
        refine h ⟨m2.locs, m1.rsv⟩ H2 (x.trans ⟨⟨fun _ q => q, fun _ q => .inl q, xw.pre, xw.th, xw.nl, kp⟩, rk⟩) ⟨rp2.len, rp2.nd, fun k a c h1 h2 => (rp2.cell k a c h1 h2).same fun q => q.unrsv sub, fun a ha => rp2.rsv a (sub a ha)⟩ _ ?_
        exact .lst e2 (rp2.rsv D hr2).1 nD.2 (as2.unrsv sub)
      | true =>
        simp only [if_true] at h
        have nl : D ∉ m2.locs := (rp2.rsv D hr2).1
        have sl : ∀ {v d}, At X.K m2 H2 v d → At X.K ⟨m2.locs ++ [D], m1.rsv⟩ H2 v d := fun q => q.seal hr2 e2 notf_lst sub
        refine h ⟨m2.locs ++ [D], m1.rsv⟩ H2 (x.trans ⟨⟨fun _ q => q, fun _ q => .inl q, ?_, xw.th, fun a q1 q2 z => ?_, kp⟩, rk⟩) ⟨by simp [rp2.len], ?_, fun k a c h1 h2 => ?_, fun a ha => ⟨fun z => ?_, (rp2.rsv a (sub a ha)).2⟩⟩ _ ?_
        · obtain ⟨p, e⟩ := xw.pre
          exact ⟨p ++ [D], by rw [e, List.append_assoc]⟩
        · rcases List.mem_append.mp z with z | z
          · exact xw.nl a q1 q2 z
          · rw [List.mem_singleton.mp z] at q1
            exact q1 hD
        · refine List.nodup_append.mpr ⟨rp2.nd, by simp, fun a ha b hb e => ?_⟩
          rw [List.mem_singleton.mp hb] at e
          subst e
          exact nl ha
        · by_cases hk : k < st2.length
          · rw [List.getElem?_append_left hk] at h2
            have h1 : (m2.locs ++ [D])[k]? = some a := h1
            rw [List.getElem?_append_left (by rw [rp2.len]; exact hk)] at h1
            exact (rp2.cell k a c h1 h2).same sl
          · have hk2 : k = st2.length := by
              have := (List.getElem?_eq_some_iff.mp h2).1
              simp at this
              omega
            subst hk2
            rw [List.getElem?_append_right (Nat.le_refl _)] at h2
            have h1 : (m2.locs ++ [D])[st2.length]? = some a := h1
            rw [List.getElem?_append_right (by rw [rp2.len]; exact Nat.le_refl _), rp2.len] at h1
            simp at h1 h2
            subst h1; subst h2
            exact ⟨avs, e2, as2.seal hr2 e2 notf_lst sub⟩
        · rcases List.mem_append.mp z with z | z
          · exact (rp2.rsv a (sub a ha)).1 z
          · exact nD.2 (List.mem_singleton.mp z ▸ ha)
        · refine .loc ?_
          show (m2.locs ++ [D])[st2.length]? = some D
          rw [← rp2.len, List.getElem?_append_right (Nat.le_refl _)]
          simp
end
end MP
end

section
set_option Elab.async false
set_option linter.all false
set_option maxRecDepth 100000
/-! Dicts: displays, comprehensions, keys; get; the place in a constant. -/
namespace MP
open PySem PySem.Spec PyProof.Rows L2
section
variable {L : Lnk} {n : Nat} {X : Cx} {W : WX} {m : M} {σ : L2.St} {ρ : Rho} {st : Store} {H : Hp}
/-! ### an object that is being made -/
section
variable {K : PySem.W.Frag} {m1 : M} {H1 : Hp} {D : Addr}
theorem Ext.layO {o : HO} (rp : Rep K m H st) (hD : H D = none) : ExtW m H ⟨m.locs, D :: m.rsv⟩ (upd H D o) := by
  have x := ExtW.new (o := o) rp hD
  refine ⟨fun _ h => List.mem_cons_of_mem _ h, fun a h => ?_, ⟨[], by simp⟩, x.th, fun _ _ q => q, x.kp⟩
  rcases List.mem_cons.mp h with e | e
  · exact .inr (by rw [e]; exact hD)
  · exact .inl e
theorem Rep.layO {o : HO} (rp : Rep K m H st) (hD : H D = none) (ho : ∀ ps, o ≠ .tbl ps) : Rep K ⟨m.locs, D :: m.rsv⟩ (upd H D o) st := by
  have x := Ext.layO (o := o) rp hD
  refine ⟨rp.len, rp.nd, fun k a c h1 h2 => (rp.cell k a c h1 h2).keep x (upd_ne fun z => ?_), fun a ha => ?_⟩
  · subst z
    exact (rp.fresh hD).1 (List.mem_of_getElem? h1)
  · rcases List.mem_cons.mp ha with e | e
    · subst e
      exact ⟨(rp.fresh hD).1, _, upd_same, ho⟩
    · obtain ⟨h1, u, h2, h3⟩ := rp.rsv a e
      exact ⟨h1, u, by rw [upd_ne (ne_of_none h2 hD)]; exact h2, h3⟩
theorem ExtD.appO {o o' : HO} (hr : D ∈ m.rsv) (e : H D = some o) (nf : ¬ Fxd o) : ExtD D m H m (upd H D o') := by
  refine ⟨⟨fun _ h => h, fun _ h => .inl h, ⟨[], by simp⟩, fun b q => ?_, fun _ _ q => q, fun b u q _ r _ => ?_⟩, fun b _ q => upd_ne q⟩
  · by_cases z : b = D
    · rw [z, upd_same]; simp
    · rw [upd_ne z]; exact q
  · rw [upd_ne]
    · exact q
    · intro z
      subst z
      rw [e] at q
      cases q
      exact nf (r hr)
theorem Rep.appO {o o' : HO} (rp : Rep K m H st) (hr : D ∈ m.rsv) (e : H D = some o) (nf : ¬ Fxd o) (nt : ∀ ps, o' ≠ .tbl ps) : Rep K m (upd H D o') st := by
  have x : ExtW m H m (upd H D o') := (ExtD.appO hr e nf).toExtW
  refine ⟨rp.len, rp.nd, fun k a c h1 h2 => (rp.cell k a c h1 h2).keep x (upd_ne fun z => ?_), fun a ha => ?_⟩
  · subst z
    exact (rp.rsv _ hr).1 (List.mem_of_getElem? h1)
  · obtain ⟨h1, u, h2, h3⟩ := rp.rsv a ha
    by_cases z : a = D
    · subst z
      exact ⟨h1, _, upd_same, nt⟩
    · exact ⟨h1, u, by rw [upd_ne z]; exact h2, h3⟩
/-- what was made becomes a cell -/
theorem seal_cell {o0 o2 : HO} {st1 st2 : Store} {m2 : M} {H2 : Hp} {c : Cell} (rp1 : Rep K m1 H1 st1) (hD : H1 D = none) (x2 : ExtD D ⟨m1.locs, D :: m1.rsv⟩ (upd H1 D o0) m2 H2) (rp2 : Rep K m2 H2 st2) (e2 : H2 D = some o2) (ho : NoTF o2) (hc : CellAt K m2 H2 D c) :
    Ext m1 H1 ⟨m2.locs ++ [D], m1.rsv⟩ H2 ∧ Rep K ⟨m2.locs ++ [D], m1.rsv⟩ H2 (st2 ++ [c]) ∧ (m2.locs ++ [D])[st2.length]? = some D ∧ ∀ {v d}, At K m2 H2 v d → At K ⟨m2.locs ++ [D], m1.rsv⟩ H2 v d := by
  have xl := Ext.layO (o := o0) rp1 hD
  have hr2 : D ∈ m2.rsv := x2.rsv D (List.mem_cons_self ..)
  have nD := rp1.fresh hD
  have sub : ∀ a ∈ m1.rsv, a ∈ m2.rsv := fun a ha => x2.rsv a (List.mem_cons_of_mem _ ha)
  have xw : ExtW m1 H1 m2 H2 := xl.trans x2.toExtW
  have rk : ∀ a ∈ m1.rsv, H2 a = H1 a := fun a ha => by
    have ne : a ≠ D := fun z => nD.2 (z ▸ ha)
    rw [x2.rk a (List.mem_cons_of_mem _ ha) ne, upd_ne ne]
  have nl : D ∉ m2.locs := (rp2.rsv D hr2).1
  have sl : ∀ {v d}, At K m2 H2 v d → At K ⟨m2.locs ++ [D], m1.rsv⟩ H2 v d := fun q => q.seal hr2 e2 ho sub
  have at2 : (m2.locs ++ [D])[st2.length]? = some D := by
    rw [← rp2.len, List.getElem?_append_right (Nat.le_refl _)]
    simp
  refine ⟨⟨⟨fun _ q => q, fun _ q => .inl q, ?_, xw.th, fun a q1 q2 z => ?_, xw.kp⟩, rk⟩, ⟨by simp [rp2.len], ?_, fun k a c' h1 h2 => ?_, fun a ha => ⟨fun z => ?_, (rp2.rsv a (sub a ha)).2⟩⟩, at2, sl⟩
  · obtain ⟨p, e⟩ := xw.pre
    exact ⟨p ++ [D], by rw [e, List.append_assoc]⟩
  · rcases List.mem_append.mp z with z | z
    · exact xw.nl a q1 q2 z
    · rw [List.mem_singleton.mp z] at q1
      exact q1 hD
  · refine List.nodup_append.mpr ⟨rp2.nd, by simp, fun a ha b hb e => ?_⟩
    rw [List.mem_singleton.mp hb] at e
    subst e
    exact nl ha
  · by_cases hk : k < st2.length
    · rw [List.getElem?_append_left hk] at h2
      have h1 : (m2.locs ++ [D])[k]? = some a := h1
      rw [List.getElem?_append_left (by rw [rp2.len]; exact hk)] at h1
      exact (rp2.cell k a c' h1 h2).same sl
    · have hk2 : k = st2.length := by
        have := (List.getElem?_eq_some_iff.mp h2).1
        simp at this
        omega
      subst hk2
      rw [List.getElem?_append_right (Nat.le_refl _)] at h2
      have h1 : (m2.locs ++ [D])[st2.length]? = some a := h1
      rw [at2] at h1
      cases h1
      have hc' : c' = c := by simpa using h2.symm
      rw [hc']
      exact hc.same sl
  · rcases List.mem_append.mp z with z | z
    · exact (rp2.rsv a (sub a ha)).1 z
    · exact nD.2 (List.mem_singleton.mp z ▸ ha)
theorem dK_nf {ks : List (Key × V)} : ¬ Fxd (.dK ks) := fun h => h.2 ks rfl
end
/-! ### displays -/
def trsD (L : Lnk) (n : Nat) (X : Cx) (W : WX) : List T → Es → List (TE × TE)
  | k :: ks, .cons e r => (tC (.str (S0 k)), tE L n X W e) :: trsD L n X W ks r
  | _, _ => []
def Es.len : Es → Nat
  | .nil => 0
  | .cons _ r => r.len + 1
theorem n_pairs : ∀ (ks : List T) (es : Es) {m : M} {ρ : Rho} {st : Store} {H : Hp} {Q : List (V × V) → Hp → Prop}, es.len = ks.length → EnvR X.K m H σ ρ → Rep X.K m H st →
    (evEs (L.G n) es ρ st).sat X.K m H (fun ds _ m' H' => ∀ vs, Ats X.K m' H' vs ds → Q ((ks.map fun k => V.str (S0 k)).zip vs) H') (xW L X W σ) → tPairs (trsD L n X W ks es) σ H Q
  | [], .nil, m, ρ, st, H, Q, hl, er, rp, h => sat_ok (show (R.ok [] st).sat _ _ _ _ _ from h) rp [] .nil
  | k :: ks, .nil, m, ρ, st, H, Q, hl, er, rp, h => by simp [Es.len] at hl
  | [], .cons e r, m, ρ, st, H, Q, hl, er, rp, h => by simp [Es.len] at hl
  | k :: ks, .cons e r, m, ρ, st, H, Q, hl, er, rp, h => by
    show tE L n X W e σ H _
    simp only [evEs] at h
    refine tE_bd er rp h fun d st1 m1 H1 v x er1 rp1 a h => ?_
    exact n_pairs ks r (by simpa [Es.len] using hl) er1 rp1 ((sat_bd h).mono fun ds st2 m2 H2 y rp2 q vs hv => sat_ok q rp2 (v :: vs) (.cons (a.ext y) hv))
def kds : List T → List D → List (MP.K × D)
  | k :: ks, d :: ds => (.inr k, d) :: kds ks ds
  | _, _ => []
def kvs' : List T → List V → List (Key × V)
  | k :: ks, v :: vs => (.inr (S0 k), v) :: kvs' ks vs
  | _, _ => []
theorem kds_eq : ∀ (ks : List T) (ds : List D), (ks.map Sum.inr).zip ds = kds ks ds
  | [], _ => by simp [kds]
  | _ :: _, [] => by simp [kds]
  | k :: ks, d :: ds => by
    show (_, _) :: (ks.map Sum.inr).zip ds = _
    rw [kds_eq ks ds]
    rfl
theorem kvs_eq : ∀ (ks : List T) (vs : List V), (ks.map fun k => V.str (S0 k)).zip vs = (kvs' ks vs).map fun kv => (kV kv.1, kv.2)
  | [], _ => by simp [kvs']
  | _ :: _, [] => by simp [kvs']
  | k :: ks, v :: vs => by
    show (_, _) :: (ks.map fun k => V.str (S0 k)).zip vs = _
    rw [kvs_eq ks vs]
    rfl
theorem kvs_len : ∀ (ks : List T) (vs : List V), (kvs' ks vs).length ≤ ks.length
  | [], _ => by simp [kvs']
  | _ :: _, [] => by simp [kvs']
  | k :: ks, v :: vs => by
    simp only [kvs', List.length_cons]
    have := kvs_len ks vs
    omega
theorem kvs_at {K : PySem.W.Frag} : ∀ (ks : List T) {vs : List V} {ds : List D}, Ats K m H vs ds → KAt K m H (kvs' ks vs) (kds ks ds)
  | [], _, _, _ => .nil
  | _ :: _, _, _, .nil => .nil
  | k :: ks, _, _, .cons h r => .cons (k := .inr k) h (kvs_at ks r)
theorem s_dct {ks : List T} {es : Es} {keys : List (Option Expr)} {vals : List Expr} {pos : Pos} (h : PPs X pos keys vals (trsD L n X W ks es)) (hall : keys.all (·.isSome) = true) (hl : keys.length = vals.length) (h0 : keys ≠ []) (h15 : keys.length ≤ 15) (hk : es.len = ks.length) :
    PE X (.Dict keys vals pos) (tE L n X W (.dct ks es)) := by
  refine eby (pe_disp h hall hl h0 h15) fun σ H Q ⟨m, ρ, st, er, rp, h⟩ p hp => ?_
  simp only [evE] at h
  have xl := Ext.layO (o := .dK []) rp hp
  have rpl := Rep.layO (o := .dK []) rp hp fun _ => HO.noConfusion
  refine n_pairs (m := ⟨m.locs, p :: m.rsv⟩) (ρ := ρ) (st := st) ks es hk (er.extW xl) rpl ?_
  cases q : evEs (L.G n) es ρ st with
  | no => rw [q] at h; exact h.elim
  | ex y s => rw [q] at h; exact h.elim
  | ok ds st1 =>
    rw [q, R.oks_ok] at h
    intro m1 H1 x rp1 vs hv
    split at h
    · rename_i hz
      have e1 : H1 p = some (.dK []) := (x.rk p (List.mem_cons_self ..)).trans upd_same
      have hr : p ∈ m1.rsv := x.rsv p (List.mem_cons_self ..)
      refine ⟨e1, kvs' ks vs, kvs_eq ks vs, Nat.le_trans (kvs_len ks vs) hz.2, ?_⟩
      have xd : ExtD p m1 H1 m1 (upd H1 p (.dK (L2.mergeK [] (kvs' ks vs)))) := ExtD.appO hr e1 dK_nf
      have rpd := Rep.appO (o' := .dK (L2.mergeK [] (kvs' ks vs))) rp1 hr e1 dK_nf fun _ => HO.noConfusion
      have kat : KAt X.K m1 (upd H1 p (.dK (L2.mergeK [] (kvs' ks vs)))) (L2.mergeK [] (kvs' ks vs)) (MP.mergeK [] (kds ks ds)) := ((kvs_at ks hv).merge .nil).ext xd.toExtW
      obtain ⟨s1, s2, s3, _⟩ := seal_cell (c := .dct (MP.mergeK [] (kds ks ds))) rp hp ((x.toD p).trans xd) rpd upd_same notf_dK ⟨_, upd_same, kat⟩
      rw [← kds_eq] at s2
      exact h _ _ s1 s2 _ (.loc s3)
    · exact h.elim
/-! ### the place in a constant, get -/
theorem strsD_map : ∀ {ds : List D} {xs : List T}, strsOf ds = some xs → ds = xs.map D.str
  | [], xs, h => by
    simp [strsOf] at h
    subst h
    rfl
  | d :: ds, xs, h => by
    cases d <;> simp [strsOf] at h
    obtain ⟨r, e1, e2⟩ := h
    subst e2
    rw [strsD_map e1]
    rfl
def tupB : Option D → Bool
  | some (.tup _) => true
  | _ => false
theorem s_gix {g : Nat} {a : E} {eb : Expr} {np ap pos : Pos} (F : Facts L n X W) (hg : glB X.env.scope (L.gnm g) = true) (hn : okName (L.gnm g) = true) (hb : PE X eb (tE L n X W a)) (ho : okx eb = true) (hl : (ap.endLine == pos.line) = true) (hsome : tupB (L.pr.glob g) = true) :
    PE X (.Call (.Attribute (.Name (L.gnm g) np) "index" ap) [eb] [] pos) (tE L n X W (.gix g a)) := by
  simp only [okName, Bool.and_eq_true, Bool.not_eq_true'] at hn
  obtain ⟨ds, ed⟩ : ∃ ds, L.pr.glob g = some (.tup ds) := by
    revert hsome
    cases L.pr.glob g with
    | none => intro h; cases h
    | some d => cases d <;> first | (intro h; exact ⟨_, rfl⟩) | (intro h; cases h)
  obtain ⟨v, u, e1, e2, e3, e4⟩ := F.gl g _ ed
  refine eby (pe_bmS PySem.F.plainAttrs_tuple PySem.F.slot_tuple_index PySem.F.type_tuple_index mt_tup_index.toS (pe_glob (glB_ok hg) e1 e2 hn.1) (s_cons hb s_nil ho) rfl (hfew1 ho) hl (star_ok ho) rfl) fun σ H Q ⟨m, ρ, st, er, rp, h⟩ => ?_
  simp only [evE] at h
  have ed' : (L.G n).glob g = some (.tup ds) := ed
  rw [ed'] at h
  · skip
    obtain ⟨p, vs, hv, hT, hA⟩ := At.tup_inv (e3 m H)
    subst hv
    obtain ⟨a', o', q1, q2, q3, q4⟩ := e4 ds rfl
    cases q1
    refine ⟨.inr (.inl ⟨rfl, o', q2, q3, q4⟩), ?_⟩
    have key : tE L n X W a σ H fun x H1 => ∃ p', ∃ ys : List Str, ∃ z j, V.ref p = .ref p' ∧ [x] = [V.str z] ∧ SqT X.K H1 p' (ys.map V.str) ∧ ys[j]? = some z ∧ (∀ k, k < j → ys[k]? ≠ some z) ∧ Q (.int (j : Nat)) H1 := by
      refine tE_bd er rp h fun x st1 m1 H1 w ex er1 rp1 aw h => ?_
      obtain ⟨z, ez, h⟩ := sat_of h
      cases x with
      | str t =>
        unfold gixV at ez
        dsimp only at ez
        cases q : strsOf ds with
        | none => rw [q] at ez; cases ez
        | some xs =>
          rw [q] at ez
          obtain ⟨j, q2, ej⟩ := Option.map_eq_some_iff.mp ez
          subst ej
          cases aw
          obtain ⟨hj, hj1, hj2⟩ := List.findIdx?_eq_some_iff_getElem.mp q2
          obtain ⟨p2, vs2, hv2, hT2, hA2⟩ := At.tup_inv (e3 m1 H1)
          cases hv2
          have ev := hA2.strs q
          subst ev
          refine ⟨p, xs.map S0, S0 t, j, rfl, rfl, hT2.seq, ?_, fun k hk e => ?_, sat_ok h rp1 _ (.int _)⟩
          · rw [List.getElem?_map, List.getElem?_eq_getElem hj]
            have : xs[j] = t := by simpa using hj1
            rw [this]
            rfl
          · rw [List.getElem?_map, List.getElem?_eq_getElem (by omega)] at e
            have := S0_inj (Option.some.inj e)
            have h2 := hj2 k hk
            simp [this] at h2
      | _ => cases ez
    obtain ⟨m', ρ', st', er', rp', k⟩ := key
    refine ⟨m', ρ', st', er', rp', ?_⟩
    simp only [evEs]
    cases q : evE (L.G n) a ρ' st' with
    | no => rw [q] at k; exact k.elim
    | ex y s => rw [q] at k; exact k
    | ok d2 s2 =>
      rw [q] at k
      intro m2 H2 x2 rp2 vs2 hv2
      obtain ⟨w, rfl, hw⟩ := hv2.one
      exact k m2 H2 x2 rp2 w hw
theorem hfew2 {e f : Expr} {pos : Pos} {env : Env} (h : okx e = true) (h2 : okx f = true) : ((backTo pos (starEach [e, f] env)).all (fun x => !x.1) && (backToKw pos (keywordEach [] env)).all (fun x => x.1.isSome)
      && decide (([e, f] : List Expr).length + ([] : List Keyword).length + (if ([] : List Keyword).isEmpty then 0 else 1) < 30)) = true := by
  rw [star_ok h, star_ok h2]
  rfl
theorem s_get {o a b : E} {eo ea eb : Expr} {ap pos : Pos} (F : Facts L n X W) (ho : PE X eo (tE L n X W o)) (ha : PE X ea (tE L n X W a)) (hb : PE X eb (tE L n X W b)) (h1 : okx ea = true) (h2 : okx eb = true) (hr : recvB eo = true) (hl : (ap.endLine == pos.line) = true) :
    PE X (.Call (.Attribute eo "get" ap) [ea, eb] [] pos) (tE L n X W (.mth .get o (.cons a (.cons b .nil)))) := by
  have tr : backTo pos (starEach [ea, eb] X.env) = [(false, eval ea X.env), (false, eval eb X.env)] := by
    rw [star_ok h1, star_ok h2]
    rfl
  refine eby (pe_dget2 (by have := F.units; omega) ho ha hb ⟨recvB_ok hr, hfew2 h1 h2, hl, tr⟩) fun σ H Q ⟨m, ρ, st, er, rp, h⟩ => ?_
  simp only [evE] at h
  refine tE_bd er rp h fun d st1 m1 H1 v x er1 rp1 av h => ?_
  split at h
  · rename_i hk
    cases av with
    | @loc p k hp =>
      have isd : ∀ {m2 H2 st2}, Ext m1 H1 m2 H2 → Rep X.K m2 H2 st2 → m2.locs[k]? = some p := fun x _ => x.loc hp
      have hd : IsD H1 p := by
        cases q : st1[k]? with
        | none => simp [recvK, q] at hk
        | some c =>
          cases c with
          | lst _ => simp [recvK, q] at hk
          | dct kvs =>
            obtain ⟨ks, e1, _⟩ := rp1.cell k p _ hp q
            exact .inl ⟨ks, .inl e1⟩
      refine ⟨p, rfl, hd, ?_⟩
      simp only [evEs, R.bd_ok, bd_bd] at h
      refine tE_bd er1 rp1 h fun d2 st2 m2 H2 w y er2 rp2 bw h => ?_
      simp only [R.bd_ok, bd_bd] at h
      refine tE_bd er2 rp2 h fun d3 st3 m3 H3 w3 y3 er3 rp3 cw h => ?_
      have hp3 : m3.locs[k]? = some p := y3.loc (y.loc hp)
      simp only [evMth] at h
      cases q : st3[k]? with
      | none => simp only [q] at h; exact h.elim
      | some c =>
        cases c with
        | lst _ => simp only [q] at h; exact h.elim
        | dct kvs =>
          cases qk : d2.key with
          | none => simp only [q, qk] at h; exact h.elim
          | some kk0 =>
            simp only [q, qk] at h
            obtain ⟨ks, e1, r1⟩ := rp3.cell k p _ hp3 q
            have ek := key_of bw qk
            subst ek
            have vv := valV_of (k := kk0) r1 rfl
            cases qf : (kvs.find? fun kv => decide (kv.1 = kk0)).map (·.2) with
            | none =>
              rw [qf] at h
              exact ⟨none, .inl ⟨ks, kk kk0, .inl e1, rfl, (vv.2 qf).symm⟩, sat_ok h rp3 w3 cw⟩
            | some z =>
              rw [qf] at h
              obtain ⟨u, e2, e3⟩ := vv.1 z qf
              exact ⟨some u, .inl ⟨ks, kk kk0, .inl e1, rfl, e2.symm⟩, sat_ok h rp3 u e3⟩
    | _ => simp [recvK] at hk
  · exact h.elim
/-! ### the keys of a dict of texts -/
theorem texts_at {K : PySem.W.Frag} : ∀ {ks : List (Key × V)} {kvs : List (MP.K × D)} {ts : List T}, KAt K m H ks kvs → textsOf kvs = some ts → ks.map (·.1) = ts.map fun t => Sum.inr (S0 t)
  | _, _, ts, .nil, h => by
    simp [textsOf] at h
    subst h
    rfl
  | _, _, ts, .cons (k := .inr s) a r, h => by
    simp [textsOf] at h
    obtain ⟨q, e1, e2⟩ := h
    subst e2
    rw [List.map_cons, texts_at r e1]
    rfl
  | _, _, ts, .cons (k := .inl s) a r, h => by simp [textsOf] at h
theorem s_dct0 {pos : Pos} : PE X (.Dict [] [] pos) (tE L n X W (.dct [] .nil)) := by
  refine eby pe_dnewK fun σ H Q ⟨m, ρ, st, er, rp, h⟩ p hp => ?_
  have x2 : Ext m H (m.push p) (upd H p (.dK [])) := Ext.push rp hp
  have rp2 := rp.push (o := .dK []) (c := .dct []) hp ⟨[], upd_same, .nil⟩
  have h : (R.ok (MP.D.loc st.length) (st ++ [.dct []])).sat X.K m H (fun d _ m' H' => ∀ v, At X.K m' H' v d → Q v H') (xW L X W σ) := h
  refine h _ _ x2 rp2 (.ref p) (.loc ?_)
  show (m.locs ++ [p])[st.length]? = some p
  rw [← rp.len, List.getElem?_append_right (Nat.le_refl _)]
  simp
/-! ### list(range(..)) -/
theorem rgV_rng : ∀ (n : Nat) (i : Int) {K : PySem.W.Frag}, Ats K m H ((List.range n).map fun k => V.int (i + (k : Nat))) (rng i n)
  | 0, _, _ => .nil
  | n + 1, i, K => by
    rw [List.range_succ_eq_map, List.map_cons, List.map_map]
    have e : (fun k : Nat => V.int (i + (k : Int))) ∘ Nat.succ = fun k : Nat => V.int (i + 1 + (k : Int)) := by
      funext k
      simp only [Function.comp]
      congr 1
      omega
    rw [e]
    exact .cons (by simpa using At.int i) (rgV_rng n (i + 1))
theorem n_lrng {m' : Bool} {i j : Int} {Q : VK} (rp : Rep X.K m H st) (h : (lrR m' i j st).sat X.K m H (fun d _ m' H' => ∀ v, At X.K m' H' v d → Q v H') (xW L X W σ)) : L2.RgOk i j ∧ ∀ q, H q = none → Q (.ref q) (upd H q (.lst (L2.rgV i j))) := by
  unfold lrR at h
  split at h
  · rename_i c
    simp only [Bool.and_eq_true, rngOk, decide_eq_true_eq] at c
    refine ⟨⟨c.1.1.1, c.1.1.2, c.1.2.1, c.1.2.2, c.2⟩, fun q hq => ?_⟩
    cases m' with
    | false =>
      have x2 : Ext m H m (upd H q (.lst (L2.rgV i j))) := Ext.new rp hq
      exact h m _ x2 (rp.new hq) _ (.lst upd_same (rp.fresh hq).1 (rp.fresh hq).2 (rgV_rng _ _))
    | true =>
      have x2 : Ext m H (m.push q) (upd H q (.lst (L2.rgV i j))) := Ext.push rp hq
      refine h _ _ x2 (rp.push (c := .lst (rng i (j - i).toNat)) hq ⟨_, upd_same, rgV_rng _ _⟩) _ (.loc ?_)
      show (m.locs ++ [q])[st.length]? = some q
      rw [← rp.len, List.getElem?_append_right (Nat.le_refl _)]
      simp
  · exact h.elim
theorem s_lrng1 {m' : Bool} {a : E} {ea : Expr} {p q pos pos' : Pos} (F : Facts L n X W) (h1 : glB X.env.scope "list" = true) (h2 : glB X.env.scope "range" = true) (ha : PE X ea (tE L n X W a)) (ho : okx ea = true) : PE X (.Call (.Name "list" p) [.Call (.Name "range" q) [ea] [] pos'] [] pos) (tE L n X W (.lrng1 m' a)) := by
  refine eby (L2.pe_listRg F.calm (glB_ok h1) (F.blt _ (by decide +kernel)) (L2.prg_1 (glB_ok h2) (F.blt _ (by decide +kernel)) ha (star_ok ho))) fun σ H Q ⟨m, ρ, st, er, rp, h⟩ => ?_
  simp only [evE] at h
  refine tE_bd er rp h fun d st1 m1 H1 v x er1 rp1 av h => ?_
  cases av <;> first | exact h.elim | (exact ⟨_, rfl, n_lrng rp1 h⟩)
theorem s_lrng2 {m' : Bool} {a b : E} {ea eb : Expr} {p q pos pos' : Pos} (F : Facts L n X W) (h1 : glB X.env.scope "list" = true) (h2 : glB X.env.scope "range" = true) (ha : PE X ea (tE L n X W a)) (hb : PE X eb (tE L n X W b)) (ho : okx ea = true) (ho2 : okx eb = true) : PE X (.Call (.Name "list" p) [.Call (.Name "range" q) [ea, eb] [] pos'] [] pos) (tE L n X W (.lrng2 m' a b)) := by
  refine eby (L2.pe_listRg F.calm (glB_ok h1) (F.blt _ (by decide +kernel)) (L2.prg_2 (glB_ok h2) (F.blt _ (by decide +kernel)) ha hb (star_ok ho) (star_ok ho2) (by rw [star_ok ho2]; rfl))) fun σ H Q ⟨m, ρ, st, er, rp, h⟩ => ?_
  simp only [evE] at h
  refine tE_bd er rp h fun d st1 m1 H1 v x er1 rp1 av h => ?_
  refine tE_bd er1 rp1 h fun d2 st2 m2 H2 v2 x2 er2 rp2 bv h => ?_
  cases av <;> cases bv <;> first | exact h.elim | (exact ⟨_, _, rfl, rfl, n_lrng rp2 h⟩)
end
end MP
end

section
set_option Elab.async false
set_option linter.all false
set_option maxRecDepth 100000
/-! A term of the row is a term of the small language; what is then proved of it. -/
namespace MP
open PySem PySem.Spec PyProof.Rows L2
def ownOf (N : List Str) (vs : List Nat) : List (Str × Nat) := vs.filterMap fun i => (N[i]?).map fun x => (x, i)
def blkS (c : Scp) (scope : Scope) : Scp := ⟨c.N, relS scope c.sc, fun x => scope.names.lookup x == some .cell⟩
def ckKs : List T → List (Option Expr) → Bool
  | [], keys => keys.isEmpty
  | k :: ks, keys => match keys with
    | some (.Constant (.str x) _ _) :: r => decide (x = S0 k) && ckKs ks r
    | _ => false
def isSet : Expr → Bool
  | .Set .. => true
  | _ => false
mutual
def ckE (L : Lnk) (c : Scp) : E → Expr → Bool
  | .nm i, ex => match ex with
    | .Name x _ => decide (c.N[i]? = some x) && visB c.sc x && okName x
    | _ => false
  | .gl g, ex => match ex with
    | .Name x _ => decide (x = L.gnm g) && glB c.sc (L.gnm g) && okName (L.gnm g)
    | _ => false
  | .non, ex => match ex with
    | .Constant .none _ _ => true
    | _ => false
  | .bl b, ex => match ex with
    | .Constant (.bool b') _ _ => decide (b = b')
    | _ => false
  | .int i, ex => match ex with
    | .Constant (.int j) _ _ => decide (i = j)
    | .UnaryOp .USub (.Constant (.int j) _ _) _ => decide (i = -j)
    | _ => false
  | .str t, ex => match ex with
    | .Constant (.str x) _ _ => decide (x = S0 t)
    | _ => false
  | .tup es, ex => match ex with
    | .Tuple exs _ _ => ckEs L c es exs
    | _ => false
  | .lst _ es, ex => match ex with
    | .List exs _ => ckEs L c es exs
    | _ => false
  | .dct ks es, ex => match ex with
    | .Dict [] [] _ => ks.isEmpty && (match es with
      | .nil => true
      | _ => false)
    | .Dict keys vals _ => ckKs ks keys && ckEs L c es vals && decide (es.len = ks.length) && !keys.isEmpty && decide (keys.length ≤ 15)
    | _ => false
  | .bin op a b, ex => match ex with
    | .BinOp ea o eb _ => decide (o = bop op) && ckE L c a ea && ckE L c b eb
    | _ => false
  | .neg a, ex => match ex with
    | .UnaryOp .USub ea _ => ckE L c a ea
    | _ => false
  | .not a, ex => match ex with
    | .UnaryOp .Not ea _ => ckE L c a ea
    | _ => false
  | .and a b, ex => match ex with
    | .BoolOp .And (ea :: eb :: rest) pos => ckE L c a ea && (match rest with
      | [] => ckE L c b eb
      | r :: rs => ckE L c b (.BoolOp .And (eb :: r :: rs) pos))
    | _ => false
  | .or a b, ex => match ex with
    | .BoolOp .Or (ea :: eb :: rest) pos => ckE L c a ea && (match rest with
      | [] => ckE L c b eb
      | r :: rs => ckE L c b (.BoolOp .Or (eb :: r :: rs) pos))
    | _ => false
  | .ife q a b, ex => match ex with
    | .IfExp eq ea eb _ => ckE L c q eq && ckE L c a ea && ckE L c b eb
    | _ => false
  | .cmp op a b, ex => match ex with
    | .Compare ea [o] [eb] _ => decide (o = cop op) && ckE L c a ea && ckE L c b eb && okx eb
    | _ => false
  | .chn o p a b d, ex => match ex with
    | .Compare ea [o', p'] [eb, ed] _ => decide (o' = cop o) && decide (p' = cop p) && ckE L c a ea && ckE L c b eb && ckE L c d ed && okx ed
    | _ => false
  | .isn a, ex => match ex with
    | .Compare ea [.Is] [.Constant .none _ _] _ => ckE L c a ea
    | _ => false
  | .nisn a, ex => match ex with
    | .Compare ea [.IsNot] [.Constant .none _ _] _ => ckE L c a ea
    | _ => false
  | .idx a b, ex => match ex with
    | .Subscript ea eb _ => ckE L c a ea && ckE L c b eb && okx eb
    | _ => false
  | .sll a lo, ex => match ex with
    | .Subscript ea (.Slice (some el) none none _) _ => ckE L c a ea && ckE L c lo el
    | _ => false
  | .slh a hi, ex => match ex with
    | .Subscript ea (.Slice none (some el) none _) _ => ckE L c a ea && ckE L c hi el
    | _ => false
  | .slb a lo hi, ex => match ex with
    | .Subscript ea (.Slice (some el) (some eh) none _) _ => ckE L c a ea && ckE L c lo el && ckE L c hi eh
    | _ => false
  | .rev a, ex => match ex with
    | .Subscript ea (.Slice none none (some (.UnaryOp .USub (.Constant (.int j) _ _) _)) _) _ => decide (j = 1) && ckE L c a ea
    | _ => false
  | .gix g a, ex => match ex with
    | .Call (.Attribute (.Name x _) name ap) [eb] [] pos => decide (x = L.gnm g) && decide (name = "index") && (ap.endLine == pos.line) && glB c.sc (L.gnm g) && okName (L.gnm g) && tupB (L.pr.glob g) && ckE L c a eb && okx eb
    | _ => false
  | .call f es, ex => match ex with
    | .Call (.Name x _) exs [] _ => decide (x = L.fnm f) && (L.pr.fns f).isSome && glB c.sc (L.fnm f) && okName (L.fnm f) && ckEs L c es exs
    | _ => false
  | .blt b es, ex => match ex with
    | .Call (.Name x _) exs [] _ => decide (x = bltN b) && ((bltB b).isSome || (bltT b).isSome) && glB c.sc (bltN b) && !exs.isEmpty && ckEs L c es exs
    | _ => false
  | .mth k o es, ex => match ex with
    | .Call (.Attribute eo name ap) exs [] pos => decide (name = mthN k) && (ap.endLine == pos.line) && recvB eo && ckE L c o eo && ckEs L c es exs && (match k with
      | .get => exs.length == 2
      | .pop => exs.isEmpty
      | _ => exs.length == 1)
    | _ => false
  | .isi a t, ex => match ex with
    | .Call (.Name f _) [ea, .Name y _] [] _ => decide (f = "isinstance") && decide (y = tyS t) && glB c.sc "isinstance" && glB c.sc (tyS t) && ckE L c a ea && okx ea
    | _ => false
  | .lc t i co r _, ex => match ex with
    | .ListComp elt (g :: gens) scope _ => ckI L c i g.target g.iter && okx g.iter && decide (g.is_async = 0) && blkC c.N c.sc scope (ownOf c.N (t.slots ++ r.slots)) && decide ((ownOf c.N (t.slots ++ r.slots)).map (·.2) = t.slots ++ r.slots) &&
        ckG (blkS c scope) t g.target && ckO L (blkS c scope) co g.ifs && ckGs L (blkS c scope) r elt gens
    | _ => false
  | .dc t i k v, ex => match ex with
    | .DictComp kx vx [g] scope _ => ckI L c i g.target g.iter && okx g.iter && decide (g.is_async = 0) && g.ifs.isEmpty && blkC c.N c.sc scope (ownOf c.N t.slots) && decide ((ownOf c.N t.slots).map (·.2) = t.slots) &&
        ckG (blkS c scope) t g.target && ckE L (blkS c scope) k kx && ckE L (blkS c scope) v vx
    | _ => false
  | .lrng1 _ a, ex => match ex with
    | .Call (.Name f _) [.Call (.Name g _) [ea] [] _] [] _ => decide (f = "list") && decide (g = "range") && glB c.sc "list" && glB c.sc "range" && ckE L c a ea && okx ea
    | _ => false
  | .lrng2 _ a b, ex => match ex with
    | .Call (.Name f _) [.Call (.Name g _) [ea, eb] [] _] [] _ => decide (f = "list") && decide (g = "range") && glB c.sc "list" && glB c.sc "range" && ckE L c a ea && okx ea && ckE L c b eb && okx eb
    | _ => false
  | .skeys t i, ex => match ex with
    | .ListComp (.Call (.Name f _) [.Name x1 _] [] _) [⟨.Name x2 _, .Name y _, [], 0⟩] scope _ => decide (f = "str") && decide (x1 = x2) && decide (c.N[i]? = some y) && visB c.sc y && okName y && decide (t ≠ i) && blkC c.N c.sc scope (ownOf c.N [t]) && decide ((ownOf c.N [t]).map (·.2) = [t]) &&
        tgB (blkS c scope) t x2 && visB (blkS c scope).sc x2 && okName x2 && glB (blkS c scope).sc "str"
    | _ => false
def ckEs (L : Lnk) (c : Scp) : Es → List Expr → Bool
  | .nil, exs => exs.isEmpty
  | .cons e r, exs => match exs with
    | ex :: exs => ckE L c e ex && okx ex && ckEs L c r exs
    | [] => false
def ckI (L : Lnk) (c : Scp) : Iter → Expr → Expr → Bool
  | .e a, _, ex => ckE L c a ex
  | .rng1 a, _, ex => match ex with
    | .Call (.Name f _) [ea] [] _ => decide (f = "range") && glB c.sc "range" && ckE L c a ea && okx ea
    | _ => false
  | .rng2 a b, _, ex => match ex with
    | .Call (.Name f _) [ea, eb] [] _ => decide (f = "range") && glB c.sc "range" && ckE L c a ea && okx ea && ckE L c b eb && okx eb
    | _ => false
  | .enm a, tg, ex => match tg with
    | .Tuple _ _ _ => match ex with
      | .Call (.Name f _) [ea] [] _ => decide (f = "enumerate") && glB c.sc "enumerate" && ckE L c a ea && okx ea
      | _ => false
    | _ => false
  | .zip a b, tg, ex => match tg with
    | .Tuple _ _ _ => match ex with
      | .Call (.Name f _) [ea, eb] [] _ => decide (f = "zip") && glB c.sc "zip" && ckE L c a ea && okx ea && ckE L c b eb && okx eb
      | _ => false
    | _ => false
def ckO (L : Lnk) (c : Scp) : Oe → List Expr → Bool
  | .none, exs => exs.isEmpty
  | .some e, exs => match exs with
    | [ex] => ckE L c e ex
    | _ => false
def ckGs (L : Lnk) (c : Scp) : Gs → Expr → List Comprehension → Bool
  | .elt e, elt, gens => gens.isEmpty && ckE L c e elt
  | .cons t i co r, elt, gens => match gens with
    | g :: gens => ckI L c i g.target g.iter && okx g.iter && decide (g.is_async = 0) && ckG c t g.target && ckO L c co g.ifs && ckGs L c r elt gens
    | [] => false
end
/-! ### the block of a comprehension -/
def W0 : WX := fun _ _ _ _ => False
theorem Facts.blk {L : Lnk} {n : Nat} {X : Cx} {W : WX} (F : Facts L n X W) (s : Shared) (H : Hp) (scope : Scope) (cenv : Env) (fp : List Addr) : Facts L n (X.blk s H scope cenv fp) W0 :=
  ⟨F.calm, F.room, F.nd, F.fn, F.gl, F.blt, fun u s' h => by
    obtain ⟨_, _, _, _, _, _, _, _, _, _, _, _, _, _, _, _, w⟩ := h
    exact w⟩
theorem scp_blk {X : Cx} {s : Shared} {H : Hp} {scope : Scope} {C : Addr} {cl : List (Str × Addr)} {fp : List Addr} : Scp.of (X.blk s H scope (compEnvC scope cl C X.env) fp) = blkS (Scp.of X) scope := rfl
/-- what is proved of a term -/
structure Ok (L : Lnk) (n : Nat) (X : Cx) (W : WX) (e : E) (ex : Expr) : Prop where
  pe : PE X ex (tE L n X W e)
  pt : PT X ex (tT L n X W e)
  pw : ∀ op vs pos, ex = .BoolOp op vs pos → PW X ex (tT L n X W e)
section
variable {L : Lnk} {n : Nat}
theorem Ok.val {X : Cx} {W : WX} {e : E} {ex : Expr} (h : PE X ex (tE L n X W e)) (ht : ∀ whole, isTrue ex X.env whole = (do let v ← whole; standAt ex.pos; holding [v] (truthy v))) (hn : ∀ op vs pos, ex ≠ .BoolOp op vs pos) : Ok L n X W e ex :=
  ⟨h, s_tru h ht, fun op vs pos q => absurd q (hn op vs pos)⟩
theorem Ok.tst {X : Cx} {W : WX} {e : E} {ex : Expr} (h : PE X ex (tE L n X W e)) (ht : PT X ex (tT L n X W e)) (hn : ∀ op vs pos, ex ≠ .BoolOp op vs pos) : Ok L n X W e ex := ⟨h, ht, fun op vs pos q => absurd q (hn op vs pos)⟩
theorem tO_by {X : Cx} {ifs : List Expr} {t t' : TT} (h : PTs X ifs t) (i : ∀ σ H Q, t' σ H Q → t σ H Q) : PTs X ifs t' := ⟨fun pins s σ H Q I q => h.run pins s σ H Q I (i σ H Q q)⟩
theorem pin_by {Y : Cx} {elt : Expr} {gens : List Comprehension} {scope : Scope} {pos : Pos} {d : Nat} {D : Addr} {own own' : List Nat} {t t' : TN} (h : PIn Y elt gens scope pos d D own t) (hs : ∀ i ∈ own, i ∈ own') (i : ∀ σ H N, t' σ H N → t σ H N) : PIn Y elt gens scope pos d D own' t' := by
  intro pins s σ H N I q
  refine thn (h pins s σ H N I (i σ H N q)) fun _ s' ⟨σ', H', I', k, q'⟩ => ⟨σ', H', I', ⟨k.1, fun j v hj => k.2 j v fun z => hj (hs j z)⟩, q'⟩
theorem Cx.xe_same {Y : Cx} (hx : Y.xe = fun _ _ => False) : ({ Y with xe := fun _ _ => False } : Cx) = Y := by
  cases Y
  simp only at hx
  subst hx
  rfl
theorem s_lcE {X : Cx} {W : WX} {t : Tg} {i : Iter} {co : Oe} {r : Gs} {b : Bool} {elt : Expr} {g : Comprehension} {gens : List Comprehension} {scope : Scope} {pos : Pos} (F : Facts L n X W)
    (hi : PI X g.target g.iter (tI L n X W i)) (ho : okx g.iter = true) (ha : g.is_async = 0) (hb : blkC X.N X.env.scope scope (ownOf X.N (t.slots ++ r.slots)) = true) (hw : (ownOf X.N (t.slots ++ r.slots)).map (·.2) = t.slots ++ r.slots)
    (hg : ∀ (Y : Cx), Facts L n Y W0 → Scp.of Y = blkS (Scp.of X) scope → PG Y g.target (tG Y.K t)) (ht : ∀ (Y : Cx), Facts L n Y W0 → Scp.of Y = blkS (Scp.of X) scope → PTs Y g.ifs (tO L n Y co))
    (hr : ∀ (Y : Cx), Facts L n Y W0 → Y.xe = (fun _ _ => False) → Scp.of Y = blkS (Scp.of X) scope → ∀ D, PIn Y elt (g :: gens) scope pos 0 D r.slots (tN L n Y.K D r)) (hga : ∀ g' ∈ gens, g'.is_async = 0) :
    PE X (.ListComp elt (g :: gens) scope pos) (tE L n X W (.lc t i co r b)) := by
  obtain ⟨tg, iter, ifs, as⟩ := g
  have ha : as = 0 := ha
  subst ha
  have rule := pe_lcN (X := X) (elt := elt) (tg := tg) (iter := iter) (ifs := ifs) (gens := gens) (scope := scope) (pos := pos) (vs' := r.slots) (t := fun D => tN L n X.K D r) (g := tG X.K t) (tt := tO L n X co) F.calm F.nd hi (blkOk_by hb) (fun i hi => by rw [hw]; exact List.mem_append_right _ hi)
    (fun g' e => hga g' (List.mem_of_getElem? e)) (fun s H C cl fp => hg (X.blk s H scope (compEnvC scope cl C X.env) fp) (F.blk s H scope _ fp) scp_blk) (fun s H C cl fp => ht (X.blk s H scope (compEnvC scope cl C X.env) fp) (F.blk s H scope _ fp) scp_blk) (fun s H C cl fp D => hr (X.blk s H scope (compEnvC scope cl C X.env) fp) (F.blk s H scope _ fp) rfl scp_blk D) (fun x => okx_fold ho)
  rw [hw] at rule
  exact eby rule fun σ H Q h => n_lc h
/-- as the value of a name -/
theorem s_lcS {X : Cx} {W : WX} {t : Tg} {i : Iter} {co : Oe} {r : Gs} {b : Bool} {elt : Expr} {g : Comprehension} {gens : List Comprehension} {scope : Scope} {pos : Pos} (F : Facts L n X W) {j : Nat} {y : Str} {py spos : Pos} (hy : X.N[j]? = some y) (hyl : X.env.scope.names.lookup y = some .local)
    (hsw : swapsWith (.ListComp elt (g :: gens) scope pos) (some (.Name y py)) spos.line X.env = pure true)
    (hi : PI X g.target g.iter (tI L n X W i)) (ho : okx g.iter = true) (ha : g.is_async = 0) (hb : blkC X.N X.env.scope scope (ownOf X.N (t.slots ++ r.slots)) = true) (hw : (ownOf X.N (t.slots ++ r.slots)).map (·.2) = t.slots ++ r.slots)
    (hg : ∀ (Y : Cx), Facts L n Y W0 → Scp.of Y = blkS (Scp.of X) scope → PG Y g.target (tG Y.K t)) (ht : ∀ (Y : Cx), Facts L n Y W0 → Scp.of Y = blkS (Scp.of X) scope → PTs Y g.ifs (tO L n Y co))
    (hr : ∀ (Y : Cx), Facts L n Y W0 → Y.xe = (fun _ _ => False) → Scp.of Y = blkS (Scp.of X) scope → ∀ D, PIn Y elt (g :: gens) scope pos 0 D r.slots (tN L n Y.K D r)) (hga : ∀ g' ∈ gens, g'.is_async = 0) :
    PS X (.Assign [.Name y py] (.ListComp elt (g :: gens) scope pos) spos) (tAsg (tE L n X W (.lc t i co r b)) (gName j)) := by
  obtain ⟨tg, iter, ifs, as⟩ := g
  have ha : as = 0 := ha
  subst ha
  have rule := ps_setLcN (X := X) (elt := elt) (tg := tg) (iter := iter) (ifs := ifs) (gens := gens) (scope := scope) (pos := pos) (vs' := r.slots) (t := fun D => tN L n X.K D r) (g := tG X.K t) (tt := tO L n X co) F.calm F.nd hy hyl hsw hi (blkOk_by hb) (fun i hi => by rw [hw]; exact List.mem_append_right _ hi)
    (fun g' e => hga g' (List.mem_of_getElem? e)) (fun s H C cl fp => hg (X.blk s H scope (compEnvC scope cl C X.env) fp) (F.blk s H scope _ fp) scp_blk) (fun s H C cl fp => ht (X.blk s H scope (compEnvC scope cl C X.env) fp) (F.blk s H scope _ fp) scp_blk) (fun s H C cl fp D => hr (X.blk s H scope (compEnvC scope cl C X.env) fp) (F.blk s H scope _ fp) rfl scp_blk D) (fun x => okx_fold ho)
  rw [hw] at rule
  exact ⟨fun pins s σ H Dd I h => rule.run pins s σ H Dd I (n_lc h)⟩
theorem s_pinElt {Y : Cx} {e : E} {elt : Expr} {gens : List Comprehension} {scope : Scope} {pos : Pos} {d : Nat} {D : Addr} {own : List Nat} (hd : gens[d + 1]? = none) (he : PE Y elt (tE L n Y W0 e)) (hx : Y.xe = fun _ _ => False) : PIn Y elt gens scope pos d D own (tN L n Y.K D (.elt e)) :=
  pin_by (pin_elt (own := own) hd (by rw [Cx.xe_same hx]; exact he) hx) (fun _ h => h) fun σ H N h => n_elt h
theorem s_pinCl {Y : Cx} {t : Tg} {i : Iter} {co : Oe} {r : Gs} {elt : Expr} {g : Comprehension} {gens : List Comprehension} {scope : Scope} {pos : Pos} {d : Nat} {D : Addr} (F : Facts L n Y W0) (hx : Y.xe = fun _ _ => False) (hd : gens[d + 1]? = some g) (ha : g.is_async = 0) (ha2 : ∀ g', gens[d + 2]? = some g' → g'.is_async = 0)
    (hi : PI Y g.target g.iter (tI L n Y W0 i)) (ho : okx g.iter = true) (hg : PG Y g.target (tG Y.K t)) (ht : PTs Y g.ifs (tO L n Y co)) (hr : PIn Y elt gens scope pos (d + 1) D r.slots (tN L n Y.K D r)) :
    PIn Y elt gens scope pos d D (Gs.cons t i co r).slots (tN L n Y.K D (.cons t i co r)) := by
  obtain ⟨tg, iter, ifs, as⟩ := g
  have ha : as = 0 := ha
  subst ha
  exact pin_by (pin_cl (vs := t.slots ++ r.slots) hx F.calm hd ha2 hi hg ht hr (fun i hi => List.mem_append_right _ hi) fun env x => okx_fold ho) (fun _ h => h) fun σ H N h => n_cl h
theorem ckGs_async {c : Scp} : ∀ {r : Gs} {elt : Expr} {gens : List Comprehension}, ckGs L c r elt gens = true → ∀ g ∈ gens, g.is_async = 0
  | .elt e, elt, gens, h => by
    simp only [ckGs, Bool.and_eq_true, List.isEmpty_iff] at h
    rw [h.1]
    intro g hg
    cases hg
  | .cons t i co r, elt, [], h => by intro g hg; cases hg
  | .cons t i co r, elt, g :: gens, h => by
    simp only [ckGs, Bool.and_eq_true, decide_eq_true_eq] at h
    intro g' hg
    rcases List.mem_cons.mp hg with e | e
    · rw [e]; exact h.1.1.1.2
    · exact ckGs_async h.2 g' e
end
end MP
end

section
set_option Elab.async false
set_option linter.all false
set_option maxRecDepth 100000
/-! The keys of a dict as a list; comprehensions of dicts. -/
namespace MP
open PySem PySem.Spec PyProof.Rows L2
section
variable {L : Lnk} {n : Nat}
theorem upd_upd' {H : Hp} {a : Addr} {o o' : HO} : upd (upd H a o) a o' = upd H a o' := by
  funext b
  by_cases z : b = a
  · subst z
    rw [upd_same, upd_same]
  · rw [upd_ne z, upd_ne z, upd_ne z]
theorem upd_swap {H : Hp} {a b : Addr} {o o' : HO} (h : a ≠ b) : upd (upd H a o) b o' = upd (upd H b o') a o := by
  funext c
  by_cases z : c = a
  · subst z
    rw [upd_ne h, upd_same, upd_same]
  · by_cases y : c = b
    · subst y
      rw [upd_same, upd_ne z, upd_same]
    · rw [upd_ne y, upd_ne z, upd_ne z, upd_ne y]
theorem upd_id {H : Hp} {a : Addr} {o : HO} (h : H a = some o) : upd H a o = H := by
  funext c
  by_cases z : c = a
  · subst z
    rw [upd_same, h]
  · rw [upd_ne z]
theorem s_skeys {X : Cx} {W : WX} {t i : Nat} {x y : Str} {scope : Scope} {p1 p2 p3 p4 p5 pos : Pos} (F : Facts L n X W) (hi : X.N[i]? = some y) (hv : visB X.env.scope y = true) (hy : okName y = true) (hti : t ≠ i)
    (hb : blkC X.N X.env.scope scope (ownOf X.N [t]) = true) (hw : (ownOf X.N [t]).map (·.2) = [t])
    (ht : tgB (blkS (Scp.of X) scope) t x = true) (hx : visB (blkS (Scp.of X) scope).sc x = true) (hn : okName x = true) (hs : glB (blkS (Scp.of X) scope).sc "str" = true) :
    PE X (.ListComp (.Call (.Name "str" p1) [.Name x p2] [] p5) [⟨.Name x p3, .Name y p4, [], 0⟩] scope pos) (tE L n X W (.skeys t i)) := by
  simp only [okName, Bool.and_eq_true, Bool.not_eq_true'] at hy hn
  have hg : ∀ (s : Shared) (H : Hp) (C : Addr) (cl : List (Str × Addr)) (fp : List Addr), PG (X.blk s H scope (compEnvC scope cl C X.env) fp) (.Name x p3) (gName t) := fun s H C cl fp => by
    have e : Scp.of (X.blk s H scope (compEnvC scope cl C X.env) fp) = blkS (Scp.of X) scope := scp_blk
    rw [← e] at ht
    obtain ⟨h1, h2, h3⟩ := tgB_ok ht
    exact pg_name F.nd h1 h2 h3
  have he : ∀ (s : Shared) (H : Hp) (C : Addr) (cl : List (Str × Addr)) (fp : List Addr), PE (X.blk s H scope (compEnvC scope cl C X.env) fp) (.Call (.Name "str" p1) [.Name x p2] [] p5) (tCB (fun xs H Q => ∃ a, xs = [.str a] ∧ Q (.str a) H) (tCons (tVar t) tNil)) := fun s H C cl fp => by
    have G := F.blk s H scope (compEnvC scope cl C X.env) fp
    have e : Scp.of (X.blk s H scope (compEnvC scope cl C X.env) fp) = blkS (Scp.of X) scope := scp_blk
    have ht' := ht
    rw [← e] at ht'
    have h1 := (tgB_ok ht').1
    have hs' : glB (X.blk s H scope (compEnvC scope cl C X.env) fp).env.scope "str" = true := hs
    have hx' : visB (X.blk s H scope (compEnvC scope cl C X.env) fp).env.scope x = true := hx
    exact pe_callTy SkE.call_str_str (glB_ok hs') (G.blt _ (by decide +kernel)) (by decide +kernel) (pa_cons (pe_var h1 (visB_ok hx') hn.1 hn.2) pa_nil rfl)
  have rule := pe_lock (pe_lc (pos := pos) F.calm F.nd (pi_keys (pe_var (pos := p4) hi (visB_ok hv) hy.1 hy.2)) (blkOk_by hb) hg (fun _ _ _ _ _ => pts_nil) he (fun _ => rfl))
  rw [hw] at rule
  refine eby rule fun σ H Q ⟨m, ρ, st, er, rp, h⟩ => ?_
  simp only [evE] at h
  cases qi : ρ[i]? with
  | none => rw [qi] at h; exact h.elim
  | some o =>
    cases o with
    | none => rw [qi] at h; exact h.elim
    | some d =>
      rw [qi] at h
      obtain ⟨v, e1, av⟩ := er.at_ i d qi
      by_cases htl : t < ρ.length
      case neg => simp only [if_neg htl] at h; exact h.elim
      simp only [if_pos htl] at h
      rw [er.len] at htl
      obtain ⟨z, e2, hfin⟩ := sat_of h
      obtain ⟨ts, e3, e4⟩ := Option.map_eq_some_iff.mp e2
      subst e4
      cases av with
      | @loc p k hp =>
        cases q : st[k]? with
        | none => simp [keysOf, q] at e3
        | some c =>
          cases c with
          | lst _ => simp [keysOf, q] at e3
          | dct kvs =>
            simp [keysOf, q] at e3
            obtain ⟨hz, e3⟩ := e3
            obtain ⟨ks, hd, ka⟩ := rp.cell k p _ hp q
            have et := texts_at ka e3
            have el : ts.length = ks.length := by
              have := congrArg List.length et
              simpa using this.symm
            refine ⟨p, .dK ks, hd, True.intro, fun od => ?_⟩
            refine ⟨_, e1, p, od, rfl, .inl ⟨ks, upd_same, fun D hD => ?_⟩⟩
            have hDp : D ≠ p := fun z => by subst z; rw [upd_same] at hD; cases hD
            have hD0 : H D = none := by rw [upd_ne hDp] at hD; exact hD
            let HH : Nat → Hp := fun i => upd (upd H p (.frz od (.dK ks))) D (.lst (((ts.take i).map S0).map V.str))
            have hp' : ∀ i, HH i p = some (.frz od (.dK ks)) := fun i => by
              show upd _ D _ p = _
              rw [upd_ne (Ne.symm hDp), upd_same]
            refine ⟨fun i k H' => k = ks.length - i ∧ i ≤ ks.length ∧ H' = HH i, ⟨ks.length, by omega, by omega, rfl⟩, ?_⟩
            rintro i k H' ⟨rfl, hi2, rfl⟩
            by_cases hlt : i < ks.length
            · refine .inr ⟨⟨hp' i, hlt⟩, fun H2 => i < ks.length ∧ H2 = HH (i + 1), fun H2 hh => ⟨ks.length - (i + 1), by omega, rfl, by omega, hh.2⟩, fun x2 H2 y2 => ?_⟩
              obtain ⟨rfl, k2, v2, ek, rfl⟩ := y2
              have hts : i < ts.length := by omega
              have ek2 : kV k2 = .str (S0 ts[i]) := by
                have := congrArg (fun l => l[i]?) et
                simp only [List.getElem?_map, ek, List.getElem?_eq_getElem hts, Option.map_some] at this
                have := Option.some.inj this
                rw [show k2 = Sum.inr (S0 ts[i]) from this]
                rfl
              rw [ek2]
              refine ⟨?_, ?_⟩
              · simp only [wipe]
                rw [List.set_set, List.set_set]
              · refine ⟨_, ?_, S0 ts[i], rfl, ((ts.take i).map S0).map V.str, upd_same, ?_, hlt, ?_⟩
                · simp only [wipe]
                  rw [List.getElem?_set_self (by simpa using htl)]
                · rw [List.length_map, List.length_map, List.length_take]
                  rw [sizeSZ]
                  have := ka.length
                  omega
                · show upd (upd _ D _) D _ = upd _ D _
                  have e6 : ((ts.take i).map S0).map V.str ++ [V.str (S0 ts[i])] = ((ts.take (i + 1)).map S0).map V.str := by
                    rw [List.take_succ_eq_append_getElem hts]
                    simp only [List.map_append, List.map_cons, List.map_nil]
                  rw [upd_upd', e6]
            · have e : i = ks.length := by omega
              subst e
              refine .inl ⟨⟨hp' _, Nat.le_refl _⟩, hp' _, ?_⟩
              have e5 : upd (HH ks.length) p (.dK ks) = upd H D (.lst ((ts.map S0).map V.str)) := by
                show upd (upd (upd H p _) D _) p _ = _
                rw [upd_swap hDp, upd_upd', upd_id hd, ← el, List.take_length]
              rw [e5]
              have xx : Ext m H m (upd H D (.lst ((ts.map S0).map V.str))) := Ext.new rp hD0
              exact hfin m _ xx (rp.new hD0) _ (.lst upd_same (rp.fresh hD0).1 (rp.fresh hD0).2 (.ofStrs _))
      | _ => simp [keysOf] at e3
def satK (K : PySem.W.Frag) (D : Addr) (r : R (List (MP.K × MP.D))) (m : M) (H : Hp) (N : Hp → Prop) : Prop := match r with
  | .ok acc st => ∀ m' H' ks, ExtD D m H m' H' → Rep K m' H' st → H' D = some (.dK ks) → KAt K m' H' ks acc → N H'
  | _ => False
theorem satK.ext {K : PySem.W.Frag} {D : Addr} {r : R (List (MP.K × MP.D))} {m m1 : M} {H H1 : Hp} {N : Hp → Prop} (h : satK K D r m H N) (x : ExtD D m H m1 H1) : satK K D r m1 H1 N := by
  cases r with
  | ok acc st => exact fun m' H' ks y => h m' H' ks (x.trans y)
  | ex _ _ => exact h
  | no => exact h
def dcF (L : Lnk) (n : Nat) (k v : E) : Rho → Store → List (MP.K × MP.D) → R (List (MP.K × MP.D)) := fun ρ st acc => (evE (L.G n) k ρ st).oks fun x st => (evE (L.G n) v ρ st).oks fun y st => putR acc x y st
theorem n_dc {X : Cx} {W : WX} {t : Tg} {i : Iter} {k v : E} {σ : L2.St} {H : Hp} {Q : VK} (h : tE L n X W (.dc t i k v) σ H Q) : tDc (tI L n X W i) (tG X.K t) tYes (tE L n X W0 k) (tE L n X W0 v) t.slots σ H Q := by
  obtain ⟨m, ρ, st, er, rp, h⟩ := h
  refine ⟨m, ρ, st, er, rp, ?_⟩
  simp only [evE] at h
  cases q : evI (L.G n) i ρ st with
  | no => rw [q] at h; exact h.elim
  | ex x s => rw [q] at h; exact h
  | ok w st1 =>
    rw [q] at h
    intro m1 H1 x rp1
    have ok := evI_ok q
    refine ⟨ok, fun J it D hD => ?_⟩
    have h : ((lcL w t (dcF L n k v) w.xs (wipeR ρ t.slots) st1 []).oks fun acc st2 => .ok (.loc st2.length) (st2 ++ [.dct acc]) : R MP.D).sat X.K m H (fun d _ m' H' => ∀ v, At X.K m' H' v d → Q v H') (xW L X W σ) := h
    have xl := Ext.layO (o := .dK []) rp1 hD
    have rpl := Rep.layO (o := .dK []) rp1 hD (fun _ => HO.noConfusion)
    have hr : D ∈ (⟨m1.locs, D :: m1.rsv⟩ : M).rsv := List.mem_cons_self ..
    have erw : EnvR X.K ⟨m1.locs, D :: m1.rsv⟩ (upd H1 D (.dK [])) (wipe σ t.slots) (wipeR ρ t.slots) := ((er.ext x).wipe).extW xl
    have fin : satK X.K D (lcL w t (dcF L n k v) w.xs (wipeR ρ t.slots) st1 []) ⟨m1.locs, D :: m1.rsv⟩ (upd H1 D (.dK [])) fun H2 => Q (.ref D) H2 := by
      cases q2 : lcL w t (dcF L n k v) w.xs (wipeR ρ t.slots) st1 [] with
      | no => rw [q2] at h; exact h.elim
      | ex _ _ => rw [q2] at h; exact h.elim
      | ok acc st2 =>
        rw [q2] at h
        simp only [R.oks_ok] at h
        intro m2 H2 ks x2 rp2 e2 ka
        obtain ⟨s1, s2, s3, _⟩ := seal_cell (c := .dct acc) rp1 hD x2 rp2 e2 notf_dK ⟨_, e2, ka⟩
        exact h _ _ (x.trans s1) s2 _ (.loc s3)
    generalize hm0 : (⟨m1.locs, D :: m1.rsv⟩ : M) = m0 at xl rpl hr erw fin
    generalize hH0 : upd H1 D (.dK []) = H0 at xl rpl erw fin
    have eD0 : H0 D = some (.dK []) := by rw [← hH0, upd_same]
    let Iv : Nat → Hp → Prop := fun i H' => i ≤ w.xs.length ∧ ∃ m' st' acc ks, ExtD D m0 H0 m' H' ∧ Rep X.K m' H' st' ∧ w.ok st' = true ∧ H' D = some (.dK ks) ∧ KAt X.K m' H' ks acc ∧ satK X.K D (lcL w t (dcF L n k v) (w.xs.drop i) (wipeR ρ t.slots) st' acc) m' H' fun H2 => Q (.ref D) H2
    refine ⟨fun i k H' => k = w.xs.length - i ∧ Iv i H', ⟨w.xs.length, rfl, Nat.zero_le _, m0, st1, [], [], .refl _ _ _, rpl, ok, eD0, .nil, by simpa using fin⟩, ?_⟩
    rintro i kk H' ⟨rfl, hi', m', st', acc, ks, x', rp', ok', eD', ka', h'⟩
    have xx := xl.trans x'.toExtW
    by_cases hlt : i < w.xs.length
    · refine .inr ⟨it.go i m' H' st' xx rp' ok' hlt, Iv (i + 1), fun H2 iv => ⟨w.xs.length - (i + 1), by omega, rfl, iv⟩, fun v0 H2 y => ?_⟩
      obtain ⟨x2, rp2, d, ed, hd⟩ := it.yld i m' H' st' v0 H2 xx rp' ok' hlt y
      have hr' : D ∈ m'.rsv := x'.rsv D hr
      have e0 : w.xs[i] = d := by
        rw [List.getElem?_eq_getElem hlt] at ed
        exact Option.some.inj ed
      rw [List.drop_eq_getElem_cons hlt, e0] at h'
      unfold lcL at h'
      split at h'
      · exact h'.elim
      · rename_i ρ' ea
        refine ⟨m', wipeR ρ t.slots, st', d, ρ', (erw.extW x'.toExtW).extW x2.toExtW, rp2, hd, ea, fun σ2 er2 same => ⟨?_, ?_⟩⟩
        · rw [wipe_same same, wipe_wipe]
        · simp only [tYes, if_true]
          refine ⟨m', ρ', st', er2, rp2, ?_⟩
          unfold dcF at h'
          cases qk : evE (L.G n) k ρ' st' with
          | no => rw [qk] at h'; exact h'.elim
          | ex _ _ => rw [qk] at h'; exact h'.elim
          | ok xk st3 =>
            rw [qk] at h'
            intro m3 H3 x3 rp3 vk hvk
            refine ⟨m3, ρ', st3, er2.ext x3, rp3, ?_⟩
            simp only [R.oks_ok] at h'
            cases qv : evE (L.G n) v ρ' st3 with
            | no => rw [qv] at h'; exact h'.elim
            | ex _ _ => rw [qv] at h'; exact h'.elim
            | ok xv st4 =>
              rw [qv] at h'
              simp only [R.oks_ok] at h'
              intro m4 H4 x4 rp4 vv hvv
              have x24 : Ext m' H' m4 H4 := (x2.trans x3).trans x4
              have hr4 : D ∈ m4.rsv := x24.rsv D hr'
              have eD4 : H4 D = some (.dK ks) := (x24.rk D hr').trans eD'
              have ka4 : KAt X.K m4 H4 ks acc := ka'.ext x24.toExtW
              unfold putR at h'
              cases qq : xk.key with
              | none => rw [qq] at h'; exact h'.elim
              | some kk0 =>
                rw [qq] at h'
                by_cases hz : acc.length < SZ
                case neg => simp only [if_neg hz] at h'; exact h'.elim
                simp only [if_pos hz, R.oks_ok] at h'
                split at h'
                · rename_i okk
                  refine ⟨ks, kk kk0, (key_of hvk qq), eD4, by rw [ka4.length, sizeSZ]; exact hz, ?_⟩
                  have xd : ExtD D m4 H4 m4 (upd H4 D (.dK (L2.putK ks (kk kk0) vv))) := ExtD.appO hr4 eD4 dK_nf
                  exact ⟨hlt, m4, st4, _, _, (x'.trans (x24.toD D)).trans xd, Rep.appO rp4 hr4 eD4 dK_nf fun _ => HO.noConfusion, okk, upd_same, (ka4.put hvv).ext xd.toExtW, satK.ext h' ((x24.toD D).trans xd)⟩
                · exact h'.elim
    · have e : i = w.xs.length := by omega
      subst e
      refine .inl ⟨it.stop m' H' st' xx rp' ok', ?_⟩
      rw [List.drop_length] at h'
      exact h' m' H' ks (.refl _ _ _) rp' eD' ka'
theorem s_dc {X : Cx} {W : WX} {t : Tg} {i : Iter} {k v : E} {kx vx : Expr} {g : Comprehension} {scope : Scope} {pos : Pos} (F : Facts L n X W)
    (hi : PI X g.target g.iter (tI L n X W i)) (ho : okx g.iter = true) (ha : g.is_async = 0) (hf : g.ifs = []) (hb : blkC X.N X.env.scope scope (ownOf X.N t.slots) = true) (hw : (ownOf X.N t.slots).map (·.2) = t.slots)
    (hg : ∀ (Y : Cx), Facts L n Y W0 → Scp.of Y = blkS (Scp.of X) scope → PG Y g.target (tG Y.K t)) (hk : ∀ (Y : Cx), Facts L n Y W0 → Scp.of Y = blkS (Scp.of X) scope → PE Y kx (tE L n Y W0 k)) (hv : ∀ (Y : Cx), Facts L n Y W0 → Scp.of Y = blkS (Scp.of X) scope → PE Y vx (tE L n Y W0 v)) :
    PE X (.DictComp kx vx [g] scope pos) (tE L n X W (.dc t i k v)) := by
  obtain ⟨tg, iter, ifs, as⟩ := g
  have ha : as = 0 := ha
  have hf : ifs = [] := hf
  subst ha
  subst hf
  have rule := pe_dc (pos := pos) (wi := tI L n X W i) (g := tG X.K t) (tt := tYes) (tk := tE L n X W0 k) (tv := tE L n X W0 v) F.calm F.nd hi (blkOk_by hb)
    (fun s H C cl fp => hg (X.blk s H scope (compEnvC scope cl C X.env) fp) (F.blk s H scope _ fp) scp_blk) (fun _ _ _ _ _ => pts_nil)
    (fun s H C cl fp => hk (X.blk s H scope (compEnvC scope cl C X.env) fp) (F.blk s H scope _ fp) scp_blk) (fun s H C cl fp => hv (X.blk s H scope (compEnvC scope cl C X.env) fp) (F.blk s H scope _ fp) scp_blk) (fun x => okx_fold ho)
  rw [hw] at rule
  exact eby rule fun σ H Q h => n_dc h
/-- as the value of a name -/
theorem s_dcS {X : Cx} {W : WX} {t : Tg} {i : Iter} {k v : E} {kx vx : Expr} {g : Comprehension} {scope : Scope} {pos : Pos} {j : Nat} {y : Str} {py spos : Pos} (hy : X.N[j]? = some y) (hyl : X.env.scope.names.lookup y = some .local)
    (hsw : swapsWith (.DictComp kx vx [g] scope pos) (some (.Name y py)) spos.line X.env = pure true) (F : Facts L n X W)
    (hi : PI X g.target g.iter (tI L n X W i)) (ho : okx g.iter = true) (ha : g.is_async = 0) (hf : g.ifs = []) (hb : blkC X.N X.env.scope scope (ownOf X.N t.slots) = true) (hw : (ownOf X.N t.slots).map (·.2) = t.slots)
    (hg : ∀ (Y : Cx), Facts L n Y W0 → Scp.of Y = blkS (Scp.of X) scope → PG Y g.target (tG Y.K t)) (hk : ∀ (Y : Cx), Facts L n Y W0 → Scp.of Y = blkS (Scp.of X) scope → PE Y kx (tE L n Y W0 k)) (hv : ∀ (Y : Cx), Facts L n Y W0 → Scp.of Y = blkS (Scp.of X) scope → PE Y vx (tE L n Y W0 v)) :
    PS X (.Assign [.Name y py] (.DictComp kx vx [g] scope pos) spos) (tAsg (tE L n X W (.dc t i k v)) (gName j)) := by
  obtain ⟨tg, iter, ifs, as⟩ := g
  have ha : as = 0 := ha
  have hf : ifs = [] := hf
  subst ha
  subst hf
  refine ⟨fun pins s σ H D I h => ?_⟩
  rw [exec_Assign_Name_used _ _ _ _ hsw]
  refine wpAny_bind (wpAny_standAt (wpAny_bind ?_))
  show wpAny _ X.A (do let _ ← comprehension (.DictComp kx vx [⟨tg, iter, [], 0⟩] scope pos) scope X.env (firstIterPos [⟨tg, iter, [], 0⟩] pos) newDict false (eval iter X.env) (some (assign (.Name y py) X.env))) _ _ s
  have h : tDc (tI L n X W i) (tG X.K t) tYes (tE L n X W0 k) (tE L n X W0 v) ((ownOf X.N t.slots).map (·.2)) σ H (fun x H1 => gName j x σ H1 D.nx) := by
    rw [hw]
    exact n_dc h
  refine wpAny_bind (thn (dc_core (Qf := fun _ s' => SP X pins D .next s') F.calm F.nd I hi (blkOk_by hb)
    (fun s H C cl fp => hg (X.blk s H scope (compEnvC scope cl C X.env) fp) (F.blk s H scope _ fp) scp_blk) (fun _ _ _ _ _ => pts_nil)
    (fun s H C cl fp => hk (X.blk s H scope (compEnvC scope cl C X.env) fp) (F.blk s H scope _ fp) scp_blk) (fun s H C cl fp => hv (X.blk s H scope (compEnvC scope cl C X.env) fp) (F.blk s H scope _ fp) scp_blk) (fun x => okx_fold ho) h fun L' C s' m H' I' q hn f => ?_) fun _ s' hq => wpAny_pure (wpAny_pure hq))
  show wpAny _ _ (assign (.Name y py) X.env (.ref L')) _ _ _
  refine wpAny_assign_Name (store_ok2 (v := V.ref L') I' F.nd hy (.inl hyl) rfl (fun s2 I2 ⟨a, sb, ha⟩ => ?_) (.inr hyl))
  obtain ⟨f0, f1, f2, f3, f4, f5⟩ := f
  have hCa : C ≠ a := by
    rcases ha with z | z
    · rw [z]; exact f1
    · exact fun e => f4 y a z e.symm
  refine ⟨m, hn.sameBut sb hCa, fun h3 sb3 => ⟨_, H', I2.turned (t' := s2.toks) (fun b o hb e => (sb3.2 b hb).trans e) f0 f1 f3 f4 f5, q⟩⟩
end
end MP
end

section
set_option Elab.async false
set_option linter.all false
set_option maxRecDepth 100000
namespace MP
open PySem PySem.Spec PyProof.Rows L2
section
variable {L : Lnk} {n : Nat}
theorem s_Osome {X : Cx} {e : E} {ex : Expr} (h : PT X ex (tT L n X W0 e)) : PTs X [ex] (tO L n X (.some e)) :=
  tO_by (pts_one h) fun σ H Q ⟨m, ρ, st, er, rp, h⟩ => ⟨m, ρ, st, er, rp, (show ((evE (L.G n) e ρ st).bd fun x st => R.of (truth st x) st).sat X.K m H (fun b _ _ H' => Q b H') (fun _ _ _ _ => False) from h).monoX (fun _ _ _ _ _ _ q => q) fun _ _ _ _ _ _ q => q.elim⟩
theorem s_Onone {X : Cx} : PTs X [] (tO L n X .none) :=
  tO_by pts_nil fun σ H Q ⟨m, ρ, st, er, rp, h⟩ => sat_ok (show (R.ok true st).sat X.K m H (fun b _ _ H' => Q b H') (fun _ _ _ _ => False) from h) rp
theorem ckKs_ok : ∀ {ks : List T} {keys : List (Option Expr)}, ckKs ks keys = true → keys.all (·.isSome) = true ∧ keys.length = ks.length ∧ True
  | [], keys, h => by
    simp only [ckKs, List.isEmpty_iff] at h
    subst h
    exact ⟨rfl, rfl, True.intro⟩
  | k :: ks, keys, h => by
    unfold ckKs at h
    split at h
    · simp only [Bool.and_eq_true] at h
      obtain ⟨h1, h2, _⟩ := ckKs_ok h.2
      exact ⟨by simpa using h1, by simp [h2], True.intro⟩
    · cases h
theorem ckEs_len {c : Scp} : ∀ {es : Es} {exs : List Expr}, ckEs L c es exs = true → exs.length = es.len
  | .nil, exs, h => by
    unfold ckEs at h
    simp only [List.isEmpty_iff] at h
    subst h
    rfl
  | .cons e r, exs, h => by
    unfold ckEs at h
    split at h
    · simp only [Bool.and_eq_true] at h
      have := ckEs_len h.2
      simp [Es.len, this]
    · cases h
mutual
theorem s_E : ∀ (e : E) {X : Cx} {W : WX} {ex : Expr}, Facts L n X W → ckE L (Scp.of X) e ex = true → Ok L n X W e ex
  | .nm i, X, W, ex, F, h => by
    unfold ckE at h
    split at h
    · simp only [Bool.and_eq_true, decide_eq_true_eq] at h
      exact .val (s_nm h.1.1 h.1.2 h.2) (fun _ => rfl) (fun _ _ _ => Expr.noConfusion)
    · cases h
  | .gl g, X, W, ex, F, h => by
    unfold ckE at h
    split at h
    · simp only [Bool.and_eq_true, decide_eq_true_eq] at h
      obtain ⟨⟨rfl, h2⟩, h3⟩ := h
      exact .val (s_gl F h2 h3) (fun _ => rfl) (fun _ _ _ => Expr.noConfusion)
    · cases h
  | .non, X, W, ex, F, h => by
    unfold ckE at h
    split at h
    · exact .val s_non (fun _ => rfl) (fun _ _ _ => Expr.noConfusion)
    · cases h
  | .bl b, X, W, ex, F, h => by
    unfold ckE at h
    split at h
    · cases of_decide_eq_true h
      exact .val s_bl (fun _ => rfl) (fun _ _ _ => Expr.noConfusion)
    · cases h
  | .int i, X, W, ex, F, h => by
    unfold ckE at h
    split at h
    · cases of_decide_eq_true h
      exact .val s_int (fun _ => rfl) (fun _ _ _ => Expr.noConfusion)
    · have q := of_decide_eq_true h
      subst q
      exact .val s_negc (fun _ => rfl) (fun _ _ _ => Expr.noConfusion)
    · cases h
  | .str t, X, W, ex, F, h => by
    unfold ckE at h
    split at h
    · exact .val (s_str (of_decide_eq_true h)) (fun _ => rfl) (fun _ _ _ => Expr.noConfusion)
    · cases h
  | .tup es, X, W, ex, F, h => by
    unfold ckE at h
    split at h
    · exact .val (s_tup (s_Es es F h).1) (fun _ => rfl) (fun _ _ _ => Expr.noConfusion)
    · cases h
  | .lst b es, X, W, ex, F, h => by
    unfold ckE at h
    split at h
    · exact .val (s_lst (s_Es es F h).1) (fun _ => rfl) (fun _ _ _ => Expr.noConfusion)
    · cases h
  | .dct ks es, X, W, ex, F, h => by
    unfold ckE at h
    split at h
    · simp only [Bool.and_eq_true, List.isEmpty_iff] at h
      obtain ⟨rfl, h2⟩ := h
      cases es with
      | nil => exact .val s_dct0 (fun _ => rfl) (fun _ _ _ => Expr.noConfusion)
      | cons _ _ => cases h2
    · rename_i keys vals pos _
      simp only [Bool.and_eq_true, decide_eq_true_eq] at h
      obtain ⟨⟨⟨⟨h1, h2⟩, h3⟩, h4⟩, h5⟩ := h
      obtain ⟨q1, q2, q3⟩ := ckKs_ok h1
      have q4 := ckEs_len h2
      exact .val (s_dct (s_Ps es F h1 h2 h3) q1 (by omega) (by intro e; subst e; simp at h4) h5 h3) (fun _ => rfl) (fun _ _ _ => Expr.noConfusion)
    · cases h
  | .bin op a b, X, W, ex, F, h => by
    unfold ckE at h
    split at h
    · simp only [Bool.and_eq_true, decide_eq_true_eq] at h
      obtain ⟨⟨rfl, h2⟩, h3⟩ := h
      exact .val (s_bin (s_E a F h2).pe (s_E b F h3).pe) (fun _ => rfl) (fun _ _ _ => Expr.noConfusion)
    · cases h
  | .neg a, X, W, ex, F, h => by
    unfold ckE at h
    split at h
    · exact .val (s_neg (s_E a F h).pe) (fun _ => rfl) (fun _ _ _ => Expr.noConfusion)
    · cases h
  | .not a, X, W, ex, F, h => by
    unfold ckE at h
    split at h
    · have q := s_E a F h
      exact .tst (s_not q.pe) (s_Tnot q.pt) (fun _ _ _ => Expr.noConfusion)
    · cases h
  | .and a b, X, W, ex, F, h => by
    unfold ckE at h
    split at h
    · rename_i ea eb rest pos
      simp only [Bool.and_eq_true] at h
      have qa := s_E a F h.1
      have hb := h.2
      cases rest with
      | nil =>
        have qb := s_E b F hb
        have pw : PW X (.BoolOp .And (ea :: eb :: []) pos) (tT L n X W (.and a b)) := s_Wand qa.pt (pw_and1 qb.pt)
        exact ⟨s_and qa.pe (pe_one qb.pe), pw.pt, fun _ _ _ q => by cases q; exact pw⟩
      | cons r rs =>
        have qb := s_E b F hb
        have pw : PW X (.BoolOp .And (ea :: eb :: r :: rs) pos) (tT L n X W (.and a b)) := s_Wand qa.pt (qb.pw _ _ _ rfl)
        exact ⟨s_and qa.pe qb.pe, pw.pt, fun _ _ _ q => by cases q; exact pw⟩
    · cases h
  | .or a b, X, W, ex, F, h => by
    unfold ckE at h
    split at h
    · rename_i ea eb rest pos
      simp only [Bool.and_eq_true] at h
      have qa := s_E a F h.1
      have hb := h.2
      cases rest with
      | nil =>
        have qb := s_E b F hb
        have pw : PW X (.BoolOp .Or (ea :: eb :: []) pos) (tT L n X W (.or a b)) := s_Wor qa.pt (pw_or1 qb.pt)
        exact ⟨s_or qa.pe (pe_one qb.pe), pw.pt, fun _ _ _ q => by cases q; exact pw⟩
      | cons r rs =>
        have qb := s_E b F hb
        have pw : PW X (.BoolOp .Or (ea :: eb :: r :: rs) pos) (tT L n X W (.or a b)) := s_Wor qa.pt (qb.pw _ _ _ rfl)
        exact ⟨s_or qa.pe qb.pe, pw.pt, fun _ _ _ q => by cases q; exact pw⟩
    · cases h
  | .ife c a b, X, W, ex, F, h => by
    unfold ckE at h
    split at h
    · simp only [Bool.and_eq_true] at h
      have qc := s_E c F h.1.1
      have qa := s_E a F h.1.2
      have qb := s_E b F h.2
      exact .tst (s_ife qc.pt qa.pe qb.pe) (s_Tife qc.pt qa.pt qb.pt) (fun _ _ _ => Expr.noConfusion)
    · cases h
  | .cmp op a b, X, W, ex, F, h => by
    unfold ckE at h
    split at h
    · simp only [Bool.and_eq_true, decide_eq_true_eq] at h
      obtain ⟨⟨⟨rfl, h2⟩, h3⟩, h4⟩ := h
      have qa := s_E a F h2
      have qb := s_E b F h3
      exact .tst (s_cmp F qa.pe qb.pe h4) (s_Tcmp F qa.pe qb.pe h4) (fun _ _ _ => Expr.noConfusion)
    · cases h
  | .chn o p a b c, X, W, ex, F, h => by
    unfold ckE at h
    split at h
    · simp only [Bool.and_eq_true, decide_eq_true_eq] at h
      obtain ⟨⟨⟨⟨⟨rfl, rfl⟩, h2⟩, h3⟩, h4⟩, h5⟩ := h
      have qa := s_E a F h2
      have qb := s_E b F h3
      have qc := s_E c F h4
      exact .tst (s_chn F qa.pe qb.pe qc.pe h5) (s_Tchn F qa.pe qb.pe qc.pe h5) (fun _ _ _ => Expr.noConfusion)
    · cases h
  | .isn a, X, W, ex, F, h => by
    unfold ckE at h
    split at h
    · have qa := s_E a F h
      exact .tst (s_isn qa.pe) (s_Tisn qa.pe) (fun _ _ _ => Expr.noConfusion)
    · cases h
  | .nisn a, X, W, ex, F, h => by
    unfold ckE at h
    split at h
    · have qa := s_E a F h
      exact .tst (s_nisn qa.pe) (s_Tnisn qa.pe) (fun _ _ _ => Expr.noConfusion)
    · cases h
  | .idx a b, X, W, ex, F, h => by
    unfold ckE at h
    split at h
    · simp only [Bool.and_eq_true] at h
      exact .val (s_idx F (s_E a F h.1.1).pe (s_E b F h.1.2).pe h.2) (fun _ => rfl) (fun _ _ _ => Expr.noConfusion)
    · cases h
  | .sll a lo, X, W, ex, F, h => by
    unfold ckE at h
    split at h
    · simp only [Bool.and_eq_true] at h
      exact .val (s_sll (s_E a F h.1).pe (s_E lo F h.2).pe) (fun _ => rfl) (fun _ _ _ => Expr.noConfusion)
    · cases h
  | .slh a lo, X, W, ex, F, h => by
    unfold ckE at h
    split at h
    · simp only [Bool.and_eq_true] at h
      exact .val (s_slh (s_E a F h.1).pe (s_E lo F h.2).pe) (fun _ => rfl) (fun _ _ _ => Expr.noConfusion)
    · cases h
  | .slb a lo hi, X, W, ex, F, h => by
    unfold ckE at h
    split at h
    · simp only [Bool.and_eq_true] at h
      exact .val (s_slb (s_E a F h.1.1).pe (s_E lo F h.1.2).pe (s_E hi F h.2).pe) (fun _ => rfl) (fun _ _ _ => Expr.noConfusion)
    · cases h
  | .rev a, X, W, ex, F, h => by
    unfold ckE at h
    split at h
    · simp only [Bool.and_eq_true, decide_eq_true_eq] at h
      obtain ⟨rfl, h2⟩ := h
      exact .val (s_rev (s_E a F h2).pe) (fun _ => rfl) (fun _ _ _ => Expr.noConfusion)
    · cases h
  | .gix g a, X, W, ex, F, h => by
    unfold ckE at h
    split at h
    · simp only [Bool.and_eq_true, decide_eq_true_eq] at h
      obtain ⟨⟨⟨⟨⟨⟨⟨rfl, rfl⟩, h3⟩, h4⟩, h5⟩, h6⟩, h7⟩, h8⟩ := h
      exact .val (s_gix F h4 h5 (s_E a F h7).pe h8 h3 h6) (fun _ => rfl) (fun _ _ _ => Expr.noConfusion)
    · cases h
  | .call f es, X, W, ex, F, h => by
    unfold ckE at h
    split at h
    · rename_i x p exs pos
      simp only [Bool.and_eq_true, decide_eq_true_eq] at h
      obtain ⟨⟨⟨⟨rfl, h2⟩, h3⟩, h4⟩, h5⟩ := h
      cases exs with
      | nil =>
        cases es with
        | nil => exact .val (s_call0 F h2 h3 h4) (fun _ => rfl) (fun _ _ _ => Expr.noConfusion)
        | cons e r => simp [ckEs] at h5
      | cons ex exs =>
        obtain ⟨q1, q2⟩ := s_Es es F h5
        exact .val (s_call F h2 h3 h4 q1 q2) (fun _ => rfl) (fun _ _ _ => Expr.noConfusion)
    · cases h
  | .blt b es, X, W, ex, F, h => by
    unfold ckE at h
    split at h
    · rename_i x p exs pos
      simp only [Bool.and_eq_true, decide_eq_true_eq, Bool.or_eq_true] at h
      obtain ⟨⟨⟨⟨rfl, h2⟩, h3⟩, h4⟩, h5⟩ := h
      cases exs with
      | nil => simp at h4
      | cons ex exs =>
        obtain ⟨q1, q2⟩ := s_Es es F h5
        exact .val (s_blt F h2 h3 q1 q2) (fun _ => rfl) (fun _ _ _ => Expr.noConfusion)
    · cases h
  | .mth k o es, X, W, ex, F, h => by
    unfold ckE at h
    split at h
    · rename_i eo name ap exs pos
      simp only [Bool.and_eq_true, decide_eq_true_eq] at h
      obtain ⟨⟨⟨⟨⟨rfl, h2⟩, h3⟩, h4⟩, h5⟩, h6⟩ := h
      have qo := s_E o F h4
      have one : (exs.length == 1) = true → k ≠ .get → k ≠ .pop → Ok L n X W (.mth k o es) (.Call (.Attribute eo (mthN k) ap) exs [] pos) := fun hl k1 k2 => by
        match exs, es, h5, hl with
        | [eb], .cons b r, h5, _ =>
          cases r with
          | cons _ _ => simp [ckEs] at h5
          | nil =>
            have h6 := h5
            unfold ckEs at h6
            simp only [Bool.and_eq_true] at h6
            have qb := s_E b F h6.1.1
            exact .val (s_mth F k1 k2 qo.pe qb.pe h6.1.2 h3 h2) (fun _ => rfl) (fun _ _ _ => Expr.noConfusion)
        | [eb], .nil, h5, _ => simp [ckEs] at h5
        | [], _, _, hl => simp at hl
        | _ :: _ :: _, _, _, hl => simp at hl
      cases k with
      | get =>
        match exs, es, h5, h6 with
        | [ea, eb], .cons a (.cons b r), h5, _ =>
          cases r with
          | cons _ _ => simp [ckEs] at h5
          | nil =>
            simp only [ckEs, Bool.and_eq_true] at h5
            exact .val (s_get F qo.pe (s_E a F h5.1.1).pe (s_E b F h5.2.1.1).pe h5.1.2 h5.2.1.2 h3 h2) (fun _ => rfl) (fun _ _ _ => Expr.noConfusion)
        | [ea, eb], .cons a .nil, h5, _ => simp [ckEs] at h5
        | [ea, eb], .nil, h5, _ => simp [ckEs] at h5
        | [], _, _, hl => simp at hl
        | [_], _, _, hl => simp at hl
        | _ :: _ :: _ :: _, _, _, hl => simp at hl
      | pop =>
        simp only [List.isEmpty_iff] at h6
        subst h6
        cases es with
        | nil => exact .val (s_pop qo.pe h3 h2) (fun _ => rfl) (fun _ _ _ => Expr.noConfusion)
        | cons e r => simp [ckEs] at h5
      | _ => exact one h6 (fun q => Mth.noConfusion q) (fun q => Mth.noConfusion q)
    · cases h
  | .isi a t, X, W, ex, F, h => by
    unfold ckE at h
    split at h
    · simp only [Bool.and_eq_true, decide_eq_true_eq] at h
      obtain ⟨⟨⟨⟨⟨rfl, rfl⟩, h3⟩, h4⟩, h5⟩, h6⟩ := h
      exact .val (s_isi F h3 h4 (s_E a F h5).pe h6) (fun _ => rfl) (fun _ _ _ => Expr.noConfusion)
    · cases h
  | .lc t i co r b, X, W, ex, F, h => by
    unfold ckE at h
    split at h
    · rename_i elt g gens scope pos
      simp only [Bool.and_eq_true, decide_eq_true_eq] at h
      obtain ⟨⟨⟨⟨⟨⟨⟨h1, h2⟩, h3⟩, h4⟩, h5⟩, h6⟩, h7⟩, h8⟩ := h
      refine .val (s_lcE F (s_I i F h1) h2 h3 h4 h5 (fun Y G e => s_G G.calm G.nd (by rw [e]; exact h6)) (fun Y G e => s_O co G (by rw [e]; exact h7)) (fun Y G hx e D => ?_) (ckGs_async h8)) (fun _ => rfl) (fun _ _ _ => Expr.noConfusion)
      exact s_Gs' r G hx (by rw [e]; exact h8) _ _ _ 0 D rfl
    · cases h
  | .dc t i k v, X, W, ex, F, h => by
    unfold ckE at h
    split at h
    · rename_i kx vx g scope pos
      simp only [Bool.and_eq_true, decide_eq_true_eq, List.isEmpty_iff] at h
      obtain ⟨⟨⟨⟨⟨⟨⟨⟨h1, h2⟩, h3⟩, h4⟩, h5⟩, h6⟩, h7⟩, h8⟩, h9⟩ := h
      exact .val (s_dc F (s_I i F h1) h2 h3 h4 h5 h6 (fun Y G e => s_G G.calm G.nd (by rw [e]; exact h7)) (fun Y G e => (s_E k G (by rw [e]; exact h8)).pe) (fun Y G e => (s_E v G (by rw [e]; exact h9)).pe)) (fun _ => rfl) (fun _ _ _ => Expr.noConfusion)
    · cases h
  | .lrng1 m a, X, W, ex, F, h => by
    unfold ckE at h
    split at h
    · simp only [Bool.and_eq_true, decide_eq_true_eq] at h
      obtain ⟨⟨⟨⟨⟨rfl, rfl⟩, h3⟩, h4⟩, h5⟩, h6⟩ := h
      exact .val (s_lrng1 F h3 h4 (s_E a F h5).pe h6) (fun _ => rfl) (fun _ _ _ => Expr.noConfusion)
    · cases h
  | .lrng2 m a b, X, W, ex, F, h => by
    unfold ckE at h
    split at h
    · simp only [Bool.and_eq_true, decide_eq_true_eq] at h
      obtain ⟨⟨⟨⟨⟨⟨⟨rfl, rfl⟩, h3⟩, h4⟩, h5⟩, h6⟩, h7⟩, h8⟩ := h
      exact .val (s_lrng2 F h3 h4 (s_E a F h5).pe (s_E b F h7).pe h6 h8) (fun _ => rfl) (fun _ _ _ => Expr.noConfusion)
    · cases h
  | .skeys t i, X, W, ex, F, h => by
    unfold ckE at h
    split at h
    · simp only [Bool.and_eq_true, decide_eq_true_eq] at h
      obtain ⟨⟨⟨⟨⟨⟨⟨⟨⟨⟨⟨rfl, rfl⟩, h3⟩, h4⟩, h5⟩, h6⟩, h7⟩, h8⟩, h9⟩, h10⟩, h11⟩, h12⟩ := h
      exact .val (s_skeys F h3 h4 h5 h6 h7 h8 h9 h10 h11 h12) (fun _ => rfl) (fun _ _ _ => Expr.noConfusion)
    · cases h
theorem s_Ps : ∀ (es : Es) {ks : List T} {X : Cx} {W : WX} {keys : List (Option Expr)} {vals : List Expr} {pos : Pos}, Facts L n X W → ckKs ks keys = true → ckEs L (Scp.of X) es vals = true → es.len = ks.length → PPs X pos keys vals (trsD L n X W ks es)
  | .nil, ks, X, W, keys, vals, pos, F, h1, h2, h3 => by
    cases ks with
    | cons k ks => simp [Es.len] at h3
    | nil =>
      simp only [ckKs, List.isEmpty_iff] at h1
      unfold ckEs at h2
      simp only [List.isEmpty_iff] at h2
      subst h1
      subst h2
      exact pps_nil
  | .cons e r, ks, X, W, keys, vals, pos, F, h1, h2, h3 => by
    cases ks with
    | nil => simp [Es.len] at h3
    | cons k ks =>
      unfold ckEs at h2
      split at h2
      · unfold ckKs at h1
        split at h1
        · simp only [Bool.and_eq_true, decide_eq_true_eq] at h1 h2
          obtain ⟨rfl, h1⟩ := h1
          exact pps_cons pe_str (s_E e F h2.1.1).pe (s_Ps r F h1 h2.2 (by simpa [Es.len] using h3))
        · cases h1
      · cases h2
theorem s_Es : ∀ (es : Es) {X : Cx} {W : WX} {exs : List Expr}, Facts L n X W → ckEs L (Scp.of X) es exs = true → PA X exs (tEs L n X W es) ∧ exs.all okx = true
  | .nil, X, W, exs, F, h => by
    unfold ckEs at h
    simp only [List.isEmpty_iff] at h
    subst h
    exact ⟨s_nil, rfl⟩
  | .cons e r, X, W, exs, F, h => by
    unfold ckEs at h
    split at h
    · simp only [Bool.and_eq_true] at h
      obtain ⟨q1, q2⟩ := s_Es r F h.2
      refine ⟨s_cons (s_E e F h.1.1).pe q1 h.1.2, ?_⟩
      simp only [List.all_cons, Bool.and_eq_true]
      exact ⟨h.1.2, q2⟩
    · cases h
theorem s_I : ∀ (i : Iter) {X : Cx} {W : WX} {tg ex : Expr}, Facts L n X W → ckI L (Scp.of X) i tg ex = true → PI X tg ex (tI L n X W i)
  | .e a, X, W, tg, ex, F, h => by
    unfold ckI at h
    exact s_Ie (s_E a F h).pe
  | .rng1 a, X, W, tg, ex, F, h => by
    unfold ckI at h
    split at h
    · simp only [Bool.and_eq_true, decide_eq_true_eq] at h
      obtain ⟨⟨⟨rfl, h2⟩, h3⟩, h4⟩ := h
      exact s_Irng1 F h2 (s_E a F h3).pe h4
    · cases h
  | .rng2 a b, X, W, tg, ex, F, h => by
    unfold ckI at h
    split at h
    · simp only [Bool.and_eq_true, decide_eq_true_eq] at h
      obtain ⟨⟨⟨⟨⟨rfl, h2⟩, h3⟩, h4⟩, h5⟩, h6⟩ := h
      exact s_Irng2 F h2 (s_E a F h3).pe (s_E b F h5).pe h4 h6
    · cases h
  | .enm a, X, W, tg, ex, F, h => by
    unfold ckI at h
    split at h
    · split at h
      · simp only [Bool.and_eq_true, decide_eq_true_eq] at h
        obtain ⟨⟨⟨rfl, h2⟩, h3⟩, h4⟩ := h
        exact s_Ienm F h2 (s_E a F h3).pe h4
      · cases h
    · cases h
  | .zip a b, X, W, tg, ex, F, h => by
    unfold ckI at h
    split at h
    · split at h
      · simp only [Bool.and_eq_true, decide_eq_true_eq] at h
        obtain ⟨⟨⟨⟨⟨rfl, h2⟩, h3⟩, h4⟩, h5⟩, h6⟩ := h
        exact s_Izip F h2 (s_E a F h3).pe (s_E b F h5).pe h4 h6
      · cases h
    · cases h
theorem s_O : ∀ (o : Oe) {X : Cx} {exs : List Expr}, Facts L n X W0 → ckO L (Scp.of X) o exs = true → PTs X exs (tO L n X o)
  | .none, X, exs, F, h => by
    unfold ckO at h
    simp only [List.isEmpty_iff] at h
    subst h
    exact s_Onone
  | .some e, X, exs, F, h => by
    unfold ckO at h
    split at h
    · exact s_Osome (s_E e F h).pt
    · cases h
theorem s_Gs' : ∀ (r : Gs) {Y : Cx} {elt : Expr} {rest : List Comprehension}, Facts L n Y W0 → (Y.xe = fun _ _ => False) → ckGs L (Scp.of Y) r elt rest = true → ∀ (gens : List Comprehension) (scope : Scope) (pos : Pos) (d : Nat) (D : Addr), gens.drop (d + 1) = rest → PIn Y elt gens scope pos d D r.slots (tN L n Y.K D r)
  | .elt e, Y, elt, rest, F, hx, h, gens, scope, pos, d, D, hd => by
    unfold ckGs at h
    simp only [Bool.and_eq_true, List.isEmpty_iff] at h
    have hn : gens[d + 1]? = none := by
      rw [h.1] at hd
      exact List.getElem?_eq_none (by have := congrArg List.length hd; simp at this; omega)
    exact s_pinElt hn (s_E e F h.2).pe hx
  | .cons t i co r, Y, elt, rest, F, hx, h, gens, scope, pos, d, D, hd => by
    have hall := ckGs_async h
    unfold ckGs at h
    split at h
    · rename_i g gens'
      simp only [Bool.and_eq_true, decide_eq_true_eq] at h
      obtain ⟨⟨⟨⟨⟨h1, h2⟩, h3⟩, h4⟩, h5⟩, h6⟩ := h
      have e1 : gens[d + 1]? = some g := by
        have := congrArg (fun l => l[0]?) hd
        simpa [List.getElem?_drop] using this
      have e2 : gens.drop (d + 1 + 1) = gens' := by
        have := congrArg (fun l => l.drop 1) hd
        simpa [List.drop_drop, Nat.add_comm] using this
      refine s_pinCl F hx e1 h3 (fun g' q => hall g' ?_) (s_I i F h1) h2 (s_G F.calm F.nd h4) (s_O co F h5) (s_Gs' r F hx h6 gens scope pos (d + 1) D e2)
      rw [← e2]
      refine List.mem_cons_of_mem _ (List.mem_of_getElem? (i := 0) ?_)
      rw [List.getElem?_drop]
      exact q
    · cases h
end
end
end MP
end

section
set_option Elab.async false
set_option linter.all false
set_option maxRecDepth 100000
/-! Statements. -/
namespace MP
open PySem PySem.Spec PyProof.Rows L2
def satS (L : Lnk) (X : Cx) (W : WX) (r : SR) (m : M) (H : Hp) (Dn : Ends) : Prop := match r with
  | .nx ρ st => ∀ σ m' H', Ext m H m' H' → Rep X.K m' H' st → EnvR X.K m' H' σ ρ → Dn.nx σ H'
  | .bk ρ st => ∀ σ m' H', Ext m H m' H' → Rep X.K m' H' st → EnvR X.K m' H' σ ρ → Dn.bk σ H'
  | .ct ρ st => ∀ σ m' H', Ext m H m' H' → Rep X.K m' H' st → EnvR X.K m' H' σ ρ → Dn.ct σ H'
  | .ret d st => ∀ m' H' v, Ext m H m' H' → Rep X.K m' H' st → At X.K m' H' v d → Dn.rt v H'
  | .ex x ρ st => ∀ σ m' H', Ext m H m' H' → Rep X.K m' H' st → EnvR X.K m' H' σ ρ → xW L X W σ x st m' H'
  | .no => False
def tS (L : Lnk) (n : Nat) (X : Cx) (W : WX) (s : S) : TS := fun Dn σ H => ∃ m ρ st, EnvR X.K m H σ ρ ∧ Rep X.K m H st ∧ satS L X W (evS (L.G n) s ρ st) m H Dn
def tSs (L : Lnk) (n : Nat) (X : Cx) (W : WX) (s : Ss) : TS := fun Dn σ H => ∃ m ρ st, EnvR X.K m H σ ρ ∧ Rep X.K m H st ∧ satS L X W (evSs (L.G n) s ρ st) m H Dn
theorem sby {X : Cx} {st : Stmt} {t t' : TS} (h : PS X st t) (i : ∀ D σ H, t' D σ H → t D σ H) : PS X st t' := ⟨fun pins s σ H D I q => h.run pins s σ H D I (i D σ H q)⟩
theorem ssby {X : Cx} {st : List Stmt} {t t' : TS} (h : PSs X st t) (i : ∀ D σ H, t' D σ H → t D σ H) : PSs X st t' := ⟨fun pins s σ H D I q => h.run pins s σ H D I (i D σ H q)⟩
/-- what a body's statements want besides -/
structure SFacts (L : Lnk) (n : Nat) (X : Cx) (W : WX) : Prop extends Facts L n X W where
  kind : X.env.scope.kind = .function
  po : PassesOwn (model X.prog X.w) X.A X.env X.xe
section
variable {L : Lnk} {n : Nat} {X : Cx} {W : WX} {m m1 : M} {σ : L2.St} {ρ : Rho} {st : Store} {H H1 : Hp} {Dn : Ends}
theorem satS.ext {r : SR} (h : satS L X W r m H Dn) (x : Ext m H m1 H1) : satS L X W r m1 H1 Dn := by
  cases r with
  | nx _ _ => exact fun σ m' H' y => h σ m' H' (x.trans y)
  | bk _ _ => exact fun σ m' H' y => h σ m' H' (x.trans y)
  | ct _ _ => exact fun σ m' H' y => h σ m' H' (x.trans y)
  | ret _ _ => exact fun m' H' v y => h m' H' v (x.trans y)
  | ex _ _ _ => exact fun σ m' H' y => h σ m' H' (x.trans y)
  | no => exact h
/-- an expression, then a statement's own work -/
theorem tE_st {e : E} {f : D → Store → SR} {Q : VK} (er : EnvR X.K m H σ ρ) (rp : Rep X.K m H st) (h : satS L X W ((evE (L.G n) e ρ st).st ρ f) m H Dn)
    (k : ∀ d st1 m1 H1 v, Ext m H m1 H1 → EnvR X.K m1 H1 σ ρ → Rep X.K m1 H1 st1 → At X.K m1 H1 v d → satS L X W (f d st1) m1 H1 Dn → Q v H1) : tE L n X W e σ H Q := by
  refine ⟨m, ρ, st, er, rp, ?_⟩
  cases q : evE (L.G n) e ρ st with
  | no => rw [q] at h; exact h.elim
  | ex x s => rw [q] at h; exact fun m' H' y rp' => h σ m' H' y rp' (er.ext y)
  | ok d s => rw [q] at h; exact fun m' H' y rp' v hv => k d s m' H' v y (er.ext y) rp' hv (satS.ext h y)
theorem tEs_st {e : Es} {f : List D → Store → SR} {Q : List V → Hp → Prop} (er : EnvR X.K m H σ ρ) (rp : Rep X.K m H st) (h : satS L X W ((evEs (L.G n) e ρ st).st ρ f) m H Dn)
    (k : ∀ d st1 m1 H1 v, Ext m H m1 H1 → EnvR X.K m1 H1 σ ρ → Rep X.K m1 H1 st1 → Ats X.K m1 H1 v d → satS L X W (f d st1) m1 H1 Dn → Q v H1) : tEs L n X W e σ H Q := by
  refine ⟨m, ρ, st, er, rp, ?_⟩
  cases q : evEs (L.G n) e ρ st with
  | no => rw [q] at h; exact h.elim
  | ex x s => rw [q] at h; exact fun m' H' y rp' => h σ m' H' y rp' (er.ext y)
  | ok d s => rw [q] at h; exact fun m' H' y rp' v hv => k d s m' H' v y (er.ext y) rp' hv (satS.ext h y)
theorem tI_st {e : Iter} {f : Walked → Store → SR} {Q : It → Hp → Prop} (er : EnvR X.K m H σ ρ) (rp : Rep X.K m H st) (h : satS L X W ((evI (L.G n) e ρ st).st ρ f) m H Dn)
    (k : ∀ w st1 m1 H1 J, Ext m H m1 H1 → EnvR X.K m1 H1 σ ρ → Rep X.K m1 H1 st1 → w.ok st1 = true → ItOf X.K m1 H1 J w → satS L X W (f w st1) m1 H1 Dn → Q J H1) : tI L n X W e σ H Q := by
  refine ⟨m, ρ, st, er, rp, ?_⟩
  cases q : evI (L.G n) e ρ st with
  | no => rw [q] at h; exact h.elim
  | ex x s => rw [q] at h; exact fun m' H' y rp' => h σ m' H' y rp' (er.ext y)
  | ok d s => rw [q] at h; exact fun m' H' y rp' => ⟨evI_ok q, fun J it => k d s m' H' J y (er.ext y) rp' (evI_ok q) it (satS.ext h y)⟩
theorem tT_st {e : E} {f : D → Store → SR} {Q : Bool → Hp → Prop} (er : EnvR X.K m H σ ρ) (rp : Rep X.K m H st) (h : satS L X W ((evE (L.G n) e ρ st).st ρ f) m H Dn) (h0 : ∀ d st, truth st d = none → f d st = .no)
    (k : ∀ d b st1 m1 H1, Ext m H m1 H1 → EnvR X.K m1 H1 σ ρ → Rep X.K m1 H1 st1 → truth st1 d = some b → satS L X W (f d st1) m1 H1 Dn → Q b H1) : tT L n X W e σ H Q := by
  refine ⟨m, ρ, st, er, rp, ?_⟩
  cases q : evE (L.G n) e ρ st with
  | no => rw [q] at h; exact h.elim
  | ex x s => rw [q] at h; exact fun m' H' y rp' => h σ m' H' y rp' (er.ext y)
  | ok d s =>
    rw [q] at h
    simp only [R.st_ok] at h
    simp only [R.bd_ok]
    cases t : truth s d with
    | none => rw [h0 d s t] at h; exact h.elim
    | some b => exact fun m' H' y rp' => k d b s m' H' y (er.ext y) rp' t (satS.ext h y)
theorem satS_sq {r : SR} {f : Rho → Store → SR} (h : satS L X W (r.sq f) m H Dn) : satS L X W r m H { Dn with nx := fun σ H1 => ∃ m1 ρ1 st1, EnvR X.K m1 H1 σ ρ1 ∧ Rep X.K m1 H1 st1 ∧ satS L X W (f ρ1 st1) m1 H1 Dn } := by
  cases r with
  | nx ρ st => exact fun σ m' H' y rp er => ⟨m', ρ, st, er, rp, satS.ext h y⟩
  | bk _ _ => exact h
  | ct _ _ => exact h
  | ret _ _ => exact h
  | ex _ _ _ => exact h
  | no => exact h
/-! ### plain statements -/
def notComp : Expr → Bool
  | .ListComp .. | .SetComp .. | .DictComp .. => false
  | _ => true
theorem swaps_not {e : Expr} {t : Option Expr} {l : Nat} {env : Env} (h : notComp e = true) : swapsWith e t l env = pure false := by
  cases e <;> first | rfl | cases h
theorem x_expr {e : E} {ex : Expr} {pos : Pos} (he : PE X ex (tE L n X W e)) (hn : notComp ex = true) : PS X (.Expr ex pos) (tS L n X W (.expr e)) := by
  refine sby (ps_expr he (swaps_not hn)) fun Dn σ H ⟨m, ρ, st, er, rp, h⟩ => ?_
  simp only [evS] at h
  refine tE_st er rp h fun d st1 m1 H1 v x er1 rp1 a h => ?_
  exact h σ m1 H1 (.refl _ _) rp1 er1
theorem q_asg {i : Nat} {e : E} {Dn : Ends} {σ : L2.St} {H : Hp} (h : tS L n X W (.asg i e) Dn σ H) : tAsg (tE L n X W e) (gName i) Dn σ H := by
  obtain ⟨m, ρ, st, er, rp, h⟩ := h
  simp only [evS] at h
  refine tE_st er rp h fun d st1 m1 H1 v x er1 rp1 a h => ?_
  split at h
  · exact h _ m1 H1 (.refl _ _) rp1 (er1.set a)
  · exact h.elim
theorem x_asg {i : Nat} {e : E} {x : Str} {ex : Expr} {p pos : Pos} (F : SFacts L n X W) (ht : tgB (Scp.of X) i x = true) (he : PE X ex (tE L n X W e)) (hs : swapsWith ex (some (.Name x p)) pos.line X.env = pure false) : PS X (.Assign [.Name x p] ex pos) (tS L n X W (.asg i e)) := by
  obtain ⟨h1, h2, h3⟩ := tgB_ok ht
  exact sby (ps_set F.nd h1 h2 he hs h3) fun Dn σ H h => q_asg h
theorem x_asgT {t : Tg} {e : E} {tg ex : Expr} {pos : Pos} (F : SFacts L n X W) (hg : ckG (Scp.of X) t tg = true) (he : PE X ex (tE L n X W e)) (hs : swapsWithSole [tg] ex pos.line X.env = pure false) (hw : swappedStores [tg] ex X.env = pure none) : PS X (.Assign [tg] ex pos) (tS L n X W (.asgT t e)) := by
  refine sby (ps_asg he (s_G F.calm F.nd hg) hs hw (by rw [assign_each (ckG_tgx hg)]; rfl)) fun Dn σ H ⟨m, ρ, st, er, rp, h⟩ => ?_
  simp only [evS] at h
  refine tE_st er rp h fun d st1 m1 H1 v x er1 rp1 a h => ?_
  cases q : asgn t d ρ with
  | none => rw [q] at h; exact h.elim
  | some ρ' =>
    rw [q] at h
    exact ⟨m1, ρ, st1, d, ρ', er1, rp1, a, q, fun σ' er' _ => h σ' m1 H1 (.refl _ _) rp1 er'⟩
theorem x_par2 {i j : Nat} {x y : Str} {es : Es} {a b : Expr} {px py pt pos : Pos} {kt k2 pt2} (F : SFacts L n X W) (hi : X.N[i]? = some x) (hj : X.N[j]? = some y) (hij : i ≠ j) (hx : X.env.scope.names.lookup x = some .local) (hy : X.env.scope.names.lookup y = some .local)
    (ha : PA X [a, b] (tEs L n X W es)) (hw : swappedStores [.Tuple [.Name x px, .Name y py] kt pt] (.Tuple [a, b] k2 pt2) X.env = pure (some [x, y])) :
    PS X (.Assign [.Tuple [.Name x px, .Name y py] kt pt] (.Tuple [a, b] k2 pt2) pos) (tS L n X W (.par [i, j] es)) := by
  refine sby (ps_par F.calm F.nd hi hj hij hx hy ha hw) fun Dn σ H ⟨m, ρ, st, er, rp, h⟩ => ?_
  simp only [evS] at h
  refine tEs_st er rp h fun ds st1 m1 H1 vs x er1 rp1 a h => ?_
  match ds, vs, a with
  | [d, e], _, .cons h1 (.cons h2 .nil) =>
    simp only [setAll] at h
    split at h
    · split at h
      · exact ⟨_, _, rfl, h _ m1 H1 (.refl _ _) rp1 ((er1.set h1).set h2)⟩
      · exact h.elim
    · exact h.elim
  | [], _, _ => exact h.elim
  | [_], _, _ => simp only [setAll] at h; split at h <;> exact h.elim
  | _ :: _ :: _ :: _, _, _ =>
    simp only [setAll] at h
    split at h
    · split at h <;> exact h.elim
    · exact h.elim
theorem x_par3 {i j l : Nat} {x y z : Str} {es : Es} {a b c : Expr} {px py pz pt pos : Pos} {kt k2 pt2} (F : SFacts L n X W) (hi : X.N[i]? = some x) (hj : X.N[j]? = some y) (hl : X.N[l]? = some z) (hij : i ≠ j) (hil : i ≠ l) (hjl : j ≠ l) (hx : X.env.scope.names.lookup x = some .local) (hy : X.env.scope.names.lookup y = some .local) (hz : X.env.scope.names.lookup z = some .local)
    (ha : PA X [a, b, c] (tEs L n X W es)) (hw : swappedStores [.Tuple [.Name x px, .Name y py, .Name z pz] kt pt] (.Tuple [a, b, c] k2 pt2) X.env = pure (some [x, y, z])) :
    PS X (.Assign [.Tuple [.Name x px, .Name y py, .Name z pz] kt pt] (.Tuple [a, b, c] k2 pt2) pos) (tS L n X W (.par [i, j, l] es)) := by
  refine sby (ps_par3 F.calm F.nd hi hj hl hij hil hjl hx hy hz ha hw) fun Dn σ H ⟨m, ρ, st, er, rp, h⟩ => ?_
  simp only [evS] at h
  refine tEs_st er rp h fun ds st1 m1 H1 vs x er1 rp1 a h => ?_
  match ds, vs, a with
  | [d, e, f], _, .cons h1 (.cons h2 (.cons h3 .nil)) =>
    simp only [setAll] at h
    split at h
    · split at h
      · split at h
        · exact ⟨_, _, _, rfl, h _ m1 H1 (.refl _ _) rp1 (((er1.set h1).set h2).set h3)⟩
        · exact h.elim
      · exact h.elim
    · exact h.elim
  | [], _, _ => exact h.elim
  | [_], _, _ => simp only [setAll] at h; split at h <;> exact h.elim
  | [_, _], _, _ =>
    simp only [setAll] at h
    split at h
    · split at h <;> exact h.elim
    · exact h.elim
  | _ :: _ :: _ :: _ :: _, _, _ =>
    simp only [setAll] at h
    split at h
    · split at h
      · split at h <;> exact h.elim
      · exact h.elim
    · exact h.elim
theorem x_setIx {o i e : E} {eo ei ex : Expr} {tp pos : Pos} (F : SFacts L n X W) (ho : PE X eo (tE L n X W o)) (hi : PE X ei (tE L n X W i)) (he : PE X ex (tE L n X W e)) (hk : okx ei = true) : PS X (.Assign [.Subscript eo ei tp] ex pos) (tS L n X W (.setIx o i e)) := by
  have hs : swapsWithSole [.Subscript eo ei tp] ex pos.line X.env = pure false := by cases ex <;> rfl
  have hw : swappedStores [.Subscript eo ei tp] ex X.env = pure none := by cases ex <;> rfl
  refine sby (ps_asg he (pg_sub ho hi (set_all (by have := F.units; omega)) (by cases ei <;> first | (intro v; rfl) | cases hk)) hs hw) fun Dn σ H ⟨m, ρ, st, er, rp, h⟩ => ?_
  simp only [evS] at h
  refine tE_st er rp h fun d st1 m1 H1 v x er1 rp1 a h => ?_
  refine tE_st er1 rp1 h fun d2 st2 m2 H2 v2 x2 er2 rp2 a2 h => ?_
  refine tE_st er2 rp2 h fun d3 st3 m3 H3 v3 x3 er3 rp3 a3 h => ?_
  cases q : evSet d2 d3 d st3 with
  | none => rw [q] at h; exact h.elim
  | some st' =>
    rw [q] at h
    exact ⟨m3, st3, d2, d3, d, st', a2.ext x3, a3, (a.ext x2).ext x3, rp3, q, fun m' H' y rp' => h σ m' H' y rp' (er3.ext y)⟩
theorem x_ret {e : E} {ex : Expr} {pos : Pos} (he : PE X ex (tE L n X W e)) : PS X (.Return (some ex) pos) (tS L n X W (.ret e)) := by
  refine sby (ps_ret he) fun Dn σ H ⟨m, ρ, st, er, rp, h⟩ => ?_
  simp only [evS] at h
  refine tE_st er rp h fun d st1 m1 H1 v x er1 rp1 a h => ?_
  exact h m1 H1 v (.refl _ _) rp1 a
theorem x_retN {pos : Pos} : PS X (.Return none pos) (tS L n X W .retN) :=
  sby ps_retN fun Dn σ H ⟨m, ρ, st, er, rp, h⟩ => h m H .non (.refl _ _) rp .non
theorem x_ite {c : E} {a b : Ss} {ec : Expr} {ea eb : List Stmt} {pos : Pos} (hc : PT X ec (tT L n X W c)) (ha : PSs X ea (tSs L n X W a)) (hb : PSs X eb (tSs L n X W b)) : PS X (.If ec ea eb pos) (tS L n X W (.ite c a b)) := by
  refine sby (ps_if hc ha hb) fun Dn σ H ⟨m, ρ, st, er, rp, h⟩ => ?_
  simp only [evS] at h
  refine tT_st er rp h (fun d st q => by simp only [q]; rfl) fun d k st1 m1 H1 x er1 rp1 q h => ?_
  simp only [q] at h
  cases k with
  | true => exact ⟨m1, ρ, st1, er1, rp1, h⟩
  | false => exact ⟨m1, ρ, st1, er1, rp1, h⟩
theorem x_brk {pos : Pos} : PS X (.Break pos) (tS L n X W .brk) := sby ps_break fun Dn σ H ⟨m, ρ, st, er, rp, h⟩ => h σ m H (.refl _ _) rp er
theorem x_cont {pos : Pos} : PS X (.Continue pos) (tS L n X W .cont) := sby ps_continue fun Dn σ H ⟨m, ρ, st, er, rp, h⟩ => h σ m H (.refl _ _) rp er
theorem x_pass {pos : Pos} : PS X (.Pass pos) (tS L n X W .pass) := sby ps_pass fun Dn σ H ⟨m, ρ, st, er, rp, h⟩ => h σ m H (.refl _ _) rp er
theorem x_never {s : Stmt} : PS X s (tS L n X W .never) := sby ps_never fun Dn σ H ⟨m, ρ, st, er, rp, h⟩ => h.elim
theorem x_nil : PSs X [] (tSs L n X W .nil) := ssby pss_nil fun Dn σ H ⟨m, ρ, st, er, rp, h⟩ => h σ m H (.refl _ _) rp er
theorem x_cons {s : S} {r : Ss} {es : Stmt} {er : List Stmt} (hs : PS X es (tS L n X W s)) (hr : PSs X er (tSs L n X W r)) : PSs X (es :: er) (tSs L n X W (.cons s r)) := by
  refine ssby (pss_cons hs hr) fun Dn σ H ⟨m, ρ, st, er, rp, h⟩ => ?_
  simp only [evSs] at h
  exact ⟨m, ρ, st, er, rp, satS_sq h⟩
/-! ### loops -/
theorem x_for {t : Tg} {i : Iter} {b : Ss} {tg iter : Expr} {body : List Stmt} {pos : Pos} (F : SFacts L n X W) (hi : PI X tg iter (tI L n X W i)) (ho : okx iter = true) (hg : ckG (Scp.of X) t tg = true) (hb : PSs X body (tSs L n X W b)) : PS X (.For tg iter body [] pos) (tS L n X W (.for_ t i b)) := by
  refine sby (ps_for F.po F.calm hi (s_G F.calm F.nd hg) hb (fun x => okx_fold ho)) fun Dn σ H ⟨m, ρ, st, er, rp, h⟩ => ?_
  simp only [evS] at h
  refine tI_st er rp h fun w st1 m1 H1 J x er1 rp1 ok it h => ?_
  let Iv : Nat → L2.St → Hp → Prop := fun i σ' H' => i ≤ w.xs.length ∧ ∃ m' ρ' st', Ext m1 H1 m' H' ∧ Rep X.K m' H' st' ∧ EnvR X.K m' H' σ' ρ' ∧ w.ok st' = true ∧ satS L X W (forL w t (evSs (L.G n) b) (w.xs.drop i) ρ' st') m' H' Dn
  refine ⟨fun i k σ' H' => k = w.xs.length - i ∧ Iv i σ' H', ⟨w.xs.length, rfl, Nat.zero_le _, m1, ρ, st1, .refl _ _, rp1, er1, ok, by simpa using h⟩, ?_⟩
  rintro i k σ' H' ⟨rfl, hi, m', ρ', st', x', rp', er', ok', h'⟩
  by_cases hlt : i < w.xs.length
  · refine .inr ⟨it.go i m' H' st' x'.toExtW rp' ok' hlt, Iv (i + 1), fun σ2 H2 iv => ⟨w.xs.length - (i + 1), by omega, rfl, iv⟩, fun v H2 y => ?_⟩
    obtain ⟨x2, rp2, d, ed, hd⟩ := it.yld i m' H' st' v H2 x'.toExtW rp' ok' hlt y
    have e0 : w.xs[i] = d := by
      rw [List.getElem?_eq_getElem hlt] at ed
      exact Option.some.inj ed
    rw [List.drop_eq_getElem_cons hlt, e0] at h'
    unfold forL at h'
    split at h'
    · exact h'.elim
    · rename_i ρ2 ea
      refine ⟨m', ρ', st', d, ρ2, er'.ext x2, rp2, hd, ea, fun σ2 er2 _ => ⟨m', ρ2, st', er2, rp2, ?_⟩⟩
      have go : ∀ {ρ3 st3}, satS L X W (if w.ok st3 then forL w t (evSs (L.G n) b) (w.xs.drop (i + 1)) ρ3 st3 else .no) m' H' Dn → ∀ σ3 m3 H3, Ext m' H2 m3 H3 → Rep X.K m3 H3 st3 → EnvR X.K m3 H3 σ3 ρ3 → Iv (i + 1) σ3 H3 := fun {ρ3 st3} hq σ3 m3 H3 x3 rp3 er3 => by
        split at hq
        · rename_i okk
          exact ⟨hlt, m3, ρ3, st3, x'.trans (x2.trans x3), rp3, er3, okk, satS.ext hq (x2.trans x3)⟩
        · exact hq.elim
      cases q : evSs (L.G n) b ρ2 st' with
      | nx ρ3 st3 => rw [q] at h'; exact go h'
      | ct ρ3 st3 => rw [q] at h'; exact go h'
      | bk ρ3 st3 => rw [q] at h'; exact fun σ3 m3 H3 x3 => h' σ3 m3 H3 (x2.trans x3)
      | ret d st3 => rw [q] at h'; exact fun m3 H3 v x3 => h' m3 H3 v (x2.trans x3)
      | ex x ρ3 st3 => rw [q] at h'; exact fun σ3 m3 H3 x3 => h' σ3 m3 H3 (x2.trans x3)
      | no => rw [q] at h'; exact h'.elim
  · have e : i = w.xs.length := by omega
    subst e
    refine .inl ⟨it.stop m' H' st' x'.toExtW rp' ok', ?_⟩
    rw [List.drop_length] at h'
    exact h' σ' m' H' (.refl _ _) rp' er'
theorem x_while {c : E} {b : Ss} {ec : Expr} {body : List Stmt} {pos : Pos} (F : SFacts L n X W) (hc : PT X ec (tT L n X W c)) (hb : PSs X body (tSs L n X W b)) : PS X (.While ec body [] pos) (tS L n X W (.while_ c b)) := by
  refine sby (ps_while F.po hc hb) fun Dn σ H ⟨m, ρ, st, er, rp, h⟩ => ?_
  simp only [evS] at h
  let Wf : Nat → L2.St → Hp → Prop := fun k σ' H' => ∃ m' ρ' st', Rep X.K m' H' st' ∧ EnvR X.K m' H' σ' ρ' ∧ satS L X W (whL (evE (L.G n) c) (evSs (L.G n) b) k ρ' st') m' H' Dn
  refine ⟨Wf, ⟨(L.G n).W, m, ρ, st, rp, er, h⟩, ?_⟩
  rintro k σ' H' ⟨m', ρ', st', rp', er', h'⟩
  cases k with
  | zero => exact h'.elim
  | succ k =>
    simp only [whL] at h'
    refine tT_st er' rp' h' (fun d st q => by simp only [q]; rfl) fun d k' st1 m1 H1 x er1 rp1 q h => ?_
    simp only [q] at h
    cases k' with
    | false => exact h σ' m1 H1 (.refl _ _) rp1 er1
    | true =>
      refine ⟨Wf k, fun σ2 H2 w => ⟨k, Nat.lt_succ_self k, w⟩, m1, ρ', st1, er1, rp1, ?_⟩
      have go : ∀ {ρ3 st3}, satS L X W (whL (evE (L.G n) c) (evSs (L.G n) b) k ρ3 st3) m1 H1 Dn → ∀ σ3 m3 H3, Ext m1 H1 m3 H3 → Rep X.K m3 H3 st3 → EnvR X.K m3 H3 σ3 ρ3 → Wf k σ3 H3 := fun {ρ3 st3} hq σ3 m3 H3 x3 rp3 er3 => ⟨m3, ρ3, st3, rp3, er3, satS.ext hq x3⟩
      cases q : evSs (L.G n) b ρ' st1 with
      | nx ρ3 st3 => rw [q] at h; exact go h
      | ct ρ3 st3 => rw [q] at h; exact go h
      | bk ρ3 st3 => rw [q] at h; exact h
      | ret d st3 => rw [q] at h; exact h
      | ex x ρ3 st3 => rw [q] at h; exact h
      | no => rw [q] at h; exact h.elim
end
end MP
end

section
set_option Elab.async false
set_option linter.all false
set_option maxRecDepth 100000
/-! Statements: what is looked at, and that it is enough. -/
namespace MP
open PySem PySem.Spec PyProof.Rows L2
def starX : Expr → Bool
  | .Starred .. => true
  | _ => false
theorem block_fn {env : Env} (h : env.scope.kind = .function) : env.blockKind = .function := by
  unfold Env.blockKind
  rw [h]
  rfl
theorem sw2 {env : Env} {x y : Str} {px py pt pt2 : Pos} {kt k2 : Nat} {a b : Expr} (hk : env.scope.kind = .function) (hx : env.scope.names.lookup x = some .local) (hy : env.scope.names.lookup y = some .local) (hl : py.line = px.line) (hxy : x ≠ y) (ha : starX a = false) (hb : starX b = false)
    (hf : [a, b].all (foldedForSure 8) = false) (hc : [a, b].all (constantsAlone 8) = false) : swappedStores [.Tuple [.Name x px, .Name y py] kt pt] (.Tuple [a, b] k2 pt2) env = pure (some [x, y]) := by
  have hbk := block_fn hk
  have kx : env.kindOf x = some .local := hx
  have ky : env.kindOf y = some .local := hy
  have hne : (y == x) = false := by simpa using fun e => hxy e.symm
  unfold swappedStores
  simp only [hbk, hf, hc]
  simp [Expr.pos, kx, ky, hl, List.eraseDups]
  refine (if_neg ?_).trans ?_
  · rintro (h | h)
    · cases a <;> first | (simp [starX] at ha; done) | (exact absurd h (by simp))
    · cases b <;> first | (simp [starX] at hb; done) | (exact absurd h (by simp))
  · simp [List.eraseDupsBy, List.eraseDupsBy.loop, hne]
theorem sw3 {env : Env} {x y z : Str} {px py pz pt pt2 : Pos} {kt k2 : Nat} {a b c : Expr} (hk : env.scope.kind = .function) (hx : env.scope.names.lookup x = some .local) (hy : env.scope.names.lookup y = some .local) (hz : env.scope.names.lookup z = some .local) (hl : py.line = px.line) (hl2 : pz.line = px.line)
    (hxy : x ≠ y) (hxz : x ≠ z) (hyz : y ≠ z) (ha : starX a = false) (hb : starX b = false) (hc' : starX c = false)
    (hf : [a, b, c].all (foldedForSure 8) = false) (hc : [a, b, c].all (constantsAlone 8) = false) : swappedStores [.Tuple [.Name x px, .Name y py, .Name z pz] kt pt] (.Tuple [a, b, c] k2 pt2) env = pure (some [x, y, z]) := by
  have hbk := block_fn hk
  have kx : env.kindOf x = some .local := hx
  have ky : env.kindOf y = some .local := hy
  have kz : env.kindOf z = some .local := hz
  have h1 : (y == x) = false := by simpa using fun e => hxy e.symm
  have h2 : (z == x) = false := by simpa using fun e => hxz e.symm
  have h3 : (z == y) = false := by simpa using fun e => hyz e.symm
  unfold swappedStores
  simp only [hbk, hf, hc]
  simp [Expr.pos, kx, ky, kz, hl, hl2, List.eraseDups]
  refine (if_neg ?_).trans ?_
  · rintro (h | h | h)
    · cases a <;> first | (simp [starX] at ha; done) | (exact absurd h (by simp))
    · cases b <;> first | (simp [starX] at hb; done) | (exact absurd h (by simp))
    · cases c <;> first | (simp [starX] at hc'; done) | (exact absurd h (by simp))
  · simp [List.eraseDupsBy, List.eraseDupsBy.loop, h1, h2, h3]
/-- no stores that are swapped: what is seen of the terms -/
def swN (sc : Scope) (ts : List Expr) (ex : Expr) : Bool := match ex with
  | .Tuple vs _ _ => !(ts.length == 2 || ts.length == 3) || vs.length != ts.length || vs.all (foldedForSure 8) ||
      (ts.filterMap fun | .Name id _ => if sc.names.lookup id == some .local then some id else none | _ => none).length != ts.length
  | _ => true
theorem filterMap_le {α β : Type} (f g : α → Option β) (h : ∀ x, (f x).isSome = true → (g x).isSome = true) : ∀ l : List α, (l.filterMap f).length ≤ (l.filterMap g).length
  | [] => Nat.le_refl _
  | x :: l => by
    rw [List.filterMap_cons, List.filterMap_cons]
    have ih := filterMap_le f g h l
    cases e : f x with
    | none => cases e2 : g x with
      | none => exact ih
      | some b => simp only [List.length_cons]; omega
    | some a =>
      have := h x (by rw [e]; rfl)
      obtain ⟨b, e2⟩ := Option.isSome_iff_exists.mp this
      rw [e2]
      simp only [List.length_cons]
      omega
theorem swN_ok {env : Env} {ts : List Expr} {ex : Expr} {k : Nat} {p : Pos} (h : swN env.scope ts ex = true) : swappedStores [.Tuple ts k p] ex env = pure none := by
  unfold swN at h
  split at h
  · rename_i vs k2 p2
    simp only [Bool.or_eq_true] at h
    unfold swappedStores
    dsimp only
    by_cases c1 : (!(ts.length == 2 || ts.length == 3) || vs.length != ts.length || env.blockKind != .function) = true
    · rw [if_pos c1]
    · rw [if_neg c1]
      simp only [Bool.or_eq_true, not_or] at c1
      split
      · rfl
      · split
        · rfl
        · rename_i c3
          rcases h with ((h | h) | h) | h
          · exact absurd h (by simpa using c1.1.1)
          · exact absurd h c1.1.2
          · rw [if_pos h]
          · exfalso
            apply c3
            simp only [Bool.or_eq_true]
            refine .inl ?_
            have le := filterMap_le (fun e : Expr => match e with | .Name id pos => if (env.kindOf id == some .local && pos.line == (ts.head?.map (·.pos.line)).getD 0) = true then some id else none | _ => none)
              (fun e : Expr => match e with | .Name id _ => if (env.scope.names.lookup id == some .local) = true then some id else none | _ => none) (fun e he => by
                cases e <;> first | (cases he; done) | skip
                rename_i id pos
                dsimp only at he ⊢
                split at he
                · rename_i q
                  simp only [Bool.and_eq_true] at q
                  have q1 : (List.lookup id env.scope.names == some NameKind.local) = true := q.1
                  rw [if_pos q1]
                  rfl
                · cases he) ts
            have ub : ∀ (f : Expr → Option Str) (l : List Expr), (l.filterMap f).length ≤ l.length := fun f l => List.length_filterMap_le f l
            simp only [bne_iff_ne, ne_eq] at h ⊢
            intro q
            have := ub (fun e : Expr => match e with | .Name id _ => if (env.scope.names.lookup id == some .local) = true then some id else none | _ => none) ts
            exact h (Nat.le_antisymm this (Nat.le_trans (Nat.le_of_eq q.symm) le))
  · rename_i hn
    cases ex <;> first | rfl | exact absurd rfl (hn _ _ _)
def isLc : E → Bool
  | .lc _ _ _ _ _ => true
  | _ => false
def isDc : E → Bool
  | .dc _ _ _ _ => true
  | _ => false
mutual
def ckS (L : Lnk) (c : Scp) : S → Stmt → Bool
  | .expr e, s => match s with
    | .Expr ex _ => notComp ex && ckE L c e ex
    | _ => false
  | .asg i e, s => match s with
    | .Assign [.Name x p] ex _ => tgB c i x && ckE L c e ex && (match ex with
      | .ListComp _ _ scope q => !(c.sc.names.lookup x == some .local && p.line == q.line && !(scope.names.any fun (n, k) => n == x && (k == .local || k == .cell))) || (decide (c.sc.names.lookup x = some .local) && isLc e)
      | .DictComp _ _ _ scope q => !(c.sc.names.lookup x == some .local && p.line == q.line && !(scope.names.any fun (n, k) => n == x && (k == .local || k == .cell))) || (decide (c.sc.names.lookup x = some .local) && isDc e)
      | _ => notComp ex)
    | _ => false
  | .asgT t e, s => match s with
    | .Assign [.Tuple ts k p] ex _ => ckG c t (.Tuple ts k p) && ckE L c e ex && swN c.sc ts ex
    | _ => false
  | .par is es, s => match s with
    | .Assign [.Tuple ts _ _] (.Tuple vs _ _) _ => ckEs L c es vs && !vs.all (foldedForSure 8) && !vs.all (constantsAlone 8) && (match is, ts with
      | [i, j], [.Name x px, .Name y py] => vs.length == 2 && decide (c.N[i]? = some x) && decide (c.N[j]? = some y) && decide (i ≠ j) && decide (x ≠ y) && decide (py.line = px.line) && decide (c.sc.names.lookup x = some .local) && decide (c.sc.names.lookup y = some .local)
      | [i, j, l], [.Name x px, .Name y py, .Name z pz] => vs.length == 3 && decide (c.N[i]? = some x) && decide (c.N[j]? = some y) && decide (c.N[l]? = some z) && decide (i ≠ j) && decide (i ≠ l) && decide (j ≠ l) && decide (x ≠ y) && decide (x ≠ z) && decide (y ≠ z) && decide (py.line = px.line) && decide (pz.line = px.line) &&
          decide (c.sc.names.lookup x = some .local) && decide (c.sc.names.lookup y = some .local) && decide (c.sc.names.lookup z = some .local)
      | _, _ => false)
    | _ => false
  | .setIx o i e, s => match s with
    | .Assign [.Subscript eo ei _] ex _ => ckE L c o eo && ckE L c i ei && ckE L c e ex && okx ei
    | _ => false
  | .ret e, s => match s with
    | .Return (some ex) _ => ckE L c e ex
    | _ => false
  | .retN, s => match s with
    | .Return none _ => true
    | _ => false
  | .ite q a b, s => match s with
    | .If eq ea eb _ => ckE L c q eq && ckSs L c a ea && ckSs L c b eb
    | _ => false
  | .for_ t i b, s => match s with
    | .For tg iter body [] _ => ckI L c i tg iter && okx iter && ckG c t tg && ckSs L c b body
    | _ => false
  | .while_ q b, s => match s with
    | .While eq body [] _ => ckE L c q eq && ckSs L c b body
    | _ => false
  | .brk, s => match s with
    | .Break _ => true
    | _ => false
  | .cont, s => match s with
    | .Continue _ => true
    | _ => false
  | .pass, s => match s with
    | .Pass _ => true
    | _ => false
  | .raise _, _ => false
  | .never, _ => true
def ckSs (L : Lnk) (c : Scp) : Ss → List Stmt → Bool
  | .nil, ss => ss.isEmpty
  | .cons s r, ss => match ss with
    | st :: ss => ckS L c s st && ckSs L c r ss
    | [] => false
end
section
variable {L : Lnk} {n : Nat}
theorem okx_star {e : Expr} (h : okx e = true) : starX e = false := by cases e <;> first | rfl | cases h
theorem x_asgLc {X : Cx} {W : WX} {i : Nat} {t : Tg} {it : Iter} {co : Oe} {r : Gs} {b : Bool} {x : Str} {elt : Expr} {gens : List Comprehension} {scope : Scope} {q p pos : Pos} (F : SFacts L n X W) (ht : tgB (Scp.of X) i x = true) (hl : X.env.scope.names.lookup x = some .local) (h : ckE L (Scp.of X) (.lc t it co r b) (.ListComp elt gens scope q) = true)
    (hs : swapsWith (.ListComp elt gens scope q) (some (.Name x p)) pos.line X.env = pure true) : PS X (.Assign [.Name x p] (.ListComp elt gens scope q) pos) (tS L n X W (.asg i (.lc t it co r b))) := by
  unfold ckE at h
  cases gens with
  | nil => cases h
  | cons g gens =>
    simp only [Bool.and_eq_true, decide_eq_true_eq] at h
    obtain ⟨⟨⟨⟨⟨⟨⟨h1, h2⟩, h3⟩, h4⟩, h5⟩, h6⟩, h7⟩, h8⟩ := h
    have G := F.toFacts
    refine sby (s_lcS G (tgB_ok ht).1 hl hs (s_I it G h1) h2 h3 h4 h5 (fun Y G e => s_G G.calm G.nd (by rw [e]; exact h6)) (fun Y G e => s_O co G (by rw [e]; exact h7)) (fun Y G hx e D => ?_) (ckGs_async h8)) fun Dn σ H h => q_asg h
    exact s_Gs' r G hx (by rw [e]; exact h8) _ _ _ 0 D rfl
theorem Es_len {c : Scp} : ∀ {es : Es} {exs : List Expr}, ckEs L c es exs = true → exs.all okx = true
  | .nil, exs, h => by
    simp only [ckEs, List.isEmpty_iff] at h
    subst h
    rfl
  | .cons e r, [], h => rfl
  | .cons e r, ex :: exs, h => by
    simp only [ckEs, Bool.and_eq_true] at h
    simp only [List.all_cons, Bool.and_eq_true]
    exact ⟨h.1.2, Es_len h.2⟩
mutual
theorem s_S : ∀ (s : S) {X : Cx} {W : WX} {t : Stmt}, SFacts L n X W → ckS L (Scp.of X) s t = true → PS X t (tS L n X W s)
  | .expr e, X, W, t, F, h => by
    unfold ckS at h
    split at h
    · simp only [Bool.and_eq_true] at h
      exact x_expr (s_E e F.toFacts h.2).pe h.1
    · cases h
  | .asg i e, X, W, t, F, h => by
    unfold ckS at h
    split at h
    · rename_i x p ex pos
      simp only [Bool.and_eq_true] at h
      obtain ⟨⟨h1, h2⟩, h3⟩ := h
      split at h3
      · rename_i elt gens scope q
        have hb := block_fn F.kind
        have hk : X.env.kindOf x = X.env.scope.names.lookup x := rfl
        have e1 : swapsWith (.ListComp elt gens scope q) (some (.Name x p)) pos.line X.env = pure ((Scp.of X).sc.names.lookup x == some .local && p.line == q.line && !(scope.names.any fun (n, k) => n == x && (k == .local || k == .cell))) := by
          show (pure (X.env.blockKind == .function && X.env.kindOf x == some .local && p.line == (Expr.ListComp elt gens scope q).pos.line && !(scope.names.any fun (n, k) => n == x && (k == .local || k == .cell))) : Sem Bool) = _
          rw [hb, hk]
          rfl
        by_cases c : ((Scp.of X).sc.names.lookup x == some .local && p.line == q.line && !(scope.names.any fun (n, k) => n == x && (k == .local || k == .cell))) = true
        · rw [c] at e1 h3
          have h3 : (decide ((Scp.of X).sc.names.lookup x = some .local) && isLc e) = true := h3
          rw [Bool.and_eq_true, decide_eq_true_eq] at h3
          obtain ⟨hl, hl2⟩ := h3
          cases e with
          | lc t it co r b => exact x_asgLc F h1 hl h2 e1
          | _ => cases hl2
        · rw [Bool.eq_false_iff.mpr c] at e1
          exact x_asg F h1 (s_E e F.toFacts h2).pe e1
      · rename_i kx vx gens scope q
        have hb := block_fn F.kind
        have hk : X.env.kindOf x = X.env.scope.names.lookup x := rfl
        have e1 : swapsWith (.DictComp kx vx gens scope q) (some (.Name x p)) pos.line X.env = pure ((Scp.of X).sc.names.lookup x == some .local && p.line == q.line && !(scope.names.any fun (n, k) => n == x && (k == .local || k == .cell))) := by
          show (pure (X.env.blockKind == .function && X.env.kindOf x == some .local && p.line == (Expr.DictComp kx vx gens scope q).pos.line && !(scope.names.any fun (n, k) => n == x && (k == .local || k == .cell))) : Sem Bool) = _
          rw [hb, hk]
          rfl
        by_cases c : ((Scp.of X).sc.names.lookup x == some .local && p.line == q.line && !(scope.names.any fun (n, k) => n == x && (k == .local || k == .cell))) = true
        · rw [c] at e1 h3
          have h3 : (decide ((Scp.of X).sc.names.lookup x = some .local) && isDc e) = true := h3
          rw [Bool.and_eq_true, decide_eq_true_eq] at h3
          obtain ⟨hl, he⟩ := h3
          cases e with
          | dc t it k v =>
            unfold ckE at h2
            split at h2
            · rename_i kx vx g scope q heq
              cases heq
              simp only [Bool.and_eq_true, decide_eq_true_eq, List.isEmpty_iff] at h2
              obtain ⟨⟨⟨⟨⟨⟨⟨⟨h1', h2⟩, h3⟩, h4⟩, h5⟩, h6⟩, h7⟩, h8⟩, h9⟩ := h2
              have G := F.toFacts
              exact sby (s_dcS (tgB_ok h1).1 hl e1 G (s_I it G h1') h2 h3 h4 h5 h6 (fun Y G e => s_G G.calm G.nd (by rw [e]; exact h7)) (fun Y G e => (s_E k G (by rw [e]; exact h8)).pe) (fun Y G e => (s_E v G (by rw [e]; exact h9)).pe)) fun Dn σ H h => q_asg h
            · cases h2
          | _ => cases he
        · rw [Bool.eq_false_iff.mpr c] at e1
          exact x_asg F h1 (s_E e F.toFacts h2).pe e1
      · exact x_asg F h1 (s_E e F.toFacts h2).pe (swaps_not h3)
    · cases h
  | .asgT t e, X, W, st, F, h => by
    unfold ckS at h
    split at h
    · rename_i ts k p ex pos
      simp only [Bool.and_eq_true] at h
      obtain ⟨⟨h1, h2⟩, h3⟩ := h
      exact x_asgT F h1 (s_E e F.toFacts h2).pe (by cases ex <;> rfl) (swN_ok h3)
    · cases h
  | .par is es, X, W, st, F, h => by
    unfold ckS at h
    split at h
    · rename_i ts k1 p1 vs k2 p2 pos
      simp only [Bool.and_eq_true, Bool.not_eq_true'] at h
      obtain ⟨⟨⟨h1, h2⟩, h3⟩, h4⟩ := h
      obtain ⟨q1, q2⟩ := s_Es es F.toFacts h1
      split at h4
      · rename_i i j x px y py
        simp only [Bool.and_eq_true, decide_eq_true_eq, beq_iff_eq] at h4
        obtain ⟨⟨⟨⟨⟨⟨⟨h4, h5⟩, h6⟩, h7⟩, h8⟩, h9⟩, h10⟩, h11⟩ := h4
        match vs, h4 with
        | [a, b], _ =>
          simp only [List.all_cons, List.all_nil, Bool.and_true, Bool.and_eq_true] at q2
          exact x_par2 F h5 h6 h7 h10 h11 q1 (sw2 F.kind h10 h11 h9 h8 (okx_star q2.1) (okx_star q2.2) h2 h3)
      · rename_i i j l x px y py z pz
        simp only [Bool.and_eq_true, decide_eq_true_eq, beq_iff_eq] at h4
        obtain ⟨⟨⟨⟨⟨⟨⟨⟨⟨⟨⟨⟨⟨⟨h4, h5⟩, h6⟩, h7⟩, h8⟩, h9⟩, h10⟩, h11⟩, h12⟩, h13⟩, h14⟩, h15⟩, h16⟩, h17⟩, h18⟩ := h4
        match vs, h4 with
        | [a, b, d], _ =>
          simp only [List.all_cons, List.all_nil, Bool.and_true, Bool.and_eq_true] at q2
          exact x_par3 F h5 h6 h7 h8 h9 h10 h16 h17 h18 q1 (sw3 F.kind h16 h17 h18 h14 h15 h11 h12 h13 (okx_star q2.1) (okx_star q2.2.1) (okx_star q2.2.2) h2 h3)
      · cases h4
    · cases h
  | .setIx o i e, X, W, st, F, h => by
    unfold ckS at h
    split at h
    · simp only [Bool.and_eq_true] at h
      obtain ⟨⟨⟨h1, h2⟩, h3⟩, h4⟩ := h
      exact x_setIx F (s_E o F.toFacts h1).pe (s_E i F.toFacts h2).pe (s_E e F.toFacts h3).pe h4
    · cases h
  | .ret e, X, W, st, F, h => by
    unfold ckS at h
    split at h
    · exact x_ret (s_E e F.toFacts h).pe
    · cases h
  | .retN, X, W, st, F, h => by
    unfold ckS at h
    split at h
    · exact x_retN
    · cases h
  | .ite c a b, X, W, st, F, h => by
    unfold ckS at h
    split at h
    · simp only [Bool.and_eq_true] at h
      obtain ⟨⟨h1, h2⟩, h3⟩ := h
      exact x_ite (s_E c F.toFacts h1).pt (s_Ss a F h2) (s_Ss b F h3)
    · cases h
  | .for_ t i b, X, W, st, F, h => by
    unfold ckS at h
    split at h
    · simp only [Bool.and_eq_true] at h
      obtain ⟨⟨⟨h1, h2⟩, h3⟩, h4⟩ := h
      exact x_for F (s_I i F.toFacts h1) h2 h3 (s_Ss b F h4)
    · cases h
  | .while_ c b, X, W, st, F, h => by
    unfold ckS at h
    split at h
    · simp only [Bool.and_eq_true] at h
      exact x_while F (s_E c F.toFacts h.1).pt (s_Ss b F h.2)
    · cases h
  | .brk, X, W, st, F, h => by
    unfold ckS at h
    split at h
    · exact x_brk
    · cases h
  | .cont, X, W, st, F, h => by
    unfold ckS at h
    split at h
    · exact x_cont
    · cases h
  | .pass, X, W, st, F, h => by
    unfold ckS at h
    split at h
    · exact x_pass
    · cases h
  | .raise _, X, W, st, F, h => by
    unfold ckS at h
    cases h
  | .never, X, W, st, F, h => x_never
theorem s_Ss : ∀ (s : Ss) {X : Cx} {W : WX} {t : List Stmt}, SFacts L n X W → ckSs L (Scp.of X) s t = true → PSs X t (tSs L n X W s)
  | .nil, X, W, t, F, h => by
    unfold ckSs at h
    simp only [List.isEmpty_iff] at h
    subst h
    exact x_nil
  | .cons s r, X, W, t, F, h => by
    unfold ckSs at h
    split at h
    · simp only [Bool.and_eq_true] at h
      exact x_cons (s_S s F h.1) (s_Ss r F h.2)
    · cases h
end
end
end MP
end

section
set_option Elab.async false
set_option linter.all false
set_option maxRecDepth 100000
/-! Defs: all keep what run says. -/
namespace MP
open PySem PySem.Spec PyProof.Rows L2
/-- how positional values are bound -/
def BindP (x : Str) (st : Stmt) (ps : List Str) : Prop := ∀ (kV doc pm : Value) (an : Option Addr) (cdv ct : Value) (us : List Value), us.length = ps.length →
  bindArgs (PySem.W.fnOf x x (defArgs st) (defBody st) (defScope st) .none kV doc pm an cdv ct) ⟨us, []⟩ = pure (ps.zip us)
/-- a def of the row: its names (the parameters first), its text, what it is in the small language -/
structure DefI where
  x : Str
  N : List Str
  ps : List Str
  st : Stmt
  F : Fn
  bp : BindP x st ps
  g : Str := x
def ckD (L : Lnk) (d : DefI) : Bool := C8.scC d.N d.ps (defScope d.st) && decide (d.F.np = d.ps.length) && decide (d.F.ns = d.N.length) && ckSs L ⟨d.N, defScope d.st, fun _ => true⟩ d.F.body (defBody d.st)
/-- what stands in the module -/
structure Mdl (L : Lnk) (K : PySem.W.Frag) (mg : Str → Option Value) : Prop where
  fn : ∀ f F, L.pr.fns f = some F → ∃ d : DefI, d.F = F ∧ L.fnm f = d.g ∧ ckD L d = true ∧ ∃ a fd, mg d.g = some (.ref a) ∧ FunD K d.x d.x (defArgs d.st) (defBody d.st) (defScope d.st) [] [] a fd
  gl : ∀ g d, L.pr.glob g = some d → ∃ v u, mg (L.gnm g) = some u ∧ RelV v u ∧ (∀ m H, At K m H v d) ∧ ∀ ds, d = .tup ds → ∃ a o, v = .ref a ∧ K.lookup a = some o ∧ o.cls = .type "tuple" ∧ o.dict = none
  blt : ∀ x ∈ (["len", "abs", "max", "min", "sum", "all", "any", "int", "bool", "str", "tuple", "list", "dict", "isinstance", "range", "enumerate", "zip", "sorted"] : List Str), mg x = none
/-- the promise of a def -/
def spF (L : Lnk) (K : PySem.W.Frag) (mg : Str → Option Value) (n f : Nat) : Sp := fun vs H Q E => ∃ m ds st, Ats K m H vs ds ∧ Rep K m H st ∧ (run L.pr n f ds st).sat K m H (fun d _ m' H' => ∀ v, At K m' H' v d → Q v H') (fun x _ _ H' => ∀ cls dd, ExnAt L mg x cls dd H' → E cls dd H')
section
variable {L : Lnk} {K : PySem.W.Frag} {mg : Str → Option Value} {P : Program} {w : World} {base : Heap}
theorem envR_start {m : M} {H : Hp} {vs : List V} {ds : List D} {N : List Str} {F : Fn} (h : Ats K m H vs ds) (hl : F.ns = N.length) (hp : ds.length ≤ N.length) : EnvR K m H (L2.start N vs) (MP.start F ds) := by
  have e := h.length
  refine ⟨?_, fun i d q => ?_⟩
  · unfold MP.start L2.start
    simp [e, hl]
  · unfold MP.start at q
    unfold L2.start
    by_cases hi : i < ds.length
    · rw [List.getElem?_append_left (by simpa using hi), List.getElem?_map] at q
      cases hd : ds[i]? with
      | none => rw [hd] at q; cases q
      | some d' =>
        rw [hd] at q
        cases q
        obtain ⟨v, e1, a⟩ := h.get hd
        refine ⟨v, ?_, a⟩
        rw [List.getElem?_append_left (by rw [List.length_map, e]; exact hi), List.getElem?_map, e1]
        rfl
    · rw [List.getElem?_append_right (by simpa using hi), List.getElem?_replicate] at q
      split at q <;> cases q
theorem sat_out {r : SR} {m : M} {H : Hp} {Q : VK} {X : Cx} {W : WX} (hK : X.K = K) (h : r.out.sat K m H (fun d _ m' H' => ∀ v, At K m' H' v d → Q v H') (fun x _ _ H' => ∀ σ cls dd, ExnAt L X.mg x cls dd H' → W cls dd σ H')) : satS L X W r m H { nx := fun _ H' => Q .non H', rt := Q } := by
  subst hK
  cases r with
  | nx ρ st => exact fun σ m' H' x rp _ => h m' H' x rp .non .non
  | bk _ _ => exact h.elim
  | ct _ _ => exact h.elim
  | ret d st => exact fun m' H' v x rp a => h m' H' x rp v a
  | ex x ρ st => exact fun σ m' H' y rp _ cls dd q => h m' H' y rp σ cls dd q
  | no => exact h.elim
/-- a def at any depth -/
theorem fnokAt (M : Mdl L K mg) : ∀ n f (d : DefI) (a : Addr) (fd : FuncData), L.pr.fns f = some d.F → ckD L d = true → FunD K d.x d.x (defArgs d.st) (defBody d.st) (defScope d.st) [] [] a fd → FnOk P w K mg base (L2.CX P w) n a fd d.ps (spF L K mg n f) := by
  intro n
  induction n with
  | zero =>
    intro f d a fd _ _ _
    exact ⟨fun vs H Q E ⟨_, _, _, _, _, q⟩ => q.elim, fun A outer s H args us vs Q E _ _ _ _ ⟨_, _, _, _, _, q⟩ => q.elim⟩
  | succ n ih =>
    intro f d a fd e h2 h4
    unfold ckD at h2
    simp only [Bool.and_eq_true, decide_eq_true_eq] at h2
    obtain ⟨⟨⟨c1, c3⟩, c4⟩, c5⟩ := h2
    have S := C8.fnScope_by c1
    have pre := S.pre
    have hlen : d.ps.length ≤ d.N.length := by
      have := congrArg List.length pre
      rw [List.length_take] at this
      omega
    refine FunD.ok h4 S (fun vs H Q E ⟨m, ds, st, hv, rp, q⟩ => ?_) fun cdv A outer s H vs Q E hr ⟨m, ds, st, hv, rp, q⟩ => ?_
    · simp only [run, e] at q
      rw [hv.length]
      split at q
      · rename_i z
        rw [z, c3]
      · exact q.elim
    · simp only [run, e] at q
      split at q
      · rename_i z
        let X := cxOf (L2.CX P w) P w K mg base d.N d.x (defScope d.st) a cdv A outer s H E
        let W : WX := fun cls dd _ H => E cls dd H
        have fx : Facts L n X W := ⟨rfl, hr, S.nd, fun f F e => by
          obtain ⟨d', rfl, h1, h2, a', fd', h3, h4⟩ := M.fn f F e
          exact ⟨a', fd', d'.ps, by rw [h1]; exact h3, h4.kp, FunD.bindsN h4 d'.bp, ih f d' a' fd' e h2 h4⟩, M.gl, M.blt, takes_of rfl rfl rfl rfl⟩
        have sx : SFacts L n X W := ⟨fx, S.kind, passes_of (K := fun e s'' => L2.CX P w outer H s E e s'') rfl⟩
        refine ⟨_, s_Ss d.F.body (X := X) sx c5, m, MP.start d.F ds, st, envR_start hv c4 (by rw [z, c3]; exact hlen), rp, sat_out (X := X) rfl ?_⟩
        exact q.monoX (fun _ _ _ _ _ _ h => h) fun _ _ _ _ _ _ h σ cls dd k => h cls dd k
      · exact q.elim
end
end MP
end

section
set_option Elab.async false
set_option linter.all false
set_option maxRecDepth 100000
/-! A law, linked: what the head tells of the module, and the end. -/
namespace MP
open PySem PySem.Spec PyProof.Rows L2
mutual
def atK (K : PySem.W.Frag) : D → Value → Bool
  | .non, u => match u with
    | .none => true
    | _ => false
  | .bl b, u => match u with
    | .bool c => decide (b = c)
    | _ => false
  | .int i, u => match u with
    | .int j _ => decide (i = j)
    | _ => false
  | .str t, u => match u with
    | .str x _ => decide (x = S0 t)
    | _ => false
  | .tup ds, u => match u with
    | .ref a => match K.lookup a with
      | some ⟨.type c, none, .seq its _, _⟩ => decide (c = "tuple") && decide (its.size ≤ sizeLine) && atKs K ds its.toList
      | _ => false
    | _ => false
  | .lst _, _ => false
  | .rol _, _ => false
  | .loc _, _ => false
def atKs (K : PySem.W.Frag) : List D → List Value → Bool
  | [], us => us.isEmpty
  | d :: ds, us => match us with
    | u :: us => atK K d u && atKs K ds us
    | [] => false
end
mutual
theorem atK_ok {K : PySem.W.Frag} : ∀ {d : D} {u : Value}, atK K d u = true → ∃ v, RelV v u ∧ (∀ m H, At K m H v d) ∧ ∀ ds, d = .tup ds → ∃ a o, v = .ref a ∧ K.lookup a = some o ∧ o.cls = .type "tuple" ∧ o.dict = none
  | .non, u, h => by
    unfold atK at h
    split at h
    · exact ⟨.non, rfl, fun _ _ => .non, fun _ => D.noConfusion⟩
    · cases h
  | .bl b, u, h => by
    unfold atK at h
    split at h
    · cases of_decide_eq_true h
      exact ⟨.bl b, rfl, fun _ _ => .bl b, fun _ => D.noConfusion⟩
    · cases h
  | .int i, u, h => by
    unfold atK at h
    split at h
    · cases of_decide_eq_true h
      exact ⟨.int i, ⟨_, rfl⟩, fun _ _ => .int i, fun _ => D.noConfusion⟩
    · cases h
  | .str t, u, h => by
    unfold atK at h
    split at h
    · have e := of_decide_eq_true h
      subst e
      exact ⟨.str (S0 t), ⟨_, rfl⟩, fun _ _ => .str t, fun _ => D.noConfusion⟩
    · cases h
  | .tup ds, u, h => by
    unfold atK at h
    split at h
    · split at h
      · rename_i a _ c its n sl q
        simp only [Bool.and_eq_true, decide_eq_true_eq] at h
        obtain ⟨⟨rfl, h2⟩, h3⟩ := h
        obtain ⟨vs, r, hs⟩ := atKs_ok h3
        exact ⟨.ref a, rfl, fun m H => .tup (.inr ⟨_, its, n, q, rfl, rfl, h2, r⟩) (hs m H), fun _ _ => ⟨a, _, rfl, q, rfl, rfl⟩⟩
      · cases h
    · cases h
  | .lst _, _, h => by unfold atK at h; cases h
  | .rol _, _, h => by unfold atK at h; cases h
  | .loc _, _, h => by unfold atK at h; cases h
theorem atKs_ok {K : PySem.W.Frag} : ∀ {ds : List D} {us : List Value}, atKs K ds us = true → ∃ vs, Vals vs us ∧ ∀ m H, Ats K m H vs ds
  | [], us, h => by
    unfold atKs at h
    simp only [List.isEmpty_iff] at h
    subst h
    exact ⟨[], .nil, fun _ _ => .nil⟩
  | d :: ds, [], h => by unfold atKs at h; cases h
  | d :: ds, u :: us, h => by
    unfold atKs at h
    simp only [Bool.and_eq_true] at h
    obtain ⟨v, r, hv, _⟩ := atK_ok h.1
    obtain ⟨vs, rs, hs⟩ := atKs_ok h.2
    exact ⟨v :: vs, .cons r rs, fun m H => .cons (hv m H) (hs m H)⟩
end
def gB (K : PySem.W.Frag) (x : Str) (d : D) : Bool := match PySem.W.nsIn K mainGlobals x with
  | some (some u) => atK K d u
  | _ => false
/-- the names of the built-ins -/
def bltNames : List Str := ["len", "abs", "max", "min", "sum", "all", "any", "int", "bool", "str", "tuple", "list", "dict", "isinstance", "range", "enumerate", "zip", "sorted"]
abbrev Defs : Type := List (Nat × DefI)
abbrev Globs : Type := List (Nat × Str × D)
def prOf (defs : Defs) (globs : Globs) : Pr := ⟨fun f => (defs.lookup f).map (·.F), fun g => (globs.lookup g).map (·.2), bigW⟩
def lnkOf (defs : Defs) (globs : Globs) : Lnk := ⟨prOf defs globs, fun f => ((defs.lookup f).map (·.g)).getD Str.empty, fun g => ((globs.lookup g).map (·.1)).getD Str.empty, fun _ => Str.empty⟩
def fas (defs : Defs) : List He.Fa := defs.map (fun p => .glo p.2.g) ++ bltNames.map .free
def fns (defs : Defs) : List He.DefD := defs.map fun p => ⟨(p.2.g, none), p.2.x, p.2.x, defArgs p.2.st, defBody p.2.st, defScope p.2.st, [], []⟩
def exs (globs : Globs) (K : PySem.W.Frag) : Bool := globs.all fun g => gB K g.2.1 g.2.2
abbrev hk (defs : Defs) (globs : Globs) : PySem.W.Hook := He.hookX 4 (fas defs) (fns defs) [] [] (exs globs)
def ob (defs : Defs) (globs : Globs) (s : PySem.W.SharedT) : He.AlX := He.obsX 4 (fas defs) (fns defs) [] [] (exs globs) (HandSHeadRun.getT s)
theorem ob_eq (defs : Defs) (globs : Globs) (s : PySem.W.SharedT) : ob defs globs s = (hk defs globs).obs s.abs := He.obsX_eq (HandSHeadRun.getT_eq s)
theorem lookup_mem {α : Type} : ∀ {l : List (Nat × α)} {k : Nat} {v : α}, l.lookup k = some v → (k, v) ∈ l
  | [], _, _, h => by simp at h
  | (a, b) :: l, k, v, h => by
    rw [List.lookup_cons] at h
    split at h
    · rename_i e
      have e := beq_iff_eq.mp e
      cases h
      subst e
      exact List.mem_cons_self ..
    · exact List.mem_cons_of_mem _ (lookup_mem h)
theorem lookup_map {α β : Type} (g : α → β) : ∀ (l : List (Nat × α)) (k : Nat), (l.map fun p => (p.1, g p.2)).lookup k = (l.lookup k).map g
  | [], _ => rfl
  | (a, b) :: l, k => by
    rw [List.map_cons, List.lookup_cons, List.lookup_cons]
    cases k == a with
    | true => rfl
    | false => exact lookup_map g l k
theorem mdl {defs : Defs} {globs : Globs} {w : World} {K : PySem.W.Frag} {h : Heap} {mg : Str → Option Value} (ck : defs.all (fun p => ckD (lnkOf defs globs) p.2) = true) (X : K.In h) (G : h.Ns mainGlobals mg) (c : He.SaysX (fas defs) (fns defs) [] [] (exs globs) w h K) : Mdl (lnkOf defs globs) K mg := by
  have cd : He.SaysD (fas defs) (fns defs) K := c.t.d
  refine ⟨fun f F e => ?_, fun g d e => ?_, fun x hx => ?_⟩
  · have e : (defs.lookup f).map (·.F) = some F := e
    obtain ⟨d, e1, e2⟩ := Option.map_eq_some_iff.mp e
    have hm := lookup_mem e1
    have hck : ckD (lnkOf defs globs) d = true := List.all_eq_true.mp ck (f, d) hm
    refine ⟨d, e2, ?_, hck, ?_⟩
    · show ((defs.lookup f).map (·.g)).getD _ = d.g
      rw [e1]
      rfl
    · obtain ⟨fd, F⟩ := cd.defs (d := ⟨(d.g, none), d.x, d.x, defArgs d.st, defBody d.st, defScope d.st, [], []⟩) (List.mem_map.mpr ⟨_, hm, rfl⟩)
      exact ⟨_, fd, He.glo_ok X G (cd.facts (f := .glo d.g) (List.mem_append_left _ (List.mem_map.mpr ⟨_, hm, rfl⟩))), F⟩
  · have e : (globs.lookup g).map (·.2) = some d := e
    obtain ⟨q, e1, e2⟩ := Option.map_eq_some_iff.mp e
    have hm := lookup_mem e1
    have hb : gB K q.1 q.2 = true := List.all_eq_true.mp c.more _ hm
    have hn : (lnkOf defs globs).gnm g = q.1 := by
      show ((globs.lookup g).map (·.1)).getD _ = q.1
      rw [e1]
      rfl
    rw [hn]
    rw [e2] at hb
    unfold gB at hb
    split at hb
    · rename_i u eu
      obtain ⟨v, r, a, t⟩ := atK_ok hb
      exact ⟨v, u, PySem.W.mg_of X G eu, r, a, t⟩
    · cases hb
  · exact He.free_ok X G (cd.facts (f := .free x) (List.mem_append_right _ (List.mem_map.mpr ⟨x, hx, rfl⟩)))
/-- of an exception: only what is wanted of it -/
def CXW : CXT := fun _ _ _ E _ _ => ∃ cls d H', E cls d H'
theorem FnOk.weak {P : Program} {w : World} {K : PySem.W.Frag} {mg : Str → Option Value} {base : Heap} {k : Nat} {f : Addr} {fd : FuncData} {ps : List Str} {sp : Sp} (F : FnOk P w K mg base (L2.CX P w) k f fd ps sp) : FnOk P w K mg base CXW k f fd ps sp :=
  ⟨F.len, fun A outer s H args us vs Q E hr he hb hv hs => codeAny_mono (F.run A outer s H args us vs Q E hr he hb hv hs) fun r s' q => by
    cases r with
    | ok fl => cases fl <;> exact q
    | error e =>
      obtain ⟨_, _, H', cls, d, _, _, _, _, _, _, _, z⟩ := q
      exact ⟨cls, d, H', z⟩⟩
theorem law_walk {l : PySem.W.OpenLaw} {q : Program} {loose : List Str} {XP : (Str → Option Value) → Heap → Prop} {d : DefRec} {defs : Defs} {globs : Globs} (n law : Nat) (di : DefI) (hn : l.most = some 63) (hdf : d.params.defaults = []) (hr : Room n callerA)
    (hl : defs.lookup law = some di) (hx : di.g = d.name) (hps : di.ps = [("script" : Str)]) (ck : defs.all (fun p => ckD (lnkOf defs globs) p.2) = true)
    (main : ∀ ns : List Int, ns.length ≤ 63 → ∃ st, run (prOf defs globs) n law [.rol (ns.map .int)] [] = .ok (.bl true) st) :
    PySem.W.WalkO q loose XP (hk defs globs).says l.row.toRowW d [] (fun f vs => PySem.call f vs) := by
  refine L2.walk_ofE (l := l) (n := 63) (k := n) (x := "script") (CX := CXW) hn (by decide) hdf hr (fun w mg fa h Y G hmg => ?_) fun H s e s' z => ?_
  · obtain ⟨K, KX, c⟩ := Y
    have M := mdl ck KX G c
    have cd : He.SaysD (fas defs) (fns defs) K := c.t.d
    have hm := lookup_mem hl
    have hck : ckD (lnkOf defs globs) di = true := List.all_eq_true.mp ck (law, di) hm
    obtain ⟨fd, F⟩ := cd.defs (d := ⟨(di.g, none), di.x, di.x, defArgs di.st, defBody di.st, defScope di.st, [], []⟩) (List.mem_map.mpr ⟨_, hm, rfl⟩)
    have e1 := He.glo_ok KX G (cd.facts (f := .glo di.g) (List.mem_append_left _ (List.mem_map.mpr ⟨_, hm, rfl⟩)))
    have e2 : fa = He.ga K di.g := by
      rw [hx] at e1 ⊢
      exact Value.ref.inj (Option.some.inj (hmg.symm.trans e1))
    subst e2
    have ef : (lnkOf defs globs).pr.fns law = some di.F := by
      show (defs.lookup law).map (·.F) = _
      rw [hl]
      rfl
    refine ⟨K, fd, spF (lnkOf defs globs) K mg n law, KX, fun s u => ?_, fun H a ns hlen _ hS => ?_, fun base hK hN => ?_⟩
    · have b := FunD.bindsA F di.bp s [u] (by rw [hps]; rfl)
      rw [hps] at b
      exact b
    · obtain ⟨st, e⟩ := main ns hlen
      refine ⟨⟨[], []⟩, [.rol (ns.map .int)], [], .cons (.rol ?_ (.ofInts ns)) .nil, ⟨rfl, List.nodup_nil, fun n a c h => by simp at h, fun a h => by cases h⟩, ?_⟩
      · rcases hS with (h1 | ⟨o, h1⟩) | h1
        · exact .inl ⟨h1, by simp, by simp⟩
        · exact .inr (.inl ⟨o, h1, by simp⟩)
        · exact .inr (.inr h1)
      · show (run (prOf defs globs) n law [.rol (ns.map .int)] []).sat _ _ _ _ _
        rw [e]
        intro m' H' x rp v hv
        cases hv
        rfl
    · have := fnokAt (P := l.prog) (w := w) (base := base) M n law di _ fd ef hck F
      rw [hps] at this
      exact MP.FnOk.weak this
  · obtain ⟨_, _, _, z⟩ := z
    exact z
end MP
end

section
set_option Elab.async false
set_option linter.all false
/-! Running the small language: by rows. -/
namespace MP
@[simp] theorem ty_int_int : (Ty.int == Ty.int) = true := rfl
@[simp] theorem ty_int_bool : (Ty.int == Ty.bool) = false := rfl
@[simp] theorem ty_int_str : (Ty.int == Ty.str) = false := rfl
@[simp] theorem ty_int_tuple : (Ty.int == Ty.tuple) = false := rfl
@[simp] theorem ty_int_list : (Ty.int == Ty.list) = false := rfl
@[simp] theorem ty_bool_int : (Ty.bool == Ty.int) = false := rfl
@[simp] theorem ty_bool_bool : (Ty.bool == Ty.bool) = true := rfl
@[simp] theorem ty_bool_str : (Ty.bool == Ty.str) = false := rfl
@[simp] theorem ty_bool_tuple : (Ty.bool == Ty.tuple) = false := rfl
@[simp] theorem ty_bool_list : (Ty.bool == Ty.list) = false := rfl
@[simp] theorem ty_str_int : (Ty.str == Ty.int) = false := rfl
@[simp] theorem ty_str_bool : (Ty.str == Ty.bool) = false := rfl
@[simp] theorem ty_str_str : (Ty.str == Ty.str) = true := rfl
@[simp] theorem ty_str_tuple : (Ty.str == Ty.tuple) = false := rfl
@[simp] theorem ty_str_list : (Ty.str == Ty.list) = false := rfl
@[simp] theorem ty_tuple_int : (Ty.tuple == Ty.int) = false := rfl
@[simp] theorem ty_tuple_bool : (Ty.tuple == Ty.bool) = false := rfl
@[simp] theorem ty_tuple_str : (Ty.tuple == Ty.str) = false := rfl
@[simp] theorem ty_tuple_tuple : (Ty.tuple == Ty.tuple) = true := rfl
@[simp] theorem ty_tuple_list : (Ty.tuple == Ty.list) = false := rfl
@[simp] theorem ty_list_int : (Ty.list == Ty.int) = false := rfl
@[simp] theorem ty_list_bool : (Ty.list == Ty.bool) = false := rfl
@[simp] theorem ty_list_str : (Ty.list == Ty.str) = false := rfl
@[simp] theorem ty_list_tuple : (Ty.list == Ty.tuple) = false := rfl
@[simp] theorem ty_list_list : (Ty.list == Ty.list) = true := rfl
section
variable {α β : Type} {c : Prop} [Decidable c]
@[simp] theorem ite_ok (a b : α) (st : Store) : (if c then R.ok a st else R.ok b st) = R.ok (if c then a else b) st := by split <;> rfl
@[simp] theorem ite_ret (a b : D) (st : Store) : (if c then SR.ret a st else SR.ret b st) = SR.ret (if c then a else b) st := by split <;> rfl
@[simp] theorem ite_bl (a b : Bool) : (if c then D.bl a else D.bl b) = D.bl (if c then a else b) := by split <;> rfl
@[simp] theorem ite_int (a b : Int) : (if c then D.int a else D.int b) = D.int (if c then a else b) := by split <;> rfl
@[simp] theorem ite_some (a b : α) : (if c then some a else some b) = some (if c then a else b) := by split <;> rfl
@[simp] theorem ite_bd (a b : R α) (f : α → Store → R β) : (if c then a else b).bd f = if c then a.bd f else b.bd f := by split <;> rfl
@[simp] theorem ite_oks (a b : R α) (f : α → Store → R β) : (if c then a else b).oks f = if c then a.oks f else b.oks f := by split <;> rfl
@[simp] theorem ite_st (a b : R α) (ρ : Rho) (f : α → Store → SR) : (if c then a else b).st ρ f = if c then a.st ρ f else b.st ρ f := by split <;> rfl
@[simp] theorem ite_sq (a b : SR) (f : Rho → Store → SR) : (if c then a else b).sq f = if c then a.sq f else b.sq f := by split <;> rfl
@[simp] theorem ite_turn (a b : SR) (f : Rho → Store → SR) : (if c then a else b).turn f = if c then a.turn f else b.turn f := by split <;> rfl
@[simp] theorem ite_out (a b : SR) : (if c then a else b).out = if c then a.out else b.out := by split <;> rfl
end
theorem run_P {Pr : Pr} {n f : Nat} {F : Fn} {ds : List D} {st : Store} (h : Pr.fns f = some F) (hl : ds.length = F.np) : run Pr (n + 1) f ds st = (evSs ⟨run Pr n, Pr.glob, Pr.W⟩ F.body (start F ds) st).out := by
  simp only [run, h, hl, if_true]
@[simp] theorem eqb_non_non   : D.eqb (.non : D) (.non : D) = true := by simp only [D.eqb]
@[simp] theorem eqb_non_bl  (b : Bool) : D.eqb (.non : D) (.bl b : D) = false := by simp only [D.eqb]
@[simp] theorem eqb_non_int  (b : Int) : D.eqb (.non : D) (.int b : D) = false := by simp only [D.eqb]
@[simp] theorem eqb_non_str  (b : T) : D.eqb (.non : D) (.str b : D) = false := by simp only [D.eqb]
@[simp] theorem eqb_non_tup  (b : List D) : D.eqb (.non : D) (.tup b : D) = false := by simp only [D.eqb]
@[simp] theorem eqb_non_lst  (b : List D) : D.eqb (.non : D) (.lst b : D) = false := by simp only [D.eqb]
@[simp] theorem eqb_bl_non (a : Bool)  : D.eqb (.bl a : D) (.non : D) = false := by simp only [D.eqb]
@[simp] theorem eqb_bl_bl (a : Bool) (b : Bool) : D.eqb (.bl a : D) (.bl b : D) = (a == b) := by simp only [D.eqb]
@[simp] theorem eqb_bl_int (a : Bool) (b : Int) : D.eqb (.bl a : D) (.int b : D) = ((if a then 1 else 0) == b) := by simp only [D.eqb]
@[simp] theorem eqb_bl_str (a : Bool) (b : T) : D.eqb (.bl a : D) (.str b : D) = false := by simp only [D.eqb]
@[simp] theorem eqb_bl_tup (a : Bool) (b : List D) : D.eqb (.bl a : D) (.tup b : D) = false := by simp only [D.eqb]
@[simp] theorem eqb_bl_lst (a : Bool) (b : List D) : D.eqb (.bl a : D) (.lst b : D) = false := by simp only [D.eqb]
@[simp] theorem eqb_int_non (a : Int)  : D.eqb (.int a : D) (.non : D) = false := by simp only [D.eqb]
@[simp] theorem eqb_int_bl (a : Int) (b : Bool) : D.eqb (.int a : D) (.bl b : D) = (a == (if b then 1 else 0)) := by simp only [D.eqb]
@[simp] theorem eqb_int_int (a : Int) (b : Int) : D.eqb (.int a : D) (.int b : D) = (a == b) := by simp only [D.eqb]
@[simp] theorem eqb_int_str (a : Int) (b : T) : D.eqb (.int a : D) (.str b : D) = false := by simp only [D.eqb]
@[simp] theorem eqb_int_tup (a : Int) (b : List D) : D.eqb (.int a : D) (.tup b : D) = false := by simp only [D.eqb]
@[simp] theorem eqb_int_lst (a : Int) (b : List D) : D.eqb (.int a : D) (.lst b : D) = false := by simp only [D.eqb]
@[simp] theorem eqb_str_non (a : T)  : D.eqb (.str a : D) (.non : D) = false := by simp only [D.eqb]
@[simp] theorem eqb_str_bl (a : T) (b : Bool) : D.eqb (.str a : D) (.bl b : D) = false := by simp only [D.eqb]
@[simp] theorem eqb_str_int (a : T) (b : Int) : D.eqb (.str a : D) (.int b : D) = false := by simp only [D.eqb]
@[simp] theorem eqb_str_str (a : T) (b : T) : D.eqb (.str a : D) (.str b : D) = (a == b) := by simp only [D.eqb]
@[simp] theorem eqb_str_tup (a : T) (b : List D) : D.eqb (.str a : D) (.tup b : D) = false := by simp only [D.eqb]
@[simp] theorem eqb_str_lst (a : T) (b : List D) : D.eqb (.str a : D) (.lst b : D) = false := by simp only [D.eqb]
@[simp] theorem eqb_tup_non (a : List D)  : D.eqb (.tup a : D) (.non : D) = false := by simp only [D.eqb]
@[simp] theorem eqb_tup_bl (a : List D) (b : Bool) : D.eqb (.tup a : D) (.bl b : D) = false := by simp only [D.eqb]
@[simp] theorem eqb_tup_int (a : List D) (b : Int) : D.eqb (.tup a : D) (.int b : D) = false := by simp only [D.eqb]
@[simp] theorem eqb_tup_str (a : List D) (b : T) : D.eqb (.tup a : D) (.str b : D) = false := by simp only [D.eqb]
@[simp] theorem eqb_tup_tup (a : List D) (b : List D) : D.eqb (.tup a : D) (.tup b : D) = D.eqbs a b := by simp only [D.eqb]
@[simp] theorem eqb_tup_lst (a : List D) (b : List D) : D.eqb (.tup a : D) (.lst b : D) = false := by simp only [D.eqb]
@[simp] theorem eqb_lst_non (a : List D)  : D.eqb (.lst a : D) (.non : D) = false := by simp only [D.eqb]
@[simp] theorem eqb_lst_bl (a : List D) (b : Bool) : D.eqb (.lst a : D) (.bl b : D) = false := by simp only [D.eqb]
@[simp] theorem eqb_lst_int (a : List D) (b : Int) : D.eqb (.lst a : D) (.int b : D) = false := by simp only [D.eqb]
@[simp] theorem eqb_lst_str (a : List D) (b : T) : D.eqb (.lst a : D) (.str b : D) = false := by simp only [D.eqb]
@[simp] theorem eqb_lst_tup (a : List D) (b : List D) : D.eqb (.lst a : D) (.tup b : D) = false := by simp only [D.eqb]
@[simp] theorem eqb_lst_lst (a : List D) (b : List D) : D.eqb (.lst a : D) (.lst b : D) = D.eqbs a b := by simp only [D.eqb]
@[simp] theorem eqbs_nil : D.eqbs [] [] = true := by simp only [D.eqbs]
@[simp] theorem eqbs_cons (x y : D) (xs ys : List D) : D.eqbs (x :: xs) (y :: ys) = (x.eqb y && D.eqbs xs ys) := by simp only [D.eqbs]
@[simp] theorem eqbs_nc (y : D) (ys : List D) : D.eqbs [] (y :: ys) = false := by simp only [D.eqbs]
@[simp] theorem eqbs_cn (x : D) (xs : List D) : D.eqbs (x :: xs) [] = false := by simp only [D.eqbs]
/-! ### values, by their form -/
def Flats (ds : List D) : Prop := ds.all D.flat = true
def Pls (ds : List D) : Prop := D.okds ds 60 = true
def Fl (d : D) : Prop := d.flat = true
@[simp] theorem Fl.non : Fl .non := rfl
@[simp] theorem Fl.bl (b : Bool) : Fl (.bl b) := rfl
@[simp] theorem Fl.int (i : Int) : Fl (.int i) := rfl
@[simp] theorem Fl.str (s : T) : Fl (.str s) := rfl
/-- plain: to be compared and looked at -/
def Pl (d : D) : Prop := d.okd 60 = true
section
variable {st : Store}
@[simp] theorem truth_non : truth st .non = some false := rfl
@[simp] theorem truth_bl (b : Bool) : truth st (.bl b) = some b := rfl
@[simp] theorem truth_int (i : Int) : truth st (.int i) = some (i != 0) := rfl
theorem truth_str (s : T) (h : s.length ≤ SZ) : truth st (.str s) = some (!s.isEmpty) := by simp only [truth, h, if_true]
@[simp] theorem truth_tup (ds : List D) : truth st (.tup ds) = some (!ds.isEmpty) := rfl
@[simp] theorem truth_lst (ds : List D) : truth st (.lst ds) = some (!ds.isEmpty) := rfl
theorem truth_loc {k : Nat} {ds : List D} (h : st[k]? = some (.lst ds)) : truth st (.loc k) = some (!ds.isEmpty) := by simp only [truth, h]
@[simp] theorem items_tup (ds : List D) : items st (.tup ds) = some ds := rfl
@[simp] theorem items_lst (ds : List D) : items st (.lst ds) = some ds := rfl
@[simp] theorem items_rol (ds : List D) : items st (.rol ds) = some ds := rfl
theorem items_loc {k : Nat} {ds : List D} (h : st[k]? = some (.lst ds)) : items st (.loc k) = some ds := by simp only [items, h]
@[simp] theorem isList_tup' (ds : List D) : isList (.tup ds) = false := rfl
@[simp] theorem isList_lst (ds : List D) : isList (.lst ds) = true := rfl
@[simp] theorem isList_loc (k : Nat) : isList (.loc k) = true := rfl
@[simp] theorem isTup_tup (ds : List D) : isTup (.tup ds) = true := rfl
@[simp] theorem isTup_lst (ds : List D) : isTup (.lst ds) = false := rfl
@[simp] theorem isTup_loc (k : Nat) : isTup (.loc k) = false := rfl
@[simp] theorem lItems_lst (ds : List D) : lItems st (.lst ds) = some ds := rfl
theorem lItems_loc {k : Nat} {ds : List D} (h : st[k]? = some (.lst ds)) : lItems st (.loc k) = some ds := by simp only [lItems, items, h, isList_loc, if_true]
@[simp] theorem bin_addI (i j : Int) : evBin .add (.int i) (.int j) st = some (.int (i + j)) := rfl
theorem bin_addS (s t : T) (h : s.length + t.length ≤ SZ) : evBin .add (.str s) (.str t) st = some (.str (s ++ t)) := by simp only [evBin, h, if_true]
theorem bin_addT (s t : List D) (h : s.length + t.length ≤ SZ) : evBin .add (.tup s) (.tup t) st = some (.tup (s ++ t)) := by simp only [evBin, h, if_true]
theorem bin_addL (s t : List D) (h : s.length + t.length ≤ SZ) : evBin .add (.lst s) (.lst t) st = some (.lst (s ++ t)) := by simp only [evBin, catl, items, h, if_true]
theorem bin_addCL {k : Nat} {ds : List D} (t : List D) (hk : st[k]? = some (.lst ds)) (h : ds.length + t.length ≤ SZ) : evBin .add (.loc k) (.lst t) st = some (.lst (ds ++ t)) := by simp only [evBin, catl, items, hk, h, if_true]
theorem bin_addLC {k : Nat} {ds : List D} (t : List D) (hk : st[k]? = some (.lst ds)) (h : t.length + ds.length ≤ SZ) : evBin .add (.lst t) (.loc k) st = some (.lst (t ++ ds)) := by simp only [evBin, catl, items, hk, h, if_true]
@[simp] theorem bin_subI (i j : Int) : evBin .sub (.int i) (.int j) st = some (.int (i - j)) := rfl
theorem bin_mulI (i j : Int) (h : mulOk i j = true) : evBin .mul (.int i) (.int j) st = some (.int (i * j)) := by simp only [evBin, h, if_true]
theorem bin_modI (i j : Int) (h : 0 < j) : evBin .mod (.int i) (.int j) st = some (.int (i % j)) := by simp only [evBin, h, if_true]
theorem bin_divI (i j : Int) (h : 0 < j) (h2 : j.natAbs.log2 < 9000) : evBin .fdiv (.int i) (.int j) st = some (.int (i / j)) := by simp only [evBin, h, h2, and_self, if_true]
theorem bin_powI (i j : Int) (h : 0 ≤ j) (h1 : j ≤ 1000) (h2 : i.natAbs < 1000) : evBin .pow (.int i) (.int j) st = some (.int (i ^ j.toNat)) := by simp only [evBin, h, h1, h2, and_self, if_true]
theorem okd_deref {d : D} {n : Nat} (h : d.okd n = true) : deref st d = d := by
  cases d <;> first | rfl | skip
  cases n <;> simp [D.okd] at h
theorem cmp_eq {a b : D} (ha : a.okd 60 = true) (hb : b.okd 60 = true) : evCmp .eq a b st = some (a.eqb b) := by
  simp only [evCmp, okd_deref ha, okd_deref hb, eqOk, ha, hb, Bool.and_self, Bool.or_true, if_true]
theorem cmp_ne {a b : D} (ha : a.okd 60 = true) (hb : b.okd 60 = true) : evCmp .ne a b st = some (!a.eqb b) := by
  simp only [evCmp, okd_deref ha, okd_deref hb, eqOk, ha, hb, Bool.and_self, Bool.or_true, if_true]
@[simp] theorem cmp_eqI (i j : Int) : evCmp .eq (.int i) (.int j) st = some (i == j) := rfl
@[simp] theorem cmp_neI (i j : Int) : evCmp .ne (.int i) (.int j) st = some (!(i == j)) := rfl
@[simp] theorem cmp_eqB (i j : Bool) : evCmp .eq (.bl i) (.bl j) st = some (i == j) := rfl
@[simp] theorem cmp_neB (i j : Bool) : evCmp .ne (.bl i) (.bl j) st = some (!(i == j)) := rfl
@[simp] theorem cmp_eqS (i j : T) : evCmp .eq (.str i) (.str j) st = some (i == j) := rfl
@[simp] theorem cmp_neS (i j : T) : evCmp .ne (.str i) (.str j) st = some (!(i == j)) := rfl
@[simp] theorem cmp_lt (i j : Int) : evCmp .lt (.int i) (.int j) st = some (decide (i < j)) := rfl
@[simp] theorem cmp_le (i j : Int) : evCmp .le (.int i) (.int j) st = some (decide (i ≤ j)) := rfl
@[simp] theorem cmp_gt (i j : Int) : evCmp .gt (.int i) (.int j) st = some (decide (j < i)) := rfl
@[simp] theorem cmp_ge (i j : Int) : evCmp .ge (.int i) (.int j) st = some (decide (j ≤ i)) := rfl
@[simp] theorem cmp_in (a b : D) : evCmp .isin a b st = evIn a b st := rfl
@[simp] theorem cmp_notin (a b : D) : evCmp .notin a b st = (evIn a b st).map (!·) := rfl
theorem in_tup {a : D} {ds : List D} (ha : Fl a) (h : Flats ds) : evIn a (.tup ds) st = some (memb a ds) := by
  unfold Flats at h
  unfold Fl at ha
  simp only [evIn, ha, h, Bool.and_self, if_true]
theorem in_lst {a : D} {ds : List D} (ha : Pl a) (h : Pls ds) : evIn a (.lst ds) st = some (memb a ds) := by
  unfold Pls at h
  unfold Pl at ha
  simp only [evIn, items, ha, h, Bool.and_self, if_true]
theorem in_loc {k : Nat} {a : D} {ds : List D} (hk : st[k]? = some (.lst ds)) (ha : Pl a) (h : Pls ds) : evIn a (.loc k) st = some (memb a ds) := by
  unfold Pls at h
  unfold Pl at ha
  simp only [evIn, items, hk, ha, h, Bool.and_self, if_true]
@[simp] theorem idx_tup (ds : List D) (i : Int) : evIdx (.tup ds) (.int i) st = L2.atI ds i := rfl
@[simp] theorem idx_lst (ds : List D) (i : Int) : evIdx (.lst ds) (.int i) st = L2.atI ds i := rfl
@[simp] theorem idx_rol (ds : List D) (i : Int) : evIdx (.rol ds) (.int i) st = L2.atI ds i := rfl
theorem idx_loc {k : Nat} {ds : List D} (h : st[k]? = some (.lst ds)) (i : Int) : evIdx (.loc k) (.int i) st = L2.atI ds i := by simp only [evIdx, h]
@[simp] theorem sl_tup (ds : List D) (lo hi : Option Int) : evSl (.tup ds) lo hi st = some (.tup (cut ds lo hi)) := rfl
@[simp] theorem sl_lst (ds : List D) (lo hi : Option Int) : evSl (.lst ds) lo hi st = some (.lst (cut ds lo hi)) := rfl
@[simp] theorem isi_non (t : Ty) : evIsi .non t st = some false := rfl
@[simp] theorem isi_bl (b : Bool) (t : Ty) : evIsi (.bl b) t st = some (t == .bool || t == .int) := rfl
@[simp] theorem isi_int (i : Int) (t : Ty) : evIsi (.int i) t st = some (t == .int) := rfl
@[simp] theorem isi_str (s : T) (t : Ty) : evIsi (.str s) t st = some (t == .str) := rfl
@[simp] theorem isi_tup (ds : List D) (t : Ty) : evIsi (.tup ds) t st = some (t == .tuple) := rfl
@[simp] theorem isi_lst (ds : List D) (t : Ty) : evIsi (.lst ds) t st = some (t == .list) := rfl
@[simp] theorem len_tup (ds : List D) : evBlt .len [.tup ds] st = .ok (.int ds.length) st := rfl
@[simp] theorem len_lst (ds : List D) : evBlt .len [.lst ds] st = .ok (.int ds.length) st := rfl
@[simp] theorem len_rol (ds : List D) : evBlt .len [.rol ds] st = .ok (.int ds.length) st := rfl
theorem len_loc {k : Nat} {ds : List D} (h : st[k]? = some (.lst ds)) : evBlt .len [.loc k] st = .ok (.int ds.length) st := by simp only [evBlt, items, h]; rfl
theorem len_str (s : T) (h : s.length ≤ SZ) : evBlt .len [.str s] st = .ok (.int s.length) st := by simp only [evBlt, h, if_true]
@[simp] theorem abs_int (i : Int) : evBlt .abs [.int i] st = .ok (.int (if i < 0 then -i else i)) st := rfl
@[simp] theorem max_int (i j : Int) : evBlt .max2 [.int i, .int j] st = .ok (.int (if j > i then j else i)) st := rfl
@[simp] theorem min_int (i j : Int) : evBlt .min2 [.int i, .int j] st = .ok (.int (if j < i then j else i)) st := rfl
@[simp] theorem int_int (i : Int) : evBlt .int [.int i] st = .ok (.int i) st := rfl
@[simp] theorem int_bl (b : Bool) : evBlt .int [.bl b] st = .ok (.int (if b then 1 else 0)) st := rfl
@[simp] theorem bool_bl (b : Bool) : evBlt .bool [.bl b] st = .ok (.bl b) st := rfl
@[simp] theorem bool_int (i : Int) : evBlt .bool [.int i] st = .ok (.bl (i != 0)) st := rfl
@[simp] theorem all_lst (ds : List D) : evBlt .all [.lst ds] st = R.of ((boolsOf ds).map fun is => .bl (is.all id)) st := rfl
@[simp] theorem any_lst (ds : List D) : evBlt .any [.lst ds] st = R.of ((boolsOf ds).map fun is => .bl (is.any id)) st := rfl
@[simp] theorem sum_lst (ds : List D) : evBlt .sum [.lst ds] st = R.of ((intsOf ds).map fun is => .int is.sum) st := rfl
@[simp] theorem tuple_tup (ds : List D) : evBlt .tuple [.tup ds] st = .ok (.tup ds) st := rfl
@[simp] theorem tuple_lst (ds : List D) : evBlt .tuple [.lst ds] st = .ok (.tup ds) st := rfl
theorem tuple_loc {k : Nat} {ds : List D} (h : st[k]? = some (.lst ds)) : evBlt .tuple [.loc k] st = .ok (.tup ds) st := by simp only [evBlt, lItems_loc h]; rfl
@[simp] theorem list_tup (ds : List D) : evBlt .list [.tup ds] st = .ok (.lst ds) st := rfl
@[simp] theorem list_lst (ds : List D) : evBlt .list [.lst ds] st = .ok (.lst ds) st := rfl
theorem list_loc {k : Nat} {ds : List D} (h : st[k]? = some (.lst ds)) : evBlt .list [.loc k] st = .ok (.lst ds) st := by simp only [evBlt, items, h]; rfl
@[simp] theorem bools_nil : boolsOf [] = some [] := rfl
@[simp] theorem bools_cons (b : Bool) (r : List D) : boolsOf (.bl b :: r) = (boolsOf r).map (b :: ·) := rfl
theorem bools_map (bs : List Bool) : boolsOf (bs.map .bl) = some bs := by
  induction bs with
  | nil => rfl
  | cons b bs ih => rw [List.map_cons, bools_cons, ih]; rfl
theorem ints_map (bs : List Int) : intsOf (bs.map .int) = some bs := by
  induction bs with
  | nil => rfl
  | cons b bs ih => rw [List.map_cons, intsOf, ih]; rfl
theorem strs_map (bs : List T) : strsOf (bs.map .str) = some bs := by
  induction bs with
  | nil => rfl
  | cons b bs ih => rw [List.map_cons, strsOf, ih]; rfl
@[simp] theorem walked_tup (ds : List D) : walked (.tup ds) st = some ⟨ds, []⟩ := rfl
@[simp] theorem walked_lst (ds : List D) : walked (.lst ds) st = some ⟨ds, []⟩ := rfl
@[simp] theorem walked_rol (ds : List D) : walked (.rol ds) st = some ⟨ds, []⟩ := rfl
@[simp] theorem wok_nil (xs : List D) : (Walked.mk xs []).ok st = true := rfl
@[simp] theorem rk_append {d : D} : recvK .append d st = (lItems st d).isSome := rfl
@[simp] theorem rk_pop {d : D} : recvK .pop d st = (lItems st d).isSome := rfl
@[simp] theorem rk_lindex {d : D} : recvK .lindex d st = (lItems st d).isSome := rfl
@[simp] theorem rk_count {d : D} : recvK .count d st = (lItems st d).isSome := rfl
@[simp] theorem rk_split {s : T} : recvK .split (.str s) st = true := rfl
@[simp] theorem rk_join {s : T} : recvK .join (.str s) st = true := rfl
@[simp] theorem rk_sindex {s : T} : recvK .sindex (.str s) st = true := rfl
@[simp] theorem count_lst (ds : List D) (t : T) : evMth .count (.lst ds) [.str t] st = (match strsOf ds with
  | some xs => .ok (.int (xs.count t)) st
  | none => .no) := rfl
theorem append_loc {k : Nat} {ds : List D} (h : st[k]? = some (.lst ds)) (hz : ds.length < SZ) (d : D) : evMth .append (.loc k) [d] st = .ok .non (st.set k (.lst (ds ++ [d]))) := by simp only [evMth, h, hz, if_true]
theorem set_loc {k : Nat} {ds : List D} {i : Int} {j : Nat} (h : st[k]? = some (.lst ds)) (hj : L2.ixN ds.length i = some j) (d : D) : evSet (.loc k) (.int i) d st = some (st.set k (.lst (ds.set j d))) := by simp only [evSet, h, hj]; rfl
end
/-- plain data -/
def isPl : D → Bool
  | .rol _ | .loc _ => false
  | _ => true
@[simp] theorem pl_non : isPl .non = true := rfl
@[simp] theorem pl_bl (b : Bool) : isPl (.bl b) = true := rfl
@[simp] theorem pl_int (i : Int) : isPl (.int i) = true := rfl
@[simp] theorem pl_str (s : T) : isPl (.str s) = true := rfl
@[simp] theorem pl_tup (ds : List D) : isPl (.tup ds) = true := rfl
@[simp] theorem pl_lst (ds : List D) : isPl (.lst ds) = true := rfl
@[simp] theorem fl_non : D.flat .non = true := rfl
@[simp] theorem fl_bl (b : Bool) : D.flat (.bl b) = true := rfl
@[simp] theorem fl_int (i : Int) : D.flat (.int i) = true := rfl
@[simp] theorem fl_str (s : T) : D.flat (.str s) = true := rfl
@[simp] theorem fl_tup (ds : List D) : D.flat (.tup ds) = false := rfl
@[simp] theorem fl_lst (ds : List D) : D.flat (.lst ds) = false := rfl
theorem atI_nat {α : Type} {xs : List α} {k : Nat} (h : k < xs.length) : L2.atI xs (k : Int) = some xs[k] := by
  have h2 : (k : Int) < (xs.length : Int) := by omega
  simp [L2.atI, L2.ixN, h2, h]
/-! ### loops -/
theorem forL_ok {t : Tg} {ys : List D} {f : Rho → Store → SR} (I : Nat → Rho → Store → Prop) : ∀ (xs : List D) (i : Nat) (ρ : Rho) (st : Store), I i ρ st →
    (∀ j x, xs[j]? = some x → ∀ ρ st, I (i + j) ρ st → ∃ ρ0, asgn t x ρ = some ρ0 ∧ ∃ ρ' st', f ρ0 st = .nx ρ' st' ∧ I (i + j + 1) ρ' st') →
    ∃ ρ' st', forL ⟨ys, []⟩ t f xs ρ st = .nx ρ' st' ∧ I (i + xs.length) ρ' st'
  | [], i, ρ, st, h, _ => ⟨ρ, st, rfl, h⟩
  | x :: xs, i, ρ, st, h, step => by
    obtain ⟨ρ0, e0, ρ1, st1, e1, h1⟩ := step 0 x rfl ρ st h
    obtain ⟨ρ2, st2, e2, h2⟩ := forL_ok (ys := ys) I xs (i + 1) ρ1 st1 h1 (fun j y hy ρ st hI => by
      have := step (j + 1) y (by simpa using hy) ρ st (by rw [show i + (j + 1) = i + 1 + j by omega]; exact hI)
      rw [show i + (j + 1) + 1 = i + 1 + j + 1 by omega] at this
      exact this)
    refine ⟨ρ2, st2, ?_, by rw [List.length_cons, show i + (xs.length + 1) = i + 1 + xs.length by omega]; exact h2⟩
    rw [forL, e0]
    simp only [e1, SR.turn_nx, wok_nil, if_true, e2]
/-- a comprehension whose turns change no cell -/
theorem lcL_ok {i : Nat} {ys : List D} {f : Rho → Store → List D → R (List D)} {ρ : Rho} {st : Store} (g : D → List D) (hi : i < ρ.length) : ∀ (xs : List D) (acc : List D),
    (∀ x ∈ xs, ∀ acc, acc.length + (g x).length ≤ SZ → f (ρ.set i (some x)) st acc = .ok (acc ++ g x) st) → acc.length + (xs.flatMap g).length ≤ SZ → lcL ⟨ys, []⟩ (.nm i) f xs ρ st acc = .ok (acc ++ xs.flatMap g) st
  | [], acc, _, _ => by simp [lcL]
  | x :: xs, acc, h, hz => by
    simp only [List.flatMap_cons, List.length_append] at hz
    have e := h x (List.mem_cons_self ..) acc (by omega)
    have ih := lcL_ok (ys := ys) g hi xs (acc ++ g x) (fun y hy => h y (List.mem_cons_of_mem _ hy)) (by rw [List.length_append]; omega)
    simp only [lcL, asgn, hi, if_true, e, R.oks_ok, wok_nil, ih, List.flatMap_cons, List.append_assoc]
/-! ### plain values -/
mutual
theorem okd_mono : ∀ (d : D) (n m : Nat), n ≤ m → d.okd n = true → d.okd m = true
  | .non, n, m, _, _ => by cases m <;> rfl
  | .bl _, n, m, _, _ => by cases m <;> rfl
  | .int _, n, m, _, _ => by cases m <;> rfl
  | .str s, n, m, _, h => by cases n <;> cases m <;> exact h
  | .tup ds, n, m, hm, h => by
    cases n with
    | zero => simp [D.okd] at h
    | succ n =>
      cases m with
      | zero => omega
      | succ m => exact okds_mono ds n m (by omega) h
  | .lst ds, n, m, hm, h => by
    cases n with
    | zero => simp [D.okd] at h
    | succ n =>
      cases m with
      | zero => omega
      | succ m => exact okds_mono ds n m (by omega) h
  | .rol _, n, m, _, h => by cases n <;> simp [D.okd] at h
  | .loc _, n, m, _, h => by cases n <;> simp [D.okd] at h
theorem okds_mono : ∀ (ds : List D) (n m : Nat), n ≤ m → D.okds ds n = true → D.okds ds m = true
  | [], _, _, _, _ => rfl
  | d :: ds, n, m, hm, h => by
    simp only [D.okds, Bool.and_eq_true] at h ⊢
    exact ⟨okd_mono d n m hm h.1, okds_mono ds n m hm h.2⟩
end
theorem okds_all : ∀ {ds : List D} {n : Nat}, D.okds ds n = true ↔ ∀ d ∈ ds, d.okd n = true
  | [], n => by simp [D.okds]
  | d :: ds, n => by simp [D.okds, okds_all (ds := ds)]
theorem Pl.pl {d : D} (h : Pl d) : isPl d = true := by
  cases d <;> first | rfl | (simp [Pl, D.okd] at h)
theorem Pl.tup {ds : List D} (h : Pl (.tup ds)) : ∀ d ∈ ds, Pl d := fun d hd => okd_mono d 59 60 (by omega) (okds_all.mp (show D.okds ds 59 = true from h) d hd)
theorem Pl.lst {ds : List D} (h : Pl (.lst ds)) : ∀ d ∈ ds, Pl d := fun d hd => okd_mono d 59 60 (by omega) (okds_all.mp (show D.okds ds 59 = true from h) d hd)
@[simp] theorem Pl.non : Pl .non := rfl
@[simp] theorem Pl.bl (b : Bool) : Pl (.bl b) := rfl
@[simp] theorem Pl.int (i : Int) : Pl (.int i) := rfl
theorem Pl.str {s : T} (h : (s.all fun c => decide (c < 1114112)) = true) : Pl (.str s) := h
theorem cmpP_eq {st : Store} {a b : D} (ha : Pl a) (hb : Pl b) : evCmp .eq a b st = some (a.eqb b) := cmp_eq ha hb
theorem cmpP_ne {st : Store} {a b : D} (ha : Pl a) (hb : Pl b) : evCmp .ne a b st = some (!a.eqb b) := cmp_ne ha hb
end MP
end

section
set_option Elab.async false
set_option linter.all false
/-! The defs in the small language. -/
namespace MP
abbrev s__10_ : T := [10]
abbrev s__32_ : T := [32]
abbrev s_a : T := [97]
abbrev s_again : T := [97, 103, 97, 105, 110]
abbrev s_always : T := [97, 108, 119, 97, 121, 115]
abbrev s_answers : T := [97, 110, 115, 119, 101, 114, 115]
abbrev s_auto : T := [97, 117, 116, 111]
abbrev s_b : T := [98]
abbrev s_below : T := [98, 101, 108, 111, 119]
abbrev s_c : T := [99]
abbrev s_d : T := [100]
abbrev s_drop : T := [100, 114, 111, 112]
abbrev s_end : T := [101, 110, 100]
abbrev s_fixed : T := [102, 105, 120, 101, 100]
abbrev s_folds : T := [102, 111, 108, 100, 115]
abbrev s_keep : T := [107, 101, 101, 112]
abbrev s_never : T := [110, 101, 118, 101, 114]
abbrev s_open : T := [111, 112, 101, 110]
abbrev s_order : T := [111, 114, 100, 101, 114]
abbrev s_picture : T := [112, 105, 99, 116, 117, 114, 101]
abbrev s_room : T := [114, 111, 111, 109]
abbrev s_rows : T := [114, 111, 119, 115]
abbrev s_side : T := [115, 105, 100, 101]
abbrev s_sizes : T := [115, 105, 122, 101, 115]
abbrev s_slack : T := [115, 108, 97, 99, 107]
abbrev s_stack : T := [115, 116, 97, 99, 107]
abbrev s_view : T := [118, 105, 101, 119]
abbrev s_view_32_ : T := [118, 105, 101, 119, 32]
abbrev s_window : T := [119, 105, 110, 100, 111, 119]
abbrev s_window_32_ : T := [119, 105, 110, 100, 111, 119, 32]
/-! 1: is_number -/
def F_is_number : Fn := ⟨1, 1,
  .cons (.ret (.and (.isi (.nm 0) .int) (.not (.isi (.nm 0) .bool)))) .nil⟩
/-! 2: is_among -/
def F_is_among : Fn := ⟨2, 2,
  .cons (.ret (.and (.isi (.nm 1) .str) (.cmp .isin (.nm 1) (.nm 0)))) .nil⟩
/-! 3: is_good_rule -/
def F_is_good_rule : Fn := ⟨1, 2,
  .cons (.ite (.or (.not (.isi (.nm 0) .tuple)) (.cmp .ne (.blt .len (.cons (.nm 0) .nil)) (.int 5)))
   (.cons (.ret (.bl false)) .nil)
   (.nil))
  (.cons (.ite (.not (.blt .all (.cons (.lc (.nm 1) (.rng1 (.int 4)) .none (.elt (.call 2 (.cons (.idx (.gl 2) (.nm 1)) (.cons (.idx (.nm 0) (.nm 1)) .nil)))) false) .nil)))
   (.cons (.ret (.bl false)) .nil)
   (.nil))
  (.cons (.ret (.and (.call 1 (.cons (.idx (.nm 0) (.int 4)) .nil)) (.and (.chn .le .le (.int 0) (.idx (.nm 0) (.int 4)) (.int 8)) (.or (.cmp .eq (.idx (.nm 0) (.int 3)) (.str s_drop)) (.cmp .eq (.idx (.nm 0) (.int 4)) (.int 0)))))) .nil))⟩
/-! 4: is_shape -/
def F_is_shape : Fn := ⟨2, 7,
  .cons (.ite (.or (.not (.isi (.nm 0) .tuple)) (.or (.cmp .eq (.nm 0) (.tup .nil)) (.or (.not (.isi (.idx (.nm 0) (.int 0)) .str)) (.cmp .lt (.nm 1) (.int 1)))))
   (.cons (.ret (.bl false)) .nil)
   (.nil))
  (.cons (.par [2, 3] (.cons (.idx (.nm 0) (.int 0)) (.cons (.sll (.nm 0) (.int 1)) .nil)))
  (.cons (.ite (.cmp .eq (.nm 2) (.str s_picture))
   (.cons (.ret (.and (.cmp .eq (.blt .len (.cons (.nm 3) .nil)) (.int 1)) (.and (.call 1 (.cons (.idx (.nm 3) (.int 0)) .nil)) (.chn .le .le (.int 1) (.idx (.nm 3) (.int 0)) (.int 8))))) .nil)
   (.nil))
  (.cons (.ite (.cmp .isin (.nm 2) (.tup (.cons (.str s_fixed) (.cons (.str s_folds) .nil))))
   (.cons (.ret (.and (.cmp .eq (.blt .len (.cons (.nm 3) .nil)) (.int 2)) (.blt .all (.cons (.lc (.nm 4) (.e (.nm 3)) .none (.elt (.call 2 (.cons (.gl 1) (.cons (.nm 4) .nil)))) false) .nil)))) .nil)
   (.nil))
  (.cons (.ite (.cmp .eq (.nm 2) (.str s_stack))
   (.cons (.ret (.and (.cmp .eq (.blt .len (.cons (.nm 3) .nil)) (.int 2)) (.blt .all (.cons (.lc (.nm 5) (.e (.nm 3)) .none (.elt (.call 4 (.cons (.nm 5) (.cons (.bin .sub (.nm 1) (.int 1)) .nil)))) false) .nil)))) .nil)
   (.nil))
  (.cons (.asg 6 (.and (.cmp .eq (.nm 2) (.str s_view)) (.and (.cmp .eq (.blt .len (.cons (.nm 3) .nil)) (.int 3)) (.and (.call 3 (.cons (.idx (.nm 3) (.int 0)) .nil)) (.call 2 (.cons (.gl 1) (.cons (.idx (.nm 3) (.int 1)) .nil)))))))
  (.cons (.ret (.and (.nm 6) (.call 4 (.cons (.idx (.nm 3) (.int 2)) (.cons (.bin .sub (.nm 1) (.int 1)) .nil))))) .nil))))))⟩
/-! 5: pieces_of -/
def F_pieces_of : Fn := ⟨1, 2,
  .cons (.asg 1 (.lst false (.cons (.nm 0) .nil)))
  (.cons (.ite (.cmp .eq (.idx (.nm 0) (.int 0)) (.str s_stack))
   (.cons (.asg 1 (.bin .add (.bin .add (.nm 1) (.call 5 (.cons (.idx (.nm 0) (.int 1)) .nil))) (.call 5 (.cons (.idx (.nm 0) (.int 2)) .nil)))) .nil)
   (.nil))
  (.cons (.ite (.cmp .eq (.idx (.nm 0) (.int 0)) (.str s_view))
   (.cons (.asg 1 (.bin .add (.nm 1) (.call 5 (.cons (.idx (.nm 0) (.int 3)) .nil)))) .nil)
   (.nil))
  (.cons (.ret (.nm 1)) .nil)))⟩
/-! 6: is_good_piece -/
def F_is_good_piece : Fn := ⟨1, 3,
  .cons (.ite (.not (.call 4 (.cons (.nm 0) (.cons (.gl 4) .nil))))
   (.cons (.ret (.bl false)) .nil)
   (.nil))
  (.cons (.asg 1 (.lc (.nm 2) (.e (.call 5 (.cons (.nm 0) .nil))) .none (.elt (.idx (.nm 2) (.int 0))) false))
  (.cons (.ret (.and (.cmp .le (.mth .count (.nm 1) (.cons (.str s_view) .nil)) (.int 1)) (.cmp .le (.bin .sub (.blt .len (.cons (.nm 1) .nil)) (.mth .count (.nm 1) (.cons (.str s_stack) .nil))) (.gl 3)))) .nil))⟩
/-! 7: is_good_window -/
def F_is_good_window : Fn := ⟨1, 1,
  .cons (.ret (.and (.isi (.nm 0) .tuple) (.and (.cmp .eq (.blt .len (.cons (.nm 0) .nil)) (.int 2)) (.and (.call 3 (.cons (.idx (.nm 0) (.int 0)) .nil)) (.call 6 (.cons (.idx (.nm 0) (.int 1)) .nil)))))) .nil⟩
/-! 9: views_of -/
def F_views_of : Fn := ⟨1, 2,
  .cons (.ret (.bin .add (.lst false (.cons (.nm 0) .nil)) (.lc (.nm 1) (.e (.call 5 (.cons (.idx (.nm 0) (.int 1)) .nil))) (.some (.cmp .eq (.idx (.nm 1) (.int 0)) (.str s_view))) (.elt (.tup (.cons (.idx (.nm 1) (.int 1)) (.cons (.idx (.nm 1) (.int 3)) .nil)))) false))) .nil⟩
/-! 11: need_window -/
def F_need_window : Fn := ⟨1, 1,
  .cons (.ite (.not (.call 7 (.cons (.nm 0) .nil)))
   (.cons .never .nil)
   (.nil)) .nil⟩
/-! 158: words_for -/
def F_words_for : Fn := ⟨1, 2,
  .cons (.ret (.mth .join (.str s__32_) (.cons (.lc (.nm 1) (.e (.nm 0)) .none (.elt (.blt .str (.cons (.nm 1) .nil))) false) .nil))) .nil⟩
/-! 159: piece_lines -/
def F_piece_lines : Fn := ⟨1, 1,
  .cons (.ite (.cmp .eq (.idx (.nm 0) (.int 0)) (.str s_stack))
   (.cons (.ret (.bin .add (.bin .add (.bin .add (.lst false (.cons (.str s_stack) .nil)) (.call 159 (.cons (.idx (.nm 0) (.int 1)) .nil))) (.call 159 (.cons (.idx (.nm 0) (.int 2)) .nil))) (.lst false (.cons (.str s_end) .nil)))) .nil)
   (.nil))
  (.cons (.ite (.cmp .eq (.idx (.nm 0) (.int 0)) (.str s_view))
   (.cons (.ret (.bin .add (.bin .add (.lst false (.cons (.bin .add (.str s_view_32_) (.call 158 (.cons (.bin .add (.idx (.nm 0) (.int 1)) (.tup (.cons (.idx (.nm 0) (.int 2)) .nil))) .nil))) .nil)) (.call 159 (.cons (.idx (.nm 0) (.int 3)) .nil))) (.lst false (.cons (.str s_end) .nil)))) .nil)
   (.nil))
  (.cons (.ret (.lst false (.cons (.call 158 (.cons (.nm 0) .nil)) .nil))) .nil))⟩
/-! 160: lines_of -/
def F_lines_of : Fn := ⟨1, 1,
  .cons (.ret (.bin .add (.lst false (.cons (.bin .add (.str s_window_32_) (.call 158 (.cons (.idx (.nm 0) (.int 0)) .nil))) .nil)) (.call 159 (.cons (.idx (.nm 0) (.int 1)) .nil)))) .nil⟩
/-! 161: text_of -/
def F_text_of : Fn := ⟨1, 1,
  .cons (.ret (.mth .join (.str s__10_) (.cons (.call 160 (.cons (.nm 0) .nil)) .nil))) .nil⟩
/-! 162: with_rule -/
def F_with_rule : Fn := ⟨2, 2,
  .cons (.ite (.cmp .eq (.idx (.nm 0) (.int 0)) (.str s_stack))
   (.cons (.ret (.tup (.cons (.str s_stack) (.cons (.call 162 (.cons (.idx (.nm 0) (.int 1)) (.cons (.nm 1) .nil))) (.cons (.call 162 (.cons (.idx (.nm 0) (.int 2)) (.cons (.nm 1) .nil))) .nil))))) .nil)
   (.nil))
  (.cons (.ret (.ife (.cmp .eq (.idx (.nm 0) (.int 0)) (.str s_view)) (.bin .add (.tup (.cons (.str s_view) (.cons (.nm 1) .nil))) (.sll (.nm 0) (.int 2))) (.nm 0))) .nil)⟩
/-! 163: with_part -/
def F_with_part : Fn := ⟨4, 5,
  .cons (.asg 4 (.idx (.idx (.call 9 (.cons (.nm 0) .nil)) (.nm 1)) (.int 0)))
  (.cons (.asg 4 (.bin .add (.bin .add (.slh (.nm 4) (.nm 2)) (.tup (.cons (.nm 3) .nil))) (.sll (.nm 4) (.bin .add (.nm 2) (.int 1)))))
  (.cons (.ret (.ife (.cmp .eq (.nm 1) (.int 0)) (.tup (.cons (.nm 4) (.cons (.idx (.nm 0) (.int 1)) .nil))) (.tup (.cons (.idx (.nm 0) (.int 0)) (.cons (.call 162 (.cons (.idx (.nm 0) (.int 1)) (.cons (.nm 4) .nil))) .nil))))) .nil))⟩
/-! 164: other_windows -/
def F_other_windows : Fn := ⟨3, 7,
  .cons (.asg 3 (.idx (.idx (.idx (.call 9 (.cons (.nm 0) .nil)) (.nm 1)) (.int 0)) (.nm 2)))
  (.cons (.asg 4 (.lc (.nm 5) (.e (.idx (.gl 2) (.nm 2))) (.some (.cmp .ne (.nm 5) (.nm 3))) (.elt (.call 163 (.cons (.nm 0) (.cons (.nm 1) (.cons (.nm 2) (.cons (.nm 5) .nil)))))) false))
  (.cons (.ret (.lc (.nm 6) (.e (.nm 4)) (.some (.call 7 (.cons (.nm 6) .nil))) (.elt (.nm 6)) false)) .nil))⟩
/-! 165: parts_in -/
def F_parts_in : Fn := ⟨1, 3,
  .cons (.ret (.lc (.nm 1) (.rng1 (.blt .len (.cons (.call 9 (.cons (.nm 0) .nil)) .nil))) .none (.cons (.nm 2) (.e (.gl 11)) .none (.elt (.tup (.cons (.nm 1) (.cons (.gix 10 (.nm 2)) .nil))))) false)) .nil⟩
/-! 166: changed -/
def F_changed_b1 : Ss :=
  .cons (.asg 1 (.bin .add (.nm 1) (.call 164 (.cons (.nm 0) (.cons (.nm 2) (.cons (.nm 3) .nil)))))) .nil
def F_changed : Fn := ⟨1, 7,
  .cons (.asg 1 (.lst false .nil))
  (.cons (.for_ (.cons (.nm 2) (.cons (.nm 3) .nil)) (.e (.call 165 (.cons (.nm 0) .nil))) F_changed_b1)
  (.cons (.asg 4 (.dc (.nm 5) (.e (.nm 1)) (.call 161 (.cons (.nm 5) .nil)) (.nm 5)))
  (.cons (.ret (.lc (.nm 6) (.e (.blt .sorted (.cons (.skeys 6 4) .nil))) .none (.elt (.idx (.nm 4) (.nm 6))) false)) .nil)))⟩
/-! 167: changes -/
def F_changes : Fn := ⟨1, 1,
  .cons (.expr (.call 11 (.cons (.nm 0) .nil)))
  (.cons (.ret (.call 166 (.cons (.nm 0) .nil))) .nil)⟩
/-! 18: _law_source -/
def F__law_source : Fn := ⟨2, 3,
  .cons (.asg 2 (.int 0))
  (.cons (.ite (.cmp .lt (.nm 1) (.blt .len (.cons (.nm 0) .nil)))
   (.cons (.asg 2 (.blt .abs (.cons (.blt .int (.cons (.idx (.nm 0) (.nm 1)) .nil)) .nil))) .nil)
   (.nil))
  (.cons (.ite (.cmp .lt (.nm 2) (.bin .pow (.int 10) (.int 18)))
   (.cons (.ret (.lst true (.cons (.int 0) (.cons (.bin .add (.int 1) (.bin .mod (.blt .int (.cons (.bin .add (.bin .mul (.nm 2) (.int 7919)) (.bin .mul (.int 104729) (.nm 1))) .nil)) (.int 2147483646))) .nil)))) .nil)
   (.nil))
  (.cons (.ret (.lst true (.cons (.nm 2) (.cons (.bin .add (.int 1) (.bin .mod (.blt .int (.cons (.bin .add (.nm 2) (.nm 1)) .nil)) (.int 2147483646))) .nil)))) .nil)))⟩
/-! 19: _law_draw -/
def F__law_draw : Fn := ⟨2, 3,
  .cons (.ite (.cmp .gt (.idx (.nm 0) (.int 0)) (.int 0))
   (.cons (.asg 2 (.bin .mod (.blt .int (.cons (.idx (.nm 0) (.int 0)) .nil)) (.nm 1)))
    (.cons (.setIx (.nm 0) (.int 0) (.bin .fdiv (.idx (.nm 0) (.int 0)) (.nm 1)))
    (.cons (.ret (.nm 2)) .nil)))
   (.nil))
  (.cons (.setIx (.nm 0) (.int 1) (.bin .mod (.blt .int (.cons (.bin .mul (.idx (.nm 0) (.int 1)) (.int 48271)) .nil)) (.int 2147483647)))
  (.cons (.ret (.bin .mod (.blt .int (.cons (.bin .fdiv (.bin .mod (.blt .int (.cons (.bin .mul (.idx (.nm 0) (.int 1)) (.idx (.nm 0) (.int 1))) .nil)) (.int 2147483629)) (.int 64)) .nil)) (.nm 1))) .nil))⟩
/-! 20: _law_of -/
def F__law_of : Fn := ⟨2, 2,
  .cons (.ret (.idx (.nm 1) (.call 19 (.cons (.nm 0) (.cons (.blt .len (.cons (.nm 1) .nil)) .nil))))) .nil⟩
/-! 21: _law_rule -/
def F__law_rule : Fn := ⟨1, 6,
  .cons (.asg 1 (.lst false (.cons (.str s_auto) (.cons (.str s_auto) (.cons (.str s_auto) (.cons (.str s_room) (.cons (.str s_always) (.cons (.str s_never) .nil))))))))
  (.cons (.asg 2 (.call 20 (.cons (.nm 0) (.cons (.lst false (.cons (.str s_drop) (.cons (.str s_drop) (.cons (.str s_keep) .nil)))) .nil))))
  (.cons (.asg 3 (.ife (.cmp .eq (.nm 2) (.str s_keep)) (.int 0) (.call 20 (.cons (.nm 0) (.cons (.lst false (.cons (.int 0) (.cons (.int 0) (.cons (.int 0) (.cons (.int 4) (.cons (.call 19 (.cons (.nm 0) (.cons (.int 9) .nil))) .nil)))))) .nil)))))
  (.cons (.par [4, 5] (.cons (.call 20 (.cons (.nm 0) (.cons (.nm 1) .nil))) (.cons (.call 20 (.cons (.nm 0) (.cons (.nm 1) .nil))) .nil)))
  (.cons (.ret (.tup (.cons (.nm 4) (.cons (.nm 5) (.cons (.call 20 (.cons (.nm 0) (.cons (.lst false (.cons (.str s_side) (.cons (.str s_below) .nil))) .nil))) (.cons (.nm 2) (.cons (.nm 3) .nil))))))) .nil))))⟩
/-! 22: _law_thing -/
def F__law_thing : Fn := ⟨1, 3,
  .cons (.asg 1 (.call 19 (.cons (.nm 0) (.cons (.int 4) .nil))))
  (.cons (.ite (.cmp .eq (.nm 1) (.int 0))
   (.cons (.ret (.tup (.cons (.str s_picture) (.cons (.call 20 (.cons (.nm 0) (.cons (.lst false (.cons (.int 4) (.cons (.int 4) (.cons (.int 2) (.cons (.bin .add (.int 1) (.call 19 (.cons (.nm 0) (.cons (.int 8) .nil)))) .nil))))) .nil))) .nil)))) .nil)
   (.nil))
  (.cons (.asg 2 (.ife (.cmp .eq (.nm 1) (.int 1)) (.str s_folds) (.str s_fixed)))
  (.cons (.ret (.tup (.cons (.nm 2) (.cons (.call 20 (.cons (.nm 0) (.cons (.lst false (.cons (.str s_a) (.cons (.str s_b) (.cons (.str s_c) (.cons (.str s_d) .nil))))) .nil))) (.cons (.call 20 (.cons (.nm 0) (.cons (.lst false (.cons (.str s_a) (.cons (.str s_b) (.cons (.str s_c) (.cons (.str s_d) .nil))))) .nil))) .nil))))) .nil)))⟩
/-! 23: _law_piece -/
def F__law_piece : Fn := ⟨2, 6,
  .cons (.par [2, 3] (.cons (.call 22 (.cons (.nm 0) .nil)) (.cons (.call 22 (.cons (.nm 0) .nil)) .nil)))
  (.cons (.asg 4 (.ife (.cmp .eq (.call 19 (.cons (.nm 0) (.cons (.int 2) .nil))) (.int 0)) (.nm 2) (.tup (.cons (.str s_stack) (.cons (.nm 2) (.cons (.nm 3) .nil))))))
  (.cons (.ite (.not (.nm 1))
   (.cons (.ret (.nm 4)) .nil)
   (.nil))
  (.cons (.asg 5 (.tup (.cons (.str s_view) (.cons (.call 21 (.cons (.nm 0) .nil)) (.cons (.call 20 (.cons (.nm 0) (.cons (.lst false (.cons (.str s_a) (.cons (.str s_b) (.cons (.str s_c) (.cons (.str s_d) .nil))))) .nil))) (.cons (.nm 2) .nil))))))
  (.cons (.ret (.call 20 (.cons (.nm 0) (.cons (.lst false (.cons (.nm 5) (.cons (.tup (.cons (.str s_stack) (.cons (.nm 5) (.cons (.nm 3) .nil)))) (.cons (.tup (.cons (.str s_stack) (.cons (.nm 3) (.cons (.nm 5) .nil)))) .nil)))) .nil)))) .nil))))⟩
/-! 24: _law_window -/
def F__law_window : Fn := ⟨2, 2,
  .cons (.ret (.tup (.cons (.call 21 (.cons (.nm 0) .nil)) (.cons (.call 23 (.cons (.nm 0) (.cons (.nm 1) .nil))) .nil)))) .nil⟩
/-! 26: _law_kids -/
def F__law_kids : Fn := ⟨1, 1,
  .cons (.ret (.ife (.cmp .eq (.idx (.nm 0) (.int 0)) (.str s_stack)) (.bin .add (.call 26 (.cons (.idx (.nm 0) (.int 1)) .nil)) (.call 26 (.cons (.idx (.nm 0) (.int 2)) .nil))) (.lst false (.cons (.nm 0) .nil)))) .nil⟩
/-! 27: _law_views -/
def F__law_views : Fn := ⟨1, 2,
  .cons (.ret (.bin .add (.lst false (.cons (.nm 0) .nil)) (.lc (.nm 1) (.e (.call 26 (.cons (.idx (.nm 0) (.int 1)) .nil))) (.some (.cmp .eq (.idx (.nm 1) (.int 0)) (.str s_view))) (.elt (.tup (.cons (.idx (.nm 1) (.int 1)) (.cons (.idx (.nm 1) (.int 3)) .nil)))) false))) .nil⟩
/-! 152: _law_put_rule -/
def F__law_put_rule : Fn := ⟨2, 2,
  .cons (.ite (.cmp .eq (.idx (.nm 0) (.int 0)) (.str s_stack))
   (.cons (.ret (.tup (.cons (.str s_stack) (.cons (.call 152 (.cons (.idx (.nm 0) (.int 1)) (.cons (.nm 1) .nil))) (.cons (.call 152 (.cons (.idx (.nm 0) (.int 2)) (.cons (.nm 1) .nil))) .nil))))) .nil)
   (.nil))
  (.cons (.ret (.ife (.cmp .eq (.idx (.nm 0) (.int 0)) (.str s_view)) (.bin .add (.tup (.cons (.str s_view) (.cons (.nm 1) .nil))) (.sll (.nm 0) (.int 2))) (.nm 0))) .nil)⟩
/-! 168: _law_lines -/
def F__law_lines : Fn := ⟨1, 3,
  .cons (.ite (.cmp .eq (.idx (.nm 0) (.int 0)) (.str s_stack))
   (.cons (.ret (.bin .add (.bin .add (.bin .add (.lst false (.cons (.str s_stack) .nil)) (.call 168 (.cons (.idx (.nm 0) (.int 1)) .nil))) (.call 168 (.cons (.idx (.nm 0) (.int 2)) .nil))) (.lst false (.cons (.str s_end) .nil)))) .nil)
   (.nil))
  (.cons (.ite (.cmp .eq (.idx (.nm 0) (.int 0)) (.str s_view))
   (.cons (.asg 1 (.bin .add (.bin .add (.lst false (.cons (.str s_view) .nil)) (.lc (.nm 2) (.e (.idx (.nm 0) (.int 1))) .none (.elt (.blt .str (.cons (.nm 2) .nil))) false)) (.lst false (.cons (.idx (.nm 0) (.int 2)) .nil))))
    (.cons (.ret (.bin .add (.bin .add (.lst false (.cons (.mth .join (.str s__32_) (.cons (.nm 1) .nil)) .nil)) (.call 168 (.cons (.idx (.nm 0) (.int 3)) .nil))) (.lst false (.cons (.str s_end) .nil)))) .nil))
   (.nil))
  (.cons (.ret (.lst false (.cons (.mth .join (.str s__32_) (.cons (.lc (.nm 2) (.e (.nm 0)) .none (.elt (.blt .str (.cons (.nm 2) .nil))) false) .nil)) .nil))) .nil))⟩
/-! 169: _law_text -/
def F__law_text : Fn := ⟨1, 3,
  .cons (.asg 1 (.lst false (.cons (.bin .add (.str s_window_32_) (.mth .join (.str s__32_) (.cons (.lc (.nm 2) (.e (.idx (.nm 0) (.int 0))) .none (.elt (.blt .str (.cons (.nm 2) .nil))) false) .nil))) .nil)))
  (.cons (.ret (.mth .join (.str s__10_) (.cons (.bin .add (.nm 1) (.call 168 (.cons (.idx (.nm 0) (.int 1)) .nil))) .nil))) .nil)⟩
/-! 170: _law_changes -/
def F__law_changes_b3 : Ss :=
  .cons (.asg 9 (.bin .add (.bin .add (.slh (.nm 6) (.nm 7)) (.tup (.cons (.nm 8) .nil))) (.sll (.nm 6) (.bin .add (.nm 7) (.int 1)))))
  (.cons (.ite (.and (.cmp .ne (.nm 9) (.nm 6)) (.or (.cmp .eq (.idx (.nm 9) (.int 3)) (.str s_drop)) (.cmp .eq (.idx (.nm 9) (.int 4)) (.int 0))))
   (.cons (.asg 10 (.tup (.cons (.nm 9) (.cons (.idx (.nm 0) (.int 1)) .nil))))
    (.cons (.ite (.cmp .eq (.nm 4) (.int 1))
     (.cons (.asg 10 (.tup (.cons (.idx (.nm 0) (.int 0)) (.cons (.call 152 (.cons (.idx (.nm 0) (.int 1)) (.cons (.nm 9) .nil))) .nil)))) .nil)
     (.nil))
    (.cons (.setIx (.nm 3) (.call 169 (.cons (.nm 10) .nil)) (.tup (.cons (.nm 10) (.cons (.nm 4) (.cons (.nm 7) .nil))))) .nil)))
   (.nil)) .nil)
def F__law_changes_b2 : Ss :=
  .cons (.for_ (.nm 8) (.e (.idx (.nm 2) (.nm 7))) F__law_changes_b3) .nil
def F__law_changes_b1 : Ss :=
  .cons (.asg 6 (.idx (.nm 5) (.int 0)))
  (.cons (.for_ (.nm 7) (.rng1 (.int 5)) F__law_changes_b2) .nil)
def F__law_changes : Fn := ⟨1, 12,
  .cons (.asg 1 (.lst false (.cons (.str s_always) (.cons (.str s_auto) (.cons (.str s_never) (.cons (.str s_room) .nil))))))
  (.cons (.asgT (.cons (.nm 2) (.cons (.nm 3) .nil)) (.tup (.cons (.lst false (.cons (.nm 1) (.cons (.nm 1) (.cons (.lst false (.cons (.str s_below) (.cons (.str s_side) .nil))) (.cons (.lst false (.cons (.str s_drop) (.cons (.str s_keep) .nil))) (.cons (.lrng1 false (.int 9)) .nil)))))) (.cons (.dct [] .nil) .nil))))
  (.cons (.for_ (.cons (.nm 4) (.cons (.nm 5) .nil)) (.enm (.call 27 (.cons (.nm 0) .nil))) F__law_changes_b1)
  (.cons (.ret (.lc (.nm 11) (.e (.blt .sorted (.cons (.skeys 11 3) .nil))) .none (.elt (.idx (.nm 3) (.nm 11))) false)) .nil)))⟩
/-! 171: law -/
def F_law_9_b2 : Ss :=
  .cons (.asg 4 (.call 24 (.cons (.nm 2) (.cons (.cmp .eq (.nm 3) (.int 2)) .nil))))
  (.cons (.asg 5 (.call 167 (.cons (.nm 4) .nil)))
  (.cons (.ite (.or (.cmp .ne (.nm 5) (.lc (.cons (.nm 6) (.cons (.nm 7) (.cons (.nm 8) .nil))) (.e (.call 170 (.cons (.nm 4) .nil))) .none (.elt (.nm 6)) false)) (.not (.isi (.nm 5) .list)))
   (.cons (.ret (.bl false)) .nil)
   (.nil)) .nil))
def F_law_9_b1 : Ss :=
  .cons (.asg 2 (.call 18 (.cons (.nm 0) (.cons (.nm 1) .nil))))
  (.cons (.for_ (.nm 3) (.rng1 (.int 3)) F_law_9_b2) .nil)
def F_law_9 : Fn := ⟨1, 12,
  .cons (.for_ (.nm 1) (.rng1 (.bin .add (.int 1) (.blt .min2 (.cons (.blt .len (.cons (.nm 0) .nil)) (.cons (.int 10) .nil))))) F_law_9_b1)
  (.cons (.asgT (.cons (.nm 9) (.cons (.nm 10) .nil)) (.tup (.cons (.tup (.cons (.str s_auto) (.cons (.str s_auto) (.cons (.str s_side) (.cons (.str s_drop) (.cons (.int 0) .nil)))))) (.cons (.tup (.cons (.str s_auto) (.cons (.str s_auto) (.cons (.str s_side) (.cons (.str s_keep) (.cons (.int 0) .nil)))))) .nil))))
  (.cons (.ite (.or (.cmp .ne (.blt .len (.cons (.call 167 (.cons (.tup (.cons (.nm 9) (.cons (.tup (.cons (.str s_picture) (.cons (.int 1) .nil))) .nil))) .nil)) .nil)) (.int 16)) (.cmp .ne (.blt .len (.cons (.call 167 (.cons (.tup (.cons (.nm 10) (.cons (.tup (.cons (.str s_picture) (.cons (.int 1) .nil))) .nil))) .nil)) .nil)) (.int 8)))
   (.cons (.ret (.bl false)) .nil)
   (.nil))
  (.cons (.asg 11 (.bin .add (.slh (.nm 9) (.int 4)) (.tup (.cons (.int 5) .nil))))
  (.cons (.ite (.cmp .isin (.tup (.cons (.nm 10) (.cons (.tup (.cons (.str s_picture) (.cons (.int 1) .nil))) .nil))) (.call 167 (.cons (.tup (.cons (.nm 11) (.cons (.tup (.cons (.str s_picture) (.cons (.int 1) .nil))) .nil))) .nil)))
   (.cons (.ret (.bl false)) .nil)
   (.nil))
  (.cons (.ret (.cmp .eq (.blt .len (.cons (.call 167 (.cons (.tup (.cons (.nm 11) (.cons (.tup (.cons (.str s_view) (.cons (.nm 9) (.cons (.str s_a) (.cons (.tup (.cons (.str s_picture) (.cons (.int 1) .nil))) .nil))))) .nil))) .nil)) .nil)) (.int 31))) .nil)))))⟩
def fnsL0 : List (Nat × Fn) := [(1, F_is_number), (2, F_is_among), (3, F_is_good_rule), (4, F_is_shape), (5, F_pieces_of), (6, F_is_good_piece), (7, F_is_good_window), (9, F_views_of), (11, F_need_window), (158, F_words_for), (159, F_piece_lines), (160, F_lines_of), (161, F_text_of), (162, F_with_rule), (163, F_with_part), (164, F_other_windows), (165, F_parts_in), (166, F_changed), (167, F_changes), (18, F__law_source)]
def fnsL1 : List (Nat × Fn) := [(19, F__law_draw), (20, F__law_of), (21, F__law_rule), (22, F__law_thing), (23, F__law_piece), (24, F__law_window), (26, F__law_kids), (27, F__law_views), (152, F__law_put_rule), (168, F__law_lines), (169, F__law_text), (170, F__law_changes), (171, F_law_9)]
def fnsL : List (Nat × Fn) := fnsL0 ++ fnsL1
def globsL : List (Nat × D) := [(1, .tup [.str s_a, .str s_b, .str s_c, .str s_d]), (10, .tup [.str s_side, .str s_below, .str s_order, .str s_again, .str s_slack]), (2, .tup [.tup [.str s_always, .str s_auto, .str s_never, .str s_room], .tup [.str s_always, .str s_auto, .str s_never, .str s_room], .tup [.str s_below, .str s_side], .tup [.str s_drop, .str s_keep], .tup [.int 0, .int 1, .int 2, .int 3, .int 4, .int 5, .int 6, .int 7, .int 8]]), (3, .int 4), (4, .int 5), (11, .tup [.str s_again, .str s_below, .str s_order, .str s_side, .str s_slack])]
def P : Pr := ⟨fun f => fnsL.lookup f, fun g => globsL.lookup g, bigW⟩
@[simp] theorem P_1 : P.fns 1 = some F_is_number := rfl
@[simp] theorem P_2 : P.fns 2 = some F_is_among := rfl
@[simp] theorem P_3 : P.fns 3 = some F_is_good_rule := rfl
@[simp] theorem P_4 : P.fns 4 = some F_is_shape := rfl
@[simp] theorem P_5 : P.fns 5 = some F_pieces_of := rfl
@[simp] theorem P_6 : P.fns 6 = some F_is_good_piece := rfl
@[simp] theorem P_7 : P.fns 7 = some F_is_good_window := rfl
@[simp] theorem P_9 : P.fns 9 = some F_views_of := rfl
@[simp] theorem P_11 : P.fns 11 = some F_need_window := rfl
@[simp] theorem P_158 : P.fns 158 = some F_words_for := rfl
@[simp] theorem P_159 : P.fns 159 = some F_piece_lines := rfl
@[simp] theorem P_160 : P.fns 160 = some F_lines_of := rfl
@[simp] theorem P_161 : P.fns 161 = some F_text_of := rfl
@[simp] theorem P_162 : P.fns 162 = some F_with_rule := rfl
@[simp] theorem P_163 : P.fns 163 = some F_with_part := rfl
@[simp] theorem P_164 : P.fns 164 = some F_other_windows := rfl
@[simp] theorem P_165 : P.fns 165 = some F_parts_in := rfl
@[simp] theorem P_166 : P.fns 166 = some F_changed := rfl
@[simp] theorem P_167 : P.fns 167 = some F_changes := rfl
@[simp] theorem P_18 : P.fns 18 = some F__law_source := rfl
@[simp] theorem P_19 : P.fns 19 = some F__law_draw := rfl
@[simp] theorem P_20 : P.fns 20 = some F__law_of := rfl
@[simp] theorem P_21 : P.fns 21 = some F__law_rule := rfl
@[simp] theorem P_22 : P.fns 22 = some F__law_thing := rfl
@[simp] theorem P_23 : P.fns 23 = some F__law_piece := rfl
@[simp] theorem P_24 : P.fns 24 = some F__law_window := rfl
@[simp] theorem P_26 : P.fns 26 = some F__law_kids := rfl
@[simp] theorem P_27 : P.fns 27 = some F__law_views := rfl
@[simp] theorem P_152 : P.fns 152 = some F__law_put_rule := rfl
@[simp] theorem P_168 : P.fns 168 = some F__law_lines := rfl
@[simp] theorem P_169 : P.fns 169 = some F__law_text := rfl
@[simp] theorem P_170 : P.fns 170 = some F__law_changes := rfl
@[simp] theorem P_171 : P.fns 171 = some F_law_9 := rfl
@[simp] theorem G_1 : P.glob 1 = some (.tup [.str s_a, .str s_b, .str s_c, .str s_d]) := rfl
@[simp] theorem G_10 : P.glob 10 = some (.tup [.str s_side, .str s_below, .str s_order, .str s_again, .str s_slack]) := rfl
@[simp] theorem G_2 : P.glob 2 = some (.tup [.tup [.str s_always, .str s_auto, .str s_never, .str s_room], .tup [.str s_always, .str s_auto, .str s_never, .str s_room], .tup [.str s_below, .str s_side], .tup [.str s_drop, .str s_keep], .tup [.int 0, .int 1, .int 2, .int 3, .int 4, .int 5, .int 6, .int 7, .int 8]]) := rfl
@[simp] theorem G_3 : P.glob 3 = some (.int 4) := rfl
@[simp] theorem G_4 : P.glob 4 = some (.int 5) := rfl
@[simp] theorem G_11 : P.glob 11 = some (.tup [.str s_again, .str s_below, .str s_order, .str s_side, .str s_slack]) := rfl
theorem P_W : P.W = bigW := rfl
end MP
end

section
set_option Elab.async false
set_option linter.all false
set_option maxRecDepth 100000
set_option maxHeartbeats 0
/-! The defs, where they stand. -/
namespace MP
open PySem PySem.Spec PyProof.Rows L2
def top (i : Nat) : Stmt := PySem.Challenge.pw_barsneeded_k09_single_changes.main.body.getD i (.Pass ⟨0, 0, 0, 0⟩)
def defs0 : Defs := [
  (1, ⟨"is_number", ["value"], ["value"], top 9, F_is_number, fun _ _ _ _ _ _ us hl => match us, hl with | [_], _ => rfl, "is_number"⟩),
  (2, ⟨"is_among", ["words", "value"], ["words", "value"], top 10, F_is_among, fun _ _ _ _ _ _ us hl => match us, hl with | [_, _], _ => rfl, "is_among"⟩),
  (3, ⟨"is_good_rule", ["value", "at"], ["value"], top 11, F_is_good_rule, fun _ _ _ _ _ _ us hl => match us, hl with | [_], _ => rfl, "is_good_rule"⟩),
  (4, ⟨"is_shape", ["value", "deep", "word", "rest", "letter", "piece", "good"], ["value", "deep"], top 12, F_is_shape, fun _ _ _ _ _ _ us hl => match us, hl with | [_, _], _ => rfl, "is_shape"⟩),
  (5, ⟨"pieces_of", ["piece", "found"], ["piece"], top 13, F_pieces_of, fun _ _ _ _ _ _ us hl => match us, hl with | [_], _ => rfl, "pieces_of"⟩),
  (6, ⟨"is_good_piece", ["value", "words", "piece"], ["value"], top 14, F_is_good_piece, fun _ _ _ _ _ _ us hl => match us, hl with | [_], _ => rfl, "is_good_piece"⟩),
  (7, ⟨"is_good_window", ["value"], ["value"], top 15, F_is_good_window, fun _ _ _ _ _ _ us hl => match us, hl with | [_], _ => rfl, "is_good_window"⟩),
  (9, ⟨"views_of", ["window", "piece"], ["window"], top 16, F_views_of, fun _ _ _ _ _ _ us hl => match us, hl with | [_], _ => rfl, "views_of"⟩),
  (11, ⟨"need_window", ["value"], ["value"], top 17, F_need_window, fun _ _ _ _ _ _ us hl => match us, hl with | [_], _ => rfl, "need_window"⟩),
  (158, ⟨"words_for", ["parts", "part"], ["parts"], top 19, F_words_for, fun _ _ _ _ _ _ us hl => match us, hl with | [_], _ => rfl, "words_for"⟩),
  (159, ⟨"piece_lines", ["piece"], ["piece"], top 20, F_piece_lines, fun _ _ _ _ _ _ us hl => match us, hl with | [_], _ => rfl, "piece_lines"⟩),
  (160, ⟨"lines_of", ["window"], ["window"], top 21, F_lines_of, fun _ _ _ _ _ _ us hl => match us, hl with | [_], _ => rfl, "lines_of"⟩),
  (161, ⟨"text_of", ["window"], ["window"], top 22, F_text_of, fun _ _ _ _ _ _ us hl => match us, hl with | [_], _ => rfl, "text_of"⟩),
  (162, ⟨"with_rule", ["piece", "rule"], ["piece", "rule"], top 25, F_with_rule, fun _ _ _ _ _ _ us hl => match us, hl with | [_, _], _ => rfl, "with_rule"⟩),
  (163, ⟨"with_part", ["window", "view", "at", "value", "rule"], ["window", "view", "at", "value"], top 26, F_with_part, fun _ _ _ _ _ _ us hl => match us, hl with | [_, _, _, _], _ => rfl, "with_part"⟩),
  (164, ⟨"other_windows", ["window", "view", "at", "old", "some", "value", "other"], ["window", "view", "at"], top 27, F_other_windows, fun _ _ _ _ _ _ us hl => match us, hl with | [_, _, _], _ => rfl, "other_windows"⟩)]
def defs1 : Defs := [
  (165, ⟨"parts_in", ["window", "view", "name"], ["window"], top 28, F_parts_in, fun _ _ _ _ _ _ us hl => match us, hl with | [_], _ => rfl, "parts_in"⟩),
  (166, ⟨"changed", ["window", "found", "view", "at", "table", "other", "text"], ["window"], top 29, F_changed, fun _ _ _ _ _ _ us hl => match us, hl with | [_], _ => rfl, "changed"⟩),
  (167, ⟨"changes", ["window"], ["window"], top 30, F_changes, fun _ _ _ _ _ _ us hl => match us, hl with | [_], _ => rfl, "changes"⟩),
  (18, ⟨"_law_source", ["script", "k", "cell"], ["script", "k"], top 32, F__law_source, fun _ _ _ _ _ _ us hl => match us, hl with | [_, _], _ => rfl, "_law_source"⟩),
  (19, ⟨"_law_draw", ["source", "many", "found"], ["source", "many"], top 33, F__law_draw, fun _ _ _ _ _ _ us hl => match us, hl with | [_, _], _ => rfl, "_law_draw"⟩),
  (20, ⟨"_law_of", ["source", "items"], ["source", "items"], top 34, F__law_of, fun _ _ _ _ _ _ us hl => match us, hl with | [_, _], _ => rfl, "_law_of"⟩),
  (21, ⟨"_law_rule", ["source", "words", "again", "slack", "side", "below"], ["source"], top 35, F__law_rule, fun _ _ _ _ _ _ us hl => match us, hl with | [_], _ => rfl, "_law_rule"⟩),
  (22, ⟨"_law_thing", ["source", "mode", "word"], ["source"], top 36, F__law_thing, fun _ _ _ _ _ _ us hl => match us, hl with | [_], _ => rfl, "_law_thing"⟩),
  (23, ⟨"_law_piece", ["source", "nested", "first", "second", "some", "inner"], ["source", "nested"], top 37, F__law_piece, fun _ _ _ _ _ _ us hl => match us, hl with | [_, _], _ => rfl, "_law_piece"⟩),
  (24, ⟨"_law_window", ["source", "nested"], ["source", "nested"], top 38, F__law_window, fun _ _ _ _ _ _ us hl => match us, hl with | [_, _], _ => rfl, "_law_window"⟩),
  (26, ⟨"_law_kids", ["piece"], ["piece"], top 39, F__law_kids, fun _ _ _ _ _ _ us hl => match us, hl with | [_], _ => rfl, "_law_kids"⟩),
  (27, ⟨"_law_views", ["window", "kid"], ["window"], top 40, F__law_views, fun _ _ _ _ _ _ us hl => match us, hl with | [_], _ => rfl, "_law_views"⟩),
  (152, ⟨"_law_put_rule", ["piece", "rule"], ["piece", "rule"], top 41, F__law_put_rule, fun _ _ _ _ _ _ us hl => match us, hl with | [_, _], _ => rfl, "_law_put_rule"⟩),
  (168, ⟨"_law_lines", ["piece", "words_so", "part"], ["piece"], top 42, F__law_lines, fun _ _ _ _ _ _ us hl => match us, hl with | [_], _ => rfl, "_law_lines"⟩),
  (169, ⟨"_law_text", ["window", "lines", "part"], ["window"], top 43, F__law_text, fun _ _ _ _ _ _ us hl => match us, hl with | [_], _ => rfl, "_law_text"⟩),
  (170, ⟨"_law_changes", ["window", "every", "values", "found", "at", "view", "rule", "place", "value", "other", "some", "text"], ["window"], top 44, F__law_changes, fun _ _ _ _ _ _ us hl => match us, hl with | [_], _ => rfl, "_law_changes"⟩)]
def defs2 : Defs := [
  (171, ⟨"law", ["script", "k", "source", "turn", "some", "told", "other", "at", "place", "auto", "keep", "slow"], ["script"], top 45, F_law_9, fun _ _ _ _ _ _ us hl => match us, hl with | [_], _ => rfl, "law"⟩)]
def defs : Defs := defs0 ++ defs1 ++ defs2
def globs : Globs := [
  (1, "LETTERS", .tup [.str s_a, .str s_b, .str s_c, .str s_d]),
  (10, "NAMES", .tup [.str s_side, .str s_below, .str s_order, .str s_again, .str s_slack]),
  (2, "VALUES", .tup [.tup [.str s_always, .str s_auto, .str s_never, .str s_room], .tup [.str s_always, .str s_auto, .str s_never, .str s_room], .tup [.str s_below, .str s_side], .tup [.str s_drop, .str s_keep], .tup [.int 0, .int 1, .int 2, .int 3, .int 4, .int 5, .int 6, .int 7, .int 8]]),
  (3, "MOST_PIECES", .int 4),
  (4, "MOST_DEEP", .int 5),
  (11, "ASCENDING", .tup [.str s_again, .str s_below, .str s_order, .str s_side, .str s_slack])]
theorem P_eq : prOf defs globs = P := by
  have h1 : (fun f => (defs.lookup f).map (·.F)) = fun f => fnsL.lookup f := funext fun f => (lookup_map (·.F) defs f).symm
  have h2 : (fun g => (globs.lookup g).map (·.2)) = fun g => globsL.lookup g := funext fun g => (lookup_map (·.2) globs g).symm
  unfold prOf P
  rw [h1, h2]
theorem ck0 : defs0.all (fun p => ckD (lnkOf defs globs) p.2) = true := by decide +kernel
theorem ck1 : defs1.all (fun p => ckD (lnkOf defs globs) p.2) = true := by decide +kernel
theorem ck2 : defs2.all (fun p => ckD (lnkOf defs globs) p.2) = true := by decide +kernel
theorem ck : defs.all (fun p => ckD (lnkOf defs globs) p.2) = true := by
  have h : ∀ q : Nat × DefI → Bool, defs.all q = (defs0.all q && defs1.all q && defs2.all q) := fun q => by simp only [defs, List.all_append]
  rw [h, ck0, ck1, ck2]
  rfl
abbrev RR : PySem.W.OpenRow := PySem.W.OpenLaw.row PySem.Challenge.rw_barsneeded_k09_single_changes
def loose0 : List Str := ["BarError", "InvalidWindow", "LETTERS", "NAMES", "VALUES", "MOST_PIECES", "MOST_DEEP", "is_number", "is_among", "is_good_rule", "is_shape", "pieces_of", "is_good_piece", "is_good_window", "views_of", "need_window"]
def loose1 : List Str := ["words_for", "piece_lines", "lines_of", "text_of", "ASCENDING", "with_rule", "with_part", "other_windows", "parts_in", "changed", "changes", "_law_source", "_law_draw", "_law_of", "_law_rule", "_law_thing"]
def loose2 : List Str := ["_law_piece", "_law_window", "_law_kids", "_law_views", "_law_put_rule", "_law_lines", "_law_text", "_law_changes"]
def loose : List Str := loose0 ++ loose1 ++ loose2
theorem runs (w : World) : HandSHeadRun.RunEq RR (PySem.W.view RR.prog [45]) (hk defs globs) (ob defs globs) 4000 loose w := by
  intro os
  kernel_rfl
end MP
end

section
set_option linter.all false
set_option maxRecDepth 100000
namespace MP
variable {n : Nat} {st : Store}
def isNum : D → Bool
  | .int _ => true
  | _ => false
theorem is_number_ok {d : D} (h : Pl d) : run P (n + 1) 1 [d] st = .ok (.bl (isNum d)) st := by
  rw [run_P P_1 rfl]
  have h := h.pl
  cases d <;> simp -dsimp [isPl] at h <;> simp -dsimp [F_is_number, evSs, evS, evE, evEs, evI, evO, evGs, forL, lcL, lcT, start, setAll, asgn, asgnL, Gs.slots, Tg.slots, wipeR, rng, rngOk, SZ, L2.atI, L2.ixN, isNum]
def amongD (ws : List D) : D → Bool
  | .str s => memb (.str s) ws
  | _ => false
theorem is_among_ok {ws : List D} {d : D} (hw : Flats ws) (h : Pl d) : run P (n + 1) 2 [.tup ws, d] st = .ok (.bl (amongD ws d)) st := by
  rw [run_P P_2 rfl]
  have h := h.pl
  cases d <;> simp -dsimp [isPl] at h <;> simp -dsimp [F_is_among, evSs, evS, evE, evEs, evI, evO, evGs, forL, lcL, lcT, start, setAll, asgn, asgnL, Gs.slots, Tg.slots, wipeR, rng, rngOk, SZ, L2.atI, L2.ixN, amongD, in_tup, hw]
def w4 : List D := [.str s_always, .str s_auto, .str s_never, .str s_room]
def wO : List D := [.str s_below, .str s_side]
def wA : List D := [.str s_drop, .str s_keep]
def slackB : D → Bool
  | .int i => decide (0 ≤ i) && decide (i ≤ 8)
  | _ => false
def goodRule : D → Bool
  | .tup [a, b, c, e, s] => amongD w4 a && amongD w4 b && amongD wO c && amongD wA e && slackB s && (e.eqb (.str s_drop) || s.eqb (.int 0))
  | _ => false
theorem G2w : P.glob 2 = some (.tup [.tup w4, .tup w4, .tup wO, .tup wA, .tup [.int 0, .int 1, .int 2, .int 3, .int 4, .int 5, .int 6, .int 7, .int 8]]) := rfl
theorem f4 : Flats w4 := rfl
theorem fO : Flats wO := rfl
theorem fA : Flats wA := rfl
theorem p_drop : Pl (.str s_drop) := rfl
theorem len5 {ds : List D} (h : ds.length = 5) : ∃ a b c d e, ds = [a, b, c, d, e] := by
  match ds, h with
  | [a, b, c, d, e], _ => exact ⟨a, b, c, d, e, rfl⟩
theorem goodRule_len {ds : List D} (h : ds.length ≠ 5) : goodRule (.tup ds) = false := by
  unfold goodRule
  split
  · rename_i e
    cases e
    exact absurd rfl h
  · rfl
theorem is_good_rule_ok {d : D} (h : Pl d) : run P (n + 2) 3 [d] st = .ok (.bl (goodRule d)) st := by
  rw [run_P P_3 rfl]
  cases d with
  | tup ds =>
    by_cases h5 : ds.length = 5
    · obtain ⟨a, b, c, d, e, rfl⟩ := len5 h5
      have hs := h.tup
      simp -dsimp only [List.mem_cons, List.not_mem_nil, or_false, forall_eq_or_imp, forall_eq] at hs
      obtain ⟨h1, h2, h3, h4, h5⟩ := hs
      cases e with
      | int i =>
        simp -dsimp [F_is_good_rule, evSs, evS, evE, evEs, evI, evO, evGs, forL, lcL, lcT, start, setAll, asgn, asgnL, Gs.slots, Tg.slots, wipeR, rng, rngOk, SZ, L2.atI, L2.ixN, G2w, -G_2, is_among_ok, is_number_ok, cmpP_eq, p_drop, h1, h2, h3, h4, h5, f4, fO, fA, isNum, goodRule, slackB]
        cases amongD w4 a <;> cases amongD w4 b <;> cases amongD wO c <;> cases amongD wA d <;> simp -dsimp
        cases d.eqb (D.str s_drop) <;> by_cases q : 0 ≤ i ∧ i ≤ 8 <;> simp -dsimp [q]
      | _ => simp -dsimp [F_is_good_rule, evSs, evS, evE, evEs, evI, evO, evGs, forL, lcL, lcT, start, setAll, asgn, asgnL, Gs.slots, Tg.slots, wipeR, rng, rngOk, SZ, L2.atI, L2.ixN, G2w, -G_2, is_among_ok, is_number_ok, cmpP_eq, p_drop, h1, h2, h3, h4, h5, f4, fO, fA, isNum, goodRule, slackB]
    · have : ((ds.length : Int) == 5) = false := by
        simp -dsimp
        omega
      simp -dsimp [F_is_good_rule, evSs, evS, evE, evEs, evI, evO, evGs, forL, lcL, lcT, start, setAll, asgn, asgnL, Gs.slots, Tg.slots, wipeR, rng, rngOk, SZ, L2.atI, L2.ixN, this, goodRule_len h5]
  | rol _ => exact absurd h.pl (by simp -dsimp [isPl])
  | loc _ => exact absurd h.pl (by simp -dsimp [isPl])
  | _ => simp -dsimp [F_is_good_rule, evSs, evS, evE, evEs, evI, evO, evGs, forL, lcL, lcT, start, setAll, asgn, asgnL, Gs.slots, Tg.slots, wipeR, rng, rngOk, SZ, L2.atI, L2.ixN, goodRule]
end MP
end

section
set_option linter.all false
set_option maxRecDepth 100000
namespace MP
variable {n : Nat} {st : Store}
theorem log2_small {x m : Nat} (h : x < 2 ^ m) (hm : 0 < m) : x.log2 < m := by
  by_cases h0 : x = 0
  · subst h0
    simpa -dsimp using hm
  · exact (Nat.log2_lt h0).mpr h
theorem mul_small {i j : Int} (hi : i.natAbs < 2 ^ 100) (hj : j.natAbs < 2 ^ 100) : mulOk i j = true := by
  have h1 := log2_small hi (by omega)
  have h2 := log2_small hj (by omega)
  unfold mulOk
  exact decide_eq_true (by omega)
/-! ### the numbers that are drawn -/
def Src (st : Store) (s : Nat) : Prop := ∃ a b : Int, st[s]? = some (.lst [.int a, .int b]) ∧ 0 ≤ b ∧ b < 2147483648
structure Nxt (s : Nat) (st st' : Store) : Prop where
  src : Src st' s
  len : st.length ≤ st'.length
  kp : ∀ j, j < st.length → j ≠ s → st'[j]? = st[j]?
theorem Nxt.trans {s : Nat} {a b c : Store} (x : Nxt s a b) (y : Nxt s b c) : Nxt s a c :=
  ⟨y.src, Nat.le_trans x.len y.len, fun j h1 h2 => (y.kp j (Nat.lt_of_lt_of_le h1 x.len) h2).trans (x.kp j h1 h2)⟩
theorem Nxt.refl {s : Nat} {a : Store} (h : Src a s) : Nxt s a a := ⟨h, Nat.le_refl _, fun _ _ _ => rfl⟩
theorem set_self {s : Nat} {c : Cell} {st : Store} {c0 : Cell} (h : st[s]? = some c0) : (st.set s c)[s]? = some c := by
  rw [List.getElem?_set_self (List.getElem?_eq_some_iff.mp h).1]
theorem pow100 : (2 : Nat) ^ 100 = 1267650600228229401496703205376 := by decide
theorem draw_ok {s : Nat} {m : Int} (h : Src st s) (hm : 0 < m) (hm2 : m < 18446744073709551616) : ∃ r st', run P (n + 1) 19 [.loc s, .int m] st = .ok (.int r) st' ∧ 0 ≤ r ∧ r < m ∧ Nxt s st st' := by
  obtain ⟨a, b, e, h0, h1⟩ := h
  have hl : m.natAbs.log2 < 9000 := by
    have := log2_small (x := m.natAbs) (m := 100) (by rw [pow100]; omega) (by omega)
    omega
  by_cases ha : 0 < a
  · refine ⟨a % m, st.set s (.lst [.int (a / m), .int b]), ?_, Int.emod_nonneg _ (by omega), Int.emod_lt_of_pos _ hm, ⟨⟨_, _, set_self e, h0, h1⟩, by simp, fun j _ q => List.getElem?_set_ne (fun z => q z.symm)⟩⟩
    rw [run_P P_19 rfl]
    simp -dsimp [F__law_draw, evSs, evS, evE, evEs, evI, evO, evGs, forL, lcL, lcT, start, setAll, asgn, asgnL, Gs.slots, Tg.slots, wipeR, rng, rngOk, SZ, L2.atI, L2.ixN, idx_loc e, ha, bin_modI, bin_divI, hm, hl, set_loc e (i := 0) (j := 0) rfl]
  · have e1 : mulOk b 48271 = true := mul_small (by rw [pow100]; omega) (by decide)
    generalize hb : b * 48271 % 2147483647 = b'
    have q0 : 0 ≤ b' := by omega
    have q1 : b' < 2147483647 := by omega
    have e2 : mulOk b' b' = true := mul_small (by rw [pow100]; omega) (by rw [pow100]; omega)
    have e' := set_self (c := .lst [.int a, .int b']) e
    refine ⟨b' * b' % 2147483629 / 64 % m, st.set s (.lst [.int a, .int b']), ?_, Int.emod_nonneg _ (by omega), Int.emod_lt_of_pos _ hm, ⟨⟨_, _, e', q0, by omega⟩, by simp, fun j _ q => List.getElem?_set_ne (fun z => q z.symm)⟩⟩
    rw [run_P P_19 rfl]
    have l6 : Nat.log2 64 < 9000 := by decide
    simp -dsimp [F__law_draw, evSs, evS, evE, evEs, evI, evO, evGs, forL, lcL, lcT, start, setAll, asgn, asgnL, Gs.slots, Tg.slots, wipeR, rng, rngOk, SZ, L2.atI, L2.ixN, idx_loc e, ha, bin_modI, bin_divI, bin_mulI, l6, e1, hb, hm, hl, set_loc e (i := 1) (j := 1) rfl, idx_loc e', e2]
theorem mod31 (x : Int) : 0 ≤ 1 + x % 2147483646 ∧ 1 + x % 2147483646 < 2147483648 := by omega
theorem source_ok {ns : List Int} {k : Nat} (hk : k ≤ 10) : ∃ a b : Int, 0 ≤ b ∧ b < 2147483648 ∧ run P (n + 1) 18 [.rol (ns.map .int), .int k] st = .ok (.loc st.length) (st ++ [.lst [.int a, .int b]]) := by
  have key : ∃ c : Int, 0 ≤ c ∧ ∀ a b : Int, ((if c < 1000000000000000000 then a = 0 ∧ b = 1 + (c * 7919 + 104729 * k) % 2147483646 else a = c ∧ b = 1 + (c + k) % 2147483646)) → run P (n + 1) 18 [.rol (ns.map .int), .int k] st = .ok (.loc st.length) (st ++ [.lst [.int a, .int b]]) := by
    have p18 : (10 : Int) ^ 18 = 1000000000000000000 := by decide
    have ek : mulOk 104729 (k : Int) = true := mul_small (by decide) (by rw [pow100]; omega)
    by_cases h : k < ns.length
    · refine ⟨if ns[k] < 0 then -ns[k] else ns[k], by split <;> omega, fun a b hab => ?_⟩
      have e1 : L2.atI (ns.map D.int) (k : Int) = some (.int ns[k]) := by
        rw [atI_nat (by simpa -dsimp using h)]
        simp -dsimp
      rw [run_P P_18 rfl]
      generalize hc : (if ns[k] < 0 then -ns[k] else ns[k]) = c at hab ⊢
      have h2 : ((k : Nat) : Int) < (ns.length : Int) := by omega
      have hc0 : 0 ≤ c := by rw [← hc]; split <;> omega
      by_cases q : c < 1000000000000000000
      · rw [if_pos q] at hab
        obtain ⟨rfl, rfl⟩ := hab
        have e3 : mulOk c 7919 = true := mul_small (by rw [pow100]; omega) (by decide)
        simp -dsimp [F__law_source, evSs, evS, evE, evEs, start, SZ, h2, e1, hc, q, p18, bin_powI, bin_mulI, bin_modI, e3, ek]
      · rw [if_neg q] at hab
        obtain ⟨rfl, rfl⟩ := hab
        simp -dsimp [F__law_source, evSs, evS, evE, evEs, start, SZ, h2, e1, hc, q, p18, bin_powI, bin_modI]
    · refine ⟨0, by omega, fun a b hab => ?_⟩
      rw [if_pos (by omega)] at hab
      obtain ⟨rfl, rfl⟩ := hab
      have h2 : ¬ (((k : Nat) : Int) < (ns.length : Int)) := by omega
      have e3 : mulOk 0 7919 = true := by decide
      rw [run_P P_18 rfl]
      simp -dsimp [F__law_source, evSs, evS, evE, evEs, start, SZ, h2, p18, bin_powI, bin_mulI, bin_modI, e3, ek]
  obtain ⟨c, hc, key⟩ := key
  by_cases q : c < 1000000000000000000
  · have z := mod31 (c * 7919 + 104729 * k)
    exact ⟨0, _, z.1, z.2, key _ _ (by rw [if_pos q]; exact ⟨rfl, rfl⟩)⟩
  · have z := mod31 (c + k)
    exact ⟨c, _, z.1, z.2, key _ _ (by rw [if_neg q]; exact ⟨rfl, rfl⟩)⟩
/-- one of these -/
theorem of_ok {s : Nat} {ds : List D} (h : Src st s) (h0 : ds ≠ []) (hz : ds.length < 1000) : ∃ d st', run P (n + 2) 20 [.loc s, .lst ds] st = .ok d st' ∧ d ∈ ds ∧ Nxt s st st' := by
  have hp : 0 < ds.length := List.length_pos_iff.mpr h0
  obtain ⟨r, st', e, r0, r1, nx⟩ := draw_ok (n := n) h (m := (ds.length : Int)) (by omega) (by omega)
  obtain ⟨k, rfl⟩ := Int.eq_ofNat_of_zero_le r0
  have hk : k < ds.length := by omega
  have hk' : ((k : Nat) : Int) < (ds.length : Int) := by omega
  refine ⟨ds[k], st', ?_, List.getElem_mem hk, nx⟩
  rw [run_P P_20 rfl]
  have e2 : L2.atI ds (k : Int) = some ds[k] := atI_nat hk
  simp -dsimp [F__law_of, evSs, evS, evE, evEs, start, e, e2]
theorem of_tup {s : Nat} {ds : List D} (h : Src st s) (h0 : ds ≠ []) (hz : ds.length < 1000) : ∃ d st', run P (n + 2) 20 [.loc s, .tup ds] st = .ok d st' ∧ d ∈ ds ∧ Nxt s st st' := by
  have hp : 0 < ds.length := List.length_pos_iff.mpr h0
  obtain ⟨r, st', e, r0, r1, nx⟩ := draw_ok (n := n) h (m := (ds.length : Int)) (by omega) (by omega)
  obtain ⟨k, rfl⟩ := Int.eq_ofNat_of_zero_le r0
  have hk : k < ds.length := by omega
  refine ⟨ds[k], st', ?_, List.getElem_mem hk, nx⟩
  rw [run_P P_20 rfl]
  have e2 : L2.atI ds (k : Int) = some ds[k] := atI_nat hk
  simp -dsimp [F__law_of, evSs, evS, evE, evEs, start, e, e2]
end MP
end

section
set_option linter.all false
set_option maxRecDepth 100000
namespace MP
variable {n : Nat} {st : Store} {s : Nat}
/-- a rule -/
def RuleD (d : D) : Prop := ∃ a b c e i, d = .tup [.str a, .str b, .str c, .str e, .int i] ∧ (a = s_always ∨ a = s_auto ∨ a = s_never ∨ a = s_room) ∧ (b = s_always ∨ b = s_auto ∨ b = s_never ∨ b = s_room) ∧ (c = s_below ∨ c = s_side) ∧ (e = s_drop ∨ (e = s_keep ∧ i = 0)) ∧ 0 ≤ i ∧ i ≤ 8
theorem word_of {d : D} (h : d ∈ [D.str s_auto, D.str s_auto, D.str s_auto, D.str s_room, D.str s_always, D.str s_never]) : ∃ a, d = .str a ∧ (a = s_always ∨ a = s_auto ∨ a = s_never ∨ a = s_room) := by
  simp -dsimp only [List.mem_cons, List.not_mem_nil, or_false] at h
  rcases h with h | h | h | h | h | h
  · exact ⟨_, h, .inr (.inl rfl)⟩
  · exact ⟨_, h, .inr (.inl rfl)⟩
  · exact ⟨_, h, .inr (.inl rfl)⟩
  · exact ⟨_, h, .inr (.inr (.inr rfl))⟩
  · exact ⟨_, h, .inl rfl⟩
  · exact ⟨_, h, .inr (.inr (.inl rfl))⟩
theorem order_of {d : D} (h : d ∈ [D.str s_side, D.str s_below]) : ∃ a, d = .str a ∧ (a = s_below ∨ a = s_side) := by
  simp -dsimp only [List.mem_cons, List.not_mem_nil, or_false] at h
  rcases h with h | h
  · exact ⟨_, h, .inr rfl⟩
  · exact ⟨_, h, .inl rfl⟩
theorem rule_ok (h : Src st s) : ∃ d st', run P (n + 3) 21 [.loc s] st = .ok d st' ∧ RuleD d ∧ Nxt s st st' := by
  obtain ⟨d1, st1, e1, m1, x1⟩ := of_ok (n := n) h (ds := [.str s_drop, .str s_drop, .str s_keep]) (by simp -dsimp) (by simp -dsimp)
  have slack : ∃ i st2, (d1 = .str s_drop ∨ (d1 = .str s_keep ∧ i = 0)) ∧ 0 ≤ i ∧ i ≤ 8 ∧ Nxt s st1 st2 ∧ (evE ⟨run P (n + 2), P.glob, P.W⟩ (.ife (.cmp .eq (.nm 2) (.str s_keep)) (.int 0) (.call 20 (.cons (.nm 0) (.cons (.lst false (.cons (.int 0) (.cons (.int 0) (.cons (.int 0) (.cons (.int 4) (.cons (.call 19 (.cons (.nm 0) (.cons (.int 9) .nil))) .nil)))))) .nil))))
      [some (.loc s), some (.lst [.str s_auto, .str s_auto, .str s_auto, .str s_room, .str s_always, .str s_never]), some d1, none, none, none] st1 = .ok (.int i) st2) := by
    simp -dsimp only [List.mem_cons, List.not_mem_nil, or_false] at m1
    have hk : d1 = .str s_drop ∨ d1 = .str s_keep := by
      rcases m1 with m | m | m
      · exact .inl m
      · exact .inl m
      · exact .inr m
    rcases hk with rfl | rfl
    · obtain ⟨r, st2, e2, r0, r1, x2⟩ := draw_ok (n := n + 1) x1.src (m := 9) (by omega) (by omega)
      obtain ⟨d3, st3, e3, m3, x3⟩ := of_ok (n := n) x2.src (ds := [.int 0, .int 0, .int 0, .int 4, .int r]) (by simp -dsimp) (by simp -dsimp)
      have : ∃ i, d3 = .int i ∧ 0 ≤ i ∧ i ≤ 8 := by
        simp -dsimp only [List.mem_cons, List.not_mem_nil, or_false] at m3
        rcases m3 with m | m | m | m | m
        · exact ⟨_, m, by omega, by omega⟩
        · exact ⟨_, m, by omega, by omega⟩
        · exact ⟨_, m, by omega, by omega⟩
        · exact ⟨_, m, by omega, by omega⟩
        · exact ⟨_, m, by omega, by omega⟩
      obtain ⟨i, rfl, i0, i1⟩ := this
      refine ⟨i, st3, .inl rfl, i0, i1, x2.trans x3, ?_⟩
      simp -dsimp [evSs, evS, evE, evEs, evI, evO, evGs, forL, lcL, lcT, start, setAll, asgn, asgnL, Gs.slots, Tg.slots, wipeR, rng, rngOk, SZ, L2.atI, L2.ixN, e2, e3]
    · exact ⟨0, st1, .inr ⟨rfl, rfl⟩, by omega, by omega, .refl x1.src, by simp -dsimp [evSs, evS, evE, evEs, evI, evO, evGs, forL, lcL, lcT, start, setAll, asgn, asgnL, Gs.slots, Tg.slots, wipeR, rng, rngOk, SZ, L2.atI, L2.ixN]⟩
  obtain ⟨i, st2, hd, i0, i1, x2, ev⟩ := slack
  obtain ⟨d3, st3, e3, m3, x3⟩ := of_ok (n := n) x2.src (ds := [.str s_auto, .str s_auto, .str s_auto, .str s_room, .str s_always, .str s_never]) (by simp -dsimp) (by simp -dsimp)
  obtain ⟨d4, st4, e4, m4, x4⟩ := of_ok (n := n) x3.src (ds := [.str s_auto, .str s_auto, .str s_auto, .str s_room, .str s_always, .str s_never]) (by simp -dsimp) (by simp -dsimp)
  obtain ⟨d5, st5, e5, m5, x5⟩ := of_ok (n := n) x4.src (ds := [.str s_side, .str s_below]) (by simp -dsimp) (by simp -dsimp)
  refine ⟨.tup [d3, d4, d5, d1, .int i], st5, ?_, ?_, (((x1.trans x2).trans x3).trans x4).trans x5⟩
  · rw [run_P P_21 rfl]
    generalize hE : (E.ife (.cmp .eq (.nm 2) (.str s_keep)) (.int 0) (.call 20 (.cons (.nm 0) (.cons (.lst false (.cons (.int 0) (.cons (.int 0) (.cons (.int 0) (.cons (.int 4) (.cons (.call 19 (.cons (.nm 0) (.cons (.int 9) .nil))) .nil)))))) .nil)))) = ex at ev
    unfold F__law_rule
    rw [hE]
    simp -dsimp [evSs, evS, evE, evEs, evI, evO, evGs, forL, lcL, lcT, start, setAll, asgn, asgnL, Gs.slots, Tg.slots, wipeR, rng, rngOk, SZ, L2.atI, L2.ixN, e1, ev, e3, e4, e5]
  · obtain ⟨a, rfl, ha⟩ := word_of m3
    obtain ⟨b, rfl, hb⟩ := word_of m4
    obtain ⟨c, rfl, hc⟩ := order_of m5
    rcases hd with rfl | ⟨rfl, rfl⟩
    · exact ⟨a, b, c, s_drop, i, rfl, ha, hb, hc, .inl rfl, i0, i1⟩
    · exact ⟨a, b, c, s_keep, 0, rfl, ha, hb, hc, .inr ⟨rfl, rfl⟩, i0, i1⟩
/-! ### letters, things, pieces -/
def letters : List D := [.str s_a, .str s_b, .str s_c, .str s_d]
def LetD (d : D) : Prop := ∃ x, d = .str x ∧ (x = s_a ∨ x = s_b ∨ x = s_c ∨ x = s_d)
theorem let_of {d : D} (h : d ∈ letters) : LetD d := by
  simp -dsimp only [letters, List.mem_cons, List.not_mem_nil, or_false] at h
  rcases h with h | h | h | h
  · exact ⟨_, h, .inl rfl⟩
  · exact ⟨_, h, .inr (.inl rfl)⟩
  · exact ⟨_, h, .inr (.inr (.inl rfl))⟩
  · exact ⟨_, h, .inr (.inr (.inr rfl))⟩
def ThingD (d : D) : Prop := (∃ i, d = .tup [.str s_picture, .int i] ∧ 1 ≤ i ∧ i ≤ 8) ∨ ∃ w x y, d = .tup [.str w, x, y] ∧ (w = s_folds ∨ w = s_fixed) ∧ LetD x ∧ LetD y
theorem thing_ok (h : Src st s) : ∃ d st', run P (n + 3) 22 [.loc s] st = .ok d st' ∧ ThingD d ∧ Nxt s st st' := by
  obtain ⟨r, st1, e1, r0, r1, x1⟩ := draw_ok (n := n + 1) h (m := 4) (by omega) (by omega)
  by_cases hr : r = 0
  · subst hr
    obtain ⟨r2, st2, e2, r20, r21, x2⟩ := draw_ok (n := n + 1) x1.src (m := 8) (by omega) (by omega)
    obtain ⟨d3, st3, e3, m3, x3⟩ := of_ok (n := n) x2.src (ds := [.int 4, .int 4, .int 2, .int (1 + r2)]) (by simp -dsimp) (by simp -dsimp)
    have : ∃ i, d3 = .int i ∧ 1 ≤ i ∧ i ≤ 8 := by
      simp -dsimp only [List.mem_cons, List.not_mem_nil, or_false] at m3
      rcases m3 with m | m | m | m
      · exact ⟨_, m, by omega, by omega⟩
      · exact ⟨_, m, by omega, by omega⟩
      · exact ⟨_, m, by omega, by omega⟩
      · exact ⟨_, m, by omega, by omega⟩
    obtain ⟨i, rfl, i0, i1⟩ := this
    refine ⟨_, st3, ?_, .inl ⟨i, rfl, i0, i1⟩, (x1.trans x2).trans x3⟩
    rw [run_P P_22 rfl]
    simp -dsimp [F__law_thing, evSs, evS, evE, evEs, evI, evO, evGs, forL, lcL, lcT, start, setAll, asgn, asgnL, Gs.slots, Tg.slots, wipeR, rng, rngOk, SZ, L2.atI, L2.ixN, e1, e2, e3]
  · obtain ⟨d2, st2, e2, m2, x2⟩ := of_ok (n := n) x1.src (ds := letters) (by simp -dsimp [letters]) (by simp -dsimp [letters])
    obtain ⟨d3, st3, e3, m3, x3⟩ := of_ok (n := n) x2.src (ds := letters) (by simp -dsimp [letters]) (by simp -dsimp [letters])
    unfold letters at e2 e3
    have hr0 : (r == 0) = false := by simpa -dsimp using hr
    by_cases hr2 : r = 1
    · refine ⟨_, st3, ?_, .inr ⟨s_folds, d2, d3, rfl, .inl rfl, let_of m2, let_of m3⟩, (x1.trans x2).trans x3⟩
      rw [run_P P_22 rfl]
      simp -dsimp [F__law_thing, evSs, evS, evE, evEs, evI, evO, evGs, forL, lcL, lcT, start, setAll, asgn, asgnL, Gs.slots, Tg.slots, wipeR, rng, rngOk, SZ, L2.atI, L2.ixN, e1, e2, e3, hr, hr2]
    · refine ⟨_, st3, ?_, .inr ⟨s_fixed, d2, d3, rfl, .inr rfl, let_of m2, let_of m3⟩, (x1.trans x2).trans x3⟩
      rw [run_P P_22 rfl]
      simp -dsimp [F__law_thing, evSs, evS, evE, evEs, evI, evO, evGs, forL, lcL, lcT, start, setAll, asgn, asgnL, Gs.slots, Tg.slots, wipeR, rng, rngOk, SZ, L2.atI, L2.ixN, e1, e2, e3, hr, hr2]
def ViewD (d : D) : Prop := ∃ r l t, d = .tup [.str s_view, r, l, t] ∧ RuleD r ∧ LetD l ∧ ThingD t
/-- a drawn piece -/
def PieceD (nested : Bool) (d : D) : Prop := (nested = false ∧ (ThingD d ∨ ∃ p q, d = .tup [.str s_stack, p, q] ∧ ThingD p ∧ ThingD q)) ∨
  (nested = true ∧ (ViewD d ∨ ∃ p q, d = .tup [.str s_stack, p, q] ∧ ((ViewD p ∧ ThingD q) ∨ (ThingD p ∧ ViewD q))))
theorem piece_ok (h : Src st s) (b : Bool) : ∃ d st', run P (n + 4) 23 [.loc s, .bl b] st = .ok d st' ∧ PieceD b d ∧ Nxt s st st' := by
  obtain ⟨d1, st1, e1, t1, x1⟩ := thing_ok (n := n) h
  obtain ⟨d2, st2, e2, t2, x2⟩ := thing_ok (n := n) x1.src
  obtain ⟨r, st3, e3, r0, r1, x3⟩ := draw_ok (n := n + 2) x2.src (m := 2) (by omega) (by omega)
  cases b with
  | false =>
    by_cases hr : r = 0
    · refine ⟨d1, st3, ?_, .inl ⟨rfl, .inl t1⟩, (x1.trans x2).trans x3⟩
      rw [run_P P_23 rfl]
      simp -dsimp [F__law_piece, evSs, evS, evE, evEs, evI, evO, evGs, forL, lcL, lcT, start, setAll, asgn, asgnL, Gs.slots, Tg.slots, wipeR, rng, rngOk, SZ, L2.atI, L2.ixN, e1, e2, e3, hr]
    · refine ⟨_, st3, ?_, .inl ⟨rfl, .inr ⟨d1, d2, rfl, t1, t2⟩⟩, (x1.trans x2).trans x3⟩
      rw [run_P P_23 rfl]
      simp -dsimp [F__law_piece, evSs, evS, evE, evEs, evI, evO, evGs, forL, lcL, lcT, start, setAll, asgn, asgnL, Gs.slots, Tg.slots, wipeR, rng, rngOk, SZ, L2.atI, L2.ixN, e1, e2, e3, hr]
  | true =>
    obtain ⟨d4, st4, e4, t4, x4⟩ := rule_ok (n := n) x3.src
    obtain ⟨d5, st5, e5, m5, x5⟩ := of_ok (n := n + 1) x4.src (ds := letters) (by simp -dsimp [letters]) (by simp -dsimp [letters])
    have e5' := e5
    unfold letters at e5'
    obtain ⟨d6, st6, e6, m6, x6⟩ := of_ok (n := n + 1) x5.src (ds := [.tup [.str s_view, d4, d5, d1], .tup [.str s_stack, .tup [.str s_view, d4, d5, d1], d2], .tup [.str s_stack, d2, .tup [.str s_view, d4, d5, d1]]]) (by simp -dsimp) (by simp -dsimp)
    have v : ViewD (.tup [.str s_view, d4, d5, d1]) := ⟨d4, d5, d1, rfl, t4, let_of m5, t1⟩
    refine ⟨d6, st6, ?_, .inr ⟨rfl, ?_⟩, ((((x1.trans x2).trans x3).trans x4).trans x5).trans x6⟩
    · rw [run_P P_23 rfl]
      by_cases hr : r = 0 <;> simp -dsimp [F__law_piece, evSs, evS, evE, evEs, evI, evO, evGs, forL, lcL, lcT, start, setAll, asgn, asgnL, Gs.slots, Tg.slots, wipeR, rng, rngOk, SZ, L2.atI, L2.ixN, e1, e2, e3, hr, e4, e5', e6]
    · simp -dsimp only [List.mem_cons, List.not_mem_nil, or_false] at m6
      rcases m6 with rfl | rfl | rfl
      · exact .inl v
      · exact .inr ⟨_, _, rfl, .inl ⟨v, t2⟩⟩
      · exact .inr ⟨_, _, rfl, .inr ⟨t2, v⟩⟩
def WinD (nested : Bool) (d : D) : Prop := ∃ r p, d = .tup [r, p] ∧ RuleD r ∧ PieceD nested p
theorem window_ok (h : Src st s) (b : Bool) : ∃ d st', run P (n + 5) 24 [.loc s, .bl b] st = .ok d st' ∧ WinD b d ∧ Nxt s st st' := by
  obtain ⟨d1, st1, e1, t1, x1⟩ := rule_ok (n := n + 1) h
  obtain ⟨d2, st2, e2, t2, x2⟩ := piece_ok (n := n) x1.src b
  refine ⟨_, st2, ?_, ⟨d1, d2, rfl, t1, t2⟩, x1.trans x2⟩
  rw [run_P P_24 rfl]
  simp -dsimp [F__law_window, evSs, evS, evE, evEs, evI, evO, evGs, forL, lcL, lcT, start, setAll, asgn, asgnL, Gs.slots, Tg.slots, wipeR, rng, rngOk, SZ, L2.atI, L2.ixN, e1, e2]
end MP
end

section
set_option linter.all false
set_option maxRecDepth 100000
namespace MP
variable {n : Nat} {st : Store} {s : Nat}
/-- sizes -/
def SizesD (d : D) : Prop := ∃ F : List Int, d = .tup (F.map .int) ∧ F.length = 7 ∧ (∀ x ∈ F, 1 ≤ x ∧ x ≤ 1000) ∧ ∃ w h b, F[0]? = some w ∧ F[1]? = some h ∧ F[2]? = some b ∧ 2 * b < w
theorem max1 (x : Int) : (if x > 1 then x else 1) = max 1 x := by
  rw [Int.max_def]
  split <;> split <;> omega
end MP
end

section
set_option linter.all false
set_option maxRecDepth 100000
set_option maxHeartbeats 0
namespace MP
variable {n : Nat} {st : Store} {s : Nat}
theorem cut1 {α : Type} (x : α) (r : List α) : cut (x :: r) (some 1) none = r := by
  simp -dsimp [cut, HT.sIx]
theorem fLet : Flats letters := rfl
theorem fFF : Flats [.str s_fixed, .str s_folds] := rfl
theorem G1w : P.glob 1 = some (.tup letters) := rfl
def picB : D → Bool
  | .int i => decide (1 ≤ i) && decide (i ≤ 8)
  | _ => false
def thingB (w : T) (r : List D) : Bool := if w == s_picture then (match r with
    | [x] => picB x
    | _ => false)
  else if w == s_fixed || w == s_folds then (match r with
    | [x, y] => amongD letters x && amongD letters y
    | _ => false)
  else false
def shape : Nat → D → Bool
  | 0, _ => false
  | k + 1, d => match d with
    | .tup (.str w :: r) => if w == s_stack then (match r with
        | [x, y] => shape k x && shape k y
        | _ => false)
      else if w == s_view then (match r with
        | [x, y, z] => goodRule x && amongD letters y && shape k z
        | _ => false)
      else thingB w r
    | _ => false
theorem pl_nil : Pl (.tup []) := rfl
theorem lenne {r : List D} {k : Nat} (h : r.length ≠ k) : ((r.length : Int) == (k : Int)) = false := by
  simp -dsimp
  omega
theorem word_cases (w : T) : w = s_picture ∨ w = s_fixed ∨ w = s_folds ∨ w = s_stack ∨ w = s_view ∨ ((w == s_picture) = false ∧ (w == s_fixed) = false ∧ (w == s_folds) = false ∧ (w == s_stack) = false ∧ (w == s_view) = false) := by
  by_cases h1 : w = s_picture
  · exact .inl h1
  by_cases h2 : w = s_fixed
  · exact .inr (.inl h2)
  by_cases h3 : w = s_folds
  · exact .inr (.inr (.inl h3))
  by_cases h4 : w = s_stack
  · exact .inr (.inr (.inr (.inl h4)))
  by_cases h5 : w = s_view
  · exact .inr (.inr (.inr (.inr (.inl h5))))
  exact .inr (.inr (.inr (.inr (.inr ⟨by simpa -dsimp using h1, by simpa -dsimp using h2, by simpa -dsimp using h3, by simpa -dsimp using h4, by simpa -dsimp using h5⟩))))
theorem pic_eq (x : D) : picB x = (isNum x && (match x with
  | .int i => decide (1 ≤ i) && decide (i ≤ 8)
  | _ => true)) := by cases x <;> rfl
theorem is_shape_ok : ∀ (k : Nat) {n : Nat} {d : D} {st : Store}, Pl d → run P (n + k + 3) 4 [d, .int k] st = .ok (.bl (shape k d)) st := by
  intro k
  induction k with
  | zero =>
    intro n d st h
    rw [run_P P_4 rfl]
    cases d with
    | tup ds =>
      cases ds with
      | nil => simp -dsimp [F_is_shape, evSs, evS, evE, evEs, evI, evO, evGs, forL, lcL, lcT, start, setAll, asgn, asgnL, Gs.slots, Tg.slots, wipeR, rng, rngOk, SZ, L2.atI, L2.ixN, shape, cmpP_eq, pl_nil]
      | cons x r =>
        cases x with
        | rol _ => exact absurd (h.tup _ (List.mem_cons_self ..)).pl (by simp -dsimp [isPl])
        | loc _ => exact absurd (h.tup _ (List.mem_cons_self ..)).pl (by simp -dsimp [isPl])
        | _ => simp -dsimp [F_is_shape, evSs, evS, evE, evEs, evI, evO, evGs, forL, lcL, lcT, start, setAll, asgn, asgnL, Gs.slots, Tg.slots, wipeR, rng, rngOk, SZ, L2.atI, L2.ixN, shape, cmpP_eq, pl_nil, h, show ¬ ((r.length : Int) + 1 ≤ 0) by omega, show (0 : Int) < (r.length : Int) + 1 by omega]
    | rol _ => exact absurd h.pl (by simp -dsimp [isPl])
    | loc _ => exact absurd h.pl (by simp -dsimp [isPl])
    | _ => simp -dsimp [F_is_shape, evSs, evS, evE, evEs, evI, evO, evGs, forL, lcL, lcT, start, setAll, asgn, asgnL, Gs.slots, Tg.slots, wipeR, rng, rngOk, SZ, L2.atI, L2.ixN, shape]
  | succ k ih =>
    intro n d st h
    have e0 : n + (k + 1) + 3 = (n + k + 3) + 1 := by omega
    rw [e0, run_P P_4 rfl]
    have ih' : ∀ (d : D) (st : Store), Pl d → run P (n + k + 3) 4 [d, .int k] st = .ok (.bl (shape k d)) st := fun d st hd => ih hd
    cases d with
    | tup ds =>
      cases ds with
      | nil => simp -dsimp [F_is_shape, evSs, evS, evE, evEs, evI, evO, evGs, forL, lcL, lcT, start, setAll, asgn, asgnL, Gs.slots, Tg.slots, wipeR, rng, rngOk, SZ, L2.atI, L2.ixN, shape, cmpP_eq, pl_nil]
      | cons x r =>
        have hx := h.tup
        have k1 : ¬ ((k : Int) + 1 < 1) := by omega
        have k2 : ((k : Int) + 1 - 1) = k := by omega
        cases x with
        | str w =>
          have l0 : (0 : Int) < (r.length : Int) + 1 := by omega
          have hr : ∀ x ∈ r, Pl x := fun x hx' => hx x (List.mem_cons_of_mem _ hx')
          match r, hr, h, l0 with
          | [], hr, h, _ =>
            rcases word_cases w with rfl | rfl | rfl | rfl | rfl | ⟨w1, w2, w3, w4, w5⟩
            case inr.inr.inr.inr.inr => simp -dsimp [F_is_shape, evSs, evS, evE, evEs, evI, evO, evGs, forL, lcL, lcT, start, setAll, asgn, asgnL, Gs.slots, Tg.slots, wipeR, rng, rngOk, SZ, L2.atI, L2.ixN, shape, cmpP_eq, pl_nil, h, k1, k2, cut1, in_tup, fFF, memb, thingB, G1w, -G_1, fLet, ih', w1, w2, w3, w4, w5, Bool.beq_comm]
            all_goals simp -dsimp [F_is_shape, evSs, evS, evE, evEs, evI, evO, evGs, forL, lcL, lcT, start, setAll, asgn, asgnL, Gs.slots, Tg.slots, wipeR, rng, rngOk, SZ, L2.atI, L2.ixN, shape, cmpP_eq, pl_nil, h, k1, k2, cut1, in_tup, fFF, memb, thingB, G1w, -G_1, fLet, ih', s_picture, s_fixed, s_folds, s_stack, s_view]
          | [x], hr, h, _ =>
            have hx1 := hr x (by simp -dsimp)
            cases x with
            | rol _ => exact absurd hx1.pl (by simp -dsimp [isPl])
            | loc _ => exact absurd hx1.pl (by simp -dsimp [isPl])
            | _ =>
              rcases word_cases w with rfl | rfl | rfl | rfl | rfl | ⟨w1, w2, w3, w4, w5⟩
              case inr.inr.inr.inr.inr => simp -dsimp [F_is_shape, evSs, evS, evE, evEs, evI, evO, evGs, forL, lcL, lcT, start, setAll, asgn, asgnL, Gs.slots, Tg.slots, wipeR, rng, rngOk, SZ, L2.atI, L2.ixN, shape, cmpP_eq, pl_nil, h, k1, k2, cut1, in_tup, fFF, memb, thingB, G1w, -G_1, fLet, ih', is_number_ok, hx1, isNum, picB, w1, w2, w3, w4, w5, Bool.beq_comm]
              all_goals simp -dsimp [F_is_shape, evSs, evS, evE, evEs, evI, evO, evGs, forL, lcL, lcT, start, setAll, asgn, asgnL, Gs.slots, Tg.slots, wipeR, rng, rngOk, SZ, L2.atI, L2.ixN, shape, cmpP_eq, pl_nil, h, k1, k2, cut1, in_tup, fFF, memb, thingB, G1w, -G_1, fLet, ih', is_number_ok, hx1, isNum, picB, s_picture, s_fixed, s_folds, s_stack, s_view]
          | [x, y], hr, h, _ =>
            have hx1 := hr x (by simp -dsimp)
            have hx2 := hr y (by simp -dsimp)
            rcases word_cases w with rfl | rfl | rfl | rfl | rfl | ⟨w1, w2, w3, w4, w5⟩
            case inr.inr.inr.inr.inr => simp -dsimp [F_is_shape, evSs, evS, evE, evEs, evI, evO, evGs, forL, lcL, lcT, start, setAll, asgn, asgnL, Gs.slots, Tg.slots, wipeR, rng, rngOk, SZ, L2.atI, L2.ixN, shape, cmpP_eq, pl_nil, h, k1, k2, cut1, in_tup, fFF, memb, thingB, G1w, -G_1, fLet, ih', is_among_ok, hx1, hx2, w1, w2, w3, w4, w5, Bool.beq_comm]
            all_goals simp -dsimp [F_is_shape, evSs, evS, evE, evEs, evI, evO, evGs, forL, lcL, lcT, start, setAll, asgn, asgnL, Gs.slots, Tg.slots, wipeR, rng, rngOk, SZ, L2.atI, L2.ixN, shape, cmpP_eq, pl_nil, h, k1, k2, cut1, in_tup, fFF, memb, thingB, G1w, -G_1, fLet, ih', is_among_ok, hx1, hx2, s_picture, s_fixed, s_folds, s_stack, s_view]
          | [x, y, z], hr, h, _ =>
            have hx1 := hr x (by simp -dsimp)
            have hx2 := hr y (by simp -dsimp)
            have hx3 := hr z (by simp -dsimp)
            rcases word_cases w with rfl | rfl | rfl | rfl | rfl | ⟨w1, w2, w3, w4, w5⟩
            case inr.inr.inr.inr.inr => simp -dsimp [F_is_shape, evSs, evS, evE, evEs, evI, evO, evGs, forL, lcL, lcT, start, setAll, asgn, asgnL, Gs.slots, Tg.slots, wipeR, rng, rngOk, SZ, L2.atI, L2.ixN, shape, cmpP_eq, pl_nil, h, k1, k2, cut1, in_tup, fFF, memb, thingB, G1w, -G_1, fLet, ih', is_among_ok, is_good_rule_ok, hx1, hx2, hx3, w1, w2, w3, w4, w5, Bool.beq_comm]
            all_goals simp -dsimp [F_is_shape, evSs, evS, evE, evEs, evI, evO, evGs, forL, lcL, lcT, start, setAll, asgn, asgnL, Gs.slots, Tg.slots, wipeR, rng, rngOk, SZ, L2.atI, L2.ixN, shape, cmpP_eq, pl_nil, h, k1, k2, cut1, in_tup, fFF, memb, thingB, G1w, -G_1, fLet, ih', is_among_ok, is_good_rule_ok, hx1, hx2, hx3, s_picture, s_fixed, s_folds, s_stack, s_view]
            all_goals (cases goodRule x <;> cases amongD letters y <;> simp -dsimp)
          | x :: y :: z :: t :: r, hr, h, l0 =>
            have q1 : ¬ ((r.length : Int) + 1 + 1 + 1 + 1 = 1) := by omega
            have q2 : ¬ ((r.length : Int) + 1 + 1 + 1 + 1 = 2) := by omega
            have q3 : ¬ ((r.length : Int) + 1 + 1 + 1 + 1 = 3) := by omega
            simp -dsimp only [List.length_cons, Int.natCast_add, Int.cast_ofNat_Int] at l0
            rcases word_cases w with rfl | rfl | rfl | rfl | rfl | ⟨w1, w2, w3, w4, w5⟩
            case inr.inr.inr.inr.inr => simp -dsimp [F_is_shape, evSs, evS, evE, evEs, evI, evO, evGs, forL, lcL, lcT, start, setAll, asgn, asgnL, Gs.slots, Tg.slots, wipeR, rng, rngOk, SZ, L2.atI, L2.ixN, shape, cmpP_eq, pl_nil, h, k1, k2, cut1, in_tup, fFF, memb, thingB, G1w, -G_1, fLet, ih', l0, q1, q2, q3, w1, w2, w3, w4, w5, Bool.beq_comm]
            all_goals simp -dsimp [F_is_shape, evSs, evS, evE, evEs, evI, evO, evGs, forL, lcL, lcT, start, setAll, asgn, asgnL, Gs.slots, Tg.slots, wipeR, rng, rngOk, SZ, L2.atI, L2.ixN, shape, cmpP_eq, pl_nil, h, k1, k2, cut1, in_tup, fFF, memb, thingB, G1w, -G_1, fLet, ih', l0, q1, q2, q3, s_picture, s_fixed, s_folds, s_stack, s_view]
        | rol _ => exact absurd (h.tup _ (List.mem_cons_self ..)).pl (by simp -dsimp [isPl])
        | loc _ => exact absurd (h.tup _ (List.mem_cons_self ..)).pl (by simp -dsimp [isPl])
        | _ => simp -dsimp [F_is_shape, evSs, evS, evE, evEs, evI, evO, evGs, forL, lcL, lcT, start, setAll, asgn, asgnL, Gs.slots, Tg.slots, wipeR, rng, rngOk, SZ, L2.atI, L2.ixN, shape, cmpP_eq, pl_nil, h, show ¬ ((r.length : Int) + 1 ≤ 0) by omega, show (0 : Int) < (r.length : Int) + 1 by omega]
    | rol _ => exact absurd h.pl (by simp -dsimp [isPl])
    | loc _ => exact absurd h.pl (by simp -dsimp [isPl])
    | _ => simp -dsimp [F_is_shape, evSs, evS, evE, evEs, evI, evO, evGs, forL, lcL, lcT, start, setAll, asgn, asgnL, Gs.slots, Tg.slots, wipeR, rng, rngOk, SZ, L2.atI, L2.ixN, shape]
end MP
end

section
set_option linter.all false
set_option maxRecDepth 100000
set_option maxHeartbeats 0
/-! What the program takes for windows and sizes. -/
namespace MP
variable {n : Nat} {st : Store} {s : Nat}
def isStr : D → Bool
  | .str _ => true
  | _ => false
theorem isStr_str (x : T) : isStr (.str x) = true := rfl
theorem isi_str_pl {d : D} (h : Pl d) : evIsi d .str st = some (isStr d) := by
  have h := h.pl
  cases d <;> simp -dsimp [isPl] at h <;> rfl
theorem str_or (d : D) : (∃ x, d = .str x) ∨ isStr d = false := by
  cases d <;> first | exact .inl ⟨_, rfl⟩ | exact .inr rfl
theorem among_not {ws : List D} {d : D} (h : isStr d = false) : amongD ws d = false := by
  cases d <;> first | rfl | cases h
theorem fm_filter (p : D → Bool) : ∀ ds : List D, (ds.flatMap fun x => if p x = true then [x] else []) = ds.filter p
  | [] => rfl
  | x :: ds => by
    rw [List.flatMap_cons, fm_filter p ds, List.filter_cons]
    cases p x <;> rfl
theorem among_str {ws : List D} {d : D} (h : amongD ws d = true) : ∃ x, d = .str x ∧ memb (.str x) ws = true := by
  cases d <;> first | exact ⟨_, rfl, h⟩ | cases h
mutual
def sm : D → Bool
  | .tup ds => decide (ds.length ≤ 1000) && sms ds
  | .lst ds => decide (ds.length ≤ 1000) && sms ds
  | .int i => decide (i.natAbs < 10 ^ 60)
  | _ => true
def sms : List D → Bool
  | [] => true
  | d :: ds => sm d && sms ds
end
theorem sms_all : ∀ {ds : List D}, sms ds = true ↔ ∀ d ∈ ds, sm d = true
  | [] => by simp -dsimp [sms]
  | d :: ds => by simp -dsimp [sms, sms_all (ds := ds)]
theorem sm_tup {ds : List D} (h : sm (.tup ds) = true) : ds.length ≤ 1000 ∧ ∀ d ∈ ds, sm d = true := by
  simp -dsimp only [sm, Bool.and_eq_true, decide_eq_true_eq] at h
  exact ⟨h.1, sms_all.mp h.2⟩
theorem nl_fixed : amongD letters (.str s_fixed) = false := rfl
theorem nl_folds : amongD letters (.str s_folds) = false := rfl
/-- the pieces of a piece -/
def pcs : Nat → D → List D
  | 0, d => [d]
  | k + 1, d => match d with
    | .tup [.str w, x, y] => if w == s_stack then d :: (pcs k x ++ pcs k y) else [d]
    | .tup [.str w, _, _, z] => if w == s_view then d :: pcs k z else [d]
    | _ => [d]
def headW : D → T
  | .tup (.str w :: _) => w
  | _ => []
theorem shape_form {k : Nat} {d : D} (h : shape k d = true) : ∃ w r, d = .tup (.str w :: r) := by
  cases k with
  | zero => cases h
  | succ k =>
    unfold shape at h
    split at h
    · exact ⟨_, _, rfl⟩
    · cases h
theorem shape_stack {k : Nat} {r : List D} (h : shape (k + 1) (.tup (.str s_stack :: r)) = true) : ∃ x y, r = [x, y] ∧ shape k x = true ∧ shape k y = true := by
  simp -dsimp only [shape, show (s_stack == s_stack) = true from rfl, if_true] at h
  split at h
  · simp -dsimp only [Bool.and_eq_true] at h
    exact ⟨_, _, rfl, h.1, h.2⟩
  · cases h
theorem shape_view {k : Nat} {r : List D} (h : shape (k + 1) (.tup (.str s_view :: r)) = true) : ∃ x y z, r = [x, y, z] ∧ goodRule x = true ∧ amongD letters y = true ∧ shape k z = true := by
  simp -dsimp only [shape, show (s_view == s_stack) = false from rfl, show (s_view == s_view) = true from rfl, if_true, Bool.false_eq_true, if_false] at h
  split at h
  · simp -dsimp only [Bool.and_eq_true] at h
    exact ⟨_, _, _, rfl, h.1.1, h.1.2, h.2⟩
  · cases h
theorem pcs_len : ∀ (k : Nat) (d : D), (pcs k d).length ≤ 2 ^ k * 2 - 1
  | 0, d => by simp -dsimp [pcs]
  | k + 1, d => by
    have hp : 0 < 2 ^ k := Nat.two_pow_pos k
    unfold pcs
    split
    · split
      · have h1 := pcs_len k
        rename_i x y _
        have hx := h1 x
        have hy := h1 y
        rw [List.length_cons, List.length_append, Nat.pow_succ]
        omega
      · rw [List.length_singleton, Nat.pow_succ]; omega
    · split
      · have h1 := pcs_len k
        rename_i z _
        have hz := h1 z
        rw [List.length_cons, Nat.pow_succ]
        omega
      · rw [List.length_singleton, Nat.pow_succ]; omega
    · rw [List.length_singleton, Nat.pow_succ]; omega
/-- leaves and views; views -/
def cnt (ds : List D) : Int × Int := ((ds.filter fun d => !(headW d == s_stack)).length, (ds.filter fun d => headW d == s_view).length)
theorem cnt_app (a b : List D) : cnt (a ++ b) = ((cnt a).1 + (cnt b).1, (cnt a).2 + (cnt b).2) := by
  simp -dsimp [cnt, List.filter_append]
theorem thing_words {w : T} {r : List D} (h : thingB w r = true) : (w == s_stack) = false ∧ (w == s_view) = false := by
  unfold thingB at h
  split at h
  · rename_i q
    cases beq_iff_eq.mp q
    exact ⟨rfl, rfl⟩
  · split at h
    · rename_i q
      simp -dsimp only [Bool.or_eq_true, beq_iff_eq] at q
      rcases q with rfl | rfl <;> exact ⟨rfl, rfl⟩
    · cases h
/-- a piece that is of no shape is too heavy, the others weigh what is counted -/
theorem cnt_one {w : T} {r : List D} (h1 : (w == s_stack) = false) (h2 : (w == s_view) = false) : cnt [.tup (.str w :: r)] = (1, 0) := by
  simp -dsimp [cnt, headW, h1, h2]
theorem pcs_thing {k : Nat} {w : T} {r : List D} (h1 : (w == s_stack) = false) (h2 : (w == s_view) = false) : pcs k (.tup (.str w :: r)) = [.tup (.str w :: r)] := by
  cases k with
  | zero => rfl
  | succ k =>
    unfold pcs
    split
    · rename_i e
      cases e
      simp -dsimp [h1]
    · rename_i e
      cases e
      simp -dsimp [h2]
    · rfl
theorem pcs_small {k : Nat} (h : k ≤ 5) (d : D) : (pcs k d).length ≤ 63 := by
  have h1 := pcs_len k d
  have h2 : 2 ^ k ≤ 2 ^ 5 := Nat.pow_le_pow_right (by omega) h
  omega
theorem pieces_ok : ∀ (k : Nat) {n : Nat} {d : D} {st : Store}, k ≤ 5 → shape k d = true → run P (n + k) 5 [d] st = .ok (.lst (pcs k d)) st := by
  intro k
  induction k with
  | zero => intro n d st _ h; simp -dsimp [shape] at h
  | succ k ih =>
    intro n d st hk h
    obtain ⟨w, r, rfl⟩ := shape_form h
    rw [show n + (k + 1) = (n + k) + 1 by omega, run_P P_5 rfl]
    have l0 : (0 : Int) < (r.length : Int) + 1 := by omega
    by_cases q1 : w = s_stack
    · subst q1
      obtain ⟨x, y, rfl, hx, hy⟩ := shape_stack h
      have e1 : ∀ st, run P (n + k) 5 [x] st = .ok (.lst (pcs k x)) st := fun st => ih (by omega) hx
      have e2 : ∀ st, run P (n + k) 5 [y] st = .ok (.lst (pcs k y)) st := fun st => ih (by omega) hy
      have z1 := pcs_small (k := k) (by omega) x
      have z2 := pcs_small (k := k) (by omega) y
      have a1 : ∀ a st, evBin .add (.lst [a]) (.lst (pcs k x)) st = some (.lst (a :: pcs k x)) := fun a st => bin_addL _ _ (show 1 + _ ≤ 16777216 by omega)
      have a2 : ∀ a st, evBin .add (.lst (a :: pcs k x)) (.lst (pcs k y)) st = some (.lst (a :: (pcs k x ++ pcs k y))) := fun a st => bin_addL _ _ (by rw [List.length_cons]; show _ ≤ 16777216; omega)
      simp -dsimp [F_pieces_of, evSs, evS, evE, evEs, evI, evO, evGs, forL, lcL, lcT, start, setAll, asgn, asgnL, Gs.slots, Tg.slots, wipeR, rng, rngOk, SZ, L2.atI, L2.ixN, pcs, e1, e2, a1, a2]
    · by_cases q2 : w = s_view
      · subst q2
        obtain ⟨x, y, z, rfl, hx, hy, hz⟩ := shape_view h
        have e1 : ∀ st, run P (n + k) 5 [z] st = .ok (.lst (pcs k z)) st := fun st => ih (by omega) hz
        have z1 := pcs_small (k := k) (by omega) z
        have a1 : ∀ a st, evBin .add (.lst [a]) (.lst (pcs k z)) st = some (.lst (a :: pcs k z)) := fun a st => bin_addL _ _ (show 1 + _ ≤ 16777216 by omega)
        simp -dsimp [F_pieces_of, evSs, evS, evE, evEs, evI, evO, evGs, forL, lcL, lcT, start, setAll, asgn, asgnL, Gs.slots, Tg.slots, wipeR, rng, rngOk, SZ, L2.atI, L2.ixN, pcs, e1, a1, q1]
      · rw [pcs_thing (by simpa -dsimp using q1) (by simpa -dsimp using q2)]
        simp -dsimp [F_pieces_of, evSs, evS, evE, evEs, evI, evO, evGs, forL, lcL, lcT, start, setAll, asgn, asgnL, Gs.slots, Tg.slots, wipeR, rng, rngOk, SZ, L2.atI, L2.ixN, q1, q2, l0]
theorem pcs_form : ∀ (k : Nat) (d : D), shape k d = true → ∀ p ∈ pcs k d, ∃ w r, p = .tup (.str w :: r)
  | 0, d, h => by simp -dsimp [shape] at h
  | k + 1, d, h => by
    obtain ⟨w, r, rfl⟩ := shape_form h
    intro p hp
    by_cases q1 : w = s_stack
    · subst q1
      obtain ⟨x, y, rfl, hx, hy⟩ := shape_stack h
      simp -dsimp [pcs] at hp
      rcases hp with rfl | hp | hp
      · exact ⟨_, _, rfl⟩
      · exact pcs_form k x hx p hp
      · exact pcs_form k y hy p hp
    · by_cases q2 : w = s_view
      · subst q2
        obtain ⟨x, y, z, rfl, hx, hy, hz⟩ := shape_view h
        simp -dsimp [pcs] at hp
        rcases hp with rfl | hp
        · exact ⟨_, _, rfl⟩
        · exact pcs_form k z hz p hp
      · rw [pcs_thing (by simpa -dsimp using q1) (by simpa -dsimp using q2)] at hp
        cases List.mem_singleton.mp hp
        exact ⟨_, _, rfl⟩
def goodPiece (d : D) : Bool := shape 5 d && decide ((cnt (pcs 5 d)).2 ≤ 1) && decide ((cnt (pcs 5 d)).1 ≤ 4)
theorem words_ok {Γ : G} {ys ds : List D} {ρ : Rho} (h : ∀ p ∈ ds, ∃ w r, p = .tup (.str w :: r)) (hz : ds.length ≤ 1000) (hρ : ρ.length = 3) : lcL ⟨ys, []⟩ (.nm 2) (lcT (evO Γ .none) (evGs Γ (.elt (.idx (.nm 2) (.int 0))))) ds ρ st [] = .ok (ds.map fun p => .str (headW p)) st := by
  have e := lcL_ok (i := 2) (ys := ys) (f := lcT (evO Γ .none) (evGs Γ (.elt (.idx (.nm 2) (.int 0))))) (ρ := ρ) (st := st) (fun p => [.str (headW p)]) (by omega) ds [] (fun x hx acc ha => ?_) ?_
  · rw [e]
    congr 1
    clear e h hz
    induction ds with
    | nil => rfl
    | cons p ds ih => simpa -dsimp using ih
  · obtain ⟨w, r, rfl⟩ := h x hx
    have e4 : (ρ.set 2 (some (.tup (.str w :: r))))[2]? = some (some (.tup (.str w :: r))) := List.getElem?_set_self (by omega)
    have ha : acc.length + 1 ≤ 16777216 := ha
    have l0 : (0 : Int) < (r.length : Int) + 1 := by omega
    have hz2 : acc.length < 16777216 := by omega
    simp -dsimp [lcT, evO, evE, evGs, e4, SZ, L2.atI, L2.ixN, hz2, headW, l0]
  · show 0 + _ ≤ 16777216
    have : (ds.flatMap fun p => [D.str (headW p)]).length = ds.length := by
      clear h hz
      induction ds with
      | nil => rfl
      | cons p ds ih => simpa -dsimp using ih
    omega
theorem count_map (t : T) : ∀ ds : List D, ((ds.map fun p => headW p).count t) = (ds.filter fun d => headW d == t).length
  | [] => rfl
  | d :: ds => by
    rw [List.map_cons, List.count_cons, count_map t ds, List.filter_cons]
    cases headW d == t <;> simp -dsimp
theorem filter_split (p : D → Bool) : ∀ ds : List D, (ds.filter fun d => !p d).length + (ds.filter p).length = ds.length
  | [] => rfl
  | d :: ds => by
    have := filter_split p ds
    rw [List.filter_cons, List.filter_cons]
    cases p d <;> simp -dsimp <;> omega
theorem G4w : P.glob 4 = some (.int ((5 : Nat) : Int)) := rfl
theorem is_good_piece_ok {d : D} (h : Pl d) : run P (n + 9) 6 [d] st = .ok (.bl (goodPiece d)) st := by
  rw [run_P P_6 rfl]
  have e1 : ∀ st, run P (n + 8) 4 [d, .int ((5 : Nat) : Int)] st = .ok (.bl (shape 5 d)) st := fun st => is_shape_ok 5 (n := n) h
  have e1' : ∀ st, run P (n + 8) 4 [d, .int 5] st = .ok (.bl (shape 5 d)) st := e1
  cases hs : shape 5 d with
  | false => simp -dsimp [F_is_good_piece, evSs, evS, evE, evEs, start, e1', hs, goodPiece]
  | true =>
    have e2 : ∀ st, run P (n + 8) 5 [d] st = .ok (.lst (pcs 5 d)) st := fun st => pieces_ok 5 (n := n + 3) (by omega) hs
    have hz := pcs_small (k := 5) (by omega) d
    have e3 := fun (Γ : G) (ys : List D) (ρ : Rho) (st : Store) (hρ : ρ.length = 3) => words_ok (Γ := Γ) (ys := ys) (ρ := ρ) (st := st) (pcs_form 5 d hs) (by omega) hρ
    have e4 : strsOf ((pcs 5 d).map fun p => .str (headW p)) = some ((pcs 5 d).map fun p => headW p) := by
      have := strs_map ((pcs 5 d).map fun p => headW p)
      rw [List.map_map] at this
      exact this
    have e5 := filter_split (fun d => headW d == s_stack) (pcs 5 d)
    simp -dsimp [F_is_good_piece, evSs, evS, evE, evEs, evI, start, wipeR, Tg.slots, Gs.slots, e1', e2, e3, hs, e4, count_map, goodPiece, cnt]
    have e6 : ((pcs 5 d).length : Int) - ((pcs 5 d).filter fun d => headW d == s_stack).length = ((pcs 5 d).filter fun d => !(headW d == s_stack)).length := by omega
    rw [e6]
    rfl
def goodWin : D → Bool
  | .tup [r, p] => goodRule r && goodPiece p
  | _ => false
theorem len2 {ds : List D} (h : ds.length = 2) : ∃ a b, ds = [a, b] := by
  match ds, h with
  | [a, b], _ => exact ⟨a, b, rfl⟩
theorem goodWin_len {ds : List D} (h : ds.length ≠ 2) : goodWin (.tup ds) = false := by
  unfold goodWin
  split
  · rename_i e
    cases e
    exact absurd rfl h
  · rfl
theorem is_good_window_ok {d : D} (h : Pl d) : run P (n + 10) 7 [d] st = .ok (.bl (goodWin d)) st := by
  rw [run_P P_7 rfl]
  cases d with
  | tup ds =>
    by_cases hl : ds.length = 2
    · obtain ⟨a, b, rfl⟩ := len2 hl
      have ha := h.tup a (by simp -dsimp)
      have hb := h.tup b (by simp -dsimp)
      simp -dsimp [F_is_good_window, evSs, evS, evE, evEs, evI, evO, evGs, forL, lcL, lcT, start, setAll, asgn, asgnL, Gs.slots, Tg.slots, wipeR, rng, rngOk, SZ, L2.atI, L2.ixN, is_good_rule_ok, is_good_piece_ok, ha, hb, goodWin]
      cases goodRule a <;> simp -dsimp
    · have := lenne hl
      simp -dsimp at this
      simp -dsimp [F_is_good_window, evSs, evS, evE, evEs, evI, evO, evGs, forL, lcL, lcT, start, setAll, asgn, asgnL, Gs.slots, Tg.slots, wipeR, rng, rngOk, SZ, L2.atI, L2.ixN, goodWin_len hl, this]
  | rol _ => exact absurd h.pl (by simp -dsimp [isPl])
  | loc _ => exact absurd h.pl (by simp -dsimp [isPl])
  | _ => simp -dsimp [F_is_good_window, evSs, evS, evE, evEs, evI, evO, evGs, forL, lcL, lcT, start, setAll, asgn, asgnL, Gs.slots, Tg.slots, wipeR, rng, rngOk, SZ, L2.atI, L2.ixN, goodWin]
def posI : D → Bool
  | .int i => decide (0 < i)
  | _ => false
def goodSizes : D → Bool
  | .tup [a, b, c, d, e, f, g] => [a, b, c, d, e, f, g].all posI && (match a, c with
    | .int x, .int y => decide (2 * y < x)
    | _, _ => false)
  | _ => false
theorem len7 {ds : List D} (h : ds.length = 7) : ∃ a b c d e f g, ds = [a, b, c, d, e, f, g] := by
  match ds, h with
  | [a, b, c, d, e, f, g], _ => exact ⟨a, b, c, d, e, f, g, rfl⟩
theorem goodSizes_len {ds : List D} (h : ds.length ≠ 7) : goodSizes (.tup ds) = false := by
  unfold goodSizes
  split
  · rename_i e
    cases e
    exact absurd rfl h
  · rfl
theorem fm_map (g : D → D) : ∀ ds : List D, (ds.flatMap fun x => [g x]) = ds.map g
  | [] => rfl
  | x :: ds => by rw [List.flatMap_cons, fm_map g ds]; rfl
theorem poss_ok {ys ds : List D} {ρ : Rho} (h : ∀ p ∈ ds, Pl p) (hz : ds.length ≤ 1000) (hρ : ρ.length = 2) : lcL ⟨ys, []⟩ (.nm 1) (lcT (evO ⟨run P (n + 1), P.glob, P.W⟩ .none) (evGs ⟨run P (n + 1), P.glob, P.W⟩ (.elt (.and (.call 1 (.cons (.nm 1) .nil)) (.cmp .gt (.nm 1) (.int 0)))))) ds ρ st [] = .ok ((ds.map posI).map .bl) st := by
  have e := lcL_ok (i := 1) (ys := ys) (f := lcT (evO ⟨run P (n + 1), P.glob, P.W⟩ .none) (evGs ⟨run P (n + 1), P.glob, P.W⟩ (.elt (.and (.call 1 (.cons (.nm 1) .nil)) (.cmp .gt (.nm 1) (.int 0)))))) (ρ := ρ) (st := st) (fun p => [.bl (posI p)]) (by omega) ds [] (fun x hx acc ha => ?_) ?_
  · rw [e, fm_map, List.map_map]
    rfl
  · have hp := h x hx
    have e4 : (ρ.set 1 (some x))[1]? = some (some x) := List.getElem?_set_self (by omega)
    have ha : acc.length + 1 ≤ 16777216 := ha
    have hz2 : acc.length < 16777216 := by omega
    have ec := fun st => is_number_ok (n := n) (st := st) hp
    cases x with
    | rol _ => exact absurd hp.pl (by simp -dsimp [isPl])
    | loc _ => exact absurd hp.pl (by simp -dsimp [isPl])
    | _ => simp -dsimp [lcT, evO, evE, evEs, evGs, e4, SZ, ec, isNum, hz2, posI]
  · rw [fm_map]
    show 0 + _ ≤ 16777216
    rw [List.length_map]
    omega
theorem mul_big {i j : Int} (hi : i.natAbs < 2 ^ 1000) (hj : j.natAbs < 2 ^ 1000) : mulOk i j = true := by
  have h1 := log2_small hi (by omega)
  have h2 := log2_small hj (by omega)
  unfold mulOk
  exact decide_eq_true (by omega)
theorem p60 : (10 : Nat) ^ 60 < 2 ^ 1000 := by decide
theorem sm_int {i : Int} (h : sm (.int i) = true) : i.natAbs < 10 ^ 60 := by simpa -dsimp [sm] using h
theorem mul_sm {i : Int} (h : sm (.int i) = true) : mulOk 2 i = true := mul_big (by decide) (Nat.lt_trans (sm_int h) p60)
theorem all_map_id (p : D → Bool) (ds : List D) : ((ds.map p).all id) = ds.all p := by
  rw [List.all_map]
  rfl
theorem amongD_w4 {a : T} (h : a = s_always ∨ a = s_auto ∨ a = s_never ∨ a = s_room) : amongD w4 (.str a) = true := by
  rcases h with rfl | rfl | rfl | rfl <;> rfl
theorem lit_ok {a : T} (h : a = s_always ∨ a = s_auto ∨ a = s_never ∨ a = s_room) : (a.all fun c => decide (c < 1114112)) = true := by
  rcases h with rfl | rfl | rfl | rfl <;> rfl
theorem rule_good {d : D} (h : RuleD d) : goodRule d = true ∧ d.okd 1 = true ∧ sm d = true := by
  obtain ⟨a, b, c, e, i, rfl, ha, hb, hc, he, h0, h1⟩ := h
  have la := lit_ok ha
  have lb := lit_ok hb
  have lc : (c.all fun c => decide (c < 1114112)) = true := by rcases hc with rfl | rfl <;> rfl
  have le : (e.all fun c => decide (c < 1114112)) = true := by rcases he with rfl | ⟨rfl, _⟩ <;> rfl
  have gc : amongD wO (.str c) = true := by rcases hc with rfl | rfl <;> rfl
  have p60 : i.natAbs < 10 ^ 60 := Nat.lt_of_lt_of_le (show i.natAbs < 10 by omega) (by decide)
  refine ⟨?_, ?_, ?_⟩
  · simp -dsimp only [goodRule, amongD_w4 ha, amongD_w4 hb, gc, slackB, h0, h1, decide_true, Bool.true_and]
    rcases he with rfl | ⟨rfl, rfl⟩
    · simp -dsimp [amongD, wA, memb]
    · simp -dsimp [amongD, wA, memb]
  · simp -dsimp only [D.okd, D.okds, la, lb, lc, le, Bool.and_self]
  · simp -dsimp only [sm, sms, decide_eq_true p60]
    rfl
theorem let_good {d : D} (h : LetD d) : amongD letters d = true ∧ d.okd 0 = true ∧ sm d = true := by
  obtain ⟨x, rfl, hx⟩ := h
  rcases hx with rfl | rfl | rfl | rfl <;> exact ⟨rfl, rfl, rfl⟩
theorem sm_two {a b : D} (ha : sm a = true) (hb : sm b = true) : sm (.tup [a, b]) = true := by
  simp -dsimp only [sm, sms, ha, hb]
  rfl
theorem okd_two {a b : D} {m : Nat} (ha : a.okd m = true) (hb : b.okd m = true) : (D.tup [a, b]).okd (m + 1) = true := by
  simp -dsimp only [D.okd, D.okds, ha, hb, Bool.and_self]
def every : List D := [.tup [.bl false, .bl false], .tup [.bl false, .bl true], .tup [.bl true, .bl false], .tup [.bl true, .bl true]]
theorem need_ok {d : D} (h : Pl d) (hg : goodWin d = true) : run P (n + 11) 11 [d] st = .ok .non st := by
  rw [run_P P_11 rfl]
  simp -dsimp [F_need_window, evSs, evS, evE, evEs, evI, evO, evGs, forL, lcL, lcT, start, setAll, asgn, asgnL, Gs.slots, Tg.slots, wipeR, rng, rngOk, SZ, L2.atI, L2.ixN, is_good_window_ok, h, hg]
end MP
end

section
set_option linter.all false
set_option maxRecDepth 100000
set_option maxHeartbeats 0
/-! Windows, sizes and standings as data of our own; how they are written. -/
namespace MP
variable {n : Nat} {st : Store} {s : Nat}
inductive Wd where
  | always | auto | never | room
  deriving DecidableEq, Inhabited
def Wd.t : Wd → T
  | .always => s_always
  | .auto => s_auto
  | .never => s_never
  | .room => s_room
/-- a rule: ord: the bar at the side first; drop: again is "drop" -/
structure Rl where
  side : Wd
  below : Wd
  ord : Bool
  drop : Bool
  slack : Nat
  deriving DecidableEq, Inhabited
def ordT (b : Bool) : T := if b then s_side else s_below
def agT (b : Bool) : T := if b then s_drop else s_keep
def Rl.d (r : Rl) : D := .tup [.str r.side.t, .str r.below.t, .str (ordT r.ord), .str (agT r.drop), .int r.slack]
def Rl.ok (r : Rl) : Bool := decide (r.slack ≤ 8) && (r.drop || decide (r.slack = 0))
abbrev Lt : Type := Fin 4
def ltT (u : Lt) : T := [97 + u.val]
def ltD (u : Lt) : D := .str (ltT u)
inductive Pc where
  | pic (q : Nat) | fix (u v : Lt) | fold (u v : Lt) | stk (a b : Pc) | view (r : Rl) (u : Lt) (p : Pc)
  deriving DecidableEq, Inhabited
def Pc.d : Pc → D
  | .pic q => .tup [.str s_picture, .int q]
  | .fix u v => .tup [.str s_fixed, ltD u, ltD v]
  | .fold u v => .tup [.str s_folds, ltD u, ltD v]
  | .stk a b => .tup [.str s_stack, a.d, b.d]
  | .view r u p => .tup [.str s_view, r.d, ltD u, p.d]
/-- of a form, at most k deep -/
def Pc.ok : Nat → Pc → Bool
  | 0, _ => false
  | _ + 1, .pic q => decide (1 ≤ q) && decide (q ≤ 8)
  | _ + 1, .fix _ _ => true
  | _ + 1, .fold _ _ => true
  | k + 1, .stk a b => Pc.ok k a && Pc.ok k b
  | k + 1, .view r _ p => r.ok && Pc.ok k p
/-- leaves and views -/
def Pc.lv : Pc → Nat
  | .stk a b => a.lv + b.lv
  | .view _ _ p => p.lv + 1
  | _ => 1
def Pc.nv : Pc → Nat
  | .stk a b => a.nv + b.nv
  | .view _ _ p => p.nv + 1
  | _ => 0
def Pc.subs : Pc → List Pc
  | .stk a b => .stk a b :: (a.subs ++ b.subs)
  | .view r u p => .view r u p :: p.subs
  | p => [p]
/-- the first view -/
def Pc.vw : Pc → Option (Rl × Lt × Pc)
  | .stk a b => a.vw.or b.vw
  | .view r u p => some (r, u, p)
  | _ => none
/-- the parts of stacks -/
def Pc.kids : Pc → List Pc
  | .stk a b => a.kids ++ b.kids
  | p => [p]
structure Win where
  r : Rl
  p : Pc
  deriving DecidableEq, Inhabited
def Win.d (w : Win) : D := .tup [w.r.d, w.p.d]
structure Win.Good (w : Win) : Prop where
  r : w.r.ok = true
  p : w.p.ok 5 = true
  v : w.p.nv ≤ 1
  l : w.p.lv ≤ 4
def Win.views (w : Win) : List Win := w :: (match w.p.vw with
  | some (r, _, p) => [⟨r, p⟩]
  | none => [])
/-! ### as the program reads them -/
theorem wd_word (a : Wd) : a.t = s_always ∨ a.t = s_auto ∨ a.t = s_never ∨ a.t = s_room := by cases a <;> simp -dsimp [Wd.t]
theorem wd_lit (a : Wd) : (a.t.all fun c => decide (c < 1114112)) = true := lit_ok (wd_word a)
theorem ord_lit (b : Bool) : ((ordT b).all fun c => decide (c < 1114112)) = true := by cases b <;> rfl
theorem ag_lit (b : Bool) : ((agT b).all fun c => decide (c < 1114112)) = true := by cases b <;> rfl
theorem lt_lit (u : Lt) : ((ltT u).all fun c => decide (c < 1114112)) = true := by
  have : ∀ u : Lt, ((ltT u).all fun c => decide (c < 1114112)) = true := by decide
  exact this u
theorem rl_okd (r : Rl) : r.d.okd 1 = true := by
  simp -dsimp only [Rl.d, D.okd, D.okds, wd_lit, ord_lit, ag_lit, Bool.and_self]
theorem lt_okd (u : Lt) : (ltD u).okd 0 = true := lt_lit u
theorem pc_okd : ∀ (k : Nat) (p : Pc), p.ok k = true → p.d.okd (k + 1) = true
  | 0, p, h => by cases p <;> simp -dsimp [Pc.ok] at h
  | k + 1, .pic q, _ => rfl
  | k + 1, .fix u v, _ => by
    have h1 := okd_mono _ 0 (k + 1) (by omega) (lt_okd u)
    have h2 := okd_mono _ 0 (k + 1) (by omega) (lt_okd v)
    simp -dsimp only [Pc.d, D.okd, D.okds, h1, h2, Bool.and_self, Bool.and_true]
    decide
  | k + 1, .fold u v, _ => by
    have h1 := okd_mono _ 0 (k + 1) (by omega) (lt_okd u)
    have h2 := okd_mono _ 0 (k + 1) (by omega) (lt_okd v)
    simp -dsimp only [Pc.d, D.okd, D.okds, h1, h2, Bool.and_self, Bool.and_true]
    decide
  | k + 1, .stk a b, h => by
    simp -dsimp only [Pc.ok, Bool.and_eq_true] at h
    have h1 := pc_okd k a h.1
    have h2 := pc_okd k b h.2
    simp -dsimp only [Pc.d, D.okd, D.okds, h1, h2, Bool.and_self, Bool.and_true]
    decide
  | k + 1, .view r u p, h => by
    simp -dsimp only [Pc.ok, Bool.and_eq_true] at h
    have h1 := okd_mono _ 1 (k + 1) (by omega) (rl_okd r)
    have h2 := okd_mono _ 0 (k + 1) (by omega) (lt_okd u)
    have h3 := pc_okd k p h.2
    simp -dsimp only [Pc.d, D.okd, D.okds, h1, h2, h3, Bool.and_self, Bool.and_true]
    decide
theorem rl_pl (r : Rl) : Pl r.d := okd_mono _ 1 60 (by omega) (rl_okd r)
theorem lt_pl (u : Lt) : Pl (ltD u) := okd_mono _ 0 60 (by omega) (lt_okd u)
theorem pc_pl {k : Nat} {p : Pc} (hk : k ≤ 50) (h : p.ok k = true) : Pl p.d := okd_mono _ (k + 1) 60 (by omega) (pc_okd k p h)
theorem rl_good (r : Rl) : goodRule r.d = r.ok := by
  have h1 : amongD wO (.str (ordT r.ord)) = true := by cases r.ord <;> rfl
  have h2 : amongD wA (.str (agT r.drop)) = true := by cases r.drop <;> rfl
  have h3 : (decide ((0 : Int) ≤ (r.slack : Int)) && decide ((r.slack : Int) ≤ 8)) = decide (r.slack ≤ 8) := by
    by_cases h : r.slack ≤ 8
    · rw [decide_eq_true h]; simp -dsimp; omega
    · rw [decide_eq_false h]; simp -dsimp; omega
  simp -dsimp only [goodRule, Rl.d, amongD_w4 (wd_word _), h1, h2, slackB, h3, Bool.true_and, Rl.ok, Bool.and_true]
  have h4 : (agT r.drop == s_drop) = r.drop := by cases r.drop <;> rfl
  have h5 : ((r.slack : Int) == 0) = decide (r.slack = 0) := by
    by_cases h : r.slack = 0
    · rw [h]; rfl
    · rw [decide_eq_false h]; simp -dsimp; omega
  first
    | rw [h4, h5]
    | simp -dsimp [h4, h5]
theorem lt_let (u : Lt) : amongD letters (ltD u) = true := by
  have : ∀ u : Lt, amongD letters (ltD u) = true := by decide
  exact this u
theorem pc_shape : ∀ (k : Nat) (p : Pc), shape k p.d = p.ok k
  | 0, p => by cases p <;> rfl
  | k + 1, .pic q => by
    have h3 : (decide ((1 : Int) ≤ (q : Int)) && decide ((q : Int) ≤ 8)) = (decide (1 ≤ q) && decide (q ≤ 8)) := by
      by_cases h : q ≤ 8 <;> by_cases h' : 1 ≤ q <;> simp -dsimp [h, h'] <;> omega
    show (decide ((1 : Int) ≤ (q : Int)) && decide ((q : Int) ≤ 8)) = _
    rw [h3]
    rfl
  | k + 1, .fix u v => by
    show (amongD letters (ltD u) && amongD letters (ltD v)) = true
    rw [lt_let, lt_let]; rfl
  | k + 1, .fold u v => by
    show (amongD letters (ltD u) && amongD letters (ltD v)) = true
    rw [lt_let, lt_let]; rfl
  | k + 1, .stk a b => by
    show (shape k a.d && shape k b.d) = _
    rw [pc_shape k a, pc_shape k b]; rfl
  | k + 1, .view r u p => by
    show (goodRule r.d && amongD letters (ltD u) && shape k p.d) = _
    rw [rl_good, lt_let, pc_shape k p, Bool.and_true]; rfl
theorem pcs_subs : ∀ (k : Nat) (p : Pc), p.ok k = true → pcs k p.d = p.subs.map Pc.d
  | 0, p, h => by cases p <;> simp -dsimp [Pc.ok] at h
  | k + 1, .pic q, _ => rfl
  | k + 1, .fix u v, _ => rfl
  | k + 1, .fold u v, _ => rfl
  | k + 1, .stk a b, h => by
    simp -dsimp only [Pc.ok, Bool.and_eq_true] at h
    show (Pc.stk a b).d :: (pcs k a.d ++ pcs k b.d) = _
    rw [pcs_subs k a h.1, pcs_subs k b h.2]
    simp -dsimp only [Pc.subs, List.map_cons, List.map_append]
  | k + 1, .view r u p, h => by
    simp -dsimp only [Pc.ok, Bool.and_eq_true] at h
    show (Pc.view r u p).d :: pcs k p.d = _
    rw [pcs_subs k p h.2]
    rfl
def Pc.isStk : Pc → Bool
  | .stk _ _ => true
  | _ => false
def Pc.isView : Pc → Bool
  | .view _ _ _ => true
  | _ => false
theorem head_stk (p : Pc) : (headW p.d == s_stack) = p.isStk := by cases p <;> rfl
theorem head_view (p : Pc) : (headW p.d == s_view) = p.isView := by cases p <;> rfl
theorem filter_len {α β : Type} (f : α → β) (g : β → Bool) (h : α → Bool) (e : ∀ a, g (f a) = h a) : ∀ l : List α, ((l.map f).filter g).length = (l.filter h).length
  | [] => rfl
  | a :: l => by
    rw [List.map_cons, List.filter_cons, List.filter_cons, e a]
    cases h a <;> simp -dsimp [filter_len f g h e l]
theorem subs_lv : ∀ p : Pc, (p.subs.filter fun q => !q.isStk).length = p.lv
  | .pic _ => rfl
  | .fix _ _ => rfl
  | .fold _ _ => rfl
  | .stk a b => by
    show (((Pc.stk a b :: (a.subs ++ b.subs)).filter fun q => !q.isStk).length) = a.lv + b.lv
    rw [List.filter_cons_of_neg (by intro h; cases h), List.filter_append, List.length_append, subs_lv a, subs_lv b]
  | .view r u p => by
    show (((Pc.view r u p :: p.subs).filter fun q => !q.isStk).length) = p.lv + 1
    rw [List.filter_cons_of_pos rfl, List.length_cons, subs_lv p]
theorem subs_nv : ∀ p : Pc, (p.subs.filter Pc.isView).length = p.nv
  | .pic _ => rfl
  | .fix _ _ => rfl
  | .fold _ _ => rfl
  | .stk a b => by
    show (((Pc.stk a b :: (a.subs ++ b.subs)).filter Pc.isView).length) = a.nv + b.nv
    rw [List.filter_cons_of_neg (by intro h; cases h), List.filter_append, List.length_append, subs_nv a, subs_nv b]
  | .view r u p => by
    show (((Pc.view r u p :: p.subs).filter Pc.isView).length) = p.nv + 1
    rw [List.filter_cons_of_pos rfl, List.length_cons, subs_nv p]
theorem good_piece {p : Pc} (h : p.ok 5 = true) : goodPiece p.d = (decide (p.nv ≤ 1) && decide (p.lv ≤ 4)) := by
  unfold goodPiece
  rw [pc_shape, h, Bool.true_and, pcs_subs 5 p h]
  have h1 : (cnt (p.subs.map Pc.d)).1 = p.lv := by
    show (((p.subs.map Pc.d).filter _).length : Int) = _
    rw [filter_len Pc.d _ (fun q => !q.isStk) (fun a => by rw [head_stk]), subs_lv]
  have h2 : (cnt (p.subs.map Pc.d)).2 = p.nv := by
    show (((p.subs.map Pc.d).filter _).length : Int) = _
    rw [filter_len Pc.d _ Pc.isView (fun a => head_view a), subs_nv]
  rw [h1, h2]
  congr 1
  · by_cases q : p.nv ≤ 1
    · rw [decide_eq_true q]; simp -dsimp; omega
    · rw [decide_eq_false q]; simp -dsimp; omega
  · by_cases q : p.lv ≤ 4
    · rw [decide_eq_true q]; simp -dsimp; omega
    · rw [decide_eq_false q]; simp -dsimp; omega
theorem Win.Good.win {w : Win} (h : w.Good) : goodWin w.d = true := by
  show (goodRule w.r.d && goodPiece w.p.d) = true
  rw [rl_good, h.r, good_piece h.p, decide_eq_true h.v, decide_eq_true h.l]
  rfl
theorem Win.Good.pl {w : Win} (h : w.Good) : Pl w.d := by
  have h1 := okd_mono _ 1 59 (by omega) (rl_okd w.r)
  have h2 := okd_mono _ 6 59 (by omega) (pc_okd 5 w.p h.p)
  show D.okds [w.r.d, w.p.d] 59 = true
  simp -dsimp only [D.okds, h1, h2, Bool.and_self, Bool.and_true]
theorem need_win {w : Win} (h : w.Good) : run P (n + 11) 11 [w.d] st = .ok .non st := need_ok h.pl h.win
/-! ### drawn ones -/
theorem rule_of {d : D} (h : RuleD d) : ∃ r : Rl, d = r.d ∧ r.ok = true := by
  obtain ⟨a, b, c, e, i, rfl, ha, hb, hc, he, h0, h1⟩ := h
  have wd : ∀ {a : T}, (a = s_always ∨ a = s_auto ∨ a = s_never ∨ a = s_room) → ∃ w : Wd, w.t = a := fun h => by
    rcases h with rfl | rfl | rfl | rfl
    · exact ⟨.always, rfl⟩
    · exact ⟨.auto, rfl⟩
    · exact ⟨.never, rfl⟩
    · exact ⟨.room, rfl⟩
  obtain ⟨wa, rfl⟩ := wd ha
  obtain ⟨wb, rfl⟩ := wd hb
  obtain ⟨k, rfl⟩ : ∃ k : Nat, i = k := ⟨i.toNat, by omega⟩
  obtain ⟨o, rfl⟩ : ∃ o : Bool, ordT o = c := by
    rcases hc with rfl | rfl
    · exact ⟨false, rfl⟩
    · exact ⟨true, rfl⟩
  rcases he with rfl | ⟨rfl, h2⟩
  · exact ⟨⟨wa, wb, o, true, k⟩, rfl, by simp -dsimp [Rl.ok]; omega⟩
  · exact ⟨⟨wa, wb, o, false, k⟩, rfl, by simp -dsimp [Rl.ok]; omega⟩
theorem let_of' {d : D} (h : LetD d) : ∃ u : Lt, d = ltD u := by
  obtain ⟨x, rfl, hx⟩ := h
  rcases hx with rfl | rfl | rfl | rfl
  · exact ⟨0, rfl⟩
  · exact ⟨1, rfl⟩
  · exact ⟨2, rfl⟩
  · exact ⟨3, rfl⟩
/-- a thing: no stack and no view -/
def Pc.thing : Pc → Bool
  | .pic q => decide (1 ≤ q) && decide (q ≤ 8)
  | .fix _ _ => true
  | .fold _ _ => true
  | _ => false
theorem thing_of {d : D} (h : ThingD d) : ∃ p : Pc, d = p.d ∧ p.thing = true := by
  rcases h with ⟨i, rfl, h0, h1⟩ | ⟨w, x, y, rfl, hw, hx, hy⟩
  · refine ⟨.pic i.toNat, ?_, by simp -dsimp [Pc.thing]; omega⟩
    show _ = D.tup [.str s_picture, .int (i.toNat : Int)]
    rw [Int.toNat_of_nonneg (by omega)]
  · obtain ⟨u, rfl⟩ := let_of' hx
    obtain ⟨v, rfl⟩ := let_of' hy
    rcases hw with rfl | rfl
    · exact ⟨.fold u v, rfl, rfl⟩
    · exact ⟨.fix u v, rfl, rfl⟩
/-- the pieces that a law draws -/
inductive DPc : Bool → Pc → Prop
  | one {p : Pc} : p.thing = true → DPc false p
  | two {p q : Pc} : p.thing = true → q.thing = true → DPc false (.stk p q)
  | view {r : Rl} {u : Lt} {p : Pc} : r.ok = true → p.thing = true → DPc true (.view r u p)
  | left {r : Rl} {u : Lt} {p q : Pc} : r.ok = true → p.thing = true → q.thing = true → DPc true (.stk (.view r u p) q)
  | right {r : Rl} {u : Lt} {p q : Pc} : r.ok = true → p.thing = true → q.thing = true → DPc true (.stk q (.view r u p))
structure DWin (b : Bool) (w : Win) : Prop where
  r : w.r.ok = true
  p : DPc b w.p
theorem piece_of {b : Bool} {d : D} (h : PieceD b d) : ∃ p : Pc, d = p.d ∧ DPc b p := by
  have vw : ∀ {d : D}, ViewD d → ∃ r u p, d = (Pc.view r u p).d ∧ r.ok = true ∧ p.thing = true := fun h => by
    obtain ⟨r, l, t, rfl, hr, hl, ht⟩ := h
    obtain ⟨r, rfl, h1⟩ := rule_of hr
    obtain ⟨u, rfl⟩ := let_of' hl
    obtain ⟨p, rfl, h2⟩ := thing_of ht
    exact ⟨r, u, p, rfl, h1, h2⟩
  rcases h with ⟨rfl, h⟩ | ⟨rfl, h⟩
  · rcases h with h | ⟨p, q, rfl, hp, hq⟩
    · obtain ⟨p, rfl, h1⟩ := thing_of h
      exact ⟨p, rfl, .one h1⟩
    · obtain ⟨p, rfl, h1⟩ := thing_of hp
      obtain ⟨q, rfl, h2⟩ := thing_of hq
      exact ⟨.stk p q, rfl, .two h1 h2⟩
  · rcases h with h | ⟨p, q, rfl, ⟨hp, hq⟩ | ⟨hp, hq⟩⟩
    · obtain ⟨r, u, p, rfl, h1, h2⟩ := vw h
      exact ⟨_, rfl, .view h1 h2⟩
    · obtain ⟨r, u, p, rfl, h1, h2⟩ := vw hp
      obtain ⟨q, rfl, h3⟩ := thing_of hq
      exact ⟨.stk (.view r u p) q, rfl, .left h1 h2 h3⟩
    · obtain ⟨r, u, p, rfl, h1, h2⟩ := vw hq
      obtain ⟨q, rfl, h3⟩ := thing_of hp
      exact ⟨.stk q (.view r u p), rfl, .right h1 h2 h3⟩
theorem win_of {b : Bool} {d : D} (h : WinD b d) : ∃ w : Win, d = w.d ∧ DWin b w := by
  obtain ⟨r, p, rfl, hr, hp⟩ := h
  obtain ⟨r, rfl, h1⟩ := rule_of hr
  obtain ⟨p, rfl, h2⟩ := piece_of hp
  exact ⟨⟨r, p⟩, rfl, h1, h2⟩
theorem thing_ok' {p : Pc} (h : p.thing = true) (k : Nat) : p.ok (k + 1) = true ∧ p.lv = 1 ∧ p.nv = 0 := by
  cases p <;> simp -dsimp [Pc.thing] at h <;> simp -dsimp [Pc.ok, Pc.lv, Pc.nv, h]
theorem DWin.good {b : Bool} {w : Win} (h : DWin b w) : w.Good := by
  obtain ⟨r, p⟩ := w
  obtain ⟨hr, hp⟩ := h
  have hp : DPc b p := hp
  cases hp with
  | one h =>
    obtain ⟨h1, h2, h3⟩ := thing_ok' h 4
    exact ⟨hr, h1, by show p.nv ≤ 1; omega, by show p.lv ≤ 4; omega⟩
  | two h k =>
    obtain ⟨h1, h2, h3⟩ := thing_ok' h 3
    obtain ⟨k1, k2, k3⟩ := thing_ok' k 3
    exact ⟨hr, by simp -dsimp [Pc.ok, h1, k1], by simp -dsimp [Pc.nv, h3, k3], by simp -dsimp [Pc.lv, h2, k2]⟩
  | view hr' h =>
    obtain ⟨h1, h2, h3⟩ := thing_ok' h 3
    exact ⟨hr, by simp -dsimp [Pc.ok, h1, hr'], by simp -dsimp [Pc.nv, h3], by simp -dsimp [Pc.lv, h2]⟩
  | left hr' h k =>
    obtain ⟨h1, h2, h3⟩ := thing_ok' h 2
    obtain ⟨k1, k2, k3⟩ := thing_ok' k 3
    exact ⟨hr, by simp -dsimp [Pc.ok, h1, k1, hr'], by simp -dsimp [Pc.nv, h3, k3], by simp -dsimp [Pc.lv, h2, k2]⟩
  | right hr' h k =>
    obtain ⟨h1, h2, h3⟩ := thing_ok' h 2
    obtain ⟨k1, k2, k3⟩ := thing_ok' k 3
    exact ⟨hr, by simp -dsimp [Pc.ok, h1, k1, hr'], by simp -dsimp [Pc.nv, h3, k3], by simp -dsimp [Pc.lv, h2, k2]⟩
end MP
end

section
set_option linter.all false
set_option maxRecDepth 100000
set_option maxHeartbeats 0
/-! Texts: lines and words of windows; unlike windows have unlike texts. -/
namespace MP
theorem splitT_cons (sep c : Nat) (r : T) : splitT sep (c :: r) = if c = sep then [] :: splitT sep r else match splitT sep r with
    | w :: ws => (c :: w) :: ws
    | [] => [[c]] := rfl
theorem splitT_nn (sep : Nat) (s : T) : splitT sep s ≠ [] := by
  cases s with
  | nil => simp -dsimp [splitT]
  | cons c r =>
    unfold splitT
    split
    · simp -dsimp
    · split <;> simp -dsimp
theorem splitT_word {sep : Nat} : ∀ {w : T}, sep ∉ w → splitT sep w = [w]
  | [], _ => rfl
  | c :: w, h => by
    have hc : c ≠ sep := fun e => h (e ▸ List.mem_cons_self ..)
    rw [splitT_cons, if_neg hc, splitT_word fun z => h (List.mem_cons_of_mem _ z)]
theorem splitT_app {sep : Nat} (r : T) : ∀ {w : T}, sep ∉ w → splitT sep (w ++ sep :: r) = w :: splitT sep r
  | [], _ => by
    show splitT sep (sep :: r) = _
    rw [splitT_cons, if_pos rfl]
  | c :: w, h => by
    have hc : c ≠ sep := fun e => h (e ▸ List.mem_cons_self ..)
    show splitT sep (c :: (w ++ sep :: r)) = _
    rw [splitT_cons, if_neg hc, splitT_app r fun z => h (List.mem_cons_of_mem _ z)]
theorem split_join {sep : Nat} : ∀ {ws : List T}, ws ≠ [] → (∀ w ∈ ws, sep ∉ w) → splitT sep (joinT [sep] ws) = ws
  | [], h, _ => absurd rfl h
  | [w], _, h => splitT_word (h w (List.mem_cons_self ..))
  | w :: v :: ws, _, h => by
    show splitT sep (w ++ [sep] ++ joinT [sep] (v :: ws)) = _
    rw [List.append_assoc]
    show splitT sep (w ++ sep :: joinT [sep] (v :: ws)) = _
    rw [splitT_app _ (h w (List.mem_cons_self ..)), split_join (by simp -dsimp) fun x hx => h x (List.mem_cons_of_mem _ hx)]
theorem join_inj {sep : Nat} {a b : List T} (ha : a ≠ []) (hb : b ≠ []) (qa : ∀ w ∈ a, sep ∉ w) (qb : ∀ w ∈ b, sep ∉ w) (h : joinT [sep] a = joinT [sep] b) : a = b := by
  rw [← split_join ha qa, ← split_join hb qb, h]
/-! ### words and lines -/
def fig (q : Nat) : T := [48 + q]
theorem digits_fig {q : Nat} (h : q ≤ 8) : digits (q : Int) = fig q := by
  match q, h with
  | 0, _ => decide +kernel
  | 1, _ => decide +kernel
  | 2, _ => decide +kernel
  | 3, _ => decide +kernel
  | 4, _ => decide +kernel
  | 5, _ => decide +kernel
  | 6, _ => decide +kernel
  | 7, _ => decide +kernel
  | 8, _ => decide +kernel
def ruleW (r : Rl) : List T := [r.side.t, r.below.t, ordT r.ord, agT r.drop, fig r.slack]
def jw (ws : List T) : T := joinT [32] ws
def pLines : Pc → List T
  | .pic q => [jw [s_picture, fig q]]
  | .fix u v => [jw [s_fixed, ltT u, ltT v]]
  | .fold u v => [jw [s_folds, ltT u, ltT v]]
  | .stk a b => [s_stack] ++ pLines a ++ pLines b ++ [s_end]
  | .view r u p => [jw (s_view :: (ruleW r ++ [ltT u]))] ++ pLines p ++ [s_end]
def wLines (w : Win) : List T := jw (s_window :: ruleW w.r) :: pLines w.p
def txt (w : Win) : T := joinT [10] (wLines w)
/-- a word: small letters and figures -/
def wordy (w : T) : Bool := decide (w ≠ []) && w.all fun c => decide (48 ≤ c ∧ c < 57 ∨ 97 ≤ c ∧ c < 123)
theorem wordy_no {w : T} (h : wordy w = true) : 32 ∉ w ∧ 10 ∉ w := by
  unfold wordy at h
  rw [Bool.and_eq_true, List.all_eq_true] at h
  refine ⟨fun z => ?_, fun z => ?_⟩ <;> have := h.2 _ z <;> simp -dsimp at this
theorem wordy_wd (a : Wd) : wordy a.t = true := by cases a <;> decide
theorem wordy_ord (b : Bool) : wordy (ordT b) = true := by cases b <;> decide
theorem wordy_ag (b : Bool) : wordy (agT b) = true := by cases b <;> decide
theorem wordy_lt (u : Lt) : wordy (ltT u) = true := by
  have : ∀ u : Lt, wordy (ltT u) = true := by decide
  exact this u
theorem wordy_fig {q : Nat} (h : q ≤ 8) : wordy (fig q) = true := by
  have : ∀ k : Fin 9, wordy (fig k.val) = true := by decide
  exact this ⟨q, by omega⟩
theorem rule_wordy {r : Rl} (h : r.ok = true) : ∀ w ∈ ruleW r, wordy w = true := by
  unfold Rl.ok at h
  rw [Bool.and_eq_true, decide_eq_true_eq] at h
  intro w hw
  simp -dsimp only [ruleW, List.mem_cons, List.not_mem_nil, or_false] at hw
  rcases hw with rfl | rfl | rfl | rfl | rfl
  · exact wordy_wd _
  · exact wordy_wd _
  · exact wordy_ord _
  · exact wordy_ag _
  · exact wordy_fig h.1
theorem jw_no {ws : List T} (h : ∀ w ∈ ws, wordy w = true) : 10 ∉ jw ws := by
  induction ws with
  | nil => simp -dsimp [jw, joinT]
  | cons w ws ih =>
    have ih := ih fun x hx => h x (List.mem_cons_of_mem _ hx)
    have hw := (wordy_no (h w (List.mem_cons_self ..))).2
    cases ws with
    | nil => exact hw
    | cons v ws =>
      show 10 ∉ w ++ [32] ++ joinT [32] (v :: ws)
      intro z
      rcases List.mem_append.mp z with z | z
      · rcases List.mem_append.mp z with z | z
        · exact hw z
        · simp -dsimp at z
      · exact ih z
theorem jw_inj {a b : List T} (ha : a ≠ []) (hb : b ≠ []) (qa : ∀ w ∈ a, wordy w = true) (qb : ∀ w ∈ b, wordy w = true) (h : jw a = jw b) : a = b :=
  join_inj ha hb (fun w hw => (wordy_no (qa w hw)).1) (fun w hw => (wordy_no (qb w hw)).1) h
/-- the words of the first line of a piece -/
def headW' : Pc → List T
  | .pic q => [s_picture, fig q]
  | .fix u v => [s_fixed, ltT u, ltT v]
  | .fold u v => [s_folds, ltT u, ltT v]
  | .stk _ _ => [s_stack]
  | .view r u _ => s_view :: (ruleW r ++ [ltT u])
def tailL : Pc → List T
  | .stk a b => pLines a ++ pLines b ++ [s_end]
  | .view _ _ p => pLines p ++ [s_end]
  | _ => []
theorem pLines_eq : ∀ p : Pc, pLines p = jw (headW' p) :: tailL p
  | .pic _ => rfl
  | .fix _ _ => rfl
  | .fold _ _ => rfl
  | .stk _ _ => rfl
  | .view _ _ _ => rfl
theorem head_wordy {k : Nat} : ∀ {p : Pc}, p.ok k = true → headW' p ≠ [] ∧ ∀ w ∈ headW' p, wordy w = true := by
  intro p h
  cases k with
  | zero => cases p <;> simp -dsimp [Pc.ok] at h
  | succ k =>
    refine ⟨by cases p <;> simp -dsimp [headW'], fun w hw => ?_⟩
    cases p with
    | pic q =>
      simp -dsimp only [Pc.ok, Bool.and_eq_true, decide_eq_true_eq] at h
      simp -dsimp only [headW', List.mem_cons, List.not_mem_nil, or_false] at hw
      rcases hw with rfl | rfl
      · decide
      · exact wordy_fig h.2
    | fix u v =>
      simp -dsimp only [headW', List.mem_cons, List.not_mem_nil, or_false] at hw
      rcases hw with rfl | rfl | rfl
      · decide
      · exact wordy_lt _
      · exact wordy_lt _
    | fold u v =>
      simp -dsimp only [headW', List.mem_cons, List.not_mem_nil, or_false] at hw
      rcases hw with rfl | rfl | rfl
      · decide
      · exact wordy_lt _
      · exact wordy_lt _
    | stk a b =>
      simp -dsimp only [headW', List.mem_cons, List.not_mem_nil, or_false] at hw
      subst hw
      decide
    | view r u p =>
      simp -dsimp only [Pc.ok, Bool.and_eq_true] at h
      simp -dsimp only [headW', List.mem_cons, List.mem_append, List.not_mem_nil, or_false] at hw
      rcases hw with rfl | hw | rfl
      · decide
      · exact rule_wordy h.1 w hw
      · exact wordy_lt _
theorem ltT_inj {u v : Lt} (h : ltT u = ltT v) : u = v := by
  have : 97 + u.val = 97 + v.val := (List.cons.inj h).1
  exact Fin.ext (by omega)
theorem fig_inj {a b : Nat} (h : fig a = fig b) : a = b := by
  have : 48 + a = 48 + b := (List.cons.inj h).1
  omega
theorem wd_inj {a b : Wd} (h : a.t = b.t) : a = b := by
  revert h
  cases a <;> cases b <;> decide
theorem ord_inj {a b : Bool} (h : ordT a = ordT b) : a = b := by
  revert h
  cases a <;> cases b <;> decide
theorem ag_inj {a b : Bool} (h : agT a = agT b) : a = b := by
  revert h
  cases a <;> cases b <;> decide
theorem ruleW_inj {a b : Rl} (h : ruleW a = ruleW b) : a = b := by
  obtain ⟨a1, a2, a3, a4, a5⟩ := a
  obtain ⟨b1, b2, b3, b4, b5⟩ := b
  simp -dsimp only [ruleW, List.cons.injEq, and_true] at h
  obtain ⟨h1, h2, h3, h4, h5⟩ := h
  rw [wd_inj h1, wd_inj h2, ord_inj h3, ag_inj h4, fig_inj h5]
/-- lines of pieces, one behind another, tell the pieces -/
theorem pLines_inj : ∀ (k : Nat) (p q : Pc) (x y : List T), p.ok k = true → q.ok k = true → pLines p ++ x = pLines q ++ y → p = q ∧ x = y
  | 0, p, _, _, _, h, _, _ => by cases p <;> simp -dsimp [Pc.ok] at h
  | k + 1, p, q, x, y, hp, hq, h => by
    rw [pLines_eq, pLines_eq, List.cons_append, List.cons_append] at h
    obtain ⟨h1, h2⟩ := List.cons.inj h
    obtain ⟨p0, p1⟩ := head_wordy hp
    obtain ⟨q0, q1⟩ := head_wordy hq
    have h1 := jw_inj p0 q0 p1 q1 h1
    cases p with
    | pic a =>
      cases q with
      | pic b =>
        simp -dsimp only [headW', List.cons.injEq, and_true, true_and] at h1
        rw [fig_inj h1]
        exact ⟨rfl, h2⟩
      | _ => exact absurd (List.cons.inj h1).1 (by decide)
    | fix u v =>
      cases q with
      | fix u' v' =>
        simp -dsimp only [headW', List.cons.injEq, and_true, true_and] at h1
        rw [ltT_inj h1.1, ltT_inj h1.2]
        exact ⟨rfl, h2⟩
      | _ => exact absurd (List.cons.inj h1).1 (by decide)
    | fold u v =>
      cases q with
      | fold u' v' =>
        simp -dsimp only [headW', List.cons.injEq, and_true, true_and] at h1
        rw [ltT_inj h1.1, ltT_inj h1.2]
        exact ⟨rfl, h2⟩
      | _ => exact absurd (List.cons.inj h1).1 (by decide)
    | stk a b =>
      cases q with
      | stk a' b' =>
        simp -dsimp only [Pc.ok, Bool.and_eq_true] at hp hq
        have h2 : pLines a ++ (pLines b ++ ([s_end] ++ x)) = pLines a' ++ (pLines b' ++ ([s_end] ++ y)) := by
          have h2 : pLines a ++ pLines b ++ [s_end] ++ x = pLines a' ++ pLines b' ++ [s_end] ++ y := h2
          rw [← List.append_assoc, ← List.append_assoc, ← List.append_assoc, ← List.append_assoc]
          exact h2
        obtain ⟨e1, h3⟩ := pLines_inj k a a' _ _ hp.1 hq.1 h2
        obtain ⟨e2, h4⟩ := pLines_inj k b b' _ _ hp.2 hq.2 h3
        rw [e1, e2]
        exact ⟨rfl, (List.cons.inj h4).2⟩
      | _ => exact absurd (List.cons.inj h1).1 (by decide)
    | view r u p =>
      cases q with
      | view r' u' p' =>
        simp -dsimp only [Pc.ok, Bool.and_eq_true] at hp hq
        have h2 : pLines p ++ ([s_end] ++ x) = pLines p' ++ ([s_end] ++ y) := by
          have h2 : pLines p ++ [s_end] ++ x = pLines p' ++ [s_end] ++ y := h2
          rw [← List.append_assoc, ← List.append_assoc]
          exact h2
        obtain ⟨e1, h3⟩ := pLines_inj k p p' _ _ hp.2 hq.2 h2
        have h4 := (List.cons.inj h1).2
        obtain ⟨h5, h6⟩ := List.append_inj h4 rfl
        rw [e1, ruleW_inj h5, ltT_inj (List.cons.inj h6).1]
        exact ⟨rfl, (List.cons.inj h3).2⟩
      | _ => exact absurd (List.cons.inj h1).1 (by decide)
theorem pLines_no : ∀ (k : Nat) (p : Pc), p.ok k = true → ∀ l ∈ pLines p, 10 ∉ l
  | 0, p, h => by cases p <;> simp -dsimp [Pc.ok] at h
  | k + 1, p, h => by
    intro l hl
    rw [pLines_eq] at hl
    rcases List.mem_cons.mp hl with rfl | hl
    · exact jw_no (head_wordy h).2
    · cases p with
      | stk a b =>
        simp -dsimp only [Pc.ok, Bool.and_eq_true] at h
        simp -dsimp only [tailL, List.mem_append, List.mem_singleton] at hl
        rcases hl with (hl | hl) | rfl
        · exact pLines_no k a h.1 l hl
        · exact pLines_no k b h.2 l hl
        · decide
      | view r u p =>
        simp -dsimp only [Pc.ok, Bool.and_eq_true] at h
        simp -dsimp only [tailL, List.mem_append, List.mem_singleton] at hl
        rcases hl with hl | rfl
        · exact pLines_no k p h.2 l hl
        · decide
      | _ => cases hl
theorem window_wordy {r : Rl} (h : r.ok = true) : ∀ w ∈ s_window :: ruleW r, wordy w = true := by
  intro w hw
  rcases List.mem_cons.mp hw with rfl | hw
  · decide
  · exact rule_wordy h w hw
theorem wLines_no {w : Win} (hr : w.r.ok = true) {k : Nat} (hp : w.p.ok k = true) : ∀ l ∈ wLines w, 10 ∉ l := by
  intro l hl
  rcases List.mem_cons.mp hl with rfl | hl
  · exact jw_no (window_wordy hr)
  · exact pLines_no k w.p hp l hl
/-- unlike windows have unlike texts -/
theorem txt_inj {a b : Win} {k : Nat} (ra : a.r.ok = true) (pa : a.p.ok k = true) (rb : b.r.ok = true) (pb : b.p.ok k = true) (h : txt a = txt b) : a = b := by
  have e := join_inj (by simp -dsimp [wLines]) (by simp -dsimp [wLines]) (wLines_no ra pa) (wLines_no rb pb) h
  obtain ⟨e1, e2⟩ := List.cons.inj e
  have e3 := jw_inj (by simp -dsimp) (by simp -dsimp) (window_wordy ra) (window_wordy rb) e1
  have e4 := pLines_inj k a.p b.p [] [] pa pb (by rw [List.append_nil, List.append_nil]; exact e2)
  obtain ⟨ar, ap⟩ := a
  obtain ⟨br, bp⟩ := b
  rw [show ar = br from ruleW_inj (List.cons.inj e3).2, show ap = bp from e4.1]
/-! ### how long -/
theorem wordy_len (w : T) : w.length ≤ w.length := Nat.le_refl _
end MP
end

section
set_option linter.all false
set_option maxRecDepth 100000
set_option maxHeartbeats 0
/-! Texts of windows, run. -/
namespace MP
variable {n : Nat} {st : Store}
def wD : D → T
  | .str s => s
  | .int i => digits i
  | _ => []
/-- a word, or a number of one figure -/
def WdD (d : D) : Prop := (∃ s : T, d = .str s ∧ s.length ≤ 10) ∨ ∃ q : Nat, q ≤ 8 ∧ d = .int (q : Int)
theorem wD_len {d : D} (h : WdD d) : (wD d).length ≤ 10 := by
  rcases h with ⟨s, rfl, hs⟩ | ⟨q, hq, rfl⟩
  · exact hs
  · show (digits (q : Int)).length ≤ 10
    rw [digits_fig hq]
    show 1 ≤ 10
    omega
theorem wD_str {d : D} (h : WdD d) (st : Store) : evBlt .str [d] st = .ok (.str (wD d)) st := by
  rcases h with ⟨s, rfl, _⟩ | ⟨q, hq, rfl⟩
  · rfl
  · show (if (q : Int).natAbs.log2 < 1920 then R.ok (D.str (digits q)) st else .no) = _
    rw [if_pos]
    · rfl
    · rw [Int.natAbs_natCast]
      exact Nat.lt_of_le_of_lt (Nat.log2_le_self q) (by omega)
theorem strsT_map : ∀ ws : List T, strsOf (ws.map D.str) = some ws
  | [] => rfl
  | w :: ws => by
    show (strsOf (ws.map D.str)).map (w :: ·) = _
    rw [strsT_map ws]
    rfl
theorem sumLen_le (sep : T) {B : Nat} : ∀ ws : List T, (∀ w ∈ ws, w.length ≤ B) → sumLen sep ws ≤ ws.length * (B + sep.length)
  | [], _ => by simp -dsimp [sumLen]
  | w :: ws, h => by
    have ih := sumLen_le sep ws fun x hx => h x (List.mem_cons_of_mem _ hx)
    have hw := h w (List.mem_cons_self ..)
    unfold sumLen at ih ⊢
    rw [List.map_cons, List.sum_cons, List.length_cons]
    have e : (ws.length + 1) * (B + sep.length) = ws.length * (B + sep.length) + (B + sep.length) := Nat.succ_mul ..
    have e2 : (ws.length + 1) * sep.length = ws.length * sep.length + sep.length := Nat.succ_mul ..
    omega
theorem joinA_ok (sep : T) {ws : List T} {B : Nat} (h : ∀ w ∈ ws, w.length ≤ B) (hz : ws.length * (B + sep.length) ≤ 16777216) (st : Store) : evMth .join (.str sep) [.lst (ws.map D.str)] st = .ok (.str (joinT sep ws)) st := by
  show (match (lItems st (.lst (ws.map D.str))).bind strsOf with
    | some xs => if sumLen sep xs ≤ SZ then R.ok (D.str (joinT sep xs)) st else .no
    | none => .no) = _
  have e : (lItems st (.lst (ws.map D.str))).bind strsOf = some ws := strsT_map ws
  rw [e]
  show (if sumLen sep ws ≤ SZ then R.ok (D.str (joinT sep ws)) st else .no) = _
  rw [if_pos (Nat.le_trans (sumLen_le sep ws h) hz)]
theorem str_lc {Γ : G} {i : Nat} {ys : List D} {ρ : Rho} (hi : i < ρ.length) {ds : List D} (hd : ∀ d ∈ ds, WdD d) (hz : ds.length ≤ 1000) (st : Store) : lcL ⟨ys, []⟩ (.nm i) (lcT (evO Γ .none) (evGs Γ (.elt (.blt .str (.cons (.nm i) .nil))))) ds ρ st [] = .ok ((ds.map wD).map D.str) st := by
  have ef : ∀ l : List D, l.flatMap (fun d => [D.str (wD d)]) = (l.map wD).map .str := fun l => by
    induction l with
    | nil => rfl
    | cons x l ih => rw [List.flatMap_cons, ih]; rfl
  have e := lcL_ok (i := i) (ys := ys) (f := lcT (evO Γ .none) (evGs Γ (.elt (.blt .str (.cons (.nm i) .nil))))) (ρ := ρ) (st := st) (fun d => [D.str (wD d)]) hi ds [] (fun x hx acc ha => by
    have e4 : (ρ.set i (some x))[i]? = some (some x) := List.getElem?_set_self hi
    have ha : acc.length + 1 ≤ 16777216 := ha
    have hz2 : acc.length < 16777216 := by omega
    have ew := wD_str (hd x hx) st
    simp -dsimp [lcT, evO, evE, evEs, evGs, e4, SZ, hz2, ew]) (by rw [ef, List.length_map, List.length_map]; show 0 + _ ≤ 16777216; omega)
  rw [e, ef]
  rfl
theorem wordsF_ok {ds : List D} (hd : ∀ d ∈ ds, WdD d) (hz : ds.length ≤ 100) (st : Store) : run P (n + 1) 158 [.tup ds] st = .ok (.str (jw (ds.map wD))) st := by
  rw [run_P P_158 rfl]
  have e1 := fun (Γ : G) (ys : List D) (ρ : Rho) (hρ : ρ.length = 2) => str_lc (Γ := Γ) (i := 1) (ys := ys) (ρ := ρ) (by omega) hd (by omega) st
  have e2 := joinA_ok [32] (ws := ds.map wD) (B := 10) (fun w hw => by
    obtain ⟨d, h, rfl⟩ := List.mem_map.mp hw
    exact wD_len (hd d h)) (by rw [List.length_map]; show _ * 11 ≤ _; omega) st
  generalize (ds.map wD).map D.str = WL at e1 e2
  simp -dsimp [F_words_for, evSs, evS, evE, evEs, evI, start, wipeR, Tg.slots, Gs.slots, walked, keepOf, e1, e2, jw]
theorem wd_W (w : Wd) : WdD (.str w.t) := .inl ⟨_, rfl, by cases w <;> decide⟩
theorem ord_W (b : Bool) : WdD (.str (ordT b)) := .inl ⟨_, rfl, by cases b <;> decide⟩
theorem ag_W (b : Bool) : WdD (.str (agT b)) := .inl ⟨_, rfl, by cases b <;> decide⟩
theorem lt_W (u : Lt) : WdD (ltD u) := .inl ⟨_, rfl, by show 1 ≤ 10; omega⟩
theorem fig_W {q : Nat} (h : q ≤ 8) : WdD (.int (q : Int)) := .inr ⟨q, h, rfl⟩
def ruleDs (r : Rl) : List D := [.str r.side.t, .str r.below.t, .str (ordT r.ord), .str (agT r.drop), .int r.slack]
theorem slack_le' {r : Rl} (h : r.ok = true) : r.slack ≤ 8 := by
  unfold Rl.ok at h
  rw [Bool.and_eq_true, decide_eq_true_eq] at h
  exact h.1
theorem ruleDs_W {r : Rl} (h : r.ok = true) : ∀ d ∈ ruleDs r, WdD d := by
  intro d hd
  simp -dsimp only [ruleDs, List.mem_cons, List.not_mem_nil, or_false] at hd
  rcases hd with rfl | rfl | rfl | rfl | rfl
  · exact wd_W _
  · exact wd_W _
  · exact ord_W _
  · exact ag_W _
  · exact fig_W (slack_le' h)
theorem ruleDs_w {r : Rl} (h : r.ok = true) : (ruleDs r).map wD = ruleW r := by
  show [r.side.t, r.below.t, ordT r.ord, agT r.drop, digits r.slack] = _
  rw [digits_fig (slack_le' h)]
  rfl
theorem words_rule {r : Rl} (h : r.ok = true) (st : Store) : run P (n + 1) 158 [r.d] st = .ok (.str (jw (ruleW r))) st := by
  have e := wordsF_ok (n := n) (ruleDs_W h) (by show 5 ≤ 100; omega) st
  rw [ruleDs_w h] at e
  exact e
theorem words_view {r : Rl} (h : r.ok = true) (u : Lt) (st : Store) : run P (n + 1) 158 [.tup (ruleDs r ++ [ltD u])] st = .ok (.str (jw (ruleW r ++ [ltT u]))) st := by
  have e := wordsF_ok (n := n) (ds := ruleDs r ++ [ltD u]) (fun d hd => by
    rcases List.mem_append.mp hd with z | z
    · exact ruleDs_W h d z
    · rw [List.mem_singleton.mp z]
      exact lt_W u) (by show 6 ≤ 100; omega) st
  rw [List.map_append, ruleDs_w h] at e
  exact e
theorem words_pic {q : Nat} (h : q ≤ 8) (st : Store) : run P (n + 1) 158 [.tup [.str s_picture, .int q]] st = .ok (.str (jw [s_picture, fig q])) st := by
  have e := wordsF_ok (n := n) (ds := [.str s_picture, .int q]) (fun d hd => by
    simp -dsimp only [List.mem_cons, List.not_mem_nil, or_false] at hd
    rcases hd with rfl | rfl
    · exact .inl ⟨_, rfl, by decide⟩
    · exact fig_W h) (by show 2 ≤ 100; omega) st
  rw [e]
  show R.ok (D.str (jw [s_picture, digits q])) st = _
  rw [digits_fig h]
theorem words_fix {w : T} (hw : w.length ≤ 10) (u v : Lt) (st : Store) : run P (n + 1) 158 [.tup [.str w, ltD u, ltD v]] st = .ok (.str (jw [w, ltT u, ltT v])) st :=
  wordsF_ok (n := n) (ds := [.str w, ltD u, ltD v]) (fun d hd => by
    simp -dsimp only [List.mem_cons, List.not_mem_nil, or_false] at hd
    rcases hd with rfl | rfl | rfl
    · exact .inl ⟨_, rfl, hw⟩
    · exact lt_W _
    · exact lt_W _) (by show 3 ≤ 100; omega) st
/-! ### how long -/
theorem jw_len {B : Nat} : ∀ ws : List T, (∀ w ∈ ws, w.length ≤ B) → (jw ws).length ≤ ws.length * (B + 1)
  | [], _ => by simp -dsimp [jw, joinT]
  | [w], h => by
    have := h w (by simp -dsimp)
    show w.length ≤ 1 * (B + 1)
    omega
  | w :: v :: ws, h => by
    have ih := jw_len (v :: ws) fun x hx => h x (List.mem_cons_of_mem _ hx)
    have hw := h w (List.mem_cons_self ..)
    show (w ++ [32] ++ jw (v :: ws)).length ≤ _
    rw [List.length_append, List.length_append, List.length_cons, List.length_cons (a := w), Nat.succ_mul]
    simp -dsimp only [List.length_nil]
    omega
theorem lines_few : ∀ p : Pc, (pLines p).length + 2 ≤ 3 * p.lv
  | .pic _ => Nat.le_refl 3
  | .fix _ _ => Nat.le_refl 3
  | .fold _ _ => Nat.le_refl 3
  | .stk a b => by
    have := lines_few a
    have := lines_few b
    show ([s_stack] ++ pLines a ++ pLines b ++ [s_end]).length + 2 ≤ 3 * (a.lv + b.lv)
    simp -dsimp only [List.length_append, List.length_cons, List.length_nil]
    omega
  | .view r u p => by
    have := lines_few p
    show ([jw (s_view :: (ruleW r ++ [ltT u]))] ++ pLines p ++ [s_end]).length + 2 ≤ 3 * (p.lv + 1)
    simp -dsimp only [List.length_append, List.length_cons, List.length_nil]
    omega
theorem ruleW_len {r : Rl} (h : r.ok = true) : ∀ w ∈ ruleW r, w.length ≤ 10 := fun w hw => by
  rw [← ruleDs_w h] at hw
  obtain ⟨d, hd, rfl⟩ := List.mem_map.mp hw
  exact wD_len (ruleDs_W h d hd)
theorem head_len {k : Nat} : ∀ {p : Pc}, p.ok k = true → (jw (headW' p)).length ≤ 77 := by
  intro p h
  cases k with
  | zero => cases p <;> simp -dsimp [Pc.ok] at h
  | succ k =>
    refine Nat.le_trans (jw_len (B := 10) _ fun w hw => ?_) ?_
    · cases p with
      | view r u p =>
        simp -dsimp only [Pc.ok, Bool.and_eq_true] at h
        simp -dsimp only [headW', List.mem_cons, List.mem_append, List.not_mem_nil, or_false] at hw
        rcases hw with rfl | hw | rfl
        · decide
        · exact ruleW_len h.1 w hw
        · show 1 ≤ 10
          omega
      | stk a b =>
        simp -dsimp only [headW', List.mem_cons, List.not_mem_nil, or_false] at hw
        subst hw
        decide
      | pic q =>
        simp -dsimp only [headW', List.mem_cons, List.not_mem_nil, or_false] at hw
        rcases hw with rfl | rfl
        · decide
        · show 1 ≤ 10
          omega
      | fix u v =>
        simp -dsimp only [headW', List.mem_cons, List.not_mem_nil, or_false] at hw
        rcases hw with rfl | rfl | rfl
        · decide
        · show 1 ≤ 10
          omega
        · show 1 ≤ 10
          omega
      | fold u v =>
        simp -dsimp only [headW', List.mem_cons, List.not_mem_nil, or_false] at hw
        rcases hw with rfl | rfl | rfl
        · decide
        · show 1 ≤ 10
          omega
        · show 1 ≤ 10
          omega
    · have : (headW' p).length ≤ 7 := by cases p <;> simp -dsimp [headW', ruleW]
      omega
theorem pLines_len : ∀ (k : Nat) (p : Pc), p.ok k = true → ∀ l ∈ pLines p, l.length ≤ 77
  | 0, p, h => by cases p <;> simp -dsimp [Pc.ok] at h
  | k + 1, p, h => by
    intro l hl
    rw [pLines_eq] at hl
    rcases List.mem_cons.mp hl with rfl | hl
    · exact head_len h
    · cases p with
      | stk a b =>
        simp -dsimp only [Pc.ok, Bool.and_eq_true] at h
        simp -dsimp only [tailL, List.mem_append, List.mem_singleton] at hl
        rcases hl with (hl | hl) | rfl
        · exact pLines_len k a h.1 l hl
        · exact pLines_len k b h.2 l hl
        · decide
      | view r u p =>
        simp -dsimp only [Pc.ok, Bool.and_eq_true] at h
        simp -dsimp only [tailL, List.mem_append, List.mem_singleton] at hl
        rcases hl with hl | rfl
        · exact pLines_len k p h.2 l hl
        · decide
      | _ => cases hl
theorem wLines_len {w : Win} (h : w.Good) : (∀ l ∈ wLines w, l.length ≤ 77) ∧ (wLines w).length ≤ 11 := by
  refine ⟨fun l hl => ?_, ?_⟩
  · rcases List.mem_cons.mp hl with rfl | hl
    · refine Nat.le_trans (jw_len (B := 10) _ fun x hx => ?_) (show 6 * 11 ≤ 77 by omega)
      rcases List.mem_cons.mp hx with rfl | hx
      · decide
      · exact ruleW_len h.r x hx
    · exact pLines_len 5 w.p h.p l hl
  · have := lines_few w.p
    have := h.l
    show (pLines w.p).length + 1 ≤ 11
    omega
/-! ### the program's lines -/
theorem piece_lines_ok : ∀ (k : Nat) {n : Nat} {p : Pc} {st : Store}, p.ok k = true → p.lv ≤ 1000 → run P (n + k + 1) 159 [p.d] st = .ok (.lst ((pLines p).map D.str)) st := by
  intro k
  induction k with
  | zero => intro n p st h; cases p <;> simp -dsimp [Pc.ok] at h
  | succ k ih =>
    intro n p st h hl
    rw [show n + (k + 1) + 1 = (n + k + 1) + 1 by omega, run_P P_159 rfl]
    have aL : ∀ (a b : List D) st, a.length + b.length ≤ 100000 → evBin .add (.lst a) (.lst b) st = some (.lst (a ++ b)) := fun a b st q => bin_addL _ _ (show _ ≤ 16777216 by omega)
    cases p with
    | pic q =>
      simp -dsimp only [Pc.ok, Bool.and_eq_true, decide_eq_true_eq] at h
      have e1 : ∀ st, run P (n + k + 1) 158 [.tup [.str s_picture, .int q]] st = .ok (.str (jw [s_picture, fig q])) st := fun st => words_pic (n := n + k) h.2 st
      simp -dsimp [F_piece_lines, evSs, evS, evE, evEs, evI, evO, evGs, forL, lcL, lcT, start, setAll, asgn, asgnL, Gs.slots, Tg.slots, wipeR, rng, rngOk, SZ, L2.atI, L2.ixN, Pc.d, e1, pLines]
    | fix u v =>
      have e1 : ∀ st, run P (n + k + 1) 158 [.tup [.str s_fixed, ltD u, ltD v]] st = .ok (.str (jw [s_fixed, ltT u, ltT v])) st := fun st => words_fix (n := n + k) (by decide) u v st
      simp -dsimp [F_piece_lines, evSs, evS, evE, evEs, evI, evO, evGs, forL, lcL, lcT, start, setAll, asgn, asgnL, Gs.slots, Tg.slots, wipeR, rng, rngOk, SZ, L2.atI, L2.ixN, Pc.d, e1, pLines]
    | fold u v =>
      have e1 : ∀ st, run P (n + k + 1) 158 [.tup [.str s_folds, ltD u, ltD v]] st = .ok (.str (jw [s_folds, ltT u, ltT v])) st := fun st => words_fix (n := n + k) (by decide) u v st
      simp -dsimp [F_piece_lines, evSs, evS, evE, evEs, evI, evO, evGs, forL, lcL, lcT, start, setAll, asgn, asgnL, Gs.slots, Tg.slots, wipeR, rng, rngOk, SZ, L2.atI, L2.ixN, Pc.d, e1, pLines]
    | stk a b =>
      simp -dsimp only [Pc.ok, Bool.and_eq_true] at h
      have hl : a.lv + b.lv ≤ 1000 := hl
      have e1 : ∀ st, run P (n + k + 1) 159 [a.d] st = .ok (.lst ((pLines a).map D.str)) st := fun st => ih h.1 (by omega)
      have e2 : ∀ st, run P (n + k + 1) 159 [b.d] st = .ok (.lst ((pLines b).map D.str)) st := fun st => ih h.2 (by omega)
      have l1 := lines_few a
      have l2 := lines_few b
      have a1 : ∀ st, evBin .add (.lst [.str s_stack]) (.lst ((pLines a).map D.str)) st = some (.lst (([s_stack] ++ pLines a).map D.str)) := fun st => by
        rw [aL _ _ _ (by rw [List.length_map]; show 1 + _ ≤ _; omega)]
        rfl
      have a2 : ∀ st, evBin .add (.lst (([s_stack] ++ pLines a).map D.str)) (.lst ((pLines b).map D.str)) st = some (.lst (([s_stack] ++ pLines a ++ pLines b).map D.str)) := fun st => by
        rw [aL _ _ _ (by rw [List.length_map, List.length_map, List.length_append, List.length_singleton]; omega), List.map_append (l₁ := [s_stack] ++ pLines a)]
      have a3 : ∀ st, evBin .add (.lst (([s_stack] ++ pLines a ++ pLines b).map D.str)) (.lst [.str s_end]) st = some (.lst ((pLines (.stk a b)).map D.str)) := fun st => by
        rw [aL _ _ _ (by rw [List.length_map, List.length_append, List.length_append, List.length_singleton, List.length_singleton]; omega)]
        show _ = some (D.lst (([s_stack] ++ pLines a ++ pLines b ++ [s_end]).map D.str))
        rw [List.map_append (l₁ := [s_stack] ++ pLines a ++ pLines b)]
        rfl
      generalize (pLines (.stk a b)).map D.str = Lx3 at a3 ⊢
      generalize ([s_stack] ++ pLines a ++ pLines b).map D.str = Lx2 at a2 a3
      generalize ([s_stack] ++ pLines a).map D.str = Lx1 at a1 a2
      simp -dsimp [F_piece_lines, evSs, evS, evE, evEs, evI, evO, evGs, forL, lcL, lcT, start, setAll, asgn, asgnL, Gs.slots, Tg.slots, wipeR, rng, rngOk, SZ, L2.atI, L2.ixN, Pc.d, e1, e2, a1, a2, a3]
    | view r u p =>
      simp -dsimp only [Pc.ok, Bool.and_eq_true] at h
      have hl : p.lv + 1 ≤ 1000 := hl
      have e1 : ∀ st, run P (n + k + 1) 159 [p.d] st = .ok (.lst ((pLines p).map D.str)) st := fun st => ih h.2 (by omega)
      have e2 : ∀ st, run P (n + k + 1) 158 [.tup (ruleDs r ++ [ltD u])] st = .ok (.str (jw (ruleW r ++ [ltT u]))) st := fun st => words_view (n := n + k) h.1 u st
      have e3 : ∀ st, evBin .add r.d (.tup [ltD u]) st = some (.tup (ruleDs r ++ [ltD u])) := fun st => bin_addT _ _ (show 6 ≤ 16777216 by omega)
      have hj := jw_len (B := 10) (ruleW r ++ [ltT u]) (fun w hw => by
        rcases List.mem_append.mp hw with z | z
        · exact ruleW_len h.1 w z
        · rw [List.mem_singleton.mp z]
          show 1 ≤ 10
          omega)
      have hj : (jw (ruleW r ++ [ltT u])).length ≤ 6 * 11 := hj
      have e4 : ∀ st, evBin .add (.str s_view_32_) (.str (jw (ruleW r ++ [ltT u]))) st = some (.str (jw (s_view :: (ruleW r ++ [ltT u])))) := fun st => by
        show (if s_view_32_.length + (jw (ruleW r ++ [ltT u])).length ≤ SZ then some (D.str (s_view_32_ ++ jw (ruleW r ++ [ltT u]))) else none) = _
        rw [if_pos (by show 5 + _ ≤ 16777216; omega)]
        rfl
      have l1 := lines_few p
      have a1 : ∀ st, evBin .add (.lst [.str (jw (s_view :: (ruleW r ++ [ltT u])))]) (.lst ((pLines p).map D.str)) st = some (.lst (([jw (s_view :: (ruleW r ++ [ltT u]))] ++ pLines p).map D.str)) := fun st => by
        rw [aL _ _ _ (by rw [List.length_map]; show 1 + _ ≤ _; omega)]
        rfl
      have a3 : ∀ st, evBin .add (.lst (([jw (s_view :: (ruleW r ++ [ltT u]))] ++ pLines p).map D.str)) (.lst [.str s_end]) st = some (.lst ((pLines (.view r u p)).map D.str)) := fun st => by
        rw [aL _ _ _ (by rw [List.length_map, List.length_append, List.length_singleton, List.length_singleton]; omega)]
        show _ = some (D.lst (([jw (s_view :: (ruleW r ++ [ltT u]))] ++ pLines p ++ [s_end]).map D.str))
        rw [List.map_append (l₁ := [jw (s_view :: (ruleW r ++ [ltT u]))] ++ pLines p)]
        rfl
      generalize (pLines (.view r u p)).map D.str = Lx3 at a3 ⊢
      generalize ([jw (s_view :: (ruleW r ++ [ltT u]))] ++ pLines p).map D.str = Lx1 at a1 a3
      generalize jw (s_view :: (ruleW r ++ [ltT u])) = J at e4 a1
      generalize jw (ruleW r ++ [ltT u]) = J2 at e2 e4
      simp -dsimp [F_piece_lines, evSs, evS, evE, evEs, evI, evO, evGs, forL, lcL, lcT, start, setAll, asgn, asgnL, Gs.slots, Tg.slots, wipeR, rng, rngOk, SZ, L2.atI, L2.ixN, Pc.d, e1, e2, e3, e4, a1, a3]
theorem win_line {r : Rl} (h : r.ok = true) (st : Store) : evBin .add (.str s_window_32_) (.str (jw (ruleW r))) st = some (.str (jw (s_window :: ruleW r))) := by
  have hj := jw_len (B := 10) (ruleW r) (ruleW_len h)
  have hj : (jw (ruleW r)).length ≤ 5 * 11 := hj
  show (if s_window_32_.length + (jw (ruleW r)).length ≤ SZ then some (D.str (s_window_32_ ++ jw (ruleW r))) else none) = _
  rw [if_pos (by show 7 + _ ≤ 16777216; omega)]
  rfl
theorem lines_of_ok {w : Win} (h : w.Good) (st : Store) : run P (n + 7) 160 [w.d] st = .ok (.lst ((wLines w).map D.str)) st := by
  rw [run_P P_160 rfl]
  have e1 : ∀ st, run P (n + 6) 159 [w.p.d] st = .ok (.lst ((pLines w.p).map D.str)) st := fun st => piece_lines_ok 5 (n := n) h.p (by have := h.l; omega)
  have e2 : ∀ st, run P (n + 6) 158 [w.r.d] st = .ok (.str (jw (ruleW w.r))) st := fun st => words_rule (n := n + 5) h.r st
  have e3 := win_line h.r
  have l1 := lines_few w.p
  have hl := h.l
  have e4 : ∀ st, evBin .add (.lst [.str (jw (s_window :: ruleW w.r))]) (.lst ((pLines w.p).map D.str)) st = some (.lst ((wLines w).map D.str)) := fun st => by
    rw [bin_addL _ _ (by rw [List.length_map]; show 1 + _ ≤ 16777216; omega)]
    rfl
  have f0 : ∀ st, evIdx w.d (.int 0) st = some w.r.d := fun st => rfl
  have f1 : ∀ st, evIdx w.d (.int 1) st = some w.p.d := fun st => rfl
  generalize (wLines w).map D.str = Lx3 at e4 ⊢
  generalize (pLines w.p).map D.str = Lx1 at e1 e4
  generalize jw (s_window :: ruleW w.r) = J at e3 e4
  generalize jw (ruleW w.r) = J2 at e2 e3
  simp -dsimp [F_lines_of, evSs, evS, evE, evEs, evI, evO, evGs, forL, lcL, lcT, start, setAll, asgn, asgnL, Gs.slots, Tg.slots, wipeR, rng, rngOk, SZ, L2.atI, L2.ixN, e1, e2, e3, e4, f0, f1]
theorem text_join {w : Win} (h : w.Good) (st : Store) : evMth .join (.str s__10_) [.lst ((wLines w).map D.str)] st = .ok (.str (txt w)) st := by
  obtain ⟨h1, h2⟩ := wLines_len h
  exact joinA_ok [10] h1 (by show _ * 78 ≤ _; omega) st
theorem text_of_ok {w : Win} (h : w.Good) (st : Store) : run P (n + 8) 161 [w.d] st = .ok (.str (txt w)) st := by
  rw [run_P P_161 rfl]
  have e1 : ∀ st, run P (n + 7) 160 [w.d] st = .ok (.lst ((wLines w).map D.str)) st := fun st => lines_of_ok (n := n) h st
  have e2 := text_join h
  generalize (wLines w).map D.str = Lx3 at e1 e2
  simp -dsimp [F_text_of, evSs, evS, evE, evEs, evI, evO, evGs, forL, lcL, lcT, start, setAll, asgn, asgnL, Gs.slots, Tg.slots, wipeR, rng, rngOk, SZ, L2.atI, L2.ixN, e1, e2]
end MP
end

section
set_option linter.all false
set_option maxRecDepth 100000
set_option maxHeartbeats 0
/-! Texts of windows, as the laws write them. -/
namespace MP
variable {n : Nat} {st : Store}
theorem law_lines_ok : ∀ (k : Nat) {n : Nat} {p : Pc} {st : Store}, p.ok k = true → p.lv ≤ 1000 → run P (n + k) 168 [p.d] st = .ok (.lst ((pLines p).map D.str)) st := by
  intro k
  induction k with
  | zero => intro n p st h; cases p <;> simp -dsimp [Pc.ok] at h
  | succ k ih =>
    intro n p st h hl
    rw [show n + (k + 1) = (n + k) + 1 by omega, run_P P_168 rfl]
    have aL : ∀ (a b : List D) st, a.length + b.length ≤ 100000 → evBin .add (.lst a) (.lst b) st = some (.lst (a ++ b)) := fun a b st q => bin_addL _ _ (show _ ≤ 16777216 by omega)
    cases p with
    | pic q =>
      simp -dsimp only [Pc.ok, Bool.and_eq_true, decide_eq_true_eq] at h
      have hd : ∀ d ∈ [D.str s_picture, .int (q : Int)], WdD d := fun d hd => by
        simp -dsimp only [List.mem_cons, List.not_mem_nil, or_false] at hd
        rcases hd with rfl | rfl
        · exact .inl ⟨_, rfl, by decide⟩
        · exact fig_W h.2
      have e1 := fun (Γ : G) (ys : List D) (ρ : Rho) (hρ : ρ.length = 3) => str_lc (Γ := Γ) (i := 2) (ys := ys) (ρ := ρ) (by omega) hd (by show 2 ≤ 1000; omega) st
      have e2 := joinA_ok [32] (ws := [s_picture, fig q]) (B := 10) (fun w hw => by
        simp -dsimp only [List.mem_cons, List.not_mem_nil, or_false] at hw
        rcases hw with rfl | rfl
        · decide
        · show 1 ≤ 10; omega) (by show 2 * 11 ≤ _; omega) st
      have ew : ([D.str s_picture, .int (q : Int)].map wD).map D.str = [s_picture, fig q].map D.str := by
        show [D.str s_picture, .str (digits q)] = _
        rw [digits_fig h.2]
        rfl
      rw [ew] at e1
      generalize [s_picture, fig q].map D.str = WL at e1 e2
      simp -dsimp [F__law_lines, evSs, evS, evE, evEs, evI, start, wipeR, Tg.slots, Gs.slots, walked, keepOf, L2.atI, L2.ixN, SZ, Pc.d, e1, e2, pLines, jw]
    | fix u v =>
      have hd : ∀ d ∈ [D.str s_fixed, ltD u, ltD v], WdD d := fun d hd => by
        simp -dsimp only [List.mem_cons, List.not_mem_nil, or_false] at hd
        rcases hd with rfl | rfl | rfl
        · exact .inl ⟨_, rfl, by decide⟩
        · exact lt_W _
        · exact lt_W _
      have e1 := fun (Γ : G) (ys : List D) (ρ : Rho) (hρ : ρ.length = 3) => str_lc (Γ := Γ) (i := 2) (ys := ys) (ρ := ρ) (by omega) hd (by show 3 ≤ 1000; omega) st
      have e2 := joinA_ok [32] (ws := [s_fixed, ltT u, ltT v]) (B := 10) (fun w hw => by
        simp -dsimp only [List.mem_cons, List.not_mem_nil, or_false] at hw
        rcases hw with rfl | rfl | rfl
        · decide
        · show 1 ≤ 10; omega
        · show 1 ≤ 10; omega) (by show 3 * 11 ≤ _; omega) st
      have ew : ([D.str s_fixed, ltD u, ltD v].map wD).map D.str = [s_fixed, ltT u, ltT v].map D.str := rfl
      rw [ew] at e1
      generalize [s_fixed, ltT u, ltT v].map D.str = WL at e1 e2
      simp -dsimp [F__law_lines, evSs, evS, evE, evEs, evI, start, wipeR, Tg.slots, Gs.slots, walked, keepOf, L2.atI, L2.ixN, SZ, Pc.d, e1, e2, pLines, jw]
    | fold u v =>
      have hd : ∀ d ∈ [D.str s_folds, ltD u, ltD v], WdD d := fun d hd => by
        simp -dsimp only [List.mem_cons, List.not_mem_nil, or_false] at hd
        rcases hd with rfl | rfl | rfl
        · exact .inl ⟨_, rfl, by decide⟩
        · exact lt_W _
        · exact lt_W _
      have e1 := fun (Γ : G) (ys : List D) (ρ : Rho) (hρ : ρ.length = 3) => str_lc (Γ := Γ) (i := 2) (ys := ys) (ρ := ρ) (by omega) hd (by show 3 ≤ 1000; omega) st
      have e2 := joinA_ok [32] (ws := [s_folds, ltT u, ltT v]) (B := 10) (fun w hw => by
        simp -dsimp only [List.mem_cons, List.not_mem_nil, or_false] at hw
        rcases hw with rfl | rfl | rfl
        · decide
        · show 1 ≤ 10; omega
        · show 1 ≤ 10; omega) (by show 3 * 11 ≤ _; omega) st
      have ew : ([D.str s_folds, ltD u, ltD v].map wD).map D.str = [s_folds, ltT u, ltT v].map D.str := rfl
      rw [ew] at e1
      generalize [s_folds, ltT u, ltT v].map D.str = WL at e1 e2
      simp -dsimp [F__law_lines, evSs, evS, evE, evEs, evI, start, wipeR, Tg.slots, Gs.slots, walked, keepOf, L2.atI, L2.ixN, SZ, Pc.d, e1, e2, pLines, jw]
    | stk a b =>
      simp -dsimp only [Pc.ok, Bool.and_eq_true] at h
      have hl : a.lv + b.lv ≤ 1000 := hl
      have e1 : ∀ st, run P (n + k) 168 [a.d] st = .ok (.lst ((pLines a).map D.str)) st := fun st => ih h.1 (by omega)
      have e2 : ∀ st, run P (n + k) 168 [b.d] st = .ok (.lst ((pLines b).map D.str)) st := fun st => ih h.2 (by omega)
      have l1 := lines_few a
      have l2 := lines_few b
      have a1 : ∀ st, evBin .add (.lst [.str s_stack]) (.lst ((pLines a).map D.str)) st = some (.lst (([s_stack] ++ pLines a).map D.str)) := fun st => by
        rw [aL _ _ _ (by rw [List.length_map]; show 1 + _ ≤ _; omega)]
        rfl
      have a2 : ∀ st, evBin .add (.lst (([s_stack] ++ pLines a).map D.str)) (.lst ((pLines b).map D.str)) st = some (.lst (([s_stack] ++ pLines a ++ pLines b).map D.str)) := fun st => by
        rw [aL _ _ _ (by rw [List.length_map, List.length_map, List.length_append, List.length_singleton]; omega), List.map_append (l₁ := [s_stack] ++ pLines a)]
      have a3 : ∀ st, evBin .add (.lst (([s_stack] ++ pLines a ++ pLines b).map D.str)) (.lst [.str s_end]) st = some (.lst ((pLines (.stk a b)).map D.str)) := fun st => by
        rw [aL _ _ _ (by rw [List.length_map, List.length_append, List.length_append, List.length_singleton, List.length_singleton]; omega)]
        show _ = some (D.lst (([s_stack] ++ pLines a ++ pLines b ++ [s_end]).map D.str))
        rw [List.map_append (l₁ := [s_stack] ++ pLines a ++ pLines b)]
        rfl
      generalize (pLines (.stk a b)).map D.str = Lx3 at a3 ⊢
      generalize ([s_stack] ++ pLines a ++ pLines b).map D.str = Lx2 at a2 a3
      generalize ([s_stack] ++ pLines a).map D.str = Lx1 at a1 a2
      simp -dsimp [F__law_lines, evSs, evS, evE, evEs, evI, evO, evGs, forL, lcL, lcT, start, setAll, asgn, asgnL, Gs.slots, Tg.slots, wipeR, rng, rngOk, SZ, L2.atI, L2.ixN, Pc.d, e1, e2, a1, a2, a3]
    | view r u p =>
      simp -dsimp only [Pc.ok, Bool.and_eq_true] at h
      have hl : p.lv + 1 ≤ 1000 := hl
      have e1 : ∀ st, run P (n + k) 168 [p.d] st = .ok (.lst ((pLines p).map D.str)) st := fun st => ih h.2 (by omega)
      have s1 := fun (Γ : G) (ys : List D) (ρ : Rho) (hρ : ρ.length = 3) => str_lc (Γ := Γ) (i := 2) (ys := ys) (ρ := ρ) (by omega) (ruleDs_W h.1) (by show 5 ≤ 1000; omega) st
      rw [ruleDs_w h.1] at s1
      have hw : ∀ w ∈ s_view :: (ruleW r ++ [ltT u]), w.length ≤ 10 := fun w hw => by
        simp -dsimp only [List.mem_cons, List.mem_append, List.not_mem_nil, or_false] at hw
        rcases hw with rfl | hw | rfl
        · decide
        · exact ruleW_len h.1 w hw
        · show 1 ≤ 10
          omega
      have e2 := joinA_ok [32] hw (by show 7 * 11 ≤ _; omega) st
      have a4 : ∀ st, evBin .add (.lst [.str s_view]) (.lst ((ruleW r).map D.str)) st = some (.lst (([s_view] ++ ruleW r).map D.str)) := fun st => by
        rw [aL _ _ _ (by show 1 + 5 ≤ 100000; omega)]
        rfl
      have a5 : ∀ st, evBin .add (.lst (([s_view] ++ ruleW r).map D.str)) (.lst [ltD u]) st = some (.lst ((s_view :: (ruleW r ++ [ltT u])).map D.str)) := fun st => by
        rw [aL _ _ _ (by show 6 + 1 ≤ 100000; omega)]
        rfl
      have l1 := lines_few p
      have a1 : ∀ st, evBin .add (.lst [.str (jw (s_view :: (ruleW r ++ [ltT u])))]) (.lst ((pLines p).map D.str)) st = some (.lst (([jw (s_view :: (ruleW r ++ [ltT u]))] ++ pLines p).map D.str)) := fun st => by
        rw [aL _ _ _ (by rw [List.length_map]; show 1 + _ ≤ _; omega)]
        rfl
      have a3 : ∀ st, evBin .add (.lst (([jw (s_view :: (ruleW r ++ [ltT u]))] ++ pLines p).map D.str)) (.lst [.str s_end]) st = some (.lst ((pLines (.view r u p)).map D.str)) := fun st => by
        rw [aL _ _ _ (by rw [List.length_map, List.length_append, List.length_singleton, List.length_singleton]; omega)]
        show _ = some (D.lst (([jw (s_view :: (ruleW r ++ [ltT u]))] ++ pLines p ++ [s_end]).map D.str))
        rw [List.map_append (l₁ := [jw (s_view :: (ruleW r ++ [ltT u]))] ++ pLines p)]
        rfl
      have e2 : evMth .join (.str [32]) [.lst ((s_view :: (ruleW r ++ [ltT u])).map D.str)] st = .ok (.str (jw (s_view :: (ruleW r ++ [ltT u])))) st := e2
      have w1 : walked r.d st = some ⟨ruleDs r, []⟩ := rfl
      generalize (pLines (.view r u p)).map D.str = Lx3 at a3 ⊢
      generalize ([jw (s_view :: (ruleW r ++ [ltT u]))] ++ pLines p).map D.str = Lx1 at a1 a3
      generalize jw (s_view :: (ruleW r ++ [ltT u])) = J at e2 a1
      generalize (s_view :: (ruleW r ++ [ltT u])).map D.str = W3 at e2 a5
      generalize ([s_view] ++ ruleW r).map D.str = W4 at a4 a5
      generalize (ruleW r).map D.str = W5 at s1 a4
      simp -dsimp [F__law_lines, evSs, evS, evE, evEs, evI, start, wipeR, Tg.slots, Gs.slots, L2.atI, L2.ixN, SZ, Pc.d, w1, s1, e1, e2, a1, a3, a4, a5]
theorem law_text_ok {w : Win} (h : w.Good) (st : Store) : run P (n + 6) 169 [w.d] st = .ok (.str (txt w)) st := by
  rw [run_P P_169 rfl]
  have e1 : ∀ st, run P (n + 5) 168 [w.p.d] st = .ok (.lst ((pLines w.p).map D.str)) st := fun st => law_lines_ok 5 (n := n) h.p (by have := h.l; omega)
  have s1 := fun (Γ : G) (ys : List D) (ρ : Rho) (hρ : ρ.length = 3) => str_lc (Γ := Γ) (i := 2) (ys := ys) (ρ := ρ) (by omega) (ruleDs_W h.r) (by show 5 ≤ 1000; omega) st
  rw [ruleDs_w h.r] at s1
  have e2 : evMth .join (.str [32]) [.lst ((ruleW w.r).map D.str)] st = .ok (.str (jw (ruleW w.r))) st := joinA_ok [32] (ruleW_len h.r) (by show 5 * 11 ≤ _; omega) st
  have e3 := win_line h.r st
  have l1 := lines_few w.p
  have hl := h.l
  have e4 : ∀ st, evBin .add (.lst [.str (jw (s_window :: ruleW w.r))]) (.lst ((pLines w.p).map D.str)) st = some (.lst ((wLines w).map D.str)) := fun st => by
    rw [bin_addL _ _ (by rw [List.length_map]; show 1 + _ ≤ 16777216; omega)]
    rfl
  have e5 := text_join h st
  have f0 : ∀ st, evIdx w.d (.int 0) st = some w.r.d := fun st => rfl
  have f1 : ∀ st, evIdx w.d (.int 1) st = some w.p.d := fun st => rfl
  have w1 : walked w.r.d st = some ⟨ruleDs w.r, []⟩ := rfl
  generalize (wLines w).map D.str = Lx3 at e4 e5
  generalize (pLines w.p).map D.str = Lx1 at e1 e4
  generalize jw (s_window :: ruleW w.r) = J at e3 e4
  generalize jw (ruleW w.r) = J2 at e2 e3
  generalize (ruleW w.r).map D.str = W5 at s1 e2
  simp -dsimp [F__law_text, evSs, evS, evE, evEs, evI, start, wipeR, Tg.slots, Gs.slots, SZ, w1, s1, e1, e2, e3, e4, e5, f0, f1]
end MP
end

section
set_option linter.all false
set_option maxRecDepth 100000
set_option maxHeartbeats 0
/-! Views, sizes, standings. -/
namespace MP
variable {n : Nat} {st : Store} {s : Nat}
/-- the view that a piece is, as a pair -/
def gV : D → List D
  | .tup [.str w, r, _, q] => if w == s_view then [.tup [r, q]] else []
  | _ => []
def vwL (p : Pc) : List Win := match p.vw with
  | some (r, _, q) => [⟨r, q⟩]
  | none => []
theorem gV_view (r : Rl) (u : Lt) (p : Pc) : gV (Pc.view r u p).d = [Win.d ⟨r, p⟩] := rfl
theorem gV_not {p : Pc} (h : p.isView = false) : gV p.d = [] := by
  cases p <;> first | rfl | (cases h)
theorem no_views : ∀ p : Pc, p.nv = 0 → p.vw = none ∧ (p.subs.map Pc.d).flatMap gV = []
  | .pic q, _ => ⟨rfl, rfl⟩
  | .fix u v, _ => ⟨rfl, rfl⟩
  | .fold u v, _ => ⟨rfl, rfl⟩
  | .stk a b, h => by
    have h : a.nv + b.nv = 0 := h
    obtain ⟨a1, a2⟩ := no_views a (by omega)
    obtain ⟨b1, b2⟩ := no_views b (by omega)
    refine ⟨by show a.vw.or b.vw = none; rw [a1, b1]; rfl, ?_⟩
    show gV (Pc.stk a b).d ++ ((a.subs ++ b.subs).map Pc.d).flatMap gV = []
    rw [List.map_append, List.flatMap_append, a2, b2]
    rfl
  | .view r u p, h => by simp -dsimp [Pc.nv] at h
theorem one_view : ∀ p : Pc, p.nv ≤ 1 → (p.subs.map Pc.d).flatMap gV = (vwL p).map Win.d
  | .pic q, _ => rfl
  | .fix u v, _ => rfl
  | .fold u v, _ => rfl
  | .stk a b, h => by
    have h : a.nv + b.nv ≤ 1 := h
    show gV (Pc.stk a b).d ++ ((a.subs ++ b.subs).map Pc.d).flatMap gV = (vwL (.stk a b)).map Win.d
    rw [List.map_append, List.flatMap_append]
    have e : vwL (.stk a b) = vwL a ++ vwL b := by
      unfold vwL
      show (match a.vw.or b.vw with
        | some (r, _, q) => [(⟨r, q⟩ : Win)]
        | none => []) = _
      by_cases q : a.nv = 0
      · rw [(no_views a q).1]; rfl
      · rw [(no_views b (by omega)).1]
        cases a.vw <;> simp -dsimp
    rw [e, List.map_append, one_view a (by omega), one_view b (by omega)]
    rfl
  | .view r u p, h => by
    have h : p.nv + 1 ≤ 1 := h
    show gV (Pc.view r u p).d ++ (p.subs.map Pc.d).flatMap gV = _
    rw [(no_views p (by omega)).2]
    rfl
theorem views_eq (w : Win) : w.views = w :: vwL w.p := rfl
theorem flatv_len {p : Pc} (h : p.nv ≤ 1) : ((p.subs.map Pc.d).flatMap gV).length ≤ 1 := by
  rw [one_view p h, List.length_map]
  unfold vwL
  cases p.vw <;> simp -dsimp
theorem views_lc {Γ : G} {ys : List D} {ρ : Rho} (hρ : ρ.length = 2) {ps : List Pc} (hz : ((ps.map Pc.d).flatMap gV).length ≤ 1) :
    lcL ⟨ys, []⟩ (.nm 1) (lcT (evO Γ (.some (.cmp .eq (.idx (.nm 1) (.int 0)) (.str s_view)))) (evGs Γ (.elt (.tup (.cons (.idx (.nm 1) (.int 1)) (.cons (.idx (.nm 1) (.int 3)) .nil)))))) (ps.map Pc.d) ρ st [] = .ok ((ps.map Pc.d).flatMap gV) st := by
  have e := lcL_ok (i := 1) (ys := ys) (f := lcT (evO Γ (.some (.cmp .eq (.idx (.nm 1) (.int 0)) (.str s_view)))) (evGs Γ (.elt (.tup (.cons (.idx (.nm 1) (.int 1)) (.cons (.idx (.nm 1) (.int 3)) .nil)))))) (ρ := ρ) (st := st) gV (by omega) (ps.map Pc.d) [] (fun x hx acc ha => ?_) (Nat.le_trans (by simpa -dsimp using hz) (by decide))
  · rw [e]; rfl
  · obtain ⟨q, _, rfl⟩ := List.mem_map.mp hx
    have e4 : (ρ.set 1 (some q.d))[1]? = some (some q.d) := List.getElem?_set_self (by omega)
    cases q with
    | view r u p =>
      simp -dsimp only [Pc.d] at e4
      have ha : acc.length + 1 ≤ 16777216 := ha
      have hz2 : acc.length < 16777216 := by omega
      simp -dsimp [lcT, evO, evE, evEs, evGs, e4, SZ, L2.atI, L2.ixN, Pc.d, hz2, gV]
    | _ =>
      simp -dsimp only [Pc.d] at e4
      simp -dsimp [lcT, evO, evE, evEs, evGs, e4, SZ, L2.atI, L2.ixN, Pc.d, gV]
theorem views_of_ok {w : Win} (h : w.Good) : run P (n + 6) 9 [w.d] st = .ok (.lst (w.views.map Win.d)) st := by
  rw [run_P P_9 rfl]
  have e1 : ∀ st, run P (n + 5) 5 [w.p.d] st = .ok (.lst (pcs 5 w.p.d)) st := fun st => pieces_ok 5 (n := n) (by omega) (by rw [pc_shape]; exact h.p)
  have e1' : ∀ st, run P (n + 5) 5 [w.p.d] st = .ok (.lst (w.p.subs.map Pc.d)) st := fun st => by rw [e1, pcs_subs 5 w.p h.p]
  have e2 := fun (Γ : G) (ys : List D) (ρ : Rho) (st : Store) (hρ : ρ.length = 2) => views_lc (Γ := Γ) (ys := ys) (st := st) hρ (flatv_len h.v)
  have hz : 1 + ((w.p.subs.map Pc.d).flatMap gV).length ≤ 16777216 := by
    have := flatv_len h.v
    omega
  have e3 : ∀ st, evBin .add (.lst [w.d]) (.lst ((w.p.subs.map Pc.d).flatMap gV)) st = some (.lst (w.d :: (w.p.subs.map Pc.d).flatMap gV)) := fun st => bin_addL _ _ hz
  have e4 : evIdx w.d (.int 1) st = some w.p.d := rfl
  rw [one_view w.p h.v] at e3
  simp -dsimp [F_views_of, evSs, evS, evE, evEs, evI, start, wipeR, Tg.slots, Gs.slots, SZ, e1', e4, e2, e3, views_eq, one_view w.p h.v]
/-! ### kids -/
theorem kids_small : ∀ p : Pc, p.kids.length ≤ p.lv
  | .pic q => Nat.le_refl 1
  | .fix u v => Nat.le_refl 1
  | .fold u v => Nat.le_refl 1
  | .stk a b => by
    show (a.kids ++ b.kids).length ≤ a.lv + b.lv
    have h1 := kids_small a
    have h2 := kids_small b
    rw [List.length_append]; omega
  | .view r u p => by show 1 ≤ p.lv + 1; omega
theorem law_kids_ok : ∀ (k : Nat) {n : Nat} {p : Pc} {st : Store}, p.ok k = true → p.lv ≤ 1000 → run P (n + k) 26 [p.d] st = .ok (.lst (p.kids.map Pc.d)) st := by
  intro k
  induction k with
  | zero => intro n p st h; cases p <;> simp -dsimp [Pc.ok] at h
  | succ k ih =>
    intro n p st h hl
    rw [show n + (k + 1) = (n + k) + 1 by omega, run_P P_26 rfl]
    cases p with
    | stk a b =>
      simp -dsimp only [Pc.ok, Bool.and_eq_true] at h
      have hl : a.lv + b.lv ≤ 1000 := hl
      have e1 : ∀ st, run P (n + k) 26 [a.d] st = .ok (.lst (a.kids.map Pc.d)) st := fun st => ih h.1 (by omega)
      have e2 : ∀ st, run P (n + k) 26 [b.d] st = .ok (.lst (b.kids.map Pc.d)) st := fun st => ih h.2 (by omega)
      have z1 := kids_small a
      have z2 := kids_small b
      have a1 : ∀ st, evBin .add (.lst (a.kids.map Pc.d)) (.lst (b.kids.map Pc.d)) st = some (.lst (a.kids.map Pc.d ++ b.kids.map Pc.d)) := fun st => bin_addL _ _ (by rw [List.length_map, List.length_map]; show _ ≤ 16777216; omega)
      simp -dsimp [F__law_kids, evSs, evS, evE, evEs, evI, evO, evGs, forL, lcL, lcT, start, setAll, asgn, asgnL, Gs.slots, Tg.slots, wipeR, rng, rngOk, SZ, L2.atI, L2.ixN, Pc.d, e1, e2, a1, Pc.kids]
    | _ => simp -dsimp [F__law_kids, evSs, evS, evE, evEs, evI, evO, evGs, forL, lcL, lcT, start, setAll, asgn, asgnL, Gs.slots, Tg.slots, wipeR, rng, rngOk, SZ, L2.atI, L2.ixN, Pc.d, Pc.kids]
theorem kids_views : ∀ p : Pc, p.nv ≤ 1 → (p.kids.map Pc.d).flatMap gV = (vwL p).map Win.d
  | .pic q, _ => rfl
  | .fix u v, _ => rfl
  | .fold u v, _ => rfl
  | .stk a b, h => by
    have h : a.nv + b.nv ≤ 1 := h
    show ((a.kids ++ b.kids).map Pc.d).flatMap gV = (vwL (.stk a b)).map Win.d
    rw [List.map_append, List.flatMap_append]
    have e : vwL (.stk a b) = vwL a ++ vwL b := by
      unfold vwL
      show (match a.vw.or b.vw with
        | some (r, _, q) => [(⟨r, q⟩ : Win)]
        | none => []) = _
      by_cases q : a.nv = 0
      · rw [(no_views a q).1]; rfl
      · rw [(no_views b (by omega)).1]
        cases a.vw <;> simp -dsimp
    rw [e, List.map_append, kids_views a (by omega), kids_views b (by omega)]
  | .view r u p, h => rfl
theorem law_views_ok {w : Win} (h : w.Good) : run P (n + 6) 27 [w.d] st = .ok (.lst (w.views.map Win.d)) st := by
  rw [run_P P_27 rfl]
  have e1' : ∀ st, run P (n + 5) 26 [w.p.d] st = .ok (.lst (w.p.kids.map Pc.d)) st := fun st => law_kids_ok 5 (n := n) h.p (by have := h.l; omega)
  have hl : ((w.p.kids.map Pc.d).flatMap gV).length ≤ 1 := by
    rw [kids_views w.p h.v, ← one_view w.p h.v]
    exact flatv_len h.v
  have e2 := fun (Γ : G) (ys : List D) (ρ : Rho) (st : Store) (hρ : ρ.length = 2) => views_lc (Γ := Γ) (ys := ys) (st := st) hρ hl
  have e3 : ∀ st, evBin .add (.lst [w.d]) (.lst ((w.p.kids.map Pc.d).flatMap gV)) st = some (.lst (w.d :: (w.p.kids.map Pc.d).flatMap gV)) := fun st => bin_addL _ _ (show 1 + _ ≤ 16777216 by omega)
  have e4 : evIdx w.d (.int 1) st = some w.p.d := rfl
  rw [kids_views w.p h.v] at e3
  simp -dsimp [F__law_views, evSs, evS, evE, evEs, evI, start, wipeR, Tg.slots, Gs.slots, SZ, e1', e4, e2, e3, views_eq, kids_views w.p h.v]
/-! ### standings -/
abbrev Sd : Type := List (Bool × Bool)
def pD (p : Bool × Bool) : D := .tup [.bl p.1, .bl p.2]
def sD (t : Sd) : D := .tup (t.map pD)
def none2 : Bool × Bool := (false, false)
def Win.none (w : Win) : Sd := w.views.map fun _ => none2
theorem views_len (w : Win) : w.views.length = 1 ∨ w.views.length = 2 := by
  rw [views_eq]
  unfold vwL
  cases w.p.vw <;> simp -dsimp
theorem none_d (w : Win) : evBin .mul (.tup [.tup [.bl false, .bl false]]) (.int (w.views.length : Int)) st = some (sD w.none) := by
  rcases views_len w with h | h
  · obtain ⟨v, hv⟩ := List.length_eq_one_iff.mp h
    rw [Win.none, hv]
    simp -dsimp [evBin, sD, pD, none2]
  · match hv : w.views, h with
    | [a, b], _ =>
      rw [Win.none, hv]
      simp -dsimp [evBin, sD, pD, none2]
end MP
end

section
set_option linter.all false
set_option maxRecDepth 100000
set_option maxHeartbeats 0
/-! Windows with another part. -/
namespace MP
variable {n : Nat} {st : Store}
/-- a comprehension over what is written of some items, whose turns change no cell -/
theorem lcL_map {α : Type} {i : Nat} {ys : List D} {f : Rho → Store → List D → R (List D)} {ρ : Rho} {st : Store} (e : α → D) (g : α → List D) (hi : i < ρ.length) : ∀ (xs : List α) (acc : List D),
    (∀ x ∈ xs, ∀ acc, acc.length + (g x).length ≤ SZ → f (ρ.set i (some (e x))) st acc = .ok (acc ++ g x) st) → acc.length + (xs.flatMap g).length ≤ SZ → lcL ⟨ys, []⟩ (.nm i) f (xs.map e) ρ st acc = .ok (acc ++ xs.flatMap g) st
  | [], acc, _, _ => by simp -dsimp [lcL]
  | x :: xs, acc, h, hz => by
    simp -dsimp only [List.flatMap_cons, List.length_append] at hz
    have e1 := h x (by simp -dsimp) acc (by omega)
    have ih := lcL_map (ys := ys) e g hi xs (acc ++ g x) (fun y hy => h y (List.mem_cons_of_mem _ hy)) (by rw [List.length_append]; omega)
    simp -dsimp only [List.map_cons, lcL, asgn, hi, if_true, e1, R.oks_ok, wok_nil, ih, List.flatMap_cons, List.append_assoc]
def putR' : Pc → Rl → Pc
  | .stk a b, r => .stk (putR' a r) (putR' b r)
  | .view _ u p, r => .view r u p
  | p, _ => p
theorem with_rule_ok (r : Rl) : ∀ (k : Nat) {n : Nat} {p : Pc} {st : Store}, p.ok k = true → run P (n + k) 162 [p.d, r.d] st = .ok (putR' p r).d st := by
  intro k
  induction k with
  | zero => intro n p st h; cases p <;> simp -dsimp [Pc.ok] at h
  | succ k ih =>
    intro n p st h
    rw [show n + (k + 1) = (n + k) + 1 by omega, run_P P_162 rfl]
    cases p with
    | stk a b =>
      simp -dsimp only [Pc.ok, Bool.and_eq_true] at h
      have e1 : ∀ st, run P (n + k) 162 [a.d, r.d] st = .ok (putR' a r).d st := fun st => ih h.1
      have e2 : ∀ st, run P (n + k) 162 [b.d, r.d] st = .ok (putR' b r).d st := fun st => ih h.2
      simp -dsimp [F_with_rule, evSs, evS, evE, evEs, evI, evO, evGs, forL, lcL, lcT, start, setAll, asgn, asgnL, Gs.slots, Tg.slots, wipeR, rng, rngOk, SZ, L2.atI, L2.ixN, Pc.d, putR', e1, e2]
    | view q u p =>
      have aT : ∀ (a b : List D) st, a.length + b.length ≤ 1000 → evBin .add (.tup a) (.tup b) st = some (.tup (a ++ b)) := fun a b st q => bin_addT _ _ (show _ ≤ 16777216 by omega)
      simp -dsimp [F_with_rule, evSs, evS, evE, evEs, evI, evO, evGs, forL, lcL, lcT, start, setAll, asgn, asgnL, Gs.slots, Tg.slots, wipeR, rng, rngOk, SZ, L2.atI, L2.ixN, Pc.d, putR', cut, HT.sIx, aT]
    | _ => simp -dsimp [F_with_rule, evSs, evS, evE, evEs, evI, evO, evGs, forL, lcL, lcT, start, setAll, asgn, asgnL, Gs.slots, Tg.slots, wipeR, rng, rngOk, SZ, L2.atI, L2.ixN, Pc.d, putR']
theorem law_put_ok (r : Rl) : ∀ (k : Nat) {n : Nat} {p : Pc} {st : Store}, p.ok k = true → run P (n + k) 152 [p.d, r.d] st = .ok (putR' p r).d st := by
  intro k
  induction k with
  | zero => intro n p st h; cases p <;> simp -dsimp [Pc.ok] at h
  | succ k ih =>
    intro n p st h
    rw [show n + (k + 1) = (n + k) + 1 by omega, run_P P_152 rfl]
    cases p with
    | stk a b =>
      simp -dsimp only [Pc.ok, Bool.and_eq_true] at h
      have e1 : ∀ st, run P (n + k) 152 [a.d, r.d] st = .ok (putR' a r).d st := fun st => ih h.1
      have e2 : ∀ st, run P (n + k) 152 [b.d, r.d] st = .ok (putR' b r).d st := fun st => ih h.2
      simp -dsimp [F__law_put_rule, evSs, evS, evE, evEs, evI, evO, evGs, forL, lcL, lcT, start, setAll, asgn, asgnL, Gs.slots, Tg.slots, wipeR, rng, rngOk, SZ, L2.atI, L2.ixN, Pc.d, putR', e1, e2]
    | view q u p =>
      have aT : ∀ (a b : List D) st, a.length + b.length ≤ 1000 → evBin .add (.tup a) (.tup b) st = some (.tup (a ++ b)) := fun a b st q => bin_addT _ _ (show _ ≤ 16777216 by omega)
      simp -dsimp [F__law_put_rule, evSs, evS, evE, evEs, evI, evO, evGs, forL, lcL, lcT, start, setAll, asgn, asgnL, Gs.slots, Tg.slots, wipeR, rng, rngOk, SZ, L2.atI, L2.ixN, Pc.d, putR', cut, HT.sIx, aT]
    | _ => simp -dsimp [F__law_put_rule, evSs, evS, evE, evEs, evI, evO, evGs, forL, lcL, lcT, start, setAll, asgn, asgnL, Gs.slots, Tg.slots, wipeR, rng, rngOk, SZ, L2.atI, L2.ixN, Pc.d, putR']
/-- with another rule it is a piece just if the rule is one -/
theorem putR_ok (r : Rl) : ∀ (k : Nat) (p : Pc), p.ok k = true → (putR' p r).ok k = (r.ok || decide (p.nv = 0)) ∧ (putR' p r).nv = p.nv ∧ (putR' p r).lv = p.lv
  | 0, p, h => by cases p <;> simp -dsimp [Pc.ok] at h
  | k + 1, .pic q, h => by
    have h : Pc.ok (k + 1) (.pic q) = true := h
    refine ⟨?_, rfl, rfl⟩
    show Pc.ok (k + 1) (.pic q) = _
    rw [h]
    show true = (r.ok || true)
    rw [Bool.or_true]
  | k + 1, .fix u v, h => ⟨by show true = (r.ok || true); rw [Bool.or_true], rfl, rfl⟩
  | k + 1, .fold u v, h => ⟨by show true = (r.ok || true); rw [Bool.or_true], rfl, rfl⟩
  | k + 1, .stk a b, h => by
    simp -dsimp only [Pc.ok, Bool.and_eq_true] at h
    obtain ⟨a1, a2, a3⟩ := putR_ok r k a h.1
    obtain ⟨b1, b2, b3⟩ := putR_ok r k b h.2
    refine ⟨?_, by show (putR' a r).nv + (putR' b r).nv = a.nv + b.nv; omega, by show (putR' a r).lv + (putR' b r).lv = a.lv + b.lv; omega⟩
    show ((putR' a r).ok k && (putR' b r).ok k) = (r.ok || decide (a.nv + b.nv = 0))
    rw [a1, b1]
    cases r.ok
    · by_cases qa : a.nv = 0
      · by_cases qb : b.nv = 0
        · rw [decide_eq_true qa, decide_eq_true qb, decide_eq_true (by omega)]
          rfl
        · rw [decide_eq_true qa, decide_eq_false qb, decide_eq_false (by omega)]
          rfl
      · rw [decide_eq_false qa, decide_eq_false (show ¬ (a.nv + b.nv = 0) by omega)]
        rfl
    · rfl
  | k + 1, .view q u p, h => by
    simp -dsimp only [Pc.ok, Bool.and_eq_true] at h
    refine ⟨?_, rfl, rfl⟩
    show (r.ok && p.ok k) = (r.ok || decide (p.nv + 1 = 0))
    rw [h.2, Bool.and_true, decide_eq_false (show ¬ (p.nv + 1 = 0) by omega), Bool.or_false]
/-- the view of a window -/
def Win.w (w : Win) (a : Nat) : Win := if a = 0 then w else (match w.p.vw with
  | some (r, _, q) => ⟨r, q⟩
  | none => w)
def Win.put (w : Win) (a : Nat) (r : Rl) : Win := if a = 0 then ⟨r, w.p⟩ else ⟨w.r, putR' w.p r⟩
theorem w_at {w : Win} {a : Nat} (ha : a < w.views.length) (st : Store) : evIdx (.lst (w.views.map Win.d)) (.int (a : Int)) st = some (w.w a).d := by
  have key : w.views[a]? = some (w.w a) := by
    revert ha
    rw [views_eq]
    unfold vwL Win.w
    cases w.p.vw with
    | none =>
      intro ha
      have ha : a < 1 := ha
      match a, ha with
      | 0, _ => rfl
    | some z =>
      obtain ⟨r, u, q⟩ := z
      intro ha
      have ha : a < 2 := ha
      match a, ha with
      | 0, _ => rfl
      | 1, _ => rfl
  show L2.atI _ _ = _
  rw [List.getElem?_eq_getElem ha] at key
  rw [atI_nat (by rw [List.length_map]; exact ha), List.getElem_map, Option.some.inj key]
/-- the rules with another value of a part, the old one too -/
def partR (r : Rl) : Nat → List Rl
  | 0 => [{ r with side := .always }, { r with side := .auto }, { r with side := .never }, { r with side := .room }]
  | 1 => [{ r with below := .always }, { r with below := .auto }, { r with below := .never }, { r with below := .room }]
  | 2 => [{ r with ord := false }, { r with ord := true }]
  | 3 => [{ r with drop := true }, { r with drop := false }]
  | _ => [{ r with slack := 0 }, { r with slack := 1 }, { r with slack := 2 }, { r with slack := 3 }, { r with slack := 4 }, { r with slack := 5 }, { r with slack := 6 }, { r with slack := 7 }, { r with slack := 8 }]
def partD (r : Rl) : Nat → D
  | 0 => .str r.side.t
  | 1 => .str r.below.t
  | 2 => .str (ordT r.ord)
  | 3 => .str (agT r.drop)
  | _ => .int r.slack
theorem part_at (r : Rl) {j : Nat} (hj : j < 5) (st : Store) : evIdx r.d (.int (j : Int)) st = some (partD r j) := by
  match j, hj with
  | 0, _ => rfl
  | 1, _ => rfl
  | 2, _ => rfl
  | 3, _ => rfl
  | 4, _ => rfl
/-- the rule with another value -/
theorem part_set {r q : Rl} {j : Nat} (hj : j < 5) (hq : q ∈ partR r j) (st : Store) :
    ∃ a b c, evSl r.d none (some (j : Int)) st = some (.tup a) ∧ evSl r.d (some ((j : Int) + 1)) none st = some (.tup b) ∧ evBin .add (.tup a) (.tup [partD q j]) st = some (.tup c) ∧ evBin .add (.tup c) (.tup b) st = some q.d := by
  have aT : ∀ (a b : List D) st, a.length + b.length ≤ 1000 → evBin .add (.tup a) (.tup b) st = some (.tup (a ++ b)) := fun a b st q => bin_addT _ _ (show _ ≤ 16777216 by omega)
  obtain ⟨r1, r2, r3, r4, r5⟩ := r
  match j, hj with
  | 0, _ =>
    refine ⟨[], [.str r2.t, .str (ordT r3), .str (agT r4), .int r5], [partD q 0], rfl, rfl, rfl, ?_⟩
    rw [aT _ _ _ (by show 1 + 4 ≤ 1000; omega)]
    simp -dsimp only [partR, List.mem_cons, List.not_mem_nil, or_false] at hq
    rcases hq with rfl | rfl | rfl | rfl <;> rfl
  | 1, _ =>
    refine ⟨[.str r1.t], [.str (ordT r3), .str (agT r4), .int r5], [.str r1.t, partD q 1], rfl, rfl, rfl, ?_⟩
    rw [aT _ _ _ (by show 2 + 3 ≤ 1000; omega)]
    simp -dsimp only [partR, List.mem_cons, List.not_mem_nil, or_false] at hq
    rcases hq with rfl | rfl | rfl | rfl <;> rfl
  | 2, _ =>
    refine ⟨[.str r1.t, .str r2.t], [.str (agT r4), .int r5], [.str r1.t, .str r2.t, partD q 2], rfl, rfl, rfl, ?_⟩
    rw [aT _ _ _ (by show 3 + 2 ≤ 1000; omega)]
    simp -dsimp only [partR, List.mem_cons, List.not_mem_nil, or_false] at hq
    rcases hq with rfl | rfl <;> rfl
  | 3, _ =>
    refine ⟨[.str r1.t, .str r2.t, .str (ordT r3)], [.int r5], [.str r1.t, .str r2.t, .str (ordT r3), partD q 3], rfl, rfl, rfl, ?_⟩
    rw [aT _ _ _ (by show 4 + 1 ≤ 1000; omega)]
    simp -dsimp only [partR, List.mem_cons, List.not_mem_nil, or_false] at hq
    rcases hq with rfl | rfl <;> rfl
  | 4, _ =>
    refine ⟨[.str r1.t, .str r2.t, .str (ordT r3), .str (agT r4)], [], [.str r1.t, .str r2.t, .str (ordT r3), .str (agT r4), partD q 4], rfl, rfl, rfl, ?_⟩
    rw [aT _ _ _ (by show 5 + 0 ≤ 1000; omega)]
    simp -dsimp only [partR, List.mem_cons, List.not_mem_nil, or_false] at hq
    rcases hq with rfl | rfl | rfl | rfl | rfl | rfl | rfl | rfl | rfl <;> rfl
theorem with_part_ok {w : Win} (h : w.Good) {a : Nat} (ha : a < w.views.length) {j : Nat} (hj : j < 5) {q : Rl} (hq : q ∈ partR (w.w a).r j) (st : Store) : run P (n + 7) 163 [w.d, .int (a : Int), .int (j : Int), partD q j] st = .ok (w.put a q).d st := by
  rw [run_P P_163 rfl]
  have e1 : ∀ st, run P (n + 6) 9 [w.d] st = .ok (.lst (w.views.map Win.d)) st := fun st => views_of_ok h
  have e2 := w_at ha
  have e3 : ∀ st, evIdx (w.w a).d (.int 0) st = some (w.w a).r.d := fun st => rfl
  obtain ⟨x, y, z, e4, e5, e6, e7⟩ := part_set hj hq st
  have e8 : ∀ st, run P (n + 6) 162 [w.p.d, q.d] st = .ok (putR' w.p q).d st := fun st => with_rule_ok q 5 (n := n + 1) h.p
  have f0 : ∀ st, evIdx w.d (.int 0) st = some w.r.d := fun st => rfl
  have f1 : ∀ st, evIdx w.d (.int 1) st = some w.p.d := fun st => rfl
  have c0 : ((0 : Nat) : Int) = 0 := rfl
  generalize w.views.map Win.d = V at e1 e2
  unfold Win.put
  generalize (w.w a).r.d = R0 at e3 e4 e5
  by_cases ha0 : a = 0
  · subst ha0
    rw [if_pos rfl]
    rw [c0] at e2
    rw [c0]
    show _ = R.ok (D.tup [q.d, w.p.d]) st
    simp -dsimp [F_with_part, evSs, evS, evE, evEs, evI, evO, evGs, forL, lcL, lcT, start, setAll, asgn, asgnL, Gs.slots, Tg.slots, wipeR, rng, rngOk, SZ, L2.atI, L2.ixN, e1, e2, e3, e4, e5, e6, e7, f1]
  · rw [if_neg ha0]
    have hz : ((a : Int) == 0) = false := by
      have : (a : Int) ≠ 0 := by omega
      simpa -dsimp using this
    show _ = R.ok (D.tup [w.r.d, (putR' w.p q).d]) st
    simp -dsimp [F_with_part, evSs, evS, evE, evEs, evI, evO, evGs, forL, lcL, lcT, start, setAll, asgn, asgnL, Gs.slots, Tg.slots, wipeR, rng, rngOk, SZ, L2.atI, L2.ixN, e1, e2, e3, e4, e5, e6, e7, e8, f0, f1, hz]
end MP
end

section
set_option linter.all false
set_option maxRecDepth 100000
set_option maxHeartbeats 0
/-! All windows with another part. -/
namespace MP
variable {n : Nat} {st : Store}
theorem putR_nv0 (r : Rl) : ∀ p : Pc, p.nv = 0 → putR' p r = p
  | .pic _, _ => rfl
  | .fix _ _, _ => rfl
  | .fold _ _, _ => rfl
  | .stk a b, h => by
    have h : a.nv + b.nv = 0 := h
    show Pc.stk (putR' a r) (putR' b r) = _
    rw [putR_nv0 r a (by omega), putR_nv0 r b (by omega)]
  | .view _ _ p, h => by
    have h : p.nv + 1 = 0 := h
    omega
theorem putR_shape (r : Rl) (k : Nat) (p : Pc) (h : p.ok k = true) : shape k (putR' p r).d = (r.ok || decide (p.nv = 0)) := by
  rw [pc_shape, (putR_ok r k p h).1]
theorem w_nv {w : Win} (h : w.Good) {a : Nat} (ha : a < w.views.length) (ha0 : a ≠ 0) : w.p.nv ≠ 0 := by
  intro z
  rw [views_eq] at ha
  unfold vwL at ha
  rw [(no_views w.p z).1] at ha
  have ha : a < 1 := ha
  omega
theorem put_good {w : Win} (h : w.Good) {a : Nat} (ha : a < w.views.length) {q : Rl} (hq : q.ok = true) : (w.put a q).Good := by
  unfold Win.put
  split
  · exact ⟨hq, h.p, h.v, h.l⟩
  · obtain ⟨h1, h2, h3⟩ := putR_ok q 5 w.p h.p
    refine ⟨h.r, by show (putR' w.p q).ok 5 = true; rw [h1, hq]; rfl, by show (putR' w.p q).nv ≤ 1; rw [h2]; exact h.v, by show (putR' w.p q).lv ≤ 4; rw [h3]; exact h.l⟩
theorem put_win {w : Win} (h : w.Good) {a : Nat} (ha : a < w.views.length) (q : Rl) : goodWin (w.put a q).d = q.ok := by
  cases hq : q.ok with
  | true => exact (put_good h ha hq).win
  | false =>
    unfold Win.put
    split
    · show (goodRule q.d && goodPiece w.p.d) = false
      rw [rl_good, hq]
      rfl
    · rename_i ha0
      show (goodRule w.r.d && goodPiece (putR' w.p q).d) = false
      unfold goodPiece
      rw [putR_shape q 5 w.p h.p, hq, decide_eq_false (w_nv h ha ha0)]
      simp -dsimp
theorem wd_beq (a b : Wd) : (a.t == b.t) = decide (a = b) := by cases a <;> cases b <;> decide
theorem ord_beq (a b : Bool) : (ordT a == ordT b) = decide (a = b) := by cases a <;> cases b <;> decide
theorem ag_beq (a b : Bool) : (agT a == agT b) = decide (a = b) := by cases a <;> cases b <;> decide
theorem part_ne {r q : Rl} {j : Nat} (hj : j < 5) (hq : q ∈ partR r j) (st : Store) : evCmp .ne (partD q j) (partD r j) st = some (!decide (q = r)) := by
  have key : ∀ (b c : Bool), b = c → some (!b) = some (!c) := fun _ _ e => by rw [e]
  obtain ⟨r1, r2, r3, r4, r5⟩ := r
  match j, hj with
  | 0, _ =>
    show some (!(q.side.t == r1.t)) = _
    rw [wd_beq]
    refine key _ _ ?_
    simp -dsimp only [partR, List.mem_cons, List.not_mem_nil, or_false] at hq
    rcases hq with rfl | rfl | rfl | rfl <;> simp -dsimp
  | 1, _ =>
    show some (!(q.below.t == r2.t)) = _
    rw [wd_beq]
    refine key _ _ ?_
    simp -dsimp only [partR, List.mem_cons, List.not_mem_nil, or_false] at hq
    rcases hq with rfl | rfl | rfl | rfl <;> simp -dsimp
  | 2, _ =>
    show some (!(ordT q.ord == ordT r3)) = _
    rw [ord_beq]
    refine key _ _ ?_
    simp -dsimp only [partR, List.mem_cons, List.not_mem_nil, or_false] at hq
    rcases hq with rfl | rfl <;> simp -dsimp
  | 3, _ =>
    show some (!(agT q.drop == agT r4)) = _
    rw [ag_beq]
    refine key _ _ ?_
    simp -dsimp only [partR, List.mem_cons, List.not_mem_nil, or_false] at hq
    rcases hq with rfl | rfl <;> simp -dsimp
  | 4, _ =>
    show some (!((q.slack : Int) == (r5 : Int))) = _
    refine key _ _ ?_
    have e : ((q.slack : Int) == (r5 : Int)) = decide (q.slack = r5) := by
      by_cases z : q.slack = r5
      · rw [z]; simp -dsimp
      · rw [decide_eq_false z]
        have : ¬ (q.slack : Int) = (r5 : Int) := by omega
        simpa -dsimp using this
    rw [e]
    simp -dsimp only [partR, List.mem_cons, List.not_mem_nil, or_false] at hq
    rcases hq with rfl | rfl | rfl | rfl | rfl | rfl | rfl | rfl | rfl <;> simp -dsimp
theorem part_few (r : Rl) (j : Nat) : (partR r j).length ≤ 9 := by
  match j with
  | 0 => show 4 ≤ 9; omega
  | 1 => show 4 ≤ 9; omega
  | 2 => show 2 ≤ 9; omega
  | 3 => show 2 ≤ 9; omega
  | _ + 4 => exact Nat.le_refl 9
/-- the other rules -/
def othR (r : Rl) (j : Nat) : List Rl := (partR r j).filter fun q => !decide (q = r)
def othW (w : Win) (a j : Nat) : List Win := ((othR (w.w a).r j).filter Rl.ok).map (w.put a)
theorem putR_okd (r : Rl) : ∀ (k : Nat) (p : Pc), p.ok k = true → (putR' p r).d.okd (k + 1) = true
  | 0, p, h => by cases p <;> simp -dsimp [Pc.ok] at h
  | k + 1, .pic q, h => pc_okd (k + 1) (.pic q) h
  | k + 1, .fix u v, h => pc_okd (k + 1) (.fix u v) h
  | k + 1, .fold u v, h => pc_okd (k + 1) (.fold u v) h
  | k + 1, .stk a b, h => by
    simp -dsimp only [Pc.ok, Bool.and_eq_true] at h
    have h1 := putR_okd r k a h.1
    have h2 := putR_okd r k b h.2
    simp -dsimp only [putR', Pc.d, D.okd, D.okds, h1, h2, Bool.and_self, Bool.and_true]
    decide
  | k + 1, .view q u p, h => by
    simp -dsimp only [Pc.ok, Bool.and_eq_true] at h
    have h1 := okd_mono _ 1 (k + 1) (by omega) (rl_okd r)
    have h2 := okd_mono _ 0 (k + 1) (by omega) (lt_okd u)
    have h3 := pc_okd k p h.2
    simp -dsimp only [putR', Pc.d, D.okd, D.okds, h1, h2, h3, Bool.and_self, Bool.and_true]
    decide
theorem put_pl {w : Win} (h : w.Good) (a : Nat) (q : Rl) : Pl (w.put a q).d := by
  unfold Win.put
  split
  · have h1 := okd_mono _ 1 59 (by omega) (rl_okd q)
    have h2 := okd_mono _ 6 59 (by omega) (pc_okd 5 w.p h.p)
    show D.okds [q.d, w.p.d] 59 = true
    simp -dsimp only [D.okds, h1, h2, Bool.and_self, Bool.and_true]
  · have h1 := okd_mono _ 1 59 (by omega) (rl_okd w.r)
    have h2 := okd_mono _ 6 59 (by omega) (putR_okd q 5 w.p h.p)
    show D.okds [w.r.d, (putR' w.p q).d] 59 = true
    simp -dsimp only [D.okds, h1, h2, Bool.and_self, Bool.and_true]
theorem G2p : P.glob 2 = some (.tup [.tup [.str s_always, .str s_auto, .str s_never, .str s_room], .tup [.str s_always, .str s_auto, .str s_never, .str s_room], .tup [.str s_below, .str s_side], .tup [.str s_drop, .str s_keep], .tup [.int 0, .int 1, .int 2, .int 3, .int 4, .int 5, .int 6, .int 7, .int 8]]) := rfl
theorem vals_at (r : Rl) {j : Nat} (hj : j < 5) (st : Store) : ∃ x, P.glob 2 = some x ∧ evIdx x (.int (j : Int)) st = some (.tup ((partR r j).map fun q => partD q j)) := by
  refine ⟨_, G2p, ?_⟩
  match j, hj with
  | 0, _ => rfl
  | 1, _ => rfl
  | 2, _ => rfl
  | 3, _ => rfl
  | 4, _ => rfl
theorem flat_if {α : Type} (c : α → Bool) (f : α → D) : ∀ l : List α, (l.flatMap fun q => if c q = true then [f q] else []) = (l.filter c).map f
  | [] => rfl
  | x :: l => by
    rw [List.flatMap_cons, flat_if c f l]
    cases h : c x
    · rw [List.filter_cons_of_neg (by rw [h]; decide), if_neg (by decide)]
      rfl
    · rw [List.filter_cons_of_pos h, if_pos rfl]
      rfl
theorem other_windows_ok {w : Win} (h : w.Good) {a : Nat} (ha : a < w.views.length) {j : Nat} (hj : j < 5) (st : Store) : run P (n + 11) 164 [w.d, .int (a : Int), .int (j : Int)] st = .ok (.lst ((othW w a j).map Win.d)) st := by
  rw [run_P P_164 rfl]
  have e1 : ∀ st, run P (n + 10) 9 [w.d] st = .ok (.lst (w.views.map Win.d)) st := fun st => views_of_ok (n := n + 4) h
  have e2 := w_at ha
  have e3 : ∀ st, evIdx (w.w a).d (.int 0) st = some (w.w a).r.d := fun st => rfl
  have e4 := part_at (w.w a).r hj
  obtain ⟨x, gx, e5⟩ := vals_at (w.w a).r hj st
  have lz := part_few (w.w a).r j
  -- those with another value
  have l1 := fun (ys : List D) (ρ : Rho) (h0 : ρ.length = 7) (h1 : ρ[0]? = some (some w.d)) (h2 : ρ[1]? = some (some (.int (a : Int)))) (h3 : ρ[2]? = some (some (.int (j : Int)))) (h4 : ρ[3]? = some (some (partD (w.w a).r j))) =>
    lcL_map (α := Rl) (i := 5) (ys := ys) (f := lcT (evO ⟨run P (n + 10), P.glob, P.W⟩ (.some (.cmp .ne (.nm 5) (.nm 3)))) (evGs ⟨run P (n + 10), P.glob, P.W⟩ (.elt (.call 163 (.cons (.nm 0) (.cons (.nm 1) (.cons (.nm 2) (.cons (.nm 5) .nil)))))))) (ρ := ρ) (st := st) (fun q => partD q j) (fun q => if (!decide (q = (w.w a).r)) = true then [(w.put a q).d] else []) (by omega) (partR (w.w a).r j) [] (fun q hq acc hz => by
      have r5 : (ρ.set 5 (some (partD q j)))[5]? = some (some (partD q j)) := List.getElem?_set_self (by omega)
      have r0 : (ρ.set 5 (some (partD q j)))[0]? = some (some w.d) := by rw [List.getElem?_set_ne (by decide)]; exact h1
      have r1 : (ρ.set 5 (some (partD q j)))[1]? = some (some (.int (a : Int))) := by rw [List.getElem?_set_ne (by decide)]; exact h2
      have r2 : (ρ.set 5 (some (partD q j)))[2]? = some (some (.int (j : Int))) := by rw [List.getElem?_set_ne (by decide)]; exact h3
      have r3 : (ρ.set 5 (some (partD q j)))[3]? = some (some (partD (w.w a).r j)) := by rw [List.getElem?_set_ne (by decide)]; exact h4
      have c1 := part_ne hj hq st
      have c2 : run P (n + 10) 163 [w.d, .int (a : Int), .int (j : Int), partD q j] st = .ok (w.put a q).d st := with_part_ok (n := n + 3) h ha hj hq st
      generalize ρ.set 5 (some (partD q j)) = ρ' at r0 r1 r2 r3 r5 ⊢
      generalize partD q j = V at r5 c1 c2
      by_cases z : q = (w.w a).r
      · rw [decide_eq_true z] at c1 hz ⊢
        simp -dsimp [lcT, evO, evE, evEs, evGs, r3, r5, c1]
      · rw [decide_eq_false z] at c1 hz ⊢
        have hz2 : acc.length + 1 ≤ 16777216 := hz
        have hz3 : acc.length < 16777216 := by omega
        simp -dsimp [lcT, evO, evE, evEs, evGs, r0, r1, r2, r3, r5, c1, c2, SZ, hz3]) (by
      rw [flat_if (fun q => !decide (q = (w.w a).r)) fun q => (w.put a q).d, List.length_map]
      have := List.length_filter_le (fun q => !decide (q = (w.w a).r)) (partR (w.w a).r j)
      show 0 + _ ≤ 16777216
      omega)
  rw [flat_if (fun q => !decide (q = (w.w a).r)) fun q => (w.put a q).d, List.nil_append] at l1
  -- those that are windows
  have lf : (othR (w.w a).r j).length ≤ 9 := Nat.le_trans (List.length_filter_le ..) lz
  have l2 := fun (ys : List D) (ρ : Rho) (h0 : ρ.length = 7) =>
    lcL_map (α := Rl) (i := 6) (ys := ys) (f := lcT (evO ⟨run P (n + 10), P.glob, P.W⟩ (.some (.call 7 (.cons (.nm 6) .nil)))) (evGs ⟨run P (n + 10), P.glob, P.W⟩ (.elt (.nm 6)))) (ρ := ρ) (st := st) (fun q => (w.put a q).d) (fun q => if q.ok = true then [(w.put a q).d] else []) (by omega) (othR (w.w a).r j) [] (fun q hq acc hz => by
      have r6 : (ρ.set 6 (some (w.put a q).d))[6]? = some (some (w.put a q).d) := List.getElem?_set_self (by omega)
      have c1 : run P (n + 10) 7 [(w.put a q).d] st = .ok (.bl q.ok) st := by rw [is_good_window_ok (put_pl h a q), put_win h ha]
      generalize ρ.set 6 (some (w.put a q).d) = ρ' at r6 ⊢
      cases z : q.ok with
      | false =>
        rw [z] at c1 hz
        simp -dsimp [lcT, evO, evE, evEs, evGs, r6, c1]
      | true =>
        rw [z] at c1 hz
        have hz2 : acc.length + 1 ≤ 16777216 := hz
        have hz3 : acc.length < 16777216 := by omega
        simp -dsimp [lcT, evO, evE, evEs, evGs, r6, c1, SZ, hz3]) (by
      rw [flat_if Rl.ok fun q => (w.put a q).d, List.length_map]
      have := List.length_filter_le Rl.ok (othR (w.w a).r j)
      show 0 + _ ≤ 16777216
      omega)
  rw [flat_if Rl.ok fun q => (w.put a q).d, List.nil_append] at l2
  have er : (othW w a j).map Win.d = ((othR (w.w a).r j).filter Rl.ok).map fun q => (w.put a q).d := by
    unfold othW
    rw [List.map_map]
    rfl
  rw [er]
  have l1 : ∀ (ys : List D) (ρ : Rho), ρ.length = 7 → ρ[0]? = some (some w.d) → ρ[1]? = some (some (.int (a : Int))) → ρ[2]? = some (some (.int (j : Int))) → ρ[3]? = some (some (partD (w.w a).r j)) → lcL ⟨ys, []⟩ (.nm 5) (lcT (evO ⟨run P (n + 10), P.glob, P.W⟩ (.some (.cmp .ne (.nm 5) (.nm 3)))) (evGs ⟨run P (n + 10), P.glob, P.W⟩ (.elt (.call 163 (.cons (.nm 0) (.cons (.nm 1) (.cons (.nm 2) (.cons (.nm 5) .nil)))))))) ((partR (w.w a).r j).map fun q => partD q j) ρ st [] = .ok ((othR (w.w a).r j).map fun q => (w.put a q).d) st := l1
  generalize ((othR (w.w a).r j).filter Rl.ok).map (fun q => (w.put a q).d) = R2 at l2 ⊢
  generalize (othR (w.w a).r j).map (fun q => (w.put a q).d) = R1 at l1 l2
  generalize (partR (w.w a).r j).map (fun q => partD q j) = R0 at e5 l1
  generalize w.views.map Win.d = V at e1 e2
  generalize partD (w.w a).r j = O at e4 l1
  generalize (w.w a).r.d = RR at e3 e4
  simp -dsimp [F_other_windows, evSs, evS, evE, evEs, evI, start, wipeR, Tg.slots, Gs.slots, walked, keepOf, e1, e2, e3, e4, gx, -G_2, e5, l1, l2]
end MP
end

section
set_option linter.all false
set_option maxRecDepth 100000
set_option maxHeartbeats 0
/-! All windows with one other part, in the order of their texts: the program. -/
namespace MP
variable {n : Nat} {st : Store}
def kvW (v : Win) : K × D := (.inr (txt v), v.d)
/-- the window of a text -/
def fndW (F : List Win) (t : T) : Option Win := F.find? fun v => decide (txt v = t)
def sortW (F : List Win) : List Win := (sortT (F.map txt)).filterMap (fndW F)
theorem insP (x : T) : ∀ l : List T, (insT x l).Perm (x :: l)
  | [] => List.Perm.refl _
  | y :: l => by
    unfold insT
    split
    · exact List.Perm.refl _
    · exact ((insP x l).cons y).trans (List.Perm.swap x y l)
theorem sortP : ∀ l : List T, (sortT l).Perm l
  | [] => List.Perm.refl _
  | x :: l => (insP x (sortT l)).trans ((sortP l).cons x)
theorem sortT_len (l : List T) : (sortT l).length = l.length := (sortP l).length_eq
theorem putK_new {kvs : List (K × D)} {k : K} (h : ∀ kv ∈ kvs, kv.1 ≠ k) (v : D) : putK kvs k v = kvs ++ [(k, v)] := by
  unfold putK
  rw [if_neg]
  rw [List.any_eq_true]
  rintro ⟨kv, h1, h2⟩
  exact h kv h1 (of_decide_eq_true h2)
theorem dc_loop {Γ : G} {ys : List D} {ρ : Rho} (hρ : ρ.length = 7) (ht : ∀ v : Win, v.Good → ∀ st, Γ.call 161 [v.d] st = .ok (.str (txt v)) st) : ∀ (V U : List Win), (∀ v ∈ V, v.Good) → ((U ++ V).map txt).Nodup → U.length + V.length ≤ 1000 →
    lcL ⟨ys, []⟩ (.nm 5) (fun ρ st acc => (evE Γ (.call 161 (.cons (.nm 5) .nil)) ρ st).oks fun x st => (evE Γ (.nm 5) ρ st).oks fun y st => putR acc x y st) (V.map Win.d) ρ st (U.map kvW) = .ok ((U ++ V).map kvW) st
  | [], U, _, _, _ => by rw [List.append_nil]; rfl
  | v :: V, U, hg, nd, hz => by
    rw [List.length_cons] at hz
    have e4 : (ρ.set 5 (some v.d))[5]? = some (some v.d) := List.getElem?_set_self (by omega)
    have et := ht v (hg v (by simp -dsimp)) st
    have hn : ∀ kv ∈ U.map kvW, kv.1 ≠ Sum.inr (txt v) := fun kv hkv => by
      obtain ⟨u, hu, rfl⟩ := List.mem_map.mp hkv
      intro e
      have e : txt u = txt v := Sum.inr.inj e
      rw [List.map_append, List.nodup_append] at nd
      exact nd.2.2 (txt u) (List.mem_map_of_mem hu) (txt v) (by simp -dsimp) e
    have ep : putR (U.map kvW) (.str (txt v)) v.d st = .ok ((U ++ [v]).map kvW) st := by
      show (if (U.map kvW).length < SZ then R.ok (putK (U.map kvW) (.inr (txt v)) v.d) st else .no) = _
      rw [if_pos (by rw [List.length_map]; show _ < 16777216; omega), putK_new hn, List.map_append]
      rfl
    have ih := dc_loop (ys := ys) hρ ht V (U ++ [v]) (fun x hx => hg x (List.mem_cons_of_mem _ hx)) (by rw [List.append_assoc]; exact nd) (by rw [List.length_append, List.length_singleton]; omega)
    rw [List.append_assoc] at ih
    have ih : lcL ⟨ys, []⟩ (.nm 5) (fun ρ st acc => (evE Γ (.call 161 (.cons (.nm 5) .nil)) ρ st).oks fun x st => (evE Γ (.nm 5) ρ st).oks fun y st => putR acc x y st) (V.map Win.d) ρ st ((U ++ [v]).map kvW) = .ok ((U ++ v :: V).map kvW) st := ih
    rw [← ih]
    have ew : asgn (.nm 5) v.d ρ = some (ρ.set 5 (some v.d)) := by
      show (if 5 < ρ.length then some (ρ.set 5 (some v.d)) else none) = _
      rw [if_pos (by omega)]
    generalize ρ.set 5 (some v.d) = ρ' at e4 ew
    rw [List.map_cons, lcL, ew]
    simp -dsimp [evE, evEs, e4, et, ep]
theorem fnd_kv (F : List Win) (t : T) : ((F.map kvW).find? fun kv => decide (kv.1 = Sum.inr t)).map (·.2) = (fndW F t).map Win.d := by
  unfold fndW
  induction F with
  | nil => rfl
  | cons v F ih =>
    rw [List.map_cons, List.find?_cons, List.find?_cons]
    by_cases h : txt v = t
    · rw [decide_eq_true (show (kvW v).1 = Sum.inr t from congrArg Sum.inr h), decide_eq_true h]
      rfl
    · rw [decide_eq_false (show ¬ (kvW v).1 = Sum.inr t from fun e => h (Sum.inr.inj e)), decide_eq_false h]
      exact ih
theorem fnd_some {F : List Win} {t : T} (h : t ∈ F.map txt) : ∃ v ∈ F, fndW F t = some v ∧ txt v = t := by
  obtain ⟨u, hu, rfl⟩ := List.mem_map.mp h
  cases e : fndW F (txt u) with
  | none =>
    unfold fndW at e
    have := List.find?_eq_none.mp e u hu
    exact absurd (decide_eq_true (rfl : txt u = txt u)) this
  | some v =>
    unfold fndW at e
    have h2 : decide (txt v = txt u) = true := List.find?_some (p := fun v => decide (txt v = txt u)) e
    exact ⟨v, List.mem_of_find?_eq_some e, rfl, of_decide_eq_true h2⟩
theorem texts_kv : ∀ F : List Win, textsOf (F.map kvW) = some (F.map txt)
  | [] => rfl
  | v :: F => by
    rw [List.map_cons, List.map_cons]
    show (textsOf (F.map kvW)).map (txt v :: ·) = _
    rw [texts_kv F]
    rfl
/-- what is told of what was found -/
theorem sorted_lc {Γ : G} {ys : List D} {ρ : Rho} {i k c : Nat} (hi : i < ρ.length) (hk : k ≠ i) (hc : ρ[k]? = some (some (.loc c))) {F : List Win} (hst : st[c]? = some (.dct (F.map kvW))) (hz : F.length ≤ 1000) :
    lcL ⟨ys, []⟩ (.nm i) (lcT (evO Γ .none) (evGs Γ (.elt (.idx (.nm k) (.nm i))))) ((sortT (F.map txt)).map D.str) ρ st [] = .ok ((sortW F).map Win.d) st := by
  have hm : ∀ t ∈ sortT (F.map txt), t ∈ F.map txt := fun t h => (sortP _).mem_iff.mp h
  have e := lcL_map (α := T) (i := i) (ys := ys) (f := lcT (evO Γ .none) (evGs Γ (.elt (.idx (.nm k) (.nm i))))) (ρ := ρ) (st := st) D.str (fun t => match fndW F t with
    | some v => [v.d]
    | none => []) hi (sortT (F.map txt)) [] (fun t ht acc ha => by
      obtain ⟨v, _, ev, _⟩ := fnd_some (hm t ht)
      rw [ev] at ha ⊢
      have ha : acc.length + 1 ≤ 16777216 := ha
      have hz2 : acc.length < 16777216 := by omega
      have e4 : (ρ.set i (some (D.str t)))[i]? = some (some (.str t)) := List.getElem?_set_self hi
      have e5 : (ρ.set i (some (D.str t)))[k]? = some (some (.loc c)) := by rw [List.getElem?_set_ne (fun e => hk e.symm)]; exact hc
      have e6 : evIdx (.loc c) (.str t) st = some v.d := by
        have := fnd_kv F t
        rw [ev] at this
        simp -dsimp only [evIdx, hst, D.key]
        exact this
      simp -dsimp [lcT, evO, evE, evEs, evGs, e4, e5, e6, SZ, hz2]) (by
      have key : ∀ l : List T, (l.flatMap fun t => match fndW F t with
          | some v => [v.d]
          | none => []).length ≤ l.length := fun l => by
        induction l with
        | nil => exact Nat.le_refl _
        | cons x l ih =>
          rw [List.flatMap_cons, List.length_append, List.length_cons]
          have : (match fndW F x with
            | some v => [v.d]
            | none => []).length ≤ 1 := by split <;> simp -dsimp
          omega
      have := key (sortT (F.map txt))
      rw [sortT_len, List.length_map] at this
      show 0 + _ ≤ 16777216
      omega)
  rw [e]
  unfold sortW
  congr 1
  rw [List.nil_append]
  generalize sortT (F.map txt) = l
  induction l with
  | nil => rfl
  | cons x l ih =>
    rw [List.flatMap_cons, ih, List.filterMap_cons]
    cases fndW F x <;> rfl
theorem sorted_ok {F : List Win} (hz : F.length < 64) (st : Store) : evBlt .sorted [.lst ((F.map txt).map D.str)] st = .ok (.lst ((sortT (F.map txt)).map D.str)) st := by
  show (match (lItems st (.lst ((F.map txt).map D.str))).bind strsOf with
    | some xs => if xs.length < 64 then R.ok (D.lst ((sortT xs).map .str)) st else .no
    | none => .no) = _
  have e : (lItems st (.lst ((F.map txt).map D.str))).bind strsOf = some (F.map txt) := strsT_map _
  rw [e]
  show (if (F.map txt).length < 64 then R.ok (D.lst ((sortT (F.map txt)).map .str)) st else .no) = _
  rw [if_pos (by rw [List.length_map]; exact hz)]
theorem keys_ok {c : Nat} {F : List Win} (hst : st[c]? = some (.dct (F.map kvW))) (hz : F.length ≤ 1000) : keysOf st (.loc c) = some (F.map txt) := by
  show (match st[c]? with
    | some (.dct kvs) => if kvs.length < SZ then textsOf kvs else none
    | _ => none) = _
  rw [hst]
  show (if (F.map kvW).length < SZ then textsOf (F.map kvW) else none) = _
  rw [if_pos (by rw [List.length_map]; show _ < 16777216; omega), texts_kv]
end MP
end

section
set_option linter.all false
set_option maxRecDepth 100000
set_option maxHeartbeats 0
/-! All windows with one other part: the program's changes. -/
namespace MP
variable {n : Nat} {st : Store}
def ascI : List Nat := [3, 1, 2, 0, 4]
def prsA (L : Nat) (js : List Nat) : List (Nat × Nat) := (List.range L).flatMap fun a => js.map fun j => (a, j)
def prD (p : Nat × Nat) : D := .tup [.int (p.1 : Int), .int (p.2 : Int)]
theorem prs_in {L : Nat} {js : List Nat} {p : Nat × Nat} (h : p ∈ prsA L js) : p.1 < L ∧ p.2 ∈ js := by
  obtain ⟨a, ha, h2⟩ := List.mem_flatMap.mp h
  obtain ⟨j, hj, rfl⟩ := List.mem_map.mp h2
  exact ⟨List.mem_range.mp ha, hj⟩
theorem asc_lt {j : Nat} (h : j ∈ ascI) : j < 5 := by
  simp -dsimp only [ascI, List.mem_cons, List.not_mem_nil, or_false] at h
  omega
theorem parts_in_ok {w : Win} (h : w.Good) (st : Store) : run P (n + 7) 165 [w.d] st = .ok (.lst ((prsA w.views.length ascI).map prD)) st := by
  rw [run_P P_165 rfl]
  have e1 : ∀ st, run P (n + 6) 9 [w.d] st = .ok (.lst (w.views.map Win.d)) st := fun st => views_of_ok h
  have e2 : ∀ st, evBlt .len [.lst (w.views.map Win.d)] st = .ok (.int (w.views.length : Int)) st := fun st => by rw [len_lst, List.length_map]
  have g0 : gixV (P.glob 10) (.str s_again) = some (.int 3) := rfl
  have g1 : gixV (P.glob 10) (.str s_below) = some (.int 1) := rfl
  have g2 : gixV (P.glob 10) (.str s_order) = some (.int 2) := rfl
  have g3 : gixV (P.glob 10) (.str s_side) = some (.int 0) := rfl
  have g4 : gixV (P.glob 10) (.str s_slack) = some (.int 4) := rfl
  generalize w.views.map Win.d = V at e1 e2
  rcases views_len w with hl | hl
  · rw [hl] at e2 ⊢
    have c1 : ((1 : Nat) : Int) = 1 := rfl
    rw [c1] at e2
    have r1 : rngOk 1 = true := by decide
    have hr : (prsA 1 ascI).map prD = [.tup [.int 0, .int 3], .tup [.int 0, .int 1], .tup [.int 0, .int 2], .tup [.int 0, .int 0], .tup [.int 0, .int 4]] := rfl
    rw [hr]
    simp -dsimp [F_parts_in, evSs, evS, evE, evEs, evI, evO, evGs, lcL, lcT, start, asgn, wipeR, Tg.slots, Gs.slots, rng, r1, SZ, walked, keepOf, e1, e2, g0, g1, g2, g3, g4, -G_10]
  · rw [hl] at e2 ⊢
    have c1 : ((2 : Nat) : Int) = 2 := rfl
    rw [c1] at e2
    have r1 : rngOk 2 = true := by decide
    have hr : (prsA 2 ascI).map prD = [.tup [.int 0, .int 3], .tup [.int 0, .int 1], .tup [.int 0, .int 2], .tup [.int 0, .int 0], .tup [.int 0, .int 4], .tup [.int 1, .int 3], .tup [.int 1, .int 1], .tup [.int 1, .int 2], .tup [.int 1, .int 0], .tup [.int 1, .int 4]] := rfl
    rw [hr]
    simp -dsimp [F_parts_in, evSs, evS, evE, evEs, evI, evO, evGs, lcL, lcT, start, asgn, wipeR, Tg.slots, Gs.slots, rng, r1, SZ, walked, keepOf, e1, e2, g0, g1, g2, g3, g4, -G_10]
theorem oth_few (w : Win) (a j : Nat) : (othW w a j).length ≤ 9 := by
  unfold othW othR
  rw [List.length_map]
  exact Nat.le_trans (List.length_filter_le ..) (Nat.le_trans (List.length_filter_le ..) (part_few ..))
theorem chg_loop {w : Win} (h : w.Good) {ys : List D} {o4 o5 o6 : Option D} : ∀ (ps : List (Nat × Nat)), (∀ p ∈ ps, p.1 < w.views.length ∧ p.2 < 5) → ∀ {F : List Win} {o2 o3 : Option D}, F.length + 9 * ps.length ≤ 1000 →
    ∃ o2' o3', forL ⟨ys, []⟩ (.cons (.nm 2) (.cons (.nm 3) .nil)) (evSs ⟨run P (n + 11), P.glob, P.W⟩ F_changed_b1) (ps.map prD) [some w.d, some (.lst (F.map Win.d)), o2, o3, o4, o5, o6] st =
      .nx [some w.d, some (.lst ((F ++ ps.flatMap fun p => othW w p.1 p.2).map Win.d)), o2', o3', o4, o5, o6] st
  | [], _, F, o2, o3, _ => ⟨o2, o3, by rw [List.flatMap_nil, List.append_nil]; rfl⟩
  | (a, j) :: ps, hp, F, o2, o3, hz => by
    rw [List.length_cons] at hz
    obtain ⟨h1, h2⟩ := hp (a, j) (by simp -dsimp)
    have h1 : a < w.views.length := h1
    have h2 : j < 5 := h2
    have lo := oth_few w a j
    have e1 := other_windows_ok (n := n) h h1 h2 st
    have e2 : evBin .add (.lst (F.map Win.d)) (.lst ((othW w a j).map Win.d)) st = some (.lst ((F ++ othW w a j).map Win.d)) := by
      rw [bin_addL _ _ (by rw [List.length_map, List.length_map]; show _ ≤ 16777216; omega), List.map_append]
    obtain ⟨p2, p3, e3⟩ := chg_loop h (ys := ys) (o4 := o4) (o5 := o5) (o6 := o6) ps (fun x hx => hp x (List.mem_cons_of_mem _ hx)) (F := F ++ othW w a j) (o2 := some (.int (a : Int))) (o3 := some (.int (j : Int))) (by rw [List.length_append]; omega)
    refine ⟨p2, p3, ?_⟩
    rw [List.flatMap_cons, ← List.append_assoc, ← e3]
    generalize (F ++ othW w a j).map Win.d = F2 at e2
    generalize F.map Win.d = F1 at e2 ⊢
    generalize (othW w a j).map Win.d = F3 at e1 e2
    rw [List.map_cons, prD]
    simp -dsimp [forL, asgn, asgnL, F_changed_b1, evSs, evS, evE, evEs, e1, e2, Walked.ok]
/-- what is found, in the program's order -/
def fndP (w : Win) : List Win := (prsA w.views.length ascI).flatMap fun p => othW w p.1 p.2
end MP
end

section
set_option linter.all false
set_option maxRecDepth 100000
set_option maxHeartbeats 0
/-! What is found: no window twice; orders don't matter. -/
namespace MP
theorem ss_nx {Γ : G} {a : S} {r : Ss} {ρ ρ' : Rho} {st st' : Store} {x : SR} (h : evS Γ a ρ st = .nx ρ' st') (h2 : evSs Γ r ρ' st' = x) : evSs Γ (.cons a r) ρ st = x := by
  simp -dsimp only [evSs, h, SR.sq_nx, h2]
theorem ss_ret {Γ : G} {a : S} {r : Ss} {ρ : Rho} {st st' : Store} {d : D} (h : evS Γ a ρ st = .ret d st') : evSs Γ (.cons a r) ρ st = .ret d st' := by
  simp -dsimp only [evSs, h, SR.sq_ret]
theorem s_for {Γ : G} {t : Tg} {i : Iter} {b : Ss} {ρ ρ' : Rho} {st st' st1 : Store} {w : Walked} (h : evI Γ i ρ st = .ok w st1) (h2 : forL w t (evSs Γ b) w.xs ρ st1 = .nx ρ' st') : evS Γ (.for_ t i b) ρ st = .nx ρ' st' := by
  simp -dsimp only [evS, h, R.st_ok, h2]
theorem insT_sorted (x : T) : ∀ l : List T, l.Pairwise (· ≤ ·) → (insT x l).Pairwise (· ≤ ·)
  | [], _ => by simp -dsimp [insT]
  | y :: l, h => by
    unfold insT
    obtain ⟨h1, h2⟩ := List.pairwise_cons.mp h
    by_cases c : x ≤ y
    · rw [if_pos c]
      refine List.pairwise_cons.mpr ⟨fun z hz => ?_, h⟩
      rcases List.mem_cons.mp hz with rfl | hz
      · exact c
      · exact Std.le_trans c (h1 z hz)
    · rw [if_neg c]
      have c2 : y ≤ x := (Std.le_total (a := x) (b := y)).resolve_left c
      refine List.pairwise_cons.mpr ⟨fun z hz => ?_, insT_sorted x l h2⟩
      rcases List.mem_cons.mp ((insP x l).mem_iff.mp hz) with rfl | hz
      · exact c2
      · exact h1 z hz
theorem sortT_sorted : ∀ l : List T, (sortT l).Pairwise (· ≤ ·)
  | [] => List.Pairwise.nil
  | x :: l => insT_sorted x (sortT l) (sortT_sorted l)
theorem sortT_eq {a b : List T} (h : a.Perm b) : sortT a = sortT b :=
  List.Perm.eq_of_pairwise (le := (· ≤ ·)) (fun _ _ _ _ h1 h2 => Std.le_antisymm h1 h2) (sortT_sorted a) (sortT_sorted b) ((sortP a).trans (h.trans (sortP b).symm))
theorem fnd_eq {F F' : List Win} (h : F.Perm F') (nd : (F.map txt).Nodup) (t : T) : fndW F t = fndW F' t := by
  by_cases ht : t ∈ F.map txt
  · obtain ⟨v, hv, e1, e2⟩ := fnd_some ht
    have ht' : t ∈ F'.map txt := (h.map txt).mem_iff.mp ht
    obtain ⟨u, hu, e3, e4⟩ := fnd_some ht'
    rw [e1, e3]
    have hu' : u ∈ F := h.mem_iff.mpr hu
    have key : ∀ (l : List Win), (l.map txt).Nodup → v ∈ l → u ∈ l → txt v = txt u → v = u := fun l => by
      induction l with
      | nil => intro _ hv; cases hv
      | cons x l ih =>
        intro nd hv hu e
        rw [List.map_cons, List.nodup_cons] at nd
        rcases List.mem_cons.mp hv with z | z
        · rcases List.mem_cons.mp hu with y | y
          · rw [z, y]
          · exact absurd (z ▸ e ▸ List.mem_map_of_mem (f := txt) y) nd.1
        · rcases List.mem_cons.mp hu with y | y
          · exact absurd (y ▸ e ▸ List.mem_map_of_mem (f := txt) z) nd.1
          · exact ih nd.2 z y e
    rw [key F nd hv hu' (by rw [e2, e4])]
  · have key : ∀ l : List Win, t ∉ l.map txt → fndW l t = none := fun l hl => by
      unfold fndW
      rw [List.find?_eq_none]
      intro x hx e
      exact hl (of_decide_eq_true e ▸ List.mem_map_of_mem hx)
    rw [key F ht, key F' (fun z => ht ((h.map txt).mem_iff.mpr z))]
theorem sortW_eq {F F' : List Win} (h : F.Perm F') (nd : (F.map txt).Nodup) : sortW F = sortW F' := by
  unfold sortW
  rw [sortT_eq (h.map txt)]
  congr 1
  exact funext fun t => fnd_eq h nd t
theorem sortW_len (F : List Win) : (sortW F).length = F.length := by
  have key : ∀ l : List T, (∀ t ∈ l, t ∈ F.map txt) → (l.filterMap (fndW F)).length = l.length := fun l => by
    induction l with
    | nil => intro _; rfl
    | cons x l ih =>
      intro h
      obtain ⟨v, _, e, _⟩ := fnd_some (h x (by simp -dsimp))
      rw [List.filterMap_cons, e, List.length_cons, List.length_cons, ih fun t ht => h t (List.mem_cons_of_mem _ ht)]
  unfold sortW
  rw [key _ fun t h => (sortP _).mem_iff.mp h, sortT_len, List.length_map]
theorem sortW_mem {F : List Win} {v : Win} (h : v ∈ sortW F) : v ∈ F := by
  unfold sortW at h
  obtain ⟨t, _, e⟩ := List.mem_filterMap.mp h
  unfold fndW at e
  exact List.mem_of_find?_eq_some e
/-! ### no window twice -/
theorem part_inj {q r : Rl} (h : ∀ i < 5, partD q i = partD r i) : q = r := by
  have h0 : D.str q.side.t = D.str r.side.t := h 0 (by omega)
  have h1 : D.str q.below.t = D.str r.below.t := h 1 (by omega)
  have h2 : D.str (ordT q.ord) = D.str (ordT r.ord) := h 2 (by omega)
  have h3 : D.str (agT q.drop) = D.str (agT r.drop) := h 3 (by omega)
  have h4 : D.int (q.slack : Int) = D.int (r.slack : Int) := h 4 (by omega)
  obtain ⟨q1, q2, q3, q4, q5⟩ := q
  obtain ⟨r1, r2, r3, r4, r5⟩ := r
  have e0 := wd_inj (D.str.inj h0)
  have e1 := wd_inj (D.str.inj h1)
  have e2 := ord_inj (D.str.inj h2)
  have e3 := ag_inj (D.str.inj h3)
  have e4 : q5 = r5 := by
    have z : (q5 : Int) = (r5 : Int) := D.int.inj h4
    omega
  dsimp only at e0 e1 e2 e3
  rw [e0, e1, e2, e3, e4]
theorem part_off {q r : Rl} {j : Nat} (hj : j < 5) (hq : q ∈ partR r j) {i : Nat} (hi : i < 5) (hn : i ≠ j) : partD q i = partD r i := by
  have hjj : j = 0 ∨ j = 1 ∨ j = 2 ∨ j = 3 ∨ j = 4 := by omega
  have hii : i = 0 ∨ i = 1 ∨ i = 2 ∨ i = 3 ∨ i = 4 := by omega
  rcases hjj with rfl | rfl | rfl | rfl | rfl
  · simp -dsimp only [partR, List.mem_cons, List.not_mem_nil, or_false] at hq
    rcases hii with rfl | rfl | rfl | rfl | rfl <;> first | (exact absurd rfl hn) | (rcases hq with rfl | rfl | rfl | rfl <;> rfl)
  · simp -dsimp only [partR, List.mem_cons, List.not_mem_nil, or_false] at hq
    rcases hii with rfl | rfl | rfl | rfl | rfl <;> first | (exact absurd rfl hn) | (rcases hq with rfl | rfl | rfl | rfl <;> rfl)
  · simp -dsimp only [partR, List.mem_cons, List.not_mem_nil, or_false] at hq
    rcases hii with rfl | rfl | rfl | rfl | rfl <;> first | (exact absurd rfl hn) | (rcases hq with rfl | rfl <;> rfl)
  · simp -dsimp only [partR, List.mem_cons, List.not_mem_nil, or_false] at hq
    rcases hii with rfl | rfl | rfl | rfl | rfl <;> first | (exact absurd rfl hn) | (rcases hq with rfl | rfl <;> rfl)
  · simp -dsimp only [partR, List.mem_cons, List.not_mem_nil, or_false] at hq
    rcases hii with rfl | rfl | rfl | rfl | rfl <;> first | (exact absurd rfl hn) | (rcases hq with rfl | rfl | rfl | rfl | rfl | rfl | rfl | rfl | rfl <;> rfl)
theorem part_nd (r : Rl) {j : Nat} (hj : j < 5) : (partR r j).Nodup := by
  have hjj : j = 0 ∨ j = 1 ∨ j = 2 ∨ j = 3 ∨ j = 4 := by omega
  rcases hjj with rfl | rfl | rfl | rfl | rfl <;> simp -dsimp [partR]
theorem putR_inj {q q' : Rl} : ∀ p : Pc, p.nv ≠ 0 → putR' p q = putR' p q' → q = q'
  | .pic _, h, _ => absurd rfl h
  | .fix _ _, h, _ => absurd rfl h
  | .fold _ _, h, _ => absurd rfl h
  | .stk a b, h, e => by
    have h : ¬ a.nv + b.nv = 0 := h
    have e : Pc.stk (putR' a q) (putR' b q) = Pc.stk (putR' a q') (putR' b q') := e
    obtain ⟨e1, e2⟩ := Pc.stk.inj e
    by_cases ha : a.nv = 0
    · exact putR_inj b (by omega) e2
    · exact putR_inj a ha e1
  | .view r u p, _, e => by
    have e : Pc.view q u p = Pc.view q' u p := e
    exact (Pc.view.inj e).1
theorem put_inj {w : Win} (h : w.Good) {a : Nat} (ha : a < w.views.length) {q q' : Rl} (e : w.put a q = w.put a q') : q = q' := by
  unfold Win.put at e
  by_cases ha0 : a = 0
  · rw [if_pos ha0, if_pos ha0] at e
    exact (Win.mk.inj e).1
  · rw [if_neg ha0, if_neg ha0] at e
    exact putR_inj w.p (w_nv h ha ha0) (Win.mk.inj e).2
theorem oth_nd {w : Win} (h : w.Good) {a j : Nat} (ha : a < w.views.length) (hj : j < 5) : (othW w a j).Nodup := by
  unfold othW othR
  have := ((part_nd (w.w a).r hj).filter fun q => !decide (q = (w.w a).r)).filter Rl.ok
  exact List.pairwise_map.mpr (this.imp fun hne e => hne (put_inj h ha e))
theorem oth_mem {w : Win} {a j : Nat} {v : Win} (h : v ∈ othW w a j) : ∃ q, v = w.put a q ∧ q ∈ partR (w.w a).r j ∧ q ≠ (w.w a).r ∧ q.ok = true := by
  unfold othW othR at h
  obtain ⟨q, hq, rfl⟩ := List.mem_map.mp h
  obtain ⟨h1, h2⟩ := List.mem_filter.mp hq
  obtain ⟨h3, h4⟩ := List.mem_filter.mp h1
  refine ⟨q, rfl, h3, fun e => ?_, h2⟩
  rw [decide_eq_true e] at h4
  cases h4
theorem oth_ne {w : Win} (h : w.Good) {a j a' j' : Nat} (ha : a < w.views.length) (ha' : a' < w.views.length) (hj : j < 5) (hj' : j' < 5) (hne : (a, j) ≠ (a', j')) {x y : Win} (hx : x ∈ othW w a j) (hy : y ∈ othW w a' j') : x ≠ y := by
  obtain ⟨q, rfl, q1, q2, _⟩ := oth_mem hx
  obtain ⟨q', rfl, q3, q4, _⟩ := oth_mem hy
  intro e
  by_cases haa : a = a'
  · subst haa
    have hjj : j ≠ j' := fun z => hne (by rw [z])
    have := put_inj h ha e
    subst this
    refine q2 (part_inj fun i hi => ?_)
    by_cases hij : i = j
    · exact part_off hj' q3 hi (by omega)
    · exact part_off hj q1 hi hij
  · unfold Win.put at e
    by_cases h0 : a = 0
    · have h1 : a' ≠ 0 := by omega
      rw [if_pos h0, if_neg h1] at e
      subst h0
      exact q2 (Win.mk.inj e).1
    · by_cases h1 : a' = 0
      · rw [if_neg h0, if_pos h1] at e
        subst h1
        exact q4 (Win.mk.inj e).1.symm
      · have := views_len w
        omega
theorem prs_nd {L : Nat} (hL : L = 1 ∨ L = 2) : (prsA L ascI).Nodup := by rcases hL with rfl | rfl <;> decide
theorem fndP_nd {w : Win} (h : w.Good) : (fndP w).Nodup := by
  unfold fndP
  refine List.pairwise_flatMap.mpr ⟨fun p hp => ?_, ?_⟩
  · obtain ⟨h1, h2⟩ := prs_in hp
    exact oth_nd h h1 (asc_lt h2)
  · refine List.Pairwise.imp_of_mem ?_ (prs_nd (views_len w))
    intro p p' hp hp' hne x hx y hy
    obtain ⟨h1, h2⟩ := prs_in hp
    obtain ⟨h3, h4⟩ := prs_in hp'
    exact oth_ne h h1 h3 (asc_lt h2) (asc_lt h4) hne hx hy
theorem fndP_good {w : Win} (h : w.Good) : ∀ v ∈ fndP w, v.Good := by
  intro v hv
  obtain ⟨p, hp, h2⟩ := List.mem_flatMap.mp hv
  obtain ⟨q, rfl, _, _, hq⟩ := oth_mem h2
  exact put_good h (prs_in hp).1 hq
theorem txt_nd {F : List Win} (hg : ∀ v ∈ F, v.Good) (nd : F.Nodup) : (F.map txt).Nodup :=
  List.pairwise_map.mpr (List.Pairwise.imp_of_mem (fun {a b} ha hb hne e => hne (txt_inj (hg a ha).r (hg a ha).p (hg b hb).r (hg b hb).p e)) nd)
theorem oth_len (w : Win) (a j : Nat) : (othW w a j).length ≤ (partR (w.w a).r j).length := by
  unfold othW othR
  rw [List.length_map]
  exact Nat.le_trans (List.length_filter_le ..) (List.length_filter_le ..)
theorem fndP_len (w : Win) : (fndP w).length < 64 := by
  have a3 := fun a => oth_len w a 3
  have a1 := fun a => oth_len w a 1
  have a2 := fun a => oth_len w a 2
  have a0 := fun a => oth_len w a 0
  have a4 := fun a => oth_len w a 4
  have p3 : ∀ r, (partR r 3).length = 2 := fun _ => rfl
  have p1 : ∀ r, (partR r 1).length = 4 := fun _ => rfl
  have p2 : ∀ r, (partR r 2).length = 2 := fun _ => rfl
  have p0 : ∀ r, (partR r 0).length = 4 := fun _ => rfl
  have p4 : ∀ r, (partR r 4).length = 9 := fun _ => rfl
  simp -dsimp only [p0, p1, p2, p3, p4] at a0 a1 a2 a3 a4
  unfold fndP
  rcases views_len w with hl | hl
  · rw [hl]
    have e : prsA 1 ascI = [(0, 3), (0, 1), (0, 2), (0, 0), (0, 4)] := rfl
    rw [e]
    simp -dsimp only [List.flatMap_cons, List.flatMap_nil, List.length_append, List.length_nil]
    have := a0 0
    have := a1 0
    have := a2 0
    have := a3 0
    have := a4 0
    omega
  · rw [hl]
    have e : prsA 2 ascI = [(0, 3), (0, 1), (0, 2), (0, 0), (0, 4), (1, 3), (1, 1), (1, 2), (1, 0), (1, 4)] := rfl
    rw [e]
    simp -dsimp only [List.flatMap_cons, List.flatMap_nil, List.length_append, List.length_nil]
    have := a0 0
    have := a1 0
    have := a2 0
    have := a3 0
    have := a4 0
    have := a0 1
    have := a1 1
    have := a2 1
    have := a3 1
    have := a4 1
    omega
/-- the law's order -/
def fndL (w : Win) : List Win := (prsA w.views.length [0, 1, 2, 3, 4]).flatMap fun p => othW w p.1 p.2
theorem fnd_perm (w : Win) : (fndP w).Perm (fndL w) := by
  have key : ∀ L, L = 1 ∨ L = 2 → (prsA L ascI).Perm (prsA L [0, 1, 2, 3, 4]) := fun L hL => by rcases hL with rfl | rfl <;> decide
  exact (key _ (views_len w)).flatMap_right _
end MP
end

section
set_option linter.all false
set_option maxRecDepth 100000
set_option maxHeartbeats 0
/-! The program's changes. -/
namespace MP
variable {n : Nat} {st : Store}
theorem changed_ok {w : Win} (h : w.Good) : run P (n + 12) 166 [w.d] st = .ok (.lst ((sortW (fndP w)).map Win.d)) (st ++ [.dct ((fndP w).map kvW)]) := by
  rw [run_P P_166 rfl]
  have e1 : ∀ st, run P (n + 11) 165 [w.d] st = .ok (.lst ((prsA w.views.length ascI).map prD)) st := fun st => parts_in_ok (n := n + 4) h st
  have hL := views_len w
  have hp : (prsA w.views.length ascI).length ≤ 10 := by rcases hL with z | z <;> rw [z] <;> decide
  have hlen := fndP_len w
  obtain ⟨o2, o3, e2⟩ := chg_loop (n := n) (st := st) h (ys := (prsA w.views.length ascI).map prD) (o4 := none) (o5 := none) (o6 := none) (prsA w.views.length ascI) (fun p hp => by
    obtain ⟨h1, h2⟩ := prs_in hp
    exact ⟨h1, asc_lt h2⟩) (F := []) (o2 := none) (o3 := none) (by rw [List.length_nil]; omega)
  rw [List.nil_append] at e2
  have e2 : forL ⟨(prsA w.views.length ascI).map prD, []⟩ (.cons (.nm 2) (.cons (.nm 3) .nil)) (evSs ⟨run P (n + 11), P.glob, P.W⟩ F_changed_b1) ((prsA w.views.length ascI).map prD) [some w.d, some (.lst []), none, none, none, none, none] st = .nx [some w.d, some (.lst ((fndP w).map Win.d)), o2, o3, none, none, none] st := e2
  have hg := fndP_good h
  have nd := txt_nd hg (fndP_nd h)
  have e3 := fun (ys : List D) (ρ : Rho) (hρ : ρ.length = 7) => dc_loop (st := st) (Γ := ⟨run P (n + 11), P.glob, P.W⟩) (ys := ys) (ρ := ρ) hρ (fun v hv st => text_of_ok (n := n + 3) hv st) (fndP w) [] hg nd (by rw [List.length_nil]; omega)
  have hst : (st ++ [Cell.dct ((fndP w).map kvW)])[st.length]? = some (.dct ((fndP w).map kvW)) := by
    rw [List.getElem?_append_right (Nat.le_refl _), Nat.sub_self]
    rfl
  have e4 := keys_ok hst (by omega)
  have e5 := sorted_ok hlen (st ++ [Cell.dct ((fndP w).map kvW)])
  have e6 := fun (ys : List D) (ρ : Rho) (hi : 6 < ρ.length) (hc : ρ[4]? = some (some (.loc st.length))) => sorted_lc (Γ := ⟨run P (n + 11), P.glob, P.W⟩) (ys := ys) (ρ := ρ) (i := 6) (k := 4) hi (by decide) hc hst (by omega)
  have e3 : ∀ (ys : List D) (ρ : Rho), ρ.length = 7 → lcL ⟨ys, []⟩ (.nm 5) (fun ρ st acc => (evE ⟨run P (n + 11), P.glob, P.W⟩ (.call 161 (.cons (.nm 5) .nil)) ρ st).oks fun x st => (evE ⟨run P (n + 11), P.glob, P.W⟩ (.nm 5) ρ st).oks fun y st => putR acc x y st) ((fndP w).map Win.d) ρ st [] = .ok ((fndP w).map kvW) st := e3
  generalize (fndP w).map kvW = KV at e3 hst e4 e5 e6 ⊢
  generalize (sortW (fndP w)).map Win.d = RS at e6 ⊢
  generalize (sortT ((fndP w).map txt)).map D.str = SO at e5 e6
  generalize (fndP w).map Win.d = F1 at e2 e3
  generalize (prsA w.views.length ascI).map prD = PS at e1 e2
  generalize hT : (fndP w).map txt = TT at e4 e5
  refine (congrArg SR.out (?_ : evSs ⟨run P (n + 11), P.glob, P.W⟩ F_changed.body (start F_changed [w.d]) st = .ret (.lst RS) (st ++ [.dct KV]))).trans rfl
  have es : start F_changed [w.d] = [some w.d, none, none, none, none, none, none] := rfl
  rw [es]
  refine ss_nx (ρ' := [some w.d, some (.lst []), none, none, none, none, none]) (st' := st) (by simp -dsimp [evS, evE, evEs, start, SZ]) ?_
  refine ss_nx (s_for (w := ⟨PS, []⟩) (by simp -dsimp [evI, evE, evEs, walked, keepOf, e1]) e2) ?_
  refine ss_nx (ρ' := [some w.d, some (.lst F1), o2, o3, some (.loc st.length), none, none]) (st' := st ++ [.dct KV]) ?_ ?_
  · simp -dsimp [evS, evE, evI, walked, keepOf, wipeR, Tg.slots, e3]
  · refine ss_ret ?_
    simp -dsimp [evS, evE, evEs, evI, walked, keepOf, wipeR, Tg.slots, Gs.slots, e4, e5, e6]
theorem changes_ok {w : Win} (h : w.Good) : run P (n + 13) 167 [w.d] st = .ok (.lst ((sortW (fndP w)).map Win.d)) (st ++ [.dct ((fndP w).map kvW)]) := by
  rw [run_P P_167 rfl]
  have e1 : ∀ st, run P (n + 12) 11 [w.d] st = .ok .non st := fun st => need_win (n := n + 1) h
  have e2 := changed_ok (n := n) (st := st) h
  simp -dsimp [F_changes, evSs, evS, evE, evEs, evI, evO, evGs, forL, lcL, lcT, start, setAll, asgn, asgnL, Gs.slots, Tg.slots, wipeR, rng, rngOk, SZ, L2.atI, L2.ixN, e1, e2]
end MP
end

section
set_option linter.all false
set_option maxRecDepth 100000
set_option maxHeartbeats 0
/-! The law's changes: a turn. -/
namespace MP
variable {n : Nat} {st : Store}
abbrev En : Type := Win × (Nat × Nat)
/-- what the law writes of a found window -/
def triD (e : En) : D := .tup [e.1.d, .int (e.2.1 : Int), .int (e.2.2 : Int)]
def kv3 (e : En) : K × D := (.inr (txt e.1), triD e)
theorem rl_pl2 (r : Rl) : Pl r.d := rl_pl r
theorem rl_eqb (q r : Rl) : q.d.eqb r.d = decide (q = r) := by
  obtain ⟨q1, q2, q3, q4, q5⟩ := q
  obtain ⟨r1, r2, r3, r4, r5⟩ := r
  have e5 : ((q5 : Int) == (r5 : Int)) = decide (q5 = r5) := by
    by_cases z : q5 = r5
    · rw [z]; simp -dsimp
    · rw [decide_eq_false z]
      have : ¬ (q5 : Int) = (r5 : Int) := by omega
      simpa -dsimp using this
  show ((q1.t == r1.t) && ((q2.t == r2.t) && ((ordT q3 == ordT r3) && ((agT q4 == agT r4) && (((q5 : Int) == (r5 : Int)) && true))))) = _
  rw [wd_beq, wd_beq, ord_beq, ag_beq, e5]
  by_cases h1 : q1 = r1 <;> by_cases h2 : q2 = r2 <;> by_cases h3 : q3 = r3 <;> by_cases h4 : q4 = r4 <;> by_cases h5 : q5 = r5 <;> simp -dsimp [h1, h2, h3, h4, h5]
theorem rl_ne (q r : Rl) (st : Store) : evCmp .ne q.d r.d st = some (!decide (q = r)) := by rw [cmpP_ne (rl_pl q) (rl_pl r), rl_eqb]
theorem q_slack {r q : Rl} (hr : r.slack ≤ 8) {j : Nat} (hj : j < 5) (hq : q ∈ partR r j) : q.slack ≤ 8 := by
  by_cases h4 : j = 4
  · subst h4
    simp -dsimp only [partR, List.mem_cons, List.not_mem_nil, or_false] at hq
    rcases hq with rfl | rfl | rfl | rfl | rfl | rfl | rfl | rfl | rfl <;> (dsimp only; omega)
  · have e : D.int (q.slack : Int) = D.int (r.slack : Int) := part_off hj hq (i := 4) (by omega) (by omega)
    have := D.int.inj e
    omega
end MP
end

section
set_option linter.all false
set_option maxRecDepth 100000
set_option maxHeartbeats 0
/-! The law's changes: a turn, run. -/
namespace MP
variable {n : Nat} {st : Store}
theorem ch_turn {w : Win} (h : w.Good) {a : Nat} (ha : a < w.views.length) (hr : (w.w a).r.slack ≤ 8) {j : Nat} (hj : j < 5) {q : Rl} (hq : q ∈ partR (w.w a).r j) {c : Nat} {U : List En} (hst : st[c]? = some (.dct (U.map kv3))) (hz : U.length < 1000)
    (hn : q ≠ (w.w a).r → q.ok = true → ∀ e ∈ U, txt e.1 ≠ txt (w.put a q)) {o1 o2 o5 o9 o10 o11 : Option D} :
    ∃ o9' o10', evSs ⟨run P (n + 6), P.glob, P.W⟩ F__law_changes_b3 [some w.d, o1, o2, some (.loc c), some (.int (a : Int)), o5, some (w.w a).r.d, some (.int (j : Int)), some (partD q j), o9, o10, o11] st =
      .nx [some w.d, o1, o2, some (.loc c), some (.int (a : Int)), o5, some (w.w a).r.d, some (.int (j : Int)), some (partD q j), o9', o10', o11] (if q ≠ (w.w a).r ∧ q.ok = true then st.set c (.dct ((U ++ [(w.put a q, (a, j))]).map kv3)) else st) := by
  obtain ⟨x, y, z, e4, e5, e6, e7⟩ := part_set hj hq st
  have e8 := rl_ne q (w.w a).r st
  have f3 : ∀ st, evIdx q.d (.int 3) st = some (.str (agT q.drop)) := fun st => rfl
  have f4 : ∀ st, evIdx q.d (.int 4) st = some (.int q.slack) := fun st => rfl
  have f0 : ∀ st, evIdx w.d (.int 0) st = some w.r.d := fun st => rfl
  have f1 : ∀ st, evIdx w.d (.int 1) st = some w.p.d := fun st => rfl
  have hs := q_slack hr hj hq
  have ep : ∀ st, run P (n + 6) 152 [w.p.d, q.d] st = .ok (putR' w.p q).d st := fun st => law_put_ok q 5 (n := n + 1) h.p
  have hok : q.ok = (q.drop || decide (q.slack = 0)) := by unfold Rl.ok; rw [decide_eq_true hs, Bool.true_and]
  have hag : (agT q.drop == s_drop) = q.drop := by cases q.drop <;> rfl
  have hsl : ((q.slack : Int) == 0) = decide (q.slack = 0) := by
    by_cases z : q.slack = 0
    · rw [z]; rfl
    · rw [decide_eq_false z]
      have : ¬ (q.slack : Int) = 0 := by omega
      simpa -dsimp using this
  generalize hRR : (w.w a).r.d = RR at e4 e5 e8 ⊢
  by_cases hne : q = (w.w a).r
  · rw [decide_eq_true hne] at e8
    rw [if_neg (fun z => z.1 hne)]
    refine ⟨some q.d, o10, ?_⟩
    simp -dsimp [F__law_changes_b3, evSs, evS, evE, evEs, evI, evO, evGs, forL, lcL, lcT, start, setAll, asgn, asgnL, Gs.slots, Tg.slots, wipeR, rng, rngOk, SZ, L2.atI, L2.ixN, e4, e5, e6, e7, e8]
  · rw [decide_eq_false hne] at e8
    cases hk : q.ok with
    | false =>
      rw [if_neg (fun z => Bool.false_ne_true z.2)]
      rw [hk] at hok
      have hd : q.drop = false := by cases hd : q.drop with
        | false => rfl
        | true => rw [hd] at hok; cases hok
      have hl : decide (q.slack = 0) = false := by rw [hd] at hok; exact hok.symm
      rw [hd] at f3 hag
      rw [hl] at hsl
      refine ⟨some q.d, o10, ?_⟩
      simp -dsimp [F__law_changes_b3, evSs, evS, evE, evEs, evI, evO, evGs, forL, lcL, lcT, start, setAll, asgn, asgnL, Gs.slots, Tg.slots, wipeR, rng, rngOk, SZ, L2.atI, L2.ixN, e4, e5, e6, e7, e8, f3, f4, hag, hsl]
    | true =>
      rw [if_pos ⟨hne, rfl⟩]
      have hg := put_good h ha hk
      have et := law_text_ok (n := n) hg st
      have hn := hn hne hk
      have es : evSet (.loc c) (.str (txt (w.put a q))) (triD (w.put a q, (a, j))) st = some (st.set c (.dct ((U ++ [(w.put a q, (a, j))]).map kv3))) := by
        have hnk : ∀ kv ∈ U.map kv3, kv.1 ≠ Sum.inr (txt (w.put a q)) := fun kv hkv e => by
          obtain ⟨u, hu, rfl⟩ := List.mem_map.mp hkv
          exact hn u hu (Sum.inr.inj e)
        simp -dsimp only [evSet, hst, D.key]
        rw [if_pos (by rw [List.length_map]; show _ < 16777216; omega), putK_new hnk, List.map_append]
        rfl
      refine ⟨some q.d, some (w.put a q).d, ?_⟩
      generalize hS : st.set c (.dct ((U ++ [(w.put a q, (a, j))]).map kv3)) = S2 at es ⊢
      rw [hk] at hok
      have hc : (q.drop = true) ∨ (q.drop = false ∧ decide (q.slack = 0) = true) := by
        cases hd : q.drop with
        | true => exact .inl rfl
        | false => rw [hd] at hok; exact .inr ⟨rfl, hok.symm⟩
      unfold triD at es
      dsimp only at es
      by_cases ha0 : a = 0
      · subst ha0
        have c0 : ((0 : Nat) : Int) = 0 := rfl
        have ew : (w.put 0 q).d = .tup [q.d, w.p.d] := rfl
        rw [ew] at et es ⊢
        rw [c0] at es ⊢
        generalize txt (w.put 0 q) = TX at et es
        rcases hc with hd | ⟨hd, hl⟩
        · rw [hd] at f3 hag
          simp -dsimp [F__law_changes_b3, evSs, evS, evE, evEs, evI, evO, evGs, forL, lcL, lcT, start, setAll, asgn, asgnL, Gs.slots, Tg.slots, wipeR, rng, rngOk, SZ, L2.atI, L2.ixN, e4, e5, e6, e7, e8, f1, f3, hag, et, es]
        · rw [hd] at f3 hag
          rw [hl] at hsl
          simp -dsimp [F__law_changes_b3, evSs, evS, evE, evEs, evI, evO, evGs, forL, lcL, lcT, start, setAll, asgn, asgnL, Gs.slots, Tg.slots, wipeR, rng, rngOk, SZ, L2.atI, L2.ixN, e4, e5, e6, e7, e8, f1, f3, f4, hag, hsl, et, es]
      · have ha1 : a = 1 := by have := views_len w; omega
        subst ha1
        have c1 : ((1 : Nat) : Int) = 1 := rfl
        have ew : (w.put 1 q).d = .tup [w.r.d, (putR' w.p q).d] := rfl
        rw [ew] at et es ⊢
        rw [c1] at es ⊢
        generalize txt (w.put 1 q) = TX at et es
        rcases hc with hd | ⟨hd, hl⟩
        · rw [hd] at f3 hag
          simp -dsimp [F__law_changes_b3, evSs, evS, evE, evEs, evI, evO, evGs, forL, lcL, lcT, start, setAll, asgn, asgnL, Gs.slots, Tg.slots, wipeR, rng, rngOk, SZ, L2.atI, L2.ixN, e4, e5, e6, e7, e8, f0, f1, f3, hag, ep, et, es]
        · rw [hd] at f3 hag
          rw [hl] at hsl
          simp -dsimp [F__law_changes_b3, evSs, evS, evE, evEs, evI, evO, evGs, forL, lcL, lcT, start, setAll, asgn, asgnL, Gs.slots, Tg.slots, wipeR, rng, rngOk, SZ, L2.atI, L2.ixN, e4, e5, e6, e7, e8, f0, f1, f3, f4, hag, hsl, ep, et, es]
end MP
end

section
set_option linter.all false
set_option maxRecDepth 100000
set_option maxHeartbeats 0
/-! The law's changes: the loops. -/
namespace MP
variable {n : Nat} {st : Store}
/-- what comes of some rules -/
def enQ (w : Win) (a j : Nat) (qs : List Rl) : List En := ((qs.filter fun q => !decide (q = (w.w a).r)).filter Rl.ok).map fun q => (w.put a q, (a, j))
theorem enQ_cons (w : Win) (a j : Nat) (q : Rl) (qs : List Rl) : enQ w a j (q :: qs) = (if q ≠ (w.w a).r ∧ q.ok = true then [(w.put a q, (a, j))] else []) ++ enQ w a j qs := by
  unfold enQ
  by_cases h1 : q = (w.w a).r
  · rw [List.filter_cons_of_neg (by rw [decide_eq_true h1]; decide), if_neg (fun z => z.1 h1)]
    rfl
  · rw [List.filter_cons_of_pos (by rw [decide_eq_false h1]; rfl)]
    cases h2 : q.ok with
    | true => rw [List.filter_cons_of_pos h2, if_pos ⟨h1, rfl⟩]; rfl
    | false => rw [List.filter_cons_of_neg (by rw [h2]; decide), if_neg (fun z => Bool.false_ne_true z.2)]; rfl
theorem set_set_dct (st : Store) (c : Nat) (x y : Cell) : (st.set c x).set c y = st.set c y := List.set_set ..
theorem set_same {c : Nat} {x : Cell} (h : st[c]? = some x) : st.set c x = st := by
  obtain ⟨h1, h2⟩ := List.getElem?_eq_some_iff.mp h
  rw [← h2]
  exact List.set_getElem_self ..
theorem ch_vals {w : Win} (h : w.Good) {a : Nat} (ha : a < w.views.length) (hr : (w.w a).r.slack ≤ 8) {j : Nat} (hj : j < 5) {c : Nat} {ys : List D} {o1 o2 o5 o11 : Option D} : ∀ (qs : List Rl), (∀ q ∈ qs, q ∈ partR (w.w a).r j) → ∀ {U : List En} {st : Store} {o8 o9 o10 : Option D}, st[c]? = some (.dct (U.map kv3)) → U.length + qs.length < 1000 → ((U ++ enQ w a j qs).map fun e => txt e.1).Nodup →
    ∃ o8' o9' o10', forL ⟨ys, []⟩ (.nm 8) (evSs ⟨run P (n + 6), P.glob, P.W⟩ F__law_changes_b3) (qs.map fun q => partD q j) [some w.d, o1, o2, some (.loc c), some (.int (a : Int)), o5, some (w.w a).r.d, some (.int (j : Int)), o8, o9, o10, o11] st =
      .nx [some w.d, o1, o2, some (.loc c), some (.int (a : Int)), o5, some (w.w a).r.d, some (.int (j : Int)), o8', o9', o10', o11] (st.set c (.dct ((U ++ enQ w a j qs).map kv3)))
  | [], _, U, st, o8, o9, o10, hst, hz, nd => ⟨o8, o9, o10, by
    have e : enQ w a j [] = [] := rfl
    rw [e, List.append_nil, set_same hst]
    rfl⟩
  | q :: qs, hq, U, st, o8, o9, o10, hst, hz, nd => by
    rw [List.length_cons] at hz
    have hq1 := hq q (by simp -dsimp)
    rw [enQ_cons] at nd ⊢
    obtain ⟨p9, p10, e1⟩ := ch_turn (n := n) h ha hr hj hq1 hst (by omega) (fun h1 h2 e he z => by
      rw [if_pos ⟨h1, h2⟩, List.map_append, List.nodup_append] at nd
      exact nd.2.2 (txt e.1) (List.mem_map_of_mem (f := fun e : En => txt e.1) he) (txt (w.put a q)) (by simp -dsimp) z) (o1 := o1) (o2 := o2) (o5 := o5) (o9 := o9) (o10 := o10) (o11 := o11)
    by_cases hc : q ≠ (w.w a).r ∧ q.ok = true
    · rw [if_pos hc] at e1 nd ⊢
      obtain ⟨r8, r9, r10, e2⟩ := ch_vals h ha hr hj (ys := ys) (o1 := o1) (o2 := o2) (o5 := o5) (o11 := o11) qs (fun x hx => hq x (List.mem_cons_of_mem _ hx)) (U := U ++ [(w.put a q, (a, j))]) (st := st.set c (.dct ((U ++ [(w.put a q, (a, j))]).map kv3))) (o8 := some (partD q j)) (o9 := p9) (o10 := p10) (set_self hst) (by rw [List.length_append, List.length_singleton]; omega) (by rw [List.append_assoc]; exact nd)
      rw [set_set_dct, List.append_assoc] at e2
      refine ⟨r8, r9, r10, ?_⟩
      rw [← e2]
      simp -dsimp [forL, asgn, e1, Walked.ok]
    · rw [if_neg hc] at e1 nd ⊢
      obtain ⟨r8, r9, r10, e2⟩ := ch_vals h ha hr hj (ys := ys) (o1 := o1) (o2 := o2) (o5 := o5) (o11 := o11) qs (fun x hx => hq x (List.mem_cons_of_mem _ hx)) (U := U) (st := st) (o8 := some (partD q j)) (o9 := p9) (o10 := p10) hst (by omega) nd
      refine ⟨r8, r9, r10, ?_⟩
      rw [List.nil_append, ← e2]
      simp -dsimp [forL, asgn, e1, Walked.ok]
end MP
end

section
set_option linter.all false
set_option maxRecDepth 100000
set_option maxHeartbeats 0
/-! The law's changes: places and views. -/
namespace MP
variable {n : Nat} {st : Store}
def valsD : D := .lst [.lst [.str s_always, .str s_auto, .str s_never, .str s_room], .lst [.str s_always, .str s_auto, .str s_never, .str s_room], .lst [.str s_below, .str s_side], .lst [.str s_drop, .str s_keep], .lst [.int 0, .int 1, .int 2, .int 3, .int 4, .int 5, .int 6, .int 7, .int 8]]
theorem valsD_at (r : Rl) {j : Nat} (hj : j < 5) (st : Store) : evIdx valsD (.int (j : Int)) st = some (.lst ((partR r j).map fun q => partD q j)) := by
  match j, hj with
  | 0, _ => rfl
  | 1, _ => rfl
  | 2, _ => rfl
  | 3, _ => rfl
  | 4, _ => rfl
def enA (w : Win) (a : Nat) (js : List Nat) : List En := js.flatMap fun j => enQ w a j (partR (w.w a).r j)
theorem ch_places {w : Win} (h : w.Good) {a : Nat} (ha : a < w.views.length) (hr : (w.w a).r.slack ≤ 8) {c : Nat} {ys : List D} {o1 o5 o11 : Option D} : ∀ (js : List Nat), (∀ j ∈ js, j < 5) → ∀ {U : List En} {st : Store} {o7 o8 o9 o10 : Option D}, st[c]? = some (.dct (U.map kv3)) → U.length + 9 * js.length < 1000 → ((U ++ enA w a js).map fun e => txt e.1).Nodup →
    ∃ o7' o8' o9' o10', forL ⟨ys, []⟩ (.nm 7) (evSs ⟨run P (n + 6), P.glob, P.W⟩ F__law_changes_b2) (js.map fun j : Nat => D.int (j : Int)) [some w.d, o1, some valsD, some (.loc c), some (.int (a : Int)), o5, some (w.w a).r.d, o7, o8, o9, o10, o11] st =
      .nx [some w.d, o1, some valsD, some (.loc c), some (.int (a : Int)), o5, some (w.w a).r.d, o7', o8', o9', o10', o11] (st.set c (.dct ((U ++ enA w a js).map kv3)))
  | [], _, U, st, o7, o8, o9, o10, hst, hz, nd => ⟨o7, o8, o9, o10, by
    have e : enA w a [] = [] := rfl
    rw [e, List.append_nil, set_same hst]
    rfl⟩
  | j :: js, hj, U, st, o7, o8, o9, o10, hst, hz, nd => by
    rw [List.length_cons] at hz
    have hj1 := hj j (by simp -dsimp)
    have ec : enA w a (j :: js) = enQ w a j (partR (w.w a).r j) ++ enA w a js := rfl
    rw [ec, ← List.append_assoc] at nd ⊢
    have pf := part_few (w.w a).r j
    have ql : (enQ w a j (partR (w.w a).r j)).length ≤ 9 := by
      unfold enQ
      rw [List.length_map]
      exact Nat.le_trans (List.length_filter_le ..) (Nat.le_trans (List.length_filter_le ..) pf)
    obtain ⟨p8, p9, p10, e1⟩ := ch_vals (n := n) h ha hr hj1 (ys := (partR (w.w a).r j).map fun q => partD q j) (o1 := o1) (o2 := some valsD) (o5 := o5) (o11 := o11) (partR (w.w a).r j) (fun _ h => h) (U := U) (st := st) (o8 := o8) (o9 := o9) (o10 := o10) hst (by omega) (by
      rw [List.map_append, List.nodup_append] at nd
      exact nd.1)
    have ev := valsD_at (w.w a).r hj1 st
    obtain ⟨r7, r8, r9, r10, e2⟩ := ch_places h ha hr (ys := ys) (o1 := o1) (o5 := o5) (o11 := o11) js (fun x hx => hj x (List.mem_cons_of_mem _ hx)) (U := U ++ enQ w a j (partR (w.w a).r j)) (st := st.set c (.dct ((U ++ enQ w a j (partR (w.w a).r j)).map kv3))) (o7 := some (.int (j : Int))) (o8 := p8) (o9 := p9) (o10 := p10) (set_self hst) (by rw [List.length_append]; omega) nd
    rw [set_set_dct] at e2
    refine ⟨r7, r8, r9, r10, ?_⟩
    rw [← e2]
    generalize (partR (w.w a).r j).map (fun q => partD q j) = VS at e1 ev
    generalize valsD = VD at e1 ev ⊢
    simp -dsimp [forL, asgn, F__law_changes_b2, evSs, evS, evE, evI, walked, keepOf, ev, e1, Walked.ok]
end MP
end

section
set_option linter.all false
set_option maxRecDepth 100000
set_option maxHeartbeats 0
/-! The law's changes, whole. -/
namespace MP
variable {n : Nat} {st : Store}
def j5 : List Nat := [0, 1, 2, 3, 4]
theorem ch_view {w : Win} (h : w.Good) {a : Nat} (ha : a < w.views.length) (hr : (w.w a).r.slack ≤ 8) {c : Nat} {o1 o6 o11 : Option D} {U : List En} {o7 o8 o9 o10 : Option D} (hst : st[c]? = some (.dct (U.map kv3))) (hz : U.length + 45 < 1000) (nd : ((U ++ enA w a j5).map fun e => txt e.1).Nodup) :
    ∃ o6' o7' o8' o9' o10', evSs ⟨run P (n + 6), P.glob, P.W⟩ F__law_changes_b1 [some w.d, o1, some valsD, some (.loc c), some (.int (a : Int)), some (w.w a).d, o6, o7, o8, o9, o10, o11] st =
      .nx [some w.d, o1, some valsD, some (.loc c), some (.int (a : Int)), some (w.w a).d, o6', o7', o8', o9', o10', o11] (st.set c (.dct ((U ++ enA w a j5).map kv3))) := by
  obtain ⟨r7, r8, r9, r10, e2⟩ := ch_places (n := n) h ha hr (ys := rng 0 5) (o1 := o1) (o5 := some (w.w a).d) (o11 := o11) j5 (fun j hj => by
    simp -dsimp only [j5, List.mem_cons, List.not_mem_nil, or_false] at hj
    omega) (U := U) (st := st) (o7 := o7) (o8 := o8) (o9 := o9) (o10 := o10) hst (by show _ + 9 * 5 < 1000; omega) nd
  have e2 : forL ⟨rng 0 5, []⟩ (.nm 7) (evSs ⟨run P (n + 6), P.glob, P.W⟩ F__law_changes_b2) (rng 0 5) [some w.d, o1, some valsD, some (.loc c), some (.int (a : Int)), some (w.w a).d, some (w.w a).r.d, o7, o8, o9, o10, o11] st = .nx [some w.d, o1, some valsD, some (.loc c), some (.int (a : Int)), some (w.w a).d, some (w.w a).r.d, r7, r8, r9, r10, o11] (st.set c (.dct ((U ++ enA w a j5).map kv3))) := e2
  refine ⟨some (w.w a).r.d, r7, r8, r9, r10, ?_⟩
  have e3 : ∀ st, evIdx (w.w a).d (.int 0) st = some (w.w a).r.d := fun st => rfl
  have r5 : rngOk 5 = true := by decide
  refine ss_nx (ρ' := [some w.d, o1, some valsD, some (.loc c), some (.int (a : Int)), some (w.w a).d, some (w.w a).r.d, o7, o8, o9, o10, o11]) (st' := st) (by simp -dsimp [evS, evE, e3]) ?_
  refine ss_nx (s_for (w := ⟨rng 0 5, []⟩) (by simp -dsimp [evI, evE, r5]) e2) ?_
  simp -dsimp only [evSs]
def enAll (w : Win) : List En := (List.range w.views.length).flatMap fun a => enA w a j5
theorem enQ_fst (w : Win) (a j : Nat) : (enQ w a j (partR (w.w a).r j)).map Prod.fst = othW w a j := by
  unfold enQ othW othR
  rw [List.map_map]
  rfl
theorem enA_fst (w : Win) (a : Nat) : ∀ js : List Nat, (enA w a js).map Prod.fst = js.flatMap fun j => othW w a j
  | [] => rfl
  | j :: js => by
    show (enQ w a j (partR (w.w a).r j) ++ enA w a js).map Prod.fst = othW w a j ++ js.flatMap fun j => othW w a j
    rw [List.map_append, enQ_fst, enA_fst w a js]
theorem enAll_fst (w : Win) : (enAll w).map Prod.fst = fndL w := by
  unfold enAll fndL prsA
  rcases views_len w with hl | hl
  · rw [hl]
    show (enA w 0 j5 ++ []).map Prod.fst = _
    rw [List.append_nil, enA_fst]
    rfl
  · rw [hl]
    show (enA w 0 j5 ++ (enA w 1 j5 ++ [])).map Prod.fst = _
    rw [List.append_nil, List.map_append, enA_fst, enA_fst]
    show [0, 1, 2, 3, 4].flatMap (fun j => othW w 0 j) ++ [0, 1, 2, 3, 4].flatMap (fun j => othW w 1 j) = _
    simp -dsimp [List.range, List.range.loop]
end MP
end

section
set_option linter.all false
set_option maxRecDepth 100000
set_option maxHeartbeats 0
/-! The law's changes: to the end. -/
namespace MP
variable {n : Nat} {st : Store}
theorem enAll_nd {w : Win} (h : w.Good) : ((enAll w).map fun e => txt e.1).Nodup := by
  have e : ((enAll w).map fun e => txt e.1) = (fndL w).map txt := by rw [← enAll_fst, List.map_map]; rfl
  rw [e]
  have hg : ∀ v ∈ fndL w, v.Good := fun v hv => fndP_good h v ((fnd_perm w).mem_iff.mpr hv)
  exact txt_nd hg ((fnd_perm w).nodup_iff.mp (fndP_nd h))
theorem enAll_len (w : Win) : (enAll w).length < 64 := by
  have e : (enAll w).length = (fndL w).length := by rw [← enAll_fst, List.length_map]
  rw [e, ← (fnd_perm w).length_eq]
  exact fndP_len w
theorem w_slack {w : Win} (h : w.Good) {a : Nat} (ha : a < w.views.length) : (w.w a).r.slack ≤ 8 := by
  unfold Win.w
  split
  · exact slack_le' h.r
  · split
    · rename_i r u q hv
      have key : ∀ (k : Nat) (p : Pc), p.ok k = true → p.vw = some (r, u, q) → r.ok = true := by
        intro k
        induction k with
        | zero => intro p h; cases p <;> simp -dsimp [Pc.ok] at h
        | succ k ih =>
          intro p h hv
          cases p with
          | stk a b =>
            simp -dsimp only [Pc.ok, Bool.and_eq_true] at h
            have hv : a.vw.or b.vw = some (r, u, q) := hv
            cases qa : a.vw with
            | some z => rw [qa] at hv; exact ih a h.1 (by rw [qa]; exact hv)
            | none => rw [qa] at hv; exact ih b h.2 hv
          | view r' u' p' =>
            simp -dsimp only [Pc.ok, Bool.and_eq_true] at h
            have hv : some (r', u', p') = some (r, u, q) := hv
            cases hv
            exact h.1
          | _ => cases hv
      exact slack_le' (key 5 w.p h.p hv)
    · exact slack_le' h.r
theorem law_ch_loop {w : Win} (h : w.Good) {c : Nat} (hc : st[c]? = some (.dct [])) {ys : List D} {o1 o4 o5 o6 o7 o8 o9 o10 o11 : Option D} :
    ∃ o4' o5' o6' o7' o8' o9' o10', forL ⟨ys, []⟩ (.cons (.nm 4) (.cons (.nm 5) .nil)) (evSs ⟨run P (n + 6), P.glob, P.W⟩ F__law_changes_b1) (enum 0 (w.views.map Win.d)) [some w.d, o1, some valsD, some (.loc c), o4, o5, o6, o7, o8, o9, o10, o11] st =
      .nx [some w.d, o1, some valsD, some (.loc c), o4', o5', o6', o7', o8', o9', o10', o11] (st.set c (.dct ((enAll w).map kv3))) := by
  have nd := enAll_nd h
  have hz := enAll_len w
  have c0 : ((0 : Nat) : Int) = 0 := rfl
  have c1 : ((1 : Nat) : Int) = 1 := rfl
  have hv0 : w.w 0 = w := rfl
  rcases views_len w with hl | hl
  · have ee : enAll w = enA w 0 j5 := by
      unfold enAll
      rw [hl]
      show enA w 0 j5 ++ [] = _
      rw [List.append_nil]
    rw [ee] at nd hz ⊢
    obtain ⟨p6, p7, p8, p9, p10, e1⟩ := ch_view (n := n) (a := 0) h (by omega) (w_slack h (by omega)) (o1 := o1) (o6 := o6) (o11 := o11) (U := []) (o7 := o7) (o8 := o8) (o9 := o9) (o10 := o10) hc (by decide) nd
    rw [List.nil_append, c0, hv0] at e1
    obtain ⟨v, hv⟩ := List.length_eq_one_iff.mp hl
    have hvw : v = w := by
      have := views_eq w
      rw [hv] at this
      exact (List.cons.inj this).1
    rw [hv, hvw]
    refine ⟨some (.int 0), some w.d, p6, p7, p8, p9, p10, ?_⟩
    simp -dsimp [enum, forL, asgn, asgnL, e1, Walked.ok]
  · have ee : enAll w = enA w 0 j5 ++ enA w 1 j5 := by
      unfold enAll
      rw [hl]
      show enA w 0 j5 ++ (enA w 1 j5 ++ []) = _
      rw [List.append_nil]
    rw [ee] at nd hz ⊢
    rw [List.length_append] at hz
    have nd0 : ((([] : List En) ++ enA w 0 j5).map fun e : En => txt e.1).Nodup := by
      rw [List.map_append, List.nodup_append] at nd
      exact nd.1
    obtain ⟨p6, p7, p8, p9, p10, e1⟩ := ch_view (n := n) (a := 0) h (by omega) (w_slack h (by omega)) (o1 := o1) (o6 := o6) (o11 := o11) (U := []) (o7 := o7) (o8 := o8) (o9 := o9) (o10 := o10) hc (by decide) nd0
    rw [List.nil_append] at e1
    obtain ⟨q6, q7, q8, q9, q10, e2⟩ := ch_view (n := n) (a := 1) h (by omega) (w_slack h (by omega)) (o1 := o1) (o6 := p6) (o11 := o11) (U := enA w 0 j5) (o7 := p7) (o8 := p8) (o9 := p9) (o10 := p10) (set_self hc) (by omega) nd
    rw [set_set_dct] at e2
    rw [c0, hv0] at e1
    rw [c1] at e2
    match hv : w.views, hl with
    | [v, v'], _ =>
      have h0 : v = w := by
        have := views_eq w
        rw [hv] at this
        exact (List.cons.inj this).1
      have h1 : v'.d = (w.w 1).d := by
        have := w_at (w := w) (a := 1) (by rw [hv]; exact Nat.le.refl) []
        rw [hv] at this
        exact Option.some.inj this
      rw [h0]
      refine ⟨some (.int 1), some (w.w 1).d, q6, q7, q8, q9, q10, ?_⟩
      simp -dsimp [enum, forL, asgn, asgnL, h1, e1, e2, Walked.ok]
end MP
end

section
set_option linter.all false
set_option maxRecDepth 100000
set_option maxHeartbeats 0
/-! The law's changes: what it tells. -/
namespace MP
variable {n : Nat} {st : Store}
def fnd3 (F : List En) (t : T) : Option En := F.find? fun e => decide (txt e.1 = t)
def sort3 (F : List En) : List En := (sortT (F.map fun e => txt e.1)).filterMap (fnd3 F)
theorem fnd3_fst (F : List En) (t : T) : (fnd3 F t).map Prod.fst = fndW (F.map Prod.fst) t := by
  unfold fnd3 fndW
  induction F with
  | nil => rfl
  | cons e F ih =>
    rw [List.map_cons, List.find?_cons, List.find?_cons]
    by_cases h : txt e.1 = t
    · rw [decide_eq_true h]
      rfl
    · rw [decide_eq_false h]
      exact ih
theorem sort3_fst (F : List En) : (sort3 F).map Prod.fst = sortW (F.map Prod.fst) := by
  unfold sort3 sortW
  rw [List.map_map]
  show ((sortT (F.map (txt ∘ Prod.fst))).filterMap (fnd3 F)).map Prod.fst = _
  generalize sortT (F.map (txt ∘ Prod.fst)) = l
  induction l with
  | nil => rfl
  | cons x l ih =>
    rw [List.filterMap_cons, List.filterMap_cons]
    have := fnd3_fst F x
    cases h : fnd3 F x with
    | none =>
      rw [h] at this
      rw [← this]
      exact ih
    | some e =>
      rw [h] at this
      rw [← this]
      show e.1 :: _ = e.1 :: _
      rw [ih]
theorem fnd3_kv (F : List En) (t : T) : ((F.map kv3).find? fun kv => decide (kv.1 = Sum.inr t)).map (·.2) = (fnd3 F t).map triD := by
  unfold fnd3
  induction F with
  | nil => rfl
  | cons v F ih =>
    rw [List.map_cons, List.find?_cons, List.find?_cons]
    by_cases h : txt v.1 = t
    · rw [decide_eq_true (show (kv3 v).1 = Sum.inr t from congrArg Sum.inr h), decide_eq_true h]
      rfl
    · rw [decide_eq_false (show ¬ (kv3 v).1 = Sum.inr t from fun e => h (Sum.inr.inj e)), decide_eq_false h]
      exact ih
theorem texts_kv3 : ∀ F : List En, textsOf (F.map kv3) = some (F.map fun e => txt e.1)
  | [] => rfl
  | v :: F => by
    rw [List.map_cons, List.map_cons]
    show (textsOf (F.map kv3)).map (txt v.1 :: ·) = _
    rw [texts_kv3 F]
    rfl
theorem fnd3_some {F : List En} {t : T} (h : t ∈ F.map fun e => txt e.1) : ∃ v, fnd3 F t = some v := by
  obtain ⟨u, hu, rfl⟩ := List.mem_map.mp h
  cases e : fnd3 F (txt u.1) with
  | none =>
    unfold fnd3 at e
    have := List.find?_eq_none.mp e u hu
    exact absurd (decide_eq_true (rfl : txt u.1 = txt u.1)) this
  | some v => exact ⟨v, rfl⟩
end MP
end

section
set_option linter.all false
set_option maxRecDepth 100000
set_option maxHeartbeats 0
/-! The law's changes: run. -/
namespace MP
variable {n : Nat} {st : Store}
theorem sorted3_lc {Γ : G} {ys : List D} {ρ : Rho} {i k c : Nat} (hi : i < ρ.length) (hk : k ≠ i) (hc : ρ[k]? = some (some (.loc c))) {F : List En} (hst : st[c]? = some (.dct (F.map kv3))) (hz : F.length ≤ 1000) :
    lcL ⟨ys, []⟩ (.nm i) (lcT (evO Γ .none) (evGs Γ (.elt (.idx (.nm k) (.nm i))))) ((sortT (F.map fun e => txt e.1)).map D.str) ρ st [] = .ok ((sort3 F).map triD) st := by
  have hm : ∀ t ∈ sortT (F.map fun e => txt e.1), t ∈ F.map fun e => txt e.1 := fun t h => (sortP _).mem_iff.mp h
  have e := lcL_map (α := T) (i := i) (ys := ys) (f := lcT (evO Γ .none) (evGs Γ (.elt (.idx (.nm k) (.nm i))))) (ρ := ρ) (st := st) D.str (fun t => match fnd3 F t with
    | some v => [triD v]
    | none => []) hi (sortT (F.map fun e => txt e.1)) [] (fun t ht acc ha => by
      obtain ⟨v, ev⟩ := fnd3_some (hm t ht)
      rw [ev] at ha ⊢
      have ha : acc.length + 1 ≤ 16777216 := ha
      have hz2 : acc.length < 16777216 := by omega
      have e4 : (ρ.set i (some (D.str t)))[i]? = some (some (.str t)) := List.getElem?_set_self hi
      have e5 : (ρ.set i (some (D.str t)))[k]? = some (some (.loc c)) := by rw [List.getElem?_set_ne (fun e => hk e.symm)]; exact hc
      have e6 : evIdx (.loc c) (.str t) st = some (triD v) := by
        have := fnd3_kv F t
        rw [ev] at this
        simp -dsimp only [evIdx, hst, D.key]
        exact this
      simp -dsimp [lcT, evO, evE, evEs, evGs, e4, e5, e6, SZ, hz2]) (by
      have key : ∀ l : List T, (l.flatMap fun t => match fnd3 F t with
          | some v => [triD v]
          | none => []).length ≤ l.length := fun l => by
        induction l with
        | nil => exact Nat.le_refl _
        | cons x l ih =>
          rw [List.flatMap_cons, List.length_append, List.length_cons]
          have : (match fnd3 F x with
            | some v => [triD v]
            | none => []).length ≤ 1 := by split <;> simp -dsimp
          omega
      have := key (sortT (F.map fun e => txt e.1))
      rw [sortT_len, List.length_map] at this
      show 0 + _ ≤ 16777216
      omega)
  rw [e]
  unfold sort3
  congr 1
  rw [List.nil_append]
  generalize sortT (F.map fun e => txt e.1) = l
  induction l with
  | nil => rfl
  | cons x l ih =>
    rw [List.flatMap_cons, ih, List.filterMap_cons]
    cases fnd3 F x <;> rfl
end MP
end

section
set_option linter.all false
set_option maxRecDepth 100000
set_option maxHeartbeats 0
/-! The law's changes: the def. -/
namespace MP
variable {n : Nat} {st : Store}
theorem law_changes_ok {w : Win} (h : w.Good) : ∃ st', run P (n + 7) 170 [w.d] st = .ok (.lst ((sort3 (enAll w)).map triD)) st' ∧ st.length ≤ st'.length ∧ ∀ i, i < st.length → st'[i]? = st[i]? := by
  rw [run_P P_170 rfl]
  have e1 : ∀ st, run P (n + 6) 27 [w.d] st = .ok (.lst (w.views.map Win.d)) st := fun st => law_views_ok h
  have hz := enAll_len w
  have hst : (st ++ [Cell.dct []])[st.length]? = some (.dct []) := by
    rw [List.getElem?_append_right (Nat.le_refl _), Nat.sub_self]
    rfl
  obtain ⟨o4, o5, o6, o7, o8, o9, o10, e2⟩ := law_ch_loop (n := n) h hst (ys := enum 0 (w.views.map Win.d)) (o1 := some (.lst [.str s_always, .str s_auto, .str s_never, .str s_room])) (o4 := none) (o5 := none) (o6 := none) (o7 := none) (o8 := none) (o9 := none) (o10 := none) (o11 := none)
  have hs2 : ((st ++ [Cell.dct []]).set st.length (.dct ((enAll w).map kv3)))[st.length]? = some (.dct ((enAll w).map kv3)) := set_self hst
  have e4 : keysOf ((st ++ [Cell.dct []]).set st.length (.dct ((enAll w).map kv3))) (.loc st.length) = some ((enAll w).map fun e => txt e.1) := by
    show (match ((st ++ [Cell.dct []]).set st.length (.dct ((enAll w).map kv3)))[st.length]? with
      | some (.dct kvs) => if kvs.length < SZ then textsOf kvs else none
      | _ => none) = _
    rw [hs2]
    show (if ((enAll w).map kv3).length < SZ then textsOf ((enAll w).map kv3) else none) = _
    rw [if_pos (by rw [List.length_map]; show _ < 16777216; omega), texts_kv3]
  have e5 : ∀ st, evBlt .sorted [.lst (((enAll w).map fun e => txt e.1).map D.str)] st = .ok (.lst ((sortT ((enAll w).map fun e => txt e.1)).map D.str)) st := fun st => by
    have e : (lItems st (.lst (((enAll w).map fun e => txt e.1).map D.str))).bind strsOf = some ((enAll w).map fun e => txt e.1) := strsT_map _
    show (match (lItems st (.lst (((enAll w).map fun e => txt e.1).map D.str))).bind strsOf with
      | some xs => if xs.length < 64 then R.ok (D.lst ((sortT xs).map .str)) st else .no
      | none => .no) = _
    rw [e]
    show (if ((enAll w).map fun e => txt e.1).length < 64 then R.ok (D.lst ((sortT ((enAll w).map fun e => txt e.1)).map .str)) st else .no) = _
    rw [if_pos (by rw [List.length_map]; exact hz)]
  have e6 := fun (ys : List D) (ρ : Rho) (hi : 11 < ρ.length) (hc : ρ[3]? = some (some (.loc st.length))) => sorted3_lc (Γ := ⟨run P (n + 6), P.glob, P.W⟩) (ys := ys) (ρ := ρ) (i := 11) (k := 3) hi (by decide) hc hs2 (by omega)
  refine ⟨(st ++ [Cell.dct []]).set st.length (.dct ((enAll w).map kv3)), ?_, by rw [List.length_set, List.length_append]; omega, fun i hi => by rw [List.getElem?_set_ne (by omega), List.getElem?_append_left hi]⟩
  have e5 := e5 ((st ++ [Cell.dct []]).set st.length (.dct ((enAll w).map kv3)))
  generalize (st ++ [Cell.dct []]).set st.length (.dct ((enAll w).map kv3)) = S2 at e2 e4 e5 e6 ⊢
  generalize (sort3 (enAll w)).map triD = RS at e6 ⊢
  generalize (sortT ((enAll w).map fun e => txt e.1)).map D.str = SO at e5 e6
  generalize ((enAll w).map fun e => txt e.1) = TT at e4 e5
  generalize hV : w.views.map Win.d = V at e1 e2
  refine (congrArg SR.out (?_ : evSs ⟨run P (n + 6), P.glob, P.W⟩ F__law_changes.body (start F__law_changes [w.d]) st = .ret (.lst RS) S2)).trans rfl
  have es : start F__law_changes [w.d] = [some w.d, none, none, none, none, none, none, none, none, none, none, none] := rfl
  rw [es]
  have r9 : rngOk 9 = true := by decide
  have r0 : rngOk 0 = true := by decide
  refine ss_nx (ρ' := [some w.d, some (.lst [.str s_always, .str s_auto, .str s_never, .str s_room]), none, none, none, none, none, none, none, none, none, none]) (st' := st) (by simp -dsimp [evS, evE, evEs, SZ]) ?_
  refine ss_nx (ρ' := [some w.d, some (.lst [.str s_always, .str s_auto, .str s_never, .str s_room]), some valsD, some (.loc st.length), none, none, none, none, none, none, none, none]) (st' := st ++ [.dct []]) (by simp -dsimp [evS, evE, evEs, asgn, asgnL, SZ, valsD, lrR, rng, r9, r0, mergeK]) ?_
  refine ss_nx (s_for (w := ⟨enum 0 V, []⟩) (by simp -dsimp [evI, evE, evEs, keepOf, e1]) e2) ?_
  refine ss_ret ?_
  simp -dsimp [evS, evE, evEs, evI, walked, keepOf, wipeR, Tg.slots, Gs.slots, e4, e5, e6]
end MP
end

section
set_option linter.all false
set_option maxRecDepth 100000
set_option maxHeartbeats 0
/-! The body of law k09. -/
namespace MP
variable {st : Store}
abbrev Γ1 : G := ⟨run P 99, P.glob, P.W⟩
theorem at_lt {α : Type} {l : List α} {i : Nat} {x : α} (h : l[i]? = some x) : i < l.length := (List.getElem?_eq_some_iff.mp h).1
theorem push_last {st : Store} {c : Cell} : (st ++ [c])[st.length]? = some c := by
  rw [List.getElem?_append_right (Nat.le_refl _), Nat.sub_self]
  rfl
theorem win_pls (F : List Win) (hF : ∀ v ∈ F, v.Good) : Pls (F.map Win.d) := okds_all.mpr fun d hd => by
  obtain ⟨v, hv, rfl⟩ := List.mem_map.mp hd
  exact (hF v hv).pl
/-- those that are told, without their places -/
theorem fst_lc {Γ : G} {ys : List D} {o0 o1 o2 o3 o4 o5 o9 o10 o11 : Option D} : ∀ (F : List En) (acc : List D) (o6 o7 o8 : Option D), acc.length + F.length ≤ 1000 → lcL ⟨ys, []⟩ (.cons (.nm 6) (.cons (.nm 7) (.cons (.nm 8) .nil))) (lcT (evO Γ .none) (evGs Γ (.elt (.nm 6)))) (F.map triD) [o0, o1, o2, o3, o4, o5, o6, o7, o8, o9, o10, o11] st acc = .ok (acc ++ F.map fun e => e.1.d) st
  | [], acc, _, _, _, _ => by rw [List.map_nil, List.map_nil, List.append_nil]; rfl
  | e :: F, acc, o6, o7, o8, hz => by
    rw [List.length_cons] at hz
    have ih := fst_lc (Γ := Γ) (ys := ys) (o0 := o0) (o1 := o1) (o2 := o2) (o3 := o3) (o4 := o4) (o5 := o5) (o9 := o9) (o10 := o10) (o11 := o11) F (acc ++ [e.1.d]) o6 o7 o8 (by rw [List.length_append, List.length_singleton]; omega)
    rw [List.append_assoc] at ih
    have hz2 : acc.length < 16777216 := by omega
    rw [List.map_cons, List.map_cons]
    rw [← show acc ++ ([e.1.d] ++ F.map fun e => e.1.d) = acc ++ e.1.d :: F.map fun e => e.1.d from rfl, ← ih]
    generalize F.map triD = FT
    unfold triD
    simp -dsimp [lcL, asgn, asgnL, lcT, evO, evGs, evE, SZ, hz2]
end MP
end

section
set_option linter.all false
set_option maxRecDepth 100000
set_option maxHeartbeats 0
/-! The body of law k09: turns. -/
namespace MP
variable {st : Store}
mutual
theorem eqb_self : ∀ (d : D) (n : Nat), d.okd n = true → d.eqb d = true
  | .non, _, _ => rfl
  | .bl b, _, _ => by simp -dsimp
  | .int i, _, _ => by simp -dsimp
  | .str t, _, _ => by simp -dsimp
  | .tup ds, n, h => by
    cases n with
    | zero => simp -dsimp [D.okd] at h
    | succ n => rw [eqb_tup_tup]; exact eqbs_self ds n h
  | .lst ds, n, h => by
    cases n with
    | zero => simp -dsimp [D.okd] at h
    | succ n => rw [eqb_lst_lst]; exact eqbs_self ds n h
  | .rol _, n, h => by cases n <;> simp -dsimp [D.okd] at h
  | .loc _, n, h => by cases n <;> simp -dsimp [D.okd] at h
theorem eqbs_self : ∀ (ds : List D) (n : Nat), D.okds ds n = true → D.eqbs ds ds = true
  | [], _, _ => rfl
  | d :: ds, n, h => by
    simp -dsimp only [D.okds, Bool.and_eq_true] at h
    simp -dsimp only [eqbs_cons, eqb_self d n h.1, eqbs_self ds n h.2, Bool.and_self]
end
theorem ne_self {d : D} (h : Pl d) (st : Store) : evCmp .ne d d st = some false := by rw [cmpP_ne h h, eqb_self d 60 h]; rfl
theorem win_okd {v : Win} (h : v.Good) : v.d.okd 10 = true := by
  have h1 := okd_mono _ 1 9 (by omega) (rl_okd v.r)
  have h2 := okd_mono _ 6 9 (by omega) (pc_okd 5 v.p h.p)
  show D.okds [v.r.d, v.p.d] 9 = true
  simp -dsimp only [D.okds, h1, h2, Bool.and_self, Bool.and_true]
theorem wins_pl {F : List Win} (hF : ∀ v ∈ F, v.Good) : Pl (.lst (F.map Win.d)) := by
  show D.okds (F.map Win.d) 59 = true
  induction F with
  | nil => rfl
  | cons v F ih =>
    show (v.d.okd 59 && D.okds (F.map Win.d) 59) = true
    rw [okd_mono _ 10 59 (by omega) (win_okd (hF v (by simp -dsimp))), ih fun x hx => hF x (List.mem_cons_of_mem _ hx)]
    rfl
/-- what both tell -/
def chg (w : Win) : List Win := sortW (fndP w)
theorem chg_good {w : Win} (h : w.Good) : ∀ v ∈ chg w, v.Good := fun v hv => fndP_good h v (sortW_mem hv)
theorem chg_law {w : Win} (h : w.Good) : (sort3 (enAll w)).map (fun e => e.1.d) = (chg w).map Win.d := by
  have e : (sort3 (enAll w)).map (fun e => e.1.d) = ((sort3 (enAll w)).map Prod.fst).map Win.d := by rw [List.map_map]; rfl
  rw [e, sort3_fst, enAll_fst]
  unfold chg
  rw [sortW_eq (fnd_perm w) (txt_nd (fndP_good h) (fndP_nd h))]
theorem turn_ok {s j : Nat} (hj : j < 3) (hs : Src st s) {o0 o1 o4 o5 o6 o7 o8 o9 o10 o11 : Option D} :
    ∃ (o4' o5' : Option D) (st' : Store), evSs Γ1 F_law_9_b2 [o0, o1, some (.loc s), some (.int (j : Int)), o4, o5, o6, o7, o8, o9, o10, o11] st =
      .nx [o0, o1, some (.loc s), some (.int (j : Int)), o4', o5', o6, o7, o8, o9, o10, o11] st' ∧ Nxt s st st' := by
  obtain ⟨d, st1, e1, W, x1⟩ := window_ok (n := 94) hs ((j : Int) == 2)
  obtain ⟨w, rfl, dw⟩ := win_of W
  have h := dw.good
  have e1 : run P 99 24 [.loc s, .bl ((j : Int) == 2)] st = .ok w.d st1 := e1
  have e2 : run P 99 167 [w.d] st1 = .ok (.lst ((chg w).map Win.d)) (st1 ++ [.dct ((fndP w).map kvW)]) := changes_ok (n := 86) h
  have x2 : Nxt s st1 (st1 ++ [.dct ((fndP w).map kvW)]) := by
    obtain ⟨u, v, eu, q⟩ := x1.src
    refine ⟨⟨u, v, ?_, q⟩, by rw [List.length_append]; omega, fun i hi _ => List.getElem?_append_left hi⟩
    rw [List.getElem?_append_left (at_lt eu)]
    exact eu
  generalize st1 ++ [Cell.dct ((fndP w).map kvW)] = st2 at e2 x2
  obtain ⟨st3, e3, k3, k4⟩ := law_changes_ok (n := 92) (st := st2) h
  have e3 : run P 99 170 [w.d] st2 = .ok (.lst ((sort3 (enAll w)).map triD)) st3 := e3
  have x3 : Nxt s st2 st3 := by
    obtain ⟨u, v, eu, q⟩ := x2.src
    exact ⟨⟨u, v, by rw [k4 _ (at_lt eu)]; exact eu, q⟩, k3, fun i hi _ => k4 i hi⟩
  have hl : (sort3 (enAll w)).length ≤ 1000 := by
    have e : (sort3 (enAll w)).length = ((sort3 (enAll w)).map Prod.fst).length := by rw [List.length_map]
    rw [e, sort3_fst, sortW_len, List.length_map]
    have := enAll_len w
    omega
  have e4 := fun (ys : List D) (o0 o1 o2 o3 o4 o5 o6 o7 o8 o9 o10 o11 : Option D) => fst_lc (st := st3) (Γ := Γ1) (ys := ys) (o0 := o0) (o1 := o1) (o2 := o2) (o3 := o3) (o4 := o4) (o5 := o5) (o9 := o9) (o10 := o10) (o11 := o11) (sort3 (enAll w)) [] o6 o7 o8 (by rw [List.length_nil]; omega)
  rw [List.nil_append, chg_law h] at e4
  have hp := wins_pl (chg_good h)
  have e5 := ne_self hp st3
  generalize (chg w).map Win.d = R1 at e2 e4 e5
  generalize (sort3 (enAll w)).map triD = R2 at e3 e4
  have hw := w.d
  refine ⟨some w.d, some (.lst R1), st3, ?_, (x1.trans x2).trans x3⟩
  simp -dsimp [F_law_9_b2, evSs, evS, evE, evEs, evI, walked, keepOf, wipeR, Tg.slots, Gs.slots, e1, e2, e3, e4, e5, isi_lst]
end MP
end

section
set_option linter.all false
set_option maxRecDepth 100000
set_option maxHeartbeats 0
/-! Ranges, for the bodies of laws. -/
namespace MP
variable {st : Store}
theorem rngT_len : ∀ (n : Nat) (lo : Int), (rng lo n).length = n
  | 0, _ => rfl
  | n + 1, lo => by rw [rng, List.length_cons, rngT_len n]
theorem rngT_get : ∀ (n : Nat) (lo : Int) (i : Nat) (d : D), (rng lo n)[i]? = some d → i < n ∧ d = .int (lo + i)
  | 0, lo, i, d, h => by simp -dsimp [rng] at h
  | n + 1, lo, 0, d, h => by
    simp -dsimp [rng] at h
    exact ⟨by omega, by rw [← h]; simp⟩
  | n + 1, lo, i + 1, d, h => by
    rw [rng, List.getElem?_cons_succ] at h
    obtain ⟨h1, h2⟩ := rngT_get n (lo + 1) i d h
    exact ⟨by omega, by rw [h2]; congr 1; omega⟩
theorem rng_m {m : Nat} (hm : m ≤ 11) : rngOk (m : Int) = true := by
  have : ∀ k : Fin 12, rngOk ((k.val : Nat) : Int) = true := by decide
  exact this ⟨m, by omega⟩
theorem rng1_a {Γ : G} {e : E} {ρ : Rho} {st st' : Store} {m : Int} (h : evE Γ e ρ st = .ok (.int m) st') : evI Γ (.rng1 e) ρ st = (if rngOk m = true then R.ok ⟨rng 0 m.toNat, []⟩ st' else .no) := by
  simp -dsimp only [evI, h, R.bd_ok]
theorem rng1_b {Γ : G} {e : E} {ρ : Rho} {st st' : Store} {m : Int} (h : evE Γ e ρ st = .ok (.int m) st') (hr : rngOk m = true) : evI Γ (.rng1 e) ρ st = R.ok ⟨rng 0 m.toNat, []⟩ st' := by
  rw [rng1_a h, if_pos hr]
theorem rng1_ok {Γ : G} {e : E} {ρ : Rho} {st st' : Store} {m : Nat} (h : evE Γ e ρ st = .ok (.int (m : Int)) st') (hr : rngOk (m : Int) = true) : evI Γ (.rng1 e) ρ st = R.ok ⟨rng 0 m, []⟩ st' := by
  rw [rng1_b h hr, Int.toNat_natCast]
theorem min_11 (ns : List Int) (c : Nat) : ∃ m : Nat, m ≤ c + 1 ∧ (1 + (if (c : Int) < (ns.length : Int) then (c : Int) else (ns.length : Int))) = (m : Int) := by
  by_cases q : (c : Int) < (ns.length : Int)
  · exact ⟨c + 1, by omega, by rw [if_pos q]; omega⟩
  · exact ⟨ns.length + 1, by omega, by rw [if_neg q]; omega⟩
theorem len_script (ns : List Int) (st : Store) : evBlt .len [.rol (ns.map .int)] st = .ok (.int (ns.length : Int)) st := by
  show R.of (some (D.int ((ns.map D.int).length : Int))) _ = _
  rw [List.length_map]
  rfl
end MP
end

section
set_option linter.all false
set_option maxRecDepth 100000
set_option maxHeartbeats 0
/-! Law k09: loops and the end. -/
namespace MP
variable {st : Store}
theorem turns_ok {sc : Nat} (hsc : Src st sc) {o0 o1 o3 o4 o5 o6 o7 o8 o9 o10 o11 : Option D} :
    ∃ (o3' o4' o5' : Option D) (st' : Store), forL ⟨rng 0 3, []⟩ (.nm 3) (evSs Γ1 F_law_9_b2) (rng 0 3) [o0, o1, some (.loc sc), o3, o4, o5, o6, o7, o8, o9, o10, o11] st =
      .nx [o0, o1, some (.loc sc), o3', o4', o5', o6, o7, o8, o9, o10, o11] st' ∧ Nxt sc st st' := by
  let I : Nat → Rho → Store → Prop := fun i ρ st' => ∃ (o3' o4' o5' : Option D), ρ = [o0, o1, some (.loc sc), o3', o4', o5', o6, o7, o8, o9, o10, o11] ∧ Nxt sc st st'
  obtain ⟨ρ', st', e, p3, p4, p5, rfl, x⟩ := forL_ok (t := .nm 3) (ys := rng 0 3) (f := evSs Γ1 F_law_9_b2) I (rng 0 3) 0 [o0, o1, some (.loc sc), o3, o4, o5, o6, o7, o8, o9, o10, o11] st ⟨o3, o4, o5, rfl, .refl hsc⟩ (fun j x hx ρ st1 hI => by
    obtain ⟨p3, p4, p5, rfl, x1⟩ := hI
    obtain ⟨hj, rfl⟩ := rngT_get 3 0 j x hx
    obtain ⟨q4, q5, st2, ev, x2⟩ := turn_ok hj x1.src (o0 := o0) (o1 := o1) (o4 := p4) (o5 := p5) (o6 := o6) (o7 := o7) (o8 := o8) (o9 := o9) (o10 := o10) (o11 := o11)
    refine ⟨[o0, o1, some (.loc sc), some (.int (j : Int)), p4, p5, o6, o7, o8, o9, o10, o11], ?_, _, st2, ev, _, q4, q5, rfl, x1.trans x2⟩
    rw [Int.zero_add]
    rfl)
  exact ⟨p3, p4, p5, st', e, x⟩
theorem body_ok {ns : List Int} {k : Nat} (hk : k ≤ 10) {o2 o3 o4 o5 o6 o7 o8 o9 o10 o11 : Option D} :
    ∃ (o2' o3' o4' o5' : Option D) (st' : Store), evSs Γ1 F_law_9_b1 [some (.rol (ns.map .int)), some (.int (k : Int)), o2, o3, o4, o5, o6, o7, o8, o9, o10, o11] st =
      .nx [some (.rol (ns.map .int)), some (.int (k : Int)), o2', o3', o4', o5', o6, o7, o8, o9, o10, o11] st' := by
  obtain ⟨a, b, b0, b1, e1⟩ := source_ok (n := 98) (st := st) (ns := ns) hk
  have hs : Src (st ++ [.lst [.int a, .int b]]) st.length := ⟨a, b, push_last, b0, b1⟩
  have e1 : run P 99 18 [.rol (ns.map .int), .int k] st = .ok (.loc st.length) (st ++ [.lst [.int a, .int b]]) := e1
  obtain ⟨p3, p4, p5, st2, e2, _⟩ := turns_ok hs (o0 := some (.rol (ns.map .int))) (o1 := some (.int (k : Int))) (o3 := o3) (o4 := o4) (o5 := o5) (o6 := o6) (o7 := o7) (o8 := o8) (o9 := o9) (o10 := o10) (o11 := o11)
  refine ⟨some (.loc st.length), p3, p4, p5, st2, ?_⟩
  refine ss_nx (ρ' := [some (.rol (ns.map .int)), some (.int (k : Int)), some (.loc st.length), o3, o4, o5, o6, o7, o8, o9, o10, o11]) (st' := st ++ [.lst [.int a, .int b]]) (by simp -dsimp [evS, evE, evEs, e1]) ?_
  refine ss_nx (s_for (rng1_ok (m := 3) (by simp -dsimp [evE]) (rng_m (by omega))) e2) ?_
  simp -dsimp only [evSs]
theorem loop_ok (ns : List Int) {m : Nat} (hm : m ≤ 11) {o1 o2 o3 o4 o5 o6 o7 o8 o9 o10 o11 : Option D} : ∃ (o1' o2' o3' o4' o5' : Option D) (st' : Store), forL ⟨rng 0 m, []⟩ (.nm 1) (evSs Γ1 F_law_9_b1) (rng 0 m) [some (.rol (ns.map .int)), o1, o2, o3, o4, o5, o6, o7, o8, o9, o10, o11] st =
    .nx [some (.rol (ns.map .int)), o1', o2', o3', o4', o5', o6, o7, o8, o9, o10, o11] st' := by
  let I : Nat → Rho → Store → Prop := fun _ ρ _ => ∃ (o1 o2 o3 o4 o5 : Option D), ρ = [some (.rol (ns.map .int)), o1, o2, o3, o4, o5, o6, o7, o8, o9, o10, o11]
  obtain ⟨ρ', st', e, o1, o2, o3, o4, o5, rfl⟩ := forL_ok (t := .nm 1) (ys := rng 0 m) (f := evSs Γ1 F_law_9_b1) I (rng 0 m) 0 [some (.rol (ns.map .int)), o1, o2, o3, o4, o5, o6, o7, o8, o9, o10, o11] st ⟨_, _, _, _, _, rfl⟩ (fun j x hx ρ st1 hI => by
    obtain ⟨o1, o2, o3, o4, o5, rfl⟩ := hI
    obtain ⟨hj, rfl⟩ := rngT_get m 0 j x hx
    obtain ⟨p2, p3, p4, p5, st2, ev⟩ := body_ok (st := st1) (ns := ns) (k := j) (by omega) (o2 := o2) (o3 := o3) (o4 := o4) (o5 := o5) (o6 := o6) (o7 := o7) (o8 := o8) (o9 := o9) (o10 := o10) (o11 := o11)
    refine ⟨[some (.rol (ns.map .int)), some (.int (j : Int)), o2, o3, o4, o5, o6, o7, o8, o9, o10, o11], ?_, _, st2, ev, _, _, _, _, _, rfl⟩
    rw [Int.zero_add]
    rfl)
  exact ⟨o1, o2, o3, o4, o5, st', e⟩
/-! the windows at the end -/
def autoR : Rl := ⟨.auto, .auto, true, true, 0⟩
def keepR : Rl := ⟨.auto, .auto, true, false, 0⟩
def slowR : Rl := ⟨.auto, .auto, true, true, 5⟩
def wA1 : Win := ⟨autoR, .pic 1⟩
def wK1 : Win := ⟨keepR, .pic 1⟩
def wS1 : Win := ⟨slowR, .pic 1⟩
def wV1 : Win := ⟨slowR, .view autoR 0 (.pic 1)⟩
theorem good4 : wA1.Good ∧ wK1.Good ∧ wS1.Good ∧ wV1.Good := ⟨⟨by decide, by decide, by decide, by decide⟩, ⟨by decide, by decide, by decide, by decide⟩, ⟨by decide, by decide, by decide, by decide⟩, ⟨by decide, by decide, by decide, by decide⟩⟩
theorem lens4 : (fndP wA1).length = 16 ∧ (fndP wK1).length = 8 ∧ (fndP wV1).length = 31 := by decide +kernel
theorem none4 : ((fndP wS1).all fun v => !v.d.eqb wK1.d) = true := by decide +kernel
theorem ch4 {w : Win} (h : w.Good) : run P 99 167 [w.d] st = .ok (.lst ((chg w).map Win.d)) (st ++ [.dct ((fndP w).map kvW)]) := changes_ok (n := 86) h
theorem chl4 {w : Win} (k : Nat) (h : (fndP w).length = k) : evBlt .len [.lst ((chg w).map Win.d)] st = .ok (.int (k : Int)) st := by
  have e : ((chg w).map Win.d).length = k := by
    rw [List.length_map]
    unfold chg
    rw [sortW_len, h]
  rw [len_lst, e]
theorem chm4 : evIn wK1.d (.lst ((chg wS1).map Win.d)) st = some false := by
  have hp : Pls ((chg wS1).map Win.d) := okds_all.mpr fun d hd => by
    obtain ⟨v, hv, rfl⟩ := List.mem_map.mp hd
    exact (chg_good good4.2.2.1 v hv).pl
  rw [in_lst good4.2.1.pl hp]
  refine congrArg some (?_ : memb _ _ = false)
  unfold memb
  rw [List.any_map]
  refine List.any_eq_false.mpr fun v hv e => ?_
  have := List.all_eq_true.mp none4 v (sortW_mem hv)
  have e : v.d.eqb wK1.d = true := e
  rw [e] at this
  cases this
def autoD : D := .tup [.str s_auto, .str s_auto, .str s_side, .str s_drop, .int 0]
def keepD : D := .tup [.str s_auto, .str s_auto, .str s_side, .str s_keep, .int 0]
def slowD : D := .tup [.str s_auto, .str s_auto, .str s_side, .str s_drop, .int 5]
def picD : D := .tup [.str s_picture, .int 1]
theorem end_ds : wA1.d = .tup [autoD, picD] ∧ wK1.d = .tup [keepD, picD] ∧ wS1.d = .tup [slowD, picD] ∧ wV1.d = .tup [slowD, .tup [.str s_view, autoD, .str s_a, picD]] := ⟨rfl, rfl, rfl, rfl⟩
theorem main : ∀ ns : List Int, ns.length ≤ 63 → ∃ st, run P 100 171 [.rol (ns.map .int)] [] = .ok (.bl true) st := by
  intro ns hl
  obtain ⟨m, hm, em⟩ := min_11 ns 10
  obtain ⟨o1, o2, o3, o4, o5, st1, e1⟩ := loop_ok (st := []) ns hm (o1 := none) (o2 := none) (o3 := none) (o4 := none) (o5 := none) (o6 := none) (o7 := none) (o8 := none) (o9 := none) (o10 := none) (o11 := none)
  have l0 := len_script ns []
  have em : (1 : Int) + (if (10 : Int) < (ns.length : Int) then 10 else (ns.length : Int)) = (m : Int) := em
  obtain ⟨gA, gK, gS, gV⟩ := good4
  obtain ⟨lA, lK, lV⟩ := lens4
  obtain ⟨dA, dK, dS, dV⟩ := end_ds
  have cA := fun st : Store => ch4 (st := st) gA
  have cK := fun st : Store => ch4 (st := st) gK
  have cS := fun st : Store => ch4 (st := st) gS
  have cV := fun st : Store => ch4 (st := st) gV
  have nA := fun st : Store => chl4 (st := st) 16 lA
  have nK := fun st : Store => chl4 (st := st) 8 lK
  have nV := fun st : Store => chl4 (st := st) 31 lV
  have mS := fun st : Store => chm4 (st := st)
  rw [dA] at cA
  rw [dK] at cK mS
  rw [dS] at cS
  rw [dV] at cV
  generalize (chg wA1).map Win.d = RA at cA nA
  generalize (chg wK1).map Win.d = RK at cK nK
  generalize (chg wS1).map Win.d = RS at cS mS
  generalize (chg wV1).map Win.d = RV at cV nV
  generalize Cell.dct ((fndP wA1).map kvW) = CA at cA
  generalize Cell.dct ((fndP wK1).map kvW) = CK at cK
  generalize Cell.dct ((fndP wS1).map kvW) = CS at cS
  generalize Cell.dct ((fndP wV1).map kvW) = CV at cV
  refine ⟨st1 ++ [CA] ++ [CK] ++ [CS] ++ [CV], ?_⟩
  have k1 : ((16 : Nat) : Int) = 16 := rfl
  have k2 : ((8 : Nat) : Int) = 8 := rfl
  have k3 : ((31 : Nat) : Int) = 31 := rfl
  rw [k1] at nA
  rw [k2] at nK
  rw [k3] at nV
  have hb : evSs Γ1 F_law_9.body [some (.rol (ns.map .int)), none, none, none, none, none, none, none, none, none, none, none] [] = .ret (.bl true) (st1 ++ [CA] ++ [CK] ++ [CS] ++ [CV]) := by
    refine ss_nx (s_for (rng1_ok (m := m) (by simp -dsimp [evE, evEs, l0]; exact em) (rng_m hm)) e1) ?_
    refine ss_nx (ρ' := [some (.rol (ns.map .int)), o1, o2, o3, o4, o5, none, none, none, some autoD, some keepD, none]) (st' := st1) (by simp -dsimp [evS, evE, evEs, asgn, asgnL, SZ, autoD, keepD]) ?_
    refine ss_nx (ρ' := [some (.rol (ns.map .int)), o1, o2, o3, o4, o5, none, none, none, some autoD, some keepD, none]) (st' := st1 ++ [CA] ++ [CK]) ?_ ?_
    · unfold picD at cA cK
      generalize autoD = A at cA ⊢
      generalize keepD = K at cK ⊢
      simp -dsimp [evS, evSs, evE, evEs, SZ, cA, cK, nA, nK]
    refine ss_nx (ρ' := [some (.rol (ns.map .int)), o1, o2, o3, o4, o5, none, none, none, some autoD, some keepD, some slowD]) (st' := st1 ++ [CA] ++ [CK]) (by simp -dsimp [evS, evE, evEs, SZ, autoD, slowD, cut, HT.sIx, evBin]) ?_
    refine ss_nx (ρ' := [some (.rol (ns.map .int)), o1, o2, o3, o4, o5, none, none, none, some autoD, some keepD, some slowD]) (st' := st1 ++ [CA] ++ [CK] ++ [CS]) ?_ ?_
    · unfold picD at cS mS
      generalize slowD = S at cS ⊢
      generalize keepD = K at mS ⊢
      simp -dsimp [evS, evSs, evE, evEs, SZ, cS, mS]
    · refine ss_ret ?_
      unfold picD at cV
      generalize slowD = S at cV ⊢
      generalize autoD = A at cV ⊢
      simp -dsimp [evS, evSs, evE, evEs, SZ, cV, nV]
  have h0 := run_P (n := 99) (st := []) (ds := [.rol (ns.map .int)]) P_171 rfl
  rw [show start F_law_9 [.rol (ns.map .int)] = [some (.rol (ns.map .int)), none, none, none, none, none, none, none, none, none, none, none] from rfl, hb] at h0
  exact h0
end MP
end

section

end

section
set_option Elab.async false
set_option linter.all false
set_option maxRecDepth 100000
set_option maxHeartbeats 0
open PySem PySem.W PySem.Calls PyProof.Rows
theorem PySem.Challenge.cw_barsneeded_k09_single_changes_holds : PySem.Challenge.rw_barsneeded_k09_single_changes.Holds := by
  w_on; o_law
  refine HandSHeadRun.head_any (r := OpenLaw.row PySem.Challenge.rw_barsneeded_k09_single_changes) (q := view (OpenLaw.row PySem.Challenge.rw_barsneeded_k09_single_changes).prog [45]) (H := MP.hk MP.defs MP.globs) (ob := MP.ob MP.defs MP.globs) (M := 4000) (loose := MP.loose) (d := HandSHeadRun.topDef (OpenLaw.row PySem.Challenge.rw_barsneeded_k09_single_changes).prog 45) (kwd := []) (MP.ob_eq _ _)
    (by kernel_rfl) (fun s => by kernel_rfl) MP.runs (by kernel_rfl) (by kernel_rfl) (by kernel_rfl) (by rfl) (by first | assumption | decide +kernel) (by decide +kernel) ⟨rfl, rfl, rfl, rfl, rfl, by decide +kernel⟩ ?hw ?hc
  case hw => w_witness2
  case hc =>
    exact MP.law_walk (l := PySem.Challenge.rw_barsneeded_k09_single_changes) 100 171 _ rfl (by kernel_rfl) ⟨rfl, by decide, by decide⟩ rfl (by kernel_rfl) rfl MP.ck (by rw [MP.P_eq]; exact MP.main)
end
