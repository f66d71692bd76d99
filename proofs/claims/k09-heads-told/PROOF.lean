import PyProof.Rows.All
import Wide.All
import OpenK.AllK
import Wide.FinOn
import HandS.ForMost
import HandS.ForExc
import HandS.CallSlots
import HandS.Flow
import HandS.Style
import HandS.IsInst
import HandS.Steps
import HandS.Deep
import HandS.FStr
import HandS.StrMore
import HandS.ExcInit
import HandS.ExcField
import HandS.HeadHook1
import HandS.HeadHook2
import HandS.Property
import HandS.More
import HandS.Walk
import HandS.TupAny
import HandS.Star
import HandS.ClsMeth
import HandS.Zip
import HandS.HeadHook3
import HandS.HeadHook4
import HandS.Head0
import HandS.Head1
import HandS.Head2
import HandS.HeadEnd
import HandS.Lambda
import HandS.RaiseMore
import KE.KCallOwn
import HandS.Defaults
import PySem.Challenge.RW_soleinstances_k09_heads_told
set_option Elab.async false
set_option linter.all false
set_option maxRecDepth 100000
set_option maxHeartbeats 4000000
/-! A small interpreter over data: the values D, the compact text E and S, ev, ex, call. -/
namespace PF
open PySem L2
/-- a text: its signs -/
abbrev Tx := List Nat
def tx (s : Tx) : Str := ⟨s.toArray⟩
def unt (s : Str) : Tx := s.cps.toList
/-- data: what is never changed again; ref: a thing that lives in the store -/
inductive D where
  | non | bl (b : Bool) | int (i : Int) | str (s : Tx) | lst (xs : List D) | tup (xs : List D)
  | dct (kvs : List (Key × D)) | ins (c : Str) (fs : List (Str × D)) | ref (n : Nat) | ty (n : String) | scr (xs : List D)
inductive Cell where
  | lst (xs : List D) | dct (kvs : List (Key × D)) | ins (c : Str) (fs : List (Str × D))
abbrev Store := List Cell
/-- an error: its class, its attributes -/
structure Exn where
  c : Str
  fs : List (Str × D)
inductive O (α : Type) where
  | ok (a : α) (st : Store)
  | exc (x : Exn) (st : Store)
  | bad
def O.bind {α β : Type} : O α → (α → Store → O β) → O β
  | .ok a st, f => f a st
  | .exc x st, _ => .exc x st
  | .bad, _ => .bad
/-- no error may leave here -/
def O.nox {α : Type} : O α → O α
  | .exc _ _ => .bad
  | .ok a st => .ok a st
  | .bad => .bad
/-- an operation on values: it gives a value, or is stuck -/
def lift {α : Type} : Option α → Store → O α
  | some a, st => .ok a st
  | none, _ => .bad
section
variable {α β : Type} {a : α} {st : Store} {x : Exn} {f : α → Store → O β}
@[simp] theorem bind_ok : O.bind (.ok a st) f = f a st := rfl
@[simp] theorem bind_exc : O.bind (.exc x st) f = .exc x st := rfl
@[simp] theorem bind_bad : O.bind .bad f = .bad := rfl
@[simp] theorem nox_ok : O.nox (.ok a st) = .ok a st := rfl
@[simp] theorem nox_exc : O.nox (.exc x st : O α) = .bad := rfl
@[simp] theorem nox_bad : O.nox (.bad : O α) = .bad := rfl
@[simp] theorem lift_some : lift (some a) st = .ok a st := rfl
@[simp] theorem lift_none : lift (none : Option α) st = .bad := rfl
end
/-- a local name: not set, data, a list (dict) of the frame's own that grows -/
inductive Slot where
  | un | im (d : D) | ol (ds : List D) | od (kvs : List (Key × D)) | oi (c : Str) (fs : List (Str × D))
abbrev Env := List Slot
inductive BOp where
  | add | sub | mul | mod | fdiv | pow
  deriving DecidableEq
inductive COp where
  | eq | ne | lt | le | gt | ge | is | isnot | inn | notin
  deriving DecidableEq
/-- built-ins called by name -/
inductive BF where
  | len | max2 | min2 | int | str | list | tuple | all | any | isi | sum
  deriving DecidableEq
/-- methods of built-in types -/
inductive BM where
  | upper | lower | join | count | find | items | get | index
  deriving DecidableEq
/-- a type: built-in, or a class of the program -/
inductive TyN where
  | b (n : String) | o (c : Str)
  deriving DecidableEq
/-- what a built-in asks an own class: len(x), str(x), bool(x) by its __len__ -/
inductive OF where
  | len | str | bool
  deriving DecidableEq
def OF.name : OF → Str
  | .len => "__len__" | .str => "__str__" | .bool => "__len__"
/-- what a for walks: a value; zip(a, b); enumerate(a); range(..); d.items() of the dict in a slot -/
inductive SK where
  | any | zip | enm | rng | itm (s : Nat)
  deriving DecidableEq
/-- expressions and lists of them (nil, cons) -/
inductive E where
  | var (i : Nat) | bor (i : Nat) | cst (d : D) | glb (x : Str) (d : D)
  | nil | cons (a b : E) | con2 (k v r : E) | dsp (a : E)
  | bin (o : BOp) (a b : E) | neg (a : E)
  | cmp (o : COp) (a b : E) | chn (o p : COp) (a b c : E) | tcm (o : COp) (a b : E) | tch (o p : COp) (a b c : E)
  | and (a b : E) | or (a b : E) | not (a : E) | tst (a : E)
  | ite (c a b : E)
  | tup (a : E) | lst (a : E) | new (a : E)
  | idx (a b : E) | slc (a lo hi : E)
  | cb (f : BF) (a : E) | bm (m : BM) (o a : E)
  | call (f : Nat) (a : E) | callf (f : Nat) (a : E) | mthf (g : Nat) (c m : Str) (o a : E)
  | lc (j : Nat) (src c e : E) | lcr (j : Nat) (a c e : E) | lc2 (j : Nat) (src : E) (j1 : Nat) (src1 c e : E)
  | lct (is : List Nat) (k : SK) (s a c e : E)
  | fmt (a : E) | fst (a : E) | exf (c f : Str) (i : Nat)
  | fld (a : E) (f : Str) | ofl (i : Nat) (f : Str) | prp (g : Nat) (c f : Str) (a : E) | mth (g : Nat) (c m : Str) (o a : E)
  | mk (g : Nat) (c : Str) (n : Nat) (ks : List Str) (a k : E) | iso (c : Str) (tb : List (TyN × Bool)) (a : E) | ceq (o : COp) (g : Nat) (c : Str) (tb : List TyN) (a b : E) | tceq (o : COp) (g : Nat) (c : Str) (tb : List TyN) (a b : E)
  | star (a b : E) | mkx (g : Nat) (c : Str) (m : Nat) (a : E) | smc (g : Nat) (c m : Str) (a : E)
  | gti (g : Nat) (c : Str) (a b : E) | own1 (f : OF) (g : Nat) (c : Str) (a : E) | cno (n : Bool) (g : Nat) (c : Str) (a b : E) | tcno (n : Bool) (g : Nat) (c : Str) (a b : E)
  | dgx (d k : E) | dgt (d k x : E) | din (n : Bool) (k d : E) | tdin (n : Bool) (k d : E)
  | kct (x : Str) (d : D) | kdg (x : Str) (t : List (Tx × D)) (k : E) | kdi (n : Bool) (x : Str) (t : List (Tx × D)) (k : E)
/-- except c as (name of slot i): return h; cs: which classes are caught -/
structure Hd where
  cs : List (Str × Bool)
  c : Str
  i : Option Nat
  h : E
inductive S where
  | skip | seq (a b : S)
  | set (i : Nat) (e : E) | own (i : Nat) (e : E) | frz (i : Nat)
  | app (i : Nat) (e : E) | ext (i : Nat) (e : E)
  | aug (i : Nat) (o : BOp) (e : E)
  | put (o k e : E)
  | exp (e : E) | ret (e : E) | retn | retf (e : E) | reto (i : Nat)
  | ite (c : E) (a b : S)
  | for_ (j : Nat) (src : E) (b : S) | forr (j : Nat) (a : E) (b : S) | whl (c : E) (b : S)
  | brk | cnt
  | dput (i : Nat) (k e : E) | for2 (is : List Nat) (k : SK) (s a : E) (b : S)
  | sfl (i : Nat) (c f : Str) (e : E)
  | unp (is : List Nat) (e : E) | par (is : List Nat) (a : E) | rse (c : Str) (fs : List Str) (a : E) | tryas (b : S) (hs : List Hd)
/-! ### operations on data -/
def big : Int := 2 ^ 64
def mulOk (i j : Int) : Bool := (decide (-big < i) && decide (i < big)) || (decide (-big < j) && decide (j < big))
def line : Nat := 16777216
def binD : BOp → D → D → Option D
  | .add, .int i, .int j => some (.int (i + j))
  | .add, .str a, .str b => if a.length + b.length ≤ line then some (.str (a ++ b)) else none
  | .add, .lst a, .lst b => if a.length + b.length ≤ line then some (.lst (a ++ b)) else none
  | .add, .tup a, .tup b => if a.length + b.length ≤ line then some (.tup (a ++ b)) else none
  | .sub, .int i, .int j => some (.int (i - j))
  | .mul, .int i, .int j => if mulOk i j then some (.int (i * j)) else none
  | .mul, .str a, .int n => if 2 ≤ n ∧ 0 < a.length ∧ a.length * n.toNat ≤ line then some (.str (List.replicate n.toNat a).flatten) else none
  | .mod, .int i, .int j => if 0 < j then some (.int (i % j)) else none
  | .fdiv, .int i, .int j => if 0 < j ∧ j < 1073741824 then some (.int (i / j)) else none
  | .pow, .int i, .int j => if 0 ≤ j ∧ j ≤ 1000000 ∧ i.natAbs < 2 ^ 64 then some (.int (i ^ j.toNat)) else none
  | _, _, _ => none
/-! data that == goes over by itself -/
mutual
def D.py : D → Option PyData
  | .non => some .none
  | .bl b => some (.bool b)
  | .int i => some (.int i)
  | .str s => some (.str (tx s))
  | .lst xs => (pyAll xs).map .list
  | .tup xs => (pyAll xs).map .tuple
  | .dct _ => none
  | .ins _ _ => none
  | .ref _ => none
  | .ty _ => none
  | .scr xs => (pyAll xs).map .list
def pyAll : List D → Option (List PyData)
  | [] => some []
  | x :: xs => match D.py x, pyAll xs with
    | some p, some ps => some (p :: ps)
    | _, _ => none
end
def scalD : D → D → Option Bool
  | .non, .non => some true
  | .bl a, .bl b => some (a == b)
  | .int a, .int b => some (a == b)
  | .str a, .str b => some (a == b)
  | _, _ => none
/-- lists of unlike lengths -/
def lenNe : D → D → Bool
  | .lst xs, .lst ys => decide (xs.length ≠ ys.length)
  | .scr xs, .lst ys => decide (xs.length ≠ ys.length)
  | _, _ => false
def deq (x y : D) : Option Bool :=
  match scalD x y with
  | some b => some b
  | none => if lenNe x y then some false else match x.py, y.py with
    | some p, some q => if SeqAt.shaped p && SeqAt.shaped q then some (PyData.eqv p q) else none
    | _, _ => none
def isD : D → D → Option Bool
  | .non, .non => some true
  | .bl a, .bl b => some (a == b)
  | .non, _ => none
  | _, .non => some false
  | _, _ => none
/-- flat data as a value -/
def vf : D → V
  | .non => .non
  | .bl b => .bl b
  | .int i => .int i
  | .str s => .str (tx s)
  | .ty n => .ty n
  | _ => .non
def flatD : D → Bool
  | .non => true
  | .bl _ => true
  | .int _ => true
  | .str _ => true
  | _ => false
def inS (a b : Tx) : Bool := match a with
  | [c] => decide (c ∈ b)
  | _ => !(Builtin.Str.occurrences (tx b) (tx a) 0 (tx b).length 1).isEmpty
def inD (x y : D) : Option Bool :=
  match x, y with
  | .str a, .str b => some (inS a b)
  | x, .lst ys => match x.py, pyAll ys with
    | some p, some qs => if SeqAt.shaped p && SeqAt.shaped (.list qs) then some (qs.any fun q => PyData.eqv q p) else none
    | _, _ => none
  | x, .tup ys => if flatD x && ys.all flatD then some (inV (vf x) (ys.map vf)) else none
  | _, _ => none
def cmpD : COp → D → D → Option Bool
  | .eq, x, y => deq x y
  | .ne, x, y => (deq x y).map (!·)
  | .lt, .int i, .int j => some (decide (i < j))
  | .le, .int i, .int j => some (decide (i ≤ j))
  | .gt, .int i, .int j => some (decide (j < i))
  | .ge, .int i, .int j => some (decide (j ≤ i))
  | .is, x, y => isD x y
  | .isnot, x, y => (isD x y).map (!·)
  | .inn, x, y => inD x y
  | .notin, x, y => (inD x y).map (!·)
  | _, _, _ => none
def truthD : D → Option Bool
  | .non => some false
  | .bl b => some b
  | .int i => some (i != 0)
  | .str s => some !s.isEmpty
  | .lst xs => some !xs.isEmpty
  | .tup xs => some !xs.isEmpty
  | _ => none
/-- o[i]; a thing of the store is looked up -/
def idxD (st : Store) : D → D → Option D
  | .lst xs, .int i => atI xs i
  | .scr xs, .int i => atI xs i
  | .tup xs, .int i => atI xs i
  | .str s, .int i => (atI s i).map fun c => .str [c]
  | .ref n, .int i => match st[n]? with
    | some (.lst xs) => atI xs i
    | _ => none
  | _, _ => none
def cut {α : Type} (xs : List α) (lo hi : Option Int) : List α :=
  (xs.drop (HT.sIx xs.length 0 lo)).take (HT.sIx xs.length xs.length hi - HT.sIx xs.length 0 lo)
def slcD (x : D) (lo hi : Option Int) : Option D :=
  match x with
  | .lst xs => some (.lst (cut xs lo hi))
  | .tup xs => some (.tup (cut xs lo hi))
  | .str s => some (.str (cut s lo hi))
  | _ => none
def tyName : D → Option String
  | .non => some "NoneType"
  | .bl _ => some "bool"
  | .int _ => some "int"
  | .str _ => some "str"
  | .lst _ => some "list"
  | .tup _ => some "tuple"
  | .dct _ => some "dict"
  | _ => none
def boolsOf : List D → Option (List Bool)
  | [] => some []
  | .bl b :: r => (boolsOf r).map (b :: ·)
  | _ :: _ => none
def intsOf : List D → Option (List Int)
  | [] => some []
  | .int b :: r => (intsOf r).map (b :: ·)
  | _ :: _ => none
def textsOf : List D → Option (List Tx)
  | [] => some []
  | .str b :: r => (textsOf r).map (b :: ·)
  | _ :: _ => none
def joinT (a : Tx) : List Tx → Tx
  | [] => []
  | [x] => x
  | x :: y :: r => x ++ a ++ joinT a (y :: r)
/-- a key as data -/
def kD : Key → D
  | .inl i => .int i
  | .inr s => .str (unt s)
/-- keys that are short enough -/
def kShort (kvs : List (Key × D)) : Bool := decide (kvs.length ≤ line) && kvs.all fun kv => match kv.1 with
  | .inl _ => true
  | .inr s => decide ((unt s).length ≤ line)
def bfD (st : Store) : BF → List D → Option D
  | .len, [.str s] => some (.int s.length)
  | .len, [.lst xs] => some (.int xs.length)
  | .len, [.tup xs] => some (.int xs.length)
  | .len, [.scr xs] => some (.int xs.length)
  | .max2, [.int i, .int j] => some (.int (if j > i then j else i))
  | .min2, [.int i, .int j] => some (.int (if j < i then j else i))
  | .int, [.int i] => some (.int i)
  | .int, [.bl k] => some (.int (if k then 1 else 0))
  | .int, [.str s] => if s.length ≤ 640 then (PySem.intText? (tx s)).map .int else none
  | .str, [.str s] => some (.str s)
  | .str, [.int i] => if i.natAbs.log2 < 1920 ∧ (unt (toString i)).length ≤ line then some (.str (unt (toString i))) else none
  | .list, [.lst xs] => some (.lst xs)
  | .list, [.tup xs] => some (.lst xs)
  | .list, [.dct kvs] => if kShort kvs then some (.lst (kvs.map fun kv => kD kv.1)) else none
  | .tuple, [.lst xs] => some (.tup xs)
  | .tuple, [.tup xs] => some (.tup xs)
  | .all, [.lst xs] => (boolsOf xs).map fun bs => .bl (bs.all id)
  | .any, [.lst xs] => (boolsOf xs).map fun bs => .bl (bs.any id)
  | .sum, [.lst xs] => (intsOf xs).map fun ns => .int ns.sum
  | .isi, [x, .ty n] => (tyName x).bind fun m => (kitB m n).map .bl
  | _, _ => none
/-- the first place of an equal one -/
def indexD (y : D) (xs : List D) : Option Nat := if flatD y && xs.all flatD then (xs.map vf).findIdx? fun z => eqV z (vf y) else none
def bmD (st : Store) : BM → D → List D → Option D
  | .upper, .str s, [] => if s.length ≤ 5592405 then some (.str (unt (Txt.upper (tx s)))) else none
  | .lower, .str s, [] => if s.length ≤ 5592405 then some (.str (unt (Txt.lower (tx s)))) else none
  | .join, .str a, [.lst xs] => (textsOf xs).bind fun ys => if (ys.map (·.length)).sum + ys.length * a.length ≤ line then some (.str (joinT a ys)) else none
  | .count, .str a, [.str b] => some (.int (Txt.count (tx a) (tx b)))
  | .find, .str a, [.str b] => some (.int (Txt.find (tx a) (tx b)))
  | .find, .str a, [.str b, .int i] => some (.int (Txt.find3 (tx a) (tx b) i))
  | .index, .lst xs, [y] => (indexD y xs).map fun j => .int (j : Nat)
  | _, _, _ => none
def bmKind : BM → D → Bool
  | .items, _ => false
  | .get, _ => false
  | .index, .lst _ => true
  | .index, _ => false
  | _, .str _ => true
  | _, _ => false
/-- a part of an f-text -/
def fmtD : D → Option D
  | .str s => some (.str s)
  | .int i => if i.natAbs.log2 < 1920 ∧ (unt (toString i)).length ≤ line then some (.str (unt (toString i))) else none
  | _ => none
/-- the parts of an f-text, one after another -/
def addD : Tx → D → Option Tx
  | a, .str b => if a.length + b.length ≤ line then some (a ++ b) else none
  | _, _ => none
/-- what a for walks -/
def itemsD (x : D) : Option (List D) :=
  match x with
  | .lst xs => some xs
  | .tup xs => some xs
  | .str s => some (s.map fun c => .str [c])
  | _ => none
def rangeD (args : List D) : Option (List D) :=
  match args with
  | [.int n] => if -(2 ^ 62) ≤ n ∧ n < 2 ^ 62 then some ((List.range n.toNat).map fun (k : Nat) => .int (0 + (k : Int))) else none
  | [.int a, .int b] => if -(2 ^ 62) ≤ a ∧ a < 2 ^ 62 ∧ -(2 ^ 62) ≤ b ∧ b < 2 ^ 62 then some ((List.range (b - a).toNat).map fun (k : Nat) => .int (a + (k : Int))) else none
  | _ => none
def zipD : D → D → Option (List D)
  | .lst xs, .lst ys => some (List.zipWith (fun x y => .tup [x, y]) xs ys)
  | .tup xs, .tup ys => some (List.zipWith (fun x y => .tup [x, y]) xs ys)
  | _, _ => none
def enmD : D → Option (List D)
  | .lst xs => some (xs.zipIdx.map fun p => .tup [.int (p.2 : Nat), p.1])
  | _ => none
def srcD : SK → List D → Option (List D)
  | .zip, [x, y] => zipD x y
  | .enm, [x] => enmD x
  | .rng, as => (rangeD as).bind fun xs => if line < xs.length then none else some xs
  | _, _ => none
def keyD : D → Option Key
  | .int i => some (.inl i)
  | .str s => some (.inr (tx s))
  | _ => none
def dctD : D → Option (List (Key × D))
  | .dct kvs => some kvs
  | _ => none
/-- the value at a key, or none -/
def lookK (kvs : List (Key × D)) (k : Key) : Option D := (kvs.find? fun kv => decide (kv.1 = k)).map (·.2)
def dgetD : D → D → Option (Option D)
  | .dct kvs, y => (keyD y).map fun k => lookK kvs k
  | _, _ => none
def keysD : List (D × D) → Option (List (Key × D))
  | [] => some []
  | (k, v) :: r => match keyD k, keysD r with
    | some k, some r => some ((k, v) :: r)
    | _, _ => none
/-- in its place, or at the end -/
def putD (kvs : List (Key × D)) (k : Key) (v : D) : List (Key × D) :=
  if (kvs.any fun kv => decide (kv.1 = k)) = true then kvs.map (fun kv => if kv.1 = k then (kv.1, v) else kv) else kvs ++ [(k, v)]
def mergeD (kvs more : List (Key × D)) : List (Key × D) := more.foldl (fun acc kv => putD acc kv.1 kv.2) kvs
def dspD (ps : List (D × D)) : Option D := if ps.length ≤ 15 then (keysD ps).map fun kvs => .dct (mergeD [] kvs) else none
/-! ### instances -/
def fldD (st : Store) : D → Str → Option D
  | .ins _ fs, f => fs.lookup f
  | .ref n, f => match st[n]? with
    | some (.ins _ fs) => fs.lookup f
    | _ => none
  | _, _ => none
/-- an instance of the class c that has no field of this name -/
def insD (st : Store) (c m : Str) : D → Bool
  | .ins c' fs => decide (c' = c) && (fs.lookup m).isNone
  | .ref n => match st[n]? with
    | some (.ins c' fs) => decide (c' = c) && (fs.lookup m).isNone
    | _ => false
  | _ => false
def insOf (c : Str) : D → Option D
  | .ins c' fs => if c' = c then some (.ins c' fs) else none
  | _ => none
/-- in its place, or at the end -/
def putFD (f : Str) (d : D) : List (Str × D) → List (Str × D)
  | [] => [(f, d)]
  | (g, x) :: r => if g = f then (g, d) :: r else (g, x) :: putFD f d r
def tyN (st : Store) : D → Option TyN
  | .ins c _ => some (.o c)
  | .ref n => match st[n]? with
    | some (.ins c _) => some (.o c)
    | some (.lst _) => some (.b "list")
    | _ => none
  | .non => some (.b "NoneType")
  | .bl _ => some (.b "bool")
  | .int _ => some (.b "int")
  | .str _ => some (.b "str")
  | .lst _ => some (.b "list")
  | .tup _ => some (.b "tuple")
  | .dct _ => some (.b "dict")
  | _ => none
def inTb (tb : List TyN) : Option TyN → Bool
  | some t => tb.contains t
  | none => false
def boolD : D → Option Bool
  | .bl b => some b
  | _ => none
def eqOp : COp → Option Bool
  | .eq => some false
  | .ne => some true
  | _ => none
def lstD : D → Option (List D)
  | .lst es => some es
  | _ => none
def strD : D → Option Tx
  | .str s => some s
  | _ => none
/-- the first m, the rest in a tuple -/
def packD (m : Nat) (xs : List D) : Option (List D) := if m ≤ xs.length ∧ xs.length - m ≤ line then some (xs.take m ++ [.tup (xs.drop m)]) else none
def itemsL : D → Option (List D)
  | .lst xs => some xs
  | .tup xs => some xs
  | _ => none
def ofD : OF → D → Option D
  | .len, .int n => if 0 ≤ n ∧ n < 2 ^ 62 then some (.int n) else none
  | .str, .str s => some (.str s)
  | .bool, .int n => if 0 ≤ n ∧ n < 2 ^ 62 then some (.bl (n != 0)) else none
  | _, _ => none
/-! ### the interpreter -/
abbrev Calls := Nat → List D → Store → O D
def slotD (ρ : Env) (i : Nat) : Option D := match ρ[i]? with
  | some (.im d) => some d
  | _ => none
/-- an operand: a list of the frame's own may be looked at -/
def borD (ρ : Env) (i : Nat) : Option D := match ρ[i]? with
  | some (.ol ds) => some (.lst ds)
  | _ => none
/-- .. a dict of the frame's own -/
def borK (ρ : Env) (i : Nat) : Option D := match ρ[i]? with
  | some (.od kvs) => some (.dct kvs)
  | _ => none
def oflD (ρ : Env) (i : Nat) (f : Str) : Option D := match ρ[i]? with
  | some (.oi _ fs) => fs.lookup f
  | _ => none
def opd (e : E) (r : Env → Store → O D) (ρ : Env) (st : Store) : O D :=
  match e with
  | .bor i => lift (borD ρ i) st
  | _ => r ρ st
def opdK (e : E) (r : Env → Store → O D) (ρ : Env) (st : Store) : O D :=
  match e with
  | .bor i => lift (borK ρ i) st
  | _ => r ρ st
def setS (ρ : Env) (i : Nat) (d : D) : Option Env := if i < ρ.length then some (ρ.set i (.im d)) else none
def unpS (ρ : Env) : List Nat → List D → Option Env
  | [], [] => some ρ
  | i :: is, d :: ds => (setS ρ i d).bind fun ρ => unpS ρ is ds
  | _, _ => none
def tupD : D → Option (List D)
  | .tup ds => some ds
  | _ => none
/-- a target: a name, or a tuple of names -/
def setT (ρ : Env) (is : List Nat) (x : D) : Option Env := match is with
  | [i] => setS ρ i x
  | is => (tupD x).bind (unpS ρ is)
def isItm : SK → Bool
  | .itm _ => true
  | _ => false
/-- a dict that is locked: no error may leave -/
def noxI {α : Type} (k : SK) (o : O α) : O α := match k with
  | .itm _ => o.nox
  | _ => o
/-- names that are not set -/
def wipE (ρ : Env) : List Nat → Env
  | [] => ρ
  | i :: is => (wipE ρ is).set i .un
/-- what is walked -/
def evS (es : Env → Store → O D) (ea : Env → Store → O (List D)) (k : SK) (ρ : Env) (st : Store) : O (List D) := match k with
  | .itm s => (lift (slotD ρ s) st).bind fun x st => (lift (dctD x) st).bind fun kvs st => if kShort kvs then .ok (kvs.map fun kv => .tup [kD kv.1, kv.2]) st else .bad
  | .any => (es ρ st).bind fun x st => lift (itemsD x) st
  | k => (ea ρ st).bind fun xs st => lift (srcD k xs) st
def mapO (f : D → Store → O (Option D)) : List D → Store → O (List D)
  | [], st => .ok [] st
  | x :: xs, st => (f x st).bind fun y st => (mapO f xs st).bind fun ys st => .ok (match y with | some y => y :: ys | none => ys) st
def mapO2 (f : D → Store → O (List D)) : List D → Store → O (List D)
  | [], st => .ok [] st
  | x :: xs, st => (f x st).bind fun ys st => (mapO2 f xs st).bind fun zs st => .ok (ys ++ zs) st
/-- a constant: flat data, a type -/
def okC : D → Bool
  | .non => true
  | .bl _ => true
  | .int _ => true
  | .str s => decide (s.length ≤ line)
  | .ty _ => true
  | _ => false
def partD : D → Option (Option Int)
  | .int i => some (some i)
  | _ => none
def isNil : E → Bool
  | .nil => true
  | _ => false
mutual
def ev (C : Calls) : E → Env → Store → O D
  | .var i, ρ, st => lift (slotD ρ i) st
  | .cst d, _, st => if okC d then .ok d st else .bad
  | .glb _ d, _, st => if okC d then .ok d st else .bad
  | .bin o a b, ρ, st => (opd a (ev C a) ρ st).bind fun x st => (opd b (ev C b) ρ st).bind fun y st => lift (binD o x y) st
  | .neg a, ρ, st => (ev C a ρ st).bind fun x st => lift (match x with | .int i => some (.int (-i)) | _ => none) st
  | .cmp o a b, ρ, st => (opd a (ev C a) ρ st).bind fun x st => (opd b (ev C b) ρ st).bind fun y st => lift ((cmpD o x y).map .bl) st
  | .chn o p a b c, ρ, st => (opd a (ev C a) ρ st).bind fun x st => (opd b (ev C b) ρ st).bind fun y st => (lift (cmpD o x y) st).bind fun k st =>
      if k then (opd c (ev C c) ρ st).bind fun z st => lift ((cmpD p y z).map .bl) st else .ok (.bl false) st
  | .and a b, ρ, st => (ev C a ρ st).bind fun x st => (lift (truthD x) st).bind fun k st => if k then ev C b ρ st else .ok x st
  | .or a b, ρ, st => (ev C a ρ st).bind fun x st => (lift (truthD x) st).bind fun k st => if k then .ok x st else ev C b ρ st
  | .not a, ρ, st => (opd a (ev C a) ρ st).bind fun x st => lift ((truthD x).map fun k => .bl !k) st
  | .ite c a b, ρ, st => (evT C c ρ st).bind fun k st => if k then ev C a ρ st else ev C b ρ st
  | .tup a, ρ, st => (evs C a ρ st).bind fun xs st => if xs.length ≤ line then .ok (.tup xs) st else .bad
  | .lst a, ρ, st => (evs C a ρ st).bind fun xs st => if xs.length ≤ line then .ok (.lst xs) st else .bad
  | .dsp a, ρ, st => (evp C a ρ st).bind fun ps st => lift (dspD ps) st
  | .new a, ρ, st => (evs C a ρ st).bind fun xs st => if xs.length ≤ line then .ok (.ref st.length) (st ++ [.lst xs]) else .bad
  | .idx a b, ρ, st => (opd a (ev C a) ρ st).bind fun x st => (ev C b ρ st).bind fun y st => lift (idxD st x y) st
  | .slc a lo hi, ρ, st => (opd a (ev C a) ρ st).bind fun x st =>
      (if isNil lo then .ok none st else (ev C lo ρ st).bind fun l st => lift (partD l) st).bind fun l st =>
      (if isNil hi then .ok none st else (ev C hi ρ st).bind fun h st => lift (partD h) st).bind fun h st => lift (slcD x l h) st
  | .cb f a, ρ, st => (evo C a ρ st).bind fun xs st => lift (bfD st f xs) st
  | .bm m o a, ρ, st => (ev C o ρ st).bind fun x st => if bmKind m x then (evo C a ρ st).bind fun xs st => lift (bmD st m x xs) st else .bad
  | .call f a, ρ, st => (evs C a ρ st).bind fun xs st => C f xs st
  | .callf f a, ρ, st => (evs C a ρ st).bind fun xs st => (C f xs st).bind fun d st => (lift (lstD d) st).bind fun ds st => .ok (.lst ds) st
  | .mthf g c m o a, ρ, st => (ev C o ρ st).bind fun x st => if insD st c m x then (evs C a ρ st).bind fun xs st => (C g (x :: xs) st).bind fun d st => (lift (lstD d) st).bind fun ds st => .ok (.lst ds) st else .bad
  | .fmt a, ρ, st => (ev C a ρ st).bind fun x st => lift (fmtD x) st
  | .fst a, ρ, st => (evj C a [] ρ st).bind fun s st => .ok (.str s) st
  | .fld a f, ρ, st => (ev C a ρ st).bind fun x st => lift (fldD st x f) st
  | .ofl i f, ρ, st => lift (oflD ρ i f) st
  | .prp g c f a, ρ, st => (ev C a ρ st).bind fun x st => if insD st c f x then (C g [x] st).nox else .bad
  | .mth g c m o a, ρ, st => (ev C o ρ st).bind fun x st => if insD st c m x then (evs C a ρ st).bind fun xs st => C g (x :: xs) st else .bad
  | .mk g c n ks a k, ρ, st => (evs C a ρ st).bind fun xs st => (evs C k ρ st).bind fun zs st => if xs.length = n ∧ zs.length = ks.length then (C g (xs ++ zs) st).bind fun d st => lift (insOf c d) st else .bad
  | .iso _ tb a, ρ, st => (opd a (ev C a) ρ st).bind fun x st => lift (((tyN st x).bind fun t => tb.lookup t).map .bl) st
  | .ceq o g c tb a b, ρ, st => (ev C a ρ st).bind fun x st => (ev C b ρ st).bind fun y st => if insD st c "__eq__" x && inTb tb (tyN st y) then (C g [x, y] st).nox.bind fun r st => lift ((boolD r).bind fun k => (eqOp o).map fun n => .bl (n != k)) st else .bad
  | .mkx g c m a, ρ, st => (evs C a ρ st).bind fun xs st => (lift (packD m xs) st).bind fun ys st => (C g ys st).bind fun d st => lift (insOf c d) st
  | .smc g _ _ a, ρ, st => (evs C a ρ st).bind fun xs st => C g xs st
  | .gti g c a b, ρ, st => (ev C a ρ st).bind fun x st => (ev C b ρ st).bind fun y st => if insD st c "__getitem__" x then C g [x, y] st else .bad
  | .own1 f g c a, ρ, st => (ev C a ρ st).bind fun x st => if insD st c f.name x then (C g [x] st).nox.bind fun r st => lift (ofD f r) st else .bad
  | .cno n g c a b, ρ, st => (ev C a ρ st).bind fun y st => (ev C b ρ st).bind fun x st => if insD st c "__contains__" x then (C g [x, y] st).nox.bind fun r st => lift ((boolD r).map fun k => .bl (n != k)) st else .bad
  | .dgx d k, ρ, st => (opdK d (ev C d) ρ st).bind fun x st => (ev C k ρ st).bind fun y st => lift ((dgetD x y).bind id) st
  | .dgt d k z, ρ, st => (opdK d (ev C d) ρ st).bind fun x st => (lift (dctD x) st).bind fun kvs st => (ev C k ρ st).bind fun y st => (if isNil z then .ok .non st else ev C z ρ st).bind fun w st => lift ((dgetD (.dct kvs) y).map fun o => o.getD w) st
  | .din n k d, ρ, st => (ev C k ρ st).bind fun y st => (opdK d (ev C d) ρ st).bind fun x st => lift ((dgetD x y).map fun o => .bl (n != o.isSome)) st
  | .kct _ d, _, st => .ok d st
  | .kdg _ t k, ρ, st => (ev C k ρ st).bind fun y st => lift ((strD y).bind fun s => t.lookup s) st
  | .kdi n _ t k, ρ, st => (ev C k ρ st).bind fun y st => lift ((strD y).map fun s => .bl (n != (t.lookup s).isSome)) st
  | .lc j src c e, ρ, st => (opd src (ev C src) ρ st).bind fun s st => (lift (itemsD s) st).bind fun xs st =>
      (mapO (fun x st => (if isNil c then .ok true st else (evT C c (ρ.set j (.im x)) st).nox).bind fun k st =>
        if k then (ev C e (ρ.set j (.im x)) st).nox.bind fun y st => .ok (some y) st else .ok none st) xs st).bind fun ys st => .ok (.lst ys) st
  | .lct is k s a c e, ρ, st => (evS (ev C s) (evs C a) k ρ st).bind fun xs st =>
      (noxI k (mapO (fun x st => (lift (setT (wipE ρ is) is x) st).bind fun ρ st => (if isNil c then .ok true st else (evT C c ρ st).nox).bind fun k st =>
        if k then (ev C e ρ st).nox.bind fun y st => .ok (some y) st else .ok none st) xs st)).bind fun ys st => .ok (.lst ys) st
  | .lcr j a c e, ρ, st => (evs C a ρ st).bind fun as st => (lift (rangeD as) st).bind fun xs st => if line < xs.length then .bad else
      (mapO (fun x st => (if isNil c then .ok true st else (evT C c (ρ.set j (.im x)) st).nox).bind fun k st =>
        if k then (ev C e (ρ.set j (.im x)) st).nox.bind fun y st => .ok (some y) st else .ok none st) xs st).bind fun ys st => .ok (.lst ys) st
  | .lc2 j src j1 src1 c e, ρ, st => (opd src (ev C src) ρ st).bind fun s st => (lift (itemsD s) st).bind fun xs st =>
      (mapO2 (fun x st => (ev C src1 ((ρ.set j1 .un).set j (.im x)) st).nox.bind fun s st => (lift (itemsD s) st).bind fun ys st =>
        mapO (fun y st => (if isNil c then .ok true st else (evT C c (((ρ.set j1 .un).set j (.im x)).set j1 (.im y)) st).nox).bind fun k st =>
          if k then (ev C e (((ρ.set j1 .un).set j (.im x)).set j1 (.im y)) st).nox.bind fun z st => .ok (some z) st else .ok none st) ys st) xs st).nox.bind fun zs st => if zs.length ≤ line then .ok (.lst zs) st else .bad
  | _, _, _ => .bad
/-- arguments -/
def evs (C : Calls) : E → Env → Store → O (List D)
  | .nil, _, st => .ok [] st
  | .cons a b, ρ, st => (ev C a ρ st).bind fun x st => (evs C b ρ st).bind fun xs st => .ok (x :: xs) st
  | .star a b, ρ, st => (opd a (ev C a) ρ st).bind fun x st => (lift (itemsL x) st).bind fun xs st => (evs C b ρ st).bind fun ys st => .ok (xs ++ ys) st
  | _, _, _ => .bad
/-- pairs -/
def evp (C : Calls) : E → Env → Store → O (List (D × D))
  | .nil, _, st => .ok [] st
  | .con2 k v r, ρ, st => (ev C k ρ st).bind fun x st => (ev C v ρ st).bind fun y st => (evp C r ρ st).bind fun ps st => .ok ((x, y) :: ps) st
  | _, _, _ => .bad
/-- arguments that are only looked at -/
def evo (C : Calls) : E → Env → Store → O (List D)
  | .nil, _, st => .ok [] st
  | .cons a b, ρ, st => (opd a (ev C a) ρ st).bind fun x st => (evo C b ρ st).bind fun xs st => .ok (x :: xs) st
  | _, _, _ => .bad
/-- the parts of an f-text -/
def evj (C : Calls) : E → Tx → Env → Store → O Tx
  | .nil, acc, _, st => .ok acc st
  | .cons a b, acc, ρ, st => (ev C a ρ st).bind fun x st => (lift (addD acc x) st).bind fun acc st => evj C b acc ρ st
  | _, _, _, _ => .bad
/-- tests -/
def evT (C : Calls) : E → Env → Store → O Bool
  | .and a b, ρ, st => (evT C a ρ st).bind fun k st => if k then evT C b ρ st else .ok false st
  | .or a b, ρ, st => (evT C a ρ st).bind fun k st => if k then .ok true st else evT C b ρ st
  | .not a, ρ, st => (evT C a ρ st).bind fun k st => .ok (!k) st
  | .tst a, ρ, st => (opd a (ev C a) ρ st).bind fun x st => lift (truthD x) st
  | .tcm o a b, ρ, st => (opd a (ev C a) ρ st).bind fun x st => (opd b (ev C b) ρ st).bind fun y st => lift (cmpD o x y) st
  | .tceq o g c tb a b, ρ, st => (ev C a ρ st).bind fun x st => (ev C b ρ st).bind fun y st => if insD st c "__eq__" x && inTb tb (tyN st y) then (C g [x, y] st).nox.bind fun r st => lift ((boolD r).bind fun k => (eqOp o).map fun n => n != k) st else .bad
  | .tcno n g c a b, ρ, st => (ev C a ρ st).bind fun y st => (ev C b ρ st).bind fun x st => if insD st c "__contains__" x then (C g [x, y] st).nox.bind fun r st => lift ((boolD r).map fun k => n != k) st else .bad
  | .tdin n k d, ρ, st => (ev C k ρ st).bind fun y st => (opdK d (ev C d) ρ st).bind fun x st => lift ((dgetD x y).map fun o => n != o.isSome) st
  | .tch o p a b c, ρ, st => (opd a (ev C a) ρ st).bind fun x st => (opd b (ev C b) ρ st).bind fun y st => (lift (cmpD o x y) st).bind fun k st =>
      if k then (opd c (ev C c) ρ st).bind fun z st => lift (cmpD p y z) st else .ok false st
  | _, _, _ => .bad
end
/-- in an except suite: what it returns -/
def isOp : COp → Bool
  | .is => true
  | .isnot => true
  | _ => false
mutual
def evH (k : Option Nat) (ee : Exn) : E → Env → Store → O D
  | .var i, ρ, st => lift (slotD ρ i) st
  | .cst d, _, st => if okC d then .ok d st else .bad
  | .exf c f i, _, st => lift (if k = some i ∧ ee.c = c then ee.fs.lookup f else none) st
  | .cmp o a b, ρ, st => if isOp o then (evH k ee a ρ st).bind fun x st => (evH k ee b ρ st).bind fun y st => lift ((cmpD o x y).map .bl) st else .bad
  | .tup a, ρ, st => (evHs k ee a ρ st).bind fun xs st => if xs.length ≤ line then .ok (.tup xs) st else .bad
  | .lst a, ρ, st => (evHs k ee a ρ st).bind fun xs st => if xs.length ≤ line then .ok (.lst xs) st else .bad
  | _, _, _ => .bad
def evHs (k : Option Nat) (ee : Exn) : E → Env → Store → O (List D)
  | .nil, _, st => .ok [] st
  | .cons a b, ρ, st => (evH k ee a ρ st).bind fun x st => (evHs k ee b ρ st).bind fun xs st => .ok (x :: xs) st
  | _, _, _ => .bad
end
/-! ### statements -/
inductive Fl where
  | next (ρ : Env) | ret (d : D) | brk (ρ : Env) | cnt (ρ : Env) | rse (x : Exn) (ρ : Env) | retf (ds : List D)
/-- an expression within a statement: its error is the statement's, with the names as they stand -/
def O.thn {α : Type} : O α → Env → (α → Store → O Fl) → O Fl
  | .ok a st, _, f => f a st
  | .exc x st, ρ, _ => .ok (.rse x ρ) st
  | .bad, _, _ => .bad
section
variable {α : Type} {a : α} {st : Store} {x : Exn} {ρ : Env} {f : α → Store → O Fl}
@[simp] theorem thn_ok : O.thn (.ok a st) ρ f = f a st := rfl
@[simp] theorem thn_exc : O.thn (.exc x st) ρ f = .ok (.rse x ρ) st := rfl
@[simp] theorem thn_bad : O.thn .bad ρ f = .bad := rfl
end
/-- the next statement, if the first one ends by itself -/
def seqK : O Fl → (Env → Store → O Fl) → O Fl
  | .ok (.next ρ) st, k => k ρ st
  | .ok (.ret d) st, _ => .ok (.ret d) st
  | .ok (.brk ρ) st, _ => .ok (.brk ρ) st
  | .ok (.cnt ρ) st, _ => .ok (.cnt ρ) st
  | .ok (.rse x ρ) st, _ => .ok (.rse x ρ) st
  | .ok (.retf ds) st, _ => .ok (.retf ds) st
  | .exc x st, _ => .exc x st
  | .bad, _ => .bad
section
variable {st : Store} {x : Exn} {ρ : Env} {d : D} {k : Env → Store → O Fl}
@[simp] theorem seqK_next : seqK (.ok (.next ρ) st) k = k ρ st := rfl
@[simp] theorem seqK_ret : seqK (.ok (.ret d) st) k = .ok (.ret d) st := rfl
@[simp] theorem seqK_brk : seqK (.ok (.brk ρ) st) k = .ok (.brk ρ) st := rfl
@[simp] theorem seqK_cnt : seqK (.ok (.cnt ρ) st) k = .ok (.cnt ρ) st := rfl
@[simp] theorem seqK_rse : seqK (.ok (.rse x ρ) st) k = .ok (.rse x ρ) st := rfl
@[simp] theorem seqK_retf {ds : List D} : seqK (.ok (.retf ds) st) k = .ok (.retf ds) st := rfl
@[simp] theorem seqK_bad : seqK .bad k = .bad := rfl
end
/-- what a call gives of its body's end; fr: a new list, the caller's own -/
def finK (fr : Bool) : O Fl → O D
  | .ok (.ret d) st => if fr then .bad else .ok d st
  | .ok (.next _) st => if fr then .bad else .ok .non st
  | .ok (.retf ds) st => if fr then .ok (.lst ds) st else .bad
  | .ok (.rse x _) st => .exc x st
  | .ok (.brk _) _ => .bad
  | .ok (.cnt _) _ => .bad
  | .exc _ _ => .bad
  | .bad => .bad
section
variable {st : Store} {x : Exn} {ρ : Env} {d : D} {fr : Bool} {ds : List D}
@[simp] theorem finK_ret : finK false (.ok (.ret d) st) = .ok d st := rfl
@[simp] theorem finK_next : finK false (.ok (.next ρ) st) = .ok .non st := rfl
@[simp] theorem finK_retf : finK true (.ok (.retf ds) st) = .ok (.lst ds) st := rfl
@[simp] theorem finK_rse : finK fr (.ok (.rse x ρ) st) = .exc x st := rfl
@[simp] theorem finK_bad : finK fr .bad = .bad := rfl
end
def forO (f : D → Env → Store → O Fl) : List D → Env → Store → O Fl
  | [], ρ, st => .ok (.next ρ) st
  | x :: xs, ρ, st => (f x ρ st).bind fun fl st => match fl with
    | .next ρ => forO f xs ρ st
    | .cnt ρ => forO f xs ρ st
    | .brk ρ => .ok (.next ρ) st
    | fl => .ok fl st
/-- no error may leave here -/
def noR : O Fl → O Fl
  | .ok (.rse _ _) _ => .bad
  | o => o
def whlO (c : Env → Store → O Bool) (f : Env → Store → O Fl) : Nat → Env → Store → O Fl
  | 0, _, _ => .bad
  | n + 1, ρ, st => (c ρ st).thn ρ fun k st => if k then (f ρ st).bind fun fl st => match fl with
      | .next ρ => whlO c f n ρ st
      | .cnt ρ => whlO c f n ρ st
      | .brk ρ => .ok (.next ρ) st
      | fl => .ok fl st
    else .ok (.next ρ) st
/-- expressions that make a list of their own -/
def fresh : E → Bool
  | .lst _ => true
  | .lc .. => true
  | .lcr .. => true
  | .lct .. => true
  | .lc2 .. => true
  | .callf .. => true
  | .mthf .. => true
  | _ => false
/-- expressions that make a dict of their own -/
def freshK : E → Bool
  | .dsp _ => true
  | _ => false
def ownK (ρ : Env) (i : Nat) : D → Option Env
  | .dct kvs => if i < ρ.length then some (ρ.set i (.od kvs)) else none
  | _ => none
def odS (ρ : Env) (i : Nat) : Option (List (Key × D)) := match ρ[i]? with
  | some (.od kvs) => some kvs
  | _ => none
def ownS (ρ : Env) (i : Nat) : D → Option Env
  | .lst ds => if i < ρ.length then some (ρ.set i (.ol ds)) else none
  | _ => none
def frzS (ρ : Env) (i : Nat) : Option Env := match ρ[i]? with
  | some (.ol ds) => some (ρ.set i (.im (.lst ds)))
  | some (.od kvs) => some (ρ.set i (.im (.dct kvs)))
  | some (.im _) => some ρ
  | _ => none
def olS (ρ : Env) (i : Nat) : Option (List D) := match ρ[i]? with
  | some (.ol ds) => some ds
  | _ => none
def augD : BOp → D → D → Option D
  | .add, .int i, .int j => some (.int (i + j))
  | .sub, .int i, .int j => some (.int (i - j))
  | _, _, _ => none
def putS (st : Store) : D → D → D → Option Store
  | .ref n, .int i, d => match st[n]? with
    | some (.lst xs) => (ixN xs.length i).map fun j => st.set n (.lst (xs.set j d))
    | _ => none
  | _, _, _ => none
def sflS (ρ : Env) (i : Nat) (c f : Str) (d : D) : Option Env := match ρ[i]? with
  | some (.oi c' fs) => if fs.length < 900 ∧ c' = c then some (ρ.set i (.oi c (putFD f d fs))) else none
  | _ => none
/-- the suite of an except clause -/
def suiteO (hd : Hd) (x : Exn) (ρ : Env) (st : Store) : O Fl := match hd.i with
  | none => (evH none x hd.h ρ st).nox.bind fun d st => .ok (.ret d) st
  | some i => if i < ρ.length then (evH (some i) x hd.h (ρ.set i .un) st).nox.bind fun d st => .ok (.ret d) st else .bad
def catchO : List Hd → Exn → Env → Store → O Fl
  | [], x, ρ, st => .ok (.rse x ρ) st
  | hd :: r, x, ρ, st => match hd.cs.lookup x.c with
    | some true => suiteO hd x ρ st
    | some false => catchO r x ρ st
    | none => .bad
/-- statements; W: the most turns of a while -/
def ex (C : Calls) (W : Nat) : S → Env → Store → O Fl
  | .skip, ρ, st => .ok (.next ρ) st
  | .seq a b, ρ, st => (ex C W a ρ st).bind fun fl st => match fl with
    | .next ρ => ex C W b ρ st
    | fl => .ok fl st
  | .set i e, ρ, st => (ev C e ρ st).thn ρ fun d st => (lift (setS ρ i d) st).bind fun ρ st => .ok (.next ρ) st
  | .own i e, ρ, st => if fresh e then (ev C e ρ st).thn ρ fun d st => (lift (ownS ρ i d) st).bind fun ρ st => .ok (.next ρ) st else if freshK e then (ev C e ρ st).thn ρ fun d st => (lift (ownK ρ i d) st).bind fun ρ st => .ok (.next ρ) st else .bad
  | .frz i, ρ, st => (lift (frzS ρ i) st).bind fun ρ st => .ok (.next ρ) st
  | .app i e, ρ, st => (lift (olS ρ i) st).bind fun ds st => (ev C e ρ st).thn ρ fun d st => if ds.length < line then .ok (.next (ρ.set i (.ol (ds ++ [d])))) st else .bad
  | .ext i e, ρ, st => (lift (olS ρ i) st).bind fun ds st => (ev C e ρ st).thn ρ fun d st => (lift (lstD d) st).bind fun es st => if ds.length + es.length ≤ line then .ok (.next (ρ.set i (.ol (ds ++ es)))) st else .bad
  | .aug i o e, ρ, st => (lift (slotD ρ i) st).bind fun x st => (ev C e ρ st).thn ρ fun d st => (lift (augD o x d) st).bind fun z st => (lift (setS ρ i z) st).bind fun ρ st => .ok (.next ρ) st
  | .put o k e, ρ, st => (ev C e ρ st).thn ρ fun d st => (ev C o ρ st).thn ρ fun x st => (ev C k ρ st).thn ρ fun y st => match putS st x y d with
    | some st => .ok (.next ρ) st
    | none => .bad
  | .exp e, ρ, st => (ev C e ρ st).thn ρ fun _ st => .ok (.next ρ) st
  | .ret e, ρ, st => (ev C e ρ st).thn ρ fun d st => .ok (.ret d) st
  | .retn, _, st => .ok (.ret .non) st
  | .retf e, ρ, st => if fresh e then (ev C e ρ st).thn ρ fun d st => (lift (lstD d) st).bind fun ds st => .ok (.retf ds) st else .bad
  | .reto i, ρ, st => (lift (olS ρ i) st).bind fun ds st => .ok (.retf ds) st
  | .ite c a b, ρ, st => (evT C c ρ st).thn ρ fun k st => if k then ex C W a ρ st else ex C W b ρ st
  | .for_ j src b, ρ, st => (ev C src ρ st).thn ρ fun s st => (lift (itemsD s) st).bind fun xs st =>
      forO (fun x ρ st => (lift (setS ρ j x) st).bind fun ρ st => ex C W b ρ st) xs ρ st
  | .dput i k e, ρ, st => (lift (odS ρ i) st).bind fun kvs st => (ev C e ρ st).thn ρ fun d st => (ev C k ρ st).thn ρ fun y st => (lift (keyD y) st).bind fun k st => if kvs.length < line then .ok (.next (ρ.set i (.od (putD kvs k d)))) st else .bad
  | .for2 is k s a b, ρ, st => (evS (ev C s) (evs C a) k ρ st).thn ρ fun xs st => (if isItm k then noR else id)
      (forO (fun x ρ st => (lift (setT ρ is x) st).bind fun ρ st => ex C W b ρ st) xs ρ st)
  | .forr j a b, ρ, st => (evs C a ρ st).thn ρ fun as st => (lift (rangeD as) st).bind fun xs st =>
      forO (fun x ρ st => (lift (setS ρ j x) st).bind fun ρ st => ex C W b ρ st) xs ρ st
  | .whl c b, ρ, st => whlO (evT C c) (ex C W b) W ρ st
  | .sfl i c f e, ρ, st => (ev C e ρ st).thn ρ fun d st => (lift (sflS ρ i c f d) st).bind fun ρ st => .ok (.next ρ) st
  | .unp is e, ρ, st => (ev C e ρ st).thn ρ fun d st => (lift (tupD d) st).bind fun ds st => (lift (unpS ρ is ds) st).bind fun ρ st => .ok (.next ρ) st
  | .par is a, ρ, st => if is.length = 2 ∨ is.length = 3 then (evs C a ρ st).thn ρ fun ds st => (lift (unpS ρ is ds) st).bind fun ρ st => .ok (.next ρ) st else .bad
  | .rse c fs a, ρ, st => (evs C a ρ st).thn ρ fun xs st => if xs.length = fs.length ∧ fs ≠ [] ∧ fs.length ≤ 1000 then .ok (.rse ⟨c, (fs.zip xs).reverse⟩ ρ) st else .bad
  | .tryas b hs, ρ, st => (ex C W b ρ st).bind fun fl st => match fl with
    | .rse x ρ => catchO hs x ρ st
    | fl => .ok fl st
  | .brk, ρ, st => .ok (.brk ρ) st
  | .cnt, ρ, st => .ok (.cnt ρ) st
/-- a def: how many parameters, how many names, its body; ini: the __init__ of a class, which gives the new instance -/
structure Fn where
  ar : Nat
  nm : Nat
  body : S
  ini : Option Str := none
  fr : Bool := false
/-- the end of an __init__: the instance -/
def iniK (c : Str) : O Fl → O D
  | .ok (.next (.oi c' fs :: _)) st => if c' = c then .ok (.ins c fs) st else .bad
  | .ok (.rse x _) st => .exc x st
  | _ => .bad
def runF (C : Calls) (W : Nat) (f : Fn) (args : List D) (st : Store) : O D :=
  if args.length = f.ar ∧ f.ar ≤ f.nm then
    match f.ini with
    | none => finK f.fr (ex C W f.body (args.map .im ++ List.replicate (f.nm - f.ar) .un) st)
    | some c => iniK c (ex C W f.body (.oi c [] :: (args.map .im ++ List.replicate (f.nm - f.ar) .un)) st)
  else .bad
/-- the call of a def, at most n calls deep -/
def call (T : List Fn) (W : Nat) : Nat → Calls
  | 0 => fun _ _ _ => .bad
  | n + 1 => fun f args st => match T[f]? with
    | some fn => runF (call T W n) W fn args st
    | none => .bad
end PF
/-! Data upon the abstract heap: Rep, Wf (the store), Fm (what a run may change), Sig (the names). -/
namespace PF
open PySem L2
/-- what an instance's class must have -/
structure ClsI (K : PySem.W.Frag) (c : Str) : Prop where
  cl : Cls K (He.ga K c)
  ha : PySem.W.findIn K (.ref (He.ga K c)) "__class__" = some (some (.builtin "object.__class__"))
  hn : PySem.W.specialIn K (.builtin "object.__class__") "__get__" = some (some (.builtin "getset_descriptor.__get__"))
  htk : PySem.W.takesIn K (.builtin "object.__class__") = some true
  hm : PySem.W.mroIn K (He.ga K c) (.type "object") = some true
theorem _root_.L2.Rd.same {H H' : Hp} {a : Addr} {u : HO} (h : Rd H a u) (e : Same H H') : Rd H' a u := by
  rcases h with h | ⟨o, h⟩
  · exact .inl (e _ _ h)
  · exact .inr ⟨o, e _ _ h⟩
/-! ### a value bears data -/
mutual
inductive Rep (K : PySem.W.Frag) (am : List Addr) (H : Hp) : V → D → Prop
  | non : Rep K am H .non .non
  | bl (b : Bool) : Rep K am H (.bl b) (.bl b)
  | int (i : Int) : Rep K am H (.int i) (.int i)
  | str (s : Tx) : s.length ≤ line → Rep K am H (.str (tx s)) (.str s)
  | lst {a : Addr} {vs : List V} {ds : List D} : ds.length ≤ line → H a = some (.lst vs) → RepL K am H vs ds → Rep K am H (.ref a) (.lst ds)
  | tup {a : Addr} {vs : List V} {ds : List D} : ds.length ≤ line → SqT K H a vs → RepL K am H vs ds → Rep K am H (.ref a) (.tup ds)
  | ref {a : Addr} {n : Nat} : am[n]? = some a → Rep K am H (.ref a) (.ref n)
  | ty (n : String) : Rep K am H (.ty n) (.ty n)
  | scr {a : Addr} {vs : List V} {ds : List D} : ds.length ≤ line → SqL K H a vs → RepL K am H vs ds → Rep K am H (.ref a) (.scr ds)
  | dct {a : Addr} {kvs : List (Key × V)} {ds : List (Key × D)} : Rd H a (.dK kvs) → RepK K am H kvs ds → Rep K am H (.ref a) (.dct ds)
  | ins {a dx : Addr} {c : Str} {fs : List (Str × V)} {ds : List (Str × D)} : ClsI K c → (∀ f ∈ ds.map (·.1), NoAttr K (He.ga K c) f) → H a = some (.ins (He.ga K c) dx fs) → fs.map (·.1) = ds.map (·.1) → RepL K am H (fs.map (·.2)) (ds.map (·.2)) → Rep K am H (.ref a) (.ins c ds)
inductive RepK (K : PySem.W.Frag) (am : List Addr) (H : Hp) : List (Key × V) → List (Key × D) → Prop
  | nil : RepK K am H [] []
  | cons {k : Key} {v : V} {d : D} {vs : List (Key × V)} {ds : List (Key × D)} : Rep K am H v d → RepK K am H vs ds → RepK K am H ((k, v) :: vs) ((k, d) :: ds)
inductive RepL (K : PySem.W.Frag) (am : List Addr) (H : Hp) : List V → List D → Prop
  | nil : RepL K am H [] []
  | cons {v : V} {d : D} {vs : List V} {ds : List D} : Rep K am H v d → RepL K am H vs ds → RepL K am H (v :: vs) (d :: ds)
end
theorem Same.seqT {K : PySem.W.Frag} {H H' : Hp} {a : Addr} {xs : List V} (e : Same H H') (h : SqT K H a xs) : SqT K H' a xs := by
  rcases h with (h | ⟨o, h⟩) | h
  · exact .inl (.inl (e _ _ h))
  · exact .inl (.inr ⟨o, e _ _ h⟩)
  · exact .inr h
def Pre (am am' : List Addr) : Prop := ∃ more, am' = am ++ more
theorem Pre.refl (am : List Addr) : Pre am am := ⟨[], by simp⟩
theorem Pre.trans {a b c : List Addr} (h : Pre a b) (k : Pre b c) : Pre a c := by
  obtain ⟨m, rfl⟩ := h
  obtain ⟨n, rfl⟩ := k
  exact ⟨m ++ n, by simp⟩
theorem Pre.get {am am' : List Addr} (h : Pre am am') {n : Nat} {a : Addr} (e : am[n]? = some a) : am'[n]? = some a := by
  obtain ⟨m, rfl⟩ := h
  have hl : n < am.length := (List.getElem?_eq_some_iff.mp e).1
  rw [List.getElem?_append_left hl]
  exact e
theorem Pre.mem {am am' : List Addr} (h : Pre am am') {a : Addr} (e : a ∈ am) : a ∈ am' := by
  obtain ⟨m, rfl⟩ := h
  exact List.mem_append_left _ e
section
variable {K : PySem.W.Frag} {am am' : List Addr} {H H' : Hp}
mutual
theorem Rep.mono (hp : Pre am am') (e : Same H H') : ∀ {v : V} {d : D}, Rep K am H v d → Rep K am' H' v d
  | _, _, .non => .non
  | _, _, .bl b => .bl b
  | _, _, .int i => .int i
  | _, _, .str s h => .str s h
  | _, _, .lst z h r => .lst z (e _ _ h) (RepL.mono hp e r)
  | _, _, .tup z h r => .tup z (Same.seqT e h) (RepL.mono hp e r)
  | _, _, .ref h => .ref (hp.get h)
  | _, _, .ty n => .ty n
  | _, _, .scr z h r => .scr z (e.seq h) (RepL.mono hp e r)
  | _, _, .dct h r => .dct (h.same e) (RepK.mono hp e r)
  | _, _, .ins ci na h hn r => .ins ci na (e _ _ h) hn (RepL.mono hp e r)
theorem RepK.mono (hp : Pre am am') (e : Same H H') : ∀ {vs : List (Key × V)} {ds : List (Key × D)}, RepK K am H vs ds → RepK K am' H' vs ds
  | _, _, .nil => .nil
  | _, _, .cons h r => .cons (Rep.mono hp e h) (RepK.mono hp e r)
theorem RepL.mono (hp : Pre am am') (e : Same H H') : ∀ {vs : List V} {ds : List D}, RepL K am H vs ds → RepL K am' H' vs ds
  | _, _, .nil => .nil
  | _, _, .cons h r => .cons (Rep.mono hp e h) (RepL.mono hp e r)
end
theorem RepL.length : ∀ {vs : List V} {ds : List D}, RepL K am H vs ds → vs.length = ds.length
  | _, _, .nil => rfl
  | _, _, .cons _ r => by rw [List.length_cons, List.length_cons, RepL.length r]
theorem RepL.get : ∀ {vs : List V} {ds : List D} {i : Nat} {d : D}, RepL K am H vs ds → ds[i]? = some d → ∃ v, vs[i]? = some v ∧ Rep K am H v d
  | _, _, _, _, .nil, e => by simp at e
  | _, _, 0, _, .cons h _, e => by simp at e; subst e; exact ⟨_, rfl, h⟩
  | _, _, i + 1, d, .cons _ r, e => by
    obtain ⟨v, h1, h2⟩ := RepL.get (i := i) (d := d) r (by simpa using e)
    exact ⟨v, by simpa using h1, h2⟩
theorem RepL.getV : ∀ {vs : List V} {ds : List D} {i : Nat} {v : V}, RepL K am H vs ds → vs[i]? = some v → ∃ d, ds[i]? = some d ∧ Rep K am H v d
  | _, _, _, _, .nil, e => by simp at e
  | _, _, 0, _, .cons h _, e => by simp at e; subst e; exact ⟨_, rfl, h⟩
  | _, _, i + 1, v, .cons _ r, e => by
    obtain ⟨d, h1, h2⟩ := RepL.getV (i := i) (v := v) r (by simpa using e)
    exact ⟨d, by simpa using h1, h2⟩
theorem RepL.append : ∀ {vs ws : List V} {ds es : List D}, RepL K am H vs ds → RepL K am H ws es → RepL K am H (vs ++ ws) (ds ++ es)
  | _, _, _, _, .nil, s => s
  | _, _, _, _, .cons h r, s => .cons h (RepL.append r s)
theorem RepL.take : ∀ {vs : List V} {ds : List D} (n : Nat), RepL K am H vs ds → RepL K am H (vs.take n) (ds.take n)
  | _, _, 0, _ => .nil
  | _, _, _ + 1, .nil => .nil
  | _, _, n + 1, .cons h r => .cons h (RepL.take n r)
theorem RepL.drop : ∀ {vs : List V} {ds : List D} (n : Nat), RepL K am H vs ds → RepL K am H (vs.drop n) (ds.drop n)
  | _, _, 0, r => r
  | _, _, _ + 1, .nil => .nil
  | _, _, n + 1, .cons _ r => RepL.drop n r
theorem RepL.set {v : V} {d : D} (h : Rep K am H v d) : ∀ {vs : List V} {ds : List D} (i : Nat), RepL K am H vs ds → RepL K am H (vs.set i v) (ds.set i d)
  | _, _, _, .nil => .nil
  | _, _, 0, .cons _ t => .cons h t
  | _, _, i + 1, .cons q t => .cons q (RepL.set h i t)
theorem RepK.any {k : Key} : ∀ {vs : List (Key × V)} {ds : List (Key × D)}, RepK K am H vs ds → (vs.any fun kv => decide (kv.1 = k)) = (ds.any fun kv => decide (kv.1 = k))
  | _, _, .nil => rfl
  | _, _, .cons _ r => by rw [List.any_cons, List.any_cons, RepK.any r]
theorem RepK.map {k : Key} {v : V} {d : D} (h : Rep K am H v d) : ∀ {vs : List (Key × V)} {ds : List (Key × D)}, RepK K am H vs ds → RepK K am H (vs.map fun kv => if kv.1 = k then (kv.1, v) else kv) (ds.map fun kv => if kv.1 = k then (kv.1, d) else kv)
  | _, _, .nil => .nil
  | _, _, .cons (k := k') q r => by
    rw [List.map_cons, List.map_cons]
    by_cases e : k' = k
    · rw [if_pos e, if_pos e]
      exact .cons h (RepK.map h r)
    · rw [if_neg e, if_neg e]
      exact .cons q (RepK.map h r)
theorem RepK.app {k : Key} {v : V} {d : D} (h : Rep K am H v d) : ∀ {vs : List (Key × V)} {ds : List (Key × D)}, RepK K am H vs ds → RepK K am H (vs ++ [(k, v)]) (ds ++ [(k, d)])
  | _, _, .nil => .cons h .nil
  | _, _, .cons q r => .cons q (RepK.app h r)
theorem RepK.put {k : Key} {v : V} {d : D} (h : Rep K am H v d) {vs : List (Key × V)} {ds : List (Key × D)} (r : RepK K am H vs ds) : RepK K am H (putK vs k v) (putD ds k d) := by
  unfold putK putD
  rw [r.any]
  split
  · exact r.map h
  · exact r.app h
theorem RepK.merge : ∀ {ms : List (Key × V)} {es : List (Key × D)} {vs : List (Key × V)} {ds : List (Key × D)}, RepK K am H ms es → RepK K am H vs ds → RepK K am H (mergeK vs ms) (mergeD ds es)
  | _, _, _, _, .nil, r => r
  | _, _, vs, ds, .cons (k := k) (v := v) (d := d) h t, r => by
    have ih := RepK.merge (vs := putK vs k v) (ds := putD ds k d) t (r.put h)
    exact ih
theorem RepL.reverse : ∀ {vs : List V} {ds : List D}, RepL K am H vs ds → RepL K am H vs.reverse ds.reverse
  | _, _, .nil => .nil
  | _, _, .cons h r => by
    rw [List.reverse_cons, List.reverse_cons]
    exact (RepL.reverse r).append (.cons h .nil)
theorem RepL.one {v : V} {d : D} (h : Rep K am H v d) : RepL K am H [v] [d] := .cons h .nil
end
/-! ### the store, and what a run may change -/
def CellOk (K : PySem.W.Frag) (am : List Addr) (Hf H : Hp) (a : Addr) : Cell → Prop
  | .lst ds => ∃ vs, H a = some (.lst vs) ∧ RepL K am Hf vs ds ∧ ds.length ≤ line
  | .dct _ => False
  | .ins _ _ => False
structure Wf (K : PySem.W.Frag) (am : List Addr) (st : Store) (Hf H : Hp) : Prop where
  len : am.length = st.length
  nd : am.Nodup
  sub : Same Hf H
  cell : ∀ (n : Nat) (a : Addr) (c : Cell), am[n]? = some a → st[n]? = some c → CellOk K am Hf H a c
  off : ∀ a ∈ am, Hf a = none
structure Fm (am : List Addr) (Hf H : Hp) (am' : List Addr) (Hf' H' : Hp) : Prop where
  pre : Pre am am'
  hf : Same Hf Hf'
  keep : ∀ a o, H a = some o → a ∉ am → H' a = some o
  there : ∀ a o, H a = some o → ∃ o', H' a = some o'
  offF : ∀ a o, H a = some o → Hf a = none → Hf' a = none
  offA : ∀ a o, H a = some o → a ∈ am' → a ∈ am
theorem Fm.refl (am : List Addr) (Hf H : Hp) : Fm am Hf H am Hf H := ⟨.refl _, .refl _, fun _ _ h _ => h, fun _ o h => ⟨o, h⟩, fun _ _ _ h => h, fun _ _ _ h => h⟩
theorem Fm.trans {am am1 am2 : List Addr} {Hf Hf1 Hf2 H H1 H2 : Hp} (a : Fm am Hf H am1 Hf1 H1) (b : Fm am1 Hf1 H1 am2 Hf2 H2) : Fm am Hf H am2 Hf2 H2 where
  pre := a.pre.trans b.pre
  hf := a.hf.trans b.hf
  keep := fun c o h n => b.keep c o (a.keep c o h n) fun z => n (a.offA c o h z)
  there := fun c o h => let ⟨o', h'⟩ := a.there c o h; b.there c o' h'
  offF := fun c o h n => let ⟨o', h'⟩ := a.there c o h; b.offF c o' h' (a.offF c o h n)
  offA := fun c o h m => let ⟨o', h'⟩ := a.there c o h; a.offA c o h (b.offA c o' h' m)
/-- a new thing that joins the frozen part -/
theorem Fm.new {am : List Addr} {Hf H : Hp} {p : Addr} {o : HO} (sub : Same Hf H) (np : H p = none) : Fm am Hf H am (upd Hf p o) (upd H p o) where
  pre := .refl _
  hf := fun b u e => by rw [upd_ne (ne_of_none (sub _ _ e) np)]; exact e
  keep := fun b u e _ => by rw [upd_ne (ne_of_none e np)]; exact e
  there := fun b u e => ⟨u, by rw [upd_ne (ne_of_none e np)]; exact e⟩
  offF := fun b u e n => by rw [upd_ne (ne_of_none e np)]; exact n
  offA := fun _ _ _ h => h
/-- a new thing of one's own -/
theorem Fm.own {am : List Addr} {Hf H : Hp} {p : Addr} {o : HO} (np : H p = none) : Fm am Hf H am Hf (upd H p o) where
  pre := .refl _
  hf := .refl _
  keep := fun b u e _ => by rw [upd_ne (ne_of_none e np)]; exact e
  there := fun b u e => ⟨u, by rw [upd_ne (ne_of_none e np)]; exact e⟩
  offF := fun b u e n => n
  offA := fun _ _ _ h => h
/-- a thing that is younger than the start is changed -/
theorem Fm.mut {am am1 : List Addr} {Hf H Hf1 H1 : Hp} {p : Addr} {o : HO} (f : Fm am Hf H am1 Hf1 H1) (np : H p = none) : Fm am Hf H am1 Hf1 (upd H1 p o) where
  pre := f.pre
  hf := f.hf
  keep := fun b u e n => by rw [upd_ne (ne_of_none e np)]; exact f.keep b u e n
  there := fun b u e => by rw [upd_ne (ne_of_none e np)]; exact f.there b u e
  offF := f.offF
  offA := f.offA
/-- .. is frozen -/
theorem Fm.frz {am am1 : List Addr} {Hf H Hf1 H1 : Hp} {p : Addr} {o : HO} (f : Fm am Hf H am1 Hf1 H1) (np : H p = none) (nf : Hf1 p = none) : Fm am Hf H am1 (upd Hf1 p o) H1 where
  pre := f.pre
  hf := fun b u e => by
    have e1 := f.hf b u e
    rw [upd_ne (ne_of_none e1 nf)]
    exact e1
  keep := f.keep
  there := f.there
  offF := fun b u e n => by rw [upd_ne (ne_of_none e np)]; exact f.offF b u e n
  offA := f.offA
theorem nd_inj {am : List Addr} (h : am.Nodup) {m n : Nat} (hm : m < am.length) (hn : n < am.length) (e : am[m] = am[n]) : m = n := by
  rcases Nat.lt_trichotomy m n with z | z | z
  · exact absurd e ((List.pairwise_iff_getElem.mp h) m n hm hn z)
  · exact z
  · exact absurd e.symm ((List.pairwise_iff_getElem.mp h) n m hn hm z)
section
variable {K : PySem.W.Frag} {am am' : List Addr} {st : Store} {Hf Hf' H H' : Hp}
/-- the frozen part grows, the heap keeps the store's things -/
theorem Wf.next (w : Wf K am st Hf H) (hf : Same Hf Hf') (sub : Same Hf' H') (kp : ∀ a ∈ am, ∀ o, H a = some o → H' a = some o) (off : ∀ a ∈ am, Hf' a = none) : Wf K am st Hf' H' := by
  refine ⟨w.len, w.nd, sub, fun n a c h1 h2 => ?_, off⟩
  have q := w.cell n a c h1 h2
  have hm : a ∈ am := List.mem_of_getElem? h1
  cases c with
  | lst ds =>
    obtain ⟨vs, e, r, z⟩ := q
    exact ⟨vs, kp a hm _ e, r.mono (.refl _) hf, z⟩
  | dct _ => exact q.elim
  | ins _ _ => exact q.elim
theorem Wf.there (w : Wf K am st Hf H) {a : Addr} (hm : a ∈ am) : ∃ o, H a = some o := by
  obtain ⟨n, hn⟩ := List.mem_iff_getElem?.mp hm
  have hl : n < st.length := by rw [← w.len]; exact (List.getElem?_eq_some_iff.mp hn).1
  have q := w.cell n a st[n] hn (List.getElem?_eq_getElem hl)
  cases hc : st[n] with
  | lst ds =>
    rw [hc] at q
    obtain ⟨vs, e, _⟩ := q
    exact ⟨_, e⟩
  | dct _ => rw [hc] at q; exact q.elim
  | ins _ _ => rw [hc] at q; exact q.elim
theorem Wf.notin (w : Wf K am st Hf H) {p : Addr} (np : H p = none) : p ∉ am := fun hm => by
  obtain ⟨o, e⟩ := w.there hm
  rw [np] at e
  cases e
theorem Wf.nof (w : Wf K am st Hf H) {p : Addr} (np : H p = none) : Hf p = none := w.sub.free np
theorem Wf.new (w : Wf K am st Hf H) {p : Addr} {o : HO} (np : H p = none) : Wf K am st (upd Hf p o) (upd H p o) := by
  refine w.next (fun b u e => ?_) (fun b u e => ?_) (fun a hm u e => ?_) (fun a hm => ?_)
  · rw [upd_ne (ne_of_none e (w.nof np))]; exact e
  · by_cases hb : b = p
    · subst hb; rw [upd_same] at e ⊢; exact e
    · rw [upd_ne hb] at e ⊢; exact w.sub _ _ e
  · rw [upd_ne (ne_of_none e np)]; exact e
  · rw [upd_ne (show a ≠ p from fun z => w.notin np (z ▸ hm))]; exact w.off a hm
theorem Wf.own (w : Wf K am st Hf H) {p : Addr} {o : HO} (np : Hf p = none) (na : p ∉ am) : Wf K am st Hf (upd H p o) := by
  refine w.next (.refl _) (fun b u e => ?_) (fun a hm u e => ?_) w.off
  · rw [upd_ne (ne_of_none e np)]; exact w.sub _ _ e
  · rw [upd_ne (show a ≠ p from fun z => na (z ▸ hm))]; exact e
theorem Wf.frz (w : Wf K am st Hf H) {p : Addr} {o : HO} (e : H p = some o) (np : Hf p = none) (na : p ∉ am) : Wf K am st (upd Hf p o) H := by
  refine w.next (fun b u q => ?_) (fun b u q => ?_) (fun a _ u q => q) (fun a hm => ?_)
  · rw [upd_ne (ne_of_none q np)]; exact q
  · by_cases hb : b = p
    · subst hb; rw [upd_same] at q; cases q; exact e
    · rw [upd_ne hb] at q; exact w.sub _ _ q
  · rw [upd_ne (show a ≠ p from fun z => na (z ▸ hm))]; exact w.off a hm
/-- a new list for the store -/
theorem Wf.alloc (w : Wf K am st Hf H) {p : Addr} {vs : List V} {ds : List D} (np : H p = none) (r : RepL K am Hf vs ds) (hz : ds.length ≤ line) : Wf K (am ++ [p]) (st ++ [.lst ds]) Hf (upd H p (.lst vs)) := by
  have na := w.notin np
  have pr : Pre am (am ++ [p]) := ⟨[p], rfl⟩
  refine ⟨by rw [List.length_append, List.length_append, w.len]; rfl, ?_, fun b u e => ?_, fun n a c h1 h2 => ?_, fun a hm => ?_⟩
  · refine List.nodup_append.mpr ⟨w.nd, by simp, fun a ha b hb => ?_⟩
    rw [List.mem_singleton] at hb
    subst hb
    exact fun z => na (z ▸ ha)
  · rw [upd_ne (ne_of_none (w.sub _ _ e) np)]; exact w.sub _ _ e
  · by_cases hn : n < am.length
    · rw [List.getElem?_append_left hn] at h1
      rw [List.getElem?_append_left (by rw [← w.len]; exact hn)] at h2
      have q := w.cell n a c h1 h2
      have nap : a ≠ p := fun z => na (z ▸ List.mem_of_getElem? h1)
      cases c with
      | lst es =>
        obtain ⟨us, e, q⟩ := q
        exact ⟨us, by rw [upd_ne nap]; exact e, q.1.mono pr (.refl _), q.2⟩
      | dct _ => exact q.elim
      | ins _ _ => exact q.elim
    · rw [List.getElem?_append_right (by omega)] at h1
      rw [List.getElem?_append_right (by rw [← w.len]; omega), ← w.len] at h2
      cases hk : n - am.length with
      | zero =>
        rw [hk] at h1 h2
        simp at h1 h2
        subst h1 h2
        exact ⟨vs, upd_same, r.mono pr (.refl _), hz⟩
      | succ k =>
        rw [hk] at h1
        simp at h1
  · rcases List.mem_append.mp hm with hm | hm
    · exact w.off a hm
    · rw [List.mem_singleton] at hm
      subst hm
      exact w.nof np
theorem Fm.alloc (w : Wf K am st Hf H) {p : Addr} {o : HO} (np : H p = none) : Fm am Hf H (am ++ [p]) Hf (upd H p o) where
  pre := ⟨[p], rfl⟩
  hf := .refl _
  keep := fun b u e _ => by rw [upd_ne (ne_of_none e np)]; exact e
  there := fun b u e => ⟨u, by rw [upd_ne (ne_of_none e np)]; exact e⟩
  offF := fun b u e n => n
  offA := fun b u e hm => by
    rcases List.mem_append.mp hm with hm | hm
    · exact hm
    · rw [List.mem_singleton] at hm
      subst hm
      rw [np] at e
      cases e
/-- a list of the store is changed -/
theorem Wf.put (w : Wf K am st Hf H) {n : Nat} {p : Addr} {vs : List V} {ds : List D} (hn : am[n]? = some p) (r : RepL K am Hf vs ds) (hz : ds.length ≤ line) : Wf K am (st.set n (.lst ds)) Hf (upd H p (.lst vs)) := by
  have hm : p ∈ am := List.mem_of_getElem? hn
  have hl : n < am.length := (List.getElem?_eq_some_iff.mp hn).1
  refine ⟨by rw [List.length_set, w.len], w.nd, fun b u e => ?_, fun m a c h1 h2 => ?_, w.off⟩
  · have nb : b ≠ p := fun z => by
      have q := w.off p hm
      rw [z, q] at e
      cases e
    rw [upd_ne nb]; exact w.sub _ _ e
  · by_cases hmn : n = m
    · subst hmn
      rw [hn] at h1
      cases h1
      rw [List.getElem?_set_self (by rw [← w.len]; exact hl)] at h2
      cases h2
      exact ⟨vs, upd_same, r, hz⟩
    · rw [List.getElem?_set_ne hmn] at h2
      have q := w.cell m a c h1 h2
      have nap : a ≠ p := fun z => by
        subst z
        have hm' : m < am.length := (List.getElem?_eq_some_iff.mp h1).1
        have e1 := (List.getElem?_eq_some_iff.mp h1).2
        have e2 := (List.getElem?_eq_some_iff.mp hn).2
        exact hmn (nd_inj w.nd hl hm' (e2.trans e1.symm))
      cases c with
      | lst es =>
        obtain ⟨us, e, q⟩ := q
        exact ⟨us, by rw [upd_ne nap]; exact e, q⟩
      | dct _ => exact q.elim
      | ins _ _ => exact q.elim
end
/-! ### a dict is locked, is unlocked -/
/-- what stands at p, if anything, is exchanged -/
def sw (p : Addr) (o : HO) (H : Hp) : Hp := fun a => if a = p then (H a).map (fun _ => o) else H a
theorem sw_ne {p a : Addr} {o : HO} {H : Hp} (h : a ≠ p) : sw p o H a = H a := if_neg h
theorem sw_at {p : Addr} {o u : HO} {H : Hp} (h : H p = some u) : sw p o H p = some o := by
  unfold sw
  rw [if_pos rfl, h]
  rfl
theorem sw_none {p a : Addr} {o : HO} {H : Hp} : sw p o H a = none ↔ H a = none := by
  unfold sw
  split
  · rename_i h
    subst h
    cases H a <;> simp
  · exact Iff.rfl
theorem sw_upd {p : Addr} {o u : HO} {H : Hp} (h : H p = some u) : sw p o H = upd H p o := by
  funext a
  by_cases e : a = p
  · subst e; rw [sw_at h, upd_same]
  · rw [sw_ne e, upd_ne e]
theorem sw_sw {p : Addr} {o u : HO} {H : Hp} (h : ∀ x, H p = some x → x = u) : sw p u (sw p o H) = H := by
  funext a
  by_cases e : a = p
  · subst e
    unfold sw
    rw [if_pos rfl, if_pos rfl]
    cases q : H a with
    | none => rfl
    | some x => rw [h x q]; rfl
  · rw [sw_ne e, sw_ne e]
theorem Same.sw {p : Addr} {o : HO} {H H' : Hp} (h : Same H H') : Same (sw p o H) (sw p o H') := fun a u e => by
  by_cases ea : a = p
  · subst ea
    cases q : H a with
    | none => rw [sw_none.mpr q] at e; cases e
    | some x =>
      rw [sw_at q] at e
      cases e
      exact sw_at (h _ _ q)
  · rw [sw_ne ea] at e ⊢
    exact h _ _ e
theorem Fm.sw {am am' : List Addr} {Hf H Hf' H' : Hp} {p : Addr} {o : HO} (f : Fm am Hf H am' Hf' H') : Fm am (sw p o Hf) (sw p o H) am' (sw p o Hf') (sw p o H') where
  pre := f.pre
  hf := Same.sw f.hf
  keep := fun a u e n => by
    by_cases ea : a = p
    · subst ea
      cases q : H a with
      | none => rw [sw_none.mpr q] at e; cases e
      | some x =>
        rw [sw_at q] at e
        cases e
        exact sw_at (f.keep _ _ q n)
    · rw [sw_ne ea] at e ⊢
      exact f.keep _ _ e n
  there := fun a u e => by
    cases q : H a with
    | none => rw [sw_none.mpr q] at e; cases e
    | some x =>
      obtain ⟨y, hy⟩ := f.there _ _ q
      by_cases ea : a = p
      · subst ea; exact ⟨o, sw_at hy⟩
      · exact ⟨y, by rw [sw_ne ea]; exact hy⟩
  offF := fun a u e n => by
    cases q : H a with
    | none => rw [sw_none.mpr q] at e; cases e
    | some x => exact sw_none.mpr (f.offF _ _ q (sw_none.mp n))
  offA := fun a u e m => by
    cases q : H a with
    | none => rw [sw_none.mpr q] at e; cases e
    | some x => exact f.offA _ _ q m
/-- a dict, locked or not -/
def IsK (kvs : List (Key × V)) (o : HO) : Prop := o = .dK kvs ∨ ∃ q, o = .frz q (.dK kvs)
section
variable {K : PySem.W.Frag} {am : List Addr} {Hf H : Hp} {p : Addr} {o u : HO} {kvs : List (Key × V)}
theorem sw_lst {vs : List V} {a : Addr} (hu : ∀ x, Hf p = some x → IsK kvs x) (h : Hf a = some (.lst vs)) : sw p o Hf a = some (.lst vs) := by
  by_cases ea : a = p
  · subst ea
    rcases hu _ h with z | ⟨_, z⟩ <;> cases z
  · rw [sw_ne ea]; exact h
theorem sw_ins {c : Addr} {dx : Addr} {fs : List (Str × V)} {a : Addr} (hu : ∀ x, Hf p = some x → IsK kvs x) (h : Hf a = some (.ins c dx fs)) : sw p o Hf a = some (.ins c dx fs) := by
  by_cases ea : a = p
  · subst ea
    rcases hu _ h with z | ⟨_, z⟩ <;> cases z
  · rw [sw_ne ea]; exact h
mutual
theorem Rep.sw (ho : IsK kvs o) (hu : ∀ x, H p = some x → IsK kvs x) : ∀ {v : V} {d : D}, Rep K am H v d → Rep K am (sw p o H) v d
  | _, _, .non => .non
  | _, _, .bl b => .bl b
  | _, _, .int i => .int i
  | _, _, .str s h => .str s h
  | _, _, .lst z h r => .lst z (sw_lst hu h) (RepL.sw ho hu r)
  | _, _, .tup (a := a) z h r => .tup z (by
      have ne : ∀ x, H a = some x → (∀ k, ¬ IsK k x) → sw p o H a = some x := fun x e n => by
        by_cases ea : a = p
        · subst ea; exact absurd (hu _ e) (n _)
        · rw [sw_ne ea]; exact e
      rcases h with (h | ⟨q, h⟩) | h
      · exact .inl (.inl (ne _ h fun k z => by rcases z with z | ⟨_, z⟩ <;> cases z))
      · exact .inl (.inr ⟨q, ne _ h fun k z => by rcases z with z | ⟨_, z⟩ <;> cases z⟩)
      · exact .inr h) (RepL.sw ho hu r)
  | _, _, .ref h => .ref h
  | _, _, .ty n => .ty n
  | _, _, .scr (a := a) z h r => .scr z (by
      have ne : ∀ x, H a = some x → (∀ k, ¬ IsK k x) → sw p o H a = some x := fun x e n => by
        by_cases ea : a = p
        · subst ea; exact absurd (hu _ e) (n _)
        · rw [sw_ne ea]; exact e
      rcases h with (h | ⟨q, h⟩) | h
      · exact .inl (.inl (ne _ h fun k z => by rcases z with z | ⟨_, z⟩ <;> cases z))
      · exact .inl (.inr ⟨q, ne _ h fun k z => by rcases z with z | ⟨_, z⟩ <;> cases z⟩)
      · exact .inr h) (RepL.sw ho hu r)
  | _, _, .dct (a := a) (kvs := ks) h r => .dct (by
      by_cases ea : a = p
      · subst ea
        have e : ks = kvs := by
          rcases h with h | ⟨q, h⟩
          · rcases hu _ h with z | ⟨_, z⟩ <;> cases z; rfl
          · rcases hu _ h with z | ⟨_, z⟩ <;> cases z; rfl
        subst e
        have hs : ∃ x, H a = some x := by
          rcases h with h | ⟨q, h⟩ <;> exact ⟨_, h⟩
        obtain ⟨x, hx⟩ := hs
        rcases ho with rfl | ⟨q, rfl⟩
        · exact .inl (sw_at hx)
        · exact .inr ⟨q, sw_at hx⟩
      · rcases h with h | ⟨q, h⟩
        · exact .inl (by rw [sw_ne ea]; exact h)
        · exact .inr ⟨q, by rw [sw_ne ea]; exact h⟩) (RepK.sw ho hu r)
  | _, _, .ins ci na h hn r => .ins ci na (sw_ins hu h) hn (RepL.sw ho hu r)
theorem RepK.sw (ho : IsK kvs o) (hu : ∀ x, H p = some x → IsK kvs x) : ∀ {vs : List (Key × V)} {ds : List (Key × D)}, RepK K am H vs ds → RepK K am (sw p o H) vs ds
  | _, _, .nil => .nil
  | _, _, .cons h r => .cons (Rep.sw ho hu h) (RepK.sw ho hu r)
theorem RepL.sw (ho : IsK kvs o) (hu : ∀ x, H p = some x → IsK kvs x) : ∀ {vs : List V} {ds : List D}, RepL K am H vs ds → RepL K am (sw p o H) vs ds
  | _, _, .nil => .nil
  | _, _, .cons h r => .cons (Rep.sw ho hu h) (RepL.sw ho hu r)
end
theorem Wf.sw {st : Store} (w : Wf K am st Hf H) (ho : IsK kvs o) (hu : ∀ x, Hf p = some x → IsK kvs x) (hp : Hf p = some u) : Wf K am st (sw p o Hf) (sw p o H) := by
  refine ⟨w.len, w.nd, Same.sw w.sub, fun n a c h1 h2 => ?_, fun a hm => sw_none.mpr (w.off a hm)⟩
  have q := w.cell n a c h1 h2
  cases c with
  | lst ds =>
    obtain ⟨vs, e, r, z⟩ := q
    refine ⟨vs, ?_, r.sw ho hu, z⟩
    have ne : a ≠ p := fun z => by
      have := w.off a (List.mem_of_getElem? h1)
      rw [z, hp] at this
      cases this
    rw [sw_ne ne]
    exact e
  | dct _ => exact q.elim
  | ins _ _ => exact q.elim
end
end PF
/-! The transformers of expressions, and: what the interpreter gives, they hold of. -/
namespace PF
open PySem L2
/-- where a def began; sf: the instance that its __init__ fills -/
structure B0 where
  h : Hp
  sf : Addr := 0
instance : CoeFun B0 (fun _ => Hp) := ⟨B0.h⟩
/-! ### names -/
def SlotOk (K : PySem.W.Frag) (am : List Addr) (Hf H : Hp) (H0 : B0) (σ : St) (i : Nat) : Slot → Prop
  | .un => True
  | .im d => ∃ v, σ[i]? = some (some v) ∧ Rep K am Hf v d
  | .ol ds => ∃ p vs, σ[i]? = some (some (.ref p)) ∧ H p = some (.lst vs) ∧ RepL K am Hf vs ds ∧ Hf p = none ∧ p ∉ am ∧ H0 p = none ∧ ds.length ≤ line
  | .od ds => ∃ p vs, σ[i]? = some (some (.ref p)) ∧ H p = some (.dK vs) ∧ RepK K am Hf vs ds ∧ Hf p = none ∧ p ∉ am ∧ H0 p = none
  | .oi c ds => ∃ p dx vs, σ[i]? = some (some (.ref p)) ∧ H p = some (.ins (He.ga K c) dx vs) ∧ RepL K am Hf (vs.map (·.2)) (ds.map (·.2)) ∧ Hf p = none ∧ p ∉ am ∧ (H0 p = none ∧ p = H0.sf) ∧ vs.map (·.1) = ds.map (·.1) ∧ ClsI K c ∧ ∀ f ∈ ds.map (·.1), NoAttr K (He.ga K c) f
def isOwn : Slot → Bool
  | .ol _ => true
  | .od _ => true
  | .oi _ _ => true
  | _ => false
structure Sig (K : PySem.W.Frag) (am : List Addr) (Hf H : Hp) (H0 : B0) (σ : St) (ρ : Env) : Prop where
  len : ρ.length = σ.length
  slot : ∀ (i : Nat) (s : Slot), ρ[i]? = some s → SlotOk K am Hf H H0 σ i s
  dist : ∀ (i j : Nat) (p : Addr) (di dj : Slot), i ≠ j → ρ[i]? = some di → ρ[j]? = some dj → isOwn di = true → isOwn dj = true → σ[i]? = some (some (.ref p)) → σ[j]? = some (some (.ref p)) → False
section
variable {K : PySem.W.Frag} {am am' : List Addr} {st : Store} {Hf Hf' H H' : Hp} {H0 : B0} {σ : St} {ρ : Env}
theorem Sig.next (s : Sig K am Hf H H0 σ ρ) (f : Fm am Hf H am' Hf' H') : Sig K am' Hf' H' H0 σ ρ := by
  refine ⟨s.len, fun i x e => ?_, s.dist⟩
  have q := s.slot i x e
  cases x with
  | un => trivial
  | im d =>
    obtain ⟨v, h1, h2⟩ := q
    exact ⟨v, h1, h2.mono f.pre f.hf⟩
  | ol ds =>
    obtain ⟨p, vs, h1, h2, h3, h4, h5, h6⟩ := q
    exact ⟨p, vs, h1, f.keep _ _ h2 h5, h3.mono f.pre f.hf, f.offF _ _ h2 h4, fun z => h5 (f.offA _ _ h2 z), h6⟩
  | od ds =>
    obtain ⟨p, vs, h1, h2, h3, h4, h5, h6⟩ := q
    exact ⟨p, vs, h1, f.keep _ _ h2 h5, h3.mono f.pre f.hf, f.offF _ _ h2 h4, fun z => h5 (f.offA _ _ h2 z), h6⟩
  | oi c ds =>
    obtain ⟨p, dx, vs, h1, h2, h3, h4, h5, h6⟩ := q
    exact ⟨p, dx, vs, h1, f.keep _ _ h2 h5, h3.mono f.pre f.hf, f.offF _ _ h2 h4, fun z => h5 (f.offA _ _ h2 z), h6⟩
theorem len_set (σ : St) (ρ : Env) (j : Nat) (x : Option V) (s : Slot) (h : ρ.length = σ.length) : (ρ.set j s).length = (σ.set j x).length := by
  rw [List.length_set, List.length_set, h]
/-- a name gets data -/
theorem Sig.set (s : Sig K am Hf H H0 σ ρ) {j : Nat} {v : V} {d : D} (r : Rep K am Hf v d) : Sig K am Hf H H0 (σ.set j (some v)) (ρ.set j (.im d)) := by
  refine ⟨len_set _ _ _ _ _ s.len, fun i x e => ?_, fun i k p di dj hik e1 e2 o1 o2 e3 e4 => ?_⟩
  · by_cases hj : j = i
    · subst hj
      have hl : j < ρ.length := by
        have := (List.getElem?_eq_some_iff.mp e).1
        rwa [List.length_set] at this
      rw [List.getElem?_set_self hl] at e
      cases e
      exact ⟨v, by rw [List.getElem?_set_self (by rw [← s.len]; exact hl)], r⟩
    · rw [List.getElem?_set_ne hj] at e
      have q := s.slot i x e
      cases x with
      | un => trivial
      | im d =>
        obtain ⟨v, h1, h2⟩ := q
        exact ⟨v, by rw [List.getElem?_set_ne hj]; exact h1, h2⟩
      | ol ds =>
        obtain ⟨p, vs, h1, h2⟩ := q
        exact ⟨p, vs, by rw [List.getElem?_set_ne hj]; exact h1, h2⟩
      | od ds =>
        obtain ⟨p, vs, h1, h2⟩ := q
        exact ⟨p, vs, by rw [List.getElem?_set_ne hj]; exact h1, h2⟩
      | oi c ds =>
        obtain ⟨p, dx, vs, h1, h2⟩ := q
        exact ⟨p, dx, vs, by rw [List.getElem?_set_ne hj]; exact h1, h2⟩
  · have n1 : j ≠ i := fun z => by
      subst z
      have hl : j < ρ.length := by
        have := (List.getElem?_eq_some_iff.mp e1).1
        rwa [List.length_set] at this
      rw [List.getElem?_set_self hl] at e1
      cases e1
      cases o1
    have n2 : j ≠ k := fun z => by
      subst z
      have hl : j < ρ.length := by
        have := (List.getElem?_eq_some_iff.mp e2).1
        rwa [List.length_set] at this
      rw [List.getElem?_set_self hl] at e2
      cases e2
      cases o2
    rw [List.getElem?_set_ne n1] at e1 e3
    rw [List.getElem?_set_ne n2] at e2 e4
    exact s.dist i k p di dj hik e1 e2 o1 o2 e3 e4
/-- a comprehension's own name, wiped first -/
theorem Sig.wset (s : Sig K am Hf H H0 σ ρ) {j : Nat} {v : V} {d : D} (r : Rep K am Hf v d) : Sig K am Hf H H0 ((wipe σ [j]).set j (some v)) (ρ.set j (.im d)) := by
  have e : (wipe σ [j]).set j (some v) = σ.set j (some v) := by
    show (σ.set j none).set j (some v) = _
    rw [List.set_set]
  rw [e]
  exact s.set r
end
/-! ### what is wanted of an outcome -/
/-- an operand: data, or a list of the frame's own -/
def Opd (K : PySem.W.Frag) (am : List Addr) (Hf H : Hp) (v : V) (d : D) : Prop :=
  Rep K am Hf v d ∨ ∃ p vs ds, v = .ref p ∧ d = .lst ds ∧ H p = some (.lst vs) ∧ p ∉ am ∧ RepL K am Hf vs ds ∧ ds.length ≤ line
inductive OpdL (K : PySem.W.Frag) (am : List Addr) (Hf H : Hp) : List V → List D → Prop
  | nil : OpdL K am Hf H [] []
  | cons {v : V} {d : D} {vs : List V} {ds : List D} : Opd K am Hf H v d → OpdL K am Hf H vs ds → OpdL K am Hf H (v :: vs) (d :: ds)
abbrev RV (K : PySem.W.Frag) : List Addr → Hp → Hp → V → D → Prop := fun am Hf _ v d => Rep K am Hf v d
abbrev RVs (K : PySem.W.Frag) : List Addr → Hp → Hp → List V → List D → Prop := fun am Hf _ v d => RepL K am Hf v d
abbrev RB : List Addr → Hp → Hp → Bool → Bool → Prop := fun _ _ _ b c => b = c
/-- an error and its class -/
def XOk (K : PySem.W.Frag) (cl : Nat → Addr) (am : List Addr) (Hf : Hp) (x : Exn) (c : Value) (dd : Option Addr) : Prop :=
  c = .ref (He.ga K x.c) ∧ ((x.fs = [] ∧ dd = none) ∨ ∃ a fs, dd = some a ∧ Hf a = some (.xd fs) ∧ fs.map (·.1) = x.fs.map (·.1) ∧ RepL K am Hf (fs.map (·.2)) (x.fs.map (·.2)))
def Post (K : PySem.W.Frag) (cl : Nat → Addr) {α β : Type} (R : List Addr → Hp → Hp → β → α → Prop) (r : O α) (am : List Addr) (Hf H : Hp) (Q : β → Hp → Prop) (W : XK) : Prop :=
  match r with
  | .ok d st' => ∀ v am' Hf' H', Fm am Hf H am' Hf' H' → Wf K am' st' Hf' H' → R am' Hf' H' v d → Q v H'
  | .exc x st' => ∀ c dd am' Hf' H', Fm am Hf H am' Hf' H' → Wf K am' st' Hf' H' → XOk K cl am' Hf' x c dd → W c dd H'
  | .bad => False
section
variable {K : PySem.W.Frag} {cl : Nat → Addr} {am am1 : List Addr} {Hf Hf1 H H1 : Hp} {W : XK}
theorem Post.step {α β γ δ : Type} {R1 : List Addr → Hp → Hp → β → α → Prop} {R2 : List Addr → Hp → Hp → δ → γ → Prop} {o : O α} {f : α → Store → O γ} {Q1 : β → Hp → Prop} {Q : δ → Hp → Prop}
    (P : Post K cl R2 (o.bind f) am Hf H Q W) (f0 : Fm am Hf H am1 Hf1 H1)
    (k : ∀ v d st2 am2 Hf2 H2, Fm am Hf H am2 Hf2 H2 → Fm am1 Hf1 H1 am2 Hf2 H2 → Wf K am2 st2 Hf2 H2 → R1 am2 Hf2 H2 v d → Post K cl R2 (f d st2) am Hf H Q W → Q1 v H2) :
    Post K cl R1 o am1 Hf1 H1 Q1 W := by
  cases o with
  | ok d st2 => exact fun v am2 Hf2 H2 fm wf r => k v d st2 am2 Hf2 H2 (f0.trans fm) fm wf r P
  | exc x st2 => exact fun c dd am2 Hf2 H2 fm wf r => P c dd am2 Hf2 H2 (f0.trans fm) wf r
  | bad => exact P
theorem Post.lift_ {α β : Type} {R : List Addr → Hp → Hp → β → α → Prop} {o : Option α} {st : Store} {Q : β → Hp → Prop} (P : Post K cl R (lift o st) am Hf H Q W) : ∃ a, o = some a ∧ Post K cl R (.ok a st) am Hf H Q W := by
  cases o with
  | none => exact P.elim
  | some a => exact ⟨a, rfl, P⟩
theorem Post.liftB {α γ δ : Type} {R2 : List Addr → Hp → Hp → δ → γ → Prop} {o : Option α} {st : Store} {f : α → Store → O γ} {Q : δ → Hp → Prop} (P : Post K cl R2 ((lift o st).bind f) am Hf H Q W) : ∃ a, o = some a ∧ Post K cl R2 (f a st) am Hf H Q W := by
  cases o with
  | none => exact P.elim
  | some a => exact ⟨a, rfl, P⟩
theorem Opd.next {am' : List Addr} {Hf' H' : Hp} {v : V} {d : D} (f : Fm am Hf H am' Hf' H') (h : Opd K am Hf H v d) : Opd K am' Hf' H' v d := by
  rcases h with h | ⟨p, vs, ds, rfl, rfl, h1, h2, h3⟩
  · exact .inl (h.mono f.pre f.hf)
  · exact .inr ⟨p, vs, ds, rfl, rfl, f.keep _ _ h1 h2, fun z => h2 (f.offA _ _ h1 z), h3.1.mono f.pre f.hf, h3.2⟩
theorem OpdL.next {am' : List Addr} {Hf' H' : Hp} (f : Fm am Hf H am' Hf' H') : ∀ {vs : List V} {ds : List D}, OpdL K am Hf H vs ds → OpdL K am' Hf' H' vs ds
  | _, _, .nil => .nil
  | _, _, .cons h r => .cons (h.next f) (OpdL.next f r)
/-- a list operand -/
theorem Opd.lst {st : Store} {v : V} {ds : List D} (w : Wf K am st Hf H) (h : Opd K am Hf H v (.lst ds)) : ∃ p vs, v = .ref p ∧ H p = some (.lst vs) ∧ RepL K am Hf vs ds ∧ ds.length ≤ line ∧ p ∉ am := by
  rcases h with h | ⟨p, vs, ds', rfl, e, h1, h2, h3, h4⟩
  · cases h with
    | lst z e r => exact ⟨_, _, rfl, w.sub _ _ e, r, z, fun m => by rw [w.off _ m] at e; cases e⟩
  · cases e
    exact ⟨p, vs, rfl, h1, h3, h4, h2⟩
theorem Opd.rep {v : V} {d : D} (h : Opd K am Hf H v d) (n : ∀ ds, d ≠ .lst ds) : Rep K am Hf v d := by
  rcases h with h | ⟨p, vs, ds, rfl, rfl, _⟩
  · exact h
  · exact absurd rfl (n _)
theorem Rep.flat {v : V} {d : D} (h : Rep K am Hf v d) (f : flatD d = true) : v = vf d := by
  cases h <;> first | rfl | cases f
theorem RepL.flat : ∀ {vs : List V} {ds : List D}, RepL K am Hf vs ds → ds.all flatD = true → vs = ds.map vf
  | _, _, .nil, _ => rfl
  | _, _, .cons h r, f => by
    rw [List.all_cons, Bool.and_eq_true] at f
    rw [List.map_cons, h.flat f.1, RepL.flat r f.2]
theorem flat_vf {d : D} (f : flatD d = true) : flatV (vf d) = true := by
  cases d <;> first | rfl | cases f
theorem flat_all : ∀ {ds : List D}, ds.all flatD = true → (ds.map vf).all flatV = true
  | [], _ => rfl
  | d :: ds, f => by
    rw [List.all_cons, Bool.and_eq_true] at f
    rw [List.map_cons, List.all_cons, flat_vf f.1, flat_all f.2]
    rfl
mutual
theorem Rep.dp : ∀ {v : V} {d : D} {p : PyData}, Rep K am H v d → d.py = some p → Dp K H v p
  | _, _, _, .non, e => by cases e; exact .non
  | _, _, _, .bl b, e => by cases e; exact .bl b
  | _, _, _, .int i, e => by cases e; exact .int i
  | _, _, _, .str s _, e => by cases e; exact .str _
  | _, _, _, .lst (ds := ds) z h r, e => by
    rw [D.py] at e
    cases q : pyAll ds with
    | none => rw [q] at e; cases e
    | some ps =>
      rw [q] at e
      cases e
      exact .lst (SqL.of h) (RepL.dp r q)
  | _, _, _, .tup (ds := ds) z h r, e => by
    rw [D.py] at e
    cases q : pyAll ds with
    | none => rw [q] at e; cases e
    | some ps =>
      rw [q] at e
      cases e
      exact .tup h (RepL.dp r q)
  | _, _, _, .ref _, e => by cases e
  | _, _, _, .ty _, e => by cases e
  | _, _, _, .scr (ds := ds) z h r, e => by
    rw [D.py] at e
    cases q : pyAll ds with
    | none => rw [q] at e; cases e
    | some ps =>
      rw [q] at e
      cases e
      exact .lst h (RepL.dp r q)
  | _, _, _, .dct _ _, e => by cases e
  | _, _, _, .ins _ _ _ _ _, e => by cases e
theorem RepL.dp : ∀ {vs : List V} {ds : List D} {ps : List PyData}, RepL K am H vs ds → pyAll ds = some ps → DpAll K H vs ps
  | _, _, _, .nil, e => by cases e; exact .nil
  | _, _, _, .cons (d := d) (ds := ds) h r, e => by
    rw [pyAll] at e
    cases q1 : D.py d with
    | none => rw [q1] at e; cases e
    | some p =>
      cases q2 : pyAll ds with
      | none => rw [q1, q2] at e; cases e
      | some ps =>
        rw [q1, q2] at e
        cases e
        exact .cons (Rep.dp h q1) (RepL.dp r q2)
end
theorem Opd.dp {st : Store} {v : V} {d : D} {p : PyData} (w : Wf K am st Hf H) (h : Opd K am Hf H v d) (e : d.py = some p) : Dp K H v p := by
  rcases h with h | ⟨q, vs, ds, rfl, rfl, h1, _, h3, _⟩
  · exact (h.mono (.refl _) w.sub).dp e
  · rw [D.py] at e
    cases q : pyAll ds with
    | none => rw [q] at e; cases e
    | some ps =>
      rw [q] at e
      cases e
      exact .lst (SqL.of h1) ((h3.mono (.refl _) w.sub).dp q)
end
/-! ### the transformers -/
def rAddS : R2 := fun x y H Q => ∃ i j, x = .str i ∧ y = .str j ∧ i.length + j.length ≤ sizeLine ∧ Q (.str (i ++ j)) H
def rMulS : R2 := fun x y H Q => ∃ a n, x = .str a ∧ y = .int n ∧ 2 ≤ n ∧ 0 < a.length ∧ a.length * n.toNat ≤ sizeLine ∧ Str.length ⟨(List.replicate n.toNat a.cps).foldl (· ++ ·) #[]⟩ ≤ sizeLine ∧ Q (.str ⟨(List.replicate n.toNat a.cps).foldl (· ++ ·) #[]⟩) H
def rBin (K : PySem.W.Frag) : BOp → R2
  | .add => fun x y H Q => rI0 (fun i j => .int (i + j)) x y H Q ∨ rAddS x y H Q ∨ rCat x y H Q ∨ rCatA K x y H Q
  | .sub => rI0 fun i j => .int (i - j)
  | .mul => fun x y H Q => rI CMul (fun i j => .int (i * j)) x y H Q ∨ rMulS x y H Q
  | .mod => rI (fun _ j => 0 < j) fun i j => .int (i % j)
  | .fdiv => rI CDiv fun i j => .int (i / j)
  | .pow => rI CPow fun i j => .int (i ^ j.toNat)
def rInStr : R2 := fun x y H Q => ∃ i j, x = .str i ∧ y = .str j ∧ Q (.bl (!(Builtin.Str.occurrences j i 0 j.length 1).isEmpty)) H
def rNotInStr : R2 := fun x y H Q => ∃ i j, x = .str i ∧ y = .str j ∧ Q (.bl (!(!(Builtin.Str.occurrences j i 0 j.length 1).isEmpty))) H
def rLen (K : PySem.W.Frag) (r : Bool) : R2 := fun x y H Q => ∃ a b xs ys, x = .ref a ∧ y = .ref b ∧ SqL K H a xs ∧ SqL K H b ys ∧ xs.length ≠ ys.length ∧ Q (.bl r) H
def rCmp (K : PySem.W.Frag) : COp → R2
  | .eq => fun x y H Q => rEq x y H Q ∨ rEqD K x y H Q ∨ rLen K false x y H Q
  | .ne => fun x y H Q => rNe x y H Q ∨ rNeD K x y H Q ∨ rLen K true x y H Q
  | .lt => rI0 fun i j => .bl (decide (i < j))
  | .le => rI0 fun i j => .bl (decide (i ≤ j))
  | .gt => rI0 fun i j => .bl (decide (j < i))
  | .ge => rI0 fun i j => .bl (decide (j ≤ i))
  | .is => fun x y H Q => rIsN x y H Q ∨ rIsB x y H Q
  | .isnot => fun x y H Q => rNotN x y H Q ∨ rNotB x y H Q
  | .inn => fun x y H Q => rInS x y H Q ∨ rInStr x y H Q ∨ rInD K x y H Q ∨ rIn K false x y H Q
  | .notin => fun x y H Q => rNotInS x y H Q ∨ rNotInStr x y H Q ∨ rNotInD K x y H Q ∨ rIn K true x y H Q
def rSlc (K : PySem.W.Frag) : V → Option Int → Option Int → Hp → VK → Prop := fun x lo hi H Q => rSlL K x lo hi H Q ∨ rSlA K x lo hi H Q ∨ rSlS x lo hi H Q
def rBF (K : PySem.W.Frag) : BF → List V → Hp → VK → Prop
  | .len => fun xs H Q => ∃ x n, xs = [x] ∧ LenV K x H n ∧ Q (.int n) H
  | .max2 => fun xs H Q => ∃ i j, xs = [.int i, .int j] ∧ Q (.int (if j > i then j else i)) H
  | .min2 => fun xs H Q => ∃ i j, xs = [.int i, .int j] ∧ Q (.int (if j < i then j else i)) H
  | .int => fun xs H Q => ((∃ i, xs = [.int i] ∧ Q (.int i) H) ∨ ∃ k, xs = [.bl k] ∧ Q (.int (if k then 1 else 0)) H) ∨ ∃ a n, xs = [.str a] ∧ PySem.intText? a = some n ∧ a.length ≤ 640 ∧ Q (.int n) H
  | .str => fun xs H Q => (∃ i, xs = [.int i] ∧ i.natAbs.log2 < 1920 ∧ Q (.str (toString i)) H) ∨ ∃ a, xs = [.str a] ∧ Q (.str a) H
  | .list => fun xs H Q => (∃ p ys, xs = [.ref p] ∧ (SqL K H p ys ∨ SqT K H p ys) ∧ ∀ l, H l = none → Q (.ref l) (upd H l (.lst ys))) ∨ ∃ (a : Addr) (kvs : List (Key × V)), xs = [.ref a] ∧ Rd H a (.dK kvs) ∧ ∀ p, H p = none → Q (.ref p) (upd H p (.lst (kvs.map fun kv => kV kv.1)))
  | .tuple => fun xs H Q => ∃ p ys, xs = [.ref p] ∧ ((SqL K H p ys ∧ ∀ l, H l = none → Q (.ref l) (upd H l (.tup ys))) ∨ (SqT K H p ys ∧ Q (.ref p) H))
  | .all => rAll K
  | .any => rAny K
  | .isi => rIsi K
  | .sum => rSum K
def rJoin (K : PySem.W.Frag) : V → List V → Hp → VK → Prop := fun x xs H Q => ∃ a p, ∃ ys : List Str, x = .str a ∧ xs = [.ref p] ∧ (SqL K H p (ys.map V.str) ∨ SqT K H p (ys.map V.str)) ∧
    (ys.map (·.length)).sum + ys.length * a.length ≤ 16777216 ∧ Q (.str (Txt.join a ys)) H
def rBM (K : PySem.W.Frag) : BM → V → List V → Hp → VK → Prop
  | .upper => fun x xs H Q => ∃ a, x = .str a ∧ xs = [] ∧ a.length ≤ 5592405 ∧ Q (.str (Txt.upper a)) H
  | .lower => fun x xs H Q => ∃ a, x = .str a ∧ xs = [] ∧ a.length ≤ 5592405 ∧ Q (.str (Txt.lower a)) H
  | .join => rJoin K
  | .count => fun x xs H Q => ∃ a b, x = .str a ∧ xs = [.str b] ∧ Q (.int (Txt.count a b)) H
  | .find => fun x xs H Q => (∃ a b, x = .str a ∧ xs = [.str b] ∧ Q (.int (Txt.find a b)) H) ∨ ∃ a b i, x = .str a ∧ xs = [.str b, .int i] ∧ Q (.int (Txt.find3 a b i)) H
  | .index => rIndex K
  | _ => fun _ _ _ _ => False
def bmTy : BM → String
  | .items => "dict"
  | .get => "dict"
  | .index => "list"
  | _ => "str"
/-- what a for walks: a list, a tuple, a text -/
def iAny (K : PySem.W.Frag) (te : TE) : TI := fun σ H R => te σ H fun x H1 =>
  (∃ a, x = .ref a ∧ (∃ xs, SqL K H1 a xs) ∧ R (Itl K a) H1) ∨ (∃ a, x = .ref a ∧ (∃ xs, SqT K H1 a xs) ∧ R (Itt K a) H1) ∨ ∃ z, x = .str z ∧ R (Its z) H1
def iRng (ta : TA) : TI := fun σ H R => ta σ H fun vs H1 =>
  (∃ j : Int, vs = [.int j] ∧ -(2 ^ 62) ≤ j ∧ j < 2 ^ 62 ∧ R (Itr 0 j.toNat) H1) ∨
  (∃ i j : Int, vs = [.int i, .int j] ∧ (-(2 ^ 62) ≤ i ∧ i < 2 ^ 62 ∧ -(2 ^ 62) ≤ j ∧ j < 2 ^ 62) ∧ R (Itr i (j - i).toNat) H1)
abbrev W0 : WX := fun _ _ _ _ => False
def tTru (K : PySem.W.Frag) (te : TE) : TT := fun σ H Q => te σ H fun x H' => ∃ k, TruV K x H' k ∧ Q k H'
def tTch (r r' : R2) (ta tb tc : TE) : TT := tTest (tChain r r' ta tb tc)
/-- a type's value -/
def TyN.v (K : PySem.W.Frag) : TyN → Value
  | .b n => .type n
  | .o c => .ref (He.ga K c)
/-- the class has the __ne__ of object -/
def NeK (K : PySem.W.Frag) (c : Str) : Prop := PySem.W.findIn K (.ref (He.ga K c)) "__ne__" = some (some (.builtin "object.__ne__")) ∧ PySem.W.mroIn K (He.ga K c) (.type "object") = some true
/-- x == y, x != y by the own __eq__ of x's class -/
def rCeq (K : PySem.W.Frag) (o : COp) (c : Str) (sp : Sp) : R2 := fun x y H Q => ∃ a dx fs t n, x = .ref a ∧ H a = some (.ins (He.ga K c) dx fs) ∧ TyX K H y t ∧ eqOp o = some n ∧ PySem.W.notFirst K (He.ga K c) t = true ∧ (n = true → NeK K c) ∧
  sp [x, y] H (fun v H' => ∃ b, v = .bl b ∧ Q (.bl (n != b)) H') fun _ _ _ => False
/-- the item of a written dict -/
def rKdg (K : PySem.W.Frag) (x : Str) : R2 := fun v y H Q => ∃ (z : Str) (u0 : Value) (v0 : V), v = .ref (He.ga K x) ∧ y = .str z ∧ PySem.W.nsIn K (He.ga K x) z = some (some u0) ∧ RelV v0 u0 ∧ Q v0 H
def rKdi (K : PySem.W.Frag) (n : Bool) (x : Str) : R2 := fun y v H Q => ∃ (z : Str) (r : Option Value), y = .str z ∧ v = .ref (He.ga K x) ∧ PySem.W.nsIn K (He.ga K x) z = some r ∧ Q (.bl (n != r.isSome)) H
/-- o.m(..) -/
def tMthS (K : PySem.W.Frag) (c m : Str) (sp : Sp) (W : WX) (ta : TE) (t : TA) : TE := fun σ H Q => ta σ H fun x H1 => ∃ a dx fs, x = .ref a ∧ H1 a = some (.ins (He.ga K c) dx fs) ∧ fs.lookup m = none ∧
  t σ H1 fun vs H2 => sp (x :: vs) H2 Q fun c d H' => W c d σ H'
/-- C(.., k = v, ..) -/
def tMkS (K : PySem.W.Frag) (c : Str) (n m : Nat) (sp : Sp) (W : WX) (t tk : TA) : TE := fun σ H Q => t σ H fun vs H1 => tk σ H1 fun zs H2 => vs.length = n ∧ zs.length = m ∧ ∀ x dx, H2 x = none → H2 dx = none → dx ≠ x →
  sp (.ref x :: (vs ++ zs)) (upd (upd H2 dx (.own x)) x (.ins (He.ga K c) dx [])) (fun v H3 => v = .non ∧ Q (.ref x) H3) fun c d H' => W c d σ H'
/-- C(.., *..), m parameters and the rest as a tuple -/
def tMkX (K : PySem.W.Frag) (c : Str) (m : Nat) (sp : Sp) (W : WX) (t : TA) : TE := fun σ H Q => t σ H fun vs H1 => m ≤ vs.length ∧ vs.length - m ≤ sizeLine ∧ ∀ x dx p, H1 x = none → H1 dx = none → dx ≠ x → H1 p = none → p ≠ x → p ≠ dx →
  sp (.ref x :: (vs.take m ++ [.ref p])) (upd (upd (upd H1 p (.tup (vs.drop m))) dx (.own x)) x (.ins (He.ga K c) dx [])) (fun v H3 => v = .non ∧ Q (.ref x) H3) fun c d H' => W c d σ H'
/-- a[b] by an own __getitem__ -/
def tGti (K : PySem.W.Frag) (c : Str) (sp : Sp) (W : WX) (ta tb : TE) : TE := fun σ H Q => ta σ H fun x H1 => tb σ H1 fun y H2 => ∃ a dx fs, x = .ref a ∧ H2 a = some (.ins (He.ga K c) dx fs) ∧ sp [x, y] H2 Q fun c d H' => W c d σ H'
def ownBack (f : OF) (r : V) (H : Hp) (Q : VK) : Prop := match f with
  | .len => ∃ n : Int, r = .int n ∧ 0 ≤ n ∧ n < 2 ^ 62 ∧ Q (.int n) H
  | .str => ∃ s : Str, r = .str s ∧ Q (.str s) H
  | .bool => ∃ n : Int, r = .int n ∧ 0 ≤ n ∧ n < 2 ^ 62 ∧ Q (.bl (n != 0)) H
/-- len(x), str(x), bool(x) of an own class -/
def rOwn1 (K : PySem.W.Frag) (f : OF) (c : Str) (sp : Sp) : List V → Hp → VK → Prop := fun xs H Q => ∃ a dx fs, xs = [.ref a] ∧ H a = some (.ins (He.ga K c) dx fs) ∧ sp [.ref a] H (fun r H' => ownBack f r H' Q) fun _ _ _ => False
/-- y in x by an own __contains__ -/
def rCno (K : PySem.W.Frag) (n : Bool) (c : Str) (sp : Sp) : R2 := fun y x H Q => ∃ a dx fs, x = .ref a ∧ H a = some (.ins (He.ga K c) dx fs) ∧ sp [x, y] H (fun v H' => ∃ b, v = .bl b ∧ Q (.bl (n != b)) H') fun _ _ _ => False
/-- d[k]; d.get(k, x); k in d -/
def rDgx : R2 := fun x y H Q => ∃ a v, x = .ref a ∧ DGet H a y (some v) ∧ Q v H
def tDgt1 (td ty : TE) : TE := tDGet1 td ty
def tDin (n : Bool) (ty td : TE) : TE := fun σ H Q => ty σ H fun y H1 => td σ H1 fun x H2 => ∃ a o, x = .ref a ∧ DGet H2 a y o ∧ Q (.bl (n != o.isSome)) H2
/-- names, one after another -/
def gNames : List Nat → TGs
  | [] => gNil
  | i :: is => gCons (gName i) (gNames is)
def gTgt (K : PySem.W.Frag) (is : List Nat) : TG := match is with
  | [i] => gName i
  | is => gTup K is.length (gNames is)
/-- what is walked -/
def iSrc (K : PySem.W.Frag) (k : SK) (te : TE) (ta : TA) : TI := match k with
  | .any => iAny K te
  | .zip => RZ.iZipA K ta
  | .enm => iEnum K ta
  | .rng => iRng ta
  | .itm s => iItems (tVar s)
/-- .. a dict is locked meanwhile -/
def tLkE (k : SK) (t : TE) : TE := match k with
  | .itm _ => fun σ H Q => t σ H Q ∨ tLockE t σ H Q
  | _ => t
/-- the promises: of a def; of the __init__ of a class -/
structure FF where
  pl : Nat → Sp
  ini : Str → Nat → Sp
  pn : Nat → Sp
mutual
def tE (K : PySem.W.Frag) (F : FF) (W : WX) : E → TE
  | .var i => tVar i
  | .bor i => tVar i
  | .cst d => tC (vf d)
  | .glb _ d => tC (vf d)
  | .bin o a b => tOp (rBin K o) (tE K F W a) (tE K F W b)
  | .neg a => tUn (rU fun i => .int (-i)) (tE K F W a)
  | .cmp o a b => tOp (rCmp K o) (tE K F W a) (tE K F W b)
  | .chn o p a b c => tChain (rCmp K o) (rCmp K p) (tE K F W a) (tE K F W b) (tE K F W c)
  | .and a b => tAndT K (tE K F W a) (tE K F W b)
  | .or a b => tOrT K (tE K F W a) (tE K F W b)
  | .not a => tNotT K (tE K F W a)
  | .ite c a b => tIf (tT K F W c) (tE K F W a) (tE K F W b)
  | .tup a => tTup (tA K F W a)
  | .lst a => tLst (tA K F W a)
  | .dsp a => if isNil a then tDNewK else tDisp (tP K F W a)
  | .new a => tLst (tA K F W a)
  | .idx a b => tOp (rIx K) (tE K F W a) (tE K F W b)
  | .slc a lo hi => tSl (rSlc K) (tE K F W a) (if isNil lo then tNoPart else tPart (tE K F W lo)) (if isNil hi then tNoPart else tPart (tE K F W hi))
  | .cb f a => tCB (rBF K f) (tA K F W a)
  | .bm m o a => if isNil a then tBM0 K (bmTy m) (rBM K m) (tE K F W o) else tBM K (bmTy m) (rBM K m) (tE K F W o) (tA K F W a)
  | .call f a => tCallSD (F.pl f) [] (fun σ c d H => W c d σ H) (tA K F W a)
  | .callf f a => tCallSD (F.pn f) [] (fun σ c d H => W c d σ H) (tA K F W a)
  | .mthf g c m o a => tMthS K c m (F.pn g) W (tE K F W o) (tA K F W a)
  | .fmt a => tFmt (tE K F W a)
  | .fst a => fun σ H Q => tJs (tJ K F W a) Str.empty σ H fun out H1 => Q (.str out) H1
  | .fld a f => tFld K (tE K F W a) f
  | .ofl i f => tFld K (tVar i) f
  | .prp g c f a => tProp (He.ga K c) (F.pl g) [] (fun _ _ _ => False) (tE K F W a)
  | .mth g c m o a => tMthS K c m (F.pl g) W (tE K F W o) (tA K F W a)
  | .mk g c n ks a k => tMkS K c n ks.length (F.ini c g) W (tA K F W a) (tA K F W k)
  | .iso c _ a => tCB (rIsi K) (tCons (tE K F W a) (tCons (tC (.ref (He.ga K c))) tNil))
  | .ceq o g c _ a b => tOp (rCeq K o c (F.pl g)) (tE K F W a) (tE K F W b)
  | .mkx g c m a => tMkX K c m (F.ini c g) W (tA K F W a)
  | .smc g _ _ a => tCallSD (F.pl g) [] (fun σ c d H => W c d σ H) (tA K F W a)
  | .gti g c a b => tGti K c (F.pl g) W (tE K F W a) (tE K F W b)
  | .own1 f g c a => tCB (rOwn1 K f c (F.pl g)) (tCons (tE K F W a) tNil)
  | .cno n g c a b => tOp (rCno K n c (F.pl g)) (tE K F W a) (tE K F W b)
  | .dgx d k => tDGet (tE K F W d) (tE K F W k)
  | .dgt d k z => if isNil z then tDGet1 (tE K F W d) (tE K F W k) else tDGet2 (tE K F W d) (tE K F W k) (tE K F W z)
  | .din n k d => tDin n (tE K F W k) (tE K F W d)
  | .kct x _ => tC (.ref (He.ga K x))
  | .kdg x _ k => tOp (rKdg K x) (tC (.ref (He.ga K x))) (tE K F W k)
  | .kdi n x _ k => tOp (rKdi K n x) (tE K F W k) (tC (.ref (He.ga K x)))
  | .lc j src c e => tLc (iAny K (tE K F W src)) (gName j) (if isNil c then tYes else tT K F W0 c) (tE K F W0 e) [j]
  | .lcr j a c e => tLc (iRng (tA K F W a)) (gName j) (if isNil c then tYes else tT K F W0 c) (tE K F W0 e) [j]
  | .lct is k s a c e => tLkE k (tLc (iSrc K k (tE K F W s) (tA K F W a)) (gTgt K is) (if isNil c then tYes else tT K F W0 c) (tE K F W0 e) is)
  | .lc2 j src j1 src1 c e => tLc2 (iAny K (tE K F W src)) (gName j) tYes (iAny K (tE K F W0 src1)) (gName j1) (if isNil c then tYes else tT K F W0 c) (tE K F W0 e) [j, j1] [j1]
  | _ => fun _ _ _ => False
def tA (K : PySem.W.Frag) (F : FF) (W : WX) : E → TA
  | .nil => tNil
  | .cons a b => tCons (tE K F W a) (tA K F W b)
  | .star a b => StX.tStar K (tE K F W a) (tA K F W b)
  | _ => fun _ _ _ => False
def tP (K : PySem.W.Frag) (F : FF) (W : WX) : E → List (TE × TE)
  | .con2 k v r => (tE K F W k, tE K F W v) :: tP K F W r
  | _ => []
def tJ (K : PySem.W.Frag) (F : FF) (W : WX) : E → List TE
  | .cons a b => tE K F W a :: tJ K F W b
  | _ => []
def tT (K : PySem.W.Frag) (F : FF) (W : WX) : E → TT
  | .and a b => tAnd (tT K F W a) (tT K F W b)
  | .or a b => tOr (tT K F W a) (tT K F W b)
  | .not a => tNot (tT K F W a)
  | .tst a => tTru K (tE K F W a)
  | .tcm o a b => tTest (tOp (rCmp K o) (tE K F W a) (tE K F W b))
  | .tceq o g c _ a b => tTest (tOp (rCeq K o c (F.pl g)) (tE K F W a) (tE K F W b))
  | .tcno n g c a b => tTest (tOp (rCno K n c (F.pl g)) (tE K F W a) (tE K F W b))
  | .tdin n k d => tTest (tDin n (tE K F W k) (tE K F W d))
  | .tch o p a b c => tTch (rCmp K o) (rCmp K p) (tE K F W a) (tE K F W b) (tE K F W c)
  | _ => fun _ _ _ => False
end
/-! ### what the texts ask of the written part -/
/-- a written value bears data: texts, tuples of texts -/
def strsB : List D → List Value → Bool
  | [], [] => true
  | .str s :: ds, .str x _ :: us => decide (tx s = x) && decide (s.length ≤ line) && strsB ds us
  | _, _ => false
def kRepB (K : PySem.W.Frag) (u : Value) : D → Bool
  | .tup ds => match u with
    | .ref b => match K.lookup b with
      | some ⟨.type c, _, .seq its _, _⟩ => decide (c = "tuple") && (decide (its.size ≤ sizeLine) && (decide (ds.length ≤ line) && strsB ds its.toList))
      | _ => false
    | _ => false
  | _ => false
inductive Kf where
  | exm (x y : Str) (b : Bool)
  | noat (c f : Str)
  | cls (c : Str)
  | kit (t : TyN) (c : Str) (b : Bool)
  | nfi (t : TyN) (c : Str)
  | tab (x : Str) (t : List (Tx × D))
  | keys (x : Str) (t : List (Tx × D))
  | nek (c : Str)
  | kv (x : Str) (d : D)
def keyIn (t : List (Tx × D)) : Value → Bool
  | .str k _ => t.any fun q => decide (tx q.1 = k)
  | _ => false
def Kf.ok (K : PySem.W.Frag) : Kf → Bool
  | .exm x y b => (He.Fa.exm x y b).ok K
  | .noat c f => (He.Fa.noat c f).ok K
  | .cls c => (He.Fa.cls c).ok K && (decide (PySem.W.findIn K (.ref (He.ga K c)) "__class__" = some (some (.builtin "object.__class__"))) && (decide (PySem.W.specialIn K (.builtin "object.__class__") "__get__" = some (some (.builtin "getset_descriptor.__get__"))) && (decide (PySem.W.takesIn K (.builtin "object.__class__") = some true) && decide (PySem.W.mroIn K (He.ga K c) (.type "object") = some true))))
  | .kit t c b => decide (PySem.W.kitOne K (t.v K) (.ref (He.ga K c)) = some b)
  | .nfi t c => PySem.W.notFirst K (He.ga K c) (t.v K)
  | .tab x t => t.all fun q => match PySem.W.nsIn K (He.ga K x) (tx q.1) with
    | some (some u) => kRepB K u q.2
    | _ => false
  | .keys x t => match K.lookup (He.ga K x) with
    | some ⟨_, _, .dict es _, _⟩ => es.toList.all fun e => keyIn t e.key
    | _ => false
  | .nek c => decide (PySem.W.findIn K (.ref (He.ga K c)) "__ne__" = some (some (.builtin "object.__ne__"))) && decide (PySem.W.mroIn K (He.ga K c) (.type "object") = some true)
  | .kv x d => kRepB K (.ref (He.ga K x)) d
def fcE : E → List Kf
  | .cons a b => fcE a ++ fcE b
  | .con2 k v r => fcE k ++ (fcE v ++ fcE r)
  | .dsp a => fcE a
  | .bin _ a b => fcE a ++ fcE b
  | .neg a => fcE a
  | .cmp _ a b => fcE a ++ fcE b
  | .chn _ _ a b c => fcE a ++ (fcE b ++ fcE c)
  | .tcm _ a b => fcE a ++ fcE b
  | .tch _ _ a b c => fcE a ++ (fcE b ++ fcE c)
  | .and a b => fcE a ++ fcE b
  | .or a b => fcE a ++ fcE b
  | .not a => fcE a
  | .tst a => fcE a
  | .ite c a b => fcE c ++ (fcE a ++ fcE b)
  | .tup a => fcE a
  | .lst a => fcE a
  | .new a => fcE a
  | .idx a b => fcE a ++ fcE b
  | .slc a b c => fcE a ++ (fcE b ++ fcE c)
  | .cb _ a => fcE a
  | .bm _ o a => fcE o ++ fcE a
  | .call _ a => fcE a
  | .callf _ a => fcE a
  | .mthf _ _ _ o a => fcE o ++ fcE a
  | .lc _ a c e => fcE a ++ (fcE c ++ fcE e)
  | .lcr _ a c e => fcE a ++ (fcE c ++ fcE e)
  | .lct _ _ s a c e => fcE s ++ (fcE a ++ (fcE c ++ fcE e))
  | .lc2 _ a _ b c e => fcE a ++ (fcE b ++ (fcE c ++ fcE e))
  | .fmt a => fcE a
  | .fst a => fcE a
  | .fld a _ => fcE a
  | .prp _ _ _ a => fcE a
  | .mth _ _ _ o a => fcE o ++ fcE a
  | .mk _ c _ _ a k => .cls c :: (fcE a ++ fcE k)
  | .iso c tb a => fcE a ++ tb.map fun q => .kit q.1 c q.2
  | .ceq o _ c tb a b => fcE a ++ (fcE b ++ (.nek c :: tb.map fun t => .nfi t c))
  | .tceq o _ c tb a b => fcE a ++ (fcE b ++ (.nek c :: tb.map fun t => .nfi t c))
  | .star a b => fcE a ++ fcE b
  | .mkx _ c _ a => .cls c :: fcE a
  | .smc _ _ _ a => fcE a
  | .gti _ _ a b => fcE a ++ fcE b
  | .own1 f _ c a => (match f with | .bool => [.noat c "__bool__"] | _ => []) ++ fcE a
  | .cno _ _ _ a b => fcE a ++ fcE b
  | .tcno _ _ _ a b => fcE a ++ fcE b
  | .dgx d k => fcE d ++ fcE k
  | .dgt d k z => fcE d ++ (fcE k ++ fcE z)
  | .din _ k d => fcE k ++ fcE d
  | .tdin _ k d => fcE k ++ fcE d
  | .kct x d => [.kv x d]
  | .kdg x t k => .tab x t :: fcE k
  | .kdi _ x t k => .tab x t :: .keys x t :: fcE k
  | _ => []
theorem clsI_ok {K : PySem.W.Frag} {c : Str} (h : (Kf.cls c).ok K = true) : ClsI K c := by
  obtain ⟨h1, h⟩ := He.ba h
  obtain ⟨h2, h⟩ := He.ba h
  obtain ⟨h3, h⟩ := He.ba h
  obtain ⟨h4, h5⟩ := He.ba h
  exact ⟨He.cls_ok h1, of_decide_eq_true h2, of_decide_eq_true h3, of_decide_eq_true h4, of_decide_eq_true h5⟩
def KfE (K : PySem.W.Frag) (e : E) : Prop := ∀ f ∈ fcE e, f.ok K = true
end PF
/-! What the interpreter gives for an expression, its transformer holds of. -/
namespace PF
open PySem L2
theorem line_eq : line = sizeLine := by rw [sizeLine_eq]; rfl
theorem tx_len (s : Tx) : (tx s).length = s.length := by
  show s.toArray.size = s.length
  simp
theorem tx_app (a b : Tx) : tx a ++ tx b = tx (a ++ b) := by
  show (⟨a.toArray ++ b.toArray⟩ : Str) = ⟨(a ++ b).toArray⟩
  simp
theorem tx_unt (s : Str) : tx (unt s) = s := by
  cases s
  simp [tx, unt]
theorem unt_tx (s : Tx) : unt (tx s) = s := by
  simp [tx, unt]
theorem tx_inj {a b : Tx} (h : tx a = tx b) : a = b := by rw [← unt_tx a, ← unt_tx b, h]
theorem tx_cps (s : Tx) : (tx s).cps.toList = s := by simp [tx]
theorem rep_fold (s : Tx) : ∀ (k : Nat) (acc : Array Nat), (List.replicate k s.toArray).foldl (· ++ ·) acc = acc ++ ((List.replicate k s).flatten).toArray
  | 0, acc => by simp
  | k + 1, acc => by
    rw [List.replicate_succ, List.foldl_cons, rep_fold s k, List.replicate_succ, List.flatten_cons]
    simp
theorem rep_tx (s : Tx) (k : Nat) : (⟨(List.replicate k (tx s).cps).foldl (· ++ ·) #[]⟩ : Str) = tx (List.replicate k s).flatten := by
  show (⟨(List.replicate k s.toArray).foldl (· ++ ·) #[]⟩ : Str) = ⟨_⟩
  rw [rep_fold]
  simp
theorem rep_len (s : Tx) : ∀ k : Nat, (List.replicate k s).flatten.length = s.length * k
  | 0 => by simp
  | k + 1 => by
    rw [List.replicate_succ, List.flatten_cons, List.length_append, rep_len s k, Nat.mul_succ]
    omega
section
variable {K : PySem.W.Frag} {cl : Nat → Addr} {am : List Addr} {st : Store} {Hf H : Hp}
theorem Rep.vInt {v : V} {i : Int} (h : Rep K am Hf v (.int i)) : v = .int i := by cases h; rfl
theorem Rep.vBl {v : V} {i : Bool} (h : Rep K am Hf v (.bl i)) : v = .bl i := by cases h; rfl
theorem Rep.vStr {v : V} {s : Tx} (h : Rep K am Hf v (.str s)) : v = .str (tx s) ∧ s.length ≤ line := by cases h; exact ⟨rfl, by assumption⟩
theorem Rep.vNon {v : V} (h : Rep K am Hf v .non) : v = .non := by cases h; rfl
theorem Rep.vTy {v : V} {n : String} (h : Rep K am Hf v (.ty n)) : v = .ty n := by cases h; rfl
theorem Rep.vTup {v : V} {ds : List D} (h : Rep K am Hf v (.tup ds)) : ∃ a vs, v = .ref a ∧ SqT K Hf a vs ∧ RepL K am Hf vs ds ∧ ds.length ≤ line := by
  cases h with
  | tup z h r => exact ⟨_, _, rfl, h, r, z⟩
theorem Rep.vLst {v : V} {ds : List D} (h : Rep K am Hf v (.lst ds)) : ∃ a vs, v = .ref a ∧ Hf a = some (.lst vs) ∧ RepL K am Hf vs ds ∧ ds.length ≤ line := by
  cases h with
  | lst z h r => exact ⟨_, _, rfl, h, r, z⟩
theorem Rep.vScr {v : V} {ds : List D} (h : Rep K am Hf v (.scr ds)) : ∃ a vs, v = .ref a ∧ SqL K Hf a vs ∧ RepL K am Hf vs ds ∧ ds.length ≤ line := by
  cases h with
  | scr z h r => exact ⟨_, _, rfl, h, r, z⟩
theorem Rep.vRef {v : V} {n : Nat} (h : Rep K am Hf v (.ref n)) : ∃ a, v = .ref a ∧ am[n]? = some a := by
  cases h with
  | ref h => exact ⟨_, rfl, h⟩
theorem Opd.vInt {v : V} {i : Int} (h : Opd K am Hf H v (.int i)) : v = .int i := (h.rep (fun _ z => by cases z)).vInt
theorem Opd.vStr {v : V} {s : Tx} (h : Opd K am Hf H v (.str s)) : v = .str (tx s) ∧ s.length ≤ line := (h.rep (fun _ z => by cases z)).vStr
theorem Opd.vBl {v : V} {s : Bool} (h : Opd K am Hf H v (.bl s)) : v = .bl s := (h.rep (fun _ z => by cases z)).vBl
theorem Opd.vNon {v : V} (h : Opd K am Hf H v .non) : v = .non := (h.rep (fun _ z => by cases z)).vNon
theorem Opd.vTup {v : V} {ds : List D} (h : Opd K am Hf H v (.tup ds)) : ∃ a vs, v = .ref a ∧ SqT K Hf a vs ∧ RepL K am Hf vs ds ∧ ds.length ≤ line := (h.rep (fun _ z => by cases z)).vTup
/-- a new list of data -/
theorem new_lst {Q : VK} {z : List D} {vs : List V} (w : Wf K am st Hf H) (r : RepL K am Hf vs z) (hz : z.length ≤ line) (q : ∀ r am' Hf' H', Fm am Hf H am' Hf' H' → Wf K am' st Hf' H' → Rep K am' Hf' r (.lst z) → Q r H') :
    ∀ p, H p = none → Q (.ref p) (upd H p (.lst vs)) := fun p np => by
  have sm : Same Hf (upd Hf p (.lst vs)) := fun b u e => by
    rw [upd_ne (ne_of_none e (w.nof np))]; exact e
  exact q _ am _ _ (Fm.new w.sub np) (w.new np) (.lst hz upd_same (r.mono (.refl _) sm))
theorem new_tup {Q : VK} {z : List D} {vs : List V} (w : Wf K am st Hf H) (r : RepL K am Hf vs z) (hz : z.length ≤ line) (q : ∀ r am' Hf' H', Fm am Hf H am' Hf' H' → Wf K am' st Hf' H' → Rep K am' Hf' r (.tup z) → Q r H') :
    ∀ p, H p = none → Q (.ref p) (upd H p (.tup vs)) := fun p np => by
  have sm : Same Hf (upd Hf p (.tup vs)) := fun b u e => by
    rw [upd_ne (ne_of_none e (w.nof np))]; exact e
  exact q _ am _ _ (Fm.new w.sub np) (w.new np) (.tup hz (SqT.of upd_same) (r.mono (.refl _) sm))
abbrev Fin (K : PySem.W.Frag) (am : List Addr) (st : Store) (Hf H : Hp) (z : D) (Q : VK) : Prop := ∀ r am' Hf' H', Fm am Hf H am' Hf' H' → Wf K am' st Hf' H' → Rep K am' Hf' r z → Q r H'
theorem Fin.now {z : D} {Q : VK} {v : V} (q : Fin K am st Hf H z Q) (w : Wf K am st Hf H) (r : Rep K am Hf v z) : Q v H := q v am Hf H (.refl _ _ _) w r
theorem bin_den {o : BOp} {x y z : D} {v u : V} {Q : VK} (w : Wf K am st Hf H) (hx : Opd K am Hf H v x) (hy : Opd K am Hf H u y) (e : binD o x y = some z) (q : Fin K am st Hf H z Q) : rBin K o v u H Q := by
  unfold binD at e
  split at e
  · cases e
    exact .inl ⟨_, _, hx.vInt, hy.vInt, q.now w (.int _)⟩
  · split at e
    · rename_i hl
      cases e
      refine .inr (.inl ⟨_, _, hx.vStr.1, hy.vStr.1, by rw [tx_len, tx_len, ← line_eq]; exact hl, ?_⟩)
      rw [tx_app]
      exact q.now w (.str _ (by rw [List.length_append]; exact hl))
    · cases e
  · split at e
    · rename_i hl
      cases e
      obtain ⟨p, vs, rfl, hp, rp, _, _⟩ := hx.lst w
      obtain ⟨p', vs', rfl, hp', rp', _, _⟩ := hy.lst w
      exact .inr (.inr (.inl ⟨_, _, _, _, rfl, rfl, hp, hp', by rw [rp.length, rp'.length, ← line_eq]; exact hl, new_lst w (rp.append rp') (by rw [List.length_append]; exact hl) q⟩))
    · cases e
  · split at e
    · rename_i hl
      cases e
      obtain ⟨p, vs, rfl, hp, rp, hz⟩ := hx.vTup
      obtain ⟨p', vs', rfl, hp', rp', hz'⟩ := hy.vTup
      refine .inr (.inr (.inr ⟨_, _, _, _, rfl, rfl, Same.seqT w.sub hp, Same.seqT w.sub hp', by rw [rp.length, rp'.length, ← line_eq]; exact hl, fun e => ?_, fun _ e => ?_, fun _ _ => new_tup w (rp.append rp') (by rw [List.length_append]; exact hl) q⟩))
      · subst e
        cases rp
        exact q.now w (.tup hz' hp' rp')
      · subst e
        cases rp'
        rw [List.append_nil] at q
        exact q.now w (.tup hz hp rp)
    · cases e
  · cases e
    exact ⟨_, _, hx.vInt, hy.vInt, q.now w (.int _)⟩
  · split at e
    · rename_i hl
      cases e
      refine .inl ⟨_, _, hx.vInt, hy.vInt, ?_, q.now w (.int _)⟩
      unfold mulOk big at hl
      simp only [Bool.or_eq_true, Bool.and_eq_true, decide_eq_true_eq] at hl
      exact hl
    · cases e
  · split at e
    · rename_i hl
      cases e
      obtain ⟨l1, l2, l3⟩ := hl
      refine .inr ⟨_, _, hx.vStr.1, hy.vInt, l1, by rw [tx_len]; exact l2, by rw [tx_len, ← line_eq]; exact l3, ?_, ?_⟩
      · rw [rep_tx, tx_len, rep_len, ← line_eq]; exact l3
      · rw [rep_tx]
        exact q.now w (.str _ (by rw [rep_len]; exact l3))
    · cases e
  · split at e
    · rename_i hl
      cases e
      exact ⟨_, _, hx.vInt, hy.vInt, hl, q.now w (.int _)⟩
    · cases e
  · split at e
    · rename_i hl
      cases e
      exact ⟨_, _, hx.vInt, hy.vInt, hl, q.now w (.int _)⟩
    · cases e
  · split at e
    · rename_i hl
      cases e
      exact ⟨_, _, hx.vInt, hy.vInt, hl, q.now w (.int _)⟩
    · cases e
  · cases e
theorem scal_den {x y : D} {b : Bool} (e : scalD x y = some b) : flatD x = true ∧ flatD y = true ∧ scal (vf x) (vf y) = true ∧ decide (vf x = vf y) = b := by
  unfold scalD at e
  split at e
  · cases e; exact ⟨rfl, rfl, rfl, rfl⟩
  · cases e; exact ⟨rfl, rfl, rfl, dec_bl⟩
  · cases e; exact ⟨rfl, rfl, rfl, dec_int⟩
  · rename_i a c
    cases e
    refine ⟨rfl, rfl, rfl, ?_⟩
    show decide (V.str (tx a) = V.str (tx c)) = (a == c)
    by_cases h : a = c
    · subst h; simp
    · have h2 : ¬ V.str (tx a) = V.str (tx c) := fun z => h (tx_inj (V.str.inj z))
      rw [decide_eq_false h2]
      exact (beq_eq_false_iff_ne.mpr h).symm
  · cases e
theorem Opd.flat {v : V} {d : D} (h : Opd K am Hf H v d) (f : flatD d = true) : v = vf d := (h.rep (fun _ z => by subst z; cases f)).flat f
theorem deq_den {x y : D} {b : Bool} {v u : V} (w : Wf K am st Hf H) (hx : Opd K am Hf H v x) (hy : Opd K am Hf H u y) (e : deq x y = some b) :
    (scal v u = true ∧ decide (v = u) = b) ∨ (∃ d e, Dp K H v d ∧ Dp K H u e ∧ SeqAt.shaped d = true ∧ SeqAt.shaped e = true ∧ PyData.eqv d e = b) ∨ (b = false ∧ ∃ p q xs ys, v = .ref p ∧ u = .ref q ∧ SqL K H p xs ∧ SqL K H q ys ∧ xs.length ≠ ys.length) := by
  unfold deq at e
  split at e
  · rename_i c hs
    cases e
    obtain ⟨f1, f2, h1, h2⟩ := scal_den hs
    rw [hx.flat f1, hy.flat f2]
    exact .inl ⟨h1, h2⟩
  · split at e
    · rename_i hl
      cases e
      unfold lenNe at hl
      split at hl
      · rename_i xs ys _
        have hne := of_decide_eq_true hl
        obtain ⟨p, vs, rfl, hp, rp, _, _⟩ := hx.lst w
        obtain ⟨p', vs', rfl, hp', rp', _, _⟩ := hy.lst w
        exact .inr (.inr ⟨rfl, p, p', vs, vs', rfl, rfl, SqL.of hp, SqL.of hp', by rw [rp.length, rp'.length]; exact hne⟩)
      · rename_i xs ys _
        have hne := of_decide_eq_true hl
        obtain ⟨p, vs, rfl, hp, rp, _⟩ := (hx.rep (fun _ z => by cases z)).vScr
        obtain ⟨p', vs', rfl, hp', rp', _, _⟩ := hy.lst w
        exact .inr (.inr ⟨rfl, p, p', vs, vs', rfl, rfl, w.sub.seq hp, SqL.of hp', by rw [rp.length, rp'.length]; exact hne⟩)
      · cases hl
    · split at e
      · rename_i p q hp hq
        split at e
        · rename_i hsh
          cases e
          rw [Bool.and_eq_true] at hsh
          exact .inr (.inl ⟨p, q, hx.dp w hp, hy.dp w hq, hsh.1, hsh.2, rfl⟩)
        · cases e
      · cases e
theorem in_den {x y : D} {b : Bool} {v u : V} (w : Wf K am st Hf H) (hx : Opd K am Hf H v x) (hy : Opd K am Hf H u y) (e : inD x y = some b) :
    (∃ (c : Nat) (z : Str), v = .str ⟨#[c]⟩ ∧ u = .str z ∧ decide (c ∈ z.cps.toList) = b) ∨ (∃ i j, v = .str i ∧ u = .str j ∧ (!(Builtin.Str.occurrences j i 0 j.length 1).isEmpty) = b) ∨
    (∃ d ds, Dp K H v d ∧ Dp K H u (.list ds) ∧ SeqAt.shaped d = true ∧ SeqAt.shaped (.list ds) = true ∧ (ds.any fun z => PyData.eqv z d) = b) ∨
    (∃ p xs, u = .ref p ∧ (SqL K H p xs ∨ SqT K H p xs) ∧ flatV v = true ∧ xs.all flatV = true ∧ inV v xs = b) := by
  unfold inD at e
  split at e
  · rename_i a c
    cases e
    rw [hx.vStr.1, hy.vStr.1]
    unfold inS
    split
    · rename_i k
      exact .inl ⟨k, _, rfl, rfl, by rw [tx_cps]⟩
    · exact .inr (.inl ⟨_, _, rfl, rfl, rfl⟩)
  · rename_i ys _
    split at e
    · rename_i p q hp hq
      split at e
      · rename_i hsh
        cases e
        rw [Bool.and_eq_true] at hsh
        exact .inr (.inr (.inl ⟨p, q, hx.dp w hp, hy.dp w (by rw [D.py, hq] <;> rfl), hsh.1, hsh.2, rfl⟩))
      · cases e
    · cases e
  · rename_i ys _
    split at e
    · rename_i hf
      cases e
      rw [Bool.and_eq_true] at hf
      obtain ⟨a, vs, rfl, ht, r, _⟩ := hy.vTup
      rw [hx.flat hf.1]
      refine .inr (.inr (.inr ⟨a, vs, rfl, .inr (Same.seqT w.sub ht), flat_vf hf.1, ?_, ?_⟩))
      · rw [r.flat hf.2]; exact flat_all hf.2
      · rw [r.flat hf.2]
    · cases e
  · cases e
theorem is_den {x y : D} {b : Bool} {v u : V} (hx : Opd K am Hf H v x) (hy : Opd K am Hf H u y) (e : isD x y = some b) :
    (u = .non ∧ decide (v = .non) = b) ∨ ∃ i j : Bool, v = .bl i ∧ u = .bl j ∧ decide (i = j) = b := by
  unfold isD at e
  split at e
  · cases e
    exact .inl ⟨hy.vNon, by rw [hx.vNon]; rfl⟩
  · rename_i i j
    cases e
    refine .inr ⟨i, j, hx.vBl, hy.vBl, ?_⟩
    cases i <;> cases j <;> rfl
  · cases e
  · rename_i h1 h2
    cases e
    refine .inl ⟨hy.vNon, decide_eq_false fun z => ?_⟩
    subst z
    rcases hx with h | ⟨_, _, _, z, _⟩
    · cases h
      exact h2 rfl
    · cases z
  · cases e
theorem cmp_den {o : COp} {x y : D} {b : Bool} {v u : V} {Q : VK} (w : Wf K am st Hf H) (hx : Opd K am Hf H v x) (hy : Opd K am Hf H u y) (e : cmpD o x y = some b) (q : Q (.bl b) H) : rCmp K o v u H Q := by
  unfold cmpD at e
  split at e
  · rcases deq_den w hx hy e with ⟨h1, h2⟩ | ⟨d, e', h1, h2, h3, h4, h5⟩ | ⟨rfl, p, p', xs, ys, h1, h2, h3, h4, h5⟩
    · exact .inl ⟨h1, by rw [h2]; exact q⟩
    · exact .inr (.inl ⟨d, e', h1, h2, h3, h4, by rw [h5]; exact q⟩)
    · exact .inr (.inr ⟨p, p', xs, ys, h1, h2, h3, h4, h5, q⟩)
  · cases h : deq x y with
    | none => rw [h] at e; cases e
    | some k =>
      rw [h] at e
      cases e
      rcases deq_den w hx hy h with ⟨h1, h2⟩ | ⟨d, e', h1, h2, h3, h4, h5⟩ | ⟨rfl, p, p', xs, ys, h1, h2, h3, h4, h5⟩
      · exact .inl ⟨h1, by rw [h2]; exact q⟩
      · exact .inr (.inl ⟨d, e', h1, h2, h3, h4, by rw [h5]; exact q⟩)
      · exact .inr (.inr ⟨p, p', xs, ys, h1, h2, h3, h4, h5, q⟩)
  · cases e; exact ⟨_, _, hx.vInt, hy.vInt, q⟩
  · cases e; exact ⟨_, _, hx.vInt, hy.vInt, q⟩
  · cases e; exact ⟨_, _, hx.vInt, hy.vInt, q⟩
  · cases e; exact ⟨_, _, hx.vInt, hy.vInt, q⟩
  · rcases is_den hx hy e with ⟨h1, h2⟩ | ⟨i, j, h1, h2, h3⟩
    · exact .inl ⟨h1, by rw [h2]; exact q⟩
    · exact .inr ⟨i, j, h1, h2, by rw [h3]; exact q⟩
  · cases h : isD x y with
    | none => rw [h] at e; cases e
    | some k =>
      rw [h] at e
      cases e
      rcases is_den hx hy h with ⟨h1, h2⟩ | ⟨i, j, h1, h2, h3⟩
      · exact .inl ⟨h1, by rw [h2]; exact q⟩
      · exact .inr ⟨i, j, h1, h2, by rw [h3]; exact q⟩
  · rcases in_den w hx hy e with ⟨c, z, h1, h2, h3⟩ | ⟨i, j, h1, h2, h3⟩ | ⟨d, ds, h1, h2, h3, h4, h5⟩ | ⟨p, xs, h1, h2, h3, h4, h5⟩
    · exact .inl ⟨c, z, h1, h2, by rw [h3]; exact q⟩
    · exact .inr (.inl ⟨i, j, h1, h2, by rw [h3]; exact q⟩)
    · exact .inr (.inr (.inl ⟨d, ds, h1, h2, h3, h4, by rw [h5]; exact q⟩))
    · exact .inr (.inr (.inr ⟨p, xs, h1, h2, h3, h4, by rw [if_neg Bool.false_ne_true, h5]; exact q⟩))
  · cases h : inD x y with
    | none => rw [h] at e; cases e
    | some k =>
      rw [h] at e
      cases e
      rcases in_den w hx hy h with ⟨c, z, h1, h2, h3⟩ | ⟨i, j, h1, h2, h3⟩ | ⟨d, ds, h1, h2, h3, h4, h5⟩ | ⟨p, xs, h1, h2, h3, h4, h5⟩
      · exact .inl ⟨c, z, h1, h2, by rw [h3]; exact q⟩
      · exact .inr (.inl ⟨i, j, h1, h2, by rw [h3]; exact q⟩)
      · exact .inr (.inr (.inl ⟨d, ds, h1, h2, h3, h4, by rw [h5]; exact q⟩))
      · exact .inr (.inr (.inr ⟨p, xs, h1, h2, h3, h4, by rw [if_pos rfl, h5]; exact q⟩))
  · cases e
end
end PF
namespace PF
open PySem L2
theorem glued_tx (a : Tx) : ∀ ys : List Tx, Txt.join (tx a) (ys.map tx) = tx (joinT a ys) := fun ys => by
  show Builtin.Str.glued (tx a) (ys.map tx) = _
  rw [PySem.StrLaws.glued_eq_join]
  induction ys with
  | nil => rfl
  | cons x r ih =>
    cases r with
    | nil => rfl
    | cons y r =>
      show Str.join (tx a) (tx x :: tx y :: r.map tx) = tx (x ++ a ++ joinT a (y :: r))
      rw [← tx_app, ← tx_app, ← ih]
      rfl
theorem joinT_len (a : Tx) : ∀ ys : List Tx, (joinT a ys).length ≤ (ys.map (·.length)).sum + ys.length * a.length
  | [] => by simp [joinT]
  | [x] => by simp [joinT]
  | x :: y :: r => by
    have ih := joinT_len a (y :: r)
    rw [joinT, List.length_append, List.length_append, List.map_cons, List.sum_cons, List.length_cons, Nat.succ_mul]
    omega
section
variable {K : PySem.W.Frag} {cl : Nat → Addr} {am : List Addr} {st : Store} {Hf H : Hp}
theorem tru_den {x : D} {k : Bool} {v : V} (w : Wf K am st Hf H) (hx : Opd K am Hf H v x) (e : truthD x = some k) : TruV K v H k := by
  unfold truthD at e
  split at e
  · cases e; rw [hx.vNon]; rfl
  · cases e; rw [hx.vBl]; rfl
  · cases e; rw [hx.vInt]; rfl
  · rename_i s
    cases e
    rw [hx.vStr.1]
    refine ⟨by rw [tx_len, ← line_eq]; exact hx.vStr.2, ?_⟩
    rw [tx_len]
    cases s with
    | nil => rfl
    | cons c r =>
      show true = (((c :: r).length : Int) != 0)
      rw [List.length_cons]
      symm
      rw [bne_iff_ne]
      omega
  · rename_i s
    cases e
    obtain ⟨p, vs, rfl, hp, r, hz, _⟩ := hx.lst w
    refine .inl ⟨vs, SqL.of hp, ?_⟩
    have := r.length
    cases vs <;> cases s <;> first | rfl | (simp at this)
  · rename_i s
    cases e
    obtain ⟨p, vs, rfl, hp, r, hz⟩ := hx.vTup
    refine .inr (.inl ⟨vs, Same.seqT w.sub hp, ?_⟩)
    have := r.length
    cases vs <;> cases s <;> first | rfl | (simp at this)
  · cases e
theorem atI_rep {vs : List V} {ds : List D} {i : Int} {d : D} (r : RepL K am Hf vs ds) (e : atI ds i = some d) : ∃ v, atI vs i = some v ∧ Rep K am Hf v d := by
  unfold atI at e ⊢
  rw [r.length]
  cases h : ixN ds.length i with
  | none => rw [h] at e; cases e
  | some j =>
    rw [h] at e
    exact r.get e
theorem idx_den {x y z : D} {v u : V} {Q : VK} (w : Wf K am st Hf H) (hx : Opd K am Hf H v x) (hy : Rep K am Hf u y) (e : idxD st x y = some z) (q : Fin K am st Hf H z Q) : rIx K v u H Q := by
  unfold idxD at e
  split at e
  · obtain ⟨p, vs, rfl, hp, r, hz, _⟩ := hx.lst w
    obtain ⟨v', h1, h2⟩ := atI_rep r e
    exact .inl ⟨p, vs, _, v', rfl, hy.vInt, SqL.of hp, h1, q.now w h2⟩
  · obtain ⟨p, vs, rfl, hp, r, hz⟩ := (hx.rep (fun _ z => by cases z)).vScr
    obtain ⟨v', h1, h2⟩ := atI_rep r e
    exact .inl ⟨p, vs, _, v', rfl, hy.vInt, w.sub.seq hp, h1, q.now w h2⟩
  · obtain ⟨p, vs, rfl, hp, r, hz⟩ := hx.vTup
    obtain ⟨v', h1, h2⟩ := atI_rep r e
    exact .inr (.inl ⟨p, vs, _, v', rfl, hy.vInt, Same.seqT w.sub hp, h1, q.now w h2⟩)
  · rename_i s i
    cases h : atI s i with
    | none => rw [h] at e; cases e
    | some c =>
      rw [h] at e
      cases e
      refine .inr (.inr ⟨tx s, i, c, hx.vStr.1, hy.vInt, by rw [tx_len, ← line_eq]; exact hx.vStr.2, by rw [tx_cps]; exact h, ?_⟩)
      exact q.now w (.str [c] (by show 1 ≤ line; decide))
  · rename_i n i
    split at e
    · rename_i xs hc
      obtain ⟨a, rfl, ha⟩ := (hx.rep (fun _ z => by cases z)).vRef
      obtain ⟨vs, hp, r, _⟩ := w.cell _ _ _ ha hc
      obtain ⟨v', h1, h2⟩ := atI_rep r e
      exact .inl ⟨a, vs, _, v', rfl, hy.vInt, SqL.of hp, h1, q.now w h2⟩
    · cases e
  · cases e
theorem cut_rep {vs : List V} {ds : List D} {lo hi : Option Int} (r : RepL K am Hf vs ds) : RepL K am Hf (cutV vs lo hi) (cut ds lo hi) := by
  unfold cutV cut
  rw [r.length]
  exact (r.drop _).take _
theorem cut_len {α : Type} (xs : List α) (lo hi : Option Int) : (cut xs lo hi).length ≤ xs.length := by
  unfold cut
  rw [List.length_take, List.length_drop]
  omega
theorem slc_den {x z : D} {v : V} {lo hi : Option Int} {Q : VK} (w : Wf K am st Hf H) (hx : Opd K am Hf H v x) (e : slcD x lo hi = some z) (q : Fin K am st Hf H z Q) : rSlc K v lo hi H Q := by
  unfold slcD at e
  split at e
  · cases e
    obtain ⟨p, vs, rfl, hp, r, hz, _⟩ := hx.lst w
    exact .inl ⟨p, vs, rfl, SqL.of hp, new_lst w (cut_rep r) (Nat.le_trans (cut_len _ _ _) hz) q⟩
  · rename_i xs
    cases e
    obtain ⟨p, vs, rfl, hp, r, hz⟩ := hx.vTup
    refine .inr (.inl ⟨p, vs, rfl, Same.seqT w.sub hp, fun hn => ?_, fun _ => new_tup w (cut_rep r) (Nat.le_trans (cut_len _ _ _) hz) q⟩)
    rw [r.length] at hn
    have e0 : cut xs lo hi = xs := by
      unfold cut
      rw [hn.1, hn.2]
      simp
    rw [e0] at q
    exact q.now w (.tup hz hp r)
  · rename_i s
    cases e
    refine .inr (.inr ⟨tx s, hx.vStr.1, by rw [tx_len, ← line_eq]; exact hx.vStr.2, ?_⟩)
    have e1 : cutS (tx s) lo hi = tx (cut s lo hi) := by
      unfold cutS cut
      rw [tx_cps, tx_len]
      rfl
    rw [e1]
    exact q.now w (.str _ (Nat.le_trans (cut_len _ _ _) hx.vStr.2))
  · cases e
theorem bools_rep : ∀ {vs : List V} {ds : List D} {bs : List Bool}, RepL K am Hf vs ds → boolsOf ds = some bs → vs = bs.map V.bl
  | _, _, _, .nil, e => by cases e; rfl
  | _, _, bs, .cons (d := d) (ds := ds) h r, e => by
    cases d with
    | bl b =>
      rw [boolsOf] at e
      cases q : boolsOf ds with
      | none => rw [q] at e; cases e
      | some cs =>
        rw [q] at e
        cases e
        rw [List.map_cons, h.vBl, bools_rep r q]
    | _ => cases e
theorem texts_rep : ∀ {vs : List V} {ds : List D} {bs : List Tx}, RepL K am Hf vs ds → textsOf ds = some bs → vs = (bs.map tx).map V.str
  | _, _, _, .nil, e => by cases e; rfl
  | _, _, bs, .cons (d := d) (ds := ds) h r, e => by
    cases d with
    | str b =>
      rw [textsOf] at e
      cases q : textsOf ds with
      | none => rw [q] at e; cases e
      | some cs =>
        rw [q] at e
        cases e
        rw [List.map_cons, List.map_cons, h.vStr.1, texts_rep r q]
    | _ => cases e
theorem OpdL.one {vs : List V} {d : D} (h : OpdL K am Hf H vs [d]) : ∃ v, vs = [v] ∧ Opd K am Hf H v d := by
  cases h with
  | cons h r =>
    cases r
    exact ⟨_, rfl, h⟩
theorem OpdL.two {vs : List V} {d e : D} (h : OpdL K am Hf H vs [d, e]) : ∃ v u, vs = [v, u] ∧ Opd K am Hf H v d ∧ Opd K am Hf H u e := by
  cases h with
  | cons h r =>
    obtain ⟨u, rfl, h2⟩ := r.one
    exact ⟨_, _, rfl, h, h2⟩
theorem OpdL.zero {vs : List V} (h : OpdL K am Hf H vs []) : vs = [] := by cases h; rfl
theorem ty_den {x : D} {n : String} {v : V} (w : Wf K am st Hf H) (hx : Opd K am Hf H v x) (e : tyName x = some n) : TyX K H v (.type n) := by
  unfold tyName at e
  split at e
  · cases e; rw [hx.vNon]; exact .base .non
  · cases e; rw [hx.vBl]; exact .base (.bl _)
  · cases e; rw [hx.vInt]; exact .base (.int _)
  · cases e; rw [hx.vStr.1]; exact .base (.str _)
  · cases e
    obtain ⟨p, vs, rfl, hp, r, hz, _⟩ := hx.lst w
    exact .base (.lst hp)
  · cases e
    obtain ⟨p, vs, rfl, hp, r, hz⟩ := hx.vTup
    rcases Same.seqT w.sub hp with (h | ⟨o, h⟩) | ⟨o, its, n, h1, h2, _⟩
    · exact .base (.tup h)
    · exact .fTuple h
    · exact .kTuple h1 h2
  · cases e
    rcases hx with h | ⟨_, _, _, _, z, _⟩
    · cases h with
      | dct h r =>
        rcases h with h | ⟨q, h⟩
        · exact .base (.dK (w.sub _ _ h))
        · exact .fDict (w.sub _ _ h)
    · cases z
  · cases e
theorem Rep.vDct {v : V} {ds : List (Key × D)} (h : Rep K am Hf v (.dct ds)) : ∃ a ks, v = .ref a ∧ Rd Hf a (.dK ks) ∧ RepK K am Hf ks ds := by
  cases h with
  | dct h r => exact ⟨_, _, rfl, h, r⟩
theorem kShort_len {kvs : List (Key × D)} (h : kShort kvs = true) : kvs.length ≤ line := by
  unfold kShort at h
  rw [Bool.and_eq_true] at h
  exact of_decide_eq_true h.1
theorem kShort_at {kvs : List (Key × D)} (h : kShort kvs = true) {kv : Key × D} (hm : kv ∈ kvs) : Rep K am Hf (kV kv.1) (kD kv.1) := by
  unfold kShort at h
  rw [Bool.and_eq_true] at h
  have := List.all_eq_true.mp h.2 kv hm
  cases hk : kv.1 with
  | inl i => exact .int i
  | inr s =>
    rw [hk] at this
    have e : V.str s = .str (tx (unt s)) := by rw [tx_unt]
    show Rep K am Hf (.str s) (.str (unt s))
    rw [e]
    exact .str _ (of_decide_eq_true this)
theorem RepK.keysG : ∀ {vs : List (Key × V)} {ds : List (Key × D)}, RepK K am Hf vs ds → (∀ kv ∈ ds, Rep K am Hf (kV kv.1) (kD kv.1)) → RepL K am Hf (vs.map fun kv => kV kv.1) (ds.map fun kv => kD kv.1)
  | _, _, .nil, _ => .nil
  | _, _, .cons _ r, h => .cons (h _ List.mem_cons_self) (RepK.keysG r fun kv hm => h kv (List.mem_cons_of_mem _ hm))
theorem RepK.keys {vs : List (Key × V)} {ds : List (Key × D)} (r : RepK K am Hf vs ds) (h : kShort ds = true) : RepL K am Hf (vs.map fun kv => kV kv.1) (ds.map fun kv => kD kv.1) := r.keysG fun kv hm => kShort_at h hm
theorem RepK.len : ∀ {vs : List (Key × V)} {ds : List (Key × D)}, RepK K am Hf vs ds → vs.length = ds.length
  | _, _, .nil => rfl
  | _, _, .cons _ r => by rw [List.length_cons, List.length_cons, RepK.len r]
theorem RepK.look {k : Key} : ∀ {vs : List (Key × V)} {ds : List (Key × D)}, RepK K am Hf vs ds → (∃ v d, valV vs k = some v ∧ lookK ds k = some d ∧ Rep K am Hf v d) ∨ (valV vs k = none ∧ lookK ds k = none)
  | _, _, .nil => .inr ⟨rfl, rfl⟩
  | _, _, .cons (k := k') (v := v) (d := d) (vs := vs) (ds := ds) h r => by
    by_cases e : k' = k
    · refine .inl ⟨v, d, ?_, ?_, h⟩
      · unfold valV
        rw [List.find?_cons_of_pos (by simpa using e)]
        rfl
      · unfold lookK
        rw [List.find?_cons_of_pos (by simpa using e)]
        rfl
    · have e1 : valV ((k', v) :: vs) k = valV vs k := by
        unfold valV
        rw [List.find?_cons_of_neg (by simpa using e)]
      have e2 : lookK ((k', d) :: ds) k = lookK ds k := by
        unfold lookK
        rw [List.find?_cons_of_neg (by simpa using e)]
      rw [e1, e2]
      exact RepK.look r
theorem key_rep {k : Key} {y : D} {v : V} (h : Rep K am Hf v y) (e : keyD y = some k) : v = kV k := by
  unfold keyD at e
  split at e
  · cases e; exact h.vInt
  · cases e; exact h.vStr.1
  · cases e
theorem ints_rep : ∀ {vs : List V} {ds : List D} {bs : List Int}, RepL K am Hf vs ds → intsOf ds = some bs → vs = bs.map V.int
  | _, _, _, .nil, e => by cases e; rfl
  | _, _, bs, .cons (d := d) (ds := ds) h r, e => by
    cases d with
    | int b =>
      rw [intsOf] at e
      cases q : intsOf ds with
      | none => rw [q] at e; cases e
      | some cs =>
        rw [q] at e
        cases e
        rw [List.map_cons, h.vInt, ints_rep r q]
    | _ => cases e
theorem bf_den {f : BF} {xs : List D} {z : D} {vs : List V} {Q : VK} (w : Wf K am st Hf H) (hx : OpdL K am Hf H vs xs) (e : bfD st f xs = some z) (q : Fin K am st Hf H z Q) : rBF K f vs H Q := by
  unfold bfD at e
  split at e
  · cases e
    obtain ⟨v, rfl, h⟩ := hx.one
    exact ⟨v, _, rfl, by rw [h.vStr.1]; exact ⟨by rw [tx_len, ← line_eq]; exact h.vStr.2, (tx_len _).symm⟩, q.now w (.int _)⟩
  · cases e
    obtain ⟨v, rfl, h⟩ := hx.one
    obtain ⟨p, vs, rfl, hp, r, hz, _⟩ := h.lst w
    exact ⟨_, _, rfl, .inl ⟨vs, SqL.of hp, r.length.symm⟩, q.now w (.int _)⟩
  · cases e
    obtain ⟨v, rfl, h⟩ := hx.one
    obtain ⟨p, vs, rfl, hp, r, hz⟩ := h.vTup
    exact ⟨_, _, rfl, .inr ⟨vs, Same.seqT w.sub hp, r.length.symm⟩, q.now w (.int _)⟩
  · cases e
    obtain ⟨v, rfl, h⟩ := hx.one
    obtain ⟨p, vs, rfl, hp, r, hz⟩ := (h.rep (fun _ z => by cases z)).vScr
    exact ⟨_, _, rfl, .inl ⟨vs, w.sub.seq hp, r.length.symm⟩, q.now w (.int _)⟩
  · cases e
    obtain ⟨v, u, rfl, h, k⟩ := hx.two
    exact ⟨_, _, by rw [h.vInt, k.vInt], q.now w (.int _)⟩
  · cases e
    obtain ⟨v, u, rfl, h, k⟩ := hx.two
    exact ⟨_, _, by rw [h.vInt, k.vInt], q.now w (.int _)⟩
  · cases e
    obtain ⟨v, rfl, h⟩ := hx.one
    exact .inl (.inl ⟨_, by rw [h.vInt], q.now w (.int _)⟩)
  · cases e
    obtain ⟨v, rfl, h⟩ := hx.one
    exact .inl (.inr ⟨_, by rw [h.vBl], q.now w (.int _)⟩)
  · rename_i s
    split at e
    · rename_i hl
      obtain ⟨v, rfl, h⟩ := hx.one
      cases hn : PySem.intText? (tx s) with
      | none => rw [hn] at e; cases e
      | some n =>
        rw [hn] at e
        cases e
        exact .inr ⟨_, _, by rw [h.vStr.1], hn, by rw [tx_len]; exact hl, q.now w (.int _)⟩
    · cases e
  · cases e
    obtain ⟨v, rfl, h⟩ := hx.one
    obtain ⟨h1, h2⟩ := h.vStr
    exact .inr ⟨_, by rw [h1], q.now w (.str _ h2)⟩
  · split at e
    · rename_i i hl
      cases e
      obtain ⟨v, rfl, h⟩ := hx.one
      refine .inl ⟨_, by rw [h.vInt], hl.1, ?_⟩
      rw [← tx_unt (toString i)]
      exact q.now w (.str _ hl.2)
    · cases e
  · cases e
    obtain ⟨v, rfl, h⟩ := hx.one
    obtain ⟨p, vs, rfl, hp, r, hz, _⟩ := h.lst w
    exact .inl ⟨_, _, rfl, .inl (SqL.of hp), new_lst w r hz q⟩
  · cases e
    obtain ⟨v, rfl, h⟩ := hx.one
    obtain ⟨p, vs, rfl, hp, r, hz⟩ := h.vTup
    exact .inl ⟨_, _, rfl, .inr (Same.seqT w.sub hp), new_lst w r hz q⟩
  · split at e
    · rename_i kvs hs
      cases e
      obtain ⟨v, rfl, h⟩ := hx.one
      obtain ⟨a, ks, rfl, hd, rk⟩ := (h.rep (fun _ z => by cases z)).vDct
      exact .inr ⟨a, ks, rfl, hd.same w.sub, new_lst w (rk.keys hs) (by rw [List.length_map]; exact kShort_len hs) q⟩
    · cases e
  · cases e
    obtain ⟨v, rfl, h⟩ := hx.one
    obtain ⟨p, vs, rfl, hp, r, hz, _⟩ := h.lst w
    exact ⟨_, _, rfl, .inl ⟨SqL.of hp, new_tup w r hz q⟩⟩
  · cases e
    obtain ⟨v, rfl, h⟩ := hx.one
    obtain ⟨p, vs, rfl, hp, r, hz⟩ := h.vTup
    exact ⟨_, _, rfl, .inr ⟨Same.seqT w.sub hp, q.now w (.tup hz hp r)⟩⟩
  · rename_i xs
    cases hb : boolsOf xs with
    | none => rw [hb] at e; cases e
    | some bs =>
      rw [hb] at e
      cases e
      obtain ⟨v, rfl, h⟩ := hx.one
      obtain ⟨p, vs, rfl, hp, r, hz, _⟩ := h.lst w
      exact ⟨p, bs, rfl, by rw [← bools_rep r hb]; exact SqL.of hp, q.now w (.bl _)⟩
  · rename_i xs
    cases hb : boolsOf xs with
    | none => rw [hb] at e; cases e
    | some bs =>
      rw [hb] at e
      cases e
      obtain ⟨v, rfl, h⟩ := hx.one
      obtain ⟨p, vs, rfl, hp, r, hz, _⟩ := h.lst w
      exact ⟨p, bs, rfl, by rw [← bools_rep r hb]; exact SqL.of hp, q.now w (.bl _)⟩
  · rename_i xs
    cases hb : intsOf xs with
    | none => rw [hb] at e; cases e
    | some bs =>
      rw [hb] at e
      cases e
      obtain ⟨v, rfl, h⟩ := hx.one
      obtain ⟨p, vs, rfl, hp, r, hz, _⟩ := h.lst w
      exact ⟨p, bs, rfl, by rw [← ints_rep r hb]; exact SqL.of hp, q.now w (.int _)⟩
  · rename_i x n
    cases hm : tyName x with
    | none => rw [hm] at e; cases e
    | some m =>
      rw [hm] at e
      cases hk : kitB m n with
      | none => rw [Option.bind_some, hk] at e; cases e
      | some b =>
        rw [Option.bind_some, hk] at e
        cases e
        obtain ⟨v, u, rfl, h, k⟩ := hx.two
        have ku := (k.rep (fun _ z => by cases z)).vTy
        subst ku
        exact ⟨v, _, _, _, b, rfl, .ty n, ty_den w h hm, kit_ty hk, q.now w (.bl _)⟩
  · cases e
theorem fmt_den {x z : D} {v : V} {Q : VK} (w : Wf K am st Hf H) (h : Rep K am Hf v x) (e : fmtD x = some z) (q : Fin K am st Hf H z Q) : (∃ y, v = V.str y ∧ Str.length y ≤ sizeLine ∧ Q (V.str y) H) ∨ ∃ i, v = V.int i ∧ Nat.log2 (Int.natAbs i) < 1920 ∧ Q (V.str (Str.ofString (toString i))) H := by
  unfold fmtD at e
  split at e
  · cases e
    exact .inl ⟨_, h.vStr.1, by rw [tx_len, ← line_eq]; exact h.vStr.2, q.now w (.str _ h.vStr.2)⟩
  · split at e
    · rename_i i hl
      cases e
      refine .inr ⟨i, h.vInt, hl.1, ?_⟩
      have e2 : (Str.ofString (toString i)) = tx (unt (toString i)) := (tx_unt _).symm
      rw [e2]
      exact q.now w (.str _ hl.2)
    · cases e
  · cases e
theorem bm_den {m : BM} {x : D} {xs : List D} {z : D} {v : V} {vs : List V} {Q : VK} (w : Wf K am st Hf H) (h : Rep K am Hf v x) (hx : OpdL K am Hf H vs xs) (e : bmD st m x xs = some z) (q : Fin K am st Hf H z Q) : tyV K (bmTy m) v H ∧ rBM K m v vs H Q := by
  unfold bmD at e
  split at e
  · rename_i s
    split at e
    · rename_i hl
      cases e
      rw [hx.zero, h.vStr.1]
      refine ⟨rfl, _, rfl, rfl, by rw [tx_len]; exact hl, ?_⟩
      rw [← tx_unt (Txt.upper (tx s))]
      refine q.now w (.str _ ?_)
      have h1 := PyProof.Rows.len_upper (tx s)
      rw [tx_len] at h1
      have h2 : (unt (Txt.upper (tx s))).length = (Txt.upper (tx s)).length := by simp [unt, Str.length]
      rw [h2]
      show _ ≤ 16777216
      omega
    · cases e
  · rename_i s
    split at e
    · rename_i hl
      cases e
      rw [hx.zero, h.vStr.1]
      refine ⟨rfl, _, rfl, rfl, by rw [tx_len]; exact hl, ?_⟩
      rw [← tx_unt (Txt.lower (tx s))]
      refine q.now w (.str _ ?_)
      have h1 := PyProof.Rows.len_lower (tx s)
      rw [tx_len] at h1
      have h2 : (unt (Txt.lower (tx s))).length = (Txt.lower (tx s)).length := by simp [unt, Str.length]
      rw [h2]
      show _ ≤ 16777216
      omega
    · cases e
  · rename_i a xs
    cases ht : textsOf xs with
    | none => rw [ht] at e; cases e
    | some ys =>
      rw [ht, Option.bind_some] at e
      split at e
      · rename_i hl
        cases e
        obtain ⟨u, rfl, k⟩ := hx.one
        obtain ⟨p, us, rfl, hp, r, hz, _⟩ := k.lst w
        rw [h.vStr.1]
        refine ⟨rfl, _, p, ys.map tx, rfl, rfl, .inl (by rw [← texts_rep r ht]; exact SqL.of hp), ?_, ?_⟩
        · rw [List.map_map, List.length_map, tx_len]
          have e2 : ((fun x => x.length) ∘ tx : Tx → Nat) = (fun x => x.length) := by
            funext t
            exact tx_len t
          rw [e2]
          exact hl
        · rw [glued_tx]
          exact q.now w (.str _ (Nat.le_trans (joinT_len a ys) hl))
      · cases e
  · cases e
    obtain ⟨u, rfl, k⟩ := hx.one
    rw [h.vStr.1, k.vStr.1]
    exact ⟨rfl, _, _, rfl, rfl, q.now w (.int _)⟩
  · cases e
    obtain ⟨u, rfl, k⟩ := hx.one
    rw [h.vStr.1, k.vStr.1]
    exact ⟨rfl, .inl ⟨_, _, rfl, rfl, q.now w (.int _)⟩⟩
  · cases e
    obtain ⟨u, u', rfl, k, k'⟩ := hx.two
    rw [h.vStr.1, k.vStr.1, k'.vInt]
    exact ⟨rfl, .inr ⟨_, _, _, rfl, rfl, q.now w (.int _)⟩⟩
  · rename_i xs y
    obtain ⟨u, rfl, k⟩ := hx.one
    obtain ⟨p, us, rfl, hp, r, hz⟩ := h.vLst
    cases hj : indexD y xs with
    | none => rw [hj] at e; cases e
    | some j =>
      rw [hj] at e
      cases e
      unfold indexD at hj
      split at hj
      · rename_i hfl
        rw [Bool.and_eq_true] at hfl
        obtain ⟨h1, h2⟩ := hfl
        have hS : SqL K H p us := SqL.of (w.sub _ _ hp)
        have eu : us = xs.map vf := r.flat h2
        have ey : u = vf y := k.flat h1
        obtain ⟨hlt, hjj, hno⟩ := List.findIdx?_eq_some_iff_getElem.mp hj
        refine ⟨.inl ⟨rfl, us, hS⟩, p, us, u, j, (xs.map vf)[j], rfl, rfl, hS, by rw [ey]; exact flat_vf h1, by rw [eu]; exact flat_all h2, by rw [eu]; exact List.getElem?_eq_getElem hlt, by rw [ey]; exact hjj, fun m z' hm hz' => ?_, q.now w (.int _)⟩
        rw [eu] at hz'
        obtain ⟨hm', rfl⟩ := List.getElem?_eq_some_iff.mp hz'
        have := hno m hm
        rw [ey]
        simpa using this
      · cases hj
  · cases e
end
end PF
namespace PF
open PySem L2
/-- what a def promises: what the interpreter gives -/
def spOf (K : PySem.W.Frag) (cl : Nat → Addr) (C : Calls) (f : Nat) : Sp := fun vs H Q E => ∃ am st Hf ds, Wf K am st Hf H ∧ RepL K am Hf vs ds ∧ Post K cl (RV K) (C f ds st) am Hf H Q E
/-- what an __init__ promises: the new instance, filled -/
def PostI (K : PySem.W.Frag) (cl : Nat → Addr) (c : Str) (a : Addr) (r : O D) (am : List Addr) (Hf H : Hp) (Q : VK) (W : XK) : Prop :=
  match r with
  | .ok (.ins c' ds) st' => c' = c ∧ ∀ dx vs am' Hf' H', Fm am Hf H am' Hf' H' → Wf K am' st' Hf' H' → H' a = some (.ins (He.ga K c) dx vs) → Hf' a = none → a ∉ am' → vs.map (·.1) = ds.map (·.1) → (∀ f ∈ ds.map (·.1), NoAttr K (He.ga K c) f) → RepL K am' Hf' (vs.map (·.2)) (ds.map (·.2)) → Q .non H'
  | .exc x st' => ∀ c dd am' Hf' H', Fm am Hf H am' Hf' H' → Wf K am' st' Hf' H' → XOk K cl am' Hf' x c dd → W c dd H'
  | _ => False
def spIni (K : PySem.W.Frag) (cl : Nat → Addr) (C : Calls) (c : Str) (f : Nat) : Sp := fun vs H Q E => ∃ a dx us H1 am st Hf ds, vs = .ref a :: us ∧ H = upd (upd H1 dx (.own a)) a (.ins (He.ga K c) dx []) ∧ H1 a = none ∧ H1 dx = none ∧ dx ≠ a ∧ ClsI K c ∧ Wf K am st Hf H1 ∧ RepL K am Hf us ds ∧ PostI K cl c a (C f ds st) am Hf H1 Q E
abbrev RO (K : PySem.W.Frag) : List Addr → Hp → Hp → V → D → Prop := fun am Hf H v d => Opd K am Hf H v d
abbrev ROs (K : PySem.W.Frag) : List Addr → Hp → Hp → List V → List D → Prop := fun am Hf H v d => OpdL K am Hf H v d
/-- a list that is new and still one's own -/
def PostN (K : PySem.W.Frag) (cl : Nat → Addr) (r : O D) (am : List Addr) (Hf H : Hp) (Q : VK) (W : XK) : Prop :=
  match r with
  | .ok d st' => ∃ ds, d = .lst ds ∧ ∀ p vs am' Hf' H', Fm am Hf H am' Hf' H' → Wf K am' st' Hf' H' → H p = none → H' p = some (.lst vs) → Hf' p = none → p ∉ am' → RepL K am' Hf' vs ds → ds.length ≤ line → Q (.ref p) H'
  | .exc x st' => ∀ c dd am' Hf' H', Fm am Hf H am' Hf' H' → Wf K am' st' Hf' H' → XOk K cl am' Hf' x c dd → W c dd H'
  | .bad => False
/-- a dict that is new and still one's own -/
def PostK (K : PySem.W.Frag) (cl : Nat → Addr) (r : O D) (am : List Addr) (Hf H : Hp) (Q : VK) (W : XK) : Prop :=
  match r with
  | .ok d st' => ∃ ds, d = .dct ds ∧ ∀ p vs am' Hf' H', Fm am Hf H am' Hf' H' → Wf K am' st' Hf' H' → H p = none → H' p = some (.dK vs) → Hf' p = none → p ∉ am' → RepK K am' Hf' vs ds → Q (.ref p) H'
  | .exc x st' => ∀ c dd am' Hf' H', Fm am Hf H am' Hf' H' → Wf K am' st' Hf' H' → XOk K cl am' Hf' x c dd → W c dd H'
  | .bad => False
/-- a dict operand: data, or a dict of the frame's own -/
def OpdK (K : PySem.W.Frag) (am : List Addr) (Hf H : Hp) (v : V) (d : D) : Prop :=
  Rep K am Hf v d ∨ ∃ p vs ds, v = .ref p ∧ d = .dct ds ∧ H p = some (.dK vs) ∧ p ∉ am ∧ RepK K am Hf vs ds
abbrev ROK (K : PySem.W.Frag) : List Addr → Hp → Hp → V → D → Prop := fun am Hf H v d => OpdK K am Hf H v d
theorem OpdK.next {K : PySem.W.Frag} {am am' : List Addr} {Hf H Hf' H' : Hp} {v : V} {d : D} (f : Fm am Hf H am' Hf' H') (h : OpdK K am Hf H v d) : OpdK K am' Hf' H' v d := by
  rcases h with h | ⟨p, vs, ds, rfl, rfl, h1, h2, h3⟩
  · exact .inl (h.mono f.pre f.hf)
  · exact .inr ⟨p, vs, ds, rfl, rfl, f.keep _ _ h1 h2, fun z => h2 (f.offA _ _ h1 z), h3.mono f.pre f.hf⟩
theorem OpdK.dct {K : PySem.W.Frag} {am : List Addr} {st : Store} {Hf H : Hp} {v : V} {ds : List (Key × D)} (w : Wf K am st Hf H) (h : OpdK K am Hf H v (.dct ds)) : ∃ p vs, v = .ref p ∧ Rd H p (.dK vs) ∧ RepK K am Hf vs ds := by
  rcases h with h | ⟨p, vs, ds', rfl, e, h1, _, h3⟩
  · obtain ⟨a, ks, rfl, hd, r⟩ := h.vDct
    exact ⟨a, ks, rfl, hd.same w.sub, r⟩
  · cases e
    exact ⟨p, vs, rfl, .inl h1, h3⟩
/-- what is looked up -/
theorem dget_den {K : PySem.W.Frag} {am : List Addr} {st : Store} {Hf H : Hp} {v u : V} {x y : D} {o : Option D} (w : Wf K am st Hf H) (h : OpdK K am Hf H v x) (r : Rep K am Hf u y) (e : dgetD x y = some o) :
    ∃ p w', v = .ref p ∧ IsD H p ∧ DGet H p u w' ∧ ((∃ a d, w' = some a ∧ o = some d ∧ Rep K am Hf a d) ∨ (w' = none ∧ o = none)) := by
  unfold dgetD at e
  split at e
  · rename_i kvs
    cases hk : keyD y with
    | none => rw [hk] at e; cases e
    | some k =>
      rw [hk] at e
      cases e
      obtain ⟨p, vs, rfl, hd, rk⟩ := h.dct w
      have ek := key_rep r hk
      subst ek
      refine ⟨p, valV vs k, rfl, .inl ⟨_, hd⟩, .inl ⟨vs, k, hd, rfl, rfl⟩, ?_⟩
      rcases rk.look (k := k) with ⟨a, d, h1, h2, h3⟩ | ⟨h1, h2⟩
      · exact .inl ⟨a, d, h1, h2, h3⟩
      · exact .inr ⟨h1, h2⟩
  · cases e
/-- what a def promises that gives a new list -/
def spNew (K : PySem.W.Frag) (cl : Nat → Addr) (C : Calls) (f : Nat) : Sp := fun vs H Q E => ∃ am st Hf ds, Wf K am st Hf H ∧ RepL K am Hf vs ds ∧ PostN K cl (C f ds st) am Hf H Q E
def spF (K : PySem.W.Frag) (cl : Nat → Addr) (C : Calls) : FF := ⟨spOf K cl C, spIni K cl C, spNew K cl C⟩
section
variable {K : PySem.W.Frag} {cl : Nat → Addr} {am am1 : List Addr} {Hf Hf1 H H1 : Hp} {W : XK}
theorem PostN.step {α β : Type} {R1 : List Addr → Hp → Hp → β → α → Prop} {o : O α} {f : α → Store → O D} {Q1 : β → Hp → Prop} {Q : VK}
    (P : PostN K cl (o.bind f) am Hf H Q W) (f0 : Fm am Hf H am1 Hf1 H1)
    (k : ∀ v d st2 am2 Hf2 H2, Fm am Hf H am2 Hf2 H2 → Fm am1 Hf1 H1 am2 Hf2 H2 → Wf K am2 st2 Hf2 H2 → R1 am2 Hf2 H2 v d → PostN K cl (f d st2) am Hf H Q W → Q1 v H2) :
    Post K cl R1 o am1 Hf1 H1 Q1 W := by
  cases o with
  | ok d st2 => exact fun v am2 Hf2 H2 fm wf r => k v d st2 am2 Hf2 H2 (f0.trans fm) fm wf r P
  | exc x st2 => exact fun c dd am2 Hf2 H2 fm wf r => P c dd am2 Hf2 H2 (f0.trans fm) wf r
  | bad => exact P
theorem PostN.liftB {α : Type} {o : Option α} {st : Store} {f : α → Store → O D} {Q : VK} (P : PostN K cl ((lift o st).bind f) am Hf H Q W) : ∃ a, o = some a ∧ PostN K cl (f a st) am Hf H Q W := by
  cases o with
  | none => exact P.elim
  | some a => exact ⟨a, rfl, P⟩
/-- frozen, a new list is data -/
theorem PostN.of {r : O D} {Q : VK} (hl : ∀ d st, r = .ok d st → ∃ ds, d = .lst ds) (P : Post K cl (RV K) r am Hf H Q W) : PostN K cl r am Hf H Q W := by
  cases r with
  | bad => exact P
  | exc x st => exact P
  | ok d st =>
    obtain ⟨ds, rfl⟩ := hl _ _ rfl
    refine ⟨ds, rfl, fun p vs am' Hf' H' fm wf np hp nf na r hz => ?_⟩
    have sm : Same Hf' (upd Hf' p (.lst vs)) := fun b u e => by
      rw [upd_ne (ne_of_none e nf)]; exact e
    exact P _ am' _ H' (fm.frz np nf) (wf.frz hp nf na) (.lst hz upd_same (r.mono (.refl _) sm))
/-- the call of a def that gives a new list -/
theorem PostN.call_ {o : O D} {Q : VK} (P : PostN K cl (o.bind fun d st => (lift (lstD d) st).bind fun ds st => .ok (.lst ds) st) am Hf H Q W) : PostN K cl o am Hf H Q W := by
  cases o with
  | bad => exact P
  | exc x st => exact P
  | ok d st =>
    have P : PostN K cl ((lift (lstD d) st).bind fun ds st => .ok (.lst ds) st) am Hf H Q W := P
    cases d <;> first | exact P | exact P.elim
/-- from an earlier place -/
theorem PostN.from {o : O D} {Q : VK} (P : PostN K cl o am Hf H Q W) (f0 : Fm am Hf H am1 Hf1 H1) (hn : ∀ p, H1 p = none → H p = none) : PostN K cl o am1 Hf1 H1 Q W := by
  cases o with
  | bad => exact P
  | exc x st => exact fun c dd am2 Hf2 H2 fm wf r => P c dd am2 Hf2 H2 (f0.trans fm) wf r
  | ok d st =>
    obtain ⟨ds, e, k⟩ := P
    exact ⟨ds, e, fun p vs am2 Hf2 H2 fm wf np => k p vs am2 Hf2 H2 (f0.trans fm) wf (hn p np)⟩
/-- no error leaves -/
theorem Post.nox_ {α β : Type} {R : List Addr → Hp → Hp → β → α → Prop} {o : O α} {Q : β → Hp → Prop} (P : Post K cl R o.nox am Hf H Q W) : Post K cl R o am Hf H Q fun _ _ _ => False := by
  cases o with
  | ok d st => exact P
  | exc x st => exact P.elim
  | bad => exact P
end
section
variable {K : PySem.W.Frag} {cl : Nat → Addr} {C : Calls}
/-- the comprehension's loop -/
theorem lc_gen {J : It} {n : Nat} {G : Hp → Prop} {Y : Nat → Hp → V → Hp → Prop} {am am1 : List Addr} {Hf H Hf1 H1 : Hp} {H0 : B0} {st1 : Store} {Q : VK} {W : XK} {σ : St} {ρ : Env} {j : Nat} {tt : TT} {te : TE} {ds : List D} {f : D → Store → O (Option D)} {Dl : Addr}
    {ft : D → Store → O Bool} {fe : D → Store → O D}
    (w : Walk J n G Y) (hn : n = ds.length) (hz : ds.length ≤ line) (f0 : Fm am Hf H am1 Hf1 H1) (w1 : Wf K am1 st1 Hf1 H1) (s1 : Sig K am1 Hf1 H1 H0 σ ρ)
    (hY : ∀ i H' x H'', i < n → Y i H' x H'' → H'' = H' ∧ ∃ d, ds[i]? = some d ∧ Rep K am1 Hf1 x d)
    (hG : ∀ am' Hf' H', Fm am1 Hf1 H1 am' Hf' H' → G H')
    (hf : ∀ x st, f x st = (ft x st).nox.bind fun k st => if k then (fe x st).nox.bind fun y st => .ok (some y) st else .ok none st)
    (ht : ∀ {x st am Hf H σ Q}, Wf K am st Hf H → Sig K am Hf H H0 σ (ρ.set j (.im x)) → Post K cl RB (ft x st) am Hf H Q (fun _ _ _ => False) → tt σ H Q)
    (he : ∀ {x st am Hf H σ Q}, Wf K am st Hf H → Sig K am Hf H H0 σ (ρ.set j (.im x)) → Post K cl (RV K) (fe x st) am Hf H Q (fun _ _ _ => False) → te σ H Q)
    (nD : H1 Dl = none) (nD0 : H Dl = none) (P : PostN K cl ((mapO f ds st1).bind fun ys st => .ok (.lst ys) st) am Hf H Q W) :
    ∃ W : Nat → Nat → Hp → Prop, (∃ m, W 0 m (upd H1 Dl (.lst []))) ∧ ∀ i m H, W i m H →
      (J.stop i H ∧ Q (.ref Dl) H) ∨ (J.go i H ∧ ∃ Nx : Hp → Prop, (∀ H', Nx H' → ∃ m', m' < m ∧ W (i + 1) m' H') ∧ ∀ x H', J.yld i H x H' → gName j x (wipe σ [j]) H' fun σ2 H2 => wipe σ2 [j] = wipe σ [j] ∧ tt σ2 H2 fun b H3 =>
        if b = true then te σ2 H3 fun y H4 => ∃ acc, H4 Dl = some (.lst acc) ∧ acc.length < sizeLine ∧ Nx (upd H4 Dl (.lst (acc ++ [y]))) else Nx H3) := by
  subst hn
  refine lc_it (Qd := fun H => Q (.ref Dl) H) w (fun i H' => ∃ am' st' Hf' accv accd, Fm am1 Hf1 H1 am' Hf' H' ∧ Wf K am' st' Hf' H' ∧ H' Dl = some (.lst accv) ∧ Hf' Dl = none ∧ Dl ∉ am' ∧ RepL K am' Hf' accv accd ∧ accd.length ≤ i ∧
      PostN K cl ((mapO f (ds.drop i) st').bind fun ys st => .ok (.lst (accd ++ ys)) st) am Hf H Q W) ?_ ?_ ?_ ?_
  · exact ⟨am1, st1, Hf1, [], [], Fm.own nD, w1.own (w1.nof nD) (w1.notin nD), upd_same, w1.nof nD, w1.notin nD, .nil, Nat.zero_le _, P⟩
  · rintro i H' _ ⟨am', st', Hf', accv, accd, fm, _⟩
    exact hG am' Hf' H' fm
  · rintro i x H' H'' hi ⟨am', st', Hf', accv, accd, fm, wf, hD, nf, na, r, hl, P⟩ y
    obtain ⟨rfl, d, hd, rx⟩ := hY i H' x H'' hi y
    have rx' := rx.mono fm.pre fm.hf
    have s2 : Sig K am' Hf' H'' H0 ((wipe σ [j]).set j (some x)) (ρ.set j (.im d)) := (s1.next fm).wset rx'
    have hdrop : ds.drop i = d :: ds.drop (i + 1) := by
      have := (List.getElem?_eq_some_iff.mp hd)
      obtain ⟨h1, h2⟩ := this
      rw [← h2]
      exact List.drop_eq_getElem_cons h1
    rw [hdrop] at P
    have e1 : (mapO f (d :: ds.drop (i + 1)) st').bind (fun ys st => O.ok (D.lst (accd ++ ys)) st) = (f d st').bind fun y st => ((mapO f (ds.drop (i + 1)) st).bind fun ys st => .ok (match y with | some y => y :: ys | none => ys) st).bind fun ys st => .ok (.lst (accd ++ ys)) st := by
      rw [mapO]
      cases f d st' <;> rfl
    rw [e1, hf] at P
    refine ⟨?_, ?_⟩
    · show ((wipe σ [j]).set j (some x)).set j none = (wipe σ [j])
      rw [List.set_set]
      show (σ.set j none).set j none = σ.set j none
      rw [List.set_set]
    · have hlen : i < ds.length := hi
      -- the test
      have P1 : PostN K cl ((ft d st').nox.bind fun k st => (if k = true then (fe d st).nox.bind fun y st => .ok (some y) st else .ok none st).bind fun y st => ((mapO f (ds.drop (i + 1)) st).bind fun ys st => .ok (match y with | some y => y :: ys | none => ys) st).bind fun ys st => .ok (.lst (accd ++ ys)) st) am Hf H Q W := by
        cases hh : (ft d st').nox with
        | ok k st => rw [hh] at P; exact P
        | exc _ _ => rw [hh] at P; exact P
        | bad => rw [hh] at P; exact P
      refine ht wf s2 (Post.nox_ (W := W) (PostN.step (R1 := RB) P1 (f0.trans fm) fun b k st2 am2 Hf2 H2 fm2 fm3 wf2 e P2 => ?_))
      subst e
      have hD2 : H2 Dl = some (.lst accv) := fm3.keep _ _ hD na
      have nf2 : Hf2 Dl = none := fm3.offF _ _ hD nf
      have na2 : Dl ∉ am2 := fun z => na (fm3.offA _ _ hD z)
      cases b with
      | true =>
        rw [if_pos rfl] at P2 ⊢
        have P3 : PostN K cl ((fe d st2).nox.bind fun y st => ((mapO f (ds.drop (i + 1)) st).bind fun ys st => .ok (y :: ys) st).bind fun ys st => .ok (.lst (accd ++ ys)) st) am Hf H Q W := by
          cases hh : (fe d st2).nox with
          | ok k st => rw [hh] at P2; exact P2
          | exc _ _ => rw [hh] at P2; exact P2
          | bad => rw [hh] at P2; exact P2
        refine he wf2 (s2.next fm3) (Post.nox_ (W := W) (PostN.step (R1 := RV K) P3 fm2 fun y yd st3 am3 Hf3 H3 fm4 fm5 wf3 ry P4 => ?_))
        have hD3 : H3 Dl = some (.lst accv) := fm5.keep _ _ hD2 na2
        have nf3 : Hf3 Dl = none := fm5.offF _ _ hD2 nf2
        have na3 : Dl ∉ am3 := fun z => na2 (fm5.offA _ _ hD2 z)
        have r3 := r.mono (fm3.pre.trans fm5.pre) (fm3.hf.trans fm5.hf)
        refine ⟨accv, hD3, ?_, am3, st3, Hf3, accv ++ [y], accd ++ [yd], (fm.trans (fm3.trans fm5)).mut nD, wf3.own nf3 na3, upd_same, nf3, na3, r3.append (.one ry), ?_, ?_⟩
        · rw [r3.length, ← line_eq]
          omega
        · rw [List.length_append, List.length_singleton]
          omega
        · cases hh : mapO f (ds.drop (i + 1)) st3 with
          | ok ys st => rw [hh] at P4; simpa using P4
          | exc _ _ => rw [hh] at P4; exact P4
          | bad => rw [hh] at P4; exact P4
      | false =>
        rw [if_neg Bool.false_ne_true] at P2 ⊢
        refine ⟨am2, st2, Hf2, accv, accd, fm.trans fm3, wf2, hD2, nf2, na2, r.mono fm3.pre fm3.hf, Nat.le_succ_of_le hl, ?_⟩
        cases hh : mapO f (ds.drop (i + 1)) st2 with
        | ok ys st =>
          have P2 : PostN K cl (((mapO f (ds.drop (i + 1)) st2).bind fun ys st => .ok ys st).bind fun ys st => .ok (.lst (accd ++ ys)) st) am Hf H Q W := P2
          rw [hh] at P2
          exact P2
        | exc _ _ =>
          have P2 : PostN K cl (((mapO f (ds.drop (i + 1)) st2).bind fun ys st => .ok ys st).bind fun ys st => .ok (.lst (accd ++ ys)) st) am Hf H Q W := P2
          rw [hh] at P2
          exact P2
        | bad =>
          have P2 : PostN K cl (((mapO f (ds.drop (i + 1)) st2).bind fun ys st => .ok ys st).bind fun ys st => .ok (.lst (accd ++ ys)) st) am Hf H Q W := P2
          rw [hh] at P2
          exact P2
  · rintro H' ⟨am', st', Hf', accv, accd, fm, wf, hD, nf, na, r, hl, P⟩
    rw [List.drop_length] at P
    obtain ⟨ds', e, k⟩ := P
    cases e
    rw [List.append_nil] at k
    exact k Dl accv am' Hf' H' (f0.trans fm) wf nD0 hD nf na r (Nat.le_trans hl hz)
end
end PF
/-! Targets, and what is walked. -/
namespace PF
open PySem L2
section
variable {K : PySem.W.Frag} {cl : Nat → Addr} {C : Calls}
theorem setS_eq {ρ ρ' : Env} {i : Nat} {d : D} (h : setS ρ i d = some ρ') : ρ' = ρ.set i (.im d) := by
  unfold setS at h
  split at h
  · cases h; rfl
  · cases h
/-- a name is set to anything, and not looked at -/
theorem Sig.drop {am : List Addr} {Hf H : Hp} {H0 : B0} {σ : St} {ρ : Env} (s : Sig K am Hf H H0 σ ρ) (i : Nat) (x : Option V) : Sig K am Hf H H0 (σ.set i x) (ρ.set i .un) := by
  have back : ∀ (j : Nat) (z : Slot), (ρ.set i .un)[j]? = some z → z = .un ∨ (j ≠ i ∧ ρ[j]? = some z) := fun j z e => by
    by_cases h : i = j
    · subst h
      have hl : i < ρ.length := by
        have := (List.getElem?_eq_some_iff.mp e).1
        rwa [List.length_set] at this
      rw [List.getElem?_set_self hl] at e
      cases e
      exact .inl rfl
    · rw [List.getElem?_set_ne h] at e
      exact .inr ⟨fun z => h z.symm, e⟩
  refine ⟨len_set _ _ _ _ _ s.len, fun j z e => ?_, fun j l p dj dl hjl e1 e2 o1 o2 e3 e4 => ?_⟩
  · rcases back j z e with rfl | ⟨hn, e⟩
    · trivial
    · have q := s.slot j z e
      have es : (σ.set i x)[j]? = σ[j]? := List.getElem?_set_ne (fun z => hn z.symm)
      cases z with
      | un => trivial
      | im d =>
        obtain ⟨v, h1, h2⟩ := q
        exact ⟨v, by rw [es]; exact h1, h2⟩
      | ol ds =>
        obtain ⟨p, vs, h1, h2⟩ := q
        exact ⟨p, vs, by rw [es]; exact h1, h2⟩
      | od ds =>
        obtain ⟨p, vs, h1, h2⟩ := q
        exact ⟨p, vs, by rw [es]; exact h1, h2⟩
      | oi c ds =>
        obtain ⟨p, dx, vs, h1, h2⟩ := q
        exact ⟨p, dx, vs, by rw [es]; exact h1, h2⟩
  · rcases back j _ e1 with e1 | ⟨n1, e1⟩
    · rw [e1] at o1; cases o1
    · rcases back l _ e2 with e2 | ⟨n2, e2⟩
      · rw [e2] at o2; cases o2
      · rw [List.getElem?_set_ne (fun z => n1 z.symm)] at e3
        rw [List.getElem?_set_ne (fun z => n2 z.symm)] at e4
        exact s.dist j l p dj dl hjl e1 e2 o1 o2 e3 e4
theorem unp_den {am : List Addr} {st : Store} {Hf H : Hp} {H0 : B0} {Q : St → Hp → Prop} : ∀ {is : List Nat} {ds : List D} {vs : List V} {σ : St} {ρ ρ' : Env}, Wf K am st Hf H → Sig K am Hf H H0 σ ρ → RepL K am Hf vs ds → unpS ρ is ds = some ρ' → (∀ σ', Sig K am Hf H H0 σ' ρ' → Q σ' H) → vs.length = is.length ∧ gNames is vs σ H Q
  | [], [], _, σ, ρ, ρ', w, s, .nil, e, q => by
    cases e
    exact ⟨rfl, rfl, q _ s⟩
  | i :: is, d :: ds, _, σ, ρ, ρ', w, s, .cons (v := v) r1 r2, e, q => by
    rw [unpS] at e
    cases hs : setS ρ i d with
    | none => rw [hs] at e; cases e
    | some ρ1 =>
      rw [hs] at e
      have e1 := setS_eq hs
      subst e1
      obtain ⟨h1, h2⟩ := unp_den (is := is) w (s.set r1) r2 e q
      exact ⟨by rw [List.length_cons, List.length_cons, h1], v, _, rfl, h2⟩
  | [], _ :: _, _, _, _, _, _, _, _, e, _ => by cases e
  | _ :: _, [], _, _, _, _, _, _, _, e, _ => by cases e
theorem range_den {am : List Addr} {st : Store} {Hf H : Hp} {vs : List V} {xs : List D} {ds : List D} {R : It → Hp → Prop} (h : RepL K am Hf vs xs) (e : rangeD xs = some ds)
    (k : ∀ (J : It) (G : Hp → Prop) (Y : Nat → Hp → V → Hp → Prop), Walk J ds.length G Y → (∀ i H' x H'', i < ds.length → Y i H' x H'' → H'' = H' ∧ ∃ d, ds[i]? = some d ∧ Rep K am Hf x d) → (∀ H', G H') → R J H) :
    (∃ j : Int, vs = [.int j] ∧ -(2 ^ 62) ≤ j ∧ j < 2 ^ 62 ∧ R (Itr 0 j.toNat) H) ∨
    (∃ i j : Int, vs = [.int i, .int j] ∧ (-(2 ^ 62) ≤ i ∧ i < 2 ^ 62 ∧ -(2 ^ 62) ≤ j ∧ j < 2 ^ 62) ∧ R (Itr i (j - i).toNat) H) := by
  have key : ∀ (a : Int) (n : Nat) (ds : List D), ds = (List.range n).map (fun (k : Nat) => D.int (a + (k : Int))) → Walk (Itr a n) ds.length (fun _ => True) (YFn fun i => .int (a + i)) ∧ ∀ i H' x H'', i < ds.length → (YFn (fun i => V.int (a + i))) i H' x H'' → H'' = H' ∧ ∃ d, ds[i]? = some d ∧ Rep K am Hf x d := fun a n ds e => by
    subst e
    refine ⟨?_, fun i H' x H'' hi y => ⟨y.1, .int (a + (i : Int)), ?_, by rw [y.2]; exact .int _⟩⟩
    · have := walk_range (lo := a) (n := n)
      rw [List.length_map, List.length_range]
      exact this
    · rw [List.length_map, List.length_range] at hi
      rw [List.getElem?_map, List.getElem?_range hi]
      rfl
  unfold rangeD at e
  split at e
  · rename_i n
    split at e
    · rename_i hb
      cases e
      cases h with
      | cons h r =>
        cases r
        obtain ⟨h1, h2⟩ := key 0 n.toNat _ rfl
        exact .inl ⟨n, by rw [h.vInt], hb.1, hb.2, k _ _ _ h1 h2 fun _ => trivial⟩
    · cases e
  · rename_i a b
    split at e
    · rename_i hb
      cases e
      cases h with
      | cons h r =>
        cases r with
        | cons h' r =>
          cases r
          obtain ⟨h1, h2⟩ := key a (b - a).toNat _ rfl
          exact .inr ⟨a, b, by rw [h.vInt, h'.vInt], hb, k _ _ _ h1 h2 fun _ => trivial⟩
    · cases e
  · cases e
end
section
variable {K : PySem.W.Frag} {am : List Addr} {st : Store} {Hf H : Hp} {H0 : B0} {σ : St} {ρ : Env}
/-- what is walked is data -/
theorem itemsR {am : List Addr} {st : Store} {Hf H : Hp} {v : V} {d : D} {ds : List D} {R : It → Hp → Prop} (w : Wf K am st Hf H) (h : Rep K am Hf v d) (e : itemsD d = some ds)
    (k : ∀ (J : It) (G : Hp → Prop) (Y : Nat → Hp → V → Hp → Prop), Walk J ds.length G Y → ds.length ≤ line → (∀ i H' x H'', i < ds.length → Y i H' x H'' → H'' = H' ∧ ∃ d, ds[i]? = some d ∧ Rep K am Hf x d) → (∀ H', Same Hf H' → G H') → R J H) :
    (∃ a, v = .ref a ∧ (∃ xs, SqL K H a xs) ∧ R (Itl K a) H) ∨ (∃ a, v = .ref a ∧ (∃ xs, SqT K H a xs) ∧ R (Itt K a) H) ∨ ∃ z, v = .str z ∧ R (Its z) H := by
  unfold itemsD at e
  split at e
  · cases e
    obtain ⟨p, vs, rfl, hp, r, hz⟩ := h.vLst
    refine .inl ⟨p, rfl, ⟨_, SqL.of (w.sub _ _ hp)⟩, ?_⟩
    have wk : Walk (Itl K p) ds.length (fun H => SqL K H p vs) (YAt vs) := by
      have := walk_list (K := K) (a := p) (xs := vs)
      rw [r.length] at this
      exact this
    exact k _ _ _ wk hz (fun i H' x H'' hi y => ⟨y.1, r.getV y.2⟩) fun H' sm => SqL.of (sm _ _ hp)
  · cases e
    obtain ⟨p, vs, rfl, hp, r, hz⟩ := h.vTup
    refine .inr (.inl ⟨p, rfl, ⟨_, Same.seqT w.sub hp⟩, ?_⟩)
    have wk : Walk (Itt K p) ds.length (fun H => SqT K H p vs) (YAt vs) := by
      have := walk_tup (K := K) (a := p) (xs := vs)
      rw [r.length] at this
      exact this
    exact k _ _ _ wk hz (fun i H' x H'' hi y => ⟨y.1, r.getV y.2⟩) fun H' sm => Same.seqT sm hp
  · rename_i s
    cases e
    refine .inr (.inr ⟨tx s, h.vStr.1, ?_⟩)
    have wk : Walk (Its (tx s)) (s.map fun c => D.str [c]).length (fun _ => True) (fun i H v H' => H' = H ∧ ∃ c, (tx s).cps[i]? = some c ∧ v = .str ⟨#[c]⟩) := by
      have := walk_str (z := tx s)
      have e : (tx s).cps.size = (s.map fun c => D.str [c]).length := by simp [tx]
      rw [e] at this
      exact this
    refine k _ _ _ wk (by rw [List.length_map]; exact h.vStr.2) (fun i H' x H'' hi y => ⟨y.1, ?_⟩) fun _ _ => trivial
    obtain ⟨_, c, hc, rfl⟩ := y
    refine ⟨.str [c], ?_, .str [c] (by show 1 ≤ line; decide)⟩
    rw [List.getElem?_map]
    have : s[i]? = some c := by simpa [tx] using hc
    rw [this]
    rfl
  · cases e
theorem wipe_set {σ : St} {x : Option V} {i : Nat} : ∀ {vs : List Nat}, i ∈ vs → wipe (σ.set i x) vs = wipe σ vs
  | v :: vs, h => by
    unfold wipe
    by_cases hi : i ∈ vs
    · rw [wipe_set hi]
    · rcases List.mem_cons.mp h with rfl | h
      · refine List.ext_getElem? fun k => ?_
        by_cases hk : i = k
        · subst hk
          simp [List.getElem?_set, wipe_length]
        · rw [List.getElem?_set_ne hk, List.getElem?_set_ne hk]
          have go : ∀ (vs : List Nat) (τ τ' : St), (∀ k, i ≠ k → τ[k]? = τ'[k]?) → τ.length = τ'.length → ∀ k, i ≠ k → (wipe τ vs)[k]? = (wipe τ' vs)[k]? := by
            intro vs
            induction vs with
            | nil => exact fun τ τ' h _ k hk => h k hk
            | cons w vs ih =>
              intro τ τ' h hl k hk
              unfold wipe
              by_cases hw : w = k
              · subst hw
                simp [List.getElem?_set, wipe_length, hl]
              · rw [List.getElem?_set_ne hw, List.getElem?_set_ne hw]
                exact ih τ τ' h hl k hk
          exact go vs _ _ (fun k hk => List.getElem?_set_ne hk) (List.length_set) k hk
      · exact absurd h hi
theorem wipe_wipe {σ : St} {vs : List Nat} : ∀ {ws : List Nat}, (∀ i ∈ ws, i ∈ vs) → wipe (wipe σ ws) vs = wipe σ vs
  | [], _ => rfl
  | w :: ws, h => by
    show wipe ((wipe σ ws).set w none) vs = _
    rw [wipe_set (h w List.mem_cons_self), wipe_wipe fun i hi => h i (List.mem_cons_of_mem _ hi)]
theorem Sig.wipes (s : Sig K am Hf H H0 σ ρ) : ∀ vs : List Nat, Sig K am Hf H H0 (wipe σ vs) (wipE ρ vs)
  | [] => s
  | v :: vs => (Sig.wipes s vs).drop v none
theorem names_den {Q : St → Hp → Prop} {us : List Nat} : ∀ {is : List Nat} {ds : List D} {vs : List V} {σ : St} {ρ ρ' : Env}, (∀ i ∈ is, i ∈ us) → Sig K am Hf H H0 σ ρ → RepL K am Hf vs ds → unpS ρ is ds = some ρ' → (∀ σ', Sig K am Hf H H0 σ' ρ' → wipe σ' us = wipe σ us → Q σ' H) → vs.length = is.length ∧ gNames is vs σ H Q
  | [], [], _, σ, ρ, ρ', _, s, .nil, e, q => by
    cases e
    exact ⟨rfl, rfl, q _ s rfl⟩
  | i :: is, d :: ds, _, σ, ρ, ρ', hu, s, .cons (v := v) r1 r2, e, q => by
    rw [unpS] at e
    cases hs : setS ρ i d with
    | none => rw [hs] at e; cases e
    | some ρ1 =>
      rw [hs] at e
      have e1 := setS_eq hs
      subst e1
      obtain ⟨h1, h2⟩ := names_den (is := is) (fun j hj => hu j (List.mem_cons_of_mem _ hj)) (s.set r1) r2 e fun σ' s' hw => q σ' s' (hw.trans (wipe_set (hu i List.mem_cons_self)))
      exact ⟨by rw [List.length_cons, List.length_cons, h1], v, _, rfl, h2⟩
  | [], _ :: _, _, _, _, _, _, _, _, e, _ => by cases e
  | _ :: _, [], _, _, _, _, _, _, _, e, _ => by cases e
theorem tgt_den {Q : St → Hp → Prop} {is us : List Nat} {d : D} {v : V} {ρ' : Env} (hu : ∀ i ∈ is, i ∈ us) (w : Wf K am st Hf H) (s : Sig K am Hf H H0 σ ρ) (r : Rep K am Hf v d) (e : setT ρ is d = some ρ') (q : ∀ σ', Sig K am Hf H H0 σ' ρ' → wipe σ' us = wipe σ us → Q σ' H) : gTgt K is v σ H Q := by
  have tup : ∀ {is : List Nat}, (∀ i ∈ is, i ∈ us) → (tupD d).bind (unpS ρ is) = some ρ' → gTup K is.length (gNames is) v σ H Q := fun {is} hu e => by
    unfold tupD at e
    split at e
    · rename_i ds
      obtain ⟨a, vs, rfl, ht, rv, hz⟩ := r.vTup
      obtain ⟨h1, h2⟩ := names_den hu s rv e q
      exact ⟨a, vs, rfl, Same.seqT w.sub ht, h1, h2⟩
    · cases e
  match is, hu, e with
  | [i], hu, e =>
    have e1 := setS_eq e
    subst e1
    exact q _ (s.set r) (wipe_set (hu i List.mem_cons_self))
  | [], hu, e => exact tup hu e
  | _ :: _ :: _, hu, e => exact tup hu e
/-- what a source's walk gives -/
structure Src (K : PySem.W.Frag) (am : List Addr) (Hf : Hp) (ds : List D) (J : It) (G : Hp → Prop) (Y : Nat → Hp → V → Hp → Prop) : Prop where
  w : Walk J ds.length G Y
  z : ds.length ≤ line
  g : ∀ H', Same Hf H' → G H'
  y : ∀ i H' x H'', i < ds.length → Y i H' x H'' → ∀ am' st' Hf', Wf K am' st' Hf' H' → Pre am am' → Same Hf Hf' → ∃ Hf'', Fm am' Hf' H' am' Hf'' H'' ∧ Wf K am' st' Hf'' H'' ∧ ∃ d, ds[i]? = some d ∧ Rep K am' Hf'' x d
theorem Src.of {ds : List D} {J : It} {G : Hp → Prop} {Y : Nat → Hp → V → Hp → Prop} (w : Walk J ds.length G Y) (z : ds.length ≤ line) (g : ∀ H', Same Hf H' → G H') (y : ∀ i H' x H'', i < ds.length → Y i H' x H'' → H'' = H' ∧ ∃ d, ds[i]? = some d ∧ Rep K am Hf x d) : Src K am Hf ds J G Y :=
  ⟨w, z, g, fun i H' x H'' hi hy am' st' Hf' wf p sm => by
    obtain ⟨rfl, d, hd, r⟩ := y i H' x H'' hi hy
    exact ⟨Hf', .refl _ _ _, wf, d, hd, r.mono p sm⟩⟩
theorem Src.pair {ds : List D} {J : It} {G : Hp → Prop} {xs ys : Nat → Option V} (w : Walk J ds.length G (YPair xs ys)) (z : ds.length ≤ line) (g : ∀ H', Same Hf H' → G H') (y : ∀ i x y, i < ds.length → xs i = some x → ys i = some y → ∃ a b, ds[i]? = some (.tup [a, b]) ∧ Rep K am Hf x a ∧ Rep K am Hf y b) : Src K am Hf ds J G (YPair xs ys) :=
  ⟨w, z, g, fun i H' v H'' hi hy am' st' Hf' wf p sm => by
    obtain ⟨T, x, y', rfl, nT, rfl, h1, h2⟩ := hy
    obtain ⟨a, b, hd, ra, rb⟩ := y i x y' hi h1 h2
    have sm2 : Same Hf' (upd Hf' T (.tup [x, y'])) := fun b u e => by
      rw [upd_ne (ne_of_none e (wf.nof nT))]; exact e
    exact ⟨_, Fm.new wf.sub nT, wf.new nT, _, hd, .tup (by show 2 ≤ line; decide) (SqT.of upd_same) (.cons ((ra.mono p sm).mono (.refl _) sm2) (.cons ((rb.mono p sm).mono (.refl _) sm2) .nil))⟩⟩
theorem RepK.at : ∀ {vs : List (Key × V)} {ds : List (Key × D)} {i : Nat} {kv : Key × V}, RepK K am Hf vs ds → vs[i]? = some kv → ∃ d, ds[i]? = some (kv.1, d) ∧ Rep K am Hf kv.2 d
  | _, _, _, _, .nil, e => by simp at e
  | _, _, 0, _, .cons h _, e => by simp at e; subst e; exact ⟨_, rfl, h⟩
  | _, _, i + 1, kv, .cons _ r, e => RepK.at (i := i) r (by simpa using e)
theorem items_src {ds : List (Key × D)} {vs : List (Key × V)} {p : Addr} {o : Obj} (hp : Hf p = some (.frz o (.dK vs))) (rk : RepK K am Hf vs ds) (hs : kShort ds = true) :
    ∃ G Y, Src K am Hf (ds.map fun kv => D.tup [kD kv.1, kv.2]) (Iti p o vs) G Y := by
  have hl := rk.len
  refine ⟨_, _, Src.pair (xs := fun i => vs[i]?.map fun kv => kV kv.1) (ys := fun i => vs[i]?.map Prod.snd) (J := Iti p o vs) ?_ (by rw [List.length_map]; exact kShort_len hs) (fun H' sm => sm _ _ hp) fun i x y hi hx hy => ?_⟩
  · have := walk_items (d := p) (o := o) (kvs := vs)
    rw [List.length_map, ← hl]
    exact this
  · rw [List.length_map] at hi
    cases hv : vs[i]? with
    | none =>
      have hx : (vs[i]?.map fun kv => kV kv.1) = some x := hx
      rw [hv] at hx; cases hx
    | some kv =>
      have hx : (vs[i]?.map fun kv => kV kv.1) = some x := hx
      have hy : (vs[i]?.map Prod.snd) = some y := hy
      rw [hv] at hx hy
      cases hx; cases hy
      obtain ⟨d, hd, r⟩ := rk.at hv
      refine ⟨kD kv.1, d, by rw [List.getElem?_map, hd]; rfl, ?_, r⟩
      exact kShort_at hs (kv := (kv.1, d)) (List.mem_of_getElem? hd)
theorem walk_zipT {a b : Addr} {xs ys : List V} {n : Nat} (hn : n = min xs.length ys.length) : Walk (RZ.ItzT K a b) n (fun H => SqT K H a xs ∧ SqT K H b ys) (YPair (fun i => xs[i]?) (fun i => ys[i]?)) := by
  subst hn
  refine ⟨fun i H hi q => ⟨xs, ys, xs[i], ys[i], q.1, q.2, List.getElem?_eq_getElem (by omega), List.getElem?_eq_getElem (by omega)⟩, fun H q => ⟨xs, ys, q.1, q.2, by omega⟩, fun i H x H' hi q y => ?_⟩
  obtain ⟨T, x, y, h1, h2, h3, h4, h5⟩ := y
  exact ⟨T, x, y, h1, h2, h3, h4 _ q.1, h5 _ q.2⟩
theorem zip_at {xs ys : List D} {i : Nat} {x y : D} (h1 : xs[i]? = some x) (h2 : ys[i]? = some y) : (List.zipWith (fun x y => D.tup [x, y]) xs ys)[i]? = some (.tup [x, y]) := by
  rw [List.getElem?_zipWith, h1, h2]
def srcR (K : PySem.W.Frag) (k : SK) (R : It → Hp → Prop) (vs : List V) (H1 : Hp) : Prop := match k with
  | .any => False
  | .zip => ∃ a b xs ys, vs = [.ref a, .ref b] ∧ ((SqL K H1 a xs ∧ SqL K H1 b ys ∧ R (Itz K a b) H1) ∨ (SqT K H1 a xs ∧ SqT K H1 b ys ∧ R (RZ.ItzT K a b) H1))
  | .enm => ∃ a xs, vs = [.ref a] ∧ SqL K H1 a xs ∧ R (Ite K a) H1
  | .rng => (∃ j : Int, vs = [.int j] ∧ -(2 ^ 62) ≤ j ∧ j < 2 ^ 62 ∧ R (Itr 0 j.toNat) H1) ∨ (∃ i j : Int, vs = [.int i, .int j] ∧ (-(2 ^ 62) ≤ i ∧ i < 2 ^ 62 ∧ -(2 ^ 62) ≤ j ∧ j < 2 ^ 62) ∧ R (Itr i (j - i).toNat) H1)
  | .itm _ => False
theorem iSrc_eq {k : SK} {te : TE} {ta : TA} {R : It → Hp → Prop} (h : isItm k = false) (h2 : k ≠ .any) : iSrc K k te ta σ H R = ta σ H (srcR K k R) := by
  cases k with
  | any => exact absurd rfl h2
  | itm _ => cases h
  | _ => rfl
theorem any_den {v : V} {x : D} {ds : List D} {R : It → Hp → Prop} (w : Wf K am st Hf H) (r : Rep K am Hf v x) (e : itemsD x = some ds)
    (kk : ∀ (J : It) (G : Hp → Prop) (Y : Nat → Hp → V → Hp → Prop), Src K am Hf ds J G Y → R J H) : (∃ a, v = .ref a ∧ (∃ xs, SqL K H a xs) ∧ R (Itl K a) H) ∨ (∃ a, v = .ref a ∧ (∃ xs, SqT K H a xs) ∧ R (Itt K a) H) ∨ ∃ z, v = .str z ∧ R (Its z) H :=
  itemsR w r e fun J G Y wk z y g => kk J G Y (Src.of wk z g y)
theorem src_den {k : SK} {vs : List V} {xs : List D} {ds : List D} {R : It → Hp → Prop} (w : Wf K am st Hf H) (r : RepL K am Hf vs xs) (e : srcD k xs = some ds)
    (kk : ∀ (J : It) (G : Hp → Prop) (Y : Nat → Hp → V → Hp → Prop), Src K am Hf ds J G Y → R J H) : srcR K k R vs H := by
  cases k with
  | any => cases e
  | zip =>
    match xs, vs, r, e with
    | [x, y], [v, u], .cons r1 (.cons r2 .nil), e =>
      have e : zipD x y = some ds := e
      unfold zipD at e
      split at e
      · rename_i xs ys _
        cases e
        obtain ⟨a, as, rfl, ha, ra, za⟩ := r1.vLst
        obtain ⟨b, bs, rfl, hb, rb, zb⟩ := r2.vLst
        refine ⟨a, b, as, bs, rfl, .inl ⟨SqL.of (w.sub _ _ ha), SqL.of (w.sub _ _ hb), ?_⟩⟩
        have wk := walk_zip (K := K) (a := a) (b := b) (xs := as) (ys := bs) (n := (List.zipWith (fun x y => D.tup [x, y]) xs ys).length) (by rw [List.length_zipWith, ra.length, rb.length])
        refine kk _ _ _ (Src.pair wk (by rw [List.length_zipWith]; omega) (fun H' sm => ⟨SqL.of (sm _ _ ha), SqL.of (sm _ _ hb)⟩) fun i x y hi hx hy => ?_)
        obtain ⟨d1, h1, q1⟩ := ra.getV hx
        obtain ⟨d2, h2, q2⟩ := rb.getV hy
        exact ⟨d1, d2, zip_at h1 h2, q1, q2⟩
      · rename_i xs ys _
        cases e
        obtain ⟨a, as, rfl, ha, ra, za⟩ := r1.vTup
        obtain ⟨b, bs, rfl, hb, rb, zb⟩ := r2.vTup
        refine ⟨a, b, as, bs, rfl, .inr ⟨Same.seqT w.sub ha, Same.seqT w.sub hb, ?_⟩⟩
        have wk := walk_zipT (K := K) (a := a) (b := b) (xs := as) (ys := bs) (n := (List.zipWith (fun x y => D.tup [x, y]) xs ys).length) (by rw [List.length_zipWith, ra.length, rb.length])
        refine kk _ _ _ (Src.pair wk (by rw [List.length_zipWith]; omega) (fun H' sm => ⟨Same.seqT sm ha, Same.seqT sm hb⟩) fun i x y hi hx hy => ?_)
        obtain ⟨d1, h1, q1⟩ := ra.getV hx
        obtain ⟨d2, h2, q2⟩ := rb.getV hy
        exact ⟨d1, d2, zip_at h1 h2, q1, q2⟩
      · cases e
    | [], _, _, e => cases e
    | [_], _, _, e => cases e
    | _ :: _ :: _ :: _, _, _, e => cases e
  | enm =>
    match xs, vs, r, e with
    | [x], [v], .cons r .nil, e =>
      have e : enmD x = some ds := e
      unfold enmD at e
      split at e
      · rename_i xs _
        cases e
        obtain ⟨a, as, rfl, ha, ra, za⟩ := r.vLst
        refine ⟨a, as, rfl, SqL.of (w.sub _ _ ha), ?_⟩
        have wk := walk_enum (K := K) (a := a) (xs := as)
        rw [show as.length = (xs.zipIdx.map fun p => D.tup [.int (p.2 : Nat), p.1]).length by rw [List.length_map, List.length_zipIdx, ra.length]] at wk
        refine kk _ _ _ (Src.pair wk (by rw [List.length_map, List.length_zipIdx]; exact za) (fun H' sm => SqL.of (sm _ _ ha)) fun i x y hi hx hy => ?_)
        obtain ⟨d2, h2, q2⟩ := ra.getV hy
        cases hx
        refine ⟨.int (i : Nat), d2, ?_, .int _, q2⟩
        rw [List.getElem?_map, List.getElem?_zipIdx, h2]
        simp
      · cases e
    | [], _, _, e => cases e
    | _ :: _ :: _, _, _, e => cases e
  | rng =>
    have e : ((rangeD xs).bind fun xs => if line < xs.length then none else some xs) = some ds := e
    cases hr : rangeD xs with
    | none => rw [hr] at e; cases e
    | some ys =>
      rw [hr] at e
      have e : (if line < ys.length then none else some ys) = some ds := e
      split at e
      · cases e
      · rename_i hz
        cases e
        exact (range_den (st := st) r hr fun J G Y wk y g => kk J G Y (Src.of wk (by omega) (fun H' _ => g H') y))
  | itm s => cases e
/-- a dict's items, locked or about to be -/
theorem dct_at {s : Nat} {kvs : List (Key × D)} (sg : Sig K am Hf H H0 σ ρ) (e : ρ[s]? = some (.im (.dct kvs))) : ∃ p vs, σ[s]? = some (some (.ref p)) ∧ Rd Hf p (.dK vs) ∧ RepK K am Hf vs kvs := by
  obtain ⟨v, h1, h2⟩ := sg.slot s _ e
  obtain ⟨p, vs, rfl, h3, h4⟩ := h2.vDct
  exact ⟨p, vs, h1, h3, h4⟩
end
end PF
namespace PF
open PySem L2
inductive RepP (K : PySem.W.Frag) (am : List Addr) (H : Hp) : List (V × V) → List (D × D) → Prop
  | nil : RepP K am H [] []
  | cons {k v : V} {a b : D} {vs : List (V × V)} {ds : List (D × D)} : Rep K am H k a → Rep K am H v b → RepP K am H vs ds → RepP K am H ((k, v) :: vs) ((a, b) :: ds)
abbrev RPs (K : PySem.W.Frag) : List Addr → Hp → Hp → List (V × V) → List (D × D) → Prop := fun am Hf _ v d => RepP K am Hf v d
theorem RepP.keys {K : PySem.W.Frag} {am : List Addr} {H : Hp} : ∀ {ps : List (V × V)} {ds : List (D × D)} {kvs : List (Key × D)}, RepP K am H ps ds → keysD ds = some kvs → ∃ vs : List (Key × V), ps = vs.map (fun kv => (kV kv.1, kv.2)) ∧ RepK K am H vs kvs ∧ vs.length = ds.length
  | _, _, _, .nil, e => by cases e; exact ⟨[], rfl, .nil, rfl⟩
  | _, _, _, .cons (k := k) (v := v) (a := a) (b := b) (ds := ds) h1 h2 r, e => by
    rw [keysD] at e
    cases q1 : keyD a with
    | none => rw [q1] at e; cases e
    | some k' =>
      cases q2 : keysD ds with
      | none => rw [q1, q2] at e; cases e
      | some r' =>
        rw [q1, q2] at e
        cases e
        obtain ⟨vs, e1, e2, e3⟩ := RepP.keys r q2
        have ek : k = kV k' := by
          unfold keyD at q1
          split at q1
          · cases q1; exact h1.vInt
          · cases q1; exact h1.vStr.1
          · cases q1
        exact ⟨(k', v) :: vs, by rw [List.map_cons, ← e1, ek], .cons h2 e2, by rw [List.length_cons, List.length_cons, e3]⟩
/-- a text that grows -/
abbrev RJ : List Addr → Hp → Hp → Str → Tx → Prop := fun _ _ _ v d => v = tx d ∧ d.length ≤ line
/-- the interpreter's answer holds of the transformer -/
structure Den (K : PySem.W.Frag) (cl : Nat → Addr) (C : Calls) (e : E) : Prop where
  v : ∀ {W : WX} {ρ : Env} {st : Store} {am : List Addr} {Hf H : Hp} {H0 : B0} {σ : St} {Q : VK}, Wf K am st Hf H → Sig K am Hf H H0 σ ρ → Post K cl (RV K) (ev C e ρ st) am Hf H Q (fun c d H' => W c d σ H') → tE K (spF K cl C) W e σ H Q
  n : fresh e = true → ∀ {W : WX} {ρ : Env} {st : Store} {am : List Addr} {Hf H : Hp} {H0 : B0} {σ : St} {Q : VK}, Wf K am st Hf H → Sig K am Hf H H0 σ ρ → PostN K cl (ev C e ρ st) am Hf H Q (fun c d H' => W c d σ H') → tE K (spF K cl C) W e σ H Q
  vs : ∀ {W : WX} {ρ : Env} {st : Store} {am : List Addr} {Hf H : Hp} {H0 : B0} {σ : St} {Q : List V → Hp → Prop}, Wf K am st Hf H → Sig K am Hf H H0 σ ρ → Post K cl (RVs K) (evs C e ρ st) am Hf H Q (fun c d H' => W c d σ H') → tA K (spF K cl C) W e σ H Q
  vo : ∀ {W : WX} {ρ : Env} {st : Store} {am : List Addr} {Hf H : Hp} {H0 : B0} {σ : St} {Q : List V → Hp → Prop}, Wf K am st Hf H → Sig K am Hf H H0 σ ρ → Post K cl (ROs K) (evo C e ρ st) am Hf H Q (fun c d H' => W c d σ H') → tA K (spF K cl C) W e σ H Q
  p : ∀ {W : WX} {ρ : Env} {st : Store} {am : List Addr} {Hf H : Hp} {H0 : B0} {σ : St} {Q : List (V × V) → Hp → Prop}, Wf K am st Hf H → Sig K am Hf H H0 σ ρ → Post K cl (RPs K) (evp C e ρ st) am Hf H Q (fun c d H' => W c d σ H') → tPairs (tP K (spF K cl C) W e) σ H Q
  t : ∀ {W : WX} {ρ : Env} {st : Store} {am : List Addr} {Hf H : Hp} {H0 : B0} {σ : St} {Q : Bool → Hp → Prop}, Wf K am st Hf H → Sig K am Hf H H0 σ ρ → Post K cl RB (evT C e ρ st) am Hf H Q (fun c d H' => W c d σ H') → tT K (spF K cl C) W e σ H Q
  j : ∀ {W : WX} {ρ : Env} {st : Store} {am : List Addr} {Hf H : Hp} {H0 : B0} {σ : St} {Q : Str → Hp → Prop} {acc : Tx}, acc.length ≤ line → Wf K am st Hf H → Sig K am Hf H H0 σ ρ → Post K cl RJ (evj C e acc ρ st) am Hf H Q (fun c d H' => W c d σ H') → tJs (tJ K (spF K cl C) W e) (tx acc) σ H Q
section
variable {K : PySem.W.Frag} {cl : Nat → Addr} {C : Calls}
theorem Post.imp {α β : Type} {R R' : List Addr → Hp → Hp → β → α → Prop} {r : O α} {am : List Addr} {Hf H : Hp} {Q : β → Hp → Prop} {W : XK} (h : ∀ am Hf H v d, R am Hf H v d → R' am Hf H v d) (P : Post K cl R' r am Hf H Q W) : Post K cl R r am Hf H Q W := by
  cases r with
  | ok d st => exact fun v am' Hf' H' fm wf q => P v am' Hf' H' fm wf (h _ _ _ _ _ q)
  | exc x st => exact P
  | bad => exact P
/-- an operand -/
theorem Den.o {e : E} (d : Den K cl C e) {W : WX} {ρ : Env} {st : Store} {am : List Addr} {Hf H : Hp} {H0 : B0} {σ : St} {Q : VK} (w : Wf K am st Hf H) (s : Sig K am Hf H H0 σ ρ) (P : Post K cl (RO K) (opd e (ev C e) ρ st) am Hf H Q (fun c d H' => W c d σ H')) : tE K (spF K cl C) W e σ H Q := by
  unfold opd at P
  split at P
  · rename_i i
    obtain ⟨x, hx, P⟩ := P.lift_
    unfold borD at hx
    split at hx
    · rename_i ds hs
      cases hx
      obtain ⟨p, vs, h1, h2, h3, h4, h5, h6, h7⟩ := s.slot i _ hs
      exact ⟨_, h1, P _ am Hf H (.refl _ _ _) w (.inr ⟨p, vs, ds, rfl, rfl, h2, h5, h3, h7⟩)⟩
    · cases hx
  · exact d.v w s (P.imp fun _ _ _ _ _ h => .inl h)
/-- a dict operand -/
theorem Den.k {e : E} (d : Den K cl C e) {W : WX} {ρ : Env} {st : Store} {am : List Addr} {Hf H : Hp} {H0 : B0} {σ : St} {Q : VK} (w : Wf K am st Hf H) (s : Sig K am Hf H H0 σ ρ) (P : Post K cl (ROK K) (opdK e (ev C e) ρ st) am Hf H Q (fun c d H' => W c d σ H')) : tE K (spF K cl C) W e σ H Q := by
  unfold opdK at P
  split at P
  · rename_i i
    obtain ⟨x, hx, P⟩ := P.lift_
    unfold borK at hx
    split at hx
    · rename_i ds hs
      cases hx
      obtain ⟨p, vs, h1, h2, h3, h4, h5, h6⟩ := s.slot i _ hs
      exact ⟨_, h1, P _ am Hf H (.refl _ _ _) w (.inr ⟨p, vs, ds, rfl, rfl, h2, h5, h3⟩)⟩
    · cases hx
  · exact d.v w s (P.imp fun _ _ _ _ _ h => .inl h)
theorem Post.fin {x : D} {st : Store} {am am1 : List Addr} {Hf H Hf1 H1 : Hp} {Q : VK} {W : XK} (P : Post K cl (RV K) (.ok x st) am Hf H Q W) (f : Fm am Hf H am1 Hf1 H1) : Fin K am1 st Hf1 H1 x Q := fun r am' Hf' H' fm wf q => P r am' Hf' H' (f.trans fm) wf q
theorem Post.map_ {α : Type} {R : List Addr → Hp → Hp → V → D → Prop} {o : Option α} {g : α → D} {st : Store} {am : List Addr} {Hf H : Hp} {Q : VK} {W : XK} (P : Post K cl R (lift (o.map g) st) am Hf H Q W) : ∃ a, o = some a ∧ Post K cl R (.ok (g a) st) am Hf H Q W := by
  cases o with
  | none => exact P.elim
  | some a => exact ⟨a, rfl, P⟩
/-- the value of a fresh list, frozen -/
theorem Den.vOfN {e : E} (n : ∀ {W : WX} {ρ : Env} {st : Store} {am : List Addr} {Hf H : Hp} {H0 : B0} {σ : St} {Q : VK}, Wf K am st Hf H → Sig K am Hf H H0 σ ρ → PostN K cl (ev C e ρ st) am Hf H Q (fun c d H' => W c d σ H') → tE K (spF K cl C) W e σ H Q)
    (hl : ∀ ρ st d st', ev C e ρ st = .ok d st' → ∃ ds, d = .lst ds) {W : WX} {ρ : Env} {st : Store} {am : List Addr} {Hf H : Hp} {H0 : B0} {σ : St} {Q : VK} (w : Wf K am st Hf H) (s : Sig K am Hf H H0 σ ρ)
    (P : Post K cl (RV K) (ev C e ρ st) am Hf H Q (fun c d H' => W c d σ H')) : tE K (spF K cl C) W e σ H Q := n w s (PostN.of (hl ρ st) P)
theorem okC_rep {am : List Addr} {Hf : Hp} {d : D} (h : okC d = true) : Rep K am Hf (vf d) d := by
  cases d with
  | non => exact .non
  | bl b => exact .bl b
  | int i => exact .int i
  | str s => exact .str s (of_decide_eq_true h)
  | ty n => exact .ty n
  | _ => cases h
theorem bm_ty {am : List Addr} {st : Store} {Hf H : Hp} {m : BM} {x : D} {v : V} (w : Wf K am st Hf H) (h : bmKind m x = true) (r : Rep K am Hf v x) : tyV K (bmTy m) v H := by
  unfold bmKind at h
  split at h
  · cases h
  · cases h
  · obtain ⟨p, vs, rfl, hp, _, _⟩ := r.vLst
    exact .inl ⟨rfl, vs, SqL.of (w.sub _ _ hp)⟩
  · cases h
  · rw [r.vStr.1]
    cases m <;> first | rfl | (exfalso; simp_all)
  · cases h
theorem Fm.there_none {am am1 : List Addr} {Hf H Hf1 H1 : Hp} (f : Fm am Hf H am1 Hf1 H1) {p : Addr} (np : H1 p = none) : H p = none := by
  cases e : H p with
  | none => rfl
  | some o =>
    obtain ⟨o', e'⟩ := f.there p o e
    rw [np] at e'
    cases e'
theorem isNil_nil {e : E} (h : isNil e = true) : e = .nil := by cases e <;> first | rfl | cases h
theorem items_den {am : List Addr} {st : Store} {Hf H : Hp} {v : V} {d : D} {ds : List D} {R : It → Hp → Prop} (w : Wf K am st Hf H) (h : Opd K am Hf H v d) (e : itemsD d = some ds)
    (k : ∀ (J : It) (G : Hp → Prop) (Y : Nat → Hp → V → Hp → Prop), Walk J ds.length G Y → ds.length ≤ line → (∀ i H' x H'', i < ds.length → Y i H' x H'' → H'' = H' ∧ ∃ d, ds[i]? = some d ∧ Rep K am Hf x d) → (∀ am' Hf' H', Fm am Hf H am' Hf' H' → G H') → R J H) :
    (∃ a, v = .ref a ∧ (∃ xs, SqL K H a xs) ∧ R (Itl K a) H) ∨ (∃ a, v = .ref a ∧ (∃ xs, SqT K H a xs) ∧ R (Itt K a) H) ∨ ∃ z, v = .str z ∧ R (Its z) H := by
  unfold itemsD at e
  split at e
  · cases e
    obtain ⟨p, vs, rfl, hp, r, hz, hn⟩ := h.lst w
    refine .inl ⟨p, rfl, ⟨_, SqL.of hp⟩, ?_⟩
    have wk : Walk (Itl K p) ds.length (fun H => SqL K H p vs) (YAt vs) := by
      have := walk_list (K := K) (a := p) (xs := vs)
      rw [r.length] at this
      exact this
    exact k _ _ _ wk hz (fun i H' x H'' hi y => ⟨y.1, r.getV y.2⟩) fun am' Hf' H' fm => SqL.of (fm.keep _ _ hp hn)
  · cases e
    obtain ⟨p, vs, rfl, hp, r, hz⟩ := h.vTup
    refine .inr (.inl ⟨p, rfl, ⟨_, Same.seqT w.sub hp⟩, ?_⟩)
    have wk : Walk (Itt K p) ds.length (fun H => SqT K H p vs) (YAt vs) := by
      have := walk_tup (K := K) (a := p) (xs := vs)
      rw [r.length] at this
      exact this
    refine k _ _ _ wk hz (fun i H' x H'' hi y => ⟨y.1, r.getV y.2⟩) fun am' Hf' H' fm => ?_
    rcases hp with (hp | ⟨o, hp⟩) | hp
    · exact .inl (.inl (fm.keep _ _ (w.sub _ _ hp) fun m => by rw [w.off _ m] at hp; cases hp))
    · exact .inl (.inr ⟨o, fm.keep _ _ (w.sub _ _ hp) fun m => by rw [w.off _ m] at hp; cases hp⟩)
    · exact .inr hp
  · rename_i s
    cases e
    refine .inr (.inr ⟨tx s, h.vStr.1, ?_⟩)
    have wk : Walk (Its (tx s)) (s.map fun c => D.str [c]).length (fun _ => True) (fun i H v H' => H' = H ∧ ∃ c, (tx s).cps[i]? = some c ∧ v = .str ⟨#[c]⟩) := by
      have := walk_str (z := tx s)
      have e : (tx s).cps.size = (s.map fun c => D.str [c]).length := by simp [tx]
      rw [e] at this
      exact this
    refine k _ _ _ wk (by rw [List.length_map]; exact h.vStr.2) (fun i H' x H'' hi y => ⟨y.1, ?_⟩) fun _ _ _ _ => trivial
    obtain ⟨_, c, hc, rfl⟩ := y
    refine ⟨.str [c], ?_, .str [c] (by show 1 ≤ line; decide)⟩
    rw [List.getElem?_map]
    have : s[i]? = some c := by simpa [tx] using hc
    rw [this]
    rfl
  · cases e
theorem items_denR {am : List Addr} {st : Store} {Hf H : Hp} {v : V} {d : D} {ds : List D} {R : It → Hp → Prop} (w : Wf K am st Hf H) (h : Rep K am Hf v d) (e : itemsD d = some ds)
    (k : ∀ (J : It) (G : Hp → Prop) (Y : Nat → Hp → V → Hp → Prop), Walk J ds.length G Y → ds.length ≤ line → (∀ i H' x H'', i < ds.length → Y i H' x H'' → H'' = H' ∧ ∃ d, ds[i]? = some d ∧ Rep K am Hf x d) → (∀ H', Same Hf H' → G H') → R J H) :
    (∃ a, v = .ref a ∧ (∃ xs, SqL K H a xs) ∧ R (Itl K a) H) ∨ (∃ a, v = .ref a ∧ (∃ xs, SqT K H a xs) ∧ R (Itt K a) H) ∨ ∃ z, v = .str z ∧ R (Its z) H := by
  unfold itemsD at e
  split at e
  · cases e
    obtain ⟨p, vs, rfl, hp, r, hz⟩ := h.vLst
    refine .inl ⟨p, rfl, ⟨_, SqL.of (w.sub _ _ hp)⟩, ?_⟩
    have wk : Walk (Itl K p) ds.length (fun H => SqL K H p vs) (YAt vs) := by
      have := walk_list (K := K) (a := p) (xs := vs)
      rw [r.length] at this
      exact this
    exact k _ _ _ wk hz (fun i H' x H'' hi y => ⟨y.1, r.getV y.2⟩) fun H' fm => SqL.of (fm _ _ hp)
  · cases e
    obtain ⟨p, vs, rfl, hp, r, hz⟩ := h.vTup
    refine .inr (.inl ⟨p, rfl, ⟨_, Same.seqT w.sub hp⟩, ?_⟩)
    have wk : Walk (Itt K p) ds.length (fun H => SqT K H p vs) (YAt vs) := by
      have := walk_tup (K := K) (a := p) (xs := vs)
      rw [r.length] at this
      exact this
    exact k _ _ _ wk hz (fun i H' x H'' hi y => ⟨y.1, r.getV y.2⟩) fun H' fm => Same.seqT fm hp
  · rename_i s
    cases e
    refine .inr (.inr ⟨tx s, h.vStr.1, ?_⟩)
    have wk : Walk (Its (tx s)) (s.map fun c => D.str [c]).length (fun _ => True) (fun i H v H' => H' = H ∧ ∃ c, (tx s).cps[i]? = some c ∧ v = .str ⟨#[c]⟩) := by
      have := walk_str (z := tx s)
      have e : (tx s).cps.size = (s.map fun c => D.str [c]).length := by simp [tx]
      rw [e] at this
      exact this
    refine k _ _ _ wk (by rw [List.length_map]; exact h.vStr.2) (fun i H' x H'' hi y => ⟨y.1, ?_⟩) fun _ _ => trivial
    obtain ⟨_, c, hc, rfl⟩ := y
    refine ⟨.str [c], ?_, .str [c] (by show 1 ≤ line; decide)⟩
    rw [List.getElem?_map]
    have : s[i]? = some c := by simpa [tx] using hc
    rw [this]
    rfl
  · cases e
theorem Sig.wipe1 {am : List Addr} {Hf H : Hp} {H0 : B0} {σ : St} {ρ : Env} (s : Sig K am Hf H H0 σ ρ) {j : Nat} : Sig K am Hf H H0 (σ.set j none) (ρ.set j .un) := by
  refine ⟨by rw [List.length_set, List.length_set, s.len], fun i x e => ?_, fun i k p di dj hik e1 e2 o1 o2 e3 e4 => ?_⟩
  · by_cases hj : j = i
    · subst hj
      have hl : j < ρ.length := by
        have := (List.getElem?_eq_some_iff.mp e).1
        rwa [List.length_set] at this
      rw [List.getElem?_set_self hl] at e
      cases e
      trivial
    · rw [List.getElem?_set_ne hj] at e
      have q := s.slot i x e
      cases x with
      | un => trivial
      | im d =>
        obtain ⟨v, h1, h2⟩ := q
        exact ⟨v, by rw [List.getElem?_set_ne hj]; exact h1, h2⟩
      | ol ds =>
        obtain ⟨p, vs, h1, h2⟩ := q
        exact ⟨p, vs, by rw [List.getElem?_set_ne hj]; exact h1, h2⟩
      | od ds =>
        obtain ⟨p, vs, h1, h2⟩ := q
        exact ⟨p, vs, by rw [List.getElem?_set_ne hj]; exact h1, h2⟩
      | oi c ds =>
        obtain ⟨p, dx, vs, h1, h2⟩ := q
        exact ⟨p, dx, vs, by rw [List.getElem?_set_ne hj]; exact h1, h2⟩
  · have n1 : j ≠ i := fun z => by
      subst z
      have hl : j < ρ.length := by
        have := (List.getElem?_eq_some_iff.mp e1).1
        rwa [List.length_set] at this
      rw [List.getElem?_set_self hl] at e1
      cases e1
      cases o1
    have n2 : j ≠ k := fun z => by
      subst z
      have hl : j < ρ.length := by
        have := (List.getElem?_eq_some_iff.mp e2).1
        rwa [List.length_set] at this
      rw [List.getElem?_set_self hl] at e2
      cases e2
      cases o2
    rw [List.getElem?_set_ne n1] at e1 e3
    rw [List.getElem?_set_ne n2] at e2 e4
    exact s.dist i k p di dj hik e1 e2 o1 o2 e3 e4
theorem lc_bnd {am : List Addr} {Hf H : Hp} {Q : VK} {W : XK} {o : O (List D)} {acc : List D} {k : List D → Store → O D} (hk : ∀ acc st, PostN K cl (k acc st) am Hf H Q W → acc.length ≤ line) (P : PostN K cl (o.nox.bind fun zs st => k (acc ++ zs) st) am Hf H Q W) : acc.length ≤ line := by
  cases o with
  | bad => exact P.elim
  | exc _ _ => exact P.elim
  | ok zs st =>
    have := hk (acc ++ zs) st P
    rw [List.length_append] at this
    omega
abbrev lcK (acc : List D) (st : Store) : O D := if acc.length ≤ line then .ok (.lst acc) st else .bad
theorem lcK_len {am : List Addr} {Hf H : Hp} {Q : VK} {W : XK} : ∀ acc st, PostN K cl (lcK acc st) am Hf H Q W → acc.length ≤ line := fun acc st P => by
  unfold lcK at P
  split at P
  · assumption
  · exact P.elim
/-- the loops of a comprehension with two fors -/
theorem lc2_gen {J : It} {n : Nat} {G : Hp → Prop} {Y : Nat → Hp → V → Hp → Prop} {am am1 : List Addr} {Hf H Hf1 H1 : Hp} {H0 : B0} {st1 : Store} {Q : VK} {W : XK} {σ : St} {ρ : Env} {j j1 : Nat} {ts te : TE} {tt : TT} {ds : List D} {f : D → Store → O (List D)} {Dl : Addr}
    {fs : D → Store → O D} {ft : D → D → Store → O Bool} {fe : D → D → Store → O D}
    (w : Walk J n G Y) (hn : n = ds.length) (f0 : Fm am Hf H am1 Hf1 H1) (w1 : Wf K am1 st1 Hf1 H1) (s1 : Sig K am1 Hf1 H1 H0 σ ρ)
    (hY : ∀ i H' x H'', i < n → Y i H' x H'' → H'' = H' ∧ ∃ d, ds[i]? = some d ∧ Rep K am1 Hf1 x d)
    (hG : ∀ am' Hf' H', Fm am1 Hf1 H1 am' Hf' H' → G H')
    (hf : ∀ x st, f x st = (fs x st).nox.bind fun s st => (lift (itemsD s) st).bind fun ys st => mapO (fun y st => (ft x y st).nox.bind fun k st => if k then (fe x y st).nox.bind fun z st => .ok (some z) st else .ok none st) ys st)
    (hs : ∀ {x st am Hf H σ Q}, Wf K am st Hf H → Sig K am Hf H H0 σ ((ρ.set j1 .un).set j (.im x)) → Post K cl (RV K) (fs x st) am Hf H Q (fun _ _ _ => False) → ts σ H Q)
    (ht : ∀ {x y st am Hf H σ Q}, Wf K am st Hf H → Sig K am Hf H H0 σ (((ρ.set j1 .un).set j (.im x)).set j1 (.im y)) → Post K cl RB (ft x y st) am Hf H Q (fun _ _ _ => False) → tt σ H Q)
    (he : ∀ {x y st am Hf H σ Q}, Wf K am st Hf H → Sig K am Hf H H0 σ (((ρ.set j1 .un).set j (.im x)).set j1 (.im y)) → Post K cl (RV K) (fe x y st) am Hf H Q (fun _ _ _ => False) → te σ H Q)
    (nD : H1 Dl = none) (nD0 : H Dl = none) (P : PostN K cl ((mapO2 f ds st1).nox.bind lcK) am Hf H Q W) :
    ∃ W : Nat → Nat → Hp → Prop, (∃ m, W 0 m (upd H1 Dl (.lst []))) ∧ ∀ i m H, W i m H →
      (J.stop i H ∧ Q (.ref Dl) H) ∨ (J.go i H ∧ ∃ Nx : Hp → Prop, (∀ H', Nx H' → ∃ m', m' < m ∧ W (i + 1) m' H') ∧ ∀ x H', J.yld i H x H' → gName j x (wipe σ [j, j1]) H' fun σ2 H2 => wipe σ2 [j, j1] = wipe σ [j, j1] ∧ tYes σ2 H2 fun b H3 =>
        if b = true then iAny K ts σ2 H3 fun J1 H4 => ∃ W1 : Nat → Nat → Hp → Prop, (∃ m, W1 0 m H4) ∧ ∀ j k H, W1 j k H →
          (J1.stop j H ∧ Nx H) ∨ (J1.go j H ∧ ∃ Nx1 : Hp → Prop, (∀ H', Nx1 H' → ∃ k', k' < k ∧ W1 (j + 1) k' H') ∧ ∀ x H', J1.yld j H x H' → gName j1 x (wipe σ2 [j1]) H' fun σ3 H5 => wipe σ3 [j1] = wipe σ2 [j1] ∧ tt σ3 H5 fun b H6 =>
            if b = true then te σ3 H6 fun y H7 => ∃ acc, H7 Dl = some (.lst acc) ∧ acc.length < sizeLine ∧ Nx1 (upd H7 Dl (.lst (acc ++ [y]))) else Nx1 H6)
        else Nx H3) := by
  subst hn
  let Pv : Nat → Hp → Prop := fun i H' => ∃ am' st' Hf' accv accd, Fm am1 Hf1 H1 am' Hf' H' ∧ Wf K am' st' Hf' H' ∧ H' Dl = some (.lst accv) ∧ Hf' Dl = none ∧ Dl ∉ am' ∧ RepL K am' Hf' accv accd ∧
      PostN K cl ((mapO2 f (ds.drop i) st').nox.bind fun zs st => lcK (accd ++ zs) st) am Hf H Q W
  refine ⟨fun i m H => m = ds.length - i ∧ i ≤ ds.length ∧ Pv i H, ⟨ds.length, by simp, Nat.zero_le _, am1, st1, Hf1, [], [], Fm.own nD, w1.own (w1.nof nD) (w1.notin nD), upd_same, w1.nof nD, w1.notin nD, .nil, P⟩, ?_⟩
  rintro i m H' ⟨rfl, hi, p⟩
  have q : G H' := by
    obtain ⟨am', st', Hf', accv, accd, fm, _⟩ := p
    exact hG am' Hf' H' fm
  by_cases hlt : i < ds.length
  case neg =>
    have e : i = ds.length := by omega
    subst e
    refine .inl ⟨w.stops H' q, ?_⟩
    obtain ⟨am', st', Hf', accv, accd, fm, wf, hD, nf, na, r, P⟩ := p
    rw [List.drop_length] at P
    have P : PostN K cl (lcK (accd ++ []) st') am Hf H Q W := P
    rw [List.append_nil] at P
    have hl := lcK_len _ _ P
    unfold lcK at P
    rw [if_pos hl] at P
    obtain ⟨ds', e, k⟩ := P
    cases e
    exact k Dl accv am' Hf' H' (f0.trans fm) wf nD0 hD nf na r hl
  refine .inr ⟨w.goes i H' hlt q, Pv (i + 1), fun H'' p' => ⟨ds.length - (i + 1), by omega, rfl, hlt, p'⟩, fun x H'' y => ?_⟩
  obtain ⟨am', st', Hf', accv, accd, fm, wf, hD, nf, na, r, P⟩ := p
  obtain ⟨rfl, d, hd, rx⟩ := hY i H' x H'' hlt (w.yields i H' x H'' hlt q y)
  have rx' := rx.mono fm.pre fm.hf
  have s2 : ∀ {am2 : List Addr} {Hf2 H2 : Hp}, Fm am1 Hf1 H1 am2 Hf2 H2 → Rep K am2 Hf2 x d → Sig K am2 Hf2 H2 H0 ((wipe σ [j, j1]).set j (some x)) ((ρ.set j1 .un).set j (.im d)) := fun {am2 Hf2 H2} fm2 r2 => by
    have e : (wipe σ [j, j1]).set j (some x) = (σ.set j1 none).set j (some x) := by
      first
        | (show ((σ.set j1 none).set j none).set j (some x) = _
           rw [List.set_set])
        | (show ((σ.set j none).set j1 none).set j (some x) = _
           by_cases h : j = j1
           · subst h; rw [List.set_set]
           · rw [List.set_comm _ _ (fun z => h z.symm), List.set_set, List.set_comm _ _ h])
    rw [e]
    exact ((s1.next fm2).wipe1).set r2
  have hdrop : ds.drop i = d :: ds.drop (i + 1) := by
    obtain ⟨h1, h2⟩ := (List.getElem?_eq_some_iff.mp hd)
    rw [← h2]
    exact List.drop_eq_getElem_cons h1
  rw [hdrop] at P
  let k2 : List D → Store → O D := fun acc st => (mapO2 f (ds.drop (i + 1)) st).nox.bind fun zs st => lcK (acc ++ zs) st
  have hk2 : ∀ acc st, PostN K cl (k2 acc st) am Hf H Q W → acc.length ≤ line := fun acc st P => lc_bnd lcK_len P
  let g : D → Store → O (Option D) := fun y st => (ft d y st).nox.bind fun k st => if k then (fe d y st).nox.bind fun z st => .ok (some z) st else .ok none st
  have e1 : ∀ o : O (List D), ((o.bind fun ys st => (mapO2 f (ds.drop (i + 1)) st).bind fun zs st => .ok (ys ++ zs) st).nox.bind fun zs st => lcK (accd ++ zs) st) = o.nox.bind fun ys st => k2 (accd ++ ys) st := fun o => by
    cases o with
    | bad => rfl
    | exc _ _ => rfl
    | ok ys st =>
      show ((O.bind (mapO2 f (ds.drop (i + 1)) st) fun zs st => .ok (ys ++ zs) st).nox.bind fun zs st => lcK (accd ++ zs) st) = (mapO2 f (ds.drop (i + 1)) st).nox.bind fun zs st => lcK (accd ++ ys ++ zs) st
      cases mapO2 f (ds.drop (i + 1)) st with
      | bad => rfl
      | exc _ _ => rfl
      | ok zs st =>
        show lcK (accd ++ (ys ++ zs)) st = lcK (accd ++ ys ++ zs) st
        rw [List.append_assoc]
  have P1 : PostN K cl ((f d st').nox.bind fun ys st => k2 (accd ++ ys) st) am Hf H Q W := by
    have h := e1 (f d st')
    rw [mapO2] at P
    rw [h] at P
    exact P
  have e2 : (f d st').nox.bind (fun ys st => k2 (accd ++ ys) st) = (fs d st').nox.bind fun s st => (lift (itemsD s) st).bind fun ys st => (mapO g ys st).nox.bind fun zs st => k2 (accd ++ zs) st := by
    rw [hf]
    cases fs d st' with
    | bad => rfl
    | exc _ _ => rfl
    | ok s st =>
      show ((O.bind (lift (itemsD s) st) fun ys st => mapO g ys st).nox.bind fun ys st => k2 (accd ++ ys) st) = (lift (itemsD s) st).bind fun ys st => (mapO g ys st).nox.bind fun zs st => k2 (accd ++ zs) st
      cases itemsD s <;> rfl
  rw [e2] at P1
  refine ⟨?_, ?_⟩
  · show (((wipe σ [j, j1]).set j (some x)).set j1 none).set j none = (σ.set j1 none).set j none
    show (((((σ.set j1 none).set j none).set j (some x)).set j1 none).set j none) = (σ.set j1 none).set j none
    rw [List.set_set]
    by_cases h : j = j1
    · subst h; simp
    · rw [List.set_comm _ _ h, List.set_set, List.set_set]
  unfold tYes
  dsimp only
  rw [if_pos rfl]
  show iAny K ts _ H'' _
  refine hs wf (s2 fm rx') (Post.nox_ (W := W) (PostN.step (R1 := RV K) P1 (f0.trans fm) fun sv sd st2 am2 Hf2 H2 fm2 fm3 wf2 rs P2 => ?_))
  obtain ⟨ys, hys, P3⟩ := P2.liftB
  have hD2 : H2 Dl = some (.lst accv) := fm3.keep _ _ hD na
  have nf2 : Hf2 Dl = none := fm3.offF _ _ hD nf
  have na2 : Dl ∉ am2 := fun z => na (fm3.offA _ _ hD z)
  refine items_denR (R := fun J1 H4 => ∃ W1 : Nat → Nat → Hp → Prop, (∃ m, W1 0 m H4) ∧ ∀ jj k H, W1 jj k H →
          (J1.stop jj H ∧ Pv (i + 1) H) ∨ (J1.go jj H ∧ ∃ Nx1 : Hp → Prop, (∀ H', Nx1 H' → ∃ k', k' < k ∧ W1 (jj + 1) k' H') ∧ ∀ x' H', J1.yld jj H x' H' → gName j1 x' (wipe ((wipe σ [j, j1]).set j (some x)) [j1]) H' fun σ3 H5 => wipe σ3 [j1] = wipe ((wipe σ [j, j1]).set j (some x)) [j1] ∧ tt σ3 H5 fun b H6 =>
            if b = true then te σ3 H6 fun y H7 => ∃ acc, H7 Dl = some (.lst acc) ∧ acc.length < sizeLine ∧ Nx1 (upd H7 Dl (.lst (acc ++ [y]))) else Nx1 H6)) wf2 rs hys fun J1 G1 Y1 wk1 hz1 hY1 hG1 => ?_
  let Pv1 : Nat → Hp → Prop := fun i H' => ∃ am' st' Hf' accv accd, Fm am1 Hf1 H1 am' Hf' H' ∧ Pre am2 am' ∧ Same Hf2 Hf' ∧ Wf K am' st' Hf' H' ∧ H' Dl = some (.lst accv) ∧ Hf' Dl = none ∧ Dl ∉ am' ∧ RepL K am' Hf' accv accd ∧
      PostN K cl ((mapO g (ys.drop i) st').nox.bind fun zs st => k2 (accd ++ zs) st) am Hf H Q W
  refine ⟨fun i m H => m = ys.length - i ∧ i ≤ ys.length ∧ Pv1 i H, ⟨ys.length, by simp, Nat.zero_le _, am2, st2, Hf2, accv, accd, fm.trans fm3, .refl _, .refl _, wf2, hD2, nf2, na2, r.mono fm3.pre fm3.hf, P3⟩, ?_⟩
  rintro i1 m1 K1 ⟨rfl, hi1, p⟩
  have q1 : G1 K1 := by
    obtain ⟨am', st', Hf', accv, accd, _, _, sm, wf', _⟩ := p
    exact hG1 K1 (sm.trans wf'.sub)
  by_cases hlt1 : i1 < ys.length
  case neg =>
    have e : i1 = ys.length := by omega
    subst e
    refine .inl ⟨wk1.stops K1 q1, ?_⟩
    obtain ⟨am', st', Hf', accv, accd, fm, _, _, wf, hD, nf, na, r, P⟩ := p
    rw [List.drop_length] at P
    have P : PostN K cl (k2 (accd ++ []) st') am Hf H Q W := P
    rw [List.append_nil] at P
    exact ⟨am', st', Hf', accv, accd, fm, wf, hD, nf, na, r, P⟩
  refine .inr ⟨wk1.goes i1 K1 hlt1 q1, Pv1 (i1 + 1), fun H'' p' => ⟨ys.length - (i1 + 1), by omega, rfl, hlt1, p'⟩, fun x' K2 y' => ?_⟩
  obtain ⟨am3, st3, Hf3, accv3, accd3, fm4, pr4, sm4, wf3, hD3, nf3, na3, r3, P4⟩ := p
  obtain ⟨rfl, d', hd', rx2⟩ := hY1 i1 K1 x' K2 hlt1 (wk1.yields i1 K1 x' K2 hlt1 q1 y')
  have rx2' := rx2.mono pr4 sm4
  have rx3 : Rep K am3 Hf3 x d := rx.mono fm4.pre fm4.hf
  have s3 : ∀ {am5 : List Addr} {Hf5 H5 : Hp}, Fm am3 Hf3 K2 am5 Hf5 H5 → Sig K am5 Hf5 H5 H0 ((wipe ((wipe σ [j, j1]).set j (some x)) [j1]).set j1 (some x')) (((ρ.set j1 .un).set j (.im d)).set j1 (.im d')) := fun {am5 Hf5 H5} fm5 =>
    (s2 (fm4.trans fm5) (rx3.mono fm5.pre fm5.hf)).wset (rx2'.mono fm5.pre fm5.hf)
  have hdrop1 : ys.drop i1 = d' :: ys.drop (i1 + 1) := by
    obtain ⟨h1, h2⟩ := (List.getElem?_eq_some_iff.mp hd')
    rw [← h2]
    exact List.drop_eq_getElem_cons h1
  rw [hdrop1] at P4
  refine ⟨?_, ?_⟩
  · show ((wipe ((wipe σ [j, j1]).set j (some x)) [j1]).set j1 (some x')).set j1 none = (wipe ((wipe σ [j, j1]).set j (some x)) [j1])
    rw [List.set_set]
    show ((((wipe σ [j, j1]).set j (some x)).set j1 none).set j1 none) = _
    rw [List.set_set]
    rfl
  have e3 : (mapO g (d' :: ys.drop (i1 + 1)) st3).nox.bind (fun zs st => k2 (accd3 ++ zs) st) = (ft d d' st3).nox.bind fun k st => if k = true then (fe d d' st).nox.bind fun z st => (mapO g (ys.drop (i1 + 1)) st).nox.bind fun zs st => k2 (accd3 ++ [z] ++ zs) st else (mapO g (ys.drop (i1 + 1)) st).nox.bind fun zs st => k2 (accd3 ++ zs) st := by
    rw [mapO]
    show (((ft d d' st3).nox.bind fun k st => if k then (fe d d' st).nox.bind fun z st => O.ok (some z) st else O.ok none st).bind _).nox.bind _ = _
    cases ft d d' st3 with
    | bad => rfl
    | exc _ _ => rfl
    | ok k st =>
      cases k with
      | true =>
        show ((((fe d d' st).nox.bind fun z st => O.ok (some z) st).bind fun y st => (mapO g (ys.drop (i1 + 1)) st).bind fun ys st => .ok (match y with | some y => y :: ys | none => ys) st).nox.bind _) = (fe d d' st).nox.bind _
        cases fe d d' st with
        | bad => rfl
        | exc _ _ => rfl
        | ok z st =>
          show (((mapO g (ys.drop (i1 + 1)) st).bind fun ys st => .ok (z :: ys) st).nox.bind _) = (mapO g (ys.drop (i1 + 1)) st).nox.bind fun zs st => k2 (accd3 ++ [z] ++ zs) st
          cases mapO g (ys.drop (i1 + 1)) st with
          | bad => rfl
          | exc _ _ => rfl
          | ok zs st =>
            show k2 (accd3 ++ z :: zs) st = k2 (accd3 ++ [z] ++ zs) st
            rw [List.append_assoc]; rfl
      | false =>
        show (((mapO g (ys.drop (i1 + 1)) st).bind fun ys st => .ok ys st).nox.bind _) = (mapO g (ys.drop (i1 + 1)) st).nox.bind fun zs st => k2 (accd3 ++ zs) st
        cases mapO g (ys.drop (i1 + 1)) st <;> rfl
  rw [e3] at P4
  refine ht wf3 (s3 (.refl _ _ _)) (Post.nox_ (W := W) (PostN.step (R1 := RB) P4 (f0.trans fm4) fun b k st5 am5 Hf5 H5 fm5 fm6 wf5 e P5 => ?_))
  subst e
  have hD5 : H5 Dl = some (.lst accv3) := fm6.keep _ _ hD3 na3
  have nf5 : Hf5 Dl = none := fm6.offF _ _ hD3 nf3
  have na5 : Dl ∉ am5 := fun z => na3 (fm6.offA _ _ hD3 z)
  cases b with
  | true =>
    rw [if_pos rfl] at P5 ⊢
    refine he wf5 (s3 fm6) (Post.nox_ (W := W) (PostN.step (R1 := RV K) P5 fm5 fun y yd st7 am7 Hf7 H7 fm7 fm8 wf7 ry P7 => ?_))
    have hD7 : H7 Dl = some (.lst accv3) := fm8.keep _ _ hD5 na5
    have nf7 : Hf7 Dl = none := fm8.offF _ _ hD5 nf5
    have na7 : Dl ∉ am7 := fun z => na5 (fm8.offA _ _ hD5 z)
    have r7 := r3.mono (fm6.pre.trans fm8.pre) (fm6.hf.trans fm8.hf)
    refine ⟨accv3, hD7, ?_, am7, st7, Hf7, accv3 ++ [y], accd3 ++ [yd], (fm4.trans (fm6.trans fm8)).mut nD, pr4.trans (fm6.pre.trans fm8.pre), sm4.trans (fm6.hf.trans fm8.hf), wf7.own nf7 na7, upd_same, nf7, na7, r7.append (.one ry), P7⟩
    have hb := lc_bnd hk2 P7
    rw [List.length_append, List.length_singleton] at hb
    rw [r7.length, ← line_eq]
    omega
  | false =>
    rw [if_neg Bool.false_ne_true] at P5 ⊢
    exact ⟨am5, st5, Hf5, accv3, accd3, fm4.trans fm6, pr4.trans fm6.pre, sm4.trans fm6.hf, wf5, hD5, nf5, na5, r3.mono fm6.pre fm6.hf, P5⟩
theorem look_rep {am : List Addr} {Hf : Hp} {f : Str} {d : D} : ∀ {fs : List (Str × V)} {ds : List (Str × D)}, fs.map (·.1) = ds.map (·.1) → RepL K am Hf (fs.map (·.2)) (ds.map (·.2)) → ds.lookup f = some d → ∃ v, fs.lookup f = some v ∧ Rep K am Hf v d
  | [], [], _, _, e => by cases e
  | [], _ :: _, e, _, _ => by simp at e
  | _ :: _, [], e, _, _ => by simp at e
  | (a, v) :: fs, (b, x) :: ds, e, r, h => by
    rw [List.map_cons, List.map_cons, List.cons.injEq] at e
    obtain ⟨e1, e2⟩ := e
    have e1 : a = b := e1
    subst e1
    cases r with
    | cons r1 r2 =>
      rw [List.lookup_cons] at h ⊢
      cases hb : f == a with
      | true => rw [hb] at h; cases h; exact ⟨v, rfl, r1⟩
      | false => rw [hb] at h; exact look_rep e2 r2 h
theorem look_none {am : List Addr} {Hf : Hp} {f : Str} : ∀ {fs : List (Str × V)} {ds : List (Str × D)}, fs.map (·.1) = ds.map (·.1) → (ds.lookup f).isNone = true → fs.lookup f = none
  | [], [], _, _ => rfl
  | [], _ :: _, e, _ => by simp at e
  | _ :: _, [], e, _ => by simp at e
  | (a, v) :: fs, (b, x) :: ds, e, h => by
    rw [List.map_cons, List.map_cons, List.cons.injEq] at e
    obtain ⟨e1, e2⟩ := e
    have e1 : a = b := e1
    subst e1
    rw [List.lookup_cons] at h ⊢
    cases hb : f == a with
    | true => rw [hb] at h; cases h
    | false => rw [hb] at h; exact look_none (am := am) (Hf := Hf) e2 h
theorem look_mem {f : Str} {d : D} {ds : List (Str × D)} (h : ds.lookup f = some d) : f ∈ ds.map (·.1) := List.mem_map.mpr ⟨_, PySem.mem_of_lookup h, rfl⟩
/-- a field's value -/
theorem fld_den {am : List Addr} {st : Store} {Hf H : Hp} {v : V} {x z : D} {f : Str} (w : Wf K am st Hf H) (h : Rep K am Hf v x) (e : fldD st x f = some z) :
    ∃ a C dx fs u, v = .ref a ∧ H a = some (.ins C dx fs) ∧ Cls K C ∧ NoAttr K C f ∧ fs.lookup f = some u ∧ Rep K am Hf u z := by
  unfold fldD at e
  split at e
  · cases h with
    | ins ci na hh hn r =>
      obtain ⟨u, q1, q2⟩ := look_rep hn r e
      exact ⟨_, _, _, _, u, rfl, w.sub _ _ hh, ci.cl, na _ (look_mem e), q1, q2⟩
  · split at e
    · rename_i hc
      obtain ⟨a, rfl, ha⟩ := h.vRef
      exact (w.cell _ _ _ ha hc).elim
    · cases e
  · cases e
/-- an instance of a class -/
theorem ins_den {am : List Addr} {st : Store} {Hf H : Hp} {v : V} {x : D} {c m : Str} (w : Wf K am st Hf H) (h : Rep K am Hf v x) (e : insD st c m x = true) :
    ∃ a dx fs, v = .ref a ∧ H a = some (.ins (He.ga K c) dx fs) ∧ fs.lookup m = none := by
  unfold insD at e
  split at e
  · rw [Bool.and_eq_true] at e
    have ec := of_decide_eq_true e.1
    subst ec
    cases h with
    | ins ci na hh hn r => exact ⟨_, _, _, rfl, w.sub _ _ hh, look_none (am := am) (Hf := Hf) hn e.2⟩
  · split at e
    · rename_i hc
      obtain ⟨a, rfl, ha⟩ := h.vRef
      exact (w.cell _ _ _ ha hc).elim
    · cases e
  · cases e
theorem Opd.tyN {am : List Addr} {st : Store} {Hf H : Hp} {v : V} {x : D} {t : TyN} (w : Wf K am st Hf H) (h : Opd K am Hf H v x) (e : tyN st x = some t) : TyX K H v (t.v K) := by
  unfold PF.tyN at e
  split at e
  · cases e
    have h := h.rep (fun _ z => by cases z)
    cases h with
    | ins ci na hh hn r => exact .base (.ins (w.sub _ _ hh) ci.cl ci.ha ci.hn ci.htk ci.hm)
  · split at e
    · rename_i hc
      obtain ⟨a, rfl, ha⟩ := (h.rep (fun _ z => by cases z)).vRef
      exact (w.cell _ _ _ ha hc).elim
    · rename_i hc
      cases e
      obtain ⟨a, rfl, ha⟩ := (h.rep (fun _ z => by cases z)).vRef
      obtain ⟨vs, hp, _⟩ := w.cell _ _ _ ha hc
      exact .base (.lst hp)
    · cases e
  · cases e; exact ty_den (n := "NoneType") w h rfl
  · cases e; exact ty_den (n := "bool") w h rfl
  · cases e; exact ty_den (n := "int") w h rfl
  · cases e; exact ty_den (n := "str") w h rfl
  · cases e; exact ty_den (n := "list") w h rfl
  · cases e; exact ty_den (n := "tuple") w h rfl
  · cases e; exact ty_den (n := "dict") w h rfl
  · cases e
theorem insOf_eq {c : Str} {d x : D} (h : insOf c d = some x) : d = x ∧ ∃ fs, d = .ins c fs := by
  unfold insOf at h
  split at h
  · split at h
    · rename_i e
      cases h
      subst e
      exact ⟨rfl, _, rfl⟩
    · cases h
  · cases h
theorem strs_den {am : List Addr} {H : Hp} : ∀ {ds : List D} {us : List Value}, strsB ds us = true → ∃ vs, Vals vs us ∧ RepL K am H vs ds
  | [], [], _ => ⟨[], .nil, .nil⟩
  | .str s :: ds, .str x t :: us, h => by
    have h : (decide (tx s = x) && decide (s.length ≤ line) && strsB ds us) = true := h
    rw [Bool.and_eq_true, Bool.and_eq_true] at h
    obtain ⟨vs, h1, h2⟩ := strs_den (am := am) (H := H) h.2
    have e := of_decide_eq_true h.1.1
    subst e
    exact ⟨.str (tx s) :: vs, .cons ⟨t, rfl⟩ h1, .cons (.str s (of_decide_eq_true h.1.2)) h2⟩
theorem kRep_den {am : List Addr} {H : Hp} {u : Value} {d : D} (h : kRepB K u d = true) : ∃ v, RelV v u ∧ Rep K am H v d := by
  unfold kRepB at h
  split at h
  · rename_i ds
    split at h
    · rename_i b
      split at h
      · rename_i c dd its n sl hl
        obtain ⟨h1, h⟩ := He.ba h
        obtain ⟨h2, h⟩ := He.ba h
        obtain ⟨h3, h4⟩ := He.ba h
        obtain ⟨vs, r1, r2⟩ := strs_den (K := K) (am := am) (H := H) h4
        refine ⟨.ref b, rfl, .tup (of_decide_eq_true h3) (.inr ⟨_, its, n, hl, congrArg Value.type (of_decide_eq_true h1), rfl, of_decide_eq_true h2, r1⟩) r2⟩
      · cases h
    · cases h
  · cases h
theorem kv_den {am : List Addr} {H : Hp} {x : Str} {d : D} (h : (Kf.kv x d).ok K = true) : Rep K am H (.ref (He.ga K x)) d := by
  obtain ⟨v, r, q⟩ := kRep_den (am := am) (H := H) (u := .ref (He.ga K x)) (d := d) h
  cases v with
  | ref a =>
    cases (show Value.ref (He.ga K x) = Value.ref a from r)
    exact q
  | non => cases r
  | bl _ => cases r
  | ty _ => cases r
  | int _ => obtain ⟨t, r⟩ := (show ∃ t, _ from r); cases r
  | str _ => obtain ⟨t, r⟩ := (show ∃ t, _ from r); cases r
  | byt _ => obtain ⟨t, r⟩ := (show ∃ t, _ from r); cases r
  | flt _ => obtain ⟨t, r⟩ := (show ∃ t, _ from r); cases r
theorem lk_mem {α β : Type} [BEq α] [LawfulBEq α] {a : α} {b : β} : ∀ {l : List (α × β)}, l.lookup a = some b → (a, b) ∈ l
  | [], h => by cases h
  | (c, d) :: r, h => by
    rw [List.lookup_cons] at h
    cases q : a == c with
    | true =>
      rw [q] at h
      cases h
      rw [eq_of_beq q]
      exact List.mem_cons_self
    | false =>
      rw [q] at h
      exact List.mem_cons_of_mem _ (lk_mem h)
theorem tab_den {am : List Addr} {H : Hp} {x : Str} {t : List (Tx × D)} {s : Tx} {d : D} (h : (Kf.tab x t).ok K = true) (e : t.lookup s = some d) : ∃ u v, PySem.W.nsIn K (He.ga K x) (tx s) = some (some u) ∧ RelV v u ∧ Rep K am H v d := by
  have h1 := List.all_eq_true.mp h _ (lk_mem e)
  cases q : PySem.W.nsIn K (He.ga K x) (tx s) with
  | none => rw [q] at h1; cases h1
  | some r =>
    cases r with
    | none => rw [q] at h1; cases h1
    | some u =>
      rw [q] at h1
      obtain ⟨v, r1, r2⟩ := kRep_den (am := am) (H := H) h1
      exact ⟨u, v, rfl, r1, r2⟩
theorem lk_some {α β : Type} [BEq α] [LawfulBEq α] {p : α × β} : ∀ {l : List (α × β)}, p ∈ l → (l.lookup p.1).isSome = true
  | (c, d) :: r, h => by
    rw [List.lookup_cons]
    cases q : p.1 == c with
    | true => rfl
    | false =>
      rcases List.mem_cons.mp h with z | z
      · rw [z] at q
        simp at q
      · exact lk_some z
theorem keys_den {x : Str} {t : List (Tx × D)} {s : Tx} (h : (Kf.keys x t).ok K = true) (e : t.lookup s = none) : PySem.W.nsIn K (He.ga K x) (tx s) = some none := by
  have h : (match K.lookup (He.ga K x) with | some ⟨_, _, .dict es _, _⟩ => es.toList.all fun e => keyIn t e.key | _ => false) = true := h
  unfold PySem.W.nsIn
  split at h
  · rename_i es n _ hl
    rw [hl]
    have hk : ∀ q ∈ es.toList, q.key.isStr (tx s) = false ∧ q.refKey = false := fun q hq => by
      have h1 := List.all_eq_true.mp h q hq
      unfold keyIn at h1
      split at h1
      · rename_i k t0 hkey
        obtain ⟨p, hp, hd⟩ := List.any_eq_true.mp h1
        have hd := of_decide_eq_true hd
        refine ⟨?_, by unfold DictEntry.refKey; rw [hkey]⟩
        rw [hkey]
        show (k == tx s) = false
        rw [beq_eq_false_iff_ne]
        intro z
        rw [← hd] at z
        have z := tx_inj z
        have : (t.lookup s).isSome = true := by
          rw [← z]
          exact lk_some hp
        rw [e] at this
        cases this
      · cases h1
    have f1 : es.toList.find? (fun x => x.key.isStr (tx s)) = none := List.find?_eq_none.mpr fun q hq => by rw [(hk q hq).1]; exact Bool.false_ne_true
    have f2 : es.toList.any (fun x => x.refKey) = false := List.any_eq_false.mpr fun q hq => by rw [(hk q hq).2]; exact Bool.false_ne_true
    show (match es.toList.find? (fun x => x.key.isStr (tx s)) with | some e => some (some e.val) | none => if es.toList.any (fun x => x.refKey) then none else some none) = some none
    rw [f1, f2]
    rfl
  · cases h
/-- the comprehension's loop, any target, any source -/
theorem lc_genT {J : It} {G : Hp → Prop} {Y : Nat → Hp → V → Hp → Prop} {am am1 : List Addr} {Hf H Hf1 H1 : Hp} {H0 : B0} {st1 : Store} {Q : VK} {W : XK} {σ : St} {ρ : Env} {is : List Nat} {tt : TT} {te : TE} {ds : List D} {f : D → Store → O (Option D)} {Dl : Addr}
    {ft : Env → Store → O Bool} {fe : Env → Store → O D}
    (src : Src K am1 Hf1 ds J G Y) (f0 : Fm am Hf H am1 Hf1 H1) (w1 : Wf K am1 st1 Hf1 H1) (s1 : Sig K am1 Hf1 H1 H0 σ ρ)
    (hf : ∀ x st, f x st = (lift (setT (wipE ρ is) is x) st).bind fun ρ' st => (ft ρ' st).nox.bind fun k st => if k then (fe ρ' st).nox.bind fun y st => .ok (some y) st else .ok none st)
    (ht : ∀ {ρ' st am Hf H σ Q}, Wf K am st Hf H → Sig K am Hf H H0 σ ρ' → Post K cl RB (ft ρ' st) am Hf H Q (fun _ _ _ => False) → tt σ H Q)
    (he : ∀ {ρ' st am Hf H σ Q}, Wf K am st Hf H → Sig K am Hf H H0 σ ρ' → Post K cl (RV K) (fe ρ' st) am Hf H Q (fun _ _ _ => False) → te σ H Q)
    (nD : H1 Dl = none) (nD0 : H Dl = none) (P : PostN K cl ((mapO f ds st1).bind fun ys st => .ok (.lst ys) st) am Hf H Q W) :
    ∃ W : Nat → Nat → Hp → Prop, (∃ m, W 0 m (upd H1 Dl (.lst []))) ∧ ∀ i m H, W i m H →
      (J.stop i H ∧ Q (.ref Dl) H) ∨ (J.go i H ∧ ∃ Nx : Hp → Prop, (∀ H', Nx H' → ∃ m', m' < m ∧ W (i + 1) m' H') ∧ ∀ x H', J.yld i H x H' → gTgt K is x (wipe σ is) H' fun σ2 H2 => wipe σ2 is = wipe σ is ∧ tt σ2 H2 fun b H3 =>
        if b = true then te σ2 H3 fun y H4 => ∃ acc, H4 Dl = some (.lst acc) ∧ acc.length < sizeLine ∧ Nx (upd H4 Dl (.lst (acc ++ [y]))) else Nx H3) := by
  refine lc_it (Qd := fun H => Q (.ref Dl) H) src.w (fun i H' => ∃ am' st' Hf' accv accd, Fm am1 Hf1 H1 am' Hf' H' ∧ Wf K am' st' Hf' H' ∧ H' Dl = some (.lst accv) ∧ Hf' Dl = none ∧ Dl ∉ am' ∧ RepL K am' Hf' accv accd ∧ accd.length ≤ i ∧
      PostN K cl ((mapO f (ds.drop i) st').bind fun ys st => .ok (.lst (accd ++ ys)) st) am Hf H Q W) ?_ ?_ ?_ ?_
  · exact ⟨am1, st1, Hf1, [], [], Fm.own nD, w1.own (w1.nof nD) (w1.notin nD), upd_same, w1.nof nD, w1.notin nD, .nil, Nat.zero_le _, P⟩
  · rintro i H' _ ⟨am', st', Hf', accv, accd, fm, wf, _⟩
    exact src.g H' (fun b u e => wf.sub _ _ (fm.hf _ _ e))
  · rintro i x H' H'' hi ⟨am', st', Hf', accv, accd, fm, wf, hD, nf, na, r, hl, P⟩ y
    obtain ⟨Hf'', fy, wy, d, hd, rx⟩ := src.y i H' x H'' hi y am' st' Hf' wf fm.pre fm.hf
    have hDy : H'' Dl = some (.lst accv) := fy.keep _ _ hD na
    have nfy : Hf'' Dl = none := fy.offF _ _ hD nf
    have ry := r.mono (.refl _) fy.hf
    have sy : Sig K am' Hf'' H'' H0 (wipe σ is) (wipE ρ is) := ((s1.next fm).next fy).wipes is
    have hdrop : ds.drop i = d :: ds.drop (i + 1) := by
      have := (List.getElem?_eq_some_iff.mp hd)
      obtain ⟨h1, h2⟩ := this
      rw [← h2]
      exact List.drop_eq_getElem_cons h1
    rw [hdrop] at P
    have e1 : (mapO f (d :: ds.drop (i + 1)) st').bind (fun ys st => O.ok (D.lst (accd ++ ys)) st) = (f d st').bind fun y st => ((mapO f (ds.drop (i + 1)) st).bind fun ys st => .ok (match y with | some y => y :: ys | none => ys) st).bind fun ys st => .ok (.lst (accd ++ ys)) st := by
      rw [mapO]
      cases f d st' <;> rfl
    rw [e1, hf] at P
    cases hs : setT (wipE ρ is) is d with
    | none => rw [hs] at P; exact P.elim
    | some ρ' =>
      rw [hs] at P
      refine tgt_den (us := is) (fun _ h => h) wy sy rx hs fun σ2 s2 hw2 => ⟨hw2.trans (wipe_wipe fun _ h => h), ?_⟩
      have P : PostN K cl (((ft ρ' st').nox.bind fun k st => if k then (fe ρ' st).nox.bind fun y st => .ok (some y) st else .ok none st).bind fun y st => ((mapO f (ds.drop (i + 1)) st).bind fun ys st => .ok (match y with | some y => y :: ys | none => ys) st).bind fun ys st => .ok (.lst (accd ++ ys)) st) am Hf H Q W := P
      have hlen : i < ds.length := hi
      -- the test
      have P1 : PostN K cl ((ft ρ' st').nox.bind fun k st => (if k = true then (fe ρ' st).nox.bind fun y st => .ok (some y) st else .ok none st).bind fun y st => ((mapO f (ds.drop (i + 1)) st).bind fun ys st => .ok (match y with | some y => y :: ys | none => ys) st).bind fun ys st => .ok (.lst (accd ++ ys)) st) am Hf H Q W := by
        cases hh : (ft ρ' st').nox with
        | ok k st => rw [hh] at P; exact P
        | exc _ _ => rw [hh] at P; exact P
        | bad => rw [hh] at P; exact P
      have fq := fm.trans fy
      refine ht wy s2 (Post.nox_ (W := W) (PostN.step (R1 := RB) P1 (f0.trans fq) fun b k st2 am2 Hf2 H2 fm2 fm3 wf2 e P2 => ?_))
      subst e
      have hD2 : H2 Dl = some (.lst accv) := fm3.keep _ _ hDy na
      have nf2 : Hf2 Dl = none := fm3.offF _ _ hDy nfy
      have na2 : Dl ∉ am2 := fun z => na (fm3.offA _ _ hDy z)
      cases b with
      | true =>
        rw [if_pos rfl] at P2 ⊢
        have P3 : PostN K cl ((fe ρ' st2).nox.bind fun y st => ((mapO f (ds.drop (i + 1)) st).bind fun ys st => .ok (y :: ys) st).bind fun ys st => .ok (.lst (accd ++ ys)) st) am Hf H Q W := by
          cases hh : (fe ρ' st2).nox with
          | ok k st => rw [hh] at P2; exact P2
          | exc _ _ => rw [hh] at P2; exact P2
          | bad => rw [hh] at P2; exact P2
        refine he wf2 (s2.next fm3) (Post.nox_ (W := W) (PostN.step (R1 := RV K) P3 fm2 fun y yd st3 am3 Hf3 H3 fm4 fm5 wf3 ry3 P4 => ?_))
        have hD3 : H3 Dl = some (.lst accv) := fm5.keep _ _ hD2 na2
        have nf3 : Hf3 Dl = none := fm5.offF _ _ hD2 nf2
        have na3 : Dl ∉ am3 := fun z => na2 (fm5.offA _ _ hD2 z)
        have r3 := ry.mono (fm3.pre.trans fm5.pre) (fm3.hf.trans fm5.hf)
        refine ⟨accv, hD3, ?_, am3, st3, Hf3, accv ++ [y], accd ++ [yd], (fq.trans (fm3.trans fm5)).mut nD, wf3.own nf3 na3, upd_same, nf3, na3, r3.append (.one ry3), ?_, ?_⟩
        · rw [r3.length, ← line_eq]
          have := src.z
          omega
        · rw [List.length_append, List.length_singleton]
          omega
        · cases hh : mapO f (ds.drop (i + 1)) st3 with
          | ok ys st => rw [hh] at P4; simpa using P4
          | exc _ _ => rw [hh] at P4; exact P4
          | bad => rw [hh] at P4; exact P4
      | false =>
        rw [if_neg Bool.false_ne_true] at P2 ⊢
        refine ⟨am2, st2, Hf2, accv, accd, fq.trans fm3, wf2, hD2, nf2, na2, ry.mono fm3.pre fm3.hf, Nat.le_succ_of_le hl, ?_⟩
        cases hh : mapO f (ds.drop (i + 1)) st2 with
        | ok ys st =>
          have P2 : PostN K cl (((mapO f (ds.drop (i + 1)) st2).bind fun ys st => .ok ys st).bind fun ys st => .ok (.lst (accd ++ ys)) st) am Hf H Q W := P2
          rw [hh] at P2
          exact P2
        | exc _ _ =>
          have P2 : PostN K cl (((mapO f (ds.drop (i + 1)) st2).bind fun ys st => .ok ys st).bind fun ys st => .ok (.lst (accd ++ ys)) st) am Hf H Q W := P2
          rw [hh] at P2
          exact P2
        | bad =>
          have P2 : PostN K cl (((mapO f (ds.drop (i + 1)) st2).bind fun ys st => .ok ys st).bind fun ys st => .ok (.lst (accd ++ ys)) st) am Hf H Q W := P2
          rw [hh] at P2
          exact P2
  · rintro H' ⟨am', st', Hf', accv, accd, fm, wf, hD, nf, na, r, hl, P⟩
    rw [List.drop_length] at P
    obtain ⟨ds', e, k⟩ := P
    cases e
    rw [List.append_nil] at k
    exact k Dl accv am' Hf' H' (f0.trans fm) wf nD0 hD nf na r (Nat.le_trans hl src.z)
/-- from the locked world -/
theorem Fm.unsw {am am' : List Addr} {Hf H Hf' H' : Hp} {p : Addr} {o u : HO} (f : Fm am (PF.sw p o Hf) (PF.sw p o H) am' Hf' H') (h1 : ∀ x, Hf p = some x → x = u) (h2 : ∀ x, H p = some x → x = u) : Fm am Hf H am' (PF.sw p u Hf') (PF.sw p u H') := by
  have := f.sw (p := p) (o := u)
  rw [sw_sw h1, sw_sw h2] at this
  exact this
/-- the answer in a world where the dict at p is locked -/
theorem PostN.lock {r : O D} {am : List Addr} {Hf H : Hp} {Q : VK} {W : XK} {p : Addr} {vs : List (Key × V)} {od : Obj} (hp : Hf p = some (.dK vs)) (sub : Same Hf H) (hx : ∀ x st, r ≠ .exc x st) (P : PostN K cl r am Hf H Q W) :
    PostN K cl r am (PF.sw p (.frz od (.dK vs)) Hf) (PF.sw p (.frz od (.dK vs)) H) (fun v H' => H' p = some (.frz od (.dK vs)) ∧ Q v (upd H' p (.dK vs))) fun _ _ _ => False := by
  cases r with
  | bad => exact P
  | exc x st => exact absurd rfl (hx x st)
  | ok d st =>
    obtain ⟨ds, e, k⟩ := P
    refine ⟨ds, e, fun q us am' Hf' H' fm wf nq hq nfq na rl hz => ?_⟩
    have hH := sub _ _ hp
    have hf' : Hf' p = some (.frz od (.dK vs)) := fm.hf _ _ (sw_at hp)
    have hh' : H' p = some (.frz od (.dK vs)) := wf.sub _ _ hf'
    have un : ∀ x, Hf' p = some x → IsK vs x := fun x e => by
      rw [hf'] at e
      cases e
      exact .inr ⟨od, rfl⟩
    have ne : q ≠ p := fun z => by
      subst z
      rw [hf'] at nfq
      cases nfq
    have := k q us am' (PF.sw p (.dK vs) Hf') (PF.sw p (.dK vs) H') (fm.unsw (fun x e => by rw [hp] at e; cases e; rfl) (fun x e => by rw [hH] at e; cases e; rfl)) (wf.sw (.inl rfl) un hf') (sw_none.mp nq) (by rw [sw_ne ne]; exact hq) (sw_none.mpr nfq) na (rl.sw (.inl rfl) un) hz
    rw [sw_upd hh'] at this
    exact ⟨hh', this⟩
theorem Sig.lk {am : List Addr} {st : Store} {Hf H : Hp} {H0 : B0} {σ : St} {ρ : Env} {p : Addr} {o u : HO} {kvs : List (Key × V)} (s : Sig K am Hf H H0 σ ρ) (ho : IsK kvs o) (hu : ∀ x, Hf p = some x → IsK kvs x) (hp : Hf p = some u) : Sig K am (PF.sw p o Hf) (PF.sw p o H) ⟨PF.sw p o H0.h, H0.sf⟩ σ ρ := by
  refine ⟨s.len, fun i x e => ?_, s.dist⟩
  have q := s.slot i x e
  have ne : ∀ {a : Addr}, Hf a = none → a ≠ p := fun h z => by
    rw [z, hp] at h
    cases h
  cases x with
  | un => trivial
  | im d =>
    obtain ⟨v, h1, h2⟩ := q
    exact ⟨v, h1, h2.sw ho hu⟩
  | ol ds =>
    obtain ⟨a, vs, h1, h2, h3, h4, h5, h6, h7⟩ := q
    exact ⟨a, vs, h1, by rw [sw_ne (ne h4)]; exact h2, h3.sw ho hu, sw_none.mpr h4, h5, sw_none.mpr h6, h7⟩
  | od ds =>
    obtain ⟨a, vs, h1, h2, h3, h4, h5, h6⟩ := q
    exact ⟨a, vs, h1, by rw [sw_ne (ne h4)]; exact h2, h3.sw ho hu, sw_none.mpr h4, h5, sw_none.mpr h6⟩
  | oi c ds =>
    obtain ⟨a, dx, vs, h1, h2, h3, h4, h5, h6, h7⟩ := q
    exact ⟨a, dx, vs, h1, by rw [sw_ne (ne h4)]; exact h2, h3.sw ho hu, sw_none.mpr h4, h5, ⟨sw_none.mpr h6.1, h6.2⟩, h7⟩
end
end PF
namespace PF
open PySem L2
section
variable {K : PySem.W.Frag} {cl : Nat → Addr} {C : Calls}
theorem lc_lst {o : O D} {f : D → Store → O (List D)} : ∀ d st, (o.bind fun x st => (f x st).bind fun ys st => O.ok (D.lst ys) st) = .ok d st → ∃ ds, d = .lst ds := fun d st e => by
  cases o with
  | ok a s =>
    have e : ((f a s).bind fun ys st => O.ok (D.lst ys) st) = .ok d st := e
    cases hh : f a s with
    | ok ys s2 => rw [hh] at e; cases e; exact ⟨ys, rfl⟩
    | exc _ _ => rw [hh] at e; cases e
    | bad => rw [hh] at e; cases e
  | exc _ _ => cases e
  | bad => cases e
theorem bind_lst {α : Type} {o : O α} {f : α → Store → O D} (h : ∀ a st d st', f a st = .ok d st' → ∃ ds, d = .lst ds) : ∀ d st, o.bind f = .ok d st → ∃ ds, d = .lst ds := fun d st e => by
  cases o with
  | ok a s => exact h a s d st e
  | exc _ _ => cases e
  | bad => cases e
/-- what a comprehension asks behind its iterable -/
def LcR (g : TG) (tt : TT) (te : TE) (vs : List Nat) (σ : St) (Q : VK) : It → Hp → Prop := fun J H1 => ∀ D, H1 D = none → ∃ W : Nat → Nat → Hp → Prop, (∃ m, W 0 m (upd H1 D (.lst []))) ∧ ∀ i m H, W i m H →
  (J.stop i H ∧ Q (.ref D) H) ∨ (J.go i H ∧ ∃ Nx : Hp → Prop, (∀ H', Nx H' → ∃ m', m' < m ∧ W (i + 1) m' H') ∧ ∀ x H', J.yld i H x H' → g x (wipe σ vs) H' fun σ2 H2 => wipe σ2 vs = wipe σ vs ∧ tt σ2 H2 fun b H3 =>
    if b = true then te σ2 H3 fun y H4 => ∃ acc, H4 D = some (.lst acc) ∧ acc.length < sizeLine ∧ Nx (upd H4 D (.lst (acc ++ [y]))) else Nx H3)
def LcR2 (K : PySem.W.Frag) (g : TG) (ts : TE) (g1 : TG) (tt1 : TT) (te : TE) (vs vs1 : List Nat) (σ : St) (Q : VK) : It → Hp → Prop := fun J H1 => ∀ D, H1 D = none → ∃ W : Nat → Nat → Hp → Prop, (∃ m, W 0 m (upd H1 D (.lst []))) ∧ ∀ i m H, W i m H →
  (J.stop i H ∧ Q (.ref D) H) ∨ (J.go i H ∧ ∃ Nx : Hp → Prop, (∀ H', Nx H' → ∃ m', m' < m ∧ W (i + 1) m' H') ∧ ∀ x H', J.yld i H x H' → g x (wipe σ vs) H' fun σ2 H2 => wipe σ2 vs = wipe σ vs ∧ tYes σ2 H2 fun b H3 =>
    if b = true then iAny K ts σ2 H3 fun J1 H4 => ∃ W1 : Nat → Nat → Hp → Prop, (∃ m, W1 0 m H4) ∧ ∀ j k H, W1 j k H →
      (J1.stop j H ∧ Nx H) ∨ (J1.go j H ∧ ∃ Nx1 : Hp → Prop, (∀ H', Nx1 H' → ∃ k', k' < k ∧ W1 (j + 1) k' H') ∧ ∀ x H', J1.yld j H x H' → g1 x (wipe σ2 vs1) H' fun σ3 H5 => wipe σ3 vs1 = wipe σ2 vs1 ∧ tt1 σ3 H5 fun b H6 =>
        if b = true then te σ3 H6 fun y H7 => ∃ acc, H7 D = some (.lst acc) ∧ acc.length < sizeLine ∧ Nx1 (upd H7 D (.lst (acc ++ [y]))) else Nx1 H6)
    else Nx H3)
theorem evS_itm {es : Env → Store → O D} {ea : Env → Store → O (List D)} {s : Nat} {ρ : Env} {st : Store} : evS es ea (.itm s) ρ st = (lift (slotD ρ s) st).bind fun x st => (lift (dctD x) st).bind fun kvs st => if kShort kvs then .ok (kvs.map fun kv => .tup [kD kv.1, kv.2]) st else .bad := rfl
theorem evS_else {es : Env → Store → O D} {ea : Env → Store → O (List D)} {k : SK} {ρ : Env} {st : Store} (h : isItm k = false) (h2 : k ≠ .any) : evS es ea k ρ st = (ea ρ st).bind fun xs st => lift (srcD k xs) st := by
  cases k with
  | any => exact absurd rfl h2
  | itm _ => cases h
  | _ => rfl
theorem evS_any {es : Env → Store → O D} {ea : Env → Store → O (List D)} {ρ : Env} {st : Store} : evS es ea .any ρ st = (es ρ st).bind fun x st => lift (itemsD x) st := rfl
theorem bind_bind {α β γ : Type} {o : O α} {f : α → Store → O β} {g : β → Store → O γ} : (o.bind f).bind g = o.bind fun a st => (f a st).bind g := by cases o <;> rfl
theorem den : ∀ e : E, KfE K e → Den K cl C e := by
  intro e
  induction e with
  | var i =>
    intro _
    refine ⟨fun w s P => ?_, (fun h => by cases h), fun _ _ P => P.elim, fun _ _ P => P.elim, fun _ _ P => P.elim, fun _ _ P => P.elim, fun _ _ _ P => P.elim⟩
    obtain ⟨x, hx, P⟩ := P.lift_
    unfold slotD at hx
    split at hx
    · rename_i d hs
      cases hx
      obtain ⟨v, h1, h2⟩ := s.slot i _ hs
      exact ⟨v, h1, P v _ _ _ (.refl _ _ _) w h2⟩
    · cases hx
  | bor i => exact fun _ => ⟨fun _ _ P => P.elim, (fun h => by cases h), fun _ _ P => P.elim, fun _ _ P => P.elim, fun _ _ P => P.elim, fun _ _ P => P.elim, fun _ _ _ P => P.elim⟩
  | cst d =>
    intro _
    refine ⟨fun {W ρ st am Hf H H0 σ Q} w s P => ?_, (fun h => by cases h), fun _ _ P => P.elim, fun _ _ P => P.elim, fun _ _ P => P.elim, fun _ _ P => P.elim, fun _ _ _ P => P.elim⟩
    have P : Post K cl (RV K) (if okC d then O.ok d st else .bad) am Hf H Q _ := P
    split at P
    · rename_i h
      exact P _ _ _ _ (.refl _ _ _) w (okC_rep h)
    · exact P.elim
  | glb x d =>
    intro _
    refine ⟨fun {W ρ st am Hf H H0 σ Q} w s P => ?_, (fun h => by cases h), fun _ _ P => P.elim, fun _ _ P => P.elim, fun _ _ P => P.elim, fun _ _ P => P.elim, fun _ _ _ P => P.elim⟩
    have P : Post K cl (RV K) (if okC d then O.ok d st else .bad) am Hf H Q _ := P
    split at P
    · rename_i h
      exact P _ _ _ _ (.refl _ _ _) w (okC_rep h)
    · exact P.elim
  | nil =>
    intro _
    refine ⟨fun _ _ P => P.elim, (fun h => by cases h), fun w s P => ?_, fun w s P => ?_, fun w s P => ?_, fun _ _ P => P.elim, fun hz w s P => ?_⟩
    · exact P [] _ _ _ (.refl _ _ _) w .nil
    · exact P [] _ _ _ (.refl _ _ _) w .nil
    · exact P [] _ _ _ (.refl _ _ _) w .nil
    · exact P _ _ _ _ (.refl _ _ _) w ⟨rfl, hz⟩
  | cons a b iha ihb =>
    intro hK
    replace iha := iha fun f h => hK f (List.mem_append_left _ h)
    replace ihb := ihb fun f h => hK f (List.mem_append_right _ h)
    refine ⟨fun _ _ P => P.elim, (fun h => by cases h), fun w s P => ?_, fun w s P => ?_, fun _ _ P => P.elim, fun _ _ P => P.elim, fun hz w s P => ?_⟩
    · refine iha.v w s (P.step (.refl _ _ _) fun v x st1 am1 Hf1 H1 f1 _ w1 r1 P1 => ?_)
      refine ihb.vs w1 (s.next f1) (P1.step f1 fun vs xs st2 am2 Hf2 H2 f2 g2 w2 r2 P2 => ?_)
      exact P2 _ _ _ _ f2 w2 (.cons (r1.mono g2.pre g2.hf) r2)
    · refine iha.o w s (P.step (.refl _ _ _) fun v x st1 am1 Hf1 H1 f1 _ w1 r1 P1 => ?_)
      refine ihb.vo w1 (s.next f1) (P1.step f1 fun vs xs st2 am2 Hf2 H2 f2 g2 w2 r2 P2 => ?_)
      exact P2 _ _ _ _ f2 w2 (.cons (r1.next g2) r2)
    · refine iha.v w s (P.step (.refl _ _ _) fun v x st1 am1 Hf1 H1 f1 _ w1 r1 P1 => ?_)
      obtain ⟨z, hz2, P2⟩ := P1.liftB
      unfold addD at hz2
      split at hz2
      · split at hz2
        · rename_i hl
          cases hz2
          refine ⟨_, r1.vStr.1, by rw [tx_app, tx_len, List.length_append, ← line_eq]; exact hl, ?_⟩
          rw [tx_app]
          exact ihb.j (by rw [List.length_append]; exact hl) w1 (s.next f1) (Post.step (f := fun a st => .ok a st) (R2 := RJ) (by cases hh : evj C b _ _ st1 <;> (rw [hh] at P2; exact P2)) f1 fun v d st2 am2 Hf2 H2 f2 g2 w2 r2 P3 => P3 _ _ _ _ f2 w2 r2)
        · cases hz2
      · cases hz2
  | con2 k v r ihk ihv ihr =>
    intro hK
    replace ihk := ihk fun f h => hK f (List.mem_append_left _ h)
    replace ihv := ihv fun f h => hK f (List.mem_append_right _ (List.mem_append_left _ h))
    replace ihr := ihr fun f h => hK f (List.mem_append_right _ (List.mem_append_right _ h))
    refine ⟨fun _ _ P => P.elim, (fun h => by cases h), fun _ _ P => P.elim, fun _ _ P => P.elim, fun w s P => ?_, fun _ _ P => P.elim, fun _ _ _ P => P.elim⟩
    refine ihk.v w s (P.step (.refl _ _ _) fun a x st1 am1 Hf1 H1 f1 _ w1 r1 P1 => ?_)
    refine ihv.v w1 (s.next f1) (P1.step f1 fun b y st2 am2 Hf2 H2 f2 g2 w2 r2 P2 => ?_)
    refine ihr.p w2 ((s.next f1).next g2) (P2.step f2 fun ps xs st3 am3 Hf3 H3 f3 g3 w3 r3 P3 => ?_)
    exact P3 _ _ _ _ f3 w3 (.cons ((r1.mono g2.pre g2.hf).mono g3.pre g3.hf) (r2.mono g3.pre g3.hf) r3)
  | dsp a iha =>
    intro hK
    replace iha := iha hK
    refine ⟨fun {W ρ st am Hf H H0 σ Q} w s P => ?_, (fun h => by cases h), fun _ _ P => P.elim, fun _ _ P => P.elim, fun _ _ P => P.elim, fun _ _ P => P.elim, fun _ _ _ P => P.elim⟩
    show (if isNil a = true then tDNewK else tDisp (tP K (spF K cl C) W a)) σ H Q
    split
    · rename_i ha
      have := isNil_nil ha
      subst this
      intro p np
      have P2 : Post K cl (RV K) (.ok (.dct []) st) am Hf H Q _ := P
      have sm : Same Hf (upd Hf p (.dK [])) := fun b u e => by
        rw [upd_ne (ne_of_none e (w.nof np))]; exact e
      exact P2 _ am _ _ (Fm.new w.sub np) (w.new np) (.dct (.inl upd_same) .nil)
    intro p np
    have fo : Fm am Hf H am Hf (upd H p (.dK [])) := Fm.own np
    refine iha.p (w.own (w.nof np) (w.notin np)) (s.next fo) (P.step fo fun ps xs st1 am1 Hf1 H1 f1 g1 w1 r1 P1 => ?_)
    obtain ⟨z, hz, P2⟩ := P1.lift_
    unfold dspD at hz
    split at hz
    · rename_i hl
      cases hk : keysD xs with
      | none => rw [hk] at hz; cases hz
      | some kvs =>
        rw [hk] at hz
        cases hz
        obtain ⟨vs, e1, e2, e3⟩ := r1.keys hk
        have hp : H1 p = some (.dK []) := g1.keep _ _ upd_same (w.notin np)
        have nf : Hf1 p = none := g1.offF _ _ upd_same (w.nof np)
        have na : p ∉ am1 := fun z => w.notin np (g1.offA _ _ upd_same z)
        refine ⟨hp, vs, e1, by rw [e3]; exact hl, ?_⟩
        have rm : RepK K am1 Hf1 (mergeK [] vs) (mergeD [] kvs) := RepK.merge e2 .nil
        have sm : Same Hf1 (upd Hf1 p (.dK (mergeK [] vs))) := fun b u e => by
          rw [upd_ne (ne_of_none e nf)]; exact e
        exact P2 _ am1 _ _ ((f1.mut np).frz np nf) ((w1.own nf na).frz upd_same nf na) (.dct (.inl upd_same) (rm.mono (.refl _) sm))
    · cases hz
  | bin o a b iha ihb =>
    intro hK
    replace iha := iha fun f h => hK f (List.mem_append_left _ h)
    replace ihb := ihb fun f h => hK f (List.mem_append_right _ h)
    refine ⟨fun w s P => ?_, (fun h => by cases h), fun _ _ P => P.elim, fun _ _ P => P.elim, fun _ _ P => P.elim, fun _ _ P => P.elim, fun _ _ _ P => P.elim⟩
    refine iha.o w s (P.step (.refl _ _ _) fun v x st1 am1 Hf1 H1 f1 _ w1 r1 P1 => ?_)
    refine ihb.o w1 (s.next f1) (P1.step f1 fun u y st2 am2 Hf2 H2 f2 g2 w2 r2 P2 => ?_)
    obtain ⟨z, hz, P3⟩ := P2.lift_
    exact bin_den w2 (r1.next g2) r2 hz (P3.fin f2)
  | neg a iha =>
    intro hK
    replace iha := iha hK
    refine ⟨fun w s P => ?_, (fun h => by cases h), fun _ _ P => P.elim, fun _ _ P => P.elim, fun _ _ P => P.elim, fun _ _ P => P.elim, fun _ _ _ P => P.elim⟩
    refine iha.v w s (P.step (.refl _ _ _) fun v x st1 am1 Hf1 H1 f1 _ w1 r1 P1 => ?_)
    obtain ⟨z, hz, P3⟩ := P1.lift_
    split at hz
    · cases hz
      exact ⟨_, r1.vInt, P3 _ _ _ _ f1 w1 (.int _)⟩
    · cases hz
  | cmp o a b iha ihb =>
    intro hK
    replace iha := iha fun f h => hK f (List.mem_append_left _ h)
    replace ihb := ihb fun f h => hK f (List.mem_append_right _ h)
    refine ⟨fun w s P => ?_, (fun h => by cases h), fun _ _ P => P.elim, fun _ _ P => P.elim, fun _ _ P => P.elim, fun _ _ P => P.elim, fun _ _ _ P => P.elim⟩
    refine iha.o w s (P.step (.refl _ _ _) fun v x st1 am1 Hf1 H1 f1 _ w1 r1 P1 => ?_)
    refine ihb.o w1 (s.next f1) (P1.step f1 fun u y st2 am2 Hf2 H2 f2 g2 w2 r2 P2 => ?_)
    obtain ⟨z, hz, P3⟩ := P2.map_
    exact cmp_den w2 (r1.next g2) r2 hz (P3 _ _ _ _ f2 w2 (.bl _))
  | chn o p a b c iha ihb ihc =>
    intro hK
    replace iha := iha fun f h => hK f (List.mem_append_left _ h)
    replace ihb := ihb fun f h => hK f (List.mem_append_right _ (List.mem_append_left _ h))
    replace ihc := ihc fun f h => hK f (List.mem_append_right _ (List.mem_append_right _ h))
    refine ⟨fun w s P => ?_, (fun h => by cases h), fun _ _ P => P.elim, fun _ _ P => P.elim, fun _ _ P => P.elim, fun _ _ P => P.elim, fun _ _ _ P => P.elim⟩
    refine iha.o w s (P.step (.refl _ _ _) fun v x st1 am1 Hf1 H1 f1 _ w1 r1 P1 => ?_)
    refine ihb.o w1 (s.next f1) (P1.step f1 fun u y st2 am2 Hf2 H2 f2 g2 w2 r2 P2 => ?_)
    obtain ⟨k, hk, P3⟩ := P2.liftB
    refine cmp_den w2 (r1.next g2) r2 hk ⟨k, rfl, ?_⟩
    cases k with
    | true =>
      rw [if_pos rfl] at P3 ⊢
      refine ihc.o w2 ((s.next f1).next g2) (P3.step f2 fun u' z st3 am3 Hf3 H3 f3 g3 w3 r3 P4 => ?_)
      obtain ⟨b, hb, P5⟩ := P4.map_
      exact cmp_den w3 (r2.next g3) r3 hb (P5 _ _ _ _ f3 w3 (.bl _))
    | false =>
      rw [if_neg Bool.false_ne_true] at P3 ⊢
      exact P3 _ _ _ _ f2 w2 (.bl _)
  | tcm o a b iha ihb =>
    intro hK
    replace iha := iha fun f h => hK f (List.mem_append_left _ h)
    replace ihb := ihb fun f h => hK f (List.mem_append_right _ h)
    refine ⟨fun _ _ P => P.elim, (fun h => by cases h), fun _ _ P => P.elim, fun _ _ P => P.elim, fun _ _ P => P.elim, fun w s P => ?_, fun _ _ _ P => P.elim⟩
    refine iha.o w s (P.step (.refl _ _ _) fun v x st1 am1 Hf1 H1 f1 _ w1 r1 P1 => ?_)
    refine ihb.o w1 (s.next f1) (P1.step f1 fun u y st2 am2 Hf2 H2 f2 g2 w2 r2 P2 => ?_)
    obtain ⟨z, hz, P3⟩ := P2.lift_
    exact cmp_den w2 (r1.next g2) r2 hz ⟨_, rfl, P3 _ _ _ _ f2 w2 rfl⟩
  | tch o p a b c iha ihb ihc =>
    intro hK
    replace iha := iha fun f h => hK f (List.mem_append_left _ h)
    replace ihb := ihb fun f h => hK f (List.mem_append_right _ (List.mem_append_left _ h))
    replace ihc := ihc fun f h => hK f (List.mem_append_right _ (List.mem_append_right _ h))
    refine ⟨fun _ _ P => P.elim, (fun h => by cases h), fun _ _ P => P.elim, fun _ _ P => P.elim, fun _ _ P => P.elim, fun w s P => ?_, fun _ _ _ P => P.elim⟩
    refine iha.o w s (P.step (.refl _ _ _) fun v x st1 am1 Hf1 H1 f1 _ w1 r1 P1 => ?_)
    refine ihb.o w1 (s.next f1) (P1.step f1 fun u y st2 am2 Hf2 H2 f2 g2 w2 r2 P2 => ?_)
    obtain ⟨k, hk, P3⟩ := P2.liftB
    refine cmp_den w2 (r1.next g2) r2 hk ⟨k, rfl, ?_⟩
    cases k with
    | true =>
      rw [if_pos rfl] at P3 ⊢
      refine ihc.o w2 ((s.next f1).next g2) (P3.step f2 fun u' z st3 am3 Hf3 H3 f3 g3 w3 r3 P4 => ?_)
      obtain ⟨b, hb, P5⟩ := P4.lift_
      exact cmp_den w3 (r2.next g3) r3 hb ⟨_, rfl, P5 _ _ _ _ f3 w3 rfl⟩
    | false =>
      rw [if_neg Bool.false_ne_true] at P3 ⊢
      exact ⟨_, rfl, P3 _ _ _ _ f2 w2 rfl⟩
  | and a b iha ihb =>
    intro hK
    replace iha := iha fun f h => hK f (List.mem_append_left _ h)
    replace ihb := ihb fun f h => hK f (List.mem_append_right _ h)
    refine ⟨fun w s P => ?_, (fun h => by cases h), fun _ _ P => P.elim, fun _ _ P => P.elim, fun _ _ P => P.elim, fun w s P => ?_, fun _ _ _ P => P.elim⟩
    · refine iha.v w s (P.step (.refl _ _ _) fun v x st1 am1 Hf1 H1 f1 _ w1 r1 P1 => ?_)
      obtain ⟨k, hk, P2⟩ := P1.liftB
      refine ⟨k, tru_den w1 (.inl r1) hk, ?_⟩
      cases k with
      | true =>
        rw [if_pos rfl] at P2 ⊢
        exact ihb.v w1 (s.next f1) (Post.step (f := fun a st => .ok a st) (R2 := RV K) (by cases hh : ev C b _ st1 <;> (rw [hh] at P2; exact P2)) f1 fun v d st2 am2 Hf2 H2 f2 g2 w2 r2 P3 => P3 _ _ _ _ f2 w2 r2)
      | false =>
        rw [if_neg Bool.false_ne_true] at P2 ⊢
        exact P2 _ _ _ _ f1 w1 r1
    · refine iha.t w s (P.step (.refl _ _ _) fun v x st1 am1 Hf1 H1 f1 _ w1 r1 P1 => ?_)
      subst r1
      cases v with
      | true =>
        rw [if_pos rfl] at P1 ⊢
        exact ihb.t w1 (s.next f1) (Post.step (f := fun a st => .ok a st) (R2 := RB) (by cases hh : evT C b _ st1 <;> (rw [hh] at P1; exact P1)) f1 fun v d st2 am2 Hf2 H2 f2 g2 w2 r2 P3 => P3 _ _ _ _ f2 w2 r2)
      | false =>
        rw [if_neg Bool.false_ne_true] at P1 ⊢
        exact P1 _ _ _ _ f1 w1 rfl
  | or a b iha ihb =>
    intro hK
    replace iha := iha fun f h => hK f (List.mem_append_left _ h)
    replace ihb := ihb fun f h => hK f (List.mem_append_right _ h)
    refine ⟨fun w s P => ?_, (fun h => by cases h), fun _ _ P => P.elim, fun _ _ P => P.elim, fun _ _ P => P.elim, fun w s P => ?_, fun _ _ _ P => P.elim⟩
    · refine iha.v w s (P.step (.refl _ _ _) fun v x st1 am1 Hf1 H1 f1 _ w1 r1 P1 => ?_)
      obtain ⟨k, hk, P2⟩ := P1.liftB
      refine ⟨k, tru_den w1 (.inl r1) hk, ?_⟩
      cases k with
      | false =>
        rw [if_neg Bool.false_ne_true] at P2 ⊢
        exact ihb.v w1 (s.next f1) (Post.step (f := fun a st => .ok a st) (R2 := RV K) (by cases hh : ev C b _ st1 <;> (rw [hh] at P2; exact P2)) f1 fun v d st2 am2 Hf2 H2 f2 g2 w2 r2 P3 => P3 _ _ _ _ f2 w2 r2)
      | true =>
        rw [if_pos rfl] at P2 ⊢
        exact P2 _ _ _ _ f1 w1 r1
    · refine iha.t w s (P.step (.refl _ _ _) fun v x st1 am1 Hf1 H1 f1 _ w1 r1 P1 => ?_)
      subst r1
      cases v with
      | false =>
        rw [if_neg Bool.false_ne_true] at P1 ⊢
        exact ihb.t w1 (s.next f1) (Post.step (f := fun a st => .ok a st) (R2 := RB) (by cases hh : evT C b _ st1 <;> (rw [hh] at P1; exact P1)) f1 fun v d st2 am2 Hf2 H2 f2 g2 w2 r2 P3 => P3 _ _ _ _ f2 w2 r2)
      | true =>
        rw [if_pos rfl] at P1 ⊢
        exact P1 _ _ _ _ f1 w1 rfl
  | not a iha =>
    intro hK
    replace iha := iha hK
    refine ⟨fun w s P => ?_, (fun h => by cases h), fun _ _ P => P.elim, fun _ _ P => P.elim, fun _ _ P => P.elim, fun w s P => ?_, fun _ _ _ P => P.elim⟩
    · refine iha.o w s (P.step (.refl _ _ _) fun v x st1 am1 Hf1 H1 f1 _ w1 r1 P1 => ?_)
      obtain ⟨k, hk, P2⟩ := P1.map_
      exact ⟨k, tru_den w1 r1 hk, P2 _ _ _ _ f1 w1 (.bl _)⟩
    · refine iha.t w s (P.step (.refl _ _ _) fun v x st1 am1 Hf1 H1 f1 _ w1 r1 P1 => ?_)
      subst r1
      exact P1 _ _ _ _ f1 w1 rfl
  | tst a iha =>
    intro hK
    replace iha := iha hK
    refine ⟨fun _ _ P => P.elim, (fun h => by cases h), fun _ _ P => P.elim, fun _ _ P => P.elim, fun _ _ P => P.elim, fun w s P => ?_, fun _ _ _ P => P.elim⟩
    refine iha.o w s (P.step (.refl _ _ _) fun v x st1 am1 Hf1 H1 f1 _ w1 r1 P1 => ?_)
    obtain ⟨k, hk, P2⟩ := P1.lift_
    exact ⟨k, tru_den w1 r1 hk, P2 _ _ _ _ f1 w1 rfl⟩
  | ite c a b ihc iha ihb =>
    intro hK
    replace ihc := ihc fun f h => hK f (List.mem_append_left _ h)
    replace iha := iha fun f h => hK f (List.mem_append_right _ (List.mem_append_left _ h))
    replace ihb := ihb fun f h => hK f (List.mem_append_right _ (List.mem_append_right _ h))
    refine ⟨fun w s P => ?_, (fun h => by cases h), fun _ _ P => P.elim, fun _ _ P => P.elim, fun _ _ P => P.elim, fun _ _ P => P.elim, fun _ _ _ P => P.elim⟩
    refine ihc.t w s (P.step (.refl _ _ _) fun v x st1 am1 Hf1 H1 f1 _ w1 r1 P1 => ?_)
    subst r1
    cases v with
    | true =>
      rw [if_pos rfl] at P1 ⊢
      exact iha.v w1 (s.next f1) (Post.step (f := fun a st => .ok a st) (R2 := RV K) (by cases hh : ev C a _ st1 <;> (rw [hh] at P1; exact P1)) f1 fun v d st2 am2 Hf2 H2 f2 g2 w2 r2 P3 => P3 _ _ _ _ f2 w2 r2)
    | false =>
      rw [if_neg Bool.false_ne_true] at P1 ⊢
      exact ihb.v w1 (s.next f1) (Post.step (f := fun a st => .ok a st) (R2 := RV K) (by cases hh : ev C b _ st1 <;> (rw [hh] at P1; exact P1)) f1 fun v d st2 am2 Hf2 H2 f2 g2 w2 r2 P3 => P3 _ _ _ _ f2 w2 r2)
  | tup a iha =>
    intro hK
    replace iha := iha hK
    refine ⟨fun w s P => ?_, (fun h => by cases h), fun _ _ P => P.elim, fun _ _ P => P.elim, fun _ _ P => P.elim, fun _ _ P => P.elim, fun _ _ _ P => P.elim⟩
    refine iha.vs w s (P.step (.refl _ _ _) fun vs xs st1 am1 Hf1 H1 f1 _ w1 r1 P1 => ?_)
    split at P1
    · rename_i hl
      exact ⟨by rw [r1.length, ← line_eq]; exact hl, new_tup w1 r1 hl (P1.fin f1)⟩
    · exact P1.elim
  | lst a iha =>
    intro hK
    replace iha := iha hK
    have hn : ∀ {W : WX} {ρ : Env} {st : Store} {am : List Addr} {Hf H : Hp} {H0 : B0} {σ : St} {Q : VK}, Wf K am st Hf H → Sig K am Hf H H0 σ ρ → PostN K cl (ev C (.lst a) ρ st) am Hf H Q (fun c d H' => W c d σ H') → tE K (spF K cl C) W (.lst a) σ H Q := fun w s P => by
      refine iha.vs w s (P.step (R1 := RVs K) (.refl _ _ _) fun vs xs st1 am1 Hf1 H1 f1 _ w1 r1 P1 => ?_)
      split at P1
      · rename_i hl
        obtain ⟨ds, e, k⟩ := P1
        cases e
        refine ⟨by rw [r1.length, ← line_eq]; exact hl, fun p np => ?_⟩
        have np0 : _ = none := f1.there_none np
        exact k p vs am1 Hf1 _ (f1.mut np0) (w1.own (w1.nof np) (w1.notin np)) np0 upd_same (w1.nof np) (w1.notin np) r1 hl
      · exact P1.elim
    refine ⟨fun w s P => Den.vOfN hn (fun ρ st d st' e => ?_) w s P, fun _ => hn, fun _ _ P => P.elim, fun _ _ P => P.elim, fun _ _ P => P.elim, fun _ _ P => P.elim, fun _ _ _ P => P.elim⟩
    refine bind_lst (fun xs st d st' e => ?_) d st' e
    split at e
    · cases e; exact ⟨_, rfl⟩
    · cases e
  | new a iha =>
    intro hK
    replace iha := iha hK
    refine ⟨fun w s P => ?_, (fun h => by cases h), fun _ _ P => P.elim, fun _ _ P => P.elim, fun _ _ P => P.elim, fun _ _ P => P.elim, fun _ _ _ P => P.elim⟩
    refine iha.vs w s (P.step (.refl _ _ _) fun vs xs st1 am1 Hf1 H1 f1 _ w1 r1 P1 => ?_)
    split at P1
    · rename_i hl
      refine ⟨by rw [r1.length, ← line_eq]; exact hl, fun p np => ?_⟩
      refine P1 _ _ _ _ (f1.trans (Fm.alloc w1 np)) (w1.alloc np r1 hl) (.ref ?_)
      rw [← w1.len, List.getElem?_append_right (Nat.le_refl _), Nat.sub_self]
      rfl
    · exact P1.elim
  | idx a b iha ihb =>
    intro hK
    replace iha := iha fun f h => hK f (List.mem_append_left _ h)
    replace ihb := ihb fun f h => hK f (List.mem_append_right _ h)
    refine ⟨fun w s P => ?_, (fun h => by cases h), fun _ _ P => P.elim, fun _ _ P => P.elim, fun _ _ P => P.elim, fun _ _ P => P.elim, fun _ _ _ P => P.elim⟩
    refine iha.o w s (P.step (.refl _ _ _) fun v x st1 am1 Hf1 H1 f1 _ w1 r1 P1 => ?_)
    refine ihb.v w1 (s.next f1) (P1.step f1 fun u y st2 am2 Hf2 H2 f2 g2 w2 r2 P2 => ?_)
    obtain ⟨z, hz, P3⟩ := P2.lift_
    exact idx_den w2 (r1.next g2) r2 hz (P3.fin f2)
  | slc a lo hi iha ihl ihh =>
    intro hK
    replace iha := iha fun f h => hK f (List.mem_append_left _ h)
    replace ihl := ihl fun f h => hK f (List.mem_append_right _ (List.mem_append_left _ h))
    replace ihh := ihh fun f h => hK f (List.mem_append_right _ (List.mem_append_right _ h))
    refine ⟨fun w s P => ?_, (fun h => by cases h), fun _ _ P => P.elim, fun _ _ P => P.elim, fun _ _ P => P.elim, fun _ _ P => P.elim, fun _ _ _ P => P.elim⟩
    refine iha.o w s (P.step (.refl _ _ _) fun v x st1 am1 Hf1 H1 f1 _ w1 r1 P1 => ?_)
    have part : ∀ {e : E} {W : WX} {ρ : Env} {st1 : Store} {am am1 : List Addr} {Hf H Hf1 H1 : Hp} {H0 : B0} {σ : St} {g : Option Int → Store → O D} {Q : VK} {Q1 : Option Int → Hp → Prop}, Den K cl C e → Fm am Hf H am1 Hf1 H1 → Wf K am1 st1 Hf1 H1 → Sig K am1 Hf1 H1 H0 σ ρ →
        Post K cl (RV K) ((if isNil e then .ok none st1 else (ev C e ρ st1).bind fun l st => lift (partD l) st).bind g) am Hf H Q (fun c d H' => W c d σ H') →
        (∀ l st2 am2 Hf2 H2, Fm am Hf H am2 Hf2 H2 → Fm am1 Hf1 H1 am2 Hf2 H2 → Wf K am2 st2 Hf2 H2 → Post K cl (RV K) (g l st2) am Hf H Q (fun c d H' => W c d σ H') → Q1 l H2) →
        (if isNil e then tNoPart else tPart (tE K (spF K cl C) W e)) σ H1 Q1 := by
      intro e W ρ st1 am am1 Hf H Hf1 H1 H0 σ g Q Q1 de f1 w1 s1 P k
      by_cases hn : isNil e = true
      · rw [if_pos hn] at P ⊢
        exact k none st1 am1 Hf1 H1 f1 (.refl _ _ _) w1 P
      · rw [if_neg hn] at P ⊢
        have P' : Post K cl (RV K) ((ev C e ρ st1).bind fun l st => (lift (partD l) st).bind g) am Hf H Q (fun c d H' => W c d σ H') := by
          cases hh : ev C e ρ st1 <;> (rw [hh] at P; exact P)
        refine de.v w1 s1 (P'.step f1 fun v d st2 am2 Hf2 H2 f2 g2 w2 r2 P2 => ?_)
        obtain ⟨l, hl, P3⟩ := P2.liftB
        unfold partD at hl
        split at hl
        · cases hl
          exact ⟨_, r2.vInt, k _ _ _ _ _ f2 g2 w2 P3⟩
        · cases hl
    refine part ihl f1 w1 (s.next f1) P1 fun l st2 am2 Hf2 H2 f2 g2 w2 P2 => ?_
    refine part ihh f2 w2 ((s.next f1).next g2) P2 fun h st3 am3 Hf3 H3 f3 g3 w3 P3 => ?_
    obtain ⟨z, hz, P4⟩ := P3.lift_
    exact slc_den w3 ((r1.next g2).next g3) hz (P4.fin f3)
  | cb f a iha =>
    intro hK
    replace iha := iha hK
    refine ⟨fun w s P => ?_, (fun h => by cases h), fun _ _ P => P.elim, fun _ _ P => P.elim, fun _ _ P => P.elim, fun _ _ P => P.elim, fun _ _ _ P => P.elim⟩
    refine iha.vo w s (P.step (.refl _ _ _) fun vs xs st1 am1 Hf1 H1 f1 _ w1 r1 P1 => ?_)
    obtain ⟨z, hz, P2⟩ := P1.lift_
    exact bf_den w1 r1 hz (P2.fin f1)
  | bm m o a iho iha =>
    intro hK
    replace iho := iho fun f h => hK f (List.mem_append_left _ h)
    replace iha := iha fun f h => hK f (List.mem_append_right _ h)
    refine ⟨fun {W ρ st am Hf H H0 σ Q} w s P => ?_, (fun h => by cases h), fun _ _ P => P.elim, fun _ _ P => P.elim, fun _ _ P => P.elim, fun _ _ P => P.elim, fun _ _ _ P => P.elim⟩
    show (if isNil a then tBM0 K (bmTy m) (rBM K m) (tE K (spF K cl C) W o) else tBM K (bmTy m) (rBM K m) (tE K (spF K cl C) W o) (tA K (spF K cl C) W a)) σ H Q
    by_cases hn : isNil a = true
    · rw [if_pos hn]
      have e := isNil_nil hn
      subst e
      refine iho.v w s (P.step (.refl _ _ _) fun v x st1 am1 Hf1 H1 f1 _ w1 r1 P1 => ?_)
      split at P1
      · obtain ⟨z, hz, P2⟩ := Post.lift_ (o := bmD st1 m x []) P1
        exact bm_den w1 r1 .nil hz (P2.fin f1)
      · exact P1.elim
    · rw [if_neg hn]
      refine iho.v w s (P.step (.refl _ _ _) fun v x st1 am1 Hf1 H1 f1 _ w1 r1 P1 => ?_)
      split at P1
      · rename_i hk
        refine ⟨bm_ty w1 hk r1, iha.vo w1 (s.next f1) (P1.step f1 fun vs xs st2 am2 Hf2 H2 f2 g2 w2 r2 P2 => ?_)⟩
        obtain ⟨z, hz, P3⟩ := P2.lift_
        exact (bm_den w2 (r1.mono g2.pre g2.hf) r2 hz (P3.fin f2)).2
      · exact P1.elim
  | call f a iha =>
    intro hK
    replace iha := iha hK
    refine ⟨fun w s P => ?_, (fun h => by cases h), fun _ _ P => P.elim, fun _ _ P => P.elim, fun _ _ P => P.elim, fun _ _ P => P.elim, fun _ _ _ P => P.elim⟩
    refine iha.vs w s (P.step (.refl _ _ _) fun vs xs st1 am1 Hf1 H1 f1 _ w1 r1 P1 => ?_)
    rw [List.append_nil]
    refine ⟨am1, st1, Hf1, xs, w1, r1, ?_⟩
    exact Post.step (f := fun a st => .ok a st) (R2 := RV K) (by cases hh : C f xs st1 <;> (rw [hh] at P1; exact P1)) f1 fun v d st2 am2 Hf2 H2 f2 g2 w2 r2 P3 => P3 _ _ _ _ f2 w2 r2
  | callf f a iha =>
    intro hK
    replace iha := iha hK
    have hn : ∀ {W : WX} {ρ : Env} {st : Store} {am : List Addr} {Hf H : Hp} {H0 : B0} {σ : St} {Q : VK}, Wf K am st Hf H → Sig K am Hf H H0 σ ρ → PostN K cl (ev C (.callf f a) ρ st) am Hf H Q (fun c d H' => W c d σ H') → tE K (spF K cl C) W (.callf f a) σ H Q := fun {W ρ st am Hf H H0 σ Q} w s P => by
      refine iha.vs w s (P.step (R1 := RVs K) (.refl _ _ _) fun vs xs st1 am1 Hf1 H1 f1 _ w1 r1 P1 => ?_)
      rw [List.append_nil]
      exact ⟨am1, st1, Hf1, xs, w1, r1, (PostN.call_ P1).from f1 fun p np => f1.there_none np⟩
    refine ⟨fun w s P => Den.vOfN hn (fun ρ st d st' e => ?_) w s P, fun _ => hn, fun _ _ P => P.elim, fun _ _ P => P.elim, fun _ _ P => P.elim, fun _ _ P => P.elim, fun _ _ _ P => P.elim⟩
    refine bind_lst (fun xs st d st' e => bind_lst (fun ys st d st' e => bind_lst (fun zs st d st' e => ?_) d st' e) d st' e) d st' e
    cases e; exact ⟨_, rfl⟩
  | mthf g c m o a iho iha =>
    intro hK
    replace iho := iho fun f h => hK f (List.mem_append_left _ h)
    replace iha := iha fun f h => hK f (List.mem_append_right _ h)
    have hn : ∀ {W : WX} {ρ : Env} {st : Store} {am : List Addr} {Hf H : Hp} {H0 : B0} {σ : St} {Q : VK}, Wf K am st Hf H → Sig K am Hf H H0 σ ρ → PostN K cl (ev C (.mthf g c m o a) ρ st) am Hf H Q (fun c d H' => W c d σ H') → tE K (spF K cl C) W (.mthf g c m o a) σ H Q := fun {W ρ st am Hf H H0 σ Q} w s P => by
      refine iho.v w s (P.step (R1 := RV K) (.refl _ _ _) fun v x st1 am1 Hf1 H1 f1 _ w1 r1 P1 => ?_)
      split at P1
      · rename_i hi
        obtain ⟨p, dx, fs, e1, e2, e3⟩ := ins_den w1 r1 hi
        refine ⟨p, dx, fs, e1, e2, e3, iha.vs w1 (s.next f1) (P1.step (R1 := RVs K) f1 fun vs xs st2 am2 Hf2 H2 f2 g2 w2 r2 P2 => ?_)⟩
        exact ⟨am2, st2, Hf2, x :: xs, w2, .cons (r1.mono g2.pre g2.hf) r2, (PostN.call_ P2).from f2 fun p np => f2.there_none np⟩
      · exact P1.elim
    refine ⟨fun w s P => Den.vOfN hn (fun ρ st d st' e => ?_) w s P, fun _ => hn, fun _ _ P => P.elim, fun _ _ P => P.elim, fun _ _ P => P.elim, fun _ _ P => P.elim, fun _ _ _ P => P.elim⟩
    refine bind_lst (fun xs st d st' e => ?_) d st' e
    split at e
    · refine bind_lst (fun xs st d st' e => bind_lst (fun ys st d st' e => bind_lst (fun zs st d st' e => ?_) d st' e) d st' e) d st' e
      cases e; exact ⟨_, rfl⟩
    · cases e
  | fmt a iha =>
    intro hK
    replace iha := iha hK
    refine ⟨fun w s P => ?_, (fun h => by cases h), fun _ _ P => P.elim, fun _ _ P => P.elim, fun _ _ P => P.elim, fun _ _ P => P.elim, fun _ _ _ P => P.elim⟩
    refine iha.v w s (P.step (.refl _ _ _) fun v x st1 am1 Hf1 H1 f1 _ w1 r1 P1 => ?_)
    obtain ⟨z, hz, P2⟩ := P1.lift_
    exact fmt_den w1 r1 hz (P2.fin f1)
  | fst a iha =>
    intro hK
    replace iha := iha hK
    refine ⟨fun w s P => ?_, (fun h => by cases h), fun _ _ P => P.elim, fun _ _ P => P.elim, fun _ _ P => P.elim, fun _ _ P => P.elim, fun _ _ _ P => P.elim⟩
    refine iha.j (acc := []) (Nat.zero_le _) w s (P.step (.refl _ _ _) fun v x st1 am1 Hf1 H1 f1 _ w1 r1 P1 => ?_)
    obtain ⟨rfl, hl⟩ := r1
    exact P1 _ _ _ _ f1 w1 (.str _ hl)
  | exf c f i => exact fun _ => ⟨fun _ _ P => P.elim, (fun h => by cases h), fun _ _ P => P.elim, fun _ _ P => P.elim, fun _ _ P => P.elim, fun _ _ P => P.elim, fun _ _ _ P => P.elim⟩
  | lc j src c e ihs ihc ihe =>
    intro hK
    replace ihs := ihs fun f h => hK f (List.mem_append_left _ h)
    replace ihc := ihc fun f h => hK f (List.mem_append_right _ (List.mem_append_left _ h))
    replace ihe := ihe fun f h => hK f (List.mem_append_right _ (List.mem_append_right _ h))
    have hn : ∀ {W : WX} {ρ : Env} {st : Store} {am : List Addr} {Hf H : Hp} {H0 : B0} {σ : St} {Q : VK}, Wf K am st Hf H → Sig K am Hf H H0 σ ρ → PostN K cl (ev C (.lc j src c e) ρ st) am Hf H Q (fun c d H' => W c d σ H') → tE K (spF K cl C) W (.lc j src c e) σ H Q := fun {W ρ st am Hf H H0 σ Q} w s P => by
      show tE K (spF K cl C) W src σ H _
      refine ihs.o w s (P.step (R1 := RO K) (.refl _ _ _) fun v x st1 am1 Hf1 H1 f1 _ w1 r1 P1 => ?_)
      obtain ⟨ds, hd, P2⟩ := P1.liftB
      refine items_den (R := LcR (gName j) (if isNil c then tYes else tT K (spF K cl C) W0 c) (tE K (spF K cl C) W0 e) [j] σ Q) w1 r1 hd fun J G Y wk hz hY hG Dl nD => ?_
      refine lc_gen (cl := cl) (ft := fun x st => if isNil c then .ok true st else evT C c (ρ.set j (.im x)) st) (fe := fun x st => ev C e (ρ.set j (.im x)) st) wk rfl hz f1 w1 (s.next f1) hY hG (fun x st => ?_) (fun {x st am Hf H σ Q} w s P => ?_) (fun {x st am Hf H σ Q} w s P => ?_) nD (f1.there_none nD) P2
      · by_cases hc : isNil c = true
        · simp only [hc]; rfl
        · simp only [hc]; rfl
      · by_cases hc : isNil c = true
        · rw [if_pos hc] at P ⊢
          exact P true _ _ _ (.refl _ _ _) w rfl
        · rw [if_neg hc] at P ⊢
          exact ihc.t w s P
      · exact ihe.v w s P
    refine ⟨fun w s P => Den.vOfN hn (fun ρ st d st' e => ?_) w s P, fun _ => hn, fun _ _ P => P.elim, fun _ _ P => P.elim, fun _ _ P => P.elim, fun _ _ P => P.elim, fun _ _ _ P => P.elim⟩
    refine bind_lst (fun xs st d st' e => bind_lst (fun ys st d st' e => bind_lst (fun zs st d st' e => ?_) d st' e) d st' e) d st' e
    cases e; exact ⟨_, rfl⟩
  | lcr j a c e iha ihc ihe =>
    intro hK
    replace iha := iha fun f h => hK f (List.mem_append_left _ h)
    replace ihc := ihc fun f h => hK f (List.mem_append_right _ (List.mem_append_left _ h))
    replace ihe := ihe fun f h => hK f (List.mem_append_right _ (List.mem_append_right _ h))
    have hn : ∀ {W : WX} {ρ : Env} {st : Store} {am : List Addr} {Hf H : Hp} {H0 : B0} {σ : St} {Q : VK}, Wf K am st Hf H → Sig K am Hf H H0 σ ρ → PostN K cl (ev C (.lcr j a c e) ρ st) am Hf H Q (fun c d H' => W c d σ H') → tE K (spF K cl C) W (.lcr j a c e) σ H Q := fun {W ρ st am Hf H H0 σ Q} w s P => by
      show tA K (spF K cl C) W a σ H _
      refine iha.vs w s (P.step (R1 := RVs K) (.refl _ _ _) fun v x st1 am1 Hf1 H1 f1 _ w1 r1 P1 => ?_)
      obtain ⟨ds, hd, P2⟩ := P1.liftB
      split at P2
      · exact P2.elim
      · rename_i hz
        refine range_den (R := LcR (gName j) (if isNil c then tYes else tT K (spF K cl C) W0 c) (tE K (spF K cl C) W0 e) [j] σ Q) (st := st1) r1 hd fun J G Y wk hY hG Dl nD => ?_
        refine lc_gen (cl := cl) (ft := fun x st => if isNil c then .ok true st else evT C c (ρ.set j (.im x)) st) (fe := fun x st => ev C e (ρ.set j (.im x)) st) wk rfl (Nat.le_of_not_lt hz) f1 w1 (s.next f1) hY (fun _ _ H' _ => hG H') (fun x st => ?_) (fun {x st am Hf H σ Q} w s P => ?_) (fun {x st am Hf H σ Q} w s P => ?_) nD (f1.there_none nD) P2
        · by_cases hc : isNil c = true
          · simp only [hc]; rfl
          · simp only [hc]; rfl
        · by_cases hc : isNil c = true
          · rw [if_pos hc] at P ⊢
            exact P true _ _ _ (.refl _ _ _) w rfl
          · rw [if_neg hc] at P ⊢
            exact ihc.t w s P
        · exact ihe.v w s P
    refine ⟨fun w s P => Den.vOfN hn (fun ρ st d st' e => ?_) w s P, fun _ => hn, fun _ _ P => P.elim, fun _ _ P => P.elim, fun _ _ P => P.elim, fun _ _ P => P.elim, fun _ _ _ P => P.elim⟩
    refine bind_lst (fun xs st d st' e => bind_lst (fun ys st d st' e => ?_) d st' e) d st' e
    split at e
    · cases e
    · refine bind_lst (fun zs st d st' e => ?_) d st' e
      cases e; exact ⟨_, rfl⟩
  | lct is k sr a c e ihs iha ihc ihe =>
    intro hK
    replace ihs := ihs fun f h => hK f (List.mem_append_left _ h)
    replace iha := iha fun f h => hK f (List.mem_append_right _ (List.mem_append_left _ h))
    replace ihc := ihc fun f h => hK f (List.mem_append_right _ (List.mem_append_right _ (List.mem_append_left _ h)))
    replace ihe := ihe fun f h => hK f (List.mem_append_right _ (List.mem_append_right _ (List.mem_append_right _ h)))
    -- the loop
    have loop : ∀ {W : XK} {ρ : Env} {st1 : Store} {am am1 : List Addr} {Hf H Hf1 H1 : Hp} {H0 : B0} {σ : St} {Q : VK} {J : It} {G : Hp → Prop} {Y : Nat → Hp → V → Hp → Prop} {ds : List D}, Src K am1 Hf1 ds J G Y → Fm am Hf H am1 Hf1 H1 → Wf K am1 st1 Hf1 H1 → Sig K am1 Hf1 H1 H0 σ ρ →
        PostN K cl ((mapO (fun x st => (lift (setT (wipE ρ is) is x) st).bind fun ρ st => (if isNil c then .ok true st else (evT C c ρ st).nox).bind fun k st => if k then (ev C e ρ st).nox.bind fun y st => .ok (some y) st else .ok none st) ds st1).bind fun ys st => .ok (.lst ys) st) am Hf H Q W →
        LcR (gTgt K is) (if isNil c then tYes else tT K (spF K cl C) W0 c) (tE K (spF K cl C) W0 e) is σ Q J H1 := fun src f1 w1 s1 P Dl nD => by
      refine lc_genT (cl := cl) (ft := fun ρ st => if isNil c then .ok true st else evT C c ρ st) (fe := fun ρ st => ev C e ρ st) src f1 w1 s1 (fun x st => ?_) (fun {ρ' st am Hf H σ Q} w s P => ?_) (fun {ρ' st am Hf H σ Q} w s P => ?_) nD (f1.there_none nD) P
      · by_cases hc : isNil c = true
        · simp only [hc]; rfl
        · simp only [hc]; rfl
      · by_cases hc : isNil c = true
        · rw [if_pos hc] at P ⊢
          exact P true _ _ _ (.refl _ _ _) w rfl
        · rw [if_neg hc] at P ⊢
          exact ihc.t w s P
      · exact ihe.v w s P
    have hn : ∀ {W : WX} {ρ : Env} {st : Store} {am : List Addr} {Hf H : Hp} {H0 : B0} {σ : St} {Q : VK}, Wf K am st Hf H → Sig K am Hf H H0 σ ρ → PostN K cl (ev C (.lct is k sr a c e) ρ st) am Hf H Q (fun c d H' => W c d σ H') → tE K (spF K cl C) W (.lct is k sr a c e) σ H Q := fun {W ρ st am Hf H H0 σ Q} w s P => by
      by_cases hk : isItm k = true
      · cases k with
        | itm sl =>
          show (_ ∨ tLockE _ σ H Q)
          have P : PostN K cl ((evS (ev C sr) (evs C a) (.itm sl) ρ st).bind fun xs st => (noxI (.itm sl) (mapO (fun x st => (lift (setT (wipE ρ is) is x) st).bind fun ρ st => (if isNil c then .ok true st else (evT C c ρ st).nox).bind fun k st => if k then (ev C e ρ st).nox.bind fun y st => .ok (some y) st else .ok none st) xs st)).bind fun ys st => .ok (.lst ys) st) am Hf H Q _ := P
          rw [evS_itm, bind_bind] at P
          obtain ⟨x, hx, P⟩ := P.liftB
          rw [bind_bind] at P
          have hs : ρ[sl]? = some (.im x) := by
            unfold slotD at hx
            split at hx
            · rename_i d hd; cases hx; exact hd
            · cases hx
          cases x with
          | dct kvs =>
            have P : PostN K cl ((if kShort kvs then O.ok (kvs.map fun kv => D.tup [kD kv.1, kv.2]) st else .bad).bind fun xs st => (noxI (.itm sl) (mapO (fun x st => (lift (setT (wipE ρ is) is x) st).bind fun ρ st => (if isNil c then .ok true st else (evT C c ρ st).nox).bind fun k st => if k then (ev C e ρ st).nox.bind fun y st => .ok (some y) st else .ok none st) xs st)).bind fun ys st => .ok (.lst ys) st) am Hf H Q _ := P
            by_cases hz : kShort kvs = true
            · rw [if_pos hz] at P
              obtain ⟨p, vs, h1, h2, h3⟩ := dct_at s hs
              have P : PostN K cl ((mapO (fun x st => (lift (setT (wipE ρ is) is x) st).bind fun ρ st => (if isNil c then .ok true st else (evT C c ρ st).nox).bind fun k st => if k then (ev C e ρ st).nox.bind fun y st => .ok (some y) st else .ok none st) (kvs.map fun kv => D.tup [kD kv.1, kv.2]) st).nox.bind fun ys st => O.ok (D.lst ys) st) am Hf H Q (fun c d H' => W c d σ H') := P
              generalize hr : mapO (fun x st => (lift (setT (wipE ρ is) is x) st).bind fun ρ st => (if isNil c then .ok true st else (evT C c ρ st).nox).bind fun k st => if k then (ev C e ρ st).nox.bind fun y st => .ok (some y) st else .ok none st) (kvs.map fun kv => D.tup [kD kv.1, kv.2]) st = r at P
              rcases h2 with h2 | ⟨o, h2⟩
              · refine .inr ⟨p, .dK vs, w.sub _ _ h2, trivial, fun od => ?_⟩
                have PL := PostN.lock (od := od) h2 w.sub (fun x st z => by cases r <;> cases z) P
                have PL : PostN K cl (r.bind fun ys st => O.ok (D.lst ys) st) am (sw p (.frz od (.dK vs)) Hf) (sw p (.frz od (.dK vs)) H) (fun v H' => H' p = some (.frz od (.dK vs)) ∧ Q v (upd H' p (.dK vs))) (fun _ _ _ => False) := by
                  cases r with
                  | ok _ _ => exact PL
                  | exc _ _ => exact PL.elim
                  | bad => exact PL.elim
                have un : ∀ x, Hf p = some x → IsK vs x := fun x e => by rw [h2] at e; cases e; exact .inl rfl
                rw [← hr] at PL
                rw [← sw_upd (w.sub _ _ h2)]
                obtain ⟨G, Y, src⟩ := items_src (sw_at (o := .frz od (.dK vs)) h2) (h3.sw (.inr ⟨od, rfl⟩) un) hz
                exact ⟨_, h1, p, od, vs, rfl, sw_at (w.sub _ _ h2), loop src (.refl _ _ _) (w.sw (.inr ⟨od, rfl⟩) un h2) (s.lk (st := st) (.inr ⟨od, rfl⟩) un h2) PL⟩
              · refine .inl ?_
                have P : PostN K cl (r.bind fun ys st => O.ok (D.lst ys) st) am Hf H Q (fun c d H' => W c d σ H') := by
                  cases r with
                  | ok _ _ => exact P
                  | exc _ _ => exact P.elim
                  | bad => exact P.elim
                rw [← hr] at P
                obtain ⟨G, Y, src⟩ := items_src h2 h3 hz
                exact ⟨_, h1, p, o, vs, rfl, w.sub _ _ h2, loop src (.refl _ _ _) w s P⟩
            · rw [if_neg hz] at P
              exact P.elim
          | _ => exact P.elim
        | _ => cases hk
      · have hk : isItm k = false := by simpa using hk
        have e1 : tE K (spF K cl C) W (.lct is k sr a c e) σ H Q = iSrc K k (tE K (spF K cl C) W sr) (tA K (spF K cl C) W a) σ H (LcR (gTgt K is) (if isNil c then tYes else tT K (spF K cl C) W0 c) (tE K (spF K cl C) W0 e) is σ Q) := by
          cases k <;> first | rfl | cases hk
        rw [e1]
        by_cases ha : k = .any
        · subst ha
          have P : PostN K cl ((ev C sr ρ st).bind fun x st => (lift (itemsD x) st).bind fun ds st => (mapO (fun x st => (lift (setT (wipE ρ is) is x) st).bind fun ρ st => (if isNil c then .ok true st else (evT C c ρ st).nox).bind fun k st => if k then (ev C e ρ st).nox.bind fun y st => .ok (some y) st else .ok none st) ds st).bind fun ys st => O.ok (D.lst ys) st) am Hf H Q (fun c d H' => W c d σ H') := by
            have P2 : PostN K cl ((evS (ev C sr) (evs C a) .any ρ st).bind fun xs st => (mapO (fun x st => (lift (setT (wipE ρ is) is x) st).bind fun ρ st => (if isNil c then .ok true st else (evT C c ρ st).nox).bind fun k st => if k then (ev C e ρ st).nox.bind fun y st => .ok (some y) st else .ok none st) xs st).bind fun ys st => .ok (.lst ys) st) am Hf H Q (fun c d H' => W c d σ H') := P
            rw [evS_any, bind_bind] at P2
            exact P2
          show tE K (spF K cl C) W sr σ H _
          refine ihs.v w s (PostN.step (R1 := RV K) P (.refl _ _ _) fun v x st1 am1 Hf1 H1 f1 _ w1 r1 P1 => ?_)
          obtain ⟨ds, hd, P2⟩ := P1.liftB
          exact any_den (R := LcR (gTgt K is) (if isNil c then tYes else tT K (spF K cl C) W0 c) (tE K (spF K cl C) W0 e) is σ Q) w1 r1 hd fun J G Y src => loop src f1 w1 (s.next f1) P2
        rw [iSrc_eq hk ha]
        generalize hm : (fun x st => (lift (setT (wipE ρ is) is x) st).bind fun ρ st => (if isNil c then O.ok true st else (evT C c ρ st).nox).bind fun k st => if k then (ev C e ρ st).nox.bind fun y st => O.ok (some y) st else .ok none st) = fm
        have P : PostN K cl ((evs C a ρ st).bind fun xs st => (lift (srcD k xs) st).bind fun ds st => (mapO fm ds st).bind fun ys st => O.ok (D.lst ys) st) am Hf H Q (fun c d H' => W c d σ H') := by
          have P2 : PostN K cl ((evS (ev C sr) (evs C a) k ρ st).bind fun xs st => (noxI k (mapO fm xs st)).bind fun ys st => .ok (.lst ys) st) am Hf H Q (fun c d H' => W c d σ H') := by subst hm; exact P
          rw [evS_else hk ha, bind_bind] at P2
          have en : ∀ xs st, noxI k (mapO fm xs st) = mapO fm xs st := fun xs st => by cases k <;> first | rfl | cases hk
          simp only [en] at P2
          exact P2
        refine iha.vs w s (PostN.step (R1 := RVs K) P (.refl _ _ _) fun v x st1 am1 Hf1 H1 f1 _ w1 r1 P1 => ?_)
        obtain ⟨ds, hd, P2⟩ := P1.liftB
        subst hm
        exact src_den w1 r1 hd fun J G Y src => loop src f1 w1 (s.next f1) P2
    refine ⟨fun w s P => Den.vOfN hn (fun ρ st d st' e => ?_) w s P, fun _ => hn, fun _ _ P => P.elim, fun _ _ P => P.elim, fun _ _ P => P.elim, fun _ _ P => P.elim, fun _ _ _ P => P.elim⟩
    refine bind_lst (fun xs st d st' e => bind_lst (fun ys st d st' e => ?_) d st' e) d st' e
    cases e; exact ⟨_, rfl⟩
  | lc2 j src j1 src1 c e ihs ihs1 ihc ihe =>
    intro hK
    replace ihs := ihs fun f h => hK f (List.mem_append_left _ h)
    replace ihs1 := ihs1 fun f h => hK f (List.mem_append_right _ (List.mem_append_left _ h))
    replace ihc := ihc fun f h => hK f (List.mem_append_right _ (List.mem_append_right _ (List.mem_append_left _ h)))
    replace ihe := ihe fun f h => hK f (List.mem_append_right _ (List.mem_append_right _ (List.mem_append_right _ h)))
    have hn : ∀ {W : WX} {ρ : Env} {st : Store} {am : List Addr} {Hf H : Hp} {H0 : B0} {σ : St} {Q : VK}, Wf K am st Hf H → Sig K am Hf H H0 σ ρ → PostN K cl (ev C (.lc2 j src j1 src1 c e) ρ st) am Hf H Q (fun c d H' => W c d σ H') → tE K (spF K cl C) W (.lc2 j src j1 src1 c e) σ H Q := fun {W ρ st am Hf H H0 σ Q} w s P => by
      show tE K (spF K cl C) W src σ H _
      refine ihs.o w s (P.step (R1 := RO K) (.refl _ _ _) fun v x st1 am1 Hf1 H1 f1 _ w1 r1 P1 => ?_)
      obtain ⟨ds, hd, P2⟩ := P1.liftB
      refine items_den (R := LcR2 K (gName j) (tE K (spF K cl C) W0 src1) (gName j1) (if isNil c then tYes else tT K (spF K cl C) W0 c) (tE K (spF K cl C) W0 e) [j, j1] [j1] σ Q) w1 r1 hd fun J G Y wk hz hY hG Dl nD => ?_
      refine lc2_gen (cl := cl) (fs := fun x st => ev C src1 ((ρ.set j1 .un).set j (.im x)) st) (ft := fun x y st => if isNil c then .ok true st else evT C c (((ρ.set j1 .un).set j (.im x)).set j1 (.im y)) st) (fe := fun x y st => ev C e (((ρ.set j1 .un).set j (.im x)).set j1 (.im y)) st) wk rfl f1 w1 (s.next f1) hY hG (fun x st => ?_) (fun {x st am Hf H σ Q} w s P => ihs1.v w s P) (fun {x y st am Hf H σ Q} w s P => ?_) (fun {x y st am Hf H σ Q} w s P => ?_) nD (f1.there_none nD) P2
      · by_cases hc : isNil c = true
        · simp only [hc]; rfl
        · simp only [hc]; rfl
      · by_cases hc : isNil c = true
        · rw [if_pos hc] at P ⊢
          exact P true _ _ _ (.refl _ _ _) w rfl
        · rw [if_neg hc] at P ⊢
          exact ihc.t w s P
      · exact ihe.v w s P
    refine ⟨fun w s P => Den.vOfN hn (fun ρ st d st' e => ?_) w s P, fun _ => hn, fun _ _ P => P.elim, fun _ _ P => P.elim, fun _ _ P => P.elim, fun _ _ P => P.elim, fun _ _ _ P => P.elim⟩
    refine bind_lst (fun xs st d st' e => bind_lst (fun ys st d st' e => bind_lst (fun zs st d st' e => ?_) d st' e) d st' e) d st' e
    split at e
    · cases e; exact ⟨_, rfl⟩
    · cases e
  | fld a f iha =>
    intro hK
    replace iha := iha hK
    refine ⟨fun w s P => ?_, (fun h => by cases h), fun _ _ P => P.elim, fun _ _ P => P.elim, fun _ _ P => P.elim, fun _ _ P => P.elim, fun _ _ _ P => P.elim⟩
    refine iha.v w s (P.step (.refl _ _ _) fun v x st1 am1 Hf1 H1 f1 _ w1 r1 P1 => ?_)
    obtain ⟨z, hz, P2⟩ := P1.lift_
    obtain ⟨p, C0, dx, fs, u, e1, e2, e3, e4, e5, r2⟩ := fld_den w1 r1 hz
    exact ⟨p, C0, dx, fs, u, e1, e2, e3, e4, e5, P2 _ _ _ _ f1 w1 r2⟩
  | ofl i f =>
    intro _
    refine ⟨fun w s P => ?_, (fun h => by cases h), fun _ _ P => P.elim, fun _ _ P => P.elim, fun _ _ P => P.elim, fun _ _ P => P.elim, fun _ _ _ P => P.elim⟩
    obtain ⟨x, hx, P⟩ := P.lift_
    unfold oflD at hx
    split at hx
    · rename_i c ds hs
      obtain ⟨p, dx, vs, h1, h2, h3, h4, h5, h6, h7, h8, h9⟩ := s.slot i _ hs
      obtain ⟨u, q1, q2⟩ := look_rep h7 h3 hx
      exact ⟨_, h1, p, _, dx, vs, u, rfl, h2, h8.cl, h9 _ (look_mem hx), q1, P u _ _ _ (.refl _ _ _) w q2⟩
    · cases hx
  | prp g c f a iha =>
    intro hK
    replace iha := iha hK
    refine ⟨fun w s P => ?_, (fun h => by cases h), fun _ _ P => P.elim, fun _ _ P => P.elim, fun _ _ P => P.elim, fun _ _ P => P.elim, fun _ _ _ P => P.elim⟩
    refine iha.v w s (P.step (.refl _ _ _) fun v x st1 am1 Hf1 H1 f1 _ w1 r1 P1 => ?_)
    split at P1
    · rename_i hi
      obtain ⟨p, dx, fs, e1, e2, e3⟩ := ins_den w1 r1 hi
      refine ⟨p, dx, fs, e1, e2, am1, st1, Hf1, [x], w1, by rw [← e1]; exact .cons r1 .nil, ?_⟩
      have P2 := Post.nox_ P1
      cases hh : C g [x] st1 with
      | ok d st2 =>
        rw [hh] at P2
        exact fun v am2 Hf2 H2 f2 w2 r2 => P2 v am2 Hf2 H2 (f1.trans f2) w2 r2
      | exc _ _ =>
        rw [hh] at P1
        exact P1.elim
      | bad => rw [hh] at P2; exact P2
    · exact P1.elim
  | mth g c m o a iho iha =>
    intro hK
    replace iho := iho fun f h => hK f (List.mem_append_left _ h)
    replace iha := iha fun f h => hK f (List.mem_append_right _ h)
    refine ⟨fun w s P => ?_, (fun h => by cases h), fun _ _ P => P.elim, fun _ _ P => P.elim, fun _ _ P => P.elim, fun _ _ P => P.elim, fun _ _ _ P => P.elim⟩
    refine iho.v w s (P.step (.refl _ _ _) fun v x st1 am1 Hf1 H1 f1 _ w1 r1 P1 => ?_)
    split at P1
    · rename_i hi
      obtain ⟨p, dx, fs, e1, e2, e3⟩ := ins_den w1 r1 hi
      refine ⟨p, dx, fs, e1, e2, e3, iha.vs w1 (s.next f1) (P1.step f1 fun vs xs st2 am2 Hf2 H2 f2 g2 w2 r2 P2 => ?_)⟩
      refine ⟨am2, st2, Hf2, x :: xs, w2, .cons (r1.mono g2.pre g2.hf) r2, ?_⟩
      exact Post.step (f := fun a st => .ok a st) (R2 := RV K) (by cases hh : C g (x :: xs) st2 <;> (rw [hh] at P2; exact P2)) f2 fun v d st3 am3 Hf3 H3 f3 g3 w3 r3 P3 => P3 _ _ _ _ f3 w3 r3
    · exact P1.elim
  | mk g c n ks a k iha ihk =>
    intro hK
    have ci : ClsI K c := clsI_ok (hK _ List.mem_cons_self)
    replace iha := iha fun f h => hK f (List.mem_cons_of_mem _ (List.mem_append_left _ h))
    replace ihk := ihk fun f h => hK f (List.mem_cons_of_mem _ (List.mem_append_right _ h))
    refine ⟨fun w s P => ?_, (fun h => by cases h), fun _ _ P => P.elim, fun _ _ P => P.elim, fun _ _ P => P.elim, fun _ _ P => P.elim, fun _ _ _ P => P.elim⟩
    refine iha.vs w s (P.step (.refl _ _ _) fun vs xs st1 am1 Hf1 H1 f1 _ w1 r1 P1 => ?_)
    refine ihk.vs w1 (s.next f1) (P1.step f1 fun us zs st2 am2 Hf2 H2 f2 g2 w2 r2 P2 => ?_)
    split at P2
    · rename_i hz
      refine ⟨by rw [r1.length]; exact hz.1, by rw [r2.length]; exact hz.2, fun x dx nx ndx ne => ⟨x, dx, vs ++ us, H2, am2, st2, Hf2, xs ++ zs, rfl, rfl, nx, ndx, ne, ci, w2, (r1.mono g2.pre g2.hf).append r2, ?_⟩⟩
      cases hh : C g (xs ++ zs) st2 with
      | ok d st3 =>
        rw [hh] at P2
        obtain ⟨d', hd, P3⟩ := P2.lift_
        obtain ⟨rfl, fs, rfl⟩ := insOf_eq hd
        refine ⟨rfl, fun dx' vs' am' Hf' H' fm wf hx nf na hn hno r => ⟨rfl, ?_⟩⟩
        have sm : Same Hf' (upd Hf' x (.ins (He.ga K c) dx' vs')) := fun b u e => by
          rw [upd_ne (ne_of_none e nf)]; exact e
        exact P3 _ am' _ H' ((f2.trans fm).frz (f2.there_none nx) nf) (wf.frz hx nf na) (.ins ci hno upd_same hn (r.mono (.refl _) sm))
      | exc e st3 =>
        rw [hh] at P2
        exact fun c dd am' Hf' H' fm wf xo => P2 c dd am' Hf' H' (f2.trans fm) wf xo
      | bad => rw [hh] at P2; exact P2.elim
    · exact P2.elim
  | iso c tb a iha =>
    intro hK
    replace iha := iha fun f h => hK f (List.mem_append_left _ h)
    refine ⟨fun w s P => ?_, (fun h => by cases h), fun _ _ P => P.elim, fun _ _ P => P.elim, fun _ _ P => P.elim, fun _ _ P => P.elim, fun _ _ _ P => P.elim⟩
    refine iha.o w s (P.step (.refl _ _ _) fun v x st1 am1 Hf1 H1 f1 _ w1 r1 P1 => ?_)
    obtain ⟨z, hz, P2⟩ := P1.map_
    cases ht : tyN st1 x with
    | none => rw [ht] at hz; cases hz
    | some t =>
      rw [ht] at hz
      have hk : (Kf.kit t c z).ok K = true := hK _ (List.mem_append_right _ (List.mem_map.mpr ⟨(t, z), lk_mem hz, rfl⟩))
      exact ⟨v, .ref (He.ga K c), t.v K, .ref (He.ga K c), z, rfl, .own _, r1.tyN w1 ht, of_decide_eq_true hk, P2 _ _ _ _ f1 w1 (.bl _)⟩
  | ceq o g c tb a b iha ihb =>
    intro hK
    replace iha := iha fun f h => hK f (List.mem_append_left _ h)
    have hT : ∀ t ∈ tb, PySem.W.notFirst K (He.ga K c) (t.v K) = true := fun t ht => hK (.nfi t c) (List.mem_append_right _ (List.mem_append_right _ (.tail _ (List.mem_map.mpr ⟨t, ht, rfl⟩))))
    have hN : NeK K c := by
      obtain ⟨n1, n2⟩ := He.ba (hK (.nek c) (List.mem_append_right _ (List.mem_append_right _ (.head _))))
      exact ⟨of_decide_eq_true n1, of_decide_eq_true n2⟩
    replace ihb := ihb fun f h => hK f (List.mem_append_right _ (List.mem_append_left _ h))
    refine ⟨fun w s P => ?_, (fun h => by cases h), fun _ _ P => P.elim, fun _ _ P => P.elim, fun _ _ P => P.elim, fun _ _ P => P.elim, fun _ _ _ P => P.elim⟩
    refine iha.v w s (P.step (.refl _ _ _) fun v x st1 am1 Hf1 H1 f1 _ w1 r1 P1 => ?_)
    refine ihb.v w1 (s.next f1) (P1.step f1 fun u y st2 am2 Hf2 H2 f2 g2 w2 r2 P2 => ?_)
    split at P2
    · rename_i hi
      rw [Bool.and_eq_true] at hi
      obtain ⟨hi, ht⟩ := hi
      have r1' := r1.mono g2.pre g2.hf
      obtain ⟨p, dx, fs, e1, e2, e3⟩ := ins_den w2 r1' hi
      cases hty : tyN st2 y with
      | none => rw [hty] at ht; cases ht
      | some t =>
        rw [hty] at ht
        have hm : t ∈ tb := List.contains_iff_mem.mp ht
        have key : ∀ n, eqOp o = some n → rCeq K o c (spF K cl C |>.pl g) v u H2 _ := fun n hn' => by
          refine ⟨p, dx, fs, t.v K, n, e1, e2, Opd.tyN w2 (.inl r2) hty, hn', hT t hm, fun _ => hN, am2, st2, Hf2, [x, y], w2, .cons r1' (.cons r2 .nil), ?_⟩
          · cases hh : C g [x, y] st2 with
            | ok d st3 =>
              rw [hh] at P2
              have P2 : Post K cl (RV K) (lift ((boolD d).bind fun k => (eqOp o).map fun n => .bl (n != k)) st3) _ _ _ _ _ := P2
              obtain ⟨z, hz, P3⟩ := P2.lift_
              cases d with
              | bl k =>
                have hz : (eqOp o).map (fun n => D.bl (n != k)) = some z := hz
                rw [hn'] at hz
                cases hz
                exact fun v' am3 Hf3 H3 f3 w3 r3 => ⟨k, r3.vBl, P3 _ am3 Hf3 H3 (f2.trans f3) w3 (.bl _)⟩
              | _ => cases hz
            | exc _ _ => rw [hh] at P2; exact P2.elim
            | bad => rw [hh] at P2; exact P2.elim
        cases ho : eqOp o with
        | some n => exact key n ho
        | none =>
          exfalso
          cases hh : C g [x, y] st2 with
          | ok d st3 =>
            rw [hh] at P2
            have P2 : Post K cl (RV K) (lift ((boolD d).bind fun k => (eqOp o).map fun n => .bl (n != k)) st3) _ _ _ _ _ := P2
            obtain ⟨z, hz, P3⟩ := P2.lift_
            rw [ho] at hz
            cases hb : boolD d with
            | none => rw [hb] at hz; cases hz
            | some k => rw [hb] at hz; cases hz
          | exc _ _ => rw [hh] at P2; exact P2.elim
          | bad => rw [hh] at P2; exact P2.elim
    · exact P2.elim
  | tceq o g c tb a b iha ihb =>
    intro hK
    replace iha := iha fun f h => hK f (List.mem_append_left _ h)
    have hT : ∀ t ∈ tb, PySem.W.notFirst K (He.ga K c) (t.v K) = true := fun t ht => hK (.nfi t c) (List.mem_append_right _ (List.mem_append_right _ (.tail _ (List.mem_map.mpr ⟨t, ht, rfl⟩))))
    have hN : NeK K c := by
      obtain ⟨n1, n2⟩ := He.ba (hK (.nek c) (List.mem_append_right _ (List.mem_append_right _ (.head _))))
      exact ⟨of_decide_eq_true n1, of_decide_eq_true n2⟩
    replace ihb := ihb fun f h => hK f (List.mem_append_right _ (List.mem_append_left _ h))
    refine ⟨fun _ _ P => P.elim, (fun h => by cases h), fun _ _ P => P.elim, fun _ _ P => P.elim, fun _ _ P => P.elim, fun {W ρ st am Hf H H0 σ Q} w s P => ?_, fun _ _ _ P => P.elim⟩
    refine iha.v w s (P.step (.refl _ _ _) fun v x st1 am1 Hf1 H1 f1 _ w1 r1 P1 => ?_)
    refine ihb.v w1 (s.next f1) (P1.step f1 fun u y st2 am2 Hf2 H2 f2 g2 w2 r2 P2 => ?_)
    split at P2
    · rename_i hi
      rw [Bool.and_eq_true] at hi
      obtain ⟨hi, ht⟩ := hi
      have r1' := r1.mono g2.pre g2.hf
      obtain ⟨p, dx, fs, e1, e2, e3⟩ := ins_den w2 r1' hi
      cases hty : tyN st2 y with
      | none => rw [hty] at ht; cases ht
      | some t =>
        rw [hty] at ht
        have hm : t ∈ tb := List.contains_iff_mem.mp ht
        have key : ∀ n, eqOp o = some n → rCeq K o c (spF K cl C |>.pl g) v u H2 (fun x H' => ∃ k, x = V.bl k ∧ Q k H') := fun n hn' => by
          refine ⟨p, dx, fs, t.v K, n, e1, e2, Opd.tyN w2 (.inl r2) hty, hn', hT t hm, fun _ => hN, am2, st2, Hf2, [x, y], w2, .cons r1' (.cons r2 .nil), ?_⟩
          · cases hh : C g [x, y] st2 with
            | ok d st3 =>
              rw [hh] at P2
              have P2 : Post K cl RB (lift ((boolD d).bind fun k => (eqOp o).map fun n => (n != k)) st3) _ _ _ _ _ := P2
              obtain ⟨z, hz, P3⟩ := P2.lift_
              cases d with
              | bl k =>
                have hz : (eqOp o).map (fun n => (n != k)) = some z := hz
                rw [hn'] at hz
                cases hz
                exact fun v' am3 Hf3 H3 f3 w3 r3 => ⟨k, r3.vBl, _, rfl, P3 _ am3 Hf3 H3 (f2.trans f3) w3 rfl⟩
              | _ => cases hz
            | exc _ _ => rw [hh] at P2; exact P2.elim
            | bad => rw [hh] at P2; exact P2.elim
        cases ho : eqOp o with
        | some n => exact key n ho
        | none =>
          exfalso
          cases hh : C g [x, y] st2 with
          | ok d st3 =>
            rw [hh] at P2
            have P2 : Post K cl RB (lift ((boolD d).bind fun k => (eqOp o).map fun n => (n != k)) st3) _ _ _ _ _ := P2
            obtain ⟨z, hz, P3⟩ := P2.lift_
            rw [ho] at hz
            cases hb : boolD d with
            | none => rw [hb] at hz; cases hz
            | some k => rw [hb] at hz; cases hz
          | exc _ _ => rw [hh] at P2; exact P2.elim
          | bad => rw [hh] at P2; exact P2.elim
    · exact P2.elim
  | star a b iha ihb =>
    intro hK
    replace iha := iha fun f h => hK f (List.mem_append_left _ h)
    replace ihb := ihb fun f h => hK f (List.mem_append_right _ h)
    refine ⟨fun _ _ P => P.elim, (fun h => by cases h), fun w s P => ?_, fun _ _ P => P.elim, fun _ _ P => P.elim, fun _ _ P => P.elim, fun _ _ _ P => P.elim⟩
    refine iha.o w s (P.step (.refl _ _ _) fun v x st1 am1 Hf1 H1 f1 _ w1 r1 P1 => ?_)
    obtain ⟨xs, hx, P1⟩ := P1.liftB
    have key : ∃ p us, v = .ref p ∧ (SqT K H1 p us ∨ SqL K H1 p us) ∧ RepL K am1 Hf1 us xs := by
      unfold itemsL at hx
      split at hx
      · cases hx
        obtain ⟨p, vs, rfl, hp, r, _, _⟩ := r1.lst w1
        exact ⟨p, vs, rfl, .inr (SqL.of hp), r⟩
      · cases hx
        obtain ⟨p, vs, rfl, hp, r, _⟩ := r1.vTup
        exact ⟨p, vs, rfl, .inl (Same.seqT w1.sub hp), r⟩
      · cases hx
    obtain ⟨p, us, rfl, hs, r⟩ := key
    refine ⟨p, us, rfl, hs, ?_⟩
    refine ihb.vs w1 (s.next f1) (P1.step f1 fun vs ys st2 am2 Hf2 H2 f2 g2 w2 r2 P2 => ?_)
    exact P2 _ _ _ _ f2 w2 ((r.mono g2.pre g2.hf).append r2)
  | mkx g c m a iha =>
    intro hK
    have ci : ClsI K c := clsI_ok (hK _ List.mem_cons_self)
    replace iha := iha fun f h => hK f (List.mem_cons_of_mem _ h)
    refine ⟨fun w s P => ?_, (fun h => by cases h), fun _ _ P => P.elim, fun _ _ P => P.elim, fun _ _ P => P.elim, fun _ _ P => P.elim, fun _ _ _ P => P.elim⟩
    refine iha.vs w s (P.step (.refl _ _ _) fun vs xs st1 am1 Hf1 H1 f1 _ w1 r1 P1 => ?_)
    obtain ⟨ys, hy, P1⟩ := P1.liftB
    unfold packD at hy
    split at hy
    · rename_i hm
      cases hy
      refine ⟨by rw [r1.length]; exact hm.1, by rw [r1.length, ← line_eq]; exact hm.2, fun x dx p nx ndx ne np npx npd => ?_⟩
      have wn : Wf K am1 st1 (upd Hf1 p (.tup (vs.drop m))) (upd H1 p (.tup (vs.drop m))) := w1.new np
      have fn_ : Fm am1 Hf1 H1 am1 (upd Hf1 p (.tup (vs.drop m))) (upd H1 p (.tup (vs.drop m))) := Fm.new w1.sub np
      have f2 := f1.trans fn_
      have rt : Rep K am1 (upd Hf1 p (.tup (vs.drop m))) (.ref p) (.tup (xs.drop m)) := .tup (by rw [List.length_drop]; exact hm.2) (SqT.of upd_same) ((r1.drop m).mono (.refl _) fn_.hf)
      have nx' : upd H1 p (.tup (vs.drop m)) x = none := by rw [upd_ne npx.symm]; exact nx
      have ndx' : upd H1 p (.tup (vs.drop m)) dx = none := by rw [upd_ne npd.symm]; exact ndx
      refine ⟨x, dx, vs.take m ++ [.ref p], upd H1 p (.tup (vs.drop m)), am1, st1, upd Hf1 p (.tup (vs.drop m)), xs.take m ++ [.tup (xs.drop m)], rfl, rfl, nx', ndx', ne, ci, wn, ((r1.take m).mono (.refl _) fn_.hf).append (.one rt), ?_⟩
      cases hh : C g (xs.take m ++ [.tup (xs.drop m)]) st1 with
      | ok d st3 =>
        rw [hh] at P1
        obtain ⟨d', hd, P3⟩ := P1.lift_
        obtain ⟨rfl, fs, rfl⟩ := insOf_eq hd
        refine ⟨rfl, fun dx' vs' am' Hf' H' fm wf hx nf na hn hno r => ⟨rfl, ?_⟩⟩
        have sm : Same Hf' (upd Hf' x (.ins (He.ga K c) dx' vs')) := fun b u e => by
          rw [upd_ne (ne_of_none e nf)]; exact e
        exact P3 _ am' _ H' ((f2.trans fm).frz (f2.there_none nx') nf) (wf.frz hx nf na) (.ins ci hno upd_same hn (r.mono (.refl _) sm))
      | exc e st3 =>
        rw [hh] at P1
        exact fun c dd am' Hf' H' fm wf xo => P1 c dd am' Hf' H' (f2.trans fm) wf xo
      | bad => rw [hh] at P1; exact P1.elim
    · cases hy
  | smc g c m a iha =>
    intro hK
    replace iha := iha hK
    refine ⟨fun w s P => ?_, (fun h => by cases h), fun _ _ P => P.elim, fun _ _ P => P.elim, fun _ _ P => P.elim, fun _ _ P => P.elim, fun _ _ _ P => P.elim⟩
    refine iha.vs w s (P.step (.refl _ _ _) fun vs xs st1 am1 Hf1 H1 f1 _ w1 r1 P1 => ?_)
    rw [List.append_nil]
    refine ⟨am1, st1, Hf1, xs, w1, r1, ?_⟩
    exact Post.step (f := fun a st => .ok a st) (R2 := RV K) (by cases hh : C g xs st1 <;> (rw [hh] at P1; exact P1)) f1 fun v d st2 am2 Hf2 H2 f2 g2 w2 r2 P3 => P3 _ _ _ _ f2 w2 r2
  | gti g c a b iha ihb =>
    intro hK
    replace iha := iha fun f h => hK f (List.mem_append_left _ h)
    replace ihb := ihb fun f h => hK f (List.mem_append_right _ h)
    refine ⟨fun w s P => ?_, (fun h => by cases h), fun _ _ P => P.elim, fun _ _ P => P.elim, fun _ _ P => P.elim, fun _ _ P => P.elim, fun _ _ _ P => P.elim⟩
    refine iha.v w s (P.step (.refl _ _ _) fun v x st1 am1 Hf1 H1 f1 _ w1 r1 P1 => ?_)
    refine ihb.v w1 (s.next f1) (P1.step f1 fun u y st2 am2 Hf2 H2 f2 g2 w2 r2 P2 => ?_)
    split at P2
    · rename_i hi
      have r1' := r1.mono g2.pre g2.hf
      obtain ⟨p, dx, fs, e1, e2, e3⟩ := ins_den w2 r1' hi
      refine ⟨p, dx, fs, e1, e2, am2, st2, Hf2, [x, y], w2, .cons r1' (.cons r2 .nil), ?_⟩
      exact Post.step (f := fun a st => .ok a st) (R2 := RV K) (by cases hh : C g [x, y] st2 <;> (rw [hh] at P2; exact P2)) f2 fun v d st3 am3 Hf3 H3 f3 g3 w3 r3 P3 => P3 _ _ _ _ f3 w3 r3
    · exact P2.elim
  | own1 f g c a iha =>
    intro hK
    replace iha := iha fun f h => hK f (List.mem_append_right _ h)
    refine ⟨fun {W ρ st am Hf H H0 σ Q} w s P => ?_, (fun h => by cases h), fun _ _ P => P.elim, fun _ _ P => P.elim, fun _ _ P => P.elim, fun _ _ P => P.elim, fun _ _ _ P => P.elim⟩
    refine iha.v w s (P.step (.refl _ _ _) fun v x st1 am1 Hf1 H1 f1 _ w1 r1 P1 => ?_)
    split at P1
    · rename_i hi
      obtain ⟨p, dx, fs, e1, e2, e3⟩ := ins_den w1 r1 hi
      subst e1
      refine ⟨p, dx, fs, rfl, e2, am1, st1, Hf1, [x], w1, .cons r1 .nil, ?_⟩
      cases hh : C g [x] st1 with
      | ok d st2 =>
        rw [hh] at P1
        have P1 : Post K cl (RV K) (lift (ofD f d) st2) am Hf H Q (fun c d H' => W c d σ H') := P1
        obtain ⟨z, hz, P3⟩ := P1.lift_
        refine fun v' am2 Hf2 H2 f2 w2 r2 => ?_
        cases f with
        | len =>
          cases d with
          | int n =>
            have hz : (if 0 ≤ n ∧ n < 2 ^ 62 then some (D.int n) else none) = some z := hz
            split at hz
            · rename_i hn
              cases hz
              exact ⟨n, r2.vInt, hn.1, hn.2, P3 _ am2 Hf2 H2 (f1.trans f2) w2 (.int _)⟩
            · cases hz
          | _ => cases hz
        | str =>
          cases d with
          | str y =>
            cases hz
            obtain ⟨h1, h2⟩ := r2.vStr
            exact ⟨tx y, h1, P3 _ am2 Hf2 H2 (f1.trans f2) w2 (.str _ h2)⟩
          | _ => cases hz
        | bool =>
          cases d with
          | int n =>
            have hz : (if 0 ≤ n ∧ n < 2 ^ 62 then some (D.bl (n != 0)) else none) = some z := hz
            split at hz
            · rename_i hn
              cases hz
              exact ⟨n, r2.vInt, hn.1, hn.2, P3 _ am2 Hf2 H2 (f1.trans f2) w2 (.bl _)⟩
            · cases hz
          | _ => cases hz
      | exc _ _ => rw [hh] at P1; exact P1.elim
      | bad => rw [hh] at P1; exact P1.elim
    · exact P1.elim
  | cno n g c a b iha ihb =>
    intro hK
    replace iha := iha fun f h => hK f (List.mem_append_left _ h)
    replace ihb := ihb fun f h => hK f (List.mem_append_right _ h)
    refine ⟨fun {W ρ st am Hf H H0 σ Q} w s P => ?_, (fun h => by cases h), fun _ _ P => P.elim, fun _ _ P => P.elim, fun _ _ P => P.elim, fun _ _ P => P.elim, fun _ _ _ P => P.elim⟩
    refine iha.v w s (P.step (.refl _ _ _) fun u y st1 am1 Hf1 H1 f1 _ w1 r1 P1 => ?_)
    refine ihb.v w1 (s.next f1) (P1.step f1 fun v x st2 am2 Hf2 H2 f2 g2 w2 r2 P2 => ?_)
    split at P2
    · rename_i hi
      obtain ⟨p, dx, fs, e1, e2, e3⟩ := ins_den w2 r2 hi
      refine ⟨p, dx, fs, e1, e2, am2, st2, Hf2, [x, y], w2, .cons r2 (.cons (r1.mono g2.pre g2.hf) .nil), ?_⟩
      cases hh : C g [x, y] st2 with
      | ok d st3 =>
        rw [hh] at P2
        have P2 : Post K cl (RV K) (lift ((boolD d).map fun k => .bl (n != k)) st3) am Hf H Q (fun c d H' => W c d σ H') := P2
        obtain ⟨z, hz, P3⟩ := P2.lift_
        cases d with
        | bl k =>
          cases hz
          exact fun v' am3 Hf3 H3 f3 w3 r3 => ⟨k, r3.vBl, P3 _ am3 Hf3 H3 (f2.trans f3) w3 (.bl _)⟩
        | _ => cases hz
      | exc _ _ => rw [hh] at P2; exact P2.elim
      | bad => rw [hh] at P2; exact P2.elim
    · exact P2.elim
  | tcno n g c a b iha ihb =>
    intro hK
    replace iha := iha fun f h => hK f (List.mem_append_left _ h)
    replace ihb := ihb fun f h => hK f (List.mem_append_right _ h)
    refine ⟨fun _ _ P => P.elim, (fun h => by cases h), fun _ _ P => P.elim, fun _ _ P => P.elim, fun _ _ P => P.elim, fun {W ρ st am Hf H H0 σ Q} w s P => ?_, fun _ _ _ P => P.elim⟩
    refine iha.v w s (P.step (.refl _ _ _) fun u y st1 am1 Hf1 H1 f1 _ w1 r1 P1 => ?_)
    refine ihb.v w1 (s.next f1) (P1.step f1 fun v x st2 am2 Hf2 H2 f2 g2 w2 r2 P2 => ?_)
    split at P2
    · rename_i hi
      obtain ⟨p, dx, fs, e1, e2, e3⟩ := ins_den w2 r2 hi
      refine ⟨p, dx, fs, e1, e2, am2, st2, Hf2, [x, y], w2, .cons r2 (.cons (r1.mono g2.pre g2.hf) .nil), ?_⟩
      cases hh : C g [x, y] st2 with
      | ok d st3 =>
        rw [hh] at P2
        have P2 : Post K cl RB (lift ((boolD d).map fun k => (n != k)) st3) am Hf H Q (fun c d H' => W c d σ H') := P2
        obtain ⟨z, hz, P3⟩ := P2.lift_
        cases d with
        | bl k =>
          cases hz
          exact fun v' am3 Hf3 H3 f3 w3 r3 => ⟨k, r3.vBl, _, rfl, P3 _ am3 Hf3 H3 (f2.trans f3) w3 rfl⟩
        | _ => cases hz
      | exc _ _ => rw [hh] at P2; exact P2.elim
      | bad => rw [hh] at P2; exact P2.elim
    · exact P2.elim
  | dgx d k ihd ihk =>
    intro hK
    replace ihd := ihd fun f h => hK f (List.mem_append_left _ h)
    replace ihk := ihk fun f h => hK f (List.mem_append_right _ h)
    refine ⟨fun w s P => ?_, (fun h => by cases h), fun _ _ P => P.elim, fun _ _ P => P.elim, fun _ _ P => P.elim, fun _ _ P => P.elim, fun _ _ _ P => P.elim⟩
    refine ihd.k w s (P.step (.refl _ _ _) fun v x st1 am1 Hf1 H1 f1 _ w1 r1 P1 => ?_)
    refine ihk.v w1 (s.next f1) (P1.step f1 fun u y st2 am2 Hf2 H2 f2 g2 w2 r2 P2 => ?_)
    obtain ⟨z, hz, P3⟩ := P2.lift_
    cases hg : dgetD x y with
    | none => rw [hg] at hz; cases hz
    | some o =>
      rw [hg] at hz
      have hz : o = some z := hz
      obtain ⟨p, w', rfl, _, g, q⟩ := dget_den w2 (r1.next g2) r2 hg
      rcases q with ⟨a, d', rfl, e2, r3⟩ | ⟨_, e2⟩
      · rw [hz] at e2
        cases e2
        exact ⟨p, a, rfl, g, P3 _ _ _ _ f2 w2 r3⟩
      · rw [hz] at e2
        cases e2
  | dgt d k z ihd ihk ihz =>
    intro hK
    replace ihd := ihd fun f h => hK f (List.mem_append_left _ h)
    replace ihk := ihk fun f h => hK f (List.mem_append_right _ (List.mem_append_left _ h))
    replace ihz := ihz fun f h => hK f (List.mem_append_right _ (List.mem_append_right _ h))
    refine ⟨fun {W ρ st am Hf H H0 σ Q} w s P => ?_, (fun h => by cases h), fun _ _ P => P.elim, fun _ _ P => P.elim, fun _ _ P => P.elim, fun _ _ P => P.elim, fun _ _ _ P => P.elim⟩
    show (if isNil z = true then tDGet1 (tE K (spF K cl C) W d) (tE K (spF K cl C) W k) else tDGet2 (tE K (spF K cl C) W d) (tE K (spF K cl C) W k) (tE K (spF K cl C) W z)) σ H Q
    have key : ∀ {v x st1 am1 Hf1 H1}, Wf K am1 st1 Hf1 H1 → OpdK K am1 Hf1 H1 v x → ∀ {kvs}, dctD x = some kvs → x = .dct kvs ∧ ∃ p, v = .ref p ∧ IsD H1 p := fun {v x st1 am1 Hf1 H1} w1 r1 {kvs} hx => by
      unfold dctD at hx
      split at hx
      · cases hx
        obtain ⟨p, vs, e, hd, _⟩ := r1.dct w1
        exact ⟨rfl, p, e, .inl ⟨_, hd⟩⟩
      · cases hx
    split
    · rename_i hn
      refine ihd.k w s (P.step (.refl _ _ _) fun v x st1 am1 Hf1 H1 f1 _ w1 r1 P1 => ?_)
      obtain ⟨kvs, hx, P2⟩ := P1.liftB
      obtain ⟨ex, p, rfl, hd⟩ := key w1 r1 hx
      subst ex
      refine ⟨p, rfl, hd, ?_⟩
      refine ihk.v w1 (s.next f1) (P2.step f1 fun u y st2 am2 Hf2 H2 f2 g2 w2 r2 P3 => ?_)
      rw [if_pos hn] at P3
      obtain ⟨d', hd', P4⟩ := Post.lift_ (o := (dgetD (.dct kvs) y).map fun o => o.getD .non) P3
      cases hg : dgetD (.dct kvs) y with
      | none => rw [hg] at hd'; cases hd'
      | some o =>
        rw [hg] at hd'
        cases hd'
        obtain ⟨p', w', e, _, g, q⟩ := dget_den w2 (r1.next g2) r2 hg
        cases e
        refine ⟨w', g, ?_⟩
        rcases q with ⟨a, d', rfl, rfl, r3⟩ | ⟨rfl, rfl⟩
        · exact P4 _ _ _ _ f2 w2 r3
        · exact P4 _ _ _ _ f2 w2 .non
    · rename_i hn
      refine ihd.k w s (P.step (.refl _ _ _) fun v x st1 am1 Hf1 H1 f1 _ w1 r1 P1 => ?_)
      obtain ⟨kvs, hx, P2⟩ := P1.liftB
      obtain ⟨ex, p, rfl, hd⟩ := key w1 r1 hx
      subst ex
      refine ⟨p, rfl, hd, ?_⟩
      refine ihk.v w1 (s.next f1) (P2.step f1 fun u y st2 am2 Hf2 H2 f2 g2 w2 r2 P3 => ?_)
      rw [if_neg hn] at P3
      refine ihz.v w2 ((s.next f1).next g2) (P3.step f2 fun t zd st3 am3 Hf3 H3 f3 g3 w3 r3 P4 => ?_)
      obtain ⟨d', hd', P5⟩ := P4.lift_
      cases hg : dgetD (.dct kvs) y with
      | none => rw [hg] at hd'; cases hd'
      | some o =>
        rw [hg] at hd'
        cases hd'
        obtain ⟨p', w', e, _, g, q⟩ := dget_den w3 ((r1.next g2).next g3) (r2.mono g3.pre g3.hf) hg
        cases e
        refine ⟨w', g, ?_⟩
        rcases q with ⟨a, d', rfl, rfl, r4⟩ | ⟨rfl, rfl⟩
        · exact P5 _ _ _ _ f3 w3 r4
        · exact P5 _ _ _ _ f3 w3 r3
  | din n k d ihk ihd =>
    intro hK
    replace ihk := ihk fun f h => hK f (List.mem_append_left _ h)
    replace ihd := ihd fun f h => hK f (List.mem_append_right _ h)
    refine ⟨fun w s P => ?_, (fun h => by cases h), fun _ _ P => P.elim, fun _ _ P => P.elim, fun _ _ P => P.elim, fun _ _ P => P.elim, fun _ _ _ P => P.elim⟩
    refine ihk.v w s (P.step (.refl _ _ _) fun u y st1 am1 Hf1 H1 f1 _ w1 r1 P1 => ?_)
    refine ihd.k w1 (s.next f1) (P1.step f1 fun v x st2 am2 Hf2 H2 f2 g2 w2 r2 P2 => ?_)
    obtain ⟨z, hz, P3⟩ := P2.map_
    obtain ⟨p, w', rfl, _, g, q⟩ := dget_den w2 r2 (r1.mono g2.pre g2.hf) hz
    refine ⟨p, w', rfl, g, ?_⟩
    rcases q with ⟨a, d', rfl, rfl, _⟩ | ⟨rfl, rfl⟩
    · exact P3 _ _ _ _ f2 w2 (.bl _)
    · exact P3 _ _ _ _ f2 w2 (.bl _)
  | tdin n k d ihk ihd =>
    intro hK
    replace ihk := ihk fun f h => hK f (List.mem_append_left _ h)
    replace ihd := ihd fun f h => hK f (List.mem_append_right _ h)
    refine ⟨fun _ _ P => P.elim, (fun h => by cases h), fun _ _ P => P.elim, fun _ _ P => P.elim, fun _ _ P => P.elim, fun w s P => ?_, fun _ _ _ P => P.elim⟩
    refine ihk.v w s (P.step (.refl _ _ _) fun u y st1 am1 Hf1 H1 f1 _ w1 r1 P1 => ?_)
    refine ihd.k w1 (s.next f1) (P1.step f1 fun v x st2 am2 Hf2 H2 f2 g2 w2 r2 P2 => ?_)
    obtain ⟨z, hz, P3⟩ := P2.lift_
    cases hg : dgetD x y with
    | none => rw [hg] at hz; cases hz
    | some o =>
      rw [hg] at hz
      cases hz
      obtain ⟨p, w', rfl, _, g, q⟩ := dget_den w2 r2 (r1.mono g2.pre g2.hf) hg
      refine ⟨p, w', rfl, g, ?_⟩
      rcases q with ⟨a, d', rfl, rfl, _⟩ | ⟨rfl, rfl⟩
      · exact ⟨_, rfl, P3 _ _ _ _ f2 w2 rfl⟩
      · exact ⟨_, rfl, P3 _ _ _ _ f2 w2 rfl⟩
  | kct x d =>
    intro hK
    have ht : (Kf.kv x d).ok K = true := hK _ List.mem_cons_self
    refine ⟨fun w s P => ?_, (fun h => by cases h), fun _ _ P => P.elim, fun _ _ P => P.elim, fun _ _ P => P.elim, fun _ _ P => P.elim, fun _ _ _ P => P.elim⟩
    exact P _ _ _ _ (.refl _ _ _) w (kv_den ht)
  | kdg x t k ihk =>
    intro hK
    have ht : (Kf.tab x t).ok K = true := hK _ List.mem_cons_self
    replace ihk := ihk fun f h => hK f (List.mem_cons_of_mem _ h)
    refine ⟨fun w s P => ?_, (fun h => by cases h), fun _ _ P => P.elim, fun _ _ P => P.elim, fun _ _ P => P.elim, fun _ _ P => P.elim, fun _ _ _ P => P.elim⟩
    refine ihk.v w s (P.step (.refl _ _ _) fun v y st1 am1 Hf1 H1 f1 _ w1 r1 P1 => ?_)
    obtain ⟨z, hz, P2⟩ := P1.lift_
    unfold strD at hz
    split at hz
    · rename_i s0
      obtain ⟨u, v', q1, q2, q3⟩ := tab_den (am := am1) (H := Hf1) ht hz
      exact ⟨tx s0, u, v', rfl, r1.vStr.1, q1, q2, P2 _ _ _ _ f1 w1 q3⟩
    · cases hz
  | kdi n x t k ihk =>
    intro hK
    have ht : (Kf.tab x t).ok K = true := hK _ List.mem_cons_self
    have hk : (Kf.keys x t).ok K = true := hK _ (List.mem_cons_of_mem _ List.mem_cons_self)
    replace ihk := ihk fun f h => hK f (List.mem_cons_of_mem _ (List.mem_cons_of_mem _ h))
    refine ⟨fun w s P => ?_, (fun h => by cases h), fun _ _ P => P.elim, fun _ _ P => P.elim, fun _ _ P => P.elim, fun _ _ P => P.elim, fun _ _ _ P => P.elim⟩
    refine ihk.v w s (P.step (.refl _ _ _) fun v y st1 am1 Hf1 H1 f1 _ w1 r1 P1 => ?_)
    obtain ⟨s0, hs, P2⟩ := P1.map_
    have hy : y = .str s0 := by
      unfold strD at hs
      split at hs
      · cases hs; rfl
      · cases hs
    subst hy
    cases hl : t.lookup s0 with
    | none =>
      rw [hl] at P2
      exact ⟨tx s0, none, r1.vStr.1, rfl, keys_den hk hl, P2 _ _ _ _ f1 w1 (.bl _)⟩
    | some d =>
      rw [hl] at P2
      obtain ⟨u, v', q1, q2, q3⟩ := tab_den (am := am1) (H := Hf1) ht hl
      exact ⟨tx s0, some u, r1.vStr.1, rfl, q1, P2 _ _ _ _ f1 w1 (.bl _)⟩
/-- a dict display that stays the frame's own -/
theorem denK {a : E} (iha : Den K cl C a) {W : WX} {ρ : Env} {st : Store} {am : List Addr} {Hf H : Hp} {H0 : B0} {σ : St} {Q : VK} (w : Wf K am st Hf H) (s : Sig K am Hf H H0 σ ρ)
    (P : PostK K cl (ev C (.dsp a) ρ st) am Hf H Q (fun c d H' => W c d σ H')) : tE K (spF K cl C) W (.dsp a) σ H Q := by
  show (if isNil a = true then tDNewK else tDisp (tP K (spF K cl C) W a)) σ H Q
  split
  · rename_i ha
    have := isNil_nil ha
    subst this
    intro p np
    obtain ⟨ds, e, P2⟩ := (P : PostK K cl (.ok (.dct []) st) am Hf H Q _)
    cases e
    exact P2 p [] am _ _ (Fm.own np) (w.own (w.nof np) (w.notin np)) np upd_same (w.nof np) (w.notin np) .nil
  intro p np
  have fo : Fm am Hf H am Hf (upd H p (.dK [])) := Fm.own np
  have P : PostK K cl ((evp C a ρ st).bind fun ps st => lift (dspD ps) st) am Hf H Q _ := P
  refine iha.p (w.own (w.nof np) (w.notin np)) (s.next fo) ?_
  cases hh : evp C a ρ st with
  | bad => rw [hh] at P; exact P.elim
  | exc x st1 => rw [hh] at P; exact fun c dd am1 Hf1 H1 f1 w1 r => P c dd am1 Hf1 H1 (fo.trans f1) w1 r
  | ok xs st1 =>
    rw [hh] at P
    have P : PostK K cl (lift (dspD xs) st1) am Hf H Q _ := P
    intro ps am1 Hf1 H1 g1 w1 r1
    cases hd : dspD xs with
    | none => rw [hd] at P; exact P.elim
    | some z =>
      rw [hd] at P
      obtain ⟨ds, e, P2⟩ := (P : PostK K cl (.ok z st1) am Hf H Q _)
      subst e
      unfold dspD at hd
      split at hd
      · rename_i hl
        cases hk : keysD xs with
        | none => rw [hk] at hd; cases hd
        | some kvs =>
          rw [hk] at hd
          cases hd
          obtain ⟨vs, e1, e2, e3⟩ := r1.keys hk
          have hp : H1 p = some (.dK []) := g1.keep _ _ upd_same (w.notin np)
          have nf : Hf1 p = none := g1.offF _ _ upd_same (w.nof np)
          have na : p ∉ am1 := fun z => w.notin np (g1.offA _ _ upd_same z)
          refine ⟨hp, vs, e1, by rw [e3]; exact hl, ?_⟩
          have rm : RepK K am1 Hf1 (mergeK [] vs) (mergeD [] kvs) := RepK.merge e2 .nil
          exact P2 p _ am1 Hf1 _ ((fo.trans g1).mut np) (w1.own nf na) np upd_same nf na rm
      · cases hd
end
end PF
/-! Statements: their transformers, and that the interpreter's answer holds of them. -/
namespace PF
open PySem L2
def ipOf : BOp → Int → Int → Int
  | .sub => fun i j => i - j
  | _ => fun i j => i + j
/-- what the __init__ of an error class promises: each argument in a field of its own -/
def spXI (K : PySem.W.Frag) (c : Str) (fs : List Str) : Sp := fun vs H Q _ => ∃ a us, vs = .ref a :: us ∧ us.length = fs.length ∧ fs ≠ [] ∧ H a = some (exo a (He.ga K c) none) ∧
  ∀ dx, H dx = none → dx ≠ a → Q .non (upd (upd H dx (exd dx (fs.zip us).reverse)) a (exo a (He.ga K c) (some dx)))
/-- raise c(..) by that -/
def tRse (K : PySem.W.Frag) (W : WX) (c : Str) (fs : List Str) (ta : TA) : TS := fun _ σ H => tMkO (He.ga K c) (spXI K c fs) [] ta σ H fun cls d H' => W cls d σ H'
/-- what a suite knows of the caught error: its address, its class, its fields' dict -/
structure HX where
  a : Addr
  cls : Value
  d : Option Addr
mutual
def tH (K : PySem.W.Frag) (hx : HX) : E → TE
  | .var i => tVar i
  | .cst d => tC (vf d)
  | .exf c f i => tXf hx.a hx.cls hx.d (He.ga K c) f (tVar i)
  | .cmp o a b => tOp (rCmp K o) (tH K hx a) (tH K hx b)
  | .tup a => tTup (tHs K hx a)
  | .lst a => tLst (tHs K hx a)
  | _ => fun _ _ _ => False
def tHs (K : PySem.W.Frag) (hx : HX) : E → TA
  | .nil => tNil
  | .cons a b => tCons (tH K hx a) (tHs K hx b)
  | _ => fun _ _ _ => False
end
/-- an except clause: its class, its name's slot, its suite -/
structure Cl where
  c : Value
  i : Option Nat
  ts : Addr → Value → Option Addr → TS
def clT (q : Cl) (a : Addr) (cls : Value) (d : Option Addr) (D : Ends) (σ : St) (H : Hp) : Prop := match q.i with
  | none => q.ts a cls d D σ H
  | some i => q.ts a cls d { nx := fun σ' H' => D.nx (σ'.set i none) H', rt := D.rt, bk := fun σ' H' => D.bk (σ'.set i none) H', ct := fun σ' H' => D.ct (σ'.set i none) H' } (σ.set i (some (.ref a))) H
/-- what several clauses wish of an exception of the body -/
def wCl (K : PySem.W.Frag) (Wout : WX) (D : Ends) : List Cl → WX
  | [] => Wout
  | q :: r => fun cls d σ H => ∃ b, PySem.W.exmOne K cls q.c = some b ∧ (b = true → ∀ a, H a = none → clT q a cls d D σ H) ∧ (b = false → wCl K Wout D r cls d σ H)
def Hd.cl (K : PySem.W.Frag) (h : Hd) : Cl := ⟨.ref (He.ga K h.c), h.i, fun a cls d => tSeq (tRet (tH K ⟨a, cls, d⟩ h.h)) tNext⟩
/-- what the texts ask of the written part -/
def fcS : S → List Kf
  | .seq a b => fcS a ++ fcS b
  | .ite c a b => fcE c ++ (fcS a ++ fcS b)
  | .for_ _ src b => fcE src ++ fcS b
  | .forr _ a b => fcE a ++ fcS b
  | .whl c b => fcE c ++ fcS b
  | .tryas b hs => fcS b ++ hs.flatMap fun h => h.cs.map fun x => .exm x.1 h.c x.2
  | .set _ e => fcE e
  | .own _ e => fcE e
  | .app _ e => fcE e
  | .ext _ e => fcE e
  | .aug _ _ e => fcE e
  | .put o k e => fcE o ++ (fcE k ++ fcE e)
  | .exp e => fcE e
  | .ret e => fcE e
  | .retf e => fcE e
  | .sfl _ c f e => .noat c f :: fcE e
  | .unp _ e => fcE e
  | .par _ a => fcE a
  | .rse _ _ a => fcE a
  | .dput _ k e => fcE k ++ fcE e
  | .for2 _ _ s a b => fcE s ++ (fcE a ++ fcS b)
  | _ => []
/-- two or three names at once -/
def tParN (is : List Nat) (ta : TA) : TS := match is with
  | [i, j] => tPar i j ta
  | [i, j, l] => tPar3 i j l ta
  | _ => fun _ _ _ => False
/-- .. a dict is locked meanwhile -/
def tLkS (k : SK) (t : TS) : TS := match k with
  | .itm _ => fun D σ H => t D σ H ∨ tLock t D σ H
  | _ => t
def tS (K : PySem.W.Frag) (F : FF) (W : WX) : S → TS
  | .skip => tNext
  | .seq a b => tSeq (tS K F W a) (tS K F W b)
  | .set i e => tAsg (tE K F W e) (gName i)
  | .own i e => tAsg (tE K F W e) (gName i)
  | .frz _ => tNext
  | .app i e => tDrop (tBM K "list" rAppend (tVar i) (tCons (tE K F W e) tNil))
  | .ext i e => tDrop (tBM K "list" rExtend (tVar i) (tCons (tE K F W e) tNil))
  | .aug i o e => tAug i (tE K F W e) (ipI (ipOf o))
  | .put o k e => tAsg (tE K F W e) (gSub (tE K F W o) (tE K F W k) rSetL)
  | .exp e => tDrop (tE K F W e)
  | .ret e => tRet (tE K F W e)
  | .retn => tRetN
  | .retf e => tRet (tE K F W e)
  | .reto i => tRet (tVar i)
  | .ite c a b => tIfS (tT K F W c) (tS K F W a) (tS K F W b)
  | .for_ j src b => tFor (iAny K (tE K F W src)) (gName j) (tS K F W b)
  | .forr j a b => tFor (iRng (tA K F W a)) (gName j) (tS K F W b)
  | .whl c b => tWhile (tT K F W c) (tS K F W b)
  | .sfl i _ f e => sFld K (tVar i) (tE K F W e) f
  | .unp is e => tAsg (tE K F W e) (gTup K is.length (gNames is))
  | .par is a => tParN is (tA K F W a)
  | .rse c fs a => tRse K W c fs (tA K F W a)
  | .tryas b hs => fun D σ H => tS K F (wCl K W D (hs.map (Hd.cl K))) b D σ H
  | .dput i k e => sDPut (tVar i) (tE K F W k) (tE K F W e)
  | .for2 is k s a b => tLkS k (tFor (iSrc K k (tE K F W s) (tA K F W a)) (gTgt K is) (tS K F (if isItm k then W0 else W) b))
  | .brk => tBreak
  | .cnt => tCont
/-- from the def's entry (am0, Hf0, H0); at least as much is frozen as at the statement's own start (amL, HfL) -/
structure FmL (am0 : List Addr) (Hf0 : Hp) (H0 : B0) (amL : List Addr) (HfL : Hp) (am : List Addr) (Hf H : Hp) : Prop where
  fm : Fm am0 Hf0 H0.h am Hf H
  pre : Pre amL am
  hf : Same HfL Hf
theorem FmL.trans {am0 amL am am1 : List Addr} {Hf0 HfL Hf H Hf1 H1 : Hp} {H0 : B0} (a : FmL am0 Hf0 H0 amL HfL am Hf H) (b : Fm am Hf H am1 Hf1 H1) : FmL am0 Hf0 H0 amL HfL am1 Hf1 H1 := ⟨a.fm.trans b, a.pre.trans b.pre, a.hf.trans b.hf⟩
theorem FmL.mut {am0 amL am : List Addr} {Hf0 HfL Hf H : Hp} {H0 : B0} {p : Addr} {o : HO} (a : FmL am0 Hf0 H0 amL HfL am Hf H) (np : H0 p = none) : FmL am0 Hf0 H0 amL HfL am Hf (upd H p o) := ⟨a.fm.mut np, a.pre, a.hf⟩
theorem FmL.frz {am0 amL am : List Addr} {Hf0 HfL Hf H : Hp} {H0 : B0} {p : Addr} {o : HO} (a : FmL am0 Hf0 H0 amL HfL am Hf H) (np : H0 p = none) (nf : Hf p = none) : FmL am0 Hf0 H0 amL HfL am (upd Hf p o) H :=
  ⟨a.fm.frz np nf, a.pre, fun b u e => by
    have e1 := a.hf b u e
    rw [upd_ne (ne_of_none e1 nf)]
    exact e1⟩
theorem FmL.here {am0 amL am : List Addr} {Hf0 HfL Hf H : Hp} {H0 : B0} (a : FmL am0 Hf0 H0 amL HfL am Hf H) : FmL am0 Hf0 H0 am Hf am Hf H := ⟨a.fm, .refl _, .refl _⟩
theorem FmL.low {am0 amL am am1 : List Addr} {Hf0 HfL Hf H Hf1 H1 : Hp} {H0 : B0} (a : FmL am0 Hf0 H0 amL HfL am Hf H) (b : FmL am0 Hf0 H0 am Hf am1 Hf1 H1) : FmL am0 Hf0 H0 amL HfL am1 Hf1 H1 := ⟨b.fm, a.pre.trans b.pre, a.hf.trans b.hf⟩
def PostS (K : PySem.W.Frag) (cl : Nat → Addr) (r : O Fl) (am0 : List Addr) (Hf0 : Hp) (H0 : B0) (amL : List Addr) (HfL : Hp) (Dn : Ends) (W : WX) : Prop :=
  match r with
  | .ok (.next ρ) st => ∀ σ am Hf H, FmL am0 Hf0 H0 amL HfL am Hf H → Wf K am st Hf H → Sig K am Hf H H0 σ ρ → Dn.nx σ H
  | .ok (.brk ρ) st => ∀ σ am Hf H, FmL am0 Hf0 H0 amL HfL am Hf H → Wf K am st Hf H → Sig K am Hf H H0 σ ρ → Dn.bk σ H
  | .ok (.cnt ρ) st => ∀ σ am Hf H, FmL am0 Hf0 H0 amL HfL am Hf H → Wf K am st Hf H → Sig K am Hf H H0 σ ρ → Dn.ct σ H
  | .ok (.ret d) st => ∀ v am Hf H, FmL am0 Hf0 H0 amL HfL am Hf H → Wf K am st Hf H → Rep K am Hf v d → Dn.rt v H
  | .ok (.rse x ρ) st => ∀ σ c dd am Hf H, FmL am0 Hf0 H0 amL HfL am Hf H → Wf K am st Hf H → Sig K am Hf H H0 σ ρ → XOk K cl am Hf x c dd → W c dd σ H
  | .ok (.retf ds) st => ∀ p vs am Hf H, FmL am0 Hf0 H0 amL HfL am Hf H → Wf K am st Hf H → H0 p = none → H p = some (.lst vs) → Hf p = none → p ∉ am → RepL K am Hf vs ds → ds.length ≤ line → Dn.rt (.ref p) H
  | .exc _ _ => False
  | .bad => False
section
variable {K : PySem.W.Frag} {cl : Nat → Addr} {C : Calls} {am0 amL am : List Addr} {Hf0 HfL Hf H : Hp} {H0 : B0} {Dn : Ends} {W : WX} {ρ : Env} {σ : St} {st : Store}
theorem PostS.thn_ {α β : Type} {R : List Addr → Hp → Hp → β → α → Prop} {o : O α} {f : α → Store → O Fl} {Q : β → Hp → Prop} (P : PostS K cl (o.thn ρ f) am0 Hf0 H0 amL HfL Dn W) (f0 : FmL am0 Hf0 H0 amL HfL am Hf H) (s : Sig K am Hf H H0 σ ρ)
    (k : ∀ v d st1 am1 Hf1 H1, FmL am0 Hf0 H0 amL HfL am1 Hf1 H1 → Fm am Hf H am1 Hf1 H1 → Wf K am1 st1 Hf1 H1 → R am1 Hf1 H1 v d → PostS K cl (f d st1) am0 Hf0 H0 amL HfL Dn W → Q v H1) :
    Post K cl R o am Hf H Q (fun c d H' => W c d σ H') := by
  cases o with
  | ok d st1 => exact fun v am1 Hf1 H1 fm wf r => k v d st1 am1 Hf1 H1 (f0.trans fm) fm wf r P
  | exc x st1 => exact fun c dd am1 Hf1 H1 fm wf r => P σ c dd am1 Hf1 H1 (f0.trans fm) wf (s.next fm) r
  | bad => exact P
theorem PostS.thnN {o : O D} {f : D → Store → O Fl} {Q : VK} (P : PostS K cl (o.thn ρ f) am0 Hf0 H0 amL HfL Dn W) (f0 : FmL am0 Hf0 H0 amL HfL am Hf H) (s : Sig K am Hf H H0 σ ρ) (hl : ∀ d st, o = .ok d st → ∃ ds, d = .lst ds)
    (k : ∀ p vs ds st1 am1 Hf1 H1, FmL am0 Hf0 H0 amL HfL am1 Hf1 H1 → Fm am Hf H am1 Hf1 H1 → Wf K am1 st1 Hf1 H1 → H p = none → H1 p = some (.lst vs) → Hf1 p = none → p ∉ am1 → RepL K am1 Hf1 vs ds → ds.length ≤ line → PostS K cl (f (.lst ds) st1) am0 Hf0 H0 amL HfL Dn W → Q (.ref p) H1) :
    PostN K cl o am Hf H Q (fun c d H' => W c d σ H') := by
  cases o with
  | ok d st1 =>
    obtain ⟨ds, rfl⟩ := hl _ _ rfl
    exact ⟨ds, rfl, fun p vs am1 Hf1 H1 fm wf np hp nf na r hz => k p vs ds st1 am1 Hf1 H1 (f0.trans fm) fm wf np hp nf na r hz P⟩
  | exc x st1 => exact fun c dd am1 Hf1 H1 fm wf r => P σ c dd am1 Hf1 H1 (f0.trans fm) wf (s.next fm) r
  | bad => exact P
theorem PostS.liftB {α : Type} {o : Option α} {st : Store} {f : α → Store → O Fl} (P : PostS K cl ((lift o st).bind f) am0 Hf0 H0 amL HfL Dn W) : ∃ a, o = some a ∧ PostS K cl (f a st) am0 Hf0 H0 amL HfL Dn W := by
  cases o with
  | none => exact P.elim
  | some a => exact ⟨a, rfl, P⟩
theorem bindFl {o : O Fl} {f : Fl → Store → O Fl} {P : Prop} (h : PostS K cl (o.bind f) am0 Hf0 H0 amL HfL Dn W) (k : ∀ fl st, o = .ok fl st → PostS K cl (f fl st) am0 Hf0 H0 amL HfL Dn W → P) : P := by
  cases o with
  | ok fl st => exact k fl st rfl h
  | exc _ _ => exact h.elim
  | bad => exact h.elim
/-- a new list of one's own gets a name -/
theorem Sig.own {i : Nat} {p : Addr} {vs : List V} {ds : List D} (s : Sig K am Hf H H0 σ ρ) (hp : H p = some (.lst vs)) (r : RepL K am Hf vs ds) (nf : Hf p = none) (na : p ∉ am) (n0 : H0 p = none) (hz : ds.length ≤ line)
    (hd : ∀ (k : Nat) dk, ρ[k]? = some dk → isOwn dk = true → σ[k]? ≠ some (some (.ref p))) : Sig K am Hf H H0 (σ.set i (some (.ref p))) (ρ.set i (.ol ds)) := by
  refine ⟨len_set _ _ _ _ _ s.len, fun k x e => ?_, fun k l q dk dl hkl e1 e2 o1 o2 e3 e4 => ?_⟩
  · by_cases hk : i = k
    · subst hk
      have hl : i < ρ.length := by
        have := (List.getElem?_eq_some_iff.mp e).1
        rwa [List.length_set] at this
      rw [List.getElem?_set_self hl] at e
      cases e
      exact ⟨p, vs, by rw [List.getElem?_set_self (by rw [← s.len]; exact hl)], hp, r, nf, na, n0, hz⟩
    · rw [List.getElem?_set_ne hk] at e
      have q := s.slot k x e
      cases x with
      | un => trivial
      | im d =>
        obtain ⟨v, h1, h2⟩ := q
        exact ⟨v, by rw [List.getElem?_set_ne hk]; exact h1, h2⟩
      | ol ds =>
        obtain ⟨p, vs, h1, h2⟩ := q
        exact ⟨p, vs, by rw [List.getElem?_set_ne hk]; exact h1, h2⟩
      | od ds =>
        obtain ⟨p, vs, h1, h2⟩ := q
        exact ⟨p, vs, by rw [List.getElem?_set_ne hk]; exact h1, h2⟩
      | oi c ds =>
        obtain ⟨p, dx, vs, h1, h2⟩ := q
        exact ⟨p, dx, vs, by rw [List.getElem?_set_ne hk]; exact h1, h2⟩
  · have tgt : ∀ (k : Nat) (dk : Slot), (ρ.set i (.ol ds))[k]? = some dk → (k = i ∧ ∀ q, (σ.set i (some (V.ref p)))[k]? = some (some (.ref q)) → q = p) ∨ (k ≠ i ∧ ρ[k]? = some dk ∧ (σ.set i (some (V.ref p)))[k]? = σ[k]?) := fun k dk e => by
      by_cases hk : i = k
      · subst hk
        refine .inl ⟨rfl, fun q e' => ?_⟩
        have hl : i < σ.length := by
          have := (List.getElem?_eq_some_iff.mp e').1
          rwa [List.length_set] at this
        rw [List.getElem?_set_self hl] at e'
        cases e'
        rfl
      · rw [List.getElem?_set_ne hk] at e
        exact .inr ⟨fun z => hk z.symm, e, by rw [List.getElem?_set_ne hk]⟩
    rcases tgt k dk e1 with ⟨z1, q1⟩ | ⟨z1, q1, w1⟩
    · rcases tgt l dl e2 with ⟨z2, q2⟩ | ⟨z2, q2, w2⟩
      · exact hkl (z1.trans z2.symm)
      · rw [w2] at e4
        have := q1 _ e3
        subst this
        exact hd l dl q2 o2 e4
    · rcases tgt l dl e2 with ⟨z2, q2⟩ | ⟨z2, q2, w2⟩
      · rw [w1] at e3
        have := q2 _ e4
        subst this
        exact hd k dk q1 o1 e3
      · rw [w1] at e3
        rw [w2] at e4
        exact s.dist k l q dk dl hkl q1 q2 o1 o2 e3 e4
/-- a list of one's own is changed -/
theorem Sig.mut {i : Nat} {p : Addr} {vs : List V} {ds es : List D} (s : Sig K am Hf H H0 σ ρ) (hi : ρ[i]? = some (.ol es)) (hs : σ[i]? = some (some (.ref p))) (r : RepL K am Hf vs ds) (hz : ds.length ≤ line) : Sig K am Hf (upd H p (.lst vs)) H0 σ (ρ.set i (.ol ds)) := by
  obtain ⟨p', us, h1, h2, h3, h4, h5, h6, h7⟩ := s.slot i _ hi
  rw [hs] at h1
  cases h1
  have hl : i < ρ.length := (List.getElem?_eq_some_iff.mp hi).1
  refine ⟨by rw [List.length_set]; exact s.len, fun k x e => ?_, fun k l q dk dl hkl e1 e2 o1 o2 e3 e4 => ?_⟩
  · by_cases hk : i = k
    · subst hk
      rw [List.getElem?_set_self hl] at e
      cases e
      exact ⟨p, vs, hs, upd_same, r, h4, h5, h6, hz⟩
    · rw [List.getElem?_set_ne hk] at e
      have q := s.slot k x e
      cases x with
      | un => trivial
      | im d => exact q
      | ol ds' =>
        obtain ⟨p', vs', g1, g2, g3⟩ := q
        refine ⟨p', vs', g1, ?_, g3⟩
        have npp : p' ≠ p := fun z => by
          subst z
          exact s.dist i k p' (.ol es) (.ol ds') hk hi e rfl rfl hs g1
        rw [upd_ne npp]
        exact g2
      | od ds' =>
        obtain ⟨p', vs', g1, g2, g3⟩ := q
        refine ⟨p', vs', g1, ?_, g3⟩
        have npp : p' ≠ p := fun z => by
          subst z
          exact s.dist i k p' (.ol es) (.od ds') hk hi e rfl rfl hs g1
        rw [upd_ne npp]
        exact g2
      | oi c ds' =>
        obtain ⟨p', dx', vs', g1, g2, g3⟩ := q
        refine ⟨p', dx', vs', g1, ?_, g3⟩
        have npp : p' ≠ p := fun z => by
          subst z
          exact s.dist i k p' (.ol es) (.oi c ds') hk hi e rfl rfl hs g1
        rw [upd_ne npp]
        exact g2
  · have tgt : ∀ (k : Nat) (dk : Slot), (ρ.set i (.ol ds))[k]? = some dk → isOwn dk = true → ∃ d', ρ[k]? = some d' ∧ isOwn d' = true := fun k dk e o => by
      by_cases hk : i = k
      · subst hk
        exact ⟨.ol es, hi, rfl⟩
      · rw [List.getElem?_set_ne hk] at e
        exact ⟨dk, e, o⟩
    obtain ⟨d1, q1, p1⟩ := tgt k dk e1 o1
    obtain ⟨d2, q2, p2⟩ := tgt l dl e2 o2
    exact s.dist k l q d1 d2 hkl q1 q2 p1 p2 e3 e4
/-- a field of an instance of one's own is set -/
theorem Sig.mutI {i : Nat} {p dx : Addr} {c : Str} {vs : List (Str × V)} {ds es : List (Str × D)} (s : Sig K am Hf H H0 σ ρ) (hi : ρ[i]? = some (.oi c es)) (hs : σ[i]? = some (some (.ref p))) (hn : vs.map (·.1) = ds.map (·.1)) (na : ∀ f ∈ ds.map (·.1), NoAttr K (He.ga K c) f) (r : RepL K am Hf (vs.map (·.2)) (ds.map (·.2))) : Sig K am Hf (upd H p (.ins (He.ga K c) dx vs)) H0 σ (ρ.set i (.oi c ds)) := by
  obtain ⟨p', dx', us, h1, h2, h3, h4, h5, h6, h7, h8, h9⟩ := s.slot i _ hi
  rw [hs] at h1
  cases h1
  have hl : i < ρ.length := (List.getElem?_eq_some_iff.mp hi).1
  refine ⟨by rw [List.length_set]; exact s.len, fun k x e => ?_, fun k l q dk dl hkl e1 e2 o1 o2 e3 e4 => ?_⟩
  · by_cases hk : i = k
    · subst hk
      rw [List.getElem?_set_self hl] at e
      cases e
      exact ⟨p, dx, vs, hs, upd_same, r, h4, h5, h6, hn, h8, na⟩
    · rw [List.getElem?_set_ne hk] at e
      have q := s.slot k x e
      cases x with
      | un => trivial
      | im d => exact q
      | ol ds' =>
        obtain ⟨p', vs', g1, g2, g3⟩ := q
        refine ⟨p', vs', g1, ?_, g3⟩
        have npp : p' ≠ p := fun z => by
          subst z
          exact s.dist i k p' (.oi c es) (.ol ds') hk hi e rfl rfl hs g1
        rw [upd_ne npp]
        exact g2
      | od ds' =>
        obtain ⟨p', vs', g1, g2, g3⟩ := q
        refine ⟨p', vs', g1, ?_, g3⟩
        have npp : p' ≠ p := fun z => by
          subst z
          exact s.dist i k p' (.oi c es) (.od ds') hk hi e rfl rfl hs g1
        rw [upd_ne npp]
        exact g2
      | oi c' ds' =>
        obtain ⟨p', dx', vs', g1, g2, g3⟩ := q
        refine ⟨p', dx', vs', g1, ?_, g3⟩
        have npp : p' ≠ p := fun z => by
          subst z
          exact s.dist i k p' (.oi c es) (.oi c' ds') hk hi e rfl rfl hs g1
        rw [upd_ne npp]
        exact g2
  · have tgt : ∀ (k : Nat) (dk : Slot), (ρ.set i (.oi c ds))[k]? = some dk → isOwn dk = true → ∃ d', ρ[k]? = some d' ∧ isOwn d' = true := fun k dk e o => by
      by_cases hk : i = k
      · subst hk
        exact ⟨.oi c es, hi, rfl⟩
      · rw [List.getElem?_set_ne hk] at e
        exact ⟨dk, e, o⟩
    obtain ⟨d1, q1, p1⟩ := tgt k dk e1 o1
    obtain ⟨d2, q2, p2⟩ := tgt l dl e2 o2
    exact s.dist k l q d1 d2 hkl q1 q2 p1 p2 e3 e4
/-- .. is frozen -/
theorem Sig.frz {i : Nat} {p : Addr} {vs : List V} {ds : List D} (s : Sig K am Hf H H0 σ ρ) (hi : ρ[i]? = some (.ol ds)) (hs : σ[i]? = some (some (.ref p))) (hp : H p = some (.lst vs)) (r : RepL K am Hf vs ds) (nf : Hf p = none) (hz : ds.length ≤ line) : Sig K am (upd Hf p (.lst vs)) H H0 σ (ρ.set i (.im (.lst ds))) := by
  have sm : Same Hf (upd Hf p (.lst vs)) := fun b u e => by
    rw [upd_ne (ne_of_none e nf)]; exact e
  have hl : i < ρ.length := (List.getElem?_eq_some_iff.mp hi).1
  refine ⟨by rw [List.length_set]; exact s.len, fun k x e => ?_, fun k l q dk dl hkl e1 e2 o1 o2 e3 e4 => ?_⟩
  · by_cases hk : i = k
    · subst hk
      rw [List.getElem?_set_self hl] at e
      cases e
      exact ⟨.ref p, hs, .lst hz upd_same (r.mono (.refl _) sm)⟩
    · rw [List.getElem?_set_ne hk] at e
      have q := s.slot k x e
      cases x with
      | un => trivial
      | im d =>
        obtain ⟨v, g1, g2⟩ := q
        exact ⟨v, g1, g2.mono (.refl _) sm⟩
      | ol ds' =>
        obtain ⟨p', vs', g1, g2, g3, g4, g5⟩ := q
        refine ⟨p', vs', g1, g2, g3.mono (.refl _) sm, ?_, g5⟩
        have npp : p' ≠ p := fun z => by
          subst z
          exact s.dist i k p' (.ol ds) (.ol ds') hk hi e rfl rfl hs g1
        rw [upd_ne npp]
        exact g4
      | od ds' =>
        obtain ⟨p', vs', g1, g2, g3, g4, g5⟩ := q
        refine ⟨p', vs', g1, g2, g3.mono (.refl _) sm, ?_, g5⟩
        have npp : p' ≠ p := fun z => by
          subst z
          exact s.dist i k p' (.ol ds) (.od ds') hk hi e rfl rfl hs g1
        rw [upd_ne npp]
        exact g4
      | oi c ds' =>
        obtain ⟨p', dx', vs', g1, g2, g3, g4, g5⟩ := q
        refine ⟨p', dx', vs', g1, g2, g3.mono (.refl _) sm, ?_, g5⟩
        have npp : p' ≠ p := fun z => by
          subst z
          exact s.dist i k p' (.ol ds) (.oi c ds') hk hi e rfl rfl hs g1
        rw [upd_ne npp]
        exact g4
  · have tgt : ∀ (k : Nat) (dk : Slot), (ρ.set i (.im (.lst ds)))[k]? = some dk → isOwn dk = true → ρ[k]? = some dk := fun k dk e o => by
      by_cases hk : i = k
      · subst hk
        rw [List.getElem?_set_self hl] at e
        cases e
        cases o
      · rw [List.getElem?_set_ne hk] at e
        exact e
    exact s.dist k l q dk dl hkl (tgt k dk e1 o1) (tgt l dl e2 o2) o1 o2 e3 e4
/-- one name changes, or what stands at p, which no other own name has -/
theorem Sig.at {Hf' H' : Hp} {i : Nat} {p : Addr} {x : Option V} {sl : Slot} (s : Sig K am Hf H H0 σ ρ) (sm : Same Hf Hf') (hH : ∀ q, q ≠ p → H' q = H q) (hF : ∀ q, q ≠ p → Hf' q = Hf q)
    (hp : ∀ (k : Nat) dk, k ≠ i → ρ[k]? = some dk → isOwn dk = true → σ[k]? ≠ some (some (.ref p))) (ok : i < ρ.length → SlotOk K am Hf' H' H0 (σ.set i x) i sl) (ad : isOwn sl = true → x = some (.ref p)) : Sig K am Hf' H' H0 (σ.set i x) (ρ.set i sl) := by
  have back : ∀ (j : Nat) (z : Slot), (ρ.set i sl)[j]? = some z → (j = i ∧ z = sl) ∨ (j ≠ i ∧ ρ[j]? = some z) := fun j z e => by
    by_cases h : i = j
    · subst h
      have hl : i < ρ.length := by
        have := (List.getElem?_eq_some_iff.mp e).1
        rwa [List.length_set] at this
      rw [List.getElem?_set_self hl] at e
      cases e
      exact .inl ⟨rfl, rfl⟩
    · rw [List.getElem?_set_ne h] at e
      exact .inr ⟨fun z => h z.symm, e⟩
  have own : ∀ (j : Nat) (q : Addr), j = i → isOwn sl = true → (σ.set i x)[j]? = some (some (V.ref q)) → q = p := fun j q e o h => by
    subst e
    have hl : j < σ.length := by
      have := (List.getElem?_eq_some_iff.mp h).1
      rwa [List.length_set] at this
    rw [List.getElem?_set_self hl, ad o] at h
    cases h
    rfl
  refine ⟨len_set _ _ _ _ _ s.len, fun j z e => ?_, fun j l q dj dl hjl e1 e2 o1 o2 e3 e4 => ?_⟩
  · rcases back j z e with ⟨rfl, rfl⟩ | ⟨hn, e⟩
    · refine ok ?_
      have := (List.getElem?_eq_some_iff.mp ‹_›).1
      rwa [List.length_set] at this
    · have q := s.slot j z e
      have es : (σ.set i x)[j]? = σ[j]? := List.getElem?_set_ne (fun z => hn z.symm)
      cases z with
      | un => trivial
      | im d =>
        obtain ⟨v, h1, h2⟩ := q
        exact ⟨v, by rw [es]; exact h1, h2.mono (.refl _) sm⟩
      | ol ds =>
        obtain ⟨a, vs, h1, h2, h3, h4, h5, h6⟩ := q
        have ne : a ≠ p := fun z => hp j _ hn e rfl (z ▸ h1)
        exact ⟨a, vs, by rw [es]; exact h1, by rw [hH a ne]; exact h2, h3.mono (.refl _) sm, by rw [hF a ne]; exact h4, h5, h6⟩
      | od ds =>
        obtain ⟨a, vs, h1, h2, h3, h4, h5, h6⟩ := q
        have ne : a ≠ p := fun z => hp j _ hn e rfl (z ▸ h1)
        exact ⟨a, vs, by rw [es]; exact h1, by rw [hH a ne]; exact h2, h3.mono (.refl _) sm, by rw [hF a ne]; exact h4, h5, h6⟩
      | oi c ds =>
        obtain ⟨a, dx, vs, h1, h2, h3, h4, h5, h6⟩ := q
        have ne : a ≠ p := fun z => hp j _ hn e rfl (z ▸ h1)
        exact ⟨a, dx, vs, by rw [es]; exact h1, by rw [hH a ne]; exact h2, h3.mono (.refl _) sm, by rw [hF a ne]; exact h4, h5, h6⟩
  · rcases back j dj e1 with ⟨ej, rfl⟩ | ⟨nj, q1⟩
    · rcases back l dl e2 with ⟨el, _⟩ | ⟨nl, q2⟩
      · exact hjl (ej.trans el.symm)
      · have := own j q ej o1 e3
        subst this
        rw [List.getElem?_set_ne (fun z => nl z.symm)] at e4
        exact hp l dl nl q2 o2 e4
    · rcases back l dl e2 with ⟨el, rfl⟩ | ⟨nl, q2⟩
      · have := own l q el o2 e4
        subst this
        rw [List.getElem?_set_ne (fun z => nj z.symm)] at e3
        exact hp j dj nj q1 o1 e3
      · rw [List.getElem?_set_ne (fun z => nj z.symm)] at e3
        rw [List.getElem?_set_ne (fun z => nl z.symm)] at e4
        exact s.dist j l q dj dl hjl q1 q2 o1 o2 e3 e4
theorem set_get {α : Type} {l : List α} {i : Nat} {x : α} (h : l[i]? = some x) : l.set i x = l := by
  refine List.ext_getElem? fun k => ?_
  by_cases e : i = k
  · subst e
    rw [List.getElem?_set_self (List.getElem?_eq_some_iff.mp h).1, h]
  · rw [List.getElem?_set_ne e]
/-- a new dict of one's own gets a name -/
theorem Sig.ownK {i : Nat} {p : Addr} {vs : List (Key × V)} {ds : List (Key × D)} (s : Sig K am Hf H H0 σ ρ) (hp : H p = some (.dK vs)) (r : RepK K am Hf vs ds) (nf : Hf p = none) (na : p ∉ am) (n0 : H0 p = none)
    (hd : ∀ (k : Nat) dk, ρ[k]? = some dk → isOwn dk = true → σ[k]? ≠ some (some (.ref p))) : Sig K am Hf H H0 (σ.set i (some (.ref p))) (ρ.set i (.od ds)) :=
  s.at (p := p) (.refl _) (fun _ _ => rfl) (fun _ _ => rfl) (fun k dk _ e o => hd k dk e o) (fun hl => ⟨p, vs, by rw [List.getElem?_set_self (by rw [← s.len]; exact hl)], hp, r, nf, na, n0⟩) fun _ => rfl
/-- a dict of one's own is changed -/
theorem Sig.mutK {i : Nat} {p : Addr} {vs : List (Key × V)} {ds es : List (Key × D)} (s : Sig K am Hf H H0 σ ρ) (hi : ρ[i]? = some (.od es)) (hs : σ[i]? = some (some (.ref p))) (r : RepK K am Hf vs ds) : Sig K am Hf (upd H p (.dK vs)) H0 σ (ρ.set i (.od ds)) := by
  obtain ⟨p', us, h1, h2, h3, h4, h5, h6⟩ := s.slot i _ hi
  rw [hs] at h1
  cases h1
  have := s.at (i := i) (p := p) (x := some (.ref p)) (sl := .od ds) (H' := upd H p (.dK vs)) (.refl _) (fun q hq => upd_ne hq) (fun _ _ => rfl) (fun k dk hk e o z => s.dist k i p dk (.od es) hk e hi o rfl z hs) (fun hl => ⟨p, vs, by rw [List.getElem?_set_self (by rw [← s.len]; exact hl)], upd_same, r, h4, h5, h6⟩) fun _ => rfl
  rw [set_get hs] at this
  exact this
/-- .. is frozen -/
theorem Sig.frzK {i : Nat} {p : Addr} {vs : List (Key × V)} {ds : List (Key × D)} (s : Sig K am Hf H H0 σ ρ) (hi : ρ[i]? = some (.od ds)) (hs : σ[i]? = some (some (.ref p))) (hp : H p = some (.dK vs)) (r : RepK K am Hf vs ds) (nf : Hf p = none) : Sig K am (upd Hf p (.dK vs)) H H0 σ (ρ.set i (.im (.dct ds))) := by
  have sm : Same Hf (upd Hf p (.dK vs)) := fun b u e => by
    rw [upd_ne (ne_of_none e nf)]; exact e
  have := s.at (i := i) (p := p) (x := some (.ref p)) (sl := .im (.dct ds)) (Hf' := upd Hf p (.dK vs)) sm (fun _ _ => rfl) (fun q hq => upd_ne hq) (fun k dk hk e o z => s.dist k i p dk (.od ds) hk e hi o rfl z hs) (fun hl => ⟨.ref p, by rw [List.getElem?_set_self (by rw [← s.len]; exact hl)], .dct (.inl upd_same) (r.mono (.refl _) sm)⟩) fun h => by cases h
  rw [set_get hs] at this
  exact this
end
end PF
namespace PF
open PySem L2
def DenS (K : PySem.W.Frag) (cl : Nat → Addr) (C : Calls) (Wn : Nat) (s : S) : Prop :=
  ∀ {W : WX} {ρ : Env} {st : Store} {am0 amL am : List Addr} {Hf0 HfL Hf H : Hp} {H0 : B0} {σ : St} {Dn : Ends}, FmL am0 Hf0 H0 amL HfL am Hf H → Wf K am st Hf H → Sig K am Hf H H0 σ ρ → PostS K cl (ex C Wn s ρ st) am0 Hf0 H0 amL HfL Dn W → tS K (spF K cl C) W s Dn σ H
section
variable {K : PySem.W.Frag} {cl : Nat → Addr} {C : Calls} {Wn : Nat}
theorem PostS.low {r : O Fl} {am0 amL am : List Addr} {Hf0 HfL Hf H : Hp} {H0 : B0} {Dn : Ends} {W : WX} (f : FmL am0 Hf0 H0 amL HfL am Hf H) (P : PostS K cl r am0 Hf0 H0 amL HfL Dn W) : PostS K cl r am0 Hf0 H0 am Hf Dn W := by
  cases r with
  | exc _ _ => exact P
  | bad => exact P
  | ok fl st =>
    cases fl with
    | next ρ => exact fun σ am1 Hf1 H1 g => P σ am1 Hf1 H1 (f.low g)
    | brk ρ => exact fun σ am1 Hf1 H1 g => P σ am1 Hf1 H1 (f.low g)
    | cnt ρ => exact fun σ am1 Hf1 H1 g => P σ am1 Hf1 H1 (f.low g)
    | ret d => exact fun v am1 Hf1 H1 g => P v am1 Hf1 H1 (f.low g)
    | rse x ρ => exact fun σ c dd am1 Hf1 H1 g => P σ c dd am1 Hf1 H1 (f.low g)
    | retf ds => exact fun p vs am1 Hf1 H1 g => P p vs am1 Hf1 H1 (f.low g)
/-- what a for asks behind its iterable -/
def ForR (g : TG) (tb : TS) (D : Ends) (σ : St) : It → Hp → Prop := fun J H1 => ∃ W : Nat → Nat → St → Hp → Prop, (∃ m, W 0 m σ H1) ∧ ∀ i m σ H, W i m σ H →
  (J.stop i H ∧ D.nx σ H) ∨ (J.go i H ∧ ∃ N : St → Hp → Prop, (∀ σ' H', N σ' H' → ∃ m', m' < m ∧ W (i + 1) m' σ' H') ∧ ∀ x H', J.yld i H x H' → g x σ H' fun σ2 H2 => tb { D with nx := N, ct := N, bk := D.nx } σ2 H2)
theorem for_gen {J : It} {n : Nat} {G : Hp → Prop} {Y : Nat → Hp → V → Hp → Prop} {am0 amL am : List Addr} {Hf0 HfL Hf H : Hp} {H0 : B0} {st : Store} {W : WX} {σ : St} {ρ : Env} {Dn : Ends} {j : Nat} {b : S} {ds : List D}
    (ihb : DenS K cl C Wn b) (w : Walk J n G Y) (hn : n = ds.length) (f0 : FmL am0 Hf0 H0 amL HfL am Hf H) (w0 : Wf K am st Hf H) (s0 : Sig K am Hf H H0 σ ρ)
    (hY : ∀ i H' x H'', i < n → Y i H' x H'' → H'' = H' ∧ ∃ d, ds[i]? = some d ∧ Rep K am Hf x d) (hG : ∀ H', Same Hf H' → G H')
    (P : PostS K cl (forO (fun x ρ st => (lift (setS ρ j x) st).bind fun ρ st => ex C Wn b ρ st) ds ρ st) am0 Hf0 H0 amL HfL Dn W) : ForR (gName j) (tS K (spF K cl C) W b) Dn σ J H := by
  subst hn
  refine for_it w (fun i σ' H' => ∃ ρ' st' am' Hf', FmL am0 Hf0 H0 am Hf am' Hf' H' ∧ Wf K am' st' Hf' H' ∧ Sig K am' Hf' H' H0 σ' ρ' ∧
      PostS K cl (forO (fun x ρ st => (lift (setS ρ j x) st).bind fun ρ st => ex C Wn b ρ st) (ds.drop i) ρ' st') am0 Hf0 H0 amL HfL Dn W) ⟨ρ, st, am, Hf, f0.here, w0, s0, P⟩ ?_ ?_ ?_
  · rintro i σ' H' _ ⟨ρ', st', am', Hf', fm, wf, sg, _⟩
    exact hG H' (fm.hf.trans wf.sub)
  · rintro i x σ' H' H'' hi ⟨ρ', st', am', Hf', fm, wf, sg, P⟩ y
    obtain ⟨rfl, d, hd, rx⟩ := hY i H' x H'' hi y
    have rx' := rx.mono fm.pre fm.hf
    have hdrop : ds.drop i = d :: ds.drop (i + 1) := by
      obtain ⟨h1, h2⟩ := List.getElem?_eq_some_iff.mp hd
      rw [← h2]
      exact List.drop_eq_getElem_cons h1
    rw [hdrop, forO] at P
    refine bindFl P fun fl st1 e P1 => ?_
    show tS K (spF K cl C) W b _ (σ'.set j (some x)) H''
    have e' : (lift (setS ρ' j d) st').bind (fun ρ st => ex C Wn b ρ st) = .ok fl st1 := e
    cases hs : setS ρ' j d with
    | none => rw [hs] at e'; cases e'
    | some ρ2 =>
      rw [hs] at e'
      have e2 : ex C Wn b ρ2 st' = .ok fl st1 := e'
      have hρ2 : ρ2 = ρ'.set j (.im d) := by
        unfold setS at hs
        split at hs
        · cases hs; rfl
        · cases hs
      subst hρ2
      refine ihb (am0 := am0) (Hf0 := Hf0) (H0 := H0) fm.here wf (sg.set rx') ?_
      rw [e2]
      cases fl with
      | next ρ3 => exact fun σ3 am3 Hf3 H3 fm3 wf3 sg3 => ⟨ρ3, st1, am3, Hf3, fm.low fm3, wf3, sg3, P1⟩
      | cnt ρ3 => exact fun σ3 am3 Hf3 H3 fm3 wf3 sg3 => ⟨ρ3, st1, am3, Hf3, fm.low fm3, wf3, sg3, P1⟩
      | brk ρ3 => exact PostS.low (r := .ok (.next ρ3) st1) (f0.low fm) P1
      | ret d3 => exact PostS.low (r := .ok (.ret d3) st1) (f0.low fm) P1
      | rse x3 ρ3 => exact PostS.low (r := .ok (.rse x3 ρ3) st1) (f0.low fm) P1
      | retf d3 => exact PostS.low (r := .ok (.retf d3) st1) (f0.low fm) P1
  · rintro σ' H' ⟨ρ', st', am', Hf', fm, wf, sg, P⟩
    rw [List.drop_length, forO] at P
    exact P σ' am' Hf' H' (f0.low fm) wf sg
theorem for_genT {J : It} {G : Hp → Prop} {Y : Nat → Hp → V → Hp → Prop} {am0 amL am : List Addr} {Hf0 HfL Hf H : Hp} {H0 : B0} {st : Store} {W : WX} {σ : St} {ρ : Env} {Dn : Ends} {is : List Nat} {b : S} {ds : List D}
    (ihb : DenS K cl C Wn b) (src : Src K am Hf ds J G Y) (f0 : FmL am0 Hf0 H0 amL HfL am Hf H) (w0 : Wf K am st Hf H) (s0 : Sig K am Hf H H0 σ ρ)
    (P : PostS K cl (forO (fun x ρ st => (lift (setT ρ is x) st).bind fun ρ st => ex C Wn b ρ st) ds ρ st) am0 Hf0 H0 amL HfL Dn W) : ForR (gTgt K is) (tS K (spF K cl C) W b) Dn σ J H := by
  refine for_it src.w (fun i σ' H' => ∃ ρ' st' am' Hf', FmL am0 Hf0 H0 am Hf am' Hf' H' ∧ Wf K am' st' Hf' H' ∧ Sig K am' Hf' H' H0 σ' ρ' ∧
      PostS K cl (forO (fun x ρ st => (lift (setT ρ is x) st).bind fun ρ st => ex C Wn b ρ st) (ds.drop i) ρ' st') am0 Hf0 H0 amL HfL Dn W) ⟨ρ, st, am, Hf, f0.here, w0, s0, P⟩ ?_ ?_ ?_
  · rintro i σ' H' _ ⟨ρ', st', am', Hf', fm, wf, sg, _⟩
    exact src.g H' (fun b u e => wf.sub _ _ (fm.hf _ _ e))
  · rintro i x σ' H' H'' hi ⟨ρ', st', am', Hf', fm, wf, sg, P⟩ y
    obtain ⟨Hf'', fy, wy, d, hd, rx⟩ := src.y i H' x H'' hi y am' st' Hf' wf fm.pre fm.hf
    have hdrop : ds.drop i = d :: ds.drop (i + 1) := by
      obtain ⟨h1, h2⟩ := List.getElem?_eq_some_iff.mp hd
      rw [← h2]
      exact List.drop_eq_getElem_cons h1
    rw [hdrop, forO] at P
    refine bindFl P fun fl st1 e P1 => ?_
    have e' : (lift (setT ρ' is d) st').bind (fun ρ st => ex C Wn b ρ st) = .ok fl st1 := e
    cases hs : setT ρ' is d with
    | none => rw [hs] at e'; cases e'
    | some ρ2 =>
      rw [hs] at e'
      have e2 : ex C Wn b ρ2 st' = .ok fl st1 := e'
      refine tgt_den (us := is) (fun _ h => h) wy (sg.next fy) rx hs fun σ2 s2 _ => ?_
      have fm2 : FmL am0 Hf0 H0 am Hf am' Hf'' H'' := fm.trans fy
      refine ihb (am0 := am0) (Hf0 := Hf0) (H0 := H0) fm2.here wy s2 ?_
      rw [e2]
      cases fl with
      | next ρ3 => exact fun σ3 am3 Hf3 H3 fm3 wf3 sg3 => ⟨ρ3, st1, am3, Hf3, fm2.low fm3, wf3, sg3, P1⟩
      | cnt ρ3 => exact fun σ3 am3 Hf3 H3 fm3 wf3 sg3 => ⟨ρ3, st1, am3, Hf3, fm2.low fm3, wf3, sg3, P1⟩
      | brk ρ3 => exact PostS.low (r := .ok (.next ρ3) st1) (f0.low fm2) P1
      | ret d3 => exact PostS.low (r := .ok (.ret d3) st1) (f0.low fm2) P1
      | rse x3 ρ3 => exact PostS.low (r := .ok (.rse x3 ρ3) st1) (f0.low fm2) P1
      | retf d3 => exact PostS.low (r := .ok (.retf d3) st1) (f0.low fm2) P1
  · rintro σ' H' ⟨ρ', st', am', Hf', fm, wf, sg, P⟩
    rw [List.drop_length, forO] at P
    exact P σ' am' Hf' H' (f0.low fm) wf sg
/-- the ends of a statement in a world where the dict at p is locked -/
def lkEnds (Dn : Ends) (p : Addr) (od : Obj) (vs : List (Key × V)) : Ends :=
  ⟨fun σ' H' => H' p = some (.frz od (.dK vs)) ∧ Dn.nx σ' (upd H' p (.dK vs)), fun v H' => H' p = some (.frz od (.dK vs)) ∧ Dn.rt v (upd H' p (.dK vs)), fun σ' H' => H' p = some (.frz od (.dK vs)) ∧ Dn.bk σ' (upd H' p (.dK vs)), fun σ' H' => H' p = some (.frz od (.dK vs)) ∧ Dn.ct σ' (upd H' p (.dK vs))⟩
theorem PostS.lock {r : O Fl} {am0 amL am : List Addr} {Hf0 HfL Hf H : Hp} {H0 : B0} {Dn : Ends} {W : WX} {st : Store} {p : Addr} {vs : List (Key × V)} {od : Obj} (hp : Hf p = some (.dK vs)) (w : Wf K am st Hf H) (f0 : FmL am0 Hf0 H0 amL HfL am Hf H)
    (P : PostS K cl (noR r) am0 Hf0 H0 amL HfL Dn W) : PostS K cl r am0 (sw p (.frz od (.dK vs)) Hf0) ⟨sw p (.frz od (.dK vs)) H0.h, H0.sf⟩ am (sw p (.frz od (.dK vs)) Hf) (lkEnds Dn p od vs) W0 := by
  have hH := w.sub _ _ hp
  have na : p ∉ am := fun m => by
    rw [w.off _ m] at hp
    cases hp
  have na0 : p ∉ am0 := fun m => na (f0.fm.pre.mem m)
  have u0 : ∀ x, H0.h p = some x → x = .dK vs := fun x e => by
    have := f0.fm.keep _ _ e na0
    rw [hH] at this
    cases this
    rfl
  have uf0 : ∀ x, Hf0 p = some x → x = .dK vs := fun x e => by
    have := f0.fm.hf _ _ e
    rw [hp] at this
    cases this
    rfl
  have key : ∀ {am' Hf' H' st'}, FmL am0 (sw p (.frz od (.dK vs)) Hf0) ⟨sw p (.frz od (.dK vs)) H0.h, H0.sf⟩ am (sw p (.frz od (.dK vs)) Hf) am' Hf' H' → Wf K am' st' Hf' H' →
      H' p = some (.frz od (.dK vs)) ∧ (∀ x, Hf' p = some x → IsK vs x) ∧ Hf' p = some (.frz od (.dK vs)) ∧ FmL am0 Hf0 H0 am Hf am' (sw p (.dK vs) Hf') (sw p (.dK vs) H') ∧ Wf K am' st' (sw p (.dK vs) Hf') (sw p (.dK vs) H') := fun {am' Hf' H' st'} fm wf => by
    have hf' : Hf' p = some (.frz od (.dK vs)) := fm.hf _ _ (sw_at hp)
    have un : ∀ x, Hf' p = some x → IsK vs x := fun x e => by
      rw [hf'] at e
      cases e
      exact .inr ⟨od, rfl⟩
    refine ⟨wf.sub _ _ hf', un, hf', ⟨fm.fm.unsw uf0 u0, fm.pre, ?_⟩, wf.sw (.inl rfl) un hf'⟩
    have := Same.sw (p := p) (o := .dK vs) fm.hf
    rw [sw_sw fun x e => by rw [hp] at e; cases e; rfl] at this
    exact this
  have sg : ∀ {am' Hf' H' st' σ ρ}, Sig K am' Hf' H' ⟨sw p (.frz od (.dK vs)) H0.h, H0.sf⟩ σ ρ → (∀ x, Hf' p = some x → IsK vs x) → Hf' p = some (.frz od (.dK vs)) → Wf K am' st' Hf' H' → Sig K am' (sw p (.dK vs) Hf') (sw p (.dK vs) H') H0 σ ρ := fun {am' Hf' H' st' σ ρ} s un hf' wf => by
    have := s.lk (st := st') (o := .dK vs) (.inl rfl) un hf'
    rw [sw_sw u0] at this
    exact this
  cases r with
  | exc _ _ => exact P
  | bad => exact P
  | ok fl st1 =>
    cases fl with
    | next ρ =>
      intro σ am' Hf' H' fm wf s
      obtain ⟨h1, un, hf', fm', wf'⟩ := key fm wf
      refine ⟨h1, ?_⟩
      rw [← sw_upd h1]
      exact P σ am' _ _ (f0.low fm') wf' (sg s un hf' wf)
    | brk ρ =>
      intro σ am' Hf' H' fm wf s
      obtain ⟨h1, un, hf', fm', wf'⟩ := key fm wf
      refine ⟨h1, ?_⟩
      rw [← sw_upd h1]
      exact P σ am' _ _ (f0.low fm') wf' (sg s un hf' wf)
    | cnt ρ =>
      intro σ am' Hf' H' fm wf s
      obtain ⟨h1, un, hf', fm', wf'⟩ := key fm wf
      refine ⟨h1, ?_⟩
      rw [← sw_upd h1]
      exact P σ am' _ _ (f0.low fm') wf' (sg s un hf' wf)
    | ret d =>
      intro v am' Hf' H' fm wf r
      obtain ⟨h1, un, hf', fm', wf'⟩ := key fm wf
      refine ⟨h1, ?_⟩
      rw [← sw_upd h1]
      exact P v am' _ _ (f0.low fm') wf' (r.sw (.inl rfl) un)
    | rse x ρ => exact P.elim
    | retf ds =>
      intro q us am' Hf' H' fm wf n0 hq nf na' r hz
      obtain ⟨h1, un, hf', fm', wf'⟩ := key fm wf
      refine ⟨h1, ?_⟩
      rw [← sw_upd h1]
      have ne : q ≠ p := fun z => by
        subst z
        rw [hf'] at nf
        cases nf
      exact P q us am' _ _ (f0.low fm') wf' (sw_none.mp n0) (by rw [sw_ne ne]; exact hq) (sw_none.mpr nf) na' (r.sw (.inl rfl) un) hz
theorem FmL.lk {am0 amL am : List Addr} {Hf0 HfL Hf H : Hp} {H0 : B0} {p : Addr} {o : HO} (f0 : FmL am0 Hf0 H0 amL HfL am Hf H) : FmL am0 (sw p o Hf0) ⟨sw p o H0.h, H0.sf⟩ amL (sw p o HfL) am (sw p o Hf) (sw p o H) := ⟨f0.fm.sw, f0.pre, Same.sw f0.hf⟩
theorem fresh_lst {e : E} (hf : fresh e = true) : ∀ {ρ st d st'}, ev C e ρ st = .ok d st' → ∃ ds, d = .lst ds := by
  intro ρ st d st' h
  cases e with
  | lst a =>
    refine bind_lst (fun xs st d st' e => ?_) d st' h
    split at e
    · cases e; exact ⟨_, rfl⟩
    · cases e
  | lc j src c e =>
    refine bind_lst (fun xs st d st' e => bind_lst (fun ys st d st' e => bind_lst (fun zs st d st' e => ?_) d st' e) d st' e) d st' h
    cases e; exact ⟨_, rfl⟩
  | lcr j a c e =>
    refine bind_lst (fun xs st d st' e => bind_lst (fun ys st d st' e => ?_) d st' e) d st' h
    split at e
    · cases e
    · refine bind_lst (fun zs st d st' e => ?_) d st' e
      cases e; exact ⟨_, rfl⟩
  | lct is k sr a c e =>
    refine bind_lst (fun xs st d st' e => bind_lst (fun ys st d st' e => ?_) d st' e) d st' h
    cases e; exact ⟨_, rfl⟩
  | lc2 j src j1 src1 c e =>
    refine bind_lst (fun xs st d st' e => bind_lst (fun ys st d st' e => bind_lst (fun zs st d st' e => ?_) d st' e) d st' e) d st' h
    split at e
    · cases e; exact ⟨_, rfl⟩
    · cases e
  | callf f a =>
    refine bind_lst (fun xs st d st' e => bind_lst (fun ys st d st' e => bind_lst (fun zs st d st' e => ?_) d st' e) d st' e) d st' h
    cases e; exact ⟨_, rfl⟩
  | mthf g c m o a =>
    refine bind_lst (fun xs st d st' e => ?_) d st' h
    split at e
    · refine bind_lst (fun xs st d st' e => bind_lst (fun ys st d st' e => bind_lst (fun zs st d st' e => ?_) d st' e) d st' e) d st' e
      cases e; exact ⟨_, rfl⟩
    · cases e
  | _ => cases hf
theorem own_ne {am : List Addr} {Hf H : Hp} {H0 : B0} {σ : St} {ρ : Env} {p : Addr} (s : Sig K am Hf H H0 σ ρ) (np : H p = none) : ∀ (k : Nat) dk, ρ[k]? = some dk → isOwn dk = true → σ[k]? ≠ some (some (.ref p)) := fun k dk e o z => by
  cases dk with
  | ol ds =>
    obtain ⟨q, vs, h1, h2, _⟩ := s.slot k _ e
    rw [z] at h1
    cases h1
    rw [np] at h2
    cases h2
  | od ds =>
    obtain ⟨q, vs, h1, h2, _⟩ := s.slot k _ e
    rw [z] at h1
    cases h1
    rw [np] at h2
    cases h2
  | oi c ds =>
    obtain ⟨q, dx, vs, h1, h2, _⟩ := s.slot k _ e
    rw [z] at h1
    cases h1
    rw [np] at h2
    cases h2
  | _ => cases o
end
end PF
namespace PF
open PySem L2
section
variable {K : PySem.W.Frag} {cl : Nat → Addr} {C : Calls} {Wn : Nat}
theorem whl_den {c : E} {b : S} (hc : KfE K c) (ihb : DenS K cl C Wn b) {W : WX} {am0 amL : List Addr} {Hf0 HfL : Hp} {H0 : B0} {Dn : Ends} (m : Nat) {ρ : Env} {st : Store} {am : List Addr} {Hf H : Hp} {σ : St} (f0 : FmL am0 Hf0 H0 amL HfL am Hf H) (w : Wf K am st Hf H) (s : Sig K am Hf H H0 σ ρ)
    (P : PostS K cl (whlO (evT C c) (ex C Wn b) m ρ st) am0 Hf0 H0 amL HfL Dn W) : tWhile (tT K (spF K cl C) W c) (tS K (spF K cl C) W b) Dn σ H := by
  refine ⟨fun m σ' H' => ∃ ρ' st' am' Hf', FmL am0 Hf0 H0 amL HfL am' Hf' H' ∧ Wf K am' st' Hf' H' ∧ Sig K am' Hf' H' H0 σ' ρ' ∧ PostS K cl (whlO (evT C c) (ex C Wn b) m ρ' st') am0 Hf0 H0 amL HfL Dn W, ⟨m, ρ, st, am, Hf, f0, w, s, P⟩, ?_⟩
  rintro m σ' H' ⟨ρ', st', am', Hf', fm, wf, sg, P⟩
  cases m with
  | zero => exact P.elim
  | succ m =>
    rw [whlO] at P
    refine (den c hc).t wf sg (P.thn_ (R := RB) fm sg fun k k' st1 am1 Hf1 H1 f1 g1 w1 e P1 => ?_)
    subst e
    cases k with
    | false =>
      rw [if_neg Bool.false_ne_true] at P1 ⊢
      exact P1 σ' am1 Hf1 H1 f1 w1 (sg.next g1)
    | true =>
      rw [if_pos rfl] at P1 ⊢
      refine ⟨fun σ3 H3 => ∃ ρ' st' am' Hf', FmL am0 Hf0 H0 amL HfL am' Hf' H3 ∧ Wf K am' st' Hf' H3 ∧ Sig K am' Hf' H3 H0 σ3 ρ' ∧ PostS K cl (whlO (evT C c) (ex C Wn b) m ρ' st') am0 Hf0 H0 amL HfL Dn W, fun σ3 H3 h => ⟨m, Nat.lt_succ_self m, h⟩, ?_⟩
      refine bindFl P1 fun fl st2 e P2 => ?_
      refine ihb (am0 := am0) (Hf0 := Hf0) (H0 := H0) (amL := amL) (HfL := HfL) f1 w1 (sg.next g1) ?_
      rw [e]
      cases fl with
      | next ρ3 => exact fun σ3 am3 Hf3 H3 fm3 wf3 sg3 => ⟨ρ3, st2, am3, Hf3, fm3, wf3, sg3, P2⟩
      | cnt ρ3 => exact fun σ3 am3 Hf3 H3 fm3 wf3 sg3 => ⟨ρ3, st2, am3, Hf3, fm3, wf3, sg3, P2⟩
      | brk ρ3 => exact P2
      | ret d3 => exact P2
      | rse x3 ρ3 => exact P2
      | retf d3 => exact P2
theorem olS_eq {ρ : Env} {i : Nat} {ds : List D} (h : olS ρ i = some ds) : ρ[i]? = some (.ol ds) := by
  unfold olS at h
  split at h
  · rename_i ds' hs
    cases h
    exact hs
  · cases h
theorem ownS_eq {ρ ρ' : Env} {i : Nat} {ds : List D} (h : ownS ρ i (.lst ds) = some ρ') : ρ' = ρ.set i (.ol ds) := by
  by_cases hl : i < ρ.length
  · have h : (if i < ρ.length then some (ρ.set i (.ol ds)) else none) = some ρ' := h
    rw [if_pos hl] at h
    cases h
    rfl
  · have h : (if i < ρ.length then some (ρ.set i (.ol ds)) else none) = some ρ' := h
    rw [if_neg hl] at h
    cases h
theorem Fm.store {am : List Addr} {Hf H : Hp} {p : Addr} {o : HO} (hm : p ∈ am) : Fm am Hf H am Hf (upd H p o) where
  pre := .refl _
  hf := .refl _
  keep := fun a u e n => by rw [upd_ne (show a ≠ p from fun z => n (z ▸ hm))]; exact e
  there := fun a u e => by
    by_cases h : a = p
    · subst h; exact ⟨o, upd_same⟩
    · exact ⟨u, by rw [upd_ne h]; exact e⟩
  offF := fun a u e n => n
  offA := fun _ _ _ h => h
/-! ### an except suite -/
theorem XOk.next {am am' : List Addr} {Hf H Hf' H' : Hp} {x : Exn} {c : Value} {dd : Option Addr} (f : Fm am Hf H am' Hf' H') (h : XOk K cl am Hf x c dd) : XOk K cl am' Hf' x c dd := by
  obtain ⟨h1, h2⟩ := h
  refine ⟨h1, ?_⟩
  rcases h2 with h2 | ⟨a, fs, e1, e2, e3, e4⟩
  · exact .inl h2
  · exact .inr ⟨a, fs, e1, f.hf _ _ e2, e3, e4.mono f.pre f.hf⟩
theorem putF_rep {am : List Addr} {Hf : Hp} {f : Str} {v : V} {d : D} : ∀ {fs : List (Str × V)} {ds : List (Str × D)}, fs.map (·.1) = ds.map (·.1) → RepL K am Hf (fs.map (·.2)) (ds.map (·.2)) → Rep K am Hf v d →
    (putF f v fs).map (·.1) = (putFD f d ds).map (·.1) ∧ RepL K am Hf ((putF f v fs).map (·.2)) ((putFD f d ds).map (·.2)) ∧ ∀ g ∈ (putFD f d ds).map (·.1), g = f ∨ g ∈ ds.map (·.1)
  | [], [], _, _, h => ⟨rfl, .cons h .nil, fun g hg => by
    simp [putFD] at hg
    exact .inl hg⟩
  | [], _ :: _, e, _, _ => by simp at e
  | _ :: _, [], e, _, _ => by simp at e
  | (a, u) :: fs, (b, x) :: ds, e, r, h => by
    rw [List.map_cons, List.map_cons, List.cons.injEq] at e
    obtain ⟨e1, e2⟩ := e
    have e1 : a = b := e1
    subst e1
    cases r with
    | cons r1 r2 =>
      unfold putF putFD
      by_cases ha : a = f
      · rw [if_pos ha, if_pos ha]
        refine ⟨by rw [List.map_cons, List.map_cons, e2], .cons h r2, fun g hg => ?_⟩
        exact .inr hg
      · rw [if_neg ha, if_neg ha]
        obtain ⟨q1, q2, q3⟩ := putF_rep (f := f) e2 r2 h
        refine ⟨by rw [List.map_cons, List.map_cons, q1], .cons r1 q2, fun g hg => ?_⟩
        rcases List.mem_cons.mp hg with z | z
        · exact .inr (by rw [z]; exact List.mem_cons_self)
        · rcases q3 g z with z | z
          · exact .inl z
          · exact .inr (List.mem_cons_of_mem _ z)
structure DenH (K : PySem.W.Frag) (cl : Nat → Addr) (k : Option Nat) (ee : Exn) (hx : HX) (e : E) : Prop where
  v : ∀ {ρ : Env} {st : Store} {am : List Addr} {Hf H : Hp} {H0 : B0} {σ : St} {Q : VK}, Wf K am st Hf H → Sig K am Hf H H0 σ ρ → (∀ i, k = some i → σ[i]? = some (some (.ref hx.a))) → XOk K cl am Hf ee hx.cls hx.d → Post K cl (RV K) (evH k ee e ρ st) am Hf H Q (fun _ _ _ => False) → tH K hx e σ H Q
  vs : ∀ {ρ : Env} {st : Store} {am : List Addr} {Hf H : Hp} {H0 : B0} {σ : St} {Q : List V → Hp → Prop}, Wf K am st Hf H → Sig K am Hf H H0 σ ρ → (∀ i, k = some i → σ[i]? = some (some (.ref hx.a))) → XOk K cl am Hf ee hx.cls hx.d → Post K cl (RVs K) (evHs k ee e ρ st) am Hf H Q (fun _ _ _ => False) → tHs K hx e σ H Q
theorem denH {k : Option Nat} {ee : Exn} {hx : HX} : ∀ e : E, DenH K cl k ee hx e := by
  intro e
  induction e with
  | var i =>
    refine ⟨fun w s _ _ P => ?_, fun _ _ _ _ P => P.elim⟩
    obtain ⟨x, hx, P⟩ := P.lift_
    unfold slotD at hx
    split at hx
    · rename_i d hs
      cases hx
      obtain ⟨v, h1, h2⟩ := s.slot i _ hs
      exact ⟨v, h1, P v _ _ _ (.refl _ _ _) w h2⟩
    · cases hx
  | cst d =>
    refine ⟨fun {ρ st am Hf H H0 σ Q} w s _ _ P => ?_, fun _ _ _ _ P => P.elim⟩
    have P : Post K cl (RV K) (if okC d then O.ok d st else .bad) am Hf H Q _ := P
    split at P
    · rename_i h
      exact P _ _ _ _ (.refl _ _ _) w (okC_rep h)
    · exact P.elim
  | exf c f i =>
    refine ⟨fun w s hk xo P => ?_, fun _ _ _ _ P => P.elim⟩
    obtain ⟨x, hq, P2⟩ := P.lift_
    clear P
    split at hq
    · rename_i hc
      obtain ⟨hk1, rfl⟩ := hc
      replace hk := hk _ hk1
      obtain ⟨h1, h2⟩ := xo
      rcases h2 with ⟨h2, _⟩ | ⟨a, fs, e1, e2, e3, e4⟩
      · rw [h2] at hq; cases hq
      · obtain ⟨v, q1, q2⟩ := look_rep e3 e4 hq
        exact ⟨_, hk, rfl, h1, a, fs, v, e1, w.sub _ _ e2, q1, P2 v _ _ _ (.refl _ _ _) w q2⟩
    · cases hq
  | cmp o a b iha ihb =>
    refine ⟨fun {ρ st am Hf H H0 σ Q} w s hk xo P => ?_, fun _ _ _ _ P => P.elim⟩
    have P : Post K cl (RV K) (if isOp o then (evH k ee a ρ st).bind fun x st => (evH k ee b ρ st).bind fun y st => lift ((cmpD o x y).map .bl) st else .bad) am Hf H Q _ := P
    split at P
    · refine iha.v w s hk xo (P.step (.refl _ _ _) fun v x st1 am1 Hf1 H1 f1 _ w1 r1 P1 => ?_)
      refine ihb.v w1 (s.next f1) hk (xo.next f1) (P1.step f1 fun u y st2 am2 Hf2 H2 f2 g2 w2 r2 P2 => ?_)
      obtain ⟨z, hz, P3⟩ := P2.map_
      exact cmp_den w2 (.inl (r1.mono g2.pre g2.hf)) (.inl r2) hz (P3 _ _ _ _ f2 w2 (.bl _))
    · exact P.elim
  | tup a iha =>
    refine ⟨fun w s hk xo P => ?_, fun _ _ _ _ P => P.elim⟩
    refine iha.vs w s hk xo (P.step (.refl _ _ _) fun vs xs st1 am1 Hf1 H1 f1 _ w1 r1 P1 => ?_)
    split at P1
    · rename_i hl
      exact ⟨by rw [r1.length, ← line_eq]; exact hl, new_tup w1 r1 hl (P1.fin f1)⟩
    · exact P1.elim
  | lst a iha =>
    refine ⟨fun w s hk xo P => ?_, fun _ _ _ _ P => P.elim⟩
    refine iha.vs w s hk xo (P.step (.refl _ _ _) fun vs xs st1 am1 Hf1 H1 f1 _ w1 r1 P1 => ?_)
    split at P1
    · rename_i hl
      exact ⟨by rw [r1.length, ← line_eq]; exact hl, new_lst w1 r1 hl (P1.fin f1)⟩
    · exact P1.elim
  | nil => exact ⟨fun _ _ _ _ P => P.elim, fun w s _ _ P => P [] _ _ _ (.refl _ _ _) w .nil⟩
  | cons a b iha ihb =>
    refine ⟨fun _ _ _ _ P => P.elim, fun w s hk xo P => ?_⟩
    refine iha.v w s hk xo (P.step (.refl _ _ _) fun v x st1 am1 Hf1 H1 f1 _ w1 r1 P1 => ?_)
    refine ihb.vs w1 (s.next f1) hk (xo.next f1) (P1.step f1 fun vs xs st2 am2 Hf2 H2 f2 g2 w2 r2 P2 => ?_)
    exact P2 _ _ _ _ f2 w2 (.cons (r1.mono g2.pre g2.hf) r2)
  | _ => exact ⟨fun _ _ _ _ P => P.elim, fun _ _ _ _ P => P.elim⟩
theorem denS : ∀ s : S, (∀ f ∈ fcS s, f.ok K = true) → DenS K cl C Wn s := by
  intro s
  induction s with
  | skip => exact fun _ {W ρ st am0 amL am Hf0 HfL Hf H H0 σ Dn} f0 w s P => P σ am Hf H f0 w s
  | seq a b iha ihb =>
    intro hK W ρ st am0 amL am Hf0 HfL Hf H H0 σ Dn f0 w s P
    have P : PostS K cl ((ex C Wn a ρ st).bind fun fl st => match fl with | .next ρ => ex C Wn b ρ st | fl => .ok fl st) am0 Hf0 H0 amL HfL Dn W := P
    refine bindFl P fun fl st1 e P1 => ?_
    refine iha (fun f h => hK f (List.mem_append_left _ h)) (Dn := { Dn with nx := tS K (spF K cl C) W b Dn }) f0 w s ?_
    rw [e]
    cases fl with
    | next ρ1 => exact fun σ1 am1 Hf1 H1 f1 w1 s1 => ihb (fun f h => hK f (List.mem_append_right _ h)) f1 w1 s1 P1
    | cnt ρ3 => exact P1
    | brk ρ3 => exact P1
    | ret d3 => exact P1
    | rse x3 ρ3 => exact P1
    | retf d3 => exact P1
  | set i e =>
    intro hK W ρ st am0 amL am Hf0 HfL Hf H H0 σ Dn f0 w s P
    refine (den e hK).v w s (PostS.thn_ P f0 s fun v d st1 am1 Hf1 H1 f1 g1 w1 r1 P1 => ?_)
    obtain ⟨ρ', hρ, P2⟩ := P1.liftB
    rw [setS_eq hρ] at P2
    exact P2 _ am1 Hf1 H1 f1 w1 ((s.next g1).set r1)
  | own i e =>
    intro hK W ρ st am0 amL am Hf0 HfL Hf H H0 σ Dn f0 w s P
    have P : PostS K cl (if fresh e then (ev C e ρ st).thn ρ fun d st => (lift (ownS ρ i d) st).bind fun ρ st => .ok (.next ρ) st else if freshK e then (ev C e ρ st).thn ρ fun d st => (lift (ownK ρ i d) st).bind fun ρ st => .ok (.next ρ) st else .bad) am0 Hf0 H0 amL HfL Dn W := P
    split at P
    · rename_i hf
      refine (den e hK).n hf w s (PostS.thnN P f0 s (fun d st' h => fresh_lst hf h) fun p vs ds st1 am1 Hf1 H1 f1 g1 w1 np hp nf na r hz P1 => ?_)
      obtain ⟨ρ', hρ, P2⟩ := P1.liftB
      have hlt := ownS_eq hρ
      subst hlt
      have n0 : H0 p = none := f0.fm.there_none np
      exact P2 _ am1 Hf1 H1 f1 w1 ((s.next g1).own hp r nf na n0 hz (own_ne s np))
    · split at P
      · rename_i hk
        cases e with
        | dsp a =>
          refine denK (den a hK) w s ?_
          cases hh : ev C (.dsp a) ρ st with
          | bad => rw [hh] at P; exact P.elim
          | exc x st1 => rw [hh] at P; exact fun c dd am1 Hf1 H1 fm wf r => P σ c dd am1 Hf1 H1 (f0.trans fm) wf (s.next fm) r
          | ok d st1 =>
            rw [hh] at P
            obtain ⟨ρ', hρ, P2⟩ := PostS.liftB (o := ownK ρ i d) P
            unfold ownK at hρ
            split at hρ
            · rename_i kvs
              split at hρ
              · cases hρ
                exact ⟨kvs, rfl, fun p vs am1 Hf1 H1 g1 w1 np hp nf na r => P2 _ am1 Hf1 H1 (f0.trans g1) w1 ((s.next g1).ownK hp r nf na (f0.fm.there_none np) (own_ne s np))⟩
              · cases hρ
            · cases hρ
        | _ => cases hk
      · exact P.elim
  | frz i =>
    intro hK W ρ st am0 amL am Hf0 HfL Hf H H0 σ Dn f0 w s P
    obtain ⟨ρ', hρ, P2⟩ := PostS.liftB (o := frzS ρ i) P
    unfold frzS at hρ
    split at hρ
    · rename_i ds hs
      cases hρ
      obtain ⟨p, vs, h1, h2, h3, h4, h5, h6, h7⟩ := s.slot i _ hs
      exact P2 σ am _ H (f0.frz h6 h4) (w.frz h2 h4 h5) (s.frz hs h1 h2 h3 h4 h7)
    · rename_i ds hs
      cases hρ
      obtain ⟨p, vs, h1, h2, h3, h4, h5, h6⟩ := s.slot i _ hs
      exact P2 σ am _ H (f0.frz h6 h4) (w.frz h2 h4 h5) (s.frzK hs h1 h2 h3 h4)
    · cases hρ
      exact P2 σ am Hf H f0 w s
    · cases hρ
  | app i e =>
    intro hK W ρ st am0 amL am Hf0 HfL Hf H H0 σ Dn f0 w s P
    obtain ⟨ds, hd, P1⟩ := PostS.liftB (o := olS ρ i) P
    have hs := olS_eq hd
    obtain ⟨p, vs, h1, h2, h3, h4, h5, h6, h7⟩ := s.slot i _ hs
    refine ⟨_, h1, .inl ⟨rfl, _, SqL.of h2⟩, (den e hK).v w s (P1.thn_ f0 s fun v d st1 am1 Hf1 H1 f1 g1 w1 r1 P2 => ?_)⟩
    have P2 : PostS K cl (if ds.length < line then O.ok (Fl.next (ρ.set i (.ol (ds ++ [d])))) st1 else .bad) am0 Hf0 H0 amL HfL Dn W := P2
    split at P2
    · rename_i hl
      have e2 : H1 p = some (.lst vs) := g1.keep _ _ h2 h5
      refine ⟨p, vs, v, rfl, rfl, e2, by rw [h3.length, ← line_eq]; exact hl, ?_⟩
      have r2 := (h3.mono g1.pre g1.hf).append (.one r1)
      exact P2 σ am1 Hf1 _ (f1.mut h6) (w1.own (g1.offF _ _ h2 h4) fun z => h5 (g1.offA _ _ h2 z)) ((s.next g1).mut hs h1 r2 (by rw [List.length_append, List.length_singleton]; omega))
    · exact P2.elim
  | ext i e =>
    intro hK W ρ st am0 amL am Hf0 HfL Hf H H0 σ Dn f0 w s P
    obtain ⟨ds, hd, P1⟩ := PostS.liftB (o := olS ρ i) P
    have hs := olS_eq hd
    obtain ⟨p, vs, h1, h2, h3, h4, h5, h6, h7⟩ := s.slot i _ hs
    refine ⟨_, h1, .inl ⟨rfl, _, SqL.of h2⟩, (den e hK).v w s (P1.thn_ f0 s fun v d st1 am1 Hf1 H1 f1 g1 w1 r1 P2 => ?_)⟩
    obtain ⟨es, he, P3⟩ := P2.liftB
    have hde : d = .lst es := by
      unfold lstD at he
      split at he
      · cases he; rfl
      · cases he
    subst hde
    have P3 : PostS K cl (if ds.length + es.length ≤ line then O.ok (Fl.next (ρ.set i (.ol (ds ++ es)))) st1 else .bad) am0 Hf0 H0 amL HfL Dn W := P3
    split at P3
    · rename_i hl
      have e2 : H1 p = some (.lst vs) := g1.keep _ _ h2 h5
      obtain ⟨q, us, rfl, hq, rq, _⟩ := r1.vLst
      refine ⟨p, q, vs, us, rfl, rfl, e2, w1.sub _ _ hq, by rw [h3.length, rq.length, ← line_eq]; exact hl, ?_⟩
      have r2 := (h3.mono g1.pre g1.hf).append rq
      exact P3 σ am1 Hf1 _ (f1.mut h6) (w1.own (g1.offF _ _ h2 h4) fun z => h5 (g1.offA _ _ h2 z)) ((s.next g1).mut hs h1 r2 (by rw [List.length_append]; exact hl))
    · exact P3.elim
  | aug i o e =>
    intro hK W ρ st am0 amL am Hf0 HfL Hf H H0 σ Dn f0 w s P
    obtain ⟨x, hx, P1⟩ := PostS.liftB (o := slotD ρ i) P
    unfold slotD at hx
    split at hx
    · rename_i x' hs
      cases hx
      obtain ⟨v, h1, h2⟩ := s.slot i _ hs
      refine ⟨v, h1, (den e hK).v w s (P1.thn_ f0 s fun u d st1 am1 Hf1 H1 f1 g1 w1 r1 P2 => ?_)⟩
      obtain ⟨z, hz, P3⟩ := P2.liftB
      obtain ⟨ρ', hρ, P4⟩ := P3.liftB
      rw [setS_eq hρ] at P4
      unfold augD at hz
      split at hz
      · cases hz
        exact ⟨_, _, h2.vInt, r1.vInt, P4 _ am1 Hf1 H1 f1 w1 ((s.next g1).set (.int _))⟩
      · cases hz
        exact ⟨_, _, h2.vInt, r1.vInt, P4 _ am1 Hf1 H1 f1 w1 ((s.next g1).set (.int _))⟩
      · cases hz
    · cases hx
  | put o k e =>
    intro hK W ρ st am0 amL am Hf0 HfL Hf H H0 σ Dn f0 w s P
    refine (den e (fun f h => hK f (List.mem_append_right _ (List.mem_append_right _ h)))).v w s (PostS.thn_ P f0 s fun v d st1 am1 Hf1 H1 f1 g1 w1 r1 P1 => ?_)
    refine (den o (fun f h => hK f (List.mem_append_left _ h))).v w1 (s.next g1) (PostS.thn_ P1 f1 (s.next g1) fun u x st2 am2 Hf2 H2 f2 g2 w2 r2 P2 => ?_)
    refine (den k (fun f h => hK f (List.mem_append_right _ (List.mem_append_left _ h)))).v w2 ((s.next g1).next g2) (PostS.thn_ P2 f2 ((s.next g1).next g2) fun y' y st3 am3 Hf3 H3 f3 g3 w3 r3 P3 => ?_)
    have P3 : PostS K cl (match putS st3 x y d with | some st => .ok (.next ρ) st | none => .bad) am0 Hf0 H0 amL HfL Dn W := P3
    cases hp : putS st3 x y d with
    | none => rw [hp] at P3; exact P3.elim
    | some st4 =>
      rw [hp] at P3
      unfold putS at hp
      split at hp
      · rename_i n i
        split at hp
        · rename_i xs hc
          cases hj : ixN xs.length i with
          | none => rw [hj] at hp; cases hp
          | some j =>
            rw [hj] at hp
            cases hp
            obtain ⟨a, rfl, ha⟩ := (r2.mono g3.pre g3.hf).vRef
            obtain ⟨vs, he, rv, hz⟩ := w3.cell _ _ _ ha hc
            refine ⟨a, vs, i, j, rfl, r3.vInt, he, by rw [rv.length]; exact hj, ?_⟩
            have rd := (r1.mono g2.pre g2.hf).mono g3.pre g3.hf
            have fp : Fm am3 Hf3 H3 am3 Hf3 (upd H3 a (.lst (vs.set j v))) := Fm.store (List.mem_of_getElem? ha)
            exact P3 σ am3 Hf3 _ (f3.trans fp) (w3.put ha (rv.set rd j) (by rw [List.length_set]; exact hz)) ((((s.next g1).next g2).next g3).next fp)
        · cases hp
      · cases hp
  | exp e =>
    intro hK W ρ st am0 amL am Hf0 HfL Hf H H0 σ Dn f0 w s P
    exact (den e hK).v w s (PostS.thn_ P f0 s fun v d st1 am1 Hf1 H1 f1 g1 w1 r1 P1 => P1 σ am1 Hf1 H1 f1 w1 (s.next g1))
  | ret e =>
    intro hK W ρ st am0 amL am Hf0 HfL Hf H H0 σ Dn f0 w s P
    exact (den e hK).v w s (PostS.thn_ P f0 s fun v d st1 am1 Hf1 H1 f1 g1 w1 r1 P1 => P1 v am1 Hf1 H1 f1 w1 r1)
  | retn => exact fun _ {W ρ st am0 amL am Hf0 HfL Hf H H0 σ Dn} f0 w s P => P .non am Hf H f0 w .non
  | retf e =>
    intro hK W ρ st am0 amL am Hf0 HfL Hf H H0 σ Dn f0 w s P
    have P : PostS K cl (if fresh e then (ev C e ρ st).thn ρ fun d st => (lift (lstD d) st).bind fun ds st => .ok (.retf ds) st else .bad) am0 Hf0 H0 amL HfL Dn W := P
    split at P
    · rename_i hf
      exact (den e hK).n hf w s (PostS.thnN P f0 s (fun d st' h => fresh_lst hf h) fun p vs ds st1 am1 Hf1 H1 f1 g1 w1 np hp nf na r hz P1 => P1 p vs am1 Hf1 H1 f1 w1 (f0.fm.there_none np) hp nf na r hz)
    · exact P.elim
  | reto i =>
    intro hK W ρ st am0 amL am Hf0 HfL Hf H H0 σ Dn f0 w s P
    obtain ⟨ds, hρ, P2⟩ := PostS.liftB (o := olS ρ i) P
    obtain ⟨p, vs, h1, h2, h3, h4, h5, h6, h7⟩ := s.slot i _ (olS_eq hρ)
    exact ⟨_, h1, P2 p vs am Hf H f0 w h6 h2 h4 h5 h3 h7⟩
  | ite c a b iha ihb =>
    intro hK W ρ st am0 amL am Hf0 HfL Hf H H0 σ Dn f0 w s P
    refine (den c (fun f h => hK f (List.mem_append_left _ h))).t w s (PostS.thn_ (R := RB) P f0 s fun k k' st1 am1 Hf1 H1 f1 g1 w1 e P1 => ?_)
    subst e
    cases k with
    | true =>
      rw [if_pos rfl] at P1 ⊢
      exact iha (fun f h => hK f (List.mem_append_right _ (List.mem_append_left _ h))) f1 w1 (s.next g1) P1
    | false =>
      rw [if_neg Bool.false_ne_true] at P1 ⊢
      exact ihb (fun f h => hK f (List.mem_append_right _ (List.mem_append_right _ h))) f1 w1 (s.next g1) P1
  | for_ j src b ihb =>
    intro hK W ρ st am0 amL am Hf0 HfL Hf H H0 σ Dn f0 w s P
    show tE K (spF K cl C) W src σ H _
    refine (den src (fun f h => hK f (List.mem_append_left _ h))).v w s (PostS.thn_ P f0 s fun v d st1 am1 Hf1 H1 f1 g1 w1 r1 P1 => ?_)
    obtain ⟨ds, hd, P2⟩ := P1.liftB
    exact itemsR (R := ForR (gName j) (tS K (spF K cl C) W b) Dn σ) w1 r1 hd fun J G Y wk hz hY hG => for_gen (ihb (fun f h => hK f (List.mem_append_right _ h))) wk rfl f1 w1 (s.next g1) hY hG P2
  | dput i kk e =>
    intro hK W ρ st am0 amL am Hf0 HfL Hf H H0 σ Dn f0 w s P
    obtain ⟨kvs, hd, P1⟩ := PostS.liftB (o := odS ρ i) P
    have hs : ρ[i]? = some (.od kvs) := by
      unfold odS at hd
      split at hd
      · rename_i ds hs; cases hd; exact hs
      · cases hd
    obtain ⟨p, vs, h1, h2, h3, h4, h5, h6⟩ := s.slot i _ hs
    refine (den e (fun f h => hK f (List.mem_append_right _ h))).v w s (P1.thn_ f0 s fun v d st1 am1 Hf1 H1 f1 g1 w1 r1 P2 => ?_)
    refine ⟨_, h1, (den kk (fun f h => hK f (List.mem_append_left _ h))).v w1 (s.next g1) (P2.thn_ f1 (s.next g1) fun u y st2 am2 Hf2 H2 f2 g2 w2 r2 P3 => ?_)⟩
    obtain ⟨k, hk, P4⟩ := P3.liftB
    have P4 : PostS K cl (if kvs.length < line then O.ok (Fl.next (ρ.set i (.od (putD kvs k d)))) st2 else .bad) am0 Hf0 H0 amL HfL Dn W := P4
    split at P4
    · rename_i hl
      have eu := key_rep r2 hk
      subst eu
      have e2 : H2 p = some (.dK vs) := g2.keep _ _ (g1.keep _ _ h2 h5) fun z => h5 (g1.offA _ _ h2 z)
      have r3 := (h3.mono g1.pre g1.hf).mono g2.pre g2.hf
      have rv := r1.mono g2.pre g2.hf
      have gg := g1.trans g2
      refine ⟨p, _, rfl, .inl ⟨vs, k, e2, rfl, by rw [r3.len, ← line_eq]; exact hl, rfl⟩, ?_⟩
      exact P4 σ am2 Hf2 _ (f2.mut h6) (w2.own (gg.offF _ _ h2 h4) fun z => h5 (gg.offA _ _ h2 z)) (((s.next g1).next g2).mutK hs h1 (r3.put rv))
    · exact P4.elim
  | for2 is k sr a b ihb =>
    intro hK W ρ st am0 amL am Hf0 HfL Hf H H0 σ Dn f0 w s P
    have ihb : DenS K cl C Wn b := ihb (fun f h => hK f (List.mem_append_right _ (List.mem_append_right _ h)))
    by_cases hk : isItm k = true
    · cases k with
      | itm sl =>
        show (_ ∨ tLock _ Dn σ H)
        have P : PostS K cl ((evS (ev C sr) (evs C a) (.itm sl) ρ st).thn ρ fun xs st => noR (forO (fun x ρ st => (lift (setT ρ is x) st).bind fun ρ st => ex C Wn b ρ st) xs ρ st)) am0 Hf0 H0 amL HfL Dn W := P
        rw [evS_itm] at P
        cases hx : slotD ρ sl with
        | none => rw [hx] at P; exact P.elim
        | some x =>
          rw [hx] at P
          have hs : ρ[sl]? = some (.im x) := by
            unfold slotD at hx
            split at hx
            · rename_i d hd; cases hx; exact hd
            · cases hx
          cases x with
          | dct kvs =>
            have P : PostS K cl ((if kShort kvs then O.ok (kvs.map fun kv => D.tup [kD kv.1, kv.2]) st else .bad).thn ρ fun xs st => noR (forO (fun x ρ st => (lift (setT ρ is x) st).bind fun ρ st => ex C Wn b ρ st) xs ρ st)) am0 Hf0 H0 amL HfL Dn W := P
            by_cases hz : kShort kvs = true
            · rw [if_pos hz] at P
              have P : PostS K cl (noR (forO (fun x ρ st => (lift (setT ρ is x) st).bind fun ρ st => ex C Wn b ρ st) (kvs.map fun kv => D.tup [kD kv.1, kv.2]) ρ st)) am0 Hf0 H0 amL HfL Dn W := P
              obtain ⟨p, vs, h1, h2, h3⟩ := dct_at s hs
              rcases h2 with h2 | ⟨o, h2⟩
              · refine .inr ⟨p, .dK vs, w.sub _ _ h2, trivial, fun od => ?_⟩
                have PL := PostS.lock (od := od) h2 w f0 P
                have un : ∀ x, Hf p = some x → IsK vs x := fun x e => by rw [h2] at e; cases e; exact .inl rfl
                rw [← sw_upd (w.sub _ _ h2)]
                obtain ⟨G, Y, src⟩ := items_src (sw_at (o := .frz od (.dK vs)) h2) (h3.sw (.inr ⟨od, rfl⟩) un) hz
                exact ⟨_, h1, p, od, vs, rfl, sw_at (w.sub _ _ h2), for_genT (Dn := lkEnds Dn p od vs) ihb src f0.here.lk (w.sw (.inr ⟨od, rfl⟩) un h2) (s.lk (st := st) (.inr ⟨od, rfl⟩) un h2) PL⟩
              · refine .inl ?_
                have P : PostS K cl (forO (fun x ρ st => (lift (setT ρ is x) st).bind fun ρ st => ex C Wn b ρ st) (kvs.map fun kv => D.tup [kD kv.1, kv.2]) ρ st) am0 Hf0 H0 amL HfL Dn W0 := by
                  generalize forO (fun x ρ st => (lift (setT ρ is x) st).bind fun ρ st => ex C Wn b ρ st) (kvs.map fun kv => D.tup [kD kv.1, kv.2]) ρ st = r at P ⊢
                  cases r with
                  | exc _ _ => exact P
                  | bad => exact P
                  | ok fl st1 => cases fl <;> first | exact P | exact False.elim P
                obtain ⟨G, Y, src⟩ := items_src h2 h3 hz
                exact ⟨_, h1, p, o, vs, rfl, w.sub _ _ h2, for_genT ihb src f0 w s P⟩
            · rw [if_neg hz] at P
              exact P.elim
          | _ => exact P.elim
      | _ => cases hk
    · have hk : isItm k = false := by simpa using hk
      have e1 : tS K (spF K cl C) W (.for2 is k sr a b) Dn σ H = iSrc K k (tE K (spF K cl C) W sr) (tA K (spF K cl C) W a) σ H (ForR (gTgt K is) (tS K (spF K cl C) W b) Dn σ) := by
        cases k <;> first | rfl | cases hk
      rw [e1]
      by_cases ha : k = .any
      · subst ha
        have P : PostS K cl ((ev C sr ρ st).thn ρ fun x st => (lift (itemsD x) st).bind fun ds st => forO (fun x ρ st => (lift (setT ρ is x) st).bind fun ρ st => ex C Wn b ρ st) ds ρ st) am0 Hf0 H0 amL HfL Dn W := by
          have P2 : PostS K cl ((evS (ev C sr) (evs C a) .any ρ st).thn ρ fun xs st => forO (fun x ρ st => (lift (setT ρ is x) st).bind fun ρ st => ex C Wn b ρ st) xs ρ st) am0 Hf0 H0 amL HfL Dn W := P
          rw [evS_any] at P2
          cases hh : ev C sr ρ st with
          | bad => rw [hh] at P2; exact P2
          | exc _ _ => rw [hh] at P2; exact P2
          | ok x st1 =>
            rw [hh] at P2
            show PostS K cl ((lift (itemsD x) st1).bind _) am0 Hf0 H0 amL HfL Dn W
            have P2 : PostS K cl ((lift (itemsD x) st1).thn ρ fun xs st => forO (fun x ρ st => (lift (setT ρ is x) st).bind fun ρ st => ex C Wn b ρ st) xs ρ st) am0 Hf0 H0 amL HfL Dn W := P2
            cases hd : itemsD x with
            | none => rw [hd] at P2; exact P2
            | some ds => rw [hd] at P2; exact P2
        show tE K (spF K cl C) W sr σ H _
        refine (den sr (fun f h => hK f (List.mem_append_left _ h))).v w s (PostS.thn_ P f0 s fun v d st1 am1 Hf1 H1 f1 g1 w1 r1 P1 => ?_)
        obtain ⟨ds, hd, P2⟩ := P1.liftB
        exact any_den (R := ForR (gTgt K is) (tS K (spF K cl C) W b) Dn σ) w1 r1 hd fun J G Y src => for_genT ihb src f1 w1 (s.next g1) P2
      rw [iSrc_eq hk ha]
      have P : PostS K cl ((evs C a ρ st).thn ρ fun xs st => (lift (srcD k xs) st).bind fun ds st => forO (fun x ρ st => (lift (setT ρ is x) st).bind fun ρ st => ex C Wn b ρ st) ds ρ st) am0 Hf0 H0 amL HfL Dn W := by
        have P2 : PostS K cl ((evS (ev C sr) (evs C a) k ρ st).thn ρ fun xs st => (if isItm k then noR else id) (forO (fun x ρ st => (lift (setT ρ is x) st).bind fun ρ st => ex C Wn b ρ st) xs ρ st)) am0 Hf0 H0 amL HfL Dn W := P
        rw [evS_else hk ha] at P2
        simp only [hk, Bool.false_eq_true, if_false, id] at P2
        cases hh : evs C a ρ st with
        | bad => rw [hh] at P2; exact P2
        | exc _ _ => rw [hh] at P2; exact P2
        | ok xs st1 =>
          rw [hh] at P2
          show PostS K cl ((lift (srcD k xs) st1).bind _) am0 Hf0 H0 amL HfL Dn W
          cases hd : srcD k xs with
          | none =>
            have P2 : PostS K cl ((lift (srcD k xs) st1).thn ρ _) am0 Hf0 H0 amL HfL Dn W := P2
            rw [hd] at P2
            exact P2
          | some ds =>
            have P2 : PostS K cl ((lift (srcD k xs) st1).thn ρ _) am0 Hf0 H0 amL HfL Dn W := P2
            rw [hd] at P2
            exact P2
      refine (den a (fun f h => hK f (List.mem_append_right _ (List.mem_append_left _ h)))).vs w s (PostS.thn_ (R := RVs K) P f0 s fun v d st1 am1 Hf1 H1 f1 g1 w1 r1 P1 => ?_)
      obtain ⟨ds, hd, P2⟩ := P1.liftB
      exact src_den w1 r1 hd fun J G Y src => for_genT ihb src f1 w1 (s.next g1) P2
  | forr j a b ihb =>
    intro hK W ρ st am0 amL am Hf0 HfL Hf H H0 σ Dn f0 w s P
    show tA K (spF K cl C) W a σ H _
    refine (den a (fun f h => hK f (List.mem_append_left _ h))).vs w s (PostS.thn_ (R := RVs K) P f0 s fun v d st1 am1 Hf1 H1 f1 g1 w1 r1 P1 => ?_)
    obtain ⟨ds, hd, P2⟩ := P1.liftB
    exact range_den (R := ForR (gName j) (tS K (spF K cl C) W b) Dn σ) (st := st1) r1 hd fun J G Y wk hY hG => for_gen (ihb (fun f h => hK f (List.mem_append_right _ h))) wk rfl f1 w1 (s.next g1) hY (fun H' _ => hG H') P2
  | whl c b ihb =>
    intro hK W ρ st am0 amL am Hf0 HfL Hf H H0 σ Dn f0 w s P
    exact whl_den (fun f h => hK f (List.mem_append_left _ h)) (ihb (fun f h => hK f (List.mem_append_right _ h))) Wn f0 w s P
  | sfl i c f e =>
    intro hK W ρ st am0 amL am Hf0 HfL Hf H H0 σ Dn f0 w s P
    have nf : NoAttr K (He.ga K c) f := He.noat_ok (hK _ List.mem_cons_self)
    refine (den e (fun f h => hK f (List.mem_cons_of_mem _ h))).v w s (PostS.thn_ P f0 s fun v d st1 am1 Hf1 H1 f1 g1 w1 r1 P1 => ?_)
    obtain ⟨ρ', hρ, P2⟩ := P1.liftB
    unfold sflS at hρ
    split at hρ
    · rename_i c' ds hs
      split at hρ
      · rename_i hl
        obtain ⟨hl, rfl⟩ := hl
        cases hρ
        obtain ⟨p, dx, vs, h1, h2, h3, h4, h5, h6, h7, h8, h9⟩ := (s.next g1).slot i _ hs
        refine ⟨_, h1, p, _, dx, vs, rfl, h2, h8.cl, nf, ?_, ?_⟩
        · have := congrArg List.length h7
          rw [List.length_map, List.length_map] at this
          omega
        · obtain ⟨q1, q2, q3⟩ := putF_rep (f := f) (v := v) (d := d) h7 h3 r1
          refine P2 σ am1 Hf1 _ (f1.mut h6.1) (w1.own h4 h5) ((s.next g1).mutI hs h1 q1 (fun g hg => ?_) q2)
          rcases q3 g hg with rfl | hg
          · exact nf
          · exact h9 g hg
      · cases hρ
    · cases hρ
  | unp is e =>
    intro hK W ρ st am0 amL am Hf0 HfL Hf H H0 σ Dn f0 w s P
    refine (den e hK).v w s (PostS.thn_ P f0 s fun v d st1 am1 Hf1 H1 f1 g1 w1 r1 P1 => ?_)
    obtain ⟨ds, hd, P2⟩ := P1.liftB
    obtain ⟨ρ', hρ, P3⟩ := P2.liftB
    have hde : d = .tup ds := by
      unfold tupD at hd
      split at hd
      · cases hd; rfl
      · cases hd
    subst hde
    obtain ⟨a, vs, rfl, ht, rv, hz⟩ := r1.vTup
    obtain ⟨h1, h2⟩ := unp_den (Q := Dn.nx) w1 (s.next g1) rv hρ fun σ' s' => P3 σ' am1 Hf1 H1 f1 w1 s'
    exact ⟨a, vs, rfl, Same.seqT w1.sub ht, h1, h2⟩
  | par is a =>
    intro hK W ρ st am0 amL am Hf0 HfL Hf H H0 σ Dn f0 w s P
    have P : PostS K cl (if is.length = 2 ∨ is.length = 3 then (evs C a ρ st).thn ρ fun ds st => (lift (unpS ρ is ds) st).bind fun ρ st => .ok (.next ρ) st else .bad) am0 Hf0 H0 amL HfL Dn W := P
    have step : ∀ {i : Nat} {d : D} {v : V} {ρ ρ' : Env} {σ : L2.St} {am : List Addr} {Hf H : Hp}, Sig K am Hf H H0 σ ρ → Rep K am Hf v d → setS ρ i d = some ρ' → Sig K am Hf H H0 (σ.set i (some v)) ρ' := fun s r e => by
      have e1 := setS_eq e
      subst e1
      exact s.set r
    split at P
    · match is, P with
      | [i, j], P =>
        refine (den a hK).vs w s (PostS.thn_ (R := RVs K) P f0 s fun vs ds st1 am1 Hf1 H1 f1 g1 w1 r1 P1 => ?_)
        obtain ⟨ρ', hρ, P3⟩ := P1.liftB
        match ds, vs, r1, hρ with
        | [d1, d2], _, .cons (v := v1) r1 (.cons (v := v2) r2 .nil), hρ =>
          rw [unpS] at hρ
          obtain ⟨ρ1, e1, hρ⟩ := Option.bind_eq_some_iff.mp hρ
          rw [unpS] at hρ
          obtain ⟨ρ2, e2, hρ⟩ := Option.bind_eq_some_iff.mp hρ
          cases hρ
          exact ⟨v1, v2, rfl, P3 _ am1 Hf1 H1 f1 w1 (step (step (s.next g1) r1 e1) r2 e2)⟩
        | [], _, _, hρ => cases hρ
        | [d1], _, _, hρ =>
          rw [unpS] at hρ
          obtain ⟨ρ1, e1, hρ⟩ := Option.bind_eq_some_iff.mp hρ
          cases hρ
        | d1 :: d2 :: d3 :: r, _, _, hρ =>
          rw [unpS] at hρ
          obtain ⟨ρ1, e1, hρ⟩ := Option.bind_eq_some_iff.mp hρ
          rw [unpS] at hρ
          obtain ⟨ρ2, e2, hρ⟩ := Option.bind_eq_some_iff.mp hρ
          cases hρ
      | [i, j, l], P =>
        refine (den a hK).vs w s (PostS.thn_ (R := RVs K) P f0 s fun vs ds st1 am1 Hf1 H1 f1 g1 w1 r1 P1 => ?_)
        obtain ⟨ρ', hρ, P3⟩ := P1.liftB
        match ds, vs, r1, hρ with
        | [d1, d2, d3], _, .cons (v := v1) r1 (.cons (v := v2) r2 (.cons (v := v3) r3 .nil)), hρ =>
          rw [unpS] at hρ
          obtain ⟨ρ1, e1, hρ⟩ := Option.bind_eq_some_iff.mp hρ
          rw [unpS] at hρ
          obtain ⟨ρ2, e2, hρ⟩ := Option.bind_eq_some_iff.mp hρ
          rw [unpS] at hρ
          obtain ⟨ρ3, e3, hρ⟩ := Option.bind_eq_some_iff.mp hρ
          cases hρ
          exact ⟨v1, v2, v3, rfl, P3 _ am1 Hf1 H1 f1 w1 (step (step (step (s.next g1) r1 e1) r2 e2) r3 e3)⟩
        | [], _, _, hρ => cases hρ
        | [d1], _, _, hρ =>
          rw [unpS] at hρ
          obtain ⟨ρ1, e1, hρ⟩ := Option.bind_eq_some_iff.mp hρ
          cases hρ
        | [d1, d2], _, _, hρ =>
          rw [unpS] at hρ
          obtain ⟨ρ1, e1, hρ⟩ := Option.bind_eq_some_iff.mp hρ
          rw [unpS] at hρ
          obtain ⟨ρ2, e2, hρ⟩ := Option.bind_eq_some_iff.mp hρ
          cases hρ
        | d1 :: d2 :: d3 :: d4 :: r, _, _, hρ =>
          rw [unpS] at hρ
          obtain ⟨ρ1, e1, hρ⟩ := Option.bind_eq_some_iff.mp hρ
          rw [unpS] at hρ
          obtain ⟨ρ2, e2, hρ⟩ := Option.bind_eq_some_iff.mp hρ
          rw [unpS] at hρ
          obtain ⟨ρ3, e3, hρ⟩ := Option.bind_eq_some_iff.mp hρ
          cases hρ
      | [], P => rename_i hl; exact absurd hl (by decide)
      | [_], P => rename_i hl; exact absurd hl (by simp)
      | _ :: _ :: _ :: _ :: _, P => rename_i hl; exact absurd hl (by simp)
    · exact P.elim
  | rse c fs a =>
    intro hK W ρ st am0 amL am Hf0 HfL Hf H H0 σ Dn f0 w s P
    refine (den a hK).vs w s (PostS.thn_ (R := RVs K) P f0 s fun vs xs st1 am1 Hf1 H1 f1 g1 w1 r1 P1 => ?_)
    split at P1
    · rename_i hl
      obtain ⟨hl, h0, hm⟩ := hl
      refine ⟨by rw [r1.length, hl]; exact hm, fun a na => ⟨a, vs, by rw [List.append_nil], by rw [r1.length]; exact hl, h0, upd_same, fun dx ndx nda => ⟨rfl, dx, (fs.zip vs).reverse, upd_same, by rw [upd_ne nda, upd_same], by rw [upd_ne nda] at ndx; exact ndx, ?_⟩⟩⟩
      rw [upd_ne nda] at ndx
      have eH : upd (L2.del (upd (upd (upd H1 a (exo a (He.ga K c) none)) dx (exd dx (fs.zip vs).reverse)) a (exo a (He.ga K c) (some dx))) a) dx (.xd (fs.zip vs).reverse) = upd H1 dx (.xd (fs.zip vs).reverse) := by
        funext b
        by_cases hb : b = dx
        · subst hb; rw [upd_same, upd_same]
        · rw [upd_ne hb, upd_ne hb]
          unfold L2.del
          by_cases hba : b = a
          · rw [if_pos hba, hba, na]
          · rw [if_neg hba, upd_ne hba, upd_ne hb, upd_ne hba]
      rw [eH]
      have fn := Fm.new (am := am1) (o := .xd (fs.zip vs).reverse) w1.sub ndx
      refine P1 σ _ (some dx) am1 (upd Hf1 dx (.xd (fs.zip vs).reverse)) _ (f1.trans fn) (w1.new ndx) ((s.next g1).next fn) ⟨rfl, .inr ⟨dx, _, rfl, upd_same, ?_, ?_⟩⟩
      · show ((fs.zip vs).reverse).map (·.1) = ((fs.zip xs).reverse).map (·.1)
        rw [List.map_reverse, List.map_reverse, List.map_fst_zip (by rw [r1.length, hl]; exact Nat.le_refl _), List.map_fst_zip (by rw [hl]; exact Nat.le_refl _)]
      · show RepL K am1 _ (((fs.zip vs).reverse).map (·.2)) (((fs.zip xs).reverse).map (·.2))
        rw [List.map_reverse, List.map_reverse, List.map_snd_zip (by rw [r1.length, hl]; exact Nat.le_refl _), List.map_snd_zip (by rw [hl]; exact Nat.le_refl _)]
        exact (r1.mono fn.pre fn.hf).reverse
    · exact P1.elim
  | tryas b hs ihb =>
    intro hK W ρ st am0 amL am Hf0 HfL Hf H H0 σ Dn f0 w s P
    have hb : ∀ f ∈ fcS b, f.ok K = true := fun f h => hK f (List.mem_append_left _ h)
    have hc : ∀ h ∈ hs, ∀ x ∈ h.cs, (Kf.exm x.1 h.c x.2).ok K = true := fun h hm x hx => hK _ (List.mem_append_right _ (List.mem_flatMap.mpr ⟨h, hm, List.mem_map.mpr ⟨x, hx, rfl⟩⟩))
    have P : PostS K cl ((ex C Wn b ρ st).bind fun fl st => match fl with
      | .rse x ρ => catchO hs x ρ st
      | fl => .ok fl st) am0 Hf0 H0 amL HfL Dn W := P
    refine bindFl P fun fl st1 e P1 => ?_
    refine ihb hb (W := wCl K W Dn (hs.map (Hd.cl K))) f0 w s ?_
    rw [e]
    cases fl with
    | next ρ1 => exact P1
    | cnt ρ3 => exact P1
    | brk ρ3 => exact P1
    | ret d3 => exact P1
    | retf d3 => exact P1
    | rse x ρ1 =>
      intro σ1 c1 dd am1 Hf1 H1 f1 w1 s1 xo
      have P1 : PostS K cl (catchO hs x ρ1 st1) am0 Hf0 H0 amL HfL Dn W := P1
      have key : ∀ hs : List Hd, (∀ h ∈ hs, ∀ x ∈ h.cs, (Kf.exm x.1 h.c x.2).ok K = true) → PostS K cl (catchO hs x ρ1 st1) am0 Hf0 H0 amL HfL Dn W → wCl K W Dn (hs.map (Hd.cl K)) c1 dd σ1 H1 := by
       intro hs
       induction hs with
       | nil => exact fun _ P1 => P1 σ1 c1 dd am1 Hf1 H1 f1 w1 s1 xo
       | cons h r ih =>
        intro hc P1
        have P1 : PostS K cl (match h.cs.lookup x.c with
          | some true => suiteO h x ρ1 st1
          | some false => catchO r x ρ1 st1
          | none => .bad) am0 Hf0 H0 amL HfL Dn W := P1
        cases hl : h.cs.lookup x.c with
        | none => rw [hl] at P1; exact P1.elim
        | some b0 =>
          have hm : (x.c, b0) ∈ h.cs := PySem.mem_of_lookup hl
          have hf := He.exm_ok (hc h List.mem_cons_self _ hm)
          rw [hl] at P1
          refine ⟨b0, by rw [xo.1]; exact hf, fun hb1 a na => ?_, fun hb1 => ?_⟩
          · subst hb1
            have P1 : PostS K cl (suiteO h x ρ1 st1) am0 Hf0 H0 amL HfL Dn W := P1
            obtain ⟨hcs, hcc, hi, hh⟩ := h
            cases hi with
            | none =>
              have P1 : PostS K cl ((evH none x hh ρ1 st1).nox.bind fun d st => .ok (.ret d) st) am0 Hf0 H0 amL HfL Dn W := P1
              refine (denH (cl := cl) (k := none) (ee := x) (hx := ⟨a, c1, dd⟩) hh).v w1 s1 (fun i z => by cases z) xo ?_
              cases hv : evH none x hh ρ1 st1 with
              | ok d st2 =>
                rw [hv] at P1
                exact fun v am2 Hf2 H2 f2 w2 r2 => P1 v am2 Hf2 H2 (f1.trans f2) w2 r2
              | exc _ _ => rw [hv] at P1; exact P1.elim
              | bad => rw [hv] at P1; exact P1.elim
            | some i =>
              have P1 : PostS K cl (if i < ρ1.length then (evH (some i) x hh (ρ1.set i .un) st1).nox.bind fun d st => .ok (.ret d) st else .bad) am0 Hf0 H0 amL HfL Dn W := P1
              split at P1
              · rename_i hi
                refine (denH (cl := cl) (k := some i) (ee := x) (hx := ⟨a, c1, dd⟩) hh).v w1 (s1.drop i (some (.ref a))) (fun i' z => ?_) xo ?_
                · cases z
                  rw [List.getElem?_set_self (by rw [← s1.len]; exact hi)]
                · cases hv : evH (some i) x hh (ρ1.set i .un) st1 with
                  | ok d st2 =>
                    rw [hv] at P1
                    exact fun v am2 Hf2 H2 f2 w2 r2 => P1 v am2 Hf2 H2 (f1.trans f2) w2 r2
                  | exc _ _ => rw [hv] at P1; exact P1.elim
                  | bad => rw [hv] at P1; exact P1.elim
              · exact P1.elim
          · subst hb1
            exact ih (fun h hm => hc h (List.mem_cons_of_mem _ hm)) P1
      exact key hs hc P1
  | brk => exact fun _ {W ρ st am0 amL am Hf0 HfL Hf H H0 σ Dn} f0 w s P => P σ am Hf H f0 w s
  | cnt => exact fun _ {W ρ st am0 amL am Hf0 HfL Hf H H0 σ Dn} f0 w s P => P σ am Hf H f0 w s
end
end PF
/-! The compact text is the given one's: a check, and what it gives. -/
namespace PF
open PySem L2 PySem.Spec PyProof.Rows
def noStar : Expr → Bool
  | .Starred _ _ => false
  | _ => true
def plainBase : Expr → Bool
  | .Call (.Name _ _) [] [] _ => false
  | _ => true
def plainT : Expr → Bool
  | .UnaryOp .Not _ _ => false
  | .BoolOp _ _ _ => false
  | .IfExp _ _ _ _ => false
  | .Compare _ _ _ _ => false
  | _ => true
def notComp : Expr → Bool
  | .ListComp _ _ _ _ => false
  | .SetComp _ _ _ _ => false
  | .DictComp _ _ _ _ _ => false
  | _ => true
def notSet : Expr → Bool
  | .Set _ _ _ => false
  | _ => true
def notSlice : Expr → Bool
  | .Slice _ _ _ _ => false
  | _ => true
theorem starEach_cons {e : Expr} {es : List Expr} {env : PySem.Env} (h : noStar e = true) : starEach (e :: es) env = (false, eval e env) :: starEach es env := by
  cases e <;> first | (simp only [starEach]; done) | cases h
theorem starEach_plain {pos : Pos} {env : PySem.Env} : ∀ {es : List Expr}, es.all noStar = true → (backTo pos (starEach es env)).any (·.1) = false
  | [], _ => rfl
  | e :: es, h => by
    rw [List.all_cons, Bool.and_eq_true] at h
    rw [starEach_cons h.1]
    show (false || (backTo pos (starEach es env)).any (·.1)) = false
    rw [starEach_plain h.2]
    rfl
theorem base_plain {o : Expr} {attr : Str} {env : PySem.Env} {whole : Sem Value} (h : plainBase o = true) : attributeBase o attr env whole = whole := by
  unfold attributeBase
  split
  · cases h
  · rfl
theorem isTrue_plainT {e : Expr} {env : PySem.Env} (h : plainT e = true) : ∀ whole, isTrue e env whole = (do let v ← whole; standAt e.pos; holding [v] (truthy v)) := by
  intro whole
  cases e with
  | UnaryOp op x p => cases op <;> first | rfl | (simp only [PySem.isTrue]; done) | cases h
  | BoolOp _ _ _ => cases h
  | IfExp _ _ _ _ => cases h
  | Compare _ _ _ _ => cases h
  | _ => first | rfl | simp only [PySem.isTrue]
theorem swaps_plain {e : Expr} {t : Option Expr} {l : Nat} {env : PySem.Env} (h : notComp e = true) : swapsWith e t l env = pure false := by
  cases e <;> first | rfl | cases h
theorem set_plain {e : Expr} {env : PySem.Env} (h : notSet e = true) : ∀ x, foldedSetIterable e env x = pure x := by
  intro x
  cases e <;> first | rfl | cases h
theorem ix_plain {b : Expr} (h : notSlice b = true) : PlainIx b := by
  intro o i
  cases b <;> first | rfl | cases h
def visB (sc : Scope) (x : Str) : Bool := match sc.names.lookup x with
  | some .local => true
  | some .cell => true
  | some .free => true
  | _ => false
def locB (sc : Scope) (x : Str) : Bool := match sc.names.lookup x with
  | some .local => true
  | some .cell => true
  | _ => false
def glB (sc : Scope) (x : Str) : Bool := match sc.names.lookup x with
  | some .globalImplicit => true
  | _ => false
theorem visB_ok {sc : Scope} {x : Str} (h : visB sc x = true) : Vis sc x := by
  unfold visB at h
  unfold Vis
  split at h <;> simp_all
theorem locB_ok {sc : Scope} {x : Str} (h : locB sc x = true) : L2.Loc sc x := by
  unfold locB at h
  unfold L2.Loc
  split at h <;> simp_all
theorem glB_ok {X : Cx} {x : Str} (h : glB X.env.scope x = true) : Gl X x := by
  unfold glB at h
  show X.env.scope.names.lookup x = some .globalImplicit
  split at h
  · assumption
  · cases h
/-- the tables: the defs' names, the module's constants, the built-ins' names that stay -/
structure Tb where
  fn : List (Option Str)
  gc : List (Str × D)
  bl : List Str
  ex : List (Str × List Str) := []
  mt : List ((Str × Str) × Nat) := []
  pr : List ((Str × Str) × Nat) := []
  mks : List (Str × Nat × Nat × List Str) := []
  cs : List Str := []
  kd : List Str := []
  fnf : List (Option Str) := []
  mtf : List ((Str × Str) × Nat) := []
  mkx : List (Str × Nat × Nat) := []
  sm : List ((Str × Str) × Nat) := []
def constB : Const → D → Bool
  | .none, .non => true
  | .bool a, .bl b => a == b
  | .int a, .int b => decide (a = b)
  | .str a, .str b => decide (unt a = b)
  | _, _ => false
def bopB : BOp → Operator → Bool
  | .add, .Add => true
  | .sub, .Sub => true
  | .mul, .Mult => true
  | .mod, .Mod => true
  | .fdiv, .FloorDiv => true
  | .pow, .Pow => true
  | _, _ => false
def copB : COp → CmpOp → Bool
  | .eq, .Eq => true
  | .ne, .NotEq => true
  | .lt, .Lt => true
  | .le, .LtE => true
  | .gt, .Gt => true
  | .ge, .GtE => true
  | .is, .Is => true
  | .isnot, .IsNot => true
  | .inn, .In => true
  | .notin, .NotIn => true
  | _, _ => false
def bfName : BF → Str
  | .len => "len" | .max2 => "max" | .min2 => "min" | .int => "int" | .str => "str" | .list => "list" | .tuple => "tuple" | .all => "all" | .any => "any" | .isi => "isinstance" | .sum => "sum"
def bmName : BM → Str
  | .upper => "upper" | .lower => "lower" | .join => "join" | .count => "count" | .find => "find" | .items => "items" | .get => "get" | .index => "index"
def strM : BM → Bool
  | .items => false
  | .get => false
  | _ => true
def gcB (T : Tb) (x : Str) (d : D) : Bool := match T.gc.lookup x, d with
  | some (.int a), .int b => decide (a = b)
  | some (.str a), .str b => decide (a = b)
  | some (.bl a), .bl b => decide (a = b)
  | _, _ => false
def nameOk (x : Str) : Bool := (x != "__debug__") && (x != "__classdict__") && (x != "__name__")
def chkO (n : Bool) (f : Expr → Bool) : Option Expr → Bool
  | none => n
  | some l => !n && f l
def chkI (n : Bool) (f : Expr → Bool) : List Expr → Bool
  | [] => n
  | [z] => !n && f z
  | _ => false
def chkL (n : Bool) (f : Expr → Bool) : List Expr → Bool
  | [] => n
  | [z] => !n && noStar z && f z
  | _ => false
def OF.call : OF → Str
  | .len => "len" | .str => "str" | .bool => "bool"
def headNS : List Expr → Bool
  | e :: _ => noStar e
  | [] => false
def isAny : SK → Bool
  | .any => true
  | _ => false
def srcEs : Expr → List Expr
  | .Call _ es _ _ => es
  | _ => []
/-- what is walked is of the kind told -/
def srcB (T : Tb) (N : List Str) (sc : Scope) : SK → Expr → Expr → Bool
  | .any, it, _ => notSet it
  | .zip, .Call (.Name r _) [x, y] [] _, .Tuple _ _ _ => decide (r = "zip") && glB sc r && T.bl.contains r && noStar x && noStar y
  | .enm, .Call (.Name r _) [x] [] _, .Tuple _ _ _ => decide (r = "enumerate") && glB sc r && T.bl.contains r && noStar x
  | .rng, .Call (.Name r _) (x :: es) [] _, _ => decide (r = "range") && glB sc r && T.bl.contains r && noStar x && es.all noStar
  | .itm s, .Call (.Attribute (.Name x _) m apos) [] [] pos, .Tuple _ _ _ => decide (m = "items") && decide (N[s]? = some x) && visB sc x && nameOk x && (apos.endLine == pos.line)
  | _, _, _ => false
def tgsB (f : Nat → Str → Bool) : List Nat → List Expr → Bool
  | [], [] => true
  | i :: is, .Name x _ :: ts => f i x && tgsB f is ts
  | _, _ => false
/-- a target: a name, or a tuple of names -/
def tgB (is : List Nat) (tg : Expr) (f : Nat → Str → Bool) : Bool := match is, tg with
  | [i], .Name x _ => f i x
  | is, .Tuple ts _ _ => decide (is.length ≠ 1) && tgsB f is ts
  | _, _ => false
def ownTs : List Nat → List Expr → List (Str × Nat)
  | i :: is, .Name x _ :: ts => (x, i) :: ownTs is ts
  | _, _ => []
def ownT (is : List Nat) (tg : Expr) : List (Str × Nat) := match is, tg with
  | [i], .Name x _ => [(x, i)]
  | is, .Tuple ts _ _ => ownTs is ts
  | _, _ => []
mutual
def chkE (T : Tb) (N : List Str) : E → Scope → Expr → Bool
  | .var i, sc, .Name x _ => decide (N[i]? = some x) && visB sc x && nameOk x
  | .bor i, sc, .Name x _ => decide (N[i]? = some x) && visB sc x && nameOk x
  | .cst d, _, .Constant c _ _ => constB c d
  | .glb y d, sc, .Name x _ => match d with
    | .ty n => decide (x = y) && glB sc x && nameOk x && T.bl.contains x && decide (bootBuiltins x = some (.type n))
    | d => decide (x = y) && glB sc x && nameOk x && gcB T x d
  | .bin o a b, sc, .BinOp x op y _ => bopB o op && chkE T N a sc x && chkE T N b sc y
  | .neg a, sc, .UnaryOp .USub x _ => chkE T N a sc x
  | .cmp o a b, sc, .Compare x [op] [y] _ => copB o op && !behindInMarks op y && chkE T N a sc x && chkE T N b sc y
  | .chn o p a b c, sc, .Compare x [op, op'] [y, z] _ => copB o op && copB p op' && !lastMarks [op, op'] [y, z] && chkE T N a sc x && chkE T N b sc y && chkE T N c sc z
  | .and a b, sc, .BoolOp .And (x :: ys) p => chkE T N a sc x && (match ys with | [] => false | [y] => chkE T N b sc y | ys => chkE T N b sc (.BoolOp .And ys p))
  | .or a b, sc, .BoolOp .Or (x :: ys) p => chkE T N a sc x && (match ys with | [] => false | [y] => chkE T N b sc y | ys => chkE T N b sc (.BoolOp .Or ys p))
  | .not a, sc, .UnaryOp .Not x _ => chkE T N a sc x
  | .ite c a b, sc, .IfExp z x y _ => chkT T N c sc z && chkE T N a sc x && chkE T N b sc y
  | .tup a, sc, .Tuple es _ _ => chkX T N a sc es
  | .lst a, sc, .List es _ => chkX T N a sc es
  | .new a, sc, .List es _ => chkA T N a sc es
  | .dsp a, sc, .Dict ks vs _ => if isNil a then ks.isEmpty && vs.isEmpty else !ks.isEmpty && decide (ks.length ≤ 15) && decide (ks.length = vs.length) && chkP T N a sc ks vs
  | .idx a b, sc, .Subscript x y _ => notSlice y && chkE T N a sc x && chkE T N b sc y
  | .slc a lo hi, sc, .Subscript x (.Slice l h none _) _ => chkE T N a sc x && chkO (isNil lo) (chkE T N lo sc) l && chkO (isNil hi) (chkE T N hi sc) h
  | .cb f a, sc, .Call (.Name x _) es [] _ => decide (x = bfName f) && glB sc x && T.bl.contains x && !es.isEmpty && chkA T N a sc es
  | .bm m o a, sc, .Call (.Attribute x name apos) es [] pos => decide (name = bmName m) && plainBase x && (apos.endLine == pos.line) && decide (es.length < 30) && (es.isEmpty == isNil a) && chkE T N o sc x && chkA T N a sc es && strM m
  | .call f a, sc, .Call (.Name x _) es [] _ => decide (T.fn[f]? = some (some x)) && glB sc x && nameOk x && chkA T N a sc es
  | .callf f a, sc, .Call (.Name x _) es [] _ => decide (T.fnf[f]? = some (some x)) && glB sc x && nameOk x && chkA T N a sc es
  | .mthf g c m o a, sc, .Call (.Attribute x m' apos) es [] pos => decide (m = m') && plainBase x && (apos.endLine == pos.line) && decide (es.length < 30) && decide (((c, m), g) ∈ T.mtf) && chkE T N o sc x && chkA T N a sc es
  | .fmt a, sc, .FormattedValue x c none _ => decide (c = -1) && chkE T N a sc x
  | .fst a, sc, .JoinedStr es _ => decide (2 ≤ es.length) && chkA T N a sc es
  | .fld a f, sc, .Attribute x f' _ => decide (f = f') && plainBase x && chkE T N a sc x
  | .ofl i f, sc, .Attribute (.Name x _) f' _ => decide (f = f') && decide (N[i]? = some x) && visB sc x && nameOk x
  | .prp g c f a, sc, .Attribute x f' _ => decide (f = f') && plainBase x && decide (((c, f), g) ∈ T.pr) && chkE T N a sc x
  | .mth g c m o a, sc, .Call (.Attribute x m' apos) es [] pos => decide (m = m') && plainBase x && (apos.endLine == pos.line) && decide (es.length < 30) && decide (((c, m), g) ∈ T.mt) && chkE T N o sc x && chkA T N a sc es
  | .mk g c n ks a k, sc, .Call (.Name x _) es kws _ => decide (c = x) && glB sc x && nameOk x && decide (es.length = n) && decide ((c, g, n, ks) ∈ T.mks) && chkA T N a sc es && chkK T N k sc kws ks
  | .iso c _ a, sc, .Call (.Name i _) [x, .Name y _] [] _ => decide (i = "isinstance") && glB sc i && T.bl.contains i && noStar x && chkE T N a sc x && decide (y = c) && glB sc y && nameOk y && T.cs.contains c
  | .ceq o g c _ a b, sc, .Compare x [op] [y] _ => copB o op && !behindInMarks op y && decide (((c, ("__eq__" : Str)), g) ∈ T.mt) && chkE T N a sc x && chkE T N b sc y
  | .mkx g c m a, sc, .Call (.Name x _) es [] _ => decide (c = x) && glB sc x && nameOk x && decide ((c, g, m) ∈ T.mkx) && headNS es && chkX T N a sc es
  | .smc g c m a, sc, .Call (.Attribute (.Name x _) m' apos) es [] pos => decide (m = m') && decide (c = x) && glB sc x && nameOk x && (apos.endLine == pos.line) && decide (es.length < 30) && !es.isEmpty && T.cs.contains c && decide (((c, m), g) ∈ T.sm) && chkA T N a sc es
  | .gti g c a b, sc, .Subscript x y _ => notSlice y && decide (((c, ("__getitem__" : Str)), g) ∈ T.mt) && chkE T N a sc x && chkE T N b sc y
  | .own1 f g c a, sc, .Call (.Name x _) [y] [] _ => decide (x = f.call) && glB sc x && T.bl.contains x && noStar y && decide (((c, f.name), g) ∈ T.mt) && chkE T N a sc y
  | .cno n g c a b, sc, .Compare x [op] [y] _ => copB (if n then .notin else .inn) op && !behindInMarks op y && decide (((c, ("__contains__" : Str)), g) ∈ T.mt) && chkE T N a sc x && chkE T N b sc y
  | .dgx d k, sc, .Subscript x y _ => notSlice y && chkE T N d sc x && chkE T N k sc y
  | .dgt d k z, sc, .Call (.Attribute x m apos) (e :: fs) [] pos => decide (m = "get") && plainBase x && (apos.endLine == pos.line) && noStar e && chkE T N d sc x && chkE T N k sc e && chkL (isNil z) (chkE T N z sc) fs
  | .din n k d, sc, .Compare y [op] [x] _ => copB (if n then .notin else .inn) op && !behindInMarks op x && chkE T N k sc y && chkE T N d sc x
  | .kct z _, sc, .Name x _ => decide (z = x) && glB sc x && nameOk x && T.cs.contains x
  | .kdg z _ k, sc, .Subscript (.Name x _) y _ => decide (z = x) && glB sc x && nameOk x && T.kd.contains x && notSlice y && chkE T N k sc y
  | .kdi n z _ k, sc, .Compare y [op] [.Name x p] _ => copB (if n then .notin else .inn) op && !behindInMarks op (.Name x p) && decide (z = x) && glB sc x && nameOk x && T.kd.contains x && chkE T N k sc y
  | .lc j src c e, sc, .ListComp el [⟨.Name y _, it, ifs, 0⟩] scope _ => notSet it && blkC N sc scope [(y, j)] && locB scope y && chkE T N src sc it &&
      chkI (isNil c) (chkT T N c (relS scope sc)) ifs && chkE T N e (relS scope sc) el
  | .lct is k s a c e, sc, .ListComp el [⟨tg, it, ifs, 0⟩] scope _ => !isItm k && srcB T N sc k it tg && tgB is tg (fun i x => decide (N[i]? = some x) && locB scope x) && blkC N sc scope (ownT is tg) && (if isAny k then chkE T N s sc it else chkA T N a sc (srcEs it)) &&
      chkI (isNil c) (chkT T N c (relS scope sc)) ifs && chkE T N e (relS scope sc) el
  | .lcr j a c e, sc, .ListComp el [⟨.Name y _, .Call (.Name r _) es [] _, ifs, 0⟩] scope _ => decide (r = "range") && glB sc r && T.bl.contains r && !es.isEmpty && blkC N sc scope [(y, j)] && locB scope y && chkA T N a sc es &&
      chkI (isNil c) (chkT T N c (relS scope sc)) ifs && chkE T N e (relS scope sc) el
  | .lc2 j src j1 src1 c e, sc, .ListComp el [⟨.Name y _, it, [], 0⟩, ⟨.Name y1 _, it1, ifs, 0⟩] scope _ => notSet it && notSet it1 && blkC N sc scope [(y, j), (y1, j1)] && locB scope y && locB scope y1 && chkE T N src sc it &&
      chkE T N src1 (relS scope sc) it1 && chkI (isNil c) (chkT T N c (relS scope sc)) ifs && chkE T N e (relS scope sc) el
  | _, _, _ => false
def chkA (T : Tb) (N : List Str) : E → Scope → List Expr → Bool
  | .nil, _, [] => true
  | .cons a b, sc, x :: xs => noStar x && chkE T N a sc x && chkA T N b sc xs
  | _, _, _ => false
/-- .. with starred ones -/
def chkX (T : Tb) (N : List Str) : E → Scope → List Expr → Bool
  | .nil, _, [] => true
  | .cons a b, sc, x :: xs => noStar x && chkE T N a sc x && chkX T N b sc xs
  | .star a b, sc, .Starred x _ :: xs => chkE T N a sc x && chkX T N b sc xs
  | _, _, _ => false
def chkK (T : Tb) (N : List Str) : E → Scope → List Keyword → List Str → Bool
  | .nil, _, [], [] => true
  | .cons a b, sc, ⟨some n, x, _⟩ :: xs, k :: ks => decide (n = k) && chkE T N a sc x && chkK T N b sc xs ks
  | _, _, _, _ => false
def chkP (T : Tb) (N : List Str) : E → Scope → List (Option Expr) → List Expr → Bool
  | .nil, _, [], [] => true
  | .con2 k v r, sc, some x :: xs, y :: ys => chkE T N k sc x && chkE T N v sc y && chkP T N r sc xs ys
  | _, _, _, _ => false
def chkT (T : Tb) (N : List Str) : E → Scope → Expr → Bool
  | .and a b, sc, .BoolOp .And (x :: ys) p => chkT T N a sc x && (match ys with | [] => false | [y] => chkT T N b sc y | ys => chkT T N b sc (.BoolOp .And ys p))
  | .or a b, sc, .BoolOp .Or (x :: ys) p => chkT T N a sc x && (match ys with | [] => false | [y] => chkT T N b sc y | ys => chkT T N b sc (.BoolOp .Or ys p))
  | .not a, sc, .UnaryOp .Not x _ => chkT T N a sc x
  | .tst a, sc, x => plainT x && chkE T N a sc x
  | .tcm o a b, sc, .Compare x [op] [y] _ => copB o op && !behindInMarks op y && chkE T N a sc x && chkE T N b sc y
  | .tcno n g c a b, sc, .Compare x [op] [y] _ => copB (if n then .notin else .inn) op && !behindInMarks op y && decide (((c, ("__contains__" : Str)), g) ∈ T.mt) && chkE T N a sc x && chkE T N b sc y
  | .tceq o g c _ a b, sc, .Compare x [op] [y] _ => copB o op && !behindInMarks op y && decide (((c, ("__eq__" : Str)), g) ∈ T.mt) && chkE T N a sc x && chkE T N b sc y
  | .tch o p a b c, sc, .Compare x [op, op'] [y, z] _ => copB o op && copB p op' && !lastMarks [op, op'] [y, z] && chkE T N a sc x && chkE T N b sc y && chkE T N c sc z
  | .tdin n k d, sc, .Compare y [op] [x] _ => copB (if n then .notin else .inn) op && !behindInMarks op x && chkE T N k sc y && chkE T N d sc x
  | _, _, _ => false
end
-- an except suite's expression; slot k: the error, of class c0
mutual
def chkH (T : Tb) (N : List Str) (k : Option Nat) (c0 : Str) : E → Scope → Expr → Bool
  | .var i, sc, .Name x _ => decide (N[i]? = some x) && visB sc x && nameOk x
  | .cst d, _, .Constant c _ _ => constB c d
  | .exf c f i, sc, .Attribute (.Name x _) f' _ => decide (k = some i) && true && decide (f = f') && decide (N[i]? = some x) && visB sc x && nameOk x && (match T.ex.lookup c with | some fs => fs.contains f | none => false)
  | .cmp o a b, sc, .Compare x [op] [y] _ => isOp o && copB o op && !behindInMarks op y && chkH T N k c0 a sc x && chkH T N k c0 b sc y
  | .tup a, sc, .Tuple es _ _ => chkHs T N k c0 a sc es
  | .lst a, sc, .List es _ => chkHs T N k c0 a sc es
  | _, _, _ => false
def chkHs (T : Tb) (N : List Str) (k : Option Nat) (c0 : Str) : E → Scope → List Expr → Bool
  | .nil, _, [] => true
  | .cons a b, sc, x :: xs => noStar x && chkH T N k c0 a sc x && chkHs T N k c0 b sc xs
  | _, _, _ => false
end
end PF
/-! What the run of the head asks: definitions only, so that the run stands early in the pasted text. -/
namespace PF
open PySem L2 PySem.Spec PyProof.Rows
def slotsB (sl : Array (Option Value)) : Bool := match sl.toList with
  | [_, _, _, _, some (.builtin n), _] => decide (n = "ValueError.__new__")
  | _ => false
def mroB (C : Addr) : List Value → Bool
  | .ref C' :: bm => decide (C' = C) && HandSPX.refsVE bm
  | _ => false
def oexB (K : PySem.W.Frag) (C : Addr) : Bool :=
  (match K.lookup C with
  | some ⟨.type t, _, .cls cd, sl⟩ => decide (t = "type") && cd.hasDict && !cd.hasDel && slotsB sl && mroB C cd.mro
  | _ => false) &&
  decide (PySem.W.findIn K (.ref C) "__setattr__" = some (some (.builtin "object.__setattr__"))) && decide (PySem.W.subIn K (.ref C) (.type "BaseException") = some true) && decide (PySem.W.typeIn K (.ref C) = some (.type "type")) && PySem.W.keepIn K (.ref C)
/-- a def: where it stands, its names, its statement, its slots and parameters, its compact text; glo: a def of the module -/
structure Df where
  ad : PySem.W.Frag → Addr
  x : Str
  qual : Str
  st : Stmt
  N : List Str
  ps : List Str
  fn : Fn
  glo : Bool := true
  gx : Str := x
/-- names and parameters besides the instance that an __init__ fills -/
def Df.off (d : Df) : Nat := if d.fn.ini.isSome then 1 else 0
inductive At where
  | g (x : Str) | m (c m : Str) | p (c f : Str) | s (c m : Str)
  deriving DecidableEq
def gtA (K : PySem.W.Frag) (c f : Str) : Addr := match PySem.W.findIn K (.ref (He.ga K c)) f with
  | some (some (.ref p)) => (match PySem.W.recIn K p "property" with
    | some (.ref g :: _) => g
    | _ => 0)
  | _ => 0
def stA (K : PySem.W.Frag) (c f : Str) : Addr := match PySem.W.findIn K (.ref (He.ga K c)) f with
  | some (some (.ref p)) => (match PySem.W.recIn K p "staticmethod" with
    | some (.ref g :: _) => g
    | _ => 0)
  | _ => 0
def fcB (o : Option PySem.W.CFound) (p c : Addr) : Bool := match o with
  | some (.get (.builtin n) (.ref p') .none (.ref c')) => decide (n = "staticmethod.__get__") && (decide (p' = p) && decide (c' = c))
  | _ => false
/-- the staticmethod m of the class c -/
def smB (K : PySem.W.Frag) (c m : Str) : Bool := match PySem.W.findIn K (.ref (He.ga K c)) m with
  | some (some (.ref p)) => (match PySem.W.recIn K p "staticmethod", PySem.W.typeIn K (.ref (He.ga K c)) with
    | some (.ref g :: _), some mc => PySem.W.readsIn K (He.ga K c) mc && (fcB (PySem.W.findCls K (.ref (He.ga K c)) mc m) p (He.ga K c) && (He.eqO (PySem.W.specialIn K (.ref (He.ga K c)) "__getattribute__") (some (some (.builtin "type.__getattribute__"))) && PySem.W.keepIn K (.ref g)))
    | _, _ => false)
  | _ => false
def At.ad (K : PySem.W.Frag) : At → Addr
  | .g x1 => He.ga K x1
  | .m c1 f1 => He.ma K (He.ga K c1) f1
  | .p c1 f1 => gtA K c1 f1
  | .s c1 f1 => stA K c1 f1
/-- the property f of the class c -/
def prpB (K : PySem.W.Frag) (c f : Str) : Bool := match PySem.W.findIn K (.ref (He.ga K c)) f with
  | some (some (.ref p)) => He.eqO (PySem.W.specialIn K (.ref p) "__get__") (some (some (.builtin "property.__get__"))) && (decide (PySem.W.takesIn K (.ref p) = some true) && (match PySem.W.recIn K p "property" with
    | some (.ref _ :: _) => true
    | _ => false))
  | _ => false
def fnWa (K : PySem.W.Frag) (a : Addr) : He.FnW := match K.lookup a with
  | some ⟨_, _, .func fd, _⟩ => some (fd.name, fd.qualname, fd.params, fd.body, fd.scope, fd.globals, fd.closure, fd.builtins)
  | _ => none
def okA (K : PySem.W.Frag) (a : Addr) (q : Str) : Bool := PySem.W.keepIn K (.ref a) && (match K.lookup a with
  | some ⟨_, _, .func fd, _⟩ => PySem.W.codeIn K fd.code q && (He.dflB K fd.defaults [] && He.kwdB K fd.kwdefaults [])
  | _ => false)
def Df.val (d : Df) : He.FnW := some (d.x, d.qual, defArgs d.st, .stmts (defBody d.st), defScope d.st, mainGlobals, [], builtinsNs)
abbrev AlP : Type := He.AlX × List He.FnW
/-- what the names reach, and the table of the interpreter's own statics (a staticmethod's reading looks there): asked once, offline, to write the addresses down -/
def asP (g : Addr → Option Obj) (n : Nat) : List Addr := He.asD g n ++ [cStatics]
def encP (as : List Addr) : Nat := as.foldl (fun r a => r * 4294967296 + a + 1) 0
def obsP (as : List Addr) (fa : List He.Fa) (fn : List He.DefD) (ts : List He.Tab) (ex : PySem.W.Frag → Bool) (gs : List ((PySem.W.Frag → Addr) × He.FnW)) (g : Addr → Option Obj) : AlP :=
  ((He.obsT fa fn ts (He.frT g as), ex (He.frT g as)), gs.map fun d => fnWa (He.frT g as) (d.1 (He.frT g as)))
theorem saysP_of {fa : List He.Fa} {fn : List He.DefD} {ts : List He.Tab} {ex : PySem.W.Frag → Bool} {w : World} {h : Heap} {K : PySem.W.Frag} (e : ((He.obsT fa fn ts K, ex K) : He.AlX) = He.valX fn ts w) : He.SaysX fa fn ts [] ex w h K :=
  ⟨congrArg (fun z : He.AlX => z.1) e, congrArg (fun z : He.AlX => z.2) e, fun p hp => (List.not_mem_nil hp).elim, fun p hp => (List.not_mem_nil hp).elim, fun p hp => (List.not_mem_nil hp).elim⟩
def hookP (as : List Addr) (fa : List He.Fa) (fn : List He.DefD) (ts : List He.Tab) (ex : PySem.W.Frag → Bool) (gs : List ((PySem.W.Frag → Addr) × He.FnW)) : PySem.W.Hook where
  α := AlP
  obs := fun s => obsP as fa fn ts ex gs s.heap.get?
  val := fun w => (He.valX fn ts w, gs.map (·.2))
  says := fun w h => ∃ K : PySem.W.Frag, K.In h ∧ He.SaysX fa fn ts [] ex w h K ∧ (gs.map fun d => fnWa K (d.1 K)) = gs.map (·.2)
  of := fun _ _ e => ⟨_, He.frT_in, saysP_of (ts := ts) (fn := fn) (Prod.mk.inj e).1, (Prod.mk.inj e).2⟩
  keeps := fun _ _ _ ⟨K, hK, c, e⟩ k => ⟨K, PySem.W.Frag.In.keeps hK k, ⟨c.t, c.more, c.hd, c.out, fun p hp => k _ _ (c.empty p hp)⟩, e⟩
theorem obsP_eq {as : List Addr} {fa : List He.Fa} {fn : List He.DefD} {ts : List He.Tab} {ex : PySem.W.Frag → Bool} {gs : List ((PySem.W.Frag → Addr) × He.FnW)} {g : Addr → Option Obj} {s : Shared} (h : ∀ a, g a = s.heap.get? a) : obsP as fa fn ts ex gs g = (hookP as fa fn ts ex gs).obs s := by
  have e : g = s.heap.get? := funext h
  rw [e] <;> rfl
def gcFa : Str × D → He.Fa
  | (x, .int i) => .int x i
  | (x, .str s) => .str x (tx s)
  | (x, _) => .free x
def gcOkB : Str × D → Bool
  | (_, .int _) => true
  | (_, .str _) => true
  | _ => false
def clsB : Stmt → List Stmt
  | .ClassDef _ _ _ b _ _ _ _ _ _ _ => b
  | _ => []
/-- an error class with its __init__ -/
structure Xd where
  c : Str
  fs : List Str
  qual : Str
  st : Stmt
/-- a written dict with text keys: its name, its keys in order -/
abbrev Kd : Type := Str × List Str
def faOf (T : Tb) (Xs : List Xd) : List He.Fa := T.bl.map .free ++ (T.gc.map gcFa ++ (Xs.map (fun x => .glo x.c) ++ (Xs.flatMap (fun x => x.fs.map (.noat x.c)) ++ (T.cs.map .glo ++ (T.kd.map .glo ++ (T.mks.flatMap (fun q => [.glo q.1, .mkr q.1]) ++ (T.mt.map (fun q => .meth q.1.1 q.1.2) ++ (T.mtf.map (fun q => .meth q.1.1 q.1.2) ++ T.mkx.flatMap (fun q => [.glo q.1, .mkr q.1])))))))))
def fnsOf (Xs : List Xd) : List He.DefD := Xs.map fun x => ⟨(x.c, some "__init__"), "__init__", x.qual, defArgs x.st, defBody x.st, defScope x.st, [], []⟩
def tsOf (ks : List Kd) : List He.Tab := ks.map fun q => (fun K => He.ga K q.1, q.2)
def gsOf (Ds : List Df) : List ((PySem.W.Frag → Addr) × He.FnW) := Ds.map fun d => (d.ad, d.val)
def exB (T : Tb) (Ds : List Df) (Xs : List Xd) (K : PySem.W.Frag) : Bool :=
  (Xs.all fun x => oexB K (He.ga K x.c) && xfB K (He.ga K x.c) && decide (PySem.W.findIn K (.ref (He.ga K x.c)) "__init__" = some (some (.ref (He.ma K (He.ga K x.c) "__init__")))) && decide (PySem.W.typeIn K (.ref (He.ma K (He.ga K x.c) "__init__")) = some (.type "function"))) &&
  ((Ds.all fun d => okA K (d.ad K) d.qual) && ((Ds.all fun d => (fcS d.fn.body).all (Kf.ok K)) && ((Ds.all fun d => !d.glo || decide (PySem.W.nsIn K mainGlobals d.gx = some (some (.ref (He.ga K d.gx))))) && ((T.pr.all fun q => prpB K q.1.1 q.1.2) && (((T.mt ++ T.mtf ++ T.pr).all fun q => (He.Fa.cls q.1.1).ok K) && ((T.sm.all fun q => smB K q.1.1 q.1.2) && T.mt.all fun q => decide (q.1.2 ≠ "__len__") || (He.Fa.noat q.1.1 "__bool__").ok K))))))
end PF
namespace Lw
open PySem L2 PF
def topS (i : Nat) : Stmt := PySem.Challenge.pw_soleinstances_k09_heads_told.main.body.getD i (.Pass ⟨0, 0, 0, 0⟩)
/-- is_name -/
def c0 : S := (.seq (.ite (.or (.not (.tst (.cb .isi (.cons (.var 0) (.cons (.glb "str" (.ty "str")) .nil))))) (.not (.tch .le .le (.cst (.int 1)) (.cb .len (.cons (.var 0) .nil)) (.glb "MOST_LETTERS" (.int 8))))) (.seq (.ret (.cst (.bl false))) .skip) .skip) (.seq (.ret (.cb .all (.cons (.lc 1 (.var 0) .nil (.cmp .inn (.var 1) (.glb "LOWER" (.str [97, 98, 99, 100, 101, 102, 103, 104, 105, 106, 107, 108, 109, 110, 111, 112, 113, 114, 115, 116, 117, 118, 119, 120, 121, 122])))) .nil))) .skip))
/-- is_constructor -/
def c1 : S := (.seq (.ite (.or (.not (.tst (.cb .isi (.cons (.var 0) (.cons (.glb "str" (.ty "str")) .nil))))) (.or (.not (.tch .le .le (.cst (.int 1)) (.cb .len (.cons (.var 0) .nil)) (.glb "MOST_LETTERS" (.int 8)))) (.tcm .notin (.idx (.var 0) (.cst (.int 0))) (.glb "UPPER" (.str [65, 66, 67, 68, 69, 70, 71, 72, 73, 74, 75, 76, 77, 78, 79, 80, 81, 82, 83, 84, 85, 86, 87, 88, 89, 90]))))) (.seq (.ret (.cst (.bl false))) .skip) .skip) (.seq (.ret (.cb .all (.cons (.lc 1 (.slc (.var 0) (.cst (.int 1)) .nil) .nil (.cmp .inn (.var 1) (.glb "LOWER" (.str [97, 98, 99, 100, 101, 102, 103, 104, 105, 106, 107, 108, 109, 110, 111, 112, 113, 114, 115, 116, 117, 118, 119, 120, 121, 122])))) .nil))) .skip))
/-- is_integer -/
def c2 : S := (.seq (.ret (.and (.cb .isi (.cons (.var 0) (.cons (.glb "int" (.ty "int")) .nil))) (.not (.cb .isi (.cons (.var 0) (.cons (.glb "bool" (.ty "bool")) .nil)))))) .skip)
/-- is_index -/
def c3 : S := (.seq (.ret (.and (.call 2 (.cons (.var 0) .nil)) (.chn .le .lt (.cst (.int 0)) (.var 0) (.var 1)))) .skip)
/-- is_variable -/
def c4 : S := (.seq (.ret (.cmp .inn (.idx (.idx (.var 0) (.cst (.int 0))) (.cst (.int 0))) (.glb "LOWER" (.str [97, 98, 99, 100, 101, 102, 103, 104, 105, 106, 107, 108, 109, 110, 111, 112, 113, 114, 115, 116, 117, 118, 119, 120, 121, 122])))) .skip)
/-- names_of -/
def c5 : S := (.seq (.own 1 (.lst (.cons (.idx (.var 0) (.cst (.int 0))) .nil))) (.seq (.for_ 2 (.slc (.var 0) (.cst (.int 1)) .nil) (.seq (.ext 1 (.call 5 (.cons (.var 2) .nil))) .skip)) (.seq (.frz 1) (.seq (.ret (.var 1)) .skip))))
/-- depth_of -/
def c6 : S := (.seq (.set 1 (.cst (.int 0))) (.seq (.for_ 2 (.slc (.var 0) (.cst (.int 1)) .nil) (.seq (.set 3 (.call 6 (.cons (.var 2) .nil))) (.seq (.ite (.tcm .gt (.var 3) (.var 1)) (.seq (.set 1 (.var 3)) .skip) .skip) .skip))) (.seq (.ret (.bin .add (.var 1) (.cst (.int 1)))) .skip)))
/-- once -/
def c7 : S := (.seq (.own 1 (.lst .nil)) (.seq (.for_ 2 (.var 0) (.seq (.ite (.tcm .notin (.var 2) (.bor 1)) (.seq (.app 1 (.var 2)) .skip) .skip) .skip)) (.seq (.frz 1) (.seq (.ret (.var 1)) .skip))))
/-- variables_of -/
def c8 : S := (.seq (.own 1 (.lst .nil)) (.seq (.for_ 2 (.var 0) (.seq (.ext 1 (.lc 3 (.call 5 (.cons (.var 2) .nil)) (.tcm .inn (.idx (.var 3) (.cst (.int 0))) (.glb "LOWER" (.str [97, 98, 99, 100, 101, 102, 103, 104, 105, 106, 107, 108, 109, 110, 111, 112, 113, 114, 115, 116, 117, 118, 119, 120, 121, 122]))) (.var 3))) .skip)) (.seq (.frz 1) (.seq (.ret (.call 7 (.cons (.var 1) .nil))) .skip))))
/-- tops_of -/
def c9 : S := (.seq (.ite (.tst (.call 4 (.cons (.var 0) .nil))) (.seq (.ret (.lst .nil)) .skip) .skip) (.seq (.own 1 (.lst (.cons (.tup (.cons (.idx (.var 0) (.cst (.int 0))) (.cons (.bin .sub (.cb .len (.cons (.var 0) .nil)) (.cst (.int 1))) .nil))) .nil))) (.seq (.for_ 2 (.slc (.var 0) (.cst (.int 1)) .nil) (.seq (.ext 1 (.call 9 (.cons (.var 2) .nil))) .skip)) (.seq (.frz 1) (.seq (.ret (.var 1)) .skip)))))
/-- constructors_of -/
def c10 : S := (.seq (.own 1 (.lst .nil)) (.seq (.for_ 2 (.var 0) (.seq (.ext 1 (.call 9 (.cons (.var 2) .nil))) .skip)) (.seq (.frz 1) (.seq (.ret (.call 7 (.cons (.var 1) .nil))) .skip))))
/-- text_of -/
def c11 : S := (.seq (.ite (.tcm .eq (.cb .len (.cons (.var 0) .nil)) (.cst (.int 1))) (.seq (.ret (.idx (.var 0) (.cst (.int 0)))) .skip) .skip) (.seq (.ret (.bin .add (.bin .add (.bin .add (.idx (.var 0) (.cst (.int 0))) (.cst (.str [40]))) (.bm .join (.cst (.str [44])) (.cons (.lc 1 (.slc (.var 0) (.cst (.int 1)) .nil) .nil (.call 11 (.cons (.var 1) .nil))) .nil))) (.cst (.str [41])))) .skip))
/-- word_at -/
def c12 : S := (.seq (.set 2 (.var 1)) (.seq (.whl (.and (.tcm .lt (.var 2) (.cb .len (.cons (.var 0) .nil))) (.or (.tcm .inn (.idx (.var 0) (.var 2)) (.glb "LOWER" (.str [97, 98, 99, 100, 101, 102, 103, 104, 105, 106, 107, 108, 109, 110, 111, 112, 113, 114, 115, 116, 117, 118, 119, 120, 121, 122]))) (.tcm .inn (.idx (.var 0) (.var 2)) (.glb "UPPER" (.str [65, 66, 67, 68, 69, 70, 71, 72, 73, 74, 75, 76, 77, 78, 79, 80, 81, 82, 83, 84, 85, 86, 87, 88, 89, 90]))))) (.seq (.set 2 (.bin .add (.var 2) (.cst (.int 1)))) .skip)) (.seq (.ret (.slc (.var 0) (.var 1) (.var 2))) .skip)))
/-- parts_at -/
def c13 : S := (.seq (.own 3 (.lst .nil)) (.seq (.whl (.and (.tcm .lt (.var 1) (.cb .len (.cons (.var 0) .nil))) (.tcm .inn (.idx (.var 0) (.var 1)) (.ite (.tcm .eq (.bor 3) (.lst .nil)) (.cst (.str [40])) (.cst (.str [44]))))) (.seq (.set 4 (.call 14 (.cons (.var 0) (.cons (.bin .add (.var 1) (.cst (.int 1))) .nil)))) (.seq (.ite (.or (.tcm .is (.var 4) (.cst .non)) (.tcm .eq (.cb .len (.cons (.bor 3) .nil)) (.var 2))) (.seq (.ret (.cst .non)) .skip) .skip) (.seq (.app 3 (.idx (.var 4) (.cst (.int 0)))) (.seq (.set 1 (.idx (.var 4) (.cst (.int 1)))) .skip))))) (.seq (.ite (.or (.tcm .eq (.bor 3) (.lst .nil)) (.or (.tcm .eq (.var 1) (.cb .len (.cons (.var 0) .nil))) (.tcm .ne (.idx (.var 0) (.var 1)) (.cst (.str [41]))))) (.seq (.ret (.cst .non)) .skip) .skip) (.seq (.frz 3) (.seq (.ret (.tup (.cons (.var 3) (.cons (.bin .add (.var 1) (.cst (.int 1))) .nil)))) .skip)))))
/-- term_at -/
def c14 : S := (.seq (.set 2 (.call 12 (.cons (.var 0) (.cons (.var 1) .nil)))) (.seq (.set 3 (.bin .add (.var 1) (.cb .len (.cons (.var 2) .nil)))) (.seq (.ite (.tst (.call 0 (.cons (.var 2) .nil))) (.seq (.ret (.tup (.cons (.tup (.cons (.var 2) .nil)) (.cons (.var 3) .nil)))) .skip) .skip) (.seq (.ite (.not (.tst (.call 1 (.cons (.var 2) .nil)))) (.seq (.ret (.cst .non)) .skip) .skip) (.seq (.ite (.or (.tcm .eq (.var 3) (.cb .len (.cons (.var 0) .nil))) (.tcm .ne (.idx (.var 0) (.var 3)) (.cst (.str [40])))) (.seq (.ret (.tup (.cons (.tup (.cons (.var 2) .nil)) (.cons (.var 3) .nil)))) .skip) .skip) (.seq (.set 4 (.call 13 (.cons (.var 0) (.cons (.var 3) (.cons (.glb "MOST_PARTS" (.int 2)) .nil))))) (.seq (.ite (.tcm .is (.var 4) (.cst .non)) (.seq (.ret (.cst .non)) .skip) .skip) (.seq (.ret (.tup (.cons (.tup (.cons (.var 2) (.star (.idx (.var 4) (.cst (.int 0))) .nil))) (.cons (.idx (.var 4) (.cst (.int 1))) .nil)))) .skip))))))))
/-- read_raw -/
def c15 : S := (.seq (.ite (.or (.not (.tst (.cb .isi (.cons (.var 0) (.cons (.glb "str" (.ty "str")) .nil))))) (.tcm .gt (.bm .count (.var 0) (.cons (.cst (.str [40])) .nil)) (.glb "MOST_NESTED" (.int 200)))) (.seq (.ret (.cst .non)) .skip) .skip) (.seq (.set 1 (.call 14 (.cons (.var 0) (.cons (.cst (.int 0)) .nil)))) (.seq (.ite (.or (.tcm .is (.var 1) (.cst .non)) (.tcm .ne (.idx (.var 1) (.cst (.int 1))) (.cb .len (.cons (.var 0) .nil)))) (.seq (.ret (.cst .non)) .skip) .skip) (.seq (.ret (.idx (.var 1) (.cst (.int 0)))) .skip))))
/-- read_raw_head -/
def c16 : S := (.seq (.ite (.or (.not (.tst (.cb .isi (.cons (.var 0) (.cons (.glb "str" (.ty "str")) .nil))))) (.tcm .gt (.bm .count (.var 0) (.cons (.cst (.str [40])) .nil)) (.glb "MOST_NESTED" (.int 200)))) (.seq (.ret (.cst .non)) .skip) .skip) (.seq (.set 1 (.call 12 (.cons (.var 0) (.cons (.cst (.int 0)) .nil)))) (.seq (.ite (.not (.tst (.call 0 (.cons (.var 1) .nil)))) (.seq (.ret (.cst .non)) .skip) .skip) (.seq (.set 2 (.call 13 (.cons (.var 0) (.cons (.cb .len (.cons (.var 1) .nil)) (.cons (.glb "MOST_PLACES" (.int 3)) .nil))))) (.seq (.ite (.or (.tcm .is (.var 2) (.cst .non)) (.tcm .ne (.idx (.var 2) (.cst (.int 1))) (.cb .len (.cons (.var 0) .nil)))) (.seq (.ret (.cst .non)) .skip) .skip) (.seq (.ret (.tup (.cons (.var 1) (.cons (.idx (.var 2) (.cst (.int 0))) .nil)))) .skip))))))
/-- put_into -/
def c17 : S := (.seq (.ite (.tst (.call 4 (.cons (.var 0) .nil))) (.seq (.ret (.dgt (.var 1) (.idx (.var 0) (.cst (.int 0))) (.var 0))) .skip) .skip) (.seq (.set 2 (.lc 3 (.slc (.var 0) (.cst (.int 1)) .nil) .nil (.call 17 (.cons (.var 3) (.cons (.var 1) .nil))))) (.seq (.ret (.tup (.cons (.idx (.var 0) (.cst (.int 0))) (.star (.var 2) .nil)))) .skip)))
/-- raw_of -/
def c18 : S := (.seq (.set 1 (.ite (.tst (.iso "Term" [(.b "NoneType", false), (.b "bool", false), (.b "int", false), (.b "str", false), (.b "list", false), (.b "tuple", false), (.b "dict", false), (.o "Term", true), (.o "Head", false)] (.var 0))) (.fld (.var 0) "own_raw") (.call 15 (.cons (.var 0) .nil)))) (.seq (.ite (.tcm .is (.var 1) (.cst .non)) (.seq (.rse "InvalidTerm" ["value"] (.cons (.var 0) .nil)) .skip) .skip) (.seq (.ret (.var 1)) .skip)))
/-- term_of -/
def c19 : S := (.seq (.set 1 (.lc 2 (.slc (.var 0) (.cst (.int 1)) .nil) .nil (.call 19 (.cons (.var 2) .nil)))) (.seq (.ret (.mkx 21 "Term" 1 (.cons (.idx (.var 0) (.cst (.int 0))) (.star (.var 1) .nil)))) .skip))
/-- raws_put -/
def c20 : S := (.seq (.ite (.not (.tst (.cb .isi (.cons (.var 0) (.cons (.glb "dict" (.ty "dict")) .nil))))) (.seq (.ret (.cst .non)) .skip) .skip) (.seq (.own 1 (.dsp .nil)) (.seq (.for2 [2, 3] (.itm 0) .nil .nil (.seq (.set 4 (.ite (.tst (.iso "Term" [(.b "NoneType", false), (.b "bool", false), (.b "int", false), (.b "str", false), (.b "list", false), (.b "tuple", false), (.b "dict", false), (.o "Term", true), (.o "Head", false)] (.var 3))) (.fld (.var 3) "own_raw") (.call 15 (.cons (.var 3) .nil)))) (.seq (.ite (.or (.not (.tst (.call 0 (.cons (.var 2) .nil)))) (.tcm .is (.var 4) (.cst .non))) (.seq (.ret (.cst .non)) .skip) .skip) (.seq (.dput 1 (.var 2) (.var 4)) .skip)))) (.seq (.frz 1) (.seq (.ret (.var 1)) .skip)))))
/-- Term.__init__ -/
def c21 : S := (.seq (.ite (.and (.not (.tst (.call 0 (.cons (.var 1) .nil)))) (.not (.tst (.call 1 (.cons (.var 1) .nil))))) (.seq (.rse "InvalidTerm" ["value"] (.cons (.var 1) .nil)) .skip) .skip) (.seq (.set 3 (.lc 4 (.var 2) .nil (.call 18 (.cons (.var 4) .nil)))) (.seq (.ite (.or (.tcm .gt (.cb .len (.cons (.var 3) .nil)) (.glb "MOST_PARTS" (.int 2))) (.and (.tcm .ne (.var 3) (.lst .nil)) (.tst (.call 0 (.cons (.var 1) .nil))))) (.seq (.rse "InvalidTerm" ["value"] (.cons (.var 1) .nil)) .skip) .skip) (.seq (.sfl 0 "Term" "own_raw" (.tup (.cons (.var 1) (.star (.var 3) .nil)))) .skip))))
/-- Term.read -/
def c22 : S := (.seq (.set 1 (.call 15 (.cons (.var 0) .nil))) (.seq (.ite (.tcm .is (.var 1) (.cst .non)) (.seq (.rse "InvalidTerm" ["value"] (.cons (.var 0) .nil)) .skip) .skip) (.seq (.ret (.call 19 (.cons (.var 1) .nil))) .skip)))
/-- Term.__str__ -/
def c23 : S := (.seq (.ret (.cb .str (.cons (.call 11 (.cons (.fld (.var 0) "own_raw") .nil)) .nil))) .skip)
/-- head_of -/
def c24 : S := (.seq (.set 2 (.lc 3 (.var 1) .nil (.call 19 (.cons (.var 3) .nil)))) (.seq (.ret (.mkx 25 "Head" 1 (.cons (.var 0) (.star (.var 2) .nil)))) .skip))
/-- Head.__init__ -/
def c25 : S := (.seq (.ite (.not (.tst (.call 0 (.cons (.var 1) .nil)))) (.seq (.rse "InvalidHead" ["value"] (.cons (.var 1) .nil)) .skip) .skip) (.seq (.own 3 (.lst .nil)) (.seq (.for_ 4 (.var 2) (.seq (.set 5 (.ite (.tst (.iso "Term" [(.b "NoneType", false), (.b "bool", false), (.b "int", false), (.b "str", false), (.b "list", false), (.b "tuple", false), (.b "dict", false), (.o "Term", true), (.o "Head", false)] (.var 4))) (.fld (.var 4) "own_raw") (.call 15 (.cons (.var 4) .nil)))) (.seq (.ite (.tcm .is (.var 5) (.cst .non)) (.seq (.rse "InvalidHead" ["value"] (.cons (.var 4) .nil)) .skip) .skip) (.seq (.app 3 (.var 5)) .skip)))) (.seq (.ite (.not (.tch .le .le (.cst (.int 1)) (.cb .len (.cons (.bor 3) .nil)) (.glb "MOST_PLACES" (.int 3)))) (.seq (.rse "InvalidHead" ["value"] (.cons (.var 1) .nil)) .skip) .skip) (.seq (.sfl 0 "Head" "task" (.var 1)) (.seq (.frz 3) (.seq (.sfl 0 "Head" "own_raws" (.var 3)) .skip)))))))
/-- Head.read -/
def c26 : S := (.seq (.set 1 (.call 16 (.cons (.var 0) .nil))) (.seq (.ite (.tcm .is (.var 1) (.cst .non)) (.seq (.rse "InvalidHead" ["value"] (.cons (.var 0) .nil)) .skip) .skip) (.seq (.ret (.call 24 (.cons (.idx (.var 1) (.cst (.int 0))) (.cons (.idx (.var 1) (.cst (.int 1))) .nil)))) .skip)))
/-- Head.is_closed -/
def c27 : S := (.seq (.ret (.cmp .eq (.call 8 (.cons (.fld (.var 0) "own_raws") .nil)) (.lst .nil))) .skip)
/-- Head.depth -/
def c28 : S := (.seq (.set 1 (.cst (.int 0))) (.seq (.for_ 2 (.fld (.var 0) "own_raws") (.seq (.set 1 (.ite (.tcm .gt (.call 6 (.cons (.var 2) .nil)) (.var 1)) (.call 6 (.cons (.var 2) .nil)) (.var 1))) .skip)) (.seq (.ret (.var 1)) .skip)))
/-- Head.size -/
def c29 : S := (.seq (.ret (.cb .sum (.cons (.lc 1 (.fld (.var 0) "own_raws") .nil (.cb .len (.cons (.call 5 (.cons (.var 1) .nil)) .nil))) .nil))) .skip)
/-- Head.places -/
def c30 : S := (.seq (.retf (.lc 1 (.fld (.var 0) "own_raws") .nil (.call 19 (.cons (.var 1) .nil)))) .skip)
/-- Head.variables -/
def c31 : S := (.seq (.ret (.call 8 (.cons (.fld (.var 0) "own_raws") .nil))) .skip)
/-- Head.constructors -/
def c32 : S := (.seq (.ret (.call 10 (.cons (.fld (.var 0) "own_raws") .nil))) .skip)
/-- Head.put -/
def c33 : S := (.seq (.set 2 (.call 20 (.cons (.var 1) .nil))) (.seq (.ite (.tcm .is (.var 2) (.cst .non)) (.seq (.rse "InvalidHead" ["value"] (.cons (.var 1) .nil)) .skip) .skip) (.seq (.ret (.call 24 (.cons (.fld (.var 0) "task") (.cons (.lc 3 (.fld (.var 0) "own_raws") .nil (.call 17 (.cons (.var 3) (.cons (.var 2) .nil)))) .nil)))) .skip)))
/-- Head.__getitem__ -/
def c34 : S := (.seq (.ite (.not (.tst (.call 3 (.cons (.var 1) (.cons (.cb .len (.cons (.fld (.var 0) "own_raws") .nil)) .nil))))) (.seq (.rse "NoPart" ["number"] (.cons (.var 1) .nil)) .skip) .skip) (.seq (.ret (.call 19 (.cons (.idx (.fld (.var 0) "own_raws") (.var 1)) .nil))) .skip))
/-- Head.__len__ -/
def c35 : S := (.seq (.ret (.cb .len (.cons (.fld (.var 0) "own_raws") .nil))) .skip)
/-- Head.__str__ -/
def c36 : S := (.seq (.set 1 (.bm .join (.cst (.str [44])) (.cons (.lc 2 (.fld (.var 0) "own_raws") .nil (.call 11 (.cons (.var 2) .nil))) .nil))) (.seq (.ret (.fst (.cons (.fmt (.fld (.var 0) "task")) (.cons (.cst (.str [40])) (.cons (.fmt (.var 1)) (.cons (.cst (.str [41])) .nil)))))) .skip))
/-- Head.__eq__ -/
def c37 : S := (.seq (.ret (.and (.iso "Head" [(.b "NoneType", false), (.b "bool", false), (.b "int", false), (.b "str", false), (.b "list", false), (.b "tuple", false), (.b "dict", false), (.o "Term", false), (.o "Head", true)] (.var 1)) (.cmp .eq (.tup (.cons (.fld (.var 0) "task") (.cons (.fld (.var 0) "own_raws") .nil))) (.tup (.cons (.fld (.var 1) "task") (.cons (.fld (.var 1) "own_raws") .nil)))))) .skip)
/-- _law_pool -/
def c38 : S := (.seq (.set 2 (.cst (.int 0))) (.seq (.ite (.tcm .lt (.var 1) (.cb .len (.cons (.var 0) .nil))) (.seq (.set 2 (.idx (.var 0) (.var 1))) .skip) .skip) (.seq (.set 3 (.cb .int (.cons (.var 2) .nil))) (.seq (.ite (.tcm .lt (.var 3) (.bin .pow (.cst (.int 10)) (.cst (.int 18)))) (.seq (.set 3 (.cst (.int 0))) .skip) .skip) (.seq (.set 4 (.bin .mod (.bin .pow (.bin .add (.bin .add (.bin .add (.bin .mod (.cb .int (.cons (.var 2) .nil)) (.cst (.int 2147483629))) (.bin .mul (.bin .mul (.cst (.int 104729)) (.var 1)) (.var 1))) (.bin .mul (.cst (.int 7919)) (.var 1))) (.cst (.int 11))) (.cst (.int 3))) (.cst (.int 2147483647)))) (.seq (.ret (.new (.cons (.var 3) (.cons (.cb .int (.cons (.var 4) .nil)) .nil)))) .skip))))))
/-- _law_draw -/
def c39 : S := (.seq (.ite (.tcm .gt (.idx (.var 0) (.cst (.int 0))) (.cst (.int 0))) (.seq (.set 2 (.bin .mod (.cb .int (.cons (.idx (.var 0) (.cst (.int 0))) .nil)) (.var 1))) (.seq (.put (.var 0) (.cst (.int 0)) (.bin .fdiv (.cb .int (.cons (.idx (.var 0) (.cst (.int 0))) .nil)) (.var 1))) (.seq (.ret (.var 2)) .skip))) .skip) (.seq (.put (.var 0) (.cst (.int 1)) (.bin .mod (.cb .int (.cons (.bin .add (.bin .mul (.idx (.var 0) (.cst (.int 1))) (.cst (.int 48271))) (.cst (.int 11))) .nil)) (.cst (.int 2147483647)))) (.seq (.ret (.bin .mod (.bin .fdiv (.bin .mod (.cb .int (.cons (.bin .mul (.idx (.var 0) (.cst (.int 1))) (.idx (.var 0) (.cst (.int 1)))) .nil)) (.cst (.int 2147483629))) (.cst (.int 64))) (.var 1))) .skip)))
/-- _law_pick -/
def c40 : S := (.seq (.ret (.idx (.var 1) (.call 39 (.cons (.var 0) (.cons (.cb .len (.cons (.var 1) .nil)) .nil))))) .skip)
/-- _law_plan -/
def c41 : S := (.seq (.set 2 (.call 39 (.cons (.var 0) (.cons (.cst (.int 7)) .nil)))) (.seq (.ite (.tcm .lt (.var 2) (.cst (.int 2))) (.seq (.ret (.tup (.cons (.call 40 (.cons (.var 0) (.cons (.lst (.cons (.cst (.str [120])) (.cons (.cst (.str [121])) (.cons (.cst (.str [122, 122])) .nil)))) .nil))) .nil))) .skip) .skip) (.seq (.ite (.or (.tcm .eq (.var 2) (.cst (.int 2))) (.tcm .lt (.var 1) (.cst (.int 2)))) (.seq (.ret (.tup (.cons (.call 40 (.cons (.var 0) (.cons (.lst (.cons (.cst (.str [73, 110, 116])) (.cons (.cst (.str [75])) .nil))) .nil))) .nil))) .skip) .skip) (.seq (.ite (.tcm .lt (.var 2) (.cst (.int 5))) (.seq (.ret (.tup (.cons (.call 40 (.cons (.var 0) (.cons (.lst (.cons (.cst (.str [76, 105, 115, 116])) (.cons (.cst (.str [87])) .nil))) .nil))) (.cons (.call 41 (.cons (.var 0) (.cons (.bin .sub (.var 1) (.cst (.int 1))) .nil))) .nil)))) .skip) .skip) (.seq (.ret (.tup (.cons (.call 40 (.cons (.var 0) (.cons (.lst (.cons (.cst (.str [80, 97, 105, 114])) (.cons (.cst (.str [80])) .nil))) .nil))) (.cons (.call 41 (.cons (.var 0) (.cons (.bin .sub (.var 1) (.cst (.int 1))) .nil))) (.cons (.call 41 (.cons (.var 0) (.cons (.bin .sub (.var 1) (.cst (.int 1))) .nil))) .nil))))) .skip)))))
/-- _law_text -/
def c42 : S := (.seq (.ite (.tcm .eq (.cb .len (.cons (.var 0) .nil)) (.cst (.int 1))) (.seq (.ret (.idx (.var 0) (.cst (.int 0)))) .skip) .skip) (.seq (.ret (.bin .add (.bin .add (.bin .add (.idx (.var 0) (.cst (.int 0))) (.cst (.str [40]))) (.bm .join (.cst (.str [44])) (.cons (.lc 1 (.slc (.var 0) (.cst (.int 1)) .nil) .nil (.call 42 (.cons (.var 1) .nil))) .nil))) (.cst (.str [41])))) .skip))
/-- _law_is_variable -/
def c43 : S := (.seq (.ret (.cmp .inn (.idx (.idx (.var 0) (.cst (.int 0))) (.cst (.int 0))) (.cst (.str [97, 98, 99, 100, 101, 102, 103, 104, 105, 106, 107, 108, 109, 110, 111, 112, 113, 114, 115, 116, 117, 118, 119, 120, 121, 122])))) .skip)
/-- _law_names -/
def c44 : S := (.seq (.set 1 (.lst (.cons (.idx (.var 0) (.cst (.int 0))) .nil))) (.seq (.for_ 2 (.slc (.var 0) (.cst (.int 1)) .nil) (.seq (.set 1 (.bin .add (.var 1) (.call 44 (.cons (.var 2) .nil)))) .skip)) (.seq (.ret (.var 1)) .skip)))
/-- _law_variables -/
def c45 : S := (.seq (.own 1 (.lst .nil)) (.seq (.for_ 2 (.var 0) (.seq (.for_ 3 (.call 44 (.cons (.var 2) .nil)) (.seq (.ite (.and (.tcm .inn (.idx (.var 3) (.cst (.int 0))) (.cst (.str [97, 98, 99, 100, 101, 102, 103, 104, 105, 106, 107, 108, 109, 110, 111, 112, 113, 114, 115, 116, 117, 118, 119, 120, 121, 122]))) (.tcm .notin (.var 3) (.bor 1))) (.seq (.app 1 (.var 3)) .skip) .skip) .skip)) .skip)) (.seq (.frz 1) (.seq (.ret (.var 1)) .skip))))
/-- _law_put -/
def c46 : S := (.seq (.ite (.tst (.call 43 (.cons (.var 0) .nil))) (.seq (.ret (.dgt (.var 1) (.idx (.var 0) (.cst (.int 0))) (.var 0))) .skip) .skip) (.seq (.ite (.tcm .eq (.cb .len (.cons (.var 0) .nil)) (.cst (.int 1))) (.seq (.ret (.var 0)) .skip) .skip) (.seq (.ret (.cb .tuple (.cons (.bin .add (.lst (.cons (.idx (.var 0) (.cst (.int 0))) .nil)) (.lc 2 (.slc (.var 0) (.cst (.int 1)) .nil) .nil (.call 46 (.cons (.var 2) (.cons (.var 1) .nil))))) .nil))) .skip)))
/-- _law_head_plan -/
def c47 : S := (.seq (.set 2 (.call 40 (.cons (.var 0) (.cons (.lst (.cons (.cst (.str [115, 104, 111, 119])) (.cons (.cst (.str [116])) (.cons (.cst (.str [106, 111, 105, 110])) .nil)))) .nil)))) (.seq (.ret (.tup (.cons (.var 2) (.cons (.lcr 3 (.cons (.bin .add (.cst (.int 1)) (.call 39 (.cons (.var 0) (.cons (.cst (.int 3)) .nil)))) .nil) .nil (.call 41 (.cons (.var 0) (.cons (.var 1) .nil)))) .nil)))) .skip))
/-- _law_head_text -/
def c48 : S := (.seq (.ret (.bin .add (.bin .add (.bin .add (.idx (.var 0) (.cst (.int 0))) (.cst (.str [40]))) (.bm .join (.cst (.str [44])) (.cons (.lc 1 (.idx (.var 0) (.cst (.int 1))) .nil (.call 42 (.cons (.var 1) .nil))) .nil))) (.cst (.str [41])))) .skip)
/-- _law_head -/
def c49 : S := (.seq (.set 1 (.lc 2 (.idx (.var 0) (.cst (.int 1))) .nil (.call 42 (.cons (.var 2) .nil)))) (.seq (.ite (.tcm .eq (.cb .len (.cons (.var 1) .nil)) (.cst (.int 1))) (.seq (.ret (.mkx 25 "Head" 1 (.cons (.idx (.var 0) (.cst (.int 0))) (.cons (.idx (.var 1) (.cst (.int 0))) .nil)))) .skip) .skip) (.seq (.ite (.tcm .eq (.cb .len (.cons (.var 1) .nil)) (.cst (.int 2))) (.seq (.ret (.mkx 25 "Head" 1 (.cons (.idx (.var 0) (.cst (.int 0))) (.cons (.idx (.var 1) (.cst (.int 0))) (.cons (.idx (.var 1) (.cst (.int 1))) .nil))))) .skip) .skip) (.seq (.ret (.mkx 25 "Head" 1 (.cons (.idx (.var 0) (.cst (.int 0))) (.cons (.idx (.var 1) (.cst (.int 0))) (.cons (.idx (.var 1) (.cst (.int 1))) (.cons (.idx (.var 1) (.cst (.int 2))) .nil)))))) .skip))))
/-- _law_depth -/
def c50 : S := (.seq (.set 1 (.cst (.int 0))) (.seq (.for_ 2 (.slc (.var 0) (.cst (.int 1)) .nil) (.seq (.set 1 (.cb .max2 (.cons (.cb .int (.cons (.var 1) .nil)) (.cons (.cb .int (.cons (.call 50 (.cons (.var 2) .nil)) .nil)) .nil)))) .skip)) (.seq (.ret (.bin .add (.var 1) (.cst (.int 1)))) .skip)))
/-- _law_constructors -/
def c51 : S := (.seq (.own 1 (.lst .nil)) (.seq (.ite (.not (.tst (.call 43 (.cons (.var 0) .nil)))) (.seq (.app 1 (.tup (.cons (.idx (.var 0) (.cst (.int 0))) (.cons (.bin .sub (.cb .len (.cons (.var 0) .nil)) (.cst (.int 1))) .nil)))) .skip) .skip) (.seq (.frz 1) (.seq (.for_ 2 (.slc (.var 0) (.cst (.int 1)) .nil) (.seq (.set 1 (.bin .add (.var 1) (.lc 3 (.call 51 (.cons (.var 2) .nil)) (.tcm .notin (.var 3) (.var 1)) (.var 3)))) .skip)) (.seq (.ret (.var 1)) .skip)))))
/-- _law_all_constructors -/
def c52 : S := (.seq (.set 1 (.lst .nil)) (.seq (.for_ 2 (.var 0) (.seq (.set 1 (.bin .add (.var 1) (.lc 3 (.call 51 (.cons (.var 2) .nil)) (.tcm .notin (.var 3) (.var 1)) (.var 3)))) .skip)) (.seq (.ret (.var 1)) .skip)))
/-- _law_right -/
def c53 : S := (.seq (.unp [2, 3] (.tup (.cons (.cst (.int 0)) (.cons (.cst (.int 0)) .nil)))) (.seq (.for_ 4 (.idx (.var 0) (.cst (.int 1))) (.seq (.set 2 (.bin .add (.var 2) (.cb .len (.cons (.call 44 (.cons (.var 4) .nil)) .nil)))) (.seq (.set 3 (.cb .max2 (.cons (.cb .int (.cons (.var 3) .nil)) (.cons (.cb .int (.cons (.call 50 (.cons (.var 4) .nil)) .nil)) .nil)))) .skip))) (.seq (.set 5 (.lst (.cons (.idx (.var 0) (.cst (.int 0))) (.cons (.call 48 (.cons (.var 0) .nil)) (.cons (.cb .len (.cons (.idx (.var 0) (.cst (.int 1))) .nil)) (.cons (.var 2) (.cons (.var 3) .nil))))))) (.seq (.ite (.tcm .ne (.lst (.cons (.fld (.var 1) "task") (.cons (.own1 .str 36 "Head" (.var 1)) (.cons (.own1 .len 35 "Head" (.var 1)) (.cons (.prp 29 "Head" "size" (.var 1)) (.cons (.prp 28 "Head" "depth" (.var 1)) .nil)))))) (.var 5)) (.seq (.ret (.cst (.bl false))) .skip) .skip) (.seq (.set 6 (.lc 4 (.idx (.var 0) (.cst (.int 1))) .nil (.call 42 (.cons (.var 4) .nil)))) (.seq (.ite (.tcm .ne (.lc 4 (.mthf 30 "Head" "places" (.var 1) .nil) .nil (.own1 .str 23 "Term" (.var 4))) (.var 6)) (.seq (.ret (.cst (.bl false))) .skip) .skip) (.seq (.ite (.tcm .ne (.lcr 7 (.cons (.cb .len (.cons (.var 6) .nil)) .nil) .nil (.own1 .str 23 "Term" (.gti 34 "Head" (.var 1) (.var 7)))) (.var 6)) (.seq (.ret (.cst (.bl false))) .skip) .skip) (.seq (.ite (.tcm .ne (.mth 31 "Head" "variables" (.var 1) .nil) (.call 45 (.cons (.idx (.var 0) (.cst (.int 1))) .nil))) (.seq (.ret (.cst (.bl false))) .skip) .skip) (.seq (.ite (.tcm .ne (.prp 27 "Head" "is_closed" (.var 1)) (.cmp .eq (.call 45 (.cons (.idx (.var 0) (.cst (.int 1))) .nil)) (.lst .nil))) (.seq (.ret (.cst (.bl false))) .skip) .skip) (.seq (.ret (.cmp .eq (.mth 32 "Head" "constructors" (.var 1) .nil) (.call 52 (.cons (.idx (.var 0) (.cst (.int 1))) .nil)))) .skip))))))))))
/-- law -/
def c54 : S := (.seq (.forr 1 (.cons (.cb .max2 (.cons (.cst (.int 1)) (.cons (.cb .min2 (.cons (.cb .len (.cons (.var 0) .nil)) (.cons (.cst (.int 4)) .nil))) .nil))) .nil) (.seq (.set 2 (.call 38 (.cons (.var 0) (.cons (.var 1) .nil)))) (.seq (.set 3 (.call 47 (.cons (.var 2) (.cons (.cst (.int 3)) .nil)))) (.seq (.par [4, 5] (.cons (.call 49 (.cons (.var 3) .nil)) (.cons (.smc 26 "Head" "read" (.cons (.call 48 (.cons (.var 3) .nil)) .nil)) .nil))) (.seq (.set 6 (.smc 22 "Term" "read" (.cons (.call 42 (.cons (.idx (.idx (.var 3) (.cst (.int 1))) (.cst (.int 0))) .nil)) .nil))) (.seq (.ite (.or (.not (.tst (.call 53 (.cons (.var 3) (.cons (.var 4) .nil))))) (.or (.not (.tst (.call 53 (.cons (.var 3) (.cons (.var 5) .nil))))) (.tceq .ne 37 "Head" [.o "Head"] (.var 4) (.var 5)))) (.seq (.ret (.cst (.bl false))) .skip) .skip) (.seq (.ite (.or (.tceq .eq 37 "Head" [.b "NoneType", .b "bool", .b "int", .b "str", .b "list", .b "tuple", .b "dict"] (.var 4) (.own1 .str 36 "Head" (.var 4))) (.tceq .eq 37 "Head" [.o "Term"] (.var 4) (.var 6))) (.seq (.ret (.cst (.bl false))) .skip) .skip) (.seq (.ite (.tcm .ne (.ceq .eq 37 "Head" [.o "Head"] (.mkx 25 "Head" 1 (.cons (.idx (.var 3) (.cst (.int 0))) (.cons (.var 6) .nil))) (.var 4)) (.cmp .eq (.cb .len (.cons (.idx (.var 3) (.cst (.int 1))) .nil)) (.cst (.int 1)))) (.seq (.ret (.cst (.bl false))) .skip) .skip) (.seq (.set 7 (.dsp (.con2 (.cst (.str [120])) (.call 41 (.cons (.var 2) (.cons (.cst (.int 2)) .nil))) (.con2 (.cst (.str [121])) (.tup (.cons (.cst (.str [120])) .nil)) .nil)))) (.seq (.set 8 (.mth 33 "Head" "put" (.var 4) (.cons (.dsp (.con2 (.cst (.str [120])) (.call 42 (.cons (.dgx (.var 7) (.cst (.str [120]))) .nil)) (.con2 (.cst (.str [121])) (.mkx 21 "Term" 1 (.cons (.cst (.str [120])) .nil)) .nil))) .nil))) (.seq (.set 9 (.tup (.cons (.idx (.var 3) (.cst (.int 0))) (.cons (.lc 11 (.idx (.var 3) (.cst (.int 1))) .nil (.call 46 (.cons (.var 11) (.cons (.var 7) .nil)))) .nil)))) (.seq (.ite (.or (.not (.tst (.call 53 (.cons (.var 9) (.cons (.var 8) .nil))))) (.not (.tst (.call 53 (.cons (.var 3) (.cons (.var 4) .nil)))))) (.seq (.ret (.cst (.bl false))) .skip) .skip) (.seq (.own 10 (.mthf 30 "Head" "places" (.var 4) .nil)) (.seq (.app 10 (.cst .non)) (.seq (.ite (.tcm .ne (.cb .len (.cons (.mthf 30 "Head" "places" (.var 4) .nil) .nil)) (.cb .len (.cons (.idx (.var 3) (.cst (.int 1))) .nil))) (.seq (.ret (.cst (.bl false))) .skip) .skip) .skip))))))))))))))) (.seq (.ret (.cst (.bl true))) .skip))
def d0 : Df := ⟨fun K => At.ad K (.g "is_name"), "is_name", "is_name", topS 10, ["value", "letter"], ["value"], ⟨1, 2, c0, none, false⟩, true, "is_name"⟩
def d1 : Df := ⟨fun K => At.ad K (.g "is_constructor"), "is_constructor", "is_constructor", topS 11, ["value", "letter"], ["value"], ⟨1, 2, c1, none, false⟩, true, "is_constructor"⟩
def d2 : Df := ⟨fun K => At.ad K (.g "is_integer"), "is_integer", "is_integer", topS 12, ["value"], ["value"], ⟨1, 1, c2, none, false⟩, true, "is_integer"⟩
def d3 : Df := ⟨fun K => At.ad K (.g "is_index"), "is_index", "is_index", topS 13, ["value", "many"], ["value", "many"], ⟨2, 2, c3, none, false⟩, true, "is_index"⟩
def d4 : Df := ⟨fun K => At.ad K (.g "is_variable"), "is_variable", "is_variable", topS 18, ["raw"], ["raw"], ⟨1, 1, c4, none, false⟩, true, "is_variable"⟩
def d5 : Df := ⟨fun K => At.ad K (.g "names_of"), "names_of", "names_of", topS 19, ["raw", "found", "part"], ["raw"], ⟨1, 3, c5, none, false⟩, true, "names_of"⟩
def d6 : Df := ⟨fun K => At.ad K (.g "depth_of"), "depth_of", "depth_of", topS 20, ["raw", "most", "part", "depth"], ["raw"], ⟨1, 4, c6, none, false⟩, true, "depth_of"⟩
def d7 : Df := ⟨fun K => At.ad K (.g "once"), "once", "once", topS 21, ["items", "found", "item"], ["items"], ⟨1, 3, c7, none, false⟩, true, "once"⟩
def d8 : Df := ⟨fun K => At.ad K (.g "variables_of"), "variables_of", "variables_of", topS 22, ["raws", "found", "raw", "name"], ["raws"], ⟨1, 4, c8, none, false⟩, true, "variables_of"⟩
def d9 : Df := ⟨fun K => At.ad K (.g "tops_of"), "tops_of", "tops_of", topS 23, ["raw", "found", "part"], ["raw"], ⟨1, 3, c9, none, false⟩, true, "tops_of"⟩
def d10 : Df := ⟨fun K => At.ad K (.g "constructors_of"), "constructors_of", "constructors_of", topS 24, ["raws", "found", "raw"], ["raws"], ⟨1, 3, c10, none, false⟩, true, "constructors_of"⟩
def d11 : Df := ⟨fun K => At.ad K (.g "text_of"), "text_of", "text_of", topS 25, ["raw", "part"], ["raw"], ⟨1, 2, c11, none, false⟩, true, "text_of"⟩
def d12 : Df := ⟨fun K => At.ad K (.g "word_at"), "word_at", "word_at", topS 26, ["text", "at", "end"], ["text", "at"], ⟨2, 3, c12, none, false⟩, true, "word_at"⟩
def d13 : Df := ⟨fun K => At.ad K (.g "parts_at"), "parts_at", "parts_at", topS 27, ["text", "at", "most", "parts", "found"], ["text", "at", "most"], ⟨3, 5, c13, none, false⟩, true, "parts_at"⟩
def d14 : Df := ⟨fun K => At.ad K (.g "term_at"), "term_at", "term_at", topS 28, ["text", "at", "word", "behind", "found"], ["text", "at"], ⟨2, 5, c14, none, false⟩, true, "term_at"⟩
def d15 : Df := ⟨fun K => At.ad K (.g "read_raw"), "read_raw", "read_raw", topS 29, ["text", "found"], ["text"], ⟨1, 2, c15, none, false⟩, true, "read_raw"⟩
def d16 : Df := ⟨fun K => At.ad K (.g "read_raw_head"), "read_raw_head", "read_raw_head", topS 30, ["text", "task", "found"], ["text"], ⟨1, 3, c16, none, false⟩, true, "read_raw_head"⟩
def d17 : Df := ⟨fun K => At.ad K (.g "put_into"), "put_into", "put_into", topS 31, ["raw", "terms", "parts", "part"], ["raw", "terms"], ⟨2, 4, c17, none, false⟩, true, "put_into"⟩
def d18 : Df := ⟨fun K => At.ad K (.g "raw_of"), "raw_of", "raw_of", topS 43, ["value", "raw"], ["value"], ⟨1, 2, c18, none, false⟩, true, "raw_of"⟩
def d19 : Df := ⟨fun K => At.ad K (.g "term_of"), "term_of", "term_of", topS 44, ["raw", "parts", "part"], ["raw"], ⟨1, 3, c19, none, false⟩, true, "term_of"⟩
def d20 : Df := ⟨fun K => At.ad K (.g "raws_put"), "raws_put", "raws_put", topS 45, ["terms", "found", "name", "value", "raw"], ["terms"], ⟨1, 5, c20, none, false⟩, true, "raws_put"⟩
def d21 : Df := ⟨fun K => At.ad K (.m "Term" "__init__"), "__init__", "Term.__init__", ((clsB (topS 47)).getD 0 (.Pass ⟨0, 0, 0, 0⟩)), ["self", "top", "parts", "raws", "part"], ["self", "top", "parts"], ⟨2, 4, c21, some "Term", false⟩, false, "__init__"⟩
def d22 : Df := ⟨fun K => At.ad K (.s "Term" "read"), "read", "Term.read", ((clsB (topS 47)).getD 1 (.Pass ⟨0, 0, 0, 0⟩)), ["text", "raw"], ["text"], ⟨1, 2, c22, none, false⟩, false, "read"⟩
def d23 : Df := ⟨fun K => At.ad K (.m "Term" "__str__"), "__str__", "Term.__str__", ((clsB (topS 47)).getD 14 (.Pass ⟨0, 0, 0, 0⟩)), ["self"], ["self"], ⟨1, 1, c23, none, false⟩, false, "__str__"⟩
def d24 : Df := ⟨fun K => At.ad K (.g "head_of"), "head_of", "head_of", topS 51, ["task", "raws", "places", "raw"], ["task", "raws"], ⟨2, 4, c24, none, false⟩, true, "head_of"⟩
def d25 : Df := ⟨fun K => At.ad K (.m "Head" "__init__"), "__init__", "Head.__init__", ((clsB (topS 55)).getD 0 (.Pass ⟨0, 0, 0, 0⟩)), ["self", "task", "places", "raws", "place", "raw"], ["self", "task", "places"], ⟨2, 5, c25, some "Head", false⟩, false, "__init__"⟩
def d26 : Df := ⟨fun K => At.ad K (.s "Head" "read"), "read", "Head.read", ((clsB (topS 55)).getD 1 (.Pass ⟨0, 0, 0, 0⟩)), ["text", "found"], ["text"], ⟨1, 2, c26, none, false⟩, false, "read"⟩
def d27 : Df := ⟨fun K => At.ad K (.p "Head" "is_closed"), "is_closed", "Head.is_closed", ((clsB (topS 55)).getD 2 (.Pass ⟨0, 0, 0, 0⟩)), ["self"], ["self"], ⟨1, 1, c27, none, false⟩, false, "is_closed"⟩
def d28 : Df := ⟨fun K => At.ad K (.p "Head" "depth"), "depth", "Head.depth", ((clsB (topS 55)).getD 3 (.Pass ⟨0, 0, 0, 0⟩)), ["self", "most", "raw"], ["self"], ⟨1, 3, c28, none, false⟩, false, "depth"⟩
def d29 : Df := ⟨fun K => At.ad K (.p "Head" "size"), "size", "Head.size", ((clsB (topS 55)).getD 4 (.Pass ⟨0, 0, 0, 0⟩)), ["self", "raw"], ["self"], ⟨1, 2, c29, none, false⟩, false, "size"⟩
def d30 : Df := ⟨fun K => At.ad K (.m "Head" "places"), "places", "Head.places", ((clsB (topS 55)).getD 5 (.Pass ⟨0, 0, 0, 0⟩)), ["self", "raw"], ["self"], ⟨1, 2, c30, none, true⟩, false, "places"⟩
def d31 : Df := ⟨fun K => At.ad K (.m "Head" "variables"), "variables", "Head.variables", ((clsB (topS 55)).getD 6 (.Pass ⟨0, 0, 0, 0⟩)), ["self"], ["self"], ⟨1, 1, c31, none, false⟩, false, "variables"⟩
def d32 : Df := ⟨fun K => At.ad K (.m "Head" "constructors"), "constructors", "Head.constructors", ((clsB (topS 55)).getD 7 (.Pass ⟨0, 0, 0, 0⟩)), ["self"], ["self"], ⟨1, 1, c32, none, false⟩, false, "constructors"⟩
def d33 : Df := ⟨fun K => At.ad K (.m "Head" "put"), "put", "Head.put", ((clsB (topS 55)).getD 8 (.Pass ⟨0, 0, 0, 0⟩)), ["self", "terms", "found", "raw"], ["self", "terms"], ⟨2, 4, c33, none, false⟩, false, "put"⟩
def d34 : Df := ⟨fun K => At.ad K (.m "Head" "__getitem__"), "__getitem__", "Head.__getitem__", ((clsB (topS 55)).getD 11 (.Pass ⟨0, 0, 0, 0⟩)), ["self", "index"], ["self", "index"], ⟨2, 2, c34, none, false⟩, false, "__getitem__"⟩
def d35 : Df := ⟨fun K => At.ad K (.m "Head" "__len__"), "__len__", "Head.__len__", ((clsB (topS 55)).getD 12 (.Pass ⟨0, 0, 0, 0⟩)), ["self"], ["self"], ⟨1, 1, c35, none, false⟩, false, "__len__"⟩
def d36 : Df := ⟨fun K => At.ad K (.m "Head" "__str__"), "__str__", "Head.__str__", ((clsB (topS 55)).getD 13 (.Pass ⟨0, 0, 0, 0⟩)), ["self", "places", "raw"], ["self"], ⟨1, 3, c36, none, false⟩, false, "__str__"⟩
def d37 : Df := ⟨fun K => At.ad K (.m "Head" "__eq__"), "__eq__", "Head.__eq__", ((clsB (topS 55)).getD 14 (.Pass ⟨0, 0, 0, 0⟩)), ["self", "other"], ["self", "other"], ⟨2, 2, c37, none, false⟩, false, "__eq__"⟩
def d38 : Df := ⟨fun K => At.ad K (.g "_law_pool"), "_law_pool", "_law_pool", topS 57, ["_law_script", "_law_k", "_law_cell", "_law_great", "_law_seed"], ["_law_script", "_law_k"], ⟨2, 5, c38, none, false⟩, true, "_law_pool"⟩
def d39 : Df := ⟨fun K => At.ad K (.g "_law_draw"), "_law_draw", "_law_draw", topS 58, ["_law_pool_here", "_law_many", "_law_digit"], ["_law_pool_here", "_law_many"], ⟨2, 3, c39, none, false⟩, true, "_law_draw"⟩
def d40 : Df := ⟨fun K => At.ad K (.g "_law_pick"), "_law_pick", "_law_pick", topS 59, ["_law_pool_here", "_law_items"], ["_law_pool_here", "_law_items"], ⟨2, 2, c40, none, false⟩, true, "_law_pick"⟩
def d41 : Df := ⟨fun K => At.ad K (.g "_law_plan"), "_law_plan", "_law_plan", topS 60, ["_law_pool_here", "_law_deep", "_law_kind"], ["_law_pool_here", "_law_deep"], ⟨2, 3, c41, none, false⟩, true, "_law_plan"⟩
def d42 : Df := ⟨fun K => At.ad K (.g "_law_text"), "_law_text", "_law_text", topS 61, ["_law_plan_here", "_law_part"], ["_law_plan_here"], ⟨1, 2, c42, none, false⟩, true, "_law_text"⟩
def d43 : Df := ⟨fun K => At.ad K (.g "_law_is_variable"), "_law_is_variable", "_law_is_variable", topS 62, ["_law_plan_here"], ["_law_plan_here"], ⟨1, 1, c43, none, false⟩, true, "_law_is_variable"⟩
def d44 : Df := ⟨fun K => At.ad K (.g "_law_names"), "_law_names", "_law_names", topS 63, ["_law_plan_here", "_law_found", "_law_part"], ["_law_plan_here"], ⟨1, 3, c44, none, false⟩, true, "_law_names"⟩
def d45 : Df := ⟨fun K => At.ad K (.g "_law_variables"), "_law_variables", "_law_variables", topS 64, ["_law_plans", "_law_found", "_law_plan_here", "_law_name"], ["_law_plans"], ⟨1, 4, c45, none, false⟩, true, "_law_variables"⟩
def d46 : Df := ⟨fun K => At.ad K (.g "_law_put"), "_law_put", "_law_put", topS 65, ["_law_plan_here", "_law_terms", "_law_part"], ["_law_plan_here", "_law_terms"], ⟨2, 3, c46, none, false⟩, true, "_law_put"⟩
def d47 : Df := ⟨fun K => At.ad K (.g "_law_head_plan"), "_law_head_plan", "_law_head_plan", topS 66, ["_law_pool_here", "_law_deep", "_law_task", "_law_turn"], ["_law_pool_here", "_law_deep"], ⟨2, 4, c47, none, false⟩, true, "_law_head_plan"⟩
def d48 : Df := ⟨fun K => At.ad K (.g "_law_head_text"), "_law_head_text", "_law_head_text", topS 67, ["_law_head_here", "_law_plan_here"], ["_law_head_here"], ⟨1, 2, c48, none, false⟩, true, "_law_head_text"⟩
def d49 : Df := ⟨fun K => At.ad K (.g "_law_head"), "_law_head", "_law_head", topS 68, ["_law_head_here", "_law_places", "_law_plan_here"], ["_law_head_here"], ⟨1, 3, c49, none, false⟩, true, "_law_head"⟩
def d50 : Df := ⟨fun K => At.ad K (.g "_law_depth"), "_law_depth", "_law_depth", topS 69, ["_law_plan_here", "_law_deep", "_law_part"], ["_law_plan_here"], ⟨1, 3, c50, none, false⟩, true, "_law_depth"⟩
def d51 : Df := ⟨fun K => At.ad K (.g "_law_constructors"), "_law_constructors", "_law_constructors", topS 70, ["_law_plan_here", "_law_found", "_law_part", "_law_pair"], ["_law_plan_here"], ⟨1, 4, c51, none, false⟩, true, "_law_constructors"⟩
def d52 : Df := ⟨fun K => At.ad K (.g "_law_all_constructors"), "_law_all_constructors", "_law_all_constructors", topS 71, ["_law_plans", "_law_found", "_law_plan_here", "_law_pair"], ["_law_plans"], ⟨1, 4, c52, none, false⟩, true, "_law_all_constructors"⟩
def d53 : Df := ⟨fun K => At.ad K (.g "_law_right"), "_law_right", "_law_right", topS 72, ["_law_plan_here", "_law_head_here", "_law_size", "_law_deep", "_law_place", "_law_dues", "_law_texts", "_law_at"], ["_law_plan_here", "_law_head_here"], ⟨2, 8, c53, none, false⟩, true, "_law_right"⟩
def d54 : Df := ⟨fun K => At.ad K (.g "law"), "law", "law", topS 73, ["_law_script", "_law_k", "_law_pool_here", "_law_plan_here", "_law_head_here", "_law_read", "_law_first", "_law_terms", "_law_put_here", "_law_moved", "_law_places", "_law_place"], ["_law_script"], ⟨1, 12, c54, none, false⟩, true, "law"⟩
def Ds : List Df := (([d0, d1, d2, d3, d4, d5, d6, d7, d8, d9, d10, d11, d12, d13, d14, d15, d16, d17, d18, d19, d20, d21, d22, d23, d24, d25, d26, d27, d28, d29] : List Df) ++ ([d30, d31, d32, d33, d34, d35, d36, d37, d38, d39, d40, d41, d42, d43, d44, d45, d46, d47, d48, d49, d50, d51, d52, d53, d54] : List Df))
def ats : List At := (([.g "is_name", .g "is_constructor", .g "is_integer", .g "is_index", .g "is_variable", .g "names_of", .g "depth_of", .g "once", .g "variables_of", .g "tops_of", .g "constructors_of", .g "text_of", .g "word_at", .g "parts_at", .g "term_at", .g "read_raw", .g "read_raw_head", .g "put_into", .g "raw_of", .g "term_of", .g "raws_put", .m "Term" "__init__", .s "Term" "read", .m "Term" "__str__", .g "head_of", .m "Head" "__init__", .s "Head" "read", .p "Head" "is_closed", .p "Head" "depth", .p "Head" "size"] : List At) ++ ([.m "Head" "places", .m "Head" "variables", .m "Head" "constructors", .m "Head" "put", .m "Head" "__getitem__", .m "Head" "__len__", .m "Head" "__str__", .m "Head" "__eq__", .g "_law_pool", .g "_law_draw", .g "_law_pick", .g "_law_plan", .g "_law_text", .g "_law_is_variable", .g "_law_names", .g "_law_variables", .g "_law_put", .g "_law_head_plan", .g "_law_head_text", .g "_law_head", .g "_law_depth", .g "_law_constructors", .g "_law_all_constructors", .g "_law_right", .g "law"] : List At))
def x0 : Xd := ⟨"InvalidTerm", ["value"], "InvalidTerm.__init__", (clsB (topS 3)).getD 0 (.Pass ⟨0, 0, 0, 0⟩)⟩
def x1 : Xd := ⟨"InvalidHead", ["value"], "InvalidHead.__init__", (clsB (topS 4)).getD 0 (.Pass ⟨0, 0, 0, 0⟩)⟩
def x2 : Xd := ⟨"NoPart", ["number"], "NoPart.__init__", (clsB (topS 5)).getD 0 (.Pass ⟨0, 0, 0, 0⟩)⟩
def Xs : List Xd := [x0, x1, x2]
def Tb0 : Tb := ⟨(([some "is_name", some "is_constructor", some "is_integer", some "is_index", some "is_variable", some "names_of", some "depth_of", some "once", some "variables_of", some "tops_of", some "constructors_of", some "text_of", some "word_at", some "parts_at", some "term_at", some "read_raw", some "read_raw_head", some "put_into", some "raw_of", some "term_of", some "raws_put", none, none, none, some "head_of", none, none, none, none, none] : List (Option Str)) ++ ([none, none, none, none, none, none, none, none, some "_law_pool", some "_law_draw", some "_law_pick", some "_law_plan", some "_law_text", some "_law_is_variable", some "_law_names", some "_law_variables", some "_law_put", some "_law_head_plan", some "_law_head_text", some "_law_head", some "_law_depth", some "_law_constructors", some "_law_all_constructors", some "_law_right", some "law"] : List (Option Str))), [("LOWER", (.str [97, 98, 99, 100, 101, 102, 103, 104, 105, 106, 107, 108, 109, 110, 111, 112, 113, 114, 115, 116, 117, 118, 119, 120, 121, 122])), ("MOST_LETTERS", (.int 8)), ("MOST_NESTED", (.int 200)), ("MOST_PARTS", (.int 2)), ("MOST_PLACES", (.int 3)), ("UPPER", (.str [65, 66, 67, 68, 69, 70, 71, 72, 73, 74, 75, 76, 77, 78, 79, 80, 81, 82, 83, 84, 85, 86, 87, 88, 89, 90]))], ["all", "bool", "dict", "int", "isinstance", "len", "max", "min", "range", "str", "sum", "tuple"], [("InvalidTerm", ["value"]), ("InvalidHead", ["value"]), ("NoPart", ["number"])], [(("Head", "__eq__"), 37), (("Head", "__str__"), 36), (("Head", "put"), 33), (("Head", "__len__"), 35), (("Term", "__str__"), 23), (("Head", "__getitem__"), 34), (("Head", "variables"), 31), (("Head", "constructors"), 32)], [(("Head", "size"), 29), (("Head", "depth"), 28), (("Head", "is_closed"), 27)], [], ["Head", "Term"], [], (([none, none, none, none, none, none, none, none, none, none, none, none, none, none, none, none, none, none, none, none, none, none, none, none, none, none, none, none, none, none] : List (Option Str)) ++ ([none, none, none, none, none, none, none, none, none, none, none, none, none, none, none, none, none, none, none, none, none, none, none, none, none] : List (Option Str))), [(("Head", "places"), 30)], [("Head", 25, 1), ("Term", 21, 1)], [(("Head", "read"), 26), (("Term", "read"), 22)]⟩
def Ks : List Kd := []
def As : List Addr := ([3, 6, 4, 21, 31, 51, 70, 89, 96, 101, 108, 115, 122, 129, 136, 143, 148, 155, 162, 167, 174, 181, 188, 195, 202, 207, 214, 219, 226, 233] : List Addr) ++ ([238, 245, 250, 255, 262, 269, 276, 281, 288, 295, 462, 473, 480, 485, 492, 499, 506, 661, 672, 679, 686, 693, 698, 705, 712, 719, 724, 729, 734, 739] : List Addr) ++ ([746, 751, 756, 761, 766, 0, 20, 30, 50, 69, 88, 95, 100, 107, 114, 121, 128, 135, 142, 147, 154, 161, 166, 173, 180, 187, 194, 201, 206, 213] : List Addr) ++ ([218, 225, 232, 237, 244, 249, 254, 261, 268, 275, 280, 287, 294, 461, 472, 479, 484, 491, 498, 505, 660, 671, 678, 685, 692, 697, 704, 711, 718, 723] : List Addr) ++ ([728, 733, 738, 745, 750, 755, 760, 765, 15, 16, 17, 18, 19, 29, 32, 48, 49, 67, 68, 86, 87, 92, 93, 94, 97, 98, 99, 102, 103, 104] : List Addr) ++ ([105, 106, 109, 110, 111, 112, 113, 116, 117, 118, 119, 120, 123, 124, 125, 126, 127, 130, 131, 132, 133, 134, 137, 138, 139, 140, 141, 144, 145, 146] : List Addr) ++ ([149, 150, 151, 152, 153, 156, 157, 158, 159, 160, 163, 164, 165, 168, 169, 170, 171, 172, 175, 176, 177, 178, 179, 182, 183, 184, 185, 186, 189, 190] : List Addr) ++ ([191, 192, 193, 196, 197, 198, 199, 200, 203, 204, 205, 208, 209, 210, 211, 212, 215, 216, 217, 220, 221, 222, 223, 224, 227, 228, 229, 230, 231, 234] : List Addr) ++ ([235, 236, 239, 240, 241, 242, 243, 246, 247, 248, 251, 252, 253, 256, 257, 258, 259, 260, 263, 264, 265, 266, 267, 270, 271, 272, 273, 274, 277, 278] : List Addr) ++ ([279, 282, 283, 284, 285, 286, 289, 290, 291, 292, 293, 307, 316, 325, 333, 341, 349, 354, 361, 368, 375, 382, 389, 396, 403, 410, 417, 424, 431, 438] : List Addr) ++ ([445, 452, 459, 460, 463, 464, 467, 468, 469, 470, 471, 474, 475, 476, 477, 478, 481, 482, 483, 486, 487, 488, 489, 490, 493, 494, 495, 496, 497, 500] : List Addr) ++ ([501, 502, 503, 504, 520, 529, 538, 546, 552, 557, 564, 571, 576, 583, 590, 597, 604, 609, 616, 623, 630, 637, 644, 651, 658, 659, 662, 663, 666, 667] : List Addr) ++ ([668, 669, 670, 673, 674, 675, 676, 677, 680, 681, 682, 683, 684, 687, 688, 689, 690, 691, 694, 695, 696, 699, 700, 701, 702, 703, 706, 707, 708, 709] : List Addr) ++ ([710, 713, 714, 715, 716, 717, 720, 721, 722, 725, 726, 727, 730, 731, 732, 735, 736, 737, 740, 741, 742, 743, 744, 747, 748, 749, 752, 753, 754, 757] : List Addr) ++ ([758, 759, 762, 763, 764, 47, 66, 85, 306, 314, 315, 324, 332, 340, 348, 353, 360, 367, 374, 381, 388, 395, 402, 409, 416, 423, 430, 437, 444, 451] : List Addr) ++ ([458, 519, 527, 528, 537, 545, 551, 556, 563, 570, 575, 582, 589, 596, 603, 608, 615, 622, 629, 636, 643, 650, 657, 42, 43, 44, 45, 46, 61, 62] : List Addr) ++ ([63, 64, 65, 80, 81, 82, 83, 84, 303, 304, 305, 313, 317, 323, 331, 339, 347, 350, 351, 352, 355, 356, 357, 358, 359, 362, 363, 364, 365, 366] : List Addr) ++ ([369, 370, 371, 372, 373, 376, 377, 378, 379, 380, 383, 384, 385, 386, 387, 390, 391, 392, 393, 394, 397, 398, 399, 400, 401, 404, 405, 406, 407, 408] : List Addr) ++ ([411, 412, 413, 414, 415, 418, 419, 420, 421, 422, 425, 426, 427, 428, 429, 432, 433, 434, 435, 436, 439, 440, 441, 442, 443, 446, 447, 448, 449, 450] : List Addr) ++ ([453, 454, 455, 456, 457, 514, 515, 516, 517, 518, 526, 530, 536, 544, 550, 553, 554, 555, 558, 559, 560, 561, 562, 565, 566, 567, 568, 569, 572, 573] : List Addr) ++ ([574, 577, 578, 579, 580, 581, 584, 585, 586, 587, 588, 591, 592, 593, 594, 595, 598, 599, 600, 601, 602, 605, 606, 607, 610, 611, 612, 613, 614, 617] : List Addr) ++ ([618, 619, 620, 621, 624, 625, 626, 627, 628, 631, 632, 633, 634, 635, 638, 639, 640, 641, 642, 645, 646, 647, 648, 649, 652, 653, 654, 655, 656, 2] : List Addr)
abbrev R : PySem.W.OpenRow := PySem.W.OpenLaw.row PySem.Challenge.rw_soleinstances_k09_heads_told
abbrev hk : PySem.W.Hook := hookP As (faOf Tb0 Xs) (fnsOf Xs) (tsOf Ks) (exB Tb0 Ds Xs) (gsOf Ds)
def ob (s : PySem.W.SharedT) : AlP := obsP As (faOf Tb0 Xs) (fnsOf Xs) (tsOf Ks) (exB Tb0 Ds Xs) (gsOf Ds) (HandSHeadRun.getT s)
theorem ob_eq (s : PySem.W.SharedT) : ob s = hk.obs s.abs := obsP_eq (HandSHeadRun.getT_eq s)
def loose : List PySem.Str := (["_wall", "SoleError", "InvalidTerm", "InvalidHead", "NoPart", "LOWER", "UPPER", "MOST_LETTERS", "is_name", "is_constructor", "is_integer", "is_index", "MOST_PARTS", "MOST_PLACES", "MOST_NESTED", "is_variable", "names_of", "depth_of", "once", "variables_of", "tops_of", "constructors_of", "text_of", "word_at", "parts_at"] : List PySem.Str) ++ (["term_at", "read_raw", "read_raw_head", "put_into", "walked", "stands_in", "united", "all_united", "resolved", "letters_for", "in_order", "common_raws", "matched", "all_matched", "raw_of", "term_of", "raws_put", "raw_at_most", "Term", "parts_of", "head_parts", "head_of", "same_kind", "common_head", "pair_at_most"] : List PySem.Str) ++ (["Head", "_law_pool", "_law_draw", "_law_pick", "_law_plan", "_law_text", "_law_is_variable", "_law_names", "_law_variables", "_law_put", "_law_head_plan", "_law_head_text", "_law_head", "_law_depth", "_law_constructors", "_law_all_constructors", "_law_right"] : List PySem.Str)
theorem topRun (w : World) : HandSHeadRun.RunEq R (PySem.W.view R.prog [73]) hk ob 12000 loose w := by
  intro os
  kernel_rfl
end Lw
namespace PF
open PySem L2 PySem.Spec PyProof.Rows
/-- the written part's facts of an error class -/
structure ExF (P : Program) (w : World) (K : PySem.W.Frag) (mg : Str → Option Value) (base : Heap) (c : Str) (fs : List Str) : Prop where
  mgc : mg c = some (.ref (He.ga K c))
  ox : OexC K (He.ga K c)
  xf : XfC K (He.ga K c)
  no : ∀ f ∈ fs, PySem.W.findIn K (.ref (He.ga K c)) f = some none
  ini : ∃ (fI : Addr) (fd : FuncData), PySem.W.findIn K (.ref (He.ga K c)) "__init__" = some (some (.ref fI)) ∧ PySem.W.typeIn K (.ref fI) = some (.type "function") ∧ FnOk P w K mg base CX0 1 fI fd ("self" :: fs) (spXI K c fs) ∧ Binds K fd ("self" :: fs) []
/-- the promise of an __init__, and how a call binds it -/
structure IniF (P : Program) (w : World) (K : PySem.W.Frag) (mg : Str → Option Value) (base : Heap) (k : Nat) (c : Str) (sp : Sp) (n : Nat) (ks : List Str) : Prop where
  mgc : mg c = some (.ref (He.ga K c))
  ini : ∃ (fI : Addr) (fd : FuncData) (ps : List Str), Mk K (He.ga K c) fI ∧ FnOk P w K mg base (L2.CX P w) k fI fd ps sp ∧ KBn K fd ps (n + 1) ks (fun us ws => us ++ ws) (fun vs zs => vs ++ zs)
/-- a promise where what is left over is a new tuple -/
def spStar (m : Nat) (sp : Sp) : Sp := fun vs H Q E => ∃ ws rest, vs = ws ++ rest ∧ ws.length = m + 1 ∧ rest.length ≤ sizeLine ∧ ∀ p, H p = none → sp (ws ++ [.ref p]) (upd H p (.tup rest)) Q E
/-- a staticmethod read off its class -/
structure SmF (K : PySem.W.Frag) (c m : Str) (g : Addr) : Prop where
  rd : ∃ mc, PySem.W.readsIn K (He.ga K c) mc = true ∧ ∃ p, PySem.W.findCls K (.ref (He.ga K c)) mc m = some (.get (.builtin "staticmethod.__get__") (.ref p) .none (.ref (He.ga K c))) ∧ ∃ rest, PySem.W.recIn K p "staticmethod" = some (.ref g :: rest)
  ga : PySem.W.specialIn K (.ref (He.ga K c)) "__getattribute__" = some (some (.builtin "type.__getattribute__"))
  kp : PySem.W.keepIn K (.ref g) = true
/-- where a text stands: what is around it is as the tables say -/
structure Good (T : Tb) (F : FF) (k : Nat) (X : Cx) (W : WX) : Prop where
  calm : X.calm = true
  nd : X.N.Nodup
  room : Room k X.A
  tk : Takes X W
  fns : ∀ (f : Nat) (x : Str), T.fn[f]? = some (some x) → ∃ (a : Addr) (fd : FuncData) (ps : List Str), X.mg x = some (.ref a) ∧ PySem.W.keepIn X.K (.ref a) = true ∧ FnOk X.prog X.w X.K X.mg X.base (L2.CX X.prog X.w) k a fd ps (F.pl f) ∧ Binds X.K fd ps []
  gcs : ∀ (x : Str) (d : D), T.gc.lookup x = some d → ∃ u, X.mg x = some u ∧ RelV (vf d) u
  bls : ∀ x : Str, T.bl.contains x = true → X.mg x = none
  exs : ∀ (c : Str) (fs : List Str), T.ex.lookup c = some fs → ExF X.prog X.w X.K X.mg X.base c fs
  mts : ∀ (c m : Str) (g : Nat), ((c, m), g) ∈ T.mt → Cls X.K (He.ga X.K c) ∧ ∃ (a : Addr) (fd : FuncData) (ps : List Str), Meth X.K (He.ga X.K c) m a ∧ FnOk X.prog X.w X.K X.mg X.base (L2.CX X.prog X.w) k a fd ps (F.pl g) ∧ Binds X.K fd ps []
  prs : ∀ (c f : Str) (g : Nat), ((c, f), g) ∈ T.pr → Cls X.K (He.ga X.K c) ∧ ∃ (p a : Addr) (fd : FuncData) (ps : List Str), PropOf X.K (He.ga X.K c) f p a ∧ FnOk X.prog X.w X.K X.mg X.base (L2.CX X.prog X.w) k a fd ps (F.pl g) ∧ Binds X.K fd ps []
  inis : ∀ (c : Str) (g n : Nat) (ks : List Str), (c, g, n, ks) ∈ T.mks → IniF X.prog X.w X.K X.mg X.base k c (F.ini c g) n ks
  room1 : Room (k + 1) X.A
  css : ∀ c : Str, T.cs.contains c = true → X.mg c = some (.ref (He.ga X.K c))
  kds : ∀ x : Str, T.kd.contains x = true → X.mg x = some (.ref (He.ga X.K x)) ∧ ∃ es n, KDict X.K X.w (He.ga X.K x) es n
  fnsf : ∀ (f : Nat) (x : Str), T.fnf[f]? = some (some x) → ∃ (a : Addr) (fd : FuncData) (ps : List Str), X.mg x = some (.ref a) ∧ PySem.W.keepIn X.K (.ref a) = true ∧ FnOk X.prog X.w X.K X.mg X.base (L2.CX X.prog X.w) k a fd ps (F.pn f) ∧ Binds X.K fd ps []
  mtfs : ∀ (c m : Str) (g : Nat), ((c, m), g) ∈ T.mtf → Cls X.K (He.ga X.K c) ∧ ∃ (a : Addr) (fd : FuncData) (ps : List Str), Meth X.K (He.ga X.K c) m a ∧ FnOk X.prog X.w X.K X.mg X.base (L2.CX X.prog X.w) k a fd ps (F.pn g) ∧ Binds X.K fd ps []
  mkxs : ∀ (c : Str) (g m : Nat), (c, g, m) ∈ T.mkx → X.mg c = some (.ref (He.ga X.K c)) ∧ ∃ fI, Mk X.K (He.ga X.K c) fI ∧ FnR X.prog X.w X.K X.mg X.base (L2.CX X.prog X.w) k fI (spStar m (F.ini c g))
  room3 : Room (k + 3) X.A
  nobool : ∀ (c : Str) (g : Nat), ((c, ("__len__" : Str)), g) ∈ T.mt → PySem.W.findIn X.K (.ref (He.ga X.K c)) "__bool__" = some none
  fnis : ∀ (c m : Str) (g : Nat), ((c, m), g) ∈ T.mt → ∀ a, Meth X.K (He.ga X.K c) m a → PySem.W.fnIn X.K a = true
  sms : ∀ (c m : Str) (g : Nat), ((c, m), g) ∈ T.sm → ∃ (a : Addr) (fd : FuncData) (ps : List Str), SmF X.K c m a ∧ FnOk X.prog X.w X.K X.mg X.base (L2.CX X.prog X.w) k a fd ps (F.pl g) ∧ Binds X.K fd ps []
theorem Good.blk {T : Tb} {F : FF} {k : Nat} {X : Cx} {W : WX} (g : Good T F k X W) (s : Shared) (H : Hp) (scope : Scope) (env : PySem.Env) (fp : List Addr) : Good T F k (X.blk s H scope env fp) W0 :=
  ⟨g.calm, g.nd, g.room, takes0, g.fns, g.gcs, g.bls, g.exs, g.mts, g.prs, g.inis, g.room1, g.css, g.kds, g.fnsf, g.mtfs, g.mkxs, g.room3, g.nobool, g.fnis, g.sms⟩
/-- no error leaves -/
theorem pass_no {X : Cx} : Passes (L2.CX X.prog X.w) X.nox fun _ _ _ => False := fun pins σ H s e s' I h => by
  obtain ⟨_, _, _, _, _, _, _, _, _, _, _, _, z⟩ := h
  exact z.elim
theorem kw_names {ks : List Str} {env : PySem.Env} {pos : Pos} {kws : List Keyword} (h : kws.map (·.arg) = ks.map some) : (backToKw pos (keywordEach kws env)).all (·.1.isSome) = true ∧ (backToKw pos (keywordEach kws env)).filterMap (·.1) = ks ∧ (backToKw pos (keywordEach kws env)).any (·.1.isNone) = false := by
  induction kws generalizing ks with
  | nil =>
    cases ks with
    | nil => exact ⟨rfl, rfl, rfl⟩
    | cons _ _ => cases h
  | cons k r ih =>
    obtain ⟨nm, v, p⟩ := k
    cases ks with
    | nil => cases h
    | cons n ks =>
      rw [List.map_cons, List.map_cons, List.cons.injEq] at h
      obtain ⟨h1, h2⟩ := h
      have h1 : nm = some n := h1
      subst h1
      obtain ⟨i1, i2, i3⟩ := ih h2
      exact ⟨i1, by show n :: (backToKw pos (keywordEach r env)).filterMap (·.1) = n :: ks; rw [i2], i3⟩
section
variable {X : Cx}
/-- o.m(..): up to the call -/
theorem mth_to {c m : Str} {f : Addr} {o : Expr} {es : List Expr} {ta : TE} {apos pos : Pos} {pins : List (Addr × Obj)} {s : Shared} {σ : L2.St} {H : Hp} {Q : Value → Shared → Prop} {R : Addr → Hp → Prop} (he : PE X o ta) (hb : plainBase o = true) (hl : (apos.endLine == pos.line) = true) (hn : es.length < 30) (hs : es.all noStar = true)
    (cI : Cls X.K (He.ga X.K c)) (hm : Meth X.K (He.ga X.K c) m f) (I : Inv X pins σ H s) (h : ta σ H fun x H1 => ∃ a dx fs, x = .ref a ∧ H1 a = some (.ins (He.ga X.K c) dx fs) ∧ fs.lookup m = none ∧ R a H1)
    (k : ∀ a H1 s1, Inv X pins σ H1 s1 → R a H1 → wpAny (model X.prog X.w) X.A (callWith pos (.ref f) [.ref a] (backTo pos (starEach es X.env)) (backToKw pos (keywordEach [] X.env))) Q X.xe s1) :
    wpAny (model X.prog X.w) X.A (eval (.Call (.Attribute o m apos) es [] pos) X.env) Q X.xe s := by
  rw [arm_eval_Call, base_plain hb]
  refine wpAny_bind (thn (he.run pins s σ H _ I h) fun u s1 ⟨x, H1, I1, rx, a, dx, fs, ex, ea, l, q⟩ => ?_)
  subst ex
  obtain rfl : u = Value.ref a := rx
  refine wpAny_bind (wpAny_standAt ?_)
  have hform : methodCallForm (es.length + ([] : List Keyword).length) (backTo pos (starEach es X.env)) (backToKw pos (keywordEach [] X.env)) = true := by
    have a1 : (backTo pos (starEach es X.env)).any (·.1) = false := starEach_plain hs
    have b1 : (backTo pos (starEach es X.env)).all (fun x => !x.1) = true := by
      rw [List.all_eq_not_any_not]
      simpa using a1
    unfold methodCallForm
    rw [b1]
    simp [backToKw, keywordEach]
    omega
  have hpos : methodCallPos true o X.env apos pos = pure pos := by unfold methodCallPos; simp [hl]
  unfold methodCall
  rw [hform]
  refine wpAny_bind (wpAny_holding (getmeth_ok I1 ea cI hm l ?_))
  exact wpAny_bind (wpAny_of_eq hpos (k a H1 s1 I1 q))
section
variable {c m : Str} {k : Nat} {f : Addr} {fd : FuncData} {ps : List Str} {sp : Sp} {W : WX} {o e : Expr} {es : List Expr} {ta : TE} {t : TA} {apos pos : Pos}
theorem pe_mthS (he : PE X o ta) (hb : plainBase o = true) (hl : (apos.endLine == pos.line) = true) (hn : (e :: es).length < 30) (h1 : noStar e = true) (h2 : es.all noStar = true)
    (cI : Cls X.K (He.ga X.K c)) (hm : Meth X.K (He.ga X.K c) m f) (F : FnOk X.prog X.w X.K X.mg X.base (L2.CX X.prog X.w) k f fd ps sp) (hr : Room k X.A) (hbd : Binds X.K fd ps []) (tk : Takes X W) (ha : PA X (e :: es) t) :
    PE X (.Call (.Attribute o m apos) (e :: es) [] pos) (tMthS X.K c m sp W ta t) :=
  ⟨fun pins s σ H Q I h => mth_to (R := fun a H1 => t σ H1 fun vs H2 => sp (.ref a :: vs) H2 Q fun c d H' => W c d σ H') he hb hl hn (by rw [List.all_cons, h1, h2]; rfl) cI hm I (by
    have e : (fun (x : V) (H1 : Hp) => ∃ a dx fs, x = V.ref a ∧ H1 a = some (.ins (He.ga X.K c) dx fs) ∧ fs.lookup m = none ∧ t σ H1 fun vs H2 => sp (.ref a :: vs) H2 Q fun c d H' => W c d σ H') = fun x H1 => ∃ a dx fs, x = V.ref a ∧ H1 a = some (.ins (He.ga X.K c) dx fs) ∧ fs.lookup m = none ∧ t σ H1 fun vs H2 => sp (x :: vs) H2 Q fun c d H' => W c d σ H' := by
      funext x H1
      refine propext ⟨fun ⟨a, dx, fs, z, r⟩ => ⟨a, dx, fs, z, by rw [z]; exact r⟩, fun ⟨a, dx, fs, z, r⟩ => ⟨a, dx, fs, z, by rw [z] at r; exact r⟩⟩
    rw [e]
    exact h) fun a H1 s1 I1 q =>
    PySem.W.callWith_K (first := [.ref a]) (h₀ := X.base) I1.ok.mod.kin hm.kp (thn (ha.run pos pins s1 σ H1 _ I1 q) fun us s2 ⟨vs, H2, I2, r, q2⟩ => ⟨I2.kIn, run_fnS (us := .ref a :: us) (vs := .ref a :: vs) (E := fun σ c d H => W c d σ H) F hr hbd (passAt tk σ) I2 (.cons rfl r) q2⟩) (starEach_cons h1) (starEach_plain h2)⟩
theorem pe_mthS0 (he : PE X o ta) (hb : plainBase o = true) (hl : (apos.endLine == pos.line) = true)
    (cI : Cls X.K (He.ga X.K c)) (hm : Meth X.K (He.ga X.K c) m f) (F : FnOk X.prog X.w X.K X.mg X.base (L2.CX X.prog X.w) k f fd ps sp) (hr : Room k X.A) (hbd : Binds X.K fd ps []) (tk : Takes X W) :
    PE X (.Call (.Attribute o m apos) [] [] pos) (tMthS X.K c m sp W ta tNil) :=
  ⟨fun pins s σ H Q I h => mth_to (R := fun a H1 => sp [.ref a] H1 Q fun c d H' => W c d σ H') he hb hl (by decide) rfl cI hm I (by
    have e : (fun (x : V) (H1 : Hp) => ∃ a dx fs, x = V.ref a ∧ H1 a = some (.ins (He.ga X.K c) dx fs) ∧ fs.lookup m = none ∧ sp [.ref a] H1 Q fun c d H' => W c d σ H') = fun x H1 => ∃ a dx fs, x = V.ref a ∧ H1 a = some (.ins (He.ga X.K c) dx fs) ∧ fs.lookup m = none ∧ sp [x] H1 Q fun c d H' => W c d σ H' := by
      funext x H1
      refine propext ⟨fun ⟨a, dx, fs, z, r⟩ => ⟨a, dx, fs, z, by rw [z]; exact r⟩, fun ⟨a, dx, fs, z, r⟩ => ⟨a, dx, fs, z, by rw [z] at r; exact r⟩⟩
    rw [e]
    exact h) fun a H1 s1 I1 q => PySem.W.callWith_K0 (first := [.ref a]) I1.kIn hm.kp (run_fnS (us := [.ref a]) (vs := [.ref a]) (E := fun σ c d H => W c d σ H) F hr hbd (passAt tk σ) I1 (.cons rfl .nil) q)⟩
end
/-- a new instance -/
theorem run_mkS {pins : List (Addr × Obj)} {σ : L2.St} {H : Hp} {s : Shared} {Q : VK} {us ws : List Value} {vs zs : List V} {c : Str} {k n : Nat} {fI : Addr} {fd : FuncData} {ps ks : List Str} {sp : Sp} {E : XK} (M : Mk X.K (He.ga X.K c) fI) (F : FnOk X.prog X.w X.K X.mg X.base (L2.CX X.prog X.w) k fI fd ps sp) (hr : Room (k + 1) X.A) (hb : KBn X.K fd ps (n + 1) ks (fun us ws => us ++ ws) (fun vs zs => vs ++ zs)) (hx : PassesAt (L2.CX X.prog X.w) X σ E)
    (I : Inv X pins σ H s) (r : Vals vs us) (rz : Vals zs ws) (l1 : vs.length = n) (l2 : zs.length = ks.length)
    (h : ∀ x dx, H x = none → H dx = none → dx ≠ x → sp (.ref x :: (vs ++ zs)) (upd (upd H dx (.own x)) x (.ins (He.ga X.K c) dx [])) (fun v H2 => v = .non ∧ Q (.ref x) H2) E) :
    wpAny (model X.prog X.w) X.A (PySem.call (.ref (He.ga X.K c)) us (ks.zip ws)) (EP X pins σ Q) X.xe s := by
  have hq := h (s.heap.objs.size + 1) s.heap.objs.size (I.hok.fresh (Nat.le_succ _)) (I.hok.fresh (Nat.le_refl _)) (Nat.ne_of_lt (Nat.lt_succ_self _))
  have I2 := Inv.made (C := He.ga X.K c) I
  have r1 : Vals (V.ref (s.heap.objs.size + 1) :: vs) (Value.ref (s.heap.objs.size + 1) :: us) := .cons rfl r
  have r2 := hb.rel r1 rz
  have n1 : (Value.ref (s.heap.objs.size + 1) :: us).length = n + 1 := by
    rw [List.length_cons, ← r.length, l1]
  refine wpAny_call (make_map (f := fI) I.kIn M.makes M.init (beq_iff_eq.mp M.fn) (codeAny_mono (F.run _ X.stack _ _ ⟨Value.ref (s.heap.objs.size + 1) :: us, ks.zip ws⟩ ((Value.ref (s.heap.objs.size + 1) :: us) ++ ws) _ _ E (hr.make (He.ga X.K c) us (ks.zip ws))
    (I2.env0.make (He.ga X.K c) us (ks.zip ws)) (hb.to _ (Value.ref (s.heap.objs.size + 1) :: us) ws I2.kIn n1 (rz.length.symm.trans l2)) r2 hq) fun r s' hq' => ?_))
  cases r with
  | error e => exact hx pins _ _ e s' I2 hq'
  | ok fl =>
    cases fl with
    | ret u =>
      obtain ⟨v, H', I3, rv, ev, q3⟩ := I2.after hq'
      subst ev
      exact ⟨rv, ⟨V.ref (s.heap.objs.size + 1), H', I3, rfl, q3⟩⟩
    | next => exact False.elim hq'
    | brk => exact False.elim hq'
    | cont => exact False.elim hq'
section
variable {c : Str} {k n : Nat} {ks : List Str} {sp : Sp} {W : WX} {e : Expr} {es : List Expr} {kws : List Keyword} {t tk : TA} {p pos : Pos}
/-- C(k = v, ..) -/
theorem pe_mkS0 (g : IniF X.prog X.w X.K X.mg X.base k c sp 0 ks) (hr : Room (k + 1) X.A) (hg : Gl X c) (hdb : (c == ("__debug__" : Str)) = false) (tkk : Takes X W) (hk : PK X kws tk) (hks : kws.map (·.arg) = ks.map some) :
    PE X (.Call (.Name c p) [] kws pos) (tMkS X.K c 0 ks.length sp W tNil tk) := by
  obtain ⟨fI, fd, ps, M, F, hb⟩ := g.ini
  obtain ⟨k1, k2, k3⟩ := kw_names (env := X.env) (pos := pos) hks
  refine ⟨fun pins s σ H Q I h => ?_⟩
  refine wpAny_Call_Name_kw (ld_glob I hg g.mgc ?_ hdb)
  refine PySem.W.callWith_KW0 (h₀ := X.base) I.ok.mod.kin M.kp k1 ?_ (by rw [k3]; rfl)
  refine thn (hk.run pos pins s σ H _ I h) fun ws s2 ⟨zs, H2, I2, rz, _, l2, q2⟩ => ⟨I2.kIn, ?_⟩
  rw [k2]
  exact run_mkS (us := []) (vs := []) (n := 0) M F hr hb (passAt tkk σ) I2 .nil rz rfl l2 q2
/-- C(e, .., k = v, ..) -/
theorem pe_mkS (g : IniF X.prog X.w X.K X.mg X.base k c sp n ks) (hr : Room (k + 1) X.A) (hg : Gl X c) (hdb : (c == ("__debug__" : Str)) = false) (tkk : Takes X W) (ha : PA X (e :: es) t) (h1 : noStar e = true) (h2 : es.all noStar = true) (hk : PK X kws tk) (hks : kws.map (·.arg) = ks.map some) :
    PE X (.Call (.Name c p) (e :: es) kws pos) (tMkS X.K c n ks.length sp W t tk) := by
  obtain ⟨fI, fd, ps, M, F, hb⟩ := g.ini
  obtain ⟨k1, k2, k3⟩ := kw_names (env := X.env) (pos := pos) hks
  refine ⟨fun pins s σ H Q I h => ?_⟩
  refine wpAny_Call_Name_kw (ld_glob I hg g.mgc ?_ hdb)
  refine PySem.W.callWith_KW (h₀ := X.base) I.ok.mod.kin M.kp k1 (thn (ha.run pos pins s σ H _ I h) fun us s1 ⟨vs, H1, I1, r, q⟩ => ?_) (by rw [starEach_plain (by rw [List.all_cons, h1, h2]; rfl), k3]; rfl) (starEach_cons h1)
  refine thn (hk.run pos pins s1 σ H1 _ I1 q) fun ws s2 ⟨zs, H2, I2, rz, l1, l2, q2⟩ => ⟨I2.kIn, ?_⟩
  rw [k2]
  exact run_mkS M F hr hb (passAt tkk σ) I2 r rz l1 l2 q2
end
/-- x == y, x != y by the own __eq__ -/
theorem looks_ty {pins : List (Addr × Obj)} {σ : L2.St} {H : Hp} {s : Shared} {y : V} {u t : Value} (I : Inv X pins σ H s) (ry : RelV y u) (ty : TyX X.K H y t) : PySem.W.Looks (model X.prog X.w) s.heap (typeOf u) t := by
  obtain ⟨P, k, p, _⟩ := kit_of I ry ty
  exact k.ty _ _ I.kIn p
section
variable {M : Model} {prog : Program} {w : World} {A : Around} {E : Value → Shared → Prop} {s : Shared} {K : PySem.W.Frag} {x C f : Addr} {ox : Obj} {od : Option Obj} {b tb : Value}
theorem ifBound_objNe {args : List Value} {Q : Option Value → Shared → Prop} (X : K.In s.heap) (I : PySem.W.InstAt s.heap x ox C od) (hs : PySem.W.findIn K (.ref C) "__ne__" = some (some (.builtin "object.__ne__")))
    (h : wpAny M A (PySem.call (.builtin "object.__ne__") (.ref x :: args)) (fun v => Q (some v)) E s) : wpAny M A (callSpecialIfBound? (.ref x) "__ne__" args) Q E s := by
  simp only [callSpecialIfBound?, bindSpecialIfBound?]
  refine wpAny_holding (wpAny_bind (wpAny_bind (wpAny_bind (I.type.here ((PySem.W.looks_findIn X hs).here ?_)))))
  refine wpAny_bind (wpAny_askSetting (wpAny_ite ?_))
  have fin : wpAny M A (PySem.call (.builtin "object.__ne__") ([.ref x] ++ args) >>= fun v => pure (some v)) Q E s := wpAny_bind (wpAny_mono h (fun v s' h' => wpAny_pure h') fun _ _ h' => h')
  split
  · exact wpAny_bind (wpAny_of_eq (PySem.F.cmp_object.ne.bind _) (wpAny_pure (by exact fin)))
  · exact wpAny_tryCatch (wpAny_bind (wpAny_of_eq (PySem.F.cmp_object.ne.bind _) (wpAny_pure (by exact fin))))
theorem objNe_entry {Q : PySem.Fin → Shared → Prop} (X : K.In s.heap) (I : PySem.W.InstAt s.heap x ox C od) (hs : PySem.W.findIn K (.ref C) "__eq__" = some (some (.ref f))) (hf : PySem.W.isFn K (.ref f) = true) (hu : A.units < cLine)
    (h : wpAny M A (PySem.call (.ref f) [.ref x, b]) (fun v s' => ∃ k, v = .bool k ∧ Q (.done (.ret (.bool (!k)))) s') E s) : wpAny M A (Builtin.«object.__ne__» ⟨[.ref x, b], []⟩) Q E s := by
  unfold Builtin.«object.__ne__»
  repeat (first
    | with_reducible refine wpAny_cRoomFor hu ?_
    | (refine wpAny_bind (m := callSpecialIfBound? (.ref x) (Str.ofString "__eq__") [b])
        (PySem.W.ifBound_K X I hs hf (wpAny_mono h (fun r s' hr => by
          obtain ⟨k, rfl, hq⟩ := hr
          repeat (first | exact hq | exact wpAny_pure hq | exact wpAny_truthy_bool hq | (refine wpAny_bind (m := truthy (.bool _)) (wpAny_truthy_bool ?_)) | wp_step)) fun _ _ e => e)))
    | wp_step)
theorem cmp_ne {Q : Value → Shared → Prop} (hu : A.units + 1 < cLine) (X : K.In s.heap) (I : PySem.W.InstAt s.heap x ox C od) (hb : PySem.W.Looks (model prog w) s.heap (typeOf b) tb) (hn : PySem.W.notFirst K C tb = true)
    (hne : PySem.W.findIn K (.ref C) "__ne__" = some (some (.builtin "object.__ne__"))) (hm : PySem.W.mroIn K C (.type "object") = some true) (hs : PySem.W.findIn K (.ref C) "__eq__" = some (some (.ref f))) (hf : PySem.W.isFn K (.ref f) = true)
    (h : wpAny (model prog w) A.in1 (PySem.call (.ref f) [.ref x, b]) (fun v s' => ∃ k, v = .bool k ∧ Q (.bool (!k)) s') E s) : wpAny (model prog w) A (richCompare .NotEq (.ref x) b) Q E s := by
  have one : wpAny (model prog w) A (tryCompare (.ref x) "__ne__" b) (fun r s' => ∃ v, r = some v ∧ Q v s') E s := by
    unfold tryCompare
    refine wpAny_bind (ifBound_objNe X I hne (wpAny_call (codeAny_call_builtin PySem.F.cmp_object.ne.plain PySem.F.cmpEntry_ne (PySem.W.check_slot PySem.F.cmpKind_ne PySem.F.cmpSplit_ne (I.type.andThen (PySem.W.looks_mroIn X hm)) (PySem.F.cmpArgs_ne _ _) (objNe_entry (A := A.in1) X I hs hf hu (wpAny_mono h (fun v s' hv => ?_) fun _ _ e => e))))))
    obtain ⟨k, rfl, hq⟩ := hv
    exact ⟨k, rfl, wpAny_pure ⟨_, rfl, hq⟩⟩
  unfold richCompare
  simp only [oneThing_ref]
  refine wpAny_holding (wpAny_bind (wpAny_cRoomFor (Nat.lt_of_succ_lt hu) ?_))
  refine wpAny_bind (I.type.here (wpAny_bind (hb.here ?_)))
  split
  · rename_i q
    have e : PySem.W.subIn K tb (.ref C) = some false := by
      rcases Bool.or_eq_true_iff.mp hn with e | e
      · rw [beq_iff_eq.mp e] at q; simp at q
      · exact beq_iff_eq.mp e
    refine wpAny_bind ((PySem.W.looks_subIn X e).here ?_)
    simp only [Bool.false_eq_true, if_false]
    refine wpAny_bind (wpAny_mono one (fun r s' z => ?_) fun _ _ e => e)
    obtain ⟨v, rfl, hq⟩ := z
    exact wpAny_pure hq
  · refine wpAny_bind (wpAny_pure ?_)
    simp only [Bool.false_eq_true, if_false]
    refine wpAny_bind (wpAny_mono one (fun r s' z => ?_) fun _ _ e => e)
    obtain ⟨v, rfl, hq⟩ := z
    exact wpAny_pure hq
end
theorem op_ceq {o : COp} {op : CmpOp} {c : Str} {k : Nat} {f : Addr} {fd : FuncData} {ps : List Str} {sp : Sp} (ho : copB o op = true) (hs : PySem.W.findIn X.K (.ref (He.ga X.K c)) "__eq__" = some (some (.ref f))) (hf : PySem.W.isFn X.K (.ref f) = true)
    (F : FnOk X.prog X.w X.K X.mg X.base (L2.CX X.prog X.w) k f fd ps sp) (hr : Room (k + 1) X.A) (hb : Binds X.K fd ps []) : OpR X (compareOp op) (rCeq X.K o c sp) := by
  intro pins s σ H x y v u Q I rx ry h
  obtain ⟨a, dx, fs, t, n, rfl, ea, ty, hn, h1, h2, q⟩ := h
  obtain rfl : v = Value.ref a := rx
  obtain ⟨mA, J0, _⟩ := ins_get I.hok ea
  obtain ⟨od, J, _⟩ := J0.look
  obtain ⟨m, hF⟩ := I.fr
  have hp : ∀ {X' : Cx} {E' : XK}, True := trivial
  cases n with
  | false =>
    have e : op = .Eq := by
      cases o <;> cases hn
      cases op <;> first | rfl | cases ho
    subst e
    show wpAny _ _ (richCompare .Eq (.ref a) u) _ _ _
    refine PySem.W.cmp_K (op := .Eq) (tb := t) hr.units0 hF I.ok.mod.kin J (looks_ty I ry ty) h1 hs hf ?_
    refine wpAny_mono (run_fnS (us := [.ref a, u]) (vs := [.ref a, y]) (E := fun _ _ _ _ => False) F (hr.mono (Nat.le_succ _)) hb (fun pins H s e s' I h => (by
      obtain ⟨_, _, _, _, _, _, _, _, _, _, _, _, z⟩ := h
      exact z.elim)) I (.cons rfl (.cons ry .nil)) q) (fun w s' z => ?_) fun _ _ x => x
    obtain ⟨z', H', I', rz, b, rfl, qz⟩ := z
    obtain rfl : w = Value.bool b := rz
    exact ⟨.bl b, H', I', rfl, by simpa using qz⟩
  | true =>
    have e : op = .NotEq := by
      cases o <;> cases hn
      cases op <;> first | rfl | cases ho
    subst e
    obtain ⟨n1, n2⟩ := h2 rfl
    show wpAny _ _ (richCompare .NotEq (.ref a) u) _ _ _
    refine cmp_ne (tb := t) (by have := hr.un; omega) I.kIn J (looks_ty I ry ty) h1 n1 n2 hs hf ?_
    have hl : ([Value.ref a, u] : List Value).length = ps.length := F.len [.ref a, y] _ _ _ q
    have b := hb s [.ref a, u] I.kIn (by rw [List.append_nil]; exact hl)
    rw [List.append_nil] at b
    refine wpAny_call (codeAny_mono (F.run X.A.in1 X.stack s H ⟨[.ref a, u], []⟩ [.ref a, u] [.ref a, y] _ (fun _ _ _ => False) hr.in1 I.env0.in1 b (.cons rfl (.cons ry .nil)) q) fun r s' hq => ?_)
    cases r with
    | error e =>
      obtain ⟨_, _, _, _, _, _, _, _, _, _, _, _, z⟩ := hq
      exact z.elim
    | ok fl =>
      cases fl with
      | ret u =>
        obtain ⟨z', H', I', rz, k, rfl, qz⟩ := I.after hq
        obtain rfl : u = Value.bool k := rz
        exact ⟨k, rfl, .bl (!k), H', I', rfl, by simpa using qz⟩
      | next => exact False.elim hq
      | brk => exact False.elim hq
      | cont => exact False.elim hq
theorem ix_kdg {x : Str} {es : Array DictEntry} {n : Nat} (D : KDict X.K X.w (He.ga X.K x) es n) : IxR X (rKdg X.K x) := by
  intro value slice pins s σ H v y u w Q I rx ry h hs
  obtain ⟨z, u0, v0, rfl, rfl, e, r, q⟩ := h
  exact ix_kdict value slice pins s σ H (.ref (He.ga X.K x)) (.str z) u w Q I rx ry ⟨_, z, v0, rfl, rfl, ⟨es, n, u0, D.at_, D.lit, e, r⟩, q⟩ hs
theorem op_kdi {x : Str} {es : Array DictEntry} {n : Nat} {b : Bool} {op : CmpOp} (D : KDict X.K X.w (He.ga X.K x) es n) (ho : copB (if b then .notin else .inn) op = true) : OpR X (compareOp op) (rKdi X.K b x) := by
  intro pins s σ H y v u w Q I ry rv h
  obtain ⟨z, r, rfl, rfl, e, q⟩ := h
  cases b with
  | false =>
    have eo : op = .In := by cases op <;> first | rfl | cases ho
    subst eo
    exact op_in_kd D pins s σ H (.str z) (.ref (He.ga X.K x)) u w Q I ry rv ⟨z, r, rfl, rfl, e, by simpa using q⟩
  | true =>
    have eo : op = .NotIn := by cases op <;> first | rfl | cases ho
    subst eo
    exact op_notIn_kd D pins s σ H (.str z) (.ref (He.ga X.K x)) u w Q I ry rv ⟨z, r, rfl, rfl, e, by simpa using q⟩
theorem op_mulS : OpR X (binaryOp .Mult) rMulS := by
  intro pins s σ H x y v u Q I rx ry h
  obtain ⟨a, n, rfl, rfl, h1, h2, h3, h5, q⟩ := h
  obtain ⟨t, rfl⟩ := rx
  obtain ⟨t', rfl⟩ := ry
  have hz : sizeLine = 16777216 := sizeLine_eq
  have hn : n.toNat ≤ 16777216 := by
    rw [hz] at h3
    exact Nat.le_trans (Nat.le_mul_of_pos_left _ h2) h3
  refine P.mul_str ?_ (fun _ _ => ?_) (fun _ _ => ?_) ?_
  · simp; omega
  · have hm : (a.length : Int) * n ≤ 16777216 := by
      rw [hz] at h3
      have e : (n.toNat : Int) = n := by omega
      have h4 : ((a.length * n.toNat : Nat) : Int) ≤ ((16777216 : Nat) : Int) := Int.ofNat_le.mpr h3
      rw [Int.natCast_mul, e] at h4
      exact h4
    have := (Int.le_ediv_iff_mul_le (c := n) (a := (a.length : Int)) (b := 2 ^ 63 - 1) (by omega)).mpr (by omega)
    omega
  · show decide _ = false
    exact decide_eq_false (by omega)
  · rw [if_neg (by omega), if_neg (by simp; omega)]
    simp only [Made.post]
    exact ⟨h5, .str _, H, I.kept (fun b u e => e), ⟨_, rfl⟩, q⟩
theorem op_bin (o : BOp) {op : Operator} (h : bopB o op = true) : OpR X (binaryOp op) (rBin X.K o) := by
  cases o <;> cases op <;> first | cases h | skip
  · exact OpR.or op_add (OpR.or op_add_str (OpR.or op_cat op_catA))
  · exact op_sub
  · exact OpR.or op_mul op_mulS
  · exact op_mod
  · exact op_fdiv
  · exact op_pow
theorem vals_len : ∀ {vs : List V} {us : List Value}, Vals vs us → vs.length = us.length
  | _, _, .nil => rfl
  | _, _, .cons _ r => by rw [List.length_cons, List.length_cons, vals_len r]
theorem op_eqLen (hu : X.A.units < cLine) : OpR X (compareOp .Eq) (rLen X.K false) := by
  intro pins s σ H x y v u Q I rx ry h
  obtain ⟨a, b, xs, ys, rfl, rfl, ha, hb, hn, q⟩ := h
  obtain rfl : v = Value.ref a := rx
  obtain rfl : u = Value.ref b := ry
  obtain ⟨its, r1, pl, _⟩ := I.list ha
  obtain ⟨its2, r2, pl2, _⟩ := I.list hb
  refine SeqAt.RcAt.lists_lengths pl.isList pl2.isList ?_ hu _ _ _ _ ⟨.bl false, H, I, rfl, q⟩
  rw [bne_iff_ne]
  rw [vals_len r1, vals_len r2] at hn
  exact hn
theorem op_neLen (hu : X.A.units < cLine) : OpR X (compareOp .NotEq) (rLen X.K true) := by
  intro pins s σ H x y v u Q I rx ry h
  obtain ⟨a, b, xs, ys, rfl, rfl, ha, hb, hn, q⟩ := h
  obtain rfl : v = Value.ref a := rx
  obtain rfl : u = Value.ref b := ry
  obtain ⟨its, r1, pl, _⟩ := I.list ha
  obtain ⟨its2, r2, pl2, _⟩ := I.list hb
  refine SeqAt.RcNeAt.lists_lengths pl.isList pl2.isList ?_ hu _ _ _ _ ⟨.bl true, H, I, rfl, q⟩
  rw [bne_iff_ne]
  rw [vals_len r1, vals_len r2] at hn
  exact hn
theorem op_cmp {k : Nat} (hr : Room k X.A) (o : COp) {op : CmpOp} (h : copB o op = true) : OpR X (compareOp op) (rCmp X.K o) := by
  have hu : X.A.units + 65 < cLine := by have := hr.un; omega
  cases o <;> cases op <;> first | cases h | skip
  · exact OpR.or op_eq (OpR.or (op_eqD hr.units) (op_eqLen (by have := hr.un; omega)))
  · exact OpR.or op_ne (OpR.or (op_neD hr.units) (op_neLen (by have := hr.un; omega)))
  · exact op_lt
  · exact op_le
  · exact op_gt
  · exact op_ge
  · exact OpR.or op_isN op_isBl
  · exact OpR.or op_notN op_notBl
  · exact OpR.or op_in_sign (OpR.or op_in_str (OpR.or (op_inD hu) op_in_seq))
  · exact OpR.or op_notIn_sign (OpR.or op_notIn_str (OpR.or (op_notInD hu) op_notIn_seq))
/-- an iterator that is one new object -/
theorem it_new {pins : List (Addr × Obj)} {σ : L2.St} {H1 : Hp} {s1 : Shared} {tg : Expr} {J : It} {o : Obj} {tn : Nat → Heap → Prop} {R : It → Hp → Prop} (I1 : Inv X pins σ H1 s1)
    (tr : Turn X.prog X.w X.K tg J [s1.heap.objs.size] s1.heap.objs.size tn) (h0 : tn 0 (s1.heap.push o)) (q : R J H1) : PIE X pins σ tg R (.ref s1.heap.objs.size) { s1 with heap := s1.heap.push o } := by
  have I2 : Inv X pins σ H1 { s1 with heap := s1.heap.push o, toks := s1.toks } := I1.kept fun b u e => Heap.get?_push_of_some _ e
  refine ⟨_, _, _, _, H1, rfl, I2, tr, h0, fun b hb => ?_, q⟩
  rw [List.mem_singleton] at hb
  rw [hb]
  exact I1.fpOk (Nat.le_refl _) (I1.hok.fresh (Nat.le_refl _))
theorem PI.any {tg it : Expr} {te : TE} (h : PE X it te) : PI X tg it (iAny X.K te) := by
  refine ⟨fun pins s σ H R I hw => thn (h.run pins s σ H _ I hw) fun v s1 ⟨x, H1, I1, r1, q1⟩ => ?_⟩
  rcases q1 with ⟨a, rfl, ⟨xs, hq⟩, q⟩ | ⟨a, rfl, ⟨xs, hq⟩, q⟩ | ⟨z, rfl, q⟩
  · obtain rfl : v = Value.ref a := r1
    obtain ⟨its, _, pl, _⟩ := I1.list hq
    exact wpAny_pyIter_list pl.isList (it_new I1 (turn_list a _) ⟨_, Heap.get?_push_size _ rfl, rfl, rfl⟩ q)
  · obtain rfl : v = Value.ref a := r1
    obtain ⟨its, _, pl, _⟩ := I1.tuple hq
    exact wpAny_pyIter_tuple (show s1.heap.IsTuple a its.toArray from pl) (it_new I1 (turn_tuple a _) ⟨_, Heap.get?_push_size _ rfl, rfl, rfl⟩ q)
  · obtain ⟨t, rfl⟩ := r1
    by_cases ha : z.cps.all (· < 128) = true
    · exact wpAny_pyIter_ascii ha (it_new I1 (turn_str _ z t "str_ascii_iterator" (.inl rfl)) ⟨_, Heap.get?_push_size _ rfl, rfl, rfl⟩ q)
    · rw [Bool.not_eq_true] at ha
      exact wpAny_pyIter_wide ha (it_new I1 (turn_str _ z t "str_iterator" (.inr rfl)) ⟨_, Heap.get?_push_size _ rfl, rfl, rfl⟩ q)
theorem PI.rng {tg e : Expr} {es : List Expr} {ta : TA} {p pos : Pos} (hg : Gl X "range") (hm : X.mg "range" = none) (ha : PA X (e :: es) ta) (h1 : noStar e = true) (h2 : es.all noStar = true) : PI X tg (.Call (.Name "range" p) (e :: es) [] pos) (iRng ta) := by
  refine ⟨fun pins s σ H R I h => Call_ (ld_blt I hg hm boot_range (PyProof.Rows.callWith_type1 (thn (ha.run pos pins s σ H _ I h) fun us s1 ⟨vs, H1, I1, r1, q1⟩ => ?_) (starEach_cons h1) (starEach_plain h2)))⟩
  rcases q1 with ⟨n, rfl, b1, b2, q⟩ | ⟨m, n, rfl, ⟨b1, b2, b3, b4⟩, q⟩
  · obtain ⟨u, rfl, t, rfl⟩ := vals1 r1
    exact call_range_1 (range_it I1 (by omega) (by omega) b1 b2 (by simpa using q))
  · obtain ⟨u, u', rfl, ⟨t, rfl⟩, ⟨t', rfl⟩⟩ := vals2 r1
    exact call_range_2 (range_it I1 b1 b2 b3 b4 q)
theorem pt_pw {op : BoolOp} {vs : List Expr} {pos : Pos} {t : TT} (h : PT X (.BoolOp op vs pos) t) : PW X (.BoolOp op vs pos) t := ⟨fun whole pins s σ H Q I q => by
  have := h.run pins s σ H Q I q
  have e : ∀ w, isTrue (.BoolOp op vs pos) X.env w = allTrue op vs X.env := fun w => by simp only [PySem.isTrue]
  rw [e] at this ⊢
  exact this⟩
end
end PF
/-! Rules: own classes further (star calls, staticmethods, [], in, len, str, bool). -/
namespace PF
open PySem L2 PySem.Spec PyProof.Rows
section
variable {X : Cx}
theorem run_mkX {pins : List (Addr × Obj)} {σ : L2.St} {H : Hp} {s : Shared} {Q : VK} {us : List Value} {vs : List V} {c : Str} {k m : Nat} {fI : Addr} {sp : Sp} {E : XK} (M : Mk X.K (He.ga X.K c) fI) (F : FnR X.prog X.w X.K X.mg X.base (L2.CX X.prog X.w) k fI (spStar m sp)) (hr : Room (k + 1) X.A) (hx : PassesAt (L2.CX X.prog X.w) X σ E)
    (I : Inv X pins σ H s) (r : Vals vs us) (l1 : m ≤ vs.length) (l2 : vs.length - m ≤ sizeLine)
    (h : ∀ x dx p, H x = none → H dx = none → dx ≠ x → H p = none → p ≠ x → p ≠ dx → sp (.ref x :: (vs.take m ++ [.ref p])) (upd (upd (upd H p (.tup (vs.drop m))) dx (.own x)) x (.ins (He.ga X.K c) dx [])) (fun v H2 => v = .non ∧ Q (.ref x) H2) E) :
    wpAny (model X.prog X.w) X.A (PySem.call (.ref (He.ga X.K c)) us) (EP X pins σ Q) X.xe s := by
  have hq : spStar m sp (.ref (s.heap.objs.size + 1) :: vs) (upd (upd H s.heap.objs.size (.own (s.heap.objs.size + 1))) (s.heap.objs.size + 1) (.ins (He.ga X.K c) s.heap.objs.size [])) (fun v H2 => v = .non ∧ Q (.ref (s.heap.objs.size + 1)) H2) E := by
    refine ⟨.ref (s.heap.objs.size + 1) :: vs.take m, vs.drop m, by rw [List.cons_append, List.take_append_drop], by rw [List.length_cons, List.length_take, Nat.min_eq_left l1], by rw [List.length_drop]; exact l2, fun p hp => ?_⟩
    have n1 : p ≠ s.heap.objs.size + 1 := fun z => by rw [z, upd_same] at hp; cases hp
    have n2 : p ≠ s.heap.objs.size := fun z => by
      rw [z, upd_ne (Nat.ne_of_lt (Nat.lt_succ_self _)), upd_same] at hp; cases hp
    have n3 : H p = none := by rw [upd_ne n1, upd_ne n2] at hp; exact hp
    have q := h (s.heap.objs.size + 1) s.heap.objs.size p (I.hok.fresh (Nat.le_succ _)) (I.hok.fresh (Nat.le_refl _)) (Nat.ne_of_lt (Nat.lt_succ_self _)) n3 n1 n2
    have eH : upd (upd (upd H p (.tup (vs.drop m))) s.heap.objs.size (.own (s.heap.objs.size + 1))) (s.heap.objs.size + 1) (.ins (He.ga X.K c) s.heap.objs.size []) = upd (upd (upd H s.heap.objs.size (.own (s.heap.objs.size + 1))) (s.heap.objs.size + 1) (.ins (He.ga X.K c) s.heap.objs.size [])) p (.tup (vs.drop m)) := by
      funext b
      by_cases h1 : b = p
      · subst h1
        rw [upd_same, upd_ne n1, upd_ne n2, upd_same]
      · rw [upd_ne h1]
        by_cases h2 : b = s.heap.objs.size + 1
        · subst h2; rw [upd_same, upd_same]
        · rw [upd_ne h2, upd_ne h2]
          by_cases h3 : b = s.heap.objs.size
          · subst h3; rw [upd_same, upd_same]
          · rw [upd_ne h3, upd_ne h3, upd_ne h1]
    rw [eH] at q
    exact q
  have I2 := Inv.made (C := He.ga X.K c) I
  have r2 : Vals (V.ref (s.heap.objs.size + 1) :: vs) (Value.ref (s.heap.objs.size + 1) :: us) := .cons rfl r
  refine wpAny_call (make_map (f := fI) I.kIn M.makes M.init (beq_iff_eq.mp M.fn) (codeAny_mono (F _ X.stack _ _ (Value.ref (s.heap.objs.size + 1) :: us) _ _ E (hr.make (He.ga X.K c) us []) (I2.env0.make (He.ga X.K c) us []) r2 hq) fun r s' hq' => ?_))
  cases r with
  | error e => exact hx pins _ _ e s' I2 hq'
  | ok fl =>
    cases fl with
    | ret u =>
      obtain ⟨v, H', I3, rv, ev, q3⟩ := I2.after hq'
      subst ev
      exact ⟨rv, ⟨V.ref (s.heap.objs.size + 1), H', I3, rfl, q3⟩⟩
    | next => exact False.elim hq'
    | brk => exact False.elim hq'
    | cont => exact False.elim hq'
/-- C(e, .., *y) or C(e, ..) of a class whose __init__ has a star parameter -/
theorem pe_mkX {c : Str} {k m : Nat} {fI : Addr} {sp : Sp} {W : WX} {e : Expr} {es : List Expr} {t : TA} {p pos : Pos} (hmg : X.mg c = some (.ref (He.ga X.K c))) (M : Mk X.K (He.ga X.K c) fI) (F : FnR X.prog X.w X.K X.mg X.base (L2.CX X.prog X.w) k fI (spStar m sp)) (hr : Room (k + 1) X.A) (hg : Gl X c) (hdb : (c == ("__debug__" : Str)) = false) (tk : Takes X W)
    (ha : PA X (e :: es) t) (h1 : noStar e = true) : PE X (.Call (.Name c p) (e :: es) [] pos) (tMkX X.K c m sp W t) := by
  refine ⟨fun pins s σ H Q I h => ?_⟩
  refine wpAny_Call_Name_kw (ld_glob I hg hmg ?_ hdb)
  have body : wpAny (model X.prog X.w) X.A (spliced (backTo pos (starEach (e :: es) X.env))) (fun us s1 => X.K.In s1.heap ∧ wpAny (model X.prog X.w) X.A (PySem.call (.ref (He.ga X.K c)) us) (EP X pins σ Q) X.xe s1) X.xe s :=
    thn (ha.run pos pins s σ H _ I h) fun us s1 ⟨vs, H1, I1, r, l1, l2, q⟩ => ⟨I1.kIn, run_mkX M F hr (passAt tk σ) I1 r l1 l2 q⟩
  cases hst : (backTo pos (starEach es X.env)).any (·.1) with
  | true => exact PySem.W.callWith_S2 (first := []) (h₀ := X.base) I.ok.mod.kin M.kp body (starEach_cons h1) hst
  | false => exact PySem.W.callWith_K (first := []) (h₀ := X.base) I.ok.mod.kin M.kp body (starEach_cons h1) hst
/-- C.m(e, ..), m a staticmethod -/
theorem pe_smc {c m : Str} {k : Nat} {f : Addr} {fd : FuncData} {ps : List Str} {sp : Sp} {W : WX} {e : Expr} {es : List Expr} {t : TA} {p apos pos : Pos} (hg : Gl X c) (hmg : X.mg c = some (.ref (He.ga X.K c))) (hdb : (c == ("__debug__" : Str)) = false) (hl : (apos.endLine == pos.line) = true) (hn : (e :: es).length < 30)
    (h1 : noStar e = true) (h2 : es.all noStar = true) (S : SmF X.K c m f) (F : FnOk X.prog X.w X.K X.mg X.base (L2.CX X.prog X.w) k f fd ps sp) (hr : Room k X.A) (hbd : Binds X.K fd ps []) (tk : Takes X W) (ha : PA X (e :: es) t) :
    PE X (.Call (.Attribute (.Name c p) m apos) (e :: es) [] pos) (tCallSD sp [] (fun σ c d H => W c d σ H) t) := by
  refine ⟨fun pins s σ H Q I h => ?_⟩
  rw [arm_eval_Call, base_plain rfl]
  refine wpAny_bind (ld_glob I hg hmg ?_ hdb)
  refine wpAny_bind (wpAny_standAt ?_)
  have hs : (e :: es).all noStar = true := by rw [List.all_cons, h1, h2]; rfl
  have hform : methodCallForm ((e :: es).length + ([] : List Keyword).length) (backTo pos (starEach (e :: es) X.env)) (backToKw pos (keywordEach [] X.env)) = true := by
    have a1 : (backTo pos (starEach (e :: es) X.env)).any (·.1) = false := starEach_plain hs
    have b1 : (backTo pos (starEach (e :: es) X.env)).all (fun x => !x.1) = true := by
      rw [List.all_eq_not_any_not]
      simpa using a1
    unfold methodCallForm
    rw [b1]
    simp [backToKw, keywordEach]
    simpa using hn
  have hpos : methodCallPos true (.Name c p) X.env apos pos = pure pos := by unfold methodCallPos; simp [hl]
  unfold methodCall
  rw [hform]
  obtain ⟨mc, hrd, pp, hfc, rest, hrec⟩ := S.rd
  refine wpAny_bind (wpAny_holding (PySem.W.method_cls I.kIn S.ga (PySem.W.cls_bind I.kIn hrd hfc (wpAny_call (PySem.W.sm_get (s := { s with toks := s.toks + 1 }) I.kIn hrec (PySem.W.handed_on rfl ?_))))))
  have I1 := I.tok (s.toks + 1)
  refine wpAny_bind (wpAny_of_eq hpos ?_)
  refine PySem.W.callWith_K (first := []) (h₀ := X.base) I1.ok.mod.kin S.kp (thn (ha.run pos pins _ σ H _ I1 h) fun us s2 ⟨vs, H2, I2, r, q2⟩ => ⟨I2.kIn, run_fnSD (us := us) (vs := vs) (E := fun σ c d H => W c d σ H) F hr hbd .nil (passAt tk σ) I2 r q2⟩) (starEach_cons h1) (starEach_plain h2)
end
end PF
/-! Rules: own __getitem__, __contains__, __len__, __str__. -/
namespace PF
open PySem L2 PySem.Spec PyProof.Rows
theorem sub_plain {b : Expr} (h : notSlice b = true) : ∀ o i, subscripted b true o i = runValue (.builtin "lifetime.subscript" ⟨[o, i], []⟩) := by
  intro o i
  cases b <;> first | rfl | cases h
section
variable {X : Cx}
/-- a def called in a deeper around -/
theorem call_in {A' : Around} {k : Nat} {f : Addr} {fd : FuncData} {ps : List Str} {sp : Sp} {pins : List (Addr × Obj)} {σ : L2.St} {H : Hp} {s : Shared} {Q : VK} {us : List Value} {vs : List V} {E : XK} (F : FnOk X.prog X.w X.K X.mg X.base (L2.CX X.prog X.w) k f fd ps sp) (hr : Room k A') (hbd : Binds X.K fd ps []) (hx : PassesAt (L2.CX X.prog X.w) X σ E)
    (I : Inv X pins σ H s) (e0 : Env0 X.prog X.w X.K X.mg X.base A' X.stack s H) (r : Vals vs us) (q : sp vs H Q E) : wpAny (model X.prog X.w) A' (PySem.call (.ref f) us) (EP X pins σ Q) X.xe s := by
  have hl : us.length = ps.length := by rw [← r.length]; exact F.len _ _ _ _ q
  have b := hbd s us I.kIn (by rw [List.append_nil]; exact hl)
  rw [List.append_nil] at b
  refine wpAny_call (codeAny_mono (F.run A' X.stack s H ⟨us, []⟩ us vs Q E hr e0 b r q) fun r s' hq => ?_)
  cases r with
  | error e => exact hx pins H s e s' I hq
  | ok fl =>
    cases fl with
    | ret u => exact I.after hq
    | next => exact False.elim hq
    | brk => exact False.elim hq
    | cont => exact False.elim hq
theorem no_pass {σ : L2.St} : PassesAt (L2.CX X.prog X.w) X σ fun _ _ _ => False := fun pins H s e s' I h => by
  obtain ⟨_, _, _, _, _, _, _, _, _, _, _, _, z⟩ := h
  exact z.elim
section
variable {c : Str} {k : Nat} {f : Addr} {fd : FuncData} {ps : List Str} {sp : Sp} {W : WX}
theorem pe_gti {a b : Expr} {ta tb : TE} {pos : Pos} (hs : Meth X.K (He.ga X.K c) "__getitem__" f) (hfi : PySem.W.fnIn X.K f = true) (F : FnOk X.prog X.w X.K X.mg X.base (L2.CX X.prog X.w) k f fd ps sp) (hr : Room (k + 1) X.A) (hbd : Binds X.K fd ps []) (tk : Takes X W) (ha : PE X a ta) (hb : PE X b tb) (hp : notSlice b = true) :
    PE X (.Subscript a b pos) (tGti X.K c sp W ta tb) := by
  refine ⟨fun pins s σ H Q I h => ?_⟩
  refine Subscript_ (binT (R := fun x y H2 => ∃ a dx fs, x = .ref a ∧ H2 a = some (.ins (He.ga X.K c) dx fs) ∧ sp [x, y] H2 Q fun c d H' => W c d σ H') ha hb I h fun v u s2 x y H2 I2 rx ry q => ?_)
  obtain ⟨p, dx, fs, rfl, ea, q⟩ := q
  obtain rfl : v = Value.ref p := rx
  obtain ⟨mA, J0, _⟩ := ins_get I2.hok ea
  obtain ⟨od, J, _⟩ := J0.look
  obtain ⟨m, hF⟩ := I2.fr
  exact PySem.W.sub_K hF I2.ok.mod.kin J hs.at_ hfi hs.fn (call_in (us := [.ref p, u]) (vs := [.ref p, y]) F hr.in1 hbd (passAt tk σ) I2 I2.env0.in1 (.cons rfl (.cons ry .nil)) q) (sub_plain hp _ _)
theorem op_cno {n : Bool} {op : CmpOp} (ho : copB (if n then .notin else .inn) op = true) (hs : Meth X.K (He.ga X.K c) "__contains__" f) (F : FnOk X.prog X.w X.K X.mg X.base (L2.CX X.prog X.w) k f fd ps sp) (hr : Room k X.A) (hbd : Binds X.K fd ps []) : OpR X (compareOp op) (rCno X.K n c sp) := by
  intro pins s σ H y x u v Q I ry rx h
  obtain ⟨p, dx, fs, rfl, ea, q⟩ := h
  obtain rfl : v = Value.ref p := rx
  obtain ⟨mA, J0, _⟩ := ins_get I.hok ea
  obtain ⟨od, J, _⟩ := J0.look
  obtain ⟨m, hF⟩ := I.fr
  have body := call_in (us := [.ref p, u]) (vs := [.ref p, y]) F hr hbd no_pass I I.env0 (.cons rfl (.cons ry .nil)) q
  cases n with
  | false =>
    have eo : op = .In := by cases op <;> first | rfl | cases ho
    subst eo
    refine PySem.W.in_K hF I.ok.mod.kin J hs.at_ hs.fn (thn body fun r s' z => ?_)
    obtain ⟨z', H', I', rz, b, rfl, qz⟩ := z
    obtain rfl : r = Value.bool b := rz
    exact wpAny_truthy_bool ⟨.bl b, H', I', rfl, by simpa using qz⟩
  | true =>
    have eo : op = .NotIn := by cases op <;> first | rfl | cases ho
    subst eo
    refine PySem.W.notIn_K hF I.ok.mod.kin J hs.at_ hs.fn (thn body fun r s' z => ?_)
    obtain ⟨z', H', I', rz, b, rfl, qz⟩ := z
    obtain rfl : r = Value.bool b := rz
    exact wpAny_truthy_bool ⟨.bl (!b), H', I', rfl, by simpa using qz⟩
theorem call_lenOwn (hs : Meth X.K (He.ga X.K c) "__len__" f) (F : FnOk X.prog X.w X.K X.mg X.base (L2.CX X.prog X.w) k f fd ps sp) (hr : Room (k + 1) X.A) (hbd : Binds X.K fd ps []) : CallR X (.builtin "len") (rOwn1 X.K .len c sp) := by
  intro pins s σ H xs us Q I r h
  obtain ⟨p, dx, fs, rfl, ea, q⟩ := h
  obtain ⟨u, rfl, rx⟩ := vals1 r
  obtain rfl : u = Value.ref p := rx
  obtain ⟨mA, J0, _⟩ := ins_get I.hok ea
  obtain ⟨od, J, _⟩ := J0.look
  obtain ⟨m, hF⟩ := I.fr
  refine PySem.W.len_K hF I.ok.mod.kin J hs.at_ hs.fn (thn (call_in (us := [.ref p]) (vs := [.ref p]) F hr.in1 hbd no_pass I I.env0.in1 (.cons rfl .nil) q) fun v s' z => ?_)
  obtain ⟨z', H', I', rz, n, rfl, h0, h1, qz⟩ := z
  obtain ⟨t, rfl⟩ := rz
  exact ⟨⟨h0, Int.lt_trans h1 (by decide)⟩, ⟨.int n, H', I'.tok _, ⟨_, rfl⟩, qz⟩⟩
theorem call_strOwn (hs : Meth X.K (He.ga X.K c) "__str__" f) (F : FnOk X.prog X.w X.K X.mg X.base (L2.CX X.prog X.w) k f fd ps sp) (hr : Room (k + 2) X.A) (hbd : Binds X.K fd ps []) : CallR X (.type "str") (rOwn1 X.K .str c sp) := by
  intro pins s σ H xs us Q I r h
  obtain ⟨p, dx, fs, rfl, ea, q⟩ := h
  obtain ⟨u, rfl, rx⟩ := vals1 r
  obtain rfl : u = Value.ref p := rx
  obtain ⟨mA, J0, _⟩ := ins_get I.hok ea
  obtain ⟨od, J, _⟩ := J0.look
  refine PySem.W.kso_call hr.in1.in1.units0 I.kIn J hs.at_ hs.fn (thn (call_in (us := [.ref p]) (vs := [.ref p]) F hr.in1.in1 hbd no_pass I I.env0.in1.in1 (.cons rfl .nil) q) fun v s' z => ?_)
  obtain ⟨z', H', I', rz, n, rfl, qz⟩ := z
  obtain ⟨t, rfl⟩ := rz
  exact ⟨.str n, H', I', ⟨_, rfl⟩, qz⟩
theorem truthy_lenOwn {A' : Around} {pins : List (Addr × Obj)} {σ : L2.St} {H : Hp} {s : Shared} {p dx : Addr} {fs : List (Str × V)} {Q : VK} (hs : Meth X.K (He.ga X.K c) "__len__" f) (hno : PySem.W.findIn X.K (.ref (He.ga X.K c)) "__bool__" = some none) (F : FnOk X.prog X.w X.K X.mg X.base (L2.CX X.prog X.w) k f fd ps sp) (hr : Room (k + 1) A') (hbd : Binds X.K fd ps [])
    (I : Inv X pins σ H s) (e0 : Env0 X.prog X.w X.K X.mg X.base A' X.stack s H) (ea : H p = some (.ins (He.ga X.K c) dx fs)) (q : sp [.ref p] H (fun r H' => ownBack .bool r H' Q) fun _ _ _ => False) :
    wpAny (model X.prog X.w) A' (truthy (.ref p)) (fun b s' => EP X pins σ Q (.bool b) s') X.xe s := by
  obtain ⟨mA, J0, _⟩ := ins_get I.hok ea
  obtain ⟨od, J, _⟩ := J0.look
  unfold truthy
  refine wpAny_bind (m := callSpecial? (.ref p) (Str.ofString "__bool__")) (wpAny_bind (wpAny_bind (J.type.here ((PySem.W.looks_findIn I.kIn hno).here (wpAny_pure ?_)))))
  refine wpAny_bind (wpAny_bind (J.type.here ((PySem.W.looks_findIn I.kIn hs.at_).here ?_)))
  show wpAny _ _ (if (some (Value.ref f)).isNone = true then _ else _) _ _ _
  rw [if_neg (by simp)]
  refine wpAny_bind (wpAny_runValue (codeAny_builtin PySem.entry_len ?_))
  unfold Builtin.«len»
  refine wpAny_bind (m := oneArg "len" _) (wpAny_pure ?_)
  refine wpAny_bind (m := callSpecial? (.ref p) (Str.ofString "__len__")) (PySem.W.special_fn I.kIn J hs.at_ (beq_iff_eq.mp hs.fn) (thn (call_in (us := [.ref p]) (vs := [.ref p]) F hr.in1 hbd no_pass I e0.in1 (.cons rfl .nil) q) fun v s' z => ?_))
  obtain ⟨z', H', I', rz, n, rfl, h0, h1, qz⟩ := z
  obtain ⟨t, rfl⟩ := rz
  refine wpAny_bind (wpAny_holding (wpAny_pure ?_))
  refine wpAny_bind (wpAny_letGo ?_)
  show wpAny _ _ (if n < 0 then _ else _) _ _ _
  rw [if_neg (by omega)]
  show wpAny _ _ (if n ≥ 2 ^ 63 then _ else _) _ _ _
  rw [if_neg (by omega)]
  refine wpAny_bind (wpAny_mkInt (wpAny_pure ?_))
  exact wpAny_pure ⟨.bl (n != 0), H', I'.tok _, rfl, qz⟩
open Builtin in
theorem call_boolOwn (hs : Meth X.K (He.ga X.K c) "__len__" f) (hno : PySem.W.findIn X.K (.ref (He.ga X.K c)) "__bool__" = some none) (F : FnOk X.prog X.w X.K X.mg X.base (L2.CX X.prog X.w) k f fd ps sp) (hr : Room (k + 3) X.A) (hbd : Binds X.K fd ps []) : CallR X (.type "bool") (rOwn1 X.K .bool c sp) := by
  intro pins s σ H xs us Q I r h
  obtain ⟨p, dx, fs, rfl, ea, q⟩ := h
  obtain ⟨u, rfl, rx⟩ := vals1 r
  obtain rfl : u = Value.ref p := rx
  refine callType_codes (T := "bool") (Bi := Builtin.«object.__init__») (Q₁ := fun r s₁ => ∃ b, r = .bool b ∧ EP X pins σ Q r s₁) PySem.F.called_bool (PySem.F.typeCall_bool_1 _) PySem.F.entry_object_init ?_ ?_
  · refine codeAny_of_tree ?_
    show wpAny _ X.A.in1.in1 (do checkBuiltinCall "bool.__new__" ⟨[.type "bool", .ref p], []⟩; again (.builtin "bool.__new__" ⟨[.type "bool", .ref p], []⟩)) _ _ s
    refine wpAny_bind (wpAny_of_eq (PySem.F.newCall_bool_1 _) (wpAny_pure ⟨plainId_quiet (by decide +kernel) _, codeAny_builtin PySem.F.entry_bool_new ?_⟩))
    rw [Around.under_plainId (by decide +kernel) _]
    have f1 := PySem.F.conv_sub_bool
    unfold Builtin.«bool.__new__»
    have tr := truthy_lenOwn hs hno F (hr.in1.in1) hbd I I.env0.in1.in1 ea q
    repeat (any_goals (first | assumption | (with_reducible refine wpAny_mono tr (fun b s' hb => ?_) fun _ _ y => y) | wp_step))
    exact ⟨b, rfl, hb⟩
  · rintro obj s₁ ⟨b, rfl, hq⟩
    exact ⟨PySem.typeIs_bool _ _, PySem.F.args_object_init_2 _ _, object_init_meets PySem.F.called_bool.init.lookup PySem.F.called_bool.made (by decide) X.prog X.w X.A.in1 _ s₁ ⟨PySem.typeIs_bool _ _, rfl, hq⟩⟩
end
end
end PF
namespace PF
open PySem L2 PySem.Spec PyProof.Rows
theorem bB {x : Str} {v : Value} (h : bootBuiltins x = some v) : bootBuiltins x = some v := h
section
variable {X : Cx}
theorem pe_bf {T : Tb} {F : FF} {k : Nat} {W : WX} (g : Good T F k X W) (f : BF) {e : Expr} {es : List Expr} {t : TA} {p pos : Pos} (hg : Gl X (bfName f)) (hb : T.bl.contains (bfName f) = true) (ha : PA X (e :: es) t) (h1 : noStar e = true) (h2 : es.all noStar = true) :
    PE X (.Call (.Name (bfName f) p) (e :: es) [] pos) (tCB (rBF X.K f) t) := by
  have hm := g.bls _ hb
  have s1 := starEach_cons (es := es) (env := X.env) h1
  have s2 := starEach_plain (pos := pos) (env := X.env) h2
  cases f with
  | len => exact pe_callB call_len hg hm boot_len ha (he := s1) (hpl := s2)
  | max2 => exact pe_callB (call_max2 g.calm) hg hm (by decide +kernel) ha (he := s1) (hpl := s2)
  | min2 => exact pe_callB (call_min2 g.calm) hg hm (by decide +kernel) ha (he := s1) (hpl := s2)
  | int => exact pe_callTy (CallR.or call_int1 call_int_str) hg hm boot_int ha (he := s1) (hpl := s2)
  | str => exact pe_callTy (CallR.or call_str_int SkE.call_str_str) hg hm boot_str ha (he := s1) (hpl := s2)
  | list => exact pe_callTy (CallR.or call_list_of (call_listD g.calm)) hg hm boot_list ha (he := s1) (hpl := s2)
  | tuple => exact pe_callTy call_tuple_of hg hm boot_tuple ha (he := s1) (hpl := s2)
  | all => exact pe_callB (cr_all g.calm) hg hm (by decide +kernel) ha (he := s1) (hpl := s2)
  | any => exact pe_callB (cr_any g.calm) hg hm (by decide +kernel) ha (he := s1) (hpl := s2)
  | isi => exact pe_callB call_isi hg hm (by decide +kernel) ha (he := s1) (hpl := s2)
  | sum => exact pe_callB (cr_sum g.calm) hg hm (by decide +kernel) ha (he := s1) (hpl := s2)
theorem few_ok {env : PySem.Env} {cpos : Pos} {e : Expr} {es : List Expr} (h1 : noStar e = true) (h2 : es.all noStar = true) (hl : (e :: es).length < 30) :
    ((backTo cpos (starEach (e :: es) env)).all (fun x => !x.1) && (backToKw cpos (keywordEach [] env)).all (fun x => x.1.isSome)
      && decide ((e :: es).length + ([] : List Keyword).length + (if ([] : List Keyword).isEmpty then 0 else 1) < 30)) = true := by
  have a : (backTo cpos (starEach (e :: es) env)).any (·.1) = false := starEach_plain (by rw [List.all_cons, h1, h2]; rfl)
  have b : (backTo cpos (starEach (e :: es) env)).all (fun x => !x.1) = true := by
    rw [List.all_eq_not_any_not]
    simpa using a
  rw [b]
  have c : (backToKw cpos (keywordEach [] env)).all (fun x => x.1.isSome) = true := rfl
  rw [c, Bool.and_self, Bool.true_and]
  exact decide_eq_true (by simpa using hl)
theorem pe_bms (m : BM) {o e : Expr} {es : List Expr} {to : TE} {t : TA} {apos pos : Pos} (hm : strM m = true) (ho : PE X o to) (ha : PA X (e :: es) t) (hb : plainBase o = true) (hl : (apos.endLine == pos.line) = true) (hn : (e :: es).length < 30) (h1 : noStar e = true) (h2 : es.all noStar = true) :
    PE X (.Call (.Attribute o (bmName m) apos) (e :: es) [] pos) (tBM X.K (bmTy m) (rBM X.K m) to t) := by
  have s1 := starEach_cons (es := es) (env := X.env) h1
  have s2 := starEach_plain (pos := pos) (env := X.env) h2
  have fw := few_ok (env := X.env) (cpos := pos) h1 h2 hn
  cases m with
  | upper => exact pe_bm PySem.F.plainAttrs_str PySem.F.slot_str_upper PySem.F.type_str_upper mt_upper ho ha (base_plain hb) fw hl s1 s2
  | lower => exact pe_bm PySem.F.plainAttrs_str PySem.F.slot_str_lower PySem.F.type_str_lower mt_lower ho ha (base_plain hb) fw hl s1 s2
  | join => exact pe_bm PySem.F.plainAttrs_str PySem.F.slot_str_join PySem.F.type_str_join mt_join ho ha (base_plain hb) fw hl s1 s2
  | count => exact pe_bm PySem.F.plainAttrs_str PySem.F.slot_str_count PySem.F.type_str_count mt_count ho ha (base_plain hb) fw hl s1 s2
  | find => exact pe_bm PySem.F.plainAttrs_str PySem.F.slot_str_find PySem.F.type_str_find (MtR.or mt_find mt_find3) ho ha (base_plain hb) fw hl s1 s2
  | items => exact absurd hm (by decide)
  | get => exact absurd hm (by decide)
  | index => exact pe_bm PySem.F.plainAttrs_list PySem.F.slot_list_index PySem.F.type_list_index mt_index ho ha (base_plain hb) fw hl s1 s2
theorem pe_bms0 (m : BM) {o : Expr} {to : TE} {apos pos : Pos} (hm : strM m = true) (ho : PE X o to) (hb : plainBase o = true) (hl : (apos.endLine == pos.line) = true) :
    PE X (.Call (.Attribute o (bmName m) apos) [] [] pos) (tBM0 X.K (bmTy m) (rBM X.K m) to) := by
  cases m with
  | upper => exact pe_bm0 PySem.F.plainAttrs_str PySem.F.slot_str_upper PySem.F.type_str_upper mt_upper ho (base_plain hb) hl
  | lower => exact pe_bm0 PySem.F.plainAttrs_str PySem.F.slot_str_lower PySem.F.type_str_lower mt_lower ho (base_plain hb) hl
  | join => exact pe_bm0 PySem.F.plainAttrs_str PySem.F.slot_str_join PySem.F.type_str_join mt_join ho (base_plain hb) hl
  | count => exact pe_bm0 PySem.F.plainAttrs_str PySem.F.slot_str_count PySem.F.type_str_count mt_count ho (base_plain hb) hl
  | find => exact pe_bm0 PySem.F.plainAttrs_str PySem.F.slot_str_find PySem.F.type_str_find (MtR.or mt_find mt_find3) ho (base_plain hb) hl
  | items => exact absurd hm (by decide)
  | get => exact absurd hm (by decide)
  | index => exact pe_bm0 PySem.F.plainAttrs_list PySem.F.slot_list_index PySem.F.type_list_index mt_index ho (base_plain hb) hl
theorem const_ok {c : Const} {d : D} {k : Nat} {pos : Pos} (h : constB c d = true) : PE X (.Constant c k pos) (tC (vf d)) := by
  unfold constB at h
  split at h
  · exact pe_non
  · rw [beq_iff_eq] at h
    subst h
    exact pe_bl
  · have := of_decide_eq_true h
    subst this
    exact pe_int
  · rename_i a b
    have := of_decide_eq_true h
    have e : tx b = a := by rw [← this, tx_unt]
    show PE X _ (tC (.str (tx b)))
    rw [e]
    exact pe_str
  · cases h
theorem args_star {T : Tb} {N : List Str} {sc : Scope} : ∀ {ce : E} {es : List Expr}, chkA T N ce sc es = true → es.all noStar = true := by
  intro ce
  induction ce with
  | nil =>
    intro es h
    cases es with
    | nil => rfl
    | cons _ _ => cases h
  | cons a b _ ihb =>
    intro es h
    cases es with
    | nil => cases h
    | cons x xs =>
      have h : (noStar x && chkE T N a sc x && chkA T N b sc xs) = true := h
      rw [Bool.and_eq_true, Bool.and_eq_true] at h
      rw [List.all_cons, h.1.1, ihb h.2]
      rfl
  | _ =>
    intro es h
    cases h
theorem gcB_ok {T : Tb} {x : Str} {d : D} (h : gcB T x d = true) : T.gc.lookup x = some d := by
  unfold gcB at h
  cases e : T.gc.lookup x with
  | none => rw [e] at h; cases h
  | some y =>
    rw [e] at h
    cases y <;> cases d <;> first | cases h | (have q := of_decide_eq_true h; subst q; rfl)
theorem nameOk1 {x : Str} (h : nameOk x = true) : (x == ("__debug__" : Str)) = false ∧ (x == ("__classdict__" : Str)) = false ∧ x ≠ "__name__" := by
  unfold nameOk at h
  simp only [Bool.and_eq_true, bne_iff_ne] at h
  exact ⟨beq_eq_false_iff_ne.mpr h.1.1, beq_eq_false_iff_ne.mpr h.1.2, h.2⟩
end
/-- targets -/
theorem gs_tgts {X : Cx} {f : Nat → Str → Bool} (nd : X.N.Nodup) (hf : ∀ i x, f i x = true → X.N[i]? = some x ∧ L2.Loc X.env.scope x ∧ (X.fn x = true ∨ X.env.scope.names.lookup x = some .local)) : ∀ {is : List Nat} {ts : List Expr}, tgsB f is ts = true → PGs X ts (gNames is) ∧ (assignEach ts X.env).length = is.length ∧ List.findIdx? (fun x => x.1) (assignEach ts X.env) = none
  | [], [], _ => ⟨pgs_nil, rfl, rfl⟩
  | i :: is, .Name x p :: ts, h => by
    have h : (f i x && tgsB f is ts) = true := h
    rw [Bool.and_eq_true] at h
    obtain ⟨h1, h2, h3⟩ := hf i x h.1
    obtain ⟨q1, q2, q3⟩ := gs_tgts nd hf h.2
    have e : assignEach (.Name x p :: ts) X.env = (false, assign (.Name x p) X.env) :: assignEach ts X.env := by simp only [assignEach]
    refine ⟨pgs_cons (pg_name nd h1 h2 h3) q1 (by rw [e]; rfl), by rw [e, List.length_cons, List.length_cons, q2], ?_⟩
    rw [e, List.findIdx?_cons, if_neg Bool.false_ne_true, q3]
    rfl
theorem gTgt_tup {K : PySem.W.Frag} {is : List Nat} (h : is.length ≠ 1) : gTgt K is = gTup K is.length (gNames is) := by
  unfold gTgt
  split
  · exact absurd rfl h
  · rfl
theorem pg_tgt {X : Cx} {f : Nat → Str → Bool} {is : List Nat} {tg : Expr} (nd : X.N.Nodup) (hc : X.calm = true) (hf : ∀ i x, f i x = true → X.N[i]? = some x ∧ L2.Loc X.env.scope x ∧ (X.fn x = true ∨ X.env.scope.names.lookup x = some .local)) (h : tgB is tg f = true) : PG X tg (gTgt X.K is) := by
  unfold tgB at h
  split at h
  · obtain ⟨h1, h2, h3⟩ := hf _ _ h
    exact pg_name nd h1 h2 h3
  · rename_i ts k p _
    rw [Bool.and_eq_true] at h
    rw [gTgt_tup (of_decide_eq_true h.1)]
    obtain ⟨q1, q2, q3⟩ := gs_tgts nd hf h.2
    exact pg_tup hc q1 q2 q3
  · cases h
theorem ownTs_map {f : Nat → Str → Bool} : ∀ {is : List Nat} {ts : List Expr}, tgsB f is ts = true → (ownTs is ts).map (·.2) = is
  | [], [], _ => rfl
  | i :: is, .Name x p :: ts, h => by
    have h : (f i x && tgsB f is ts) = true := h
    rw [Bool.and_eq_true] at h
    show i :: (ownTs is ts).map (·.2) = _
    rw [ownTs_map h.2]
theorem ownT_map {f : Nat → Str → Bool} {is : List Nat} {tg : Expr} (h : tgB is tg f = true) : (ownT is tg).map (·.2) = is := by
  match is, tg, h with
  | [i], .Name x p, h => rfl
  | [], .Tuple ts k p, h =>
    have h : (true && tgsB f [] ts) = true := h
    rw [Bool.true_and] at h
    exact ownTs_map h
  | [i], .Tuple ts k p, h => cases h
  | i :: j :: r, .Tuple ts k p, h =>
    have h : (decide ((i :: j :: r).length ≠ 1) && tgsB f (i :: j :: r) ts) = true := h
    rw [Bool.and_eq_true] at h
    exact ownTs_map h.2
/-- what is walked -/
theorem pi_src {T : Tb} {F : FF} {k : Nat} {X : Cx} {W : WX} (g : Good T F k X W) {sk : SK} {te : TE} {ta : TA} {it tg : Expr} (h : srcB T X.N X.env.scope sk it tg = true) (he : sk = .any → PE X it te) (ha : sk ≠ .any → isItm sk = false → PA X (srcEs it) ta) : PI X tg it (iSrc X.K sk te ta) ∧ ∀ x, foldedSetIterable it X.env x = pure x := by
  unfold srcB at h
  split at h
  · exact ⟨PI.any (he rfl), set_plain h⟩
  · simp only [Bool.and_eq_true, decide_eq_true_eq] at h
    obtain ⟨⟨⟨⟨rfl, h2⟩, h3⟩, h4⟩, h5⟩ := h
    exact ⟨RZ.pi_zipA (glB_ok h2) (g.bls _ h3) (ha (by intro z; cases z) rfl) (starEach_cons h4) (starEach_plain (by rw [List.all_cons, h5]; rfl)), set_plain rfl⟩
  · simp only [Bool.and_eq_true, decide_eq_true_eq] at h
    obtain ⟨⟨⟨rfl, h2⟩, h3⟩, h4⟩ := h
    exact ⟨pi_enum (glB_ok h2) (g.bls _ h3) (ha (by intro z; cases z) rfl) (starEach_cons h4), set_plain rfl⟩
  · simp only [Bool.and_eq_true, decide_eq_true_eq] at h
    obtain ⟨⟨⟨⟨rfl, h2⟩, h3⟩, h4⟩, h5⟩ := h
    exact ⟨PI.rng (glB_ok h2) (g.bls _ h3) (ha (by intro z; cases z) rfl) h4 h5, set_plain rfl⟩
  · simp only [Bool.and_eq_true, decide_eq_true_eq] at h
    obtain ⟨⟨⟨⟨rfl, h2⟩, h3⟩, h4⟩, h5⟩ := h
    exact ⟨pi_items (pe_var h2 (visB_ok h3) (nameOk1 h4).1 (nameOk1 h4).2.1) (base_plain rfl) h5, set_plain rfl⟩
  · cases h
structure PAll (T : Tb) (F : FF) (k : Nat) (ce : E) : Prop where
  e : ∀ {X : Cx} {W : WX} {sc : Scope} {e : Expr}, Good T F k X W → X.env.scope = sc → chkE T X.N ce sc e = true → PE X e (tE X.K F W ce)
  a : ∀ {X : Cx} {W : WX} {sc : Scope} {es : List Expr}, Good T F k X W → X.env.scope = sc → chkA T X.N ce sc es = true → PA X es (tA X.K F W ce)
  p : ∀ {X : Cx} {W : WX} {sc : Scope} {pos : Pos} {ks : List (Option Expr)} {vs : List Expr}, Good T F k X W → X.env.scope = sc → chkP T X.N ce sc ks vs = true → PPs X pos ks vs (tP X.K F W ce) ∧ ks.all (·.isSome) = true
  t : ∀ {X : Cx} {W : WX} {sc : Scope} {e : Expr}, Good T F k X W → X.env.scope = sc → chkT T X.N ce sc e = true → PT X e (tT X.K F W ce)
  j : ∀ {X : Cx} {W : WX} {sc : Scope} {es : List Expr}, Good T F k X W → X.env.scope = sc → chkA T X.N ce sc es = true → PJ X es (tJ X.K F W ce)
  x : ∀ {X : Cx} {W : WX} {sc : Scope} {es : List Expr}, Good T F k X W → X.env.scope = sc → chkX T X.N ce sc es = true → PA X es (tA X.K F W ce)
  kw : ∀ {X : Cx} {W : WX} {sc : Scope} {kws : List Keyword} {ks : List Str}, Good T F k X W → X.env.scope = sc → chkK T X.N ce sc kws ks = true → PK X kws (tA X.K F W ce) ∧ kws.map (·.arg) = ks.map some
end PF
namespace PF
open PySem L2 PySem.Spec PyProof.Rows
section
variable {T : Tb} {F : FF} {k : Nat}
theorem and4 {a b : Bool} (h : (a && b) = true) : a = true ∧ b = true := by rwa [Bool.and_eq_true] at h
theorem Good.hu {X : Cx} {W : WX} (g : Good T F k X W) : X.A.units + 1 < cLine := by
  have := g.room.un
  omega
theorem noSl_plain {b : Expr} (h : notSlice b = true) : NoSl b := by
  intro o i
  cases b <;> first | rfl | cases h
theorem trees1 {e : Expr} {pos : Pos} {env : PySem.Env} (h : noStar e = true) : backTo pos (starEach [e] env) = [(false, eval e env)] := by
  rw [starEach_cons h]
  rfl
theorem trees2 {e f : Expr} {pos : Pos} {env : PySem.Env} (h : noStar e = true) (h2 : noStar f = true) : backTo pos (starEach [e, f] env) = [(false, eval e env), (false, eval f env)] := by
  rw [starEach_cons h, starEach_cons h2]
  rfl
theorem pc_din2 {X : Cx} {n : Bool} {op : CmpOp} {y x : Expr} {ty td : TE} (hu : X.A.units + 1 < cLine) (h : copB (if n then .notin else .inn) op = true) (hy : PE X y ty) (hx : PE X x td) : PC X op y x (tDin n ty td) := by
  cases n with
  | false =>
    have e : op = .In := by cases op <;> first | rfl | cases h
    subst e
    have q := pc_din hu hy hx
    have e : tDIn ty td = tDin false ty td := by
      funext σ H Q
      unfold tDIn tDin
      simp
    rw [← e]
    exact q
  | true =>
    have e : op = .NotIn := by cases op <;> first | rfl | cases h
    subst e
    have q := pc_dnotin hu hy hx
    have e : tDNotIn ty td = tDin true ty td := by
      funext σ H Q
      unfold tDNotIn tDin
      simp
    rw [← e]
    exact q
/-- a comprehension with any target over any source: its parts in its block -/
theorem lct_parts {X : Cx} {W : WX} {is : List Nat} {c e : E} {el : Expr} {ifs : List Expr} {tg : Expr} {scope : Scope} (g : Good T F k X W) (ihc : PAll T F k c) (ihe : PAll T F k e) (hb : blkC X.N X.env.scope scope (ownT is tg) = true) (ht : tgB is tg (fun i x => decide (X.N[i]? = some x) && locB scope x) = true)
    (hi : chkI (isNil c) (chkT T X.N c (relS scope X.env.scope)) ifs = true) (he : chkE T X.N e (relS scope X.env.scope) el = true) :
    (∀ (s : Shared) (H : Hp) (C : Addr) (cl : List (Str × Addr)) (fp : List Addr), PG (X.blk s H scope (compEnvC scope cl C X.env) fp) tg (gTgt X.K is)) ∧
    (∀ (s : Shared) (H : Hp) (C : Addr) (cl : List (Str × Addr)) (fp : List Addr), PTs (X.blk s H scope (compEnvC scope cl C X.env) fp) ifs (if isNil c then tYes else tT X.K F W0 c)) ∧
    (∀ (s : Shared) (H : Hp) (C : Addr) (cl : List (Str × Addr)) (fp : List Addr), PE (X.blk s H scope (compEnvC scope cl C X.env) fp) el (tE X.K F W0 e)) := by
  have bo := blkOk_by hb
  refine ⟨fun s H C cl fp => ?_, fun s H C cl fp => ?_, fun s H C cl fp => ?_⟩
  · refine pg_tgt (X := X.blk s H scope (compEnvC scope cl C X.env) fp) g.nd g.calm (fun i x h => ?_) ht
    rw [Bool.and_eq_true] at h
    have hl : L2.Loc scope x := locB_ok h.2
    refine ⟨of_decide_eq_true h.1, ?_, ?_⟩
    · rcases hl with h | h
      · exact .inl (lookup_relS_keep (by decide) h)
      · exact .inr (lookup_relS_keep (by decide) h)
    · rcases hl with h | h
      · exact .inr (lookup_relS_keep (by decide) h)
      · refine .inl ?_
        show (scope.names.lookup x == some NameKind.cell) = true
        rw [h]
        rfl
  · match ifs, hi with
    | [], hi =>
      have hi : isNil c = true := hi
      rw [if_pos hi]
      exact pts_nil
    | [z], hi =>
      have hi := and4 hi
      rw [if_neg (by simpa using hi.1)]
      exact pts_one (ihc.t (X := X.blk s H scope (compEnvC scope cl C X.env) fp) (g.blk s H scope _ fp) rfl hi.2)
    | _ :: _ :: _, hi => cases hi
  · exact ihe.e (X := X.blk s H scope (compEnvC scope cl C X.env) fp) (g.blk s H scope _ fp) rfl he
theorem pe_lct {X : Cx} {W : WX} {is : List Nat} {sk : SK} {sr a c e : E} {el : Expr} {ifs : List Expr} {tg it : Expr} {scope : Scope} {p : Pos} (g : Good T F k X W) (ihs : PAll T F k sr) (iha : PAll T F k a) (ihc : PAll T F k c) (ihe : PAll T F k e)
    (h : (!isItm sk && srcB T X.N X.env.scope sk it tg && tgB is tg (fun i x => decide (X.N[i]? = some x) && locB scope x) && blkC X.N X.env.scope scope (ownT is tg) && (if isAny sk then chkE T X.N sr X.env.scope it else chkA T X.N a X.env.scope (srcEs it)) && chkI (isNil c) (chkT T X.N c (relS scope X.env.scope)) ifs && chkE T X.N e (relS scope X.env.scope) el) = true) :
    PE X (.ListComp el [⟨tg, it, ifs, 0⟩] scope p) (tE X.K F W (.lct is sk sr a c e)) := by
  obtain ⟨h, h7⟩ := and4 h
  obtain ⟨h, h6⟩ := and4 h
  obtain ⟨h, h5⟩ := and4 h
  obtain ⟨h, h4⟩ := and4 h
  obtain ⟨h, h3⟩ := and4 h
  obtain ⟨h1, h2⟩ := and4 h
  obtain ⟨p1, p2, p3⟩ := lct_parts g ihc ihe h4 h3 h6 h7
  obtain ⟨q1, q2⟩ := pi_src (te := tE X.K F W sr) (ta := tA X.K F W a) g h2 (fun e => by subst e; exact ihs.e g rfl h5) (fun e _ => by
    rw [if_neg (by cases sk <;> first | exact absurd rfl e | exact Bool.false_ne_true)] at h5
    exact iha.a g rfl h5)
  have q := pe_lc (own := ownT is tg) (pos := p) g.calm g.nd q1 (blkOk_by h4) p1 p2 p3 q2
  rw [ownT_map h3] at q
  have e1 : tE X.K F W (.lct is sk sr a c e) = tLc (iSrc X.K sk (tE X.K F W sr) (tA X.K F W a)) (gTgt X.K is) (if isNil c then tYes else tT X.K F W0 c) (tE X.K F W0 e) is := by
    cases sk <;> first | rfl | cases h1
  rw [e1]
  exact q
end
end PF
namespace PF
open PySem L2 PySem.Spec PyProof.Rows
section
variable {T : Tb} {F : FF} {k : Nat}
/-- a comprehension's parts in its block -/
theorem lc_partsG {own : List (Str × Nat)} {X : Cx} {W : WX} {j : Nat} {c e : E} {el : Expr} {ifs : List Expr} {y : Str} {py : Pos} {scope : Scope} (g : Good T F k X W) (ihc : PAll T F k c) (ihe : PAll T F k e) (hb : blkC X.N X.env.scope scope own = true) (hm : (y, j) ∈ own) (hy : locB scope y = true)
    (hi : chkI (isNil c) (chkT T X.N c (relS scope X.env.scope)) ifs = true) (he : chkE T X.N e (relS scope X.env.scope) el = true) :
    (∀ (s : Shared) (H : Hp) (C : Addr) (cl : List (Str × Addr)) (fp : List Addr), PG (X.blk s H scope (compEnvC scope cl C X.env) fp) (.Name y py) (gName j)) ∧
    (∀ (s : Shared) (H : Hp) (C : Addr) (cl : List (Str × Addr)) (fp : List Addr), PTs (X.blk s H scope (compEnvC scope cl C X.env) fp) ifs (if isNil c then tYes else tT X.K F W0 c)) ∧
    (∀ (s : Shared) (H : Hp) (C : Addr) (cl : List (Str × Addr)) (fp : List Addr), PE (X.blk s H scope (compEnvC scope cl C X.env) fp) el (tE X.K F W0 e)) := by
  have bo := blkOk_by hb
  refine ⟨fun s H C cl fp => ?_, fun s H C cl fp => ?_, fun s H C cl fp => ?_⟩
  · have hl : L2.Loc scope y := locB_ok hy
    have hr : L2.Loc (relS scope X.env.scope) y := by
      rcases hl with h | h
      · exact .inl (lookup_relS_keep (by decide) h)
      · exact .inr (lookup_relS_keep (by decide) h)
    refine pg_name g.nd (bo.ix (y, j) hm) hr ?_
    rcases hl with h | h
    · exact .inr (lookup_relS_keep (by decide) h)
    · refine .inl ?_
      show (scope.names.lookup y == some NameKind.cell) = true
      rw [h]
      rfl
  · match ifs, hi with
    | [], hi =>
      have hi : isNil c = true := hi
      rw [if_pos hi]
      exact pts_nil
    | [z], hi =>
      have hi := and4 hi
      rw [if_neg (by simpa using hi.1)]
      exact pts_one (ihc.t (X := X.blk s H scope (compEnvC scope cl C X.env) fp) (g.blk s H scope _ fp) rfl hi.2)
    | _ :: _ :: _, hi => cases hi
  · exact ihe.e (X := X.blk s H scope (compEnvC scope cl C X.env) fp) (g.blk s H scope _ fp) rfl he
theorem lc_parts {X : Cx} {W : WX} {j : Nat} {c e : E} {el : Expr} {ifs : List Expr} {y : Str} {py : Pos} {scope : Scope} (g : Good T F k X W) (ihc : PAll T F k c) (ihe : PAll T F k e) (hb : blkC X.N X.env.scope scope [(y, j)] = true) (hy : locB scope y = true)
    (hi : chkI (isNil c) (chkT T X.N c (relS scope X.env.scope)) ifs = true) (he : chkE T X.N e (relS scope X.env.scope) el = true) :
    (∀ (s : Shared) (H : Hp) (C : Addr) (cl : List (Str × Addr)) (fp : List Addr), PG (X.blk s H scope (compEnvC scope cl C X.env) fp) (.Name y py) (gName j)) ∧
    (∀ (s : Shared) (H : Hp) (C : Addr) (cl : List (Str × Addr)) (fp : List Addr), PTs (X.blk s H scope (compEnvC scope cl C X.env) fp) ifs (if isNil c then tYes else tT X.K F W0 c)) ∧
    (∀ (s : Shared) (H : Hp) (C : Addr) (cl : List (Str × Addr)) (fp : List Addr), PE (X.blk s H scope (compEnvC scope cl C X.env) fp) el (tE X.K F W0 e)) := lc_partsG g ihc ihe hb (List.mem_singleton.mpr rfl) hy hi he
theorem lc_src {X : Cx} {W : WX} {src : E} {it : Expr} {scope : Scope} {tg : Expr} (g : Good T F k X W) (ihe : PAll T F k src) (he : chkE T X.N src (relS scope X.env.scope) it = true) :
    ∀ (s : Shared) (H : Hp) (C : Addr) (cl : List (Str × Addr)) (fp : List Addr), PI (X.blk s H scope (compEnvC scope cl C X.env) fp) tg it (iAny X.K (tE X.K F W0 src)) :=
  fun s H C cl fp => PI.any (X := X.blk s H scope (compEnvC scope cl C X.env) fp) (ihe.e (X := X.blk s H scope (compEnvC scope cl C X.env) fp) (g.blk s H scope _ fp) rfl he)
theorem pe_callSD0 {X : Cx} {CX : CXT} {k : Nat} {f : Addr} {fd : FuncData} {ps : List Str} {sp : Sp} {dvs : List V} {ds : List Value} {E : L2.St → XK} {x : Str} {p pos : Pos} (G : FnOk X.prog X.w X.K X.mg X.base CX k f fd ps sp) (hr : Room k X.A) (hg : Gl X x) (hm : X.mg x = some (.ref f)) (hk : PySem.W.keepIn X.K (.ref f) = true) (hb : Binds X.K fd ps ds) (hd : Vals dvs ds)
    (hx : ∀ σ, PassesAt CX X σ (E σ)) (hdb : (x == ("__debug__" : Str)) = false) : PE X (.Call (.Name x p) [] [] pos) (tCallSD sp dvs E tNil) :=
  ⟨fun pins s σ H Q I h => wpAny_Call_Name_kw (ld_glob I hg hm (PySem.W.callWith_K0 I.kIn hk (run_fnSD (us := []) (vs := []) G hr hb hd (hx σ) I .nil h)) hdb)⟩
theorem pall : ∀ ce : E, PAll T F k ce := by
  intro ce
  induction ce with
  | var i =>
    refine ⟨fun {X W sc e} g hs h => ?_, fun {X W sc es} g hs h => (by cases es <;> cases h), fun {X W sc pos ks vs} g hs h => (by cases ks <;> cases vs <;> cases h), fun {X W sc e} g hs h => (by cases h), fun {X W sc es} g hs h => (by cases es <;> cases h), fun {X W sc es} g hs h => (by cases es <;> cases h), fun {X W sc kws ks} g hs h => (by cases kws <;> cases ks <;> cases h)⟩
    cases e with
    | Name x p =>
      subst hs
      obtain ⟨h, h3⟩ := and4 h
      obtain ⟨h1, h2⟩ := and4 h
      obtain ⟨n1, n2, n3⟩ := nameOk1 h3
      exact pe_var (of_decide_eq_true h1) (visB_ok h2) n1 n2
    | _ => cases h
  | bor i =>
    refine ⟨fun {X W sc e} g hs h => ?_, fun {X W sc es} g hs h => (by cases es <;> cases h), fun {X W sc pos ks vs} g hs h => (by cases ks <;> cases vs <;> cases h), fun {X W sc e} g hs h => (by cases h), fun {X W sc es} g hs h => (by cases es <;> cases h), fun {X W sc es} g hs h => (by cases es <;> cases h), fun {X W sc kws ks} g hs h => (by cases kws <;> cases ks <;> cases h)⟩
    cases e with
    | Name x p =>
      subst hs
      obtain ⟨h, h3⟩ := and4 h
      obtain ⟨h1, h2⟩ := and4 h
      obtain ⟨n1, n2, n3⟩ := nameOk1 h3
      exact pe_var (of_decide_eq_true h1) (visB_ok h2) n1 n2
    | _ => cases h
  | cst d =>
    refine ⟨fun {X W sc e} g hs h => ?_, fun {X W sc es} g hs h => (by cases es <;> cases h), fun {X W sc pos ks vs} g hs h => (by cases ks <;> cases vs <;> cases h), fun {X W sc e} g hs h => (by cases h), fun {X W sc es} g hs h => (by cases es <;> cases h), fun {X W sc es} g hs h => (by cases es <;> cases h), fun {X W sc kws ks} g hs h => (by cases kws <;> cases ks <;> cases h)⟩
    cases e with
    | Constant c k p => exact const_ok h
    | _ => cases h
  | glb y d =>
    refine ⟨fun {X W sc e} g hs h => ?_, fun {X W sc es} g hs h => (by cases es <;> cases h), fun {X W sc pos ks vs} g hs h => (by cases ks <;> cases vs <;> cases h), fun {X W sc e} g hs h => (by cases h), fun {X W sc es} g hs h => (by cases es <;> cases h), fun {X W sc es} g hs h => (by cases es <;> cases h), fun {X W sc kws ks} g hs h => (by cases kws <;> cases ks <;> cases h)⟩
    cases e with
    | Name x p =>
      subst hs
      have key : ∀ d, (decide (x = y) && glB X.env.scope x && nameOk x && gcB T x d) = true → PE X (.Name x p) (tC (vf d)) := fun d h => by
        obtain ⟨h, h4⟩ := and4 h
        obtain ⟨h, h3⟩ := and4 h
        obtain ⟨h1, h2⟩ := and4 h
        obtain ⟨u, hu, r⟩ := g.gcs _ _ (gcB_ok h4)
        exact pe_glob (glB_ok h2) hu r (nameOk1 h3).1
      cases d with
      | ty n =>
        have h : (decide (x = y) && glB X.env.scope x && nameOk x && T.bl.contains x && decide (bootBuiltins x = some (.type n))) = true := h
        obtain ⟨h, h5⟩ := and4 h
        obtain ⟨h, h4⟩ := and4 h
        obtain ⟨h, h3⟩ := and4 h
        obtain ⟨h1, h2⟩ := and4 h
        exact pe_bltn (v := .ty n) (glB_ok h2) (g.bls _ h4) (of_decide_eq_true h5) rfl (nameOk1 h3).2.2 (nameOk1 h3).1
      | _ => exact key _ h
    | _ => cases h
  | nil =>
    refine ⟨fun {X W sc e} g hs h => (by cases e <;> cases h), fun {X W sc es} g hs h => ?_, fun {X W sc pos ks vs} g hs h => ?_, fun {X W sc e} g hs h => (by cases h), fun {X W sc es} g hs h => ?_, fun {X W sc es} g hs h => ?_, fun {X W sc kws ks} g hs h => ?_⟩
    · cases es with
      | nil => exact pa_nil
      | cons _ _ => cases h
    · cases ks with
      | nil =>
        cases vs with
        | nil => exact ⟨pps_nil, rfl⟩
        | cons _ _ => cases h
      | cons _ _ => cases h
    · cases es with
      | nil => exact .nil
      | cons _ _ => cases h
    · cases es with
      | nil => exact pa_nil
      | cons _ _ => cases h
    · cases kws with
      | nil =>
        cases ks with
        | nil => exact ⟨pk_nil, rfl⟩
        | cons _ _ => cases h
      | cons _ _ => cases ks <;> cases h
  | cons a b iha ihb =>
    refine ⟨fun {X W sc e} g hs h => (by cases e <;> cases h), fun {X W sc es} g hs h => ?_, fun {X W sc pos ks vs} g hs h => (by cases ks <;> cases vs <;> cases h), fun {X W sc e} g hs h => (by cases h), fun {X W sc es} g hs h => ?_, fun {X W sc es} g hs h => ?_, fun {X W sc kws ks} g hs h => ?_⟩
    · cases es with
      | nil => cases h
      | cons x xs =>
        have h : (noStar x && chkE T X.N a sc x && chkA T X.N b sc xs) = true := h
        obtain ⟨h, h3⟩ := and4 h
        obtain ⟨h1, h2⟩ := and4 h
        exact pa_cons (iha.e g hs h2) (ihb.a g hs h3) (starEach_cons h1)
    · cases es with
      | nil => cases h
      | cons x xs =>
        have h : (noStar x && chkE T X.N a sc x && chkA T X.N b sc xs) = true := h
        obtain ⟨h, h3⟩ := and4 h
        obtain ⟨h1, h2⟩ := and4 h
        exact .cons (iha.e g hs h2) (ihb.j g hs h3)
    · cases es with
      | nil => cases h
      | cons x xs =>
        have h : (noStar x && chkE T X.N a sc x && chkX T X.N b sc xs) = true := h
        obtain ⟨h, h3⟩ := and4 h
        obtain ⟨h1, h2⟩ := and4 h
        exact pa_cons (iha.e g hs h2) (ihb.x g hs h3) (starEach_cons h1)
    · match kws, ks, h with
      | ⟨some n, x, p⟩ :: xs, k :: ks, h =>
        have h : (decide (n = k) && chkE T X.N a sc x && chkK T X.N b sc xs ks) = true := h
        obtain ⟨h, h3⟩ := and4 h
        obtain ⟨h1, h2⟩ := and4 h
        have e1 := of_decide_eq_true h1
        subst e1
        obtain ⟨p1, p2⟩ := ihb.kw g hs h3
        exact ⟨pk_cons (iha.e g hs h2) p1, by rw [List.map_cons, List.map_cons, p2]⟩
      | ⟨none, x, p⟩ :: xs, k :: ks, h => cases h
      | [], [], h => cases h
      | [], _ :: _, h => cases h
      | ⟨some _, _, _⟩ :: _, [], h => cases h
      | ⟨none, _, _⟩ :: _, [], h => cases h
  | con2 a b c iha ihb ihc =>
    refine ⟨fun {X W sc e} g hs h => (by cases e <;> cases h), fun {X W sc es} g hs h => (by cases es <;> cases h), fun {X W sc pos ks vs} g hs h => ?_, fun {X W sc e} g hs h => (by cases h), fun {X W sc es} g hs h => (by cases es <;> cases h), fun {X W sc es} g hs h => (by cases es <;> cases h), fun {X W sc kws ks} g hs h => (by cases kws <;> cases ks <;> cases h)⟩
    match ks, vs, h with
    | some x :: xs, y :: ys, h =>
      have h : (chkE T X.N a sc x && chkE T X.N b sc y && chkP T X.N c sc xs ys) = true := h
      obtain ⟨h, h3⟩ := and4 h
      obtain ⟨h1, h2⟩ := and4 h
      obtain ⟨p1, p2⟩ := ihc.p (pos := pos) g hs h3
      exact ⟨pps_cons (iha.e g hs h1) (ihb.e g hs h2) p1, by rw [List.all_cons, p2]; rfl⟩
  | dsp a iha =>
    refine ⟨fun {X W sc e} g hs h => ?_, fun {X W sc es} g hs h => (by cases es <;> cases h), fun {X W sc pos ks vs} g hs h => (by cases ks <;> cases vs <;> cases h), fun {X W sc e} g hs h => (by cases h), fun {X W sc es} g hs h => (by cases es <;> cases h), fun {X W sc es} g hs h => (by cases es <;> cases h), fun {X W sc kws ks} g hs h => (by cases kws <;> cases ks <;> cases h)⟩
    cases e with
    | Dict ks vs p =>
      have h : (if isNil a then ks.isEmpty && vs.isEmpty else !ks.isEmpty && decide (ks.length ≤ 15) && decide (ks.length = vs.length) && chkP T X.N a sc ks vs) = true := h
      show PE X (.Dict ks vs p) (if isNil a = true then tDNewK else tDisp (tP X.K F W a))
      split at h
      · rename_i hn
        rw [if_pos hn]
        obtain ⟨h1, h2⟩ := and4 h
        cases ks with
        | cons _ _ => cases h1
        | nil =>
          cases vs with
          | cons _ _ => cases h2
          | nil => exact pe_dnewK
      rename_i hn
      rw [if_neg hn]
      obtain ⟨h, h4⟩ := and4 h
      obtain ⟨h, h3⟩ := and4 h
      obtain ⟨h1, h2⟩ := and4 h
      obtain ⟨p1, p2⟩ := iha.p (pos := p) g hs h4
      exact pe_disp p1 p2 (of_decide_eq_true h3) (fun z => by rw [z] at h1; cases h1) (of_decide_eq_true h2)
    | _ => cases h
  | bin o a b iha ihb =>
    refine ⟨fun {X W sc e} g hs h => ?_, fun {X W sc es} g hs h => (by cases es <;> cases h), fun {X W sc pos ks vs} g hs h => (by cases ks <;> cases vs <;> cases h), fun {X W sc e} g hs h => (by cases h), fun {X W sc es} g hs h => (by cases es <;> cases h), fun {X W sc es} g hs h => (by cases es <;> cases h), fun {X W sc kws ks} g hs h => (by cases kws <;> cases ks <;> cases h)⟩
    cases e with
    | BinOp x op y p =>
      have h : (bopB o op && chkE T X.N a sc x && chkE T X.N b sc y) = true := h
      obtain ⟨h, h3⟩ := and4 h
      obtain ⟨h1, h2⟩ := and4 h
      exact pe_op (op_bin o h1) (iha.e g hs h2) (ihb.e g hs h3)
    | _ => cases h
  | neg a iha =>
    refine ⟨fun {X W sc e} g hs h => ?_, fun {X W sc es} g hs h => (by cases es <;> cases h), fun {X W sc pos ks vs} g hs h => (by cases ks <;> cases vs <;> cases h), fun {X W sc e} g hs h => (by cases h), fun {X W sc es} g hs h => (by cases es <;> cases h), fun {X W sc es} g hs h => (by cases es <;> cases h), fun {X W sc kws ks} g hs h => (by cases kws <;> cases ks <;> cases h)⟩
    cases e with
    | UnaryOp op x p =>
      cases op with
      | USub => exact pe_un un_neg (iha.e g hs h)
      | _ => cases h
    | _ => cases h
  | cmp o a b iha ihb =>
    refine ⟨fun {X W sc e} g hs h => ?_, fun {X W sc es} g hs h => (by cases es <;> cases h), fun {X W sc pos ks vs} g hs h => (by cases ks <;> cases vs <;> cases h), fun {X W sc e} g hs h => (by cases h), fun {X W sc es} g hs h => (by cases es <;> cases h), fun {X W sc es} g hs h => (by cases es <;> cases h), fun {X W sc kws ks} g hs h => (by cases kws <;> cases ks <;> cases h)⟩
    cases e with
    | Compare x ops ys p =>
      match ops, ys, h with
      | [op], [y], h =>
        have h : (copB o op && !behindInMarks op y && chkE T X.N a sc x && chkE T X.N b sc y) = true := h
        obtain ⟨h, h4⟩ := and4 h
        obtain ⟨h, h3⟩ := and4 h
        obtain ⟨h1, h2⟩ := and4 h
        exact pe_cmpR (op_cmp g.room o h1) (iha.e g hs h3) (ihb.e g hs h4) (by simpa using h2)
    | _ => cases h
  | chn o p a b c iha ihb ihc =>
    refine ⟨fun {X W sc e} g hs h => ?_, fun {X W sc es} g hs h => (by cases es <;> cases h), fun {X W sc pos ks vs} g hs h => (by cases ks <;> cases vs <;> cases h), fun {X W sc e} g hs h => (by cases h), fun {X W sc es} g hs h => (by cases es <;> cases h), fun {X W sc es} g hs h => (by cases es <;> cases h), fun {X W sc kws ks} g hs h => (by cases kws <;> cases ks <;> cases h)⟩
    cases e with
    | Compare x ops ys q =>
      match ops, ys, h with
      | [op, op'], [y, z], h =>
        have h : (copB o op && copB p op' && !lastMarks [op, op'] [y, z] && chkE T X.N a sc x && chkE T X.N b sc y && chkE T X.N c sc z) = true := h
        obtain ⟨h, h6⟩ := and4 h
        obtain ⟨h, h5⟩ := and4 h
        obtain ⟨h, h4⟩ := and4 h
        obtain ⟨h, h3⟩ := and4 h
        obtain ⟨h1, h2⟩ := and4 h
        exact pe_chain (op_cmp g.room o h1) (op_cmp g.room p h2) (iha.e g hs h4) (ihb.e g hs h5) (ihc.e g hs h6) (by simpa using h3)
    | _ => cases h
  | tcm o a b iha ihb =>
    refine ⟨fun {X W sc e} g hs h => (by cases e <;> cases h), fun {X W sc es} g hs h => (by cases es <;> cases h), fun {X W sc pos ks vs} g hs h => (by cases ks <;> cases vs <;> cases h), fun {X W sc e} g hs h => ?_, fun {X W sc es} g hs h => (by cases es <;> cases h), fun {X W sc es} g hs h => (by cases es <;> cases h), fun {X W sc kws ks} g hs h => (by cases kws <;> cases ks <;> cases h)⟩
    cases e with
    | Compare x ops ys p =>
      match ops, ys, h with
      | [op], [y], h =>
        have h : (copB o op && !behindInMarks op y && chkE T X.N a sc x && chkE T X.N b sc y) = true := h
        obtain ⟨h, h4⟩ := and4 h
        obtain ⟨h, h3⟩ := and4 h
        obtain ⟨h1, h2⟩ := and4 h
        exact pt_cmpR (op_cmp g.room o h1) (iha.e g hs h3) (ihb.e g hs h4) (by simpa using h2)
    | _ => cases h
  | tch o p a b c iha ihb ihc =>
    refine ⟨fun {X W sc e} g hs h => (by cases e <;> cases h), fun {X W sc es} g hs h => (by cases es <;> cases h), fun {X W sc pos ks vs} g hs h => (by cases ks <;> cases vs <;> cases h), fun {X W sc e} g hs h => ?_, fun {X W sc es} g hs h => (by cases es <;> cases h), fun {X W sc es} g hs h => (by cases es <;> cases h), fun {X W sc kws ks} g hs h => (by cases kws <;> cases ks <;> cases h)⟩
    cases e with
    | Compare x ops ys q =>
      match ops, ys, h with
      | [op, op'], [y, z], h =>
        have h : (copB o op && copB p op' && !lastMarks [op, op'] [y, z] && chkE T X.N a sc x && chkE T X.N b sc y && chkE T X.N c sc z) = true := h
        obtain ⟨h, h6⟩ := and4 h
        obtain ⟨h, h5⟩ := and4 h
        obtain ⟨h, h4⟩ := and4 h
        obtain ⟨h, h3⟩ := and4 h
        obtain ⟨h1, h2⟩ := and4 h
        exact pt_chain (op_cmp g.room o h1) (op_cmp g.room p h2) (iha.e g hs h4) (ihb.e g hs h5) (ihc.e g hs h6) (by simpa using h3)
    | _ => cases h
  | and a b iha ihb =>
    refine ⟨fun {X W sc e} g hs h => ?_, fun {X W sc es} g hs h => (by cases es <;> cases h), fun {X W sc pos ks vs} g hs h => (by cases ks <;> cases vs <;> cases h), fun {X W sc e} g hs h => ?_, fun {X W sc es} g hs h => (by cases es <;> cases h), fun {X W sc es} g hs h => (by cases es <;> cases h), fun {X W sc kws ks} g hs h => (by cases kws <;> cases ks <;> cases h)⟩
    · cases e with
      | BoolOp op vs p =>
        match op, vs, h with
        | .And, [x, y], h =>
          have h : (chkE T X.N a sc x && chkE T X.N b sc y) = true := h
          obtain ⟨h1, h2⟩ := and4 h
          exact pe_andT (iha.e g hs h1) (pe_one (ihb.e g hs h2))
        | .And, x :: y :: z :: r, h =>
          have h : (chkE T X.N a sc x && chkE T X.N b sc (.BoolOp .And (y :: z :: r) p)) = true := h
          obtain ⟨h1, h2⟩ := and4 h
          exact pe_andT (iha.e g hs h1) (ihb.e g hs h2)
        | .And, [x], h =>
          have h : (chkE T X.N a sc x && false) = true := h
          rw [Bool.and_false] at h
          cases h
      | _ => cases h
    · cases e with
      | BoolOp op vs p =>
        match op, vs, h with
        | .And, [x, y], h =>
          have h : (chkT T X.N a sc x && chkT T X.N b sc y) = true := h
          obtain ⟨h1, h2⟩ := and4 h
          exact (pw_and (iha.t g hs h1) (pw_and1 (ihb.t g hs h2))).pt
        | .And, x :: y :: z :: r, h =>
          have h : (chkT T X.N a sc x && chkT T X.N b sc (.BoolOp .And (y :: z :: r) p)) = true := h
          obtain ⟨h1, h2⟩ := and4 h
          exact (pw_and (iha.t g hs h1) (pt_pw (ihb.t g hs h2))).pt
        | .And, [x], h =>
          have h : (chkT T X.N a sc x && false) = true := h
          rw [Bool.and_false] at h
          cases h
      | _ => cases h
  | or a b iha ihb =>
    refine ⟨fun {X W sc e} g hs h => ?_, fun {X W sc es} g hs h => (by cases es <;> cases h), fun {X W sc pos ks vs} g hs h => (by cases ks <;> cases vs <;> cases h), fun {X W sc e} g hs h => ?_, fun {X W sc es} g hs h => (by cases es <;> cases h), fun {X W sc es} g hs h => (by cases es <;> cases h), fun {X W sc kws ks} g hs h => (by cases kws <;> cases ks <;> cases h)⟩
    · cases e with
      | BoolOp op vs p =>
        match op, vs, h with
        | .Or, [x, y], h =>
          have h : (chkE T X.N a sc x && chkE T X.N b sc y) = true := h
          obtain ⟨h1, h2⟩ := and4 h
          exact pe_orT (iha.e g hs h1) (pe_one (ihb.e g hs h2))
        | .Or, x :: y :: z :: r, h =>
          have h : (chkE T X.N a sc x && chkE T X.N b sc (.BoolOp .Or (y :: z :: r) p)) = true := h
          obtain ⟨h1, h2⟩ := and4 h
          exact pe_orT (iha.e g hs h1) (ihb.e g hs h2)
        | .Or, [x], h =>
          have h : (chkE T X.N a sc x && false) = true := h
          rw [Bool.and_false] at h
          cases h
      | _ => cases h
    · cases e with
      | BoolOp op vs p =>
        match op, vs, h with
        | .Or, [x, y], h =>
          have h : (chkT T X.N a sc x && chkT T X.N b sc y) = true := h
          obtain ⟨h1, h2⟩ := and4 h
          exact (pw_or (iha.t g hs h1) (pw_or1 (ihb.t g hs h2))).pt
        | .Or, x :: y :: z :: r, h =>
          have h : (chkT T X.N a sc x && chkT T X.N b sc (.BoolOp .Or (y :: z :: r) p)) = true := h
          obtain ⟨h1, h2⟩ := and4 h
          exact (pw_or (iha.t g hs h1) (pt_pw (ihb.t g hs h2))).pt
        | .Or, [x], h =>
          have h : (chkT T X.N a sc x && false) = true := h
          rw [Bool.and_false] at h
          cases h
      | _ => cases h
  | not a iha =>
    refine ⟨fun {X W sc e} g hs h => ?_, fun {X W sc es} g hs h => (by cases es <;> cases h), fun {X W sc pos ks vs} g hs h => (by cases ks <;> cases vs <;> cases h), fun {X W sc e} g hs h => ?_, fun {X W sc es} g hs h => (by cases es <;> cases h), fun {X W sc es} g hs h => (by cases es <;> cases h), fun {X W sc kws ks} g hs h => (by cases kws <;> cases ks <;> cases h)⟩
    · cases e with
      | UnaryOp op x p =>
        cases op with
        | Not => exact pe_notT (iha.e g hs h)
        | _ => cases h
      | _ => cases h
    · cases e with
      | UnaryOp op x p =>
        cases op with
        | Not => exact pt_not (iha.t g hs h)
        | _ => cases h
      | _ => cases h
  | tst a iha =>
    refine ⟨fun {X W sc e} g hs h => (by cases e <;> cases h), fun {X W sc es} g hs h => (by cases es <;> cases h), fun {X W sc pos ks vs} g hs h => (by cases ks <;> cases vs <;> cases h), fun {X W sc e} g hs h => ?_, fun {X W sc es} g hs h => (by cases es <;> cases h), fun {X W sc es} g hs h => (by cases es <;> cases h), fun {X W sc kws ks} g hs h => (by cases kws <;> cases ks <;> cases h)⟩
    have h : (plainT e && chkE T X.N a sc e) = true := h
    obtain ⟨h1, h2⟩ := and4 h
    exact pt_truth (iha.e g hs h2) (isTrue_plainT h1)
  | ite c a b ihc iha ihb =>
    refine ⟨fun {X W sc e} g hs h => ?_, fun {X W sc es} g hs h => (by cases es <;> cases h), fun {X W sc pos ks vs} g hs h => (by cases ks <;> cases vs <;> cases h), fun {X W sc e} g hs h => (by cases h), fun {X W sc es} g hs h => (by cases es <;> cases h), fun {X W sc es} g hs h => (by cases es <;> cases h), fun {X W sc kws ks} g hs h => (by cases kws <;> cases ks <;> cases h)⟩
    cases e with
    | IfExp z x y p =>
      have h : (chkT T X.N c sc z && chkE T X.N a sc x && chkE T X.N b sc y) = true := h
      obtain ⟨h, h3⟩ := and4 h
      obtain ⟨h1, h2⟩ := and4 h
      exact pe_ifExp (ihc.t g hs h1) (iha.e g hs h2) (ihb.e g hs h3)
    | _ => cases h
  | tup a iha =>
    refine ⟨fun {X W sc e} g hs h => ?_, fun {X W sc es} g hs h => (by cases es <;> cases h), fun {X W sc pos ks vs} g hs h => (by cases ks <;> cases vs <;> cases h), fun {X W sc e} g hs h => (by cases h), fun {X W sc es} g hs h => (by cases es <;> cases h), fun {X W sc es} g hs h => (by cases es <;> cases h), fun {X W sc kws ks} g hs h => (by cases kws <;> cases ks <;> cases h)⟩
    cases e with
    | Tuple es k p => exact pe_tup (iha.x g hs h)
    | _ => cases h
  | lst a iha =>
    refine ⟨fun {X W sc e} g hs h => ?_, fun {X W sc es} g hs h => (by cases es <;> cases h), fun {X W sc pos ks vs} g hs h => (by cases ks <;> cases vs <;> cases h), fun {X W sc e} g hs h => (by cases h), fun {X W sc es} g hs h => (by cases es <;> cases h), fun {X W sc es} g hs h => (by cases es <;> cases h), fun {X W sc kws ks} g hs h => (by cases kws <;> cases ks <;> cases h)⟩
    cases e with
    | List es p => exact pe_lst (iha.x g hs h)
    | _ => cases h
  | new a iha =>
    refine ⟨fun {X W sc e} g hs h => ?_, fun {X W sc es} g hs h => (by cases es <;> cases h), fun {X W sc pos ks vs} g hs h => (by cases ks <;> cases vs <;> cases h), fun {X W sc e} g hs h => (by cases h), fun {X W sc es} g hs h => (by cases es <;> cases h), fun {X W sc es} g hs h => (by cases es <;> cases h), fun {X W sc kws ks} g hs h => (by cases kws <;> cases ks <;> cases h)⟩
    cases e with
    | List es p => exact pe_lst (iha.a g hs h)
    | _ => cases h
  | idx a b iha ihb =>
    refine ⟨fun {X W sc e} g hs h => ?_, fun {X W sc es} g hs h => (by cases es <;> cases h), fun {X W sc pos ks vs} g hs h => (by cases ks <;> cases vs <;> cases h), fun {X W sc e} g hs h => (by cases h), fun {X W sc es} g hs h => (by cases es <;> cases h), fun {X W sc es} g hs h => (by cases es <;> cases h), fun {X W sc kws ks} g hs h => (by cases kws <;> cases ks <;> cases h)⟩
    cases e with
    | Subscript x y p =>
      have h : (notSlice y && chkE T X.N a sc x && chkE T X.N b sc y) = true := h
      obtain ⟨h, h3⟩ := and4 h
      obtain ⟨h1, h2⟩ := and4 h
      exact pe_ix ix_seq (iha.e g hs h2) (ihb.e g hs h3) (ix_plain h1)
    | _ => cases h
  | slc a lo hi iha ihl ihh =>
    refine ⟨fun {X W sc e} g hs h => ?_, fun {X W sc es} g hs h => (by cases es <;> cases h), fun {X W sc pos ks vs} g hs h => (by cases ks <;> cases vs <;> cases h), fun {X W sc e} g hs h => (by cases h), fun {X W sc es} g hs h => (by cases es <;> cases h), fun {X W sc es} g hs h => (by cases es <;> cases h), fun {X W sc kws ks} g hs h => (by cases kws <;> cases ks <;> cases h)⟩
    cases e with
    | Subscript x y p =>
      cases y with
      | Slice l h' st q =>
        cases st with
        | some _ => cases h
        | none =>
          have h : (chkE T X.N a sc x && chkO (isNil lo) (chkE T X.N lo sc) l && chkO (isNil hi) (chkE T X.N hi sc) h') = true := h
          obtain ⟨h, h3⟩ := and4 h
          obtain ⟨h1, h2⟩ := and4 h
          have part : ∀ {ce : E} {o : Option Expr}, PAll T F k ce → chkO (isNil ce) (chkE T X.N ce sc) o = true → PO X o (if isNil ce then tNoPart else tPart (tE X.K F W ce)) := fun {ce o} ih h => by
            cases o with
            | none =>
              have h : isNil ce = true := h
              rw [if_pos h]
              exact po_none
            | some l =>
              obtain ⟨h1, h2⟩ := and4 h
              rw [if_neg (by simpa using h1)]
              exact po_some (ih.e g hs h2)
          exact pe_slice (SlR.or sl_list (SlR.or sl_tupA sl_str)) (iha.e g hs h1) (part ihl h2) (part ihh h3)
      | _ => cases h
    | _ => cases h
  | cb f a iha =>
    refine ⟨fun {X W sc e} g hs h => ?_, fun {X W sc es} g hs h => (by cases es <;> cases h), fun {X W sc pos ks vs} g hs h => (by cases ks <;> cases vs <;> cases h), fun {X W sc e} g hs h => (by cases h), fun {X W sc es} g hs h => (by cases es <;> cases h), fun {X W sc es} g hs h => (by cases es <;> cases h), fun {X W sc kws ks} g hs h => (by cases kws <;> cases ks <;> cases h)⟩
    cases e with
    | Call fn es kw p =>
      match fn, kw, es, h with
      | .Name x q, [], e :: es, h =>
        have h : (decide (x = bfName f) && glB sc x && T.bl.contains x && true && chkA T X.N a sc (e :: es)) = true := h
        obtain ⟨h, h5⟩ := and4 h
        obtain ⟨h, _⟩ := and4 h
        obtain ⟨h, h3⟩ := and4 h
        obtain ⟨h1, h2⟩ := and4 h
        have e1 := of_decide_eq_true h1
        subst e1 hs
        have ns := args_star h5
        rw [List.all_cons, Bool.and_eq_true] at ns
        exact pe_bf g f (glB_ok h2) h3 (iha.a g rfl h5) ns.1 ns.2
      | .Name x q, [], [], h =>
        have h : (decide (x = bfName f) && glB sc x && T.bl.contains x && false && chkA T X.N a sc []) = true := h
        simp at h
    | _ => cases h
  | bm m o a iho iha =>
    refine ⟨fun {X W sc e} g hs h => ?_, fun {X W sc es} g hs h => (by cases es <;> cases h), fun {X W sc pos ks vs} g hs h => (by cases ks <;> cases vs <;> cases h), fun {X W sc e} g hs h => (by cases h), fun {X W sc es} g hs h => (by cases es <;> cases h), fun {X W sc es} g hs h => (by cases es <;> cases h), fun {X W sc kws ks} g hs h => (by cases kws <;> cases ks <;> cases h)⟩
    cases e with
    | Call fn es kw p =>
      match fn, kw, h with
      | .Attribute x name apos, [], h =>
        have h : (decide (name = bmName m) && plainBase x && (apos.endLine == p.line) && decide (es.length < 30) && (es.isEmpty == isNil a) && chkE T X.N o sc x && chkA T X.N a sc es && strM m) = true := h
        obtain ⟨h, h8⟩ := and4 h
        obtain ⟨h, h7⟩ := and4 h
        obtain ⟨h, h6⟩ := and4 h
        obtain ⟨h, h5⟩ := and4 h
        obtain ⟨h, h4⟩ := and4 h
        obtain ⟨h, h3⟩ := and4 h
        obtain ⟨h1, h2⟩ := and4 h
        have e1 := of_decide_eq_true h1
        subst e1
        have ns := args_star h7
        have hm : strM m = true := h8
        show PE X _ (if isNil a then tBM0 X.K (bmTy m) (rBM X.K m) (tE X.K F W o) else tBM X.K (bmTy m) (rBM X.K m) (tE X.K F W o) (tA X.K F W a))
        cases es with
        | nil =>
          have hn : isNil a = true := by simpa using h5
          rw [if_pos hn]
          exact pe_bms0 m hm (iho.e g hs h6) h2 h3
        | cons e es =>
          have hn : ¬ isNil a = true := by simpa using h5
          rw [if_neg hn]
          rw [List.all_cons, Bool.and_eq_true] at ns
          exact pe_bms m hm (iho.e g hs h6) (iha.a g hs h7) h2 h3 (of_decide_eq_true h4) ns.1 ns.2
    | _ => cases h
  | call f a iha =>
    refine ⟨fun {X W sc e} g hs h => ?_, fun {X W sc es} g hs h => (by cases es <;> cases h), fun {X W sc pos ks vs} g hs h => (by cases ks <;> cases vs <;> cases h), fun {X W sc e} g hs h => (by cases h), fun {X W sc es} g hs h => (by cases es <;> cases h), fun {X W sc es} g hs h => (by cases es <;> cases h), fun {X W sc kws ks} g hs h => (by cases kws <;> cases ks <;> cases h)⟩
    cases e with
    | Call fn es kw p =>
      match fn, kw, h with
      | .Name x q, [], h =>
        have h : (decide (T.fn[f]? = some (some x)) && glB sc x && nameOk x && chkA T X.N a sc es) = true := h
        obtain ⟨h, h4⟩ := and4 h
        obtain ⟨h, h3⟩ := and4 h
        obtain ⟨h1, h2⟩ := and4 h
        subst hs
        obtain ⟨ad, fd, ps, m1, m2, m3, m4⟩ := g.fns f x (of_decide_eq_true h1)
        have ns := args_star h4
        cases es with
        | nil =>
          have e1 : a = .nil := by cases a <;> first | rfl | cases h4
          subst e1
          exact pe_callSD0 m3 g.room (glB_ok h2) m1 m2 m4 .nil (fun σ => passAt g.tk σ) (nameOk1 h3).1
        | cons e es =>
          rw [List.all_cons, Bool.and_eq_true] at ns
          exact pe_callSD m3 g.room (glB_ok h2) m1 m2 m4 .nil (fun σ => passAt g.tk σ) (iha.a g rfl h4) (nameOk1 h3).1 (starEach_cons ns.1) (starEach_plain ns.2)
    | _ => cases h
  | callf f a iha =>
    refine ⟨fun {X W sc e} g hs h => ?_, fun {X W sc es} g hs h => (by cases es <;> cases h), fun {X W sc pos ks vs} g hs h => (by cases ks <;> cases vs <;> cases h), fun {X W sc e} g hs h => (by cases h), fun {X W sc es} g hs h => (by cases es <;> cases h), fun {X W sc es} g hs h => (by cases es <;> cases h), fun {X W sc kws ks} g hs h => (by cases kws <;> cases ks <;> cases h)⟩
    cases e with
    | Call fn es kw p =>
      match fn, kw, h with
      | .Name x q, [], h =>
        have h : (decide (T.fnf[f]? = some (some x)) && glB sc x && nameOk x && chkA T X.N a sc es) = true := h
        obtain ⟨h, h4⟩ := and4 h
        obtain ⟨h, h3⟩ := and4 h
        obtain ⟨h1, h2⟩ := and4 h
        subst hs
        obtain ⟨ad, fd, ps, m1, m2, m3, m4⟩ := g.fnsf f x (of_decide_eq_true h1)
        have ns := args_star h4
        cases es with
        | nil =>
          have e1 : a = .nil := by cases a <;> first | rfl | cases h4
          subst e1
          exact pe_callSD0 m3 g.room (glB_ok h2) m1 m2 m4 .nil (fun σ => passAt g.tk σ) (nameOk1 h3).1
        | cons e es =>
          rw [List.all_cons, Bool.and_eq_true] at ns
          exact pe_callSD m3 g.room (glB_ok h2) m1 m2 m4 .nil (fun σ => passAt g.tk σ) (iha.a g rfl h4) (nameOk1 h3).1 (starEach_cons ns.1) (starEach_plain ns.2)
    | _ => cases h
  | mthf n c m o a iho iha =>
    refine ⟨fun {X W sc e'} g hs h => ?_, fun {X W sc es} g hs h => (by cases es <;> cases h), fun {X W sc pos ks vs} g hs h => (by cases ks <;> cases vs <;> cases h), fun {X W sc e} g hs h => (by cases h), fun {X W sc es} g hs h => (by cases es <;> cases h), fun {X W sc es} g hs h => (by cases es <;> cases h), fun {X W sc kws ks} g hs h => (by cases kws <;> cases ks <;> cases h)⟩
    cases e' with
    | Call fn es kw p =>
      match fn, kw, h with
      | .Attribute x m' apos, [], h =>
        have h : (decide (m = m') && plainBase x && (apos.endLine == p.line) && decide (es.length < 30) && decide (((c, m), n) ∈ T.mtf) && chkE T X.N o sc x && chkA T X.N a sc es) = true := h
        obtain ⟨h, h7⟩ := and4 h
        obtain ⟨h, h6⟩ := and4 h
        obtain ⟨h, h5⟩ := and4 h
        obtain ⟨h, h4⟩ := and4 h
        obtain ⟨h, h3⟩ := and4 h
        obtain ⟨h1, h2⟩ := and4 h
        have e1 := of_decide_eq_true h1
        subst e1
        obtain ⟨cI, fa, fd, ps, q1, q2, q3⟩ := g.mtfs c m n (of_decide_eq_true h5)
        have ns := args_star h7
        cases es with
        | nil =>
          have e1 : a = .nil := by cases a <;> first | rfl | cases h7
          subst e1
          exact pe_mthS0 (iho.e g hs h6) h2 h3 cI q1 q2 g.room q3 g.tk
        | cons e es =>
          rw [List.all_cons, Bool.and_eq_true] at ns
          exact pe_mthS (iho.e g hs h6) h2 h3 (of_decide_eq_true h4) ns.1 ns.2 cI q1 q2 g.room q3 g.tk (iha.a g hs h7)
    | _ => cases h
  | fmt a iha =>
    refine ⟨fun {X W sc e} g hs h => ?_, fun {X W sc es} g hs h => (by cases es <;> cases h), fun {X W sc pos ks vs} g hs h => (by cases ks <;> cases vs <;> cases h), fun {X W sc e} g hs h => (by cases h), fun {X W sc es} g hs h => (by cases es <;> cases h), fun {X W sc es} g hs h => (by cases es <;> cases h), fun {X W sc kws ks} g hs h => (by cases kws <;> cases ks <;> cases h)⟩
    cases e with
    | FormattedValue x c sp p =>
      cases sp with
      | none =>
        have h : (decide (c = -1) && chkE T X.N a sc x) = true := h
        obtain ⟨h1, h2⟩ := and4 h
        have e1 := of_decide_eq_true h1
        subst e1
        exact pe_fmt (iha.e g hs h2)
      | some _ => cases h
    | _ => cases h
  | fst a iha =>
    refine ⟨fun {X W sc e} g hs h => ?_, fun {X W sc es} g hs h => (by cases es <;> cases h), fun {X W sc pos ks vs} g hs h => (by cases ks <;> cases vs <;> cases h), fun {X W sc e} g hs h => (by cases h), fun {X W sc es} g hs h => (by cases es <;> cases h), fun {X W sc es} g hs h => (by cases es <;> cases h), fun {X W sc kws ks} g hs h => (by cases kws <;> cases ks <;> cases h)⟩
    cases e with
    | JoinedStr es p =>
      have h : (decide (2 ≤ es.length) && chkA T X.N a sc es) = true := h
      obtain ⟨h1, h2⟩ := and4 h
      match es, h1, h2 with
      | x :: y :: r, _, h2 => exact pe_joined (iha.j g hs h2)
    | _ => cases h
  | exf c f i => exact ⟨fun {X W sc e} g hs h => (by cases e <;> cases h), fun {X W sc es} g hs h => (by cases es <;> cases h), fun {X W sc pos ks vs} g hs h => (by cases ks <;> cases vs <;> cases h), fun {X W sc e} g hs h => (by cases h), fun {X W sc es} g hs h => (by cases es <;> cases h), fun {X W sc es} g hs h => (by cases es <;> cases h), fun {X W sc kws ks} g hs h => (by cases kws <;> cases ks <;> cases h)⟩
  | lc j src c e ihs ihc ihe =>
    refine ⟨fun {X W sc e'} g hs h => ?_, fun {X W sc es} g hs h => (by cases es <;> cases h), fun {X W sc pos ks vs} g hs h => (by cases ks <;> cases vs <;> cases h), fun {X W sc e} g hs h => (by cases h), fun {X W sc es} g hs h => (by cases es <;> cases h), fun {X W sc es} g hs h => (by cases es <;> cases h), fun {X W sc kws ks} g hs h => (by cases kws <;> cases ks <;> cases h)⟩
    cases e' with
    | ListComp el gs scope p =>
      match gs, h with
      | [⟨.Name y py, it, ifs, 0⟩], h =>
        have h : (notSet it && blkC X.N sc scope [(y, j)] && locB scope y && chkE T X.N src sc it && chkI (isNil c) (chkT T X.N c (relS scope sc)) ifs && chkE T X.N e (relS scope sc) el) = true := h
        obtain ⟨h, h6⟩ := and4 h
        obtain ⟨h, h5⟩ := and4 h
        obtain ⟨h, h4⟩ := and4 h
        obtain ⟨h, h3⟩ := and4 h
        obtain ⟨h1, h2⟩ := and4 h
        subst hs
        obtain ⟨p1, p2, p3⟩ := lc_parts (py := py) g ihc ihe h2 h3 h5 h6
        exact pe_lc (own := [(y, j)]) g.calm g.nd (PI.any (ihs.e g rfl h4)) (blkOk_by h2) p1 p2 p3 (set_plain h1)
    | _ => cases h
  | lc2 j src j1 src1 c e ihs ihs1 ihc ihe =>
    refine ⟨fun {X W sc e'} g hs h => ?_, fun {X W sc es} g hs h => (by cases es <;> cases h), fun {X W sc pos ks vs} g hs h => (by cases ks <;> cases vs <;> cases h), fun {X W sc e} g hs h => (by cases h), fun {X W sc es} g hs h => (by cases es <;> cases h), fun {X W sc es} g hs h => (by cases es <;> cases h), fun {X W sc kws ks} g hs h => (by cases kws <;> cases ks <;> cases h)⟩
    cases e' with
    | ListComp el gs scope p =>
      match gs, h with
      | [⟨.Name y py, it, [], 0⟩, ⟨.Name y1 py1, it1, ifs, 0⟩], h =>
        have h : (notSet it && notSet it1 && blkC X.N sc scope [(y, j), (y1, j1)] && locB scope y && locB scope y1 && chkE T X.N src sc it && chkE T X.N src1 (relS scope sc) it1 && chkI (isNil c) (chkT T X.N c (relS scope sc)) ifs && chkE T X.N e (relS scope sc) el) = true := h
        obtain ⟨h, h9⟩ := and4 h
        obtain ⟨h, h8⟩ := and4 h
        obtain ⟨h, h7⟩ := and4 h
        obtain ⟨h, h6⟩ := and4 h
        obtain ⟨h, h5⟩ := and4 h
        obtain ⟨h, h4⟩ := and4 h
        obtain ⟨h, h3⟩ := and4 h
        obtain ⟨h1, h2⟩ := and4 h
        subst hs
        obtain ⟨p1, _, _⟩ := lc_partsG (py := py) (c := c) (e := e) g ihc ihe h3 (List.mem_cons_self) h4 h8 h9
        obtain ⟨q1, q2, q3⟩ := lc_partsG (py := py1) (c := c) (e := e) g ihc ihe h3 (List.mem_cons_of_mem _ List.mem_cons_self) h5 h8 h9
        exact pe_lc2 (own := [(y, j), (y1, j1)]) (vs1 := [j1]) g.calm g.nd (PI.any (ihs.e g rfl h6)) (blkOk_by h3) (fun i hi => by rw [List.mem_singleton.mp hi]; exact List.mem_cons_of_mem _ List.mem_cons_self) p1 (fun _ _ _ _ _ => pts_nil) (lc_src g ihs1 h7) q1 q2 q3 (set_plain h1) (fun env x => set_plain h2 x)
    | _ => cases h
  | lcr j a c e iha ihc ihe =>
    refine ⟨fun {X W sc e'} g hs h => ?_, fun {X W sc es} g hs h => (by cases es <;> cases h), fun {X W sc pos ks vs} g hs h => (by cases ks <;> cases vs <;> cases h), fun {X W sc e} g hs h => (by cases h), fun {X W sc es} g hs h => (by cases es <;> cases h), fun {X W sc es} g hs h => (by cases es <;> cases h), fun {X W sc kws ks} g hs h => (by cases kws <;> cases ks <;> cases h)⟩
    cases e' with
    | ListComp el gs scope p =>
      match gs, h with
      | [⟨.Name y py, .Call (.Name r pr) (x :: es) [] pc, ifs, 0⟩], h =>
        have h : (decide (r = "range") && glB sc r && T.bl.contains r && true && blkC X.N sc scope [(y, j)] && locB scope y && chkA T X.N a sc (x :: es) && chkI (isNil c) (chkT T X.N c (relS scope sc)) ifs && chkE T X.N e (relS scope sc) el) = true := h
        obtain ⟨h, h9⟩ := and4 h
        obtain ⟨h, h8⟩ := and4 h
        obtain ⟨h, h7⟩ := and4 h
        obtain ⟨h, h6⟩ := and4 h
        obtain ⟨h, h5⟩ := and4 h
        obtain ⟨h, _⟩ := and4 h
        obtain ⟨h, h3⟩ := and4 h
        obtain ⟨h1, h2⟩ := and4 h
        subst hs
        have e1 := of_decide_eq_true h1
        subst e1
        obtain ⟨p1, p2, p3⟩ := lc_parts (py := py) g ihc ihe h5 h6 h8 h9
        have ns := args_star h7
        rw [List.all_cons, Bool.and_eq_true] at ns
        exact pe_lc (own := [(y, j)]) g.calm g.nd (PI.rng (glB_ok h2) (g.bls _ h3) (iha.a g rfl h7) ns.1 ns.2) (blkOk_by h5) p1 p2 p3 (set_plain rfl)
      | [⟨.Name y py, .Call (.Name r pr) [] [] pc, ifs, 0⟩], h =>
        have h : (decide (r = "range") && glB sc r && T.bl.contains r && false && blkC X.N sc scope [(y, j)] && locB scope y && chkA T X.N a sc [] && chkI (isNil c) (chkT T X.N c (relS scope sc)) ifs && chkE T X.N e (relS scope sc) el) = true := h
        simp at h
    | _ => cases h
  | fld a f iha =>
    refine ⟨fun {X W sc e'} g hs h => ?_, fun {X W sc es} g hs h => (by cases es <;> cases h), fun {X W sc pos ks vs} g hs h => (by cases ks <;> cases vs <;> cases h), fun {X W sc e} g hs h => (by cases h), fun {X W sc es} g hs h => (by cases es <;> cases h), fun {X W sc es} g hs h => (by cases es <;> cases h), fun {X W sc kws ks} g hs h => (by cases kws <;> cases ks <;> cases h)⟩
    cases e' with
    | Attribute x f' p =>
      have h : (decide (f = f') && plainBase x && chkE T X.N a sc x) = true := h
      obtain ⟨h, h3⟩ := and4 h
      obtain ⟨h1, h2⟩ := and4 h
      have e1 := of_decide_eq_true h1
      subst e1
      exact pe_fld (iha.e g hs h3) (base_plain h2)
    | _ => cases h
  | ofl i f =>
    refine ⟨fun {X W sc e'} g hs h => ?_, fun {X W sc es} g hs h => (by cases es <;> cases h), fun {X W sc pos ks vs} g hs h => (by cases ks <;> cases vs <;> cases h), fun {X W sc e} g hs h => (by cases h), fun {X W sc es} g hs h => (by cases es <;> cases h), fun {X W sc es} g hs h => (by cases es <;> cases h), fun {X W sc kws ks} g hs h => (by cases kws <;> cases ks <;> cases h)⟩
    match e', h with
    | .Attribute (.Name x q) f' p, h =>
      subst hs
      have h : (decide (f = f') && decide (X.N[i]? = some x) && visB X.env.scope x && nameOk x) = true := h
      obtain ⟨h, h4⟩ := and4 h
      obtain ⟨h, h3⟩ := and4 h
      obtain ⟨h1, h2⟩ := and4 h
      have e1 := of_decide_eq_true h1
      subst e1
      exact pe_fld (pe_var (of_decide_eq_true h2) (visB_ok h3) (nameOk1 h4).1 (nameOk1 h4).2.1) (base_plain rfl)
  | prp n c f a iha =>
    refine ⟨fun {X W sc e'} g hs h => ?_, fun {X W sc es} g hs h => (by cases es <;> cases h), fun {X W sc pos ks vs} g hs h => (by cases ks <;> cases vs <;> cases h), fun {X W sc e} g hs h => (by cases h), fun {X W sc es} g hs h => (by cases es <;> cases h), fun {X W sc es} g hs h => (by cases es <;> cases h), fun {X W sc kws ks} g hs h => (by cases kws <;> cases ks <;> cases h)⟩
    cases e' with
    | Attribute x f' p =>
      have h : (decide (f = f') && plainBase x && decide (((c, f), n) ∈ T.pr) && chkE T X.N a sc x) = true := h
      obtain ⟨h, h4⟩ := and4 h
      obtain ⟨h, h3⟩ := and4 h
      obtain ⟨h1, h2⟩ := and4 h
      have e1 := of_decide_eq_true h1
      subst e1
      obtain ⟨cI, pr, fa, fd, ps, q1, q2, q3⟩ := g.prs c f n (of_decide_eq_true h3)
      exact pe_prop (iha.e g hs h4) cI q1 q2 g.room1 q3 .nil pass_no (base_plain h2)
    | _ => cases h
  | mth n c m o a iho iha =>
    refine ⟨fun {X W sc e'} g hs h => ?_, fun {X W sc es} g hs h => (by cases es <;> cases h), fun {X W sc pos ks vs} g hs h => (by cases ks <;> cases vs <;> cases h), fun {X W sc e} g hs h => (by cases h), fun {X W sc es} g hs h => (by cases es <;> cases h), fun {X W sc es} g hs h => (by cases es <;> cases h), fun {X W sc kws ks} g hs h => (by cases kws <;> cases ks <;> cases h)⟩
    cases e' with
    | Call fn es kw p =>
      match fn, kw, h with
      | .Attribute x m' apos, [], h =>
        have h : (decide (m = m') && plainBase x && (apos.endLine == p.line) && decide (es.length < 30) && decide (((c, m), n) ∈ T.mt) && chkE T X.N o sc x && chkA T X.N a sc es) = true := h
        obtain ⟨h, h7⟩ := and4 h
        obtain ⟨h, h6⟩ := and4 h
        obtain ⟨h, h5⟩ := and4 h
        obtain ⟨h, h4⟩ := and4 h
        obtain ⟨h, h3⟩ := and4 h
        obtain ⟨h1, h2⟩ := and4 h
        have e1 := of_decide_eq_true h1
        subst e1
        obtain ⟨cI, fa, fd, ps, q1, q2, q3⟩ := g.mts c m n (of_decide_eq_true h5)
        have ns := args_star h7
        cases es with
        | nil =>
          have e1 : a = .nil := by cases a <;> first | rfl | cases h7
          subst e1
          exact pe_mthS0 (iho.e g hs h6) h2 h3 cI q1 q2 g.room q3 g.tk
        | cons e es =>
          rw [List.all_cons, Bool.and_eq_true] at ns
          exact pe_mthS (iho.e g hs h6) h2 h3 (of_decide_eq_true h4) ns.1 ns.2 cI q1 q2 g.room q3 g.tk (iha.a g hs h7)
    | _ => cases h
  | mk n c m ks a k iha ihk =>
    refine ⟨fun {X W sc e'} g hs h => ?_, fun {X W sc es} g hs h => (by cases es <;> cases h), fun {X W sc pos ks vs} g hs h => (by cases ks <;> cases vs <;> cases h), fun {X W sc e} g hs h => (by cases h), fun {X W sc es} g hs h => (by cases es <;> cases h), fun {X W sc es} g hs h => (by cases es <;> cases h), fun {X W sc kws ks} g hs h => (by cases kws <;> cases ks <;> cases h)⟩
    cases e' with
    | Call fn es kws p =>
      match fn, h with
      | .Name x q, h =>
        have h : (decide (c = x) && glB sc x && nameOk x && decide (es.length = m) && decide ((c, n, m, ks) ∈ T.mks) && chkA T X.N a sc es && chkK T X.N k sc kws ks) = true := h
        obtain ⟨h, h7⟩ := and4 h
        obtain ⟨h, h6⟩ := and4 h
        obtain ⟨h, h5⟩ := and4 h
        obtain ⟨h, h4⟩ := and4 h
        obtain ⟨h, h3⟩ := and4 h
        obtain ⟨h1, h2⟩ := and4 h
        have e1 := of_decide_eq_true h1
        subst e1 hs
        have gi := g.inis c n m ks (of_decide_eq_true h5)
        obtain ⟨k1, k2⟩ := ihk.kw g rfl h7
        have ns := args_star h6
        have em := of_decide_eq_true h4
        cases es with
        | nil =>
          have e1 : a = .nil := by cases a <;> first | rfl | cases h6
          subst e1
          have em : 0 = m := em
          subst em
          exact pe_mkS0 gi g.room1 (glB_ok h2) (nameOk1 h3).1 g.tk k1 k2
        | cons e es =>
          rw [List.all_cons, Bool.and_eq_true] at ns
          exact pe_mkS gi g.room1 (glB_ok h2) (nameOk1 h3).1 g.tk (iha.a g rfl h6) ns.1 ns.2 k1 k2
    | _ => cases h
  | iso c tb a iha =>
    refine ⟨fun {X W sc e'} g hs h => ?_, fun {X W sc es} g hs h => (by cases es <;> cases h), fun {X W sc pos ks vs} g hs h => (by cases ks <;> cases vs <;> cases h), fun {X W sc e} g hs h => (by cases h), fun {X W sc es} g hs h => (by cases es <;> cases h), fun {X W sc es} g hs h => (by cases es <;> cases h), fun {X W sc kws ks} g hs h => (by cases kws <;> cases ks <;> cases h)⟩
    match e', h with
    | .Call (.Name i q) [x, .Name y p1] [] p, h =>
      subst hs
      have h : (decide (i = "isinstance") && glB X.env.scope i && T.bl.contains i && noStar x && chkE T X.N a X.env.scope x && decide (y = c) && glB X.env.scope y && nameOk y && T.cs.contains c) = true := h
      obtain ⟨h, h9⟩ := and4 h
      obtain ⟨h, h8⟩ := and4 h
      obtain ⟨h, h7⟩ := and4 h
      obtain ⟨h, h6⟩ := and4 h
      obtain ⟨h, h5⟩ := and4 h
      obtain ⟨h, h4⟩ := and4 h
      obtain ⟨h, h3⟩ := and4 h
      obtain ⟨h1, h2⟩ := and4 h
      have e1 := of_decide_eq_true h1
      have e2 := of_decide_eq_true h6
      subst e1 e2
      exact pe_callB call_isi (glB_ok h2) (g.bls _ h3) (by decide +kernel) (pa_cons (iha.e g rfl h5) (pa_cons (pe_glob (glB_ok h7) (g.css _ h9) rfl (nameOk1 h8).1) pa_nil (starEach_cons rfl)) (starEach_cons h4)) (he := starEach_cons h4) (hpl := starEach_plain rfl)
  | ceq o n c tb a b iha ihb =>
    refine ⟨fun {X W sc e'} g hs h => ?_, fun {X W sc es} g hs h => (by cases es <;> cases h), fun {X W sc pos ks vs} g hs h => (by cases ks <;> cases vs <;> cases h), fun {X W sc e} g hs h => (by cases h), fun {X W sc es} g hs h => (by cases es <;> cases h), fun {X W sc es} g hs h => (by cases es <;> cases h), fun {X W sc kws ks} g hs h => (by cases kws <;> cases ks <;> cases h)⟩
    cases e' with
    | Compare x ops ys p =>
      match ops, ys, h with
      | [op], [y], h =>
        have h : (copB o op && !behindInMarks op y && decide (((c, ("__eq__" : Str)), n) ∈ T.mt) && chkE T X.N a sc x && chkE T X.N b sc y) = true := h
        obtain ⟨h, h5⟩ := and4 h
        obtain ⟨h, h4⟩ := and4 h
        obtain ⟨h, h3⟩ := and4 h
        obtain ⟨h1, h2⟩ := and4 h
        obtain ⟨cI, fa, fd, ps, q1, q2, q3⟩ := g.mts c "__eq__" n (of_decide_eq_true h3)
        exact pe_cmpR (op_ceq h1 q1.at_ q1.fn q2 g.room1 q3) (iha.e g hs h4) (ihb.e g hs h5) (by simpa using h2)
    | _ => cases h
  | tceq o n c tb a b iha ihb =>
    refine ⟨fun {X W sc e} g hs h => (by cases e <;> cases h), fun {X W sc es} g hs h => (by cases es <;> cases h), fun {X W sc pos ks vs} g hs h => (by cases ks <;> cases vs <;> cases h), fun {X W sc e'} g hs h => ?_, fun {X W sc es} g hs h => (by cases es <;> cases h), fun {X W sc es} g hs h => (by cases es <;> cases h), fun {X W sc kws ks} g hs h => (by cases kws <;> cases ks <;> cases h)⟩
    cases e' with
    | Compare x ops ys p =>
      match ops, ys, h with
      | [op], [y], h =>
        have h : (copB o op && !behindInMarks op y && decide (((c, ("__eq__" : Str)), n) ∈ T.mt) && chkE T X.N a sc x && chkE T X.N b sc y) = true := h
        obtain ⟨h, h5⟩ := and4 h
        obtain ⟨h, h4⟩ := and4 h
        obtain ⟨h, h3⟩ := and4 h
        obtain ⟨h1, h2⟩ := and4 h
        obtain ⟨cI, fa, fd, ps, q1, q2, q3⟩ := g.mts c "__eq__" n (of_decide_eq_true h3)
        exact pt_cmpR (op_ceq h1 q1.at_ q1.fn q2 g.room1 q3) (iha.e g hs h4) (ihb.e g hs h5) (by simpa using h2)
    | _ => cases h
  | star a b iha ihb =>
    refine ⟨fun {X W sc e} g hs h => (by cases e <;> cases h), fun {X W sc es} g hs h => (by cases es <;> cases h), fun {X W sc pos ks vs} g hs h => (by cases ks <;> cases vs <;> cases h), fun {X W sc e} g hs h => (by cases h), fun {X W sc es} g hs h => (by cases es <;> cases h), fun {X W sc es} g hs h => ?_, fun {X W sc kws ks} g hs h => (by cases kws <;> cases ks <;> cases h)⟩
    match es, h with
    | .Starred x p :: xs, h =>
      have h : (chkE T X.N a sc x && chkX T X.N b sc xs) = true := h
      obtain ⟨h1, h2⟩ := and4 h
      exact StX.pa_star (iha.e g hs h1) (ihb.x g hs h2)
  | mkx n c m a iha =>
    refine ⟨fun {X W sc e'} g hs h => ?_, fun {X W sc es} g hs h => (by cases es <;> cases h), fun {X W sc pos ks vs} g hs h => (by cases ks <;> cases vs <;> cases h), fun {X W sc e} g hs h => (by cases h), fun {X W sc es} g hs h => (by cases es <;> cases h), fun {X W sc es} g hs h => (by cases es <;> cases h), fun {X W sc kws ks} g hs h => (by cases kws <;> cases ks <;> cases h)⟩
    match e', h with
    | .Call (.Name x p) es [] pos, h =>
      subst hs
      have h : (decide (c = x) && glB X.env.scope x && nameOk x && decide ((c, n, m) ∈ T.mkx) && headNS es && chkX T X.N a X.env.scope es) = true := h
      obtain ⟨h, h6⟩ := and4 h
      obtain ⟨h, h5⟩ := and4 h
      obtain ⟨h, h4⟩ := and4 h
      obtain ⟨h, h3⟩ := and4 h
      obtain ⟨h1, h2⟩ := and4 h
      have e1 := of_decide_eq_true h1
      subst e1
      obtain ⟨m1, fI, M, F1⟩ := g.mkxs _ _ _ (of_decide_eq_true h4)
      cases es with
      | nil => cases h5
      | cons z zs => exact pe_mkX m1 M F1 g.room1 (glB_ok h2) (nameOk1 h3).1 g.tk (iha.x g rfl h6) h5
  | smc n c m a iha =>
    refine ⟨fun {X W sc e'} g hs h => ?_, fun {X W sc es} g hs h => (by cases es <;> cases h), fun {X W sc pos ks vs} g hs h => (by cases ks <;> cases vs <;> cases h), fun {X W sc e} g hs h => (by cases h), fun {X W sc es} g hs h => (by cases es <;> cases h), fun {X W sc es} g hs h => (by cases es <;> cases h), fun {X W sc kws ks} g hs h => (by cases kws <;> cases ks <;> cases h)⟩
    match e', h with
    | .Call (.Attribute (.Name x p) m' apos) es [] pos, h =>
      subst hs
      have h : (decide (m = m') && decide (c = x) && glB X.env.scope x && nameOk x && (apos.endLine == pos.line) && decide (es.length < 30) && !es.isEmpty && T.cs.contains c && decide (((c, m), n) ∈ T.sm) && chkA T X.N a X.env.scope es) = true := h
      obtain ⟨h, h10⟩ := and4 h
      obtain ⟨h, h9⟩ := and4 h
      obtain ⟨h, h8⟩ := and4 h
      obtain ⟨h, h7⟩ := and4 h
      obtain ⟨h, h6⟩ := and4 h
      obtain ⟨h, h5⟩ := and4 h
      obtain ⟨h, h4⟩ := and4 h
      obtain ⟨h, h3⟩ := and4 h
      obtain ⟨h1, h2⟩ := and4 h
      have e1 := of_decide_eq_true h1
      subst e1
      have e2 := of_decide_eq_true h2
      subst e2
      obtain ⟨f, fd, ps, S, F1, hb⟩ := g.sms _ _ _ (of_decide_eq_true h9)
      have hst := args_star h10
      cases es with
      | nil => cases h7
      | cons z zs =>
        rw [List.all_cons, Bool.and_eq_true] at hst
        exact pe_smc (glB_ok h3) (g.css _ h8) (nameOk1 h4).1 h5 (of_decide_eq_true h6) hst.1 hst.2 S F1 g.room hb g.tk (iha.a g rfl h10)
  | gti n c a b iha ihb =>
    refine ⟨fun {X W sc e'} g hs h => ?_, fun {X W sc es} g hs h => (by cases es <;> cases h), fun {X W sc pos ks vs} g hs h => (by cases ks <;> cases vs <;> cases h), fun {X W sc e} g hs h => (by cases h), fun {X W sc es} g hs h => (by cases es <;> cases h), fun {X W sc es} g hs h => (by cases es <;> cases h), fun {X W sc kws ks} g hs h => (by cases kws <;> cases ks <;> cases h)⟩
    match e', h with
    | .Subscript x y pos, h =>
      have h : (notSlice y && decide (((c, ("__getitem__" : Str)), n) ∈ T.mt) && chkE T X.N a sc x && chkE T X.N b sc y) = true := h
      obtain ⟨h, h4⟩ := and4 h
      obtain ⟨h, h3⟩ := and4 h
      obtain ⟨h1, h2⟩ := and4 h
      obtain ⟨cI, fa, fd, ps, q1, q2, q3⟩ := g.mts c "__getitem__" n (of_decide_eq_true h2)
      exact pe_gti q1 (g.fnis _ _ _ (of_decide_eq_true h2) _ q1) q2 g.room1 q3 g.tk (iha.e g hs h3) (ihb.e g hs h4) h1
  | own1 f n c a iha =>
    refine ⟨fun {X W sc e'} g hs h => ?_, fun {X W sc es} g hs h => (by cases es <;> cases h), fun {X W sc pos ks vs} g hs h => (by cases ks <;> cases vs <;> cases h), fun {X W sc e} g hs h => (by cases h), fun {X W sc es} g hs h => (by cases es <;> cases h), fun {X W sc es} g hs h => (by cases es <;> cases h), fun {X W sc kws ks} g hs h => (by cases kws <;> cases ks <;> cases h)⟩
    match e', h with
    | .Call (.Name x p) [y] [] pos, h =>
      subst hs
      have h : (decide (x = f.call) && glB X.env.scope x && T.bl.contains x && noStar y && decide (((c, f.name), n) ∈ T.mt) && chkE T X.N a X.env.scope y) = true := h
      obtain ⟨h, h6⟩ := and4 h
      obtain ⟨h, h5⟩ := and4 h
      obtain ⟨h, h4⟩ := and4 h
      obtain ⟨h, h3⟩ := and4 h
      obtain ⟨h1, h2⟩ := and4 h
      have e1 := of_decide_eq_true h1
      subst e1
      obtain ⟨cI, fa, fd, ps, q1, q2, q3⟩ := g.mts c f.name n (of_decide_eq_true h5)
      have ha : PA X [y] (tCons (tE X.K F W a) tNil) := pa_cons (iha.e g rfl h6) pa_nil (starEach_cons h4)
      cases f with
      | len => exact pe_callB (call_lenOwn q1 q2 g.room1 q3) (glB_ok h2) (g.bls _ h3) boot_len ha (he := starEach_cons h4)
      | str => exact pe_callTy (call_strOwn q1 q2 (g.room3.mono (by omega)) q3) (glB_ok h2) (g.bls _ h3) boot_str ha (he := starEach_cons h4)
      | bool => exact pe_callTy (call_boolOwn q1 (g.nobool _ _ (of_decide_eq_true h5)) q2 g.room3 q3) (glB_ok h2) (g.bls _ h3) (by decide +kernel) ha (he := starEach_cons h4)
  | cno n fn c a b iha ihb =>
    refine ⟨fun {X W sc e'} g hs h => ?_, fun {X W sc es} g hs h => (by cases es <;> cases h), fun {X W sc pos ks vs} g hs h => (by cases ks <;> cases vs <;> cases h), fun {X W sc e} g hs h => (by cases h), fun {X W sc es} g hs h => (by cases es <;> cases h), fun {X W sc es} g hs h => (by cases es <;> cases h), fun {X W sc kws ks} g hs h => (by cases kws <;> cases ks <;> cases h)⟩
    cases e' with
    | Compare x ops ys p =>
      match ops, ys, h with
      | [op], [y], h =>
        have h : (copB (if n then .notin else .inn) op && !behindInMarks op y && decide (((c, ("__contains__" : Str)), fn) ∈ T.mt) && chkE T X.N a sc x && chkE T X.N b sc y) = true := h
        obtain ⟨h, h5⟩ := and4 h
        obtain ⟨h, h4⟩ := and4 h
        obtain ⟨h, h3⟩ := and4 h
        obtain ⟨h1, h2⟩ := and4 h
        obtain ⟨cI, fa, fd, ps, q1, q2, q3⟩ := g.mts c "__contains__" fn (of_decide_eq_true h3)
        exact pe_cmpR (op_cno h1 q1 q2 g.room q3) (iha.e g hs h4) (ihb.e g hs h5) (by simpa using h2)
    | _ => cases h
  | tcno n fn c a b iha ihb =>
    refine ⟨fun {X W sc e} g hs h => (by cases e <;> cases h), fun {X W sc es} g hs h => (by cases es <;> cases h), fun {X W sc pos ks vs} g hs h => (by cases ks <;> cases vs <;> cases h), fun {X W sc e'} g hs h => ?_, fun {X W sc es} g hs h => (by cases es <;> cases h), fun {X W sc es} g hs h => (by cases es <;> cases h), fun {X W sc kws ks} g hs h => (by cases kws <;> cases ks <;> cases h)⟩
    cases e' with
    | Compare x ops ys p =>
      match ops, ys, h with
      | [op], [y], h =>
        have h : (copB (if n then .notin else .inn) op && !behindInMarks op y && decide (((c, ("__contains__" : Str)), fn) ∈ T.mt) && chkE T X.N a sc x && chkE T X.N b sc y) = true := h
        obtain ⟨h, h5⟩ := and4 h
        obtain ⟨h, h4⟩ := and4 h
        obtain ⟨h, h3⟩ := and4 h
        obtain ⟨h1, h2⟩ := and4 h
        obtain ⟨cI, fa, fd, ps, q1, q2, q3⟩ := g.mts c "__contains__" fn (of_decide_eq_true h3)
        exact pt_cmpR (op_cno h1 q1 q2 g.room q3) (iha.e g hs h4) (ihb.e g hs h5) (by simpa using h2)
    | _ => cases h
  | kct z d =>
    refine ⟨fun {X W sc e'} g hs h => ?_, fun {X W sc es} g hs h => (by cases es <;> cases h), fun {X W sc pos ks vs} g hs h => (by cases ks <;> cases vs <;> cases h), fun {X W sc e} g hs h => (by cases h), fun {X W sc es} g hs h => (by cases es <;> cases h), fun {X W sc es} g hs h => (by cases es <;> cases h), fun {X W sc kws ks} g hs h => (by cases kws <;> cases ks <;> cases h)⟩
    match e', h with
    | .Name x p, h =>
      subst hs
      have h : (decide (z = x) && glB X.env.scope x && nameOk x && T.cs.contains x) = true := h
      obtain ⟨h, h4⟩ := and4 h
      obtain ⟨h, h3⟩ := and4 h
      obtain ⟨h1, h2⟩ := and4 h
      have e1 := of_decide_eq_true h1
      subst e1
      exact pe_glob (glB_ok h2) (g.css _ h4) rfl (nameOk1 h3).1
  | lct is sk sr a c e ihs iha ihc ihe =>
    refine ⟨fun {X W sc e'} g hs h => ?_, fun {X W sc es} g hs h => (by cases es <;> cases h), fun {X W sc pos ks vs} g hs h => (by cases ks <;> cases vs <;> cases h), fun {X W sc e} g hs h => (by cases h), fun {X W sc es} g hs h => (by cases es <;> cases h), fun {X W sc es} g hs h => (by cases es <;> cases h), fun {X W sc kws ks} g hs h => (by cases kws <;> cases ks <;> cases h)⟩
    cases e' with
    | ListComp el gs scope p =>
      match gs, h with
      | [⟨tg, it, ifs, 0⟩], h =>
        subst hs
        have h : (!isItm sk && srcB T X.N X.env.scope sk it tg && tgB is tg (fun i x => decide (X.N[i]? = some x) && locB scope x) && blkC X.N X.env.scope scope (ownT is tg) && (if isAny sk then chkE T X.N sr X.env.scope it else chkA T X.N a X.env.scope (srcEs it)) && chkI (isNil c) (chkT T X.N c (relS scope X.env.scope)) ifs && chkE T X.N e (relS scope X.env.scope) el) = true := h
        exact pe_lct g ihs iha ihc ihe h
    | _ => cases h
  | dgx d k ihd ihk =>
    refine ⟨fun {X W sc e'} g hs h => ?_, fun {X W sc es} g hs h => (by cases es <;> cases h), fun {X W sc pos ks vs} g hs h => (by cases ks <;> cases vs <;> cases h), fun {X W sc e} g hs h => (by cases h), fun {X W sc es} g hs h => (by cases es <;> cases h), fun {X W sc es} g hs h => (by cases es <;> cases h), fun {X W sc kws ks} g hs h => (by cases kws <;> cases ks <;> cases h)⟩
    match e', h with
    | .Subscript x y pos, h =>
      have h : (notSlice y && chkE T X.N d sc x && chkE T X.N k sc y) = true := h
      obtain ⟨h, h3⟩ := and4 h
      obtain ⟨h1, h2⟩ := and4 h
      exact pe_dget g.hu (ihd.e g hs h2) (ihk.e g hs h3) (noSl_plain h1)
  | dgt d k z ihd ihk ihz =>
    refine ⟨fun {X W sc e'} g hs h => ?_, fun {X W sc es} g hs h => (by cases es <;> cases h), fun {X W sc pos ks vs} g hs h => (by cases ks <;> cases vs <;> cases h), fun {X W sc e} g hs h => (by cases h), fun {X W sc es} g hs h => (by cases es <;> cases h), fun {X W sc es} g hs h => (by cases es <;> cases h), fun {X W sc kws ks} g hs h => (by cases kws <;> cases ks <;> cases h)⟩
    match e', h with
    | .Call (.Attribute x m apos) (e :: fs) [] pos, h =>
      have h : (decide (m = "get") && plainBase x && (apos.endLine == pos.line) && noStar e && chkE T X.N d sc x && chkE T X.N k sc e && chkL (isNil z) (chkE T X.N z sc) fs) = true := h
      obtain ⟨h, h7⟩ := and4 h
      obtain ⟨h, h6⟩ := and4 h
      obtain ⟨h, h5⟩ := and4 h
      obtain ⟨h, h4⟩ := and4 h
      obtain ⟨h, h3⟩ := and4 h
      obtain ⟨h1, h2⟩ := and4 h
      have e1 := of_decide_eq_true h1
      subst e1
      match fs, h7 with
      | _ :: _ :: _, h7 => cases h7
      | [], h7 =>
        have h7 : isNil z = true := h7
        show PE X _ (if isNil z = true then tDGet1 (tE X.K F W d) (tE X.K F W k) else tDGet2 (tE X.K F W d) (tE X.K F W k) (tE X.K F W z))
        rw [if_pos h7]
        exact pe_dget1 g.hu (ihd.e g hs h5) (ihk.e g hs h6) ⟨base_plain h2, few_ok h4 rfl (by show 1 < 30; decide), h3, trees1 h4⟩
      | [f], h7 =>
        have h7 : (!isNil z && noStar f && chkE T X.N z sc f) = true := h7
        obtain ⟨h7, h9⟩ := and4 h7
        obtain ⟨h7, h8⟩ := and4 h7
        show PE X _ (if isNil z = true then tDGet1 (tE X.K F W d) (tE X.K F W k) else tDGet2 (tE X.K F W d) (tE X.K F W k) (tE X.K F W z))
        rw [if_neg (by simpa using h7)]
        exact pe_dget2 g.hu (ihd.e g hs h5) (ihk.e g hs h6) (ihz.e g hs h9) ⟨base_plain h2, few_ok h4 (by rw [List.all_cons, h8]; rfl) (by show 2 < 30; decide), h3, trees2 h4 h8⟩
  | din n k d ihk ihd =>
    refine ⟨fun {X W sc e'} g hs h => ?_, fun {X W sc es} g hs h => (by cases es <;> cases h), fun {X W sc pos ks vs} g hs h => (by cases ks <;> cases vs <;> cases h), fun {X W sc e} g hs h => (by cases h), fun {X W sc es} g hs h => (by cases es <;> cases h), fun {X W sc es} g hs h => (by cases es <;> cases h), fun {X W sc kws ks} g hs h => (by cases kws <;> cases ks <;> cases h)⟩
    match e', h with
    | .Compare y [op] [x] p, h =>
      have h : (copB (if n then .notin else .inn) op && !behindInMarks op x && chkE T X.N k sc y && chkE T X.N d sc x) = true := h
      obtain ⟨h, h4⟩ := and4 h
      obtain ⟨h, h3⟩ := and4 h
      obtain ⟨h1, h2⟩ := and4 h
      exact pe_cmp (pc_din2 g.hu h1 (ihk.e g hs h3) (ihd.e g hs h4)) (by simpa using h2)
  | tdin n k d ihk ihd =>
    refine ⟨fun {X W sc e} g hs h => (by cases e <;> cases h), fun {X W sc es} g hs h => (by cases es <;> cases h), fun {X W sc pos ks vs} g hs h => (by cases ks <;> cases vs <;> cases h), fun {X W sc e'} g hs h => ?_, fun {X W sc es} g hs h => (by cases es <;> cases h), fun {X W sc es} g hs h => (by cases es <;> cases h), fun {X W sc kws ks} g hs h => (by cases kws <;> cases ks <;> cases h)⟩
    match e', h with
    | .Compare y [op] [x] p, h =>
      have h : (copB (if n then .notin else .inn) op && !behindInMarks op x && chkE T X.N k sc y && chkE T X.N d sc x) = true := h
      obtain ⟨h, h4⟩ := and4 h
      obtain ⟨h, h3⟩ := and4 h
      obtain ⟨h1, h2⟩ := and4 h
      exact pt_cmp (pc_din2 g.hu h1 (ihk.e g hs h3) (ihd.e g hs h4)) (by simpa using h2)
  | kdg z t k ihk =>
    refine ⟨fun {X W sc e'} g hs h => ?_, fun {X W sc es} g hs h => (by cases es <;> cases h), fun {X W sc pos ks vs} g hs h => (by cases ks <;> cases vs <;> cases h), fun {X W sc e} g hs h => (by cases h), fun {X W sc es} g hs h => (by cases es <;> cases h), fun {X W sc es} g hs h => (by cases es <;> cases h), fun {X W sc kws ks} g hs h => (by cases kws <;> cases ks <;> cases h)⟩
    match e', h with
    | .Subscript (.Name x p1) y p, h =>
      subst hs
      have h : (decide (z = x) && glB X.env.scope x && nameOk x && T.kd.contains x && notSlice y && chkE T X.N k X.env.scope y) = true := h
      obtain ⟨h, h6⟩ := and4 h
      obtain ⟨h, h5⟩ := and4 h
      obtain ⟨h, h4⟩ := and4 h
      obtain ⟨h, h3⟩ := and4 h
      obtain ⟨h1, h2⟩ := and4 h
      have e1 := of_decide_eq_true h1
      subst e1
      obtain ⟨m1, es, n, D⟩ := g.kds _ h4
      exact pe_ix (ix_kdg D) (pe_glob (glB_ok h2) m1 rfl (nameOk1 h3).1) (ihk.e g rfl h6) (ix_plain h5)
  | kdi b z t k ihk =>
    refine ⟨fun {X W sc e'} g hs h => ?_, fun {X W sc es} g hs h => (by cases es <;> cases h), fun {X W sc pos ks vs} g hs h => (by cases ks <;> cases vs <;> cases h), fun {X W sc e} g hs h => (by cases h), fun {X W sc es} g hs h => (by cases es <;> cases h), fun {X W sc es} g hs h => (by cases es <;> cases h), fun {X W sc kws ks} g hs h => (by cases kws <;> cases ks <;> cases h)⟩
    match e', h with
    | .Compare y [op] [.Name x p1] p, h =>
      subst hs
      have h : (copB (if b then .notin else .inn) op && !behindInMarks op (.Name x p1) && decide (z = x) && glB X.env.scope x && nameOk x && T.kd.contains x && chkE T X.N k X.env.scope y) = true := h
      obtain ⟨h, h7⟩ := and4 h
      obtain ⟨h, h6⟩ := and4 h
      obtain ⟨h, h5⟩ := and4 h
      obtain ⟨h, h4⟩ := and4 h
      obtain ⟨h, h3⟩ := and4 h
      obtain ⟨h1, h2⟩ := and4 h
      have e1 := of_decide_eq_true h3
      subst e1
      obtain ⟨m1, es, n, D⟩ := g.kds _ h6
      exact pe_cmpR (op_kdi D h1) (ihk.e g rfl h7) (pe_glob (glB_ok h4) m1 rfl (nameOk1 h5).1) (by simpa using h2)
end
end PF
namespace PF
open PySem L2 PySem.Spec PyProof.Rows
/-- whether a comprehension's value is stored from within its own frame -/
def swB (sc scope : Scope) (y : Str) (py pv : Pos) : Bool := (sc.names.lookup y == some .local) && (py.line == pv.line) && !(scope.names.any fun (n, k) => n == y && (k == .local || k == .cell))
theorem sw_eq {el : Expr} {gs : List Comprehension} {scope : Scope} {pv py : Pos} {y : Str} {l : Nat} {env : PySem.Env} (hk : env.scope.kind = .function) : swapsWith (.ListComp el gs scope pv) (some (.Name y py)) l env = pure (swB env.scope scope y py pv) := by
  have hb : env.blockKind = .function := by unfold Env.blockKind; rw [hk]; rfl
  unfold swapsWith swB
  simp only [hb, Expr.pos]
  rfl
def seqS : S → Bool
  | .frz _ => true
  | _ => false
def chkC (f : Stmt → Bool) (g : List Stmt → Bool) : List Stmt → Bool
  | [] => false
  | st :: r => f st && g r
def asUnp : Stmt → Option (List Expr × Expr)
  | .Assign [.Tuple ts _ _] v _ => some (ts, v)
  | _ => none
theorem asUnp_eq {st : Stmt} {ts : List Expr} {v : Expr} (h : asUnp st = some (ts, v)) : ∃ k px p, st = .Assign [.Tuple ts k px] v p := by
  unfold asUnp at h
  split at h
  · cases h; exact ⟨_, _, _, rfl⟩
  · cases h
def asSfl : Stmt → Option (Str × Str × Expr)
  | .Assign [.Attribute (.Name x _) f _] v _ => some (x, f, v)
  | _ => none
theorem asSfl_eq {st : Stmt} {x f : Str} {v : Expr} (h : asSfl st = some (x, f, v)) : ∃ p1 p2 p3, st = .Assign [.Attribute (.Name x p1) f p2] v p3 := by
  unfold asSfl at h
  split at h
  · cases h; exact ⟨_, _, _, rfl⟩
  · cases h
def asRse : Stmt → Option (Str × List Expr)
  | .Raise (some (.Call (.Name x _) es [] _)) none _ => some (x, es)
  | _ => none
theorem asRse_eq {st : Stmt} {x : Str} {es : List Expr} (h : asRse st = some (x, es)) : ∃ px pc p, st = .Raise (some (.Call (.Name x px) es [] pc)) none p := by
  unfold asRse at h
  split at h
  · cases h; exact ⟨_, _, _, rfl⟩
  · cases h
def asTry : Stmt → Option (List Stmt × List ExceptHandler)
  | .Try body (h :: hs) [] [] _ => some (body, h :: hs)
  | _ => none
theorem asTry_eq {st : Stmt} {body : List Stmt} {hs : List ExceptHandler} (h : asTry st = some (body, hs)) : ∃ h0 r p, hs = h0 :: r ∧ st = .Try body (h0 :: r) [] [] p := by
  unfold asTry at h
  split at h
  · cases h; exact ⟨_, _, _, rfl, rfl⟩
  · cases h
def asHd : ExceptHandler → Option (Str × Option Str × Expr)
  | .ExceptHandler (some (.Name x _)) n [.Return (some v) _] _ => some (x, n, v)
  | _ => none
theorem asHd_eq {h : ExceptHandler} {x : Str} {n : Option Str} {v : Expr} (e : asHd h = some (x, n, v)) : ∃ np rp p, h = .ExceptHandler (some (.Name x np)) n [.Return (some v) rp] p := by
  unfold asHd at e
  split at e
  · cases e; exact ⟨_, _, _, rfl⟩
  · cases e
def chkHn (N : List Str) (sc : Scope) : Option Nat → Option Str → Bool
  | none, none => true
  | some i, some n => decide (N[i]? = some n) && decide (sc.names.lookup n = some .local)
  | _, _ => false
def chkHds (T : Tb) (N : List Str) (sc : Scope) : List Hd → List ExceptHandler → Bool
  | [], [] => true
  | hd :: r, h :: hs => (match asHd h with
    | some (x, n, v) => decide (x = hd.c) && glB sc x && nameOk x && (T.ex.lookup hd.c).isSome && chkHn N sc hd.i n && chkH T N hd.i hd.c hd.h sc v
    | none => false) && chkHds T N sc r hs
  | _, _ => false
def asRetN : Stmt → Option Str
  | .Return (some (.Name x _)) _ => some x
  | _ => none
theorem asRetN_eq {st : Stmt} {x : Str} (h : asRetN st = some x) : ∃ p1 p, st = .Return (some (.Name x p1)) p := by
  unfold asRetN at h
  split at h
  · cases h; exact ⟨_, _, rfl⟩
  · cases h
def swOk : Expr → Bool
  | .Tuple vs _ _ => vs.all (foldedForSure 8)
  | _ => true
def chkG (N : List Str) (sc : Scope) : List Nat → List Expr → Bool
  | [], [] => true
  | i :: is, .Name x _ :: ts => decide (N[i]? = some x) && locB sc x && chkG N sc is ts
  | _, _ => false
def asPar : Stmt → Option (List Expr × List Expr × Pos)
  | .Assign [.Tuple ts _ _] (.Tuple vs _ _) p => some (ts, vs, p)
  | _ => none
theorem asPar_eq {st : Stmt} {ts vs : List Expr} {p : Pos} (h : asPar st = some (ts, vs, p)) : ∃ n px m pv, st = .Assign [.Tuple ts n px] (.Tuple vs m pv) p := by
  unfold asPar at h
  split at h
  · cases h; exact ⟨_, _, _, _, rfl⟩
  · cases h
/-- two or three names of one line, values not all constants -/
def parB (N : List Str) (sc : Scope) (is : List Nat) (ts vs : List Expr) : Bool :=
  (match is, ts with
  | [i, j], [.Name x px, .Name y py] => decide (N[i]? = some x) && decide (N[j]? = some y) && decide (i ≠ j) && decide (x ≠ y) && decide (sc.names.lookup x = some .local) && decide (sc.names.lookup y = some .local) && (py.line == px.line)
  | [i, j, l], [.Name x px, .Name y py, .Name z pz] => decide (N[i]? = some x) && decide (N[j]? = some y) && decide (N[l]? = some z) && decide (i ≠ j) && decide (i ≠ l) && decide (j ≠ l) && decide (x ≠ y) && decide (x ≠ z) && decide (y ≠ z) &&
      decide (sc.names.lookup x = some .local) && decide (sc.names.lookup y = some .local) && decide (sc.names.lookup z = some .local) && (py.line == px.line) && (pz.line == px.line)
  | _, _ => false) && decide (vs.length = ts.length) && vs.all noStar && !vs.all (foldedForSure 8) && !vs.all (constantsAlone 8)
theorem noStar_one {e : Expr} (h : noStar e = true) : (match e with | .Starred .. => true | _ => false) = false := by
  cases e <;> first | rfl | cases h
theorem noStar_any {vs : List Expr} (h : vs.all noStar = true) : (vs.any fun e => match e with | .Starred .. => true | _ => false) = false := by
  induction vs with
  | nil => rfl
  | cons v vs ih =>
    rw [List.all_cons, Bool.and_eq_true] at h
    rw [List.any_cons, ih h.2]
    cases v <;> first | rfl | cases h.1
mutual
def chkS (T : Tb) (N : List Str) (sc : Scope) : S → Stmt → Bool
  | .set i e, .Assign [.Name x px] v _ => decide (N[i]? = some x) && locB sc x && chkE T N e sc v
  | .own i e, .Assign [.Name x px] v _ => decide (N[i]? = some x) && locB sc x && chkE T N e sc v
  | .app i e, .Expr (.Call (.Attribute (.Name x _) a apos) [v] [] pos) _ => decide (N[i]? = some x) && visB sc x && nameOk x && decide (a = "append") && (apos.endLine == pos.line) && noStar v && chkE T N e sc v
  | .ext i e, .Expr (.Call (.Attribute (.Name x _) a apos) [v] [] pos) _ => decide (N[i]? = some x) && visB sc x && nameOk x && decide (a = "extend") && (apos.endLine == pos.line) && noStar v && chkE T N e sc v
  | .aug i o e, .AugAssign (.Name x _) op v _ => decide (N[i]? = some x) && locB sc x && chkE T N e sc v && (match o, op with | .add, .Add => true | .sub, .Sub => true | _, _ => false)
  | .put o k e, .Assign [.Subscript ob ix _] v _ => notSlice ix && notComp v && chkE T N o sc ob && chkE T N k sc ix && chkE T N e sc v
  | .dput i k e, .Assign [.Subscript (.Name x _) ix _] v _ => notSlice ix && notComp v && decide (N[i]? = some x) && visB sc x && nameOk x && chkE T N k sc ix && chkE T N e sc v
  | .for2 is k s a b, .For tg it body [] _ => srcB T N sc k it tg && tgB is tg (fun i x => decide (N[i]? = some x) && locB sc x) && (if isItm k then true else if isAny k then chkE T N s sc it else chkA T N a sc (srcEs it)) && chkSs T N sc b body
  | .exp e, .Expr v _ => notComp v && chkE T N e sc v
  | .ret e, .Return (some v) _ => chkE T N e sc v
  | .retf e, .Return (some v) _ => chkE T N e sc v
  | .retn, .Return none _ => true
  | .ite c a b, .If t x y _ => chkT T N c sc t && chkSs T N sc a x && chkSs T N sc b y
  | .for_ j src b, .For (.Name x _) it body [] _ => decide (N[j]? = some x) && locB sc x && notSet it && chkE T N src sc it && chkSs T N sc b body
  | .forr j a b, .For (.Name x _) (.Call (.Name r _) es [] _) body [] _ => decide (N[j]? = some x) && locB sc x && decide (r = "range") && glB sc r && T.bl.contains r && !es.isEmpty && chkA T N a sc es && chkSs T N sc b body
  | .whl c b, .While t body [] _ => chkT T N c sc t && chkSs T N sc b body
  | .sfl i _ f e, st => match asSfl st with
    | some (x, f', v) => decide (f = f') && decide (N[i]? = some x) && visB sc x && nameOk x && notComp v && chkE T N e sc v
    | none => false
  | .unp is e, st => match asUnp st with
    | some (ts, v) => chkG N sc is ts && (notComp v && swOk v) && chkE T N e sc v
    | none => false
  | .par is a, st => match asPar st with
    | some (ts, vs, ln) => parB N sc is ts vs && chkA T N a sc vs
    | none => false
  | .rse c fs a, st => match asRse st with
    | some (x, es) => decide (x = c) && glB sc x && nameOk x && decide (T.ex.lookup c = some fs) && !es.isEmpty && chkA T N a sc es
    | none => false
  | .reto i, st => match asRetN st with
    | some x => decide (N[i]? = some x) && visB sc x && nameOk x
    | none => false
  | .tryas b hs, st => match asTry st with
    | some (body, hds) => chkSs T N sc b body && chkHds T N sc hs hds
    | none => false
  | .brk, .Break _ => true
  | .cnt, .Continue _ => true
  | _, _ => false
def chkSs (T : Tb) (N : List Str) (sc : Scope) : S → List Stmt → Bool
  | .skip, [] => true
  | .seq a b, sts => if seqS a then chkSs T N sc b sts else chkC (chkS T N sc a) (chkSs T N sc b) sts
  | _, _ => false
end
structure GoodS (T : Tb) (F : FF) (k : Nat) (X : Cx) (W : WX) : Prop where
  g : Good T F k X W
  fn : ∀ x, X.fn x = true
  kind : X.env.scope.kind = .function
  po : PassesOwn (model X.prog X.w) X.A X.env X.xe
  room2 : Room 2 X.A
  stk : X.stack = X.env :: X.outer
  frm : X.env.frame = some X.env.locals
/-- the clauses are as told -/
inductive ClsOk (X : Cx) : List ExceptHandler → List Cl → Prop
  | nil : ClsOk X [] []
  | cons {x : Str} {n : Option Str} {c : Value} {i : Option Nat} {ts : Addr → Value → Option Addr → TS} {b₀ : Stmt} {suite : List Stmt} {np pos' : Pos} {hds : List ExceptHandler} {l : List Cl} (hc : Names X x c)
      (hn : (i = none ∧ n = none) ∨ ∃ j y, i = some j ∧ n = some y ∧ X.N[j]? = some y ∧ X.env.kindOf y = some .local)
      (hsu : ∀ (a : Addr) (oe : Obj) (cls : Value) (d : Option Addr) (pn : List (Addr × Obj)), Zc cls d oe → (∃ vs, oe.data = .fields vs) → PSs (X.suite a ((a, oe) :: pn)) (b₀ :: suite) (ts a cls d)) (r : ClsOk X hds l) :
      ClsOk X (.ExceptHandler (some (.Name x np)) n (b₀ :: suite) pos' :: hds) (⟨c, i, ts⟩ :: l)
/-- try with several clauses, each with a name or without -/
theorem ps_tryM {X : Cx} {body : List Stmt} {h₀ : ExceptHandler} {hds : List ExceptHandler} {l : List Cl} {pos : Pos} {tb : WX → TS} {Wout : WX} (hs : X.stack = X.env :: X.outer) (hf : X.env.frame = some X.env.locals) (hN : X.N.Nodup) (tk : Takes X Wout)
    (hb : ∀ (W : WX) (pn : List (Addr × Obj)) (xe : Value → Shared → Prop), Takes (X.tr pn xe) W → PassesOwn (model X.prog X.w) X.A X.env xe → PSs (X.tr pn xe) body (tb W))
    (hh : ClsOk X (h₀ :: hds) l) : PS X (.Try body (h₀ :: hds) [] [] pos) (fun D σ H => tb (wCl X.K Wout D l) D σ H) := by
  refine ⟨fun pins s σ H D I h => ?_⟩
  have ok := I.ok
  have hfr : X.A.frames = some (X.env :: X.outer) := by rw [ok.frames, hs]
  refine wpAny_Try_except ?_
  refine wpAny_mono ((hb (wCl X.K Wout D l) (X.pn ++ pins) (fun e s₁ => wpAny (model X.prog X.w) X.A (noteFrame e X.env) (fun _ s₂ => wpAny (model X.prog X.w) X.A (setFlight e none) (fun _ s₃ =>
    wpAny (model X.prog X.w) X.A (handleBy e X.env (h₀ :: hds)) (SP X pins D) X.xe s₃) X.xe s₂) X.xe s₁) (fun u s' xx => ?_) PassesOwn.looking).run [] s σ H D (I.toTry _) h) (fun f s1 hsp => ?_) (fun e s1 he => he)
  · obtain ⟨a, B, sI, pins', σ', H', cls, d, rfl, J', nb, up, sky, na, os, ag, w⟩ := xx
    have J : Inv X pins σ' H' sI := J'.ofTry ok
    have sky' : Sky B (X.env :: X.outer) a (Zc cls d) X.env.locals s'.heap := by rw [← hs]; exact sky
    show wpAny (model X.prog X.w) X.A (noteFrame (.ref a) X.env) _ _ _
    refine Sky.land Zc.steady hfr hf sky' fun h3 fl3 up3 => ?_
    have J3 : Inv X pins σ' H' { s' with heap := h3 } := J.landed nb fl3.1 (up.trans up3) os ag
    obtain ⟨oe3, vs3, he3, hz3, hd3⟩ := fl3.there
    have nfr : a ∉ frs (X.env :: X.outer) := fun hm => by
      obtain ⟨_, o', e', hnf⟩ := (fl3.2.2.1).mem hm
      rw [he3] at e'; cases e'
      exact hnf _ hd3
    have nL : a ≠ X.env.locals := fun z => nfr (List.mem_filterMap.mpr ⟨X.env, List.mem_cons_self, by rw [hf, z]⟩)
    have nF : a ∉ X.fs := fun hm => by
      obtain ⟨e, he, q⟩ := List.mem_filterMap.mp hm
      exact nfr (List.mem_filterMap.mpr ⟨e, List.mem_cons_of_mem _ he, q⟩)
    have S3 := J3.suite he3 hd3 na nL nF
    have LT : PySem.W.Looks (model X.prog X.w) h3 (typeOf (.ref a)) cls := fun A Q E s k q => wpAny_typeOf_ref (k _ _ he3) (by rw [hz3.1]; exact q)
    have go : ∀ {hds' : List ExceptHandler} {l' : List Cl}, ClsOk X hds' l' → wCl X.K Wout D l' cls d σ' H' →
        wpAny (model X.prog X.w) X.A (handleBy (.ref a) X.env hds') (SP X pins D) X.xe { s' with heap := h3 } := by
      intro hds' l' hk
      induction hk with
      | nil =>
        intro w
        refine wpAny_handleBy_nil ?_
        obtain ⟨k1, k2, k3, oe, vs, T, oT, ts', he, hz, hd, h1, hr⟩ := id fl3
        unfold PySem.passOn
        refine wpAny_bind (wpAny_field he hd h1 ?_)
        rw [if_neg (show ¬ ((Value.ref T == Value.none) = true) from by simp)]
        have fin : wpAny (model X.prog X.w) X.A (setFlight (.ref a) X.env.frame) (fun _ s4 => wpAny (model X.prog X.w) X.A (throw (.ref a) : Sem Flow) (SP X pins D) X.xe s4) X.xe { s' with heap := h3 } := by
          rw [hf]
          refine HandSPX.setFlight_upZ fl3 fun h4 hh4 up4 => wpAny_throw (tk _ _ ?_)
          exact ⟨a, B, sI, pins, σ', H', cls, d, rfl, J, nb, (up.trans up3).trans up4, .inr (.inr (by rw [hs]; exact hh4)), na, os, ag, w⟩
        first
          | exact wpAny_bind (wpAny_pure (wpAny_bind fin))
          | exact wpAny_bind fin
      | @cons x n c i ts b₀ suite np pos' hds2 l2 hc hn hsu r ih =>
        intro w
        obtain ⟨b, hb1, hyes, hno⟩ := w
        refine wpAny_handleBy_cons (codeAny_handlers_test ?_) (by intro q; cases q)
        have LM := PySem.W.exm_one (M := model X.prog X.w) (J3.kIn) LT hb1
        have test : ∀ {Q : Value → Shared → Prop} {E : Value → Shared → Prop}, Q c { s' with heap := h3 } → wpAny (model X.prog X.w) (X.A.mark (some (.ref a))) (eval (.Name x np) X.env) Q E { s' with heap := h3 } := fun {Q E} q => by
          obtain ⟨hg, hdbg, hm | ⟨hm, hv, hnn⟩⟩ := hc
          · exact ld_glob (X := X.suite a ((a, oe3) :: (X.pn ++ pins))) S3 hg hm q hdbg
          · exact ld_blt (X := X.suite a ((a, oe3) :: (X.pn ++ pins))) S3 hg hm hv q hnn hdbg
        refine test (LM.here ?_)
        cases b with
        | false =>
          show wpAny _ X.A (handleBy (.ref a) X.env hds2) _ _ _
          exact ih (hno rfl)
        | true =>
          rcases hn with ⟨rfl, rfl⟩ | ⟨j, y, rfl, rfl, hy, hln⟩
          · refine codeAny_handlers_suite ?_
            refine HandSPX.lands_againZ fl3 fun h4 fl4 up4 => ?_
            have J4 : Inv X pins σ' H' { s' with heap := h4 } := J.landed nb fl4.1 ((up.trans up3).trans up4) os ag
            obtain ⟨oe4, vs4, he4, hz4, hd4⟩ := fl4.there
            have S4 := J4.suite he4 hd4 na nL nF
            refine wpAny_mono ((hsu a oe4 cls d (X.pn ++ pins) hz4 ⟨_, hd4⟩).run [] _ _ H' _ S4 (hyes rfl a na)) (fun f s6 hsp => ?_) (fun _ _ z => False.elim z)
            cases f with
            | ret u =>
              obtain ⟨v6, σ6, H6, S6, r6, q6⟩ := hsp
              exact ⟨_, _, _, S6.unsuite ok, r6, q6⟩
            | _ =>
              obtain ⟨σ6, H6, S6, q6⟩ := hsp
              exact ⟨_, _, S6.unsuite ok, q6⟩
          · refine codeAny_handlers_suite_as ?_
            refine HandSPX.lands_againZ fl3 fun h4 fl4 up4 => ?_
            have J4 : Inv X pins σ' H' { s' with heap := h4 } := J.landed nb fl4.1 ((up.trans up3).trans up4) os ag
            obtain ⟨oe4, vs4, he4, hz4, hd4⟩ := fl4.there
            have S4 := J4.suite he4 hd4 na nL nF
            refine store_ok (X := X.suite a ((a, oe4) :: (X.pn ++ pins))) (v := .ref a) S4 hN hy (.inl hln) rfl (fun s5 S5 => ?_) (.inr hln)
            refine wpAny_mono ((hsu a oe4 cls d (X.pn ++ pins) hz4 ⟨_, hd4⟩).run [] s5 _ H' _ S5 (hyes rfl a na)) (fun f s6 hsp => ?_) (fun _ _ z => False.elim z)
            have end_ : ∀ {σ6 : L2.St} {H6 : Hp} {Q : Shared → Prop}, Inv (X.suite a ((a, oe4) :: (X.pn ++ pins))) [] σ6 H6 s6 → (∀ s7, Inv X pins (σ6.set j none) H6 s7 → Q s7) →
                wpAny (model X.prog X.w) X.A (do bindName X.env y .none; unbindBehindTheSuite X.env y pos') (fun _ s7 => Q s7) X.xe s6 := fun {σ6 H6 Q} S6 hq => gone_ok (S6.unsuite ok) hN hy hln hq
            cases f with
            | ret u =>
              obtain ⟨v6, σ6, H6, S6, r6, q6⟩ := hsp
              exact end_ S6 fun s7 J7 => ⟨_, _, _, J7, r6, q6⟩
            | _ =>
              obtain ⟨σ6, H6, S6, q6⟩ := hsp
              exact end_ S6 fun s7 J7 => ⟨_, _, J7, q6⟩
    exact go hh w
  · cases f with
    | next =>
      obtain ⟨σ', H', J', q⟩ := hsp
      exact wpAny_execs_nil ⟨σ', H', J'.ofTry ok, q⟩
    | ret u =>
      obtain ⟨v, σ', H', J', r, q⟩ := hsp
      exact ⟨v, σ', H', J'.ofTry ok, r, q⟩
    | _ =>
      obtain ⟨σ', H', J', q⟩ := hsp
      exact ⟨σ', H', J'.ofTry ok, q⟩
theorem assign_sub {o i : Expr} {pos : Pos} {env : PySem.Env} (h : notSlice i = true) : ∀ v, assign (.Subscript o i pos) env v = (do
      let ov ← holding [v] (eval o env)
      let iv ← holding [v, ov] (eval i env)
      standAt pos
      holding [v, ov, iv] (setItem ov iv v)
      release [v, ov, iv] []) := by
  intro v
  cases i <;> first | rfl | cases h
section
variable {T : Tb} {F : FF} {k : Nat}
/-- name = e -/
theorem ps_setAny {X : Cx} {W : WX} {i : Nat} {ce : E} {x : Str} {px : Pos} {v : Expr} {pos : Pos} (g : GoodS T F k X W) (hi : X.N[i]? = some x) (hx : L2.Loc X.env.scope x) (h : chkE T X.N ce X.env.scope v = true) : PS X (.Assign [.Name x px] v pos) (tAsg (tE X.K F W ce) (gName i)) := by
  have he : PE X v (tE X.K F W ce) := (pall ce).e g.g rfl h
  by_cases hc : notComp v = true
  · exact ps_set g.g.nd hi hx he (swaps_plain hc) (.inl (g.fn x))
  · cases v with
    | ListComp el gs scope pv =>
      cases hb : swB X.env.scope scope x px pv with
      | false => exact ps_set g.g.nd hi hx he (by rw [sw_eq g.kind, hb]) (.inl (g.fn x))
      | true =>
        have hl : X.env.scope.names.lookup x = some .local := by
          unfold swB at hb
          simp only [Bool.and_eq_true, beq_iff_eq] at hb
          exact hb.1.1
        cases ce with
        | lc j src c e =>
          match gs, h with
          | [⟨.Name y py, it, ifs, 0⟩], h =>
            have h : (notSet it && blkC X.N X.env.scope scope [(y, j)] && locB scope y && chkE T X.N src X.env.scope it && chkI (isNil c) (chkT T X.N c (relS scope X.env.scope)) ifs && chkE T X.N e (relS scope X.env.scope) el) = true := h
            obtain ⟨h, h6⟩ := and4 h
            obtain ⟨h, h5⟩ := and4 h
            obtain ⟨h, h4⟩ := and4 h
            obtain ⟨h, h3⟩ := and4 h
            obtain ⟨h1, h2⟩ := and4 h
            obtain ⟨p1, p2, p3⟩ := lc_parts (py := py) g.g (pall c) (pall e) h2 h3 h5 h6
            exact ps_setLc (own := [(y, j)]) g.g.calm g.g.nd hi hl (by rw [sw_eq g.kind, hb]) (PI.any ((pall src).e g.g rfl h4)) (blkOk_by h2) p1 p2 p3 (set_plain h1)
        | lc2 j src j1 src1 c e =>
          match gs, h with
          | [⟨.Name y py, it, [], 0⟩, ⟨.Name y1 py1, it1, ifs, 0⟩], h =>
            have h : (notSet it && notSet it1 && blkC X.N X.env.scope scope [(y, j), (y1, j1)] && locB scope y && locB scope y1 && chkE T X.N src X.env.scope it && chkE T X.N src1 (relS scope X.env.scope) it1 && chkI (isNil c) (chkT T X.N c (relS scope X.env.scope)) ifs && chkE T X.N e (relS scope X.env.scope) el) = true := h
            obtain ⟨h, h9⟩ := and4 h
            obtain ⟨h, h8⟩ := and4 h
            obtain ⟨h, h7⟩ := and4 h
            obtain ⟨h, h6⟩ := and4 h
            obtain ⟨h, h5⟩ := and4 h
            obtain ⟨h, h4⟩ := and4 h
            obtain ⟨h, h3⟩ := and4 h
            obtain ⟨h1, h2⟩ := and4 h
            obtain ⟨p1, _, _⟩ := lc_partsG (py := py) (c := c) (e := e) g.g (pall c) (pall e) h3 (List.mem_cons_self) h4 h8 h9
            obtain ⟨q1, q2, q3⟩ := lc_partsG (py := py1) (c := c) (e := e) g.g (pall c) (pall e) h3 (List.mem_cons_of_mem _ List.mem_cons_self) h5 h8 h9
            exact ps_setLc2 (own := [(y, j), (y1, j1)]) (vs1 := [j1]) g.g.calm g.g.nd hi hl (by rw [sw_eq g.kind, hb]) (PI.any ((pall src).e g.g rfl h6)) (blkOk_by h3) (fun i hi => by rw [List.mem_singleton.mp hi]; exact List.mem_cons_of_mem _ List.mem_cons_self) p1 (fun _ _ _ _ _ => pts_nil) (lc_src g.g (pall src1) h7) q1 q2 q3 (set_plain h1) (fun env x => set_plain h2 x)
        | lct is sk sr a c e =>
          match gs, h with
          | [⟨tg, it, ifs, 0⟩], h =>
            have h : (!isItm sk && srcB T X.N X.env.scope sk it tg && tgB is tg (fun i x => decide (X.N[i]? = some x) && locB scope x) && blkC X.N X.env.scope scope (ownT is tg) && (if isAny sk then chkE T X.N sr X.env.scope it else chkA T X.N a X.env.scope (srcEs it)) && chkI (isNil c) (chkT T X.N c (relS scope X.env.scope)) ifs && chkE T X.N e (relS scope X.env.scope) el) = true := h
            obtain ⟨h, h7⟩ := and4 h
            obtain ⟨h, h6⟩ := and4 h
            obtain ⟨h, h5⟩ := and4 h
            obtain ⟨h, h4⟩ := and4 h
            obtain ⟨h, h3⟩ := and4 h
            obtain ⟨h1, h2⟩ := and4 h
            obtain ⟨p1, p2, p3⟩ := lct_parts g.g (pall c) (pall e) h4 h3 h6 h7
            obtain ⟨q1, q2⟩ := pi_src (te := tE X.K F W sr) (ta := tA X.K F W a) g.g h2 (fun e => by subst e; exact (pall sr).e g.g rfl h5) (fun e _ => by
              rw [if_neg (by cases sk <;> first | exact absurd rfl e | exact Bool.false_ne_true)] at h5
              exact (pall a).a g.g rfl h5)
            have q := ps_setLc (spos := pos) (own := ownT is tg) g.g.calm g.g.nd hi hl (by rw [sw_eq g.kind, hb]) q1 (blkOk_by h4) p1 p2 p3 q2
            rw [ownT_map h3] at q
            have e1 : tE X.K F W (.lct is sk sr a c e) = tLc (iSrc X.K sk (tE X.K F W sr) (tA X.K F W a)) (gTgt X.K is) (if isNil c then tYes else tT X.K F W0 c) (tE X.K F W0 e) is := by
              cases sk <;> first | rfl | cases h1
            rw [e1]
            exact q
        | lcr j a c e =>
          match gs, h with
          | [⟨.Name y py, .Call (.Name r pr) (z :: es) [] pc, ifs, 0⟩], h =>
            have h : (decide (r = "range") && glB X.env.scope r && T.bl.contains r && true && blkC X.N X.env.scope scope [(y, j)] && locB scope y && chkA T X.N a X.env.scope (z :: es) && chkI (isNil c) (chkT T X.N c (relS scope X.env.scope)) ifs && chkE T X.N e (relS scope X.env.scope) el) = true := h
            obtain ⟨h, h9⟩ := and4 h
            obtain ⟨h, h8⟩ := and4 h
            obtain ⟨h, h7⟩ := and4 h
            obtain ⟨h, h6⟩ := and4 h
            obtain ⟨h, h5⟩ := and4 h
            obtain ⟨h, _⟩ := and4 h
            obtain ⟨h, h3⟩ := and4 h
            obtain ⟨h1, h2⟩ := and4 h
            have e1 := of_decide_eq_true h1
            subst e1
            obtain ⟨p1, p2, p3⟩ := lc_parts (py := py) g.g (pall c) (pall e) h5 h6 h8 h9
            have ns := args_star h7
            rw [List.all_cons, Bool.and_eq_true] at ns
            exact ps_setLc (own := [(y, j)]) g.g.calm g.g.nd hi hl (by rw [sw_eq g.kind, hb]) (PI.rng (glB_ok h2) (g.g.bls _ h3) ((pall a).a g.g rfl h7) ns.1 ns.2) (blkOk_by h5) p1 p2 p3 (set_plain rfl)
          | [⟨.Name y py, .Call (.Name r pr) [] [] pc, ifs, 0⟩], h =>
            have h : (decide (r = "range") && glB X.env.scope r && T.bl.contains r && false && blkC X.N X.env.scope scope [(y, j)] && locB scope y && chkA T X.N a X.env.scope [] && chkI (isNil c) (chkT T X.N c (relS scope X.env.scope)) ifs && chkE T X.N e (relS scope X.env.scope) el) = true := h
            simp at h
        | _ => cases h
    | SetComp _ _ _ _ => cases ce <;> cases h
    | DictComp _ _ _ _ _ => cases ce <;> cases h
    | _ => exact absurd rfl hc
theorem GoodS.tr {X : Cx} {W W' : WX} (g : GoodS T F k X W) (pn : List (Addr × Obj)) (xe : Value → Shared → Prop) (tk : Takes (X.tr pn xe) W') (po : PassesOwn (model X.prog X.w) X.A X.env xe) : GoodS T F k (X.tr pn xe) W' :=
  ⟨⟨g.g.calm, g.g.nd, g.g.room, tk, g.g.fns, g.g.gcs, g.g.bls, g.g.exs, g.g.mts, g.g.prs, g.g.inis, g.g.room1, g.g.css, g.g.kds, g.g.fnsf, g.g.mtfs, g.g.mkxs, g.g.room3, g.g.nobool, g.g.fnis, g.g.sms⟩, g.fn, g.kind, po, g.room2, g.stk, g.frm⟩
theorem gs_names {X : Cx} {W : WX} (g : GoodS T F k X W) : ∀ {is : List Nat} {ts : List Expr}, chkG X.N X.env.scope is ts = true → PGs X ts (gNames is) ∧ (assignEach ts X.env).length = is.length ∧ List.findIdx? (fun x => x.1) (assignEach ts X.env) = none
  | [], [], _ => ⟨pgs_nil, rfl, rfl⟩
  | i :: is, .Name x p :: ts, h => by
    obtain ⟨h, h3⟩ := and4 h
    obtain ⟨h1, h2⟩ := and4 h
    obtain ⟨q1, q2, q3⟩ := gs_names g h3
    have e : assignEach (.Name x p :: ts) X.env = (false, assign (.Name x p) X.env) :: assignEach ts X.env := by simp only [assignEach]
    refine ⟨pgs_cons (pg_name g.g.nd (of_decide_eq_true h1) (locB_ok h2) (.inl (g.fn x))) q1 (by rw [e]; rfl), by rw [e, List.length_cons, List.length_cons, q2], ?_⟩
    rw [e, List.findIdx?_cons, if_neg Bool.false_ne_true, q3]
    rfl
theorem op_isH {X : Cx} {o : COp} {op : CmpOp} (h1 : isOp o = true) (h2 : copB o op = true) : OpR X (compareOp op) (rCmp X.K o) := by
  cases o with
  | is =>
    cases op with
    | Is => exact OpR.or op_isN op_isBl
    | _ => exact absurd h2 Bool.false_ne_true
  | isnot =>
    cases op with
    | IsNot => exact OpR.or op_notN op_notBl
    | _ => exact absurd h2 Bool.false_ne_true
  | _ => exact absurd h1 Bool.false_ne_true
/-- a, b = e where the stores are in order -/
theorem swSt_none {ts : List Expr} {k : Nat} {p : Pos} {v : Expr} {env : PySem.Env} (h : swOk v = true) : swappedStores [.Tuple ts k p] v env = pure none := by
  cases v with
  | Tuple vs k' p' =>
    have h : vs.all (foldedForSure 8) = true := h
    unfold swappedStores
    dsimp only
    split
    · rfl
    · split
      · rfl
      · split
        · rfl
        · first | rfl | rw [if_pos h]
  | _ => rfl
/-- an except suite's expression -/
structure PHl (T : Tb) (F : FF) (k : Nat) (i : Option Nat) (c0 : Str) (h : E) : Prop where
  e : ∀ {X : Cx} {W : WX} {a : Addr} {oe : Obj} {cls : Value} {d : Option Addr} {pn : List (Addr × Obj)} {v : Expr}, Good T F k X W → Zc cls d oe → (∃ vs, oe.data = .fields vs) → chkH T X.N i c0 h X.env.scope v = true → PE (X.suite a ((a, oe) :: pn)) v (tH X.K ⟨a, cls, d⟩ h)
  a : ∀ {X : Cx} {W : WX} {a : Addr} {oe : Obj} {cls : Value} {d : Option Addr} {pn : List (Addr × Obj)} {vs : List Expr}, Good T F k X W → Zc cls d oe → (∃ vs, oe.data = .fields vs) → chkHs T X.N i c0 h X.env.scope vs = true → PA (X.suite a ((a, oe) :: pn)) vs (tHs X.K ⟨a, cls, d⟩ h)
theorem phl {i : Option Nat} {c0 : Str} : ∀ h : E, PHl T F k i c0 h := by
  intro h
  induction h with
  | var j =>
    refine ⟨fun {X W a oe cls d pn v} g hz hf h => ?_, fun {X W a oe cls d pn vs} g hz hf h => (by cases vs <;> cases h)⟩
    cases v with
    | Name x p =>
      obtain ⟨h, h3⟩ := and4 h
      obtain ⟨h1, h2⟩ := and4 h
      obtain ⟨n1, n2, n3⟩ := nameOk1 h3
      exact pe_var (of_decide_eq_true h1) (visB_ok h2) n1 n2
    | _ => cases h
  | cst d =>
    refine ⟨fun {X W a oe cls d pn v} g hz hf h => ?_, fun {X W a oe cls d pn vs} g hz hf h => (by cases vs <;> cases h)⟩
    cases v with
    | Constant c k p => exact const_ok h
    | _ => cases h
  | exf c f j =>
    refine ⟨fun {X W a oe cls d pn v} g hz hf h => ?_, fun {X W a oe cls d pn vs} g hz hf h => (by cases vs <;> cases h)⟩
    match v, h with
    | .Attribute (.Name x p) f' p', h =>
      have h : (decide (i = some j) && true && decide (f = f') && decide (X.N[j]? = some x) && visB X.env.scope x && nameOk x && (match T.ex.lookup c with | some fs => fs.contains f | none => false)) = true := h
      obtain ⟨h, h7⟩ := and4 h
      obtain ⟨h, h6⟩ := and4 h
      obtain ⟨h, h5⟩ := and4 h
      obtain ⟨h, h4⟩ := and4 h
      obtain ⟨h, h3⟩ := and4 h
      obtain ⟨h1, h2⟩ := and4 h
      obtain ⟨n1, n2, n3⟩ := nameOk1 h6
      have e3 := of_decide_eq_true h3
      subst e3
      cases hl : T.ex.lookup c with
      | none => rw [hl] at h7; cases h7
      | some fs =>
        rw [hl] at h7
        have hm : f ∈ fs := List.contains_iff_mem.mp h7
        have xf := g.exs c fs hl
        exact pe_xf xf.xf (xf.no f hm) hz hf (pe_var (of_decide_eq_true h4) (visB_ok h5) n1 n2) (base_plain rfl)
  | cmp o a b iha ihb =>
    refine ⟨fun {X W ad oe cls d pn v} g hz hf h => ?_, fun {X W a oe cls d pn vs} g hz hf h => (by cases vs <;> cases h)⟩
    cases v with
    | Compare x ops ys p =>
      match ops, ys, h with
      | [op], [y], h =>
        have h : (isOp o && copB o op && !behindInMarks op y && chkH T X.N i c0 a X.env.scope x && chkH T X.N i c0 b X.env.scope y) = true := h
        obtain ⟨h, h5⟩ := and4 h
        obtain ⟨h, h4⟩ := and4 h
        obtain ⟨h, h3⟩ := and4 h
        obtain ⟨h1, h2⟩ := and4 h
        have hop : OpR (X.suite ad ((ad, oe) :: pn)) (compareOp op) (rCmp X.K o) := op_isH h1 h2
        exact pe_cmpR hop (iha.e g hz hf h4) (ihb.e g hz hf h5) (by simpa using h3)
    | _ => cases h
  | tup a iha =>
    refine ⟨fun {X W a oe cls d pn v} g hz hf h => ?_, fun {X W a oe cls d pn vs} g hz hf h => (by cases vs <;> cases h)⟩
    cases v with
    | Tuple es k p => exact pe_tup (iha.a g hz hf h)
    | _ => cases h
  | lst a iha =>
    refine ⟨fun {X W a oe cls d pn v} g hz hf h => ?_, fun {X W a oe cls d pn vs} g hz hf h => (by cases vs <;> cases h)⟩
    cases v with
    | List es p => exact pe_lst (iha.a g hz hf h)
    | _ => cases h
  | nil =>
    refine ⟨fun {X W a oe cls d pn v} g hz hf h => (by cases v <;> cases h), fun {X W a oe cls d pn vs} g hz hf h => ?_⟩
    cases vs with
    | nil => exact pa_nil
    | cons _ _ => cases h
  | cons a b iha ihb =>
    refine ⟨fun {X W a oe cls d pn v} g hz hf h => (by cases v <;> cases h), fun {X W ad oe cls d pn vs} g hz hf h => ?_⟩
    cases vs with
    | nil => cases h
    | cons x xs =>
      have h : (noStar x && chkH T X.N i c0 a X.env.scope x && chkHs T X.N i c0 b X.env.scope xs) = true := h
      obtain ⟨h, h3⟩ := and4 h
      obtain ⟨h1, h2⟩ := and4 h
      exact pa_cons (iha.e g hz hf h2) (ihb.a g hz hf h3) (starEach_cons h1)
  | _ => exact ⟨fun {X W a oe cls d pn v} g hz hf h => (by cases v <;> cases h), fun {X W a oe cls d pn vs} g hz hf h => (by cases vs <;> cases h)⟩
structure PSAll (T : Tb) (F : FF) (k : Nat) (cs : S) : Prop where
  one : ∀ {X : Cx} {W : WX} {st : Stmt}, GoodS T F k X W → chkS T X.N X.env.scope cs st = true → PS X st (tS X.K F W cs)
  all : ∀ {X : Cx} {W : WX} {sts : List Stmt}, GoodS T F k X W → chkSs T X.N X.env.scope cs sts = true → PSs X sts (tS X.K F W cs)
theorem hds_ok {X : Cx} {W : WX} (g : GoodS T F k X W) : ∀ {hs : List Hd} {hds : List ExceptHandler}, chkHds T X.N X.env.scope hs hds = true → ClsOk X hds (hs.map (Hd.cl X.K))
  | [], [], _ => .nil
  | [], _ :: _, h => by cases h
  | _ :: _, [], h => by cases h
  | hd :: r, h0 :: hs, h' => by
    have h' : ((match asHd h0 with
      | some (x, n, v) => decide (x = hd.c) && glB X.env.scope x && nameOk x && (T.ex.lookup hd.c).isSome && chkHn X.N X.env.scope hd.i n && chkH T X.N hd.i hd.c hd.h X.env.scope v
      | none => false) && chkHds T X.N X.env.scope r hs) = true := h'
    obtain ⟨h'', hr⟩ := and4 h'
    cases ha : asHd h0 with
    | none => rw [ha] at h''; cases h''
    | some q =>
      obtain ⟨x, n, v⟩ := q
      rw [ha] at h''
      have h : (decide (x = hd.c) && glB X.env.scope x && nameOk x && (T.ex.lookup hd.c).isSome && chkHn X.N X.env.scope hd.i n && chkH T X.N hd.i hd.c hd.h X.env.scope v) = true := h''
      obtain ⟨np, rp, p, rfl⟩ := asHd_eq ha
      obtain ⟨h, h6⟩ := and4 h
      obtain ⟨h, h5⟩ := and4 h
      obtain ⟨h, h4⟩ := and4 h
      obtain ⟨h, h3⟩ := and4 h
      obtain ⟨h1, h2⟩ := and4 h
      obtain ⟨cs, c, i, hh⟩ := hd
      have e1 : x = c := of_decide_eq_true h1
      subst e1
      obtain ⟨fs, hfs⟩ := Option.isSome_iff_exists.mp h4
      have xf := g.g.exs x fs hfs
      refine .cons ⟨glB_ok h2, (nameOk1 h3).1, .inl xf.mgc⟩ ?_ (fun a oe cls d pn hz hf => pss_cons (ps_ret ((phl hh).e g.g hz hf h6)) pss_nil) (hds_ok g hr)
      have h5 : chkHn X.N X.env.scope i n = true := h5
      cases i with
      | none =>
        cases n with
        | none => exact .inl ⟨rfl, rfl⟩
        | some y => cases h5
      | some j =>
        cases n with
        | none => cases h5
        | some y =>
          obtain ⟨h7, h8⟩ := and4 h5
          exact .inr ⟨j, y, rfl, rfl, of_decide_eq_true h7, of_decide_eq_true h8⟩
theorem psall : ∀ cs : S, PSAll T F k cs := by
  intro cs
  induction cs with
  | skip =>
    refine ⟨fun {X W st} g h => (by cases st <;> cases h), fun {X W sts} g h => ?_⟩
    cases sts with
    | nil => exact pss_nil
    | cons _ _ => cases h
  | seq a b iha ihb =>
    refine ⟨fun {X W st} g h => (by cases st <;> cases h), fun {X W sts} g h => ?_⟩
    have h : (if seqS a then chkSs T X.N X.env.scope b sts else chkC (chkS T X.N X.env.scope a) (chkSs T X.N X.env.scope b) sts) = true := h
    by_cases hf : seqS a = true
    · rw [if_pos hf] at h
      cases a with
      | frz i => exact ihb.all g h
      | _ => cases hf
    · rw [if_neg hf] at h
      cases sts with
      | nil => cases h
      | cons st r =>
        obtain ⟨h1, h2⟩ := and4 h
        exact pss_cons (iha.one g h1) (ihb.all g h2)
  | frz i => exact ⟨fun {X W st} g h => (by cases st <;> cases h), fun {X W sts} g h => (by cases sts <;> cases h)⟩
  | set i e =>
    refine ⟨fun {X W st} g h => ?_, fun {X W sts} g h => (by cases sts <;> cases h)⟩
    cases st with
    | Assign ts v p =>
      match ts, h with
      | [.Name x px], h =>
        obtain ⟨h, h3⟩ := and4 h
        obtain ⟨h1, h2⟩ := and4 h
        exact ps_setAny g (of_decide_eq_true h1) (locB_ok h2) h3
    | _ => cases h
  | own i e =>
    refine ⟨fun {X W st} g h => ?_, fun {X W sts} g h => (by cases sts <;> cases h)⟩
    cases st with
    | Assign ts v p =>
      match ts, h with
      | [.Name x px], h =>
        obtain ⟨h, h3⟩ := and4 h
        obtain ⟨h1, h2⟩ := and4 h
        exact ps_setAny g (of_decide_eq_true h1) (locB_ok h2) h3
    | _ => cases h
  | app i e =>
    refine ⟨fun {X W st} g h => ?_, fun {X W sts} g h => (by cases sts <;> cases h)⟩
    cases st with
    | Expr v p =>
      match v, h with
      | .Call (.Attribute (.Name x q) a apos) [v] [] pos, h =>
        have h : (decide (X.N[i]? = some x) && visB X.env.scope x && nameOk x && decide (a = "append") && (apos.endLine == pos.line) && noStar v && chkE T X.N e X.env.scope v) = true := h
        obtain ⟨h, h7⟩ := and4 h
        obtain ⟨h, h6⟩ := and4 h
        obtain ⟨h, h5⟩ := and4 h
        obtain ⟨h, h4⟩ := and4 h
        obtain ⟨h, h3⟩ := and4 h
        obtain ⟨h1, h2⟩ := and4 h
        have e1 := of_decide_eq_true h4
        subst e1
        exact ps_expr (pe_bm PySem.F.plainAttrs_list PySem.F.slot_list_append PySem.F.type_list_append mt_append (pe_var (of_decide_eq_true h1) (visB_ok h2) (nameOk1 h3).1 (nameOk1 h3).2.1) (pa_cons ((pall e).e g.g rfl h7) pa_nil (starEach_cons h6)) (base_plain rfl) (few_ok h6 rfl (show 1 < 30 by decide)) h5 (starEach_cons h6) rfl)
    | _ => cases h
  | ext i e =>
    refine ⟨fun {X W st} g h => ?_, fun {X W sts} g h => (by cases sts <;> cases h)⟩
    cases st with
    | Expr v p =>
      match v, h with
      | .Call (.Attribute (.Name x q) a apos) [v] [] pos, h =>
        have h : (decide (X.N[i]? = some x) && visB X.env.scope x && nameOk x && decide (a = "extend") && (apos.endLine == pos.line) && noStar v && chkE T X.N e X.env.scope v) = true := h
        obtain ⟨h, h7⟩ := and4 h
        obtain ⟨h, h6⟩ := and4 h
        obtain ⟨h, h5⟩ := and4 h
        obtain ⟨h, h4⟩ := and4 h
        obtain ⟨h, h3⟩ := and4 h
        obtain ⟨h1, h2⟩ := and4 h
        have e1 := of_decide_eq_true h4
        subst e1
        exact ps_expr (pe_bm PySem.F.plainAttrs_list PySem.F.slot_list_extend PySem.F.type_list_extend mt_extend (pe_var (of_decide_eq_true h1) (visB_ok h2) (nameOk1 h3).1 (nameOk1 h3).2.1) (pa_cons ((pall e).e g.g rfl h7) pa_nil (starEach_cons h6)) (base_plain rfl) (few_ok h6 rfl (show 1 < 30 by decide)) h5 (starEach_cons h6) rfl)
    | _ => cases h
  | aug i o e =>
    refine ⟨fun {X W st} g h => ?_, fun {X W sts} g h => (by cases sts <;> cases h)⟩
    cases st with
    | AugAssign t op v p =>
      match t, h with
      | .Name x px, h =>
        obtain ⟨h, h4⟩ := and4 h
        obtain ⟨h, h3⟩ := and4 h
        obtain ⟨h1, h2⟩ := and4 h
        have he : PE X v (tE X.K F W e) := (pall e).e g.g rfl h3
        cases o <;> cases op <;> first | cases h4 | skip
        · exact ps_aug g.g.nd (of_decide_eq_true h1) (locB_ok h2) he ip_add (.inl (g.fn x))
        · exact ps_aug g.g.nd (of_decide_eq_true h1) (locB_ok h2) he ip_sub (.inl (g.fn x))
    | _ => cases h
  | dput i k' e =>
    refine ⟨fun {X W st} g h => ?_, fun {X W sts} g h => (by cases sts <;> cases h)⟩
    match st, h with
    | .Assign [.Subscript (.Name x px) ix ps] v p, h =>
      have h : (notSlice ix && notComp v && decide (X.N[i]? = some x) && visB X.env.scope x && nameOk x && chkE T X.N k' X.env.scope ix && chkE T X.N e X.env.scope v) = true := h
      obtain ⟨h, h7⟩ := and4 h
      obtain ⟨h, h6⟩ := and4 h
      obtain ⟨h, h5⟩ := and4 h
      obtain ⟨h, h4⟩ := and4 h
      obtain ⟨h, h3⟩ := and4 h
      obtain ⟨h1, h2⟩ := and4 h
      exact ps_dput g.g.hu (pe_var (of_decide_eq_true h3) (visB_ok h4) (nameOk1 h5).1 (nameOk1 h5).2.1) ((pall k').e g.g rfl h6) ((pall e).e g.g rfl h7) (swaps_plain h2)
  | for2 is sk sr a b ihb =>
    refine ⟨fun {X W st} g h => ?_, fun {X W sts} g h => (by cases sts <;> cases h)⟩
    match st, h with
    | .For tg it body [] p, h =>
      have h : (srcB T X.N X.env.scope sk it tg && tgB is tg (fun i x => decide (X.N[i]? = some x) && locB X.env.scope x) && (if isItm sk then true else if isAny sk then chkE T X.N sr X.env.scope it else chkA T X.N a X.env.scope (srcEs it)) && chkSs T X.N X.env.scope b body) = true := h
      obtain ⟨h, h4⟩ := and4 h
      obtain ⟨h, h3⟩ := and4 h
      obtain ⟨h1, h2⟩ := and4 h
      obtain ⟨q1, q2⟩ := pi_src (te := tE X.K F W sr) (ta := tA X.K F W a) g.g h1 (fun e => by subst e; exact (pall sr).e g.g rfl h3) (fun e e2 => by
        rw [if_neg (by rw [e2]; exact Bool.false_ne_true), if_neg (by cases sk <;> first | exact absurd rfl e | exact Bool.false_ne_true)] at h3
        exact (pall a).a g.g rfl h3)
      have pg := pg_tgt (is := is) (tg := tg) g.g.nd g.g.calm (fun i x h => by
        rw [Bool.and_eq_true] at h
        exact ⟨of_decide_eq_true h.1, locB_ok h.2, .inl (g.fn x)⟩) h2
      have go : ∀ {W' : WX}, GoodS T F k X W' → PS X (.For tg it body [] p) (tFor (iSrc X.K sk (tE X.K F W sr) (tA X.K F W a)) (gTgt X.K is) (tS X.K F W' b)) := fun g' => ps_for g.po g.g.calm q1 pg (ihb.all g' h4) q2
      cases sk with
      | itm s =>
        have q := go (W' := W0) ⟨⟨g.g.calm, g.g.nd, g.g.room, takes0, g.g.fns, g.g.gcs, g.g.bls, g.g.exs, g.g.mts, g.g.prs, g.g.inis, g.g.room1, g.g.css, g.g.kds, g.g.fnsf, g.g.mtfs, g.g.mkxs, g.g.room3, g.g.nobool, g.g.fnis, g.g.sms⟩, g.fn, g.kind, g.po, g.room2, g.stk, g.frm⟩
        have ql := ps_lock q
        exact ⟨fun pins s σ H D I h => h.elim (fun h => q.run pins s σ H D I h) fun h => ql.run pins s σ H D I h⟩
      | _ => exact go g
  | put o k' e =>
    refine ⟨fun {X W st} g h => ?_, fun {X W sts} g h => (by cases sts <;> cases h)⟩
    cases st with
    | Assign ts v p =>
      match ts, h with
      | [.Subscript ob ix px], h =>
        obtain ⟨h, h5⟩ := and4 h
        obtain ⟨h, h4⟩ := and4 h
        obtain ⟨h, h3⟩ := and4 h
        obtain ⟨h1, h2⟩ := and4 h
        exact ps_asg ((pall e).e g.g rfl h5) (pg_sub ((pall o).e g.g rfl h3) ((pall k').e g.g rfl h4) set_list (assign_sub h1)) (show swapsWith v (some (.Subscript ob ix px)) p.line X.env = pure false from swaps_plain h2)
    | _ => cases h
  | exp e =>
    refine ⟨fun {X W st} g h => ?_, fun {X W sts} g h => (by cases sts <;> cases h)⟩
    cases st with
    | Expr v p =>
      obtain ⟨h1, h2⟩ := and4 h
      exact ps_expr ((pall e).e g.g rfl h2) (swaps_plain h1)
    | _ => cases h
  | ret e =>
    refine ⟨fun {X W st} g h => ?_, fun {X W sts} g h => (by cases sts <;> cases h)⟩
    cases st with
    | Return v p =>
      cases v with
      | some v => exact ps_ret ((pall e).e g.g rfl h)
      | none => cases h
    | _ => cases h
  | retf e =>
    refine ⟨fun {X W st} g h => ?_, fun {X W sts} g h => (by cases sts <;> cases h)⟩
    cases st with
    | Return v p =>
      cases v with
      | some v => exact ps_ret ((pall e).e g.g rfl h)
      | none => cases h
    | _ => cases h
  | reto i =>
    refine ⟨fun {X W st} g h => ?_, fun {X W sts} g h => (by cases sts <;> cases h)⟩
    have h : (match asRetN st with | some x => decide (X.N[i]? = some x) && visB X.env.scope x && nameOk x | none => false) = true := h
    cases ha : asRetN st with
    | none => rw [ha] at h; cases h
    | some x =>
      rw [ha] at h
      obtain ⟨p1, p, rfl⟩ := asRetN_eq ha
      obtain ⟨h, h3⟩ := and4 h
      obtain ⟨h1, h2⟩ := and4 h
      obtain ⟨n1, n2, n3⟩ := nameOk1 h3
      exact ps_ret (pe_var (of_decide_eq_true h1) (visB_ok h2) n1 n2)
  | retn =>
    refine ⟨fun {X W st} g h => ?_, fun {X W sts} g h => (by cases sts <;> cases h)⟩
    cases st with
    | Return v p =>
      cases v with
      | some v => cases h
      | none => exact ps_retN
    | _ => cases h
  | ite c a b iha ihb =>
    refine ⟨fun {X W st} g h => ?_, fun {X W sts} g h => (by cases sts <;> cases h)⟩
    cases st with
    | If t x y p =>
      obtain ⟨h, h3⟩ := and4 h
      obtain ⟨h1, h2⟩ := and4 h
      exact ps_if ((pall c).t g.g rfl h1) (iha.all g h2) (ihb.all g h3)
    | _ => cases h
  | for_ j src b ihb =>
    refine ⟨fun {X W st} g h => ?_, fun {X W sts} g h => (by cases sts <;> cases h)⟩
    cases st with
    | For t it body or_ p =>
      match t, or_, h with
      | .Name x px, [], h =>
        obtain ⟨h, h5⟩ := and4 h
        obtain ⟨h, h4⟩ := and4 h
        obtain ⟨h, h3⟩ := and4 h
        obtain ⟨h1, h2⟩ := and4 h
        exact ps_for g.po g.g.calm (PI.any ((pall src).e g.g rfl h4)) (pg_name g.g.nd (of_decide_eq_true h1) (locB_ok h2) (.inl (g.fn x))) (ihb.all g h5) (set_plain h3)
    | _ => cases h
  | forr j a b ihb =>
    refine ⟨fun {X W st} g h => ?_, fun {X W sts} g h => (by cases sts <;> cases h)⟩
    cases st with
    | For t it body or_ p =>
      match t, it, or_, h with
      | .Name x px, .Call (.Name r pr) (z :: es) [] pc, [], h =>
        have h : (decide (X.N[j]? = some x) && locB X.env.scope x && decide (r = "range") && glB X.env.scope r && T.bl.contains r && true && chkA T X.N a X.env.scope (z :: es) && chkSs T X.N X.env.scope b body) = true := h
        obtain ⟨h, h8⟩ := and4 h
        obtain ⟨h, h7⟩ := and4 h
        obtain ⟨h, _⟩ := and4 h
        obtain ⟨h, h5⟩ := and4 h
        obtain ⟨h, h4⟩ := and4 h
        obtain ⟨h, h3⟩ := and4 h
        obtain ⟨h1, h2⟩ := and4 h
        have e1 := of_decide_eq_true h3
        subst e1
        have ns := args_star h7
        rw [List.all_cons, Bool.and_eq_true] at ns
        exact ps_for g.po g.g.calm (PI.rng (glB_ok h4) (g.g.bls _ h5) ((pall a).a g.g rfl h7) ns.1 ns.2) (pg_name g.g.nd (of_decide_eq_true h1) (locB_ok h2) (.inl (g.fn x))) (ihb.all g h8) (set_plain rfl)
      | .Name x px, .Call (.Name r pr) [] [] pc, [], h =>
        have h : (decide (X.N[j]? = some x) && locB X.env.scope x && decide (r = "range") && glB X.env.scope r && T.bl.contains r && false && chkA T X.N a X.env.scope [] && chkSs T X.N X.env.scope b body) = true := h
        simp at h
    | _ => cases h
  | whl c b ihb =>
    refine ⟨fun {X W st} g h => ?_, fun {X W sts} g h => (by cases sts <;> cases h)⟩
    cases st with
    | While t body or_ p =>
      match or_, h with
      | [], h =>
        obtain ⟨h1, h2⟩ := and4 h
        exact ps_while g.po ((pall c).t g.g rfl h1) (ihb.all g h2)
    | _ => cases h
  | sfl i c f e =>
    refine ⟨fun {X W st} g h => ?_, fun {X W sts} g h => (by cases sts <;> cases h)⟩
    have h : (match asSfl st with | some (x, f', v) => decide (f = f') && decide (X.N[i]? = some x) && visB X.env.scope x && nameOk x && notComp v && chkE T X.N e X.env.scope v | none => false) = true := h
    cases ha : asSfl st with
    | none => rw [ha] at h; cases h
    | some q =>
      obtain ⟨x, f', v⟩ := q
      rw [ha] at h
      obtain ⟨p1, p2, p3, rfl⟩ := asSfl_eq ha
      obtain ⟨h, h6⟩ := and4 h
      obtain ⟨h, h5⟩ := and4 h
      obtain ⟨h, h4⟩ := and4 h
      obtain ⟨h, h3⟩ := and4 h
      obtain ⟨h1, h2⟩ := and4 h
      have e1 := of_decide_eq_true h1
      subst e1
      exact ps_fld (pe_var (of_decide_eq_true h2) (visB_ok h3) (nameOk1 h4).1 (nameOk1 h4).2.1) ((pall e).e g.g rfl h6) (swaps_plain h5)
  | unp is e =>
    refine ⟨fun {X W st} g h => ?_, fun {X W sts} g h => (by cases sts <;> cases h)⟩
    have h : (match asUnp st with | some (ts, v) => chkG X.N X.env.scope is ts && (notComp v && swOk v) && chkE T X.N e X.env.scope v | none => false) = true := h
    cases ha : asUnp st with
    | none => rw [ha] at h; cases h
    | some q =>
      obtain ⟨es, v⟩ := q
      rw [ha] at h
      obtain ⟨n, px, p, rfl⟩ := asUnp_eq ha
      obtain ⟨h, h3⟩ := and4 h
      obtain ⟨h1, h2⟩ := and4 h
      obtain ⟨h2, h4⟩ := and4 h2
      obtain ⟨q1, q2, q3⟩ := gs_names g h1
      exact ps_asg ((pall e).e g.g rfl h3) (pg_tup g.g.calm q1 q2 q3) (show swapsWith v (some (.Tuple es n px)) p.line X.env = pure false from swaps_plain h2) (swSt_none h4)
  | par is a =>
    refine ⟨fun {X W st} g h => ?_, fun {X W sts} g h => (by cases sts <;> cases h)⟩
    have h : (match asPar st with | some (ts, vs, ln) => parB X.N X.env.scope is ts vs && chkA T X.N a X.env.scope vs | none => false) = true := h
    cases ha : asPar st with
    | none => rw [ha] at h; cases h
    | some q =>
      obtain ⟨ts, vs, p⟩ := q
      rw [ha] at h
      obtain ⟨n, px, m, pv, rfl⟩ := asPar_eq ha
      obtain ⟨h, hc⟩ := and4 h
      obtain ⟨h, h5⟩ := and4 h
      obtain ⟨h, h4⟩ := and4 h
      obtain ⟨h, h3⟩ := and4 h
      obtain ⟨h1, h2⟩ := and4 h
      have hbk : (X.env.blockKind != .function) = false := by
        unfold PySem.Env.blockKind
        rw [g.kind]
        rfl
      have k3 := noStar_any h3
      have k4 : (vs.all (foldedForSure 8)) = false := by simpa using h4
      have k5 : (vs.all (constantsAlone 8)) = false := by simpa using h5
      have PAr := (pall a).a (X := X) (W := W) g.g rfl hc
      match is, ts, vs, h1, h2, h3, k4, k5, PAr with
      | [i, j], [.Name x p1, .Name y p2], [v1, v2], h1, h2, h3, k4, k5, PAr =>
        obtain ⟨h1, q7⟩ := and4 h1
        obtain ⟨h1, q6⟩ := and4 h1
        obtain ⟨h1, q5⟩ := and4 h1
        obtain ⟨h1, q4⟩ := and4 h1
        obtain ⟨h1, q3⟩ := and4 h1
        obtain ⟨q1, q2⟩ := and4 h1
        have k6 : noStar v1 = true ∧ noStar v2 = true := by simpa using h3
        have lx := of_decide_eq_true q5
        have ly := of_decide_eq_true q6
        have kx : (X.env.kindOf x == some NameKind.local) = true := by rw [show X.env.kindOf x = some .local from lx]; rfl
        have ky : (X.env.kindOf y == some NameKind.local) = true := by rw [show X.env.kindOf y = some .local from ly]; rfl
        have hxy : x ≠ y := of_decide_eq_true q4
        refine ps_par g.g.calm g.g.nd (of_decide_eq_true q1) (of_decide_eq_true q2) (of_decide_eq_true q3) lx ly PAr ?_ ?_
        · unfold swappedStores
          have e1 : (p1.line == p1.line) = true := by simp
          have e2 : ([x, y] : List Str).eraseDups = [x, y] := by simp [List.eraseDups_cons, hxy.symm]
          have q7' : p2.line = p1.line := by simpa using q7
          simp only [List.length_cons, List.length_nil, hbk, List.any_cons, List.any_nil, k4, k5, List.filterMap_cons, List.filterMap_nil, List.head?_cons, Option.map_some, Option.getD_some, Expr.pos, kx, ky, q7', beq_self_eq_true, Bool.and_self, if_true, e2]
          refine Eq.trans (if_neg (by decide)) (Eq.trans (if_neg (fun hh => ?_)) (Eq.trans (if_neg (by decide)) (Eq.trans (if_neg (by decide)) (if_neg (by decide)))))
          rcases Bool.or_eq_true_iff.mp hh with hh | hh
          · have k := k6.1
            cases v1 <;> first | (cases hh; done) | (cases k; done)
          · rcases Bool.or_eq_true_iff.mp hh with hh | hh
            · have k := k6.2
              cases v2 <;> first | (cases hh; done) | (cases k; done)
            · cases hh
        · rfl
      | [i, j, l], [.Name x p1, .Name y p2, .Name z p3], [v1, v2, v3], h1, h2, h3, k4, k5, PAr =>
        obtain ⟨h1, r14⟩ := and4 h1
        obtain ⟨h1, r13⟩ := and4 h1
        obtain ⟨h1, r12⟩ := and4 h1
        obtain ⟨h1, r11⟩ := and4 h1
        obtain ⟨h1, r10⟩ := and4 h1
        obtain ⟨h1, r9⟩ := and4 h1
        obtain ⟨h1, r8⟩ := and4 h1
        obtain ⟨h1, r7⟩ := and4 h1
        obtain ⟨h1, r6⟩ := and4 h1
        obtain ⟨h1, r5⟩ := and4 h1
        obtain ⟨h1, r4⟩ := and4 h1
        obtain ⟨h1, r3⟩ := and4 h1
        obtain ⟨r1, r2⟩ := and4 h1
        have k6 : noStar v1 = true ∧ noStar v2 = true ∧ noStar v3 = true := by simpa using h3
        have lx := of_decide_eq_true r10
        have ly := of_decide_eq_true r11
        have lz := of_decide_eq_true r12
        have kx : (X.env.kindOf x == some NameKind.local) = true := by rw [show X.env.kindOf x = some .local from lx]; rfl
        have ky : (X.env.kindOf y == some NameKind.local) = true := by rw [show X.env.kindOf y = some .local from ly]; rfl
        have kz : (X.env.kindOf z == some NameKind.local) = true := by rw [show X.env.kindOf z = some .local from lz]; rfl
        have hxy : x ≠ y := of_decide_eq_true r7
        have hxz : x ≠ z := of_decide_eq_true r8
        have hyz : y ≠ z := of_decide_eq_true r9
        refine ps_par3 g.g.calm g.g.nd (of_decide_eq_true r1) (of_decide_eq_true r2) (of_decide_eq_true r3) (of_decide_eq_true r4) (of_decide_eq_true r5) (of_decide_eq_true r6) lx ly lz PAr ?_ ?_
        · unfold swappedStores
          have e1 : (p1.line == p1.line) = true := by simp
          have e2 : ([x, y, z] : List Str).eraseDups = [x, y, z] := by simp [List.eraseDups_cons, hxy.symm, hxz.symm, hyz.symm]
          have r13' : p2.line = p1.line := by simpa using r13
          have r14' : p3.line = p1.line := by simpa using r14
          simp only [List.length_cons, List.length_nil, hbk, List.any_cons, List.any_nil, k4, k5, List.filterMap_cons, List.filterMap_nil, List.head?_cons, Option.map_some, Option.getD_some, Expr.pos, kx, ky, kz, r13', r14', beq_self_eq_true, Bool.and_self, if_true, e2]
          refine Eq.trans (if_neg (by decide)) (Eq.trans (if_neg (fun hh => ?_)) (Eq.trans (if_neg (by decide)) (Eq.trans (if_neg (by decide)) (if_neg (by decide)))))
          rcases Bool.or_eq_true_iff.mp hh with hh | hh
          · have k := k6.1
            cases v1 <;> first | (cases hh; done) | (cases k; done)
          · rcases Bool.or_eq_true_iff.mp hh with hh | hh
            · have k := k6.2.1
              cases v2 <;> first | (cases hh; done) | (cases k; done)
            · rcases Bool.or_eq_true_iff.mp hh with hh | hh
              · have k := k6.2.2
                cases v3 <;> first | (cases hh; done) | (cases k; done)
              · cases hh
        · rfl
  | rse c fs a =>
    refine ⟨fun {X W st} g h => ?_, fun {X W sts} g h => (by cases sts <;> cases h)⟩
    have h : (match asRse st with | some (x, es) => decide (x = c) && glB X.env.scope x && nameOk x && decide (T.ex.lookup c = some fs) && !es.isEmpty && chkA T X.N a X.env.scope es | none => false) = true := h
    cases ha : asRse st with
    | none => rw [ha] at h; cases h
    | some q =>
      obtain ⟨x, es⟩ := q
      rw [ha] at h
      obtain ⟨px, pc, p, rfl⟩ := asRse_eq ha
      cases es with
      | nil =>
        have h : (decide (x = c) && glB X.env.scope x && nameOk x && decide (T.ex.lookup c = some fs) && false && chkA T X.N a X.env.scope []) = true := h
        simp at h
      | cons z es =>
        have h : (decide (x = c) && glB X.env.scope x && nameOk x && decide (T.ex.lookup c = some fs) && true && chkA T X.N a X.env.scope (z :: es)) = true := h
        obtain ⟨h, h6⟩ := and4 h
        obtain ⟨h, _⟩ := and4 h
        obtain ⟨h, h4⟩ := and4 h
        obtain ⟨h, h3⟩ := and4 h
        obtain ⟨h1, h2⟩ := and4 h
        have e1 := of_decide_eq_true h1
        subst e1
        have xf := g.g.exs x fs (of_decide_eq_true h4)
        obtain ⟨fI, fd, i1, i2, i3, i4⟩ := xf.ini
        have ns := args_star h6
        rw [List.all_cons, Bool.and_eq_true] at ns
        exact ps_raise g.g.calm g.g.tk (pmk_oex xf.ox i1 i2 i3 (g.room2) i4 .nil pass0 (glB_ok h2) xf.mgc ((pall a).a g.g rfl h6) (nameOk1 h3).1 (starEach_cons ns.1) (starEach_plain ns.2))
  | tryas b hs ihb =>
    refine ⟨fun {X W st} g h => ?_, fun {X W sts} g h => (by cases sts <;> cases h)⟩
    have h : (match asTry st with | some (body, hds) => chkSs T X.N X.env.scope b body && chkHds T X.N X.env.scope hs hds | none => false) = true := h
    cases ha : asTry st with
    | none => rw [ha] at h; cases h
    | some q =>
      obtain ⟨body, hds⟩ := q
      rw [ha] at h
      obtain ⟨h0, r0, p, rfl, rfl⟩ := asTry_eq ha
      obtain ⟨h1, h2⟩ := and4 h
      exact ps_tryM (tb := fun W => tS X.K F W b) g.stk g.frm g.g.nd g.g.tk (fun W' pn xe tk po => ihb.all (g.tr pn xe tk po) h1) (hds_ok g h2)
  | brk =>
    refine ⟨fun {X W st} g h => ?_, fun {X W sts} g h => (by cases sts <;> cases h)⟩
    cases st with
    | Break p => exact ps_break
    | _ => cases h
  | cnt =>
    refine ⟨fun {X W st} g h => ?_, fun {X W sts} g h => (by cases sts <;> cases h)⟩
    cases st with
    | Continue p => exact ps_continue
    | _ => cases h
end
end PF
/-! An error class: its __init__ keeps each argument in a field. -/
namespace PF
open PySem L2 PySem.Spec PyProof.Rows
def tIn (K : PySem.W.Frag) : List Str → Nat → TS
  | [], _ => tNext
  | f :: r, i => tSeq (tOst K f (tVar 0) (tVar i)) (tIn K r (i + 1))
def asFld : Stmt → Option (Str × Str × Str)
  | .Assign [.Attribute (.Name s _) f _] (.Name g _) _ => some (s, f, g)
  | _ => none
theorem asFld_eq {st : Stmt} {s f g : Str} (h : asFld st = some (s, f, g)) : ∃ p1 p2 p3 p4, st = .Assign [.Attribute (.Name s p1) f p2] (.Name g p3) p4 := by
  unfold asFld at h
  split at h
  · cases h; exact ⟨_, _, _, _, rfl⟩
  · cases h
def fldB (N : List Str) (sc : Scope) (f : Str) (i : Nat) : Option (Str × Str × Str) → Bool
  | some (s, f', g) => decide (f' = f) && decide (N[0]? = some s) && decide (N[i]? = some g) && visB sc s && visB sc g && nameOk s && nameOk g
  | none => false
def chkIn (N : List Str) (sc : Scope) : List Str → Nat → List Stmt → Bool
  | [], _, [] => true
  | f :: r, i, st :: sts => fldB N sc f i (asFld st) && chkIn N sc r (i + 1) sts
  | _, _, _ => false
theorem ps_in {X : Cx} : ∀ {fs : List Str} {i : Nat} {sts : List Stmt}, chkIn X.N X.env.scope fs i sts = true → PSs X sts (tIn X.K fs i)
  | [], _, [], _ => pss_nil
  | f :: r, i, st :: sts, h => by
    obtain ⟨h0, h8⟩ := and4 h
    clear h
    cases ha : asFld st with
    | none => rw [ha] at h0; cases h0
    | some q =>
      obtain ⟨s, f', g⟩ := q
      rw [ha] at h0
      obtain ⟨p1, p2, p3, p4, rfl⟩ := asFld_eq ha
      have h : (decide (f' = f) && decide (X.N[0]? = some s) && decide (X.N[i]? = some g) && visB X.env.scope s && visB X.env.scope g && nameOk s && nameOk g) = true := h0
      obtain ⟨h, h7⟩ := and4 h
      obtain ⟨h, h6⟩ := and4 h
      obtain ⟨h, h5⟩ := and4 h
      obtain ⟨h, h4⟩ := and4 h
      obtain ⟨h, h3⟩ := and4 h
      obtain ⟨h1, h2⟩ := and4 h
      have e1 := of_decide_eq_true h1
      subst e1
      exact pss_cons (ps_ost (pe_var (of_decide_eq_true h2) (visB_ok h4) (nameOk1 h6).1 (nameOk1 h6).2.1) (pe_var (of_decide_eq_true h3) (visB_ok h5) (nameOk1 h7).1 (nameOk1 h7).2.1) (swaps_plain rfl)) (ps_in h8)
theorem upd_upd {H : Hp} {a : Addr} {o o' : HO} : upd (upd H a o) a o' = upd H a o' := by
  funext b
  by_cases h : b = a
  · subst h; rw [upd_same, upd_same]
  · rw [upd_ne h, upd_ne h, upd_ne h]
theorem upd_eta {H : Hp} {a : Addr} {o : HO} (h : H a = some o) : upd H a o = H := by
  funext b
  by_cases hb : b = a
  · subst hb; rw [upd_same, h]
  · rw [upd_ne hb]
theorem upd_comm {H : Hp} {a b : Addr} {o o' : HO} (n : a ≠ b) : upd (upd H a o) b o' = upd (upd H b o') a o := by
  funext c
  by_cases h1 : c = a
  · subst h1; rw [upd_ne n, upd_same, upd_same]
  · by_cases h2 : c = b
    · subst h2; rw [upd_same, upd_ne h1, upd_same]
    · rw [upd_ne h2, upd_ne h1, upd_ne h1, upd_ne h2]
theorem in_run {K : PySem.W.Frag} {C a dx : Addr} (ox : OexC K C) : ∀ {fs : List Str} {us : List V} {i : Nat} {acc : List (Str × V)} {H : Hp} {σ : L2.St} {D : Ends}, us.length = fs.length → σ[0]? = some (some (.ref a)) → (∀ (j : Nat) (u : V), us[j]? = some u → σ[i + j]? = some (some u)) →
    H a = some (exo a C (some dx)) → H dx = some (exd dx acc) → a ≠ dx → acc.length + fs.length ≤ 900 → (∀ f ∈ fs, PySem.W.findIn K (.ref C) f = some none) → D.nx σ (upd H dx (exd dx ((fs.zip us).reverse ++ acc))) → tIn K fs i D σ H
  | [], [], i, acc, H, σ, D, _, _, _, _, hd, _, _, _, q => by
    rw [List.zip_nil_left, List.reverse_nil, List.nil_append, upd_eta hd] at q
    exact q
  | f :: fs, u :: us, i, acc, H, σ, D, hl, h0, hu, ha, hd, n, hz, no, q => by
    refine ⟨u, hu 0 u rfl, .ref a, h0, a, C, rfl, ox, no f List.mem_cons_self, .inr ⟨dx, acc, ha, hd, by rw [List.length_cons] at hz; omega, ?_⟩⟩
    refine in_run ox (fs := fs) (us := us) (i := i + 1) (acc := (f, u) :: acc) (by simpa using hl) h0 (fun j v e => by
      have := hu (j + 1) v (by simpa using e)
      rwa [show i + 1 + j = i + (j + 1) by omega]) (by rw [upd_ne n]; exact ha) upd_same n (by rw [List.length_cons] at hz ⊢; omega) (fun g hg => no g (List.mem_cons_of_mem _ hg)) ?_
    rw [upd_upd]
    rw [List.zip_cons_cons, List.reverse_cons, List.append_assoc] at q
    exact q
theorem init_ok {P : Program} {w : World} {K : PySem.W.Frag} {mg : Str → Option Value} {base : Heap} {c x qual : Str} {fs N : List Str} {params : Arguments} {body : List Stmt} {scope : Scope} {fI : Addr} {fd : FuncData} (FD : FunD K x qual params body scope [] [] fI fd)
    (sc : FnScope ("self" :: fs) ("self" :: fs) scope) (hc : chkIn ("self" :: fs) scope fs 1 body = true) (ox : OexC K (He.ga K c)) (no : ∀ f ∈ fs, PySem.W.findIn K (.ref (He.ga K c)) f = some none) (hz : fs.length ≤ 800) :
    FnOk P w K mg base CX0 1 fI fd ("self" :: fs) (spXI K c fs) := by
  refine FD.ok (CX := CX0) sc (fun vs H Q E h => ?_) (fun cdv Ar outer s H vs Q E hr h => ?_)
  · obtain ⟨a, us, rfl, hl, _⟩ := h
    rw [List.length_cons, List.length_cons, hl]
  · obtain ⟨a, us, rfl, hl, h0, ha, q⟩ := h
    refine ⟨tIn K fs 1, ps_in (X := cxOf CX0 P w K mg base ("self" :: fs) qual scope fI cdv Ar outer s H E) hc, ?_⟩
    have hst : ∀ (j : Nat) (u : V), us[j]? = some u → (L2.start ("self" :: fs) (.ref a :: us))[1 + j]? = some (some u) := fun j u e => by
      unfold L2.start
      have hj : j < us.length := (List.getElem?_eq_some_iff.mp e).1
      rw [List.getElem?_append_left (by rw [List.length_map, List.length_cons]; omega), List.getElem?_map, show 1 + j = j + 1 by omega, List.getElem?_cons_succ, e]
      rfl
    have hs0 : (L2.start ("self" :: fs) (.ref a :: us))[0]? = some (some (.ref a)) := rfl
    match fs, us, hl, h0 with
    | f :: fs, u :: us, hl, _ =>
      refine ⟨u, hst 0 u rfl, .ref a, hs0, a, He.ga K c, rfl, ox, no f List.mem_cons_self, .inl ⟨ha, fun dx ndx nda => ?_⟩⟩
      refine in_run ox (dx := dx) (fs := fs) (us := us) (i := 2) (acc := [(f, u)]) (by simpa using hl) hs0 (fun j v e => ?_) upd_same (by rw [upd_ne nda, upd_same]) (fun z => nda z.symm) (by rw [List.length_cons] at hz; simp; omega) (fun g hg => no g (List.mem_cons_of_mem _ hg)) ?_
      · have := hst (j + 1) v (by simpa using e)
        rwa [show 2 + j = 1 + (j + 1) by omega]
      · have q2 := q dx ndx nda
        rw [upd_comm (fun z => nda z.symm), upd_upd]
        rw [List.zip_cons_cons, List.reverse_cons] at q2
        exact q2
theorem oexB_ok {K : PySem.W.Frag} {C : Addr} (h : oexB K C = true) : OexC K C := by
  unfold oexB at h
  obtain ⟨h, h5⟩ := and4 h
  obtain ⟨h, h4⟩ := and4 h
  obtain ⟨h, h3⟩ := and4 h
  obtain ⟨h1, h2⟩ := and4 h
  refine ⟨?_, of_decide_eq_true h2, of_decide_eq_true h3, of_decide_eq_true h4, h5⟩
  split at h1
  · rename_i t dd cd sl hl
    obtain ⟨h1, q5⟩ := and4 h1
    obtain ⟨h1, q4⟩ := and4 h1
    obtain ⟨h1, q3⟩ := and4 h1
    obtain ⟨q1, q2⟩ := and4 h1
    have e1 := of_decide_eq_true q1
    subst e1
    obtain ⟨nm, bs, mro, ns, q, hd, sn, sub, ab, col, hdel⟩ := cd
    have r2' : hd = true := q2
    have r3 : hdel = false := by simpa using q3
    clear q2 q3
    subst r2'
    subst r3
    have q6 : mroB C mro = true := q5
    clear q5 h1
    have key : ∀ mro : List Value, mroB C mro = true → ∃ bm, mro = .ref C :: bm ∧ HandSPX.refsVE bm = true := fun mro h => by
      match mro, h with
      | .ref C' :: bm, h =>
        obtain ⟨r1, r2⟩ := and4 h
        exact ⟨bm, by rw [of_decide_eq_true r1], r2⟩
    obtain ⟨bm, rfl, r2⟩ := key mro q6
    have key2 : ∀ l : List (Option Value), slotsB l.toArray = true → ∃ k0 k1 k2 k3 k5, l = [k0, k1, k2, k3, some (.builtin "ValueError.__new__"), k5] := fun l h => by
      unfold slotsB at h
      split at h
      · rename_i k0 k1 k2 k3 n k5 hs
        have e3 := of_decide_eq_true h
        subst e3
        exact ⟨k0, k1, k2, k3, k5, hs⟩
      · cases h
    obtain ⟨l⟩ := sl
    obtain ⟨k0, k1, k2, k3, k5, rfl⟩ := key2 l q4
    exact ⟨nm, q, ns, bs, bm, sn, sub, ab, col, dd, k0, k1, k2, k3, k5, hl, r2⟩
  · cases h1
end PF
/-! A program's defs by one table: each keeps the interpreter's promise. -/
namespace PF
open PySem L2 PySem.Spec PyProof.Rows
structure DfOk (T : Tb) (d : Df) : Prop where
  sc : FnScope d.N d.ps (defScope d.st)
  chk : chkSs T d.N (defScope d.st) d.fn.body (defBody d.st) = true
  ar : d.fn.ar + d.off = d.ps.length
  nm : d.fn.nm + d.off = d.N.length
def BdOk (d : Df) : Prop := ∀ (kV doc pm : Value) (an : Option Addr) (cdv ct : Value) (us : List Value), us.length = d.ps.length → bindArgs (PySem.W.fnOf d.x d.qual (defArgs d.st) (defBody d.st) (defScope d.st) .none kV doc pm an cdv ct) ⟨us, []⟩ = pure (d.ps.zip us)
/-- C(.., k = v, ..): n values, the keywords ks -/
def KbOk (d : Df) (n : Nat) (ks : List Str) : Prop := ∀ (kV doc pm : Value) (an : Option Addr) (cdv ct : Value) (us ws : List Value), us.length = n + 1 → ws.length = ks.length → bindArgs (PySem.W.fnOf d.x d.qual (defArgs d.st) (defBody d.st) (defScope d.st) .none kV doc pm an cdv ct) ⟨us, ks.zip ws⟩ = pure (d.ps.zip (us ++ ws))
/-- C(.., *..): m parameters besides the instance, the rest a tuple -/
def SbOk (d : Df) (m : Nat) : Prop := ∃ (ps : List Str) (pv : Str), d.ps = ps ++ [pv] ∧ ps.length = m + 1 ∧ ∀ (kV doc pm : Value) (an : Option Addr) (cdv ct : Value) (us rest : List Value), us.length = ps.length → bindArgs (PySem.W.fnOf d.x d.qual (defArgs d.st) (defBody d.st) (defScope d.st) .none kV doc pm an cdv ct) ⟨us ++ rest, []⟩ = (newTuple rest >>= fun t => pure (ps.zip us ++ [(pv, t)]))
theorem kbn_of {K : PySem.W.Frag} {d : Df} {f : Addr} {fd : FuncData} {n : Nat} {ks : List Str} (F : FunD K d.x d.qual (defArgs d.st) (defBody d.st) (defScope d.st) [] [] f fd) (h : KbOk d n ks) : KBn K fd d.ps (n + 1) ks (fun us ws => us ++ ws) (fun vs zs => vs ++ zs) := by
  obtain ⟨oc, od, dV, kV, doc, pm, an, cdv, ct, osl, rfl, lk, hcd, hD, hK⟩ := F.ex
  rcases hD with ⟨_, rfl⟩ | ⟨e, _⟩
  · exact ⟨fun s us ws X l1 l2 => BindsTo.of_eq (h kV doc pm an cdv ct us ws l1 l2), fun r1 r2 => r1.append r2⟩
  · exact absurd rfl e
theorem start_sig {K : PySem.W.Frag} {am : List Addr} {Hf H : Hp} {H0 : B0} {vs : List V} {ds : List D} {N : List Str} {ar nm : Nat} (r : RepL K am Hf vs ds) (h1 : ds.length = ar) (h2 : ar ≤ nm) (h3 : nm = N.length) : Sig K am Hf H H0 (L2.start N vs) (ds.map Slot.im ++ List.replicate (nm - ar) Slot.un) := by
  have hl : vs.length = ds.length := r.length
  have im : ∀ (i : Nat) (s : PF.Slot), (ds.map Slot.im ++ List.replicate (nm - ar) Slot.un)[i]? = some s → (s = .un ∨ ∃ d, ds[i]? = some d ∧ s = .im d) := fun i s e => by
    by_cases hi : i < ds.length
    · rw [List.getElem?_append_left (by rw [List.length_map]; exact hi), List.getElem?_map, List.getElem?_eq_getElem hi] at e
      cases e
      exact .inr ⟨_, List.getElem?_eq_getElem hi, rfl⟩
    · rw [List.getElem?_append_right (by rw [List.length_map]; omega)] at e
      have := List.mem_of_getElem? e
      rw [List.mem_replicate] at this
      exact .inl this.2
  refine ⟨?_, fun i s e => ?_, fun i j p di dj _ e1 _ o1 _ _ _ => ?_⟩
  · unfold L2.start
    rw [List.length_append, List.length_append, List.length_map, List.length_map, List.length_replicate, List.length_replicate]
    omega
  · rcases im i s e with rfl | ⟨d, hd, rfl⟩
    · trivial
    · obtain ⟨v, hv, rv⟩ := r.get hd
      refine ⟨v, ?_, rv⟩
      have hi : i < ds.length := (List.getElem?_eq_some_iff.mp hd).1
      unfold L2.start
      rw [List.getElem?_append_left (by rw [List.length_map, hl]; exact hi), List.getElem?_map, hv]
      rfl
  · rcases im i di e1 with rfl | ⟨d, hd, rfl⟩
    · cases o1
    · cases o1
/-- an __init__ begins -/
theorem start_sigI {K : PySem.W.Frag} {am : List Addr} {Hf H : Hp} {H0 : B0} {vs : List V} {ds : List D} {N : List Str} {x : Str} {ar nm : Nat} {a dx : Addr} {c : Str} (r : RepL K am Hf vs ds) (h1 : ds.length = ar) (h2 : ar ≤ nm) (h3 : nm + 1 = (x :: N).length) (ci : ClsI K c) (ha : H a = some (.ins (He.ga K c) dx [])) (nf : Hf a = none) (na : a ∉ am) (n0 : H0 a = none) (hs : a = H0.sf) :
    Sig K am Hf H H0 (L2.start (x :: N) (.ref a :: vs)) (.oi c [] :: (ds.map Slot.im ++ List.replicate (nm - ar) Slot.un)) := by
  have s := start_sig (H := H) (H0 := H0) (N := N) r h1 h2 (by simpa using h3)
  have e0 : L2.start (x :: N) (.ref a :: vs) = some (.ref a) :: L2.start N vs := by
    unfold L2.start
    simp
  rw [e0]
  refine ⟨by rw [List.length_cons, List.length_cons, s.len], fun i z e => ?_, fun i j p di dj hij e1 e2 o1 o2 e3 e4 => ?_⟩
  · cases i with
    | zero =>
      have e : some (Slot.oi c []) = some z := e
      cases e
      exact ⟨a, dx, [], rfl, ha, .nil, nf, na, ⟨n0, hs⟩, rfl, ci, fun f hf => by cases hf⟩
    | succ i =>
      have e : (ds.map Slot.im ++ List.replicate (nm - ar) Slot.un)[i]? = some z := e
      have q := s.slot i z e
      cases z with
      | un => trivial
      | im d => exact q
      | ol ds => exact q
      | od ds => exact q
      | oi c ds => exact q
  · have no : ∀ (i : Nat) (z : PF.Slot), (ds.map Slot.im ++ List.replicate (nm - ar) Slot.un)[i]? = some z → isOwn z = true → False := fun i z e o => by
      by_cases hi : i < ds.length
      · rw [List.getElem?_append_left (by rw [List.length_map]; exact hi), List.getElem?_map, List.getElem?_eq_getElem hi] at e
        cases e
        cases o
      · rw [List.getElem?_append_right (by rw [List.length_map]; omega)] at e
        have := List.mem_of_getElem? e
        rw [List.mem_replicate] at this
        rw [this.2] at o
        cases o
    cases i with
    | zero =>
      cases j with
      | zero => exact hij rfl
      | succ j => exact no j dj e2 o2
    | succ i => exact no i di e1 o1
/-- the tables hold of the module's names -/
structure Facts (T : Tb) (Ds : List Df) (K : PySem.W.Frag) (w : World) (mg : Str → Option Value) (ad : Nat → Addr) (fdf : Nat → FuncData) : Prop where
  fn : T.fn = Ds.map (fun d => if d.glo && !d.fn.fr then some d.gx else none)
  fnf : T.fnf = Ds.map (fun d => if d.glo && d.fn.fr then some d.gx else none)
  ok : ∀ (f : Nat) (d : Df), Ds[f]? = some d → DfOk T d
  bd : ∀ (f : Nat) (d : Df), Ds[f]? = some d → d.fn.ini = none → BdOk d
  df : ∀ (f : Nat) (d : Df), Ds[f]? = some d → (d.glo = true → mg d.gx = some (.ref (ad f)) ∧ d.fn.ini = none) ∧ FunD K d.x d.qual (defArgs d.st) (defBody d.st) (defScope d.st) [] [] (ad f) (fdf f)
  gcs : ∀ (x : Str) (d : D), T.gc.lookup x = some d → ∃ u, mg x = some u ∧ RelV (vf d) u
  bls : ∀ x : Str, T.bl.contains x = true → mg x = none
  exs : ∀ (c : Str) (fs : List Str), T.ex.lookup c = some fs → ∀ (P : Program) (w : World) (base : Heap), ExF P w K mg base c fs
  fcs : ∀ d ∈ Ds, ∀ f ∈ fcS d.fn.body, f.ok K = true
  mts : ∀ (c m : Str) (g : Nat), ((c, m), g) ∈ T.mt → Cls K (He.ga K c) ∧ Meth K (He.ga K c) m (ad g) ∧ ∃ d, Ds[g]? = some d ∧ d.fn.ini = none ∧ d.fn.fr = false
  mtfs : ∀ (c m : Str) (g : Nat), ((c, m), g) ∈ T.mtf → Cls K (He.ga K c) ∧ Meth K (He.ga K c) m (ad g) ∧ ∃ d, Ds[g]? = some d ∧ d.fn.ini = none ∧ d.fn.fr = true
  prs : ∀ (c f : Str) (g : Nat), ((c, f), g) ∈ T.pr → Cls K (He.ga K c) ∧ (∃ p, PropOf K (He.ga K c) f p (ad g)) ∧ ∃ d, Ds[g]? = some d ∧ d.fn.ini = none ∧ d.fn.fr = false
  inis : ∀ (c : Str) (g n : Nat) (ks : List Str), (c, g, n, ks) ∈ T.mks → mg c = some (.ref (He.ga K c)) ∧ Mk K (He.ga K c) (ad g) ∧ ∃ d, Ds[g]? = some d ∧ d.fn.ini = some c ∧ KbOk d n ks
  mkxs : ∀ (c : Str) (g m : Nat), (c, g, m) ∈ T.mkx → mg c = some (.ref (He.ga K c)) ∧ Mk K (He.ga K c) (ad g) ∧ ∃ d, Ds[g]? = some d ∧ d.fn.ini = some c ∧ SbOk d m
  nobool : ∀ (c : Str) (g : Nat), ((c, ("__len__" : Str)), g) ∈ T.mt → PySem.W.findIn K (.ref (He.ga K c)) "__bool__" = some none
  sms : ∀ (c m : Str) (g : Nat), ((c, m), g) ∈ T.sm → SmF K c m (ad g) ∧ ∃ d, Ds[g]? = some d ∧ d.fn.ini = none ∧ d.fn.fr = false
  css : ∀ c : Str, T.cs.contains c = true → mg c = some (.ref (He.ga K c))
  kds : ∀ x : Str, T.kd.contains x = true → mg x = some (.ref (He.ga K x)) ∧ ∃ es n, KDict K w (He.ga K x) es n
/-- what a def promises, by its kind -/
def spD (K : PySem.W.Frag) (cl : Nat → Addr) (C : Calls) (f : Nat) (d : Df) : Sp := match d.fn.ini with
  | none => if d.fn.fr then (spF K cl C).pn f else (spF K cl C).pl f
  | some c => (spF K cl C).ini c f
theorem prog_ok {T : Tb} {Ds : List Df} {K : PySem.W.Frag} {mg : Str → Option Value} {ad : Nat → Addr} {fdf : Nat → FuncData} {Pg : Program} {w : World} {base : Heap} (cl : Nat → Addr) (Wn : Nat) (A : Facts T Ds K w mg ad fdf) :
    ∀ (n f : Nat) (d : Df), Ds[f]? = some d → FnOk Pg w K mg base (L2.CX Pg w) (4 * n + 4) (ad f) (fdf f) d.ps (spD K cl (call (Ds.map (·.fn)) Wn n) f d) ∧ ∀ (c : Str) (m : Nat), d.fn.ini = some c → SbOk d m → FnR Pg w K mg base (L2.CX Pg w) (4 * n + 4) (ad f) (spStar m (spIni K cl (call (Ds.map (·.fn)) Wn n) c f)) := by
  intro n
  induction n with
  | zero =>
    intro f d hd
    have no : ∀ vs H Q E, ¬ spD K cl (call (Ds.map (·.fn)) Wn 0) f d vs H Q E := fun vs H Q E h => by
      cases hi : d.fn.ini with
      | none =>
        have h : (if d.fn.fr then (spF K cl (call (Ds.map (·.fn)) Wn 0)).pn f else (spF K cl (call (Ds.map (·.fn)) Wn 0)).pl f) vs H Q E := by unfold spD at h; rw [hi] at h; exact h
        cases hfr : d.fn.fr with
        | true =>
          rw [hfr] at h
          obtain ⟨am, st, Hf, ds, _, _, z⟩ := h
          exact z
        | false =>
          rw [hfr] at h
          obtain ⟨am, st, Hf, ds, _, _, z⟩ := h
          exact z
      | some c =>
        have h : (spF K cl (call (Ds.map (·.fn)) Wn 0)).ini c f vs H Q E := by unfold spD at h; rw [hi] at h; exact h
        obtain ⟨a, dx, us, H1, am, st, Hf, ds, _, _, _, _, _, _, _, _, z⟩ := h
        exact z
    refine ⟨⟨fun vs H Q E h => (no _ _ _ _ h).elim, fun _ _ _ _ _ _ _ _ _ _ _ _ _ h => (no _ _ _ _ h).elim⟩, fun c m hi _ => ?_⟩
    intro A outer s H us vs Q E hr e0 r hsp
    obtain ⟨ws, rest, _, _, _, hq⟩ := hsp
    have h := hq s.heap.objs.size (e0.hok.fresh (Nat.le_refl _))
    have h2 : spD K cl (call (Ds.map (·.fn)) Wn 0) f d (ws ++ [.ref s.heap.objs.size]) (upd H s.heap.objs.size (.tup rest)) Q E := by
      unfold spD
      rw [hi]
      exact h
    exact (no _ _ _ _ h2).elim
  | succ n ih =>
    intro f d hd
    have dk := A.ok f d hd
    obtain ⟨hm, FD⟩ := A.df f d hd
    have ef : (Ds.map (·.fn))[f]? = some d.fn := by rw [List.getElem?_map, hd]; rfl
    have ec : ∀ ds st, call (Ds.map (·.fn)) Wn (n + 1) f ds st = runF (call (Ds.map (·.fn)) Wn n) Wn d.fn ds st := fun ds st => by
      have h : ∀ o : Option Fn, o = some d.fn → (match o with | some fn => runF (call (Ds.map (·.fn)) Wn n) Wn fn ds st | none => O.bad) = runF (call (Ds.map (·.fn)) Wn n) Wn d.fn ds st := fun o e => by rw [e]
      exact h _ ef
    have isnew : ∀ g d', Ds[g]? = some d' → d'.fn.ini = none → d'.fn.fr = true → FnOk Pg w K mg base (L2.CX Pg w) (4 * n + 4) (ad g) (fdf g) d'.ps ((spF K cl (call (Ds.map (·.fn)) Wn n)).pn g) ∧ Binds K (fdf g) d'.ps [] := fun g d' hd' hi hfr => by
      have h := (ih g d' hd').1
      unfold spD at h
      rw [hi] at h
      have h : FnOk Pg w K mg base (L2.CX Pg w) (4 * n + 4) (ad g) (fdf g) d'.ps (if d'.fn.fr then (spF K cl (call (Ds.map (·.fn)) Wn n)).pn g else (spF K cl (call (Ds.map (·.fn)) Wn n)).pl g) := h
      rw [hfr] at h
      exact ⟨h, (A.df g d' hd').2.bindsN (A.bd g d' hd' hi)⟩
    have plain : ∀ g d', Ds[g]? = some d' → d'.fn.ini = none → d'.fn.fr = false → FnOk Pg w K mg base (L2.CX Pg w) (4 * n + 4) (ad g) (fdf g) d'.ps ((spF K cl (call (Ds.map (·.fn)) Wn n)).pl g) ∧ Binds K (fdf g) d'.ps [] := fun g d' hd' hi hfr => by
      have h := (ih g d' hd').1
      unfold spD at h
      rw [hi] at h
      have h : FnOk Pg w K mg base (L2.CX Pg w) (4 * n + 4) (ad g) (fdf g) d'.ps (if d'.fn.fr then (spF K cl (call (Ds.map (·.fn)) Wn n)).pn g else (spF K cl (call (Ds.map (·.fn)) Wn n)).pl g) := h
      rw [hfr] at h
      exact ⟨h, (A.df g d' hd').2.bindsN (A.bd g d' hd' hi)⟩
    have good : ∀ {cdv : Value} {Ar : Around} {outer : List PySem.Env} {s : Shared} {H : Hp} {E : XK} (hr : Room (4 * n + 7) (Ar.deeper (envOfC d.qual (defScope d.st) s.heap.objs.size (ad f) cdv))), GoodS T (spF K cl (call (Ds.map (·.fn)) Wn n)) (4 * n + 4) (cxOf (L2.CX Pg w) Pg w K mg base d.N d.qual (defScope d.st) (ad f) cdv Ar outer s H E) (fun cls dd _ H => E cls dd H) := by
      intro cdv Ar outer s H E hr
      have tk := takes_of (X := cxOf (L2.CX Pg w) Pg w K mg base d.N d.qual (defScope d.st) (ad f) cdv Ar outer s H E) (E := E) rfl rfl rfl rfl
      refine ⟨⟨rfl, dk.sc.nd, hr.mono (by omega), tk, fun f' x hx => ?_, A.gcs, A.bls, fun c fs h => A.exs c fs h _ _ _, fun c m g h => ?_, fun c m g h => ?_, fun c g m ks h => ?_, hr.mono (by omega), A.css, A.kds, fun f' x hx => ?_, fun c m g h => ?_, fun c g m h => ?_, hr.mono (by omega), A.nobool, fun c m g h a ha => ?_, fun c m g h => ?_⟩, fun _ => rfl, dk.sc.kind, passes_of rfl, hr.mono (by omega), rfl, rfl⟩
      · rw [A.fn, List.getElem?_map] at hx
        cases hd' : Ds[f']? with
        | none => rw [hd'] at hx; cases hx
        | some d' =>
          rw [hd'] at hx
          have hx : some (if d'.glo && !d'.fn.fr then some d'.gx else none) = some (some x) := hx
          cases hg : d'.glo with
          | false => rw [hg] at hx; cases hx
          | true =>
            cases hfr : d'.fn.fr with
            | true => rw [hg, hfr] at hx; cases hx
            | false =>
              rw [hg, hfr] at hx
              cases hx
              obtain ⟨hm', FD'⟩ := A.df f' d' hd'
              obtain ⟨m1, m2⟩ := hm' hg
              obtain ⟨p1, p2⟩ := plain f' d' hd' m2 hfr
              exact ⟨ad f', fdf f', d'.ps, m1, FD'.kp, p1, p2⟩
      · obtain ⟨q1, q2, d', hd', hi, hfr⟩ := A.mts c m g h
        obtain ⟨p1, p2⟩ := plain g d' hd' hi hfr
        exact ⟨q1, ad g, fdf g, d'.ps, q2, p1, p2⟩
      · obtain ⟨q1, ⟨p, q2⟩, d', hd', hi, hfr⟩ := A.prs c m g h
        obtain ⟨p1, p2⟩ := plain g d' hd' hi hfr
        exact ⟨q1, p, ad g, fdf g, d'.ps, q2, p1, p2⟩
      · obtain ⟨q1, q2, d', hd', hi, kb⟩ := A.inis c g m ks h
        have h := (ih g d' hd').1
        unfold spD at h
        rw [hi] at h
        exact ⟨q1, ad g, fdf g, d'.ps, q2, h, kbn_of (A.df g d' hd').2 kb⟩
      · rw [A.fnf, List.getElem?_map] at hx
        cases hd' : Ds[f']? with
        | none => rw [hd'] at hx; cases hx
        | some d' =>
          rw [hd'] at hx
          have hx : some (if d'.glo && d'.fn.fr then some d'.gx else none) = some (some x) := hx
          cases hg : d'.glo with
          | false => rw [hg] at hx; cases hx
          | true =>
            cases hfr : d'.fn.fr with
            | false => rw [hg, hfr] at hx; cases hx
            | true =>
              rw [hg, hfr] at hx
              cases hx
              obtain ⟨hm', FD'⟩ := A.df f' d' hd'
              obtain ⟨m1, m2⟩ := hm' hg
              obtain ⟨p1, p2⟩ := isnew f' d' hd' m2 hfr
              exact ⟨ad f', fdf f', d'.ps, m1, FD'.kp, p1, p2⟩
      · obtain ⟨q1, q2, d', hd', hi, hfr⟩ := A.mtfs c m g h
        obtain ⟨p1, p2⟩ := isnew g d' hd' hi hfr
        exact ⟨q1, ad g, fdf g, d'.ps, q2, p1, p2⟩
      · obtain ⟨q1, q2, d', hd', hi, sb⟩ := A.mkxs c g m h
        exact ⟨q1, ad g, q2, (ih g d' hd').2 c m hi sb⟩
      · obtain ⟨q1, q2, d', hd', hi, hfr⟩ := A.mts c m g h
        have e : a = ad g := by
          have z := ha.at_.symm.trans q2.at_
          simpa using z
        subst e
        obtain ⟨oc, od, dV, kV, doc, pm, an, cdv, ct, osl, _, lk, _⟩ := (A.df g d' hd').2.ex
        show (match K.lookup (ad g) with | some ⟨_, _, .func _, _⟩ => true | _ => false) = true
        rw [lk]
      · obtain ⟨q1, d', hd', hi, hfr⟩ := A.sms c m g h
        obtain ⟨p1, p2⟩ := plain g d' hd' hi hfr
        exact ⟨ad g, fdf g, d'.ps, q1, p1, p2⟩
    cases hi : d.fn.ini with
    | none =>
      have hoff : d.off = 0 := by unfold Df.off; rw [hi]; rfl
      have har := dk.ar
      have hnm := dk.nm
      rw [hoff] at har hnm
      have er : ∀ ds st, runF (call (Ds.map (·.fn)) Wn n) Wn d.fn ds st = if ds.length = d.fn.ar ∧ d.fn.ar ≤ d.fn.nm then finK d.fn.fr (ex (call (Ds.map (·.fn)) Wn n) Wn d.fn.body (ds.map Slot.im ++ List.replicate (d.fn.nm - d.fn.ar) Slot.un) st) else .bad := fun ds st => by
        unfold runF
        rw [hi]
      cases hfr : d.fn.fr with
      | false =>
        have esp : spD K cl (call (Ds.map (·.fn)) Wn (n + 1)) f d = (spF K cl (call (Ds.map (·.fn)) Wn (n + 1))).pl f := by unfold spD; rw [hi, hfr]; rfl
        rw [esp]
        refine ⟨?_, fun c m hi' _ => by cases hi'⟩
        refine FD.ok (CX := L2.CX Pg w) (k := 4 * n + 7) dk.sc (fun vs H Q E h => ?_) (fun cdv Ar outer s H vs Q E hr h => ?_)
        · obtain ⟨am, st, Hf, ds, w0, r, P⟩ := h
          rw [ec, er] at P
          split at P
          · rename_i hl
            rw [r.length, hl.1]
            omega
          · exact P.elim
        · obtain ⟨am, st, Hf, ds, w0, r, P⟩ := h
          rw [ec, er, hfr] at P
          refine ⟨tS K (spF K cl (call (Ds.map (·.fn)) Wn n)) (fun cls dd _ H => E cls dd H) d.fn.body, (psall d.fn.body).all (good hr) dk.chk, ?_⟩
          split at P
          · rename_i hl
            refine denS (Wn := Wn) d.fn.body (A.fcs d (List.mem_of_getElem? hd)) (am0 := am) (Hf0 := Hf) (H0 := ⟨H, 0⟩) (amL := am) (HfL := Hf) ⟨.refl _ _ _, .refl _, .refl _⟩ w0 (start_sig r hl.1 hl.2 (by omega)) ?_
            cases hh : ex (call (Ds.map (·.fn)) Wn n) Wn d.fn.body (ds.map Slot.im ++ List.replicate (d.fn.nm - d.fn.ar) Slot.un) st with
            | bad => rw [hh] at P; exact P.elim
            | exc x st' => rw [hh] at P; exact P.elim
            | ok fl st' =>
              rw [hh] at P
              cases fl with
              | next ρ => exact fun σ am' Hf' H' fm wf _ => P .non am' Hf' H' fm.fm wf .non
              | ret v => exact fun v am' Hf' H' fm wf rv => P v am' Hf' H' fm.fm wf rv
              | retf v => exact P.elim
              | brk ρ => exact P.elim
              | cnt ρ => exact P.elim
              | rse x ρ => exact fun σ c dd am' Hf' H' fm wf _ xo => P c dd am' Hf' H' fm.fm wf xo
          · exact P.elim
      | true =>
        have esp : spD K cl (call (Ds.map (·.fn)) Wn (n + 1)) f d = (spF K cl (call (Ds.map (·.fn)) Wn (n + 1))).pn f := by unfold spD; rw [hi, hfr]; rfl
        rw [esp]
        refine ⟨?_, fun c m hi' _ => by cases hi'⟩
        refine FD.ok (CX := L2.CX Pg w) (k := 4 * n + 7) dk.sc (fun vs H Q E h => ?_) (fun cdv Ar outer s H vs Q E hr h => ?_)
        · obtain ⟨am, st, Hf, ds, w0, r, P⟩ := h
          rw [ec, er] at P
          split at P
          · rename_i hl
            rw [r.length, hl.1]
            omega
          · exact P.elim
        · obtain ⟨am, st, Hf, ds, w0, r, P⟩ := h
          rw [ec, er, hfr] at P
          refine ⟨tS K (spF K cl (call (Ds.map (·.fn)) Wn n)) (fun cls dd _ H => E cls dd H) d.fn.body, (psall d.fn.body).all (good hr) dk.chk, ?_⟩
          split at P
          · rename_i hl
            refine denS (Wn := Wn) d.fn.body (A.fcs d (List.mem_of_getElem? hd)) (am0 := am) (Hf0 := Hf) (H0 := ⟨H, 0⟩) (amL := am) (HfL := Hf) ⟨.refl _ _ _, .refl _, .refl _⟩ w0 (start_sig r hl.1 hl.2 (by omega)) ?_
            cases hh : ex (call (Ds.map (·.fn)) Wn n) Wn d.fn.body (ds.map Slot.im ++ List.replicate (d.fn.nm - d.fn.ar) Slot.un) st with
            | bad => rw [hh] at P; exact P.elim
            | exc x st' => rw [hh] at P; exact P.elim
            | ok fl st' =>
              rw [hh] at P
              cases fl with
              | next ρ => exact P.elim
              | ret v => exact P.elim
              | retf v =>
                obtain ⟨ds', e, k⟩ := P
                cases e
                exact fun p vs am' Hf' H' fm wf np hp nf na rr hz => k p vs am' Hf' H' fm.fm wf np hp nf na rr hz
              | brk ρ => exact P.elim
              | cnt ρ => exact P.elim
              | rse x ρ => exact fun σ c dd am' Hf' H' fm wf _ xo => P c dd am' Hf' H' fm.fm wf xo
          · exact P.elim
    | some c =>
      have esp : spD K cl (call (Ds.map (·.fn)) Wn (n + 1)) f d = (spF K cl (call (Ds.map (·.fn)) Wn (n + 1))).ini c f := by unfold spD; rw [hi]
      rw [esp]
      have hoff : d.off = 1 := by unfold Df.off; rw [hi]; rfl
      have har := dk.ar
      have hnm := dk.nm
      rw [hoff] at har hnm
      have hlen : ∀ vs H Q E, spIni K cl (call (Ds.map (·.fn)) Wn (n + 1)) c f vs H Q E → vs.length = d.ps.length := fun vs H Q E h => by
        obtain ⟨a, dx, us, H1, am, st, Hf, ds, rfl, _, _, _, _, _, w0, r, P⟩ := h
        rw [ec] at P
        unfold runF at P
        split at P
        · rename_i hl
          rw [List.length_cons, r.length, hl.1]
          omega
        · exact P.elim
      have body : ∀ (cdv : Value) (Ar : Around) (outer : List PySem.Env) (s : Shared) (H : Hp) (vs : List V) (Q : VK) (E : XK), Room (4 * n + 7) (Ar.deeper (envOfC d.qual (defScope d.st) s.heap.objs.size (ad f) cdv)) → spIni K cl (call (Ds.map (·.fn)) Wn (n + 1)) c f vs H Q E →
          ∃ t, PSs (cxOf (L2.CX Pg w) Pg w K mg base d.N d.qual (defScope d.st) (ad f) cdv Ar outer s H E) (defBody d.st) t ∧ t { nx := fun _ H' => Q .non H', rt := Q } (L2.start d.N vs) H := fun cdv Ar outer s H vs Q E hr h => by
        obtain ⟨a, dx, us, H1, am, st, Hf, ds, rfl, rfl, na, nd, ne, ci, w0, r, P⟩ := h
        rw [ec] at P
        refine ⟨tS K (spF K cl (call (Ds.map (·.fn)) Wn n)) (fun cls dd _ H => E cls dd H) d.fn.body, (psall d.fn.body).all (good hr) dk.chk, ?_⟩
        unfold runF at P
        split at P
        · rename_i hl
          rw [hi] at P
          have P : PostI K cl c a (iniK c (ex (call (Ds.map (·.fn)) Wn n) Wn d.fn.body (.oi c [] :: (ds.map Slot.im ++ List.replicate (d.fn.nm - d.fn.ar) Slot.un)) st)) am Hf H1 Q E := P
          have na' : (upd H1 dx (.own a)) a = none := by rw [upd_ne (fun z => ne z.symm)]; exact na
          have f0 : Fm am Hf H1 am Hf (upd (upd H1 dx (.own a)) a (.ins (He.ga K c) dx [])) := (Fm.own nd).trans (Fm.own na')
          have w1 : Wf K am st Hf (upd (upd H1 dx (.own a)) a (.ins (He.ga K c) dx [])) := (w0.own (w0.nof nd) (w0.notin nd)).own (w0.nof na) (w0.notin na)
          obtain ⟨x, N', eN⟩ : ∃ x N', d.N = x :: N' := by
            cases hN : d.N with
            | nil => rw [hN] at hnm; simp at hnm
            | cons x N' => exact ⟨x, N', rfl⟩
          have sg : Sig K am Hf (upd (upd H1 dx (.own a)) a (.ins (He.ga K c) dx [])) ⟨H1, a⟩ (L2.start d.N (.ref a :: us)) (.oi c [] :: (ds.map Slot.im ++ List.replicate (d.fn.nm - d.fn.ar) Slot.un)) := by
            rw [eN]
            exact start_sigI r hl.1 hl.2 (by rw [← eN]; omega) ci upd_same (w0.nof na) (w0.notin na) na rfl
          refine denS (Wn := Wn) d.fn.body (A.fcs d (List.mem_of_getElem? hd)) (am0 := am) (Hf0 := Hf) (H0 := ⟨H1, a⟩) (amL := am) (HfL := Hf) ⟨f0, .refl _, .refl _⟩ w1 sg ?_
          cases hh : ex (call (Ds.map (·.fn)) Wn n) Wn d.fn.body (.oi c [] :: (ds.map Slot.im ++ List.replicate (d.fn.nm - d.fn.ar) Slot.un)) st with
          | bad => rw [hh] at P; exact P.elim
          | exc x st' => rw [hh] at P; exact P.elim
          | ok fl st' =>
            rw [hh] at P
            cases fl with
            | next ρ =>
              intro σ am' Hf' H' fm wf s'
              match ρ, P, s' with
              | .oi c' fs :: ρ', P, s' =>
                have P : PostI K cl c a (if c' = c then .ok (.ins c fs) st' else .bad) am Hf H1 Q E := P
                split at P
                · rename_i hc
                  subst hc
                  obtain ⟨p, dx', vs, g1, g2, g3, g4, g5, ⟨g6, g7⟩, g8, g9, g10⟩ := s'.slot 0 _ rfl
                  have g7 : p = a := g7
                  subst g7
                  exact P.2 dx' vs am' Hf' H' fm.fm wf g2 g4 g5 g8 g10 g3
                · exact P.elim
              | [], P, s' => exact P.elim
              | .un :: _, P, s' => exact P.elim
              | .im _ :: _, P, s' => exact P.elim
              | .ol _ :: _, P, s' => exact P.elim
              | .od _ :: _, P, s' => exact P.elim
            | ret v => exact P.elim
            | retf v => exact P.elim
            | brk ρ => exact P.elim
            | cnt ρ => exact P.elim
            | rse x ρ => exact fun σ c dd am' Hf' H' fm wf _ xo => P c dd am' Hf' H' fm.fm wf xo
        · exact P.elim
      refine ⟨FD.ok (CX := L2.CX Pg w) (k := 4 * n + 7) dk.sc hlen body, fun c' m hi' sb => ?_⟩
      have ec' : c' = c := (Option.some.inj hi').symm
      subst ec'
      obtain ⟨ps, pv, e1, e2, hb⟩ := sb
      obtain ⟨oc, od, dV, kV, doc, pm, an, cdv, ct, osl, efd, lk, hcd, hD, hK⟩ := FD.ex
      rw [efd] at lk
      rcases hD with ⟨_, rfl⟩ | ⟨e, _⟩
      · have S : FnScope d.N (ps ++ [pv]) (defScope d.st) := by rw [← e1]; exact dk.sc
        have z := StX.fn_star (CX := L2.CX Pg w) (k := 4 * n + 7) (sp := spIni K cl (call (Ds.map (·.fn)) Wn (n + 1)) c' f) lk hcd S StX.cxUp (fun us rest hl => hb kV doc pm an cdv ct us rest hl) (fun A outer s H vs Q E hr h => body cdv A outer s H vs Q E hr h)
        exact z.imp fun vs H Q E ⟨ws, rest, h1, h2, h3, h4⟩ => ⟨ws, rest, h1, by rw [h2, e2], h3, h4⟩
      · exact absurd rfl e
end PF
/-! The facts of the head; the end: a law holds where the interpreter says True of every script. -/
namespace PF
open PySem L2 PySem.Spec PyProof.Rows
/-! ### where a def stands -/
theorem fcB_ok {o : Option PySem.W.CFound} {p c : Addr} (h : fcB o p c = true) : o = some (.get (.builtin "staticmethod.__get__") (.ref p) .none (.ref c)) := by
  unfold fcB at h
  split at h
  · obtain ⟨h1, h⟩ := He.ba h
    obtain ⟨h2, h3⟩ := He.ba h
    rw [of_decide_eq_true h1, of_decide_eq_true h2, of_decide_eq_true h3]
  · cases h
theorem smB_ok {K : PySem.W.Frag} {c m : Str} (h : smB K c m = true) : SmF K c m (stA K c m) := by
  unfold smB at h
  split at h
  · rename_i p e
    split at h
    · rename_i g r mc q1 q2
      obtain ⟨h1, h⟩ := He.ba h
      obtain ⟨h2, h⟩ := He.ba h
      obtain ⟨h3, h4⟩ := He.ba h
      have ea : stA K c m = g := by
        unfold stA
        simp only [e, q1]
      rw [ea]
      exact ⟨⟨mc, h1, p, fcB_ok h2, r, q1⟩, He.eqO_ok h3, h4⟩
    · cases h
  · cases h
theorem prpB_ok {K : PySem.W.Frag} {c f : Str} (h : prpB K c f = true) : ∃ p, PropOf K (He.ga K c) f p (gtA K c f) := by
  unfold prpB at h
  unfold gtA
  split at h
  · rename_i p e
    obtain ⟨h1, h2⟩ := He.ba h
    obtain ⟨h3, h4⟩ := He.ba h2
    split at h4
    · rename_i g r q
      exact ⟨p, e, He.eqO_ok h1, of_decide_eq_true h3, r, by simp only [e, q]⟩
    · cases h4
  · cases h
theorem funA {K : PySem.W.Frag} {a : Addr} {d : Df} (e : fnWa K a = d.val) (c : okA K a d.qual = true) : ∃ fd, FunD K d.x d.qual (defArgs d.st) (defBody d.st) (defScope d.st) [] [] a fd := by
  obtain ⟨kp, c2⟩ := He.ba c
  unfold fnWa at e
  cases q : K.lookup a with
  | none =>
    rw [q] at c2
    cases c2
  | some o =>
    obtain ⟨oc, od, dt, osl⟩ := o
    rw [q] at c2 e
    cases dt with
    | func fd =>
      obtain ⟨n1, n2, n3, n4, n5, n6, n7, n8, n9, n10, n11, n12, n13, n14, n15⟩ := fd
      have e2 : (some (n1, n2, n3, n4, n5, n6, n7, n15) : He.FnW) = some (d.x, d.qual, defArgs d.st, .stmts (defBody d.st), defScope d.st, mainGlobals, [], builtinsNs) := e
      simp only [Option.some.injEq, Prod.mk.injEq] at e2
      obtain ⟨h1, h2, h3, h4, h5, h6, h7, h8⟩ := e2
      subst h1 h2 h3 h4 h5 h6 h7 h8
      have c3 : (PySem.W.codeIn K n13 d.qual && (He.dflB K n8 [] && He.kwdB K n9 [])) = true := c2
      obtain ⟨k1, k2⟩ := He.ba c3
      obtain ⟨k3, k4⟩ := He.ba k2
      exact ⟨_, ⟨oc, od, n8, n9, n10, n11, n12, n13, n14, osl, rfl, q, k1, He.dflB_ok k3, He.kwdB_ok k4⟩, kp⟩
    | _ => cases c2
/-! ### the Hook -/
/-- no error leaves the law -/
theorem FnOk.calm {P : Program} {w : World} {K : PySem.W.Frag} {mg : Str → Option Value} {base : Heap} {k : Nat} {f : Addr} {fd : FuncData} {ps : List Str} {sp : Sp} (G : FnOk P w K mg base (L2.CX P w) k f fd ps sp) :
    FnOk P w K mg base CX0 k f fd ps (fun vs H Q _ => sp vs H Q fun _ _ _ => False) := by
  refine ⟨fun vs H Q E h => G.len _ _ _ _ h, fun A outer s H args us vs Q E hr he hb hv h => codeAny_mono (G.run A outer s H args us vs Q (fun _ _ _ => False) hr he hb hv h) fun r s' q => ?_⟩
  cases r with
  | ok fl =>
    cases fl with
    | ret u => exact q
    | next => exact q
    | brk => exact q
    | cont => exact q
  | error e =>
    obtain ⟨_, _, _, _, _, _, _, _, _, _, _, _, z⟩ := q
    exact z.elim
structure XdOk (d : Xd) : Prop where
  sc : FnScope ("self" :: d.fs) ("self" :: d.fs) (defScope d.st)
  bd : ∀ (kV doc pm : Value) (an : Option Addr) (cdv ct : Value) (us : List Value), us.length = (("self" :: d.fs : List Str)).length → bindArgs (PySem.W.fnOf "__init__" d.qual (defArgs d.st) (defBody d.st) (defScope d.st) .none kV doc pm an cdv ct) ⟨us, []⟩ = pure (("self" :: d.fs : List Str).zip us)
  chk : chkIn ("self" :: d.fs) (defScope d.st) d.fs 1 (defBody d.st) = true
  few : d.fs.length ≤ 800
theorem says_mem {fa : List He.Fa} {fn : List He.DefD} {K : PySem.W.Frag} (c : He.SaysD fa fn K) {f : He.Fa} (h : f ∈ fa) : f.ok K = true := by
  obtain ⟨i, hi⟩ := List.mem_iff_getElem?.mp h
  exact c.fact i hi
theorem says_def {fa : List He.Fa} {fn : List He.DefD} {K : PySem.W.Frag} (c : He.SaysD fa fn K) {d : He.DefD} (h : d ∈ fn) : ∃ fd, FunD K d.name d.qual d.params d.body d.scope (He.DefD.dvs K d) (He.DefD.kws K d) (He.fAd K d.at_) fd := by
  obtain ⟨i, hi⟩ := List.mem_iff_getElem?.mp h
  exact c.def_ i hi
/-- the tables fit the defs -/
structure TbOk (T : Tb) (Ds : List Df) (Xs : List Xd) (Ks : List Kd) (ats : List At) : Prop where
  fn : T.fn = Ds.map (fun d => if d.glo && !d.fn.fr then some d.gx else none)
  fnf : T.fnf = Ds.map (fun d => if d.glo && d.fn.fr then some d.gx else none)
  ex : T.ex = Xs.map fun x => (x.c, x.fs)
  kd : T.kd = Ks.map (·.1)
  ad : Ds.map (·.ad) = ats.map fun a K => At.ad K a
  gc : T.gc.all gcOkB = true
  glo : (Ds.zip ats).all (fun q => !q.1.glo || (decide (q.2 = .g q.1.gx) && q.1.fn.ini.isNone)) = true
  mt : T.mt.all (fun q => decide (ats[q.2]? = some (.m q.1.1 q.1.2)) && (match Ds[q.2]? with | some d => d.fn.ini.isNone && !d.fn.fr | none => false)) = true
  mtf : T.mtf.all (fun q => decide (ats[q.2]? = some (.m q.1.1 q.1.2)) && (match Ds[q.2]? with | some d => d.fn.ini.isNone && d.fn.fr | none => false)) = true
  pr : T.pr.all (fun q => decide (ats[q.2]? = some (.p q.1.1 q.1.2)) && (match Ds[q.2]? with | some d => d.fn.ini.isNone && !d.fn.fr | none => false)) = true
  mks : T.mks.all (fun q => decide (ats[q.2.1]? = some (.m q.1 "__init__")) && (match Ds[q.2.1]? with | some d => decide (d.fn.ini = some q.1) | none => false)) = true
  mkx : T.mkx.all (fun q => decide (ats[q.2.1]? = some (.m q.1 "__init__")) && (match Ds[q.2.1]? with | some d => decide (d.fn.ini = some q.1) | none => false)) = true
  sm : T.sm.all (fun q => decide (ats[q.2]? = some (.s q.1.1 q.1.2)) && (match Ds[q.2]? with | some d => d.fn.ini.isNone && !d.fn.fr | none => false)) = true
  sb : ∀ q ∈ T.mkx, ∀ d, Ds[q.2.1]? = some d → SbOk d q.2.2
  ok : ∀ (f : Nat) (d : Df), Ds[f]? = some d → DfOk T d
  bd : ∀ (f : Nat) (d : Df), Ds[f]? = some d → d.fn.ini = none → BdOk d
  kb : ∀ q ∈ T.mks, ∀ d, Ds[q.2.1]? = some d → KbOk d q.2.2.1 q.2.2.2
  xk : ∀ x ∈ Xs, XdOk x
theorem isNone_eq {α : Type} {o : Option α} (h : o.isNone = true) : o = none := by cases o <;> first | rfl | cases h
theorem facts_of {T : Tb} {Ds : List Df} {Xs : List Xd} {Ks : List Kd} {ats : List At} {K : PySem.W.Frag} {w : World} {h : Heap} {mg : Str → Option Value} (B : TbOk T Ds Xs Ks ats) (X : K.In h) (G : h.Ns mainGlobals mg)
    (cx : He.SaysX (faOf T Xs) (fnsOf Xs) (tsOf Ks) [] (exB T Ds Xs) w h K) (hg : ((gsOf Ds).map fun d => fnWa K (d.1 K)) = (gsOf Ds).map (·.2)) : ∃ (ad : Nat → Addr) (fdf : Nat → FuncData), Facts T Ds K w mg ad fdf := by
  have c : He.SaysD (faOf T Xs) (fnsOf Xs) K := cx.t.d
  obtain ⟨x1, xb⟩ := He.ba cx.more
  obtain ⟨x2, xb⟩ := He.ba xb
  obtain ⟨x3, xb⟩ := He.ba xb
  obtain ⟨x4, xb⟩ := He.ba xb
  obtain ⟨x5, xb⟩ := He.ba xb
  obtain ⟨x6, xb⟩ := He.ba xb
  obtain ⟨x7, x8⟩ := He.ba xb
  -- the facts, kind by kind
  have m1 : ∀ x ∈ T.bl, (He.Fa.free x).ok K = true := fun x hx => says_mem c (List.mem_append_left _ (List.mem_map.mpr ⟨x, hx, rfl⟩))
  have m2 : ∀ q ∈ T.gc, (gcFa q).ok K = true := fun q hq => says_mem c (List.mem_append_right _ (List.mem_append_left _ (List.mem_map.mpr ⟨q, hq, rfl⟩)))
  have m3 : ∀ x ∈ Xs, (He.Fa.glo x.c).ok K = true := fun x hx => says_mem c (List.mem_append_right _ (List.mem_append_right _ (List.mem_append_left _ (List.mem_map.mpr ⟨x, hx, rfl⟩))))
  have m4 : ∀ x ∈ Xs, ∀ f ∈ x.fs, (He.Fa.noat x.c f).ok K = true := fun x hx f hf => says_mem c (List.mem_append_right _ (List.mem_append_right _ (List.mem_append_right _ (List.mem_append_left _ (List.mem_flatMap.mpr ⟨x, hx, List.mem_map.mpr ⟨f, hf, rfl⟩⟩)))))
  have m5 : ∀ x ∈ T.cs, (He.Fa.glo x).ok K = true := fun x hx => says_mem c (List.mem_append_right _ (List.mem_append_right _ (List.mem_append_right _ (List.mem_append_right _ (List.mem_append_left _ (List.mem_map.mpr ⟨x, hx, rfl⟩))))))
  have m6 : ∀ x ∈ T.kd, (He.Fa.glo x).ok K = true := fun x hx => says_mem c (List.mem_append_right _ (List.mem_append_right _ (List.mem_append_right _ (List.mem_append_right _ (List.mem_append_right _ (List.mem_append_left _ (List.mem_map.mpr ⟨x, hx, rfl⟩)))))))
  have m7 : ∀ q ∈ T.mks, (He.Fa.glo q.1).ok K = true ∧ (He.Fa.mkr q.1).ok K = true := fun q hq =>
    have k : ∀ f ∈ ([.glo q.1, .mkr q.1] : List He.Fa), f.ok K = true := fun f hf => says_mem c (List.mem_append_right _ (List.mem_append_right _ (List.mem_append_right _ (List.mem_append_right _ (List.mem_append_right _ (List.mem_append_right _ (List.mem_append_left _ (List.mem_flatMap.mpr ⟨q, hq, hf⟩))))))))
    ⟨k _ (by simp), k _ (by simp)⟩
  have m8 : ∀ q ∈ T.mt, (He.Fa.meth q.1.1 q.1.2).ok K = true := fun q hq => says_mem c (List.mem_append_right _ (List.mem_append_right _ (List.mem_append_right _ (List.mem_append_right _ (List.mem_append_right _ (List.mem_append_right _ (List.mem_append_right _ (List.mem_append_left _ (List.mem_map.mpr ⟨q, hq, rfl⟩)))))))))
  have m9 : ∀ q ∈ T.mtf, (He.Fa.meth q.1.1 q.1.2).ok K = true := fun q hq => says_mem c (List.mem_append_right _ (List.mem_append_right _ (List.mem_append_right _ (List.mem_append_right _ (List.mem_append_right _ (List.mem_append_right _ (List.mem_append_right _ (List.mem_append_right _ (List.mem_append_left _ (List.mem_map.mpr ⟨q, hq, rfl⟩))))))))))
  have m10 : ∀ q ∈ T.mkx, (He.Fa.glo q.1).ok K = true ∧ (He.Fa.mkr q.1).ok K = true := fun q hq =>
    have k : ∀ f ∈ ([.glo q.1, .mkr q.1] : List He.Fa), f.ok K = true := fun f hf => says_mem c (List.mem_append_right _ (List.mem_append_right _ (List.mem_append_right _ (List.mem_append_right _ (List.mem_append_right _ (List.mem_append_right _ (List.mem_append_right _ (List.mem_append_right _ (List.mem_append_right _ (List.mem_flatMap.mpr ⟨q, hq, hf⟩))))))))))
    ⟨k _ (by simp), k _ (by simp)⟩
  have hc : ∀ q ∈ T.mt ++ T.mtf ++ T.pr, Cls K (He.ga K q.1.1) := fun q hq => He.cls_ok (List.all_eq_true.mp x6 q hq)
  -- addresses
  have ha : ∀ (f : Nat) (a : At) (d : Df), ats[f]? = some a → Ds[f]? = some d → d.ad = fun K => At.ad K a := fun f a d h1 h2 => by
    have e := congrArg (fun l => l[f]?) B.ad
    simp only [List.getElem?_map, h1, h2, Option.map_some, Option.some.injEq] at e
    exact e
  have key : ∀ f : Nat, ∃ (a : Addr) (fd : FuncData), ∀ d, Ds[f]? = some d → a = d.ad K ∧ FunD K d.x d.qual (defArgs d.st) (defBody d.st) (defScope d.st) [] [] a fd := fun f => by
    cases hd : Ds[f]? with
    | none => exact ⟨0, default, fun d e => by cases e⟩
    | some d =>
      have hm : d ∈ Ds := List.mem_of_getElem? hd
      have e := congrArg (fun l => l[f]?) hg
      unfold gsOf at e
      simp only [List.getElem?_map, hd, Option.map_some, Option.some.injEq] at e
      obtain ⟨fd, F⟩ := funA (d := d) e (List.all_eq_true.mp x2 d hm)
      refine ⟨d.ad K, fd, fun d' e => ?_⟩
      cases e
      exact ⟨rfl, F⟩
  obtain ⟨ad, fdf, hk⟩ : ∃ (ad : Nat → Addr) (fdf : Nat → FuncData), ∀ f d, Ds[f]? = some d → ad f = d.ad K ∧ FunD K d.x d.qual (defArgs d.st) (defBody d.st) (defScope d.st) [] [] (ad f) (fdf f) :=
    ⟨fun f => Classical.choose (key f), fun f => Classical.choose (Classical.choose_spec (key f)), fun f d hd => Classical.choose_spec (Classical.choose_spec (key f)) d hd⟩
  have e1 : ∀ f d, Ds[f]? = some d → ad f = d.ad K := fun f d hd => (hk f d hd).1
  refine ⟨ad, fdf, B.fn, B.fnf, B.ok, B.bd, fun f d hd => ?_, fun x d hx => ?_, fun x hx => ?_, fun c' fs hx P w' base => ?_, fun d hd f hf => ?_, fun c' m g hq => ?_, fun c' m g hq => ?_, fun c' m g hq => ?_, fun c' g n ks hq => ?_, fun c' g m hq => ?_, fun c' g hq => ?_, fun c' m g hq => ?_, fun c' hx => ?_, fun x hx => ?_⟩
  · obtain ⟨p1, p2⟩ := hk f d hd
    refine ⟨fun hgl => ?_, p2⟩
    have hm : d ∈ Ds := List.mem_of_getElem? hd
    have hla : f < ats.length := by
      have e := congrArg List.length B.ad
      rw [List.length_map, List.length_map] at e
      rw [← e]
      exact (List.getElem?_eq_some_iff.mp hd).1
    have hz : (Ds.zip ats)[f]? = some (d, ats[f]) := by
      rw [List.getElem?_zip_eq_some]
      exact ⟨hd, List.getElem?_eq_getElem hla⟩
    have hb := List.all_eq_true.mp B.glo _ (List.mem_of_getElem? hz)
    rw [hgl] at hb
    obtain ⟨b1, b2⟩ := He.ba (show (decide (ats[f] = .g d.gx) && d.fn.ini.isNone) = true from hb)
    have b1 := of_decide_eq_true b1
    refine ⟨?_, isNone_eq b2⟩
    rw [p1, ha f _ d (List.getElem?_eq_getElem hla) hd, b1]
    show mg d.gx = some (.ref (He.ga K d.gx))
    have q := List.all_eq_true.mp x4 d hm
    rw [hgl] at q
    exact He.glo_ok X G (x := d.gx) (show decide (PySem.W.nsIn K mainGlobals d.gx = some (some (.ref (He.ga K d.gx)))) = true from q)
  · have hm : (x, d) ∈ T.gc := PySem.mem_of_lookup hx
    have hq := m2 _ hm
    have hgo := List.all_eq_true.mp B.gc _ hm
    cases d with
    | int i =>
      obtain ⟨t, e⟩ := He.int_ok X G hq
      exact ⟨_, e, t, rfl⟩
    | str s =>
      obtain ⟨t, e⟩ := He.str_ok X G hq
      exact ⟨_, e, t, rfl⟩
    | _ => cases hgo
  · exact He.free_ok X G (m1 x (List.contains_iff_mem.mp hx))
  · rw [B.ex] at hx
    obtain ⟨x, hm, e⟩ := List.mem_map.mp (PySem.mem_of_lookup hx)
    cases e
    have xk := B.xk x hm
    have hb := List.all_eq_true.mp x1 x hm
    obtain ⟨hb, b4⟩ := and4 hb
    obtain ⟨hb, b3⟩ := and4 hb
    obtain ⟨b1, b2⟩ := and4 hb
    have ox := oexB_ok b1
    have no : ∀ f ∈ x.fs, PySem.W.findIn K (.ref (He.ga K x.c)) f = some none := fun f hf => He.noat_ok (m4 x hm f hf)
    obtain ⟨fd, F⟩ := says_def c (d := ⟨(x.c, some "__init__"), "__init__", x.qual, defArgs x.st, defBody x.st, defScope x.st, [], []⟩) (List.mem_map.mpr ⟨x, hm, rfl⟩)
    exact ⟨He.glo_ok X G (m3 x hm), ox, xfB_ok b2, no, _, fd, of_decide_eq_true b3, of_decide_eq_true b4, init_ok (N := []) F xk.sc xk.chk ox no xk.few, FunD.bindsN F xk.bd⟩
  · exact List.all_eq_true.mp (List.all_eq_true.mp x3 d hd) f hf
  · have hb := List.all_eq_true.mp B.mt _ hq
    obtain ⟨b1, b2⟩ := He.ba hb
    have b1 := of_decide_eq_true b1
    refine ⟨hc _ (List.mem_append_left _ (List.mem_append_left _ hq)), ?_⟩
    cases hd : Ds[g]? with
    | none =>
      have b2 : (match Ds[g]? with | some d => d.fn.ini.isNone && !d.fn.fr | none => false) = true := b2
      rw [hd] at b2
      cases b2
    | some d =>
      have b2 : (match Ds[g]? with | some d => d.fn.ini.isNone && !d.fn.fr | none => false) = true := b2
      rw [hd] at b2
      obtain ⟨b3, b4⟩ := He.ba b2
      refine ⟨?_, d, rfl, isNone_eq b3, by cases h : d.fn.fr <;> simp_all⟩
      have e2 := (e1 g d hd).trans (congrFun (ha g _ d b1 hd) K)
      show Meth K (He.ga K c') m (ad g)
      rw [e2]
      exact He.meth_ok (m8 _ hq)
  · have hb := List.all_eq_true.mp B.mtf _ hq
    obtain ⟨b1, b2⟩ := He.ba hb
    have b1 := of_decide_eq_true b1
    refine ⟨hc _ (List.mem_append_left _ (List.mem_append_right _ hq)), ?_⟩
    cases hd : Ds[g]? with
    | none =>
      have b2 : (match Ds[g]? with | some d => d.fn.ini.isNone && d.fn.fr | none => false) = true := b2
      rw [hd] at b2
      cases b2
    | some d =>
      have b2 : (match Ds[g]? with | some d => d.fn.ini.isNone && d.fn.fr | none => false) = true := b2
      rw [hd] at b2
      obtain ⟨b3, b4⟩ := He.ba b2
      refine ⟨?_, d, rfl, isNone_eq b3, b4⟩
      have e2 := (e1 g d hd).trans (congrFun (ha g _ d b1 hd) K)
      show Meth K (He.ga K c') m (ad g)
      rw [e2]
      exact He.meth_ok (m9 _ hq)
  · have hb := List.all_eq_true.mp B.pr _ hq
    obtain ⟨b1, b2⟩ := He.ba hb
    have b1 := of_decide_eq_true b1
    refine ⟨hc _ (List.mem_append_right _ hq), ?_⟩
    cases hd : Ds[g]? with
    | none =>
      have b2 : (match Ds[g]? with | some d => d.fn.ini.isNone && !d.fn.fr | none => false) = true := b2
      rw [hd] at b2
      cases b2
    | some d =>
      have b2 : (match Ds[g]? with | some d => d.fn.ini.isNone && !d.fn.fr | none => false) = true := b2
      rw [hd] at b2
      obtain ⟨b3, b4⟩ := He.ba b2
      refine ⟨?_, d, rfl, isNone_eq b3, by cases h : d.fn.fr <;> simp_all⟩
      have e2 := (e1 g d hd).trans (congrFun (ha g _ d b1 hd) K)
      show ∃ p, PropOf K (He.ga K c') m p (ad g)
      rw [e2]
      exact prpB_ok (List.all_eq_true.mp x5 _ hq)
  · have hb := List.all_eq_true.mp B.mks _ hq
    obtain ⟨b1, b2⟩ := He.ba hb
    have b1 := of_decide_eq_true b1
    obtain ⟨q1, q2⟩ := m7 _ hq
    refine ⟨He.glo_ok X G q1, ?_⟩
    cases hd : Ds[g]? with
    | none =>
      have b2 : (match Ds[g]? with | some d => decide (d.fn.ini = some c') | none => false) = true := b2
      rw [hd] at b2
      cases b2
    | some d =>
      have b2 : (match Ds[g]? with | some d => decide (d.fn.ini = some c') | none => false) = true := b2
      rw [hd] at b2
      refine ⟨?_, d, rfl, of_decide_eq_true b2, B.kb _ hq d hd⟩
      have e2 := (e1 g d hd).trans (congrFun (ha g _ d b1 hd) K)
      show Mk K (He.ga K c') (ad g)
      rw [e2]
      exact He.mkr_ok q2
  · have hb := List.all_eq_true.mp B.mkx _ hq
    obtain ⟨b1, b2⟩ := He.ba hb
    have b1 := of_decide_eq_true b1
    obtain ⟨q1, q2⟩ := m10 _ hq
    refine ⟨He.glo_ok X G q1, ?_⟩
    cases hd : Ds[g]? with
    | none =>
      have b2 : (match Ds[g]? with | some d => decide (d.fn.ini = some c') | none => false) = true := b2
      rw [hd] at b2
      cases b2
    | some d =>
      have b2 : (match Ds[g]? with | some d => decide (d.fn.ini = some c') | none => false) = true := b2
      rw [hd] at b2
      refine ⟨?_, d, rfl, of_decide_eq_true b2, B.sb _ hq d hd⟩
      have e2 := (e1 g d hd).trans (congrFun (ha g _ d b1 hd) K)
      show Mk K (He.ga K c') (ad g)
      rw [e2]
      exact He.mkr_ok q2
  · have hb := List.all_eq_true.mp x8 _ hq
    have hb : (decide (("__len__" : Str) ≠ "__len__") || (He.Fa.noat c' "__bool__").ok K) = true := hb
    simp only [ne_eq, not_true_eq_false, decide_false, Bool.false_or] at hb
    exact He.noat_ok hb
  · have hb := List.all_eq_true.mp B.sm _ hq
    obtain ⟨b1, b2⟩ := He.ba hb
    have b1 := of_decide_eq_true b1
    cases hd : Ds[g]? with
    | none =>
      have b2 : (match Ds[g]? with | some d => d.fn.ini.isNone && !d.fn.fr | none => false) = true := b2
      rw [hd] at b2
      cases b2
    | some d =>
      have b2 : (match Ds[g]? with | some d => d.fn.ini.isNone && !d.fn.fr | none => false) = true := b2
      rw [hd] at b2
      obtain ⟨b3, b4⟩ := He.ba b2
      refine ⟨?_, d, rfl, isNone_eq b3, by cases h : d.fn.fr <;> simp_all⟩
      have e2 := (e1 g d hd).trans (congrFun (ha g _ d b1 hd) K)
      rw [e2]
      exact smB_ok (List.all_eq_true.mp x7 _ hq)
  · exact He.glo_ok X G (m5 c' (List.contains_iff_mem.mp hx))
  · have hx := List.contains_iff_mem.mp hx
    refine ⟨He.glo_ok X G (m6 x hx), ?_⟩
    rw [B.kd] at hx
    obtain ⟨q, hq, rfl⟩ := List.mem_map.mp hx
    obtain ⟨i, hi⟩ := List.mem_iff_getElem?.mp hq
    exact cx.t.tab i (t := (fun K => He.ga K q.1, q.2)) (by unfold tsOf; rw [List.getElem?_map, hi]; rfl)
/-- the interpreter's run of the law -/
def lawRun (Ds : List Df) (Wn n f : Nat) (ns : List Int) : O D := call (Ds.map (·.fn)) Wn n f [.scr (ns.map .int)] []
theorem repInts {K : PySem.W.Frag} {am : List Addr} {H : Hp} : ∀ ns : List Int, RepL K am H (ns.map V.int) (ns.map D.int)
  | [] => .nil
  | i :: r => .cons (.int i) (repInts r)
theorem law_sp {K : PySem.W.Frag} {Ds : List Df} {Wn n f : Nat} {H : Hp} {a : Addr} {ns : List Int} (hl : ns.length ≤ 63) (hS : SqL K H a (ns.map V.int)) (hr : ∃ st, lawRun Ds Wn n f ns = .ok (.bl true) st) :
    spOf K (fun _ => 0) (call (Ds.map (·.fn)) Wn n) f [.ref a] H (fun v _ => v = .bl true) fun _ _ _ => False := by
  obtain ⟨st, e⟩ := hr
  refine ⟨[], [], H, [.scr (ns.map .int)], ⟨rfl, .nil, .refl _, fun n a c h => by simp at h, fun a h => by cases h⟩, .cons (.scr (by rw [List.length_map]; exact Nat.le_trans hl (by decide)) hS (repInts ns)) .nil, ?_⟩
  unfold lawRun at e
  rw [e]
  exact fun v am' Hf' H' _ _ r => r.vBl
end PF
/-! Reasoning about the interpreter: loops, comprehensions, pools. -/
namespace PF
open PySem L2
theorem call_at {T : List Fn} {W n f : Nat} {fn : Fn} (h : T[f]? = some fn) (args : List D) (st : Store) : call T W (n + 1) f args st = runF (call T W n) W fn args st := by
  show (match T[f]? with | some fn => runF (call T W n) W fn args st | none => .bad) = _
  rw [h]
theorem mapO_pure {f : D → Store → O (Option D)} {g : D → D} : ∀ {xs : List D} {st : Store}, (∀ x ∈ xs, ∀ st, f x st = .ok (some (g x)) st) → mapO f xs st = .ok (xs.map g) st
  | [], st, _ => rfl
  | x :: xs, st, h => by
    rw [mapO, h x List.mem_cons_self]
    show (mapO f xs st).bind _ = _
    rw [mapO_pure fun y hy => h y (List.mem_cons_of_mem _ hy)]
    rfl
theorem mapO_filter {f : D → Store → O (Option D)} {g : D → D} {p : D → Bool} : ∀ {xs : List D} {st : Store}, (∀ x ∈ xs, ∀ st, f x st = .ok (if p x then some (g x) else none) st) → mapO f xs st = .ok ((xs.filter p).map g) st
  | [], st, _ => rfl
  | x :: xs, st, h => by
    rw [mapO, h x List.mem_cons_self]
    show (mapO f xs st).bind _ = _
    rw [mapO_filter fun y hy => h y (List.mem_cons_of_mem _ hy)]
    cases hp : p x
    · simp [hp]
    · simp [hp]
/-- a comprehension whose elements hang on the store: an invariant of the store -/
theorem mapO_inv {f : D → Store → O (Option D)} (I : Store → Prop) (R : D → Prop) : ∀ {xs : List D} {st : Store}, I st → (∀ x ∈ xs, ∀ st, I st → ∃ y st', f x st = .ok (some y) st' ∧ I st' ∧ R y) → ∃ ys st', mapO f xs st = .ok ys st' ∧ I st' ∧ ys.length = xs.length ∧ ∀ y ∈ ys, R y
  | [], st, h, _ => ⟨[], st, rfl, h, rfl, fun y hy => by cases hy⟩
  | x :: xs, st, h, k => by
    obtain ⟨y, st1, e1, i1, r1⟩ := k x List.mem_cons_self st h
    obtain ⟨ys, st2, e2, i2, l2, r2⟩ := mapO_inv I R i1 fun z hz => k z (List.mem_cons_of_mem _ hz)
    refine ⟨y :: ys, st2, ?_, i2, by rw [List.length_cons, List.length_cons, l2], fun z hz => ?_⟩
    · rw [mapO, e1]
      show (mapO f xs st1).bind _ = _
      rw [e2]
      rfl
    · rcases List.mem_cons.mp hz with rfl | hz
      · exact r1
      · exact r2 z hz
theorem forO_inv {f : D → Env → Store → O Fl} (I : Env → Store → Prop) : ∀ {xs : List D} {ρ : Env} {st : Store}, I ρ st → (∀ x ∈ xs, ∀ ρ st, I ρ st → ∃ ρ' st', f x ρ st = .ok (.next ρ') st' ∧ I ρ' st') → ∃ ρ' st', forO f xs ρ st = .ok (.next ρ') st' ∧ I ρ' st'
  | [], ρ, st, h, _ => ⟨ρ, st, rfl, h⟩
  | x :: xs, ρ, st, h, k => by
    obtain ⟨ρ1, st1, e1, i1⟩ := k x List.mem_cons_self ρ st h
    obtain ⟨ρ2, st2, e2, i2⟩ := forO_inv I i1 fun z hz => k z (List.mem_cons_of_mem _ hz)
    refine ⟨ρ2, st2, ?_, i2⟩
    rw [forO, e1]
    exact e2
theorem boolsOf_map (p : D → Bool) : ∀ xs : List D, boolsOf (xs.map fun x => .bl (p x)) = some (xs.map p)
  | [] => rfl
  | x :: xs => by rw [List.map_cons, boolsOf, boolsOf_map p xs]; rfl
theorem kit_str : kitB "str" "str" = some true := by decide +kernel
theorem kit_str_non : kitB "NoneType" "str" = some false := by decide +kernel
theorem kit_str_bl : kitB "bool" "str" = some false := by decide +kernel
theorem kit_str_int : kitB "int" "str" = some false := by decide +kernel
theorem kit_str_lst : kitB "list" "str" = some false := by decide +kernel
theorem kit_str_tup : kitB "tuple" "str" = some false := by decide +kernel
theorem kit_str_dct : kitB "dict" "str" = some false := by decide +kernel
/-- a pool: its great number, its seed -/
def PoolAt (st : Store) (a : Nat) : Prop := ∃ g s : Int, st[a]? = some (.lst [.int g, .int s]) ∧ 0 ≤ s ∧ s < 2147483647
theorem PoolAt.lt {st : Store} {a : Nat} (h : PoolAt st a) : a < st.length := by
  obtain ⟨g, s, e, _⟩ := h
  exact (List.getElem?_eq_some_iff.mp e).1
theorem PoolAt.set {st : Store} {a : Nat} (h : a < st.length) (g s : Int) (h1 : 0 ≤ s) (h2 : s < 2147483647) : PoolAt (st.set a (.lst [.int g, .int s])) a := ⟨g, s, by rw [List.getElem?_set_self h], h1, h2⟩
/-! ### one rule a form, for simp -/
section
variable {C : Calls} {W : Nat} {ρ : Env} {st : Store}
@[simp] theorem ev_var {i : Nat} : ev C (.var i) ρ st = lift (slotD ρ i) st := rfl
@[simp] theorem ev_cst {d : D} : ev C (.cst d) ρ st = if okC d then .ok d st else .bad := rfl
@[simp] theorem ev_glb {x : Str} {d : D} : ev C (.glb x d) ρ st = if okC d then .ok d st else .bad := rfl
@[simp] theorem ev_bin {o : BOp} {a b : E} : ev C (.bin o a b) ρ st = (opd a (ev C a) ρ st).bind fun x st => (opd b (ev C b) ρ st).bind fun y st => lift (binD o x y) st := rfl
@[simp] theorem ev_neg {a : E} : ev C (.neg a) ρ st = (ev C a ρ st).bind fun x st => lift (match x with | .int i => some (.int (-i)) | _ => none) st := rfl
@[simp] theorem ev_cmp {o : COp} {a b : E} : ev C (.cmp o a b) ρ st = (opd a (ev C a) ρ st).bind fun x st => (opd b (ev C b) ρ st).bind fun y st => lift ((cmpD o x y).map .bl) st := rfl
@[simp] theorem ev_chn {o p : COp} {a b c : E} : ev C (.chn o p a b c) ρ st = (opd a (ev C a) ρ st).bind fun x st => (opd b (ev C b) ρ st).bind fun y st => (lift (cmpD o x y) st).bind fun k st =>
      if k then (opd c (ev C c) ρ st).bind fun z st => lift ((cmpD p y z).map .bl) st else .ok (.bl false) st := rfl
@[simp] theorem ev_and {a b : E} : ev C (.and a b) ρ st = (ev C a ρ st).bind fun x st => (lift (truthD x) st).bind fun k st => if k then ev C b ρ st else .ok x st := rfl
@[simp] theorem ev_or {a b : E} : ev C (.or a b) ρ st = (ev C a ρ st).bind fun x st => (lift (truthD x) st).bind fun k st => if k then .ok x st else ev C b ρ st := rfl
@[simp] theorem ev_not {a : E} : ev C (.not a) ρ st = (opd a (ev C a) ρ st).bind fun x st => lift ((truthD x).map fun k => .bl !k) st := rfl
@[simp] theorem ev_ite {c a b : E} : ev C (.ite c a b) ρ st = (evT C c ρ st).bind fun k st => if k then ev C a ρ st else ev C b ρ st := rfl
@[simp] theorem ev_tup {a : E} : ev C (.tup a) ρ st = (evs C a ρ st).bind fun xs st => if xs.length ≤ line then .ok (.tup xs) st else .bad := rfl
@[simp] theorem ev_lst {a : E} : ev C (.lst a) ρ st = (evs C a ρ st).bind fun xs st => if xs.length ≤ line then .ok (.lst xs) st else .bad := rfl
@[simp] theorem ev_new {a : E} : ev C (.new a) ρ st = (evs C a ρ st).bind fun xs st => if xs.length ≤ line then .ok (.ref st.length) (st ++ [.lst xs]) else .bad := rfl
@[simp] theorem ev_dsp {a : E} : ev C (.dsp a) ρ st = (evp C a ρ st).bind fun ps st => lift (dspD ps) st := rfl
@[simp] theorem ev_idx {a b : E} : ev C (.idx a b) ρ st = (opd a (ev C a) ρ st).bind fun x st => (ev C b ρ st).bind fun y st => lift (idxD st x y) st := rfl
@[simp] theorem ev_slc {a lo hi : E} : ev C (.slc a lo hi) ρ st = (opd a (ev C a) ρ st).bind fun x st =>
      (if isNil lo then .ok none st else (ev C lo ρ st).bind fun l st => lift (partD l) st).bind fun l st =>
      (if isNil hi then .ok none st else (ev C hi ρ st).bind fun h st => lift (partD h) st).bind fun h st => lift (slcD x l h) st := rfl
@[simp] theorem ev_cb {f : BF} {a : E} : ev C (.cb f a) ρ st = (evo C a ρ st).bind fun xs st => lift (bfD st f xs) st := rfl
@[simp] theorem ev_bm {m : BM} {o a : E} : ev C (.bm m o a) ρ st = (ev C o ρ st).bind fun x st => if bmKind m x then (evo C a ρ st).bind fun xs st => lift (bmD st m x xs) st else .bad := rfl
@[simp] theorem ev_call {f : Nat} {a : E} : ev C (.call f a) ρ st = (evs C a ρ st).bind fun xs st => C f xs st := rfl
@[simp] theorem evs_nil : evs C .nil ρ st = .ok [] st := rfl
@[simp] theorem evs_cons {a b : E} : evs C (.cons a b) ρ st = (ev C a ρ st).bind fun x st => (evs C b ρ st).bind fun xs st => .ok (x :: xs) st := rfl
@[simp] theorem evp_nil : evp C .nil ρ st = .ok [] st := rfl
@[simp] theorem evp_con2 {k v r : E} : evp C (.con2 k v r) ρ st = (ev C k ρ st).bind fun x st => (ev C v ρ st).bind fun y st => (evp C r ρ st).bind fun ps st => .ok ((x, y) :: ps) st := rfl
@[simp] theorem evo_nil : evo C .nil ρ st = .ok [] st := rfl
@[simp] theorem evo_cons {a b : E} : evo C (.cons a b) ρ st = (opd a (ev C a) ρ st).bind fun x st => (evo C b ρ st).bind fun xs st => .ok (x :: xs) st := rfl
@[simp] theorem evT_and {a b : E} : evT C (.and a b) ρ st = (evT C a ρ st).bind fun k st => if k then evT C b ρ st else .ok false st := rfl
@[simp] theorem evT_or {a b : E} : evT C (.or a b) ρ st = (evT C a ρ st).bind fun k st => if k then .ok true st else evT C b ρ st := rfl
@[simp] theorem evT_not {a : E} : evT C (.not a) ρ st = (evT C a ρ st).bind fun k st => .ok (!k) st := rfl
@[simp] theorem evT_tst {a : E} : evT C (.tst a) ρ st = (opd a (ev C a) ρ st).bind fun x st => lift (truthD x) st := rfl
@[simp] theorem evT_tcm {o : COp} {a b : E} : evT C (.tcm o a b) ρ st = (opd a (ev C a) ρ st).bind fun x st => (opd b (ev C b) ρ st).bind fun y st => lift (cmpD o x y) st := rfl
@[simp] theorem evT_tch {o p : COp} {a b c : E} : evT C (.tch o p a b c) ρ st = (opd a (ev C a) ρ st).bind fun x st => (opd b (ev C b) ρ st).bind fun y st => (lift (cmpD o x y) st).bind fun k st =>
      if k then (opd c (ev C c) ρ st).bind fun z st => lift (cmpD p y z) st else .ok false st := rfl
@[simp] theorem ex_skip : ex C W .skip ρ st = .ok (.next ρ) st := rfl
@[simp] theorem ex_seq {a b : S} : ex C W (.seq a b) ρ st = seqK (ex C W a ρ st) fun ρ st => ex C W b ρ st := by
  show (ex C W a ρ st).bind _ = _
  cases h : ex C W a ρ st with
  | ok fl s => cases fl <;> rfl
  | exc _ _ => rfl
  | bad => rfl
@[simp] theorem ex_set {i : Nat} {e : E} : ex C W (.set i e) ρ st = (ev C e ρ st).thn ρ fun d st => (lift (setS ρ i d) st).bind fun ρ st => .ok (.next ρ) st := rfl
@[simp] theorem ex_own {i : Nat} {e : E} : ex C W (.own i e) ρ st = if fresh e then (ev C e ρ st).thn ρ fun d st => (lift (ownS ρ i d) st).bind fun ρ st => .ok (.next ρ) st else if freshK e then (ev C e ρ st).thn ρ fun d st => (lift (ownK ρ i d) st).bind fun ρ st => .ok (.next ρ) st else .bad := rfl
@[simp] theorem ex_frz {i : Nat} : ex C W (.frz i) ρ st = (lift (frzS ρ i) st).bind fun ρ st => .ok (.next ρ) st := rfl
@[simp] theorem ex_dput {i : Nat} {k e : E} : ex C W (.dput i k e) ρ st = (lift (odS ρ i) st).bind fun kvs st => (ev C e ρ st).thn ρ fun d st => (ev C k ρ st).thn ρ fun y st => (lift (keyD y) st).bind fun k st => if kvs.length < line then .ok (.next (ρ.set i (.od (putD kvs k d)))) st else .bad := rfl
@[simp] theorem ev_dgx {d k : E} : ev C (.dgx d k) ρ st = (opdK d (ev C d) ρ st).bind fun x st => (ev C k ρ st).bind fun y st => lift ((dgetD x y).bind id) st := rfl
@[simp] theorem ev_dgt {d k z : E} : ev C (.dgt d k z) ρ st = (opdK d (ev C d) ρ st).bind fun x st => (lift (dctD x) st).bind fun kvs st => (ev C k ρ st).bind fun y st => (if isNil z then .ok .non st else ev C z ρ st).bind fun w st => lift ((dgetD (.dct kvs) y).map fun o => o.getD w) st := rfl
@[simp] theorem ev_din {n : Bool} {k d : E} : ev C (.din n k d) ρ st = (ev C k ρ st).bind fun y st => (opdK d (ev C d) ρ st).bind fun x st => lift ((dgetD x y).map fun o => .bl (n != o.isSome)) st := rfl
@[simp] theorem evT_tdin {n : Bool} {k d : E} : evT C (.tdin n k d) ρ st = (ev C k ρ st).bind fun y st => (opdK d (ev C d) ρ st).bind fun x st => lift ((dgetD x y).map fun o => n != o.isSome) st := rfl
theorem ex_for2 {is : List Nat} {k : SK} {s a : E} {b : S} : ex C W (.for2 is k s a b) ρ st = (evS (ev C s) (evs C a) k ρ st).thn ρ fun xs st => (if isItm k then noR else id) (forO (fun x ρ st => (lift (setT ρ is x) st).bind fun ρ st => ex C W b ρ st) xs ρ st) := rfl
@[simp] theorem ex_app {i : Nat} {e : E} : ex C W (.app i e) ρ st = (lift (olS ρ i) st).bind fun ds st => (ev C e ρ st).thn ρ fun d st => if ds.length < line then .ok (.next (ρ.set i (.ol (ds ++ [d])))) st else .bad := rfl
@[simp] theorem ex_ext {i : Nat} {e : E} : ex C W (.ext i e) ρ st = (lift (olS ρ i) st).bind fun ds st => (ev C e ρ st).thn ρ fun d st => (lift (lstD d) st).bind fun es st => if ds.length + es.length ≤ line then .ok (.next (ρ.set i (.ol (ds ++ es)))) st else .bad := rfl
@[simp] theorem ex_aug {i : Nat} {o : BOp} {e : E} : ex C W (.aug i o e) ρ st = (lift (slotD ρ i) st).bind fun x st => (ev C e ρ st).thn ρ fun d st => (lift (augD o x d) st).bind fun z st => (lift (setS ρ i z) st).bind fun ρ st => .ok (.next ρ) st := rfl
@[simp] theorem ex_put {o k e : E} : ex C W (.put o k e) ρ st = (ev C e ρ st).thn ρ fun d st => (ev C o ρ st).thn ρ fun x st => (ev C k ρ st).thn ρ fun y st => match putS st x y d with | some st => .ok (.next ρ) st | none => .bad := rfl
@[simp] theorem ex_exp {e : E} : ex C W (.exp e) ρ st = (ev C e ρ st).thn ρ fun _ st => .ok (.next ρ) st := rfl
@[simp] theorem ex_ret {e : E} : ex C W (.ret e) ρ st = (ev C e ρ st).thn ρ fun d st => .ok (.ret d) st := rfl
@[simp] theorem ex_retn : ex C W .retn ρ st = .ok (.ret .non) st := rfl
@[simp] theorem ex_ite {c : E} {a b : S} : ex C W (.ite c a b) ρ st = (evT C c ρ st).thn ρ fun k st => if k then ex C W a ρ st else ex C W b ρ st := rfl
@[simp] theorem ex_brk : ex C W .brk ρ st = .ok (.brk ρ) st := rfl
@[simp] theorem ex_cnt : ex C W .cnt ρ st = .ok (.cnt ρ) st := rfl
theorem ex_for {j : Nat} {src : E} {b : S} : ex C W (.for_ j src b) ρ st = (ev C src ρ st).thn ρ fun s st => (lift (itemsD s) st).bind fun xs st => forO (fun x ρ st => (lift (setS ρ j x) st).bind fun ρ st => ex C W b ρ st) xs ρ st := rfl
theorem ex_forr {j : Nat} {a : E} {b : S} : ex C W (.forr j a b) ρ st = (evs C a ρ st).thn ρ fun as st => (lift (rangeD as) st).bind fun xs st => forO (fun x ρ st => (lift (setS ρ j x) st).bind fun ρ st => ex C W b ρ st) xs ρ st := rfl
theorem ex_whl {c : E} {b : S} : ex C W (.whl c b) ρ st = whlO (evT C c) (ex C W b) W ρ st := rfl
end
@[simp] theorem binD_addI {i j : Int} : binD .add (.int i) (.int j) = some (.int (i + j)) := rfl
@[simp] theorem binD_sub {i j : Int} : binD .sub (.int i) (.int j) = some (.int (i - j)) := rfl
@[simp] theorem binD_addS {a b : Tx} : binD .add (.str a) (.str b) = if a.length + b.length ≤ line then some (.str (a ++ b)) else none := rfl
@[simp] theorem binD_addL {a b : List D} : binD .add (.lst a) (.lst b) = if a.length + b.length ≤ line then some (.lst (a ++ b)) else none := rfl
@[simp] theorem binD_mul {i j : Int} : binD .mul (.int i) (.int j) = if mulOk i j then some (.int (i * j)) else none := rfl
@[simp] theorem binD_mulS {a : Tx} {n : Int} : binD .mul (.str a) (.int n) = if 2 ≤ n ∧ 0 < a.length ∧ a.length * n.toNat ≤ line then some (.str (List.replicate n.toNat a).flatten) else none := rfl
@[simp] theorem binD_mod {i j : Int} : binD .mod (.int i) (.int j) = if 0 < j then some (.int (i % j)) else none := rfl
@[simp] theorem binD_fdiv {i j : Int} : binD .fdiv (.int i) (.int j) = if 0 < j ∧ j < 1073741824 then some (.int (i / j)) else none := rfl
@[simp] theorem binD_pow {i j : Int} : binD .pow (.int i) (.int j) = if 0 ≤ j ∧ j ≤ 1000000 ∧ i.natAbs < 2 ^ 64 then some (.int (i ^ j.toNat)) else none := rfl
@[simp] theorem cmpD_eq {x y : D} : cmpD .eq x y = deq x y := rfl
@[simp] theorem cmpD_ne {x y : D} : cmpD .ne x y = (deq x y).map (!·) := rfl
@[simp] theorem cmpD_lt {i j : Int} : cmpD .lt (.int i) (.int j) = some (decide (i < j)) := rfl
@[simp] theorem cmpD_le {i j : Int} : cmpD .le (.int i) (.int j) = some (decide (i ≤ j)) := rfl
@[simp] theorem cmpD_gt {i j : Int} : cmpD .gt (.int i) (.int j) = some (decide (j < i)) := rfl
@[simp] theorem cmpD_ge {i j : Int} : cmpD .ge (.int i) (.int j) = some (decide (j ≤ i)) := rfl
@[simp] theorem cmpD_is {x y : D} : cmpD .is x y = isD x y := rfl
@[simp] theorem cmpD_isnot {x y : D} : cmpD .isnot x y = (isD x y).map (!·) := rfl
@[simp] theorem cmpD_in {x y : D} : cmpD .inn x y = inD x y := rfl
@[simp] theorem cmpD_notin {x y : D} : cmpD .notin x y = (inD x y).map (!·) := rfl
@[simp] theorem deq_int {i j : Int} : deq (.int i) (.int j) = some (i == j) := rfl
@[simp] theorem deq_str {i j : Tx} : deq (.str i) (.str j) = some (i == j) := rfl
@[simp] theorem deq_bl {i j : Bool} : deq (.bl i) (.bl j) = some (i == j) := rfl
@[simp] theorem deq_non : deq .non .non = some true := rfl
@[simp] theorem isD_non : isD .non .non = some true := rfl
@[simp] theorem isD_bl {i j : Bool} : isD (.bl i) (.bl j) = some (i == j) := rfl
@[simp] theorem isD_int_non {i : Int} : isD (.int i) .non = some false := rfl
@[simp] theorem isD_str_non {i : Tx} : isD (.str i) .non = some false := rfl
@[simp] theorem isD_lst_non {i : List D} : isD (.lst i) .non = some false := rfl
@[simp] theorem isD_tup_non {i : List D} : isD (.tup i) .non = some false := rfl
@[simp] theorem isD_dct_non {i : List (Key × D)} : isD (.dct i) .non = some false := rfl
@[simp] theorem isD_bl_non {i : Bool} : isD (.bl i) .non = some false := rfl
@[simp] theorem inD_sign {c : Nat} {b : Tx} : inD (.str [c]) (.str b) = some (decide (c ∈ b)) := rfl
@[simp] theorem truthD_non : truthD .non = some false := rfl
@[simp] theorem truthD_bl {b : Bool} : truthD (.bl b) = some b := rfl
@[simp] theorem truthD_int {i : Int} : truthD (.int i) = some (i != 0) := rfl
@[simp] theorem truthD_str {s : Tx} : truthD (.str s) = some !s.isEmpty := rfl
@[simp] theorem truthD_lst {s : List D} : truthD (.lst s) = some !s.isEmpty := rfl
@[simp] theorem truthD_tup {s : List D} : truthD (.tup s) = some !s.isEmpty := rfl
@[simp] theorem idxD_lst {st : Store} {xs : List D} {i : Int} : idxD st (.lst xs) (.int i) = atI xs i := rfl
@[simp] theorem idxD_scr {st : Store} {xs : List D} {i : Int} : idxD st (.scr xs) (.int i) = atI xs i := rfl
@[simp] theorem idxD_tup {st : Store} {xs : List D} {i : Int} : idxD st (.tup xs) (.int i) = atI xs i := rfl
@[simp] theorem idxD_str {st : Store} {s : Tx} {i : Int} : idxD st (.str s) (.int i) = (atI s i).map fun c => .str [c] := rfl
theorem idxD_ref {st : Store} {n : Nat} {i : Int} {xs : List D} (h : st[n]? = some (.lst xs)) : idxD st (.ref n) (.int i) = atI xs i := by
  show (match st[n]? with | some (.lst xs) => atI xs i | _ => none) = _
  rw [h]
theorem putS_ref {st : Store} {n : Nat} {i : Int} {d : D} {xs : List D} (h : st[n]? = some (.lst xs)) : putS st (.ref n) (.int i) d = (ixN xs.length i).map fun j => st.set n (.lst (xs.set j d)) := by
  show (match st[n]? with | some (.lst xs) => (ixN xs.length i).map fun j => st.set n (.lst (xs.set j d)) | _ => none) = _
  rw [h]
@[simp] theorem atI_0 {α : Type} {xs : List α} : atI xs 0 = xs[0]? := by
  cases xs <;> simp [atI, ixN]
@[simp] theorem atI_1 {α : Type} {xs : List α} : atI xs 1 = xs[1]? := by
  unfold atI ixN
  rw [if_pos (by decide)]
  by_cases h : (1 : Int) < xs.length
  · rw [if_pos h]; rfl
  · rw [if_neg h, List.getElem?_eq_none (by omega)]; rfl
@[simp] theorem atI_2 {α : Type} {xs : List α} : atI xs 2 = xs[2]? := by
  unfold atI ixN
  rw [if_pos (by decide)]
  by_cases h : (2 : Int) < xs.length
  · rw [if_pos h]; rfl
  · rw [if_neg h, List.getElem?_eq_none (by omega)]; rfl
theorem atI_in {α : Type} {xs : List α} {d : Int} (h0 : 0 ≤ d) (h1 : d < xs.length) : atI xs d = some (xs[d.toNat]'(by omega)) := by
  unfold atI ixN
  rw [if_pos h0, if_pos h1]
  exact List.getElem?_eq_getElem (by omega)
@[simp] theorem slcD_lst {xs : List D} {lo hi : Option Int} : slcD (.lst xs) lo hi = some (.lst (cut xs lo hi)) := rfl
@[simp] theorem slcD_str {xs : Tx} {lo hi : Option Int} : slcD (.str xs) lo hi = some (.str (cut xs lo hi)) := rfl
@[simp] theorem slcD_tup {xs : List D} {lo hi : Option Int} : slcD (.tup xs) lo hi = some (.tup (cut xs lo hi)) := rfl
@[simp] theorem bfD_len_str {st : Store} {s : Tx} : bfD st .len [.str s] = some (.int s.length) := rfl
@[simp] theorem bfD_len_lst {st : Store} {s : List D} : bfD st .len [.lst s] = some (.int s.length) := rfl
@[simp] theorem bfD_len_tup {st : Store} {s : List D} : bfD st .len [.tup s] = some (.int s.length) := rfl
@[simp] theorem bfD_len_scr {st : Store} {s : List D} : bfD st .len [.scr s] = some (.int s.length) := rfl
@[simp] theorem bfD_max {st : Store} {i j : Int} : bfD st .max2 [.int i, .int j] = some (.int (if j > i then j else i)) := rfl
@[simp] theorem bfD_min {st : Store} {i j : Int} : bfD st .min2 [.int i, .int j] = some (.int (if j < i then j else i)) := rfl
@[simp] theorem bfD_int {st : Store} {i : Int} : bfD st .int [.int i] = some (.int i) := rfl
@[simp] theorem bfD_int_str {st : Store} {s : Tx} : bfD st .int [.str s] = if s.length ≤ 640 then (PySem.intText? (tx s)).map .int else none := rfl
@[simp] theorem bfD_str {st : Store} {i : Int} : bfD st .str [.int i] = if i.natAbs.log2 < 1920 ∧ (unt (toString i)).length ≤ line then some (.str (unt (toString i))) else none := rfl
@[simp] theorem bfD_list_lst {st : Store} {s : List D} : bfD st .list [.lst s] = some (.lst s) := rfl
@[simp] theorem bfD_list_tup {st : Store} {s : List D} : bfD st .list [.tup s] = some (.lst s) := rfl
@[simp] theorem bfD_tuple_lst {st : Store} {s : List D} : bfD st .tuple [.lst s] = some (.tup s) := rfl
@[simp] theorem bfD_tuple_tup {st : Store} {s : List D} : bfD st .tuple [.tup s] = some (.tup s) := rfl
@[simp] theorem bfD_all {st : Store} {s : List D} : bfD st .all [.lst s] = (boolsOf s).map fun bs => .bl (bs.all id) := rfl
@[simp] theorem bfD_any {st : Store} {s : List D} : bfD st .any [.lst s] = (boolsOf s).map fun bs => .bl (bs.any id) := rfl
@[simp] theorem bfD_isi {st : Store} {x : D} {n : String} : bfD st .isi [x, .ty n] = (tyName x).bind fun m => (kitB m n).map .bl := rfl
@[simp] theorem tyName_non : tyName .non = some "NoneType" := rfl
@[simp] theorem tyName_bl {b : Bool} : tyName (.bl b) = some "bool" := rfl
@[simp] theorem tyName_int {b : Int} : tyName (.int b) = some "int" := rfl
@[simp] theorem tyName_str {b : Tx} : tyName (.str b) = some "str" := rfl
@[simp] theorem tyName_lst {b : List D} : tyName (.lst b) = some "list" := rfl
@[simp] theorem tyName_tup {b : List D} : tyName (.tup b) = some "tuple" := rfl
@[simp] theorem tyName_dct {b : List (Key × D)} : tyName (.dct b) = some "dict" := rfl
@[simp] theorem bmD_upper {st : Store} {s : Tx} : bmD st .upper (.str s) [] = if s.length ≤ 5592405 then some (.str (unt (Txt.upper (tx s)))) else none := rfl
@[simp] theorem bmD_lower {st : Store} {s : Tx} : bmD st .lower (.str s) [] = if s.length ≤ 5592405 then some (.str (unt (Txt.lower (tx s)))) else none := rfl
@[simp] theorem bmD_join {st : Store} {a : Tx} {xs : List D} : bmD st .join (.str a) [.lst xs] = (textsOf xs).bind fun ys => if (ys.map (·.length)).sum + ys.length * a.length ≤ line then some (.str (joinT a ys)) else none := rfl
@[simp] theorem bmD_count {st : Store} {a b : Tx} : bmD st .count (.str a) [.str b] = some (.int (Txt.count (tx a) (tx b))) := rfl
@[simp] theorem bmD_find {st : Store} {a b : Tx} : bmD st .find (.str a) [.str b] = some (.int (Txt.find (tx a) (tx b))) := rfl
@[simp] theorem bmK_upper {s : Tx} : bmKind .upper (.str s) = true := rfl
@[simp] theorem bmK_lower {s : Tx} : bmKind .lower (.str s) = true := rfl
@[simp] theorem bmK_join {s : Tx} : bmKind .join (.str s) = true := rfl
@[simp] theorem bmK_count {s : Tx} : bmKind .count (.str s) = true := rfl
@[simp] theorem bmK_find {s : Tx} : bmKind .find (.str s) = true := rfl
@[simp] theorem itemsD_lst {xs : List D} : itemsD (.lst xs) = some xs := rfl
@[simp] theorem itemsD_tup {xs : List D} : itemsD (.tup xs) = some xs := rfl
@[simp] theorem itemsD_str {s : Tx} : itemsD (.str s) = some (s.map fun c => .str [c]) := rfl
@[simp] theorem okC_non : okC .non = true := rfl
@[simp] theorem okC_bl {b : Bool} : okC (.bl b) = true := rfl
@[simp] theorem okC_int {b : Int} : okC (.int b) = true := rfl
@[simp] theorem okC_ty {b : String} : okC (.ty b) = true := rfl
@[simp] theorem okC_str {s : Tx} : okC (.str s) = decide (s.length ≤ line) := rfl
@[simp] theorem slotD_0 {d : D} {r : Env} : slotD (.im d :: r) 0 = some d := rfl
@[simp] theorem slotD_s {s : Slot} {r : Env} {i : Nat} : slotD (s :: r) (i + 1) = slotD r i := rfl
@[simp] theorem borK_0 {d : List (Key × D)} {r : Env} : borK (.od d :: r) 0 = some (.dct d) := rfl
@[simp] theorem borK_s {s : Slot} {r : Env} {i : Nat} : borK (s :: r) (i + 1) = borK r i := rfl
@[simp] theorem odS_0 {d : List (Key × D)} {r : Env} : odS (.od d :: r) 0 = some d := rfl
@[simp] theorem odS_s {s : Slot} {r : Env} {i : Nat} : odS (s :: r) (i + 1) = odS r i := rfl
@[simp] theorem dctD_d {d : List (Key × D)} : dctD (.dct d) = some d := rfl
@[simp] theorem keyD_str {s : Tx} : keyD (.str s) = some (.inr (tx s)) := rfl
@[simp] theorem dgetD_str {d : List (Key × D)} {s : Tx} : dgetD (.dct d) (.str s) = some (lookK d (.inr (tx s))) := rfl
@[simp] theorem opdK_bor {i : Nat} {r : Env → Store → O D} {ρ : Env} {st : Store} : opdK (.bor i) r ρ st = lift (borK ρ i) st := rfl
@[simp] theorem opdK_var {i : Nat} {r : Env → Store → O D} {ρ : Env} {st : Store} : opdK (.var i) r ρ st = r ρ st := rfl
@[simp] theorem bfD_sum {st : Store} {s : List D} : bfD st .sum [.lst s] = (intsOf s).map fun ns => .int ns.sum := rfl
@[simp] theorem freshK_dsp {a : E} : freshK (.dsp a) = true := rfl
@[simp] theorem fresh_dsp {a : E} : fresh (.dsp a) = false := rfl
@[simp] theorem ownK_d {ρ : Env} {i : Nat} {kvs : List (Key × D)} : ownK ρ i (.dct kvs) = if i < ρ.length then some (ρ.set i (.od kvs)) else none := rfl
@[simp] theorem borD_0 {d : List D} {r : Env} : borD (.ol d :: r) 0 = some (.lst d) := rfl
@[simp] theorem borD_s {s : Slot} {r : Env} {i : Nat} : borD (s :: r) (i + 1) = borD r i := rfl
@[simp] theorem olS_0 {d : List D} {r : Env} : olS (.ol d :: r) 0 = some d := rfl
@[simp] theorem olS_s {s : Slot} {r : Env} {i : Nat} : olS (s :: r) (i + 1) = olS r i := rfl
@[simp] theorem isNil_n : isNil .nil = true := rfl
@[simp] theorem partD_int {i : Int} : partD (.int i) = some (some i) := rfl
@[simp] theorem lstD_lst {x : List D} : lstD (.lst x) = some x := rfl
@[simp] theorem augD_add {i j : Int} : augD .add (.int i) (.int j) = some (.int (i + j)) := rfl
@[simp] theorem augD_sub {i j : Int} : augD .sub (.int i) (.int j) = some (.int (i - j)) := rfl
@[simp] theorem fresh_lst' {a : E} : fresh (.lst a) = true := rfl
@[simp] theorem fresh_lc {j : Nat} {a b c : E} : fresh (.lc j a b c) = true := rfl
@[simp] theorem fresh_lcr {j : Nat} {a b c : E} : fresh (.lcr j a b c) = true := rfl
@[simp] theorem ownS_lst {ρ : Env} {i : Nat} {x : List D} : ownS ρ i (.lst x) = if i < ρ.length then some (ρ.set i (.ol x)) else none := rfl
@[simp] theorem opd_bor {i : Nat} {r : Env → Store → O D} {ρ : Env} {st : Store} : opd (.bor i) r ρ st = lift (borD ρ i) st := rfl
@[simp] theorem opd_var {i : Nat} {r : Env → Store → O D} {ρ : Env} {st : Store} : opd (.var i) r ρ st = r ρ st := rfl
@[simp] theorem opd_cst {d : D} {r : Env → Store → O D} {ρ : Env} {st : Store} : opd (.cst d) r ρ st = r ρ st := rfl
@[simp] theorem opd_glb {x : Str} {d : D} {r : Env → Store → O D} {ρ : Env} {st : Store} : opd (.glb x d) r ρ st = r ρ st := rfl
@[simp] theorem opd_dgx {a b : E} {r : Env → Store → O D} {ρ : Env} {st : Store} : opd (.dgx a b) r ρ st = r ρ st := rfl
@[simp] theorem opd_dgt {a b c : E} {r : Env → Store → O D} {ρ : Env} {st : Store} : opd (.dgt a b c) r ρ st = r ρ st := rfl
@[simp] theorem opd_lct {is : List Nat} {k : SK} {s a c e : E} {r : Env → Store → O D} {ρ : Env} {st : Store} : opd (.lct is k s a c e) r ρ st = r ρ st := rfl
@[simp] theorem opd_bin {o : BOp} {a b : E} {r : Env → Store → O D} {ρ : Env} {st : Store} : opd (.bin o a b) r ρ st = r ρ st := rfl
@[simp] theorem opd_neg {a : E} {r : Env → Store → O D} {ρ : Env} {st : Store} : opd (.neg a) r ρ st = r ρ st := rfl
@[simp] theorem opd_cmp {o : COp} {a b : E} {r : Env → Store → O D} {ρ : Env} {st : Store} : opd (.cmp o a b) r ρ st = r ρ st := rfl
@[simp] theorem opd_chn {o p : COp} {a b c : E} {r : Env → Store → O D} {ρ : Env} {st : Store} : opd (.chn o p a b c) r ρ st = r ρ st := rfl
@[simp] theorem opd_and {a b : E} {r : Env → Store → O D} {ρ : Env} {st : Store} : opd (.and a b) r ρ st = r ρ st := rfl
@[simp] theorem opd_or {a b : E} {r : Env → Store → O D} {ρ : Env} {st : Store} : opd (.or a b) r ρ st = r ρ st := rfl
@[simp] theorem opd_not {a : E} {r : Env → Store → O D} {ρ : Env} {st : Store} : opd (.not a) r ρ st = r ρ st := rfl
@[simp] theorem opd_ite {c a b : E} {r : Env → Store → O D} {ρ : Env} {st : Store} : opd (.ite c a b) r ρ st = r ρ st := rfl
@[simp] theorem opd_tup {a : E} {r : Env → Store → O D} {ρ : Env} {st : Store} : opd (.tup a) r ρ st = r ρ st := rfl
@[simp] theorem opd_lst {a : E} {r : Env → Store → O D} {ρ : Env} {st : Store} : opd (.lst a) r ρ st = r ρ st := rfl
@[simp] theorem opd_new {a : E} {r : Env → Store → O D} {ρ : Env} {st : Store} : opd (.new a) r ρ st = r ρ st := rfl
@[simp] theorem opd_dsp {a : E} {r : Env → Store → O D} {ρ : Env} {st : Store} : opd (.dsp a) r ρ st = r ρ st := rfl
@[simp] theorem opd_idx {a b : E} {r : Env → Store → O D} {ρ : Env} {st : Store} : opd (.idx a b) r ρ st = r ρ st := rfl
@[simp] theorem opd_slc {a b c : E} {r : Env → Store → O D} {ρ : Env} {st : Store} : opd (.slc a b c) r ρ st = r ρ st := rfl
@[simp] theorem opd_cb {f : BF} {a : E} {r : Env → Store → O D} {ρ : Env} {st : Store} : opd (.cb f a) r ρ st = r ρ st := rfl
@[simp] theorem opd_bm {m : BM} {o a : E} {r : Env → Store → O D} {ρ : Env} {st : Store} : opd (.bm m o a) r ρ st = r ρ st := rfl
@[simp] theorem opd_call {f : Nat} {a : E} {r : Env → Store → O D} {ρ : Env} {st : Store} : opd (.call f a) r ρ st = r ρ st := rfl
@[simp] theorem opd_lc {j : Nat} {a b c : E} {r : Env → Store → O D} {ρ : Env} {st : Store} : opd (.lc j a b c) r ρ st = r ρ st := rfl
@[simp] theorem opd_lcr {j : Nat} {a b c : E} {r : Env → Store → O D} {ρ : Env} {st : Store} : opd (.lcr j a b c) r ρ st = r ρ st := rfl
@[simp] theorem isNil_var {i : Nat} : isNil (.var i) = false := rfl
@[simp] theorem isNil_cst {d : D} : isNil (.cst d) = false := rfl
@[simp] theorem isNil_bin {o : BOp} {a b : E} : isNil (.bin o a b) = false := rfl
@[simp] theorem isNil_neg {a : E} : isNil (.neg a) = false := rfl
@[simp] theorem isNil_idx {a b : E} : isNil (.idx a b) = false := rfl
@[simp] theorem isNil_cb {f : BF} {a : E} : isNil (.cb f a) = false := rfl
@[simp] theorem isNil_call {f : Nat} {a : E} : isNil (.call f a) = false := rfl
theorem setS_in {ρ : Env} {i : Nat} {d : D} (h : i < ρ.length) : setS ρ i d = some (ρ.set i (.im d)) := by
  unfold setS
  rw [if_pos h]
@[simp] theorem setS_0 {s : Slot} {r : Env} {d : D} : setS (s :: r) 0 d = some (.im d :: r) := by simp [setS]
@[simp] theorem setS_s {s : Slot} {r : Env} {i : Nat} {d : D} : setS (s :: r) (i + 1) d = (setS r i d).map (s :: ·) := by
  unfold setS
  by_cases h : i < r.length
  · rw [if_pos (by simpa using h), if_pos h]; rfl
  · rw [if_neg (by simpa using h), if_neg h]; rfl
theorem runF_eq {C : Calls} {W : Nat} {f : Fn} {args : List D} {st : Store} (h1 : args.length = f.ar) (h2 : f.ar ≤ f.nm) (hi : f.ini = none := by rfl) : runF C W f args st = finK f.fr (ex C W f.body (args.map .im ++ List.replicate (f.nm - f.ar) .un) st) := by
  unfold runF
  rw [if_pos ⟨h1, h2⟩, hi]
theorem runF_ini {C : Calls} {W : Nat} {f : Fn} {args : List D} {st : Store} {c : Str} (h1 : args.length = f.ar) (h2 : f.ar ≤ f.nm) (hi : f.ini = some c) : runF C W f args st = iniK c (ex C W f.body (.oi c [] :: (args.map .im ++ List.replicate (f.nm - f.ar) .un)) st) := by
  unfold runF
  rw [if_pos ⟨h1, h2⟩, hi]
/-- a call runs the body -/
theorem call_run {T : List Fn} {W n f : Nat} {fn : Fn} (h : T[f]? = some fn) {args : List D} {st : Store} (h1 : args.length = fn.ar) (h2 : fn.ar ≤ fn.nm) (hi : fn.ini = none := by rfl) : call T W (n + 1) f args st = finK fn.fr (ex (call T W n) W fn.body (args.map .im ++ List.replicate (fn.nm - fn.ar) .un) st) := by
  rw [call_at h, runF_eq h1 h2 hi]
theorem rangeD_1 {n : Int} (h1 : -(2 ^ 62) ≤ n) (h2 : n < 2 ^ 62) : rangeD [.int n] = some ((List.range n.toNat).map fun (k : Nat) => .int (0 + (k : Int))) := by
  show (if -(2 ^ 62) ≤ n ∧ n < 2 ^ 62 then _ else _) = _
  rw [if_pos ⟨h1, h2⟩]
/-- one turn of a comprehension -/
def lcF (C : Calls) (j : Nat) (c e : E) (ρ : Env) : D → Store → O (Option D) := fun x st => (if isNil c then .ok true st else (evT C c (ρ.set j (.im x)) st).nox).bind fun k st => if k then (ev C e (ρ.set j (.im x)) st).nox.bind fun y st => .ok (some y) st else .ok none st
theorem ev_lc {C : Calls} {ρ : Env} {st : Store} {j : Nat} {src c e : E} : ev C (.lc j src c e) ρ st = (opd src (ev C src) ρ st).bind fun s st => (lift (itemsD s) st).bind fun xs st => (mapO (lcF C j c e ρ) xs st).bind fun ys st => .ok (.lst ys) st := rfl
theorem ev_lcr {C : Calls} {ρ : Env} {st : Store} {j : Nat} {a c e : E} : ev C (.lcr j a c e) ρ st = (evs C a ρ st).bind fun as st => (lift (rangeD as) st).bind fun xs st => if line < xs.length then .bad else (mapO (lcF C j c e ρ) xs st).bind fun ys st => .ok (.lst ys) st := rfl
theorem lcF_nil {C : Calls} {j : Nat} {e : E} {ρ : Env} {x : D} {st : Store} : lcF C j .nil e ρ x st = (ev C e (ρ.set j (.im x)) st).nox.bind fun y st => .ok (some y) st := rfl
theorem lcF_if {C : Calls} {j : Nat} {c e : E} {ρ : Env} {x : D} {st : Store} (h : isNil c = false) : lcF C j c e ρ x st = (evT C c (ρ.set j (.im x)) st).nox.bind fun k st => if k then (ev C e (ρ.set j (.im x)) st).nox.bind fun y st => .ok (some y) st else .ok none st := by
  unfold lcF
  rw [h]
  rfl
/-- a comprehension over a range -/
theorem ev_lcr_inv {C : Calls} {ρ : Env} {st st1 : Store} {j : Nat} {a e : E} {as xs : List D} (I : Store → Prop) (R : D → Prop) (h1 : evs C a ρ st = .ok as st1) (h2 : rangeD as = some xs) (h3 : xs.length ≤ line) (h4 : I st1)
    (h5 : ∀ x ∈ xs, ∀ st, I st → ∃ y st', ev C e (ρ.set j (.im x)) st = .ok y st' ∧ I st' ∧ R y) : ∃ ys st', ev C (.lcr j a .nil e) ρ st = .ok (.lst ys) st' ∧ I st' ∧ ys.length = xs.length ∧ ∀ y ∈ ys, R y := by
  obtain ⟨ys, st', e1, i1, l1, r1⟩ := mapO_inv (f := lcF C j .nil e ρ) I R h4 (fun x hx st i => by
    obtain ⟨y, st', e, i', r⟩ := h5 x hx st i
    exact ⟨y, st', by simp [lcF_nil, e], i', r⟩)
  exact ⟨ys, st', by simp [ev_lcr, h1, h2, e1]; omega, i1, l1, r1⟩
/-- a comprehension whose element is a plain function of the item, over any source -/
theorem ev_lc_map {C : Calls} {ρ : Env} {st st1 : Store} {j : Nat} {src e : E} {s : D} {xs : List D} {g : D → D} (h1 : opd src (ev C src) ρ st = .ok s st1) (h2 : itemsD s = some xs)
    (h5 : ∀ x ∈ xs, ∀ st, ev C e (ρ.set j (.im x)) st = .ok (g x) st) : ev C (.lc j src .nil e) ρ st = .ok (.lst (xs.map g)) st1 := by
  have e1 : mapO (lcF C j .nil e ρ) xs st1 = .ok (xs.map g) st1 := mapO_pure fun x hx st => by simp [lcF_nil, h5 x hx st]
  simp [ev_lc, h1, h2, e1]
theorem ev_lc_filter {C : Calls} {ρ : Env} {st st1 : Store} {j : Nat} {src c e : E} {s : D} {xs : List D} {g : D → D} {p : D → Bool} (hc : isNil c = false) (h1 : opd src (ev C src) ρ st = .ok s st1) (h2 : itemsD s = some xs)
    (h4 : ∀ x ∈ xs, ∀ st, evT C c (ρ.set j (.im x)) st = .ok (p x) st) (h5 : ∀ x ∈ xs, ∀ st, ev C e (ρ.set j (.im x)) st = .ok (g x) st) : ev C (.lc j src c e) ρ st = .ok (.lst ((xs.filter p).map g)) st1 := by
  have e1 : mapO (lcF C j c e ρ) xs st1 = .ok ((xs.filter p).map g) st1 := mapO_filter fun x hx st => by
    rw [lcF_if hc, h4 x hx st]
    cases hp : p x <;> simp [h5 x hx st]
  simp [ev_lc, h1, h2, e1]
section
variable {C : Calls} {W : Nat} {ρ : Env} {st : Store}
@[simp] theorem ev_fmt {a : E} : ev C (.fmt a) ρ st = (ev C a ρ st).bind fun x st => lift (fmtD x) st := rfl
@[simp] theorem ev_fst {a : E} : ev C (.fst a) ρ st = (evj C a [] ρ st).bind fun s st => .ok (.str s) st := rfl
@[simp] theorem evj_nil {acc : Tx} : evj C .nil acc ρ st = .ok acc st := rfl
@[simp] theorem evj_cons {a b : E} {acc : Tx} : evj C (.cons a b) acc ρ st = (ev C a ρ st).bind fun x st => (lift (addD acc x) st).bind fun acc st => evj C b acc ρ st := rfl
@[simp] theorem fmtD_str {s : Tx} : fmtD (.str s) = some (.str s) := rfl
@[simp] theorem fmtD_int {i : Int} : fmtD (.int i) = if i.natAbs.log2 < 1920 ∧ (unt (toString i)).length ≤ line then some (.str (unt (toString i))) else none := rfl
@[simp] theorem addD_str {a b : Tx} : addD a (.str b) = if a.length + b.length ≤ line then some (a ++ b) else none := rfl
@[simp] theorem ex_unp {is : List Nat} {e : E} : ex C W (.unp is e) ρ st = (ev C e ρ st).thn ρ fun d st => (lift (tupD d) st).bind fun ds st => (lift (unpS ρ is ds) st).bind fun ρ st => .ok (.next ρ) st := rfl
@[simp] theorem unpS_nil : unpS ρ [] [] = some ρ := rfl
@[simp] theorem unpS_cons {i : Nat} {is : List Nat} {d : D} {ds : List D} : unpS ρ (i :: is) (d :: ds) = (setS ρ i d).bind fun ρ => unpS ρ is ds := rfl
@[simp] theorem tupD_tup {ds : List D} : tupD (.tup ds) = some ds := rfl
@[simp] theorem ex_rse {c : Str} {fs : List Str} {a : E} : ex C W (.rse c fs a) ρ st = (evs C a ρ st).thn ρ fun xs st => if xs.length = fs.length ∧ fs ≠ [] ∧ fs.length ≤ 1000 then .ok (.rse ⟨c, (fs.zip xs).reverse⟩ ρ) st else .bad := rfl
@[simp] theorem bmD_find3 {a b : Tx} {i : Int} : bmD st .find (.str a) [.str b, .int i] = some (.int (Txt.find3 (tx a) (tx b) i)) := rfl
end
@[simp] theorem opd_fst {a : E} {r : Env → Store → O D} {ρ : Env} {st : Store} : opd (.fst a) r ρ st = r ρ st := rfl
@[simp] theorem opd_fmt {a : E} {r : Env → Store → O D} {ρ : Env} {st : Store} : opd (.fmt a) r ρ st = r ρ st := rfl
section
variable {C : Calls} {W : Nat} {ρ : Env} {st : Store}
@[simp] theorem ev_callf {f : Nat} {a : E} : ev C (.callf f a) ρ st = (evs C a ρ st).bind fun xs st => (C f xs st).bind fun d st => (lift (lstD d) st).bind fun ds st => .ok (.lst ds) st := rfl
@[simp] theorem ev_fld {a : E} {f : Str} : ev C (.fld a f) ρ st = (ev C a ρ st).bind fun x st => lift (fldD st x f) st := rfl
@[simp] theorem ev_ofl {i : Nat} {f : Str} : ev C (.ofl i f) ρ st = lift (oflD ρ i f) st := rfl
@[simp] theorem ev_prp {g : Nat} {c f : Str} {a : E} : ev C (.prp g c f a) ρ st = (ev C a ρ st).bind fun x st => if insD st c f x then (C g [x] st).nox else .bad := rfl
@[simp] theorem ev_mth {g : Nat} {c m : Str} {o a : E} : ev C (.mth g c m o a) ρ st = (ev C o ρ st).bind fun x st => if insD st c m x then (evs C a ρ st).bind fun xs st => C g (x :: xs) st else .bad := rfl
@[simp] theorem ev_mk {g : Nat} {c : Str} {n : Nat} {ks : List Str} {a k : E} : ev C (.mk g c n ks a k) ρ st = (evs C a ρ st).bind fun xs st => (evs C k ρ st).bind fun zs st => if xs.length = n ∧ zs.length = ks.length then (C g (xs ++ zs) st).bind fun d st => lift (insOf c d) st else .bad := rfl
@[simp] theorem ev_iso {c : Str} {tb : List (TyN × Bool)} {a : E} : ev C (.iso c tb a) ρ st = (opd a (ev C a) ρ st).bind fun x st => lift (((tyN st x).bind fun t => tb.lookup t).map .bl) st := rfl
@[simp] theorem ev_ceq {o : COp} {g : Nat} {c : Str} {tb : List TyN} {a b : E} : ev C (.ceq o g c tb a b) ρ st = (ev C a ρ st).bind fun x st => (ev C b ρ st).bind fun y st => if insD st c "__eq__" x && inTb tb (tyN st y) then (C g [x, y] st).nox.bind fun r st => lift ((boolD r).bind fun k => (eqOp o).map fun n => .bl (n != k)) st else .bad := rfl
@[simp] theorem evT_tceq {o : COp} {g : Nat} {c : Str} {tb : List TyN} {a b : E} : evT C (.tceq o g c tb a b) ρ st = (ev C a ρ st).bind fun x st => (ev C b ρ st).bind fun y st => if insD st c "__eq__" x && inTb tb (tyN st y) then (C g [x, y] st).nox.bind fun r st => lift ((boolD r).bind fun k => (eqOp o).map fun n => n != k) st else .bad := rfl
@[simp] theorem ev_kct {x : Str} {d : D} : ev C (.kct x d) ρ st = .ok d st := rfl
@[simp] theorem ev_kdg {x : Str} {t : List (Tx × D)} {k : E} : ev C (.kdg x t k) ρ st = (ev C k ρ st).bind fun y st => lift ((strD y).bind fun s => t.lookup s) st := rfl
@[simp] theorem ev_kdi {n : Bool} {x : Str} {t : List (Tx × D)} {k : E} : ev C (.kdi n x t k) ρ st = (ev C k ρ st).bind fun y st => lift ((strD y).map fun s => .bl (n != (t.lookup s).isSome)) st := rfl
@[simp] theorem ex_retf {e : E} : ex C W (.retf e) ρ st = if fresh e then (ev C e ρ st).thn ρ fun d st => (lift (lstD d) st).bind fun ds st => .ok (.retf ds) st else .bad := rfl
@[simp] theorem ex_reto {i : Nat} : ex C W (.reto i) ρ st = (lift (olS ρ i) st).bind fun ds st => .ok (.retf ds) st := rfl
@[simp] theorem ex_sfl {i : Nat} {c f : Str} {e : E} : ex C W (.sfl i c f e) ρ st = (ev C e ρ st).thn ρ fun d st => (lift (sflS ρ i c f d) st).bind fun ρ st => .ok (.next ρ) st := rfl
theorem ex_tryas {b : S} {hs : List Hd} : ex C W (.tryas b hs) ρ st = (ex C W b ρ st).bind fun fl st => match fl with
    | .rse x ρ => catchO hs x ρ st
    | fl => .ok fl st := rfl
@[simp] theorem bfD_int_bl {b : Bool} : bfD st .int [.bl b] = some (.int (if b then 1 else 0)) := rfl
@[simp] theorem strD_str {s : Tx} : strD (.str s) = some s := rfl
@[simp] theorem boolD_bl {b : Bool} : boolD (.bl b) = some b := rfl
@[simp] theorem eqOp_eq : eqOp .eq = some false := rfl
@[simp] theorem eqOp_ne : eqOp .ne = some true := rfl
@[simp] theorem fldD_ins {c f : Str} {fs : List (Str × D)} : fldD st (.ins c fs) f = fs.lookup f := rfl
@[simp] theorem insOf_ins {c : Str} {fs : List (Str × D)} : insOf c (.ins c fs) = some (.ins c fs) := if_pos rfl
@[simp] theorem insD_ins {c m : Str} {fs : List (Str × D)} : insD st c m (.ins c fs) = (fs.lookup m).isNone := by simp [insD]
@[simp] theorem tyN_non : tyN st .non = some (.b "NoneType") := rfl
@[simp] theorem tyN_bl {b : Bool} : tyN st (.bl b) = some (.b "bool") := rfl
@[simp] theorem tyN_int {b : Int} : tyN st (.int b) = some (.b "int") := rfl
@[simp] theorem tyN_str {b : Tx} : tyN st (.str b) = some (.b "str") := rfl
@[simp] theorem tyN_lst {b : List D} : tyN st (.lst b) = some (.b "list") := rfl
@[simp] theorem tyN_tup {b : List D} : tyN st (.tup b) = some (.b "tuple") := rfl
@[simp] theorem tyN_ins {c : Str} {fs : List (Str × D)} : tyN st (.ins c fs) = some (.o c) := rfl
@[simp] theorem fresh_callf {f : Nat} {a : E} : fresh (.callf f a) = true := rfl
@[simp] theorem fresh_mthf {g : Nat} {c m : Str} {o a : E} : fresh (.mthf g c m o a) = true := rfl
@[simp] theorem bmK_index {s : List D} : bmKind .index (.lst s) = true := rfl
@[simp] theorem bmD_index {xs : List D} {y : D} : bmD st .index (.lst xs) [y] = (indexD y xs).map fun j => .int (j : Nat) := rfl
end
@[simp] theorem opd_fld {a : E} {f : Str} {r : Env → Store → O D} {ρ : Env} {st : Store} : opd (.fld a f) r ρ st = r ρ st := rfl
@[simp] theorem isNil_fld {a : E} {f : Str} : isNil (.fld a f) = false := rfl
@[simp] theorem opd_prp {g : Nat} {c f : Str} {a : E} {r : Env → Store → O D} {ρ : Env} {st : Store} : opd (.prp g c f a) r ρ st = r ρ st := rfl
@[simp] theorem isNil_prp {g : Nat} {c f : Str} {a : E} : isNil (.prp g c f a) = false := rfl
@[simp] theorem opd_mth {g : Nat} {c m : Str} {o a : E} {r : Env → Store → O D} {ρ : Env} {st : Store} : opd (.mth g c m o a) r ρ st = r ρ st := rfl
@[simp] theorem isNil_mth {g : Nat} {c m : Str} {o a : E} : isNil (.mth g c m o a) = false := rfl
@[simp] theorem opd_mk {g : Nat} {c : Str} {n : Nat} {ks : List Str} {a k : E} {r : Env → Store → O D} {ρ : Env} {st : Store} : opd (.mk g c n ks a k) r ρ st = r ρ st := rfl
@[simp] theorem isNil_mk {g : Nat} {c : Str} {n : Nat} {ks : List Str} {a k : E} : isNil (.mk g c n ks a k) = false := rfl
@[simp] theorem opd_iso {c : Str} {tb : List (TyN × Bool)} {a : E} {r : Env → Store → O D} {ρ : Env} {st : Store} : opd (.iso c tb a) r ρ st = r ρ st := rfl
@[simp] theorem isNil_iso {c : Str} {tb : List (TyN × Bool)} {a : E} : isNil (.iso c tb a) = false := rfl
@[simp] theorem opd_kct {x : Str} {d : D} {r : Env → Store → O D} {ρ : Env} {st : Store} : opd (.kct x d) r ρ st = r ρ st := rfl
@[simp] theorem isNil_kct {x : Str} {d : D} : isNil (.kct x d) = false := rfl
@[simp] theorem opd_kdg {x : Str} {t : List (Tx × D)} {k : E} {r : Env → Store → O D} {ρ : Env} {st : Store} : opd (.kdg x t k) r ρ st = r ρ st := rfl
@[simp] theorem isNil_kdg {x : Str} {t : List (Tx × D)} {k : E} : isNil (.kdg x t k) = false := rfl
@[simp] theorem opd_callf {f : Nat} {a : E} {r : Env → Store → O D} {ρ : Env} {st : Store} : opd (.callf f a) r ρ st = r ρ st := rfl
@[simp] theorem isNil_callf {f : Nat} {a : E} : isNil (.callf f a) = false := rfl
@[simp] theorem opd_ofl {i : Nat} {f : Str} {r : Env → Store → O D} {ρ : Env} {st : Store} : opd (.ofl i f) r ρ st = r ρ st := rfl
@[simp] theorem isNil_ofl {i : Nat} {f : Str} : isNil (.ofl i f) = false := rfl
@[simp] theorem opd_ceq {o : COp} {g : Nat} {c : Str} {tb : List TyN} {a b : E} {r : Env → Store → O D} {ρ : Env} {st : Store} : opd (.ceq o g c tb a b) r ρ st = r ρ st := rfl
@[simp] theorem isNil_ceq {o : COp} {g : Nat} {c : Str} {tb : List TyN} {a b : E} : isNil (.ceq o g c tb a b) = false := rfl
@[simp] theorem opd_lc2 {j : Nat} {s : E} {k : Nat} {t c e : E} {r : Env → Store → O D} {ρ : Env} {st : Store} : opd (.lc2 j s k t c e) r ρ st = r ρ st := rfl
@[simp] theorem isNil_lc2 {j : Nat} {s : E} {k : Nat} {t c e : E} : isNil (.lc2 j s k t c e) = false := rfl
section
variable {C : Calls} {W : Nat} {ρ : Env} {st : Store}
@[simp] theorem evs_star {a b : E} : evs C (.star a b) ρ st = (opd a (ev C a) ρ st).bind fun x st => (lift (itemsL x) st).bind fun xs st => (evs C b ρ st).bind fun ys st => .ok (xs ++ ys) st := rfl
@[simp] theorem ev_mkx {g : Nat} {c : Str} {m : Nat} {a : E} : ev C (.mkx g c m a) ρ st = (evs C a ρ st).bind fun xs st => (lift (packD m xs) st).bind fun ys st => (C g ys st).bind fun d st => lift (insOf c d) st := rfl
@[simp] theorem ev_smc {g : Nat} {c m : Str} {a : E} : ev C (.smc g c m a) ρ st = (evs C a ρ st).bind fun xs st => C g xs st := rfl
@[simp] theorem ev_gti {g : Nat} {c : Str} {a b : E} : ev C (.gti g c a b) ρ st = (ev C a ρ st).bind fun x st => (ev C b ρ st).bind fun y st => if insD st c "__getitem__" x then C g [x, y] st else .bad := rfl
@[simp] theorem ev_own1 {f : OF} {g : Nat} {c : Str} {a : E} : ev C (.own1 f g c a) ρ st = (ev C a ρ st).bind fun x st => if insD st c f.name x then (C g [x] st).nox.bind fun r st => lift (ofD f r) st else .bad := rfl
@[simp] theorem ev_cno {n : Bool} {g : Nat} {c : Str} {a b : E} : ev C (.cno n g c a b) ρ st = (ev C a ρ st).bind fun y st => (ev C b ρ st).bind fun x st => if insD st c "__contains__" x then (C g [x, y] st).nox.bind fun r st => lift ((boolD r).map fun k => .bl (n != k)) st else .bad := rfl
@[simp] theorem evT_tcno {n : Bool} {g : Nat} {c : Str} {a b : E} : evT C (.tcno n g c a b) ρ st = (ev C a ρ st).bind fun y st => (ev C b ρ st).bind fun x st => if insD st c "__contains__" x then (C g [x, y] st).nox.bind fun r st => lift ((boolD r).map fun k => n != k) st else .bad := rfl
theorem ex_par {is : List Nat} {a : E} (h : is.length = 2 ∨ is.length = 3) : ex C W (.par is a) ρ st = (evs C a ρ st).thn ρ fun ds st => (lift (unpS ρ is ds) st).bind fun ρ st => .ok (.next ρ) st := if_pos h
@[simp] theorem itemsL_lst {xs : List D} : itemsL (.lst xs) = some xs := rfl
@[simp] theorem itemsL_tup {xs : List D} : itemsL (.tup xs) = some xs := rfl
@[simp] theorem bfD_str_str {s : Tx} : bfD st .str [.str s] = some (.str s) := rfl
@[simp] theorem ofD_len {n : Int} : ofD .len (.int n) = if 0 ≤ n ∧ n < 2 ^ 62 then some (.int n) else none := rfl
@[simp] theorem ofD_bool {n : Int} : ofD .bool (.int n) = if 0 ≤ n ∧ n < 2 ^ 62 then some (.bl (n != 0)) else none := rfl
@[simp] theorem ofD_str {s : Tx} : ofD .str (.str s) = some (.str s) := rfl
@[simp] theorem ev_mthf {g : Nat} {c m : Str} {o a : E} : ev C (.mthf g c m o a) ρ st = (ev C o ρ st).bind fun x st => if insD st c m x then (evs C a ρ st).bind fun xs st => (C g (x :: xs) st).bind fun d st => (lift (lstD d) st).bind fun ds st => .ok (.lst ds) st else .bad := rfl
@[simp] theorem cut_tail {α : Type} {x : α} {xs : List α} : cut (x :: xs) (some 1) none = xs := by
  simp [cut, HT.sIx]
end
@[simp] theorem opd_mkx {g : Nat} {c : Str} {m : Nat} {a : E} {r : Env → Store → O D} {ρ : Env} {st : Store} : opd (.mkx g c m a) r ρ st = r ρ st := rfl
@[simp] theorem isNil_mkx {g : Nat} {c : Str} {m : Nat} {a : E} : isNil (.mkx g c m a) = false := rfl
@[simp] theorem opd_smc {g : Nat} {c m : Str} {a : E} {r : Env → Store → O D} {ρ : Env} {st : Store} : opd (.smc g c m a) r ρ st = r ρ st := rfl
@[simp] theorem isNil_smc {g : Nat} {c m : Str} {a : E} : isNil (.smc g c m a) = false := rfl
@[simp] theorem opd_gti {g : Nat} {c : Str} {a b : E} {r : Env → Store → O D} {ρ : Env} {st : Store} : opd (.gti g c a b) r ρ st = r ρ st := rfl
@[simp] theorem isNil_gti {g : Nat} {c : Str} {a b : E} : isNil (.gti g c a b) = false := rfl
@[simp] theorem opd_own1 {f : OF} {g : Nat} {c : Str} {a : E} {r : Env → Store → O D} {ρ : Env} {st : Store} : opd (.own1 f g c a) r ρ st = r ρ st := rfl
@[simp] theorem isNil_own1 {f : OF} {g : Nat} {c : Str} {a : E} : isNil (.own1 f g c a) = false := rfl
@[simp] theorem opd_cno {n : Bool} {g : Nat} {c : Str} {a b : E} {r : Env → Store → O D} {ρ : Env} {st : Store} : opd (.cno n g c a b) r ρ st = r ρ st := rfl
@[simp] theorem isNil_cno {n : Bool} {g : Nat} {c : Str} {a b : E} : isNil (.cno n g c a b) = false := rfl
@[simp] theorem opd_mthf {g : Nat} {c m : Str} {o a : E} {r : Env → Store → O D} {ρ : Env} {st : Store} : opd (.mthf g c m o a) r ρ st = r ρ st := rfl
@[simp] theorem isNil_mthf {g : Nat} {c m : Str} {o a : E} : isNil (.mthf g c m o a) = false := rfl
@[simp] theorem frzS_ol {ds : List D} {r : Env} : frzS (.ol ds :: r) 0 = some (.im (.lst ds) :: r) := by simp [frzS]
@[simp] theorem frzS_im {d : D} {r : Env} : frzS (.im d :: r) 0 = some (.im d :: r) := by simp [frzS]
@[simp] theorem frzS_s {s : Slot} {r : Env} {i : Nat} : frzS (s :: r) (i + 1) = (frzS r i).map (s :: ·) := by
  unfold frzS
  rw [List.getElem?_cons_succ]
  cases h : r[i]? with
  | none => rfl
  | some z => cases z <;> simp
@[simp] theorem deq_lst_nil {xs : List D} : deq (.lst xs) (.lst []) = some xs.isEmpty := by
  cases xs with
  | nil => kernel_rfl
  | cons x xs =>
    unfold deq
    rw [if_pos (by simp [lenNe])]
    rfl
@[simp] theorem inD_one {c k : Nat} : inD (.str [c]) (.str [k]) = some (decide (c = k)) := by
  rw [inD_sign]
  simp
end PF
/-! Bodies as lists of statements: run piece by piece; the kernel runs a piece of which all is known. -/
namespace PF
open PySem L2
def seqs : S → List S
  | .seq a b => a :: seqs b
  | .skip => []
  | s => [s]
/-- the body of a for -/
def bodyS : S → S
  | .for_ _ _ b => b
  | .forr _ _ b => b
  | .for2 _ _ _ _ b => b
  | .whl _ b => b
  | s => s
def exL (C : Calls) (W : Nat) : List S → Env → Store → O Fl
  | [], ρ, st => .ok (.next ρ) st
  | s :: l, ρ, st => seqK (ex C W s ρ st) (exL C W l)
theorem seqK_id (r : O Fl) : seqK r (fun ρ st => .ok (.next ρ) st) = r := by
  cases r with
  | ok fl st => cases fl <;> rfl
  | exc _ _ => rfl
  | bad => rfl
theorem ex_seqs {C : Calls} {W : Nat} : ∀ (s : S) {ρ : Env} {st : Store}, ex C W s ρ st = exL C W (seqs s) ρ st
  | .seq a b, ρ, st => by
    rw [ex_seq]
    show _ = seqK (ex C W a ρ st) (exL C W (seqs b))
    congr 1
    funext ρ st
    exact ex_seqs b
  | .skip, ρ, st => rfl
  | .set .., ρ, st => (seqK_id _).symm
  | .own .., ρ, st => (seqK_id _).symm
  | .frz .., ρ, st => (seqK_id _).symm
  | .app .., ρ, st => (seqK_id _).symm
  | .ext .., ρ, st => (seqK_id _).symm
  | .aug .., ρ, st => (seqK_id _).symm
  | .put .., ρ, st => (seqK_id _).symm
  | .exp .., ρ, st => (seqK_id _).symm
  | .ret .., ρ, st => (seqK_id _).symm
  | .retn .., ρ, st => (seqK_id _).symm
  | .dput .., ρ, st => (seqK_id _).symm
  | .for2 .., ρ, st => (seqK_id _).symm
  | .retf .., ρ, st => (seqK_id _).symm
  | .reto .., ρ, st => (seqK_id _).symm
  | .ite .., ρ, st => (seqK_id _).symm
  | .for_ .., ρ, st => (seqK_id _).symm
  | .forr .., ρ, st => (seqK_id _).symm
  | .whl .., ρ, st => (seqK_id _).symm
  | .brk .., ρ, st => (seqK_id _).symm
  | .cnt .., ρ, st => (seqK_id _).symm
  | .sfl .., ρ, st => (seqK_id _).symm
  | .unp .., ρ, st => (seqK_id _).symm
  | .par .., ρ, st => (seqK_id _).symm
  | .rse .., ρ, st => (seqK_id _).symm
  | .tryas .., ρ, st => (seqK_id _).symm
theorem seqK_assoc {r : O Fl} {f g : Env → Store → O Fl} : seqK (seqK r f) g = seqK r fun ρ st => seqK (f ρ st) g := by
  cases r with
  | ok fl st => cases fl <;> rfl
  | exc _ _ => rfl
  | bad => rfl
theorem exL_app {C : Calls} {W : Nat} : ∀ (l m : List S) {ρ : Env} {st : Store}, exL C W (l ++ m) ρ st = seqK (exL C W l ρ st) (exL C W m)
  | [], m, ρ, st => rfl
  | s :: l, m, ρ, st => by
    show seqK (ex C W s ρ st) (exL C W (l ++ m)) = seqK (seqK (ex C W s ρ st) (exL C W l)) (exL C W m)
    rw [seqK_assoc]
    congr 1
    funext ρ st
    exact exL_app l m
/-- the first k statements end by themselves -/
theorem seg {C : Calls} {W : Nat} {l : List S} (k : Nat) {ρ ρ1 : Env} {st st1 : Store} (h : exL C W (l.take k) ρ st = .ok (.next ρ1) st1) : exL C W l ρ st = exL C W (l.drop k) ρ1 st1 := by
  have e : l = l.take k ++ l.drop k := (List.take_append_drop k l).symm
  rw [congrArg (fun z => exL C W z ρ st) e, exL_app, h]
  rfl
theorem exL_cons {C : Calls} {W : Nat} {s : S} {l : List S} {ρ : Env} {st : Store} : exL C W (s :: l) ρ st = seqK (ex C W s ρ st) (exL C W l) := rfl
theorem exL_nil {C : Calls} {W : Nat} {ρ : Env} {st : Store} : exL C W [] ρ st = .ok (.next ρ) st := rfl
end PF
namespace Lw
open PySem L2 PF
theorem xk0 : XdOk x0 := ⟨⟨rfl, rfl, rfl, by decide +kernel, rfl, by decide +kernel, by decide +kernel⟩, fun _ _ _ _ _ _ us hl => match us, hl with | [_, _], _ => rfl, by decide +kernel, by decide⟩
theorem xk1 : XdOk x1 := ⟨⟨rfl, rfl, rfl, by decide +kernel, rfl, by decide +kernel, by decide +kernel⟩, fun _ _ _ _ _ _ us hl => match us, hl with | [_, _], _ => rfl, by decide +kernel, by decide⟩
theorem xk2 : XdOk x2 := ⟨⟨rfl, rfl, rfl, by decide +kernel, rfl, by decide +kernel, by decide +kernel⟩, fun _ _ _ _ _ _ us hl => match us, hl with | [_, _], _ => rfl, by decide +kernel, by decide⟩
theorem xsOk : ∀ x ∈ Xs, XdOk x := by
  intro x h
  simp only [Xs, List.mem_cons, List.not_mem_nil, or_false] at h
  rcases h with rfl | rfl | rfl
  · exact xk0
  · exact xk1
  · exact xk2
theorem ok0 : DfOk Tb0 d0 := ⟨⟨rfl, rfl, rfl, by decide +kernel, rfl, by decide +kernel, by decide +kernel⟩, by decide +kernel, rfl, rfl⟩
theorem bd0 : BdOk d0 := fun _ _ _ _ _ _ us hl => match us, hl with | [_], _ => rfl
theorem ok1 : DfOk Tb0 d1 := ⟨⟨rfl, rfl, rfl, by decide +kernel, rfl, by decide +kernel, by decide +kernel⟩, by decide +kernel, rfl, rfl⟩
theorem bd1 : BdOk d1 := fun _ _ _ _ _ _ us hl => match us, hl with | [_], _ => rfl
theorem ok2 : DfOk Tb0 d2 := ⟨⟨rfl, rfl, rfl, by decide +kernel, rfl, by decide +kernel, by decide +kernel⟩, by decide +kernel, rfl, rfl⟩
theorem bd2 : BdOk d2 := fun _ _ _ _ _ _ us hl => match us, hl with | [_], _ => rfl
theorem ok3 : DfOk Tb0 d3 := ⟨⟨rfl, rfl, rfl, by decide +kernel, rfl, by decide +kernel, by decide +kernel⟩, by decide +kernel, rfl, rfl⟩
theorem bd3 : BdOk d3 := fun _ _ _ _ _ _ us hl => match us, hl with | [_, _], _ => rfl
theorem ok4 : DfOk Tb0 d4 := ⟨⟨rfl, rfl, rfl, by decide +kernel, rfl, by decide +kernel, by decide +kernel⟩, by decide +kernel, rfl, rfl⟩
theorem bd4 : BdOk d4 := fun _ _ _ _ _ _ us hl => match us, hl with | [_], _ => rfl
theorem ok5 : DfOk Tb0 d5 := ⟨⟨rfl, rfl, rfl, by decide +kernel, rfl, by decide +kernel, by decide +kernel⟩, by decide +kernel, rfl, rfl⟩
theorem bd5 : BdOk d5 := fun _ _ _ _ _ _ us hl => match us, hl with | [_], _ => rfl
theorem ok6 : DfOk Tb0 d6 := ⟨⟨rfl, rfl, rfl, by decide +kernel, rfl, by decide +kernel, by decide +kernel⟩, by decide +kernel, rfl, rfl⟩
theorem bd6 : BdOk d6 := fun _ _ _ _ _ _ us hl => match us, hl with | [_], _ => rfl
theorem ok7 : DfOk Tb0 d7 := ⟨⟨rfl, rfl, rfl, by decide +kernel, rfl, by decide +kernel, by decide +kernel⟩, by decide +kernel, rfl, rfl⟩
theorem bd7 : BdOk d7 := fun _ _ _ _ _ _ us hl => match us, hl with | [_], _ => rfl
theorem ok8 : DfOk Tb0 d8 := ⟨⟨rfl, rfl, rfl, by decide +kernel, rfl, by decide +kernel, by decide +kernel⟩, by decide +kernel, rfl, rfl⟩
theorem bd8 : BdOk d8 := fun _ _ _ _ _ _ us hl => match us, hl with | [_], _ => rfl
theorem ok9 : DfOk Tb0 d9 := ⟨⟨rfl, rfl, rfl, by decide +kernel, rfl, by decide +kernel, by decide +kernel⟩, by decide +kernel, rfl, rfl⟩
theorem bd9 : BdOk d9 := fun _ _ _ _ _ _ us hl => match us, hl with | [_], _ => rfl
theorem ok10 : DfOk Tb0 d10 := ⟨⟨rfl, rfl, rfl, by decide +kernel, rfl, by decide +kernel, by decide +kernel⟩, by decide +kernel, rfl, rfl⟩
theorem bd10 : BdOk d10 := fun _ _ _ _ _ _ us hl => match us, hl with | [_], _ => rfl
theorem ok11 : DfOk Tb0 d11 := ⟨⟨rfl, rfl, rfl, by decide +kernel, rfl, by decide +kernel, by decide +kernel⟩, by decide +kernel, rfl, rfl⟩
theorem bd11 : BdOk d11 := fun _ _ _ _ _ _ us hl => match us, hl with | [_], _ => rfl
theorem ok12 : DfOk Tb0 d12 := ⟨⟨rfl, rfl, rfl, by decide +kernel, rfl, by decide +kernel, by decide +kernel⟩, by decide +kernel, rfl, rfl⟩
theorem bd12 : BdOk d12 := fun _ _ _ _ _ _ us hl => match us, hl with | [_, _], _ => rfl
theorem ok13 : DfOk Tb0 d13 := ⟨⟨rfl, rfl, rfl, by decide +kernel, rfl, by decide +kernel, by decide +kernel⟩, by decide +kernel, rfl, rfl⟩
theorem bd13 : BdOk d13 := fun _ _ _ _ _ _ us hl => match us, hl with | [_, _, _], _ => rfl
theorem ok14 : DfOk Tb0 d14 := ⟨⟨rfl, rfl, rfl, by decide +kernel, rfl, by decide +kernel, by decide +kernel⟩, by decide +kernel, rfl, rfl⟩
theorem bd14 : BdOk d14 := fun _ _ _ _ _ _ us hl => match us, hl with | [_, _], _ => rfl
theorem ok15 : DfOk Tb0 d15 := ⟨⟨rfl, rfl, rfl, by decide +kernel, rfl, by decide +kernel, by decide +kernel⟩, by decide +kernel, rfl, rfl⟩
theorem bd15 : BdOk d15 := fun _ _ _ _ _ _ us hl => match us, hl with | [_], _ => rfl
theorem ok16 : DfOk Tb0 d16 := ⟨⟨rfl, rfl, rfl, by decide +kernel, rfl, by decide +kernel, by decide +kernel⟩, by decide +kernel, rfl, rfl⟩
theorem bd16 : BdOk d16 := fun _ _ _ _ _ _ us hl => match us, hl with | [_], _ => rfl
theorem ok17 : DfOk Tb0 d17 := ⟨⟨rfl, rfl, rfl, by decide +kernel, rfl, by decide +kernel, by decide +kernel⟩, by decide +kernel, rfl, rfl⟩
theorem bd17 : BdOk d17 := fun _ _ _ _ _ _ us hl => match us, hl with | [_, _], _ => rfl
theorem ok18 : DfOk Tb0 d18 := ⟨⟨rfl, rfl, rfl, by decide +kernel, rfl, by decide +kernel, by decide +kernel⟩, by decide +kernel, rfl, rfl⟩
theorem bd18 : BdOk d18 := fun _ _ _ _ _ _ us hl => match us, hl with | [_], _ => rfl
theorem ok19 : DfOk Tb0 d19 := ⟨⟨rfl, rfl, rfl, by decide +kernel, rfl, by decide +kernel, by decide +kernel⟩, by decide +kernel, rfl, rfl⟩
theorem bd19 : BdOk d19 := fun _ _ _ _ _ _ us hl => match us, hl with | [_], _ => rfl
theorem ok20 : DfOk Tb0 d20 := ⟨⟨rfl, rfl, rfl, by decide +kernel, rfl, by decide +kernel, by decide +kernel⟩, by decide +kernel, rfl, rfl⟩
theorem bd20 : BdOk d20 := fun _ _ _ _ _ _ us hl => match us, hl with | [_], _ => rfl
theorem ok21 : DfOk Tb0 d21 := ⟨⟨rfl, rfl, rfl, by decide +kernel, rfl, by decide +kernel, by decide +kernel⟩, by decide +kernel, rfl, rfl⟩
theorem ok22 : DfOk Tb0 d22 := ⟨⟨rfl, rfl, rfl, by decide +kernel, rfl, by decide +kernel, by decide +kernel⟩, by decide +kernel, rfl, rfl⟩
theorem bd22 : BdOk d22 := fun _ _ _ _ _ _ us hl => match us, hl with | [_], _ => rfl
theorem ok23 : DfOk Tb0 d23 := ⟨⟨rfl, rfl, rfl, by decide +kernel, rfl, by decide +kernel, by decide +kernel⟩, by decide +kernel, rfl, rfl⟩
theorem bd23 : BdOk d23 := fun _ _ _ _ _ _ us hl => match us, hl with | [_], _ => rfl
theorem ok24 : DfOk Tb0 d24 := ⟨⟨rfl, rfl, rfl, by decide +kernel, rfl, by decide +kernel, by decide +kernel⟩, by decide +kernel, rfl, rfl⟩
theorem bd24 : BdOk d24 := fun _ _ _ _ _ _ us hl => match us, hl with | [_, _], _ => rfl
theorem ok25 : DfOk Tb0 d25 := ⟨⟨rfl, rfl, rfl, by decide +kernel, rfl, by decide +kernel, by decide +kernel⟩, by decide +kernel, rfl, rfl⟩
theorem ok26 : DfOk Tb0 d26 := ⟨⟨rfl, rfl, rfl, by decide +kernel, rfl, by decide +kernel, by decide +kernel⟩, by decide +kernel, rfl, rfl⟩
theorem bd26 : BdOk d26 := fun _ _ _ _ _ _ us hl => match us, hl with | [_], _ => rfl
theorem ok27 : DfOk Tb0 d27 := ⟨⟨rfl, rfl, rfl, by decide +kernel, rfl, by decide +kernel, by decide +kernel⟩, by decide +kernel, rfl, rfl⟩
theorem bd27 : BdOk d27 := fun _ _ _ _ _ _ us hl => match us, hl with | [_], _ => rfl
theorem ok28 : DfOk Tb0 d28 := ⟨⟨rfl, rfl, rfl, by decide +kernel, rfl, by decide +kernel, by decide +kernel⟩, by decide +kernel, rfl, rfl⟩
theorem bd28 : BdOk d28 := fun _ _ _ _ _ _ us hl => match us, hl with | [_], _ => rfl
theorem ok29 : DfOk Tb0 d29 := ⟨⟨rfl, rfl, rfl, by decide +kernel, rfl, by decide +kernel, by decide +kernel⟩, by decide +kernel, rfl, rfl⟩
theorem bd29 : BdOk d29 := fun _ _ _ _ _ _ us hl => match us, hl with | [_], _ => rfl
theorem ok30 : DfOk Tb0 d30 := ⟨⟨rfl, rfl, rfl, by decide +kernel, rfl, by decide +kernel, by decide +kernel⟩, by decide +kernel, rfl, rfl⟩
theorem bd30 : BdOk d30 := fun _ _ _ _ _ _ us hl => match us, hl with | [_], _ => rfl
theorem ok31 : DfOk Tb0 d31 := ⟨⟨rfl, rfl, rfl, by decide +kernel, rfl, by decide +kernel, by decide +kernel⟩, by decide +kernel, rfl, rfl⟩
theorem bd31 : BdOk d31 := fun _ _ _ _ _ _ us hl => match us, hl with | [_], _ => rfl
theorem ok32 : DfOk Tb0 d32 := ⟨⟨rfl, rfl, rfl, by decide +kernel, rfl, by decide +kernel, by decide +kernel⟩, by decide +kernel, rfl, rfl⟩
theorem bd32 : BdOk d32 := fun _ _ _ _ _ _ us hl => match us, hl with | [_], _ => rfl
theorem ok33 : DfOk Tb0 d33 := ⟨⟨rfl, rfl, rfl, by decide +kernel, rfl, by decide +kernel, by decide +kernel⟩, by decide +kernel, rfl, rfl⟩
theorem bd33 : BdOk d33 := fun _ _ _ _ _ _ us hl => match us, hl with | [_, _], _ => rfl
theorem ok34 : DfOk Tb0 d34 := ⟨⟨rfl, rfl, rfl, by decide +kernel, rfl, by decide +kernel, by decide +kernel⟩, by decide +kernel, rfl, rfl⟩
theorem bd34 : BdOk d34 := fun _ _ _ _ _ _ us hl => match us, hl with | [_, _], _ => rfl
theorem ok35 : DfOk Tb0 d35 := ⟨⟨rfl, rfl, rfl, by decide +kernel, rfl, by decide +kernel, by decide +kernel⟩, by decide +kernel, rfl, rfl⟩
theorem bd35 : BdOk d35 := fun _ _ _ _ _ _ us hl => match us, hl with | [_], _ => rfl
theorem ok36 : DfOk Tb0 d36 := ⟨⟨rfl, rfl, rfl, by decide +kernel, rfl, by decide +kernel, by decide +kernel⟩, by decide +kernel, rfl, rfl⟩
theorem bd36 : BdOk d36 := fun _ _ _ _ _ _ us hl => match us, hl with | [_], _ => rfl
theorem ok37 : DfOk Tb0 d37 := ⟨⟨rfl, rfl, rfl, by decide +kernel, rfl, by decide +kernel, by decide +kernel⟩, by decide +kernel, rfl, rfl⟩
theorem bd37 : BdOk d37 := fun _ _ _ _ _ _ us hl => match us, hl with | [_, _], _ => rfl
theorem ok38 : DfOk Tb0 d38 := ⟨⟨rfl, rfl, rfl, by decide +kernel, rfl, by decide +kernel, by decide +kernel⟩, by decide +kernel, rfl, rfl⟩
theorem bd38 : BdOk d38 := fun _ _ _ _ _ _ us hl => match us, hl with | [_, _], _ => rfl
theorem ok39 : DfOk Tb0 d39 := ⟨⟨rfl, rfl, rfl, by decide +kernel, rfl, by decide +kernel, by decide +kernel⟩, by decide +kernel, rfl, rfl⟩
theorem bd39 : BdOk d39 := fun _ _ _ _ _ _ us hl => match us, hl with | [_, _], _ => rfl
theorem ok40 : DfOk Tb0 d40 := ⟨⟨rfl, rfl, rfl, by decide +kernel, rfl, by decide +kernel, by decide +kernel⟩, by decide +kernel, rfl, rfl⟩
theorem bd40 : BdOk d40 := fun _ _ _ _ _ _ us hl => match us, hl with | [_, _], _ => rfl
theorem ok41 : DfOk Tb0 d41 := ⟨⟨rfl, rfl, rfl, by decide +kernel, rfl, by decide +kernel, by decide +kernel⟩, by decide +kernel, rfl, rfl⟩
theorem bd41 : BdOk d41 := fun _ _ _ _ _ _ us hl => match us, hl with | [_, _], _ => rfl
theorem ok42 : DfOk Tb0 d42 := ⟨⟨rfl, rfl, rfl, by decide +kernel, rfl, by decide +kernel, by decide +kernel⟩, by decide +kernel, rfl, rfl⟩
theorem bd42 : BdOk d42 := fun _ _ _ _ _ _ us hl => match us, hl with | [_], _ => rfl
theorem ok43 : DfOk Tb0 d43 := ⟨⟨rfl, rfl, rfl, by decide +kernel, rfl, by decide +kernel, by decide +kernel⟩, by decide +kernel, rfl, rfl⟩
theorem bd43 : BdOk d43 := fun _ _ _ _ _ _ us hl => match us, hl with | [_], _ => rfl
theorem ok44 : DfOk Tb0 d44 := ⟨⟨rfl, rfl, rfl, by decide +kernel, rfl, by decide +kernel, by decide +kernel⟩, by decide +kernel, rfl, rfl⟩
theorem bd44 : BdOk d44 := fun _ _ _ _ _ _ us hl => match us, hl with | [_], _ => rfl
theorem ok45 : DfOk Tb0 d45 := ⟨⟨rfl, rfl, rfl, by decide +kernel, rfl, by decide +kernel, by decide +kernel⟩, by decide +kernel, rfl, rfl⟩
theorem bd45 : BdOk d45 := fun _ _ _ _ _ _ us hl => match us, hl with | [_], _ => rfl
theorem ok46 : DfOk Tb0 d46 := ⟨⟨rfl, rfl, rfl, by decide +kernel, rfl, by decide +kernel, by decide +kernel⟩, by decide +kernel, rfl, rfl⟩
theorem bd46 : BdOk d46 := fun _ _ _ _ _ _ us hl => match us, hl with | [_, _], _ => rfl
theorem ok47 : DfOk Tb0 d47 := ⟨⟨rfl, rfl, rfl, by decide +kernel, rfl, by decide +kernel, by decide +kernel⟩, by decide +kernel, rfl, rfl⟩
theorem bd47 : BdOk d47 := fun _ _ _ _ _ _ us hl => match us, hl with | [_, _], _ => rfl
theorem ok48 : DfOk Tb0 d48 := ⟨⟨rfl, rfl, rfl, by decide +kernel, rfl, by decide +kernel, by decide +kernel⟩, by decide +kernel, rfl, rfl⟩
theorem bd48 : BdOk d48 := fun _ _ _ _ _ _ us hl => match us, hl with | [_], _ => rfl
theorem ok49 : DfOk Tb0 d49 := ⟨⟨rfl, rfl, rfl, by decide +kernel, rfl, by decide +kernel, by decide +kernel⟩, by decide +kernel, rfl, rfl⟩
theorem bd49 : BdOk d49 := fun _ _ _ _ _ _ us hl => match us, hl with | [_], _ => rfl
theorem ok50 : DfOk Tb0 d50 := ⟨⟨rfl, rfl, rfl, by decide +kernel, rfl, by decide +kernel, by decide +kernel⟩, by decide +kernel, rfl, rfl⟩
theorem bd50 : BdOk d50 := fun _ _ _ _ _ _ us hl => match us, hl with | [_], _ => rfl
theorem ok51 : DfOk Tb0 d51 := ⟨⟨rfl, rfl, rfl, by decide +kernel, rfl, by decide +kernel, by decide +kernel⟩, by decide +kernel, rfl, rfl⟩
theorem bd51 : BdOk d51 := fun _ _ _ _ _ _ us hl => match us, hl with | [_], _ => rfl
theorem ok52 : DfOk Tb0 d52 := ⟨⟨rfl, rfl, rfl, by decide +kernel, rfl, by decide +kernel, by decide +kernel⟩, by decide +kernel, rfl, rfl⟩
theorem bd52 : BdOk d52 := fun _ _ _ _ _ _ us hl => match us, hl with | [_], _ => rfl
theorem ok53 : DfOk Tb0 d53 := ⟨⟨rfl, rfl, rfl, by decide +kernel, rfl, by decide +kernel, by decide +kernel⟩, by decide +kernel, rfl, rfl⟩
theorem bd53 : BdOk d53 := fun _ _ _ _ _ _ us hl => match us, hl with | [_, _], _ => rfl
theorem ok54 : DfOk Tb0 d54 := ⟨⟨rfl, rfl, rfl, by decide +kernel, rfl, by decide +kernel, by decide +kernel⟩, by decide +kernel, rfl, rfl⟩
theorem bd54 : BdOk d54 := fun _ _ _ _ _ _ us hl => match us, hl with | [_], _ => rfl
theorem allOk : ∀ (f : Nat) (d : Df), Ds[f]? = some d → DfOk Tb0 d := by
  intro f d h
  match f, h with
  | 0, h => cases h; exact ok0
  | 1, h => cases h; exact ok1
  | 2, h => cases h; exact ok2
  | 3, h => cases h; exact ok3
  | 4, h => cases h; exact ok4
  | 5, h => cases h; exact ok5
  | 6, h => cases h; exact ok6
  | 7, h => cases h; exact ok7
  | 8, h => cases h; exact ok8
  | 9, h => cases h; exact ok9
  | 10, h => cases h; exact ok10
  | 11, h => cases h; exact ok11
  | 12, h => cases h; exact ok12
  | 13, h => cases h; exact ok13
  | 14, h => cases h; exact ok14
  | 15, h => cases h; exact ok15
  | 16, h => cases h; exact ok16
  | 17, h => cases h; exact ok17
  | 18, h => cases h; exact ok18
  | 19, h => cases h; exact ok19
  | 20, h => cases h; exact ok20
  | 21, h => cases h; exact ok21
  | 22, h => cases h; exact ok22
  | 23, h => cases h; exact ok23
  | 24, h => cases h; exact ok24
  | 25, h => cases h; exact ok25
  | 26, h => cases h; exact ok26
  | 27, h => cases h; exact ok27
  | 28, h => cases h; exact ok28
  | 29, h => cases h; exact ok29
  | 30, h => cases h; exact ok30
  | 31, h => cases h; exact ok31
  | 32, h => cases h; exact ok32
  | 33, h => cases h; exact ok33
  | 34, h => cases h; exact ok34
  | 35, h => cases h; exact ok35
  | 36, h => cases h; exact ok36
  | 37, h => cases h; exact ok37
  | 38, h => cases h; exact ok38
  | 39, h => cases h; exact ok39
  | 40, h => cases h; exact ok40
  | 41, h => cases h; exact ok41
  | 42, h => cases h; exact ok42
  | 43, h => cases h; exact ok43
  | 44, h => cases h; exact ok44
  | 45, h => cases h; exact ok45
  | 46, h => cases h; exact ok46
  | 47, h => cases h; exact ok47
  | 48, h => cases h; exact ok48
  | 49, h => cases h; exact ok49
  | 50, h => cases h; exact ok50
  | 51, h => cases h; exact ok51
  | 52, h => cases h; exact ok52
  | 53, h => cases h; exact ok53
  | 54, h => cases h; exact ok54
  | n + 55, h => exact absurd h (by simp [Ds])
theorem allBd : ∀ (f : Nat) (d : Df), Ds[f]? = some d → d.fn.ini = none → BdOk d := by
  intro f d h hi
  match f, h with
  | 0, h => cases h; exact bd0
  | 1, h => cases h; exact bd1
  | 2, h => cases h; exact bd2
  | 3, h => cases h; exact bd3
  | 4, h => cases h; exact bd4
  | 5, h => cases h; exact bd5
  | 6, h => cases h; exact bd6
  | 7, h => cases h; exact bd7
  | 8, h => cases h; exact bd8
  | 9, h => cases h; exact bd9
  | 10, h => cases h; exact bd10
  | 11, h => cases h; exact bd11
  | 12, h => cases h; exact bd12
  | 13, h => cases h; exact bd13
  | 14, h => cases h; exact bd14
  | 15, h => cases h; exact bd15
  | 16, h => cases h; exact bd16
  | 17, h => cases h; exact bd17
  | 18, h => cases h; exact bd18
  | 19, h => cases h; exact bd19
  | 20, h => cases h; exact bd20
  | 21, h => cases h; cases hi
  | 22, h => cases h; exact bd22
  | 23, h => cases h; exact bd23
  | 24, h => cases h; exact bd24
  | 25, h => cases h; cases hi
  | 26, h => cases h; exact bd26
  | 27, h => cases h; exact bd27
  | 28, h => cases h; exact bd28
  | 29, h => cases h; exact bd29
  | 30, h => cases h; exact bd30
  | 31, h => cases h; exact bd31
  | 32, h => cases h; exact bd32
  | 33, h => cases h; exact bd33
  | 34, h => cases h; exact bd34
  | 35, h => cases h; exact bd35
  | 36, h => cases h; exact bd36
  | 37, h => cases h; exact bd37
  | 38, h => cases h; exact bd38
  | 39, h => cases h; exact bd39
  | 40, h => cases h; exact bd40
  | 41, h => cases h; exact bd41
  | 42, h => cases h; exact bd42
  | 43, h => cases h; exact bd43
  | 44, h => cases h; exact bd44
  | 45, h => cases h; exact bd45
  | 46, h => cases h; exact bd46
  | 47, h => cases h; exact bd47
  | 48, h => cases h; exact bd48
  | 49, h => cases h; exact bd49
  | 50, h => cases h; exact bd50
  | 51, h => cases h; exact bd51
  | 52, h => cases h; exact bd52
  | 53, h => cases h; exact bd53
  | 54, h => cases h; exact bd54
  | n + 55, h => exact absurd h (by simp [Ds])
theorem allKb : ∀ q ∈ Tb0.mks, ∀ d, Ds[q.2.1]? = some d → KbOk d q.2.2.1 q.2.2.2 := by
  intro q h d hd
  simp only [Tb0, List.mem_cons, List.not_mem_nil, or_false] at h
  all_goals exact h.elim
theorem sb0 : SbOk d25 1 := ⟨["self", "task"], "places", rfl, rfl, fun _ _ _ _ _ _ us rest hl => match us, rest, hl with | [_, _], [], _ => rfl | [_, _], _ :: _, _ => rfl⟩
theorem sb1 : SbOk d21 1 := ⟨["self", "top"], "parts", rfl, rfl, fun _ _ _ _ _ _ us rest hl => match us, rest, hl with | [_, _], [], _ => rfl | [_, _], _ :: _, _ => rfl⟩
theorem allSb : ∀ q ∈ Tb0.mkx, ∀ d, Ds[q.2.1]? = some d → SbOk d q.2.2 := by
  intro q h d hd
  simp only [Tb0, List.mem_cons, List.not_mem_nil, or_false] at h
  rcases h with rfl | rfl
  · cases hd; exact sb0
  · cases hd; exact sb1
theorem tbOk : TbOk Tb0 Ds Xs Ks ats := ⟨rfl, rfl, rfl, rfl, rfl, by decide +kernel, by decide +kernel, by decide +kernel, by decide +kernel, by decide +kernel, by decide +kernel, by decide +kernel, by decide +kernel, allSb, allOk, allBd, allKb, xsOk⟩
theorem fin {w : World} {K : PySem.W.Frag} {h : Heap} {mg : Str → Option Value} {f : Addr} {n : Nat} (X : K.In h) (G : h.Ns mainGlobals mg) (hfa : mg ("law" : Str) = some (.ref f)) (c : He.SaysX (faOf Tb0 Xs) (fnsOf Xs) (tsOf Ks) [] (exB Tb0 Ds Xs) w h K) (hg : ((gsOf Ds).map fun d => fnWa K (d.1 K)) = (gsOf Ds).map (·.2)) :
    ∃ fd : FuncData, (∀ (s : Shared) (v : Value), BindsTo s fd ⟨[v], []⟩ [("_law_script", v)]) ∧ ∀ base : Heap, K.In base → base.Ns mainGlobals mg → FnOk (PySem.Challenge.rw_soleinstances_k09_heads_told).prog w K mg base CX0 (4 * n + 4) f fd ["_law_script"] (fun vs H Q _ => spOf K (fun _ => 0) (call (Ds.map (·.fn)) 1000000 n) 54 vs H Q fun _ _ _ => False) := by
  obtain ⟨ad, fdf, A⟩ := facts_of tbOk X G c hg
  obtain ⟨hm, FD⟩ := A.df 54 d54 rfl
  have e : (Value.ref f) = .ref (ad 54) := Option.some.inj (hfa.symm.trans (hm rfl).1)
  cases e
  have b := FD.bindsA (ps := ["_law_script"]) bd54
  exact ⟨fdf 54, fun s v => b s [v] rfl, fun base _ _ => PF.FnOk.calm (prog_ok (fun _ => 0) 1000000 A n 54 d54 rfl).1⟩
theorem ends (n : Nat) (hr : Room (4 * n + 4) callerA) (runs : ∀ ns : List Int, ns.length ≤ 63 → ∃ st, lawRun Ds 1000000 n 54 ns = .ok (.bl true) st) : PySem.Challenge.rw_soleinstances_k09_heads_told.Holds := by
  w_on; o_law
  refine HandSHeadRun.head_any (r := PySem.W.OpenLaw.row PySem.Challenge.rw_soleinstances_k09_heads_told) (q := PySem.W.view (PySem.W.OpenLaw.row PySem.Challenge.rw_soleinstances_k09_heads_told).prog [73]) (H := hk) (ob := ob) (M := 12000) (loose := loose) (d := HandSHeadRun.topDef (PySem.W.OpenLaw.row PySem.Challenge.rw_soleinstances_k09_heads_told).prog 73) (kwd := []) ob_eq
    (by kernel_rfl) (fun s => by kernel_rfl) topRun (by kernel_rfl) (by kernel_rfl) (by kernel_rfl) (by rfl) (by first | assumption | decide +kernel) (by decide +kernel) ⟨rfl, rfl, rfl, rfl, rfl, by decide +kernel⟩ ?hw ?hc
  case hw => w_witness2
  case hc =>
    refine L2.walk_ofE (l := PySem.Challenge.rw_soleinstances_k09_heads_told) (n := 63) (k := 4 * n + 4) (x := "_law_script") (CX := L2.CX0) rfl (by decide) (by kernel_rfl) hr ?F (fun _ _ _ _ z => z)
    intro w mg fa h Y G hmg0
    obtain ⟨K, KX, c, hg⟩ := Y
    have hmg : mg ("law" : PySem.Str) = some (.ref fa) := by
      have e : (HandSHeadRun.topDef (PySem.W.OpenLaw.row PySem.Challenge.rw_soleinstances_k09_heads_told).prog 73).name = ("law" : PySem.Str) := by kernel_rfl
      rw [← e]
      exact hmg0
    obtain ⟨fd, hb, hF⟩ := fin (w := w) (n := n) KX G hmg c hg
    exact ⟨K, fd, fun vs H Q _ => spOf K (fun _ => 0) (call (Ds.map (·.fn)) 1000000 n) 54 vs H Q fun _ _ _ => False, KX, hb, fun H a ns hl _ hS => law_sp hl hS (runs ns hl), hF⟩
end Lw
/-! Terms in plain Lean. -/
namespace TL
open PySem L2 PF
inductive Tm where
  | v (x : Tx) | c0 (k : Tx) | c1 (k : Tx) (a : Tm) | c2 (k : Tx) (a b : Tm)
  deriving DecidableEq
namespace Tm
def top : Tm → Tx
  | v x => x | c0 k => k | c1 k _ => k | c2 k _ _ => k
def parts : Tm → List Tm
  | v _ => [] | c0 _ => [] | c1 _ a => [a] | c2 _ a b => [a, b]
def enc : Tm → D
  | v x => .tup [.str x]
  | c0 k => .tup [.str k]
  | c1 k a => .tup [.str k, a.enc]
  | c2 k a b => .tup [.str k, a.enc, b.enc]
def text : Tm → Tx
  | v x => x
  | c0 k => k
  | c1 k a => k ++ [40] ++ a.text ++ [41]
  | c2 k a b => k ++ [40] ++ (a.text ++ [44] ++ b.text) ++ [41]
def names : Tm → List Tx
  | v x => [x]
  | c0 k => [k]
  | c1 k a => k :: a.names
  | c2 k a b => k :: (a.names ++ b.names)
def dep : Tm → Nat
  | v _ => 1
  | c0 _ => 1
  | c1 _ a => a.dep + 1
  | c2 _ a b => max a.dep b.dep + 1
def tops : Tm → List (Tx × Nat)
  | v _ => []
  | c0 k => [(k, 0)]
  | c1 k a => (k, 1) :: a.tops
  | c2 k a b => (k, 2) :: (a.tops ++ b.tops)
end Tm
def low (c : Nat) : Bool := decide (c ∈ [97, 98, 99, 100, 101, 102, 103, 104, 105, 106, 107, 108, 109, 110, 111, 112, 113, 114, 115, 116, 117, 118, 119, 120, 121, 122])
def upp (c : Nat) : Bool := decide (c ∈ [65, 66, 67, 68, 69, 70, 71, 72, 73, 74, 75, 76, 77, 78, 79, 80, 81, 82, 83, 84, 85, 86, 87, 88, 89, 90])
theorem low_range {c : Nat} : low c = true ↔ 97 ≤ c ∧ c ≤ 122 := by
  unfold low
  simp only [decide_eq_true_eq, List.mem_cons, List.not_mem_nil, or_false]
  omega
theorem upp_range {c : Nat} : upp c = true ↔ 65 ≤ c ∧ c ≤ 90 := by
  unfold upp
  simp only [decide_eq_true_eq, List.mem_cons, List.not_mem_nil, or_false]
  omega
/-- a name of lowercase letters; of a constructor -/
def isN (x : Tx) : Bool := decide (1 ≤ x.length) && decide (x.length ≤ 8) && x.all low
def isC : Tx → Bool
  | [] => false
  | c :: r => decide (r.length ≤ 7) && upp c && r.all low
namespace Tm
/-- names are names -/
def ok : Tm → Bool
  | v x => isN x
  | c0 k => isC k
  | c1 k a => isC k && a.ok
  | c2 k a b => isC k && (a.ok && b.ok)
end Tm
theorem isN_ne {x : Tx} (h : isN x = true) : ∃ c r, x = c :: r ∧ low c = true := by
  unfold isN at h
  simp only [Bool.and_eq_true, decide_eq_true_eq] at h
  cases x with
  | nil => simp at h
  | cons c r => exact ⟨c, r, rfl, by have := h.2; rw [List.all_cons, Bool.and_eq_true] at this; exact this.1⟩
theorem isC_ne {x : Tx} (h : isC x = true) : ∃ c r, x = c :: r ∧ upp c = true ∧ low c = false := by
  cases x with
  | nil => cases h
  | cons c r =>
    unfold isC at h
    simp only [Bool.and_eq_true, decide_eq_true_eq] at h
    refine ⟨c, r, rfl, h.1.2, ?_⟩
    have h1 := upp_range.mp h.1.2
    cases hl : low c with
    | false => rfl
    | true =>
      have h2 := low_range.mp hl
      omega
/-- is it a variable's name: by its first letter -/
def isV (x : Tx) : Bool := match x with
  | c :: _ => low c
  | [] => false
namespace Tm
def isVar : Tm → Bool
  | v _ => true
  | _ => false
/-- each once, in order -/
def onceL {α : Type} [DecidableEq α] (xs : List α) : List α := xs.foldl (fun acc x => if x ∈ acc then acc else acc ++ [x]) []
def vars (t : Tm) : List Tx := onceL (t.names.filter isV)
theorem top_var {t : Tm} (h : t.ok = true) : isV t.top = t.isVar := by
  cases t with
  | v x =>
    obtain ⟨c, r, rfl, hc⟩ := isN_ne h
    exact hc
  | c0 k =>
    obtain ⟨c, r, rfl, _, hc⟩ := isC_ne h
    exact hc
  | c1 k a =>
    have h : (isC k && a.ok) = true := h
    rw [Bool.and_eq_true] at h
    obtain ⟨c, r, rfl, _, hc⟩ := isC_ne h.1
    exact hc
  | c2 k a b =>
    have h : (isC k && (a.ok && b.ok)) = true := h
    rw [Bool.and_eq_true] at h
    obtain ⟨c, r, rfl, _, hc⟩ := isC_ne h.1
    exact hc
end Tm
end TL
/-! Places in a text; small rules. -/
namespace TL
open PySem L2 PF
theorem cut_nat {T : Tx} {i j : Nat} : cut T (some (i : Int)) (some (j : Int)) = (T.drop i).take (j - i) := by
  unfold cut
  rw [HT.sIx_nat, HT.sIx_nat]
  by_cases h : i ≤ T.length
  · rw [Nat.min_eq_left h]
    by_cases h2 : j ≤ T.length
    · rw [Nat.min_eq_left h2]
    · rw [Nat.min_eq_right (by omega)]
      rw [List.take_of_length_le (by rw [List.length_drop]; omega), List.take_of_length_le (by rw [List.length_drop]; omega)]
  · rw [List.drop_of_length_le (show T.length ≤ i by omega), List.drop_of_length_le (show T.length ≤ min i T.length by omega), List.take_nil, List.take_nil]
theorem drop_cons {T s : Tx} {i c : Nat} (h : T.drop i = c :: s) : i < T.length ∧ T[i]? = some c ∧ T.drop (i + 1) = s := by
  have hl : i < T.length := by
    rcases Nat.lt_or_ge i T.length with z | z
    · exact z
    · rw [List.drop_of_length_le z] at h; cases h
  refine ⟨hl, ?_, ?_⟩
  · have := List.getElem?_drop (xs := T) (i := i) (j := 0)
    rw [h] at this
    simpa using this.symm
  · rw [← List.tail_drop, h]
    rfl
theorem drop_app {T s r : Tx} {i : Nat} (h : T.drop i = s ++ r) : T.drop (i + s.length) = r := by
  rw [← List.drop_drop, h, List.drop_left]
theorem drop_nil {T : Tx} {i : Nat} (h : T.drop i = []) (hi : i ≤ T.length) : i = T.length := by
  have := List.length_drop (l := T) (i := i)
  rw [h] at this
  simp at this
  omega
theorem drop_le {T s : Tx} {i : Nat} (h : T.drop i = s) (hs : s ≠ []) : i + s.length = T.length := by
  have := List.length_drop (l := T) (i := i)
  rw [h] at this
  cases s with
  | nil => exact absurd rfl hs
  | cons c r => rw [List.length_cons] at this ⊢; omega
theorem atT {T : Tx} {i : Nat} : atI T (i : Int) = T[i]? := by
  unfold atI ixN
  rw [if_pos (by omega)]
  by_cases h : (i : Int) < T.length
  · rw [if_pos h]; rfl
  · rw [if_neg h, List.getElem?_eq_none (by omega)]; rfl
def letter (c : Nat) : Bool := low c || upp c
/-- what follows is no letter -/
def noL : Tx → Bool
  | [] => true
  | c :: _ => !letter c
theorem isN_all {x : Tx} (h : isN x = true) : x.all letter = true := by
  unfold isN at h
  simp only [Bool.and_eq_true] at h
  rw [List.all_eq_true]
  intro c hc
  have := List.all_eq_true.mp h.2 c hc
  unfold letter
  rw [this]
  rfl
theorem isC_all {x : Tx} (h : isC x = true) : x.all letter = true := by
  cases x with
  | nil => rfl
  | cons c r =>
    unfold isC at h
    simp only [Bool.and_eq_true] at h
    rw [List.all_cons]
    have h2 : r.all letter = true := by
      rw [List.all_eq_true]
      intro c hc
      have := List.all_eq_true.mp h.2 c hc
      unfold letter
      rw [this]
      rfl
    rw [h2]
    unfold letter
    rw [h.1.2]
    simp
theorem isN_len {x : Tx} (h : isN x = true) : 1 ≤ x.length ∧ x.length ≤ 8 := by
  unfold isN at h
  simp only [Bool.and_eq_true, decide_eq_true_eq] at h
  exact h.1
theorem isC_len {x : Tx} (h : isC x = true) : 1 ≤ x.length ∧ x.length ≤ 8 := by
  cases x with
  | nil => cases h
  | cons c r =>
    unfold isC at h
    simp only [Bool.and_eq_true, decide_eq_true_eq] at h
    rw [List.length_cons]
    omega
theorem isC_notN {x : Tx} (h : isC x = true) : isN x = false := by
  obtain ⟨c, r, rfl, _, hl⟩ := isC_ne h
  unfold isN
  rw [List.all_cons, hl]
  simp
theorem isN_notC {x : Tx} (h : isN x = true) : isC x = false := by
  cases hc : isC x with
  | false => rfl
  | true => rw [isC_notN hc] at h; cases h
namespace Tm
theorem top_len {t : Tm} (h : t.ok = true) : 1 ≤ t.top.length ∧ t.top.length ≤ 8 := by
  cases t with
  | v x => exact isN_len h
  | c0 k => exact isC_len h
  | c1 k a => exact isC_len (Bool.and_eq_true_iff.mp h).1
  | c2 k a b => exact isC_len (Bool.and_eq_true_iff.mp h).1
theorem dep_pos (t : Tm) : 1 ≤ t.dep := by cases t <;> simp [dep]
/-- how large: names -/
def sz (t : Tm) : Nat := t.names.length
theorem sz_pos (t : Tm) : 1 ≤ t.sz := by cases t <;> simp [sz, names]
theorem text_len : ∀ {t : Tm}, t.ok = true → t.text.length + 3 ≤ 12 * t.sz
  | v x, h => by
    have := isN_len h
    simp [text, sz, names]
    omega
  | c0 k, h => by
    have := isC_len h
    simp [text, sz, names]
    omega
  | c1 k a, h => by
    have h := Bool.and_eq_true_iff.mp h
    have := isC_len h.1
    have := text_len h.2
    simp [text, sz, names] at *
    omega
  | c2 k a b, h => by
    have h := Bool.and_eq_true_iff.mp h
    have h2 := Bool.and_eq_true_iff.mp h.2
    have := isC_len h.1
    have := text_len h2.1
    have := text_len h2.2
    simp [text, sz, names] at *
    omega
end Tm
/-- what stands behind some terms of a list in brackets -/
def restT (first : Bool) : List Tm → Tx → Tx
  | [], r => 41 :: r
  | q :: qs, r => (if first then 40 else 44) :: (q.text ++ restT false qs r)
/-- what follows is no bracket -/
def noP : Tx → Bool
  | [] => true
  | c :: _ => !decide (c = 40)
theorem restT_ok (qs : List Tm) (r : Tx) : noL (restT false qs r) = true ∧ noP (restT false qs r) = true ∧ restT false qs r ≠ [] := by
  cases qs with
  | nil => exact ⟨by simp [restT, noL, letter, low, upp], by simp [restT, noP], by simp [restT]⟩
  | cons q qs => exact ⟨by simp [restT, noL, letter, low, upp], by simp [restT, noP], by simp [restT]⟩
end TL
namespace TL
open PySem L2 PF
namespace Tm
theorem tops_len : ∀ t : Tm, t.tops.length ≤ t.sz
  | v x => by simp [tops]
  | c0 k => by simp [tops, sz, names]
  | c1 k a => by
    have := tops_len a
    simp [tops, sz, names] at *
    omega
  | c2 k a b => by
    have := tops_len a
    have := tops_len b
    simp [tops, sz, names] at *
    omega
theorem names_ok : ∀ {t : Tm}, t.ok = true → ∀ x ∈ t.names, x ≠ [] ∧ x.all letter = true
  | v x, h, y, hy => by
    rw [names, List.mem_singleton] at hy
    subst hy
    refine ⟨fun e => ?_, isN_all h⟩
    have := isN_len h
    rw [e] at this
    simp at this
  | c0 k, h, y, hy => by
    rw [names, List.mem_singleton] at hy
    subst hy
    refine ⟨fun e => ?_, isC_all h⟩
    have := isC_len h
    rw [e] at this
    simp at this
  | c1 k a, h, y, hy => by
    obtain ⟨h1, h2⟩ := Bool.and_eq_true_iff.mp h
    rw [names, List.mem_cons] at hy
    rcases hy with rfl | hy
    · refine ⟨fun e => ?_, isC_all h1⟩
      have := isC_len h1
      rw [e] at this
      simp at this
    · exact names_ok h2 y hy
  | c2 k a b, h, y, hy => by
    obtain ⟨h1, h2⟩ := Bool.and_eq_true_iff.mp h
    obtain ⟨h3, h4⟩ := Bool.and_eq_true_iff.mp h2
    rw [names, List.mem_cons, List.mem_append] at hy
    rcases hy with rfl | hy | hy
    · refine ⟨fun e => ?_, isC_all h1⟩
      have := isC_len h1
      rw [e] at this
      simp at this
    · exact names_ok h3 y hy
    · exact names_ok h4 y hy
end Tm
end TL
/-! == and in over plain data. -/
namespace TL
open PySem L2 PF
def pl (b : Bool) : Nat → D → Bool
  | _, .non => true
  | _, .bl _ => b
  | _, .int _ => !b
  | _, .str s => s.all fun c => decide (c < 0x110000)
  | n + 1, .lst xs => xs.all (pl b n)
  | n + 1, .tup xs => xs.all (pl b n)
  | _, _ => false
theorem strOk_all {w : Tx} (h : (w.all fun c => decide (c < 0x110000)) = true) : PyData.strOk (tx w) = true := by
  unfold PyData.strOk tx
  rw [Array.all_eq_true']
  intro c hc
  have hc : c ∈ w := by simpa using hc
  exact List.all_eq_true.mp h c hc
theorem py_all {b : Bool} {n : Nat} (ih : ∀ d : D, pl b n d = true → ∃ p, d.py = some p ∧ PyData.canLay0 p = true ∧ PyData.depth p ≤ n + 1) : ∀ xs : List D, xs.all (pl b n) = true → ∃ ps, pyAll xs = some ps ∧ PyData.canLayAll0 ps = true ∧ PyData.depthAll ps ≤ n + 1
  | [], _ => ⟨[], rfl, rfl, by simp [PyData.depthAll]⟩
  | x :: xs, h => by
    rw [List.all_cons, Bool.and_eq_true] at h
    obtain ⟨p, e1, c1, d1⟩ := ih x h.1
    obtain ⟨ps, e2, c2, d2⟩ := py_all ih xs h.2
    refine ⟨p :: ps, by rw [pyAll, e1, e2], by rw [PyData.canLayAll0, c1, c2]; rfl, ?_⟩
    rw [PyData.depthAll]
    omega
theorem py_pl {b : Bool} : ∀ (n : Nat) (d : D), pl b n d = true → ∃ p, d.py = some p ∧ PyData.canLay0 p = true ∧ PyData.depth p ≤ n + 1 := by
  intro n
  induction n with
  | zero =>
    intro d h
    cases d with
    | non => exact ⟨_, rfl, rfl, by simp [PyData.depth]⟩
    | bl c => exact ⟨_, rfl, rfl, by simp [PyData.depth]⟩
    | int i => exact ⟨_, rfl, rfl, by simp [PyData.depth]⟩
    | str s => exact ⟨_, rfl, by rw [PyData.canLay0]; exact strOk_all h, by simp [PyData.depth]⟩
    | _ => simp [pl] at h
  | succ n ih =>
    intro d h
    cases d with
    | non => exact ⟨_, rfl, rfl, by simp [PyData.depth]⟩
    | bl c => exact ⟨_, rfl, rfl, by simp [PyData.depth]⟩
    | int i => exact ⟨_, rfl, rfl, by simp [PyData.depth]⟩
    | str s => exact ⟨_, rfl, by rw [PyData.canLay0]; exact strOk_all h, by simp [PyData.depth]⟩
    | lst xs =>
      obtain ⟨ps, e, c, dd⟩ := py_all ih xs h
      exact ⟨.list ps, by rw [D.py, e]; rfl, by rw [PyData.canLay0]; exact c, by rw [PyData.depth]; omega⟩
    | tup xs =>
      obtain ⟨ps, e, c, dd⟩ := py_all ih xs h
      exact ⟨.tuple ps, by rw [D.py, e]; rfl, by rw [PyData.canLay0]; exact c, by rw [PyData.depth]; omega⟩
    | _ => simp [pl] at h
theorem tx_inj {a b : Tx} (h : tx a = tx b) : a = b := by
  have := congrArg (fun s : Str => s.cps.toList) h
  simpa [tx] using this
theorem eqv_all {b : Bool} {n : Nat} (ih : ∀ (x y : D) (p q : PyData), pl b n x = true → pl b n y = true → x.py = some p → y.py = some q → (PyData.eqv p q = true ↔ x = y)) : ∀ (xs ys : List D) (ps qs : List PyData), xs.all (pl b n) = true → ys.all (pl b n) = true → pyAll xs = some ps → pyAll ys = some qs → (PyData.eqvAll ps qs = true ↔ xs = ys)
  | [], [], ps, qs, _, _, e1, e2 => by
    cases e1; cases e2
    simp [PyData.eqvAll]
  | [], y :: ys, ps, qs, _, _, e1, e2 => by
    cases e1
    rw [pyAll] at e2
    split at e2
    · cases e2; simp [PyData.eqvAll]
    · cases e2
  | x :: xs, [], ps, qs, _, _, e1, e2 => by
    cases e2
    rw [pyAll] at e1
    split at e1
    · cases e1; simp [PyData.eqvAll]
    · cases e1
  | x :: xs, y :: ys, ps, qs, h1, h2, e1, e2 => by
    rw [List.all_cons, Bool.and_eq_true] at h1 h2
    rw [pyAll] at e1 e2
    split at e1
    · rename_i p pr a1 a2
      cases e1
      split at e2
      · rename_i q qr b1 b2
        cases e2
        rw [PyData.eqvAll, Bool.and_eq_true, ih x y p q h1.1 h2.1 a1 b1, eqv_all ih xs ys pr qr h1.2 h2.2 a2 b2]
        constructor
        · rintro ⟨rfl, rfl⟩; rfl
        · intro h; cases h; exact ⟨rfl, rfl⟩
      · cases e2
    · cases e1
theorem eqv_sc {b : Bool} (x y : D) (p q : PyData) (hx : ∀ xs, x ≠ .lst xs ∧ x ≠ .tup xs) (hy : ∀ xs, y ≠ .lst xs ∧ y ≠ .tup xs) (h1 : pl b 0 x = true) (h2 : pl b 0 y = true) (e1 : x.py = some p) (e2 : y.py = some q) : (PyData.eqv p q = true ↔ x = y) := by
  cases x <;> first | (simp [pl] at h1; done) | skip
  all_goals cases y <;> first | (simp [pl] at h2; done) | skip
  all_goals (simp only [D.py, Option.some.injEq] at e1 e2; subst e1; subst e2)
  all_goals first
    | (simp [PyData.eqv]; done)
    | (simp [PyData.eqv]; exact ⟨tx_inj, fun h => by rw [h]⟩)
    | (exfalso; simp [pl] at h1 h2; rw [h1] at h2; cases h2)
    | (exfalso; simp [pl] at h1 h2; rw [h2] at h1; cases h1)
theorem eqv_pl {b : Bool} : ∀ (n : Nat) (x y : D) (p q : PyData), pl b n x = true → pl b n y = true → x.py = some p → y.py = some q → (PyData.eqv p q = true ↔ x = y) := by
  intro n
  induction n with
  | zero =>
    intro x y p q h1 h2 e1 e2
    refine eqv_sc x y p q ?_ ?_ h1 h2 e1 e2
    · intro xs; constructor <;> (rintro rfl; simp [pl] at h1)
    · intro xs; constructor <;> (rintro rfl; simp [pl] at h2)
  | succ n ih =>
    intro x y p q h1 h2 e1 e2
    cases x <;> first | (simp [pl] at h1; done) | skip
    all_goals cases y <;> first | (simp [pl] at h2; done) | skip
    all_goals (simp only [D.py, Option.map_eq_some_iff, Option.some.injEq] at e1 e2)
    all_goals first | subst e1 | (obtain ⟨e1, e1', rfl⟩ := e1)
    all_goals first | subst e2 | (obtain ⟨e2, e2', rfl⟩ := e2)
    all_goals first
      | (simp [PyData.eqv]; done)
      | (rw [PyData.eqv, eqv_all ih _ _ _ _ h1 h2 e1' e2']; simp; done)
      | (simp [PyData.eqv]; exact ⟨tx_inj, fun h => by rw [h]⟩)
      | (exfalso; simp [pl] at h1 h2; rw [h1] at h2; cases h2)
      | (exfalso; simp [pl] at h1 h2; rw [h2] at h1; cases h1)
theorem lenNe_self (x : D) : lenNe x x = false := by cases x <;> simp [lenNe]
theorem shaped_pl {b : Bool} {n : Nat} {d : D} {p : PyData} (h : pl b n d = true) (hn : n ≤ 63) (e : d.py = some p) : SeqAt.shaped p = true := by
  obtain ⟨q, e1, c, dd⟩ := py_pl n d h
  rw [e] at e1
  cases e1
  unfold SeqAt.shaped
  rw [c, Bool.true_and]
  exact decide_eq_true (by omega)
/-- == of plain data tells whether they are the same -/
theorem deq_pl {b : Bool} {n : Nat} {x y : D} (h1 : pl b n x = true) (h2 : pl b n y = true) (hn : n ≤ 63) : ∃ r, deq x y = some r ∧ (r = true ↔ x = y) := by
  obtain ⟨p, e1, _⟩ := py_pl n x h1
  obtain ⟨q, e2, _⟩ := py_pl n y h2
  unfold deq
  split
  · rename_i r e
    refine ⟨r, rfl, ?_⟩
    unfold scalD at e
    split at e
    · cases e; simp
    · cases e; simp
    · cases e; simp
    · cases e; simp
    · cases e
  · rename_i e
    by_cases hl : lenNe x y = true
    · rw [if_pos hl]
      refine ⟨false, rfl, ?_⟩
      constructor
      · intro h; cases h
      · rintro rfl
        rw [lenNe_self] at hl
        cases hl
    · rw [if_neg hl, e1, e2]
      simp only [shaped_pl h1 hn e1, shaped_pl h2 hn e2, Bool.and_self, if_true]
      exact ⟨_, rfl, eqv_pl n x y p q h1 h2 e1 e2⟩
theorem any_pl {b : Bool} {n : Nat} {x : D} {p : PyData} (h1 : pl b n x = true) (e1 : x.py = some p) : ∀ (ys : List D) (qs : List PyData), ys.all (pl b n) = true → pyAll ys = some qs → ((qs.any fun q => PyData.eqv q p) = true ↔ x ∈ ys)
  | [], qs, _, e => by cases e; simp
  | y :: ys, qs, h, e => by
    rw [List.all_cons, Bool.and_eq_true] at h
    rw [pyAll] at e
    split at e
    · rename_i q qr b1 b2
      cases e
      rw [List.any_cons, Bool.or_eq_true, eqv_pl n y x q p h.1 h1 b1 e1, any_pl h1 e1 ys qr h.2 b2, List.mem_cons]
      constructor
      · rintro (h | h)
        · exact .inl h.symm
        · exact .inr h
      · rintro (h | h)
        · exact .inl h.symm
        · exact .inr h
    · cases e
theorem inD_pl {b : Bool} {n : Nat} {x : D} {ys : List D} (h1 : pl b n x = true) (h2 : ys.all (pl b n) = true) (hn : n ≤ 62) : ∃ r, inD x (.lst ys) = some r ∧ (r = true ↔ x ∈ ys) := by
  obtain ⟨p, e1, _⟩ := py_pl n x h1
  obtain ⟨qs, e2, _⟩ := py_all (py_pl n) ys h2
  have e3 : (D.lst ys).py = some (.list qs) := by rw [D.py, e2]; rfl
  have s2 : SeqAt.shaped (.list qs) = true := shaped_pl (b := b) (n := n + 1) (d := .lst ys) h2 (by omega) e3
  have s1 := shaped_pl h1 (by omega) e1
  have e : inD x (.lst ys) = (match x.py, pyAll ys with
    | some p, some qs => if SeqAt.shaped p && SeqAt.shaped (.list qs) then some (qs.any fun q => PyData.eqv q p) else none
    | _, _ => none) := by
    cases x <;> rfl
  rw [e, e1, e2]
  simp only [s1, s2, Bool.and_self, if_true]
  exact ⟨_, rfl, any_pl h1 e1 ys qs h2 e2⟩
end TL
namespace TL
open PySem L2 PF
/-- a loop that folds -/
theorem forO_fold {f : D → PF.Env → Store → O Fl} {α β : Type} (enc : α → D) (env : β → PF.Slot → PF.Env) (step : β → α → β) (P : β → List α → Prop) {st : Store} (hs : ∀ acc x rest z, P acc (x :: rest) → (∃ z', f (enc x) (env acc z) st = .ok (.next (env (step acc x) z')) st) ∧ P (step acc x) rest) : ∀ (xs : List α) (acc : β) (z : PF.Slot), P acc xs → ∃ z', forO f (xs.map enc) (env acc z) st = .ok (.next (env (xs.foldl step acc) z')) st
  | [], acc, z, _ => ⟨z, rfl⟩
  | x :: xs, acc, z, h => by
    obtain ⟨⟨z1, e1⟩, h2⟩ := hs acc x xs z h
    obtain ⟨z2, e2⟩ := forO_fold enc env step P hs xs (step acc x) z1 h2
    refine ⟨z2, ?_⟩
    rw [List.map_cons, forO, e1]
    simp only [bind_ok]
    rw [e2]
    rfl
theorem onceL_len {α : Type} [DecidableEq α] (xs : List α) : ∀ acc : List α, (xs.foldl (fun acc x => if x ∈ acc then acc else acc ++ [x]) acc).length ≤ acc.length + xs.length := by
  induction xs with
  | nil => intro acc; simp
  | cons x xs ih =>
    intro acc
    rw [List.foldl_cons, List.length_cons]
    have h := ih (if x ∈ acc then acc else acc ++ [x])
    have h2 : (if x ∈ acc then acc else acc ++ [x]).length ≤ acc.length + 1 := by
      split
      · omega
      · simp
    omega
theorem map_mem_inj {α : Type} {f : α → D} (hf : ∀ a b, f a = f b → a = b) {a : α} {xs : List α} : f a ∈ xs.map f ↔ a ∈ xs := by
  rw [List.mem_map]
  constructor
  · rintro ⟨b, hb, e⟩
    rw [← hf b a e]
    exact hb
  · intro h
    exact ⟨a, h, rfl⟩
theorem call_ini {T : List Fn} {W n f : Nat} {fn : Fn} {c : Str} (h : T[f]? = some fn) {args : List D} {st : Store} (h1 : args.length = fn.ar) (h2 : fn.ar ≤ fn.nm) (hi : fn.ini = some c) : call T W (n + 1) f args st = iniK c (ex (call T W n) W fn.body (.oi c [] :: (args.map .im ++ List.replicate (fn.nm - fn.ar) .un)) st) := by
  rw [call_at h, runF_ini h1 h2 hi]
theorem count_one (a : Tx) (c : Nat) : Txt.count (tx a) (tx [c]) = PyProof.Rows.cnt c a := by
  rw [show tx [c] = ⟨#[c]⟩ from rfl, PyProof.Rows.count_cnt]
  rw [show (tx a).cps.toList = a from by simp [tx]]
theorem cnt_letters {k : Tx} (h : k.all letter = true) : PyProof.Rows.cnt 40 k = 0 := by
  refine PyProof.Rows.cnt_none 40 k fun hm => ?_
  have := List.all_eq_true.mp h 40 hm
  simp [letter, low, upp] at this
theorem Tm.cnt_le : ∀ {t : Tm}, t.ok = true → PyProof.Rows.cnt 40 t.text + 1 ≤ t.sz
  | .v x, h => by
    rw [Tm.text, cnt_letters (isN_all h)]
    simp [Tm.sz, Tm.names]
  | .c0 k, h => by
    rw [Tm.text, cnt_letters (isC_all h)]
    simp [Tm.sz, Tm.names]
  | .c1 k a, h => by
    obtain ⟨h1, h2⟩ := Bool.and_eq_true_iff.mp h
    have := Tm.cnt_le h2
    simp only [Tm.text, PyProof.Rows.cnt_append, cnt_letters (isC_all h1), PyProof.Rows.cnt_cons, PyProof.Rows.cnt_nil, Tm.sz, Tm.names, List.length_cons] at *
    simp
    omega
  | .c2 k a b, h => by
    obtain ⟨h1, h2⟩ := Bool.and_eq_true_iff.mp h
    obtain ⟨h3, h4⟩ := Bool.and_eq_true_iff.mp h2
    have := Tm.cnt_le h3
    have := Tm.cnt_le h4
    simp only [Tm.text, PyProof.Rows.cnt_append, cnt_letters (isC_all h1), PyProof.Rows.cnt_cons, PyProof.Rows.cnt_nil, Tm.sz, Tm.names, List.length_cons, List.length_append] at *
    simp
    omega
/-- names are plain -/
def strE (x : Tx) : D := .str x
def prE (p : Tx × Nat) : D := .tup [.str p.1, .int (p.2 : Nat)]
theorem strE_inj (a b : Tx) (h : strE a = strE b) : a = b := by simpa [strE] using h
theorem prE_inj (a b : Tx × Nat) (h : prE a = prE b) : a = b := by
  obtain ⟨a1, a2⟩ := a
  obtain ⟨b1, b2⟩ := b
  simp [prE] at h
  rw [h.1, Int.ofNat_inj.mp h.2]
theorem letter_ok {x : Tx} (h : x.all letter = true) : (x.all fun c => decide (c < 0x110000)) = true := by
  rw [List.all_eq_true]
  intro c hc
  have := List.all_eq_true.mp h c hc
  unfold letter at this
  rw [Bool.or_eq_true] at this
  rcases this with z | z
  · have := low_range.mp z; exact decide_eq_true (by omega)
  · have := upp_range.mp z; exact decide_eq_true (by omega)
theorem Tm.pl_ok : ∀ {t : Tm} {n : Nat}, t.ok = true → t.dep ≤ n → pl false n t.enc = true
  | .v x, n, h, hn => by
    obtain ⟨m, rfl⟩ : ∃ m, n = m + 1 := ⟨n - 1, by simp [Tm.dep] at hn; omega⟩
    have : pl false m (.str x) = true := by cases m <;> exact letter_ok (isN_all h)
    simp [Tm.enc, pl, this]
  | .c0 k, n, h, hn => by
    obtain ⟨m, rfl⟩ : ∃ m, n = m + 1 := ⟨n - 1, by simp [Tm.dep] at hn; omega⟩
    have : pl false m (.str k) = true := by cases m <;> exact letter_ok (isC_all h)
    simp [Tm.enc, pl, this]
  | .c1 k a, n, h, hn => by
    obtain ⟨h1, h2⟩ := Bool.and_eq_true_iff.mp h
    obtain ⟨m, rfl⟩ : ∃ m, n = m + 1 := ⟨n - 1, by simp [Tm.dep] at hn; omega⟩
    have : pl false m (.str k) = true := by cases m <;> exact letter_ok (isC_all h1)
    have e := Tm.pl_ok (n := m) h2 (by simp [Tm.dep] at hn; omega)
    simp [Tm.enc, pl, this, e]
  | .c2 k a b, n, h, hn => by
    obtain ⟨h1, h2⟩ := Bool.and_eq_true_iff.mp h
    obtain ⟨h3, h4⟩ := Bool.and_eq_true_iff.mp h2
    obtain ⟨m, rfl⟩ : ∃ m, n = m + 1 := ⟨n - 1, by simp [Tm.dep] at hn; omega⟩
    have : pl false m (.str k) = true := by cases m <;> exact letter_ok (isC_all h1)
    have e := Tm.pl_ok (n := m) h3 (by simp [Tm.dep] at hn; omega)
    have e2 := Tm.pl_ok (n := m) h4 (by simp [Tm.dep] at hn; omega)
    simp [Tm.enc, pl, this, e, e2]
theorem Tm.enc_inj : ∀ {t u : Tm}, t.enc = u.enc → t.ok = true → u.ok = true → t = u
  | .v x, .v y, h, _, _ => by simp [Tm.enc] at h; rw [h]
  | .v x, .c0 k, h, o1, o2 => by
    simp [Tm.enc] at h
    subst h
    have o1 : isN x = true := o1
    rw [isC_notN o2] at o1
    cases o1
  | .v x, .c1 k a, h, _, _ => by simp [Tm.enc] at h
  | .v x, .c2 k a b, h, _, _ => by simp [Tm.enc] at h
  | .c0 k, .v x, h, o1, o2 => by
    simp [Tm.enc] at h
    subst h
    have o2 : isN k = true := o2
    rw [isC_notN o1] at o2
    cases o2
  | .c0 x, .c0 k, h, _, _ => by simp [Tm.enc] at h; rw [h]
  | .c0 x, .c1 k a, h, _, _ => by simp [Tm.enc] at h
  | .c0 x, .c2 k a b, h, _, _ => by simp [Tm.enc] at h
  | .c1 k a, .v x, h, _, _ => by simp [Tm.enc] at h
  | .c1 k a, .c0 x, h, _, _ => by simp [Tm.enc] at h
  | .c1 k a, .c1 l b, h, o1, o2 => by
    obtain ⟨_, a2⟩ := Bool.and_eq_true_iff.mp o1
    obtain ⟨_, b2⟩ := Bool.and_eq_true_iff.mp o2
    simp [Tm.enc] at h
    rw [h.1, Tm.enc_inj h.2 a2 b2]
  | .c1 k a, .c2 l b c, h, _, _ => by simp [Tm.enc] at h
  | .c2 k a b, .v x, h, _, _ => by simp [Tm.enc] at h
  | .c2 k a b, .c0 x, h, _, _ => by simp [Tm.enc] at h
  | .c2 k a b, .c1 l c, h, _, _ => by simp [Tm.enc] at h
  | .c2 k a b, .c2 l c d, h, o1, o2 => by
    obtain ⟨_, a2⟩ := Bool.and_eq_true_iff.mp o1
    obtain ⟨_, b2⟩ := Bool.and_eq_true_iff.mp o2
    obtain ⟨a3, a4⟩ := Bool.and_eq_true_iff.mp a2
    obtain ⟨b3, b4⟩ := Bool.and_eq_true_iff.mp b2
    simp [Tm.enc] at h
    rw [h.1, Tm.enc_inj h.2.1 a3 b3, Tm.enc_inj h.2.2 a4 b4]
end TL
namespace TL
open PySem L2 PF
theorem prE_pl {p : Tx × Nat} (h : p.1.all letter = true) : pl false 3 (prE p) = true := by
  simp [prE, pl]
  simpa using letter_ok h
theorem Tm.tops_pl : ∀ {t : Tm}, t.ok = true → ∀ p ∈ t.tops, pl false 3 (prE p) = true
  | .v x, h, p, hp => by simp [Tm.tops] at hp
  | .c0 k, h, p, hp => by
    simp [Tm.tops] at hp
    subst hp
    exact prE_pl (isC_all h)
  | .c1 k a, h, p, hp => by
    obtain ⟨h1, h2⟩ := Bool.and_eq_true_iff.mp h
    rw [Tm.tops, List.mem_cons] at hp
    rcases hp with rfl | hp
    · exact prE_pl (isC_all h1)
    · exact Tm.tops_pl h2 p hp
  | .c2 k a b, h, p, hp => by
    obtain ⟨h1, h2⟩ := Bool.and_eq_true_iff.mp h
    obtain ⟨h3, h4⟩ := Bool.and_eq_true_iff.mp h2
    rw [Tm.tops, List.mem_cons, List.mem_append] at hp
    rcases hp with rfl | hp | hp
    · exact prE_pl (isC_all h1)
    · exact Tm.tops_pl h3 p hp
    · exact Tm.tops_pl h4 p hp
end TL
namespace TL
open PySem L2 PF
/-- a comprehension over items that come from a list -/
theorem ev_lc_from {C : Calls} {ρ : PF.Env} {st st1 : Store} {j : Nat} {src e : E} {s : D} {α : Type} {ps : List α} {fx fy : α → D} (h1 : opd src (ev C src) ρ st = .ok s st1) (h2 : itemsD s = some (ps.map fx))
    (h5 : ∀ a ∈ ps, ∀ st, ev C e (ρ.set j (.im (fx a))) st = .ok (fy a) st) : ev C (.lc j src .nil e) ρ st = .ok (.lst (ps.map fy)) st1 := by
  have e1 : ∀ (ps : List α), (∀ a ∈ ps, ∀ st, ev C e (ρ.set j (.im (fx a))) st = .ok (fy a) st) → mapO (lcF C j .nil e ρ) (ps.map fx) st1 = .ok (ps.map fy) st1 := by
    intro ps
    induction ps with
    | nil => intro _; rfl
    | cons a ps ih =>
      intro h
      rw [List.map_cons, mapO, lcF_nil, h a (List.mem_cons_self ..) st1]
      simp [ih fun b hb => h b (List.mem_cons_of_mem _ hb)]
  simp [ev_lc, h1, h2, e1 ps h5]
/-- a term's instance -/
def inst (t : Tm) : D := .ins "Term" [("own_raw", t.enc)]
theorem Tm.enc_eq (t : Tm) : t.enc = .tup (.str t.top :: t.parts.map Tm.enc) := by cases t <;> rfl
theorem Tm.parts_len (t : Tm) : t.parts.length ≤ 2 := by cases t <;> simp [Tm.parts]
theorem Tm.parts_dep {t q : Tm} (h : q ∈ t.parts) : q.dep + 1 ≤ t.dep := by
  cases t with
  | v x => simp [Tm.parts] at h
  | c0 k => simp [Tm.parts] at h
  | c1 k a =>
    simp [Tm.parts] at h
    subst h
    simp [Tm.dep]
  | c2 k a b =>
    simp [Tm.parts] at h
    rcases h with rfl | rfl <;> simp [Tm.dep] <;> omega
theorem Tm.parts_ok {t q : Tm} (ho : t.ok = true) (h : q ∈ t.parts) : q.ok = true := by
  cases t with
  | v x => simp [Tm.parts] at h
  | c0 k => simp [Tm.parts] at h
  | c1 k a =>
    simp [Tm.parts] at h
    subst h
    exact (Bool.and_eq_true_iff.mp ho).2
  | c2 k a b =>
    have h1 := Bool.and_eq_true_iff.mp (Bool.and_eq_true_iff.mp ho).2
    simp [Tm.parts] at h
    rcases h with rfl | rfl
    · exact h1.1
    · exact h1.2
theorem Tm.parts_sz {t q : Tm} (h : q ∈ t.parts) : q.sz + 1 ≤ t.sz := by
  cases t with
  | v x => simp [Tm.parts] at h
  | c0 k => simp [Tm.parts] at h
  | c1 k a =>
    simp [Tm.parts] at h
    subst h
    simp [Tm.sz, Tm.names]
  | c2 k a b =>
    simp [Tm.parts] at h
    rcases h with rfl | rfl <;> simp [Tm.sz, Tm.names] <;> omega
theorem Tm.top_case {t : Tm} (ho : t.ok = true) : (isN t.top = true ∧ t.parts = []) ∨ isC t.top = true := by
  cases t with
  | v x => exact .inl ⟨ho, rfl⟩
  | c0 k => exact .inr ho
  | c1 k a => exact .inr (Bool.and_eq_true_iff.mp ho).1
  | c2 k a b => exact .inr (Bool.and_eq_true_iff.mp ho).1
end TL
namespace TL
open PySem L2 PF
theorem inD_dec {α : Type} [DecidableEq α] {f : α → D} {x : α} {A : List α} (hf : ∀ a b, f a = f b → a = b) (h1 : pl false 3 (f x) = true) (h2 : ∀ a ∈ A, pl false 3 (f a) = true) : inD (f x) (.lst (A.map f)) = some (decide (x ∈ A)) := by
  obtain ⟨r, e1, e2⟩ := inD_pl (b := false) (n := 3) (x := f x) (ys := A.map f) h1 (by
    rw [List.all_eq_true]
    intro d hd
    obtain ⟨a, ha, rfl⟩ := List.mem_map.mp hd
    exact h2 a ha) (by decide)
  rw [map_mem_inj hf] at e2
  rw [e1]
  congr 1
  cases r with
  | true => exact (decide_eq_true (e2.mp rfl)).symm
  | false =>
    refine (decide_eq_false fun h => ?_).symm
    cases e2.mpr h
theorem deq_self {b : Bool} {n : Nat} {x : D} (h : pl b n x = true) (hn : n ≤ 63) : deq x x = some true := by
  obtain ⟨r, e1, e2⟩ := deq_pl h h hn
  rw [e1, e2.mpr rfl]
/-- a comprehension with a test over items that come from a list -/
theorem ev_lc_fromIf {C : Calls} {ρ : PF.Env} {st st1 : Store} {j : Nat} {src c e : E} {s : D} {α : Type} {ps : List α} {fx fy : α → D} {p : α → Bool} (hc : isNil c = false) (h1 : opd src (ev C src) ρ st = .ok s st1) (h2 : itemsD s = some (ps.map fx))
    (h4 : ∀ a ∈ ps, ∀ st, evT C c (ρ.set j (.im (fx a))) st = .ok (p a) st) (h5 : ∀ a ∈ ps, ∀ st, ev C e (ρ.set j (.im (fx a))) st = .ok (fy a) st) : ev C (.lc j src c e) ρ st = .ok (.lst ((ps.filter p).map fy)) st1 := by
  have e1 : ∀ (ps : List α), (∀ a ∈ ps, ∀ st, evT C c (ρ.set j (.im (fx a))) st = .ok (p a) st) → (∀ a ∈ ps, ∀ st, ev C e (ρ.set j (.im (fx a))) st = .ok (fy a) st) → mapO (lcF C j c e ρ) (ps.map fx) st1 = .ok ((ps.filter p).map fy) st1 := by
    intro ps
    induction ps with
    | nil => intro _ _; rfl
    | cons a ps ih =>
      intro h h'
      rw [List.map_cons, mapO, lcF_if hc, h a (List.mem_cons_self ..) st1, List.filter_cons]
      have i := ih (fun b hb => h b (List.mem_cons_of_mem _ hb)) (fun b hb => h' b (List.mem_cons_of_mem _ hb))
      cases hp : p a with
      | true => simp [h' a (List.mem_cons_self ..) st1, i]
      | false => simp [i]
  simp [ev_lc, h1, h2, e1 ps h4 h5]
theorem once_app {α : Type} [DecidableEq α] : ∀ (xs acc : List α), xs.foldl (fun acc x => if x ∈ acc then acc else acc ++ [x]) acc = acc ++ (Tm.onceL xs).filter fun x => decide (x ∉ acc)
  | [], acc => by simp [Tm.onceL]
  | x :: xs, acc => by
    have e1 : Tm.onceL (x :: xs) = [x] ++ (Tm.onceL xs).filter fun y => decide (y ∉ [x]) := by
      unfold Tm.onceL
      rw [List.foldl_cons, if_neg (List.not_mem_nil), List.nil_append]
      exact once_app xs [x]
    rw [List.foldl_cons, once_app xs, e1, List.filter_append, List.filter_filter]
    by_cases hx : x ∈ acc
    · rw [if_pos hx, List.filter_cons_of_neg (by simpa using hx), List.filter_nil, List.nil_append]
      congr 1
      apply List.filter_congr
      intro y _
      by_cases hy : y ∈ acc
      · simp [hy]
      · have : y ≠ x := fun e => hy (e ▸ hx)
        simp [hy, this]
    · rw [if_neg hx, List.filter_cons_of_pos (by simpa using hx), List.filter_nil, List.append_assoc]
      congr 2
      apply List.filter_congr
      intro y _
      simp
theorem once_len {α : Type} [DecidableEq α] (xs : List α) : (Tm.onceL xs).length ≤ xs.length := by
  have := onceL_len xs []
  simpa [Tm.onceL] using this
theorem once_mem {α : Type} [DecidableEq α] {x : α} : ∀ (xs acc : List α), x ∈ xs.foldl (fun acc x => if x ∈ acc then acc else acc ++ [x]) acc → x ∈ acc ∨ x ∈ xs
  | [], acc, h => .inl h
  | y :: ys, acc, h => by
    rw [List.foldl_cons] at h
    rcases once_mem ys _ h with h | h
    · split at h
      · exact .inl h
      · rcases List.mem_append.mp h with h | h
        · exact .inl h
        · rw [List.mem_singleton] at h
          exact .inr (h ▸ List.mem_cons_self ..)
    · exact .inr (List.mem_cons_of_mem _ h)
theorem once_fold {xs : List Tx} : ∀ acc : List Tx, xs.foldl (fun acc x => if isV x = true ∧ x ∉ acc then acc ++ [x] else acc) acc = (xs.filter isV).foldl (fun acc x => if x ∈ acc then acc else acc ++ [x]) acc := by
  induction xs with
  | nil => intro acc; rfl
  | cons x xs ih =>
    intro acc
    rw [List.foldl_cons, ih]
    cases hv : isV x with
    | false => rw [List.filter_cons_of_neg (by simp [hv]), if_neg (by simp)]
    | true =>
      rw [List.filter_cons_of_pos hv, List.foldl_cons]
      by_cases hx : x ∈ acc
      · rw [if_neg (by simp [hx]), if_pos hx]
      · rw [if_pos ⟨rfl, hx⟩, if_neg hx]
end TL
namespace TL
open PySem L2 PF
theorem once_fold0 {xs : List Tx} : xs.foldl (fun acc x => if isV x = true ∧ x ∉ acc then acc ++ [x] else acc) [] = Tm.onceL (xs.filter isV) := by
  rw [once_fold]
  unfold Tm.onceL
  congr 1
  funext acc x
  by_cases hx : x ∈ acc
  · rw [if_pos hx, if_pos hx]
  · rw [if_neg hx, if_neg hx]
end TL
namespace TL
open PySem L2 PF
/-- what of the second is not in the first -/
def newL {α : Type} [DecidableEq α] (A B : List α) : List α := B.filter fun b => decide (b ∉ A)
theorem once_new {α : Type} [DecidableEq α] (xs acc : List α) : xs.foldl (fun acc x => if x ∈ acc then acc else acc ++ [x]) acc = acc ++ newL acc (Tm.onceL xs) := once_app xs acc
theorem newL_len {α : Type} [DecidableEq α] (A B : List α) : (newL A B).length ≤ B.length := List.length_filter_le _ _
theorem newL_sub {α : Type} [DecidableEq α] {A B : List α} {x : α} (h : x ∈ newL A B) : x ∈ B := (List.mem_filter.mp h).1
theorem onceL_one {α : Type} [DecidableEq α] (x : α) (xs : List α) : Tm.onceL (x :: xs) = [x] ++ newL [x] (Tm.onceL xs) := by
  rw [← once_new]
  unfold Tm.onceL
  rw [List.foldl_cons, if_neg (List.not_mem_nil), List.nil_append]
theorem onceL_two {α : Type} [DecidableEq α] (x : α) (xs ys : List α) : Tm.onceL (x :: (xs ++ ys)) = ([x] ++ newL [x] (Tm.onceL xs)) ++ newL ([x] ++ newL [x] (Tm.onceL xs)) (Tm.onceL ys) := by
  rw [← once_new xs, ← once_new ys]
  unfold Tm.onceL
  rw [List.foldl_cons, if_neg (List.not_mem_nil), List.nil_append, List.foldl_append]
/-- a list and what of another is not in it -/
theorem lc_new {α : Type} [DecidableEq α] {f : α → D} (hf : ∀ a b, f a = f b → a = b) {C : Calls} {A B : List α} {g : Nat} {x0 x3 : PF.Slot} {q : D} {st : Store} (h : C g [q] st = .ok (.lst (B.map f)) st) (hA : ∀ a ∈ A, pl false 3 (f a) = true) (hB : ∀ a ∈ B, pl false 3 (f a) = true) :
    ev C (.lc 3 (.call g (.cons (.var 2) .nil)) (.tcm .notin (.var 3) (.var 1)) (.var 3)) [x0, .im (.lst (A.map f)), .im q, x3] st = .ok (.lst ((newL A B).map f)) st := by
  refine ev_lc_fromIf (ps := B) (fx := f) (fy := f) (s := .lst (B.map f)) rfl (by simp [h]) rfl (fun b hb st => ?_) (fun b hb st => by simp)
  have e := inD_dec (A := A) hf (hB b hb) hA
  simp [e]
end TL
/-! Heads and substitutions in plain Lean. -/
namespace TL
open PySem L2 PF
abbrev encs (ps : List Tm) : D := .lst (ps.map Tm.enc)
def varsL (ps : List Tm) : List Tx := Tm.onceL ((ps.flatMap Tm.names).filter isV)
def topsL (ps : List Tm) : List (Tx × Nat) := Tm.onceL (ps.flatMap Tm.tops)
def szL (ps : List Tm) : Nat := (ps.flatMap Tm.names).length
def htext (k : Tx) (ps : List Tm) : Tx := k ++ restT true ps []
def hinst (k : Tx) (ps : List Tm) : D := .ins "Head" [("task", .str k), ("own_raws", encs ps)]
theorem rest_join : ∀ (q : Tm) (qs : List Tm), joinT [44] ((q :: qs).map Tm.text) ++ [41] = q.text ++ restT false qs []
  | q, [] => rfl
  | q, p :: qs => by
    have ih := rest_join p qs
    show (q.text ++ [44] ++ joinT [44] ((p :: qs).map Tm.text)) ++ [41] = q.text ++ (44 :: (p.text ++ restT false qs []))
    rw [← ih]
    simp
theorem htext_eq {k : Tx} {ps : List Tm} (h : ps ≠ []) : k ++ [40] ++ joinT [44] (ps.map Tm.text) ++ [41] = htext k ps := by
  cases ps with
  | nil => exact absurd rfl h
  | cons q qs =>
    have := rest_join q qs
    unfold htext
    show k ++ [40] ++ joinT [44] ((q :: qs).map Tm.text) ++ [41] = k ++ (40 :: (q.text ++ restT false qs []))
    rw [← this]
    simp
theorem szL_cons (q : Tm) (qs : List Tm) : szL (q :: qs) = q.sz + szL qs := by
  simp [szL, Tm.sz]
theorem szL_mem : ∀ {qs : List Tm} {q : Tm}, q ∈ qs → q.sz ≤ szL qs
  | p :: qs, q, h => by
    rw [szL_cons]
    rcases List.mem_cons.mp h with rfl | h
    · omega
    · have := szL_mem h; omega
theorem rest_len : ∀ {qs : List Tm} (b : Bool), (∀ q ∈ qs, q.ok = true) → (restT b qs []).length ≤ 12 * szL qs + 1
  | [], b, _ => by simp [restT]
  | q :: qs, b, h => by
    have := rest_len (qs := qs) false fun p hp => h p (List.mem_cons_of_mem _ hp)
    have := Tm.text_len (h q List.mem_cons_self)
    rw [szL_cons]
    simp [restT]
    omega
theorem htext_len {k : Tx} {ps : List Tm} (hk : isN k = true) (h : ∀ q ∈ ps, q.ok = true) : (htext k ps).length ≤ 12 * szL ps + 9 := by
  have := rest_len true h
  have := isN_len hk
  unfold htext
  rw [List.length_append]
  omega
theorem rest_cnt : ∀ {qs : List Tm} (b : Bool), (∀ q ∈ qs, q.ok = true) → PyProof.Rows.cnt 40 (restT b qs []) + qs.length ≤ szL qs + (if b then 1 else 0)
  | [], b, _ => by cases b <;> decide
  | q :: qs, b, h => by
    have h1 := rest_cnt (qs := qs) false fun p hp => h p (List.mem_cons_of_mem _ hp)
    have h2 := Tm.cnt_le (h q List.mem_cons_self)
    rw [szL_cons]
    simp only [restT, PyProof.Rows.cnt_append, PyProof.Rows.cnt_cons, List.length_cons] at h1 ⊢
    cases b <;> simp at h1 ⊢ <;> omega
/-! substitutions -/
abbrev Sb := List (Tx × Tm)
def sbLook (σ : Sb) (x : Tx) : Option Tm := (σ.find? fun p => decide (p.1 = x)).map (·.2)
def Tm.sub (σ : Sb) : Tm → Tm
  | v x => (sbLook σ x).getD (v x)
  | c0 k => c0 k
  | c1 k a => c1 k (a.sub σ)
  | c2 k a b => c2 k (a.sub σ) (b.sub σ)
def sbK (σ : Sb) : List (Key × D) := σ.map fun p => (.inr (tx p.1), p.2.enc)
theorem look_sb {σ : Sb} {x : Tx} : lookK (sbK σ) (.inr (tx x)) = (sbLook σ x).map Tm.enc := by
  induction σ with
  | nil => rfl
  | cons p σ ih =>
    unfold lookK sbK sbLook at *
    rw [List.map_cons, List.find?_cons, List.find?_cons]
    by_cases h : p.1 = x
    · simp [h]
    · have h2 : ¬ (Sum.inr (tx p.1) : Key) = .inr (tx x) := fun z => h (tx_inj (Sum.inr.inj z))
      simp only [h, h2, decide_false]
      exact ih
def Sb.ok (σ : Sb) : Prop := ∀ p ∈ σ, p.2.ok = true
theorem sbLook_mem {σ : Sb} {x : Tx} {t : Tm} (h : sbLook σ x = some t) : (x, t) ∈ σ := by
  unfold sbLook at h
  cases q : σ.find? fun p => decide (p.1 = x) with
  | none => rw [q] at h; cases h
  | some p =>
    rw [q] at h
    cases h
    have h1 := List.find?_some q
    have h2 := List.mem_of_find?_eq_some q
    have h1 : p.1 = x := by simpa using h1
    subst h1
    exact h2
theorem Tm.sub_ok {σ : Sb} (hσ : Sb.ok σ) : ∀ {t : Tm}, t.ok = true → (t.sub σ).ok = true
  | v x, h => by
    show ((sbLook σ x).getD (v x)).ok = true
    cases q : sbLook σ x with
    | none => exact h
    | some t => exact hσ _ (sbLook_mem q)
  | c0 k, h => h
  | c1 k a, h => by
    obtain ⟨h1, h2⟩ := Bool.and_eq_true_iff.mp h
    show (isC k && (a.sub σ).ok) = true
    rw [h1, sub_ok hσ h2]; rfl
  | c2 k a b, h => by
    obtain ⟨h1, h2⟩ := Bool.and_eq_true_iff.mp h
    obtain ⟨h3, h4⟩ := Bool.and_eq_true_iff.mp h2
    show (isC k && ((a.sub σ).ok && (b.sub σ).ok)) = true
    rw [h1, sub_ok hσ h3, sub_ok hσ h4]; rfl
theorem Tm.sub_dep {σ : Sb} {m : Nat} (hm : 1 ≤ m) (hσ : ∀ p ∈ σ, p.2.dep ≤ m) : ∀ {t : Tm}, (t.sub σ).dep ≤ t.dep + m - 1
  | v x => by
    show ((sbLook σ x).getD (v x)).dep ≤ _
    cases q : sbLook σ x with
    | none => simp [dep]; omega
    | some t => have := hσ _ (sbLook_mem q); simp [dep]; omega
  | c0 k => by simp [Tm.sub, dep]; omega
  | c1 k a => by have := sub_dep hm hσ (t := a); have := a.dep_pos; simp [Tm.sub, dep]; omega
  | c2 k a b => by have := sub_dep hm hσ (t := a); have := sub_dep hm hσ (t := b); have := a.dep_pos; have := b.dep_pos; simp [Tm.sub, dep]; omega
theorem Tm.sub_sz {σ : Sb} {m : Nat} (hm : 1 ≤ m) (hσ : ∀ p ∈ σ, p.2.sz ≤ m) : ∀ {t : Tm}, (t.sub σ).sz ≤ t.sz * m
  | v x => by
    show ((sbLook σ x).getD (v x)).sz ≤ _
    cases q : sbLook σ x with
    | none => simp [sz, names]; omega
    | some t => have := hσ _ (sbLook_mem q); simp [sz, names] at this ⊢; omega
  | c0 k => by simp [Tm.sub, sz, names]; omega
  | c1 k a => by
    have := sub_sz hm hσ (t := a)
    simp only [sz] at this
    simp only [Tm.sub, sz, names, List.length_cons]
    rw [Nat.add_mul]; omega
  | c2 k a b => by
    have := sub_sz hm hσ (t := a); have := sub_sz hm hσ (t := b)
    simp only [sz] at *
    simp only [Tm.sub, sz, names, List.length_cons, List.length_append]
    rw [Nat.add_mul, Nat.add_mul]; omega
theorem Tm.sub_parts {σ : Sb} {t : Tm} (h : t.isVar = false) : (t.sub σ).enc = .tup (.str t.top :: t.parts.map fun q => (q.sub σ).enc) := by
  cases t with
  | v x => cases h
  | _ => rfl
end TL
namespace Lw
open PySem L2 PF TL
abbrev Fs : List Fn := Ds.map (·.fn)
abbrev cl (n : Nat) : Calls := call Fs 1000000 n
def LOW : Tx := [97, 98, 99, 100, 101, 102, 103, 104, 105, 106, 107, 108, 109, 110, 111, 112, 113, 114, 115, 116, 117, 118, 119, 120, 121, 122]
def UPP : Tx := [65, 66, 67, 68, 69, 70, 71, 72, 73, 74, 75, 76, 77, 78, 79, 80, 81, 82, 83, 84, 85, 86, 87, 88, 89, 90]
theorem bools_low (p : Nat → Bool) : ∀ s : Tx, boolsOf (s.map fun c => D.bl (p c)) = some (s.map p)
  | [] => rfl
  | c :: s => by rw [List.map_cons, boolsOf, bools_low p s]; rfl
theorem lc_low {C : Calls} {st : Store} {src : E} {s : Tx} {a u : PF.Slot} (h1 : opd src (ev C src) [a, u] st = .ok (.str s) st) :
    ev C (.lc 1 src .nil (.cmp .inn (.var 1) (.glb "LOWER" (.str LOW)))) [a, u] st = .ok (.lst (s.map fun c => .bl (low c))) st := by
  have e := ev_lc_map (C := C) (ρ := [a, u]) (st := st) (st1 := st) (j := 1) (src := src) (e := .cmp .inn (.var 1) (.glb "LOWER" (.str LOW))) (s := .str s) (xs := s.map fun c => .str [c]) (g := fun x => match x with | .str [c] => .bl (low c) | _ => .non) h1 rfl (by
    intro x hx st
    obtain ⟨c, _, rfl⟩ := List.mem_map.mp hx
    have hl : LOW.length ≤ line := by decide
    rw [ev_cmp]
    simp only [opd_var, opd_glb, ev_var, ev_glb, List.set, slotD_s, slotD_0, lift, O.bind, okC_str, hl, decide_true, if_true, cmpD_in, inD_sign, Option.map]
    rfl)
  rw [e, List.map_map]
  rfl
theorem name_ok {n : Nat} {s : Tx} {st : Store} : cl (n + 1) 0 [.str s] st = .ok (.bl (isN s)) st := by
  rw [cl, call_run (fn := ⟨1, 2, c0, none, false⟩) rfl rfl (by decide)]
  have e := lc_low (C := call Fs 1000000 n) (st := st) (src := .var 0) (s := s) (a := .im (.str s)) (u := .un) (by simp)
  unfold LOW at e
  by_cases h1 : (1 : Int) ≤ s.length
  · by_cases h2 : (s.length : Int) ≤ 8
    · have k : isN s = s.all low := by
        unfold isN
        rw [decide_eq_true (by omega), decide_eq_true (by omega)]
        simp
      rw [k]
      simp [c0, h1, h2, e, bools_low, kit_str]
    · have k : isN s = false := by
        unfold isN
        rw [decide_eq_false (show ¬ s.length ≤ 8 by omega)]
        simp
      rw [k]
      simp [c0, h1, h2, kit_str]
  · have k : isN s = false := by
      unfold isN
      rw [decide_eq_false (show ¬ 1 ≤ s.length by omega)]
      simp
    rw [k]
    simp [c0, h1, kit_str]
theorem cons_ok {n : Nat} {s : Tx} {st : Store} : cl (n + 1) 1 [.str s] st = .ok (.bl (isC s)) st := by
  rw [cl, call_run (fn := ⟨1, 2, c1, none, false⟩) rfl rfl (by decide)]
  have hU : UPP.length ≤ line := by decide
  unfold UPP at hU
  cases s with
  | nil => simp [c1, kit_str, isC]
  | cons c r =>
    have e := lc_low (C := call Fs 1000000 n) (st := st) (src := .slc (.var 0) (.cst (.int 1)) .nil) (s := r) (a := .im (.str (c :: r))) (u := .un) (by simp)
    unfold LOW at e
    have h1 : (1 : Int) ≤ (r.length : Int) + 1 := by omega
    by_cases h2 : (r.length : Int) + 1 ≤ 8
    · have k : isC (c :: r) = (upp c && r.all low) := by
        show (decide (r.length ≤ 7) && upp c && r.all low) = _
        rw [decide_eq_true (by omega)]
        simp
      rw [k]
      cases hu : upp c with
      | true =>
        have hu' := hu
        unfold upp at hu'
        simp only [decide_eq_true_eq] at hu'
        simp [-List.mem_cons, c1, h1, h2, e, bools_low, kit_str, hu', line]
      | false =>
        have hu' := hu
        unfold upp at hu'
        simp only [decide_eq_false_iff_not] at hu'
        simp [-List.mem_cons, c1, h1, h2, kit_str, hu', line]
    · have k : isC (c :: r) = false := by
        show (decide (r.length ≤ 7) && upp c && r.all low) = _
        rw [decide_eq_false (show ¬ r.length ≤ 7 by omega)]
        simp
      rw [k]
      simp [c1, h1, h2, kit_str]
end Lw
namespace Lw
open PySem L2 PF TL
theorem isvar_ok {n : Nat} {t : Tm} {st : Store} (h : t.ok = true) : cl (n + 1) 4 [t.enc] st = .ok (.bl t.isVar) st := by
  rw [cl, call_run (fn := ⟨1, 1, c4, none, false⟩) rfl rfl (by decide)]
  have hL : LOW.length ≤ line := by decide
  unfold LOW at hL
  rw [← Tm.top_var h]
  have key : ∀ (k : Tx) (ps : List D), k ≠ [] → finK false (ex (call Fs 1000000 n) 1000000 c4 [.im (.tup (.str k :: ps))] st) = .ok (.bl (isV k)) st := by
    intro k ps hk
    cases k with
    | nil => exact absurd rfl hk
    | cons c r => simp [-List.mem_cons, c4, isV, low, line]
  have hl := Tm.top_len h
  cases t with
  | v x => exact key x [] (by intro z; subst z; simp [Tm.top] at hl)
  | c0 k => exact key k [] (by intro z; subst z; simp [Tm.top] at hl)
  | c1 k a => exact key k [a.enc] (by intro z; subst z; simp [Tm.top] at hl)
  | c2 k a b => exact key k [a.enc, b.enc] (by intro z; subst z; simp [Tm.top] at hl)
def strL (xs : List Tx) : D := .lst (xs.map .str)
theorem names_ok : ∀ {t : Tm} {n : Nat} {st : Store}, t.sz ≤ 10000 → t.dep ≤ n → cl n 5 [t.enc] st = .ok (strL t.names) st := by
  intro t
  induction t with
  | v x =>
    intro n st hs hn
    obtain ⟨m, rfl⟩ : ∃ m, n = m + 1 := ⟨n - 1, by simp [Tm.dep] at hn; omega⟩
    rw [cl, call_run (fn := ⟨1, 3, c5, none, false⟩) rfl rfl (by decide)]
    simp [c5, Tm.enc, Tm.names, strL, line, ex_for, forO]
  | c0 k =>
    intro n st hs hn
    obtain ⟨m, rfl⟩ : ∃ m, n = m + 1 := ⟨n - 1, by simp [Tm.dep] at hn; omega⟩
    rw [cl, call_run (fn := ⟨1, 3, c5, none, false⟩) rfl rfl (by decide)]
    simp [c5, Tm.enc, Tm.names, strL, line, ex_for, forO]
  | c1 k a iha =>
    intro n st hs hn
    obtain ⟨m, rfl⟩ : ∃ m, n = m + 1 := ⟨n - 1, by simp [Tm.dep] at hn; omega⟩
    simp [Tm.dep] at hn
    have ha : a.names.length + 1 ≤ 10000 := by simpa [Tm.sz, Tm.names] using hs
    have e1 := fun st => iha (n := m) (st := st) (by unfold Tm.sz; omega) hn
    rw [cl, call_run (fn := ⟨1, 3, c5, none, false⟩) rfl rfl (by decide)]
    have b1 : 1 + a.names.length ≤ 16777216 := by omega
    simp [c5, Tm.enc, Tm.names, strL, line, ex_for, forO, e1, b1]
  | c2 k a b iha ihb =>
    intro n st hs hn
    obtain ⟨m, rfl⟩ : ∃ m, n = m + 1 := ⟨n - 1, by simp [Tm.dep] at hn; omega⟩
    simp [Tm.dep] at hn
    have ha : a.names.length + b.names.length + 1 ≤ 10000 := by simpa [Tm.sz, Tm.names] using hs
    have e1 := fun st => iha (n := m) (st := st) (by unfold Tm.sz; omega) (by omega)
    have e2 := fun st => ihb (n := m) (st := st) (by unfold Tm.sz; omega) (by omega)
    rw [cl, call_run (fn := ⟨1, 3, c5, none, false⟩) rfl rfl (by decide)]
    have b1 : 1 + a.names.length ≤ 16777216 := by omega
    have b2 : a.names.length + 1 + b.names.length ≤ 16777216 := by omega
    simp [c5, Tm.enc, Tm.names, strL, line, ex_for, forO, e1, e2, b1, b2]
theorem depth_ok : ∀ {t : Tm} {n : Nat} {st : Store}, t.dep ≤ n → cl n 6 [t.enc] st = .ok (.int t.dep) st := by
  intro t
  induction t with
  | v x =>
    intro n st hn
    obtain ⟨m, rfl⟩ : ∃ m, n = m + 1 := ⟨n - 1, by simp [Tm.dep] at hn; omega⟩
    rw [cl, call_run (fn := ⟨1, 4, c6, none, false⟩) rfl rfl (by decide)]
    simp [c6, Tm.enc, Tm.dep, line, ex_for, forO]
  | c0 k =>
    intro n st hn
    obtain ⟨m, rfl⟩ : ∃ m, n = m + 1 := ⟨n - 1, by simp [Tm.dep] at hn; omega⟩
    rw [cl, call_run (fn := ⟨1, 4, c6, none, false⟩) rfl rfl (by decide)]
    simp [c6, Tm.enc, Tm.dep, line, ex_for, forO]
  | c1 k a iha =>
    intro n st hn
    obtain ⟨m, rfl⟩ : ∃ m, n = m + 1 := ⟨n - 1, by simp [Tm.dep] at hn; omega⟩
    simp [Tm.dep] at hn
    have e1 := fun st => iha (n := m) (st := st) hn
    have hp : 0 < a.dep := by have := a.dep_pos; omega
    rw [cl, call_run (fn := ⟨1, 4, c6, none, false⟩) rfl rfl (by decide)]
    simp [c6, Tm.enc, Tm.dep, line, ex_for, forO, e1, hp]
  | c2 k a b iha ihb =>
    intro n st hn
    obtain ⟨m, rfl⟩ : ∃ m, n = m + 1 := ⟨n - 1, by simp [Tm.dep] at hn; omega⟩
    simp [Tm.dep] at hn
    have e1 := fun st => iha (n := m) (st := st) (by omega)
    have e2 := fun st => ihb (n := m) (st := st) (by omega)
    have hp : 0 < a.dep := by have := a.dep_pos; omega
    rw [cl, call_run (fn := ⟨1, 4, c6, none, false⟩) rfl rfl (by decide)]
    by_cases hab : a.dep < b.dep
    · have e3 : max a.dep b.dep = b.dep := by omega
      simp [c6, Tm.enc, Tm.dep, line, ex_for, forO, e1, e2, hp, hab, e3]
    · have e3 : max a.dep b.dep = a.dep := by omega
      simp [c6, Tm.enc, Tm.dep, line, ex_for, forO, e1, e2, hp, hab, e3]
theorem text_ok : ∀ {t : Tm} {n : Nat} {st : Store}, t.ok = true → t.sz ≤ 10000 → t.dep ≤ n → cl n 11 [t.enc] st = .ok (.str t.text) st := by
  intro t
  induction t with
  | v x =>
    intro n st ho hs hn
    obtain ⟨m, rfl⟩ : ∃ m, n = m + 1 := ⟨n - 1, by simp [Tm.dep] at hn; omega⟩
    rw [cl, call_run (fn := ⟨1, 2, c11, none, false⟩) rfl rfl (by decide)]
    simp [c11, Tm.enc, Tm.text]
  | c0 k =>
    intro n st ho hs hn
    obtain ⟨m, rfl⟩ : ∃ m, n = m + 1 := ⟨n - 1, by simp [Tm.dep] at hn; omega⟩
    rw [cl, call_run (fn := ⟨1, 2, c11, none, false⟩) rfl rfl (by decide)]
    simp [c11, Tm.enc, Tm.text]
  | c1 k a iha =>
    intro n st ho hs hn
    have hl := Tm.text_len ho
    obtain ⟨m, rfl⟩ : ∃ m, n = m + 1 := ⟨n - 1, by simp [Tm.dep] at hn; omega⟩
    simp [Tm.dep] at hn
    have ho2 := (Bool.and_eq_true_iff.mp ho).2
    have hs2 : a.sz ≤ 10000 := by simp [Tm.sz, Tm.names] at hs ⊢; omega
    have e1 := fun st => iha (n := m) (st := st) ho2 hs2 hn
    rw [cl, call_run (fn := ⟨1, 2, c11, none, false⟩) rfl rfl (by decide)]
    have e2 := ev_lc_map (C := call Fs 1000000 m) (ρ := [.im (Tm.c1 k a).enc, .un]) (st := st) (st1 := st) (j := 1) (src := .slc (.var 0) (.cst (.int 1)) .nil) (e := .call 11 (.cons (.var 1) .nil)) (s := .tup [a.enc]) (xs := [a.enc]) (g := fun _ => .str a.text) (by simp [Tm.enc]) rfl (by
      intro x hx st
      rw [List.mem_singleton] at hx
      subst hx
      simp [e1])
    simp [Tm.text, Tm.sz, Tm.names] at hl hs
    simp [Tm.enc] at e2
    have b1 : k.length + 1 ≤ 16777216 := by omega
    have b2 : a.text.length ≤ 16777216 := by omega
    have b3 : k.length + 1 + a.text.length ≤ 16777216 := by omega
    have b4 : k.length + (1 + a.text.length) + 1 ≤ 16777216 := by omega
    have b5 : a.text.length + 1 ≤ 16777216 := by omega
    have b6 : k.length + (a.text.length + 1) + 1 ≤ 16777216 := by omega
    have b7 : k.length + 1 + (a.text.length) + 1 ≤ 16777216 := by omega
    simp [c11, Tm.enc, Tm.text, e2, textsOf, joinT, line, b1, b2, b3, b4, b5, b6, b7]
  | c2 k a b iha ihb =>
    intro n st ho hs hn
    have hl := Tm.text_len ho
    obtain ⟨m, rfl⟩ : ∃ m, n = m + 1 := ⟨n - 1, by simp [Tm.dep] at hn; omega⟩
    simp [Tm.dep] at hn
    have ho2 := Bool.and_eq_true_iff.mp (Bool.and_eq_true_iff.mp ho).2
    have hs2 : a.sz ≤ 10000 ∧ b.sz ≤ 10000 := by simp [Tm.sz, Tm.names] at hs ⊢; omega
    have e1 := fun st => iha (n := m) (st := st) ho2.1 hs2.1 (by omega)
    have e1' := fun st => ihb (n := m) (st := st) ho2.2 hs2.2 (by omega)
    rw [cl, call_run (fn := ⟨1, 2, c11, none, false⟩) rfl rfl (by decide)]
    have e2 : ev (call Fs 1000000 m) (.lc 1 (.slc (.var 0) (.cst (.int 1)) .nil) .nil (.call 11 (.cons (.var 1) .nil))) [.im (Tm.c2 k a b).enc, .un] st = .ok (.lst [.str a.text, .str b.text]) st := by
      simp [ev_lc, Tm.enc, mapO, lcF_nil, e1, e1']
    simp [Tm.text, Tm.sz, Tm.names] at hl hs
    simp [Tm.enc] at e2
    have b1 : k.length + 1 ≤ 16777216 := by omega
    have b2 : a.text.length + b.text.length + 2 ≤ 16777216 := by omega
    have b3 : k.length + 1 + (a.text.length + (b.text.length + 1)) ≤ 16777216 := by omega
    have b4 : k.length + (a.text.length + (b.text.length + 1) + 1) + 1 ≤ 16777216 := by omega
    simp [c11, Tm.enc, Tm.text, e2, textsOf, joinT, line, b1, b2, b3, b4]
end Lw
namespace Lw
open PySem L2 PF TL
/-! reading -/
def wC : E := match c12 with | .seq _ (.seq (.whl c _) _) => c | _ => .nil
def wB : S := match c12 with | .seq _ (.seq (.whl _ b) _) => b | _ => .skip
theorem or_left1 {a b : Bool} (h : a = true) : true = (a || b) := by rw [h]; rfl
theorem or_left0 {a b : Bool} (h : a = false) : b = (a || b) := by rw [h]; rfl
theorem word_test {C : Calls} {T : Tx} {a : D} {i : Nat} {st : Store} : evT C wC [.im (.str T), .im a, .im (.int i)] st = .ok (match T[i]? with | some c => letter c | none => false) st := by
  have hL : LOW.length ≤ line := by decide
  have hU : UPP.length ≤ line := by decide
  unfold LOW at hL
  unfold UPP at hU
  cases h : T[i]? with
  | none =>
    have hi : ¬ ((i : Int) < T.length) := by
      have := List.getElem?_eq_none_iff.mp h
      omega
    simp [wC, c12, hi]
  | some c =>
    have hi : i < T.length := (List.getElem?_eq_some_iff.mp h).1
    have ha : atI T (i : Int) = some c := by rw [atT, h]
    unfold letter low upp
    simp [-List.mem_cons, -Bool.decide_or, wC, c12, hi, ha, line]
    split
    · rename_i h0
      refine congrArg (O.ok · st) (or_left1 ?_)
      simpa using h0
    · rename_i h0
      refine congrArg (O.ok · st) (or_left0 ?_)
      simpa using h0
theorem word_loop {C : Calls} {T r : Tx} {a : D} {st : Store} : ∀ (w : Tx) (i M : Nat), T.drop i = w ++ r → w.all letter = true → noL r = true → w.length < M → whlO (evT C wC) (ex C 1000000 wB) M [.im (.str T), .im a, .im (.int i)] st = .ok (.next [.im (.str T), .im a, .im (.int ((i + w.length : Nat)))]) st
  | [], i, M, h, _, hr, hM => by
    obtain ⟨m, rfl⟩ : ∃ m, M = m + 1 := ⟨M - 1, by simp at hM; omega⟩
    rw [whlO, word_test]
    have : (match T[i]? with | some c => letter c | none => false) = false := by
      cases r with
      | nil =>
        have h2 : T.length ≤ i := List.drop_eq_nil_iff.mp (by simpa using h)
        rw [List.getElem?_eq_none h2]
      | cons c r =>
        obtain ⟨_, h2, _⟩ := drop_cons (T := T) (i := i) (c := c) (s := r) (by simpa using h)
        rw [h2]
        simpa [noL] using hr
    rw [this]
    simp
  | c :: w, i, M, h, hw, hr, hM => by
    obtain ⟨m, rfl⟩ : ∃ m, M = m + 1 := ⟨M - 1, by simp at hM; omega⟩
    obtain ⟨hi, h2, h3⟩ := drop_cons (T := T) (i := i) (c := c) (s := w ++ r) (by simpa using h)
    rw [List.all_cons, Bool.and_eq_true] at hw
    have ih := word_loop (C := C) (a := a) (st := st) w (i + 1) m h3 hw.2 hr (by simp at hM; omega)
    rw [whlO, word_test, h2]
    have e : ex C 1000000 wB [.im (.str T), .im a, .im (.int i)] st = .ok (.next [.im (.str T), .im a, .im (.int ((i + 1 : Nat)))]) st := by
      simp [wB, c12]
    simp only [thn_ok, hw.1, if_true, e, bind_ok]
    rw [ih]
    rw [List.length_cons, show i + 1 + w.length = i + (w.length + 1) by omega]
theorem word_ok {n : Nat} {T w r : Tx} {i : Nat} {st : Store} (h : T.drop i = w ++ r) (hw : w.all letter = true) (hr : noL r = true) (hT : T.length ≤ 900000) : cl (n + 1) 12 [.str T, .int i] st = .ok (.str w) st := by
  rw [cl, call_run (fn := ⟨2, 3, c12, none, false⟩) rfl rfl (by decide)]
  have hl : w.length ≤ T.length := by
    have := congrArg List.length h
    rw [List.length_drop, List.length_append] at this
    omega
  have e := word_loop (C := call Fs 1000000 n) (a := .int i) (st := st) w i 1000000 h hw hr (by omega)
  have ec : c12 = .seq (.set 2 (.var 1)) (.seq (.whl wC wB) (.seq (.ret (.slc (.var 0) (.var 1) (.var 2))) .skip)) := rfl
  show finK false (ex _ _ c12 [.im (.str T), .im (.int i), .un] st) = _
  rw [ec, ex_seq, ex_set]
  simp only [ev_var, slotD_s, slotD_0, lift_some, thn_ok, setS_s, setS_0, Option.map_some, bind_ok, seqK_next]
  rw [ex_seq, ex_whl, e, seqK_next]
  have k : cut T (some (i : Int)) (some ((i + w.length : Nat) : Int)) = w := by
    rw [cut_nat, h, Nat.add_sub_cancel_left, List.take_left]
  simp only [Int.natCast_add] at k
  simp [k]
def pC : E := match c13 with | .seq _ (.seq (.whl c _) _) => c | _ => .nil
def pB : S := match c13 with | .seq _ (.seq (.whl _ b) _) => b | _ => .skip
/-- a def reads a term wherever it stands -/
def Reads (C : Calls) (p : Tm) : Prop := ∀ (T r : Tx) (i : Nat) (st : Store), T.drop i = p.text ++ r → noL r = true → noP r = true → T.length ≤ 900000 → C 14 [.str T, .int i] st = .ok (.tup [p.enc, .int ((i + p.text.length : Nat))]) st
theorem parts_loop {C : Calls} {T r : Tx} {most : Nat} {st : Store} (hT : T.length ≤ 900000) (hmost : most ≤ 1000) : ∀ (qs done : List Tm) (i M : Nat) (z : PF.Slot), (∀ q ∈ qs, Reads C q) → T.drop i = restT done.isEmpty qs r → done.length + qs.length ≤ most → (done ≠ [] ∨ qs ≠ []) → qs.length < M →
    ∃ i' z', whlO (evT C pC) (ex C 1000000 pB) M [.im (.str T), .im (.int i), .im (.int most), .ol (done.map Tm.enc), z] st = .ok (.next [.im (.str T), .im (.int (i' : Nat)), .im (.int most), .ol ((done ++ qs).map Tm.enc), z']) st ∧ T.drop i' = 41 :: r
  | [], done, i, M, z, hq, h, hm, hne, hM => by
    obtain ⟨m, rfl⟩ : ∃ m, M = m + 1 := ⟨M - 1, by simp at hM; omega⟩
    obtain ⟨hi, h2, h3⟩ := drop_cons (T := T) (i := i) (c := 41) (s := r) h
    have ha : atI T (i : Int) = some 41 := by rw [atT, h2]
    have hd : done ≠ [] := by simpa using hne
    have hd2 : (done.map Tm.enc).isEmpty = false := by cases done <;> simp_all
    refine ⟨i, z, ?_, h⟩
    rw [whlO]
    have e : evT C pC [.im (.str T), .im (.int i), .im (.int most), .ol (done.map Tm.enc), z] st = .ok false st := by
      simp [pC, c13, hi, ha, hd, line]
    rw [e]
    simp
  | q :: qs, done, i, M, z, hq, h, hm, hne, hM => by
    obtain ⟨m, rfl⟩ : ∃ m, M = m + 1 := ⟨M - 1, by simp at hM; omega⟩
    obtain ⟨hi, h2, h3⟩ := drop_cons (T := T) (i := i) (c := if done.isEmpty then 40 else 44) (s := q.text ++ restT false qs r) h
    have ha : atI T (i : Int) = some (if done.isEmpty then 40 else 44) := by rw [atT, h2]
    have h4 : T.drop (i + 1 + q.text.length) = restT false qs r := drop_app h3
    obtain ⟨r1, r2, r3⟩ := restT_ok qs r
    have e1 := hq q (List.mem_cons_self ..) T _ (i + 1) st h3 r1 r2 hT
    obtain ⟨i', z', e2, e3⟩ := parts_loop (C := C) (st := st) (most := most) (r := r) hT hmost qs (done ++ [q]) (i + 1 + q.text.length) m (.im (.tup [q.enc, .int ((i + 1 + q.text.length : Nat))])) (fun p hp => hq p (List.mem_cons_of_mem _ hp)) (by
      have : (done ++ [q]).isEmpty = false := by cases done <;> rfl
      rw [this]
      exact h4) (by simp at hm ⊢; omega) (.inl (by simp)) (by simp at hM; omega)
    refine ⟨i', z', ?_, e3⟩
    rw [whlO]
    have et : evT C pC [.im (.str T), .im (.int i), .im (.int most), .ol (done.map Tm.enc), z] st = .ok true st := by
      cases done with
      | nil =>
        simp only [List.isEmpty_nil, if_true] at ha
        simp [pC, c13, hi, ha, line]
      | cons d ds =>
        simp only [List.isEmpty_cons, Bool.false_eq_true, if_false] at ha
        simp [pC, c13, hi, ha, line]
    have hm1 : ¬ (done.length : Int) = (most : Int) := by simp at hm; omega
    have hm2 : done.length < 16777216 := by
      have : done.length ≤ most := by omega
      omega
    have eb : ex C 1000000 pB [.im (.str T), .im (.int i), .im (.int most), .ol (done.map Tm.enc), z] st = .ok (.next [.im (.str T), .im (.int ((i + 1 + q.text.length : Nat))), .im (.int most), .ol ((done ++ [q]).map Tm.enc), .im (.tup [q.enc, .int ((i + 1 + q.text.length : Nat))])]) st := by
      simp only [Int.natCast_add, Int.natCast_one] at e1 ⊢
      simp [pB, c13, e1, hm1, hm2, line]
    rw [et]
    simp only [thn_ok, if_true, eb, bind_ok]
    rw [e2, List.append_assoc]
    rfl
end Lw
namespace Lw
open PySem L2 PF TL
theorem parts_ok {n : Nat} {T r : Tx} {qs : List Tm} {i most : Nat} {st : Store} (hq : ∀ q ∈ qs, Reads (cl n) q) (h : T.drop i = restT true qs r) (hm : qs.length ≤ most) (hne : qs ≠ []) (hmost : most ≤ 1000) (hT : T.length ≤ 900000) :
    ∃ j : Nat, cl (n + 1) 13 [.str T, .int i, .int most] st = .ok (.tup [.lst (qs.map Tm.enc), .int (j : Nat)]) st ∧ T.drop j = r ∧ j ≤ T.length := by
  obtain ⟨i', z', e, h2⟩ := parts_loop (C := cl n) (st := st) hT hmost qs [] i 1000000 .un hq h (by simpa using hm) (.inr hne) (by omega)
  obtain ⟨hi, h3, h4⟩ := drop_cons h2
  refine ⟨i' + 1, ?_, h4, hi⟩
  rw [cl, call_run (fn := ⟨3, 5, c13, none, false⟩) rfl rfl (by decide)]
  have ec : c13 = .seq (.own 3 (.lst .nil)) (.seq (.whl pC pB) (match c13 with | .seq _ (.seq _ b) => b | _ => .skip)) := rfl
  show finK false (ex _ _ c13 [.im (.str T), .im (.int i), .im (.int most), .un, .un] st) = _
  rw [ec, ex_seq]
  have e0 : ex (cl n) 1000000 (.own 3 (.lst .nil)) [.im (.str T), .im (.int i), .im (.int most), .un, .un] st = .ok (.next [.im (.str T), .im (.int i), .im (.int most), .ol [], .un]) st := by simp
  rw [e0, seqK_next, ex_seq, ex_whl]
  rw [show ([].map Tm.enc : List D) = [] from rfl, List.nil_append] at e
  rw [e, seqK_next]
  have ha : atI T (i' : Int) = some 41 := by rw [atT, h3]
  have hn : ¬ ((i' : Int) = T.length) := by omega
  have hd2 : (qs.map Tm.enc).isEmpty = false := by cases qs <;> simp_all
  simp [c13, ha, hn, hd2, hne, line]
theorem term_var {n : Nat} {k T r : Tx} {i : Nat} {st : Store} (hk : isN k = true) (h : T.drop i = k ++ r) (hr : noL r = true) (hT : T.length ≤ 900000) : cl (n + 2) 14 [.str T, .int i] st = .ok (.tup [.tup [.str k], .int ((i + k.length : Nat))]) st := by
  have e1 := word_ok (n := n) (st := st) h (isN_all hk) hr hT
  have e2 := name_ok (n := n) (s := k) (st := st)
  rw [cl, call_run (fn := ⟨2, 5, c14, none, false⟩) rfl rfl (by decide)]
  simp [c14, e1, e2, hk, line]
theorem term_con {n : Nat} {k T r : Tx} {i : Nat} {st : Store} (hk : isC k = true) (h : T.drop i = k ++ r) (hr : noL r = true) (hp : noP r = true) (hi : i ≤ T.length) (hT : T.length ≤ 900000) : cl (n + 2) 14 [.str T, .int i] st = .ok (.tup [.tup [.str k], .int ((i + k.length : Nat))]) st := by
  have e1 := word_ok (n := n) (st := st) h (isC_all hk) hr hT
  have e2 := name_ok (n := n) (s := k) (st := st)
  have e3 := cons_ok (n := n) (s := k) (st := st)
  have hn := isC_notN hk
  have hd : T.drop (i + k.length) = r := drop_app h
  rw [cl, call_run (fn := ⟨2, 5, c14, none, false⟩) rfl rfl (by decide)]
  cases r with
  | nil =>
    have : ((i : Int) + k.length) = T.length := by
      have := congrArg List.length h
      rw [List.length_drop, List.append_nil] at this
      omega
    simp [c14, e1, e2, e3, hk, hn, this, line]
  | cons c r =>
    obtain ⟨h1, h2, h3⟩ := drop_cons hd
    have ha : atI T ((i : Int) + k.length) = some c := by
      have := atT (T := T) (i := i + k.length)
      rw [Int.natCast_add] at this
      rw [this, h2]
    have hne : ¬ ((i : Int) + k.length = T.length) := by omega
    have hc : c ≠ 40 := by simpa [noP] using hp
    simp [c14, e1, e2, e3, hk, hn, hne, ha, hc, line]
theorem term_par {n : Nat} {k T r : Tx} {qs : List Tm} {i : Nat} {st : Store} (hq : ∀ q ∈ qs, Reads (cl (n + 1)) q) (hk : isC k = true) (h : T.drop i = k ++ restT true qs r) (hm : qs.length ≤ 2) (hne : qs ≠ []) (hi : i ≤ T.length) (hT : T.length ≤ 900000) :
    ∃ j : Nat, cl (n + 3) 14 [.str T, .int i] st = .ok (.tup [.tup (.str k :: qs.map Tm.enc), .int (j : Nat)]) st ∧ T.drop j = r ∧ j ≤ T.length := by
  have hr : noL (restT true qs r) = true := by
    cases qs with
    | nil => exact absurd rfl hne
    | cons q qs => simp [restT, noL, letter, low, upp]
  have e1 := word_ok (n := n + 1) (st := st) h (isC_all hk) hr hT
  have e2 := name_ok (n := n + 1) (s := k) (st := st)
  have e3 := cons_ok (n := n + 1) (s := k) (st := st)
  have hn := isC_notN hk
  have hd : T.drop (i + k.length) = restT true qs r := drop_app h
  obtain ⟨j, e4, hj, hl⟩ := parts_ok (st := st) hq hd hm hne (by decide) hT
  refine ⟨j, ?_, hj, hl⟩
  have ha0 : ∃ s, restT true qs r = 40 :: s := by
    cases qs with
    | nil => exact absurd rfl hne
    | cons q qs => exact ⟨_, rfl⟩
  obtain ⟨s, hs⟩ := ha0
  rw [hs] at hd
  obtain ⟨h1, h2, h3⟩ := drop_cons hd
  have ha : atI T ((i : Int) + k.length) = some 40 := by
    have := atT (T := T) (i := i + k.length)
    rw [Int.natCast_add] at this
    rw [this, h2]
  have hne : ¬ ((i : Int) + k.length = T.length) := by omega
  have hb : qs.length + 1 ≤ 16777216 := by omega
  have hb2 : 1 + qs.length ≤ 16777216 := by omega
  simp only [Int.natCast_add, Int.cast_ofNat_Int] at e4
  rw [cl, call_run (fn := ⟨2, 5, c14, none, false⟩) rfl rfl (by decide)]
  simp [c14, e1, e2, e3, e4, hk, hn, hne, ha, hb, hb2, line]
theorem end_eq {T s r : Tx} {i j : Nat} (h : T.drop i = s ++ r) (hi : i ≤ T.length) (hj : T.drop j = r) (hl : j ≤ T.length) : j = i + s.length := by
  have h1 := congrArg List.length h
  have h2 := congrArg List.length hj
  rw [List.length_drop, List.length_append] at h1
  rw [List.length_drop] at h2
  omega
theorem term_ok : ∀ {p : Tm} {n : Nat}, p.ok = true → 2 * p.dep ≤ n → Reads (cl n) p := by
  intro p
  induction p with
  | v x =>
    intro n hp hn T r i st h hl hpp hT
    obtain ⟨m, rfl⟩ : ∃ m, n = m + 2 := ⟨n - 2, by simp [Tm.dep] at hn; omega⟩
    exact term_var hp h hl hT
  | c0 k =>
    intro n hp hn T r i st h hl hpp hT
    obtain ⟨m, rfl⟩ : ∃ m, n = m + 2 := ⟨n - 2, by simp [Tm.dep] at hn; omega⟩
    refine term_con hp h hl hpp ?_ hT
    obtain ⟨c, s, hk, _⟩ := isC_ne hp
    rcases Nat.lt_or_ge T.length i with z | z
    · rw [List.drop_of_length_le (Nat.le_of_lt z)] at h
      subst hk
      cases h
    · exact z
  | c1 k a iha =>
    intro n hp hn T r i st h hl hpp hT
    obtain ⟨hk, ha⟩ := Bool.and_eq_true_iff.mp hp
    have := a.dep_pos
    obtain ⟨m, rfl⟩ : ∃ m, n = m + 3 := ⟨n - 3, by simp [Tm.dep] at hn; omega⟩
    have hi : i ≤ T.length := by
      obtain ⟨c, s, hk, _⟩ := isC_ne hk
      rcases Nat.lt_or_ge T.length i with z | z
      · rw [List.drop_of_length_le (Nat.le_of_lt z)] at h
        subst hk
        cases h
      · exact z
    obtain ⟨j, e, h1, h2⟩ := term_par (n := m) (k := k) (T := T) (r := r) (qs := [a]) (i := i) (st := st) (fun q hq => by
      rw [List.mem_singleton] at hq
      subst hq
      exact iha ha (by simp [Tm.dep] at hn; omega)) hk (by rw [h]; simp [Tm.text, restT]) (by simp) (by simp) hi hT
    rw [e, end_eq h hi h1 h2]
    rfl
  | c2 k a b iha ihb =>
    intro n hp hn T r i st h hl hpp hT
    obtain ⟨hk, hab⟩ := Bool.and_eq_true_iff.mp hp
    obtain ⟨ha, hb⟩ := Bool.and_eq_true_iff.mp hab
    have := a.dep_pos
    obtain ⟨m, rfl⟩ : ∃ m, n = m + 3 := ⟨n - 3, by simp [Tm.dep] at hn; omega⟩
    have hi : i ≤ T.length := by
      obtain ⟨c, s, hk, _⟩ := isC_ne hk
      rcases Nat.lt_or_ge T.length i with z | z
      · rw [List.drop_of_length_le (Nat.le_of_lt z)] at h
        subst hk
        cases h
      · exact z
    obtain ⟨j, e, h1, h2⟩ := term_par (n := m) (k := k) (T := T) (r := r) (qs := [a, b]) (i := i) (st := st) (fun q hq => by
      rcases List.mem_cons.mp hq with rfl | hq
      · exact iha ha (by simp [Tm.dep] at hn; omega)
      · rw [List.mem_singleton] at hq
        subst hq
        exact ihb hb (by simp [Tm.dep] at hn; omega)) hk (by rw [h]; simp [Tm.text, restT]) (by simp) (by simp) hi hT
    rw [e, end_eq h hi h1 h2]
    rfl
end Lw
namespace Lw
open PySem L2 PF TL
theorem read_ok {p : Tm} {n : Nat} {st : Store} (hp : p.ok = true) (hs : p.sz ≤ 200) (hn : 2 * p.dep ≤ n) : cl (n + 1) 15 [.str p.text] st = .ok p.enc st := by
  have hl := Tm.text_len hp
  have e1 := term_ok hp hn p.text [] 0 st (by simp) rfl rfl (by omega)
  have hc : ¬ (200 : Int) < Txt.count (tx p.text) (tx [40]) := by
    rw [count_one]
    have := Tm.cnt_le hp
    omega
  simp only [Nat.zero_add, Int.natCast_zero] at e1
  rw [cl, call_run (fn := ⟨1, 2, c15, none, false⟩) rfl rfl (by decide)]
  simp [c15, e1, hc, kit_str, line]
theorem once_ok {α : Type} [DecidableEq α] {f : α → D} {n : Nat} {xs : List α} {st : Store} (hf : ∀ a b, f a = f b → a = b) (hp : ∀ a ∈ xs, pl false 3 (f a) = true) (hl : xs.length ≤ 10000) : cl (n + 1) 7 [.lst (xs.map f)] st = .ok (.lst ((Tm.onceL xs).map f)) st := by
  obtain ⟨z', e⟩ := forO_fold (f := fun x ρ st => (lift (setS ρ 2 x) st).bind fun ρ st => ex (cl n) 1000000 (.seq (.ite (.tcm .notin (.var 2) (.bor 1)) (.seq (.app 1 (.var 2)) .skip) .skip) .skip) ρ st) f (fun acc z => [.im (.lst (xs.map f)), .ol (acc.map f), z]) (fun acc x => if x ∈ acc then acc else acc ++ [x])
    (fun acc rest => (∀ a ∈ acc ++ rest, pl false 3 (f a) = true) ∧ acc.length + rest.length ≤ 10000) (st := st) (fun acc x rest z h => by
      obtain ⟨h1, h2⟩ := h
      simp only [List.length_cons] at h2
      obtain ⟨r, e1, e2⟩ := inD_pl (b := false) (n := 3) (x := f x) (ys := acc.map f) (h1 x (by simp)) (by
        rw [List.all_eq_true]
        intro d hd
        obtain ⟨a, ha, rfl⟩ := List.mem_map.mp hd
        exact h1 a (by simp [ha])) (by decide)
      rw [map_mem_inj hf] at e2
      by_cases hx : x ∈ acc
      · have : r = true := e2.mpr hx
        subst this
        refine ⟨⟨.im (f x), ?_⟩, ?_, ?_⟩
        · simp [e1, hx]
        · intro a ha
          refine h1 a ?_
          rw [if_pos hx] at ha
          rcases List.mem_append.mp ha with h | h <;> simp [h]
        · rw [if_pos hx]; omega
      · have : r = false := by
          cases hr : r with
          | false => rfl
          | true => exact absurd (e2.mp hr) hx
        subst this
        have hb : acc.length < 16777216 := by omega
        refine ⟨⟨.im (f x), ?_⟩, ?_, ?_⟩
        · simp [e1, hx, hb, line]
        · intro a ha
          refine h1 a ?_
          rw [if_neg hx, List.append_assoc] at ha
          exact ha
        · rw [if_neg hx, List.length_append, List.length_singleton]; omega) xs [] .un ⟨by simpa using hp, by simpa using hl⟩
  rw [cl, call_run (fn := ⟨1, 3, c7, none, false⟩) rfl rfl (by decide)]
  have hb : xs.length ≤ 16777216 := by omega
  rw [show ([].map f : List D) = [] from rfl] at e
  simp [c7, ex_for, hb, line] at e ⊢
  rw [e]
  simp [Tm.onceL]
theorem tops_ok : ∀ {t : Tm} {n : Nat} {st : Store}, t.ok = true → t.sz ≤ 10000 → t.dep + 1 ≤ n → cl n 9 [t.enc] st = .ok (.lst (t.tops.map prE)) st := by
  intro t
  induction t with
  | v x =>
    intro n st ho hs hn
    obtain ⟨m, rfl⟩ : ∃ m, n = m + 2 := ⟨n - 2, by simp [Tm.dep] at hn; omega⟩
    have e := isvar_ok (n := m) (t := .v x) (st := st) ho
    rw [cl, call_run (fn := ⟨1, 3, c9, none, false⟩) rfl rfl (by decide)]
    simp [c9, e, Tm.isVar, Tm.tops]
  | c0 k =>
    intro n st ho hs hn
    obtain ⟨m, rfl⟩ : ∃ m, n = m + 2 := ⟨n - 2, by simp [Tm.dep] at hn; omega⟩
    have e := isvar_ok (n := m) (t := .c0 k) (st := st) ho
    rw [cl, call_run (fn := ⟨1, 3, c9, none, false⟩) rfl rfl (by decide)]
    simp [Tm.enc] at e
    simp [c9, Tm.enc, e, Tm.isVar, Tm.tops, prE, line, ex_for, forO]
  | c1 k a iha =>
    intro n st ho hs hn
    obtain ⟨m, rfl⟩ : ∃ m, n = m + 2 := ⟨n - 2, by simp [Tm.dep] at hn; omega⟩
    have e := isvar_ok (n := m) (t := .c1 k a) (st := st) ho
    obtain ⟨h1, h2⟩ := Bool.and_eq_true_iff.mp ho
    simp [Tm.dep] at hn
    have ha : a.names.length + 1 ≤ 10000 := by simpa [Tm.sz, Tm.names] using hs
    have e1 := fun st => iha (n := m + 1) (st := st) h2 (by unfold Tm.sz; omega) (by omega)
    have ht := Tm.tops_len a
    unfold Tm.sz at ht
    have b1 : 1 + a.tops.length ≤ 16777216 := by omega
    rw [cl, call_run (fn := ⟨1, 3, c9, none, false⟩) rfl rfl (by decide)]
    simp [Tm.enc] at e
    simp [c9, Tm.enc, e, e1, b1, Tm.isVar, Tm.tops, prE, line, ex_for, forO]
  | c2 k a b iha ihb =>
    intro n st ho hs hn
    obtain ⟨m, rfl⟩ : ∃ m, n = m + 2 := ⟨n - 2, by simp [Tm.dep] at hn; omega⟩
    have e := isvar_ok (n := m) (t := .c2 k a b) (st := st) ho
    obtain ⟨h1, h2⟩ := Bool.and_eq_true_iff.mp ho
    obtain ⟨h3, h4⟩ := Bool.and_eq_true_iff.mp h2
    simp [Tm.dep] at hn
    have ha : a.names.length + b.names.length + 1 ≤ 10000 := by simpa [Tm.sz, Tm.names] using hs
    have e1 := fun st => iha (n := m + 1) (st := st) h3 (by unfold Tm.sz; omega) (by omega)
    have e2 := fun st => ihb (n := m + 1) (st := st) h4 (by unfold Tm.sz; omega) (by omega)
    have ht := Tm.tops_len a
    have hu := Tm.tops_len b
    unfold Tm.sz at ht hu
    have b1 : 1 + a.tops.length ≤ 16777216 := by omega
    have b2 : a.tops.length + 1 + b.tops.length ≤ 16777216 := by omega
    rw [cl, call_run (fn := ⟨1, 3, c9, none, false⟩) rfl rfl (by decide)]
    simp [Tm.enc] at e
    simp [c9, Tm.enc, e, e1, e2, b1, b2, Tm.isVar, Tm.tops, prE, line, ex_for, forO]
theorem conss_ok {t : Tm} {n : Nat} {st : Store} (ho : t.ok = true) (hs : t.sz ≤ 5000) (hn : t.dep + 1 ≤ n) : cl (n + 1) 10 [.lst [t.enc]] st = .ok (.lst ((Tm.onceL t.tops).map prE)) st := by
  obtain ⟨m, rfl⟩ : ∃ m, n = m + 1 := ⟨n - 1, by omega⟩
  have e1 := tops_ok (n := m + 1) (st := st) ho (by omega) hn
  have hl := Tm.tops_len t
  have e2 := once_ok (f := prE) (n := m) (xs := t.tops) (st := st) prE_inj (fun p hp => Tm.tops_pl ho p hp) (by omega)
  rw [cl, call_run (fn := ⟨1, 3, c10, none, false⟩) rfl rfl (by decide)]
  have b1 : t.tops.length ≤ 16777216 := by omega
  simp [c10, e1, e2, b1, line, ex_for, forO]
theorem vars_ok {t : Tm} {n : Nat} {st : Store} (ho : t.ok = true) (hs : t.sz ≤ 5000) (hn : t.dep ≤ n) (hn1 : 1 ≤ n) : cl (n + 1) 8 [.lst [t.enc]] st = .ok (strL t.vars) st := by
  obtain ⟨m, rfl⟩ : ∃ m, n = m + 1 := ⟨n - 1, by omega⟩
  have e1 := fun st => names_ok (n := m + 1) (t := t) (st := st) (by omega) hn
  have hl : t.names.length ≤ 5000 := hs
  have hL : LOW.length ≤ line := by decide
  unfold LOW at hL
  have hlf := List.length_filter_le isV t.names
  have e2 := once_ok (f := strE) (n := m) (xs := t.names.filter isV) (st := st) strE_inj (fun p hp => by
    exact letter_ok (Tm.names_ok ho p (List.mem_filter.mp hp).1).2) (by omega)
  rw [cl, call_run (fn := ⟨1, 4, c8, none, false⟩) rfl rfl (by decide)]
  have e3 : ∀ st, ev (cl (m + 1)) (match c8 with | .seq _ (.seq (.for_ _ _ (.seq (.ext _ e) _)) _) => e | _ => .nil) [.im (.lst [t.enc]), .ol [], .im t.enc, .un] st = .ok (.lst ((t.names.filter isV).map strE)) st := by
    intro st
    have := ev_lc_filter (C := cl (m + 1)) (ρ := [.im (.lst [t.enc]), .ol [], .im t.enc, .un]) (st := st) (st1 := st) (j := 3) (src := .call 5 (.cons (.var 2) .nil)) (c := (.tcm .inn (.idx (.var 3) (.cst (.int 0))) (.glb "LOWER" (.str [97, 98, 99, 100, 101, 102, 103, 104, 105, 106, 107, 108, 109, 110, 111, 112, 113, 114, 115, 116, 117, 118, 119, 120, 121, 122])))) (e := .var 3) (s := strL t.names) (xs := t.names.map strE) (g := fun d => d) (p := fun d => match d with | .str x => isV x | _ => false) rfl (by simp [e1]) rfl (by
      intro d hd st
      obtain ⟨x, hx, rfl⟩ := List.mem_map.mp hd
      have hn := (Tm.names_ok ho x hx).1
      cases x with
      | nil => exact absurd rfl hn
      | cons c r => simp [-List.mem_cons, strE, isV, low, line]) (by intro d hd st; simp)
    refine Eq.trans this ?_
    rw [show (fun d : D => d) = id from rfl, List.map_id, List.filter_map]
    rfl
  have b1 : (t.names.filter isV).length ≤ 16777216 := by omega
  simp [c8, ex_for, forO, line] at e3 ⊢
  simp [e3, b1, e2, Tm.vars, strL]
  intro a _
  rfl
end Lw
namespace Lw
open PySem L2 PF TL
theorem raw_inst {n : Nat} {t : Tm} {st : Store} : cl (n + 1) 18 [inst t] st = .ok t.enc st := by
  rw [cl, call_run (fn := ⟨1, 2, c18, none, false⟩) rfl rfl (by decide)]
  cases t <;> kernel_rfl
theorem raw_text {n : Nat} {t : Tm} {st : Store} (hp : t.ok = true) (hs : t.sz ≤ 200) (hn : 2 * t.dep ≤ n) : cl (n + 2) 18 [.str t.text] st = .ok t.enc st := by
  have e := read_ok (n := n) (st := st) hp hs hn
  rw [cl, call_run (fn := ⟨1, 2, c18, none, false⟩) rfl rfl (by decide)]
  have e2 : isD t.enc .non = some false := by cases t <;> rfl
  have e3 : tyN st (.str t.text) = some (.b "str") := rfl
  have e4 : (match c18 with | .seq (.set _ (.ite (.tst (.iso _ tb _)) _ _)) _ => tb | _ => []).lookup (TyN.b "str") = some false := by kernel_rfl
  simp only [c18] at e4
  simp [c18, e, e2, e3, e4, line]
/-- a value that serves as a part -/
def PV (n : Nat) (x : D) (q : Tm) : Prop := ∀ st, cl n 18 [x] st = .ok q.enc st
theorem init_ok {n : Nat} {k : Tx} {ps : List (D × Tm)} {st : Store} (hp : ∀ p ∈ ps, PV (n + 1) p.1 p.2) (hk : (isN k = true ∧ ps = []) ∨ isC k = true) (hl : ps.length ≤ 2) : cl (n + 2) 21 [.str k, .tup (ps.map (·.1))] st = .ok (.ins "Term" [("own_raw", .tup (.str k :: ps.map fun p => p.2.enc))]) st := by
  rw [cl, call_ini (fn := ⟨2, 4, c21, some "Term", false⟩) rfl rfl (by decide) rfl]
  have e1 := name_ok (n := n) (s := k) (st := st)
  have e2 := cons_ok (n := n) (s := k) (st := st)
  have e3 : ev (cl (n + 1)) (.lc 4 (.var 2) .nil (.call 18 (.cons (.var 4) .nil))) [.oi "Term" [], .im (.str k), .im (.tup (ps.map (·.1))), .un, .un] st = .ok (.lst (ps.map fun p => p.2.enc)) st := by
    refine ev_lc_from (ps := ps) (fx := (·.1)) (s := .tup (ps.map (·.1))) (by simp) rfl fun p hpp st => ?_
    have := hp p hpp st
    simp [this]
  have hb : ¬ (2 : Int) < ps.length := by omega
  have hb2 : 1 + ps.length ≤ 16777216 := by omega
  have hb3 : ps.length + 1 ≤ 16777216 := by omega
  rcases hk with ⟨h1, rfl⟩ | h1
  · simp [c21, e1, e2, h1, e3, line, sflS, putFD, iniK] at e3 ⊢
    simp [e3, h1, sflS, putFD, iniK]
  · have h2 := isC_notN h1
    simp [c21, e1, e2, h1, h2, e3, hb, hb2, hb3, line, sflS, putFD, iniK]
theorem termof_ok : ∀ (d : Nat) {t : Tm} {n : Nat} {st : Store}, t.dep ≤ d → t.ok = true → d + 2 ≤ n → cl n 19 [t.enc] st = .ok (inst t) st := by
  intro d
  induction d with
  | zero =>
    intro t n st hd
    have := t.dep_pos
    omega
  | succ d ih =>
    intro t n st hd ho hn
    obtain ⟨m, rfl⟩ : ∃ m, n = m + 3 := ⟨n - 3, by omega⟩
    have e1 : ∀ q ∈ t.parts, ∀ st, cl (m + 2) 19 [q.enc] st = .ok (inst q) st := fun q hq st => ih (by have := Tm.parts_dep hq; omega) (Tm.parts_ok ho hq) (by omega)
    have e2 := init_ok (n := m) (k := t.top) (ps := t.parts.map fun q => (inst q, q)) (st := st) (by
      intro p hp st
      obtain ⟨q, hq, rfl⟩ := List.mem_map.mp hp
      exact raw_inst) (by
      rcases Tm.top_case ho with ⟨h1, h2⟩ | h
      · exact .inl ⟨h1, by rw [h2]; rfl⟩
      · exact .inr h) (by rw [List.length_map]; exact t.parts_len)
    rw [List.map_map, List.map_map] at e2
    rw [cl, call_run (fn := ⟨1, 3, c19, none, false⟩) rfl rfl (by decide)]
    have e3 : ev (cl (m + 2)) (.lc 2 (.slc (.var 0) (.cst (.int 1)) .nil) .nil (.call 19 (.cons (.var 2) .nil))) [.im t.enc, .un, .un] st = .ok (.lst (t.parts.map inst)) st := by
      refine ev_lc_from (ps := t.parts) (fx := Tm.enc) (s := .tup (t.parts.map Tm.enc)) (by rw [Tm.enc_eq]; simp) rfl fun q hq st => ?_
      have := e1 q hq st
      simp [this]
    have hl := t.parts_len
    have hb : t.parts.length ≤ 16777216 := by omega
    have e4 : packD 1 (.str t.top :: t.parts.map inst) = some [.str t.top, .tup (t.parts.map inst)] := by
      unfold packD
      rw [if_pos ⟨by simp, by simp [line]; omega⟩]
      rfl
    have e5 : (cl (m + 2)) 21 [.str t.top, .tup (t.parts.map inst)] st = .ok (inst t) st := by
      refine Eq.trans e2 ?_
      unfold inst
      rw [Tm.enc_eq t]
      rfl
    have e6 : insOf "Term" (inst t) = some (inst t) := rfl
    rw [Tm.enc_eq] at e3 ⊢
    simp [c19, e3, hb, e4, e5, e6, line]
end Lw
namespace Lw
open PySem L2 PF TL
theorem fld_inst {st : Store} {t : Tm} : fldD st (inst t) "own_raw" = some t.enc := rfl
theorem str_ok {n : Nat} {t : Tm} {st : Store} (ho : t.ok = true) (hs : t.sz ≤ 5000) (hn : t.dep ≤ n) : cl (n + 1) 23 [inst t] st = .ok (.str t.text) st := by
  have e := text_ok (n := n) (st := st) ho (by omega) hn
  rw [cl, call_run (fn := ⟨1, 1, c23, none, false⟩) rfl rfl (by decide)]
  simp [c23, fld_inst, e]
theorem read_m {n : Nat} {t : Tm} {st : Store} (ho : t.ok = true) (hs : t.sz ≤ 200) (hn : 2 * t.dep + 1 ≤ n) : cl (n + 1) 22 [.str t.text] st = .ok (inst t) st := by
  obtain ⟨m, rfl⟩ : ∃ m, n = m + 1 := ⟨n - 1, by omega⟩
  have := t.dep_pos
  have e1 := read_ok (n := m) (st := st) ho hs (by omega)
  have e2 := fun st => termof_ok (st := st) t.dep (t := t) (n := m + 1) (Nat.le_refl _) ho (by omega)
  have e3 : isD t.enc .non = some false := by cases t <;> rfl
  rw [cl, call_run (fn := ⟨1, 2, c22, none, false⟩) rfl rfl (by decide)]
  simp [c22, e1, e2, e3]
end Lw
namespace Lw
open PySem L2 PF TL
theorem lawdraw_ok {n a : Nat} {m : Int} {st : Store} (h : PoolAt st a) (hm : 0 < m) (hm2 : m < 1073741824) :
    ∃ (d : Int) (st' : Store), cl (n + 1) 39 [.ref a, .int m] st = .ok (.int d) st' ∧ 0 ≤ d ∧ d < m ∧ PoolAt st' a := by
  obtain ⟨g, s, h, h1, h2⟩ := h
  have hl : a < st.length := (List.getElem?_eq_some_iff.mp h).1
  rw [cl, call_at (fn := ⟨2, 3, c39, none, false⟩) rfl]
  by_cases hg : 0 < g
  · refine ⟨g % m, st.set a (.lst [.int (g / m), .int s]), ?_, Int.emod_nonneg _ (by omega), Int.emod_lt_of_pos _ hm, PoolAt.set hl _ _ h1 h2⟩
    simp [runF, c39, ex, ev, evs, evo, evT, opd, slotD, idxD, h, atI, ixN, cmpD, hg, bfD, binD, hm, hm2, okC, setS, putS]
  · have e1 : 0 ≤ (s * 48271 + 11) % 2147483647 := Int.emod_nonneg _ (by omega)
    have e2 : (s * 48271 + 11) % 2147483647 < 2147483647 := Int.emod_lt_of_pos _ (by omega)
    refine ⟨((s * 48271 + 11) % 2147483647 * ((s * 48271 + 11) % 2147483647)) % 2147483629 / 64 % m, st.set a (.lst [.int g, .int ((s * 48271 + 11) % 2147483647)]), ?_, Int.emod_nonneg _ (by omega), Int.emod_lt_of_pos _ hm, PoolAt.set hl _ _ e1 e2⟩
    have hb : big = 18446744073709551616 := rfl
    have k1 : mulOk s 48271 = true := by simp [mulOk, hb]
    have k2 : ∀ t : Int, 0 ≤ t → t < 2147483647 → mulOk t t = true := fun t a b => by
      simp only [mulOk, hb, Bool.or_eq_true, Bool.and_eq_true, decide_eq_true_eq]
      exact .inl ⟨by omega, by omega⟩
    have k3 := k2 _ e1 e2
    have hs : ∀ c, (st.set a c)[a]? = some c := fun c => List.getElem?_set_self hl
    simp [runF, c39, ex, ev, evs, evo, evT, opd, slotD, idxD, h, atI, ixN, cmpD, hg, bfD, binD, hm, hm2, okC, setS, putS, k1, k3, hs]
theorem lawpick_ok {n a : Nat} {xs : List D} {st : Store} (h : PoolAt st a) (h0 : 0 < xs.length) (h1 : xs.length < 1000) :
    ∃ (d : D) (st' : Store), cl (n + 2) 40 [.ref a, .lst xs] st = .ok d st' ∧ d ∈ xs ∧ PoolAt st' a := by
  obtain ⟨d, st', e, d0, d1, p⟩ := lawdraw_ok (n := n) (m := (xs.length : Int)) h (by omega) (by omega)
  have hi : d.toNat < xs.length := by omega
  refine ⟨xs[d.toNat], st', ?_, List.getElem_mem hi, p⟩
  have ea : atI xs d = some xs[d.toNat] := by
    unfold atI ixN
    rw [if_pos d0, if_pos d1]
    exact List.getElem?_eq_getElem hi
  rw [cl, call_at (fn := ⟨2, 2, c40, none, false⟩) rfl]
  simp [runF, c40, ex, ev, evs, evo, opd, slotD, bfD, e, idxD, ea]
theorem lawpool_ok {n : Nat} {ns : List Int} {k : Int} {st : Store} (h0 : 0 ≤ k) (h1 : k < 64) :
    ∃ st', cl (n + 1) 38 [.scr (ns.map .int), .int k] st = .ok (.ref st.length) st' ∧ PoolAt st' st.length := by
  rw [cl, call_at (fn := ⟨2, 5, c38, none, false⟩) rfl]
  have hb : big = 18446744073709551616 := rfl
  have k1 : mulOk 104729 k = true := by simp [mulOk, hb]
  have k2 : mulOk (104729 * k) k = true := by
    simp only [mulOk, hb, Bool.or_eq_true, Bool.and_eq_true, decide_eq_true_eq]
    exact .inr ⟨by omega, by omega⟩
  have k3 : mulOk 7919 k = true := by simp [mulOk, hb]
  have hP : ∀ c : Int, (c % 2147483629 + 104729 * k * k + 7919 * k + 11).natAbs < 18446744073709551616 := fun c => by
    have e1 : 0 ≤ c % 2147483629 := Int.emod_nonneg _ (by omega)
    have e2 : c % 2147483629 < 2147483629 := Int.emod_lt_of_pos _ (by omega)
    have : 104729 * k * k ≤ 104729 * k * 64 := Int.mul_le_mul_of_nonneg_left (by omega) (by omega)
    have : 0 ≤ 104729 * k * k := Int.mul_nonneg (by omega) h0
    omega
  have wit : ∀ (g c : Int), PoolAt (st ++ [.lst [.int g, .int ((c % 2147483629 + 104729 * k * k + 7919 * k + 11) ^ 3 % 2147483647)]]) st.length := fun g c =>
    ⟨g, (c % 2147483629 + 104729 * k * k + 7919 * k + 11) ^ 3 % 2147483647, by simp, Int.emod_nonneg _ (by omega), Int.emod_lt_of_pos _ (by omega)⟩
  by_cases hk : k < ns.length
  · have ea : atI (ns.map D.int) k = some (.int (ns[k.toNat]'(by omega))) := by
      rw [atI_in h0 (by simpa using hk)]
      simp
    generalize ns[k.toNat]'(by omega) = c at ea
    have hp := hP c
    by_cases hg : c < 1000000000000000000
    · refine ⟨_, ?_, wit 0 c⟩
      simp [runF, c38, hk, ea, k1, k2, k3, hg, hp, line]
    · refine ⟨_, ?_, wit c c⟩
      simp [runF, c38, hk, ea, k1, k2, k3, hg, hp, line]
  · have hp := hP 0
    refine ⟨_, ?_, wit 0 0⟩
    simp at hp
    simp [runF, c38, hk, k1, k2, k3, hp, line]
end Lw
namespace Lw
open PySem L2 PF TL
/-- a value that stands for a term: a Term, or its text -/
def VOk (n : Nat) (x : D) (q : Tm) : Prop := q.ok = true ∧ (x = inst q ∨ (x = .str q.text ∧ q.sz ≤ 200 ∧ 2 * q.dep ≤ n))
theorem vars_l {ts : List Tm} {n : Nat} {st : Store} (ho : ∀ t ∈ ts, t.ok = true) (hs : szL ts ≤ 5000) (hn : ∀ t ∈ ts, t.dep ≤ n) (hn1 : 1 ≤ n) : cl (n + 1) 8 [encs ts] st = .ok (strL (varsL ts)) st := by
  obtain ⟨m, rfl⟩ : ∃ m, n = m + 1 := ⟨n - 1, by omega⟩
  have hL : LOW.length ≤ line := by decide
  unfold LOW at hL
  have one : ∀ (t : Tm), t.ok = true → t.dep ≤ m + 1 → t.sz ≤ 5000 → ∀ (r : D) (acc : List D) (st : Store), ev (cl (m + 1)) (match c8 with | .seq _ (.seq (.for_ _ _ (.seq (.ext _ e) _)) _) => e | _ => .nil) [.im r, .ol acc, .im t.enc, .un] st = .ok (.lst ((t.names.filter isV).map strE)) st := by
    intro t ho hn hs r acc st
    have e1 := fun st => names_ok (n := m + 1) (t := t) (st := st) (by omega) hn
    have := ev_lc_filter (C := cl (m + 1)) (ρ := [.im r, .ol acc, .im t.enc, .un]) (st := st) (st1 := st) (j := 3) (src := .call 5 (.cons (.var 2) .nil)) (c := (.tcm .inn (.idx (.var 3) (.cst (.int 0))) (.glb "LOWER" (.str [97, 98, 99, 100, 101, 102, 103, 104, 105, 106, 107, 108, 109, 110, 111, 112, 113, 114, 115, 116, 117, 118, 119, 120, 121, 122])))) (e := .var 3) (s := strL t.names) (xs := t.names.map strE) (g := fun d => d) (p := fun d => match d with | .str x => isV x | _ => false) rfl (by simp [e1]) rfl (by
      intro d hd st
      obtain ⟨x, hx, rfl⟩ := List.mem_map.mp hd
      have hn := (Tm.names_ok ho x hx).1
      cases x with
      | nil => exact absurd rfl hn
      | cons c r => simp [-List.mem_cons, strE, isV, low, line]) (by intro d hd st; simp)
    refine Eq.trans this ?_
    rw [show (fun d : D => d) = id from rfl, List.map_id, List.filter_map]
    rfl
  obtain ⟨z', e⟩ := forO_fold (f := fun x ρ st => (lift (setS ρ 2 x) st).bind fun ρ st => ex (cl (m + 1)) 1000000 (match c8 with | .seq _ (.seq (.for_ _ _ b) _) => b | _ => .skip) ρ st) Tm.enc (fun acc z => [.im (encs ts), .ol (acc.map strE), z, .un]) (fun acc t => acc ++ t.names.filter isV)
    (fun acc rest => (∀ t ∈ rest, t.ok = true ∧ t.dep ≤ m + 1) ∧ acc.length + szL rest ≤ 5000) (st := st) (fun acc t rest z h => by
      obtain ⟨h1, h2⟩ := h
      obtain ⟨h3, h4⟩ := h1 t List.mem_cons_self
      rw [szL_cons] at h2
      have e1 := one t h3 h4 (by omega) (encs ts) (acc.map strE) st
      have hl := List.length_filter_le isV t.names
      have hsz : t.names.length = t.sz := rfl
      refine ⟨⟨.im t.enc, ?_⟩, fun u hu => h1 u (List.mem_cons_of_mem _ hu), ?_⟩
      · have b1 : acc.length + (t.names.filter isV).length ≤ 16777216 := by omega
        simp [c8, line] at e1 ⊢
        simp [e1, b1]
      · rw [List.length_append]; omega) ts [] .un ⟨fun t ht => ⟨ho t ht, hn t ht⟩, by simpa using hs⟩
  have hl := List.length_filter_le isV (ts.flatMap Tm.names)
  have ef : ∀ (us : List Tm) (acc : List Tx), us.foldl (fun acc t => acc ++ t.names.filter isV) acc = acc ++ (us.flatMap Tm.names).filter isV := by
    intro us
    induction us with
    | nil => intro acc; simp
    | cons u us ih => intro acc; simp [ih]
  rw [ef, List.nil_append] at e
  have e2 := once_ok (f := strE) (n := m) (xs := (ts.flatMap Tm.names).filter isV) (st := st) strE_inj (fun p hp => by
    obtain ⟨t, ht, hp⟩ := List.mem_flatMap.mp (List.mem_filter.mp hp).1
    exact letter_ok (Tm.names_ok (ho t ht) p hp).2) (by unfold szL at hs; omega)
  rw [cl, call_run (fn := ⟨1, 4, c8, none, false⟩) rfl rfl (by decide)]
  rw [show ([].map strE : List D) = [] from rfl] at e
  simp [c8, ex_for, line] at e ⊢
  rw [e]
  simp [e2, varsL, strL]
  intro a _
  rfl
theorem conss_l {ts : List Tm} {n : Nat} {st : Store} (ho : ∀ t ∈ ts, t.ok = true) (hs : szL ts ≤ 5000) (hn : ∀ t ∈ ts, t.dep + 1 ≤ n) (hn1 : 1 ≤ n) : cl (n + 1) 10 [encs ts] st = .ok (.lst ((topsL ts).map prE)) st := by
  obtain ⟨m, rfl⟩ : ∃ m, n = m + 1 := ⟨n - 1, by omega⟩
  obtain ⟨z', e⟩ := forO_fold (f := fun x ρ st => (lift (setS ρ 2 x) st).bind fun ρ st => ex (cl (m + 1)) 1000000 (match c10 with | .seq _ (.seq (.for_ _ _ b) _) => b | _ => .skip) ρ st) Tm.enc (fun acc z => [.im (encs ts), .ol (acc.map prE), z]) (fun acc t => acc ++ t.tops)
    (fun acc rest => (∀ t ∈ rest, t.ok = true ∧ t.dep + 1 ≤ m + 1) ∧ acc.length + szL rest ≤ 5000) (st := st) (fun acc t rest z h => by
      obtain ⟨h1, h2⟩ := h
      obtain ⟨h3, h4⟩ := h1 t List.mem_cons_self
      rw [szL_cons] at h2
      have e1 := tops_ok (n := m + 1) (t := t) (st := st) h3 (by omega) h4
      have hl := Tm.tops_len t
      refine ⟨⟨.im t.enc, ?_⟩, fun u hu => h1 u (List.mem_cons_of_mem _ hu), ?_⟩
      · have b1 : acc.length + t.tops.length ≤ 16777216 := by omega
        simp [c10, line, e1, b1]
      · rw [List.length_append]; omega) ts [] .un ⟨fun t ht => ⟨ho t ht, hn t ht⟩, by simpa using hs⟩
  have ef : ∀ (us : List Tm) (acc : List (Tx × Nat)), us.foldl (fun acc t => acc ++ t.tops) acc = acc ++ us.flatMap Tm.tops := by
    intro us
    induction us with
    | nil => intro acc; simp
    | cons u us ih => intro acc; simp [ih]
  have el : ∀ us : List Tm, (us.flatMap Tm.tops).length ≤ szL us := by
    intro us
    induction us with
    | nil => simp
    | cons u us ih =>
      have := Tm.tops_len u
      rw [szL_cons, List.flatMap_cons, List.length_append]; omega
  rw [ef, List.nil_append] at e
  have e2 := once_ok (f := prE) (n := m) (xs := ts.flatMap Tm.tops) (st := st) prE_inj (fun p hp => by
    obtain ⟨t, ht, hp⟩ := List.mem_flatMap.mp hp
    exact Tm.tops_pl (ho t ht) p hp) (by have := el ts; omega)
  rw [cl, call_run (fn := ⟨1, 3, c10, none, false⟩) rfl rfl (by decide)]
  rw [show ([].map prE : List D) = [] from rfl] at e
  simp [c10, ex_for, line] at e ⊢
  rw [e]
  simp [e2, topsL]
theorem putinto_ok : ∀ (d : Nat) {t : Tm} {n : Nat} {σ : Sb} {st : Store}, t.dep ≤ d → t.ok = true → d + 1 ≤ n → cl n 17 [t.enc, .dct (sbK σ)] st = .ok (t.sub σ).enc st := by
  intro d
  induction d with
  | zero => intro t n σ st hd; have := t.dep_pos; omega
  | succ d ih =>
    intro t n σ st hd ho hn
    obtain ⟨m, rfl⟩ : ∃ m, n = m + 2 := ⟨n - 2, by omega⟩
    have e1 := isvar_ok (n := m) (t := t) (st := st) ho
    rw [cl, call_run (fn := ⟨2, 4, c17, none, false⟩) rfl rfl (by decide)]
    cases hv : t.isVar with
    | true =>
      cases t with
      | v x =>
        rw [hv] at e1
        simp only [Tm.enc] at e1 ⊢
        simp [c17, e1, look_sb, Tm.sub]
        cases sbLook σ x <;> rfl
      | _ => cases hv
    | false =>
      have e2 : ∀ q ∈ t.parts, ∀ st, cl (m + 1) 17 [q.enc, .dct (sbK σ)] st = .ok (q.sub σ).enc st := fun q hq st => ih (by have := Tm.parts_dep hq; omega) (Tm.parts_ok ho hq) (by omega)
      have e3 : ev (cl (m + 1)) (.lc 3 (.slc (.var 0) (.cst (.int 1)) .nil) .nil (.call 17 (.cons (.var 3) (.cons (.var 1) .nil)))) [.im t.enc, .im (.dct (sbK σ)), .un, .un] st = .ok (.lst (t.parts.map fun q => (q.sub σ).enc)) st := by
        refine ev_lc_from (ps := t.parts) (fx := Tm.enc) (s := .tup (t.parts.map Tm.enc)) (by rw [Tm.enc_eq]; simp) rfl fun q hq st => ?_
        have := e2 q hq st
        simp [this]
      have hl := t.parts_len
      have hb : t.parts.length + 1 ≤ 16777216 := by omega
      have hb2 : 1 + t.parts.length ≤ 16777216 := by omega
      rw [Tm.sub_parts hv]
      rw [Tm.enc_eq] at e1 e3 ⊢
      rw [hv] at e1
      simp [c17, e1, e3, hb, hb2, line]
def isoT : List (TyN × Bool) := match c25 with
  | .seq _ (.seq _ (.seq (.for_ _ _ (.seq (.set _ (.ite (.tst (.iso _ tb _)) _ _)) _)) _)) => tb
  | _ => []
theorem raw_val {n i : Nat} {x : D} {q : Tm} {ρ : PF.Env} {st : Store} (h : VOk n x q) (hs : slotD ρ i = some x) : ev (cl (n + 1)) (.ite (.tst (.iso "Term" isoT (.var i))) (.fld (.var i) "own_raw") (.call 15 (.cons (.var i) .nil))) ρ st = .ok q.enc st := by
  obtain ⟨ho, h⟩ := h
  rcases h with rfl | ⟨rfl, h1, h2⟩
  · have e1 : tyN st (inst q) = some (.o "Term") := rfl
    have e2 : isoT.lookup (.o "Term") = some true := by kernel_rfl
    have e3 : fldD st (inst q) "own_raw" = some q.enc := rfl
    simp [hs, e1, e2, e3]
  · have e := read_ok (n := n) (st := st) ho h1 h2
    have e1 : tyN st (.str q.text) = some (.b "str") := rfl
    have e2 : isoT.lookup (.b "str") = some false := by kernel_rfl
    simp [hs, e1, e2, e]
def hiB : S := match c25 with
  | .seq _ (.seq _ (.seq (.for_ _ _ b) _)) => b
  | _ => .skip
theorem enc_nn {t : Tm} : isD t.enc .non = some false := by cases t <;> rfl
theorem hi_loop {n : Nat} {k p : D} {st : Store} : ∀ (es : List (D × Tm)) (acc : List Tm) (z4 z5 : PF.Slot), (∀ e ∈ es, VOk n e.1 e.2) → acc.length + es.length ≤ 1000 →
    ∃ z4' z5', forO (fun x ρ st => (lift (setS ρ 4 x) st).bind fun ρ st => ex (cl (n + 1)) 1000000 hiB ρ st) (es.map (·.1)) [.oi "Head" [], .im k, .im p, .ol (acc.map Tm.enc), z4, z5] st = .ok (.next [.oi "Head" [], .im k, .im p, .ol ((acc ++ es.map (·.2)).map Tm.enc), z4', z5']) st
  | [], acc, z4, z5, _, _ => ⟨z4, z5, by simp [forO]⟩
  | e :: es, acc, z4, z5, h, hl => by
    have h1 := raw_val (i := 4) (ρ := [.oi "Head" [], .im k, .im p, .ol (acc.map Tm.enc), .im e.1, z5]) (st := st) (h e List.mem_cons_self) rfl
    obtain ⟨z4', z5', e2⟩ := hi_loop (k := k) (p := p) (st := st) es (acc ++ [e.2]) (.im e.1) (.im e.2.enc) (fun x hx => h x (List.mem_cons_of_mem _ hx)) (by simp at hl ⊢; omega)
    refine ⟨z4', z5', ?_⟩
    have b1 : acc.length < 16777216 := by simp at hl; omega
    have eb : ex (cl (n + 1)) 1000000 hiB [.oi "Head" [], .im k, .im p, .ol (acc.map Tm.enc), .im e.1, z5] st = .ok (.next [.oi "Head" [], .im k, .im p, .ol ((acc ++ [e.2]).map Tm.enc), .im e.1, .im e.2.enc]) st := by
      simp only [isoT, c25] at h1
      simp [hiB, c25, enc_nn, b1, line] at h1 ⊢
      rw [h1]
      simp [enc_nn, b1, line]
    rw [List.map_cons, forO]
    have es1 : setS [PF.Slot.oi "Head" [], .im k, .im p, .ol (acc.map Tm.enc), z4, z5] 4 e.1 = some [PF.Slot.oi "Head" [], .im k, .im p, .ol (acc.map Tm.enc), .im e.1, z5] := rfl
    rw [es1]
    simp only [lift_some, bind_ok, eb]
    rw [e2, List.append_assoc]
    rfl
theorem headinit_ok {n : Nat} {k : Tx} {es : List (D × Tm)} {st : Store} (hk : isN k = true) (h : ∀ e ∈ es, VOk n e.1 e.2) (h1 : es ≠ []) (h3 : es.length ≤ 3) : cl (n + 2) 25 [.str k, .tup (es.map (·.1))] st = .ok (hinst k (es.map (·.2))) st := by
  rw [cl, call_ini (fn := ⟨2, 5, c25, some "Head", false⟩) rfl rfl (by decide) rfl]
  have e1 := name_ok (n := n) (s := k) (st := st)
  obtain ⟨z4, z5, e2⟩ := hi_loop (n := n) (k := .str k) (p := .tup (es.map (·.1))) (st := st) es [] .un .un h (by simp; omega)
  have l1 : (1 : Int) ≤ es.length := by
    have : es.length ≠ 0 := fun z => h1 (List.length_eq_zero_iff.mp z)
    omega
  have l3 : (es.length : Int) ≤ 3 := by omega
  rw [show ([].map Tm.enc : List D) = [] from rfl, List.nil_append] at e2
  simp [c25, e1, hk, ex_for, hiB, line] at e2 ⊢
  rw [e2]
  have hne : ¬ (Str.ofString "task" = Str.ofString "own_raws") := by decide
  simp [l1, l3, sflS, putFD, iniK, hinst, hne]
theorem headof_ok {n d : Nat} {k : Tx} {ps : List Tm} {st : Store} (hk : isN k = true) (ho : ∀ q ∈ ps, q.ok = true) (hd : ∀ q ∈ ps, q.dep ≤ d) (h1 : ps ≠ []) (h3 : ps.length ≤ 3) (hn : d + 2 ≤ n) : cl (n + 1) 24 [.str k, encs ps] st = .ok (hinst k ps) st := by
  obtain ⟨m, rfl⟩ : ∃ m, n = m + 2 := ⟨n - 2, by omega⟩
  have e1 : ∀ q ∈ ps, ∀ st, cl (m + 2) 19 [q.enc] st = .ok (inst q) st := fun q hq st => termof_ok d (hd q hq) (ho q hq) (by omega)
  have e2 := headinit_ok (n := m) (k := k) (es := ps.map fun q => (inst q, q)) (st := st) hk (fun e he => by
    obtain ⟨q, hq, rfl⟩ := List.mem_map.mp he
    exact ⟨ho q hq, .inl rfl⟩) (by simpa using h1) (by rw [List.length_map]; exact h3)
  rw [List.map_map, List.map_map] at e2
  rw [cl, call_run (fn := ⟨2, 4, c24, none, false⟩) rfl rfl (by decide)]
  have e3 : ev (cl (m + 2)) (.lc 3 (.var 1) .nil (.call 19 (.cons (.var 3) .nil))) [.im (.str k), .im (encs ps), .un, .un] st = .ok (.lst (ps.map inst)) st := by
    refine ev_lc_from (ps := ps) (fx := Tm.enc) (s := encs ps) (by simp) rfl fun q hq st => ?_
    have := e1 q hq st
    simp [this]
  have hb : ps.length ≤ 16777216 := by omega
  have e4 : packD 1 (.str k :: ps.map inst) = some [.str k, .tup (ps.map inst)] := by
    unfold packD
    rw [if_pos ⟨by simp, by simp [line]; omega⟩]
    rfl
  have e5 : (cl (m + 2)) 25 [.str k, .tup (ps.map inst)] st = .ok (hinst k ps) st := by
    refine Eq.trans e2 ?_
    congr 2
    exact List.map_id' ps
  have e6 : insOf "Head" (hinst k ps) = some (hinst k ps) := rfl
  simp [c24, e3, hb, e4, e5, e6, line]
theorem rawhead_ok {n d : Nat} {k : Tx} {ps : List Tm} {st : Store} (hk : isN k = true) (ho : ∀ q ∈ ps, q.ok = true) (hd : ∀ q ∈ ps, q.dep ≤ d) (hs : szL ps ≤ 200) (h1 : ps ≠ []) (h3 : ps.length ≤ 3) (hn : 2 * d ≤ n) : cl (n + 2) 16 [.str (htext k ps)] st = .ok (.tup [.str k, encs ps]) st := by
  have hl := htext_len hk ho
  have hT : (htext k ps).length ≤ 900000 := by omega
  have hr : noL (restT true ps []) = true := by
    cases ps with
    | nil => exact absurd rfl h1
    | cons q qs => simp [restT, noL, letter, low, upp]
  have e1 := word_ok (n := n) (T := htext k ps) (w := k) (r := restT true ps []) (i := 0) (st := st) rfl (isN_all hk) hr hT
  have e2 := name_ok (n := n) (s := k) (st := st)
  have hdr : (htext k ps).drop k.length = restT true ps [] := by unfold htext; simp
  obtain ⟨j, e3, hj, hj2⟩ := parts_ok (n := n) (T := htext k ps) (r := []) (qs := ps) (i := k.length) (most := 3) (st := st) (fun q hq => term_ok (ho q hq) (by have := hd q hq; omega)) hdr (by omega) h1 (by omega) hT
  have hj3 : j = (htext k ps).length := drop_nil hj hj2
  have hc : ¬ (200 : Int) < Txt.count (tx (htext k ps)) (tx [40]) := by
    rw [count_one]
    have := rest_cnt (qs := ps) true ho
    have hk0 := cnt_letters (isN_all hk)
    unfold htext
    rw [PyProof.Rows.cnt_append, hk0]
    have hp : 1 ≤ ps.length := by
      have : ps.length ≠ 0 := fun z => h1 (List.length_eq_zero_iff.mp z)
      omega
    rw [if_pos rfl] at this
    omega
  rw [cl, call_run (fn := ⟨1, 3, c16, none, false⟩) rfl rfl (by decide)]
  have hb : k.length ≤ 16777216 := by have := isN_len hk; omega
  simp only [Int.natCast_zero] at e1
  have e3 : cl (n + 1) 13 [.str (htext k ps), .int (k.length : Nat), .int 3] st = .ok (.tup [encs ps, .int (j : Nat)]) st := e3
  simp [c16, e1, e2, e3, hk, hc, hj3, kit_str, line]
end Lw
namespace Lw
open PySem L2 PF TL
theorem lisvar_ok {n : Nat} {t : Tm} {st : Store} (h : t.ok = true) : cl (n + 1) 43 [t.enc] st = .ok (.bl t.isVar) st := by
  rw [cl, call_run (fn := ⟨1, 1, c43, none, false⟩) rfl rfl (by decide)]
  have hL : LOW.length ≤ line := by decide
  unfold LOW at hL
  rw [← Tm.top_var h]
  have key : ∀ (k : Tx) (ps : List D), k ≠ [] → finK false (ex (call Fs 1000000 n) 1000000 c43 [.im (.tup (.str k :: ps))] st) = .ok (.bl (isV k)) st := by
    intro k ps hk
    cases k with
    | nil => exact absurd rfl hk
    | cons c r => simp [-List.mem_cons, c43, isV, low, line]
  have hl := Tm.top_len h
  cases t with
  | v x => exact key x [] (by intro z; subst z; simp [Tm.top] at hl)
  | c0 k => exact key k [] (by intro z; subst z; simp [Tm.top] at hl)
  | c1 k a => exact key k [a.enc] (by intro z; subst z; simp [Tm.top] at hl)
  | c2 k a b => exact key k [a.enc, b.enc] (by intro z; subst z; simp [Tm.top] at hl)
theorem ltext_ok : ∀ {t : Tm} {n : Nat} {st : Store}, t.ok = true → t.sz ≤ 10000 → t.dep ≤ n → cl n 42 [t.enc] st = .ok (.str t.text) st := by
  intro t
  induction t with
  | v x =>
    intro n st ho hs hn
    obtain ⟨m, rfl⟩ : ∃ m, n = m + 1 := ⟨n - 1, by simp [Tm.dep] at hn; omega⟩
    rw [cl, call_run (fn := ⟨1, 2, c42, none, false⟩) rfl rfl (by decide)]
    simp [c42, Tm.enc, Tm.text]
  | c0 k =>
    intro n st ho hs hn
    obtain ⟨m, rfl⟩ : ∃ m, n = m + 1 := ⟨n - 1, by simp [Tm.dep] at hn; omega⟩
    rw [cl, call_run (fn := ⟨1, 2, c42, none, false⟩) rfl rfl (by decide)]
    simp [c42, Tm.enc, Tm.text]
  | c1 k a iha =>
    intro n st ho hs hn
    have hl := Tm.text_len ho
    obtain ⟨m, rfl⟩ : ∃ m, n = m + 1 := ⟨n - 1, by simp [Tm.dep] at hn; omega⟩
    simp [Tm.dep] at hn
    have ho2 := (Bool.and_eq_true_iff.mp ho).2
    have hs2 : a.sz ≤ 10000 := by simp [Tm.sz, Tm.names] at hs ⊢; omega
    have e1 := fun st => iha (n := m) (st := st) ho2 hs2 hn
    rw [cl, call_run (fn := ⟨1, 2, c42, none, false⟩) rfl rfl (by decide)]
    have e2 := ev_lc_map (C := call Fs 1000000 m) (ρ := [.im (Tm.c1 k a).enc, .un]) (st := st) (st1 := st) (j := 1) (src := .slc (.var 0) (.cst (.int 1)) .nil) (e := .call 42 (.cons (.var 1) .nil)) (s := .tup [a.enc]) (xs := [a.enc]) (g := fun _ => .str a.text) (by simp [Tm.enc]) rfl (by
      intro x hx st
      rw [List.mem_singleton] at hx
      subst hx
      simp [e1])
    simp [Tm.text, Tm.sz, Tm.names] at hl hs
    simp [Tm.enc] at e2
    have b1 : k.length + 1 ≤ 16777216 := by omega
    have b2 : a.text.length ≤ 16777216 := by omega
    have b3 : k.length + 1 + a.text.length ≤ 16777216 := by omega
    have b4 : k.length + (1 + a.text.length) + 1 ≤ 16777216 := by omega
    have b5 : a.text.length + 1 ≤ 16777216 := by omega
    have b6 : k.length + (a.text.length + 1) + 1 ≤ 16777216 := by omega
    have b7 : k.length + 1 + (a.text.length) + 1 ≤ 16777216 := by omega
    simp [c42, Tm.enc, Tm.text, e2, textsOf, joinT, line, b1, b2, b3, b4, b5, b6, b7]
  | c2 k a b iha ihb =>
    intro n st ho hs hn
    have hl := Tm.text_len ho
    obtain ⟨m, rfl⟩ : ∃ m, n = m + 1 := ⟨n - 1, by simp [Tm.dep] at hn; omega⟩
    simp [Tm.dep] at hn
    have ho2 := Bool.and_eq_true_iff.mp (Bool.and_eq_true_iff.mp ho).2
    have hs2 : a.sz ≤ 10000 ∧ b.sz ≤ 10000 := by simp [Tm.sz, Tm.names] at hs ⊢; omega
    have e1 := fun st => iha (n := m) (st := st) ho2.1 hs2.1 (by omega)
    have e1' := fun st => ihb (n := m) (st := st) ho2.2 hs2.2 (by omega)
    rw [cl, call_run (fn := ⟨1, 2, c42, none, false⟩) rfl rfl (by decide)]
    have e2 : ev (call Fs 1000000 m) (.lc 1 (.slc (.var 0) (.cst (.int 1)) .nil) .nil (.call 42 (.cons (.var 1) .nil))) [.im (Tm.c2 k a b).enc, .un] st = .ok (.lst [.str a.text, .str b.text]) st := by
      simp [ev_lc, Tm.enc, mapO, lcF_nil, e1, e1']
    simp [Tm.text, Tm.sz, Tm.names] at hl hs
    simp [Tm.enc] at e2
    have b1 : k.length + 1 ≤ 16777216 := by omega
    have b2 : a.text.length + b.text.length + 2 ≤ 16777216 := by omega
    have b3 : k.length + 1 + (a.text.length + (b.text.length + 1)) ≤ 16777216 := by omega
    have b4 : k.length + (a.text.length + (b.text.length + 1) + 1) + 1 ≤ 16777216 := by omega
    simp [c42, Tm.enc, Tm.text, e2, textsOf, joinT, line, b1, b2, b3, b4]
theorem lnames_ok : ∀ {t : Tm} {n : Nat} {st : Store}, t.sz ≤ 10000 → t.dep ≤ n → cl n 44 [t.enc] st = .ok (strL t.names) st := by
  intro t
  induction t with
  | v x =>
    intro n st hs hn
    obtain ⟨m, rfl⟩ : ∃ m, n = m + 1 := ⟨n - 1, by simp [Tm.dep] at hn; omega⟩
    rw [cl, call_run (fn := ⟨1, 3, c44, none, false⟩) rfl rfl (by decide)]
    simp [c44, Tm.enc, Tm.names, strL, line, ex_for, forO]
  | c0 k =>
    intro n st hs hn
    obtain ⟨m, rfl⟩ : ∃ m, n = m + 1 := ⟨n - 1, by simp [Tm.dep] at hn; omega⟩
    rw [cl, call_run (fn := ⟨1, 3, c44, none, false⟩) rfl rfl (by decide)]
    simp [c44, Tm.enc, Tm.names, strL, line, ex_for, forO]
  | c1 k a iha =>
    intro n st hs hn
    obtain ⟨m, rfl⟩ : ∃ m, n = m + 1 := ⟨n - 1, by simp [Tm.dep] at hn; omega⟩
    simp [Tm.dep] at hn
    have ha : a.names.length + 1 ≤ 10000 := by simpa [Tm.sz, Tm.names] using hs
    have e1 := fun st => iha (n := m) (st := st) (by unfold Tm.sz; omega) hn
    rw [cl, call_run (fn := ⟨1, 3, c44, none, false⟩) rfl rfl (by decide)]
    have b1 : 1 + a.names.length ≤ 16777216 := by omega
    simp [c44, Tm.enc, Tm.names, strL, line, ex_for, forO, e1, b1]
  | c2 k a b iha ihb =>
    intro n st hs hn
    obtain ⟨m, rfl⟩ : ∃ m, n = m + 1 := ⟨n - 1, by simp [Tm.dep] at hn; omega⟩
    simp [Tm.dep] at hn
    have ha : a.names.length + b.names.length + 1 ≤ 10000 := by simpa [Tm.sz, Tm.names] using hs
    have e1 := fun st => iha (n := m) (st := st) (by unfold Tm.sz; omega) (by omega)
    have e2 := fun st => ihb (n := m) (st := st) (by unfold Tm.sz; omega) (by omega)
    rw [cl, call_run (fn := ⟨1, 3, c44, none, false⟩) rfl rfl (by decide)]
    have b1 : 1 + a.names.length ≤ 16777216 := by omega
    have b2 : a.names.length + 1 + b.names.length ≤ 16777216 := by omega
    simp [c44, Tm.enc, Tm.names, strL, line, ex_for, forO, e1, e2, b1, b2]
theorem ldepth_ok : ∀ {t : Tm} {n : Nat} {st : Store}, t.dep ≤ n → cl n 50 [t.enc] st = .ok (.int t.dep) st := by
  intro t
  induction t with
  | v x =>
    intro n st hn
    obtain ⟨m, rfl⟩ : ∃ m, n = m + 1 := ⟨n - 1, by simp [Tm.dep] at hn; omega⟩
    rw [cl, call_run (fn := ⟨1, 3, c50, none, false⟩) rfl rfl (by decide)]
    simp [c50, Tm.enc, Tm.dep, line, ex_for, forO]
  | c0 k =>
    intro n st hn
    obtain ⟨m, rfl⟩ : ∃ m, n = m + 1 := ⟨n - 1, by simp [Tm.dep] at hn; omega⟩
    rw [cl, call_run (fn := ⟨1, 3, c50, none, false⟩) rfl rfl (by decide)]
    simp [c50, Tm.enc, Tm.dep, line, ex_for, forO]
  | c1 k a iha =>
    intro n st hn
    obtain ⟨m, rfl⟩ : ∃ m, n = m + 1 := ⟨n - 1, by simp [Tm.dep] at hn; omega⟩
    simp [Tm.dep] at hn
    have e1 := fun st => iha (n := m) (st := st) hn
    have hp : 0 < a.dep := by have := a.dep_pos; omega
    have hp2 : (0 : Int) < a.dep := by omega
    rw [cl, call_run (fn := ⟨1, 3, c50, none, false⟩) rfl rfl (by decide)]
    simp [c50, Tm.enc, Tm.dep, line, ex_for, forO, e1, hp, hp2]
  | c2 k a b iha ihb =>
    intro n st hn
    obtain ⟨m, rfl⟩ : ∃ m, n = m + 1 := ⟨n - 1, by simp [Tm.dep] at hn; omega⟩
    simp [Tm.dep] at hn
    have e1 := fun st => iha (n := m) (st := st) (by omega)
    have e2 := fun st => ihb (n := m) (st := st) (by omega)
    have hp : 0 < a.dep := by have := a.dep_pos; omega
    have hp2 : (0 : Int) < a.dep := by omega
    rw [cl, call_run (fn := ⟨1, 3, c50, none, false⟩) rfl rfl (by decide)]
    by_cases hab : (a.dep : Int) < b.dep
    · have : max a.dep b.dep = b.dep := by omega
      simp [c50, Tm.enc, Tm.dep, line, ex_for, forO, e1, e2, hp, hp2, hab, this]
    · have : max a.dep b.dep = a.dep := by omega
      simp [c50, Tm.enc, Tm.dep, line, ex_for, forO, e1, e2, hp, hp2, hab, this]
theorem lvars_ok {t : Tm} {n : Nat} {st : Store} (ho : t.ok = true) (hs : t.sz ≤ 5000) (hn : t.dep ≤ n) : cl (n + 1) 45 [.lst [t.enc]] st = .ok (strL t.vars) st := by
  have e1 := fun st => lnames_ok (n := n) (t := t) (st := st) (by omega) hn
  have hL : LOW.length ≤ line := by decide
  unfold LOW at hL
  have hl : t.names.length ≤ 5000 := hs
  obtain ⟨z', e⟩ := forO_fold (f := fun x ρ st => (lift (setS ρ 3 x) st).bind fun ρ st => ex (cl n) 1000000 (match c45 with | .seq _ (.seq (.for_ _ _ (.seq (.for_ _ _ b) _)) _) => b | _ => .skip) ρ st) strE (fun acc z => [.im (.lst [t.enc]), .ol (acc.map strE), .im t.enc, z]) (fun acc x => if isV x = true ∧ x ∉ acc then acc ++ [x] else acc)
    (fun acc rest => (∀ a ∈ acc, pl false 3 (strE a) = true) ∧ (∀ a ∈ rest, a ≠ [] ∧ pl false 3 (strE a) = true) ∧ acc.length + rest.length ≤ 5000) (st := st) (fun acc x rest z h => by
      obtain ⟨h1, h2, h3⟩ := h
      obtain ⟨hx0, hx1⟩ := h2 x (List.mem_cons_self ..)
      have ei := inD_dec (A := acc) strE_inj hx1 h1
      have hb : acc.length < 16777216 := by simp at h3; omega
      cases x with
      | nil => exact absurd rfl hx0
      | cons c r =>
        cases hv : low c with
        | false =>
          have hv' := hv
          unfold low at hv'
          have hc := of_decide_eq_false hv'
          have hs : (if isV (c :: r) = true ∧ (c :: r) ∉ acc then acc ++ [c :: r] else acc) = acc := by rw [if_neg (by simp [isV, hv])]
          rw [hs]
          refine ⟨⟨.im (.str (c :: r)), ?_⟩, h1, fun a ha => h2 a (List.mem_cons_of_mem _ ha), by simp at h3; omega⟩
          simp [-List.mem_cons, c45, strE, hc, line]
        | true =>
          have hv' := hv
          unfold low at hv'
          have hc := of_decide_eq_true hv'
          by_cases hx : (c :: r) ∈ acc
          · have hs : (if isV (c :: r) = true ∧ (c :: r) ∉ acc then acc ++ [c :: r] else acc) = acc := by rw [if_neg (by simp [hx])]
            rw [hs]
            refine ⟨⟨.im (.str (c :: r)), ?_⟩, h1, fun a ha => h2 a (List.mem_cons_of_mem _ ha), by simp at h3; omega⟩
            have ei2 : inD (.str (c :: r)) (.lst (acc.map strE)) = some true := ei.trans (by simp [hx])
            simp [-List.mem_cons, c45, strE, hc, line] at ei2 ⊢
            simp [ei2]
          · have hs : (if isV (c :: r) = true ∧ (c :: r) ∉ acc then acc ++ [c :: r] else acc) = acc ++ [c :: r] := by rw [if_pos ⟨hv, hx⟩]
            rw [hs]
            refine ⟨⟨.im (.str (c :: r)), ?_⟩, ?_, fun a ha => h2 a (List.mem_cons_of_mem _ ha), by simp at h3 ⊢; omega⟩
            · have ei2 : inD (.str (c :: r)) (.lst (acc.map strE)) = some false := ei.trans (by simp [hx])
              simp [-List.mem_cons, c45, strE, hc, hb, line] at ei2 ⊢
              simp [ei2, hb]
            · intro a ha
              rcases List.mem_append.mp ha with ha | ha
              · exact h1 a ha
              · rw [List.mem_singleton] at ha
                subst ha
                exact hx1) t.names [] .un ⟨by simp, fun a ha => ⟨(Tm.names_ok ho a ha).1, letter_ok (Tm.names_ok ho a ha).2⟩, by simpa using hl⟩
  rw [once_fold0] at e
  rw [cl, call_run (fn := ⟨1, 4, c45, none, false⟩) rfl rfl (by decide)]
  rw [show ([].map strE : List D) = [] from rfl] at e
  have hb : t.names.length ≤ 16777216 := by omega
  simp [c45, ex_for, forO, e1, hb, strL, line] at e ⊢
  unfold strE at e
  rw [e]
  simp [Tm.vars]
end Lw
namespace Lw
open PySem L2 PF TL
theorem lcons_ok : ∀ {t : Tm} {n : Nat} {st : Store}, t.ok = true → t.sz ≤ 5000 → t.dep + 1 ≤ n → cl n 51 [t.enc] st = .ok (.lst ((Tm.onceL t.tops).map prE)) st := by
  intro t
  induction t with
  | v x =>
    intro n st ho hs hn
    obtain ⟨m, rfl⟩ : ∃ m, n = m + 2 := ⟨n - 2, by simp [Tm.dep] at hn; omega⟩
    have e := lisvar_ok (n := m) (t := .v x) (st := st) ho
    rw [cl, call_run (fn := ⟨1, 4, c51, none, false⟩) rfl rfl (by decide)]
    simp [Tm.enc] at e
    simp [c51, Tm.enc, e, Tm.isVar, Tm.tops, Tm.onceL, ex_for, forO, line]
  | c0 k =>
    intro n st ho hs hn
    obtain ⟨m, rfl⟩ : ∃ m, n = m + 2 := ⟨n - 2, by simp [Tm.dep] at hn; omega⟩
    have e := lisvar_ok (n := m) (t := .c0 k) (st := st) ho
    rw [cl, call_run (fn := ⟨1, 4, c51, none, false⟩) rfl rfl (by decide)]
    simp [Tm.enc] at e
    simp [c51, Tm.enc, e, Tm.isVar, Tm.tops, Tm.onceL, prE, ex_for, forO, line]
  | c1 k a iha =>
    intro n st ho hs hn
    obtain ⟨m, rfl⟩ : ∃ m, n = m + 2 := ⟨n - 2, by simp [Tm.dep] at hn; omega⟩
    have e := lisvar_ok (n := m) (t := .c1 k a) (st := st) ho
    obtain ⟨h1, h2⟩ := Bool.and_eq_true_iff.mp ho
    simp [Tm.dep] at hn
    have ha : a.names.length + 1 ≤ 5000 := by simpa [Tm.sz, Tm.names] using hs
    have e1 := iha (n := m + 1) (st := st) h2 (by unfold Tm.sz; omega) (by omega)
    have ht := Tm.tops_len a
    unfold Tm.sz at ht
    have hol := once_len a.tops
    have hpl := Tm.tops_pl ho
    have hpa : ∀ p ∈ Tm.onceL a.tops, pl false 3 (prE p) = true := fun p hp => by
      rcases once_mem a.tops [] hp with z | z
      · cases z
      · exact Tm.tops_pl h2 p z
    have e2 := lc_new prE_inj (C := cl (m + 1)) (A := [(k, 1)]) (x0 := .im (.tup [.str k, a.enc])) (x3 := .un) e1 (by
      intro p hp
      rw [List.mem_singleton] at hp
      subst hp
      exact prE_pl (isC_all h1)) hpa
    have hf := newL_len [(k, 1)] (Tm.onceL a.tops)
    have er : Tm.onceL (Tm.tops (.c1 k a)) = [(k, 1)] ++ newL [(k, 1)] (Tm.onceL a.tops) := onceL_one _ _
    rw [er]
    generalize newL [(k, 1)] (Tm.onceL a.tops) = B at *
    have b1 : 1 + B.length ≤ 16777216 := by omega
    have b2 : B.length + 1 ≤ 16777216 := by omega
    rw [cl, call_run (fn := ⟨1, 4, c51, none, false⟩) rfl rfl (by decide)]
    simp [Tm.enc] at e
    simp only [List.map_cons, List.map_nil, prE, Int.natCast_one, Int.cast_ofNat_Int] at e2
    unfold c51
    simp [Tm.enc, e, ex_for, forO, prE, e2, b1, b2, Tm.isVar, line]
  | c2 k a b iha ihb =>
    intro n st ho hs hn
    obtain ⟨m, rfl⟩ : ∃ m, n = m + 2 := ⟨n - 2, by simp [Tm.dep] at hn; omega⟩
    have e := lisvar_ok (n := m) (t := .c2 k a b) (st := st) ho
    obtain ⟨h1, h2⟩ := Bool.and_eq_true_iff.mp ho
    obtain ⟨h3, h4⟩ := Bool.and_eq_true_iff.mp h2
    simp [Tm.dep] at hn
    have ha : a.names.length + b.names.length + 1 ≤ 5000 := by simpa [Tm.sz, Tm.names] using hs
    have e1 := iha (n := m + 1) (st := st) h3 (by unfold Tm.sz; omega) (by omega)
    have e1b := ihb (n := m + 1) (st := st) h4 (by unfold Tm.sz; omega) (by omega)
    have ht := Tm.tops_len a
    have htb := Tm.tops_len b
    unfold Tm.sz at ht htb
    have hol := once_len a.tops
    have holb := once_len b.tops
    have hp0 : ∀ p ∈ [(k, 2)], pl false 3 (prE p) = true := by
      intro p hp
      rw [List.mem_singleton] at hp
      subst hp
      exact prE_pl (isC_all h1)
    have hpa : ∀ p ∈ Tm.onceL a.tops, pl false 3 (prE p) = true := fun p hp => by
      rcases once_mem a.tops [] hp with z | z
      · cases z
      · exact Tm.tops_pl h3 p z
    have hpb : ∀ p ∈ Tm.onceL b.tops, pl false 3 (prE p) = true := fun p hp => by
      rcases once_mem b.tops [] hp with z | z
      · cases z
      · exact Tm.tops_pl h4 p z
    have e2 := lc_new prE_inj (C := cl (m + 1)) (A := [(k, 2)]) (x0 := .im (.tup [.str k, a.enc, b.enc])) (x3 := .un) e1 hp0 hpa
    have e3 := lc_new prE_inj (C := cl (m + 1)) (A := [(k, 2)] ++ newL [(k, 2)] (Tm.onceL a.tops)) (x0 := .im (.tup [.str k, a.enc, b.enc])) (x3 := .un) e1b (by
      intro p hp
      rcases List.mem_append.mp hp with hp | hp
      · exact hp0 p hp
      · exact hpa p (newL_sub hp)) hpb
    have hf := newL_len [(k, 2)] (Tm.onceL a.tops)
    have er : Tm.onceL (Tm.tops (.c2 k a b)) = ([(k, 2)] ++ newL [(k, 2)] (Tm.onceL a.tops)) ++ newL ([(k, 2)] ++ newL [(k, 2)] (Tm.onceL a.tops)) (Tm.onceL b.tops) := onceL_two _ _ _
    have hg := newL_len ([(k, 2)] ++ newL [(k, 2)] (Tm.onceL a.tops)) (Tm.onceL b.tops)
    rw [er]
    generalize newL ([(k, 2)] ++ newL [(k, 2)] (Tm.onceL a.tops)) (Tm.onceL b.tops) = B2 at *
    generalize newL [(k, 2)] (Tm.onceL a.tops) = B at *
    have b1 : 1 + B.length ≤ 16777216 := by omega
    have b2 : B.length + 1 ≤ 16777216 := by omega
    have b3 : B.length + 1 + B2.length ≤ 16777216 := by omega
    rw [cl, call_run (fn := ⟨1, 4, c51, none, false⟩) rfl rfl (by decide)]
    simp [Tm.enc] at e
    simp only [List.map_cons, List.map_nil, List.map_append, List.cons_append, List.nil_append, prE, Int.natCast_one, Int.cast_ofNat_Int] at e2 e3
    unfold c51
    simp [Tm.enc, e, ex_for, forO, prE, e2, e3, b1, b2, b3, Tm.isVar, line]
end Lw
namespace Lw
open PySem L2 PF TL
theorem sz_two {d x y : Nat} (h1 : x + 1 ≤ 2 ^ (d + 1)) (h2 : y + 1 ≤ 2 ^ (d + 1)) : x + y + 1 + 1 ≤ 2 ^ (d + 1 + 1) := by
  rw [Nat.pow_succ 2 (d + 1)]
  omega
theorem plan_ok : ∀ (d : Nat) {n a : Nat} {st : Store}, PoolAt st a → d + 3 ≤ n → ∃ (t : Tm) (st' : Store), cl n 41 [.ref a, .int ((d : Int) + 1)] st = .ok t.enc st' ∧ t.ok = true ∧ t.dep ≤ d + 1 ∧ t.sz + 1 ≤ 2 ^ (d + 1) ∧ PoolAt st' a := by
  intro d
  induction d with
  | zero =>
    intro n a st h hn
    obtain ⟨m, rfl⟩ : ∃ m, n = m + 3 := ⟨n - 3, by omega⟩
    obtain ⟨k, st1, e1, d0, d1, p1⟩ := lawdraw_ok (n := m + 1) (m := 7) h (by decide) (by decide)
    by_cases hk : k < 2
    · obtain ⟨x, st2, e2, hx, p2⟩ := lawpick_ok (n := m) (xs := [.str [120], .str [121], .str [122, 122]]) p1 (by decide) (by decide)
      obtain ⟨w, hw, ho⟩ : ∃ w, x = .str w ∧ isN w = true := by
        simp at hx
        rcases hx with rfl | rfl | rfl <;> exact ⟨_, rfl, by decide⟩
      subst hw
      refine ⟨.v w, st2, ?_, ho, by simp [Tm.dep], by simp [Tm.sz, Tm.names], p2⟩
      rw [cl, call_run (fn := ⟨2, 3, c41, none, false⟩) rfl rfl (by decide)]
      simp [c41, e1, hk, e2, Tm.enc, line]
    · obtain ⟨x, st2, e2, hx, p2⟩ := lawpick_ok (n := m) (xs := [.str [73, 110, 116], .str [75]]) p1 (by decide) (by decide)
      obtain ⟨w, hw, ho⟩ : ∃ w, x = .str w ∧ isC w = true := by
        simp at hx
        rcases hx with rfl | rfl <;> exact ⟨_, rfl, by decide⟩
      subst hw
      refine ⟨.c0 w, st2, ?_, ho, by simp [Tm.dep], by simp [Tm.sz, Tm.names], p2⟩
      rw [cl, call_run (fn := ⟨2, 3, c41, none, false⟩) rfl rfl (by decide)]
      simp [c41, e1, hk, e2, Tm.enc, line]
  | succ d ih =>
    intro n a st h hn
    obtain ⟨m, rfl⟩ : ∃ m, n = m + 3 := ⟨n - 3, by omega⟩
    obtain ⟨k, st1, e1, d0, d1, p1⟩ := lawdraw_ok (n := m + 1) (m := 7) h (by decide) (by decide)
    have hd : ¬ ((d : Int) + 1 + 1 < 2) := by omega
    have hp1 : 1 ≤ 2 ^ (d + 1) := Nat.one_le_two_pow
    have hp2 : 2 ^ (d + 1 + 1) = 2 ^ (d + 1) * 2 := Nat.pow_succ ..
    by_cases hk : k < 2
    · obtain ⟨x, st2, e2, hx, p2⟩ := lawpick_ok (n := m) (xs := [.str [120], .str [121], .str [122, 122]]) p1 (by decide) (by decide)
      obtain ⟨w, hw, ho⟩ : ∃ w, x = .str w ∧ isN w = true := by
        simp at hx
        rcases hx with rfl | rfl | rfl <;> exact ⟨_, rfl, by decide⟩
      subst hw
      refine ⟨.v w, st2, ?_, ho, by simp [Tm.dep], by simp [Tm.sz, Tm.names]; omega, p2⟩
      rw [cl, call_run (fn := ⟨2, 3, c41, none, false⟩) rfl rfl (by decide)]
      simp [c41, e1, hk, e2, Tm.enc, line]
    · by_cases hk2 : k = 2
      · obtain ⟨x, st2, e2, hx, p2⟩ := lawpick_ok (n := m) (xs := [.str [73, 110, 116], .str [75]]) p1 (by decide) (by decide)
        obtain ⟨w, hw, ho⟩ : ∃ w, x = .str w ∧ isC w = true := by
          simp at hx
          rcases hx with rfl | rfl <;> exact ⟨_, rfl, by decide⟩
        subst hw
        refine ⟨.c0 w, st2, ?_, ho, by simp [Tm.dep], by simp [Tm.sz, Tm.names]; omega, p2⟩
        subst hk2
        rw [cl, call_run (fn := ⟨2, 3, c41, none, false⟩) rfl rfl (by decide)]
        simp [c41, e1, e2, Tm.enc, line]
      · by_cases hk5 : k < 5
        · obtain ⟨x, st2, e2, hx, p2⟩ := lawpick_ok (n := m) (xs := [.str [76, 105, 115, 116], .str [87]]) p1 (by decide) (by decide)
          obtain ⟨w, hw, ho⟩ : ∃ w, x = .str w ∧ isC w = true := by
            simp at hx
            rcases hx with rfl | rfl <;> exact ⟨_, rfl, by decide⟩
          subst hw
          obtain ⟨q, st3, e3, o3, d3, s3, p3⟩ := ih (n := m + 2) p2 (by omega)
          refine ⟨.c1 w q, st3, ?_, ?_, by simp [Tm.dep]; omega, by simp [Tm.sz, Tm.names] at s3 ⊢; omega, p3⟩
          · rw [cl, call_run (fn := ⟨2, 3, c41, none, false⟩) rfl rfl (by decide)]
            simp [c41, e1, hk, hk2, hd, hk5, e2, e3, Tm.enc, line]
          · show (isC w && q.ok) = true
            rw [ho, o3]
            rfl
        · obtain ⟨x, st2, e2, hx, p2⟩ := lawpick_ok (n := m) (xs := [.str [80, 97, 105, 114], .str [80]]) p1 (by decide) (by decide)
          obtain ⟨w, hw, ho⟩ : ∃ w, x = .str w ∧ isC w = true := by
            simp at hx
            rcases hx with rfl | rfl <;> exact ⟨_, rfl, by decide⟩
          subst hw
          obtain ⟨q, st3, e3, o3, d3, s3, p3⟩ := ih (n := m + 2) p2 (by omega)
          obtain ⟨r, st4, e4, o4, d4, s4, p4⟩ := ih (n := m + 2) p3 (by omega)
          refine ⟨.c2 w q r, st4, ?_, ?_, by simp [Tm.dep]; omega, by simp [Tm.sz, Tm.names] at s3 s4 ⊢; omega, p4⟩
          · rw [cl, call_run (fn := ⟨2, 3, c41, none, false⟩) rfl rfl (by decide)]
            simp [c41, e1, hk, hk2, hd, hk5, e2, e3, e4, Tm.enc, line]
          · show (isC w && (q.ok && r.ok)) = true
            rw [ho, o3, o4]
            rfl
theorem ins_str {st : Store} {t : Tm} : insD st "Term" "__str__" (inst t) = true := by kernel_rfl
theorem ins_len {st : Store} {t : Tm} : insD st "Term" "__len__" (inst t) = true := by kernel_rfl
theorem ins_get {st : Store} {t : Tm} : insD st "Term" "__getitem__" (inst t) = true := by kernel_rfl
theorem ins_has {st : Store} {t : Tm} : insD st "Term" "__contains__" (inst t) = true := by kernel_rfl
theorem ins_eq {st : Store} {t : Tm} : insD st "Term" "__eq__" (inst t) = true := by kernel_rfl
theorem ins_parts {st : Store} {t : Tm} : insD st "Term" "parts" (inst t) = true := by kernel_rfl
theorem ins_vars {st : Store} {t : Tm} : insD st "Term" "variables" (inst t) = true := by kernel_rfl
theorem ins_cons {st : Store} {t : Tm} : insD st "Term" "constructors" (inst t) = true := by kernel_rfl
theorem ins_depth {st : Store} {t : Tm} : insD st "Term" "depth" (inst t) = true := by kernel_rfl
theorem ins_top {st : Store} {t : Tm} : insD st "Term" "top" (inst t) = true := by kernel_rfl
theorem ins_closed {st : Store} {t : Tm} : insD st "Term" "is_closed" (inst t) = true := by kernel_rfl
theorem ins_isvar {st : Store} {t : Tm} : insD st "Term" "is_variable" (inst t) = true := by kernel_rfl
theorem text_pl : ∀ {t : Tm}, t.ok = true → (t.text.all fun c => decide (c < 0x110000)) = true
  | .v x, h => letter_ok (isN_all h)
  | .c0 k, h => letter_ok (isC_all h)
  | .c1 k a, h => by
    obtain ⟨h1, h2⟩ := Bool.and_eq_true_iff.mp h
    have e1 := letter_ok (isC_all h1)
    have e2 := text_pl h2
    simp only [Tm.text, List.all_append, e1, e2]
    decide
  | .c2 k a b, h => by
    obtain ⟨h1, h2⟩ := Bool.and_eq_true_iff.mp h
    obtain ⟨h3, h4⟩ := Bool.and_eq_true_iff.mp h2
    have e1 := letter_ok (isC_all h1)
    have e2 := text_pl h3
    have e3 := text_pl h4
    simp only [Tm.text, List.all_append, e1, e2, e3]
    decide
theorem top_pl {t : Tm} (ho : t.ok = true) : (t.top.all fun c => decide (c < 0x110000)) = true := by
  rcases Tm.top_case ho with ⟨h, _⟩ | h
  · exact letter_ok (isN_all h)
  · exact letter_ok (isC_all h)
/-- texts of the parts -/
def ptx (t : Tm) : D := .lst (t.parts.map fun q => .str q.text)
theorem ptx_eq {t : Tm} (ho : t.ok = true) : deq (ptx t) (ptx t) = some true := by
  refine deq_self (b := false) (n := 1) ?_ (by decide)
  show ((t.parts.map fun q => D.str q.text).all (pl false 0)) = true
  rw [List.all_eq_true]
  intro d hd
  obtain ⟨q, hq, rfl⟩ := List.mem_map.mp hd
  exact text_pl (Tm.parts_ok ho hq)
theorem strL_eq {xs : List Tx} (h : ∀ x ∈ xs, x.all letter = true) : deq (strL xs) (strL xs) = some true := by
  refine deq_self (b := false) (n := 1) ?_ (by decide)
  show ((xs.map D.str).all (pl false 0)) = true
  rw [List.all_eq_true]
  intro d hd
  obtain ⟨q, hq, rfl⟩ := List.mem_map.mp hd
  exact letter_ok (h q hq)
theorem prs_eq {xs : List (Tx × Nat)} (h : ∀ x ∈ xs, pl false 3 (prE x) = true) : deq (.lst (xs.map prE)) (.lst (xs.map prE)) = some true := by
  refine deq_self (b := false) (n := 4) ?_ (by decide)
  show ((xs.map prE).all (pl false 3)) = true
  rw [List.all_eq_true]
  intro d hd
  obtain ⟨q, hq, rfl⟩ := List.mem_map.mp hd
  exact h q hq
theorem head_eq {t : Tm} (ho : t.ok = true) {i j : Int} : deq (.lst [.str t.text, .int i, .int j, .str t.top]) (.lst [.str t.text, .int i, .int j, .str t.top]) = some true := by
  refine deq_self (b := false) (n := 1) ?_ (by decide)
  have e1 := text_pl ho
  have e2 := top_pl ho
  simp only [pl, List.all_cons, List.all_nil, e1, e2]
  rfl
/-- words, and a thing that is none -/
def WS : List (Option Tx) := [some [120], some [121], some [122, 122], some [73, 110, 116], some [76, 105, 115, 116], some [80, 97, 105, 114], some [81], none]
def wE : Option Tx → D
  | some w => .str w
  | none => .int 1
def wQ : List Tx → Option Tx → D
  | xs, some w => .bl (decide (w ∈ xs))
  | _, none => .bl false
theorem ws_letters {w : Tx} (h : some w ∈ WS) : w.all letter = true := by
  simp [WS] at h
  rcases h with rfl | rfl | rfl | rfl | rfl | rfl | rfl <;> decide
theorem wB_eq {xs : List Tx} : deq (.lst (WS.map (wQ xs))) (.lst (WS.map (wQ xs))) = some true := by
  refine deq_self (b := true) (n := 1) ?_ (by decide)
  show ((WS.map (wQ xs)).all (pl true 0)) = true
  rw [List.all_eq_true]
  intro d hd
  obtain ⟨q, hq, rfl⟩ := List.mem_map.mp hd
  cases q <;> rfl
theorem in_names {xs : List Tx} (h : ∀ x ∈ xs, x.all letter = true) {w : Option Tx} (hw : w ∈ WS) : (inD (wE w) (strL xs)).map D.bl = some (wQ xs w) := by
  cases w with
  | some w =>
    have e := inD_dec (A := xs) strE_inj (x := w) (letter_ok (ws_letters hw)) (fun a ha => letter_ok (h a ha))
    have e : inD (wE (some w)) (strL xs) = some (decide (w ∈ xs)) := e.trans (congrArg some (by by_cases hx : w ∈ xs <;> simp [hx]))
    rw [e]
    rfl
  | none =>
    obtain ⟨r, e1, e2⟩ := inD_pl (b := false) (n := 3) (x := .int 1) (ys := xs.map D.str) rfl (by
      rw [List.all_eq_true]
      intro d hd
      obtain ⟨a, ha, rfl⟩ := List.mem_map.mp hd
      exact letter_ok (h a ha)) (by decide)
    have e1 : inD (wE none) (strL xs) = some r := e1
    rw [e1]
    cases r with
    | false => rfl
    | true =>
      have := e2.mp rfl
      simp at this
end Lw
namespace Lw
open PySem L2 PF TL
theorem hfld_raws {st : Store} {k : Tx} {ps : List Tm} : fldD st (hinst k ps) "own_raws" = some (encs ps) := rfl
theorem hfld_task {st : Store} {k : Tx} {ps : List Tm} : fldD st (hinst k ps) "task" = some (.str k) := rfl
theorem kD_tx {x : Tx} : kD (.inr (tx x)) = .str x := by
  show D.str (unt (tx x)) = .str x
  congr 1
def rpB : S := match c20 with
  | .seq _ (.seq _ (.seq (.for2 _ _ _ _ b) _)) => b
  | _ => .skip
theorem put_sb {σ : Sb} {x : Tx} {q : Tm} (h : ∀ p ∈ σ, p.1 ≠ x) : putD (sbK σ) (.inr (tx x)) q.enc = sbK (σ ++ [(x, q)]) := by
  have e : ((sbK σ).any fun kv => decide (kv.1 = .inr (tx x))) = false := by
    rw [List.any_eq_false]
    intro kv hkv
    obtain ⟨p, hp, rfl⟩ := List.mem_map.mp hkv
    intro z
    exact h p hp (TL.tx_inj (Sum.inr.inj (of_decide_eq_true z)))
  unfold putD
  rw [e]
  simp [sbK]
theorem rp_loop {n : Nat} {x0 : D} {st : Store} : ∀ (es : List (Tx × D × Tm)) (σ : Sb) (z2 z3 z4 : PF.Slot), (∀ e ∈ es, isN e.1 = true ∧ VOk n e.2.1 e.2.2) → (∀ e ∈ es, ∀ p ∈ σ, p.1 ≠ e.1) → es.Pairwise (fun a b => a.1 ≠ b.1) → σ.length + es.length ≤ 1000 →
    ∃ z2' z3' z4', forO (fun x ρ st => (lift (setT ρ [2, 3] x) st).bind fun ρ st => ex (cl (n + 1)) 1000000 rpB ρ st) (es.map fun e => .tup [.str e.1, e.2.1]) [.im x0, .od (sbK σ), z2, z3, z4] st = .ok (.next [.im x0, .od (sbK (σ ++ es.map fun e => (e.1, e.2.2))), z2', z3', z4']) st
  | [], σ, z2, z3, z4, _, _, _, _ => ⟨z2, z3, z4, by simp [forO]⟩
  | e :: es, σ, z2, z3, z4, h, hd, hp, hl => by
    obtain ⟨hk, hv⟩ := h e List.mem_cons_self
    have h1 := raw_val (i := 3) (ρ := [.im x0, .od (sbK σ), .im (.str e.1), .im e.2.1, z4]) (st := st) hv rfl
    have e0 := name_ok (n := n) (s := e.1) (st := st)
    rw [hk] at e0
    have hp := List.pairwise_cons.mp hp
    have hps := put_sb (q := e.2.2) (hd e List.mem_cons_self)
    obtain ⟨z2', z3', z4', e2⟩ := rp_loop (x0 := x0) (st := st) es (σ ++ [(e.1, e.2.2)]) (.im (.str e.1)) (.im e.2.1) (.im e.2.2.enc) (fun x hx => h x (List.mem_cons_of_mem _ hx)) (fun x hx p hpm => by
      rcases List.mem_append.mp hpm with hpm | hpm
      · exact hd x (List.mem_cons_of_mem _ hx) p hpm
      · rw [List.mem_singleton] at hpm
        subst hpm
        exact hp.1 x hx) hp.2 (by simp at hl ⊢; omega)
    refine ⟨z2', z3', z4', ?_⟩
    have b1 : (sbK σ).length < 16777216 := by simp [sbK] at hl ⊢; omega
    have eb : ex (cl (n + 1)) 1000000 rpB [.im x0, .od (sbK σ), .im (.str e.1), .im e.2.1, z4] st = .ok (.next [.im x0, .od (sbK (σ ++ [(e.1, e.2.2)])), .im (.str e.1), .im e.2.1, .im e.2.2.enc]) st := by
      simp only [isoT, c25] at h1
      simp [rpB, c20, e0, enc_nn, b1, line, odS, keyD] at h1 ⊢
      rw [h1]
      simp [e0, enc_nn, b1, line, odS, keyD, hps]
    rw [List.map_cons, forO]
    have es1 : setT [PF.Slot.im x0, .od (sbK σ), z2, z3, z4] [2, 3] (.tup [.str e.1, e.2.1]) = some [PF.Slot.im x0, .od (sbK σ), .im (.str e.1), .im e.2.1, z4] := rfl
    rw [es1]
    simp only [lift_some, bind_ok, eb]
    rw [e2, List.append_assoc]
    rfl
def dctE (es : List (Tx × D × Tm)) : D := .dct (es.map fun e => (.inr (tx e.1), e.2.1))
def sbE (es : List (Tx × D × Tm)) : Sb := es.map fun e => (e.1, e.2.2)
theorem isi_dct {st : Store} {kvs : List (Key × D)} : bfD st .isi [.dct kvs, .ty "dict"] = some (.bl true) := by kernel_rfl
theorem rawsput_ok {n : Nat} {es : List (Tx × D × Tm)} {st : Store} (h : ∀ e ∈ es, isN e.1 = true ∧ VOk n e.2.1 e.2.2) (hp : es.Pairwise (fun a b => a.1 ≠ b.1)) (hl : es.length ≤ 1000) : cl (n + 2) 20 [dctE es] st = .ok (.dct (sbK (sbE es))) st := by
  rw [cl, call_run (fn := ⟨1, 5, c20, none, false⟩) rfl rfl (by decide)]
  obtain ⟨z2, z3, z4, e⟩ := rp_loop (n := n) (x0 := dctE es) (st := st) es [] .un .un .un h (fun _ _ _ hp => by cases hp) hp (by simpa using hl)
  have ks : kShort (es.map fun e => ((.inr (tx e.1) : Key), e.2.1)) = true := by
    unfold kShort
    rw [Bool.and_eq_true]
    refine ⟨decide_eq_true (by rw [List.length_map]; unfold line; omega), ?_⟩
    rw [List.all_eq_true]
    intro kv hkv
    obtain ⟨e, he, rfl⟩ := List.mem_map.mp hkv
    refine decide_eq_true ?_
    have := isN_len (h e he).1
    simp [unt, tx, line]
    omega
  have ei : evS (ev (cl (n + 1)) E.nil) (evs (cl (n + 1)) E.nil) (.itm 0) [.im (dctE es), .od [], .un, .un, .un] st = .ok (es.map fun e => .tup [.str e.1, e.2.1]) st := by
    simp only [evS, slotD, dctE]
    simp [dctD, ks, kD_tx, Function.comp_def]
  rw [show sbK [] = [] from rfl, List.nil_append] at e
  have kb : kitB "dict" "dict" = true := by kernel_rfl
  show finK false (ex (cl (n + 1)) 1000000 c20 [.im (dctE es), .un, .un, .un, .un] st) = _
  rw [ex_seqs]
  have s1 : exL (cl (n + 1)) 1000000 ((seqs c20).take 2) [.im (dctE es), .un, .un, .un, .un] st = .ok (.next [.im (dctE es), .od [], .un, .un, .un]) st := by
    simp [c20, seqs, exL_cons, exL_nil, dctE, kb]
    rfl
  rw [seg 2 s1]
  have s2 : exL (cl (n + 1)) 1000000 (((seqs c20).drop 2).take 1) [.im (dctE es), .od [], .un, .un, .un] st = .ok (.next [.im (dctE es), .od (sbK (sbE es)), z2, z3, z4]) st := by
    show exL (cl (n + 1)) 1000000 [.for2 [2, 3] (.itm 0) .nil .nil rpB] _ st = _
    rw [exL_cons, ex_for2, ei]
    simp only [O.thn]
    rw [if_pos (show isItm (.itm 0) = true from rfl), e]
    rfl
  rw [seg 1 s2, List.drop_drop]
  rfl
theorem put_ok {n d : Nat} {k : Tx} {ps : List Tm} {es : List (Tx × D × Tm)} {st : Store} (hk : isN k = true) (ho : ∀ q ∈ ps, q.ok = true) (h1 : ps ≠ []) (h3 : ps.length ≤ 3)
    (h : ∀ e ∈ es, isN e.1 = true ∧ VOk n e.2.1 e.2.2) (hp : es.Pairwise (fun a b => a.1 ≠ b.1)) (hl : es.length ≤ 1000) (hd : ∀ q ∈ ps, q.dep ≤ d ∧ (q.sub (sbE es)).dep ≤ d) (hn : d + 1 ≤ n) :
    cl (n + 3) 33 [hinst k ps, dctE es] st = .ok (hinst k (ps.map (Tm.sub (sbE es)))) st := by
  have e1 := rawsput_ok (st := st) h hp hl
  have hs : Sb.ok (sbE es) := fun p hpm => by
    obtain ⟨e, he, rfl⟩ := List.mem_map.mp hpm
    exact (h e he).2.1
  have e2 : ∀ q ∈ ps, ∀ st, cl (n + 2) 17 [q.enc, .dct (sbK (sbE es))] st = .ok (q.sub (sbE es)).enc st := fun q hq st => putinto_ok d (hd q hq).1 (ho q hq) (by omega)
  have e3 := headof_ok (n := n + 1) (d := d) (k := k) (ps := ps.map (Tm.sub (sbE es))) (st := st) hk (fun q hq => by
    obtain ⟨t, ht, rfl⟩ := List.mem_map.mp hq
    exact Tm.sub_ok hs (ho t ht)) (fun q hq => by
    obtain ⟨t, ht, rfl⟩ := List.mem_map.mp hq
    exact (hd t ht).2) (by simpa using h1) (by simpa using h3) (by omega)
  have e4 : ev (cl (n + 2)) (.lc 3 (.fld (.var 0) "own_raws") .nil (.call 17 (.cons (.var 3) (.cons (.var 2) .nil)))) [.im (hinst k ps), .im (dctE es), .im (.dct (sbK (sbE es))), .un] st = .ok (encs (ps.map (Tm.sub (sbE es)))) st := by
    have : encs (ps.map (Tm.sub (sbE es))) = .lst (ps.map fun q => (q.sub (sbE es)).enc) := by simp [encs, Function.comp_def]
    rw [this]
    refine ev_lc_from (ps := ps) (fx := Tm.enc) (s := encs ps) (by simp [hfld_raws]) rfl fun q hq st => ?_
    have := e2 q hq st
    simp [this]
  rw [cl, call_run (fn := ⟨2, 4, c33, none, false⟩) rfl rfl (by decide)]
  simp [c33, e1, e4, hfld_task, e3]
theorem hread_ok {n d : Nat} {k : Tx} {ps : List Tm} {st : Store} (hk : isN k = true) (ho : ∀ q ∈ ps, q.ok = true) (hd : ∀ q ∈ ps, q.dep ≤ d) (hs : szL ps ≤ 200) (h1 : ps ≠ []) (h3 : ps.length ≤ 3) (hn : 2 * d ≤ n) (hn2 : d + 1 ≤ n) : cl (n + 3) 26 [.str (htext k ps)] st = .ok (hinst k ps) st := by
  have e1 := rawhead_ok (st := st) hk ho hd hs h1 h3 hn
  have e2 := headof_ok (n := n + 1) (st := st) hk ho hd h1 h3 (by omega)
  rw [cl, call_run (fn := ⟨1, 2, c26, none, false⟩) rfl rfl (by decide)]
  simp [c26, e1, e2]
theorem hvars_ok {n : Nat} {k : Tx} {ps : List Tm} {st : Store} (ho : ∀ q ∈ ps, q.ok = true) (hs : szL ps ≤ 5000) (hn : ∀ q ∈ ps, q.dep ≤ n) (hn1 : 1 ≤ n) : cl (n + 2) 31 [hinst k ps] st = .ok (strL (varsL ps)) st := by
  have e := vars_l (st := st) ho hs hn hn1
  rw [cl, call_run (fn := ⟨1, 1, c31, none, false⟩) rfl rfl (by decide)]
  simp [c31, hfld_raws, e]
theorem hclosed_ok {n : Nat} {k : Tx} {ps : List Tm} {st : Store} (ho : ∀ q ∈ ps, q.ok = true) (hs : szL ps ≤ 5000) (hn : ∀ q ∈ ps, q.dep ≤ n) (hn1 : 1 ≤ n) : cl (n + 2) 27 [hinst k ps] st = .ok (.bl (varsL ps).isEmpty) st := by
  have e := vars_l (st := st) ho hs hn hn1
  rw [cl, call_run (fn := ⟨1, 1, c27, none, false⟩) rfl rfl (by decide)]
  simp [c27, hfld_raws, e, strL, line]
theorem hconss_ok {n : Nat} {k : Tx} {ps : List Tm} {st : Store} (ho : ∀ q ∈ ps, q.ok = true) (hs : szL ps ≤ 5000) (hn : ∀ q ∈ ps, q.dep + 1 ≤ n) (hn1 : 1 ≤ n) : cl (n + 2) 32 [hinst k ps] st = .ok (.lst ((topsL ps).map prE)) st := by
  have e := conss_l (st := st) ho hs hn hn1
  rw [cl, call_run (fn := ⟨1, 1, c32, none, false⟩) rfl rfl (by decide)]
  simp [c32, hfld_raws, e]
theorem hlen_ok {n : Nat} {k : Tx} {ps : List Tm} {st : Store} : cl (n + 1) 35 [hinst k ps] st = .ok (.int ps.length) st := by
  rw [cl, call_run (fn := ⟨1, 1, c35, none, false⟩) rfl rfl (by decide)]
  simp [c35, hfld_raws]
theorem hplaces_ok {n d : Nat} {k : Tx} {ps : List Tm} {st : Store} (ho : ∀ q ∈ ps, q.ok = true) (hd : ∀ q ∈ ps, q.dep ≤ d) (hn : d + 2 ≤ n) : cl (n + 1) 30 [hinst k ps] st = .ok (.lst (ps.map inst)) st := by
  have e1 : ∀ q ∈ ps, ∀ st, cl n 19 [q.enc] st = .ok (inst q) st := fun q hq st => termof_ok d (hd q hq) (ho q hq) hn
  rw [cl, call_run (fn := ⟨1, 2, c30, none, true⟩) rfl rfl (by decide)]
  have e3 : ev (cl n) (.lc 1 (.fld (.var 0) "own_raws") .nil (.call 19 (.cons (.var 1) .nil))) [.im (hinst k ps), .un] st = .ok (.lst (ps.map inst)) st := by
    refine ev_lc_from (ps := ps) (fx := Tm.enc) (s := encs ps) (by simp [hfld_raws]) rfl fun q hq st => ?_
    have := e1 q hq st
    simp [this]
  simp [c30, e3]
theorem atG {α : Type} {T : List α} {i : Nat} : atI T (i : Int) = T[i]? := by
  unfold atI ixN
  rw [if_pos (by omega)]
  by_cases h : (i : Int) < T.length
  · rw [if_pos h]; rfl
  · rw [if_neg h, List.getElem?_eq_none (by omega)]; rfl
theorem hget_ok {n d i : Nat} {k : Tx} {ps : List Tm} {q : Tm} {st : Store} (ho : ∀ q ∈ ps, q.ok = true) (hd : ∀ q ∈ ps, q.dep ≤ d) (h3 : ps.length ≤ 3) (hn : d + 2 ≤ n) (hq : ps[i]? = some q) : cl (n + 1) 34 [hinst k ps, .int i] st = .ok (inst q) st := by
  have hm := List.mem_of_getElem? hq
  have hi : i < ps.length := (List.getElem?_eq_some_iff.mp hq).1
  have e1 := fun st => termof_ok (st := st) d (t := q) (n := n) (hd q hm) (ho q hm) hn
  obtain ⟨m, rfl⟩ : ∃ m, n = m + 2 := ⟨n - 2, by omega⟩
  have e2 : cl (m + 2) 3 [.int i, .int (ps.length : Nat)] st = .ok (.bl true) st := by
    have e3 : cl (m + 1) 2 [.int i] st = .ok (.bl true) st := by kernel_rfl
    rw [cl, call_run (fn := ⟨2, 2, c3, none, false⟩) rfl rfl (by decide)]
    have h1 : (0 : Int) ≤ i := by omega
    have h2 : (i : Int) < ps.length := by omega
    simp [c3, e3, h1, h2]
  have e4 : idxD st (encs ps) (.int (i : Int)) = some q.enc := by
    show atI (ps.map Tm.enc) (i : Int) = _
    rw [atG, List.getElem?_map, hq]
    rfl
  rw [cl, call_run (fn := ⟨2, 2, c34, none, false⟩) rfl rfl (by decide)]
  simp [c34, hfld_raws, e2, e4, e1]
theorem textsOf_map : ∀ {ps : List Tm}, textsOf (ps.map fun q => D.str q.text) = some (ps.map Tm.text)
  | [] => rfl
  | q :: qs => by
    rw [List.map_cons, textsOf, textsOf_map]
    rfl
theorem join_len : ∀ {ps : List Tm}, (∀ q ∈ ps, q.ok = true) → ((ps.map Tm.text).map (·.length)).sum + 3 * ps.length ≤ 12 * szL ps
  | [], _ => by simp
  | q :: qs, h => by
    have := join_len (ps := qs) fun p hp => h p (List.mem_cons_of_mem _ hp)
    have := Tm.text_len (h q List.mem_cons_self)
    rw [szL_cons]
    simp only [List.map_cons, List.sum_cons, List.length_cons] at *
    omega
theorem hstr_ok {n : Nat} {k : Tx} {ps : List Tm} {st : Store} (hk : isN k = true) (ho : ∀ q ∈ ps, q.ok = true) (hs : szL ps ≤ 5000) (hd : ∀ q ∈ ps, q.dep ≤ n) (h1 : ps ≠ []) (h3 : ps.length ≤ 3) : cl (n + 1) 36 [hinst k ps] st = .ok (.str (htext k ps)) st := by
  have e1 : ∀ q ∈ ps, ∀ st, cl n 11 [q.enc] st = .ok (.str q.text) st := fun q hq st => text_ok (ho q hq) (by have := szL_mem hq; omega) (hd q hq)
  have e3 : ev (cl n) (.lc 2 (.fld (.var 0) "own_raws") .nil (.call 11 (.cons (.var 2) .nil))) [.im (hinst k ps), .un, .un] st = .ok (.lst (ps.map fun q => .str q.text)) st := by
    refine ev_lc_from (ps := ps) (fx := Tm.enc) (s := encs ps) (by simp [hfld_raws]) rfl fun q hq st => ?_
    have := e1 q hq st
    simp [this]
  have hl := htext_len hk ho
  have he := htext_eq (k := k) h1
  have e4 : textsOf (ps.map fun q => D.str q.text) = some (ps.map Tm.text) := textsOf_map
  have e5 := join_len ho
  have e6 : ((ps.map Tm.text).map (·.length)).sum + (ps.map Tm.text).length * 1 ≤ 16777216 := by rw [List.length_map]; omega
  have e7 : k.length + 1 + (joinT [44] (ps.map Tm.text)).length + 1 ≤ 16777216 := by
    have : (htext k ps).length = k.length + 1 + (joinT [44] (ps.map Tm.text)).length + 1 := by rw [← he]; simp; omega
    omega
  rw [cl, call_run (fn := ⟨1, 3, c36, none, false⟩) rfl rfl (by decide)]
  have eb : bmD st .join (.str [44]) [.lst (ps.map fun q => .str q.text)] = some (.str (joinT [44] (ps.map Tm.text))) := by
    rw [bmD_join, e4]
    exact if_pos e6
  simp [c36, hfld_raws, hfld_task, e3, eb, -bmD_join, line]
  generalize joinT [44] (ps.map Tm.text) = J at *
  have hk8 := (isN_len hk).2
  have b1 : k.length ≤ 16777216 := by omega
  have b2 : k.length ≤ 16777215 := by omega
  have b3 : k.length + 1 + J.length ≤ 16777216 := by omega
  have b4 : k.length + (J.length + 1) ≤ 16777216 := by omega
  have b5 : k.length + (J.length + 1) ≤ 16777215 := by omega
  have b6 : k.length + 1 + J.length ≤ 16777215 := by omega
  rw [← he]
  simp [b1, b2, b3, b4, b5, b6]
theorem hsize_ok {n : Nat} {k : Tx} {ps : List Tm} {st : Store} (hs : szL ps ≤ 5000) (hd : ∀ q ∈ ps, q.dep ≤ n) : cl (n + 1) 29 [hinst k ps] st = .ok (.int (szL ps)) st := by
  have e1 : ∀ q ∈ ps, ∀ st, cl n 5 [q.enc] st = .ok (strL q.names) st := fun q hq st => names_ok (by have := szL_mem hq; omega) (hd q hq)
  have e3 : ev (cl n) (.lc 1 (.fld (.var 0) "own_raws") .nil (.cb .len (.cons (.call 5 (.cons (.var 1) .nil)) .nil))) [.im (hinst k ps), .un] st = .ok (.lst (ps.map fun q => .int q.sz)) st := by
    refine ev_lc_from (ps := ps) (fx := Tm.enc) (s := encs ps) (by simp [hfld_raws]) rfl fun q hq st => ?_
    have := e1 q hq st
    have hb : q.names.length ≤ 16777216 := by have := szL_mem hq; unfold Tm.sz at this; omega
    simp [this, strL, Tm.sz, hb, line]
  have e4 : ∀ ps : List Tm, intsOf (ps.map fun q => D.int q.sz) = some (ps.map fun q => (q.sz : Int)) := by
    intro ps
    induction ps with
    | nil => rfl
    | cons q qs ih =>
      rw [List.map_cons, intsOf, ih]
      rfl
  have e5 : ∀ ps : List Tm, (ps.map fun q => (q.sz : Int)).sum = szL ps := by
    intro ps
    induction ps with
    | nil => rfl
    | cons q qs ih =>
      rw [List.map_cons, List.sum_cons, ih, szL_cons]
      omega
  rw [cl, call_run (fn := ⟨1, 2, c29, none, false⟩) rfl rfl (by decide)]
  have e6 : bfD st .sum [.lst (ps.map fun q => .int q.sz)] = some (.int (szL ps)) := by
    show (intsOf _).map _ = _
    rw [e4, Option.map_some, e5]
  simp [c29, e3, e6]
def depL (ps : List Tm) : Nat := ps.foldl (fun a q => max a q.dep) 0
theorem hdepth_ok {n : Nat} {k : Tx} {ps : List Tm} {st : Store} (hd : ∀ q ∈ ps, q.dep ≤ n) : cl (n + 1) 28 [hinst k ps] st = .ok (.int (depL ps)) st := by
  obtain ⟨z', e⟩ := forO_fold (f := fun x ρ st => (lift (setS ρ 2 x) st).bind fun ρ st => ex (cl n) 1000000 (match c28 with | .seq _ (.seq (.for_ _ _ b) _) => b | _ => .skip) ρ st) Tm.enc (fun (acc : Nat) z => [.im (hinst k ps), .im (.int acc), z]) (fun acc t => max acc t.dep)
    (fun acc rest => ∀ t ∈ rest, t.dep ≤ n) (st := st) (fun acc t rest z h => by
      have e1 := fun st => depth_ok (st := st) (h t List.mem_cons_self)
      refine ⟨⟨.im t.enc, ?_⟩, fun u hu => h u (List.mem_cons_of_mem _ hu)⟩
      by_cases hc : (acc : Int) < t.dep
      · have hm : max acc t.dep = t.dep := by omega
        simp [c28, e1, hc, hm]
      · have hm : max acc t.dep = acc := by omega
        simp [c28, e1, hc, hm]) ps 0 .un hd
  rw [cl, call_run (fn := ⟨1, 3, c28, none, false⟩) rfl rfl (by decide)]
  simp [c28, ex_for, hfld_raws] at e ⊢
  rw [e]
  simp [depL]
theorem hpl {k : Tx} {ps : List Tm} {n : Nat} (hk : isN k = true) (ho : ∀ q ∈ ps, q.ok = true) (hd : ∀ q ∈ ps, q.dep ≤ n) : pl false (n + 2) (.tup [.str k, encs ps]) = true := by
  have h1 : (ps.map Tm.enc).all (pl false n) = true := by
    rw [List.all_eq_true]
    intro d hdm
    obtain ⟨q, hq, rfl⟩ := List.mem_map.mp hdm
    exact Tm.pl_ok (ho q hq) (hd q hq)
  have h2 := letter_ok (isN_all hk)
  show ([D.str k, encs ps].all (pl false (n + 1))) = true
  simp only [List.all_cons, List.all_nil, Bool.and_true, Bool.and_eq_true]
  exact ⟨h2, h1⟩
theorem encs_inj : ∀ {ps qs : List Tm}, ps.map Tm.enc = qs.map Tm.enc → (∀ q ∈ ps, q.ok = true) → (∀ q ∈ qs, q.ok = true) → ps = qs
  | [], [], _, _, _ => rfl
  | [], _ :: _, h, _, _ => by cases h
  | _ :: _, [], h, _, _ => by cases h
  | p :: ps, q :: qs, h, h1, h2 => by
    rw [List.map_cons, List.map_cons] at h
    injection h with a b
    rw [Tm.enc_inj a (h1 p List.mem_cons_self) (h2 q List.mem_cons_self), encs_inj b (fun x hx => h1 x (List.mem_cons_of_mem _ hx)) fun x hx => h2 x (List.mem_cons_of_mem _ hx)]
theorem heq_ok {n : Nat} {k l : Tx} {ps qs : List Tm} {st : Store} (hk : isN k = true) (hl : isN l = true) (h1 : ∀ q ∈ ps, q.ok = true) (h2 : ∀ q ∈ qs, q.ok = true) (d1 : ∀ q ∈ ps, q.dep ≤ 50) (d2 : ∀ q ∈ qs, q.dep ≤ 50) :
    cl (n + 1) 37 [hinst k ps, hinst l qs] st = .ok (.bl (decide (k = l ∧ ps = qs))) st := by
  obtain ⟨r, e1, e2⟩ := deq_pl (b := false) (n := 52) (hpl (n := 50) hk h1 d1) (hpl (n := 50) hl h2 d2) (by decide)
  have e3 : r = decide (k = l ∧ ps = qs) := by
    have : (.tup [.str k, encs ps] : D) = .tup [.str l, encs qs] ↔ (k = l ∧ ps = qs) := by
      constructor
      · intro h
        injection h with h
        injection h with a h
        injection h with b _
        injection a with a
        injection b with b
        exact ⟨a, encs_inj b h1 h2⟩
      · rintro ⟨rfl, rfl⟩; rfl
    rw [this] at e2
    cases r with
    | true => exact (decide_eq_true (e2.mp rfl)).symm
    | false =>
      refine (decide_eq_false fun h => ?_).symm
      cases e2.mpr h
  subst e3
  rw [cl, call_run (fn := ⟨2, 2, c37, none, false⟩) rfl rfl (by decide)]
  have e4 : tyN st (hinst l qs) = some (.o "Head") := rfl
  have e5 : (match c37 with | .seq (.ret (.and (.iso _ tb _) _)) _ => tb | _ => []).lookup (TyN.o "Head") = some true := by kernel_rfl
  simp only [c37] at e5
  simp [c37, hfld_raws, hfld_task, e1, e4, e5, line]
theorem heq_text {n : Nat} {k : Tx} {ps : List Tm} {w : Tx} {st : Store} : cl (n + 1) 37 [hinst k ps, .str w] st = .ok (.bl false) st := by
  rw [cl, call_run (fn := ⟨2, 2, c37, none, false⟩) rfl rfl (by decide)]
  kernel_rfl
theorem heq_term {n : Nat} {k : Tx} {ps : List Tm} {t : Tm} {st : Store} : cl (n + 1) 37 [hinst k ps, inst t] st = .ok (.bl false) st := by
  rw [cl, call_run (fn := ⟨2, 2, c37, none, false⟩) rfl rfl (by decide)]
  kernel_rfl
end Lw
namespace Lw
open PySem L2 PF TL
theorem forO_foldG {f : D → PF.Env → Store → O Fl} {α β γ : Type} (enc : α → D) (env : β → γ → PF.Env) (step : β → α → β) (P : β → List α → Prop) {st : Store} (hs : ∀ acc x rest z, P acc (x :: rest) → (∃ z', f (enc x) (env acc z) st = .ok (.next (env (step acc x) z')) st) ∧ P (step acc x) rest) : ∀ (xs : List α) (acc : β) (z : γ), P acc xs → ∃ z', forO f (xs.map enc) (env acc z) st = .ok (.next (env (xs.foldl step acc) z')) st
  | [], acc, z, _ => ⟨z, rfl⟩
  | x :: xs, acc, z, h => by
    obtain ⟨⟨z1, e1⟩, h2⟩ := hs acc x xs z h
    obtain ⟨z2, e2⟩ := forO_foldG enc env step P hs xs (step acc x) z1 h2
    refine ⟨z2, ?_⟩
    rw [List.map_cons, forO, e1]
    simp only [bind_ok]
    rw [e2]
    rfl
abbrev vst (acc : List Tx) (x : Tx) : List Tx := if isV x = true ∧ x ∉ acc then acc ++ [x] else acc
theorem vst_len : ∀ (xs acc : List Tx), (xs.foldl vst acc).length ≤ acc.length + xs.length
  | [], acc => by simp
  | x :: xs, acc => by
    have := vst_len xs (vst acc x)
    rw [List.foldl_cons, List.length_cons]
    have h2 : (vst acc x).length ≤ acc.length + 1 := by unfold vst; split <;> simp
    omega
theorem vst_mem : ∀ (xs acc : List Tx) (y : Tx), y ∈ xs.foldl vst acc → y ∈ acc ∨ y ∈ xs
  | [], acc, y, h => .inl h
  | x :: xs, acc, y, h => by
    rw [List.foldl_cons] at h
    rcases vst_mem xs (vst acc x) y h with h | h
    · unfold vst at h
      split at h
      · rcases List.mem_append.mp h with h | h
        · exact .inl h
        · rw [List.mem_singleton] at h
          exact .inr (by rw [h]; exact List.mem_cons_self)
      · exact .inl h
    · exact .inr (List.mem_cons_of_mem _ h)
theorem lvars_in {n : Nat} {t : Tm} {x0 : D} {acc : List Tx} {z : PF.Slot} {st : Store} (ho : t.ok = true) (ha : ∀ a ∈ acc, pl false 3 (strE a) = true) (hl : acc.length + t.names.length ≤ 10000) :
    ∃ z', forO (fun x ρ st => (lift (setS ρ 3 x) st).bind fun ρ st => ex (cl n) 1000000 (match c45 with | .seq _ (.seq (.for_ _ _ (.seq (.for_ _ _ b) _)) _) => b | _ => .skip) ρ st) (t.names.map strE) [.im x0, .ol (acc.map strE), .im t.enc, z] st = .ok (.next [.im x0, .ol ((t.names.foldl vst acc).map strE), .im t.enc, z']) st := by
  have hL : LOW.length ≤ line := by decide
  unfold LOW at hL
  exact forO_fold (f := fun x ρ st => (lift (setS ρ 3 x) st).bind fun ρ st => ex (cl n) 1000000 (match c45 with | .seq _ (.seq (.for_ _ _ (.seq (.for_ _ _ b) _)) _) => b | _ => .skip) ρ st) strE (fun acc z => [.im x0, .ol (acc.map strE), .im t.enc, z]) vst
    (fun acc rest => (∀ a ∈ acc, pl false 3 (strE a) = true) ∧ (∀ a ∈ rest, a ≠ [] ∧ pl false 3 (strE a) = true) ∧ acc.length + rest.length ≤ 10000) (st := st) (fun acc x rest z h => by
      obtain ⟨h1, h2, h3⟩ := h
      obtain ⟨hx0, hx1⟩ := h2 x (List.mem_cons_self ..)
      have ei := inD_dec (A := acc) strE_inj hx1 h1
      have hb : acc.length < 16777216 := by simp at h3; omega
      unfold vst
      cases x with
      | nil => exact absurd rfl hx0
      | cons c r =>
        cases hv : low c with
        | false =>
          have hv' := hv
          unfold low at hv'
          have hc := of_decide_eq_false hv'
          have hs : (if isV (c :: r) = true ∧ (c :: r) ∉ acc then acc ++ [c :: r] else acc) = acc := by rw [if_neg (by simp [isV, hv])]
          rw [hs]
          refine ⟨⟨.im (.str (c :: r)), ?_⟩, h1, fun a ha => h2 a (List.mem_cons_of_mem _ ha), by simp at h3; omega⟩
          simp [-List.mem_cons, c45, strE, hc, line]
        | true =>
          have hv' := hv
          unfold low at hv'
          have hc := of_decide_eq_true hv'
          by_cases hx : (c :: r) ∈ acc
          · have hs : (if isV (c :: r) = true ∧ (c :: r) ∉ acc then acc ++ [c :: r] else acc) = acc := by rw [if_neg (by simp [hx])]
            rw [hs]
            refine ⟨⟨.im (.str (c :: r)), ?_⟩, h1, fun a ha => h2 a (List.mem_cons_of_mem _ ha), by simp at h3; omega⟩
            have ei2 : inD (.str (c :: r)) (.lst (acc.map strE)) = some true := ei.trans (by simp [hx])
            simp [-List.mem_cons, c45, strE, hc, line] at ei2 ⊢
            simp [ei2]
          · have hs : (if isV (c :: r) = true ∧ (c :: r) ∉ acc then acc ++ [c :: r] else acc) = acc ++ [c :: r] := by rw [if_pos ⟨by simp [isV, hv], hx⟩]
            rw [hs]
            refine ⟨⟨.im (.str (c :: r)), ?_⟩, ?_, fun a ha => h2 a (List.mem_cons_of_mem _ ha), by simp at h3 ⊢; omega⟩
            · have ei2 : inD (.str (c :: r)) (.lst (acc.map strE)) = some false := ei.trans (by simp [hx])
              simp [-List.mem_cons, c45, strE, hc, hb, line] at ei2 ⊢
              simp [ei2, hb]
            · intro a ha
              rcases List.mem_append.mp ha with ha | ha
              · exact h1 a ha
              · rw [List.mem_singleton] at ha
                subst ha
                exact hx1) t.names acc z ⟨ha, fun a ha => ⟨(Tm.names_ok ho a ha).1, letter_ok (Tm.names_ok ho a ha).2⟩, hl⟩
theorem lvarsL_ok {ps : List Tm} {n : Nat} {st : Store} (ho : ∀ q ∈ ps, q.ok = true) (hs : szL ps ≤ 5000) (hn : ∀ q ∈ ps, q.dep ≤ n) : cl (n + 1) 45 [encs ps] st = .ok (strL (varsL ps)) st := by
  obtain ⟨z', e⟩ := forO_foldG (f := fun x ρ st => (lift (setS ρ 2 x) st).bind fun ρ st => ex (cl n) 1000000 (match c45 with | .seq _ (.seq (.for_ _ _ b) _) => b | _ => .skip) ρ st) Tm.enc (fun acc (z : PF.Slot × PF.Slot) => [.im (encs ps), .ol (acc.map strE), z.1, z.2]) (fun acc t => t.names.foldl vst acc)
    (fun acc rest => (∀ a ∈ acc, pl false 3 (strE a) = true) ∧ (∀ t ∈ rest, t.ok = true ∧ t.dep ≤ n) ∧ acc.length + szL rest ≤ 5000) (st := st) (fun acc t rest z h => by
      obtain ⟨h1, h2, h3⟩ := h
      obtain ⟨h4, h5⟩ := h2 t List.mem_cons_self
      rw [szL_cons] at h3
      have hz : t.names.length = t.sz := rfl
      have e1 := fun st => lnames_ok (n := n) (t := t) (st := st) (by omega) h5
      obtain ⟨z3, e2⟩ := lvars_in (n := n) (t := t) (x0 := encs ps) (acc := acc) (z := z.2) (st := st) h4 h1 (by omega)
      refine ⟨⟨(.im t.enc, z3), ?_⟩, fun a ha => ?_, fun u hu => h2 u (List.mem_cons_of_mem _ hu), ?_⟩
      · simp [c45, ex_for, e1, strL, line] at e2 ⊢
        rw [show List.map D.str t.names = List.map strE t.names from rfl, e2]
        rfl
      · rcases vst_mem _ _ _ ha with ha | ha
        · exact h1 a ha
        · exact letter_ok (Tm.names_ok h4 a ha).2
      · have := vst_len t.names acc
        omega) ps [] (.un, .un) ⟨by simp, fun t ht => ⟨ho t ht, hn t ht⟩, by simpa using hs⟩
  have ef : ∀ (us : List Tm) (acc : List Tx), us.foldl (fun acc t => t.names.foldl vst acc) acc = (us.flatMap Tm.names).foldl vst acc := by
    intro us
    induction us with
    | nil => intro acc; rfl
    | cons u us ih => intro acc; rw [List.foldl_cons, ih, List.flatMap_cons, List.foldl_append]
  rw [ef, show (ps.flatMap Tm.names).foldl vst [] = varsL ps from once_fold0] at e
  rw [cl, call_run (fn := ⟨1, 4, c45, none, false⟩) rfl rfl (by decide)]
  rw [show ([].map strE : List D) = [] from rfl] at e
  simp [c45, ex_for, strL, line] at e ⊢
  unfold strE at e
  rw [e]
  simp
theorem onceL_flat {α : Type} [DecidableEq α] {f : Tm → List α} {us : List Tm} : us.foldl (fun acc t => acc ++ newL acc (Tm.onceL (f t))) [] = Tm.onceL (us.flatMap f) := by
  have ef : ∀ (us : List Tm) (acc : List α), us.foldl (fun acc t => acc ++ newL acc (Tm.onceL (f t))) acc = (us.flatMap f).foldl (fun acc x => if x ∈ acc then acc else acc ++ [x]) acc := by
    intro us
    induction us with
    | nil => intro acc; rfl
    | cons u us ih => intro acc; rw [List.foldl_cons, ih, List.flatMap_cons, List.foldl_append, once_new (f u) acc]
  exact ef us []
theorem lallcons_ok {ps : List Tm} {n : Nat} {st : Store} (ho : ∀ q ∈ ps, q.ok = true) (hs : szL ps ≤ 5000) (hn : ∀ q ∈ ps, q.dep + 1 ≤ n) : cl (n + 1) 52 [encs ps] st = .ok (.lst ((topsL ps).map prE)) st := by
  obtain ⟨z', e⟩ := forO_foldG (f := fun x ρ st => (lift (setS ρ 2 x) st).bind fun ρ st => ex (cl n) 1000000 (match c52 with | .seq _ (.seq (.for_ _ _ b) _) => b | _ => .skip) ρ st) Tm.enc (fun acc (z : PF.Slot) => [.im (encs ps), .im (.lst (acc.map prE)), z, .un]) (fun acc t => acc ++ newL acc (Tm.onceL t.tops))
    (fun acc rest => (∀ a ∈ acc, pl false 3 (prE a) = true) ∧ (∀ t ∈ rest, t.ok = true ∧ t.dep + 1 ≤ n) ∧ acc.length + szL rest ≤ 5000) (st := st) (fun acc t rest z h => by
      obtain ⟨h1, h2, h3⟩ := h
      obtain ⟨h4, h5⟩ := h2 t List.mem_cons_self
      rw [szL_cons] at h3
      have ht := Tm.tops_len t
      have hol := once_len t.tops
      have hpa : ∀ p ∈ Tm.onceL t.tops, pl false 3 (prE p) = true := fun p hp => by
        rcases once_mem t.tops [] hp with z | z
        · cases z
        · exact Tm.tops_pl h4 p z
      have e1 := lcons_ok (n := n) (t := t) (st := st) h4 (by omega) h5
      have e2 := lc_new prE_inj (C := cl n) (A := acc) (x0 := .im (encs ps)) (x3 := .un) e1 h1 hpa
      have hf := newL_len acc (Tm.onceL t.tops)
      refine ⟨⟨.im t.enc, ?_⟩, fun a ha => ?_, fun u hu => h2 u (List.mem_cons_of_mem _ hu), ?_⟩
      · generalize newL acc (Tm.onceL t.tops) = B at *
        have b1 : acc.length + B.length ≤ 16777216 := by omega
        simp [c52, e2, b1, line]
      · rcases List.mem_append.mp ha with ha | ha
        · exact h1 a ha
        · exact hpa a (newL_sub ha)
      · rw [List.length_append]; omega) ps [] .un ⟨by simp, fun t ht => ⟨ho t ht, hn t ht⟩, by simpa using hs⟩
  rw [onceL_flat] at e
  rw [cl, call_run (fn := ⟨1, 4, c52, none, false⟩) rfl rfl (by decide)]
  rw [show ([].map prE : List D) = [] from rfl] at e
  simp [c52, ex_for, line] at e ⊢
  rw [e]
  simp [topsL]
theorem lput_ok : ∀ (d : Nat) {t : Tm} {n : Nat} {σ : Sb} {st : Store}, t.dep ≤ d → t.ok = true → d + 1 ≤ n → cl n 46 [t.enc, .dct (sbK σ)] st = .ok (t.sub σ).enc st := by
  intro d
  induction d with
  | zero => intro t n σ st hd; have := t.dep_pos; omega
  | succ d ih =>
    intro t n σ st hd ho hn
    obtain ⟨m, rfl⟩ : ∃ m, n = m + 2 := ⟨n - 2, by omega⟩
    have e1 := lisvar_ok (n := m) (t := t) (st := st) ho
    rw [cl, call_run (fn := ⟨2, 3, c46, none, false⟩) rfl rfl (by decide)]
    cases hv : t.isVar with
    | true =>
      cases t with
      | v x =>
        rw [hv] at e1
        simp only [Tm.enc] at e1 ⊢
        simp [c46, e1, look_sb, Tm.sub]
        cases sbLook σ x <;> rfl
      | _ => cases hv
    | false =>
      have e2 : ∀ q ∈ t.parts, ∀ st, cl (m + 1) 46 [q.enc, .dct (sbK σ)] st = .ok (q.sub σ).enc st := fun q hq st => ih (by have := Tm.parts_dep hq; omega) (Tm.parts_ok ho hq) (by omega)
      have e3 : ev (cl (m + 1)) (.lc 2 (.slc (.var 0) (.cst (.int 1)) .nil) .nil (.call 46 (.cons (.var 2) (.cons (.var 1) .nil)))) [.im t.enc, .im (.dct (sbK σ)), .un] st = .ok (.lst (t.parts.map fun q => (q.sub σ).enc)) st := by
        refine ev_lc_from (ps := t.parts) (fx := Tm.enc) (s := .tup (t.parts.map Tm.enc)) (by rw [Tm.enc_eq]; simp) rfl fun q hq st => ?_
        have := e2 q hq st
        simp [this]
      have hl := t.parts_len
      have hb : t.parts.length + 1 ≤ 16777216 := by omega
      have hb2 : 1 + t.parts.length ≤ 16777216 := by omega
      rw [Tm.sub_parts hv]
      rw [Tm.enc_eq] at e1 e3 ⊢
      rw [hv] at e1
      cases hp : t.parts with
      | nil =>
        rw [hp] at e1 e3
        simp at e1 e3
        simp [c46, e1, e3, line]
      | cons q qs =>
        rw [hp] at e1 e3 hb hb2
        simp at e1 e3 hb hb2
        have h0 : ¬ ((qs.length : Int) + 1 + 1 = 1) := by omega
        have b1 : 1 + (qs.length + 1) ≤ 16777216 := by omega
        have b2 : qs.length + 1 + 1 ≤ 16777216 := by omega
        simp [c46, e1, e3, hb, hb2, h0, b1, b2, line]
end Lw
namespace Lw
open PySem L2 PF TL
def ptxs (ps : List Tm) : D := .lst (ps.map fun q => .str q.text)
abbrev hplan (k : Tx) (ps : List Tm) : D := .tup [.str k, encs ps]
/-- a head in bounds -/
structure HOk (d : Nat) (k : Tx) (ps : List Tm) : Prop where
  k : isN k = true
  ok : ∀ q ∈ ps, q.ok = true
  dep : ∀ q ∈ ps, q.dep ≤ d
  sz : szL ps ≤ 200
  ne : ps ≠ []
  le : ps.length ≤ 3
theorem ltexts {n d j : Nat} {k : Tx} {ps : List Tm} {src : E} {ρ : PF.Env} {st : Store} (h : HOk d k ps) (hn : d ≤ n) (h1 : opd src (ev (cl n) src) ρ st = .ok (encs ps) st) (hj : j < ρ.length) : ev (cl n) (.lc j src .nil (.call 42 (.cons (.var j) .nil))) ρ st = .ok (ptxs ps) st := by
  have e1 : ∀ q ∈ ps, ∀ st, cl n 42 [q.enc] st = .ok (.str q.text) st := fun q hq st => ltext_ok (h.ok q hq) (by have := szL_mem hq; have := h.sz; omega) (by have := h.dep q hq; omega)
  refine ev_lc_from (ps := ps) (fx := Tm.enc) (s := encs ps) h1 rfl fun q hq st => ?_
  have := e1 q hq st
  have hs : slotD (ρ.set j (.im q.enc)) j = some q.enc := by
    unfold slotD
    rw [List.getElem?_set_self hj]
  simp [hs, this]
theorem lheadtext_ok {n d : Nat} {k : Tx} {ps : List Tm} {st : Store} (h : HOk d k ps) (hn : d ≤ n) : cl (n + 1) 48 [hplan k ps] st = .ok (.str (htext k ps)) st := by
  have e3 := ltexts (n := n) (j := 1) (src := .idx (.var 0) (.cst (.int 1))) (ρ := [.im (hplan k ps), .un]) (st := st) h hn rfl (by simp)
  have hl := htext_len h.k h.ok
  have hs := h.sz
  have he := htext_eq (k := k) h.ne
  have e4 : textsOf (ps.map fun q => D.str q.text) = some (ps.map Tm.text) := textsOf_map
  have e5 := join_len h.ok
  have e6 : ((ps.map Tm.text).map (·.length)).sum + (ps.map Tm.text).length * 1 ≤ 16777216 := by rw [List.length_map]; omega
  have e7 : k.length + 1 + (joinT [44] (ps.map Tm.text)).length + 1 ≤ 16777216 := by
    have : (htext k ps).length = k.length + 1 + (joinT [44] (ps.map Tm.text)).length + 1 := by rw [← he]; simp; omega
    omega
  rw [cl, call_run (fn := ⟨1, 2, c48, none, false⟩) rfl rfl (by decide)]
  have eb : bmD st .join (.str [44]) [ptxs ps] = some (.str (joinT [44] (ps.map Tm.text))) := by
    unfold ptxs
    rw [bmD_join, e4]
    exact if_pos e6
  have ex0 : idxD st (hplan k ps) (.int 0) = some (.str k) := rfl
  have hk8 := (isN_len h.k).2
  generalize joinT [44] (ps.map Tm.text) = J at *
  have b0 : k.length + 1 ≤ 16777216 := by omega
  have b1 : k.length ≤ 16777216 := by omega
  have b2 : k.length ≤ 16777215 := by omega
  have b3 : k.length + 1 + J.length ≤ 16777216 := by omega
  have b4 : k.length + (J.length + 1) ≤ 16777216 := by omega
  have b5 : k.length + (J.length + 1) ≤ 16777215 := by omega
  have b6 : k.length + 1 + J.length ≤ 16777215 := by omega
  have b7 : k.length + 1 + J.length + 1 ≤ 16777216 := by omega
  have b8 : k.length + (J.length + 1) + 1 ≤ 16777216 := by omega
  rw [← he]
  unfold c48
  simp [ex0, e3, eb, -bmD_join, line, b0, b1, b2, b3, b4, b5, b6, b7, b8]
theorem lhead_ok {n d : Nat} {k : Tx} {ps : List Tm} {st : Store} (h : HOk d k ps) (hn : 2 * d ≤ n) : cl (n + 3) 49 [hplan k ps] st = .ok (hinst k ps) st := by
  have e3 := ltexts (n := n + 2) (j := 2) (src := .idx (.var 0) (.cst (.int 1))) (ρ := [.im (hplan k ps), .un, .un]) (st := st) h (by omega) rfl (by simp)
  have ex0 : idxD st (hplan k ps) (.int 0) = some (.str k) := rfl
  have hi := headinit_ok (n := n) (k := k) (es := ps.map fun q => (.str q.text, q)) (st := st) h.k (fun e he => by
    obtain ⟨q, hq, rfl⟩ := List.mem_map.mp he
    refine ⟨h.ok q hq, .inr ⟨rfl, ?_, ?_⟩⟩
    · show q.sz ≤ 200
      have := szL_mem hq; have := h.sz; omega
    · show 2 * q.dep ≤ n
      have := h.dep q hq; omega) (by simpa using h.ne) (by rw [List.length_map]; exact h.le)
  rw [List.map_map, List.map_map] at hi
  have e6 : ∀ ps, insOf "Head" (hinst k ps) = some (hinst k ps) := fun _ => rfl
  rw [cl, call_run (fn := ⟨1, 3, c49, none, false⟩) rfl rfl (by decide)]
  unfold ptxs at e3
  match ps, h.ne, h.le with
  | [a], _, _ =>
    have hi : cl (n + 2) 25 [.str k, .tup [.str a.text]] st = .ok (hinst k [a]) st := hi
    simp [c49, e3, ex0, packD, line, hi, e6]
  | [a, b], _, _ =>
    have hi : cl (n + 2) 25 [.str k, .tup [.str a.text, .str b.text]] st = .ok (hinst k [a, b]) st := hi
    simp [c49, e3, ex0, packD, line, hi, e6]
  | [a, b, c], _, _ =>
    have hi : cl (n + 2) 25 [.str k, .tup [.str a.text, .str b.text, .str c.text]] st = .ok (hinst k [a, b, c]) st := hi
    simp [c49, e3, ex0, packD, line, hi, e6]
  | _ :: _ :: _ :: _ :: _, _, hl => exact absurd hl (by simp)
theorem lheadplan_ok {n a d : Nat} {st : Store} (p : PoolAt st a) (hd : d ≤ 3) (hn : d + 3 ≤ n) : ∃ (k : Tx) (ps : List Tm) (st' : Store), cl (n + 1) 47 [.ref a, .int ((d : Int) + 1)] st = .ok (hplan k ps) st' ∧ isN k = true ∧ (∀ q ∈ ps, q.ok = true ∧ q.dep ≤ d + 1 ∧ q.sz + 1 ≤ 2 ^ (d + 1)) ∧ ps ≠ [] ∧ ps.length ≤ 3 ∧ PoolAt st' a := by
  obtain ⟨m, rfl⟩ : ∃ m, n = m + 3 := ⟨n - 3, by omega⟩
  obtain ⟨x, st1, e1, hx, p1⟩ := lawpick_ok (n := m + 1) (xs := [.str [115, 104, 111, 119], .str [116], .str [106, 111, 105, 110]]) p (by decide) (by decide)
  obtain ⟨w, hw, ho⟩ : ∃ w, x = .str w ∧ isN w = true := by
    simp at hx
    rcases hx with rfl | rfl | rfl <;> exact ⟨_, rfl, by decide⟩
  subst hw
  obtain ⟨k, st2, e2, d0, d1, p2⟩ := lawdraw_ok (n := m + 2) (m := 3) p1 (by decide) (by decide)
  obtain ⟨ys, st3, e3, p3, l3, r3⟩ := ev_lcr_inv (C := cl (m + 3)) (ρ := [.im (.ref a), .im (.int ((d : Int) + 1)), .im (.str w), .un]) (st := st1) (st1 := st2) (j := 3) (a := .cons (.bin .add (.cst (.int 1)) (.call 39 (.cons (.var 0) (.cons (.cst (.int 3)) .nil)))) .nil) (e := .call 41 (.cons (.var 0) (.cons (.var 1) .nil))) (as := [.int (1 + k)]) (xs := (List.range (1 + k).toNat).map fun i : Nat => .int (0 + (i : Int)))
    (fun st => PoolAt st a) (fun y => ∃ t : Tm, y = t.enc ∧ t.ok = true ∧ t.dep ≤ d + 1 ∧ t.sz + 1 ≤ 2 ^ (d + 1)) (by simp [e2]) (rangeD_1 (by omega) (by omega)) (by simp [line]; omega) p2 (fun x hx st hp => by
      obtain ⟨t, st', e, o, dd, ss, p'⟩ := plan_ok d (n := m + 3) hp hn
      refine ⟨t.enc, st', ?_, p', t, rfl, o, dd, ss⟩
      simp [e])
  have hy : ∃ ps : List Tm, ys = ps.map Tm.enc ∧ ∀ q ∈ ps, q.ok = true ∧ q.dep ≤ d + 1 ∧ q.sz + 1 ≤ 2 ^ (d + 1) := by
    clear e3 l3
    induction ys with
    | nil => exact ⟨[], rfl, by simp⟩
    | cons y ys ih =>
      obtain ⟨t, rfl, h⟩ := r3 y List.mem_cons_self
      obtain ⟨ps, rfl, hp⟩ := ih fun z hz => r3 z (List.mem_cons_of_mem _ hz)
      refine ⟨t :: ps, rfl, fun q hq => ?_⟩
      rcases List.mem_cons.mp hq with rfl | hq
      · exact h
      · exact hp q hq
  obtain ⟨ps, rfl, hp⟩ := hy
  rw [List.length_map, List.length_map, List.length_range] at l3
  refine ⟨w, ps, st3, ?_, ho, hp, fun z => by rw [z] at l3; simp at l3; omega, by omega, p3⟩
  rw [cl, call_run (fn := ⟨2, 4, c47, none, false⟩) rfl rfl (by decide)]
  simp [c47, e1, e3, line]
end Lw
namespace Lw
open PySem L2 PF TL
theorem hins_str {st : Store} {k : Tx} {ps : List Tm} : insD st "Head" "__str__" (hinst k ps) = true := by kernel_rfl
theorem hins_len {st : Store} {k : Tx} {ps : List Tm} : insD st "Head" "__len__" (hinst k ps) = true := by kernel_rfl
theorem hins_get {st : Store} {k : Tx} {ps : List Tm} : insD st "Head" "__getitem__" (hinst k ps) = true := by kernel_rfl
theorem hins_eq {st : Store} {k : Tx} {ps : List Tm} : insD st "Head" "__eq__" (hinst k ps) = true := by kernel_rfl
theorem hins_size {st : Store} {k : Tx} {ps : List Tm} : insD st "Head" "size" (hinst k ps) = true := by kernel_rfl
theorem hins_depth {st : Store} {k : Tx} {ps : List Tm} : insD st "Head" "depth" (hinst k ps) = true := by kernel_rfl
theorem hins_places {st : Store} {k : Tx} {ps : List Tm} : insD st "Head" "places" (hinst k ps) = true := by kernel_rfl
theorem hins_vars {st : Store} {k : Tx} {ps : List Tm} : insD st "Head" "variables" (hinst k ps) = true := by kernel_rfl
theorem hins_cons {st : Store} {k : Tx} {ps : List Tm} : insD st "Head" "constructors" (hinst k ps) = true := by kernel_rfl
theorem hins_closed {st : Store} {k : Tx} {ps : List Tm} : insD st "Head" "is_closed" (hinst k ps) = true := by kernel_rfl
theorem hins_put {st : Store} {k : Tx} {ps : List Tm} : insD st "Head" "put" (hinst k ps) = true := by kernel_rfl
theorem exL_skip {C : Calls} {W : Nat} {c : E} {a : S} {l : List S} {ρ : PF.Env} {st : Store} (h : evT C c ρ st = .ok false st) : exL C W (.ite c a .skip :: l) ρ st = exL C W l ρ st := by
  rw [exL_cons, ex_ite, h]
  rfl
theorem ofd_len {n : Nat} (h : n ≤ 200) : ofD .len (.int n) = some (.int n) := by
  have b2 : (n : Int) < 2 ^ 62 := by omega
  rw [ofD_len, if_pos ⟨Int.natCast_nonneg _, b2⟩]
theorem lcr_list {C : Calls} {ps : List Tm} {ρ : PF.Env} {j : Nat} {a e : E} {st : Store} (hl : ps.length ≤ 1000) (h0 : evs C a ρ st = .ok [.int (ps.length : Nat)] st) (h : ∀ (i : Nat) (q : Tm), ps[i]? = some q → ∀ st, ev C e (ρ.set j (.im (.int i))) st = .ok (.str q.text) st) : ev C (.lcr j a .nil e) ρ st = .ok (ptxs ps) st := by
  have e1 : rangeD [.int (ps.length : Nat)] = some ((List.range ps.length).map fun i : Nat => .int (0 + (i : Int))) := rangeD_1 (by omega) (by omega)
  have e2 : ∀ (is : List Nat), (∀ i ∈ is, i < ps.length) → ∀ st, mapO (lcF C j .nil e ρ) (is.map fun i : Nat => .int (0 + (i : Int))) st = .ok (is.map fun i => .str ((ps[i]?.getD (.v [])).text)) st := by
    intro is
    induction is with
    | nil => intro _ st; rfl
    | cons i is ih =>
      intro h2 st
      have hi := h2 i (List.mem_cons_self ..)
      have hq : ps[i]? = some ps[i] := List.getElem?_eq_getElem hi
      have a1 := h i _ hq st
      have i2 := ih (fun j hj => h2 j (List.mem_cons_of_mem _ hj)) st
      have hz : (0 : Int) + (i : Int) = i := Int.zero_add _
      rw [List.map_cons, mapO, lcF_nil, hz, a1]
      simp only [nox_ok, bind_ok]
      rw [i2, List.map_cons, hq]
      rfl
  have e3 : ((List.range ps.length).map fun i => D.str ((ps[i]?.getD (.v [])).text)) = ps.map fun q => .str q.text := by
    refine List.ext_getElem (by simp) fun i h1 h2 => ?_
    simp at h1 h2
    simp [h2]
  have hz : ¬ line < ((List.range ps.length).map fun i : Nat => D.int (0 + (i : Int))).length := by
    rw [List.length_map, List.length_range]
    unfold line
    omega
  rw [ev_lcr, h0, bind_ok, e1, lift_some, bind_ok, if_neg hz, e2 _ (fun i hi => List.mem_range.mp hi), bind_ok, e3, ptxs]
theorem ptxs_eq {ps : List Tm} (h : ∀ q ∈ ps, q.ok = true) : deq (ptxs ps) (ptxs ps) = some true := by
  refine deq_self (b := false) (n := 2) ?_ (by decide)
  show ((ps.map fun q => D.str q.text).all (pl false 1)) = true
  rw [List.all_eq_true]
  intro d hd
  obtain ⟨q, hq, rfl⟩ := List.mem_map.mp hd
  exact text_pl (h q hq)
theorem rest_pl : ∀ {qs : List Tm} (b : Bool), (∀ q ∈ qs, q.ok = true) → ((restT b qs []).all fun c => decide (c < 0x110000)) = true
  | [], b, _ => by cases b <;> decide
  | q :: qs, b, h => by
    have h1 := rest_pl (qs := qs) false fun p hp => h p (List.mem_cons_of_mem _ hp)
    have h2 := text_pl (h q List.mem_cons_self)
    cases b <;> simp [restT, -List.all_eq_true] at h1 h2 ⊢ <;> simp_all
theorem htext_pl {k : Tx} {ps : List Tm} (hk : isN k = true) (h : ∀ q ∈ ps, q.ok = true) : ((htext k ps).all fun c => decide (c < 0x110000)) = true := by
  unfold htext
  rw [List.all_append, letter_ok (isN_all hk), rest_pl true h]
  rfl
theorem hhead_eq {k : Tx} {ps : List Tm} (hk : isN k = true) (h : ∀ q ∈ ps, q.ok = true) {i j m : Int} : deq (.lst [.str k, .str (htext k ps), .int i, .int j, .int m]) (.lst [.str k, .str (htext k ps), .int i, .int j, .int m]) = some true := by
  refine deq_self (b := false) (n := 2) ?_ (by decide)
  have h1 : pl false 1 (.str k) = true := letter_ok (isN_all hk)
  have h2 : pl false 1 (.str (htext k ps)) = true := htext_pl hk h
  show ([D.str k, .str (htext k ps), .int i, .int j, .int m].all (pl false 1)) = true
  simp only [List.all_cons, List.all_nil, h1, h2, Bool.true_and]
  rfl
theorem evs5 {C : Calls} {a b c d f : E} {x y z w v : D} {ρ : PF.Env} {st : Store} (h1 : ev C a ρ st = .ok x st) (h2 : ev C b ρ st = .ok y st) (h3 : ev C c ρ st = .ok z st) (h4 : ev C d ρ st = .ok w st) (h5 : ev C f ρ st = .ok v st) : ev C (.lst (.cons a (.cons b (.cons c (.cons d (.cons f .nil)))))) ρ st = .ok (.lst [x, y, z, w, v]) st := by
  simp [h1, h2, h3, h4, h5, line]
theorem hright_ok {d n : Nat} {k : Tx} {ps : List Tm} {st : Store} (h : HOk d k ps) (hd : d + 4 ≤ n) : cl (n + 1) 53 [hplan k ps, hinst k ps] st = .ok (.bl true) st := by
  have hs := h.sz
  have hle := h.le
  obtain ⟨m, rfl⟩ : ∃ m, n = m + 4 := ⟨n - 4, by omega⟩
  have d1 : ∀ q ∈ ps, q.dep ≤ m := fun q hq => by have := h.dep q hq; omega
  have hq1 : 1 ≤ d := by
    cases ps with
    | nil => exact absurd rfl h.ne
    | cons q qs => have := h.dep q List.mem_cons_self; have := q.dep_pos; omega
  have c1 : ∀ q ∈ ps, ∀ st, cl (m + 4) 44 [q.enc] st = .ok (strL q.names) st := fun q hq st => lnames_ok (by have := szL_mem hq; omega) (by have := d1 q hq; omega)
  have c2 : ∀ q ∈ ps, ∀ st, cl (m + 4) 50 [q.enc] st = .ok (.int q.dep) st := fun q hq st => ldepth_ok (by have := d1 q hq; omega)
  have c3 : cl (m + 4) 48 [hplan k ps] st = .ok (.str (htext k ps)) st := lheadtext_ok (n := m + 3) h (by omega)
  have c4 : cl (m + 4) 36 [hinst k ps] st = .ok (.str (htext k ps)) st := hstr_ok (n := m + 3) h.k h.ok (by omega) (fun q hq => by have := d1 q hq; omega) h.ne h.le
  have c5 : cl (m + 4) 35 [hinst k ps] st = .ok (.int ps.length) st := hlen_ok
  have c6 : cl (m + 4) 29 [hinst k ps] st = .ok (.int (szL ps)) st := hsize_ok (n := m + 3) (by omega) (fun q hq => by have := d1 q hq; omega)
  have c7 : cl (m + 4) 28 [hinst k ps] st = .ok (.int (depL ps)) st := hdepth_ok (n := m + 3) (fun q hq => by have := d1 q hq; omega)
  have c8 : ∀ st, cl (m + 4) 30 [hinst k ps] st = .ok (.lst (ps.map inst)) st := fun st => hplaces_ok (n := m + 3) (d := d) h.ok h.dep (by omega)
  have c9 : ∀ q ∈ ps, ∀ st, cl (m + 4) 23 [inst q] st = .ok (.str q.text) st := fun q hq st => str_ok (n := m + 3) (h.ok q hq) (by have := szL_mem hq; omega) (by have := d1 q hq; omega)
  have c10 : ∀ (i : Nat) (q : Tm), ps[i]? = some q → ∀ st, cl (m + 4) 34 [hinst k ps, .int i] st = .ok (inst q) st := fun i q hq st => hget_ok (n := m + 3) (d := d) h.ok h.dep h.le (by omega) hq
  have c11 : cl (m + 4) 31 [hinst k ps] st = .ok (strL (varsL ps)) st := hvars_ok (n := m + 2) h.ok (by omega) (fun q hq => by have := d1 q hq; omega) (by omega)
  have c12 : cl (m + 4) 45 [encs ps] st = .ok (strL (varsL ps)) st := lvarsL_ok (n := m + 3) h.ok (by omega) (fun q hq => by have := d1 q hq; omega)
  have c13 : cl (m + 4) 27 [hinst k ps] st = .ok (.bl (varsL ps).isEmpty) st := hclosed_ok (n := m + 2) h.ok (by omega) (fun q hq => by have := d1 q hq; omega) (by omega)
  have c14 : cl (m + 4) 32 [hinst k ps] st = .ok (.lst ((topsL ps).map prE)) st := hconss_ok (n := m + 2) h.ok (by omega) (fun q hq => by have := d1 q hq; omega) (by omega)
  have c15 : cl (m + 4) 52 [encs ps] st = .ok (.lst ((topsL ps).map prE)) st := lallcons_ok (n := m + 3) h.ok (by omega) (fun q hq => by have := d1 q hq; omega)
  have q1 := hhead_eq h.k h.ok (i := (ps.length : Int)) (j := (szL ps : Int)) (m := (depL ps : Int))
  have q2 := ptxs_eq h.ok
  have q3 : deq (strL (varsL ps)) (strL (varsL ps)) = some true := strL_eq fun x hx => by
    rcases once_mem _ [] hx with z | z
    · cases z
    · obtain ⟨t, ht, hx⟩ := List.mem_flatMap.mp (List.mem_filter.mp z).1
      exact (Tm.names_ok (h.ok t ht) x hx).2
  have q4 : deq (.lst ((topsL ps).map prE)) (.lst ((topsL ps).map prE)) = some true := prs_eq fun p hp => by
    rcases once_mem _ [] hp with z | z
    · cases z
    · obtain ⟨t, ht, hx⟩ := List.mem_flatMap.mp z
      exact Tm.tops_pl (h.ok t ht) p hx
  have ex0 : idxD st (hplan k ps) (.int 0) = some (.str k) := rfl
  have ex1 : idxD st (hplan k ps) (.int 1) = some (encs ps) := rfl
  have hb : ps.length ≤ 16777216 := by omega
  -- the sizes and depths
  obtain ⟨z4, f1⟩ := forO_foldG (f := fun x ρ st => (lift (setS ρ 4 x) st).bind fun ρ st => ex (cl (m + 4)) 1000000 (match c53 with | .seq _ (.seq (.for_ _ _ b) _) => b | _ => .skip) ρ st) Tm.enc (fun (acc : Nat × Nat) (z : PF.Slot) => [.im (hplan k ps), .im (hinst k ps), .im (.int acc.1), .im (.int acc.2), z, .un, .un, .un]) (fun acc t => (acc.1 + t.sz, max acc.2 t.dep))
    (fun acc rest => ∀ t ∈ rest, t ∈ ps) (st := st) (fun acc t rest z hm => by
      have ht := hm t List.mem_cons_self
      have a1 := c1 t ht
      have a2 := c2 t ht
      have hb : t.names.length ≤ 16777216 := by have := szL_mem ht; unfold Tm.sz at this; omega
      refine ⟨⟨.im t.enc, ?_⟩, fun u hu => hm u (List.mem_cons_of_mem _ hu)⟩
      by_cases hc : (acc.2 : Int) < t.dep
      · have hm : max acc.2 t.dep = t.dep := by omega
        simp [c53, a1, a2, hc, hm, strL, Tm.sz, hb, line]
      · have hm : max acc.2 t.dep = acc.2 := by omega
        simp [c53, a1, a2, hc, hm, strL, Tm.sz, hb, line]) ps (0, 0) .un (fun t ht => ht)
  have ef : ∀ (us : List Tm) (a b : Nat), us.foldl (fun (acc : Nat × Nat) t => (acc.1 + t.sz, max acc.2 t.dep)) (a, b) = (a + szL us, us.foldl (fun a q => max a q.dep) b) := by
    intro us
    induction us with
    | nil => intro a b; rfl
    | cons u us ih => intro a b; rw [List.foldl_cons, ih, szL_cons]; simp; omega
  rw [ef, Nat.zero_add] at f1
  rw [cl, call_run (fn := ⟨2, 8, c53, none, false⟩) rfl rfl (by decide)]
  show finK false (ex (cl (m + 4)) 1000000 c53 [.im (hplan k ps), .im (hinst k ps), .un, .un, .un, .un, .un, .un] st) = _
  rw [ex_seqs]
  let ρ1 : PF.Env := [.im (hplan k ps), .im (hinst k ps), .im (.int (szL ps)), .im (.int (depL ps)), z4, .un, .un, .un]
  have s0 : exL (cl (m + 4)) 1000000 ((seqs c53).take 1) [.im (hplan k ps), .im (hinst k ps), .un, .un, .un, .un, .un, .un] st = .ok (.next [.im (hplan k ps), .im (hinst k ps), .im (.int 0), .im (.int 0), .un, .un, .un, .un]) st := by kernel_rfl
  rw [seg 1 s0]
  have s1 : exL (cl (m + 4)) 1000000 (((seqs c53).drop 1).take 1) [.im (hplan k ps), .im (hinst k ps), .im (.int 0), .im (.int 0), .un, .un, .un, .un] st = .ok (.next ρ1) st := by
    simp [c53, seqs, exL_cons, exL_nil, ex_for, ex1] at f1 ⊢
    rw [f1]
    rfl
  rw [seg 1 s1, List.drop_drop]
  let dues : D := .lst [.str k, .str (htext k ps), .int ps.length, .int (szL ps), .int (depL ps)]
  let ρ2 : PF.Env := [.im (hplan k ps), .im (hinst k ps), .im (.int (szL ps)), .im (.int (depL ps)), z4, .im dues, .un, .un]
  have s2 : exL (cl (m + 4)) 1000000 (((seqs c53).drop 2).take 1) ρ1 st = .ok (.next ρ2) st := by
    simp [c53, seqs, exL_cons, exL_nil, ρ1, ex0, ex1, c3, hb, line]
    rfl
  rw [seg 1 s2, List.drop_drop]
  have s3 : exL (cl (m + 4)) 1000000 (((seqs c53).drop 3).take 1) ρ2 st = .ok (.next ρ2) st := by
    have a1 : ev (cl (m + 4)) (.fld (.var 1) "task") ρ2 st = .ok (.str k) st := by simp [ρ2, hfld_task]
    have a2 : ev (cl (m + 4)) (.own1 .str 36 "Head" (.var 1)) ρ2 st = .ok (.str (htext k ps)) st := by
      have e1 : ev (cl (m + 4)) (.var 1) ρ2 st = .ok (hinst k ps) st := by simp [ρ2]
      rw [ev_own1, e1, bind_ok, if_pos (show insD st "Head" (OF.name .str) (hinst k ps) = true from hins_str), c4, nox_ok, bind_ok]
      rfl
    have a3 : ev (cl (m + 4)) (.own1 .len 35 "Head" (.var 1)) ρ2 st = .ok (.int ps.length) st := by
      have e1 : ev (cl (m + 4)) (.var 1) ρ2 st = .ok (hinst k ps) st := by simp [ρ2]
      rw [ev_own1, e1, bind_ok, if_pos (show insD st "Head" (OF.name .len) (hinst k ps) = true from hins_len), c5, nox_ok, bind_ok, ofd_len (by omega)]
      rfl
    have a4 : ev (cl (m + 4)) (.prp 29 "Head" "size" (.var 1)) ρ2 st = .ok (.int (szL ps)) st := by
      have e1 : ev (cl (m + 4)) (.var 1) ρ2 st = .ok (hinst k ps) st := by simp [ρ2]
      rw [ev_prp, e1, bind_ok, if_pos hins_size, c6]
      rfl
    have a5 : ev (cl (m + 4)) (.prp 28 "Head" "depth" (.var 1)) ρ2 st = .ok (.int (depL ps)) st := by
      have e1 : ev (cl (m + 4)) (.var 1) ρ2 st = .ok (hinst k ps) st := by simp [ρ2]
      rw [ev_prp, e1, bind_ok, if_pos hins_depth, c7]
      rfl
    have a6 := evs5 a1 a2 a3 a4 a5
    refine exL_skip (a := .seq (.ret (.cst (.bl false))) .skip) (l := []) (c := .tcm .ne (.lst (.cons (.fld (.var 1) "task") (.cons (.own1 .str 36 "Head" (.var 1)) (.cons (.own1 .len 35 "Head" (.var 1)) (.cons (.prp 29 "Head" "size" (.var 1)) (.cons (.prp 28 "Head" "depth" (.var 1)) .nil)))))) (.var 5)) ?_
    rw [evT_tcm, opd_lst, a6, bind_ok]
    have e5 : ev (cl (m + 4)) (.var 5) ρ2 st = .ok dues st := by simp [ρ2]
    rw [opd_var, e5, bind_ok, cmpD_ne, q1]
    rfl
  rw [seg 1 s3, List.drop_drop]
  let ρ3 : PF.Env := [.im (hplan k ps), .im (hinst k ps), .im (.int (szL ps)), .im (.int (depL ps)), z4, .im dues, .im (ptxs ps), .un]
  have s4 : exL (cl (m + 4)) 1000000 (((seqs c53).drop 4).take 1) ρ2 st = .ok (.next ρ3) st := by
    have e3 := ltexts (n := m + 4) (j := 4) (src := .idx (.var 0) (.cst (.int 1))) (ρ := ρ2) (st := st) h (by omega) (by simp [ρ2, ex1]) (by simp [ρ2])
    unfold c53
    simp only [seqs, List.drop, List.take, exL_cons, exL_nil, ex_set, e3, O.thn]
    rfl
  rw [seg 1 s4, List.drop_drop]
  have s5 : exL (cl (m + 4)) 1000000 (((seqs c53).drop 5).take 1) ρ3 st = .ok (.next ρ3) st := by
    have l1 : ev (cl (m + 4)) (.lc 4 (.mthf 30 "Head" "places" (.var 1) .nil) .nil (.own1 .str 23 "Term" (.var 4))) ρ3 st = .ok (ptxs ps) st := by
      refine ev_lc_from (ps := ps) (fx := inst) (fy := fun q => .str q.text) (s := .lst (ps.map inst)) ?_ rfl fun q hq st => ?_
      · simp [ρ3, hins_places, c8, lstD]
      · have := c9 q hq st
        simp [ρ3, ins_str, this, OF.name]
    unfold c53
    simp only [seqs, List.drop, List.take]
    simp only [exL_cons, exL_nil, ex_ite, evT_tcm, opd_lc]
    rw [l1]
    simp [ρ3, q2, exL_nil]
  rw [seg 1 s5, List.drop_drop]
  have s6 : exL (cl (m + 4)) 1000000 (((seqs c53).drop 6).take 1) ρ3 st = .ok (.next ρ3) st := by
    have l3 : ev (cl (m + 4)) (.lcr 7 (.cons (.cb .len (.cons (.var 6) .nil)) .nil) .nil (.own1 .str 23 "Term" (.gti 34 "Head" (.var 1) (.var 7)))) ρ3 st = .ok (ptxs ps) st := by
      refine lcr_list (by omega) ?_ fun i q hq st => ?_
      · simp [ρ3, ptxs]
      · have a1 := c10 i q hq st
        have a2 := c9 q (List.mem_of_getElem? hq) st
        simp [ρ3, hins_get, ins_str, a1, a2, OF.name]
    unfold c53
    simp only [seqs, List.drop, List.take]
    simp only [exL_cons, exL_nil, ex_ite, evT_tcm, opd_lcr]
    rw [l3]
    simp [ρ3, q2, exL_nil]
  rw [seg 1 s6, List.drop_drop]
  unfold c53
  simp only [seqs, List.drop]
  simp [exL_cons, exL_nil, ρ3, ex1, hins_vars, hins_closed, hins_cons, c11, c12, c13, c14, c15, q3, q4, line]
  simp [strL, exL_cons, exL_nil, hins_cons, ex1, c14, c15, q4, line]
end Lw
namespace Lw
open PySem L2 PF TL
theorem in_tb_h {st : Store} {k : Tx} {ps : List Tm} : inTb [.o "Head"] (tyN st (hinst k ps)) = true := by kernel_rfl
theorem in_tb_t {st : Store} {t : Tm} : inTb [.o "Term"] (tyN st (inst t)) = true := by kernel_rfl
theorem in_tb_s : inTb [.b "NoneType", .b "bool", .b "int", .b "str", .b "list", .b "tuple", .b "dict"] (some (.b "str")) = true := by kernel_rfl
theorem dsp_two {x y : Tx} {a b : D} (h : x ≠ y) : dspD [(.str x, a), (.str y, b)] = some (.dct [(.inr (tx x), a), (.inr (tx y), b)]) := by
  have hk : ¬ ((.inr (tx x) : Key) = .inr (tx y)) := fun z => h (TL.tx_inj (Sum.inr.inj z))
  unfold dspD
  rw [if_pos (by simp)]
  simp [keysD, keyD, mergeD, putD, hk]
theorem sz_sum : ∀ {ps : List Tm} {m : Nat}, (∀ q ∈ ps, q.sz ≤ m) → szL ps ≤ ps.length * m
  | [], m, _ => by simp [szL]
  | q :: qs, m, h => by
    have := sz_sum (ps := qs) (m := m) fun p hp => h p (List.mem_cons_of_mem _ hp)
    have := h q List.mem_cons_self
    rw [szL_cons, List.length_cons, Nat.add_mul]
    omega
def b0 : S := match c54 with | .seq (.forr _ _ b) _ => b | _ => .skip
theorem one_ok {ns : List Int} {k : Int} {z2 z3 z4 z5 z6 z7 z8 z9 z10 z11 : PF.Slot} {st : Store} (hk0 : 0 ≤ k) (hk1 : k < 64) : ∃ y2 y3 y4 y5 y6 y7 y8 y9 y10 y11 st', ex (cl 20) 1000000 b0 [.im (.scr (ns.map .int)), .im (.int k), z2, z3, z4, z5, z6, z7, z8, z9, z10, z11] st = .ok (.next [.im (.scr (ns.map .int)), .im (.int k), y2, y3, y4, y5, y6, y7, y8, y9, y10, y11]) st' := by
  obtain ⟨st1, e1, p1⟩ := lawpool_ok (n := 19) (ns := ns) (k := k) (st := st) hk0 hk1
  obtain ⟨w, ps, st2, e2, hw, hp, hne, hle, p2⟩ := lheadplan_ok (n := 19) (d := 2) p1 (by decide) (by decide)
  rw [show ((2 : Nat) : Int) + 1 = 3 from rfl] at e2
  obtain ⟨t0, st3, e3, o3, d3, s3, p3⟩ := plan_ok 1 (n := 20) p2 (by decide)
  rw [show ((1 : Nat) : Int) + 1 = 2 from rfl] at e3
  have hsz : ∀ q ∈ ps, q.sz ≤ 7 := fun q hq => by have : q.sz + 1 ≤ 8 := (hp q hq).2.2; omega
  have s3 : t0.sz ≤ 3 := by have : t0.sz + 1 ≤ 4 := s3; omega
  have hs := sz_sum hsz
  have H : HOk 3 w ps := ⟨hw, fun q hq => (hp q hq).1, fun q hq => (hp q hq).2.1, by omega, hne, hle⟩
  let es : List (Tx × D × Tm) := [([120], .str t0.text, t0), ([121], inst (.v [120]), .v [120])]
  have hes : ∀ e ∈ es, isN e.1 = true ∧ VOk 16 e.2.1 e.2.2 := by
    intro e he
    rcases List.mem_cons.mp he with rfl | he
    · exact ⟨(by decide : isN [120] = true), o3, .inr ⟨rfl, (by show t0.sz ≤ 200; omega), (by show 2 * t0.dep ≤ 16; omega)⟩⟩
    · rw [List.mem_singleton] at he
      subst he
      exact ⟨by decide, by decide, .inl rfl⟩
  have hpw : es.Pairwise (fun a b => a.1 ≠ b.1) := by simp [es]
  have hσ1 : Sb.ok (sbE es) := fun p hpm => by
    obtain ⟨e, he, rfl⟩ := List.mem_map.mp hpm
    exact (hes e he).2.1
  have hσ2 : ∀ p ∈ sbE es, p.2.dep ≤ 2 := by
    intro p hpm
    obtain ⟨e, he, rfl⟩ := List.mem_map.mp hpm
    rcases List.mem_cons.mp he with rfl | he
    · exact d3
    · rw [List.mem_singleton] at he
      subst he
      decide
  have hσ3 : ∀ p ∈ sbE es, p.2.sz ≤ 3 := by
    intro p hpm
    obtain ⟨e, he, rfl⟩ := List.mem_map.mp hpm
    rcases List.mem_cons.mp he with rfl | he
    · exact s3
    · rw [List.mem_singleton] at he
      subst he
      decide
  have hm : ∀ q ∈ ps, (q.sub (sbE es)).dep ≤ 4 := fun q hq => by
    have := Tm.sub_dep (m := 2) (by decide) hσ2 (t := q)
    have := (hp q hq).2.1
    omega
  have hms : ∀ q ∈ ps.map (Tm.sub (sbE es)), q.sz ≤ 21 := fun q hq => by
    obtain ⟨t, ht, rfl⟩ := List.mem_map.mp hq
    have := Tm.sub_sz (m := 3) (by decide) hσ3 (t := t)
    have := hsz t ht
    omega
  have hms2 := sz_sum hms
  rw [List.length_map] at hms2
  have M : HOk 4 w (ps.map (Tm.sub (sbE es))) := ⟨hw, fun q hq => by
    obtain ⟨t, ht, rfl⟩ := List.mem_map.mp hq
    exact Tm.sub_ok hσ1 (hp t ht).1, fun q hq => by
    obtain ⟨t, ht, rfl⟩ := List.mem_map.mp hq
    exact hm t ht, by omega, by simpa using hne, by simpa using hle⟩
  obtain ⟨p0, pr, hps⟩ : ∃ p0 pr, ps = p0 :: pr := by
    cases ps with
    | nil => exact absurd rfl hne
    | cons a b => exact ⟨a, b, rfl⟩
  have hp0 := hp p0 (by rw [hps]; exact List.mem_cons_self)
  have c1 : ∀ st, cl 20 49 [hplan w ps] st = .ok (hinst w ps) st := fun st => lhead_ok (n := 17) H (by decide)
  have c2 : ∀ st, cl 20 48 [hplan w ps] st = .ok (.str (htext w ps)) st := fun st => lheadtext_ok (n := 19) H (by decide)
  have c3 : ∀ st, cl 20 26 [.str (htext w ps)] st = .ok (hinst w ps) st := fun st => hread_ok (n := 17) (d := 3) hw H.ok H.dep H.sz hne hle (by decide) (by decide)
  have c4 : ∀ st, cl 20 42 [p0.enc] st = .ok (.str p0.text) st := fun st => ltext_ok hp0.1 (by omega) (by omega)
  have c5 : ∀ st, cl 20 22 [.str p0.text] st = .ok (inst p0) st := fun st => read_m (n := 19) hp0.1 (by omega) (by omega)
  have c6 : ∀ st, cl 20 53 [hplan w ps, hinst w ps] st = .ok (.bl true) st := fun st => hright_ok (n := 19) H (by decide)
  have c7 : ∀ st, cl 20 53 [hplan w (ps.map (Tm.sub (sbE es))), hinst w (ps.map (Tm.sub (sbE es)))] st = .ok (.bl true) st := fun st => hright_ok (n := 19) M (by decide)
  have c8 : ∀ st, cl 20 37 [hinst w ps, hinst w ps] st = .ok (.bl true) st := fun st => by
    have := heq_ok (n := 19) (st := st) hw hw H.ok H.ok (fun q hq => by have := H.dep q hq; omega) (fun q hq => by have := H.dep q hq; omega)
    rw [decide_eq_true ⟨rfl, rfl⟩] at this
    exact this
  have c9 : ∀ st, cl 20 37 [hinst w [p0], hinst w ps] st = .ok (.bl (decide (ps.length = 1))) st := fun st => by
    have := heq_ok (n := 19) (st := st) (ps := [p0]) hw hw (fun q hq => by rw [List.mem_singleton] at hq; rw [hq]; exact hp0.1) H.ok (fun q hq => by rw [List.mem_singleton] at hq; rw [hq]; omega) (fun q hq => by have := H.dep q hq; omega)
    rw [this]
    have hd : decide (w = w ∧ [p0] = ps) = decide (ps.length = 1) := by
      rw [decide_eq_decide, hps]
      constructor
      · rintro ⟨_, h⟩
        rw [← h]; rfl
      · intro h
        have : pr = [] := List.length_eq_zero_iff.mp (by simpa using h)
        exact ⟨rfl, by rw [this]⟩
    rw [hd]
  have c10 : ∀ st, cl 20 37 [hinst w ps, .str (htext w ps)] st = .ok (.bl false) st := fun st => heq_text (n := 19)
  have c11 : ∀ st, cl 20 37 [hinst w ps, inst p0] st = .ok (.bl false) st := fun st => heq_term (n := 19)
  have c12 : ∀ st, cl 20 36 [hinst w ps] st = .ok (.str (htext w ps)) st := fun st => hstr_ok (n := 19) hw H.ok (by have := H.sz; omega) (fun q hq => by have := H.dep q hq; omega) hne hle
  have c13 : ∀ st, cl 20 25 [.str w, .tup [inst p0]] st = .ok (hinst w [p0]) st := fun st => headinit_ok (n := 18) (es := [(inst p0, p0)]) hw (fun e he => by
    rw [List.mem_singleton] at he
    subst he
    exact ⟨hp0.1, .inl rfl⟩) (by simp) (by simp)
  have c14 : ∀ st, cl 20 42 [t0.enc] st = .ok (.str t0.text) st := fun st => ltext_ok o3 (by omega) (by omega)
  have c15 : ∀ st, cl 20 21 [.str [120], .tup []] st = .ok (inst (.v [120])) st := fun st => init_ok (n := 18) (k := [120]) (ps := []) (st := st) (by simp) (.inl ⟨by decide, rfl⟩) (by simp)
  have c16 : ∀ st, cl 20 33 [hinst w ps, dctE es] st = .ok (hinst w (ps.map (Tm.sub (sbE es)))) st := fun st => put_ok (n := 17) (d := 4) hw H.ok hne hle (fun e he => by
    obtain ⟨h1, h2, h3⟩ := hes e he
    refine ⟨h1, h2, ?_⟩
    rcases h3 with h3 | ⟨h3, h4, h5⟩
    · exact .inl h3
    · exact .inr ⟨h3, h4, by omega⟩) hpw (by simp [es]) (fun q hq => ⟨by have := H.dep q hq; omega, hm q hq⟩) (by decide)
  have c17 : ∀ q ∈ ps, ∀ st, cl 20 46 [q.enc, .dct (sbK (sbE es))] st = .ok (q.sub (sbE es)).enc st := fun q hq st => lput_ok 3 (H.dep q hq) (hp q hq).1 (by decide)
  have c18 : ∀ st, cl 20 30 [hinst w ps] st = .ok (.lst (ps.map inst)) st := fun st => hplaces_ok (n := 19) (d := 3) H.ok H.dep (by decide)
  have i1 : ∀ ps, insOf "Head" (hinst w ps) = some (hinst w ps) := fun _ => rfl
  have i2 : ∀ t, insOf "Term" (inst t) = some (inst t) := fun _ => rfl
  have hb : ps.length ≤ 16777216 := by omega
  have hb1 : ps.length < 16777216 := by omega
  have x0 : ∀ st, idxD st (hplan w ps) (.int 0) = some (.str w) := fun _ => rfl
  have x1 : ∀ st, idxD st (hplan w ps) (.int 1) = some (encs ps) := fun _ => rfl
  have x2 : ∀ st, idxD st (encs ps) (.int 0) = some p0.enc := fun st => by
    rw [hps]
    show atI ((p0 :: pr).map Tm.enc) ((0 : Nat) : Int) = _
    rw [atG]
    rfl
  have lt : decide (ps.length = 1) = ((ps.length : Int) == 1) := by
    rw [Bool.eq_iff_iff, decide_eq_true_iff, beq_iff_eq]
    omega
  rw [ex_seqs]
  let ρ0 : PF.Env := [.im (.scr (ns.map .int)), .im (.int k), z2, z3, z4, z5, z6, z7, z8, z9, z10, z11]
  let ρ1 : PF.Env := [.im (.scr (ns.map .int)), .im (.int k), .im (.ref st.length), .im (hplan w ps), .im (hinst w ps), .im (hinst w ps), .im (inst p0), z7, z8, z9, z10, z11]
  have a1 : exL (cl 20) 1000000 ((seqs b0).take 4) ρ0 st = .ok (.next ρ1) st2 := by
    simp [b0, c54, seqs, exL_cons, exL_nil, ρ0, e1, e2, ex_par, c1, c2, c3, x1, x2, c4, c5]
    rfl
  rw [seg 4 a1]
  have a2 : exL (cl 20) 1000000 (((seqs b0).drop 4).take 1) ρ1 st2 = .ok (.next ρ1) st2 := by
    unfold b0 c54
    simp only [seqs, List.drop, List.take]
    simp [exL_cons, exL_nil, ρ1, c6, c8, hins_eq, in_tb_h, boolD, eqOp]
  rw [seg 1 a2, List.drop_drop]
  have a3 : exL (cl 20) 1000000 (((seqs b0).drop 5).take 1) ρ1 st2 = .ok (.next ρ1) st2 := by
    unfold b0 c54
    simp only [seqs, List.drop, List.take]
    simp [exL_cons, exL_nil, ρ1, c10, c11, c12, hins_eq, hins_str, in_tb_s, in_tb_t, boolD, eqOp, OF.name]
  rw [seg 1 a3, List.drop_drop]
  have a4 : exL (cl 20) 1000000 (((seqs b0).drop 6).take 1) ρ1 st2 = .ok (.next ρ1) st2 := by
    unfold b0 c54
    simp only [seqs, List.drop, List.take]
    simp [exL_cons, exL_nil, ρ1, x0, x1, packD, c13, c9, i1, hins_eq, in_tb_h, boolD, eqOp, hb, lt, line]
  rw [seg 1 a4, List.drop_drop]
  let dd : D := .dct (sbK (sbE es))
  let ρ2 : PF.Env := [.im (.scr (ns.map .int)), .im (.int k), .im (.ref st.length), .im (hplan w ps), .im (hinst w ps), .im (hinst w ps), .im (inst p0), .im dd, z8, z9, z10, z11]
  have a5 : exL (cl 20) 1000000 (((seqs b0).drop 7).take 1) ρ1 st2 = .ok (.next ρ2) st3 := by
    have hd : dspD [(.str [120], t0.enc), (.str [121], .tup [.str [120]])] = some dd := dsp_two (by decide)
    unfold b0 c54
    simp only [seqs, List.drop, List.take]
    simp [exL_cons, exL_nil, ρ1, e3, hd, line]
    rfl
  rw [seg 1 a5, List.drop_drop]
  let ρ3 : PF.Env := [.im (.scr (ns.map .int)), .im (.int k), .im (.ref st.length), .im (hplan w ps), .im (hinst w ps), .im (hinst w ps), .im (inst p0), .im dd, .im (hinst w (ps.map (Tm.sub (sbE es)))), z9, z10, z11]
  have a6 : exL (cl 20) 1000000 (((seqs b0).drop 8).take 1) ρ2 st3 = .ok (.next ρ3) st3 := by
    have hd : dspD [(.str [120], .str t0.text), (.str [121], inst (.v [120]))] = some (dctE es) := dsp_two (by decide)
    have hx : dgetD dd (.str [120]) = some (some t0.enc) := rfl
    unfold b0 c54
    simp only [seqs, List.drop, List.take]
    simp [exL_cons, exL_nil, ρ2, hx, c14, c15, i2, hd, packD, hins_put, c16, line]
    rfl
  rw [seg 1 a6, List.drop_drop]
  let ρ4 : PF.Env := [.im (.scr (ns.map .int)), .im (.int k), .im (.ref st.length), .im (hplan w ps), .im (hinst w ps), .im (hinst w ps), .im (inst p0), .im dd, .im (hinst w (ps.map (Tm.sub (sbE es)))), .im (hplan w (ps.map (Tm.sub (sbE es)))), z10, z11]
  have a7 : exL (cl 20) 1000000 (((seqs b0).drop 9).take 1) ρ3 st3 = .ok (.next ρ4) st3 := by
    have l1 : ev (cl 20) (.lc 11 (.idx (.var 3) (.cst (.int 1))) .nil (.call 46 (.cons (.var 11) (.cons (.var 7) .nil)))) ρ3 st3 = .ok (encs (ps.map (Tm.sub (sbE es)))) st3 := by
      have : encs (ps.map (Tm.sub (sbE es))) = .lst (ps.map fun q => (q.sub (sbE es)).enc) := by simp [encs, Function.comp_def]
      rw [this]
      refine ev_lc_from (ps := ps) (fx := Tm.enc) (s := encs ps) (by simp [ρ3, x1]) rfl fun q hq st => ?_
      have := c17 q hq st
      simp [ρ3, dd, this]
    unfold b0 c54
    simp only [seqs, List.drop, List.take]
    have l0 : ev (cl 20) (.idx (.var 3) (.cst (.int 0))) ρ3 st3 = .ok (.str w) st3 := by simp [ρ3, x0]
    rw [exL_cons, ex_set, ev_tup, evs_cons, l0, bind_ok, evs_cons, l1]
    simp [exL_nil, line]
    rfl
  rw [seg 1 a7, List.drop_drop]
  have a8 : exL (cl 20) 1000000 (((seqs b0).drop 10).take 1) ρ4 st3 = .ok (.next ρ4) st3 := by
    unfold b0 c54
    simp only [seqs, List.drop, List.take]
    simp [exL_cons, exL_nil, ρ4, c6, c7]
  rw [seg 1 a8, List.drop_drop]
  refine ⟨.im (.ref st.length), .im (hplan w ps), .im (hinst w ps), .im (hinst w ps), .im (inst p0), .im dd, .im (hinst w (ps.map (Tm.sub (sbE es)))), .im (hplan w (ps.map (Tm.sub (sbE es)))), .ol (ps.map inst ++ [.non]), z11, st3, ?_⟩
  unfold b0 c54
  simp only [seqs, List.drop]
  simp [exL_cons, exL_nil, ρ4, PF.fresh, c18, x1, hins_places, lstD, ownS, hb, hb1, line]
theorem law_ok {st : Store} {ns : List Int} (hn : ns.length ≤ 63) : ∃ st', cl 21 54 [.scr (ns.map .int)] st = .ok (.bl true) st' := by
  rw [cl, call_run (fn := ⟨1, 12, c54, none, false⟩) rfl rfl (by decide)]
  obtain ⟨m, hm0, hm1, em⟩ : ∃ m : Int, 0 ≤ m ∧ m ≤ 12 ∧ evs (call Fs 1000000 20) (.cons (.cb .max2 (.cons (.cst (.int 1)) (.cons (.cb .min2 (.cons (.cb .len (.cons (.var 0) .nil)) (.cons (.cst (.int 4)) .nil))) .nil))) .nil) [.im (.scr (ns.map .int)), .un, .un, .un, .un, .un, .un, .un, .un, .un, .un, .un] st = .ok [.int m] st := by
    refine ⟨_, ?_, ?_, by simp; rfl⟩
    · split <;> omega
    · split <;> split <;> omega
  obtain ⟨ρ', st', e, x1, x2, x3, x4, x5, x6, x7, x8, x9, x10, x11, rfl⟩ := forO_inv (f := fun x ρ st => (lift (setS ρ 1 x) st).bind fun ρ st => ex (call Fs 1000000 20) 1000000 b0 ρ st) (fun ρ st => ∃ x1 x2 x3 x4 x5 x6 x7 x8 x9 x10 x11, ρ = [.im (.scr (ns.map .int)), x1, x2, x3, x4, x5, x6, x7, x8, x9, x10, x11])
    (xs := (List.range m.toNat).map fun (k : Nat) => .int (0 + (k : Int))) (ρ := [.im (.scr (ns.map .int)), .un, .un, .un, .un, .un, .un, .un, .un, .un, .un, .un]) (st := st) ⟨_, _, _, _, _, _, _, _, _, _, _, rfl⟩ (by
    rintro x hx ρ st ⟨x1, x2, x3, x4, x5, x6, x7, x8, x9, x10, x11, rfl⟩
    obtain ⟨k, hk, rfl⟩ := List.mem_map.mp hx
    have hk := List.mem_range.mp hk
    obtain ⟨y2, y3, y4, y5, y6, y7, y8, y9, y10, y11, st', e⟩ := one_ok (st := st) (ns := ns) (k := 0 + (k : Int)) (z2 := x2) (z3 := x3) (z4 := x4) (z5 := x5) (z6 := x6) (z7 := x7) (z8 := x8) (z9 := x9) (z10 := x10) (z11 := x11) (by omega) (by omega)
    refine ⟨_, st', ?_, .im (.int (0 + (k : Int))), y2, y3, y4, y5, y6, y7, y8, y9, y10, y11, rfl⟩
    simp only [setS_s, setS_0, Option.map, lift, O.bind]
    exact e)
  refine ⟨st', ?_⟩
  have ec : c54 = .seq (.forr 1 (.cons (.cb .max2 (.cons (.cst (.int 1)) (.cons (.cb .min2 (.cons (.cb .len (.cons (.var 0) .nil)) (.cons (.cst (.int 4)) .nil))) .nil))) .nil) b0) (.seq (.ret (.cst (.bl true))) .skip) := rfl
  show finK false (ex _ _ c54 [.im (.scr (ns.map .int)), .un, .un, .un, .un, .un, .un, .un, .un, .un, .un, .un] st) = _
  rw [ec, ex_seq, ex_forr, em]
  simp only [O.thn]
  rw [rangeD_1 (by omega) (by omega)]
  have e' := e
  simp only [lift, O.bind] at e' ⊢
  rw [e']
  simp
theorem runs (ns : List Int) (hn : ns.length ≤ 63) : ∃ st, lawRun Ds 1000000 21 54 ns = .ok (.bl true) st := law_ok hn
end Lw
theorem PySem.Challenge.cw_soleinstances_k09_heads_told_holds : PySem.Challenge.rw_soleinstances_k09_heads_told.Holds := by
  exact Lw.ends 21 ⟨rfl, by decide, by decide⟩ Lw.runs
