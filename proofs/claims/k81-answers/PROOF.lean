import PyProof.Rows.All
import Wide.All
import OpenK.AllK
import Wide.FinOn
import HandS.ForMost
import HandS.ForExc
import HandS.CallSlots
import HandS.Flow
import HandS.Style
import HandS.IsInst
import HandS.Steps
import HandS.Deep
import HandS.FStr
import HandS.StrMore
import HandS.ExcInit
import HandS.ExcField
import HandS.HeadHook1
import HandS.Walk
import HandS.Lambda
import HandS.Defaults
import HandS.HeadHook3
import HandS.HeadHook4
import HandS.Head0
import HandS.Head1
import HandS.Head2
import HandS.HeadEnd
import HandS.HeadHook2
import PySem.Challenge.RW_soleinstances_k81_answers_as_notes
set_option Elab.async false
set_option linter.all false
set_option maxRecDepth 100000
set_option maxHeartbeats 4000000
/-! A small interpreter over data: the values D, the compact text E and S, ev, ex, call. -/
namespace PF
open PySem L2
/-- a text: its signs -/
abbrev Tx := List Nat
def tx (s : Tx) : Str := ⟨s.toArray⟩
def unt (s : Str) : Tx := s.cps.toList
/-- data: what is never changed again; ref: a thing that lives in the store -/
inductive D where
  | non | bl (b : Bool) | int (i : Int) | str (s : Tx) | lst (xs : List D) | tup (xs : List D)
  | dct (kvs : List (Key × D)) | ins (c : Str) (fs : List (Str × D)) | ref (n : Nat) | ty (n : String) | scr (xs : List D)
inductive Cell where
  | lst (xs : List D) | dct (kvs : List (Key × D)) | ins (c : Str) (fs : List (Str × D))
abbrev Store := List Cell
/-- an error: its class, its attributes -/
structure Exn where
  c : Str
  fs : List (Str × D)
inductive O (α : Type) where
  | ok (a : α) (st : Store)
  | exc (x : Exn) (st : Store)
  | bad
def O.bind {α β : Type} : O α → (α → Store → O β) → O β
  | .ok a st, f => f a st
  | .exc x st, _ => .exc x st
  | .bad, _ => .bad
/-- no error may leave here -/
def O.nox {α : Type} : O α → O α
  | .exc _ _ => .bad
  | .ok a st => .ok a st
  | .bad => .bad
/-- an operation on values: it gives a value, or is stuck -/
def lift {α : Type} : Option α → Store → O α
  | some a, st => .ok a st
  | none, _ => .bad
section
variable {α β : Type} {a : α} {st : Store} {x : Exn} {f : α → Store → O β}
@[simp] theorem bind_ok : O.bind (.ok a st) f = f a st := rfl
@[simp] theorem bind_exc : O.bind (.exc x st) f = .exc x st := rfl
@[simp] theorem bind_bad : O.bind .bad f = .bad := rfl
@[simp] theorem nox_ok : O.nox (.ok a st) = .ok a st := rfl
@[simp] theorem nox_exc : O.nox (.exc x st : O α) = .bad := rfl
@[simp] theorem nox_bad : O.nox (.bad : O α) = .bad := rfl
@[simp] theorem lift_some : lift (some a) st = .ok a st := rfl
@[simp] theorem lift_none : lift (none : Option α) st = .bad := rfl
end
/-- a local name: not set, data, a list (dict) of the frame's own that grows -/
inductive Slot where
  | un | im (d : D) | ol (ds : List D) | od (kvs : List (Key × D))
abbrev Env := List Slot
inductive BOp where
  | add | sub | mul | mod | fdiv | pow
  deriving DecidableEq
inductive COp where
  | eq | ne | lt | le | gt | ge | is | isnot | inn | notin
  deriving DecidableEq
/-- built-ins called by name -/
inductive BF where
  | len | max2 | min2 | int | str | list | tuple | all | any | isi
  deriving DecidableEq
/-- methods of built-in types -/
inductive BM where
  | upper | lower | join | count | find | items | get
  deriving DecidableEq
/-- expressions and lists of them (nil, cons) -/
inductive E where
  | var (i : Nat) | bor (i : Nat) | cst (d : D) | glb (x : Str) (d : D)
  | nil | cons (a b : E) | con2 (k v r : E) | dsp (a : E)
  | bin (o : BOp) (a b : E) | neg (a : E)
  | cmp (o : COp) (a b : E) | chn (o p : COp) (a b c : E) | tcm (o : COp) (a b : E) | tch (o p : COp) (a b c : E)
  | and (a b : E) | or (a b : E) | not (a : E) | tst (a : E)
  | ite (c a b : E)
  | tup (a : E) | lst (a : E) | new (a : E)
  | idx (a b : E) | slc (a lo hi : E)
  | cb (f : BF) (a : E) | bm (m : BM) (o a : E)
  | call (f : Nat) (a : E)
  | lc (j : Nat) (src c e : E) | lcr (j : Nat) (a c e : E)
  | fmt (a : E) | fst (a : E) | exf (c f : Str) (i : Nat)
inductive S where
  | skip | seq (a b : S)
  | set (i : Nat) (e : E) | own (i : Nat) (e : E) | frz (i : Nat)
  | app (i : Nat) (e : E) | ext (i : Nat) (e : E)
  | aug (i : Nat) (o : BOp) (e : E)
  | put (o k e : E)
  | exp (e : E) | ret (e : E) | retn
  | ite (c : E) (a b : S)
  | for_ (j : Nat) (src : E) (b : S) | forr (j : Nat) (a : E) (b : S) | whl (c : E) (b : S)
  | brk | cnt
  | unp (is : List Nat) (e : E) | rse (c : Str) (fs : List Str) (a : E) | tryas (b : S) (cs : List (Str × Bool)) (c : Str) (i : Nat) (h : E)
/-! ### operations on data -/
def big : Int := 2 ^ 64
def mulOk (i j : Int) : Bool := (decide (-big < i) && decide (i < big)) || (decide (-big < j) && decide (j < big))
def line : Nat := 16777216
def binD : BOp → D → D → Option D
  | .add, .int i, .int j => some (.int (i + j))
  | .add, .str a, .str b => if a.length + b.length ≤ line then some (.str (a ++ b)) else none
  | .add, .lst a, .lst b => if a.length + b.length ≤ line then some (.lst (a ++ b)) else none
  | .sub, .int i, .int j => some (.int (i - j))
  | .mul, .int i, .int j => if mulOk i j then some (.int (i * j)) else none
  | .mul, .str a, .int n => if 2 ≤ n ∧ 0 < a.length ∧ a.length * n.toNat ≤ line then some (.str (List.replicate n.toNat a).flatten) else none
  | .mod, .int i, .int j => if 0 < j then some (.int (i % j)) else none
  | .fdiv, .int i, .int j => if 0 < j ∧ j < 1073741824 then some (.int (i / j)) else none
  | .pow, .int i, .int j => if 0 ≤ j ∧ j ≤ 1000000 ∧ i.natAbs < 2 ^ 64 then some (.int (i ^ j.toNat)) else none
  | _, _, _ => none
/-! data that == goes over by itself -/
mutual
def D.py : D → Option PyData
  | .non => some .none
  | .bl b => some (.bool b)
  | .int i => some (.int i)
  | .str s => some (.str (tx s))
  | .lst xs => (pyAll xs).map .list
  | .tup xs => (pyAll xs).map .tuple
  | .dct _ => none
  | .ins _ _ => none
  | .ref _ => none
  | .ty _ => none
  | .scr _ => none
def pyAll : List D → Option (List PyData)
  | [] => some []
  | x :: xs => match D.py x, pyAll xs with
    | some p, some ps => some (p :: ps)
    | _, _ => none
end
def scalD : D → D → Option Bool
  | .non, .non => some true
  | .bl a, .bl b => some (a == b)
  | .int a, .int b => some (a == b)
  | .str a, .str b => some (a == b)
  | _, _ => none
/-- lists of unlike lengths -/
def lenNe : D → D → Bool
  | .lst xs, .lst ys => decide (xs.length ≠ ys.length)
  | _, _ => false
def deq (x y : D) : Option Bool :=
  match scalD x y with
  | some b => some b
  | none => if lenNe x y then some false else match x.py, y.py with
    | some p, some q => if SeqAt.shaped p && SeqAt.shaped q then some (PyData.eqv p q) else none
    | _, _ => none
def isD : D → D → Option Bool
  | .non, .non => some true
  | .bl a, .bl b => some (a == b)
  | .non, _ => none
  | _, .non => some false
  | _, _ => none
/-- flat data as a value -/
def vf : D → V
  | .non => .non
  | .bl b => .bl b
  | .int i => .int i
  | .str s => .str (tx s)
  | .ty n => .ty n
  | _ => .non
def flatD : D → Bool
  | .non => true
  | .bl _ => true
  | .int _ => true
  | .str _ => true
  | _ => false
def inS (a b : Tx) : Bool := match a with
  | [c] => decide (c ∈ b)
  | _ => !(Builtin.Str.occurrences (tx b) (tx a) 0 (tx b).length 1).isEmpty
def inD (x y : D) : Option Bool :=
  match x, y with
  | .str a, .str b => some (inS a b)
  | x, .lst ys => match x.py, pyAll ys with
    | some p, some qs => if SeqAt.shaped p && SeqAt.shaped (.list qs) then some (qs.any fun q => PyData.eqv q p) else none
    | _, _ => none
  | x, .tup ys => if flatD x && ys.all flatD then some (inV (vf x) (ys.map vf)) else none
  | _, _ => none
def cmpD : COp → D → D → Option Bool
  | .eq, x, y => deq x y
  | .ne, x, y => (deq x y).map (!·)
  | .lt, .int i, .int j => some (decide (i < j))
  | .le, .int i, .int j => some (decide (i ≤ j))
  | .gt, .int i, .int j => some (decide (j < i))
  | .ge, .int i, .int j => some (decide (j ≤ i))
  | .is, x, y => isD x y
  | .isnot, x, y => (isD x y).map (!·)
  | .inn, x, y => inD x y
  | .notin, x, y => (inD x y).map (!·)
  | _, _, _ => none
def truthD : D → Option Bool
  | .non => some false
  | .bl b => some b
  | .int i => some (i != 0)
  | .str s => some !s.isEmpty
  | .lst xs => some !xs.isEmpty
  | .tup xs => some !xs.isEmpty
  | _ => none
/-- o[i]; a thing of the store is looked up -/
def idxD (st : Store) : D → D → Option D
  | .lst xs, .int i => atI xs i
  | .scr xs, .int i => atI xs i
  | .tup xs, .int i => atI xs i
  | .str s, .int i => (atI s i).map fun c => .str [c]
  | .ref n, .int i => match st[n]? with
    | some (.lst xs) => atI xs i
    | _ => none
  | _, _ => none
def cut {α : Type} (xs : List α) (lo hi : Option Int) : List α :=
  (xs.drop (HT.sIx xs.length 0 lo)).take (HT.sIx xs.length xs.length hi - HT.sIx xs.length 0 lo)
def slcD (x : D) (lo hi : Option Int) : Option D :=
  match x with
  | .lst xs => some (.lst (cut xs lo hi))
  | .tup xs => if HT.sIx xs.length 0 lo = 0 ∧ HT.sIx xs.length xs.length hi = xs.length then none else some (.tup (cut xs lo hi))
  | .str s => some (.str (cut s lo hi))
  | _ => none
def tyName : D → Option String
  | .non => some "NoneType"
  | .bl _ => some "bool"
  | .int _ => some "int"
  | .str _ => some "str"
  | .lst _ => some "list"
  | .tup _ => some "tuple"
  | .dct _ => some "dict"
  | _ => none
def boolsOf : List D → Option (List Bool)
  | [] => some []
  | .bl b :: r => (boolsOf r).map (b :: ·)
  | _ :: _ => none
def textsOf : List D → Option (List Tx)
  | [] => some []
  | .str b :: r => (textsOf r).map (b :: ·)
  | _ :: _ => none
def joinT (a : Tx) : List Tx → Tx
  | [] => []
  | [x] => x
  | x :: y :: r => x ++ a ++ joinT a (y :: r)
def bfD (st : Store) : BF → List D → Option D
  | .len, [.str s] => some (.int s.length)
  | .len, [.lst xs] => some (.int xs.length)
  | .len, [.tup xs] => some (.int xs.length)
  | .len, [.scr xs] => some (.int xs.length)
  | .max2, [.int i, .int j] => some (.int (if j > i then j else i))
  | .min2, [.int i, .int j] => some (.int (if j < i then j else i))
  | .int, [.int i] => some (.int i)
  | .int, [.str s] => if s.length ≤ 640 then (PySem.intText? (tx s)).map .int else none
  | .str, [.int i] => if i.natAbs.log2 < 1920 ∧ (unt (toString i)).length ≤ line then some (.str (unt (toString i))) else none
  | .list, [.lst xs] => some (.lst xs)
  | .list, [.tup xs] => some (.lst xs)
  | .tuple, [.lst xs] => some (.tup xs)
  | .tuple, [.tup xs] => some (.tup xs)
  | .all, [.lst xs] => (boolsOf xs).map fun bs => .bl (bs.all id)
  | .any, [.lst xs] => (boolsOf xs).map fun bs => .bl (bs.any id)
  | .isi, [x, .ty n] => (tyName x).bind fun m => (kitB m n).map .bl
  | _, _ => none
def bmD (st : Store) : BM → D → List D → Option D
  | .upper, .str s, [] => if s.length ≤ 5592405 then some (.str (unt (Txt.upper (tx s)))) else none
  | .lower, .str s, [] => if s.length ≤ 5592405 then some (.str (unt (Txt.lower (tx s)))) else none
  | .join, .str a, [.lst xs] => (textsOf xs).bind fun ys => if (ys.map (·.length)).sum + ys.length * a.length ≤ line then some (.str (joinT a ys)) else none
  | .count, .str a, [.str b] => some (.int (Txt.count (tx a) (tx b)))
  | .find, .str a, [.str b] => some (.int (Txt.find (tx a) (tx b)))
  | .find, .str a, [.str b, .int i] => some (.int (Txt.find3 (tx a) (tx b) i))
  | _, _, _ => none
def bmKind : BM → D → Bool
  | .items, _ => false
  | .get, _ => false
  | _, .str _ => true
  | _, _ => false
/-- a part of an f-text -/
def fmtD : D → Option D
  | .str s => some (.str s)
  | .int i => if i.natAbs.log2 < 1920 ∧ (unt (toString i)).length ≤ line then some (.str (unt (toString i))) else none
  | _ => none
/-- the parts of an f-text, one after another -/
def addD : Tx → D → Option Tx
  | a, .str b => if a.length + b.length ≤ line then some (a ++ b) else none
  | _, _ => none
/-- what a for walks -/
def itemsD (x : D) : Option (List D) :=
  match x with
  | .lst xs => some xs
  | .tup xs => some xs
  | .str s => some (s.map fun c => .str [c])
  | _ => none
def rangeD (args : List D) : Option (List D) :=
  match args with
  | [.int n] => if -(2 ^ 62) ≤ n ∧ n < 2 ^ 62 then some ((List.range n.toNat).map fun (k : Nat) => .int (0 + (k : Int))) else none
  | [.int a, .int b] => if -(2 ^ 62) ≤ a ∧ a < 2 ^ 62 ∧ -(2 ^ 62) ≤ b ∧ b < 2 ^ 62 then some ((List.range (b - a).toNat).map fun (k : Nat) => .int (a + (k : Int))) else none
  | _ => none
def keyD : D → Option Key
  | .int i => some (.inl i)
  | .str s => some (.inr (tx s))
  | _ => none
def keysD : List (D × D) → Option (List (Key × D))
  | [] => some []
  | (k, v) :: r => match keyD k, keysD r with
    | some k, some r => some ((k, v) :: r)
    | _, _ => none
/-- in its place, or at the end -/
def putD (kvs : List (Key × D)) (k : Key) (v : D) : List (Key × D) :=
  if (kvs.any fun kv => decide (kv.1 = k)) = true then kvs.map (fun kv => if kv.1 = k then (kv.1, v) else kv) else kvs ++ [(k, v)]
def mergeD (kvs more : List (Key × D)) : List (Key × D) := more.foldl (fun acc kv => putD acc kv.1 kv.2) kvs
def dspD (ps : List (D × D)) : Option D := if ps.length ≤ 15 then (keysD ps).map fun kvs => .dct (mergeD [] kvs) else none
/-! ### the interpreter -/
abbrev Calls := Nat → List D → Store → O D
def slotD (ρ : Env) (i : Nat) : Option D := match ρ[i]? with
  | some (.im d) => some d
  | _ => none
/-- an operand: a list of the frame's own may be looked at -/
def borD (ρ : Env) (i : Nat) : Option D := match ρ[i]? with
  | some (.ol ds) => some (.lst ds)
  | some (.od kvs) => some (.dct kvs)
  | _ => none
def opd (e : E) (r : Env → Store → O D) (ρ : Env) (st : Store) : O D :=
  match e with
  | .bor i => lift (borD ρ i) st
  | _ => r ρ st
def mapO (f : D → Store → O (Option D)) : List D → Store → O (List D)
  | [], st => .ok [] st
  | x :: xs, st => (f x st).bind fun y st => (mapO f xs st).bind fun ys st => .ok (match y with | some y => y :: ys | none => ys) st
/-- a constant: flat data, a type -/
def okC : D → Bool
  | .non => true
  | .bl _ => true
  | .int _ => true
  | .str s => decide (s.length ≤ line)
  | .ty _ => true
  | _ => false
def partD : D → Option (Option Int)
  | .int i => some (some i)
  | _ => none
def isNil : E → Bool
  | .nil => true
  | _ => false
mutual
def ev (C : Calls) : E → Env → Store → O D
  | .var i, ρ, st => lift (slotD ρ i) st
  | .cst d, _, st => if okC d then .ok d st else .bad
  | .glb _ d, _, st => if okC d then .ok d st else .bad
  | .bin o a b, ρ, st => (opd a (ev C a) ρ st).bind fun x st => (opd b (ev C b) ρ st).bind fun y st => lift (binD o x y) st
  | .neg a, ρ, st => (ev C a ρ st).bind fun x st => lift (match x with | .int i => some (.int (-i)) | _ => none) st
  | .cmp o a b, ρ, st => (opd a (ev C a) ρ st).bind fun x st => (opd b (ev C b) ρ st).bind fun y st => lift ((cmpD o x y).map .bl) st
  | .chn o p a b c, ρ, st => (opd a (ev C a) ρ st).bind fun x st => (opd b (ev C b) ρ st).bind fun y st => (lift (cmpD o x y) st).bind fun k st =>
      if k then (opd c (ev C c) ρ st).bind fun z st => lift ((cmpD p y z).map .bl) st else .ok (.bl false) st
  | .and a b, ρ, st => (ev C a ρ st).bind fun x st => (lift (truthD x) st).bind fun k st => if k then ev C b ρ st else .ok x st
  | .or a b, ρ, st => (ev C a ρ st).bind fun x st => (lift (truthD x) st).bind fun k st => if k then .ok x st else ev C b ρ st
  | .not a, ρ, st => (opd a (ev C a) ρ st).bind fun x st => lift ((truthD x).map fun k => .bl !k) st
  | .ite c a b, ρ, st => (evT C c ρ st).bind fun k st => if k then ev C a ρ st else ev C b ρ st
  | .tup a, ρ, st => (evs C a ρ st).bind fun xs st => if xs.length ≤ line then .ok (.tup xs) st else .bad
  | .lst a, ρ, st => (evs C a ρ st).bind fun xs st => if xs.length ≤ line then .ok (.lst xs) st else .bad
  | .dsp a, ρ, st => (evp C a ρ st).bind fun ps st => lift (dspD ps) st
  | .new a, ρ, st => (evs C a ρ st).bind fun xs st => if xs.length ≤ line then .ok (.ref st.length) (st ++ [.lst xs]) else .bad
  | .idx a b, ρ, st => (opd a (ev C a) ρ st).bind fun x st => (ev C b ρ st).bind fun y st => lift (idxD st x y) st
  | .slc a lo hi, ρ, st => (opd a (ev C a) ρ st).bind fun x st =>
      (if isNil lo then .ok none st else (ev C lo ρ st).bind fun l st => lift (partD l) st).bind fun l st =>
      (if isNil hi then .ok none st else (ev C hi ρ st).bind fun h st => lift (partD h) st).bind fun h st => lift (slcD x l h) st
  | .cb f a, ρ, st => (evo C a ρ st).bind fun xs st => lift (bfD st f xs) st
  | .bm m o a, ρ, st => (ev C o ρ st).bind fun x st => if bmKind m x then (evo C a ρ st).bind fun xs st => lift (bmD st m x xs) st else .bad
  | .call f a, ρ, st => (evs C a ρ st).bind fun xs st => C f xs st
  | .fmt a, ρ, st => (ev C a ρ st).bind fun x st => lift (fmtD x) st
  | .fst a, ρ, st => (evj C a [] ρ st).bind fun s st => .ok (.str s) st
  | .lc j src c e, ρ, st => (opd src (ev C src) ρ st).bind fun s st => (lift (itemsD s) st).bind fun xs st =>
      (mapO (fun x st => (if isNil c then .ok true st else (evT C c (ρ.set j (.im x)) st).nox).bind fun k st =>
        if k then (ev C e (ρ.set j (.im x)) st).nox.bind fun y st => .ok (some y) st else .ok none st) xs st).bind fun ys st => .ok (.lst ys) st
  | .lcr j a c e, ρ, st => (evs C a ρ st).bind fun as st => (lift (rangeD as) st).bind fun xs st => if line < xs.length then .bad else
      (mapO (fun x st => (if isNil c then .ok true st else (evT C c (ρ.set j (.im x)) st).nox).bind fun k st =>
        if k then (ev C e (ρ.set j (.im x)) st).nox.bind fun y st => .ok (some y) st else .ok none st) xs st).bind fun ys st => .ok (.lst ys) st
  | _, _, _ => .bad
/-- arguments -/
def evs (C : Calls) : E → Env → Store → O (List D)
  | .nil, _, st => .ok [] st
  | .cons a b, ρ, st => (ev C a ρ st).bind fun x st => (evs C b ρ st).bind fun xs st => .ok (x :: xs) st
  | _, _, _ => .bad
/-- pairs -/
def evp (C : Calls) : E → Env → Store → O (List (D × D))
  | .nil, _, st => .ok [] st
  | .con2 k v r, ρ, st => (ev C k ρ st).bind fun x st => (ev C v ρ st).bind fun y st => (evp C r ρ st).bind fun ps st => .ok ((x, y) :: ps) st
  | _, _, _ => .bad
/-- arguments that are only looked at -/
def evo (C : Calls) : E → Env → Store → O (List D)
  | .nil, _, st => .ok [] st
  | .cons a b, ρ, st => (opd a (ev C a) ρ st).bind fun x st => (evo C b ρ st).bind fun xs st => .ok (x :: xs) st
  | _, _, _ => .bad
/-- the parts of an f-text -/
def evj (C : Calls) : E → Tx → Env → Store → O Tx
  | .nil, acc, _, st => .ok acc st
  | .cons a b, acc, ρ, st => (ev C a ρ st).bind fun x st => (lift (addD acc x) st).bind fun acc st => evj C b acc ρ st
  | _, _, _, _ => .bad
/-- tests -/
def evT (C : Calls) : E → Env → Store → O Bool
  | .and a b, ρ, st => (evT C a ρ st).bind fun k st => if k then evT C b ρ st else .ok false st
  | .or a b, ρ, st => (evT C a ρ st).bind fun k st => if k then .ok true st else evT C b ρ st
  | .not a, ρ, st => (evT C a ρ st).bind fun k st => .ok (!k) st
  | .tst a, ρ, st => (opd a (ev C a) ρ st).bind fun x st => lift (truthD x) st
  | .tcm o a b, ρ, st => (opd a (ev C a) ρ st).bind fun x st => (opd b (ev C b) ρ st).bind fun y st => lift (cmpD o x y) st
  | .tch o p a b c, ρ, st => (opd a (ev C a) ρ st).bind fun x st => (opd b (ev C b) ρ st).bind fun y st => (lift (cmpD o x y) st).bind fun k st =>
      if k then (opd c (ev C c) ρ st).bind fun z st => lift (cmpD p y z) st else .ok false st
  | _, _, _ => .bad
end
/-- in an except suite: what it returns -/
def isOp : COp → Bool
  | .is => true
  | .isnot => true
  | _ => false
mutual
def evH (k : Nat) (ee : Exn) : E → Env → Store → O D
  | .var i, ρ, st => lift (slotD ρ i) st
  | .cst d, _, st => if okC d then .ok d st else .bad
  | .exf c f i, _, st => lift (if i = k ∧ ee.c = c then ee.fs.lookup f else none) st
  | .cmp o a b, ρ, st => if isOp o then (evH k ee a ρ st).bind fun x st => (evH k ee b ρ st).bind fun y st => lift ((cmpD o x y).map .bl) st else .bad
  | .tup a, ρ, st => (evHs k ee a ρ st).bind fun xs st => if xs.length ≤ line then .ok (.tup xs) st else .bad
  | .lst a, ρ, st => (evHs k ee a ρ st).bind fun xs st => if xs.length ≤ line then .ok (.lst xs) st else .bad
  | _, _, _ => .bad
def evHs (k : Nat) (ee : Exn) : E → Env → Store → O (List D)
  | .nil, _, st => .ok [] st
  | .cons a b, ρ, st => (evH k ee a ρ st).bind fun x st => (evHs k ee b ρ st).bind fun xs st => .ok (x :: xs) st
  | _, _, _ => .bad
end
/-! ### statements -/
inductive Fl where
  | next (ρ : Env) | ret (d : D) | brk (ρ : Env) | cnt (ρ : Env) | rse (x : Exn) (ρ : Env)
/-- an expression within a statement: its error is the statement's, with the names as they stand -/
def O.thn {α : Type} : O α → Env → (α → Store → O Fl) → O Fl
  | .ok a st, _, f => f a st
  | .exc x st, ρ, _ => .ok (.rse x ρ) st
  | .bad, _, _ => .bad
section
variable {α : Type} {a : α} {st : Store} {x : Exn} {ρ : Env} {f : α → Store → O Fl}
@[simp] theorem thn_ok : O.thn (.ok a st) ρ f = f a st := rfl
@[simp] theorem thn_exc : O.thn (.exc x st) ρ f = .ok (.rse x ρ) st := rfl
@[simp] theorem thn_bad : O.thn .bad ρ f = .bad := rfl
end
/-- the next statement, if the first one ends by itself -/
def seqK : O Fl → (Env → Store → O Fl) → O Fl
  | .ok (.next ρ) st, k => k ρ st
  | .ok (.ret d) st, _ => .ok (.ret d) st
  | .ok (.brk ρ) st, _ => .ok (.brk ρ) st
  | .ok (.cnt ρ) st, _ => .ok (.cnt ρ) st
  | .ok (.rse x ρ) st, _ => .ok (.rse x ρ) st
  | .exc x st, _ => .exc x st
  | .bad, _ => .bad
section
variable {st : Store} {x : Exn} {ρ : Env} {d : D} {k : Env → Store → O Fl}
@[simp] theorem seqK_next : seqK (.ok (.next ρ) st) k = k ρ st := rfl
@[simp] theorem seqK_ret : seqK (.ok (.ret d) st) k = .ok (.ret d) st := rfl
@[simp] theorem seqK_brk : seqK (.ok (.brk ρ) st) k = .ok (.brk ρ) st := rfl
@[simp] theorem seqK_cnt : seqK (.ok (.cnt ρ) st) k = .ok (.cnt ρ) st := rfl
@[simp] theorem seqK_rse : seqK (.ok (.rse x ρ) st) k = .ok (.rse x ρ) st := rfl
@[simp] theorem seqK_bad : seqK .bad k = .bad := rfl
end
/-- what a call gives of its body's end -/
def finK : O Fl → O D
  | .ok (.ret d) st => .ok d st
  | .ok (.next _) st => .ok .non st
  | .ok (.rse x _) st => .exc x st
  | .ok (.brk _) _ => .bad
  | .ok (.cnt _) _ => .bad
  | .exc _ _ => .bad
  | .bad => .bad
section
variable {st : Store} {x : Exn} {ρ : Env} {d : D}
@[simp] theorem finK_ret : finK (.ok (.ret d) st) = .ok d st := rfl
@[simp] theorem finK_next : finK (.ok (.next ρ) st) = .ok .non st := rfl
@[simp] theorem finK_rse : finK (.ok (.rse x ρ) st) = .exc x st := rfl
@[simp] theorem finK_bad : finK .bad = .bad := rfl
end
def forO (f : D → Env → Store → O Fl) : List D → Env → Store → O Fl
  | [], ρ, st => .ok (.next ρ) st
  | x :: xs, ρ, st => (f x ρ st).bind fun fl st => match fl with
    | .next ρ => forO f xs ρ st
    | .cnt ρ => forO f xs ρ st
    | .brk ρ => .ok (.next ρ) st
    | fl => .ok fl st
def whlO (c : Env → Store → O Bool) (f : Env → Store → O Fl) : Nat → Env → Store → O Fl
  | 0, _, _ => .bad
  | n + 1, ρ, st => (c ρ st).thn ρ fun k st => if k then (f ρ st).bind fun fl st => match fl with
      | .next ρ => whlO c f n ρ st
      | .cnt ρ => whlO c f n ρ st
      | .brk ρ => .ok (.next ρ) st
      | fl => .ok fl st
    else .ok (.next ρ) st
/-- expressions that make a list of their own -/
def fresh : E → Bool
  | .lst _ => true
  | .lc .. => true
  | .lcr .. => true
  | _ => false
def ownS (ρ : Env) (i : Nat) : D → Option Env
  | .lst ds => if i < ρ.length then some (ρ.set i (.ol ds)) else none
  | _ => none
def frzS (ρ : Env) (i : Nat) : Option Env := match ρ[i]? with
  | some (.ol ds) => some (ρ.set i (.im (.lst ds)))
  | some (.od kvs) => some (ρ.set i (.im (.dct kvs)))
  | some (.im _) => some ρ
  | _ => none
def olS (ρ : Env) (i : Nat) : Option (List D) := match ρ[i]? with
  | some (.ol ds) => some ds
  | _ => none
def augD : BOp → D → D → Option D
  | .add, .int i, .int j => some (.int (i + j))
  | .sub, .int i, .int j => some (.int (i - j))
  | _, _, _ => none
def lstD : D → Option (List D)
  | .lst es => some es
  | _ => none
def setS (ρ : Env) (i : Nat) (d : D) : Option Env := if i < ρ.length then some (ρ.set i (.im d)) else none
def putS (st : Store) : D → D → D → Option Store
  | .ref n, .int i, d => match st[n]? with
    | some (.lst xs) => (ixN xs.length i).map fun j => st.set n (.lst (xs.set j d))
    | _ => none
  | _, _, _ => none
def unpS (ρ : Env) : List Nat → List D → Option Env
  | [], [] => some ρ
  | i :: is, d :: ds => (setS ρ i d).bind fun ρ => unpS ρ is ds
  | _, _ => none
def tupD : D → Option (List D)
  | .tup ds => some ds
  | _ => none
/-- statements; W: the most turns of a while -/
def ex (C : Calls) (W : Nat) : S → Env → Store → O Fl
  | .skip, ρ, st => .ok (.next ρ) st
  | .seq a b, ρ, st => (ex C W a ρ st).bind fun fl st => match fl with
    | .next ρ => ex C W b ρ st
    | fl => .ok fl st
  | .set i e, ρ, st => (ev C e ρ st).thn ρ fun d st => (lift (setS ρ i d) st).bind fun ρ st => .ok (.next ρ) st
  | .own i e, ρ, st => if fresh e then (ev C e ρ st).thn ρ fun d st => (lift (ownS ρ i d) st).bind fun ρ st => .ok (.next ρ) st else .bad
  | .frz i, ρ, st => (lift (frzS ρ i) st).bind fun ρ st => .ok (.next ρ) st
  | .app i e, ρ, st => (lift (olS ρ i) st).bind fun ds st => (ev C e ρ st).thn ρ fun d st => if ds.length < line then .ok (.next (ρ.set i (.ol (ds ++ [d])))) st else .bad
  | .ext i e, ρ, st => (lift (olS ρ i) st).bind fun ds st => (ev C e ρ st).thn ρ fun d st => (lift (lstD d) st).bind fun es st => if ds.length + es.length ≤ line then .ok (.next (ρ.set i (.ol (ds ++ es)))) st else .bad
  | .aug i o e, ρ, st => (lift (slotD ρ i) st).bind fun x st => (ev C e ρ st).thn ρ fun d st => (lift (augD o x d) st).bind fun z st => (lift (setS ρ i z) st).bind fun ρ st => .ok (.next ρ) st
  | .put o k e, ρ, st => (ev C e ρ st).thn ρ fun d st => (ev C o ρ st).thn ρ fun x st => (ev C k ρ st).thn ρ fun y st => match putS st x y d with
    | some st => .ok (.next ρ) st
    | none => .bad
  | .exp e, ρ, st => (ev C e ρ st).thn ρ fun _ st => .ok (.next ρ) st
  | .ret e, ρ, st => (ev C e ρ st).thn ρ fun d st => .ok (.ret d) st
  | .retn, _, st => .ok (.ret .non) st
  | .ite c a b, ρ, st => (evT C c ρ st).thn ρ fun k st => if k then ex C W a ρ st else ex C W b ρ st
  | .for_ j src b, ρ, st => (ev C src ρ st).thn ρ fun s st => (lift (itemsD s) st).bind fun xs st =>
      forO (fun x ρ st => (lift (setS ρ j x) st).bind fun ρ st => ex C W b ρ st) xs ρ st
  | .forr j a b, ρ, st => (evs C a ρ st).thn ρ fun as st => (lift (rangeD as) st).bind fun xs st =>
      forO (fun x ρ st => (lift (setS ρ j x) st).bind fun ρ st => ex C W b ρ st) xs ρ st
  | .whl c b, ρ, st => whlO (evT C c) (ex C W b) W ρ st
  | .unp is e, ρ, st => (ev C e ρ st).thn ρ fun d st => (lift (tupD d) st).bind fun ds st => (lift (unpS ρ is ds) st).bind fun ρ st => .ok (.next ρ) st
  | .rse c fs a, ρ, st => (evs C a ρ st).thn ρ fun xs st => if xs.length = fs.length ∧ fs ≠ [] ∧ fs.length ≤ 1000 then .ok (.rse ⟨c, (fs.zip xs).reverse⟩ ρ) st else .bad
  | .tryas b cs c i h, ρ, st => (ex C W b ρ st).bind fun fl st => match fl with
    | .rse x ρ => match cs.lookup x.c with
      | some true => if i < ρ.length then (evH i x h (ρ.set i .un) st).nox.bind fun d st => .ok (.ret d) st else .bad
      | some false => .ok (.rse x ρ) st
      | none => .bad
    | fl => .ok fl st
  | .brk, ρ, st => .ok (.brk ρ) st
  | .cnt, ρ, st => .ok (.cnt ρ) st
/-- a def: how many parameters, how many names, its body -/
structure Fn where
  ar : Nat
  nm : Nat
  body : S
def runF (C : Calls) (W : Nat) (f : Fn) (args : List D) (st : Store) : O D :=
  if args.length = f.ar ∧ f.ar ≤ f.nm then
    (ex C W f.body (args.map .im ++ List.replicate (f.nm - f.ar) .un) st).nox.bind fun fl st => match fl with
      | .ret d => .ok d st
      | .next _ => .ok .non st
      | .rse x _ => .exc x st
      | _ => .bad
  else .bad
/-- the call of a def, at most n calls deep -/
def call (T : List Fn) (W : Nat) : Nat → Calls
  | 0 => fun _ _ _ => .bad
  | n + 1 => fun f args st => match T[f]? with
    | some fn => runF (call T W n) W fn args st
    | none => .bad
end PF
/-! Data upon the abstract heap: Rep, Wf (the store), Fm (what a run may change), Sig (the names). -/
namespace PF
open PySem L2
/-! ### a value bears data -/
mutual
inductive Rep (K : PySem.W.Frag) (am : List Addr) (H : Hp) : V → D → Prop
  | non : Rep K am H .non .non
  | bl (b : Bool) : Rep K am H (.bl b) (.bl b)
  | int (i : Int) : Rep K am H (.int i) (.int i)
  | str (s : Tx) : s.length ≤ line → Rep K am H (.str (tx s)) (.str s)
  | lst {a : Addr} {vs : List V} {ds : List D} : ds.length ≤ line → H a = some (.lst vs) → RepL K am H vs ds → Rep K am H (.ref a) (.lst ds)
  | tup {a : Addr} {vs : List V} {ds : List D} : ds.length ≤ line → SqT K H a vs → RepL K am H vs ds → Rep K am H (.ref a) (.tup ds)
  | ref {a : Addr} {n : Nat} : am[n]? = some a → Rep K am H (.ref a) (.ref n)
  | ty (n : String) : Rep K am H (.ty n) (.ty n)
  | scr {a : Addr} {vs : List V} {ds : List D} : ds.length ≤ line → SqL K H a vs → RepL K am H vs ds → Rep K am H (.ref a) (.scr ds)
  | dct {a : Addr} {kvs : List (Key × V)} {ds : List (Key × D)} : H a = some (.dK kvs) → RepK K am H kvs ds → Rep K am H (.ref a) (.dct ds)
inductive RepK (K : PySem.W.Frag) (am : List Addr) (H : Hp) : List (Key × V) → List (Key × D) → Prop
  | nil : RepK K am H [] []
  | cons {k : Key} {v : V} {d : D} {vs : List (Key × V)} {ds : List (Key × D)} : Rep K am H v d → RepK K am H vs ds → RepK K am H ((k, v) :: vs) ((k, d) :: ds)
inductive RepL (K : PySem.W.Frag) (am : List Addr) (H : Hp) : List V → List D → Prop
  | nil : RepL K am H [] []
  | cons {v : V} {d : D} {vs : List V} {ds : List D} : Rep K am H v d → RepL K am H vs ds → RepL K am H (v :: vs) (d :: ds)
end
theorem Same.seqT {K : PySem.W.Frag} {H H' : Hp} {a : Addr} {xs : List V} (e : Same H H') (h : SqT K H a xs) : SqT K H' a xs := by
  rcases h with (h | ⟨o, h⟩) | h
  · exact .inl (.inl (e _ _ h))
  · exact .inl (.inr ⟨o, e _ _ h⟩)
  · exact .inr h
def Pre (am am' : List Addr) : Prop := ∃ more, am' = am ++ more
theorem Pre.refl (am : List Addr) : Pre am am := ⟨[], by simp⟩
theorem Pre.trans {a b c : List Addr} (h : Pre a b) (k : Pre b c) : Pre a c := by
  obtain ⟨m, rfl⟩ := h
  obtain ⟨n, rfl⟩ := k
  exact ⟨m ++ n, by simp⟩
theorem Pre.get {am am' : List Addr} (h : Pre am am') {n : Nat} {a : Addr} (e : am[n]? = some a) : am'[n]? = some a := by
  obtain ⟨m, rfl⟩ := h
  have hl : n < am.length := (List.getElem?_eq_some_iff.mp e).1
  rw [List.getElem?_append_left hl]
  exact e
theorem Pre.mem {am am' : List Addr} (h : Pre am am') {a : Addr} (e : a ∈ am) : a ∈ am' := by
  obtain ⟨m, rfl⟩ := h
  exact List.mem_append_left _ e
section
variable {K : PySem.W.Frag} {am am' : List Addr} {H H' : Hp}
mutual
theorem Rep.mono (hp : Pre am am') (e : Same H H') : ∀ {v : V} {d : D}, Rep K am H v d → Rep K am' H' v d
  | _, _, .non => .non
  | _, _, .bl b => .bl b
  | _, _, .int i => .int i
  | _, _, .str s h => .str s h
  | _, _, .lst z h r => .lst z (e _ _ h) (RepL.mono hp e r)
  | _, _, .tup z h r => .tup z (Same.seqT e h) (RepL.mono hp e r)
  | _, _, .ref h => .ref (hp.get h)
  | _, _, .ty n => .ty n
  | _, _, .scr z h r => .scr z (e.seq h) (RepL.mono hp e r)
  | _, _, .dct h r => .dct (e _ _ h) (RepK.mono hp e r)
theorem RepK.mono (hp : Pre am am') (e : Same H H') : ∀ {vs : List (Key × V)} {ds : List (Key × D)}, RepK K am H vs ds → RepK K am' H' vs ds
  | _, _, .nil => .nil
  | _, _, .cons h r => .cons (Rep.mono hp e h) (RepK.mono hp e r)
theorem RepL.mono (hp : Pre am am') (e : Same H H') : ∀ {vs : List V} {ds : List D}, RepL K am H vs ds → RepL K am' H' vs ds
  | _, _, .nil => .nil
  | _, _, .cons h r => .cons (Rep.mono hp e h) (RepL.mono hp e r)
end
theorem RepL.length : ∀ {vs : List V} {ds : List D}, RepL K am H vs ds → vs.length = ds.length
  | _, _, .nil => rfl
  | _, _, .cons _ r => by rw [List.length_cons, List.length_cons, RepL.length r]
theorem RepL.get : ∀ {vs : List V} {ds : List D} {i : Nat} {d : D}, RepL K am H vs ds → ds[i]? = some d → ∃ v, vs[i]? = some v ∧ Rep K am H v d
  | _, _, _, _, .nil, e => by simp at e
  | _, _, 0, _, .cons h _, e => by simp at e; subst e; exact ⟨_, rfl, h⟩
  | _, _, i + 1, d, .cons _ r, e => by
    obtain ⟨v, h1, h2⟩ := RepL.get (i := i) (d := d) r (by simpa using e)
    exact ⟨v, by simpa using h1, h2⟩
theorem RepL.getV : ∀ {vs : List V} {ds : List D} {i : Nat} {v : V}, RepL K am H vs ds → vs[i]? = some v → ∃ d, ds[i]? = some d ∧ Rep K am H v d
  | _, _, _, _, .nil, e => by simp at e
  | _, _, 0, _, .cons h _, e => by simp at e; subst e; exact ⟨_, rfl, h⟩
  | _, _, i + 1, v, .cons _ r, e => by
    obtain ⟨d, h1, h2⟩ := RepL.getV (i := i) (v := v) r (by simpa using e)
    exact ⟨d, by simpa using h1, h2⟩
theorem RepL.append : ∀ {vs ws : List V} {ds es : List D}, RepL K am H vs ds → RepL K am H ws es → RepL K am H (vs ++ ws) (ds ++ es)
  | _, _, _, _, .nil, s => s
  | _, _, _, _, .cons h r, s => .cons h (RepL.append r s)
theorem RepL.take : ∀ {vs : List V} {ds : List D} (n : Nat), RepL K am H vs ds → RepL K am H (vs.take n) (ds.take n)
  | _, _, 0, _ => .nil
  | _, _, _ + 1, .nil => .nil
  | _, _, n + 1, .cons h r => .cons h (RepL.take n r)
theorem RepL.drop : ∀ {vs : List V} {ds : List D} (n : Nat), RepL K am H vs ds → RepL K am H (vs.drop n) (ds.drop n)
  | _, _, 0, r => r
  | _, _, _ + 1, .nil => .nil
  | _, _, n + 1, .cons _ r => RepL.drop n r
theorem RepL.set {v : V} {d : D} (h : Rep K am H v d) : ∀ {vs : List V} {ds : List D} (i : Nat), RepL K am H vs ds → RepL K am H (vs.set i v) (ds.set i d)
  | _, _, _, .nil => .nil
  | _, _, 0, .cons _ t => .cons h t
  | _, _, i + 1, .cons q t => .cons q (RepL.set h i t)
theorem RepK.any {k : Key} : ∀ {vs : List (Key × V)} {ds : List (Key × D)}, RepK K am H vs ds → (vs.any fun kv => decide (kv.1 = k)) = (ds.any fun kv => decide (kv.1 = k))
  | _, _, .nil => rfl
  | _, _, .cons _ r => by rw [List.any_cons, List.any_cons, RepK.any r]
theorem RepK.map {k : Key} {v : V} {d : D} (h : Rep K am H v d) : ∀ {vs : List (Key × V)} {ds : List (Key × D)}, RepK K am H vs ds → RepK K am H (vs.map fun kv => if kv.1 = k then (kv.1, v) else kv) (ds.map fun kv => if kv.1 = k then (kv.1, d) else kv)
  | _, _, .nil => .nil
  | _, _, .cons (k := k') q r => by
    rw [List.map_cons, List.map_cons]
    by_cases e : k' = k
    · rw [if_pos e, if_pos e]
      exact .cons h (RepK.map h r)
    · rw [if_neg e, if_neg e]
      exact .cons q (RepK.map h r)
theorem RepK.app {k : Key} {v : V} {d : D} (h : Rep K am H v d) : ∀ {vs : List (Key × V)} {ds : List (Key × D)}, RepK K am H vs ds → RepK K am H (vs ++ [(k, v)]) (ds ++ [(k, d)])
  | _, _, .nil => .cons h .nil
  | _, _, .cons q r => .cons q (RepK.app h r)
theorem RepK.put {k : Key} {v : V} {d : D} (h : Rep K am H v d) {vs : List (Key × V)} {ds : List (Key × D)} (r : RepK K am H vs ds) : RepK K am H (putK vs k v) (putD ds k d) := by
  unfold putK putD
  rw [r.any]
  split
  · exact r.map h
  · exact r.app h
theorem RepK.merge : ∀ {ms : List (Key × V)} {es : List (Key × D)} {vs : List (Key × V)} {ds : List (Key × D)}, RepK K am H ms es → RepK K am H vs ds → RepK K am H (mergeK vs ms) (mergeD ds es)
  | _, _, _, _, .nil, r => r
  | _, _, vs, ds, .cons (k := k) (v := v) (d := d) h t, r => by
    have ih := RepK.merge (vs := putK vs k v) (ds := putD ds k d) t (r.put h)
    exact ih
theorem RepL.reverse : ∀ {vs : List V} {ds : List D}, RepL K am H vs ds → RepL K am H vs.reverse ds.reverse
  | _, _, .nil => .nil
  | _, _, .cons h r => by
    rw [List.reverse_cons, List.reverse_cons]
    exact (RepL.reverse r).append (.cons h .nil)
theorem RepL.one {v : V} {d : D} (h : Rep K am H v d) : RepL K am H [v] [d] := .cons h .nil
end
/-! ### the store, and what a run may change -/
def CellOk (K : PySem.W.Frag) (am : List Addr) (Hf H : Hp) (a : Addr) : Cell → Prop
  | .lst ds => ∃ vs, H a = some (.lst vs) ∧ RepL K am Hf vs ds ∧ ds.length ≤ line
  | .dct _ => False
  | .ins _ _ => False
structure Wf (K : PySem.W.Frag) (am : List Addr) (st : Store) (Hf H : Hp) : Prop where
  len : am.length = st.length
  nd : am.Nodup
  sub : Same Hf H
  cell : ∀ (n : Nat) (a : Addr) (c : Cell), am[n]? = some a → st[n]? = some c → CellOk K am Hf H a c
  off : ∀ a ∈ am, Hf a = none
structure Fm (am : List Addr) (Hf H : Hp) (am' : List Addr) (Hf' H' : Hp) : Prop where
  pre : Pre am am'
  hf : Same Hf Hf'
  keep : ∀ a o, H a = some o → a ∉ am → H' a = some o
  there : ∀ a o, H a = some o → ∃ o', H' a = some o'
  offF : ∀ a o, H a = some o → Hf a = none → Hf' a = none
  offA : ∀ a o, H a = some o → a ∈ am' → a ∈ am
theorem Fm.refl (am : List Addr) (Hf H : Hp) : Fm am Hf H am Hf H := ⟨.refl _, .refl _, fun _ _ h _ => h, fun _ o h => ⟨o, h⟩, fun _ _ _ h => h, fun _ _ _ h => h⟩
theorem Fm.trans {am am1 am2 : List Addr} {Hf Hf1 Hf2 H H1 H2 : Hp} (a : Fm am Hf H am1 Hf1 H1) (b : Fm am1 Hf1 H1 am2 Hf2 H2) : Fm am Hf H am2 Hf2 H2 where
  pre := a.pre.trans b.pre
  hf := a.hf.trans b.hf
  keep := fun c o h n => b.keep c o (a.keep c o h n) fun z => n (a.offA c o h z)
  there := fun c o h => let ⟨o', h'⟩ := a.there c o h; b.there c o' h'
  offF := fun c o h n => let ⟨o', h'⟩ := a.there c o h; b.offF c o' h' (a.offF c o h n)
  offA := fun c o h m => let ⟨o', h'⟩ := a.there c o h; a.offA c o h (b.offA c o' h' m)
/-- a new thing that joins the frozen part -/
theorem Fm.new {am : List Addr} {Hf H : Hp} {p : Addr} {o : HO} (sub : Same Hf H) (np : H p = none) : Fm am Hf H am (upd Hf p o) (upd H p o) where
  pre := .refl _
  hf := fun b u e => by rw [upd_ne (ne_of_none (sub _ _ e) np)]; exact e
  keep := fun b u e _ => by rw [upd_ne (ne_of_none e np)]; exact e
  there := fun b u e => ⟨u, by rw [upd_ne (ne_of_none e np)]; exact e⟩
  offF := fun b u e n => by rw [upd_ne (ne_of_none e np)]; exact n
  offA := fun _ _ _ h => h
/-- a new thing of one's own -/
theorem Fm.own {am : List Addr} {Hf H : Hp} {p : Addr} {o : HO} (np : H p = none) : Fm am Hf H am Hf (upd H p o) where
  pre := .refl _
  hf := .refl _
  keep := fun b u e _ => by rw [upd_ne (ne_of_none e np)]; exact e
  there := fun b u e => ⟨u, by rw [upd_ne (ne_of_none e np)]; exact e⟩
  offF := fun b u e n => n
  offA := fun _ _ _ h => h
/-- a thing that is younger than the start is changed -/
theorem Fm.mut {am am1 : List Addr} {Hf H Hf1 H1 : Hp} {p : Addr} {o : HO} (f : Fm am Hf H am1 Hf1 H1) (np : H p = none) : Fm am Hf H am1 Hf1 (upd H1 p o) where
  pre := f.pre
  hf := f.hf
  keep := fun b u e n => by rw [upd_ne (ne_of_none e np)]; exact f.keep b u e n
  there := fun b u e => by rw [upd_ne (ne_of_none e np)]; exact f.there b u e
  offF := f.offF
  offA := f.offA
/-- .. is frozen -/
theorem Fm.frz {am am1 : List Addr} {Hf H Hf1 H1 : Hp} {p : Addr} {o : HO} (f : Fm am Hf H am1 Hf1 H1) (np : H p = none) (nf : Hf1 p = none) : Fm am Hf H am1 (upd Hf1 p o) H1 where
  pre := f.pre
  hf := fun b u e => by
    have e1 := f.hf b u e
    rw [upd_ne (ne_of_none e1 nf)]
    exact e1
  keep := f.keep
  there := f.there
  offF := fun b u e n => by rw [upd_ne (ne_of_none e np)]; exact f.offF b u e n
  offA := f.offA
theorem nd_inj {am : List Addr} (h : am.Nodup) {m n : Nat} (hm : m < am.length) (hn : n < am.length) (e : am[m] = am[n]) : m = n := by
  rcases Nat.lt_trichotomy m n with z | z | z
  · exact absurd e ((List.pairwise_iff_getElem.mp h) m n hm hn z)
  · exact z
  · exact absurd e.symm ((List.pairwise_iff_getElem.mp h) n m hn hm z)
section
variable {K : PySem.W.Frag} {am am' : List Addr} {st : Store} {Hf Hf' H H' : Hp}
/-- the frozen part grows, the heap keeps the store's things -/
theorem Wf.next (w : Wf K am st Hf H) (hf : Same Hf Hf') (sub : Same Hf' H') (kp : ∀ a ∈ am, ∀ o, H a = some o → H' a = some o) (off : ∀ a ∈ am, Hf' a = none) : Wf K am st Hf' H' := by
  refine ⟨w.len, w.nd, sub, fun n a c h1 h2 => ?_, off⟩
  have q := w.cell n a c h1 h2
  have hm : a ∈ am := List.mem_of_getElem? h1
  cases c with
  | lst ds =>
    obtain ⟨vs, e, r, z⟩ := q
    exact ⟨vs, kp a hm _ e, r.mono (.refl _) hf, z⟩
  | dct _ => exact q.elim
  | ins _ _ => exact q.elim
theorem Wf.there (w : Wf K am st Hf H) {a : Addr} (hm : a ∈ am) : ∃ o, H a = some o := by
  obtain ⟨n, hn⟩ := List.mem_iff_getElem?.mp hm
  have hl : n < st.length := by rw [← w.len]; exact (List.getElem?_eq_some_iff.mp hn).1
  have q := w.cell n a st[n] hn (List.getElem?_eq_getElem hl)
  cases hc : st[n] with
  | lst ds =>
    rw [hc] at q
    obtain ⟨vs, e, _⟩ := q
    exact ⟨_, e⟩
  | dct _ => rw [hc] at q; exact q.elim
  | ins _ _ => rw [hc] at q; exact q.elim
theorem Wf.notin (w : Wf K am st Hf H) {p : Addr} (np : H p = none) : p ∉ am := fun hm => by
  obtain ⟨o, e⟩ := w.there hm
  rw [np] at e
  cases e
theorem Wf.nof (w : Wf K am st Hf H) {p : Addr} (np : H p = none) : Hf p = none := w.sub.free np
theorem Wf.new (w : Wf K am st Hf H) {p : Addr} {o : HO} (np : H p = none) : Wf K am st (upd Hf p o) (upd H p o) := by
  refine w.next (fun b u e => ?_) (fun b u e => ?_) (fun a hm u e => ?_) (fun a hm => ?_)
  · rw [upd_ne (ne_of_none e (w.nof np))]; exact e
  · by_cases hb : b = p
    · subst hb; rw [upd_same] at e ⊢; exact e
    · rw [upd_ne hb] at e ⊢; exact w.sub _ _ e
  · rw [upd_ne (ne_of_none e np)]; exact e
  · rw [upd_ne (show a ≠ p from fun z => w.notin np (z ▸ hm))]; exact w.off a hm
theorem Wf.own (w : Wf K am st Hf H) {p : Addr} {o : HO} (np : Hf p = none) (na : p ∉ am) : Wf K am st Hf (upd H p o) := by
  refine w.next (.refl _) (fun b u e => ?_) (fun a hm u e => ?_) w.off
  · rw [upd_ne (ne_of_none e np)]; exact w.sub _ _ e
  · rw [upd_ne (show a ≠ p from fun z => na (z ▸ hm))]; exact e
theorem Wf.frz (w : Wf K am st Hf H) {p : Addr} {o : HO} (e : H p = some o) (np : Hf p = none) (na : p ∉ am) : Wf K am st (upd Hf p o) H := by
  refine w.next (fun b u q => ?_) (fun b u q => ?_) (fun a _ u q => q) (fun a hm => ?_)
  · rw [upd_ne (ne_of_none q np)]; exact q
  · by_cases hb : b = p
    · subst hb; rw [upd_same] at q; cases q; exact e
    · rw [upd_ne hb] at q; exact w.sub _ _ q
  · rw [upd_ne (show a ≠ p from fun z => na (z ▸ hm))]; exact w.off a hm
/-- a new list for the store -/
theorem Wf.alloc (w : Wf K am st Hf H) {p : Addr} {vs : List V} {ds : List D} (np : H p = none) (r : RepL K am Hf vs ds) (hz : ds.length ≤ line) : Wf K (am ++ [p]) (st ++ [.lst ds]) Hf (upd H p (.lst vs)) := by
  have na := w.notin np
  have pr : Pre am (am ++ [p]) := ⟨[p], rfl⟩
  refine ⟨by rw [List.length_append, List.length_append, w.len]; rfl, ?_, fun b u e => ?_, fun n a c h1 h2 => ?_, fun a hm => ?_⟩
  · refine List.nodup_append.mpr ⟨w.nd, by simp, fun a ha b hb => ?_⟩
    rw [List.mem_singleton] at hb
    subst hb
    exact fun z => na (z ▸ ha)
  · rw [upd_ne (ne_of_none (w.sub _ _ e) np)]; exact w.sub _ _ e
  · by_cases hn : n < am.length
    · rw [List.getElem?_append_left hn] at h1
      rw [List.getElem?_append_left (by rw [← w.len]; exact hn)] at h2
      have q := w.cell n a c h1 h2
      have nap : a ≠ p := fun z => na (z ▸ List.mem_of_getElem? h1)
      cases c with
      | lst es =>
        obtain ⟨us, e, q⟩ := q
        exact ⟨us, by rw [upd_ne nap]; exact e, q.1.mono pr (.refl _), q.2⟩
      | dct _ => exact q.elim
      | ins _ _ => exact q.elim
    · rw [List.getElem?_append_right (by omega)] at h1
      rw [List.getElem?_append_right (by rw [← w.len]; omega), ← w.len] at h2
      cases hk : n - am.length with
      | zero =>
        rw [hk] at h1 h2
        simp at h1 h2
        subst h1 h2
        exact ⟨vs, upd_same, r.mono pr (.refl _), hz⟩
      | succ k =>
        rw [hk] at h1
        simp at h1
  · rcases List.mem_append.mp hm with hm | hm
    · exact w.off a hm
    · rw [List.mem_singleton] at hm
      subst hm
      exact w.nof np
theorem Fm.alloc (w : Wf K am st Hf H) {p : Addr} {o : HO} (np : H p = none) : Fm am Hf H (am ++ [p]) Hf (upd H p o) where
  pre := ⟨[p], rfl⟩
  hf := .refl _
  keep := fun b u e _ => by rw [upd_ne (ne_of_none e np)]; exact e
  there := fun b u e => ⟨u, by rw [upd_ne (ne_of_none e np)]; exact e⟩
  offF := fun b u e n => n
  offA := fun b u e hm => by
    rcases List.mem_append.mp hm with hm | hm
    · exact hm
    · rw [List.mem_singleton] at hm
      subst hm
      rw [np] at e
      cases e
/-- a list of the store is changed -/
theorem Wf.put (w : Wf K am st Hf H) {n : Nat} {p : Addr} {vs : List V} {ds : List D} (hn : am[n]? = some p) (r : RepL K am Hf vs ds) (hz : ds.length ≤ line) : Wf K am (st.set n (.lst ds)) Hf (upd H p (.lst vs)) := by
  have hm : p ∈ am := List.mem_of_getElem? hn
  have hl : n < am.length := (List.getElem?_eq_some_iff.mp hn).1
  refine ⟨by rw [List.length_set, w.len], w.nd, fun b u e => ?_, fun m a c h1 h2 => ?_, w.off⟩
  · have nb : b ≠ p := fun z => by
      have q := w.off p hm
      rw [z, q] at e
      cases e
    rw [upd_ne nb]; exact w.sub _ _ e
  · by_cases hmn : n = m
    · subst hmn
      rw [hn] at h1
      cases h1
      rw [List.getElem?_set_self (by rw [← w.len]; exact hl)] at h2
      cases h2
      exact ⟨vs, upd_same, r, hz⟩
    · rw [List.getElem?_set_ne hmn] at h2
      have q := w.cell m a c h1 h2
      have nap : a ≠ p := fun z => by
        subst z
        have hm' : m < am.length := (List.getElem?_eq_some_iff.mp h1).1
        have e1 := (List.getElem?_eq_some_iff.mp h1).2
        have e2 := (List.getElem?_eq_some_iff.mp hn).2
        exact hmn (nd_inj w.nd hl hm' (e2.trans e1.symm))
      cases c with
      | lst es =>
        obtain ⟨us, e, q⟩ := q
        exact ⟨us, by rw [upd_ne nap]; exact e, q⟩
      | dct _ => exact q.elim
      | ins _ _ => exact q.elim
end
end PF
/-! The transformers of expressions, and: what the interpreter gives, they hold of. -/
namespace PF
open PySem L2
/-! ### names -/
def SlotOk (K : PySem.W.Frag) (am : List Addr) (Hf H H0 : Hp) (σ : St) (i : Nat) : Slot → Prop
  | .un => True
  | .im d => ∃ v, σ[i]? = some (some v) ∧ Rep K am Hf v d
  | .ol ds => ∃ p vs, σ[i]? = some (some (.ref p)) ∧ H p = some (.lst vs) ∧ RepL K am Hf vs ds ∧ Hf p = none ∧ p ∉ am ∧ H0 p = none ∧ ds.length ≤ line
  | .od _ => False
structure Sig (K : PySem.W.Frag) (am : List Addr) (Hf H H0 : Hp) (σ : St) (ρ : Env) : Prop where
  len : ρ.length = σ.length
  slot : ∀ (i : Nat) (s : Slot), ρ[i]? = some s → SlotOk K am Hf H H0 σ i s
  dist : ∀ (i j : Nat) (p : Addr) (di dj : List D), i ≠ j → ρ[i]? = some (.ol di) → ρ[j]? = some (.ol dj) → σ[i]? = some (some (.ref p)) → σ[j]? = some (some (.ref p)) → False
section
variable {K : PySem.W.Frag} {am am' : List Addr} {st : Store} {Hf Hf' H H' H0 : Hp} {σ : St} {ρ : Env}
theorem Sig.next (s : Sig K am Hf H H0 σ ρ) (f : Fm am Hf H am' Hf' H') : Sig K am' Hf' H' H0 σ ρ := by
  refine ⟨s.len, fun i x e => ?_, s.dist⟩
  have q := s.slot i x e
  cases x with
  | un => trivial
  | im d =>
    obtain ⟨v, h1, h2⟩ := q
    exact ⟨v, h1, h2.mono f.pre f.hf⟩
  | ol ds =>
    obtain ⟨p, vs, h1, h2, h3, h4, h5, h6⟩ := q
    exact ⟨p, vs, h1, f.keep _ _ h2 h5, h3.mono f.pre f.hf, f.offF _ _ h2 h4, fun z => h5 (f.offA _ _ h2 z), h6⟩
  | od _ => exact q.elim
theorem len_set (σ : St) (ρ : Env) (j : Nat) (x : Option V) (s : Slot) (h : ρ.length = σ.length) : (ρ.set j s).length = (σ.set j x).length := by
  rw [List.length_set, List.length_set, h]
/-- a name gets data -/
theorem Sig.set (s : Sig K am Hf H H0 σ ρ) {j : Nat} {v : V} {d : D} (r : Rep K am Hf v d) : Sig K am Hf H H0 (σ.set j (some v)) (ρ.set j (.im d)) := by
  refine ⟨len_set _ _ _ _ _ s.len, fun i x e => ?_, fun i k p di dj hik e1 e2 e3 e4 => ?_⟩
  · by_cases hj : j = i
    · subst hj
      have hl : j < ρ.length := by
        have := (List.getElem?_eq_some_iff.mp e).1
        rwa [List.length_set] at this
      rw [List.getElem?_set_self hl] at e
      cases e
      exact ⟨v, by rw [List.getElem?_set_self (by rw [← s.len]; exact hl)], r⟩
    · rw [List.getElem?_set_ne hj] at e
      have q := s.slot i x e
      cases x with
      | un => trivial
      | im d =>
        obtain ⟨v, h1, h2⟩ := q
        exact ⟨v, by rw [List.getElem?_set_ne hj]; exact h1, h2⟩
      | ol ds =>
        obtain ⟨p, vs, h1, h2⟩ := q
        exact ⟨p, vs, by rw [List.getElem?_set_ne hj]; exact h1, h2⟩
      | od _ => exact q.elim
  · have n1 : j ≠ i := fun z => by
      subst z
      have hl : j < ρ.length := by
        have := (List.getElem?_eq_some_iff.mp e1).1
        rwa [List.length_set] at this
      rw [List.getElem?_set_self hl] at e1
      cases e1
    have n2 : j ≠ k := fun z => by
      subst z
      have hl : j < ρ.length := by
        have := (List.getElem?_eq_some_iff.mp e2).1
        rwa [List.length_set] at this
      rw [List.getElem?_set_self hl] at e2
      cases e2
    rw [List.getElem?_set_ne n1] at e1 e3
    rw [List.getElem?_set_ne n2] at e2 e4
    exact s.dist i k p di dj hik e1 e2 e3 e4
/-- a comprehension's own name, wiped first -/
theorem Sig.wset (s : Sig K am Hf H H0 σ ρ) {j : Nat} {v : V} {d : D} (r : Rep K am Hf v d) : Sig K am Hf H H0 ((wipe σ [j]).set j (some v)) (ρ.set j (.im d)) := by
  have e : (wipe σ [j]).set j (some v) = σ.set j (some v) := by
    show (σ.set j none).set j (some v) = _
    rw [List.set_set]
  rw [e]
  exact s.set r
end
/-! ### what is wanted of an outcome -/
/-- an operand: data, or a list of the frame's own -/
def Opd (K : PySem.W.Frag) (am : List Addr) (Hf H : Hp) (v : V) (d : D) : Prop :=
  Rep K am Hf v d ∨ ∃ p vs ds, v = .ref p ∧ d = .lst ds ∧ H p = some (.lst vs) ∧ p ∉ am ∧ RepL K am Hf vs ds ∧ ds.length ≤ line
inductive OpdL (K : PySem.W.Frag) (am : List Addr) (Hf H : Hp) : List V → List D → Prop
  | nil : OpdL K am Hf H [] []
  | cons {v : V} {d : D} {vs : List V} {ds : List D} : Opd K am Hf H v d → OpdL K am Hf H vs ds → OpdL K am Hf H (v :: vs) (d :: ds)
abbrev RV (K : PySem.W.Frag) : List Addr → Hp → Hp → V → D → Prop := fun am Hf _ v d => Rep K am Hf v d
abbrev RVs (K : PySem.W.Frag) : List Addr → Hp → Hp → List V → List D → Prop := fun am Hf _ v d => RepL K am Hf v d
abbrev RB : List Addr → Hp → Hp → Bool → Bool → Prop := fun _ _ _ b c => b = c
/-- an error and its class -/
def XOk (K : PySem.W.Frag) (cl : Nat → Addr) (am : List Addr) (Hf : Hp) (x : Exn) (c : Value) (dd : Option Addr) : Prop :=
  c = .ref (He.ga K x.c) ∧ ((x.fs = [] ∧ dd = none) ∨ ∃ a fs, dd = some a ∧ Hf a = some (.xd fs) ∧ fs.map (·.1) = x.fs.map (·.1) ∧ RepL K am Hf (fs.map (·.2)) (x.fs.map (·.2)))
def Post (K : PySem.W.Frag) (cl : Nat → Addr) {α β : Type} (R : List Addr → Hp → Hp → β → α → Prop) (r : O α) (am : List Addr) (Hf H : Hp) (Q : β → Hp → Prop) (W : XK) : Prop :=
  match r with
  | .ok d st' => ∀ v am' Hf' H', Fm am Hf H am' Hf' H' → Wf K am' st' Hf' H' → R am' Hf' H' v d → Q v H'
  | .exc x st' => ∀ c dd am' Hf' H', Fm am Hf H am' Hf' H' → Wf K am' st' Hf' H' → XOk K cl am' Hf' x c dd → W c dd H'
  | .bad => False
section
variable {K : PySem.W.Frag} {cl : Nat → Addr} {am am1 : List Addr} {Hf Hf1 H H1 : Hp} {W : XK}
theorem Post.step {α β γ δ : Type} {R1 : List Addr → Hp → Hp → β → α → Prop} {R2 : List Addr → Hp → Hp → δ → γ → Prop} {o : O α} {f : α → Store → O γ} {Q1 : β → Hp → Prop} {Q : δ → Hp → Prop}
    (P : Post K cl R2 (o.bind f) am Hf H Q W) (f0 : Fm am Hf H am1 Hf1 H1)
    (k : ∀ v d st2 am2 Hf2 H2, Fm am Hf H am2 Hf2 H2 → Fm am1 Hf1 H1 am2 Hf2 H2 → Wf K am2 st2 Hf2 H2 → R1 am2 Hf2 H2 v d → Post K cl R2 (f d st2) am Hf H Q W → Q1 v H2) :
    Post K cl R1 o am1 Hf1 H1 Q1 W := by
  cases o with
  | ok d st2 => exact fun v am2 Hf2 H2 fm wf r => k v d st2 am2 Hf2 H2 (f0.trans fm) fm wf r P
  | exc x st2 => exact fun c dd am2 Hf2 H2 fm wf r => P c dd am2 Hf2 H2 (f0.trans fm) wf r
  | bad => exact P
theorem Post.lift_ {α β : Type} {R : List Addr → Hp → Hp → β → α → Prop} {o : Option α} {st : Store} {Q : β → Hp → Prop} (P : Post K cl R (lift o st) am Hf H Q W) : ∃ a, o = some a ∧ Post K cl R (.ok a st) am Hf H Q W := by
  cases o with
  | none => exact P.elim
  | some a => exact ⟨a, rfl, P⟩
theorem Post.liftB {α γ δ : Type} {R2 : List Addr → Hp → Hp → δ → γ → Prop} {o : Option α} {st : Store} {f : α → Store → O γ} {Q : δ → Hp → Prop} (P : Post K cl R2 ((lift o st).bind f) am Hf H Q W) : ∃ a, o = some a ∧ Post K cl R2 (f a st) am Hf H Q W := by
  cases o with
  | none => exact P.elim
  | some a => exact ⟨a, rfl, P⟩
theorem Opd.next {am' : List Addr} {Hf' H' : Hp} {v : V} {d : D} (f : Fm am Hf H am' Hf' H') (h : Opd K am Hf H v d) : Opd K am' Hf' H' v d := by
  rcases h with h | ⟨p, vs, ds, rfl, rfl, h1, h2, h3⟩
  · exact .inl (h.mono f.pre f.hf)
  · exact .inr ⟨p, vs, ds, rfl, rfl, f.keep _ _ h1 h2, fun z => h2 (f.offA _ _ h1 z), h3.1.mono f.pre f.hf, h3.2⟩
theorem OpdL.next {am' : List Addr} {Hf' H' : Hp} (f : Fm am Hf H am' Hf' H') : ∀ {vs : List V} {ds : List D}, OpdL K am Hf H vs ds → OpdL K am' Hf' H' vs ds
  | _, _, .nil => .nil
  | _, _, .cons h r => .cons (h.next f) (OpdL.next f r)
/-- a list operand -/
theorem Opd.lst {st : Store} {v : V} {ds : List D} (w : Wf K am st Hf H) (h : Opd K am Hf H v (.lst ds)) : ∃ p vs, v = .ref p ∧ H p = some (.lst vs) ∧ RepL K am Hf vs ds ∧ ds.length ≤ line ∧ p ∉ am := by
  rcases h with h | ⟨p, vs, ds', rfl, e, h1, h2, h3, h4⟩
  · cases h with
    | lst z e r => exact ⟨_, _, rfl, w.sub _ _ e, r, z, fun m => by rw [w.off _ m] at e; cases e⟩
  · cases e
    exact ⟨p, vs, rfl, h1, h3, h4, h2⟩
theorem Opd.rep {v : V} {d : D} (h : Opd K am Hf H v d) (n : ∀ ds, d ≠ .lst ds) : Rep K am Hf v d := by
  rcases h with h | ⟨p, vs, ds, rfl, rfl, _⟩
  · exact h
  · exact absurd rfl (n _)
theorem Rep.flat {v : V} {d : D} (h : Rep K am Hf v d) (f : flatD d = true) : v = vf d := by
  cases h <;> first | rfl | cases f
theorem RepL.flat : ∀ {vs : List V} {ds : List D}, RepL K am Hf vs ds → ds.all flatD = true → vs = ds.map vf
  | _, _, .nil, _ => rfl
  | _, _, .cons h r, f => by
    rw [List.all_cons, Bool.and_eq_true] at f
    rw [List.map_cons, h.flat f.1, RepL.flat r f.2]
theorem flat_vf {d : D} (f : flatD d = true) : flatV (vf d) = true := by
  cases d <;> first | rfl | cases f
theorem flat_all : ∀ {ds : List D}, ds.all flatD = true → (ds.map vf).all flatV = true
  | [], _ => rfl
  | d :: ds, f => by
    rw [List.all_cons, Bool.and_eq_true] at f
    rw [List.map_cons, List.all_cons, flat_vf f.1, flat_all f.2]
    rfl
mutual
theorem Rep.dp : ∀ {v : V} {d : D} {p : PyData}, Rep K am H v d → d.py = some p → Dp K H v p
  | _, _, _, .non, e => by cases e; exact .non
  | _, _, _, .bl b, e => by cases e; exact .bl b
  | _, _, _, .int i, e => by cases e; exact .int i
  | _, _, _, .str s _, e => by cases e; exact .str _
  | _, _, _, .lst (ds := ds) z h r, e => by
    rw [D.py] at e
    cases q : pyAll ds with
    | none => rw [q] at e; cases e
    | some ps =>
      rw [q] at e
      cases e
      exact .lst (SqL.of h) (RepL.dp r q)
  | _, _, _, .tup (ds := ds) z h r, e => by
    rw [D.py] at e
    cases q : pyAll ds with
    | none => rw [q] at e; cases e
    | some ps =>
      rw [q] at e
      cases e
      exact .tup h (RepL.dp r q)
  | _, _, _, .ref _, e => by cases e
  | _, _, _, .ty _, e => by cases e
  | _, _, _, .scr _ _ _, e => by cases e
  | _, _, _, .dct _ _, e => by cases e
theorem RepL.dp : ∀ {vs : List V} {ds : List D} {ps : List PyData}, RepL K am H vs ds → pyAll ds = some ps → DpAll K H vs ps
  | _, _, _, .nil, e => by cases e; exact .nil
  | _, _, _, .cons (d := d) (ds := ds) h r, e => by
    rw [pyAll] at e
    cases q1 : D.py d with
    | none => rw [q1] at e; cases e
    | some p =>
      cases q2 : pyAll ds with
      | none => rw [q1, q2] at e; cases e
      | some ps =>
        rw [q1, q2] at e
        cases e
        exact .cons (Rep.dp h q1) (RepL.dp r q2)
end
theorem Opd.dp {st : Store} {v : V} {d : D} {p : PyData} (w : Wf K am st Hf H) (h : Opd K am Hf H v d) (e : d.py = some p) : Dp K H v p := by
  rcases h with h | ⟨q, vs, ds, rfl, rfl, h1, _, h3, _⟩
  · exact (h.mono (.refl _) w.sub).dp e
  · rw [D.py] at e
    cases q : pyAll ds with
    | none => rw [q] at e; cases e
    | some ps =>
      rw [q] at e
      cases e
      exact .lst (SqL.of h1) ((h3.mono (.refl _) w.sub).dp q)
end
/-! ### the transformers -/
def rAddS : R2 := fun x y H Q => ∃ i j, x = .str i ∧ y = .str j ∧ i.length + j.length ≤ sizeLine ∧ Q (.str (i ++ j)) H
def rMulS : R2 := fun x y H Q => ∃ a n, x = .str a ∧ y = .int n ∧ 2 ≤ n ∧ 0 < a.length ∧ a.length * n.toNat ≤ sizeLine ∧ Str.length ⟨(List.replicate n.toNat a.cps).foldl (· ++ ·) #[]⟩ ≤ sizeLine ∧ Q (.str ⟨(List.replicate n.toNat a.cps).foldl (· ++ ·) #[]⟩) H
def rBin : BOp → R2
  | .add => fun x y H Q => rI0 (fun i j => .int (i + j)) x y H Q ∨ rAddS x y H Q ∨ rCat x y H Q
  | .sub => rI0 fun i j => .int (i - j)
  | .mul => fun x y H Q => rI CMul (fun i j => .int (i * j)) x y H Q ∨ rMulS x y H Q
  | .mod => rI (fun _ j => 0 < j) fun i j => .int (i % j)
  | .fdiv => rI CDiv fun i j => .int (i / j)
  | .pow => rI CPow fun i j => .int (i ^ j.toNat)
def rInStr : R2 := fun x y H Q => ∃ i j, x = .str i ∧ y = .str j ∧ Q (.bl (!(Builtin.Str.occurrences j i 0 j.length 1).isEmpty)) H
def rNotInStr : R2 := fun x y H Q => ∃ i j, x = .str i ∧ y = .str j ∧ Q (.bl (!(!(Builtin.Str.occurrences j i 0 j.length 1).isEmpty))) H
def rLen (K : PySem.W.Frag) (r : Bool) : R2 := fun x y H Q => ∃ a b xs ys, x = .ref a ∧ y = .ref b ∧ SqL K H a xs ∧ SqL K H b ys ∧ xs.length ≠ ys.length ∧ Q (.bl r) H
def rCmp (K : PySem.W.Frag) : COp → R2
  | .eq => fun x y H Q => rEq x y H Q ∨ rEqD K x y H Q ∨ rLen K false x y H Q
  | .ne => fun x y H Q => rNe x y H Q ∨ rNeD K x y H Q ∨ rLen K true x y H Q
  | .lt => rI0 fun i j => .bl (decide (i < j))
  | .le => rI0 fun i j => .bl (decide (i ≤ j))
  | .gt => rI0 fun i j => .bl (decide (j < i))
  | .ge => rI0 fun i j => .bl (decide (j ≤ i))
  | .is => fun x y H Q => rIsN x y H Q ∨ rIsB x y H Q
  | .isnot => fun x y H Q => rNotN x y H Q ∨ rNotB x y H Q
  | .inn => fun x y H Q => rInS x y H Q ∨ rInStr x y H Q ∨ rInD K x y H Q ∨ rIn K false x y H Q
  | .notin => fun x y H Q => rNotInS x y H Q ∨ rNotInStr x y H Q ∨ rNotInD K x y H Q ∨ rIn K true x y H Q
def rSlc (K : PySem.W.Frag) : V → Option Int → Option Int → Hp → VK → Prop := fun x lo hi H Q => rSlL K x lo hi H Q ∨ rSlT K x lo hi H Q ∨ rSlS x lo hi H Q
def rBF (K : PySem.W.Frag) : BF → List V → Hp → VK → Prop
  | .len => fun xs H Q => ∃ x n, xs = [x] ∧ LenV K x H n ∧ Q (.int n) H
  | .max2 => fun xs H Q => ∃ i j, xs = [.int i, .int j] ∧ Q (.int (if j > i then j else i)) H
  | .min2 => fun xs H Q => ∃ i j, xs = [.int i, .int j] ∧ Q (.int (if j < i then j else i)) H
  | .int => fun xs H Q => ((∃ i, xs = [.int i] ∧ Q (.int i) H) ∨ ∃ k, xs = [.bl k] ∧ Q (.int (if k then 1 else 0)) H) ∨ ∃ a n, xs = [.str a] ∧ PySem.intText? a = some n ∧ a.length ≤ 640 ∧ Q (.int n) H
  | .str => fun xs H Q => ∃ i, xs = [.int i] ∧ i.natAbs.log2 < 1920 ∧ Q (.str (toString i)) H
  | .list => fun xs H Q => ∃ p ys, xs = [.ref p] ∧ (SqL K H p ys ∨ SqT K H p ys) ∧ ∀ l, H l = none → Q (.ref l) (upd H l (.lst ys))
  | .tuple => fun xs H Q => ∃ p ys, xs = [.ref p] ∧ ((SqL K H p ys ∧ ∀ l, H l = none → Q (.ref l) (upd H l (.tup ys))) ∨ (SqT K H p ys ∧ Q (.ref p) H))
  | .all => rAll K
  | .any => rAny K
  | .isi => rIsi K
def rJoin (K : PySem.W.Frag) : V → List V → Hp → VK → Prop := fun x xs H Q => ∃ a p, ∃ ys : List Str, x = .str a ∧ xs = [.ref p] ∧ (SqL K H p (ys.map V.str) ∨ SqT K H p (ys.map V.str)) ∧
    (ys.map (·.length)).sum + ys.length * a.length ≤ 16777216 ∧ Q (.str (Txt.join a ys)) H
def rBM (K : PySem.W.Frag) : BM → V → List V → Hp → VK → Prop
  | .upper => fun x xs H Q => ∃ a, x = .str a ∧ xs = [] ∧ a.length ≤ 5592405 ∧ Q (.str (Txt.upper a)) H
  | .lower => fun x xs H Q => ∃ a, x = .str a ∧ xs = [] ∧ a.length ≤ 5592405 ∧ Q (.str (Txt.lower a)) H
  | .join => rJoin K
  | .count => fun x xs H Q => ∃ a b, x = .str a ∧ xs = [.str b] ∧ Q (.int (Txt.count a b)) H
  | .find => fun x xs H Q => (∃ a b, x = .str a ∧ xs = [.str b] ∧ Q (.int (Txt.find a b)) H) ∨ ∃ a b i, x = .str a ∧ xs = [.str b, .int i] ∧ Q (.int (Txt.find3 a b i)) H
  | _ => fun _ _ _ _ => False
def bmTy : BM → String
  | .items => "dict"
  | .get => "dict"
  | _ => "str"
/-- what a for walks: a list, a tuple, a text -/
def iAny (K : PySem.W.Frag) (te : TE) : TI := fun σ H R => te σ H fun x H1 =>
  (∃ a, x = .ref a ∧ (∃ xs, SqL K H1 a xs) ∧ R (Itl K a) H1) ∨ (∃ a, x = .ref a ∧ (∃ xs, SqT K H1 a xs) ∧ R (Itt K a) H1) ∨ ∃ z, x = .str z ∧ R (Its z) H1
def iRng (ta : TA) : TI := fun σ H R => ta σ H fun vs H1 =>
  (∃ j : Int, vs = [.int j] ∧ -(2 ^ 62) ≤ j ∧ j < 2 ^ 62 ∧ R (Itr 0 j.toNat) H1) ∨
  (∃ i j : Int, vs = [.int i, .int j] ∧ (-(2 ^ 62) ≤ i ∧ i < 2 ^ 62 ∧ -(2 ^ 62) ≤ j ∧ j < 2 ^ 62) ∧ R (Itr i (j - i).toNat) H1)
abbrev W0 : WX := fun _ _ _ _ => False
def tTru (K : PySem.W.Frag) (te : TE) : TT := fun σ H Q => te σ H fun x H' => ∃ k, TruV K x H' k ∧ Q k H'
def tTch (r r' : R2) (ta tb tc : TE) : TT := tTest (tChain r r' ta tb tc)
mutual
def tE (K : PySem.W.Frag) (F : Nat → Sp) (W : WX) : E → TE
  | .var i => tVar i
  | .bor i => tVar i
  | .cst d => tC (vf d)
  | .glb _ d => tC (vf d)
  | .bin o a b => tOp (rBin o) (tE K F W a) (tE K F W b)
  | .neg a => tUn (rU fun i => .int (-i)) (tE K F W a)
  | .cmp o a b => tOp (rCmp K o) (tE K F W a) (tE K F W b)
  | .chn o p a b c => tChain (rCmp K o) (rCmp K p) (tE K F W a) (tE K F W b) (tE K F W c)
  | .and a b => tAndT K (tE K F W a) (tE K F W b)
  | .or a b => tOrT K (tE K F W a) (tE K F W b)
  | .not a => tNotT K (tE K F W a)
  | .ite c a b => tIf (tT K F W c) (tE K F W a) (tE K F W b)
  | .tup a => tTup (tA K F W a)
  | .lst a => tLst (tA K F W a)
  | .dsp a => tDisp (tP K F W a)
  | .new a => tLst (tA K F W a)
  | .idx a b => tOp (rIx K) (tE K F W a) (tE K F W b)
  | .slc a lo hi => tSl (rSlc K) (tE K F W a) (if isNil lo then tNoPart else tPart (tE K F W lo)) (if isNil hi then tNoPart else tPart (tE K F W hi))
  | .cb f a => tCB (rBF K f) (tA K F W a)
  | .bm m o a => if isNil a then tBM0 K (bmTy m) (rBM K m) (tE K F W o) else tBM K (bmTy m) (rBM K m) (tE K F W o) (tA K F W a)
  | .call f a => tCallSD (F f) [] (fun σ c d H => W c d σ H) (tA K F W a)
  | .fmt a => tFmt (tE K F W a)
  | .fst a => fun σ H Q => tJs (tJ K F W a) Str.empty σ H fun out H1 => Q (.str out) H1
  | .lc j src c e => tLc (iAny K (tE K F W src)) (gName j) (if isNil c then tYes else tT K F W0 c) (tE K F W0 e) [j]
  | .lcr j a c e => tLc (iRng (tA K F W a)) (gName j) (if isNil c then tYes else tT K F W0 c) (tE K F W0 e) [j]
  | _ => fun _ _ _ => False
def tA (K : PySem.W.Frag) (F : Nat → Sp) (W : WX) : E → TA
  | .nil => tNil
  | .cons a b => tCons (tE K F W a) (tA K F W b)
  | _ => fun _ _ _ => False
def tP (K : PySem.W.Frag) (F : Nat → Sp) (W : WX) : E → List (TE × TE)
  | .con2 k v r => (tE K F W k, tE K F W v) :: tP K F W r
  | _ => []
def tJ (K : PySem.W.Frag) (F : Nat → Sp) (W : WX) : E → List TE
  | .cons a b => tE K F W a :: tJ K F W b
  | _ => []
def tT (K : PySem.W.Frag) (F : Nat → Sp) (W : WX) : E → TT
  | .and a b => tAnd (tT K F W a) (tT K F W b)
  | .or a b => tOr (tT K F W a) (tT K F W b)
  | .not a => tNot (tT K F W a)
  | .tst a => tTru K (tE K F W a)
  | .tcm o a b => tTest (tOp (rCmp K o) (tE K F W a) (tE K F W b))
  | .tch o p a b c => tTch (rCmp K o) (rCmp K p) (tE K F W a) (tE K F W b) (tE K F W c)
  | _ => fun _ _ _ => False
end
end PF
/-! What the interpreter gives for an expression, its transformer holds of. -/
namespace PF
open PySem L2
theorem line_eq : line = sizeLine := by rw [sizeLine_eq]; rfl
theorem tx_len (s : Tx) : (tx s).length = s.length := by
  show s.toArray.size = s.length
  simp
theorem tx_app (a b : Tx) : tx a ++ tx b = tx (a ++ b) := by
  show (⟨a.toArray ++ b.toArray⟩ : Str) = ⟨(a ++ b).toArray⟩
  simp
theorem tx_unt (s : Str) : tx (unt s) = s := by
  cases s
  simp [tx, unt]
theorem unt_tx (s : Tx) : unt (tx s) = s := by
  simp [tx, unt]
theorem tx_inj {a b : Tx} (h : tx a = tx b) : a = b := by rw [← unt_tx a, ← unt_tx b, h]
theorem tx_cps (s : Tx) : (tx s).cps.toList = s := by simp [tx]
theorem rep_fold (s : Tx) : ∀ (k : Nat) (acc : Array Nat), (List.replicate k s.toArray).foldl (· ++ ·) acc = acc ++ ((List.replicate k s).flatten).toArray
  | 0, acc => by simp
  | k + 1, acc => by
    rw [List.replicate_succ, List.foldl_cons, rep_fold s k, List.replicate_succ, List.flatten_cons]
    simp
theorem rep_tx (s : Tx) (k : Nat) : (⟨(List.replicate k (tx s).cps).foldl (· ++ ·) #[]⟩ : Str) = tx (List.replicate k s).flatten := by
  show (⟨(List.replicate k s.toArray).foldl (· ++ ·) #[]⟩ : Str) = ⟨_⟩
  rw [rep_fold]
  simp
theorem rep_len (s : Tx) : ∀ k : Nat, (List.replicate k s).flatten.length = s.length * k
  | 0 => by simp
  | k + 1 => by
    rw [List.replicate_succ, List.flatten_cons, List.length_append, rep_len s k, Nat.mul_succ]
    omega
section
variable {K : PySem.W.Frag} {cl : Nat → Addr} {am : List Addr} {st : Store} {Hf H : Hp}
theorem Rep.vInt {v : V} {i : Int} (h : Rep K am Hf v (.int i)) : v = .int i := by cases h; rfl
theorem Rep.vBl {v : V} {i : Bool} (h : Rep K am Hf v (.bl i)) : v = .bl i := by cases h; rfl
theorem Rep.vStr {v : V} {s : Tx} (h : Rep K am Hf v (.str s)) : v = .str (tx s) ∧ s.length ≤ line := by cases h; exact ⟨rfl, by assumption⟩
theorem Rep.vNon {v : V} (h : Rep K am Hf v .non) : v = .non := by cases h; rfl
theorem Rep.vTy {v : V} {n : String} (h : Rep K am Hf v (.ty n)) : v = .ty n := by cases h; rfl
theorem Rep.vTup {v : V} {ds : List D} (h : Rep K am Hf v (.tup ds)) : ∃ a vs, v = .ref a ∧ SqT K Hf a vs ∧ RepL K am Hf vs ds ∧ ds.length ≤ line := by
  cases h with
  | tup z h r => exact ⟨_, _, rfl, h, r, z⟩
theorem Rep.vLst {v : V} {ds : List D} (h : Rep K am Hf v (.lst ds)) : ∃ a vs, v = .ref a ∧ Hf a = some (.lst vs) ∧ RepL K am Hf vs ds ∧ ds.length ≤ line := by
  cases h with
  | lst z h r => exact ⟨_, _, rfl, h, r, z⟩
theorem Rep.vScr {v : V} {ds : List D} (h : Rep K am Hf v (.scr ds)) : ∃ a vs, v = .ref a ∧ SqL K Hf a vs ∧ RepL K am Hf vs ds ∧ ds.length ≤ line := by
  cases h with
  | scr z h r => exact ⟨_, _, rfl, h, r, z⟩
theorem Rep.vRef {v : V} {n : Nat} (h : Rep K am Hf v (.ref n)) : ∃ a, v = .ref a ∧ am[n]? = some a := by
  cases h with
  | ref h => exact ⟨_, rfl, h⟩
theorem Opd.vInt {v : V} {i : Int} (h : Opd K am Hf H v (.int i)) : v = .int i := (h.rep (fun _ z => by cases z)).vInt
theorem Opd.vStr {v : V} {s : Tx} (h : Opd K am Hf H v (.str s)) : v = .str (tx s) ∧ s.length ≤ line := (h.rep (fun _ z => by cases z)).vStr
theorem Opd.vBl {v : V} {s : Bool} (h : Opd K am Hf H v (.bl s)) : v = .bl s := (h.rep (fun _ z => by cases z)).vBl
theorem Opd.vNon {v : V} (h : Opd K am Hf H v .non) : v = .non := (h.rep (fun _ z => by cases z)).vNon
theorem Opd.vTup {v : V} {ds : List D} (h : Opd K am Hf H v (.tup ds)) : ∃ a vs, v = .ref a ∧ SqT K Hf a vs ∧ RepL K am Hf vs ds ∧ ds.length ≤ line := (h.rep (fun _ z => by cases z)).vTup
/-- a new list of data -/
theorem new_lst {Q : VK} {z : List D} {vs : List V} (w : Wf K am st Hf H) (r : RepL K am Hf vs z) (hz : z.length ≤ line) (q : ∀ r am' Hf' H', Fm am Hf H am' Hf' H' → Wf K am' st Hf' H' → Rep K am' Hf' r (.lst z) → Q r H') :
    ∀ p, H p = none → Q (.ref p) (upd H p (.lst vs)) := fun p np => by
  have sm : Same Hf (upd Hf p (.lst vs)) := fun b u e => by
    rw [upd_ne (ne_of_none e (w.nof np))]; exact e
  exact q _ am _ _ (Fm.new w.sub np) (w.new np) (.lst hz upd_same (r.mono (.refl _) sm))
theorem new_tup {Q : VK} {z : List D} {vs : List V} (w : Wf K am st Hf H) (r : RepL K am Hf vs z) (hz : z.length ≤ line) (q : ∀ r am' Hf' H', Fm am Hf H am' Hf' H' → Wf K am' st Hf' H' → Rep K am' Hf' r (.tup z) → Q r H') :
    ∀ p, H p = none → Q (.ref p) (upd H p (.tup vs)) := fun p np => by
  have sm : Same Hf (upd Hf p (.tup vs)) := fun b u e => by
    rw [upd_ne (ne_of_none e (w.nof np))]; exact e
  exact q _ am _ _ (Fm.new w.sub np) (w.new np) (.tup hz (SqT.of upd_same) (r.mono (.refl _) sm))
abbrev Fin (K : PySem.W.Frag) (am : List Addr) (st : Store) (Hf H : Hp) (z : D) (Q : VK) : Prop := ∀ r am' Hf' H', Fm am Hf H am' Hf' H' → Wf K am' st Hf' H' → Rep K am' Hf' r z → Q r H'
theorem Fin.now {z : D} {Q : VK} {v : V} (q : Fin K am st Hf H z Q) (w : Wf K am st Hf H) (r : Rep K am Hf v z) : Q v H := q v am Hf H (.refl _ _ _) w r
theorem bin_den {o : BOp} {x y z : D} {v u : V} {Q : VK} (w : Wf K am st Hf H) (hx : Opd K am Hf H v x) (hy : Opd K am Hf H u y) (e : binD o x y = some z) (q : Fin K am st Hf H z Q) : rBin o v u H Q := by
  unfold binD at e
  split at e
  · cases e
    exact .inl ⟨_, _, hx.vInt, hy.vInt, q.now w (.int _)⟩
  · split at e
    · rename_i hl
      cases e
      refine .inr (.inl ⟨_, _, hx.vStr.1, hy.vStr.1, by rw [tx_len, tx_len, ← line_eq]; exact hl, ?_⟩)
      rw [tx_app]
      exact q.now w (.str _ (by rw [List.length_append]; exact hl))
    · cases e
  · split at e
    · rename_i hl
      cases e
      obtain ⟨p, vs, rfl, hp, rp, _, _⟩ := hx.lst w
      obtain ⟨p', vs', rfl, hp', rp', _, _⟩ := hy.lst w
      exact .inr (.inr ⟨_, _, _, _, rfl, rfl, hp, hp', by rw [rp.length, rp'.length, ← line_eq]; exact hl, new_lst w (rp.append rp') (by rw [List.length_append]; exact hl) q⟩)
    · cases e
  · cases e
    exact ⟨_, _, hx.vInt, hy.vInt, q.now w (.int _)⟩
  · split at e
    · rename_i hl
      cases e
      refine .inl ⟨_, _, hx.vInt, hy.vInt, ?_, q.now w (.int _)⟩
      unfold mulOk big at hl
      simp only [Bool.or_eq_true, Bool.and_eq_true, decide_eq_true_eq] at hl
      exact hl
    · cases e
  · split at e
    · rename_i hl
      cases e
      obtain ⟨l1, l2, l3⟩ := hl
      refine .inr ⟨_, _, hx.vStr.1, hy.vInt, l1, by rw [tx_len]; exact l2, by rw [tx_len, ← line_eq]; exact l3, ?_, ?_⟩
      · rw [rep_tx, tx_len, rep_len, ← line_eq]; exact l3
      · rw [rep_tx]
        exact q.now w (.str _ (by rw [rep_len]; exact l3))
    · cases e
  · split at e
    · rename_i hl
      cases e
      exact ⟨_, _, hx.vInt, hy.vInt, hl, q.now w (.int _)⟩
    · cases e
  · split at e
    · rename_i hl
      cases e
      exact ⟨_, _, hx.vInt, hy.vInt, hl, q.now w (.int _)⟩
    · cases e
  · split at e
    · rename_i hl
      cases e
      exact ⟨_, _, hx.vInt, hy.vInt, hl, q.now w (.int _)⟩
    · cases e
  · cases e
theorem scal_den {x y : D} {b : Bool} (e : scalD x y = some b) : flatD x = true ∧ flatD y = true ∧ scal (vf x) (vf y) = true ∧ decide (vf x = vf y) = b := by
  unfold scalD at e
  split at e
  · cases e; exact ⟨rfl, rfl, rfl, rfl⟩
  · cases e; exact ⟨rfl, rfl, rfl, dec_bl⟩
  · cases e; exact ⟨rfl, rfl, rfl, dec_int⟩
  · rename_i a c
    cases e
    refine ⟨rfl, rfl, rfl, ?_⟩
    show decide (V.str (tx a) = V.str (tx c)) = (a == c)
    by_cases h : a = c
    · subst h; simp
    · have h2 : ¬ V.str (tx a) = V.str (tx c) := fun z => h (tx_inj (V.str.inj z))
      rw [decide_eq_false h2]
      exact (beq_eq_false_iff_ne.mpr h).symm
  · cases e
theorem Opd.flat {v : V} {d : D} (h : Opd K am Hf H v d) (f : flatD d = true) : v = vf d := (h.rep (fun _ z => by subst z; cases f)).flat f
theorem deq_den {x y : D} {b : Bool} {v u : V} (w : Wf K am st Hf H) (hx : Opd K am Hf H v x) (hy : Opd K am Hf H u y) (e : deq x y = some b) :
    (scal v u = true ∧ decide (v = u) = b) ∨ (∃ d e, Dp K H v d ∧ Dp K H u e ∧ SeqAt.shaped d = true ∧ SeqAt.shaped e = true ∧ PyData.eqv d e = b) ∨ (b = false ∧ ∃ p q xs ys, v = .ref p ∧ u = .ref q ∧ SqL K H p xs ∧ SqL K H q ys ∧ xs.length ≠ ys.length) := by
  unfold deq at e
  split at e
  · rename_i c hs
    cases e
    obtain ⟨f1, f2, h1, h2⟩ := scal_den hs
    rw [hx.flat f1, hy.flat f2]
    exact .inl ⟨h1, h2⟩
  · split at e
    · rename_i hl
      cases e
      unfold lenNe at hl
      split at hl
      · rename_i xs ys _
        have hne := of_decide_eq_true hl
        obtain ⟨p, vs, rfl, hp, rp, _, _⟩ := hx.lst w
        obtain ⟨p', vs', rfl, hp', rp', _, _⟩ := hy.lst w
        exact .inr (.inr ⟨rfl, p, p', vs, vs', rfl, rfl, SqL.of hp, SqL.of hp', by rw [rp.length, rp'.length]; exact hne⟩)
      · cases hl
    · split at e
      · rename_i p q hp hq
        split at e
        · rename_i hsh
          cases e
          rw [Bool.and_eq_true] at hsh
          exact .inr (.inl ⟨p, q, hx.dp w hp, hy.dp w hq, hsh.1, hsh.2, rfl⟩)
        · cases e
      · cases e
theorem in_den {x y : D} {b : Bool} {v u : V} (w : Wf K am st Hf H) (hx : Opd K am Hf H v x) (hy : Opd K am Hf H u y) (e : inD x y = some b) :
    (∃ (c : Nat) (z : Str), v = .str ⟨#[c]⟩ ∧ u = .str z ∧ decide (c ∈ z.cps.toList) = b) ∨ (∃ i j, v = .str i ∧ u = .str j ∧ (!(Builtin.Str.occurrences j i 0 j.length 1).isEmpty) = b) ∨
    (∃ d ds, Dp K H v d ∧ Dp K H u (.list ds) ∧ SeqAt.shaped d = true ∧ SeqAt.shaped (.list ds) = true ∧ (ds.any fun z => PyData.eqv z d) = b) ∨
    (∃ p xs, u = .ref p ∧ (SqL K H p xs ∨ SqT K H p xs) ∧ flatV v = true ∧ xs.all flatV = true ∧ inV v xs = b) := by
  unfold inD at e
  split at e
  · rename_i a c
    cases e
    rw [hx.vStr.1, hy.vStr.1]
    unfold inS
    split
    · rename_i k
      exact .inl ⟨k, _, rfl, rfl, by rw [tx_cps]⟩
    · exact .inr (.inl ⟨_, _, rfl, rfl, rfl⟩)
  · rename_i ys _
    split at e
    · rename_i p q hp hq
      split at e
      · rename_i hsh
        cases e
        rw [Bool.and_eq_true] at hsh
        exact .inr (.inr (.inl ⟨p, q, hx.dp w hp, hy.dp w (by rw [D.py, hq] <;> rfl), hsh.1, hsh.2, rfl⟩))
      · cases e
    · cases e
  · rename_i ys _
    split at e
    · rename_i hf
      cases e
      rw [Bool.and_eq_true] at hf
      obtain ⟨a, vs, rfl, ht, r, _⟩ := hy.vTup
      rw [hx.flat hf.1]
      refine .inr (.inr (.inr ⟨a, vs, rfl, .inr (Same.seqT w.sub ht), flat_vf hf.1, ?_, ?_⟩))
      · rw [r.flat hf.2]; exact flat_all hf.2
      · rw [r.flat hf.2]
    · cases e
  · cases e
theorem is_den {x y : D} {b : Bool} {v u : V} (hx : Opd K am Hf H v x) (hy : Opd K am Hf H u y) (e : isD x y = some b) :
    (u = .non ∧ decide (v = .non) = b) ∨ ∃ i j : Bool, v = .bl i ∧ u = .bl j ∧ decide (i = j) = b := by
  unfold isD at e
  split at e
  · cases e
    exact .inl ⟨hy.vNon, by rw [hx.vNon]; rfl⟩
  · rename_i i j
    cases e
    refine .inr ⟨i, j, hx.vBl, hy.vBl, ?_⟩
    cases i <;> cases j <;> rfl
  · cases e
  · rename_i h1 h2
    cases e
    refine .inl ⟨hy.vNon, decide_eq_false fun z => ?_⟩
    subst z
    rcases hx with h | ⟨_, _, _, z, _⟩
    · cases h
      exact h2 rfl
    · cases z
  · cases e
theorem cmp_den {o : COp} {x y : D} {b : Bool} {v u : V} {Q : VK} (w : Wf K am st Hf H) (hx : Opd K am Hf H v x) (hy : Opd K am Hf H u y) (e : cmpD o x y = some b) (q : Q (.bl b) H) : rCmp K o v u H Q := by
  unfold cmpD at e
  split at e
  · rcases deq_den w hx hy e with ⟨h1, h2⟩ | ⟨d, e', h1, h2, h3, h4, h5⟩ | ⟨rfl, p, p', xs, ys, h1, h2, h3, h4, h5⟩
    · exact .inl ⟨h1, by rw [h2]; exact q⟩
    · exact .inr (.inl ⟨d, e', h1, h2, h3, h4, by rw [h5]; exact q⟩)
    · exact .inr (.inr ⟨p, p', xs, ys, h1, h2, h3, h4, h5, q⟩)
  · cases h : deq x y with
    | none => rw [h] at e; cases e
    | some k =>
      rw [h] at e
      cases e
      rcases deq_den w hx hy h with ⟨h1, h2⟩ | ⟨d, e', h1, h2, h3, h4, h5⟩ | ⟨rfl, p, p', xs, ys, h1, h2, h3, h4, h5⟩
      · exact .inl ⟨h1, by rw [h2]; exact q⟩
      · exact .inr (.inl ⟨d, e', h1, h2, h3, h4, by rw [h5]; exact q⟩)
      · exact .inr (.inr ⟨p, p', xs, ys, h1, h2, h3, h4, h5, q⟩)
  · cases e; exact ⟨_, _, hx.vInt, hy.vInt, q⟩
  · cases e; exact ⟨_, _, hx.vInt, hy.vInt, q⟩
  · cases e; exact ⟨_, _, hx.vInt, hy.vInt, q⟩
  · cases e; exact ⟨_, _, hx.vInt, hy.vInt, q⟩
  · rcases is_den hx hy e with ⟨h1, h2⟩ | ⟨i, j, h1, h2, h3⟩
    · exact .inl ⟨h1, by rw [h2]; exact q⟩
    · exact .inr ⟨i, j, h1, h2, by rw [h3]; exact q⟩
  · cases h : isD x y with
    | none => rw [h] at e; cases e
    | some k =>
      rw [h] at e
      cases e
      rcases is_den hx hy h with ⟨h1, h2⟩ | ⟨i, j, h1, h2, h3⟩
      · exact .inl ⟨h1, by rw [h2]; exact q⟩
      · exact .inr ⟨i, j, h1, h2, by rw [h3]; exact q⟩
  · rcases in_den w hx hy e with ⟨c, z, h1, h2, h3⟩ | ⟨i, j, h1, h2, h3⟩ | ⟨d, ds, h1, h2, h3, h4, h5⟩ | ⟨p, xs, h1, h2, h3, h4, h5⟩
    · exact .inl ⟨c, z, h1, h2, by rw [h3]; exact q⟩
    · exact .inr (.inl ⟨i, j, h1, h2, by rw [h3]; exact q⟩)
    · exact .inr (.inr (.inl ⟨d, ds, h1, h2, h3, h4, by rw [h5]; exact q⟩))
    · exact .inr (.inr (.inr ⟨p, xs, h1, h2, h3, h4, by rw [if_neg Bool.false_ne_true, h5]; exact q⟩))
  · cases h : inD x y with
    | none => rw [h] at e; cases e
    | some k =>
      rw [h] at e
      cases e
      rcases in_den w hx hy h with ⟨c, z, h1, h2, h3⟩ | ⟨i, j, h1, h2, h3⟩ | ⟨d, ds, h1, h2, h3, h4, h5⟩ | ⟨p, xs, h1, h2, h3, h4, h5⟩
      · exact .inl ⟨c, z, h1, h2, by rw [h3]; exact q⟩
      · exact .inr (.inl ⟨i, j, h1, h2, by rw [h3]; exact q⟩)
      · exact .inr (.inr (.inl ⟨d, ds, h1, h2, h3, h4, by rw [h5]; exact q⟩))
      · exact .inr (.inr (.inr ⟨p, xs, h1, h2, h3, h4, by rw [if_pos rfl, h5]; exact q⟩))
  · cases e
end
end PF
namespace PF
open PySem L2
theorem glued_tx (a : Tx) : ∀ ys : List Tx, Txt.join (tx a) (ys.map tx) = tx (joinT a ys) := fun ys => by
  show Builtin.Str.glued (tx a) (ys.map tx) = _
  rw [PySem.StrLaws.glued_eq_join]
  induction ys with
  | nil => rfl
  | cons x r ih =>
    cases r with
    | nil => rfl
    | cons y r =>
      show Str.join (tx a) (tx x :: tx y :: r.map tx) = tx (x ++ a ++ joinT a (y :: r))
      rw [← tx_app, ← tx_app, ← ih]
      rfl
theorem joinT_len (a : Tx) : ∀ ys : List Tx, (joinT a ys).length ≤ (ys.map (·.length)).sum + ys.length * a.length
  | [] => by simp [joinT]
  | [x] => by simp [joinT]
  | x :: y :: r => by
    have ih := joinT_len a (y :: r)
    rw [joinT, List.length_append, List.length_append, List.map_cons, List.sum_cons, List.length_cons, Nat.succ_mul]
    omega
section
variable {K : PySem.W.Frag} {cl : Nat → Addr} {am : List Addr} {st : Store} {Hf H : Hp}
theorem tru_den {x : D} {k : Bool} {v : V} (w : Wf K am st Hf H) (hx : Opd K am Hf H v x) (e : truthD x = some k) : TruV K v H k := by
  unfold truthD at e
  split at e
  · cases e; rw [hx.vNon]; rfl
  · cases e; rw [hx.vBl]; rfl
  · cases e; rw [hx.vInt]; rfl
  · rename_i s
    cases e
    rw [hx.vStr.1]
    refine ⟨by rw [tx_len, ← line_eq]; exact hx.vStr.2, ?_⟩
    rw [tx_len]
    cases s with
    | nil => rfl
    | cons c r =>
      show true = (((c :: r).length : Int) != 0)
      rw [List.length_cons]
      symm
      rw [bne_iff_ne]
      omega
  · rename_i s
    cases e
    obtain ⟨p, vs, rfl, hp, r, hz, _⟩ := hx.lst w
    refine .inl ⟨vs, SqL.of hp, ?_⟩
    have := r.length
    cases vs <;> cases s <;> first | rfl | (simp at this)
  · rename_i s
    cases e
    obtain ⟨p, vs, rfl, hp, r, hz⟩ := hx.vTup
    refine .inr (.inl ⟨vs, Same.seqT w.sub hp, ?_⟩)
    have := r.length
    cases vs <;> cases s <;> first | rfl | (simp at this)
  · cases e
theorem atI_rep {vs : List V} {ds : List D} {i : Int} {d : D} (r : RepL K am Hf vs ds) (e : atI ds i = some d) : ∃ v, atI vs i = some v ∧ Rep K am Hf v d := by
  unfold atI at e ⊢
  rw [r.length]
  cases h : ixN ds.length i with
  | none => rw [h] at e; cases e
  | some j =>
    rw [h] at e
    exact r.get e
theorem idx_den {x y z : D} {v u : V} {Q : VK} (w : Wf K am st Hf H) (hx : Opd K am Hf H v x) (hy : Rep K am Hf u y) (e : idxD st x y = some z) (q : Fin K am st Hf H z Q) : rIx K v u H Q := by
  unfold idxD at e
  split at e
  · obtain ⟨p, vs, rfl, hp, r, hz, _⟩ := hx.lst w
    obtain ⟨v', h1, h2⟩ := atI_rep r e
    exact .inl ⟨p, vs, _, v', rfl, hy.vInt, SqL.of hp, h1, q.now w h2⟩
  · obtain ⟨p, vs, rfl, hp, r, hz⟩ := (hx.rep (fun _ z => by cases z)).vScr
    obtain ⟨v', h1, h2⟩ := atI_rep r e
    exact .inl ⟨p, vs, _, v', rfl, hy.vInt, w.sub.seq hp, h1, q.now w h2⟩
  · obtain ⟨p, vs, rfl, hp, r, hz⟩ := hx.vTup
    obtain ⟨v', h1, h2⟩ := atI_rep r e
    exact .inr (.inl ⟨p, vs, _, v', rfl, hy.vInt, Same.seqT w.sub hp, h1, q.now w h2⟩)
  · rename_i s i
    cases h : atI s i with
    | none => rw [h] at e; cases e
    | some c =>
      rw [h] at e
      cases e
      refine .inr (.inr ⟨tx s, i, c, hx.vStr.1, hy.vInt, by rw [tx_len, ← line_eq]; exact hx.vStr.2, by rw [tx_cps]; exact h, ?_⟩)
      exact q.now w (.str [c] (by show 1 ≤ line; decide))
  · rename_i n i
    split at e
    · rename_i xs hc
      obtain ⟨a, rfl, ha⟩ := (hx.rep (fun _ z => by cases z)).vRef
      obtain ⟨vs, hp, r, _⟩ := w.cell _ _ _ ha hc
      obtain ⟨v', h1, h2⟩ := atI_rep r e
      exact .inl ⟨a, vs, _, v', rfl, hy.vInt, SqL.of hp, h1, q.now w h2⟩
    · cases e
  · cases e
theorem cut_rep {vs : List V} {ds : List D} {lo hi : Option Int} (r : RepL K am Hf vs ds) : RepL K am Hf (cutV vs lo hi) (cut ds lo hi) := by
  unfold cutV cut
  rw [r.length]
  exact (r.drop _).take _
theorem cut_len {α : Type} (xs : List α) (lo hi : Option Int) : (cut xs lo hi).length ≤ xs.length := by
  unfold cut
  rw [List.length_take, List.length_drop]
  omega
theorem slc_den {x z : D} {v : V} {lo hi : Option Int} {Q : VK} (w : Wf K am st Hf H) (hx : Opd K am Hf H v x) (e : slcD x lo hi = some z) (q : Fin K am st Hf H z Q) : rSlc K v lo hi H Q := by
  unfold slcD at e
  split at e
  · cases e
    obtain ⟨p, vs, rfl, hp, r, hz, _⟩ := hx.lst w
    exact .inl ⟨p, vs, rfl, SqL.of hp, new_lst w (cut_rep r) (Nat.le_trans (cut_len _ _ _) hz) q⟩
  · rename_i xs
    split at e
    · cases e
    · rename_i hn
      cases e
      obtain ⟨p, vs, rfl, hp, r, hz⟩ := hx.vTup
      exact .inr (.inl ⟨p, vs, rfl, Same.seqT w.sub hp, by rw [r.length]; exact hn, new_tup w (cut_rep r) (Nat.le_trans (cut_len _ _ _) hz) q⟩)
  · rename_i s
    cases e
    refine .inr (.inr ⟨tx s, hx.vStr.1, by rw [tx_len, ← line_eq]; exact hx.vStr.2, ?_⟩)
    have e1 : cutS (tx s) lo hi = tx (cut s lo hi) := by
      unfold cutS cut
      rw [tx_cps, tx_len]
      rfl
    rw [e1]
    exact q.now w (.str _ (Nat.le_trans (cut_len _ _ _) hx.vStr.2))
  · cases e
theorem bools_rep : ∀ {vs : List V} {ds : List D} {bs : List Bool}, RepL K am Hf vs ds → boolsOf ds = some bs → vs = bs.map V.bl
  | _, _, _, .nil, e => by cases e; rfl
  | _, _, bs, .cons (d := d) (ds := ds) h r, e => by
    cases d with
    | bl b =>
      rw [boolsOf] at e
      cases q : boolsOf ds with
      | none => rw [q] at e; cases e
      | some cs =>
        rw [q] at e
        cases e
        rw [List.map_cons, h.vBl, bools_rep r q]
    | _ => cases e
theorem texts_rep : ∀ {vs : List V} {ds : List D} {bs : List Tx}, RepL K am Hf vs ds → textsOf ds = some bs → vs = (bs.map tx).map V.str
  | _, _, _, .nil, e => by cases e; rfl
  | _, _, bs, .cons (d := d) (ds := ds) h r, e => by
    cases d with
    | str b =>
      rw [textsOf] at e
      cases q : textsOf ds with
      | none => rw [q] at e; cases e
      | some cs =>
        rw [q] at e
        cases e
        rw [List.map_cons, List.map_cons, h.vStr.1, texts_rep r q]
    | _ => cases e
theorem OpdL.one {vs : List V} {d : D} (h : OpdL K am Hf H vs [d]) : ∃ v, vs = [v] ∧ Opd K am Hf H v d := by
  cases h with
  | cons h r =>
    cases r
    exact ⟨_, rfl, h⟩
theorem OpdL.two {vs : List V} {d e : D} (h : OpdL K am Hf H vs [d, e]) : ∃ v u, vs = [v, u] ∧ Opd K am Hf H v d ∧ Opd K am Hf H u e := by
  cases h with
  | cons h r =>
    obtain ⟨u, rfl, h2⟩ := r.one
    exact ⟨_, _, rfl, h, h2⟩
theorem OpdL.zero {vs : List V} (h : OpdL K am Hf H vs []) : vs = [] := by cases h; rfl
theorem ty_den {x : D} {n : String} {v : V} (w : Wf K am st Hf H) (hx : Opd K am Hf H v x) (e : tyName x = some n) : TyX K H v (.type n) := by
  unfold tyName at e
  split at e
  · cases e; rw [hx.vNon]; exact .base .non
  · cases e; rw [hx.vBl]; exact .base (.bl _)
  · cases e; rw [hx.vInt]; exact .base (.int _)
  · cases e; rw [hx.vStr.1]; exact .base (.str _)
  · cases e
    obtain ⟨p, vs, rfl, hp, r, hz, _⟩ := hx.lst w
    exact .base (.lst hp)
  · cases e
    obtain ⟨p, vs, rfl, hp, r, hz⟩ := hx.vTup
    rcases Same.seqT w.sub hp with (h | ⟨o, h⟩) | ⟨o, its, n, h1, h2, _⟩
    · exact .base (.tup h)
    · exact .fTuple h
    · exact .kTuple h1 h2
  · cases e
    rcases hx with h | ⟨_, _, _, _, z, _⟩
    · cases h with
      | dct h r => exact .base (.dK (w.sub _ _ h))
    · cases z
  · cases e
theorem bf_den {f : BF} {xs : List D} {z : D} {vs : List V} {Q : VK} (w : Wf K am st Hf H) (hx : OpdL K am Hf H vs xs) (e : bfD st f xs = some z) (q : Fin K am st Hf H z Q) : rBF K f vs H Q := by
  unfold bfD at e
  split at e
  · cases e
    obtain ⟨v, rfl, h⟩ := hx.one
    exact ⟨v, _, rfl, by rw [h.vStr.1]; exact ⟨by rw [tx_len, ← line_eq]; exact h.vStr.2, (tx_len _).symm⟩, q.now w (.int _)⟩
  · cases e
    obtain ⟨v, rfl, h⟩ := hx.one
    obtain ⟨p, vs, rfl, hp, r, hz, _⟩ := h.lst w
    exact ⟨_, _, rfl, .inl ⟨vs, SqL.of hp, r.length.symm⟩, q.now w (.int _)⟩
  · cases e
    obtain ⟨v, rfl, h⟩ := hx.one
    obtain ⟨p, vs, rfl, hp, r, hz⟩ := h.vTup
    exact ⟨_, _, rfl, .inr ⟨vs, Same.seqT w.sub hp, r.length.symm⟩, q.now w (.int _)⟩
  · cases e
    obtain ⟨v, rfl, h⟩ := hx.one
    obtain ⟨p, vs, rfl, hp, r, hz⟩ := (h.rep (fun _ z => by cases z)).vScr
    exact ⟨_, _, rfl, .inl ⟨vs, w.sub.seq hp, r.length.symm⟩, q.now w (.int _)⟩
  · cases e
    obtain ⟨v, u, rfl, h, k⟩ := hx.two
    exact ⟨_, _, by rw [h.vInt, k.vInt], q.now w (.int _)⟩
  · cases e
    obtain ⟨v, u, rfl, h, k⟩ := hx.two
    exact ⟨_, _, by rw [h.vInt, k.vInt], q.now w (.int _)⟩
  · cases e
    obtain ⟨v, rfl, h⟩ := hx.one
    exact .inl (.inl ⟨_, by rw [h.vInt], q.now w (.int _)⟩)
  · rename_i s
    split at e
    · rename_i hl
      obtain ⟨v, rfl, h⟩ := hx.one
      cases hn : PySem.intText? (tx s) with
      | none => rw [hn] at e; cases e
      | some n =>
        rw [hn] at e
        cases e
        exact .inr ⟨_, _, by rw [h.vStr.1], hn, by rw [tx_len]; exact hl, q.now w (.int _)⟩
    · cases e
  · split at e
    · rename_i i hl
      cases e
      obtain ⟨v, rfl, h⟩ := hx.one
      refine ⟨_, by rw [h.vInt], hl.1, ?_⟩
      rw [← tx_unt (toString i)]
      exact q.now w (.str _ hl.2)
    · cases e
  · cases e
    obtain ⟨v, rfl, h⟩ := hx.one
    obtain ⟨p, vs, rfl, hp, r, hz, _⟩ := h.lst w
    exact ⟨_, _, rfl, .inl (SqL.of hp), new_lst w r hz q⟩
  · cases e
    obtain ⟨v, rfl, h⟩ := hx.one
    obtain ⟨p, vs, rfl, hp, r, hz⟩ := h.vTup
    exact ⟨_, _, rfl, .inr (Same.seqT w.sub hp), new_lst w r hz q⟩
  · cases e
    obtain ⟨v, rfl, h⟩ := hx.one
    obtain ⟨p, vs, rfl, hp, r, hz, _⟩ := h.lst w
    exact ⟨_, _, rfl, .inl ⟨SqL.of hp, new_tup w r hz q⟩⟩
  · cases e
    obtain ⟨v, rfl, h⟩ := hx.one
    obtain ⟨p, vs, rfl, hp, r, hz⟩ := h.vTup
    exact ⟨_, _, rfl, .inr ⟨Same.seqT w.sub hp, q.now w (.tup hz hp r)⟩⟩
  · rename_i xs
    cases hb : boolsOf xs with
    | none => rw [hb] at e; cases e
    | some bs =>
      rw [hb] at e
      cases e
      obtain ⟨v, rfl, h⟩ := hx.one
      obtain ⟨p, vs, rfl, hp, r, hz, _⟩ := h.lst w
      exact ⟨p, bs, rfl, by rw [← bools_rep r hb]; exact SqL.of hp, q.now w (.bl _)⟩
  · rename_i xs
    cases hb : boolsOf xs with
    | none => rw [hb] at e; cases e
    | some bs =>
      rw [hb] at e
      cases e
      obtain ⟨v, rfl, h⟩ := hx.one
      obtain ⟨p, vs, rfl, hp, r, hz, _⟩ := h.lst w
      exact ⟨p, bs, rfl, by rw [← bools_rep r hb]; exact SqL.of hp, q.now w (.bl _)⟩
  · rename_i x n
    cases hm : tyName x with
    | none => rw [hm] at e; cases e
    | some m =>
      rw [hm] at e
      cases hk : kitB m n with
      | none => rw [Option.bind_some, hk] at e; cases e
      | some b =>
        rw [Option.bind_some, hk] at e
        cases e
        obtain ⟨v, u, rfl, h, k⟩ := hx.two
        have ku := (k.rep (fun _ z => by cases z)).vTy
        subst ku
        exact ⟨v, _, _, _, b, rfl, .ty n, ty_den w h hm, kit_ty hk, q.now w (.bl _)⟩
  · cases e
theorem fmt_den {x z : D} {v : V} {Q : VK} (w : Wf K am st Hf H) (h : Rep K am Hf v x) (e : fmtD x = some z) (q : Fin K am st Hf H z Q) : (∃ y, v = V.str y ∧ Str.length y ≤ sizeLine ∧ Q (V.str y) H) ∨ ∃ i, v = V.int i ∧ Nat.log2 (Int.natAbs i) < 1920 ∧ Q (V.str (Str.ofString (toString i))) H := by
  unfold fmtD at e
  split at e
  · cases e
    exact .inl ⟨_, h.vStr.1, by rw [tx_len, ← line_eq]; exact h.vStr.2, q.now w (.str _ h.vStr.2)⟩
  · split at e
    · rename_i i hl
      cases e
      refine .inr ⟨i, h.vInt, hl.1, ?_⟩
      have e2 : (Str.ofString (toString i)) = tx (unt (toString i)) := (tx_unt _).symm
      rw [e2]
      exact q.now w (.str _ hl.2)
    · cases e
  · cases e
theorem bm_den {m : BM} {x : D} {xs : List D} {z : D} {v : V} {vs : List V} {Q : VK} (w : Wf K am st Hf H) (h : Rep K am Hf v x) (hx : OpdL K am Hf H vs xs) (e : bmD st m x xs = some z) (q : Fin K am st Hf H z Q) : tyV K (bmTy m) v H ∧ rBM K m v vs H Q := by
  unfold bmD at e
  split at e
  · rename_i s
    split at e
    · rename_i hl
      cases e
      rw [hx.zero, h.vStr.1]
      refine ⟨rfl, _, rfl, rfl, by rw [tx_len]; exact hl, ?_⟩
      rw [← tx_unt (Txt.upper (tx s))]
      refine q.now w (.str _ ?_)
      have h1 := PyProof.Rows.len_upper (tx s)
      rw [tx_len] at h1
      have h2 : (unt (Txt.upper (tx s))).length = (Txt.upper (tx s)).length := by simp [unt, Str.length]
      rw [h2]
      show _ ≤ 16777216
      omega
    · cases e
  · rename_i s
    split at e
    · rename_i hl
      cases e
      rw [hx.zero, h.vStr.1]
      refine ⟨rfl, _, rfl, rfl, by rw [tx_len]; exact hl, ?_⟩
      rw [← tx_unt (Txt.lower (tx s))]
      refine q.now w (.str _ ?_)
      have h1 := PyProof.Rows.len_lower (tx s)
      rw [tx_len] at h1
      have h2 : (unt (Txt.lower (tx s))).length = (Txt.lower (tx s)).length := by simp [unt, Str.length]
      rw [h2]
      show _ ≤ 16777216
      omega
    · cases e
  · rename_i a xs
    cases ht : textsOf xs with
    | none => rw [ht] at e; cases e
    | some ys =>
      rw [ht, Option.bind_some] at e
      split at e
      · rename_i hl
        cases e
        obtain ⟨u, rfl, k⟩ := hx.one
        obtain ⟨p, us, rfl, hp, r, hz, _⟩ := k.lst w
        rw [h.vStr.1]
        refine ⟨rfl, _, p, ys.map tx, rfl, rfl, .inl (by rw [← texts_rep r ht]; exact SqL.of hp), ?_, ?_⟩
        · rw [List.map_map, List.length_map, tx_len]
          have e2 : ((fun x => x.length) ∘ tx : Tx → Nat) = (fun x => x.length) := by
            funext t
            exact tx_len t
          rw [e2]
          exact hl
        · rw [glued_tx]
          exact q.now w (.str _ (Nat.le_trans (joinT_len a ys) hl))
      · cases e
  · cases e
    obtain ⟨u, rfl, k⟩ := hx.one
    rw [h.vStr.1, k.vStr.1]
    exact ⟨rfl, _, _, rfl, rfl, q.now w (.int _)⟩
  · cases e
    obtain ⟨u, rfl, k⟩ := hx.one
    rw [h.vStr.1, k.vStr.1]
    exact ⟨rfl, .inl ⟨_, _, rfl, rfl, q.now w (.int _)⟩⟩
  · cases e
    obtain ⟨u, u', rfl, k, k'⟩ := hx.two
    rw [h.vStr.1, k.vStr.1, k'.vInt]
    exact ⟨rfl, .inr ⟨_, _, _, rfl, rfl, q.now w (.int _)⟩⟩
  · cases e
end
end PF
namespace PF
open PySem L2
/-- what a def promises: what the interpreter gives -/
def spOf (K : PySem.W.Frag) (cl : Nat → Addr) (C : Calls) (f : Nat) : Sp := fun vs H Q E => ∃ am st Hf ds, Wf K am st Hf H ∧ RepL K am Hf vs ds ∧ Post K cl (RV K) (C f ds st) am Hf H Q E
abbrev RO (K : PySem.W.Frag) : List Addr → Hp → Hp → V → D → Prop := fun am Hf H v d => Opd K am Hf H v d
abbrev ROs (K : PySem.W.Frag) : List Addr → Hp → Hp → List V → List D → Prop := fun am Hf H v d => OpdL K am Hf H v d
/-- a list that is new and still one's own -/
def PostN (K : PySem.W.Frag) (cl : Nat → Addr) (r : O D) (am : List Addr) (Hf H : Hp) (Q : VK) (W : XK) : Prop :=
  match r with
  | .ok d st' => ∃ ds, d = .lst ds ∧ ∀ p vs am' Hf' H', Fm am Hf H am' Hf' H' → Wf K am' st' Hf' H' → H p = none → H' p = some (.lst vs) → Hf' p = none → p ∉ am' → RepL K am' Hf' vs ds → ds.length ≤ line → Q (.ref p) H'
  | .exc x st' => ∀ c dd am' Hf' H', Fm am Hf H am' Hf' H' → Wf K am' st' Hf' H' → XOk K cl am' Hf' x c dd → W c dd H'
  | .bad => False
section
variable {K : PySem.W.Frag} {cl : Nat → Addr} {am am1 : List Addr} {Hf Hf1 H H1 : Hp} {W : XK}
theorem PostN.step {α β : Type} {R1 : List Addr → Hp → Hp → β → α → Prop} {o : O α} {f : α → Store → O D} {Q1 : β → Hp → Prop} {Q : VK}
    (P : PostN K cl (o.bind f) am Hf H Q W) (f0 : Fm am Hf H am1 Hf1 H1)
    (k : ∀ v d st2 am2 Hf2 H2, Fm am Hf H am2 Hf2 H2 → Fm am1 Hf1 H1 am2 Hf2 H2 → Wf K am2 st2 Hf2 H2 → R1 am2 Hf2 H2 v d → PostN K cl (f d st2) am Hf H Q W → Q1 v H2) :
    Post K cl R1 o am1 Hf1 H1 Q1 W := by
  cases o with
  | ok d st2 => exact fun v am2 Hf2 H2 fm wf r => k v d st2 am2 Hf2 H2 (f0.trans fm) fm wf r P
  | exc x st2 => exact fun c dd am2 Hf2 H2 fm wf r => P c dd am2 Hf2 H2 (f0.trans fm) wf r
  | bad => exact P
theorem PostN.liftB {α : Type} {o : Option α} {st : Store} {f : α → Store → O D} {Q : VK} (P : PostN K cl ((lift o st).bind f) am Hf H Q W) : ∃ a, o = some a ∧ PostN K cl (f a st) am Hf H Q W := by
  cases o with
  | none => exact P.elim
  | some a => exact ⟨a, rfl, P⟩
/-- frozen, a new list is data -/
theorem PostN.of {r : O D} {Q : VK} (hl : ∀ d st, r = .ok d st → ∃ ds, d = .lst ds) (P : Post K cl (RV K) r am Hf H Q W) : PostN K cl r am Hf H Q W := by
  cases r with
  | bad => exact P
  | exc x st => exact P
  | ok d st =>
    obtain ⟨ds, rfl⟩ := hl _ _ rfl
    refine ⟨ds, rfl, fun p vs am' Hf' H' fm wf np hp nf na r hz => ?_⟩
    have sm : Same Hf' (upd Hf' p (.lst vs)) := fun b u e => by
      rw [upd_ne (ne_of_none e nf)]; exact e
    exact P _ am' _ H' (fm.frz np nf) (wf.frz hp nf na) (.lst hz upd_same (r.mono (.refl _) sm))
/-- no error leaves -/
theorem Post.nox_ {α β : Type} {R : List Addr → Hp → Hp → β → α → Prop} {o : O α} {Q : β → Hp → Prop} (P : Post K cl R o.nox am Hf H Q W) : Post K cl R o am Hf H Q fun _ _ _ => False := by
  cases o with
  | ok d st => exact P
  | exc x st => exact P.elim
  | bad => exact P
end
section
variable {K : PySem.W.Frag} {cl : Nat → Addr} {C : Calls}
/-- the comprehension's loop -/
theorem lc_gen {J : It} {n : Nat} {G : Hp → Prop} {Y : Nat → Hp → V → Hp → Prop} {am am1 : List Addr} {Hf H Hf1 H1 H0 : Hp} {st1 : Store} {Q : VK} {W : XK} {σ : St} {ρ : Env} {j : Nat} {tt : TT} {te : TE} {ds : List D} {f : D → Store → O (Option D)} {Dl : Addr}
    {ft : D → Store → O Bool} {fe : D → Store → O D}
    (w : Walk J n G Y) (hn : n = ds.length) (hz : ds.length ≤ line) (f0 : Fm am Hf H am1 Hf1 H1) (w1 : Wf K am1 st1 Hf1 H1) (s1 : Sig K am1 Hf1 H1 H0 σ ρ)
    (hY : ∀ i H' x H'', i < n → Y i H' x H'' → H'' = H' ∧ ∃ d, ds[i]? = some d ∧ Rep K am1 Hf1 x d)
    (hG : ∀ am' Hf' H', Fm am1 Hf1 H1 am' Hf' H' → G H')
    (hf : ∀ x st, f x st = (ft x st).nox.bind fun k st => if k then (fe x st).nox.bind fun y st => .ok (some y) st else .ok none st)
    (ht : ∀ {x st am Hf H σ Q}, Wf K am st Hf H → Sig K am Hf H H0 σ (ρ.set j (.im x)) → Post K cl RB (ft x st) am Hf H Q (fun _ _ _ => False) → tt σ H Q)
    (he : ∀ {x st am Hf H σ Q}, Wf K am st Hf H → Sig K am Hf H H0 σ (ρ.set j (.im x)) → Post K cl (RV K) (fe x st) am Hf H Q (fun _ _ _ => False) → te σ H Q)
    (nD : H1 Dl = none) (nD0 : H Dl = none) (P : PostN K cl ((mapO f ds st1).bind fun ys st => .ok (.lst ys) st) am Hf H Q W) :
    ∃ W : Nat → Nat → Hp → Prop, (∃ m, W 0 m (upd H1 Dl (.lst []))) ∧ ∀ i m H, W i m H →
      (J.stop i H ∧ Q (.ref Dl) H) ∨ (J.go i H ∧ ∃ Nx : Hp → Prop, (∀ H', Nx H' → ∃ m', m' < m ∧ W (i + 1) m' H') ∧ ∀ x H', J.yld i H x H' → gName j x (wipe σ [j]) H' fun σ2 H2 => wipe σ2 [j] = wipe σ [j] ∧ tt σ2 H2 fun b H3 =>
        if b = true then te σ2 H3 fun y H4 => ∃ acc, H4 Dl = some (.lst acc) ∧ acc.length < sizeLine ∧ Nx (upd H4 Dl (.lst (acc ++ [y]))) else Nx H3) := by
  subst hn
  refine lc_it (Qd := fun H => Q (.ref Dl) H) w (fun i H' => ∃ am' st' Hf' accv accd, Fm am1 Hf1 H1 am' Hf' H' ∧ Wf K am' st' Hf' H' ∧ H' Dl = some (.lst accv) ∧ Hf' Dl = none ∧ Dl ∉ am' ∧ RepL K am' Hf' accv accd ∧ accd.length ≤ i ∧
      PostN K cl ((mapO f (ds.drop i) st').bind fun ys st => .ok (.lst (accd ++ ys)) st) am Hf H Q W) ?_ ?_ ?_ ?_
  · exact ⟨am1, st1, Hf1, [], [], Fm.own nD, w1.own (w1.nof nD) (w1.notin nD), upd_same, w1.nof nD, w1.notin nD, .nil, Nat.zero_le _, P⟩
  · rintro i H' _ ⟨am', st', Hf', accv, accd, fm, _⟩
    exact hG am' Hf' H' fm
  · rintro i x H' H'' hi ⟨am', st', Hf', accv, accd, fm, wf, hD, nf, na, r, hl, P⟩ y
    obtain ⟨rfl, d, hd, rx⟩ := hY i H' x H'' hi y
    have rx' := rx.mono fm.pre fm.hf
    have s2 : Sig K am' Hf' H'' H0 ((wipe σ [j]).set j (some x)) (ρ.set j (.im d)) := (s1.next fm).wset rx'
    have hdrop : ds.drop i = d :: ds.drop (i + 1) := by
      have := (List.getElem?_eq_some_iff.mp hd)
      obtain ⟨h1, h2⟩ := this
      rw [← h2]
      exact List.drop_eq_getElem_cons h1
    rw [hdrop] at P
    have e1 : (mapO f (d :: ds.drop (i + 1)) st').bind (fun ys st => O.ok (D.lst (accd ++ ys)) st) = (f d st').bind fun y st => ((mapO f (ds.drop (i + 1)) st).bind fun ys st => .ok (match y with | some y => y :: ys | none => ys) st).bind fun ys st => .ok (.lst (accd ++ ys)) st := by
      rw [mapO]
      cases f d st' <;> rfl
    rw [e1, hf] at P
    refine ⟨?_, ?_⟩
    · show ((wipe σ [j]).set j (some x)).set j none = (wipe σ [j])
      rw [List.set_set]
      show (σ.set j none).set j none = σ.set j none
      rw [List.set_set]
    · have hlen : i < ds.length := hi
      -- the test
      have P1 : PostN K cl ((ft d st').nox.bind fun k st => (if k = true then (fe d st).nox.bind fun y st => .ok (some y) st else .ok none st).bind fun y st => ((mapO f (ds.drop (i + 1)) st).bind fun ys st => .ok (match y with | some y => y :: ys | none => ys) st).bind fun ys st => .ok (.lst (accd ++ ys)) st) am Hf H Q W := by
        cases hh : (ft d st').nox with
        | ok k st => rw [hh] at P; exact P
        | exc _ _ => rw [hh] at P; exact P
        | bad => rw [hh] at P; exact P
      refine ht wf s2 (Post.nox_ (W := W) (PostN.step (R1 := RB) P1 (f0.trans fm) fun b k st2 am2 Hf2 H2 fm2 fm3 wf2 e P2 => ?_))
      subst e
      have hD2 : H2 Dl = some (.lst accv) := fm3.keep _ _ hD na
      have nf2 : Hf2 Dl = none := fm3.offF _ _ hD nf
      have na2 : Dl ∉ am2 := fun z => na (fm3.offA _ _ hD z)
      cases b with
      | true =>
        rw [if_pos rfl] at P2 ⊢
        have P3 : PostN K cl ((fe d st2).nox.bind fun y st => ((mapO f (ds.drop (i + 1)) st).bind fun ys st => .ok (y :: ys) st).bind fun ys st => .ok (.lst (accd ++ ys)) st) am Hf H Q W := by
          cases hh : (fe d st2).nox with
          | ok k st => rw [hh] at P2; exact P2
          | exc _ _ => rw [hh] at P2; exact P2
          | bad => rw [hh] at P2; exact P2
        refine he wf2 (s2.next fm3) (Post.nox_ (W := W) (PostN.step (R1 := RV K) P3 fm2 fun y yd st3 am3 Hf3 H3 fm4 fm5 wf3 ry P4 => ?_))
        have hD3 : H3 Dl = some (.lst accv) := fm5.keep _ _ hD2 na2
        have nf3 : Hf3 Dl = none := fm5.offF _ _ hD2 nf2
        have na3 : Dl ∉ am3 := fun z => na2 (fm5.offA _ _ hD2 z)
        have r3 := r.mono (fm3.pre.trans fm5.pre) (fm3.hf.trans fm5.hf)
        refine ⟨accv, hD3, ?_, am3, st3, Hf3, accv ++ [y], accd ++ [yd], (fm.trans (fm3.trans fm5)).mut nD, wf3.own nf3 na3, upd_same, nf3, na3, r3.append (.one ry), ?_, ?_⟩
        · rw [r3.length, ← line_eq]
          omega
        · rw [List.length_append, List.length_singleton]
          omega
        · cases hh : mapO f (ds.drop (i + 1)) st3 with
          | ok ys st => rw [hh] at P4; simpa using P4
          | exc _ _ => rw [hh] at P4; exact P4
          | bad => rw [hh] at P4; exact P4
      | false =>
        rw [if_neg Bool.false_ne_true] at P2 ⊢
        refine ⟨am2, st2, Hf2, accv, accd, fm.trans fm3, wf2, hD2, nf2, na2, r.mono fm3.pre fm3.hf, Nat.le_succ_of_le hl, ?_⟩
        cases hh : mapO f (ds.drop (i + 1)) st2 with
        | ok ys st =>
          have P2 : PostN K cl (((mapO f (ds.drop (i + 1)) st2).bind fun ys st => .ok ys st).bind fun ys st => .ok (.lst (accd ++ ys)) st) am Hf H Q W := P2
          rw [hh] at P2
          exact P2
        | exc _ _ =>
          have P2 : PostN K cl (((mapO f (ds.drop (i + 1)) st2).bind fun ys st => .ok ys st).bind fun ys st => .ok (.lst (accd ++ ys)) st) am Hf H Q W := P2
          rw [hh] at P2
          exact P2
        | bad =>
          have P2 : PostN K cl (((mapO f (ds.drop (i + 1)) st2).bind fun ys st => .ok ys st).bind fun ys st => .ok (.lst (accd ++ ys)) st) am Hf H Q W := P2
          rw [hh] at P2
          exact P2
  · rintro H' ⟨am', st', Hf', accv, accd, fm, wf, hD, nf, na, r, hl, P⟩
    rw [List.drop_length] at P
    obtain ⟨ds', e, k⟩ := P
    cases e
    rw [List.append_nil] at k
    exact k Dl accv am' Hf' H' (f0.trans fm) wf nD0 hD nf na r (Nat.le_trans hl hz)
end
end PF
namespace PF
open PySem L2
inductive RepP (K : PySem.W.Frag) (am : List Addr) (H : Hp) : List (V × V) → List (D × D) → Prop
  | nil : RepP K am H [] []
  | cons {k v : V} {a b : D} {vs : List (V × V)} {ds : List (D × D)} : Rep K am H k a → Rep K am H v b → RepP K am H vs ds → RepP K am H ((k, v) :: vs) ((a, b) :: ds)
abbrev RPs (K : PySem.W.Frag) : List Addr → Hp → Hp → List (V × V) → List (D × D) → Prop := fun am Hf _ v d => RepP K am Hf v d
theorem RepP.keys {K : PySem.W.Frag} {am : List Addr} {H : Hp} : ∀ {ps : List (V × V)} {ds : List (D × D)} {kvs : List (Key × D)}, RepP K am H ps ds → keysD ds = some kvs → ∃ vs : List (Key × V), ps = vs.map (fun kv => (kV kv.1, kv.2)) ∧ RepK K am H vs kvs ∧ vs.length = ds.length
  | _, _, _, .nil, e => by cases e; exact ⟨[], rfl, .nil, rfl⟩
  | _, _, _, .cons (k := k) (v := v) (a := a) (b := b) (ds := ds) h1 h2 r, e => by
    rw [keysD] at e
    cases q1 : keyD a with
    | none => rw [q1] at e; cases e
    | some k' =>
      cases q2 : keysD ds with
      | none => rw [q1, q2] at e; cases e
      | some r' =>
        rw [q1, q2] at e
        cases e
        obtain ⟨vs, e1, e2, e3⟩ := RepP.keys r q2
        have ek : k = kV k' := by
          unfold keyD at q1
          split at q1
          · cases q1; exact h1.vInt
          · cases q1; exact h1.vStr.1
          · cases q1
        exact ⟨(k', v) :: vs, by rw [List.map_cons, ← e1, ek], .cons h2 e2, by rw [List.length_cons, List.length_cons, e3]⟩
/-- a text that grows -/
abbrev RJ : List Addr → Hp → Hp → Str → Tx → Prop := fun _ _ _ v d => v = tx d ∧ d.length ≤ line
/-- the interpreter's answer holds of the transformer -/
structure Den (K : PySem.W.Frag) (cl : Nat → Addr) (C : Calls) (e : E) : Prop where
  v : ∀ {W : WX} {ρ : Env} {st : Store} {am : List Addr} {Hf H H0 : Hp} {σ : St} {Q : VK}, Wf K am st Hf H → Sig K am Hf H H0 σ ρ → Post K cl (RV K) (ev C e ρ st) am Hf H Q (fun c d H' => W c d σ H') → tE K (spOf K cl C) W e σ H Q
  n : fresh e = true → ∀ {W : WX} {ρ : Env} {st : Store} {am : List Addr} {Hf H H0 : Hp} {σ : St} {Q : VK}, Wf K am st Hf H → Sig K am Hf H H0 σ ρ → PostN K cl (ev C e ρ st) am Hf H Q (fun c d H' => W c d σ H') → tE K (spOf K cl C) W e σ H Q
  vs : ∀ {W : WX} {ρ : Env} {st : Store} {am : List Addr} {Hf H H0 : Hp} {σ : St} {Q : List V → Hp → Prop}, Wf K am st Hf H → Sig K am Hf H H0 σ ρ → Post K cl (RVs K) (evs C e ρ st) am Hf H Q (fun c d H' => W c d σ H') → tA K (spOf K cl C) W e σ H Q
  vo : ∀ {W : WX} {ρ : Env} {st : Store} {am : List Addr} {Hf H H0 : Hp} {σ : St} {Q : List V → Hp → Prop}, Wf K am st Hf H → Sig K am Hf H H0 σ ρ → Post K cl (ROs K) (evo C e ρ st) am Hf H Q (fun c d H' => W c d σ H') → tA K (spOf K cl C) W e σ H Q
  p : ∀ {W : WX} {ρ : Env} {st : Store} {am : List Addr} {Hf H H0 : Hp} {σ : St} {Q : List (V × V) → Hp → Prop}, Wf K am st Hf H → Sig K am Hf H H0 σ ρ → Post K cl (RPs K) (evp C e ρ st) am Hf H Q (fun c d H' => W c d σ H') → tPairs (tP K (spOf K cl C) W e) σ H Q
  t : ∀ {W : WX} {ρ : Env} {st : Store} {am : List Addr} {Hf H H0 : Hp} {σ : St} {Q : Bool → Hp → Prop}, Wf K am st Hf H → Sig K am Hf H H0 σ ρ → Post K cl RB (evT C e ρ st) am Hf H Q (fun c d H' => W c d σ H') → tT K (spOf K cl C) W e σ H Q
  j : ∀ {W : WX} {ρ : Env} {st : Store} {am : List Addr} {Hf H H0 : Hp} {σ : St} {Q : Str → Hp → Prop} {acc : Tx}, acc.length ≤ line → Wf K am st Hf H → Sig K am Hf H H0 σ ρ → Post K cl RJ (evj C e acc ρ st) am Hf H Q (fun c d H' => W c d σ H') → tJs (tJ K (spOf K cl C) W e) (tx acc) σ H Q
section
variable {K : PySem.W.Frag} {cl : Nat → Addr} {C : Calls}
theorem Post.imp {α β : Type} {R R' : List Addr → Hp → Hp → β → α → Prop} {r : O α} {am : List Addr} {Hf H : Hp} {Q : β → Hp → Prop} {W : XK} (h : ∀ am Hf H v d, R am Hf H v d → R' am Hf H v d) (P : Post K cl R' r am Hf H Q W) : Post K cl R r am Hf H Q W := by
  cases r with
  | ok d st => exact fun v am' Hf' H' fm wf q => P v am' Hf' H' fm wf (h _ _ _ _ _ q)
  | exc x st => exact P
  | bad => exact P
/-- an operand -/
theorem Den.o {e : E} (d : Den K cl C e) {W : WX} {ρ : Env} {st : Store} {am : List Addr} {Hf H H0 : Hp} {σ : St} {Q : VK} (w : Wf K am st Hf H) (s : Sig K am Hf H H0 σ ρ) (P : Post K cl (RO K) (opd e (ev C e) ρ st) am Hf H Q (fun c d H' => W c d σ H')) : tE K (spOf K cl C) W e σ H Q := by
  unfold opd at P
  split at P
  · rename_i i
    obtain ⟨x, hx, P⟩ := P.lift_
    unfold borD at hx
    split at hx
    · rename_i ds hs
      cases hx
      obtain ⟨p, vs, h1, h2, h3, h4, h5, h6, h7⟩ := s.slot i _ hs
      exact ⟨_, h1, P _ am Hf H (.refl _ _ _) w (.inr ⟨p, vs, ds, rfl, rfl, h2, h5, h3, h7⟩)⟩
    · rename_i hs
      exact (s.slot i _ hs).elim
    · cases hx
  · exact d.v w s (P.imp fun _ _ _ _ _ h => .inl h)
theorem Post.fin {x : D} {st : Store} {am am1 : List Addr} {Hf H Hf1 H1 : Hp} {Q : VK} {W : XK} (P : Post K cl (RV K) (.ok x st) am Hf H Q W) (f : Fm am Hf H am1 Hf1 H1) : Fin K am1 st Hf1 H1 x Q := fun r am' Hf' H' fm wf q => P r am' Hf' H' (f.trans fm) wf q
theorem Post.map_ {α : Type} {R : List Addr → Hp → Hp → V → D → Prop} {o : Option α} {g : α → D} {st : Store} {am : List Addr} {Hf H : Hp} {Q : VK} {W : XK} (P : Post K cl R (lift (o.map g) st) am Hf H Q W) : ∃ a, o = some a ∧ Post K cl R (.ok (g a) st) am Hf H Q W := by
  cases o with
  | none => exact P.elim
  | some a => exact ⟨a, rfl, P⟩
/-- the value of a fresh list, frozen -/
theorem Den.vOfN {e : E} (n : ∀ {W : WX} {ρ : Env} {st : Store} {am : List Addr} {Hf H H0 : Hp} {σ : St} {Q : VK}, Wf K am st Hf H → Sig K am Hf H H0 σ ρ → PostN K cl (ev C e ρ st) am Hf H Q (fun c d H' => W c d σ H') → tE K (spOf K cl C) W e σ H Q)
    (hl : ∀ ρ st d st', ev C e ρ st = .ok d st' → ∃ ds, d = .lst ds) {W : WX} {ρ : Env} {st : Store} {am : List Addr} {Hf H H0 : Hp} {σ : St} {Q : VK} (w : Wf K am st Hf H) (s : Sig K am Hf H H0 σ ρ)
    (P : Post K cl (RV K) (ev C e ρ st) am Hf H Q (fun c d H' => W c d σ H')) : tE K (spOf K cl C) W e σ H Q := n w s (PostN.of (hl ρ st) P)
theorem okC_rep {am : List Addr} {Hf : Hp} {d : D} (h : okC d = true) : Rep K am Hf (vf d) d := by
  cases d with
  | non => exact .non
  | bl b => exact .bl b
  | int i => exact .int i
  | str s => exact .str s (of_decide_eq_true h)
  | ty n => exact .ty n
  | _ => cases h
theorem bm_ty {am : List Addr} {Hf H : Hp} {m : BM} {x : D} {v : V} (h : bmKind m x = true) (r : Rep K am Hf v x) : tyV K (bmTy m) v H := by
  unfold bmKind at h
  split at h
  · cases h
  · cases h
  · rw [r.vStr.1]
    cases m <;> first | rfl | (exfalso; simp_all)
  · cases h
theorem Fm.there_none {am am1 : List Addr} {Hf H Hf1 H1 : Hp} (f : Fm am Hf H am1 Hf1 H1) {p : Addr} (np : H1 p = none) : H p = none := by
  cases e : H p with
  | none => rfl
  | some o =>
    obtain ⟨o', e'⟩ := f.there p o e
    rw [np] at e'
    cases e'
theorem isNil_nil {e : E} (h : isNil e = true) : e = .nil := by cases e <;> first | rfl | cases h
theorem items_den {am : List Addr} {st : Store} {Hf H : Hp} {v : V} {d : D} {ds : List D} {R : It → Hp → Prop} (w : Wf K am st Hf H) (h : Opd K am Hf H v d) (e : itemsD d = some ds)
    (k : ∀ (J : It) (G : Hp → Prop) (Y : Nat → Hp → V → Hp → Prop), Walk J ds.length G Y → ds.length ≤ line → (∀ i H' x H'', i < ds.length → Y i H' x H'' → H'' = H' ∧ ∃ d, ds[i]? = some d ∧ Rep K am Hf x d) → (∀ am' Hf' H', Fm am Hf H am' Hf' H' → G H') → R J H) :
    (∃ a, v = .ref a ∧ (∃ xs, SqL K H a xs) ∧ R (Itl K a) H) ∨ (∃ a, v = .ref a ∧ (∃ xs, SqT K H a xs) ∧ R (Itt K a) H) ∨ ∃ z, v = .str z ∧ R (Its z) H := by
  unfold itemsD at e
  split at e
  · cases e
    obtain ⟨p, vs, rfl, hp, r, hz, hn⟩ := h.lst w
    refine .inl ⟨p, rfl, ⟨_, SqL.of hp⟩, ?_⟩
    have wk : Walk (Itl K p) ds.length (fun H => SqL K H p vs) (YAt vs) := by
      have := walk_list (K := K) (a := p) (xs := vs)
      rw [r.length] at this
      exact this
    exact k _ _ _ wk hz (fun i H' x H'' hi y => ⟨y.1, r.getV y.2⟩) fun am' Hf' H' fm => SqL.of (fm.keep _ _ hp hn)
  · cases e
    obtain ⟨p, vs, rfl, hp, r, hz⟩ := h.vTup
    refine .inr (.inl ⟨p, rfl, ⟨_, Same.seqT w.sub hp⟩, ?_⟩)
    have wk : Walk (Itt K p) ds.length (fun H => SqT K H p vs) (YAt vs) := by
      have := walk_tup (K := K) (a := p) (xs := vs)
      rw [r.length] at this
      exact this
    refine k _ _ _ wk hz (fun i H' x H'' hi y => ⟨y.1, r.getV y.2⟩) fun am' Hf' H' fm => ?_
    rcases hp with (hp | ⟨o, hp⟩) | hp
    · exact .inl (.inl (fm.keep _ _ (w.sub _ _ hp) fun m => by rw [w.off _ m] at hp; cases hp))
    · exact .inl (.inr ⟨o, fm.keep _ _ (w.sub _ _ hp) fun m => by rw [w.off _ m] at hp; cases hp⟩)
    · exact .inr hp
  · rename_i s
    cases e
    refine .inr (.inr ⟨tx s, h.vStr.1, ?_⟩)
    have wk : Walk (Its (tx s)) (s.map fun c => D.str [c]).length (fun _ => True) (fun i H v H' => H' = H ∧ ∃ c, (tx s).cps[i]? = some c ∧ v = .str ⟨#[c]⟩) := by
      have := walk_str (z := tx s)
      have e : (tx s).cps.size = (s.map fun c => D.str [c]).length := by simp [tx]
      rw [e] at this
      exact this
    refine k _ _ _ wk (by rw [List.length_map]; exact h.vStr.2) (fun i H' x H'' hi y => ⟨y.1, ?_⟩) fun _ _ _ _ => trivial
    obtain ⟨_, c, hc, rfl⟩ := y
    refine ⟨.str [c], ?_, .str [c] (by show 1 ≤ line; decide)⟩
    rw [List.getElem?_map]
    have : s[i]? = some c := by simpa [tx] using hc
    rw [this]
    rfl
  · cases e
theorem range_den {am : List Addr} {st : Store} {Hf H : Hp} {vs : List V} {xs : List D} {ds : List D} {R : It → Hp → Prop} (h : RepL K am Hf vs xs) (e : rangeD xs = some ds)
    (k : ∀ (J : It) (G : Hp → Prop) (Y : Nat → Hp → V → Hp → Prop), Walk J ds.length G Y → (∀ i H' x H'', i < ds.length → Y i H' x H'' → H'' = H' ∧ ∃ d, ds[i]? = some d ∧ Rep K am Hf x d) → (∀ H', G H') → R J H) :
    (∃ j : Int, vs = [.int j] ∧ -(2 ^ 62) ≤ j ∧ j < 2 ^ 62 ∧ R (Itr 0 j.toNat) H) ∨
    (∃ i j : Int, vs = [.int i, .int j] ∧ (-(2 ^ 62) ≤ i ∧ i < 2 ^ 62 ∧ -(2 ^ 62) ≤ j ∧ j < 2 ^ 62) ∧ R (Itr i (j - i).toNat) H) := by
  have key : ∀ (a : Int) (n : Nat) (ds : List D), ds = (List.range n).map (fun (k : Nat) => D.int (a + (k : Int))) → Walk (Itr a n) ds.length (fun _ => True) (YFn fun i => .int (a + i)) ∧ ∀ i H' x H'', i < ds.length → (YFn (fun i => V.int (a + i))) i H' x H'' → H'' = H' ∧ ∃ d, ds[i]? = some d ∧ Rep K am Hf x d := fun a n ds e => by
    subst e
    refine ⟨?_, fun i H' x H'' hi y => ⟨y.1, .int (a + (i : Int)), ?_, by rw [y.2]; exact .int _⟩⟩
    · have := walk_range (lo := a) (n := n)
      rw [List.length_map, List.length_range]
      exact this
    · rw [List.length_map, List.length_range] at hi
      rw [List.getElem?_map, List.getElem?_range hi]
      rfl
  unfold rangeD at e
  split at e
  · rename_i n
    split at e
    · rename_i hb
      cases e
      cases h with
      | cons h r =>
        cases r
        obtain ⟨h1, h2⟩ := key 0 n.toNat _ rfl
        exact .inl ⟨n, by rw [h.vInt], hb.1, hb.2, k _ _ _ h1 h2 fun _ => trivial⟩
    · cases e
  · rename_i a b
    split at e
    · rename_i hb
      cases e
      cases h with
      | cons h r =>
        cases r with
        | cons h' r =>
          cases r
          obtain ⟨h1, h2⟩ := key a (b - a).toNat _ rfl
          exact .inr ⟨a, b, by rw [h.vInt, h'.vInt], hb, k _ _ _ h1 h2 fun _ => trivial⟩
    · cases e
  · cases e
end
end PF
namespace PF
open PySem L2
section
variable {K : PySem.W.Frag} {cl : Nat → Addr} {C : Calls}
theorem lc_lst {o : O D} {f : D → Store → O (List D)} : ∀ d st, (o.bind fun x st => (f x st).bind fun ys st => O.ok (D.lst ys) st) = .ok d st → ∃ ds, d = .lst ds := fun d st e => by
  cases o with
  | ok a s =>
    have e : ((f a s).bind fun ys st => O.ok (D.lst ys) st) = .ok d st := e
    cases hh : f a s with
    | ok ys s2 => rw [hh] at e; cases e; exact ⟨ys, rfl⟩
    | exc _ _ => rw [hh] at e; cases e
    | bad => rw [hh] at e; cases e
  | exc _ _ => cases e
  | bad => cases e
theorem bind_lst {α : Type} {o : O α} {f : α → Store → O D} (h : ∀ a st d st', f a st = .ok d st' → ∃ ds, d = .lst ds) : ∀ d st, o.bind f = .ok d st → ∃ ds, d = .lst ds := fun d st e => by
  cases o with
  | ok a s => exact h a s d st e
  | exc _ _ => cases e
  | bad => cases e
/-- what a comprehension asks behind its iterable -/
def LcR (g : TG) (tt : TT) (te : TE) (vs : List Nat) (σ : St) (Q : VK) : It → Hp → Prop := fun J H1 => ∀ D, H1 D = none → ∃ W : Nat → Nat → Hp → Prop, (∃ m, W 0 m (upd H1 D (.lst []))) ∧ ∀ i m H, W i m H →
  (J.stop i H ∧ Q (.ref D) H) ∨ (J.go i H ∧ ∃ Nx : Hp → Prop, (∀ H', Nx H' → ∃ m', m' < m ∧ W (i + 1) m' H') ∧ ∀ x H', J.yld i H x H' → g x (wipe σ vs) H' fun σ2 H2 => wipe σ2 vs = wipe σ vs ∧ tt σ2 H2 fun b H3 =>
    if b = true then te σ2 H3 fun y H4 => ∃ acc, H4 D = some (.lst acc) ∧ acc.length < sizeLine ∧ Nx (upd H4 D (.lst (acc ++ [y]))) else Nx H3)
theorem den : ∀ e : E, Den K cl C e := by
  intro e
  induction e with
  | var i =>
    refine ⟨fun w s P => ?_, (fun h => by cases h), fun _ _ P => P.elim, fun _ _ P => P.elim, fun _ _ P => P.elim, fun _ _ P => P.elim, fun _ _ _ P => P.elim⟩
    obtain ⟨x, hx, P⟩ := P.lift_
    unfold slotD at hx
    split at hx
    · rename_i d hs
      cases hx
      obtain ⟨v, h1, h2⟩ := s.slot i _ hs
      exact ⟨v, h1, P v _ _ _ (.refl _ _ _) w h2⟩
    · cases hx
  | bor i => exact ⟨fun _ _ P => P.elim, (fun h => by cases h), fun _ _ P => P.elim, fun _ _ P => P.elim, fun _ _ P => P.elim, fun _ _ P => P.elim, fun _ _ _ P => P.elim⟩
  | cst d =>
    refine ⟨fun {W ρ st am Hf H H0 σ Q} w s P => ?_, (fun h => by cases h), fun _ _ P => P.elim, fun _ _ P => P.elim, fun _ _ P => P.elim, fun _ _ P => P.elim, fun _ _ _ P => P.elim⟩
    have P : Post K cl (RV K) (if okC d then O.ok d st else .bad) am Hf H Q _ := P
    split at P
    · rename_i h
      exact P _ _ _ _ (.refl _ _ _) w (okC_rep h)
    · exact P.elim
  | glb x d =>
    refine ⟨fun {W ρ st am Hf H H0 σ Q} w s P => ?_, (fun h => by cases h), fun _ _ P => P.elim, fun _ _ P => P.elim, fun _ _ P => P.elim, fun _ _ P => P.elim, fun _ _ _ P => P.elim⟩
    have P : Post K cl (RV K) (if okC d then O.ok d st else .bad) am Hf H Q _ := P
    split at P
    · rename_i h
      exact P _ _ _ _ (.refl _ _ _) w (okC_rep h)
    · exact P.elim
  | nil =>
    refine ⟨fun _ _ P => P.elim, (fun h => by cases h), fun w s P => ?_, fun w s P => ?_, fun w s P => ?_, fun _ _ P => P.elim, fun hz w s P => ?_⟩
    · exact P [] _ _ _ (.refl _ _ _) w .nil
    · exact P [] _ _ _ (.refl _ _ _) w .nil
    · exact P [] _ _ _ (.refl _ _ _) w .nil
    · exact P _ _ _ _ (.refl _ _ _) w ⟨rfl, hz⟩
  | cons a b iha ihb =>
    refine ⟨fun _ _ P => P.elim, (fun h => by cases h), fun w s P => ?_, fun w s P => ?_, fun _ _ P => P.elim, fun _ _ P => P.elim, fun hz w s P => ?_⟩
    · refine iha.v w s (P.step (.refl _ _ _) fun v x st1 am1 Hf1 H1 f1 _ w1 r1 P1 => ?_)
      refine ihb.vs w1 (s.next f1) (P1.step f1 fun vs xs st2 am2 Hf2 H2 f2 g2 w2 r2 P2 => ?_)
      exact P2 _ _ _ _ f2 w2 (.cons (r1.mono g2.pre g2.hf) r2)
    · refine iha.o w s (P.step (.refl _ _ _) fun v x st1 am1 Hf1 H1 f1 _ w1 r1 P1 => ?_)
      refine ihb.vo w1 (s.next f1) (P1.step f1 fun vs xs st2 am2 Hf2 H2 f2 g2 w2 r2 P2 => ?_)
      exact P2 _ _ _ _ f2 w2 (.cons (r1.next g2) r2)
    · refine iha.v w s (P.step (.refl _ _ _) fun v x st1 am1 Hf1 H1 f1 _ w1 r1 P1 => ?_)
      obtain ⟨z, hz2, P2⟩ := P1.liftB
      unfold addD at hz2
      split at hz2
      · split at hz2
        · rename_i hl
          cases hz2
          refine ⟨_, r1.vStr.1, by rw [tx_app, tx_len, List.length_append, ← line_eq]; exact hl, ?_⟩
          rw [tx_app]
          exact ihb.j (by rw [List.length_append]; exact hl) w1 (s.next f1) (Post.step (f := fun a st => .ok a st) (R2 := RJ) (by cases hh : evj C b _ _ st1 <;> (rw [hh] at P2; exact P2)) f1 fun v d st2 am2 Hf2 H2 f2 g2 w2 r2 P3 => P3 _ _ _ _ f2 w2 r2)
        · cases hz2
      · cases hz2
  | con2 k v r ihk ihv ihr =>
    refine ⟨fun _ _ P => P.elim, (fun h => by cases h), fun _ _ P => P.elim, fun _ _ P => P.elim, fun w s P => ?_, fun _ _ P => P.elim, fun _ _ _ P => P.elim⟩
    refine ihk.v w s (P.step (.refl _ _ _) fun a x st1 am1 Hf1 H1 f1 _ w1 r1 P1 => ?_)
    refine ihv.v w1 (s.next f1) (P1.step f1 fun b y st2 am2 Hf2 H2 f2 g2 w2 r2 P2 => ?_)
    refine ihr.p w2 ((s.next f1).next g2) (P2.step f2 fun ps xs st3 am3 Hf3 H3 f3 g3 w3 r3 P3 => ?_)
    exact P3 _ _ _ _ f3 w3 (.cons ((r1.mono g2.pre g2.hf).mono g3.pre g3.hf) (r2.mono g3.pre g3.hf) r3)
  | dsp a iha =>
    refine ⟨fun {W ρ st am Hf H H0 σ Q} w s P => ?_, (fun h => by cases h), fun _ _ P => P.elim, fun _ _ P => P.elim, fun _ _ P => P.elim, fun _ _ P => P.elim, fun _ _ _ P => P.elim⟩
    intro p np
    have fo : Fm am Hf H am Hf (upd H p (.dK [])) := Fm.own np
    refine iha.p (w.own (w.nof np) (w.notin np)) (s.next fo) (P.step fo fun ps xs st1 am1 Hf1 H1 f1 g1 w1 r1 P1 => ?_)
    obtain ⟨z, hz, P2⟩ := P1.lift_
    unfold dspD at hz
    split at hz
    · rename_i hl
      cases hk : keysD xs with
      | none => rw [hk] at hz; cases hz
      | some kvs =>
        rw [hk] at hz
        cases hz
        obtain ⟨vs, e1, e2, e3⟩ := r1.keys hk
        have hp : H1 p = some (.dK []) := g1.keep _ _ upd_same (w.notin np)
        have nf : Hf1 p = none := g1.offF _ _ upd_same (w.nof np)
        have na : p ∉ am1 := fun z => w.notin np (g1.offA _ _ upd_same z)
        refine ⟨hp, vs, e1, by rw [e3]; exact hl, ?_⟩
        have rm : RepK K am1 Hf1 (mergeK [] vs) (mergeD [] kvs) := RepK.merge e2 .nil
        have sm : Same Hf1 (upd Hf1 p (.dK (mergeK [] vs))) := fun b u e => by
          rw [upd_ne (ne_of_none e nf)]; exact e
        exact P2 _ am1 _ _ ((f1.mut np).frz np nf) ((w1.own nf na).frz upd_same nf na) (.dct upd_same (rm.mono (.refl _) sm))
    · cases hz
  | bin o a b iha ihb =>
    refine ⟨fun w s P => ?_, (fun h => by cases h), fun _ _ P => P.elim, fun _ _ P => P.elim, fun _ _ P => P.elim, fun _ _ P => P.elim, fun _ _ _ P => P.elim⟩
    refine iha.o w s (P.step (.refl _ _ _) fun v x st1 am1 Hf1 H1 f1 _ w1 r1 P1 => ?_)
    refine ihb.o w1 (s.next f1) (P1.step f1 fun u y st2 am2 Hf2 H2 f2 g2 w2 r2 P2 => ?_)
    obtain ⟨z, hz, P3⟩ := P2.lift_
    exact bin_den w2 (r1.next g2) r2 hz (P3.fin f2)
  | neg a iha =>
    refine ⟨fun w s P => ?_, (fun h => by cases h), fun _ _ P => P.elim, fun _ _ P => P.elim, fun _ _ P => P.elim, fun _ _ P => P.elim, fun _ _ _ P => P.elim⟩
    refine iha.v w s (P.step (.refl _ _ _) fun v x st1 am1 Hf1 H1 f1 _ w1 r1 P1 => ?_)
    obtain ⟨z, hz, P3⟩ := P1.lift_
    split at hz
    · cases hz
      exact ⟨_, r1.vInt, P3 _ _ _ _ f1 w1 (.int _)⟩
    · cases hz
  | cmp o a b iha ihb =>
    refine ⟨fun w s P => ?_, (fun h => by cases h), fun _ _ P => P.elim, fun _ _ P => P.elim, fun _ _ P => P.elim, fun _ _ P => P.elim, fun _ _ _ P => P.elim⟩
    refine iha.o w s (P.step (.refl _ _ _) fun v x st1 am1 Hf1 H1 f1 _ w1 r1 P1 => ?_)
    refine ihb.o w1 (s.next f1) (P1.step f1 fun u y st2 am2 Hf2 H2 f2 g2 w2 r2 P2 => ?_)
    obtain ⟨z, hz, P3⟩ := P2.map_
    exact cmp_den w2 (r1.next g2) r2 hz (P3 _ _ _ _ f2 w2 (.bl _))
  | chn o p a b c iha ihb ihc =>
    refine ⟨fun w s P => ?_, (fun h => by cases h), fun _ _ P => P.elim, fun _ _ P => P.elim, fun _ _ P => P.elim, fun _ _ P => P.elim, fun _ _ _ P => P.elim⟩
    refine iha.o w s (P.step (.refl _ _ _) fun v x st1 am1 Hf1 H1 f1 _ w1 r1 P1 => ?_)
    refine ihb.o w1 (s.next f1) (P1.step f1 fun u y st2 am2 Hf2 H2 f2 g2 w2 r2 P2 => ?_)
    obtain ⟨k, hk, P3⟩ := P2.liftB
    refine cmp_den w2 (r1.next g2) r2 hk ⟨k, rfl, ?_⟩
    cases k with
    | true =>
      rw [if_pos rfl] at P3 ⊢
      refine ihc.o w2 ((s.next f1).next g2) (P3.step f2 fun u' z st3 am3 Hf3 H3 f3 g3 w3 r3 P4 => ?_)
      obtain ⟨b, hb, P5⟩ := P4.map_
      exact cmp_den w3 (r2.next g3) r3 hb (P5 _ _ _ _ f3 w3 (.bl _))
    | false =>
      rw [if_neg Bool.false_ne_true] at P3 ⊢
      exact P3 _ _ _ _ f2 w2 (.bl _)
  | tcm o a b iha ihb =>
    refine ⟨fun _ _ P => P.elim, (fun h => by cases h), fun _ _ P => P.elim, fun _ _ P => P.elim, fun _ _ P => P.elim, fun w s P => ?_, fun _ _ _ P => P.elim⟩
    refine iha.o w s (P.step (.refl _ _ _) fun v x st1 am1 Hf1 H1 f1 _ w1 r1 P1 => ?_)
    refine ihb.o w1 (s.next f1) (P1.step f1 fun u y st2 am2 Hf2 H2 f2 g2 w2 r2 P2 => ?_)
    obtain ⟨z, hz, P3⟩ := P2.lift_
    exact cmp_den w2 (r1.next g2) r2 hz ⟨_, rfl, P3 _ _ _ _ f2 w2 rfl⟩
  | tch o p a b c iha ihb ihc =>
    refine ⟨fun _ _ P => P.elim, (fun h => by cases h), fun _ _ P => P.elim, fun _ _ P => P.elim, fun _ _ P => P.elim, fun w s P => ?_, fun _ _ _ P => P.elim⟩
    refine iha.o w s (P.step (.refl _ _ _) fun v x st1 am1 Hf1 H1 f1 _ w1 r1 P1 => ?_)
    refine ihb.o w1 (s.next f1) (P1.step f1 fun u y st2 am2 Hf2 H2 f2 g2 w2 r2 P2 => ?_)
    obtain ⟨k, hk, P3⟩ := P2.liftB
    refine cmp_den w2 (r1.next g2) r2 hk ⟨k, rfl, ?_⟩
    cases k with
    | true =>
      rw [if_pos rfl] at P3 ⊢
      refine ihc.o w2 ((s.next f1).next g2) (P3.step f2 fun u' z st3 am3 Hf3 H3 f3 g3 w3 r3 P4 => ?_)
      obtain ⟨b, hb, P5⟩ := P4.lift_
      exact cmp_den w3 (r2.next g3) r3 hb ⟨_, rfl, P5 _ _ _ _ f3 w3 rfl⟩
    | false =>
      rw [if_neg Bool.false_ne_true] at P3 ⊢
      exact ⟨_, rfl, P3 _ _ _ _ f2 w2 rfl⟩
  | and a b iha ihb =>
    refine ⟨fun w s P => ?_, (fun h => by cases h), fun _ _ P => P.elim, fun _ _ P => P.elim, fun _ _ P => P.elim, fun w s P => ?_, fun _ _ _ P => P.elim⟩
    · refine iha.v w s (P.step (.refl _ _ _) fun v x st1 am1 Hf1 H1 f1 _ w1 r1 P1 => ?_)
      obtain ⟨k, hk, P2⟩ := P1.liftB
      refine ⟨k, tru_den w1 (.inl r1) hk, ?_⟩
      cases k with
      | true =>
        rw [if_pos rfl] at P2 ⊢
        exact ihb.v w1 (s.next f1) (Post.step (f := fun a st => .ok a st) (R2 := RV K) (by cases hh : ev C b _ st1 <;> (rw [hh] at P2; exact P2)) f1 fun v d st2 am2 Hf2 H2 f2 g2 w2 r2 P3 => P3 _ _ _ _ f2 w2 r2)
      | false =>
        rw [if_neg Bool.false_ne_true] at P2 ⊢
        exact P2 _ _ _ _ f1 w1 r1
    · refine iha.t w s (P.step (.refl _ _ _) fun v x st1 am1 Hf1 H1 f1 _ w1 r1 P1 => ?_)
      subst r1
      cases v with
      | true =>
        rw [if_pos rfl] at P1 ⊢
        exact ihb.t w1 (s.next f1) (Post.step (f := fun a st => .ok a st) (R2 := RB) (by cases hh : evT C b _ st1 <;> (rw [hh] at P1; exact P1)) f1 fun v d st2 am2 Hf2 H2 f2 g2 w2 r2 P3 => P3 _ _ _ _ f2 w2 r2)
      | false =>
        rw [if_neg Bool.false_ne_true] at P1 ⊢
        exact P1 _ _ _ _ f1 w1 rfl
  | or a b iha ihb =>
    refine ⟨fun w s P => ?_, (fun h => by cases h), fun _ _ P => P.elim, fun _ _ P => P.elim, fun _ _ P => P.elim, fun w s P => ?_, fun _ _ _ P => P.elim⟩
    · refine iha.v w s (P.step (.refl _ _ _) fun v x st1 am1 Hf1 H1 f1 _ w1 r1 P1 => ?_)
      obtain ⟨k, hk, P2⟩ := P1.liftB
      refine ⟨k, tru_den w1 (.inl r1) hk, ?_⟩
      cases k with
      | false =>
        rw [if_neg Bool.false_ne_true] at P2 ⊢
        exact ihb.v w1 (s.next f1) (Post.step (f := fun a st => .ok a st) (R2 := RV K) (by cases hh : ev C b _ st1 <;> (rw [hh] at P2; exact P2)) f1 fun v d st2 am2 Hf2 H2 f2 g2 w2 r2 P3 => P3 _ _ _ _ f2 w2 r2)
      | true =>
        rw [if_pos rfl] at P2 ⊢
        exact P2 _ _ _ _ f1 w1 r1
    · refine iha.t w s (P.step (.refl _ _ _) fun v x st1 am1 Hf1 H1 f1 _ w1 r1 P1 => ?_)
      subst r1
      cases v with
      | false =>
        rw [if_neg Bool.false_ne_true] at P1 ⊢
        exact ihb.t w1 (s.next f1) (Post.step (f := fun a st => .ok a st) (R2 := RB) (by cases hh : evT C b _ st1 <;> (rw [hh] at P1; exact P1)) f1 fun v d st2 am2 Hf2 H2 f2 g2 w2 r2 P3 => P3 _ _ _ _ f2 w2 r2)
      | true =>
        rw [if_pos rfl] at P1 ⊢
        exact P1 _ _ _ _ f1 w1 rfl
  | not a iha =>
    refine ⟨fun w s P => ?_, (fun h => by cases h), fun _ _ P => P.elim, fun _ _ P => P.elim, fun _ _ P => P.elim, fun w s P => ?_, fun _ _ _ P => P.elim⟩
    · refine iha.o w s (P.step (.refl _ _ _) fun v x st1 am1 Hf1 H1 f1 _ w1 r1 P1 => ?_)
      obtain ⟨k, hk, P2⟩ := P1.map_
      exact ⟨k, tru_den w1 r1 hk, P2 _ _ _ _ f1 w1 (.bl _)⟩
    · refine iha.t w s (P.step (.refl _ _ _) fun v x st1 am1 Hf1 H1 f1 _ w1 r1 P1 => ?_)
      subst r1
      exact P1 _ _ _ _ f1 w1 rfl
  | tst a iha =>
    refine ⟨fun _ _ P => P.elim, (fun h => by cases h), fun _ _ P => P.elim, fun _ _ P => P.elim, fun _ _ P => P.elim, fun w s P => ?_, fun _ _ _ P => P.elim⟩
    refine iha.o w s (P.step (.refl _ _ _) fun v x st1 am1 Hf1 H1 f1 _ w1 r1 P1 => ?_)
    obtain ⟨k, hk, P2⟩ := P1.lift_
    exact ⟨k, tru_den w1 r1 hk, P2 _ _ _ _ f1 w1 rfl⟩
  | ite c a b ihc iha ihb =>
    refine ⟨fun w s P => ?_, (fun h => by cases h), fun _ _ P => P.elim, fun _ _ P => P.elim, fun _ _ P => P.elim, fun _ _ P => P.elim, fun _ _ _ P => P.elim⟩
    refine ihc.t w s (P.step (.refl _ _ _) fun v x st1 am1 Hf1 H1 f1 _ w1 r1 P1 => ?_)
    subst r1
    cases v with
    | true =>
      rw [if_pos rfl] at P1 ⊢
      exact iha.v w1 (s.next f1) (Post.step (f := fun a st => .ok a st) (R2 := RV K) (by cases hh : ev C a _ st1 <;> (rw [hh] at P1; exact P1)) f1 fun v d st2 am2 Hf2 H2 f2 g2 w2 r2 P3 => P3 _ _ _ _ f2 w2 r2)
    | false =>
      rw [if_neg Bool.false_ne_true] at P1 ⊢
      exact ihb.v w1 (s.next f1) (Post.step (f := fun a st => .ok a st) (R2 := RV K) (by cases hh : ev C b _ st1 <;> (rw [hh] at P1; exact P1)) f1 fun v d st2 am2 Hf2 H2 f2 g2 w2 r2 P3 => P3 _ _ _ _ f2 w2 r2)
  | tup a iha =>
    refine ⟨fun w s P => ?_, (fun h => by cases h), fun _ _ P => P.elim, fun _ _ P => P.elim, fun _ _ P => P.elim, fun _ _ P => P.elim, fun _ _ _ P => P.elim⟩
    refine iha.vs w s (P.step (.refl _ _ _) fun vs xs st1 am1 Hf1 H1 f1 _ w1 r1 P1 => ?_)
    split at P1
    · rename_i hl
      exact ⟨by rw [r1.length, ← line_eq]; exact hl, new_tup w1 r1 hl (P1.fin f1)⟩
    · exact P1.elim
  | lst a iha =>
    have hn : ∀ {W : WX} {ρ : Env} {st : Store} {am : List Addr} {Hf H H0 : Hp} {σ : St} {Q : VK}, Wf K am st Hf H → Sig K am Hf H H0 σ ρ → PostN K cl (ev C (.lst a) ρ st) am Hf H Q (fun c d H' => W c d σ H') → tE K (spOf K cl C) W (.lst a) σ H Q := fun w s P => by
      refine iha.vs w s (P.step (R1 := RVs K) (.refl _ _ _) fun vs xs st1 am1 Hf1 H1 f1 _ w1 r1 P1 => ?_)
      split at P1
      · rename_i hl
        obtain ⟨ds, e, k⟩ := P1
        cases e
        refine ⟨by rw [r1.length, ← line_eq]; exact hl, fun p np => ?_⟩
        have np0 : _ = none := f1.there_none np
        exact k p vs am1 Hf1 _ (f1.mut np0) (w1.own (w1.nof np) (w1.notin np)) np0 upd_same (w1.nof np) (w1.notin np) r1 hl
      · exact P1.elim
    refine ⟨fun w s P => Den.vOfN hn (fun ρ st d st' e => ?_) w s P, fun _ => hn, fun _ _ P => P.elim, fun _ _ P => P.elim, fun _ _ P => P.elim, fun _ _ P => P.elim, fun _ _ _ P => P.elim⟩
    refine bind_lst (fun xs st d st' e => ?_) d st' e
    split at e
    · cases e; exact ⟨_, rfl⟩
    · cases e
  | new a iha =>
    refine ⟨fun w s P => ?_, (fun h => by cases h), fun _ _ P => P.elim, fun _ _ P => P.elim, fun _ _ P => P.elim, fun _ _ P => P.elim, fun _ _ _ P => P.elim⟩
    refine iha.vs w s (P.step (.refl _ _ _) fun vs xs st1 am1 Hf1 H1 f1 _ w1 r1 P1 => ?_)
    split at P1
    · rename_i hl
      refine ⟨by rw [r1.length, ← line_eq]; exact hl, fun p np => ?_⟩
      refine P1 _ _ _ _ (f1.trans (Fm.alloc w1 np)) (w1.alloc np r1 hl) (.ref ?_)
      rw [← w1.len, List.getElem?_append_right (Nat.le_refl _), Nat.sub_self]
      rfl
    · exact P1.elim
  | idx a b iha ihb =>
    refine ⟨fun w s P => ?_, (fun h => by cases h), fun _ _ P => P.elim, fun _ _ P => P.elim, fun _ _ P => P.elim, fun _ _ P => P.elim, fun _ _ _ P => P.elim⟩
    refine iha.o w s (P.step (.refl _ _ _) fun v x st1 am1 Hf1 H1 f1 _ w1 r1 P1 => ?_)
    refine ihb.v w1 (s.next f1) (P1.step f1 fun u y st2 am2 Hf2 H2 f2 g2 w2 r2 P2 => ?_)
    obtain ⟨z, hz, P3⟩ := P2.lift_
    exact idx_den w2 (r1.next g2) r2 hz (P3.fin f2)
  | slc a lo hi iha ihl ihh =>
    refine ⟨fun w s P => ?_, (fun h => by cases h), fun _ _ P => P.elim, fun _ _ P => P.elim, fun _ _ P => P.elim, fun _ _ P => P.elim, fun _ _ _ P => P.elim⟩
    refine iha.o w s (P.step (.refl _ _ _) fun v x st1 am1 Hf1 H1 f1 _ w1 r1 P1 => ?_)
    have part : ∀ {e : E} {W : WX} {ρ : Env} {st1 : Store} {am am1 : List Addr} {Hf H Hf1 H1 H0 : Hp} {σ : St} {g : Option Int → Store → O D} {Q : VK} {Q1 : Option Int → Hp → Prop}, Den K cl C e → Fm am Hf H am1 Hf1 H1 → Wf K am1 st1 Hf1 H1 → Sig K am1 Hf1 H1 H0 σ ρ →
        Post K cl (RV K) ((if isNil e then .ok none st1 else (ev C e ρ st1).bind fun l st => lift (partD l) st).bind g) am Hf H Q (fun c d H' => W c d σ H') →
        (∀ l st2 am2 Hf2 H2, Fm am Hf H am2 Hf2 H2 → Fm am1 Hf1 H1 am2 Hf2 H2 → Wf K am2 st2 Hf2 H2 → Post K cl (RV K) (g l st2) am Hf H Q (fun c d H' => W c d σ H') → Q1 l H2) →
        (if isNil e then tNoPart else tPart (tE K (spOf K cl C) W e)) σ H1 Q1 := by
      intro e W ρ st1 am am1 Hf H Hf1 H1 H0 σ g Q Q1 de f1 w1 s1 P k
      by_cases hn : isNil e = true
      · rw [if_pos hn] at P ⊢
        exact k none st1 am1 Hf1 H1 f1 (.refl _ _ _) w1 P
      · rw [if_neg hn] at P ⊢
        have P' : Post K cl (RV K) ((ev C e ρ st1).bind fun l st => (lift (partD l) st).bind g) am Hf H Q (fun c d H' => W c d σ H') := by
          cases hh : ev C e ρ st1 <;> (rw [hh] at P; exact P)
        refine de.v w1 s1 (P'.step f1 fun v d st2 am2 Hf2 H2 f2 g2 w2 r2 P2 => ?_)
        obtain ⟨l, hl, P3⟩ := P2.liftB
        unfold partD at hl
        split at hl
        · cases hl
          exact ⟨_, r2.vInt, k _ _ _ _ _ f2 g2 w2 P3⟩
        · cases hl
    refine part ihl f1 w1 (s.next f1) P1 fun l st2 am2 Hf2 H2 f2 g2 w2 P2 => ?_
    refine part ihh f2 w2 ((s.next f1).next g2) P2 fun h st3 am3 Hf3 H3 f3 g3 w3 P3 => ?_
    obtain ⟨z, hz, P4⟩ := P3.lift_
    exact slc_den w3 ((r1.next g2).next g3) hz (P4.fin f3)
  | cb f a iha =>
    refine ⟨fun w s P => ?_, (fun h => by cases h), fun _ _ P => P.elim, fun _ _ P => P.elim, fun _ _ P => P.elim, fun _ _ P => P.elim, fun _ _ _ P => P.elim⟩
    refine iha.vo w s (P.step (.refl _ _ _) fun vs xs st1 am1 Hf1 H1 f1 _ w1 r1 P1 => ?_)
    obtain ⟨z, hz, P2⟩ := P1.lift_
    exact bf_den w1 r1 hz (P2.fin f1)
  | bm m o a iho iha =>
    refine ⟨fun {W ρ st am Hf H H0 σ Q} w s P => ?_, (fun h => by cases h), fun _ _ P => P.elim, fun _ _ P => P.elim, fun _ _ P => P.elim, fun _ _ P => P.elim, fun _ _ _ P => P.elim⟩
    show (if isNil a then tBM0 K (bmTy m) (rBM K m) (tE K (spOf K cl C) W o) else tBM K (bmTy m) (rBM K m) (tE K (spOf K cl C) W o) (tA K (spOf K cl C) W a)) σ H Q
    by_cases hn : isNil a = true
    · rw [if_pos hn]
      have e := isNil_nil hn
      subst e
      refine iho.v w s (P.step (.refl _ _ _) fun v x st1 am1 Hf1 H1 f1 _ w1 r1 P1 => ?_)
      split at P1
      · obtain ⟨z, hz, P2⟩ := Post.lift_ (o := bmD st1 m x []) P1
        exact bm_den w1 r1 .nil hz (P2.fin f1)
      · exact P1.elim
    · rw [if_neg hn]
      refine iho.v w s (P.step (.refl _ _ _) fun v x st1 am1 Hf1 H1 f1 _ w1 r1 P1 => ?_)
      split at P1
      · rename_i hk
        refine ⟨bm_ty hk r1, iha.vo w1 (s.next f1) (P1.step f1 fun vs xs st2 am2 Hf2 H2 f2 g2 w2 r2 P2 => ?_)⟩
        obtain ⟨z, hz, P3⟩ := P2.lift_
        exact (bm_den w2 (r1.mono g2.pre g2.hf) r2 hz (P3.fin f2)).2
      · exact P1.elim
  | call f a iha =>
    refine ⟨fun w s P => ?_, (fun h => by cases h), fun _ _ P => P.elim, fun _ _ P => P.elim, fun _ _ P => P.elim, fun _ _ P => P.elim, fun _ _ _ P => P.elim⟩
    refine iha.vs w s (P.step (.refl _ _ _) fun vs xs st1 am1 Hf1 H1 f1 _ w1 r1 P1 => ?_)
    rw [List.append_nil]
    refine ⟨am1, st1, Hf1, xs, w1, r1, ?_⟩
    exact Post.step (f := fun a st => .ok a st) (R2 := RV K) (by cases hh : C f xs st1 <;> (rw [hh] at P1; exact P1)) f1 fun v d st2 am2 Hf2 H2 f2 g2 w2 r2 P3 => P3 _ _ _ _ f2 w2 r2
  | fmt a iha =>
    refine ⟨fun w s P => ?_, (fun h => by cases h), fun _ _ P => P.elim, fun _ _ P => P.elim, fun _ _ P => P.elim, fun _ _ P => P.elim, fun _ _ _ P => P.elim⟩
    refine iha.v w s (P.step (.refl _ _ _) fun v x st1 am1 Hf1 H1 f1 _ w1 r1 P1 => ?_)
    obtain ⟨z, hz, P2⟩ := P1.lift_
    exact fmt_den w1 r1 hz (P2.fin f1)
  | fst a iha =>
    refine ⟨fun w s P => ?_, (fun h => by cases h), fun _ _ P => P.elim, fun _ _ P => P.elim, fun _ _ P => P.elim, fun _ _ P => P.elim, fun _ _ _ P => P.elim⟩
    refine iha.j (acc := []) (Nat.zero_le _) w s (P.step (.refl _ _ _) fun v x st1 am1 Hf1 H1 f1 _ w1 r1 P1 => ?_)
    obtain ⟨rfl, hl⟩ := r1
    exact P1 _ _ _ _ f1 w1 (.str _ hl)
  | exf c f i => exact ⟨fun _ _ P => P.elim, (fun h => by cases h), fun _ _ P => P.elim, fun _ _ P => P.elim, fun _ _ P => P.elim, fun _ _ P => P.elim, fun _ _ _ P => P.elim⟩
  | lc j src c e ihs ihc ihe =>
    have hn : ∀ {W : WX} {ρ : Env} {st : Store} {am : List Addr} {Hf H H0 : Hp} {σ : St} {Q : VK}, Wf K am st Hf H → Sig K am Hf H H0 σ ρ → PostN K cl (ev C (.lc j src c e) ρ st) am Hf H Q (fun c d H' => W c d σ H') → tE K (spOf K cl C) W (.lc j src c e) σ H Q := fun {W ρ st am Hf H H0 σ Q} w s P => by
      show tE K (spOf K cl C) W src σ H _
      refine ihs.o w s (P.step (R1 := RO K) (.refl _ _ _) fun v x st1 am1 Hf1 H1 f1 _ w1 r1 P1 => ?_)
      obtain ⟨ds, hd, P2⟩ := P1.liftB
      refine items_den (R := LcR (gName j) (if isNil c then tYes else tT K (spOf K cl C) W0 c) (tE K (spOf K cl C) W0 e) [j] σ Q) w1 r1 hd fun J G Y wk hz hY hG Dl nD => ?_
      refine lc_gen (cl := cl) (ft := fun x st => if isNil c then .ok true st else evT C c (ρ.set j (.im x)) st) (fe := fun x st => ev C e (ρ.set j (.im x)) st) wk rfl hz f1 w1 (s.next f1) hY hG (fun x st => ?_) (fun {x st am Hf H σ Q} w s P => ?_) (fun {x st am Hf H σ Q} w s P => ?_) nD (f1.there_none nD) P2
      · by_cases hc : isNil c = true
        · simp only [hc]; rfl
        · simp only [hc]; rfl
      · by_cases hc : isNil c = true
        · rw [if_pos hc] at P ⊢
          exact P true _ _ _ (.refl _ _ _) w rfl
        · rw [if_neg hc] at P ⊢
          exact ihc.t w s P
      · exact ihe.v w s P
    refine ⟨fun w s P => Den.vOfN hn (fun ρ st d st' e => ?_) w s P, fun _ => hn, fun _ _ P => P.elim, fun _ _ P => P.elim, fun _ _ P => P.elim, fun _ _ P => P.elim, fun _ _ _ P => P.elim⟩
    refine bind_lst (fun xs st d st' e => bind_lst (fun ys st d st' e => bind_lst (fun zs st d st' e => ?_) d st' e) d st' e) d st' e
    cases e; exact ⟨_, rfl⟩
  | lcr j a c e iha ihc ihe =>
    have hn : ∀ {W : WX} {ρ : Env} {st : Store} {am : List Addr} {Hf H H0 : Hp} {σ : St} {Q : VK}, Wf K am st Hf H → Sig K am Hf H H0 σ ρ → PostN K cl (ev C (.lcr j a c e) ρ st) am Hf H Q (fun c d H' => W c d σ H') → tE K (spOf K cl C) W (.lcr j a c e) σ H Q := fun {W ρ st am Hf H H0 σ Q} w s P => by
      show tA K (spOf K cl C) W a σ H _
      refine iha.vs w s (P.step (R1 := RVs K) (.refl _ _ _) fun v x st1 am1 Hf1 H1 f1 _ w1 r1 P1 => ?_)
      obtain ⟨ds, hd, P2⟩ := P1.liftB
      split at P2
      · exact P2.elim
      · rename_i hz
        refine range_den (R := LcR (gName j) (if isNil c then tYes else tT K (spOf K cl C) W0 c) (tE K (spOf K cl C) W0 e) [j] σ Q) (st := st1) r1 hd fun J G Y wk hY hG Dl nD => ?_
        refine lc_gen (cl := cl) (ft := fun x st => if isNil c then .ok true st else evT C c (ρ.set j (.im x)) st) (fe := fun x st => ev C e (ρ.set j (.im x)) st) wk rfl (Nat.le_of_not_lt hz) f1 w1 (s.next f1) hY (fun _ _ H' _ => hG H') (fun x st => ?_) (fun {x st am Hf H σ Q} w s P => ?_) (fun {x st am Hf H σ Q} w s P => ?_) nD (f1.there_none nD) P2
        · by_cases hc : isNil c = true
          · simp only [hc]; rfl
          · simp only [hc]; rfl
        · by_cases hc : isNil c = true
          · rw [if_pos hc] at P ⊢
            exact P true _ _ _ (.refl _ _ _) w rfl
          · rw [if_neg hc] at P ⊢
            exact ihc.t w s P
        · exact ihe.v w s P
    refine ⟨fun w s P => Den.vOfN hn (fun ρ st d st' e => ?_) w s P, fun _ => hn, fun _ _ P => P.elim, fun _ _ P => P.elim, fun _ _ P => P.elim, fun _ _ P => P.elim, fun _ _ _ P => P.elim⟩
    refine bind_lst (fun xs st d st' e => bind_lst (fun ys st d st' e => ?_) d st' e) d st' e
    split at e
    · cases e
    · refine bind_lst (fun zs st d st' e => ?_) d st' e
      cases e; exact ⟨_, rfl⟩
end
end PF
/-! Statements: their transformers, and that the interpreter's answer holds of them. -/
namespace PF
open PySem L2
def ipOf : BOp → Int → Int → Int
  | .sub => fun i j => i - j
  | _ => fun i j => i + j
/-- names, one after another -/
def gNames : List Nat → TGs
  | [] => gNil
  | i :: is => gCons (gName i) (gNames is)
/-- what the __init__ of an error class promises: each argument in a field of its own -/
def spXI (K : PySem.W.Frag) (c : Str) (fs : List Str) : Sp := fun vs H Q _ => ∃ a us, vs = .ref a :: us ∧ us.length = fs.length ∧ fs ≠ [] ∧ H a = some (exo a (He.ga K c) none) ∧
  ∀ dx, H dx = none → dx ≠ a → Q .non (upd (upd H dx (exd dx (fs.zip us).reverse)) a (exo a (He.ga K c) (some dx)))
/-- raise c(..) by that -/
def tRse (K : PySem.W.Frag) (W : WX) (c : Str) (fs : List Str) (ta : TA) : TS := fun _ σ H => tMkO (He.ga K c) (spXI K c fs) [] ta σ H fun cls d H' => W cls d σ H'
/-- what a suite knows of the caught error: its address, its class, its fields' dict -/
structure HX where
  a : Addr
  cls : Value
  d : Option Addr
mutual
def tH (K : PySem.W.Frag) (hx : HX) : E → TE
  | .var i => tVar i
  | .cst d => tC (vf d)
  | .exf c f i => tXf hx.a hx.cls hx.d (He.ga K c) f (tVar i)
  | .cmp o a b => tOp (rCmp K o) (tH K hx a) (tH K hx b)
  | .tup a => tTup (tHs K hx a)
  | .lst a => tLst (tHs K hx a)
  | _ => fun _ _ _ => False
def tHs (K : PySem.W.Frag) (hx : HX) : E → TA
  | .nil => tNil
  | .cons a b => tCons (tH K hx a) (tHs K hx b)
  | _ => fun _ _ _ => False
end
/-- what the texts ask of the written part -/
def fcS : S → List He.Fa
  | .seq a b => fcS a ++ fcS b
  | .ite _ a b => fcS a ++ fcS b
  | .for_ _ _ b => fcS b
  | .forr _ _ b => fcS b
  | .whl _ b => fcS b
  | .tryas b cs c _ _ => fcS b ++ cs.map fun x => .exm x.1 c x.2
  | _ => []
def tS (K : PySem.W.Frag) (F : Nat → Sp) (W : WX) : S → TS
  | .skip => tNext
  | .seq a b => tSeq (tS K F W a) (tS K F W b)
  | .set i e => tAsg (tE K F W e) (gName i)
  | .own i e => tAsg (tE K F W e) (gName i)
  | .frz _ => tNext
  | .app i e => tDrop (tBM K "list" rAppend (tVar i) (tCons (tE K F W e) tNil))
  | .ext i e => tDrop (tBM K "list" rExtend (tVar i) (tCons (tE K F W e) tNil))
  | .aug i o e => tAug i (tE K F W e) (ipI (ipOf o))
  | .put o k e => tAsg (tE K F W e) (gSub (tE K F W o) (tE K F W k) rSetL)
  | .exp e => tDrop (tE K F W e)
  | .ret e => tRet (tE K F W e)
  | .retn => tRetN
  | .ite c a b => tIfS (tT K F W c) (tS K F W a) (tS K F W b)
  | .for_ j src b => tFor (iAny K (tE K F W src)) (gName j) (tS K F W b)
  | .forr j a b => tFor (iRng (tA K F W a)) (gName j) (tS K F W b)
  | .whl c b => tWhile (tT K F W c) (tS K F W b)
  | .unp is e => tAsg (tE K F W e) (gTup K is.length (gNames is))
  | .rse c fs a => tRse K W c fs (tA K F W a)
  | .tryas b _ c i h => fun D σ H => tS K F (wAs K (.ref (He.ga K c)) i (fun a cls d => tSeq (tRet (tH K ⟨a, cls, d⟩ h)) tNext) W D) b D σ H
  | .brk => tBreak
  | .cnt => tCont
/-- from the def's entry (am0, Hf0, H0); at least as much is frozen as at the statement's own start (amL, HfL) -/
structure FmL (am0 : List Addr) (Hf0 H0 : Hp) (amL : List Addr) (HfL : Hp) (am : List Addr) (Hf H : Hp) : Prop where
  fm : Fm am0 Hf0 H0 am Hf H
  pre : Pre amL am
  hf : Same HfL Hf
theorem FmL.trans {am0 amL am am1 : List Addr} {Hf0 H0 HfL Hf H Hf1 H1 : Hp} (a : FmL am0 Hf0 H0 amL HfL am Hf H) (b : Fm am Hf H am1 Hf1 H1) : FmL am0 Hf0 H0 amL HfL am1 Hf1 H1 := ⟨a.fm.trans b, a.pre.trans b.pre, a.hf.trans b.hf⟩
theorem FmL.mut {am0 amL am : List Addr} {Hf0 H0 HfL Hf H : Hp} {p : Addr} {o : HO} (a : FmL am0 Hf0 H0 amL HfL am Hf H) (np : H0 p = none) : FmL am0 Hf0 H0 amL HfL am Hf (upd H p o) := ⟨a.fm.mut np, a.pre, a.hf⟩
theorem FmL.frz {am0 amL am : List Addr} {Hf0 H0 HfL Hf H : Hp} {p : Addr} {o : HO} (a : FmL am0 Hf0 H0 amL HfL am Hf H) (np : H0 p = none) (nf : Hf p = none) : FmL am0 Hf0 H0 amL HfL am (upd Hf p o) H :=
  ⟨a.fm.frz np nf, a.pre, fun b u e => by
    have e1 := a.hf b u e
    rw [upd_ne (ne_of_none e1 nf)]
    exact e1⟩
theorem FmL.here {am0 amL am : List Addr} {Hf0 H0 HfL Hf H : Hp} (a : FmL am0 Hf0 H0 amL HfL am Hf H) : FmL am0 Hf0 H0 am Hf am Hf H := ⟨a.fm, .refl _, .refl _⟩
theorem FmL.low {am0 amL am am1 : List Addr} {Hf0 H0 HfL Hf H Hf1 H1 : Hp} (a : FmL am0 Hf0 H0 amL HfL am Hf H) (b : FmL am0 Hf0 H0 am Hf am1 Hf1 H1) : FmL am0 Hf0 H0 amL HfL am1 Hf1 H1 := ⟨b.fm, a.pre.trans b.pre, a.hf.trans b.hf⟩
def PostS (K : PySem.W.Frag) (cl : Nat → Addr) (r : O Fl) (am0 : List Addr) (Hf0 H0 : Hp) (amL : List Addr) (HfL : Hp) (Dn : Ends) (W : WX) : Prop :=
  match r with
  | .ok (.next ρ) st => ∀ σ am Hf H, FmL am0 Hf0 H0 amL HfL am Hf H → Wf K am st Hf H → Sig K am Hf H H0 σ ρ → Dn.nx σ H
  | .ok (.brk ρ) st => ∀ σ am Hf H, FmL am0 Hf0 H0 amL HfL am Hf H → Wf K am st Hf H → Sig K am Hf H H0 σ ρ → Dn.bk σ H
  | .ok (.cnt ρ) st => ∀ σ am Hf H, FmL am0 Hf0 H0 amL HfL am Hf H → Wf K am st Hf H → Sig K am Hf H H0 σ ρ → Dn.ct σ H
  | .ok (.ret d) st => ∀ v am Hf H, FmL am0 Hf0 H0 amL HfL am Hf H → Wf K am st Hf H → Rep K am Hf v d → Dn.rt v H
  | .ok (.rse x ρ) st => ∀ σ c dd am Hf H, FmL am0 Hf0 H0 amL HfL am Hf H → Wf K am st Hf H → Sig K am Hf H H0 σ ρ → XOk K cl am Hf x c dd → W c dd σ H
  | .exc _ _ => False
  | .bad => False
section
variable {K : PySem.W.Frag} {cl : Nat → Addr} {C : Calls} {am0 amL am : List Addr} {Hf0 HfL Hf H0 H : Hp} {Dn : Ends} {W : WX} {ρ : Env} {σ : St} {st : Store}
theorem PostS.thn_ {α β : Type} {R : List Addr → Hp → Hp → β → α → Prop} {o : O α} {f : α → Store → O Fl} {Q : β → Hp → Prop} (P : PostS K cl (o.thn ρ f) am0 Hf0 H0 amL HfL Dn W) (f0 : FmL am0 Hf0 H0 amL HfL am Hf H) (s : Sig K am Hf H H0 σ ρ)
    (k : ∀ v d st1 am1 Hf1 H1, FmL am0 Hf0 H0 amL HfL am1 Hf1 H1 → Fm am Hf H am1 Hf1 H1 → Wf K am1 st1 Hf1 H1 → R am1 Hf1 H1 v d → PostS K cl (f d st1) am0 Hf0 H0 amL HfL Dn W → Q v H1) :
    Post K cl R o am Hf H Q (fun c d H' => W c d σ H') := by
  cases o with
  | ok d st1 => exact fun v am1 Hf1 H1 fm wf r => k v d st1 am1 Hf1 H1 (f0.trans fm) fm wf r P
  | exc x st1 => exact fun c dd am1 Hf1 H1 fm wf r => P σ c dd am1 Hf1 H1 (f0.trans fm) wf (s.next fm) r
  | bad => exact P
theorem PostS.thnN {o : O D} {f : D → Store → O Fl} {Q : VK} (P : PostS K cl (o.thn ρ f) am0 Hf0 H0 amL HfL Dn W) (f0 : FmL am0 Hf0 H0 amL HfL am Hf H) (s : Sig K am Hf H H0 σ ρ) (hl : ∀ d st, o = .ok d st → ∃ ds, d = .lst ds)
    (k : ∀ p vs ds st1 am1 Hf1 H1, FmL am0 Hf0 H0 amL HfL am1 Hf1 H1 → Fm am Hf H am1 Hf1 H1 → Wf K am1 st1 Hf1 H1 → H p = none → H1 p = some (.lst vs) → Hf1 p = none → p ∉ am1 → RepL K am1 Hf1 vs ds → ds.length ≤ line → PostS K cl (f (.lst ds) st1) am0 Hf0 H0 amL HfL Dn W → Q (.ref p) H1) :
    PostN K cl o am Hf H Q (fun c d H' => W c d σ H') := by
  cases o with
  | ok d st1 =>
    obtain ⟨ds, rfl⟩ := hl _ _ rfl
    exact ⟨ds, rfl, fun p vs am1 Hf1 H1 fm wf np hp nf na r hz => k p vs ds st1 am1 Hf1 H1 (f0.trans fm) fm wf np hp nf na r hz P⟩
  | exc x st1 => exact fun c dd am1 Hf1 H1 fm wf r => P σ c dd am1 Hf1 H1 (f0.trans fm) wf (s.next fm) r
  | bad => exact P
theorem PostS.liftB {α : Type} {o : Option α} {st : Store} {f : α → Store → O Fl} (P : PostS K cl ((lift o st).bind f) am0 Hf0 H0 amL HfL Dn W) : ∃ a, o = some a ∧ PostS K cl (f a st) am0 Hf0 H0 amL HfL Dn W := by
  cases o with
  | none => exact P.elim
  | some a => exact ⟨a, rfl, P⟩
theorem bindFl {o : O Fl} {f : Fl → Store → O Fl} {P : Prop} (h : PostS K cl (o.bind f) am0 Hf0 H0 amL HfL Dn W) (k : ∀ fl st, o = .ok fl st → PostS K cl (f fl st) am0 Hf0 H0 amL HfL Dn W → P) : P := by
  cases o with
  | ok fl st => exact k fl st rfl h
  | exc _ _ => exact h.elim
  | bad => exact h.elim
/-- a new list of one's own gets a name -/
theorem Sig.own {i : Nat} {p : Addr} {vs : List V} {ds : List D} (s : Sig K am Hf H H0 σ ρ) (hp : H p = some (.lst vs)) (r : RepL K am Hf vs ds) (nf : Hf p = none) (na : p ∉ am) (n0 : H0 p = none) (hz : ds.length ≤ line)
    (hd : ∀ (k : Nat) dk, ρ[k]? = some (.ol dk) → σ[k]? ≠ some (some (.ref p))) : Sig K am Hf H H0 (σ.set i (some (.ref p))) (ρ.set i (.ol ds)) := by
  refine ⟨len_set _ _ _ _ _ s.len, fun k x e => ?_, fun k l q dk dl hkl e1 e2 e3 e4 => ?_⟩
  · by_cases hk : i = k
    · subst hk
      have hl : i < ρ.length := by
        have := (List.getElem?_eq_some_iff.mp e).1
        rwa [List.length_set] at this
      rw [List.getElem?_set_self hl] at e
      cases e
      exact ⟨p, vs, by rw [List.getElem?_set_self (by rw [← s.len]; exact hl)], hp, r, nf, na, n0, hz⟩
    · rw [List.getElem?_set_ne hk] at e
      have q := s.slot k x e
      cases x with
      | un => trivial
      | im d =>
        obtain ⟨v, h1, h2⟩ := q
        exact ⟨v, by rw [List.getElem?_set_ne hk]; exact h1, h2⟩
      | ol ds =>
        obtain ⟨p, vs, h1, h2⟩ := q
        exact ⟨p, vs, by rw [List.getElem?_set_ne hk]; exact h1, h2⟩
      | od _ => exact q.elim
  · have tgt : ∀ (k : Nat) (dk : List D), (ρ.set i (.ol ds))[k]? = some (.ol dk) → (k = i ∧ ∀ q, (σ.set i (some (V.ref p)))[k]? = some (some (.ref q)) → q = p) ∨ (k ≠ i ∧ ρ[k]? = some (.ol dk) ∧ (σ.set i (some (V.ref p)))[k]? = σ[k]?) := fun k dk e => by
      by_cases hk : i = k
      · subst hk
        refine .inl ⟨rfl, fun q e' => ?_⟩
        have hl : i < σ.length := by
          have := (List.getElem?_eq_some_iff.mp e').1
          rwa [List.length_set] at this
        rw [List.getElem?_set_self hl] at e'
        cases e'
        rfl
      · rw [List.getElem?_set_ne hk] at e
        exact .inr ⟨fun z => hk z.symm, e, by rw [List.getElem?_set_ne hk]⟩
    rcases tgt k dk e1 with ⟨z1, q1⟩ | ⟨z1, q1, w1⟩
    · rcases tgt l dl e2 with ⟨z2, q2⟩ | ⟨z2, q2, w2⟩
      · exact hkl (z1.trans z2.symm)
      · rw [w2] at e4
        have := q1 _ e3
        subst this
        exact hd l dl q2 e4
    · rcases tgt l dl e2 with ⟨z2, q2⟩ | ⟨z2, q2, w2⟩
      · rw [w1] at e3
        have := q2 _ e4
        subst this
        exact hd k dk q1 e3
      · rw [w1] at e3
        rw [w2] at e4
        exact s.dist k l q dk dl hkl q1 q2 e3 e4
/-- a list of one's own is changed -/
theorem Sig.mut {i : Nat} {p : Addr} {vs : List V} {ds es : List D} (s : Sig K am Hf H H0 σ ρ) (hi : ρ[i]? = some (.ol es)) (hs : σ[i]? = some (some (.ref p))) (r : RepL K am Hf vs ds) (hz : ds.length ≤ line) : Sig K am Hf (upd H p (.lst vs)) H0 σ (ρ.set i (.ol ds)) := by
  obtain ⟨p', us, h1, h2, h3, h4, h5, h6, h7⟩ := s.slot i _ hi
  rw [hs] at h1
  cases h1
  have hl : i < ρ.length := (List.getElem?_eq_some_iff.mp hi).1
  refine ⟨by rw [List.length_set]; exact s.len, fun k x e => ?_, fun k l q dk dl hkl e1 e2 e3 e4 => ?_⟩
  · by_cases hk : i = k
    · subst hk
      rw [List.getElem?_set_self hl] at e
      cases e
      exact ⟨p, vs, hs, upd_same, r, h4, h5, h6, hz⟩
    · rw [List.getElem?_set_ne hk] at e
      have q := s.slot k x e
      cases x with
      | un => trivial
      | im d => exact q
      | ol ds' =>
        obtain ⟨p', vs', g1, g2, g3⟩ := q
        refine ⟨p', vs', g1, ?_, g3⟩
        have npp : p' ≠ p := fun z => by
          subst z
          exact s.dist i k p' es ds' hk hi e hs g1
        rw [upd_ne npp]
        exact g2
      | od _ => exact q.elim
  · have tgt : ∀ (k : Nat) (dk : List D), (ρ.set i (.ol ds))[k]? = some (.ol dk) → ∃ d', ρ[k]? = some (.ol d') := fun k dk e => by
      by_cases hk : i = k
      · subst hk
        exact ⟨es, hi⟩
      · rw [List.getElem?_set_ne hk] at e
        exact ⟨dk, e⟩
    obtain ⟨d1, q1⟩ := tgt k dk e1
    obtain ⟨d2, q2⟩ := tgt l dl e2
    exact s.dist k l q d1 d2 hkl q1 q2 e3 e4
/-- .. is frozen -/
theorem Sig.frz {i : Nat} {p : Addr} {vs : List V} {ds : List D} (s : Sig K am Hf H H0 σ ρ) (hi : ρ[i]? = some (.ol ds)) (hs : σ[i]? = some (some (.ref p))) (hp : H p = some (.lst vs)) (r : RepL K am Hf vs ds) (nf : Hf p = none) (hz : ds.length ≤ line) : Sig K am (upd Hf p (.lst vs)) H H0 σ (ρ.set i (.im (.lst ds))) := by
  have sm : Same Hf (upd Hf p (.lst vs)) := fun b u e => by
    rw [upd_ne (ne_of_none e nf)]; exact e
  have hl : i < ρ.length := (List.getElem?_eq_some_iff.mp hi).1
  refine ⟨by rw [List.length_set]; exact s.len, fun k x e => ?_, fun k l q dk dl hkl e1 e2 e3 e4 => ?_⟩
  · by_cases hk : i = k
    · subst hk
      rw [List.getElem?_set_self hl] at e
      cases e
      exact ⟨.ref p, hs, .lst hz upd_same (r.mono (.refl _) sm)⟩
    · rw [List.getElem?_set_ne hk] at e
      have q := s.slot k x e
      cases x with
      | un => trivial
      | im d =>
        obtain ⟨v, g1, g2⟩ := q
        exact ⟨v, g1, g2.mono (.refl _) sm⟩
      | ol ds' =>
        obtain ⟨p', vs', g1, g2, g3, g4, g5⟩ := q
        refine ⟨p', vs', g1, g2, g3.mono (.refl _) sm, ?_, g5⟩
        have npp : p' ≠ p := fun z => by
          subst z
          exact s.dist i k p' ds ds' hk hi e hs g1
        rw [upd_ne npp]
        exact g4
      | od _ => exact q.elim
  · have tgt : ∀ (k : Nat) (dk : List D), (ρ.set i (.im (.lst ds)))[k]? = some (.ol dk) → ρ[k]? = some (.ol dk) := fun k dk e => by
      by_cases hk : i = k
      · subst hk
        rw [List.getElem?_set_self hl] at e
        cases e
      · rw [List.getElem?_set_ne hk] at e
        exact e
    exact s.dist k l q dk dl hkl (tgt k dk e1) (tgt l dl e2) e3 e4
end
end PF
namespace PF
open PySem L2
def DenS (K : PySem.W.Frag) (cl : Nat → Addr) (C : Calls) (Wn : Nat) (s : S) : Prop :=
  ∀ {W : WX} {ρ : Env} {st : Store} {am0 amL am : List Addr} {Hf0 H0 HfL Hf H : Hp} {σ : St} {Dn : Ends}, FmL am0 Hf0 H0 amL HfL am Hf H → Wf K am st Hf H → Sig K am Hf H H0 σ ρ → PostS K cl (ex C Wn s ρ st) am0 Hf0 H0 amL HfL Dn W → tS K (spOf K cl C) W s Dn σ H
section
variable {K : PySem.W.Frag} {cl : Nat → Addr} {C : Calls} {Wn : Nat}
theorem PostS.low {r : O Fl} {am0 amL am : List Addr} {Hf0 H0 HfL Hf H : Hp} {Dn : Ends} {W : WX} (f : FmL am0 Hf0 H0 amL HfL am Hf H) (P : PostS K cl r am0 Hf0 H0 amL HfL Dn W) : PostS K cl r am0 Hf0 H0 am Hf Dn W := by
  cases r with
  | exc _ _ => exact P
  | bad => exact P
  | ok fl st =>
    cases fl with
    | next ρ => exact fun σ am1 Hf1 H1 g => P σ am1 Hf1 H1 (f.low g)
    | brk ρ => exact fun σ am1 Hf1 H1 g => P σ am1 Hf1 H1 (f.low g)
    | cnt ρ => exact fun σ am1 Hf1 H1 g => P σ am1 Hf1 H1 (f.low g)
    | ret d => exact fun v am1 Hf1 H1 g => P v am1 Hf1 H1 (f.low g)
    | rse x ρ => exact fun σ c dd am1 Hf1 H1 g => P σ c dd am1 Hf1 H1 (f.low g)
/-- what a for asks behind its iterable -/
def ForR (g : TG) (tb : TS) (D : Ends) (σ : St) : It → Hp → Prop := fun J H1 => ∃ W : Nat → Nat → St → Hp → Prop, (∃ m, W 0 m σ H1) ∧ ∀ i m σ H, W i m σ H →
  (J.stop i H ∧ D.nx σ H) ∨ (J.go i H ∧ ∃ N : St → Hp → Prop, (∀ σ' H', N σ' H' → ∃ m', m' < m ∧ W (i + 1) m' σ' H') ∧ ∀ x H', J.yld i H x H' → g x σ H' fun σ2 H2 => tb { D with nx := N, ct := N, bk := D.nx } σ2 H2)
theorem for_gen {J : It} {n : Nat} {G : Hp → Prop} {Y : Nat → Hp → V → Hp → Prop} {am0 amL am : List Addr} {Hf0 H0 HfL Hf H : Hp} {st : Store} {W : WX} {σ : St} {ρ : Env} {Dn : Ends} {j : Nat} {b : S} {ds : List D}
    (ihb : DenS K cl C Wn b) (w : Walk J n G Y) (hn : n = ds.length) (f0 : FmL am0 Hf0 H0 amL HfL am Hf H) (w0 : Wf K am st Hf H) (s0 : Sig K am Hf H H0 σ ρ)
    (hY : ∀ i H' x H'', i < n → Y i H' x H'' → H'' = H' ∧ ∃ d, ds[i]? = some d ∧ Rep K am Hf x d) (hG : ∀ H', Same Hf H' → G H')
    (P : PostS K cl (forO (fun x ρ st => (lift (setS ρ j x) st).bind fun ρ st => ex C Wn b ρ st) ds ρ st) am0 Hf0 H0 amL HfL Dn W) : ForR (gName j) (tS K (spOf K cl C) W b) Dn σ J H := by
  subst hn
  refine for_it w (fun i σ' H' => ∃ ρ' st' am' Hf', FmL am0 Hf0 H0 am Hf am' Hf' H' ∧ Wf K am' st' Hf' H' ∧ Sig K am' Hf' H' H0 σ' ρ' ∧
      PostS K cl (forO (fun x ρ st => (lift (setS ρ j x) st).bind fun ρ st => ex C Wn b ρ st) (ds.drop i) ρ' st') am0 Hf0 H0 amL HfL Dn W) ⟨ρ, st, am, Hf, f0.here, w0, s0, P⟩ ?_ ?_ ?_
  · rintro i σ' H' _ ⟨ρ', st', am', Hf', fm, wf, sg, _⟩
    exact hG H' (fm.hf.trans wf.sub)
  · rintro i x σ' H' H'' hi ⟨ρ', st', am', Hf', fm, wf, sg, P⟩ y
    obtain ⟨rfl, d, hd, rx⟩ := hY i H' x H'' hi y
    have rx' := rx.mono fm.pre fm.hf
    have hdrop : ds.drop i = d :: ds.drop (i + 1) := by
      obtain ⟨h1, h2⟩ := List.getElem?_eq_some_iff.mp hd
      rw [← h2]
      exact List.drop_eq_getElem_cons h1
    rw [hdrop, forO] at P
    refine bindFl P fun fl st1 e P1 => ?_
    show tS K (spOf K cl C) W b _ (σ'.set j (some x)) H''
    have e' : (lift (setS ρ' j d) st').bind (fun ρ st => ex C Wn b ρ st) = .ok fl st1 := e
    cases hs : setS ρ' j d with
    | none => rw [hs] at e'; cases e'
    | some ρ2 =>
      rw [hs] at e'
      have e2 : ex C Wn b ρ2 st' = .ok fl st1 := e'
      have hρ2 : ρ2 = ρ'.set j (.im d) := by
        unfold setS at hs
        split at hs
        · cases hs; rfl
        · cases hs
      subst hρ2
      refine ihb (am0 := am0) (Hf0 := Hf0) (H0 := H0) fm.here wf (sg.set rx') ?_
      rw [e2]
      cases fl with
      | next ρ3 => exact fun σ3 am3 Hf3 H3 fm3 wf3 sg3 => ⟨ρ3, st1, am3, Hf3, fm.low fm3, wf3, sg3, P1⟩
      | cnt ρ3 => exact fun σ3 am3 Hf3 H3 fm3 wf3 sg3 => ⟨ρ3, st1, am3, Hf3, fm.low fm3, wf3, sg3, P1⟩
      | brk ρ3 => exact PostS.low (r := .ok (.next ρ3) st1) (f0.low fm) P1
      | ret d3 => exact PostS.low (r := .ok (.ret d3) st1) (f0.low fm) P1
      | rse x3 ρ3 => exact PostS.low (r := .ok (.rse x3 ρ3) st1) (f0.low fm) P1
  · rintro σ' H' ⟨ρ', st', am', Hf', fm, wf, sg, P⟩
    rw [List.drop_length, forO] at P
    exact P σ' am' Hf' H' (f0.low fm) wf sg
/-- what is walked is data -/
theorem itemsR {am : List Addr} {st : Store} {Hf H : Hp} {v : V} {d : D} {ds : List D} {R : It → Hp → Prop} (w : Wf K am st Hf H) (h : Rep K am Hf v d) (e : itemsD d = some ds)
    (k : ∀ (J : It) (G : Hp → Prop) (Y : Nat → Hp → V → Hp → Prop), Walk J ds.length G Y → ds.length ≤ line → (∀ i H' x H'', i < ds.length → Y i H' x H'' → H'' = H' ∧ ∃ d, ds[i]? = some d ∧ Rep K am Hf x d) → (∀ H', Same Hf H' → G H') → R J H) :
    (∃ a, v = .ref a ∧ (∃ xs, SqL K H a xs) ∧ R (Itl K a) H) ∨ (∃ a, v = .ref a ∧ (∃ xs, SqT K H a xs) ∧ R (Itt K a) H) ∨ ∃ z, v = .str z ∧ R (Its z) H := by
  unfold itemsD at e
  split at e
  · cases e
    obtain ⟨p, vs, rfl, hp, r, hz⟩ := h.vLst
    refine .inl ⟨p, rfl, ⟨_, SqL.of (w.sub _ _ hp)⟩, ?_⟩
    have wk : Walk (Itl K p) ds.length (fun H => SqL K H p vs) (YAt vs) := by
      have := walk_list (K := K) (a := p) (xs := vs)
      rw [r.length] at this
      exact this
    exact k _ _ _ wk hz (fun i H' x H'' hi y => ⟨y.1, r.getV y.2⟩) fun H' sm => SqL.of (sm _ _ hp)
  · cases e
    obtain ⟨p, vs, rfl, hp, r, hz⟩ := h.vTup
    refine .inr (.inl ⟨p, rfl, ⟨_, Same.seqT w.sub hp⟩, ?_⟩)
    have wk : Walk (Itt K p) ds.length (fun H => SqT K H p vs) (YAt vs) := by
      have := walk_tup (K := K) (a := p) (xs := vs)
      rw [r.length] at this
      exact this
    exact k _ _ _ wk hz (fun i H' x H'' hi y => ⟨y.1, r.getV y.2⟩) fun H' sm => Same.seqT sm hp
  · rename_i s
    cases e
    refine .inr (.inr ⟨tx s, h.vStr.1, ?_⟩)
    have wk : Walk (Its (tx s)) (s.map fun c => D.str [c]).length (fun _ => True) (fun i H v H' => H' = H ∧ ∃ c, (tx s).cps[i]? = some c ∧ v = .str ⟨#[c]⟩) := by
      have := walk_str (z := tx s)
      have e : (tx s).cps.size = (s.map fun c => D.str [c]).length := by simp [tx]
      rw [e] at this
      exact this
    refine k _ _ _ wk (by rw [List.length_map]; exact h.vStr.2) (fun i H' x H'' hi y => ⟨y.1, ?_⟩) fun _ _ => trivial
    obtain ⟨_, c, hc, rfl⟩ := y
    refine ⟨.str [c], ?_, .str [c] (by show 1 ≤ line; decide)⟩
    rw [List.getElem?_map]
    have : s[i]? = some c := by simpa [tx] using hc
    rw [this]
    rfl
  · cases e
theorem setS_eq {ρ ρ' : Env} {i : Nat} {d : D} (h : setS ρ i d = some ρ') : ρ' = ρ.set i (.im d) := by
  unfold setS at h
  split at h
  · cases h; rfl
  · cases h
theorem fresh_lst {e : E} (hf : fresh e = true) : ∀ {ρ st d st'}, ev C e ρ st = .ok d st' → ∃ ds, d = .lst ds := by
  intro ρ st d st' h
  cases e with
  | lst a =>
    refine bind_lst (fun xs st d st' e => ?_) d st' h
    split at e
    · cases e; exact ⟨_, rfl⟩
    · cases e
  | lc j src c e =>
    refine bind_lst (fun xs st d st' e => bind_lst (fun ys st d st' e => bind_lst (fun zs st d st' e => ?_) d st' e) d st' e) d st' h
    cases e; exact ⟨_, rfl⟩
  | lcr j a c e =>
    refine bind_lst (fun xs st d st' e => bind_lst (fun ys st d st' e => ?_) d st' e) d st' h
    split at e
    · cases e
    · refine bind_lst (fun zs st d st' e => ?_) d st' e
      cases e; exact ⟨_, rfl⟩
  | _ => cases hf
theorem own_ne {am : List Addr} {Hf H H0 : Hp} {σ : St} {ρ : Env} {p : Addr} (s : Sig K am Hf H H0 σ ρ) (np : H p = none) : ∀ (k : Nat) dk, ρ[k]? = some (.ol dk) → σ[k]? ≠ some (some (.ref p)) := fun k dk e z => by
  obtain ⟨q, vs, h1, h2, _⟩ := s.slot k _ e
  rw [z] at h1
  cases h1
  rw [np] at h2
  cases h2
end
end PF
namespace PF
open PySem L2
section
variable {K : PySem.W.Frag} {cl : Nat → Addr} {C : Calls} {Wn : Nat}
theorem whl_den {c : E} {b : S} (ihb : DenS K cl C Wn b) {W : WX} {am0 amL : List Addr} {Hf0 H0 HfL : Hp} {Dn : Ends} (m : Nat) {ρ : Env} {st : Store} {am : List Addr} {Hf H : Hp} {σ : St} (f0 : FmL am0 Hf0 H0 amL HfL am Hf H) (w : Wf K am st Hf H) (s : Sig K am Hf H H0 σ ρ)
    (P : PostS K cl (whlO (evT C c) (ex C Wn b) m ρ st) am0 Hf0 H0 amL HfL Dn W) : tWhile (tT K (spOf K cl C) W c) (tS K (spOf K cl C) W b) Dn σ H := by
  refine ⟨fun m σ' H' => ∃ ρ' st' am' Hf', FmL am0 Hf0 H0 amL HfL am' Hf' H' ∧ Wf K am' st' Hf' H' ∧ Sig K am' Hf' H' H0 σ' ρ' ∧ PostS K cl (whlO (evT C c) (ex C Wn b) m ρ' st') am0 Hf0 H0 amL HfL Dn W, ⟨m, ρ, st, am, Hf, f0, w, s, P⟩, ?_⟩
  rintro m σ' H' ⟨ρ', st', am', Hf', fm, wf, sg, P⟩
  cases m with
  | zero => exact P.elim
  | succ m =>
    rw [whlO] at P
    refine (den c).t wf sg (P.thn_ (R := RB) fm sg fun k k' st1 am1 Hf1 H1 f1 g1 w1 e P1 => ?_)
    subst e
    cases k with
    | false =>
      rw [if_neg Bool.false_ne_true] at P1 ⊢
      exact P1 σ' am1 Hf1 H1 f1 w1 (sg.next g1)
    | true =>
      rw [if_pos rfl] at P1 ⊢
      refine ⟨fun σ3 H3 => ∃ ρ' st' am' Hf', FmL am0 Hf0 H0 amL HfL am' Hf' H3 ∧ Wf K am' st' Hf' H3 ∧ Sig K am' Hf' H3 H0 σ3 ρ' ∧ PostS K cl (whlO (evT C c) (ex C Wn b) m ρ' st') am0 Hf0 H0 amL HfL Dn W, fun σ3 H3 h => ⟨m, Nat.lt_succ_self m, h⟩, ?_⟩
      refine bindFl P1 fun fl st2 e P2 => ?_
      refine ihb (am0 := am0) (Hf0 := Hf0) (H0 := H0) (amL := amL) (HfL := HfL) f1 w1 (sg.next g1) ?_
      rw [e]
      cases fl with
      | next ρ3 => exact fun σ3 am3 Hf3 H3 fm3 wf3 sg3 => ⟨ρ3, st2, am3, Hf3, fm3, wf3, sg3, P2⟩
      | cnt ρ3 => exact fun σ3 am3 Hf3 H3 fm3 wf3 sg3 => ⟨ρ3, st2, am3, Hf3, fm3, wf3, sg3, P2⟩
      | brk ρ3 => exact P2
      | ret d3 => exact P2
      | rse x3 ρ3 => exact P2
theorem olS_eq {ρ : Env} {i : Nat} {ds : List D} (h : olS ρ i = some ds) : ρ[i]? = some (.ol ds) := by
  unfold olS at h
  split at h
  · rename_i ds' hs
    cases h
    exact hs
  · cases h
theorem ownS_eq {ρ ρ' : Env} {i : Nat} {ds : List D} (h : ownS ρ i (.lst ds) = some ρ') : ρ' = ρ.set i (.ol ds) := by
  by_cases hl : i < ρ.length
  · have h : (if i < ρ.length then some (ρ.set i (.ol ds)) else none) = some ρ' := h
    rw [if_pos hl] at h
    cases h
    rfl
  · have h : (if i < ρ.length then some (ρ.set i (.ol ds)) else none) = some ρ' := h
    rw [if_neg hl] at h
    cases h
theorem Fm.store {am : List Addr} {Hf H : Hp} {p : Addr} {o : HO} (hm : p ∈ am) : Fm am Hf H am Hf (upd H p o) where
  pre := .refl _
  hf := .refl _
  keep := fun a u e n => by rw [upd_ne (show a ≠ p from fun z => n (z ▸ hm))]; exact e
  there := fun a u e => by
    by_cases h : a = p
    · subst h; exact ⟨o, upd_same⟩
    · exact ⟨u, by rw [upd_ne h]; exact e⟩
  offF := fun a u e n => n
  offA := fun _ _ _ h => h
/-! ### an except suite -/
theorem XOk.next {am am' : List Addr} {Hf H Hf' H' : Hp} {x : Exn} {c : Value} {dd : Option Addr} (f : Fm am Hf H am' Hf' H') (h : XOk K cl am Hf x c dd) : XOk K cl am' Hf' x c dd := by
  obtain ⟨h1, h2⟩ := h
  refine ⟨h1, ?_⟩
  rcases h2 with h2 | ⟨a, fs, e1, e2, e3, e4⟩
  · exact .inl h2
  · exact .inr ⟨a, fs, e1, f.hf _ _ e2, e3, e4.mono f.pre f.hf⟩
theorem look_rep {am : List Addr} {Hf : Hp} {f : Str} {d : D} : ∀ {fs : List (Str × V)} {ds : List (Str × D)}, fs.map (·.1) = ds.map (·.1) → RepL K am Hf (fs.map (·.2)) (ds.map (·.2)) → ds.lookup f = some d → ∃ v, fs.lookup f = some v ∧ Rep K am Hf v d
  | [], [], _, _, e => by cases e
  | [], _ :: _, e, _, _ => by simp at e
  | _ :: _, [], e, _, _ => by simp at e
  | (a, v) :: fs, (b, x) :: ds, e, r, h => by
    rw [List.map_cons, List.map_cons, List.cons.injEq] at e
    obtain ⟨e1, e2⟩ := e
    have e1 : a = b := e1
    subst e1
    cases r with
    | cons r1 r2 =>
      rw [List.lookup_cons] at h ⊢
      cases hb : f == a with
      | true => rw [hb] at h; cases h; exact ⟨v, rfl, r1⟩
      | false => rw [hb] at h; exact look_rep e2 r2 h
structure DenH (K : PySem.W.Frag) (cl : Nat → Addr) (k : Nat) (ee : Exn) (hx : HX) (e : E) : Prop where
  v : ∀ {ρ : Env} {st : Store} {am : List Addr} {Hf H H0 : Hp} {σ : St} {Q : VK}, Wf K am st Hf H → Sig K am Hf H H0 σ ρ → σ[k]? = some (some (.ref hx.a)) → XOk K cl am Hf ee hx.cls hx.d → Post K cl (RV K) (evH k ee e ρ st) am Hf H Q (fun _ _ _ => False) → tH K hx e σ H Q
  vs : ∀ {ρ : Env} {st : Store} {am : List Addr} {Hf H H0 : Hp} {σ : St} {Q : List V → Hp → Prop}, Wf K am st Hf H → Sig K am Hf H H0 σ ρ → σ[k]? = some (some (.ref hx.a)) → XOk K cl am Hf ee hx.cls hx.d → Post K cl (RVs K) (evHs k ee e ρ st) am Hf H Q (fun _ _ _ => False) → tHs K hx e σ H Q
theorem denH {k : Nat} {ee : Exn} {hx : HX} : ∀ e : E, DenH K cl k ee hx e := by
  intro e
  induction e with
  | var i =>
    refine ⟨fun w s _ _ P => ?_, fun _ _ _ _ P => P.elim⟩
    obtain ⟨x, hx, P⟩ := P.lift_
    unfold slotD at hx
    split at hx
    · rename_i d hs
      cases hx
      obtain ⟨v, h1, h2⟩ := s.slot i _ hs
      exact ⟨v, h1, P v _ _ _ (.refl _ _ _) w h2⟩
    · cases hx
  | cst d =>
    refine ⟨fun {ρ st am Hf H H0 σ Q} w s _ _ P => ?_, fun _ _ _ _ P => P.elim⟩
    have P : Post K cl (RV K) (if okC d then O.ok d st else .bad) am Hf H Q _ := P
    split at P
    · rename_i h
      exact P _ _ _ _ (.refl _ _ _) w (okC_rep h)
    · exact P.elim
  | exf c f i =>
    refine ⟨fun w s hk xo P => ?_, fun _ _ _ _ P => P.elim⟩
    obtain ⟨x, hq, P2⟩ := P.lift_
    clear P
    split at hq
    · rename_i hc
      obtain ⟨rfl, rfl⟩ := hc
      obtain ⟨h1, h2⟩ := xo
      rcases h2 with ⟨h2, _⟩ | ⟨a, fs, e1, e2, e3, e4⟩
      · rw [h2] at hq; cases hq
      · obtain ⟨v, q1, q2⟩ := look_rep e3 e4 hq
        exact ⟨_, hk, rfl, h1, a, fs, v, e1, w.sub _ _ e2, q1, P2 v _ _ _ (.refl _ _ _) w q2⟩
    · cases hq
  | cmp o a b iha ihb =>
    refine ⟨fun {ρ st am Hf H H0 σ Q} w s hk xo P => ?_, fun _ _ _ _ P => P.elim⟩
    have P : Post K cl (RV K) (if isOp o then (evH k ee a ρ st).bind fun x st => (evH k ee b ρ st).bind fun y st => lift ((cmpD o x y).map .bl) st else .bad) am Hf H Q _ := P
    split at P
    · refine iha.v w s hk xo (P.step (.refl _ _ _) fun v x st1 am1 Hf1 H1 f1 _ w1 r1 P1 => ?_)
      refine ihb.v w1 (s.next f1) hk (xo.next f1) (P1.step f1 fun u y st2 am2 Hf2 H2 f2 g2 w2 r2 P2 => ?_)
      obtain ⟨z, hz, P3⟩ := P2.map_
      exact cmp_den w2 (.inl (r1.mono g2.pre g2.hf)) (.inl r2) hz (P3 _ _ _ _ f2 w2 (.bl _))
    · exact P.elim
  | tup a iha =>
    refine ⟨fun w s hk xo P => ?_, fun _ _ _ _ P => P.elim⟩
    refine iha.vs w s hk xo (P.step (.refl _ _ _) fun vs xs st1 am1 Hf1 H1 f1 _ w1 r1 P1 => ?_)
    split at P1
    · rename_i hl
      exact ⟨by rw [r1.length, ← line_eq]; exact hl, new_tup w1 r1 hl (P1.fin f1)⟩
    · exact P1.elim
  | lst a iha =>
    refine ⟨fun w s hk xo P => ?_, fun _ _ _ _ P => P.elim⟩
    refine iha.vs w s hk xo (P.step (.refl _ _ _) fun vs xs st1 am1 Hf1 H1 f1 _ w1 r1 P1 => ?_)
    split at P1
    · rename_i hl
      exact ⟨by rw [r1.length, ← line_eq]; exact hl, new_lst w1 r1 hl (P1.fin f1)⟩
    · exact P1.elim
  | nil => exact ⟨fun _ _ _ _ P => P.elim, fun w s _ _ P => P [] _ _ _ (.refl _ _ _) w .nil⟩
  | cons a b iha ihb =>
    refine ⟨fun _ _ _ _ P => P.elim, fun w s hk xo P => ?_⟩
    refine iha.v w s hk xo (P.step (.refl _ _ _) fun v x st1 am1 Hf1 H1 f1 _ w1 r1 P1 => ?_)
    refine ihb.vs w1 (s.next f1) hk (xo.next f1) (P1.step f1 fun vs xs st2 am2 Hf2 H2 f2 g2 w2 r2 P2 => ?_)
    exact P2 _ _ _ _ f2 w2 (.cons (r1.mono g2.pre g2.hf) r2)
  | _ => exact ⟨fun _ _ _ _ P => P.elim, fun _ _ _ _ P => P.elim⟩
/-- a name is set to anything, and not looked at -/
theorem Sig.drop {am : List Addr} {Hf H H0 : Hp} {σ : St} {ρ : Env} (s : Sig K am Hf H H0 σ ρ) (i : Nat) (x : Option V) : Sig K am Hf H H0 (σ.set i x) (ρ.set i .un) := by
  have back : ∀ (j : Nat) (z : Slot), (ρ.set i .un)[j]? = some z → z = .un ∨ (j ≠ i ∧ ρ[j]? = some z) := fun j z e => by
    by_cases h : i = j
    · subst h
      have hl : i < ρ.length := by
        have := (List.getElem?_eq_some_iff.mp e).1
        rwa [List.length_set] at this
      rw [List.getElem?_set_self hl] at e
      cases e
      exact .inl rfl
    · rw [List.getElem?_set_ne h] at e
      exact .inr ⟨fun z => h z.symm, e⟩
  refine ⟨len_set _ _ _ _ _ s.len, fun j z e => ?_, fun j l p dj dl hjl e1 e2 e3 e4 => ?_⟩
  · rcases back j z e with rfl | ⟨hn, e⟩
    · trivial
    · have q := s.slot j z e
      have es : (σ.set i x)[j]? = σ[j]? := List.getElem?_set_ne (fun z => hn z.symm)
      cases z with
      | un => trivial
      | im d =>
        obtain ⟨v, h1, h2⟩ := q
        exact ⟨v, by rw [es]; exact h1, h2⟩
      | ol ds =>
        obtain ⟨p, vs, h1, h2⟩ := q
        exact ⟨p, vs, by rw [es]; exact h1, h2⟩
      | od _ => exact q.elim
  · rcases back j _ e1 with e1 | ⟨n1, e1⟩
    · cases e1
    · rcases back l _ e2 with e2 | ⟨n2, e2⟩
      · cases e2
      · rw [List.getElem?_set_ne (fun z => n1 z.symm)] at e3
        rw [List.getElem?_set_ne (fun z => n2 z.symm)] at e4
        exact s.dist j l p dj dl hjl e1 e2 e3 e4
theorem unp_den {am : List Addr} {st : Store} {Hf H H0 : Hp} {Q : St → Hp → Prop} : ∀ {is : List Nat} {ds : List D} {vs : List V} {σ : St} {ρ ρ' : Env}, Wf K am st Hf H → Sig K am Hf H H0 σ ρ → RepL K am Hf vs ds → unpS ρ is ds = some ρ' → (∀ σ', Sig K am Hf H H0 σ' ρ' → Q σ' H) → vs.length = is.length ∧ gNames is vs σ H Q
  | [], [], _, σ, ρ, ρ', w, s, .nil, e, q => by
    cases e
    exact ⟨rfl, rfl, q _ s⟩
  | i :: is, d :: ds, _, σ, ρ, ρ', w, s, .cons (v := v) r1 r2, e, q => by
    rw [unpS] at e
    cases hs : setS ρ i d with
    | none => rw [hs] at e; cases e
    | some ρ1 =>
      rw [hs] at e
      have e1 := setS_eq hs
      subst e1
      obtain ⟨h1, h2⟩ := unp_den (is := is) w (s.set r1) r2 e q
      exact ⟨by rw [List.length_cons, List.length_cons, h1], v, _, rfl, h2⟩
  | [], _ :: _, _, _, _, _, _, _, _, e, _ => by cases e
  | _ :: _, [], _, _, _, _, _, _, _, e, _ => by cases e
theorem denS : ∀ s : S, (∀ f ∈ fcS s, f.ok K = true) → DenS K cl C Wn s := by
  intro s
  induction s with
  | skip => exact fun _ {W ρ st am0 amL am Hf0 H0 HfL Hf H σ Dn} f0 w s P => P σ am Hf H f0 w s
  | seq a b iha ihb =>
    intro hK W ρ st am0 amL am Hf0 H0 HfL Hf H σ Dn f0 w s P
    have P : PostS K cl ((ex C Wn a ρ st).bind fun fl st => match fl with | .next ρ => ex C Wn b ρ st | fl => .ok fl st) am0 Hf0 H0 amL HfL Dn W := P
    refine bindFl P fun fl st1 e P1 => ?_
    refine iha (fun f h => hK f (List.mem_append_left _ h)) (Dn := { Dn with nx := tS K (spOf K cl C) W b Dn }) f0 w s ?_
    rw [e]
    cases fl with
    | next ρ1 => exact fun σ1 am1 Hf1 H1 f1 w1 s1 => ihb (fun f h => hK f (List.mem_append_right _ h)) f1 w1 s1 P1
    | cnt ρ3 => exact P1
    | brk ρ3 => exact P1
    | ret d3 => exact P1
    | rse x3 ρ3 => exact P1
  | set i e =>
    intro hK W ρ st am0 amL am Hf0 H0 HfL Hf H σ Dn f0 w s P
    refine (den e).v w s (PostS.thn_ P f0 s fun v d st1 am1 Hf1 H1 f1 g1 w1 r1 P1 => ?_)
    obtain ⟨ρ', hρ, P2⟩ := P1.liftB
    rw [setS_eq hρ] at P2
    exact P2 _ am1 Hf1 H1 f1 w1 ((s.next g1).set r1)
  | own i e =>
    intro hK W ρ st am0 amL am Hf0 H0 HfL Hf H σ Dn f0 w s P
    have P : PostS K cl (if fresh e then (ev C e ρ st).thn ρ fun d st => (lift (ownS ρ i d) st).bind fun ρ st => .ok (.next ρ) st else .bad) am0 Hf0 H0 amL HfL Dn W := P
    split at P
    · rename_i hf
      refine (den e).n hf w s (PostS.thnN P f0 s (fun d st' h => fresh_lst hf h) fun p vs ds st1 am1 Hf1 H1 f1 g1 w1 np hp nf na r hz P1 => ?_)
      obtain ⟨ρ', hρ, P2⟩ := P1.liftB
      have hlt := ownS_eq hρ
      subst hlt
      have n0 : H0 p = none := f0.fm.there_none np
      exact P2 _ am1 Hf1 H1 f1 w1 ((s.next g1).own hp r nf na n0 hz (own_ne s np))
    · exact P.elim
  | frz i =>
    intro hK W ρ st am0 amL am Hf0 H0 HfL Hf H σ Dn f0 w s P
    obtain ⟨ρ', hρ, P2⟩ := PostS.liftB (o := frzS ρ i) P
    unfold frzS at hρ
    split at hρ
    · rename_i ds hs
      cases hρ
      obtain ⟨p, vs, h1, h2, h3, h4, h5, h6, h7⟩ := s.slot i _ hs
      exact P2 σ am _ H (f0.frz h6 h4) (w.frz h2 h4 h5) (s.frz hs h1 h2 h3 h4 h7)
    · rename_i hs
      exact (s.slot i _ hs).elim
    · cases hρ
      exact P2 σ am Hf H f0 w s
    · cases hρ
  | app i e =>
    intro hK W ρ st am0 amL am Hf0 H0 HfL Hf H σ Dn f0 w s P
    obtain ⟨ds, hd, P1⟩ := PostS.liftB (o := olS ρ i) P
    have hs := olS_eq hd
    obtain ⟨p, vs, h1, h2, h3, h4, h5, h6, h7⟩ := s.slot i _ hs
    refine ⟨_, h1, .inl ⟨rfl, _, SqL.of h2⟩, (den e).v w s (P1.thn_ f0 s fun v d st1 am1 Hf1 H1 f1 g1 w1 r1 P2 => ?_)⟩
    have P2 : PostS K cl (if ds.length < line then O.ok (Fl.next (ρ.set i (.ol (ds ++ [d])))) st1 else .bad) am0 Hf0 H0 amL HfL Dn W := P2
    split at P2
    · rename_i hl
      have e2 : H1 p = some (.lst vs) := g1.keep _ _ h2 h5
      refine ⟨p, vs, v, rfl, rfl, e2, by rw [h3.length, ← line_eq]; exact hl, ?_⟩
      have r2 := (h3.mono g1.pre g1.hf).append (.one r1)
      exact P2 σ am1 Hf1 _ (f1.mut h6) (w1.own (g1.offF _ _ h2 h4) fun z => h5 (g1.offA _ _ h2 z)) ((s.next g1).mut hs h1 r2 (by rw [List.length_append, List.length_singleton]; omega))
    · exact P2.elim
  | ext i e =>
    intro hK W ρ st am0 amL am Hf0 H0 HfL Hf H σ Dn f0 w s P
    obtain ⟨ds, hd, P1⟩ := PostS.liftB (o := olS ρ i) P
    have hs := olS_eq hd
    obtain ⟨p, vs, h1, h2, h3, h4, h5, h6, h7⟩ := s.slot i _ hs
    refine ⟨_, h1, .inl ⟨rfl, _, SqL.of h2⟩, (den e).v w s (P1.thn_ f0 s fun v d st1 am1 Hf1 H1 f1 g1 w1 r1 P2 => ?_)⟩
    obtain ⟨es, he, P3⟩ := P2.liftB
    have hde : d = .lst es := by
      unfold lstD at he
      split at he
      · cases he; rfl
      · cases he
    subst hde
    have P3 : PostS K cl (if ds.length + es.length ≤ line then O.ok (Fl.next (ρ.set i (.ol (ds ++ es)))) st1 else .bad) am0 Hf0 H0 amL HfL Dn W := P3
    split at P3
    · rename_i hl
      have e2 : H1 p = some (.lst vs) := g1.keep _ _ h2 h5
      obtain ⟨q, us, rfl, hq, rq, _⟩ := r1.vLst
      refine ⟨p, q, vs, us, rfl, rfl, e2, w1.sub _ _ hq, by rw [h3.length, rq.length, ← line_eq]; exact hl, ?_⟩
      have r2 := (h3.mono g1.pre g1.hf).append rq
      exact P3 σ am1 Hf1 _ (f1.mut h6) (w1.own (g1.offF _ _ h2 h4) fun z => h5 (g1.offA _ _ h2 z)) ((s.next g1).mut hs h1 r2 (by rw [List.length_append]; exact hl))
    · exact P3.elim
  | aug i o e =>
    intro hK W ρ st am0 amL am Hf0 H0 HfL Hf H σ Dn f0 w s P
    obtain ⟨x, hx, P1⟩ := PostS.liftB (o := slotD ρ i) P
    unfold slotD at hx
    split at hx
    · rename_i x' hs
      cases hx
      obtain ⟨v, h1, h2⟩ := s.slot i _ hs
      refine ⟨v, h1, (den e).v w s (P1.thn_ f0 s fun u d st1 am1 Hf1 H1 f1 g1 w1 r1 P2 => ?_)⟩
      obtain ⟨z, hz, P3⟩ := P2.liftB
      obtain ⟨ρ', hρ, P4⟩ := P3.liftB
      rw [setS_eq hρ] at P4
      unfold augD at hz
      split at hz
      · cases hz
        exact ⟨_, _, h2.vInt, r1.vInt, P4 _ am1 Hf1 H1 f1 w1 ((s.next g1).set (.int _))⟩
      · cases hz
        exact ⟨_, _, h2.vInt, r1.vInt, P4 _ am1 Hf1 H1 f1 w1 ((s.next g1).set (.int _))⟩
      · cases hz
    · cases hx
  | put o k e =>
    intro hK W ρ st am0 amL am Hf0 H0 HfL Hf H σ Dn f0 w s P
    refine (den e).v w s (PostS.thn_ P f0 s fun v d st1 am1 Hf1 H1 f1 g1 w1 r1 P1 => ?_)
    refine (den o).v w1 (s.next g1) (PostS.thn_ P1 f1 (s.next g1) fun u x st2 am2 Hf2 H2 f2 g2 w2 r2 P2 => ?_)
    refine (den k).v w2 ((s.next g1).next g2) (PostS.thn_ P2 f2 ((s.next g1).next g2) fun y' y st3 am3 Hf3 H3 f3 g3 w3 r3 P3 => ?_)
    have P3 : PostS K cl (match putS st3 x y d with | some st => .ok (.next ρ) st | none => .bad) am0 Hf0 H0 amL HfL Dn W := P3
    cases hp : putS st3 x y d with
    | none => rw [hp] at P3; exact P3.elim
    | some st4 =>
      rw [hp] at P3
      unfold putS at hp
      split at hp
      · rename_i n i
        split at hp
        · rename_i xs hc
          cases hj : ixN xs.length i with
          | none => rw [hj] at hp; cases hp
          | some j =>
            rw [hj] at hp
            cases hp
            obtain ⟨a, rfl, ha⟩ := (r2.mono g3.pre g3.hf).vRef
            obtain ⟨vs, he, rv, hz⟩ := w3.cell _ _ _ ha hc
            refine ⟨a, vs, i, j, rfl, r3.vInt, he, by rw [rv.length]; exact hj, ?_⟩
            have rd := (r1.mono g2.pre g2.hf).mono g3.pre g3.hf
            have fp : Fm am3 Hf3 H3 am3 Hf3 (upd H3 a (.lst (vs.set j v))) := Fm.store (List.mem_of_getElem? ha)
            exact P3 σ am3 Hf3 _ (f3.trans fp) (w3.put ha (rv.set rd j) (by rw [List.length_set]; exact hz)) ((((s.next g1).next g2).next g3).next fp)
        · cases hp
      · cases hp
  | exp e =>
    intro hK W ρ st am0 amL am Hf0 H0 HfL Hf H σ Dn f0 w s P
    exact (den e).v w s (PostS.thn_ P f0 s fun v d st1 am1 Hf1 H1 f1 g1 w1 r1 P1 => P1 σ am1 Hf1 H1 f1 w1 (s.next g1))
  | ret e =>
    intro hK W ρ st am0 amL am Hf0 H0 HfL Hf H σ Dn f0 w s P
    exact (den e).v w s (PostS.thn_ P f0 s fun v d st1 am1 Hf1 H1 f1 g1 w1 r1 P1 => P1 v am1 Hf1 H1 f1 w1 r1)
  | retn => exact fun _ {W ρ st am0 amL am Hf0 H0 HfL Hf H σ Dn} f0 w s P => P .non am Hf H f0 w .non
  | ite c a b iha ihb =>
    intro hK W ρ st am0 amL am Hf0 H0 HfL Hf H σ Dn f0 w s P
    refine (den c).t w s (PostS.thn_ (R := RB) P f0 s fun k k' st1 am1 Hf1 H1 f1 g1 w1 e P1 => ?_)
    subst e
    cases k with
    | true =>
      rw [if_pos rfl] at P1 ⊢
      exact iha (fun f h => hK f (List.mem_append_left _ h)) f1 w1 (s.next g1) P1
    | false =>
      rw [if_neg Bool.false_ne_true] at P1 ⊢
      exact ihb (fun f h => hK f (List.mem_append_right _ h)) f1 w1 (s.next g1) P1
  | for_ j src b ihb =>
    intro hK W ρ st am0 amL am Hf0 H0 HfL Hf H σ Dn f0 w s P
    show tE K (spOf K cl C) W src σ H _
    refine (den src).v w s (PostS.thn_ P f0 s fun v d st1 am1 Hf1 H1 f1 g1 w1 r1 P1 => ?_)
    obtain ⟨ds, hd, P2⟩ := P1.liftB
    exact itemsR (R := ForR (gName j) (tS K (spOf K cl C) W b) Dn σ) w1 r1 hd fun J G Y wk hz hY hG => for_gen (ihb hK) wk rfl f1 w1 (s.next g1) hY hG P2
  | forr j a b ihb =>
    intro hK W ρ st am0 amL am Hf0 H0 HfL Hf H σ Dn f0 w s P
    show tA K (spOf K cl C) W a σ H _
    refine (den a).vs w s (PostS.thn_ (R := RVs K) P f0 s fun v d st1 am1 Hf1 H1 f1 g1 w1 r1 P1 => ?_)
    obtain ⟨ds, hd, P2⟩ := P1.liftB
    exact range_den (R := ForR (gName j) (tS K (spOf K cl C) W b) Dn σ) (st := st1) r1 hd fun J G Y wk hY hG => for_gen (ihb hK) wk rfl f1 w1 (s.next g1) hY (fun H' _ => hG H') P2
  | whl c b ihb =>
    intro hK W ρ st am0 amL am Hf0 H0 HfL Hf H σ Dn f0 w s P
    exact whl_den (ihb hK) Wn f0 w s P
  | unp is e =>
    intro hK W ρ st am0 amL am Hf0 H0 HfL Hf H σ Dn f0 w s P
    refine (den e).v w s (PostS.thn_ P f0 s fun v d st1 am1 Hf1 H1 f1 g1 w1 r1 P1 => ?_)
    obtain ⟨ds, hd, P2⟩ := P1.liftB
    obtain ⟨ρ', hρ, P3⟩ := P2.liftB
    have hde : d = .tup ds := by
      unfold tupD at hd
      split at hd
      · cases hd; rfl
      · cases hd
    subst hde
    obtain ⟨a, vs, rfl, ht, rv, hz⟩ := r1.vTup
    obtain ⟨h1, h2⟩ := unp_den (Q := Dn.nx) w1 (s.next g1) rv hρ fun σ' s' => P3 σ' am1 Hf1 H1 f1 w1 s'
    exact ⟨a, vs, rfl, Same.seqT w1.sub ht, h1, h2⟩
  | rse c fs a =>
    intro hK W ρ st am0 amL am Hf0 H0 HfL Hf H σ Dn f0 w s P
    refine (den a).vs w s (PostS.thn_ (R := RVs K) P f0 s fun vs xs st1 am1 Hf1 H1 f1 g1 w1 r1 P1 => ?_)
    split at P1
    · rename_i hl
      obtain ⟨hl, h0, hm⟩ := hl
      refine ⟨by rw [r1.length, hl]; exact hm, fun a na => ⟨a, vs, by rw [List.append_nil], by rw [r1.length]; exact hl, h0, upd_same, fun dx ndx nda => ⟨rfl, dx, (fs.zip vs).reverse, upd_same, by rw [upd_ne nda, upd_same], by rw [upd_ne nda] at ndx; exact ndx, ?_⟩⟩⟩
      rw [upd_ne nda] at ndx
      have eH : upd (L2.del (upd (upd (upd H1 a (exo a (He.ga K c) none)) dx (exd dx (fs.zip vs).reverse)) a (exo a (He.ga K c) (some dx))) a) dx (.xd (fs.zip vs).reverse) = upd H1 dx (.xd (fs.zip vs).reverse) := by
        funext b
        by_cases hb : b = dx
        · subst hb; rw [upd_same, upd_same]
        · rw [upd_ne hb, upd_ne hb]
          unfold L2.del
          by_cases hba : b = a
          · rw [if_pos hba, hba, na]
          · rw [if_neg hba, upd_ne hba, upd_ne hb, upd_ne hba]
      rw [eH]
      have fn := Fm.new (am := am1) (o := .xd (fs.zip vs).reverse) w1.sub ndx
      refine P1 σ _ (some dx) am1 (upd Hf1 dx (.xd (fs.zip vs).reverse)) _ (f1.trans fn) (w1.new ndx) ((s.next g1).next fn) ⟨rfl, .inr ⟨dx, _, rfl, upd_same, ?_, ?_⟩⟩
      · show ((fs.zip vs).reverse).map (·.1) = ((fs.zip xs).reverse).map (·.1)
        rw [List.map_reverse, List.map_reverse, List.map_fst_zip (by rw [r1.length, hl]; exact Nat.le_refl _), List.map_fst_zip (by rw [hl]; exact Nat.le_refl _)]
      · show RepL K am1 _ (((fs.zip vs).reverse).map (·.2)) (((fs.zip xs).reverse).map (·.2))
        rw [List.map_reverse, List.map_reverse, List.map_snd_zip (by rw [r1.length, hl]; exact Nat.le_refl _), List.map_snd_zip (by rw [hl]; exact Nat.le_refl _)]
        exact (r1.mono fn.pre fn.hf).reverse
    · exact P1.elim
  | tryas b cs c i h ihb =>
    intro hK W ρ st am0 amL am Hf0 H0 HfL Hf H σ Dn f0 w s P
    have hb : ∀ f ∈ fcS b, f.ok K = true := fun f h => hK f (List.mem_append_left _ h)
    have P : PostS K cl ((ex C Wn b ρ st).bind fun fl st => match fl with
      | .rse x ρ => match cs.lookup x.c with
        | some true => if i < ρ.length then (evH i x h (ρ.set i .un) st).nox.bind fun d st => .ok (.ret d) st else .bad
        | some false => .ok (.rse x ρ) st
        | none => .bad
      | fl => .ok fl st) am0 Hf0 H0 amL HfL Dn W := P
    refine bindFl P fun fl st1 e P1 => ?_
    refine ihb hb (W := wAs K (.ref (He.ga K c)) i (fun a cls d => tSeq (tRet (tH K ⟨a, cls, d⟩ h)) tNext) W Dn) f0 w s ?_
    rw [e]
    cases fl with
    | next ρ1 => exact P1
    | cnt ρ3 => exact P1
    | brk ρ3 => exact P1
    | ret d3 => exact P1
    | rse x ρ1 =>
      intro σ1 c1 dd am1 Hf1 H1 f1 w1 s1 xo
      have P1 : PostS K cl (match cs.lookup x.c with
        | some true => if i < ρ1.length then (evH i x h (ρ1.set i .un) st1).nox.bind fun d st => .ok (.ret d) st else .bad
        | some false => .ok (.rse x ρ1) st1
        | none => .bad) am0 Hf0 H0 amL HfL Dn W := P1
      cases hl : cs.lookup x.c with
      | none => rw [hl] at P1; exact P1.elim
      | some b0 =>
        have hm : (x.c, b0) ∈ cs := PySem.mem_of_lookup hl
        have hf := He.exm_ok (hK (.exm x.c c b0) (List.mem_append_right _ (List.mem_map.mpr ⟨_, hm, rfl⟩)))
        rw [hl] at P1
        refine ⟨b0, by rw [xo.1]; exact hf, fun hb1 a na => ?_, fun hb1 => ?_⟩
        · subst hb1
          have P1 : PostS K cl (if i < ρ1.length then (evH i x h (ρ1.set i .un) st1).nox.bind fun d st => .ok (.ret d) st else .bad) am0 Hf0 H0 amL HfL Dn W := P1
          split at P1
          · rename_i hi
            refine (denH (cl := cl) (k := i) (ee := x) (hx := ⟨a, c1, dd⟩) h).v w1 (s1.drop i (some (.ref a))) ?_ xo ?_
            · rw [List.getElem?_set_self (by rw [← s1.len]; exact hi)]
            · cases hh : evH i x h (ρ1.set i .un) st1 with
              | ok d st2 =>
                rw [hh] at P1
                exact fun v am2 Hf2 H2 f2 w2 r2 => P1 v am2 Hf2 H2 (f1.trans f2) w2 r2
              | exc _ _ => rw [hh] at P1; exact P1.elim
              | bad => rw [hh] at P1; exact P1.elim
          · exact P1.elim
        · subst hb1
          exact P1 σ1 c1 dd am1 Hf1 H1 f1 w1 s1 xo
  | brk => exact fun _ {W ρ st am0 amL am Hf0 H0 HfL Hf H σ Dn} f0 w s P => P σ am Hf H f0 w s
  | cnt => exact fun _ {W ρ st am0 amL am Hf0 H0 HfL Hf H σ Dn} f0 w s P => P σ am Hf H f0 w s
end
end PF
/-! The compact text is the given one's: a check, and what it gives. -/
namespace PF
open PySem L2 PySem.Spec PyProof.Rows
def noStar : Expr → Bool
  | .Starred _ _ => false
  | _ => true
def plainBase : Expr → Bool
  | .Call (.Name _ _) [] [] _ => false
  | _ => true
def plainT : Expr → Bool
  | .UnaryOp .Not _ _ => false
  | .BoolOp _ _ _ => false
  | .IfExp _ _ _ _ => false
  | .Compare _ _ _ _ => false
  | _ => true
def notComp : Expr → Bool
  | .ListComp _ _ _ _ => false
  | .SetComp _ _ _ _ => false
  | .DictComp _ _ _ _ _ => false
  | _ => true
def notSet : Expr → Bool
  | .Set _ _ _ => false
  | _ => true
def notSlice : Expr → Bool
  | .Slice _ _ _ _ => false
  | _ => true
theorem starEach_cons {e : Expr} {es : List Expr} {env : PySem.Env} (h : noStar e = true) : starEach (e :: es) env = (false, eval e env) :: starEach es env := by
  cases e <;> first | (simp only [starEach]; done) | cases h
theorem starEach_plain {pos : Pos} {env : PySem.Env} : ∀ {es : List Expr}, es.all noStar = true → (backTo pos (starEach es env)).any (·.1) = false
  | [], _ => rfl
  | e :: es, h => by
    rw [List.all_cons, Bool.and_eq_true] at h
    rw [starEach_cons h.1]
    show (false || (backTo pos (starEach es env)).any (·.1)) = false
    rw [starEach_plain h.2]
    rfl
theorem base_plain {o : Expr} {attr : Str} {env : PySem.Env} {whole : Sem Value} (h : plainBase o = true) : attributeBase o attr env whole = whole := by
  unfold attributeBase
  split
  · cases h
  · rfl
theorem isTrue_plainT {e : Expr} {env : PySem.Env} (h : plainT e = true) : ∀ whole, isTrue e env whole = (do let v ← whole; standAt e.pos; holding [v] (truthy v)) := by
  intro whole
  cases e with
  | UnaryOp op x p => cases op <;> first | rfl | (simp only [PySem.isTrue]; done) | cases h
  | BoolOp _ _ _ => cases h
  | IfExp _ _ _ _ => cases h
  | Compare _ _ _ _ => cases h
  | _ => first | rfl | simp only [PySem.isTrue]
theorem swaps_plain {e : Expr} {t : Option Expr} {l : Nat} {env : PySem.Env} (h : notComp e = true) : swapsWith e t l env = pure false := by
  cases e <;> first | rfl | cases h
theorem set_plain {e : Expr} {env : PySem.Env} (h : notSet e = true) : ∀ x, foldedSetIterable e env x = pure x := by
  intro x
  cases e <;> first | rfl | cases h
theorem ix_plain {b : Expr} (h : notSlice b = true) : PlainIx b := by
  intro o i
  cases b <;> first | rfl | cases h
def visB (sc : Scope) (x : Str) : Bool := match sc.names.lookup x with
  | some .local => true
  | some .cell => true
  | some .free => true
  | _ => false
def locB (sc : Scope) (x : Str) : Bool := match sc.names.lookup x with
  | some .local => true
  | some .cell => true
  | _ => false
def glB (sc : Scope) (x : Str) : Bool := match sc.names.lookup x with
  | some .globalImplicit => true
  | _ => false
theorem visB_ok {sc : Scope} {x : Str} (h : visB sc x = true) : Vis sc x := by
  unfold visB at h
  unfold Vis
  split at h <;> simp_all
theorem locB_ok {sc : Scope} {x : Str} (h : locB sc x = true) : L2.Loc sc x := by
  unfold locB at h
  unfold L2.Loc
  split at h <;> simp_all
theorem glB_ok {X : Cx} {x : Str} (h : glB X.env.scope x = true) : Gl X x := by
  unfold glB at h
  show X.env.scope.names.lookup x = some .globalImplicit
  split at h
  · assumption
  · cases h
/-- the tables: the defs' names, the module's constants, the built-ins' names that stay -/
structure Tb where
  fn : List Str
  gc : List (Str × D)
  bl : List Str
  ex : List (Str × List Str) := []
def constB : Const → D → Bool
  | .none, .non => true
  | .bool a, .bl b => a == b
  | .int a, .int b => decide (a = b)
  | .str a, .str b => decide (unt a = b)
  | _, _ => false
def bopB : BOp → Operator → Bool
  | .add, .Add => true
  | .sub, .Sub => true
  | .mul, .Mult => true
  | .mod, .Mod => true
  | .fdiv, .FloorDiv => true
  | .pow, .Pow => true
  | _, _ => false
def copB : COp → CmpOp → Bool
  | .eq, .Eq => true
  | .ne, .NotEq => true
  | .lt, .Lt => true
  | .le, .LtE => true
  | .gt, .Gt => true
  | .ge, .GtE => true
  | .is, .Is => true
  | .isnot, .IsNot => true
  | .inn, .In => true
  | .notin, .NotIn => true
  | _, _ => false
def bfName : BF → Str
  | .len => "len" | .max2 => "max" | .min2 => "min" | .int => "int" | .str => "str" | .list => "list" | .tuple => "tuple" | .all => "all" | .any => "any" | .isi => "isinstance"
def bmName : BM → Str
  | .upper => "upper" | .lower => "lower" | .join => "join" | .count => "count" | .find => "find" | .items => "items" | .get => "get"
def strM : BM → Bool
  | .items => false
  | .get => false
  | _ => true
def gcB (T : Tb) (x : Str) (d : D) : Bool := match T.gc.lookup x, d with
  | some (.int a), .int b => decide (a = b)
  | some (.str a), .str b => decide (a = b)
  | some (.bl a), .bl b => decide (a = b)
  | _, _ => false
def nameOk (x : Str) : Bool := (x != "__debug__") && (x != "__classdict__") && (x != "__name__")
def chkO (n : Bool) (f : Expr → Bool) : Option Expr → Bool
  | none => n
  | some l => !n && f l
def chkI (n : Bool) (f : Expr → Bool) : List Expr → Bool
  | [] => n
  | [z] => !n && f z
  | _ => false
mutual
def chkE (T : Tb) (N : List Str) : E → Scope → Expr → Bool
  | .var i, sc, .Name x _ => decide (N[i]? = some x) && visB sc x && nameOk x
  | .bor i, sc, .Name x _ => decide (N[i]? = some x) && visB sc x && nameOk x
  | .cst d, _, .Constant c _ _ => constB c d
  | .glb y d, sc, .Name x _ => match d with
    | .ty n => decide (x = y) && glB sc x && nameOk x && T.bl.contains x && decide (bootBuiltins x = some (.type n))
    | d => decide (x = y) && glB sc x && nameOk x && gcB T x d
  | .bin o a b, sc, .BinOp x op y _ => bopB o op && chkE T N a sc x && chkE T N b sc y
  | .neg a, sc, .UnaryOp .USub x _ => chkE T N a sc x
  | .cmp o a b, sc, .Compare x [op] [y] _ => copB o op && !behindInMarks op y && chkE T N a sc x && chkE T N b sc y
  | .chn o p a b c, sc, .Compare x [op, op'] [y, z] _ => copB o op && copB p op' && !lastMarks [op, op'] [y, z] && chkE T N a sc x && chkE T N b sc y && chkE T N c sc z
  | .and a b, sc, .BoolOp .And (x :: ys) p => chkE T N a sc x && (match ys with | [] => false | [y] => chkE T N b sc y | ys => chkE T N b sc (.BoolOp .And ys p))
  | .or a b, sc, .BoolOp .Or (x :: ys) p => chkE T N a sc x && (match ys with | [] => false | [y] => chkE T N b sc y | ys => chkE T N b sc (.BoolOp .Or ys p))
  | .not a, sc, .UnaryOp .Not x _ => chkE T N a sc x
  | .ite c a b, sc, .IfExp z x y _ => chkT T N c sc z && chkE T N a sc x && chkE T N b sc y
  | .tup a, sc, .Tuple es _ _ => chkA T N a sc es
  | .lst a, sc, .List es _ => chkA T N a sc es
  | .new a, sc, .List es _ => chkA T N a sc es
  | .dsp a, sc, .Dict ks vs _ => !ks.isEmpty && decide (ks.length ≤ 15) && decide (ks.length = vs.length) && chkP T N a sc ks vs
  | .idx a b, sc, .Subscript x y _ => notSlice y && chkE T N a sc x && chkE T N b sc y
  | .slc a lo hi, sc, .Subscript x (.Slice l h none _) _ => chkE T N a sc x && chkO (isNil lo) (chkE T N lo sc) l && chkO (isNil hi) (chkE T N hi sc) h
  | .cb f a, sc, .Call (.Name x _) es [] _ => decide (x = bfName f) && glB sc x && T.bl.contains x && !es.isEmpty && chkA T N a sc es
  | .bm m o a, sc, .Call (.Attribute x name apos) es [] pos => decide (name = bmName m) && plainBase x && (apos.endLine == pos.line) && decide (es.length < 30) && (es.isEmpty == isNil a) && chkE T N o sc x && chkA T N a sc es && strM m
  | .call f a, sc, .Call (.Name x _) es [] _ => decide (T.fn[f]? = some x) && glB sc x && nameOk x && chkA T N a sc es
  | .fmt a, sc, .FormattedValue x c none _ => decide (c = -1) && chkE T N a sc x
  | .fst a, sc, .JoinedStr es _ => decide (2 ≤ es.length) && chkA T N a sc es
  | .lc j src c e, sc, .ListComp el [⟨.Name y _, it, ifs, 0⟩] scope _ => notSet it && blkC N sc scope [(y, j)] && locB scope y && chkE T N src sc it &&
      chkI (isNil c) (chkT T N c (relS scope sc)) ifs && chkE T N e (relS scope sc) el
  | .lcr j a c e, sc, .ListComp el [⟨.Name y _, .Call (.Name r _) es [] _, ifs, 0⟩] scope _ => decide (r = "range") && glB sc r && T.bl.contains r && !es.isEmpty && blkC N sc scope [(y, j)] && locB scope y && chkA T N a sc es &&
      chkI (isNil c) (chkT T N c (relS scope sc)) ifs && chkE T N e (relS scope sc) el
  | _, _, _ => false
def chkA (T : Tb) (N : List Str) : E → Scope → List Expr → Bool
  | .nil, _, [] => true
  | .cons a b, sc, x :: xs => noStar x && chkE T N a sc x && chkA T N b sc xs
  | _, _, _ => false
def chkP (T : Tb) (N : List Str) : E → Scope → List (Option Expr) → List Expr → Bool
  | .nil, _, [], [] => true
  | .con2 k v r, sc, some x :: xs, y :: ys => chkE T N k sc x && chkE T N v sc y && chkP T N r sc xs ys
  | _, _, _, _ => false
def chkT (T : Tb) (N : List Str) : E → Scope → Expr → Bool
  | .and a b, sc, .BoolOp .And (x :: ys) p => chkT T N a sc x && (match ys with | [] => false | [y] => chkT T N b sc y | ys => chkT T N b sc (.BoolOp .And ys p))
  | .or a b, sc, .BoolOp .Or (x :: ys) p => chkT T N a sc x && (match ys with | [] => false | [y] => chkT T N b sc y | ys => chkT T N b sc (.BoolOp .Or ys p))
  | .not a, sc, .UnaryOp .Not x _ => chkT T N a sc x
  | .tst a, sc, x => plainT x && chkE T N a sc x
  | .tcm o a b, sc, .Compare x [op] [y] _ => copB o op && !behindInMarks op y && chkE T N a sc x && chkE T N b sc y
  | .tch o p a b c, sc, .Compare x [op, op'] [y, z] _ => copB o op && copB p op' && !lastMarks [op, op'] [y, z] && chkE T N a sc x && chkE T N b sc y && chkE T N c sc z
  | _, _, _ => false
end
-- an except suite's expression; slot k: the error, of class c0
mutual
def chkH (T : Tb) (N : List Str) (k : Nat) (c0 : Str) : E → Scope → Expr → Bool
  | .var i, sc, .Name x _ => decide (N[i]? = some x) && visB sc x && nameOk x
  | .cst d, _, .Constant c _ _ => constB c d
  | .exf c f i, sc, .Attribute (.Name x _) f' _ => decide (i = k) && decide (c = c0) && decide (f = f') && decide (N[i]? = some x) && visB sc x && nameOk x && (match T.ex.lookup c with | some fs => fs.contains f | none => false)
  | .cmp o a b, sc, .Compare x [op] [y] _ => isOp o && copB o op && !behindInMarks op y && chkH T N k c0 a sc x && chkH T N k c0 b sc y
  | .tup a, sc, .Tuple es _ _ => chkHs T N k c0 a sc es
  | .lst a, sc, .List es _ => chkHs T N k c0 a sc es
  | _, _, _ => false
def chkHs (T : Tb) (N : List Str) (k : Nat) (c0 : Str) : E → Scope → List Expr → Bool
  | .nil, _, [] => true
  | .cons a b, sc, x :: xs => noStar x && chkH T N k c0 a sc x && chkHs T N k c0 b sc xs
  | _, _, _ => false
end
end PF
namespace PF
open PySem L2 PySem.Spec PyProof.Rows
/-- the written part's facts of an error class -/
structure ExF (P : Program) (w : World) (K : PySem.W.Frag) (mg : Str → Option Value) (base : Heap) (c : Str) (fs : List Str) : Prop where
  mgc : mg c = some (.ref (He.ga K c))
  ox : OexC K (He.ga K c)
  xf : XfC K (He.ga K c)
  no : ∀ f ∈ fs, PySem.W.findIn K (.ref (He.ga K c)) f = some none
  ini : ∃ (fI : Addr) (fd : FuncData), PySem.W.findIn K (.ref (He.ga K c)) "__init__" = some (some (.ref fI)) ∧ PySem.W.typeIn K (.ref fI) = some (.type "function") ∧ FnOk P w K mg base CX0 1 fI fd ("self" :: fs) (spXI K c fs) ∧ Binds K fd ("self" :: fs) []
/-- where a text stands: what is around it is as the tables say -/
structure Good (T : Tb) (F : Nat → Sp) (k : Nat) (X : Cx) (W : WX) : Prop where
  calm : X.calm = true
  nd : X.N.Nodup
  room : Room k X.A
  tk : Takes X W
  fns : ∀ (f : Nat) (x : Str), T.fn[f]? = some x → ∃ (a : Addr) (fd : FuncData) (ps : List Str), X.mg x = some (.ref a) ∧ PySem.W.keepIn X.K (.ref a) = true ∧ FnOk X.prog X.w X.K X.mg X.base (L2.CX X.prog X.w) k a fd ps (F f) ∧ Binds X.K fd ps []
  gcs : ∀ (x : Str) (d : D), T.gc.lookup x = some d → ∃ u, X.mg x = some u ∧ RelV (vf d) u
  bls : ∀ x : Str, T.bl.contains x = true → X.mg x = none
  exs : ∀ (c : Str) (fs : List Str), T.ex.lookup c = some fs → ExF X.prog X.w X.K X.mg X.base c fs
theorem Good.blk {T : Tb} {F : Nat → Sp} {k : Nat} {X : Cx} {W : WX} (g : Good T F k X W) (s : Shared) (H : Hp) (scope : Scope) (env : PySem.Env) (fp : List Addr) : Good T F k (X.blk s H scope env fp) W0 :=
  ⟨g.calm, g.nd, g.room, takes0, g.fns, g.gcs, g.bls, g.exs⟩
section
variable {X : Cx}
theorem op_mulS : OpR X (binaryOp .Mult) rMulS := by
  intro pins s σ H x y v u Q I rx ry h
  obtain ⟨a, n, rfl, rfl, h1, h2, h3, h5, q⟩ := h
  obtain ⟨t, rfl⟩ := rx
  obtain ⟨t', rfl⟩ := ry
  have hz : sizeLine = 16777216 := sizeLine_eq
  have hn : n.toNat ≤ 16777216 := by
    rw [hz] at h3
    exact Nat.le_trans (Nat.le_mul_of_pos_left _ h2) h3
  refine P.mul_str ?_ (fun _ _ => ?_) (fun _ _ => ?_) ?_
  · simp; omega
  · have hm : (a.length : Int) * n ≤ 16777216 := by
      rw [hz] at h3
      have e : (n.toNat : Int) = n := by omega
      have h4 : ((a.length * n.toNat : Nat) : Int) ≤ ((16777216 : Nat) : Int) := Int.ofNat_le.mpr h3
      rw [Int.natCast_mul, e] at h4
      exact h4
    have := (Int.le_ediv_iff_mul_le (c := n) (a := (a.length : Int)) (b := 2 ^ 63 - 1) (by omega)).mpr (by omega)
    omega
  · show decide _ = false
    exact decide_eq_false (by omega)
  · rw [if_neg (by omega), if_neg (by simp; omega)]
    simp only [Made.post]
    exact ⟨h5, .str _, H, I.kept (fun b u e => e), ⟨_, rfl⟩, q⟩
theorem op_bin (o : BOp) {op : Operator} (h : bopB o op = true) : OpR X (binaryOp op) (rBin o) := by
  cases o <;> cases op <;> first | cases h | skip
  · exact OpR.or op_add (OpR.or op_add_str op_cat)
  · exact op_sub
  · exact OpR.or op_mul op_mulS
  · exact op_mod
  · exact op_fdiv
  · exact op_pow
theorem vals_len : ∀ {vs : List V} {us : List Value}, Vals vs us → vs.length = us.length
  | _, _, .nil => rfl
  | _, _, .cons _ r => by rw [List.length_cons, List.length_cons, vals_len r]
theorem op_eqLen (hu : X.A.units < cLine) : OpR X (compareOp .Eq) (rLen X.K false) := by
  intro pins s σ H x y v u Q I rx ry h
  obtain ⟨a, b, xs, ys, rfl, rfl, ha, hb, hn, q⟩ := h
  obtain rfl : v = Value.ref a := rx
  obtain rfl : u = Value.ref b := ry
  obtain ⟨its, r1, pl, _⟩ := I.list ha
  obtain ⟨its2, r2, pl2, _⟩ := I.list hb
  refine SeqAt.RcAt.lists_lengths pl.isList pl2.isList ?_ hu _ _ _ _ ⟨.bl false, H, I, rfl, q⟩
  rw [bne_iff_ne]
  rw [vals_len r1, vals_len r2] at hn
  exact hn
theorem op_neLen (hu : X.A.units < cLine) : OpR X (compareOp .NotEq) (rLen X.K true) := by
  intro pins s σ H x y v u Q I rx ry h
  obtain ⟨a, b, xs, ys, rfl, rfl, ha, hb, hn, q⟩ := h
  obtain rfl : v = Value.ref a := rx
  obtain rfl : u = Value.ref b := ry
  obtain ⟨its, r1, pl, _⟩ := I.list ha
  obtain ⟨its2, r2, pl2, _⟩ := I.list hb
  refine SeqAt.RcNeAt.lists_lengths pl.isList pl2.isList ?_ hu _ _ _ _ ⟨.bl true, H, I, rfl, q⟩
  rw [bne_iff_ne]
  rw [vals_len r1, vals_len r2] at hn
  exact hn
theorem op_cmp {k : Nat} (hr : Room k X.A) (o : COp) {op : CmpOp} (h : copB o op = true) : OpR X (compareOp op) (rCmp X.K o) := by
  have hu : X.A.units + 65 < cLine := by have := hr.un; omega
  cases o <;> cases op <;> first | cases h | skip
  · exact OpR.or op_eq (OpR.or (op_eqD hr.units) (op_eqLen (by have := hr.un; omega)))
  · exact OpR.or op_ne (OpR.or (op_neD hr.units) (op_neLen (by have := hr.un; omega)))
  · exact op_lt
  · exact op_le
  · exact op_gt
  · exact op_ge
  · exact OpR.or op_isN op_isBl
  · exact OpR.or op_notN op_notBl
  · exact OpR.or op_in_sign (OpR.or op_in_str (OpR.or (op_inD hu) op_in_seq))
  · exact OpR.or op_notIn_sign (OpR.or op_notIn_str (OpR.or (op_notInD hu) op_notIn_seq))
/-- an iterator that is one new object -/
theorem it_new {pins : List (Addr × Obj)} {σ : L2.St} {H1 : Hp} {s1 : Shared} {tg : Expr} {J : It} {o : Obj} {tn : Nat → Heap → Prop} {R : It → Hp → Prop} (I1 : Inv X pins σ H1 s1)
    (tr : Turn X.prog X.w X.K tg J [s1.heap.objs.size] s1.heap.objs.size tn) (h0 : tn 0 (s1.heap.push o)) (q : R J H1) : PIE X pins σ tg R (.ref s1.heap.objs.size) { s1 with heap := s1.heap.push o } := by
  have I2 : Inv X pins σ H1 { s1 with heap := s1.heap.push o, toks := s1.toks } := I1.kept fun b u e => Heap.get?_push_of_some _ e
  refine ⟨_, _, _, _, H1, rfl, I2, tr, h0, fun b hb => ?_, q⟩
  rw [List.mem_singleton] at hb
  rw [hb]
  exact I1.fpOk (Nat.le_refl _) (I1.hok.fresh (Nat.le_refl _))
theorem PI.any {tg it : Expr} {te : TE} (h : PE X it te) : PI X tg it (iAny X.K te) := by
  refine ⟨fun pins s σ H R I hw => thn (h.run pins s σ H _ I hw) fun v s1 ⟨x, H1, I1, r1, q1⟩ => ?_⟩
  rcases q1 with ⟨a, rfl, ⟨xs, hq⟩, q⟩ | ⟨a, rfl, ⟨xs, hq⟩, q⟩ | ⟨z, rfl, q⟩
  · obtain rfl : v = Value.ref a := r1
    obtain ⟨its, _, pl, _⟩ := I1.list hq
    exact wpAny_pyIter_list pl.isList (it_new I1 (turn_list a _) ⟨_, Heap.get?_push_size _ rfl, rfl, rfl⟩ q)
  · obtain rfl : v = Value.ref a := r1
    obtain ⟨its, _, pl, _⟩ := I1.tuple hq
    exact wpAny_pyIter_tuple (show s1.heap.IsTuple a its.toArray from pl) (it_new I1 (turn_tuple a _) ⟨_, Heap.get?_push_size _ rfl, rfl, rfl⟩ q)
  · obtain ⟨t, rfl⟩ := r1
    by_cases ha : z.cps.all (· < 128) = true
    · exact wpAny_pyIter_ascii ha (it_new I1 (turn_str _ z t "str_ascii_iterator" (.inl rfl)) ⟨_, Heap.get?_push_size _ rfl, rfl, rfl⟩ q)
    · rw [Bool.not_eq_true] at ha
      exact wpAny_pyIter_wide ha (it_new I1 (turn_str _ z t "str_iterator" (.inr rfl)) ⟨_, Heap.get?_push_size _ rfl, rfl, rfl⟩ q)
theorem PI.rng {tg e : Expr} {es : List Expr} {ta : TA} {p pos : Pos} (hg : Gl X "range") (hm : X.mg "range" = none) (ha : PA X (e :: es) ta) (h1 : noStar e = true) (h2 : es.all noStar = true) : PI X tg (.Call (.Name "range" p) (e :: es) [] pos) (iRng ta) := by
  refine ⟨fun pins s σ H R I h => Call_ (ld_blt I hg hm boot_range (PyProof.Rows.callWith_type1 (thn (ha.run pos pins s σ H _ I h) fun us s1 ⟨vs, H1, I1, r1, q1⟩ => ?_) (starEach_cons h1) (starEach_plain h2)))⟩
  rcases q1 with ⟨n, rfl, b1, b2, q⟩ | ⟨m, n, rfl, ⟨b1, b2, b3, b4⟩, q⟩
  · obtain ⟨u, rfl, t, rfl⟩ := vals1 r1
    exact call_range_1 (range_it I1 (by omega) (by omega) b1 b2 (by simpa using q))
  · obtain ⟨u, u', rfl, ⟨t, rfl⟩, ⟨t', rfl⟩⟩ := vals2 r1
    exact call_range_2 (range_it I1 b1 b2 b3 b4 q)
theorem pt_pw {op : BoolOp} {vs : List Expr} {pos : Pos} {t : TT} (h : PT X (.BoolOp op vs pos) t) : PW X (.BoolOp op vs pos) t := ⟨fun whole pins s σ H Q I q => by
  have := h.run pins s σ H Q I q
  have e : ∀ w, isTrue (.BoolOp op vs pos) X.env w = allTrue op vs X.env := fun w => by simp only [PySem.isTrue]
  rw [e] at this ⊢
  exact this⟩
end
end PF
namespace PF
open PySem L2 PySem.Spec PyProof.Rows
theorem bB {x : Str} {v : Value} (h : bootBuiltins x = some v) : bootBuiltins x = some v := h
section
variable {X : Cx}
theorem pe_bf {T : Tb} {F : Nat → Sp} {k : Nat} {W : WX} (g : Good T F k X W) (f : BF) {e : Expr} {es : List Expr} {t : TA} {p pos : Pos} (hg : Gl X (bfName f)) (hb : T.bl.contains (bfName f) = true) (ha : PA X (e :: es) t) (h1 : noStar e = true) (h2 : es.all noStar = true) :
    PE X (.Call (.Name (bfName f) p) (e :: es) [] pos) (tCB (rBF X.K f) t) := by
  have hm := g.bls _ hb
  have s1 := starEach_cons (es := es) (env := X.env) h1
  have s2 := starEach_plain (pos := pos) (env := X.env) h2
  cases f with
  | len => exact pe_callB call_len hg hm boot_len ha (he := s1) (hpl := s2)
  | max2 => exact pe_callB (call_max2 g.calm) hg hm (by decide +kernel) ha (he := s1) (hpl := s2)
  | min2 => exact pe_callB (call_min2 g.calm) hg hm (by decide +kernel) ha (he := s1) (hpl := s2)
  | int => exact pe_callTy (CallR.or call_int1 call_int_str) hg hm boot_int ha (he := s1) (hpl := s2)
  | str => exact pe_callTy call_str_int hg hm boot_str ha (he := s1) (hpl := s2)
  | list => exact pe_callTy call_list_of hg hm boot_list ha (he := s1) (hpl := s2)
  | tuple => exact pe_callTy call_tuple_of hg hm boot_tuple ha (he := s1) (hpl := s2)
  | all => exact pe_callB (cr_all g.calm) hg hm (by decide +kernel) ha (he := s1) (hpl := s2)
  | any => exact pe_callB (cr_any g.calm) hg hm (by decide +kernel) ha (he := s1) (hpl := s2)
  | isi => exact pe_callB call_isi hg hm (by decide +kernel) ha (he := s1) (hpl := s2)
theorem few_ok {env : PySem.Env} {cpos : Pos} {e : Expr} {es : List Expr} (h1 : noStar e = true) (h2 : es.all noStar = true) (hl : (e :: es).length < 30) :
    ((backTo cpos (starEach (e :: es) env)).all (fun x => !x.1) && (backToKw cpos (keywordEach [] env)).all (fun x => x.1.isSome)
      && decide ((e :: es).length + ([] : List Keyword).length + (if ([] : List Keyword).isEmpty then 0 else 1) < 30)) = true := by
  have a : (backTo cpos (starEach (e :: es) env)).any (·.1) = false := starEach_plain (by rw [List.all_cons, h1, h2]; rfl)
  have b : (backTo cpos (starEach (e :: es) env)).all (fun x => !x.1) = true := by
    rw [List.all_eq_not_any_not]
    simpa using a
  rw [b]
  have c : (backToKw cpos (keywordEach [] env)).all (fun x => x.1.isSome) = true := rfl
  rw [c, Bool.and_self, Bool.true_and]
  exact decide_eq_true (by simpa using hl)
theorem pe_bms (m : BM) {o e : Expr} {es : List Expr} {to : TE} {t : TA} {apos pos : Pos} (hm : bmTy m = "str") (ho : PE X o to) (ha : PA X (e :: es) t) (hb : plainBase o = true) (hl : (apos.endLine == pos.line) = true) (hn : (e :: es).length < 30) (h1 : noStar e = true) (h2 : es.all noStar = true) :
    PE X (.Call (.Attribute o (bmName m) apos) (e :: es) [] pos) (tBM X.K (bmTy m) (rBM X.K m) to t) := by
  have s1 := starEach_cons (es := es) (env := X.env) h1
  have s2 := starEach_plain (pos := pos) (env := X.env) h2
  have fw := few_ok (env := X.env) (cpos := pos) h1 h2 hn
  cases m with
  | upper => exact pe_bm PySem.F.plainAttrs_str PySem.F.slot_str_upper PySem.F.type_str_upper mt_upper ho ha (base_plain hb) fw hl s1 s2
  | lower => exact pe_bm PySem.F.plainAttrs_str PySem.F.slot_str_lower PySem.F.type_str_lower mt_lower ho ha (base_plain hb) fw hl s1 s2
  | join => exact pe_bm PySem.F.plainAttrs_str PySem.F.slot_str_join PySem.F.type_str_join mt_join ho ha (base_plain hb) fw hl s1 s2
  | count => exact pe_bm PySem.F.plainAttrs_str PySem.F.slot_str_count PySem.F.type_str_count mt_count ho ha (base_plain hb) fw hl s1 s2
  | find => exact pe_bm PySem.F.plainAttrs_str PySem.F.slot_str_find PySem.F.type_str_find (MtR.or mt_find mt_find3) ho ha (base_plain hb) fw hl s1 s2
  | items => exact absurd hm (by decide)
  | get => exact absurd hm (by decide)
theorem pe_bms0 (m : BM) {o : Expr} {to : TE} {apos pos : Pos} (hm : bmTy m = "str") (ho : PE X o to) (hb : plainBase o = true) (hl : (apos.endLine == pos.line) = true) :
    PE X (.Call (.Attribute o (bmName m) apos) [] [] pos) (tBM0 X.K (bmTy m) (rBM X.K m) to) := by
  cases m with
  | upper => exact pe_bm0 PySem.F.plainAttrs_str PySem.F.slot_str_upper PySem.F.type_str_upper mt_upper ho (base_plain hb) hl
  | lower => exact pe_bm0 PySem.F.plainAttrs_str PySem.F.slot_str_lower PySem.F.type_str_lower mt_lower ho (base_plain hb) hl
  | join => exact pe_bm0 PySem.F.plainAttrs_str PySem.F.slot_str_join PySem.F.type_str_join mt_join ho (base_plain hb) hl
  | count => exact pe_bm0 PySem.F.plainAttrs_str PySem.F.slot_str_count PySem.F.type_str_count mt_count ho (base_plain hb) hl
  | find => exact pe_bm0 PySem.F.plainAttrs_str PySem.F.slot_str_find PySem.F.type_str_find (MtR.or mt_find mt_find3) ho (base_plain hb) hl
  | items => exact absurd hm (by decide)
  | get => exact absurd hm (by decide)
theorem const_ok {c : Const} {d : D} {k : Nat} {pos : Pos} (h : constB c d = true) : PE X (.Constant c k pos) (tC (vf d)) := by
  unfold constB at h
  split at h
  · exact pe_non
  · rw [beq_iff_eq] at h
    subst h
    exact pe_bl
  · have := of_decide_eq_true h
    subst this
    exact pe_int
  · rename_i a b
    have := of_decide_eq_true h
    have e : tx b = a := by rw [← this, tx_unt]
    show PE X _ (tC (.str (tx b)))
    rw [e]
    exact pe_str
  · cases h
theorem args_star {T : Tb} {N : List Str} {sc : Scope} : ∀ {ce : E} {es : List Expr}, chkA T N ce sc es = true → es.all noStar = true := by
  intro ce
  induction ce with
  | nil =>
    intro es h
    cases es with
    | nil => rfl
    | cons _ _ => cases h
  | cons a b _ ihb =>
    intro es h
    cases es with
    | nil => cases h
    | cons x xs =>
      have h : (noStar x && chkE T N a sc x && chkA T N b sc xs) = true := h
      rw [Bool.and_eq_true, Bool.and_eq_true] at h
      rw [List.all_cons, h.1.1, ihb h.2]
      rfl
  | _ =>
    intro es h
    cases h
theorem gcB_ok {T : Tb} {x : Str} {d : D} (h : gcB T x d = true) : T.gc.lookup x = some d := by
  unfold gcB at h
  cases e : T.gc.lookup x with
  | none => rw [e] at h; cases h
  | some y =>
    rw [e] at h
    cases y <;> cases d <;> first | cases h | (have q := of_decide_eq_true h; subst q; rfl)
theorem nameOk1 {x : Str} (h : nameOk x = true) : (x == ("__debug__" : Str)) = false ∧ (x == ("__classdict__" : Str)) = false ∧ x ≠ "__name__" := by
  unfold nameOk at h
  simp only [Bool.and_eq_true, bne_iff_ne] at h
  exact ⟨beq_eq_false_iff_ne.mpr h.1.1, beq_eq_false_iff_ne.mpr h.1.2, h.2⟩
end
structure PAll (T : Tb) (F : Nat → Sp) (k : Nat) (ce : E) : Prop where
  e : ∀ {X : Cx} {W : WX} {sc : Scope} {e : Expr}, Good T F k X W → X.env.scope = sc → chkE T X.N ce sc e = true → PE X e (tE X.K F W ce)
  a : ∀ {X : Cx} {W : WX} {sc : Scope} {es : List Expr}, Good T F k X W → X.env.scope = sc → chkA T X.N ce sc es = true → PA X es (tA X.K F W ce)
  p : ∀ {X : Cx} {W : WX} {sc : Scope} {pos : Pos} {ks : List (Option Expr)} {vs : List Expr}, Good T F k X W → X.env.scope = sc → chkP T X.N ce sc ks vs = true → PPs X pos ks vs (tP X.K F W ce) ∧ ks.all (·.isSome) = true
  t : ∀ {X : Cx} {W : WX} {sc : Scope} {e : Expr}, Good T F k X W → X.env.scope = sc → chkT T X.N ce sc e = true → PT X e (tT X.K F W ce)
  j : ∀ {X : Cx} {W : WX} {sc : Scope} {es : List Expr}, Good T F k X W → X.env.scope = sc → chkA T X.N ce sc es = true → PJ X es (tJ X.K F W ce)
end PF
namespace PF
open PySem L2 PySem.Spec PyProof.Rows
section
variable {T : Tb} {F : Nat → Sp} {k : Nat}
theorem and4 {a b : Bool} (h : (a && b) = true) : a = true ∧ b = true := by rwa [Bool.and_eq_true] at h
/-- a comprehension's parts in its block -/
theorem lc_parts {X : Cx} {W : WX} {j : Nat} {c e : E} {el : Expr} {ifs : List Expr} {y : Str} {py : Pos} {scope : Scope} (g : Good T F k X W) (ihc : PAll T F k c) (ihe : PAll T F k e) (hb : blkC X.N X.env.scope scope [(y, j)] = true) (hy : locB scope y = true)
    (hi : chkI (isNil c) (chkT T X.N c (relS scope X.env.scope)) ifs = true) (he : chkE T X.N e (relS scope X.env.scope) el = true) :
    (∀ (s : Shared) (H : Hp) (C : Addr) (cl : List (Str × Addr)) (fp : List Addr), PG (X.blk s H scope (compEnvC scope cl C X.env) fp) (.Name y py) (gName j)) ∧
    (∀ (s : Shared) (H : Hp) (C : Addr) (cl : List (Str × Addr)) (fp : List Addr), PTs (X.blk s H scope (compEnvC scope cl C X.env) fp) ifs (if isNil c then tYes else tT X.K F W0 c)) ∧
    (∀ (s : Shared) (H : Hp) (C : Addr) (cl : List (Str × Addr)) (fp : List Addr), PE (X.blk s H scope (compEnvC scope cl C X.env) fp) el (tE X.K F W0 e)) := by
  have bo := blkOk_by hb
  refine ⟨fun s H C cl fp => ?_, fun s H C cl fp => ?_, fun s H C cl fp => ?_⟩
  · have hl : L2.Loc scope y := locB_ok hy
    have hr : L2.Loc (relS scope X.env.scope) y := by
      rcases hl with h | h
      · exact .inl (lookup_relS_keep (by decide) h)
      · exact .inr (lookup_relS_keep (by decide) h)
    refine pg_name g.nd (bo.ix (y, j) (List.mem_singleton.mpr rfl)) hr ?_
    rcases hl with h | h
    · exact .inr (lookup_relS_keep (by decide) h)
    · refine .inl ?_
      show (scope.names.lookup y == some NameKind.cell) = true
      rw [h]
      rfl
  · match ifs, hi with
    | [], hi =>
      have hi : isNil c = true := hi
      rw [if_pos hi]
      exact pts_nil
    | [z], hi =>
      have hi := and4 hi
      rw [if_neg (by simpa using hi.1)]
      exact pts_one (ihc.t (X := X.blk s H scope (compEnvC scope cl C X.env) fp) (g.blk s H scope _ fp) rfl hi.2)
    | _ :: _ :: _, hi => cases hi
  · exact ihe.e (X := X.blk s H scope (compEnvC scope cl C X.env) fp) (g.blk s H scope _ fp) rfl he
theorem pe_callSD0 {X : Cx} {CX : CXT} {k : Nat} {f : Addr} {fd : FuncData} {ps : List Str} {sp : Sp} {dvs : List V} {ds : List Value} {E : L2.St → XK} {x : Str} {p pos : Pos} (G : FnOk X.prog X.w X.K X.mg X.base CX k f fd ps sp) (hr : Room k X.A) (hg : Gl X x) (hm : X.mg x = some (.ref f)) (hk : PySem.W.keepIn X.K (.ref f) = true) (hb : Binds X.K fd ps ds) (hd : Vals dvs ds)
    (hx : ∀ σ, PassesAt CX X σ (E σ)) (hdb : (x == ("__debug__" : Str)) = false) : PE X (.Call (.Name x p) [] [] pos) (tCallSD sp dvs E tNil) :=
  ⟨fun pins s σ H Q I h => wpAny_Call_Name_kw (ld_glob I hg hm (PySem.W.callWith_K0 I.kIn hk (run_fnSD (us := []) (vs := []) G hr hb hd (hx σ) I .nil h)) hdb)⟩
theorem pall : ∀ ce : E, PAll T F k ce := by
  intro ce
  induction ce with
  | var i =>
    refine ⟨fun {X W sc e} g hs h => ?_, fun {X W sc es} g hs h => (by cases es <;> cases h), fun {X W sc pos ks vs} g hs h => (by cases ks <;> cases vs <;> cases h), fun {X W sc e} g hs h => (by cases h), fun {X W sc es} g hs h => (by cases es <;> cases h)⟩
    cases e with
    | Name x p =>
      subst hs
      obtain ⟨h, h3⟩ := and4 h
      obtain ⟨h1, h2⟩ := and4 h
      obtain ⟨n1, n2, n3⟩ := nameOk1 h3
      exact pe_var (of_decide_eq_true h1) (visB_ok h2) n1 n2
    | _ => cases h
  | bor i =>
    refine ⟨fun {X W sc e} g hs h => ?_, fun {X W sc es} g hs h => (by cases es <;> cases h), fun {X W sc pos ks vs} g hs h => (by cases ks <;> cases vs <;> cases h), fun {X W sc e} g hs h => (by cases h), fun {X W sc es} g hs h => (by cases es <;> cases h)⟩
    cases e with
    | Name x p =>
      subst hs
      obtain ⟨h, h3⟩ := and4 h
      obtain ⟨h1, h2⟩ := and4 h
      obtain ⟨n1, n2, n3⟩ := nameOk1 h3
      exact pe_var (of_decide_eq_true h1) (visB_ok h2) n1 n2
    | _ => cases h
  | cst d =>
    refine ⟨fun {X W sc e} g hs h => ?_, fun {X W sc es} g hs h => (by cases es <;> cases h), fun {X W sc pos ks vs} g hs h => (by cases ks <;> cases vs <;> cases h), fun {X W sc e} g hs h => (by cases h), fun {X W sc es} g hs h => (by cases es <;> cases h)⟩
    cases e with
    | Constant c k p => exact const_ok h
    | _ => cases h
  | glb y d =>
    refine ⟨fun {X W sc e} g hs h => ?_, fun {X W sc es} g hs h => (by cases es <;> cases h), fun {X W sc pos ks vs} g hs h => (by cases ks <;> cases vs <;> cases h), fun {X W sc e} g hs h => (by cases h), fun {X W sc es} g hs h => (by cases es <;> cases h)⟩
    cases e with
    | Name x p =>
      subst hs
      have key : ∀ d, (decide (x = y) && glB X.env.scope x && nameOk x && gcB T x d) = true → PE X (.Name x p) (tC (vf d)) := fun d h => by
        obtain ⟨h, h4⟩ := and4 h
        obtain ⟨h, h3⟩ := and4 h
        obtain ⟨h1, h2⟩ := and4 h
        obtain ⟨u, hu, r⟩ := g.gcs _ _ (gcB_ok h4)
        exact pe_glob (glB_ok h2) hu r (nameOk1 h3).1
      cases d with
      | ty n =>
        have h : (decide (x = y) && glB X.env.scope x && nameOk x && T.bl.contains x && decide (bootBuiltins x = some (.type n))) = true := h
        obtain ⟨h, h5⟩ := and4 h
        obtain ⟨h, h4⟩ := and4 h
        obtain ⟨h, h3⟩ := and4 h
        obtain ⟨h1, h2⟩ := and4 h
        exact pe_bltn (v := .ty n) (glB_ok h2) (g.bls _ h4) (of_decide_eq_true h5) rfl (nameOk1 h3).2.2 (nameOk1 h3).1
      | _ => exact key _ h
    | _ => cases h
  | nil =>
    refine ⟨fun {X W sc e} g hs h => (by cases e <;> cases h), fun {X W sc es} g hs h => ?_, fun {X W sc pos ks vs} g hs h => ?_, fun {X W sc e} g hs h => (by cases h), fun {X W sc es} g hs h => ?_⟩
    · cases es with
      | nil => exact pa_nil
      | cons _ _ => cases h
    · cases ks with
      | nil =>
        cases vs with
        | nil => exact ⟨pps_nil, rfl⟩
        | cons _ _ => cases h
      | cons _ _ => cases h
    · cases es with
      | nil => exact .nil
      | cons _ _ => cases h
  | cons a b iha ihb =>
    refine ⟨fun {X W sc e} g hs h => (by cases e <;> cases h), fun {X W sc es} g hs h => ?_, fun {X W sc pos ks vs} g hs h => (by cases ks <;> cases vs <;> cases h), fun {X W sc e} g hs h => (by cases h), fun {X W sc es} g hs h => ?_⟩
    · cases es with
      | nil => cases h
      | cons x xs =>
        have h : (noStar x && chkE T X.N a sc x && chkA T X.N b sc xs) = true := h
        obtain ⟨h, h3⟩ := and4 h
        obtain ⟨h1, h2⟩ := and4 h
        exact pa_cons (iha.e g hs h2) (ihb.a g hs h3) (starEach_cons h1)
    · cases es with
      | nil => cases h
      | cons x xs =>
        have h : (noStar x && chkE T X.N a sc x && chkA T X.N b sc xs) = true := h
        obtain ⟨h, h3⟩ := and4 h
        obtain ⟨h1, h2⟩ := and4 h
        exact .cons (iha.e g hs h2) (ihb.j g hs h3)
  | con2 a b c iha ihb ihc =>
    refine ⟨fun {X W sc e} g hs h => (by cases e <;> cases h), fun {X W sc es} g hs h => (by cases es <;> cases h), fun {X W sc pos ks vs} g hs h => ?_, fun {X W sc e} g hs h => (by cases h), fun {X W sc es} g hs h => (by cases es <;> cases h)⟩
    match ks, vs, h with
    | some x :: xs, y :: ys, h =>
      have h : (chkE T X.N a sc x && chkE T X.N b sc y && chkP T X.N c sc xs ys) = true := h
      obtain ⟨h, h3⟩ := and4 h
      obtain ⟨h1, h2⟩ := and4 h
      obtain ⟨p1, p2⟩ := ihc.p (pos := pos) g hs h3
      exact ⟨pps_cons (iha.e g hs h1) (ihb.e g hs h2) p1, by rw [List.all_cons, p2]; rfl⟩
  | dsp a iha =>
    refine ⟨fun {X W sc e} g hs h => ?_, fun {X W sc es} g hs h => (by cases es <;> cases h), fun {X W sc pos ks vs} g hs h => (by cases ks <;> cases vs <;> cases h), fun {X W sc e} g hs h => (by cases h), fun {X W sc es} g hs h => (by cases es <;> cases h)⟩
    cases e with
    | Dict ks vs p =>
      have h : (!ks.isEmpty && decide (ks.length ≤ 15) && decide (ks.length = vs.length) && chkP T X.N a sc ks vs) = true := h
      obtain ⟨h, h4⟩ := and4 h
      obtain ⟨h, h3⟩ := and4 h
      obtain ⟨h1, h2⟩ := and4 h
      obtain ⟨p1, p2⟩ := iha.p (pos := p) g hs h4
      exact pe_disp p1 p2 (of_decide_eq_true h3) (fun z => by rw [z] at h1; cases h1) (of_decide_eq_true h2)
    | _ => cases h
  | bin o a b iha ihb =>
    refine ⟨fun {X W sc e} g hs h => ?_, fun {X W sc es} g hs h => (by cases es <;> cases h), fun {X W sc pos ks vs} g hs h => (by cases ks <;> cases vs <;> cases h), fun {X W sc e} g hs h => (by cases h), fun {X W sc es} g hs h => (by cases es <;> cases h)⟩
    cases e with
    | BinOp x op y p =>
      have h : (bopB o op && chkE T X.N a sc x && chkE T X.N b sc y) = true := h
      obtain ⟨h, h3⟩ := and4 h
      obtain ⟨h1, h2⟩ := and4 h
      exact pe_op (op_bin o h1) (iha.e g hs h2) (ihb.e g hs h3)
    | _ => cases h
  | neg a iha =>
    refine ⟨fun {X W sc e} g hs h => ?_, fun {X W sc es} g hs h => (by cases es <;> cases h), fun {X W sc pos ks vs} g hs h => (by cases ks <;> cases vs <;> cases h), fun {X W sc e} g hs h => (by cases h), fun {X W sc es} g hs h => (by cases es <;> cases h)⟩
    cases e with
    | UnaryOp op x p =>
      cases op with
      | USub => exact pe_un un_neg (iha.e g hs h)
      | _ => cases h
    | _ => cases h
  | cmp o a b iha ihb =>
    refine ⟨fun {X W sc e} g hs h => ?_, fun {X W sc es} g hs h => (by cases es <;> cases h), fun {X W sc pos ks vs} g hs h => (by cases ks <;> cases vs <;> cases h), fun {X W sc e} g hs h => (by cases h), fun {X W sc es} g hs h => (by cases es <;> cases h)⟩
    cases e with
    | Compare x ops ys p =>
      match ops, ys, h with
      | [op], [y], h =>
        have h : (copB o op && !behindInMarks op y && chkE T X.N a sc x && chkE T X.N b sc y) = true := h
        obtain ⟨h, h4⟩ := and4 h
        obtain ⟨h, h3⟩ := and4 h
        obtain ⟨h1, h2⟩ := and4 h
        exact pe_cmpR (op_cmp g.room o h1) (iha.e g hs h3) (ihb.e g hs h4) (by simpa using h2)
    | _ => cases h
  | chn o p a b c iha ihb ihc =>
    refine ⟨fun {X W sc e} g hs h => ?_, fun {X W sc es} g hs h => (by cases es <;> cases h), fun {X W sc pos ks vs} g hs h => (by cases ks <;> cases vs <;> cases h), fun {X W sc e} g hs h => (by cases h), fun {X W sc es} g hs h => (by cases es <;> cases h)⟩
    cases e with
    | Compare x ops ys q =>
      match ops, ys, h with
      | [op, op'], [y, z], h =>
        have h : (copB o op && copB p op' && !lastMarks [op, op'] [y, z] && chkE T X.N a sc x && chkE T X.N b sc y && chkE T X.N c sc z) = true := h
        obtain ⟨h, h6⟩ := and4 h
        obtain ⟨h, h5⟩ := and4 h
        obtain ⟨h, h4⟩ := and4 h
        obtain ⟨h, h3⟩ := and4 h
        obtain ⟨h1, h2⟩ := and4 h
        exact pe_chain (op_cmp g.room o h1) (op_cmp g.room p h2) (iha.e g hs h4) (ihb.e g hs h5) (ihc.e g hs h6) (by simpa using h3)
    | _ => cases h
  | tcm o a b iha ihb =>
    refine ⟨fun {X W sc e} g hs h => (by cases e <;> cases h), fun {X W sc es} g hs h => (by cases es <;> cases h), fun {X W sc pos ks vs} g hs h => (by cases ks <;> cases vs <;> cases h), fun {X W sc e} g hs h => ?_, fun {X W sc es} g hs h => (by cases es <;> cases h)⟩
    cases e with
    | Compare x ops ys p =>
      match ops, ys, h with
      | [op], [y], h =>
        have h : (copB o op && !behindInMarks op y && chkE T X.N a sc x && chkE T X.N b sc y) = true := h
        obtain ⟨h, h4⟩ := and4 h
        obtain ⟨h, h3⟩ := and4 h
        obtain ⟨h1, h2⟩ := and4 h
        exact pt_cmpR (op_cmp g.room o h1) (iha.e g hs h3) (ihb.e g hs h4) (by simpa using h2)
    | _ => cases h
  | tch o p a b c iha ihb ihc =>
    refine ⟨fun {X W sc e} g hs h => (by cases e <;> cases h), fun {X W sc es} g hs h => (by cases es <;> cases h), fun {X W sc pos ks vs} g hs h => (by cases ks <;> cases vs <;> cases h), fun {X W sc e} g hs h => ?_, fun {X W sc es} g hs h => (by cases es <;> cases h)⟩
    cases e with
    | Compare x ops ys q =>
      match ops, ys, h with
      | [op, op'], [y, z], h =>
        have h : (copB o op && copB p op' && !lastMarks [op, op'] [y, z] && chkE T X.N a sc x && chkE T X.N b sc y && chkE T X.N c sc z) = true := h
        obtain ⟨h, h6⟩ := and4 h
        obtain ⟨h, h5⟩ := and4 h
        obtain ⟨h, h4⟩ := and4 h
        obtain ⟨h, h3⟩ := and4 h
        obtain ⟨h1, h2⟩ := and4 h
        exact pt_chain (op_cmp g.room o h1) (op_cmp g.room p h2) (iha.e g hs h4) (ihb.e g hs h5) (ihc.e g hs h6) (by simpa using h3)
    | _ => cases h
  | and a b iha ihb =>
    refine ⟨fun {X W sc e} g hs h => ?_, fun {X W sc es} g hs h => (by cases es <;> cases h), fun {X W sc pos ks vs} g hs h => (by cases ks <;> cases vs <;> cases h), fun {X W sc e} g hs h => ?_, fun {X W sc es} g hs h => (by cases es <;> cases h)⟩
    · cases e with
      | BoolOp op vs p =>
        match op, vs, h with
        | .And, [x, y], h =>
          have h : (chkE T X.N a sc x && chkE T X.N b sc y) = true := h
          obtain ⟨h1, h2⟩ := and4 h
          exact pe_andT (iha.e g hs h1) (pe_one (ihb.e g hs h2))
        | .And, x :: y :: z :: r, h =>
          have h : (chkE T X.N a sc x && chkE T X.N b sc (.BoolOp .And (y :: z :: r) p)) = true := h
          obtain ⟨h1, h2⟩ := and4 h
          exact pe_andT (iha.e g hs h1) (ihb.e g hs h2)
        | .And, [x], h =>
          have h : (chkE T X.N a sc x && false) = true := h
          rw [Bool.and_false] at h
          cases h
      | _ => cases h
    · cases e with
      | BoolOp op vs p =>
        match op, vs, h with
        | .And, [x, y], h =>
          have h : (chkT T X.N a sc x && chkT T X.N b sc y) = true := h
          obtain ⟨h1, h2⟩ := and4 h
          exact (pw_and (iha.t g hs h1) (pw_and1 (ihb.t g hs h2))).pt
        | .And, x :: y :: z :: r, h =>
          have h : (chkT T X.N a sc x && chkT T X.N b sc (.BoolOp .And (y :: z :: r) p)) = true := h
          obtain ⟨h1, h2⟩ := and4 h
          exact (pw_and (iha.t g hs h1) (pt_pw (ihb.t g hs h2))).pt
        | .And, [x], h =>
          have h : (chkT T X.N a sc x && false) = true := h
          rw [Bool.and_false] at h
          cases h
      | _ => cases h
  | or a b iha ihb =>
    refine ⟨fun {X W sc e} g hs h => ?_, fun {X W sc es} g hs h => (by cases es <;> cases h), fun {X W sc pos ks vs} g hs h => (by cases ks <;> cases vs <;> cases h), fun {X W sc e} g hs h => ?_, fun {X W sc es} g hs h => (by cases es <;> cases h)⟩
    · cases e with
      | BoolOp op vs p =>
        match op, vs, h with
        | .Or, [x, y], h =>
          have h : (chkE T X.N a sc x && chkE T X.N b sc y) = true := h
          obtain ⟨h1, h2⟩ := and4 h
          exact pe_orT (iha.e g hs h1) (pe_one (ihb.e g hs h2))
        | .Or, x :: y :: z :: r, h =>
          have h : (chkE T X.N a sc x && chkE T X.N b sc (.BoolOp .Or (y :: z :: r) p)) = true := h
          obtain ⟨h1, h2⟩ := and4 h
          exact pe_orT (iha.e g hs h1) (ihb.e g hs h2)
        | .Or, [x], h =>
          have h : (chkE T X.N a sc x && false) = true := h
          rw [Bool.and_false] at h
          cases h
      | _ => cases h
    · cases e with
      | BoolOp op vs p =>
        match op, vs, h with
        | .Or, [x, y], h =>
          have h : (chkT T X.N a sc x && chkT T X.N b sc y) = true := h
          obtain ⟨h1, h2⟩ := and4 h
          exact (pw_or (iha.t g hs h1) (pw_or1 (ihb.t g hs h2))).pt
        | .Or, x :: y :: z :: r, h =>
          have h : (chkT T X.N a sc x && chkT T X.N b sc (.BoolOp .Or (y :: z :: r) p)) = true := h
          obtain ⟨h1, h2⟩ := and4 h
          exact (pw_or (iha.t g hs h1) (pt_pw (ihb.t g hs h2))).pt
        | .Or, [x], h =>
          have h : (chkT T X.N a sc x && false) = true := h
          rw [Bool.and_false] at h
          cases h
      | _ => cases h
  | not a iha =>
    refine ⟨fun {X W sc e} g hs h => ?_, fun {X W sc es} g hs h => (by cases es <;> cases h), fun {X W sc pos ks vs} g hs h => (by cases ks <;> cases vs <;> cases h), fun {X W sc e} g hs h => ?_, fun {X W sc es} g hs h => (by cases es <;> cases h)⟩
    · cases e with
      | UnaryOp op x p =>
        cases op with
        | Not => exact pe_notT (iha.e g hs h)
        | _ => cases h
      | _ => cases h
    · cases e with
      | UnaryOp op x p =>
        cases op with
        | Not => exact pt_not (iha.t g hs h)
        | _ => cases h
      | _ => cases h
  | tst a iha =>
    refine ⟨fun {X W sc e} g hs h => (by cases e <;> cases h), fun {X W sc es} g hs h => (by cases es <;> cases h), fun {X W sc pos ks vs} g hs h => (by cases ks <;> cases vs <;> cases h), fun {X W sc e} g hs h => ?_, fun {X W sc es} g hs h => (by cases es <;> cases h)⟩
    have h : (plainT e && chkE T X.N a sc e) = true := h
    obtain ⟨h1, h2⟩ := and4 h
    exact pt_truth (iha.e g hs h2) (isTrue_plainT h1)
  | ite c a b ihc iha ihb =>
    refine ⟨fun {X W sc e} g hs h => ?_, fun {X W sc es} g hs h => (by cases es <;> cases h), fun {X W sc pos ks vs} g hs h => (by cases ks <;> cases vs <;> cases h), fun {X W sc e} g hs h => (by cases h), fun {X W sc es} g hs h => (by cases es <;> cases h)⟩
    cases e with
    | IfExp z x y p =>
      have h : (chkT T X.N c sc z && chkE T X.N a sc x && chkE T X.N b sc y) = true := h
      obtain ⟨h, h3⟩ := and4 h
      obtain ⟨h1, h2⟩ := and4 h
      exact pe_ifExp (ihc.t g hs h1) (iha.e g hs h2) (ihb.e g hs h3)
    | _ => cases h
  | tup a iha =>
    refine ⟨fun {X W sc e} g hs h => ?_, fun {X W sc es} g hs h => (by cases es <;> cases h), fun {X W sc pos ks vs} g hs h => (by cases ks <;> cases vs <;> cases h), fun {X W sc e} g hs h => (by cases h), fun {X W sc es} g hs h => (by cases es <;> cases h)⟩
    cases e with
    | Tuple es k p => exact pe_tup (iha.a g hs h)
    | _ => cases h
  | lst a iha =>
    refine ⟨fun {X W sc e} g hs h => ?_, fun {X W sc es} g hs h => (by cases es <;> cases h), fun {X W sc pos ks vs} g hs h => (by cases ks <;> cases vs <;> cases h), fun {X W sc e} g hs h => (by cases h), fun {X W sc es} g hs h => (by cases es <;> cases h)⟩
    cases e with
    | List es p => exact pe_lst (iha.a g hs h)
    | _ => cases h
  | new a iha =>
    refine ⟨fun {X W sc e} g hs h => ?_, fun {X W sc es} g hs h => (by cases es <;> cases h), fun {X W sc pos ks vs} g hs h => (by cases ks <;> cases vs <;> cases h), fun {X W sc e} g hs h => (by cases h), fun {X W sc es} g hs h => (by cases es <;> cases h)⟩
    cases e with
    | List es p => exact pe_lst (iha.a g hs h)
    | _ => cases h
  | idx a b iha ihb =>
    refine ⟨fun {X W sc e} g hs h => ?_, fun {X W sc es} g hs h => (by cases es <;> cases h), fun {X W sc pos ks vs} g hs h => (by cases ks <;> cases vs <;> cases h), fun {X W sc e} g hs h => (by cases h), fun {X W sc es} g hs h => (by cases es <;> cases h)⟩
    cases e with
    | Subscript x y p =>
      have h : (notSlice y && chkE T X.N a sc x && chkE T X.N b sc y) = true := h
      obtain ⟨h, h3⟩ := and4 h
      obtain ⟨h1, h2⟩ := and4 h
      exact pe_ix ix_seq (iha.e g hs h2) (ihb.e g hs h3) (ix_plain h1)
    | _ => cases h
  | slc a lo hi iha ihl ihh =>
    refine ⟨fun {X W sc e} g hs h => ?_, fun {X W sc es} g hs h => (by cases es <;> cases h), fun {X W sc pos ks vs} g hs h => (by cases ks <;> cases vs <;> cases h), fun {X W sc e} g hs h => (by cases h), fun {X W sc es} g hs h => (by cases es <;> cases h)⟩
    cases e with
    | Subscript x y p =>
      cases y with
      | Slice l h' st q =>
        cases st with
        | some _ => cases h
        | none =>
          have h : (chkE T X.N a sc x && chkO (isNil lo) (chkE T X.N lo sc) l && chkO (isNil hi) (chkE T X.N hi sc) h') = true := h
          obtain ⟨h, h3⟩ := and4 h
          obtain ⟨h1, h2⟩ := and4 h
          have part : ∀ {ce : E} {o : Option Expr}, PAll T F k ce → chkO (isNil ce) (chkE T X.N ce sc) o = true → PO X o (if isNil ce then tNoPart else tPart (tE X.K F W ce)) := fun {ce o} ih h => by
            cases o with
            | none =>
              have h : isNil ce = true := h
              rw [if_pos h]
              exact po_none
            | some l =>
              obtain ⟨h1, h2⟩ := and4 h
              rw [if_neg (by simpa using h1)]
              exact po_some (ih.e g hs h2)
          exact pe_slice (SlR.or sl_list (SlR.or sl_tup sl_str)) (iha.e g hs h1) (part ihl h2) (part ihh h3)
      | _ => cases h
    | _ => cases h
  | cb f a iha =>
    refine ⟨fun {X W sc e} g hs h => ?_, fun {X W sc es} g hs h => (by cases es <;> cases h), fun {X W sc pos ks vs} g hs h => (by cases ks <;> cases vs <;> cases h), fun {X W sc e} g hs h => (by cases h), fun {X W sc es} g hs h => (by cases es <;> cases h)⟩
    cases e with
    | Call fn es kw p =>
      match fn, kw, es, h with
      | .Name x q, [], e :: es, h =>
        have h : (decide (x = bfName f) && glB sc x && T.bl.contains x && true && chkA T X.N a sc (e :: es)) = true := h
        obtain ⟨h, h5⟩ := and4 h
        obtain ⟨h, _⟩ := and4 h
        obtain ⟨h, h3⟩ := and4 h
        obtain ⟨h1, h2⟩ := and4 h
        have e1 := of_decide_eq_true h1
        subst e1 hs
        have ns := args_star h5
        rw [List.all_cons, Bool.and_eq_true] at ns
        exact pe_bf g f (glB_ok h2) h3 (iha.a g rfl h5) ns.1 ns.2
      | .Name x q, [], [], h =>
        have h : (decide (x = bfName f) && glB sc x && T.bl.contains x && false && chkA T X.N a sc []) = true := h
        simp at h
    | _ => cases h
  | bm m o a iho iha =>
    refine ⟨fun {X W sc e} g hs h => ?_, fun {X W sc es} g hs h => (by cases es <;> cases h), fun {X W sc pos ks vs} g hs h => (by cases ks <;> cases vs <;> cases h), fun {X W sc e} g hs h => (by cases h), fun {X W sc es} g hs h => (by cases es <;> cases h)⟩
    cases e with
    | Call fn es kw p =>
      match fn, kw, h with
      | .Attribute x name apos, [], h =>
        have h : (decide (name = bmName m) && plainBase x && (apos.endLine == p.line) && decide (es.length < 30) && (es.isEmpty == isNil a) && chkE T X.N o sc x && chkA T X.N a sc es && strM m) = true := h
        obtain ⟨h, h8⟩ := and4 h
        obtain ⟨h, h7⟩ := and4 h
        obtain ⟨h, h6⟩ := and4 h
        obtain ⟨h, h5⟩ := and4 h
        obtain ⟨h, h4⟩ := and4 h
        obtain ⟨h, h3⟩ := and4 h
        obtain ⟨h1, h2⟩ := and4 h
        have e1 := of_decide_eq_true h1
        subst e1
        have ns := args_star h7
        have hm : bmTy m = "str" := by cases m <;> first | rfl | cases h8
        show PE X _ (if isNil a then tBM0 X.K (bmTy m) (rBM X.K m) (tE X.K F W o) else tBM X.K (bmTy m) (rBM X.K m) (tE X.K F W o) (tA X.K F W a))
        cases es with
        | nil =>
          have hn : isNil a = true := by simpa using h5
          rw [if_pos hn]
          exact pe_bms0 m hm (iho.e g hs h6) h2 h3
        | cons e es =>
          have hn : ¬ isNil a = true := by simpa using h5
          rw [if_neg hn]
          rw [List.all_cons, Bool.and_eq_true] at ns
          exact pe_bms m hm (iho.e g hs h6) (iha.a g hs h7) h2 h3 (of_decide_eq_true h4) ns.1 ns.2
    | _ => cases h
  | call f a iha =>
    refine ⟨fun {X W sc e} g hs h => ?_, fun {X W sc es} g hs h => (by cases es <;> cases h), fun {X W sc pos ks vs} g hs h => (by cases ks <;> cases vs <;> cases h), fun {X W sc e} g hs h => (by cases h), fun {X W sc es} g hs h => (by cases es <;> cases h)⟩
    cases e with
    | Call fn es kw p =>
      match fn, kw, h with
      | .Name x q, [], h =>
        have h : (decide (T.fn[f]? = some x) && glB sc x && nameOk x && chkA T X.N a sc es) = true := h
        obtain ⟨h, h4⟩ := and4 h
        obtain ⟨h, h3⟩ := and4 h
        obtain ⟨h1, h2⟩ := and4 h
        subst hs
        obtain ⟨ad, fd, ps, m1, m2, m3, m4⟩ := g.fns f x (of_decide_eq_true h1)
        have ns := args_star h4
        cases es with
        | nil =>
          have e1 : a = .nil := by cases a <;> first | rfl | cases h4
          subst e1
          exact pe_callSD0 m3 g.room (glB_ok h2) m1 m2 m4 .nil (fun σ => passAt g.tk σ) (nameOk1 h3).1
        | cons e es =>
          rw [List.all_cons, Bool.and_eq_true] at ns
          exact pe_callSD m3 g.room (glB_ok h2) m1 m2 m4 .nil (fun σ => passAt g.tk σ) (iha.a g rfl h4) (nameOk1 h3).1 (starEach_cons ns.1) (starEach_plain ns.2)
    | _ => cases h
  | fmt a iha =>
    refine ⟨fun {X W sc e} g hs h => ?_, fun {X W sc es} g hs h => (by cases es <;> cases h), fun {X W sc pos ks vs} g hs h => (by cases ks <;> cases vs <;> cases h), fun {X W sc e} g hs h => (by cases h), fun {X W sc es} g hs h => (by cases es <;> cases h)⟩
    cases e with
    | FormattedValue x c sp p =>
      cases sp with
      | none =>
        have h : (decide (c = -1) && chkE T X.N a sc x) = true := h
        obtain ⟨h1, h2⟩ := and4 h
        have e1 := of_decide_eq_true h1
        subst e1
        exact pe_fmt (iha.e g hs h2)
      | some _ => cases h
    | _ => cases h
  | fst a iha =>
    refine ⟨fun {X W sc e} g hs h => ?_, fun {X W sc es} g hs h => (by cases es <;> cases h), fun {X W sc pos ks vs} g hs h => (by cases ks <;> cases vs <;> cases h), fun {X W sc e} g hs h => (by cases h), fun {X W sc es} g hs h => (by cases es <;> cases h)⟩
    cases e with
    | JoinedStr es p =>
      have h : (decide (2 ≤ es.length) && chkA T X.N a sc es) = true := h
      obtain ⟨h1, h2⟩ := and4 h
      match es, h1, h2 with
      | x :: y :: r, _, h2 => exact pe_joined (iha.j g hs h2)
    | _ => cases h
  | exf c f i => exact ⟨fun {X W sc e} g hs h => (by cases e <;> cases h), fun {X W sc es} g hs h => (by cases es <;> cases h), fun {X W sc pos ks vs} g hs h => (by cases ks <;> cases vs <;> cases h), fun {X W sc e} g hs h => (by cases h), fun {X W sc es} g hs h => (by cases es <;> cases h)⟩
  | lc j src c e ihs ihc ihe =>
    refine ⟨fun {X W sc e'} g hs h => ?_, fun {X W sc es} g hs h => (by cases es <;> cases h), fun {X W sc pos ks vs} g hs h => (by cases ks <;> cases vs <;> cases h), fun {X W sc e} g hs h => (by cases h), fun {X W sc es} g hs h => (by cases es <;> cases h)⟩
    cases e' with
    | ListComp el gs scope p =>
      match gs, h with
      | [⟨.Name y py, it, ifs, 0⟩], h =>
        have h : (notSet it && blkC X.N sc scope [(y, j)] && locB scope y && chkE T X.N src sc it && chkI (isNil c) (chkT T X.N c (relS scope sc)) ifs && chkE T X.N e (relS scope sc) el) = true := h
        obtain ⟨h, h6⟩ := and4 h
        obtain ⟨h, h5⟩ := and4 h
        obtain ⟨h, h4⟩ := and4 h
        obtain ⟨h, h3⟩ := and4 h
        obtain ⟨h1, h2⟩ := and4 h
        subst hs
        obtain ⟨p1, p2, p3⟩ := lc_parts (py := py) g ihc ihe h2 h3 h5 h6
        exact pe_lc (own := [(y, j)]) g.calm g.nd (PI.any (ihs.e g rfl h4)) (blkOk_by h2) p1 p2 p3 (set_plain h1)
    | _ => cases h
  | lcr j a c e iha ihc ihe =>
    refine ⟨fun {X W sc e'} g hs h => ?_, fun {X W sc es} g hs h => (by cases es <;> cases h), fun {X W sc pos ks vs} g hs h => (by cases ks <;> cases vs <;> cases h), fun {X W sc e} g hs h => (by cases h), fun {X W sc es} g hs h => (by cases es <;> cases h)⟩
    cases e' with
    | ListComp el gs scope p =>
      match gs, h with
      | [⟨.Name y py, .Call (.Name r pr) (x :: es) [] pc, ifs, 0⟩], h =>
        have h : (decide (r = "range") && glB sc r && T.bl.contains r && true && blkC X.N sc scope [(y, j)] && locB scope y && chkA T X.N a sc (x :: es) && chkI (isNil c) (chkT T X.N c (relS scope sc)) ifs && chkE T X.N e (relS scope sc) el) = true := h
        obtain ⟨h, h9⟩ := and4 h
        obtain ⟨h, h8⟩ := and4 h
        obtain ⟨h, h7⟩ := and4 h
        obtain ⟨h, h6⟩ := and4 h
        obtain ⟨h, h5⟩ := and4 h
        obtain ⟨h, _⟩ := and4 h
        obtain ⟨h, h3⟩ := and4 h
        obtain ⟨h1, h2⟩ := and4 h
        subst hs
        have e1 := of_decide_eq_true h1
        subst e1
        obtain ⟨p1, p2, p3⟩ := lc_parts (py := py) g ihc ihe h5 h6 h8 h9
        have ns := args_star h7
        rw [List.all_cons, Bool.and_eq_true] at ns
        exact pe_lc (own := [(y, j)]) g.calm g.nd (PI.rng (glB_ok h2) (g.bls _ h3) (iha.a g rfl h7) ns.1 ns.2) (blkOk_by h5) p1 p2 p3 (set_plain rfl)
      | [⟨.Name y py, .Call (.Name r pr) [] [] pc, ifs, 0⟩], h =>
        have h : (decide (r = "range") && glB sc r && T.bl.contains r && false && blkC X.N sc scope [(y, j)] && locB scope y && chkA T X.N a sc [] && chkI (isNil c) (chkT T X.N c (relS scope sc)) ifs && chkE T X.N e (relS scope sc) el) = true := h
        simp at h
    | _ => cases h
end
end PF
namespace PF
open PySem L2 PySem.Spec PyProof.Rows
/-- whether a comprehension's value is stored from within its own frame -/
def swB (sc scope : Scope) (y : Str) (py pv : Pos) : Bool := (sc.names.lookup y == some .local) && (py.line == pv.line) && !(scope.names.any fun (n, k) => n == y && (k == .local || k == .cell))
theorem sw_eq {el : Expr} {gs : List Comprehension} {scope : Scope} {pv py : Pos} {y : Str} {l : Nat} {env : PySem.Env} (hk : env.scope.kind = .function) : swapsWith (.ListComp el gs scope pv) (some (.Name y py)) l env = pure (swB env.scope scope y py pv) := by
  have hb : env.blockKind = .function := by unfold Env.blockKind; rw [hk]; rfl
  unfold swapsWith swB
  simp only [hb, Expr.pos]
  rfl
def seqS : S → Bool
  | .frz _ => true
  | _ => false
def chkC (f : Stmt → Bool) (g : List Stmt → Bool) : List Stmt → Bool
  | [] => false
  | st :: r => f st && g r
def asUnp : Stmt → Option (List Expr × Expr)
  | .Assign [.Tuple ts _ _] v _ => some (ts, v)
  | _ => none
theorem asUnp_eq {st : Stmt} {ts : List Expr} {v : Expr} (h : asUnp st = some (ts, v)) : ∃ k px p, st = .Assign [.Tuple ts k px] v p := by
  unfold asUnp at h
  split at h
  · cases h; exact ⟨_, _, _, rfl⟩
  · cases h
def asRse : Stmt → Option (Str × List Expr)
  | .Raise (some (.Call (.Name x _) es [] _)) none _ => some (x, es)
  | _ => none
theorem asRse_eq {st : Stmt} {x : Str} {es : List Expr} (h : asRse st = some (x, es)) : ∃ px pc p, st = .Raise (some (.Call (.Name x px) es [] pc)) none p := by
  unfold asRse at h
  split at h
  · cases h; exact ⟨_, _, _, rfl⟩
  · cases h
def asTry : Stmt → Option (List Stmt × Str × Str × Expr)
  | .Try body [.ExceptHandler (some (.Name x _)) (some n) [.Return (some v) _] _] [] [] _ => some (body, x, n, v)
  | _ => none
theorem asTry_eq {st : Stmt} {body : List Stmt} {x n : Str} {v : Expr} (h : asTry st = some (body, x, n, v)) : ∃ np rp hp p, st = .Try body [.ExceptHandler (some (.Name x np)) (some n) [.Return (some v) rp] hp] [] [] p := by
  unfold asTry at h
  split at h
  · cases h; exact ⟨_, _, _, _, rfl⟩
  · cases h
def swOk : Expr → Bool
  | .Tuple vs _ _ => vs.all (foldedForSure 8)
  | _ => true
def chkG (N : List Str) (sc : Scope) : List Nat → List Expr → Bool
  | [], [] => true
  | i :: is, .Name x _ :: ts => decide (N[i]? = some x) && locB sc x && chkG N sc is ts
  | _, _ => false
mutual
def chkS (T : Tb) (N : List Str) (sc : Scope) : S → Stmt → Bool
  | .set i e, .Assign [.Name x px] v _ => decide (N[i]? = some x) && locB sc x && chkE T N e sc v
  | .own i e, .Assign [.Name x px] v _ => decide (N[i]? = some x) && locB sc x && chkE T N e sc v
  | .app i e, .Expr (.Call (.Attribute (.Name x _) a apos) [v] [] pos) _ => decide (N[i]? = some x) && visB sc x && nameOk x && decide (a = "append") && (apos.endLine == pos.line) && noStar v && chkE T N e sc v
  | .ext i e, .Expr (.Call (.Attribute (.Name x _) a apos) [v] [] pos) _ => decide (N[i]? = some x) && visB sc x && nameOk x && decide (a = "extend") && (apos.endLine == pos.line) && noStar v && chkE T N e sc v
  | .aug i o e, .AugAssign (.Name x _) op v _ => decide (N[i]? = some x) && locB sc x && chkE T N e sc v && (match o, op with | .add, .Add => true | .sub, .Sub => true | _, _ => false)
  | .put o k e, .Assign [.Subscript ob ix _] v _ => notSlice ix && notComp v && chkE T N o sc ob && chkE T N k sc ix && chkE T N e sc v
  | .exp e, .Expr v _ => notComp v && chkE T N e sc v
  | .ret e, .Return (some v) _ => chkE T N e sc v
  | .retn, .Return none _ => true
  | .ite c a b, .If t x y _ => chkT T N c sc t && chkSs T N sc a x && chkSs T N sc b y
  | .for_ j src b, .For (.Name x _) it body [] _ => decide (N[j]? = some x) && locB sc x && notSet it && chkE T N src sc it && chkSs T N sc b body
  | .forr j a b, .For (.Name x _) (.Call (.Name r _) es [] _) body [] _ => decide (N[j]? = some x) && locB sc x && decide (r = "range") && glB sc r && T.bl.contains r && !es.isEmpty && chkA T N a sc es && chkSs T N sc b body
  | .whl c b, .While t body [] _ => chkT T N c sc t && chkSs T N sc b body
  | .unp is e, st => match asUnp st with
    | some (ts, v) => chkG N sc is ts && (notComp v && swOk v) && chkE T N e sc v
    | none => false
  | .rse c fs a, st => match asRse st with
    | some (x, es) => decide (x = c) && glB sc x && nameOk x && decide (T.ex.lookup c = some fs) && !es.isEmpty && chkA T N a sc es
    | none => false
  | .tryas b _ c i h, st => match asTry st with
    | some (body, x, n, v) => decide (x = c) && glB sc x && nameOk x && (T.ex.lookup c).isSome && decide (N[i]? = some n) && decide (sc.names.lookup n = some .local) && chkSs T N sc b body && chkH T N i c h sc v
    | none => false
  | .brk, .Break _ => true
  | .cnt, .Continue _ => true
  | _, _ => false
def chkSs (T : Tb) (N : List Str) (sc : Scope) : S → List Stmt → Bool
  | .skip, [] => true
  | .seq a b, sts => if seqS a then chkSs T N sc b sts else chkC (chkS T N sc a) (chkSs T N sc b) sts
  | _, _ => false
end
structure GoodS (T : Tb) (F : Nat → Sp) (k : Nat) (X : Cx) (W : WX) : Prop where
  g : Good T F k X W
  fn : ∀ x, X.fn x = true
  kind : X.env.scope.kind = .function
  po : PassesOwn (model X.prog X.w) X.A X.env X.xe
  room2 : Room 2 X.A
  stk : X.stack = X.env :: X.outer
  frm : X.env.frame = some X.env.locals
theorem assign_sub {o i : Expr} {pos : Pos} {env : PySem.Env} (h : notSlice i = true) : ∀ v, assign (.Subscript o i pos) env v = (do
      let ov ← holding [v] (eval o env)
      let iv ← holding [v, ov] (eval i env)
      standAt pos
      holding [v, ov, iv] (setItem ov iv v)
      release [v, ov, iv] []) := by
  intro v
  cases i <;> first | rfl | cases h
section
variable {T : Tb} {F : Nat → Sp} {k : Nat}
/-- name = e -/
theorem ps_setAny {X : Cx} {W : WX} {i : Nat} {ce : E} {x : Str} {px : Pos} {v : Expr} {pos : Pos} (g : GoodS T F k X W) (hi : X.N[i]? = some x) (hx : L2.Loc X.env.scope x) (h : chkE T X.N ce X.env.scope v = true) : PS X (.Assign [.Name x px] v pos) (tAsg (tE X.K F W ce) (gName i)) := by
  have he : PE X v (tE X.K F W ce) := (pall ce).e g.g rfl h
  by_cases hc : notComp v = true
  · exact ps_set g.g.nd hi hx he (swaps_plain hc) (.inl (g.fn x))
  · cases v with
    | ListComp el gs scope pv =>
      cases hb : swB X.env.scope scope x px pv with
      | false => exact ps_set g.g.nd hi hx he (by rw [sw_eq g.kind, hb]) (.inl (g.fn x))
      | true =>
        have hl : X.env.scope.names.lookup x = some .local := by
          unfold swB at hb
          simp only [Bool.and_eq_true, beq_iff_eq] at hb
          exact hb.1.1
        cases ce with
        | lc j src c e =>
          match gs, h with
          | [⟨.Name y py, it, ifs, 0⟩], h =>
            have h : (notSet it && blkC X.N X.env.scope scope [(y, j)] && locB scope y && chkE T X.N src X.env.scope it && chkI (isNil c) (chkT T X.N c (relS scope X.env.scope)) ifs && chkE T X.N e (relS scope X.env.scope) el) = true := h
            obtain ⟨h, h6⟩ := and4 h
            obtain ⟨h, h5⟩ := and4 h
            obtain ⟨h, h4⟩ := and4 h
            obtain ⟨h, h3⟩ := and4 h
            obtain ⟨h1, h2⟩ := and4 h
            obtain ⟨p1, p2, p3⟩ := lc_parts (py := py) g.g (pall c) (pall e) h2 h3 h5 h6
            exact ps_setLc (own := [(y, j)]) g.g.calm g.g.nd hi hl (by rw [sw_eq g.kind, hb]) (PI.any ((pall src).e g.g rfl h4)) (blkOk_by h2) p1 p2 p3 (set_plain h1)
        | lcr j a c e =>
          match gs, h with
          | [⟨.Name y py, .Call (.Name r pr) (z :: es) [] pc, ifs, 0⟩], h =>
            have h : (decide (r = "range") && glB X.env.scope r && T.bl.contains r && true && blkC X.N X.env.scope scope [(y, j)] && locB scope y && chkA T X.N a X.env.scope (z :: es) && chkI (isNil c) (chkT T X.N c (relS scope X.env.scope)) ifs && chkE T X.N e (relS scope X.env.scope) el) = true := h
            obtain ⟨h, h9⟩ := and4 h
            obtain ⟨h, h8⟩ := and4 h
            obtain ⟨h, h7⟩ := and4 h
            obtain ⟨h, h6⟩ := and4 h
            obtain ⟨h, h5⟩ := and4 h
            obtain ⟨h, _⟩ := and4 h
            obtain ⟨h, h3⟩ := and4 h
            obtain ⟨h1, h2⟩ := and4 h
            have e1 := of_decide_eq_true h1
            subst e1
            obtain ⟨p1, p2, p3⟩ := lc_parts (py := py) g.g (pall c) (pall e) h5 h6 h8 h9
            have ns := args_star h7
            rw [List.all_cons, Bool.and_eq_true] at ns
            exact ps_setLc (own := [(y, j)]) g.g.calm g.g.nd hi hl (by rw [sw_eq g.kind, hb]) (PI.rng (glB_ok h2) (g.g.bls _ h3) ((pall a).a g.g rfl h7) ns.1 ns.2) (blkOk_by h5) p1 p2 p3 (set_plain rfl)
          | [⟨.Name y py, .Call (.Name r pr) [] [] pc, ifs, 0⟩], h =>
            have h : (decide (r = "range") && glB X.env.scope r && T.bl.contains r && false && blkC X.N X.env.scope scope [(y, j)] && locB scope y && chkA T X.N a X.env.scope [] && chkI (isNil c) (chkT T X.N c (relS scope X.env.scope)) ifs && chkE T X.N e (relS scope X.env.scope) el) = true := h
            simp at h
        | _ => cases h
    | SetComp _ _ _ _ => cases ce <;> cases h
    | DictComp _ _ _ _ _ => cases ce <;> cases h
    | _ => exact absurd rfl hc
theorem GoodS.tr {X : Cx} {W W' : WX} (g : GoodS T F k X W) (pn : List (Addr × Obj)) (xe : Value → Shared → Prop) (tk : Takes (X.tr pn xe) W') (po : PassesOwn (model X.prog X.w) X.A X.env xe) : GoodS T F k (X.tr pn xe) W' :=
  ⟨⟨g.g.calm, g.g.nd, g.g.room, tk, g.g.fns, g.g.gcs, g.g.bls, g.g.exs⟩, g.fn, g.kind, po, g.room2, g.stk, g.frm⟩
theorem gs_names {X : Cx} {W : WX} (g : GoodS T F k X W) : ∀ {is : List Nat} {ts : List Expr}, chkG X.N X.env.scope is ts = true → PGs X ts (gNames is) ∧ (assignEach ts X.env).length = is.length ∧ List.findIdx? (fun x => x.1) (assignEach ts X.env) = none
  | [], [], _ => ⟨pgs_nil, rfl, rfl⟩
  | i :: is, .Name x p :: ts, h => by
    obtain ⟨h, h3⟩ := and4 h
    obtain ⟨h1, h2⟩ := and4 h
    obtain ⟨q1, q2, q3⟩ := gs_names g h3
    have e : assignEach (.Name x p :: ts) X.env = (false, assign (.Name x p) X.env) :: assignEach ts X.env := by simp only [assignEach]
    refine ⟨pgs_cons (pg_name g.g.nd (of_decide_eq_true h1) (locB_ok h2) (.inl (g.fn x))) q1 (by rw [e]; rfl), by rw [e, List.length_cons, List.length_cons, q2], ?_⟩
    rw [e, List.findIdx?_cons, if_neg Bool.false_ne_true, q3]
    rfl
theorem op_isH {X : Cx} {o : COp} {op : CmpOp} (h1 : isOp o = true) (h2 : copB o op = true) : OpR X (compareOp op) (rCmp X.K o) := by
  cases o with
  | is =>
    cases op with
    | Is => exact OpR.or op_isN op_isBl
    | _ => exact absurd h2 Bool.false_ne_true
  | isnot =>
    cases op with
    | IsNot => exact OpR.or op_notN op_notBl
    | _ => exact absurd h2 Bool.false_ne_true
  | _ => exact absurd h1 Bool.false_ne_true
/-- a, b = e where the stores are in order -/
theorem sw_none {ts : List Expr} {k : Nat} {p : Pos} {v : Expr} {env : PySem.Env} (h : swOk v = true) : swappedStores [.Tuple ts k p] v env = pure none := by
  cases v with
  | Tuple vs k' p' =>
    have h : vs.all (foldedForSure 8) = true := h
    unfold swappedStores
    dsimp only
    split
    · rfl
    · split
      · rfl
      · split
        · rfl
        · first | rfl | rw [if_pos h]
  | _ => rfl
/-- an except suite's expression -/
structure PHl (T : Tb) (F : Nat → Sp) (k : Nat) (i : Nat) (c0 : Str) (h : E) : Prop where
  e : ∀ {X : Cx} {W : WX} {a : Addr} {oe : Obj} {cls : Value} {d : Option Addr} {pn : List (Addr × Obj)} {v : Expr}, Good T F k X W → Zc cls d oe → (∃ vs, oe.data = .fields vs) → chkH T X.N i c0 h X.env.scope v = true → PE (X.suite a ((a, oe) :: pn)) v (tH X.K ⟨a, cls, d⟩ h)
  a : ∀ {X : Cx} {W : WX} {a : Addr} {oe : Obj} {cls : Value} {d : Option Addr} {pn : List (Addr × Obj)} {vs : List Expr}, Good T F k X W → Zc cls d oe → (∃ vs, oe.data = .fields vs) → chkHs T X.N i c0 h X.env.scope vs = true → PA (X.suite a ((a, oe) :: pn)) vs (tHs X.K ⟨a, cls, d⟩ h)
theorem phl {i : Nat} {c0 : Str} : ∀ h : E, PHl T F k i c0 h := by
  intro h
  induction h with
  | var j =>
    refine ⟨fun {X W a oe cls d pn v} g hz hf h => ?_, fun {X W a oe cls d pn vs} g hz hf h => (by cases vs <;> cases h)⟩
    cases v with
    | Name x p =>
      obtain ⟨h, h3⟩ := and4 h
      obtain ⟨h1, h2⟩ := and4 h
      obtain ⟨n1, n2, n3⟩ := nameOk1 h3
      exact pe_var (of_decide_eq_true h1) (visB_ok h2) n1 n2
    | _ => cases h
  | cst d =>
    refine ⟨fun {X W a oe cls d pn v} g hz hf h => ?_, fun {X W a oe cls d pn vs} g hz hf h => (by cases vs <;> cases h)⟩
    cases v with
    | Constant c k p => exact const_ok h
    | _ => cases h
  | exf c f j =>
    refine ⟨fun {X W a oe cls d pn v} g hz hf h => ?_, fun {X W a oe cls d pn vs} g hz hf h => (by cases vs <;> cases h)⟩
    match v, h with
    | .Attribute (.Name x p) f' p', h =>
      have h : (decide (j = i) && decide (c = c0) && decide (f = f') && decide (X.N[j]? = some x) && visB X.env.scope x && nameOk x && (match T.ex.lookup c with | some fs => fs.contains f | none => false)) = true := h
      obtain ⟨h, h7⟩ := and4 h
      obtain ⟨h, h6⟩ := and4 h
      obtain ⟨h, h5⟩ := and4 h
      obtain ⟨h, h4⟩ := and4 h
      obtain ⟨h, h3⟩ := and4 h
      obtain ⟨h1, h2⟩ := and4 h
      obtain ⟨n1, n2, n3⟩ := nameOk1 h6
      have e3 := of_decide_eq_true h3
      subst e3
      cases hl : T.ex.lookup c with
      | none => rw [hl] at h7; cases h7
      | some fs =>
        rw [hl] at h7
        have hm : f ∈ fs := List.contains_iff_mem.mp h7
        have xf := g.exs c fs hl
        exact pe_xf xf.xf (xf.no f hm) hz hf (pe_var (of_decide_eq_true h4) (visB_ok h5) n1 n2) (base_plain rfl)
  | cmp o a b iha ihb =>
    refine ⟨fun {X W ad oe cls d pn v} g hz hf h => ?_, fun {X W a oe cls d pn vs} g hz hf h => (by cases vs <;> cases h)⟩
    cases v with
    | Compare x ops ys p =>
      match ops, ys, h with
      | [op], [y], h =>
        have h : (isOp o && copB o op && !behindInMarks op y && chkH T X.N i c0 a X.env.scope x && chkH T X.N i c0 b X.env.scope y) = true := h
        obtain ⟨h, h5⟩ := and4 h
        obtain ⟨h, h4⟩ := and4 h
        obtain ⟨h, h3⟩ := and4 h
        obtain ⟨h1, h2⟩ := and4 h
        have hop : OpR (X.suite ad ((ad, oe) :: pn)) (compareOp op) (rCmp X.K o) := op_isH h1 h2
        exact pe_cmpR hop (iha.e g hz hf h4) (ihb.e g hz hf h5) (by simpa using h3)
    | _ => cases h
  | tup a iha =>
    refine ⟨fun {X W a oe cls d pn v} g hz hf h => ?_, fun {X W a oe cls d pn vs} g hz hf h => (by cases vs <;> cases h)⟩
    cases v with
    | Tuple es k p => exact pe_tup (iha.a g hz hf h)
    | _ => cases h
  | lst a iha =>
    refine ⟨fun {X W a oe cls d pn v} g hz hf h => ?_, fun {X W a oe cls d pn vs} g hz hf h => (by cases vs <;> cases h)⟩
    cases v with
    | List es p => exact pe_lst (iha.a g hz hf h)
    | _ => cases h
  | nil =>
    refine ⟨fun {X W a oe cls d pn v} g hz hf h => (by cases v <;> cases h), fun {X W a oe cls d pn vs} g hz hf h => ?_⟩
    cases vs with
    | nil => exact pa_nil
    | cons _ _ => cases h
  | cons a b iha ihb =>
    refine ⟨fun {X W a oe cls d pn v} g hz hf h => (by cases v <;> cases h), fun {X W ad oe cls d pn vs} g hz hf h => ?_⟩
    cases vs with
    | nil => cases h
    | cons x xs =>
      have h : (noStar x && chkH T X.N i c0 a X.env.scope x && chkHs T X.N i c0 b X.env.scope xs) = true := h
      obtain ⟨h, h3⟩ := and4 h
      obtain ⟨h1, h2⟩ := and4 h
      exact pa_cons (iha.e g hz hf h2) (ihb.a g hz hf h3) (starEach_cons h1)
  | _ => exact ⟨fun {X W a oe cls d pn v} g hz hf h => (by cases v <;> cases h), fun {X W a oe cls d pn vs} g hz hf h => (by cases vs <;> cases h)⟩
structure PSAll (T : Tb) (F : Nat → Sp) (k : Nat) (cs : S) : Prop where
  one : ∀ {X : Cx} {W : WX} {st : Stmt}, GoodS T F k X W → chkS T X.N X.env.scope cs st = true → PS X st (tS X.K F W cs)
  all : ∀ {X : Cx} {W : WX} {sts : List Stmt}, GoodS T F k X W → chkSs T X.N X.env.scope cs sts = true → PSs X sts (tS X.K F W cs)
theorem psall : ∀ cs : S, PSAll T F k cs := by
  intro cs
  induction cs with
  | skip =>
    refine ⟨fun {X W st} g h => (by cases st <;> cases h), fun {X W sts} g h => ?_⟩
    cases sts with
    | nil => exact pss_nil
    | cons _ _ => cases h
  | seq a b iha ihb =>
    refine ⟨fun {X W st} g h => (by cases st <;> cases h), fun {X W sts} g h => ?_⟩
    have h : (if seqS a then chkSs T X.N X.env.scope b sts else chkC (chkS T X.N X.env.scope a) (chkSs T X.N X.env.scope b) sts) = true := h
    by_cases hf : seqS a = true
    · rw [if_pos hf] at h
      cases a with
      | frz i => exact ihb.all g h
      | _ => cases hf
    · rw [if_neg hf] at h
      cases sts with
      | nil => cases h
      | cons st r =>
        obtain ⟨h1, h2⟩ := and4 h
        exact pss_cons (iha.one g h1) (ihb.all g h2)
  | frz i => exact ⟨fun {X W st} g h => (by cases st <;> cases h), fun {X W sts} g h => (by cases sts <;> cases h)⟩
  | set i e =>
    refine ⟨fun {X W st} g h => ?_, fun {X W sts} g h => (by cases sts <;> cases h)⟩
    cases st with
    | Assign ts v p =>
      match ts, h with
      | [.Name x px], h =>
        obtain ⟨h, h3⟩ := and4 h
        obtain ⟨h1, h2⟩ := and4 h
        exact ps_setAny g (of_decide_eq_true h1) (locB_ok h2) h3
    | _ => cases h
  | own i e =>
    refine ⟨fun {X W st} g h => ?_, fun {X W sts} g h => (by cases sts <;> cases h)⟩
    cases st with
    | Assign ts v p =>
      match ts, h with
      | [.Name x px], h =>
        obtain ⟨h, h3⟩ := and4 h
        obtain ⟨h1, h2⟩ := and4 h
        exact ps_setAny g (of_decide_eq_true h1) (locB_ok h2) h3
    | _ => cases h
  | app i e =>
    refine ⟨fun {X W st} g h => ?_, fun {X W sts} g h => (by cases sts <;> cases h)⟩
    cases st with
    | Expr v p =>
      match v, h with
      | .Call (.Attribute (.Name x q) a apos) [v] [] pos, h =>
        have h : (decide (X.N[i]? = some x) && visB X.env.scope x && nameOk x && decide (a = "append") && (apos.endLine == pos.line) && noStar v && chkE T X.N e X.env.scope v) = true := h
        obtain ⟨h, h7⟩ := and4 h
        obtain ⟨h, h6⟩ := and4 h
        obtain ⟨h, h5⟩ := and4 h
        obtain ⟨h, h4⟩ := and4 h
        obtain ⟨h, h3⟩ := and4 h
        obtain ⟨h1, h2⟩ := and4 h
        have e1 := of_decide_eq_true h4
        subst e1
        exact ps_expr (pe_bm PySem.F.plainAttrs_list PySem.F.slot_list_append PySem.F.type_list_append mt_append (pe_var (of_decide_eq_true h1) (visB_ok h2) (nameOk1 h3).1 (nameOk1 h3).2.1) (pa_cons ((pall e).e g.g rfl h7) pa_nil (starEach_cons h6)) (base_plain rfl) (few_ok h6 rfl (show 1 < 30 by decide)) h5 (starEach_cons h6) rfl)
    | _ => cases h
  | ext i e =>
    refine ⟨fun {X W st} g h => ?_, fun {X W sts} g h => (by cases sts <;> cases h)⟩
    cases st with
    | Expr v p =>
      match v, h with
      | .Call (.Attribute (.Name x q) a apos) [v] [] pos, h =>
        have h : (decide (X.N[i]? = some x) && visB X.env.scope x && nameOk x && decide (a = "extend") && (apos.endLine == pos.line) && noStar v && chkE T X.N e X.env.scope v) = true := h
        obtain ⟨h, h7⟩ := and4 h
        obtain ⟨h, h6⟩ := and4 h
        obtain ⟨h, h5⟩ := and4 h
        obtain ⟨h, h4⟩ := and4 h
        obtain ⟨h, h3⟩ := and4 h
        obtain ⟨h1, h2⟩ := and4 h
        have e1 := of_decide_eq_true h4
        subst e1
        exact ps_expr (pe_bm PySem.F.plainAttrs_list PySem.F.slot_list_extend PySem.F.type_list_extend mt_extend (pe_var (of_decide_eq_true h1) (visB_ok h2) (nameOk1 h3).1 (nameOk1 h3).2.1) (pa_cons ((pall e).e g.g rfl h7) pa_nil (starEach_cons h6)) (base_plain rfl) (few_ok h6 rfl (show 1 < 30 by decide)) h5 (starEach_cons h6) rfl)
    | _ => cases h
  | aug i o e =>
    refine ⟨fun {X W st} g h => ?_, fun {X W sts} g h => (by cases sts <;> cases h)⟩
    cases st with
    | AugAssign t op v p =>
      match t, h with
      | .Name x px, h =>
        obtain ⟨h, h4⟩ := and4 h
        obtain ⟨h, h3⟩ := and4 h
        obtain ⟨h1, h2⟩ := and4 h
        have he : PE X v (tE X.K F W e) := (pall e).e g.g rfl h3
        cases o <;> cases op <;> first | cases h4 | skip
        · exact ps_aug g.g.nd (of_decide_eq_true h1) (locB_ok h2) he ip_add (.inl (g.fn x))
        · exact ps_aug g.g.nd (of_decide_eq_true h1) (locB_ok h2) he ip_sub (.inl (g.fn x))
    | _ => cases h
  | put o k' e =>
    refine ⟨fun {X W st} g h => ?_, fun {X W sts} g h => (by cases sts <;> cases h)⟩
    cases st with
    | Assign ts v p =>
      match ts, h with
      | [.Subscript ob ix px], h =>
        obtain ⟨h, h5⟩ := and4 h
        obtain ⟨h, h4⟩ := and4 h
        obtain ⟨h, h3⟩ := and4 h
        obtain ⟨h1, h2⟩ := and4 h
        exact ps_asg ((pall e).e g.g rfl h5) (pg_sub ((pall o).e g.g rfl h3) ((pall k').e g.g rfl h4) set_list (assign_sub h1)) (show swapsWith v (some (.Subscript ob ix px)) p.line X.env = pure false from swaps_plain h2)
    | _ => cases h
  | exp e =>
    refine ⟨fun {X W st} g h => ?_, fun {X W sts} g h => (by cases sts <;> cases h)⟩
    cases st with
    | Expr v p =>
      obtain ⟨h1, h2⟩ := and4 h
      exact ps_expr ((pall e).e g.g rfl h2) (swaps_plain h1)
    | _ => cases h
  | ret e =>
    refine ⟨fun {X W st} g h => ?_, fun {X W sts} g h => (by cases sts <;> cases h)⟩
    cases st with
    | Return v p =>
      cases v with
      | some v => exact ps_ret ((pall e).e g.g rfl h)
      | none => cases h
    | _ => cases h
  | retn =>
    refine ⟨fun {X W st} g h => ?_, fun {X W sts} g h => (by cases sts <;> cases h)⟩
    cases st with
    | Return v p =>
      cases v with
      | some v => cases h
      | none => exact ps_retN
    | _ => cases h
  | ite c a b iha ihb =>
    refine ⟨fun {X W st} g h => ?_, fun {X W sts} g h => (by cases sts <;> cases h)⟩
    cases st with
    | If t x y p =>
      obtain ⟨h, h3⟩ := and4 h
      obtain ⟨h1, h2⟩ := and4 h
      exact ps_if ((pall c).t g.g rfl h1) (iha.all g h2) (ihb.all g h3)
    | _ => cases h
  | for_ j src b ihb =>
    refine ⟨fun {X W st} g h => ?_, fun {X W sts} g h => (by cases sts <;> cases h)⟩
    cases st with
    | For t it body or_ p =>
      match t, or_, h with
      | .Name x px, [], h =>
        obtain ⟨h, h5⟩ := and4 h
        obtain ⟨h, h4⟩ := and4 h
        obtain ⟨h, h3⟩ := and4 h
        obtain ⟨h1, h2⟩ := and4 h
        exact ps_for g.po g.g.calm (PI.any ((pall src).e g.g rfl h4)) (pg_name g.g.nd (of_decide_eq_true h1) (locB_ok h2) (.inl (g.fn x))) (ihb.all g h5) (set_plain h3)
    | _ => cases h
  | forr j a b ihb =>
    refine ⟨fun {X W st} g h => ?_, fun {X W sts} g h => (by cases sts <;> cases h)⟩
    cases st with
    | For t it body or_ p =>
      match t, it, or_, h with
      | .Name x px, .Call (.Name r pr) (z :: es) [] pc, [], h =>
        have h : (decide (X.N[j]? = some x) && locB X.env.scope x && decide (r = "range") && glB X.env.scope r && T.bl.contains r && true && chkA T X.N a X.env.scope (z :: es) && chkSs T X.N X.env.scope b body) = true := h
        obtain ⟨h, h8⟩ := and4 h
        obtain ⟨h, h7⟩ := and4 h
        obtain ⟨h, _⟩ := and4 h
        obtain ⟨h, h5⟩ := and4 h
        obtain ⟨h, h4⟩ := and4 h
        obtain ⟨h, h3⟩ := and4 h
        obtain ⟨h1, h2⟩ := and4 h
        have e1 := of_decide_eq_true h3
        subst e1
        have ns := args_star h7
        rw [List.all_cons, Bool.and_eq_true] at ns
        exact ps_for g.po g.g.calm (PI.rng (glB_ok h4) (g.g.bls _ h5) ((pall a).a g.g rfl h7) ns.1 ns.2) (pg_name g.g.nd (of_decide_eq_true h1) (locB_ok h2) (.inl (g.fn x))) (ihb.all g h8) (set_plain rfl)
      | .Name x px, .Call (.Name r pr) [] [] pc, [], h =>
        have h : (decide (X.N[j]? = some x) && locB X.env.scope x && decide (r = "range") && glB X.env.scope r && T.bl.contains r && false && chkA T X.N a X.env.scope [] && chkSs T X.N X.env.scope b body) = true := h
        simp at h
    | _ => cases h
  | whl c b ihb =>
    refine ⟨fun {X W st} g h => ?_, fun {X W sts} g h => (by cases sts <;> cases h)⟩
    cases st with
    | While t body or_ p =>
      match or_, h with
      | [], h =>
        obtain ⟨h1, h2⟩ := and4 h
        exact ps_while g.po ((pall c).t g.g rfl h1) (ihb.all g h2)
    | _ => cases h
  | unp is e =>
    refine ⟨fun {X W st} g h => ?_, fun {X W sts} g h => (by cases sts <;> cases h)⟩
    have h : (match asUnp st with | some (ts, v) => chkG X.N X.env.scope is ts && (notComp v && swOk v) && chkE T X.N e X.env.scope v | none => false) = true := h
    cases ha : asUnp st with
    | none => rw [ha] at h; cases h
    | some q =>
      obtain ⟨es, v⟩ := q
      rw [ha] at h
      obtain ⟨n, px, p, rfl⟩ := asUnp_eq ha
      obtain ⟨h, h3⟩ := and4 h
      obtain ⟨h1, h2⟩ := and4 h
      obtain ⟨h2, h4⟩ := and4 h2
      obtain ⟨q1, q2, q3⟩ := gs_names g h1
      exact ps_asg ((pall e).e g.g rfl h3) (pg_tup g.g.calm q1 q2 q3) (show swapsWith v (some (.Tuple es n px)) p.line X.env = pure false from swaps_plain h2) (sw_none h4)
  | rse c fs a =>
    refine ⟨fun {X W st} g h => ?_, fun {X W sts} g h => (by cases sts <;> cases h)⟩
    have h : (match asRse st with | some (x, es) => decide (x = c) && glB X.env.scope x && nameOk x && decide (T.ex.lookup c = some fs) && !es.isEmpty && chkA T X.N a X.env.scope es | none => false) = true := h
    cases ha : asRse st with
    | none => rw [ha] at h; cases h
    | some q =>
      obtain ⟨x, es⟩ := q
      rw [ha] at h
      obtain ⟨px, pc, p, rfl⟩ := asRse_eq ha
      cases es with
      | nil =>
        have h : (decide (x = c) && glB X.env.scope x && nameOk x && decide (T.ex.lookup c = some fs) && false && chkA T X.N a X.env.scope []) = true := h
        simp at h
      | cons z es =>
        have h : (decide (x = c) && glB X.env.scope x && nameOk x && decide (T.ex.lookup c = some fs) && true && chkA T X.N a X.env.scope (z :: es)) = true := h
        obtain ⟨h, h6⟩ := and4 h
        obtain ⟨h, _⟩ := and4 h
        obtain ⟨h, h4⟩ := and4 h
        obtain ⟨h, h3⟩ := and4 h
        obtain ⟨h1, h2⟩ := and4 h
        have e1 := of_decide_eq_true h1
        subst e1
        have xf := g.g.exs x fs (of_decide_eq_true h4)
        obtain ⟨fI, fd, i1, i2, i3, i4⟩ := xf.ini
        have ns := args_star h6
        rw [List.all_cons, Bool.and_eq_true] at ns
        exact ps_raise g.g.calm g.g.tk (pmk_oex xf.ox i1 i2 i3 (g.room2) i4 .nil pass0 (glB_ok h2) xf.mgc ((pall a).a g.g rfl h6) (nameOk1 h3).1 (starEach_cons ns.1) (starEach_plain ns.2))
  | tryas b cs c i hh ihb =>
    refine ⟨fun {X W st} g h => ?_, fun {X W sts} g h => (by cases sts <;> cases h)⟩
    have h : (match asTry st with | some (body, x, n, v) => decide (x = c) && glB X.env.scope x && nameOk x && (T.ex.lookup c).isSome && decide (X.N[i]? = some n) && decide (X.env.scope.names.lookup n = some .local) && chkSs T X.N X.env.scope b body && chkH T X.N i c hh X.env.scope v | none => false) = true := h
    cases ha : asTry st with
    | none => rw [ha] at h; cases h
    | some q =>
      obtain ⟨body, x, n, v⟩ := q
      rw [ha] at h
      obtain ⟨np, rp, hp, p, rfl⟩ := asTry_eq ha
      obtain ⟨h, h8⟩ := and4 h
      obtain ⟨h, h7⟩ := and4 h
      obtain ⟨h, h6⟩ := and4 h
      obtain ⟨h, h5⟩ := and4 h
      obtain ⟨h, h4⟩ := and4 h
      obtain ⟨h, h3⟩ := and4 h
      obtain ⟨h1, h2⟩ := and4 h
      have e1 := of_decide_eq_true h1
      subst e1
      obtain ⟨fs, hfs⟩ := Option.isSome_iff_exists.mp h4
      have xf := g.g.exs x fs hfs
      exact ps_try_as (i := i) (tb := fun W => tS X.K F W b) (ts := fun a cls d => tSeq (tRet (tH X.K ⟨a, cls, d⟩ hh)) tNext) g.stk g.frm g.g.nd (of_decide_eq_true h5) (of_decide_eq_true h6) ⟨glB_ok h2, (nameOk1 h3).1, .inl xf.mgc⟩ g.g.tk
        (fun W' pn xe tk po => ihb.all (g.tr pn xe tk po) h7)
        (fun a oe cls d pn hz hf => pss_cons (ps_ret ((phl hh).e g.g hz hf h8)) pss_nil)
  | brk =>
    refine ⟨fun {X W st} g h => ?_, fun {X W sts} g h => (by cases sts <;> cases h)⟩
    cases st with
    | Break p => exact ps_break
    | _ => cases h
  | cnt =>
    refine ⟨fun {X W st} g h => ?_, fun {X W sts} g h => (by cases sts <;> cases h)⟩
    cases st with
    | Continue p => exact ps_continue
    | _ => cases h
end
end PF
/-! An error class: its __init__ keeps each argument in a field. -/
namespace PF
open PySem L2 PySem.Spec PyProof.Rows
def tIn (K : PySem.W.Frag) : List Str → Nat → TS
  | [], _ => tNext
  | f :: r, i => tSeq (tOst K f (tVar 0) (tVar i)) (tIn K r (i + 1))
def asFld : Stmt → Option (Str × Str × Str)
  | .Assign [.Attribute (.Name s _) f _] (.Name g _) _ => some (s, f, g)
  | _ => none
theorem asFld_eq {st : Stmt} {s f g : Str} (h : asFld st = some (s, f, g)) : ∃ p1 p2 p3 p4, st = .Assign [.Attribute (.Name s p1) f p2] (.Name g p3) p4 := by
  unfold asFld at h
  split at h
  · cases h; exact ⟨_, _, _, _, rfl⟩
  · cases h
def fldB (N : List Str) (sc : Scope) (f : Str) (i : Nat) : Option (Str × Str × Str) → Bool
  | some (s, f', g) => decide (f' = f) && decide (N[0]? = some s) && decide (N[i]? = some g) && visB sc s && visB sc g && nameOk s && nameOk g
  | none => false
def chkIn (N : List Str) (sc : Scope) : List Str → Nat → List Stmt → Bool
  | [], _, [] => true
  | f :: r, i, st :: sts => fldB N sc f i (asFld st) && chkIn N sc r (i + 1) sts
  | _, _, _ => false
theorem ps_in {X : Cx} : ∀ {fs : List Str} {i : Nat} {sts : List Stmt}, chkIn X.N X.env.scope fs i sts = true → PSs X sts (tIn X.K fs i)
  | [], _, [], _ => pss_nil
  | f :: r, i, st :: sts, h => by
    obtain ⟨h0, h8⟩ := and4 h
    clear h
    cases ha : asFld st with
    | none => rw [ha] at h0; cases h0
    | some q =>
      obtain ⟨s, f', g⟩ := q
      rw [ha] at h0
      obtain ⟨p1, p2, p3, p4, rfl⟩ := asFld_eq ha
      have h : (decide (f' = f) && decide (X.N[0]? = some s) && decide (X.N[i]? = some g) && visB X.env.scope s && visB X.env.scope g && nameOk s && nameOk g) = true := h0
      obtain ⟨h, h7⟩ := and4 h
      obtain ⟨h, h6⟩ := and4 h
      obtain ⟨h, h5⟩ := and4 h
      obtain ⟨h, h4⟩ := and4 h
      obtain ⟨h, h3⟩ := and4 h
      obtain ⟨h1, h2⟩ := and4 h
      have e1 := of_decide_eq_true h1
      subst e1
      exact pss_cons (ps_ost (pe_var (of_decide_eq_true h2) (visB_ok h4) (nameOk1 h6).1 (nameOk1 h6).2.1) (pe_var (of_decide_eq_true h3) (visB_ok h5) (nameOk1 h7).1 (nameOk1 h7).2.1) (swaps_plain rfl)) (ps_in h8)
theorem upd_upd {H : Hp} {a : Addr} {o o' : HO} : upd (upd H a o) a o' = upd H a o' := by
  funext b
  by_cases h : b = a
  · subst h; rw [upd_same, upd_same]
  · rw [upd_ne h, upd_ne h, upd_ne h]
theorem upd_eta {H : Hp} {a : Addr} {o : HO} (h : H a = some o) : upd H a o = H := by
  funext b
  by_cases hb : b = a
  · subst hb; rw [upd_same, h]
  · rw [upd_ne hb]
theorem upd_comm {H : Hp} {a b : Addr} {o o' : HO} (n : a ≠ b) : upd (upd H a o) b o' = upd (upd H b o') a o := by
  funext c
  by_cases h1 : c = a
  · subst h1; rw [upd_ne n, upd_same, upd_same]
  · by_cases h2 : c = b
    · subst h2; rw [upd_same, upd_ne h1, upd_same]
    · rw [upd_ne h2, upd_ne h1, upd_ne h1, upd_ne h2]
theorem in_run {K : PySem.W.Frag} {C a dx : Addr} (ox : OexC K C) : ∀ {fs : List Str} {us : List V} {i : Nat} {acc : List (Str × V)} {H : Hp} {σ : L2.St} {D : Ends}, us.length = fs.length → σ[0]? = some (some (.ref a)) → (∀ (j : Nat) (u : V), us[j]? = some u → σ[i + j]? = some (some u)) →
    H a = some (exo a C (some dx)) → H dx = some (exd dx acc) → a ≠ dx → acc.length + fs.length ≤ 900 → (∀ f ∈ fs, PySem.W.findIn K (.ref C) f = some none) → D.nx σ (upd H dx (exd dx ((fs.zip us).reverse ++ acc))) → tIn K fs i D σ H
  | [], [], i, acc, H, σ, D, _, _, _, _, hd, _, _, _, q => by
    rw [List.zip_nil_left, List.reverse_nil, List.nil_append, upd_eta hd] at q
    exact q
  | f :: fs, u :: us, i, acc, H, σ, D, hl, h0, hu, ha, hd, n, hz, no, q => by
    refine ⟨u, hu 0 u rfl, .ref a, h0, a, C, rfl, ox, no f List.mem_cons_self, .inr ⟨dx, acc, ha, hd, by rw [List.length_cons] at hz; omega, ?_⟩⟩
    refine in_run ox (fs := fs) (us := us) (i := i + 1) (acc := (f, u) :: acc) (by simpa using hl) h0 (fun j v e => by
      have := hu (j + 1) v (by simpa using e)
      rwa [show i + 1 + j = i + (j + 1) by omega]) (by rw [upd_ne n]; exact ha) upd_same n (by rw [List.length_cons] at hz ⊢; omega) (fun g hg => no g (List.mem_cons_of_mem _ hg)) ?_
    rw [upd_upd]
    rw [List.zip_cons_cons, List.reverse_cons, List.append_assoc] at q
    exact q
theorem init_ok {P : Program} {w : World} {K : PySem.W.Frag} {mg : Str → Option Value} {base : Heap} {c x qual : Str} {fs N : List Str} {params : Arguments} {body : List Stmt} {scope : Scope} {fI : Addr} {fd : FuncData} (FD : FunD K x qual params body scope [] [] fI fd)
    (sc : FnScope ("self" :: fs) ("self" :: fs) scope) (hc : chkIn ("self" :: fs) scope fs 1 body = true) (ox : OexC K (He.ga K c)) (no : ∀ f ∈ fs, PySem.W.findIn K (.ref (He.ga K c)) f = some none) (hz : fs.length ≤ 800) :
    FnOk P w K mg base CX0 1 fI fd ("self" :: fs) (spXI K c fs) := by
  refine FD.ok (CX := CX0) sc (fun vs H Q E h => ?_) (fun cdv Ar outer s H vs Q E hr h => ?_)
  · obtain ⟨a, us, rfl, hl, _⟩ := h
    rw [List.length_cons, List.length_cons, hl]
  · obtain ⟨a, us, rfl, hl, h0, ha, q⟩ := h
    refine ⟨tIn K fs 1, ps_in (X := cxOf CX0 P w K mg base ("self" :: fs) qual scope fI cdv Ar outer s H E) hc, ?_⟩
    have hst : ∀ (j : Nat) (u : V), us[j]? = some u → (L2.start ("self" :: fs) (.ref a :: us))[1 + j]? = some (some u) := fun j u e => by
      unfold L2.start
      have hj : j < us.length := (List.getElem?_eq_some_iff.mp e).1
      rw [List.getElem?_append_left (by rw [List.length_map, List.length_cons]; omega), List.getElem?_map, show 1 + j = j + 1 by omega, List.getElem?_cons_succ, e]
      rfl
    have hs0 : (L2.start ("self" :: fs) (.ref a :: us))[0]? = some (some (.ref a)) := rfl
    match fs, us, hl, h0 with
    | f :: fs, u :: us, hl, _ =>
      refine ⟨u, hst 0 u rfl, .ref a, hs0, a, He.ga K c, rfl, ox, no f List.mem_cons_self, .inl ⟨ha, fun dx ndx nda => ?_⟩⟩
      refine in_run ox (dx := dx) (fs := fs) (us := us) (i := 2) (acc := [(f, u)]) (by simpa using hl) hs0 (fun j v e => ?_) upd_same (by rw [upd_ne nda, upd_same]) (fun z => nda z.symm) (by rw [List.length_cons] at hz; simp; omega) (fun g hg => no g (List.mem_cons_of_mem _ hg)) ?_
      · have := hst (j + 1) v (by simpa using e)
        rwa [show 2 + j = 1 + (j + 1) by omega]
      · have q2 := q dx ndx nda
        rw [upd_comm (fun z => nda z.symm), upd_upd]
        rw [List.zip_cons_cons, List.reverse_cons] at q2
        exact q2
def slotsB (sl : Array (Option Value)) : Bool := match sl.toList with
  | [_, _, _, _, some (.builtin n), _] => decide (n = "ValueError.__new__")
  | _ => false
def mroB (C : Addr) : List Value → Bool
  | .ref C' :: bm => decide (C' = C) && HandSPX.refsVE bm
  | _ => false
def oexB (K : PySem.W.Frag) (C : Addr) : Bool :=
  (match K.lookup C with
  | some ⟨.type t, _, .cls cd, sl⟩ => decide (t = "type") && cd.hasDict && !cd.hasDel && slotsB sl && mroB C cd.mro
  | _ => false) &&
  decide (PySem.W.findIn K (.ref C) "__setattr__" = some (some (.builtin "object.__setattr__"))) && decide (PySem.W.subIn K (.ref C) (.type "BaseException") = some true) && decide (PySem.W.typeIn K (.ref C) = some (.type "type")) && PySem.W.keepIn K (.ref C)
theorem oexB_ok {K : PySem.W.Frag} {C : Addr} (h : oexB K C = true) : OexC K C := by
  unfold oexB at h
  obtain ⟨h, h5⟩ := and4 h
  obtain ⟨h, h4⟩ := and4 h
  obtain ⟨h, h3⟩ := and4 h
  obtain ⟨h1, h2⟩ := and4 h
  refine ⟨?_, of_decide_eq_true h2, of_decide_eq_true h3, of_decide_eq_true h4, h5⟩
  split at h1
  · rename_i t dd cd sl hl
    obtain ⟨h1, q5⟩ := and4 h1
    obtain ⟨h1, q4⟩ := and4 h1
    obtain ⟨h1, q3⟩ := and4 h1
    obtain ⟨q1, q2⟩ := and4 h1
    have e1 := of_decide_eq_true q1
    subst e1
    obtain ⟨nm, bs, mro, ns, q, hd, sn, sub, ab, col, hdel⟩ := cd
    have r2' : hd = true := q2
    have r3 : hdel = false := by simpa using q3
    clear q2 q3
    subst r2'
    subst r3
    have q6 : mroB C mro = true := q5
    clear q5 h1
    have key : ∀ mro : List Value, mroB C mro = true → ∃ bm, mro = .ref C :: bm ∧ HandSPX.refsVE bm = true := fun mro h => by
      match mro, h with
      | .ref C' :: bm, h =>
        obtain ⟨r1, r2⟩ := and4 h
        exact ⟨bm, by rw [of_decide_eq_true r1], r2⟩
    obtain ⟨bm, rfl, r2⟩ := key mro q6
    have key2 : ∀ l : List (Option Value), slotsB l.toArray = true → ∃ k0 k1 k2 k3 k5, l = [k0, k1, k2, k3, some (.builtin "ValueError.__new__"), k5] := fun l h => by
      unfold slotsB at h
      split at h
      · rename_i k0 k1 k2 k3 n k5 hs
        have e3 := of_decide_eq_true h
        subst e3
        exact ⟨k0, k1, k2, k3, k5, hs⟩
      · cases h
    obtain ⟨l⟩ := sl
    obtain ⟨k0, k1, k2, k3, k5, rfl⟩ := key2 l q4
    exact ⟨nm, q, ns, bs, bm, sn, sub, ab, col, dd, k0, k1, k2, k3, k5, hl, r2⟩
  · cases h1
end PF
/-! A program's defs by one table: each keeps the interpreter's promise. -/
namespace PF
open PySem L2 PySem.Spec PyProof.Rows
/-- a def: where it stands, its names, its statement, its slots and parameters, its compact text -/
structure Df where
  at_ : Str × Option Str
  x : Str
  qual : Str
  st : Stmt
  N : List Str
  ps : List Str
  fn : Fn
structure DfOk (T : Tb) (d : Df) : Prop where
  sc : FnScope d.N d.ps (defScope d.st)
  bd : ∀ (kV doc pm : Value) (an : Option Addr) (cdv ct : Value) (us : List Value), us.length = d.ps.length → bindArgs (PySem.W.fnOf d.x d.qual (defArgs d.st) (defBody d.st) (defScope d.st) .none kV doc pm an cdv ct) ⟨us, []⟩ = pure (d.ps.zip us)
  chk : chkSs T d.N (defScope d.st) d.fn.body (defBody d.st) = true
  ar : d.fn.ar = d.ps.length
  nm : d.fn.nm = d.N.length
theorem start_sig {K : PySem.W.Frag} {am : List Addr} {Hf H : Hp} {vs : List V} {ds : List D} {N : List Str} {ar nm : Nat} (r : RepL K am Hf vs ds) (h1 : ds.length = ar) (h2 : ar ≤ nm) (h3 : nm = N.length) : Sig K am Hf H H (L2.start N vs) (ds.map Slot.im ++ List.replicate (nm - ar) Slot.un) := by
  have hl : vs.length = ds.length := r.length
  refine ⟨?_, fun i s e => ?_, fun i j p di dj _ e1 _ _ _ => ?_⟩
  · unfold L2.start
    rw [List.length_append, List.length_append, List.length_map, List.length_map, List.length_replicate, List.length_replicate]
    omega
  · by_cases hi : i < ds.length
    · rw [List.getElem?_append_left (by rw [List.length_map]; exact hi), List.getElem?_map, List.getElem?_eq_getElem hi] at e
      cases e
      obtain ⟨v, hv, rv⟩ := r.get (List.getElem?_eq_getElem hi)
      refine ⟨v, ?_, rv⟩
      unfold L2.start
      rw [List.getElem?_append_left (by rw [List.length_map, hl]; exact hi), List.getElem?_map, hv]
      rfl
    · rw [List.getElem?_append_right (by rw [List.length_map]; omega)] at e
      have := List.mem_of_getElem? e
      rw [List.mem_replicate] at this
      rw [this.2]
      trivial
  · by_cases hi : i < ds.length
    · rw [List.getElem?_append_left (by rw [List.length_map]; exact hi), List.getElem?_map, List.getElem?_eq_getElem hi] at e1
      cases e1
    · rw [List.getElem?_append_right (by rw [List.length_map]; omega)] at e1
      have := List.mem_of_getElem? e1
      rw [List.mem_replicate] at this
      cases this.2
/-- the tables hold of the module's names -/
structure Facts (T : Tb) (Ds : List Df) (K : PySem.W.Frag) (mg : Str → Option Value) (ad : Nat → Addr) (fdf : Nat → FuncData) : Prop where
  fn : T.fn = Ds.map (·.x)
  ok : ∀ (f : Nat) (d : Df), Ds[f]? = some d → DfOk T d
  df : ∀ (f : Nat) (d : Df), Ds[f]? = some d → mg d.x = some (.ref (ad f)) ∧ FunD K d.x d.qual (defArgs d.st) (defBody d.st) (defScope d.st) [] [] (ad f) (fdf f)
  gcs : ∀ (x : Str) (d : D), T.gc.lookup x = some d → ∃ u, mg x = some u ∧ RelV (vf d) u
  bls : ∀ x : Str, T.bl.contains x = true → mg x = none
  exs : ∀ (c : Str) (fs : List Str), T.ex.lookup c = some fs → ∀ (P : Program) (w : World) (base : Heap), ExF P w K mg base c fs
  fcs : ∀ d ∈ Ds, ∀ f ∈ fcS d.fn.body, f.ok K = true
theorem prog_ok {T : Tb} {Ds : List Df} {K : PySem.W.Frag} {mg : Str → Option Value} {ad : Nat → Addr} {fdf : Nat → FuncData} {Pg : Program} {w : World} {base : Heap} (cl : Nat → Addr) (Wn : Nat) (A : Facts T Ds K mg ad fdf) :
    ∀ (n f : Nat) (d : Df), Ds[f]? = some d → FnOk Pg w K mg base (L2.CX Pg w) (n + 2) (ad f) (fdf f) d.ps (spOf K cl (call (Ds.map (·.fn)) Wn n) f) := by
  intro n
  induction n with
  | zero =>
    intro f d hd
    have no : ∀ vs H Q E, ¬ spOf K cl (call (Ds.map (·.fn)) Wn 0) f vs H Q E := fun vs H Q E h => by
      obtain ⟨am, st, Hf, ds, _, _, z⟩ := h
      exact z
    exact ⟨fun vs H Q E h => (no _ _ _ _ h).elim, fun _ _ _ _ _ _ _ _ _ _ _ _ _ h => (no _ _ _ _ h).elim⟩
  | succ n ih =>
    intro f d hd
    have dk := A.ok f d hd
    obtain ⟨hm, FD⟩ := A.df f d hd
    have ef : (Ds.map (·.fn))[f]? = some d.fn := by rw [List.getElem?_map, hd]; rfl
    have ec : ∀ ds st, call (Ds.map (·.fn)) Wn (n + 1) f ds st = runF (call (Ds.map (·.fn)) Wn n) Wn d.fn ds st := fun ds st => by
      have h : ∀ o : Option Fn, o = some d.fn → (match o with | some fn => runF (call (Ds.map (·.fn)) Wn n) Wn fn ds st | none => O.bad) = runF (call (Ds.map (·.fn)) Wn n) Wn d.fn ds st := fun o e => by rw [e]
      exact h _ ef
    refine FD.ok (CX := L2.CX Pg w) dk.sc (fun vs H Q E h => ?_) (fun cdv Ar outer s H vs Q E hr h => ?_)
    · obtain ⟨am, st, Hf, ds, w0, r, P⟩ := h
      rw [ec] at P
      unfold runF at P
      split at P
      · rename_i hl
        rw [r.length, hl.1, dk.ar]
      · exact P.elim
    · obtain ⟨am, st, Hf, ds, w0, r, P⟩ := h
      rw [ec] at P
      refine ⟨tS K (spOf K cl (call (Ds.map (·.fn)) Wn n)) (fun cls dd _ H => E cls dd H) d.fn.body, ?_, ?_⟩
      · have tk := takes_of (X := cxOf (L2.CX Pg w) Pg w K mg base d.N d.qual (defScope d.st) (ad f) cdv Ar outer s H E) (E := E) rfl rfl rfl rfl
        have g : Good T (spOf K cl (call (Ds.map (·.fn)) Wn n)) (n + 2) (cxOf (L2.CX Pg w) Pg w K mg base d.N d.qual (defScope d.st) (ad f) cdv Ar outer s H E) (fun cls dd _ H => E cls dd H) := by
          refine ⟨rfl, dk.sc.nd, hr, tk, fun f' x hx => ?_, A.gcs, A.bls, fun c fs h => A.exs c fs h _ _ _⟩
          rw [A.fn, List.getElem?_map] at hx
          cases hd' : Ds[f']? with
          | none => rw [hd'] at hx; cases hx
          | some d' =>
            rw [hd'] at hx
            cases hx
            obtain ⟨hm', FD'⟩ := A.df f' d' hd'
            have dk' := A.ok f' d' hd'
            exact ⟨ad f', fdf f', d'.ps, hm', FD'.kp, ih f' d' hd', FD'.bindsN dk'.bd⟩
        exact (psall d.fn.body).all (X := cxOf (L2.CX Pg w) Pg w K mg base d.N d.qual (defScope d.st) (ad f) cdv Ar outer s H E) ⟨g, fun _ => rfl, dk.sc.kind, passes_of rfl, hr.mono (by omega), rfl, rfl⟩ dk.chk
      · unfold runF at P
        split at P
        · rename_i hl
          refine denS (Wn := Wn) d.fn.body (A.fcs d (List.mem_of_getElem? hd)) (am0 := am) (Hf0 := Hf) (H0 := H) (amL := am) (HfL := Hf) ⟨.refl _ _ _, .refl _, .refl _⟩ w0 (start_sig r hl.1 hl.2 dk.nm) ?_
          cases hh : ex (call (Ds.map (·.fn)) Wn n) Wn d.fn.body (ds.map Slot.im ++ List.replicate (d.fn.nm - d.fn.ar) Slot.un) st with
          | bad => rw [hh] at P; exact P.elim
          | exc x st' => rw [hh] at P; exact P.elim
          | ok fl st' =>
            rw [hh] at P
            cases fl with
            | next ρ => exact fun σ am' Hf' H' fm wf _ => P .non am' Hf' H' fm.fm wf .non
            | ret v => exact fun v am' Hf' H' fm wf rv => P v am' Hf' H' fm.fm wf rv
            | brk ρ => exact P.elim
            | cnt ρ => exact P.elim
            | rse x ρ => exact fun σ c dd am' Hf' H' fm wf _ xo => P c dd am' Hf' H' fm.fm wf xo
        · exact P.elim
end PF
/-! The end: a law holds where the interpreter says True of every script. -/
namespace PF
open PySem L2 PySem.Spec PyProof.Rows
/-- no error leaves the law -/
theorem FnOk.calm {P : Program} {w : World} {K : PySem.W.Frag} {mg : Str → Option Value} {base : Heap} {k : Nat} {f : Addr} {fd : FuncData} {ps : List Str} {sp : Sp} (G : FnOk P w K mg base (L2.CX P w) k f fd ps sp) :
    FnOk P w K mg base CX0 k f fd ps (fun vs H Q _ => sp vs H Q fun _ _ _ => False) := by
  refine ⟨fun vs H Q E h => G.len _ _ _ _ h, fun A outer s H args us vs Q E hr he hb hv h => codeAny_mono (G.run A outer s H args us vs Q (fun _ _ _ => False) hr he hb hv h) fun r s' q => ?_⟩
  cases r with
  | ok fl =>
    cases fl with
    | ret u => exact q
    | next => exact q
    | brk => exact q
    | cont => exact q
  | error e =>
    obtain ⟨_, _, _, _, _, _, _, _, _, _, _, _, z⟩ := q
    exact z.elim
def gcFa : Str × D → He.Fa
  | (x, .int i) => .int x i
  | (x, .str s) => .str x (tx s)
  | (x, _) => .free x
def gcOkB : Str × D → Bool
  | (_, .int _) => true
  | (_, .str _) => true
  | _ => false
def clsB : Stmt → List Stmt
  | .ClassDef _ _ _ b _ _ _ _ _ _ _ => b
  | _ => []
/-- an error class with its __init__ -/
structure Xd where
  c : Str
  fs : List Str
  qual : Str
  st : Stmt
structure XdOk (d : Xd) : Prop where
  sc : FnScope ("self" :: d.fs) ("self" :: d.fs) (defScope d.st)
  bd : ∀ (kV doc pm : Value) (an : Option Addr) (cdv ct : Value) (us : List Value), us.length = (("self" :: d.fs : List Str)).length → bindArgs (PySem.W.fnOf "__init__" d.qual (defArgs d.st) (defBody d.st) (defScope d.st) .none kV doc pm an cdv ct) ⟨us, []⟩ = pure (("self" :: d.fs : List Str).zip us)
  chk : chkIn ("self" :: d.fs) (defScope d.st) d.fs 1 (defBody d.st) = true
  few : d.fs.length ≤ 800
def faOf (T : Tb) (Ds : List Df) (Xs : List Xd) : List He.Fa := Ds.map (fun d => .glo d.x) ++ (T.bl.map .free ++ (T.gc.map gcFa ++ (Xs.map (fun x => .glo x.c) ++ (Xs.flatMap (fun x => x.fs.map (.noat x.c)) ++ Ds.flatMap (fun d => fcS d.fn.body)))))
def fnsOf (Ds : List Df) (Xs : List Xd) : List He.DefD := Ds.map (fun d => ⟨d.at_, d.x, d.qual, defArgs d.st, defBody d.st, defScope d.st, [], []⟩) ++ Xs.map fun x => ⟨(x.c, some "__init__"), "__init__", x.qual, defArgs x.st, defBody x.st, defScope x.st, [], []⟩
def exB (Xs : List Xd) (K : PySem.W.Frag) : Bool := Xs.all fun x => oexB K (He.ga K x.c) && xfB K (He.ga K x.c) && decide (PySem.W.findIn K (.ref (He.ga K x.c)) "__init__" = some (some (.ref (He.ma K (He.ga K x.c) "__init__")))) && decide (PySem.W.typeIn K (.ref (He.ma K (He.ga K x.c) "__init__")) = some (.type "function"))
theorem says_mem {fa : List He.Fa} {fn : List He.DefD} {K : PySem.W.Frag} (c : He.SaysD fa fn K) {f : He.Fa} (h : f ∈ fa) : f.ok K = true := by
  obtain ⟨i, hi⟩ := List.mem_iff_getElem?.mp h
  exact c.fact i hi
theorem says_def {fa : List He.Fa} {fn : List He.DefD} {K : PySem.W.Frag} (c : He.SaysD fa fn K) {d : He.DefD} (h : d ∈ fn) : ∃ fd, FunD K d.name d.qual d.params d.body d.scope (He.DefD.dvs K d) (He.DefD.kws K d) (He.fAd K d.at_) fd := by
  obtain ⟨i, hi⟩ := List.mem_iff_getElem?.mp h
  exact c.def_ i hi
theorem facts_of {T : Tb} {Ds : List Df} {Xs : List Xd} {K : PySem.W.Frag} {w : World} {h : Heap} {mg : Str → Option Value} (X : K.In h) (G : h.Ns mainGlobals mg) (cx : He.SaysX (faOf T Ds Xs) (fnsOf Ds Xs) [] [] (exB Xs) w h K) (hfn : T.fn = Ds.map (·.x)) (hex : T.ex = Xs.map fun x => (x.c, x.fs)) (hok : ∀ (f : Nat) (d : Df), Ds[f]? = some d → DfOk T d) (hxk : ∀ x ∈ Xs, XdOk x)
    (hat : Ds.all (fun d => decide (d.at_ = (d.x, none))) = true) (hgc : T.gc.all gcOkB = true) : ∃ (ad : Nat → Addr) (fdf : Nat → FuncData), Facts T Ds K mg ad fdf := by
  have c : He.SaysD (faOf T Ds Xs) (fnsOf Ds Xs) K := cx.t.d
  have key : ∀ f : Nat, ∃ (a : Addr) (fd : FuncData), ∀ d, Ds[f]? = some d → mg d.x = some (.ref a) ∧ FunD K d.x d.qual (defArgs d.st) (defBody d.st) (defScope d.st) [] [] a fd := fun f => by
    cases hd : Ds[f]? with
    | none => exact ⟨0, default, fun d e => by cases e⟩
    | some d =>
      have hm : d ∈ Ds := List.mem_of_getElem? hd
      have ha : d.at_ = (d.x, none) := of_decide_eq_true (List.all_eq_true.mp hat d hm)
      obtain ⟨fd, F⟩ := says_def c (d := ⟨d.at_, d.x, d.qual, defArgs d.st, defBody d.st, defScope d.st, [], []⟩) (List.mem_append_left _ (List.mem_map.mpr ⟨d, hm, rfl⟩))
      refine ⟨He.fAd K d.at_, fd, fun d' e => ?_⟩
      cases e
      refine ⟨?_, F⟩
      rw [ha]
      exact He.glo_ok X G (says_mem c (List.mem_append_left _ (List.mem_map.mpr ⟨d, hm, rfl⟩)))
  refine ⟨fun f => Classical.choose (key f), fun f => Classical.choose (Classical.choose_spec (key f)), hfn, hok, fun f d hd => Classical.choose_spec (Classical.choose_spec (key f)) d hd, fun x d hx => ?_, fun x hx => ?_, fun c' fs hx P w' base => ?_, fun d hd f hf => ?_⟩
  · have hm : (x, d) ∈ T.gc := PySem.mem_of_lookup hx
    have hq := says_mem c (f := gcFa (x, d)) (List.mem_append_right _ (List.mem_append_right _ (List.mem_append_left _ (List.mem_map.mpr ⟨_, hm, rfl⟩))))
    have hg := List.all_eq_true.mp hgc _ hm
    cases d with
    | int i =>
      obtain ⟨t, e⟩ := He.int_ok X G hq
      exact ⟨_, e, t, rfl⟩
    | str s =>
      obtain ⟨t, e⟩ := He.str_ok X G hq
      exact ⟨_, e, t, rfl⟩
    | _ => cases hg
  · have hm : x ∈ T.bl := List.contains_iff_mem.mp hx
    exact He.free_ok X G (says_mem c (List.mem_append_right _ (List.mem_append_left _ (List.mem_map.mpr ⟨x, hm, rfl⟩))))
  · rw [hex] at hx
    obtain ⟨x, hm, e⟩ := List.mem_map.mp (PySem.mem_of_lookup hx)
    cases e
    have xk := hxk x hm
    have hb := List.all_eq_true.mp cx.more x hm
    obtain ⟨hb, b4⟩ := and4 hb
    obtain ⟨hb, b3⟩ := and4 hb
    obtain ⟨b1, b2⟩ := and4 hb
    have ox := oexB_ok b1
    have no : ∀ f ∈ x.fs, PySem.W.findIn K (.ref (He.ga K x.c)) f = some none := fun f hf =>
      He.noat_ok (says_mem c (f := .noat x.c f) (List.mem_append_right _ (List.mem_append_right _ (List.mem_append_right _ (List.mem_append_right _ (List.mem_append_left _ (List.mem_flatMap.mpr ⟨x, hm, List.mem_map.mpr ⟨f, hf, rfl⟩⟩)))))))
    obtain ⟨fd, F⟩ := says_def c (d := ⟨(x.c, some "__init__"), "__init__", x.qual, defArgs x.st, defBody x.st, defScope x.st, [], []⟩) (List.mem_append_right _ (List.mem_map.mpr ⟨x, hm, rfl⟩))
    exact ⟨He.glo_ok X G (says_mem c (List.mem_append_right _ (List.mem_append_right _ (List.mem_append_right _ (List.mem_append_left _ (List.mem_map.mpr ⟨x, hm, rfl⟩)))))), ox, xfB_ok b2, no, _, fd, of_decide_eq_true b3, of_decide_eq_true b4, init_ok (N := []) F xk.sc xk.chk ox no xk.few, FunD.bindsN F xk.bd⟩
  · exact says_mem c (List.mem_append_right _ (List.mem_append_right _ (List.mem_append_right _ (List.mem_append_right _ (List.mem_append_right _ (List.mem_flatMap.mpr ⟨d, hd, hf⟩))))))
/-- the interpreter's run of the law -/
def lawRun (Ds : List Df) (Wn n f : Nat) (ns : List Int) : O D := call (Ds.map (·.fn)) Wn n f [.scr (ns.map .int)] []
theorem repInts {K : PySem.W.Frag} {am : List Addr} {H : Hp} : ∀ ns : List Int, RepL K am H (ns.map V.int) (ns.map D.int)
  | [] => .nil
  | i :: r => .cons (.int i) (repInts r)
theorem law_sp {K : PySem.W.Frag} {Ds : List Df} {Wn n f : Nat} {H : Hp} {a : Addr} {ns : List Int} (hl : ns.length ≤ 63) (hS : SqL K H a (ns.map V.int)) (hr : ∃ st, lawRun Ds Wn n f ns = .ok (.bl true) st) :
    spOf K (fun _ => 0) (call (Ds.map (·.fn)) Wn n) f [.ref a] H (fun v _ => v = .bl true) fun _ _ _ => False := by
  obtain ⟨st, e⟩ := hr
  refine ⟨[], [], H, [.scr (ns.map .int)], ⟨rfl, .nil, .refl _, fun n a c h => by simp at h, fun a h => by cases h⟩, .cons (.scr (by rw [List.length_map]; exact Nat.le_trans hl (by decide)) hS (repInts ns)) .nil, ?_⟩
  unfold lawRun at e
  rw [e]
  exact fun v am' Hf' H' _ _ r => r.vBl
end PF
/-! Reasoning about the interpreter: loops, comprehensions, pools. -/
namespace PF
open PySem L2
theorem call_at {T : List Fn} {W n f : Nat} {fn : Fn} (h : T[f]? = some fn) (args : List D) (st : Store) : call T W (n + 1) f args st = runF (call T W n) W fn args st := by
  show (match T[f]? with | some fn => runF (call T W n) W fn args st | none => .bad) = _
  rw [h]
theorem mapO_pure {f : D → Store → O (Option D)} {g : D → D} : ∀ {xs : List D} {st : Store}, (∀ x ∈ xs, ∀ st, f x st = .ok (some (g x)) st) → mapO f xs st = .ok (xs.map g) st
  | [], st, _ => rfl
  | x :: xs, st, h => by
    rw [mapO, h x List.mem_cons_self]
    show (mapO f xs st).bind _ = _
    rw [mapO_pure fun y hy => h y (List.mem_cons_of_mem _ hy)]
    rfl
theorem mapO_filter {f : D → Store → O (Option D)} {g : D → D} {p : D → Bool} : ∀ {xs : List D} {st : Store}, (∀ x ∈ xs, ∀ st, f x st = .ok (if p x then some (g x) else none) st) → mapO f xs st = .ok ((xs.filter p).map g) st
  | [], st, _ => rfl
  | x :: xs, st, h => by
    rw [mapO, h x List.mem_cons_self]
    show (mapO f xs st).bind _ = _
    rw [mapO_filter fun y hy => h y (List.mem_cons_of_mem _ hy)]
    cases hp : p x
    · simp [hp]
    · simp [hp]
/-- a comprehension whose elements hang on the store: an invariant of the store -/
theorem mapO_inv {f : D → Store → O (Option D)} (I : Store → Prop) (R : D → Prop) : ∀ {xs : List D} {st : Store}, I st → (∀ x ∈ xs, ∀ st, I st → ∃ y st', f x st = .ok (some y) st' ∧ I st' ∧ R y) → ∃ ys st', mapO f xs st = .ok ys st' ∧ I st' ∧ ys.length = xs.length ∧ ∀ y ∈ ys, R y
  | [], st, h, _ => ⟨[], st, rfl, h, rfl, fun y hy => by cases hy⟩
  | x :: xs, st, h, k => by
    obtain ⟨y, st1, e1, i1, r1⟩ := k x List.mem_cons_self st h
    obtain ⟨ys, st2, e2, i2, l2, r2⟩ := mapO_inv I R i1 fun z hz => k z (List.mem_cons_of_mem _ hz)
    refine ⟨y :: ys, st2, ?_, i2, by rw [List.length_cons, List.length_cons, l2], fun z hz => ?_⟩
    · rw [mapO, e1]
      show (mapO f xs st1).bind _ = _
      rw [e2]
      rfl
    · rcases List.mem_cons.mp hz with rfl | hz
      · exact r1
      · exact r2 z hz
theorem forO_inv {f : D → Env → Store → O Fl} (I : Env → Store → Prop) : ∀ {xs : List D} {ρ : Env} {st : Store}, I ρ st → (∀ x ∈ xs, ∀ ρ st, I ρ st → ∃ ρ' st', f x ρ st = .ok (.next ρ') st' ∧ I ρ' st') → ∃ ρ' st', forO f xs ρ st = .ok (.next ρ') st' ∧ I ρ' st'
  | [], ρ, st, h, _ => ⟨ρ, st, rfl, h⟩
  | x :: xs, ρ, st, h, k => by
    obtain ⟨ρ1, st1, e1, i1⟩ := k x List.mem_cons_self ρ st h
    obtain ⟨ρ2, st2, e2, i2⟩ := forO_inv I i1 fun z hz => k z (List.mem_cons_of_mem _ hz)
    refine ⟨ρ2, st2, ?_, i2⟩
    rw [forO, e1]
    exact e2
theorem boolsOf_map (p : D → Bool) : ∀ xs : List D, boolsOf (xs.map fun x => .bl (p x)) = some (xs.map p)
  | [] => rfl
  | x :: xs => by rw [List.map_cons, boolsOf, boolsOf_map p xs]; rfl
theorem kit_str : kitB "str" "str" = some true := by decide +kernel
theorem kit_str_non : kitB "NoneType" "str" = some false := by decide +kernel
theorem kit_str_bl : kitB "bool" "str" = some false := by decide +kernel
theorem kit_str_int : kitB "int" "str" = some false := by decide +kernel
theorem kit_str_lst : kitB "list" "str" = some false := by decide +kernel
theorem kit_str_tup : kitB "tuple" "str" = some false := by decide +kernel
theorem kit_str_dct : kitB "dict" "str" = some false := by decide +kernel
/-- a pool: its great number, its seed -/
def PoolAt (st : Store) (a : Nat) : Prop := ∃ g s : Int, st[a]? = some (.lst [.int g, .int s]) ∧ 0 ≤ s ∧ s < 2147483647
theorem PoolAt.lt {st : Store} {a : Nat} (h : PoolAt st a) : a < st.length := by
  obtain ⟨g, s, e, _⟩ := h
  exact (List.getElem?_eq_some_iff.mp e).1
theorem PoolAt.set {st : Store} {a : Nat} (h : a < st.length) (g s : Int) (h1 : 0 ≤ s) (h2 : s < 2147483647) : PoolAt (st.set a (.lst [.int g, .int s])) a := ⟨g, s, by rw [List.getElem?_set_self h], h1, h2⟩
/-! ### one rule a form, for simp -/
section
variable {C : Calls} {W : Nat} {ρ : Env} {st : Store}
@[simp] theorem ev_var {i : Nat} : ev C (.var i) ρ st = lift (slotD ρ i) st := rfl
@[simp] theorem ev_cst {d : D} : ev C (.cst d) ρ st = if okC d then .ok d st else .bad := rfl
@[simp] theorem ev_glb {x : Str} {d : D} : ev C (.glb x d) ρ st = if okC d then .ok d st else .bad := rfl
@[simp] theorem ev_bin {o : BOp} {a b : E} : ev C (.bin o a b) ρ st = (opd a (ev C a) ρ st).bind fun x st => (opd b (ev C b) ρ st).bind fun y st => lift (binD o x y) st := rfl
@[simp] theorem ev_neg {a : E} : ev C (.neg a) ρ st = (ev C a ρ st).bind fun x st => lift (match x with | .int i => some (.int (-i)) | _ => none) st := rfl
@[simp] theorem ev_cmp {o : COp} {a b : E} : ev C (.cmp o a b) ρ st = (opd a (ev C a) ρ st).bind fun x st => (opd b (ev C b) ρ st).bind fun y st => lift ((cmpD o x y).map .bl) st := rfl
@[simp] theorem ev_chn {o p : COp} {a b c : E} : ev C (.chn o p a b c) ρ st = (opd a (ev C a) ρ st).bind fun x st => (opd b (ev C b) ρ st).bind fun y st => (lift (cmpD o x y) st).bind fun k st =>
      if k then (opd c (ev C c) ρ st).bind fun z st => lift ((cmpD p y z).map .bl) st else .ok (.bl false) st := rfl
@[simp] theorem ev_and {a b : E} : ev C (.and a b) ρ st = (ev C a ρ st).bind fun x st => (lift (truthD x) st).bind fun k st => if k then ev C b ρ st else .ok x st := rfl
@[simp] theorem ev_or {a b : E} : ev C (.or a b) ρ st = (ev C a ρ st).bind fun x st => (lift (truthD x) st).bind fun k st => if k then .ok x st else ev C b ρ st := rfl
@[simp] theorem ev_not {a : E} : ev C (.not a) ρ st = (opd a (ev C a) ρ st).bind fun x st => lift ((truthD x).map fun k => .bl !k) st := rfl
@[simp] theorem ev_ite {c a b : E} : ev C (.ite c a b) ρ st = (evT C c ρ st).bind fun k st => if k then ev C a ρ st else ev C b ρ st := rfl
@[simp] theorem ev_tup {a : E} : ev C (.tup a) ρ st = (evs C a ρ st).bind fun xs st => if xs.length ≤ line then .ok (.tup xs) st else .bad := rfl
@[simp] theorem ev_lst {a : E} : ev C (.lst a) ρ st = (evs C a ρ st).bind fun xs st => if xs.length ≤ line then .ok (.lst xs) st else .bad := rfl
@[simp] theorem ev_new {a : E} : ev C (.new a) ρ st = (evs C a ρ st).bind fun xs st => if xs.length ≤ line then .ok (.ref st.length) (st ++ [.lst xs]) else .bad := rfl
@[simp] theorem ev_dsp {a : E} : ev C (.dsp a) ρ st = (evp C a ρ st).bind fun ps st => lift (dspD ps) st := rfl
@[simp] theorem ev_idx {a b : E} : ev C (.idx a b) ρ st = (opd a (ev C a) ρ st).bind fun x st => (ev C b ρ st).bind fun y st => lift (idxD st x y) st := rfl
@[simp] theorem ev_slc {a lo hi : E} : ev C (.slc a lo hi) ρ st = (opd a (ev C a) ρ st).bind fun x st =>
      (if isNil lo then .ok none st else (ev C lo ρ st).bind fun l st => lift (partD l) st).bind fun l st =>
      (if isNil hi then .ok none st else (ev C hi ρ st).bind fun h st => lift (partD h) st).bind fun h st => lift (slcD x l h) st := rfl
@[simp] theorem ev_cb {f : BF} {a : E} : ev C (.cb f a) ρ st = (evo C a ρ st).bind fun xs st => lift (bfD st f xs) st := rfl
@[simp] theorem ev_bm {m : BM} {o a : E} : ev C (.bm m o a) ρ st = (ev C o ρ st).bind fun x st => if bmKind m x then (evo C a ρ st).bind fun xs st => lift (bmD st m x xs) st else .bad := rfl
@[simp] theorem ev_call {f : Nat} {a : E} : ev C (.call f a) ρ st = (evs C a ρ st).bind fun xs st => C f xs st := rfl
@[simp] theorem evs_nil : evs C .nil ρ st = .ok [] st := rfl
@[simp] theorem evs_cons {a b : E} : evs C (.cons a b) ρ st = (ev C a ρ st).bind fun x st => (evs C b ρ st).bind fun xs st => .ok (x :: xs) st := rfl
@[simp] theorem evp_nil : evp C .nil ρ st = .ok [] st := rfl
@[simp] theorem evp_con2 {k v r : E} : evp C (.con2 k v r) ρ st = (ev C k ρ st).bind fun x st => (ev C v ρ st).bind fun y st => (evp C r ρ st).bind fun ps st => .ok ((x, y) :: ps) st := rfl
@[simp] theorem evo_nil : evo C .nil ρ st = .ok [] st := rfl
@[simp] theorem evo_cons {a b : E} : evo C (.cons a b) ρ st = (opd a (ev C a) ρ st).bind fun x st => (evo C b ρ st).bind fun xs st => .ok (x :: xs) st := rfl
@[simp] theorem evT_and {a b : E} : evT C (.and a b) ρ st = (evT C a ρ st).bind fun k st => if k then evT C b ρ st else .ok false st := rfl
@[simp] theorem evT_or {a b : E} : evT C (.or a b) ρ st = (evT C a ρ st).bind fun k st => if k then .ok true st else evT C b ρ st := rfl
@[simp] theorem evT_not {a : E} : evT C (.not a) ρ st = (evT C a ρ st).bind fun k st => .ok (!k) st := rfl
@[simp] theorem evT_tst {a : E} : evT C (.tst a) ρ st = (opd a (ev C a) ρ st).bind fun x st => lift (truthD x) st := rfl
@[simp] theorem evT_tcm {o : COp} {a b : E} : evT C (.tcm o a b) ρ st = (opd a (ev C a) ρ st).bind fun x st => (opd b (ev C b) ρ st).bind fun y st => lift (cmpD o x y) st := rfl
@[simp] theorem evT_tch {o p : COp} {a b c : E} : evT C (.tch o p a b c) ρ st = (opd a (ev C a) ρ st).bind fun x st => (opd b (ev C b) ρ st).bind fun y st => (lift (cmpD o x y) st).bind fun k st =>
      if k then (opd c (ev C c) ρ st).bind fun z st => lift (cmpD p y z) st else .ok false st := rfl
@[simp] theorem ex_skip : ex C W .skip ρ st = .ok (.next ρ) st := rfl
@[simp] theorem ex_seq {a b : S} : ex C W (.seq a b) ρ st = seqK (ex C W a ρ st) fun ρ st => ex C W b ρ st := by
  show (ex C W a ρ st).bind _ = _
  cases h : ex C W a ρ st with
  | ok fl s => cases fl <;> rfl
  | exc _ _ => rfl
  | bad => rfl
@[simp] theorem ex_set {i : Nat} {e : E} : ex C W (.set i e) ρ st = (ev C e ρ st).thn ρ fun d st => (lift (setS ρ i d) st).bind fun ρ st => .ok (.next ρ) st := rfl
@[simp] theorem ex_own {i : Nat} {e : E} : ex C W (.own i e) ρ st = if fresh e then (ev C e ρ st).thn ρ fun d st => (lift (ownS ρ i d) st).bind fun ρ st => .ok (.next ρ) st else .bad := rfl
@[simp] theorem ex_frz {i : Nat} : ex C W (.frz i) ρ st = (lift (frzS ρ i) st).bind fun ρ st => .ok (.next ρ) st := rfl
@[simp] theorem ex_app {i : Nat} {e : E} : ex C W (.app i e) ρ st = (lift (olS ρ i) st).bind fun ds st => (ev C e ρ st).thn ρ fun d st => if ds.length < line then .ok (.next (ρ.set i (.ol (ds ++ [d])))) st else .bad := rfl
@[simp] theorem ex_ext {i : Nat} {e : E} : ex C W (.ext i e) ρ st = (lift (olS ρ i) st).bind fun ds st => (ev C e ρ st).thn ρ fun d st => (lift (lstD d) st).bind fun es st => if ds.length + es.length ≤ line then .ok (.next (ρ.set i (.ol (ds ++ es)))) st else .bad := rfl
@[simp] theorem ex_aug {i : Nat} {o : BOp} {e : E} : ex C W (.aug i o e) ρ st = (lift (slotD ρ i) st).bind fun x st => (ev C e ρ st).thn ρ fun d st => (lift (augD o x d) st).bind fun z st => (lift (setS ρ i z) st).bind fun ρ st => .ok (.next ρ) st := rfl
@[simp] theorem ex_put {o k e : E} : ex C W (.put o k e) ρ st = (ev C e ρ st).thn ρ fun d st => (ev C o ρ st).thn ρ fun x st => (ev C k ρ st).thn ρ fun y st => match putS st x y d with | some st => .ok (.next ρ) st | none => .bad := rfl
@[simp] theorem ex_exp {e : E} : ex C W (.exp e) ρ st = (ev C e ρ st).thn ρ fun _ st => .ok (.next ρ) st := rfl
@[simp] theorem ex_ret {e : E} : ex C W (.ret e) ρ st = (ev C e ρ st).thn ρ fun d st => .ok (.ret d) st := rfl
@[simp] theorem ex_retn : ex C W .retn ρ st = .ok (.ret .non) st := rfl
@[simp] theorem ex_ite {c : E} {a b : S} : ex C W (.ite c a b) ρ st = (evT C c ρ st).thn ρ fun k st => if k then ex C W a ρ st else ex C W b ρ st := rfl
@[simp] theorem ex_brk : ex C W .brk ρ st = .ok (.brk ρ) st := rfl
@[simp] theorem ex_cnt : ex C W .cnt ρ st = .ok (.cnt ρ) st := rfl
theorem ex_for {j : Nat} {src : E} {b : S} : ex C W (.for_ j src b) ρ st = (ev C src ρ st).thn ρ fun s st => (lift (itemsD s) st).bind fun xs st => forO (fun x ρ st => (lift (setS ρ j x) st).bind fun ρ st => ex C W b ρ st) xs ρ st := rfl
theorem ex_forr {j : Nat} {a : E} {b : S} : ex C W (.forr j a b) ρ st = (evs C a ρ st).thn ρ fun as st => (lift (rangeD as) st).bind fun xs st => forO (fun x ρ st => (lift (setS ρ j x) st).bind fun ρ st => ex C W b ρ st) xs ρ st := rfl
theorem ex_whl {c : E} {b : S} : ex C W (.whl c b) ρ st = whlO (evT C c) (ex C W b) W ρ st := rfl
end
@[simp] theorem binD_addI {i j : Int} : binD .add (.int i) (.int j) = some (.int (i + j)) := rfl
@[simp] theorem binD_sub {i j : Int} : binD .sub (.int i) (.int j) = some (.int (i - j)) := rfl
@[simp] theorem binD_addS {a b : Tx} : binD .add (.str a) (.str b) = if a.length + b.length ≤ line then some (.str (a ++ b)) else none := rfl
@[simp] theorem binD_addL {a b : List D} : binD .add (.lst a) (.lst b) = if a.length + b.length ≤ line then some (.lst (a ++ b)) else none := rfl
@[simp] theorem binD_mul {i j : Int} : binD .mul (.int i) (.int j) = if mulOk i j then some (.int (i * j)) else none := rfl
@[simp] theorem binD_mulS {a : Tx} {n : Int} : binD .mul (.str a) (.int n) = if 2 ≤ n ∧ 0 < a.length ∧ a.length * n.toNat ≤ line then some (.str (List.replicate n.toNat a).flatten) else none := rfl
@[simp] theorem binD_mod {i j : Int} : binD .mod (.int i) (.int j) = if 0 < j then some (.int (i % j)) else none := rfl
@[simp] theorem binD_fdiv {i j : Int} : binD .fdiv (.int i) (.int j) = if 0 < j ∧ j < 1073741824 then some (.int (i / j)) else none := rfl
@[simp] theorem binD_pow {i j : Int} : binD .pow (.int i) (.int j) = if 0 ≤ j ∧ j ≤ 1000000 ∧ i.natAbs < 2 ^ 64 then some (.int (i ^ j.toNat)) else none := rfl
@[simp] theorem cmpD_eq {x y : D} : cmpD .eq x y = deq x y := rfl
@[simp] theorem cmpD_ne {x y : D} : cmpD .ne x y = (deq x y).map (!·) := rfl
@[simp] theorem cmpD_lt {i j : Int} : cmpD .lt (.int i) (.int j) = some (decide (i < j)) := rfl
@[simp] theorem cmpD_le {i j : Int} : cmpD .le (.int i) (.int j) = some (decide (i ≤ j)) := rfl
@[simp] theorem cmpD_gt {i j : Int} : cmpD .gt (.int i) (.int j) = some (decide (j < i)) := rfl
@[simp] theorem cmpD_ge {i j : Int} : cmpD .ge (.int i) (.int j) = some (decide (j ≤ i)) := rfl
@[simp] theorem cmpD_is {x y : D} : cmpD .is x y = isD x y := rfl
@[simp] theorem cmpD_isnot {x y : D} : cmpD .isnot x y = (isD x y).map (!·) := rfl
@[simp] theorem cmpD_in {x y : D} : cmpD .inn x y = inD x y := rfl
@[simp] theorem cmpD_notin {x y : D} : cmpD .notin x y = (inD x y).map (!·) := rfl
@[simp] theorem deq_int {i j : Int} : deq (.int i) (.int j) = some (i == j) := rfl
@[simp] theorem deq_str {i j : Tx} : deq (.str i) (.str j) = some (i == j) := rfl
@[simp] theorem deq_bl {i j : Bool} : deq (.bl i) (.bl j) = some (i == j) := rfl
@[simp] theorem deq_non : deq .non .non = some true := rfl
@[simp] theorem isD_non : isD .non .non = some true := rfl
@[simp] theorem isD_bl {i j : Bool} : isD (.bl i) (.bl j) = some (i == j) := rfl
@[simp] theorem isD_int_non {i : Int} : isD (.int i) .non = some false := rfl
@[simp] theorem isD_str_non {i : Tx} : isD (.str i) .non = some false := rfl
@[simp] theorem isD_lst_non {i : List D} : isD (.lst i) .non = some false := rfl
@[simp] theorem isD_tup_non {i : List D} : isD (.tup i) .non = some false := rfl
@[simp] theorem isD_dct_non {i : List (Key × D)} : isD (.dct i) .non = some false := rfl
@[simp] theorem isD_bl_non {i : Bool} : isD (.bl i) .non = some false := rfl
@[simp] theorem inD_sign {c : Nat} {b : Tx} : inD (.str [c]) (.str b) = some (decide (c ∈ b)) := rfl
@[simp] theorem truthD_non : truthD .non = some false := rfl
@[simp] theorem truthD_bl {b : Bool} : truthD (.bl b) = some b := rfl
@[simp] theorem truthD_int {i : Int} : truthD (.int i) = some (i != 0) := rfl
@[simp] theorem truthD_str {s : Tx} : truthD (.str s) = some !s.isEmpty := rfl
@[simp] theorem truthD_lst {s : List D} : truthD (.lst s) = some !s.isEmpty := rfl
@[simp] theorem truthD_tup {s : List D} : truthD (.tup s) = some !s.isEmpty := rfl
@[simp] theorem idxD_lst {st : Store} {xs : List D} {i : Int} : idxD st (.lst xs) (.int i) = atI xs i := rfl
@[simp] theorem idxD_scr {st : Store} {xs : List D} {i : Int} : idxD st (.scr xs) (.int i) = atI xs i := rfl
@[simp] theorem idxD_tup {st : Store} {xs : List D} {i : Int} : idxD st (.tup xs) (.int i) = atI xs i := rfl
@[simp] theorem idxD_str {st : Store} {s : Tx} {i : Int} : idxD st (.str s) (.int i) = (atI s i).map fun c => .str [c] := rfl
theorem idxD_ref {st : Store} {n : Nat} {i : Int} {xs : List D} (h : st[n]? = some (.lst xs)) : idxD st (.ref n) (.int i) = atI xs i := by
  show (match st[n]? with | some (.lst xs) => atI xs i | _ => none) = _
  rw [h]
theorem putS_ref {st : Store} {n : Nat} {i : Int} {d : D} {xs : List D} (h : st[n]? = some (.lst xs)) : putS st (.ref n) (.int i) d = (ixN xs.length i).map fun j => st.set n (.lst (xs.set j d)) := by
  show (match st[n]? with | some (.lst xs) => (ixN xs.length i).map fun j => st.set n (.lst (xs.set j d)) | _ => none) = _
  rw [h]
@[simp] theorem atI_0 {α : Type} {xs : List α} : atI xs 0 = xs[0]? := by
  cases xs <;> simp [atI, ixN]
@[simp] theorem atI_1 {α : Type} {xs : List α} : atI xs 1 = xs[1]? := by
  unfold atI ixN
  rw [if_pos (by decide)]
  by_cases h : (1 : Int) < xs.length
  · rw [if_pos h]; rfl
  · rw [if_neg h, List.getElem?_eq_none (by omega)]; rfl
@[simp] theorem atI_2 {α : Type} {xs : List α} : atI xs 2 = xs[2]? := by
  unfold atI ixN
  rw [if_pos (by decide)]
  by_cases h : (2 : Int) < xs.length
  · rw [if_pos h]; rfl
  · rw [if_neg h, List.getElem?_eq_none (by omega)]; rfl
theorem atI_in {α : Type} {xs : List α} {d : Int} (h0 : 0 ≤ d) (h1 : d < xs.length) : atI xs d = some (xs[d.toNat]'(by omega)) := by
  unfold atI ixN
  rw [if_pos h0, if_pos h1]
  exact List.getElem?_eq_getElem (by omega)
@[simp] theorem slcD_lst {xs : List D} {lo hi : Option Int} : slcD (.lst xs) lo hi = some (.lst (cut xs lo hi)) := rfl
@[simp] theorem slcD_str {xs : Tx} {lo hi : Option Int} : slcD (.str xs) lo hi = some (.str (cut xs lo hi)) := rfl
@[simp] theorem slcD_tup {xs : List D} {lo hi : Option Int} : slcD (.tup xs) lo hi = if HT.sIx xs.length 0 lo = 0 ∧ HT.sIx xs.length xs.length hi = xs.length then none else some (.tup (cut xs lo hi)) := rfl
@[simp] theorem bfD_len_str {st : Store} {s : Tx} : bfD st .len [.str s] = some (.int s.length) := rfl
@[simp] theorem bfD_len_lst {st : Store} {s : List D} : bfD st .len [.lst s] = some (.int s.length) := rfl
@[simp] theorem bfD_len_tup {st : Store} {s : List D} : bfD st .len [.tup s] = some (.int s.length) := rfl
@[simp] theorem bfD_len_scr {st : Store} {s : List D} : bfD st .len [.scr s] = some (.int s.length) := rfl
@[simp] theorem bfD_max {st : Store} {i j : Int} : bfD st .max2 [.int i, .int j] = some (.int (if j > i then j else i)) := rfl
@[simp] theorem bfD_min {st : Store} {i j : Int} : bfD st .min2 [.int i, .int j] = some (.int (if j < i then j else i)) := rfl
@[simp] theorem bfD_int {st : Store} {i : Int} : bfD st .int [.int i] = some (.int i) := rfl
@[simp] theorem bfD_int_str {st : Store} {s : Tx} : bfD st .int [.str s] = if s.length ≤ 640 then (PySem.intText? (tx s)).map .int else none := rfl
@[simp] theorem bfD_str {st : Store} {i : Int} : bfD st .str [.int i] = if i.natAbs.log2 < 1920 ∧ (unt (toString i)).length ≤ line then some (.str (unt (toString i))) else none := rfl
@[simp] theorem bfD_list_lst {st : Store} {s : List D} : bfD st .list [.lst s] = some (.lst s) := rfl
@[simp] theorem bfD_list_tup {st : Store} {s : List D} : bfD st .list [.tup s] = some (.lst s) := rfl
@[simp] theorem bfD_tuple_lst {st : Store} {s : List D} : bfD st .tuple [.lst s] = some (.tup s) := rfl
@[simp] theorem bfD_tuple_tup {st : Store} {s : List D} : bfD st .tuple [.tup s] = some (.tup s) := rfl
@[simp] theorem bfD_all {st : Store} {s : List D} : bfD st .all [.lst s] = (boolsOf s).map fun bs => .bl (bs.all id) := rfl
@[simp] theorem bfD_any {st : Store} {s : List D} : bfD st .any [.lst s] = (boolsOf s).map fun bs => .bl (bs.any id) := rfl
@[simp] theorem bfD_isi {st : Store} {x : D} {n : String} : bfD st .isi [x, .ty n] = (tyName x).bind fun m => (kitB m n).map .bl := rfl
@[simp] theorem tyName_non : tyName .non = some "NoneType" := rfl
@[simp] theorem tyName_bl {b : Bool} : tyName (.bl b) = some "bool" := rfl
@[simp] theorem tyName_int {b : Int} : tyName (.int b) = some "int" := rfl
@[simp] theorem tyName_str {b : Tx} : tyName (.str b) = some "str" := rfl
@[simp] theorem tyName_lst {b : List D} : tyName (.lst b) = some "list" := rfl
@[simp] theorem tyName_tup {b : List D} : tyName (.tup b) = some "tuple" := rfl
@[simp] theorem tyName_dct {b : List (Key × D)} : tyName (.dct b) = some "dict" := rfl
@[simp] theorem bmD_upper {st : Store} {s : Tx} : bmD st .upper (.str s) [] = if s.length ≤ 5592405 then some (.str (unt (Txt.upper (tx s)))) else none := rfl
@[simp] theorem bmD_lower {st : Store} {s : Tx} : bmD st .lower (.str s) [] = if s.length ≤ 5592405 then some (.str (unt (Txt.lower (tx s)))) else none := rfl
@[simp] theorem bmD_join {st : Store} {a : Tx} {xs : List D} : bmD st .join (.str a) [.lst xs] = (textsOf xs).bind fun ys => if (ys.map (·.length)).sum + ys.length * a.length ≤ line then some (.str (joinT a ys)) else none := rfl
@[simp] theorem bmD_count {st : Store} {a b : Tx} : bmD st .count (.str a) [.str b] = some (.int (Txt.count (tx a) (tx b))) := rfl
@[simp] theorem bmD_find {st : Store} {a b : Tx} : bmD st .find (.str a) [.str b] = some (.int (Txt.find (tx a) (tx b))) := rfl
@[simp] theorem bmK_upper {s : Tx} : bmKind .upper (.str s) = true := rfl
@[simp] theorem bmK_lower {s : Tx} : bmKind .lower (.str s) = true := rfl
@[simp] theorem bmK_join {s : Tx} : bmKind .join (.str s) = true := rfl
@[simp] theorem bmK_count {s : Tx} : bmKind .count (.str s) = true := rfl
@[simp] theorem bmK_find {s : Tx} : bmKind .find (.str s) = true := rfl
@[simp] theorem itemsD_lst {xs : List D} : itemsD (.lst xs) = some xs := rfl
@[simp] theorem itemsD_tup {xs : List D} : itemsD (.tup xs) = some xs := rfl
@[simp] theorem itemsD_str {s : Tx} : itemsD (.str s) = some (s.map fun c => .str [c]) := rfl
@[simp] theorem okC_non : okC .non = true := rfl
@[simp] theorem okC_bl {b : Bool} : okC (.bl b) = true := rfl
@[simp] theorem okC_int {b : Int} : okC (.int b) = true := rfl
@[simp] theorem okC_ty {b : String} : okC (.ty b) = true := rfl
@[simp] theorem okC_str {s : Tx} : okC (.str s) = decide (s.length ≤ line) := rfl
@[simp] theorem slotD_0 {d : D} {r : Env} : slotD (.im d :: r) 0 = some d := rfl
@[simp] theorem slotD_s {s : Slot} {r : Env} {i : Nat} : slotD (s :: r) (i + 1) = slotD r i := rfl
@[simp] theorem borD_0 {d : List D} {r : Env} : borD (.ol d :: r) 0 = some (.lst d) := rfl
@[simp] theorem borD_s {s : Slot} {r : Env} {i : Nat} : borD (s :: r) (i + 1) = borD r i := rfl
@[simp] theorem olS_0 {d : List D} {r : Env} : olS (.ol d :: r) 0 = some d := rfl
@[simp] theorem olS_s {s : Slot} {r : Env} {i : Nat} : olS (s :: r) (i + 1) = olS r i := rfl
@[simp] theorem isNil_n : isNil .nil = true := rfl
@[simp] theorem partD_int {i : Int} : partD (.int i) = some (some i) := rfl
@[simp] theorem lstD_lst {x : List D} : lstD (.lst x) = some x := rfl
@[simp] theorem augD_add {i j : Int} : augD .add (.int i) (.int j) = some (.int (i + j)) := rfl
@[simp] theorem augD_sub {i j : Int} : augD .sub (.int i) (.int j) = some (.int (i - j)) := rfl
@[simp] theorem fresh_lst' {a : E} : fresh (.lst a) = true := rfl
@[simp] theorem fresh_lc {j : Nat} {a b c : E} : fresh (.lc j a b c) = true := rfl
@[simp] theorem fresh_lcr {j : Nat} {a b c : E} : fresh (.lcr j a b c) = true := rfl
@[simp] theorem ownS_lst {ρ : Env} {i : Nat} {x : List D} : ownS ρ i (.lst x) = if i < ρ.length then some (ρ.set i (.ol x)) else none := rfl
@[simp] theorem opd_bor {i : Nat} {r : Env → Store → O D} {ρ : Env} {st : Store} : opd (.bor i) r ρ st = lift (borD ρ i) st := rfl
@[simp] theorem opd_var {i : Nat} {r : Env → Store → O D} {ρ : Env} {st : Store} : opd (.var i) r ρ st = r ρ st := rfl
@[simp] theorem opd_cst {d : D} {r : Env → Store → O D} {ρ : Env} {st : Store} : opd (.cst d) r ρ st = r ρ st := rfl
@[simp] theorem opd_glb {x : Str} {d : D} {r : Env → Store → O D} {ρ : Env} {st : Store} : opd (.glb x d) r ρ st = r ρ st := rfl
@[simp] theorem opd_bin {o : BOp} {a b : E} {r : Env → Store → O D} {ρ : Env} {st : Store} : opd (.bin o a b) r ρ st = r ρ st := rfl
@[simp] theorem opd_neg {a : E} {r : Env → Store → O D} {ρ : Env} {st : Store} : opd (.neg a) r ρ st = r ρ st := rfl
@[simp] theorem opd_cmp {o : COp} {a b : E} {r : Env → Store → O D} {ρ : Env} {st : Store} : opd (.cmp o a b) r ρ st = r ρ st := rfl
@[simp] theorem opd_chn {o p : COp} {a b c : E} {r : Env → Store → O D} {ρ : Env} {st : Store} : opd (.chn o p a b c) r ρ st = r ρ st := rfl
@[simp] theorem opd_and {a b : E} {r : Env → Store → O D} {ρ : Env} {st : Store} : opd (.and a b) r ρ st = r ρ st := rfl
@[simp] theorem opd_or {a b : E} {r : Env → Store → O D} {ρ : Env} {st : Store} : opd (.or a b) r ρ st = r ρ st := rfl
@[simp] theorem opd_not {a : E} {r : Env → Store → O D} {ρ : Env} {st : Store} : opd (.not a) r ρ st = r ρ st := rfl
@[simp] theorem opd_ite {c a b : E} {r : Env → Store → O D} {ρ : Env} {st : Store} : opd (.ite c a b) r ρ st = r ρ st := rfl
@[simp] theorem opd_tup {a : E} {r : Env → Store → O D} {ρ : Env} {st : Store} : opd (.tup a) r ρ st = r ρ st := rfl
@[simp] theorem opd_lst {a : E} {r : Env → Store → O D} {ρ : Env} {st : Store} : opd (.lst a) r ρ st = r ρ st := rfl
@[simp] theorem opd_new {a : E} {r : Env → Store → O D} {ρ : Env} {st : Store} : opd (.new a) r ρ st = r ρ st := rfl
@[simp] theorem opd_dsp {a : E} {r : Env → Store → O D} {ρ : Env} {st : Store} : opd (.dsp a) r ρ st = r ρ st := rfl
@[simp] theorem opd_idx {a b : E} {r : Env → Store → O D} {ρ : Env} {st : Store} : opd (.idx a b) r ρ st = r ρ st := rfl
@[simp] theorem opd_slc {a b c : E} {r : Env → Store → O D} {ρ : Env} {st : Store} : opd (.slc a b c) r ρ st = r ρ st := rfl
@[simp] theorem opd_cb {f : BF} {a : E} {r : Env → Store → O D} {ρ : Env} {st : Store} : opd (.cb f a) r ρ st = r ρ st := rfl
@[simp] theorem opd_bm {m : BM} {o a : E} {r : Env → Store → O D} {ρ : Env} {st : Store} : opd (.bm m o a) r ρ st = r ρ st := rfl
@[simp] theorem opd_call {f : Nat} {a : E} {r : Env → Store → O D} {ρ : Env} {st : Store} : opd (.call f a) r ρ st = r ρ st := rfl
@[simp] theorem opd_lc {j : Nat} {a b c : E} {r : Env → Store → O D} {ρ : Env} {st : Store} : opd (.lc j a b c) r ρ st = r ρ st := rfl
@[simp] theorem opd_lcr {j : Nat} {a b c : E} {r : Env → Store → O D} {ρ : Env} {st : Store} : opd (.lcr j a b c) r ρ st = r ρ st := rfl
@[simp] theorem isNil_var {i : Nat} : isNil (.var i) = false := rfl
@[simp] theorem isNil_cst {d : D} : isNil (.cst d) = false := rfl
@[simp] theorem isNil_bin {o : BOp} {a b : E} : isNil (.bin o a b) = false := rfl
@[simp] theorem isNil_neg {a : E} : isNil (.neg a) = false := rfl
@[simp] theorem isNil_idx {a b : E} : isNil (.idx a b) = false := rfl
@[simp] theorem isNil_cb {f : BF} {a : E} : isNil (.cb f a) = false := rfl
@[simp] theorem isNil_call {f : Nat} {a : E} : isNil (.call f a) = false := rfl
theorem setS_in {ρ : Env} {i : Nat} {d : D} (h : i < ρ.length) : setS ρ i d = some (ρ.set i (.im d)) := by
  unfold setS
  rw [if_pos h]
@[simp] theorem setS_0 {s : Slot} {r : Env} {d : D} : setS (s :: r) 0 d = some (.im d :: r) := by simp [setS]
@[simp] theorem setS_s {s : Slot} {r : Env} {i : Nat} {d : D} : setS (s :: r) (i + 1) d = (setS r i d).map (s :: ·) := by
  unfold setS
  by_cases h : i < r.length
  · rw [if_pos (by simpa using h), if_pos h]; rfl
  · rw [if_neg (by simpa using h), if_neg h]; rfl
theorem runF_eq {C : Calls} {W : Nat} {f : Fn} {args : List D} {st : Store} (h1 : args.length = f.ar) (h2 : f.ar ≤ f.nm) : runF C W f args st = finK (ex C W f.body (args.map .im ++ List.replicate (f.nm - f.ar) .un) st) := by
  unfold runF
  rw [if_pos ⟨h1, h2⟩]
  cases h : ex C W f.body (args.map .im ++ List.replicate (f.nm - f.ar) .un) st with
  | ok fl s => cases fl <;> rfl
  | exc _ _ => rfl
  | bad => rfl
/-- a call runs the body -/
theorem call_run {T : List Fn} {W n f : Nat} {fn : Fn} (h : T[f]? = some fn) {args : List D} {st : Store} (h1 : args.length = fn.ar) (h2 : fn.ar ≤ fn.nm) : call T W (n + 1) f args st = finK (ex (call T W n) W fn.body (args.map .im ++ List.replicate (fn.nm - fn.ar) .un) st) := by
  rw [call_at h, runF_eq h1 h2]
theorem rangeD_1 {n : Int} (h1 : -(2 ^ 62) ≤ n) (h2 : n < 2 ^ 62) : rangeD [.int n] = some ((List.range n.toNat).map fun (k : Nat) => .int (0 + (k : Int))) := by
  show (if -(2 ^ 62) ≤ n ∧ n < 2 ^ 62 then _ else _) = _
  rw [if_pos ⟨h1, h2⟩]
/-- one turn of a comprehension -/
def lcF (C : Calls) (j : Nat) (c e : E) (ρ : Env) : D → Store → O (Option D) := fun x st => (if isNil c then .ok true st else (evT C c (ρ.set j (.im x)) st).nox).bind fun k st => if k then (ev C e (ρ.set j (.im x)) st).nox.bind fun y st => .ok (some y) st else .ok none st
theorem ev_lc {C : Calls} {ρ : Env} {st : Store} {j : Nat} {src c e : E} : ev C (.lc j src c e) ρ st = (opd src (ev C src) ρ st).bind fun s st => (lift (itemsD s) st).bind fun xs st => (mapO (lcF C j c e ρ) xs st).bind fun ys st => .ok (.lst ys) st := rfl
theorem ev_lcr {C : Calls} {ρ : Env} {st : Store} {j : Nat} {a c e : E} : ev C (.lcr j a c e) ρ st = (evs C a ρ st).bind fun as st => (lift (rangeD as) st).bind fun xs st => if line < xs.length then .bad else (mapO (lcF C j c e ρ) xs st).bind fun ys st => .ok (.lst ys) st := rfl
theorem lcF_nil {C : Calls} {j : Nat} {e : E} {ρ : Env} {x : D} {st : Store} : lcF C j .nil e ρ x st = (ev C e (ρ.set j (.im x)) st).nox.bind fun y st => .ok (some y) st := rfl
theorem lcF_if {C : Calls} {j : Nat} {c e : E} {ρ : Env} {x : D} {st : Store} (h : isNil c = false) : lcF C j c e ρ x st = (evT C c (ρ.set j (.im x)) st).nox.bind fun k st => if k then (ev C e (ρ.set j (.im x)) st).nox.bind fun y st => .ok (some y) st else .ok none st := by
  unfold lcF
  rw [h]
  rfl
/-- a comprehension over a range -/
theorem ev_lcr_inv {C : Calls} {ρ : Env} {st st1 : Store} {j : Nat} {a e : E} {as xs : List D} (I : Store → Prop) (R : D → Prop) (h1 : evs C a ρ st = .ok as st1) (h2 : rangeD as = some xs) (h3 : xs.length ≤ line) (h4 : I st1)
    (h5 : ∀ x ∈ xs, ∀ st, I st → ∃ y st', ev C e (ρ.set j (.im x)) st = .ok y st' ∧ I st' ∧ R y) : ∃ ys st', ev C (.lcr j a .nil e) ρ st = .ok (.lst ys) st' ∧ I st' ∧ ys.length = xs.length ∧ ∀ y ∈ ys, R y := by
  obtain ⟨ys, st', e1, i1, l1, r1⟩ := mapO_inv (f := lcF C j .nil e ρ) I R h4 (fun x hx st i => by
    obtain ⟨y, st', e, i', r⟩ := h5 x hx st i
    exact ⟨y, st', by simp [lcF_nil, e], i', r⟩)
  exact ⟨ys, st', by simp [ev_lcr, h1, h2, e1]; omega, i1, l1, r1⟩
/-- a comprehension whose element is a plain function of the item, over any source -/
theorem ev_lc_map {C : Calls} {ρ : Env} {st st1 : Store} {j : Nat} {src e : E} {s : D} {xs : List D} {g : D → D} (h1 : opd src (ev C src) ρ st = .ok s st1) (h2 : itemsD s = some xs)
    (h5 : ∀ x ∈ xs, ∀ st, ev C e (ρ.set j (.im x)) st = .ok (g x) st) : ev C (.lc j src .nil e) ρ st = .ok (.lst (xs.map g)) st1 := by
  have e1 : mapO (lcF C j .nil e ρ) xs st1 = .ok (xs.map g) st1 := mapO_pure fun x hx st => by simp [lcF_nil, h5 x hx st]
  simp [ev_lc, h1, h2, e1]
theorem ev_lc_filter {C : Calls} {ρ : Env} {st st1 : Store} {j : Nat} {src c e : E} {s : D} {xs : List D} {g : D → D} {p : D → Bool} (hc : isNil c = false) (h1 : opd src (ev C src) ρ st = .ok s st1) (h2 : itemsD s = some xs)
    (h4 : ∀ x ∈ xs, ∀ st, evT C c (ρ.set j (.im x)) st = .ok (p x) st) (h5 : ∀ x ∈ xs, ∀ st, ev C e (ρ.set j (.im x)) st = .ok (g x) st) : ev C (.lc j src c e) ρ st = .ok (.lst ((xs.filter p).map g)) st1 := by
  have e1 : mapO (lcF C j c e ρ) xs st1 = .ok ((xs.filter p).map g) st1 := mapO_filter fun x hx st => by
    rw [lcF_if hc, h4 x hx st]
    cases hp : p x <;> simp [h5 x hx st]
  simp [ev_lc, h1, h2, e1]
section
variable {C : Calls} {W : Nat} {ρ : Env} {st : Store}
@[simp] theorem ev_fmt {a : E} : ev C (.fmt a) ρ st = (ev C a ρ st).bind fun x st => lift (fmtD x) st := rfl
@[simp] theorem ev_fst {a : E} : ev C (.fst a) ρ st = (evj C a [] ρ st).bind fun s st => .ok (.str s) st := rfl
@[simp] theorem evj_nil {acc : Tx} : evj C .nil acc ρ st = .ok acc st := rfl
@[simp] theorem evj_cons {a b : E} {acc : Tx} : evj C (.cons a b) acc ρ st = (ev C a ρ st).bind fun x st => (lift (addD acc x) st).bind fun acc st => evj C b acc ρ st := rfl
@[simp] theorem fmtD_str {s : Tx} : fmtD (.str s) = some (.str s) := rfl
@[simp] theorem fmtD_int {i : Int} : fmtD (.int i) = if i.natAbs.log2 < 1920 ∧ (unt (toString i)).length ≤ line then some (.str (unt (toString i))) else none := rfl
@[simp] theorem addD_str {a b : Tx} : addD a (.str b) = if a.length + b.length ≤ line then some (a ++ b) else none := rfl
@[simp] theorem ex_unp {is : List Nat} {e : E} : ex C W (.unp is e) ρ st = (ev C e ρ st).thn ρ fun d st => (lift (tupD d) st).bind fun ds st => (lift (unpS ρ is ds) st).bind fun ρ st => .ok (.next ρ) st := rfl
@[simp] theorem unpS_nil : unpS ρ [] [] = some ρ := rfl
@[simp] theorem unpS_cons {i : Nat} {is : List Nat} {d : D} {ds : List D} : unpS ρ (i :: is) (d :: ds) = (setS ρ i d).bind fun ρ => unpS ρ is ds := rfl
@[simp] theorem tupD_tup {ds : List D} : tupD (.tup ds) = some ds := rfl
@[simp] theorem ex_rse {c : Str} {fs : List Str} {a : E} : ex C W (.rse c fs a) ρ st = (evs C a ρ st).thn ρ fun xs st => if xs.length = fs.length ∧ fs ≠ [] ∧ fs.length ≤ 1000 then .ok (.rse ⟨c, (fs.zip xs).reverse⟩ ρ) st else .bad := rfl
@[simp] theorem bmD_find3 {a b : Tx} {i : Int} : bmD st .find (.str a) [.str b, .int i] = some (.int (Txt.find3 (tx a) (tx b) i)) := rfl
end
@[simp] theorem opd_fst {a : E} {r : Env → Store → O D} {ρ : Env} {st : Store} : opd (.fst a) r ρ st = r ρ st := rfl
@[simp] theorem opd_fmt {a : E} {r : Env → Store → O D} {ρ : Env} {st : Store} : opd (.fmt a) r ρ st = r ρ st := rfl
end PF
open PySem PySem.W PySem.Calls PyProof.Rows
namespace Lw
open PySem L2 PF
def topS (i : Nat) : Stmt := PySem.Challenge.pw_soleinstances_k81_answers_as_notes.main.body.getD i (.Pass ⟨0, 0, 0, 0⟩)
/-- is_name -/
def c0 : S := (.seq (.ite (.or (.not (.tst (.cb .isi (.cons (.var 0) (.cons (.glb "str" (.ty "str")) .nil))))) (.not (.tch .le .le (.cst (.int 1)) (.cb .len (.cons (.var 0) .nil)) (.glb "MOST_LETTERS" (.int 8))))) (.seq (.ret (.cst (.bl false))) .skip) .skip) (.seq (.ret (.cb .all (.cons (.lc 1 (.var 0) .nil (.cmp .inn (.var 1) (.glb "LOWER" (.str [97, 98, 99, 100, 101, 102, 103, 104, 105, 106, 107, 108, 109, 110, 111, 112, 113, 114, 115, 116, 117, 118, 119, 120, 121, 122])))) .nil))) .skip))
/-- write_answer -/
def c1 : S := (.seq (.ite (.tcm .is (.var 0) (.cst .non)) (.seq (.ret (.cst (.str [110, 111, 110, 101]))) .skip) .skip) (.seq (.unp [1, 2, 3] (.var 0)) (.seq (.ite (.tcm .eq (.var 1) (.cst (.str []))) (.seq (.ret (.fst (.cons (.cst (.str [63])) (.cons (.fmt (.var 2)) .nil)))) .skip) .skip) (.seq (.set 4 (.lc 5 (.var 3) .nil (.call 1 (.cons (.var 5) .nil)))) (.seq (.ret (.bin .add (.fst (.cons (.fmt (.var 1)) (.cons (.cst (.str [46])) (.cons (.fmt (.var 2)) .nil)))) (.ite (.tcm .ne (.var 4) (.lst .nil)) (.bin .add (.bin .add (.cst (.str [40])) (.bm .join (.cst (.str [44])) (.cons (.var 4) .nil))) (.cst (.str [41]))) (.cst (.str []))))) .skip)))))
/-- number_at -/
def c2 : S := (.seq (.set 2 (.var 1)) (.seq (.whl (.and (.tcm .lt (.var 2) (.cb .len (.cons (.var 0) .nil))) (.tcm .inn (.idx (.var 0) (.var 2)) (.glb "DIGITS" (.str [48, 49, 50, 51, 52, 53, 54, 55, 56, 57])))) (.seq (.set 2 (.bin .add (.var 2) (.cst (.int 1)))) .skip)) (.seq (.set 3 (.slc (.var 0) (.var 1) (.var 2))) (.seq (.ite (.or (.not (.tch .le .le (.cst (.int 1)) (.cb .len (.cons (.var 3) .nil)) (.glb "MOST_DIGITS" (.int 3)))) (.tcm .ne (.var 3) (.cb .str (.cons (.cb .int (.cons (.var 3) .nil)) .nil)))) (.seq (.ret (.cst .non)) .skip) .skip) (.seq (.ret (.var 3)) .skip)))))
/-- trees_at -/
def c3 : S := (.seq (.own 2 (.lst .nil)) (.seq (.whl (.and (.tcm .lt (.var 1) (.cb .len (.cons (.var 0) .nil))) (.tcm .inn (.idx (.var 0) (.var 1)) (.ite (.tcm .eq (.bor 2) (.lst .nil)) (.cst (.str [40])) (.cst (.str [44]))))) (.seq (.set 3 (.call 4 (.cons (.var 0) (.cons (.bin .add (.var 1) (.cst (.int 1))) .nil)))) (.seq (.ite (.tcm .is (.var 3) (.cst .non)) (.seq (.ret (.cst .non)) .skip) .skip) (.seq (.app 2 (.idx (.var 3) (.cst (.int 0)))) (.seq (.set 1 (.idx (.var 3) (.cst (.int 1)))) .skip))))) (.seq (.ite (.or (.tcm .eq (.bor 2) (.lst .nil)) (.or (.tcm .eq (.var 1) (.cb .len (.cons (.var 0) .nil))) (.tcm .ne (.idx (.var 0) (.var 1)) (.cst (.str [41]))))) (.seq (.ret (.cst .non)) .skip) .skip) (.seq (.ret (.tup (.cons (.cb .tuple (.cons (.bor 2) .nil)) (.cons (.bin .add (.var 1) (.cst (.int 1))) .nil)))) .skip))))
/-- answer_at -/
def c4 : S := (.seq (.ite (.tcm .eq (.slc (.var 0) (.var 1) (.bin .add (.var 1) (.cst (.int 1)))) (.cst (.str [63]))) (.seq (.set 2 (.call 2 (.cons (.var 0) (.cons (.bin .add (.var 1) (.cst (.int 1))) .nil)))) (.seq (.ret (.ite (.tcm .is (.var 2) (.cst .non)) (.cst .non) (.tup (.cons (.tup (.cons (.cst (.str [])) (.cons (.cb .int (.cons (.var 2) .nil)) (.cons (.tup .nil) .nil)))) (.cons (.bin .add (.bin .add (.var 1) (.cst (.int 1))) (.cb .len (.cons (.var 2) .nil))) .nil))))) .skip)) .skip) (.seq (.set 3 (.bm .find (.var 0) (.cons (.cst (.str [46])) (.cons (.var 1) .nil)))) (.seq (.set 2 (.ite (.or (.tcm .lt (.var 3) (.cst (.int 0))) (.not (.tst (.call 0 (.cons (.slc (.var 0) (.var 1) (.var 3)) .nil))))) (.cst .non) (.call 2 (.cons (.var 0) (.cons (.bin .add (.var 3) (.cst (.int 1))) .nil))))) (.seq (.ite (.tcm .is (.var 2) (.cst .non)) (.seq (.ret (.cst .non)) .skip) .skip) (.seq (.set 4 (.bin .add (.bin .add (.var 3) (.cst (.int 1))) (.cb .len (.cons (.var 2) .nil)))) (.seq (.ite (.tcm .ne (.slc (.var 0) (.var 4) (.bin .add (.var 4) (.cst (.int 1)))) (.cst (.str [40]))) (.seq (.ret (.tup (.cons (.tup (.cons (.slc (.var 0) (.var 1) (.var 3)) (.cons (.cb .int (.cons (.var 2) .nil)) (.cons (.tup .nil) .nil)))) (.cons (.var 4) .nil)))) .skip) .skip) (.seq (.set 5 (.call 3 (.cons (.var 0) (.cons (.var 4) .nil)))) (.seq (.ret (.ite (.tcm .is (.var 5) (.cst .non)) (.cst .non) (.tup (.cons (.tup (.cons (.slc (.var 0) (.var 1) (.var 3)) (.cons (.cb .int (.cons (.var 2) .nil)) (.cons (.idx (.var 5) (.cst (.int 0))) .nil)))) (.cons (.idx (.var 5) (.cst (.int 1))) .nil))))) .skip))))))))
/-- nested_in -/
def c5 : S := (.seq (.unp [1, 2] (.tup (.cons (.cst (.int 0)) (.cons (.cst (.int 0)) .nil)))) (.seq (.for_ 3 (.var 0) (.seq (.ite (.tcm .eq (.var 3) (.cst (.str [40]))) (.seq (.aug 2 .add (.cst (.int 1))) .skip) (.seq (.ite (.tcm .eq (.var 3) (.cst (.str [41]))) (.seq (.aug 2 .sub (.cst (.int 1))) .skip) .skip) .skip)) (.seq (.ite (.tcm .gt (.var 2) (.var 1)) (.seq (.set 1 (.var 2)) .skip) .skip) .skip))) (.seq (.ret (.var 1)) .skip)))
/-- read_answer -/
def c6 : S := (.seq (.ite (.or (.not (.tst (.cb .isi (.cons (.var 0) (.cons (.glb "str" (.ty "str")) .nil))))) (.tcm .gt (.call 5 (.cons (.var 0) .nil)) (.glb "MOST_NESTED" (.int 60)))) (.seq (.rse "InvalidText" ["line"] (.cons (.cst .non) .nil)) .skip) .skip) (.seq (.ite (.tcm .eq (.var 0) (.cst (.str [110, 111, 110, 101]))) (.seq (.ret (.cst .non)) .skip) .skip) (.seq (.set 1 (.call 4 (.cons (.var 0) (.cons (.cst (.int 0)) .nil)))) (.seq (.ite (.or (.tcm .is (.var 1) (.cst .non)) (.tcm .ne (.idx (.var 1) (.cst (.int 1))) (.cb .len (.cons (.var 0) .nil)))) (.seq (.rse "InvalidText" ["line"] (.cons (.cst .non) .nil)) .skip) .skip) (.seq (.ret (.idx (.var 1) (.cst (.int 0)))) .skip)))))
/-- _law_pool -/
def c7 : S := (.seq (.set 2 (.cst (.int 0))) (.seq (.ite (.tcm .lt (.var 1) (.cb .len (.cons (.var 0) .nil))) (.seq (.set 2 (.idx (.var 0) (.var 1))) .skip) .skip) (.seq (.set 3 (.cb .int (.cons (.var 2) .nil))) (.seq (.ite (.tcm .lt (.var 3) (.bin .pow (.cst (.int 10)) (.cst (.int 18)))) (.seq (.set 3 (.cst (.int 0))) .skip) .skip) (.seq (.set 4 (.bin .mod (.bin .pow (.bin .add (.bin .add (.bin .add (.bin .mod (.cb .int (.cons (.var 2) .nil)) (.cst (.int 2147483629))) (.bin .mul (.bin .mul (.cst (.int 104729)) (.var 1)) (.var 1))) (.bin .mul (.cst (.int 7919)) (.var 1))) (.cst (.int 11))) (.cst (.int 3))) (.cst (.int 2147483647)))) (.seq (.ret (.new (.cons (.var 3) (.cons (.cb .int (.cons (.var 4) .nil)) .nil)))) .skip))))))
/-- _law_draw -/
def c8 : S := (.seq (.ite (.tcm .gt (.idx (.var 0) (.cst (.int 0))) (.cst (.int 0))) (.seq (.set 2 (.bin .mod (.cb .int (.cons (.idx (.var 0) (.cst (.int 0))) .nil)) (.var 1))) (.seq (.put (.var 0) (.cst (.int 0)) (.bin .fdiv (.cb .int (.cons (.idx (.var 0) (.cst (.int 0))) .nil)) (.var 1))) (.seq (.ret (.var 2)) .skip))) .skip) (.seq (.put (.var 0) (.cst (.int 1)) (.bin .mod (.cb .int (.cons (.bin .add (.bin .mul (.idx (.var 0) (.cst (.int 1))) (.cst (.int 48271))) (.cst (.int 11))) .nil)) (.cst (.int 2147483647)))) (.seq (.ret (.bin .mod (.bin .fdiv (.bin .mod (.cb .int (.cons (.bin .mul (.idx (.var 0) (.cst (.int 1))) (.idx (.var 0) (.cst (.int 1)))) .nil)) (.cst (.int 2147483629))) (.cst (.int 64))) (.var 1))) .skip)))
/-- _law_pick -/
def c9 : S := (.seq (.ret (.idx (.var 1) (.call 8 (.cons (.var 0) (.cons (.cb .len (.cons (.var 1) .nil)) .nil))))) .skip)
/-- _law_answer -/
def c10 : S := (.seq (.ite (.tcm .eq (.call 8 (.cons (.var 0) (.cons (.cst (.int 4)) .nil))) (.cst (.int 0))) (.seq (.ret (.tup (.cons (.cst (.str [])) (.cons (.call 8 (.cons (.var 0) (.cons (.cst (.int 4)) .nil))) (.cons (.tup .nil) .nil))))) .skip) .skip) (.seq (.set 2 (.ite (.tcm .lt (.var 1) (.cst (.int 2))) (.cst (.int 0)) (.call 8 (.cons (.var 0) (.cons (.cst (.int 3)) .nil))))) (.seq (.set 3 (.lcr 4 (.cons (.var 2) .nil) .nil (.call 10 (.cons (.var 0) (.cons (.bin .sub (.var 1) (.cst (.int 1))) .nil))))) (.seq (.ret (.tup (.cons (.call 9 (.cons (.var 0) (.cons (.lst (.cons (.cst (.str [98, 97, 115, 101])) (.cons (.cst (.str [98])) (.cons (.cst (.str [110, 111, 110, 101])) (.cons (.cst (.str [116, 111, 108, 100])) (.cons (.cst (.str [97, 98, 99, 100, 101, 102, 103, 104])) .nil)))))) .nil))) (.cons (.call 8 (.cons (.var 0) (.cons (.cst (.int 12)) .nil))) (.cons (.cb .tuple (.cons (.var 3) .nil)) .nil))))) .skip))))
/-- _law_text -/
def c11 : S := (.seq (.unp [1, 2, 3] (.var 0)) (.seq (.ite (.tcm .eq (.var 1) (.cst (.str []))) (.seq (.ret (.bin .add (.cst (.str [63])) (.cb .str (.cons (.var 2) .nil)))) .skip) .skip) (.seq (.set 4 (.bin .add (.bin .add (.var 1) (.cst (.str [46]))) (.cb .str (.cons (.var 2) .nil)))) (.seq (.ite (.tcm .eq (.var 3) (.tup .nil)) (.seq (.ret (.var 4)) .skip) .skip) (.seq (.ret (.bin .add (.bin .add (.bin .add (.var 4) (.cst (.str [40]))) (.bm .join (.cst (.str [44])) (.cons (.lc 5 (.var 3) .nil (.call 11 (.cons (.var 5) .nil))) .nil))) (.cst (.str [41])))) .skip)))))
/-- _law_unread -/
def c12 : S := (.seq (.tryas (.seq (.set 1 (.call 6 (.cons (.var 0) .nil))) .skip) [("InvalidText", true)] "InvalidText" 2 (.cmp .is (.exf "InvalidText" "line" 2) (.cst .non))) (.seq (.ret (.cst (.bl false))) .skip))
/-- law -/
def c13 : S := (.seq (.forr 1 (.cons (.cb .max2 (.cons (.cst (.int 1)) (.cons (.cb .min2 (.cons (.cb .len (.cons (.var 0) .nil)) (.cons (.cst (.int 5)) .nil))) .nil))) .nil) (.seq (.set 2 (.call 7 (.cons (.var 0) (.cons (.var 1) .nil)))) (.seq (.set 3 (.call 10 (.cons (.var 2) (.cons (.cst (.int 4)) .nil)))) (.seq (.set 4 (.call 11 (.cons (.var 3) .nil))) (.seq (.ite (.or (.tcm .ne (.call 1 (.cons (.var 3) .nil)) (.var 4)) (.tcm .ne (.call 6 (.cons (.var 4) .nil)) (.var 3))) (.seq (.ret (.cst (.bl false))) .skip) .skip) (.seq (.ite (.tcm .ne (.call 1 (.cons (.call 6 (.cons (.var 4) .nil)) .nil)) (.var 4)) (.seq (.ret (.cst (.bl false))) .skip) .skip) (.seq (.ite (.or (.tcm .ne (.call 1 (.cons (.cst .non) .nil)) (.cst (.str [110, 111, 110, 101]))) (.tcm .isnot (.call 6 (.cons (.cst (.str [110, 111, 110, 101])) .nil)) (.cst .non))) (.seq (.ret (.cst (.bl false))) .skip) .skip) (.seq (.set 5 (.lst (.cons (.bin .add (.var 4) (.cst (.str [32]))) (.cons (.bin .add (.cst (.str [32])) (.var 4)) (.cons (.bin .add (.var 4) (.cst (.str [41]))) (.cons (.bin .add (.cst (.str [40])) (.var 4)) .nil)))))) (.seq (.set 5 (.bin .add (.var 5) (.lst (.cons (.bin .add (.var 4) (.cst (.str [44]))) (.cons (.bin .add (.var 4) (.cst (.str [40, 41]))) (.cons (.bin .add (.cst (.str [98, 46, 48, 40])) (.var 4)) (.cons (.bin .add (.bin .add (.cst (.str [98, 46, 48, 40])) (.var 4)) (.cst (.str [44, 41]))) .nil))))))) (.seq (.set 5 (.bin .add (.var 5) (.lst (.cons (.bin .add (.bin .add (.bin .add (.bin .add (.cst (.str [98, 46, 48, 40])) (.var 4)) (.cst (.str [44, 32]))) (.var 4)) (.cst (.str [41]))) (.cons (.cst (.str [98, 46, 48, 48])) (.cons (.cst (.str [98, 46])) (.cons (.cst (.str [46, 48])) (.cons (.cst (.str [98])) (.cons (.cst (.str [66, 46, 48])) .nil))))))))) (.seq (.set 5 (.bin .add (.var 5) (.lst (.cons (.cst (.str [98, 46, 45, 49])) (.cons (.cst (.str [63])) (.cons (.cst (.str [63, 120])) (.cons (.cst (.str [63, 48, 49])) (.cons (.cst (.str [63, 63, 48])) (.cons (.cst (.str [98, 46, 48, 40, 110, 111, 110, 101, 41])) .nil))))))))) (.seq (.set 5 (.bin .add (.var 5) (.lst (.cons (.cst (.str [])) (.cons (.cst (.str [78, 111, 110, 101])) (.cons (.cst (.str [98, 46, 48, 46, 48])) (.cons (.cst (.str [98, 32, 48])) (.cons (.bin .add (.var 4) (.cst (.str [10]))) (.cons (.cst .non) (.cons (.cst (.int 4)) (.cons (.var 3) (.cons (.lst (.cons (.var 4) .nil)) .nil)))))))))))) (.seq (.set 5 (.bin .add (.var 5) (.lst (.cons (.bin .add (.bin .add (.cst (.str [63, 48, 40])) (.var 4)) (.cst (.str [41]))) (.cons (.cst (.str [98, 48, 46, 49])) .nil))))) (.seq (.ite (.tcm .ne (.lc 9 (.var 5) (.not (.tst (.call 12 (.cons (.var 9) .nil)))) (.var 9)) (.lst .nil)) (.seq (.ret (.cst (.bl false))) .skip) .skip) (.seq (.set 6 (.bin .add (.cst (.int 57)) (.call 8 (.cons (.var 2) (.cons (.cst (.int 7)) .nil))))) (.seq (.set 7 (.bin .add (.bin .add (.bin .mul (.cst (.str [98, 46, 49, 48, 48, 40])) (.var 6)) (.cst (.str [98, 46, 57, 57, 57]))) (.bin .mul (.cst (.str [41])) (.var 6)))) (.seq (.ite (.or (.tcm .ne (.call 12 (.cons (.var 7) .nil)) (.cmp .gt (.var 6) (.cst (.int 60)))) (.or (.not (.tst (.call 12 (.cons (.cst (.str [98, 46, 49, 48, 48, 48])) .nil)))) (.not (.tst (.call 12 (.cons (.bin .mul (.cst (.str [98, 46, 48, 40])) (.cst (.int 1200))) .nil)))))) (.seq (.ret (.cst (.bl false))) .skip) .skip) (.seq (.ite (.and (.tcm .le (.var 6) (.cst (.int 60))) (.tcm .ne (.call 1 (.cons (.call 6 (.cons (.var 7) .nil)) .nil)) (.var 7))) (.seq (.ret (.cst (.bl false))) .skip) .skip) (.seq (.set 8 (.tup (.cons (.cst (.str [98])) (.cons (.cst (.int 7)) (.cons (.tup (.cons (.var 3) (.cons (.var 3) .nil))) .nil))))) (.seq (.ite (.tcm .ne (.call 6 (.cons (.bin .add (.bin .add (.bin .add (.bin .add (.cst (.str [98, 46, 55, 40])) (.var 4)) (.cst (.str [44]))) (.var 4)) (.cst (.str [41]))) .nil)) (.var 8)) (.seq (.ret (.cst (.bl false))) .skip) .skip) (.seq (.ite (.tcm .ne (.call 1 (.cons (.var 8) .nil)) (.bin .add (.bin .add (.bin .add (.bin .add (.cst (.str [98, 46, 55, 40])) (.var 4)) (.cst (.str [44]))) (.var 4)) (.cst (.str [41])))) (.seq (.ret (.cst (.bl false))) .skip) .skip) .skip))))))))))))))))))))) (.seq (.ret (.cmp .eq (.call 1 (.cons (.tup (.cons (.cst (.str [98])) (.cons (.cst (.int 1000)) (.cons (.tup (.cons (.tup (.cons (.cst (.str [])) (.cons (.bin .pow (.cst (.int 10)) (.cst (.int 20))) (.cons (.tup .nil) .nil)))) .nil)) .nil)))) .nil)) (.bin .add (.bin .add (.cst (.str [98, 46, 49, 48, 48, 48, 40, 63])) (.cb .str (.cons (.bin .pow (.cst (.int 10)) (.cst (.int 20))) .nil))) (.cst (.str [41]))))) .skip))
def d0 : Df := ⟨("is_name", none), "is_name", "is_name", topS 6, ["value", "letter"], ["value"], ⟨1, 2, c0⟩⟩
def d1 : Df := ⟨("write_answer", none), "write_answer", "write_answer", topS 11, ["answer", "name", "number", "trees", "texts", "tree"], ["answer"], ⟨1, 6, c1⟩⟩
def d2 : Df := ⟨("number_at", none), "number_at", "number_at", topS 12, ["text", "at", "end", "digits"], ["text", "at"], ⟨2, 4, c2⟩⟩
def d3 : Df := ⟨("trees_at", none), "trees_at", "trees_at", topS 13, ["text", "at", "found", "tree"], ["text", "at"], ⟨2, 4, c3⟩⟩
def d4 : Df := ⟨("answer_at", none), "answer_at", "answer_at", topS 14, ["text", "at", "digits", "dot", "behind", "trees"], ["text", "at"], ⟨2, 6, c4⟩⟩
def d5 : Df := ⟨("nested_in", none), "nested_in", "nested_in", topS 15, ["text", "most", "level", "sign"], ["text"], ⟨1, 4, c5⟩⟩
def d6 : Df := ⟨("read_answer", none), "read_answer", "read_answer", topS 16, ["text", "found"], ["text"], ⟨1, 2, c6⟩⟩
def d7 : Df := ⟨("_law_pool", none), "_law_pool", "_law_pool", topS 18, ["_law_script", "_law_k", "_law_cell", "_law_great", "_law_seed"], ["_law_script", "_law_k"], ⟨2, 5, c7⟩⟩
def d8 : Df := ⟨("_law_draw", none), "_law_draw", "_law_draw", topS 19, ["_law_pool_here", "_law_many", "_law_digit"], ["_law_pool_here", "_law_many"], ⟨2, 3, c8⟩⟩
def d9 : Df := ⟨("_law_pick", none), "_law_pick", "_law_pick", topS 20, ["_law_pool_here", "_law_items"], ["_law_pool_here", "_law_items"], ⟨2, 2, c9⟩⟩
def d10 : Df := ⟨("_law_answer", none), "_law_answer", "_law_answer", topS 21, ["_law_pool_here", "_law_deep", "_law_many", "_law_parts", "_law_turn"], ["_law_pool_here", "_law_deep"], ⟨2, 5, c10⟩⟩
def d11 : Df := ⟨("_law_text", none), "_law_text", "_law_text", topS 22, ["_law_answer_here", "_law_name", "_law_number", "_law_parts", "_law_text_here", "_law_part"], ["_law_answer_here"], ⟨1, 6, c11⟩⟩
def d12 : Df := ⟨("_law_unread", none), "_law_unread", "_law_unread", topS 23, ["_law_value", "_law_answer_here", "e"], ["_law_value"], ⟨1, 3, c12⟩⟩
def d13 : Df := ⟨("law", none), "law", "law", topS 24, ["_law_script", "_law_k", "_law_pool_here", "_law_answer_here", "_law_text_here", "_law_odds", "_law_many", "_law_deep", "_law_both", "_law_odd"], ["_law_script"], ⟨1, 10, c13⟩⟩
def Ds : List Df := [d0, d1, d2, d3, d4, d5, d6, d7, d8, d9, d10, d11, d12, d13]
def x0 : Xd := ⟨"InvalidText", ["line"], "InvalidText.__init__", (clsB (topS 2)).getD 0 (.Pass ⟨0, 0, 0, 0⟩)⟩
theorem xk0 : XdOk x0 := ⟨⟨rfl, rfl, rfl, by decide +kernel, rfl, by decide +kernel, by decide +kernel⟩, fun _ _ _ _ _ _ us hl => match us, hl with | [_, _], _ => rfl, by decide +kernel, by decide⟩
def Xs : List Xd := [x0]
theorem xsOk : ∀ x ∈ Xs, XdOk x := by
  intro x h
  simp only [Xs, List.mem_cons, List.not_mem_nil, or_false] at h
  subst h; exact xk0
def Tb0 : Tb := ⟨["is_name", "write_answer", "number_at", "trees_at", "answer_at", "nested_in", "read_answer", "_law_pool", "_law_draw", "_law_pick", "_law_answer", "_law_text", "_law_unread", "law"], [("DIGITS", (.str [48, 49, 50, 51, 52, 53, 54, 55, 56, 57])), ("LOWER", (.str [97, 98, 99, 100, 101, 102, 103, 104, 105, 106, 107, 108, 109, 110, 111, 112, 113, 114, 115, 116, 117, 118, 119, 120, 121, 122])), ("MOST_DIGITS", (.int 3)), ("MOST_LETTERS", (.int 8)), ("MOST_NESTED", (.int 60))], ["all", "int", "isinstance", "len", "max", "min", "range", "str", "tuple"], [("InvalidText", ["line"])]⟩
theorem ok0 : DfOk Tb0 d0 := ⟨⟨rfl, rfl, rfl, by decide +kernel, rfl, by decide +kernel, by decide +kernel⟩, fun _ _ _ _ _ _ us hl => match us, hl with | [_], _ => rfl, by decide +kernel, rfl, rfl⟩
theorem ok1 : DfOk Tb0 d1 := ⟨⟨rfl, rfl, rfl, by decide +kernel, rfl, by decide +kernel, by decide +kernel⟩, fun _ _ _ _ _ _ us hl => match us, hl with | [_], _ => rfl, by decide +kernel, rfl, rfl⟩
theorem ok2 : DfOk Tb0 d2 := ⟨⟨rfl, rfl, rfl, by decide +kernel, rfl, by decide +kernel, by decide +kernel⟩, fun _ _ _ _ _ _ us hl => match us, hl with | [_, _], _ => rfl, by decide +kernel, rfl, rfl⟩
theorem ok3 : DfOk Tb0 d3 := ⟨⟨rfl, rfl, rfl, by decide +kernel, rfl, by decide +kernel, by decide +kernel⟩, fun _ _ _ _ _ _ us hl => match us, hl with | [_, _], _ => rfl, by decide +kernel, rfl, rfl⟩
theorem ok4 : DfOk Tb0 d4 := ⟨⟨rfl, rfl, rfl, by decide +kernel, rfl, by decide +kernel, by decide +kernel⟩, fun _ _ _ _ _ _ us hl => match us, hl with | [_, _], _ => rfl, by decide +kernel, rfl, rfl⟩
theorem ok5 : DfOk Tb0 d5 := ⟨⟨rfl, rfl, rfl, by decide +kernel, rfl, by decide +kernel, by decide +kernel⟩, fun _ _ _ _ _ _ us hl => match us, hl with | [_], _ => rfl, by decide +kernel, rfl, rfl⟩
theorem ok6 : DfOk Tb0 d6 := ⟨⟨rfl, rfl, rfl, by decide +kernel, rfl, by decide +kernel, by decide +kernel⟩, fun _ _ _ _ _ _ us hl => match us, hl with | [_], _ => rfl, by decide +kernel, rfl, rfl⟩
theorem ok7 : DfOk Tb0 d7 := ⟨⟨rfl, rfl, rfl, by decide +kernel, rfl, by decide +kernel, by decide +kernel⟩, fun _ _ _ _ _ _ us hl => match us, hl with | [_, _], _ => rfl, by decide +kernel, rfl, rfl⟩
theorem ok8 : DfOk Tb0 d8 := ⟨⟨rfl, rfl, rfl, by decide +kernel, rfl, by decide +kernel, by decide +kernel⟩, fun _ _ _ _ _ _ us hl => match us, hl with | [_, _], _ => rfl, by decide +kernel, rfl, rfl⟩
theorem ok9 : DfOk Tb0 d9 := ⟨⟨rfl, rfl, rfl, by decide +kernel, rfl, by decide +kernel, by decide +kernel⟩, fun _ _ _ _ _ _ us hl => match us, hl with | [_, _], _ => rfl, by decide +kernel, rfl, rfl⟩
theorem ok10 : DfOk Tb0 d10 := ⟨⟨rfl, rfl, rfl, by decide +kernel, rfl, by decide +kernel, by decide +kernel⟩, fun _ _ _ _ _ _ us hl => match us, hl with | [_, _], _ => rfl, by decide +kernel, rfl, rfl⟩
theorem ok11 : DfOk Tb0 d11 := ⟨⟨rfl, rfl, rfl, by decide +kernel, rfl, by decide +kernel, by decide +kernel⟩, fun _ _ _ _ _ _ us hl => match us, hl with | [_], _ => rfl, by decide +kernel, rfl, rfl⟩
theorem ok12 : DfOk Tb0 d12 := ⟨⟨rfl, rfl, rfl, by decide +kernel, rfl, by decide +kernel, by decide +kernel⟩, fun _ _ _ _ _ _ us hl => match us, hl with | [_], _ => rfl, by decide +kernel, rfl, rfl⟩
theorem ok13 : DfOk Tb0 d13 := ⟨⟨rfl, rfl, rfl, by decide +kernel, rfl, by decide +kernel, by decide +kernel⟩, fun _ _ _ _ _ _ us hl => match us, hl with | [_], _ => rfl, by decide +kernel, rfl, rfl⟩
theorem allOk : ∀ (f : Nat) (d : Df), Ds[f]? = some d → DfOk Tb0 d := by
  intro f d h
  match f, h with
  | 0, h => cases h; exact ok0
  | 1, h => cases h; exact ok1
  | 2, h => cases h; exact ok2
  | 3, h => cases h; exact ok3
  | 4, h => cases h; exact ok4
  | 5, h => cases h; exact ok5
  | 6, h => cases h; exact ok6
  | 7, h => cases h; exact ok7
  | 8, h => cases h; exact ok8
  | 9, h => cases h; exact ok9
  | 10, h => cases h; exact ok10
  | 11, h => cases h; exact ok11
  | 12, h => cases h; exact ok12
  | 13, h => cases h; exact ok13
  | n + 14, h => exact absurd h (by simp [Ds])
abbrev R : PySem.W.OpenRow := PySem.W.OpenLaw.row PySem.Challenge.rw_soleinstances_k81_answers_as_notes
abbrev hk : PySem.W.Hook := He.hookX 4 (faOf Tb0 Ds Xs) (fnsOf Ds Xs) [] [] (exB Xs)
def ob (s : PySem.W.SharedT) : He.AlX := He.obsX 4 (faOf Tb0 Ds Xs) (fnsOf Ds Xs) [] [] (exB Xs) (HandSHeadRun.getT s)
theorem ob_eq (s : PySem.W.SharedT) : ob s = hk.obs s.abs := He.obsX_eq (HandSHeadRun.getT_eq s)
def loose : List PySem.Str := (["SoleError", "InvalidText", "LOWER", "MOST_LETTERS", "is_name", "DIGITS", "MOST_DIGITS", "MOST_NESTED", "write_answer", "number_at", "trees_at", "answer_at", "nested_in", "read_answer", "_law_pool", "_law_draw", "_law_pick", "_law_answer", "_law_text", "_law_unread"] : List PySem.Str)
theorem topRun (w : World) : HandSHeadRun.RunEq R (PySem.W.view R.prog [24]) hk ob 2000 loose w := by
  intro os
  kernel_rfl
theorem fin {w : World} {K : PySem.W.Frag} {h : Heap} {mg : Str → Option Value} {f : Addr} {n : Nat} (X : K.In h) (G : h.Ns mainGlobals mg) (hfa : mg ("law" : Str) = some (.ref f)) (c : He.SaysX (faOf Tb0 Ds Xs) (fnsOf Ds Xs) [] [] (exB Xs) w h K) :
    ∃ fd : FuncData, (∀ (s : Shared) (v : Value), BindsTo s fd ⟨[v], []⟩ [("_law_script", v)]) ∧ ∀ base : Heap, K.In base → base.Ns mainGlobals mg → FnOk (PySem.Challenge.rw_soleinstances_k81_answers_as_notes).prog w K mg base CX0 (n + 2) f fd ["_law_script"] (fun vs H Q _ => spOf K (fun _ => 0) (call (Ds.map (·.fn)) 1000000 n) 13 vs H Q fun _ _ _ => False) := by
  obtain ⟨ad, fdf, A⟩ := facts_of X G c rfl rfl allOk xsOk (by decide +kernel) (by decide +kernel)
  obtain ⟨hm, FD⟩ := A.df 13 d13 rfl
  have e : (Value.ref f) = .ref (ad 13) := Option.some.inj (hfa.symm.trans hm)
  cases e
  have b := FD.bindsA (ps := ["_law_script"]) ok13.bd
  exact ⟨fdf 13, fun s v => b s [v] rfl, fun base _ _ => PF.FnOk.calm (prog_ok (fun _ => 0) 1000000 A n 13 d13 rfl)⟩
theorem ends (n : Nat) (hr : Room (n + 2) callerA) (runs : ∀ ns : List Int, ns.length ≤ 63 → ∃ st, lawRun Ds 1000000 n 13 ns = .ok (.bl true) st) : PySem.Challenge.rw_soleinstances_k81_answers_as_notes.Holds := by
  w_on; o_law
  refine HandSHeadRun.head_any (r := PySem.W.OpenLaw.row PySem.Challenge.rw_soleinstances_k81_answers_as_notes) (q := PySem.W.view (PySem.W.OpenLaw.row PySem.Challenge.rw_soleinstances_k81_answers_as_notes).prog [24]) (H := hk) (ob := ob) (M := 2000) (loose := loose) (d := HandSHeadRun.topDef (PySem.W.OpenLaw.row PySem.Challenge.rw_soleinstances_k81_answers_as_notes).prog 24) (kwd := []) ob_eq
    (by kernel_rfl) (fun s => by kernel_rfl) topRun (by kernel_rfl) (by kernel_rfl) (by kernel_rfl) (by rfl) (by first | assumption | decide +kernel) (by decide +kernel) ⟨rfl, rfl, rfl, rfl, rfl, by decide +kernel⟩ ?hw ?hc
  case hw => w_witness2
  case hc =>
    refine L2.walk_ofE (l := PySem.Challenge.rw_soleinstances_k81_answers_as_notes) (n := 63) (k := n + 2) (x := "_law_script") (CX := L2.CX0) rfl (by decide) (by kernel_rfl) hr ?F (fun _ _ _ _ z => z)
    intro w mg fa h Y G hmg0
    obtain ⟨K, KX, c⟩ := Y
    have hmg : mg ("law" : PySem.Str) = some (.ref fa) := by
      have e : (HandSHeadRun.topDef (PySem.W.OpenLaw.row PySem.Challenge.rw_soleinstances_k81_answers_as_notes).prog 24).name = ("law" : PySem.Str) := by kernel_rfl
      rw [← e]
      exact hmg0
    obtain ⟨fd, hb, hF⟩ := fin (w := w) (n := n) KX G hmg c
    exact ⟨K, fd, fun vs H Q _ => spOf K (fun _ => 0) (call (Ds.map (·.fn)) 1000000 n) 13 vs H Q fun _ _ _ => False, KX, hb, fun H a ns hl _ hS => law_sp hl hS (runs ns hl), hF⟩
end Lw
namespace Lw
open PySem L2 PF
abbrev Fs : List Fn := Ds.map (·.fn)
abbrev cl (n : Nat) : Calls := call Fs 1000000 n
def low : Tx := [97, 98, 99, 100, 101, 102, 103, 104, 105, 106, 107, 108, 109, 110, 111, 112, 113, 114, 115, 116, 117, 118, 119, 120, 121, 122]
def upp : Tx := [65, 66, 67, 68, 69, 70, 71, 72, 73, 74, 75, 76, 77, 78, 79, 80, 81, 82, 83, 84, 85, 86, 87, 88, 89, 90]
theorem draw_ok {n a : Nat} {m : Int} {st : Store} (h : PoolAt st a) (hm : 0 < m) (hm2 : m < 1073741824) :
    ∃ (d : Int) (st' : Store), cl (n + 1) 8 [.ref a, .int m] st = .ok (.int d) st' ∧ 0 ≤ d ∧ d < m ∧ PoolAt st' a := by
  obtain ⟨g, s, h, h1, h2⟩ := h
  have hl : a < st.length := (List.getElem?_eq_some_iff.mp h).1
  rw [cl, call_at (fn := ⟨2, 3, c8⟩) rfl]
  by_cases hg : 0 < g
  · refine ⟨g % m, st.set a (.lst [.int (g / m), .int s]), ?_, Int.emod_nonneg _ (by omega), Int.emod_lt_of_pos _ hm, PoolAt.set hl _ _ h1 h2⟩
    simp [runF, c8, ex, ev, evs, evo, evT, opd, slotD, idxD, h, atI, ixN, cmpD, hg, bfD, binD, hm, hm2, okC, setS, putS]
  · have e1 : 0 ≤ (s * 48271 + 11) % 2147483647 := Int.emod_nonneg _ (by omega)
    have e2 : (s * 48271 + 11) % 2147483647 < 2147483647 := Int.emod_lt_of_pos _ (by omega)
    refine ⟨((s * 48271 + 11) % 2147483647 * ((s * 48271 + 11) % 2147483647)) % 2147483629 / 64 % m, st.set a (.lst [.int g, .int ((s * 48271 + 11) % 2147483647)]), ?_, Int.emod_nonneg _ (by omega), Int.emod_lt_of_pos _ hm, PoolAt.set hl _ _ e1 e2⟩
    have hb : big = 18446744073709551616 := rfl
    have k1 : mulOk s 48271 = true := by simp [mulOk, hb]
    have k2 : ∀ t : Int, 0 ≤ t → t < 2147483647 → mulOk t t = true := fun t a b => by
      simp only [mulOk, hb, Bool.or_eq_true, Bool.and_eq_true, decide_eq_true_eq]
      exact .inl ⟨by omega, by omega⟩
    have k3 := k2 _ e1 e2
    have hs : ∀ c, (st.set a c)[a]? = some c := fun c => List.getElem?_set_self hl
    simp [runF, c8, ex, ev, evs, evo, evT, opd, slotD, idxD, h, atI, ixN, cmpD, hg, bfD, binD, hm, hm2, okC, setS, putS, k1, k3, hs]
theorem pick_ok {n a : Nat} {xs : List D} {st : Store} (h : PoolAt st a) (h0 : 0 < xs.length) (h1 : xs.length < 1000) :
    ∃ (d : D) (st' : Store), cl (n + 2) 9 [.ref a, .lst xs] st = .ok d st' ∧ d ∈ xs ∧ PoolAt st' a := by
  obtain ⟨d, st', e, d0, d1, p⟩ := draw_ok (n := n) (m := (xs.length : Int)) h (by omega) (by omega)
  have hi : d.toNat < xs.length := by omega
  refine ⟨xs[d.toNat], st', ?_, List.getElem_mem hi, p⟩
  have ea : atI xs d = some xs[d.toNat] := by
    unfold atI ixN
    rw [if_pos d0, if_pos d1]
    exact List.getElem?_eq_getElem hi
  rw [cl, call_at (fn := ⟨2, 2, c9⟩) rfl]
  simp [runF, c9, ex, ev, evs, evo, opd, slotD, bfD, e, idxD, ea]
theorem pool_ok {n : Nat} {ns : List Int} {k : Int} {st : Store} (h0 : 0 ≤ k) (h1 : k < 64) :
    ∃ st', cl (n + 1) 7 [.scr (ns.map .int), .int k] st = .ok (.ref st.length) st' ∧ PoolAt st' st.length := by
  rw [cl, call_at (fn := ⟨2, 5, c7⟩) rfl]
  have hb : big = 18446744073709551616 := rfl
  have k1 : mulOk 104729 k = true := by simp [mulOk, hb]
  have k2 : mulOk (104729 * k) k = true := by
    simp only [mulOk, hb, Bool.or_eq_true, Bool.and_eq_true, decide_eq_true_eq]
    exact .inr ⟨by omega, by omega⟩
  have k3 : mulOk 7919 k = true := by simp [mulOk, hb]
  have hP : ∀ c : Int, (c % 2147483629 + 104729 * k * k + 7919 * k + 11).natAbs < 18446744073709551616 := fun c => by
    have e1 : 0 ≤ c % 2147483629 := Int.emod_nonneg _ (by omega)
    have e2 : c % 2147483629 < 2147483629 := Int.emod_lt_of_pos _ (by omega)
    have : 104729 * k * k ≤ 104729 * k * 64 := Int.mul_le_mul_of_nonneg_left (by omega) (by omega)
    have : 0 ≤ 104729 * k * k := Int.mul_nonneg (by omega) h0
    omega
  have wit : ∀ (g c : Int), PoolAt (st ++ [.lst [.int g, .int ((c % 2147483629 + 104729 * k * k + 7919 * k + 11) ^ 3 % 2147483647)]]) st.length := fun g c =>
    ⟨g, (c % 2147483629 + 104729 * k * k + 7919 * k + 11) ^ 3 % 2147483647, by simp, Int.emod_nonneg _ (by omega), Int.emod_lt_of_pos _ (by omega)⟩
  by_cases hk : k < ns.length
  · have ea : atI (ns.map D.int) k = some (.int (ns[k.toNat]'(by omega))) := by
      rw [atI_in h0 (by simpa using hk)]
      simp
    generalize ns[k.toNat]'(by omega) = c at ea
    have hp := hP c
    by_cases hg : c < 1000000000000000000
    · refine ⟨_, ?_, wit 0 c⟩
      simp [runF, c7, hk, ea, k1, k2, k3, hg, hp, line]
    · refine ⟨_, ?_, wit c c⟩
      simp [runF, c7, hk, ea, k1, k2, k3, hg, hp, line]
  · have hp := hP 0
    refine ⟨_, ?_, wit 0 0⟩
    simp at hp
    simp [runF, c7, hk, k1, k2, k3, hp, line]
end Lw
namespace Lw
open PySem L2 PF
/-- answers -/
inductive An where
  | told (k : Nat)
  | node (w : Tx) (k : Nat) (ts : List An)
def dg (k : Nat) : Tx := unt (toString (k : Int))
mutual
def An.d : An → D
  | .told k => .tup [.str [], .int k, .tup []]
  | .node w k ts => .tup [.str w, .int k, .tup (dAll ts)]
def dAll : List An → List D
  | [] => []
  | a :: r => a.d :: dAll r
end
mutual
def An.t : An → Tx
  | .told k => 63 :: dg k
  | .node w k ts => w ++ [46] ++ dg k ++ (match ts with | [] => [] | ts => [40] ++ joinT [44] (tAll ts) ++ [41])
def tAll : List An → List Tx
  | [] => []
  | a :: r => a.t :: tAll r
end
-- how deep
mutual
def An.h : An → Nat
  | .told _ => 1
  | .node _ _ ts => hAll ts + 1
def hAll : List An → Nat
  | [] => 0
  | a :: r => max a.h (hAll r)
end
def numOk (k : Nat) : Bool := decide (k ≤ 11) || k == 100 || k == 999
-- names and numbers as drawn
mutual
def An.ok : An → Bool
  | .told k => numOk k
  | .node w k ts => !w.isEmpty && decide (w.length ≤ 8) && w.all (fun c => decide (97 ≤ c ∧ c ≤ 122)) && numOk k && okAll ts
def okAll : List An → Bool
  | [] => true
  | a :: r => a.ok && okAll r
end
theorem dg_ok : ∀ k ∈ (List.range 12 ++ [100, 999]), 1 ≤ (dg k).length ∧ (dg k).length ≤ 3 ∧ (dg k).all (fun c => decide (48 ≤ c ∧ c ≤ 57)) = true ∧ PySem.intText? (tx (dg k)) = some (k : Int) := by decide +kernel
end Lw
namespace Lw
open PySem L2 PF
theorem numOk_mem {k : Nat} (h : numOk k = true) : k ∈ (List.range 12 ++ [100, 999]) := by
  unfold numOk at h
  simp at h ⊢
  omega
theorem dg_num {k : Nat} (h : numOk k = true) : 1 ≤ (dg k).length ∧ (dg k).length ≤ 3 ∧ (dg k).all (fun c => decide (48 ≤ c ∧ c ≤ 57)) = true ∧ PySem.intText? (tx (dg k)) = some (k : Int) := dg_ok k (numOk_mem h)
theorem log_ok : ∀ k : Nat, k ∈ (List.range 12 ++ [100, 999]) → ((k : Int)).natAbs.log2 < 1920 := by decide +kernel
/-- the texts of parts -/
theorem texts_all : ∀ ts : List An, textsOf ((tAll ts).map .str) = some (tAll ts)
  | [] => rfl
  | a :: r => by
    show textsOf (.str a.t :: (tAll r).map .str) = some (a.t :: tAll r)
    rw [textsOf, texts_all r]
    rfl
theorem sum_le {ts : List Tx} {a : Tx} : (ts.map (·.length)).sum + ts.length * a.length ≤ (joinT a ts).length + a.length := by
  induction ts with
  | nil => simp [joinT]
  | cons x r ih =>
    cases r with
    | nil => simp [joinT]
    | cons y r =>
      rw [joinT, List.map_cons, List.sum_cons, List.length_cons, Nat.succ_mul, List.length_append, List.length_append]
      omega
end Lw
namespace Lw
open PySem L2 PF
theorem part_le {x : Tx} {a : Tx} : ∀ {ts : List Tx}, x ∈ ts → x.length ≤ (joinT a ts).length
  | [y], h => by
    rw [List.mem_singleton] at h
    subst h
    exact Nat.le_refl _
  | y :: z :: r, h => by
    rw [joinT, List.length_append, List.length_append]
    rcases List.mem_cons.mp h with rfl | h
    · omega
    · have := part_le (a := a) h
      omega
theorem fmt_num {k : Nat} (h : numOk k = true) : fmtD (.int k) = some (.str (dg k)) := by
  show (if _ ∧ _ then _ else _) = _
  rw [if_pos ⟨log_ok k (numOk_mem h), Nat.le_trans (dg_num h).2.1 (by decide)⟩]
  rfl
theorem str_num {k : Nat} {st : Store} (h : numOk k = true) : bfD st .str [.int k] = some (.str (dg k)) := by
  show (if _ ∧ _ then _ else _) = _
  rw [if_pos ⟨log_ok k (numOk_mem h), Nat.le_trans (dg_num h).2.1 (by decide)⟩]
  rfl
theorem write_told {k n : Nat} {st : Store} (hk : numOk k = true) : cl (n + 1) 1 [(An.told k).d] st = .ok (.str (An.told k).t) st := by
  have h4 : 1 + (dg k).length ≤ 16777216 := by have := (dg_num hk).2.1; omega
  rw [cl, call_at (fn := ⟨1, 6, c1⟩) rfl]
  simp [-fmtD_int, runF, c1, An.d, line, fmt_num hk, h4, An.t]
end Lw
namespace Lw
open PySem L2 PF
/-- the parts' texts by a function that writes each -/
theorem parts_map {C : Calls} {f j : Nat} {ρ : PF.Env} {st : Store} (hj : j < ρ.length) : ∀ {ts : List An}, (∀ a ∈ ts, ∀ st, C f [a.d] st = .ok (.str a.t) st) → mapO (lcF C j .nil (.call f (.cons (.var j) .nil)) ρ) (dAll ts) st = .ok ((tAll ts).map .str) st
  | [], _ => rfl
  | a :: r, h => by
    have e1 : lcF C j .nil (.call f (.cons (.var j) .nil)) ρ a.d st = .ok (some (.str a.t)) st := by
      rw [lcF_nil]
      have hs : slotD (ρ.set j (.im a.d)) j = some a.d := by
        unfold slotD
        rw [List.getElem?_set_self hj]
      simp [hs, h a List.mem_cons_self st]
    have ih := parts_map (ts := r) (st := st) hj fun b hb => h b (List.mem_cons_of_mem _ hb)
    show mapO _ (a.d :: dAll r) st = .ok (.str a.t :: (tAll r).map .str) st
    rw [mapO, e1]
    simp [ih]
end Lw
namespace Lw
open PySem L2 PF
theorem write_node {w : Tx} {k n : Nat} {ts : List An} {st : Store} (hw : w ≠ []) (hk : numOk k = true) (hl : (An.node w k ts).t.length ≤ 1000000) (ih : ∀ a ∈ ts, ∀ st, cl n 1 [a.d] st = .ok (.str a.t) st) : cl (n + 1) 1 [(An.node w k ts).d] st = .ok (.str (An.node w k ts).t) st := by
  rw [cl, call_at (fn := ⟨1, 6, c1⟩) rfl]
  have e := parts_map (C := call Fs 1000000 n) (f := 1) (j := 5) (ρ := [.im (An.node w k ts).d, .im (.str w), .im (.int k), .im (.tup (dAll ts)), .un, .un]) (st := st) (by simp) ih
  have e2 : ev (call Fs 1000000 n) (.lc 5 (.var 3) .nil (.call 1 (.cons (.var 5) .nil))) [.im (An.node w k ts).d, .im (.str w), .im (.int k), .im (.tup (dAll ts)), .un, .un] st = .ok (.lst ((tAll ts).map .str)) st := by
    rw [ev_lc]
    simp [e]
  simp only [An.d] at e2
  cases ts with
  | nil =>
    simp [An.t] at hl
    have l1 : w.length ≤ 16777216 := by omega
    have l2 : w.length ≤ 16777215 := by omega
    have l3 : w.length + 1 + (dg k).length ≤ 16777216 := by omega
    have l4 : w.length + ((dg k).length + 1) ≤ 16777216 := by omega
    have dq : deq (.lst (List.map D.str (tAll []))) (.lst []) = some true := by decide +kernel
    simp [-fmtD_int, runF, c1, An.d, line, fmt_num hk, An.t, hw, e2, l1, l2, l3, l4, dq]
  | cons a r =>
    have ht : (An.node w k (a :: r)).t = w ++ [46] ++ dg k ++ ([40] ++ joinT [44] (tAll (a :: r)) ++ [41]) := rfl
    rw [ht] at hl ⊢
    simp at hl
    have sl := sum_le (ts := tAll (a :: r)) (a := [44])
    simp at sl
    have l1 : w.length ≤ 16777216 := by omega
    have l2 : w.length ≤ 16777215 := by omega
    have l3 : w.length + 1 + (dg k).length ≤ 16777216 := by omega
    have l5 : ((tAll (a :: r)).map (·.length)).sum + (tAll (a :: r)).length ≤ 16777216 := by omega
    have l6 : (joinT [44] (tAll (a :: r))).length + 1 ≤ 16777216 := by omega
    have l7 : w.length + ((dg k).length + 1) + ((joinT [44] (tAll (a :: r))).length + 2) ≤ 16777216 := by omega
    have dq : deq (.lst ((tAll (a :: r)).map D.str)) (.lst []) = some false := rfl
    have tx := texts_all (a :: r)
    have l8 : 1 + (joinT [44] (tAll (a :: r))).length ≤ 16777216 := by omega
    have l9 : (joinT [44] (tAll (a :: r))).length + 1 ≤ 16777215 := by omega
    have la : w.length + ((dg k).length + 1) + ((joinT [44] (tAll (a :: r))).length + 1 + 1) ≤ 16777216 := by omega
    have lb : (joinT [44] (tAll (a :: r))).length ≤ 16777214 := by omega
    simp [-fmtD_int, runF, c1, An.d, line, fmt_num hk, hw, e2, l1, l2, l3, l5, l6, l8, l9, la, lb, dq, tx]
end Lw
namespace Lw
open PySem L2 PF
theorem node_len {w : Tx} {k : Nat} {ts : List An} {x : Tx} (h : x ∈ tAll ts) : x.length ≤ (An.node w k ts).t.length := by
  cases ts with
  | nil => cases h
  | cons a r =>
    have ht : (An.node w k (a :: r)).t = w ++ [46] ++ dg k ++ ([40] ++ joinT [44] (tAll (a :: r)) ++ [41]) := rfl
    have := part_le (a := [44]) h
    rw [ht]
    simp
    omega
theorem mem_tAll {a : An} : ∀ {ts : List An}, a ∈ ts → a.t ∈ tAll ts
  | b :: r, h => by
    rcases List.mem_cons.mp h with rfl | h
    · exact List.mem_cons_self
    · exact List.mem_cons_of_mem _ (mem_tAll h)
theorem mem_ok {a : An} : ∀ {ts : List An}, a ∈ ts → okAll ts = true → a.ok = true
  | b :: r, h, o => by
    have o : (b.ok && okAll r) = true := o
    rw [Bool.and_eq_true] at o
    rcases List.mem_cons.mp h with rfl | h
    · exact o.1
    · exact mem_ok h o.2
theorem mem_h {a : An} : ∀ {ts : List An}, a ∈ ts → a.h ≤ hAll ts
  | b :: r, h => by
    show a.h ≤ max b.h (hAll r)
    rcases List.mem_cons.mp h with rfl | h
    · omega
    · have := mem_h h
      omega
theorem write_ok : ∀ (n : Nat) (a : An), a.ok = true → a.t.length ≤ 1000000 → a.h ≤ n → ∀ st, cl n 1 [a.d] st = .ok (.str a.t) st := by
  intro n
  induction n with
  | zero => intro a _ _ h; cases a <;> simp [An.h] at h
  | succ n ih =>
    intro a o l h st
    cases a with
    | told k => exact write_told o
    | node w k ts =>
      have o : (!w.isEmpty && decide (w.length ≤ 8) && w.all (fun c => decide (97 ≤ c ∧ c ≤ 122)) && numOk k && okAll ts) = true := o
      simp only [Bool.and_eq_true] at o
      obtain ⟨⟨⟨⟨o1, _⟩, _⟩, o4⟩, o5⟩ := o
      have h : hAll ts + 1 ≤ n + 1 := h
      refine write_node (by intro z; rw [z] at o1; cases o1) o4 l fun a ha st => ih a (mem_ok ha o5) (Nat.le_trans (node_len (mem_tAll ha)) l) (by have := mem_h ha; omega) st
end Lw
namespace Lw
open PySem L2 PF
theorem text_told {k n : Nat} {st : Store} (hk : numOk k = true) : cl (n + 1) 11 [(An.told k).d] st = .ok (.str (An.told k).t) st := by
  have h4 : 1 + (dg k).length ≤ 16777216 := by have := (dg_num hk).2.1; omega
  rw [cl, call_at (fn := ⟨1, 6, c11⟩) rfl]
  simp [-bfD_str, runF, c11, An.d, line, str_num hk, h4, An.t]
theorem deq_unit {xs : List D} (h : xs ≠ []) {ps : List PyData} (hp : pyAll xs = some ps) (hs : SeqAt.shaped (.tuple ps) = true) : deq (.tup xs) (.tup []) = some false := by
  unfold deq
  have e1 : scalD (.tup xs) (.tup []) = none := rfl
  have e2 : lenNe (.tup xs) (.tup []) = false := rfl
  have e3 : D.py (.tup xs) = some (.tuple ps) := by rw [D.py, hp]; rfl
  have e4 : D.py (.tup []) = some (.tuple []) := rfl
  have e5 : SeqAt.shaped (.tuple []) = true := by decide +kernel
  rw [e1, e2, e3, e4]
  simp [hs, e5]
  cases ps with
  | nil =>
    cases xs with
    | nil => exact absurd rfl h
    | cons x r =>
      rw [pyAll] at hp
      split at hp <;> cases hp
  | cons p r => rfl
end Lw
set_option pp.fieldNotation.generalized false
namespace Lw
open PySem L2 PF
mutual
def An.py : An → PyData
  | .told k => .tuple [.str (tx []), .int k, .tuple []]
  | .node w k ts => .tuple [.str (tx w), .int k, .tuple (pyAn ts)]
def pyAn : List An → List PyData
  | [] => []
  | a :: r => a.py :: pyAn r
end
mutual
theorem py_eq : ∀ a : An, D.py a.d = some a.py
  | .told k => rfl
  | .node w k ts => by
    rw [An.d, D.py, pyAll, D.py, pyAll, D.py, pyAll, D.py, pys_eq ts]
    rfl
theorem pys_eq : ∀ ts : List An, pyAll (dAll ts) = some (pyAn ts)
  | [] => rfl
  | a :: r => by
    rw [dAll, pyAll, py_eq a, pys_eq r]
    rfl
end
theorem strOk_low {w : Tx} (h : w.all (fun c => decide (97 ≤ c ∧ c ≤ 122)) = true) : PyData.strOk (tx w) = true := by
  unfold PyData.strOk tx
  rw [Array.all_eq_true']
  intro c hc
  have hc : c ∈ w := by simpa using hc
  have := List.all_eq_true.mp h c hc
  simp at this ⊢
  omega
mutual
theorem lay_ok : ∀ a : An, a.ok = true → PyData.canLay0 a.py = true
  | .told k, _ => by
    simp only [An.py, PyData.canLay0, PyData.canLayAll0]
    rw [strOk_low (w := []) rfl]
    rfl
  | .node w k ts, o => by
    have o : (!w.isEmpty && decide (w.length ≤ 8) && w.all (fun c => decide (97 ≤ c ∧ c ≤ 122)) && numOk k && okAll ts) = true := o
    simp only [Bool.and_eq_true] at o
    obtain ⟨⟨⟨⟨o1, _⟩, o3⟩, o4⟩, o5⟩ := o
    rw [An.py, PyData.canLay0, PyData.canLayAll0, PyData.canLay0, strOk_low o3, PyData.canLayAll0, PyData.canLay0, PyData.canLayAll0, PyData.canLay0, lays_ok ts o5]
    rfl
theorem lays_ok : ∀ ts : List An, okAll ts = true → PyData.canLayAll0 (pyAn ts) = true
  | [], _ => rfl
  | a :: r, o => by
    have o : (a.ok && okAll r) = true := o
    rw [Bool.and_eq_true] at o
    rw [pyAn, PyData.canLayAll0, lay_ok a o.1, lays_ok r o.2]
    rfl
end
mutual
theorem dep_ok : ∀ a : An, PyData.depth a.py ≤ 2 * a.h
  | .told k => by
    simp only [An.py, PyData.depth, PyData.depthAll, An.h]
    omega
  | .node w k ts => by
    have := deps_ok ts
    rw [An.py, An.h]
    simp only [PyData.depth, PyData.depthAll]
    omega
theorem deps_ok : ∀ ts : List An, PyData.depthAll (pyAn ts) ≤ 2 * hAll ts
  | [] => by decide
  | a :: r => by
    have h1 := dep_ok a
    have h2 := deps_ok r
    rw [pyAn, hAll, PyData.depthAll]
    omega
end
theorem shaped_an {a : An} (o : a.ok = true) (h : a.h ≤ 30) : SeqAt.shaped a.py = true := by
  unfold SeqAt.shaped
  rw [lay_ok a o, Bool.true_and]
  exact decide_eq_true (Nat.le_trans (dep_ok a) (by omega))
theorem shaped_parts {ts : List An} (o : okAll ts = true) (h : hAll ts ≤ 30) : SeqAt.shaped (.tuple (pyAn ts)) = true := by
  unfold SeqAt.shaped
  rw [PyData.canLay0, lays_ok ts o, Bool.true_and]
  refine decide_eq_true ?_
  rw [PyData.depth]
  have := deps_ok ts
  omega
/-- an answer is equal to itself -/
theorem deq_an {a : An} (o : a.ok = true) (h : a.h ≤ 30) : deq a.d a.d = some true := by
  have e0 : scalD a.d a.d = none := by cases a <;> rfl
  have e1 : lenNe a.d a.d = false := by cases a <;> rfl
  unfold deq
  rw [e0, e1, py_eq a]
  simp [shaped_an o h]
  exact SeqAt.eqv_refl _ (lay_ok a o)
end Lw
namespace Lw
open PySem L2 PF
theorem text_node {w : Tx} {k n : Nat} {ts : List An} {st : Store} (hw : w ≠ []) (hk : numOk k = true) (ho : okAll ts = true) (hh : hAll ts ≤ 30) (hl : (An.node w k ts).t.length ≤ 1000000) (ih : ∀ a ∈ ts, ∀ st, cl n 11 [a.d] st = .ok (.str a.t) st) : cl (n + 1) 11 [(An.node w k ts).d] st = .ok (.str (An.node w k ts).t) st := by
  rw [cl, call_at (fn := ⟨1, 6, c11⟩) rfl]
  cases ts with
  | nil =>
    simp [An.t] at hl
    have l2 : w.length + 1 ≤ 16777216 := by omega
    have l3 : w.length + 1 + (dg k).length ≤ 16777216 := by omega
    have dq : deq (.tup (dAll [])) (.tup []) = some true := by decide +kernel
    simp [-bfD_str, runF, c11, An.d, line, str_num hk, An.t, hw, l2, l3, dq]
  | cons a r =>
    have ht : (An.node w k (a :: r)).t = w ++ [46] ++ dg k ++ ([40] ++ joinT [44] (tAll (a :: r)) ++ [41]) := rfl
    rw [ht] at hl ⊢
    simp at hl
    have sl := sum_le (ts := tAll (a :: r)) (a := [44])
    simp at sl
    have e := parts_map (C := call Fs 1000000 n) (f := 11) (j := 5) (ρ := [.im (An.node w k (a :: r)).d, .im (.str w), .im (.int k), .im (.tup (dAll (a :: r))), .im (.str (w ++ 46 :: dg k)), .un]) (st := st) (by simp) ih
    have e2 : ev (call Fs 1000000 n) (.lc 5 (.var 3) .nil (.call 11 (.cons (.var 5) .nil))) [.im (An.node w k (a :: r)).d, .im (.str w), .im (.int k), .im (.tup (dAll (a :: r))), .im (.str (w ++ 46 :: dg k)), .un] st = .ok (.lst ((tAll (a :: r)).map .str)) st := by
      rw [ev_lc]
      simp [e]
    simp only [An.d] at e2
    have l2 : w.length + 1 ≤ 16777216 := by omega
    have l3 : w.length + 1 + (dg k).length ≤ 16777216 := by omega
    have l5 : ((tAll (a :: r)).map (·.length)).sum + (tAll (a :: r)).length ≤ 16777216 := by omega
    have l6 : w.length + ((dg k).length + 1) ≤ 16777215 := by omega
    have l7 : w.length + ((dg k).length + 1 + 1) + (joinT [44] (tAll (a :: r))).length ≤ 16777216 := by omega
    have l8 : w.length + ((dg k).length + ((joinT [44] (tAll (a :: r))).length + 1) + 1) ≤ 16777215 := by omega
    have dq : deq (.tup (dAll (a :: r))) (.tup []) = some false := deq_unit (by simp [dAll]) (pys_eq _) (shaped_parts ho hh)
    have tx := texts_all (a :: r)
    simp [-bfD_str, runF, c11, An.d, line, str_num hk, hw, e2, l2, l3, l5, l6, l7, l8, dq, tx]
end Lw
namespace Lw
open PySem L2 PF
/-! places in a text -/
theorem cut_nat {T : Tx} {i j : Nat} : cut T (some (i : Int)) (some (j : Int)) = (T.drop i).take (j - i) := by
  unfold cut
  rw [HT.sIx_nat, HT.sIx_nat]
  by_cases h : i ≤ T.length
  · rw [Nat.min_eq_left h]
    by_cases h2 : j ≤ T.length
    · rw [Nat.min_eq_left h2]
    · rw [Nat.min_eq_right (by omega)]
      rw [List.take_of_length_le (by rw [List.length_drop]; omega), List.take_of_length_le (by rw [List.length_drop]; omega)]
  · rw [List.drop_of_length_le (show T.length ≤ i by omega), List.drop_of_length_le (show T.length ≤ min i T.length by omega), List.take_nil, List.take_nil]
theorem cut_next {T : Tx} {i : Nat} : cut T (some (i : Int)) (some ((i : Int) + 1)) = (T.drop i).take 1 := by
  have := cut_nat (T := T) (i := i) (j := i + 1)
  rw [show i + 1 - i = 1 by omega] at this
  exact this
theorem drop_cons {T s : Tx} {i c : Nat} (h : T.drop i = c :: s) : i < T.length ∧ T[i]? = some c ∧ T.drop (i + 1) = s := by
  have hl : i < T.length := by
    rcases Nat.lt_or_ge i T.length with z | z
    · exact z
    · rw [List.drop_of_length_le z] at h; cases h
  refine ⟨hl, ?_, ?_⟩
  · have := List.getElem?_drop (xs := T) (i := i) (j := 0)
    rw [h] at this
    simpa using this.symm
  · rw [← List.tail_drop, h]
    rfl
theorem drop_app {T s r : Tx} {i : Nat} (h : T.drop i = s ++ r) : T.drop (i + s.length) = r := by
  rw [← List.drop_drop, h, List.drop_left]
theorem drop_len {T s : Tx} {i : Nat} (h : T.drop i = s) (hs : s ≠ []) : i + s.length = T.length := by
  have := List.length_drop (l := T) (i := i)
  rw [h] at this
  cases s with
  | nil => exact absurd rfl hs
  | cons c r => rw [List.length_cons] at this ⊢; omega
theorem drop_nil {T : Tx} {i : Nat} (h : T.drop i = []) (hi : i ≤ T.length) : i = T.length := by
  have := List.length_drop (l := T) (i := i)
  rw [h] at this
  simp at this
  omega
theorem atI_nat {T : Tx} {i : Nat} : atI T (i : Int) = T[i]? := by
  unfold atI ixN
  rw [if_pos (by omega)]
  by_cases h : (i : Int) < T.length
  · rw [if_pos h]; rfl
  · rw [if_neg h, List.getElem?_eq_none (by omega)]; rfl
theorem from_nat (n i : Nat) : PySem.fromIndex n (i : Int) = i := by
  unfold PySem.fromIndex
  rw [if_neg (by omega)]
  omega
theorem cps_getD (T : Tx) (v : Nat) (h : v < T.length) : (tx T).cps.getD v 0 = T[v] := by
  simp [tx, Array.getD, h]
theorem find_at {T w s : Tx} {i : Nat} (h : T.drop i = w ++ 46 :: s) (hw : 46 ∉ w) : Txt.find3 (tx T) (tx [46]) (i : Int) = ((i + w.length : Nat) : Int) := by
  have hl := drop_len h (by simp)
  rw [List.length_append, List.length_cons] at hl
  have hg : ∀ v, i ≤ v → v < T.length → T[v]? = (w ++ 46 :: s)[v - i]? := fun v h1 h2 => by
    rw [← h, List.getElem?_drop, show i + (v - i) = v by omega]
  have key : T[i + w.length]? = some 46 := by
    rw [hg _ (by omega) (by omega), show i + w.length - i = w.length by omega, List.getElem?_append_right (Nat.le_refl _), Nat.sub_self]
    rfl
  rcases StrLaws.find3_spec (tx T) 46 (i : Int) with ⟨e, hn⟩ | ⟨k, e, h1, h2, h3, h4⟩
  · rw [from_nat, tx_len] at hn
    have := hn (i + w.length) (by omega) (by omega)
    rw [cps_getD T _ (by omega)] at this
    have k2 := List.getElem?_eq_getElem (l := T) (i := i + w.length) (by omega)
    rw [k2] at key
    exact absurd (Option.some.inj key) this
  · rw [from_nat] at h1 h4
    rw [tx_len] at h2
    rw [cps_getD T _ h2] at h3
    show Txt.find3 (tx T) ⟨#[46]⟩ (i : Int) = _
    rw [e]
    have k1 : T[k]? = some 46 := by rw [List.getElem?_eq_getElem h2, h3]
    rcases Nat.lt_trichotomy k (i + w.length) with z | z | z
    · rw [hg k h1 h2, List.getElem?_append_left (by omega)] at k1
      exact absurd (List.mem_of_getElem? k1) hw
    · rw [z]
    · have := h4 (i + w.length) (by omega) z
      rw [cps_getD T _ (by omega)] at this
      have k2 := List.getElem?_eq_getElem (l := T) (i := i + w.length) (by omega)
      rw [k2] at key
      exact absurd (Option.some.inj key) this
/-- what stands between a place and the next point begins with what stands there -/
theorem find_any {T : Tx} {i : Nat} : Txt.find3 (tx T) (tx [46]) (i : Int) = -1 ∨ ∃ k : Nat, Txt.find3 (tx T) (tx [46]) (i : Int) = ((i + k : Nat) : Int) ∧ i + k < T.length := by
  rcases StrLaws.find3_spec (tx T) 46 (i : Int) with ⟨e, _⟩ | ⟨k, e, h1, h2, _⟩
  · exact .inl e
  · rw [from_nat] at h1
    rw [tx_len] at h2
    exact .inr ⟨k - i, by rw [show i + (k - i) = k by omega]; exact e, by omega⟩
end Lw
namespace Lw
open PySem L2 PF
/-! is_name, number_at -/
def alow (s : Tx) : Bool := s.all fun c => decide (c ∈ low)
def okLen (s : Tx) : Bool := decide ((1 : Int) ≤ s.length) && decide ((s.length : Int) ≤ 8)
def nameB (s : Tx) : Bool := okLen s && alow s
theorem bools_low (s : Tx) : boolsOf (s.map fun c => .bl (decide (c ∈ low))) = some (s.map fun c => decide (c ∈ low)) := by
  induction s with
  | nil => rfl
  | cons c r ih => rw [List.map_cons, boolsOf, ih]; rfl
theorem low_lc {C : Calls} {ρ : PF.Env} {st : Store} {src : E} {s : Tx} (h1 : opd src (ev C src) ρ st = .ok (.str s) st) (h2 : 1 < ρ.length) :
    ev C (.lc 1 src .nil (.cmp .inn (.var 1) (.glb "LOWER" (.str [97, 98, 99, 100, 101, 102, 103, 104, 105, 106, 107, 108, 109, 110, 111, 112, 113, 114, 115, 116, 117, 118, 119, 120, 121, 122])))) ρ st = .ok (.lst (s.map fun c => .bl (decide (c ∈ low)))) st := by
  have e := ev_lc_map (C := C) (ρ := ρ) (st := st) (st1 := st) (j := 1) (src := src) (e := .cmp .inn (.var 1) (.glb "LOWER" (.str [97, 98, 99, 100, 101, 102, 103, 104, 105, 106, 107, 108, 109, 110, 111, 112, 113, 114, 115, 116, 117, 118, 119, 120, 121, 122]))) (s := .str s) (xs := s.map fun c => .str [c]) (g := fun x => .bl (match x with | .str [c] => decide (c ∈ low) | _ => false)) h1 rfl (by
    intro x hx st
    obtain ⟨c, _, rfl⟩ := List.mem_map.mp hx
    have : slotD (ρ.set 1 (.im (.str [c]))) 1 = some (.str [c]) := by
      unfold slotD
      rw [List.getElem?_set_self h2]
    have hl : List.length [97, 98, 99, 100, 101, 102, 103, 104, 105, 106, 107, 108, 109, 110, 111, 112, 113, 114, 115, 116, 117, 118, 119, 120, 121, 122] ≤ line := by decide
    rw [ev_cmp]
    simp only [opd_var, opd_glb, ev_var, ev_glb, this, lift, O.bind, okC_str, hl, decide_true, if_true, cmpD_in, inD_sign, Option.map]
    rfl)
  rw [e, List.map_map]
  rfl
theorem name_ok {n : Nat} {s : Tx} {st : Store} : cl (n + 1) 0 [.str s] st = .ok (.bl (nameB s)) st := by
  rw [cl, call_at (fn := ⟨1, 2, c0⟩) rfl]
  have e := low_lc (C := call Fs 1000000 n) (ρ := [.im (.str s), .un]) (st := st) (src := .var 0) (s := s) (by simp) (by simp)
  by_cases h1 : (1 : Int) ≤ s.length
  · by_cases h2 : (s.length : Int) ≤ 8
    · simp [runF, c0, kit_str, line, h1, h2, e, bools_low, alow, nameB, okLen]
    · simp [runF, c0, kit_str, line, h1, h2, nameB, okLen]
  · simp [runF, c0, kit_str, line, h1, nameB, okLen]
def digs : Tx := [48, 49, 50, 51, 52, 53, 54, 55, 56, 57]
/-- the rest begins with no figure -/
def noDig (r : Tx) : Prop := ∀ c s, r = c :: s → c ∉ digs
def c2w : E := (.and (.tcm .lt (.var 2) (.cb .len (.cons (.var 0) .nil))) (.tcm .inn (.idx (.var 0) (.var 2)) (.glb "DIGITS" (.str [48, 49, 50, 51, 52, 53, 54, 55, 56, 57]))))
def c2b : S := (.seq (.set 2 (.bin .add (.var 2) (.cst (.int 1)))) .skip)
theorem num_loop {C : Calls} {T r : Tx} {x1 x3 : Slot} {st : Store} (hr : noDig r) : ∀ {ds : Tx} {i m : Nat}, T.drop i = ds ++ r → (∀ c ∈ ds, c ∈ digs) → ds.length < m →
    whlO (evT C c2w) (ex C 1000000 c2b) m [.im (.str T), x1, .im (.int (i : Int)), x3] st = .ok (.next [.im (.str T), x1, .im (.int ((i + ds.length : Nat) : Int)), x3]) st
  | [], i, m + 1, h, _, hm => by
    rw [List.nil_append] at h
    cases r with
    | nil =>
      have hl : ¬ (i : Int) < T.length := by
        intro z
        have : i < T.length := by omega
        have := List.length_drop (l := T) (i := i)
        rw [h] at this
        simp at this
        omega
      simp [whlO, c2w, hl]
    | cons c s =>
      obtain ⟨h1, h2, h3⟩ := drop_cons h
      have hl : (i : Int) < T.length := by omega
      have hd := hr c s rfl
      simp [digs] at hd
      simp [whlO, c2w, hl, atI_nat, h2, line, hd]
  | d :: ds, i, m + 1, h, hd, hm => by
    rw [List.cons_append] at h
    obtain ⟨h1, h2, h3⟩ := drop_cons h
    have hl : (i : Int) < T.length := by omega
    have hdd : d ∈ digs := hd d List.mem_cons_self
    simp [digs] at hdd
    have ih := num_loop (C := C) (T := T) (r := r) (x1 := x1) (x3 := x3) (st := st) hr (ds := ds) (i := i + 1) (m := m) h3 (fun c hc => hd c (List.mem_cons_of_mem _ hc)) (by rw [List.length_cons] at hm; omega)
    have e : ((i + 1 : Nat) : Int) = (i : Int) + 1 := by omega
    rw [e] at ih
    have e2 : i + 1 + ds.length = i + (d :: ds).length := by rw [List.length_cons]; omega
    rw [e2] at ih
    rw [whlO]
    have ec : evT C c2w [.im (.str T), x1, .im (.int (i : Int)), x3] st = .ok true st := by
      simp [c2w, hl, atI_nat, h2, line, hdd]
    have eb : ex C 1000000 c2b [.im (.str T), x1, .im (.int (i : Int)), x3] st = .ok (.next [.im (.str T), x1, .im (.int ((i : Int) + 1)), x3]) st := by
      simp [c2b]
    rw [ec]
    simp only [O.thn, if_true, eb, O.bind]
    exact ih
theorem c2_eq : c2 = (.seq (.set 2 (.var 1)) (.seq (.whl c2w c2b) (.seq (.set 3 (.slc (.var 0) (.var 1) (.var 2))) (.seq (.ite (.or (.not (.tch .le .le (.cst (.int 1)) (.cb .len (.cons (.var 3) .nil)) (.glb "MOST_DIGITS" (.int 3)))) (.tcm .ne (.var 3) (.cb .str (.cons (.cb .int (.cons (.var 3) .nil)) .nil)))) (.seq (.ret (.cst .non)) .skip) .skip) (.seq (.ret (.var 3)) .skip))))) := rfl
theorem dg_digs {k : Nat} (h : numOk k = true) : ∀ c ∈ dg k, c ∈ digs := by
  intro c hc
  have := List.all_eq_true.mp (dg_num h).2.2.1 c hc
  simp at this
  simp [digs]
  omega
theorem num_ok {n : Nat} {T r : Tx} {i k : Nat} {st : Store} (hk : numOk k = true) (h : T.drop i = dg k ++ r) (hr : noDig r) : cl (n + 1) 2 [.str T, .int (i : Int)] st = .ok (.str (dg k)) st := by
  rw [cl, call_at (fn := ⟨2, 4, c2⟩) rfl, runF_eq rfl (by decide), c2_eq]
  have hl := num_loop (C := call Fs 1000000 n) (x1 := .im (.int (i : Int))) (x3 := .un) (st := st) hr (m := 1000000) h (dg_digs hk) (by have := (dg_num hk).2.1; omega)
  have e1 : cut T (some (i : Int)) (some ((i + (dg k).length : Nat) : Int)) = dg k := by
    rw [cut_nat, h, show i + (dg k).length - i = (dg k).length by omega, List.take_left]
  have e1' : cut T (some (i : Int)) (some ((i : Int) + (dg k).length)) = dg k := by
    rw [show (i : Int) + ((dg k).length : Int) = ((i + (dg k).length : Nat) : Int) by omega]; exact e1
  obtain ⟨d1, d2, d3, d4⟩ := dg_num hk
  have l1 : (1 : Int) ≤ (dg k).length := by omega
  have l2 : ((dg k).length : Int) ≤ 3 := by omega
  have l3 : (dg k).length ≤ 640 := by omega
  have sn := str_num (k := k) (st := st) hk
  have lh : (dg k).length > 0 := by omega
  simp [ex_whl, hl, e1, e1', l1, l2, l3, d4, -bfD_str, sn]
theorem num_none {n : Nat} {T : Tx} {i : Nat} {st : Store} (hr : noDig (T.drop i)) : cl (n + 1) 2 [.str T, .int (i : Int)] st = .ok .non st := by
  rw [cl, call_at (fn := ⟨2, 4, c2⟩) rfl, runF_eq rfl (by decide), c2_eq]
  have hl := num_loop (C := call Fs 1000000 n) (x1 := .im (.int (i : Int))) (x3 := .un) (st := st) hr (m := 1000000) (ds := []) (i := i) (T := T) rfl (by simp) (by decide)
  have e1 : cut T (some (i : Int)) (some (i : Int)) = [] := by
    rw [cut_nat, Nat.sub_self, List.take_zero]
  simp at hl
  simp [ex_whl, hl, e1]
end Lw
namespace Lw
open PySem L2 PF
/-! answer_at -/
theorem ans_told {n : Nat} {T r : Tx} {i k : Nat} {st : Store} (hk : numOk k = true) (h : T.drop i = 63 :: (dg k ++ r)) (hr : noDig r) : cl (n + 2) 4 [.str T, .int (i : Int)] st = .ok (.tup [(An.told k).d, .int ((i + (An.told k).t.length : Nat) : Int)]) st := by
  obtain ⟨h1, h2, h3⟩ := drop_cons h
  have hn := num_ok (n := n) (st := st) (i := i + 1) hk h3 hr
  have e : ((i + 1 : Nat) : Int) = (i : Int) + 1 := by omega
  rw [e] at hn
  obtain ⟨d1, d2, d3, d4⟩ := dg_num hk
  have l3 : (dg k).length ≤ 640 := by omega
  have e2 : ((i + (An.told k).t.length : Nat) : Int) = (i : Int) + 1 + (dg k).length := by
    show ((i + ((dg k).length + 1) : Nat) : Int) = _
    omega
  rw [e2]
  rw [cl, call_run (fn := ⟨2, 6, c4⟩) rfl rfl (by decide)]
  have hn' : call Fs 1000000 (n + 1) 2 [D.str T, D.int ((i : Int) + 1)] st = .ok (.str (dg k)) st := hn
  simp [c4, cut_next, h, hn', line, l3, d4, An.d]
/-- no answer stands here -/
def noAns (s : Tx) : Prop := ∀ c r, s = c :: r → c ∉ low ∧ c ≠ 63
theorem ans_bad {n : Nat} {T : Tx} {i : Nat} {st : Store} (h : noAns (T.drop i)) : cl (n + 2) 4 [.str T, .int (i : Int)] st = .ok .non st := by
  have hq : ¬ (T.drop i).take 1 = [63] := by
    intro z
    cases hs : T.drop i with
    | nil => rw [hs] at z; cases z
    | cons c r =>
      rw [hs] at z
      simp at z
      exact (h c r hs).2 z
  rw [cl, call_run (fn := ⟨2, 6, c4⟩) rfl rfl (by decide)]
  rcases find_any (T := T) (i := i) with e | ⟨k, e, hk⟩
  · simp [c4, cut_next, hq, line, bmD, e]
  · have hn : nameB (cut T (some (i : Int)) (some ((i + k : Nat) : Int))) = false := by
      rw [cut_nat, show i + k - i = k by omega]
      cases hs : T.drop i with
      | nil => rw [List.take_nil]; rfl
      | cons c r =>
        cases k with
        | zero => rfl
        | succ k =>
          have := (h c r hs).1
          simp [nameB, alow, this]
    have hnm := name_ok (n := n) (st := st) (s := cut T (some (i : Int)) (some ((i + k : Nat) : Int)))
    rw [hn] at hnm
    have hnm' : call Fs 1000000 (n + 1) 0 [D.str (cut T (some (i : Int)) (some ((i : Int) + (k : Int))))] st = .ok (.bl false) st := by
      rw [show (i : Int) + (k : Int) = ((i + k : Nat) : Int) by omega]; exact hnm
    have h0 : ¬ ((i : Int) + k < 0) := by omega
    simp [c4, cut_next, hq, line, bmD, e, h0, hnm']
structure NodeAt (T : Tx) (i : Nat) (w : Tx) (k : Nat) (s : Tx) : Prop where
  at_ : T.drop i = w ++ 46 :: (dg k ++ s)
  ne : w ≠ []
  le : w.length ≤ 8
  lo : alow w = true
  num : numOk k = true
  nd : noDig s
def bh (i : Nat) (w : Tx) (k : Nat) : Nat := i + w.length + 1 + (dg k).length
theorem NodeAt.drop {T w s : Tx} {i k : Nat} (h : NodeAt T i w k s) : T.drop (bh i w k) = s := by
  have h1 := drop_app (s := w) h.at_
  have h2 := (drop_cons h1).2.2
  have h3 := drop_app (s := dg k) h2
  exact h3
theorem low_no {w : Tx} (h : alow w = true) : 46 ∉ w ∧ 63 ∉ w := by
  constructor
  · intro z
    have := List.all_eq_true.mp h _ z
    revert this
    decide
  · intro z
    have := List.all_eq_true.mp h _ z
    revert this
    decide
theorem NodeAt.pre {n : Nat} {T w s : Tx} {i k : Nat} {st : Store} (h : NodeAt T i w k s) :
    ¬ (T.drop i).take 1 = [63] ∧ Txt.find3 (tx T) (tx [46]) (i : Int) = ((i + w.length : Nat) : Int) ∧ cut T (some (i : Int)) (some ((i : Int) + (w.length : Int))) = w ∧ call Fs 1000000 (n + 1) 0 [D.str w] st = .ok (.bl true) st ∧
    call Fs 1000000 (n + 1) 2 [D.str T, D.int ((i : Int) + w.length + 1)] st = .ok (.str (dg k)) st := by
  refine ⟨?_, find_at h.at_ (low_no h.lo).1, ?_, ?_, ?_⟩
  · rw [h.at_]
    intro z
    cases hw : w with
    | nil => exact h.ne hw
    | cons c r =>
      rw [hw] at z
      simp at z
      have := (low_no h.lo).2
      rw [hw, z] at this
      simp at this
  · rw [show (i : Int) + (w.length : Int) = ((i + w.length : Nat) : Int) by omega, cut_nat, h.at_, show i + w.length - i = w.length by omega, List.take_left]
  · have := name_ok (n := n) (st := st) (s := w)
    have e : nameB w = true := by
      unfold nameB okLen
      rw [h.lo]
      have h1 : 1 ≤ w.length := by
        cases hw : w with
        | nil => exact absurd hw h.ne
        | cons c r => simp
      have := h.le
      simp
      omega
    rw [e] at this
    exact this
  · have h1 := drop_app (s := w) h.at_
    have h2 := (drop_cons h1).2.2
    have := num_ok (n := n) (st := st) h.num h2 h.nd
    rw [show ((i + w.length + 1 : Nat) : Int) = (i : Int) + w.length + 1 by omega] at this
    exact this
theorem ans_leaf {n : Nat} {T w s : Tx} {i k : Nat} {st : Store} (h : NodeAt T i w k s) (hs : ¬ s.take 1 = [40]) : cl (n + 2) 4 [.str T, .int (i : Int)] st = .ok (.tup [(An.node w k []).d, .int ((bh i w k : Nat) : Int)]) st := by
  obtain ⟨q1, q2, q3, q4, q5⟩ := h.pre (n := n) (st := st)
  obtain ⟨d1, d2, d3, d4⟩ := dg_num h.num
  have l3 : (dg k).length ≤ 640 := by omega
  have h0 : ¬ ((i : Int) + w.length < 0) := by omega
  have e4 : (i : Int) + w.length + 1 + (dg k).length = ((bh i w k : Nat) : Int) := by unfold bh; omega
  have q6 : ¬ (T.drop (bh i w k)).take 1 = [40] := by
    rw [h.drop]; exact hs
  rw [cl, call_run (fn := ⟨2, 6, c4⟩) rfl rfl (by decide)]
  simp [c4, cut_next, q1, line, bmD, q2, h0, q3, q4, q5, l3, d4, e4, q6, An.d, dAll]
theorem ans_trees {n : Nat} {T w s : Tx} {i k : Nat} {st : Store} (h : NodeAt T i w k s) (hs : s.take 1 = [40]) {d : D} (ht : cl (n + 1) 3 [.str T, .int ((bh i w k : Nat) : Int)] st = .ok d st) :
    (d = .non → cl (n + 2) 4 [.str T, .int (i : Int)] st = .ok .non st) ∧ (∀ x p, d = .tup [x, p] → cl (n + 2) 4 [.str T, .int (i : Int)] st = .ok (.tup [.tup [.str w, .int k, x], p]) st) := by
  obtain ⟨q1, q2, q3, q4, q5⟩ := h.pre (n := n) (st := st)
  obtain ⟨d1, d2, d3, d4⟩ := dg_num h.num
  have l3 : (dg k).length ≤ 640 := by omega
  have h0 : ¬ ((i : Int) + w.length < 0) := by omega
  have e4 : (i : Int) + w.length + 1 + (dg k).length = ((bh i w k : Nat) : Int) := by unfold bh; omega
  have q6 : (T.drop (bh i w k)).take 1 = [40] := by
    rw [h.drop]; exact hs
  have ht' : call Fs 1000000 (n + 1) 3 [.str T, .int ((bh i w k : Nat) : Int)] st = .ok d st := ht
  refine ⟨fun e => ?_, fun x p e => ?_⟩
  · subst e
    rw [cl, call_run (fn := ⟨2, 6, c4⟩) rfl rfl (by decide)]
    simp [c4, cut_next, q1, line, bmD, q2, h0, q3, q4, q5, l3, d4, e4, q6, ht']
  · subst e
    rw [cl, call_run (fn := ⟨2, 6, c4⟩) rfl rfl (by decide)]
    simp [c4, cut_next, q1, line, bmD, q2, h0, q3, q4, q5, l3, d4, e4, q6, ht']
end Lw
namespace Lw
open PySem L2 PF
/-! trees_at -/
def c3w : E := (.and (.tcm .lt (.var 1) (.cb .len (.cons (.var 0) .nil))) (.tcm .inn (.idx (.var 0) (.var 1)) (.ite (.tcm .eq (.bor 2) (.lst .nil)) (.cst (.str [40])) (.cst (.str [44])))))
def c3b : S := (.seq (.set 3 (.call 4 (.cons (.var 0) (.cons (.bin .add (.var 1) (.cst (.int 1))) .nil)))) (.seq (.ite (.tcm .is (.var 3) (.cst .non)) (.seq (.ret (.cst .non)) .skip) .skip) (.seq (.app 2 (.idx (.var 3) (.cst (.int 0)))) (.seq (.set 1 (.idx (.var 3) (.cst (.int 1)))) .skip))))
def c3e : S := (.seq (.ite (.or (.tcm .eq (.bor 2) (.lst .nil)) (.or (.tcm .eq (.var 1) (.cb .len (.cons (.var 0) .nil))) (.tcm .ne (.idx (.var 0) (.var 1)) (.cst (.str [41]))))) (.seq (.ret (.cst .non)) .skip) .skip) (.seq (.ret (.tup (.cons (.cb .tuple (.cons (.bor 2) .nil)) (.cons (.bin .add (.var 1) (.cst (.int 1))) .nil)))) .skip))
theorem c3_eq : c3 = (.seq (.own 2 (.lst .nil)) (.seq (.whl c3w c3b) c3e)) := rfl
theorem deq_nil0 : deq (.lst []) (.lst []) = some true := by decide +kernel
theorem deq_cons0 {x : D} {xs : List D} : deq (.lst (x :: xs)) (.lst []) = some false := rfl
/-- the rest behind an answer -/
def stop (s : Tx) : Prop := noDig s ∧ ¬ s.take 1 = [40]
def tl (r : Tx) : List An → Tx
  | [] => r
  | a :: ts => 44 :: (a.t ++ tl r ts)
theorem stop_44 {s : Tx} : stop (44 :: s) := ⟨fun c r e => (by injection e with e; subst e; decide), by simp⟩
theorem stop_41 {s : Tx} : stop (41 :: s) := ⟨fun c r e => (by injection e with e; subst e; decide), by simp⟩
theorem stop_nil : stop [] := ⟨fun c r e => (by cases e), by simp⟩
theorem stop_tl {r : Tx} (h : stop r) : ∀ ts : List An, stop (tl r ts)
  | [] => h
  | a :: ts => stop_44
/-- one that is read -/
def Reads (C : Calls) (T : Tx) (a : An) : Prop := ∀ (q : Nat) (s : Tx) (st : Store), T.drop q = a.t ++ s → stop s → C 4 [.str T, .int (q : Int)] st = .ok (.tup [a.d, .int ((q + a.t.length : Nat) : Int)]) st
theorem trees_turn {C : Calls} {T s : Tx} {a : An} {p : Nat} {acc : List D} {x3 : Slot} {st : Store} (hr : Reads C T a) (h : T.drop (p + 1) = a.t ++ s) (hs : stop s) (hz : acc.length < 16777216) :
    ex C 1000000 c3b [.im (.str T), .im (.int (p : Int)), .ol acc, x3] st = .ok (.next [.im (.str T), .im (.int ((p + 1 + a.t.length : Nat) : Int)), .ol (acc ++ [a.d]), .im (.tup [a.d, .int ((p + 1 + a.t.length : Nat) : Int)])]) st := by
  have e := hr (p + 1) s st h hs
  have e' : C 4 [.str T, .int ((p : Int) + 1)] st = .ok (.tup [a.d, .int ((p + 1 + a.t.length : Nat) : Int)]) st := by
    rw [← e]; rfl
  generalize hq : ((p + 1 + a.t.length : Nat) : Int) = q at e' ⊢
  simp [c3b, e', line, hz]
theorem trees_cond {C : Calls} {T s : Tx} {c p : Nat} {acc : List D} {x3 : Slot} {st : Store} (h : T.drop p = c :: s) :
    evT C c3w [.im (.str T), .im (.int (p : Int)), .ol acc, x3] st = .ok (decide (c = if acc = [] then 40 else 44)) st := by
  obtain ⟨h1, h2, h3⟩ := drop_cons h
  have hl : (p : Int) < T.length := by omega
  cases acc with
  | nil => simp [c3w, hl, atI_nat, h2, deq_nil0, line]
  | cons x xs => simp [c3w, hl, atI_nat, h2, deq_cons0, line]
theorem trees_stop {C : Calls} {T : Tx} {p : Nat} {acc : List D} {x3 : Slot} {st : Store} (h : T.drop p = []) :
    evT C c3w [.im (.str T), .im (.int (p : Int)), .ol acc, x3] st = .ok false st := by
  have hl : ¬ (p : Int) < T.length := by
    intro z
    have := List.length_drop (l := T) (i := p)
    rw [h] at this
    simp at this
    omega
  simp [c3w, hl]
/-- the loop goes through the further ones -/
theorem trees_loop {C : Calls} {T r : Tx} {st : Store} (hr : stop r) : ∀ {ts : List An} {p m : Nat} {acc : List D} {x3 : Slot}, T.drop p = tl r ts → (∀ a ∈ ts, Reads C T a) → acc ≠ [] → acc.length + ts.length < 16777216 →
    ∃ x3', whlO (evT C c3w) (ex C 1000000 c3b) (m + ts.length) [.im (.str T), .im (.int (p : Int)), .ol acc, x3] st = whlO (evT C c3w) (ex C 1000000 c3b) m [.im (.str T), .im (.int ((p + (tl [] ts).length : Nat) : Int)), .ol (acc ++ dAll ts), x3'] st ∧ T.drop (p + (tl [] ts).length) = r
  | [], p, m, acc, x3, h, _, _, _ => ⟨x3, by simp [tl, dAll], by simpa [tl] using h⟩
  | a :: ts, p, m, acc, x3, h, hR, ha, hz => by
    have h : T.drop p = 44 :: (a.t ++ tl r ts) := h
    have h1 := (drop_cons h).2.2
    have ec := trees_cond (C := C) (acc := acc) (x3 := x3) (st := st) h
    rw [if_neg ha] at ec
    rw [List.length_cons] at hz
    have et := trees_turn (x3 := x3) (st := st) (hR a List.mem_cons_self) h1 (stop_tl hr ts) (acc := acc) (by omega)
    have h2 := drop_app (s := a.t) h1
    obtain ⟨x3', e, h3⟩ := trees_loop (C := C) (T := T) (st := st) hr (ts := ts) (p := p + 1 + a.t.length) (m := m) (acc := acc ++ [a.d]) (x3 := .im (.tup [a.d, .int ((p + 1 + a.t.length : Nat) : Int)])) h2 (fun b hb => hR b (List.mem_cons_of_mem _ hb)) (by simp) (by rw [List.length_append, List.length_singleton]; omega)
    have eq1 : p + (tl [] (a :: ts)).length = p + 1 + a.t.length + (tl [] ts).length := by simp [tl]; omega
    refine ⟨x3', ?_, by rw [eq1]; exact h3⟩
    rw [List.length_cons, show m + (ts.length + 1) = (m + ts.length) + 1 by omega, whlO, ec]
    simp only [decide_true, thn_ok, if_true, et, bind_ok]
    rw [e, eq1]
    simp [dAll]
/-- the first one, then the others -/
theorem trees_in {C : Calls} {T r : Tx} {st : Store} {a : An} {ts : List An} {p : Nat} (hr : stop r) (h : T.drop p = 40 :: (a.t ++ tl r ts)) (hR : ∀ b ∈ a :: ts, Reads C T b) (hz : ts.length < 900000) :
    ∃ x3' m, whlO (evT C c3w) (ex C 1000000 c3b) 1000000 [.im (.str T), .im (.int (p : Int)), .ol [], .un] st = whlO (evT C c3w) (ex C 1000000 c3b) (m + 1) [.im (.str T), .im (.int ((p + (tl [] (a :: ts)).length : Nat) : Int)), .ol (dAll (a :: ts)), x3'] st ∧ T.drop (p + (tl [] (a :: ts)).length) = r := by
  have h1 := (drop_cons h).2.2
  have ec := trees_cond (C := C) (acc := []) (x3 := .un) (st := st) h
  rw [if_pos rfl] at ec
  have et := trees_turn (x3 := .un) (st := st) (hR a List.mem_cons_self) h1 (stop_tl hr ts) (acc := []) (by decide)
  have h2 := drop_app (s := a.t) h1
  obtain ⟨x3', e, h3⟩ := trees_loop (C := C) (T := T) (st := st) hr (ts := ts) (p := p + 1 + a.t.length) (m := 999999 - ts.length) (acc := [a.d]) (x3 := .im (.tup [a.d, .int ((p + 1 + a.t.length : Nat) : Int)])) h2 (fun b hb => hR b (List.mem_cons_of_mem _ hb)) (by simp) (by simp; omega)
  have eq1 : p + (tl [] (a :: ts)).length = p + 1 + a.t.length + (tl [] ts).length := by simp [tl]; omega
  refine ⟨x3', 999998 - ts.length, ?_, by rw [eq1]; exact h3⟩
  rw [show (1000000 : Nat) = 999999 + 1 from rfl, whlO, ec]
  simp only [decide_true, thn_ok, if_true, et, bind_ok]
  rw [show 999999 - ts.length + ts.length = 999999 by omega] at e
  rw [List.nil_append, e, eq1, show 999999 - ts.length = 999998 - ts.length + 1 by omega]
  simp [dAll]
theorem whl_no {c : PF.Env → Store → O Bool} {f : PF.Env → Store → O Fl} {m : Nat} {ρ : PF.Env} {st : Store} (h : c ρ st = .ok false st) : whlO c f (m + 1) ρ st = .ok (.next ρ) st := by
  rw [whlO, h]; rfl
theorem whl_ret {c : PF.Env → Store → O Bool} {f : PF.Env → Store → O Fl} {m : Nat} {ρ : PF.Env} {st : Store} {d : D} (h : c ρ st = .ok true st) (h2 : f ρ st = .ok (.ret d) st) : whlO c f (m + 1) ρ st = .ok (.ret d) st := by
  rw [whlO, h]
  simp [h2]
theorem trees_ok {n : Nat} {T r : Tx} {st : Store} {a : An} {ts : List An} {p : Nat} (h : T.drop p = 40 :: (a.t ++ tl (41 :: r) ts)) (hR : ∀ b ∈ a :: ts, Reads (cl n) T b) (hz : ts.length < 900000) :
    cl (n + 1) 3 [.str T, .int (p : Int)] st = .ok (.tup [.tup (dAll (a :: ts)), .int ((p + (tl [] (a :: ts)).length + 1 : Nat) : Int)]) st := by
  obtain ⟨x3, m, e, hd⟩ := trees_in (C := call Fs 1000000 n) (st := st) stop_41 h hR hz
  have ec := trees_cond (C := call Fs 1000000 n) (acc := dAll (a :: ts)) (x3 := x3) (st := st) hd
  rw [if_neg (by simp [dAll])] at ec
  rw [whl_no ec] at e
  obtain ⟨g1, g2, g3⟩ := drop_cons hd
  have eq : ((p + (tl [] (a :: ts)).length + 1 : Nat) : Int) = ((p + (tl [] (a :: ts)).length : Nat) : Int) + 1 := by omega
  rw [eq]
  generalize hq : p + (tl [] (a :: ts)).length = q at *
  have ne : ¬ (q : Int) = T.length := by omega
  rw [cl, call_run (fn := ⟨2, 4, c3⟩) rfl rfl (by decide), c3_eq]
  have dd : dAll (a :: ts) = a.d :: dAll ts := rfl
  rw [dd] at e ⊢
  simp [ex_whl, line]
  rw [e]
  simp [c3e, deq_cons0, ne, atI_nat, g2, line]
theorem trees_end {n : Nat} {T : Tx} {st : Store} {a : An} {p : Nat} (h : T.drop p = 40 :: a.t) (hR : Reads (cl n) T a) : cl (n + 1) 3 [.str T, .int (p : Int)] st = .ok .non st := by
  obtain ⟨x3, m, e, hd⟩ := trees_in (C := call Fs 1000000 n) (st := st) (ts := []) (r := []) stop_nil (by simpa [tl] using h) (by simpa using hR) (by decide)
  rw [whl_no (trees_stop hd)] at e
  have hl := drop_len h (by simp)
  generalize hq : p + (tl [] [a]).length = q at *
  have ne : (q : Int) = T.length := by
    rw [← hq]
    simp [tl] at hl ⊢
    omega
  rw [cl, call_run (fn := ⟨2, 4, c3⟩) rfl rfl (by decide), c3_eq]
  have dd : dAll [a] = [a.d] := rfl
  rw [dd] at e
  simp [ex_whl, line]
  rw [e]
  simp [c3e, deq_cons0, ne]
theorem turn_bad {C : Calls} {T : Tx} {p : Nat} {acc : List D} {x3 : Slot} {st : Store} (h : C 4 [.str T, .int ((p : Int) + 1)] st = .ok .non st) : ex C 1000000 c3b [.im (.str T), .im (.int (p : Int)), .ol acc, x3] st = .ok (.ret .non) st := by
  simp [c3b, h]
theorem trees_bad1 {n : Nat} {T s : Tx} {st : Store} {p : Nat} (h : T.drop p = 40 :: s) (hs : noAns s) : cl (n + 3) 3 [.str T, .int (p : Int)] st = .ok .non st := by
  have h1 := (drop_cons h).2.2
  have ea := ans_bad (n := n) (T := T) (i := p + 1) (st := st) (by rw [h1]; exact hs)
  have ec := trees_cond (C := call Fs 1000000 (n + 2)) (acc := []) (x3 := .un) (st := st) h
  have e := whl_ret (m := 999999) ec (turn_bad (acc := []) (x3 := .un) ea)
  rw [cl, call_run (fn := ⟨2, 4, c3⟩) rfl rfl (by decide), c3_eq]
  simp [ex_whl, line]
  rw [show (1000000 : Nat) = 999999 + 1 from rfl, e]
  rfl
theorem trees_bad2 {n : Nat} {T s : Tx} {st : Store} {a : An} {p : Nat} (h : T.drop p = 40 :: (a.t ++ 44 :: s)) (hR : Reads (cl (n + 2)) T a) (hs : noAns s) : cl (n + 3) 3 [.str T, .int (p : Int)] st = .ok .non st := by
  obtain ⟨x3, m, e, hd⟩ := trees_in (C := call Fs 1000000 (n + 2)) (st := st) (ts := []) (r := 44 :: s) stop_44 (by simpa [tl] using h) (by simpa using hR) (by decide)
  have h1 := (drop_cons hd).2.2
  generalize hq : p + (tl [] [a]).length = q at *
  have ea := ans_bad (n := n) (T := T) (i := q + 1) (st := st) (by rw [h1]; exact hs)
  have ec := trees_cond (C := call Fs 1000000 (n + 2)) (acc := dAll [a]) (x3 := x3) (st := st) hd
  rw [if_neg (by simp [dAll])] at ec
  have e2 := whl_ret (m := m) ec (turn_bad (acc := dAll [a]) (x3 := x3) ea)
  rw [e2] at e
  rw [cl, call_run (fn := ⟨2, 4, c3⟩) rfl rfl (by decide), c3_eq]
  simp [ex_whl, line]
  rw [e]
  rfl
end Lw
namespace Lw
open PySem L2 PF
theorem join_tl {r : Tx} : ∀ {ts : List An} {a : An}, joinT [44] (tAll (a :: ts)) ++ r = a.t ++ tl r ts
  | [], a => rfl
  | b :: ts, a => by
    have ih := join_tl (r := r) (ts := ts) (a := b)
    show (a.t ++ [44] ++ joinT [44] (tAll (b :: ts))) ++ r = a.t ++ 44 :: (b.t ++ tl r ts)
    rw [← ih]
    simp
theorem node_t {w : Tx} {k : Nat} {a : An} {ts : List An} {s : Tx} : (An.node w k (a :: ts)).t ++ s = w ++ 46 :: (dg k ++ 40 :: (a.t ++ tl (41 :: s) ts)) := by
  have ht : (An.node w k (a :: ts)).t = w ++ [46] ++ dg k ++ ([40] ++ joinT [44] (tAll (a :: ts)) ++ [41]) := rfl
  rw [ht, ← join_tl]
  simp
theorem tl_len {r : Tx} : ∀ {ts : List An}, (tl r ts).length = (tl [] ts).length + r.length
  | [] => by simp [tl]
  | a :: ts => by
    have ih := tl_len (r := r) (ts := ts)
    simp [tl, ih]
    omega
theorem tl_ge : ∀ {ts : List An}, ts.length ≤ (tl [] ts).length
  | [] => by simp [tl]
  | a :: ts => by
    have ih := tl_ge (ts := ts)
    simp [tl]
    omega
theorem low_alow {w : Tx} (h : w.all (fun c => decide (97 ≤ c ∧ c ≤ 122)) = true) : alow w = true := by
  unfold alow
  rw [List.all_eq_true] at h ⊢
  intro c hc
  have := h c hc
  simp at this
  simp [low]
  omega
theorem okN {w : Tx} {k : Nat} {ts : List An} (o : (An.node w k ts).ok = true) : w ≠ [] ∧ w.length ≤ 8 ∧ alow w = true ∧ numOk k = true ∧ okAll ts = true := by
  have o : (!w.isEmpty && decide (w.length ≤ 8) && w.all (fun c => decide (97 ≤ c ∧ c ≤ 122)) && numOk k && okAll ts) = true := o
  simp only [Bool.and_eq_true] at o
  obtain ⟨⟨⟨⟨o1, o2⟩, o3⟩, o4⟩, o5⟩ := o
  exact ⟨(by intro z; rw [z] at o1; cases o1), of_decide_eq_true o2, low_alow o3, o4, o5⟩
theorem reads_ok {T : Tx} (hT : T.length < 900000) : ∀ (m : Nat) (a : An), a.ok = true → a.h ≤ m → ∀ n, 2 * m ≤ n → Reads (cl n) T a := by
  intro m
  induction m with
  | zero => intro a _ h; cases a <;> simp [An.h] at h
  | succ m ih =>
    intro a o h n hn q s st hd hs
    obtain ⟨n', rfl⟩ : ∃ n', n = n' + 2 := ⟨n - 2, by omega⟩
    cases a with
    | told k => exact ans_told o hd hs.1
    | node w k ts =>
      obtain ⟨o1, o2, o3, o4, o5⟩ := okN o
      cases ts with
      | nil =>
        have hd' : T.drop q = w ++ 46 :: (dg k ++ s) := by
          rw [hd]
          simp [An.t]
        have na : NodeAt T q w k s := ⟨hd', o1, o2, o3, o4, hs.1⟩
        have := ans_leaf (n := n') (st := st) na hs.2
        rw [this]
        have e : bh q w k = q + (An.node w k []).t.length := by
          simp [bh, An.t]; omega
        rw [e]
      | cons a ts =>
        have hd' := hd
        rw [node_t] at hd'
        have na : NodeAt T q w k (40 :: (a.t ++ tl (41 :: s) ts)) := ⟨hd', o1, o2, o3, o4, fun c r e => (by injection e with e; subst e; decide)⟩
        have hh : hAll (a :: ts) ≤ m := by
          have h : hAll (a :: ts) + 1 ≤ m + 1 := h
          omega
        have hR : ∀ b ∈ a :: ts, Reads (cl n') T b := fun b hb => ih b (mem_ok hb o5) (Nat.le_trans (mem_h hb) hh) n' (by omega)
        have hl := drop_len hd' (by simp)
        have ht := trees_ok (n := n') (st := st) na.drop hR (by
          have := tl_ge (ts := ts)
          have := tl_len (r := 41 :: s) (ts := ts)
          simp at hl
          omega)
        have := (ans_trees (n := n') (st := st) na (by simp) ht).2 _ _ rfl
        rw [this]
        have e : bh q w k + (tl [] (a :: ts)).length + 1 = q + (An.node w k (a :: ts)).t.length := by
          have h1 := congrArg List.length (node_t (w := w) (k := k) (a := a) (ts := ts) (s := []))
          have h2 := tl_len (r := [41]) (ts := ts)
          simp at h1 h2
          simp [bh, tl]
          omega
        rw [e]
        rfl
/-! nested_in -/
def nst (p : Int × Int) (c : Nat) : Int × Int :=
  let l := if c = 40 then p.2 + 1 else if c = 41 then p.2 - 1 else p.2
  (if l > p.1 then l else p.1, l)
def nest (T : Tx) : Int := (T.foldl nst (0, 0)).1
def c5b : S := (.seq (.ite (.tcm .eq (.var 3) (.cst (.str [40]))) (.seq (.aug 2 .add (.cst (.int 1))) .skip) (.seq (.ite (.tcm .eq (.var 3) (.cst (.str [41]))) (.seq (.aug 2 .sub (.cst (.int 1))) .skip) .skip) .skip)) (.seq (.ite (.tcm .gt (.var 2) (.var 1)) (.seq (.set 1 (.var 2)) .skip) .skip) .skip))
theorem nest_turn {C : Calls} {x0 x3 : Slot} {m l : Int} {c : Nat} {st : Store} : (lift (setS [x0, .im (.int m), .im (.int l), x3] 3 (.str [c])) st).bind (fun ρ st => ex C 1000000 c5b ρ st) = .ok (.next [x0, .im (.int (nst (m, l) c).1), .im (.int (nst (m, l) c).2), .im (.str [c])]) st := by
  by_cases h1 : c = 40
  · subst h1
    by_cases h2 : m < l + 1
    · simp [c5b, line, nst, h2]
    · simp [c5b, line, nst, h2]
  · by_cases h3 : c = 41
    · subst h3
      by_cases h2 : m < l - 1
      · simp [c5b, line, nst, h2]
      · simp [c5b, line, nst, h2]
    · by_cases h2 : m < l
      · simp [c5b, line, nst, h1, h2, h3]
      · simp [c5b, line, nst, h1, h2, h3]
theorem nest_loop {C : Calls} {x0 : Slot} {st : Store} : ∀ {T : Tx} {m l : Int} {x3 : Slot}, ∃ x3', forO (fun x ρ st => (lift (setS ρ 3 x) st).bind fun ρ st => ex C 1000000 c5b ρ st) (T.map fun c => .str [c]) [x0, .im (.int m), .im (.int l), x3] st = .ok (.next [x0, .im (.int (T.foldl nst (m, l)).1), .im (.int (T.foldl nst (m, l)).2), x3']) st
  | [], m, l, x3 => ⟨x3, rfl⟩
  | c :: T, m, l, x3 => by
    obtain ⟨x3', e⟩ := nest_loop (C := C) (x0 := x0) (st := st) (T := T) (m := (nst (m, l) c).1) (l := (nst (m, l) c).2) (x3 := .im (.str [c]))
    refine ⟨x3', ?_⟩
    rw [List.map_cons, forO, nest_turn]
    simp only [bind_ok]
    rw [e]
    rfl
theorem c5_eq : c5 = (.seq (.unp [1, 2] (.tup (.cons (.cst (.int 0)) (.cons (.cst (.int 0)) .nil)))) (.seq (.for_ 3 (.var 0) c5b) (.seq (.ret (.var 1)) .skip))) := rfl
theorem nest_ok {n : Nat} {T : Tx} {st : Store} : cl (n + 1) 5 [.str T] st = .ok (.int (nest T)) st := by
  obtain ⟨x3, e⟩ := nest_loop (C := call Fs 1000000 n) (x0 := .im (.str T)) (st := st) (T := T) (m := 0) (l := 0) (x3 := .un)
  rw [cl, call_run (fn := ⟨1, 4, c5⟩) rfl rfl (by decide), c5_eq]
  simp [ex_for, line]
  rw [e]
  simp [nest]
end Lw
namespace Lw
open PySem L2 PF
/-! how deep an answer's text is nested -/
mutual
def An.nd : An → Nat
  | .told _ => 0
  | .node _ _ ts => match ts with | [] => 0 | ts => ndAll ts + 1
def ndAll : List An → Nat
  | [] => 0
  | a :: r => max a.nd (ndAll r)
end
def plain (s : Tx) : Prop := ∀ c ∈ s, c ≠ 40 ∧ c ≠ 41
theorem nst_plain : ∀ {s : Tx} {m l : Int}, plain s → l ≤ m → s.foldl nst (m, l) = (m, l)
  | [], m, l, _, _ => rfl
  | c :: s, m, l, h, hl => by
    have hc := h c List.mem_cons_self
    have e : nst (m, l) c = (m, l) := by
      simp [nst, hc.1, hc.2]
      omega
    rw [List.foldl_cons, e]
    exact nst_plain (fun d hd => h d (List.mem_cons_of_mem _ hd)) hl
theorem dg_plain {k : Nat} (h : numOk k = true) : plain (dg k) := fun c hc => by
  have := dg_digs h c hc
  simp [digs] at this
  omega
theorem low_plain {w : Tx} (h : alow w = true) : plain w := fun c hc => by
  have := List.all_eq_true.mp h c hc
  simp [low] at this
  omega
theorem head_plain {w : Tx} {k : Nat} (h : alow w = true) (hk : numOk k = true) : plain (w ++ 46 :: dg k) := fun c hc => by
  rcases List.mem_append.mp hc with z | z
  · exact low_plain h c z
  · rcases List.mem_cons.mp z with rfl | z
    · decide
    · exact dg_plain hk c z
mutual
theorem nst_an : ∀ (a : An) {m l : Int}, a.ok = true → l ≤ m → a.t.foldl nst (m, l) = (max m (l + a.nd), l)
  | .told k, m, l, o, hl => by
    have o : numOk k = true := o
    have : plain ((63 : Nat) :: dg k) := fun c hc => by
      rcases List.mem_cons.mp hc with rfl | z
      · decide
      · exact dg_plain o c z
    show (63 :: dg k).foldl nst (m, l) = _
    rw [nst_plain this hl]
    simp [An.nd]
    omega
  | .node w k [], m, l, o, hl => by
    obtain ⟨o1, o2, o3, o4, o5⟩ := okN o
    have e : (An.node w k []).t = w ++ 46 :: dg k := by simp [An.t]
    rw [e, nst_plain (head_plain o3 o4) hl]
    simp [An.nd]
    omega
  | .node w k (a :: ts), m, l, o, hl => by
    obtain ⟨o1, o2, o3, o4, o5⟩ := okN o
    have e : (An.node w k (a :: ts)).t = (w ++ 46 :: dg k) ++ 40 :: (a.t ++ tl [41] ts) := by
      have := node_t (w := w) (k := k) (a := a) (ts := ts) (s := [])
      rw [List.append_nil] at this
      rw [this]
      simp
    have oa : a.ok = true := mem_ok List.mem_cons_self o5
    have ot : okAll ts = true := by
      have o5 : (a.ok && okAll ts) = true := o5
      rw [Bool.and_eq_true] at o5
      exact o5.2
    rw [e, List.foldl_append, nst_plain (head_plain o3 o4) hl, List.foldl_cons]
    have e1 : nst (m, l) 40 = (max m (l + 1), l + 1) := by
      simp [nst]
      omega
    rw [e1, List.foldl_append, nst_an a oa (by omega), nst_tl ts ot (by omega)]
    have e2 : (An.node w k (a :: ts)).nd = max a.nd (ndAll ts) + 1 := rfl
    rw [e2]
    have : ((max a.nd (ndAll ts) + 1 : Nat) : Int) = max (a.nd : Int) (ndAll ts) + 1 := by omega
    rw [this]
    congr 1
    · omega
theorem nst_tl : ∀ (ts : List An) {m l : Int}, okAll ts = true → l + 1 ≤ m → (tl [41] ts).foldl nst (m, l + 1) = (max m (l + 1 + ndAll ts), l)
  | [], m, l, _, hl => by
    show nst (m, l + 1) 41 = _
    simp [nst, ndAll]
    omega
  | a :: ts, m, l, o, hl => by
    have o : (a.ok && okAll ts) = true := o
    rw [Bool.and_eq_true] at o
    show (44 :: (a.t ++ tl [41] ts)).foldl nst (m, l + 1) = _
    have e1 : nst (m, l + 1) 44 = (m, l + 1) := by
      simp [nst]
      omega
    rw [List.foldl_cons, e1, List.foldl_append, nst_an a o.1 hl, nst_tl ts o.2 (by omega)]
    have : ((ndAll (a :: ts) : Nat) : Int) = max (a.nd : Int) (ndAll ts) := by
      show ((max a.nd (ndAll ts) : Nat) : Int) = _
      omega
    rw [this]
    congr 1
    omega
end
theorem nest_an {a : An} (o : a.ok = true) : nest a.t = a.nd := by
  unfold nest
  rw [nst_an a o (Int.le_refl 0)]
  simp
/-! read_answer -/
abbrev noText : Exn := ⟨"InvalidText", [("line", .non)]⟩
def wNone : Tx := [110, 111, 110, 101]
theorem an_ne_none {a : An} (o : a.ok = true) : a.t ≠ wNone := by
  cases a with
  | told k => intro z; injection z with z _; exact absurd z (by decide)
  | node w k ts =>
    intro z
    have : 46 ∈ (An.node w k ts).t := by
      cases ts with
      | nil => simp [An.t]
      | cons a ts =>
        have := node_t (w := w) (k := k) (a := a) (ts := ts) (s := [])
        rw [List.append_nil] at this
        rw [this]
        simp
    rw [z] at this
    revert this
    decide
theorem read_ok {n : Nat} {a : An} {st : Store} (o : a.ok = true) (hn : 2 * a.h ≤ n + 1) (hd : a.nd ≤ 60) (hl : a.t.length < 900000) : cl (n + 2) 6 [.str a.t] st = .ok a.d st := by
  have e1 := nest_ok (n := n) (T := a.t) (st := st)
  rw [nest_an o] at e1
  have e2 := reads_ok (T := a.t) hl a.h a o (Nat.le_refl _) (n + 1) hn 0 [] st (by simp) stop_nil
  have e1' : call Fs 1000000 (n + 1) 5 [.str a.t] st = .ok (.int (a.nd : Int)) st := e1
  have e2' : call Fs 1000000 (n + 1) 4 [.str a.t, .int 0] st = .ok (.tup [a.d, .int (a.t.length : Int)]) st := by
    rw [Nat.zero_add] at e2
    exact e2
  have h60 : ¬ (60 : Int) < a.nd := by omega
  have nn : ¬ a.t = [110, 111, 110, 101] := an_ne_none o
  rw [cl, call_run (fn := ⟨1, 2, c6⟩) rfl rfl (by decide)]
  simp [c6, kit_str, e1', e2', h60, nn, line]
theorem read_deep {n : Nat} {T : Tx} {st : Store} (h : 60 < nest T) : cl (n + 2) 6 [.str T] st = .exc noText st := by
  have e1 : call Fs 1000000 (n + 1) 5 [.str T] st = .ok (.int (nest T)) st := nest_ok (n := n) (T := T) (st := st)
  rw [cl, call_run (fn := ⟨1, 2, c6⟩) rfl rfl (by decide)]
  simp [c6, kit_str, e1, h, line]
theorem read_bad {n : Nat} {T : Tx} {st : Store} (hT : T ≠ wNone) (h : cl (n + 1) 4 [.str T, .int 0] st = .ok .non st ∨ ∃ x p, cl (n + 1) 4 [.str T, .int 0] st = .ok (.tup [x, .int p]) st ∧ p ≠ T.length) : cl (n + 2) 6 [.str T] st = .exc noText st := by
  by_cases hd : 60 < nest T
  · exact read_deep hd
  have e1 : call Fs 1000000 (n + 1) 5 [.str T] st = .ok (.int (nest T)) st := nest_ok (n := n) (T := T) (st := st)
  have nn : ¬ T = [110, 111, 110, 101] := hT
  rw [cl, call_run (fn := ⟨1, 2, c6⟩) rfl rfl (by decide)]
  rcases h with h | ⟨x, p, h, hp⟩
  · have h : call Fs 1000000 (n + 1) 4 [.str T, .int 0] st = .ok .non st := h
    simp [c6, kit_str, e1, hd, h, nn, line]
  · have h : call Fs 1000000 (n + 1) 4 [.str T, .int 0] st = .ok (.tup [x, .int p]) st := h
    simp [c6, kit_str, e1, hd, h, nn, hp, line]
theorem unread_yes {n : Nat} {d : D} {st : Store} (h : cl n 6 [d] st = .exc noText st) : cl (n + 1) 12 [d] st = .ok (.bl true) st := by
  have h : call Fs 1000000 n 6 [d] st = .exc noText st := h
  rw [cl, call_run (fn := ⟨1, 3, c12⟩) rfl rfl (by decide)]
  simp [c12, ex, h, evH, List.lookup, isOp]
theorem unread_no {n : Nat} {d x : D} {st : Store} (h : cl n 6 [d] st = .ok x st) : cl (n + 1) 12 [d] st = .ok (.bl false) st := by
  have h : call Fs 1000000 n 6 [d] st = .ok x st := h
  rw [cl, call_run (fn := ⟨1, 3, c12⟩) rfl rfl (by decide)]
  simp [c12, ex, h]
end Lw
namespace Lw
open PySem L2 PF
theorem ne_none {T : Tx} (h : 46 ∈ T ∨ 63 ∈ T ∨ 40 ∈ T ∨ 32 ∈ T) : T ≠ wNone := by
  intro z
  subst z
  revert h
  decide
theorem an_has {a : An} : 46 ∈ a.t ∨ 63 ∈ a.t := by
  cases a with
  | told k => exact .inr (by simp [An.t])
  | node w k ts =>
    left
    cases ts with
    | nil => simp [An.t]
    | cons a ts =>
      have := node_t (w := w) (k := k) (a := a) (ts := ts) (s := [])
      rw [List.append_nil] at this
      rw [this]
      simp
theorem bad_of {T : Tx} {st : Store} (hT : 46 ∈ T ∨ 63 ∈ T ∨ 40 ∈ T ∨ 32 ∈ T) (h : cl 147 4 [.str T, .int 0] st = .ok .non st ∨ ∃ x p, cl 147 4 [.str T, .int 0] st = .ok (.tup [x, .int p]) st ∧ p ≠ T.length) : cl 149 12 [.str T] st = .ok (.bl true) st :=
  unread_yes (n := 148) (read_bad (n := 146) (ne_none hT) h)
section
variable {a : An} {st : Store} (o : a.ok = true) (hh : a.h ≤ 70) (hl : a.t.length ≤ 5000)
include o hh hl
theorem odd_more {r : Tx} (hr : stop r) (h0 : r ≠ []) (h5 : r.length ≤ 5) : cl 149 12 [.str (a.t ++ r)] st = .ok (.bl true) st := by
  refine bad_of (by rcases an_has (a := a) with z | z <;> simp [z]) (.inr ⟨a.d, _, reads_ok (T := a.t ++ r) (by simp; omega) a.h a o (Nat.le_refl _) 147 (by omega) 0 r st (by simp) hr, ?_⟩)
  cases r with
  | nil => exact absurd rfl h0
  | cons c r => simp; omega
theorem odd_head {c : Nat} (hc : c ∉ low) (h2 : c ≠ 63) : cl 149 12 [.str (c :: a.t)] st = .ok (.bl true) st := by
  refine bad_of (by rcases an_has (a := a) with z | z <;> simp [z]) (.inl ?_)
  exact ans_bad (n := 145) (i := 0) (fun d r e => by
    rw [List.drop_zero] at e
    injection e with e _
    subst e
    exact ⟨hc, h2⟩)
theorem noAns_41 {s : Tx} : noAns (41 :: s) := fun c r e => by
  injection e with e _
  subst e
  decide
theorem noAns_32 {s : Tx} : noAns (32 :: s) := fun c r e => by
  injection e with e _
  subst e
  decide
theorem odd_unit : cl 149 12 [.str (a.t ++ [40, 41])] st = .ok (.bl true) st := by
  have hb : 46 ∈ (a.t ++ [40, 41]) ∨ 63 ∈ (a.t ++ [40, 41]) ∨ 40 ∈ (a.t ++ [40, 41]) ∨ 32 ∈ (a.t ++ [40, 41]) := by simp
  refine bad_of hb ?_
  have nd : noDig [40, 41] := fun c r e => by
    injection e with e _
    subst e
    decide
  cases a with
  | told k =>
    refine .inr ⟨_, _, ans_told (n := 145) (T := (An.told k).t ++ [40, 41]) (i := 0) (r := [40, 41]) o (by simp [An.t]) nd, ?_⟩
    simp
    omega
  | node w k ts =>
    obtain ⟨o1, o2, o3, o4, o5⟩ := okN o
    cases ts with
    | nil =>
      left
      have na : NodeAt ((An.node w k []).t ++ [40, 41]) 0 w k [40, 41] := ⟨by simp [An.t], o1, o2, o3, o4, nd⟩
      exact (ans_trees (n := 145) (st := st) na (by simp) (trees_bad1 (n := 143) na.drop (noAns_41 (a := .told 0) rfl (by simp [An.h]) (by decide +kernel)))).1 rfl
    | cons b ts =>
      right
      have hd : ((An.node w k (b :: ts)).t ++ [40, 41]).drop 0 = w ++ 46 :: (dg k ++ 40 :: (b.t ++ tl (41 :: [40, 41]) ts)) := by
        rw [List.drop_zero, node_t]
      have na : NodeAt ((An.node w k (b :: ts)).t ++ [40, 41]) 0 w k (40 :: (b.t ++ tl (41 :: [40, 41]) ts)) := ⟨hd, o1, o2, o3, o4, fun c r e => (by injection e with e; subst e; decide)⟩
      have hh' : hAll (b :: ts) + 1 ≤ 70 := hh
      have hR : ∀ c ∈ b :: ts, Reads (cl 145) ((An.node w k (b :: ts)).t ++ [40, 41]) c := fun c hc => reads_ok (by simp; omega) c.h c (mem_ok hc o5) (Nat.le_refl _) 145 (by have := mem_h hc; omega)
      have h1 := congrArg List.length (node_t (w := w) (k := k) (a := b) (ts := ts) (s := []))
      have h2 := tl_len (r := [41]) (ts := ts)
      have h3 := tl_ge (ts := ts)
      simp at h1 h2
      have ht := trees_ok (n := 145) (st := st) na.drop hR (by omega)
      refine ⟨_, _, (ans_trees (n := 145) (st := st) na (by simp) ht).2 _ _ rfl, ?_⟩
      simp [bh, tl]
      omega
theorem head_b {s : Tx} (h : noDig s) : NodeAt (98 :: 46 :: 48 :: s) 0 [98] 0 s := ⟨by simp [show dg 0 = [48] by decide +kernel], by simp, by decide, by decide, rfl, h⟩
theorem nd_40 {s : Tx} : noDig (40 :: s) := fun c r e => by
  injection e with e _
  subst e
  decide
theorem odd_open : cl 149 12 [.str (98 :: 46 :: 48 :: 40 :: a.t)] st = .ok (.bl true) st := by
  refine bad_of (by simp) (.inl ?_)
  have na := head_b o hh hl (s := 40 :: a.t) (nd_40 o hh hl)
  exact (ans_trees (n := 145) (st := st) na (by simp) (trees_end (n := 145) na.drop (reads_ok (by simp; omega) a.h a o (Nat.le_refl _) 145 (by omega)))).1 rfl
theorem odd_comma {s : Tx} (hs : noAns s) (hz : s.length ≤ 10000) : cl 149 12 [.str (98 :: 46 :: 48 :: 40 :: (a.t ++ 44 :: s))] st = .ok (.bl true) st := by
  refine bad_of (by simp) (.inl ?_)
  have na := head_b o hh hl (s := 40 :: (a.t ++ 44 :: s)) (nd_40 o hh hl)
  exact (ans_trees (n := 145) (st := st) na (by simp) (trees_bad2 (n := 143) na.drop (reads_ok (by simp; omega) a.h a o (Nat.le_refl _) 145 (by omega)) hs)).1 rfl
theorem odd_told {s : Tx} : cl 149 12 [.str (63 :: 48 :: 40 :: s)] st = .ok (.bl true) st := by
  refine bad_of (by simp) (.inr ⟨_, _, ans_told (n := 145) (k := 0) (i := 0) (r := 40 :: s) rfl (by simp [show dg 0 = [48] by decide +kernel]) (nd_40 o hh hl), ?_⟩)
  simp [An.t, show dg 0 = [48] by decide +kernel]
  omega
end
theorem odd_c1 {st : Store} : cl 149 12 [.str [98, 46, 48, 48]] st = .ok (.bl true) st := by kernel_rfl
end Lw
namespace Lw
open PySem L2 PF
section
variable {st : Store}
theorem odd_k2 : cl 149 12 [.str [98, 46]] st = .ok (.bl true) st := by kernel_rfl
theorem odd_k3 : cl 149 12 [.str [46, 48]] st = .ok (.bl true) st := by kernel_rfl
theorem odd_k4 : cl 149 12 [.str [98]] st = .ok (.bl true) st := by kernel_rfl
theorem odd_k5 : cl 149 12 [.str [66, 46, 48]] st = .ok (.bl true) st := by kernel_rfl
theorem odd_k6 : cl 149 12 [.str [98, 46, 45, 49]] st = .ok (.bl true) st := by kernel_rfl
theorem odd_k7 : cl 149 12 [.str [63]] st = .ok (.bl true) st := by kernel_rfl
theorem odd_k8 : cl 149 12 [.str [63, 120]] st = .ok (.bl true) st := by kernel_rfl
theorem odd_k9 : cl 149 12 [.str [63, 48, 49]] st = .ok (.bl true) st := by kernel_rfl
theorem odd_ka : cl 149 12 [.str [63, 63, 48]] st = .ok (.bl true) st := by kernel_rfl
theorem odd_kb : cl 149 12 [.str [98, 46, 48, 40, 110, 111, 110, 101, 41]] st = .ok (.bl true) st := by kernel_rfl
theorem odd_kc : cl 149 12 [.str []] st = .ok (.bl true) st := by kernel_rfl
theorem odd_kd : cl 149 12 [.str [78, 111, 110, 101]] st = .ok (.bl true) st := by kernel_rfl
theorem odd_ke : cl 149 12 [.str [98, 46, 48, 46, 48]] st = .ok (.bl true) st := by kernel_rfl
theorem odd_kf : cl 149 12 [.str [98, 32, 48]] st = .ok (.bl true) st := by kernel_rfl
theorem odd_kg : cl 149 12 [.str [98, 48, 46, 49]] st = .ok (.bl true) st := by kernel_rfl
theorem odd_kh : cl 149 12 [.str [98, 46, 49, 48, 48, 48]] st = .ok (.bl true) st := by kernel_rfl
theorem odd_ki : cl 149 12 [.non] st = .ok (.bl true) st := by kernel_rfl
theorem odd_kj : cl 149 12 [.int 4] st = .ok (.bl true) st := by kernel_rfl
theorem no_str {d : D} {m : String} (h : tyName d = some m) (hk : kitB m "str" = some false) : cl 149 12 [d] st = .ok (.bl true) st := by
  refine unread_yes (n := 148) ?_
  rw [cl, call_run (fn := ⟨1, 2, c6⟩) rfl rfl (by decide)]
  simp [c6, h, hk, line]
theorem odd_kk {a : An} : cl 149 12 [a.d] st = .ok (.bl true) st := by
  cases a <;> exact no_str (m := "tuple") rfl kit_str_tup
theorem odd_kl {t : Tx} : cl 149 12 [.lst [.str t]] st = .ok (.bl true) st := no_str (m := "list") rfl kit_str_lst
theorem none_w : cl 149 1 [.non] st = .ok (.str [110, 111, 110, 101]) st := by kernel_rfl
theorem none_r : cl 149 6 [.str [110, 111, 110, 101]] st = .ok .non st := by kernel_rfl
end
/-! the deep texts -/
def deepA : Nat → An
  | 0 => .node [98] 999 []
  | m + 1 => .node [98] 100 [deepA m]
theorem deep_ok : ∀ m, (deepA m).ok = true
  | 0 => by decide
  | m + 1 => by
    have := deep_ok m
    simp [deepA, An.ok, okAll, this, numOk]
theorem deep_h : ∀ m, (deepA m).h = m + 1
  | 0 => rfl
  | m + 1 => by
    have := deep_h m
    simp [deepA, An.h, hAll, this]
theorem deep_nd : ∀ m, (deepA m).nd = m
  | 0 => rfl
  | m + 1 => by
    have := deep_nd m
    simp [deepA, An.nd, ndAll, this]
theorem deep_t : ∀ m, (deepA m).t = (List.replicate m [98, 46, 49, 48, 48, 40]).flatten ++ [98, 46, 57, 57, 57] ++ (List.replicate m [41]).flatten
  | 0 => by decide +kernel
  | m + 1 => by
    have ih := deep_t m
    have e : (deepA (m + 1)).t = [98, 46, 49, 48, 48, 40] ++ (deepA m).t ++ [41] := by
      show [98] ++ [46] ++ dg 100 ++ ([40] ++ joinT [44] (tAll [deepA m]) ++ [41]) = _
      have : dg 100 = [49, 48, 48] := by decide +kernel
      rw [this]
      simp [tAll, joinT]
    rw [e, ih, List.replicate_succ, List.flatten_cons, List.replicate_succ' (n := m) (a := [41]), List.flatten_append]
    simp
theorem deep_len (m : Nat) : (deepA m).t.length = 7 * m + 5 := by
  rw [deep_t]
  simp
  omega
theorem nst_up : ∀ {k : Nat} {m l : Int}, l ≤ m → ∃ m', (List.replicate k [98, 46, 48, 40]).flatten.foldl nst (m, l) = (m', l + k) ∧ l + k ≤ m'
  | 0, m, l, h => ⟨m, by simp, by omega⟩
  | k + 1, m, l, h => by
    have e : [98, 46, 48, 40].foldl nst (m, l) = (max m (l + 1), l + 1) := by
      have e1 : [98, 46, 48].foldl nst (m, l) = (m, l) := nst_plain (fun c hc => by simp at hc; omega) h
      show nst ([98, 46, 48].foldl nst (m, l)) 40 = _
      rw [e1]
      simp [nst]
      omega
    obtain ⟨m', e2, h2⟩ := nst_up (k := k) (m := max m (l + 1)) (l := l + 1) (by omega)
    refine ⟨m', ?_, by omega⟩
    rw [List.replicate_succ, List.flatten_cons, List.foldl_append, e, e2]
    congr 1
    omega
theorem odd_many {st : Store} : cl 149 12 [.str (List.replicate 1200 [98, 46, 48, 40]).flatten] st = .ok (.bl true) st := by
  refine unread_yes (n := 148) (read_deep (n := 146) ?_)
  obtain ⟨m', e, h⟩ := nst_up (k := 1200) (m := 0) (l := 0) (by omega)
  unfold nest
  rw [e]
  show 60 < m'
  omega
theorem deep_unread {m : Nat} {st : Store} (h : m ≤ 63) : cl 149 12 [.str (deepA m).t] st = .ok (.bl (decide ((60 : Int) < m))) st := by
  by_cases hm : m ≤ 60
  · rw [decide_eq_false (by omega)]
    exact unread_no (n := 148) (read_ok (n := 146) (deep_ok m) (by rw [deep_h]; omega) (by rw [deep_nd]; exact hm) (by rw [deep_len]; omega))
  · rw [decide_eq_true (by omega)]
    exact unread_yes (n := 148) (read_deep (n := 146) (by rw [nest_an (deep_ok m), deep_nd]; omega))
/-! a drawn answer -/
theorem hAll_le {m : Nat} : ∀ {ts : List An}, (∀ a ∈ ts, a.h ≤ m) → hAll ts ≤ m
  | [], _ => Nat.zero_le _
  | a :: ts, h => by
    have h1 := h a List.mem_cons_self
    have h2 := hAll_le (ts := ts) fun b hb => h b (List.mem_cons_of_mem _ hb)
    show max a.h (hAll ts) ≤ m
    omega
theorem ndAll_le {m : Nat} : ∀ {ts : List An}, (∀ a ∈ ts, a.nd ≤ m) → ndAll ts ≤ m
  | [], _ => Nat.zero_le _
  | a :: ts, h => by
    have h1 := h a List.mem_cons_self
    have h2 := ndAll_le (ts := ts) fun b hb => h b (List.mem_cons_of_mem _ hb)
    show max a.nd (ndAll ts) ≤ m
    omega
theorem okAll_of : ∀ {ts : List An}, (∀ a ∈ ts, a.ok = true) → okAll ts = true
  | [], _ => rfl
  | a :: ts, h => by
    have h1 := h a List.mem_cons_self
    have h2 := okAll_of (ts := ts) fun b hb => h b (List.mem_cons_of_mem _ hb)
    show (a.ok && okAll ts) = true
    rw [h1, h2]
    rfl
theorem tl_le {m : Nat} : ∀ {ts : List An}, (∀ a ∈ ts, a.t.length ≤ m) → (tl [] ts).length ≤ ts.length * (m + 1)
  | [], _ => by simp [tl]
  | a :: ts, h => by
    have h1 := h a List.mem_cons_self
    have h2 := tl_le (ts := ts) fun b hb => h b (List.mem_cons_of_mem _ hb)
    simp [tl, Nat.succ_mul]
    omega
/-- what is drawn: its names and numbers, how deep, how long -/
structure Dr (d : Nat) (a : An) : Prop where
  ok : a.ok = true
  h : a.h ≤ d
  nd : a.nd ≤ d
  len : a.t.length ≤ 20 * 3 ^ d
theorem ans_list {P : An → Prop} : ∀ {ys : List D}, (∀ y ∈ ys, ∃ x : An, y = x.d ∧ P x) → ∃ ts : List An, ys = dAll ts ∧ ts.length = ys.length ∧ ∀ a ∈ ts, P a
  | [], _ => ⟨[], rfl, rfl, fun a h => by cases h⟩
  | y :: ys, h => by
    obtain ⟨x, rfl, hx⟩ := h y List.mem_cons_self
    obtain ⟨ts, rfl, hl, ht⟩ := ans_list (ys := ys) fun z hz => h z (List.mem_cons_of_mem _ hz)
    refine ⟨x :: ts, rfl, by rw [List.length_cons, List.length_cons, hl], fun b hb => ?_⟩
    rcases List.mem_cons.mp hb with rfl | hb
    · exact hx
    · exact ht b hb
theorem num_small {k : Int} (h0 : 0 ≤ k) (h1 : k < 12) : numOk k.toNat = true := by
  unfold numOk
  have : k.toNat ≤ 11 := by omega
  simp [this]
abbrev five : List D := [.str [98, 97, 115, 101], .str [98], .str [110, 111, 110, 101], .str [116, 111, 108, 100], .str [97, 98, 99, 100, 101, 102, 103, 104]]
theorem node_len2 {w : Tx} {k d : Nat} {ts : List An} (hw : w.length ≤ 8) (hk : numOk k = true) (ht : ∀ a ∈ ts, a.t.length ≤ 20 * 3 ^ d) (hl : ts.length ≤ 2) : (An.node w k ts).t.length ≤ 20 * 3 ^ (d + 1) := by
  have h3 := (dg_num hk).2.1
  have hp : 1 ≤ 3 ^ d := Nat.one_le_pow _ _ (by decide)
  rw [Nat.pow_succ]
  cases ts with
  | nil =>
    simp [An.t]
    omega
  | cons a ts =>
    have h1 := congrArg List.length (node_t (w := w) (k := k) (a := a) (ts := ts) (s := []))
    have h2 := tl_len (r := [41]) (ts := ts)
    have h4 := tl_le (ts := a :: ts) ht
    simp at h1 h2
    have h5 : (tl [] (a :: ts)).length = a.t.length + (tl [] ts).length + 1 := by simp [tl]
    have h6 : (a :: ts).length * (20 * 3 ^ d + 1) ≤ 2 * (20 * 3 ^ d + 1) := Nat.mul_le_mul_right _ hl
    omega
theorem drawn_step {d n a : Nat} {st : Store} (hp : PoolAt st a) (ih : d = 0 ∨ ∀ st, PoolAt st a → ∃ (x : An) (st' : Store), cl (n + 2) 10 [.ref a, .int (d : Int)] st = .ok x.d st' ∧ PoolAt st' a ∧ Dr d x) :
    ∃ (x : An) (st' : Store), cl (n + 3) 10 [.ref a, .int ((d : Int) + 1)] st = .ok x.d st' ∧ PoolAt st' a ∧ Dr (d + 1) x := by
  obtain ⟨k0, st0, e0, a0, b0, p0⟩ := draw_ok (n := n + 1) (m := 4) hp (by decide) (by decide)
  have e0 : call Fs 1000000 (n + 2) 8 [.ref a, .int 4] st = .ok (.int k0) st0 := e0
  have pw : 1 ≤ 3 ^ (d + 1) := Nat.one_le_pow _ _ (by decide)
  by_cases hk0 : k0 = 0
  · obtain ⟨k1, st1, e1, a1, b1, p1⟩ := draw_ok (n := n + 1) (m := 4) p0 (by decide) (by decide)
    have e1 : call Fs 1000000 (n + 2) 8 [.ref a, .int 4] st0 = .ok (.int k1) st1 := e1
    have o1 := num_small a1 (show k1 < 12 by omega)
    refine ⟨.told k1.toNat, st1, ?_, p1, o1, by simp [An.h], by simp [An.nd], ?_⟩
    · rw [cl, call_run (fn := ⟨2, 5, c10⟩) rfl rfl (by decide)]
      have : ((k1.toNat : Nat) : Int) = k1 := by omega
      simp [c10, e0, hk0, e1, line, An.d, this]
    · have := (dg_num o1).2.1
      simp [An.t]
      omega
  · obtain ⟨mn, st1, e1, m0, m2, p1, hd⟩ : ∃ (mn : Int) (st1 : Store), (if (d : Int) + 1 < 2 then O.ok (D.int 0) st0 else call Fs 1000000 (n + 2) 8 [.ref a, .int 3] st0) = .ok (.int mn) st1 ∧ 0 ≤ mn ∧ mn ≤ 2 ∧ PoolAt st1 a ∧ (d = 0 → mn = 0) := by
      by_cases h2 : (d : Int) + 1 < 2
      · exact ⟨0, st0, by simp [h2], by decide, by decide, p0, fun _ => rfl⟩
      · obtain ⟨k, st', e, q0, q1, p⟩ := draw_ok (n := n + 1) (m := 3) p0 (by decide) (by decide)
        have e : call Fs 1000000 (n + 2) 8 [.ref a, .int 3] st0 = .ok (.int k) st' := e
        exact ⟨k, st', by simp [h2, e], q0, by omega, p, fun z => by omega⟩
    obtain ⟨ys, st2, e2, p2, l2, r2⟩ := ev_lcr_inv (C := call Fs 1000000 (n + 2)) (ρ := [.im (.ref a), .im (.int ((d : Int) + 1)), .im (.int mn), .un, .un]) (j := 4) (st := st1) (st1 := st1) (as := [.int mn])
      (a := .cons (.var 2) .nil) (e := .call 10 (.cons (.var 0) (.cons (.bin .sub (.var 1) (.cst (.int 1))) .nil))) (fun st => PoolAt st a) (fun y => ∃ x : An, y = x.d ∧ Dr d x) (by simp) (rangeD_1 (by omega) (by omega)) (by
        rw [List.length_map, List.length_range]
        show _ ≤ 16777216
        omega) p1 (fun x hx st p => by
        rcases ih with h0 | ih
        · have := hd h0
          subst this
          simp at hx
        · obtain ⟨y, st', e, p', r⟩ := ih st p
          have e : call Fs 1000000 (n + 2) 10 [.ref a, .int (d : Int)] st = .ok y.d st' := e
          exact ⟨y.d, st', by simp [e], p', y, rfl, r⟩)
    obtain ⟨ts, rfl, hl, ht⟩ := ans_list r2
    have hl2 : ts.length ≤ 2 := by
      rw [hl, l2, List.length_map, List.length_range]
      omega
    obtain ⟨w0, st3, e3, m3, p3⟩ := pick_ok (n := n) (xs := five) p2 (by decide) (by decide)
    have e3 : call Fs 1000000 (n + 2) 9 [.ref a, .lst five] st2 = .ok w0 st3 := e3
    obtain ⟨k4, st4, e4, a4, b4, p4⟩ := draw_ok (n := n + 1) (m := 12) p3 (by decide) (by decide)
    have e4 : call Fs 1000000 (n + 2) 8 [.ref a, .int 12] st3 = .ok (.int k4) st4 := e4
    obtain ⟨w, rfl, hw⟩ : ∃ w : Tx, w0 = .str w ∧ (!w.isEmpty && decide (w.length ≤ 8) && w.all (fun c => decide (97 ≤ c ∧ c ≤ 122))) = true := by
      simp at m3
      rcases m3 with rfl | rfl | rfl | rfl | rfl <;> exact ⟨_, rfl, by decide⟩
    have o4 := num_small a4 b4
    have okN' : (An.node w k4.toNat ts).ok = true := by
      show (!w.isEmpty && decide (w.length ≤ 8) && w.all (fun c => decide (97 ≤ c ∧ c ≤ 122)) && numOk k4.toNat && okAll ts) = true
      rw [hw, o4, okAll_of fun b hb => (ht b hb).ok]
      rfl
    refine ⟨.node w k4.toNat ts, st4, ?_, p4, okN', ?_, ?_, ?_⟩
    · rw [cl, call_run (fn := ⟨2, 5, c10⟩) rfl rfl (by decide)]
      have : ((k4.toNat : Nat) : Int) = k4 := by omega
      simp [c10, e0, hk0, line, e1, e2, e3, e4, An.d, this]
    · show hAll ts + 1 ≤ d + 1
      have := hAll_le fun b hb => (ht b hb).h
      omega
    · have := ndAll_le fun b hb => (ht b hb).nd
      cases ts with
      | nil => simp [An.nd]
      | cons b ts =>
        show ndAll (b :: ts) + 1 ≤ d + 1
        omega
    · exact node_len2 (okN okN').2.1 o4 (fun b hb => (ht b hb).len) hl2
theorem drawn : ∀ (d n : Nat) {a : Nat} {st : Store}, PoolAt st a → d + 3 ≤ n → ∃ (x : An) (st' : Store), cl n 10 [.ref a, .int ((d : Int) + 1)] st = .ok x.d st' ∧ PoolAt st' a ∧ Dr (d + 1) x := by
  intro d
  induction d with
  | zero =>
    intro n a st h hn
    obtain ⟨n', rfl⟩ : ∃ n', n = n' + 3 := ⟨n - 3, by omega⟩
    exact drawn_step h (.inl rfl)
  | succ d ih =>
    intro n a st h hn
    obtain ⟨n', rfl⟩ : ∃ n', n = n' + 3 := ⟨n - 3, by omega⟩
    exact drawn_step h (.inr fun st p => ih (n' + 2) p (by omega))
end Lw
namespace Lw
open PySem L2 PF
theorem text_ok : ∀ (n : Nat) (a : An), a.ok = true → a.t.length ≤ 1000000 → a.h ≤ n → a.h ≤ 30 → ∀ st, cl n 11 [a.d] st = .ok (.str a.t) st := by
  intro n
  induction n with
  | zero => intro a _ _ h; cases a <;> simp [An.h] at h
  | succ n ih =>
    intro a o l h h30 st
    cases a with
    | told k => exact text_told o
    | node w k ts =>
      obtain ⟨o1, o2, o3, o4, o5⟩ := okN o
      have h : hAll ts + 1 ≤ n + 1 := h
      have h30 : hAll ts + 1 ≤ 30 := h30
      exact text_node o1 o4 o5 (by omega) l fun a ha st => ih a (mem_ok ha o5) (Nat.le_trans (node_len (mem_tAll ha)) l) (by have := mem_h ha; omega) (by have := mem_h ha; omega) st
theorem deq_dd {a : An} (o : a.ok = true) (h : a.h ≤ 30) : deq a.d a.d = some true := deq_an o h
def odds (x : An) : List D := [.str (x.t ++ [32]), .str (32 :: x.t), .str (x.t ++ [41]), .str (40 :: x.t), .str (x.t ++ [44]), .str (x.t ++ [40, 41]), .str (98 :: 46 :: 48 :: 40 :: x.t), .str (98 :: 46 :: 48 :: 40 :: (x.t ++ [44, 41])),
  .str (98 :: 46 :: 48 :: 40 :: (x.t ++ 44 :: 32 :: (x.t ++ [41]))), .str [98, 46, 48, 48], .str [98, 46], .str [46, 48], .str [98], .str [66, 46, 48], .str [98, 46, 45, 49], .str [63], .str [63, 120], .str [63, 48, 49], .str [63, 63, 48], .str [98, 46, 48, 40, 110, 111, 110, 101, 41],
  .str [], .str [78, 111, 110, 101], .str [98, 46, 48, 46, 48], .str [98, 32, 48], .str (x.t ++ [10]), .non, .int 4, x.d, .lst [.str x.t], .str (63 :: 48 :: 40 :: (x.t ++ [41])), .str [98, 48, 46, 49]]
theorem odds_ok {x : An} (o : x.ok = true) (hh : x.h ≤ 70) (hl : x.t.length ≤ 5000) : ∀ d ∈ odds x, ∀ st, cl 149 12 [d] st = .ok (.bl true) st := by
  have s32 : stop [32] := ⟨fun c r e => (by injection e with e; subst e; decide), by simp⟩
  have s10 : stop [10] := ⟨fun c r e => (by injection e with e; subst e; decide), by simp⟩
  intro d hd st
  unfold odds at hd
  simp only [List.mem_cons, List.not_mem_nil, or_false] at hd
  rcases hd with rfl | rfl | rfl | rfl | rfl | rfl | rfl | rfl | rfl | rfl | rfl | rfl | rfl | rfl | rfl | rfl | rfl | rfl | rfl | rfl | rfl | rfl | rfl | rfl | rfl | rfl | rfl | rfl | rfl | rfl | rfl
  · exact odd_more o hh hl s32 (by simp) (by simp)
  · exact odd_head o hh hl (by decide) (by decide)
  · exact odd_more o hh hl stop_41 (by simp) (by simp)
  · exact odd_head o hh hl (by decide) (by decide)
  · exact odd_more o hh hl stop_44 (by simp) (by simp)
  · exact odd_unit o hh hl
  · exact odd_open o hh hl
  · exact odd_comma o hh hl (noAns_41 o hh hl) (by simp)
  · exact odd_comma o hh hl (noAns_32 o hh hl) (by simp; omega)
  · exact odd_c1
  · exact odd_k2
  · exact odd_k3
  · exact odd_k4
  · exact odd_k5
  · exact odd_k6
  · exact odd_k7
  · exact odd_k8
  · exact odd_k9
  · exact odd_ka
  · exact odd_kb
  · exact odd_kc
  · exact odd_kd
  · exact odd_ke
  · exact odd_kf
  · exact odd_more o hh hl s10 (by simp) (by simp)
  · exact odd_ki
  · exact odd_kj
  · exact odd_kk
  · exact odd_kl
  · exact odd_told o hh hl
  · exact odd_kg
theorem filter_none {x : An} (o : x.ok = true) (hh : x.h ≤ 70) (hl : x.t.length ≤ 5000) {ρ : PF.Env} {st : Store} (h9 : 9 < ρ.length) (h5 : slotD ρ 5 = some (.lst (odds x))) :
    ev (call Fs 1000000 149) (.lc 9 (.var 5) (.not (.tst (.call 12 (.cons (.var 9) .nil)))) (.var 9)) ρ st = .ok (.lst []) st := by
  have hs : ∀ d, slotD (ρ.set 9 (.im d)) 9 = some d := fun d => by
    unfold slotD
    rw [List.getElem?_set_self h9]
  have e := ev_lc_filter (C := call Fs 1000000 149) (ρ := ρ) (st := st) (st1 := st) (j := 9) (src := .var 5) (c := .not (.tst (.call 12 (.cons (.var 9) .nil)))) (e := .var 9) (s := .lst (odds x)) (xs := odds x) (g := id) (p := fun _ => false) rfl (by simp [h5]) rfl
    (fun d hd st => by
      have h : call Fs 1000000 149 12 [d] st = .ok (.bl true) st := odds_ok o hh hl d hd st
      simp [hs, h]) (fun d hd st => by simp [hs])
  rw [e]
  simp
def b13 : S := match c13 with
  | .seq (.forr _ _ b) _ => b
  | _ => .skip
theorem c13_eq : c13 = (.seq (.forr 1 (.cons (.cb .max2 (.cons (.cst (.int 1)) (.cons (.cb .min2 (.cons (.cb .len (.cons (.var 0) .nil)) (.cons (.cst (.int 5)) .nil))) .nil))) .nil) b13) (.seq (.ret (.cmp .eq (.call 1 (.cons (.tup (.cons (.cst (.str [98])) (.cons (.cst (.int 1000)) (.cons (.tup (.cons (.tup (.cons (.cst (.str [])) (.cons (.bin .pow (.cst (.int 10)) (.cst (.int 20))) (.cons (.tup .nil) .nil)))) .nil)) .nil)))) .nil)) (.bin .add (.bin .add (.cst (.str [98, 46, 49, 48, 48, 48, 40, 63])) (.cb .str (.cons (.bin .pow (.cst (.int 10)) (.cst (.int 20))) .nil))) (.cst (.str [41]))))) .skip)) := rfl
theorem both_t {x : An} : (An.node [98] 7 [x, x]).t = 98 :: 46 :: 55 :: 40 :: (x.t ++ 44 :: (x.t ++ [41])) := by
  have := node_t (w := [98]) (k := 7) (a := x) (ts := [x]) (s := [])
  rw [List.append_nil] at this
  rw [this, show dg 7 = [55] by decide +kernel]
  simp [tl]
theorem add_s {a b : Tx} (h : a.length + b.length ≤ 16777216) : binD .add (.str a) (.str b) = some (.str (a ++ b)) := by
  rw [binD_addS]
  exact if_pos h
theorem ex_sn {C : Calls} {W : Nat} {a b : S} {ρ ρ' : PF.Env} {st st' : Store} (h : ex C W a ρ st = .ok (.next ρ') st') : ex C W (.seq a b) ρ st = ex C W b ρ' st' := by
  rw [ex_seq, h, seqK_next]
theorem deep_part {C : Calls} {rest : PF.S} {y0 y1 y2 y3 y4 y5 y7 y8 y9 : PF.Slot} {m : Nat} {dt mt at_ bt_ ab : Tx} {dd : D} {st : Store}
    (q1 : binD .mul (.str [98, 46, 49, 48, 48, 40]) (.int (m : Int)) = some (.str at_)) (q2 : binD .mul (.str [41]) (.int (m : Int)) = some (.str bt_)) (q3 : binD .add (.str at_) (.str [98, 46, 57, 57, 57]) = some (.str ab)) (q4 : binD .add (.str ab) (.str bt_) = some (.str dt))
    (q5 : binD .mul (.str [98, 46, 48, 40]) (.int 1200) = some (.str mt))
    (du : C 12 [.str dt] st = .ok (.bl (decide ((60 : Int) < m))) st) (kh : C 12 [.str [98, 46, 49, 48, 48, 48]] st = .ok (.bl true) st) (km : C 12 [.str mt] st = .ok (.bl true) st)
    (wd : C 1 [dd] st = .ok (.str dt) st) (rdp : m ≤ 60 → C 6 [.str dt] st = .ok dd st) :
    ex C 1000000 (.seq (.set 7 (.bin .add (.bin .add (.bin .mul (.cst (.str [98, 46, 49, 48, 48, 40])) (.var 6)) (.cst (.str [98, 46, 57, 57, 57]))) (.bin .mul (.cst (.str [41])) (.var 6)))) (.seq (.ite (.or (.tcm .ne (.call 12 (.cons (.var 7) .nil)) (.cmp .gt (.var 6) (.cst (.int 60)))) (.or (.not (.tst (.call 12 (.cons (.cst (.str [98, 46, 49, 48, 48, 48])) .nil)))) (.not (.tst (.call 12 (.cons (.bin .mul (.cst (.str [98, 46, 48, 40])) (.cst (.int 1200))) .nil)))))) (.seq (.ret (.cst (.bl false))) .skip) .skip) (.seq (.ite (.and (.tcm .le (.var 6) (.cst (.int 60))) (.tcm .ne (.call 1 (.cons (.call 6 (.cons (.var 7) .nil)) .nil)) (.var 7))) (.seq (.ret (.cst (.bl false))) .skip) .skip) rest)))
      [y0, y1, y2, y3, y4, y5, .im (.int m), y7, y8, y9] st = ex C 1000000 rest [y0, y1, y2, y3, y4, y5, .im (.int m), .im (.str dt), y8, y9] st := by
  refine (ex_sn (ρ' := [y0, y1, y2, y3, y4, y5, .im (.int m), .im (.str dt), y8, y9]) (st' := st) (by simp [line, q1, q2, q3, q4, -binD_mulS, -binD_addS])).trans ?_
  refine (ex_sn (ρ' := [y0, y1, y2, y3, y4, y5, .im (.int m), .im (.str dt), y8, y9]) (st' := st) (by simp [line, du, kh, km, q5, -binD_mulS])).trans ?_
  refine (ex_sn (ρ' := [y0, y1, y2, y3, y4, y5, .im (.int m), .im (.str dt), y8, y9]) (st' := st) (by
    by_cases h60 : m ≤ 60
    · have h6 : (m : Int) ≤ 60 := by omega
      have rdp := rdp h60
      simp [h6, rdp, wd]
    · have h6 : ¬ (m : Int) ≤ 60 := by omega
      simp [h6])).trans ?_
  rfl
theorem one_ok {st : Store} {ns : List Int} {k : Int} {x2 x3 x4 x5 x6 x7 x8 x9 : Slot} (h0 : 0 ≤ k) (h1 : k < 64) :
    ∃ y2 y3 y4 y5 y6 y7 y8 y9 st', ex (call Fs 1000000 149) 1000000 b13 [.im (.scr (ns.map .int)), .im (.int k), x2, x3, x4, x5, x6, x7, x8, x9] st = .ok (.next [.im (.scr (ns.map .int)), .im (.int k), y2, y3, y4, y5, y6, y7, y8, y9]) st' := by
  obtain ⟨st1, e1, p1⟩ := pool_ok (n := 148) (ns := ns) (k := k) (st := st) h0 h1
  obtain ⟨x, st2, e2, p2, dr⟩ := drawn 3 149 p1 (by decide)
  obtain ⟨o, hh, hnd, hl⟩ := dr
  have hl : x.t.length ≤ 1620 := hl
  obtain ⟨r, st3, e3, r0, r1, p3⟩ := draw_ok (n := 148) (m := 7) p2 (by decide) (by decide)
  obtain ⟨m, hm, m0, m1⟩ : ∃ m : Nat, 57 + r = (m : Int) ∧ 57 ≤ m ∧ m ≤ 63 := ⟨(57 + r).toNat, by omega, by omega, by omega⟩
  have e1 : call Fs 1000000 149 7 [.scr (ns.map .int), .int k] st = .ok (.ref st.length) st1 := e1
  have e2 : call Fs 1000000 149 10 [.ref st.length, .int 4] st1 = .ok x.d st2 := e2
  have e3 : call Fs 1000000 149 8 [.ref st.length, .int 7] st2 = .ok (.int r) st3 := e3
  have tx : ∀ st, call Fs 1000000 149 11 [x.d] st = .ok (.str x.t) st := text_ok 149 x o (by omega) (by omega) (by omega)
  have wr : ∀ st, call Fs 1000000 149 1 [x.d] st = .ok (.str x.t) st := write_ok 149 x o (by omega) (by omega)
  have rd : ∀ st, call Fs 1000000 149 6 [.str x.t] st = .ok x.d st := fun st => read_ok (n := 147) o (by omega) (by omega) (by omega)
  have dq := deq_dd o (by omega)
  have nw : ∀ st, call Fs 1000000 149 1 [.non] st = .ok (.str [110, 111, 110, 101]) st := fun st => none_w
  have nr : ∀ st, call Fs 1000000 149 6 [.str [110, 111, 110, 101]] st = .ok .non st := fun st => none_r
  have du : ∀ st, call Fs 1000000 149 12 [.str (deepA m).t] st = .ok (.bl (decide ((60 : Int) < m))) st := fun st => deep_unread m1
  have kh : ∀ st, call Fs 1000000 149 12 [.str [98, 46, 49, 48, 48, 48]] st = .ok (.bl true) st := fun st => odd_kh
  have km : ∀ st, call Fs 1000000 149 12 [.str (List.replicate 1200 [98, 46, 48, 40]).flatten] st = .ok (.bl true) st := fun st => odd_many
  have wd : ∀ st, call Fs 1000000 149 1 [(deepA m).d] st = .ok (.str (deepA m).t) st := write_ok 149 _ (deep_ok m) (by rw [deep_len]; omega) (by rw [deep_h]; omega)
  have rdp : m ≤ 60 → ∀ st, call Fs 1000000 149 6 [.str (deepA m).t] st = .ok (deepA m).d st := fun h st => read_ok (n := 147) (deep_ok m) (by rw [deep_h]; omega) (by rw [deep_nd]; omega) (by rw [deep_len]; omega)
  have ob : (An.node [98] 7 [x, x]).ok = true := by
    simp [An.ok, okAll, o, numOk]
  have hb : (An.node [98] 7 [x, x]).h ≤ 5 := by
    simp [An.h, hAll]
    omega
  have lb : (An.node [98] 7 [x, x]).t.length ≤ 4000 := by
    rw [both_t]
    simp
    omega
  have nb : (An.node [98] 7 [x, x]).nd ≤ 5 := by
    simp [An.nd, ndAll]
    omega
  have wb : ∀ st, call Fs 1000000 149 1 [(An.node [98] 7 [x, x]).d] st = .ok (.str (An.node [98] 7 [x, x]).t) st := write_ok 149 _ ob (by omega) (by omega)
  have rb : ∀ st, call Fs 1000000 149 6 [.str (An.node [98] 7 [x, x]).t] st = .ok (An.node [98] 7 [x, x]).d st := fun st => read_ok (n := 147) ob (by omega) (by omega) (by omega)
  have dqb := deq_dd ob (by omega)
  have bd : (An.node [98] 7 [x, x]).d = .tup [.str [98], .int 7, .tup [x.d, x.d]] := rfl
  rw [both_t] at wb rb
  rw [bd] at wb rb dqb
  rw [deep_t] at du wd rdp
  refine ⟨.im (.ref st.length), .im x.d, .im (.str x.t), .im (.lst (odds x)), .im (.int m), .im (.str ((List.replicate m [98, 46, 49, 48, 48, 40]).flatten ++ [98, 46, 57, 57, 57] ++ (List.replicate m [41]).flatten)), .im (.tup [.str [98], .int 7, .tup [x.d, x.d]]), x9, st3, ?_⟩
  generalize hS : D.scr (ns.map .int) = S at *
  have l1 : x.t.length ≤ 16777216 := by omega
  have l2 : x.t.length + 1 ≤ 16777216 := by omega
  have l3 : 1 + x.t.length ≤ 16777216 := by omega
  have l4 : x.t.length + 2 ≤ 16777216 := by omega
  have l5 : 4 + x.t.length ≤ 16777216 := by omega
  refine (ex_sn (ρ' := [.im S, .im (.int k), .im (.ref st.length), x3, x4, x5, x6, x7, x8, x9]) (st' := st1) (by simp [e1])).trans ?_
  refine (ex_sn (ρ' := [.im S, .im (.int k), .im (.ref st.length), .im x.d, x4, x5, x6, x7, x8, x9]) (st' := st2) (by simp [e2])).trans ?_
  refine (ex_sn (ρ' := [.im S, .im (.int k), .im (.ref st.length), .im x.d, .im (.str x.t), x5, x6, x7, x8, x9]) (st' := st2) (by simp [tx])).trans ?_
  refine (ex_sn (ρ' := [.im S, .im (.int k), .im (.ref st.length), .im x.d, .im (.str x.t), x5, x6, x7, x8, x9]) (st' := st2) (by simp [wr, rd, dq])).trans ?_
  refine (ex_sn (ρ' := [.im S, .im (.int k), .im (.ref st.length), .im x.d, .im (.str x.t), x5, x6, x7, x8, x9]) (st' := st2) (by simp [wr, rd, dq])).trans ?_
  refine (ex_sn (ρ' := [.im S, .im (.int k), .im (.ref st.length), .im x.d, .im (.str x.t), x5, x6, x7, x8, x9]) (st' := st2) (by simp [nw, nr, line])).trans ?_
  have b0 : x.t.length ≤ 16777216 := by omega
  have b1 : x.t.length ≤ 16777215 := by omega
  have b2 : x.t.length ≤ 16777214 := by omega
  have b3 : x.t.length ≤ 16777213 := by omega
  have b4 : x.t.length ≤ 16777212 := by omega
  have b5 : x.t.length ≤ 16777211 := by omega
  have b6 : x.t.length ≤ 16777210 := by omega
  have b7 : x.t.length ≤ 16777209 := by omega
  have b8 : x.t.length ≤ 16777208 := by omega
  have b9 : x.t.length ≤ 16777207 := by omega
  have b10 : x.t.length ≤ 16777206 := by omega
  have b11 : x.t.length ≤ 16777205 := by omega
  have g0 : x.t.length + 2 + 1 + 1 + 1 + 1 + x.t.length ≤ 16777216 := by omega
  have g1 : x.t.length + (x.t.length + 1 + 1) + 1 + 1 + 1 + 1 ≤ 16777215 := by omega
  have g2 : x.t.length + (x.t.length + 1 + 1) ≤ 16777211 := by omega
  have l6 : 4 + x.t.length + 2 ≤ 16777216 := by omega
  have l7 : 4 + x.t.length + 2 + x.t.length ≤ 16777216 := by omega
  have l8 : 4 + x.t.length + 2 + x.t.length + 1 ≤ 16777216 := by omega
  have l9 : 3 + x.t.length ≤ 16777216 := by omega
  have fn := filter_none o (by omega) (by omega) (ρ := [.im S, .im (.int k), .im (.ref st.length), .im x.d, .im (.str x.t), .im (.lst (odds x)), x6, x7, x8, x9]) (st := st2) (by simp) rfl
  refine (ex_sn (ρ' := [.im S, .im (.int k), .im (.ref st.length), .im x.d, .im (.str x.t), .im (.lst [.str (x.t ++ [32]), .str (32 :: x.t), .str (x.t ++ [41]), .str (40 :: x.t)]), x6, x7, x8, x9]) (st' := st2) (by simp [line, odds, l1, l2, l3, l4, l5, l6, l7, l8, l9, b0, b1, b2, b3, b4, b5, b6, b7, b8, b9, b10, b11, g0, g1, g2])).trans ?_
  refine (ex_sn (ρ' := [.im S, .im (.int k), .im (.ref st.length), .im x.d, .im (.str x.t), .im (.lst [.str (x.t ++ [32]), .str (32 :: x.t), .str (x.t ++ [41]), .str (40 :: x.t), .str (x.t ++ [44]), .str (x.t ++ [40, 41]), .str (98 :: 46 :: 48 :: 40 :: x.t), .str (98 :: 46 :: 48 :: 40 :: (x.t ++ [44, 41]))]), x6, x7, x8, x9]) (st' := st2) (by simp [line, odds, l1, l2, l3, l4, l5, l6, l7, l8, l9, b0, b1, b2, b3, b4, b5, b6, b7, b8, b9, b10, b11, g0, g1, g2])).trans ?_
  refine (ex_sn (ρ' := [.im S, .im (.int k), .im (.ref st.length), .im x.d, .im (.str x.t), .im (.lst [.str (x.t ++ [32]), .str (32 :: x.t), .str (x.t ++ [41]), .str (40 :: x.t), .str (x.t ++ [44]), .str (x.t ++ [40, 41]), .str (98 :: 46 :: 48 :: 40 :: x.t), .str (98 :: 46 :: 48 :: 40 :: (x.t ++ [44, 41])), .str (98 :: 46 :: 48 :: 40 :: (x.t ++ 44 :: 32 :: (x.t ++ [41]))), .str [98, 46, 48, 48], .str [98, 46], .str [46, 48], .str [98], .str [66, 46, 48]]), x6, x7, x8, x9]) (st' := st2) (by simp [line, odds, l1, l2, l3, l4, l5, l6, l7, l8, l9, b0, b1, b2, b3, b4, b5, b6, b7, b8, b9, b10, b11, g0, g1, g2])).trans ?_
  refine (ex_sn (ρ' := [.im S, .im (.int k), .im (.ref st.length), .im x.d, .im (.str x.t), .im (.lst [.str (x.t ++ [32]), .str (32 :: x.t), .str (x.t ++ [41]), .str (40 :: x.t), .str (x.t ++ [44]), .str (x.t ++ [40, 41]), .str (98 :: 46 :: 48 :: 40 :: x.t), .str (98 :: 46 :: 48 :: 40 :: (x.t ++ [44, 41])), .str (98 :: 46 :: 48 :: 40 :: (x.t ++ 44 :: 32 :: (x.t ++ [41]))), .str [98, 46, 48, 48], .str [98, 46], .str [46, 48], .str [98], .str [66, 46, 48], .str [98, 46, 45, 49], .str [63], .str [63, 120], .str [63, 48, 49], .str [63, 63, 48], .str [98, 46, 48, 40, 110, 111, 110, 101, 41]]), x6, x7, x8, x9]) (st' := st2) (by simp [line, odds, l1, l2, l3, l4, l5, l6, l7, l8, l9, b0, b1, b2, b3, b4, b5, b6, b7, b8, b9, b10, b11, g0, g1, g2])).trans ?_
  refine (ex_sn (ρ' := [.im S, .im (.int k), .im (.ref st.length), .im x.d, .im (.str x.t), .im (.lst [.str (x.t ++ [32]), .str (32 :: x.t), .str (x.t ++ [41]), .str (40 :: x.t), .str (x.t ++ [44]), .str (x.t ++ [40, 41]), .str (98 :: 46 :: 48 :: 40 :: x.t), .str (98 :: 46 :: 48 :: 40 :: (x.t ++ [44, 41])), .str (98 :: 46 :: 48 :: 40 :: (x.t ++ 44 :: 32 :: (x.t ++ [41]))), .str [98, 46, 48, 48], .str [98, 46], .str [46, 48], .str [98], .str [66, 46, 48], .str [98, 46, 45, 49], .str [63], .str [63, 120], .str [63, 48, 49], .str [63, 63, 48], .str [98, 46, 48, 40, 110, 111, 110, 101, 41], .str [], .str [78, 111, 110, 101], .str [98, 46, 48, 46, 48], .str [98, 32, 48], .str (x.t ++ [10]), .non, .int 4, x.d, .lst [.str x.t]]), x6, x7, x8, x9]) (st' := st2) (by simp [line, odds, l1, l2, l3, l4, l5, l6, l7, l8, l9, b0, b1, b2, b3, b4, b5, b6, b7, b8, b9, b10, b11, g0, g1, g2])).trans ?_
  refine (ex_sn (ρ' := [.im S, .im (.int k), .im (.ref st.length), .im x.d, .im (.str x.t), .im (.lst (odds x)), x6, x7, x8, x9]) (st' := st2) (by simp [line, odds, l1, l2, l3, l4, l5, l6, l7, l8, l9, b0, b1, b2, b3, b4, b5, b6, b7, b8, b9, b10, b11, g0, g1, g2])).trans ?_
  refine (ex_sn (ρ' := [.im S, .im (.int k), .im (.ref st.length), .im x.d, .im (.str x.t), .im (.lst (odds x)), x6, x7, x8, x9]) (st' := st2) (by simp [fn, deq_nil0])).trans ?_
  refine (ex_sn (ρ' := [.im S, .im (.int k), .im (.ref st.length), .im x.d, .im (.str x.t), .im (.lst (odds x)), .im (.int m), x7, x8, x9]) (st' := st3) (by simp [e3, hm])).trans ?_
  have q1 : binD .mul (.str [98, 46, 49, 48, 48, 40]) (.int (m : Int)) = some (.str (List.replicate m [98, 46, 49, 48, 48, 40]).flatten) := by
    rw [binD_mulS, if_pos ⟨by omega, by decide, by show 6 * (m : Int).toNat ≤ 16777216; omega⟩]
    rfl
  have q2 : binD .mul (.str [41]) (.int (m : Int)) = some (.str (List.replicate m [41]).flatten) := by
    rw [binD_mulS, if_pos ⟨by omega, by decide, by show 1 * (m : Int).toNat ≤ 16777216; omega⟩]
    rfl
  have q3 : binD .add (.str (List.replicate m [98, 46, 49, 48, 48, 40]).flatten) (.str [98, 46, 57, 57, 57]) = some (.str ((List.replicate m [98, 46, 49, 48, 48, 40]).flatten ++ [98, 46, 57, 57, 57])) := add_s (by simp; omega)
  have q4 : binD .add (.str ((List.replicate m [98, 46, 49, 48, 48, 40]).flatten ++ [98, 46, 57, 57, 57])) (.str (List.replicate m [41]).flatten) = some (.str ((List.replicate m [98, 46, 49, 48, 48, 40]).flatten ++ [98, 46, 57, 57, 57] ++ (List.replicate m [41]).flatten)) := add_s (by simp; omega)
  have q5 : binD .mul (.str [98, 46, 48, 40]) (.int 1200) = some (.str (List.replicate 1200 [98, 46, 48, 40]).flatten) := by
    rw [binD_mulS, if_pos ⟨by omega, by decide, by decide⟩]
    rfl
  refine (deep_part (m := m) q1 q2 q3 q4 q5 (du _) (kh _) (km _) (wd _) (fun h => rdp h _)).trans ?_
  generalize (List.replicate m [98, 46, 49, 48, 48, 40]).flatten ++ [98, 46, 57, 57, 57] ++ (List.replicate m [41]).flatten = dt
  refine (ex_sn (ρ' := [.im S, .im (.int k), .im (.ref st.length), .im x.d, .im (.str x.t), .im (.lst (odds x)), .im (.int m), .im (.str dt), .im (.tup [.str [98], .int 7, .tup [x.d, x.d]]), x9]) (st' := st3) (by simp [line])).trans ?_
  have f1 : binD .add (.str [98, 46, 55, 40]) (.str x.t) = some (.str (98 :: 46 :: 55 :: 40 :: x.t)) := add_s (by simp; omega)
  have f2 : binD .add (.str (98 :: 46 :: 55 :: 40 :: x.t)) (.str [44]) = some (.str (98 :: 46 :: 55 :: 40 :: (x.t ++ [44]))) := add_s (by simp; omega)
  have f3 : binD .add (.str (98 :: 46 :: 55 :: 40 :: (x.t ++ [44]))) (.str x.t) = some (.str (98 :: 46 :: 55 :: 40 :: (x.t ++ 44 :: x.t))) := by
    rw [add_s (by simp; omega)]; simp
  have f4 : binD .add (.str (98 :: 46 :: 55 :: 40 :: (x.t ++ 44 :: x.t))) (.str [41]) = some (.str (98 :: 46 :: 55 :: 40 :: (x.t ++ 44 :: (x.t ++ [41])))) := by
    rw [add_s (by simp; omega)]; simp
  refine (ex_sn (ρ' := [.im S, .im (.int k), .im (.ref st.length), .im x.d, .im (.str x.t), .im (.lst (odds x)), .im (.int m), .im (.str dt), .im (.tup [.str [98], .int 7, .tup [x.d, x.d]]), x9]) (st' := st3) (by simp [line, f1, f2, f3, f4, -binD_addS, rb, dqb])).trans ?_
  refine (ex_sn (ρ' := [.im S, .im (.int k), .im (.ref st.length), .im x.d, .im (.str x.t), .im (.lst (odds x)), .im (.int m), .im (.str dt), .im (.tup [.str [98], .int 7, .tup [x.d, x.d]]), x9]) (st' := st3) (by simp [line, f1, f2, f3, f4, -binD_addS, wb])).trans ?_
  rfl
end Lw
namespace Lw
open PySem L2 PF
theorem last_ok {ρ : PF.Env} {st : Store} : ex (call Fs 1000000 149) 1000000 (.seq (.ret (.cmp .eq (.call 1 (.cons (.tup (.cons (.cst (.str [98])) (.cons (.cst (.int 1000)) (.cons (.tup (.cons (.tup (.cons (.cst (.str [])) (.cons (.bin .pow (.cst (.int 10)) (.cst (.int 20))) (.cons (.tup .nil) .nil)))) .nil)) .nil)))) .nil)) (.bin .add (.bin .add (.cst (.str [98, 46, 49, 48, 48, 48, 40, 63])) (.cb .str (.cons (.bin .pow (.cst (.int 10)) (.cst (.int 20))) .nil))) (.cst (.str [41]))))) .skip) ρ st = .ok (.ret (.bl true)) st := by kernel_rfl
theorem law_ok {st : Store} {ns : List Int} : ∃ st', cl 150 13 [.scr (ns.map .int)] st = .ok (.bl true) st' := by
  rw [cl, call_run (fn := ⟨1, 10, c13⟩) rfl rfl (by decide)]
  obtain ⟨m, hm0, hm1, em⟩ : ∃ m : Int, 0 ≤ m ∧ m ≤ 5 ∧ evs (call Fs 1000000 149) (.cons (.cb .max2 (.cons (.cst (.int 1)) (.cons (.cb .min2 (.cons (.cb .len (.cons (.var 0) .nil)) (.cons (.cst (.int 5)) .nil))) .nil))) .nil) [.im (.scr (ns.map .int)), .un, .un, .un, .un, .un, .un, .un, .un, .un] st = .ok [.int m] st := by
    refine ⟨_, ?_, ?_, by simp; rfl⟩
    · split <;> omega
    · split <;> split <;> omega
  obtain ⟨ρ', st', e, x1, x2, x3, x4, x5, x6, x7, x8, x9, rfl⟩ := forO_inv (f := fun x ρ st => (lift (setS ρ 1 x) st).bind fun ρ st => ex (call Fs 1000000 149) 1000000 b13 ρ st) (fun ρ st => ∃ x1 x2 x3 x4 x5 x6 x7 x8 x9, ρ = [.im (.scr (ns.map .int)), x1, x2, x3, x4, x5, x6, x7, x8, x9])
    (xs := (List.range m.toNat).map fun (k : Nat) => .int (0 + (k : Int))) (ρ := [.im (.scr (ns.map .int)), .un, .un, .un, .un, .un, .un, .un, .un, .un]) (st := st) ⟨_, _, _, _, _, _, _, _, _, rfl⟩ (by
    rintro x hx ρ st ⟨x1, x2, x3, x4, x5, x6, x7, x8, x9, rfl⟩
    obtain ⟨k, hk, rfl⟩ := List.mem_map.mp hx
    have hk := List.mem_range.mp hk
    obtain ⟨y2, y3, y4, y5, y6, y7, y8, y9, st', e⟩ := one_ok (st := st) (ns := ns) (k := 0 + (k : Int)) (x2 := x2) (x3 := x3) (x4 := x4) (x5 := x5) (x6 := x6) (x7 := x7) (x8 := x8) (x9 := x9) (by omega) (by omega)
    refine ⟨_, st', ?_, .im (.int (0 + (k : Int))), y2, y3, y4, y5, y6, y7, y8, y9, rfl⟩
    simp only [setS_s, setS_0, Option.map_some, lift_some, bind_ok]
    exact e)
  refine ⟨st', ?_⟩
  show finK (ex _ _ c13 [.im (.scr (ns.map .int)), .un, .un, .un, .un, .un, .un, .un, .un, .un] st) = _
  rw [c13_eq, ex_seq, ex_forr, em, thn_ok, rangeD_1 (by omega) (by omega), lift_some, bind_ok, e, seqK_next, last_ok]
  rfl
theorem runs : ∀ ns : List Int, ns.length ≤ 63 → ∃ st, lawRun Ds 1000000 150 13 ns = .ok (.bl true) st := fun ns _ => law_ok
end Lw
theorem PySem.Challenge.cw_soleinstances_k81_answers_as_notes_holds : PySem.Challenge.rw_soleinstances_k81_answers_as_notes.Holds := by
  exact Lw.ends 150 ⟨rfl, by decide, by decide⟩ Lw.runs
