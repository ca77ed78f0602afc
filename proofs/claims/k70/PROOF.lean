import PyProof.Rows.All
import Wide.All
import OpenK.AllK
import Wide.FinOn
import KE.SortData
import KE.DataEq
import KE.DataIsa
import KE.DataCmp
import HandS.Lambda
import HandS.Base
import HandS.Call
import HandS.List
import HandS.Comp
import HandS.Exc
import HandS.Dict
import HandS.TupSets
import HandS.Strs
import HandS.TupAny
import HandS.TupMul
import HandS.Text
import HandS.Zip
import HandS.IsInst
import HandS.TupLe
import HandS.Words
import HandS.WordsDict
import HandS.Iter
import HandS.SetFor
import HandS.Sort
import HandS.Walk
import HandS.ExcOwn
import PyProof.ExcBaseAll.ValueError
import HandS.Defaults
import HandS.HotCalls
import HandS.ExcIs
import HandS.HeadHook1
import HandS.HeadHook2
import HandS.HeadHook3
import HandS.HeadHook4
import HandS.HeadWalk
import PySem.Challenge.RW_nearlysure_k70_whole_news_that_can_be_ex
import HandS.Head0
import HandS.Head1
import HandS.Head2
import HandS.HeadEnd
set_option Elab.async false
set_option linter.all false
set_option maxRecDepth 100000
set_option maxHeartbeats 200000
section
/-! Pd1: data, the evaluator over a small syntax, the compile step from the model's syntax. Own work, session 1. -/
namespace Pd
open PySem

/-! ### values, states, results -/
abbrev D := PyData
/-- a value: data; a list that may still change; a dict; a set; the script -/
inductive W where
  | d (x : D)
  | mut (n : Nat)
  | dct (kvs : List (D × D))
  | set (xs : List D)
  | scr (ns : List Int)
/-- the lists that may change: frozen or not, items -/
abbrev S := List (Bool × List D)
inductive R (α : Type) where
  | ok (a : α) (s : S)
  | ex (c : Str) (p : Option D) (s : S)
  | no
def M (α : Type) := S → R α
@[inline] def M.ret {α : Type} (a : α) : M α := fun s => .ok a s
@[inline] def M.andThen {α β : Type} (m : M α) (f : α → M β) : M β := fun s => match m s with
  | .ok a s' => f a s'
  | .ex c p s' => .ex c p s'
  | .no => .no
instance : Monad M where
  pure := M.ret
  bind := M.andThen
def no {α : Type} : M α := fun _ => .no
def opt {α : Type} : Option α → M α
  | some a => M.ret a
  | none => no
/-- an exception here is nothing that is told -/
def nox {α : Type} (m : M α) : M α := fun s => match m s with
  | .ok a s' => .ok a s'
  | .ex _ _ _ => .no
  | .no => .no
abbrev Rho := List (Option W)
def Rho.at_ (ρ : Rho) (i : Nat) : Option W := match ρ[i]? with
  | some (some w) => some w
  | _ => none
def big : Nat := 16777216

/-- a value as data, as it stands now -/
def look (w : W) : M D := fun s => match w with
  | .d x => .ok x s
  | .mut n => (match s[n]? with
    | some p => .ok (.list p.2) s
    | none => .no)
  | _ => .no
/-- a value as data for good -/
def toD (w : W) : M D := fun s => match w with
  | .d x => .ok x s
  | .mut n => (match s[n]? with
    | some p => .ok (.list p.2) (s.set n (true, p.2))
    | none => .no)
  | _ => .no
def toDs : List W → M (List D)
  | [] => pure []
  | w :: ws => do let x ← toD w; let xs ← toDs ws; pure (x :: xs)
/-- a new list that may change -/
def alloc (xs : List D) : M W := fun s => .ok (.mut s.length) (s ++ [(false, xs)])

/-! ### operators -/
inductive Bop where
  | add | sub | mul | fdiv | mod | pow
  deriving DecidableEq
inductive Cop where
  | eq | ne | lt | le | gt | ge | is | isNot | in_ | notIn
  deriving DecidableEq
def p64 : Int := 18446744073709551616
def binD (o : Bop) (x y : D) : Option D := match o, x, y with
  | .add, .int i, .int j => some (.int (i + j))
  | .add, .str x, .str y => if x.length + y.length ≤ big then some (.str (x ++ y)) else none
  | .add, .tuple xs, .tuple ys => if xs.length + ys.length ≤ big then some (.tuple (xs ++ ys)) else none
  | .add, .list xs, .list ys => if xs.length + ys.length ≤ big then some (.list (xs ++ ys)) else none
  | .sub, .int i, .int j => some (.int (i - j))
  | .mul, .int i, .int j => if (-p64 < i ∧ i < p64) ∨ (-p64 < j ∧ j < p64) then some (.int (i * j)) else none
  | .mul, .tuple xs, .int k => if xs ≠ [] ∧ 2 ≤ k ∧ k ≤ 1000 ∧ xs.length ≤ 1000 then some (.tuple (List.replicate k.toNat xs).flatten) else none
  | .mul, .list xs, .int k => if 0 ≤ k ∧ k ≤ 1000 ∧ xs.length ≤ 1000 then some (.list (List.replicate k.toNat xs).flatten) else none
  | .fdiv, .int i, .int j => if j ≠ 0 ∧ j.natAbs < 1073741824 then some (.int (i.fdiv j)) else none
  | .mod, .int i, .int j => if j ≠ 0 then some (.int (i.fmod j)) else none
  | .pow, .int i, .int j => if 0 ≤ j ∧ j ≤ 1000000 ∧ i.natAbs < 2 ^ 64 then some (.int (i ^ j.toNat)) else none
  | _, _, _ => none
def eqOk (x y : D) : Bool := x.plain && (y.plain && decide (min x.depth y.depth ≤ 50))
def ltOk (x y : D) : Bool := W.alike x y && ((match x with | .none => false | _ => true) && decide (min x.depth y.depth ≤ 50))
def inOk (xs : List D) (y : D) : Bool := PyData.plainAll xs && (y.plain && decide (min (PyData.depthAll xs) y.depth ≤ 50))
/-- one sign in a text -/
def inS (a b : Str) : Option Bool := match a.cps.toList with
  | [c] => some (decide (c ∈ b.cps.toList))
  | _ => none
def cmpD (o : Cop) (x y : D) : Option Bool := match o with
  | .eq => if eqOk x y then some (PyData.eqv x y) else none
  | .ne => if eqOk x y then some (!PyData.eqv x y) else none
  | .lt => (match x, y with
    | .int i, .int j => some (decide (i < j))
    | _, _ => if ltOk x y then some (PySem.W.dataLt x y) else none)
  | .gt => (match x, y with
    | .int i, .int j => some (decide (j < i))
    | _, _ => if ltOk x y then some (PySem.W.dataLt y x) else none)
  | .le => (match x, y with
    | .int i, .int j => some (decide (i ≤ j))
    | _, _ => if ltOk x y then some (!PySem.W.dataLt y x) else none)
  | .ge => (match x, y with
    | .int i, .int j => some (decide (j ≤ i))
    | _, _ => if ltOk x y then some (!PySem.W.dataLt x y) else none)
  | .is => (match x, y with
    | .bool a, .bool b => some (decide (a = b))
    | .none, .none => some true
    | _, .none => some false
    | _, _ => none)
  | .isNot => (match x, y with
    | .bool a, .bool b => some (!decide (a = b))
    | .none, .none => some false
    | _, .none => some true
    | _, _ => none)
  | .in_ => (match x, y with
    | x, .list ys => if inOk ys x then some (ys.any fun z => PyData.eqv z x) else none
    | x, .tuple ys => if inOk ys x then some (ys.any fun z => PyData.eqv z x) else none
    | .str a, .str b => inS a b
    | _, _ => none)
  | .notIn => (match x, y with
    | x, .list ys => if inOk ys x then some (!ys.any fun z => PyData.eqv z x) else none
    | x, .tuple ys => if inOk ys x then some (!ys.any fun z => PyData.eqv z x) else none
    | .str a, .str b => (inS a b).map (!·)
    | _, _ => none)
def keyOk : D → Bool
  | .int _ => true
  | .str _ => true
  | _ => false
/-- the value of a key -/
def valAt (kvs : List (D × D)) (k : D) : Option D := (kvs.find? fun p => PyData.eqv p.1 k).map (·.2)
/-- a comparison of values -/
def cmpW (o : Cop) (a b : W) : M Bool := match o, b with
  | .in_, .dct kvs => do let x ← look a; if keyOk x then pure (valAt kvs x).isSome else no
  | .notIn, .dct kvs => do let x ← look a; if keyOk x then pure (!(valAt kvs x).isSome) else no
  | _, _ => do let x ← look a; let y ← look b; opt (cmpD o x y)

/-- the place that an index means -/
def place (n : Nat) (i : Int) : Option Nat := if 0 ≤ i then (if i < n then some i.toNat else none) else if -(n : Int) ≤ i then some (i + n).toNat else none
def atD (xs : List D) (i : Int) : Option D := (place xs.length i).bind fun j => xs[j]?
def ixD (x y : D) : Option D := match x, y with
  | .list xs, .int i => atD xs i
  | .tuple xs, .int i => atD xs i
  | _, _ => none
def ixW (a i : W) : M D := match a with
  | .dct kvs => do let y ← look i; if keyOk y then opt (valAt kvs y) else no
  | _ => do let x ← look a; let y ← look i; opt (ixD x y)
/-- a slice's bound as a place -/
def sPl (n d : Nat) : Option Int → Nat
  | none => d
  | some v => if v < 0 then (v + (n : Int)).toNat else min v.toNat n
def cutD (xs : List D) (lo hi : Option Int) : List D := (xs.drop (sPl xs.length 0 lo)).take (sPl xs.length xs.length hi - sPl xs.length 0 lo)
def slD (x : D) (lo hi : Option Int) : Option D := match x with
  | .list xs => some (.list (cutD xs lo hi))
  | .tuple xs => some (.tuple (cutD xs lo hi))
  | _ => none

/-! ### built-ins -/
inductive Bi where
  | len | all | any | sum | sorted | set | tuple | list | dict | abs | int | str | max | min
  deriving DecidableEq
inductive Ty where
  | int | bool | str | list | tuple
  deriving DecidableEq
def isTy (t : Ty) (x : D) : Bool := match t with
  | .int => x.isInt
  | .bool => x.isBool
  | .str => x.isStr
  | .list => x.isList
  | .tuple => x.isTuple
def bOf : List D → Option (List Bool)
  | [] => some []
  | .bool b :: r => (bOf r).map (b :: ·)
  | _ :: _ => none
def iOf : List D → Option (List Int)
  | [] => some []
  | .int i :: r => (iOf r).map (i :: ·)
  | _ :: _ => none
/-- rows of numbers -/
def rOf : List D → Option (List (List Int))
  | [] => some []
  | .tuple xs :: r => (iOf xs).bind fun is => (rOf r).map (is :: ·)
  | _ :: _ => none
/-- each once, the first of equal ones -/
def onceD : List D → List D → List D
  | _, [] => []
  | seen, x :: r => if seen.any fun y => PyData.eqv y x then onceD seen r else x :: onceD (x :: seen) r
def insD (x : D) : List D → List D
  | [] => [x]
  | y :: r => if PySem.W.dataLt y x then y :: insD x r else x :: y :: r
def sortD : List D → List D
  | [] => []
  | x :: r => insD x (sortD r)
/-- can be sorted: alike, and tuples with an item or none of them a tuple or None -/
def sortable (xs : List D) : Bool := decide (xs.length ≤ 1) || ((xs.all fun x => xs.all fun y => PySem.W.alike x y) && (((xs.all fun x => match x with | .tuple (_ :: _) => true | _ => false) || (xs.all fun x => match x with | .none => false | .tuple _ => false | _ => true)) && (xs.all fun x => decide (x.depth ≤ 50))))
/-- pairs (key, value), the key a number or a text -/
def pairsD : List D → Option (List (D × D))
  | [] => some []
  | .tuple [k, v] :: r => if keyOk k then (pairsD r).map ((k, v) :: ·) else none
  | _ :: _ => none
def putD (kvs : List (D × D)) (k v : D) : List (D × D) := match kvs with
  | [] => [(k, v)]
  | p :: r => if PyData.eqv p.1 k then (p.1, v) :: r else p :: putD r k v
def mergeD (kvs : List (D × D)) : List (D × D) → List (D × D)
  | [] => kvs
  | p :: r => mergeD (putD kvs p.1 p.2) r
def biD (b : Bi) (xs : List D) : Option W := match b, xs with
  | .len, [.list ys] => some (.d (.int ys.length))
  | .len, [.tuple ys] => some (.d (.int ys.length))
  | .len, [.str x] => if x.length ≤ big then some (.d (.int x.length)) else none
  | .all, [.list ys] => (bOf ys).map fun bs => .d (.bool (bs.all id))
  | .any, [.list ys] => (bOf ys).map fun bs => .d (.bool (bs.any id))
  | .sum, [.list ys] => (iOf ys).map fun is => .d (.int is.sum)
  | .sorted, [.list ys] => if sortable ys then some (.d (.list (sortD ys))) else none
  | .sorted, [.tuple ys] => if sortable ys then some (.d (.list (sortD ys))) else none
  | .set, [.list ys] => if ((iOf ys).isSome && decide (ys.length ≤ 2000)) || ((rOf ys).isSome && decide (ys.length < 64)) then some (.set (onceD [] ys)) else none
  | .set, [.tuple ys] => if ((iOf ys).isSome && decide (ys.length ≤ 2000)) || ((rOf ys).isSome && decide (ys.length < 64)) then some (.set (onceD [] ys)) else none
  | .tuple, [.list ys] => some (.d (.tuple ys))
  | .tuple, [.tuple ys] => some (.d (.tuple ys))
  | .list, [.list ys] => some (.d (.list ys))
  | .list, [.tuple ys] => some (.d (.list ys))
  | .dict, [.list ys] => (pairsD ys).map fun ps => .dct (mergeD [] ps)
  | .abs, [.int i] => some (.d (.int (if i < 0 then -i else i)))
  | .int, [.int i] => some (.d (.int i))
  | .int, [.bool k] => some (.d (.int (if k then 1 else 0)))
  | .str, [.int i] => if i.natAbs.log2 < 1920 then some (.d (.str (toString i))) else none
  | .max, [.int i, .int j] => some (.d (.int (if j > i then j else i)))
  | .min, [.int i, .int j] => some (.d (.int (if j < i then j else i)))
  | _, _ => none
def lookAll : List W → M (List D)
  | [] => pure []
  | w :: ws => do let x ← look w; let xs ← lookAll ws; pure (x :: xs)
def biW (b : Bi) (ws : List W) : M W := match b, ws with
  | .sorted, [.set xs] => if sortable xs then pure (.d (.list (sortD xs))) else no
  | .len, [.set xs] => pure (.d (.int xs.length))
  | .len, [.dct kvs] => pure (.d (.int kvs.length))
  | .list, [.scr ns] => pure (.d (.list (ns.map .int)))
  | _, _ => do let xs ← lookAll ws; opt (biD b xs)

/-! ### the syntax -/
mutual
inductive E where
  | var (i : Nat)
  | cst (x : D)
  | tup (es : Es)
  | lst (es : Es)
  | mlst (es : Es)
  | bin (o : Bop) (a b : E)
  | mcat (a b : E)
  | mlist (a : E)
  | neg (a : E)
  | not (a : E)
  | and (a b : E)
  | or (a b : E)
  | cmp (o : Cop) (a b : E)
  | chain (o p : Cop) (a b c : E)
  | ite (t a b : E)
  | ix (a i : E)
  | sl (a : E) (lo hi : Oe)
  | call (f : Nat) (es : Es)
  | att (f : Nat) (e : E)
  | bi (b : Bi) (es : Es)
  | isi (a : E) (t : Ty)
  | getd (o k x : E)
  | dsp1 (k v : E)
  | lc (g : G) (it : I) (ifs : Es) (elt : E) (own : List Nat)
  | lc2 (g : G) (it : I) (ifs : Es) (g1 : G) (it1 : I) (ifs1 : Es) (elt : E) (own own1 : List Nat)
inductive Es where
  | nil
  | cons (e : E) (es : Es)
inductive Oe where
  | none
  | some (e : E)
inductive I where
  | of (e : E)
  | range1 (a : E)
  | range2 (a b : E)
  | enum (a : E)
  | zip (a b : E)
inductive G where
  | nm (i : Nat)
  | tup (gs : Gs)
inductive Gs where
  | nil
  | cons (g : G) (gs : Gs)
end
mutual
inductive St where
  | set (g : G) (e : E)
  | par (is : List Nat) (es : Es)
  | put (x : Nat) (i e : E)
  | put2 (x y : Nat) (i j e : E)
  | bad
  | app (x : Nat) (e : E)
  | ex (e : E)
  | ret (e : E)
  | retN
  | ite (t : E) (a b : Sts)
  | for (g : G) (it : I) (b : Sts)
  | while (t : E) (b : Sts)
  | raise (c : Str)
  | pass
inductive Sts where
  | nil
  | cons (s : St) (ss : Sts)
end

/-! ### the evaluator -/
mutual
def bindG : G → D → Rho → Option Rho
  | .nm i, x, ρ => some (ρ.set i (some (.d x)))
  | .tup gs, x, ρ => match x with
    | .tuple xs => bindGs gs xs ρ
    | _ => none
def bindGs : Gs → List D → Rho → Option Rho
  | .nil, xs, ρ => match xs with
    | [] => some ρ
    | _ :: _ => none
  | .cons g gs, xs, ρ => match xs with
    | [] => none
    | x :: r => (bindG g x ρ).bind fun ρ' => bindGs gs r ρ'
end
def wipeR (ρ : Rho) : List Nat → Rho
  | [] => ρ
  | v :: vs => (wipeR ρ vs).set v none
/-- a comprehension's turns -/
def lcI (step : D → M (Option D)) : List D → M (List D)
  | [] => pure []
  | x :: xs => do
    let y ← step x
    let ys ← lcI step xs
    pure (match y with
      | some y => y :: ys
      | none => ys)
/-- .. with a second clause -/
def lcII (step : D → M (List D)) : List D → M (List D)
  | [] => pure []
  | x :: xs => do
    let y ← step x
    let ys ← lcII step xs
    pure (y ++ ys)
def isB (w : W) : M Bool := match w with
  | .d (.bool b) => pure b
  | _ => no
def isI (w : W) : M Int := match w with
  | .d (.int b) => pure b
  | _ => no
def small (xs : List D) : M (List D) := if xs.length ≤ big then pure xs else no
def seqD (x : D) : M (List D) := match x with
  | .list xs => pure xs
  | .tuple xs => pure xs
  | _ => no
def upTo (lo : Int) (n : Nat) : List D := (List.range n).map fun i => .int (lo + (i : Nat))
def enumD (xs : List D) : List D := (List.range xs.length).zip xs |>.map fun p => .tuple [.int (p.1 : Nat), p.2]
def zipD (xs ys : List D) : List D := (xs.zip ys).map fun p => .tuple [p.1, p.2]
def zipsD (x y : D) : M (List D) := match x, y with
  | .list xs, .list ys => pure (zipD xs ys)
  | .tuple xs, .tuple ys => pure (zipD xs ys)
  | _, _ => no
/-- the defs: called with values; called with a lambda without parameters -/
structure Ft where
  fn : Nat → List W → M W
  att : Nat → M W → M W
section
variable (ft : Ft)
mutual
def evE : E → Rho → M W
  | .var i, ρ => opt (ρ.at_ i)
  | .cst x, _ => pure (.d x)
  | .tup es, ρ => do let ws ← evEs es ρ; let xs ← toDs ws; let xs ← small xs; pure (.d (.tuple xs))
  | .lst es, ρ => do let ws ← evEs es ρ; let xs ← toDs ws; let xs ← small xs; pure (.d (.list xs))
  | .mlst es, ρ => do let ws ← evEs es ρ; let xs ← toDs ws; let xs ← small xs; alloc xs
  | .bin o a b, ρ => do let v ← evE a ρ; let w ← evE b ρ; let x ← look v; let y ← look w; let z ← opt (binD o x y); pure (.d z)
  | .mcat a b, ρ => do
    let v ← evE a ρ; let w ← evE b ρ; let x ← look v; let y ← look w
    match x, y with
    | .list xs, .list ys => do let zs ← small (xs ++ ys); alloc zs
    | _, _ => no
  | .mlist a, ρ => do let v ← evE a ρ; let x ← look v; let xs ← seqD x; let zs ← small xs; alloc zs
  | .neg a, ρ => do let v ← evE a ρ; let i ← isI v; pure (.d (.int (-i)))
  | .not a, ρ => do let v ← evE a ρ; let b ← isB v; pure (.d (.bool (!b)))
  | .and a b, ρ => do let v ← evE a ρ; let c ← isB v; if c then evE b ρ else pure (.d (.bool false))
  | .or a b, ρ => do let v ← evE a ρ; let c ← isB v; if c then pure (.d (.bool true)) else evE b ρ
  | .cmp o a b, ρ => do let v ← evE a ρ; let w ← evE b ρ; let k ← cmpW o v w; pure (.d (.bool k))
  | .chain o p a b c, ρ => do
    let v ← evE a ρ; let w ← evE b ρ; let k ← cmpW o v w
    if k then do let u ← evE c ρ; let k' ← cmpW p w u; pure (.d (.bool k')) else pure (.d (.bool false))
  | .ite t a b, ρ => do let v ← evE t ρ; let c ← isB v; if c then evE a ρ else evE b ρ
  | .ix a i, ρ => do let v ← evE a ρ; let w ← evE i ρ; let z ← ixW v w; pure (.d z)
  | .sl a lo hi, ρ => do let v ← evE a ρ; let l ← evO lo ρ; let h ← evO hi ρ; let x ← look v; let z ← opt (slD x l h); pure (.d z)
  | .call f es, ρ => do let ws ← evEs es ρ; ft.fn f ws
  | .att f e, ρ => ft.att f (evE e ρ)
  | .bi b es, ρ => do let ws ← evEs es ρ; biW b ws
  | .isi a t, ρ => do let v ← evE a ρ; let x ← look v; pure (.d (.bool (isTy t x)))
  | .getd o k x, ρ => do
    let v ← evE o ρ
    match v with
    | .dct kvs => do
      let w ← evE k ρ; let u ← evE x ρ; let y ← look w; let z ← toD u
      if keyOk y then pure (.d ((valAt kvs y).getD z)) else no
    | _ => no
  | .dsp1 k v, ρ => do
    let w ← evE k ρ; let u ← evE v ρ; let y ← look w; let z ← toD u
    if keyOk y then pure (.dct [(y, z)]) else no
  | .lc g it ifs elt own, ρ => do
    let xs ← evI it ρ
    let ys ← nox (lcI (fun x => do
      let ρ1 ← opt (bindG g x (wipeR ρ own))
      let c ← evIfs ifs ρ1
      if c then do let w ← evE elt ρ1; let y ← toD w; pure (some y) else pure none) xs)
    let ys ← small ys
    pure (.d (.list ys))
  | .lc2 g it ifs g1 it1 ifs1 elt own own1, ρ => do
    let xs ← evI it ρ
    let ys ← nox (lcII (fun x => do
      let ρ1 ← opt (bindG g x (wipeR ρ own))
      let c ← evIfs ifs ρ1
      if c then do
        let xs1 ← evI it1 ρ1
        lcI (fun x1 => do
          let ρ2 ← opt (bindG g1 x1 (wipeR ρ1 own1))
          let c1 ← evIfs ifs1 ρ2
          if c1 then do let w ← evE elt ρ2; let y ← toD w; pure (some y) else pure none) xs1
      else pure []) xs)
    let ys ← small ys
    pure (.d (.list ys))
def evEs : Es → Rho → M (List W)
  | .nil, _ => pure []
  | .cons e es, ρ => do let w ← evE e ρ; let ws ← evEs es ρ; pure (w :: ws)
def evO : Oe → Rho → M (Option Int)
  | .none, _ => pure none
  | .some e, ρ => do let v ← evE e ρ; let i ← isI v; pure (some i)
/-- a clause's tests -/
def evIfs : Es → Rho → M Bool
  | .nil, _ => pure true
  | .cons e es, ρ => do let v ← evE e ρ; let c ← isB v; match es with | .nil => pure c | .cons _ _ => no
/-- what is walked -/
def evI : I → Rho → M (List D)
  | .of e, ρ => do
    let v ← evE e ρ
    let x ← toD v
    let xs ← seqD x
    small xs
  | .range1 a, ρ => do let v ← evE a ρ; let n ← isI v; if -(big : Int) ≤ n ∧ n ≤ big then pure (upTo 0 n.toNat) else no
  | .range2 a b, ρ => do let v ← evE a ρ; let w ← evE b ρ; let m ← isI v; let n ← isI w; if -(big : Int) ≤ m ∧ m ≤ big ∧ -(big : Int) ≤ n ∧ n ≤ big then pure (upTo m (n - m).toNat) else no
  | .enum a, ρ => do
    let v ← evE a ρ
    let x ← toD v
    match x with
    | .list xs => small (enumD xs)
    | _ => no
  | .zip a b, ρ => do
    let v ← evE a ρ; let w ← evE b ρ
    let x ← toD v; let y ← toD w
    let xs ← zipsD x y
    small xs
end
/-- where a statement leads -/
inductive Ct where
  | nx (ρ : Rho)
  | rt (w : W)
def forI (g : G) (b : Rho → M Ct) : List D → Rho → M Ct
  | [], ρ => pure (.nx ρ)
  | x :: xs, ρ => do
    let ρ1 ← opt (bindG g x ρ)
    let c ← b ρ1
    match c with
    | .nx ρ2 => forI g b xs ρ2
    | .rt w => pure (.rt w)
def whileI (t : Rho → M Bool) (b : Rho → M Ct) : Nat → Rho → M Ct
  | 0, _ => no
  | n + 1, ρ => do
    let k ← t ρ
    if k then do
      let c ← b ρ
      match c with
      | .nx ρ2 => whileI t b n ρ2
      | .rt w => pure (.rt w)
    else pure (.nx ρ)
def setAll : List Nat → List W → Rho → Option Rho
  | [], [], ρ => some ρ
  | i :: is, w :: ws, ρ => setAll is ws (ρ.set i (some w))
  | _, _, _ => none
/-- a value bound to a target: to a name as it is -/
def bindW (g : G) (w : W) (ρ : Rho) : M Rho := match g with
  | .nm i => pure (ρ.set i (some w))
  | .tup gs => do let x ← toD w; opt (bindG (.tup gs) x ρ)
def appendTo (w : W) (y : D) : M Unit := fun s => match w with
  | .mut n => (match s[n]? with
    | some (false, xs) => if xs.length < big then .ok () (s.set n (false, xs ++ [y])) else .no
    | _ => .no)
  | _ => .no
def putAt (w : W) (i : Int) (y : D) : M Unit := fun s => match w with
  | .mut n => (match s[n]? with
    | some (false, xs) => (match place xs.length i with
      | some j => .ok () (s.set n (false, xs.set j y))
      | none => .no)
    | _ => .no)
  | _ => .no
mutual
def evS : St → Rho → M Ct
  | .set g e, ρ => do let w ← evE ft e ρ; let ρ' ← bindW g w ρ; pure (.nx ρ')
  | .par is es, ρ => do let ws ← evEs ft es ρ; let ρ' ← opt (setAll is ws ρ); pure (.nx ρ')
  | .put x i e, ρ => do
    let w ← evE ft e ρ; let y ← toD w; let o ← opt (ρ.at_ x); let v ← evE ft i ρ; let j ← isI v
    putAt o j y
    pure (.nx ρ)
  | .put2 x y i j e, ρ => do
    let w ← evE ft e ρ; let t ← toD w
    match t with
    | .tuple [a, b] => do
      let o ← opt (ρ.at_ x); let v ← evE ft i ρ; let k ← isI v
      putAt o k a
      let o' ← opt (ρ.at_ y); let v' ← evE ft j ρ; let k' ← isI v'
      putAt o' k' b
      pure (.nx ρ)
    | _ => no
  | .bad, _ => no
  | .app x e, ρ => do
    let o ← opt (ρ.at_ x)
    match o with
    | .mut n => do
      let w ← evE ft e ρ; let y ← toD w
      appendTo (.mut n) y
      pure (.nx ρ)
    | _ => no
  | .ex e, ρ => do let _ ← evE ft e ρ; pure (.nx ρ)
  | .ret e, ρ => do let w ← evE ft e ρ; pure (.rt w)
  | .retN, _ => pure (.rt (.d .none))
  | .ite t a b, ρ => do let v ← evE ft t ρ; let c ← isB v; if c then evSs a ρ else evSs b ρ
  | .for g it b, ρ => do let xs ← evI ft it ρ; forI g (fun ρ => evSs b ρ) xs ρ
  | .while t b, ρ => whileI (fun ρ => do let v ← evE ft t ρ; isB v) (fun ρ => evSs b ρ) 1000 ρ
  | .raise c, _ => fun s => .ex c none s
  | .pass, ρ => pure (.nx ρ)
def evSs : Sts → Rho → M Ct
  | .nil, ρ => pure (.nx ρ)
  | .cons s ss, ρ => do
    let c ← evS s ρ
    match c with
    | .nx ρ' => evSs ss ρ'
    | .rt w => pure (.rt w)
end
end
/-- a def: how many parameters, how many names in all, whether it hands back a list that may change, its body -/
structure Fn where
  ps : Nat
  n : Nat
  mutRet : Bool
  body : Sts
def start0 (f : Fn) (ws : List W) : Rho := ws.map some ++ List.replicate (f.n - ws.length) none
/-- what leaves a def: data; the lists that it made are left behind -/
def leave (f : Fn) (k : Nat) (w : W) : M W := if f.mutRet then pure w else match w with
  | .mut n => do let x ← toD (.mut n); fun s => .ok (.d x) (s.take k)
  | w => fun s => .ok w (s.take k)
def runFn (ft : Ft) (f : Fn) (ws : List W) : M W := fun s =>
  if ws.length = f.ps ∧ f.ps ≤ f.n then
    (do
      let c ← evSs ft f.body (start0 f ws)
      match c with
      | .nx _ => leave f s.length (.d .none)
      | .rt w => leave f s.length w) s
  else .no
def fnT (fs : List (Option Fn)) (at_ : Nat → M W → M W) : Nat → Nat → List W → M W
  | 0, _, _ => no
  | n + 1, j, ws => match fs[j]? with
    | some (some f) => runFn ⟨fnT fs at_ n, at_⟩ f ws
    | _ => no
end Pd
end

set_option maxHeartbeats 200000
section
/-! Pd2: from the model's syntax to the evaluator's. Own work, session 1. -/
namespace Pd
open PySem
/-- what the compile step is told: the names by slot, the defs, the constants of the module, the exception classes, the names whose lists may change, the defs that take a lambda -/
structure Cc where
  N : List Str
  fns : List Str
  consts : List (Str × D)
  excs : List Str
  muts : List Str
  attf : List Str
def Cc.noatt (c : Cc) : Cc := { c with attf := [] }
/-- a lambda without parameters -/
def noArgs : Arguments → Bool
  | ⟨[], [], none, [], [], none, []⟩ => true
  | _ => false
def bopOf : Operator → Option Bop
  | .Add => some .add
  | .Sub => some .sub
  | .Mult => some .mul
  | .FloorDiv => some .fdiv
  | .Mod => some .mod
  | .Pow => some .pow
  | _ => none
def copOf : CmpOp → Cop
  | .Eq => .eq
  | .NotEq => .ne
  | .Lt => .lt
  | .LtE => .le
  | .Gt => .gt
  | .GtE => .ge
  | .Is => .is
  | .IsNot => .isNot
  | .In => .in_
  | .NotIn => .notIn
def biOf (x : Str) : Option Bi :=
  if x = "len" then some .len else if x = "all" then some .all else if x = "any" then some .any else if x = "sum" then some .sum else if x = "sorted" then some .sorted
  else if x = "set" then some .set else if x = "tuple" then some .tuple else if x = "list" then some .list else if x = "dict" then some .dict else if x = "abs" then some .abs
  else if x = "int" then some .int else if x = "str" then some .str else if x = "max" then some .max else if x = "min" then some .min else none
def tyOf (x : Str) : Option Ty :=
  if x = "int" then some .int else if x = "bool" then some .bool else if x = "str" then some .str else if x = "list" then some .list else if x = "tuple" then some .tuple else none
def isVis : Option NameKind → Bool
  | some .local => true
  | some .cell => true
  | some .free => true
  | _ => false
def isLoc : Option NameKind → Bool
  | some .local => true
  | some .cell => true
  | _ => false
def isGlo (k : Option NameKind) : Bool := match k with
  | some .globalImplicit => true
  | _ => false
/-- the place of a name -/
def idx (N : List Str) (x : Str) : Option Nat := match N with
  | [] => none
  | y :: r => if y = x then some 0 else (idx r x).map (· + 1)
/-- a name of its own in the scope, that can be stored -/
def slotOf (c : Cc) (sc : Scope) (x : Str) : Option Nat := if isLoc (sc.names.lookup x) && (!decide (x = "__debug__") && !decide (x = "__classdict__")) then idx c.N x else none
/-- a name that is built in -/
def isBlt (c : Cc) (sc : Scope) (x : Str) : Bool := isGlo (sc.names.lookup x) && ((idx c.fns x).isNone && (c.consts.lookup x).isNone) && !decide (x = "__debug__") && !decide (x = "__name__")
def plainArg : Expr → Bool
  | .Starred _ _ => false
  | _ => true
def cL (f : Expr → Option E) : List Expr → Option Es
  | [] => some .nil
  | e :: r => if plainArg e then (f e).bind fun x => (cL f r).map (.cons x) else none
/-- an expression whose test is told part by part or by its value -/
def tOk : Nat → Expr → Bool
  | 0, _ => false
  | n + 1, ex => match ex with
    | .UnaryOp .Not a _ => tOk n a
    | .BoolOp _ vs _ => vs.all (tOk n)
    | .IfExp _ _ _ _ => false
    | .NamedExpr _ _ _ => false
    | _ => true
def cGs (f : Expr → Option G) : List Expr → Option Gs
  | [] => some .nil
  | e :: r => if plainArg e then (f e).bind fun g => (cGs f r).map (.cons g) else none
def gOf (c : Cc) (sc : Scope) : Nat → Expr → Option G
  | 0, _ => none
  | n + 1, tg => match tg with
    | .Name x _ => (slotOf c sc x).map .nm
    | .Tuple es _ _ => (cGs (gOf c sc n) es).map .tup
    | _ => none
mutual
/-- the names that a target stores -/
def gNames : G → List Nat
  | .nm i => [i]
  | .tup gs => gsNames gs
def gsNames : Gs → List Nat
  | .nil => []
  | .cons g gs => gNames g ++ gsNames gs
end
def isTup : Expr → Bool
  | .Tuple _ _ _ => true
  | _ => false
/-- a block's own names, with their places -/
def ownOf (N : List Str) (csc : Scope) : List (Str × Nat) := csc.names.filterMap fun y => if isLoc (some y.2) then (idx N y.1).map fun i => (y.1, i) else none
/-- and, or: folded to the right -/
def cAnd (f : Expr → Option E) : List Expr → Option E
  | [] => none
  | [e] => f e
  | e :: r => (f e).bind fun x => (cAnd f r).map (.and x)
def cOr (f : Expr → Option E) : List Expr → Option E
  | [] => none
  | [e] => f e
  | e :: r => (f e).bind fun x => (cOr f r).map (.or x)
def cO (f : Expr → Option E) : Option Expr → Option Oe
  | none => some .none
  | some e => (f e).map .some
/-- a clause's tests: none or one -/
def cIfs (f : Expr → Option E) : List Expr → Option Es
  | [] => some .nil
  | [e] => if tOk 8 e then (f e).map fun x => .cons x .nil else none
  | _ => none
def isName (x : Str) : Expr → Bool
  | .Name y _ => decide (y = x)
  | _ => false
/-- what get is asked of: no bare call -/
def getBase : Expr → Bool
  | .Call (.Name _ _) [] [] _ => false
  | _ => true
theorem getBase_ok {o : Expr} {m : Str} {env : Env} {w : Sem Value} (h : getBase o = true) : attributeBase o m env w = w := by
  unfold attributeBase
  split
  · cases h
  · rfl
/-- what is walked by a call of range, enumerate, zip -/
def cItC (c : Cc) (sc : Scope) (f : Expr → Option E) (tg : Expr) (x : Str) (es : List Expr) : Option I :=
  if isBlt c sc x then
    (match es with
    | [a] => if x = "range" then (if plainArg a then (f a).map .range1 else none) else if x = "enumerate" then (if plainArg a && isTup tg then (f a).map .enum else none) else none
    | [a, b] => if x = "range" then (if plainArg a && plainArg b then (f a).bind fun u => (f b).map (.range2 u) else none) else if x = "zip" then (if plainArg a && (plainArg b && isTup tg) then (f a).bind fun u => (f b).map (.zip u) else none) else none
    | _ => none)
  else none
def walker (c : Cc) (sc : Scope) : Expr → Bool
  | .Call (.Name x _) _ _ _ => isBlt c sc x && (decide (x = "range") || (decide (x = "enumerate") || decide (x = "zip")))
  | .Set _ _ _ => true
  | _ => false
def cIt (c : Cc) (sc : Scope) (f : Expr → Option E) (tg it : Expr) : Option I :=
  if walker c sc it then (match it with
    | .Call (.Name x _) es [] _ => cItC c sc f tg x es
    | _ => none)
  else (f it).map .of
/-- an expression -/
def cE (c : Cc) : Nat → Scope → Expr → Option E
  | 0, _, _ => none
  | n + 1, sc, ex => match ex with
    | .Name x _ => if isVis (sc.names.lookup x) && (!decide (x = "__debug__") && !decide (x = "__classdict__")) then (idx c.N x).map .var
      else if isGlo (sc.names.lookup x) && !decide (x = "__debug__") then (c.consts.lookup x).map .cst else none
    | .Constant k _ _ => (match k with
      | .none => some (.cst .none)
      | .bool b => some (.cst (.bool b))
      | .int i => some (.cst (.int i))
      | .str x => some (.cst (.str x))
      | _ => none)
    | .Tuple es _ _ => (cL (cE c n sc) es).map .tup
    | .List es _ => (cL (cE c n sc) es).map .lst
    | .BinOp a o b _ => (bopOf o).bind fun o => (cE c n sc a).bind fun x => (cE c n sc b).map (.bin o x)
    | .UnaryOp o a _ => (match o with
      | .Not => (cE c n sc a).map .not
      | .USub => (cE c n sc a).map .neg
      | _ => none)
    | .BoolOp o vs _ => (match o with
      | .And => cAnd (cE c n sc) vs
      | .Or => cOr (cE c n sc) vs)
    | .IfExp t a b _ => if tOk 8 t then (cE c n sc t).bind fun x => (cE c n sc a).bind fun y => (cE c n sc b).map (.ite x y) else none
    | .Compare a ops bs _ => (match ops, bs with
      | [o], [b] => if behindInMarks o b then none else (cE c n sc a).bind fun x => (cE c n sc b).map (.cmp (copOf o) x)
      | [o, p], [b, d] => if lastMarks [o, p] [b, d] then none else (cE c n sc a).bind fun x => (cE c n sc b).bind fun y => (cE c n sc d).map (.chain (copOf o) (copOf p) x y)
      | _, _ => none)
    | .Subscript a i _ => (match i with
      | .Slice lo hi st _ => (match st with
        | none => (cE c n sc a).bind fun x => (cO (cE c n sc) lo).bind fun l => (cO (cE c n sc) hi).map (.sl x l)
        | some _ => none)
      | i => (cE c n sc a).bind fun x => (cE c n sc i).map (.ix x))
    | .Call f es kws pos => (match kws with
      | [] => (match f with
        | .Name x _ =>
          if isGlo (sc.names.lookup x) && !decide (x = "__debug__") then
            (match idx c.fns x with
            | some j => (match es with
              | [.Lambda as_ body lsc _] => if noArgs as_ && LamX.lamSB sc lsc then (idx c.attf x).bind fun k => (cE c.noatt n lsc body).map (.att k) else none
              | es => if (idx c.attf x).isSome then none else (cL (cE c n sc) es).map (.call j))
            | none => if isBlt c sc x then
                (match es with
                | [] => none
                | [a, t] => if x = "isinstance" then (match t with
                    | .Name y _ => if isBlt c sc y && plainArg a then (tyOf y).bind fun ty => (cE c n sc a).map fun u => .isi u ty else none
                    | _ => none)
                  else (biOf x).bind fun b => (cL (cE c n sc) [a, t]).map (.bi b)
                | es => (biOf x).bind fun b => (cL (cE c n sc) es).map (.bi b))
              else none)
          else none
        | .Attribute o m ap => (match es with
          | [k, d] => if m = "get" then (if ((getBase o && plainArg k) && plainArg d) && (ap.endLine == pos.line) then (cE c n sc o).bind fun x => (cE c n sc k).bind fun y => (cE c n sc d).map (.getd x y) else none) else none
          | _ => none)
        | _ => none)
      | _ :: _ => none)
    | .Dict ks vs _ => (match ks, vs with
      | [some k], [v] => (cE c n sc k).bind fun x => (cE c n sc v).map (.dsp1 x)
      | _, _ => none)
    | .ListComp elt gens csc _ => (match gens with
      | [⟨tg, it, ifs, as_⟩] => if as_ = 0 ∧ L2.blkC c.N sc csc (ownOf c.N csc) = true then
          (cIt c sc (cE c n sc) tg it).bind fun i => (gOf c csc 6 tg).bind fun g => (cIfs (cE c n (L2.relS csc sc)) ifs).bind fun t => (cE c n (L2.relS csc sc) elt).bind fun e =>
            if (gNames g).all fun j => ((ownOf c.N csc).map (·.2)).contains j then some (.lc g i t e ((ownOf c.N csc).map (·.2))) else none
        else none
      | [⟨tg, it, ifs, as_⟩, ⟨tg1, it1, ifs1, as1⟩] => if as_ = 0 ∧ as1 = 0 ∧ L2.blkC c.N sc csc (ownOf c.N csc) = true then
          (cIt c sc (cE c n sc) tg it).bind fun i => (gOf c csc 6 tg).bind fun g => (cIfs (cE c n (L2.relS csc sc)) ifs).bind fun t =>
          (cIt c (L2.relS csc sc) (cE c n (L2.relS csc sc)) tg1 it1).bind fun i1 => (gOf c csc 6 tg1).bind fun g1 => (cIfs (cE c n (L2.relS csc sc)) ifs1).bind fun t1 =>
          (cE c n (L2.relS csc sc) elt).bind fun e =>
            if ((gNames g).all fun j => ((ownOf c.N csc).map (·.2)).contains j) && (gNames g1).all fun j => ((ownOf c.N csc).map (·.2)).contains j then some (.lc2 g i t g1 i1 t1 e ((ownOf c.N csc).map (·.2)) (gNames g1)) else none
        else none
      | _ => none)
    | _ => none
def swapped (sc : Scope) (ts vs : List Expr) : Option (List Str) :=
  if !(ts.length == 2 || ts.length == 3) || vs.length != ts.length then none else
  let line := (ts.head?.map (·.pos.line)).getD 0
  let names := ts.filterMap fun
    | .Name id pos => if sc.names.lookup id == some .local && pos.line == line then some id else none
    | _ => none
  if names.length != ts.length || names.eraseDups.length != names.length then none else
  if vs.all (foldedForSure 8) then none else some names
def slots (c : Cc) : List Str → Option (List Nat)
  | [] => some []
  | x :: r => (idx c.N x).bind fun i => (slots c r).map (i :: ·)
def inMuts (c : Cc) : Expr → Bool
  | .Name x _ => c.muts.contains x
  | _ => false
def notSl : Expr → Bool
  | .Slice _ _ _ _ => false
  | _ => true
/-- a value for a name whose list may change -/
def cMut (c : Cc) (sc : Scope) (n : Nat) : Expr → Option E
  | .List es _ => (cL (cE c n sc) es).map .mlst
  | .BinOp a .Add b _ => (cE c n sc a).bind fun x => (cE c n sc b).map (.mcat x)
  | .Call (.Name x p) [a] [] q => if x = "list" ∧ isBlt c sc x = true ∧ plainArg a = true then (cE c n sc a).map .mlist else cE c n sc (.Call (.Name x p) [a] [] q)
  | e => cE c n sc e
def cValue (c : Cc) (sc : Scope) (n : Nat) (tg v : Expr) : Option E := if inMuts c tg then cMut c sc n v else cE c n sc v
def cValues (c : Cc) (sc : Scope) (n : Nat) : List Expr → List Expr → Option Es
  | [], [] => some .nil
  | t :: ts, v :: vs => if plainArg v then (cValue c sc n t v).bind fun x => (cValues c sc n ts vs).map (.cons x) else none
  | _, _ => none
mutual
def cS (c : Cc) (sc : Scope) : Nat → Stmt → Option St
  | 0, _ => none
  | n + 1, st => match st with
    | .Return v _ => (match v with
      | some e => (cE c n sc e).map .ret
      | none => some .retN)
    | .Assign ts v _ => (match ts with
      | [tg] => (match tg with
        | .Name x p => (slotOf c sc x).bind fun i => (cValue c sc n (.Name x p) v).map (.set (.nm i))
        | .Tuple es k p => (match v with
          | .Tuple vs _ _ => (match swapped sc es vs with
            | some names => (match es, vs with
              | [t1, t2], [v1, v2] => if [v1, v2].all (constantsAlone 8) then none else (slots c names).bind fun is => (cValues c sc n [t1, t2] [v1, v2]).map (.par is)
              | _, _ => none)
            | none => (match es with
              | [.Subscript (.Name x _) i _, .Subscript (.Name y _) j _] => if notSl i && notSl j then (slotOf c sc x).bind fun x' => (slotOf c sc y).bind fun y' => (cE c n sc i).bind fun i' => (cE c n sc j).bind fun j' => (cE c n sc v).map (.put2 x' y' i' j') else none
              | es => (gOf c sc 6 (.Tuple es k p)).bind fun g => (cE c n sc v).map (.set g)))
          | v => (gOf c sc 6 (.Tuple es k p)).bind fun g => (cE c n sc v).map (.set g))
        | .Subscript (.Name x _) i _ => (match i with
          | .Slice _ _ _ _ => none
          | i => (slotOf c sc x).bind fun j => (cE c n sc i).bind fun u => (cE c n sc v).map (.put j u))
        | _ => none)
      | _ => none)
    | .Expr v _ => (match v with
      | .Call (.Attribute (.Name x _) m ap) [a] [] pos => if m = "append" ∧ plainArg a = true ∧ (ap.endLine == pos.line) = true then (slotOf c sc x).bind fun j => (cE c n sc a).map (.app j) else none
      | .ListComp _ _ _ _ => none
      | .SetComp _ _ _ _ => none
      | .DictComp _ _ _ _ _ => none
      | v => (cE c n sc v).map .ex)
    | .If t a b _ => if tOk 8 t then (cE c n sc t).bind fun x => (cSs c sc n a).bind fun y => (cSs c sc n b).map (.ite x y) else none
    | .For tg it b oe _ => (match oe with
      | [] => (cIt c sc (cE c n sc) tg it).bind fun i => (gOf c sc 6 tg).bind fun g => (cSs c sc n b).map (.for g i)
      | _ :: _ => none)
    | .While t b oe _ => (match oe with
      | [] => if tOk 8 t then (cE c n sc t).bind fun x => (cSs c sc n b).map (.while x) else none
      | _ :: _ => none)
    | .Raise e ca _ => (match ca, e with
      | none, some (.Call (.Name x _) [.Constant (.str _) _ _] [] _) => if isGlo (sc.names.lookup x) && (!decide (x = "__debug__") && c.excs.contains x) then some (.raise x) else some .bad
      | _, _ => some .bad)
    | .Pass _ => some .pass
    | _ => none
def cSs (c : Cc) (sc : Scope) : Nat → List Stmt → Option Sts
  | 0, _ => none
  | n + 1, ss => match ss with
    | [] => some .nil
    | s :: r => (cS c sc n s).bind fun x => (cSs c sc n r).map (.cons x)
end
/-- a def's body: a def that hands back a list that may change ends by a display -/
def cBody (c : Cc) (sc : Scope) (mutRet : Bool) (n : Nat) (b : List Stmt) : Option Sts := if mutRet then (match b with
    | [s, .Return (some (.List es _)) _] => (cS c sc n s).bind fun x => (cL (cE c n sc) es).map fun es => .cons x (.cons (.ret (.mlst es)) .nil)
    | _ => none)
  else cSs c sc n b
end Pd
end

set_option maxHeartbeats 200000
section
/-! Pd3: values against the heap, ghosts, what a run leaves. Own work, session 1. -/
namespace Pd
open PySem PySem.Spec PyProof.Rows L2

abbrev Kf := PySem.W.Frag
def Sub (F H : Hp) : Prop := ∀ b o, F b = some o → H b = some o
theorem Sub.refl {F : Hp} : Sub F F := fun _ _ h => h
theorem Sub.trans {F G H : Hp} (a : Sub F G) (b : Sub G H) : Sub F H := fun x o h => b x o (a x o h)
theorem Sub.rd {F H : Hp} (e : Sub F H) {a : Addr} {u : HO} (h : Rd F a u) : Rd H a u := by
  rcases h with h | ⟨o, h⟩
  · exact .inl (e _ _ h)
  · exact .inr ⟨o, e _ _ h⟩
theorem Sub.sqL {K : Kf} {F H : Hp} (e : Sub F H) {a : Addr} {xs : List V} (h : SqL K F a xs) : SqL K H a xs := h.elim (fun h => .inl (e.rd h)) .inr
theorem Sub.sqT {K : Kf} {F H : Hp} (e : Sub F H) {a : Addr} {xs : List V} (h : SqT K F a xs) : SqT K H a xs := h.elim (fun h => .inl (e.rd h)) .inr
mutual
inductive DV (K : Kf) (F : Hp) : V → D → Prop
  | non : DV K F .non .none
  | bl (b : Bool) : DV K F (.bl b) (.bool b)
  | int (i : Int) : DV K F (.int i) (.int i)
  | str (x : Str) : DV K F (.str x) (.str x)
  | lst {a : Addr} {xs : List V} {ds : List D} : F a = some (.lst xs) → DVs K F xs ds → DV K F (.ref a) (.list ds)
  | tup {a : Addr} {xs : List V} {ds : List D} : SqT K F a xs → DVs K F xs ds → DV K F (.ref a) (.tuple ds)
inductive DVs (K : Kf) (F : Hp) : List V → List D → Prop
  | nil : DVs K F [] []
  | cons {v : V} {vs : List V} {d : D} {ds : List D} : DV K F v d → DVs K F vs ds → DVs K F (v :: vs) (d :: ds)
end
mutual
theorem DV.dp {K : Kf} {F : Hp} : ∀ {x : D} {v : V}, DV K F v x → Dp K F v x
  | .none, _, h => by cases h; exact .non
  | .bool _, _, h => by cases h; exact .bl _
  | .int _, _, h => by cases h; exact .int _
  | .str _, _, h => by cases h; exact .str _
  | .list xs, _, h => by cases h with | lst a b => exact .lst (SqL.of a) (DVs.dps b)
  | .tuple xs, _, h => by cases h with | tup a b => exact .tup a (DVs.dps b)
  | .dict _, _, h => by cases h
theorem DVs.dps {K : Kf} {F : Hp} : ∀ {xs : List D} {vs : List V}, DVs K F vs xs → DpAll K F vs xs
  | [], _, h => by cases h; exact .nil
  | _ :: _, _, h => by cases h with | cons a b => exact .cons (DV.dp a) (DVs.dps b)
end
mutual
theorem Sub.dv {K : Kf} {F H : Hp} (e : Sub F H) : ∀ {x : D} {v : V}, DV K F v x → DV K H v x
  | .none, _, h => by cases h; exact .non
  | .bool _, _, h => by cases h; exact .bl _
  | .int _, _, h => by cases h; exact .int _
  | .str _, _, h => by cases h; exact .str _
  | .list xs, _, h => by cases h with | lst a b => exact .lst (e _ _ a) (e.dvs b)
  | .tuple xs, _, h => by cases h with | tup a b => exact .tup (e.sqT a) (e.dvs b)
  | .dict _, _, h => by cases h
theorem Sub.dvs {K : Kf} {F H : Hp} (e : Sub F H) : ∀ {xs : List D} {vs : List V}, DVs K F vs xs → DVs K H vs xs
  | [], _, h => by cases h; exact .nil
  | _ :: _, _, h => by cases h with | cons a b => exact .cons (e.dv a) (e.dvs b)
end
theorem DVs.length {K : Kf} {F : Hp} : ∀ {vs : List V} {xs : List D}, DVs K F vs xs → vs.length = xs.length
  | _, _, .nil => rfl
  | _, _, .cons _ b => by rw [List.length_cons, List.length_cons, DVs.length b]
theorem DVs.get {K : Kf} {F : Hp} : ∀ {vs : List V} {xs : List D} {i : Nat} {x : D}, DVs K F vs xs → xs[i]? = some x → ∃ v, vs[i]? = some v ∧ DV K F v x
  | _, _, _, _, .nil, h => by simp at h
  | _, _, 0, _, .cons a _, h => by simp at h; subst h; exact ⟨_, rfl, a⟩
  | _, _, i + 1, _, .cons _ b, h => by obtain ⟨v, h1, h2⟩ := DVs.get (i := i) b (by simpa using h); exact ⟨v, by simpa using h1, h2⟩
theorem DVs.getV {K : Kf} {F : Hp} : ∀ {vs : List V} {xs : List D} {i : Nat} {v : V}, DVs K F vs xs → vs[i]? = some v → ∃ x, xs[i]? = some x ∧ DV K F v x
  | _, _, _, _, .nil, h => by simp at h
  | _, _, 0, _, .cons a _, h => by simp at h; subst h; exact ⟨_, rfl, a⟩
  | _, _, i + 1, _, .cons _ b, h => by obtain ⟨v, h1, h2⟩ := DVs.getV (i := i) b (by simpa using h); exact ⟨v, by simpa using h1, h2⟩
theorem DVs.append {K : Kf} {F : Hp} : ∀ {vs ws : List V} {xs ys : List D}, DVs K F vs xs → DVs K F ws ys → DVs K F (vs ++ ws) (xs ++ ys)
  | _, _, _, _, .nil, h => h
  | _, _, _, _, .cons a b, h => .cons a (DVs.append b h)
theorem DVs.set {K : Kf} {F : Hp} {v : V} {x : D} (h : DV K F v x) : ∀ {vs : List V} {xs : List D} (i : Nat), DVs K F vs xs → DVs K F (vs.set i v) (xs.set i x)
  | _, _, _, .nil => .nil
  | _, _, 0, .cons a b => .cons h b
  | _, _, i + 1, .cons a b => .cons a (DVs.set h i b)
theorem DVs.take {K : Kf} {F : Hp} : ∀ {vs : List V} {xs : List D} (n : Nat), DVs K F vs xs → DVs K F (vs.take n) (xs.take n)
  | _, _, 0, _ => .nil
  | _, _, _ + 1, .nil => .nil
  | _, _, n + 1, .cons a b => .cons a (DVs.take n b)
theorem DVs.drop {K : Kf} {F : Hp} : ∀ {vs : List V} {xs : List D} (n : Nat), DVs K F vs xs → DVs K F (vs.drop n) (xs.drop n)
  | _, _, 0, h => h
  | _, _, _ + 1, .nil => .nil
  | _, _, n + 1, .cons a b => DVs.drop n b

/-! ### ghosts: what is frozen, the lists that may change, the heap -/
/-- what stays fixed: the fragment, the program, the world, the module's names -/
structure Bk where
  K : Kf
  P : Program
  w : World
  mg : Str → Option Value
  T : List (Addr × Str)
structure Gh where
  F : Hp
  M : List Addr
  H : Hp
inductive WV (B : Bk) (g : Gh) : V → W → Prop
  | d {v : V} {x : D} : DV B.K g.F v x → WV B g v (.d x)
  | mu {a : Addr} {n : Nat} : g.M[n]? = some a → WV B g (.ref a) (.mut n)
  | dct {a : Addr} {kvs : List (D × D)} (ks : List (Key × V)) : g.F a = some (.dK ks) → Paired (fun (p : Key × V) (q : D × D) => DV B.K g.F (kV p.1) q.1 ∧ DV B.K g.F p.2 q.2) ks kvs → WV B g (.ref a) (.dct kvs)
  | seti {a : Addr} {ns : List Int} {xs : List D} {f : Int → Bool} {n : Nat} : g.F a = some (SetO B.w a f n) → ns.Nodup → (∀ k, f k = true ↔ k ∈ ns) → xs.Perm (ns.map .int) → WV B g (.ref a) (.set xs)
  | sett {a : Addr} {L : List (Addr × List Int)} {xs : List D} : g.F a = some (SetTO B.P B.w a L) → (∀ p ∈ L, SqT B.K g.F p.1 (p.2.map V.int)) → (L.map (·.2)).Nodup → xs.Perm (L.map fun p => .tuple (p.2.map .int)) → WV B g (.ref a) (.set xs)
  | scr {a : Addr} {ns : List Int} : SqL B.K g.F a (ns.map .int) → WV B g (.ref a) (.scr ns)
/-- nothing known, or a table -/
def Vac (H : Hp) (b : Addr) : Prop := ∀ o, H b = some o → ∃ ps, o = .tbl ps
theorem vac_none {H : Hp} {b : Addr} (h : H b = none) : Vac H b := fun o e => by rw [h] at e; cases e
structure Ext (g g' : Gh) : Prop where
  sub : Sub g.F g'.F
  pre : ∃ l, g'.M = g.M ++ l
  keep : ∀ b o, g.H b = some o → b ∉ g.M → (∀ ps, o ≠ .tbl ps) → g'.H b = some o
  fresh : ∀ b, b ∈ g'.M → b ∈ g.M ∨ Vac g.H b
  newF : ∀ b o, g'.F b = some o → g.F b = some o ∨ Vac g.H b ∨ b ∈ g.M
theorem Ext.refl {g : Gh} : Ext g g := ⟨.refl, ⟨[], by simp⟩, fun _ _ h _ _ => h, fun _ h => .inl h, fun _ _ h => .inl h⟩
theorem Ext.mem {g g' : Gh} (e : Ext g g') {b : Addr} (h : b ∈ g.M) : b ∈ g'.M := by
  obtain ⟨l, q⟩ := e.pre
  rw [q]; exact List.mem_append_left _ h
theorem Ext.vac {g g' : Gh} (e : Ext g g') {b : Addr} (h : Vac g'.H b) : Vac g.H b ∨ b ∈ g.M := by
  by_cases hm : b ∈ g.M
  · exact .inr hm
  · refine .inl fun o q => ?_
    by_cases ht : ∃ ps, o = .tbl ps
    · exact ht
    · exact h o (e.keep b o q hm fun ps z => ht ⟨ps, z⟩)
theorem Ext.notNew {g g1 : Gh} (a : Ext g g1) {x : Addr} {o : HO} (h : g.H x = some o) (hm : x ∉ g.M) (ht : ∀ ps, o ≠ .tbl ps) : x ∉ g1.M := fun hm1 => by
  rcases a.fresh x hm1 with z | z
  · exact hm z
  · obtain ⟨ps, q⟩ := z o h
    exact ht ps q
theorem Ext.trans {g g1 g2 : Gh} (a : Ext g g1) (b : Ext g1 g2) : Ext g g2 where
  sub := a.sub.trans b.sub
  pre := by
    obtain ⟨l, h⟩ := a.pre
    obtain ⟨m, k⟩ := b.pre
    exact ⟨l ++ m, by rw [k, h, List.append_assoc]⟩
  keep := fun x o h hm ht => b.keep x o (a.keep x o h hm ht) (a.notNew h hm ht) ht
  fresh := fun x h => by
    rcases b.fresh x h with z | z
    · exact a.fresh x z
    · rcases a.vac z with z | z
      · exact .inr z
      · exact .inl z
  newF := fun x o h => by
    rcases b.newF x o h with z | z | z
    · exact a.newF x o z
    · rcases a.vac z with z | z
      · exact .inr (.inl z)
      · exact .inr (.inr z)
    · rcases a.fresh x z with z | z
      · exact .inr (.inr z)
      · exact .inr (.inl z)
theorem WV.ext {B : Bk} {g g' : Gh} (e : Ext g g') {v : V} {w : W} (h : WV B g v w) : WV B g' v w := by
  cases h with
  | d h => exact .d (e.sub.dv h)
  | mu h =>
    obtain ⟨l, q⟩ := e.pre
    refine .mu ?_
    rw [q, List.getElem?_append_left (List.getElem?_eq_some_iff.mp h).1]; exact h
  | dct ks h p => exact .dct ks (e.sub _ _ h) (Paired.mapP p fun a b z => ⟨e.sub.dv z.1, e.sub.dv z.2⟩)
  | seti h n f p => exact .seti (e.sub _ _ h) n f p
  | sett h n d p => exact .sett (e.sub _ _ h) (fun p hp => e.sub.sqT (n p hp)) d p
  | scr h => exact .scr (e.sub.sqL h)
inductive WVs (B : Bk) (g : Gh) : List V → List W → Prop
  | nil : WVs B g [] []
  | cons {v : V} {w : W} {vs : List V} {ws : List W} : WV B g v w → WVs B g vs ws → WVs B g (v :: vs) (w :: ws)
theorem WVs.ext {B : Bk} {g g' : Gh} (e : Ext g g') : ∀ {vs : List V} {ws : List W}, WVs B g vs ws → WVs B g' vs ws
  | _, _, .nil => .nil
  | _, _, .cons a b => .cons (a.ext e) (WVs.ext e b)
theorem WVs.length {B : Bk} {g : Gh} : ∀ {vs : List V} {ws : List W}, WVs B g vs ws → vs.length = ws.length
  | _, _, .nil => rfl
  | _, _, .cons _ b => by rw [List.length_cons, List.length_cons, WVs.length b]
theorem WVs.get {B : Bk} {g : Gh} : ∀ {vs : List V} {ws : List W} {i : Nat} {w : W}, WVs B g vs ws → ws[i]? = some w → ∃ v, vs[i]? = some v ∧ WV B g v w
  | _, _, _, _, .nil, h => by simp at h
  | _, _, 0, _, .cons a _, h => by simp at h; subst h; exact ⟨_, rfl, a⟩
  | _, _, i + 1, _, .cons _ b, h => by obtain ⟨v, h1, h2⟩ := WVs.get (i := i) b (by simpa using h); exact ⟨v, by simpa using h1, h2⟩
/-- a thing that is no table and no code object is changed, or a new one is laid -/
def Loose (H : Hp) (q : Addr) : Prop := ∀ o, H q = some o → (∃ vs, o = .lst vs) ∨ ∃ ks, o = .dK ks
theorem loose_none {H : Hp} {q : Addr} (h : H q = none) : Loose H q := fun o e => by rw [h] at e; cases e
theorem loose_lst {H : Hp} {q : Addr} {vs : List V} (h : H q = some (.lst vs)) : Loose H q := fun o e => by rw [h] at e; cases e; exact .inl ⟨_, rfl⟩
theorem loose_dK {H : Hp} {q : Addr} {ks : List (Key × V)} (h : H q = some (.dK ks)) : Loose H q := fun o e => by rw [h] at e; cases e; exact .inr ⟨_, rfl⟩
theorem tabs_upd {T : List (Addr × Str)} {H : Hp} {q : Addr} {o : HO} (t : LamX.Tabs T H) (h : Loose H q) : LamX.Tabs T (upd H q o) := fun p hp => by
  obtain ⟨ps, h1, h2, h3⟩ := t p hp
  have ne : ∀ {b : Addr} {u : HO}, H b = some u → (∀ vs, u ≠ .lst vs) → (∀ ks, u ≠ .dK ks) → b ≠ q := fun {b u} hb n1 n2 e => by
    subst e
    rcases h u hb with ⟨vs, z⟩ | ⟨ks, z⟩
    · exact n1 vs z
    · exact n2 ks z
  refine ⟨ps, by rw [upd_ne (ne h1 (fun _ z => nomatch z) fun _ z => nomatch z)]; exact h1, h2, fun pos cv hc => ?_⟩
  obtain ⟨c, e1, e2⟩ := h3 pos cv hc
  exact ⟨c, e1, by rw [upd_ne (ne e2 (fun _ z => by unfold LamX.CodeO at z; cases z) fun _ z => by unfold LamX.CodeO at z; cases z)]; exact e2⟩
structure Rep (B : Bk) (S : S) (g : Gh) : Prop where
  sub : Sub g.F g.H
  ntb : ∀ b ps, g.F b ≠ some (.tbl ps)
  len : g.M.length = S.length
  nd : g.M.Nodup
  tab : LamX.Tabs B.T g.H
  at_ : ∀ (n : Nat) (a : Addr), g.M[n]? = some a → ∃ (fr : Bool) (xs : List D) (vs : List V), S[n]? = some (fr, xs) ∧ g.H a = some (.lst vs) ∧ DVs B.K g.F vs xs ∧ g.F a = if fr = true then some (.lst vs) else none
/-- an exception of the class of that name -/
def IsEx (B : Bk) (g : Gh) (c : Str) (p : Option D) (cls : Value) (d : Option Addr) : Prop := B.mg c = some cls ∧ match p with
  | none => d = none
  | some x => ∃ (dx : Addr) (v : V) (f : Str), d = some dx ∧ g.F dx = some (.xd [(f, v)]) ∧ DV B.K g.F v x
/-- what a run leaves -/
def Aft {α : Type} (B : Bk) (W : XK) (g : Gh) (r : R α) (P : α → S → Gh → Prop) : Prop := match r with
  | .ok a S' => ∀ g', Ext g g' → Rep B S' g' → P a S' g'
  | .ex c p S' => ∀ g' cls d, Ext g g' → Rep B S' g' → IsEx B g' c p cls d → W cls d g'.H
  | .no => False
section
variable {B : Bk} {Wx : XK} {g : Gh} {α β : Type} {S : S}
theorem Aft.imp {r : R α} {P P' : α → Pd.S → Gh → Prop} (h : Aft B Wx g r P) (f : ∀ a S' g', Ext g g' → Rep B S' g' → P a S' g' → P' a S' g') : Aft B Wx g r P' := by
  cases r with
  | ok a S' => exact fun g' e R => f a S' g' e R (h g' e R)
  | ex c p S' => exact h
  | no => exact h
theorem Aft.bind {m : M α} {f : α → M β} {P : β → Pd.S → Gh → Prop} (h : Aft B Wx g ((m >>= f) S) P) : Aft B Wx g (m S) fun a S1 g1 => Aft B Wx g1 (f a S1) P := by
  have h : Aft B Wx g (M.andThen m f S) P := h
  unfold M.andThen at h
  cases q : m S with
  | ok a S1 =>
    rw [q] at h
    intro g1 e1 R1
    have h : Aft B Wx g (f a S1) P := h
    show Aft B Wx g1 (f a S1) P
    cases q2 : f a S1 with
    | ok b S2 => rw [q2] at h; exact fun g2 e2 R2 => h g2 (e1.trans e2) R2
    | ex c p S2 => rw [q2] at h; exact fun g2 cls d e2 R2 => h g2 cls d (e1.trans e2) R2
    | no => rw [q2] at h; exact h
  | ex c p S1 => rw [q] at h; exact h
  | no => rw [q] at h; exact h
theorem Aft.pure {a : α} {P : α → Pd.S → Gh → Prop} (h : Aft B Wx g ((Pure.pure a : M α) S) P) (R : Rep B S g) : P a S g := h g .refl R
theorem Aft.opt {o : Option α} {P : α → Pd.S → Gh → Prop} (h : Aft B Wx g (opt o S) P) (R : Rep B S g) : ∃ a, o = some a ∧ P a S g := by
  cases o with
  | none => exact h.elim
  | some a => exact ⟨a, rfl, Aft.pure (S := S) h R⟩
theorem Aft.no {P : α → Pd.S → Gh → Prop} (h : Aft B Wx g ((Pd.no : M α) S) P) : False := h
theorem Aft.nox {m : M α} {P : α → Pd.S → Gh → Prop} (h : Aft B Wx g (nox m S) P) : Aft B (fun _ _ _ => False) g (m S) P := by
  have h : Aft B Wx g (match m S with | .ok a s' => R.ok a s' | .ex _ _ _ => .no | .no => .no) P := h
  cases q : m S with
  | ok a s' => rw [q] at h; exact h
  | ex c p s' => rw [q] at h; exact h.elim
  | no => rw [q] at h; exact h.elim
/-- a value as it stands -/
def LV (B : Bk) (g : Gh) (v : V) (x : D) : Prop := DV B.K g.F v x ∨ ∃ a vs xs, v = .ref a ∧ x = .list xs ∧ g.H a = some (.lst vs) ∧ DVs B.K g.F vs xs
theorem LV.dv {v : V} {x : D} (h : LV B g v x) (R : Rep B S g) : DV B.K g.H v x := by
  rcases h with h | ⟨a, vs, xs, rfl, rfl, h, p⟩
  · exact R.sub.dv h
  · exact .lst h (R.sub.dvs p)
theorem LV.lst {v : V} {xs : List D} (h : LV B g v (.list xs)) (R : Rep B S g) : ∃ a vs, v = .ref a ∧ g.H a = some (.lst vs) ∧ DVs B.K g.F vs xs := by
  rcases h with h | ⟨a, vs, ys, rfl, e, h, p⟩
  · cases h with | lst h p => exact ⟨_, _, rfl, R.sub _ _ h, p⟩
  · cases e; exact ⟨a, vs, rfl, h, p⟩
theorem LV.tup {v : V} {xs : List D} (h : LV B g v (.tuple xs)) (R : Rep B S g) : ∃ a vs, v = .ref a ∧ SqT B.K g.H a vs ∧ SqT B.K g.F a vs ∧ DVs B.K g.F vs xs := by
  rcases h with h | ⟨a, vs, ys, rfl, e, h, p⟩
  · cases h with | tup h p => exact ⟨_, _, rfl, R.sub.sqT h, h, p⟩
  · cases e
theorem LV.int {v : V} {i : Int} (h : LV B g v (.int i)) : v = .int i := by
  rcases h with h | ⟨_, _, _, _, e, _⟩
  · cases h; rfl
  · cases e
theorem LV.bool {v : V} {i : Bool} (h : LV B g v (.bool i)) : v = .bl i := by
  rcases h with h | ⟨_, _, _, _, e, _⟩
  · cases h; rfl
  · cases e
theorem LV.str {v : V} {i : Str} (h : LV B g v (.str i)) : v = .str i := by
  rcases h with h | ⟨_, _, _, _, e, _⟩
  · cases h; rfl
  · cases e
theorem LV.non {v : V} (h : LV B g v .none) : v = .non := by
  rcases h with h | ⟨_, _, _, _, e, _⟩
  · cases h; rfl
  · cases e
theorem LV.ext {g' : Gh} {v : V} {x : D} (h : LV B g v x) (hH : g'.H = g.H) (e : Ext g g') : LV B g' v x := by
  rcases h with h | ⟨a, vs, xs, rfl, rfl, h, p⟩
  · exact .inl (e.sub.dv h)
  · exact .inr ⟨a, vs, xs, rfl, rfl, by rw [hH]; exact h, e.sub.dvs p⟩
theorem Aft.look {w : W} {v : V} {P : D → Pd.S → Gh → Prop} (h : Aft B Wx g (look w S) P) (R : Rep B S g) (r : WV B g v w) : ∃ x, LV B g v x ∧ P x S g := by
  cases r with
  | d r => exact ⟨_, .inl r, h g .refl R⟩
  | @mu a n r =>
    obtain ⟨fr, xs, vs, q, q1, q2, q3⟩ := R.at_ _ _ r
    have h : Aft B Wx g (match S[n]? with | some p => Pd.R.ok (PyData.list p.2) S | none => .no) P := h
    rw [q] at h
    exact ⟨_, .inr ⟨_, vs, xs, rfl, rfl, q1, q2⟩, h g .refl R⟩
  | dct => exact h.elim
  | seti => exact h.elim
  | sett => exact h.elim
  | scr => exact h.elim
theorem getElem?_set_ite {α : Type} (l : List α) (i j : Nat) (a : α) : (l.set i a)[j]? = if i = j ∧ j < l.length then some a else l[j]? := by
  rw [List.getElem?_set]
  by_cases h : i = j
  · subst h
    by_cases h2 : i < l.length
    · simp [h2]
    · simp [h2]
  · simp [h]
theorem nodup_at {l : List Addr} (h : l.Nodup) {i j : Nat} {a : Addr} (x : l[i]? = some a) (y : l[j]? = some a) : i = j := by
  exact (List.getElem?_inj (List.getElem?_eq_some_iff.mp x).1 h).mp (x.trans y.symm)
theorem Aft.toD {w : W} {v : V} {P : D → Pd.S → Gh → Prop} (h : Aft B Wx g (toD w S) P) (R : Rep B S g) (r : WV B g v w) :
    ∃ x S' g', Ext g g' ∧ Rep B S' g' ∧ g'.H = g.H ∧ g'.M = g.M ∧ DV B.K g'.F v x ∧ P x S' g' := by
  cases r with
  | d r => exact ⟨_, S, g, .refl, R, rfl, rfl, r, h g .refl R⟩
  | @mu a n r =>
    obtain ⟨fr, xs, vs, q, q1, q2, q3⟩ := R.at_ _ _ r
    have h : Aft B Wx g (match S[n]? with | some p => Pd.R.ok (PyData.list p.2) (S.set n (true, p.2)) | none => .no) P := h
    rw [q] at h
    have hn : n < S.length := (List.getElem?_eq_some_iff.mp q).1
    have hsub : Sub g.F (upd g.F a (.lst vs)) := fun b o hb => by
      by_cases e : b = a
      · subst e
        rw [q3] at hb
        split at hb
        · rw [upd_same]; exact hb
        · cases hb
      · rw [upd_ne e]; exact hb
    have ha : a ∈ g.M := List.mem_of_getElem? r
    have e : Ext g ⟨upd g.F a (.lst vs), g.M, g.H⟩ := ⟨hsub, ⟨[], by simp⟩, fun _ _ h _ _ => h, fun _ h => .inl h, fun b o hb => by
      by_cases e : b = a
      · exact .inr (.inr (e ▸ ha))
      · have hb : upd g.F a (.lst vs) b = some o := hb
        rw [upd_ne e] at hb; exact .inl hb⟩
    have R' : Rep B (S.set n (true, xs)) ⟨upd g.F a (.lst vs), g.M, g.H⟩ := by
      refine ⟨fun b o hb => ?_, fun b ps hb => ?_, by rw [List.length_set]; exact R.len, R.nd, R.tab, fun m b hb => ?_⟩
      · have hb : upd g.F a (.lst vs) b = some o := hb
        by_cases e : b = a
        · subst e; rw [upd_same] at hb; rw [← hb]; exact q1
        · rw [upd_ne e] at hb; exact R.sub _ _ hb
      · have hb : upd g.F a (.lst vs) b = some (.tbl ps) := hb
        by_cases e : b = a
        · subst e; rw [upd_same] at hb; cases hb
        · rw [upd_ne e] at hb; exact R.ntb _ _ hb
      · obtain ⟨fr1, xs1, vs1, p, p1, p2, p3⟩ := R.at_ _ _ hb
        by_cases e : m = n
        · subst e
          have hab : b = a := by rw [r] at hb; exact (Option.some.inj hb).symm
          subst hab
          rw [q] at p
          cases p
          rw [q1] at p1
          cases p1
          exact ⟨true, xs, vs, by rw [getElem?_set_ite]; simp [hn], q1, hsub.dvs q2, by simp [upd_same]⟩
        · have hab : b ≠ a := fun z => e (nodup_at R.nd hb (z ▸ r))
          exact ⟨fr1, xs1, vs1, by rw [getElem?_set_ite, if_neg (fun z => e z.1.symm)]; exact p, p1, hsub.dvs p2, by show upd g.F a (.lst vs) b = _; rw [upd_ne hab]; exact p3⟩
    exact ⟨_, _, _, e, R', rfl, rfl, .lst upd_same (hsub.dvs q2), h _ e R'⟩
  | dct => exact h.elim
  | seti => exact h.elim
  | sett => exact h.elim
  | scr => exact h.elim
/-- a new object, frozen at once -/
theorem Rep.new (R : Rep B S g) {q : Addr} {o : HO} (hq : g.H q = none) (ht : ∀ ps, o ≠ .tbl ps) : Ext g ⟨upd g.F q o, g.M, upd g.H q o⟩ ∧ Rep B S ⟨upd g.F q o, g.M, upd g.H q o⟩ := by
  have hF : g.F q = none := by
    cases e : g.F q with
    | none => rfl
    | some u => rw [R.sub _ _ e] at hq; cases hq
  have hsub : Sub g.F (upd g.F q o) := fun b u hb => by rw [upd_ne (ne_of_none hb hF)]; exact hb
  refine ⟨⟨hsub, ⟨[], by simp⟩, fun b u hb _ _ => ?_, fun _ h => .inl h, fun b u hb => ?_⟩, ⟨fun b u hb => ?_, fun b ps hb => ?_, R.len, R.nd, tabs_upd R.tab (loose_none hq), fun n a ha => ?_⟩⟩
  · show upd g.H q o b = _
    rw [upd_ne (ne_of_none hb hq)]; exact hb
  · have hb : upd g.F q o b = some u := hb
    by_cases e : b = q
    · exact .inr (.inl (vac_none (e ▸ hq)))
    · rw [upd_ne e] at hb; exact .inl hb
  · have hb : upd g.F q o b = some u := hb
    show upd g.H q o b = _
    by_cases e : b = q
    · subst e; rw [upd_same] at hb ⊢; exact hb
    · rw [upd_ne e] at hb ⊢; exact R.sub _ _ hb
  · have hb : upd g.F q o b = some (.tbl ps) := hb
    by_cases e : b = q
    · subst e; rw [upd_same] at hb; exact ht ps (Option.some.inj hb)
    · rw [upd_ne e] at hb; exact R.ntb _ _ hb
  · obtain ⟨fr, xs, vs, p, p1, p2, p3⟩ := R.at_ _ _ ha
    have hne : a ≠ q := ne_of_none p1 hq
    exact ⟨fr, xs, vs, p, by show upd g.H q o a = _; rw [upd_ne hne]; exact p1, hsub.dvs p2, by show upd g.F q o a = _; rw [upd_ne hne]; exact p3⟩
/-- a new list that may change -/
theorem Rep.mut (R : Rep B S g) {q : Addr} {vs : List V} {xs : List D} (hq : g.H q = none) (h : DVs B.K g.F vs xs) : Ext g ⟨g.F, g.M ++ [q], upd g.H q (.lst vs)⟩ ∧ Rep B (S ++ [(false, xs)]) ⟨g.F, g.M ++ [q], upd g.H q (.lst vs)⟩ := by
  have hF : g.F q = none := by
    cases e : g.F q with
    | none => rfl
    | some u => rw [R.sub _ _ e] at hq; cases hq
  have hM : q ∉ g.M := fun z => by
    obtain ⟨n, hn⟩ := List.getElem?_of_mem z
    obtain ⟨_, _, _, _, p1, _⟩ := R.at_ _ _ hn
    rw [hq] at p1; cases p1
  refine ⟨⟨.refl, ⟨[q], rfl⟩, fun b u hb _ _ => ?_, fun b hb => ?_, fun b u hb => .inl hb⟩, ⟨fun b u hb => ?_, R.ntb, ?_, ?_, tabs_upd R.tab (loose_none hq), fun n a ha => ?_⟩⟩
  · show upd g.H q _ b = _
    rw [upd_ne (ne_of_none hb hq)]; exact hb
  · have hb : b ∈ g.M ++ [q] := hb
    rcases List.mem_append.mp hb with z | z
    · exact .inl z
    · simp at z; exact .inr (vac_none (z ▸ hq))
  · show upd g.H q _ b = _
    rw [upd_ne (ne_of_none hb hF)]; exact R.sub _ _ hb
  · show (g.M ++ [q]).length = _
    rw [List.length_append, List.length_append, R.len]; rfl
  · show (g.M ++ [q]).Nodup
    rw [List.nodup_append]
    exact ⟨R.nd, by simp, fun a ha b hb z => by simp at hb; subst hb; subst z; exact hM ha⟩
  · have ha : (g.M ++ [q])[n]? = some a := ha
    by_cases hn : n < g.M.length
    · rw [List.getElem?_append_left hn] at ha
      obtain ⟨fr, xs1, vs1, p, p1, p2, p3⟩ := R.at_ _ _ ha
      have hne : a ≠ q := ne_of_none p1 hq
      exact ⟨fr, xs1, vs1, by rw [List.getElem?_append_left (by rw [← R.len]; exact hn)]; exact p, by show upd g.H q _ a = _; rw [upd_ne hne]; exact p1, p2, p3⟩
    · rw [List.getElem?_append_right (by omega)] at ha
      have hz : n - g.M.length = 0 := by
        have := (List.getElem?_eq_some_iff.mp ha).1
        simp at this; omega
      rw [hz] at ha
      simp at ha
      subst ha
      exact ⟨false, xs, vs, by rw [List.getElem?_append_right (by rw [← R.len]; omega), ← R.len, hz]; rfl, upd_same, h, by simp [hF]⟩
/-- a list that may change, changed -/
theorem Rep.write (R : Rep B S g) {n : Nat} {a : Addr} {xs ys : List D} {vs : List V} (hn : g.M[n]? = some a) (hs : S[n]? = some (false, xs)) (h : DVs B.K g.F vs ys) :
    Ext g ⟨g.F, g.M, upd g.H a (.lst vs)⟩ ∧ Rep B (S.set n (false, ys)) ⟨g.F, g.M, upd g.H a (.lst vs)⟩ := by
  have hM : a ∈ g.M := List.mem_of_getElem? hn
  obtain ⟨fr, xs0, vs0, p, p1, p2, p3⟩ := R.at_ _ _ hn
  rw [hs] at p; cases p
  have hF : g.F a = none := by simpa using p3
  have hl : n < S.length := (List.getElem?_eq_some_iff.mp hs).1
  refine ⟨⟨.refl, ⟨[], by simp⟩, fun b u hb hm _ => ?_, fun _ hb => .inl hb, fun b u hb => .inl hb⟩, ⟨fun b u hb => ?_, R.ntb, by rw [List.length_set]; exact R.len, R.nd, tabs_upd R.tab (loose_lst p1), fun m b hb => ?_⟩⟩
  · show upd g.H a _ b = _
    rw [upd_ne (fun z => hm (by rw [z]; exact hM))]; exact hb
  · show upd g.H a _ b = _
    rw [upd_ne (ne_of_none hb hF)]; exact R.sub _ _ hb
  · obtain ⟨fr1, xs1, vs1, p, q1, q2, q3⟩ := R.at_ _ _ hb
    by_cases e : m = n
    · subst e
      have hab : b = a := by rw [hn] at hb; exact (Option.some.inj hb).symm
      subst hab
      exact ⟨false, ys, vs, by rw [getElem?_set_ite]; simp [hl], upd_same, h, by simp [hF]⟩
    · have hab : b ≠ a := fun z => e (nodup_at R.nd hb (z ▸ hn))
      exact ⟨fr1, xs1, vs1, by rw [getElem?_set_ite, if_neg (fun z => e z.1.symm)]; exact p, by show upd g.H a _ b = _; rw [upd_ne hab]; exact q1, q2, q3⟩
theorem Aft.eq {r : R α} {P : α → Pd.S → Gh → Prop} (h : Aft B Wx g r P) : Aft B Wx g r fun a S' g' => r = .ok a S' ∧ P a S' g' := by
  cases r with
  | ok a S' => exact fun g' e R => ⟨rfl, h g' e R⟩
  | ex c p S' => exact h
  | no => exact h
theorem bind_eq {m : M α} {f : α → M β} {S S1 : Pd.S} {a : α} (h : m S = .ok a S1) : (m >>= f) S = f a S1 := by
  show M.andThen m f S = _
  unfold M.andThen
  rw [h]
/-- later, the same is known -/
theorem Aft.weaken {g' : Gh} {r : R α} {P : α → Pd.S → Gh → Prop} (h : Aft B Wx g r P) (e : Ext g g') : Aft B Wx g' r P := by
  cases r with
  | ok a S' => exact fun g2 e2 R => h g2 (e.trans e2) R
  | ex c p S' => exact fun g2 cls d e2 R => h g2 cls d (e.trans e2) R
  | no => exact h
/-- a thing that stood by is made known -/
theorem Rep.adopt (R : Rep B S g) {q : Addr} {o : HO} (hF : g.F q = none) (hM : q ∉ g.M) (ht : ∀ ps, o ≠ .tbl ps) (hl : Loose g.H q) : Sub g.F (upd g.F q o) ∧ Rep B S ⟨upd g.F q o, g.M, upd g.H q o⟩ := by
  have hsub : Sub g.F (upd g.F q o) := fun b u hb => by rw [upd_ne (ne_of_none hb hF)]; exact hb
  refine ⟨hsub, ⟨fun b u hb => ?_, fun b ps hb => ?_, R.len, R.nd, tabs_upd R.tab hl, fun n a ha => ?_⟩⟩
  · have hb : upd g.F q o b = some u := hb
    show upd g.H q o b = _
    by_cases e : b = q
    · subst e; rw [upd_same] at hb ⊢; exact hb
    · rw [upd_ne e] at hb ⊢; exact R.sub _ _ hb
  · have hb : upd g.F q o b = some (.tbl ps) := hb
    by_cases e : b = q
    · subst e; rw [upd_same] at hb; exact ht ps (Option.some.inj hb)
    · rw [upd_ne e] at hb; exact R.ntb _ _ hb
  · obtain ⟨fr, xs, vs, p, p1, p2, p3⟩ := R.at_ _ _ ha
    have hne : a ≠ q := fun z => hM (by rw [← z]; exact List.mem_of_getElem? ha)
    exact ⟨fr, xs, vs, p, by show upd g.H q o a = _; rw [upd_ne hne]; exact p1, hsub.dvs p2, by show upd g.F q o a = _; rw [upd_ne hne]; exact p3⟩
/-- seen from where it did not stand yet -/
theorem Ext.adopt {g g' : Gh} (e : Ext g g') {q : Addr} {o : HO} (hq : g.H q = Option.none) (hF : g'.F q = Option.none) : Ext g ⟨upd g'.F q o, g'.M, upd g'.H q o⟩ := by
  refine ⟨fun b u hb => ?_, e.pre, fun b u hb hm ht => ?_, e.fresh, fun b u hb => ?_⟩
  · show upd g'.F q o b = _
    rw [upd_ne (ne_of_none (e.sub _ _ hb) hF)]; exact e.sub _ _ hb
  · show upd g'.H q o b = _
    rw [upd_ne (ne_of_none hb hq)]; exact e.keep b u hb hm ht
  · have hb : upd g'.F q o b = some u := hb
    by_cases z : b = q
    · exact .inr (.inl (vac_none (z ▸ hq)))
    · rw [upd_ne z] at hb; exact e.newF b u hb
/-- a thing stands by that is not known -/
theorem Rep.beside (R : Rep B S g) {q : Addr} {o : HO} (hF : g.F q = none) (hM : q ∉ g.M) (ht : ∀ ps, o ≠ .tbl ps) (hl : Loose g.H q) : Rep B S ⟨g.F, g.M, upd g.H q o⟩ :=
  ⟨fun b u hb => by show upd g.H q _ b = _; rw [upd_ne (ne_of_none hb hF)]; exact R.sub _ _ hb, R.ntb, R.len, R.nd, tabs_upd R.tab hl, fun n a ha => by
    obtain ⟨fr, xs, vs, p, p1, p2, p3⟩ := R.at_ n a ha
    have hne : a ≠ q := fun z => hM (by rw [← z]; exact List.mem_of_getElem? ha)
    exact ⟨fr, xs, vs, p, by show upd g.H q _ a = _; rw [upd_ne hne]; exact p1, p2, p3⟩⟩
theorem Ext.beside {g g' : Gh} (e : Ext g g') {q : Addr} {o : HO} (hq : g.H q = Option.none) : Ext g ⟨g'.F, g'.M, upd g'.H q o⟩ :=
  ⟨e.sub, e.pre, fun b u hb hm ht => by show upd g'.H q _ b = _; rw [upd_ne (ne_of_none hb hq)]; exact e.keep b u hb hm ht, e.fresh, e.newF⟩
theorem Rep.notM (R : Rep B S g) {q : Addr} (hq : g.H q = none) : q ∉ g.M := fun z => by
  obtain ⟨n, hn⟩ := List.getElem?_of_mem z
  obtain ⟨_, _, _, _, p1, _⟩ := R.at_ _ _ hn
  rw [hq] at p1; cases p1
theorem Rep.notF (R : Rep B S g) {q : Addr} (hq : g.H q = none) : g.F q = none := by
  cases e : g.F q with
  | none => rfl
  | some u => rw [R.sub _ _ e] at hq; cases hq
/-- what stands by stays -/
theorem Ext.by_ {g g' : Gh} (e : Ext g g') {q : Addr} {o : HO} (h : g.H q = some o) (hM : q ∉ g.M) (hF : g.F q = Option.none) (ht : ∀ ps, o ≠ .tbl ps) : g'.H q = some o ∧ q ∉ g'.M ∧ g'.F q = Option.none := by
  refine ⟨e.keep q o h hM ht, e.notNew h hM ht, ?_⟩
  cases q2 : g'.F q with
  | none => rfl
  | some u =>
    rcases e.newF q u q2 with z | z | z
    · rw [hF] at z; cases z
    · obtain ⟨ps, y⟩ := z o h
      exact absurd y (ht ps)
    · exact absurd z hM
end
end Pd
end

set_option maxHeartbeats 200000
section
/-! Pd4: readings by the evaluator; operators. Own work, session 1. -/
namespace Pd
open PySem PySem.Spec PyProof.Rows L2

def EnvR (B : Bk) (g : Gh) (σ : L2.St) (ρ : Rho) : Prop := σ.length = ρ.length ∧ ∀ (i : Nat) (w : W), ρ[i]? = some (some w) → ∃ v, σ[i]? = some (some v) ∧ WV B g v w
theorem EnvR.ext {B : Bk} {g g' : Gh} {σ : L2.St} {ρ : Rho} (h : EnvR B g σ ρ) (e : Ext g g') : EnvR B g' σ ρ := ⟨h.1, fun i w q => by
  obtain ⟨v, h1, h2⟩ := h.2 i w q
  exact ⟨v, h1, h2.ext e⟩⟩
theorem Rho.at_some {ρ : Rho} {i : Nat} {w : W} (h : ρ.at_ i = some w) : ρ[i]? = some (some w) := by
  unfold Rho.at_ at h
  split at h
  · rename_i w' q
    rw [q]; exact congrArg some h
  · cases h
def tE (B : Bk) (Wx : XK) (m : Rho → M W) : TE := fun σ H Q => ∃ ρ S g, g.H = H ∧ Rep B S g ∧ EnvR B g σ ρ ∧ Aft B Wx g (m ρ S) fun w S' g' => ∀ v, WV B g' v w → Q v g'.H
def tAs (B : Bk) (Wx : XK) (m : Rho → M (List W)) : TA := fun σ H Q => ∃ ρ S g, g.H = H ∧ Rep B S g ∧ EnvR B g σ ρ ∧ Aft B Wx g (m ρ S) fun ws S' g' => ∀ vs, WVs B g' vs ws → Q vs g'.H
def tB' (B : Bk) (Wx : XK) (m : Rho → M Bool) : TT := fun σ H Q => ∃ ρ S g, g.H = H ∧ Rep B S g ∧ EnvR B g σ ρ ∧ Aft B Wx g (m ρ S) fun b S' g' => Q b g'.H
/-- a value that is data -/
theorem wv_d {B : Bk} {g : Gh} {v : V} {x : D} (h : WV B g v (.d x)) : DV B.K g.F v x := by cases h with | d h => exact h
theorem wv_int {B : Bk} {g : Gh} {v : V} {i : Int} (h : WV B g v (.d (.int i))) : v = .int i := by cases wv_d h; rfl
theorem wv_bl {B : Bk} {g : Gh} {v : V} {i : Bool} (h : WV B g v (.d (.bool i))) : v = .bl i := by cases wv_d h; rfl
section
variable {X : Cx} {B : Bk} {Wx : XK}
theorem pe_imp {e : Expr} {t t' : TE} (h : PE X e t) (f : ∀ σ H Q, t' σ H Q → t σ H Q) : PE X e t' := ⟨fun pins s σ H Q I q => h.run pins s σ H Q I (f σ H Q q)⟩
theorem pt_imp {e : Expr} {t t' : TT} (h : PT X e t) (f : ∀ σ H Q, t' σ H Q → t σ H Q) : PT X e t' := ⟨fun pins s σ H Q I q => h.run pins s σ H Q I (f σ H Q q)⟩
theorem pw_imp {e : Expr} {t t' : TT} (h : PW X e t) (f : ∀ σ H Q, t' σ H Q → t σ H Q) : PW X e t' := ⟨fun wh pins s σ H Q I q => h.run wh pins s σ H Q I (f σ H Q q)⟩
theorem pa_imp {e : List Expr} {t t' : TA} (h : PA X e t) (f : ∀ σ H Q, t' σ H Q → t σ H Q) : PA X e t' := ⟨fun pos pins s σ H Q I q => h.run pos pins s σ H Q I (f σ H Q q)⟩
theorem ps_imp {e : Stmt} {t t' : TS} (h : PS X e t) (f : ∀ D σ H, t' D σ H → t D σ H) : PS X e t' := ⟨fun pins s σ H D I q => h.run pins s σ H D I (f D σ H q)⟩
theorem pss_imp {e : List Stmt} {t t' : TS} (h : PSs X e t) (f : ∀ D σ H, t' D σ H → t D σ H) : PSs X e t' := ⟨fun pins s σ H D I q => h.run pins s σ H D I (f D σ H q)⟩

/-! ### values on hand -/
theorem big_le : big ≤ sizeLine := by decide
/-- what an operator gives: a value of old, or a new object -/
def NewD (B : Bk) (S : S) (g : Gh) (z : D) (Q : VK) : Prop := ∀ v g', Ext g g' → Rep B S g' → DV B.K g'.F v z → Q v g'.H
theorem NewD.old {S : S} {g : Gh} {z : D} {Q : VK} (h : NewD B S g z Q) (R : Rep B S g) {v : V} (d : DV B.K g.F v z) : Q v g.H := h v g .refl R d
theorem NewD.tup {S : S} {g : Gh} {zs : List D} {Q : VK} (h : NewD B S g (.tuple zs) Q) (R : Rep B S g) {q : Addr} {vs : List V} (hq : g.H q = none) (d : DVs B.K g.F vs zs) : Q (.ref q) (upd g.H q (.tup vs)) := by
  obtain ⟨e, R'⟩ := R.new (o := .tup vs) hq (fun _ z => nomatch z)
  exact h _ _ e R' (.tup (SqT.of upd_same) (e.sub.dvs d))
theorem NewD.lst {S : S} {g : Gh} {zs : List D} {Q : VK} (h : NewD B S g (.list zs) Q) (R : Rep B S g) {q : Addr} {vs : List V} (hq : g.H q = none) (d : DVs B.K g.F vs zs) : Q (.ref q) (upd g.H q (.lst vs)) := by
  obtain ⟨e, R'⟩ := R.new (o := .lst vs) hq (fun _ z => nomatch z)
  exact h _ _ e R' (.lst upd_same (e.sub.dvs d))
theorem dvs_nil_iff {K : Kf} {F : Hp} {vs : List V} {xs : List D} (h : DVs K F vs xs) : vs = [] ↔ xs = [] := by
  cases h <;> simp
theorem dvs_flatten {K : Kf} {F : Hp} {vs : List V} {xs : List D} (h : DVs K F vs xs) : ∀ n : Nat, DVs K F (List.replicate n vs).flatten (List.replicate n xs).flatten
  | 0 => by simp; exact .nil
  | n + 1 => by rw [List.replicate_succ, List.replicate_succ, List.flatten_cons, List.flatten_cons]; exact h.append (dvs_flatten h n)
/-- a two-place operator on data -/
def rD (B : Bk) (f : D → D → Option D) : R2 := fun x y H Q => ∃ S g dx dy z, g.H = H ∧ Rep B S g ∧ LV B g x dx ∧ LV B g y dy ∧ f dx dy = some z ∧ NewD B S g z Q
variable (hK : X.K = B.K)
include hK
theorem or_add : OpR X (binaryOp .Add) (rD B (binD .add)) := by
  intro pins s σ H x y v u Q I rx ry h
  obtain ⟨S, g, dx, dy, z, rfl, R, lx, ly, hf, q⟩ := h
  cases dx <;> cases dy <;> (try (simp only [binD] at hf; cases hf; done))
  · simp only [binD, Option.some.injEq] at hf
    subst hf
    exact op_add pins s σ g.H x y v u Q I rx ry ⟨_, _, lx.int, ly.int, q.old R (.int _)⟩
  · simp only [binD] at hf
    split at hf
    · rename_i hz
      simp only [Option.some.injEq] at hf
      subst hf
      exact op_add_str pins s σ g.H x y v u Q I rx ry ⟨_, _, lx.str, ly.str, Nat.le_trans hz big_le, q.old R (.str _)⟩
    · cases hf
  · simp only [binD] at hf
    split at hf
    · rename_i hz
      simp only [Option.some.injEq] at hf
      subst hf
      obtain ⟨a, vs, rfl, ha, da⟩ := lx.lst R
      obtain ⟨b, ws, rfl, hb, db⟩ := ly.lst R
      exact op_cat pins s σ g.H _ _ v u Q I rx ry ⟨a, b, vs, ws, rfl, rfl, ha, hb, by rw [da.length, db.length]; exact Nat.le_trans hz big_le, fun p hp => q.lst R hp (da.append db)⟩
    · cases hf
  · simp only [binD] at hf
    split at hf
    · rename_i hz
      simp only [Option.some.injEq] at hf
      subst hf
      obtain ⟨a, vs, rfl, ha, ha', da⟩ := lx.tup R
      obtain ⟨b, ws, rfl, hb, hb', db⟩ := ly.tup R
      refine op_catA pins s σ g.H _ _ v u Q I rx ry ⟨a, b, vs, ws, rfl, rfl, hK ▸ ha, hK ▸ hb, by rw [da.length, db.length]; exact Nat.le_trans hz big_le, fun hv => ?_, fun hv hw => ?_, fun _ _ p hp => q.tup R hp (da.append db)⟩
      · have e := (dvs_nil_iff da).mp hv
        subst e
        exact q.old R (.tup hb' (by simpa using db))
      · have e := (dvs_nil_iff db).mp hw
        subst e
        exact q.old R (.tup ha' (by simpa using da))
    · cases hf

theorem ii_case {o : Bop} {op : Operator} {C : Int → Int → Prop} {f : Int → Int → Int} (ho : OpR X (binaryOp op) (rI C fun i j => .int (f i j))) (hf : ∀ dx dy z, binD o dx dy = some z → ∃ i j, dx = .int i ∧ dy = .int j ∧ C i j ∧ z = .int (f i j)) :
    OpR X (binaryOp op) (rD B (binD o)) := by
  intro pins s σ H x y v u Q I rx ry h
  obtain ⟨S, g, dx, dy, z, rfl, R, lx, ly, h, q⟩ := h
  obtain ⟨i, j, rfl, rfl, hc, rfl⟩ := hf _ _ _ h
  exact ho pins s σ g.H x y v u Q I rx ry ⟨_, _, lx.int, ly.int, hc, q.old R (.int _)⟩
omit hK in
theorem or_sub : OpR X (binaryOp .Sub) (rD B (binD .sub)) := by
  intro pins s σ H x y v u Q I rx ry h
  obtain ⟨S, g, dx, dy, z, rfl, R, lx, ly, hf, q⟩ := h
  cases dx <;> cases dy <;> (try (simp only [binD] at hf; cases hf; done))
  simp only [binD, Option.some.injEq] at hf
  subst hf
  exact op_sub pins s σ g.H x y v u Q I rx ry ⟨_, _, lx.int, ly.int, q.old R (.int _)⟩
theorem or_fdiv : OpR X (binaryOp .FloorDiv) (rD B (binD .fdiv)) := ii_case hK op_fdivN fun dx dy z h => by
  cases dx <;> cases dy <;> (try (simp only [binD] at h; cases h; done))
  simp only [binD] at h
  split at h
  · rename_i c
    exact ⟨_, _, rfl, rfl, c, (Option.some.inj h).symm⟩
  · cases h
theorem or_mod : OpR X (binaryOp .Mod) (rD B (binD .mod)) := ii_case hK op_modN fun dx dy z h => by
  cases dx <;> cases dy <;> (try (simp only [binD] at h; cases h; done))
  simp only [binD] at h
  split at h
  · rename_i c
    exact ⟨_, _, rfl, rfl, c, (Option.some.inj h).symm⟩
  · cases h
theorem or_pow : OpR X (binaryOp .Pow) (rD B (binD .pow)) := ii_case hK op_pow fun dx dy z h => by
  cases dx <;> cases dy <;> (try (simp only [binD] at h; cases h; done))
  simp only [binD] at h
  split at h
  · rename_i c
    exact ⟨_, _, rfl, rfl, c, (Option.some.inj h).symm⟩
  · cases h
theorem or_mul : OpR X (binaryOp .Mult) (rD B (binD .mul)) := by
  intro pins s σ H x y v u Q I rx ry h
  obtain ⟨S, g, dx, dy, z, rfl, R, lx, ly, hf, q⟩ := h
  cases dx <;> cases dy <;> (try (simp only [binD] at hf; cases hf; done))
  · simp only [binD] at hf
    split at hf
    · rename_i c
      cases hf
      exact op_mul pins s σ g.H x y v u Q I rx ry ⟨_, _, lx.int, ly.int, c, q.old R (.int _)⟩
    · cases hf
  · simp only [binD] at hf
    split at hf
    · rename_i c
      cases hf
      obtain ⟨c1, c2, c3⟩ := c
      obtain ⟨a, vs, rfl, ha, da⟩ := lx.lst R
      have hl := da.length
      refine op_rep pins s σ g.H _ _ v u Q I rx ry ⟨a, _, vs, rfl, ly.int, ha, by omega, by omega, ?_, fun p hp => q.lst R hp (dvs_flatten da _)⟩
      have : vs.length * Int.toNat ‹Int› ≤ 1000 * 1000 := Nat.mul_le_mul (by omega) (by omega)
      exact Nat.le_trans this (by decide)
    · cases hf
  · simp only [binD] at hf
    split at hf
    · rename_i c
      cases hf
      obtain ⟨c1, c2, c3, c4⟩ := c
      obtain ⟨a, vs, rfl, ha, ha', da⟩ := lx.tup R
      have hl := da.length
      exact op_repT pins s σ g.H _ _ v u Q I rx ry ⟨a, _, vs, rfl, ly.int, hK ▸ ha, fun z => c1 ((dvs_nil_iff da).mp z), c2, c3, by omega, fun p hp => q.tup R hp (dvs_flatten da _)⟩
    · cases hf
def opOf : Bop → Operator
  | .add => .Add
  | .sub => .Sub
  | .mul => .Mult
  | .fdiv => .FloorDiv
  | .mod => .Mod
  | .pow => .Pow
theorem or_bin (o : Bop) : OpR X (binaryOp (opOf o)) (rD B (binD o)) := by
  cases o
  · exact or_add hK
  · exact or_sub
  · exact or_mul hK
  · exact or_fdiv hK
  · exact or_mod hK
  · exact or_pow hK
omit hK in
theorem bopOf_op {op : Operator} {o : Bop} (h : bopOf op = some o) : op = opOf o := by
  cases op <;> simp only [bopOf, Option.some.injEq, reduceCtorEq] at h <;> subst h <;> rfl

/-! ### comparisons -/
def rC (B : Bk) (o : Cop) : R2 := fun x y H Q => ∃ S g a b k, g.H = H ∧ Rep B S g ∧ WV B g x a ∧ WV B g y b ∧ cmpW o a b S = .ok k S ∧ Q (.bl k) H
omit hK in
theorem look_ok {S : S} {g : Gh} {w : W} {v : V} {x : D} {S' : Pd.S} (R : Rep B S g) (r : WV B g v w) (h : look w S = .ok x S') : S' = S ∧ LV B g v x := by
  cases r with
  | d r => simp only [look, Pd.R.ok.injEq] at h; obtain ⟨rfl, rfl⟩ := h; exact ⟨rfl, .inl r⟩
  | @mu a n r =>
    obtain ⟨fr, xs, vs, q, q1, q2, q3⟩ := R.at_ _ _ r
    simp only [look, q, Pd.R.ok.injEq] at h
    obtain ⟨rfl, rfl⟩ := h
    exact ⟨rfl, .inr ⟨_, vs, xs, rfl, rfl, q1, q2⟩⟩
  | dct => simp only [look] at h; cases h
  | seti => simp only [look] at h; cases h
  | sett => simp only [look] at h; cases h
  | scr => simp only [look] at h; cases h
omit hK in
theorem bind_ok {α β : Type} {m : M α} {f : α → M β} {S S2 : Pd.S} {b : β} (h : (m >>= f) S = .ok b S2) : ∃ a S1, m S = .ok a S1 ∧ f a S1 = .ok b S2 := by
  have h : M.andThen m f S = _ := h
  unfold M.andThen at h
  cases q : m S with
  | ok a S1 => rw [q] at h; exact ⟨a, S1, rfl, h⟩
  | ex c p S1 => rw [q] at h; cases h
  | no => rw [q] at h; cases h
omit hK in
theorem opt_ok {α : Type} {o : Option α} {S S2 : Pd.S} {b : α} (h : opt o S = .ok b S2) : o = some b ∧ S2 = S := by
  cases o with
  | none => cases h
  | some a => cases h; exact ⟨rfl, rfl⟩
omit hK in
theorem pure_ok {α : Type} {a b : α} {S S2 : Pd.S} (h : (Pure.pure a : M α) S = .ok b S2) : a = b ∧ S2 = S := by cases h; exact ⟨rfl, rfl⟩
def opC : Cop → CmpOp
  | .eq => .Eq
  | .ne => .NotEq
  | .lt => .Lt
  | .le => .LtE
  | .gt => .Gt
  | .ge => .GtE
  | .is => .Is
  | .isNot => .IsNot
  | .in_ => .In
  | .notIn => .NotIn
omit hK in
theorem copOf_op (op : CmpOp) : opC (copOf op) = op := by cases op <;> rfl

def isN : D → Bool
  | .none => true
  | _ => false
omit hK in
theorem inS_some {a b : Str} {k : Bool} (h : inS a b = some k) : ∃ c, a = ⟨#[c]⟩ ∧ k = decide (c ∈ b.cps.toList) := by
  unfold inS at h
  split at h
  · rename_i c e
    cases h
    refine ⟨c, ?_, rfl⟩
    obtain ⟨⟨l⟩⟩ := a
    simp only at e
    rw [e]
  · cases h
omit hK in
theorem LV.isNon {S : S} {g : Gh} {v : V} {x : D} (h : LV B g v x) : decide (v = .non) = isN x := by
  cases x with
  | none => rw [h.non]; simp [isN]
  | bool b => rw [h.bool]; simp [isN]
  | int i => rw [h.int]; simp [isN]
  | str s => rw [h.str]; simp [isN]
  | list xs =>
    rcases h with h | ⟨a, vs, ys, rfl, e, _, _⟩
    · cases h; simp [isN]
    · simp [isN]
  | tuple xs =>
    rcases h with h | ⟨a, vs, ys, rfl, e, _, _⟩
    · cases h; simp [isN]
    · simp [isN]
  | dict xs =>
    rcases h with h | ⟨a, vs, ys, rfl, e, _, _⟩
    · cases h
    · simp [isN]
theorem or_cmpD (o : Cop) (hu : X.A.units + 64 < cLine) : OpR X (compareOp (opC o)) (fun x y H Q => ∃ S g dx dy k, g.H = H ∧ Rep B S g ∧ LV B g x dx ∧ LV B g y dy ∧ cmpD o dx dy = some k ∧ Q (.bl k) H) := by
  intro pins s σ H x y v u Q I rx ry h
  obtain ⟨S, g, dx, dy, k, rfl, R, lx, ly, hc, q⟩ := h
  obtain ⟨as, r1⟩ := Dp.reads I dx x v (hK ▸ (lx.dv R).dp) rx
  obtain ⟨bs, r2⟩ := Dp.reads I dy y u (hK ▸ (ly.dv R).dp) ry
  have fin : EP X pins σ Q (.bool k) s := ⟨.bl k, g.H, I, rfl, q⟩
  cases o with
  | eq =>
    simp only [cmpD] at hc
    split at hc
    · rename_i c
      cases hc
      simp only [eqOk, Bool.and_eq_true, decide_eq_true_eq] at c
      exact PySem.SeqAt.eq_plain r1 r2 c.1 c.2.1 (by omega) fin
    · cases hc
  | ne =>
    simp only [cmpD] at hc
    split at hc
    · rename_i c
      cases hc
      simp only [eqOk, Bool.and_eq_true, decide_eq_true_eq] at c
      exact PySem.SeqAt.ne_plain r1 r2 c.1 c.2.1 (by omega) fin
    · cases hc
  | lt =>
    simp only [cmpD] at hc
    split at hc
    · cases hc
      cases lx.int; cases ly.int
      obtain ⟨t, rfl⟩ := rx
      obtain ⟨t', rfl⟩ := ry
      exact lt_int fin
    · split at hc
      · rename_i c
        cases hc
        simp only [ltOk, Bool.and_eq_true, decide_eq_true_eq] at c
        exact PySem.W.lt_data r1 r2 c.1 (by rintro rfl; exact absurd c.2.1 (by decide)) (by omega) fin
      · cases hc
  | gt =>
    simp only [cmpD] at hc
    split at hc
    · cases hc
      cases lx.int; cases ly.int
      obtain ⟨t, rfl⟩ := rx
      obtain ⟨t', rfl⟩ := ry
      exact gt_int fin
    · split at hc
      · rename_i c
        cases hc
        simp only [ltOk, Bool.and_eq_true, decide_eq_true_eq] at c
        exact PySem.W.gt_data r1 r2 c.1 (by rintro rfl; exact absurd c.2.1 (by decide)) (by omega) fin
      · cases hc
  | le =>
    simp only [cmpD] at hc
    split at hc
    · cases hc
      cases lx.int; cases ly.int
      obtain ⟨t, rfl⟩ := rx
      obtain ⟨t', rfl⟩ := ry
      exact le_int fin
    · split at hc
      · rename_i c
        cases hc
        simp only [ltOk, Bool.and_eq_true, decide_eq_true_eq] at c
        exact PySem.W.le_data r1 r2 c.1 (by rintro rfl; exact absurd c.2.1 (by decide)) (by omega) fin
      · cases hc
  | ge =>
    simp only [cmpD] at hc
    split at hc
    · cases hc
      cases lx.int; cases ly.int
      obtain ⟨t, rfl⟩ := rx
      obtain ⟨t', rfl⟩ := ry
      exact ge_int fin
    · split at hc
      · rename_i c
        cases hc
        simp only [ltOk, Bool.and_eq_true, decide_eq_true_eq] at c
        exact PySem.W.ge_data r1 r2 c.1 (by rintro rfl; exact absurd c.2.1 (by decide)) (by omega) fin
      · cases hc
  | is =>
    simp only [cmpD] at hc
    split at hc
    · cases hc
      cases lx.bool; cases ly.bool
      exact op_is_bl pins s σ g.H _ _ v u Q I rx ry ⟨_, _, rfl, rfl, q⟩
    · cases hc
      cases lx.non; cases ly.non
      exact op_isN pins s σ g.H _ _ v u Q I rx ry ⟨rfl, q⟩
    · rename_i hn
      cases hc
      cases ly.non
      refine op_isN pins s σ g.H _ _ v u Q I rx ry ⟨rfl, ?_⟩
      rw [lx.isNon]
      cases dx <;> first | exact q | exact absurd rfl hn
      exact S
    · cases hc
  | isNot =>
    simp only [cmpD] at hc
    split at hc
    · cases hc
      cases lx.bool; cases ly.bool
      exact op_isnot_bl pins s σ g.H _ _ v u Q I rx ry ⟨_, _, rfl, rfl, q⟩
    · cases hc
      cases lx.non; cases ly.non
      exact op_notN pins s σ g.H _ _ v u Q I rx ry ⟨rfl, q⟩
    · rename_i hn
      cases hc
      cases ly.non
      refine op_notN pins s σ g.H _ _ v u Q I rx ry ⟨rfl, ?_⟩
      rw [lx.isNon]
      cases dx <;> first | exact q | exact absurd rfl hn
      exact S
    · cases hc
  | in_ =>
    simp only [cmpD] at hc
    split at hc
    · split at hc
      · rename_i c
        cases hc
        simp only [inOk, Bool.and_eq_true, decide_eq_true_eq] at c
        exact PySem.SeqAt.in_list_data r2 r1 c.1 c.2.1 (by omega) fin
      · cases hc
    · split at hc
      · rename_i c
        cases hc
        simp only [inOk, Bool.and_eq_true, decide_eq_true_eq] at c
        exact PySem.SeqAt.in_tuple_data r2 r1 c.1 c.2.1 (by omega) fin
      · cases hc
    · obtain ⟨c, e, rfl⟩ := inS_some hc
      cases lx.str; cases ly.str
      subst e
      exact op_in_sign pins s σ g.H _ _ v u Q I rx ry ⟨c, _, rfl, rfl, q⟩
    · cases hc
  | notIn =>
    simp only [cmpD] at hc
    split at hc
    · split at hc
      · rename_i c
        cases hc
        simp only [inOk, Bool.and_eq_true, decide_eq_true_eq] at c
        exact PySem.SeqAt.notIn_list_data r2 r1 c.1 c.2.1 (by omega) fin
      · cases hc
    · split at hc
      · rename_i c
        cases hc
        simp only [inOk, Bool.and_eq_true, decide_eq_true_eq] at c
        exact PySem.SeqAt.notIn_tuple_data r2 r1 c.1 c.2.1 (by omega) fin
      · cases hc
    · rw [Option.map_eq_some_iff] at hc
      obtain ⟨k0, hc, rfl⟩ := hc
      obtain ⟨c, e, rfl⟩ := inS_some hc
      cases lx.str; cases ly.str
      subst e
      exact op_notIn_sign pins s σ g.H _ _ v u Q I rx ry ⟨c, _, rfl, rfl, q⟩
    · cases hc
end
end Pd
end

set_option maxHeartbeats 200000
section
/-! Pd5: expressions keep the evaluator's word, part one. Own work, session 1. -/
namespace Pd
open PySem PySem.Spec PyProof.Rows L2

theorem starEach_plain {e : Expr} {es : List Expr} {env : Env} (h : plainArg e = true) : starEach (e :: es) env = (false, eval e env) :: starEach es env := by
  cases e <;> first | rfl | (simp [plainArg] at h)
theorem any_backTo {pos : Pos} {env : Env} : ∀ {es : List Expr}, (∀ e ∈ es, plainArg e = true) → (backTo pos (starEach es env)).any (·.1) = false
  | [], _ => rfl
  | e :: es, h => by
    rw [starEach_plain (h e List.mem_cons_self)]
    show (false || (backTo pos (starEach es env)).any (·.1)) = false
    rw [any_backTo fun x hx => h x (List.mem_cons_of_mem _ hx)]; rfl
theorem isVis_vis {o : Option NameKind} (h : isVis o = true) : o = some .local ∨ o = some .cell ∨ o = some .free := by
  cases o with
  | none => cases h
  | some k => cases k <;> simp [isVis] at h ⊢
theorem isLoc_loc {o : Option NameKind} (h : isLoc o = true) : o = some .local ∨ o = some .cell := by
  cases o with
  | none => cases h
  | some k => cases k <;> simp [isLoc] at h ⊢
theorem isGlo_glo {o : Option NameKind} (h : isGlo o = true) : o = some .globalImplicit := by
  cases o with
  | none => cases h
  | some k => cases k <;> simp [isGlo] at h ⊢
theorem idx_get : ∀ {N : List Str} {x : Str} {i : Nat}, idx N x = some i → N[i]? = some x
  | [], _, _, h => by cases h
  | y :: r, x, i, h => by
    unfold idx at h
    split at h
    · rename_i e
      cases h
      simp [e]
    · rw [Option.map_eq_some_iff] at h
      obtain ⟨j, h, rfl⟩ := h
      simpa using idx_get h
/-- the walkers' and the testers' names -/
def known (x : Str) : Bool := (biOf x).isSome || ((tyOf x).isSome || (decide (x = "range") || (decide (x = "enumerate") || (decide (x = "zip") || decide (x = "isinstance")))))
/-- a def's promise: the run of m -/
def spF (B : Bk) (n : Nat) (m : List W → M W) : Sp := fun vs H Q E => vs.length = n ∧ ∃ ws S g, g.H = H ∧ Rep B S g ∧ WVs B g vs ws ∧ Aft B E g (m ws S) fun w S' g' => ∀ v, WV B g' v w → Q v g'.H
/-- what stands around the code: the module, the names, the defs at hand -/
structure Cxt (X : Cx) (B : Bk) (Wx : XK) (c : Cc) (sc : Scope) (ft : Ft) : Prop where
  K : X.K = B.K
  P : X.prog = B.P
  w : X.w = B.w
  mg : X.mg = B.mg
  calm : X.calm = true
  N : X.N = c.N
  nd : c.N.Nodup
  sc : X.env.scope = sc
  room : Room 0 X.A
  take : Takes X (fun cls d _ H => Wx cls d H)
  consts : ∀ x d, c.consts.lookup x = some d → ∃ v u, B.mg x = some u ∧ RelV v u ∧ ∀ F, DV B.K F v d
  excs : ∀ x, c.excs.contains x = true → ∃ C, B.mg x = some (.ref C) ∧ PySem.W.keepIn B.K (.ref C) = true ∧ PySem.W.subIn B.K (.ref C) (.type "BaseException") = some true ∧ PySem.W.typeIn B.K (.ref C) = some (.type "type") ∧ PySem.W.excIn B.K C [.type "ValueError", .type "Exception", .type "BaseException", .type "object"] "ValueError.__new__" = true
  blts : ∀ x, known x = true → idx c.fns x = none → c.consts.lookup x = none → B.mg x = none
  fns : ∀ x j, idx c.fns x = some j → ∃ f fd ps k, B.mg x = some (.ref f) ∧ PySem.W.keepIn B.K (.ref f) = true ∧ Binds B.K fd ps [] ∧ Room k X.A ∧ FnOk X.prog X.w X.K X.mg X.base (L2.CX X.prog X.w) k f fd ps (spF B ps.length (ft.fn j)) ∧ ∀ ws S, ft.fn j ws S ≠ .no → ws.length = ps.length
  lam : c.attf ≠ [] → ∃ (c0 P0 : Addr) (k : Nat), X.env.code = .ref c0 ∧ LamX.TabB X.base X.mg c0 P0 ∧ (P0, X.env.qual ++ "<lambda>") ∈ B.T ∧ (∀ p ∈ B.T, p.1 = P0 → p.2 = X.env.qual ++ "<lambda>") ∧ Room (k + 2) X.A ∧
    ∀ x j, idx c.fns x = some j → ∃ f fd ps, B.mg x = some (.ref f) ∧ PySem.W.keepIn B.K (.ref f) = true ∧ Binds B.K fd ps [] ∧ FnOk X.prog X.w X.K X.mg X.base (L2.CX X.prog X.w) k f fd ps (spF B ps.length (ft.fn j)) ∧ ∀ ws S, ft.fn j ws S ≠ .no → ws.length = ps.length
section
variable {X : Cx} {B : Bk} {Wx : XK} {c : Cc} {sc : Scope} {ft : Ft}
theorem Cxt.glo (C : Cxt X B Wx c sc ft) {x : Str} (h : isGlo (sc.names.lookup x) = true) : Gl X x := by
  show X.env.scope.names.lookup x = _
  rw [C.sc]; exact isGlo_glo h
theorem Cxt.blt (C : Cxt X B Wx c sc ft) {x : Str} (h : isBlt c sc x = true) (hk : known x = true) : Gl X x ∧ X.mg x = none ∧ (x == ("__debug__" : Str)) = false ∧ x ≠ "__name__" := by
  simp only [isBlt, Bool.and_eq_true, Bool.not_eq_true', decide_eq_false_iff_not, Option.isNone_iff_eq_none] at h
  obtain ⟨⟨⟨h1, h2, h3⟩, h4⟩, h5⟩ := h
  exact ⟨C.glo h1, by rw [C.mg]; exact C.blts x hk h2 h3, by simpa using h4, h5⟩

/-! ### names and constants -/
theorem e_var (C : Cxt X B Wx c sc ft) {x : Str} {pos : Pos} {i : Nat} (hv : isVis (sc.names.lookup x) = true) (hd : x ≠ "__debug__") (hcd : x ≠ "__classdict__") (hi : idx c.N x = some i) :
    PE X (.Name x pos) (tE B Wx (evE ft (.var i))) := by
  refine pe_imp (pe_var (by rw [C.N]; exact idx_get hi) (by show X.env.scope.names.lookup x = _ ∨ _; rw [C.sc]; exact isVis_vis hv) (by simpa using hd) (by simpa using hcd)) fun σ H Q h => ?_
  obtain ⟨ρ, S, g, rfl, R, E, h⟩ := h
  simp only [evE] at h
  obtain ⟨w, hw, h⟩ := h.opt R
  obtain ⟨v, h1, h2⟩ := E.2 i w (Rho.at_some hw)
  exact ⟨v, h1, h v h2⟩
theorem e_tC {e : Expr} {v : V} {d : D} (h : PE X e (tC v)) (hd : ∀ F, DV B.K F v d) : PE X e (tE B Wx (evE ft (.cst d))) := by
  refine pe_imp h fun σ H Q h => ?_
  obtain ⟨ρ, S, g, rfl, R, E, h⟩ := h
  simp only [evE] at h
  exact h.pure R v (.d (hd _))
theorem e_glo (C : Cxt X B Wx c sc ft) {x : Str} {pos : Pos} {d : D} (hg : isGlo (sc.names.lookup x) = true) (hd : x ≠ "__debug__") (hc : c.consts.lookup x = some d) : PE X (.Name x pos) (tE B Wx (evE ft (.cst d))) := by
  obtain ⟨v, u, h1, h2, h3⟩ := C.consts x d hc
  exact e_tC (pe_glob (C.glo hg) (by rw [C.mg]; exact h1) h2 (by simpa using hd)) h3

/-! ### argument lists -/
theorem a_nil : PA X [] (tAs B Wx (evEs ft .nil)) := pa_imp pa_nil fun σ H Q h => by
  obtain ⟨ρ, S, g, rfl, R, E, h⟩ := h
  simp only [evEs] at h
  exact h.pure R [] .nil
theorem a_cons {e : Expr} {es : List Expr} {u : E} {us : Es} (he : PE X e (tE B Wx (evE ft u))) (hs : PA X es (tAs B Wx (evEs ft us))) (hp : plainArg e = true) : PA X (e :: es) (tAs B Wx (evEs ft (.cons u us))) := by
  refine pa_imp (pa_cons he hs (starEach_plain hp)) fun σ H Q h => ?_
  obtain ⟨ρ, S, g, rfl, R, E, h⟩ := h
  simp only [evEs] at h
  refine ⟨ρ, S, g, rfl, R, E, h.bind.imp fun w S1 g1 e1 R1 h1 v hv => ?_⟩
  refine ⟨ρ, S1, g1, rfl, R1, E.ext e1, h1.bind.imp fun ws S2 g2 e2 R2 h2 vs hvs => ?_⟩
  exact h2.pure R2 _ (.cons (hv.ext e2) hvs)
theorem a_of {f : Expr → Option E} (hf : ∀ e u, f e = some u → PE X e (tE B Wx (evE ft u))) : ∀ {es : List Expr} {us : Es}, cL f es = some us → PA X es (tAs B Wx (evEs ft us)) ∧ ∀ e ∈ es, plainArg e = true
  | [], us, h => by cases h; exact ⟨a_nil, fun _ z => nomatch z⟩
  | e :: es, us, h => by
    unfold cL at h
    split at h
    · rename_i hp
      rw [Option.bind_eq_some_iff] at h
      obtain ⟨u, hu, h⟩ := h
      rw [Option.map_eq_some_iff] at h
      obtain ⟨vs, hv, rfl⟩ := h
      obtain ⟨q1, q2⟩ := a_of hf hv
      exact ⟨a_cons (hf _ _ hu) q1 hp, fun x hx => (List.mem_cons.mp hx).elim (fun z => z ▸ hp) (q2 x)⟩
    · cases h
/-- a list of values as data for good -/
theorem Aft.toDs' : ∀ {ws : List W} {vs : List V} {S : S} {g : Gh} {P : List D → Pd.S → Gh → Prop}, Aft B Wx g (Pd.toDs ws S) P → Rep B S g → WVs B g vs ws →
    ∃ xs S' g', Ext g g' ∧ Rep B S' g' ∧ g'.H = g.H ∧ DVs B.K g'.F vs xs ∧ P xs S' g'
  | [], _, S, g, P, h, R, .nil => ⟨[], S, g, .refl, R, rfl, .nil, h.pure R⟩
  | w :: ws, _, S, g, P, h, R, .cons r rs => by
    obtain ⟨x, S1, g1, e1, R1, hH, _, d, h⟩ := (Aft.bind (m := Pd.toD w) h).toD R r
    obtain ⟨xs, S2, g2, e2, R2, hH2, ds, h⟩ := Aft.toDs' (Aft.bind (m := Pd.toDs ws) h) R1 (rs.ext e1)
    exact ⟨_, S2, g2, e1.trans e2, R2, hH2.trans hH, .cons (e2.sub.dv d) ds, h.pure R2⟩
theorem Aft.small {xs : List D} {S : S} {g : Gh} {P : List D → Pd.S → Gh → Prop} (h : Aft B Wx g (Pd.small xs S) P) (R : Rep B S g) : xs.length ≤ big ∧ P xs S g := by
  unfold Pd.small at h
  split at h
  · exact ⟨by assumption, h.pure R⟩
  · exact h.elim
theorem e_tup {es : List Expr} {us : Es} {k : Nat} {pos : Pos} (hs : PA X es (tAs B Wx (evEs ft us))) : PE X (.Tuple es k pos) (tE B Wx (evE ft (.tup us))) := by
  refine pe_imp (pe_tup hs) fun σ H Q h => ?_
  obtain ⟨ρ, S, g, rfl, R, E, h⟩ := h
  simp only [evE] at h
  refine ⟨ρ, S, g, rfl, R, E, h.bind.imp fun ws S1 g1 e1 R1 h1 vs hvs => ?_⟩
  obtain ⟨xs, S2, g2, e2, R2, hH, ds, h2⟩ := (Aft.bind (m := Pd.toDs ws) h1).toDs' R1 hvs
  obtain ⟨hz, h3⟩ := (Aft.bind (m := small xs) h2).small R2
  refine ⟨by rw [ds.length]; exact Nat.le_trans hz big_le, fun p hp => ?_⟩
  rw [← hH] at hp ⊢
  obtain ⟨e3, R3⟩ := R2.new (o := .tup vs) hp (fun _ z => nomatch z)
  exact h3 _ e3 R3 (.ref p) (.d (.tup (SqT.of upd_same) (e3.sub.dvs ds)))
theorem e_lst {es : List Expr} {us : Es} {pos : Pos} (hs : PA X es (tAs B Wx (evEs ft us))) : PE X (.List es pos) (tE B Wx (evE ft (.lst us))) := by
  refine pe_imp (pe_lst hs) fun σ H Q h => ?_
  obtain ⟨ρ, S, g, rfl, R, E, h⟩ := h
  simp only [evE] at h
  refine ⟨ρ, S, g, rfl, R, E, h.bind.imp fun ws S1 g1 e1 R1 h1 vs hvs => ?_⟩
  obtain ⟨xs, S2, g2, e2, R2, hH, ds, h2⟩ := (Aft.bind (m := Pd.toDs ws) h1).toDs' R1 hvs
  obtain ⟨hz, h3⟩ := (Aft.bind (m := small xs) h2).small R2
  refine ⟨by rw [ds.length]; exact Nat.le_trans hz big_le, fun p hp => ?_⟩
  rw [← hH] at hp ⊢
  obtain ⟨e3, R3⟩ := R2.new (o := .lst vs) hp (fun _ z => nomatch z)
  exact h3 _ e3 R3 (.ref p) (.d (.lst upd_same (e3.sub.dvs ds)))
/-- a new list on hand -/
theorem Aft.alloc {xs : List D} {vs : List V} {S : S} {g : Gh} {P : W → Pd.S → Gh → Prop} (h : Aft B Wx g (Pd.alloc xs S) P) (R : Rep B S g) {p : Addr} (hp : g.H p = none) (d : DVs B.K g.F vs xs) :
    ∃ w S' g', Ext g g' ∧ Rep B S' g' ∧ g'.H = upd g.H p (.lst vs) ∧ WV B g' (.ref p) w ∧ P w S' g' := by
  obtain ⟨e3, R3⟩ := R.mut hp d
  refine ⟨_, _, _, e3, R3, rfl, .mu ?_, h _ e3 R3⟩
  show (g.M ++ [p])[S.length]? = some p
  rw [List.getElem?_append_right (by rw [R.len]; omega), R.len]; simp
theorem e_mlst {es : List Expr} {us : Es} {pos : Pos} (hs : PA X es (tAs B Wx (evEs ft us))) : PE X (.List es pos) (tE B Wx (evE ft (.mlst us))) := by
  refine pe_imp (pe_lst hs) fun σ H Q h => ?_
  obtain ⟨ρ, S, g, rfl, R, E, h⟩ := h
  simp only [evE] at h
  refine ⟨ρ, S, g, rfl, R, E, h.bind.imp fun ws S1 g1 e1 R1 h1 vs hvs => ?_⟩
  obtain ⟨xs, S2, g2, e2, R2, hH, ds, h2⟩ := (Aft.bind (m := Pd.toDs ws) h1).toDs' R1 hvs
  obtain ⟨hz, h3⟩ := (Aft.bind (m := small xs) h2).small R2
  refine ⟨by rw [ds.length]; exact Nat.le_trans hz big_le, fun p hp => ?_⟩
  rw [← hH] at hp ⊢
  obtain ⟨w, S', g', e3, R3, hH3, r, h4⟩ := h3.alloc R2 hp ds
  rw [← hH3]
  exact h4 _ r

/-! ### operators -/
theorem e_bin (hK : X.K = B.K) {a b : Expr} {u v : E} {o : Bop} {pos : Pos} (ha : PE X a (tE B Wx (evE ft u))) (hb : PE X b (tE B Wx (evE ft v))) : PE X (.BinOp a (opOf o) b pos) (tE B Wx (evE ft (.bin o u v))) := by
  refine pe_imp (pe_op (or_bin hK o) ha hb) fun σ H Q h => ?_
  obtain ⟨ρ, S, g, rfl, R, E, h⟩ := h
  simp only [evE] at h
  refine ⟨ρ, S, g, rfl, R, E, h.bind.imp fun w1 S1 g1 e1 R1 h1 v1 r1 => ⟨ρ, S1, g1, rfl, R1, E.ext e1, h1.bind.imp fun w2 S2 g2 e2 R2 h2 v2 r2 => ?_⟩⟩
  obtain ⟨x, lx, h3⟩ := (Aft.bind (m := look w1) h2).look R2 (r1.ext e2)
  obtain ⟨y, ly, h4⟩ := (Aft.bind (m := look w2) h3).look R2 r2
  obtain ⟨z, hz, h5⟩ := (Aft.bind (m := opt _) h4).opt R2
  exact ⟨S2, g2, x, y, z, rfl, R2, lx, ly, hz, fun v g' e R' d => h5 g' e R' v (.d d)⟩
theorem e_mcat {a b : Expr} {u v : E} {pos : Pos} (ha : PE X a (tE B Wx (evE ft u))) (hb : PE X b (tE B Wx (evE ft v))) : PE X (.BinOp a .Add b pos) (tE B Wx (evE ft (.mcat u v))) := by
  refine pe_imp (pe_op op_cat ha hb) fun σ H Q h => ?_
  obtain ⟨ρ, S, g, rfl, R, E, h⟩ := h
  simp only [evE] at h
  refine ⟨ρ, S, g, rfl, R, E, h.bind.imp fun w1 S1 g1 e1 R1 h1 v1 r1 => ⟨ρ, S1, g1, rfl, R1, E.ext e1, h1.bind.imp fun w2 S2 g2 e2 R2 h2 v2 r2 => ?_⟩⟩
  obtain ⟨x, lx, h3⟩ := (Aft.bind (m := look w1) h2).look R2 (r1.ext e2)
  obtain ⟨y, ly, h4⟩ := (Aft.bind (m := look w2) h3).look R2 r2
  split at h4
  · obtain ⟨a, vs, rfl, ha, da⟩ := lx.lst R2
    obtain ⟨b, ws, rfl, hb, db⟩ := ly.lst R2
    obtain ⟨hz, h5⟩ := (Aft.bind (m := small _) h4).small R2
    rw [List.length_append, ← da.length, ← db.length] at hz
    refine ⟨a, b, vs, ws, rfl, rfl, ha, hb, Nat.le_trans hz big_le, fun p hp => ?_⟩
    obtain ⟨w, S', g', e3, R3, hH3, r, h6⟩ := h5.alloc R2 hp (da.append db)
    rw [← hH3]
    exact h6 _ r
  · exact h4.elim
theorem Aft.isI {w : W} {v : V} {S : S} {g : Gh} {P : Int → Pd.S → Gh → Prop} (h : Aft B Wx g (Pd.isI w S) P) (R : Rep B S g) (r : WV B g v w) : ∃ i, w = .d (.int i) ∧ v = .int i ∧ P i S g := by
  unfold Pd.isI at h
  split at h
  · exact ⟨_, rfl, wv_int r, h.pure R⟩
  · exact h.elim
theorem Aft.isB {w : W} {v : V} {S : S} {g : Gh} {P : Bool → Pd.S → Gh → Prop} (h : Aft B Wx g (Pd.isB w S) P) (R : Rep B S g) (r : WV B g v w) : ∃ i, w = .d (.bool i) ∧ v = .bl i ∧ P i S g := by
  unfold Pd.isB at h
  split at h
  · exact ⟨_, rfl, wv_bl r, h.pure R⟩
  · exact h.elim
theorem e_neg {a : Expr} {u : E} {pos : Pos} (ha : PE X a (tE B Wx (evE ft u))) : PE X (.UnaryOp .USub a pos) (tE B Wx (evE ft (.neg u))) := by
  refine pe_imp (pe_un un_neg ha) fun σ H Q h => ?_
  obtain ⟨ρ, S, g, rfl, R, E, h⟩ := h
  simp only [evE] at h
  refine ⟨ρ, S, g, rfl, R, E, h.bind.imp fun w1 S1 g1 e1 R1 h1 v1 r1 => ?_⟩
  obtain ⟨i, rfl, rfl, h2⟩ := (Aft.bind (m := isI w1) h1).isI R1 r1
  exact ⟨i, rfl, h2.pure R1 _ (.d (.int _))⟩
theorem e_not {a : Expr} {u : E} {pos : Pos} (ha : PE X a (tE B Wx (evE ft u))) : PE X (.UnaryOp .Not a pos) (tE B Wx (evE ft (.not u))) := by
  refine pe_imp (pe_not ha) fun σ H Q h => ?_
  obtain ⟨ρ, S, g, rfl, R, E, h⟩ := h
  simp only [evE] at h
  refine ⟨ρ, S, g, rfl, R, E, h.bind.imp fun w1 S1 g1 e1 R1 h1 v1 r1 => ?_⟩
  obtain ⟨i, rfl, rfl, h2⟩ := (Aft.bind (m := isB w1) h1).isB R1 r1
  exact ⟨i, rfl, h2.pure R1 _ (.d (.bl _))⟩
theorem e_and {a b : Expr} {r : List Expr} {u v : E} {pos : Pos} (ha : PE X a (tE B Wx (evE ft u))) (hb : PE X (.BoolOp .And (b :: r) pos) (tE B Wx (evE ft v))) : PE X (.BoolOp .And (a :: b :: r) pos) (tE B Wx (evE ft (.and u v))) := by
  refine pe_imp (pe_and ha hb) fun σ H Q h => ?_
  obtain ⟨ρ, S, g, rfl, R, E, h⟩ := h
  simp only [evE] at h
  refine ⟨ρ, S, g, rfl, R, E, h.bind.imp fun w1 S1 g1 e1 R1 h1 v1 r1 => ?_⟩
  obtain ⟨i, rfl, rfl, h2⟩ := (Aft.bind (m := isB w1) h1).isB R1 r1
  refine ⟨i, rfl, ?_⟩
  cases i with
  | true => exact ⟨ρ, S1, g1, rfl, R1, E.ext e1, h2⟩
  | false => exact h2.pure R1 _ (.d (.bl _))
theorem e_or {a b : Expr} {r : List Expr} {u v : E} {pos : Pos} (ha : PE X a (tE B Wx (evE ft u))) (hb : PE X (.BoolOp .Or (b :: r) pos) (tE B Wx (evE ft v))) : PE X (.BoolOp .Or (a :: b :: r) pos) (tE B Wx (evE ft (.or u v))) := by
  refine pe_imp (pe_or ha hb) fun σ H Q h => ?_
  obtain ⟨ρ, S, g, rfl, R, E, h⟩ := h
  simp only [evE] at h
  refine ⟨ρ, S, g, rfl, R, E, h.bind.imp fun w1 S1 g1 e1 R1 h1 v1 r1 => ?_⟩
  obtain ⟨i, rfl, rfl, h2⟩ := (Aft.bind (m := isB w1) h1).isB R1 r1
  refine ⟨i, rfl, ?_⟩
  cases i with
  | true => exact h2.pure R1 _ (.d (.bl _))
  | false => exact ⟨ρ, S1, g1, rfl, R1, E.ext e1, h2⟩
/-! ### tests -/
def evT (ft : Ft) (u : E) : Rho → M Bool := fun ρ => do let w ← evE ft u ρ; isB w
theorem t_val {e : Expr} {u : E} (ha : PE X e (tE B Wx (evE ft u))) (he : ∀ whole, isTrue e X.env whole = (do let v ← whole; standAt e.pos; holding [v] (truthy v))) : PT X e (tB' B Wx (evT ft u)) := by
  refine pt_imp (pt_val ha he) fun σ H Q h => ?_
  obtain ⟨ρ, S, g, rfl, R, E, h⟩ := h
  refine ⟨ρ, S, g, rfl, R, E, (Aft.bind (m := evE ft u ρ) h).imp fun w1 S1 g1 e1 R1 h1 v1 r1 => ?_⟩
  obtain ⟨i, rfl, rfl, h2⟩ := h1.isB R1 r1
  exact ⟨i, rfl, h2⟩
theorem bindA {α β γ : Type} (m : M α) (f : α → M β) (k : β → M γ) : ((m >>= f) >>= k) = (m >>= fun a => f a >>= k) := by
  funext S
  show M.andThen (M.andThen m f) k S = M.andThen m (fun a => M.andThen (f a) k) S
  unfold M.andThen
  cases m S <;> rfl
theorem pureB {α β : Type} (a : α) (f : α → M β) : ((Pure.pure a : M α) >>= f) = f a := rfl
theorem isB_bl (b : Bool) : isB (.d (.bool b)) = Pure.pure b := rfl
theorem evT_not (u : E) (ρ : Rho) : evT ft (.not u) ρ = (do let b ← evT ft u ρ; pure (!b)) := by
  unfold evT
  simp only [evE, bindA, pureB, isB_bl]
theorem evT_and (u v : E) (ρ : Rho) : evT ft (.and u v) ρ = (do let b ← evT ft u ρ; if b then evT ft v ρ else pure false) := by
  unfold evT
  simp only [evE, bindA]
  congr 1; funext w; congr 1; funext b
  cases b <;> simp [pureB, isB_bl]
theorem evT_or (u v : E) (ρ : Rho) : evT ft (.or u v) ρ = (do let b ← evT ft u ρ; if b then pure true else evT ft v ρ) := by
  unfold evT
  simp only [evE, bindA]
  congr 1; funext w; congr 1; funext b
  cases b <;> simp [pureB, isB_bl]
theorem t_not {a : Expr} {u : E} {pos : Pos} (ha : PT X a (tB' B Wx (evT ft u))) : PT X (.UnaryOp .Not a pos) (tB' B Wx (evT ft (.not u))) := by
  refine pt_imp (pt_not ha) fun σ H Q h => ?_
  obtain ⟨ρ, S, g, rfl, R, E, h⟩ := h
  rw [evT_not] at h
  exact ⟨ρ, S, g, rfl, R, E, h.bind.imp fun b S1 g1 e1 R1 h1 => h1.pure R1⟩
theorem w_and {a b : Expr} {r : List Expr} {u v : E} {pos : Pos} (ha : PT X a (tB' B Wx (evT ft u))) (hb : PW X (.BoolOp .And (b :: r) pos) (tB' B Wx (evT ft v))) : PW X (.BoolOp .And (a :: b :: r) pos) (tB' B Wx (evT ft (.and u v))) := by
  refine pw_imp (pw_and ha hb) fun σ H Q h => ?_
  obtain ⟨ρ, S, g, rfl, R, E, h⟩ := h
  rw [evT_and] at h
  refine ⟨ρ, S, g, rfl, R, E, h.bind.imp fun b S1 g1 e1 R1 h1 => ?_⟩
  cases b with
  | true => exact ⟨ρ, S1, g1, rfl, R1, E.ext e1, h1⟩
  | false => exact h1.pure R1
theorem w_or {a b : Expr} {r : List Expr} {u v : E} {pos : Pos} (ha : PT X a (tB' B Wx (evT ft u))) (hb : PW X (.BoolOp .Or (b :: r) pos) (tB' B Wx (evT ft v))) : PW X (.BoolOp .Or (a :: b :: r) pos) (tB' B Wx (evT ft (.or u v))) := by
  refine pw_imp (pw_or ha hb) fun σ H Q h => ?_
  obtain ⟨ρ, S, g, rfl, R, E, h⟩ := h
  rw [evT_or] at h
  refine ⟨ρ, S, g, rfl, R, E, h.bind.imp fun b S1 g1 e1 R1 h1 => ?_⟩
  cases b with
  | true => exact h1.pure R1
  | false => exact ⟨ρ, S1, g1, rfl, R1, E.ext e1, h1⟩
theorem e_ite {t a b : Expr} {u v w : E} {pos : Pos} (ht : PT X t (tB' B Wx (evT ft u))) (ha : PE X a (tE B Wx (evE ft v))) (hb : PE X b (tE B Wx (evE ft w))) : PE X (.IfExp t a b pos) (tE B Wx (evE ft (.ite u v w))) := by
  refine pe_imp (pe_ifExp ht ha hb) fun σ H Q h => ?_
  obtain ⟨ρ, S, g, rfl, R, E, h⟩ := h
  simp only [evE] at h
  rw [← bindA] at h
  refine ⟨ρ, S, g, rfl, R, E, (Aft.bind (m := evT ft u ρ) h).imp fun b S1 g1 e1 R1 h1 => ?_⟩
  cases b with
  | true => exact ⟨ρ, S1, g1, rfl, R1, E.ext e1, h1⟩
  | false => exact ⟨ρ, S1, g1, rfl, R1, E.ext e1, h1⟩

/-! ### comparisons -/
theorem valAt_rel {F : Hp} {K : Kf} : ∀ {ks : List (Key × V)} {kvs : List (D × D)} {k : Key} {x : D}, Paired (fun (p : Key × V) (q : D × D) => DV K F (kV p.1) q.1 ∧ DV K F p.2 q.2) ks kvs → DV K F (kV k) x →
    match valAt kvs x with
    | some z => ∃ v, valV ks k = some v ∧ DV K F v z
    | none => valV ks k = none
  | _, _, k, x, .nil, hk => rfl
  | _, _, k, x, .cons (a := p) (b := q) h t, hk => by
    have ih := valAt_rel t hk
    have e : decide (p.1 = k) = PyData.eqv q.1 x := by
      obtain ⟨h1, _⟩ := h
      obtain ⟨k1, v1⟩ := p
      obtain ⟨d1, z1⟩ := q
      simp only at h1
      cases k1 with
      | inl i =>
        cases h1
        cases k with
        | inl j =>
          cases hk
          rw [Bool.eq_iff_iff]
          simp [PyData.eqv]
        | inr y =>
          cases hk
          simp [PyData.eqv]
      | inr i =>
        cases h1
        cases k with
        | inl j =>
          cases hk
          simp [PyData.eqv]
        | inr y =>
          cases hk
          rw [Bool.eq_iff_iff]
          simp [PyData.eqv]
    unfold valAt valV at ih ⊢
    rw [List.find?_cons, List.find?_cons, e]
    cases PyData.eqv q.1 x with
    | true => exact ⟨_, rfl, h.2⟩
    | false => exact ih
theorem key_of_dv {K : Kf} {F : Hp} {v : V} {x : D} (h : DV K F v x) (hk : keyOk x = true) : ∃ k : Key, v = kV k := by
  cases h with
  | int i => exact ⟨.inl i, rfl⟩
  | str i => exact ⟨.inr i, rfl⟩
  | _ => cases hk
theorem LV.key {g : Gh} {v : V} {x : D} (h : LV B g v x) (hk : keyOk x = true) : DV B.K g.F v x := by
  rcases h with h | ⟨_, _, _, _, rfl, _⟩
  · exact h
  · cases hk
/-- a dict at hand, a key -/
theorem dget_of {S : S} {g : Gh} {a : Addr} {kvs : List (D × D)} {ks : List (Key × V)} {y : V} {x : D} (R : Rep B S g) (h : g.F a = some (.dK ks)) (p : Paired (fun (p : Key × V) (q : D × D) => DV B.K g.F (kV p.1) q.1 ∧ DV B.K g.F p.2 q.2) ks kvs) (hx : DV B.K g.F y x)
    (hk : keyOk x = true) : ∃ o, DGet g.H a y o ∧ match valAt kvs x with
    | some z => ∃ v, o = some v ∧ DV B.K g.F v z
    | none => o = none := by
  obtain ⟨k, rfl⟩ := key_of_dv hx hk
  refine ⟨valV ks k, .inl ⟨ks, k, .inl (R.sub _ _ h), rfl, rfl⟩, ?_⟩
  have := valAt_rel p hx
  split at this
  · obtain ⟨v, h1, h2⟩ := this
    exact ⟨v, h1, h2⟩
  · exact this
theorem or_cmp (hK : X.K = B.K) (hu : X.A.units + 64 < cLine) (o : Cop) : OpR X (compareOp (opC o)) (rC B o) := by
  intro pins s σ H x y v u Q I rx ry h
  obtain ⟨S, g, a, b, k, rfl, R, wa, wb, hc, q⟩ := h
  have gen : ∀ {k}, (do let x ← look a; let y ← look b; opt (cmpD o x y) : M Bool) S = .ok k S → Q (.bl k) g.H → wpAny (model X.prog X.w) X.A (compareOp (opC o) v u) (EP X pins σ Q) X.xe s := fun {k} hc q => by
    obtain ⟨dx, S1, h1, h2⟩ := bind_ok hc
    obtain ⟨rfl, lx⟩ := look_ok R wa h1
    obtain ⟨dy, S2, h3, h4⟩ := bind_ok h2
    obtain ⟨rfl, ly⟩ := look_ok R wb h3
    exact or_cmpD hK o hu pins s σ g.H x y v u Q I rx ry ⟨_, g, dx, dy, k, rfl, R, lx, ly, (opt_ok h4).1, q⟩
  unfold cmpW at hc
  split at hc
  · obtain ⟨dx, S1, h1, h2⟩ := bind_ok hc
    obtain ⟨rfl, lx⟩ := look_ok R wa h1
    split at h2
    · rename_i hk
      obtain ⟨e, _⟩ := pure_ok h2
      cases wb with
      | dct ks hF hp =>
        obtain ⟨ov, hg, hm⟩ := dget_of R hF hp (lx.key hk) hk
        cases ry
        refine d_in (by omega) I hg rx fun s' I' => ⟨.bl _, g.H, I', rfl, ?_⟩
        have : ov.isSome = k := by
          rw [← e]
          split at hm
          · rename_i hv
            obtain ⟨z, rfl, _⟩ := hm
            rw [hv]; rfl
          · rename_i hv
            simp [hm, hv]
        rw [this]; exact q
    · cases h2
  · obtain ⟨dx, S1, h1, h2⟩ := bind_ok hc
    obtain ⟨rfl, lx⟩ := look_ok R wa h1
    split at h2
    · rename_i hk
      obtain ⟨e, _⟩ := pure_ok h2
      cases wb with
      | dct ks hF hp =>
        obtain ⟨ov, hg, hm⟩ := dget_of R hF hp (lx.key hk) hk
        cases ry
        refine d_notIn (by omega) I hg rx fun s' I' => ⟨.bl _, g.H, I', rfl, ?_⟩
        have : (!ov.isSome) = k := by
          rw [← e]
          split at hm
          · rename_i hv
            obtain ⟨z, rfl, _⟩ := hm
            rw [hv]; rfl
          · rename_i hv
            simp [hm, hv]
        rw [this]; exact q
    · cases h2
  · exact gen hc q
theorem look_end (w : W) (S : S) : (∃ x, look w S = .ok x S) ∨ look w S = .no := by
  unfold look
  cases w with
  | d x => exact .inl ⟨x, rfl⟩
  | «mut» n => simp only; cases S[n]? with
    | some p => exact .inl ⟨_, rfl⟩
    | none => exact .inr rfl
  | dct => exact .inr rfl
  | set => exact .inr rfl
  | scr => exact .inr rfl
theorem bind_end {α β : Type} {S : S} {m : M α} {f : α → M β} (h1 : (∃ x, m S = .ok x S) ∨ m S = .no) (h2 : ∀ x, (∃ k, f x S = .ok k S) ∨ f x S = .no) : (∃ k, (m >>= f) S = .ok k S) ∨ (m >>= f) S = .no := by
  show (∃ k, M.andThen m f S = _) ∨ M.andThen m f S = _
  unfold M.andThen
  rcases h1 with ⟨x, e⟩ | e
  · rw [e]; exact h2 x
  · rw [e]; exact .inr rfl
theorem opt_end {α : Type} (t : Option α) (S : S) : (∃ k, opt t S = .ok k S) ∨ opt t S = .no := by
  cases t with
  | none => exact .inr rfl
  | some k => exact .inl ⟨k, rfl⟩
/-- a comparison leaves all as it is -/
theorem cmpW_end (o : Cop) (a b : W) (S : S) : (∃ k, cmpW o a b S = .ok k S) ∨ cmpW o a b S = .no := by
  unfold cmpW
  split
  · refine bind_end (look_end _ _) fun x => ?_
    split
    · exact .inl ⟨_, rfl⟩
    · exact .inr rfl
  · refine bind_end (look_end _ _) fun x => ?_
    split
    · exact .inl ⟨_, rfl⟩
    · exact .inr rfl
  · exact bind_end (look_end _ _) fun x => bind_end (look_end _ _) fun y => opt_end _ _
theorem Aft.cmp {o : Cop} {a b : W} {S : S} {g : Gh} {P : Bool → Pd.S → Gh → Prop} (h : Aft B Wx g (cmpW o a b S) P) : ∃ k, cmpW o a b S = .ok k S ∧ Aft B Wx g (.ok k S) P := by
  rcases cmpW_end o a b S with ⟨k, e⟩ | e
  · rw [e] at h; exact ⟨k, e, h⟩
  · rw [e] at h; exact h.elim
theorem cmp_read {a b : Expr} {u v : E} {o : Cop} (σ : L2.St) (H : Hp) (Q : VK) (h : tE B Wx (evE ft (.cmp o u v)) σ H Q) : tOp (rC B o) (tE B Wx (evE ft u)) (tE B Wx (evE ft v)) σ H Q := by
  obtain ⟨ρ, S, g, rfl, R, E, h⟩ := h
  simp only [evE] at h
  refine ⟨ρ, S, g, rfl, R, E, h.bind.imp fun w1 S1 g1 e1 R1 h1 v1 r1 => ⟨ρ, S1, g1, rfl, R1, E.ext e1, h1.bind.imp fun w2 S2 g2 e2 R2 h2 v2 r2 => ?_⟩⟩
  obtain ⟨k, e, h3⟩ := (Aft.bind (m := cmpW o w1 w2) h2).cmp
  exact ⟨S2, g2, w1, w2, k, rfl, R2, r1.ext e2, r2, e, h3 _ .refl R2 _ .refl R2 _ (.d (.bl _))⟩
theorem e_cmp (hK : X.K = B.K) (hu : X.A.units + 64 < cLine) {a b : Expr} {u v : E} {o : Cop} {pos : Pos} (ha : PE X a (tE B Wx (evE ft u))) (hb : PE X b (tE B Wx (evE ft v))) (hm : behindInMarks (opC o) b = false) :
    PE X (.Compare a [opC o] [b] pos) (tE B Wx (evE ft (.cmp o u v))) := pe_imp (pe_cmpR (or_cmp hK hu o) ha hb hm) fun σ H Q h => cmp_read (a := a) (b := b) σ H Q h
theorem tT_of {u : E} {r : TE} (hr : ∀ σ H Q, tE B Wx (evE ft u) σ H Q → r σ H Q) (σ : L2.St) (H : Hp) (Q : Bool → Hp → Prop) (h : tB' B Wx (evT ft u) σ H Q) : tTest r σ H Q := by
  obtain ⟨ρ, S, g, rfl, R, E, h⟩ := h
  refine hr σ g.H _ ⟨ρ, S, g, rfl, R, E, (Aft.bind (m := evE ft u ρ) h).imp fun w1 S1 g1 e1 R1 h1 v1 r1 => ?_⟩
  obtain ⟨i, rfl, rfl, h2⟩ := h1.isB R1 r1
  exact ⟨i, rfl, h2⟩
theorem t_cmp (hK : X.K = B.K) (hu : X.A.units + 64 < cLine) {a b : Expr} {u v : E} {o : Cop} {pos : Pos} (ha : PE X a (tE B Wx (evE ft u))) (hb : PE X b (tE B Wx (evE ft v))) (hm : behindInMarks (opC o) b = false) :
    PT X (.Compare a [opC o] [b] pos) (tB' B Wx (evT ft (.cmp o u v))) := pt_imp (pt_cmpR (or_cmp hK hu o) ha hb hm) (tT_of fun σ H Q h => cmp_read (a := a) (b := b) σ H Q h)
theorem chain_read {u v w : E} {o p : Cop} (σ : L2.St) (H : Hp) (Q : VK) (h : tE B Wx (evE ft (.chain o p u v w)) σ H Q) : tChain (rC B o) (rC B p) (tE B Wx (evE ft u)) (tE B Wx (evE ft v)) (tE B Wx (evE ft w)) σ H Q := by
  obtain ⟨ρ, S, g, rfl, R, E, h⟩ := h
  simp only [evE] at h
  refine ⟨ρ, S, g, rfl, R, E, h.bind.imp fun w1 S1 g1 e1 R1 h1 v1 r1 => ⟨ρ, S1, g1, rfl, R1, E.ext e1, h1.bind.imp fun w2 S2 g2 e2 R2 h2 v2 r2 => ?_⟩⟩
  obtain ⟨k, e, h3⟩ := (Aft.bind (m := cmpW o w1 w2) h2).cmp
  have h4 := h3 _ .refl R2
  refine ⟨S2, g2, w1, w2, k, rfl, R2, r1.ext e2, r2, e, k, rfl, ?_⟩
  cases k with
  | false => exact (show Aft B Wx g2 (.ok _ S2) _ from h4) _ .refl R2 _ (.d (.bl _))
  | true =>
    refine ⟨ρ, S2, g2, rfl, R2, (E.ext e1).ext e2, (Aft.bind (m := evE ft w ρ) h4).imp fun w3 S3 g3 e3 R3 h5 v3 r3 => ?_⟩
    obtain ⟨k', e', h6⟩ := (Aft.bind (m := cmpW p w2 w3) h5).cmp
    exact ⟨S3, g3, w2, w3, k', rfl, R3, r2.ext e3, r3, e', h6 _ .refl R3 _ .refl R3 _ (.d (.bl _))⟩
theorem e_chain (hK : X.K = B.K) (hu : X.A.units + 64 < cLine) {a b d : Expr} {u v w : E} {o p : Cop} {pos : Pos} (ha : PE X a (tE B Wx (evE ft u))) (hb : PE X b (tE B Wx (evE ft v))) (hd : PE X d (tE B Wx (evE ft w))) (hm : lastMarks [opC o, opC p] [b, d] = false) :
    PE X (.Compare a [opC o, opC p] [b, d] pos) (tE B Wx (evE ft (.chain o p u v w))) := pe_imp (pe_chain (or_cmp hK hu o) (or_cmp hK hu p) ha hb hd hm) chain_read
theorem t_chain (hK : X.K = B.K) (hu : X.A.units + 64 < cLine) {a b d : Expr} {u v w : E} {o p : Cop} {pos : Pos} (ha : PE X a (tE B Wx (evE ft u))) (hb : PE X b (tE B Wx (evE ft v))) (hd : PE X d (tE B Wx (evE ft w))) (hm : lastMarks [opC o, opC p] [b, d] = false) :
    PT X (.Compare a [opC o, opC p] [b, d] pos) (tB' B Wx (evT ft (.chain o p u v w))) := pt_imp (pt_chain (or_cmp hK hu o) (or_cmp hK hu p) ha hb hd hm) (tT_of chain_read)
/-! ### subscripts -/
theorem subD_val {prog : Program} {w : World} {A : Around} {E : Value → Shared → Prop} {s : Shared} {value slice : Expr} {T id : String} {o i : Value} {Q : Value → Shared → Prop} (hs : subscripted slice false o i = operate [o, i] (getItem o i))
    (hl : typeLookup (.type T) "__getitem__" = pure (some (.builtin id))) (hT : s.TypeIs o T) (h : wpAny (model prog w) A (getItem o i) Q E s) : wpAny (model prog w) A (subscriptTail value slice o i) Q E s := by
  unfold subscriptTail
  refine wpAny_bind ?_
  rw [getitemInPython_of_ne hT.not_modules]
  refine wpAny_bind (wpAny_specialOf hT hl ?_)
  have fin : wpAny (model prog w) A (subscripted slice false o i) (fun r s3 => wpAny (model prog w) A (letTemporaryGo value o r >>= fun _ => pure r) Q E s3) E s := by
    rw [hs]; exact wpAny_operating (wpAny_mono h (fun _ _ q => wpAny_bind (wpAny_letTemporaryGo (wpAny_pure q))) fun _ _ x => x)
  first | exact wpAny_pure (wpAny_bind fin) | exact wpAny_bind (wpAny_pure (wpAny_bind fin)) | exact wpAny_bind fin
theorem place_ix (n : Nat) (i : Int) : L2.ixN n i = place n i := by
  unfold L2.ixN place
  rfl
theorem atI_rel {K : Kf} {F : Hp} {vs : List V} {xs : List D} {i : Int} {z : D} (d : DVs K F vs xs) (h : atD xs i = some z) : ∃ v, L2.atI vs i = some v ∧ DV K F v z := by
  unfold atD at h
  unfold L2.atI
  rw [place_ix, d.length]
  rw [Option.bind_eq_some_iff] at h
  obtain ⟨j, h1, h2⟩ := h
  obtain ⟨v, h3, h4⟩ := d.get h2
  exact ⟨v, by rw [h1]; exact h3, h4⟩
def rIxW (B : Bk) : R2 := fun x y H Q => ∃ S g a b z, g.H = H ∧ Rep B S g ∧ WV B g x a ∧ WV B g y b ∧ ixW a b S = .ok z S ∧ ∀ v, DV B.K g.F v z → Q v H
theorem plainIx_of {b : Expr} (h : ∀ lo hi st p, b ≠ .Slice lo hi st p) : NoSl b := fun o i => by
  cases b <;> first | rfl | exact absurd rfl (h _ _ _ _)
/-- a subscription, by the value -/
theorem ix_word (hK : X.K = B.K) (hu : X.A.units + 64 < cLine) : IxR X (rIxW B) := by
  intro a b pins s σ H x y o1 o2 Q I rx ry h hs
  obtain ⟨S, g, w1, w2, z, rfl, R, r1, r2, hz, q⟩ := h
  unfold ixW at hz
  split at hz
  · cases r1 with
    | dct ks hF hp =>
      obtain ⟨y', S1, h1, h2⟩ := bind_ok hz
      obtain ⟨rfl, ly⟩ := look_ok R r2 h1
      split at h2
      · rename_i hk
        obtain ⟨hz, _⟩ := opt_ok h2
        obtain ⟨ov, hg, hm⟩ := dget_of R hF hp (ly.key hk) hk
        rw [hz] at hm
        obtain ⟨v, rfl, dv⟩ := hm
        cases rx
        exact subD_val hs PySem.F.slot_dict_getitem.lookup (dict_typeIs I hg) (d_getItem (by omega) I hg ry fun w' s3 I3 rw' => ⟨v, g.H, I3, rw', q v dv⟩)
      · cases h2
  · obtain ⟨dx, S1, h1, h2⟩ := bind_ok hz
    obtain ⟨rfl, lx⟩ := look_ok R r1 h1
    obtain ⟨dy, S2, h3, h4⟩ := bind_ok h2
    obtain ⟨rfl, ly⟩ := look_ok R r2 h3
    obtain ⟨hz, _⟩ := opt_ok h4
    unfold ixD at hz
    split at hz
    · obtain ⟨p, vs, rfl, hp, dp⟩ := lx.lst R
      obtain ⟨v, hv, dv⟩ := atI_rel dp hz
      exact ix_list a b pins s σ g.H _ _ o1 o2 Q I rx ry ⟨p, vs, _, v, rfl, ly.int, SqL.of hp, hv, q v dv⟩ hs
    · obtain ⟨p, vs, rfl, hp, hp', dp⟩ := lx.tup R
      obtain ⟨v, hv, dv⟩ := atI_rel dp hz
      exact ix_tup a b pins s σ g.H _ _ o1 o2 Q I rx ry ⟨p, vs, _, v, rfl, ly.int, hK ▸ hp, hv, q v dv⟩ hs
    · cases hz
theorem ixW_end (a b : W) (S : S) : (∃ k, ixW a b S = .ok k S) ∨ ixW a b S = .no := by
  unfold ixW
  split
  · refine bind_end (look_end _ _) fun x => ?_
    split
    · exact opt_end _ _
    · exact .inr rfl
  · exact bind_end (look_end _ _) fun x => bind_end (look_end _ _) fun y => opt_end _ _
theorem e_ix (hK : X.K = B.K) (hu : X.A.units + 64 < cLine) {a b : Expr} {u v : E} {pos : Pos} (ha : PE X a (tE B Wx (evE ft u))) (hb : PE X b (tE B Wx (evE ft v))) (hs : ∀ lo hi st p, b ≠ .Slice lo hi st p) : PE X (.Subscript a b pos) (tE B Wx (evE ft (.ix u v))) := by
  refine pe_imp (pe_ix (ix_word hK hu) ha hb (plainIx_of hs)) fun σ H Q h => ?_
  obtain ⟨ρ, S, g, rfl, R, E, h⟩ := h
  simp only [evE] at h
  refine ⟨ρ, S, g, rfl, R, E, h.bind.imp fun w1 S1 g1 e1 R1 h1 v1 r1 => ⟨ρ, S1, g1, rfl, R1, E.ext e1, h1.bind.imp fun w2 S2 g2 e2 R2 h2 v2 r2 => ?_⟩⟩
  have h3 := Aft.bind (m := ixW w1 w2) h2
  rcases ixW_end w1 w2 S2 with ⟨z, e⟩ | e
  · rw [e] at h3
    exact ⟨S2, g2, w1, w2, z, rfl, R2, r1.ext e2, r2, e, fun v d => h3 _ .refl R2 _ .refl R2 v (.d d)⟩
  · rw [e] at h3
    exact h3.elim
/-! ### slices -/
def tO (B : Bk) (Wx : XK) (m : Rho → M (Option Int)) : TO := fun σ H Q => ∃ ρ S g, g.H = H ∧ Rep B S g ∧ EnvR B g σ ρ ∧ Aft B Wx g (m ρ S) fun o S' g' => Q o g'.H
theorem o_none : PO X none (tO B Wx (evO ft .none)) := ⟨fun pins s σ H Q I h => po_none.run pins s σ H Q I (by
  obtain ⟨ρ, S, g, rfl, R, E, h⟩ := h
  simp only [evO] at h
  exact h.pure R)⟩
theorem o_some {e : Expr} {u : E} (he : PE X e (tE B Wx (evE ft u))) : PO X (some e) (tO B Wx (evO ft (.some u))) := ⟨fun pins s σ H Q I h => (po_some he).run pins s σ H Q I (by
  obtain ⟨ρ, S, g, rfl, R, E, h⟩ := h
  simp only [evO] at h
  refine ⟨ρ, S, g, rfl, R, E, h.bind.imp fun w S1 g1 e1 R1 h1 v r => ?_⟩
  obtain ⟨i, rfl, rfl, h2⟩ := (Aft.bind (m := isI w) h1).isI R1 r
  exact ⟨i, rfl, h2.pure R1⟩)⟩
theorem sPl_ix (n d : Nat) (o : Option Int) : HT.sIx n d o = sPl n d o := by cases o <;> rfl
theorem cutV_rel {K : Kf} {F : Hp} {vs : List V} {xs : List D} (d : DVs K F vs xs) (lo hi : Option Int) : DVs K F (cutV vs lo hi) (cutD xs lo hi) := by
  unfold cutV cutD
  rw [d.length, sPl_ix, sPl_ix]
  exact (d.drop _).take _
theorem cutD_whole (xs : List D) (lo hi : Option Int) (h : sPl xs.length 0 lo = 0 ∧ sPl xs.length xs.length hi = xs.length) : cutD xs lo hi = xs := by
  unfold cutD
  rw [h.1, h.2]; simp
def rSl (B : Bk) : V → Option Int → Option Int → Hp → VK → Prop := fun x lo hi H Q => ∃ S g d z, g.H = H ∧ Rep B S g ∧ LV B g x d ∧ slD d lo hi = some z ∧ NewD B S g z Q
theorem sl_word (hK : X.K = B.K) : SlR X (rSl B) := by
  intro pins s σ H x v vl vu lo hi sl Q I rx hs pl pu h
  obtain ⟨S, g, d, z, rfl, R, lx, hz, q⟩ := h
  unfold slD at hz
  split at hz
  · cases hz
    obtain ⟨p, vs, rfl, hp, dp⟩ := lx.lst R
    exact sl_list pins s σ g.H _ v vl vu lo hi sl Q I rx hs pl pu ⟨p, vs, rfl, SqL.of hp, fun a ha => q.lst R ha (cutV_rel dp lo hi)⟩
  · cases hz
    obtain ⟨p, vs, rfl, hp, hp', dp⟩ := lx.tup R
    refine sl_tupA pins s σ g.H _ v vl vu lo hi sl Q I rx hs pl pu ⟨p, vs, rfl, hK ▸ hp, fun hw => ?_, fun _ a ha => q.tup R ha (cutV_rel dp lo hi)⟩
    rw [dp.length, sPl_ix, sPl_ix] at hw
    rw [cutD_whole _ _ _ hw] at q
    exact q.old R (.tup hp' dp)
  · cases hz
theorem e_sl (hK : X.K = B.K) {a : Expr} {lo hi : Option Expr} {u : E} {l h' : Oe} {pos p2 : Pos} (ha : PE X a (tE B Wx (evE ft u))) (hl : PO X lo (tO B Wx (evO ft l))) (hh : PO X hi (tO B Wx (evO ft h'))) :
    PE X (.Subscript a (.Slice lo hi none p2) pos) (tE B Wx (evE ft (.sl u l h'))) := by
  refine pe_imp (pe_slice (sl_word hK) ha hl hh) fun σ H Q h => ?_
  obtain ⟨ρ, S, g, rfl, R, E, h⟩ := h
  simp only [evE] at h
  refine ⟨ρ, S, g, rfl, R, E, h.bind.imp fun w1 S1 g1 e1 R1 h1 v1 r1 => ⟨ρ, S1, g1, rfl, R1, E.ext e1, (Aft.bind (m := evO ft l ρ) h1).imp fun o1 S2 g2 e2 R2 h2 => ⟨ρ, S2, g2, rfl, R2, (E.ext e1).ext e2, (Aft.bind (m := evO ft h' ρ) h2).imp fun o2 S3 g3 e3 R3 h3 => ?_⟩⟩⟩
  obtain ⟨x, lx, h4⟩ := (Aft.bind (m := look w1) h3).look R3 ((r1.ext e2).ext e3)
  obtain ⟨z, hz, h5⟩ := (Aft.bind (m := opt _) h4).opt R3
  exact ⟨S3, g3, x, z, rfl, R3, lx, hz, fun v g' e R' d => h5 g' e R' v (.d d)⟩
end
end Pd
end

set_option maxHeartbeats 200000
section
/-! Pd6: the built-in calls. Own work, session 1. -/
namespace Pd
open PySem PySem.Spec PyProof.Rows L2

inductive LVs (B : Bk) (g : Gh) : List V → List D → Prop
  | nil : LVs B g [] []
  | cons {v : V} {x : D} {vs : List V} {xs : List D} : LV B g v x → LVs B g vs xs → LVs B g (v :: vs) (x :: xs)
def NewW (B : Bk) (S : S) (g : Gh) (w : W) (Q : VK) : Prop := ∀ v g', Ext g g' → Rep B S g' → WV B g' v w → Q v g'.H
section
variable {X : Cx} {B : Bk} {Wx : XK}
theorem NewW.old {S : S} {g : Gh} {z : W} {Q : VK} (h : NewW B S g z Q) (R : Rep B S g) {v : V} (d : WV B g v z) : Q v g.H := h v g .refl R d
theorem NewW.d {S : S} {g : Gh} {z : D} {Q : VK} (h : NewW B S g (.d z) Q) : NewD B S g z Q := fun v g' e R d => h v g' e R (.d d)
theorem lookAll_ok : ∀ {ws : List W} {vs : List V} {S S' : Pd.S} {g : Gh} {xs : List D}, Rep B S g → WVs B g vs ws → lookAll ws S = .ok xs S' → S' = S ∧ LVs B g vs xs
  | [], _, S, S', g, xs, R, .nil, h => by
    obtain ⟨rfl, rfl⟩ := pure_ok h
    exact ⟨rfl, .nil⟩
  | w :: ws, _, S, S', g, xs, R, .cons r rs, h => by
    obtain ⟨x, S1, h1, h2⟩ := bind_ok h
    obtain ⟨rfl, lx⟩ := look_ok R r h1
    obtain ⟨ys, S2, h3, h4⟩ := bind_ok h2
    obtain ⟨rfl, ly⟩ := lookAll_ok R rs h3
    obtain ⟨rfl, rfl⟩ := pure_ok h4
    exact ⟨rfl, .cons lx ly⟩
/-- a built-in on data -/
def rBd (B : Bk) (b : Bi) : List V → Hp → VK → Prop := fun vs H Q => ∃ S g xs w, g.H = H ∧ Rep B S g ∧ LVs B g vs xs ∧ biD b xs = some w ∧ NewW B S g w Q
theorem lvs1 {g : Gh} {vs : List V} {x : D} (h : LVs B g vs [x]) : ∃ v, vs = [v] ∧ LV B g v x := by
  cases h with | cons a b => cases b; exact ⟨_, rfl, a⟩
theorem lvs2 {g : Gh} {vs : List V} {x y : D} (h : LVs B g vs [x, y]) : ∃ v u, vs = [v, u] ∧ LV B g v x ∧ LV B g u y := by
  cases h with | cons a b => cases b with | cons c d => cases d; exact ⟨_, _, rfl, a, c⟩
theorem bOf_rel {K : Kf} {F : Hp} : ∀ {xs : List D} {vs : List V} {bs : List Bool}, DVs K F vs xs → bOf xs = some bs → vs = bs.map V.bl
  | [], _, _, .nil, h => by cases h; rfl
  | .bool b :: r, _, bs, .cons d ds, h => by
    simp only [bOf, Option.map_eq_some_iff] at h
    obtain ⟨cs, h, rfl⟩ := h
    cases d
    rw [bOf_rel ds h]; rfl
  | .none :: _, _, _, _, h => by cases h
  | .int _ :: _, _, _, _, h => by cases h
  | .str _ :: _, _, _, _, h => by cases h
  | .list _ :: _, _, _, _, h => by cases h
  | .tuple _ :: _, _, _, _, h => by cases h
  | .dict _ :: _, _, _, _, h => by cases h
theorem iOf_rel {K : Kf} {F : Hp} : ∀ {xs : List D} {vs : List V} {bs : List Int}, DVs K F vs xs → iOf xs = some bs → vs = bs.map V.int ∧ xs = bs.map .int
  | [], _, _, .nil, h => by cases h; exact ⟨rfl, rfl⟩
  | .int b :: r, _, bs, .cons d ds, h => by
    simp only [iOf, Option.map_eq_some_iff] at h
    obtain ⟨cs, h, rfl⟩ := h
    cases d
    obtain ⟨h1, h2⟩ := iOf_rel ds h
    rw [h1, h2]; exact ⟨rfl, rfl⟩
  | .none :: _, _, _, _, h => by cases h
  | .bool _ :: _, _, _, _, h => by cases h
  | .str _ :: _, _, _, _, h => by cases h
  | .list _ :: _, _, _, _, h => by cases h
  | .tuple _ :: _, _, _, _, h => by cases h
  | .dict _ :: _, _, _, _, h => by cases h
variable (hK : X.K = B.K)
include hK
theorem cb_len : CallR X (.builtin "len") (rBd B .len) := by
  intro pins s σ H vs us Q I r h
  obtain ⟨S, g, xs, w, rfl, R, l, hb, q⟩ := h
  simp only [biD] at hb
  split at hb <;> (try (simp at * <;> done))
  · cases hb
    obtain ⟨v, rfl, lx⟩ := lvs1 l
    obtain ⟨a, vs, rfl, ha, da⟩ := lx.lst R
    refine call_len pins s σ g.H _ us Q I r ⟨_, _, rfl, .inl ⟨vs, SqL.of ha, rfl⟩, ?_⟩
    rw [da.length]; exact q.old R (.d (.int _))
  · cases hb
    obtain ⟨v, rfl, lx⟩ := lvs1 l
    obtain ⟨a, vs, rfl, ha, _, da⟩ := lx.tup R
    refine call_len pins s σ g.H _ us Q I r ⟨_, _, rfl, .inr ⟨vs, hK ▸ ha, rfl⟩, ?_⟩
    rw [da.length]; exact q.old R (.d (.int _))
  · split at hb
    · rename_i hz
      cases hb
      obtain ⟨v, rfl, lx⟩ := lvs1 l
      cases lx.str
      exact call_len pins s σ g.H _ us Q I r ⟨_, _, rfl, ⟨Nat.le_trans hz big_le, rfl⟩, q.old R (.d (.int _))⟩
    · cases hb
omit hK in
theorem cb_all (hc : X.calm = true) : CallR X (.builtin "all") (rBd B .all) := by
  intro pins s σ H vs us Q I r h
  obtain ⟨S, g, xs, w, rfl, R, l, hb, q⟩ := h
  simp only [biD] at hb
  split at hb <;> (try (simp at * <;> done))
  rw [Option.map_eq_some_iff] at hb
  obtain ⟨bs, h1, rfl⟩ := hb
  obtain ⟨v, rfl, lx⟩ := lvs1 l
  obtain ⟨a, vs, rfl, ha, da⟩ := lx.lst R
  cases bOf_rel da h1
  exact cr_all hc pins s σ g.H _ us Q I r ⟨a, bs, rfl, SqL.of ha, q.old R (.d (.bl _))⟩
omit hK in
theorem cb_any (hc : X.calm = true) : CallR X (.builtin "any") (rBd B .any) := by
  intro pins s σ H vs us Q I r h
  obtain ⟨S, g, xs, w, rfl, R, l, hb, q⟩ := h
  simp only [biD] at hb
  split at hb <;> (try (simp at * <;> done))
  rw [Option.map_eq_some_iff] at hb
  obtain ⟨bs, h1, rfl⟩ := hb
  obtain ⟨v, rfl, lx⟩ := lvs1 l
  obtain ⟨a, vs, rfl, ha, da⟩ := lx.lst R
  cases bOf_rel da h1
  exact cr_any hc pins s σ g.H _ us Q I r ⟨a, bs, rfl, SqL.of ha, q.old R (.d (.bl _))⟩
omit hK in
theorem cb_sum (hc : X.calm = true) : CallR X (.builtin "sum") (rBd B .sum) := by
  intro pins s σ H vs us Q I r h
  obtain ⟨S, g, xs, w, rfl, R, l, hb, q⟩ := h
  simp only [biD] at hb
  split at hb <;> (try (simp at * <;> done))
  rw [Option.map_eq_some_iff] at hb
  obtain ⟨bs, h1, rfl⟩ := hb
  obtain ⟨v, rfl, lx⟩ := lvs1 l
  obtain ⟨a, vs, rfl, ha, da⟩ := lx.lst R
  obtain ⟨rfl, _⟩ := iOf_rel da h1
  exact cr_sum hc pins s σ g.H _ us Q I r ⟨a, bs, rfl, SqL.of ha, q.old R (.d (.int _))⟩
theorem cb_tuple : CallR X (.type "tuple") (rBd B .tuple) := by
  intro pins s σ H vs us Q I r h
  obtain ⟨S, g, xs, w, rfl, R, l, hb, q⟩ := h
  simp only [biD] at hb
  split at hb <;> (try (simp at * <;> done))
  · cases hb
    obtain ⟨v, rfl, lx⟩ := lvs1 l
    obtain ⟨a, vs, rfl, ha, da⟩ := lx.lst R
    exact call_tuple_of pins s σ g.H _ us Q I r ⟨a, vs, rfl, .inl ⟨SqL.of ha, fun p hp => q.d.tup R hp da⟩⟩
  · cases hb
    obtain ⟨v, rfl, lx⟩ := lvs1 l
    obtain ⟨a, vs, rfl, ha, ha', da⟩ := lx.tup R
    exact call_tuple_of pins s σ g.H _ us Q I r ⟨a, vs, rfl, .inr ⟨hK ▸ ha, q.d.old R (.tup ha' da)⟩⟩
theorem cb_list : CallR X (.type "list") (rBd B .list) := by
  intro pins s σ H vs us Q I r h
  obtain ⟨S, g, xs, w, rfl, R, l, hb, q⟩ := h
  simp only [biD] at hb
  split at hb <;> (try (simp at * <;> done))
  · cases hb
    obtain ⟨v, rfl, lx⟩ := lvs1 l
    obtain ⟨a, vs, rfl, ha, da⟩ := lx.lst R
    exact call_list_of pins s σ g.H _ us Q I r ⟨a, vs, rfl, .inl (SqL.of ha), fun p hp => q.d.lst R hp da⟩
  · cases hb
    obtain ⟨v, rfl, lx⟩ := lvs1 l
    obtain ⟨a, vs, rfl, ha, ha', da⟩ := lx.tup R
    exact call_list_of pins s σ g.H _ us Q I r ⟨a, vs, rfl, .inr (hK ▸ ha), fun p hp => q.d.lst R hp da⟩
omit hK in
theorem cb_abs : CallR X (.builtin "abs") (rBd B .abs) := by
  intro pins s σ H vs us Q I r h
  obtain ⟨S, g, xs, w, rfl, R, l, hb, q⟩ := h
  simp only [biD] at hb
  split at hb <;> (try (simp at * <;> done))
  cases hb
  obtain ⟨v, rfl, lx⟩ := lvs1 l
  cases lx.int
  exact call_abs pins s σ g.H _ us Q I r ⟨_, rfl, q.old R (.d (.int _))⟩
omit hK in
theorem cb_int : CallR X (.type "int") (rBd B .int) := by
  intro pins s σ H vs us Q I r h
  obtain ⟨S, g, xs, w, rfl, R, l, hb, q⟩ := h
  simp only [biD] at hb
  split at hb <;> (try (simp at * <;> done))
  · cases hb
    obtain ⟨v, rfl, lx⟩ := lvs1 l
    cases lx.int
    exact call_int1 pins s σ g.H _ us Q I r (.inl ⟨_, rfl, q.old R (.d (.int _))⟩)
  · cases hb
    obtain ⟨v, rfl, lx⟩ := lvs1 l
    cases lx.bool
    exact call_int1 pins s σ g.H _ us Q I r (.inr ⟨_, rfl, q.old R (.d (.int _))⟩)
omit hK in
theorem cb_str : CallR X (.type "str") (rBd B .str) := by
  intro pins s σ H vs us Q I r h
  obtain ⟨S, g, xs, w, rfl, R, l, hb, q⟩ := h
  simp only [biD] at hb
  split at hb <;> (try (simp at * <;> done))
  split at hb
  · rename_i hz
    cases hb
    obtain ⟨v, rfl, lx⟩ := lvs1 l
    cases lx.int
    exact call_str_int pins s σ g.H _ us Q I r ⟨_, rfl, hz, q.old R (.d (.str _))⟩
  · cases hb
omit hK in
theorem cb_max (hc : X.calm = true) : CallR X (.builtin "max") (rBd B .max) := by
  intro pins s σ H vs us Q I r h
  obtain ⟨S, g, xs, w, rfl, R, l, hb, q⟩ := h
  simp only [biD] at hb
  split at hb <;> (try (simp at * <;> done))
  cases hb
  obtain ⟨v, u, rfl, lx, ly⟩ := lvs2 l
  cases lx.int
  cases ly.int
  exact call_max2 hc pins s σ g.H _ us Q I r ⟨_, _, rfl, q.old R (.d (.int _))⟩
omit hK in
theorem cb_min (hc : X.calm = true) : CallR X (.builtin "min") (rBd B .min) := by
  intro pins s σ H vs us Q I r h
  obtain ⟨S, g, xs, w, rfl, R, l, hb, q⟩ := h
  simp only [biD] at hb
  split at hb <;> (try (simp at * <;> done))
  cases hb
  obtain ⟨v, u, rfl, lx, ly⟩ := lvs2 l
  cases lx.int
  cases ly.int
  exact call_min2 hc pins s σ g.H _ us Q I r ⟨_, _, rfl, q.old R (.d (.int _))⟩
/-! ### dict(pairs) -/
omit hK in
theorem dv_key {K : Kf} {F : Hp} {v : V} {x : D} (h : DV K F v x) (hk : keyOk x = true) : ∃ k : Key, v = kV k := key_of_dv h hk
omit hK in
theorem putD_rel {K : Kf} {F : Hp} : ∀ {ks : List (Key × V)} {kvs : List (D × D)} {k : Key} {v : V} {x y : D}, Paired (fun (p : Key × V) (q : D × D) => DV K F (kV p.1) q.1 ∧ DV K F p.2 q.2) ks kvs → (ks.map (·.1)).Nodup → DV K F (kV k) x → DV K F v y →
    Paired (fun (p : Key × V) (q : D × D) => DV K F (kV p.1) q.1 ∧ DV K F p.2 q.2) (putK ks k v) (putD kvs x y) ∧ ((putK ks k v).map (·.1)).Nodup := by
  intro ks kvs k v x y r nd hk hv
  have key : ∀ {a : Key} {d : D}, DV K F (kV a) d → (PyData.eqv d x = true ↔ a = k) := fun {a d} h => by
    cases a with
    | inl i =>
      cases h
      cases k with
      | inl j => cases hk; simp [PyData.eqv]
      | inr j => cases hk; simp [PyData.eqv]
    | inr i =>
      cases h
      cases k with
      | inl j => cases hk; simp [PyData.eqv]
      | inr j => cases hk; simp [PyData.eqv]
  have main : ∀ {ks : List (Key × V)} {kvs : List (D × D)}, Paired (fun (p : Key × V) (q : D × D) => DV K F (kV p.1) q.1 ∧ DV K F p.2 q.2) ks kvs → (ks.map (·.1)).Nodup →
      Paired (fun (p : Key × V) (q : D × D) => DV K F (kV p.1) q.1 ∧ DV K F p.2 q.2) (if (ks.any fun kv => decide (kv.1 = k)) = true then ks.map (fun kv => if kv.1 = k then (kv.1, v) else kv) else ks ++ [(k, v)]) (putD kvs x y) := by
    intro ks kvs r
    unfold Paired at r
    induction r with
    | nil => intro _; exact .cons ⟨hk, hv⟩ .nil
    | @cons p q ps qs h t ih =>
      intro nd
      rw [List.map_cons, List.nodup_cons] at nd
      have ih := ih nd.2
      unfold putD
      by_cases e : p.1 = k
      · have hn : ∀ kv ∈ ps, kv.1 ≠ k := fun kv hm z => nd.1 (by rw [e, ← z]; exact List.mem_map.mpr ⟨kv, hm, rfl⟩)
        rw [if_pos ((key h.1).mpr e)]
        have h1 : ((p :: ps).any fun kv => decide (kv.1 = k)) = true := by simp [e]
        rw [if_pos h1, List.map_cons, if_pos e]
        have h2 : ps.map (fun kv => if kv.1 = k then (kv.1, v) else kv) = ps := by
          conv => rhs; rw [← List.map_id ps]
          exact List.map_congr_left fun kv hm => by rw [if_neg (hn kv hm)]; rfl
        rw [h2]
        exact .cons ⟨h.1, hv⟩ t
      · rw [if_neg (fun z => e ((key h.1).mp z))]
        have h1 : ((p :: ps).any fun kv => decide (kv.1 = k)) = (ps.any fun kv => decide (kv.1 = k)) := by simp [e]
        rw [h1]
        split at ih
        · rename_i c
          rw [if_pos c, List.map_cons, if_neg e]
          exact .cons h ih
        · rename_i c
          rw [if_neg c]
          exact .cons h ih
  refine ⟨main r nd, ?_⟩
  unfold putK
  split
  · have : (ks.map (fun kv => if kv.1 = k then (kv.1, v) else kv)).map (·.1) = ks.map (·.1) := by
      rw [List.map_map]
      exact List.map_congr_left fun kv _ => by
        show (if kv.1 = k then (kv.1, v) else kv).1 = kv.1
        split <;> rfl
    rw [this]; exact nd
  · rename_i c
    rw [List.map_append, List.nodup_append]
    refine ⟨nd, by simp, fun a ha b hb z => ?_⟩
    simp at hb
    subst hb
    subst z
    obtain ⟨kv, hm, e⟩ := List.mem_map.mp ha
    exact c (List.any_eq_true.mpr ⟨kv, hm, by simpa using e⟩)
omit hK in
theorem mergeD_rel {K : Kf} {F : Hp} : ∀ {ms : List (Key × V)} {mvs : List (D × D)} {ks : List (Key × V)} {kvs : List (D × D)}, Paired (fun (p : Key × V) (q : D × D) => DV K F (kV p.1) q.1 ∧ DV K F p.2 q.2) ms mvs → Paired (fun (p : Key × V) (q : D × D) => DV K F (kV p.1) q.1 ∧ DV K F p.2 q.2) ks kvs →
    (ks.map (·.1)).Nodup → Paired (fun (p : Key × V) (q : D × D) => DV K F (kV p.1) q.1 ∧ DV K F p.2 q.2) (mergeK ks ms) (mergeD kvs mvs)
  | _, _, _, _, .nil, r, _ => r
  | _, _, _, _, .cons h t, r, nd => by
    obtain ⟨r2, nd2⟩ := putD_rel r nd h.1 h.2
    have z := mergeD_rel t r2 nd2
    exact z
omit hK in
theorem pairs_rel {K : Kf} {F : Hp} : ∀ {xs : List D} {vs : List V} {ps : List (D × D)}, DVs K F vs xs → pairsD xs = some ps → ∃ (as : List Addr) (kvs : List (Key × V)), vs = as.map V.ref ∧ Paired (fun p kv => SqT K F p [kV kv.1, kv.2]) as kvs ∧
    Paired (fun (p : Key × V) (q : D × D) => DV K F (kV p.1) q.1 ∧ DV K F p.2 q.2) kvs ps := by
  intro xs
  induction xs with
  | nil =>
    intro vs ps d h
    cases d
    cases h
    exact ⟨[], [], rfl, .nil, .nil⟩
  | cons x xs ih =>
    intro vs ps d h
    unfold pairsD at h
    split at h
    · rename_i e
      cases e
    · rename_i k v r e
      cases e
      cases d with
      | cons d1 d2 =>
        split at h
        · rename_i hk
          rw [Option.map_eq_some_iff] at h
          obtain ⟨qs, h, rfl⟩ := h
          obtain ⟨as, kvs, h1, h2, h3⟩ := ih d2 h
          cases d1 with
          | tup ht hd =>
            cases hd with
            | cons dk hd =>
              cases hd with
              | cons dv hd =>
                cases hd
                obtain ⟨ky, rfl⟩ := key_of_dv dk hk
                exact ⟨_ :: as, (ky, _) :: kvs, by rw [h1]; rfl, .cons ht h2, .cons ⟨dk, dv⟩ h3⟩
        · cases h
    · cases h
theorem cb_dict (hc : X.calm = true) : CallR X (.type "dict") (rBd B .dict) := by
  intro pins s σ H vs us Q I r h
  obtain ⟨S, g, xs, w, rfl, R, l, hb, q⟩ := h
  simp only [biD] at hb
  split at hb <;> (try (simp at * <;> done))
  rw [Option.map_eq_some_iff] at hb
  obtain ⟨ps, h1, rfl⟩ := hb
  obtain ⟨v, rfl, lx⟩ := lvs1 l
  obtain ⟨a, vs, rfl, ha, da⟩ := lx.lst R
  obtain ⟨as, kvs, rfl, h2, h3⟩ := pairs_rel da h1
  refine call_dictP hc pins s σ g.H _ us Q I r ⟨a, as, kvs, rfl, SqL.of ha, Paired.mapP h2 fun p kv z => hK ▸ R.sub.sqT z, fun p hp => ?_⟩
  obtain ⟨e, R'⟩ := R.new (o := .dK (mergeK [] kvs)) hp (fun _ z => nomatch z)
  exact q _ _ e R' (.dct _ upd_same (Paired.mapP (mergeD_rel h3 .nil List.nodup_nil) fun a b z => ⟨e.sub.dv z.1, e.sub.dv z.2⟩))
end
end Pd
end

set_option maxHeartbeats 200000
section
/-! Pd7: sets, sorted. Own work, session 1; the first two proofs are turned from two of the library's. -/
namespace Pd
open PySem PySem.Spec PyProof.Rows L2
abbrev frS (w : World) : Obj := { cls := .type "set", dict := none, data := .set #[] 0 (.fresh 0 0 (!w.params.followText "set-order")) }
section
variable {P : Program} {w : World} {A : Around} {E : Value → Shared → Prop} {s : Shared}
set_option maxHeartbeats 3200000 in
theorem set_listI {l : Addr} {items : Array Value} (ns : List Int) {Q : Value → Shared → Prop} (hh : A.handled = none) (hl : s.heap.IsList l items) (hit : IntsAre items.toList ns) (hb : ns.length + 1 < scanBound)
    (h : ∀ (h' : Heap) (tk c : Nat), SetR w h' s.heap.objs.size (fun j => decide (j ∈ ns)) c → c ≤ ns.length → (∀ b o, s.heap.get? b = some o → h'.get? b = some o) → Q (.ref s.heap.objs.size) { s with heap := h', toks := tk }) :
    wpAny (model P w) A (call (.type "set") [.ref l]) Q E s := by
  have kisz : items.size = ns.length := by
    have q := IntsAre.length hit
    rw [Array.length_toList] at q
    exact q
  obtain ⟨c, tl, kmro⟩ := F.called_set.mro
  have kmade := F.called_set.made
  have ksub := F.called_set.sub
  refine wpAny_call (codeAny_of_tree ?_)
  show wpAny _ _ (callAny (.type "set") _) _ _ _
  refine wpAny_pure ⟨Code.quiet_builtin _ (by decide +kernel), codeAny_builtin F.entry_type_call ?_⟩
  rw [Around.under_plain (weight_type_call_type "set" [.ref l] []) rfl]
  have k1 := F.called_set.notType
  have k2 := F.called_set.canCreate
  have kct := F.typeCall_set_1 (.ref l)
  repeat (any_goals (first | assumption | wp_step))

  refine codeAny_mono (code_set_led1 (.ref l) (E := E) (Q₁ := fun obj s1 => obj = .ref s.heap.objs.size ∧ s1 = { s with heap := s.heap.push (frS w) }) ⟨rfl, rfl⟩) fun r s1 kr => ?_
  cases r with
  | error e => exact kr
  | ok fl =>
    cases fl with
    | ret obj =>
      obtain ⟨rfl, rfl⟩ := kr
      have gS : (s.heap.push (frS w)).get? s.heap.objs.size = some (frS w) := Heap.get?_push_size _ rfl
      have kT : Shared.TypeIs { s with heap := s.heap.push (frS w) } (.ref s.heap.objs.size) "set" := ⟨_, gS, rfl⟩
      have kli := F.called_set.init.lookup
      have kbi := F.called_set.init.bind (.ref s.heap.objs.size)
      repeat (any_goals (first | assumption | wp_step))

      refine codeAny_mono (codeAny_call_builtin (R := wants (fun r s2 => r = .none ∧ ∃ h' tk c, s2 = { s with heap := h', toks := tk } ∧ SetR w h' s.heap.objs.size (fun j => decide (j ∈ ns)) c ∧ c ≤ ns.length ∧
          (∀ b o, s.heap.get? b = some o → h'.get? b = some o)) E) F.called_set.init.plain F.entry_set_init (check_set_init_1 kT ?_)) fun r2 s2 kr2 => ?_
      · obtain ⟨ob, kol, kcl, nl, kdl⟩ := hl
        obtain ⟨ocls, odict, odata, oslots⟩ := ob
        simp only at kcl kdl
        subst kcl; subst kdl
        have kol' : (s.heap.push (frS w)).get? l = some { cls := .type "list", dict := odict, data := .seq items nl, slots := oslots } := Heap.get?_push_of_some _ kol
        have ksls := F.sub_list_set
        have kslf := F.sub_list_frozenset
        have kne : (Value.type "list" == Value.type "dict") = false := by decide
        have kl1 : (s.heap.push (frS w)).IsList l items := ⟨_, kol', rfl, nl, rfl⟩
        unfold Builtin.«set.__init__» noKeywords Builtin.Frozenset.updateFrom
        generalize kPI : pyIter = PI
        wp_walk
        subst kPI

        refine wpAny_pyIter_list kl1 ?_
        refine wpAny_bind (wpAny_runValue ?_)
        have klS : l < s.heap.objs.size := Heap.lt_size kol
        have kh3 : A.in1.in1.in1.handled = none := by simp [hh]
        have kz1 : (s.heap.push (frS w)).objs.size = s.heap.objs.size + 1 := Heap.size_push ..
        have kneI : l ≠ (s.heap.push (frS w)).objs.size := by
          rw [Heap.size_push]; exact Nat.ne_of_lt (Nat.lt_succ_of_lt klS)
        have kSf : s.heap.objs.size ∉ [(s.heap.push (frS w)).objs.size, l] := by
          rw [Heap.size_push]; simp only [List.mem_cons, List.mem_singleton, List.not_mem_nil, or_false, not_or]
          exact ⟨Nat.ne_of_lt (Nat.lt_succ_self _), Nat.ne_of_gt klS⟩
        have kval : ∀ (i : Nat) (v : Value), items[i]? = some v → ∃ k t, ns[i]? = some k ∧ v = .int k t := fun i v hv => by
          have hi : i < ns.length := by rw [← kisz]; exact (Array.getElem?_eq_some_iff.mp hv).1
          obtain ⟨t, e⟩ := PyProof.Rows.IntsAre.int_at hit i v (by rw [Array.getElem?_toList]; exact hv)
          refine ⟨ns[i], t, List.getElem?_eq_getElem hi, ?_⟩
          rw [e, List.getD_eq_getElem?_getD, List.getElem?_eq_getElem hi] <;> rfl
        refine set_update_ints ((Walks.list kh3 _ l kneI items).toS) s.heap.objs.size
          kSf ns kisz hb kval (items.size - 0) 0 _ (by omega) (Nat.zero_le _)
          ⟨⟨_, Heap.get?_push_size _ rfl, rfl, rfl⟩, (kl1.push _)⟩ ?cS0 ?cR
        case cS0 =>
          have kget : ((s.heap.push (frS w)).push { cls := .type "list_iterator", data := .fields #[.ref l, .int 0 0] }).get? s.heap.objs.size
              = some (frS w) := Heap.get?_push_of_some _ gS
          exact ⟨0, Nat.le_refl 0, setR_new_at kget⟩
        case cR =>
          intro s' c' km hc' gS'
          obtain ⟨h', g2, d', tk', os'⟩ := s'
          have eg' : g2 = s.gens := km.gens
          have ed : d' = s.drawn := km.drawn
          have eo : os' = s.os := km.os
          subst eg'; subst ed; subst eo
          show wpAny _ _ _ _ _ _
          refine wpAny_pure ?_
          show wpAny _ _ (ret Value.none) _ _ _
          rw [kisz] at hc'
          refine wpAny_pure ⟨rfl, h', tk', c', rfl, gS', hc', fun b o e => ?_⟩
          have hb0 : b < s.heap.objs.size := Heap.lt_size e
          have hb1 : b ≠ s.heap.objs.size := Nat.ne_of_lt hb0
          have hb2 : b ≠ (s.heap.push (frS w)).objs.size := by
            rw [Heap.size_push]; exact Nat.ne_of_lt (Nat.lt_succ_of_lt hb0)
          exact km.heap b o (by simp only [List.mem_cons, List.mem_singleton, List.not_mem_nil, or_false, not_or]; exact ⟨hb1, hb2⟩) (Heap.get?_push_of_some _ (Heap.get?_push_of_some _ e))

      · cases r2 with
        | error e => exact kr2
        | ok fl2 =>
          cases fl2 with
          | ret r =>
            obtain ⟨rfl, h', tk, c', rfl, gS', hc', hk'⟩ := kr2
            repeat (any_goals (first | assumption | wp_step))
            exact h _ _ _ gS' hc' hk'
          | _ => exact kr2.elim
    | _ => exact kr.elim

set_option maxHeartbeats 3200000 in
theorem set_tupT {l : Addr} {items : Array Value} (ks : List (Addr × List Int)) {Q : Value → Shared → Prop} (hh : A.handled = none) (hl : s.heap.IsTuple l items) (hit : items.toList = ks.map fun p => Value.ref p.1)
    (hk : ∀ p ∈ ks, IsT P w s.heap p.2 p.1) (hfew : ks.length < 64) (hu : A.units + 3 < cLine)
    (h : ∀ (h' : Heap) (tk : Nat) L es ep t, SetTR P w h' s.heap.objs.size L es ep t → Got ks ks.length L → (∀ b o, s.heap.get? b = some o → h'.get? b = some o) → Q (.ref s.heap.objs.size) { s with heap := h', toks := tk }) :
    wpAny (model P w) A (call (.type "set") [.ref l]) Q E s := by
  have kisz : items.size = ks.length := by
    have q := congrArg List.length hit
    rw [Array.length_toList, List.length_map] at q
    exact q
  obtain ⟨c, tl, kmro⟩ := F.called_set.mro
  have kmade := F.called_set.made
  have ksub := F.called_set.sub
  refine wpAny_call (codeAny_of_tree ?_)
  show wpAny _ _ (callAny (.type "set") _) _ _ _
  refine wpAny_pure ⟨Code.quiet_builtin _ (by decide +kernel), codeAny_builtin F.entry_type_call ?_⟩
  rw [Around.under_plain (weight_type_call_type "set" [.ref l] []) rfl]
  have k1 := F.called_set.notType
  have k2 := F.called_set.canCreate
  have kct := F.typeCall_set_1 (.ref l)
  repeat (any_goals (first | assumption | wp_step))

  refine codeAny_mono (code_set_led1 (.ref l) (E := E) (Q₁ := fun obj s1 => obj = .ref s.heap.objs.size ∧ s1 = { s with heap := s.heap.push (frS w) }) ⟨rfl, rfl⟩) fun r s1 kr => ?_
  cases r with
  | error e => exact kr
  | ok fl =>
    cases fl with
    | ret obj =>
      obtain ⟨rfl, rfl⟩ := kr
      have gS : (s.heap.push (frS w)).get? s.heap.objs.size = some (frS w) := Heap.get?_push_size _ rfl
      have kT : Shared.TypeIs { s with heap := s.heap.push (frS w) } (.ref s.heap.objs.size) "set" := ⟨_, gS, rfl⟩
      have kli := F.called_set.init.lookup
      have kbi := F.called_set.init.bind (.ref s.heap.objs.size)
      repeat (any_goals (first | assumption | wp_step))

      refine codeAny_mono (codeAny_call_builtin (R := wants (fun r s2 => r = .none ∧ ∃ h' tk L es ep t, s2 = { s with heap := h', toks := tk } ∧ SetTR P w h' s.heap.objs.size L es ep t ∧ Got ks ks.length L ∧
          (∀ b o, s.heap.get? b = some o → h'.get? b = some o)) E) F.called_set.init.plain F.entry_set_init (check_set_init_1 kT ?_)) fun r2 s2 kr2 => ?_
      · obtain ⟨ob, kol, kcl, nl, kdl⟩ := hl
        obtain ⟨ocls, odict, odata, oslots⟩ := ob
        simp only at kcl kdl
        subst kcl; subst kdl
        have kol' : (s.heap.push (frS w)).get? l = some { cls := .type "tuple", dict := odict, data := .seq items nl, slots := oslots } := Heap.get?_push_of_some _ kol
        have ksls := F.sub_tuple_set
        have kslf := F.sub_tuple_frozenset
        have kne : (Value.type "tuple" == Value.type "dict") = false := by decide
        have kl1 : (s.heap.push (frS w)).IsTuple l items := ⟨_, kol', rfl, nl, rfl⟩
        unfold Builtin.«set.__init__» noKeywords Builtin.Frozenset.updateFrom
        generalize kPI : pyIter = PI
        wp_walk
        subst kPI

        refine wpAny_pyIter_tuple kl1 ?_
        refine wpAny_bind (wpAny_runValue ?_)
        have klS : l < s.heap.objs.size := Heap.lt_size kol
        have kh3 : A.in1.in1.in1.handled = none := by simp [hh]
        have kz1 : (s.heap.push (frS w)).objs.size = s.heap.objs.size + 1 := Heap.size_push ..
        have kneI : l ≠ (s.heap.push (frS w)).objs.size := by
          rw [Heap.size_push]; exact Nat.ne_of_lt (Nat.lt_succ_of_lt klS)
        have kSf : s.heap.objs.size ∉ [(s.heap.push (frS w)).objs.size, l] := by
          rw [Heap.size_push]; simp only [List.mem_cons, List.mem_singleton, List.not_mem_nil, or_false, not_or]
          exact ⟨Nat.ne_of_lt (Nat.lt_succ_self _), Nat.ne_of_gt klS⟩
        have kval : ∀ (i : Nat) (v : Value), items[i]? = some v → ∃ p, ks[i]? = some p ∧ v = .ref p.1 := fun i v hv => by
          have q : items.toList[i]? = some v := by rw [Array.getElem?_toList]; exact hv
          rw [hit, List.getElem?_map] at q
          cases hq : ks[i]? with
          | none => rw [hq] at q; cases q
          | some p =>
            rw [hq] at q
            exact ⟨p, rfl, (Option.some.inj q).symm⟩
        have none_of : ∀ b, s.heap.objs.size ≤ b → s.heap.get? b = none := fun b hb => by
          cases q : s.heap.get? b with
          | none => rfl
          | some o => exact absurd (Nat.lt_of_lt_of_le (Heap.lt_size q) hb) (Nat.lt_irrefl _)
        refine set_update_tups ((Walks.tuple kh3 _ l kneI items).toS) s.heap.objs.size
          kSf ks kisz hfew kval s.heap hk (none_of _ (Nat.le_refl _)) (fun b hb => none_of b (by
            rw [List.mem_singleton.mp hb, Heap.size_push]
            exact Nat.le_succ _)) hu (items.size - 0) 0 _ (by omega) (Nat.zero_le _)
          ⟨⟨_, Heap.get?_push_size _ rfl, rfl, rfl⟩, (kl1.push _)⟩ (fun b o e => Heap.get?_push_of_some _ (Heap.get?_push_of_some _ e)) ?cS0 ?cR
        case cS0 =>
          have kget : ((s.heap.push (frS w)).push { cls := .type "tuple_iterator", data := .fields #[.ref l, .int 0 0] }).get? s.heap.objs.size
              = some (frS w) := Heap.get?_push_of_some _ gS
          exact ⟨[], #[], 0, _, setTR_fresh kget, Got.zero ks⟩
        case cR =>
          intro s' L es ep t km gS' g' hkp
          obtain ⟨h', g2, d', tk', os'⟩ := s'
          have eg' : g2 = s.gens := km.gens
          have ed : d' = s.drawn := km.drawn
          have eo : os' = s.os := km.os
          subst eg'; subst ed; subst eo
          show wpAny _ _ _ _ _ _
          refine wpAny_pure ?_
          show wpAny _ _ (ret Value.none) _ _ _
          rw [kisz] at g'
          exact wpAny_pure ⟨rfl, h', tk', L, es, ep, t, rfl, gS', g', hkp⟩

      · cases r2 with
        | error e => exact kr2
        | ok fl2 =>
          cases fl2 with
          | ret r =>
            obtain ⟨rfl, h', tk, L, es, ep, t, rfl, gS', g', hk'⟩ := kr2
            repeat (any_goals (first | assumption | wp_step))
            exact h _ _ _ _ _ _ gS' g' hk'
          | _ => exact kr2.elim
    | _ => exact kr.elim

end
end Pd
end

set_option maxHeartbeats 200000
section
/-! Pd8: sorted, sets, the calls by name. Own work, session 1. -/
namespace Pd
open PySem PySem.Spec PyProof.Rows L2

/-! ### data that is alike -/
mutual
theorem eqv_eq : ∀ {x y : D}, PySem.W.alike x y = true → PyData.eqv x y = true → x = y
  | .none, y, h, e => by cases y <;> simp_all [PySem.W.alike]
  | .bool a, y, h, e => by cases y <;> simp_all [PySem.W.alike, PyData.eqv]
  | .int a, y, h, e => by cases y <;> simp_all [PySem.W.alike, PyData.eqv]
  | .str a, y, h, e => by cases y <;> simp_all [PySem.W.alike, PyData.eqv]
  | .list xs, y, h, e => by
    cases y with
    | list ys =>
      simp only [PySem.W.alike] at h
      simp only [PyData.eqv] at e
      rw [eqvAll_eq h e]
    | _ => simp [PySem.W.alike] at h
  | .tuple xs, y, h, e => by
    cases y with
    | tuple ys =>
      simp only [PySem.W.alike] at h
      simp only [PyData.eqv] at e
      rw [eqvAll_eq h e]
    | _ => simp [PySem.W.alike] at h
  | .dict _, y, h, e => by cases y <;> simp [PySem.W.alike] at h
theorem eqvAll_eq : ∀ {xs ys : List D}, PySem.W.alikeAll xs ys = true → PyData.eqvAll xs ys = true → xs = ys
  | [], [], _, _ => rfl
  | [], _ :: _, _, e => by simp [PyData.eqvAll] at e
  | _ :: _, [], _, e => by simp [PyData.eqvAll] at e
  | x :: xs, y :: ys, h, e => by
    simp only [PySem.W.alikeAll, Bool.and_eq_true] at h
    simp only [PyData.eqvAll, Bool.and_eq_true] at e
    rw [eqv_eq h.1 e.1, eqvAll_eq h.2 e.2]
end
theorem leD_total : PySem.W.TotalLe (PySem.W.dataLe false (id : D → D)) := PySem.W.sortLe_total _ _ _
/-- two alike that stand at one rank are one -/
theorem rank_eq {x y : D} (h : PySem.W.alike x y = true) (r : PySem.W.sameRank (PySem.W.dataLe false (id : D → D)) x y = true) : x = y := by
  refine eqv_eq h ?_
  cases e : PyData.eqv x y with
  | true => rfl
  | false =>
    exfalso
    simp only [PySem.W.sameRank, Bool.and_eq_true] at r
    have r1 : (!PySem.W.dataLt y x) = true := r.1
    have r2 : (!PySem.W.dataLt x y) = true := r.2
    rw [Bool.not_eq_true'] at r1 r2
    have t : PySem.W.keyToks x = PySem.W.keyToks y := (PyProof.Rows.listOrd PyProof.Rows.itemOrd).total _ _ r2 r1
    have z := (PySem.W.toks_eqv x y h).2 e [] [Sum.inl 0]
    rw [← t, PySem.W.lex_pre] at z
    have ir : PyProof.Rows.lexLt PyProof.Rows.itemOrd (PySem.W.keyToks x) (PySem.W.keyToks x) = false := (PyProof.Rows.listOrd PyProof.Rows.itemOrd).irrefl _
    rw [ir] at z
    exact absurd z (by decide)
theorem insD_pair {x : D} : ∀ {l : List D}, l.Pairwise (fun a b => PySem.W.dataLe false (id : D → D) a b = true) → (insD x l).Pairwise (fun a b => PySem.W.dataLe false (id : D → D) a b = true)
  | [], _ => List.pairwise_singleton _ _
  | y :: r, h => by
    have mem : ∀ {l : List D} {z : D}, z ∈ insD x l → z = x ∨ z ∈ l := fun {l z} => by
      induction l with
      | nil => intro h; exact .inl (by simpa [insD] using h)
      | cons a l ih =>
        intro h
        unfold insD at h
        split at h
        · rcases List.mem_cons.mp h with e | e
          · exact .inr (by rw [e]; exact List.mem_cons_self)
          · exact (ih e).imp id (List.mem_cons_of_mem _)
        · rcases List.mem_cons.mp h with e | e
          · exact .inl e
          · exact .inr e
    obtain ⟨h1, h2⟩ := List.pairwise_cons.mp h
    unfold insD
    split
    · rename_i q
      refine List.pairwise_cons.mpr ⟨fun z hz => ?_, insD_pair h2⟩
      rcases mem hz with e | e
      · subst e
        rcases leD_total.total y z with t | t
        · exact t
        · have t : (!PySem.W.dataLt y z) = true := t
          rw [q] at t; cases t
      · exact h1 z e
    · rename_i q
      have t : PySem.W.dataLe false (id : D → D) x y = true := by
        show (!PySem.W.dataLt y x) = true
        rw [Bool.not_eq_true', ← Bool.not_eq_true]; exact q
      exact List.pairwise_cons.mpr ⟨fun z hz => (List.mem_cons.mp hz).elim (fun e => e ▸ t) fun e => leD_total.trans _ _ _ t (h1 z e), h⟩
theorem insD_filter {x c : D} : ∀ {l : List D}, (insD x l).filter (PySem.W.sameRank (PySem.W.dataLe false (id : D → D)) c) = (x :: l).filter (PySem.W.sameRank (PySem.W.dataLe false (id : D → D)) c)
  | [] => rfl
  | y :: r => by
    unfold insD
    split
    · rename_i q
      rw [List.filter_cons, insD_filter, List.filter_cons, List.filter_cons, List.filter_cons (x := y)]
      by_cases h1 : PySem.W.sameRank (PySem.W.dataLe false (id : D → D)) c x = true
      · by_cases h2 : PySem.W.sameRank (PySem.W.dataLe false (id : D → D)) c y = true
        · simp only [PySem.W.sameRank, Bool.and_eq_true] at h1 h2
          have t : (!PySem.W.dataLt y x) = true := leD_total.trans _ _ _ h1.2 h2.1
          rw [q] at t; cases t
        · rw [if_neg h2, if_pos h1, if_pos h1, if_neg h2]
      · rw [if_neg h1, if_neg h1]
    · rfl
theorem sortD_eq (xs : List D) : sortD xs = xs.mergeSort (PySem.W.dataLe false id) := by
  refine PySem.W.sort_unique leD_total ?_ fun c => ?_
  · induction xs with
    | nil => exact List.Pairwise.nil
    | cons x l ih => exact insD_pair ih
  · induction xs with
    | nil => rfl
    | cons x l ih =>
      unfold sortD
      rw [insD_filter, List.filter_cons, List.filter_cons, ih]
/-- what stands in a set is sorted to one list -/
theorem sortD_perm {xs ys : List D} (p : xs.Perm ys) (h : ∀ x ∈ xs, ∀ y ∈ xs, PySem.W.alike x y = true) : sortD xs = sortD ys := by
  rw [sortD_eq, sortD_eq]
  refine PySem.W.sort_unique leD_total (PySem.W.sort_pairwise leD_total xs) fun c => ?_
  rw [PySem.W.sort_stable leD_total]
  -- those at the rank of c are one and the same, as often here as there
  have pf : (xs.filter (PySem.W.sameRank (PySem.W.dataLe false id) c)).Perm (ys.filter (PySem.W.sameRank (PySem.W.dataLe false id) c)) := p.filter _
  have one : ∀ a ∈ xs.filter (PySem.W.sameRank (PySem.W.dataLe false id) c), ∀ b ∈ xs.filter (PySem.W.sameRank (PySem.W.dataLe false id) c), a = b := fun a ha b hb => by
    obtain ⟨ha, ra⟩ := List.mem_filter.mp ha
    obtain ⟨hb, rb⟩ := List.mem_filter.mp hb
    refine rank_eq (h a ha b hb) ?_
    simp only [PySem.W.sameRank, Bool.and_eq_true] at ra rb ⊢
    exact ⟨leD_total.trans _ _ _ ra.2 rb.1, leD_total.trans _ _ _ rb.2 ra.1⟩
  generalize xs.filter (PySem.W.sameRank (PySem.W.dataLe false id) c) = l at pf one
  generalize ys.filter (PySem.W.sameRank (PySem.W.dataLe false id) c) = m at pf
  cases l with
  | nil => rw [List.nil_perm.mp pf]
  | cons a l =>
    have e1 : (a :: l) = List.replicate (a :: l).length a := List.eq_replicate_iff.mpr ⟨rfl, fun b hb => one b hb a List.mem_cons_self⟩
    have e2 : m = List.replicate m.length a := List.eq_replicate_iff.mpr ⟨rfl, fun b hb => one b (pf.mem_iff.mpr hb) a List.mem_cons_self⟩
    rw [e1, e2, pf.length_eq]
theorem sortable_alike {xs : List D} (h : sortable xs = true) (h2 : 2 ≤ xs.length) : PySem.W.AllAlike xs ∧ PySem.W.Sortable xs ∧ ∀ x ∈ xs, x.depth ≤ 50 := by
  simp only [sortable, Bool.or_eq_true, Bool.and_eq_true, decide_eq_true_eq, List.all_eq_true] at h
  rcases h with h | ⟨h1, h3, h4⟩
  · omega
  · refine ⟨fun d hd d' hd' => h1 d hd d' hd', ?_, h4⟩
    rcases h3 with h3 | h3
    · refine .inl fun d hd => ?_
      have := h3 d hd
      split at this
      · exact ⟨_, _, rfl⟩
      · cases this
    · refine .inr fun d hd => ⟨?_, ?_⟩
      · rintro rfl
        exact absurd (h3 _ hd) (by decide)
      · rintro ys rfl
        exact absurd (h3 _ hd) (by simp)
mutual
theorem reads_lt {h : Heap} : ∀ {d : D} {v : Value} {as : List Addr}, PySem.W.alike d d = true → Reads h v d as → ∀ a ∈ as, a < h.objs.size
  | .none, _, _, _, r, a, ha => by cases r; cases ha
  | .bool _, _, _, _, r, a, ha => by cases r; cases ha
  | .int _, _, _, _, r, a, ha => by cases r; cases ha
  | .str _, _, _, _, r, a, ha => by cases r; cases ha
  | .list xs, _, _, q, r, a, ha => by
    cases r with
    | list h1 h2 h3 h4 =>
      rcases List.mem_cons.mp ha with e | ha
      · rw [e]; exact Heap.lt_size h1
      · exact readsAll_lt (by simpa [PySem.W.alike] using q) h4 a ha
  | .tuple xs, _, _, q, r, a, ha => by
    cases r with
    | tuple h1 h2 h3 h4 => exact readsAll_lt (by simpa [PySem.W.alike] using q) h4 a ha
  | .dict _, _, _, q, r, a, ha => by simp [PySem.W.alike] at q
theorem readsAll_lt {h : Heap} : ∀ {ds : List D} {vs : List Value} {as : List Addr}, PySem.W.alikeAll ds ds = true → ReadsAll h vs ds as → ∀ a ∈ as, a < h.objs.size
  | [], _, _, _, r, a, ha => by cases r; cases ha
  | _ :: _, _, _, q, r, a, ha => by
    simp only [PySem.W.alikeAll, Bool.and_eq_true] at q
    cases r with
    | cons h1 h2 =>
      rcases List.mem_append.mp ha with ha | ha
      · exact reads_lt q.1 h1 a ha
      · exact readsAll_lt q.2 h2 a ha
end
/-! ### sorted(..), of what can be gathered -/
/-- a value of the machine that stands for data -/
def VD (K : Kf) (F : Hp) (u : Value) (x : D) : Prop := ∃ v, RelV v u ∧ DV K F v x
theorem vd_vals {K : Kf} {F : Hp} : ∀ {us : List Value} {xs : List D}, PySem.W.EachIs (VD K F) us xs → ∃ vs, Vals vs us ∧ DVs K F vs xs
  | _, _, .nil => ⟨[], .nil, .nil⟩
  | _, _, .cons ⟨v, r, d⟩ t => by
    obtain ⟨vs, h1, h2⟩ := vd_vals t
    exact ⟨v :: vs, .cons r h1, .cons d h2⟩
theorem vals_vd {K : Kf} {F : Hp} : ∀ {us : List Value} {vs : List V} {xs : List D}, Vals vs us → DVs K F vs xs → PySem.W.EachIs (VD K F) us xs
  | _, _, _, .nil, .nil => .nil
  | _, _, _, .cons r t, .cons d ds => .cons ⟨_, r, d⟩ (vals_vd t ds)
theorem perm_short {α : Type} {l m : List α} (p : l.Perm m) (h : m.length ≤ 1) : l = m := by
  match m, h with
  | [], _ => exact List.perm_nil.mp p
  | [a], _ => exact List.perm_singleton.mp p
theorem sortD_short {xs : List D} (h : xs.length ≤ 1) : sortD xs = xs := by
  match xs, h with
  | [], _ => rfl
  | [a], _ => rfl
section
variable {X : Cx} {B : Bk}
/-- the new list is sorted in its place -/
theorem sort_new {pins : List (Addr × Obj)} {σ : L2.St} {s : Shared} {S : S} {g : Gh} {us : List Value} {xs : List D} {n : Nat} {A : Around} {E : Value → Shared → Prop} {a : Addr} {Q : Value → Shared → Prop} (hK : X.K = B.K) (I : Inv X pins σ g.H s) (R : Rep B S g)
    (e : PySem.W.EachIs (VD B.K g.F) us xs) (hs : sortable xs = true) (hz : us.length ≤ sizeLine) (hu : A.units + 64 < cLine) (ka : s.heap.objs.size ≤ a) {s1 : Shared} (k1 : ∀ b o, s.heap.get? b = some o → s1.heap.get? b = some o) (ho : s1.heap.get? a = some (seqObj "list" us.toArray n))
    (h : ∀ out : List Value, out.length = xs.length → PySem.W.EachIs (VD B.K g.F) out (sortD xs) → Q .none { s1 with heap := sortedHeap s1.heap a us (List.toArray out) }) :
    wpAny (model X.prog X.w) A (call (.builtin "list.sort") [.ref a]) Q E s1 := by
  by_cases h2 : 2 ≤ xs.length
  · obtain ⟨hal, hso, hd⟩ := sortable_alike hs h2
    have er : PySem.W.EachIs (fun v b => ∃ as, Reads s1.heap v (id b) as ∧ a ∉ as) us xs := (PySem.W.each_mem e).mono fun u x ⟨⟨v, r, d⟩, hx⟩ => by
      obtain ⟨as, q⟩ := Dp.reads I x v u (hK ▸ (R.sub.dv d).dp) r
      exact ⟨as, PyProof.Rows.Reads.keeps k1 q, fun hm => Nat.lt_irrefl _ (Nat.lt_of_lt_of_le (reads_lt (hal x hx x hx) q a hm) ka)⟩
    refine PySem.W.list_sort_data (enc := id) (bs := xs) ho e er (by simpa using hal) (by simpa using hso) (by rw [← e.length]; exact hz) (fun b hb => by have := hd b hb; show A.units + 1 + b.depth < cLine; omega) fun out h1 h3 => h out h1 (by rw [sortD_eq]; exact h3)
  · have hl : xs.length ≤ 1 := by omega
    refine wpAny_call_entry slot_list_sort ⟨_, ho, rfl⟩ entry_list_sort (Srt.list_sort_any ho hz (fun z => absurd z (by rw [e.length]; omega)) fun out p => ⟨_, rfl, ?_⟩) (args_list_sort _)
    have eo := perm_short p (by rw [e.length]; exact hl)
    subst eo
    exact h out e.length (by rw [sortD_short hl]; exact e)
/-- sorted(it), what it gathers known -/
theorem sorted_word {pins : List (Addr × Obj)} {σ : L2.St} {s : Shared} {S : S} {g : Gh} {it : Addr} {xs : List D} {Q : VK} (hK : X.K = B.K) (hu : X.A.units + 100 < cLine) (I : Inv X pins σ g.H s) (R : Rep B S g) (hs : sortable xs = true) (hz : xs.length ≤ sizeLine)
    (col : ∀ {E' : Value → Shared → Prop} {Q' : List Value → Shared → Prop}, (∀ s1 us, (∀ b o, s.heap.get? b = some o → s1.heap.get? b = some o) → s.heap.objs.size ≤ s1.heap.objs.size → s1.gens = s.gens → s1.os = s.os → (∃ ys, PySem.W.EachIs (VD B.K g.F) us ys ∧ ys.length = xs.length ∧ sortable ys = true ∧ sortD ys = sortD xs) → Q' us s1) →
      wpAny (model X.prog X.w) X.A.in1 (collect (.ref it)) Q' E' s) (q : NewD B S g (.list (sortD xs)) Q) :
    wpAny (model X.prog X.w) X.A (call (.builtin "sorted") [.ref it]) (EP X pins σ Q) X.xe s := by
  refine Calls.call_function_entry kind_sorted plain_sorted entry_sorted (args_sorted1 _) ?_
  unfold Builtin.«sorted»
  refine wpAny_bind (m := checkCount "sorted" 1 1 _) (wpAny_pure ?_)
  refine wpAny_bind (col fun s1 us k1 hz1 g1 o1 ⟨ys, e, el, es, ey⟩ => ?_)
  have hul : us.length = xs.length := by rw [e.length]; exact el
  refine wpAny_bind (wpAny_newList ?_ (by rw [hul]; exact hz))
  have hoL : (s1.heap.push (seqObj "list" us.toArray 0)).get? s1.heap.objs.size = some (seqObj "list" us.toArray 0) := Heap.get?_push_size _ rfl
  refine wpAny_bind (wpAny_holding (sort_new (s1 := { s1 with heap := s1.heap.push (seqObj "list" us.toArray 0) }) hK I R e es (by rw [hul]; exact hz) (by show X.A.units + 1 + 64 < cLine; omega) hz1 (fun b o q => Heap.get?_push_of_some _ (k1 b o q)) hoL fun out hl eo => ?_))
  obtain ⟨c, hc⟩ := sortedHeap_at (vs := us) (out := out.toArray) hoL
  rw [ey] at eo
  obtain ⟨vs, rv, dv⟩ := vd_vals eo
  have hn : g.H s1.heap.objs.size = none := I.hok.fresh hz1
  have kk : ∀ b o, s.heap.get? b = some o → (sortedHeap (s1.heap.push (seqObj "list" us.toArray 0)) s1.heap.objs.size us out.toArray).get? b = some o := fun b o q => by
    have q1 := k1 b o q
    have hlt := Heap.lt_size q1
    rw [sortedHeap_old (Nat.ne_of_lt hlt) (by rw [size_push']; exact Nat.lt_succ_of_lt hlt)]
    exact Heap.get?_push_of_some _ q1
  have hlen : vs.length ≤ sizeLine := by rw [rv.length, hl, el]; exact hz
  have J : Inv X pins σ (upd g.H s1.heap.objs.size (.lst vs)) { s with heap := sortedHeap (s1.heap.push (seqObj "list" us.toArray 0)) s1.heap.objs.size us out.toArray, gens := s1.gens, drawn := s1.drawn, toks := s1.toks } :=
    I.call (ch := []) (Un.laid kk hz1 hn) (I.hok.laid kk hz1 ⟨hlen, out, c, rv, hc⟩) (by rw [g1]; exact I.bare) (fun _ z => nomatch z)
  refine wpAny_pure ⟨_, rfl, .ref s1.heap.objs.size, _, ?_, rfl, q.lst R hn dv⟩
  rw [o1.symm] at J
  exact J
/-- a list, a tuple gathered: the heap behind it -/
theorem gather {prog : Program} {w : World} {A : Around} {E : Value → Shared → Prop} {s : Shared} {Q : List Value → Shared → Prop} (it : Addr) {T : String} {o : Obj} {us : List Value} {n : Nat} (tT : T = "list" ∨ T = "tuple") (ho : s.heap.get? it = some o) (hc : o.cls = .type T)
    (hd : o.data = .seq us.toArray n) (sz : us.length ≤ sizeLine) (hQ : ∀ h', (∀ b o', s.heap.get? b = some o' → h'.get? b = some o') → s.heap.objs.size ≤ h'.objs.size → Q us { s with heap := h' }) : wpAny (model prog w) A (collect (.ref it)) Q E s := by
  unfold collect
  refine wpAny_bind (wpAny_runValue (codeAny_builtin PySem.F.entry_proto_collect ?_))
  rw [Around.under_plainId PySem.F.plain_proto_collect _]
  show wpAny _ A.in1 (newList [] >>= fun l => again (.builtin "list.__iadd__" ⟨[l, .ref it], []⟩)) _ _ s
  refine wpAny_bind (wpAny_newObj_type ?_)
  refine wpAny_pure ⟨plainId_quiet PySem.F.plain_list_iadd _, codeAny_builtin PySem.F.entry_list_iadd ?_⟩
  rw [Around.under_plainId PySem.F.plain_list_iadd _]
  show wpAny _ A.in1 (Builtin.List.listExtendWith (.ref s.heap.objs.size) (.ref it) (.ref s.heap.objs.size)) _ _ _
  have kS : (s.heap.push (seqObj "list" #[] 0)).get? s.heap.objs.size = some (seqObj "list" #[] 0) := Heap.get?_push_size _ rfl
  have kS2 := Heap.get?_update_self (Obj.mapSeq (· ++ us.toArray)) kS rfl
  have fin2 : wpAny (model prog w) A (match Value.ref s.heap.objs.size with | Value.ref a => (do match (← load a).data with | Data.seq xs _ => pure xs.toList | _ => unsupported "internal:collect") | _ => unsupported "internal:collect") Q E
      { s with heap := (s.heap.push (seqObj "list" #[] 0)).update s.heap.objs.size (Obj.mapSeq (· ++ us.toArray)) } := by
    show wpAny _ A (load s.heap.objs.size >>= _) _ _ _
    refine wpAny_bind (wpAny_load kS2 (wpAny_pure ?_))
    have e : ((#[] : Array Value) ++ us.toArray).toList = us := by simp
    show Q ((#[] : Array Value) ++ us.toArray).toList _
    rw [e]
    refine hQ _ (fun b o' hb => (Heap.get?_update_other _ _ (Nat.ne_of_gt (Heap.lt_size hb))).trans (Heap.get?_push_of_some _ hb)) ?_
    rw [Heap.size_update, size_push']
    exact Nat.le_succ _
  refine wpAny_mono (wpAny_extend_seq (hsz := by rw [List.size_toArray]; exact sz) (A := A) (R := fun r s' => r = .ok (.ret (.ref s.heap.objs.size)) ∧ s' = { s with heap := (s.heap.push (seqObj "list" #[] 0)).update s.heap.objs.size (Obj.mapSeq (· ++ us.toArray)) })
    (s := { s with heap := s.heap.push (seqObj "list" #[] 0) }) _ it _ 0 tT kS (Heap.get?_push_of_some _ ho) hc hd ⟨rfl, rfl⟩) (fun fin s' h => ?_) (fun e s' h => ?_)
  · cases fin with
    | done f =>
      obtain ⟨e, rfl⟩ := h
      cases e
      exact fin2
    | again c' => exact ⟨h.1, codeAny_mono h.2 fun r s'' kr => by obtain ⟨rfl, rfl⟩ := kr; exact fin2⟩
  · exact absurd h.1 (by simp)
theorem perm_map_ex {α β : Type} {f : α → β} : ∀ {vs us : List β}, vs.Perm us → ∀ L : List α, us = L.map f → ∃ L' : List α, L'.Perm L ∧ vs = L'.map f := by
  intro vs us p
  induction p with
  | nil =>
    intro L e
    exact ⟨L, .refl _, e⟩
  | cons x _ ih =>
    intro L e
    cases L with
    | nil => cases e
    | cons a L =>
      cases e
      obtain ⟨L', h1, h2⟩ := ih L rfl
      exact ⟨a :: L', h1.cons a, by rw [h2]; rfl⟩
  | swap x y l =>
    intro L e
    match L, e with
    | a :: b :: L, e =>
      cases e
      exact ⟨b :: a :: L, .swap _ _ _, rfl⟩
  | trans _ _ ih1 ih2 =>
    intro L e
    obtain ⟨L2, h1, h2⟩ := ih2 L e
    obtain ⟨L1, h3, h4⟩ := ih1 L2 h2
    exact ⟨L1, h3.trans h1, h4⟩
theorem once_spec : ∀ (xs seen : List D), (∀ x ∈ seen ++ xs, ∀ y ∈ seen ++ xs, PySem.W.alike x y = true) → (onceD seen xs).Nodup ∧ ∀ z, z ∈ onceD seen xs ↔ z ∈ xs ∧ z ∉ seen
  | [], seen, _ => ⟨by simp [onceD], fun z => by simp [onceD]⟩
  | x :: xs, seen, h => by
    have hx : x ∈ seen ++ x :: xs := by simp
    have yes : (seen.any fun y => PyData.eqv y x) = true ↔ x ∈ seen := by
      rw [List.any_eq_true]
      refine ⟨fun ⟨y, hy, e⟩ => ?_, fun hs => ⟨x, hs, PySem.W.eqv_refl_alike x (h x hx x hx)⟩⟩
      have := eqv_eq (h y (List.mem_append_left _ hy) x hx) e
      rw [← this]; exact hy
    unfold onceD
    by_cases c : x ∈ seen
    · rw [if_pos (yes.mpr c)]
      obtain ⟨h1, h2⟩ := once_spec xs seen fun a ha b hb => h a (by rcases List.mem_append.mp ha with z | z <;> simp [z]) b (by rcases List.mem_append.mp hb with z | z <;> simp [z])
      refine ⟨h1, fun z => ?_⟩
      rw [h2, List.mem_cons]
      refine ⟨fun ⟨a, b⟩ => ⟨.inr a, b⟩, fun ⟨a, b⟩ => ⟨?_, b⟩⟩
      rcases a with rfl | a
      · exact absurd c b
      · exact a
    · rw [if_neg (fun z => c (yes.mp z))]
      obtain ⟨h1, h2⟩ := once_spec xs (x :: seen) fun a ha b hb => h a (by
        rcases List.mem_append.mp ha with z | z
        · rcases List.mem_cons.mp z with z | z <;> simp [z]
        · simp [z]) b (by
        rcases List.mem_append.mp hb with z | z
        · rcases List.mem_cons.mp z with z | z <;> simp [z]
        · simp [z])
      refine ⟨List.nodup_cons.mpr ⟨fun z => ((h2 x).mp z).2 List.mem_cons_self, h1⟩, fun z => ?_⟩
      rw [List.mem_cons, h2, List.mem_cons, List.mem_cons]
      refine ⟨fun q => ?_, fun ⟨a, b⟩ => ?_⟩
      · rcases q with rfl | ⟨a, b⟩
        · exact ⟨.inl rfl, c⟩
        · exact ⟨.inr a, fun q => b (.inr q)⟩
      · by_cases e : z = x
        · exact .inl e
        · rcases a with a | a
          · exact absurd a e
          · exact .inr ⟨a, fun q => q.elim e b⟩
theorem alike_ints' (ns : List Int) : ∀ x ∈ ns.map PyData.int, ∀ y ∈ ns.map PyData.int, PySem.W.alike x y = true := fun x hx y hy => by
  obtain ⟨i, _, rfl⟩ := List.mem_map.mp hx
  obtain ⟨j, _, rfl⟩ := List.mem_map.mp hy
  rfl
theorem alikeAll_ints : ∀ ns ms : List Int, PySem.W.alikeAll (ns.map PyData.int) (ms.map PyData.int) = true
  | [], _ => by simp [PySem.W.alikeAll]
  | _ :: _, [] => by simp [PySem.W.alikeAll]
  | _ :: ns, _ :: ms => by
    simp only [List.map_cons, PySem.W.alikeAll, PySem.W.alike, Bool.true_and]
    exact alikeAll_ints ns ms
def rowD (ns : List Int) : D := .tuple (ns.map .int)
theorem alike_rows (L : List (List Int)) : ∀ x ∈ L.map rowD, ∀ y ∈ L.map rowD, PySem.W.alike x y = true := fun x hx y hy => by
  obtain ⟨i, _, rfl⟩ := List.mem_map.mp hx
  obtain ⟨j, _, rfl⟩ := List.mem_map.mp hy
  simp only [rowD, PySem.W.alike]
  exact alikeAll_ints _ _
theorem map_int_inj {ns ms : List Int} (h : ns.map PyData.int = ms.map PyData.int) : ns = ms := by
  induction ns generalizing ms with
  | nil => cases ms with
    | nil => rfl
    | cons _ _ => cases h
  | cons n ns ih => cases ms with
    | nil => cases h
    | cons m ms =>
      rw [List.map_cons, List.map_cons] at h
      injection h with h1 h2
      injection h1 with h1
      rw [h1, ih h2]
theorem rowD_inj {ns ms : List Int} (h : rowD ns = rowD ms) : ns = ms := by
  unfold rowD at h
  injection h with h
  exact map_int_inj h
/-- a set gathered: what stands in it, in some order -/
theorem gather_set {pins : List (Addr × Obj)} {σ : L2.St} {s : Shared} {S : S} {g : Gh} {a : Addr} {xs : List D} (hK : X.K = B.K) (hP : X.prog = B.P) (hw : X.w = B.w) (hc : X.calm = true) (I : Inv X pins σ g.H s) (R : Rep B S g) (r : WV B g (.ref a) (.set xs)) :
    (∀ x ∈ xs, ∀ y ∈ xs, PySem.W.alike x y = true) ∧ ∀ {E' : Value → Shared → Prop} {Q' : List Value → Shared → Prop}, (∀ s1 us, (∀ b o, s.heap.get? b = some o → s1.heap.get? b = some o) → s.heap.objs.size ≤ s1.heap.objs.size → s1.gens = s.gens → s1.os = s.os →
      (∃ ys, PySem.W.EachIs (VD B.K g.F) us ys ∧ ys.Perm xs) → Q' us s1) → wpAny (model X.prog X.w) X.A.in1 (collect (.ref a)) Q' E' s := by
  cases r with
  | seti hF nd hf p =>
    rename_i ns f n
    have hS : SetR X.w s.heap a f n := setO_get I (by rw [hw]; exact R.sub _ _ hF)
    obtain ⟨o, es, ep, t, ho, hex, hd, gd, nk, hm, hb, hft, hn, hr, hl⟩ := hS
    refine ⟨fun x hx y hy => alike_ints' ns x (p.mem_iff.mp hx) y (p.mem_iff.mp hy), fun k => ?_⟩
    refine collect_set (A := X.A.in1) (I.ok.hd hc) ⟨o, ho, hex.1, hd⟩ hft hb hr hl fun s1 us k1 hz1 g1 o1 pm => k _ _ k1 hz1 g1 o1 ?_
    obtain ⟨L', h1, h2⟩ := perm_map_ex pm _ rfl
    refine ⟨L'.map fun e => .int (keyOf e), ?_, ?_⟩
    · rw [h2]
      have : ∀ l : List (Int × Value), (∀ e ∈ l, GoodE e) → PySem.W.EachIs (VD B.K g.F) (l.map (·.2)) (l.map fun e => PyData.int (keyOf e)) := fun l => by
        induction l with
        | nil => intro _; exact .nil
        | cons e l ih =>
          intro hg
          obtain ⟨kk, tk, e1, _⟩ := hg e List.mem_cons_self
          refine .cons ⟨.int kk, ?_, ?_⟩ (ih fun x hx => hg x (List.mem_cons_of_mem _ hx))
          · show RelV (.int kk) e.2
            rw [e1]; exact ⟨tk, rfl⟩
          · have : keyOf e = kk := by unfold keyOf; rw [e1]
            show DV _ _ _ (.int (keyOf e))
            rw [this]; exact .int _
      exact this L' fun e he => gd e (h1.mem_iff.mp he)
    · refine List.Perm.trans ?_ p.symm
      have e1 : (L'.map fun e => PyData.int (keyOf e)) = (L'.map keyOf).map PyData.int := by rw [List.map_map]; rfl
      rw [e1]
      refine List.Perm.map _ ((h1.map keyOf).trans ((List.perm_ext_iff_of_nodup nk nd).mpr fun z => ?_))
      rw [← hm, hf]
  | sett hF hk nd p =>
    rename_i L
    have hS : SetT0 X.prog X.w s.heap a L := (I.hok a (SetTO X.prog X.w a L) (R.sub _ _ (by rw [hP, hw]; exact hF))).1
    have hI : ∀ q ∈ L, IsT X.prog X.w s.heap q.2 q.1 := fun q hq => I.isT (hK ▸ R.sub.sqT (hk q hq))
    obtain ⟨es, ep, t, T⟩ := hS.full hI
    obtain ⟨o, ho, hex, hd⟩ := T.ob
    have hal : (L.map fun q => PyData.tuple (q.2.map .int)) = (L.map (·.2)).map rowD := by rw [List.map_map]; rfl
    refine ⟨fun x hx y hy => alike_rows (L.map (·.2)) x (hal ▸ p.mem_iff.mp hx) y (hal ▸ p.mem_iff.mp hy), fun k => ?_⟩
    refine collect_set (A := X.A.in1) (I.ok.hd hc) ⟨o, ho, hex.1, hd⟩ T.fits (by have := T.size; have := T.few; unfold scanBound; omega) T.tab.ris T.led fun s1 us k1 hz1 g1 o1 pm => k _ _ k1 hz1 g1 o1 ?_
    have hes : es.toList.map (·.2) = L.map fun q => Value.ref q.1 := by
      rw [T.rows]; unfold rowsOf; rw [List.map_map]; rfl
    rw [hes] at pm
    obtain ⟨L', h1, h2⟩ := perm_map_ex pm L rfl
    refine ⟨L'.map fun q => .tuple (q.2.map .int), ?_, (h1.map _).trans p.symm⟩
    rw [h2]
    have hi : ∀ ns : List Int, DVs B.K g.F (ns.map V.int) (ns.map .int) := fun ns => by
      induction ns with
      | nil => exact .nil
      | cons n ns ih => exact .cons (.int n) ih
    have : ∀ l : List (Addr × List Int), (∀ e ∈ l, SqT B.K g.F e.1 (e.2.map V.int)) → PySem.W.EachIs (VD B.K g.F) (l.map fun q => Value.ref q.1) (l.map fun q => PyData.tuple (q.2.map .int)) := fun l => by
      induction l with
      | nil => intro _; exact .nil
      | cons e l ih => intro hg; exact .cons ⟨.ref e.1, rfl, .tup (hg e List.mem_cons_self) (hi _)⟩ (ih fun x hx => hg x (List.mem_cons_of_mem _ hx))
    exact this L' fun e he => hk e (h1.mem_iff.mp he)
theorem sortable_perm {xs ys : List D} (p : ys.Perm xs) (h : sortable xs = true) : sortable ys = true := by
  unfold sortable at h ⊢
  have e : ∀ f : D → Bool, ys.all f = xs.all f := fun f => by
    rw [Bool.eq_iff_iff, List.all_eq_true, List.all_eq_true]
    exact ⟨fun q x hx => q x (p.mem_iff.mpr hx), fun q x hx => q x (p.mem_iff.mp hx)⟩
  rw [p.length_eq, e, e, e, e]
  have e2 : (fun x => ys.all fun y => PySem.W.alike x y) = fun x => xs.all fun y => PySem.W.alike x y := funext fun x => e _
  rw [e2]; exact h
theorem cb_sorted (hK : X.K = B.K) (hP : X.prog = B.P) (hw : X.w = B.w) (hc : X.calm = true) (hu : X.A.units + 100 < cLine) : CallR X (.builtin "sorted") (rBd B .sorted) := by
  intro pins s σ H vs us Q I r h
  obtain ⟨S, g, xs, w, rfl, R, l, hb, q⟩ := h
  simp only [biD] at hb
  split at hb <;> (try (simp at * <;> done))
  · split at hb
    · rename_i hs
      cases hb
      obtain ⟨v, rfl, lx⟩ := lvs1 l
      obtain ⟨a, vs, rfl, ha, da⟩ := lx.lst R
      obtain ⟨its, rv, ⟨o, n, ho, hcl, hdi, hd⟩, hz⟩ := I.list (SqL.of ha)
      rw [Vals.ref1 r]
      have hl := rv.length
      exact sorted_word hK hu I R hs (by rw [← da.length]; exact hz) (fun k => gather a (.inl rfl) ho hcl hd (by omega) fun h' k1 k2 => k _ _ k1 k2 rfl rfl ⟨_, vals_vd rv da, rfl, hs, rfl⟩) q.d
    · cases hb
  · split at hb
    · rename_i hs
      cases hb
      obtain ⟨v, rfl, lx⟩ := lvs1 l
      obtain ⟨a, vs, rfl, ha, _, da⟩ := lx.tup R
      obtain ⟨its, rv, ⟨o, ho, hcl, n, hd⟩, hz⟩ := I.tuple (hK ▸ ha)
      rw [Vals.ref1 r]
      have hl := rv.length
      exact sorted_word hK hu I R hs (by rw [← da.length]; exact hz) (fun k => gather a (.inr rfl) ho hcl hd (by omega) fun h' k1 k2 => k _ _ k1 k2 rfl rfl ⟨_, vals_vd rv da, rfl, hs, rfl⟩) q.d
    · cases hb
theorem scan_big {n : Nat} (h : n ≤ 2000) : n + 1 < scanBound := by unfold scanBound; omega
theorem rOf_rel {K : Kf} {F : Hp} : ∀ {xs : List D} {vs : List V} {rs : List (List Int)}, DVs K F vs xs → rOf xs = some rs → ∃ ks : List (Addr × List Int), vs = ks.map (fun p => V.ref p.1) ∧ xs = ks.map (fun p => PyData.tuple (p.2.map .int)) ∧ ∀ p ∈ ks, SqT K F p.1 (p.2.map V.int) := by
  intro xs
  induction xs with
  | nil =>
    intro vs rs d h
    cases d
    exact ⟨[], rfl, rfl, fun _ z => nomatch z⟩
  | cons x xs ih =>
    intro vs rs d h
    cases d with
    | cons d1 d2 =>
      cases x with
      | tuple ys =>
        simp only [rOf, Option.bind_eq_some_iff, Option.map_eq_some_iff] at h
        obtain ⟨is, h1, rs', h2, rfl⟩ := h
        obtain ⟨ks, e1, e2, e3⟩ := ih d2 h2
        cases d1 with
        | tup ht hd =>
          obtain ⟨rfl, rfl⟩ := iOf_rel hd h1
          exact ⟨(_, is) :: ks, by rw [e1]; rfl, by rw [e2]; rfl, fun p hp => (List.mem_cons.mp hp).elim (fun z => by rw [z]; exact ht) (e3 p)⟩
      | _ => cases h
/-- set(xs), xs ints or rows of ints -/
theorem cb_set (hK : X.K = B.K) (hP : X.prog = B.P) (hw : X.w = B.w) (hc : X.calm = true) (hu : X.A.units + 100 < cLine) : CallR X (.type "set") (rBd B .set) := by
  intro pins s σ H vs us Q I r h
  obtain ⟨S, g, xs, w, rfl, R, l, hb, q⟩ := h
  have hn : g.H s.heap.objs.size = none := I.hok.fresh (Nat.le_refl _)
  -- the end, by what was made
  have finI : ∀ {h' : Heap} {tk c : Nat} {ns : List Int} {ys : List D}, ys = ns.map .int → NewW B S g (.set (onceD [] ys)) Q → SetR X.w h' s.heap.objs.size (fun j => decide (j ∈ ns)) c → (∀ b o, s.heap.get? b = some o → h'.get? b = some o) → EP X pins σ Q (.ref s.heap.objs.size) { s with heap := h', toks := tk } := by
    intro h' tk c ns ys ey q hS k
    obtain ⟨e, R'⟩ := R.new (o := SetO B.w s.heap.objs.size (fun j => decide (j ∈ ns)) c) hn (fun _ z => nomatch z)
    obtain ⟨o1, o2⟩ := once_spec ys [] (by rw [List.nil_append, ey]; exact alike_ints' ns)
    have hex : ∃ ms : List Int, onceD [] ys = ms.map .int := by
      have : ∀ z ∈ onceD [] ys, ∃ i, z = PyData.int i := fun z hz => by
        have := ((o2 z).mp hz).1
        rw [ey] at this
        obtain ⟨i, _, rfl⟩ := List.mem_map.mp this
        exact ⟨i, rfl⟩
      generalize onceD [] ys = l at this
      induction l with
      | nil => exact ⟨[], rfl⟩
      | cons z l ih =>
        obtain ⟨i, rfl⟩ := this z List.mem_cons_self
        obtain ⟨ms, e⟩ := ih fun y hy => this y (List.mem_cons_of_mem _ hy)
        exact ⟨i :: ms, by rw [e]; rfl⟩
    obtain ⟨ms, em⟩ := hex
    have nm : ms.Nodup := by
      rw [em] at o1
      exact (List.pairwise_map.mp o1).imp fun hne e => hne (by rw [e])
    refine ⟨.ref s.heap.objs.size, _, ?_, rfl, q (.ref s.heap.objs.size) _ e R' (.seti (ns := ms) upd_same nm (fun k => ?_) (by rw [em]))⟩
    · rw [← hw]
      exact I.laid (t' := tk) k (Nat.le_refl _) (setO_new hS)
    · rw [decide_eq_true_eq]
      have z := o2 (.int k)
      rw [em, ey] at z
      simpa using z.symm
  have finT : ∀ {h' : Heap} {tk : Nat} {ks L : List (Addr × List Int)} {es : Array (Int × Value)} {ep : Nat} {t : SetTable} {ys : List D}, ys = ks.map (fun p => .tuple (p.2.map .int)) → (∀ p ∈ ks, SqT B.K g.F p.1 (p.2.map V.int)) → NewW B S g (.set (onceD [] ys)) Q →
      SetTR X.prog X.w h' s.heap.objs.size L es ep t → Got ks ks.length L → (∀ b o, s.heap.get? b = some o → h'.get? b = some o) → EP X pins σ Q (.ref s.heap.objs.size) { s with heap := h', toks := tk } := by
    intro h' tk ks L es ep t ys ey hks q hS hg k
    obtain ⟨e, R'⟩ := R.new (o := SetTO B.P B.w s.heap.objs.size L) hn (fun _ z => nomatch z)
    have e2 : ks.map (fun p => PyData.tuple (p.2.map .int)) = (ks.map (·.2)).map rowD := by rw [List.map_map]; rfl
    obtain ⟨o1, o2⟩ := once_spec ys [] (by rw [List.nil_append, ey, e2]; exact alike_rows _)
    have sub : ∀ p ∈ L, p ∈ ks := fun p hp => List.mem_of_mem_take (hg.sub p hp)
    refine ⟨.ref s.heap.objs.size, _, ?_, rfl, q (.ref s.heap.objs.size) _ e R' (.sett upd_same (fun p hp => e.sub.sqT (hks p (sub p hp))) hS.nd ?_)⟩
    · rw [← hw, ← hP]
      exact I.laid (t' := tk) k (Nat.le_refl _) (setTO_new hS.t0)
    · have e3 : L.map (fun p => PyData.tuple (p.2.map .int)) = (L.map (·.2)).map rowD := by rw [List.map_map]; rfl
      have nL : (L.map fun p => PyData.tuple (p.2.map .int)).Nodup := by
        rw [e3]
        exact List.pairwise_map.mpr (hS.nd.imp fun hne e => hne (rowD_inj e))
      refine (List.perm_ext_iff_of_nodup o1 nL).mpr fun z => ?_
      rw [o2, ey]
      refine ⟨fun ⟨hz, _⟩ => ?_, fun hz => ⟨?_, by simp⟩⟩
      · obtain ⟨p, hp, rfl⟩ := List.mem_map.mp hz
        have := hg.all p (by rw [List.take_length]; exact hp)
        obtain ⟨p', hp', e⟩ := List.mem_map.mp this
        exact List.mem_map.mpr ⟨p', hp', by rw [e]⟩
      · obtain ⟨p, hp, rfl⟩ := List.mem_map.mp hz
        exact List.mem_map.mpr ⟨p, sub p hp, rfl⟩
  simp only [biD] at hb
  split at hb <;> (try (simp at * <;> done))
  · split at hb
    · rename_i hs
      cases hb
      obtain ⟨v, rfl, lx⟩ := lvs1 l
      obtain ⟨a, vs, rfl, ha, da⟩ := lx.lst R
      obtain ⟨its, rv, pl, hz⟩ := I.list (SqL.of ha)
      rw [Vals.ref1 r]
      simp only [Bool.or_eq_true, Bool.and_eq_true, decide_eq_true_eq, Option.isSome_iff_exists] at hs
      rcases hs with ⟨⟨ns, h1⟩, h2⟩ | ⟨⟨rs, h1⟩, h2⟩
      · obtain ⟨rfl, rfl⟩ := iOf_rel da h1
        exact set_listI ns (I.ok.hd hc) pl.isList (by simpa using rv.ints) (scan_big (by simpa using h2)) fun h' tk c hS _ k => finI rfl q hS k
      · obtain ⟨ks, rfl, rfl, h3⟩ := rOf_rel da h1
        exact call_set_tups ks (I.ok.hd hc) pl.isList (by simpa using refs_of_vals rv) (fun p hp => I.isT (hK ▸ R.sub.sqT (h3 p hp))) (by simpa using h2) (by omega) fun h' tk L es ep t hS hg k => finT rfl h3 q hS hg k
    · cases hb
  · split at hb
    · rename_i hs
      cases hb
      obtain ⟨v, rfl, lx⟩ := lvs1 l
      obtain ⟨a, vs, rfl, ha, _, da⟩ := lx.tup R
      obtain ⟨its, rv, pl, hz⟩ := I.tuple (hK ▸ ha)
      rw [Vals.ref1 r]
      simp only [Bool.or_eq_true, Bool.and_eq_true, decide_eq_true_eq, Option.isSome_iff_exists] at hs
      rcases hs with ⟨⟨ns, h1⟩, h2⟩ | ⟨⟨rs, h1⟩, h2⟩
      · obtain ⟨rfl, rfl⟩ := iOf_rel da h1
        exact call_set_tupI ns (I.ok.hd hc) pl (by simpa using rv.ints) (scan_big (by simpa using h2)) fun h' tk c hS _ k => finI rfl q hS k
      · obtain ⟨ks, rfl, rfl, h3⟩ := rOf_rel da h1
        exact set_tupT ks (I.ok.hd hc) pl (by simpa using refs_of_vals rv) (fun p hp => I.isT (hK ▸ R.sub.sqT (h3 p hp))) (by simpa using h2) (by omega) fun h' tk L es ep t hS hg k => finT rfl h3 q hS hg k
    · cases hb
end
end Pd
end

set_option maxHeartbeats 200000
section
/-! Pd9: calls by name. Own work, session 1. -/
namespace Pd
open PySem PySem.Spec PyProof.Rows L2

def calleeF (b : Bi) : Option String := match b with
  | .len => some "len"
  | .all => some "all"
  | .any => some "any"
  | .sum => some "sum"
  | .sorted => some "sorted"
  | .abs => some "abs"
  | .max => some "max"
  | .min => some "min"
  | _ => none
def calleeT (b : Bi) : Option String := match b with
  | .set => some "set"
  | .tuple => some "tuple"
  | .list => some "list"
  | .dict => some "dict"
  | .int => some "int"
  | .str => some "str"
  | _ => none
def rBi (B : Bk) (b : Bi) : List V → Hp → VK → Prop := fun vs H Q => ∃ ws S g w, g.H = H ∧ Rep B S g ∧ WVs B g vs ws ∧ biW b ws S = .ok w S ∧ NewW B S g w Q
section
variable {X : Cx} {B : Bk} {Wx : XK}
theorem bi_split {b : Bi} {ws : List W} {vs : List V} {S : S} {g : Gh} {w : W} (R : Rep B S g) (r : WVs B g vs ws) (h : biW b ws S = .ok w S) :
    (∃ xs, b = .sorted ∧ ws = [.set xs] ∧ sortable xs = true ∧ w = .d (.list (sortD xs))) ∨ (∃ xs, b = .len ∧ ws = [.set xs] ∧ w = .d (.int xs.length)) ∨ (∃ kvs, b = .len ∧ ws = [.dct kvs] ∧ w = .d (.int kvs.length)) ∨
    (∃ ns, b = .list ∧ ws = [.scr ns] ∧ w = .d (.list (ns.map .int))) ∨ ∃ xs, LVs B g vs xs ∧ biD b xs = some w := by
  unfold biW at h
  split at h
  · split at h
    · exact .inl ⟨_, rfl, rfl, by assumption, (pure_ok h).1.symm⟩
    · cases h
  · exact .inr (.inl ⟨_, rfl, rfl, (pure_ok h).1.symm⟩)
  · exact .inr (.inr (.inl ⟨_, rfl, rfl, (pure_ok h).1.symm⟩))
  · exact .inr (.inr (.inr (.inl ⟨_, rfl, rfl, (pure_ok h).1.symm⟩)))
  · obtain ⟨xs, S1, h1, h2⟩ := bind_ok h
    obtain ⟨rfl, l⟩ := lookAll_ok R r h1
    exact .inr (.inr (.inr (.inr ⟨xs, l, (opt_ok h2).1⟩)))
theorem wvs1 {g : Gh} {vs : List V} {x : W} (h : WVs B g vs [x]) : ∃ v, vs = [v] ∧ WV B g v x := by
  cases h with | cons a b => cases b; exact ⟨_, rfl, a⟩
/-- a built-in that has no case of its own -/
theorem cr_plain {f : Value} {b : Bi} (h : CallR X f (rBd B b)) (hb : b ≠ .sorted ∧ b ≠ .len ∧ b ≠ .list) : CallR X f (rBi B b) := by
  intro pins s σ H vs us Q I r ⟨ws, S, g, w, e, R, rw', hw, q⟩
  rcases bi_split R rw' hw with ⟨_, e, _⟩ | ⟨_, e, _⟩ | ⟨_, e, _⟩ | ⟨_, e, _⟩ | ⟨xs, l, hd⟩
  · exact absurd e hb.1
  · exact absurd e hb.2.1
  · exact absurd e hb.2.1
  · exact absurd e hb.2.2
  · exact h pins s σ H vs us Q I r ⟨S, g, xs, w, e, R, l, hd, q⟩
theorem wv_set_ref {g : Gh} {v : V} {xs : List D} (h : WV B g v (.set xs)) : ∃ a, v = .ref a := by cases h <;> exact ⟨_, rfl⟩
/-- a set is small -/
theorem set_few {pins : List (Addr × Obj)} {σ : L2.St} {s : Shared} {S : S} {g : Gh} {v : V} {xs : List D} (I : Inv X pins σ g.H s) (R : Rep B S g) (hK : X.K = B.K) (hP : X.prog = B.P) (hw : X.w = B.w) (h : WV B g v (.set xs)) : xs.length < 4096 ∧ ∃ a o es ep t, v = .ref a ∧ s.heap.get? a = some o ∧ o.ExactSet ∧ o.data = .set es ep t ∧ t.fits es.size = true ∧ es.size = xs.length := by
  cases h with
  | seti hF nd hf p =>
    rename_i a ns f n
    obtain ⟨o, es, ep, t, ho, hex, hd, gd, nk, hm, hb, hft, hn, hr, hl⟩ := setO_get I (a := a) (S := f) (n := n) (by rw [hw]; exact R.sub _ _ hF)
    have e1 : es.size = xs.length := by
      rw [p.length_eq, List.length_map]
      have : (es.toList.map keyOf).Perm ns := (List.perm_ext_iff_of_nodup nk nd).mpr fun z => by rw [← hm, hf]
      have z := this.length_eq
      rw [List.length_map, Array.length_toList] at z
      exact z
    refine ⟨by rw [← e1]; unfold scanBound at hb; omega, a, o, es, ep, t, rfl, ho, hex, hd, hft, e1⟩
  | sett hF hk nd p =>
    rename_i a L
    have hS : SetT0 X.prog X.w s.heap a L := (I.hok a (SetTO X.prog X.w a L) (R.sub _ _ (by rw [hP, hw]; exact hF))).1
    obtain ⟨es, ep, t, T⟩ := hS.full fun q hq => I.isT (hK ▸ R.sub.sqT (hk q hq))
    obtain ⟨o, ho, hex, hd⟩ := T.ob
    have e1 : es.size = xs.length := by rw [p.length_eq, List.length_map]; exact T.size
    have := T.few
    exact ⟨by rw [p.length_eq, List.length_map]; omega, a, o, es, ep, t, rfl, ho, hex, hd, T.fits, e1⟩
theorem cr_sorted' (hK : X.K = B.K) (hP : X.prog = B.P) (hw : X.w = B.w) (hc : X.calm = true) (hu : X.A.units + 100 < cLine) : CallR X (.builtin "sorted") (rBi B .sorted) := by
  intro pins s σ H vs us Q I r ⟨ws, S, g, w, e, R, rw', hw', q⟩
  rcases bi_split R rw' hw' with ⟨xs, _, rfl, hs, rfl⟩ | ⟨_, e, _⟩ | ⟨_, e, _⟩ | ⟨_, e, _⟩ | ⟨xs, l, hd⟩
  · subst e
    obtain ⟨v, rfl, rv⟩ := wvs1 rw'
    obtain ⟨a, rfl⟩ := wv_set_ref rv
    rw [Vals.ref1 r]
    obtain ⟨hal, col⟩ := gather_set hK hP hw hc I R rv
    have hz : xs.length ≤ sizeLine := by
      have := set_few I R hK hP hw rv
      rw [sizeLine_eq]; omega
    exact sorted_word hK hu I R hs hz (fun k => col fun s1 us1 k1 hz1 g1 o1 ⟨ys, e1, e2⟩ => k s1 us1 k1 hz1 g1 o1 ⟨ys, e1, e2.length_eq, sortable_perm e2 hs, sortD_perm e2 fun x hx y hy => hal x (e2.mem_iff.mp hx) y (e2.mem_iff.mp hy)⟩) q.d
  · cases e
  · cases e
  · cases e
  · exact cb_sorted hK hP hw hc hu pins s σ H vs us Q I r ⟨S, g, xs, w, e, R, l, hd, q⟩
theorem cr_len' (hK : X.K = B.K) (hP : X.prog = B.P) (hw : X.w = B.w) : CallR X (.builtin "len") (rBi B .len) := by
  intro pins s σ H vs us Q I r ⟨ws, S, g, w, e, R, rw', hw', q⟩
  rcases bi_split R rw' hw' with ⟨_, e, _⟩ | ⟨xs, _, rfl, rfl⟩ | ⟨kvs, _, rfl, rfl⟩ | ⟨_, e, _⟩ | ⟨xs, l, hd⟩
  · cases e
  · subst e
    obtain ⟨v, rfl, rv⟩ := wvs1 rw'
    obtain ⟨hz, a, o, es, ep, t, rfl, ho, hex, hd, hf, hn⟩ := set_few I R hK hP hw rv
    rw [Vals.ref1 r]
    exact call_len_set ho hex hd hf (by rw [hn]; omega) ⟨.int xs.length, g.H, I.tok _, ⟨_, by rw [hn]⟩, q.old R (.d (.int _))⟩
  · subst e
    obtain ⟨v, rfl, rv⟩ := wvs1 rw'
    cases rv with
    | dct ks hF hp =>
      refine call_lenD pins s σ g.H _ us Q I r ⟨_, ks, rfl, R.sub _ _ hF, ?_⟩
      have : ks.length = kvs.length := Paired.length hp
      rw [this]
      exact q.old R (.d (.int _))
  · cases e
  · exact cb_len hK pins s σ H vs us Q I r ⟨S, g, xs, w, e, R, l, hd, q⟩
theorem dvs_ints {K : Kf} {F : Hp} : ∀ ns : List Int, DVs K F (ns.map V.int) (ns.map .int)
  | [] => .nil
  | n :: ns => .cons (.int n) (dvs_ints ns)
theorem cr_list' (hK : X.K = B.K) : CallR X (.type "list") (rBi B .list) := by
  intro pins s σ H vs us Q I r ⟨ws, S, g, w, e, R, rw', hw', q⟩
  rcases bi_split R rw' hw' with ⟨_, e, _⟩ | ⟨_, e, _⟩ | ⟨_, e, _⟩ | ⟨ns, _, rfl, rfl⟩ | ⟨xs, l, hd⟩
  · cases e
  · cases e
  · cases e
  · subst e
    obtain ⟨v, rfl, rv⟩ := wvs1 rw'
    cases rv with
    | scr h => exact call_list_of pins s σ g.H _ us Q I r ⟨_, _, rfl, .inl (hK ▸ R.sub.sqL h), fun p hp => q.d.lst R hp (dvs_ints ns)⟩
  · exact cb_list hK pins s σ H vs us Q I r ⟨S, g, xs, w, e, R, l, hd, q⟩
theorem ite_some' {α : Type} {x y : Str} {b' b : α} {r : Option α} (h : (if x = y then some b' else r) = some b) : (x = y ∧ b' = b) ∨ r = some b := by
  by_cases e : x = y
  · rw [if_pos e] at h; exact .inl ⟨e, Option.some.inj h⟩
  · rw [if_neg e] at h; exact .inr h
theorem bi_known {x : Str} {b : Bi} (h : biOf x = some b) : (∃ n, calleeF b = some n ∧ bootBuiltins x = some (.builtin n)) ∨ ∃ n, calleeT b = some n ∧ bootBuiltins x = some (.type n) := by
  unfold biOf at h
  rcases ite_some' h with ⟨rfl, rfl⟩ | h
  · exact .inl ⟨_, rfl, by decide +kernel⟩
  rcases ite_some' h with ⟨rfl, rfl⟩ | h
  · exact .inl ⟨_, rfl, by decide +kernel⟩
  rcases ite_some' h with ⟨rfl, rfl⟩ | h
  · exact .inl ⟨_, rfl, by decide +kernel⟩
  rcases ite_some' h with ⟨rfl, rfl⟩ | h
  · exact .inl ⟨_, rfl, by decide +kernel⟩
  rcases ite_some' h with ⟨rfl, rfl⟩ | h
  · exact .inl ⟨_, rfl, by decide +kernel⟩
  rcases ite_some' h with ⟨rfl, rfl⟩ | h
  · exact .inr ⟨_, rfl, by decide +kernel⟩
  rcases ite_some' h with ⟨rfl, rfl⟩ | h
  · exact .inr ⟨_, rfl, by decide +kernel⟩
  rcases ite_some' h with ⟨rfl, rfl⟩ | h
  · exact .inr ⟨_, rfl, by decide +kernel⟩
  rcases ite_some' h with ⟨rfl, rfl⟩ | h
  · exact .inr ⟨_, rfl, by decide +kernel⟩
  rcases ite_some' h with ⟨rfl, rfl⟩ | h
  · exact .inl ⟨_, rfl, by decide +kernel⟩
  rcases ite_some' h with ⟨rfl, rfl⟩ | h
  · exact .inr ⟨_, rfl, by decide +kernel⟩
  rcases ite_some' h with ⟨rfl, rfl⟩ | h
  · exact .inr ⟨_, rfl, by decide +kernel⟩
  rcases ite_some' h with ⟨rfl, rfl⟩ | h
  · exact .inl ⟨_, rfl, by decide +kernel⟩
  rcases ite_some' h with ⟨rfl, rfl⟩ | h
  · exact .inl ⟨_, rfl, by decide +kernel⟩
  cases h
variable {c : Cc} {sc : Scope} {ft : Ft}
theorem Cxt.units (C : Cxt X B Wx c sc ft) : X.A.units + 100 < cLine := by have := C.room.un; omega
theorem Cxt.units64 (C : Cxt X B Wx c sc ft) : X.A.units + 64 < cLine := by have := C.room.un; omega
theorem cr_biF (C : Cxt X B Wx c sc ft) {b : Bi} {n : String} (h : calleeF b = some n) : CallR X (.builtin n) (rBi B b) := by
  cases b <;> simp only [calleeF, Option.some.injEq, reduceCtorEq] at h <;> subst h
  · exact cr_len' C.K C.P C.w
  · exact cr_plain (cb_all C.calm) (by simp)
  · exact cr_plain (cb_any C.calm) (by simp)
  · exact cr_plain (cb_sum C.calm) (by simp)
  · exact cr_sorted' C.K C.P C.w C.calm C.units
  · exact cr_plain cb_abs (by simp)
  · exact cr_plain (cb_max C.calm) (by simp)
  · exact cr_plain (cb_min C.calm) (by simp)
theorem cr_biT (C : Cxt X B Wx c sc ft) {b : Bi} {n : String} (h : calleeT b = some n) : CallR X (.type n) (rBi B b) := by
  cases b <;> simp only [calleeT, Option.some.injEq, reduceCtorEq] at h <;> subst h
  · exact cr_plain (cb_set C.K C.P C.w C.calm C.units) (by simp)
  · exact cr_plain (cb_tuple C.K) (by simp)
  · exact cr_list' C.K
  · exact cr_plain (cb_dict C.K C.calm) (by simp)
  · exact cr_plain cb_int (by simp)
  · exact cr_plain cb_str (by simp)
theorem lookAll_end : ∀ (ws : List W) (S : S), (∃ x, lookAll ws S = .ok x S) ∨ lookAll ws S = .no
  | [], S => .inl ⟨[], rfl⟩
  | w :: ws, S => bind_end (look_end w S) fun x => bind_end (lookAll_end ws S) fun xs => .inl ⟨_, rfl⟩
theorem biW_end (b : Bi) (ws : List W) (S : S) : (∃ k, biW b ws S = .ok k S) ∨ biW b ws S = .no := by
  unfold biW
  split
  · split
    · exact .inl ⟨_, rfl⟩
    · exact .inr rfl
  · exact .inl ⟨_, rfl⟩
  · exact .inl ⟨_, rfl⟩
  · exact .inl ⟨_, rfl⟩
  · exact bind_end (lookAll_end ws S) fun x => opt_end _ _
theorem bi_read {b : Bi} {us : Es} (σ : L2.St) (H : Hp) (Q : VK) (h : tE B Wx (evE ft (.bi b us)) σ H Q) : tCB (rBi B b) (tAs B Wx (evEs ft us)) σ H Q := by
  obtain ⟨ρ, S, g, rfl, R, E, h⟩ := h
  simp only [evE] at h
  refine ⟨ρ, S, g, rfl, R, E, h.bind.imp fun ws S1 g1 e1 R1 h1 vs rvs => ?_⟩
  rcases biW_end b ws S1 with ⟨w, e⟩ | e
  · rw [e] at h1
    exact ⟨ws, S1, g1, w, rfl, R1, rvs, e, fun v g' e' R' r => h1 g' e' R' v r⟩
  · rw [e] at h1
    exact h1.elim
theorem e_bi (C : Cxt X B Wx c sc ft) {x : Str} {b : Bi} {e : Expr} {es : List Expr} {us : Es} {p pos : Pos} (hb : biOf x = some b) (hx : isBlt c sc x = true) (ha : PA X (e :: es) (tAs B Wx (evEs ft us))) (hp : ∀ y ∈ e :: es, plainArg y = true) :
    PE X (.Call (.Name x p) (e :: es) [] pos) (tE B Wx (evE ft (.bi b us))) := by
  obtain ⟨hg, hm, hd, hn⟩ := C.blt hx (by unfold known; rw [hb]; rfl)
  have he := starEach_plain (env := X.env) (es := es) (hp e List.mem_cons_self)
  have hpl := any_backTo (pos := pos) (env := X.env) (es := es) fun y hy => hp y (List.mem_cons_of_mem _ hy)
  rcases bi_known hb with ⟨n, h1, h2⟩ | ⟨n, h1, h2⟩
  · exact pe_imp (pe_callB (cr_biF C h1) hg hm h2 ha hn hd he hpl) bi_read
  · exact pe_imp (pe_callTy (cr_biT C h1) hg hm h2 ha hn hd he hpl) bi_read
/-- f(..), f a def of the text -/
theorem e_call (C : Cxt X B Wx c sc ft) {x : Str} {j : Nat} {es : List Expr} {us : Es} {p pos : Pos} (hj : idx c.fns x = some j) (hx : isGlo (sc.names.lookup x) = true) (hd : x ≠ "__debug__") (hn : es = [] → us = .nil)
    (ha : PA X es (tAs B Wx (evEs ft us))) (hp : ∀ y ∈ es, plainArg y = true) : PE X (.Call (.Name x p) es [] pos) (tE B Wx (evE ft (.call j us))) := by
  obtain ⟨f, fd, ps, k, hm, hkp, hb, hr, F, hlen⟩ := C.fns x j hj
  have rd : ∀ σ H Q, tE B Wx (evE ft (.call j us)) σ H Q → tCall (spF B ps.length (ft.fn j)) [] Wx (tAs B Wx (evEs ft us)) σ H Q := by
    intro σ H Q h
    obtain ⟨ρ, S, g, rfl, R, E, h⟩ := h
    simp only [evE] at h
    refine ⟨ρ, S, g, rfl, R, E, h.bind.imp fun ws S1 g1 e1 R1 h1 vs rvs => ?_⟩
    show spF B ps.length (ft.fn j) (vs ++ []) g1.H Q Wx
    rw [List.append_nil]
    refine ⟨?_, ws, S1, g1, rfl, R1, rvs, h1⟩
    rw [rvs.length]
    refine hlen ws S1 fun z => ?_
    rw [z] at h1
    exact h1.elim
  have ps' : Passes (L2.CX X.prog X.w) X Wx := L2.passes_call C.take fun _ _ _ _ z => z
  cases es with
  | nil =>
    refine pe_imp (pe_call0 F hr (C.glo hx) (by rw [C.mg]; exact hm) (by rw [C.K]; exact hkp) (by rw [C.K]; exact hb) .nil ps' (by simpa using hd)) fun σ H Q h => ?_
    have hu := hn rfl
    subst hu
    obtain ⟨ρ, S, g, rfl, R, E, h⟩ := rd σ H Q h
    simp only [evEs] at h
    exact h.pure R [] .nil
  | cons e es => exact pe_imp (pe_call F hr (C.glo hx) (by rw [C.mg]; exact hm) (by rw [C.K]; exact hkp) (by rw [C.K]; exact hb) .nil ps' ha (by simpa using hd) (starEach_plain (hp e List.mem_cons_self)) (any_backTo fun y hy => hp y (List.mem_cons_of_mem _ hy))) rd
end
end Pd
end

set_option maxHeartbeats 200000
section
/-! Pd10: isinstance, dicts, targets, what is walked. Own work, session 1. -/
namespace Pd
open PySem PySem.Spec PyProof.Rows L2
section
variable {X : Cx} {B : Bk} {Wx : XK} {c : Cc} {sc : Scope} {ft : Ft}

/-! ### isinstance -/
def tyName : Ty → String
  | .int => "int"
  | .bool => "bool"
  | .str => "str"
  | .list => "list"
  | .tuple => "tuple"
theorem ty_known {x : Str} {t : Ty} (h : tyOf x = some t) : bootBuiltins x = some (.type (tyName t)) := by
  unfold tyOf at h
  rcases ite_some' h with ⟨rfl, rfl⟩ | h
  · decide +kernel
  rcases ite_some' h with ⟨rfl, rfl⟩ | h
  · decide +kernel
  rcases ite_some' h with ⟨rfl, rfl⟩ | h
  · decide +kernel
  rcases ite_some' h with ⟨rfl, rfl⟩ | h
  · decide +kernel
  rcases ite_some' h with ⟨rfl, rfl⟩ | h
  · decide +kernel
  cases h
def rIsTy (B : Bk) (t : Ty) : List V → Hp → VK → Prop := fun vs H Q => ∃ S g x d, g.H = H ∧ Rep B S g ∧ vs = [x, .ty (tyName t)] ∧ LV B g x d ∧ Q (.bl (isTy t d)) H
theorem cr_isTy (hK : X.K = B.K) (t : Ty) : CallR X (.builtin "isinstance") (rIsTy B t) := by
  intro pins s σ H vs us Q I r h
  obtain ⟨S, g, x, d, rfl, R, rfl, lx, q⟩ := h
  obtain ⟨u, u2, rfl, r1, r2⟩ := vals2 r
  cases (show u2 = Value.type (tyName t) from r2)
  obtain ⟨as, rd⟩ := Dp.reads I d x u (hK ▸ (lx.dv R).dp) r1
  cases t with
  | int => exact PySem.W.isinstance_int_data rd fun tk _ => ⟨.bl _, g.H, I.tok tk, rfl, q⟩
  | bool => exact PySem.W.isinstance_bool_data rd fun tk _ => ⟨.bl _, g.H, I.tok tk, rfl, q⟩
  | str => exact PySem.W.isinstance_str_data rd fun tk _ => ⟨.bl _, g.H, I.tok tk, rfl, q⟩
  | list => exact PySem.W.isinstance_list_data rd fun tk _ => ⟨.bl _, g.H, I.tok tk, rfl, q⟩
  | tuple => exact PySem.W.isinstance_tuple_data rd fun tk _ => ⟨.bl _, g.H, I.tok tk, rfl, q⟩
theorem e_isi (C : Cxt X B Wx c sc ft) {a : Expr} {y : Str} {t : Ty} {u : E} {p p2 pos : Pos} (hi : isBlt c sc "isinstance" = true) (hy : isBlt c sc y = true) (ht : tyOf y = some t) (hp : plainArg a = true) (ha : PE X a (tE B Wx (evE ft u))) :
    PE X (.Call (.Name "isinstance" p) [a, .Name y p2] [] pos) (tE B Wx (evE ft (.isi u t))) := by
  obtain ⟨hg, hm, hd, hn⟩ := C.blt hi (by decide)
  obtain ⟨hg2, hm2, hd2, hn2⟩ := C.blt hy (by unfold known; rw [ht]; simp)
  have pa : PA X [a, .Name y p2] (tCons (tE B Wx (evE ft u)) (tCons (tC (.ty (tyName t))) tNil)) := pa_cons ha (pa_cons (pe_bltn hg2 hm2 (ty_known ht) rfl hn2 hd2) pa_nil) (starEach_plain hp)
  refine pe_imp (pe_callB (cr_isTy C.K t) hg hm (by decide +kernel) pa hn hd (starEach_plain hp) rfl) fun σ H Q h => ?_
  obtain ⟨ρ, S, g, rfl, R, E, h⟩ := h
  simp only [evE] at h
  refine ⟨ρ, S, g, rfl, R, E, h.bind.imp fun w S1 g1 e1 R1 h1 v r => ?_⟩
  obtain ⟨x, lx, h2⟩ := (Aft.bind (m := look w) h1).look R1 r
  exact ⟨S1, g1, v, x, rfl, R1, rfl, lx, h2.pure R1 _ (.d (.bl _))⟩

/-- list(a), a list that may change -/
theorem e_mlist (C : Cxt X B Wx c sc ft) {a : Expr} {u : E} {p pos : Pos} (hi : isBlt c sc "list" = true) (hp : plainArg a = true) (ha : PE X a (tE B Wx (evE ft u))) : PE X (.Call (.Name "list" p) [a] [] pos) (tE B Wx (evE ft (.mlist u))) := by
  obtain ⟨hg, hm, hd, hn⟩ := C.blt hi (by decide)
  have pa : PA X [a] (tCons (tE B Wx (evE ft u)) tNil) := pa_cons ha pa_nil (starEach_plain hp)
  refine pe_imp (pe_callTy call_list_of hg hm (by decide +kernel) pa hn hd (starEach_plain hp) rfl) fun σ H Q h => ?_
  obtain ⟨ρ, S, g, rfl, R, E, h⟩ := h
  simp only [evE] at h
  refine ⟨ρ, S, g, rfl, R, E, h.bind.imp fun w S1 g1 e1 R1 h1 v r => ?_⟩
  obtain ⟨x, lx, h2⟩ := (Aft.bind (m := look w) h1).look R1 r
  have fin : ∀ (vs : List V) (xs : List D), DVs B.K g1.F vs xs → Aft B Wx g1 ((Pd.small xs >>= fun zs => Pd.alloc zs) S1) (fun w S' g' => ∀ v, WV B g' v w → Q v g'.H) → ∀ p, g1.H p = none → Q (.ref p) (upd g1.H p (.lst vs)) := fun vs xs d h p hp => by
    obtain ⟨hz, h5⟩ := (Aft.bind (m := small _) h).small R1
    obtain ⟨w, S', g', e3, R3, hH3, r, h6⟩ := h5.alloc R1 hp d
    rw [← hH3]
    exact h6 _ r
  cases x with
  | list xs =>
    obtain ⟨a, vs, rfl, hl, d⟩ := lx.lst R1
    exact ⟨a, vs, rfl, .inl (SqL.of hl), fin vs xs d h2⟩
  | tuple xs =>
    obtain ⟨a, vs, rfl, ht, ht', d⟩ := lx.tup R1
    exact ⟨a, vs, rfl, .inr (C.K ▸ ht), fin vs xs d h2⟩
  | _ => exact h2.elim
/-! ### dicts -/
theorem e_getd (C : Cxt X B Wx c sc ft) {o : Expr} {ap pos : Pos} {k d : Expr} {u v w : E} (hp1 : plainArg k = true) (hp2 : plainArg d = true) (hl : (ap.endLine == pos.line) = true) (hob : attributeBase o "get" X.env (eval o X.env) = eval o X.env) (ho : PE X o (tE B Wx (evE ft u))) (hk : PE X k (tE B Wx (evE ft v)))
    (hd : PE X d (tE B Wx (evE ft w))) : PE X (.Call (.Attribute o "get" ap) [k, d] [] pos) (tE B Wx (evE ft (.getd u v w))) := by
  have st : starEach [k, d] X.env = [(false, eval k X.env), (false, eval d X.env)] := by rw [starEach_plain hp1, starEach_plain hp2]; rfl
  have m : M2 X o "get" ap k d pos := ⟨hob, by rw [st]; rfl, hl, by rw [st]; rfl⟩
  refine pe_imp (pe_dget2 (by have := C.units64; omega) ho hk hd m) fun σ H Q h => ?_
  obtain ⟨ρ, S, g, rfl, R, E, h⟩ := h
  simp only [evE] at h
  refine ⟨ρ, S, g, rfl, R, E, h.bind.imp fun w1 S1 g1 e1 R1 h1 v1 r1 => ?_⟩
  split at h1
  · cases r1 with
    | dct ks hF hpp =>
      refine ⟨_, rfl, .inl ⟨ks, .inl (R1.sub _ _ hF)⟩, ρ, S1, g1, rfl, R1, E.ext e1, h1.bind.imp fun w2 S2 g2 e2 R2 h2 v2 r2 => ⟨ρ, S2, g2, rfl, R2, (E.ext e1).ext e2, h2.bind.imp fun w3 S3 g3 e3 R3 h3 v3 r3 => ?_⟩⟩
      obtain ⟨y, ly, h4⟩ := (Aft.bind (m := look w2) h3).look R3 (r2.ext e3)
      obtain ⟨z, S4, g4, e4, R4, hH, _, dz, h5⟩ := (Aft.bind (m := Pd.toD w3) h4).toD R3 r3
      split at h5
      · rename_i hk
        have e14 : Ext g1 g4 := (e2.trans e3).trans e4
        obtain ⟨o1, hg, hm⟩ := dget_of (x := y) R4 (e14.sub _ _ hF) (Paired.mapP hpp fun a b z => ⟨e14.sub.dv z.1, e14.sub.dv z.2⟩) (e4.sub.dv (ly.key hk)) hk
        rw [← hH]
        refine ⟨o1, hg, h5.pure R4 _ (.d ?_)⟩
        split at hm
        · rename_i hv
          obtain ⟨v', rfl, dv⟩ := hm
          rw [hv]; exact dv
        · rename_i hv
          rw [hm, hv]; exact dz
      · exact h5.elim
  · exact h1.elim
theorem e_dsp1 {k d : Expr} {v w : E} {pos : Pos} (hk : PE X k (tE B Wx (evE ft v))) (hd : PE X d (tE B Wx (evE ft w))) : PE X (.Dict [some k] [d] pos) (tE B Wx (evE ft (.dsp1 v w))) := by
  refine pe_imp (pe_disp (pps_cons hk hd pps_nil) rfl rfl (by simp) (by simp)) fun σ H Q h => ?_
  obtain ⟨ρ, S, g, rfl, R, E, h⟩ := h
  simp only [evE] at h
  intro p hp
  -- the new dict stands by, not yet in sight
  have e0 : Ext g ⟨g.F, g.M, upd g.H p (.dK [])⟩ := Ext.refl.beside hp
  have R0 : Rep B S ⟨g.F, g.M, upd g.H p (.dK [])⟩ := R.beside (R.notF hp) (R.notM hp) (fun _ z => nomatch z) (loose_none hp)
  refine ⟨ρ, S, _, rfl, R0, E.ext e0, (Aft.bind (m := evE ft v ρ) (h.weaken e0)).eq.imp fun w1 S1 g1 e1 R1 ⟨q1, h1⟩ v1 r1 => ⟨ρ, S1, g1, rfl, R1, (E.ext e0).ext e1, h1.bind.eq.imp fun w2 S2 g2 e2 R2 ⟨q2, h2⟩ v2 r2 => ?_⟩⟩
  obtain ⟨y, ly, q3, h3⟩ := (Aft.bind (m := look w1) h2).eq.look R2 (r1.ext e2)
  obtain ⟨z, S4, g4, e4, R4, hH, hMM, dz, q4, h5⟩ := (Aft.bind (m := Pd.toD w2) h3).eq.toD R2 r2
  split at h5
  · rename_i hk
    obtain ⟨ky, rfl⟩ := key_of_dv (ly.key hk) hk
    have e24 := (e1.trans e2).trans e4
    obtain ⟨hp4, hM4, hF4⟩ := e24.by_ (q := p) upd_same (R.notM hp) (R.notF hp) (fun _ z => nomatch z)
    rw [← hH]
    refine ⟨hp4, [(ky, v2)], rfl, by simp, ?_⟩
    obtain ⟨hs, R5⟩ := R4.adopt (o := .dK (mergeK [] [(ky, v2)])) hF4 hM4 (fun _ z => nomatch z) (loose_dK hp4)
    have e5 : Ext g ⟨upd g4.F p (.dK (mergeK [] [(ky, v2)])), g4.M, upd g4.H p (.dK (mergeK [] [(ky, v2)]))⟩ := ((e0.trans e24)).adopt hp hF4
    rw [bind_eq q1, bind_eq q2, bind_eq q3, bind_eq q4, if_pos hk] at h
    refine h _ e5 R5 _ (.dct (mergeK [] [(ky, v2)]) upd_same ?_)
    refine .cons ⟨hs.dv ((e4.sub.dv (ly.key hk))), hs.dv dz⟩ .nil
  · exact h5.elim

/-! ### targets -/
theorem EnvR.set {g : Gh} {σ : L2.St} {ρ : Rho} (E : EnvR B g σ ρ) {i : Nat} {v : V} {w : W} (r : WV B g v w) : EnvR B g (σ.set i (some v)) (ρ.set i (some w)) := by
  refine ⟨by rw [List.length_set, List.length_set]; exact E.1, fun j w' h => ?_⟩
  rw [List.getElem?_set] at h
  by_cases e : i = j
  · subst e
    rw [if_pos rfl] at h
    split at h
    · rename_i hl
      cases h
      exact ⟨v, by rw [List.getElem?_set, if_pos rfl, if_pos (by rw [E.1]; exact hl)], r⟩
    · cases h
  · rw [if_neg e] at h
    obtain ⟨v', h1, h2⟩ := E.2 j w' h
    exact ⟨v', by rw [List.getElem?_set, if_neg e]; exact h1, h2⟩
def tG (B : Bk) (gg : G) : TG := fun v σ H Q => ∃ ρ S g x ρ', g.H = H ∧ Rep B S g ∧ EnvR B g σ ρ ∧ DV B.K g.F v x ∧ bindG gg x ρ = some ρ' ∧ ∀ σ', EnvR B g σ' ρ' → σ'.length = σ.length → (∀ j, j ∉ gNames gg → σ'[j]? = σ[j]?) → Q σ' H
def tGl (B : Bk) (gs : Gs) : TGs := fun vs σ H Q => ∃ ρ S g xs ρ', g.H = H ∧ Rep B S g ∧ EnvR B g σ ρ ∧ DVs B.K g.F vs xs ∧ bindGs gs xs ρ = some ρ' ∧ ∀ σ', EnvR B g σ' ρ' → σ'.length = σ.length → (∀ j, j ∉ gsNames gs → σ'[j]? = σ[j]?) → Q σ' H
theorem pg_imp {e : Expr} {t t' : TG} (h : PG X e t) (f : ∀ v σ H Q, t' v σ H Q → t v σ H Q) : PG X e t' := ⟨fun pins s σ H v u Q I r q => h.run pins s σ H v u Q I r (f v σ H Q q)⟩
theorem pgs_imp {e : List Expr} {t t' : TGs} (h : PGs X e t) (f : ∀ v σ H Q, t' v σ H Q → t v σ H Q) : PGs X e t' := ⟨fun pins s σ H vs us Q I r q => h.run pins s σ H vs us Q I r (f vs σ H Q q)⟩
theorem assignEach_plain {e : Expr} {es : List Expr} {env : Env} (h : plainArg e = true) : assignEach (e :: es) env = (false, assign e env) :: assignEach es env := by
  cases e <;> first | rfl | (simp [plainArg] at h)
theorem assignEach_all {env : Env} : ∀ {es : List Expr}, (∀ e ∈ es, plainArg e = true) → (assignEach es env).length = es.length ∧ (assignEach es env).findIdx? (·.1) = none
  | [], _ => ⟨rfl, rfl⟩
  | e :: es, h => by
    obtain ⟨h1, h2⟩ := assignEach_all (env := env) fun x hx => h x (List.mem_cons_of_mem _ hx)
    rw [assignEach_plain (h e List.mem_cons_self)]
    refine ⟨by rw [List.length_cons, List.length_cons, h1], ?_⟩
    rw [List.findIdx?_cons, h2]; rfl
theorem bindGs_len {gs : Gs} : ∀ {es : List Expr} {f : Expr → Option G} {xs : List D} {ρ ρ' : Rho}, cGs f es = some gs → bindGs gs xs ρ = some ρ' → xs.length = es.length := by
  intro es
  induction es generalizing gs with
  | nil =>
    intro f xs ρ ρ' h h2
    cases h
    unfold bindGs at h2
    cases xs with
    | nil => rfl
    | cons _ _ => cases h2
  | cons e es ih =>
    intro f xs ρ ρ' h h2
    unfold cGs at h
    split at h
    · rw [Option.bind_eq_some_iff] at h
      obtain ⟨g, _, h⟩ := h
      rw [Option.map_eq_some_iff] at h
      obtain ⟨gs', h, rfl⟩ := h
      unfold bindGs at h2
      cases xs with
      | nil => cases h2
      | cons x xs =>
        simp only [Option.bind_eq_some_iff] at h2
        obtain ⟨ρ1, _, h2⟩ := h2
        rw [List.length_cons, List.length_cons, ih h h2]
    · cases h
structure GCx (X : Cx) (B : Bk) (c : Cc) (sc : Scope) : Prop where
  K : X.K = B.K
  calm : X.calm = true
  N : X.N = c.N
  nd : c.N.Nodup
  loc : ∀ x i, slotOf c sc x = some i → Loc X.env.scope x ∧ (X.fn x = true ∨ X.env.scope.names.lookup x = some .local)
theorem slot_idx {x : Str} {i : Nat} (h : slotOf c sc x = some i) : idx c.N x = some i := by
  unfold slotOf at h
  split at h
  · exact h
  · cases h
theorem g_all (C : GCx X B c sc) : ∀ (n : Nat) (e : Expr) (gg : G), gOf c sc n e = some gg → PG X e (tG B gg)
  | 0, _, _, h => by cases h
  | n + 1, e, gg, h => by
    unfold gOf at h
    split at h
    · rename_i x p
      rw [Option.map_eq_some_iff] at h
      obtain ⟨i, hi, rfl⟩ := h
      obtain ⟨h1, h2⟩ := C.loc x i hi
      refine pg_imp (pg_name (i := i) (by rw [C.N]; exact C.nd) (by rw [C.N]; exact idx_get (slot_idx hi)) h1 h2) fun v σ H Q h => ?_
      obtain ⟨ρ, S, g, y, ρ', rfl, R, E, d, hb, q⟩ := h
      unfold bindG at hb
      cases hb
      refine q _ (E.set (.d d)) (by rw [List.length_set]) fun j hj => ?_
      rw [List.getElem?_set, if_neg]
      intro e
      exact hj (by unfold gNames; simp [e])
    · rename_i es k p
      rw [Option.map_eq_some_iff] at h
      obtain ⟨gs, hgs, rfl⟩ := h
      have main : ∀ {es : List Expr} {gs : Gs}, cGs (gOf c sc n) es = some gs → PGs X es (tGl B gs) ∧ ∀ e ∈ es, plainArg e = true := by
        intro es
        induction es with
        | nil =>
          intro gs h
          cases h
          refine ⟨pgs_imp pgs_nil fun vs σ H Q h => ?_, fun _ z => nomatch z⟩
          obtain ⟨ρ, S, g, xs, ρ', rfl, R, E, d, hb, q⟩ := h
          unfold bindGs at hb
          cases d with
          | nil =>
            cases hb
            exact ⟨rfl, q σ E rfl fun _ _ => rfl⟩
          | cons _ _ => cases hb
        | cons e es ih =>
          intro gs h
          unfold cGs at h
          split at h
          · rename_i hp
            rw [Option.bind_eq_some_iff] at h
            obtain ⟨g1, hg1, h⟩ := h
            rw [Option.map_eq_some_iff] at h
            obtain ⟨gs', h, rfl⟩ := h
            obtain ⟨q1, q2⟩ := ih h
            refine ⟨pgs_imp (pgs_cons (g_all C n e g1 hg1) q1 (by rw [assignEach_plain hp]; rfl)) fun vs σ H Q h => ?_, fun y hy => (List.mem_cons.mp hy).elim (fun z => z ▸ hp) (q2 y)⟩
            obtain ⟨ρ, S, g, xs, ρ', rfl, R, E, d, hb, q⟩ := h
            unfold bindGs at hb
            cases d with
            | nil => cases hb
            | cons d ds =>
              simp only [Option.bind_eq_some_iff] at hb
              obtain ⟨ρ1, hb1, hb2⟩ := hb
              refine ⟨_, _, rfl, ρ, S, g, _, ρ1, rfl, R, E, d, hb1, fun σ' E' hl' hj' => ⟨ρ1, S, g, _, ρ', rfl, R, E', ds, hb2, fun σ'' E'' hl'' hj'' => q σ'' E'' (hl''.trans hl') fun j hj => ?_⟩⟩
              unfold gsNames at hj
              rw [List.mem_append, not_or] at hj
              rw [hj'' j hj.2, hj' j hj.1]
          · cases h
      obtain ⟨q1, q2⟩ := main hgs
      obtain ⟨l1, l2⟩ := assignEach_all (env := X.env) q2
      refine pg_imp (pg_tup (n := es.length) C.calm q1 l1 l2) fun v σ H Q h => ?_
      obtain ⟨ρ, S, g, x, ρ', rfl, R, E, d, hb, q⟩ := h
      unfold bindG at hb
      split at hb
      · cases d with
        | tup ht ds =>
          refine ⟨_, _, rfl, by rw [C.K]; exact R.sub.sqT ht, ?_, ρ, S, g, _, ρ', rfl, R, E, ds, hb, fun σ' E' hl hj => q σ' E' hl fun j hjn => hj j (by unfold gNames at hjn; exact hjn)⟩
          rw [ds.length]
          exact bindGs_len hgs hb
      · cases hb
    · cases h

/-! ### what is walked -/
/-- an iterator that brings these items -/
structure Brings (B : Bk) (J : It) (F : Hp) (xs : List D) : Prop where
  go : ∀ i H, i < xs.length → Sub F H → J.go i H
  stop : ∀ H, Sub F H → J.stop xs.length H
  yld : ∀ i S g v H', Sub F g.F → Rep B S g → i < xs.length → J.yld i g.H v H' → ∃ g' x, g'.H = H' ∧ Ext g g' ∧ g'.M = g.M ∧ Rep B S g' ∧ xs[i]? = some x ∧ DV B.K g'.F v x
def tI (B : Bk) (Wx : XK) (m : Rho → M (List D)) : TI := fun σ H P => ∃ ρ S g, g.H = H ∧ Rep B S g ∧ EnvR B g σ ρ ∧ Aft B Wx g (m ρ S) fun xs S' g' => ∀ J, Brings B J g'.F xs → P J g'.H
theorem pi_imp {tg e : Expr} {t t' : TI} (h : PI X tg e t) (f : ∀ σ H P, t' σ H P → t σ H P) : PI X tg e t' := ⟨fun pins s σ H P I q => h.run pins s σ H P I (f σ H P q)⟩
theorem brings_seq {J : It} {G : Hp → Prop} {F : Hp} {vs : List V} {xs : List D} (w : Walk J vs.length G (YAt vs)) (hG : ∀ H, Sub F H → G H) (d : DVs B.K F vs xs) : Brings B J F xs := by
  refine ⟨fun i H hi s => w.goes i H (by rw [d.length]; exact hi) (hG H s), fun H s => by rw [← d.length]; exact w.stops H (hG H s), fun i S g v H' s R hi y => ?_⟩
  obtain ⟨y1, y2⟩ := w.yields i g.H v H' (by rw [d.length]; exact hi) (hG g.H (s.trans R.sub)) y
  obtain ⟨x, hx, dx⟩ := d.getV y2
  exact ⟨g, x, y1.symm, .refl, rfl, R, hx, s.dv dx⟩
theorem brings_range {lo : Int} {n : Nat} {F : Hp} : Brings B (Itr lo n) F (upTo lo n) := by
  have hl : (upTo lo n).length = n := by simp [upTo]
  refine ⟨fun i H hi _ => by rw [hl] at hi; exact hi, fun H _ => by rw [hl]; exact Nat.le_refl n, fun i S g v H' s R hi y => ?_⟩
  obtain ⟨y1, y2⟩ := y
  refine ⟨g, .int (lo + (i : Nat)), y1.symm, .refl, rfl, R, ?_, by rw [y2]; exact .int _⟩
  rw [hl] at hi
  simp [upTo, hi]
/-- pairs: new tuples -/
theorem brings_pair {J : It} {G : Hp → Prop} {F : Hp} {f h : Nat → Option V} {xs : List D} (w : Walk J xs.length G (YPair f h)) (hG : ∀ H, Sub F H → G H) (d : ∀ i v u, f i = some v → h i = some u → i < xs.length → ∃ x y, xs[i]? = some (.tuple [x, y]) ∧ DV B.K F v x ∧ DV B.K F u y) : Brings B J F xs := by
  refine ⟨fun i H hi s => w.goes i H hi (hG H s), fun H s => w.stops H (hG H s), fun i S g v H' s R hi y => ?_⟩
  obtain ⟨T, a, b, h1, h2, h3, h4, h5⟩ := w.yields i g.H v H' hi (hG g.H (s.trans R.sub)) y
  obtain ⟨x, z, hx, dx, dz⟩ := d i a b h4 h5 hi
  subst h1 h3
  obtain ⟨e, R'⟩ := R.new (o := .tup [a, b]) h2 (fun _ z => nomatch z)
  exact ⟨_, _, rfl, e, rfl, R', hx, .tup (SqT.of upd_same) (.cons ((s.trans e.sub).dv dx) (.cons ((s.trans e.sub).dv dz) .nil))⟩
theorem pi_seq {tg l : Expr} {tl : TE} (hl : PE X l tl) : PI X tg l (fun σ H P => tl σ H fun x H1 => ∃ a, x = .ref a ∧ (((∃ xs, SqL X.K H1 a xs) ∧ P (Itl X.K a) H1) ∨ ((∃ xs, SqT X.K H1 a xs) ∧ P (Itt X.K a) H1))) := by
  refine ⟨fun pins s σ H P I h => thn (hl.run pins s σ H _ I h) fun v s1 ⟨x, H1, I1, r1, a, e, q⟩ => ?_⟩
  subst e
  cases r1
  have fp : ∀ b ∈ [s1.heap.objs.size], FpOk X pins H1 b := fun b hb => by
    rw [List.mem_singleton.mp hb]
    exact I1.fpOk (Nat.le_refl _) (I1.hok.fresh (Nat.le_refl _))
  rcases q with ⟨⟨xs, hq⟩, q⟩ | ⟨⟨xs, hq⟩, q⟩
  · obtain ⟨its, rv, p, hz⟩ := I1.list hq
    exact wpAny_pyIter_list p.isList ⟨s1.heap.objs.size, [s1.heap.objs.size], _, _, H1, rfl, I1.kept (t' := s1.toks) fun b o e => Heap.get?_push_of_some _ e, turn_list a _, ⟨_, Heap.get?_push_size _ rfl, rfl, rfl⟩, fp, q⟩
  · obtain ⟨its, rv, p, hz⟩ := I1.tuple hq
    exact wpAny_pyIter_tuple (show s1.heap.IsTuple a its.toArray from p) ⟨s1.heap.objs.size, [s1.heap.objs.size], _, _, H1, rfl, I1.kept (t' := s1.toks) fun b o e => Heap.get?_push_of_some _ e, turn_tuple a _, ⟨_, Heap.get?_push_size _ rfl, rfl, rfl⟩, fp, q⟩
theorem i_of (hK : X.K = B.K) {tg e : Expr} {u : E} (he : PE X e (tE B Wx (evE ft u))) : PI X tg e (tI B Wx (evI ft (.of u))) := by
  refine pi_imp (pi_seq he) fun σ H P h => ?_
  obtain ⟨ρ, S, g, rfl, R, E, h⟩ := h
  simp only [evI] at h
  refine ⟨ρ, S, g, rfl, R, E, h.bind.imp fun w S1 g1 e1 R1 h1 v r => ?_⟩
  obtain ⟨x, S2, g2, e2, R2, hH, _, dx, h2⟩ := (Aft.bind (m := Pd.toD w) h1).toD R1 r
  rw [← hH]
  unfold seqD at h2
  split at h2
  · obtain ⟨hz, h3⟩ := Aft.small (show Aft B Wx g2 (Pd.small _ S2) _ from h2) R2
    cases dx with
    | lst hF ds => exact ⟨_, rfl, .inl ⟨⟨_, SqL.of (R2.sub _ _ hF)⟩, h3 _ (brings_seq walk_list (fun H s => SqL.of (s _ _ hF)) ds)⟩⟩
  · obtain ⟨hz, h3⟩ := Aft.small (show Aft B Wx g2 (Pd.small _ S2) _ from h2) R2
    cases dx with
    | tup hF ds => exact ⟨_, rfl, .inr ⟨⟨_, by rw [hK]; exact R2.sub.sqT hF⟩, h3 _ (brings_seq walk_tup (fun H s => by rw [hK]; exact s.sqT hF) ds)⟩⟩
  · exact h2.elim
theorem i_range1 (C : Cxt X B Wx c sc ft) {tg a : Expr} {u : E} {p pos : Pos} (hi : isBlt c sc "range" = true) (hp : plainArg a = true) (ha : PE X a (tE B Wx (evE ft u))) : PI X tg (.Call (.Name "range" p) [a] [] pos) (tI B Wx (evI ft (.range1 u))) := by
  obtain ⟨hg, hm, _, _⟩ := C.blt hi (by decide)
  refine pi_imp (pi_range1 hg hm (pa_cons ha pa_nil (starEach_plain hp)) (by rw [starEach_plain hp]; rfl)) fun σ H P h => ?_
  obtain ⟨ρ, S, g, rfl, R, E, h⟩ := h
  simp only [evI] at h
  refine ⟨ρ, S, g, rfl, R, E, h.bind.imp fun w S1 g1 e1 R1 h1 v r => ?_⟩
  obtain ⟨i, rfl, rfl, h2⟩ := (Aft.bind (m := isI w) h1).isI R1 r
  split at h2
  · rename_i hz
    have hb : (big : Int) = 16777216 := by decide
    exact ⟨i, rfl, by omega, by omega, h2.pure R1 _ brings_range⟩
  · exact h2.elim
theorem i_range2 (C : Cxt X B Wx c sc ft) {tg a b : Expr} {u u2 : E} {p pos : Pos} (hi : isBlt c sc "range" = true) (hp : plainArg a = true) (hp2 : plainArg b = true) (ha : PE X a (tE B Wx (evE ft u))) (hb : PE X b (tE B Wx (evE ft u2))) :
    PI X tg (.Call (.Name "range" p) [a, b] [] pos) (tI B Wx (evI ft (.range2 u u2))) := by
  obtain ⟨hg, hm, _, _⟩ := C.blt hi (by decide)
  refine pi_imp (pi_range2 hg hm (pa_cons ha (pa_cons hb pa_nil (starEach_plain hp2)) (starEach_plain hp)) (by rw [starEach_plain hp, starEach_plain hp2]; rfl) (by rw [starEach_plain hp2]; rfl)) fun σ H P h => ?_
  obtain ⟨ρ, S, g, rfl, R, E, h⟩ := h
  simp only [evI] at h
  refine ⟨ρ, S, g, rfl, R, E, h.bind.imp fun w S1 g1 e1 R1 h1 v r => ⟨ρ, S1, g1, rfl, R1, E.ext e1, h1.bind.imp fun w2 S2 g2 e2 R2 h2 v2 r2 => ?_⟩⟩
  obtain ⟨i, rfl, rfl, h3⟩ := (Aft.bind (m := isI w) h2).isI R2 (r.ext e2)
  obtain ⟨j, rfl, rfl, h4⟩ := (Aft.bind (m := isI w2) h3).isI R2 r2
  split at h4
  · rename_i hz
    have hb : (big : Int) = 16777216 := by decide
    exact ⟨i, j, rfl, ⟨by omega, by omega, by omega, by omega⟩, h4.pure R2 _ brings_range⟩
  · exact h4.elim
theorem enumD_get (xs : List D) (i : Nat) (h : i < xs.length) : ∃ x, xs[i]? = some x ∧ (enumD xs)[i]? = some (.tuple [.int (i : Nat), x]) := by
  refine ⟨xs[i], by simp [h], ?_⟩
  unfold enumD
  simp [h]
theorem enumD_len (xs : List D) : (enumD xs).length = xs.length := by simp [enumD]
theorem i_enum (C : Cxt X B Wx c sc ft) {a : Expr} {es : List Expr} {k : Nat} {u : E} {tp p pos : Pos} (hi : isBlt c sc "enumerate" = true) (hp : plainArg a = true) (ha : PE X a (tE B Wx (evE ft u))) :
    PI X (.Tuple es k tp) (.Call (.Name "enumerate" p) [a] [] pos) (tI B Wx (evI ft (.enum u))) := by
  obtain ⟨hg, hm, _, _⟩ := C.blt hi (by decide)
  refine pi_imp (pi_enum hg hm (pa_cons ha pa_nil (starEach_plain hp)) (by rw [starEach_plain hp]; rfl)) fun σ H P h => ?_
  obtain ⟨ρ, S, g, rfl, R, E, h⟩ := h
  simp only [evI] at h
  refine ⟨ρ, S, g, rfl, R, E, h.bind.imp fun w S1 g1 e1 R1 h1 v r => ?_⟩
  obtain ⟨x, S2, g2, e2, R2, hH, _, dx, h2⟩ := (Aft.bind (m := Pd.toD w) h1).toD R1 r
  rw [← hH]
  split at h2
  · obtain ⟨hz, h3⟩ := Aft.small h2 R2
    cases dx with
    | lst hF ds =>
      rename_i a' vs'
      refine ⟨_, _, rfl, SqL.of (R2.sub _ _ hF), h3 _ ?_⟩
      have hl := ds.length
      refine brings_pair (xs := enumD _) (by rw [enumD_len, ← hl]; exact walk_enum) (fun H s => SqL.of (s _ _ hF)) fun i v u hv hu' hi => ?_
      rw [enumD_len] at hi
      obtain ⟨y, hy, he⟩ := enumD_get _ i hi
      cases hv
      obtain ⟨v', hv', dv⟩ := ds.get hy
      rw [hu'] at hv'
      cases hv'
      exact ⟨_, _, he, .int _, dv⟩
  · exact h2.elim
theorem zipD_get (xs ys : List D) (i : Nat) (h : i < (zipD xs ys).length) : ∃ x y, xs[i]? = some x ∧ ys[i]? = some y ∧ (zipD xs ys)[i]? = some (.tuple [x, y]) := by
  have hl : (zipD xs ys).length = min xs.length ys.length := by simp [zipD]
  rw [hl] at h
  have h1 : i < xs.length := by omega
  have h2 : i < ys.length := by omega
  have hz : (xs.zip ys)[i]? = some (xs[i], ys[i]) := List.getElem?_zip_eq_some.mpr ⟨by simp [h1], by simp [h2]⟩
  exact ⟨xs[i], ys[i], by simp [h1], by simp [h2], by unfold zipD; rw [List.getElem?_map, hz]; rfl⟩
theorem zipD_len (xs ys : List D) : (zipD xs ys).length = min xs.length ys.length := by simp [zipD]
theorem walk_zipTT {K : Kf} {a b : Addr} {xs ys : List V} {n : Nat} (hn : n = min xs.length ys.length) : Walk (RZ.ItzT K a b) n (fun H => SqT K H a xs ∧ SqT K H b ys) (YPair (fun i => xs[i]?) (fun i => ys[i]?)) := by
  subst hn
  refine ⟨fun i _ hi q => ?_, fun _ q => ⟨xs, ys, q.1, q.2, by omega⟩, fun i H v H' _ q y => ?_⟩
  · have k1 : i < xs.length := by omega
    have k2 : i < ys.length := by omega
    exact ⟨xs, ys, xs[i]'k1, ys[i]'k2, q.1, q.2, by simp [k1], by simp [k2]⟩
  · obtain ⟨T, x, z, y1, y2, y3, y4, y5⟩ := y
    exact ⟨T, x, z, y1, y2, y3, y4 xs q.1, y5 ys q.2⟩
theorem i_zip (C : Cxt X B Wx c sc ft) {a b : Expr} {es : List Expr} {k : Nat} {u u2 : E} {tp p pos : Pos} (hi : isBlt c sc "zip" = true) (hp : plainArg a = true) (hp2 : plainArg b = true) (ha : PE X a (tE B Wx (evE ft u))) (hb : PE X b (tE B Wx (evE ft u2))) :
    PI X (.Tuple es k tp) (.Call (.Name "zip" p) [a, b] [] pos) (tI B Wx (evI ft (.zip u u2))) := by
  obtain ⟨hg, hm, _, _⟩ := C.blt hi (by decide)
  refine pi_imp (RZ.pi_zipA hg hm (pa_cons ha (pa_cons hb pa_nil (starEach_plain hp2)) (starEach_plain hp)) (starEach_plain hp) (any_backTo fun y hy => by rw [List.mem_singleton.mp hy]; exact hp2)) fun σ H P h => ?_
  obtain ⟨ρ, S, g, rfl, R, E, h⟩ := h
  simp only [evI] at h
  refine ⟨ρ, S, g, rfl, R, E, h.bind.imp fun w S1 g1 e1 R1 h1 v r => ⟨ρ, S1, g1, rfl, R1, E.ext e1, h1.bind.imp fun w2 S2 g2 e2 R2 h2 v2 r2 => ?_⟩⟩
  obtain ⟨x, S3, g3, e3, R3, hH, _, dx, h3⟩ := (Aft.bind (m := Pd.toD w) h2).toD R2 (r.ext e2)
  obtain ⟨y, S4, g4, e4, R4, hH4, _, dy, h4⟩ := (Aft.bind (m := Pd.toD w2) h3).toD R3 (r2.ext e3)
  have dx := e4.sub.dv dx
  rw [← hH, ← hH4]
  unfold zipsD at h4
  split at h4
  · obtain ⟨hz, h5⟩ := Aft.small (show Aft B Wx g4 (Pd.small _ S4) _ from h4) R4
    cases dx with
    | lst hF ds =>
      cases dy with
      | lst hF2 ds2 =>
        refine ⟨_, _, _, _, rfl, .inl ⟨SqL.of (R4.sub _ _ hF), SqL.of (R4.sub _ _ hF2), h5 _ ?_⟩⟩
        have l1 := ds.length
        have l2 := ds2.length
        refine brings_pair (xs := zipD _ _) (walk_zip (by rw [zipD_len, l1, l2])) (fun H s => ⟨SqL.of (s _ _ hF), SqL.of (s _ _ hF2)⟩) fun i v u hv hu' hi => ?_
        obtain ⟨x1, y1, hx, hy, he⟩ := zipD_get _ _ i hi
        obtain ⟨v', hv', dv⟩ := ds.get hx
        obtain ⟨u', hu2, du⟩ := ds2.get hy
        rw [hv] at hv'
        rw [hu'] at hu2
        cases hv'
        cases hu2
        exact ⟨_, _, he, dv, du⟩
  · obtain ⟨hz, h5⟩ := Aft.small (show Aft B Wx g4 (Pd.small _ S4) _ from h4) R4
    cases dx with
    | @tup a1 v1 _ hF ds =>
      cases dy with
      | @tup a2 v2 _ hF2 ds2 =>
        refine ⟨_, _, _, _, rfl, .inr ⟨by rw [C.K]; exact R4.sub.sqT hF, by rw [C.K]; exact R4.sub.sqT hF2, h5 _ ?_⟩⟩
        have l1 := ds.length
        have l2 := ds2.length
        refine brings_pair (xs := zipD _ _) (walk_zipTT (xs := v1) (ys := v2) (by rw [zipD_len, l1, l2])) (fun H s => ⟨by rw [C.K]; exact s.sqT hF, by rw [C.K]; exact s.sqT hF2⟩) fun i v u hv hu' hi => ?_
        obtain ⟨x1, y1, hx, hy, he⟩ := zipD_get _ _ i hi
        obtain ⟨v', hv', dv⟩ := ds.get hx
        obtain ⟨u', hu2, du⟩ := ds2.get hy
        rw [hv] at hv'
        rw [hu'] at hu2
        cases hv'
        cases hu2
        exact ⟨_, _, he, dv, du⟩
  · exact h4.elim
end
end Pd
end

set_option maxHeartbeats 200000
section
/-! Pd11: comprehensions. Own work, session 1. -/
namespace Pd
open PySem PySem.Spec PyProof.Rows L2
abbrev F0 : XK := fun _ _ _ => False
section
variable {X : Cx} {B : Bk} {Wx : XK} {c : Cc} {sc : Scope} {ft : Ft}
theorem wipeR_len (ρ : Rho) : ∀ vs, (wipeR ρ vs).length = ρ.length
  | [] => rfl
  | v :: vs => by unfold wipeR; rw [List.length_set, wipeR_len ρ vs]
theorem EnvR.unset {g : Gh} {σ : L2.St} {ρ : Rho} (E : EnvR B g σ ρ) (i : Nat) : EnvR B g (σ.set i none) (ρ.set i none) := by
  refine ⟨by rw [List.length_set, List.length_set]; exact E.1, fun j w h => ?_⟩
  rw [List.getElem?_set] at h ⊢
  by_cases e : i = j
  · subst e
    rw [if_pos rfl] at h
    split at h <;> cases h
  · rw [if_neg e] at h ⊢
    exact E.2 j w h
theorem EnvR.wipe {g : Gh} {σ : L2.St} {ρ : Rho} (E : EnvR B g σ ρ) : ∀ vs, EnvR B g (L2.wipe σ vs) (wipeR ρ vs)
  | [] => E
  | v :: vs => (EnvR.wipe E vs).unset v
theorem wipe_agree {σ σ' : L2.St} (hl : σ'.length = σ.length) : ∀ {vs : List Nat}, (∀ j, j ∉ vs → σ'[j]? = σ[j]?) → L2.wipe σ' vs = L2.wipe σ vs := by
  have gen : ∀ (vs : List Nat) (j : Nat) (τ : L2.St), (L2.wipe τ vs)[j]? = if j ∈ vs ∧ j < τ.length then some none else τ[j]? := by
    intro vs
    induction vs with
    | nil => intro j τ; simp [L2.wipe]
    | cons v vs ih =>
      intro j τ
      show ((L2.wipe τ vs).set v none)[j]? = _
      rw [List.getElem?_set, wipe_length, ih]
      by_cases e : v = j
      · subst e
        by_cases hj : v < τ.length
        · simp [hj]
        · simp [hj]
      · rw [if_neg e]
        have : (j ∈ v :: vs ∧ j < τ.length) = (j ∈ vs ∧ j < τ.length) := by
          simp [Ne.symm e]
        simp only [this]
  intro vs h
  apply List.ext_getElem?
  intro j
  rw [gen, gen, hl]
  by_cases hj : j ∈ vs
  · by_cases hk : j < σ.length
    · simp [hj, hk]
    · simp [hk]
      omega
  · simp [hj]
    exact h j hj
theorem toD_ok {w : W} {v : V} {S S' : Pd.S} {g : Gh} {y : D} (R : Rep B S g) (r : WV B g v w) (h : toD w S = .ok y S') : ∃ g', Ext g g' ∧ Rep B S' g' ∧ g'.H = g.H ∧ g'.M = g.M ∧ DV B.K g'.F v y := by
  have a : Aft B F0 g (toD w S) fun x S2 _ => toD w S = .ok x S2 := by rw [h]; exact fun _ _ _ => rfl
  obtain ⟨x, S2, g', e, R', h1, h2, d, q⟩ := a.toD R r
  rw [h] at q
  cases q
  exact ⟨g', e, R', h1, h2, d⟩
theorem upd_id {H : Hp} {a : Addr} {o : HO} (h : H a = some o) : upd H a o = H := by
  funext b
  by_cases e : b = a
  · rw [e, upd_same, h]
  · rw [upd_ne e]
theorem Aft.of_ok {α : Type} {g : Gh} {r : R α} {a : α} {S' : Pd.S} {P : α → Pd.S → Gh → Prop} (e : r = .ok a S') (h : ∀ g', Ext g g' → Rep B S' g' → P a S' g') : Aft B Wx g r P := by rw [e]; exact h
theorem nox_ok {α : Type} {m : M α} {β : Type} {f : α → M β} {g : Gh} {S : S} {P : β → Pd.S → Gh → Prop} (h : Aft B Wx g ((nox m >>= f) S) P) : ∃ a S', m S = .ok a S' ∧ Aft B Wx g (f a S') P := by
  have h : Aft B Wx g (M.andThen (nox m) f S) P := h
  unfold M.andThen nox at h
  cases q : m S with
  | ok a S' => rw [q] at h; exact ⟨a, S', rfl, h⟩
  | ex _ _ _ => rw [q] at h; exact h.elim
  | no => rw [q] at h; exact h.elim
/-- one turn of a comprehension -/
def lcStep (ft : Ft) (g : G) (ifs : Es) (elt : E) (ρ : Rho) (own : List Nat) (x : D) : M (Option D) := do
  let ρ1 ← opt (bindG g x (wipeR ρ own))
  let c ← evIfs ft ifs ρ1
  if c then do let w ← evE ft elt ρ1; let y ← toD w; pure (some y) else pure none
theorem lc_read {gg : G} {it : I} {ifs : Es} {elt : E} {own : List Nat} (hgn : ∀ j ∈ gNames gg, j ∈ own) (σ : L2.St) (H : Hp) (Q : VK) (h : tE B Wx (evE ft (.lc gg it ifs elt own)) σ H Q) :
    tLc (tI B Wx (evI ft it)) (tG B gg) (tB' B F0 (evIfs ft ifs)) (tE B F0 (evE ft elt)) own σ H Q := by
  obtain ⟨ρ, S, g0, rfl, R, E, h⟩ := h
  simp only [evE] at h
  refine ⟨ρ, S, g0, rfl, R, E, h.bind.imp fun xs S1 g1 e1 R1 h1 J bj L kD => ?_⟩
  have E1 := E.ext e1
  obtain ⟨zs, Se, hall, h2⟩ := nox_ok h1
  have hz : zs.length ≤ big ∧ Aft B Wx g1 ((Pure.pure (W.d (.list zs)) : M W) Se) (fun w S' g' => ∀ v, WV B g' v w → Q v g'.H) := by
    unfold small at h2
    by_cases c : zs.length ≤ big
    · rw [if_pos c] at h2; exact ⟨c, h2⟩
    · rw [if_neg c] at h2; exact h2.elim
  obtain ⟨hz, h3⟩ := hz
  change lcI (lcStep ft gg ifs elt ρ own) xs S1 = .ok zs Se at hall
  refine ⟨fun i m H => m = xs.length - i ∧ i ≤ xs.length ∧ ∃ S g acc ys, g.H = H ∧ Rep B S g ∧ Ext g1 g ∧ g.H L = some (.lst acc) ∧ L ∉ g.M ∧ g.F L = none ∧ DVs B.K g.F acc ys ∧ (lcI (lcStep ft gg ifs elt ρ own) (xs.drop i) >>= fun zs' => Pure.pure (ys ++ zs')) S = .ok zs Se,
    ⟨xs.length, by simp, Nat.zero_le _, S1, ⟨g1.F, g1.M, upd g1.H L (.lst [])⟩, [], [], rfl, R1.beside (R1.notF kD) (R1.notM kD) (fun _ z => nomatch z) (loose_none kD), Ext.refl.beside kD, upd_same, R1.notM kD, R1.notF kD, .nil, ?_⟩, ?_⟩
  · rw [List.drop_zero, bind_eq hall]; rfl
  · rintro i m H ⟨rfl, hi, S, g, acc, ys, rfl, R, e, hacc, hM, hF, da, heq⟩
    by_cases hlt : i < xs.length
    · refine .inr ⟨bj.go i g.H hlt (e.sub.trans R.sub), fun H' => (xs.length - (i + 1) = xs.length - (i + 1) ∧ i + 1 ≤ xs.length ∧ ∃ S g acc ys, g.H = H' ∧ Rep B S g ∧ Ext g1 g ∧ g.H L = some (.lst acc) ∧ L ∉ g.M ∧ g.F L = none ∧ DVs B.K g.F acc ys ∧
        (lcI (lcStep ft gg ifs elt ρ own) (xs.drop (i + 1)) >>= fun zs' => Pure.pure (ys ++ zs')) S = .ok zs Se), fun H' q => ⟨xs.length - (i + 1), by omega, q⟩, fun v H' y => ?_⟩
      obtain ⟨g2, x, hH2, e2, hM2, R2, hx, dx⟩ := bj.yld i S g v H' e.sub R hlt y
      have hd : xs.drop i = x :: xs.drop (i + 1) := by
        obtain ⟨hl, hxe⟩ := List.getElem?_eq_some_iff.mp hx
        rw [List.drop_eq_getElem_cons hl, hxe]
      rw [hd] at heq
      -- the turn's run, part by part
      obtain ⟨zs', S9, q1, q2⟩ := bind_ok heq
      obtain ⟨oy, S8, q3, q4⟩ := bind_ok q1
      obtain ⟨r8, S10, q5, q6⟩ := bind_ok q4
      obtain ⟨rfl, rfl⟩ := pure_ok q6
      obtain ⟨ρ1, S2, q7, q8⟩ := bind_ok q3
      obtain ⟨hb, rfl⟩ := opt_ok q7
      obtain ⟨cc, S3, q9, q10⟩ := bind_ok q8
      have e12 := e.trans e2
      obtain ⟨hacc2, hMD2, hF2⟩ := e2.by_ hacc hM hF (fun _ z => nomatch z)
      refine ⟨wipeR ρ own, _, g2, x, ρ1, hH2, R2, (E1.ext e12).wipe own, dx, hb, fun σ' E' hl hj => ⟨?_, ρ1, _, g2, hH2, R2, E', Aft.of_ok q9 fun g3 e3 R3 => ?_⟩⟩
      · rw [wipe_agree hl (vs := own) fun j hjn => hj j fun z => hjn (hgn j z)]
        exact wipe_agree (wipe_length σ own) fun j hjn => wipe_out hjn
      · obtain ⟨hacc3, hMD3, hF3⟩ := e3.by_ hacc2 hMD2 hF2 (fun _ z => nomatch z)
        have e13 := e12.trans e3
        have da3 := (e2.trans e3).sub.dvs da
        cases cc with
        | false =>
          obtain ⟨rfl, rfl⟩ := pure_ok q10
          refine ⟨rfl, hlt, S8, g3, acc, ys, rfl, R3, e13, hacc3, hMD3, hF3, da3, ?_⟩
          rw [bind_eq q5]; exact q2
        | true =>
          obtain ⟨w, S4, q11, q12⟩ := bind_ok q10
          obtain ⟨y', S5, q13, q14⟩ := bind_ok q12
          obtain ⟨rfl, rfl⟩ := pure_ok q14
          refine ⟨ρ1, S3, g3, rfl, R3, E'.ext e3, Aft.of_ok q11 fun g4 e4 R4 v' r' => ?_⟩
          obtain ⟨g5, e5, R5, hH5, hM5, dy⟩ := toD_ok R4 r' q13
          have e35 := e4.trans e5
          obtain ⟨hacc5, hMD5, hF5⟩ := e35.by_ hacc3 hMD3 hF3 (fun _ z => nomatch z)
          rw [← hH5]
          have hlen : acc.length < sizeLine := by
            obtain ⟨e6, _⟩ := pure_ok q2
            rw [da.length]
            have : ys.length + (y' :: r8).length = zs.length := by rw [← e6, List.length_append]
            rw [List.length_cons] at this
            have hb : big = sizeLine := rfl
            omega
          refine ⟨acc, hacc5, hlen, rfl, hlt, S8, ⟨g5.F, g5.M, upd g5.H L (.lst (acc ++ [v']))⟩, acc ++ [v'], ys ++ [y'], rfl, R5.beside hF5 hMD5 (fun _ z => nomatch z) (loose_lst hacc5), (e13.trans e35).beside kD, upd_same, hMD5, hF5, ?_, ?_⟩
          · exact (e35.sub.dvs da3).append (.cons dy .nil)
          · rw [bind_eq q5]
            rw [← q2, List.append_assoc]; rfl
    · have hn : i = xs.length := by omega
      subst hn
      rw [List.drop_length] at heq
      obtain ⟨e6, e7⟩ := pure_ok (show (Pure.pure (ys ++ []) : M (List D)) S = .ok zs Se from heq)
      rw [List.append_nil] at e6
      subst e6 e7
      refine .inl ⟨bj.stop g.H (e.sub.trans R.sub), ?_⟩
      obtain ⟨hs, R6⟩ := R.adopt (o := .lst acc) hF hM (fun _ z => nomatch z) (loose_lst hacc)
      have e6 := e.adopt (o := .lst acc) kD hF
      have q := h3 _ e6 R6 (.ref L) (.d (.lst upd_same (hs.dvs da)))
      rw [upd_id hacc] at q
      exact q
/-- what is known stays known: less than Ext -/
structure Gro (g g' : Gh) : Prop where
  sub : Sub g.F g'.F
  pre : ∃ l, g'.M = g.M ++ l
theorem Ext.gro {g g' : Gh} (e : Ext g g') : Gro g g' := ⟨e.sub, e.pre⟩
theorem Gro.refl {g : Gh} : Gro g g := ⟨.refl, ⟨[], by simp⟩⟩
theorem Gro.trans {g g1 g2 : Gh} (a : Gro g g1) (b : Gro g1 g2) : Gro g g2 := ⟨a.sub.trans b.sub, by
  obtain ⟨l, h⟩ := a.pre
  obtain ⟨m, k⟩ := b.pre
  exact ⟨l ++ m, by rw [k, h, List.append_assoc]⟩⟩
theorem WV.gro {g g' : Gh} (e : Gro g g') {v : V} {w : W} (h : WV B g v w) : WV B g' v w := by
  cases h with
  | d h => exact .d (e.sub.dv h)
  | mu h =>
    obtain ⟨l, q⟩ := e.pre
    exact .mu (by rw [q, List.getElem?_append_left (List.getElem?_eq_some_iff.mp h).1]; exact h)
  | dct ks h p => exact .dct ks (e.sub _ _ h) (Paired.mapP p fun a b z => ⟨e.sub.dv z.1, e.sub.dv z.2⟩)
  | seti h n f p => exact .seti (e.sub _ _ h) n f p
  | sett h n d p => exact .sett (e.sub _ _ h) (fun q hq => e.sub.sqT (n q hq)) d p
  | scr h => exact .scr (e.sub.sqL h)
theorem EnvR.gro {g g' : Gh} {σ : L2.St} {ρ : Rho} (h : EnvR B g σ ρ) (e : Gro g g') : EnvR B g' σ ρ := ⟨h.1, fun i w q => by
  obtain ⟨v, h1, h2⟩ := h.2 i w q
  exact ⟨v, h1, h2.gro e⟩⟩
def lcStep2 (ft : Ft) (gg : G) (ifs : Es) (gg1 : G) (it1 : I) (ifs1 : Es) (elt : E) (ρ : Rho) (own own1 : List Nat) (x : D) : M (List D) := do
  let ρ1 ← opt (bindG gg x (wipeR ρ own))
  let c ← evIfs ft ifs ρ1
  if c then do
    let xs1 ← evI ft it1 ρ1
    lcI (lcStep ft gg1 ifs1 elt ρ1 own1) xs1
  else pure []
theorem lc2_read {gg gg1 : G} {it it1 : I} {ifs ifs1 : Es} {elt : E} {own own1 : List Nat} (hgn : ∀ j ∈ gNames gg, j ∈ own) (hgn1 : ∀ j ∈ gNames gg1, j ∈ own1) (σ : L2.St) (H : Hp) (Q : VK) (h : tE B Wx (evE ft (.lc2 gg it ifs gg1 it1 ifs1 elt own own1)) σ H Q) :
    tLc2 (tI B Wx (evI ft it)) (tG B gg) (tB' B F0 (evIfs ft ifs)) (tI B F0 (evI ft it1)) (tG B gg1) (tB' B F0 (evIfs ft ifs1)) (tE B F0 (evE ft elt)) own own1 σ H Q := by
  obtain ⟨ρ, S, g0, rfl, R, E, h⟩ := h
  simp only [evE] at h
  refine ⟨ρ, S, g0, rfl, R, E, h.bind.imp fun xs S1 g1 e1 R1 h1 J bj L kD => ?_⟩
  have E1 := E.ext e1
  obtain ⟨zs, Se, hall, h2⟩ := nox_ok h1
  have hz : zs.length ≤ big ∧ Aft B Wx g1 ((Pure.pure (W.d (.list zs)) : M W) Se) (fun w S' g' => ∀ v, WV B g' v w → Q v g'.H) := by
    unfold small at h2
    by_cases c : zs.length ≤ big
    · rw [if_pos c] at h2; exact ⟨c, h2⟩
    · rw [if_neg c] at h2; exact h2.elim
  obtain ⟨hz, h3⟩ := hz
  change lcII (lcStep2 ft gg ifs gg1 it1 ifs1 elt ρ own own1) xs S1 = .ok zs Se at hall
  generalize hst : lcStep2 ft gg ifs gg1 it1 ifs1 elt ρ own own1 = step at hall
  refine ⟨fun i m H => m = xs.length - i ∧ i ≤ xs.length ∧ ∃ S g acc ys, g.H = H ∧ Rep B S g ∧ Ext g1 g ∧ g.H L = some (.lst acc) ∧ L ∉ g.M ∧ g.F L = none ∧ DVs B.K g.F acc ys ∧ (lcII step (xs.drop i) >>= fun zs' => Pure.pure (ys ++ zs')) S = .ok zs Se,
    ⟨xs.length, by simp, Nat.zero_le _, S1, ⟨g1.F, g1.M, upd g1.H L (.lst [])⟩, [], [], rfl, R1.beside (R1.notF kD) (R1.notM kD) (fun _ z => nomatch z) (loose_none kD), Ext.refl.beside kD, upd_same, R1.notM kD, R1.notF kD, .nil, ?_⟩, ?_⟩
  · rw [List.drop_zero, bind_eq hall]; rfl
  · rintro i m H ⟨rfl, hi, S, g, acc, ys, rfl, R, e, hacc, hM, hF, da, heq⟩
    by_cases hlt : i < xs.length
    · refine .inr ⟨bj.go i g.H hlt (e.sub.trans R.sub), fun H' => (xs.length - (i + 1) = xs.length - (i + 1) ∧ i + 1 ≤ xs.length ∧ ∃ S g acc ys, g.H = H' ∧ Rep B S g ∧ Ext g1 g ∧ g.H L = some (.lst acc) ∧ L ∉ g.M ∧ g.F L = none ∧ DVs B.K g.F acc ys ∧
        (lcII step (xs.drop (i + 1)) >>= fun zs' => Pure.pure (ys ++ zs')) S = .ok zs Se), fun H' q => ⟨xs.length - (i + 1), by omega, q⟩, fun v H' y => ?_⟩
      obtain ⟨g2, x, hH2, e2, hM2, R2, hx, dx⟩ := bj.yld i S g v H' e.sub R hlt y
      have hd : xs.drop i = x :: xs.drop (i + 1) := by
        obtain ⟨hl, hxe⟩ := List.getElem?_eq_some_iff.mp hx
        rw [List.drop_eq_getElem_cons hl, hxe]
      rw [hd] at heq
      obtain ⟨zs', S9, q1, q2⟩ := bind_ok heq
      obtain ⟨oy, S8, q3, q4⟩ := bind_ok q1
      obtain ⟨r8, S10, q5, q6⟩ := bind_ok q4
      obtain ⟨rfl, rfl⟩ := pure_ok q6
      rw [← hst] at q3
      obtain ⟨ρ1, S2, q7, q8⟩ := bind_ok q3
      obtain ⟨hb, rfl⟩ := opt_ok q7
      obtain ⟨cc, S3, q9, q10⟩ := bind_ok q8
      have e12 := e.trans e2
      obtain ⟨hacc2, hMD2, hF2⟩ := e2.by_ hacc hM hF (fun _ z => nomatch z)
      refine ⟨wipeR ρ own, _, g2, x, ρ1, hH2, R2, (E1.ext e12).wipe own, dx, hb, fun σ' E' hl hj => ⟨?_, ρ1, _, g2, hH2, R2, E', Aft.of_ok q9 fun g3 e3 R3 => ?_⟩⟩
      · rw [wipe_agree hl (vs := own) fun j hjn => hj j fun z => hjn (hgn j z)]
        exact wipe_agree (wipe_length σ own) fun j hjn => wipe_out hjn
      · obtain ⟨hacc3, hMD3, hF3⟩ := e3.by_ hacc2 hMD2 hF2 (fun _ z => nomatch z)
        have e13 := e12.trans e3
        have da3 := (e2.trans e3).sub.dvs da
        cases cc with
        | false =>
          obtain ⟨rfl, rfl⟩ := pure_ok q10
          refine ⟨rfl, hlt, S8, g3, acc, ys, rfl, R3, e13, hacc3, hMD3, hF3, da3, ?_⟩
          rw [bind_eq q5]; exact q2
        | true =>
          obtain ⟨xs1, S4, q11, q12⟩ := bind_ok q10
          refine ⟨ρ1, S3, g3, rfl, R3, E'.ext e3, Aft.of_ok q11 fun g4 e4 R4 J1 bj1 => ?_⟩
          obtain ⟨hacc4, hMD4, hF4⟩ := e4.by_ hacc3 hMD3 hF3 (fun _ z => nomatch z)
          have e14 := e13.trans e4
          have da4 := e4.sub.dvs da3
          have E4 := (E'.ext e3).ext e4
          generalize hst1 : lcStep ft gg1 ifs1 elt ρ1 own1 = step1 at q12
          refine ⟨fun j k H => k = xs1.length - j ∧ j ≤ xs1.length ∧ ∃ S g acc ys, g.H = H ∧ Rep B S g ∧ Ext g1 g ∧ Gro g4 g ∧ g.H L = some (.lst acc) ∧ L ∉ g.M ∧ g.F L = none ∧ DVs B.K g.F acc ys ∧
              (lcI step1 (xs1.drop j) >>= fun a => lcII step (xs.drop (i + 1)) >>= fun b => Pure.pure (ys ++ (a ++ b))) S = .ok zs Se, ⟨xs1.length, by simp, Nat.zero_le _, S4, g4, acc, ys, rfl, R4, e14, .refl, hacc4, hMD4, hF4, da4, ?_⟩, ?_⟩
          · rw [List.drop_zero, bind_eq q12, bind_eq q5]; exact q2
          · clear q2 q12 q5 q1 q3 heq q8 q9 q10 q11 q4 q6 q7 hall
            rintro j k H ⟨rfl, hj1, S, g, acc, ys, rfl, R, e, gr, hacc, hM, hF, da, heq⟩
            by_cases hlt1 : j < xs1.length
            · refine .inr ⟨bj1.go j g.H hlt1 (gr.sub.trans R.sub), fun H' => (xs1.length - (j + 1) = xs1.length - (j + 1) ∧ j + 1 ≤ xs1.length ∧ ∃ S g acc ys, g.H = H' ∧ Rep B S g ∧ Ext g1 g ∧ Gro g4 g ∧ g.H L = some (.lst acc) ∧ L ∉ g.M ∧ g.F L = none ∧ DVs B.K g.F acc ys ∧
                (lcI step1 (xs1.drop (j + 1)) >>= fun a => lcII step (xs.drop (i + 1)) >>= fun b => Pure.pure (ys ++ (a ++ b))) S = .ok zs Se), fun H' q => ⟨xs1.length - (j + 1), by omega, q⟩, fun v H' y => ?_⟩
              obtain ⟨g2, x, hH2, e2, hM2, R2, hx, dx⟩ := bj1.yld j S g v H' gr.sub R hlt1 y
              have hd : xs1.drop j = x :: xs1.drop (j + 1) := by
                obtain ⟨hl, hxe⟩ := List.getElem?_eq_some_iff.mp hx
                rw [List.drop_eq_getElem_cons hl, hxe]
              rw [hd] at heq
              obtain ⟨zs', S9, q1, q2⟩ := bind_ok heq
              obtain ⟨oy, S8, q3, q4⟩ := bind_ok q1
              obtain ⟨r8, S10, q5, q6⟩ := bind_ok q4
              obtain ⟨rfl, rfl⟩ := pure_ok q6
              rw [← hst1] at q3
              obtain ⟨ρ2, S2, q7, q8⟩ := bind_ok q3
              obtain ⟨hb, rfl⟩ := opt_ok q7
              obtain ⟨cc, S3, q9, q10⟩ := bind_ok q8
              have e12 := e.trans e2
              obtain ⟨hacc2, hMD2, hF2⟩ := e2.by_ hacc hM hF (fun _ z => nomatch z)
              refine ⟨wipeR ρ1 own1, _, g2, x, ρ2, hH2, R2, (E4.gro (gr.trans e2.gro)).wipe own1, dx, hb, fun σ3 E3 hl3 hj3 => ⟨?_, ρ2, _, g2, hH2, R2, E3, Aft.of_ok q9 fun g3 e3 R3 => ?_⟩⟩
              · rw [wipe_agree hl3 (vs := own1) fun j hjn => hj3 j fun z => hjn (hgn1 j z)]
                exact wipe_agree (wipe_length σ' own1) fun j hjn => wipe_out hjn
              · obtain ⟨hacc3, hMD3, hF3⟩ := e3.by_ hacc2 hMD2 hF2 (fun _ z => nomatch z)
                have e13 := e12.trans e3
                have da3 := (e2.trans e3).sub.dvs da
                cases cc with
                | false =>
                  obtain ⟨rfl, rfl⟩ := pure_ok q10
                  refine ⟨rfl, hlt1, S8, g3, acc, ys, rfl, R3, e13, (gr.trans e2.gro).trans e3.gro, hacc3, hMD3, hF3, da3, ?_⟩
                  rw [bind_eq q5]; exact q2
                | true =>
                  obtain ⟨w, S4, q11, q12⟩ := bind_ok q10
                  obtain ⟨y', S5, q13, q14⟩ := bind_ok q12
                  obtain ⟨rfl, rfl⟩ := pure_ok q14
                  refine ⟨ρ2, S3, g3, rfl, R3, E3.ext e3, Aft.of_ok q11 fun g5 e5 R5 v' r' => ?_⟩
                  obtain ⟨g6, e6, R6, hH6, hM6, dy⟩ := toD_ok R5 r' q13
                  have e36 := e5.trans e6
                  obtain ⟨hacc6, hMD6, hF6⟩ := e36.by_ hacc3 hMD3 hF3 (fun _ z => nomatch z)
                  rw [← hH6]
                  have hlen : acc.length < sizeLine := by
                    obtain ⟨b', Sb, q15, q16⟩ := bind_ok q2
                    obtain ⟨e7, _⟩ := pure_ok q16
                    rw [da.length]
                    have : ys.length + ((y' :: r8).length + b'.length) = zs.length := by rw [← e7, List.length_append, List.length_append]
                    rw [List.length_cons] at this
                    have hb : big = sizeLine := rfl
                    omega
                  refine ⟨acc, hacc6, hlen, rfl, hlt1, S8, ⟨g6.F, g6.M, upd g6.H L (.lst (acc ++ [v']))⟩, acc ++ [v'], ys ++ [y'], rfl, R6.beside hF6 hMD6 (fun _ z => nomatch z) (loose_lst hacc6), (e13.trans e36).beside kD, ⟨(((gr.trans e2.gro).trans e3.gro).trans e36.gro).sub, (((gr.trans e2.gro).trans e3.gro).trans e36.gro).pre⟩, upd_same, hMD6, hF6, ?_, ?_⟩
                  · exact (e36.sub.dvs da3).append (.cons dy .nil)
                  · rw [bind_eq q5]
                    rw [← q2]
                    simp only [List.append_assoc]; rfl
            · have hn : j = xs1.length := by omega
              subst hn
              rw [List.drop_length] at heq
              exact .inl ⟨bj1.stop g.H (gr.sub.trans R.sub), rfl, hlt, S, g, acc, ys, rfl, R, e, hacc, hM, hF, da, heq⟩
    · have hn : i = xs.length := by omega
      subst hn
      rw [List.drop_length] at heq
      obtain ⟨e6, e7⟩ := pure_ok (show (Pure.pure (ys ++ []) : M (List D)) S = .ok zs Se from heq)
      rw [List.append_nil] at e6
      subst e6 e7
      refine .inl ⟨bj.stop g.H (e.sub.trans R.sub), ?_⟩
      obtain ⟨hs, R6⟩ := R.adopt (o := .lst acc) hF hM (fun _ z => nomatch z) (loose_lst hacc)
      have e6 := e.adopt (o := .lst acc) kD hF
      have q := h3 _ e6 R6 (.ref L) (.d (.lst upd_same (hs.dvs da)))
      rw [upd_id hacc] at q
      exact q
end
end Pd
end

set_option maxHeartbeats 200000
section
/-! Pd12: every expression that compiles keeps the evaluator's word. Own work, session 1. -/
namespace Pd
open PySem PySem.Spec PyProof.Rows L2
section
variable {X : Cx} {B : Bk} {Wx : XK} {c : Cc} {sc : Scope} {ft : Ft}
theorem lookup_rel (csc sc : Scope) (x : Str) : (relS csc sc).names.lookup x = (csc.names.lookup x).map fun k => if (k == .free && sc.kind == .function && sc.names.lookup x == some .cell) then .cell else k := by
  show (csc.names.map fun (n, k) => if (k == .free && sc.kind == .function && sc.names.lookup n == some .cell) then (n, NameKind.cell) else (n, k)).lookup x = _
  generalize csc.names = l
  induction l with
  | nil => rfl
  | cons p l ih =>
    obtain ⟨n, k⟩ := p
    rw [List.map_cons]
    by_cases e : x = n
    · subst e
      by_cases q : (k == .free && sc.kind == .function && sc.names.lookup x == some .cell) = true
      · simp only [q, if_true, List.lookup_cons, beq_self_eq_true, Option.map_some]
      · simp only [q, if_false, List.lookup_cons, beq_self_eq_true, Option.map_some]
        simp [q]
    · have eb : (x == n) = false := by simpa using e
      by_cases q : (k == .free && sc.kind == .function && sc.names.lookup n == some .cell) = true
      · simp only [q, if_true, List.lookup_cons, eb, ih]
      · simp only [List.lookup_cons, eb]
        rw [if_neg q]
        simp only [List.lookup_cons, eb, ih]
theorem Cxt.blk (C : Cxt X B Wx c sc ft) (csc : Scope) (s : Shared) (H : Hp) (C0 : Addr) (cl : List (Str × Addr)) (fp : List Addr) : Cxt (X.blk s H csc (compEnvC csc cl C0 X.env) fp) B F0 c (relS csc sc) ft where
  K := C.K
  P := C.P
  w := C.w
  mg := C.mg
  calm := C.calm
  N := C.N
  nd := C.nd
  sc := by rw [← C.sc]; rfl
  room := C.room
  take := fun u s' ⟨a, B, sI, pins, σ, H, cls, d, e, I, nb, up, sky, na, os, ag, w⟩ => w.elim
  consts := C.consts
  excs := C.excs
  blts := C.blts
  fns := C.fns
  lam := C.lam
theorem GCx.blk (C : Cxt X B Wx c sc ft) (csc : Scope) (s : Shared) (H : Hp) (C0 : Addr) (cl : List (Str × Addr)) (fp : List Addr) : GCx (X.blk s H csc (compEnvC csc cl C0 X.env) fp) B c csc where
  K := C.K
  calm := C.calm
  N := C.N
  nd := C.nd
  loc := fun x i h => by
    unfold slotOf at h
    split at h
    · rename_i q
      simp only [Bool.and_eq_true] at q
      have e : (X.blk s H csc (compEnvC csc cl C0 X.env) fp).env.scope = relS csc X.env.scope := rfl
      unfold L2.Loc
      rw [e, lookup_rel]
      rcases isLoc_loc q.1 with k | k
      · rw [k]
        exact ⟨.inl rfl, .inr rfl⟩
      · rw [k]
        refine ⟨.inr rfl, .inl ?_⟩
        show (csc.names.lookup x == some .cell) = true
        rw [k]; rfl
    · cases h
/-- what each expression below promises -/
def Good (X : Cx) (B : Bk) (Wx : XK) (ft : Ft) (e : Expr) (u : E) : Prop := PE X e (tE B Wx (evE ft u)) ∧ ∀ m, tOk m e = true → PT X e (tB' B Wx (evT ft u))
theorem good_val {e : Expr} {u : E} (h : PE X e (tE B Wx (evE ft u))) (he : ∀ whole, isTrue e X.env whole = (do let v ← whole; standAt e.pos; holding [v] (truthy v))) : Good X B Wx ft e u := ⟨h, fun _ _ => t_val h he⟩
theorem good_and {f : Expr → Option E} {pos : Pos} : ∀ {vs : List Expr} {u : E}, (∀ e u, f e = some u → Good X B Wx ft e u) → cAnd f vs = some u →
    PE X (.BoolOp .And vs pos) (tE B Wx (evE ft u)) ∧ ∀ m, vs.all (tOk m) = true → PW X (.BoolOp .And vs pos) (tB' B Wx (evT ft u))
  | [], _, _, h => by cases h
  | [e], u, hf, h => ⟨pe_one (hf e u h).1, fun m ht => pw_and1 ((hf e u h).2 m (by simpa using ht))⟩
  | e :: b :: r, u, hf, h => by
    unfold cAnd at h
    · rw [Option.bind_eq_some_iff] at h
      obtain ⟨x, hx, h⟩ := h
      rw [Option.map_eq_some_iff] at h
      obtain ⟨y, hy, rfl⟩ := h
      obtain ⟨h1, h2⟩ := good_and (pos := pos) hf hy
      refine ⟨e_and (hf e x hx).1 h1, fun m ht => ?_⟩
      rw [List.all_cons, Bool.and_eq_true] at ht
      exact w_and ((hf e x hx).2 m ht.1) (h2 m ht.2)
theorem good_or {f : Expr → Option E} {pos : Pos} : ∀ {vs : List Expr} {u : E}, (∀ e u, f e = some u → Good X B Wx ft e u) → cOr f vs = some u →
    PE X (.BoolOp .Or vs pos) (tE B Wx (evE ft u)) ∧ ∀ m, vs.all (tOk m) = true → PW X (.BoolOp .Or vs pos) (tB' B Wx (evT ft u))
  | [], _, _, h => by cases h
  | [e], u, hf, h => ⟨pe_one (hf e u h).1, fun m ht => pw_or1 ((hf e u h).2 m (by simpa using ht))⟩
  | e :: b :: r, u, hf, h => by
    unfold cOr at h
    · rw [Option.bind_eq_some_iff] at h
      obtain ⟨x, hx, h⟩ := h
      rw [Option.map_eq_some_iff] at h
      obtain ⟨y, hy, rfl⟩ := h
      obtain ⟨h1, h2⟩ := good_or (pos := pos) hf hy
      refine ⟨e_or (hf e x hx).1 h1, fun m ht => ?_⟩
      rw [List.all_cons, Bool.and_eq_true] at ht
      exact w_or ((hf e x hx).2 m ht.1) (h2 m ht.2)
theorem good_O {f : Expr → Option E} (hf : ∀ e u, f e = some u → Good X B Wx ft e u) : ∀ {o : Option Expr} {u : Oe}, cO f o = some u → PO X o (tO B Wx (evO ft u))
  | none, u, h => by cases h; exact o_none
  | some e, u, h => by
    unfold cO at h
    rw [Option.map_eq_some_iff] at h
    obtain ⟨x, hx, rfl⟩ := h
    exact o_some (hf e x hx).1
theorem ifs_nil : PTs X [] (tB' B Wx (evIfs ft .nil)) := ⟨fun pins s σ H Q I h => pts_nil.run pins s σ H Q I (by
  obtain ⟨ρ, S, g, rfl, R, E, h⟩ := h
  simp only [evIfs] at h
  exact h.pure R)⟩
theorem ifs_one {e : Expr} {u : E} (h : PT X e (tB' B Wx (evT ft u))) : PTs X [e] (tB' B Wx (evIfs ft (.cons u .nil))) := ⟨fun pins s σ H Q I q => (pts_one h).run pins s σ H Q I (by
  obtain ⟨ρ, S, g, rfl, R, E, q⟩ := q
  refine ⟨ρ, S, g, rfl, R, E, ?_⟩
  have e : evIfs ft (.cons u .nil) ρ S = evT ft u ρ S := by
    simp only [evIfs]
    unfold evT
    have b : ∀ m : M Bool, (m >>= fun c => Pure.pure c) = m := fun m => by
      funext S
      show M.andThen m _ S = _
      unfold M.andThen
      cases m S <;> rfl
    simp only [b]
  rw [← e]; exact q)⟩
theorem good_ifs {f : Expr → Option E} (hf : ∀ e u, f e = some u → Good X B Wx ft e u) {es : List Expr} {u : Es} (h : cIfs f es = some u) : PTs X es (tB' B Wx (evIfs ft u)) := by
  unfold cIfs at h
  split at h
  · cases h; exact ifs_nil
  · split at h
    · rename_i ht
      rw [Option.map_eq_some_iff] at h
      obtain ⟨x, hx, rfl⟩ := h
      exact ifs_one ((hf _ x hx).2 8 ht)
    · cases h
  · cases h
theorem isTup_of {tg : Expr} (h : isTup tg = true) : ∃ es k p, tg = .Tuple es k p := by
  cases tg <;> first | exact ⟨_, _, _, rfl⟩ | cases h
theorem good_it (C : Cxt X B Wx c sc ft) {f : Expr → Option E} (hf : ∀ e u, f e = some u → Good X B Wx ft e u) {tg it : Expr} {u : I} (h : cIt c sc f tg it = some u) : PI X tg it (tI B Wx (evI ft u)) ∧ ∀ env x, foldedSetIterable it env x = pure x := by
  unfold cIt at h
  split at h
  · rename_i hw
    split at h
    · rename_i x p es pos
      refine ⟨?_, fun _ _ => rfl⟩
      unfold cItC at h
      split at h
      · rename_i hx
        split at h
        · split at h
          · rename_i e
            subst e
            split at h
            · rename_i hp
              rw [Option.map_eq_some_iff] at h
              obtain ⟨v, hv, rfl⟩ := h
              exact i_range1 C hx hp (hf _ v hv).1
            · cases h
          · split at h
            · rename_i e
              subst e
              split at h
              · rename_i hp
                rw [Bool.and_eq_true] at hp
                rw [Option.map_eq_some_iff] at h
                obtain ⟨v, hv, rfl⟩ := h
                obtain ⟨es', k, tp, rfl⟩ := isTup_of hp.2
                exact i_enum C hx hp.1 (hf _ v hv).1
              · cases h
            · cases h
        · split at h
          · rename_i e
            subst e
            split at h
            · rename_i hp
              rw [Bool.and_eq_true] at hp
              rw [Option.bind_eq_some_iff] at h
              obtain ⟨v, hv, h⟩ := h
              rw [Option.map_eq_some_iff] at h
              obtain ⟨v2, hv2, rfl⟩ := h
              exact i_range2 C hx hp.1 hp.2 (hf _ v hv).1 (hf _ v2 hv2).1
            · cases h
          · split at h
            · rename_i e
              subst e
              split at h
              · rename_i hp
                simp only [Bool.and_eq_true] at hp
                rw [Option.bind_eq_some_iff] at h
                obtain ⟨v, hv, h⟩ := h
                rw [Option.map_eq_some_iff] at h
                obtain ⟨v2, hv2, rfl⟩ := h
                obtain ⟨es', k, tp, rfl⟩ := isTup_of hp.2.2
                exact i_zip C hx hp.1 hp.2.1 (hf _ v hv).1 (hf _ v2 hv2).1
              · cases h
            · cases h
        · cases h
      · cases h
    · cases h
  · rename_i hw
    rw [Option.map_eq_some_iff] at h
    obtain ⟨v, hv, rfl⟩ := h
    refine ⟨i_of C.K (hf _ v hv).1, fun env x => ?_⟩
    cases it <;> first | rfl | exact absurd rfl hw
theorem cL_nil {f : Expr → Option E} {us : Es} (h : cL f [] = some us) : us = .nil := by cases h; rfl
theorem good_lc {f f' : Expr → Option E} (C : Cxt X B Wx c sc ft) (hf : ∀ e u, f e = some u → Good X B Wx ft e u) {csc : Scope} (hf' : ∀ (X' : Cx), Cxt X' B F0 c (relS csc sc) ft → ∀ e u, f' e = some u → Good X' B F0 ft e u) {elt tg it : Expr} {ifs : List Expr} {pos : Pos} {i : I} {g : G} {t : Es} {e : E}
    (hb : L2.blkC c.N sc csc (ownOf c.N csc) = true) (hi : cIt c sc f tg it = some i) (hg : gOf c csc 6 tg = some g) (ht : cIfs f' ifs = some t) (he : f' elt = some e) (hn : ((gNames g).all fun j => ((ownOf c.N csc).map (·.2)).contains j) = true) :
    PE X (.ListComp elt [⟨tg, it, ifs, 0⟩] csc pos) (tE B Wx (evE ft (.lc g i t e ((ownOf c.N csc).map (·.2))))) := by
  obtain ⟨h1, h2⟩ := good_it C hf hi
  have ok : BlkOk X.N X.env.scope csc (ownOf c.N csc) := by rw [C.N, C.sc]; exact blkOk_by hb
  refine pe_imp (pe_lc C.calm (by rw [C.N]; exact C.nd) h1 ok (fun s H C0 cl fp => g_all (GCx.blk C csc s H C0 cl fp) 6 tg g hg) (fun s H C0 cl fp => good_ifs (hf' _ (C.blk csc s H C0 cl fp)) ht) (fun s H C0 cl fp => (hf' _ (C.blk csc s H C0 cl fp) elt e he).1) (fun x => h2 X.env x)) fun σ H Q h => ?_
  refine lc_read (fun j hj => ?_) σ H Q h
  simpa using List.all_eq_true.mp hn j hj
theorem good_lc2 {f f' : Expr → Option E} (C : Cxt X B Wx c sc ft) (hf : ∀ e u, f e = some u → Good X B Wx ft e u) {csc : Scope} (hf' : ∀ (X' : Cx), Cxt X' B F0 c (relS csc sc) ft → ∀ e u, f' e = some u → Good X' B F0 ft e u) {elt tg it tg1 it1 : Expr} {ifs ifs1 : List Expr} {pos : Pos} {i i1 : I} {g g1 : G} {t t1 : Es} {e : E}
    (hb : L2.blkC c.N sc csc (ownOf c.N csc) = true) (hi : cIt c sc f tg it = some i) (hg : gOf c csc 6 tg = some g) (ht : cIfs f' ifs = some t) (hi1 : cIt c (relS csc sc) f' tg1 it1 = some i1) (hg1 : gOf c csc 6 tg1 = some g1) (ht1 : cIfs f' ifs1 = some t1) (he : f' elt = some e)
    (hn : ((gNames g).all fun j => ((ownOf c.N csc).map (·.2)).contains j) = true) (hn1 : ((gNames g1).all fun j => ((ownOf c.N csc).map (·.2)).contains j) = true) :
    PE X (.ListComp elt [⟨tg, it, ifs, 0⟩, ⟨tg1, it1, ifs1, 0⟩] csc pos) (tE B Wx (evE ft (.lc2 g i t g1 i1 t1 e ((ownOf c.N csc).map (·.2)) (gNames g1)))) := by
  obtain ⟨h1, h2⟩ := good_it C hf hi
  have ok : BlkOk X.N X.env.scope csc (ownOf c.N csc) := by rw [C.N, C.sc]; exact blkOk_by hb
  have h3 : ∀ env x, foldedSetIterable it1 env x = pure x := by
    have C0 := C.blk csc X.s_0 (fun _ => none) 0 [] []
    exact (good_it C0 (hf' _ C0) hi1).2
  refine pe_imp (pe_lc2 C.calm (by rw [C.N]; exact C.nd) h1 ok (vs1 := gNames g1) (fun j hj => by simpa using List.all_eq_true.mp hn1 j hj) (fun s H C0 cl fp => g_all (GCx.blk C csc s H C0 cl fp) 6 tg g hg) (fun s H C0 cl fp => good_ifs (hf' _ (C.blk csc s H C0 cl fp)) ht)
    (fun s H C0 cl fp => (good_it (C.blk csc s H C0 cl fp) (hf' _ (C.blk csc s H C0 cl fp)) hi1).1) (fun s H C0 cl fp => g_all (GCx.blk C csc s H C0 cl fp) 6 tg1 g1 hg1) (fun s H C0 cl fp => good_ifs (hf' _ (C.blk csc s H C0 cl fp)) ht1)
    (fun s H C0 cl fp => (hf' _ (C.blk csc s H C0 cl fp) elt e he).1) (fun x => h2 X.env x) h3) fun σ H Q h => ?_
  exact lc2_read (fun j hj => by simpa using List.all_eq_true.mp hn j hj) (fun j hj => hj) σ H Q h
theorem e_bi' (C : Cxt X B Wx c sc ft) {x : Str} {b : Bi} {es : List Expr} {us : Es} {p pos : Pos} (hb : biOf x = some b) (hx : isBlt c sc x = true) (ha : PA X es (tAs B Wx (evEs ft us))) (hp : ∀ y ∈ es, plainArg y = true) (hne : es = [] → False) :
    PE X (.Call (.Name x p) es [] pos) (tE B Wx (evE ft (.bi b us))) := by
  cases es with
  | nil => exact (hne rfl).elim
  | cons e es => exact e_bi C hb hx ha hp
theorem e_cmp' (C : Cxt X B Wx c sc ft) {o : CmpOp} {a b : Expr} {u v : E} {pos : Pos} (ha : PE X a (tE B Wx (evE ft u))) (hb : PE X b (tE B Wx (evE ft v))) (hm : behindInMarks o b = false) :
    PE X (.Compare a [o] [b] pos) (tE B Wx (evE ft (.cmp (copOf o) u v))) ∧ PT X (.Compare a [o] [b] pos) (tB' B Wx (evT ft (.cmp (copOf o) u v))) := by
  have e := copOf_op o
  generalize copOf o = q at e ⊢
  subst e
  exact ⟨e_cmp C.K C.units64 ha hb hm, t_cmp C.K C.units64 ha hb hm⟩
theorem e_chain' (C : Cxt X B Wx c sc ft) {o p : CmpOp} {a b d : Expr} {u v w : E} {pos : Pos} (ha : PE X a (tE B Wx (evE ft u))) (hb : PE X b (tE B Wx (evE ft v))) (hd : PE X d (tE B Wx (evE ft w))) (hm : lastMarks [o, p] [b, d] = false) :
    PE X (.Compare a [o, p] [b, d] pos) (tE B Wx (evE ft (.chain (copOf o) (copOf p) u v w))) ∧ PT X (.Compare a [o, p] [b, d] pos) (tB' B Wx (evT ft (.chain (copOf o) (copOf p) u v w))) := by
  have e := copOf_op o
  have e2 := copOf_op p
  generalize copOf o = q at e ⊢
  generalize copOf p = q2 at e2 ⊢
  subst e e2
  exact ⟨e_chain C.K C.units64 ha hb hd hm, t_chain C.K C.units64 ha hb hd hm⟩
/-- the calls with a lambda: left to the law -/
def AttOk (B : Bk) (c : Cc) (ft : Ft) : Prop := ∀ (X : Cx) (Wx : XK) (sc : Scope), Cxt X B Wx c sc ft → ∀ (n : Nat) (x : Str) (body : Expr) (lsc : Scope) (k : Nat) (u : E) (p : Pos) (as_ : Arguments) (lp pos : Pos), idx c.attf x = some k → isGlo (sc.names.lookup x) = true → (idx c.fns x).isSome = true → noArgs as_ = true → LamX.lamSB sc lsc = true → cE c.noatt n lsc body = some u →
  Good X B Wx ft (.Call (.Name x p) [.Lambda as_ body lsc lp] [] pos) (.att k u)
theorem e_all (hat : AttOk B c ft) : ∀ (n : Nat) {X : Cx} {Wx : XK} {sc : Scope} (C : Cxt X B Wx c sc ft) {e : Expr} {u : E}, cE c n sc e = some u → Good X B Wx ft e u := by
  intro n
  induction n with
  | zero => intro X Wx sc C e u h; cases h
  | succ n ih =>
    intro X Wx sc C e u h
    have hf : ∀ e u, cE c n sc e = some u → Good X B Wx ft e u := fun e u h => ih C h
    have ha : ∀ {es us}, cL (cE c n sc) es = some us → PA X es (tAs B Wx (evEs ft us)) ∧ ∀ y ∈ es, plainArg y = true := fun {es us} h => a_of (fun e u h => (hf e u h).1) h
    unfold cE at h
    split at h
    · -- a name
      split at h
      · rename_i q
        simp only [Bool.and_eq_true, Bool.not_eq_true', decide_eq_false_iff_not] at q
        rw [Option.map_eq_some_iff] at h
        obtain ⟨i, hi, rfl⟩ := h
        exact good_val (e_var C q.1 q.2.1 q.2.2 hi) fun _ => rfl
      · split at h
        · rename_i q
          simp only [Bool.and_eq_true, Bool.not_eq_true', decide_eq_false_iff_not] at q
          rw [Option.map_eq_some_iff] at h
          obtain ⟨d, hd, rfl⟩ := h
          exact good_val (e_glo C q.1 q.2 hd) fun _ => rfl
        · cases h
    · -- a constant
      split at h
      · cases h; exact good_val (e_tC pe_non fun _ => .non) fun _ => rfl
      · cases h; exact good_val (e_tC pe_bl fun _ => .bl _) fun _ => rfl
      · cases h; exact good_val (e_tC pe_int fun _ => .int _) fun _ => rfl
      · cases h; exact good_val (e_tC pe_str fun _ => .str _) fun _ => rfl
      · cases h
    · rw [Option.map_eq_some_iff] at h
      obtain ⟨us, hu, rfl⟩ := h
      exact good_val (e_tup (ha hu).1) fun _ => rfl
    · rw [Option.map_eq_some_iff] at h
      obtain ⟨us, hu, rfl⟩ := h
      exact good_val (e_lst (ha hu).1) fun _ => rfl
    · -- an operator
      rw [Option.bind_eq_some_iff] at h
      obtain ⟨o, ho, h⟩ := h
      rw [Option.bind_eq_some_iff] at h
      obtain ⟨x, hx, h⟩ := h
      rw [Option.map_eq_some_iff] at h
      obtain ⟨y, hy, rfl⟩ := h
      rw [bopOf_op ho]
      exact good_val (e_bin C.K (hf _ _ hx).1 (hf _ _ hy).1) fun _ => rfl
    · split at h
      · rw [Option.map_eq_some_iff] at h
        obtain ⟨x, hx, rfl⟩ := h
        refine ⟨e_not (hf _ _ hx).1, fun m hm => ?_⟩
        cases m with
        | zero => cases hm
        | succ m => exact t_not ((hf _ _ hx).2 m (by simpa only [tOk] using hm))
      · rw [Option.map_eq_some_iff] at h
        obtain ⟨x, hx, rfl⟩ := h
        exact good_val (e_neg (hf _ _ hx).1) fun _ => rfl
      · cases h
    · split at h
      · obtain ⟨h1, h2⟩ := good_and hf h
        refine ⟨h1, fun m hm => ?_⟩
        cases m with
        | zero => cases hm
        | succ m => exact (h2 m (by simpa only [tOk] using hm)).pt
      · obtain ⟨h1, h2⟩ := good_or hf h
        refine ⟨h1, fun m hm => ?_⟩
        cases m with
        | zero => cases hm
        | succ m => exact (h2 m (by simpa only [tOk] using hm)).pt
    · split at h
      · rename_i ht
        rw [Option.bind_eq_some_iff] at h
        obtain ⟨x, hx, h⟩ := h
        rw [Option.bind_eq_some_iff] at h
        obtain ⟨y, hy, h⟩ := h
        rw [Option.map_eq_some_iff] at h
        obtain ⟨z, hz, rfl⟩ := h
        refine ⟨e_ite ((hf _ _ hx).2 8 ht) (hf _ _ hy).1 (hf _ _ hz).1, fun m hm => ?_⟩
        cases m <;> cases hm
      · cases h
    · -- comparisons
      split at h
      · rename_i o b
        split at h
        · cases h
        · rename_i hm
          rw [Option.bind_eq_some_iff] at h
          obtain ⟨x, hx, h⟩ := h
          rw [Option.map_eq_some_iff] at h
          obtain ⟨y, hy, rfl⟩ := h
          have z := fun pos => e_cmp' (pos := pos) C (hf _ _ hx).1 (hf _ _ hy).1 (by simpa using hm)
          exact ⟨(z _).1, fun m _ => (z _).2⟩
      · rename_i o p b d
        split at h
        · cases h
        · rename_i hm
          rw [Option.bind_eq_some_iff] at h
          obtain ⟨x, hx, h⟩ := h
          rw [Option.bind_eq_some_iff] at h
          obtain ⟨y, hy, h⟩ := h
          rw [Option.map_eq_some_iff] at h
          obtain ⟨z, hz, rfl⟩ := h
          have q := fun pos => e_chain' (pos := pos) C (hf _ _ hx).1 (hf _ _ hy).1 (hf _ _ hz).1 (by simpa using hm)
          exact ⟨(q _).1, fun m _ => (q _).2⟩
      · cases h
    · -- subscripts
      split at h
      · split at h
        · rw [Option.bind_eq_some_iff] at h
          obtain ⟨x, hx, h⟩ := h
          rw [Option.bind_eq_some_iff] at h
          obtain ⟨l, hl, h⟩ := h
          rw [Option.map_eq_some_iff] at h
          obtain ⟨r, hr, rfl⟩ := h
          exact good_val (e_sl C.K (hf _ _ hx).1 (good_O hf hl) (good_O hf hr)) fun _ => rfl
        · cases h
      · rename_i hns
        rw [Option.bind_eq_some_iff] at h
        obtain ⟨x, hx, h⟩ := h
        rw [Option.map_eq_some_iff] at h
        obtain ⟨y, hy, rfl⟩ := h
        exact good_val (e_ix C.K C.units64 (hf _ _ hx).1 (hf _ _ hy).1 (fun lo hi st p e => hns lo hi st p e)) fun _ => rfl
    · -- calls
      split at h
      · split at h
        · split at h
          · rename_i q
            simp only [Bool.and_eq_true, Bool.not_eq_true', decide_eq_false_iff_not] at q
            split at h
            · rename_i j hj
              split at h
              · split at h
                · rename_i hl
                  rw [Bool.and_eq_true] at hl
                  rw [Option.bind_eq_some_iff] at h
                  obtain ⟨k, hk, h⟩ := h
                  rw [Option.map_eq_some_iff] at h
                  obtain ⟨y, hy, rfl⟩ := h
                  exact hat X Wx sc C n _ _ _ k y _ _ _ _ hk q.1 (by rw [hj]; rfl) hl.1 hl.2 hy
                · cases h
              · split at h
                · cases h
                · rw [Option.map_eq_some_iff] at h
                  obtain ⟨us, hu, rfl⟩ := h
                  obtain ⟨h1, h2⟩ := ha hu
                  exact good_val (e_call C hj q.1 q.2 (fun e => by subst e; exact cL_nil hu) h1 h2) fun _ => rfl
            · split at h
              · rename_i hb
                split at h
                · cases h
                · split at h
                  · rename_i e
                    subst e
                    split at h
                    · split at h
                      · rename_i hq
                        rw [Bool.and_eq_true] at hq
                        rw [Option.bind_eq_some_iff] at h
                        obtain ⟨ty, hty, h⟩ := h
                        rw [Option.map_eq_some_iff] at h
                        obtain ⟨y, hy, rfl⟩ := h
                        exact good_val (e_isi C hb hq.1 hty hq.2 (hf _ _ hy).1) fun _ => rfl
                      · cases h
                    · cases h
                  · rw [Option.bind_eq_some_iff] at h
                    obtain ⟨b, hbi, h⟩ := h
                    rw [Option.map_eq_some_iff] at h
                    obtain ⟨us, hu, rfl⟩ := h
                    obtain ⟨h1, h2⟩ := ha hu
                    exact good_val (e_bi C hbi hb h1 h2) fun _ => rfl
                · rename_i es hne _
                  rw [Option.bind_eq_some_iff] at h
                  obtain ⟨b, hbi, h⟩ := h
                  rw [Option.map_eq_some_iff] at h
                  obtain ⟨us, hu, rfl⟩ := h
                  obtain ⟨h1, h2⟩ := ha hu
                  exact good_val (e_bi' C hbi hb h1 h2 hne) fun _ => rfl
              · cases h
          · cases h
        · split at h
          · split at h
            · rename_i e
              subst e
              split at h
              · rename_i hq
                simp only [Bool.and_eq_true] at hq
                rw [Option.bind_eq_some_iff] at h
                obtain ⟨x, hx, h⟩ := h
                rw [Option.bind_eq_some_iff] at h
                obtain ⟨y, hy, h⟩ := h
                rw [Option.map_eq_some_iff] at h
                obtain ⟨z, hz, rfl⟩ := h
                exact good_val (e_getd C hq.1.1.2 hq.1.2 hq.2 (getBase_ok hq.1.1.1) (hf _ _ hx).1 (hf _ _ hy).1 (hf _ _ hz).1) fun _ => rfl
              · cases h
            · cases h
          · cases h
        · cases h
      · cases h
    · -- a dict of one pair
      split at h
      · rw [Option.bind_eq_some_iff] at h
        obtain ⟨x, hx, h⟩ := h
        rw [Option.map_eq_some_iff] at h
        obtain ⟨y, hy, rfl⟩ := h
        exact good_val (e_dsp1 (hf _ _ hx).1 (hf _ _ hy).1) fun _ => rfl
      · cases h
    · -- comprehensions
      split at h
      · split at h
        · rename_i q
          obtain ⟨rfl, hb⟩ := q
          rw [Option.bind_eq_some_iff] at h
          obtain ⟨i, hi, h⟩ := h
          rw [Option.bind_eq_some_iff] at h
          obtain ⟨g, hg, h⟩ := h
          rw [Option.bind_eq_some_iff] at h
          obtain ⟨t, ht, h⟩ := h
          rw [Option.bind_eq_some_iff] at h
          obtain ⟨y, hy, h⟩ := h
          split at h
          · rename_i hn
            cases h
            exact good_val (good_lc C hf (fun X' C' e u h => ih C' h) hb hi hg ht hy hn) fun _ => rfl
          · cases h
        · cases h
      · split at h
        · rename_i q
          obtain ⟨rfl, rfl, hb⟩ := q
          rw [Option.bind_eq_some_iff] at h
          obtain ⟨i, hi, h⟩ := h
          rw [Option.bind_eq_some_iff] at h
          obtain ⟨g, hg, h⟩ := h
          rw [Option.bind_eq_some_iff] at h
          obtain ⟨t, ht, h⟩ := h
          rw [Option.bind_eq_some_iff] at h
          obtain ⟨i1, hi1, h⟩ := h
          rw [Option.bind_eq_some_iff] at h
          obtain ⟨g1, hg1, h⟩ := h
          rw [Option.bind_eq_some_iff] at h
          obtain ⟨t1, ht1, h⟩ := h
          rw [Option.bind_eq_some_iff] at h
          obtain ⟨y, hy, h⟩ := h
          split at h
          · rename_i hn
            rw [Bool.and_eq_true] at hn
            cases h
            exact good_val (good_lc2 C hf (fun X' C' e u h => ih C' h) hb hi hg ht hi1 hg1 ht1 hy hn.1 hn.2) fun _ => rfl
          · cases h
        · cases h
      · cases h
    · cases h
end
end Pd
end

set_option maxHeartbeats 200000
section
/-! Pd13: statements. Own work, session 1. -/
namespace Pd
open PySem PySem.Spec PyProof.Rows L2
theorem swapped_is {sc : Scope} {env : Env} (he : env.scope = sc) (hk : sc.kind = .function) {es vs : List Expr} {k k2 : Nat} {p p2 : Pos} (hs : ∀ v ∈ vs, plainArg v = true) (hca : (swapped sc es vs).isSome = true → vs.all (constantsAlone 8) = false) :
    swappedStores [.Tuple es k p] (.Tuple vs k2 p2) env = pure (swapped sc es vs) := by
  have hb : env.blockKind = .function := by unfold Env.blockKind; rw [he, hk]; rfl
  unfold swappedStores
  unfold swapped at hca ⊢
  simp only [hb, Env.kindOf, he]
  have e1 : (ScopeKind.function != ScopeKind.function) = false := rfl
  simp only [e1, Bool.or_false]
  by_cases c1 : (!(es.length == 2 || es.length == 3) || vs.length != es.length) = true
  · rw [if_pos c1, if_pos c1]
  · rw [if_neg c1] at hca
    dsimp only at hca
    rw [if_neg c1, if_neg c1]
    refine (if_neg ?_).trans ?_
    · intro h
      rw [List.any_eq_true] at h
      obtain ⟨v, hv, h⟩ := h
      have := hs v hv
      cases v <;> first | (simp [plainArg] at this; done) | (simp at h)
    · generalize (List.filterMap _ es) = N at hca ⊢
      by_cases c2 : (N.length != es.length || N.eraseDups.length != N.length) = true
      · rw [if_pos c2, if_pos c2]
      · rw [if_neg c2] at hca
        rw [if_neg c2, if_neg c2]
        by_cases c3 : vs.all (foldedForSure 8) = true
        · rw [if_pos c3, if_pos c3]
        · rw [if_neg c3] at hca
          rw [if_neg c3, if_neg c3, if_neg (by rw [hca rfl]; simp)]
theorem swapped_two {sc : Scope} {t1 t2 v1 v2 : Expr} {names : List Str} (h : swapped sc [t1, t2] [v1, v2] = some names) : ∃ x px y py, t1 = .Name x px ∧ t2 = .Name y py ∧ names = [x, y] ∧ sc.names.lookup x = some .local ∧ sc.names.lookup y = some .local ∧ x ≠ y := by
  unfold swapped at h
  simp only [List.length_cons, List.length_nil, bne_self_eq_false, Bool.or_false] at h
  generalize hN : (List.filterMap _ [t1, t2]) = N at h
  split at h
  · cases h
  · split at h
    · cases h
    · rename_i c
      split at h
      · cases h
      · obtain rfl : N = names := Option.some.inj h
        simp only [Bool.or_eq_true, bne_iff_ne, ne_eq, not_or, Decidable.not_not] at c
        obtain ⟨c1, c2⟩ := c
        have one : ∀ (f : Expr → Option Str) (t1 t2 : Expr), List.filterMap f [t1, t2] = N → N.length = 2 → ∃ x y, f t1 = some x ∧ f t2 = some y ∧ N = [x, y] := fun f t1 t2 e hl => by
          cases h1 : f t1 with
          | none =>
            cases h2 : f t2 with
            | none => simp [h1, h2] at e; subst e; simp at hl
            | some y => simp [h1, h2] at e; subst e; simp at hl
          | some x =>
            cases h2 : f t2 with
            | none => simp [h1, h2] at e; subst e; simp at hl
            | some y => simp [h1, h2] at e; subst e; exact ⟨x, y, rfl, rfl, rfl⟩
        obtain ⟨x, y, h1, h2, rfl⟩ := one _ _ _ hN (by simpa using c1)
        have nm : ∀ {t : Expr} {z : Str} {l : Nat}, (match t with | .Name id pos => if (sc.names.lookup id == some .local && pos.line == l) = true then some id else none | _ => none) = some z → ∃ p, t = .Name z p ∧ sc.names.lookup z = some .local := fun {t z l} h => by
          split at h
          · split at h
            · rename_i q
              cases h
              rw [Bool.and_eq_true] at q
              exact ⟨_, rfl, by simpa using q.1⟩
            · cases h
          · cases h
        obtain ⟨px, rfl, lx⟩ := nm h1
        obtain ⟨py, rfl, ly⟩ := nm h2
        refine ⟨x, px, y, py, rfl, rfl, rfl, lx, ly, fun e => ?_⟩
        subst e
        rw [List.eraseDups_cons] at c2
        simp at c2

/-! ### what a statement leaves -/
def ctE (B : Bk) (Dn : Ends) : Ct → Gh → Prop
  | .nx ρ', g' => ∀ σ', EnvR B g' σ' ρ' → Dn.nx σ' g'.H
  | .rt w, g' => ∀ v, WV B g' v w → Dn.rt v g'.H
def tSt (B : Bk) (Wx : XK) (m : Rho → M Ct) : TS := fun Dn σ H => ∃ ρ S g, g.H = H ∧ Rep B S g ∧ EnvR B g σ ρ ∧ Aft B Wx g (m ρ S) fun ct _ g' => ctE B Dn ct g'
structure Sxt (X : Cx) (B : Bk) (Wx : XK) (c : Cc) (sc : Scope) (ft : Ft) : Prop extends Cxt X B Wx c sc ft where
  own : PassesOwn (model X.prog X.w) X.A X.env X.xe
  kd : X.env.scope.kind = .function
  fnx : ∀ x, X.fn x = true
section
variable {X : Cx} {B : Bk} {Wx : XK} {c : Cc} {sc : Scope} {ft : Ft}
theorem Sxt.g (C : Sxt X B Wx c sc ft) : GCx X B c sc where
  K := C.K
  calm := C.calm
  N := C.N
  nd := C.nd
  loc := fun x i h => by
    unfold slotOf at h
    split at h
    · rename_i q
      rw [Bool.and_eq_true] at q
      refine ⟨?_, .inl (C.fnx x)⟩
      unfold L2.Loc
      rw [C.sc]
      exact isLoc_loc q.1
    · cases h
theorem slot_vis {x : Str} {i : Nat} (h : slotOf c sc x = some i) : isVis (sc.names.lookup x) = true ∧ x ≠ "__debug__" ∧ x ≠ "__classdict__" ∧ idx c.N x = some i := by
  unfold slotOf at h
  split at h
  · rename_i q
    simp only [Bool.and_eq_true, Bool.not_eq_true', decide_eq_false_iff_not] at q
    refine ⟨?_, q.2.1, q.2.2, h⟩
    rcases isLoc_loc q.1 with k | k <;> rw [k] <;> rfl
  · cases h
theorem s_ret {e : Expr} {u : E} {pos : Pos} (he : PE X e (tE B Wx (evE ft u))) : PS X (.Return (some e) pos) (tSt B Wx (evS ft (.ret u))) := by
  refine ps_imp (ps_ret he) fun Dn σ H h => ?_
  obtain ⟨ρ, S, g, rfl, R, E, h⟩ := h
  simp only [evS] at h
  exact ⟨ρ, S, g, rfl, R, E, h.bind.imp fun w S1 g1 e1 R1 h1 v r => h1.pure R1 v r⟩
theorem s_retN {pos : Pos} : PS X (.Return none pos) (tSt B Wx (evS ft .retN)) := by
  refine ps_imp ps_retN fun Dn σ H h => ?_
  obtain ⟨ρ, S, g, rfl, R, E, h⟩ := h
  simp only [evS] at h
  exact h.pure R .non (.d .non)
theorem s_pass {pos : Pos} : PS X (.Pass pos) (tSt B Wx (evS ft .pass)) := by
  refine ps_imp ps_pass fun Dn σ H h => ?_
  obtain ⟨ρ, S, g, rfl, R, E, h⟩ := h
  simp only [evS] at h
  exact h.pure R σ E
theorem set_read {i : Nat} {u : E} (Dn : Ends) (σ : L2.St) (H : Hp) (h : tSt B Wx (evS ft (.set (.nm i) u)) Dn σ H) : tAsg (tE B Wx (evE ft u)) (gName i) Dn σ H := by
  obtain ⟨ρ, S, g, rfl, R, E, h⟩ := h
  simp only [evS] at h
  refine ⟨ρ, S, g, rfl, R, E, h.bind.imp fun w S1 g1 e1 R1 h1 v r => ?_⟩
  have h2 : Aft B Wx g1 ((Pure.pure (Ct.nx (ρ.set i (some w))) : M Ct) S1) fun ct _ g' => ctE B Dn ct g' := h1
  exact h2.pure R1 _ ((E.ext e1).set r)
/-- a display or a sum of lists is no comprehension -/
theorem sw_no {v : Expr} {t : Option Expr} {l : Nat} {env : Env} (h : ∀ e gs s p, v ≠ .ListComp e gs s p) (h2 : ∀ e gs s p, v ≠ .SetComp e gs s p) (h3 : ∀ a b gs s p, v ≠ .DictComp a b gs s p) : swapsWith v t l env = pure false := by
  cases v <;> first | rfl | exact absurd rfl (h _ _ _ _) | exact absurd rfl (h2 _ _ _ _) | exact absurd rfl (h3 _ _ _ _ _)
/-- what compiles is no comprehension of sets or dicts -/
theorem cE_no {n : Nat} {v : Expr} {u : E} (h : cE c n sc v = some u) : (∀ e gs s p, v ≠ .SetComp e gs s p) ∧ ∀ a b gs s p, v ≠ .DictComp a b gs s p := by
  cases n with
  | zero => cases h
  | succ n =>
    refine ⟨fun e gs s p q => ?_, fun a b gs s p q => ?_⟩
    · subst q; unfold cE at h; cases h
    · subst q; unfold cE at h; cases h
theorem sw_is {x : Str} {py : Pos} {l : Nat} {e : Expr} {gs : List Comprehension} {s : Scope} {p : Pos} {env : Env} : ∃ b, swapsWith (.ListComp e gs s p) (some (.Name x py)) l env = pure b ∧ (b = true → env.scope.names.lookup x = some .local) := by
  refine ⟨_, rfl, fun h => ?_⟩
  simp only [Bool.and_eq_true] at h
  have := h.1.1.2
  simpa [Env.kindOf] using this
theorem s_setV {i : Nat} {x : Str} {v : Expr} {u : E} {p pos : Pos} (C : Sxt X B Wx c sc ft) (hi : slotOf c sc x = some i) (he : PE X v (tE B Wx (evE ft u))) (hs : swapsWith v (some (.Name x p)) pos.line X.env = pure false) : PS X (.Assign [.Name x p] v pos) (tSt B Wx (evS ft (.set (.nm i) u))) :=
  ps_imp (ps_set (by rw [C.N]; exact C.nd) (by rw [C.N]; exact idx_get (slot_idx hi)) (C.g.loc x i hi).1 he hs (.inl (C.fnx x))) set_read
/-- name = comprehension -/
theorem s_setE (C : Sxt X B Wx c sc ft) (hat : AttOk B c ft) {n : Nat} {i : Nat} {x : Str} {v : Expr} {u : E} {p pos : Pos} (hi : slotOf c sc x = some i) (h : cE c n sc v = some u) : PS X (.Assign [.Name x p] v pos) (tSt B Wx (evS ft (.set (.nm i) u))) := by
  have he := (e_all hat n C.toCxt h).1
  by_cases hl : ∃ e gs s q, v = .ListComp e gs s q
  · obtain ⟨e, gs, csc, q, rfl⟩ := hl
    obtain ⟨b, hb, hloc⟩ := sw_is (x := x) (py := p) (l := pos.line) (e := e) (gs := gs) (s := csc) (p := q) (env := X.env)
    cases b with
    | false => exact s_setV C hi he hb
    | true =>
      cases n with
      | zero => cases h
      | succ n =>
        have hf : ∀ e u, cE c n sc e = some u → Good X B Wx ft e u := fun e u h => e_all hat n C.toCxt h
        have hf' : ∀ csc (X' : Cx), Cxt X' B F0 c (relS csc sc) ft → ∀ e u, cE c n (relS csc sc) e = some u → Good X' B F0 ft e u := fun csc X' C' e u h => e_all hat n C' h
        have hN : X.N.Nodup := by rw [C.N]; exact C.nd
        have hx : X.N[i]? = some x := by rw [C.N]; exact idx_get (slot_idx hi)
        unfold cE at h
        dsimp only at h
        split at h
        · split at h
          · rename_i q
            obtain ⟨rfl, hbk⟩ := q
            rw [Option.bind_eq_some_iff] at h
            obtain ⟨i0, hi0, h⟩ := h
            rw [Option.bind_eq_some_iff] at h
            obtain ⟨g, hg, h⟩ := h
            rw [Option.bind_eq_some_iff] at h
            obtain ⟨t, ht, h⟩ := h
            rw [Option.bind_eq_some_iff] at h
            obtain ⟨y, hy, h⟩ := h
            split at h
            · rename_i hn
              cases h
              obtain ⟨h1, h2⟩ := good_it C.toCxt hf hi0
              have ok : BlkOk X.N X.env.scope csc (ownOf c.N csc) := by rw [C.N, C.sc]; exact blkOk_by hbk
              refine ps_imp (ps_setLc C.calm hN hx (hloc rfl) hb h1 ok (fun s H C0 cl fp => g_all (GCx.blk C.toCxt csc s H C0 cl fp) 6 _ g hg) (fun s H C0 cl fp => good_ifs (hf' csc _ (C.toCxt.blk csc s H C0 cl fp)) ht) (fun s H C0 cl fp => (hf' csc _ (C.toCxt.blk csc s H C0 cl fp) _ y hy).1) (fun x => h2 X.env x)) fun Dn σ H q => ?_
              exact lc_read (fun j hj => by simpa using List.all_eq_true.mp hn j hj) σ H _ (set_read Dn σ H q)
            · cases h
          · cases h
        · split at h
          · rename_i q
            obtain ⟨rfl, rfl, hbk⟩ := q
            rw [Option.bind_eq_some_iff] at h
            obtain ⟨i0, hi0, h⟩ := h
            rw [Option.bind_eq_some_iff] at h
            obtain ⟨g, hg, h⟩ := h
            rw [Option.bind_eq_some_iff] at h
            obtain ⟨t, ht, h⟩ := h
            rw [Option.bind_eq_some_iff] at h
            obtain ⟨i1, hi1, h⟩ := h
            rw [Option.bind_eq_some_iff] at h
            obtain ⟨g1, hg1, h⟩ := h
            rw [Option.bind_eq_some_iff] at h
            obtain ⟨t1, ht1, h⟩ := h
            rw [Option.bind_eq_some_iff] at h
            obtain ⟨y, hy, h⟩ := h
            split at h
            · rename_i hn
              rw [Bool.and_eq_true] at hn
              cases h
              obtain ⟨h1, h2⟩ := good_it C.toCxt hf hi0
              have ok : BlkOk X.N X.env.scope csc (ownOf c.N csc) := by rw [C.N, C.sc]; exact blkOk_by hbk
              have C0 := C.toCxt.blk csc X.s_0 (fun _ => none) 0 [] []
              have h3 := (good_it C0 (hf' csc _ C0) hi1).2
              refine ps_imp (ps_setLc2 C.calm hN hx (hloc rfl) hb h1 ok (vs1 := gNames g1) (fun j hj => by simpa using List.all_eq_true.mp hn.2 j hj) (fun s H C0 cl fp => g_all (GCx.blk C.toCxt csc s H C0 cl fp) 6 _ g hg) (fun s H C0 cl fp => good_ifs (hf' csc _ (C.toCxt.blk csc s H C0 cl fp)) ht)
                (fun s H C0 cl fp => (good_it (C.toCxt.blk csc s H C0 cl fp) (hf' csc _ (C.toCxt.blk csc s H C0 cl fp)) hi1).1) (fun s H C0 cl fp => g_all (GCx.blk C.toCxt csc s H C0 cl fp) 6 _ g1 hg1) (fun s H C0 cl fp => good_ifs (hf' csc _ (C.toCxt.blk csc s H C0 cl fp)) ht1)
                (fun s H C0 cl fp => (hf' csc _ (C.toCxt.blk csc s H C0 cl fp) _ y hy).1) (fun x => h2 X.env x) h3) fun Dn σ H q => ?_
              exact lc2_read (fun j hj => by simpa using List.all_eq_true.mp hn.1 j hj) (fun j hj => hj) σ H _ (set_read Dn σ H q)
            · cases h
          · cases h
        · cases h
  · obtain ⟨n1, n2⟩ := cE_no h
    exact s_setV C hi he (sw_no (fun e gs s p q => hl ⟨e, gs, s, p, q⟩) n1 n2)
/-- a value for a name, whatever it is -/
theorem val_all (C : Sxt X B Wx c sc ft) (hat : AttOk B c ft) {n : Nat} {t v : Expr} {u : E} (h : cValue c sc n t v = some u) : PE X v (tE B Wx (evE ft u)) := by
  unfold cValue at h
  split at h
  · unfold cMut at h
    split at h
    · rw [Option.map_eq_some_iff] at h
      obtain ⟨us, hu, rfl⟩ := h
      exact e_mlst (a_of (fun e u h => (e_all hat n C.toCxt h).1) hu).1
    · rw [Option.bind_eq_some_iff] at h
      obtain ⟨x, hx, h⟩ := h
      rw [Option.map_eq_some_iff] at h
      obtain ⟨y, hy, rfl⟩ := h
      exact e_mcat (e_all hat n C.toCxt hx).1 (e_all hat n C.toCxt hy).1
    · split at h
      · rename_i q
        obtain ⟨rfl, q1, q2⟩ := q
        rw [Option.map_eq_some_iff] at h
        obtain ⟨x, hx, rfl⟩ := h
        exact e_mlist C.toCxt q1 q2 (e_all hat n C.toCxt hx).1
      · exact (e_all hat n C.toCxt h).1
    · exact (e_all hat n C.toCxt h).1
  · exact (e_all hat n C.toCxt h).1
theorem s_set (C : Sxt X B Wx c sc ft) (hat : AttOk B c ft) {n : Nat} {i : Nat} {x : Str} {v : Expr} {u : E} {p pos : Pos} (hi : slotOf c sc x = some i) (h : cValue c sc n (.Name x p) v = some u) : PS X (.Assign [.Name x p] v pos) (tSt B Wx (evS ft (.set (.nm i) u))) := by
  have he := val_all C hat h
  unfold cValue at h
  split at h
  · unfold cMut at h
    split at h
    · exact s_setV C hi he rfl
    · exact s_setV C hi he rfl
    · exact s_setV C hi he rfl
    · exact s_setE C hat hi h
  · exact s_setE C hat hi h
theorem vals_all (C : Sxt X B Wx c sc ft) (hat : AttOk B c ft) {n : Nat} : ∀ {ts vs : List Expr} {us : Es}, cValues c sc n ts vs = some us → PA X vs (tAs B Wx (evEs ft us)) ∧ ∀ v ∈ vs, plainArg v = true
  | [], [], us, h => by cases h; exact ⟨a_nil, fun _ z => nomatch z⟩
  | [], _ :: _, us, h => by cases h
  | _ :: _, [], us, h => by cases h
  | t :: ts, v :: vs, us, h => by
    unfold cValues at h
    split at h
    · rename_i hp
      rw [Option.bind_eq_some_iff] at h
      obtain ⟨x, hx, h⟩ := h
      rw [Option.map_eq_some_iff] at h
      obtain ⟨ys, hy, rfl⟩ := h
      obtain ⟨q1, q2⟩ := vals_all C hat hy
      exact ⟨a_cons (val_all C hat hx) q1 hp, fun y hy => (List.mem_cons.mp hy).elim (fun z => z ▸ hp) (q2 y)⟩
    · cases h
/-- a, b = x, y with names of its own -/
theorem s_par (C : Sxt X B Wx c sc ft) (hat : AttOk B c ft) {n : Nat} {t1 t2 v1 v2 : Expr} {names : List Str} {is : List Nat} {us : Es} {k k2 : Nat} {p p2 pos : Pos} (h1 : swapped sc [t1, t2] [v1, v2] = some names) (h2 : [v1, v2].all (constantsAlone 8) = false) (h3 : slots c names = some is) (h4 : cValues c sc n [t1, t2] [v1, v2] = some us) :
    PS X (.Assign [.Tuple [t1, t2] k p] (.Tuple [v1, v2] k2 p2) pos) (tSt B Wx (evS ft (.par is us))) := by
  obtain ⟨ha, hp⟩ := vals_all C hat h4
  have hsw := swapped_is (es := [t1, t2]) (env := X.env) (k := k) (k2 := k2) (p := p) (p2 := p2) C.sc (by rw [← C.sc]; exact C.kd) hp fun _ => h2
  rw [h1] at hsw
  obtain ⟨x, px, y, py, rfl, rfl, rfl, lx, ly, hne⟩ := swapped_two h1
  simp only [slots, Option.bind_eq_some_iff, Option.map_eq_some_iff] at h3
  obtain ⟨i, hi, is', ⟨j, hj, js, hjs, rfl⟩, rfl⟩ := h3
  cases hjs
  have gi := idx_get hi
  have gj := idx_get hj
  have hij : i ≠ j := fun e => by
    subst e
    rw [gi] at gj
    exact hne (Option.some.inj gj)
  refine ps_imp (ps_par C.calm (by rw [C.N]; exact C.nd) (by rw [C.N]; exact gi) (by rw [C.N]; exact gj) hij (by rw [C.sc]; exact lx) (by rw [C.sc]; exact ly) ha hsw) fun Dn σ H h => ?_
  obtain ⟨ρ, S, g, rfl, R, E, h⟩ := h
  simp only [evS] at h
  refine ⟨ρ, S, g, rfl, R, E, h.bind.imp fun ws S1 g1 e1 R1 h1 vs rs => ?_⟩
  obtain ⟨ρ', hr, h2⟩ := (Aft.bind (m := opt _) h1).opt R1
  cases rs with
  | nil => simp [setAll] at hr
  | cons r1 rs =>
    cases rs with
    | nil => simp [setAll] at hr
    | cons r2 rs =>
      cases rs with
      | nil =>
        simp only [setAll, Option.some.injEq] at hr
        subst hr
        exact ⟨_, _, rfl, h2.pure R1 _ (((E.ext e1).set r1).set r2)⟩
      | cons _ _ => simp [setAll] at hr
/-- (a, (b, c)) = value -/
theorem s_tup (C : Sxt X B Wx c sc ft) {es : List Expr} {k : Nat} {p pos : Pos} {v : Expr} {gs : G} {u : E} (hg : gOf c sc 6 (.Tuple es k p) = some gs) (he : PE X v (tE B Wx (evE ft u))) (hw : swappedStores [.Tuple es k p] v X.env = pure none) (hs : swapsWithSole [.Tuple es k p] v pos.line X.env = pure false) :
    PS X (.Assign [.Tuple es k p] v pos) (tSt B Wx (evS ft (.set gs u))) := by
  refine ps_imp (ps_asg he (g_all C.g 6 _ gs hg) hs hw) fun Dn σ H h => ?_
  obtain ⟨ρ, S, g, rfl, R, E, h⟩ := h
  simp only [evS] at h
  refine ⟨ρ, S, g, rfl, R, E, h.bind.eq.imp fun w S1 g1 e1 R1 ⟨q1, h1⟩ v r => ?_⟩
  cases gs with
  | nm i =>
    unfold gOf at hg
    simp only [Option.map_eq_some_iff] at hg
    obtain ⟨_, _, z⟩ := hg
    cases z
  | tup gl =>
    have h1 : Aft B Wx g1 ((Pd.toD w >>= fun x => opt (bindG (.tup gl) x ρ) >>= fun ρ' => Pure.pure (Ct.nx ρ')) S1) fun ct _ g' => ctE B Dn ct g' := by
      have : bindW (.tup gl) w ρ = (Pd.toD w >>= fun x => opt (bindG (.tup gl) x ρ)) := rfl
      rw [this, bindA] at h1
      exact h1
    obtain ⟨x, S2, g2, e2, R2, hH, _, d, h2⟩ := (Aft.bind (m := Pd.toD w) h1).toD R1 r
    obtain ⟨ρ', hb, h3⟩ := (Aft.bind (m := opt _) h2).opt R2
    exact ⟨ρ, S2, g2, x, ρ', hH, R2, (E.ext e1).ext e2, d, hb, fun σ' E' _ _ => by rw [← hH]; exact h3.pure R2 σ' E'⟩
theorem putAt_ok {w : W} {j : Int} {y : D} {S S' : Pd.S} {g : Gh} {o v : V} (R : Rep B S g) (r : WV B g o w) (d : DV B.K g.F v y) (h : putAt w j y S = .ok () S') : ∃ (a : Addr) (vs : List V) (k : Nat), o = .ref a ∧ g.H a = some (.lst vs) ∧ ixN vs.length j = some k ∧
    ∃ g', g'.H = upd g.H a (.lst (vs.set k v)) ∧ Ext g g' ∧ Rep B S' g' := by
  cases r with
  | @mu a n r =>
    obtain ⟨fr, xs, vs, q, q1, q2, q3⟩ := R.at_ _ _ r
    unfold putAt at h
    simp only [q] at h
    cases fr with
    | true => cases h
    | false =>
      simp only at h
      split at h
      · rename_i k hk
        cases h
        rw [← place_ix, ← q2.length] at hk
        obtain ⟨e, R'⟩ := R.write r q (q2.set d k)
        exact ⟨a, vs, k, rfl, q1, hk, _, rfl, e, R'⟩
      · cases h
  | _ => cases h
theorem appendTo_ok {n : Nat} {y : D} {S S' : Pd.S} {g : Gh} {o v : V} (R : Rep B S g) (r : WV B g o (.mut n)) (d : DV B.K g.F v y) (h : appendTo (.mut n) y S = .ok () S') : ∃ (a : Addr) (vs : List V), o = .ref a ∧ g.H a = some (.lst vs) ∧ vs.length < sizeLine ∧
    ∃ g', g'.H = upd g.H a (.lst (vs ++ [v])) ∧ Ext g g' ∧ Rep B S' g' := by
  cases r with
  | @mu a n r =>
    obtain ⟨fr, xs, vs, q, q1, q2, q3⟩ := R.at_ _ _ r
    unfold appendTo at h
    simp only [q] at h
    cases fr with
    | true => cases h
    | false =>
      simp only at h
      split at h
      · rename_i hz
        cases h
        obtain ⟨e, R'⟩ := R.write r q (q2.append (.cons d .nil))
        exact ⟨a, vs, rfl, q1, by rw [q2.length]; exact Nat.lt_of_lt_of_le hz big_le, _, rfl, e, R'⟩
      · cases h
theorem Aft.unit_ok {α : Type} {g : Gh} {r : R α} {P : α → Pd.S → Gh → Prop} (h : Aft B F0 g r P) (hx : ∀ c p S, r ≠ .ex c p S) : ∃ a S', r = .ok a S' := by
  cases r with
  | ok a S' => exact ⟨a, S', rfl⟩
  | ex c p S => exact absurd rfl (hx c p S)
  | no => exact h.elim
theorem putAt_end (w : W) (j : Int) (y : D) (S : S) : (∃ S', putAt w j y S = .ok () S') ∨ putAt w j y S = .no := by
  unfold putAt
  cases w with
  | «mut» n =>
    simp only
    split
    · split
      · exact .inl ⟨_, rfl⟩
      · exact .inr rfl
    · exact .inr rfl
  | _ => exact .inr rfl
theorem appendTo_end (w : W) (y : D) (S : S) : (∃ S', appendTo w y S = .ok () S') ∨ appendTo w y S = .no := by
  unfold appendTo
  cases w with
  | «mut» n =>
    simp only
    split
    · split
      · exact .inl ⟨_, rfl⟩
      · exact .inr rfl
    · exact .inr rfl
  | _ => exact .inr rfl
/-- x[i] = value -/
theorem s_put (C : Sxt X B Wx c sc ft) {x : Str} {j : Nat} {ie v : Expr} {u w : E} {p p2 pos : Pos} (hx : slotOf c sc x = some j) (hs : ∀ lo hi st q, ie ≠ .Slice lo hi st q) (hi : PE X ie (tE B Wx (evE ft u))) (he : PE X v (tE B Wx (evE ft w))) (hw : swapsWithSole [.Subscript (.Name x p) ie p2] v pos.line X.env = pure false) :
    PS X (.Assign [.Subscript (.Name x p) ie p2] v pos) (tSt B Wx (evS ft (.put j u w))) := by
  obtain ⟨k1, k2, k3, k4⟩ := slot_vis hx
  have hv := e_var (pos := p) (ft := ft) (Wx := Wx) C.toCxt k1 k2 k3 k4
  have hg := pg_sub (pos := p2) hv hi set_list (fun v => by cases ie <;> first | rfl | exact absurd rfl (hs _ _ _ _))
  refine ps_imp (ps_asg he hg hw (by cases v <;> rfl)) fun Dn σ H h => ?_
  obtain ⟨ρ, S, g, rfl, R, E, h⟩ := h
  simp only [evS] at h
  refine ⟨ρ, S, g, rfl, R, E, h.bind.imp fun w1 S1 g1 e1 R1 h1 v1 r1 => ?_⟩
  obtain ⟨y, S2, g2, e2, R2, hH2, _, d, h2⟩ := (Aft.bind (m := Pd.toD w1) h1).toD R1 r1
  obtain ⟨o, ho, h3⟩ := (Aft.bind (m := opt _) h2).opt R2
  have E2 := (E.ext e1).ext e2
  refine ⟨ρ, S2, g2, hH2, R2, E2, Aft.of_ok (a := o) (S' := S2) (by simp only [evE, ho]; rfl) fun g3 e3 R3 vo ro => ⟨ρ, S2, g3, rfl, R3, E2.ext e3, (Aft.bind (m := evE ft u ρ) (h3.weaken e3)).imp fun w2 S4 g4 e4 R4 h4 v2 r2 => ?_⟩⟩
  obtain ⟨i, rfl, rfl, h5⟩ := (Aft.bind (m := isI w2) h4).isI R4 r2
  have h6 := Aft.bind (m := putAt o i y) h5
  rcases putAt_end o i y S4 with ⟨S5, q⟩ | q
  · obtain ⟨a, vs, k, rfl, ha, hk, g5, hH5, e5, R5⟩ := putAt_ok R4 (ro.ext e4) ((e3.trans e4).sub.dv d) q
    refine ⟨a, vs, i, k, rfl, rfl, ha, hk, ?_⟩
    rw [q] at h6
    rw [← hH5]
    have h7 := h6 g5 e5 R5
    exact h7 g5 .refl R5 σ (((E2.ext e3).ext e4).ext e5)
  · rw [q] at h6
    exact h6.elim
/-- nothing is told of it -/
theorem s_bad {s : Stmt} : PS X s (tSt B Wx (evS ft .bad)) := ⟨fun pins s σ H Dn I h => by
  obtain ⟨ρ, S, g, rfl, R, E, h⟩ := h
  simp only [evS] at h
  exact h.elim⟩
/-- one store within a tuple of stores -/
theorem sub_read {x : Nat} {u : E} {y : D} {S : S} {g : Gh} {ρ : Rho} {σ : L2.St} {vv : V} {H : Hp} {κ : M Ct} {Q : L2.St → Hp → Prop} {P : Ct → Pd.S → Gh → Prop} (R : Rep B S g) (hH : g.H = H) (En : EnvR B g σ ρ) (d : DV B.K g.F vv y)
    (h : Aft B Wx g ((opt (ρ.at_ x) >>= fun o => evE ft u ρ >>= fun v => isI v >>= fun k => putAt o k y >>= fun _ => κ) S) P) (hk : ∀ S' g', Ext g g' → Rep B S' g' → Aft B Wx g' (κ S') P → Q σ g'.H) : gSub (tE B Wx (evE ft (.var x))) (tE B Wx (evE ft u)) rSetL vv σ H Q := by
  obtain ⟨o, ho, h3⟩ := (Aft.bind (m := opt _) h).opt R
  refine ⟨ρ, S, g, hH, R, En, Aft.of_ok (a := o) (S' := S) (by simp only [evE, ho]; rfl) fun g3 e3 R3 vo ro => ⟨ρ, S, g3, rfl, R3, En.ext e3, (Aft.bind (m := evE ft u ρ) (h3.weaken e3)).imp fun w2 S4 g4 e4 R4 h4 v2 r2 => ?_⟩⟩
  obtain ⟨i, rfl, rfl, h5⟩ := (Aft.bind (m := isI w2) h4).isI R4 r2
  have h6 := Aft.bind (m := putAt o i y) h5
  rcases putAt_end o i y S4 with ⟨S5, q⟩ | q
  · obtain ⟨a, vs, k, rfl, ha, hk', g5, hH5, e5, R5⟩ := putAt_ok R4 (ro.ext e4) ((e3.trans e4).sub.dv d) q
    refine ⟨a, vs, i, k, rfl, rfl, ha, hk', ?_⟩
    rw [q] at h6
    rw [← hH5]
    exact hk S5 g5 ((e3.trans e4).trans e5) R5 (h6 g5 e5 R5)
  · rw [q] at h6
    exact h6.elim
/-- x[i], y[j] = value -/
theorem s_put2 (C : Sxt X B Wx c sc ft) {x y : Str} {m n : Nat} {ie je v : Expr} {u u' w : E} {k : Nat} {p p' p2 p3 p4 pos : Pos} (hx : slotOf c sc x = some m) (hy : slotOf c sc y = some n) (hsi : notSl ie = true) (hsj : notSl je = true) (hi : PE X ie (tE B Wx (evE ft u))) (hj : PE X je (tE B Wx (evE ft u'))) (he : PE X v (tE B Wx (evE ft w)))
    (hw : swappedStores [.Tuple [.Subscript (.Name x p) ie p2, .Subscript (.Name y p') je p3] k p4] v X.env = pure none) (hs : swapsWithSole [.Tuple [.Subscript (.Name x p) ie p2, .Subscript (.Name y p') je p3] k p4] v pos.line X.env = pure false) :
    PS X (.Assign [.Tuple [.Subscript (.Name x p) ie p2, .Subscript (.Name y p') je p3] k p4] v pos) (tSt B Wx (evS ft (.put2 m n u u' w))) := by
  obtain ⟨k1, k2, k3, k4⟩ := slot_vis hx
  obtain ⟨l1, l2, l3, l4⟩ := slot_vis hy
  have hv := e_var (pos := p) (ft := ft) (Wx := Wx) C.toCxt k1 k2 k3 k4
  have hv' := e_var (pos := p') (ft := ft) (Wx := Wx) C.toCxt l1 l2 l3 l4
  have g1 := pg_sub (pos := p2) hv hi set_list (fun v => by cases ie <;> first | rfl | cases hsi)
  have g2 := pg_sub (pos := p3) hv' hj set_list (fun v => by cases je <;> first | rfl | cases hsj)
  have hg := pg_tup (k := k) (pos := p4) (n := 2) C.calm (pgs_cons g1 (pgs_cons g2 pgs_nil rfl) rfl) rfl rfl
  refine ps_imp (ps_asg he hg hs hw) fun Dn σ H h => ?_
  obtain ⟨ρ, S, g, rfl, R, E, h⟩ := h
  simp only [evS] at h
  refine ⟨ρ, S, g, rfl, R, E, h.bind.imp fun w1 S1 g1 e1 R1 h1 v1 r1 => ?_⟩
  obtain ⟨t, S2, g2, e2, R2, hH2, _, d, h2⟩ := (Aft.bind (m := Pd.toD w1) h1).toD R1 r1
  split at h2
  · rename_i a b
    cases d with
    | tup ht ds =>
      have hl := ds.length
      cases ds with
      | cons da ds =>
        cases ds with
        | cons db ds =>
          cases ds
          have E2 := (E.ext e1).ext e2
          refine ⟨_, _, rfl, by rw [C.K, ← hH2]; exact R2.sub.sqT ht, hl, _, _, rfl, sub_read R2 hH2 E2 da h2 fun S3 g3 e3 R3 h3 => ⟨_, _, rfl, sub_read R3 rfl (E2.ext e3) (e3.sub.dv db) h3 fun S4 g4 e4 R4 h4 => ⟨rfl, ?_⟩⟩⟩
          exact h4 g4 .refl R4 σ ((E2.ext e3).ext e4)
  · exact h2.elim
/-- x.append(value) -/
theorem s_app (C : Sxt X B Wx c sc ft) {x : Str} {j : Nat} {a : Expr} {u : E} {p ap cp pos : Pos} (hx : slotOf c sc x = some j) (hp : plainArg a = true) (hl : (ap.endLine == cp.line) = true) (ha : PE X a (tE B Wx (evE ft u))) :
    PS X (.Expr (.Call (.Attribute (.Name x p) "append" ap) [a] [] cp) pos) (tSt B Wx (evS ft (.app j u))) := by
  obtain ⟨k1, k2, k3, k4⟩ := slot_vis hx
  have hv := e_var (pos := p) (ft := ft) (Wx := Wx) C.toCxt k1 k2 k3 k4
  have st : starEach [a] X.env = [(false, eval a X.env)] := by rw [starEach_plain hp]; rfl
  have hc := pe_bm (cpos := cp) (apos := ap) (o := .Name x p) PySem.F.plainAttrs_list PySem.F.slot_list_append PySem.F.type_list_append mt_append hv (pa_cons ha pa_nil (starEach_plain hp)) rfl (by rw [st]; rfl) hl (starEach_plain hp) rfl
  refine ps_imp (ps_expr hc rfl) fun Dn σ H h => ?_
  obtain ⟨ρ, S, g, rfl, R, E, h⟩ := h
  simp only [evS] at h
  obtain ⟨o, ho, h1⟩ := (Aft.bind (m := opt _) h).opt R
  split at h1
  · rename_i n
    refine ⟨ρ, S, g, rfl, R, E, Aft.of_ok (a := .mut n) (S' := S) (by simp only [evE, ho]; rfl) fun g1 e1 R1 vo ro => ?_⟩
    cases ro with
    | @mu b _ rb =>
      obtain ⟨fr, xs, vs, q, q1, q2, q3⟩ := R1.at_ _ _ rb
      refine ⟨.inl ⟨rfl, vs, SqL.of q1⟩, ρ, S, g1, rfl, R1, E.ext e1, (Aft.bind (m := evE ft u ρ) (h1.weaken e1)).imp fun w2 S2 g2 e2 R2 h2 v2 r2 => ?_⟩
      obtain ⟨y, S3, g3, e3, R3, hH3, _, d, h3⟩ := (Aft.bind (m := Pd.toD w2) h2).toD R2 r2
      have h4 := Aft.bind (m := appendTo (.mut n) y) h3
      rcases appendTo_end (.mut n) y S3 with ⟨S4, qq⟩ | qq
      · obtain ⟨a', vs', ea, ha', hz, g5, hH5, e5, R5⟩ := appendTo_ok R3 (((WV.mu rb : WV B g1 (.ref b) (.mut n)).ext e2).ext e3) d qq
        cases ea
        rw [qq] at h4
        have h5 := h4 g5 e5 R5
        rw [← hH3]
        refine ⟨b, vs', v2, rfl, rfl, ha', hz, ?_⟩
        rw [← hH5]
        exact h5 g5 .refl R5 σ ((((E.ext e1).ext e2).ext e3).ext e5)
      · rw [qq] at h4
        exact h4.elim
  · exact h1.elim
theorem s_ex {e : Expr} {u : E} {pos : Pos} (he : PE X e (tE B Wx (evE ft u))) (hs : swapsWith e none pos.line X.env = pure false) : PS X (.Expr e pos) (tSt B Wx (evS ft (.ex u))) := by
  refine ps_imp (ps_expr he hs) fun Dn σ H h => ?_
  obtain ⟨ρ, S, g, rfl, R, E, h⟩ := h
  simp only [evS] at h
  exact ⟨ρ, S, g, rfl, R, E, h.bind.imp fun w S1 g1 e1 R1 h1 v r => h1.pure R1 σ (E.ext e1)⟩
theorem s_ite {t : Expr} {a b : List Stmt} {u : E} {x y : Sts} {pos : Pos} (ht : PT X t (tB' B Wx (evT ft u))) (ha : PSs X a (tSt B Wx (evSs ft x))) (hb : PSs X b (tSt B Wx (evSs ft y))) : PS X (.If t a b pos) (tSt B Wx (evS ft (.ite u x y))) := by
  refine ps_imp (ps_if ht ha hb) fun Dn σ H h => ?_
  obtain ⟨ρ, S, g, rfl, R, E, h⟩ := h
  simp only [evS] at h
  rw [← bindA] at h
  refine ⟨ρ, S, g, rfl, R, E, (Aft.bind (m := evT ft u ρ) h).imp fun b S1 g1 e1 R1 h1 => ?_⟩
  cases b with
  | true => exact ⟨ρ, S1, g1, rfl, R1, E.ext e1, h1⟩
  | false => exact ⟨ρ, S1, g1, rfl, R1, E.ext e1, h1⟩
theorem ss_nil : PSs X [] (tSt B Wx (evSs ft .nil)) := by
  refine pss_imp pss_nil fun Dn σ H h => ?_
  obtain ⟨ρ, S, g, rfl, R, E, h⟩ := h
  simp only [evSs] at h
  exact h.pure R σ E
theorem ss_cons {s : Stmt} {r : List Stmt} {x : St} {y : Sts} (hs : PS X s (tSt B Wx (evS ft x))) (hr : PSs X r (tSt B Wx (evSs ft y))) : PSs X (s :: r) (tSt B Wx (evSs ft (.cons x y))) := by
  refine pss_imp (pss_cons hs hr) fun Dn σ H h => ?_
  obtain ⟨ρ, S, g, rfl, R, E, h⟩ := h
  simp only [evSs] at h
  refine ⟨ρ, S, g, rfl, R, E, h.bind.imp fun ct S1 g1 e1 R1 h1 => ?_⟩
  cases ct with
  | nx ρ' => exact fun σ' E' => ⟨ρ', S1, g1, rfl, R1, E', h1⟩
  | rt w => exact fun v r => h1.pure R1 v r
theorem s_for (C : Sxt X B Wx c sc ft) {tg it : Expr} {b : List Stmt} {i : I} {gg : G} {y : Sts} {pos : Pos} (hfs : ∀ env x, foldedSetIterable it env x = pure x) (hi : PI X tg it (tI B Wx (evI ft i))) (hg : PG X tg (tG B gg)) (hb : PSs X b (tSt B Wx (evSs ft y))) : PS X (.For tg it b [] pos) (tSt B Wx (evS ft (.for gg i y))) := by
  refine ps_imp (ps_for C.own C.calm hi hg hb (hs := fun x => hfs X.env x)) fun Dn σ H h => ?_
  obtain ⟨ρ, S, g, rfl, R, E, h⟩ := h
  simp only [evS] at h
  refine ⟨ρ, S, g, rfl, R, E, h.bind.imp fun xs S1 g1 e1 R1 h1 J bj => ?_⟩
  refine ⟨fun n m σ H => m = xs.length - n ∧ n ≤ xs.length ∧ ∃ ρ S g, g.H = H ∧ Rep B S g ∧ EnvR B g σ ρ ∧ Sub g1.F g.F ∧ Aft B Wx g (forI gg (fun ρ => evSs ft y ρ) (xs.drop n) ρ S) fun ct _ g' => ctE B Dn ct g', ⟨xs.length, by simp, Nat.zero_le _, ρ, S1, g1, rfl, R1, E.ext e1, .refl, by rw [List.drop_zero]; exact h1⟩, ?_⟩
  rintro n m σ H ⟨rfl, hn, ρ, S, g, rfl, R, E, sb, h⟩
  by_cases hlt : n < xs.length
  · refine .inr ⟨bj.go n g.H hlt (sb.trans R.sub), fun σ' H' => (xs.length - (n + 1) = xs.length - (n + 1) ∧ n + 1 ≤ xs.length ∧ ∃ ρ S g, g.H = H' ∧ Rep B S g ∧ EnvR B g σ' ρ ∧ Sub g1.F g.F ∧ Aft B Wx g (forI gg (fun ρ => evSs ft y ρ) (xs.drop (n + 1)) ρ S) fun ct _ g' => ctE B Dn ct g'), fun σ' H' q => ⟨xs.length - (n + 1), by omega, q⟩, fun v H' yy => ?_⟩
    obtain ⟨g2, x, hH2, e2, _, R2, hx, dx⟩ := bj.yld n S g v H' sb R hlt yy
    have hd : xs.drop n = x :: xs.drop (n + 1) := by
      obtain ⟨hl, hxe⟩ := List.getElem?_eq_some_iff.mp hx
      rw [List.drop_eq_getElem_cons hl, hxe]
    rw [hd] at h
    simp only [forI] at h
    obtain ⟨ρ1, hb1, h2⟩ := (Aft.bind (m := opt _) (h.weaken e2)).opt R2
    refine ⟨ρ, S, g2, x, ρ1, hH2, R2, E.ext e2, dx, hb1, fun σ' E' _ _ => ⟨ρ1, S, g2, hH2, R2, E', (Aft.bind (m := evSs ft y ρ1) h2).imp fun ct S3 g3 e3 R3 h3 => ?_⟩⟩
    cases ct with
    | nx ρ2 => exact fun σ2 E2 => ⟨rfl, hlt, ρ2, S3, g3, rfl, R3, E2, (sb.trans e2.sub).trans e3.sub, h3⟩
    | rt w => exact fun v r => h3.pure R3 v r
  · have e : n = xs.length := by omega
    subst e
    rw [List.drop_length] at h
    simp only [forI] at h
    exact .inl ⟨bj.stop g.H (sb.trans R.sub), h.pure R σ E⟩
theorem s_while (C : Sxt X B Wx c sc ft) {t : Expr} {b : List Stmt} {u : E} {y : Sts} {pos : Pos} (ht : PT X t (tB' B Wx (evT ft u))) (hb : PSs X b (tSt B Wx (evSs ft y))) : PS X (.While t b [] pos) (tSt B Wx (evS ft (.while u y))) := by
  refine ps_imp (ps_while C.own ht hb) fun Dn σ H h => ?_
  obtain ⟨ρ, S, g, rfl, R, E, h⟩ := h
  simp only [evS] at h
  refine ⟨fun m σ H => ∃ ρ S g, g.H = H ∧ Rep B S g ∧ EnvR B g σ ρ ∧ Aft B Wx g (whileI (evT ft u) (fun ρ => evSs ft y ρ) m ρ S) fun ct _ g' => ctE B Dn ct g', ⟨1000, ρ, S, g, rfl, R, E, h⟩, ?_⟩
  rintro m σ H ⟨ρ, S, g, rfl, R, E, h⟩
  cases m with
  | zero => exact h.elim
  | succ m =>
    simp only [whileI] at h
    refine ⟨ρ, S, g, rfl, R, E, h.bind.imp fun bb S1 g1 e1 R1 h1 => ?_⟩
    cases bb with
    | false =>
      rw [if_neg (by decide)] at h1 ⊢
      exact h1.pure R1 σ (E.ext e1)
    | true =>
      rw [if_pos rfl] at h1 ⊢
      refine ⟨fun σ' H' => ∃ ρ S g, g.H = H' ∧ Rep B S g ∧ EnvR B g σ' ρ ∧ Aft B Wx g (whileI (evT ft u) (fun ρ => evSs ft y ρ) m ρ S) fun ct _ g' => ctE B Dn ct g', fun σ' H' q => ⟨m, Nat.lt_succ_self m, q⟩, ρ, S1, g1, rfl, R1, E.ext e1, h1.bind.imp fun ct S2 g2 e2 R2 h2 => ?_⟩
      cases ct with
      | nx ρ2 => exact fun σ2 E2 => ⟨ρ2, S2, g2, rfl, R2, E2, h2⟩
      | rt w => exact fun v r => h2.pure R2 v r
theorem s_raise (C : Sxt X B Wx c sc ft) {x m : Str} {j : Nat} {p p2 p3 pos : Pos} (hg : isGlo (sc.names.lookup x) = true) (hd : x ≠ "__debug__") (hx : c.excs.contains x = true) : PS X (.Raise (some (.Call (.Name x p) [.Constant (.str m) j p2] [] p3)) none pos) (tSt B Wx (evS ft (.raise x))) := by
  obtain ⟨C0, h1, h2, h3, h4, h5⟩ := C.excs x hx
  have mk := L2.pmk_own (X := X) (x := x) (m := m) (j := j) (p := p) (p2 := p2) (pos := p3) PySem.F.excBase_ValueError (by rw [C.K]; exact h5) (by rw [C.mg]; exact h1) (by rw [C.K]; exact h2) (raises_own (by rw [C.K]; exact h3) (by rw [C.K]; exact h4)) (C.glo hg) (by simpa using hd)
  refine ps_imp (ps_raise C.calm C.take mk) fun Dn σ H h => ?_
  obtain ⟨ρ, S, g, rfl, R, E, h⟩ := h
  simp only [evS] at h
  exact h g _ _ .refl R ⟨h1, rfl⟩
end
end Pd
end

set_option maxHeartbeats 200000
section
/-! Pd14: bodies and defs. Own work, session 1. -/
namespace Pd
open PySem PySem.Spec PyProof.Rows L2
section
variable {X : Cx} {B : Bk} {Wx : XK} {c : Cc} {sc : Scope} {ft : Ft}
theorem sws_none {es : List Expr} {k : Nat} {p : Pos} {v : Expr} {env : Env} (h : ∀ vs k2 p2, v ≠ .Tuple vs k2 p2) : swappedStores [.Tuple es k p] v env = pure none := by
  cases v <;> first | rfl | exact absurd rfl (h _ _ _)
theorem sole_tup {es : List Expr} {k l : Nat} {p : Pos} {v : Expr} {env : Env} : swapsWithSole [.Tuple es k p] v l env = pure false := by cases v <;> rfl
theorem sole_sub {o i : Expr} {l : Nat} {p : Pos} {v : Expr} {env : Env} : swapsWithSole [.Subscript o i p] v l env = pure false := by cases v <;> rfl
theorem st_all (C : Sxt X B Wx c sc ft) (hat : AttOk B c ft) : ∀ n : Nat, (∀ (st : Stmt) (x : St), cS c sc n st = some x → PS X st (tSt B Wx (evS ft x))) ∧ ∀ (ss : List Stmt) (x : Sts), cSs c sc n ss = some x → PSs X ss (tSt B Wx (evSs ft x)) := by
  intro n
  induction n with
  | zero => exact ⟨fun st x h => by simp [cS] at h, fun ss x h => by simp [cSs] at h⟩
  | succ n ih =>
    obtain ⟨ih1, ih2⟩ := ih
    have hf : ∀ e u, cE c n sc e = some u → Good X B Wx ft e u := fun e u h => e_all hat n C.toCxt h
    refine ⟨fun st x h => ?_, fun ss x h => ?_⟩
    · unfold cS at h
      split at h
      · -- return
        split at h
        · rw [Option.map_eq_some_iff] at h
          obtain ⟨u, hu, rfl⟩ := h
          exact s_ret (hf _ _ hu).1
        · cases h
          exact s_retN
      · -- an assignment
        split at h
        · split at h
          · rw [Option.bind_eq_some_iff] at h
            obtain ⟨i, hi, h⟩ := h
            rw [Option.map_eq_some_iff] at h
            obtain ⟨u, hu, rfl⟩ := h
            exact s_set C hat hi hu
          · split at h
            · split at h
              · rename_i names hsw
                split at h
                · split at h
                  · cases h
                  · rename_i hca
                    rw [Option.bind_eq_some_iff] at h
                    obtain ⟨is, hi, h⟩ := h
                    rw [Option.map_eq_some_iff] at h
                    obtain ⟨us, hu, rfl⟩ := h
                    exact s_par C hat hsw (by simpa using hca) hi hu
                · cases h
              · rename_i hsw
                split at h
                · split at h
                  · rename_i hns
                    rw [Bool.and_eq_true] at hns
                    rw [Option.bind_eq_some_iff] at h
                    obtain ⟨x', hx, h⟩ := h
                    rw [Option.bind_eq_some_iff] at h
                    obtain ⟨y', hy, h⟩ := h
                    rw [Option.bind_eq_some_iff] at h
                    obtain ⟨i', hi, h⟩ := h
                    rw [Option.bind_eq_some_iff] at h
                    obtain ⟨j', hj, h⟩ := h
                    rw [Option.map_eq_some_iff] at h
                    obtain ⟨u, hu, rfl⟩ := h
                    refine s_put2 C hx hy hns.1 hns.2 (hf _ _ hi).1 (hf _ _ hj).1 (hf _ _ hu).1 ?_ rfl
                    cases n with
                    | zero => cases hu
                    | succ n =>
                      unfold cE at hu
                      dsimp only at hu
                      rw [Option.map_eq_some_iff] at hu
                      obtain ⟨us, hus, _⟩ := hu
                      have hpl := (a_of (X := X) (B := B) (Wx := Wx) (ft := ft) (fun e u h => (e_all hat n C.toCxt h).1) hus).2
                      rw [swapped_is C.sc (by rw [← C.sc]; exact C.kd) hpl (fun z => by rw [hsw] at z; cases z), hsw]
                  · cases h
                · rw [Option.bind_eq_some_iff] at h
                  obtain ⟨g, hg, h⟩ := h
                  rw [Option.map_eq_some_iff] at h
                  obtain ⟨u, hu, rfl⟩ := h
                  refine s_tup C hg (hf _ _ hu).1 ?_ rfl
                  cases n with
                  | zero => cases hu
                  | succ n =>
                    unfold cE at hu
                    dsimp only at hu
                    rw [Option.map_eq_some_iff] at hu
                    obtain ⟨us, hus, _⟩ := hu
                    have hpl := (a_of (X := X) (B := B) (Wx := Wx) (ft := ft) (fun e u h => (e_all hat n C.toCxt h).1) hus).2
                    rw [swapped_is C.sc (by rw [← C.sc]; exact C.kd) hpl (fun z => by rw [hsw] at z; cases z), hsw]
            · rename_i hnt
              rw [Option.bind_eq_some_iff] at h
              obtain ⟨g, hg, h⟩ := h
              rw [Option.map_eq_some_iff] at h
              obtain ⟨u, hu, rfl⟩ := h
              exact s_tup C hg (hf _ _ hu).1 (sws_none fun vs k2 p2 e => hnt vs k2 p2 e) sole_tup
          · split at h
            · cases h
            · rename_i hns
              rw [Option.bind_eq_some_iff] at h
              obtain ⟨j, hj, h⟩ := h
              rw [Option.bind_eq_some_iff] at h
              obtain ⟨u, hu, h⟩ := h
              rw [Option.map_eq_some_iff] at h
              obtain ⟨w, hw, rfl⟩ := h
              exact s_put C hj (fun lo hi st q e => hns lo hi st q e) (hf _ _ hu).1 (hf _ _ hw).1 sole_sub
          · cases h
        · cases h
      · -- an expression
        split at h
        · split at h
          · rename_i q
            obtain ⟨rfl, hp, hl⟩ := q
            rw [Option.bind_eq_some_iff] at h
            obtain ⟨j, hj, h⟩ := h
            rw [Option.map_eq_some_iff] at h
            obtain ⟨u, hu, rfl⟩ := h
            exact s_app C hj hp hl (hf _ _ hu).1
          · cases h
        · cases h
        · cases h
        · cases h
        · rename_i n1 n2 n3 n4
          rw [Option.map_eq_some_iff] at h
          obtain ⟨u, hu, rfl⟩ := h
          exact s_ex (hf _ _ hu).1 (sw_no (fun e gs s p q => n2 e gs s p q) (fun e gs s p q => n3 e gs s p q) (fun a b gs s p q => n4 a b gs s p q))
      · split at h
        · rename_i ht
          rw [Option.bind_eq_some_iff] at h
          obtain ⟨u, hu, h⟩ := h
          rw [Option.bind_eq_some_iff] at h
          obtain ⟨x, hx, h⟩ := h
          rw [Option.map_eq_some_iff] at h
          obtain ⟨y, hy, rfl⟩ := h
          exact s_ite ((hf _ _ hu).2 8 ht) (ih2 _ _ hx) (ih2 _ _ hy)
        · cases h
      · split at h
        · rw [Option.bind_eq_some_iff] at h
          obtain ⟨i, hi, h⟩ := h
          rw [Option.bind_eq_some_iff] at h
          obtain ⟨g, hg, h⟩ := h
          rw [Option.map_eq_some_iff] at h
          obtain ⟨y, hy, rfl⟩ := h
          obtain ⟨h1, h2⟩ := good_it C.toCxt hf hi
          exact s_for C h2 h1 (g_all C.g 6 _ g hg) (ih2 _ _ hy)
        · cases h
      · split at h
        · split at h
          · rename_i ht
            rw [Option.bind_eq_some_iff] at h
            obtain ⟨u, hu, h⟩ := h
            rw [Option.map_eq_some_iff] at h
            obtain ⟨y, hy, rfl⟩ := h
            exact s_while C ((hf _ _ hu).2 8 ht) (ih2 _ _ hy)
          · cases h
        · cases h
      · split at h
        · split at h
          · rename_i q
            simp only [Bool.and_eq_true, Bool.not_eq_true', decide_eq_false_iff_not] at q
            cases h
            exact s_raise C q.1 q.2.1 q.2.2
          · cases h
            exact s_bad
        · cases h
          exact s_bad
      · cases h
        exact s_pass
      · cases h
    · unfold cSs at h
      split at h
      · cases h
        exact ss_nil
      · rw [Option.bind_eq_some_iff] at h
        obtain ⟨x, hx, h⟩ := h
        rw [Option.map_eq_some_iff] at h
        obtain ⟨y, hy, rfl⟩ := h
        exact ss_cons (ih1 _ _ hx) (ih2 _ _ hy)
theorem body_all (C : Sxt X B Wx c sc ft) (hat : AttOk B c ft) {m : Bool} {n : Nat} {b : List Stmt} {x : Sts} (h : cBody c sc m n b = some x) : PSs X b (tSt B Wx (evSs ft x)) := by
  unfold cBody at h
  split at h
  · split at h
    · rw [Option.bind_eq_some_iff] at h
      obtain ⟨x, hx, h⟩ := h
      rw [Option.map_eq_some_iff] at h
      obtain ⟨us, hu, rfl⟩ := h
      exact ss_cons ((st_all C hat n).1 _ _ hx) (ss_cons (s_ret (e_mlst (a_of (fun e u h => (e_all hat n C.toCxt h).1) hu).1)) ss_nil)
    · cases h
  · exact (st_all C hat n).2 _ _ h

/-! ### what leaves a def -/
theorem Rep.cut {S1 : S} {g1 : Gh} (R : Rep B S1 g1) {M0 : List Addr} (hM : ∃ l, g1.M = M0 ++ l) : Rep B (S1.take M0.length) ⟨g1.F, M0, g1.H⟩ := by
  obtain ⟨l, hM⟩ := hM
  have hl : M0.length ≤ S1.length := by rw [← R.len, hM, List.length_append]; omega
  refine ⟨R.sub, R.ntb, by rw [List.length_take]; show M0.length = _; omega, ?_, R.tab, fun n a ha => ?_⟩
  · have := R.nd
    rw [hM, List.nodup_append] at this
    exact this.1
  · have ha : M0[n]? = some a := ha
    have hn : n < M0.length := (List.getElem?_eq_some_iff.mp ha).1
    obtain ⟨fr, xs, vs, q, r⟩ := R.at_ n a (by rw [hM, List.getElem?_append_left hn]; exact ha)
    exact ⟨fr, xs, vs, by rw [List.getElem?_take_of_lt hn]; exact q, r⟩
theorem Ext.cut {g g1 : Gh} (e : Ext g g1) : Ext g ⟨g1.F, g.M, g1.H⟩ := ⟨e.sub, ⟨[], by simp⟩, e.keep, fun _ h => .inl h, e.newF⟩
/-- a run of a def: its end -/
theorem leave_end {f : Fn} {g g1 : Gh} {S1 : S} {w : W} {v : V} {Q : VK} {r : R W} (R1 : Rep B S1 g1) (e : Ext g g1) (rv : WV B g1 v w) (hr : r = leave f g.M.length w S1) (h : Aft B Wx g r fun w S' g' => ∀ v, WV B g' v w → Q v g'.H) : Q v g1.H := by
  subst hr
  unfold leave at h
  by_cases hm : f.mutRet = true
  · rw [if_pos hm] at h
    exact h g1 e R1 v rv
  · rw [if_neg hm] at h
    cases rv with
    | d d => exact h _ e.cut (R1.cut e.pre) v (.d d)
    | @mu a n hn =>
      obtain ⟨fr, xs, vs, q, q1, q2, q3⟩ := R1.at_ _ _ hn
      have hd : toD (.mut n) S1 = .ok (.list xs) (S1.set n (true, xs)) := by unfold toD; simp only [q]
      obtain ⟨g2, e2, R2, hH, hMM, dv⟩ := toD_ok R1 (WV.mu hn) hd
      have ee : M.andThen (toD (.mut n)) (fun x => ((fun s => .ok (W.d x) (s.take g.M.length)) : M W)) S1 = .ok (W.d (.list xs)) ((S1.set n (true, xs)).take g.M.length) := by
        unfold M.andThen
        rw [hd]
      have h : Aft B Wx g (.ok (W.d (.list xs)) ((S1.set n (true, xs)).take g.M.length)) (fun w S' g' => ∀ v, WV B g' v w → Q v g'.H) := Eq.mp (congrArg (fun r => Aft B Wx g r (fun w S' g' => ∀ v, WV B g' v w → Q v g'.H)) ee) h
      have z := h _ (e.trans e2).cut (R2.cut (e.trans e2).pre) (.ref a) (.d dv)
      rw [← hH]; exact z
    | dct ks hF p => exact h _ e.cut (R1.cut e.pre) _ (.dct ks hF p)
    | seti hF n1 n2 p => exact h _ e.cut (R1.cut e.pre) _ (.seti hF n1 n2 p)
    | sett hF n1 n2 p => exact h _ e.cut (R1.cut e.pre) _ (.sett hF n1 n2 p)
    | scr hF => exact h _ e.cut (R1.cut e.pre) _ (.scr hF)
theorem env_start {g : Gh} {N : List Str} {vs : List V} {ws : List W} (r : WVs B g vs ws) {n : Nat} (hn : n = N.length) : EnvR B g (L2.start N vs) (ws.map some ++ List.replicate (n - ws.length) none) := by
  subst hn
  unfold L2.start
  rw [r.length]
  refine ⟨by simp [r.length], fun i w h => ?_⟩
  by_cases hi : i < ws.length
  · rw [List.getElem?_append_left (by simpa using hi), List.getElem?_map] at h
    have : ws[i]? = some w := by
      cases q : ws[i]? with
      | none => rw [q] at h; cases h
      | some z => rw [q] at h; cases h; rfl
    obtain ⟨v, h1, h2⟩ := r.get this
    refine ⟨v, ?_, h2⟩
    rw [List.getElem?_append_left (by rw [List.length_map, r.length]; exact hi), List.getElem?_map, h1]; rfl
  · rw [List.getElem?_append_right (by simp; omega), List.getElem?_replicate] at h
    split at h <;> cases h
/-- the def of a law: where it stands, what it is -/
structure DefR (K : Kf) (x : Str) (f : Addr) (fd : FuncData) (st : Stmt) (N ps : List Str) : Prop where
  fn : FunD K x x (defArgs st) (defBody st) (defScope st) [] [] f fd
  sco : FnScope N ps (defScope st)
theorem fn_word {P : Program} {w : World} {K : Kf} {mg : Str → Option Value} {base : Heap} {B : Bk} {x : Str} {f : Addr} {fd : FuncData} {st : Stmt} {N ps : List Str} {k : Nat} {ft : Ft} {c : Cc} {m : Bool} {fuel : Nat} {b : Sts} {T : List (Addr × Str)} (Df : DefR K x f fd st N ps) (hN : c.N = N)
    (hb : cBody c (defScope st) m fuel (defBody st) = some b) (hat : AttOk B c ft) (hB : B = ⟨K, P, w, mg, T⟩)
    (hc : ∀ (A : Around) (outer : List Env) (s : Shared) (H : Hp) (E : XK) (cdv : Value), fd.code = cdv → Room k (A.deeper (envOfC x (defScope st) s.heap.objs.size f cdv)) → Cxt (cxOf (L2.CX P w) P w K mg base N x (defScope st) f cdv A outer s H E) B E c (defScope st) ft) :
    FnOk P w K mg base (L2.CX P w) (k + 1) f fd ps (spF B ps.length (runFn ft ⟨ps.length, N.length, m, b⟩)) := by
  obtain ⟨oc, od, dV, kV, doc, pm, an, cdv, ct, osl, rfl, lk, hcd, _, _⟩ := Df.fn.ex
  refine L2.fn_of lk hcd Df.sco (fun vs H Q E h => h.1) fun A outer s H vs Q E hr h => ?_
  have C0 := hc A outer s H E cdv rfl hr
  have C : Sxt (cxOf (L2.CX P w) P w K mg base N x (defScope st) f cdv A outer s H E) B E c (defScope st) ft := ⟨C0, L2.passes_of (K := fun e s'' => L2.CX P w outer H s E e s'') rfl, Df.sco.kind, fun _ => rfl⟩
  refine ⟨_, body_all C hat hb, ?_⟩
  obtain ⟨hl, ws, S, g, rfl, R, rw', h⟩ := h
  have hl2 : ws.length = ps.length := by rw [← rw'.length]; exact hl
  unfold runFn at h
  have hle : ps.length ≤ N.length := by
    have := congrArg List.length Df.sco.pre
    rw [List.length_take] at this; omega
  rw [if_pos ⟨hl2, hle⟩] at h
  refine ⟨start0 ⟨ps.length, N.length, m, b⟩ ws, S, g, rfl, R, env_start rw' rfl, (Aft.bind (m := evSs ft b (start0 ⟨ps.length, N.length, m, b⟩ ws)) h).eq.imp fun ct S1 g1 e1 R1 ⟨q1, h1⟩ => ?_⟩
  rw [bind_eq q1] at h
  rw [← R.len] at h
  cases ct with
  | nx ρ' => exact fun σ' E' => leave_end R1 e1 (.d .non) rfl h
  | rt w => exact fun v r => leave_end R1 e1 r rfl h
end
end Pd
end

set_option maxHeartbeats 200000
section
/-! Pd15: a whole program, level by level. Own work, session 1. -/
namespace Pd
open PySem PySem.Spec PyProof.Rows L2
/-- a def of a program -/
structure Dd where
  nm : Str
  st : Stmt
  ps : List Str
  N : List Str
  mu : List Str
  mr : Bool
  att : List Str
  b : Option Sts
def Dd.fn (d : Dd) : Option Fn := d.b.map fun b => ⟨d.ps.length, d.N.length, d.mr, b⟩
structure Pg where
  ds : List Dd
  fns : List Str
  consts : List (Str × D)
  excs : List Str
def Pg.c (p : Pg) (d : Dd) : Cc := ⟨d.N, p.fns, p.consts, p.excs, d.mu, d.att⟩
def Pg.fs (p : Pg) : List (Option Fn) := p.ds.map Dd.fn
def Pg.at (p : Pg) (at_ : Nat → M W → M W) (n : Nat) : Ft := ⟨fnT p.fs at_ n, at_⟩
/-- what the kernel checks -/
def scopeOk (N P : List Str) (sc : Scope) : Bool :=
  (match sc.kind with | .function => true | _ => false) && ((!sc.isCoroutine && !sc.isGenerator) && (decide N.Nodup && (decide (N.take P.length = P) && ((P.all fun x => match sc.names.lookup x with | some .local => true | some .cell => true | _ => false) &&
    sc.names.all fun y => match y.2 with | .free => false | _ => true))))
def Pg.ok (p : Pg) : Bool := decide (p.fns = p.ds.map (·.nm)) && p.ds.all fun d => match d.b with
  | none => true
  | some b => scopeOk d.N d.ps (defScope d.st)
/-- what each def compiles to -/
def Pg.Comp (p : Pg) : Prop := ∀ d ∈ p.ds, ∀ b, d.b = some b → cBody (p.c d) (defScope d.st) d.mr 40 (defBody d.st) = some b
theorem scopeOk_of {N P : List Str} {sc : Scope} (h : scopeOk N P sc = true) : FnScope N P sc := by
  simp only [scopeOk, Bool.and_eq_true, Bool.not_eq_true', decide_eq_true_eq, List.all_eq_true] at h
  obtain ⟨h1, ⟨h2, h3⟩, h4, h5, h6, h7⟩ := h
  refine ⟨?_, h2, h3, h4, h5, fun x hx => ?_, fun y hy e => ?_⟩
  · split at h1
    · assumption
    · cases h1
  · have := h6 x hx
    split at this
    · exact .inl (by assumption)
    · exact .inr (by assumption)
    · cases this
  · have := h7 y hy
    rw [e] at this
    cases this
/-- the name that the lambdas of a def bear -/
def lamQ (nm : Str) : Str := nm ++ ".<locals>." ++ "<lambda>"
/-- the code object of a def with lambdas, its table -/
def CodeAt (base : Heap) (mg : Str → Option Value) (Tb : List (Addr × Str)) (nm : Str) (fd : FuncData) : Prop := ∃ c0 P0 : Addr, fd.code = .ref c0 ∧ LamX.TabB base mg c0 P0 ∧ (P0, lamQ nm) ∈ Tb ∧ ∀ p ∈ Tb, p.1 = P0 → p.2 = lamQ nm
/-- what the head tells -/
structure Told (p : Pg) (K : Kf) (mg : Str → Option Value) : Prop where
  defs : ∀ d ∈ p.ds, ∃ f fd, mg d.nm = some (.ref f) ∧ FunD K d.nm d.nm (defArgs d.st) (defBody d.st) (defScope d.st) [] [] f fd ∧ Binds K fd d.ps []
  consts : ∀ x d, p.consts.lookup x = some d → ∃ v u, mg x = some u ∧ RelV v u ∧ ∀ F, DV K F v d
  excs : ∀ x, p.excs.contains x = true → ∃ C, mg x = some (.ref C) ∧ PySem.W.keepIn K (.ref C) = true ∧ PySem.W.subIn K (.ref C) (.type "BaseException") = some true ∧ PySem.W.typeIn K (.ref C) = some (.type "type") ∧
    PySem.W.excIn K C [.type "ValueError", .type "Exception", .type "BaseException", .type "object"] "ValueError.__new__" = true
  blts : ∀ x, known x = true → idx p.fns x = none → p.consts.lookup x = none → mg x = none
theorem fnok_absurd {P : Program} {w : World} {K : Kf} {mg : Str → Option Value} {base : Heap} {CX : CXT} {k : Nat} {f : Addr} {fd : FuncData} {ps : List Str} {sp : Sp} (h : ∀ vs H Q E, ¬ sp vs H Q E) : FnOk P w K mg base CX k f fd ps sp :=
  ⟨fun vs H Q E q => (h vs H Q E q).elim, fun _ _ _ H _ _ vs Q E _ _ _ _ q => (h vs H Q E q).elim⟩
theorem spF_no {B : Bk} {n : Nat} {m : List W → M W} (hm : ∀ ws S, m ws S = .no) : ∀ vs H Q E, ¬ spF B n m vs H Q E := by
  rintro vs H Q E ⟨_, ws, S, g, _, _, _, h⟩
  rw [hm] at h
  exact h
theorem idx_lt : ∀ {N : List Str} {x : Str} {i : Nat}, idx N x = some i → i < N.length := fun h => (List.getElem?_eq_some_iff.mp (idx_get h)).1
/-- the promise of all defs at a level -/
def AllOk (p : Pg) (P : Program) (w : World) (K : Kf) (mg : Str → Option Value) (base : Heap) (Tb : List (Addr × Str)) (at_ : Nat → M W → M W) (n : Nat) : Prop :=
  ∀ x j, idx p.fns x = some j → ∃ f fd ps, mg x = some (.ref f) ∧ PySem.W.keepIn K (.ref f) = true ∧ Binds K fd ps [] ∧ FnOk P w K mg base (L2.CX P w) (3 * n) f fd ps (spF ⟨K, P, w, mg, Tb⟩ ps.length (fnT p.fs at_ n j)) ∧ ∀ ws S, fnT p.fs at_ n j ws S ≠ .no → ws.length = ps.length
theorem cxt_of {p : Pg} {P : Program} {w : World} {K : Kf} {mg : Str → Option Value} {base : Heap} {Tb : List (Addr × Str)} {at_ : Nat → M W → M W} {n : Nat} (T : Told p K mg) (A0 : AllOk p P w K mg base Tb at_ n) (d : Dd) (S : FnScope d.N d.ps (defScope d.st)) (f : Addr) (A : Around) (outer : List Env) (s : Shared) (H : Hp) (E : XK) (cdv : Value) (hco : d.att ≠ [] → ∃ fd, fd.code = cdv ∧ CodeAt base mg Tb d.nm fd)
    (hr : Room (3 * n + 2) (A.deeper (envOfC d.nm (defScope d.st) s.heap.objs.size f cdv))) : Cxt (cxOf (L2.CX P w) P w K mg base d.N d.nm (defScope d.st) f cdv A outer s H E) ⟨K, P, w, mg, Tb⟩ E (p.c d) (defScope d.st) (p.at at_ n) where
  K := rfl
  P := rfl
  w := rfl
  mg := rfl
  calm := rfl
  N := rfl
  nd := S.nd
  sc := rfl
  room := hr.mono (Nat.zero_le _)
  take := L2.takes_of rfl rfl rfl rfl
  consts := T.consts
  excs := T.excs
  blts := T.blts
  fns := fun x j hj => by
    obtain ⟨f, fd, ps, h1, h2, h3, h4, h5⟩ := A0 x j hj
    exact ⟨f, fd, ps, 3 * n, h1, h2, h3, hr.mono (Nat.le_add_right _ 2), h4, h5⟩
  lam := fun ha => by
    obtain ⟨fd, rfl, c0, P0, h1, h2, h3, h4⟩ := hco ha
    exact ⟨c0, P0, 3 * n, h1, h2, h3, h4, hr, A0⟩
theorem all_ok {p : Pg} {P : Program} {w : World} {K : Kf} {mg : Str → Option Value} {base : Heap} {Tb : List (Addr × Str)} {at_ : Nat → M W → M W} (hp : p.ok = true) (hc : p.Comp) (T : Told p K mg) (hco : ∀ d ∈ p.ds, d.att ≠ [] → ∀ f fd, mg d.nm = some (.ref f) → FunD K d.nm d.nm (defArgs d.st) (defBody d.st) (defScope d.st) [] [] f fd → CodeAt base mg Tb d.nm fd)
    (hat : ∀ n d, d ∈ p.ds → AllOk p P w K mg base Tb at_ n → AttOk ⟨K, P, w, mg, Tb⟩ (p.c d) (p.at at_ n)) : ∀ n, AllOk p P w K mg base Tb at_ n := by
  have hp' := hp
  simp only [Pg.ok, Bool.and_eq_true, decide_eq_true_eq] at hp
  obtain ⟨hf, hs⟩ := hp
  have at1 : ∀ {x j}, idx p.fns x = some j → ∃ d ∈ p.ds, p.ds[j]? = some d ∧ d.nm = x := fun {x j} h => by
    have := idx_get h
    rw [hf, List.getElem?_map] at this
    cases q : p.ds[j]? with
    | none => rw [q] at this; cases this
    | some d => rw [q] at this; exact ⟨d, List.mem_of_getElem? q, rfl, Option.some.inj this⟩
  intro n
  induction n with
  | zero =>
    intro x j hj
    obtain ⟨d, hd, hdj, rfl⟩ := at1 hj
    obtain ⟨f, fd, h1, h2, h3⟩ := T.defs d hd
    exact ⟨f, fd, d.ps, h1, h2.kp, h3, fnok_absurd (spF_no fun _ _ => rfl), fun _ _ z => absurd rfl z⟩
  | succ n ih =>
    intro x j hj
    obtain ⟨d, hd, hdj, rfl⟩ := at1 hj
    obtain ⟨f, fd, h1, h2, h3⟩ := T.defs d hd
    have ej : p.fs[j]? = some d.fn := by unfold Pg.fs; rw [List.getElem?_map, hdj]; rfl
    cases hb : d.b with
    | none =>
      have e : ∀ ws S, fnT p.fs at_ (n + 1) j ws S = .no := fun ws S => by
        simp only [fnT, ej, Dd.fn, hb, Option.map_none]; rfl
      exact ⟨f, fd, d.ps, h1, h2.kp, h3, fnok_absurd (spF_no e), fun ws S z => absurd (e ws S) z⟩
    | some b =>
      have hsc := List.all_eq_true.mp hs d hd
      rw [hb] at hsc
      have S := scopeOk_of hsc
      have e : ∀ ws, fnT p.fs at_ (n + 1) j ws = runFn (p.at at_ n) ⟨d.ps.length, d.N.length, d.mr, b⟩ ws := fun ws => by
        simp only [fnT, ej, Dd.fn, hb, Option.map_some]; rfl
      refine ⟨f, fd, d.ps, h1, h2.kp, h3, ?_, fun ws S z => ?_⟩
      · have e2 : (fnT p.fs at_ (n + 1) j) = runFn (p.at at_ n) ⟨d.ps.length, d.N.length, d.mr, b⟩ := funext e
        rw [e2]
        exact fn_word (st := d.st) (c := p.c d) (fuel := 40) ⟨h2, S⟩ rfl (hc d hd b hb) (hat n d hd ih) rfl fun A outer s H E cdv hcv hr => cxt_of T ih d S f A outer s H E cdv (fun ha => ⟨fd, hcv, hco d hd ha f fd h1 h2⟩) hr
      · rw [e] at z
        unfold runFn at z
        split at z
        · rename_i q; exact q.1
        · exact absurd rfl z
/-- no call with a lambda -/
theorem att_none {B : Bk} {c : Cc} {ft : Ft} (h : c.attf = []) : AttOk B c ft := fun X Wx sc C n x body lsc k u p as_ lp pos hk _ _ _ _ _ => by
  rw [h] at hk
  cases hk
end Pd
end

set_option maxHeartbeats 200000
section
/-! Pd16: the def that calls a lambda within a try, and tells the error's kind by another def. Own work, session 1. -/
namespace Pd
open PySem PySem.Spec PyProof.Rows L2
/-! ### the def that tells an error's kind -/
/-- the body b, walked with an exception of the class D, returns the word z -/
inductive KinB (K : Kf) (mg : Str → Option Value) (sc : Scope) (D : Addr) : List Stmt → Str → Prop
  | hit {x z : Str} {Cl : Addr} {p1 p2 p3 p4 p5 p6 p7 : Pos} {j : Nat} {rest : List Stmt} : mg x = some (.ref Cl) → sc.names.lookup x = some .globalImplicit → (x == ("__debug__" : Str)) = false → PySem.W.kitOne K (.ref D) (.ref Cl) = some true →
      KinB K mg sc D (.If (.Call (.Name "isinstance" p1) [.Name "e" p2, .Name x p3] [] p4) [.Return (some (.Constant (.str z) j p5)) p6] [] p7 :: rest) z
  | miss {x y z : Str} {Cl : Addr} {p1 p2 p3 p4 p5 p6 p7 : Pos} {j : Nat} {rest : List Stmt} : mg x = some (.ref Cl) → sc.names.lookup x = some .globalImplicit → (x == ("__debug__" : Str)) = false → PySem.W.kitOne K (.ref D) (.ref Cl) = some false →
      KinB K mg sc D rest z → KinB K mg sc D (.If (.Call (.Name "isinstance" p1) [.Name "e" p2, .Name x p3] [] p4) [.Return (some (.Constant (.str y) j p5)) p6] [] p7 :: rest) z
section
variable {Y : Cx} {a D : Addr} {oe : Obj}
theorem isPinned (hp : (a, oe) ∈ Y.pn) (F : ExcC Y.K D) (hz : Zc (.ref D) none oe) (hf : ∃ vs, oe.data = .fields vs) : CallR Y (.builtin "isinstance") (rIsE Y.K D a) := by
  rintro pins s σ H _ us Q I r ⟨cl, cv, b, rfl, hcv, hb, q⟩
  match us, r with
  | [_, _], .cons rx (.cons ry .nil) =>
    have e1 := hcv _ ry
    have e0 : _ = Value.ref a := rx
    rw [e0, e1]
    have at_ := (I.pin (a, oe) (List.mem_append_left _ hp)).1
    have inst : PySem.W.InstAt s.heap a oe D none := by
      obtain ⟨vs, hv⟩ := hf
      obtain ⟨oc, od, dt, sl⟩ := oe
      obtain ⟨z1, z2⟩ := hz
      simp only at z1 z2 hv
      subst z1; subst z2; subst hv
      exact ⟨at_, rfl, rfl, trivial⟩
    refine PySem.W.kia_one (PySem.W.handS_kitx_exc F.hg F.hk F.hs F.hd F.ha F.hn F.ht F.hm) I.kIn inst hb (fun z => nomatch z) fun tk => ?_
    exact ⟨.bl b, H, I.kept (t' := tk) (fun _ _ z => z), rfl, q⟩
def tKin (a : Addr) (z : Str) : TS := fun Dn σ H => σ[0]? = some (some (.ref a)) ∧ Dn.rt (.str z) H
theorem kin_pss {sc : Scope} {N : List Str} (hN : Y.N[0]? = some ("e" : Str)) (hsc : Y.env.scope = sc) (he : sc.names.lookup ("e" : Str) = some .local) (hi : sc.names.lookup ("isinstance" : Str) = some .globalImplicit) (hmi : Y.mg "isinstance" = none)
    (hp : (a, oe) ∈ Y.pn) (F : ExcC Y.K D) (hz : Zc (.ref D) none oe) (hf : ∃ vs, oe.data = .fields vs) {b : List Stmt} {z : Str} (h : KinB Y.K Y.mg sc D b z) : PSs Y b (tKin a z) := by
  have gl : ∀ {x : Str}, sc.names.lookup x = some .globalImplicit → Gl Y x := fun h => by
    show Y.env.scope.names.lookup _ = _
    rw [hsc]; exact h
  have test : ∀ {x : Str} {Cl : Addr} {p1 p2 p3 p4 : Pos}, Y.mg x = some (.ref Cl) → sc.names.lookup x = some .globalImplicit → (x == ("__debug__" : Str)) = false →
      PT Y (.Call (.Name "isinstance" p1) [.Name "e" p2, .Name x p3] [] p4) (tB (tCB (rIsE Y.K D a) (tCons (tVar 0) (tCons (tC (.ref Cl)) tNil)))) := fun {x Cl p1 p2 p3 p4} h1 h2 h3 =>
    pt_val (pe_callB (isPinned hp F hz hf) (gl hi) hmi boot_isinstance (pa_cons (pe_var hN (.inl (by rw [hsc]; exact he))) (pa_cons (pe_glob (gl h2) h1 rfl h3) pa_nil)))
  induction h with
  | hit h1 h2 h3 h4 =>
    refine ⟨fun pins s σ H Dn I q => (pss_cons (ps_if (test h1 h2 h3) (pss_one (ps_ret pe_str)) pss_nil) pss_never).run pins s σ H Dn I ?_⟩
    exact ⟨_, q.1, _, _, _, rfl, fun u hu => hu, h4, _, rfl, q.2⟩
  | miss h1 h2 h3 h4 _ ih =>
    refine ⟨fun pins s σ H Dn I q => (pss_cons (ps_if (test h1 h2 h3) (pss_one (ps_ret pe_str)) pss_nil) ih).run pins s σ H Dn I ?_⟩
    exact ⟨_, q.1, _, _, _, rfl, fun u hu => hu, h4, _, rfl, q⟩
end
/-- such a def, called while the exception p is handled -/
theorem kin_call {P : Program} {w : World} {K : Kf} {mg : Str → Option Value} {base : Heap} {A : Around} {outer : List Env} {s : Shared} {H : Hp} {p : Addr × Obj} {x z : Str} {st : Stmt} {f D : Addr} {fd : FuncData} {k : Nat} {Q : VK}
    (F : FunD K x x (defArgs st) (defBody st) (defScope st) [] [] f fd) (S : FnScope ["e"] ["e"] (defScope st)) (hi : (defScope st).names.lookup ("isinstance" : Str) = some .globalImplicit) (he : (defScope st).names.lookup ("e" : Str) = some .local) (hmi : mg "isinstance" = none)
    (C : ExcC K D) (hz : Zc (.ref D) none p.2) (hf : ∃ vs, p.2.data = .fields vs) (kin : KinB K mg (defScope st) D (defBody st) z)
    (hr : L2H.RoomH (k + 1) A) (pin : L2H.PinOk outer H s p) (e0 : Env0 P w K mg base A outer s H) (hb : Binds K fd ["e"] []) (q : Q (.str z) H) :
    codeAny (model P w) A (.call (.ref f) ⟨[.ref p.1], []⟩) (CR C8.CX0 outer P w H s Q C8.E0) s := by
  obtain ⟨oc, od, dV, kV, doc, pm, an, cdv, ct, osl, rfl, lk, hcd, _, _⟩ := F.ex
  have inK : K.In s.heap := e0.mod.kin.keeps fun b o e => (e0.bs b o e).1
  have noLim : s.heap.NoLimit := e0.mod.nolimit.keeps fun b o e => (e0.bs b o e).1
  have hb' : BindsTo s (PySem.W.fnOf x x (defArgs st) (defBody st) (defScope st) dV kV doc pm an cdv ct) ⟨[.ref p.1], []⟩ ((["e"] : List Str).zip [Value.ref p.1]) := hb s [.ref p.1] inK (by simp)
  refine codeAny_call_function hr.depth (inK _ _ lk) rfl S.co S.gen rfl (PySem.W.codeRec_of inK hcd) (hb' _ _ _ _ ?_)
  have kinds : ∀ y ∈ (["e"] : List Str).zip [Value.ref p.1], (defScope st).names.lookup y.1 = some .local ∨ ((defScope st).names.lookup y.1 = some .cell ∧ ((cellsFrom (s.heap.objs.size + 1) (defScope st).names []).lookup y.1).isSome = true) := fun y hy => by
    have : y = (("e" : Str), Value.ref p.1) := by simpa using hy
    rw [this]; exact .inl he
  refine wpAny_newFunctionEnv_cells S.kind kinds fun env henv s1 inC => ?_
  subst henv
  refine ⟨noLim.keeps inC.toInCall.keep, codeAny_func ?_⟩
  have I0 : Inv (L2H.cxH C8.CX0 P w K mg base ["e"] x (defScope st) f cdv A outer s H C8.E0 p) [] (L2.start ["e"] [.ref p.1]) H s1 := L2H.inv_startH S pin e0 rfl (.cons rfl .nil) inC
  have body := kin_pss (Y := L2H.cxH C8.CX0 P w K mg base ["e"] x (defScope st) f cdv A outer s H C8.E0 p) (a := p.1) (oe := p.2) (N := ["e"]) rfl rfl he hi hmi (List.mem_singleton.mpr rfl) C hz hf kin
  refine wpAny_mono (body.run [] s1 _ H { nx := fun _ H' => Q .non H', rt := Q } I0 ⟨rfl, q⟩) (fun fl s' hs => ?_) fun e s' hs => hs
  match fl, hs with
  | .ret u, ⟨v, σ', H', J, rv, q'⟩ => exact ⟨v, H', J.os, J.bare, J.base, J.hok, rv, q'⟩
  | .next, ⟨σ', H', J, q'⟩ => exact ⟨.non, H', J.os, J.bare, J.base, J.hok, rfl, q'⟩
  | .brk, ⟨_, _, _, q'⟩ => exact q'.elim
  | .cont, ⟨_, _, _, q'⟩ => exact q'.elim
/-- kin(e), e the exception that is handled -/
theorem pe_kin {Y : Cx} {a D f : Addr} {oe : Obj} {i k : Nat} {x z : Str} {st : Stmt} {fd : FuncData} {p1 p2 pos : Pos} (hN : Y.N[i]? = some ("e" : Str)) (hv : Vis Y.env.scope "e") (hp : (a, oe) ∈ Y.pn) (hr : L2H.RoomH (k + 1) Y.A)
    (hg : Gl Y x) (hm : Y.mg x = some (.ref f)) (hdb : (x == ("__debug__" : Str)) = false)
    (F : FunD Y.K x x (defArgs st) (defBody st) (defScope st) [] [] f fd) (S : FnScope ["e"] ["e"] (defScope st)) (hi : (defScope st).names.lookup ("isinstance" : Str) = some .globalImplicit) (he : (defScope st).names.lookup ("e" : Str) = some .local) (hmi : Y.mg "isinstance" = none)
    (C : ExcC Y.K D) (hz : Zc (.ref D) none oe) (hf : ∃ vs, oe.data = .fields vs) (kin : KinB Y.K Y.mg (defScope st) D (defBody st) z) (hb : Binds Y.K fd ["e"] []) :
    PE Y (.Call (.Name x p1) [.Name "e" p2] [] pos) (fun σ H Q => σ[i]? = some (some (.ref a)) ∧ Q (.str z) H) := by
  refine ⟨fun pins s σ H Q I ⟨h1, h2⟩ => ?_⟩
  refine wpAny_Call_Name_kw (ld_glob I hg hm ?_ hdb)
  refine PySem.W.callWith_K (h₀ := Y.base) I.ok.mod.kin F.kp (thn ((pa_cons (pe_var hN hv) pa_nil).run pos pins s σ H (fun vs H1 => vs = [V.ref a] ∧ H1 = H) I ⟨_, h1, rfl, rfl⟩) fun us s1 ⟨vs, H1, I1, r, e1, e2⟩ => ⟨I1.kIn, ?_⟩) (by rfl) (by rfl)
  subst e1
  cases r with
  | cons ru rr =>
  cases rr
  cases ru
  rw [e2] at I1
  have at_ := I1.pin (a, oe) (List.mem_append_left _ hp)
  have pin : L2H.PinOk Y.stack H s1 (a, oe) := ⟨at_.1, at_.2.1, fun hm' => (List.mem_cons.mp (I1.stkSub a hm')).elim at_.2.2.1 at_.2.2.2.1, at_.2.2.2.2⟩
  have run := kin_call (p := (a, oe)) (Q := Q) F S hi he hmi C hz hf kin hr pin I1.env0 hb h2
  refine wpAny_call (codeAny_mono run fun r s' hq => ?_)
  cases r with
  | error e => exact (show False from hq).elim
  | ok fl =>
    cases fl with
    | ret v => exact I1.after hq
    | next => exact False.elim hq
    | brk => exact False.elim hq
    | cont => exact False.elim hq

/-! ### the def with the try -/
/-- what it makes of a lambda's run -/
def TTry (kin : Value → Str → Prop) : (XK → Hp → VK → Prop) → Hp → VK → Prop := fun tl H Q =>
  tl (fun cls d H' => ∃ z, d = none ∧ kin cls z ∧ Q (.str z) H') H (fun v H1 => ∀ p, H1 p = none → Q (.ref p) (upd H1 p (.tup [.str "told", v])))
/-- how that def is written -/
inductive TryBody : List Stmt → Prop
  | mk {j1 j2 k1 : Nat} {q1 q2 q3 q4 q5 q6 q7 q8 q9 q10 q11 q12 q13 q14 q15 q16 q17 q18 q19 : Pos} : TryBody [.Assign [.Name "found" q1] (.Constant .none j1 q2) q3,
    .Try [.Assign [.Name "found" q4] (.Tuple [.Constant (.str "told") j2 q5, .Call (.Name "call_so" q6) [] [] q7] k1 q8) q9] [.ExceptHandler (some (.Name "SureError" q10)) (some "e") [.Assign [.Name "found" q11] (.Call (.Name "_law_kin" q12) [.Name "e" q13] [] q14) q15] q16] [] [] q17,
    .Return (some (.Name "found" q18)) q19]
/-- the names: the def with the try, the one that tells the kinds -/
structure TryR (K : Kf) (mg : Str → Option Value) (st sk : Stmt) (gT fK CS : Addr) (fdT fdK : FuncData) : Prop where
  mT : mg "_law_try" = some (.ref gT)
  fT : FunD K "_law_try" "_law_try" (defArgs st) (defBody st) (defScope st) [] [] gT fdT
  bT : Binds K fdT ["call_so"] []
  sT : FnScope ["call_so", "found", "e"] ["call_so"] (defScope st)
  body : TryBody (defBody st)
  l1 : (defScope st).names.lookup ("call_so" : Str) = some .local
  l2 : (defScope st).names.lookup ("found" : Str) = some .local
  l3 : (defScope st).names.lookup ("e" : Str) = some .local
  l4 : (defScope st).names.lookup ("SureError" : Str) = some .globalImplicit
  l5 : (defScope st).names.lookup ("_law_kin" : Str) = some .globalImplicit
  mC : mg "SureError" = some (.ref CS)
  mK : mg "_law_kin" = some (.ref fK)
  fK : FunD K "_law_kin" "_law_kin" (defArgs sk) (defBody sk) (defScope sk) [] [] fK fdK
  bK : Binds K fdK ["e"] []
  sK : FnScope ["e"] ["e"] (defScope sk)
  k1 : (defScope sk).names.lookup ("isinstance" : Str) = some .globalImplicit
  k2 : (defScope sk).names.lookup ("e" : Str) = some .local
  mI : mg "isinstance" = none
/-- an error of that class is caught, its kind told so -/
def Caught (K : Kf) (mg : Str → Option Value) (sk : Stmt) (CS : Addr) (cls : Value) (z : Str) : Prop := ∃ D, cls = .ref D ∧ PySem.W.exmOne K cls (.ref CS) = some true ∧ ExcC K D ∧ KinB K mg (defScope sk) D (defBody sk) z
theorem pe_mono {X : Cx} {e : Expr} {t : TE} (h : PE X e t) : PE X e (fun σ H Q => ∃ Q0 : VK, t σ H Q0 ∧ ∀ v H1, Q0 v H1 → Q v H1) := ⟨fun pins s σ H Q I ⟨Q0, q, m⟩ =>
  wpAny_mono (h.run pins s σ H Q0 I q) (fun _ _ ⟨v, H', J, r, z⟩ => ⟨v, H', J, r, m v H' z⟩) fun _ _ z => z⟩
theorem takes_len {X : Cx} {W : WX} (tk : Takes X W) : Takes X (fun cls d σ H => σ.length = X.N.length → W cls d σ H) := fun u s' ⟨a, B, sI, pins, σ, H, cls, d, e, I, nb, up, sky, na, os, ag, w⟩ =>
  tk u s' ⟨a, B, sI, pins, σ, H, cls, d, e, I, nb, up, sky, na, os, ag, w I.len⟩
theorem try_gives {X : Cx} {q : Str} {st sk : Stmt} {gT fK CS : Addr} {fdT fdK : FuncData} {cdg : Value} {k : Nat} (T : TryR X.K X.mg st sk gT fK CS fdT fdK) (hr : Room (k + 2) X.A) :
    LamX.GivesTo X ["call_so", "found", "e"] "_law_try" (defScope st) gT cdg (defBody st) "call_so" q (TTry (Caught X.K X.mg sk CS)) := by
  intro f c' s H Q tl act hc h
  have tb := T.body
  generalize defBody st = bd at tb
  cases tb with
  | mk =>
  have nd : (["call_so", "found", "e"] : List Str).Nodup := by decide +kernel
  have mkK : PySem.W.keepIn X.K (.ref fK) = true := T.fK.kp
  refine ⟨_, pss_cons (ps_set (i := 1) nd rfl (.inl T.l2) pe_non) (pss_cons (ps_try_as (X := (cxOf C8.CX0 X.prog X.w X.K X.mg X.base ["call_so", "found", "e"] "_law_try" (defScope st) gT cdg X.A X.stack s H C8.E0).nox) (c := .ref CS) (i := 2) (Wout := fun _ _ _ _ => False)
      (tb := fun W D σ H => ∃ (Ech : XK) (Q0 : VK), (∀ cls d σ' H', σ'.length = 3 → Ech cls d H' → W cls d σ' H') ∧ σ[0]? = some (some (.ref f)) ∧ H c' = some (LamX.CodeO c' q) ∧ tl Ech H Q0 ∧ ∀ v H1, Q0 v H1 → ∀ p, H1 p = none → D.nx (σ.set 1 (some (.ref p))) (upd H1 p (.tup [.str "told", v])))
      (ts := fun a cls d D σ H => ∃ z, d = none ∧ Caught X.K X.mg sk CS cls z ∧ σ[2]? = some (some (.ref a)) ∧ D.nx (σ.set 1 (some (.str z))) H)
      rfl rfl nd rfl T.l3 ⟨T.l4, by decide, .inl T.mC⟩ LamX.takes0 (fun W pn xe tk _ => ?_) (fun a oe cls d pn hz hf => ?_)) (pss_one (ps_ret (pe_var (i := 1) rfl (.inl T.l2))))), ?_⟩
  · refine ⟨fun pins s' σ H' D I h' => ?_⟩
    obtain ⟨Ech, Q0, hW, h1, h2, h3, h4⟩ := h'
    have ha := fun p1 p2 => pe_mono (act _ pn xe Ech p1 p2 (takes_len tk) fun cls d σ' H' e n => hW cls d σ' H' n e)
    refine (pss_one (ps_set (i := 1) nd rfl (.inl T.l2) (pe_tup (pa_cons pe_str (pa_cons (ha _ _) pa_nil))))).run pins s' σ H' D I ?_
    exact ⟨Q0, ⟨h1, h2, h3⟩, fun v H1 z => ⟨by rw [sizeLine_eq]; show 2 ≤ _; omega, fun p hp => h4 v H1 z p hp⟩⟩
  · refine ⟨fun pins s' σ H' D I h' => ?_⟩
    obtain ⟨z, rfl, ⟨D0, rfl, hex, hC, hk⟩, h1, h2⟩ := h'
    have hrm : L2H.RoomH (k + 1) ((X.A.deeper (envOfC "_law_try" (defScope st) s.heap.objs.size gT cdg)).mark (some (.ref a))) := ⟨(hr.deeper (envOfC "_law_try" (defScope st) s.heap.objs.size gT cdg)).dp, (hr.deeper (envOfC "_law_try" (defScope st) s.heap.objs.size gT cdg)).un⟩
    exact (pss_one (ps_set (X := ((cxOf C8.CX0 X.prog X.w X.K X.mg X.base ["call_so", "found", "e"] "_law_try" (defScope st) gT cdg X.A X.stack s H C8.E0).nox.suite a ((a, oe) :: pn))) (i := 1) nd rfl (.inl T.l2) (pe_kin (Y := ((cxOf C8.CX0 X.prog X.w X.K X.mg X.base ["call_so", "found", "e"] "_law_try" (defScope st) gT cdg X.A X.stack s H C8.E0).nox.suite a ((a, oe) :: pn))) (i := 2) rfl (.inl T.l3) List.mem_cons_self hrm T.l5 T.mK (by decide) T.fK T.sK T.k1 T.k2 T.mI hC hz hf hk T.bK))).run pins s' σ H' D I ⟨h1, h2⟩
  · refine ⟨_, _, fun cls d σ' H' hl he => ?_, rfl, hc, h, fun v H1 z p hp => ⟨.ref p, rfl, z p hp⟩⟩
    obtain ⟨z, rfl, ⟨D0, rfl, hex, hC, hk⟩, hQ⟩ := he
    match σ', hl with
    | [x, y, w], _ => exact ⟨true, hex, fun _ a ha => ⟨z, rfl, ⟨D0, rfl, hex, hC, hk⟩, rfl, .str z, rfl, hQ⟩, fun e => nomatch e⟩
/-- the meaning of such a call -/
def atT (kinW : Str → Option Str) (_ : Nat) (m : M W) : M W := fun s => match m s with
  | .ok w s' => (toD w >>= fun x => (pure (.d (.tuple [.str "told", x])) : M W)) s'
  | .ex c p s' => (match p with
    | none => (match kinW c with
      | some z => .ok (.d (.str z)) s'
      | none => .no)
    | some _ => .no)
  | .no => .no
section
variable {X : Cx} {B : Bk} {Wx : XK} {c : Cc} {sc : Scope} {ft : Ft}
theorem cxt_lam (C : Cxt X B Wx c sc ft) {k : Nat} {A : Around} {outer : List Env} {s : Shared} {H : Hp} {E : XK} {lsc : Scope} {f c' : Addr} (hr : Room k (A.deeper (LamX.lamEnv X lsc s.heap.objs.size f c')))
    (hf : ∀ x j, idx c.fns x = some j → ∃ f fd ps, B.mg x = some (.ref f) ∧ PySem.W.keepIn B.K (.ref f) = true ∧ Binds B.K fd ps [] ∧ FnOk X.prog X.w X.K X.mg X.base (L2.CX X.prog X.w) k f fd ps (spF B ps.length (ft.fn j)) ∧ ∀ ws S, ft.fn j ws S ≠ .no → ws.length = ps.length) :
    Cxt (LamX.lamCx X A outer s H E lsc f c') B E c.noatt lsc ft where
  K := C.K
  P := C.P
  w := C.w
  mg := C.mg
  calm := rfl
  N := C.N
  nd := C.nd
  sc := rfl
  room := hr.mono (Nat.zero_le _)
  take := L2.takes_of rfl rfl rfl rfl
  consts := C.consts
  excs := C.excs
  blts := C.blts
  fns := fun x j hj => by
    obtain ⟨f, fd, ps, h1, h2, h3, h4, h5⟩ := hf x j hj
    exact ⟨f, fd, ps, k, h1, h2, h3, hr, h4, h5⟩
  lam := fun h => absurd rfl h
/-- what stands by stays, so does what is known -/
theorem ext_tabs {S : S} {g : Gh} (R : Rep B S g) {H1 : Hp} (e : LamX.ExtN g.H H1) (t : LamX.Tabs B.T H1) : Ext g ⟨g.F, g.M, H1⟩ ∧ Rep B S ⟨g.F, g.M, H1⟩ :=
  ⟨⟨.refl, ⟨[], by simp⟩, fun b o h _ n => e b o h n, fun _ h => .inl h, fun _ _ h => .inl h⟩,
   ⟨fun b o h => e b o (R.sub b o h) fun ps z => R.ntb b ps (by rw [← z]; exact h), R.ntb, R.len, R.nd, t, fun n a ha => by
    obtain ⟨fr, xs, vs, p1, p2, p3, p4⟩ := R.at_ n a ha
    exact ⟨fr, xs, vs, p1, e a _ p2 (fun _ z => nomatch z), p3, p4⟩⟩⟩
theorem noArgs_of {as_ : Arguments} (h : noArgs as_ = true) : as_ = ⟨[], [], none, [], [], none, []⟩ := by
  unfold noArgs at h
  split at h
  · rfl
  · cases h
theorem att_try {st sk : Stmt} {gT fK CS : Addr} {fdT fdK : FuncData} {kinW : Str → Option Str} (T : TryR B.K B.mg st sk gT fK CS fdT fdK) (hc : ∀ x k, idx c.attf x = some k → x = "_law_try") (hk : ∀ c z, kinW c = some z → ∃ cls, B.mg c = some cls ∧ Caught B.K B.mg sk CS cls z) (ha : ft.att = atT kinW) : AttOk B c ft := by
  intro X Wx sc C n x body lsc k u p as_ lp pos hx hg hf hna hl hu
  obtain rfl := hc x k hx
  obtain rfl := noArgs_of hna
  obtain ⟨c0, P0, kk, h1, h2, h3, h4, h5, h6⟩ := C.lam fun z => by rw [z] at hx; cases hx
  have TX : TryR X.K X.mg st sk gT fK CS fdT fdK := by rw [C.K, C.mg]; exact T
  obtain ⟨oc, od, dV, kV, doc, pm, an, cdv, ct, osl, e, lk, hcd, _, _⟩ := TX.fT.ex
  have bT : Binds X.K fdT ["call_so"] [] := TX.bT
  have kT := TX.fT.kp
  subst e
  have L : LamX.LamS X.env.scope lsc := by rw [C.sc]; exact LamX.lamS_by hl
  refine good_val (pe_imp (LamX.pe_lamcall (T := B.T) (TT := TTry (Caught X.K X.mg sk CS)) (k := kk) (t := fun E => tE B E (evE ft u)) (C.glo hg) TX.mT kT lk hcd bT TX.sT rfl (.inl TX.l1) (try_gives TX h5) h2 h1 h3 h4 h5 L rfl (fun _ _ _ _ _ => rfl)
    (fun A outer s H E f c' hr => (e_all (att_none rfl) n (cxt_lam C hr h6) hu).1)) fun σ H Q h => ?_) fun _ => rfl
  obtain ⟨ρ, S, g, rfl, R, E, h⟩ := h
  refine ⟨R.tab, fun H1 eN T1 => ?_⟩
  obtain ⟨e1, R1⟩ := ext_tabs R eN T1
  refine ⟨ρ, S, _, rfl, R1, E.ext e1, ?_⟩
  simp only [evE, ha] at h
  cases q : evE ft u ρ S with
  | ok w S1 =>
    intro g2 e2 R2 v r p hp
    have h : Aft B Wx g ((toD w >>= fun x => (pure (.d (.tuple [.str "told", x])) : M W)) S1) (fun w S' g' => ∀ v, WV B g' v w → Q v g'.H) := by
      have := h
      simp only [atT, q] at this
      exact this
    obtain ⟨x, S3, g3, e3, R3, hH, hM, dv, h⟩ := ((h.weaken (e1.trans e2)).bind).toD R2 r
    rw [← hH] at hp ⊢
    obtain ⟨e4, R4⟩ := R3.new (o := .tup [.str "told", v]) hp fun _ z => nomatch z
    exact h _ e4 R4 (.ref p) (.d (.tup (SqT.of upd_same) (.cons (.str _) (.cons (e4.sub.dv dv) .nil))))
  | ex cn pl S1 =>
    intro g2 cls d e2 R2 ⟨i1, i2⟩
    cases pl with
    | some y =>
      simp only [atT, q] at h
      exact h.elim
    | none =>
      cases qz : kinW cn with
      | none =>
        simp only [atT, q, qz] at h
        exact h.elim
      | some z =>
        have h : Aft B Wx g (.ok (.d (.str z)) S1) (fun w S' g' => ∀ v, WV B g' v w → Q v g'.H) := by
          have := h
          simp only [atT, q, qz] at this
          exact this
        obtain ⟨cls', m1, m2⟩ := hk cn z qz
        rw [i1] at m1
        cases m1
        exact ⟨z, i2, by rw [C.K, C.mg]; exact m2, h g2 (e1.trans e2) R2 (.str z) (.d (.str _))⟩
  | no =>
    simp only [atT, q] at h
    exact h.elim
end
end Pd
end

set_option maxHeartbeats 200000
section
/-! Pd17: what the head tells is what the layer asks; a law's def at the end. Own work, session 1. -/
namespace Pd
open PySem PySem.Spec PyProof.Rows L2
/-! ### facts by names -/
def knownL : List Str := ["len", "all", "any", "sum", "sorted", "set", "tuple", "list", "dict", "abs", "int", "str", "max", "min", "bool", "range", "enumerate", "zip", "isinstance"]
theorem known_in {x : Str} (h : known x = true) : x ∈ knownL := by
  by_cases z : x ∈ knownL
  · exact z
  · exfalso
    simp only [knownL, List.mem_cons, List.not_mem_nil, or_false, not_or] at z
    obtain ⟨z1, z2, z3, z4, z5, z6, z7, z8, z9, z10, z11, z12, z13, z14, z15, z16, z17, z18, z19⟩ := z
    unfold known biOf tyOf at h
    simp only [z1, z2, z3, z4, z5, z6, z7, z8, z9, z10, z11, z12, z13, z14, z15, z16, z17, z18, z19, if_false, Option.isSome_none, decide_false, Bool.or_false] at h
    cases h
def constFa : Str × D → He.Fa
  | (x, .int i) => .int x i
  | (x, .str z) => .str x z
  | (x, _) => .glo x
def constOk : Str × D → Bool
  | (_, .int _) => true
  | (_, .str _) => true
  | _ => false
def faOf (p : Pg) (excs : List Str) : List He.Fa := p.ds.map (fun d => .glo d.nm) ++ (p.consts.map constFa ++ (p.excs.map .exc ++ ((p.excs ++ excs).map .glo ++ knownL.map .free)))
def ddD (d : Dd) : He.DefD := ⟨(d.nm, none), d.nm, d.nm, defArgs d.st, defBody d.st, defScope d.st, [], []⟩
/-- all of a def's parameters are given by place -/
def BindOk (d : Dd) : Prop := ∀ (kV doc pm : Value) (an : Option Addr) (cdv ct : Value) (us : List Value), us.length = d.ps.length → bindArgs (PySem.W.fnOf d.nm d.nm (defArgs d.st) (defBody d.st) (defScope d.st) .none kV doc pm an cdv ct) ⟨us, []⟩ = pure (d.ps.zip us)
def BindAll : List Dd → Prop
  | [] => True
  | d :: r => BindOk d ∧ BindAll r
theorem BindAll.at : ∀ {ds : List Dd}, BindAll ds → ∀ d ∈ ds, BindOk d
  | _ :: _, h, _, hd => (List.mem_cons.mp hd).elim (fun e => e ▸ h.1) fun e => BindAll.at h.2 _ e
section
variable {p : Pg} {K : Kf} {h : Heap} {mg : Str → Option Value} {fa : List He.Fa} {fn : List He.DefD} {es : List Str}
theorem lookup_mem {x : Str} {d : D} : ∀ {l : List (Str × D)}, l.lookup x = some d → (x, d) ∈ l
  | [], h => by cases h
  | (y, e) :: r, h => by
    rw [List.lookup_cons] at h
    split at h
    · rename_i q
      cases h
      rw [show x = y from by simpa using q]; exact List.mem_cons_self
    · exact List.mem_cons_of_mem _ (lookup_mem h)
theorem def_at (X : K.In h) (G : h.Ns mainGlobals mg) (c : He.SaysD fa (p.ds.map ddD) K) (hfa : ∀ f ∈ faOf p es, f ∈ fa) {d : Dd} (hd : d ∈ p.ds) :
    ∃ fd, mg d.nm = some (.ref (He.ga K d.nm)) ∧ FunD K d.nm d.nm (defArgs d.st) (defBody d.st) (defScope d.st) [] [] (He.ga K d.nm) fd := by
  obtain ⟨fd, F⟩ := c.defs (List.mem_map.mpr ⟨d, hd, rfl⟩)
  exact ⟨fd, He.glo_ok X G (c.facts (hfa _ (List.mem_append_left _ (List.mem_map.mpr ⟨d, hd, rfl⟩)))), F⟩
theorem told_of (X : K.In h) (G : h.Ns mainGlobals mg) (c : He.SaysD fa (p.ds.map ddD) K) (hfa : ∀ f ∈ faOf p es, f ∈ fa) (hb : BindAll p.ds) (hk : p.consts.all constOk = true) : Told p K mg where
  defs := fun d hd => by
    obtain ⟨fd, h1, h2⟩ := def_at X G c hfa hd
    exact ⟨_, fd, h1, h2, h2.bindsN (hb.at d hd)⟩
  consts := fun x d hx => by
    have hm := lookup_mem hx
    have ok := List.all_eq_true.mp hk _ hm
    have fc := c.facts (hfa _ (List.mem_append_right _ (List.mem_append_left _ (List.mem_map.mpr ⟨_, hm, rfl⟩))))
    cases d with
    | int i =>
      obtain ⟨t, ht⟩ := He.int_ok X G fc
      exact ⟨.int i, _, ht, ⟨t, rfl⟩, fun _ => .int i⟩
    | str z =>
      obtain ⟨t, ht⟩ := He.str_ok X G fc
      exact ⟨.str z, _, ht, ⟨t, rfl⟩, fun _ => .str z⟩
    | _ => cases ok
  excs := fun x hx => by
    have hm : x ∈ p.excs := by simpa using hx
    have f1 := c.facts (hfa _ (List.mem_append_right _ (List.mem_append_right _ (List.mem_append_left _ (List.mem_map.mpr ⟨x, hm, rfl⟩)))))
    have f2 := c.facts (hfa _ (List.mem_append_right _ (List.mem_append_right _ (List.mem_append_right _ (List.mem_append_left _ (List.mem_map.mpr ⟨x, List.mem_append_left _ hm, rfl⟩))))))
    obtain ⟨e1, e2, e3, e4⟩ := He.exc_ok f1
    exact ⟨_, He.glo_ok X G f2, e2, e3, e4, e1⟩
  blts := fun x hx _ _ => He.free_ok X G (c.facts (hfa _ (List.mem_append_right _ (List.mem_append_right _ (List.mem_append_right _ (List.mem_append_right _ (List.mem_map.mpr ⟨x, known_in hx, rfl⟩)))))))
theorem fun_same {x : Str} {st : Stmt} {f : Addr} {fd fd' : FuncData} (F : FunD K x x (defArgs st) (defBody st) (defScope st) [] [] f fd) (F' : FunD K x x (defArgs st) (defBody st) (defScope st) [] [] f fd') : fd = fd' := by
  obtain ⟨_, _, _, _, _, _, _, _, _, _, _, lk, _⟩ := F.ex
  obtain ⟨_, _, _, _, _, _, _, _, _, _, _, lk', _⟩ := F'.ex
  rw [lk] at lk'
  cases lk'
  rfl
/-- the code object of the def that makes lambdas, and its table -/
theorem code_at {nm : Str} {st : Stmt} {base : Heap} {fd : FuncData} (F : FunD K nm nm (defArgs st) (defBody st) (defScope st) [] [] (He.ga K nm) fd) (TB : LamX.TabB base mg (He.cT K (nm, none)).1 (He.cT K (nm, none)).2) :
    CodeAt base mg [((He.cT K (nm, none)).2, lamQ nm)] nm fd := by
  obtain ⟨oc, od, dV, kV, doc, pm, an, cdv, ct, osl, e, lk, hcd, _, _⟩ := F.ex
  obtain ⟨c, rfl⟩ := He.codeIn_ref hcd
  have ec : He.codeOf K (nm, none) = c := He.codeOf_eq lk (by rw [e])
  have e1 : (He.cT K (nm, none)).1 = c := ec
  refine ⟨c, (He.cT K (nm, none)).2, by rw [e], by rw [← e1]; exact TB, List.mem_singleton.mpr rfl, fun q hq _ => by rw [List.mem_singleton.mp hq]⟩
end

/-! ### the law's def -/
theorem def_ok {p : Pg} {P : Program} {w : World} {K : Kf} {mg : Str → Option Value} {base : Heap} {Tb : List (Addr × Str)} {at_ : Nat → M W → M W} (hp : p.ok = true) (hc : p.Comp) (T : Told p K mg) {n j : Nat} {d : Dd} {b : Sts} (hj : p.ds[j]? = some d) (hb : d.b = some b)
    (ih : AllOk p P w K mg base Tb at_ n) (hat : AttOk ⟨K, P, w, mg, Tb⟩ (p.c d) (p.at at_ n)) {f : Addr} {fd : FuncData} (F : FunD K d.nm d.nm (defArgs d.st) (defBody d.st) (defScope d.st) [] [] f fd) (hco : d.att ≠ [] → CodeAt base mg Tb d.nm fd) :
    FnOk P w K mg base (L2.CX P w) (3 * (n + 1)) f fd d.ps (spF ⟨K, P, w, mg, Tb⟩ d.ps.length (fnT p.fs at_ (n + 1) j)) := by
  have hp' := hp
  simp only [Pg.ok, Bool.and_eq_true, decide_eq_true_eq] at hp
  have hd : d ∈ p.ds := List.mem_of_getElem? hj
  have hsc := List.all_eq_true.mp hp.2 d hd
  rw [hb] at hsc
  have S := scopeOk_of hsc
  have ej : p.fs[j]? = some d.fn := by unfold Pg.fs; rw [List.getElem?_map, hj]; rfl
  have e2 : fnT p.fs at_ (n + 1) j = runFn (p.at at_ n) ⟨d.ps.length, d.N.length, d.mr, b⟩ := funext fun ws => by
    simp only [fnT, ej, Dd.fn, hb, Option.map_some]; rfl
  rw [e2]
  exact fn_word (st := d.st) (c := p.c d) (fuel := 40) ⟨F, S⟩ rfl (hc d hd b hb) hat rfl fun A outer s H E cdv hcv hr => cxt_of T ih d S f A outer s H E cdv (fun ha => ⟨fd, hcv, hco ha⟩) hr
/-- the script's ghost -/
theorem law_sp {B : Bk} {H : Hp} {a : Addr} {ns : List Int} {m : List W → M W} {S' : S} (hT : LamX.Tabs B.T H) (hS : SqL B.K H a (ns.map .int)) (hm : m [.scr ns] [] = .ok (.d (.bool true)) S') :
    spF B 1 m [.ref a] H (fun v _ => v = .bl true) (fun _ _ _ => False) := by
  have fin : ∀ (F : Hp), Sub F H → (∀ b ps, F b ≠ some (.tbl ps)) → SqL B.K F a (ns.map .int) → spF B 1 m [.ref a] H (fun v _ => v = .bl true) (fun _ _ _ => False) := fun F h1 h2 h3 => by
    refine ⟨rfl, [.scr ns], [], ⟨F, [], H⟩, rfl, ⟨h1, h2, rfl, List.nodup_nil, hT, fun n a ha => by simp at ha⟩, .cons (.scr h3) .nil, ?_⟩
    rw [hm]
    rintro g' _ _ v (⟨⟨⟩⟩)
    rfl
  rcases hS with hR | hK
  · have ht : ∀ ps, H a ≠ some (.tbl ps) := fun ps z => by
      rcases hR with e | ⟨o, e⟩ <;> rw [e] at z <;> cases z
    refine fin (fun b => if b = a then H a else none) (fun b o hb => ?_) (fun b ps hb => ?_) (.inl ?_)
    · by_cases e : b = a
      · subst e; simpa using hb
      · simp [e] at hb
    · by_cases e : b = a
      · subst e; exact ht ps (by simpa using hb)
      · simp [e] at hb
    · rcases hR with e | ⟨o, e⟩
      · exact .inl (by simpa using e)
      · exact .inr ⟨o, by simpa using e⟩
  · exact fin (fun _ => none) (fun _ _ hb => nomatch hb) (fun _ _ hb => nomatch hb) (.inr hK)
/-- a law with lambdas in its own def -/
theorem law_at {l : PySem.W.OpenLaw} {p : Pg} {w : World} {K : Kf} {h : Heap} {mg : Str → Option Value} {fa : List He.Fa} {es : List Str} {ts : List He.Tab} {ex : Kf → Bool} {at_ : Nat → M W → M W} {n j m : Nat} {d : Dd} {b : Sts} {x : Str} {f : Addr}
    (hp : p.ok = true) (hc : p.Comp) (hbd : BindAll p.ds) (hk : p.consts.all constOk = true) (hfa : ∀ f ∈ faOf p es, f ∈ fa) (X : K.In h) (G : h.Ns mainGlobals mg) (c : He.SaysX fa (p.ds.map ddD) ts [(d.nm, none)] ex w h K)
    (hj : p.ds[j]? = some d) (hb : d.b = some b) (hx : d.ps = [x]) (hatt : ∀ d' ∈ p.ds, d'.att ≠ [] → d' = d) (hmg : mg d.nm = some (.ref f))
    (hat : Told p K mg → ∀ n, ∀ d' ∈ p.ds, ∀ base, AllOk p l.prog w K mg base [((He.cT K (d.nm, none)).2, lamQ d.nm)] at_ n → AttOk ⟨K, l.prog, w, mg, [((He.cT K (d.nm, none)).2, lamQ d.nm)]⟩ (p.c d') (p.at at_ n))
    (hl : ∀ ns : List Int, ns.length ≤ m → (∀ z ∈ ns, Builtin.Int.intBits z ≤ 1048576) → ∃ S', fnT p.fs at_ (n + 1) j [.scr ns] [] = .ok (.d (.bool true)) S') :
    LamX.LawAtS l w K (L2.CX l.prog w) (3 * (n + 1)) m x mg f h := by
  have cD : He.SaysD fa (p.ds.map ddD) K := congrArg Prod.fst c.t
  have T := told_of X G cD hfa hbd hk
  have hd : d ∈ p.ds := List.mem_of_getElem? hj
  obtain ⟨fd, h1, F⟩ := def_at X G cD hfa hd
  rw [hmg] at h1
  cases h1
  refine ⟨fd, [He.cT K (d.nm, none)], spF ⟨K, l.prog, w, mg, [((He.cT K (d.nm, none)).2, lamQ d.nm)]⟩ 1 (fnT p.fs at_ (n + 1) j), fun q hq => ?_, fun q hq => ?_, fun q hq => ?_, fun s u => ?_, fun H a ns hlen hbits hH hS => ?_, fun base KB GB TB => ?_⟩
  · rw [List.mem_singleton.mp hq]; exact c.empty _ (List.mem_singleton.mpr rfl)
  · rw [List.mem_singleton.mp hq]; exact c.out _ (List.mem_singleton.mpr rfl)
  · rw [List.mem_singleton.mp hq]; exact PySem.W.codeHd_of_K X (c.hd _ (List.mem_singleton.mpr rfl))
  · have z := F.bindsA (hbd.at d hd) s [u] (by rw [hx]; rfl)
    rw [hx] at z
    exact z
  · obtain ⟨S', hS'⟩ := hl ns hlen hbits
    exact law_sp (fun q hq => by rw [List.mem_singleton.mp hq]; exact .nil (hH _ (List.mem_singleton.mpr rfl))) hS hS'
  · have TB1 := TB _ (List.mem_singleton.mpr rfl)
    have hco : ∀ d' ∈ p.ds, d'.att ≠ [] → ∀ f fd, mg d'.nm = some (.ref f) → FunD K d'.nm d'.nm (defArgs d'.st) (defBody d'.st) (defScope d'.st) [] [] f fd → CodeAt base mg [((He.cT K (d.nm, none)).2, lamQ d.nm)] d'.nm fd := fun d' hd' ha f fd h1 F' => by
      obtain rfl := hatt d' hd' ha
      rw [hmg] at h1
      cases h1
      exact code_at F' TB1
    have hA := all_ok (P := l.prog) (w := w) (base := base) (Tb := [((He.cT K (d.nm, none)).2, lamQ d.nm)]) (at_ := at_) hp hc T hco fun n d' hd' ih => hat T n d' hd' base ih
    have z := def_ok (P := l.prog) (w := w) (base := base) hp hc T hj hb (hA n) (hat T n d hd base (hA n)) F fun ha => hco d hd ha _ fd hmg F
    rw [hx] at z
    exact z
end Pd
end

set_option maxHeartbeats 200000
section
/-! Pd18: facts of the error classes, as one Bool. Own work, session 1. -/
namespace Pd
open PySem PySem.Spec PyProof.Rows L2
/-- isinstance asks the instances of the class x rightly -/
def excCB (K : Kf) (x : Str) : Bool :=
  He.eqO (PySem.W.findIn K (.ref (He.ga K x)) "__getattribute__") (some (some (.builtin "BaseException.__getattribute__"))) && (He.eqO (PySem.W.findIn K (.ref (He.ga K x)) "__getattr__") (some none) &&
  (decide (PySem.W.subIn K (.ref (He.ga K x)) (.type "BaseException") = some true) && (PySem.W.hasDictIn K (He.ga K x) && (He.eqO (PySem.W.findIn K (.ref (He.ga K x)) "__class__") (some (some (.builtin "object.__class__"))) &&
  (He.eqO (PySem.W.specialIn K (.builtin "object.__class__") "__get__") (some (some (.builtin "getset_descriptor.__get__"))) && (decide (PySem.W.takesIn K (.builtin "object.__class__") = some true) && decide (PySem.W.mroIn K (He.ga K x) (.type "object") = some true)))))))
theorem excC_of {K : Kf} {x : Str} (h : excCB K x = true) : ExcC K (He.ga K x) := by
  unfold excCB at h
  simp only [Bool.and_eq_true, decide_eq_true_eq] at h
  obtain ⟨h1, h2, h3, h4, h5, h6, h7, h8⟩ := h
  exact ⟨He.eqO_ok h1, He.eqO_ok h2, h3, h4, He.eqO_ok h5, He.eqO_ok h6, h7, h8⟩
/-- isinstance(an x, y) -/
def kitB (K : Kf) (x y : Str) : Bool := decide (PySem.W.kitOne K (.ref (He.ga K x)) (.ref (He.ga K y)) = some false)
theorem kit_self {K : Kf} {a : Addr} : PySem.W.kitOne K (.ref a) (.ref a) = some true := by
  unfold PySem.W.kitOne
  rw [if_pos (by simp)]
end Pd
end

set_option maxHeartbeats 200000
section
/-! Pe1: pure runs of the evaluator as relations, with rules that go by the shape of the code. Own work. -/
namespace Pd
open PySem
/-! ### the monad -/
theorem M.pb {α β : Type} (a : α) (f : α → M β) : ((Pure.pure a : M α) >>= f) = f a := rfl
theorem M.bp {α : Type} (m : M α) : (m >>= fun a => (Pure.pure a : M α)) = m := by
  funext S
  show M.andThen m _ S = _
  unfold M.andThen
  cases m S <;> rfl
theorem M.bb {α β γ : Type} (m : M α) (f : α → M β) (k : β → M γ) : ((m >>= f) >>= k) = (m >>= fun a => f a >>= k) := by
  funext S
  show M.andThen (M.andThen m f) k S = M.andThen m (fun a => M.andThen (f a) k) S
  unfold M.andThen
  cases m S <;> rfl
theorem M.ba {α β : Type} (m : M α) (f : α → M β) (σ : S) : (m >>= f) σ = (match m σ with | .ok a s' => f a s' | .ex c p s' => .ex c p s' | .no => .no) := rfl
theorem M.pa {α : Type} (a : α) (σ : S) : (Pure.pure a : M α) σ = .ok a σ := rfl
theorem look_d (x : D) : look (.d x) = pure x := rfl
theorem toD_d (x : D) : toD (.d x) = pure x := rfl
theorem opt_some {α : Type} (a : α) : opt (some a) = pure a := rfl
theorem isB_b (b : Bool) : isB (.d (.bool b)) = pure b := rfl
theorem isI_i (i : Int) : isI (.d (.int i)) = pure i := rfl
theorem seqD_l (xs : List D) : seqD (.list xs) = pure xs := rfl
theorem seqD_t (xs : List D) : seqD (.tuple xs) = pure xs := rfl
theorem small_ok {xs : List D} (h : xs.length ≤ big) : small xs = pure xs := if_pos h
theorem nox_pure {α : Type} (a : α) : nox (pure a : M α) = pure a := rfl
/-- short enough for the machine -/
def Sm {α : Type} (l : List α) : Prop := l.length ≤ big
theorem Sm.map {α β : Type} {l : List α} (f : α → β) (h : Sm l) : Sm (l.map f) := by unfold Sm; rw [List.length_map]; exact h
theorem Sm.filter {α : Type} {l : List α} (f : α → Bool) (h : Sm l) : Sm (l.filter f) := Nat.le_trans (List.length_filter_le f l) h
theorem Sm.of {α : Type} {l : List α} {n : Nat} (h : l.length ≤ n) (hn : n ≤ big := by decide) : Sm l := Nat.le_trans h hn

/-! ### the relations -/
/-- the state is kept -/
@[irreducible] def Ev (ft : Ft) (e : E) (ρ : Rho) (σ : S) (w : W) : Prop := evE ft e ρ σ = .ok w σ
@[irreducible] def Evs (ft : Ft) (es : Es) (ρ : Rho) (σ : S) (ws : List W) : Prop := evEs ft es ρ σ = .ok ws σ
@[irreducible] def EvI {α : Type} (ft : Ft) (it : I) (ρ : Rho) (σ : S) (enc : α → D) (xs : List α) : Prop := evI ft it ρ σ = .ok (xs.map enc) σ
@[irreducible] def EvO (ft : Ft) (o : Oe) (ρ : Rho) (σ : S) (i : Option Int) : Prop := evO ft o ρ σ = .ok i σ
/-- statements may change the state -/
@[irreducible] def EvC (ft : Ft) (ss : Sts) (ρ : Rho) (σ : S) (c : Ct) (σ' : S) : Prop := evSs ft ss ρ σ = .ok c σ'
/-- a walked clause of tests -/
@[irreducible] def EvT (ft : Ft) (es : Es) (ρ : Rho) (σ : S) (b : Bool) : Prop := evIfs ft es ρ σ = .ok b σ
section
variable {ft : Ft} {ρ : Rho} {σ : S} {a b c t : E} {es : Es} {p q : Bool}
theorem Ev.eq {w w' : W} (h : Ev ft a ρ σ w) (e : w = w') : Ev ft a ρ σ w' := e ▸ h
theorem v_var {i : Nat} {w : W} (h : ρ.at_ i = some w) : Ev ft (.var i) ρ σ w := by unfold Ev; simp only [evE, h, opt_some, M.pa]
theorem v_cst {x : D} : Ev ft (.cst x) ρ σ (.d x) := by unfold Ev; simp only [evE, M.pa]
theorem vs_nil : Evs ft .nil ρ σ [] := by unfold Evs; simp only [evEs, M.pa]
theorem vs_cons {w : W} {ws : List W} (h : Ev ft a ρ σ w) (hs : Evs ft es ρ σ ws) : Evs ft (.cons a es) ρ σ (w :: ws) := by
  unfold Ev at h; unfold Evs at *; simp only [evEs, h, hs, M.ba, M.pa, M.pb]
/-- values that are data -/
def ds (xs : List D) : List W := xs.map .d
theorem toDs_ds : ∀ xs : List D, toDs (ds xs) = pure xs
  | [] => rfl
  | x :: xs => by
    show (toD (.d x) >>= fun x => toDs (ds xs) >>= fun xs => pure (x :: xs)) = _
    rw [toD_d, M.pb, toDs_ds xs, M.pb]
theorem lookAll_ds : ∀ xs : List D, lookAll (ds xs) = pure xs
  | [] => rfl
  | x :: xs => by
    show (look (.d x) >>= fun x => lookAll (ds xs) >>= fun xs => pure (x :: xs)) = _
    rw [look_d, M.pb, lookAll_ds xs, M.pb]
/-- data in a row -/
@[irreducible] def Evd (ft : Ft) (es : Es) (ρ : Rho) (σ : S) (xs : List D) : Prop := evEs ft es ρ σ = .ok (ds xs) σ
theorem vd_nil : Evd ft .nil ρ σ [] := by unfold Evd; simp only [evEs, M.pa]; rfl
theorem vd_cons {x : D} {xs : List D} (h : Ev ft a ρ σ (.d x)) (hs : Evd ft es ρ σ xs) : Evd ft (.cons a es) ρ σ (x :: xs) := by
  unfold Ev at h; unfold Evd at *; simp only [evEs, h, hs, M.ba, M.pa, M.pb]; rfl
theorem v_tup {xs : List D} (h : Evd ft es ρ σ xs) (hl : xs.length ≤ big := by decide) : Ev ft (.tup es) ρ σ (.d (.tuple xs)) := by
  unfold Evd at h; unfold Ev; simp only [evE, h, M.ba, M.pa, M.pb, toDs_ds, small_ok hl]
theorem v_lst {xs : List D} (h : Evd ft es ρ σ xs) (hl : xs.length ≤ big := by decide) : Ev ft (.lst es) ρ σ (.d (.list xs)) := by
  unfold Evd at h; unfold Ev; simp only [evE, h, M.ba, M.pa, M.pb, toDs_ds, small_ok hl]
theorem v_bin {o : Bop} {x y z : D} (ha : Ev ft a ρ σ (.d x)) (hb : Ev ft b ρ σ (.d y)) (h : binD o x y = some z) : Ev ft (.bin o a b) ρ σ (.d z) := by
  unfold Ev at *; simp only [evE, ha, hb, M.ba, M.pa, M.pb, look_d, h, opt_some]
theorem v_neg {i : Int} (ha : Ev ft a ρ σ (.d (.int i))) : Ev ft (.neg a) ρ σ (.d (.int (-i))) := by
  unfold Ev at *; simp only [evE, ha, M.ba, M.pa, M.pb, isI_i]
theorem v_not (ha : Ev ft a ρ σ (.d (.bool p))) : Ev ft (.not a) ρ σ (.d (.bool (!p))) := by
  unfold Ev at *; simp only [evE, ha, M.ba, M.pa, M.pb, isB_b]
theorem v_and (ha : Ev ft a ρ σ (.d (.bool p))) (hb : p = true → Ev ft b ρ σ (.d (.bool q))) : Ev ft (.and a b) ρ σ (.d (.bool (p && q))) := by
  unfold Ev at *; simp only [evE, ha, M.ba, M.pa, M.pb, isB_b]
  cases p with
  | true => rw [if_pos rfl, hb rfl]; rfl
  | false => rfl
theorem v_or (ha : Ev ft a ρ σ (.d (.bool p))) (hb : p = false → Ev ft b ρ σ (.d (.bool q))) : Ev ft (.or a b) ρ σ (.d (.bool (p || q))) := by
  unfold Ev at *; simp only [evE, ha, M.ba, M.pa, M.pb, isB_b]
  cases p with
  | true => rfl
  | false => rw [if_neg Bool.false_ne_true, hb rfl]; rfl
@[irreducible] def Cmp (σ : S) (o : Cop) (v w : W) (p : Bool) : Prop := cmpW o v w σ = .ok p σ
theorem v_cmp {o : Cop} {v w : W} (ha : Ev ft a ρ σ v) (hb : Ev ft b ρ σ w) (h : Cmp σ o v w p) : Ev ft (.cmp o a b) ρ σ (.d (.bool p)) := by
  unfold Cmp at h; unfold Ev at *; simp only [evE, ha, hb, M.ba, M.pa, M.pb, h]
theorem v_chain {o o' : Cop} {v w u : W} (ha : Ev ft a ρ σ v) (hb : Ev ft b ρ σ w) (h : Cmp σ o v w p) (hc : p = true → Ev ft c ρ σ u) (h' : p = true → Cmp σ o' w u q) : Ev ft (.chain o o' a b c) ρ σ (.d (.bool (p && q))) := by
  unfold Cmp at *; unfold Ev at *; simp only [evE, ha, hb, M.ba, M.pa, M.pb, h]
  cases p with
  | true => rw [if_pos rfl, M.ba, hc rfl]; simp only [M.ba, h' rfl]; rfl
  | false => rfl
theorem v_ite {v w : W} (ht : Ev ft t ρ σ (.d (.bool p))) (ha : p = true → Ev ft a ρ σ v) (hb : p = false → Ev ft b ρ σ w) : Ev ft (.ite t a b) ρ σ (if p then v else w) := by
  unfold Ev at *; simp only [evE, ht, M.ba, M.pa, M.pb, isB_b]
  cases p with
  | true => rw [if_pos rfl, ha rfl]; rfl
  | false => rw [if_neg Bool.false_ne_true, hb rfl]; rfl
theorem v_ite_t {v : W} (ht : Ev ft t ρ σ (.d (.bool true))) (ha : Ev ft a ρ σ v) : Ev ft (.ite t a b) ρ σ v := by
  unfold Ev at *; simp only [evE, ht, M.ba, M.pa, M.pb, isB_b, if_true, ha]
theorem v_ite_f {v : W} (ht : Ev ft t ρ σ (.d (.bool false))) (hb : Ev ft b ρ σ v) : Ev ft (.ite t a b) ρ σ v := by
  unfold Ev at *; simp only [evE, ht, M.ba, M.pa, M.pb, isB_b, Bool.false_eq_true, if_false, hb]
/-- an index: into data, into a dict -/
@[irreducible] def Ix (σ : S) (v i : W) (z : D) : Prop := ixW v i σ = .ok z σ
theorem v_ix {v i : W} {z : D} (ha : Ev ft a ρ σ v) (hb : Ev ft b ρ σ i) (h : Ix σ v i z) : Ev ft (.ix a b) ρ σ (.d z) := by
  unfold Ix at h; unfold Ev at *; simp only [evE, ha, hb, M.ba, M.pa, M.pb, h]
theorem eo_none : EvO ft .none ρ σ none := by unfold EvO; simp only [evO, M.pa]
theorem eo_some {i : Int} (h : Ev ft a ρ σ (.d (.int i))) : EvO ft (.some a) ρ σ (some i) := by
  unfold Ev at h; unfold EvO; simp only [evO, h, M.ba, M.pa, M.pb, isI_i]
theorem v_sl {lo hi : Oe} {x z : D} {l h : Option Int} (ha : Ev ft a ρ σ (.d x)) (hl : EvO ft lo ρ σ l) (hh : EvO ft hi ρ σ h) (hz : slD x l h = some z) : Ev ft (.sl a lo hi) ρ σ (.d z) := by
  unfold EvO at *; unfold Ev at *; simp only [evE, ha, hl, hh, M.ba, M.pa, M.pb, look_d, hz, opt_some]
theorem v_callS {f : Nat} {ws : List W} {w : W} (hs : Evs ft es ρ σ ws) (h : ft.fn f ws σ = .ok w σ) : Ev ft (.call f es) ρ σ w := by
  unfold Evs at hs; unfold Ev; simp only [evE, M.ba, hs, h]
theorem v_call {f : Nat} {ws : List W} {w : W} (hs : Evs ft es ρ σ ws) (h : ft.fn f ws = pure w) : Ev ft (.call f es) ρ σ w := v_callS hs (by rw [h]; rfl)
@[irreducible] def Bt (σ : S) (b : Bi) (ws : List W) (w : W) : Prop := biW b ws σ = .ok w σ
theorem v_bi {f : Bi} {ws : List W} {w : W} (hs : Evs ft es ρ σ ws) (h : Bt σ f ws w) : Ev ft (.bi f es) ρ σ w := by
  unfold Evs at hs; unfold Bt at h; unfold Ev; simp only [evE, hs, M.ba, M.pa, M.pb, h]
theorem v_isi {ty : Ty} {x : D} (h : Ev ft a ρ σ (.d x)) : Ev ft (.isi a ty) ρ σ (.d (.bool (isTy ty x))) := by
  unfold Ev at *; simp only [evE, h, M.ba, M.pa, M.pb, look_d]
theorem v_getd {kvs : List (D × D)} {y z : D} (ho : Ev ft a ρ σ (.dct kvs)) (hk : Ev ft b ρ σ (.d y)) (hx : Ev ft c ρ σ (.d z)) (h : keyOk y = true := by rfl) : Ev ft (.getd a b c) ρ σ (.d ((valAt kvs y).getD z)) := by
  unfold Ev at *; simp only [evE, ho, hk, hx, M.ba, M.pa, M.pb, look_d, toD_d, h, if_true]
theorem v_dsp1 {y z : D} (hk : Ev ft a ρ σ (.d y)) (hx : Ev ft b ρ σ (.d z)) (h : keyOk y = true := by rfl) : Ev ft (.dsp1 a b) ρ σ (.dct [(y, z)]) := by
  unfold Ev at *; simp only [evE, hk, hx, M.ba, M.pa, M.pb, look_d, toD_d, h, if_true]
theorem t_nil : EvT ft .nil ρ σ true := by unfold EvT; simp only [evIfs, M.pa]
theorem t_one (h : Ev ft a ρ σ (.d (.bool p))) : EvT ft (.cons a .nil) ρ σ p := by
  unfold Ev at h; unfold EvT; simp only [evIfs, h, M.ba, M.pa, M.pb, isB_b]
/-! ### what is walked -/
variable {α β : Type} {enc : α → D} {xs : List α}
theorem ei_of {x : D} {ys : List D} (h : Ev ft a ρ σ (.d x)) (hx : x = .tuple (xs.map enc) ∨ x = .list (xs.map enc)) (hl : Sm xs) : EvI ft (.of a) ρ σ enc xs := by
  have hl' : (xs.map enc).length ≤ big := Sm.map enc hl
  unfold Ev at h; unfold EvI
  rcases hx with rfl | rfl
  · simp only [evI, h, M.ba, M.pa, M.pb, toD_d, seqD_t, small_ok hl']
  · simp only [evI, h, M.ba, M.pa, M.pb, toD_d, seqD_l, small_ok hl']
theorem i_tup (h : Ev ft a ρ σ (.d (.tuple (xs.map enc)))) (hl : Sm xs) : EvI ft (.of a) ρ σ enc xs := ei_of (ys := []) h (.inl rfl) hl
theorem i_lst (h : Ev ft a ρ σ (.d (.list (xs.map enc)))) (hl : Sm xs) : EvI ft (.of a) ρ σ enc xs := ei_of (ys := []) h (.inr rfl) hl
theorem zipD_map (f : α → D) (g : β → D) (xs : List α) (ys : List β) : zipD (xs.map f) (ys.map g) = (xs.zip ys).map fun p => .tuple [f p.1, g p.2] := by
  simp [zipD, List.zip_map, List.map_map, Function.comp_def]
theorem Sm.zip {xs : List α} {ys : List β} (h : Sm xs) : Sm (xs.zip ys) := by
  unfold Sm; rw [List.length_zip]; exact Nat.le_trans (Nat.min_le_left _ _) h
theorem i_zip_t {f : α → D} {g : β → D} {ys : List β} (ha : Ev ft a ρ σ (.d (.tuple (xs.map f)))) (hb : Ev ft b ρ σ (.d (.tuple (ys.map g)))) (hl : Sm xs) : EvI ft (.zip a b) ρ σ (fun p : α × β => .tuple [f p.1, g p.2]) (xs.zip ys) := by
  unfold Ev at *; unfold EvI
  simp only [evI, ha, hb, M.ba, M.pa, M.pb, toD_d, zipsD, zipD_map]
  rw [small_ok (Sm.map _ (Sm.zip hl))]; rfl
theorem i_zip_l {f : α → D} {g : β → D} {ys : List β} (ha : Ev ft a ρ σ (.d (.list (xs.map f)))) (hb : Ev ft b ρ σ (.d (.list (ys.map g)))) (hl : Sm xs) : EvI ft (.zip a b) ρ σ (fun p : α × β => .tuple [f p.1, g p.2]) (xs.zip ys) := by
  unfold Ev at *; unfold EvI
  simp only [evI, ha, hb, M.ba, M.pa, M.pb, toD_d, zipsD, zipD_map]
  rw [small_ok (Sm.map _ (Sm.zip hl))]; rfl
theorem ei_range1 {n : Int} (h : Ev ft a ρ σ (.d (.int n))) (h1 : -(big : Int) ≤ n ∧ n ≤ big) : EvI ft (.range1 a) ρ σ (fun i : Nat => .int i) (List.range n.toNat) := by
  unfold Ev at h; unfold EvI
  simp only [evI, h, M.ba, M.pa, M.pb, isI_i, if_pos h1, upTo, Int.zero_add]
theorem ei_range2 {m n : Int} (h : Ev ft a ρ σ (.d (.int m))) (h' : Ev ft b ρ σ (.d (.int n))) (h1 : -(big : Int) ≤ m ∧ m ≤ big ∧ -(big : Int) ≤ n ∧ n ≤ big) : EvI ft (.range2 a b) ρ σ (fun i : Nat => .int (m + i)) (List.range (n - m).toNat) := by
  unfold Ev at *; unfold EvI
  simp only [evI, h, h', M.ba, M.pa, M.pb, isI_i, if_pos h1, upTo]
theorem enumD_map (f : α → D) (xs : List α) : enumD (xs.map f) = ((List.range xs.length).zip xs).map fun p => .tuple [.int (p.1 : Nat), f p.2] := by
  unfold enumD
  rw [List.length_map, List.zip_map_right, List.map_map]; rfl
theorem ei_enum (ha : Ev ft a ρ σ (.d (.list (xs.map enc)))) (hl : Sm xs) : EvI ft (.enum a) ρ σ (fun p : Nat × α => .tuple [.int (p.1 : Nat), enc p.2]) ((List.range xs.length).zip xs) := by
  unfold Ev at *; unfold EvI
  simp only [evI, ha, M.ba, M.pa, M.pb, toD_d, enumD_map]
  rw [small_ok (Sm.map _ (by unfold Sm; rw [List.length_zip, List.length_range, Nat.min_self]; exact hl))]; rfl
/-! ### comprehensions -/
theorem lcI_map {step : D → M (Option D)} {g : α → Option D} : ∀ {xs : List α}, (∀ x ∈ xs, step (enc x) σ = .ok (g x) σ) → lcI step (xs.map enc) σ = .ok (xs.filterMap g) σ
  | [], _ => rfl
  | x :: xs, h => by
    rw [List.map_cons]
    unfold lcI
    rw [M.ba, h x List.mem_cons_self]
    dsimp only
    rw [M.ba, lcI_map fun y hy => h y (List.mem_cons_of_mem _ hy), List.filterMap_cons]
    cases g x <;> rfl
theorem fm_some {f : α → β} : ∀ l : List α, l.filterMap (fun x => some (f x)) = l.map f
  | [] => rfl
  | x :: l => by rw [List.filterMap_cons, fm_some l, List.map_cons]
theorem fm_if {f : α → β} {p : α → Bool} : ∀ l : List α, l.filterMap (fun x => if p x then some (f x) else none) = (l.filter p).map f
  | [] => rfl
  | x :: l => by
    rw [List.filterMap_cons, List.filter_cons, fm_if l]
    cases p x <;> rfl
theorem enox_ok {γ : Type} {m : M γ} {a : γ} (h : m σ = .ok a σ) : nox m σ = .ok a σ := by unfold nox; rw [h]
variable {g : G} {it : I} {ifs : Es} {elt : E} {own : List Nat}
/-- one turn -/
theorem lc_step {ρ0 ρ1 : Rho} {x z : D} (h1 : bindG g x ρ0 = some ρ1) (h2 : Ev ft elt ρ1 σ (.d z)) : (do
      let ρ1 ← opt (bindG g x ρ0)
      let c ← evIfs ft .nil ρ1
      if c then do let w ← evE ft elt ρ1; let y ← toD w; pure (some y) else pure none) σ = .ok (some z) σ := by
  unfold Ev at h2
  rw [h1]
  simp only [opt_some, M.pb, evIfs, if_true, M.ba, h2, toD_d, M.pa]
theorem lc_stepf {ρ0 ρ1 : Rho} {x z : D} (h1 : bindG g x ρ0 = some ρ1) (h2 : Ev ft t ρ1 σ (.d (.bool p))) (h3 : p = true → Ev ft elt ρ1 σ (.d z)) : (do
      let ρ1 ← opt (bindG g x ρ0)
      let c ← evIfs ft (.cons t .nil) ρ1
      if c then do let w ← evE ft elt ρ1; let y ← toD w; pure (some y) else pure none) σ = .ok (if p then some z else none) σ := by
  unfold Ev at *
  rw [h1]
  simp only [opt_some, M.pb, evIfs, M.ba, h2, isB_b, M.pa]
  cases p with
  | true => rw [if_pos rfl, M.ba, h3 rfl]; rfl
  | false => rfl
/-- [elt for g in it] -/
theorem v_lc {f : α → D} (hi : EvI ft it ρ σ enc xs) (hs : ∀ x ∈ xs, ∃ ρ1 z, bindG g (enc x) (wipeR ρ own) = some ρ1 ∧ Ev ft elt ρ1 σ (.d z) ∧ z = f x) (hl : Sm xs) : Ev ft (.lc g it .nil elt own) ρ σ (.d (.list (xs.map f))) := by
  unfold EvI at hi; unfold Ev
  simp only [evE]
  rw [M.ba, hi]
  dsimp only
  rw [M.ba, enox_ok (lcI_map (g := fun x => some (f x)) fun x hx => ?_), fm_some]
  · dsimp only
    rw [M.ba, small_ok (Sm.map _ hl)]; rfl
  · obtain ⟨ρ1, z, h1, h2, rfl⟩ := hs x hx
    exact lc_step h1 h2
/-- [elt for g in it if t] -/
theorem v_lcf {f : α → D} {p : α → Bool} (hi : EvI ft it ρ σ enc xs) (hs : ∀ x ∈ xs, ∃ ρ1 q z, bindG g (enc x) (wipeR ρ own) = some ρ1 ∧ Ev ft t ρ1 σ (.d (.bool q)) ∧ q = p x ∧ (q = true → Ev ft elt ρ1 σ (.d z)) ∧ z = f x) (hl : Sm xs) :
    Ev ft (.lc g it (.cons t .nil) elt own) ρ σ (.d (.list ((xs.filter p).map f))) := by
  unfold EvI at hi; unfold Ev
  simp only [evE]
  rw [M.ba, hi]
  dsimp only
  rw [M.ba, enox_ok (lcI_map (g := fun x => if p x then some (f x) else none) fun x hx => ?_), fm_if]
  · dsimp only
    rw [M.ba, small_ok (Sm.map _ (Sm.filter _ hl))]; rfl
  · obtain ⟨ρ1, _, z, h1, h2, rfl, h3, rfl⟩ := hs x hx
    exact lc_stepf h1 h2 h3
theorem lcII_map {step : D → M (List D)} {g : α → List D} : ∀ {xs : List α}, (∀ x ∈ xs, step (enc x) σ = .ok (g x) σ) → lcII step (xs.map enc) σ = .ok (xs.flatMap g) σ
  | [], _ => rfl
  | x :: xs, h => by
    rw [List.map_cons]
    unfold lcII
    rw [M.ba, h x List.mem_cons_self]
    dsimp only
    rw [M.ba, lcII_map fun y hy => h y (List.mem_cons_of_mem _ hy), List.flatMap_cons]
    rfl
variable {γ : Type} {enc1 : γ → D} {g1 : G} {it1 : I} {own1 : List Nat}
/-- [elt for g in it for g1 in it1] -/
theorem v_lc2 {ys : α → List γ} {f : α → γ → D} (hi : EvI ft it ρ σ enc xs) (hs : ∀ x ∈ xs, ∃ ρ1, bindG g (enc x) (wipeR ρ own) = some ρ1 ∧ EvI ft it1 ρ1 σ enc1 (ys x) ∧ ∀ y ∈ ys x, ∃ ρ2 z, bindG g1 (enc1 y) (wipeR ρ1 own1) = some ρ2 ∧ Ev ft elt ρ2 σ (.d z) ∧ z = f x y)
    (hl : Sm (xs.flatMap fun x => (ys x).map (f x))) : Ev ft (.lc2 g it .nil g1 it1 .nil elt own own1) ρ σ (.d (.list (xs.flatMap fun x => (ys x).map (f x)))) := by
  unfold EvI at hi; unfold Ev
  simp only [evE]
  rw [M.ba, hi]
  dsimp only
  rw [M.ba, enox_ok (lcII_map (g := fun x => (ys x).map (f x)) fun x hx => ?_)]
  · dsimp only
    rw [M.ba, small_ok hl]; rfl
  · obtain ⟨ρ1, h1, h2, h3⟩ := hs x hx
    unfold EvI at h2
    rw [h1]
    simp only [opt_some, M.pb, evIfs, if_true]
    rw [M.ba, h2]
    dsimp only
    rw [lcI_map (g := fun y => some (f x y)) fun y hy => ?_, fm_some]
    obtain ⟨ρ2, z, h4, h5, rfl⟩ := h3 y hy
    have := lc_step h4 h5
    simp only [evIfs] at this
    exact this
/-- [elt for g in it for g1 in it1 if t1] -/
theorem v_lc2f {ys : α → List γ} {f : α → γ → D} {p : α → γ → Bool} (hi : EvI ft it ρ σ enc xs) (hs : ∀ x ∈ xs, ∃ ρ1, bindG g (enc x) (wipeR ρ own) = some ρ1 ∧ EvI ft it1 ρ1 σ enc1 (ys x) ∧ ∀ y ∈ ys x, ∃ ρ2 q z, bindG g1 (enc1 y) (wipeR ρ1 own1) = some ρ2 ∧ Ev ft t ρ2 σ (.d (.bool q)) ∧ q = p x y ∧ (q = true → Ev ft elt ρ2 σ (.d z)) ∧ z = f x y)
    (hl : Sm (xs.flatMap fun x => ((ys x).filter (p x)).map (f x))) : Ev ft (.lc2 g it .nil g1 it1 (.cons t .nil) elt own own1) ρ σ (.d (.list (xs.flatMap fun x => ((ys x).filter (p x)).map (f x)))) := by
  unfold EvI at hi; unfold Ev
  simp only [evE]
  rw [M.ba, hi]
  dsimp only
  rw [M.ba, enox_ok (lcII_map (g := fun x => ((ys x).filter (p x)).map (f x)) fun x hx => ?_)]
  · dsimp only
    rw [M.ba, small_ok hl]; rfl
  · obtain ⟨ρ1, h1, h2, h3⟩ := hs x hx
    unfold EvI at h2
    rw [h1]
    simp only [opt_some, M.pb, evIfs, if_true]
    rw [M.ba, h2]
    dsimp only
    rw [lcI_map (g := fun y => if p x y then some (f x y) else none) fun y hy => ?_, fm_if]
    obtain ⟨ρ2, _, z, h4, h5, rfl, h6, rfl⟩ := h3 y hy
    have := lc_stepf h4 h5 h6
    simp only [evIfs] at this
    exact this
end
/-! ### statements -/
def Sts.app : Sts → Sts → Sts
  | .nil, ss => ss
  | .cons s r, ss => .cons s (Sts.app r ss)
def contC (c : Ct) (k : Rho → M Ct) : M Ct := match c with
  | .nx ρ => k ρ
  | .rt w => pure (.rt w)
theorem evSs_cons (ft : Ft) (s : St) (ss : Sts) (ρ : Rho) : evSs ft (.cons s ss) ρ = (evS ft s ρ >>= fun c => contC c fun ρ' => evSs ft ss ρ') := by
  simp only [evSs]
  rfl
theorem evSs_app (ft : Ft) (ss : Sts) : ∀ (r : Sts) (ρ : Rho), evSs ft (Sts.app r ss) ρ = (evSs ft r ρ >>= fun c => contC c fun ρ' => evSs ft ss ρ')
  | .nil, ρ => by simp only [Sts.app, evSs, M.ba, M.pa, M.pb, contC]
  | .cons s r, ρ => by
    rw [Sts.app, evSs_cons, evSs_cons, M.bb]
    congr 1; funext c
    cases c with
    | nx ρ' => exact evSs_app ft ss r ρ'
    | rt w => rfl
section
variable {ft : Ft} {ρ : Rho} {σ σ' : S} {a t : E} {s1 s2 ss : Sts} {c c' : Ct} {p : Bool}
theorem EvC.eq (h : EvC ft ss ρ σ c σ') (e : c = c') : EvC ft ss ρ σ c' σ' := e ▸ h
theorem cc {s : St} {ρ1 : Rho} {σ1 : S} (h : evS ft s ρ σ = .ok (.nx ρ1) σ1) (hs : EvC ft ss ρ1 σ1 c σ') : EvC ft (.cons s ss) ρ σ c σ' := by
  unfold EvC at *
  rw [evSs_cons, M.ba, h]
  exact hs
theorem c_nil : EvC ft .nil ρ σ (.nx ρ) σ := by unfold EvC; simp only [evSs, M.pa]
theorem c_ret {w : W} (h : Ev ft a ρ σ w) : EvC ft (.cons (.ret a) ss) ρ σ (.rt w) σ := by
  unfold Ev at h; unfold EvC; rw [evSs_cons]; simp only [evS, M.ba, h, M.pa, contC]
theorem c_retN : EvC ft (.cons .retN ss) ρ σ (.rt (.d .none)) σ := by
  unfold EvC; rw [evSs_cons]; simp only [evS, M.pb, M.pa, contC]
theorem c_set {w : W} {i : Nat} (h : Ev ft a ρ σ w) (hs : EvC ft ss (ρ.set i (some w)) σ c σ') : EvC ft (.cons (.set (.nm i) a) ss) ρ σ c σ' := by
  refine cc ?_ hs
  unfold Ev at h; simp only [evS, M.ba, h, M.pb, M.pa, bindW]
theorem c_setT {gs : Gs} {x : D} {ρ' : Rho} (h : Ev ft a ρ σ (.d x)) (hb : bindG (.tup gs) x ρ = some ρ') (hs : EvC ft ss ρ' σ c σ') : EvC ft (.cons (.set (.tup gs) a) ss) ρ σ c σ' := by
  refine cc ?_ hs
  unfold Ev at h; simp only [evS, M.ba, h, M.pb, M.pa, bindW, toD_d, hb, opt_some]
theorem c_par {is : List Nat} {es : Es} {ws : List W} {ρ' : Rho} (h : Evs ft es ρ σ ws) (hb : setAll is ws ρ = some ρ') (hs : EvC ft ss ρ' σ c σ') : EvC ft (.cons (.par is es) ss) ρ σ c σ' := by
  refine cc ?_ hs
  unfold Evs at h; simp only [evS, M.ba, h, M.pb, M.pa, hb, opt_some]
theorem c_ex {w : W} (h : Ev ft a ρ σ w) (hs : EvC ft ss ρ σ c σ') : EvC ft (.cons (.ex a) ss) ρ σ c σ' := by
  refine cc ?_ hs
  unfold Ev at h; simp only [evS, M.ba, h, M.pa]
theorem c_ite (ht : Ev ft t ρ σ (.d (.bool p))) (h1 : p = true → EvC ft (s1.app ss) ρ σ c σ') (h2 : p = false → EvC ft (s2.app ss) ρ σ c' σ') : EvC ft (.cons (.ite t s1 s2) ss) ρ σ (if p then c else c') σ' := by
  unfold Ev at ht; unfold EvC at *
  cases p with
  | true =>
    have h1 := h1 rfl
    rw [evSs_app] at h1
    rw [evSs_cons, M.ba]
    simp only [evS]
    rw [M.ba, ht]
    exact h1
  | false =>
    have h2 := h2 rfl
    rw [evSs_app] at h2
    rw [evSs_cons, M.ba]
    simp only [evS]
    rw [M.ba, ht]
    exact h2
theorem c_ite_t (ht : Ev ft t ρ σ (.d (.bool true))) (h1 : EvC ft (s1.app ss) ρ σ c σ') : EvC ft (.cons (.ite t s1 s2) ss) ρ σ c σ' :=
  (c_ite ht (fun _ => h1) (c' := c) (fun h => nomatch h)).eq rfl
theorem c_ite_f (ht : Ev ft t ρ σ (.d (.bool false))) (h1 : EvC ft (s2.app ss) ρ σ c σ') : EvC ft (.cons (.ite t s1 s2) ss) ρ σ c σ' :=
  (c_ite ht (c := c) (fun h => nomatch h) (fun _ => h1)).eq rfl
/-! loops: P tells what holds of the names (and of the state) behind each beginning -/
variable {α : Type} {enc : α → D} {xs : List α} {g : G} {it : I} {b : Sts}
theorem c_forM (P : List α → Rho → S → Prop) (hi : EvI ft it ρ σ enc xs) (h0 : P [] ρ σ) (hs : ∀ pre x post, xs = pre ++ x :: post → ∀ ρ σ, P pre ρ σ → ∃ ρ1 c σ2, bindG g (enc x) ρ = some ρ1 ∧ EvC ft b ρ1 σ c σ2 ∧ ∃ ρ2, c = .nx ρ2 ∧ P (pre ++ [x]) ρ2 σ2)
    (hr : ∀ ρ' σ1, P xs ρ' σ1 → EvC ft ss ρ' σ1 c σ') : EvC ft (.cons (.for g it b) ss) ρ σ c σ' := by
  unfold EvI at hi
  have run : ∀ post pre ρ σ, xs = pre ++ post → P pre ρ σ → ∃ ρ2 σ2, forI g (fun ρ => evSs ft b ρ) (post.map enc) ρ σ = .ok (.nx ρ2) σ2 ∧ P xs ρ2 σ2 := fun post => by
    induction post with
    | nil =>
      intro pre ρ σ e h
      rw [List.append_nil] at e
      subst e
      exact ⟨ρ, σ, rfl, h⟩
    | cons x post ih =>
      intro pre ρ σ e h
      obtain ⟨ρ1, _, σ2, h1, h2, ρ2, rfl, h3⟩ := hs pre x post e ρ σ h
      obtain ⟨ρ3, σ3, h4, h5⟩ := ih (pre ++ [x]) ρ2 σ2 (by rw [e]; simp) h3
      refine ⟨ρ3, σ3, ?_, h5⟩
      unfold EvC at h2
      rw [List.map_cons]
      unfold forI
      rw [h1, opt_some, M.pb, M.ba, h2]
      exact h4
  obtain ⟨ρ2, σ2, h1, h2⟩ := run xs [] ρ σ rfl h0
  refine cc ?_ (hr ρ2 σ2 h2)
  simp only [evS]
  rw [M.ba, hi]
  exact h1
theorem c_forP (P : List α → Rho → Prop) (hi : EvI ft it ρ σ enc xs) (h0 : P [] ρ) (hs : ∀ pre x post, xs = pre ++ x :: post → ∀ ρ, P pre ρ → ∃ ρ1 c, bindG g (enc x) ρ = some ρ1 ∧ EvC ft b ρ1 σ c σ ∧ ∃ ρ2, c = .nx ρ2 ∧ P (pre ++ [x]) ρ2)
    (hr : ∀ ρ', P xs ρ' → EvC ft ss ρ' σ c σ') : EvC ft (.cons (.for g it b) ss) ρ σ c σ' := by
  refine c_forM (fun pre ρ τ => τ = σ ∧ P pre ρ) hi ⟨rfl, h0⟩ (fun pre x post e ρ τ h => ?_) fun ρ' τ h => ?_
  · obtain ⟨rfl, h⟩ := h
    obtain ⟨ρ1, c, h1, h2, ρ2, h3, h4⟩ := hs pre x post e ρ h
    exact ⟨ρ1, c, _, h1, h2, ρ2, h3, rfl, h4⟩
  · obtain ⟨rfl, h⟩ := h
    exact hr ρ' h
end
/-! ### defs -/
theorem leave_d {f : Fn} {k : Nat} {x : D} (h : f.mutRet = false) : leave f k (.d x) = fun s => .ok (.d x) (s.take k) := by
  unfold leave
  rw [if_neg (by rw [h]; exact Bool.false_ne_true)]
/-- what a run of statements gives as a def's value -/
def ctW : Ct → W
  | .nx _ => .d .none
  | .rt w => w
/-- a value that is no list that may change -/
def W.fixed : W → Bool
  | .mut _ => false
  | _ => true
theorem leave_fixed {f : Fn} {k : Nat} {w : W} (h : f.mutRet = false) (hw : w.fixed = true) : leave f k w = fun s => .ok w (s.take k) := by
  unfold leave
  rw [if_neg (by rw [h]; exact Bool.false_ne_true)]
  cases w with
  | «mut» n => cases hw
  | _ => rfl
/-- a def's run, whatever becomes of the lists that it makes -/
theorem run_st {ft : Ft} {f : Fn} {ws : List W} {c : Ct} {w : W} {σ σ' : S} (h1 : ws.length = f.ps) (h2 : f.ps ≤ f.n) (h3 : f.mutRet = false) (h : EvC ft f.body (start0 f ws) σ c σ') (hc : ctW c = w) (hw : w.fixed = true) : runFn ft f ws σ = .ok w (σ'.take σ.length) := by
  unfold EvC at h
  subst hc
  unfold runFn
  rw [if_pos ⟨h1, h2⟩, M.ba, h]
  cases c with
  | nx ρ => exact congrFun (leave_d (k := σ.length) (x := .none) h3) σ'
  | rt w => exact congrFun (leave_fixed (k := σ.length) h3 hw) σ'
theorem run_pure {ft : Ft} {f : Fn} {ws : List W} {c : Ct} {w : W} (h1 : ws.length = f.ps) (h2 : f.ps ≤ f.n) (h3 : f.mutRet = false) (h : ∀ σ, EvC ft f.body (start0 f ws) σ c σ) (hc : ctW c = w) (hw : w.fixed = true) : runFn ft f ws = pure w := by
  funext σ
  rw [run_st h1 h2 h3 (h σ) hc hw, List.take_length]; rfl
theorem fnT_at {fs : List (Option Fn)} {at_ : Nat → M W → M W} {n j : Nat} {f : Fn} {ws : List W} (h : fs[j]? = some (some f)) : fnT fs at_ (n + 1) j ws = runFn ⟨fnT fs at_ n, at_⟩ f ws := by
  simp only [fnT, h]
end Pd
end

set_option maxHeartbeats 200000
section
/-! Pe2: leaves: comparisons, indexes, built-ins on encoded data; sorting in plain words. Own work. -/
namespace Pd
open PySem
variable {σ : S}
/-! ### encodings that keep equality -/
structure Enc {α : Type} [DecidableEq α] (f : α → D) (k : Nat) : Prop where
  plain : ∀ a, (f a).plain = true
  dep : ∀ a, (f a).depth ≤ k
  eqv : ∀ a b, PyData.eqv (f a) (f b) = decide (a = b)
theorem Enc.mono {α : Type} [DecidableEq α] {f : α → D} {k m : Nat} (h : Enc f k) (hk : k ≤ m) : Enc f m := ⟨h.plain, fun a => Nat.le_trans (h.dep a) hk, h.eqv⟩
theorem Enc.inj {α : Type} [DecidableEq α] {f : α → D} {k : Nat} (h : Enc f k) {a b : α} (e : f a = f b) : a = b := by
  have h1 := h.eqv a b
  have h2 := h.eqv b b
  rw [e, h2] at h1
  simpa using h1.symm
theorem encI : Enc PyData.int 0 := ⟨fun _ => rfl, fun _ => Nat.le_refl 0, fun a b => by rw [PyData.eqv, Bool.eq_iff_iff]; simp⟩
theorem encStr : Enc PyData.str 0 := ⟨fun _ => rfl, fun _ => Nat.le_refl 0, fun a b => by rw [PyData.eqv, Bool.eq_iff_iff]; simp⟩
theorem encBool : Enc PyData.bool 0 := ⟨fun _ => rfl, fun _ => Nat.le_refl 0, fun a b => by rw [PyData.eqv, Bool.eq_iff_iff]; simp⟩
section
variable {α β : Type} [DecidableEq α] [DecidableEq β] {f : α → D} {g : β → D} {k m : Nat}
theorem plain_map (h : Enc f k) : ∀ l : List α, PyData.plainAll (l.map f) = true
  | [] => rfl
  | x :: l => by simp only [List.map_cons, PyData.plainAll, h.plain x, plain_map h l, Bool.and_self]
theorem dep_map (h : Enc f k) : ∀ l : List α, PyData.depthAll (l.map f) ≤ k
  | [] => Nat.zero_le _
  | x :: l => by simp only [List.map_cons, PyData.depthAll]; exact Nat.max_le.mpr ⟨h.dep x, dep_map h l⟩
theorem eqv_map (h : Enc f k) : ∀ l m : List α, PyData.eqvAll (l.map f) (m.map f) = decide (l = m)
  | [], [] => rfl
  | [], _ :: _ => rfl
  | _ :: _, [] => rfl
  | x :: l, y :: m => by
    simp only [List.map_cons, PyData.eqvAll, h.eqv, eqv_map h l m]
    rw [Bool.eq_iff_iff]; simp
theorem Enc.tup (h : Enc f k) : Enc (fun l : List α => .tuple (l.map f)) (k + 1) where
  plain := fun l => by simp only [PyData.plain]; exact plain_map h l
  dep := fun l => by simp only [PyData.depth]; exact Nat.succ_le_succ (dep_map h l)
  eqv := fun l m => by simp only [PyData.eqv]; exact eqv_map h l m
theorem Enc.lst (h : Enc f k) : Enc (fun l : List α => .list (l.map f)) (k + 1) where
  plain := fun l => by simp only [PyData.plain]; exact plain_map h l
  dep := fun l => by simp only [PyData.depth]; exact Nat.succ_le_succ (dep_map h l)
  eqv := fun l m => by simp only [PyData.eqv]; exact eqv_map h l m
theorem Enc.pair (h : Enc f k) (h' : Enc g m) : Enc (fun p : α × β => .tuple [f p.1, g p.2]) (max k m + 1) where
  plain := fun p => by simp only [PyData.plain, PyData.plainAll, h.plain, h'.plain, Bool.and_self]
  dep := fun p => by
    simp only [PyData.depth, PyData.depthAll]
    have h1 := h.dep p.1
    have h2 := h'.dep p.2
    omega
  eqv := fun p q => by
    simp only [PyData.eqv, PyData.eqvAll, h.eqv, h'.eqv]
    rw [Bool.eq_iff_iff]; simp [Prod.ext_iff]
/-- a test of its own, so that one instance is meant everywhere -/
def eqB {α : Type} [DecidableEq α] (a b : α) : Bool := decide (a = b)
theorem eqB_iff {α : Type} [DecidableEq α] {a b : α} : eqB a b = true ↔ a = b := by unfold eqB; exact decide_eq_true_iff
theorem eqB_not {α : Type} [DecidableEq α] {a b : α} : eqB a b = false ↔ a ≠ b := by unfold eqB; exact decide_eq_false_iff_not
theorem Enc.ok (h : Enc f k) (hk : k ≤ 50) (a b : α) : eqOk (f a) (f b) = true := by
  unfold eqOk
  rw [h.plain, h.plain, Bool.true_and, Bool.true_and]
  exact decide_eq_true (Nat.le_trans (Nat.min_le_left _ _) (Nat.le_trans (h.dep a) hk))
theorem cmp_eq (h : Enc f k) (a b : α) (hk : k ≤ 50 := by decide) : Cmp σ .eq (.d (f a)) (.d (f b)) (eqB a b) := by
  unfold Cmp; simp only [cmpW, look_d, M.pb, cmpD, h.ok hk, if_true, opt_some, M.pa, h.eqv, eqB]
theorem cmp_ne (h : Enc f k) (a b : α) (hk : k ≤ 50 := by decide) : Cmp σ .ne (.d (f a)) (.d (f b)) (!eqB a b) := by
  unfold Cmp; simp only [cmpW, look_d, M.pb, cmpD, h.ok hk, if_true, opt_some, M.pa, h.eqv, eqB]
/-- a test of its own, so that one instance is meant everywhere -/
def memB {α : Type} [DecidableEq α] (a : α) (l : List α) : Bool := decide (a ∈ l)
theorem memB_iff {α : Type} [DecidableEq α] {a : α} {l : List α} : memB a l = true ↔ a ∈ l := by unfold memB; exact decide_eq_true_iff
theorem any_map (h : Enc f k) (a : α) : ∀ l : List α, ((l.map f).any fun z => PyData.eqv z (f a)) = decide (a ∈ l)
  | [] => rfl
  | x :: l => by
    rw [List.map_cons, List.any_cons, any_map h a l, h.eqv, Bool.eq_iff_iff, Bool.or_eq_true, decide_eq_true_eq, decide_eq_true_eq, decide_eq_true_eq, List.mem_cons]
    exact or_congr eq_comm Iff.rfl
theorem in_ok (h : Enc f k) (hk : k ≤ 50) (a : α) (l : List α) : inOk (l.map f) (f a) = true := by
  unfold inOk
  rw [h.plain, plain_map h, Bool.true_and, Bool.true_and]
  exact decide_eq_true (Nat.le_trans (Nat.min_le_left _ _) (Nat.le_trans (dep_map h l) hk))
theorem cmp_in_t (h : Enc f k) (a : α) (l : List α) (hk : k ≤ 50 := by decide) : Cmp σ .in_ (.d (f a)) (.d (.tuple (l.map f))) (memB a l) := by
  unfold Cmp; simp only [cmpW, look_d, M.pb, cmpD, in_ok h hk, if_true, opt_some, M.pa, any_map h, memB]
theorem cmp_in_l (h : Enc f k) (a : α) (l : List α) (hk : k ≤ 50 := by decide) : Cmp σ .in_ (.d (f a)) (.d (.list (l.map f))) (memB a l) := by
  unfold Cmp; simp only [cmpW, look_d, M.pb, cmpD, in_ok h hk, if_true, opt_some, M.pa, any_map h, memB]
theorem cmp_nin_t (h : Enc f k) (a : α) (l : List α) (hk : k ≤ 50 := by decide) : Cmp σ .notIn (.d (f a)) (.d (.tuple (l.map f))) (!memB a l) := by
  unfold Cmp; simp only [cmpW, look_d, M.pb, cmpD, in_ok h hk, if_true, opt_some, M.pa, any_map h, memB]
theorem cmp_nin_l (h : Enc f k) (a : α) (l : List α) (hk : k ≤ 50 := by decide) : Cmp σ .notIn (.d (f a)) (.d (.list (l.map f))) (!memB a l) := by
  unfold Cmp; simp only [cmpW, look_d, M.pb, cmpD, in_ok h hk, if_true, opt_some, M.pa, any_map h, memB]
/-- beside the empty one -/
theorem cmp_ne_t0 (h : Enc f k) (l : List α) (hk : k + 1 ≤ 50 := by decide) : Cmp σ .ne (.d (.tuple (l.map f))) (.d (.tuple [])) (!eqB l []) := cmp_ne h.tup l [] hk
theorem cmp_ne_l0 (h : Enc f k) (l : List α) (hk : k + 1 ≤ 50 := by decide) : Cmp σ .ne (.d (.list (l.map f))) (.d (.list [])) (!eqB l []) := cmp_ne h.lst l [] hk
theorem cmp_eq_t0 (h : Enc f k) (l : List α) (hk : k + 1 ≤ 50 := by decide) : Cmp σ .eq (.d (.tuple (l.map f))) (.d (.tuple [])) (eqB l []) := cmp_eq h.tup l [] hk
theorem cmp_eq_l0 (h : Enc f k) (l : List α) (hk : k + 1 ≤ 50 := by decide) : Cmp σ .eq (.d (.list (l.map f))) (.d (.list [])) (eqB l []) := cmp_eq h.lst l [] hk
end
theorem cmp_lt_i (i j : Int) : Cmp σ .lt (.d (.int i)) (.d (.int j)) (decide (i < j)) := by unfold Cmp; rfl
theorem cmp_gt_i (i j : Int) : Cmp σ .gt (.d (.int i)) (.d (.int j)) (decide (j < i)) := by unfold Cmp; rfl
theorem cmp_le_i (i j : Int) : Cmp σ .le (.d (.int i)) (.d (.int j)) (decide (i ≤ j)) := by unfold Cmp; rfl
theorem cmp_ge_i (i j : Int) : Cmp σ .ge (.d (.int i)) (.d (.int j)) (decide (j ≤ i)) := by unfold Cmp; rfl
theorem cmp_is_b (a b : Bool) : Cmp σ .is (.d (.bool a)) (.d (.bool b)) (decide (a = b)) := by unfold Cmp; rfl
theorem cmp_isn_b (a b : Bool) : Cmp σ .isNot (.d (.bool a)) (.d (.bool b)) (!decide (a = b)) := by unfold Cmp; rfl
/-- what the kernel can tell -/
theorem cmp_k {o : Cop} {x y : D} {p : Bool} (h : cmpD o x y = some p) : Cmp σ o (.d x) (.d y) p := by
  unfold Cmp
  cases o <;> simp only [cmpW, look_d, M.pb, h, opt_some, M.pa]
/-! ### lists of ints, rows: order -/
theorem lt_rows (a b : List Int) : PySem.W.dataLt (.tuple (a.map .int)) (.tuple (b.map .int)) = decide (a < b) := by
  have h := congrFun (congrFun (PySem.W.dataLe_rows (fun x : List Int => x)) b) a
  have h2 : (!PySem.W.dataLt (.tuple (a.map .int)) (.tuple (b.map .int))) = decide (b ≤ a) := h
  have h3 := congrArg (!·) h2
  simp only [Bool.not_not] at h3
  rw [h3]
  by_cases q : a < b
  · have : ¬ b ≤ a := fun z => List.not_lt.mpr z q
    simp [q, this]
  · have : b ≤ a := List.not_lt.mp q
    simp [q, this]
theorem alike_rows2 (a b : List Int) : PySem.W.alike (.tuple (a.map .int)) (.tuple (b.map .int)) = true := PySem.W.alike_ints a b
theorem dep_row (a : List Int) : PyData.depth (.tuple (a.map .int)) ≤ 1 := encI.tup.dep a
theorem lt_ok_rows (a b : List Int) : ltOk (.tuple (a.map .int)) (.tuple (b.map .int)) = true := by
  unfold ltOk
  rw [alike_rows2, Bool.true_and, Bool.true_and]
  exact decide_eq_true (Nat.le_trans (Nat.min_le_left _ _) (Nat.le_trans (dep_row a) (by decide)))
theorem cmp_lt_r (a b : List Int) : Cmp σ .lt (.d (.tuple (a.map .int))) (.d (.tuple (b.map .int))) (decide (a < b)) := by
  unfold Cmp
  simp only [cmpW, look_d, M.pb, cmpD, lt_ok_rows, if_true, opt_some, M.pa, lt_rows]
/-! ### indexes -/
theorem ix_k {x : D} {i : Int} {z : D} (h : ixD x (.int i) = some z) : Ix σ (.d x) (.d (.int i)) z := by
  unfold Ix; simp only [ixW, look_d, M.pb, h, opt_some, M.pa]
theorem atD_map {α : Type} (f : α → D) (l : List α) (i : Nat) (x : α) (h : l[i]? = some x) : atD (l.map f) (i : Int) = some (f x) := by
  have hi : i < l.length := (List.getElem?_eq_some_iff.mp h).1
  unfold atD place
  rw [List.length_map, if_pos (Int.natCast_nonneg i), if_pos (by omega)]
  simp only [Option.bind_some, Int.toNat_natCast, List.getElem?_map, h, Option.map_some]
theorem atD_last {α : Type} (f : α → D) (l : List α) (x : α) (h : l.getLast? = some x) : atD (l.map f) (-1) = some (f x) := by
  have hn : l ≠ [] := by rintro rfl; simp at h
  have hl : 0 < l.length := List.length_pos_iff.mpr hn
  unfold atD place
  rw [List.length_map, if_neg (by decide), if_pos (by omega)]
  have e : (-1 + (l.length : Int)).toNat = l.length - 1 := by omega
  simp only [Option.bind_some, e, List.getElem?_map]
  rw [List.getLast?_eq_getElem?] at h
  rw [h, Option.map_some]
theorem ix_t {α : Type} {f : α → D} {l : List α} {i : Nat} {x : α} (h : l[i]? = some x) : Ix σ (.d (.tuple (l.map f))) (.d (.int i)) (f x) := ix_k (atD_map f l i x h)
theorem ix_l {α : Type} {f : α → D} {l : List α} {i : Nat} {x : α} (h : l[i]? = some x) : Ix σ (.d (.list (l.map f))) (.d (.int i)) (f x) := ix_k (atD_map f l i x h)
theorem ix_t_last {α : Type} {f : α → D} {l : List α} {x : α} (h : l.getLast? = some x) : Ix σ (.d (.tuple (l.map f))) (.d (.int (-1))) (f x) := ix_k (atD_last f l x h)
theorem ix_l_last {α : Type} {f : α → D} {l : List α} {x : α} (h : l.getLast? = some x) : Ix σ (.d (.list (l.map f))) (.d (.int (-1))) (f x) := ix_k (atD_last f l x h)
/-! ### built-ins -/
theorem bt_len_t {α : Type} (f : α → D) (l : List α) : Bt σ .len [.d (.tuple (l.map f))] (.d (.int l.length)) := by unfold Bt; rw [← List.length_map (f := f)]; rfl
theorem bt_len_l {α : Type} (f : α → D) (l : List α) : Bt σ .len [.d (.list (l.map f))] (.d (.int l.length)) := by unfold Bt; rw [← List.length_map (f := f)]; rfl
theorem bt_k {b : Bi} {xs : List D} {w : W} (h : biW b (ds xs) σ = .ok w σ) : Bt σ b (ds xs) w := by unfold Bt; exact h
theorem bt_len_t' (xs : List D) : Bt σ .len [.d (.tuple xs)] (.d (.int xs.length)) := by unfold Bt; rfl
theorem bt_len_l' (xs : List D) : Bt σ .len [.d (.list xs)] (.d (.int xs.length)) := by unfold Bt; rfl
theorem bt_len_set {α : Type} (f : α → D) (l : List α) : Bt σ .len [.set (l.map f)] (.d (.int l.length)) := by unfold Bt; rw [← List.length_map (f := f)]; rfl
theorem bOf_map {α : Type} (f : α → Bool) : ∀ l : List α, bOf (l.map fun x => .bool (f x)) = some (l.map f)
  | [] => rfl
  | x :: l => by simp only [List.map_cons, bOf, bOf_map f l, Option.map_some]
theorem bt_all {α : Type} (f : α → Bool) (l : List α) : Bt σ .all [.d (.list (l.map fun x => .bool (f x)))] (.d (.bool (l.all f))) := by
  unfold Bt
  show opt (biD .all [.list (l.map fun x => .bool (f x))]) σ = _
  simp only [biD, bOf_map, Option.map_some, opt_some, M.pa, List.all_map, Function.id_comp]
theorem bt_any {α : Type} (f : α → Bool) (l : List α) : Bt σ .any [.d (.list (l.map fun x => .bool (f x)))] (.d (.bool (l.any f))) := by
  unfold Bt
  show opt (biD .any [.list (l.map fun x => .bool (f x))]) σ = _
  simp only [biD, bOf_map, Option.map_some, opt_some, M.pa, List.any_map, Function.id_comp]
theorem iOf_map {α : Type} (f : α → Int) : ∀ l : List α, iOf (l.map fun x => .int (f x)) = some (l.map f)
  | [] => rfl
  | x :: l => by simp only [List.map_cons, iOf, iOf_map f l, Option.map_some]
theorem bt_sum {α : Type} (f : α → Int) (l : List α) : Bt σ .sum [.d (.list (l.map fun x => .int (f x)))] (.d (.int (l.map f).sum)) := by
  unfold Bt
  show opt (biD .sum [.list (l.map fun x => .int (f x))]) σ = _
  simp only [biD, iOf_map, Option.map_some, opt_some, M.pa]
theorem bt_tuple_l (xs : List D) : Bt σ .tuple [.d (.list xs)] (.d (.tuple xs)) := by unfold Bt; rfl
theorem bt_tuple_t (xs : List D) : Bt σ .tuple [.d (.tuple xs)] (.d (.tuple xs)) := by unfold Bt; rfl
theorem bt_list_t (xs : List D) : Bt σ .list [.d (.tuple xs)] (.d (.list xs)) := by unfold Bt; rfl
theorem bt_list_l (xs : List D) : Bt σ .list [.d (.list xs)] (.d (.list xs)) := by unfold Bt; rfl
theorem bt_int_i (i : Int) : Bt σ .int [.d (.int i)] (.d (.int i)) := by unfold Bt; rfl
theorem bt_abs (i : Int) : Bt σ .abs [.d (.int i)] (.d (.int (if i < 0 then -i else i))) := by unfold Bt; rfl
theorem bt_max (i j : Int) : Bt σ .max [.d (.int i), .d (.int j)] (.d (.int (if j > i then j else i))) := by unfold Bt; rfl
theorem bt_min (i j : Int) : Bt σ .min [.d (.int i), .d (.int j)] (.d (.int (if j < i then j else i))) := by unfold Bt; rfl
/-! ### operators -/
theorem bin_add_i (i j : Int) : binD .add (.int i) (.int j) = some (.int (i + j)) := rfl
theorem bin_sub_i (i j : Int) : binD .sub (.int i) (.int j) = some (.int (i - j)) := rfl
theorem bin_add_t {xs ys : List D} (h : xs.length + ys.length ≤ big) : binD .add (.tuple xs) (.tuple ys) = some (.tuple (xs ++ ys)) := if_pos h
theorem bin_add_l {xs ys : List D} (h : xs.length + ys.length ≤ big) : binD .add (.list xs) (.list ys) = some (.list (xs ++ ys)) := if_pos h
theorem bin_add_tm {α : Type} {f : α → D} {xs ys : List α} (h : xs.length + ys.length ≤ big) : binD .add (.tuple (xs.map f)) (.tuple (ys.map f)) = some (.tuple ((xs ++ ys).map f)) := by
  rw [List.map_append]; exact bin_add_t (by rw [List.length_map, List.length_map]; exact h)
theorem bin_add_lm {α : Type} {f : α → D} {xs ys : List α} (h : xs.length + ys.length ≤ big) : binD .add (.list (xs.map f)) (.list (ys.map f)) = some (.list ((xs ++ ys).map f)) := by
  rw [List.map_append]; exact bin_add_l (by rw [List.length_map, List.length_map]; exact h)
theorem bin_mul_i {i j : Int} (h : (-p64 < i ∧ i < p64) ∨ (-p64 < j ∧ j < p64)) : binD .mul (.int i) (.int j) = some (.int (i * j)) := if_pos h
/-! ### sorted(set(..)) in plain words -/
section
variable {α : Type} [DecidableEq α]
def once : List α → List α → List α
  | _, [] => []
  | seen, x :: r => if x ∈ seen then once seen r else x :: once (x :: seen) r
theorem onceD_map {f : α → D} {k : Nat} (h : Enc f k) : ∀ l seen : List α, onceD (seen.map f) (l.map f) = (once seen l).map f
  | [], _ => rfl
  | x :: l, seen => by
    have e : ((seen.map f).any fun y => PyData.eqv y (f x)) = decide (x ∈ seen) := any_map h x seen
    rw [List.map_cons]
    unfold onceD once
    rw [e]
    by_cases q : x ∈ seen
    · simp only [q, decide_true, if_true]; exact onceD_map h l seen
    · have ih := onceD_map h l (x :: seen)
      rw [List.map_cons] at ih
      simp only [q, decide_false, Bool.false_eq_true, if_false, List.map_cons, ih]
theorem mem_once {x : α} : ∀ {l seen : List α}, x ∈ once seen l ↔ x ∈ l ∧ x ∉ seen
  | [], seen => by simp [once]
  | y :: l, seen => by
    unfold once
    by_cases q : y ∈ seen
    · rw [if_pos q, mem_once, List.mem_cons]
      refine ⟨fun ⟨a, b⟩ => ⟨.inr a, b⟩, fun ⟨a, b⟩ => ⟨a.resolve_left fun e => b (e ▸ q), b⟩⟩
    · rw [if_neg q, List.mem_cons, mem_once, List.mem_cons, List.mem_cons]
      by_cases e : x = y
      · subst e; simp [q]
      · simp [e]
theorem nodup_once : ∀ {l seen : List α}, (once seen l).Nodup
  | [], _ => List.nodup_nil
  | y :: l, seen => by
    unfold once
    by_cases q : y ∈ seen
    · rw [if_pos q]; exact nodup_once
    · rw [if_neg q]
      exact List.nodup_cons.mpr ⟨fun h => (mem_once.mp h).2 List.mem_cons_self, nodup_once⟩
theorem once_length : ∀ {l seen : List α}, (once seen l).length ≤ l.length
  | [], _ => Nat.le_refl _
  | y :: l, seen => by
    unfold once
    split
    · exact Nat.le_succ_of_le once_length
    · exact Nat.succ_le_succ once_length
end
/-- an order told by a test -/
structure TotLt {α : Type} (lt : α → α → Bool) : Prop where
  irrefl : ∀ a, lt a a = false
  trans : ∀ a b c, lt a b = true → lt b c = true → lt a c = true
  tri : ∀ a b, lt a b = false → lt b a = false → a = b
section
variable {α : Type} {lt : α → α → Bool}
def insN (lt : α → α → Bool) (x : α) : List α → List α
  | [] => [x]
  | y :: r => if lt y x then y :: insN lt x r else x :: y :: r
def sortN (lt : α → α → Bool) : List α → List α
  | [] => []
  | x :: r => insN lt x (sortN lt r)
theorem insD_map {f : α → D} (h : ∀ a b, PySem.W.dataLt (f a) (f b) = lt a b) (x : α) : ∀ l : List α, insD (f x) (l.map f) = (insN lt x l).map f
  | [] => rfl
  | y :: l => by
    rw [List.map_cons]
    unfold insD insN
    rw [h, insD_map h x l]
    cases lt y x <;> rfl
theorem sortD_map {f : α → D} (h : ∀ a b, PySem.W.dataLt (f a) (f b) = lt a b) : ∀ l : List α, sortD (l.map f) = (sortN lt l).map f
  | [] => rfl
  | x :: l => by
    rw [List.map_cons]
    unfold sortD sortN
    rw [sortD_map h l, insD_map h]
theorem mem_insN {x y : α} : ∀ {l : List α}, y ∈ insN lt x l ↔ y = x ∨ y ∈ l
  | [] => by simp [insN]
  | z :: l => by
    unfold insN
    split
    · rw [List.mem_cons, mem_insN, List.mem_cons]
      constructor
      · rintro (h | h | h)
        · exact .inr (.inl h)
        · exact .inl h
        · exact .inr (.inr h)
      · rintro (h | h | h)
        · exact .inr (.inl h)
        · exact .inl h
        · exact .inr (.inr h)
    · rw [List.mem_cons]
theorem mem_sortN {y : α} : ∀ {l : List α}, y ∈ sortN lt l ↔ y ∈ l
  | [] => by simp [sortN]
  | x :: l => by unfold sortN; rw [mem_insN, mem_sortN, List.mem_cons]
theorem insN_length {x : α} : ∀ {l : List α}, (insN lt x l).length = l.length + 1
  | [] => rfl
  | z :: l => by
    unfold insN
    split
    · rw [List.length_cons, insN_length, List.length_cons]
    · rfl
theorem sortN_length : ∀ {l : List α}, (sortN lt l).length = l.length
  | [] => rfl
  | x :: l => by unfold sortN; rw [insN_length, sortN_length, List.length_cons]
theorem insN_asc (h : TotLt lt) {x : α} : ∀ {l : List α}, l.Pairwise (fun a b => lt a b = true) → x ∉ l → (insN lt x l).Pairwise (fun a b => lt a b = true)
  | [], _, _ => List.pairwise_singleton _ _
  | y :: l, hp, hx => by
    obtain ⟨h1, h2⟩ := List.pairwise_cons.mp hp
    unfold insN
    have ne : ¬ x = y := fun e => hx (by rw [e]; exact List.mem_cons_self)
    cases q : lt y x with
    | true =>
      rw [if_pos rfl]
      refine List.pairwise_cons.mpr ⟨fun z hz => ?_, insN_asc h h2 fun z => hx (List.mem_cons_of_mem _ z)⟩
      rcases mem_insN.mp hz with e | e
      · rw [e]; exact q
      · exact h1 z e
    | false =>
      rw [if_neg Bool.false_ne_true]
      have t : lt x y = true := by
        cases q2 : lt x y with
        | true => rfl
        | false => exact absurd (h.tri x y q2 q) ne
      refine List.pairwise_cons.mpr ⟨fun z hz => ?_, hp⟩
      rcases List.mem_cons.mp hz with e | e
      · rw [e]; exact t
      · exact h.trans _ _ _ t (h1 z e)
theorem sortN_asc (h : TotLt lt) : ∀ {l : List α}, l.Nodup → (sortN lt l).Pairwise (fun a b => lt a b = true)
  | [], _ => List.Pairwise.nil
  | x :: l, hn => by
    obtain ⟨h1, h2⟩ := List.nodup_cons.mp hn
    unfold sortN
    exact insN_asc h (sortN_asc h h2) fun z => h1 (mem_sortN.mp z)
/-- ascending lists with the same items are the same -/
theorem asc_ext (h : TotLt lt) : ∀ {l m : List α}, l.Pairwise (fun a b => lt a b = true) → m.Pairwise (fun a b => lt a b = true) → (∀ x, x ∈ l ↔ x ∈ m) → l = m
  | [], [], _, _, _ => rfl
  | [], y :: m, _, _, e => absurd ((e y).mpr List.mem_cons_self) (by simp)
  | x :: l, [], _, _, e => absurd ((e x).mp List.mem_cons_self) (by simp)
  | x :: l, y :: m, hl, hm, e => by
    obtain ⟨l1, l2⟩ := List.pairwise_cons.mp hl
    obtain ⟨m1, m2⟩ := List.pairwise_cons.mp hm
    have exy : x = y := by
      rcases List.mem_cons.mp ((e x).mp List.mem_cons_self) with q | q
      · exact q
      · rcases List.mem_cons.mp ((e y).mpr List.mem_cons_self) with r | r
        · exact r.symm
        · have a := h.trans _ _ _ (l1 y r) (m1 x q)
          rw [h.irrefl] at a; cases a
    subst exy
    rw [asc_ext h l2 m2 fun z => ?_]
    have q := e z
    rw [List.mem_cons, List.mem_cons] at q
    refine ⟨fun hz => ?_, fun hz => ?_⟩
    · rcases q.mp (.inr hz) with r | r
      · have a := l1 z hz; rw [r, h.irrefl] at a; cases a
      · exact r
    · rcases q.mpr (.inr hz) with r | r
      · have a := m1 z hz; rw [r, h.irrefl] at a; cases a
      · exact r
end
section
variable {α : Type} [DecidableEq α] {lt : α → α → Bool}
/-- ascending, each once -/
def ssort (lt : α → α → Bool) (l : List α) : List α := sortN lt (once [] l)
theorem mem_ssort {x : α} {l : List α} : x ∈ ssort lt l ↔ x ∈ l := by unfold ssort; rw [mem_sortN, mem_once]; simp
theorem ssort_asc (h : TotLt lt) (l : List α) : (ssort lt l).Pairwise (fun a b => lt a b = true) := sortN_asc h nodup_once
theorem ssort_length (l : List α) : (ssort lt l).length ≤ l.length := by unfold ssort; rw [sortN_length]; exact once_length
theorem ssort_ext (h : TotLt lt) {l m : List α} (e : ∀ x, x ∈ l ↔ x ∈ m) : ssort lt l = ssort lt m := asc_ext h (ssort_asc h l) (ssort_asc h m) fun x => by rw [mem_ssort, mem_ssort]; exact e x
theorem ssort_id (h : TotLt lt) {l : List α} (hl : l.Pairwise (fun a b => lt a b = true)) : ssort lt l = l := asc_ext h (ssort_asc h l) hl fun x => mem_ssort
end
def ltI (i j : Int) : Bool := decide (i < j)
def ltR (a b : List Int) : Bool := decide (a < b)
theorem totI : TotLt ltI where
  irrefl := fun a => by simp [ltI]
  trans := fun a b c => by simp only [ltI, decide_eq_true_eq]; exact Int.lt_trans
  tri := fun a b => by simp only [ltI, decide_eq_false_iff_not]; omega
theorem totR : TotLt ltR where
  irrefl := fun a => by simp [ltR, List.lt_irrefl]
  trans := fun a b c => by simp only [ltR, decide_eq_true_eq]; exact List.lt_trans
  tri := fun a b => by
    simp only [ltR, decide_eq_false_iff_not]
    intro h1 h2
    exact List.le_antisymm (List.not_lt.mp h2) (List.not_lt.mp h1)
theorem sortable_ints (l : List Int) : sortable (l.map .int) = true := by
  unfold sortable
  rw [Bool.or_eq_true]
  refine .inr ?_
  simp [PySem.W.alike, PyData.depth]
/-- rows that can be sorted: not the row of no cells beside another one -/
def rowsOk (l : List (List Int)) : Prop := l.length ≤ 1 ∨ ∀ r ∈ l, r ≠ []
theorem sortable_rows {l : List (List Int)} (h : rowsOk l) : sortable (l.map fun r => .tuple (r.map .int)) = true := by
  unfold sortable
  rw [Bool.or_eq_true]
  rcases h with h | h
  · exact .inl (decide_eq_true (by rw [List.length_map]; exact h))
  · refine .inr ?_
    rw [Bool.and_eq_true, Bool.and_eq_true, Bool.or_eq_true]
    refine ⟨?_, .inl ?_, ?_⟩
    · rw [List.all_eq_true]
      intro x hx
      rw [List.all_eq_true]
      intro y hy
      obtain ⟨a, _, rfl⟩ := List.mem_map.mp hx
      obtain ⟨b, _, rfl⟩ := List.mem_map.mp hy
      exact alike_rows2 a b
    · rw [List.all_eq_true]
      intro x hx
      obtain ⟨a, ha, rfl⟩ := List.mem_map.mp hx
      cases a with
      | nil => exact absurd rfl (h _ ha)
      | cons i a => rfl
    · rw [List.all_eq_true]
      intro x hx
      obtain ⟨a, ha, rfl⟩ := List.mem_map.mp hx
      exact decide_eq_true (Nat.le_trans (dep_row a) (by decide))
theorem bt_sorted_li (l : List Int) : Bt σ .sorted [.d (.list (l.map .int))] (.d (.list ((sortN ltI l).map .int))) := by
  unfold Bt
  show opt (biD .sorted [.list (l.map .int)]) σ = _
  simp only [biD, sortable_ints, if_true, opt_some, M.pa]
  rw [sortD_map (lt := ltI) fun a b => PySem.W.dataLt_int a b]
theorem bt_sorted_si (l : List Int) : Bt σ .sorted [.set (l.map .int)] (.d (.list ((sortN ltI l).map .int))) := by
  unfold Bt
  simp only [biW, sortable_ints, if_true, M.pa]
  rw [sortD_map (lt := ltI) fun a b => PySem.W.dataLt_int a b]
abbrev encR (r : List Int) : D := .tuple (r.map .int)
theorem bt_sorted_tr {l : List (List Int)} (h : rowsOk l) : Bt σ .sorted [.d (.tuple (l.map encR))] (.d (.list ((sortN ltR l).map encR))) := by
  unfold Bt
  show opt (biD .sorted [.tuple (l.map encR)]) σ = _
  simp only [biD, sortable_rows h, if_true, opt_some, M.pa]
  rw [sortD_map (lt := ltR) fun a b => lt_rows a b]
theorem bt_sorted_lr {l : List (List Int)} (h : rowsOk l) : Bt σ .sorted [.d (.list (l.map encR))] (.d (.list ((sortN ltR l).map encR))) := by
  unfold Bt
  show opt (biD .sorted [.list (l.map encR)]) σ = _
  simp only [biD, sortable_rows h, if_true, opt_some, M.pa]
  rw [sortD_map (lt := ltR) fun a b => lt_rows a b]
theorem bt_sorted_sr {l : List (List Int)} (h : rowsOk l) : Bt σ .sorted [.set (l.map encR)] (.d (.list ((sortN ltR l).map encR))) := by
  unfold Bt
  simp only [biW, sortable_rows h, if_true, M.pa]
  rw [sortD_map (lt := ltR) fun a b => lt_rows a b]
theorem iOf_ints (l : List Int) : iOf (l.map .int) = some l := by
  have := iOf_map (fun i : Int => i) l
  simpa using this
theorem rOf_rows : ∀ l : List (List Int), rOf (l.map encR) = some l
  | [] => rfl
  | x :: l => by simp only [List.map_cons, rOf, iOf_ints, Option.bind_some, rOf_rows l, Option.map_some]
theorem bt_set_li {l : List Int} (h : l.length ≤ 2000) : Bt σ .set [.d (.list (l.map .int))] (.set ((once [] l).map .int)) := by
  unfold Bt
  show opt (biD .set [.list (l.map .int)]) σ = _
  have e : onceD [] (l.map PyData.int) = (once [] l).map PyData.int := onceD_map encI l []
  simp only [biD, iOf_ints, Option.isSome_some, List.length_map, h, decide_true, Bool.and_true, Bool.true_or, if_true, opt_some, M.pa, e]
theorem bt_set_lr {l : List (List Int)} (h : l.length < 64) : Bt σ .set [.d (.list (l.map encR))] (.set ((once [] l).map encR)) := by
  unfold Bt
  show opt (biD .set [.list (l.map encR)]) σ = _
  have e : onceD [] (l.map encR) = (once [] l).map encR := onceD_map encI.tup l []
  simp only [biD, rOf_rows, Option.isSome_some, List.length_map, h, decide_true, Bool.and_true, Bool.or_true, if_true, opt_some, M.pa, e]
theorem rowsOk_once {l : List (List Int)} (h : rowsOk l) : rowsOk (once [] l) := by
  rcases h with h | h
  · exact .inl (Nat.le_trans once_length h)
  · exact .inr fun r hr => h r (mem_once.mp hr).1
section
variable {ft : Ft} {ρ : Rho} {a : E}
/-- sorted(set(rows)) -/
theorem v_ssr {l : List (List Int)} (h : Ev ft a ρ σ (.d (.list (l.map encR)))) (h1 : l.length < 64) (h2 : rowsOk l) : Ev ft (.bi .sorted (.cons (.bi .set (.cons a .nil)) .nil)) ρ σ (.d (.list ((ssort ltR l).map encR))) :=
  v_bi (vs_cons (v_bi (vs_cons h vs_nil) (bt_set_lr h1)) vs_nil) (bt_sorted_sr (rowsOk_once h2))
theorem v_ssi {l : List Int} (h : Ev ft a ρ σ (.d (.list (l.map .int)))) (h1 : l.length ≤ 2000) : Ev ft (.bi .sorted (.cons (.bi .set (.cons a .nil)) .nil)) ρ σ (.d (.list ((ssort ltI l).map .int))) :=
  v_bi (vs_cons (v_bi (vs_cons h vs_nil) (bt_set_li h1)) vs_nil) (bt_sorted_si _)
end
/-! ### dicts -/
section
variable {α β : Type} [DecidableEq α] {f : α → D} {g : β → D} {k : Nat}
def lookN (kvs : List (α × β)) (x : α) : Option β := (kvs.find? fun p => decide (p.1 = x)).map (·.2)
theorem valAt_map (h : Enc f k) (kvs : List (α × β)) (x : α) : valAt (kvs.map fun p => (f p.1, g p.2)) (f x) = (lookN kvs x).map g := by
  unfold valAt lookN
  induction kvs with
  | nil => rfl
  | cons p l ih =>
    rw [List.map_cons, List.find?_cons, List.find?_cons, h.eqv]
    by_cases e : p.1 = x
    · simp [e]
    · simp only [e, decide_false]; exact ih
def putN (kvs : List (α × β)) (x : α) (v : β) : List (α × β) := match kvs with
  | [] => [(x, v)]
  | p :: r => if p.1 = x then (p.1, v) :: r else p :: putN r x v
def mergeN (kvs : List (α × β)) : List (α × β) → List (α × β)
  | [] => kvs
  | p :: r => mergeN (putN kvs p.1 p.2) r
theorem putD_map (h : Enc f k) (x : α) (v : β) : ∀ kvs : List (α × β), putD (kvs.map fun p => (f p.1, g p.2)) (f x) (g v) = (putN kvs x v).map fun p => (f p.1, g p.2)
  | [] => rfl
  | p :: r => by
    rw [List.map_cons]
    unfold putD putN
    rw [h.eqv, putD_map h x v r]
    by_cases e : p.1 = x
    · simp [e]
    · simp [e]
theorem mergeD_map (h : Enc f k) : ∀ ps kvs : List (α × β), mergeD (kvs.map fun p => (f p.1, g p.2)) (ps.map fun p => (f p.1, g p.2)) = (mergeN kvs ps).map fun p => (f p.1, g p.2)
  | [], _ => rfl
  | p :: r, kvs => by
    rw [List.map_cons]
    unfold mergeD mergeN
    rw [putD_map h, mergeD_map h r]
theorem pairsD_map (hk : ∀ a, keyOk (f a) = true) : ∀ ps : List (α × β), pairsD (ps.map fun p => .tuple [f p.1, g p.2]) = some (ps.map fun p => (f p.1, g p.2))
  | [] => rfl
  | p :: r => by simp only [List.map_cons, pairsD, hk, if_true, pairsD_map hk r, Option.map_some]
theorem bt_dict (h : Enc f k) (hk : ∀ a, keyOk (f a) = true) (ps : List (α × β)) : Bt σ .dict [.d (.list (ps.map fun p => .tuple [f p.1, g p.2]))] (.dct ((mergeN [] ps).map fun p => (f p.1, g p.2))) := by
  unfold Bt
  show opt (biD .dict [.list (ps.map fun p => .tuple [f p.1, g p.2])]) σ = _
  have e : mergeD [] (ps.map fun p => (f p.1, g p.2)) = (mergeN [] ps).map fun p => (f p.1, g p.2) := mergeD_map h ps []
  simp only [biD, pairsD_map hk, Option.map_some, opt_some, M.pa, e]
theorem ix_dct (h : Enc f k) (hk : ∀ a, keyOk (f a) = true) {kvs : List (α × β)} {x : α} {v : β} (hv : lookN kvs x = some v) : Ix σ (.dct (kvs.map fun p => (f p.1, g p.2))) (.d (f x)) (g v) := by
  unfold Ix; simp only [ixW, look_d, M.pb, hk, if_true, valAt_map h, hv, Option.map_some, opt_some, M.pa]
theorem putN_new {x : α} {v : β} : ∀ {kvs : List (α × β)}, (∀ p ∈ kvs, p.1 ≠ x) → putN kvs x v = kvs ++ [(x, v)]
  | [], _ => rfl
  | p :: r, h => by
    unfold putN
    rw [if_neg (h p List.mem_cons_self), putN_new fun q hq => h q (List.mem_cons_of_mem _ hq)]; rfl
/-- keys of their own: the dict is the list -/
theorem mergeN_nodup : ∀ {ps kvs : List (α × β)}, ((kvs ++ ps).map (·.1)).Nodup → mergeN kvs ps = kvs ++ ps
  | [], kvs, _ => by simp [mergeN]
  | p :: r, kvs, h => by
    unfold mergeN
    have hp : ∀ q ∈ kvs, q.1 ≠ p.1 := fun q hq e => by
      rw [List.map_append, List.nodup_append] at h
      exact h.2.2 q.1 (List.mem_map.mpr ⟨q, hq, rfl⟩) p.1 (by simp) e
    rw [putN_new hp, mergeN_nodup (by simpa using h)]
    simp
theorem lookN_mem {kvs : List (α × β)} (hn : (kvs.map (·.1)).Nodup) {p : α × β} (hp : p ∈ kvs) : lookN kvs p.1 = some p.2 := by
  unfold lookN
  induction kvs with
  | nil => cases hp
  | cons q l ih =>
    rw [List.map_cons] at hn
    obtain ⟨h1, h2⟩ := List.nodup_cons.mp hn
    rw [List.find?_cons]
    rcases List.mem_cons.mp hp with e | e
    · subst e; simp
    · have ne : ¬ q.1 = p.1 := fun z => h1 (z ▸ List.mem_map.mpr ⟨p, e, rfl⟩)
      simp only [ne, decide_false]
      exact ih h2 e
end
section
variable {ft : Ft} {ρ : Rho} {a b c : E}
/-- worths.get(cell, cell), numbers to numbers -/
theorem v_get_ii {kvs : List (Int × Int)} {y z : Int} (ho : Ev ft a ρ σ (.dct (kvs.map fun p => (.int p.1, .int p.2)))) (hk : Ev ft b ρ σ (.d (.int y))) (hx : Ev ft c ρ σ (.d (.int z))) : Ev ft (.getd a b c) ρ σ (.d (.int ((lookN kvs y).getD z))) := by
  refine (v_getd ho hk hx).eq ?_
  rw [valAt_map (g := PyData.int) encI]
  cases lookN kvs y <;> rfl
end
end Pd
end

set_option maxHeartbeats 200000
section
/-! Pe3: the rules in the form in which they are tried one behind the other. Own work. -/
namespace Pd
open PySem
section
variable {ft : Ft} {ρ : Rho} {σ σ' : S} {a b c t e : E} {es : Es} {p q : Bool} {α β γ : Type} {enc : α → D} {xs : List α} {g : G} {it : I} {ifs : Es} {elt : E} {own : List Nat}
theorem ei_of' {x : D} (h : Ev ft a ρ σ (.d x)) (hx : x = .tuple (xs.map enc) ∨ x = .list (xs.map enc)) (hl : Sm xs) : EvI ft (.of a) ρ σ enc xs := ei_of (ys := []) h hx hl
theorem ei_zip {x y : D} {f : α → D} {h : β → D} {ys : List β} (ha : Ev ft a ρ σ (.d x)) (hb : Ev ft b ρ σ (.d y)) (hz : (x = .tuple (xs.map f) ∧ y = .tuple (ys.map h)) ∨ (x = .list (xs.map f) ∧ y = .list (ys.map h))) (hl : Sm xs) : EvI ft (.zip a b) ρ σ (fun p : α × β => .tuple [f p.1, h p.2]) (xs.zip ys) := by
  rcases hz with ⟨rfl, rfl⟩ | ⟨rfl, rfl⟩
  · exact i_zip_t ha hb hl
  · exact i_zip_l ha hb hl
theorem ex_lc {ρ0 ρ1 : Rho} {x z : D} {f : α → D} {y : α} (h1 : bindG g x ρ0 = some ρ1) (h2 : Ev ft elt ρ1 σ (.d z)) (h3 : z = f y) : ∃ ρ1 z, bindG g x ρ0 = some ρ1 ∧ Ev ft elt ρ1 σ (.d z) ∧ z = f y := ⟨_, _, h1, h2, h3⟩
theorem ex_lcf {ρ0 ρ1 : Rho} {x z : D} {f : α → D} {r : α → Bool} {y : α} (h1 : bindG g x ρ0 = some ρ1) (h2 : Ev ft t ρ1 σ (.d (.bool q))) (h3 : q = r y) (h4 : q = true → Ev ft elt ρ1 σ (.d z)) (h5 : z = f y) :
    ∃ ρ1 q z, bindG g x ρ0 = some ρ1 ∧ Ev ft t ρ1 σ (.d (.bool q)) ∧ q = r y ∧ (q = true → Ev ft elt ρ1 σ (.d z)) ∧ z = f y := ⟨_, _, _, h1, h2, h3, h4, h5⟩
theorem ex_lc2 {ρ0 ρ1 : Rho} {x : D} {y : α} {enc1 : γ → D} {it1 : I} {ys : α → List γ} {f : α → γ → D} {g1 : G} {own1 : List Nat} (h1 : bindG g x ρ0 = some ρ1) (h2 : EvI ft it1 ρ1 σ enc1 (ys y))
    (h3 : ∀ u ∈ ys y, ∃ ρ2 z, bindG g1 (enc1 u) (wipeR ρ1 own1) = some ρ2 ∧ Ev ft elt ρ2 σ (.d z) ∧ z = f y u) : ∃ ρ1, bindG g x ρ0 = some ρ1 ∧ EvI ft it1 ρ1 σ enc1 (ys y) ∧ ∀ u ∈ ys y, ∃ ρ2 z, bindG g1 (enc1 u) (wipeR ρ1 own1) = some ρ2 ∧ Ev ft elt ρ2 σ (.d z) ∧ z = f y u := ⟨_, h1, h2, h3⟩
theorem ex_lc2f {ρ0 ρ1 : Rho} {x : D} {y : α} {enc1 : γ → D} {it1 : I} {ys : α → List γ} {f : α → γ → D} {r : α → γ → Bool} {g1 : G} {own1 : List Nat} (h1 : bindG g x ρ0 = some ρ1) (h2 : EvI ft it1 ρ1 σ enc1 (ys y))
    (h3 : ∀ u ∈ ys y, ∃ ρ2 q z, bindG g1 (enc1 u) (wipeR ρ1 own1) = some ρ2 ∧ Ev ft t ρ2 σ (.d (.bool q)) ∧ q = r y u ∧ (q = true → Ev ft elt ρ2 σ (.d z)) ∧ z = f y u) :
    ∃ ρ1, bindG g x ρ0 = some ρ1 ∧ EvI ft it1 ρ1 σ enc1 (ys y) ∧ ∀ u ∈ ys y, ∃ ρ2 q z, bindG g1 (enc1 u) (wipeR ρ1 own1) = some ρ2 ∧ Ev ft t ρ2 σ (.d (.bool q)) ∧ q = r y u ∧ (q = true → Ev ft elt ρ2 σ (.d z)) ∧ z = f y u := ⟨_, h1, h2, h3⟩
theorem ex_for {ρ0 ρ1 : Rho} {x : D} {ss : Sts} {c : Ct} {P : Rho → Prop} (h1 : bindG g x ρ0 = some ρ1) (h2 : EvC ft ss ρ1 σ c σ) (h3 : ∃ ρ2, c = .nx ρ2 ∧ P ρ2) : ∃ ρ1 c, bindG g x ρ0 = some ρ1 ∧ EvC ft ss ρ1 σ c σ ∧ ∃ ρ2, c = .nx ρ2 ∧ P ρ2 := ⟨_, _, h1, h2, h3⟩
theorem v_dsp1_ii {y z : Int} (hk : Ev ft a ρ σ (.d (.int y))) (hx : Ev ft b ρ σ (.d (.int z))) : Ev ft (.dsp1 a b) ρ σ (.dct (List.map (fun p : Int × Int => (.int p.1, .int p.2)) [(y, z)])) := v_dsp1 hk hx
end
/-- a def's frame, its body, what it gives -/
theorem dfn {fs : List (Option Fn)} {at_ : Nat → M W → M W} {n j ps k : Nat} {b : Sts} {ws : List W} {w : W} {c : Ct} (ρ : Rho) (h : fs[j]? = some (some ⟨ps, k, false, b⟩)) (h1 : ws.length = ps) (h2 : ps ≤ k) (hρ : ws.map some ++ List.replicate (k - ws.length) none = ρ)
    (hb : ∀ σ, EvC ⟨fnT fs at_ n, at_⟩ b ρ σ c σ) (hc : ctW c = w) (hw : w.fixed = true) : fnT fs at_ (n + 1) j ws = pure w := by
  subst hρ
  rw [fnT_at h]
  exact run_pure h1 h2 rfl hb hc hw
end Pd
namespace Pd
open PySem
/-! ### comprehensions whose lists are put in one form -/
section
variable {ft : Ft} {ρ : Rho} {σ σ' : S} {t : E} {α β γ : Type} {enc : α → D} {xs : List α} {g : G} {it : I} {elt : E} {own : List Nat}
theorem v_lc' {f : α → D} {ys : List D} (hi : EvI ft it ρ σ enc xs) (hs : ∀ x ∈ xs, ∃ ρ1 z, bindG g (enc x) (wipeR ρ own) = some ρ1 ∧ Ev ft elt ρ1 σ (.d z) ∧ z = f x) (hl : Sm xs) (hn : xs.map f = ys) : Ev ft (.lc g it .nil elt own) ρ σ (.d (.list ys)) := hn ▸ v_lc hi hs hl
theorem v_lcf' {f : α → D} {p : α → Bool} {ys : List D} (hi : EvI ft it ρ σ enc xs) (hs : ∀ x ∈ xs, ∃ ρ1 q z, bindG g (enc x) (wipeR ρ own) = some ρ1 ∧ Ev ft t ρ1 σ (.d (.bool q)) ∧ q = p x ∧ (q = true → Ev ft elt ρ1 σ (.d z)) ∧ z = f x) (hl : Sm xs) (hn : (xs.filter p).map f = ys) :
    Ev ft (.lc g it (.cons t .nil) elt own) ρ σ (.d (.list ys)) := hn ▸ v_lcf hi hs hl
variable {enc1 : γ → D} {g1 : G} {it1 : I} {own1 : List Nat}
theorem v_lc2' {ys : α → List γ} {f : α → γ → D} {zs : List D} (hi : EvI ft it ρ σ enc xs) (hs : ∀ x ∈ xs, ∃ ρ1, bindG g (enc x) (wipeR ρ own) = some ρ1 ∧ EvI ft it1 ρ1 σ enc1 (ys x) ∧ ∀ y ∈ ys x, ∃ ρ2 z, bindG g1 (enc1 y) (wipeR ρ1 own1) = some ρ2 ∧ Ev ft elt ρ2 σ (.d z) ∧ z = f x y)
    (hl : Sm (xs.flatMap fun x => (ys x).map (f x))) (hn : (xs.flatMap fun x => (ys x).map (f x)) = zs) : Ev ft (.lc2 g it .nil g1 it1 .nil elt own own1) ρ σ (.d (.list zs)) := hn ▸ v_lc2 hi hs hl
theorem v_lc2f' {ys : α → List γ} {f : α → γ → D} {p : α → γ → Bool} {zs : List D} (hi : EvI ft it ρ σ enc xs) (hs : ∀ x ∈ xs, ∃ ρ1, bindG g (enc x) (wipeR ρ own) = some ρ1 ∧ EvI ft it1 ρ1 σ enc1 (ys x) ∧ ∀ y ∈ ys x, ∃ ρ2 q z, bindG g1 (enc1 y) (wipeR ρ1 own1) = some ρ2 ∧ Ev ft t ρ2 σ (.d (.bool q)) ∧ q = p x y ∧ (q = true → Ev ft elt ρ2 σ (.d z)) ∧ z = f x y)
    (hl : Sm (xs.flatMap fun x => ((ys x).filter (p x)).map (f x))) (hn : (xs.flatMap fun x => ((ys x).filter (p x)).map (f x)) = zs) : Ev ft (.lc2 g it .nil g1 it1 (.cons t .nil) elt own own1) ρ σ (.d (.list zs)) := hn ▸ v_lc2f hi hs hl
theorem nrm_I (l : List Int) : l.map (fun x => PyData.int x) = l.map PyData.int := rfl
theorem nrm_R (l : List (List Int)) : l.map (fun x => encR x) = l.map encR := rfl
theorem nrm_fI (h : α → Int) (l : List α) : l.map (fun x => PyData.int (h x)) = (l.map h).map PyData.int := by rw [List.map_map]; rfl
theorem nrm_fS (h : α → Str) (l : List α) : l.map (fun x => PyData.str (h x)) = (l.map h).map PyData.str := by rw [List.map_map]; rfl
theorem nrm_fR (h : α → List Int) (l : List α) : l.map (fun x => PyData.tuple ((h x).map .int)) = (l.map h).map encR := by rw [List.map_map]; rfl
theorem nrm_2I (h : α → γ → Int) (ys : α → List γ) : (xs.flatMap fun x => (ys x).map (fun y => PyData.int (h x y))) = (xs.flatMap fun x => (ys x).map (h x)).map PyData.int := by
  rw [List.map_flatMap]; congr 1; funext x; rw [List.map_map]; rfl
theorem nrm_2R (h : α → γ → List Int) (ys : α → List γ) : (xs.flatMap fun x => (ys x).map (fun y => PyData.tuple ((h x y).map .int))) = (xs.flatMap fun x => (ys x).map (h x)).map encR := by
  rw [List.map_flatMap]; congr 1; funext x; rw [List.map_map]; rfl
theorem nrm_2fI (h : α → γ → Int) (ys : α → List γ) (p : α → γ → Bool) : (xs.flatMap fun x => ((ys x).filter (p x)).map (fun y => PyData.int (h x y))) = (xs.flatMap fun x => ((ys x).filter (p x)).map (h x)).map PyData.int := nrm_2I h _
theorem nrm_2fR (h : α → γ → List Int) (ys : α → List γ) (p : α → γ → Bool) : (xs.flatMap fun x => ((ys x).filter (p x)).map (fun y => PyData.tuple ((h x y).map .int))) = (xs.flatMap fun x => ((ys x).filter (p x)).map (h x)).map encR := nrm_2R h _
end
theorem bt_sum_i {σ : S} (l : List Int) : Bt σ .sum [.d (.list (l.map .int))] (.d (.int l.sum)) := by have := bt_sum (σ := σ) (fun i : Int => i) l; simpa using this
theorem foldl_app {α β : Type} (g : α → List β) : ∀ (l : List α) (a : List β), l.foldl (fun acc x => acc ++ g x) a = a ++ l.flatMap g
  | [], a => by simp
  | x :: l, a => by rw [List.foldl_cons, foldl_app g l, List.flatMap_cons, List.append_assoc]
theorem foldl_snoc {α β : Type} (g : α → β) (l : List α) (a : List β) : l.foldl (fun acc x => acc ++ [g x]) a = a ++ l.map g := by
  rw [foldl_app (fun x => [g x])]; congr 1
  induction l with
  | nil => rfl
  | cons x l ih => rw [List.flatMap_cons, ih, List.map_cons]; rfl
end Pd
namespace Pd
theorem ct_ff {p : Bool} {c : Ct} {x : Bool} (h : ctW c = .d (.bool x)) : ctW (if p then .rt (.d (.bool false)) else c) = .d (.bool (!p && x)) := by
  cases p with
  | true => rfl
  | false => exact h
theorem ct_b {c : Ct} {x y : Bool} (h : ctW c = .d (.bool x)) (e : x = y) : ctW c = .d (.bool y) := e ▸ h
theorem ct_ite {p : Bool} {c d : Ct} {x y : W} (h : ctW c = x) (h' : ctW d = y) : ctW (if p then c else d) = if p then x else y := by
  subst h h'; cases p <;> rfl
theorem ite_db {p : Bool} {x y : Bool} : (if p then W.d (.bool x) else W.d (.bool y)) = W.d (.bool (if p then x else y)) := by cases p <;> rfl
end Pd
namespace Pd
open PySem
section
variable {ft : Ft} {ρ : Rho} {σ σ' : S} {ss b : Sts} {c : Ct} {α γ : Type} {enc : α → D} {xs : List α} {g : G} {it : I}
theorem nrm_2I0 (ys : α → List Int) : (xs.flatMap fun x => (ys x).map (fun y => PyData.int y)) = (xs.flatMap ys).map PyData.int := by
  rw [List.map_flatMap]
theorem nrm_2R0 (ys : α → List (List Int)) : (xs.flatMap fun x => (ys x).map (fun y => encR y)) = (xs.flatMap ys).map encR := by
  rw [List.map_flatMap]
/-- a filter that keeps what it walks -/
theorem nrm_If (p : Int → Bool) (l : List Int) : (l.filter p).map (fun x => PyData.int x) = (l.filter p).map PyData.int := rfl
theorem nrm_Rf (p : List Int → Bool) (l : List (List Int)) : (l.filter p).map (fun x => encR x) = (l.filter p).map encR := rfl
end
theorem pre_mem {α : Type} {xs pre post : List α} {x : α} (e : xs = pre ++ x :: post) : x ∈ xs := by rw [e]; simp
theorem pre_sub {α : Type} {xs pre post : List α} {x : α} (e : xs = pre ++ x :: post) {y : α} (h : y ∈ pre) : y ∈ xs := by rw [e]; exact List.mem_append_left _ h
theorem pre_len {α : Type} {xs pre post : List α} {x : α} (e : xs = pre ++ x :: post) : pre.length + 1 ≤ xs.length := by rw [e, List.length_append, List.length_cons]; omega
end Pd
namespace Pd
open PySem
section
variable {ft : Ft} {ρ : Rho} {σ σ' : S} {a b t : E} {s1 s2 ss : Sts} {c : Ct} {p : Bool}
/-! tests that are told by their shape -/
theorem c_ite_T (ht : Ev ft t ρ σ (.d (.bool p))) (hp : p = true) (h1 : EvC ft (s1.app ss) ρ σ c σ') : EvC ft (.cons (.ite t s1 s2) ss) ρ σ c σ' := by subst hp; exact c_ite_t ht h1
theorem c_ite_F (ht : Ev ft t ρ σ (.d (.bool p))) (hp : p = false) (h1 : EvC ft (s2.app ss) ρ σ c σ') : EvC ft (.cons (.ite t s1 s2) ss) ρ σ c σ' := by subst hp; exact c_ite_f ht h1
theorem v_ite_T {w : W} (ht : Ev ft t ρ σ (.d (.bool p))) (hp : p = true) (h1 : Ev ft a ρ σ w) : Ev ft (.ite t a b) ρ σ w := by subst hp; exact v_ite_t ht h1
theorem v_ite_F {w : W} (ht : Ev ft t ρ σ (.d (.bool p))) (hp : p = false) (h1 : Ev ft b ρ σ w) : Ev ft (.ite t a b) ρ σ w := by subst hp; exact v_ite_f ht h1
theorem v_and_F (ht : Ev ft a ρ σ (.d (.bool p))) (hp : p = false) : Ev ft (.and a b) ρ σ (.d (.bool false)) := by
  subst hp; exact v_and ht (q := false) (fun h => nomatch h)
theorem v_or_T (ht : Ev ft a ρ σ (.d (.bool p))) (hp : p = true) : Ev ft (.or a b) ρ σ (.d (.bool true)) := by
  subst hp; exact v_or ht (q := true) (fun h => nomatch h)
theorem v_and_T {w : W} (ht : Ev ft a ρ σ (.d (.bool p))) (hp : p = true) {q : Bool} (h : Ev ft b ρ σ (.d (.bool q))) : Ev ft (.and a b) ρ σ (.d (.bool q)) := by
  subst hp; exact v_and ht (fun _ => h)
theorem v_or_F {w : W} (ht : Ev ft a ρ σ (.d (.bool p))) (hp : p = false) {q : Bool} (h : Ev ft b ρ σ (.d (.bool q))) : Ev ft (.or a b) ρ σ (.d (.bool q)) := by
  subst hp; exact v_or ht (fun _ => h)
end
end Pd
namespace Pd
open PySem
theorem bin_add_tR1 {xs : List (List Int)} {r : List Int} (h : xs.length + 1 ≤ big) : binD .add (.tuple (xs.map encR)) (.tuple [.tuple (r.map .int)]) = some (.tuple ((xs ++ [r]).map encR)) := bin_add_tm (ys := [r]) h
theorem bin_add_lR1 {xs : List (List Int)} {r : List Int} (h : xs.length + 1 ≤ big) : binD .add (.list (xs.map encR)) (.list [.tuple (r.map .int)]) = some (.list ((xs ++ [r]).map encR)) := bin_add_lm (ys := [r]) h
theorem bin_add_tI1 {xs : List Int} {i : Int} (h : xs.length + 1 ≤ big) : binD .add (.tuple (xs.map .int)) (.tuple [.int i]) = some (.tuple ((xs ++ [i]).map .int)) := bin_add_tm (ys := [i]) h
theorem bin_add_lI1 {xs : List Int} {i : Int} (h : xs.length + 1 ≤ big) : binD .add (.list (xs.map .int)) (.list [.int i]) = some (.list ((xs ++ [i]).map .int)) := bin_add_lm (ys := [i]) h
end Pd
namespace Pd
theorem nbf {b : Bool} (h : (!b) = false) : b = true := by cases b <;> simp_all
theorem nbt {b : Bool} (h : (!b) = true) : b = false := by cases b <;> simp_all
end Pd
end

set_option maxHeartbeats 200000
section
/-! Pe4: lists that a def makes and changes. Own work. -/
namespace Pd
open PySem
variable {ft : Ft} {ρ : Rho} {σ σ' τ ν : S} {a t : E} {s1 s2 ss : Sts} {c c' : Ct}
theorem st_get {b : Bool} {xs : List D} : (τ ++ (b, xs) :: ν)[τ.length]? = some (b, xs) := by simp
theorem st_set {b : Bool} {xs : List D} {v : Bool × List D} : (τ ++ (b, xs) :: ν).set τ.length v = τ ++ v :: ν := by simp
/-- x = [..], to be changed later -/
theorem c_mlst {i : Nat} {es : Es} {xs : List D} (h : Evd ft es ρ σ xs) (hl : xs.length ≤ big) (hs : EvC ft ss (ρ.set i (some (.mut σ.length))) (σ ++ (false, xs) :: []) c σ') : EvC ft (.cons (.set (.nm i) (.mlst es)) ss) ρ σ c σ' := by
  refine cc ?_ hs
  unfold Evd at h
  simp only [evS, evE]
  rw [M.ba, M.ba, h]
  dsimp only
  rw [toDs_ds, M.pb, small_ok hl, M.pb]
  rfl
/-- x = a + b, to be changed later -/
theorem c_mcat {i : Nat} {a b : E} {xs ys : List D} (h : Ev ft a ρ σ (.d (.list xs))) (h' : Ev ft b ρ σ (.d (.list ys))) (hl : (xs ++ ys).length ≤ big) (hs : EvC ft ss (ρ.set i (some (.mut σ.length))) (σ ++ (false, xs ++ ys) :: []) c σ') : EvC ft (.cons (.set (.nm i) (.mcat a b)) ss) ρ σ c σ' := by
  refine cc ?_ hs
  unfold Ev at *
  simp only [evS, evE]
  rw [M.ba, M.ba, h]
  dsimp only
  rw [M.ba, h']
  dsimp only
  rw [look_d, M.pb, look_d, M.pb]
  dsimp only
  rw [small_ok hl, M.pb]
  rfl
/-- x.append(e) -/
theorem c_app {x : Nat} {e : E} {y : D} {xs : List D} (hx : ρ.at_ x = some (.mut τ.length)) (h : Ev ft e ρ (τ ++ (false, xs) :: ν) (.d y)) (hl : xs.length < big) (hs : EvC ft ss ρ (τ ++ (false, xs ++ [y]) :: ν) c σ') : EvC ft (.cons (.app x e) ss) ρ (τ ++ (false, xs) :: ν) c σ' := by
  refine cc ?_ hs
  unfold Ev at h
  simp only [evS, hx, opt_some, M.pb]
  rw [M.ba, h]
  dsimp only
  rw [toD_d, M.pb, M.ba]
  have : appendTo (.mut τ.length) y (τ ++ (false, xs) :: ν) = .ok () (τ ++ (false, xs ++ [y]) :: ν) := by
    simp only [appendTo, st_get, if_pos hl, st_set]
  rw [this]
  rfl
theorem ix_mut {b : Bool} {xs : List D} {i : Int} {z : D} (h : atD xs i = some z) : Ix (τ ++ (b, xs) :: ν) (.mut τ.length) (.d (.int i)) z := by
  unfold Ix
  show (look (.mut τ.length) >>= fun x => look (.d (.int i)) >>= fun y => opt (ixD x y)) _ = _
  rw [M.ba]
  have : look (.mut τ.length) (τ ++ (b, xs) :: ν) = .ok (.list xs) (τ ++ (b, xs) :: ν) := by simp only [look, st_get]
  rw [this]
  dsimp only
  rw [look_d, M.pb]
  simp only [ixD, h, opt_some, M.pa]
theorem ix_mut_last {α : Type} {f : α → D} {b : Bool} {l : List α} {x : α} (h : l.getLast? = some x) : Ix (τ ++ (b, l.map f) :: ν) (.mut τ.length) (.d (.int (-1))) (f x) := ix_mut (atD_last f l x h)
/-- return x, a list of the def's own: what leaves it -/
theorem run_mut {f : Fn} {ws : List W} {xs : List D} {b : Bool} (h1 : ws.length = f.ps) (h2 : f.ps ≤ f.n) (h3 : f.mutRet = false) (h : EvC ft f.body (start0 f ws) σ (.rt (.mut σ.length)) (σ ++ (b, xs) :: ν)) : runFn ft f ws σ = .ok (.d (.list xs)) σ := by
  unfold EvC at h
  unfold runFn
  rw [if_pos ⟨h1, h2⟩, M.ba, h]
  show leave f σ.length (.mut σ.length) (σ ++ (b, xs) :: ν) = _
  unfold leave
  rw [if_neg (by rw [h3]; exact Bool.false_ne_true)]
  refine (M.ba (toD (.mut σ.length)) (fun x => (fun s => R.ok (W.d x) (s.take σ.length) : M W)) _).trans ?_
  have : toD (.mut σ.length) (σ ++ (b, xs) :: ν) = .ok (.list xs) (σ ++ (true, xs) :: ν) := by simp only [toD, st_get, st_set]
  rw [this]
  show R.ok _ ((σ ++ (true, xs) :: ν).take σ.length) = _
  rw [List.take_left]
/-- return tuple([elt for g in x]), x a list of the def's own -/
theorem c_ret_tlc {x : Nat} {g : G} {elt : E} {own : List Nat} {α : Type} {enc : α → D} {xs : List α} {f : α → D} {b : Bool} (hx : ρ.at_ x = some (.mut τ.length)) (hl : Sm xs)
    (hs : ∀ y ∈ xs, ∃ ρ1 z, bindG g (enc y) (wipeR ρ own) = some ρ1 ∧ Ev ft elt ρ1 (τ ++ (true, xs.map enc) :: ν) (.d z) ∧ z = f y) :
    EvC ft (.cons (.ret (.bi .tuple (.cons (.lc g (.of (.var x)) .nil elt own) .nil))) ss) ρ (τ ++ (b, xs.map enc) :: ν) (.rt (.d (.tuple (xs.map f)))) (τ ++ (true, xs.map enc) :: ν) := by
  have hi : evI ft (.of (.var x)) ρ (τ ++ (b, xs.map enc) :: ν) = .ok (xs.map enc) (τ ++ (true, xs.map enc) :: ν) := by
    simp only [evI, evE, hx, opt_some, M.pb]
    rw [M.ba]
    have : toD (.mut τ.length) (τ ++ (b, xs.map enc) :: ν) = .ok (.list (xs.map enc)) (τ ++ (true, xs.map enc) :: ν) := by simp only [toD, st_get, st_set]
    rw [this]
    dsimp only
    rw [seqD_l, M.pb, small_ok (Sm.map _ hl)]; rfl
  have he : evE ft (.lc g (.of (.var x)) .nil elt own) ρ (τ ++ (b, xs.map enc) :: ν) = .ok (.d (.list (xs.map f))) (τ ++ (true, xs.map enc) :: ν) := by
    rw [evE, M.ba, hi]
    dsimp only
    rw [M.ba, enox_ok (lcI_map (g := fun x => some (f x)) fun y hy => ?_), fm_some]
    · dsimp only
      rw [M.ba, small_ok (Sm.map _ hl)]; rfl
    · obtain ⟨ρ1, z, h1, h2, rfl⟩ := hs y hy
      exact lc_step h1 h2
  unfold EvC
  rw [evSs_cons, M.ba]
  simp only [evS]
  rw [M.ba, evE, M.ba, evEs, M.ba, he]
  dsimp only
  simp only [evEs, M.pb, M.pa]
  rfl
end Pd
namespace Pd
open PySem
/-! ### loops within loops: what holds behind them -/
def EvQ (ft : Ft) (ss : Sts) (ρ : Rho) (σ : S) (Q : Ct → S → Prop) : Prop := ∃ c σ', EvC ft ss ρ σ c σ' ∧ Q c σ'
section
variable {ft : Ft} {ρ : Rho} {σ σ' : S} {a t : E} {s1 s2 ss b : Sts} {c : Ct} {p : Bool} {Q : Ct → S → Prop} {α : Type} {enc : α → D} {xs : List α} {g : G} {it : I}
theorem q_of (h : EvC ft ss ρ σ c σ') (hq : Q c σ') : EvQ ft ss ρ σ Q := ⟨c, σ', h, hq⟩
theorem q_nil (h : Q (.nx ρ) σ) : EvQ ft .nil ρ σ Q := ⟨_, _, c_nil, h⟩
theorem q_ret {w : W} (h : Ev ft a ρ σ w) (hq : Q (.rt w) σ) : EvQ ft (.cons (.ret a) ss) ρ σ Q := ⟨_, _, c_ret h, hq⟩
theorem q_set {w : W} {i : Nat} (h : Ev ft a ρ σ w) (hs : EvQ ft ss (ρ.set i (some w)) σ Q) : EvQ ft (.cons (.set (.nm i) a) ss) ρ σ Q := by
  obtain ⟨c, σ', h1, h2⟩ := hs
  exact ⟨c, σ', c_set h h1, h2⟩
theorem q_setT {gs : Gs} {x : D} {ρ' : Rho} (h : Ev ft a ρ σ (.d x)) (hb : bindG (.tup gs) x ρ = some ρ') (hs : EvQ ft ss ρ' σ Q) : EvQ ft (.cons (.set (.tup gs) a) ss) ρ σ Q := by
  obtain ⟨c, σ', h1, h2⟩ := hs
  exact ⟨c, σ', c_setT h hb h1, h2⟩
theorem q_par {is : List Nat} {es : Es} {ws : List W} {ρ' : Rho} (h : Evs ft es ρ σ ws) (hb : setAll is ws ρ = some ρ') (hs : EvQ ft ss ρ' σ Q) : EvQ ft (.cons (.par is es) ss) ρ σ Q := by
  obtain ⟨c, σ', h1, h2⟩ := hs
  exact ⟨c, σ', c_par h hb h1, h2⟩
theorem q_ex {w : W} (h : Ev ft a ρ σ w) (hs : EvQ ft ss ρ σ Q) : EvQ ft (.cons (.ex a) ss) ρ σ Q := by
  obtain ⟨c, σ', h1, h2⟩ := hs
  exact ⟨c, σ', c_ex h h1, h2⟩
theorem q_ite (ht : Ev ft t ρ σ (.d (.bool p))) (h1 : p = true → EvQ ft (s1.app ss) ρ σ Q) (h2 : p = false → EvQ ft (s2.app ss) ρ σ Q) : EvQ ft (.cons (.ite t s1 s2) ss) ρ σ Q := by
  cases p with
  | true =>
    obtain ⟨c, σ', h1, h2⟩ := h1 rfl
    exact ⟨c, σ', c_ite_t ht h1, h2⟩
  | false =>
    obtain ⟨c, σ', h1, h2⟩ := h2 rfl
    exact ⟨c, σ', c_ite_f ht h1, h2⟩
theorem q_ite_T (ht : Ev ft t ρ σ (.d (.bool p))) (hp : p = true) (h : EvQ ft (s1.app ss) ρ σ Q) : EvQ ft (.cons (.ite t s1 s2) ss) ρ σ Q := q_ite ht (fun _ => h) fun z => by rw [hp] at z; cases z
theorem q_ite_F (ht : Ev ft t ρ σ (.d (.bool p))) (hp : p = false) (h : EvQ ft (s2.app ss) ρ σ Q) : EvQ ft (.cons (.ite t s1 s2) ss) ρ σ Q := q_ite ht (fun z => by rw [hp] at z; cases z) fun _ => h
theorem q_forM (P : List α → Rho → S → Prop) (hi : EvI ft it ρ σ enc xs) (h0 : P [] ρ σ) (hs : ∀ pre x post, xs = pre ++ x :: post → ∀ ρ σ, P pre ρ σ → ∃ ρ1, bindG g (enc x) ρ = some ρ1 ∧ EvQ ft b ρ1 σ fun c σ2 => ∃ ρ2, c = .nx ρ2 ∧ P (pre ++ [x]) ρ2 σ2)
    (hr : ∀ ρ' σ1, P xs ρ' σ1 → EvQ ft ss ρ' σ1 Q) : EvQ ft (.cons (.for g it b) ss) ρ σ Q := by
  have run : ∃ ρ2 σ2, evS ft (.for g it b) ρ σ = .ok (.nx ρ2) σ2 ∧ P xs ρ2 σ2 := by
    have k : EvQ ft (.cons (.for g it b) .nil) ρ σ fun c τ => ∃ ρ2, c = .nx ρ2 ∧ P xs ρ2 τ := by
      unfold EvI at hi
      have run : ∀ post pre ρ σ, xs = pre ++ post → P pre ρ σ → ∃ ρ2 σ2, forI g (fun ρ => evSs ft b ρ) (post.map enc) ρ σ = .ok (.nx ρ2) σ2 ∧ P xs ρ2 σ2 := fun post => by
        induction post with
        | nil =>
          intro pre ρ σ e h
          rw [List.append_nil] at e
          subst e
          exact ⟨ρ, σ, rfl, h⟩
        | cons x post ih =>
          intro pre ρ σ e h
          obtain ⟨ρ1, h1, _, σ2, h2, ρ2, rfl, h3⟩ := hs pre x post e ρ σ h
          obtain ⟨ρ3, σ3, h4, h5⟩ := ih (pre ++ [x]) ρ2 σ2 (by rw [e]; simp) h3
          refine ⟨ρ3, σ3, ?_, h5⟩
          unfold EvC at h2
          rw [List.map_cons]
          unfold forI
          rw [h1, opt_some, M.pb, M.ba, h2]
          exact h4
      obtain ⟨ρ2, σ2, h1, h2⟩ := run xs [] ρ σ rfl h0
      refine ⟨_, _, cc (ρ1 := ρ2) (σ1 := σ2) ?_ c_nil, ρ2, rfl, h2⟩
      simp only [evS]
      rw [M.ba, hi]
      exact h1
    obtain ⟨_, τ, h1, ρ2, rfl, h2⟩ := k
    unfold EvC at h1
    rw [evSs_cons, M.ba] at h1
    cases e : evS ft (.for g it b) ρ σ with
    | ok c1 τ1 =>
      rw [e] at h1
      cases c1 with
      | nx ρ1 =>
        have h1 : (pure (Ct.nx ρ1) : M Ct) τ1 = .ok (.nx ρ2) τ := by
          have : contC (.nx ρ1) (fun ρ' => evSs ft .nil ρ') τ1 = .ok (.nx ρ2) τ := h1
          simpa only [contC, evSs] using this
        cases h1
        exact ⟨_, _, rfl, h2⟩
      | rt w => cases h1
    | ex c p s => rw [e] at h1; cases h1
    | no => rw [e] at h1; cases h1
  obtain ⟨ρ2, σ2, h1, h2⟩ := run
  obtain ⟨c, σ', h3, h4⟩ := hr ρ2 σ2 h2
  exact ⟨c, σ', cc h1 h3, h4⟩
/-- .. the state kept -/
theorem q_forP (P : List α → Rho → Prop) (hi : EvI ft it ρ σ enc xs) (h0 : P [] ρ) (hs : ∀ pre x post, xs = pre ++ x :: post → ∀ ρ, P pre ρ → ∃ ρ1, bindG g (enc x) ρ = some ρ1 ∧ EvQ ft b ρ1 σ fun c τ => ∃ ρ2, c = .nx ρ2 ∧ τ = σ ∧ P (pre ++ [x]) ρ2)
    (hr : ∀ ρ', P xs ρ' → EvQ ft ss ρ' σ Q) : EvQ ft (.cons (.for g it b) ss) ρ σ Q := by
  refine q_forM (fun pre ρ τ => τ = σ ∧ P pre ρ) hi ⟨rfl, h0⟩ (fun pre x post e ρ τ h => ?_) fun ρ' τ h => ?_
  · obtain ⟨rfl, h⟩ := h
    exact hs pre x post e ρ h
  · obtain ⟨rfl, h⟩ := h
    exact hr ρ' h
theorem ex_bind {x : D} {ρ0 ρ1 : Rho} {R : Rho → Prop} (h1 : bindG g x ρ0 = some ρ1) (h2 : R ρ1) : ∃ ρ1, bindG g x ρ0 = some ρ1 ∧ R ρ1 := ⟨_, h1, h2⟩
/-- a loop in the body of a loop that keeps the state -/
theorem ex_forQ {ρ0 ρ1 : Rho} {x : D} {P : Rho → Prop} (h1 : bindG g x ρ0 = some ρ1) (h2 : EvQ ft ss ρ1 σ fun c τ => ∃ ρ2, c = .nx ρ2 ∧ τ = σ ∧ P ρ2) : ∃ ρ1 c, bindG g x ρ0 = some ρ1 ∧ EvC ft ss ρ1 σ c σ ∧ ∃ ρ2, c = .nx ρ2 ∧ P ρ2 := by
  obtain ⟨c, _, h3, ρ2, h4, rfl, h5⟩ := h2
  exact ⟨_, c, h1, h3, ρ2, h4, h5⟩
end
/-- a def's run, told by what holds behind it -/
theorem run_q {ft : Ft} {f : Fn} {ws : List W} {σ : S} {R : W → S → Prop} (h1 : ws.length = f.ps) (h2 : f.ps ≤ f.n) (h3 : f.mutRet = false) (h : EvQ ft f.body (start0 f ws) σ fun c τ => (ctW c).fixed = true ∧ R (ctW c) (τ.take σ.length)) : ∃ w τ, runFn ft f ws σ = .ok w τ ∧ R w τ := by
  obtain ⟨c, σ', h4, h5, h6⟩ := h
  exact ⟨_, _, run_st h1 h2 h3 h4 rfl h5, h6⟩
end Pd
namespace Pd
open PySem
section
variable {ft : Ft} {ρ : Rho} {σ σ' τ ν : S} {ss : Sts} {c : Ct} {Q : Ct → S → Prop}
theorem q_mlst {i : Nat} {es : Es} {xs : List D} (h : Evd ft es ρ σ xs) (hl : xs.length ≤ big) (hs : EvQ ft ss (ρ.set i (some (.mut σ.length))) (σ ++ (false, xs) :: []) Q) : EvQ ft (.cons (.set (.nm i) (.mlst es)) ss) ρ σ Q := by
  obtain ⟨c, σ', h1, h2⟩ := hs
  exact ⟨c, σ', c_mlst h hl h1, h2⟩
theorem q_mcat {i : Nat} {a b : E} {xs ys : List D} (h : Ev ft a ρ σ (.d (.list xs))) (h' : Ev ft b ρ σ (.d (.list ys))) (hl : (xs ++ ys).length ≤ big) (hs : EvQ ft ss (ρ.set i (some (.mut σ.length))) (σ ++ (false, xs ++ ys) :: []) Q) : EvQ ft (.cons (.set (.nm i) (.mcat a b)) ss) ρ σ Q := by
  obtain ⟨c, σ', h1, h2⟩ := hs
  exact ⟨c, σ', c_mcat h h' hl h1, h2⟩
theorem q_app {x : Nat} {e : E} {y : D} {xs : List D} (hx : ρ.at_ x = some (.mut τ.length)) (h : Ev ft e ρ (τ ++ (false, xs) :: ν) (.d y)) (hl : xs.length < big) (hs : EvQ ft ss ρ (τ ++ (false, xs ++ [y]) :: ν) Q) : EvQ ft (.cons (.app x e) ss) ρ (τ ++ (false, xs) :: ν) Q := by
  obtain ⟨c, σ', h1, h2⟩ := hs
  exact ⟨c, σ', c_app hx h hl h1, h2⟩
end
theorem dfnq {fs : List (Option Fn)} {at_ : Nat → M W → M W} {n j ps k : Nat} {b : Sts} {ws : List W} {w : W} (ρ : Rho) (h : fs[j]? = some (some ⟨ps, k, false, b⟩)) (h1 : ws.length = ps) (h2 : ps ≤ k) (hρ : ws.map some ++ List.replicate (k - ws.length) none = ρ)
    (hb : ∀ σ, EvQ ⟨fnT fs at_ n, at_⟩ b ρ σ fun c τ => (ctW c = w ∧ w.fixed = true ∧ τ.take σ.length = σ) ∨ ∃ v xs ν, c = .rt (.mut σ.length) ∧ w = .d (.list xs) ∧ τ = σ ++ (v, xs) :: ν) : fnT fs at_ (n + 1) j ws = pure w := by
  subst hρ
  funext σ
  rw [fnT_at h]
  obtain ⟨c, τ, h3, h4⟩ := hb σ
  rcases h4 with ⟨h4, h5, h6⟩ | ⟨v, xs, ν, rfl, rfl, rfl⟩
  · rw [run_st h1 h2 rfl h3 h4 h5, h6]; rfl
  · exact run_mut h1 h2 rfl h3
end Pd
namespace Pd
open PySem
section
variable {ft : Ft} {ρ : Rho} {σ σ' τ ν : S} {ss : Sts} {Q : Ct → S → Prop}
/-- x = list(a), to be changed later -/
theorem q_mlist {i : Nat} {a : E} {x : D} {xs : List D} (h : Ev ft a ρ σ (.d x)) (hx : x = .tuple xs ∨ x = .list xs) (hl : xs.length ≤ big) (hs : EvQ ft ss (ρ.set i (some (.mut σ.length))) (σ ++ (false, xs) :: []) Q) : EvQ ft (.cons (.set (.nm i) (.mlist a)) ss) ρ σ Q := by
  obtain ⟨c, σ', h1, h2⟩ := hs
  refine ⟨c, σ', cc ?_ h1, h2⟩
  unfold Ev at h
  simp only [evS, evE]
  rw [M.ba, M.ba, h]
  dsimp only
  rcases hx with rfl | rfl
  · rw [look_d, M.pb, seqD_t, M.pb, small_ok hl, M.pb]; rfl
  · rw [look_d, M.pb, seqD_l, M.pb, small_ok hl, M.pb]; rfl
/-- x[i], x[j] = a, b -/
theorem q_put2 {x : Nat} {i j e : E} {l : List D} {a b : D} {i1 j1 : Int} {k1 k2 : Nat} (hx : ρ.at_ x = some (.mut τ.length)) (h : Ev ft e ρ (τ ++ (false, l) :: ν) (.d (.tuple [a, b]))) (hi : Ev ft i ρ (τ ++ (false, l) :: ν) (.d (.int i1))) (p1 : place l.length i1 = some k1)
    (hj : Ev ft j ρ (τ ++ (false, l.set k1 a) :: ν) (.d (.int j1))) (p2 : place (l.set k1 a).length j1 = some k2) (hs : EvQ ft ss ρ (τ ++ (false, (l.set k1 a).set k2 b) :: ν) Q) : EvQ ft (.cons (.put2 x x i j e) ss) ρ (τ ++ (false, l) :: ν) Q := by
  obtain ⟨c, σ', h1, h2⟩ := hs
  refine ⟨c, σ', cc ?_ h1, h2⟩
  unfold Ev at h hi hj
  have put : ∀ (l : List D) (i : Int) (k : Nat) (y : D), place l.length i = some k → putAt (.mut τ.length) i y (τ ++ (false, l) :: ν) = .ok () (τ ++ (false, l.set k y) :: ν) := fun l i k y hk => by
    simp only [putAt, st_get, hk, st_set]
  simp only [evS]
  rw [M.ba, h]
  dsimp only
  rw [toD_d, M.pb]
  dsimp only
  rw [hx, opt_some, M.pb, M.ba, hi]
  dsimp only
  rw [isI_i, M.pb, M.ba, put l i1 k1 a p1]
  dsimp only
  rw [M.pb, M.ba, hj]
  dsimp only
  rw [isI_i, M.pb, M.ba, put _ j1 k2 b p2]
  rfl
theorem bt_tuple_mut {b : Bool} {xs : List D} : Bt (τ ++ (b, xs) :: ν) .tuple [.mut τ.length] (.d (.tuple xs)) := by
  unfold Bt
  show (lookAll [.mut τ.length] >>= fun xs => opt (biD .tuple xs)) _ = _
  have : look (.mut τ.length) (τ ++ (b, xs) :: ν) = .ok (.list xs) (τ ++ (b, xs) :: ν) := by simp only [look, st_get]
  have e2 : lookAll [.mut τ.length] (τ ++ (b, xs) :: ν) = .ok [.list xs] (τ ++ (b, xs) :: ν) := by
    unfold lookAll
    rw [M.ba, this]; rfl
  rw [M.ba, e2]; rfl
theorem place_nat {n k : Nat} (h : k < n) : place n (k : Int) = some k := by
  unfold place
  rw [if_pos (Int.natCast_nonneg k), if_pos (by omega)]; simp
end
end Pd
end

set_option maxHeartbeats 200000
section
/-! Pe5: runs that change the state: what holds behind them. Own work. -/
namespace Pd
open PySem
def Wp {α : Type} (m : M α) (σ : S) (Q : α → S → Prop) : Prop := ∃ a σ', m σ = .ok a σ' ∧ Q a σ'
theorem wp_bind {α β : Type} {m : M α} {f : α → M β} {σ : S} {Q : β → S → Prop} (h : Wp m σ fun a τ => Wp (f a) τ Q) : Wp (m >>= f) σ Q := by
  obtain ⟨a, τ, h1, b, υ, h2, h3⟩ := h
  exact ⟨b, υ, by rw [M.ba, h1]; exact h2, h3⟩
theorem wp_pure {α : Type} {a : α} {σ : S} {Q : α → S → Prop} (h : Q a σ) : Wp (pure a) σ Q := ⟨a, σ, rfl, h⟩
theorem wp_ok {α : Type} {m : M α} {a : α} {σ τ : S} {Q : α → S → Prop} (h : m σ = .ok a τ) (hq : Q a τ) : Wp m σ Q := ⟨a, τ, h, hq⟩
theorem Wp.mono {α : Type} {m : M α} {σ : S} {Q Q' : α → S → Prop} (h : Wp m σ Q) (hq : ∀ a τ, Q a τ → Q' a τ) : Wp m σ Q' := by
  obtain ⟨a, τ, h1, h2⟩ := h
  exact ⟨a, τ, h1, hq a τ h2⟩
@[irreducible] def ExQ (ft : Ft) (e : E) (ρ : Rho) (σ : S) (Q : W → S → Prop) : Prop := Wp (evE ft e ρ) σ Q
@[irreducible] def ExsQ (ft : Ft) (es : Es) (ρ : Rho) (σ : S) (Q : List W → S → Prop) : Prop := Wp (evEs ft es ρ) σ Q
@[irreducible] def ExI {α : Type} (ft : Ft) (it : I) (ρ : Rho) (σ : S) (enc : α → D) (Q : List α → S → Prop) : Prop := Wp (evI ft it ρ) σ fun xs τ => ∃ ys, xs = ys.map enc ∧ Q ys τ
/-- a call -/
@[irreducible] def Cq (m : M W) (σ : S) (Q : W → S → Prop) : Prop := Wp m σ Q
section
variable {ft : Ft} {ρ : Rho} {σ τ ν : S} {a b t e : E} {es : Es} {p : Bool} {Q : W → S → Prop}
theorem ExQ.mono {Q' : W → S → Prop} (h : ExQ ft e ρ σ Q) (hq : ∀ a τ, Q a τ → Q' a τ) : ExQ ft e ρ σ Q' := by unfold ExQ at *; exact h.mono hq
theorem x_pure {w : W} (h : Ev ft e ρ σ w) (hq : Q w σ) : ExQ ft e ρ σ Q := by unfold Ev at h; unfold ExQ; exact ⟨_, _, h, hq⟩
theorem xs_nil {Q : List W → S → Prop} (h : Q [] σ) : ExsQ ft .nil ρ σ Q := by unfold ExsQ; simp only [evEs]; exact wp_pure h
theorem xs_cons {Q : List W → S → Prop} (h : ExQ ft e ρ σ fun w τ => ExsQ ft es ρ τ fun ws υ => Q (w :: ws) υ) : ExsQ ft (.cons e es) ρ σ Q := by
  unfold ExQ at h; unfold ExsQ at *; simp only [evEs]
  refine wp_bind (h.mono fun w τ h => wp_bind (h.mono fun ws υ h => wp_pure h))
theorem xs_pure {ws : List W} {Q : List W → S → Prop} (h : Evs ft es ρ σ ws) (hq : Q ws σ) : ExsQ ft es ρ σ Q := by unfold Evs at h; unfold ExsQ; exact ⟨_, _, h, hq⟩
theorem cq_of {m : M W} {w : W} (h : m σ = .ok w τ) (hq : Q w τ) : Cq m σ Q := by unfold Cq; exact ⟨_, _, h, hq⟩
theorem cq_pure {m : M W} {w : W} (h : m = pure w) (hq : Q w σ) : Cq m σ Q := by subst h; unfold Cq; exact wp_pure hq
theorem Cq.get {m : M W} (h : Cq m σ Q) : ∃ w τ, m σ = .ok w τ ∧ Q w τ := by unfold Cq at h; exact h
theorem x_call {f : Nat} (h : ExsQ ft es ρ σ fun ws τ => Cq (ft.fn f ws) τ Q) : ExQ ft (.call f es) ρ σ Q := by
  unfold Cq at h; unfold ExsQ at h; unfold ExQ; simp only [evE]; exact wp_bind h
theorem x_bi {f : Bi} (h : ExsQ ft es ρ σ fun ws τ => ∃ w, Bt τ f ws w ∧ Q w τ) : ExQ ft (.bi f es) ρ σ Q := by
  unfold ExsQ at h; unfold ExQ; simp only [evE]
  refine wp_bind (h.mono fun ws τ ⟨w, h1, h2⟩ => ?_)
  unfold Bt at h1
  exact ⟨_, _, h1, h2⟩
theorem x_tup (h : ExsQ ft es ρ σ fun ws τ => ∃ xs, ws = ds xs ∧ xs.length ≤ big ∧ Q (.d (.tuple xs)) τ) : ExQ ft (.tup es) ρ σ Q := by
  unfold ExsQ at h; unfold ExQ; simp only [evE]
  refine wp_bind (h.mono fun ws τ ⟨xs, h1, h2, h3⟩ => ?_)
  subst h1
  rw [toDs_ds, M.pb, small_ok h2, M.pb]
  exact wp_pure h3
theorem x_lst (h : ExsQ ft es ρ σ fun ws τ => ∃ xs, ws = ds xs ∧ xs.length ≤ big ∧ Q (.d (.list xs)) τ) : ExQ ft (.lst es) ρ σ Q := by
  unfold ExsQ at h; unfold ExQ; simp only [evE]
  refine wp_bind (h.mono fun ws τ ⟨xs, h1, h2, h3⟩ => ?_)
  subst h1
  rw [toDs_ds, M.pb, small_ok h2, M.pb]
  exact wp_pure h3
theorem x_bin {o : Bop} (h : ExQ ft a ρ σ fun v τ => ExQ ft b ρ τ fun w υ => ∃ x y z, v = .d x ∧ w = .d y ∧ binD o x y = some z ∧ Q (.d z) υ) : ExQ ft (.bin o a b) ρ σ Q := by
  unfold ExQ at *; simp only [evE]
  refine wp_bind (h.mono fun v τ h => wp_bind (h.mono fun w υ ⟨x, y, z, h1, h2, h3, h4⟩ => ?_))
  subst h1 h2
  rw [look_d, M.pb, look_d, M.pb, h3, opt_some, M.pb]
  exact wp_pure h4
theorem x_cmp {o : Cop} (h : ExQ ft a ρ σ fun v τ => ExQ ft b ρ τ fun w υ => ∃ k, Cmp υ o v w k ∧ Q (.d (.bool k)) υ) : ExQ ft (.cmp o a b) ρ σ Q := by
  unfold ExQ at *; simp only [evE]
  refine wp_bind (h.mono fun v τ h => wp_bind (h.mono fun w υ ⟨k, h1, h2⟩ => ?_))
  unfold Cmp at h1
  refine wp_bind ⟨_, _, h1, wp_pure h2⟩
theorem x_ix (h : ExQ ft a ρ σ fun v τ => ExQ ft b ρ τ fun w υ => ∃ z, Ix υ v w z ∧ Q (.d z) υ) : ExQ ft (.ix a b) ρ σ Q := by
  unfold ExQ at *; simp only [evE]
  refine wp_bind (h.mono fun v τ h => wp_bind (h.mono fun w υ ⟨k, h1, h2⟩ => ?_))
  unfold Ix at h1
  refine wp_bind ⟨_, _, h1, wp_pure h2⟩
theorem x_ite (h : ExQ ft t ρ σ fun v τ => ∃ p, v = .d (.bool p) ∧ (p = true → ExQ ft a ρ τ Q) ∧ (p = false → ExQ ft b ρ τ Q)) : ExQ ft (.ite t a b) ρ σ Q := by
  unfold ExQ at *; simp only [evE]
  refine wp_bind (h.mono fun v τ ⟨p, h1, h2, h3⟩ => ?_)
  subst h1
  rw [isB_b, M.pb]
  cases p with
  | true => rw [if_pos rfl]; exact h2 rfl
  | false => rw [if_neg Bool.false_ne_true]; exact h3 rfl
theorem x_and (h : ExQ ft a ρ σ fun v τ => ∃ p, v = .d (.bool p) ∧ (p = true → ExQ ft b ρ τ Q) ∧ (p = false → Q (.d (.bool false)) τ)) : ExQ ft (.and a b) ρ σ Q := by
  unfold ExQ at *; simp only [evE]
  refine wp_bind (h.mono fun v τ ⟨p, h1, h2, h3⟩ => ?_)
  subst h1
  rw [isB_b, M.pb]
  cases p with
  | true => rw [if_pos rfl]; exact h2 rfl
  | false => rw [if_neg Bool.false_ne_true]; exact wp_pure (h3 rfl)
theorem x_or (h : ExQ ft a ρ σ fun v τ => ∃ p, v = .d (.bool p) ∧ (p = false → ExQ ft b ρ τ Q) ∧ (p = true → Q (.d (.bool true)) τ)) : ExQ ft (.or a b) ρ σ Q := by
  unfold ExQ at *; simp only [evE]
  refine wp_bind (h.mono fun v τ ⟨p, h1, h2, h3⟩ => ?_)
  subst h1
  rw [isB_b, M.pb]
  cases p with
  | true => rw [if_pos rfl]; exact wp_pure (h3 rfl)
  | false => rw [if_neg Bool.false_ne_true]; exact h2 rfl
theorem x_not (h : ExQ ft a ρ σ fun v τ => ∃ p, v = .d (.bool p) ∧ Q (.d (.bool (!p))) τ) : ExQ ft (.not a) ρ σ Q := by
  unfold ExQ at *; simp only [evE]
  refine wp_bind (h.mono fun v τ ⟨p, h1, h2⟩ => ?_)
  subst h1
  rw [isB_b, M.pb]
  exact wp_pure h2
/-! what is walked -/
variable {α β : Type} {enc : α → D} {g : G} {it : I} {elt : E} {own : List Nat}
theorem xi_pure {xs : List α} {Q : List α → S → Prop} (h : EvI ft it ρ σ enc xs) (hq : Q xs σ) : ExI ft it ρ σ enc Q := by unfold EvI at h; unfold ExI; exact ⟨_, _, h, _, rfl, hq⟩
theorem xi_range1 {Q : List Nat → S → Prop} (h : ExQ ft a ρ σ fun w τ => ∃ n : Int, w = .d (.int n) ∧ (-(big : Int) ≤ n ∧ n ≤ big) ∧ Q (List.range n.toNat) τ) : ExI ft (.range1 a) ρ σ (fun i : Nat => .int i) Q := by
  unfold ExQ at h; unfold ExI; simp only [evI]
  refine wp_bind (h.mono fun w τ ⟨n, h1, h2, h3⟩ => ?_)
  subst h1
  rw [isI_i, M.pb, if_pos h2]
  exact wp_pure ⟨_, by simp [upTo], h3⟩
theorem xi_range2 {m : Int} {Q : List Nat → S → Prop} (h0 : Ev ft a ρ σ (.d (.int m))) (h : ExQ ft b ρ σ fun w τ => ∃ n : Int, w = .d (.int n) ∧ (-(big : Int) ≤ m ∧ m ≤ big ∧ -(big : Int) ≤ n ∧ n ≤ big) ∧ Q (List.range (n - m).toNat) τ) : ExI ft (.range2 a b) ρ σ (fun i : Nat => .int (m + i)) Q := by
  unfold Ev at h0; unfold ExQ at h; unfold ExI; simp only [evI]
  refine wp_bind ⟨_, _, h0, ?_⟩
  refine wp_bind (h.mono fun w τ ⟨n, h1, h2, h3⟩ => ?_)
  subst h1
  rw [isI_i, M.pb, isI_i, M.pb, if_pos h2]
  exact wp_pure ⟨_, by simp [upTo], h3⟩
/-- a comprehension whose turns change the state: J holds of the state all along, R of what each turn gives -/
theorem x_lc {enc' : β → D} (J : S → Prop) (R : β → Prop) (hi : ExI ft it ρ σ enc fun xs τ => J τ ∧ Sm xs ∧ (∀ x ∈ xs, ∀ τ, J τ → ∃ ρ1, bindG g (enc x) (wipeR ρ own) = some ρ1 ∧ ExQ ft elt ρ1 τ fun w υ => J υ ∧ ∃ y, w = .d (enc' y) ∧ R y) ∧
      ∀ (ys : List β) υ, J υ → ys.length = xs.length → (∀ y ∈ ys, R y) → Q (.d (.list (ys.map enc'))) υ) : ExQ ft (.lc g it .nil elt own) ρ σ Q := by
  unfold ExI at hi; unfold ExQ; simp only [evE]
  refine wp_bind (hi.mono fun zs τ ⟨xs, h0, hJ, hl, hs, hq⟩ => ?_)
  subst h0
  have run : ∀ (l : List α) (τ : S), (∀ x ∈ l, x ∈ xs) → J τ → ∃ (ys : List β) (υ : S), lcI (fun x => do
      let ρ1 ← opt (bindG g x (wipeR ρ own))
      let c ← evIfs ft .nil ρ1
      if c then do let w ← evE ft elt ρ1; let y ← toD w; pure (some y) else pure none) (l.map enc) τ = .ok (ys.map enc') υ ∧ J υ ∧ ys.length = l.length ∧ ∀ y ∈ ys, R y := fun l => by
    induction l with
    | nil => intro τ _ hJ; exact ⟨[], τ, rfl, hJ, rfl, fun _ h => nomatch h⟩
    | cons x l ih =>
      intro τ hm hJ
      obtain ⟨ρ1, h1, h2⟩ := hs x (hm x List.mem_cons_self) τ hJ
      unfold ExQ at h2
      obtain ⟨_, υ, h2, h3, y, rfl, h4⟩ := h2
      obtain ⟨ys, φ, h5, h6, h7, h8⟩ := ih υ (fun z hz => hm z (List.mem_cons_of_mem _ hz)) h3
      refine ⟨y :: ys, φ, ?_, h6, by rw [List.length_cons, List.length_cons, h7], fun z hz => ?_⟩
      · rw [List.map_cons, List.map_cons]
        unfold lcI
        rw [M.ba]
        have : (do
          let ρ1 ← opt (bindG g (enc x) (wipeR ρ own))
          let c ← evIfs ft .nil ρ1
          if c then do let w ← evE ft elt ρ1; let y ← toD w; pure (some y) else pure none) τ = .ok (some (enc' y)) υ := by
          rw [h1]
          simp only [opt_some, M.pb, evIfs, if_true]
          rw [M.ba, h2]; rfl
        rw [this]
        dsimp only
        rw [M.ba, h5]; rfl
      · rcases List.mem_cons.mp hz with e | e
        · rw [e]; exact h4
        · exact h8 z e
  obtain ⟨ys, υ, h5, h6, h7, h8⟩ := run xs τ (fun _ h => h) hJ
  refine wp_bind ⟨_, _, enox_ok' h5, ?_⟩
  have hl' : (ys.map enc').length ≤ big := by rw [List.length_map, h7]; exact hl
  dsimp only
  rw [small_ok hl', M.pb]
  exact wp_pure (hq ys υ h6 h7 h8)
where
  enox_ok' {γ : Type} {m : M γ} {a : γ} {σ τ : S} (h : m σ = .ok a τ) : nox m σ = .ok a τ := by unfold nox; rw [h]
end
/-! ### statements -/
section
variable {ft : Ft} {ρ : Rho} {σ τ ν : S} {a b t e : E} {es : Es} {ss s1 s2 : Sts} {p : Bool} {Q : Ct → S → Prop}
theorem EvQ.mono {Q' : Ct → S → Prop} (h : EvQ ft ss ρ σ Q) (hq : ∀ c τ, Q c τ → Q' c τ) : EvQ ft ss ρ σ Q' := by
  obtain ⟨c, τ, h1, h2⟩ := h
  exact ⟨c, τ, h1, hq c τ h2⟩
theorem qx_set {i : Nat} (h : ExQ ft a ρ σ fun w τ => EvQ ft ss (ρ.set i (some w)) τ Q) : EvQ ft (.cons (.set (.nm i) a) ss) ρ σ Q := by
  unfold ExQ at h
  obtain ⟨w, τ, h1, c, υ, h2, h3⟩ := h
  refine ⟨c, υ, cc (ρ1 := ρ.set i (some w)) (σ1 := τ) ?_ h2, h3⟩
  simp only [evS]
  rw [M.ba, h1]; rfl
theorem qx_setT {gs : Gs} (h : ExQ ft a ρ σ fun w τ => ∃ x ρ', w = .d x ∧ bindG (.tup gs) x ρ = some ρ' ∧ EvQ ft ss ρ' τ Q) : EvQ ft (.cons (.set (.tup gs) a) ss) ρ σ Q := by
  unfold ExQ at h
  obtain ⟨_, τ, h1, x, ρ', rfl, hb, c, υ, h2, h3⟩ := h
  refine ⟨c, υ, cc (ρ1 := ρ') (σ1 := τ) ?_ h2, h3⟩
  simp only [evS]
  rw [M.ba, h1]
  dsimp only [bindW]
  rw [toD_d, M.pb, hb]; rfl
theorem qx_par {is : List Nat} (h : ExsQ ft es ρ σ fun ws τ => ∃ ρ', setAll is ws ρ = some ρ' ∧ EvQ ft ss ρ' τ Q) : EvQ ft (.cons (.par is es) ss) ρ σ Q := by
  unfold ExsQ at h
  obtain ⟨_, τ, h1, ρ', hb, c, υ, h2, h3⟩ := h
  refine ⟨c, υ, cc (ρ1 := ρ') (σ1 := τ) ?_ h2, h3⟩
  simp only [evS]
  rw [M.ba, h1]
  dsimp only
  rw [hb]; rfl
theorem qx_ret (h : ExQ ft a ρ σ fun w τ => Q (.rt w) τ) : EvQ ft (.cons (.ret a) ss) ρ σ Q := by
  unfold ExQ at h
  obtain ⟨w, τ, h1, h2⟩ := h
  refine ⟨.rt w, τ, ?_, h2⟩
  unfold EvC
  rw [evSs_cons, M.ba]
  simp only [evS]
  rw [M.ba, h1]; rfl
theorem qx_ex (h : ExQ ft a ρ σ fun w τ => EvQ ft ss ρ τ Q) : EvQ ft (.cons (.ex a) ss) ρ σ Q := by
  unfold ExQ at h
  obtain ⟨w, τ, h1, c, υ, h2, h3⟩ := h
  refine ⟨c, υ, cc (ρ1 := ρ) (σ1 := τ) ?_ h2, h3⟩
  simp only [evS]
  rw [M.ba, h1]; rfl
theorem qx_ite (h : ExQ ft t ρ σ fun v τ => ∃ p, v = .d (.bool p) ∧ (p = true → EvQ ft (s1.app ss) ρ τ Q) ∧ (p = false → EvQ ft (s2.app ss) ρ τ Q)) : EvQ ft (.cons (.ite t s1 s2) ss) ρ σ Q := by
  unfold ExQ at h
  obtain ⟨_, τ, h1, p, rfl, h2, h3⟩ := h
  have go : ∀ r : Sts, (if p then s1 else s2) = r → EvQ ft (r.app ss) ρ τ Q → EvQ ft (.cons (.ite t s1 s2) ss) ρ σ Q := fun r hr hq => by
    obtain ⟨c, υ, h4, h5⟩ := hq
    refine ⟨c, υ, ?_, h5⟩
    unfold EvC at *
    rw [evSs_app] at h4
    rw [evSs_cons, M.ba]
    simp only [evS]
    rw [M.ba, h1]
    dsimp only
    rw [isB_b, M.pb]
    cases p with
    | true => rw [if_pos rfl] at hr ⊢; rw [hr]; exact h4
    | false => rw [if_neg Bool.false_ne_true] at hr ⊢; rw [hr]; exact h4
  cases p with
  | true => exact go s1 rfl (h2 rfl)
  | false => exact go s2 rfl (h3 rfl)
/-- a list that stands first, and may be changed -/
theorem ix_cup {v : Bool} {xs : List D} {i : Int} {z : D} (h : atD xs i = some z) : Ix ((v, xs) :: ν) (.mut 0) (.d (.int i)) z := ix_mut (τ := []) h
theorem q_put0 {x : Nat} {i : E} {xs : List D} {y : D} {j : Int} {k : Nat} (hx : ρ.at_ x = some (.mut 0)) (h : Ev ft e ρ ((false, xs) :: ν) (.d y)) (hi : Ev ft i ρ ((false, xs) :: ν) (.d (.int j))) (hj : place xs.length j = some k)
    (hs : EvQ ft ss ρ ((false, xs.set k y) :: ν) Q) : EvQ ft (.cons (.put x i e) ss) ρ ((false, xs) :: ν) Q := by
  obtain ⟨c, υ, h2, h3⟩ := hs
  refine ⟨c, υ, cc (ρ1 := ρ) (σ1 := (false, xs.set k y) :: ν) ?_ h2, h3⟩
  unfold Ev at h hi
  simp only [evS]
  rw [M.ba, h]
  dsimp only
  rw [toD_d, M.pb, hx, opt_some, M.pb, M.ba, hi]
  dsimp only
  rw [isI_i, M.pb, M.ba]
  have : putAt (.mut 0) j y ((false, xs) :: ν) = .ok () ((false, xs.set k y) :: ν) := by
    simp only [putAt, List.getElem?_cons_zero, hj, List.set_cons_zero]
  rw [this]; rfl
variable {α : Type} {enc : α → D} {g : G} {it : I} {b : Sts}
/-- a loop whose walk and turns may change the state -/
theorem qx_for (P : List α → Rho → S → Prop) (hi : ExI ft it ρ σ enc fun xs τ => P [] ρ τ ∧ (∀ pre x post, xs = pre ++ x :: post → ∀ ρ τ, P pre ρ τ → ∃ ρ1, bindG g (enc x) ρ = some ρ1 ∧ EvQ ft b ρ1 τ fun c υ => ∃ ρ2, c = .nx ρ2 ∧ P (pre ++ [x]) ρ2 υ) ∧
      ∀ ρ' υ, P xs ρ' υ → EvQ ft ss ρ' υ Q) : EvQ ft (.cons (.for g it b) ss) ρ σ Q := by
  unfold ExI at hi
  obtain ⟨_, τ, h1, xs, rfl, h0, hs, hr⟩ := hi
  have run : ∀ post pre ρ σ, xs = pre ++ post → P pre ρ σ → ∃ ρ2 σ2, forI g (fun ρ => evSs ft b ρ) (post.map enc) ρ σ = .ok (.nx ρ2) σ2 ∧ P xs ρ2 σ2 := fun post => by
    induction post with
    | nil =>
      intro pre ρ σ e h
      rw [List.append_nil] at e
      subst e
      exact ⟨ρ, σ, rfl, h⟩
    | cons x post ih =>
      intro pre ρ σ e h
      obtain ⟨ρ1, h1, _, σ2, h2, ρ2, rfl, h3⟩ := hs pre x post e ρ σ h
      obtain ⟨ρ3, σ3, h4, h5⟩ := ih (pre ++ [x]) ρ2 σ2 (by rw [e]; simp) h3
      refine ⟨ρ3, σ3, ?_, h5⟩
      unfold EvC at h2
      rw [List.map_cons]
      unfold forI
      rw [h1, opt_some, M.pb, M.ba, h2]
      exact h4
  obtain ⟨ρ2, σ2, h2, h3⟩ := run xs [] ρ τ rfl h0
  obtain ⟨c, υ, h4, h5⟩ := hr ρ2 σ2 h3
  refine ⟨c, υ, cc (ρ1 := ρ2) (σ1 := σ2) ?_ h4, h5⟩
  simp only [evS]
  rw [M.ba, h1]
  exact h2
end
/-- a def's run -/
theorem dfnx {fs : List (Option Fn)} {at_ : Nat → M W → M W} {n j ps k : Nat} {b : Sts} {ws : List W} {σ : S} {Q : W → S → Prop} (ρ : Rho) (h : fs[j]? = some (some ⟨ps, k, false, b⟩)) (h1 : ws.length = ps) (h2 : ps ≤ k) (hρ : ws.map some ++ List.replicate (k - ws.length) none = ρ)
    (hb : EvQ ⟨fnT fs at_ n, at_⟩ b ρ σ fun c τ => (ctW c).fixed = true ∧ Q (ctW c) (τ.take σ.length)) : Cq (fnT fs at_ (n + 1) j ws) σ Q := by
  subst hρ
  rw [fnT_at h]
  obtain ⟨w, τ, h3, h4⟩ := run_q (ws := ws) (f := ⟨ps, k, false, b⟩) h1 h2 rfl hb
  exact cq_of h3 h4
end Pd
namespace Pd
open PySem
theorem bin_mod_i {i j : Int} (h : j ≠ 0) : binD .mod (.int i) (.int j) = some (.int (i.fmod j)) := if_pos h
theorem bin_fdiv_i {i j : Int} (h : j ≠ 0 ∧ j.natAbs < 1073741824) : binD .fdiv (.int i) (.int j) = some (.int (i.fdiv j)) := if_pos h
/-- what is rolled from, first among the lists that may change -/
def Cup (r σ : S) : Prop := ∃ a b : Int, 0 ≤ a ∧ 0 ≤ b ∧ b < 4294967296 ∧ σ = (false, [.int a, .int b]) :: r
end Pd
namespace Pd
open PySem
theorem x_mlst {ft : Ft} {ρ : Rho} {σ : S} {es : Es} {xs : List D} {Q : W → S → Prop} (h : Evd ft es ρ σ xs) (hl : xs.length ≤ big) (hq : Q (.mut σ.length) (σ ++ (false, xs) :: [])) : ExQ ft (.mlst es) ρ σ Q := by
  unfold Evd at h; unfold ExQ; simp only [evE]
  refine wp_bind ⟨_, _, h, ?_⟩
  dsimp only
  rw [toDs_ds, M.pb, small_ok hl, M.pb]
  exact ⟨_, _, rfl, hq⟩
/-- a def that hands back a list that may change -/
theorem dfnc {fs : List (Option Fn)} {at_ : Nat → M W → M W} {n j ps k : Nat} {b : Sts} {ws : List W} {σ : S} {Q : W → S → Prop} (ρ : Rho) (h : fs[j]? = some (some ⟨ps, k, true, b⟩)) (h1 : ws.length = ps) (h2 : ps ≤ k) (hρ : ws.map some ++ List.replicate (k - ws.length) none = ρ)
    (hb : EvQ ⟨fnT fs at_ n, at_⟩ b ρ σ fun c τ => ∃ w, c = .rt w ∧ Q w τ) : Cq (fnT fs at_ (n + 1) j ws) σ Q := by
  subst hρ
  rw [fnT_at h]
  obtain ⟨_, τ, h3, w, rfl, h4⟩ := hb
  refine cq_of (w := w) (τ := τ) ?_ h4
  unfold EvC at h3
  unfold runFn
  rw [if_pos ⟨h1, h2⟩, M.ba]
  have : start0 ⟨ps, k, true, b⟩ ws = ws.map some ++ List.replicate (k - ws.length) none := rfl
  rw [this, h3]; rfl
theorem bt_list_scr {σ : S} (ns : List Int) : Bt σ .list [.scr ns] (.d (.list (ns.map .int))) := by unfold Bt; rfl
theorem bin_pow_i {i j : Int} (h : 0 ≤ j ∧ j ≤ 1000000 ∧ i.natAbs < 2 ^ 64) : binD .pow (.int i) (.int j) = some (.int (i ^ j.toNat)) := if_pos h
end Pd
end

set_option maxHeartbeats 200000
section
/-! Nt1: rows, tables, stores, news in plain words. Own work. -/
namespace Nt
open PySem Pd
abbrev Row := List Int
abbrev Tab := Int × List Row
abbrev Stor := List (Str × Tab)
abbrev encRs (rs : List Row) : D := .tuple (rs.map encR)
abbrev encT (t : Tab) : D := .tuple [.int t.1, encRs t.2]
abbrev encP (p : Str × Tab) : D := .tuple [.str p.1, encT p.2]
abbrev encS (s : Stor) : D := .tuple (s.map encP)
theorem eR : Enc encR 1 := encI.tup
theorem eRs : Enc encRs 2 := eR.tup
theorem eT : Enc encT 3 := encI.pair eRs
theorem eP : Enc encP 4 := encStr.pair eT
theorem eS : Enc encS 5 := eP.tup
def rowB (c : Int) (r : Row) : Bool := decide (c = r.length) && r.all fun i => decide (-6 ≤ i) && decide (i ≤ 1000000)
def ascB (l : List Row) : Bool := (l.zip (l.drop 1)).all fun p => decide (p.1 < p.2)
def tabB (t : Tab) : Bool := (decide (0 ≤ t.1) && decide (t.1 ≤ 6)) && (decide (t.2.length ≤ 40) && (t.2.all (rowB t.1) && ascB t.2))
def rowsN (s : Stor) : Nat := (s.map fun p => p.2.2.length).sum
def Asc (l : List Row) : Prop := l.Pairwise fun a b => ltR a b = true
/-- the letters that the laws' stores have -/
def letsOk (l : List Str) : Prop := l = (["r"] : List Str) ∨ l = (["s"] : List Str) ∨ l = (["r", "s"] : List Str) ∨ l = (["r", "s", "t"] : List Str)
/-- a row of c cells -/
def RowV (c : Int) (r : Row) : Prop := (r.length : Int) = c ∧ ∀ i ∈ r, -6 ≤ i ∧ i ≤ 1000000
structure Valid (s : Stor) : Prop where
  lets : letsOk (s.map (·.1))
  col : ∀ p ∈ s, 0 ≤ p.2.1 ∧ p.2.1 ≤ 6
  row : ∀ p ∈ s, ∀ r ∈ p.2.2, RowV p.2.1 r
  asc : ∀ p ∈ s, Asc p.2.2
  many : rowsN s ≤ 40
theorem rowB_iff {c : Int} {r : Row} : rowB c r = true ↔ RowV c r := by
  unfold rowB RowV
  simp only [Bool.and_eq_true, decide_eq_true_eq, List.all_eq_true]
  exact and_congr eq_comm Iff.rfl
theorem rowsN_le {s : Stor} {p : Str × Tab} (h : p ∈ s) : p.2.2.length ≤ rowsN s := by
  induction s with
  | nil => cases h
  | cons q l ih =>
    show _ ≤ ((q :: l).map fun p => p.2.2.length).sum
    rw [List.map_cons, List.sum_cons]
    rcases List.mem_cons.mp h with e | e
    · subst e; exact Nat.le_add_right _ _
    · exact Nat.le_trans (ih e) (Nat.le_add_left _ _)
theorem ascB_iff : ∀ {l : List Row}, ascB l = true ↔ Asc l
  | [] => by simp [ascB, Asc]
  | [_] => by simp [ascB, Asc]
  | x :: y :: l => by
    have ih := ascB_iff (l := y :: l)
    unfold ascB Asc at ih ⊢
    simp only [List.drop_succ_cons, List.drop_zero, List.zip_cons_cons, List.all_cons, Bool.and_eq_true, decide_eq_true_eq] at ih ⊢
    rw [ih]
    refine ⟨fun ⟨h1, h2⟩ => List.pairwise_cons.mpr ⟨fun z hz => ?_, h2⟩, fun h => ?_⟩
    · rcases List.mem_cons.mp hz with e | e
      · rw [e]; exact decide_eq_true h1
      · exact totR.trans _ _ _ (decide_eq_true h1) ((List.pairwise_cons.mp h2).1 z e)
    · obtain ⟨h1, h2⟩ := List.pairwise_cons.mp h
      exact ⟨of_decide_eq_true (h1 y List.mem_cons_self), h2⟩
theorem asc_nodup {l : List Row} (h : Asc l) : l.Nodup := h.imp fun hab e => by subst e; rw [totR.irrefl] at hab; cases hab
theorem Valid.len {s : Stor} (v : Valid s) : s.length ≤ 3 := by
  have h : s.length = (s.map (·.1)).length := (List.length_map _).symm
  rcases v.lets with e | e | e | e <;> rw [h, e] <;> decide
theorem Valid.tab {s : Stor} (v : Valid s) {p : Str × Tab} (h : p ∈ s) : tabB p.2 = true := by
  obtain ⟨c1, c2⟩ := v.col p h
  have hl := Nat.le_trans (rowsN_le h) v.many
  unfold tabB
  simp only [Bool.and_eq_true, decide_eq_true_eq, List.all_eq_true]
  exact ⟨⟨c1, c2⟩, hl, fun r hr => rowB_iff.mpr (v.row p h r hr), ascB_iff.mpr (v.asc p h)⟩
theorem Valid.nodup {s : Stor} (v : Valid s) : (s.map (·.1)).Nodup := by
  rcases v.lets with e | e | e | e <;> rw [e] <;> decide
theorem Valid.rows40 {s : Stor} (v : Valid s) {p : Str × Tab} (h : p ∈ s) : p.2.2.length ≤ 40 := Nat.le_trans (rowsN_le h) v.many
theorem Valid.len6 {s : Stor} (v : Valid s) {p : Str × Tab} (h : p ∈ s) {r : Row} (hr : r ∈ p.2.2) : r.length ≤ 6 := by
  have h1 := (v.row p h r hr).1
  have h2 := (v.col p h).2
  omega
theorem Valid.smS {s : Stor} (v : Valid s) : Sm s := Sm.of v.len
theorem Valid.smT {s : Stor} (v : Valid s) {p : Str × Tab} (h : p ∈ s) : Sm p.2.2 := Sm.of (v.rows40 h)
theorem Valid.smR {s : Stor} (v : Valid s) {p : Str × Tab} (h : p ∈ s) {r : Row} (hr : r ∈ p.2.2) : Sm r := Sm.of (v.len6 h hr)
/-! ### cells, unknowns, fillings -/
def cellsN (s : Stor) : List Int := s.flatMap fun p => p.2.2.flatMap fun r => r
def unkN (s : Stor) : List Int := (ssort ltI (cellsN s)).filter fun i => decide (i < 0)
def rowN (kvs : List (Int × Int)) (r : Row) : Row := r.map fun c => (lookN kvs c).getD c
def fillN (s : Stor) (kvs : List (Int × Int)) : Stor := s.map fun p => (p.1, p.2.1, ssort ltR (p.2.2.map (rowN kvs)))
theorem mem_cells {s : Stor} {i : Int} : i ∈ cellsN s ↔ ∃ p ∈ s, ∃ r ∈ p.2.2, i ∈ r := by
  unfold cellsN
  simp only [List.mem_flatMap]
theorem mem_unk {s : Stor} {i : Int} : i ∈ unkN s ↔ i < 0 ∧ i ∈ cellsN s := by
  unfold unkN
  rw [List.mem_filter, mem_ssort, decide_eq_true_eq]
  exact and_comm
theorem flat_le {α β : Type} (g : α → List β) {k : Nat} : ∀ {l : List α}, (∀ x ∈ l, (g x).length ≤ k) → (l.flatMap g).length ≤ l.length * k
  | [], _ => by simp
  | x :: l, h => by
    rw [List.flatMap_cons, List.length_append, List.length_cons, Nat.succ_mul]
    have h1 := h x List.mem_cons_self
    have h2 := flat_le g (l := l) fun y hy => h y (List.mem_cons_of_mem _ hy)
    omega
theorem Valid.cellsT {s : Stor} (v : Valid s) {p : Str × Tab} (h : p ∈ s) : (p.2.2.flatMap fun r => r).length ≤ 240 := by
  have h1 := flat_le (fun r : Row => r) (k := 6) (l := p.2.2) fun r hr => v.len6 h hr
  have h2 := v.rows40 h
  exact Nat.le_trans h1 (by omega)
theorem Valid.cells {s : Stor} (v : Valid s) : (cellsN s).length ≤ 720 := by
  have h1 := flat_le (fun p : Str × Tab => p.2.2.flatMap fun r => r) (k := 240) (l := s) fun p hp => v.cellsT hp
  have h2 := v.len
  unfold cellsN
  exact Nat.le_trans h1 (by omega)
theorem rowN_len (kvs : List (Int × Int)) (r : Row) : (rowN kvs r).length = r.length := List.length_map _
/-- rows of one length, each once: they can be sorted -/
theorem rowsOk_len {l : List Row} {c : Nat} (hn : l.Nodup) (h : ∀ r ∈ l, r.length = c) : rowsOk l := by
  by_cases hc : c = 0
  · left
    match l, hn, h with
    | [], _, _ => exact Nat.zero_le _
    | [_], _, _ => exact Nat.le_refl _
    | x :: y :: l, hn, h =>
      have h1 := h x (by simp)
      have h2 := h y (by simp)
      rw [hc] at h1 h2
      rw [List.length_eq_zero_iff] at h1 h2
      subst h1 h2
      simp at hn
  · right
    intro r hr e
    have := h r hr
    rw [e] at this
    exact hc this.symm
theorem rowsOk_once_len {l : List Row} {c : Nat} (h : ∀ r ∈ l, r.length = c) : rowsOk (once [] l) := rowsOk_len nodup_once fun r hr => h r (mem_once.mp hr).1
theorem Valid.fillLen {s : Stor} (v : Valid s) {p : Str × Tab} (hp : p ∈ s) (kvs : List (Int × Int)) : ∀ r ∈ p.2.2.map (rowN kvs), r.length = p.2.1.toNat := fun r hr => by
  obtain ⟨q, hq, rfl⟩ := List.mem_map.mp hr
  rw [rowN_len]
  have := (v.row p hp q hq).1
  omega
theorem Valid.isL {s : Stor} (v : Valid s) {p : Str × Tab} (h : p ∈ s) : p.1 = "r" ∨ p.1 = "s" ∨ p.1 = "t" := by
  have hm : p.1 ∈ s.map (·.1) := List.mem_map.mpr ⟨p, h, rfl⟩
  rcases v.lets with e | e | e | e <;> rw [e] at hm <;> simp at hm <;> grind
/-! ### news -/
inductive News where
  | told (u v : Int)
  | same (u v : Int)
  | comes (l : Str) (r : Row)
  | goes (l : Str) (r : Row)
  deriving DecidableEq
abbrev encN : News → D
  | .told u v => .tuple [.str "told", .int u, .int v]
  | .same u v => .tuple [.str "same", .int u, .int v]
  | .comes l r => .tuple [.str "comes", .str l, encR r]
  | .goes l r => .tuple [.str "goes", .str l, encR r]
def tabOf (s : Stor) (l : Str) : Tab := (lookN s l).getD (0, [])
def behN (s : Stor) : News → Stor
  | .told u v => fillN s [(u, v)]
  | .same u v => fillN s [(u, v)]
  | .comes l r => s.map fun p => if p.1 = l then (p.1, p.2.1, sortN ltR (p.2.2 ++ [r])) else p
  | .goes l r => s.map fun p => if p.1 = l then (p.1, p.2.1, p.2.2.filter fun x => !eqB x r) else p
def letIn (s : Stor) (l : Str) : Bool := memB l (s.map (·.1))
def newsB (s : Stor) : News → Bool
  | .told u v => memB u (unkN s) && (decide (0 ≤ v) && decide (v ≤ 1000000))
  | .same u v => memB u (unkN s) && (memB v (unkN s) && !eqB u v)
  | .comes l r => letIn s l && ((rowB (tabOf s l).1 r && !memB r (tabOf s l).2) && decide ((rowsN s : Int) < 40))
  | .goes l r => letIn s l && (rowB (tabOf s l).1 r && memB r (tabOf s l).2)
/-- a row in the news is short -/
def News.sm : News → Prop
  | .comes _ r => Sm r
  | .goes _ r => Sm r
  | _ => True
theorem tabOf_mem {s : Stor} (v : Valid s) {p : Str × Tab} (h : p ∈ s) : tabOf s p.1 = p.2 := by
  unfold tabOf; rw [lookN_mem v.nodup h]; rfl
theorem letIn_iff {s : Stor} {l : Str} : letIn s l = true ↔ ∃ p ∈ s, p.1 = l := by
  unfold letIn; rw [memB_iff, List.mem_map]
theorem lookN_let {s : Stor} (v : Valid s) {l : Str} (h : letIn s l = true) : lookN s l = some (tabOf s l) := by
  obtain ⟨p, hp, rfl⟩ := letIn_iff.mp h
  rw [tabOf_mem v hp, lookN_mem v.nodup hp]
theorem behN_len (s : Stor) (x : News) : (behN s x).length = s.length := by cases x <;> simp [behN, fillN]
theorem behN_big {s pre post : Stor} {p : Str × Tab} (v : Valid s) (e : s = pre ++ p :: post) (x : News) : ((behN pre x).map encP).length + 1 ≤ big := by
  rw [List.length_map, behN_len]
  have h1 := pre_len e
  have h2 := v.len
  exact Nat.le_trans (m := 10) (by omega) (by decide)
theorem comes_iff {s : Stor} (v : Valid s) {p : Str × Tab} (hp : p ∈ s) {r : Row} (h : newsB s (.comes p.1 r) = true) : RowV p.2.1 r ∧ r ∉ p.2.2 ∧ rowsN s < 40 := by
  unfold newsB at h
  dsimp only at h
  rw [tabOf_mem v hp] at h
  simp only [Bool.and_eq_true, Bool.not_eq_true', decide_eq_true_eq, rowB_iff] at h
  refine ⟨h.2.1.1, fun hm => ?_, by omega⟩
  have := memB_iff.mpr hm
  rw [h.2.1.2] at this; cases this
theorem comes_ok {s : Stor} (v : Valid s) {p : Str × Tab} (hp : p ∈ s) {r : Row} (h : newsB s (.comes p.1 r) = true) : rowsOk (p.2.2 ++ [r]) := by
  obtain ⟨h1, h2, h3⟩ := comes_iff v hp h
  refine rowsOk_len (c := p.2.1.toNat) ?_ fun q hq => ?_
  · refine List.nodup_append.mpr ⟨asc_nodup (v.asc p hp), by simp, fun a ha b hb e => ?_⟩
    rw [List.mem_singleton] at hb
    rw [e, hb] at ha
    exact h2 ha
  · rcases List.mem_append.mp hq with hq | hq
    · have := (v.row p hp q hq).1; omega
    · rw [List.mem_singleton.mp hq]; have := h1.1; omega
end Nt
end

set_option maxHeartbeats 200000
section
/-! Nt2: what a store becomes is a store. Own work. -/
namespace Nt
open PySem Pd
theorem rowsN_le_of {s t : Stor} (f : Str × Tab → Str × Tab) (e : t = s.map f) (h : ∀ p ∈ s, (f p).2.2.length ≤ p.2.2.length) : rowsN t ≤ rowsN s := by
  subst e
  unfold rowsN
  induction s with
  | nil => exact Nat.le_refl _
  | cons p s ih =>
    have h1 := h p List.mem_cons_self
    have h2 := ih fun q hq => h q (List.mem_cons_of_mem _ hq)
    simp only [List.map_cons, List.sum_cons] at h2 ⊢
    omega
theorem valid_map {s : Stor} (v : Valid s) (f : Str × Tab → Str × Tab) (h1 : ∀ p ∈ s, (f p).1 = p.1) (h2 : ∀ p ∈ s, (f p).2.1 = p.2.1) (h3 : ∀ p ∈ s, ∀ r ∈ (f p).2.2, RowV p.2.1 r) (h4 : ∀ p ∈ s, Asc (f p).2.2) (h5 : rowsN (s.map f) ≤ 40) : Valid (s.map f) where
  lets := by
    have e : (s.map f).map (·.1) = s.map (·.1) := by
      rw [List.map_map]; exact List.map_congr_left h1
    rw [e]; exact v.lets
  col := fun p hp => by
    obtain ⟨q, hq, rfl⟩ := List.mem_map.mp hp
    rw [h2 q hq]; exact v.col q hq
  row := fun p hp r hr => by
    obtain ⟨q, hq, rfl⟩ := List.mem_map.mp hp
    rw [h2 q hq]; exact h3 q hq r hr
  asc := fun p hp => by
    obtain ⟨q, hq, rfl⟩ := List.mem_map.mp hp
    exact h4 q hq
  many := h5
theorem mem_rowN {kvs : List (Int × Int)} {r : Row} {i : Int} (h : i ∈ rowN kvs r) : ∃ c ∈ r, i = (lookN kvs c).getD c := by
  obtain ⟨c, hc, rfl⟩ := List.mem_map.mp h
  exact ⟨c, hc, rfl⟩
theorem lookN_val {kvs : List (Int × Int)} {c v : Int} (h : lookN kvs c = some v) : ∃ p ∈ kvs, p.2 = v := by
  unfold lookN at h
  rw [Option.map_eq_some_iff] at h
  obtain ⟨p, hp, rfl⟩ := h
  exact ⟨p, List.mem_of_find?_eq_some hp, rfl⟩
theorem valid_fill {s : Stor} (v : Valid s) {kvs : List (Int × Int)} (h : ∀ p ∈ kvs, -6 ≤ p.2 ∧ p.2 ≤ 1000000) : Valid (fillN s kvs) := by
  refine valid_map v (fun p => (p.1, p.2.1, ssort ltR (p.2.2.map (rowN kvs)))) (fun _ _ => rfl) (fun _ _ => rfl) (fun p hp r hr => ?_) (fun p _ => ssort_asc totR _) ?_
  · obtain ⟨q, hq, rfl⟩ := List.mem_map.mp (mem_ssort.mp hr)
    obtain ⟨l, c⟩ := v.row p hp q hq
    refine ⟨by rw [rowN_len]; exact l, fun i hi => ?_⟩
    obtain ⟨c', hc', rfl⟩ := mem_rowN hi
    cases e : lookN kvs c' with
    | none => exact c c' hc'
    | some w =>
      obtain ⟨p', hp', rfl⟩ := lookN_val e
      exact h p' hp'
  · refine Nat.le_trans (rowsN_le_of _ rfl fun p _ => ?_) v.many
    exact Nat.le_trans (ssort_length _) (by rw [List.length_map]; exact Nat.le_refl _)
theorem unk_range {s : Stor} (v : Valid s) {i : Int} (h : i ∈ unkN s) : -6 ≤ i ∧ i < 0 := by
  obtain ⟨h1, h2⟩ := mem_unk.mp h
  obtain ⟨p, hp, r, hr, hi⟩ := mem_cells.mp h2
  exact ⟨((v.row p hp r hr).2 i hi).1, h1⟩
theorem rowsN_comes {s : Stor} (hn : (s.map (·.1)).Nodup) (l : Str) (r : Row) : rowsN (behN s (.comes l r)) ≤ rowsN s + 1 := by
  unfold behN rowsN
  dsimp only
  induction s with
  | nil => exact Nat.zero_le _
  | cons p s ih =>
    rw [List.map_cons] at hn
    obtain ⟨h1, h2⟩ := List.nodup_cons.mp hn
    have ih := ih h2
    simp only [List.map_cons, List.sum_cons]
    by_cases e : p.1 = l
    · have e2 : (s.map fun q => if q.1 = l then (q.1, q.2.1, sortN ltR (q.2.2 ++ [r])) else q) = s := by
        conv => rhs; rw [← List.map_id s]
        refine List.map_congr_left fun q hq => ?_
        have ne : ¬ q.1 = l := fun z => h1 (by rw [e, ← z]; exact List.mem_map.mpr ⟨q, hq, rfl⟩)
        rw [if_neg ne]; rfl
      rw [e2, if_pos e]
      dsimp only
      rw [sortN_length, List.length_append, List.length_singleton]
      omega
    · rw [if_neg e]
      omega
theorem valid_beh {s : Stor} (v : Valid s) {x : News} (h : newsB s x = true) : Valid (behN s x) := by
  cases x with
  | told u w =>
    unfold newsB at h
    simp only [Bool.and_eq_true, decide_eq_true_eq] at h
    refine valid_fill v fun p hp => ?_
    rw [List.mem_singleton.mp hp]
    dsimp only
    omega
  | same u w =>
    unfold newsB at h
    simp only [Bool.and_eq_true, memB_iff] at h
    refine valid_fill v fun p hp => ?_
    rw [List.mem_singleton.mp hp]
    have := unk_range v h.2.1
    dsimp only
    omega
  | comes l r =>
    have hr : rowsN s < 40 := by
      unfold newsB at h
      simp only [Bool.and_eq_true, decide_eq_true_eq] at h
      omega
    refine valid_map v (fun p => if p.1 = l then (p.1, p.2.1, sortN ltR (p.2.2 ++ [r])) else p) (fun p _ => ?_) (fun p _ => ?_) (fun p hp q hq => ?_) (fun p hp => ?_) ?_
    · split <;> rfl
    · split <;> rfl
    · split at hq
      · rename_i e
        subst e
        obtain ⟨h1, h2, h3⟩ := comes_iff v hp h
        rcases List.mem_append.mp (mem_sortN.mp hq) with z | z
        · exact v.row p hp q z
        · rw [List.mem_singleton.mp z]; exact h1
      · exact v.row p hp q hq
    · split
      · rename_i e
        subst e
        obtain ⟨h1, h2, h3⟩ := comes_iff v hp h
        refine sortN_asc totR (List.nodup_append.mpr ⟨asc_nodup (v.asc p hp), by simp, fun a ha b hb e => ?_⟩)
        rw [List.mem_singleton] at hb
        rw [e, hb] at ha
        exact h2 ha
      · exact v.asc p hp
    · have := rowsN_comes v.nodup l r
      have e : rowsN (behN s (.comes l r)) = rowsN (s.map fun p => if p.1 = l then (p.1, p.2.1, sortN ltR (p.2.2 ++ [r])) else p) := rfl
      omega
  | goes l r =>
    refine valid_map v (fun p => if p.1 = l then (p.1, p.2.1, p.2.2.filter fun x => !eqB x r) else p) (fun p _ => ?_) (fun p _ => ?_) (fun p hp q hq => ?_) (fun p hp => ?_) ?_
    · split <;> rfl
    · split <;> rfl
    · split at hq
      · exact v.row p hp q (List.mem_filter.mp hq).1
      · exact v.row p hp q hq
    · split
      · exact (v.asc p hp).filter _
      · exact v.asc p hp
    · refine Nat.le_trans (rowsN_le_of _ rfl fun p _ => ?_) v.many
      split
      · exact List.length_filter_le _ _
      · exact Nat.le_refl _
/-- news that fit, one behind the other -/
def stepN (s : Stor) (x : News) : Option Stor := if newsB s x then some (behN s x) else none
def foldO {α β : Type} (step : β → α → Option β) : β → List α → Option β
  | y, [] => some y
  | y, x :: xs => match step y x with
    | some y' => foldO step y' xs
    | none => none
/-- the stores of a day-book -/
def storesN (s : Stor) : List News → List Stor
  | [] => [s]
  | x :: xs => s :: storesN (behN s x) xs
theorem foldO_app {α β : Type} (step : β → α → Option β) : ∀ (xs ys : List α) (y : β), foldO step y (xs ++ ys) = (foldO step y xs).bind fun z => foldO step z ys
  | [], ys, y => rfl
  | x :: xs, ys, y => by
    show (match step y x with | some y' => foldO step y' (xs ++ ys) | none => none) = (match step y x with | some y' => foldO step y' xs | none => none).bind _
    cases step y x with
    | none => rfl
    | some z => exact foldO_app step xs ys z
theorem foldO_last {s : Stor} : ∀ {xs : List News} {t : Stor}, foldO stepN s xs = some t → (storesN s xs).getLast? = some t
  | [], t, h => by cases h; rfl
  | x :: xs, t, h => by
    unfold foldO stepN at h
    unfold storesN
    split at h
    · rename_i y hy
      split at hy
      · cases hy
        have := foldO_last h
        cases e : storesN (behN s x) xs with
        | nil => rw [e] at this; cases this
        | cons a l => rw [e] at this; rw [List.getLast?_cons_cons]; exact this
      · cases hy
    · cases h
theorem storesN_snoc {s : Stor} : ∀ (xs : List News) {x : News} {t : Stor}, foldO stepN s xs = some t → storesN s (xs ++ [x]) = storesN s xs ++ [behN t x]
  | [], x, t, h => by cases h; rfl
  | y :: xs, x, t, h => by
    unfold foldO stepN at h
    rw [List.cons_append]
    unfold storesN
    split at h
    · rename_i z hz
      split at hz
      · cases hz
        rw [storesN_snoc xs h]; rfl
      · cases hz
    · cases h
theorem storesN_len {s : Stor} : ∀ (xs : List News), (storesN s xs).length = xs.length + 1
  | [] => rfl
  | x :: xs => by unfold storesN; rw [List.length_cons, storesN_len xs, List.length_cons]
theorem valid_fold {s t : Stor} : ∀ {xs : List News}, Valid s → foldO stepN s xs = some t → Valid t
  | [], v, h => by cases h; exact v
  | x :: xs, v, h => by
    unfold foldO stepN at h
    split at h
    · rename_i z hz
      split at hz
      · rename_i hb
        cases hz
        exact valid_fold (valid_beh v hb) h
      · cases hz
    · cases h
end Nt
namespace Pd
open PySem Nt
/-- a loop that may end the def -/
theorem c_forS {ft : Ft} {ρ : Rho} {σ : S} {ss b : Sts} {c0 : Ct} {α β : Type} {enc : α → D} {xs : List α} {g : G} {it : I} (P : β → Rho → Prop) (step : β → α → Option β) (w : W) {y0 : β} (hi : EvI ft it ρ σ enc xs) (h0 : P y0 ρ)
    (hs : ∀ x ∈ xs, ∀ y ρ, P y ρ → ∃ ρ1 c, bindG g (enc x) ρ = some ρ1 ∧ EvC ft b ρ1 σ c σ ∧ (∀ y', step y x = some y' → ∃ ρ2, c = .nx ρ2 ∧ P y' ρ2) ∧ (step y x = none → c = .rt w))
    (hr : ∀ y ρ', foldO step y0 xs = some y → P y ρ' → EvC ft ss ρ' σ c0 σ) : EvC ft (.cons (.for g it b) ss) ρ σ (if (foldO step y0 xs).isSome then c0 else .rt w) σ := by
  unfold EvI at hi
  have run : ∀ (l : List α) (y : β) (ρ : Rho), (∀ x ∈ l, x ∈ xs) → P y ρ → (∀ z, foldO step y l = some z → ∃ ρ2, forI g (fun ρ => evSs ft b ρ) (l.map enc) ρ σ = .ok (.nx ρ2) σ ∧ P z ρ2) ∧ (foldO step y l = none → forI g (fun ρ => evSs ft b ρ) (l.map enc) ρ σ = .ok (.rt w) σ) := fun l => by
    induction l with
    | nil =>
      intro y ρ _ h
      refine ⟨fun z hz => ⟨ρ, rfl, ?_⟩, fun hz => nomatch hz⟩
      simp only [foldO, Option.some.injEq] at hz
      rw [← hz]; exact h
    | cons x l ih =>
      intro y ρ hm h
      obtain ⟨ρ1, c, h1, h2, h3, h4⟩ := hs x (hm x List.mem_cons_self) y ρ h
      unfold EvC at h2
      rw [List.map_cons]
      unfold forI foldO
      rw [h1, opt_some, M.pb, M.ba, h2]
      cases e : step y x with
      | none =>
        rw [h4 e]
        exact ⟨fun z hz => (nomatch hz), fun _ => rfl⟩
      | some y' =>
        obtain ⟨ρ2, rfl, h5⟩ := h3 y' e
        exact ih y' ρ2 (fun z hz => hm z (List.mem_cons_of_mem _ hz)) h5
  obtain ⟨r1, r2⟩ := run xs y0 ρ (fun _ h => h) h0
  cases e : foldO step y0 xs with
  | none =>
    unfold EvC
    rw [evSs_cons, M.ba]
    simp only [evS]
    rw [M.ba, hi]
    dsimp only
    rw [r2 e]; rfl
  | some y =>
    obtain ⟨ρ2, h1, h2⟩ := r1 y e
    refine cc ?_ (hr y ρ2 e h2)
    simp only [evS]
    rw [M.ba, hi]
    exact h1
theorem ex_forS {ft : Ft} {ρ0 ρ1 : Rho} {σ : S} {x : D} {ss : Sts} {c : Ct} {g : G} {Q R : Ct → Prop} (h1 : bindG g x ρ0 = some ρ1) (h2 : EvC ft ss ρ1 σ c σ) (h3 : Q c) (h4 : R c) : ∃ ρ1 c, bindG g x ρ0 = some ρ1 ∧ EvC ft ss ρ1 σ c σ ∧ Q c ∧ R c := ⟨_, _, h1, h2, h3, h4⟩
end Pd
namespace Nt
open PySem Pd
theorem fold_at {s : Stor} {xs pre post : List News} {x : News} (hb : (foldO stepN s xs).isSome = true) (e : xs = pre ++ x :: post) : ∃ t, foldO stepN s pre = some t ∧ newsB t x = true := by
  rw [e, foldO_app] at hb
  cases q : foldO stepN s pre with
  | none => rw [q] at hb; cases hb
  | some t =>
    refine ⟨t, rfl, ?_⟩
    rw [q, Option.bind_some] at hb
    unfold foldO stepN at hb
    split at hb
    · rename_i z hz
      split at hz
      · assumption
      · cases hz
    · cases hb
theorem valid_stores {s : Stor} : ∀ {xs : List News}, Valid s → (foldO stepN s xs).isSome = true → ∀ t ∈ storesN s xs, Valid t
  | [], v, _, t, ht => by rw [List.mem_singleton.mp ht]; exact v
  | x :: xs, v, h, t, ht => by
    unfold foldO stepN at h
    unfold storesN at ht
    split at h
    · rename_i z hz
      split at hz
      · rename_i hb
        cases hz
        rcases List.mem_cons.mp ht with e | e
        · rw [e]; exact v
        · exact valid_stores (valid_beh v hb) h t e
      · cases hz
    · cases h
/-! ### the unknowns, gathered one by one -/
def stepU (L : List Int) (r : Row) : List Int := L ++ r.filter fun x => decide (x < 0) && !memB x L
def stepT (L : List Int) (p : Str × Tab) : List Int := p.2.2.foldl stepU L
def unkL (s : Stor) : List Int := s.foldl stepT []
theorem mem_stepU {L : List Int} {r : Row} {i : Int} : i ∈ stepU L r ↔ i ∈ L ∨ (i < 0 ∧ i ∈ r) := by
  unfold stepU
  rw [List.mem_append, List.mem_filter, Bool.and_eq_true, decide_eq_true_eq, Bool.not_eq_true']
  constructor
  · rintro (h | ⟨h1, h2, h3⟩)
    · exact .inl h
    · exact .inr ⟨h2, h1⟩
  · rintro (h | ⟨h1, h2⟩)
    · exact .inl h
    · by_cases hm : memB i L = true
      · exact .inl (memB_iff.mp hm)
      · exact .inr ⟨h2, h1, by rw [Bool.not_eq_true] at hm; exact hm⟩
theorem mem_foldU {i : Int} : ∀ {rs : List Row} {L : List Int}, i ∈ rs.foldl stepU L ↔ i ∈ L ∨ (i < 0 ∧ ∃ r ∈ rs, i ∈ r)
  | [], L => by simp
  | r :: rs, L => by
    rw [List.foldl_cons, mem_foldU, mem_stepU]
    simp only [List.mem_cons, exists_eq_or_imp]
    grind
theorem mem_unkL {i : Int} : ∀ {s : Stor} {L : List Int}, i ∈ s.foldl stepT L ↔ i ∈ L ∨ (i < 0 ∧ i ∈ cellsN s)
  | [], L => by simp [cellsN]
  | p :: s, L => by
    rw [List.foldl_cons, mem_unkL, stepT, mem_foldU, mem_cells, mem_cells]
    simp only [List.mem_cons, exists_eq_or_imp]
    rw [or_assoc, ← and_or_left]
theorem stepU_len (L : List Int) (r : Row) : (stepU L r).length ≤ L.length + r.length := by
  unfold stepU; rw [List.length_append]
  exact Nat.add_le_add_left (List.length_filter_le _ _) _
theorem foldU_len {k : Nat} : ∀ {rs : List Row} {L : List Int}, (∀ r ∈ rs, r.length ≤ k) → (rs.foldl stepU L).length ≤ L.length + rs.length * k
  | [], L, _ => by simp
  | r :: rs, L, h => by
    rw [List.foldl_cons, List.length_cons, Nat.succ_mul]
    have h1 := foldU_len (L := stepU L r) fun q hq => h q (List.mem_cons_of_mem _ hq)
    have h2 := stepU_len L r
    have h3 := h r List.mem_cons_self
    omega
theorem unkL_len {s : Stor} (v : Valid s) : ∀ {t : Stor} {L : List Int}, (∀ p ∈ t, p ∈ s) → (t.foldl stepT L).length ≤ L.length + t.length * 240
  | [], L, _ => by simp
  | p :: t, L, h => by
    rw [List.foldl_cons, List.length_cons, Nat.succ_mul]
    have h1 := unkL_len v (t := t) (L := stepT L p) fun q hq => h q (List.mem_cons_of_mem _ hq)
    have hp := h p List.mem_cons_self
    have h2 := foldU_len (k := 6) (rs := p.2.2) (L := L) fun r hr => v.len6 hp hr
    have h3 := v.rows40 hp
    unfold stepT at h1 ⊢
    omega
theorem unkL_eq (s : Stor) : ssort ltI (unkL s) = unkN s := by
  refine asc_ext totI (ssort_asc totI _) ((ssort_asc totI _).filter _) fun i => ?_
  show i ∈ ssort ltI (unkL s) ↔ i ∈ unkN s
  rw [mem_ssort, mem_unk]
  unfold unkL
  rw [mem_unkL]; simp
end Nt
namespace Nt
open PySem Pd
/-! ### the law's way to what a store becomes -/
/-- rows, as a tuple or as a list -/
abbrev encTL (x : Bool × List Row) : D := if x.1 then .list (x.2.map encR) else .tuple (x.2.map encR)
abbrev Fnd := Str × Int × Bool × List Row
abbrev encF (p : Fnd) : D := .tuple [.str p.1, .tuple [.int p.2.1, encTL p.2.2]]
def lawF : News → Str × Tab → Fnd
  | .comes l r, p => (p.1, p.2.1, if p.1 = l then (true, (p.2.2.filter fun x => !eqB x r) ++ [r]) else (false, p.2.2))
  | .goes l r, p => (p.1, p.2.1, if p.1 = l then (true, (p.2.2.filter fun x => !eqB x r)) else (false, p.2.2))
  | _, p => (p.1, p.2.1, false, p.2.2)
def finF (p : Fnd) : Str × Tab := (p.1, p.2.1, ssort ltR p.2.2.2)
theorem filt_id {l : List Row} {r : Row} (h : r ∉ l) : (l.filter fun x => !eqB x r) = l := by
  rw [List.filter_eq_self]
  intro x hx
  simp only [Bool.not_eq_true', eqB_not]
  rintro rfl; exact h hx
theorem law_comes {s : Stor} (v : Valid s) {l : Str} {r : Row} (h : newsB s (.comes l r) = true) : s.map (fun p => finF (lawF (.comes l r) p)) = behN s (.comes l r) := by
  unfold behN
  refine List.map_congr_left fun p hp => ?_
  unfold finF lawF
  dsimp only
  split
  · rename_i e
    subst e
    obtain ⟨h1, h2, h3⟩ := comes_iff v hp h
    dsimp only
    rw [filt_id h2]
    congr 2
    refine asc_ext totR (ssort_asc totR _) (sortN_asc totR ?_) fun x => by rw [mem_ssort, mem_sortN]
    refine List.nodup_append.mpr ⟨asc_nodup (v.asc p hp), by simp, fun a ha b hb e => ?_⟩
    rw [List.mem_singleton] at hb
    rw [e, hb] at ha
    exact h2 ha
  · dsimp only
    rw [ssort_id totR (v.asc p hp)]
theorem law_goes {s : Stor} (v : Valid s) {l : Str} {r : Row} : s.map (fun p => finF (lawF (.goes l r) p)) = behN s (.goes l r) := by
  unfold behN
  refine List.map_congr_left fun p hp => ?_
  unfold finF lawF
  dsimp only
  split
  · dsimp only
    rw [ssort_id totR ((v.asc p hp).filter _)]
  · dsimp only
    rw [ssort_id totR (v.asc p hp)]
end Nt
namespace Pd
open PySem Nt
theorem bt_set_tr {σ : S} {l : List (List Int)} (h : l.length < 64) : Bt σ .set [.d (.tuple (l.map encR))] (.set ((once [] l).map encR)) := by
  unfold Bt
  show opt (biD .set [.tuple (l.map encR)]) σ = _
  have e : onceD [] (l.map encR) = (once [] l).map encR := onceD_map encI.tup l []
  simp only [biD, rOf_rows, Option.isSome_some, List.length_map, h, decide_true, Bool.and_true, Bool.or_true, if_true, opt_some, M.pa, e]
theorem bt_set_tl {σ : S} {x : Bool × List Row} (h : x.2.length < 64) : Bt σ .set [.d (encTL x)] (.set ((once [] x.2).map encR)) := by
  obtain ⟨b, l⟩ := x
  cases b with
  | true => exact bt_set_lr h
  | false => exact bt_set_tr h
end Pd
namespace Nt
open PySem Pd
/-! ### things that are like themselves -/
def Atom (x : D) : Prop := x = .none ∨ (∃ b, x = .bool b) ∨ (∃ i, x = .int i) ∨ ∃ s, x = .str s
def Lk : Nat → D → Prop
  | 0, x => Atom x
  | k + 1, x => Atom x ∨ ∃ xs, (x = .list xs ∨ x = .tuple xs) ∧ Sm xs ∧ ∀ y ∈ xs, Lk k y
theorem lk_int (i : Int) : ∀ k, Lk k (.int i)
  | 0 => .inr (.inr (.inl ⟨_, rfl⟩))
  | _ + 1 => .inl (.inr (.inr (.inl ⟨_, rfl⟩)))
theorem lk_str (s : Str) : ∀ k, Lk k (.str s)
  | 0 => .inr (.inr (.inr ⟨_, rfl⟩))
  | _ + 1 => .inl (.inr (.inr (.inr ⟨_, rfl⟩)))
theorem lk_tup {α : Type} {f : α → D} {k : Nat} {l : List α} (hl : Sm l) (h : ∀ x ∈ l, Lk k (f x)) : Lk (k + 1) (.tuple (l.map f)) := .inr ⟨_, .inr rfl, Sm.map _ hl, fun y hy => by
  obtain ⟨x, hx, rfl⟩ := List.mem_map.mp hy
  exact h x hx⟩
theorem lk_lst {α : Type} {f : α → D} {k : Nat} {l : List α} (hl : Sm l) (h : ∀ x ∈ l, Lk k (f x)) : Lk (k + 1) (.list (l.map f)) := .inr ⟨_, .inl rfl, Sm.map _ hl, fun y hy => by
  obtain ⟨x, hx, rfl⟩ := List.mem_map.mp hy
  exact h x hx⟩
theorem lk_two {x y : D} {k : Nat} (h : Lk k x) (h' : Lk k y) : Lk (k + 1) (.tuple [x, y]) := .inr ⟨_, .inr rfl, Nat.le_of_ble_eq_true rfl, fun z hz => by
  rcases List.mem_cons.mp hz with e | e
  · rw [e]; exact h
  · rw [List.mem_singleton.mp e]; exact h'⟩
theorem lk_store {s : Stor} (v : Valid s) : Lk 5 (encS s) := by
  refine lk_tup v.smS fun p hp => lk_two (lk_str _ _) (lk_two (lk_int _ _) (lk_tup (v.smT hp) fun r hr => lk_tup (v.smR hp hr) fun i _ => lk_int _ _))
end Nt
namespace Nt
open PySem Pd
/-! ### stores as the laws make them -/
structure Good (u : Int) (m : Nat) (s : Stor) : Prop where
  v : Valid s
  col3 : ∀ p ∈ s, p.2.1 ≤ 3
  cell : ∀ p ∈ s, ∀ r ∈ p.2.2, ∀ i ∈ r, -u ≤ i ∧ i ≤ 11
  rows : rowsN s ≤ m
  three : s.map (·.1) = (["r", "s"] : List Str) ∨ s.map (·.1) = (["r", "s", "t"] : List Str)
/-- a table as the laws make them -/
structure TabG (u : Int) (m : Nat) (t : Tab) : Prop where
  col0 : 0 ≤ t.1
  col3 : t.1 ≤ 3
  len : ∀ r ∈ t.2, (r.length : Int) = t.1
  cell : ∀ r ∈ t.2, ∀ i ∈ r, -u ≤ i ∧ i ≤ 11
  asc : Asc t.2
  rows : t.2.length ≤ m
theorem good_of {u : Int} (hu : u ≤ 6) {s : Stor} {m : Nat} (hm : m ≤ 40) (h : ∀ p ∈ s, TabG u 40 p.2) (hr : rowsN s ≤ m) (hl : s.map (·.1) = (["r", "s"] : List Str) ∨ s.map (·.1) = (["r", "s", "t"] : List Str)) : Good u m s where
  v := {
    lets := hl.elim (fun e => .inr (.inr (.inl e))) (fun e => .inr (.inr (.inr e)))
    col := fun p hp => ⟨(h p hp).col0, by have := (h p hp).col3; omega⟩
    row := fun p hp r hr => ⟨(h p hp).len r hr, fun i hi => by have := (h p hp).cell r hr i hi; omega⟩
    asc := fun p hp => (h p hp).asc
    many := Nat.le_trans hr hm }
  col3 := fun p hp => (h p hp).col3
  cell := fun p hp => (h p hp).cell
  rows := hr
  three := hl
theorem rowsN_beh {s : Stor} (v : Valid s) (x : News) : rowsN (behN s x) ≤ rowsN s + 1 := by
  have fill : ∀ kvs, rowsN (fillN s kvs) ≤ rowsN s + 1 := fun kvs => by
    refine Nat.le_trans (rowsN_le_of _ rfl fun p _ => ?_) (Nat.le_succ _)
    exact Nat.le_trans (ssort_length _) (by rw [List.length_map]; exact Nat.le_refl _)
  cases x with
  | told u w => exact fill _
  | same u w => exact fill _
  | comes l r => exact rowsN_comes v.nodup l r
  | goes l r =>
    refine Nat.le_trans (rowsN_le_of _ rfl fun p _ => ?_) (Nat.le_succ _)
    split
    · exact List.length_filter_le _ _
    · exact Nat.le_refl _
/-- a news as the laws make them: its values small -/
def NewsG (u : Int) : News → Prop
  | .told _ w => w ≤ 11
  | .same _ _ => True
  | .comes _ r => ∀ i ∈ r, -u ≤ i ∧ i ≤ 11
  | .goes _ _ => True
theorem behN_lets (s : Stor) (x : News) : (behN s x).map (·.1) = s.map (·.1) := by
  cases x <;> simp only [behN, fillN, List.map_map] <;> refine List.map_congr_left fun p _ => ?_ <;> (try rfl) <;> (simp only [Function.comp]; split <;> rfl)
theorem mem_fill {s : Stor} {kvs : List (Int × Int)} {P : Int → Prop} (h : ∀ p ∈ s, ∀ r ∈ p.2.2, ∀ i ∈ r, P i) (hk : ∀ q ∈ kvs, P q.2) : ∀ p ∈ fillN s kvs, ∀ r ∈ p.2.2, ∀ i ∈ r, P i := fun p hp r hr i hi => by
  obtain ⟨q, hq, rfl⟩ := List.mem_map.mp hp
  obtain ⟨r', hr', rfl⟩ := List.mem_map.mp (mem_ssort.mp hr)
  obtain ⟨c, hc, rfl⟩ := mem_rowN hi
  cases e : lookN kvs c with
  | none => exact h q hq r' hr' c hc
  | some w =>
    obtain ⟨p', hp', rfl⟩ := lookN_val e
    exact hk p' hp'
theorem good_beh {u : Int} (hu : 0 ≤ u) {m : Nat} {s : Stor} (g : Good u m s) {x : News} (h : newsB s x = true) (hx : NewsG u x) : Good u (m + 1) (behN s x) where
  v := valid_beh g.v h
  col3 := fun p hp => by
    cases x <;> simp only [behN, fillN] at hp <;> obtain ⟨q, hq, rfl⟩ := List.mem_map.mp hp <;> (try split) <;> exact g.col3 q hq
  cell := by
    cases x with
    | told a w =>
      refine mem_fill g.cell fun q hq => ?_
      rw [List.mem_singleton.mp hq]
      unfold newsB at h
      simp only [Bool.and_eq_true, decide_eq_true_eq] at h
      have : w ≤ 11 := hx
      dsimp only; omega
    | same a w =>
      refine mem_fill g.cell fun q hq => ?_
      rw [List.mem_singleton.mp hq]
      unfold newsB at h
      simp only [Bool.and_eq_true, memB_iff] at h
      obtain ⟨p, hp, r, hr, hi⟩ := mem_cells.mp (mem_unk.mp h.2.1).2
      exact g.cell p hp r hr w hi
    | comes l r =>
      intro p hp q hq i hi
      obtain ⟨p', hp', rfl⟩ := List.mem_map.mp hp
      split at hq
      · rcases List.mem_append.mp (mem_sortN.mp hq) with z | z
        · exact g.cell p' hp' q z i hi
        · rw [List.mem_singleton.mp z] at hi; exact hx i hi
      · exact g.cell p' hp' q hq i hi
    | goes l r =>
      intro p hp q hq i hi
      obtain ⟨p', hp', rfl⟩ := List.mem_map.mp hp
      split at hq
      · exact g.cell p' hp' q (List.mem_filter.mp hq).1 i hi
      · exact g.cell p' hp' q hq i hi
  rows := Nat.le_trans (rowsN_beh g.v x) (Nat.succ_le_succ g.rows)
  three := by rw [behN_lets]; exact g.three
/-- no news, or one -/
abbrev encON : Option News → D
  | none => .tuple []
  | some x => encN x
theorem plain_news (x : News) : (encN x).plain = true := by
  cases x <;> simp only [encN, PyData.plain, PyData.plainAll, Bool.and_self, eR.plain]
  all_goals (first | rfl | (have := plain_map encI; simp [this]))
theorem ne_news {σ : S} (x : Option News) : Cmp σ .ne (.d (encON x)) (.d (.tuple [])) x.isSome := by
  cases x with
  | none => exact cmp_k rfl
  | some x =>
    have : eqOk (encN x) (.tuple []) = true := by
      unfold eqOk
      rw [plain_news]
      have e : (PyData.tuple []).depth = 1 := rfl
      rw [e, Bool.true_and]
      show (true && decide _) = true
      rw [Bool.true_and]
      exact decide_eq_true (Nat.le_trans (Nat.min_le_right _ _) (by decide))
    refine cmp_k ?_
    show (if eqOk (encN x) (.tuple []) then some (!PyData.eqv (encN x) (.tuple [])) else none) = _
    rw [if_pos this]
    cases x <;> rfl
end Nt
namespace Pd
open PySem
theorem bin_mul_lm {α : Type} {f : α → D} {l : List α} {k : Int} (h : 0 ≤ k ∧ k ≤ 1000 ∧ l.length ≤ 1000) : binD .mul (.list (l.map f)) (.int k) = some (.list ((List.replicate k.toNat l).flatten.map f)) := by
  have h' : 0 ≤ k ∧ k ≤ 1000 ∧ (l.map f).length ≤ 1000 := by rw [List.length_map]; exact h
  show (if 0 ≤ k ∧ k ≤ 1000 ∧ (l.map f).length ≤ 1000 then _ else _) = _
  rw [if_pos h', List.map_flatten, List.map_replicate]
end Pd
namespace Nt
open PySem Pd
/-- the cells that are drawn -/
def drawL (u : Int) : List Int := [1, 1, 2, 2, 3, 7, 0] ++ (List.replicate 3 ((List.range u.toNat).map fun i : Nat => -1 - (i : Int))).flatten
theorem mem_draw {u : Int} (hu : 0 ≤ u) {v : Int} (h : v ∈ drawL u) : -u ≤ v ∧ v ≤ 7 := by
  unfold drawL at h
  rcases List.mem_append.mp h with h | h
  · simp at h; omega
  · obtain ⟨l, hl, hv⟩ := List.mem_flatten.mp h
    rw [(List.mem_replicate.mp hl).2] at hv
    obtain ⟨i, hi, rfl⟩ := List.mem_map.mp hv
    have := List.mem_range.mp hi
    omega
theorem draw_len (u : Int) : (drawL u).length ≤ 7 + 3 * u.toNat := by
  unfold drawL; simp; omega
end Nt
end

set_option maxHeartbeats 200000
section
/-! Nt3: what is drawn. Own work. -/
namespace Nt
open PySem Pd
theorem fin_cup {r σ τ : S} (h : Cup r σ) (h' : Cup r τ) : Cup r (τ.take σ.length) := by
  obtain ⟨a, b, ha, hb, hb2, rfl⟩ := h
  obtain ⟨a', b', ha', hb', hb2', rfl⟩ := h'
  exact ⟨a', b', ha', hb', hb2', by simp⟩
theorem good_two {u : Int} (hu : u ≤ 6) {t1 t2 : Tab} (h1 : TabG u 4 t1) (h2 : TabG u 3 t2) : Good u 10 [("r", t1), ("s", t2)] := by
  refine good_of hu (by decide) (fun p hp => ?_) ?_ (.inl rfl)
  · rcases List.mem_cons.mp hp with e | e
    · rw [e]; exact { h1 with rows := Nat.le_trans h1.rows (by decide) }
    · rw [List.mem_singleton.mp e]; exact { h2 with rows := Nat.le_trans h2.rows (by decide) }
  · have := h1.rows; have := h2.rows
    simp only [rowsN, List.map_cons, List.map_nil, List.sum_cons, List.sum_nil]; omega
theorem good_three {u : Int} (hu : u ≤ 6) {t1 t2 t3 : Tab} (h1 : TabG u 4 t1) (h2 : TabG u 3 t2) (h3 : TabG u 3 t3) : Good u 10 [("r", t1), ("s", t2), ("t", t3)] := by
  refine good_of hu (by decide) (fun p hp => ?_) ?_ (.inr rfl)
  · rcases List.mem_cons.mp hp with e | e
    · rw [e]; exact { h1 with rows := Nat.le_trans h1.rows (by decide) }
    · rcases List.mem_cons.mp e with e | e
      · rw [e]; exact { h2 with rows := Nat.le_trans h2.rows (by decide) }
      · rw [List.mem_singleton.mp e]; exact { h3 with rows := Nat.le_trans h3.rows (by decide) }
  · have := h1.rows; have := h2.rows; have := h3.rows
    simp only [rowsN, List.map_cons, List.map_nil, List.sum_cons, List.sum_nil]; omega
end Nt
namespace Nt
open PySem Pd
theorem unk_asc (s : Stor) : (unkN s).Pairwise fun a b => ltI a b = true := (ssort_asc totI _).filter _
theorem unk_ne {s : Stor} {i j : Nat} {a b : Int} (hi : (unkN s)[i]? = some a) (hj : (unkN s)[j]? = some b) (h : i ≠ j) : a ≠ b := by
  intro e
  subst e
  obtain ⟨hi1, hi2⟩ := List.getElem?_eq_some_iff.mp hi
  obtain ⟨hj1, hj2⟩ := List.getElem?_eq_some_iff.mp hj
  rcases Nat.lt_or_gt_of_ne h with q | q
  · have := List.pairwise_iff_getElem.mp (unk_asc s) i j hi1 hj1 q
    rw [hi2, hj2, totI.irrefl] at this; cases this
  · have := List.pairwise_iff_getElem.mp (unk_asc s) j i hj1 hi1 q
    rw [hi2, hj2, totI.irrefl] at this; cases this
/-- the item ahead of another one, the last one ahead of the first -/
theorem ix_before {σ : S} {l : List Int} {k : Nat} (hk : k < l.length) (h2 : 1 < l.length) : ∃ j b, l[j]? = some b ∧ j ≠ k ∧ Ix σ (.d (.list (l.map .int))) (.d (.int ((k : Int) - 1))) (.int b) := by
  by_cases h0 : k = 0
  · subst h0
    refine ⟨l.length - 1, l[l.length - 1], List.getElem?_eq_getElem _, by omega, ?_⟩
    exact ix_l_last (f := PyData.int) (by rw [List.getLast?_eq_getElem?]; exact List.getElem?_eq_getElem _)
  · refine ⟨k - 1, l[k - 1], List.getElem?_eq_getElem _, by omega, ?_⟩
    have e : (k : Int) - 1 = ((k - 1 : Nat) : Int) := by omega
    have := ix_l (σ := σ) (f := PyData.int) (i := k - 1) (l := l) (List.getElem?_eq_getElem (by omega))
    rw [← e] at this
    exact this
theorem goes_ok {u : Int} {m : Nat} {s : Stor} (g : Good u m s) {p : Str × Tab} (hp : p ∈ s) {q : Row} (hq : q ∈ p.2.2) : newsB s (.goes p.1 q) = true := by
  unfold newsB
  dsimp only
  rw [tabOf_mem g.v hp, letIn_iff.mpr ⟨p, hp, rfl⟩, rowB_iff.mpr (g.v.row p hp q hq), memB_iff.mpr hq]; rfl
theorem comes_fit {u : Int} {m : Nat} {s : Stor} (g : Good u m s) (hm : m ≤ 39) (hu : u ≤ 6) {p : Str × Tab} (hp : p ∈ s) {q : Row} (hl : (q.length : Int) = p.2.1) (hc : ∀ i ∈ q, -u ≤ i ∧ i ≤ 11) (hq : memB q p.2.2 = false) : newsB s (.comes p.1 q) = true := by
  unfold newsB
  dsimp only
  have hr := g.rows
  have h1 : rowB p.2.1 q = true := rowB_iff.mpr ⟨hl, fun i hi => by have := hc i hi; omega⟩
  rw [tabOf_mem g.v hp, letIn_iff.mpr ⟨p, hp, rfl⟩, h1, hq, decide_eq_true (by omega : (rowsN s : Int) < 40)]; rfl
end Nt
namespace Pd
open PySem
theorem v_ite_i {ft : Ft} {ρ : Rho} {σ : S} {t a b : E} {p : Bool} {i j : Int} (ht : Ev ft t ρ σ (.d (.bool p))) (ha : p = true → Ev ft a ρ σ (.d (.int i))) (hb : p = false → Ev ft b ρ σ (.d (.int j))) : Ev ft (.ite t a b) ρ σ (.d (.int (if p then i else j))) := by
  refine (v_ite ht ha hb).eq ?_
  cases p <;> rfl
end Pd
end

set_option maxHeartbeats 200000
section
/-! Nt4: news exchanged with the next one. Own work. -/
namespace Nt
open PySem Pd
/-- what a news asks of letters and columns alone -/
def SOK (s : Stor) : News → Prop
  | .told _ w => 0 ≤ w ∧ w ≤ 1000000
  | .same u w => u ≠ w
  | .comes l r => ∃ p ∈ s, p.1 = l ∧ RowV p.2.1 r
  | .goes l r => ∃ p ∈ s, p.1 = l ∧ RowV p.2.1 r
def heads (s : Stor) : List (Str × Int) := s.map fun p => (p.1, p.2.1)
theorem sok_heads {s t : Stor} (h : heads s = heads t) {x : News} (k : SOK s x) : SOK t x := by
  have row : ∀ l r, (∃ p ∈ s, p.1 = l ∧ RowV p.2.1 r) → ∃ p ∈ t, p.1 = l ∧ RowV p.2.1 r := fun l r ⟨p, hp, hl, hr⟩ => by
    have : (p.1, p.2.1) ∈ heads t := by rw [← h]; exact List.mem_map.mpr ⟨p, hp, rfl⟩
    obtain ⟨q, hq, e⟩ := List.mem_map.mp this
    injection e with e1 e2
    exact ⟨q, hq, by rw [e1]; exact hl, by rw [e2]; exact hr⟩
  cases x with
  | told u w => exact k
  | same u w => exact k
  | comes l r => exact row l r k
  | goes l r => exact row l r k
theorem heads_beh (s : Stor) (x : News) : heads (behN s x) = heads s := by
  cases x <;> simp only [heads, behN, fillN, List.map_map] <;> refine List.map_congr_left fun p _ => ?_ <;> (try rfl) <;> (simp only [Function.comp]; split <;> rfl)
theorem heads_fold {s t : Stor} : ∀ {xs : List News}, foldO stepN s xs = some t → heads t = heads s
  | [], h => by cases h; rfl
  | x :: xs, h => by
    unfold foldO stepN at h
    split at h
    · rename_i z hz
      split at hz
      · cases hz; rw [heads_fold h, heads_beh]
      · cases hz
    · cases h
theorem news_sok {s : Stor} (v : Valid s) {x : News} (h : newsB s x = true) : SOK s x := by
  cases x with
  | told u w => unfold newsB at h; simp only [Bool.and_eq_true, decide_eq_true_eq] at h; exact h.2
  | same u w => unfold newsB at h; simp only [Bool.and_eq_true, Bool.not_eq_true', eqB_not] at h; exact h.2.2
  | comes l r =>
    unfold newsB at h; simp only [Bool.and_eq_true] at h
    obtain ⟨p, hp, rfl⟩ := letIn_iff.mp h.1
    rw [tabOf_mem v hp] at h
    exact ⟨p, hp, rfl, rowB_iff.mp h.2.1.1⟩
  | goes l r =>
    unfold newsB at h; simp only [Bool.and_eq_true] at h
    obtain ⟨p, hp, rfl⟩ := letIn_iff.mp h.1
    rw [tabOf_mem v hp] at h
    exact ⟨p, hp, rfl, rowB_iff.mp h.2.1⟩
theorem sok_fold {s t : Stor} : ∀ {xs : List News}, Valid s → foldO stepN s xs = some t → ∀ x ∈ xs, SOK s x
  | [], _, _, _, hx => nomatch hx
  | y :: xs, v, h, x, hx => by
    unfold foldO stepN at h
    split at h
    · rename_i z hz
      split at hz
      · rename_i hb
        cases hz
        rcases List.mem_cons.mp hx with e | e
        · rw [e]; exact news_sok v hb
        · exact sok_heads (heads_beh s y) (sok_fold (valid_beh v hb) h x e)
      · cases hz
    · cases h
/-- the law's tests -/
def canB (s : Stor) : News → Bool
  | .told u _ => memB u (unkN s)
  | .same u w => memB u (unkN s) && memB w (unkN s)
  | .comes l r => !memB r (tabOf s l).2
  | .goes l r => memB r (tabOf s l).2
theorem can_eq {s : Stor} (v : Valid s) (hr : rowsN s < 40) {x : News} (k : SOK s x) : canB s x = newsB s x := by
  cases x with
  | told u w =>
    unfold canB newsB
    dsimp only
    rw [decide_eq_true k.1, decide_eq_true k.2]; simp
  | same u w =>
    unfold canB newsB
    dsimp only
    rw [eqB_not.mpr k]; simp
  | comes l r =>
    obtain ⟨p, hp, rfl, h⟩ := k
    unfold canB newsB
    dsimp only
    rw [letIn_iff.mpr ⟨p, hp, rfl⟩, tabOf_mem v hp, rowB_iff.mpr h, decide_eq_true (by omega : (rowsN s : Int) < 40)]; simp
  | goes l r =>
    obtain ⟨p, hp, rfl, h⟩ := k
    unfold canB newsB
    dsimp only
    rw [letIn_iff.mpr ⟨p, hp, rfl⟩, tabOf_mem v hp, rowB_iff.mpr h]; simp
theorem rows_fold {s t : Stor} : ∀ {xs : List News}, Valid s → foldO stepN s xs = some t → rowsN t ≤ rowsN s + xs.length
  | [], _, h => by cases h; exact Nat.le_refl _
  | x :: xs, v, h => by
    unfold foldO stepN at h
    split at h
    · rename_i z hz
      split at hz
      · rename_i hb
        cases hz
        have h1 := rows_fold (valid_beh v hb) h
        have h2 := rowsN_beh v x
        rw [List.length_cons]; omega
      · cases hz
    · cases h
/-- a news and the next one exchanged -/
def swapL {α : Type} (xs : List α) (k : Nat) : List α := match xs[k]?, xs[k + 1]? with
  | some a, some b => xs.take k ++ [b, a] ++ xs.drop (k + 2)
  | _, _ => xs
theorem swapL_eq {α : Type} {xs : List α} {k : Nat} {a b : α} (h1 : xs[k]? = some a) (h2 : xs[k + 1]? = some b) : swapL xs k = xs.take k ++ [b, a] ++ xs.drop (k + 2) := by unfold swapL; rw [h1, h2]
theorem swapL_set {α : Type} {xs : List α} {k : Nat} {a b : α} (h1 : xs[k]? = some a) (h2 : xs[k + 1]? = some b) : (xs.set k b).set (k + 1) a = swapL xs k := by
  rw [swapL_eq h1 h2]
  obtain ⟨l1, e1⟩ := List.getElem?_eq_some_iff.mp h1
  obtain ⟨l2, e2⟩ := List.getElem?_eq_some_iff.mp h2
  refine List.ext_getElem? fun i => ?_
  rw [List.getElem?_set, List.getElem?_set, List.length_set, List.append_assoc]
  by_cases i1 : i < k
  · rw [List.getElem?_append_left (by rw [List.length_take]; omega), List.getElem?_take_of_lt i1, if_neg (by omega), if_neg (by omega)]
  · rw [List.getElem?_append_right (by rw [List.length_take]; omega)]
    have lt : (xs.take k).length = k := by rw [List.length_take]; omega
    rw [lt]
    by_cases i2 : i = k
    · subst i2; simp [l1]
    · by_cases i3 : i = k + 1
      · subst i3; simp [l2]
      · rw [if_neg (by omega), if_neg (by omega), List.getElem?_append_right (by simp; omega), List.getElem?_drop]
        congr 1; simp; omega
theorem mem_swapL {α : Type} {xs : List α} {k : Nat} {x : α} (h : x ∈ swapL xs k) : x ∈ xs := by
  unfold swapL at h
  split at h
  · rename_i a b h1 h2
    rcases List.mem_append.mp h with h | h
    · rcases List.mem_append.mp h with h | h
      · exact List.mem_of_mem_take h
      · rcases List.mem_cons.mp h with e | e
        · rw [e]; exact List.mem_of_getElem? h2
        · rw [List.mem_singleton.mp e]; exact List.mem_of_getElem? h1
    · exact List.mem_of_mem_drop h
  · exact h
theorem swapL_len {α : Type} (xs : List α) (k : Nat) : (swapL xs k).length = xs.length := by
  unfold swapL
  split
  · rename_i a b h1 h2
    have l1 := (List.getElem?_eq_some_iff.mp h1).1
    have l2 := (List.getElem?_eq_some_iff.mp h2).1
    simp; omega
  · rfl
/-- which news can be exchanged with the next one -/
def swapB (s : Stor) (xs : List News) (k : Nat) : Bool := match foldO stepN s (swapL xs k), foldO stepN s xs with
  | some t', some t => eqB t' t
  | _, _ => false
def swapsN (s : Stor) (xs : List News) : List Int := ((List.range (xs.length - 1)).filter (swapB s xs)).map fun k : Nat => (k : Int)
end Nt
namespace Pd
open PySem
theorem sl_take {α : Type} (f : α → D) (l : List α) (k : Nat) : slD (.tuple (l.map f)) none (some (k : Int)) = some (.tuple ((l.take k).map f)) := by
  simp only [slD, cutD, sPl, show ¬ ((k : Int) < 0) by omega, if_false, Int.toNat_natCast, Nat.sub_zero, List.drop_zero, List.length_map, Option.some.injEq, PyData.tuple.injEq]
  rw [← List.map_take, ← List.take_take, List.take_length]
theorem sl_drop {α : Type} (f : α → D) (l : List α) {i : Int} (k : Nat) (hi : i = k) : slD (.tuple (l.map f)) (some i) none = some (.tuple ((l.drop k).map f)) := by
  subst hi
  simp only [slD, cutD, sPl, show ¬ ((k : Int) < 0) by omega, if_false, Int.toNat_natCast, List.length_map, Option.some.injEq, PyData.tuple.injEq]
  rw [← List.map_drop, ← List.map_take]
  congr 1
  by_cases h : k ≤ l.length
  · rw [Nat.min_eq_left h, List.take_of_length_le]; rw [List.length_drop]; exact Nat.le_refl _
  · rw [Nat.min_eq_right (by omega), Nat.sub_self, List.take_zero, List.drop_of_length_le (by omega)]
theorem ix_t' {α : Type} {σ : S} {f : α → D} {l : List α} {i : Int} {k : Nat} {x : α} (hi : i = k) (h : l[k]? = some x) : Ix σ (.d (.tuple (l.map f))) (.d (.int i)) (f x) := by subst hi; exact ix_t h
/-- a loop that may end the def, the walked beginning in sight -/
theorem c_forSP {ft : Ft} {ρ : Rho} {σ : S} {ss b : Sts} {c0 : Ct} {α β : Type} {enc : α → D} {xs : List α} {g : G} {it : I} (P : β → Rho → Prop) (step : β → α → Option β) (w : W) {y0 : β} (hi : EvI ft it ρ σ enc xs) (h0 : P y0 ρ)
    (hs : ∀ pre x post, xs = pre ++ x :: post → ∀ y ρ, Nt.foldO step y0 pre = some y → P y ρ → ∃ ρ1 c, bindG g (enc x) ρ = some ρ1 ∧ EvC ft b ρ1 σ c σ ∧ (∀ y', step y x = some y' → ∃ ρ2, c = .nx ρ2 ∧ P y' ρ2) ∧ (step y x = none → c = .rt w))
    (hr : ∀ y ρ', Nt.foldO step y0 xs = some y → P y ρ' → EvC ft ss ρ' σ c0 σ) : EvC ft (.cons (.for g it b) ss) ρ σ (if (Nt.foldO step y0 xs).isSome then c0 else .rt w) σ := by
  unfold EvI at hi
  have run : ∀ (l pre : List α) (y : β) (ρ : Rho), xs = pre ++ l → Nt.foldO step y0 pre = some y → P y ρ → (∀ z, Nt.foldO step y l = some z → ∃ ρ2, forI g (fun ρ => evSs ft b ρ) (l.map enc) ρ σ = .ok (.nx ρ2) σ ∧ P z ρ2) ∧ (Nt.foldO step y l = none → forI g (fun ρ => evSs ft b ρ) (l.map enc) ρ σ = .ok (.rt w) σ) := fun l => by
    induction l with
    | nil =>
      intro pre y ρ _ _ h
      refine ⟨fun z hz => ⟨ρ, rfl, ?_⟩, fun hz => nomatch hz⟩
      simp only [Nt.foldO, Option.some.injEq] at hz
      rw [← hz]; exact h
    | cons x l ih =>
      intro pre y ρ e hf h
      obtain ⟨ρ1, c, h1, h2, h3, h4⟩ := hs pre x l e y ρ hf h
      unfold EvC at h2
      rw [List.map_cons]
      unfold forI Nt.foldO
      rw [h1, opt_some, M.pb, M.ba, h2]
      cases q : step y x with
      | none =>
        rw [h4 q]
        exact ⟨fun z hz => (nomatch hz), fun _ => rfl⟩
      | some y' =>
        obtain ⟨ρ2, rfl, h5⟩ := h3 y' q
        refine ih (pre ++ [x]) y' ρ2 (by rw [e]; simp) ?_ h5
        rw [Nt.foldO_app, hf]
        show Nt.foldO step y [x] = _
        unfold Nt.foldO
        rw [q]; rfl
  obtain ⟨r1, r2⟩ := run xs [] y0 ρ rfl rfl h0
  cases e : Nt.foldO step y0 xs with
  | none =>
    unfold EvC
    rw [evSs_cons, M.ba]
    simp only [evS]
    rw [M.ba, hi]
    dsimp only
    rw [r2 e]; rfl
  | some y =>
    obtain ⟨ρ2, h1, h2⟩ := r1 y e
    refine cc ?_ (hr y ρ2 e h2)
    simp only [evS]
    rw [M.ba, hi]
    exact h1
end Pd
end

set_option maxHeartbeats 200000
section
/-! the bodies of the defs, printed. -/
namespace L70
open PySem Pd
def b_is_whole : Sts := (.cons (.ret (.and (.isi (.var 0) .int) (.and (.not (.isi (.var 0) .bool)) (.chain .le .le (.var 1) (.var 0) (.var 2)))))
    .nil)
def f_is_whole : Option Fn := some ⟨3, 3, false, b_is_whole⟩
def b_is_tuple_of : Sts := (.cons (.ret (.and (.isi (.var 0) .tuple) (.chain .le .le (.var 1) (.bi .len (.cons (.var 0) .nil)) (.var 2))))
    .nil)
def f_is_tuple_of : Option Fn := some ⟨3, 3, false, b_is_tuple_of⟩
def b_fits_value : Sts := (.cons (.ret (.call 0 (.cons (.var 0) (.cons (.cst (.int (0))) (.cons (.cst (.int (1000000))) .nil)))))
    .nil)
def f_fits_value : Option Fn := some ⟨1, 1, false, b_fits_value⟩
def b_fits_row : Sts := (.cons (.ret (.and (.call 1 (.cons (.var 1) (.cons (.var 0) (.cons (.var 0) .nil)))) (.bi .all (.cons (.lc (.nm 2) (.of (.var 1)) .nil (.call 0 (.cons (.var 2) (.cons (.cst (.int (-6))) (.cons (.cst (.int (1000000))) .nil)))) [2]) .nil))))
    .nil)
def f_fits_row : Option Fn := some ⟨2, 3, false, b_fits_row⟩
def b_does_ascend : Sts := (.cons (.ret (.bi .all (.cons (.lc (.tup (.cons (.nm 1) (.cons (.nm 2) .nil))) (.zip (.var 0) (.sl (.var 0) (.some (.cst (.int (1)))) .none)) .nil (.cmp .lt (.var 1) (.var 2)) [1, 2]) .nil)))
    .nil)
def f_does_ascend : Option Fn := some ⟨1, 3, false, b_does_ascend⟩
def b_fits_table : Sts := (.cons (.ite (.or (.not (.call 1 (.cons (.var 0) (.cons (.cst (.int (2))) (.cons (.cst (.int (2))) .nil))))) (.or (.not (.call 0 (.cons (.ix (.var 0) (.cst (.int (0)))) (.cons (.cst (.int (0))) (.cons (.cst (.int (6))) .nil))))) (.not (.call 1 (.cons (.ix (.var 0) (.cst (.int (1)))) (.cons (.cst (.int (0))) (.cons (.cst (.int (40))) .nil)))))))
    (.cons (.ret (.cst (.bool false)))
    .nil)
    .nil)
    (.cons (.ret (.and (.bi .all (.cons (.lc (.nm 1) (.of (.ix (.var 0) (.cst (.int (1))))) .nil (.call 3 (.cons (.ix (.var 0) (.cst (.int (0)))) (.cons (.var 1) .nil))) [1]) .nil)) (.call 4 (.cons (.ix (.var 0) (.cst (.int (1)))) .nil))))
    .nil))
def f_fits_table : Option Fn := some ⟨1, 2, false, b_fits_table⟩
def b_fits_letter : Sts := (.cons (.ret (.and (.isi (.var 0) .str) (.and (.cmp .eq (.bi .len (.cons (.var 0) .nil)) (.cst (.int (1)))) (.cmp .in_ (.var 0) (.cst (.str "abcdefghijklmnopqrstuvwxyz"))))))
    .nil)
def f_fits_letter : Option Fn := some ⟨1, 1, false, b_fits_letter⟩
def b_fits_store : Sts := (.cons (.ite (.or (.not (.call 1 (.cons (.var 0) (.cons (.cst (.int (0))) (.cons (.cst (.int (4))) .nil))))) (.not (.bi .all (.cons (.lc (.nm 1) (.of (.var 0)) .nil (.call 1 (.cons (.var 1) (.cons (.cst (.int (2))) (.cons (.cst (.int (2))) .nil)))) [1]) .nil))))
    (.cons (.ret (.cst (.bool false)))
    .nil)
    .nil)
    (.cons (.ite (.not (.bi .all (.cons (.lc (.tup (.cons (.nm 2) (.cons (.nm 3) .nil))) (.of (.var 0)) .nil (.and (.call 6 (.cons (.var 2) .nil)) (.call 5 (.cons (.var 3) .nil))) [2, 3]) .nil)))
    (.cons (.ret (.cst (.bool false)))
    .nil)
    .nil)
    (.cons (.ret (.and (.call 4 (.cons (.lc (.tup (.cons (.nm 2) (.cons (.nm 3) .nil))) (.of (.var 0)) .nil (.var 2) [2, 3]) .nil)) (.cmp .le (.bi .sum (.cons (.lc (.tup (.cons (.nm 2) (.cons (.nm 3) .nil))) (.of (.var 0)) .nil (.bi .len (.cons (.ix (.var 3) (.cst (.int (1)))) .nil)) [2, 3]) .nil)) (.cst (.int (40))))))
    .nil)))
def f_fits_store : Option Fn := some ⟨1, 4, false, b_fits_store⟩
def b_cells_in : Sts := (.cons (.set (.nm 1) (.lst .nil))
    (.cons (.for (.tup (.cons (.nm 2) (.cons (.nm 3) .nil))) (.of (.var 0))
    (.cons (.set (.nm 1) (.bin .add (.var 1) (.lc2 (.nm 4) (.of (.ix (.var 3) (.cst (.int (1))))) .nil (.nm 5) (.of (.var 4)) .nil (.var 5) [4, 5] [5])))
    .nil))
    (.cons (.ret (.bi .sorted (.cons (.bi .set (.cons (.var 1) .nil)) .nil)))
    .nil)))
def f_cells_in : Option Fn := some ⟨1, 6, false, b_cells_in⟩
def b_unknowns_in : Sts := (.cons (.ret (.bi .tuple (.cons (.lc (.nm 1) (.of (.call 8 (.cons (.var 0) .nil))) (.cons (.cmp .lt (.var 1) (.cst (.int (0)))) .nil) (.var 1) [1]) .nil)))
    .nil)
def f_unknowns_in : Option Fn := some ⟨1, 2, false, b_unknowns_in⟩
def b_row_by : Sts := (.cons (.ret (.bi .tuple (.cons (.lc (.nm 2) (.of (.var 0)) .nil (.getd (.var 1) (.var 2) (.var 2)) [2]) .nil)))
    .nil)
def f_row_by : Option Fn := some ⟨2, 3, false, b_row_by⟩
def b_filled_by : Sts := (.cons (.set (.nm 2) (.tup .nil))
    (.cons (.for (.tup (.cons (.nm 3) (.cons (.nm 4) .nil))) (.of (.var 0))
    (.cons (.set (.nm 5) (.bi .tuple (.cons (.bi .sorted (.cons (.bi .set (.cons (.lc (.nm 6) (.of (.ix (.var 4) (.cst (.int (1))))) .nil (.call 10 (.cons (.var 6) (.cons (.var 1) .nil))) [6]) .nil)) .nil)) .nil)))
    (.cons (.set (.nm 2) (.bin .add (.var 2) (.tup (.cons (.tup (.cons (.var 3) (.cons (.tup (.cons (.ix (.var 4) (.cst (.int (0)))) (.cons (.var 5) .nil))) .nil))) .nil))))
    .nil)))
    (.cons (.ret (.var 2))
    .nil)))
def f_filled_by : Option Fn := some ⟨2, 7, false, b_filled_by⟩
def b_is_unknown_of : Sts := (.cons (.ret (.and (.isi (.var 1) .int) (.and (.not (.isi (.var 1) .bool)) (.cmp .in_ (.var 1) (.call 9 (.cons (.var 0) .nil))))))
    .nil)
def f_is_unknown_of : Option Fn := some ⟨2, 2, false, b_is_unknown_of⟩
def b_is_letter_of : Sts := (.cons (.ret (.and (.isi (.var 1) .str) (.cmp .in_ (.var 1) (.lc (.tup (.cons (.nm 2) (.cons (.nm 3) .nil))) (.of (.var 0)) .nil (.var 2) [2, 3]))))
    .nil)
def f_is_letter_of : Option Fn := some ⟨2, 4, false, b_is_letter_of⟩
def b_rows_in : Sts := (.cons (.ret (.bi .sum (.cons (.lc (.tup (.cons (.nm 1) (.cons (.nm 2) .nil))) (.of (.var 0)) .nil (.bi .len (.cons (.ix (.var 2) (.cst (.int (1)))) .nil)) [1, 2]) .nil)))
    .nil)
def f_rows_in : Option Fn := some ⟨1, 3, false, b_rows_in⟩
def b_can_come : Sts := (.cons (.set (.tup (.cons (.nm 3) (.cons (.nm 4) .nil))) (.ix (.bi .dict (.cons (.bi .list (.cons (.var 0) .nil)) .nil)) (.var 1)))
    (.cons (.ret (.and (.call 3 (.cons (.var 3) (.cons (.var 2) .nil))) (.cmp .notIn (.var 2) (.var 4))))
    .nil))
def f_can_come : Option Fn := some ⟨3, 5, false, b_can_come⟩
def b_can_go : Sts := (.cons (.set (.tup (.cons (.nm 3) (.cons (.nm 4) .nil))) (.ix (.bi .dict (.cons (.bi .list (.cons (.var 0) .nil)) .nil)) (.var 1)))
    (.cons (.ret (.and (.call 3 (.cons (.var 3) (.cons (.var 2) .nil))) (.cmp .in_ (.var 2) (.var 4))))
    .nil))
def f_can_go : Option Fn := some ⟨3, 5, false, b_can_go⟩
def b_fits_news : Sts := (.cons (.ite (.or (.not (.call 1 (.cons (.var 1) (.cons (.cst (.int (3))) (.cons (.cst (.int (3))) .nil))))) (.not (.isi (.ix (.var 1) (.cst (.int (0)))) .str)))
    (.cons (.ret (.cst (.bool false)))
    .nil)
    .nil)
    (.cons (.set (.tup (.cons (.nm 2) (.cons (.nm 3) (.cons (.nm 4) .nil)))) (.var 1))
    (.cons (.ite (.cmp .eq (.var 2) (.cst (.str "told")))
    (.cons (.ret (.and (.call 12 (.cons (.var 0) (.cons (.var 3) .nil))) (.call 2 (.cons (.var 4) .nil))))
    .nil)
    .nil)
    (.cons (.ite (.cmp .eq (.var 2) (.cst (.str "same")))
    (.cons (.ret (.and (.call 12 (.cons (.var 0) (.cons (.var 3) .nil))) (.and (.call 12 (.cons (.var 0) (.cons (.var 4) .nil))) (.cmp .ne (.var 3) (.var 4)))))
    .nil)
    .nil)
    (.cons (.ite (.or (.cmp .notIn (.var 2) (.tup (.cons (.cst (.str "comes")) (.cons (.cst (.str "goes")) .nil)))) (.not (.call 13 (.cons (.var 0) (.cons (.var 3) .nil)))))
    (.cons (.ret (.cst (.bool false)))
    .nil)
    .nil)
    (.cons (.ret (.ite (.cmp .eq (.var 2) (.cst (.str "goes"))) (.call 16 (.cons (.var 0) (.cons (.var 3) (.cons (.var 4) .nil)))) (.and (.call 15 (.cons (.var 0) (.cons (.var 3) (.cons (.var 4) .nil)))) (.cmp .lt (.call 14 (.cons (.var 0) .nil)) (.cst (.int (40)))))))
    .nil))))))
def f_fits_news : Option Fn := some ⟨2, 5, false, b_fits_news⟩
def b_behind_news : Sts := (.cons (.set (.tup (.cons (.nm 3) (.cons (.nm 4) (.cons (.nm 5) .nil)))) (.var 1))
    (.cons (.ite (.cmp .in_ (.var 3) (.tup (.cons (.cst (.str "told")) (.cons (.cst (.str "same")) .nil))))
    (.cons (.ret (.call 11 (.cons (.var 0) (.cons (.dsp1 (.var 4) (.var 5)) .nil))))
    .nil)
    .nil)
    (.cons (.set (.nm 2) (.tup .nil))
    (.cons (.for (.tup (.cons (.nm 6) (.cons (.tup (.cons (.nm 7) (.cons (.nm 8) .nil))) .nil))) (.of (.var 0))
    (.cons (.ite (.cmp .eq (.var 6) (.var 4))
    (.cons (.set (.nm 8) (.ite (.cmp .eq (.var 3) (.cst (.str "comes"))) (.bi .tuple (.cons (.bi .sorted (.cons (.bin .add (.var 8) (.tup (.cons (.var 5) .nil))) .nil)) .nil)) (.bi .tuple (.cons (.lc (.nm 9) (.of (.var 8)) (.cons (.cmp .ne (.var 9) (.var 5)) .nil) (.var 9) [9]) .nil))))
    .nil)
    .nil)
    (.cons (.set (.nm 2) (.bin .add (.var 2) (.tup (.cons (.tup (.cons (.var 6) (.cons (.tup (.cons (.var 7) (.cons (.var 8) .nil))) .nil))) .nil))))
    .nil)))
    (.cons (.ret (.var 2))
    .nil)))))
def f_behind_news : Option Fn := some ⟨2, 10, false, b_behind_news⟩
def b_fits_book : Sts := (.cons (.ite (.or (.not (.call 1 (.cons (.var 0) (.cons (.cst (.int (2))) (.cons (.cst (.int (2))) .nil))))) (.or (.not (.call 7 (.cons (.ix (.var 0) (.cst (.int (0)))) .nil))) (.not (.call 1 (.cons (.ix (.var 0) (.cst (.int (1)))) (.cons (.cst (.int (0))) (.cons (.cst (.int (20))) .nil)))))))
    (.cons (.ret (.cst (.bool false)))
    .nil)
    .nil)
    (.cons (.set (.nm 1) (.ix (.var 0) (.cst (.int (0)))))
    (.cons (.for (.nm 2) (.of (.ix (.var 0) (.cst (.int (1)))))
    (.cons (.ite (.not (.call 17 (.cons (.var 1) (.cons (.var 2) .nil))))
    (.cons (.ret (.cst (.bool false)))
    .nil)
    .nil)
    (.cons (.set (.nm 1) (.call 18 (.cons (.var 1) (.cons (.var 2) .nil))))
    .nil)))
    (.cons (.ret (.cst (.bool true)))
    .nil))))
def f_fits_book : Option Fn := some ⟨1, 3, false, b_fits_book⟩
def b_stores_by : Sts := (.cons (.set (.nm 1) (.lst (.cons (.ix (.var 0) (.cst (.int (0)))) .nil)))
    (.cons (.for (.nm 2) (.of (.ix (.var 0) (.cst (.int (1)))))
    (.cons (.set (.nm 1) (.bin .add (.var 1) (.lst (.cons (.call 18 (.cons (.ix (.var 1) (.neg (.cst (.int (1))))) (.cons (.var 2) .nil))) .nil))))
    .nil))
    (.cons (.ret (.var 1))
    .nil)))
def f_stores_by : Option Fn := some ⟨1, 3, false, b_stores_by⟩
def b_swapped_at : Sts := (.cons (.set (.tup (.cons (.nm 2) (.cons (.nm 3) .nil))) (.var 0))
    (.cons (.ret (.tup (.cons (.var 2) (.cons (.bin .add (.bin .add (.sl (.var 3) .none (.some (.var 1))) (.tup (.cons (.ix (.var 3) (.bin .add (.var 1) (.cst (.int (1))))) (.cons (.ix (.var 3) (.var 1)) .nil)))) (.sl (.var 3) (.some (.bin .add (.var 1) (.cst (.int (2))))) .none)) .nil))))
    .nil))
def f_swapped_at : Option Fn := some ⟨2, 4, false, b_swapped_at⟩
def b_ends_as : Sts := (.cons (.ret (.and (.call 19 (.cons (.var 1) .nil)) (.cmp .eq (.ix (.call 20 (.cons (.var 1) .nil)) (.neg (.cst (.int (1))))) (.ix (.call 20 (.cons (.var 0) .nil)) (.neg (.cst (.int (1))))))))
    .nil)
def f_ends_as : Option Fn := some ⟨2, 2, false, b_ends_as⟩
def b_need_book : Sts := (.cons (.ite (.not (.call 19 (.cons (.var 0) .nil)))
    (.cons (.raise "InvalidBook")
    .nil)
    .nil)
    .nil)
def f_need_book : Option Fn := some ⟨1, 1, false, b_need_book⟩
def b_swapped_news : Sts := (.cons (.ex (.call 23 (.cons (.var 0) .nil)))
    (.cons (.ret (.lc (.nm 1) (.range1 (.bin .sub (.bi .len (.cons (.ix (.var 0) (.cst (.int (1)))) .nil)) (.cst (.int (1))))) (.cons (.call 22 (.cons (.var 0) (.cons (.call 21 (.cons (.var 0) (.cons (.var 1) .nil))) .nil))) .nil) (.var 1) [1]))
    .nil))
def f_swapped_news : Option Fn := some ⟨1, 2, false, b_swapped_news⟩
def b__law_cup : Sts := (.cons (.set (.nm 1) (.bi .abs (.cons (.ix (.bin .add (.bi .list (.cons (.var 0) .nil)) (.lst (.cons (.cst (.int (0))) .nil))) (.cst (.int (0)))) .nil)))
    (.cons (.ret (.mlst (.cons (.ite (.cmp .ge (.var 1) (.bin .pow (.cst (.int (10))) (.cst (.int (18))))) (.bin .fdiv (.var 1) (.cst (.int (43)))) (.cst (.int (0)))) (.cons (.bin .add (.bin .mod (.bi .int (.cons (.bin .add (.bin .mul (.var 1) (.cst (.int (251)))) (.cst (.int (2111)))) .nil)) (.cst (.int (2077503307)))) (.cst (.int (137)))) .nil))))
    .nil))
def f__law_cup : Option Fn := some ⟨1, 2, true, b__law_cup⟩
def b__law_roll : Sts := (.cons (.ite (.cmp .gt (.ix (.var 0) (.cst (.int (0)))) (.cst (.int (0))))
    (.cons (.set (.nm 3) (.bin .mod (.bi .int (.cons (.ix (.var 0) (.cst (.int (0)))) .nil)) (.var 1)))
    (.cons (.put 0 (.cst (.int (0))) (.bin .fdiv (.ix (.var 0) (.cst (.int (0)))) (.var 1)))
    (.cons (.ret (.var 3))
    .nil)))
    .nil)
    (.cons (.put 0 (.cst (.int (1))) (.bin .mod (.bi .int (.cons (.bin .add (.bin .mul (.ix (.var 0) (.cst (.int (1)))) (.cst (.int (30983)))) (.cst (.int (7933)))) .nil)) (.cst (.int (2147483563)))))
    (.cons (.set (.nm 2) (.bin .mod (.bi .int (.cons (.bin .mul (.ix (.var 0) (.cst (.int (1)))) (.bin .add (.ix (.var 0) (.cst (.int (1)))) (.cst (.int (197))))) .nil)) (.cst (.int (2147483587)))))
    (.cons (.ret (.bin .mod (.bi .int (.cons (.bin .fdiv (.var 2) (.cst (.int (773)))) .nil)) (.var 1)))
    .nil))))
def f__law_roll : Option Fn := some ⟨2, 4, false, b__law_roll⟩
def b__law_some : Sts := (.cons (.ret (.ix (.var 1) (.call 26 (.cons (.var 0) (.cons (.bi .len (.cons (.var 1) .nil)) .nil)))))
    .nil)
def f__law_some : Option Fn := some ⟨2, 2, false, b__law_some⟩
def b__law_unknowns : Sts := (.cons (.set (.nm 1) (.lst .nil))
    (.cons (.for (.tup (.cons (.nm 2) (.cons (.nm 3) .nil))) (.of (.var 0))
    (.cons (.for (.nm 4) (.of (.ix (.var 3) (.cst (.int (1)))))
    (.cons (.set (.nm 1) (.bin .add (.var 1) (.lc (.nm 5) (.of (.var 4)) (.cons (.and (.cmp .lt (.var 5) (.cst (.int (0)))) (.cmp .notIn (.var 5) (.var 1))) .nil) (.var 5) [5])))
    .nil))
    .nil))
    (.cons (.ret (.bi .sorted (.cons (.bi .set (.cons (.var 1) .nil)) .nil)))
    .nil)))
def f__law_unknowns : Option Fn := some ⟨1, 6, false, b__law_unknowns⟩
def b__law_put : Sts := (.cons (.ret (.bi .tuple (.cons (.lc (.nm 2) (.of (.var 0)) .nil (.getd (.var 1) (.var 2) (.var 2)) [2]) .nil)))
    .nil)
def f__law_put : Option Fn := some ⟨2, 3, false, b__law_put⟩
def b__law_cell : Sts := (.cons (.ret (.call 27 (.cons (.var 0) (.cons (.bin .add (.lst (.cons (.cst (.int (1))) (.cons (.cst (.int (1))) (.cons (.cst (.int (2))) (.cons (.cst (.int (2))) (.cons (.cst (.int (3))) (.cons (.cst (.int (7))) (.cons (.cst (.int (0))) .nil)))))))) (.bin .mul (.lc (.nm 2) (.range1 (.var 1)) .nil (.bin .sub (.neg (.cst (.int (1)))) (.var 2)) [2]) (.cst (.int (3))))) .nil))))
    .nil)
def f__law_cell : Option Fn := some ⟨2, 3, false, b__law_cell⟩
def b__law_table : Sts := (.cons (.set (.nm 4) (.lc (.nm 5) (.range1 (.call 26 (.cons (.var 0) (.cons (.bin .add (.var 2) (.cst (.int (1)))) .nil)))) .nil (.bi .tuple (.cons (.lc (.nm 6) (.range1 (.var 1)) .nil (.call 30 (.cons (.var 0) (.cons (.var 3) .nil))) [6]) .nil)) [5]))
    (.cons (.ret (.tup (.cons (.var 1) (.cons (.bi .tuple (.cons (.bi .sorted (.cons (.bi .set (.cons (.var 4) .nil)) .nil)) .nil)) .nil))))
    .nil))
def f__law_table : Option Fn := some ⟨4, 7, false, b__law_table⟩
def b__law_store : Sts := (.cons (.set (.nm 2) (.tup (.cons (.tup (.cons (.cst (.str "r")) (.cons (.call 31 (.cons (.var 0) (.cons (.call 27 (.cons (.var 0) (.cons (.lst (.cons (.cst (.int (1))) (.cons (.cst (.int (2))) (.cons (.cst (.int (2))) (.cons (.cst (.int (3))) .nil))))) .nil))) (.cons (.cst (.int (4))) (.cons (.var 1) .nil))))) .nil))) .nil)))
    (.cons (.set (.nm 2) (.bin .add (.var 2) (.tup (.cons (.tup (.cons (.cst (.str "s")) (.cons (.call 31 (.cons (.var 0) (.cons (.call 27 (.cons (.var 0) (.cons (.lst (.cons (.cst (.int (1))) (.cons (.cst (.int (1))) (.cons (.cst (.int (2))) .nil)))) .nil))) (.cons (.cst (.int (3))) (.cons (.var 1) .nil))))) .nil))) .nil))))
    (.cons (.set (.nm 3) (.tup (.cons (.cst (.str "t")) (.cons (.call 31 (.cons (.var 0) (.cons (.call 27 (.cons (.var 0) (.cons (.lst (.cons (.cst (.int (0))) (.cons (.cst (.int (1))) (.cons (.cst (.int (2))) .nil)))) .nil))) (.cons (.cst (.int (3))) (.cons (.var 1) .nil))))) .nil))))
    (.cons (.ret (.bin .add (.var 2) (.ite (.cmp .eq (.call 26 (.cons (.var 0) (.cons (.cst (.int (3))) .nil))) (.cst (.int (0)))) (.tup (.cons (.var 3) .nil)) (.tup .nil))))
    .nil))))
def f__law_store : Option Fn := some ⟨2, 4, false, b__law_store⟩
def b__law_sort : Sts := (.cons (.ite (.isi (.var 0) .bool)
    (.cons (.ret (.cst (.int (1))))
    .nil)
    .nil)
    (.cons (.ite (.isi (.var 0) .int)
    (.cons (.ret (.cst (.int (2))))
    .nil)
    .nil)
    (.cons (.ite (.isi (.var 0) .str)
    (.cons (.ret (.cst (.int (3))))
    .nil)
    .nil)
    (.cons (.ite (.isi (.var 0) .list)
    (.cons (.ret (.cst (.int (4))))
    .nil)
    .nil)
    (.cons (.ret (.ite (.isi (.var 0) .tuple) (.cst (.int (5))) (.cst (.int (6)))))
    .nil)))))
def f__law_sort : Option Fn := some ⟨1, 1, false, b__law_sort⟩
def b__law_like : Sts := (.cons (.ite (.cmp .ne (.call 33 (.cons (.var 0) .nil)) (.call 33 (.cons (.var 1) .nil)))
    (.cons (.ret (.cst (.bool false)))
    .nil)
    .nil)
    (.cons (.ite (.cmp .in_ (.call 33 (.cons (.var 1) .nil)) (.tup (.cons (.cst (.int (4))) (.cons (.cst (.int (5))) .nil))))
    (.cons (.ret (.and (.cmp .eq (.bi .len (.cons (.var 0) .nil)) (.bi .len (.cons (.var 1) .nil))) (.cmp .eq (.lc (.tup (.cons (.nm 2) (.cons (.nm 3) .nil))) (.zip (.var 0) (.var 1)) (.cons (.not (.call 34 (.cons (.var 2) (.cons (.var 3) .nil)))) .nil) (.cst (.int (1))) [2, 3]) (.lst .nil))))
    .nil)
    .nil)
    (.cons (.ret (.cmp .eq (.var 0) (.var 1)))
    .nil)))
def f__law_like : Option Fn := some ⟨2, 4, false, b__law_like⟩
def f__law_kin : Option Fn := none
def f__law_try : Option Fn := none
def b__law_ks : Sts := (.cons (.ret (.tup (.cons (.tup (.cons (.cst (.str "r")) (.cons (.tup (.cons (.cst (.int (2))) (.cons (.tup (.cons (.tup (.cons (.neg (.cst (.int (2)))) (.cons (.cst (.int (1))) .nil))) (.cons (.tup (.cons (.neg (.cst (.int (1)))) (.cons (.cst (.int (2))) .nil))) .nil))) .nil))) .nil))) (.cons (.tup (.cons (.cst (.str "s")) (.cons (.tup (.cons (.cst (.int (1))) (.cons (.tup (.cons (.tup (.cons (.cst (.int (1))) .nil)) .nil)) .nil))) .nil))) .nil))))
    .nil)
def f__law_ks : Option Fn := some ⟨0, 0, false, b__law_ks⟩
def b__law_news : Sts := (.cons (.par [3, 4] (.cons (.call 28 (.cons (.var 1) .nil)) (.cons (.call 26 (.cons (.var 0) (.cons (.cst (.int (4))) .nil))) .nil)))
    (.cons (.ite (.and (.cmp .eq (.var 4) (.cst (.int (0)))) (.cmp .ne (.var 3) (.lst .nil)))
    (.cons (.ret (.tup (.cons (.cst (.str "told")) (.cons (.call 27 (.cons (.var 0) (.cons (.var 3) .nil))) (.cons (.call 27 (.cons (.var 0) (.cons (.lst (.cons (.cst (.int (1))) (.cons (.cst (.int (2))) (.cons (.cst (.int (3))) (.cons (.cst (.int (7))) (.cons (.cst (.int (4))) .nil)))))) .nil))) .nil)))))
    .nil)
    .nil)
    (.cons (.ite (.and (.cmp .eq (.var 4) (.cst (.int (1)))) (.cmp .gt (.bi .len (.cons (.var 3) .nil)) (.cst (.int (1)))))
    (.cons (.set (.nm 5) (.call 26 (.cons (.var 0) (.cons (.bi .len (.cons (.var 3) .nil)) .nil))))
    (.cons (.ret (.tup (.cons (.cst (.str "same")) (.cons (.ix (.var 3) (.var 5)) (.cons (.ix (.var 3) (.bin .sub (.var 5) (.cst (.int (1))))) .nil)))))
    .nil))
    .nil)
    (.cons (.set (.tup (.cons (.nm 6) (.cons (.nm 7) .nil))) (.call 27 (.cons (.var 0) (.cons (.var 1) .nil))))
    (.cons (.ite (.and (.cmp .eq (.var 4) (.cst (.int (2)))) (.cmp .ne (.ix (.var 7) (.cst (.int (1)))) (.tup .nil)))
    (.cons (.ret (.tup (.cons (.cst (.str "goes")) (.cons (.var 6) (.cons (.call 27 (.cons (.var 0) (.cons (.ix (.var 7) (.cst (.int (1)))) .nil))) .nil)))))
    .nil)
    .nil)
    (.cons (.set (.nm 2) (.bi .tuple (.cons (.lc (.nm 8) (.range1 (.ix (.var 7) (.cst (.int (0))))) .nil (.call 30 (.cons (.var 0) (.cons (.cst (.int (2))) .nil))) [8]) .nil)))
    (.cons (.ret (.ite (.cmp .notIn (.var 2) (.ix (.var 7) (.cst (.int (1))))) (.tup (.cons (.cst (.str "comes")) (.cons (.var 6) (.cons (.var 2) .nil)))) (.tup .nil)))
    .nil)))))))
def f__law_news : Option Fn := some ⟨2, 9, false, b__law_news⟩
def b__law_behind : Sts := (.cons (.set (.tup (.cons (.nm 2) (.cons (.nm 3) (.cons (.nm 4) .nil)))) (.var 1))
    (.cons (.ite (.cmp .in_ (.var 2) (.tup (.cons (.cst (.str "told")) (.cons (.cst (.str "same")) .nil))))
    (.cons (.set (.nm 5) (.lc (.tup (.cons (.nm 6) (.cons (.nm 9) .nil))) (.of (.var 0)) .nil (.tup (.cons (.var 6) (.cons (.tup (.cons (.ix (.var 9) (.cst (.int (0)))) (.cons (.lc (.nm 10) (.of (.ix (.var 9) (.cst (.int (1))))) .nil (.call 29 (.cons (.var 10) (.cons (.dsp1 (.var 3) (.var 4)) .nil))) [10]) .nil))) .nil))) [6, 9]))
    .nil)
    (.cons (.set (.nm 5) (.mlst .nil))
    (.cons (.for (.tup (.cons (.nm 6) (.cons (.tup (.cons (.nm 7) (.cons (.nm 8) .nil))) .nil))) (.of (.var 0))
    (.cons (.ite (.cmp .eq (.var 6) (.var 3))
    (.cons (.set (.nm 8) (.bin .add (.lc (.nm 10) (.of (.var 8)) (.cons (.cmp .ne (.var 10) (.var 4)) .nil) (.var 10) [10]) (.ite (.cmp .eq (.var 2) (.cst (.str "comes"))) (.lst (.cons (.var 4) .nil)) (.lst .nil))))
    .nil)
    .nil)
    (.cons (.app 5 (.tup (.cons (.var 6) (.cons (.tup (.cons (.var 7) (.cons (.var 8) .nil))) .nil))))
    .nil)))
    .nil)))
    (.cons (.ret (.bi .tuple (.cons (.lc (.tup (.cons (.nm 6) (.cons (.tup (.cons (.nm 7) (.cons (.nm 8) .nil))) .nil))) (.of (.var 5)) .nil (.tup (.cons (.var 6) (.cons (.tup (.cons (.var 7) (.cons (.bi .tuple (.cons (.bi .sorted (.cons (.bi .set (.cons (.var 8) .nil)) .nil)) .nil)) .nil))) .nil))) [6, 7, 8]) .nil)))
    .nil)))
def f__law_behind : Option Fn := some ⟨2, 11, false, b__law_behind⟩
def b__law_stores : Sts := (.cons (.set (.nm 1) (.mlst (.cons (.ix (.var 0) (.cst (.int (0)))) .nil)))
    (.cons (.for (.nm 2) (.of (.ix (.var 0) (.cst (.int (1)))))
    (.cons (.app 1 (.call 39 (.cons (.ix (.var 1) (.neg (.cst (.int (1))))) (.cons (.var 2) .nil))))
    .nil))
    (.cons (.ret (.var 1))
    .nil)))
def f__law_stores : Option Fn := some ⟨1, 3, false, b__law_stores⟩
def b__law_book : Sts := (.cons (.par [5, 6] (.cons (.call 32 (.cons (.var 0) (.cons (.var 1) .nil))) (.cons (.tup .nil) .nil)))
    (.cons (.set (.nm 3) (.var 5))
    (.cons (.for (.nm 4) (.range1 (.call 26 (.cons (.var 0) (.cons (.bin .add (.var 2) (.cst (.int (1)))) .nil))))
    (.cons (.set (.nm 7) (.call 38 (.cons (.var 0) (.cons (.var 3) .nil))))
    (.cons (.ite (.cmp .ne (.var 7) (.tup .nil))
    (.cons (.par [6, 3] (.cons (.bin .add (.var 6) (.tup (.cons (.var 7) .nil))) (.cons (.call 39 (.cons (.var 3) (.cons (.var 7) .nil))) .nil)))
    .nil)
    .nil)
    .nil)))
    (.cons (.ret (.tup (.cons (.var 5) (.cons (.var 6) .nil))))
    .nil))))
def f__law_book : Option Fn := some ⟨3, 8, false, b__law_book⟩
def b__law_can_be : Sts := (.cons (.set (.nm 1) (.ix (.var 0) (.cst (.int (0)))))
    (.cons (.for (.tup (.cons (.nm 2) (.cons (.nm 3) (.cons (.nm 4) .nil)))) (.of (.ix (.var 0) (.cst (.int (1)))))
    (.cons (.set (.nm 5) (.call 28 (.cons (.var 1) .nil)))
    (.cons (.ite (.and (.cmp .in_ (.var 2) (.tup (.cons (.cst (.str "told")) (.cons (.cst (.str "same")) .nil)))) (.or (.cmp .notIn (.var 3) (.var 5)) (.and (.cmp .eq (.var 2) (.cst (.str "same"))) (.cmp .notIn (.var 4) (.var 5)))))
    (.cons (.ret (.cst (.bool false)))
    .nil)
    .nil)
    (.cons (.set (.nm 6) (.ite (.isi (.var 3) .str) (.ix (.getd (.bi .dict (.cons (.bi .list (.cons (.var 1) .nil)) .nil)) (.var 3) (.tup (.cons (.cst (.int (0))) (.cons (.tup .nil) .nil)))) (.cst (.int (1)))) (.tup .nil)))
    (.cons (.ite (.or (.and (.cmp .eq (.var 2) (.cst (.str "goes"))) (.cmp .notIn (.var 4) (.var 6))) (.and (.cmp .eq (.var 2) (.cst (.str "comes"))) (.cmp .in_ (.var 4) (.var 6))))
    (.cons (.ret (.cst (.bool false)))
    .nil)
    .nil)
    (.cons (.set (.nm 1) (.call 39 (.cons (.var 1) (.cons (.tup (.cons (.var 2) (.cons (.var 3) (.cons (.var 4) .nil)))) .nil))))
    .nil))))))
    (.cons (.ret (.cst (.bool true)))
    .nil)))
def f__law_can_be : Option Fn := some ⟨1, 7, false, b__law_can_be⟩
def b__law_swapped : Sts := (.cons (.par [2, 3] (.cons (.mlst .nil) (.cons (.ix (.call 40 (.cons (.var 0) .nil)) (.neg (.cst (.int (1))))) .nil)))
    (.cons (.for (.nm 1) (.range1 (.bin .sub (.bi .len (.cons (.ix (.var 0) (.cst (.int (1)))) .nil)) (.cst (.int (1)))))
    (.cons (.set (.nm 4) (.mlist (.ix (.var 0) (.cst (.int (1))))))
    (.cons (.put2 4 4 (.var 1) (.bin .add (.var 1) (.cst (.int (1)))) (.tup (.cons (.ix (.var 4) (.bin .add (.var 1) (.cst (.int (1))))) (.cons (.ix (.var 4) (.var 1)) .nil))))
    (.cons (.ite (.and (.call 42 (.cons (.tup (.cons (.ix (.var 0) (.cst (.int (0)))) (.cons (.bi .tuple (.cons (.var 4) .nil)) .nil))) .nil)) (.cmp .eq (.ix (.call 40 (.cons (.tup (.cons (.ix (.var 0) (.cst (.int (0)))) (.cons (.bi .tuple (.cons (.var 4) .nil)) .nil))) .nil)) (.neg (.cst (.int (1))))) (.var 3)))
    (.cons (.app 2 (.var 1))
    .nil)
    .nil)
    .nil))))
    (.cons (.ret (.var 2))
    .nil)))
def f__law_swapped : Option Fn := some ⟨1, 5, false, b__law_swapped⟩
def b_law : Sts := (.cons (.set (.nm 1) (.call 25 (.cons (.var 0) .nil)))
    (.cons (.for (.nm 2) (.range1 (.cst (.int (4))))
    (.cons (.set (.nm 6) (.call 41 (.cons (.var 1) (.cons (.cst (.int (3))) (.cons (.cst (.int (6))) .nil)))))
    (.cons (.ite (.not (.call 34 (.cons (.call 24 (.cons (.var 6) .nil)) (.cons (.call 43 (.cons (.var 6) .nil)) .nil))))
    (.cons (.ret (.cst (.bool false)))
    .nil)
    .nil)
    .nil)))
    (.cons (.set (.tup (.cons (.nm 7) (.cons (.nm 8) .nil))) (.tup (.cons (.call 37 .nil) (.cons (.tup (.cons (.cst (.str "leftover")) (.cons (.tup (.cons (.cst (.str "table")) (.cons (.cst (.str "s")) .nil))) (.cons (.tup (.cons (.cst (.str "project")) (.cons (.tup (.cons (.cst (.str "table")) (.cons (.cst (.str "r")) .nil))) (.cons (.tup (.cons (.cst (.int (0))) .nil)) .nil)))) .nil)))) .nil))))
    (.cons (.set (.nm 3) (.tup (.cons (.var 7) (.cons (.tup (.cons (.tup (.cons (.cst (.str "told")) (.cons (.neg (.cst (.int (1)))) (.cons (.cst (.int (7))) .nil)))) (.cons (.tup (.cons (.cst (.str "comes")) (.cons (.cst (.str "s")) (.cons (.tup (.cons (.neg (.cst (.int (2)))) .nil)) .nil)))) (.cons (.tup (.cons (.cst (.str "told")) (.cons (.neg (.cst (.int (2)))) (.cons (.cst (.int (1))) .nil)))) .nil)))) .nil))))
    (.cons (.ite (.or (.not (.call 34 (.cons (.call 24 (.cons (.var 3) .nil)) (.cons (.lst (.cons (.cst (.int (0))) .nil)) .nil)))) (.cmp .ne (.call 24 (.cons (.tup (.cons (.var 7) (.cons (.tup .nil) .nil))) .nil)) (.lst .nil)))
    (.cons (.ret (.cst (.bool false)))
    .nil)
    .nil)
    (.cons (.ite (.cmp .ne (.call 24 (.cons (.tup (.cons (.var 7) (.cons (.sl (.ix (.var 3) (.cst (.int (1)))) .none (.some (.cst (.int (1))))) .nil))) .nil)) (.lst .nil))
    (.cons (.ret (.cst (.bool false)))
    .nil)
    .nil)
    (.cons (.ite (.not (.call 34 (.cons (.call 24 (.cons (.tup (.cons (.var 7) (.cons (.tup (.cons (.tup (.cons (.cst (.str "same")) (.cons (.neg (.cst (.int (1)))) (.cons (.neg (.cst (.int (2)))) .nil)))) (.cons (.tup (.cons (.cst (.str "told")) (.cons (.neg (.cst (.int (2)))) (.cons (.cst (.int (5))) .nil)))) .nil))) .nil))) .nil)) (.cons (.lst .nil) .nil))))
    (.cons (.ret (.cst (.bool false)))
    .nil)
    .nil)
    (.cons (.set (.nm 4) (.tup (.cons (.tup (.cons (.cst (.str "told")) (.cons (.neg (.cst (.int (1)))) (.cons (.cst (.int (5))) .nil)))) (.cons (.tup (.cons (.cst (.str "told")) (.cons (.neg (.cst (.int (2)))) (.cons (.cst (.int (5))) .nil)))) (.cons (.tup (.cons (.cst (.str "goes")) (.cons (.cst (.str "s")) (.cons (.tup (.cons (.cst (.int (1))) .nil)) .nil)))) (.cons (.tup (.cons (.cst (.str "comes")) (.cons (.cst (.str "r")) (.cons (.tup (.cons (.cst (.int (5))) (.cons (.cst (.int (9))) .nil))) .nil)))) .nil))))))
    (.cons (.ite (.not (.call 34 (.cons (.call 24 (.cons (.tup (.cons (.var 7) (.cons (.var 4) .nil))) .nil)) (.cons (.lst (.cons (.cst (.int (0))) (.cons (.cst (.int (1))) (.cons (.cst (.int (2))) .nil)))) .nil))))
    (.cons (.ret (.cst (.bool false)))
    .nil)
    .nil)
    (.cons (.set (.nm 5) (.tup (.cons (.tup (.cons (.cst (.str "r")) (.cons (.tup (.cons (.cst (.int (1))) (.cons (.tup (.cons (.tup (.cons (.neg (.cst (.int (3)))) .nil)) (.cons (.tup (.cons (.neg (.cst (.int (2)))) .nil)) (.cons (.tup (.cons (.neg (.cst (.int (1)))) .nil)) .nil)))) .nil))) .nil))) .nil)))
    (.cons (.ite (.not (.call 34 (.cons (.call 24 (.cons (.tup (.cons (.var 5) (.cons (.tup (.cons (.tup (.cons (.cst (.str "same")) (.cons (.neg (.cst (.int (3)))) (.cons (.neg (.cst (.int (2)))) .nil)))) (.cons (.tup (.cons (.cst (.str "same")) (.cons (.neg (.cst (.int (2)))) (.cons (.neg (.cst (.int (1)))) .nil)))) .nil))) .nil))) .nil)) (.cons (.lst .nil) .nil))))
    (.cons (.ret (.cst (.bool false)))
    .nil)
    .nil)
    (.cons (.ite (.not (.call 34 (.cons (.call 24 (.cons (.tup (.cons (.var 5) (.cons (.tup (.cons (.tup (.cons (.cst (.str "same")) (.cons (.neg (.cst (.int (3)))) (.cons (.neg (.cst (.int (2)))) .nil)))) (.cons (.tup (.cons (.cst (.str "same")) (.cons (.neg (.cst (.int (1)))) (.cons (.neg (.cst (.int (2)))) .nil)))) (.cons (.tup (.cons (.cst (.str "told")) (.cons (.neg (.cst (.int (2)))) (.cons (.cst (.int (4))) .nil)))) .nil)))) .nil))) .nil)) (.cons (.lst (.cons (.cst (.int (0))) .nil)) .nil))))
    (.cons (.ret (.cst (.bool false)))
    .nil)
    .nil)
    (.cons (.ite (.not (.call 34 (.cons (.call 24 (.cons (.tup (.cons (.var 5) (.cons (.tup (.cons (.tup (.cons (.cst (.str "goes")) (.cons (.cst (.str "r")) (.cons (.tup (.cons (.neg (.cst (.int (1)))) .nil)) .nil)))) (.cons (.tup (.cons (.cst (.str "comes")) (.cons (.cst (.str "r")) (.cons (.tup (.cons (.neg (.cst (.int (1)))) .nil)) .nil)))) .nil))) .nil))) .nil)) (.cons (.lst .nil) .nil))))
    (.cons (.ret (.cst (.bool false)))
    .nil)
    .nil)
    (.cons (.ret (.cmp .eq (.att 0 (.call 24 (.cons (.tup (.cons (.var 7) (.cons (.cst .none) .nil))) .nil))) (.cst (.str "book"))))
    .nil))))))))))))))
def f_law : Option Fn := some ⟨1, 9, false, b_law⟩
def fsL : List (Option Fn) := [f_is_whole, f_is_tuple_of, f_fits_value, f_fits_row, f_does_ascend, f_fits_table, f_fits_letter, f_fits_store, f_cells_in, f_unknowns_in, f_row_by, f_filled_by, f_is_unknown_of, f_is_letter_of, f_rows_in, f_can_come, f_can_go, f_fits_news, f_behind_news, f_fits_book, f_stores_by, f_swapped_at, f_ends_as, f_need_book, f_swapped_news, f__law_cup, f__law_roll, f__law_some, f__law_unknowns, f__law_put, f__law_cell, f__law_table, f__law_store, f__law_sort, f__law_like, f__law_kin, f__law_try, f__law_ks, f__law_news, f__law_behind, f__law_stores, f__law_book, f__law_can_be, f__law_swapped, f_law]
abbrev i_is_whole : Nat := 0
abbrev i_is_tuple_of : Nat := 1
abbrev i_fits_value : Nat := 2
abbrev i_fits_row : Nat := 3
abbrev i_does_ascend : Nat := 4
abbrev i_fits_table : Nat := 5
abbrev i_fits_letter : Nat := 6
abbrev i_fits_store : Nat := 7
abbrev i_cells_in : Nat := 8
abbrev i_unknowns_in : Nat := 9
abbrev i_row_by : Nat := 10
abbrev i_filled_by : Nat := 11
abbrev i_is_unknown_of : Nat := 12
abbrev i_is_letter_of : Nat := 13
abbrev i_rows_in : Nat := 14
abbrev i_can_come : Nat := 15
abbrev i_can_go : Nat := 16
abbrev i_fits_news : Nat := 17
abbrev i_behind_news : Nat := 18
abbrev i_fits_book : Nat := 19
abbrev i_stores_by : Nat := 20
abbrev i_swapped_at : Nat := 21
abbrev i_ends_as : Nat := 22
abbrev i_need_book : Nat := 23
abbrev i_swapped_news : Nat := 24
abbrev i__law_cup : Nat := 25
abbrev i__law_roll : Nat := 26
abbrev i__law_some : Nat := 27
abbrev i__law_unknowns : Nat := 28
abbrev i__law_put : Nat := 29
abbrev i__law_cell : Nat := 30
abbrev i__law_table : Nat := 31
abbrev i__law_store : Nat := 32
abbrev i__law_sort : Nat := 33
abbrev i__law_like : Nat := 34
abbrev i__law_kin : Nat := 35
abbrev i__law_try : Nat := 36
abbrev i__law_ks : Nat := 37
abbrev i__law_news : Nat := 38
abbrev i__law_behind : Nat := 39
abbrev i__law_stores : Nat := 40
abbrev i__law_book : Nat := 41
abbrev i__law_can_be : Nat := 42
abbrev i__law_swapped : Nat := 43
abbrev i_law : Nat := 44
@[irreducible] def F (at_ : Nat → M W → M W) (n : Nat) : Nat → List W → M W := fnT fsL at_ n
theorem df {at_ : Nat → M W → M W} {n j ps k : Nat} {b : Sts} {ws : List W} {w : W} {c : Ct} (ρ : Rho) (h : fsL[j]? = some (some ⟨ps, k, false, b⟩)) (h1 : ws.length = ps) (h2 : ps ≤ k) (hρ : ws.map some ++ List.replicate (k - ws.length) none = ρ)
    (hb : ∀ σ, EvC ⟨F at_ n, at_⟩ b ρ σ c σ) (hc : ctW c = w) (hw : w.fixed = true) : F at_ (n + 1) j ws = pure w := by
  unfold F at *
  exact dfn ρ h h1 h2 hρ hb hc hw
theorem dfq {at_ : Nat → M W → M W} {n j ps k : Nat} {b : Sts} {ws : List W} {w : W} (ρ : Rho) (h : fsL[j]? = some (some ⟨ps, k, false, b⟩)) (h1 : ws.length = ps) (h2 : ps ≤ k) (hρ : ws.map some ++ List.replicate (k - ws.length) none = ρ)
    (hb : ∀ σ, EvQ ⟨F at_ n, at_⟩ b ρ σ fun c τ => (ctW c = w ∧ w.fixed = true ∧ τ.take σ.length = σ) ∨ ∃ v xs ν, c = .rt (.mut σ.length) ∧ w = .d (.list xs) ∧ τ = σ ++ (v, xs) :: ν) : F at_ (n + 1) j ws = pure w := by
  unfold F at *
  exact dfnq ρ h h1 h2 hρ hb
theorem dfx {at_ : Nat → M W → M W} {n j ps k : Nat} {b : Sts} {ws : List W} {σ : S} {Q : W → S → Prop} (ρ : Rho) (h : fsL[j]? = some (some ⟨ps, k, false, b⟩)) (h1 : ws.length = ps) (h2 : ps ≤ k) (hρ : ws.map some ++ List.replicate (k - ws.length) none = ρ)
    (hb : EvQ ⟨F at_ n, at_⟩ b ρ σ fun c τ => (ctW c).fixed = true ∧ Q (ctW c) (τ.take σ.length)) : Cq (F at_ (n + 1) j ws) σ Q := by
  unfold F at *
  exact dfnx ρ h h1 h2 hρ hb
theorem dfc {at_ : Nat → M W → M W} {n j ps k : Nat} {b : Sts} {ws : List W} {σ : S} {Q : W → S → Prop} (ρ : Rho) (h : fsL[j]? = some (some ⟨ps, k, true, b⟩)) (h1 : ws.length = ps) (h2 : ps ≤ k) (hρ : ws.map some ++ List.replicate (k - ws.length) none = ρ)
    (hb : EvQ ⟨F at_ n, at_⟩ b ρ σ fun c τ => ∃ w, c = .rt w ∧ Q w τ) : Cq (F at_ (n + 1) j ws) σ Q := by
  unfold F at *
  exact dfnc ρ h h1 h2 hρ hb
theorem dfst {at_ : Nat → M W → M W} {n j ps k : Nat} {b : Sts} {ws : List W} {w : W} {c : Ct} {σ σ' σ2 : S} (ρ : Rho) (h : fsL[j]? = some (some ⟨ps, k, false, b⟩)) (h1 : ws.length = ps) (h2 : ps ≤ k) (hρ : ws.map some ++ List.replicate (k - ws.length) none = ρ)
    (hb : EvC ⟨F at_ n, at_⟩ b ρ σ c σ') (hc : ctW c = w) (hw : w.fixed = true) (hσ : σ'.take σ.length = σ2) : F at_ (n + 1) j ws σ = .ok w σ2 := by
  subst hσ hρ
  unfold F at *
  rw [fnT_at h]
  exact run_st h1 h2 rfl hb hc hw
theorem dfm {at_ : Nat → M W → M W} {n j ps k : Nat} {b : Sts} {ws : List W} {σ : S} {v : Bool} {xs : List D} (ρ : Rho) (h : fsL[j]? = some (some ⟨ps, k, false, b⟩)) (h1 : ws.length = ps) (h2 : ps ≤ k) (hρ : ws.map some ++ List.replicate (k - ws.length) none = ρ)
    (hb : EvC ⟨F at_ n, at_⟩ b ρ σ (.rt (.mut σ.length)) (σ ++ (v, xs) :: [])) : F at_ (n + 1) j ws σ = .ok (.d (.list xs)) σ := by
  subst hρ
  unfold F at *
  rw [fnT_at h]
  exact run_mut h1 h2 rfl hb
end L70
end

set_option maxHeartbeats 0
section
namespace L70
open PySem PySem.Spec PyProof.Rows L2 Pd
def top (i : Nat) : Stmt := PySem.Challenge.pw_nearlysure_k70_whole_news_that_can_be_ex.main.body.getD i (.Pass ⟨0, 0, 0, 0⟩)
def fns : List Str := (["is_whole", "is_tuple_of", "fits_value", "fits_row", "does_ascend", "fits_table", "fits_letter", "fits_store", "cells_in", "unknowns_in", "row_by", "filled_by", "is_unknown_of", "is_letter_of", "rows_in", "can_come", "can_go", "fits_news", "behind_news", "fits_book", "stores_by", "swapped_at", "ends_as", "need_book", "swapped_news"] : List Str) ++ (["_law_cup", "_law_roll", "_law_some", "_law_unknowns", "_law_put", "_law_cell", "_law_table", "_law_store", "_law_sort", "_law_like", "_law_kin", "_law_try", "_law_ks", "_law_news", "_law_behind", "_law_stores", "_law_book", "_law_can_be", "_law_swapped", "law"] : List Str)
def consts : List (Str × D) := [("GREATEST", (.int (1000000))), ("LEAST", (.int (-6))), ("COLUMNS", (.int (6))), ("TABLES", (.int (4))), ("ROWS", (.int (40))), ("LETTERS", (.str "abcdefghijklmnopqrstuvwxyz")), ("NEWS", (.int (20)))]
def excs : List Str := ["InvalidBook"]
structure Df where
  i : Nat
  nm : Str
  ps : List Str
  N : List Str
  mu : List Str
  mr : Bool
  att : List Str
def dfs : List Df := ([⟨20, "is_whole", ["value", "low", "high"], ["value", "low", "high"], [], false, []⟩,
    ⟨21, "is_tuple_of", ["value", "low", "high"], ["value", "low", "high"], [], false, []⟩,
    ⟨22, "fits_value", ["value"], ["value"], [], false, []⟩,
    ⟨23, "fits_row", ["columns", "value"], ["columns", "value", "cell"], [], false, []⟩,
    ⟨24, "does_ascend", ["items"], ["items", "one", "other"], [], false, []⟩,
    ⟨25, "fits_table", ["value"], ["value", "row"], [], false, []⟩,
    ⟨26, "fits_letter", ["value"], ["value"], [], false, []⟩,
    ⟨27, "fits_store", ["value"], ["value", "pair", "letter", "table"], [], false, []⟩,
    ⟨28, "cells_in", ["store"], ["store", "found", "letter", "table", "row", "cell"], [], false, []⟩,
    ⟨29, "unknowns_in", ["store"], ["store", "cell"], [], false, []⟩,
    ⟨30, "row_by", ["row", "worths"], ["row", "worths", "cell"], [], false, []⟩,
    ⟨31, "filled_by", ["store", "worths"], ["store", "worths", "found", "letter", "table", "rows", "row"], [], false, []⟩,
    ⟨34, "is_unknown_of", ["store", "value"], ["store", "value"], [], false, []⟩,
    ⟨35, "is_letter_of", ["store", "value"], ["store", "value", "letter", "table"], [], false, []⟩,
    ⟨36, "rows_in", ["store"], ["store", "letter", "table"], [], false, []⟩,
    ⟨37, "can_come", ["store", "letter", "row"], ["store", "letter", "row", "columns", "rows"], [], false, []⟩,
    ⟨38, "can_go", ["store", "letter", "row"], ["store", "letter", "row", "columns", "rows"], [], false, []⟩,
    ⟨39, "fits_news", ["store", "value"], ["store", "value", "word", "one", "other"], [], false, []⟩,
    ⟨40, "behind_news", ["store", "news"], ["store", "news", "found", "word", "one", "other", "letter", "columns", "rows", "row"], [], false, []⟩,
    ⟨41, "fits_book", ["value"], ["value", "store", "news"], [], false, []⟩,
    ⟨42, "stores_by", ["book"], ["book", "found", "news"], [], false, []⟩,
    ⟨43, "swapped_at", ["book", "at"], ["book", "at", "store", "news"], [], false, []⟩,
    ⟨44, "ends_as", ["book", "other"], ["book", "other"], [], false, []⟩,
    ⟨45, "need_book", ["value"], ["value"], [], false, []⟩,
    ⟨46, "swapped_news", ["book"], ["book", "at"], [], false, []⟩] : List Df) ++
  ([⟨48, "_law_cup", ["script"], ["script", "cell"], [], true, []⟩,
    ⟨49, "_law_roll", ["cup", "many"], ["cup", "many", "deep", "found"], [], false, []⟩,
    ⟨50, "_law_some", ["cup", "things"], ["cup", "things"], [], false, []⟩,
    ⟨51, "_law_unknowns", ["store"], ["store", "found", "letter", "table", "row", "cell"], [], false, []⟩,
    ⟨52, "_law_put", ["row", "worths"], ["row", "worths", "cell"], [], false, []⟩,
    ⟨53, "_law_cell", ["cup", "unknowns"], ["cup", "unknowns", "at"], [], false, []⟩,
    ⟨54, "_law_table", ["cup", "columns", "rows", "unknowns"], ["cup", "columns", "rows", "unknowns", "found", "row", "column"], [], false, []⟩,
    ⟨55, "_law_store", ["cup", "unknowns"], ["cup", "unknowns", "found", "third"], [], false, []⟩,
    ⟨56, "_law_sort", ["thing"], ["thing"], [], false, []⟩,
    ⟨57, "_law_like", ["told", "due"], ["told", "due", "one", "other"], [], false, []⟩,
    ⟨58, "_law_kin", ["e"], ["e"], [], false, []⟩,
    ⟨59, "_law_try", ["call_so"], ["call_so", "found", "e"], [], false, []⟩,
    ⟨60, "_law_ks", [], [], [], false, []⟩,
    ⟨61, "_law_news", ["cup", "store"], ["cup", "store", "row", "unknowns", "way", "at", "letter", "table", "column"], [], false, []⟩,
    ⟨62, "_law_behind", ["store", "news"], ["store", "news", "word", "one", "other", "found", "letter", "columns", "rows", "table", "row"], ["found"], false, []⟩,
    ⟨63, "_law_stores", ["book"], ["book", "found", "news"], ["found"], false, []⟩,
    ⟨64, "_law_book", ["cup", "unknowns", "most"], ["cup", "unknowns", "most", "store", "turn", "first", "found", "news"], [], false, []⟩,
    ⟨65, "_law_can_be", ["book"], ["book", "store", "word", "one", "other", "unknowns", "rows"], [], false, []⟩,
    ⟨66, "_law_swapped", ["book"], ["book", "at", "found", "last", "some"], ["found", "some"], false, []⟩,
    ⟨67, "law", ["script"], ["script", "cup", "turn", "kd", "free", "three", "book", "ks", "kt"], [], false, ["_law_try"]⟩] : List Df)
def mk (d : Df) : Dd := ⟨d.nm, top d.i, d.ps, d.N, d.mu, d.mr, d.att, cBody ⟨d.N, fns, consts, excs, d.mu, d.att⟩ (L2.defScope (top d.i)) d.mr 40 (L2.defBody (top d.i))⟩
def pg : Pg := ⟨dfs.map mk, fns, consts, excs⟩
theorem fs_eq : pg.fs = fsL := by kernel_rfl
theorem pg_ok : pg.ok = true := by decide +kernel
theorem comp : pg.Comp := fun d hd b h => by
  obtain ⟨r, _, rfl⟩ := List.mem_map.mp hd
  exact h
theorem binds : BindAll pg.ds := ⟨fun _ _ _ _ _ _ us hl => match us, hl with | [_, _, _], _ => rfl,
  fun _ _ _ _ _ _ us hl => match us, hl with | [_, _, _], _ => rfl,
  fun _ _ _ _ _ _ us hl => match us, hl with | [_], _ => rfl,
  fun _ _ _ _ _ _ us hl => match us, hl with | [_, _], _ => rfl,
  fun _ _ _ _ _ _ us hl => match us, hl with | [_], _ => rfl,
  fun _ _ _ _ _ _ us hl => match us, hl with | [_], _ => rfl,
  fun _ _ _ _ _ _ us hl => match us, hl with | [_], _ => rfl,
  fun _ _ _ _ _ _ us hl => match us, hl with | [_], _ => rfl,
  fun _ _ _ _ _ _ us hl => match us, hl with | [_], _ => rfl,
  fun _ _ _ _ _ _ us hl => match us, hl with | [_], _ => rfl,
  fun _ _ _ _ _ _ us hl => match us, hl with | [_, _], _ => rfl,
  fun _ _ _ _ _ _ us hl => match us, hl with | [_, _], _ => rfl,
  fun _ _ _ _ _ _ us hl => match us, hl with | [_, _], _ => rfl,
  fun _ _ _ _ _ _ us hl => match us, hl with | [_, _], _ => rfl,
  fun _ _ _ _ _ _ us hl => match us, hl with | [_], _ => rfl,
  fun _ _ _ _ _ _ us hl => match us, hl with | [_, _, _], _ => rfl,
  fun _ _ _ _ _ _ us hl => match us, hl with | [_, _, _], _ => rfl,
  fun _ _ _ _ _ _ us hl => match us, hl with | [_, _], _ => rfl,
  fun _ _ _ _ _ _ us hl => match us, hl with | [_, _], _ => rfl,
  fun _ _ _ _ _ _ us hl => match us, hl with | [_], _ => rfl,
  fun _ _ _ _ _ _ us hl => match us, hl with | [_], _ => rfl,
  fun _ _ _ _ _ _ us hl => match us, hl with | [_, _], _ => rfl,
  fun _ _ _ _ _ _ us hl => match us, hl with | [_, _], _ => rfl,
  fun _ _ _ _ _ _ us hl => match us, hl with | [_], _ => rfl,
  fun _ _ _ _ _ _ us hl => match us, hl with | [_], _ => rfl,
  fun _ _ _ _ _ _ us hl => match us, hl with | [_], _ => rfl,
  fun _ _ _ _ _ _ us hl => match us, hl with | [_, _], _ => rfl,
  fun _ _ _ _ _ _ us hl => match us, hl with | [_, _], _ => rfl,
  fun _ _ _ _ _ _ us hl => match us, hl with | [_], _ => rfl,
  fun _ _ _ _ _ _ us hl => match us, hl with | [_, _], _ => rfl,
  fun _ _ _ _ _ _ us hl => match us, hl with | [_, _], _ => rfl,
  fun _ _ _ _ _ _ us hl => match us, hl with | [_, _, _, _], _ => rfl,
  fun _ _ _ _ _ _ us hl => match us, hl with | [_, _], _ => rfl,
  fun _ _ _ _ _ _ us hl => match us, hl with | [_], _ => rfl,
  fun _ _ _ _ _ _ us hl => match us, hl with | [_, _], _ => rfl,
  fun _ _ _ _ _ _ us hl => match us, hl with | [_], _ => rfl,
  fun _ _ _ _ _ _ us hl => match us, hl with | [_], _ => rfl,
  fun _ _ _ _ _ _ us hl => match us, hl with | [], _ => rfl,
  fun _ _ _ _ _ _ us hl => match us, hl with | [_, _], _ => rfl,
  fun _ _ _ _ _ _ us hl => match us, hl with | [_, _], _ => rfl,
  fun _ _ _ _ _ _ us hl => match us, hl with | [_], _ => rfl,
  fun _ _ _ _ _ _ us hl => match us, hl with | [_, _, _], _ => rfl,
  fun _ _ _ _ _ _ us hl => match us, hl with | [_], _ => rfl,
  fun _ _ _ _ _ _ us hl => match us, hl with | [_], _ => rfl,
  fun _ _ _ _ _ _ us hl => match us, hl with | [_], _ => rfl, trivial⟩
end L70
end

set_option maxHeartbeats 0
section
namespace L70
open PySem PySem.Spec PyProof.Rows L2 Pd
def errs : List Str := ["InvalidBook"]
def es : List Str := ["SureError"]
def fa : List He.Fa := faOf pg es ++ [.exm "InvalidBook" "SureError" true]
def ex (K : Kf) : Bool := excCB K "InvalidBook"
abbrev fn : List He.DefD := pg.ds.map ddD
abbrev R : PySem.W.OpenRow := PySem.W.OpenLaw.row PySem.Challenge.rw_nearlysure_k70_whole_news_that_can_be_ex
abbrev hk : PySem.W.Hook := He.hookX 4 fa fn [] [("law", none)] ex
def ob (s : PySem.W.SharedT) : He.AlX := He.obsX 4 fa fn [] [("law", none)] ex (HandSHeadRun.getT s)
theorem ob_eq (s : PySem.W.SharedT) : ob s = hk.obs s.abs := He.obsX_eq (HandSHeadRun.getT_eq s)
def loose : List PySem.Str := (["SureError", "InvalidStore", "InvalidTree", "InvalidRow", "InvalidNumber", "TooMany", "InvalidBook", "InvalidUnknown", "InvalidValue", "InvalidLetter", "NothingToUndo", "NothingToRedo", "GREATEST", "LEAST", "COLUMNS", "TABLES", "ROWS", "LETTERS", "is_whole", "is_tuple_of", "fits_value", "fits_row", "does_ascend", "fits_table", "fits_letter", "fits_store", "cells_in", "unknowns_in", "row_by", "filled_by"] : List PySem.Str) ++ (["NEWS", "is_unknown_of", "is_letter_of", "rows_in", "can_come", "can_go", "fits_news", "behind_news", "fits_book", "stores_by", "swapped_at", "ends_as", "need_book", "swapped_news", "_law_cup", "_law_roll", "_law_some", "_law_unknowns", "_law_put", "_law_cell", "_law_table", "_law_store", "_law_sort", "_law_like", "_law_kin", "_law_try", "_law_ks", "_law_news", "_law_behind", "_law_stores"] : List PySem.Str) ++ (["_law_book", "_law_can_be", "_law_swapped"] : List PySem.Str)
theorem run (w : World) : HandSHeadRun.RunEq R (PySem.W.view R.prog [67]) hk ob 6000 loose w := by
  intro os
  kernel_rfl
end L70
end

set_option maxHeartbeats 0
section
namespace L70
open PySem PySem.Spec PyProof.Rows L2 Pd
def kinW (c : Str) : Option Str := if c = "InvalidBook" then some "book" else none
def at0 : Nat → M W → M W := atT kinW
def lawDf : Df := ⟨67, "law", ["script"], ["script", "cup", "turn", "kd", "free", "three", "book", "ks", "kt"], [], false, ["_law_try"]⟩
theorem caught {K : Kf} {h : Heap} {mg : Str → Option Value} (X : K.In h) (G : h.Ns mainGlobals mg) (c : He.SaysD fa fn K) (hex : ex K = true) : ∀ cn z, kinW cn = some z → ∃ cls, mg cn = some cls ∧ Caught K mg (top 58) (He.ga K "SureError") cls z := by
  intro cn z hz
  unfold kinW at hz
  split at hz
  · rename_i e
    subst e
    cases hz
    have m : mg "InvalidBook" = some (.ref (He.ga K "InvalidBook")) := He.glo_ok X G (c.facts (by simp [fa, faOf, pg, excs, es]))
    refine ⟨_, m, _, rfl, of_decide_eq_true (c.facts (f := .exm "InvalidBook" "SureError" true) (by simp [fa])), excC_of hex, ?_⟩
    exact KinB.hit m (by decide +kernel) (by decide) kit_self
  · cases hz
theorem tryR {K : Kf} {h : Heap} {mg : Str → Option Value} (X : K.In h) (G : h.Ns mainGlobals mg) (c : He.SaysD fa fn K) : ∃ gT fK fdT fdK, TryR K mg (top 59) (top 58) gT fK (He.ga K "SureError") fdT fdK := by
  obtain ⟨fdT, m1, F1⟩ := def_at (p := pg) (es := es) X G c (fun f hf => List.mem_append_left _ hf) (d := mk ⟨59, "_law_try", ["call_so"], ["call_so", "found", "e"], [], false, []⟩) (List.mem_of_getElem? (i := 36) rfl)
  obtain ⟨fdK, m2, F2⟩ := def_at (p := pg) (es := es) X G c (fun f hf => List.mem_append_left _ hf) (d := mk ⟨58, "_law_kin", ["e"], ["e"], [], false, []⟩) (List.mem_of_getElem? (i := 35) rfl)
  refine ⟨_, _, fdT, fdK, m1, F1, F1.bindsN fun _ _ _ _ _ _ us hl => match us, hl with | [_], _ => rfl, scopeOk_of (by decide +kernel), .mk, by decide +kernel, by decide +kernel, by decide +kernel, by decide +kernel, by decide +kernel, ?_, m2, F2,
    F2.bindsN fun _ _ _ _ _ _ us hl => match us, hl with | [_], _ => rfl, scopeOk_of (by decide +kernel), by decide +kernel, by decide +kernel, ?_⟩
  · exact He.glo_ok X G (c.facts (by simp [fa, faOf, pg, excs, es]))
  · exact He.free_ok X G (c.facts (by simp [fa, faOf, knownL]))
theorem law_b : ∃ b, (mk lawDf).b = some b := by
  have e : (mk lawDf).b.isSome = true := by decide +kernel
  exact Option.isSome_iff_exists.mp e
theorem only_att : ∀ d' ∈ pg.ds, d'.att ≠ [] → d' = mk lawDf := fun d' hd ha => by
  obtain ⟨r, hr, rfl⟩ := List.mem_map.mp hd
  have h : ∀ r ∈ dfs, r.att ≠ [] → r.i = 67 := by decide +kernel
  have u : ∀ r ∈ dfs, r.i = 67 → r.nm = lawDf.nm ∧ r.ps = lawDf.ps ∧ r.N = lawDf.N ∧ r.mu = lawDf.mu ∧ r.mr = lawDf.mr ∧ r.att = lawDf.att := by decide +kernel
  have e := h r hr ha
  obtain ⟨e1, e2, e3, e4, e5, e6⟩ := u r hr e
  obtain ⟨i, a, b, c, d, f, g⟩ := r
  dsimp only at e e1 e2 e3 e4 e5 e6
  subst e e1 e2 e3 e4 e5 e6
  rfl
theorem idx_att {x : Str} {k : Nat} {d : Dd} (hd : d ∈ pg.ds) (h : idx (pg.c d).attf x = some k) : x = "_law_try" := by
  obtain ⟨r, hr, rfl⟩ := List.mem_map.mp hd
  have u : ∀ r ∈ dfs, r.att = [] ∨ r.att = (["_law_try"] : List Str) := by decide +kernel
  have e : (pg.c (mk r)).attf = r.att := rfl
  rw [e] at h
  rcases u r hr with z | z
  · rw [z] at h; cases h
  · rw [z] at h
    unfold idx at h
    split at h
    · rename_i q; exact q.symm
    · cases h
theorem at_law {w : World} {K : Kf} {mg : Str → Option Value} {fa' : Addr} {h : Heap} (X : K.In h) (G : h.Ns mainGlobals mg) (c : He.SaysX fa fn [] [("law", none)] ex w h K) (hmg : mg "law" = some (.ref fa'))
    (plain : ∀ ns : List Int, ns.length ≤ 63 → (∀ z ∈ ns, Builtin.Int.intBits z ≤ 1048576) → ∃ S', fnT fsL at0 20 44 [.scr ns] [] = .ok (.d (.bool true)) S') :
    LamX.LawAtS PySem.Challenge.rw_nearlysure_k70_whole_news_that_can_be_ex w K (L2.CX (PySem.Challenge.rw_nearlysure_k70_whole_news_that_can_be_ex).prog w) 60 63 "script" mg fa' h := by
  obtain ⟨b, hb⟩ := law_b
  have cD : He.SaysD fa fn K := congrArg Prod.fst c.t
  refine law_at (p := pg) (es := es) (n := 19) (j := 44) (d := mk lawDf) (at_ := at0) pg_ok comp binds (by decide +kernel) (fun f hf => List.mem_append_left _ hf) X G c rfl hb rfl only_att hmg (fun T n d' hd' base ih => ?_) fun ns h1 h2 => ?_
  · obtain ⟨gT, fK, fdT, fdK, tr⟩ := tryR X G cD
    exact att_try (st := top 59) (sk := top 58) (kinW := kinW) tr (fun x k hk => idx_att hd' hk) (caught X G cD c.more) rfl
  · rw [fs_eq]
    exact plain ns h1 h2
end L70
open PySem PySem.W PySem.Calls PyProof.Rows
theorem L70.holds_of (plain : ∀ ns : List Int, ns.length ≤ 63 → (∀ z ∈ ns, Builtin.Int.intBits z ≤ 1048576) → ∃ S', Pd.fnT L70.fsL L70.at0 20 44 [.scr ns] [] = .ok (.d (.bool true)) S') : PySem.Challenge.rw_nearlysure_k70_whole_news_that_can_be_ex.Holds := by
  w_on; o_law
  refine HandSHeadRun.head_any (r := L70.R) (q := view (L70.R).prog [67]) (H := L70.hk) (ob := L70.ob) (M := 6000) (loose := L70.loose) (d := HandSHeadRun.topDef (L70.R).prog 67) (kwd := []) L70.ob_eq
    (by kernel_rfl) (fun s => by kernel_rfl) L70.run (by kernel_rfl) (by kernel_rfl) (by kernel_rfl) (by rfl) (by first | assumption | decide +kernel) (by decide +kernel) ⟨rfl, rfl, rfl, rfl, rfl, by decide +kernel⟩ ?hw ?hc
  case hw => w_witness2
  case hc =>
    refine LamX.walk_ofTsE (l := PySem.Challenge.rw_nearlysure_k70_whole_news_that_can_be_ex) (n := 63) (k := 60) (x := "script") (CX := fun w => L2.CX (PySem.Challenge.rw_nearlysure_k70_whole_news_that_can_be_ex).prog w) rfl (by decide) (by kernel_rfl) ⟨rfl, by decide, by decide⟩ ?F (fun _ _ _ _ _ ⟨_, _, _, _, _, _, _, _, _, _, _, _, z⟩ => z)
    intro w mg fa h Y G hmg0
    obtain ⟨K, KX, c⟩ := Y
    have hmg : mg ("law" : PySem.Str) = some (.ref fa) := by
      have e : (HandSHeadRun.topDef (L70.R).prog 67).name = ("law" : PySem.Str) := by kernel_rfl
      rw [← e]
      exact hmg0
    exact ⟨K, KX, L70.at_law KX G c hmg plain⟩
end

set_option maxHeartbeats 400000
open PySem Pd
local macro_rules | `(tactic| trivial) => `(tactic| first
  | assumption | intro _
  | exact v_var rfl | exact v_cst | exact vs_nil | exact vd_nil | exact c_nil | exact eo_none | exact t_nil | exact c_retN
  | apply vs_cons | apply vd_cons | apply c_ret | apply c_mlst | apply c_mcat | apply c_set | apply c_setT | apply c_par | apply c_ex
  | (apply c_ite_T; (focus ((repeat' trivial); done)); (focus (exact rfl))) | (apply c_ite_F; (focus ((repeat' trivial); done)); (focus (exact rfl))) | apply c_ite
  | apply q_mlst | apply q_mcat | apply q_set | apply q_setT | apply q_par | apply q_ex | (apply q_ite_T; (focus ((repeat' trivial); done)); (focus (exact rfl))) | (apply q_ite_F; (focus ((repeat' trivial); done)); (focus (exact rfl))) | apply q_ite | apply q_ret | apply q_nil | apply q_put0 rfl
  | (apply v_ite_T; (focus ((repeat' trivial); done)); (focus (exact rfl))) | (apply v_ite_F; (focus ((repeat' trivial); done)); (focus (exact rfl)))
  | (apply v_and_F; (focus ((repeat' trivial); done)); (focus (exact rfl))) | (apply v_or_T; (focus ((repeat' trivial); done)); (focus (exact rfl)))
  | apply v_call | apply v_bi | apply v_ix | apply v_cmp | apply v_and | apply v_or | apply v_not | apply v_ite | apply v_chain | apply v_bin | apply v_tup | apply v_lst | apply v_neg
  | apply v_isi | apply v_lc' | apply v_lcf' | apply v_lc2' | apply v_lc2f' | apply v_sl | apply v_dsp1_ii | apply v_get_ii | apply eo_some | apply t_one
  | apply (ex_lc rfl) | apply (ex_lcf rfl) | apply (ex_lc2 rfl) | apply (ex_lc2f rfl)
  | apply ei_of' | apply ei_zip | apply ei_range1 | apply ei_range2 | apply ei_enum
  | exact bt_len_t _ _ | exact bt_len_l _ _ | exact bt_all _ _ | exact bt_any _ _ | exact bt_sum_i _ | exact bt_tuple_l _ | exact bt_tuple_t _ | exact bt_list_t _ | exact bt_list_l _ | exact bt_int_i _ | exact bt_abs _ | exact bt_len_set _ _
  | apply bt_set_li | apply bt_set_lr | exact bt_sorted_si _ | exact bt_sorted_li _ | apply bt_sorted_sr | apply bt_sorted_lr | apply bt_sorted_tr
  | exact cmp_lt_i _ _ | exact cmp_le_i _ _ | exact cmp_gt_i _ _ | exact cmp_ge_i _ _ | exact cmp_is_b _ _ | exact cmp_isn_b _ _ | exact cmp_lt_r _ _
  | exact cmp_eq encI _ _ | exact cmp_ne encI _ _ | exact cmp_eq encStr _ _ | exact cmp_ne encStr _ _ | exact cmp_eq encI.tup _ _ | exact cmp_ne encI.tup _ _
  | exact cmp_in_t encI _ _ | exact cmp_nin_t encI _ _ | exact cmp_in_l encI _ _ | exact cmp_nin_l encI _ _ | exact cmp_in_t encI.tup _ _ | exact cmp_nin_t encI.tup _ _ | exact cmp_in_l encI.tup _ _ | exact cmp_nin_l encI.tup _ _ | exact cmp_in_l encStr _ _ | exact cmp_nin_l encStr _ _
  | exact cmp_eq_l0 encI _ | exact cmp_ne_l0 encI _ | exact cmp_eq_t0 encI _ | exact cmp_ne_t0 encI _ | exact cmp_eq_l0 encI.tup _ | exact cmp_ne_l0 encI.tup _ | exact cmp_eq_t0 encI.tup _ | exact cmp_ne_t0 encI.tup _
  | exact cmp_eq encBool _ _
  | exact cmp_k rfl
  | exact ix_k rfl | exact ix_cup rfl
  | exact Or.inl rfl | exact Or.inr rfl | exact Or.inl ⟨rfl, rfl⟩ | exact Or.inr ⟨rfl, rfl⟩
  | decreasing_trivial
  | exact bin_add_i _ _ | exact bin_sub_i _ _ | apply bin_mod_i | apply bin_fdiv_i | apply bin_mul_i | apply bin_mul_lm | apply bin_add_tR1 | apply bin_add_lR1 | apply bin_add_tI1 | apply bin_add_lI1 | apply bin_add_tm | apply bin_add_lm | apply bin_add_t | apply bin_add_l
  | exact nrm_I _ | exact nrm_R _ | exact nrm_If _ _ | exact nrm_Rf _ _ | exact nrm_2I0 _ | exact nrm_2R0 _ | exact nrm_fI _ _ | exact nrm_fS _ _ | exact nrm_fR _ _ | exact nrm_2I _ _ | exact nrm_2R _ _ | exact nrm_2fI _ _ _ | exact nrm_2fR _ _ _
  | assumption | exact nbf (by assumption) | exact nbt (by assumption) | exact Sm.map _ (by assumption) | exact Nat.le_of_ble_eq_true rfl | exact rfl)

namespace L70
open PySem Pd Nt
variable {at_ : Nat → M W → M W} {n : Nat}
theorem is_whole (i lo hi : Int) : F at_ (n + 1) i_is_whole [.d (.int i), .d (.int lo), .d (.int hi)] = pure (.d (.bool (decide (lo ≤ i) && decide (i ≤ hi)))) := by
  apply df (ps := 3) (k := 3) [some (.d (.int i)), some (.d (.int lo)), some (.d (.int hi))] rfl rfl (by decide) rfl (b := b_is_whole)
  · intro σ; unfold b_is_whole; repeat' trivial
  · simp [ctW, isTy, PyData.isInt, PyData.isBool]
  · rfl
theorem is_tuple_of (xs : List D) (lo hi : Int) : F at_ (n + 1) i_is_tuple_of [.d (.tuple xs), .d (.int lo), .d (.int hi)] = pure (.d (.bool (decide (lo ≤ xs.length) && decide ((xs.length : Int) ≤ hi)))) := by
  apply df (ps := 3) (k := 3) [some (.d (.tuple xs)), some (.d (.int lo)), some (.d (.int hi))] rfl rfl (by decide) rfl (b := b_is_tuple_of)
  · intro σ; unfold b_is_tuple_of; repeat' (first | exact bt_len_t' _ | trivial)
  · simp [ctW, isTy, PyData.isTuple]
  · rfl
end L70
local macro_rules | `(tactic| decreasing_trivial) => `(tactic| first | apply L70.is_whole | apply L70.is_tuple_of)
namespace L70
open PySem Pd Nt
variable {at_ : Nat → M W → M W} {n : Nat}
theorem fits_value (i : Int) : F at_ (n + 2) i_fits_value [.d (.int i)] = pure (.d (.bool (decide (0 ≤ i) && decide (i ≤ 1000000)))) := by
  apply df (ps := 1) (k := 1) [some (.d (.int i))] rfl rfl (by decide) rfl (b := b_fits_value)
  · intro σ; unfold b_fits_value; repeat' trivial
  · rfl
  · rfl
theorem fits_row (c : Int) (r : Row) (hr : Sm r) : F at_ (n + 2) i_fits_row [.d (.int c), .d (encR r)] = pure (.d (.bool (rowB c r))) := by
  apply df (ps := 2) (k := 3) [some (.d (.int c)), some (.d (encR r)), none] rfl rfl (by decide) rfl (b := b_fits_row)
  · intro σ; unfold b_fits_row; repeat' trivial
  · refine congrArg (fun b => W.d (PyData.bool b)) (?_ : _ = _)
    unfold rowB
    rw [List.length_map]
    congr 1
    rw [Bool.eq_iff_iff]; simp; omega
  · rfl
theorem cut1 (xs : List D) : cutD xs (some 1) none = xs.drop 1 := by
  unfold cutD sPl
  simp only [show ¬ ((1 : Int) < 0) by decide, if_false]
  cases xs with
  | nil => rfl
  | cons x l =>
    have : min (1 : Int).toNat (x :: l).length = 1 := by simp
    rw [this]
    simp
theorem sl1 {α : Type} (f : α → D) (l : List α) : slD (.tuple (l.map f)) (some 1) none = some (.tuple ((l.drop 1).map f)) := by simp only [slD, cut1, List.map_drop]
theorem asc_rows (rs : List Row) (hl : Sm rs) : F at_ (n + 1) i_does_ascend [.d (.tuple (rs.map encR))] = pure (.d (.bool (ascB rs))) := by
  apply df (ps := 1) (k := 3) [some (.d (.tuple (rs.map encR))), none, none] rfl rfl (by decide) rfl (b := b_does_ascend)
  · intro σ; unfold b_does_ascend; repeat' (first | exact sl1 _ _ | trivial)
    exact Sm.zip hl
  · rfl
  · rfl
end L70
local macro_rules | `(tactic| decreasing_trivial) => `(tactic| first | apply L70.fits_value | apply L70.fits_row | apply L70.asc_rows)
namespace L70
open PySem Pd Nt
variable {at_ : Nat → M W → M W} {n : Nat}
end L70

namespace L70
open PySem Pd Nt
variable {at_ : Nat → M W → M W} {n : Nat}
theorem fits_table (t : Tab) (h1 : Sm t.2) (h2 : ∀ r ∈ t.2, Sm r) : F at_ (n + 3) i_fits_table [.d (encT t)] = pure (.d (.bool (tabB t))) := by
  apply df (ps := 1) (k := 2) [some (.d (encT t)), none] rfl rfl (by decide) rfl (b := b_fits_table)
  · intro σ; unfold b_fits_table; repeat' trivial
    exact h2 _ (by assumption)
  · refine ct_b (ct_ff rfl) ?_
    rw [show (List.map encR t.2).length = t.2.length from List.length_map _]
    unfold tabB
    generalize t.2.all _ = p
    generalize ascB _ = q
    rw [Bool.eq_iff_iff]; simp; try grind
  · rfl
theorem fits_letter {x : Str} (h : x = "r" ∨ x = "s" ∨ x = "t") : F at_ (n + 1) i_fits_letter [.d (.str x)] = pure (.d (.bool true)) := by
  apply df (ps := 1) (k := 1) [some (.d (.str x))] rfl rfl (by decide) rfl (b := b_fits_letter)
  · intro σ; unfold EvC; rcases h with rfl | rfl | rfl <;> rfl
  · rfl
  · rfl
theorem asc_lets {l : List Str} (h : letsOk l) : F at_ (n + 1) i_does_ascend [.d (.list (l.map .str))] = pure (.d (.bool true)) := by
  apply df (ps := 1) (k := 3) [some (.d (.list (l.map .str))), none, none] rfl rfl (by decide) rfl (b := b_does_ascend)
  · intro σ; unfold EvC; rcases h with rfl | rfl | rfl | rfl <;> rfl
  · rfl
  · rfl
end L70
local macro_rules | `(tactic| decreasing_trivial) => `(tactic| first | apply L70.fits_table | apply L70.fits_letter | apply L70.asc_lets)
namespace L70
open PySem Pd Nt
variable {at_ : Nat → M W → M W} {n : Nat}
theorem sum_rows (s : Stor) : (s.map fun p => ((p.2.2.length : Nat) : Int)).sum = (rowsN s : Int) := by
  unfold rowsN
  induction s with
  | nil => rfl
  | cons p s ih => rw [List.map_cons, List.sum_cons, ih, List.map_cons, List.sum_cons]; omega
theorem fits_store {s : Stor} (v : Valid s) : F at_ (n + 4) i_fits_store [.d (encS s)] = pure (.d (.bool true)) := by
  have h1 := v.smS
  have h2 : ∀ p ∈ s, Sm p.2.2 := fun p hp => v.smT hp
  have h3 : ∀ p ∈ s, ∀ r ∈ p.2.2, Sm r := fun p hp r hr => v.smR hp hr
  apply df (ps := 1) (k := 4) [some (.d (encS s)), none, none, none] rfl rfl (by decide) rfl (b := b_fits_store)
  · intro σ; unfold b_fits_store; repeat' trivial
    · exact v.isL (by assumption)
    · exact h2 _ (by assumption)
    · exact h3 _ (by assumption) _ (by assumption)
    · exact v.lets
  · refine ct_b (ct_ff (ct_ff rfl)) ?_
    have h4 : (s.all fun x => (true && tabB x.2)) = true := by
      rw [List.all_eq_true]; intro p hp; rw [v.tab hp]; rfl
    have h5 := v.many
    have h6 := v.len
    rw [sum_rows, h4]
    simp
    omega
  · rfl
end L70
local macro_rules | `(tactic| decreasing_trivial) => `(tactic| first | apply L70.fits_store)
namespace L70
open PySem Pd Nt
variable {at_ : Nat → M W → M W} {n : Nat}
theorem cells_in {s : Stor} (v : Valid s) : F at_ (n + 1) i_cells_in [.d (encS s)] = pure (.d (.list ((ssort ltI (cellsN s)).map .int))) := by
  have h1 := v.smS
  apply df (ps := 1) (k := 6) [some (.d (encS s)), none, none, none, none, none] rfl rfl (by decide) rfl (b := b_cells_in)
  · intro σ; unfold b_cells_in
    apply c_set
    · repeat' trivial
    apply c_forP (fun pre ρ => ∃ j1 j2 j3 j4, ρ = [some (.d (encS s)), some (.d (.list (List.map PyData.int (cellsN pre)))), j1, j2, j3, j4])
    · repeat' trivial
    · exact ⟨_, _, _, _, rfl⟩
    · rintro pre p post e _ ⟨j1, j2, j3, j4, rfl⟩
      have hp := pre_mem e
      have l1 := v.cellsT hp
      have l2 : (cellsN pre).length ≤ 720 := by
        have h1 := flat_le (fun p : Str × Tab => p.2.2.flatMap fun r => r) (k := 240) (l := pre) fun p hp => v.cellsT (pre_sub e hp)
        have h2 := pre_len e
        have h3 := v.len
        exact Nat.le_trans h1 (by omega)
      have h2 := v.smT hp
      apply ex_for rfl
      · repeat' trivial
        · exact v.smR hp (by assumption)
        · rw [nrm_2I0]; exact Sm.map _ (Sm.of l1)
        · show (cellsN pre).length + _ ≤ big
          exact Nat.le_trans (Nat.add_le_add l2 l1) (by decide)
      · exact ⟨_, rfl, _, _, _, _, by unfold cellsN; rw [List.flatMap_append, List.flatMap_singleton]; rfl⟩
    · rintro _ ⟨j1, j2, j3, j4, rfl⟩
      have := v.cells
      repeat' trivial
  · rfl
  · rfl
end L70
local macro_rules | `(tactic| decreasing_trivial) => `(tactic| first | apply L70.cells_in)
namespace L70
open PySem Pd Nt
variable {at_ : Nat → M W → M W} {n : Nat}
theorem unknowns_in {s : Stor} (v : Valid s) : F at_ (n + 2) i_unknowns_in [.d (encS s)] = pure (.d (.tuple ((unkN s).map .int))) := by
  apply df (ps := 1) (k := 2) [some (.d (encS s)), none] rfl rfl (by decide) rfl (b := b_unknowns_in)
  · intro σ; have : Sm (ssort ltI (cellsN s)) := Sm.of (n := 720) (Nat.le_trans (ssort_length _) v.cells)
    unfold b_unknowns_in
    repeat' trivial
  · rfl
  · rfl
theorem row_by (r : Row) (kvs : List (Int × Int)) (h : Sm r) : F at_ (n + 1) i_row_by [.d (encR r), .dct (kvs.map fun p => (.int p.1, .int p.2))] = pure (.d (encR (rowN kvs r))) := by
  apply df (ps := 2) (k := 3) [some (.d (encR r)), some (.dct (kvs.map fun p => (.int p.1, .int p.2))), none] rfl rfl (by decide) rfl (b := b_row_by)
  · intro σ; unfold b_row_by
    repeat' trivial
  · rfl
  · rfl
end L70
local macro_rules | `(tactic| decreasing_trivial) => `(tactic| first | apply L70.unknowns_in | apply L70.row_by)
namespace L70
open PySem Pd Nt
variable {at_ : Nat → M W → M W} {n : Nat}
theorem filled_by {s : Stor} (v : Valid s) (kvs : List (Int × Int)) : F at_ (n + 2) i_filled_by [.d (encS s), .dct (kvs.map fun p => (.int p.1, .int p.2))] = pure (.d (encS (fillN s kvs))) := by
  have h1 := v.smS
  apply df (ps := 2) (k := 7) [some (.d (encS s)), some (.dct (kvs.map fun p => (.int p.1, .int p.2))), none, none, none, none, none] rfl rfl (by decide) rfl (b := b_filled_by)
  · intro σ; unfold b_filled_by
    apply c_set
    · repeat' trivial
    apply c_forP (fun pre ρ => ∃ x j1 j2 j3 j4, x = encS (fillN pre kvs) ∧ ρ = [some (.d (encS s)), some (.dct (kvs.map fun p => (.int p.1, .int p.2))), some (.d x), j1, j2, j3, j4])
    · repeat' trivial
    · exact ⟨_, _, _, _, _, rfl, rfl⟩
    · rintro pre p post e _ ⟨_, j1, j2, j3, j4, rfl, rfl⟩
      have hp := pre_mem e
      have h2 := v.smT hp
      have h3 := v.rows40 hp
      have h4 := pre_len e
      have h5 := v.len
      apply ex_for rfl
      · repeat' trivial
        · exact v.smR hp (by assumption)
        · rw [List.length_map]; omega
        · exact rowsOk_once_len (v.fillLen hp kvs)
        · simp only [fillN, List.length_map, List.length_cons, List.length_nil]
          exact Nat.le_trans (m := 10) (by omega) (by decide)
      · refine ⟨_, rfl, _, _, _, _, _, ?_, rfl⟩
        simp [fillN, ssort]
    · rintro _ ⟨_, j1, j2, j3, j4, rfl, rfl⟩
      repeat' trivial
  · rfl
  · rfl
end L70
local macro_rules | `(tactic| decreasing_trivial) => `(tactic| first | apply L70.filled_by)
namespace L70
open PySem Pd Nt
variable {at_ : Nat → M W → M W} {n : Nat}
end L70

namespace L70
open PySem Pd Nt
variable {at_ : Nat → M W → M W} {n : Nat}
theorem is_unknown_of {s : Stor} (v : Valid s) (i : Int) : F at_ (n + 3) i_is_unknown_of [.d (encS s), .d (.int i)] = pure (.d (.bool (memB i (unkN s)))) := by
  apply df (ps := 2) (k := 2) [some (.d (encS s)), some (.d (.int i))] rfl rfl (by decide) rfl (b := b_is_unknown_of)
  · intro σ; unfold b_is_unknown_of; repeat' trivial
  · rfl
  · rfl
theorem is_letter_of {s : Stor} (v : Valid s) (x : Str) : F at_ (n + 1) i_is_letter_of [.d (encS s), .d (.str x)] = pure (.d (.bool (letIn s x))) := by
  have h1 := v.smS
  apply df (ps := 2) (k := 4) [some (.d (encS s)), some (.d (.str x)), none, none] rfl rfl (by decide) rfl (b := b_is_letter_of)
  · intro σ; unfold b_is_letter_of; repeat' trivial
  · rfl
  · rfl
theorem rows_in {s : Stor} (v : Valid s) : F at_ (n + 1) i_rows_in [.d (encS s)] = pure (.d (.int (rowsN s))) := by
  have h1 := v.smS
  apply df (ps := 1) (k := 3) [some (.d (encS s)), none, none] rfl rfl (by decide) rfl (b := b_rows_in)
  · intro σ; unfold b_rows_in; repeat' trivial
  · unfold ctW; rw [sum_rows]
  · rfl
end L70
local macro_rules | `(tactic| decreasing_trivial) => `(tactic| first | apply L70.is_unknown_of | apply L70.is_letter_of | apply L70.rows_in)
namespace L70
open PySem Pd Nt
variable {at_ : Nat → M W → M W} {n : Nat}
theorem bt_dictS {σ : S} {s : Stor} (v : Valid s) : Bt σ .dict [.d (.list (s.map encP))] (.dct (s.map fun p => (.str p.1, encT p.2))) := by
  have := bt_dict (σ := σ) (f := .str) (g := encT) encStr (fun _ => rfl) s
  rw [mergeN_nodup (by rw [List.nil_append]; exact v.nodup), List.nil_append] at this
  exact this
theorem ix_dctS {σ : S} {s : Stor} (v : Valid s) {l : Str} (h : letIn s l = true) : Ix σ (.dct (s.map fun p => (.str p.1, encT p.2))) (.d (.str l)) (encT (tabOf s l)) := ix_dct encStr (fun _ => rfl) (lookN_let v h)
theorem can_come {s : Stor} (v : Valid s) {l : Str} (h : letIn s l = true) {r : Row} (hr : Sm r) : F at_ (n + 3) i_can_come [.d (encS s), .d (.str l), .d (encR r)] = pure (.d (.bool (rowB (tabOf s l).1 r && !memB r (tabOf s l).2))) := by
  apply df (ps := 3) (k := 5) [some (.d (encS s)), some (.d (.str l)), some (.d (encR r)), none, none] rfl rfl (by decide) rfl (b := b_can_come)
  · intro σ; unfold b_can_come
    repeat' (first | apply bt_dictS v | apply ix_dctS v h | trivial)
  · rfl
  · rfl
theorem can_go {s : Stor} (v : Valid s) {l : Str} (h : letIn s l = true) {r : Row} (hr : Sm r) : F at_ (n + 3) i_can_go [.d (encS s), .d (.str l), .d (encR r)] = pure (.d (.bool (rowB (tabOf s l).1 r && memB r (tabOf s l).2))) := by
  apply df (ps := 3) (k := 5) [some (.d (encS s)), some (.d (.str l)), some (.d (encR r)), none, none] rfl rfl (by decide) rfl (b := b_can_go)
  · intro σ; unfold b_can_go
    repeat' (first | apply bt_dictS v | apply ix_dctS v h | trivial)
  · rfl
  · rfl
end L70
local macro_rules | `(tactic| decreasing_trivial) => `(tactic| first | apply L70.can_come | apply L70.can_go)
namespace L70
open PySem Pd Nt
variable {at_ : Nat → M W → M W} {n : Nat}
theorem fits_news {s : Stor} (v : Valid s) {x : News} (hx : x.sm) : F at_ (n + 4) i_fits_news [.d (encS s), .d (encN x)] = pure (.d (.bool (newsB s x))) := by
  cases x with
  | told u w =>
    apply df (ps := 2) (k := 5) [some (.d (encS s)), some (.d (encN (.told u w))), none, none, none] rfl rfl (by decide) rfl (b := b_fits_news)
    · intro σ; unfold b_fits_news; repeat' trivial
    · rfl
    · rfl
  | same u w =>
    apply df (ps := 2) (k := 5) [some (.d (encS s)), some (.d (encN (.same u w))), none, none, none] rfl rfl (by decide) rfl (b := b_fits_news)
    · intro σ; unfold b_fits_news; repeat' trivial
    · rfl
    · rfl
  | comes l r =>
    have hr : Sm r := hx
    apply df (ps := 2) (k := 5) [some (.d (encS s)), some (.d (encN (.comes l r))), none, none, none] rfl rfl (by decide) rfl (b := b_fits_news)
    · intro σ; unfold b_fits_news; repeat' trivial
    · refine ct_b (ct_ff rfl) ?_
      have e : ([PyData.str (Str.ofString "comes"), PyData.str (Str.ofString "goes")].any fun z => z.eqv (PyData.str (Str.ofString "comes"))) = true := rfl
      unfold newsB
      dsimp only
      rw [e]; cases letIn s l <;> simp
    · rfl
  | goes l r =>
    have hr : Sm r := hx
    apply df (ps := 2) (k := 5) [some (.d (encS s)), some (.d (encN (.goes l r))), none, none, none] rfl rfl (by decide) rfl (b := b_fits_news)
    · intro σ; unfold b_fits_news; repeat' trivial
    · refine ct_b (ct_ff rfl) ?_
      have e : ([PyData.str (Str.ofString "comes"), PyData.str (Str.ofString "goes")].any fun z => z.eqv (PyData.str (Str.ofString "goes"))) = true := rfl
      unfold newsB
      dsimp only
      rw [e]; cases letIn s l <;> simp
    · rfl
end L70
local macro_rules | `(tactic| decreasing_trivial) => `(tactic| first | apply L70.fits_news)
namespace L70
open PySem Pd Nt
variable {at_ : Nat → M W → M W} {n : Nat}
theorem behind_news {s : Stor} (v : Valid s) {x : News} (hx : newsB s x = true) (hs : x.sm) : F at_ (n + 3) i_behind_news [.d (encS s), .d (encN x)] = pure (.d (encS (behN s x))) := by
  cases x with
  | told u w =>
    apply df (ps := 2) (k := 10) [some (.d (encS s)), some (.d (encN (.told u w))), none, none, none, none, none, none, none, none] rfl rfl (by decide) rfl (b := b_behind_news)
    · intro σ; unfold b_behind_news; repeat' trivial
    · rfl
    · rfl
  | same u w =>
    apply df (ps := 2) (k := 10) [some (.d (encS s)), some (.d (encN (.same u w))), none, none, none, none, none, none, none, none] rfl rfl (by decide) rfl (b := b_behind_news)
    · intro σ; unfold b_behind_news; repeat' trivial
    · rfl
    · rfl
  | comes l r =>
    have h1 := v.smS
    apply df (ps := 2) (k := 10) [some (.d (encS s)), some (.d (encN (.comes l r))), none, none, none, none, none, none, none, none] rfl rfl (by decide) rfl (b := b_behind_news)
    · intro σ; unfold b_behind_news; repeat' trivial
      apply c_forP (fun pre ρ => ∃ x j1 j2 j3 j4, x = encS (behN pre (.comes l r)) ∧ ρ = [some (.d (encS s)), some (.d (encN (.comes l r))), some (.d x), some (.d (.str "comes")), some (.d (.str l)), some (.d (encR r)), j1, j2, j3, j4])
      · repeat' trivial
      · exact ⟨_, _, _, _, _, rfl, rfl⟩
      · rintro pre p post e _ ⟨_, j1, j2, j3, j4, rfl, rfl⟩
        have hp := pre_mem e
        have h2 := v.smT hp
        have h3 := v.rows40 hp
        have h4 := pre_len e
        have h5 := v.len
        have hb := behN_big v e (.comes l r)
        apply ex_for rfl
        · repeat' trivial
          · exact Nat.le_trans (m := 50) (by omega) (by decide)
          · rename_i hq
            have hq := eqB_iff.mp hq
            subst hq
            exact comes_ok v hp hx
          all_goals exact hb
        · cases hq : eqB p.1 l with
          | true =>
            rw [if_pos rfl]
            refine ⟨_, rfl, _, _, _, _, _, ?_, rfl⟩
            simp [behN, eqB_iff.mp hq]
          | false =>
            rw [if_neg Bool.false_ne_true]
            refine ⟨_, rfl, _, _, _, _, _, ?_, rfl⟩
            simp [behN, eqB_not.mp hq]
      · rintro _ ⟨_, j1, j2, j3, j4, rfl, rfl⟩
        repeat' trivial
    · rfl
    · rfl
  | goes l r =>
    have h1 := v.smS
    apply df (ps := 2) (k := 10) [some (.d (encS s)), some (.d (encN (.goes l r))), none, none, none, none, none, none, none, none] rfl rfl (by decide) rfl (b := b_behind_news)
    · intro σ; unfold b_behind_news; repeat' trivial
      apply c_forP (fun pre ρ => ∃ x j1 j2 j3 j4, x = encS (behN pre (.goes l r)) ∧ ρ = [some (.d (encS s)), some (.d (encN (.goes l r))), some (.d x), some (.d (.str "goes")), some (.d (.str l)), some (.d (encR r)), j1, j2, j3, j4])
      · repeat' trivial
      · exact ⟨_, _, _, _, _, rfl, rfl⟩
      · rintro pre p post e _ ⟨_, j1, j2, j3, j4, rfl, rfl⟩
        have hp := pre_mem e
        have h2 := v.smT hp
        have h3 := v.rows40 hp
        have h4 := pre_len e
        have h5 := v.len
        have hb := behN_big v e (.goes l r)
        apply ex_for rfl
        · repeat' trivial
          all_goals exact hb
        · cases hq : eqB p.1 l with
          | true =>
            rw [if_pos rfl]
            refine ⟨_, rfl, _, _, _, _, _, ?_, rfl⟩
            simp [behN, eqB_iff.mp hq]
          | false =>
            rw [if_neg Bool.false_ne_true]
            refine ⟨_, rfl, _, _, _, _, _, ?_, rfl⟩
            simp [behN, eqB_not.mp hq]
      · rintro _ ⟨_, j1, j2, j3, j4, rfl, rfl⟩
        repeat' trivial
    · rfl
    · rfl
end L70
local macro_rules | `(tactic| decreasing_trivial) => `(tactic| first | apply L70.behind_news)
namespace L70
open PySem Pd Nt
variable {at_ : Nat → M W → M W} {n : Nat}
end L70

namespace L70
open PySem Pd Nt
variable {at_ : Nat → M W → M W} {n : Nat}
theorem fits_book {s : Stor} {xs : List News} (v : Valid s) (hl : xs.length ≤ 20) (hs : ∀ x ∈ xs, x.sm) : F at_ (n + 5) i_fits_book [.d (.tuple [encS s, .tuple (xs.map encN)])] = pure (.d (.bool (foldO stepN s xs).isSome)) := by
  have h1 : Sm xs := Sm.of hl
  apply df (ps := 1) (k := 3) [some (.d (.tuple [encS s, .tuple (xs.map encN)])), none, none] rfl rfl (by decide) rfl (b := b_fits_book)
  · intro σ; unfold b_fits_book
    apply c_ite_F
    · repeat' trivial
    · have e : ((xs.length : Nat) : Int) ≤ 20 := by omega
      simp [e]
    · repeat' trivial
      apply c_forS (P := fun y ρ => Valid y ∧ ∃ j, ρ = [some (.d (.tuple [encS s, .tuple (xs.map encN)])), some (.d (encS y)), j]) (step := stepN) (y0 := s) (w := .d (.bool false))
      · repeat' trivial
      · exact ⟨v, _, rfl⟩
      · rintro x hx y _ ⟨vy, j, rfl⟩
        have := hs x hx
        apply ex_forS rfl
        · repeat' trivial
        · intro y' hy
          unfold stepN at hy
          split at hy
          · rename_i hb
            cases hy
            rw [hb]
            exact ⟨_, rfl, valid_beh vy hb, _, rfl⟩
          · cases hy
        · intro hy
          unfold stepN at hy
          split at hy
          · cases hy
          · rename_i hb
            rw [Bool.not_eq_true] at hb
            rw [hb]; rfl
      · rintro y _ _ ⟨vy, j, rfl⟩
        repeat' trivial
  · cases (foldO stepN s xs).isSome <;> rfl
  · rfl
end L70
local macro_rules | `(tactic| decreasing_trivial) => `(tactic| first | apply L70.fits_book)
namespace L70
open PySem Pd Nt
variable {at_ : Nat → M W → M W} {n : Nat}
theorem need_book {s : Stor} {xs : List News} (v : Valid s) (hl : xs.length ≤ 20) (hs : ∀ x ∈ xs, x.sm) (hb : (foldO stepN s xs).isSome = true) : F at_ (n + 6) i_need_book [.d (.tuple [encS s, .tuple (xs.map encN)])] = pure (.d .none) := by
  apply df (ps := 1) (k := 1) [some (.d (.tuple [encS s, .tuple (xs.map encN)]))] rfl rfl (by decide) rfl (b := b_need_book)
  · intro σ; unfold b_need_book
    apply c_ite_F
    · repeat' trivial
    · rw [hb]; rfl
    · repeat' trivial
  · rfl
  · rfl
end L70
local macro_rules | `(tactic| decreasing_trivial) => `(tactic| first | apply L70.need_book)
namespace L70
open PySem Pd Nt
variable {at_ : Nat → M W → M W} {n : Nat}
theorem stores_by {s : Stor} {xs : List News} (v : Valid s) (hl : xs.length ≤ 20) (hs : ∀ x ∈ xs, x.sm) (hb : (foldO stepN s xs).isSome = true) : F at_ (n + 4) i_stores_by [.d (.tuple [encS s, .tuple (xs.map encN)])] = pure (.d (.list ((storesN s xs).map encS))) := by
  have h1 : Sm xs := Sm.of hl
  apply df (ps := 1) (k := 3) [some (.d (.tuple [encS s, .tuple (xs.map encN)])), none, none] rfl rfl (by decide) rfl (b := b_stores_by)
  · intro σ; unfold b_stores_by
    apply c_set
    · repeat' trivial
    apply c_forP (fun pre ρ => ∃ x j, x = .list ((storesN s pre).map encS) ∧ ρ = [some (.d (.tuple [encS s, .tuple (xs.map encN)])), some (.d x), j])
    · repeat' trivial
    · exact ⟨_, _, rfl, rfl⟩
    · rintro pre x post e _ ⟨_, j, rfl, rfl⟩
      have hx := hs x (pre_mem e)
      have hl2 := pre_len e
      have hf : ∃ t, foldO stepN s pre = some t ∧ newsB t x = true := by
        rw [e, foldO_app] at hb
        cases q : foldO stepN s pre with
        | none => rw [q] at hb; cases hb
        | some t =>
          refine ⟨t, rfl, ?_⟩
          rw [q, Option.bind_some] at hb
          unfold foldO stepN at hb
          split at hb
          · rename_i z hz
            split at hz
            · assumption
            · cases hz
          · cases hb
      obtain ⟨t, ht, hn⟩ := hf
      have vt := valid_fold v ht
      have hla := foldO_last ht
      apply ex_for rfl
      · repeat' (first | exact ix_l_last hla | trivial)
        · show ((storesN s pre).map encS).length + 1 ≤ big
          rw [List.length_map, storesN_len]
          exact Nat.le_trans (m := 30) (by omega) (by decide)
      · refine ⟨_, rfl, _, _, ?_, rfl⟩
        rw [storesN_snoc pre ht]; simp
    · rintro _ ⟨_, j, rfl, rfl⟩
      repeat' trivial
  · rfl
  · rfl
end L70
local macro_rules | `(tactic| decreasing_trivial) => `(tactic| first | apply L70.stores_by)
namespace L70
open PySem Pd Nt
variable {at_ : Nat → M W → M W} {n : Nat}
end L70

namespace L70
open PySem Pd Nt
variable {at_ : Nat → M W → M W} {n : Nat}
theorem law_unknowns {s : Stor} (v : Valid s) : F at_ (n + 1) i__law_unknowns [.d (encS s)] = pure (.d (.list ((unkN s).map .int))) := by
  have h1 := v.smS
  apply df (ps := 1) (k := 6) [some (.d (encS s)), none, none, none, none, none] rfl rfl (by decide) rfl (b := b__law_unknowns)
  · intro σ; unfold b__law_unknowns
    apply c_set
    · repeat' trivial
    apply c_forP (fun pre ρ => ∃ x j1 j2 j3 j4, x = .list (List.map PyData.int (unkL pre)) ∧ ρ = [some (.d (encS s)), some (.d x), j1, j2, j3, j4])
    · repeat' trivial
    · exact ⟨_, _, _, _, _, rfl, rfl⟩
    · rintro pre p post e _ ⟨_, j1, j2, j3, j4, rfl, rfl⟩
      have hp := pre_mem e
      have h2 := v.smT hp
      have hc : (unkL pre).length ≤ 720 := by
        have h1 := unkL_len v (t := pre) (L := []) fun p hp => pre_sub e hp
        have h2 := pre_len e
        have h3 := v.len
        exact Nat.le_trans h1 (by simp; omega)
      apply ex_forQ rfl
      · apply q_forP (fun prr ρ => ∃ x j3 j4, x = .list (List.map PyData.int (prr.foldl stepU (unkL pre))) ∧ ρ = [some (.d (encS s)), some (.d x), some (.d (.str p.1)), some (.d (encT p.2)), j3, j4])
        · repeat' trivial
        · exact ⟨_, _, _, rfl, rfl⟩
        · rintro prr r posr er _ ⟨_, j3, j4, rfl, rfl⟩
          have hr := v.smR hp (pre_mem er)
          have l6 := v.len6 hp (pre_mem er)
          have l7 := foldU_len (k := 6) (rs := prr) (L := unkL pre) fun r hr => v.len6 hp (pre_sub er hr)
          have l8 := List.length_filter_le (fun x => decide (x < 0) && !memB x (prr.foldl stepU (unkL pre))) r
          have l9 := pre_len er
          have l10 := v.rows40 hp
          apply ex_bind rfl
          repeat' trivial
          · exact Nat.le_trans (m := 1000) (by omega) (by decide)
          · refine ⟨_, rfl, rfl, _, _, _, ?_, rfl⟩
            rw [List.foldl_append]; rfl
        · rintro _ ⟨_, j3, j4, rfl, rfl⟩
          apply q_nil
          refine ⟨_, rfl, rfl, _, _, _, _, _, ?_, rfl⟩
          unfold unkL
          rw [List.foldl_append]; rfl
    · rintro _ ⟨_, j1, j2, j3, j4, rfl, rfl⟩
      have : (unkL s).length ≤ 2000 := by
        have h1 := unkL_len v (t := s) (L := []) fun p hp => hp
        have h3 := v.len
        exact Nat.le_trans h1 (by simp; omega)
      repeat' trivial
  · exact congrArg (fun l => W.d (.list (l.map .int))) (unkL_eq s)
  · rfl
theorem law_put (r : Row) (kvs : List (Int × Int)) (h : Sm r) : F at_ (n + 1) i__law_put [.d (encR r), .dct (kvs.map fun p => (.int p.1, .int p.2))] = pure (.d (encR (rowN kvs r))) := by
  apply df (ps := 2) (k := 3) [some (.d (encR r)), some (.dct (kvs.map fun p => (.int p.1, .int p.2))), none] rfl rfl (by decide) rfl (b := b__law_put)
  · intro σ; unfold b__law_put
    repeat' trivial
  · rfl
  · rfl
end L70
local macro_rules | `(tactic| decreasing_trivial) => `(tactic| first | apply L70.law_unknowns | apply L70.law_put)
namespace L70
open PySem Pd Nt
variable {at_ : Nat → M W → M W} {n : Nat}
theorem nrm_F (l : List (Str × Tab)) (kvs : List (Int × Int)) : l.map (fun p => PyData.tuple [.str p.1, .tuple [.int p.2.1, .list ((p.2.2.map (rowN kvs)).map encR)]]) = (l.map fun p => ((p.1, p.2.1, true, p.2.2.map (rowN kvs)) : Fnd)).map encF := by
  rw [List.map_map]; rfl
theorem law_fill {s : Stor} (v : Valid s) {x : News} (u w : Int) (hx : x = .told u w ∨ x = .same u w) : F at_ (n + 2) i__law_behind [.d (encS s), .d (encN x)] = pure (.d (encS (fillN s [(u, w)]))) := by
  have h1 := v.smS
  have h40 : ∀ p ∈ s, Sm p.2.2 := fun p hp => v.smT hp
  have h6 : ∀ p ∈ s, ∀ r ∈ p.2.2, Sm r := fun p hp r hr => v.smR hp hr
  have h64 : ∀ p ∈ s, (p.2.2.map (rowN [(u, w)])).length < 64 := fun p hp => by rw [List.length_map]; have := v.rows40 hp; omega
  have hok : ∀ p ∈ s, rowsOk (once [] (p.2.2.map (rowN [(u, w)]))) := fun p hp => rowsOk_once_len (v.fillLen hp _)
  rcases hx with rfl | rfl
  · apply df (ps := 2) (k := 11) [some (.d (encS s)), some (.d (encN (.told u w))), none, none, none, none, none, none, none, none, none] rfl rfl (by decide) rfl (b := b__law_behind)
    · intro σ; unfold b__law_behind
      repeat' (first | exact h40 _ (by assumption) | exact h6 _ (by assumption) _ (by assumption) | exact h64 _ (by assumption) | exact hok _ (by assumption) | trivial)
    · unfold fillN
      show W.d (.tuple _) = W.d (.tuple (List.map encP (List.map _ s)))
      rw [List.map_map]; rfl
    · rfl
  · apply df (ps := 2) (k := 11) [some (.d (encS s)), some (.d (encN (.same u w))), none, none, none, none, none, none, none, none, none] rfl rfl (by decide) rfl (b := b__law_behind)
    · intro σ; unfold b__law_behind
      repeat' (first | exact h40 _ (by assumption) | exact h6 _ (by assumption) _ (by assumption) | exact h64 _ (by assumption) | exact hok _ (by assumption) | trivial)
    · unfold fillN
      show W.d (.tuple _) = W.d (.tuple (List.map encP (List.map _ s)))
      rw [List.map_map]; rfl
    · rfl
theorem law_behind {s : Stor} (v : Valid s) {x : News} (hx : newsB s x = true) (hs : x.sm) : F at_ (n + 2) i__law_behind [.d (encS s), .d (encN x)] = pure (.d (encS (behN s x))) := by
  have h1 := v.smS
  have h2 : ∀ p ∈ s, Sm p.2.2 := fun p hp => v.smT hp
  cases x with
  | told u w => exact law_fill v u w (.inl rfl)
  | same u w => exact law_fill v u w (.inr rfl)
  | comes l r =>
    have hlen : ∀ p ∈ s, (lawF (.comes l r) p).2.2.2.length < 64 := fun p hp => by
      have h6 := v.rows40 hp
      have h7 := List.length_filter_le (fun x => !eqB x r) p.2.2
      unfold lawF; dsimp only; split
      · dsimp only; simp only [List.length_append, List.length_singleton]; omega
      · dsimp only; omega
    have hok : ∀ p ∈ s, rowsOk (once [] (lawF (.comes l r) p).2.2.2) := fun p hp => by
      refine rowsOk_once_len (c := p.2.1.toNat) fun q hq => ?_
      have hr : q ∈ p.2.2 ∨ (p.1 = l ∧ q = r) := by
        unfold lawF at hq; dsimp only at hq; split at hq
        · rename_i e
          dsimp only at hq
          rcases List.mem_append.mp hq with z | z
          · exact .inl (List.mem_filter.mp z).1
          · exact .inr ⟨e, List.mem_singleton.mp z⟩
        · exact .inl hq
      rcases hr with hr | ⟨rfl, rfl⟩
      · have := (v.row p hp q hr).1; omega
      · have := (comes_iff v hp hx).1.1; omega
    apply dfq (ps := 2) (k := 11) [some (.d (encS s)), some (.d (encN (.comes l r))), none, none, none, none, none, none, none, none, none] rfl rfl (by decide) rfl (b := b__law_behind)
    intro σ; unfold b__law_behind
    repeat' trivial
    apply q_forM (fun pre ρ τ => ∃ y j1 j2 j3 j4 j5, y = (pre.map (lawF (.comes l r))).map encF ∧ τ = σ ++ (false, y) :: [] ∧ ρ = [some (.d (encS s)), some (.d (encN (.comes l r))), some (.d (.str "comes")), some (.d (.str l)), some (.d (encR r)), some (.mut σ.length), j1, j2, j3, j4, j5])
    · repeat' trivial
    · exact ⟨_, _, _, _, _, _, rfl, rfl, rfl⟩
    · rintro pre p post e _ _ ⟨_, j1, j2, j3, j4, j5, rfl, rfl, rfl⟩
      have hp := pre_mem e
      have h3 := h2 p hp
      have h4 := pre_len e
      have h5 := v.len
      have h6 := v.rows40 hp
      have h7 := List.length_filter_le (fun x => !eqB x r) p.2.2
      have hl : ((pre.map (lawF (.comes l r))).map encF).length < big := by
        rw [List.length_map, List.length_map]; exact Nat.lt_of_lt_of_le (m := 10) (by omega) (by decide)
      apply ex_bind rfl
      repeat' trivial
      · exact Nat.le_trans (m := 50) (Nat.le_trans (Nat.add_le_add_right h7 1) (by omega)) (by decide)
      · apply q_app rfl
        · repeat' trivial
        · exact hl
        · apply q_nil
          refine ⟨_, rfl, _, _, _, _, _, _, ?_, rfl, rfl⟩
          have e : p.1 = l := eqB_iff.mp (by assumption)
          simp [lawF, e, encTL]
      · apply q_app rfl
        · repeat' trivial
        · exact hl
        · apply q_nil
          refine ⟨_, rfl, _, _, _, _, _, _, ?_, rfl, rfl⟩
          have e : ¬ p.1 = l := eqB_not.mp (by assumption)
          simp [lawF, e, encTL]
    · rintro _ _ ⟨_, j1, j2, j3, j4, j5, rfl, rfl, rfl⟩
      have sm : Sm (s.map (lawF (.comes l r))) := Sm.map _ h1
      apply q_of
      · apply c_ret_tlc (f := fun q => encP (finF q)) rfl sm
        intro y hy
        obtain ⟨p, hp, rfl⟩ := List.mem_map.mp hy
        have hle := hlen p hp
        have hok := hok p hp
        apply ex_lc rfl
        repeat' (first | exact bt_set_tl hle | trivial)
      · refine .inl ⟨?_, rfl, ?_⟩
        · rw [← law_comes v hx]
          show W.d (.tuple (List.map _ (s.map _))) = W.d (.tuple (List.map encP (s.map _)))
          rw [List.map_map, List.map_map]; rfl
        · simp
  | goes l r =>
    have hlen : ∀ p ∈ s, (lawF (.goes l r) p).2.2.2.length < 64 := fun p hp => by
      have h6 := v.rows40 hp
      have h7 := List.length_filter_le (fun x => !eqB x r) p.2.2
      unfold lawF; dsimp only; split
      · dsimp only; omega
      · dsimp only; omega
    have hok : ∀ p ∈ s, rowsOk (once [] (lawF (.goes l r) p).2.2.2) := fun p hp => by
      refine rowsOk_once_len (c := p.2.1.toNat) fun q hq => ?_
      have hr : q ∈ p.2.2 := by
        unfold lawF at hq; dsimp only at hq; split at hq
        · exact (List.mem_filter.mp hq).1
        · exact hq
      have := (v.row p hp q hr).1; omega
    apply dfq (ps := 2) (k := 11) [some (.d (encS s)), some (.d (encN (.goes l r))), none, none, none, none, none, none, none, none, none] rfl rfl (by decide) rfl (b := b__law_behind)
    intro σ; unfold b__law_behind
    repeat' trivial
    apply q_forM (fun pre ρ τ => ∃ y j1 j2 j3 j4 j5, y = (pre.map (lawF (.goes l r))).map encF ∧ τ = σ ++ (false, y) :: [] ∧ ρ = [some (.d (encS s)), some (.d (encN (.goes l r))), some (.d (.str "goes")), some (.d (.str l)), some (.d (encR r)), some (.mut σ.length), j1, j2, j3, j4, j5])
    · repeat' trivial
    · exact ⟨_, _, _, _, _, _, rfl, rfl, rfl⟩
    · rintro pre p post e _ _ ⟨_, j1, j2, j3, j4, j5, rfl, rfl, rfl⟩
      have hp := pre_mem e
      have h3 := h2 p hp
      have h4 := pre_len e
      have h5 := v.len
      have h6 := v.rows40 hp
      have h7 := List.length_filter_le (fun x => !eqB x r) p.2.2
      have hl : ((pre.map (lawF (.goes l r))).map encF).length < big := by
        rw [List.length_map, List.length_map]; exact Nat.lt_of_lt_of_le (m := 10) (by omega) (by decide)
      apply ex_bind rfl
      repeat' trivial
      · rw [List.length_map]; exact Nat.le_trans (m := 50) (Nat.le_trans h7 (Nat.le_trans h6 (by decide))) (by decide)
      · apply q_app rfl
        · repeat' trivial
        · exact hl
        · apply q_nil
          refine ⟨_, rfl, _, _, _, _, _, _, ?_, rfl, rfl⟩
          have e : p.1 = l := eqB_iff.mp (by assumption)
          simp [lawF, e, encTL]
      · apply q_app rfl
        · repeat' trivial
        · exact hl
        · apply q_nil
          refine ⟨_, rfl, _, _, _, _, _, _, ?_, rfl, rfl⟩
          have e : ¬ p.1 = l := eqB_not.mp (by assumption)
          simp [lawF, e, encTL]
    · rintro _ _ ⟨_, j1, j2, j3, j4, j5, rfl, rfl, rfl⟩
      have sm : Sm (s.map (lawF (.goes l r))) := Sm.map _ h1
      apply q_of
      · apply c_ret_tlc (f := fun q => encP (finF q)) rfl sm
        intro y hy
        obtain ⟨p, hp, rfl⟩ := List.mem_map.mp hy
        have hle := hlen p hp
        have hok := hok p hp
        apply ex_lc rfl
        repeat' (first | exact bt_set_tl hle | trivial)
      · refine .inl ⟨?_, rfl, ?_⟩
        · rw [← law_goes v]
          show W.d (.tuple (List.map _ (s.map _))) = W.d (.tuple (List.map encP (s.map _)))
          rw [List.map_map, List.map_map]; rfl
        · simp
end L70
local macro_rules | `(tactic| decreasing_trivial) => `(tactic| first | apply L70.law_behind)
namespace L70
open PySem Pd Nt
variable {at_ : Nat → M W → M W} {n : Nat}
end L70

namespace L70
open PySem Pd Nt
variable {at_ : Nat → M W → M W} {n : Nat}
theorem law_stores {s : Stor} {xs : List News} (v : Valid s) (hl : xs.length ≤ 20) (hs : ∀ x ∈ xs, x.sm) (hb : (foldO stepN s xs).isSome = true) : F at_ (n + 3) i__law_stores [.d (.tuple [encS s, .tuple (xs.map encN)])] = pure (.d (.list ((storesN s xs).map encS))) := by
  have h1 : Sm xs := Sm.of hl
  apply dfq (ps := 1) (k := 3) [some (.d (.tuple [encS s, .tuple (xs.map encN)])), none, none] rfl rfl (by decide) rfl (b := b__law_stores)
  intro σ; unfold b__law_stores
  apply q_mlst
  · repeat' trivial
  · exact Nat.le_of_ble_eq_true rfl
  apply q_forM (fun pre ρ τ => ∃ y j, y = (storesN s pre).map encS ∧ τ = σ ++ (false, y) :: [] ∧ ρ = [some (.d (.tuple [encS s, .tuple (xs.map encN)])), some (.mut σ.length), j])
  · repeat' trivial
  · exact ⟨_, _, rfl, rfl, rfl⟩
  · rintro pre x post e _ _ ⟨_, j, rfl, rfl, rfl⟩
    have hx := hs x (pre_mem e)
    have hl2 := pre_len e
    obtain ⟨t, ht, hn⟩ := fold_at hb e
    have vt := valid_fold v ht
    have hla := foldO_last ht
    apply ex_bind rfl
    apply q_app rfl
    · repeat' (first | exact ix_mut_last hla | trivial)
    · rw [List.length_map, storesN_len]
      exact Nat.lt_of_lt_of_le (m := 30) (by omega) (by decide)
    · apply q_nil
      refine ⟨_, rfl, _, _, ?_, rfl, rfl⟩
      rw [storesN_snoc pre ht]; simp
  · rintro _ _ ⟨_, j, rfl, rfl, rfl⟩
    apply q_ret (v_var rfl)
    exact .inr ⟨_, _, _, rfl, rfl, rfl⟩
end L70
local macro_rules | `(tactic| decreasing_trivial) => `(tactic| first | apply L70.law_stores)
namespace L70
open PySem Pd Nt
variable {at_ : Nat → M W → M W} {n : Nat}
/-- a thing's kind -/
def sortK : D → Int
  | .bool _ => 1
  | .int _ => 2
  | .str _ => 3
  | .list _ => 4
  | .tuple _ => 5
  | _ => 6
theorem law_sort (x : D) : F at_ (n + 1) i__law_sort [.d x] = pure (.d (.int (sortK x))) := by
  cases x <;> (apply df (ps := 1) (k := 1) [some (.d _)] rfl rfl (by decide) rfl (b := b__law_sort); (· intro σ; unfold b__law_sort; repeat' trivial); (· rfl); (· rfl))
end L70
local macro_rules | `(tactic| decreasing_trivial) => `(tactic| first | apply L70.law_sort)
namespace L70
open PySem Pd Nt
variable {at_ : Nat → M W → M W} {n : Nat}
theorem zip_self {α : Type} : ∀ {l : List α} {p : α × α}, p ∈ l.zip l → p.1 = p.2 ∧ p.1 ∈ l
  | [], p, h => by cases h
  | x :: l, p, h => by
    rw [List.zip_cons_cons] at h
    rcases List.mem_cons.mp h with e | e
    · subst e; exact ⟨rfl, List.mem_cons_self⟩
    · obtain ⟨h1, h2⟩ := zip_self e
      exact ⟨h1, List.mem_cons_of_mem _ h2⟩
theorem like_atom {x : D} (h : Atom x) : F at_ (n + 2) i__law_like [.d x, .d x] = pure (.d (.bool true)) := by
  rcases h with rfl | ⟨b, rfl⟩ | ⟨i, rfl⟩ | ⟨s, rfl⟩
  · (apply df (ps := 2) (k := 4) [some (.d .none), some (.d .none), none, none] rfl rfl (by decide) rfl (b := b__law_like); (· intro σ; unfold b__law_like; repeat' trivial); (· rfl); (· rfl))
  · apply df (ps := 2) (k := 4) [some (.d (.bool b)), some (.d (.bool b)), none, none] rfl rfl (by decide) rfl (b := b__law_like)
    · intro σ; unfold b__law_like; repeat' trivial
    · simp [ctW, eqB]
    · rfl
  · apply df (ps := 2) (k := 4) [some (.d (.int i)), some (.d (.int i)), none, none] rfl rfl (by decide) rfl (b := b__law_like)
    · intro σ; unfold b__law_like; repeat' trivial
    · simp [ctW, eqB]
    · rfl
  · apply df (ps := 2) (k := 4) [some (.d (.str s)), some (.d (.str s)), none, none] rfl rfl (by decide) rfl (b := b__law_like)
    · intro σ; unfold b__law_like; repeat' trivial
    · simp [ctW, eqB]
    · rfl
theorem like_lk : ∀ {k n : Nat} {x : D}, Lk k x → F at_ (n + k + 2) i__law_like [.d x, .d x] = pure (.d (.bool true))
  | 0, n, x, h => like_atom h
  | k + 1, n, x, h => by
    rcases h with h | ⟨xs, h, hl, hk⟩
    · exact like_atom h
    · have ih : ∀ y ∈ xs, F at_ (n + k + 2) i__law_like [.d y, .d y] = pure (.d (.bool true)) := fun y hy => like_lk (hk y hy)
      have ih2 : ∀ p ∈ xs.zip xs, F at_ (n + k + 2) i__law_like [.d (id p.1), .d (id p.2)] = pure (.d (.bool true)) := fun p hp => by
        obtain ⟨h1, h2⟩ := zip_self hp
        rw [← h1]; exact ih _ h2
      have sz := Sm.zip (ys := xs) hl
      rcases h with rfl | rfl
      · rw [← List.map_id xs]
        apply df (ps := 2) (k := 4) [some (.d (.list (xs.map id))), some (.d (.list (xs.map id))), none, none] rfl rfl (by decide) rfl (b := b__law_like)
        · intro σ; unfold b__law_like; repeat' (first | exact ih2 _ (by assumption) | trivial)
        · simp [ctW, eqB]
        · rfl
      · rw [← List.map_id xs]
        apply df (ps := 2) (k := 4) [some (.d (.tuple (xs.map id))), some (.d (.tuple (xs.map id))), none, none] rfl rfl (by decide) rfl (b := b__law_like)
        · intro σ; unfold b__law_like; repeat' (first | exact ih2 _ (by assumption) | trivial)
        · simp [ctW, eqB]
        · rfl
theorem like_stores {s : Stor} {xs : List News} (v : Valid s) (hl : xs.length ≤ 20) (hb : (foldO stepN s xs).isSome = true) : F at_ (n + 8) i__law_like [.d (.list ((storesN s xs).map encS)), .d (.list ((storesN s xs).map encS))] = pure (.d (.bool true)) :=
  like_lk (k := 6) (n := n) (lk_lst (Sm.of (n := 21) (by rw [storesN_len]; omega)) fun t ht => lk_store (valid_stores v hb t ht))
end L70

namespace L70
open PySem Pd Nt
variable {at_ : Nat → M W → M W} {n : Nat}
theorem fin_take {x y : Bool × List D} {r : S} : List.take (x :: r).length (y :: r) = y :: r := by simp
theorem law_roll {r σ : S} (hc : Cup r σ) {many : Int} (h1 : 1 ≤ many) (h2 : many ≤ 1000000) {Q : W → S → Prop} (hq : ∀ v τ, Cup r τ → 0 ≤ v → v < many → Q (.d (.int v)) τ) : Cq (F at_ (n + 1) i__law_roll [.mut 0, .d (.int many)]) σ Q := by
  obtain ⟨a, b, ha, hb, hb2, rfl⟩ := hc
  have m0 : (0 : Int) < many := by omega
  apply dfx (ps := 2) (k := 4) [some (.mut 0), some (.d (.int many)), none, none] rfl rfl (by decide) rfl (b := b__law_roll)
  unfold b__law_roll
  apply q_ite
  · repeat' trivial
  · intro hp
    repeat' trivial
    refine ⟨rfl, ?_⟩
    rw [fin_take]
    exact hq _ _ ⟨_, _, Int.fdiv_nonneg ha (by omega), hb, hb2, rfl⟩ (Int.fmod_nonneg_of_pos _ m0) (Int.fmod_lt_of_pos _ m0)
  · intro hp
    have g1 := Int.fmod_nonneg_of_pos (b * 30983 + 7933) (b := 2147483563) (by decide)
    have g2 := Int.fmod_lt_of_pos (b * 30983 + 7933) (b := 2147483563) (by decide)
    repeat' trivial
    · right; unfold p64; omega
    · left; unfold p64; omega
    · refine ⟨rfl, ?_⟩
      rw [fin_take]
      exact hq _ _ ⟨_, _, ha, g1, by omega, rfl⟩ (Int.fmod_nonneg_of_pos _ m0) (Int.fmod_lt_of_pos _ m0)
/-- one of some things -/
theorem law_some {α : Type} {f : α → D} {l : List α} {r σ : S} (hc : Cup r σ) {x : D} (hx : x = .list (l.map f) ∨ x = .tuple (l.map f)) (h1 : l ≠ []) (h2 : l.length ≤ 1000000) {Q : W → S → Prop} (hq : ∀ v τ, Cup r τ → v ∈ l → Q (.d (f v)) τ) : Cq (F at_ (n + 2) i__law_some [.mut 0, .d x]) σ Q := by
  have h0 : 1 ≤ l.length := List.length_pos_iff.mpr h1
  apply dfx (ps := 2) (k := 2) [some (.mut 0), some (.d x)] rfl rfl (by decide) rfl (b := b__law_some)
  unfold b__law_some
  apply qx_ret
  apply x_ix
  apply x_pure (v_var rfl)
  apply x_call
  apply xs_cons
  apply x_pure (v_var rfl)
  apply xs_cons
  apply x_pure (w := .d (.int l.length))
  · rcases hx with rfl | rfl
    · repeat' trivial
    · repeat' trivial
  apply xs_nil
  refine law_roll hc (by omega) (by omega) fun v τ ht v0 v1 => ?_
  obtain ⟨k, rfl⟩ := Int.eq_ofNat_of_zero_le v0
  have hi : k < l.length := by omega
  have hv : l[k]? = some l[k] := List.getElem?_eq_getElem hi
  refine ⟨f l[k], ?_, rfl, ?_⟩
  · rcases hx with rfl | rfl
    · exact ix_l hv
    · exact ix_t hv
  · obtain ⟨a, b, ha, hb, hb2, rfl⟩ := hc
    obtain ⟨a', b', ha', hb', hb2', rfl⟩ := ht
    rw [fin_take]
    exact hq _ _ ⟨a', b', ha', hb', hb2', rfl⟩ (List.getElem_mem hi)
end L70

namespace L70
open PySem Pd Nt
variable {at_ : Nat → M W → M W} {n : Nat}
theorem law_cell {r σ : S} (hc : Cup r σ) {u : Int} (hu : 0 ≤ u) (hu6 : u ≤ 6) {Q : W → S → Prop} (hq : ∀ v τ, Cup r τ → -u ≤ v → v ≤ 7 → Q (.d (.int v)) τ) : Cq (F at_ (n + 3) i__law_cell [.mut 0, .d (.int u)]) σ Q := by
  have hb : -(big : Int) ≤ u ∧ u ≤ big := by
    have : (6 : Int) ≤ big := by decide
    constructor <;> omega
  have hs : Sm (List.range u.toNat) := Sm.of (n := 6) (by rw [List.length_range]; omega)
  have hl := draw_len u
  apply dfx (ps := 2) (k := 3) [some (.mut 0), some (.d (.int u)), none] rfl rfl (by decide) rfl (b := b__law_cell)
  unfold b__law_cell
  apply qx_ret
  apply x_call
  apply xs_cons
  apply x_pure (v_var rfl)
  apply xs_cons
  apply x_pure (w := .d (.list ((drawL u).map .int)))
  · apply v_bin (x := .list (([1, 1, 2, 2, 3, 7, 0] : List Int).map .int)) (y := .list (((List.replicate 3 ((List.range u.toNat).map fun i : Nat => -1 - (i : Int))).flatten).map .int))
    · repeat' trivial
    · repeat' trivial
      exact ⟨by decide, by decide, by simp; omega⟩
    · refine bin_add_lm ?_
      have e : (drawL u).length = ([1, 1, 2, 2, 3, 7, 0] : List Int).length + ((List.replicate 3 ((List.range u.toNat).map fun i : Nat => -1 - (i : Int))).flatten).length := by unfold drawL; rw [List.length_append]
      rw [← e]
      exact Nat.le_trans hl (Nat.le_trans (m := 100) (by omega) (by decide))
  apply xs_nil
  refine law_some (f := .int) hc (.inl rfl) (by unfold drawL; simp) (by omega) fun v τ ht hv => ?_
  obtain ⟨h1, h2⟩ := mem_draw hu hv
  obtain ⟨a, b, ha, hb, hb2, rfl⟩ := hc
  obtain ⟨a', b', ha', hb', hb2', rfl⟩ := ht
  refine ⟨rfl, ?_⟩
  rw [fin_take]
  exact hq _ _ ⟨a', b', ha', hb', hb2', rfl⟩ h1 h2
theorem law_table {r σ : S} (hc : Cup r σ) {c m u : Int} (h0 : 0 ≤ c) (h3 : c ≤ 3) (m0 : 0 ≤ m) (m3 : m ≤ 39) (hu : 0 ≤ u) (hu6 : u ≤ 6) {Q : W → S → Prop} (hq : ∀ t τ, Cup r τ → t.1 = c → TabG u m.toNat t → Q (.d (encT t)) τ) : Cq (F at_ (n + 4) i__law_table [.mut 0, .d (.int c), .d (.int m), .d (.int u)]) σ Q := by
  have big6 : (100 : Int) ≤ big := by decide
  apply dfx (ps := 4) (k := 7) [some (.mut 0), some (.d (.int c)), some (.d (.int m)), some (.d (.int u)), none, none, none] rfl rfl (by decide) rfl (b := b__law_table)
  unfold b__law_table
  apply qx_set
  apply x_lc (Cup r) (fun q : Row => (q.length : Int) = c ∧ ∀ i ∈ q, -u ≤ i ∧ i ≤ 11) (enc' := encR)
  apply xi_range1
  apply x_call
  apply xs_cons
  apply x_pure (v_var rfl)
  apply xs_cons
  apply x_pure
  · repeat' trivial
  apply xs_nil
  refine law_roll hc (by omega) (by omega) fun v τ ht v0 v1 => ?_
  refine ⟨v, rfl, by constructor <;> omega, ht, Sm.of (n := 40) (by rw [List.length_range]; omega), ?_, ?_⟩
  · intro x _ τ ht
    apply ex_bind rfl
    apply x_bi
    apply xs_cons
    apply x_lc (Cup r) (fun i : Int => -u ≤ i ∧ i ≤ 11) (enc' := PyData.int)
    apply xi_pure
    · apply ei_range1 (n := c)
      · repeat' trivial
      · constructor <;> omega
    refine ⟨ht, Sm.of (n := 3) (by rw [List.length_range]; omega), ?_, ?_⟩
    · intro x _ τ ht
      apply ex_bind rfl
      apply x_call
      apply xs_cons
      apply x_pure (v_var rfl)
      apply xs_cons
      apply x_pure (v_var rfl)
      apply xs_nil
      refine law_cell ht hu hu6 fun v τ ht h1 h2 => ?_
      exact ⟨ht, v, rfl, h1, by omega⟩
    · intro ys υ hy hl hr
      apply xs_nil
      refine ⟨_, bt_tuple_l _, hy, ys, rfl, ?_, hr⟩
      rw [hl, List.length_range]; omega
  · intro ys υ hy hl hr
    rw [List.length_range] at hl
    have l64 : ys.length < 64 := by omega
    have ok : rowsOk (once [] ys) := rowsOk_once_len (c := c.toNat) fun q hq => by have := (hr q hq).1; omega
    apply q_of
    · repeat' trivial
    · refine ⟨rfl, ?_⟩
      obtain ⟨a, b, ha, hb, hb2, rfl⟩ := hc
      obtain ⟨a', b', ha', hb', hb2', rfl⟩ := hy
      rw [fin_take]
      refine hq (c, ssort ltR ys) _ ⟨a', b', ha', hb', hb2', rfl⟩ rfl ⟨h0, h3, fun q hq => (hr q (mem_ssort.mp hq)).1, fun q hq => (hr q (mem_ssort.mp hq)).2, ssort_asc totR _, ?_⟩
      exact Nat.le_trans (ssort_length _) (by omega)
end L70

namespace L70
open PySem Pd Nt
variable {at_ : Nat → M W → M W} {n : Nat}
theorem draw_table {r σ : S} {ρ : Rho} {e : E} (hc : Cup r σ) {u m : Int} {l : List Int} (h1 : ρ.at_ 0 = some (.mut 0)) (h2 : ρ.at_ 1 = some (.d (.int u))) (he : ∀ σ, Ev ⟨F at_ (n + 4), at_⟩ e ρ σ (.d (.list (l.map .int)))) (hl : ∀ c ∈ l, 0 ≤ c ∧ c ≤ 3) (hn : l ≠ []) (hs : l.length ≤ 9)
    (m0 : 0 ≤ m) (m3 : m ≤ 39) (hu : 0 ≤ u) (hu6 : u ≤ 6) {Q : W → S → Prop} (hq : ∀ t τ, Cup r τ → TabG u m.toNat t → Q (.d (encT t)) τ) :
    ExQ ⟨F at_ (n + 4), at_⟩ (.call i__law_table (.cons (.var 0) (.cons (.call i__law_some (.cons (.var 0) (.cons e .nil))) (.cons (.cst (.int m)) (.cons (.var 1) .nil))))) ρ σ Q := by
  apply x_call
  apply xs_cons
  apply x_pure (v_var h1)
  apply xs_cons
  apply x_call
  apply xs_cons
  apply x_pure (v_var h1)
  apply xs_cons
  apply x_pure (he _)
  apply xs_nil
  refine law_some (n := n + 2) (f := PyData.int) hc (.inl rfl) hn (by omega) fun c τ ht hc' => ?_
  obtain ⟨c0, c3⟩ := hl c hc'
  apply xs_cons
  apply x_pure v_cst
  apply xs_cons
  apply x_pure (v_var h2)
  apply xs_nil
  exact law_table ht c0 c3 m0 m3 hu hu6 fun t τ ht _ hg => hq t τ ht hg
theorem law_store {r σ : S} (hc : Cup r σ) {u : Int} (hu : 0 ≤ u) (hu6 : u ≤ 6) {Q : W → S → Prop} (hq : ∀ s τ, Cup r τ → Good u 10 s → Q (.d (encS s)) τ) : Cq (F at_ (n + 5) i__law_store [.mut 0, .d (.int u)]) σ Q := by
  apply dfx (ps := 2) (k := 4) [some (.mut 0), some (.d (.int u)), none, none] rfl rfl (by decide) rfl (b := b__law_store)
  unfold b__law_store
  apply qx_set
  apply x_tup
  apply xs_cons
  apply x_tup
  apply xs_cons
  apply x_pure v_cst
  apply xs_cons
  refine draw_table (l := [1, 2, 2, 3]) (m := 4) hc rfl rfl (fun σ => by repeat' trivial) (by decide) (by decide) (by decide) (by decide) (by decide) hu hu6 fun t1 τ1 c1 g1 => ?_
  apply xs_nil
  refine ⟨[.str "r", encT t1], rfl, Nat.le_of_ble_eq_true rfl, ?_⟩
  apply xs_nil
  refine ⟨[encP ("r", t1)], rfl, Nat.le_of_ble_eq_true rfl, ?_⟩
  apply qx_set
  apply x_bin
  apply x_pure (v_var rfl)
  apply x_tup
  apply xs_cons
  apply x_tup
  apply xs_cons
  apply x_pure v_cst
  apply xs_cons
  refine draw_table (l := [1, 1, 2]) (m := 3) c1 rfl rfl (fun σ => by repeat' trivial) (by decide) (by decide) (by decide) (by decide) (by decide) hu hu6 fun t2 τ2 c2 g2 => ?_
  apply xs_nil
  refine ⟨[.str "s", encT t2], rfl, Nat.le_of_ble_eq_true rfl, ?_⟩
  apply xs_nil
  refine ⟨[encP ("s", t2)], rfl, Nat.le_of_ble_eq_true rfl, _, _, .tuple [encP ("r", t1), encP ("s", t2)], rfl, rfl, rfl, ?_⟩
  apply qx_set
  apply x_tup
  apply xs_cons
  apply x_pure v_cst
  apply xs_cons
  refine draw_table (l := [0, 1, 2]) (m := 3) c2 rfl rfl (fun σ => by repeat' trivial) (by decide) (by decide) (by decide) (by decide) (by decide) hu hu6 fun t3 τ3 c3 g3 => ?_
  apply xs_nil
  refine ⟨[.str "t", encT t3], rfl, Nat.le_of_ble_eq_true rfl, ?_⟩
  apply qx_ret
  apply x_bin
  apply x_pure (v_var rfl)
  apply x_ite
  apply x_cmp
  apply x_call
  apply xs_cons
  apply x_pure (v_var rfl)
  apply xs_cons
  apply x_pure v_cst
  apply xs_nil
  refine law_roll (n := n + 3) c3 (by decide) (by decide) fun v τ4 c4 _ _ => ?_
  apply x_pure v_cst
  refine ⟨_, cmp_eq encI _ _, _, rfl, fun _ => ?_, fun _ => ?_⟩
  · apply x_pure
    · repeat' trivial
    refine ⟨_, _, .tuple [encP ("r", t1), encP ("s", t2), encP ("t", t3)], rfl, rfl, rfl, rfl, ?_⟩
    exact hq [("r", t1), ("s", t2), ("t", t3)] _ (fin_cup hc c4) (good_three hu6 g1 g2 g3)
  · apply x_pure
    · repeat' trivial
    refine ⟨_, _, .tuple [encP ("r", t1), encP ("s", t2)], rfl, rfl, rfl, rfl, ?_⟩
    exact hq [("r", t1), ("s", t2)] _ (fin_cup hc c4) (good_two hu6 g1 g2)
end L70

namespace L70
open PySem Pd Nt
variable {at_ : Nat → M W → M W} {n : Nat}
theorem law_news {r σ : S} (hc : Cup r σ) {u : Int} (hu : 2 ≤ u) (hu6 : u ≤ 6) {m : Nat} (hm : m ≤ 39) {s : Stor} (g : Good u m s) {Q : W → S → Prop} (hq : ∀ (x : Option News) τ, Cup r τ → (∀ y, x = some y → newsB s y = true ∧ NewsG u y ∧ y.sm) → Q (.d (encON x)) τ) : Cq (F at_ (n + 5) i__law_news [.mut 0, .d (encS s)]) σ Q := by
  have v := g.v
  have hsne : s ≠ [] := by rintro rfl; rcases g.three with h | h <;> cases h
  have h0 : ∀ σ, Ev ⟨F at_ (n + 4), at_⟩ (.call i__law_unknowns (.cons (.var 1) .nil)) [some (.mut 0), some (.d (encS s)), none, none, none, none, none, none, none] σ (.d (.list ((unkN s).map .int))) := fun σ => by repeat' trivial
  apply dfx (ps := 2) (k := 9) [some (.mut 0), some (.d (encS s)), none, none, none, none, none, none, none] rfl rfl (by decide) rfl (b := b__law_news)
  unfold b__law_news
  apply qx_par
  apply xs_cons
  apply x_pure (h0 _)
  apply xs_cons
  apply x_call
  apply xs_cons
  apply x_pure (v_var rfl)
  apply xs_cons
  apply x_pure v_cst
  apply xs_nil
  refine law_roll (n := n + 3) hc (by decide) (by decide) fun way τ1 c1 w0 w1 => ?_
  apply xs_nil
  refine ⟨_, rfl, ?_⟩
  have ul : (unkN s).length ≤ 1000 := by
    have h1 : (unkN s).length ≤ (ssort ltI (cellsN s)).length := List.length_filter_le _ _
    have h2 : (ssort ltI (cellsN s)).length ≤ (cellsN s).length := ssort_length _
    have h3 := v.cells
    omega
  apply q_ite
  · repeat' trivial
  · -- told
    intro hp
    rw [Bool.and_eq_true, Bool.not_eq_true', eqB_not] at hp
    apply qx_ret
    apply x_tup
    apply xs_cons
    apply x_pure v_cst
    apply xs_cons
    apply x_call
    apply xs_cons
    apply x_pure (v_var rfl)
    apply xs_cons
    apply x_pure (v_var rfl)
    apply xs_nil
    refine law_some (n := n + 2) (f := PyData.int) c1 (.inl rfl) hp.2 (by omega) fun a τ2 c2 ha => ?_
    apply xs_cons
    apply x_call
    apply xs_cons
    apply x_pure (v_var rfl)
    apply xs_cons
    apply x_pure (w := .d (.list (([1, 2, 3, 7, 4] : List Int).map .int)))
    · repeat' trivial
    apply xs_nil
    refine law_some (n := n + 2) (f := PyData.int) c2 (.inl rfl) (by decide) (by decide) fun b τ3 c3 hb => ?_
    apply xs_nil
    refine ⟨[.str "told", .int a, .int b], rfl, Nat.le_of_ble_eq_true rfl, rfl, hq (some (.told a b)) _ (fin_cup hc c3) fun y hy => ?_⟩
    cases hy
    have hb' : 0 ≤ b ∧ b ≤ 11 := by simp at hb; omega
    refine ⟨?_, hb'.2, trivial⟩
    unfold newsB
    simp only [Bool.and_eq_true, memB_iff, decide_eq_true_eq]
    exact ⟨ha, hb'.1, by omega⟩
  · intro _
    apply q_ite
    · repeat' trivial
    · -- same
      intro hp
      rw [Bool.and_eq_true, decide_eq_true_eq] at hp
      have l2 : 1 < (unkN s).length := by omega
      apply qx_set
      apply x_call
      apply xs_cons
      apply x_pure (v_var rfl)
      apply xs_cons
      apply x_pure
      · repeat' trivial
      apply xs_nil
      refine law_roll (n := n + 3) c1 (by omega) (by omega) fun at' τ2 c2 a0 a1 => ?_
      obtain ⟨k, rfl⟩ := Int.eq_ofNat_of_zero_le a0
      have hk : k < (unkN s).length := by omega
      have hv : (unkN s)[k]? = some (unkN s)[k] := List.getElem?_eq_getElem hk
      obtain ⟨j, b, hj, hjk, hix⟩ := ix_before (σ := τ2) hk l2
      apply q_ret (w := .d (encN (.same (unkN s)[k] b)))
      · repeat' (first | exact hix | exact ix_l hv | trivial)
      · refine ⟨rfl, hq (some (.same (unkN s)[k] b)) _ (fin_cup hc c2) fun y hy => ?_⟩
        cases hy
        refine ⟨?_, trivial, trivial⟩
        unfold newsB
        simp only [Bool.and_eq_true, memB_iff, Bool.not_eq_true', eqB_not]
        exact ⟨List.mem_of_getElem? hv, List.mem_of_getElem? hj, unk_ne hv hj (Ne.symm hjk)⟩
    · intro _
      apply qx_setT
      apply x_call
      apply xs_cons
      apply x_pure (v_var rfl)
      apply xs_cons
      apply x_pure (v_var rfl)
      apply xs_nil
      refine law_some (n := n + 2) (f := encP) c1 (.inr rfl) hsne (by have := v.len; omega) fun p τ2 c2 hp => ?_
      refine ⟨_, _, rfl, rfl, ?_⟩
      have hr40 := v.rows40 hp
      have hcol := v.col p hp
      have hcol3 := g.col3 p hp
      apply q_ite
      · repeat' trivial
      · -- goes
        intro hway
        rw [Bool.and_eq_true, Bool.not_eq_true', eqB_not] at hway
        apply qx_ret
        apply x_tup
        apply xs_cons
        apply x_pure v_cst
        apply xs_cons
        apply x_pure (v_var rfl)
        apply xs_cons
        apply x_call
        apply xs_cons
        apply x_pure (v_var rfl)
        apply xs_cons
        apply x_pure
        · repeat' trivial
        apply xs_nil
        refine law_some (n := n + 2) (f := encR) c2 (.inr rfl) hway.2 (by omega) fun q τ3 c3 hq' => ?_
        apply xs_nil
        refine ⟨[.str "goes", .str p.1, encR q], rfl, Nat.le_of_ble_eq_true rfl, rfl, hq (some (.goes p.1 q)) _ (fin_cup hc c3) fun y hy => ?_⟩
        cases hy
        exact ⟨goes_ok g hp hq', trivial, v.smR hp hq'⟩
      · -- comes
        intro _
        apply qx_set
        apply x_bi
        apply xs_cons
        apply x_lc (Cup r) (fun i : Int => -u ≤ i ∧ i ≤ 11) (enc' := PyData.int)
        apply xi_pure
        · apply ei_range1 (n := p.2.1)
          · repeat' trivial
          · have : (6 : Int) ≤ big := by decide
            constructor <;> omega
        refine ⟨c2, Sm.of (n := 6) (by rw [List.length_range]; omega), ?_, ?_⟩
        · intro x _ τ ht
          apply ex_bind rfl
          apply x_call
          apply xs_cons
          apply x_pure (v_var rfl)
          apply xs_cons
          apply x_pure v_cst
          apply xs_nil
          refine law_cell (n := n + 1) ht (by decide) (by decide) fun v τ ht h1 h2 => ?_
          exact ⟨ht, v, rfl, by omega, by omega⟩
        · intro ys τ3 c3 hl hr
          rw [List.length_range] at hl
          apply xs_nil
          refine ⟨_, bt_tuple_l _, ?_⟩
          apply qx_ret
          apply x_pure
          · repeat' trivial
          · cases hmem : memB ys p.2.2 with
            | true => exact ⟨rfl, hq none _ (fin_cup hc c3) fun y hy => nomatch hy⟩
            | false =>
              refine ⟨rfl, hq (some (.comes p.1 ys)) _ (fin_cup hc c3) fun y hy => ?_⟩
              cases hy
              exact ⟨comes_fit g hm hu6 hp (by omega) hr hmem, hr, Sm.of (n := 6) (by omega)⟩
end L70

namespace L70
open PySem Pd Nt
variable {at_ : Nat → M W → M W} {n : Nat}
theorem law_cup (ns : List Int) (hn : ns.length ≤ 63) {Q : W → S → Prop} (hq : ∀ τ, Cup [] τ → Q (.mut 0) τ) : Cq (F at_ (n + 1) i__law_cup [.scr ns]) [] Q := by
  obtain ⟨c, hc⟩ : ∃ c, (ns ++ [0])[0]? = some c := by cases ns <;> exact ⟨_, rfl⟩
  have hb : ns.length + 1 ≤ big := Nat.le_trans (m := 100) (by omega) (by decide)
  have hx : ∀ c : Int, 0 ≤ (if c < 0 then -c else c) := fun c => by split <;> omega
  apply dfc (ps := 1) (k := 2) [some (.scr ns), none] rfl rfl (by decide) rfl (b := b__law_cup)
  unfold b__law_cup
  apply q_set
  · repeat' (first | exact bt_list_scr _ | exact ix_l (i := 0) hc | trivial)
  have ha := hx c
  generalize (if c < 0 then -c else c) = a at ha
  have g1 := Int.fmod_nonneg_of_pos (a * 251 + 2111) (b := 2077503307) (by decide)
  have g2 := Int.fmod_lt_of_pos (a * 251 + 2111) (b := 2077503307) (by decide)
  apply qx_ret
  apply x_mlst (xs := [.int (if decide ((10 : Int) ^ 18 ≤ a) then a.fdiv 43 else 0), .int ((a * 251 + 2111).fmod 2077503307 + 137)])
  · apply vd_cons
    · apply v_ite_i
      · repeat' (first | exact bin_pow_i (by decide) | trivial)
      · repeat' trivial
      · repeat' trivial
    · apply vd_cons
      · repeat' trivial
        right; unfold p64; omega
      · exact vd_nil
  · exact Nat.le_of_ble_eq_true rfl
  · refine ⟨_, rfl, hq _ ⟨_, _, ?_, ?_, ?_, rfl⟩⟩
    · split
      · exact Int.fdiv_nonneg ha (by decide)
      · exact Int.le_refl 0
    · omega
    · omega
theorem law_book {r σ : S} (hc : Cup r σ) {u : Int} (hu : 2 ≤ u) (hu6 : u ≤ 6) {m : Int} (m0 : 0 ≤ m) (m20 : m ≤ 20) {Q : W → S → Prop} (hq : ∀ s xs t τ, Cup r τ → Good u 10 s → foldO stepN s xs = some t → xs.length ≤ m.toNat → (∀ x ∈ xs, x.sm ∧ NewsG u x) → Q (.d (.tuple [encS s, .tuple (xs.map encN)])) τ) :
    Cq (F at_ (n + 6) i__law_book [.mut 0, .d (.int u), .d (.int m)]) σ Q := by
  apply dfx (ps := 3) (k := 8) [some (.mut 0), some (.d (.int u)), some (.d (.int m)), none, none, none, none, none] rfl rfl (by decide) rfl (b := b__law_book)
  unfold b__law_book
  apply qx_par
  apply xs_cons
  apply x_call
  apply xs_cons
  apply x_pure (v_var rfl)
  apply xs_cons
  apply x_pure (v_var rfl)
  apply xs_nil
  refine law_store hc (by omega) hu6 fun s τ1 c1 g1 => ?_
  apply xs_cons
  apply x_pure
  · repeat' trivial
  apply xs_nil
  refine ⟨_, rfl, ?_⟩
  apply q_set (v_var rfl)
  apply qx_for (fun pre ρ τ => Cup r τ ∧ ∃ xs t j4 j7, (foldO stepN s xs = some t ∧ Good u (10 + xs.length) t ∧ xs.length ≤ pre.length ∧ pre.length ≤ m.toNat ∧ ∀ x ∈ xs, x.sm ∧ NewsG u x) ∧ ρ = [some (.mut 0), some (.d (.int u)), some (.d (.int m)), some (.d (encS t)), j4, some (.d (encS s)), some (.d (.tuple (xs.map encN))), j7])
  apply xi_range1
  apply x_call
  apply xs_cons
  apply x_pure (v_var rfl)
  apply xs_cons
  apply x_pure
  · repeat' trivial
  apply xs_nil
  refine law_roll (n := n + 4) c1 (by omega) (by omega) fun w τ2 c2 w0 w1 => ?_
  have big6 : (100 : Int) ≤ big := by decide
  refine ⟨w, rfl, by constructor <;> omega, ?_, ?_, ?_⟩
  · exact ⟨c2, [], s, _, _, ⟨rfl, g1, Nat.le_refl _, Nat.zero_le _, fun _ h => nomatch h⟩, rfl⟩
  · rintro pre x post e _ τ ⟨cτ, xs, t, j4, j7, ⟨hf, gt, hl, hm, hs⟩, rfl⟩
    have hpl := pre_len e
    rw [List.length_range] at hpl
    apply ex_bind rfl
    apply qx_set
    apply x_call
    apply xs_cons
    apply x_pure (v_var rfl)
    apply xs_cons
    apply x_pure (v_var rfl)
    apply xs_nil
    refine law_news (n := n) cτ hu hu6 (m := 10 + xs.length) (by omega) gt fun y τ' c' hy => ?_
    apply q_ite
    · repeat' (first | exact ne_news _ | trivial)
    · intro hsome
      obtain ⟨y, rfl⟩ := Option.isSome_iff_exists.mp hsome
      obtain ⟨h1, h2, h3⟩ := hy y rfl
      have vt := gt.v
      have hb : (xs.map encN).length + 1 ≤ big := by rw [List.length_map]; exact Nat.le_trans (m := 50) (by omega) (by decide)
      apply q_par (ws := [.d (.tuple ((xs ++ [y]).map encN)), .d (encS (behN t y))])
      · apply vs_cons
        · rw [List.map_append]
          repeat' trivial
        · apply vs_cons
          · repeat' trivial
          · exact vs_nil
      · rfl
      · apply q_nil
        refine ⟨_, rfl, c', xs ++ [y], behN t y, _, _, ⟨?_, ?_, ?_, ?_, ?_⟩, rfl⟩
        · rw [foldO_app, hf]
          show foldO stepN t [y] = _
          unfold foldO stepN
          rw [h1]; rfl
        · have := good_beh (by omega) gt h1 h2
          rw [List.length_append, List.length_singleton]
          exact this
        · rw [List.length_append, List.length_append]; exact Nat.succ_le_succ hl
        · rw [List.length_append, List.length_singleton]; omega
        · intro z hz
          rcases List.mem_append.mp hz with z' | z'
          · exact hs z z'
          · rw [List.mem_singleton.mp z']; exact ⟨h3, h2⟩
    · intro _
      apply q_nil
      refine ⟨_, rfl, c', xs, t, _, _, ⟨hf, gt, ?_, ?_, hs⟩, rfl⟩
      · rw [List.length_append]; omega
      · rw [List.length_append, List.length_singleton]; omega
  · rintro _ τ ⟨cτ, xs, t, j4, j7, ⟨hf, gt, hl, hm, hs⟩, rfl⟩
    apply q_ret (w := .d (.tuple [encS s, .tuple (xs.map encN)]))
    · repeat' trivial
    · exact ⟨rfl, hq s xs t _ (fin_cup hc cτ) g1 hf (by omega) hs⟩
end L70

namespace L70
open PySem Pd Nt
variable {at_ : Nat → M W → M W} {n : Nat}
theorem swapped_at {s : Stor} {xs : List News} {k : Nat} {a b : News} (hl : xs.length ≤ 20) (h1 : xs[k]? = some a) (h2 : xs[k + 1]? = some b) : F at_ (n + 1) i_swapped_at [.d (.tuple [encS s, .tuple (xs.map encN)]), .d (.int k)] = pure (.d (.tuple [encS s, .tuple ((swapL xs k).map encN)])) := by
  have big6 : (100 : Nat) ≤ big := by decide
  have lk := (List.getElem?_eq_some_iff.mp h2).1
  apply df (ps := 2) (k := 4) [some (.d (.tuple [encS s, .tuple (xs.map encN)])), some (.d (.int k)), none, none] rfl rfl (by decide) rfl (b := b_swapped_at)
  · intro σ; unfold b_swapped_at
    repeat' (first | exact sl_take _ _ _ | exact sl_drop _ _ (k + 2) (by omega) | exact ix_t h1 | exact ix_t' (k := k + 1) (by omega) h2 | trivial)
    all_goals (simp; omega)
  · rw [swapL_eq h1 h2]
    show W.d (.tuple [_, .tuple _]) = _
    simp
  · rfl
end L70
local macro_rules | `(tactic| decreasing_trivial) => `(tactic| first | apply L70.swapped_at)
namespace L70
open PySem Pd Nt
variable {at_ : Nat → M W → M W} {n : Nat}
theorem last_stores {σ : S} {s t : Stor} {xs : List News} (h : foldO stepN s xs = some t) : Ix σ (.d (.list ((storesN s xs).map encS))) (.d (.int (-1))) (encS t) := ix_l_last (foldO_last h)
theorem ends_as {s t : Stor} {xs ys : List News} (v : Valid s) (hl : xs.length ≤ 20) (hly : ys.length ≤ 20) (hs : ∀ x ∈ xs, x.sm) (hsy : ∀ x ∈ ys, x.sm) (hb : foldO stepN s xs = some t) :
    F at_ (n + 6) i_ends_as [.d (.tuple [encS s, .tuple (xs.map encN)]), .d (.tuple [encS s, .tuple (ys.map encN)])] = pure (.d (.bool (match foldO stepN s ys with | some t' => eqB t' t | none => false))) := by
  have hb' : (foldO stepN s xs).isSome = true := by rw [hb]; rfl
  cases hy : foldO stepN s ys with
  | none =>
    apply df (ps := 2) (k := 2) [some (.d (.tuple [encS s, .tuple (xs.map encN)])), some (.d (.tuple [encS s, .tuple (ys.map encN)]))] rfl rfl (by decide) rfl (b := b_ends_as)
    · intro σ; unfold b_ends_as
      apply c_ret
      apply v_and_F
      · repeat' trivial
      · rw [hy]; rfl
    · rfl
    · rfl
  | some t' =>
    apply df (ps := 2) (k := 2) [some (.d (.tuple [encS s, .tuple (xs.map encN)])), some (.d (.tuple [encS s, .tuple (ys.map encN)]))] rfl rfl (by decide) rfl (b := b_ends_as)
    · intro σ; unfold b_ends_as
      repeat' (first | exact last_stores hy | exact last_stores hb | exact cmp_eq eS _ _ | trivial)
    · rw [hy]; rfl
    · rfl
end L70
local macro_rules | `(tactic| decreasing_trivial) => `(tactic| first | apply L70.ends_as)
namespace L70
open PySem Pd Nt
variable {at_ : Nat → M W → M W} {n : Nat}
theorem swapped_news {s t : Stor} {xs : List News} (v : Valid s) (hl : xs.length ≤ 20) (hs : ∀ x ∈ xs, x.sm) (hb : foldO stepN s xs = some t) : F at_ (n + 7) i_swapped_news [.d (.tuple [encS s, .tuple (xs.map encN)])] = pure (.d (.list ((swapsN s xs).map .int))) := by
  have hb' : (foldO stepN s xs).isSome = true := by rw [hb]; rfl
  have big6 : (100 : Int) ≤ big := by decide
  have sr : Sm (List.range (((xs.length : Int) - 1).toNat)) := Sm.of (n := 20) (by rw [List.length_range]; omega)
  have e : ((xs.length : Int) - 1).toNat = xs.length - 1 := by omega
  have at1 : ∀ k ∈ List.range (((xs.length : Int) - 1).toNat), ∃ a b, xs[k]? = some a ∧ xs[k + 1]? = some b := fun k hk => by
    have := List.mem_range.mp hk
    exact ⟨_, _, List.getElem?_eq_getElem (by omega), List.getElem?_eq_getElem (by omega)⟩
  have one : ∀ k ∈ List.range (((xs.length : Int) - 1).toNat), F at_ (n + 6) i_swapped_at [.d (.tuple [encS s, .tuple (xs.map encN)]), .d (.int k)] = pure (.d (.tuple [encS s, .tuple ((swapL xs k).map encN)])) := fun k hk => by
    obtain ⟨a, b, h1, h2⟩ := at1 k hk
    exact swapped_at hl h1 h2
  have two : ∀ k, F at_ (n + 6) i_ends_as [.d (.tuple [encS s, .tuple (xs.map encN)]), .d (.tuple [encS s, .tuple ((swapL xs k).map encN)])] = pure (.d (.bool (swapB s xs k))) := fun k => by
    rw [ends_as v hl (by rw [swapL_len]; exact hl) hs (fun x hx => hs x (mem_swapL hx)) hb]
    unfold swapB
    rw [hb]
    cases foldO stepN s (swapL xs k) <;> rfl
  apply df (ps := 1) (k := 2) [some (.d (.tuple [encS s, .tuple (xs.map encN)])), none] rfl rfl (by decide) rfl (b := b_swapped_news)
  · intro σ; unfold b_swapped_news
    repeat' (first | exact one _ (by assumption) | exact two _ | trivial)
  · unfold swapsN
    show W.d (.list _) = _
    rw [e]
  · rfl
end L70
local macro_rules | `(tactic| decreasing_trivial) => `(tactic| first | apply L70.swapped_news)
namespace L70
open PySem Pd Nt
variable {at_ : Nat → M W → M W} {n : Nat}
end L70

namespace L70
open PySem Pd Nt
variable {at_ : Nat → M W → M W} {n : Nat}
theorem v_get_S {ft : Ft} {ρ : Rho} {σ : S} {a b c : E} {s : Stor} {l : Str} (v : Valid s) (ho : Ev ft a ρ σ (.dct (s.map fun p => (.str p.1, encT p.2)))) (hk : Ev ft b ρ σ (.d (.str l))) (hx : Ev ft c ρ σ (.d (.tuple [.int 0, .tuple []]))) : Ev ft (.getd a b c) ρ σ (.d (encT (tabOf s l))) := by
  refine (v_getd ho hk hx).eq ?_
  rw [valAt_map (f := .str) (g := encT) encStr]
  unfold tabOf
  cases lookN s l <;> rfl
theorem law_can_be {s : Stor} {xs : List News} (v : Valid s) (hr : rowsN s + xs.length ≤ 39) (hl : xs.length ≤ 20) (hs : ∀ x ∈ xs, x.sm) (hk : ∀ x ∈ xs, SOK s x) : F at_ (n + 3) i__law_can_be [.d (.tuple [encS s, .tuple (xs.map encN)])] = pure (.d (.bool (foldO stepN s xs).isSome)) := by
  have h1 : Sm xs := Sm.of hl
  apply df (ps := 1) (k := 7) [some (.d (.tuple [encS s, .tuple (xs.map encN)])), none, none, none, none, none, none] rfl rfl (by decide) rfl (b := b__law_can_be)
  · intro σ; unfold b__law_can_be
    apply c_set
    · repeat' trivial
    apply c_forSP (P := fun y ρ => Valid y ∧ ∃ j2 j3 j4 j5 j6, ρ = [some (.d (.tuple [encS s, .tuple (xs.map encN)])), some (.d (encS y)), j2, j3, j4, j5, j6]) (step := stepN) (y0 := s) (w := .d (.bool false))
    · repeat' trivial
    · exact ⟨v, _, _, _, _, _, rfl⟩
    · rintro pre x post e y _ hf ⟨vy, j2, j3, j4, j5, j6, rfl⟩
      have hx := hs x (pre_mem e)
      have hpl := pre_len e
      have hry : rowsN y < 40 := by have := rows_fold v hf; omega
      have hky : SOK y x := sok_heads (heads_fold hf).symm (hk x (pre_mem e))
      have hc := can_eq vy hry hky
      cases x with
      | told u w =>
        cases hb : newsB y (.told u w) with
        | true =>
          rw [hb] at hc
          have hc : memB u (unkN y) = true := hc
          apply ex_forS rfl
          · apply c_set
            · repeat' trivial
            apply c_ite_F
            · repeat' trivial
            · rw [hc]; rfl
            apply c_set
            · repeat' trivial
            apply c_ite_F
            · repeat' trivial
            · rfl
            apply c_set
            · exact v_call (vs_cons (v_var rfl) (vs_cons (v_tup (vd_cons (v_var rfl) (vd_cons (v_var rfl) (vd_cons (v_var rfl) vd_nil))) (Nat.le_of_ble_eq_true rfl)) vs_nil)) (law_behind vy hb hx)
            exact c_nil
          · intro y' hy
            unfold stepN at hy
            rw [hb] at hy
            cases hy
            exact ⟨_, rfl, valid_beh vy hb, _, _, _, _, _, rfl⟩
          · intro hy
            unfold stepN at hy
            rw [hb] at hy
            cases hy
        | false =>
          rw [hb] at hc
          have hc : memB u (unkN y) = false := hc
          apply ex_forS rfl
          · apply c_set
            · repeat' trivial
            apply c_ite_T
            · repeat' trivial
            · rw [hc]; rfl
            repeat' trivial
          · intro y' hy
            unfold stepN at hy
            rw [hb] at hy
            cases hy
          · intro _
            rfl
      | same u w =>
        cases hb : newsB y (.same u w) with
        | true =>
          rw [hb] at hc
          have hc : (memB u (unkN y) && memB w (unkN y)) = true := hc
          apply ex_forS rfl
          · apply c_set
            · repeat' trivial
            apply c_ite_F
            · repeat' trivial
            · revert hc; cases memB u (unkN y) <;> cases memB w (unkN y) <;> intro hc <;> first | rfl | cases hc
            apply c_set
            · repeat' trivial
            apply c_ite_F
            · repeat' trivial
            · rfl
            apply c_set
            · exact v_call (vs_cons (v_var rfl) (vs_cons (v_tup (vd_cons (v_var rfl) (vd_cons (v_var rfl) (vd_cons (v_var rfl) vd_nil))) (Nat.le_of_ble_eq_true rfl)) vs_nil)) (law_behind vy hb hx)
            exact c_nil
          · intro y' hy
            unfold stepN at hy
            rw [hb] at hy
            cases hy
            exact ⟨_, rfl, valid_beh vy hb, _, _, _, _, _, rfl⟩
          · intro hy
            unfold stepN at hy
            rw [hb] at hy
            cases hy
        | false =>
          rw [hb] at hc
          have hc : (memB u (unkN y) && memB w (unkN y)) = false := hc
          apply ex_forS rfl
          · apply c_set
            · repeat' trivial
            apply c_ite_T
            · repeat' trivial
            · revert hc; cases memB u (unkN y) <;> cases memB w (unkN y) <;> intro hc <;> first | rfl | cases hc
            repeat' trivial
          · intro y' hy
            unfold stepN at hy
            rw [hb] at hy
            cases hy
          · intro _
            rfl
      | comes l r =>
        cases hb : newsB y (.comes l r) with
        | true =>
          rw [hb] at hc
          have hc : (!memB r (tabOf y l).2) = true := hc
          have hc : memB r (tabOf y l).2 = false := nbt hc
          apply ex_forS rfl
          · apply c_set
            · repeat' trivial
            apply c_ite_F
            · repeat' trivial
            · rfl
            apply c_set
            · repeat' (first | apply v_get_S vy | exact bt_dictS vy | trivial)
            apply c_ite_F
            · repeat' trivial
            · rw [hc]; rfl
            apply c_set
            · exact v_call (vs_cons (v_var rfl) (vs_cons (v_tup (vd_cons (v_var rfl) (vd_cons (v_var rfl) (vd_cons (v_var rfl) vd_nil))) (Nat.le_of_ble_eq_true rfl)) vs_nil)) (law_behind vy hb hx)
            exact c_nil
          · intro y' hy
            unfold stepN at hy
            rw [hb] at hy
            cases hy
            exact ⟨_, rfl, valid_beh vy hb, _, _, _, _, _, rfl⟩
          · intro hy
            unfold stepN at hy
            rw [hb] at hy
            cases hy
        | false =>
          rw [hb] at hc
          have hc : (!memB r (tabOf y l).2) = false := hc
          have hc : memB r (tabOf y l).2 = true := nbf hc
          apply ex_forS rfl
          · apply c_set
            · repeat' trivial
            apply c_ite_F
            · repeat' trivial
            · rfl
            apply c_set
            · repeat' (first | apply v_get_S vy | exact bt_dictS vy | trivial)
            apply c_ite_T
            · repeat' trivial
            · rw [hc]; rfl
            repeat' trivial
          · intro y' hy
            unfold stepN at hy
            rw [hb] at hy
            cases hy
          · intro _
            rfl
      | goes l r =>
        cases hb : newsB y (.goes l r) with
        | true =>
          rw [hb] at hc
          have hc : memB r (tabOf y l).2 = true := hc
          apply ex_forS rfl
          · apply c_set
            · repeat' trivial
            apply c_ite_F
            · repeat' trivial
            · rfl
            apply c_set
            · repeat' (first | apply v_get_S vy | exact bt_dictS vy | trivial)
            apply c_ite_F
            · repeat' trivial
            · rw [hc]; rfl
            apply c_set
            · exact v_call (vs_cons (v_var rfl) (vs_cons (v_tup (vd_cons (v_var rfl) (vd_cons (v_var rfl) (vd_cons (v_var rfl) vd_nil))) (Nat.le_of_ble_eq_true rfl)) vs_nil)) (law_behind vy hb hx)
            exact c_nil
          · intro y' hy
            unfold stepN at hy
            rw [hb] at hy
            cases hy
            exact ⟨_, rfl, valid_beh vy hb, _, _, _, _, _, rfl⟩
          · intro hy
            unfold stepN at hy
            rw [hb] at hy
            cases hy
        | false =>
          rw [hb] at hc
          have hc : memB r (tabOf y l).2 = false := hc
          apply ex_forS rfl
          · apply c_set
            · repeat' trivial
            apply c_ite_F
            · repeat' trivial
            · rfl
            apply c_set
            · repeat' (first | apply v_get_S vy | exact bt_dictS vy | trivial)
            apply c_ite_T
            · repeat' trivial
            · rw [hc]; rfl
            repeat' trivial
          · intro y' hy
            unfold stepN at hy
            rw [hb] at hy
            cases hy
          · intro _
            rfl
    · rintro y _ _ ⟨vy, j2, j3, j4, j5, j6, rfl⟩
      repeat' trivial
  · cases (foldO stepN s xs).isSome <;> rfl
  · rfl
end L70
local macro_rules | `(tactic| decreasing_trivial) => `(tactic| first | apply L70.law_can_be)
namespace L70
open PySem Pd Nt
variable {at_ : Nat → M W → M W} {n : Nat}
end L70

namespace L70
open PySem Pd Nt
variable {at_ : Nat → M W → M W} {n : Nat}
theorem law_swapped {s t : Stor} {xs : List News} (v : Valid s) (hr : rowsN s + xs.length ≤ 39) (hl : xs.length ≤ 20) (hs : ∀ x ∈ xs, x.sm) (hb : foldO stepN s xs = some t) : F at_ (n + 4) i__law_swapped [.d (.tuple [encS s, .tuple (xs.map encN)])] = pure (.d (.list ((swapsN s xs).map .int))) := by
  have hb' : (foldO stepN s xs).isSome = true := by rw [hb]; rfl
  have hsok := sok_fold v hb
  have e1 : ((xs.length : Int) - 1).toNat = xs.length - 1 := by omega
  have h20 : xs.length ≤ big := Nat.le_trans hl (by decide)
  have big6 : (100 : Int) ≤ big := by decide
  apply dfq (ps := 1) (k := 5) [some (.d (.tuple [encS s, .tuple (xs.map encN)])), none, none, none, none] rfl rfl (by decide) rfl (b := b__law_swapped)
  intro σ; unfold b__law_swapped
  apply qx_par
  apply xs_cons
  apply x_mlst (xs := [])
  · exact vd_nil
  · exact Nat.le_of_ble_eq_true rfl
  apply xs_cons
  apply x_pure (w := .d (encS t))
  · repeat' (first | exact last_stores hb | trivial)
  apply xs_nil
  refine ⟨_, rfl, ?_⟩
  apply q_forM (fun pre ρ τ => ∃ y ν j1 j4, y = ((pre.filter (swapB s xs)).map fun k : Nat => PyData.int k) ∧ τ = σ ++ (false, y) :: ν ∧ ρ = [some (.d (.tuple [encS s, .tuple (xs.map encN)])), j1, some (.mut σ.length), some (.d (encS t)), j4])
  · apply ei_range1 (n := (xs.length : Int) - 1)
    · repeat' trivial
    · constructor <;> omega
  · exact ⟨_, [], _, _, rfl, rfl, rfl⟩
  · rintro pre k post e _ _ ⟨_, ν, j1, j4, rfl, rfl, rfl⟩
    have hk : k < xs.length - 1 := by
      have := List.mem_range.mp (pre_mem e)
      omega
    have hpl := pre_len e
    rw [List.length_range] at hpl
    obtain ⟨a, ha⟩ : ∃ a, xs[k]? = some a := ⟨_, List.getElem?_eq_getElem (by omega)⟩
    obtain ⟨b, hb2⟩ : ∃ b, xs[k + 1]? = some b := ⟨_, List.getElem?_eq_getElem (by omega)⟩
    have ha0 : atD (xs.map encN) (k : Int) = some (encN a) := atD_map encN xs k a ha
    have ha1 : atD (xs.map encN) ((k : Int) + 1) = some (encN b) := atD_map encN xs (k + 1) b hb2
    have hset : ((xs.map encN).set k (encN b)).set (k + 1) (encN a) = (swapL xs k).map encN := by rw [← swapL_set ha hb2, List.map_set, List.map_set]
    have hlf := List.length_filter_le (swapB s xs) pre
    have can : F at_ (n + 3) i__law_can_be [.d (.tuple [encS s, .tuple ((swapL xs k).map encN)])] = _ := law_can_be v (by rw [swapL_len]; exact hr) (by rw [swapL_len]; exact hl) (fun x hx => hs x (mem_swapL hx)) (fun x hx => hsok x (mem_swapL hx))
    apply ex_bind rfl
    apply q_mlist (x := .tuple (xs.map encN)) (xs := xs.map encN)
    · repeat' trivial
    · exact .inl rfl
    · rw [List.length_map]; exact h20
    apply q_put2 (k1 := k) (k2 := k + 1) (a := encN b) (b := encN a) (i1 := k) (j1 := (k : Int) + 1) rfl
    · repeat' (first | exact ix_mut ha0 | exact ix_mut ha1 | trivial)
    · exact v_var rfl
    · exact place_nat (by rw [List.length_map]; omega)
    · repeat' trivial
    · exact place_nat (k := k + 1) (by rw [List.length_set, List.length_map]; omega)
    rw [hset]
    cases hy : foldO stepN s (swapL xs k) with
    | none =>
      have hB : swapB s xs k = false := by unfold swapB; rw [hy]
      rw [hy] at can
      apply q_ite_F
      · apply v_and_F
        · repeat' (first | exact can | exact bt_tuple_mut | trivial)
        · rfl
      · rfl
      · apply q_nil
        refine ⟨_, rfl, ((pre ++ [k]).filter (swapB s xs)).map (fun k : Nat => PyData.int k), ν ++ (false, (swapL xs k).map encN) :: [], _, _, rfl, ?_, rfl⟩
        simp [hB]
    | some t' =>
      have hB : swapB s xs k = eqB t' t := by unfold swapB; rw [hy, hb]
      have sto : F at_ (n + 3) i__law_stores [.d (.tuple [encS s, .tuple ((swapL xs k).map encN)])] = _ := law_stores v (by rw [swapL_len]; exact hl) (fun x hx => hs x (mem_swapL hx)) (by rw [hy]; rfl)
      rw [hy] at can
      apply q_ite
      · repeat' (first | exact can | exact sto | exact bt_tuple_mut | exact last_stores hy | exact cmp_eq eS _ _ | trivial)
      · intro hp
        have hB' : swapB s xs k = true := by rw [hB]; exact hp
        show EvQ _ (.cons (.app 2 (.var 1)) .nil) _ _ _
        rw [List.append_assoc, List.cons_append]
        apply q_app rfl (v_var rfl)
        · rw [List.length_map]; exact Nat.lt_of_lt_of_le (m := 30) (by omega) (by decide)
        · apply q_nil
          refine ⟨_, rfl, ((pre ++ [k]).filter (swapB s xs)).map (fun k : Nat => PyData.int k), ν ++ (false, (swapL xs k).map encN) :: [], _, _, rfl, ?_, rfl⟩
          simp [hB']
      · intro hp
        have hB' : swapB s xs k = false := by rw [hB]; exact hp
        apply q_nil
        refine ⟨_, rfl, ((pre ++ [k]).filter (swapB s xs)).map (fun k : Nat => PyData.int k), ν ++ (false, (swapL xs k).map encN) :: [], _, _, rfl, ?_, rfl⟩
        simp [hB']
  · rintro _ _ ⟨_, ν, j1, j4, rfl, rfl, rfl⟩
    apply q_ret (v_var rfl)
    refine .inr ⟨_, _, _, rfl, ?_, rfl⟩
    unfold swapsN
    rw [e1, List.map_map]; rfl
end L70
local macro_rules | `(tactic| decreasing_trivial) => `(tactic| first | apply L70.law_swapped)
namespace L70
open PySem Pd Nt
variable {at_ : Nat → M W → M W} {n : Nat}
end L70

namespace L70
open PySem Pd Nt
variable {at_ : Nat → M W → M W} {n : Nat}
def isT (r : Pd.R Ct) : Bool := match r with
  | .ok (.rt (.d (.bool true))) _ => true
  | _ => false
theorem isT_q {ft : Ft} {ss : Sts} {ρ : Rho} {σ : S} {Q : W → S → Prop} {k : Nat} (h : isT (evSs ft ss ρ σ) = true) (hq : ∀ τ, Q (.d (.bool true)) τ) : EvQ ft ss ρ σ fun c τ => (ctW c).fixed = true ∧ Q (ctW c) (τ.take k) := by
  unfold isT at h
  split at h
  · rename_i τ e
    refine ⟨.rt (.d (.bool true)), τ, ?_, rfl, hq _⟩
    unfold EvC; exact e
  · cases h
theorem law_all (ns : List Int) (hn : ns.length ≤ 63) : ∃ S', F at0 20 i_law [.scr ns] [] = .ok (.d (.bool true)) S' := by
  have key : Cq (F at0 20 i_law [.scr ns]) [] fun w _ => w = .d (.bool true) := by
    apply dfx (ps := 1) (k := 9) [some (.scr ns), none, none, none, none, none, none, none, none] rfl rfl (by decide) rfl (b := b_law)
    unfold b_law
    apply qx_set
    apply x_call
    apply xs_cons
    apply x_pure (v_var rfl)
    apply xs_nil
    refine law_cup ns hn fun τ1 c1 => ?_
    apply qx_for (fun pre ρ τ => Cup [] τ ∧ ∃ j1 j2, ρ = [some (.scr ns), some (.mut 0), j1, none, none, none, j2, none, none])
    apply xi_pure
    · repeat' trivial
    refine ⟨⟨c1, _, _, rfl⟩, ?_, ?_⟩
    · rintro pre x post e _ τ ⟨cτ, j1, j2, rfl⟩
      apply ex_bind rfl
      apply qx_set
      apply x_call
      apply xs_cons
      apply x_pure (v_var rfl)
      apply xs_cons
      apply x_pure v_cst
      apply xs_cons
      apply x_pure v_cst
      apply xs_nil
      refine law_book cτ (u := 3) (m := 6) (by decide) (by decide) (by decide) (by decide) fun s xs t τ2 c2 g hf hl hs => ?_
      have hl6 : xs.length ≤ 6 := hl
      have hl20 : xs.length ≤ 20 := by omega
      have hsm : ∀ x ∈ xs, x.sm := fun x hx => (hs x hx).1
      have v := g.v
      have hr := g.rows
      have pr := swapped_news (at_ := at0) (n := 12) v hl20 hsm hf
      have lw := law_swapped (at_ := at0) (n := 15) v (by omega) hl20 hsm hf
      have sml : Sm (swapsN s xs) := Sm.of (n := 20) (by
        unfold swapsN
        rw [List.length_map]
        have := List.length_filter_le (swapB s xs) (List.range (xs.length - 1))
        rw [List.length_range] at this
        omega)
      have lk := like_lk (at_ := at0) (k := 1) (n := 16) (x := .list ((swapsN s xs).map .int)) (lk_lst sml fun i _ => lk_int i _)
      apply q_ite_F (p := false)
      · apply Ev.eq
        · repeat' (first | exact lk | exact pr | exact lw | trivial)
        · rfl
      · rfl
      · apply q_nil
        exact ⟨_, rfl, c2, _, _, rfl⟩
    · rintro _ τ ⟨⟨a, b, ha, hb, hb2, rfl⟩, j1, j2, rfl⟩
      refine isT_q (k := 0) (Q := fun w _ => w = .d (.bool true)) ?_ (fun _ => rfl)
      kernel_rfl
  obtain ⟨w, τ, h1, rfl⟩ := key.get
  exact ⟨τ, h1⟩
end L70

open PySem PySem.W
theorem PySem.Challenge.cw_nearlysure_k70_whole_news_that_can_be_ex_holds : PySem.Challenge.rw_nearlysure_k70_whole_news_that_can_be_ex.Holds :=
  L70.holds_of fun ns h _ => by have := L70.law_all ns h; unfold L70.F at this; exact this
