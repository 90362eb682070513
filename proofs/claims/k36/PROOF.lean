import PyProof.Rows.All
import Wide.All
import OpenK.AllK
import Wide.FinOn
import HandS.ForMost
import HandS.Flow
import HandS.Wide
import HandS.WideBits
import HandS.TupAny
import HandS.TupMul
import HandS.Deep
import HandS.Zip
import HandS.NoneIn
import HandS.Style
import HandS.ExcCtx
import HandS.WordsExc
import HandS.IsInst
import HandS.RaiseMore
import HandS.CallSlots
import KE.GoesMore
import HandS.Codes
import HandS.TupLe
import HandS.Defaults
import HandS.More
import HandS.DictTup
import HandS.Conv
import HandS.Star
import KE.KDictDisplayH
import HandS.SortOrd
import HandS.SortRule
import HandS.SortInts
import KE.KDictCopyH
import KE.KDictPairs
import HandS.Ends
import HandS.Head0
import HandS.Head1
import HandS.Head2
import HandS.HeadEnd
import HandS.HeadHook1
import HandS.HeadHook2
import HandS.HeadHook3
import HandS.HeadHook4
import HandS.HeadWalk
import PySem.Challenge.RW_softchances_k36_whole_masses_weakened
set_option Elab.async false
set_option linter.all false
set_option maxRecDepth 100000
/-! Mn: a small deterministic reading of the Python subset: values, heaps, syntax, evaluation. -/
namespace Mn
open PySem L2

/-- values: structural (tuples, frozen lists, frozen instances, exceptions) or a cell of the small heap -/
inductive D where
  | non | bl (b : Bool) | int (i : Int) | str (x : Str)
  | tup (xs : List D) | lst (xs : List D) | scr (ns : List Int)
  | obj (c : Nat) (fs : List D) | exc (c : Nat) (fs : List D)
  | cd (kvs : List (Int × Int))
  | ref (i : Nat)
instance : Inhabited D := ⟨.non⟩
inductive Cell where
  | lst (xs : List D)
  | ins (c : Nat) (fs : List D)
  | dct (lk : Bool) (kvs : List (List L2.Key × D))
abbrev MH := List Cell
inductive R (α : Type) where
  | ok (a : α) (h : MH)
  | exn (e : D) (h : MH)
  | bad
abbrev M (α : Type) := MH → R α
def R.bnd {α β : Type} (r : R α) (k : α → MH → R β) : R β := match r with
  | .ok a h => k a h
  | .exn e h => .exn e h
  | .bad => .bad
def bnd {α β : Type} (m : M α) (k : α → M β) : M β := fun h => (m h).bnd k
def ret {α : Type} (a : α) : M α := fun h => .ok a h
def bad {α : Type} : M α := fun _ => .bad
def ofO {α : Type} (o : Option α) : M α := fun h => match o with
  | some a => .ok a h
  | none => .bad
def ofH {α : Type} (o : MH → Option α) : M α := fun h => match o h with
  | some a => .ok a h
  | none => .bad
abbrev Env := List (Option D)

/-! ### operations on values -/
/-- dInts that may be multiplied, that may divide -/
def BIG : Nat := 2 ^ 400000
def BIGD : Nat := 2 ^ 8000
def RNG : Int := 2 ^ 62
/-- lengths -/
def SZ : Nat := 16777216
/-- the items of a list (frozen, or a cell's), of a list or tuple -/
def lItems (d : D) (h : MH) : Option (List D) := match d with
  | .lst xs => some xs
  | .ref i => match h[i]? with
    | some (.lst xs) => some xs
    | _ => none
  | _ => none
def items (d : D) (h : MH) : Option (List D) := match d with
  | .tup xs => some xs
  | d => lItems d h
mutual
def pd0 : D → Option PyData
  | .non => some .none
  | .bl b => some (.bool b)
  | .int i => some (.int i)
  | .str x => some (.str x)
  | .tup xs => (pd0L xs).map .tuple
  | .lst xs => (pd0L xs).map .list
  | _ => none
def pd0L : List D → Option (List PyData)
  | [] => some []
  | d :: ds => match pd0 d, pd0L ds with
    | some a, some r => some (a :: r)
    | _, _ => none
end
/-- as data -/
def pd (h : MH) (d : D) : Option PyData := match d with
  | .ref i => match h[i]? with
    | some (.lst xs) => (pd0L xs).map .list
    | _ => none
  | d => pd0 d
def eqO (x y : D) (h : MH) : Option Bool := match pd h x, pd h y with
  | some a, some b => if SeqAt.shaped a && SeqAt.shaped b then some (PyData.eqv a b) else none
  | _, _ => none
def tru (d : D) (h : MH) : Option Bool := match d with
  | .non => some false
  | .bl b => some b
  | .int i => some (i != 0)
  | .str x => if x.length ≤ SZ then some ((x.length : Int) != 0) else none
  | .tup xs => some (!xs.isEmpty)
  | d => (lItems d h).map fun xs => !xs.isEmpty

inductive BO where
  | add | sub | mul | fdv | mod
  deriving DecidableEq
inductive CO where
  | eq | ne | lt | le | gt | ge | isin | noti
  deriving DecidableEq

def cat2 (mk : List D → D) (xs ys : List D) : M D := if xs.length + ys.length ≤ SZ then ret (mk (xs ++ ys)) else bad
def rep (xs : List D) : Nat → List D
  | 0 => []
  | n + 1 => xs ++ rep xs n
def addD (x y : D) : M D := fun h => match x, y with
  | .int i, .int j => .ok (.int (i + j)) h
  | .str a, .str b => if a.length + b.length ≤ SZ then .ok (.str (a ++ b)) h else .bad
  | .tup xs, .tup ys => cat2 .tup xs ys h
  | x, y => match lItems x h, lItems y h with
    | some xs, some ys => cat2 .lst xs ys h
    | _, _ => .bad
def mulD (x y : D) : M D := match x, y with
  | .int i, .int j => if i.natAbs < BIG ∧ j.natAbs < BIG then ret (.int (i * j)) else bad
  | .tup xs, .int n => if xs.isEmpty = false ∧ 2 ≤ n ∧ n ≤ 1000 ∧ xs.length ≤ 1000 then ret (.tup (rep xs n.toNat)) else bad
  | .lst xs, .int n => if -RNG ≤ n ∧ n < RNG ∧ xs.length * n.toNat ≤ SZ then ret (.lst (rep xs n.toNat)) else bad
  | _, _ => bad
def binD (o : BO) (x y : D) : M D := match o with
  | .add => addD x y
  | .mul => mulD x y
  | .sub => match x, y with
    | .int i, .int j => ret (.int (i - j))
    | _, _ => bad
  | .fdv => match x, y with
    | .int i, .int j => if 0 < j ∧ j.natAbs < BIGD then ret (.int (i / j)) else bad
    | _, _ => bad
  | .mod => match x, y with
    | .int i, .int j => if 0 < j then ret (.int (i % j)) else bad
    | _, _ => bad
def flatP : PyData → Bool
  | .none => true
  | .bool _ => true
  | .int _ => true
  | .str _ => true
  | _ => false
/-- x op= y -/
def augD (o : BO) (x y : D) : M D := match o, x, y with
  | .add, .int i, .int j => ret (.int (i + j))
  | .sub, .int i, .int j => ret (.int (i - j))
  | _, _, _ => bad
def inO (x y : D) (h : MH) : Option Bool := match x, y with
  | .int i, .cd kvs => some (kvs.lookup i).isSome
  | .str a, .str b => some (!(Builtin.Str.occurrences b a 0 b.length 1).isEmpty)
  | x, .tup ys => match pd0 x, pd0L ys with
    | some a, some bs => if flatP a && bs.all flatP then some (bs.any fun b => PyData.eqv b a) else none
    | _, _ => none
  | x, y => match lItems y h, pd0 x with
    | some ys, some a => match pd0L ys with
      | some bs => if SeqAt.shaped a && SeqAt.shaped (.list bs) then some (bs.any fun b => PyData.eqv b a) else none
      | none => none
    | _, _ => none
def intB (p : Int → Int → Bool) (x y : D) : M D := match x, y with
  | .int i, .int j => ret (.bl (p i j))
  | _, _ => bad
def dInts : List D → Option (List Int)
  | [] => some []
  | .int i :: r => (dInts r).map (i :: ·)
  | _ :: _ => none
/-- ints, and tuples of ints -/
def lexLe (ns ms : List Int) : Bool := Ob.lexAt (fun j => decide (ns.getD j 0 = ms.getD j 0)) (fun j => decide (ns.getD j 0 ≤ ms.getD j 0)) (decide (ns.length ≤ ms.length)) 0 (min ns.length ms.length)
def ordD (p : Int → Int → Bool) (t : List Int → List Int → Bool) (x y : D) : M D := match x, y with
  | .int i, .int j => ret (.bl (p i j))
  | .tup xs, .tup ys => (match dInts xs, dInts ys with
    | some ns, some ms => ret (.bl (t ns ms))
    | _, _ => bad)
  | _, _ => bad
def cmpD (o : CO) (x y : D) : M D := match o with
  | .eq => ofH fun h => (eqO x y h).map .bl
  | .ne => ofH fun h => (eqO x y h).map fun b => .bl (!b)
  | .lt => ordD (fun i j => decide (i < j)) HT.lexLt x y
  | .le => ordD (fun i j => decide (i ≤ j)) lexLe x y
  | .gt => intB (fun i j => decide (j < i)) x y
  | .ge => intB (fun i j => decide (j ≤ i)) x y
  | .isin => ofH fun h => (inO x y h).map .bl
  | .noti => ofH fun h => (inO x y h).map fun b => .bl (!b)
def negD (x : D) : M D := match x with
  | .int i => ret (.int (-i))
  | _ => bad
def notD (x : D) : M D := ofH fun h => (tru x h).map fun b => .bl (!b)
/-- x[y] -/
def idxD (x y : D) : M D := fun h => match x, y with
  | .str a, .int i => if a.length ≤ SZ then (match atI a.cps.toList i with
    | some c => .ok (.str ⟨#[c]⟩) h
    | none => .bad) else .bad
  | .cd kvs, .int i => (match kvs.lookup i with
    | some j => .ok (.int j) h
    | none => .bad)
  | .scr ns, .int i => (match atI ns i with
    | some n => .ok (.int n) h
    | none => .bad)
  | x, .int i => match items x h with
    | some xs => (match atI xs i with
      | some d => .ok d h
      | none => .bad)
    | none => .bad
  | _, _ => .bad
def cut {α : Type} (xs : List α) (lo hi : Option Int) : List α := (xs.drop (HT.sIx xs.length 0 lo)).take (HT.sIx xs.length xs.length hi - HT.sIx xs.length 0 lo)
def slcD (x : D) (lo hi : Option Int) : M D := fun h => match x with
  | .str a => if a.length ≤ SZ then .ok (.str (cutS a lo hi)) h else .bad
  | .tup xs => .ok (.tup (cut xs lo hi)) h
  | .scr ns => .ok (.lst ((cut ns lo hi).map .int)) h
  | x => match lItems x h with
    | some xs => .ok (.lst (cut xs lo hi)) h
    | none => .bad
def lenD (x : D) : M D := fun h => match x with
  | .str a => if a.length ≤ SZ then .ok (.int a.length) h else .bad
  | .scr ns => .ok (.int ns.length) h
  | x => match items x h with
    | some xs => .ok (.int xs.length) h
    | none => .bad
def dBools : List D → Option (List Bool)
  | [] => some []
  | .bl b :: r => (dBools r).map (b :: ·)
  | _ :: _ => none
def dStrs : List D → Option (List Str)
  | [] => some []
  | .str x :: r => (dStrs r).map (x :: ·)
  | _ :: _ => none

/-! no cell in it -/
mutual
def plain : D → Bool
  | .ref _ => false
  | .tup xs => plains xs
  | .lst xs => plains xs
  | .obj _ fs => plains fs
  | .exc _ fs => plains fs
  | _ => true
def plains : List D → Bool
  | [] => true
  | d :: ds => plain d && plains ds
end
/-! ### the syntax -/
inductive Lit where
  | non | bl (b : Bool) | int (i : Int) | str (x : Str) | cd (kvs : List (Int × Int))
  deriving DecidableEq
def Lit.d : Lit → D
  | .non => .non
  | .bl b => .bl b
  | .int i => .int i
  | .str x => .str x
  | .cd kvs => .cd kvs
/-- built-ins by name -/
inductive BI where
  | len | abs | int | all | any | sum | tuple | list | max2 | min2 | str | divmod
  deriving DecidableEq
/-- what a for walks -/
inductive IK where
  | seq | enum | zip | rng | items
  deriving DecidableEq
/-- plain targets: names, tuples of them -/
inductive Tg where
  | nm (i : Nat) | tp (l : Tg) | nil | cons (t l : Tg)
  deriving DecidableEq
/-- types for isinstance -/
inductive TY where
  | int | bool | str | tuple | list
  deriving DecidableEq
/-- more operations, by the values of their parts -/
inductive XO where
  | max1 | min1 | dnew | dix | srt | dps | listc | d1 | trg | lso
  deriving DecidableEq
/-- methods -/
inductive MO where
  | get | tst | tss
  deriving DecidableEq
inductive E where
  | var (i : Nat) | lit (c : Lit) | glb (x : Str) (c : Lit) | pow (a b : Nat)
  | neg (a : E) | not (a : E) | bin (o : BO) (a b : E) | cmp (o : CO) (a b : E) | chn (o p : CO) (a b c : E)
  | isN (a : E) | isnN (a : E)
  | and (a b : E) | or (a b : E) | ife (c a b : E)
  | tup (l : E) | lst (l : E) | cel (l : E)
  | idx (a b : E) | slc (a lo hi : E)
  | call (f : Nat) (l : E)
  | blt (b : BI) (l : E)
  | isi (a : E) (t : TY)
  | lc (own : List Nat) (elt : E) (t : Tg) (k : IK) (l : E) (c : E)
  | ck (f : Nat) (ix : List Nat) (l : E)
  | ex (o : XO) (l : E)
  | mth (o : MO) (a l : E)
  | lk (v : Nat) (e : E)
  | cl (a : E)
  | nil | cons (a l : E)
inductive S where
  | asg (t : Tg) (e : E)
  | par (i j : Nat) (l : E) | par3 (i j k : Nat) (l : E)
  | aug (i : Nat) (o : BO) (e : E) | augs (a b : E) (o : BO) (e : E)
  | sti (a b e : E) | unp (a b : E) (j : Nat) (e : E)
  | app (a e : E)
  | dst (a b e : E)
  | exp (e : E) | rtn (e : E) | rt0
  | ite (c : E) (t e : S)
  | for_ (t : Tg) (k : IK) (l : E) (b : S)
  | whl (c : E) (b : S)
  | rai
  | pas | nil | seq (s r : S)

def keyD : L2.Key → D
  | .inl i => .int i
  | .inr x => .str x
def keyT (k : List L2.Key) : D := .tup (k.map keyD)
/-! ### evaluation -/
inductive Fl where
  | nx (e : Env) | rt (d : D) | bk (e : Env) | ct (e : Env) | ex (e : Env) (x : D)
/-- what a for walks, as a source of items by place -/
inductive Src where
  | seq (xs : List D) | keys (ks : List (List L2.Key)) | cel (i n : Nat) | enm (xs : List D) | zip (xs ys : List D) | rng (lo : Int) (n : Nat) | itm (kvs : List (List L2.Key × D))
def Src.count : Src → Nat
  | .seq xs => xs.length
  | .keys ks => ks.length
  | .cel _ n => n
  | .enm xs => xs.length
  | .zip xs ys => min xs.length ys.length
  | .rng _ n => n
  | .itm kvs => kvs.length
def Src.at (s : Src) (k : Nat) (h : MH) : Option D := match s with
  | .seq xs => xs[k]?
  | .keys ks => (ks[k]?).map keyT
  | .cel i n => match h[i]? with
    | some (.lst xs) => if xs.length = n then xs[k]? else none
    | _ => none
  | .enm xs => (xs[k]?).map fun d => .tup [.int k, d]
  | .zip xs ys => match xs[k]?, ys[k]? with
    | some a, some b => some (.tup [a, b])
    | _, _ => none
  | .rng lo n => if k < n then some (.int (lo + k)) else none
  | .itm kvs => (kvs[k]?).map fun kv => .tup [keyT kv.1, kv.2]
/-- the source's length is still what it was -/
def Src.done (s : Src) (h : MH) : Bool := match s with
  | .cel i n => (match h[i]? with
    | some (.lst xs) => decide (xs.length = n)
    | _ => false)
  | _ => true
def src (k : IK) (ds : List D) : M Src := fun h => match k, ds with
  | .seq, [.tup xs] => .ok (.seq xs) h
  | .seq, [.lst xs] => .ok (.seq xs) h
  | .seq, [.ref i] => match h[i]? with
    | some (.lst xs) => .ok (.cel i xs.length) h
    | some (.dct true kvs) => .ok (.keys (kvs.map (·.1))) h
    | _ => .bad
  | .items, [.ref i] => match h[i]? with
    | some (.dct true kvs) => .ok (.itm kvs) h
    | _ => .bad
  | .enum, [.lst xs] => .ok (.enm xs) h
  | .enum, [.tup xs] => .ok (.enm xs) h
  | .zip, [.lst xs, .lst ys] => .ok (.zip xs ys) h
  | .zip, [.tup xs, .tup ys] => .ok (.zip xs ys) h
  | .rng, [.int n] => if -RNG ≤ n ∧ n < RNG then .ok (.rng 0 n.toNat) h else .bad
  | .rng, [.int a, .int b] => if -RNG ≤ a ∧ a < RNG ∧ -RNG ≤ b ∧ b < RNG then .ok (.rng a (b - a).toNat) h else .bad
  | _, _ => .bad
def wipeE (env : Env) : List Nat → Env
  | [] => env
  | i :: r => (wipeE env r).set i none
/-! a target takes a value (a list of targets a list of values) -/
mutual
def bind : Tg → D → Env → MH → Option Env
  | .nm i, d, env, _ => if i < env.length then some (env.set i (some d)) else none
  | .tp l, d, env, h => match d with
    | .tup xs => binds l xs env h
    | d => match lItems d h with
      | some xs => binds l xs env h
      | none => none
  | _, _, _, _ => none
def binds : Tg → List D → Env → MH → Option Env
  | .nil, [], env, _ => some env
  | .cons t l, d :: ds, env, h => match bind t d env h with
    | some env' => binds l ds env' h
    | none => none
  | _, _, _, _ => none
end
/-- a comprehension's turns: m left, from the k-th; acc the items so far; exceptions may not leave it -/
def lcN (s : Src) (t : Tg) (own : List Nat) (cond : Env → M Bool) (elt : Env → M D) (env : Env) : Nat → Nat → List D → M (List D)
  | 0, _, acc => fun h => if s.done h then .ok acc h else .bad
  | m + 1, k, acc => fun h => match s.at k h with
    | none => .bad
    | some d => match bind t d (wipeE env own) h with
      | none => .bad
      | some env' => match cond env' h with
        | .ok false h1 => lcN s t own cond elt env m (k + 1) acc h1
        | .ok true h1 => (match elt env' h1 with
          | .ok z h2 => if acc.length < SZ then lcN s t own cond elt env m (k + 1) (acc ++ [z]) h2 else .bad
          | _ => .bad)
        | _ => .bad
def absI (i : Int) : Int := if i < 0 then -i else i
def bltD (b : BI) (ds : List D) : M D := fun h => match b, ds with
  | .len, [x] => lenD x h
  | .abs, [.int i] => .ok (.int (absI i)) h
  | .int, [.int i] => .ok (.int i) h
  | .int, [.bl b] => .ok (.int (if b then 1 else 0)) h
  | .all, [x] => match (lItems x h).bind dBools with
    | some bs => .ok (.bl (bs.all id)) h
    | none => .bad
  | .any, [x] => match (lItems x h).bind dBools with
    | some bs => .ok (.bl (bs.any id)) h
    | none => .bad
  | .sum, [x] => match (lItems x h).bind dInts with
    | some ns => .ok (.int ns.sum) h
    | none => .bad
  | .tuple, [x] => match items x h with
    | some xs => .ok (.tup xs) h
    | none => .bad
  | .list, [x] => match items x h with
    | some xs => .ok (.lst xs) h
    | none => .bad
  | .max2, [.int i, .int j] => .ok (.int (if j > i then j else i)) h
  | .min2, [.int i, .int j] => .ok (.int (if j < i then j else i)) h
  | .str, [.int i] => if i.natAbs < 2 ^ 1900 then .ok (.str (toString i)) h else .bad
  | .str, [.str a] => .ok (.str a) h
  | .divmod, [.int i, .int j] => if 0 < j ∧ j.natAbs < BIGD then .ok (.tup [.int (i / j), .int (i % j)]) h else .bad
  | _, _ => .bad
def pickL {α : Type} : List Nat → List α → List α
  | [], _ => []
  | j :: r, l => match l[j]? with
    | some a => a :: pickL r l
    | none => pickL r l
def maxI : Int → List Int → Int
  | m, [] => m
  | m, x :: r => maxI (if x > m then x else m) r
def minI : Int → List Int → Int
  | m, [] => m
  | m, x :: r => minI (if x < m then x else m) r
/-- a tuple as a key -/
def keyL : List D → Option (List L2.Key)
  | [] => some []
  | .int i :: r => (keyL r).map (Sum.inl i :: ·)
  | .str x :: r => (keyL r).map (Sum.inr x :: ·)
  | _ :: _ => none
def dval (kvs : List (List L2.Key × D)) (k : List L2.Key) : Option D := (kvs.find? fun kv => decide (kv.1 = k)).map (·.2)
/-- d[k] = v -/
def dput (kvs : List (List L2.Key × D)) (k : List L2.Key) (d : D) : List (List L2.Key × D) :=
  if kvs.any (fun kv => decide (kv.1 = k)) then kvs.map (fun kv => if kv.1 = k then (kv.1, d) else kv) else kvs ++ [(k, d)]
/-- dict of pairs -/
def dpairs : List D → List (List L2.Key × D) → Option (List (List L2.Key × D))
  | [], acc => some acc
  | .tup [.tup ks, v] :: r, acc => (match keyL ks with
    | some k => dpairs r (dput acc k v)
    | none => none)
  | _ :: _, _ => none
/-! order of sort keys -/
def lex2 : List (List Int) → List (List Int) → Bool
  | [], [] => false
  | [], _ :: _ => true
  | _ :: _, [] => false
  | x :: xs, y :: ys => if x = y then lex2 xs ys else HT.lexLt x y
def skE : D → List Int
  | .int i => [i]
  | .tup ys => (dInts ys).getD []
  | _ => []
def skD : D → List (List Int)
  | .tup xs => xs.map skE
  | _ => []
def ltD (x y : D) : Bool := lex2 (skD x) (skD y)
def insD (x : D) : List D → List D
  | [] => [x]
  | y :: ys => if ltD y x then y :: insD x ys else x :: y :: ys
def srtD : List D → List D
  | [] => []
  | x :: xs => insD x (srtD xs)
/-- a tuple of ints, one at least -/
def okT : D → Bool
  | .tup (x :: xs) => (dInts (x :: xs)).isSome
  | _ => false
def isTI : D → Bool
  | .tup ys => (dInts ys).isSome
  | _ => false
/-- a tuple of tuples of ints, one at least -/
def okTT : D → Bool
  | .tup (x :: xs) => (x :: xs).all isTI
  | _ => false
def srtO (xs : List D) : Option (List D) := if xs.all okT || xs.all okTT then some (srtD xs) else none
/-- what sorted sees -/
def sItems (x : D) (h : MH) : Option (List D) := match x with
  | .ref i => (match h[i]? with
    | some (.lst xs) => some xs
    | some (.dct _ kvs) => some (kvs.map fun kv => keyT kv.1)
    | _ => none)
  | .lst xs => some xs
  | _ => none
/-- the items of a tuple, of a frozen list -/
def fItems : D → Option (List D)
  | .tup xs => some xs
  | .lst xs => some xs
  | _ => none
/-- what the object of a method must be, ahead of the arguments -/
def mpre (o : MO) (x : D) (h : MH) : Bool := match o, x with
  | .get, .ref i => (match h[i]? with
    | some (.dct _ _) => true
    | _ => false)
  | .tst, x => (fItems x).isSome
  | .tss, x => (fItems x).isSome
  | _, _ => false
def mop (o : MO) (x : D) (ds : List D) : M D := fun h => match o, x, ds with
  | .get, .ref i, [.tup ks, z] => (match h[i]?, keyL ks with
    | some (.dct _ kvs), some k => .ok ((dval kvs k).getD z) h
    | _, _ => .bad)
  | .tst, x, [y] => (match fItems x with
    | some xs => if xs.length + 1 ≤ SZ then .ok (.tup (xs ++ [y])) h else .bad
    | none => .bad)
  | .tss, x, [y] => (match fItems x, fItems y with
    | some xs, some ys => if xs.length + ys.length ≤ SZ then .ok (.tup (xs ++ ys)) h else .bad
    | _, _ => .bad)
  | _, _, _ => .bad
def xop (o : XO) (ds : List D) : M D := fun h => match o, ds with
  | .max1, [x] => (match (items x h).bind dInts with
    | some (n :: ns) => .ok (.int (maxI n ns)) h
    | _ => .bad)
  | .min1, [x] => (match (items x h).bind dInts with
    | some (n :: ns) => .ok (.int (minI n ns)) h
    | _ => .bad)
  | .dnew, [] => .ok (.ref h.length) (h ++ [.dct false []])
  | .dix, [.ref i, .tup ks] => (match h[i]?, keyL ks with
    | some (.dct _ kvs), some k => (match dval kvs k with
      | some d => .ok d h
      | none => .bad)
    | _, _ => .bad)
  | .srt, [x] => (match (sItems x h).bind srtO with
    | some ys => .ok (.lst ys) h
    | none => .bad)
  | .dps, [x] => (match (lItems x h).bind (fun xs => dpairs xs []) with
    | some kvs => if plains (kvs.map (·.2)) = true ∧ kvs.length ≤ SZ then .ok (.ref h.length) (h ++ [.dct false kvs]) else .bad
    | none => .bad)
  | .listc, [x] => (match items x h with
    | some xs => if plains xs = true then .ok (.ref h.length) (h ++ [.lst xs]) else .bad
    | none => .bad)
  | .d1, [.tup ks, v] => (match keyL ks with
    | some k => if plain v = true then .ok (.ref h.length) (h ++ [.dct false [(k, v)]]) else .bad
    | none => .bad)
  | .trg, [.int n] => if 0 ≤ n ∧ n ≤ 1000 then .ok (.tup ((List.range n.toNat).map fun i => .int (i : Nat))) h else .bad
  | .lso, [x, y] => (match fItems y with
    | some ys => if ys.length + 1 ≤ SZ then .ok (.lst (x :: ys)) h else .bad
    | none => .bad)
  | _, _ => .bad
def isiD (t : TY) (x : D) : M D := fun h => match t, x with
  | .int, .int _ => .ok (.bl true) h
  | .int, .bl _ => .ok (.bl true) h
  | .bool, .bl _ => .ok (.bl true) h
  | .str, .str _ => .ok (.bl true) h
  | .tuple, .tup _ => .ok (.bl true) h
  | .list, .lst _ => .ok (.bl true) h
  | .list, .ref i => (match h[i]? with
    | some (.lst _) => .ok (.bl true) h
    | _ => .bad)
  | _, .ref i => (match h[i]? with
    | some (.lst _) => .ok (.bl false) h
    | _ => .bad)
  | _, .exc _ _ => .bad
  | _, .obj _ _ => .bad
  | _, .scr _ => .bad
  | _, .cd _ => .bad
  | _, _ => .ok (.bl false) h
def trM (x : D) : M Bool := ofH (tru x)
def isNonD (x : D) : Bool := match x with
  | .non => true
  | _ => false
/-- the test of a comprehension: none, or c, whose value f tells -/
def condF (f : Env → M D) (c : E) (env : Env) : M Bool := match c with
  | .nil => ret true
  | _ => bnd (f env) trM
/-- a new list as a cell -/
def cellOf (x : D) : M D := match x with
  | .lst xs => if plains xs = true then fun h => .ok (.ref h.length) (h ++ [.lst xs]) else bad
  | _ => bad
section
variable (cf : Nat → List D → M D)
mutual
def ev : E → Env → M D
  | .var i, env => fun h => match env[i]? with
    | some (some d) => .ok d h
    | _ => .bad
  | .lit c, _ => ret c.d
  | .glb _ c, _ => ret c.d
  | .pow a b, _ => ret (.int ((a : Int) ^ b))
  | .neg a, env => bnd (ev a env) negD
  | .not a, env => bnd (ev a env) notD
  | .bin o a b, env => bnd (ev a env) fun x => bnd (ev b env) fun y => binD o x y
  | .cmp o a b, env => bnd (ev a env) fun x => bnd (ev b env) fun y => cmpD o x y
  | .chn o p a b c, env => bnd (ev a env) fun x => bnd (ev b env) fun y => bnd (cmpD o x y) fun r => match r with
    | .bl false => ret (.bl false)
    | .bl true => bnd (ev c env) fun z => cmpD p y z
    | _ => bad
  | .isN a, env => bnd (ev a env) fun x => ret (.bl (isNonD x))
  | .isnN a, env => bnd (ev a env) fun x => ret (.bl (!isNonD x))
  | .and a b, env => bnd (ev a env) fun x => bnd (trM x) fun k => if k then ev b env else ret x
  | .or a b, env => bnd (ev a env) fun x => bnd (trM x) fun k => if k then ret x else ev b env
  | .ife c a b, env => bnd (ev c env) fun x => bnd (trM x) fun k => if k then ev a env else ev b env
  | .tup l, env => bnd (evL l env) fun xs => if xs.length ≤ SZ then ret (.tup xs) else bad
  | .lst l, env => bnd (evL l env) fun xs => if xs.length ≤ SZ then ret (.lst xs) else bad
  | .cel l, env => bnd (evL l env) fun xs => if xs.length ≤ SZ ∧ plains xs = true then fun h => .ok (.ref h.length) (h ++ [.lst xs]) else bad
  | .idx a b, env => bnd (ev a env) fun x => bnd (ev b env) fun y => idxD x y
  | .slc a lo hi, env => bnd (ev a env) fun x => bnd (evO lo env) fun l => bnd (evO hi env) fun u => slcD x l u
  | .call f l, env => bnd (evL l env) fun xs => cf f xs
  | .blt b l, env => bnd (evL l env) fun xs => bltD b xs
  | .ck f ix l, env => bnd (evL l env) fun xs => cf f (pickL ix xs)
  | .ex o l, env => bnd (evL l env) fun xs => xop o xs
  | .mth o a l, env => bnd (ev a env) fun x h => if mpre o x h = true then bnd (evL l env) (mop o x) h else .bad
  | .isi a t, env => bnd (ev a env) fun x => isiD t x
  | .lk v e, env => fun h => match env[v]? with
    | some (some (.ref i)) => (match h[i]? with
      | some (.dct false kvs) => (match ev e env (h.set i (.dct true kvs)) with
        | .ok d h' => (match h'[i]? with
          | some (.dct true kvs') => .ok d (h'.set i (.dct false kvs'))
          | _ => .bad)
        | _ => .bad)
      | _ => .bad)
    | _ => .bad
  | .cl a, env => bnd (ev a env) cellOf
  | .lc own elt t k l c, env => bnd (evL l env) fun ds => bnd (src k ds) fun s =>
      bnd (lcN s t own (condF (fun env' => ev c env') c) (fun env' => ev elt env') env s.count 0 []) fun xs => ret (.lst xs)
  | .nil, _ => bad
  | .cons _ _, _ => bad
def evL : E → Env → M (List D)
  | .nil, _ => ret []
  | .cons a l, env => bnd (ev a env) fun x => bnd (evL l env) fun xs => ret (x :: xs)
  | _, _ => bad
/-- a slice's part -/
def evO : E → Env → M (Option Int)
  | .nil, _ => ret none
  | .cons a _, env => bnd (ev a env) fun x => match x with
    | .int i => ret (some i)
    | _ => bad
  | _, _ => bad
end
/-- an expression within a statement -/
def onE {α : Type} (env : Env) (m : M α) (k : α → M Fl) : M Fl := fun h => match m h with
  | .ok a h' => k a h'
  | .exn e h' => .ok (.ex env e) h'
  | .bad => .bad
def forN (s : Src) (t : Tg) (body : Env → M Fl) : Nat → Nat → Env → M Fl
  | 0, _, env => fun h => if s.done h then .ok (.nx env) h else .bad
  | m + 1, k, env => fun h => match s.at k h with
    | none => .bad
    | some d => match bind t d env h with
      | none => .bad
      | some env' => match body env' h with
        | .ok (.nx e1) h1 => forN s t body m (k + 1) e1 h1
        | .ok (.ct e1) h1 => forN s t body m (k + 1) e1 h1
        | .ok (.bk e1) h1 => .ok (.nx e1) h1
        | r => r
def whlN (c : Env → M Bool) (body : Env → M Fl) : Nat → Env → M Fl
  | 0, _ => bad
  | n + 1, env => onE env (c env) fun k => if k then (fun h => match body env h with
        | .ok (.nx e1) h1 => whlN c body n e1 h1
        | .ok (.ct e1) h1 => whlN c body n e1 h1
        | .ok (.bk e1) h1 => .ok (.nx e1) h1
        | r => r) else ret (.nx env)
/-- how many turns a while may have -/
def TURNS : Nat := 1000000000
def setCell (i : Nat) (f : List D → Option (List D)) (env : Env) : M Fl := fun h => match h[i]? with
  | some (.lst xs) => (match f xs with
    | some ys => if plains ys then .ok (.nx env) (h.set i (.lst ys)) else .bad
    | none => .bad)
  | _ => .bad
/-- xs with z at the place of i -/
def putI (xs : List D) (i : Int) (z : D) : Option (List D) := (ixN xs.length i).map fun j => xs.set j z
def exS : S → Env → M Fl
  | .asg t e, env => onE env (ev cf e env) fun d h => match bind t d env h with
    | some env' => .ok (.nx env') h
    | none => .bad
  | .par i j l, env => onE env (evL cf l env) fun ds => match ds with
    | [x, y] => if i < env.length ∧ j < env.length then ret (.nx ((env.set i (some x)).set j (some y))) else bad
    | _ => bad
  | .par3 i j k l, env => onE env (evL cf l env) fun ds => match ds with
    | [x, y, z] => if i < env.length ∧ j < env.length ∧ k < env.length then ret (.nx (((env.set i (some x)).set j (some y)).set k (some z))) else bad
    | _ => bad
  | .aug i o e, env => fun h => match env[i]? with
    | some (some x) => onE env (ev cf e env) (fun y => onE env (augD o x y) fun z => ret (.nx (env.set i (some z)))) h
    | _ => .bad
  | .augs a b o e, env => onE env (ev cf a env) fun x => onE env (ev cf b env) fun y => match x, y with
    | .ref i, .int j => onE env (idxD (.ref i) (.int j)) fun u => onE env (ev cf e env) fun w => onE env (augD o u w) fun z => setCell i (fun xs => putI xs j z) env
    | _, _ => bad
  | .sti a b e, env => onE env (ev cf e env) fun z => onE env (ev cf a env) fun x => onE env (ev cf b env) fun y => match x, y with
    | .ref i, .int j => setCell i (fun xs => putI xs j z) env
    | _, _ => bad
  | .unp a b j e, env => onE env (ev cf e env) fun d => match d with
    | .tup [d0, d1] => onE env (ev cf a env) fun x => onE env (ev cf b env) fun y => match x, y with
      | .ref i, .int k => fun h => (match setCell i (fun xs => putI xs k d0) env h with
        | .ok (.nx e1) h1 => if j < e1.length then .ok (.nx (e1.set j (some d1))) h1 else .bad
        | _ => .bad)
      | _, _ => bad
    | _ => bad
  | .app a e, env => onE env (ev cf a env) fun x => match x with
    | .ref i => fun h => (match h[i]? with
      | some (.lst _) => onE env (ev cf e env) (fun z => setCell i (fun xs => if xs.length < SZ then some (xs ++ [z]) else none) env) h
      | _ => .bad)
    | _ => bad
  | .dst a b e, env => onE env (ev cf e env) fun z => onE env (ev cf a env) fun x => onE env (ev cf b env) fun y => match x, y with
    | .ref i, .tup ks => fun h => (match h[i]?, keyL ks with
      | some (.dct false kvs), some k => if plain z = true ∧ kvs.length < SZ then .ok (.nx env) (h.set i (.dct false (dput kvs k z))) else .bad
      | _, _ => .bad)
    | _, _ => bad
  | .exp e, env => onE env (ev cf e env) fun _ => ret (.nx env)
  | .rtn e, env => onE env (ev cf e env) fun d => ret (.rt d)
  | .rt0, _ => ret (.rt .non)
  | .ite c t e, env => onE env (bnd (ev cf c env) trM) fun k => if k then exS t env else exS e env
  | .for_ t k l b, env => onE env (bnd (evL cf l env) fun ds => src k ds) fun s => forN s t (exS b) s.count 0 env
  | .whl c b, env => whlN (fun env => bnd (ev cf c env) trM) (exS b) TURNS env
  | .rai, _ => bad
  | .pas, env => ret (.nx env)
  | .nil, env => ret (.nx env)
  | .seq s r, env => fun h => match exS s env h with
    | .ok (.nx e1) h1 => exS r e1 h1
    | q => q
end
/-- a def: how many slots, its body, how its end is kept (raw: cells stay; else they are dropped) -/
structure Fn where
  slots : Nat
  arity : Nat
  body : S
  raw : Bool := false
/-- the end of a call that began with n cells -/
def fin (raw : Bool) (n : Nat) (d : D) (h : MH) : R D :=
  if raw then .ok d h else match d with
    | .ref i => if i < n then .ok (.ref i) (h.take n) else match h[i]? with
      | some (.lst xs) => if plains xs then .ok (.lst xs) (h.take n) else .bad
      | _ => .bad
    | d => if plain d then .ok d (h.take n) else .bad
def finX (n : Nat) (e : D) (h : MH) : R D := if plain e then .exn e (h.take n) else .bad
def runFn (cf : Nat → List D → M D) (f : Fn) (ds : List D) : M D := fun h =>
  if ds.length = f.arity ∧ f.arity ≤ f.slots then
    match exS cf f.body (ds.map some ++ List.replicate (f.slots - f.arity) none) h with
    | .ok (.rt d) h' => fin f.raw h.length d h'
    | .ok (.nx _) h' => fin f.raw h.length .non h'
    | .ok (.ex _ e) h' => finX h.length e h'
    | _ => .bad
  else .bad
/-- calls, so many deep -/
def callN (fns : Nat → Option Fn) : Nat → Nat → List D → M D
  | 0, _, _ => bad
  | k + 1, i, ds => fun h => match fns i with
    | some f => runFn (callN fns k) f ds h
    | none => .bad
end Mn

/-! Mn: how the small values and heaps stand for those of the layer. -/
namespace Mn
open PySem L2

/-- the cells' places; places that are somebody else's just now (a comprehension's list) -/
structure Ix where
  c : List Addr
  x : List Addr
def Ix.app (ι : Ix) (p : Addr) : Ix := ⟨ι.c ++ [p], ι.x⟩
def Ix.tk (ι : Ix) (n : Nat) : Ix := ⟨ι.c.take n, ι.x⟩
/-- a dict of ints to ints stands in the written part -/
def entI (e : DictEntry) (p : Int × Int) : Bool := match e.key, e.val with
  | .int k _, .int v _ => decide (k = p.1) && decide (v = p.2) && decide (e.hash = hashInt k)
  | _, _ => false
def entsI : List DictEntry → List (Int × Int) → Bool
  | [], [] => true
  | e :: es, p :: ps => entI e p && entsI es ps
  | _, _ => false
def cdIn (K : PySem.W.Frag) (a : Addr) (kvs : List (Int × Int)) : Bool := match K.lookup a with
  | some ⟨.type c, none, .dict es n, sl⟩ => decide (c = "dict") && sl.isEmpty && !(a == sysModules) && entsI es.toList kvs && decide (kvs.map (·.1)).Nodup
  | _ => false
/-- the written part, where the classes stand, their fields -/
structure Wd where
  K : PySem.W.Frag
  ca : Nat → Addr
  cf : Nat → List Str

mutual
inductive Rep (W : Wd) (ι : Ix) (H : Hp) : D → V → Prop
  | non : Rep W ι H .non .non
  | bl (b : Bool) : Rep W ι H (.bl b) (.bl b)
  | int (i : Int) : Rep W ι H (.int i) (.int i)
  | str (x : Str) : Rep W ι H (.str x) (.str x)
  | tup {a : Addr} {xs : List V} {ds : List D} : H a = some (.tup xs) → Reps W ι H ds xs → Rep W ι H (.tup ds) (.ref a)
  | lst {a : Addr} {xs : List V} {ds : List D} : H a = some (.lst xs) → a ∉ ι.c → a ∉ ι.x → Reps W ι H ds xs → Rep W ι H (.lst ds) (.ref a)
  | cd {a : Addr} {kvs : List (Int × Int)} : cdIn W.K a kvs = true → Rep W ι H (.cd kvs) (.ref a)
  | scr {a : Addr} {o : Obj} {ns : List Int} : H a = some (.frz o (.lst (ns.map V.int))) → Rep W ι H (.scr ns) (.ref a)
  | obj {a dx : Addr} {xs : List V} {c : Nat} {fs : List D} : H a = some (.ins (W.ca c) dx ((W.cf c).zip xs)) → a ∉ ι.c → a ∉ ι.x → fs.length = (W.cf c).length → Reps W ι H fs xs → Rep W ι H (.obj c fs) (.ref a)
  | ref {i : Nat} {a : Addr} : ι.c[i]? = some a → Rep W ι H (.ref i) (.ref a)
inductive Reps (W : Wd) (ι : Ix) (H : Hp) : List D → List V → Prop
  | nil : Reps W ι H [] []
  | cons {d : D} {ds : List D} {v : V} {vs : List V} : Rep W ι H d v → Reps W ι H ds vs → Reps W ι H (d :: ds) (v :: vs)
end

/-- from one state to a later one: cells may come, frozen things stay -/
structure Step (ι : Ix) (H : Hp) (ι' : Ix) (H' : Hp) : Prop where
  ex : ∀ a, a ∈ ι.x → a ∈ ι'.x
  newx : ∀ a, a ∈ ι'.x → a ∉ ι.x → a ∉ ι.c → H a = none
  pre : ∀ (i : Nat) (a : Addr), ι.c[i]? = some a → ι'.c[i]? = some a
  tups : ∀ a xs, H a = some (.tup xs) → H' a = some (.tup xs)
  frzs : ∀ a o u, H a = some (.frz o u) → H' a = some (.frz o u)
  tbls : ∀ a ps, H a = some (.tbl ps) → ∃ more, H' a = some (.tbl (ps ++ more))
  keep : ∀ a o, a ∉ ι.c → H a = some o → (∀ ps, o ≠ .tbl ps) → H' a = some o
  new : ∀ a, a ∈ ι'.c → a ∉ ι.c → H a = none
theorem Step.refl (ι : Ix) (H : Hp) : Step ι H ι H := ⟨fun _ h => h, fun a h n _ => absurd h n, fun _ _ h => h, fun _ _ h => h, fun _ _ _ h => h, fun a ps h => ⟨#[], by simpa using h⟩, fun _ _ _ h _ => h, fun a h n => absurd h n⟩
theorem Step.trans {ι ι1 ι2 : Ix} {H H1 H2 : Hp} (a : Step ι H ι1 H1) (b : Step ι1 H1 ι2 H2) : Step ι H ι2 H2 where
  ex := fun x h => b.ex x (a.ex x h)
  newx := fun x hm n nc => by
    by_cases h1 : x ∈ ι1.x
    · exact a.newx x h1 n nc
    · by_cases h0 : x ∈ ι1.c
      · exact a.new x h0 nc
      · have h2 := b.newx x hm h1 h0
        cases e : H x with
        | none => rfl
        | some o =>
          by_cases t : ∃ ps, o = .tbl ps
          · obtain ⟨ps, rfl⟩ := t
            obtain ⟨m, q⟩ := a.tbls x ps e
            rw [q] at h2
            cases h2
          · have q := a.keep x o nc e (fun ps z => t ⟨ps, z⟩)
            rw [q] at h2
            cases h2
  pre := fun i x h => b.pre i x (a.pre i x h)
  tups := fun x xs h => b.tups x xs (a.tups x xs h)
  frzs := fun x o u h => b.frzs x o u (a.frzs x o u h)
  tbls := fun x ps h => by
    obtain ⟨m, h1⟩ := a.tbls x ps h
    obtain ⟨m', h2⟩ := b.tbls x _ h1
    exact ⟨m ++ m', by rw [h2, Array.append_assoc]⟩
  keep := fun x o n h t => by
    have h1 := a.keep x o n h t
    refine b.keep x o (fun hm => ?_) h1 t
    rw [a.new x hm n] at h
    cases h
  new := fun x hm n => by
    by_cases h1 : x ∈ ι1.c
    · exact a.new x h1 n
    · have h2 := b.new x hm h1
      cases e : H x with
      | none => rfl
      | some o =>
        by_cases t : ∃ ps, o = .tbl ps
        · obtain ⟨ps, rfl⟩ := t
          obtain ⟨m, q⟩ := a.tbls x ps e
          rw [q] at h2
          cases h2
        · have q := a.keep x o n e (fun ps z => t ⟨ps, z⟩)
          rw [q] at h2
          cases h2
/-- a new frozen object -/
theorem Step.lay {ι : Ix} {H : Hp} {p : Addr} {o : HO} (n : H p = none) : Step ι H ι (upd H p o) where
  ex := fun _ h => h
  newx := fun a h n _ => absurd h n
  pre := fun _ _ h => h
  tups := fun a xs h => by rw [upd_ne (ne_of_none h n)]; exact h
  frzs := fun a u x h => by rw [upd_ne (ne_of_none h n)]; exact h
  tbls := fun a ps h => ⟨#[], by rw [upd_ne (ne_of_none h n)]; simpa using h⟩
  keep := fun a u _ h _ => by rw [upd_ne (ne_of_none h n)]; exact h
  new := fun a h m => absurd h m
/-- a new cell -/
theorem Step.cell {ι : Ix} {H : Hp} {p : Addr} {o : HO} (n : H p = none) : Step ι H (ι.app p) (upd H p o) where
  ex := fun _ h => h
  newx := fun a h n _ => absurd h n
  pre := fun i a h => by
    have hl : i < ι.c.length := by
      rcases Nat.lt_or_ge i ι.c.length with q | q
      · exact q
      · rw [List.getElem?_eq_none q] at h; cases h
    show (ι.c ++ [p])[i]? = _
    rw [List.getElem?_append_left hl]; exact h
  tups := fun a xs h => by rw [upd_ne (ne_of_none h n)]; exact h
  frzs := fun a u x h => by rw [upd_ne (ne_of_none h n)]; exact h
  tbls := fun a ps h => ⟨#[], by rw [upd_ne (ne_of_none h n)]; simpa using h⟩
  keep := fun a u _ h _ => by rw [upd_ne (ne_of_none h n)]; exact h
  new := fun a h m => by
    rcases List.mem_append.mp h with q | q
    · exact absurd q m
    · rw [List.mem_singleton.mp q]; exact n
/-- a cell changes -/
theorem Step.put {ι : Ix} {H : Hp} {a : Addr} {o u : HO} (m : a ∈ ι.c) (e : H a = some o) (h1 : ∀ xs, o ≠ .tup xs) (h2 : ∀ x y, o ≠ .frz x y) (h3 : ∀ ps, o ≠ .tbl ps) : Step ι H ι (upd H a u) where
  ex := fun _ h => h
  newx := fun a h n _ => absurd h n
  pre := fun _ _ h => h
  tups := fun b xs h => by
    rw [upd_ne (fun z => ?_)]; exact h
    subst z; rw [h] at e; cases e; exact h1 _ rfl
  frzs := fun b x y h => by
    rw [upd_ne (fun z => ?_)]; exact h
    subst z; rw [h] at e; cases e; exact h2 _ _ rfl
  tbls := fun b ps h => ⟨#[], by
    rw [upd_ne (fun z => ?_)]; simpa using h
    subst z; rw [h] at e; cases e; exact h3 _ rfl⟩
  keep := fun b x n h _ => by
    rw [upd_ne (fun z : b = a => n (by rw [z]; exact m))]; exact h
  new := fun b h n => absurd h n
/-- the new cells are dropped -/
theorem Step.drop {ι ι' : Ix} {H H' : Hp} (s : Step ι H ι' H') : Step ι H ι H' where
  ex := fun _ h => h
  newx := fun a h n _ => absurd h n
  pre := fun _ _ h => h
  tups := s.tups
  frzs := s.frzs
  tbls := s.tbls
  keep := s.keep
  new := fun a h n => absurd h n

theorem lst_mono {ι ι' : Ix} {H H' : Hp} {a : Addr} {xs : List V} (s : Step ι H ι' H') (n : a ∉ ι.c) (h : H a = some (.lst xs)) : H' a = some (.lst xs) ∧ a ∉ ι'.c := by
  refine ⟨s.keep a _ n h (fun ps z => by cases z), fun m => ?_⟩
  have q := s.new a m n
  rw [q] at h
  cases h
theorem sqt_mono {K : PySem.W.Frag} {ι ι' : Ix} {H H' : Hp} {a : Addr} {xs : List V} (s : Step ι H ι' H') (h : SqT K H a xs) : SqT K H' a xs := by
  rcases h with (h | ⟨o, h⟩) | h
  · exact .inl (.inl (s.tups a _ h))
  · exact .inl (.inr ⟨o, s.frzs a _ _ h⟩)
  · exact .inr h
mutual
theorem Rep.mono {W : Wd} {ι ι' : Ix} {H H' : Hp} (s : Step ι H ι' H') : ∀ {d : D} {v : V}, Rep W ι H d v → Rep W ι' H' d v
  | _, _, .non => .non
  | _, _, .bl b => .bl b
  | _, _, .int i => .int i
  | _, _, .str x => .str x
  | _, _, .tup h r => .tup (s.tups _ _ h) (Reps.mono s r)
  | _, _, .lst h n n2 r => .lst (lst_mono s n h).1 (lst_mono s n h).2 (fun m => by have q := s.newx _ m n2 n; rw [q] at h; cases h) (Reps.mono s r)
  | _, _, .scr h => .scr (s.frzs _ _ _ h)
  | _, _, .cd h => .cd h
  | _, _, .obj h n n2 l r => .obj (s.keep _ _ n h (fun ps z => by cases z)) (fun m => by have q := s.new _ m n; rw [q] at h; cases h) (fun m => by have q := s.newx _ m n2 n; rw [q] at h; cases h) l (Reps.mono s r)
  | _, _, .ref h => .ref (s.pre _ _ h)
theorem Reps.mono {W : Wd} {ι ι' : Ix} {H H' : Hp} (s : Step ι H ι' H') : ∀ {ds : List D} {vs : List V}, Reps W ι H ds vs → Reps W ι' H' ds vs
  | _, _, .nil => .nil
  | _, _, .cons r t => .cons (Rep.mono s r) (Reps.mono s t)
end
theorem Reps.length {W : Wd} {ι : Ix} {H : Hp} : ∀ {ds : List D} {vs : List V}, Reps W ι H ds vs → ds.length = vs.length
  | _, _, .nil => rfl
  | _, _, .cons _ t => by simp [Reps.length t]
theorem Reps.get {W : Wd} {ι : Ix} {H : Hp} : ∀ {ds : List D} {vs : List V} {i : Nat} {d : D}, Reps W ι H ds vs → ds[i]? = some d → ∃ v, vs[i]? = some v ∧ Rep W ι H d v
  | _, _, _, _, .nil, e => by simp at e
  | _, _, 0, _, .cons r _, e => by simp at e; subst e; exact ⟨_, rfl, r⟩
  | _, _, i + 1, d, .cons _ t, e => by
    obtain ⟨v, h1, h2⟩ := Reps.get (i := i) (d := d) t (by simpa using e)
    exact ⟨v, by simpa using h1, h2⟩
theorem Reps.append {W : Wd} {ι : Ix} {H : Hp} : ∀ {ds es : List D} {vs us : List V}, Reps W ι H ds vs → Reps W ι H es us → Reps W ι H (ds ++ es) (vs ++ us)
  | _, _, _, _, .nil, s => s
  | _, _, _, _, .cons r t, s => .cons r (Reps.append t s)
theorem Reps.take {W : Wd} {ι : Ix} {H : Hp} : ∀ {ds : List D} {vs : List V} (n : Nat), Reps W ι H ds vs → Reps W ι H (ds.take n) (vs.take n)
  | _, _, 0, _ => by simpa using Reps.nil
  | _, _, _ + 1, .nil => .nil
  | _, _, n + 1, .cons r t => .cons r (Reps.take n t)
theorem Reps.drop {W : Wd} {ι : Ix} {H : Hp} : ∀ {ds : List D} {vs : List V} (n : Nat), Reps W ι H ds vs → Reps W ι H (ds.drop n) (vs.drop n)
  | _, _, 0, r => r
  | _, _, _ + 1, .nil => .nil
  | _, _, n + 1, .cons _ t => Reps.drop n t
theorem Reps.set {W : Wd} {ι : Ix} {H : Hp} {d : D} {v : V} (r : Rep W ι H d v) : ∀ {ds : List D} {vs : List V} (i : Nat), Reps W ι H ds vs → Reps W ι H (ds.set i d) (vs.set i v)
  | _, _, _, .nil => .nil
  | _, _, 0, .cons _ t => .cons r t
  | _, _, i + 1, .cons q t => .cons q (Reps.set r i t)
theorem Reps.cut {W : Wd} {ι : Ix} {H : Hp} {ds : List D} {vs : List V} (r : Reps W ι H ds vs) (lo hi : Option Int) : Reps W ι H (Mn.cut ds lo hi) (cutV vs lo hi) := by
  unfold Mn.cut cutV
  rw [r.length]
  exact (r.drop _).take _
theorem Reps.at {W : Wd} {ι : Ix} {H : Hp} {ds : List D} {vs : List V} {i : Int} {d : D} (r : Reps W ι H ds vs) (h : atI ds i = some d) : ∃ v, atI vs i = some v ∧ Rep W ι H d v := by
  unfold atI at h ⊢
  rw [r.length] at h
  cases e : ixN vs.length i with
  | none => rw [e] at h; cases h
  | some j =>
    rw [e] at h
    exact r.get h
theorem Reps.rep {W : Wd} {ι : Ix} {H : Hp} {ds : List D} {vs : List V} (r : Reps W ι H ds vs) : ∀ n, Reps W ι H (Mn.rep ds n) ((List.replicate n vs).flatten)
  | 0 => .nil
  | n + 1 => by
    rw [List.replicate_succ, List.flatten_cons]
    exact r.append (Reps.rep r n)
/-- bools, ints, texts among them are those of the layer -/
theorem Reps.bools {W : Wd} {ι : Ix} {H : Hp} : ∀ {ds : List D} {vs : List V} {bs : List Bool}, Reps W ι H ds vs → dBools ds = some bs → vs = bs.map V.bl
  | _, _, _, .nil, e => by cases e; rfl
  | .bl b :: ds, _, bs, .cons r t, e => by
    cases r
    unfold dBools at e
    cases q : dBools ds with
    | none => rw [q] at e; cases e
    | some cs => rw [q] at e; cases e; rw [Reps.bools t q]; rfl
  | .non :: _, _, _, .cons _ _, e => by cases e
  | .int _ :: _, _, _, .cons _ _, e => by cases e
  | .str _ :: _, _, _, .cons _ _, e => by cases e
  | .tup _ :: _, _, _, .cons _ _, e => by cases e
  | .lst _ :: _, _, _, .cons _ _, e => by cases e
  | .obj _ _ :: _, _, _, .cons _ _, e => by cases e
  | .scr _ :: _, _, _, .cons _ _, e => by cases e
  | .cd _ :: _, _, _, .cons _ _, e => by cases e
  | .exc _ _ :: _, _, _, .cons _ _, e => by cases e
  | .ref _ :: _, _, _, .cons _ _, e => by cases e
theorem Reps.ints {W : Wd} {ι : Ix} {H : Hp} : ∀ {ds : List D} {vs : List V} {ns : List Int}, Reps W ι H ds vs → dInts ds = some ns → vs = ns.map V.int
  | _, _, _, .nil, e => by cases e; rfl
  | .int b :: ds, _, bs, .cons r t, e => by
    cases r
    unfold dInts at e
    cases q : dInts ds with
    | none => rw [q] at e; cases e
    | some cs => rw [q] at e; cases e; rw [Reps.ints t q]; rfl
  | .non :: _, _, _, .cons _ _, e => by cases e
  | .bl _ :: _, _, _, .cons _ _, e => by cases e
  | .str _ :: _, _, _, .cons _ _, e => by cases e
  | .tup _ :: _, _, _, .cons _ _, e => by cases e
  | .lst _ :: _, _, _, .cons _ _, e => by cases e
  | .obj _ _ :: _, _, _, .cons _ _, e => by cases e
  | .scr _ :: _, _, _, .cons _ _, e => by cases e
  | .cd _ :: _, _, _, .cons _ _, e => by cases e
  | .exc _ _ :: _, _, _, .cons _ _, e => by cases e
  | .ref _ :: _, _, _, .cons _ _, e => by cases e
theorem Reps.strs {W : Wd} {ι : Ix} {H : Hp} : ∀ {ds : List D} {vs : List V} {ns : List Str}, Reps W ι H ds vs → dStrs ds = some ns → vs = ns.map V.str
  | _, _, _, .nil, e => by cases e; rfl
  | .str b :: ds, _, bs, .cons r t, e => by
    cases r
    unfold dStrs at e
    cases q : dStrs ds with
    | none => rw [q] at e; cases e
    | some cs => rw [q] at e; cases e; rw [Reps.strs t q]; rfl
  | .non :: _, _, _, .cons _ _, e => by cases e
  | .bl _ :: _, _, _, .cons _ _, e => by cases e
  | .int _ :: _, _, _, .cons _ _, e => by cases e
  | .tup _ :: _, _, _, .cons _ _, e => by cases e
  | .lst _ :: _, _, _, .cons _ _, e => by cases e
  | .obj _ _ :: _, _, _, .cons _ _, e => by cases e
  | .scr _ :: _, _, _, .cons _ _, e => by cases e
  | .cd _ :: _, _, _, .cons _ _, e => by cases e
  | .exc _ _ :: _, _, _, .cons _ _, e => by cases e
  | .ref _ :: _, _, _, .cons _ _, e => by cases e

/-! ### cells -/
def CellR (W : Wd) (ι : Ix) (H : Hp) (a : Addr) : Cell → Prop
  | .lst ds => plains ds = true ∧ ∃ vs, H a = some (.lst vs) ∧ Reps W ι H ds vs
  | .ins c fs => plains fs = true ∧ ∃ dx vs, H a = some (.ins (W.ca c) dx ((W.cf c).zip vs)) ∧ fs.length ≤ (W.cf c).length ∧ Reps W ι H fs vs
  | .dct lk kvs => plains (kvs.map (·.2)) = true ∧ ∃ ws : List (List L2.Key × V), kvs.map (·.1) = ws.map (·.1) ∧ (if lk = true then ∃ o, H a = some (.frz o (.dT ws)) else H a = some (.dT ws)) ∧ Reps W ι H (kvs.map (·.2)) (ws.map (·.2))
structure Sm (W : Wd) (ι : Ix) (H : Hp) (h : MH) : Prop where
  nd : ι.c.Nodup
  len : ι.c.length = h.length
  cell : ∀ (i : Nat) (c : Cell) (a : Addr), h[i]? = some c → ι.c[i]? = some a → CellR W ι H a c
  exs : ∀ a ∈ ι.x, a ∉ ι.c ∧ ∃ o, H a = some o ∧ ∀ ps, o ≠ .tbl ps
theorem CellR.mono {W : Wd} {ι ι' : Ix} {H H' : Hp} {a : Addr} {c : Cell} (s : Step ι H ι' H') (e : H' a = H a) (x : CellR W ι H a c) : CellR W ι' H' a c := by
  cases c with
  | lst ds =>
    obtain ⟨p, vs, h, r⟩ := x
    exact ⟨p, vs, e.trans h, r.mono s⟩
  | ins c fs =>
    obtain ⟨p, dx, vs, h, l, r⟩ := x
    exact ⟨p, dx, vs, e.trans h, l, r.mono s⟩
  | dct lk kvs =>
    obtain ⟨p, ws, k, h, r⟩ := x
    refine ⟨p, ws, k, ?_, r.mono s⟩
    rw [e]
    exact h
theorem CellR.some {W : Wd} {ι : Ix} {H : Hp} {a : Addr} {c : Cell} (x : CellR W ι H a c) : ∃ o, H a = some o ∧ (∀ xs, o ≠ .tup xs) ∧ (∀ y z, o ≠ .frz y (.lst z)) ∧ ∀ ps, o ≠ .tbl ps := by
  cases c with
  | lst ds =>
    obtain ⟨p, vs, h, r⟩ := x
    exact ⟨_, h, fun _ z => by (cases z), fun _ _ z => by (cases z), fun _ z => by (cases z)⟩
  | ins c fs =>
    obtain ⟨p, dx, vs, h, l, r⟩ := x
    exact ⟨_, h, fun _ z => by (cases z), fun _ _ z => by (cases z), fun _ z => by (cases z)⟩
  | dct lk kvs =>
    obtain ⟨p, ws, k, h, r⟩ := x
    cases lk with
    | true =>
      obtain ⟨o, h⟩ := h
      exact ⟨_, h, fun _ z => by (cases z), fun _ _ z => by (cases z), fun _ z => by (cases z)⟩
    | false => exact ⟨_, h, fun _ z => by (cases z), fun _ _ z => by (cases z), fun _ z => by (cases z)⟩
theorem Sm.get {W : Wd} {ι : Ix} {H : Hp} {h : MH} {i : Nat} {c : Cell} (s : Sm W ι H h) (e : h[i]? = some c) : ∃ a, ι.c[i]? = some a ∧ CellR W ι H a c := by
  have hl : i < h.length := by
    rcases Nat.lt_or_ge i h.length with q | q
    · exact q
    · rw [List.getElem?_eq_none q] at e; cases e
  obtain ⟨a, ha⟩ : ∃ a, ι.c[i]? = some a := ⟨_, List.getElem?_eq_getElem (by rw [s.len]; exact hl)⟩
  exact ⟨a, ha, s.cell i c a e ha⟩
theorem Sm.at {W : Wd} {ι : Ix} {H : Hp} {h : MH} {a : Addr} (s : Sm W ι H h) (m : a ∈ ι.c) : ∃ o, H a = some o := by
  obtain ⟨i, hi⟩ := List.getElem?_of_mem m
  have hl : i < ι.c.length := by
    rcases Nat.lt_or_ge i ι.c.length with q | q
    · exact q
    · rw [List.getElem?_eq_none q] at hi; cases hi
  obtain ⟨o, ho, _⟩ := (s.cell i (h[i]'(by rw [← s.len]; exact hl)) a (List.getElem?_eq_getElem _) hi).some
  exact ⟨o, ho⟩
theorem Sm.fresh {W : Wd} {ι : Ix} {H : Hp} {h : MH} {p : Addr} (s : Sm W ι H h) (n : H p = none) : p ∉ ι.c := fun m => by
  obtain ⟨o, e⟩ := s.at m
  rw [n] at e
  cases e
theorem Sm.freshX {W : Wd} {ι : Ix} {H : Hp} {h : MH} {p : Addr} (s : Sm W ι H h) (n : H p = none) : p ∉ ι.x := fun m => by
  obtain ⟨_, o, e, _⟩ := s.exs p m
  rw [n] at e
  cases e
theorem Sm.exsStep {W : Wd} {ι ι' : Ix} {H H' : Hp} {h : MH} (s : Sm W ι H h) (st : Step ι H ι' H') (hx : ι'.x = ι.x) : ∀ a ∈ ι'.x, a ∉ ι'.c ∧ ∃ o, H' a = some o ∧ ∀ ps, o ≠ .tbl ps := fun a m => by
  rw [hx] at m
  obtain ⟨n, o, e, t⟩ := s.exs a m
  refine ⟨fun q => ?_, o, st.keep a o n e t, t⟩
  rw [st.new a q n] at e
  cases e
theorem Sm.lay {W : Wd} {ι : Ix} {H : Hp} {h : MH} {p : Addr} {o : HO} (s : Sm W ι H h) (n : H p = none) : Sm W ι (upd H p o) h :=
  ⟨s.nd, s.len, fun i c a e ha => by
    have x := s.cell i c a e ha
    obtain ⟨u, hu, _⟩ := x.some
    exact x.mono (Step.lay n) (upd_ne (ne_of_none hu n)), s.exsStep (Step.lay n) rfl⟩
theorem Sm.cellNew {W : Wd} {ι : Ix} {H : Hp} {h : MH} {p : Addr} {o : HO} {c : Cell} (s : Sm W ι H h) (n : H p = none) (x : CellR W (ι.app p) (upd H p o) p c) : Sm W (ι.app p) (upd H p o) (h ++ [c]) :=
  ⟨List.nodup_append.mpr ⟨s.nd, by simp, fun a m b hb z => by
      rw [List.mem_singleton] at hb
      subst hb; subst z
      exact s.fresh n m⟩,
   by show (ι.c ++ [p]).length = _; simp [s.len], fun i k a e ha => by
    have hl := s.len
    have ha : (ι.c ++ [p])[i]? = some a := ha
    by_cases q : i < h.length
    · rw [List.getElem?_append_left q] at e
      rw [List.getElem?_append_left (by omega)] at ha
      have y := s.cell i k a e ha
      obtain ⟨u, hu, _⟩ := y.some
      exact y.mono (Step.cell n) (upd_ne (ne_of_none hu n))
    · rw [List.getElem?_append_right (by omega)] at e ha
      have z : i - h.length = 0 := by
        rcases Nat.eq_zero_or_pos (i - h.length) with z | z
        · exact z
        · rw [List.getElem?_eq_none (by simp only [List.length_singleton]; omega)] at e; cases e
      rw [z] at e
      rw [hl, z] at ha
      cases e
      cases ha
      exact x, s.exsStep (Step.cell n) rfl⟩
theorem Sm.put {W : Wd} {ι : Ix} {H : Hp} {h : MH} {i : Nat} {a : Addr} {o : HO} {c : Cell} (s : Sm W ι H h) (ha : ι.c[i]? = some a) (st : Step ι H ι (upd H a o)) (x : CellR W ι (upd H a o) a c) : Sm W ι (upd H a o) (h.set i c) :=
  ⟨s.nd, by simp [s.len], fun j k b e hb => by
    by_cases q : i = j
    · subst q
      rw [ha] at hb
      cases hb
      have hl : i < h.length := by
        rcases Nat.lt_or_ge i h.length with q | q
        · exact q
        · rw [List.getElem?_eq_none (by simpa using q)] at e; cases e
      rw [List.getElem?_set_self hl] at e
      cases e
      exact x
    · rw [List.getElem?_set_ne q] at e
      have hne : b ≠ a := fun z => by
        subst z
        have h1 : i < ι.c.length := by
          rcases Nat.lt_or_ge i ι.c.length with r | r
          · exact r
          · rw [List.getElem?_eq_none r] at ha; cases ha
        have h2 : j < ι.c.length := by
          rcases Nat.lt_or_ge j ι.c.length with r | r
          · exact r
          · rw [List.getElem?_eq_none r] at hb; cases hb
        rw [List.getElem?_eq_getElem h1] at ha
        rw [List.getElem?_eq_getElem h2] at hb
        have eq := (Option.some.inj ha).trans (Option.some.inj hb).symm
        have pw := List.pairwise_iff_getElem.mp s.nd
        rcases Nat.lt_or_gt_of_ne q with r | r
        · exact pw i j h1 h2 r eq
        · exact pw j i h2 h1 r eq.symm
      exact (s.cell j k b e hb).mono st (upd_ne hne), s.exsStep st rfl⟩

/-! ### without cells -/
mutual
theorem Rep.less {W : Wd} {ι ι' : Ix} {H : Hp} (sub : ∀ a, a ∈ ι'.c → a ∈ ι.c) (ex : ∀ a, a ∈ ι'.x → a ∈ ι.x) : ∀ {d : D} {v : V}, plain d = true → Rep W ι H d v → Rep W ι' H d v
  | _, _, _, .non => .non
  | _, _, _, .bl b => .bl b
  | _, _, _, .int i => .int i
  | _, _, _, .str x => .str x
  | .tup ds, _, p, .tup h r => .tup h (Reps.less sub ex (by simpa [plain] using p) r)
  | .lst ds, _, p, .lst h n n2 r => .lst h (fun m => n (sub _ m)) (fun m => n2 (ex _ m)) (Reps.less sub ex (by simpa [plain] using p) r)
  | _, _, _, .scr h => .scr h
  | _, _, _, .cd h => .cd h
  | .obj c fs, _, p, .obj h n n2 l r => .obj h (fun m => n (sub _ m)) (fun m => n2 (ex _ m)) l (Reps.less sub ex (by simpa [plain] using p) r)
  | .ref i, _, p, .ref _ => by simp [plain] at p
theorem Reps.less {W : Wd} {ι ι' : Ix} {H : Hp} (sub : ∀ a, a ∈ ι'.c → a ∈ ι.c) (ex : ∀ a, a ∈ ι'.x → a ∈ ι.x) : ∀ {ds : List D} {vs : List V}, plains ds = true → Reps W ι H ds vs → Reps W ι' H ds vs
  | _, _, _, .nil => .nil
  | d :: ds, _, p, .cons r t => by
    simp only [plains, Bool.and_eq_true] at p
    exact .cons (Rep.less sub ex p.1 r) (Reps.less sub ex p.2 t)
end
theorem CellR.less {W : Wd} {ι ι' : Ix} {H : Hp} {a : Addr} {c : Cell} (sub : ∀ a, a ∈ ι'.c → a ∈ ι.c) (ex : ∀ a, a ∈ ι'.x → a ∈ ι.x) (x : CellR W ι H a c) : CellR W ι' H a c := by
  cases c with
  | lst ds =>
    obtain ⟨p, vs, h, r⟩ := x
    exact ⟨p, vs, h, r.less sub ex p⟩
  | ins c fs =>
    obtain ⟨p, dx, vs, h, l, r⟩ := x
    exact ⟨p, dx, vs, h, l, r.less sub ex p⟩
  | dct lk kvs =>
    obtain ⟨p, ws, k, h, r⟩ := x
    exact ⟨p, ws, k, h, r.less sub ex p⟩
theorem Sm.take {W : Wd} {ι : Ix} {H : Hp} {h : MH} (s : Sm W ι H h) (n : Nat) : Sm W (ι.tk n) H (h.take n) :=
  ⟨s.nd.sublist (List.take_sublist _ _), by show (ι.c.take n).length = _; simp [s.len], fun i c a e ha => by
    have ha : (ι.c.take n)[i]? = some a := ha
    have hi : i < n := by
      rcases Nat.lt_or_ge i n with q | q
      · exact q
      · rw [List.getElem?_eq_none (by rw [List.length_take]; omega)] at ha; cases ha
    rw [List.getElem?_take_of_lt hi] at e ha
    exact (s.cell i c a e ha).less (fun b hb => List.mem_of_mem_take hb) (fun _ h => h), fun a m => ⟨fun q => (s.exs a m).1 (List.mem_of_mem_take q), (s.exs a m).2⟩⟩

/-! ### somebody else's places -/
mutual
theorem Rep.fewer {W : Wd} {ι : Ix} {xs : List Addr} {H : Hp} (sub : ∀ a, a ∈ xs → a ∈ ι.x) : ∀ {d : D} {v : V}, Rep W ι H d v → Rep W ⟨ι.c, xs⟩ H d v
  | _, _, .non => .non
  | _, _, .bl b => .bl b
  | _, _, .int i => .int i
  | _, _, .str x => .str x
  | _, _, .tup h r => .tup h (Reps.fewer sub r)
  | _, _, .lst h n n2 r => .lst h n (fun m => n2 (sub _ m)) (Reps.fewer sub r)
  | _, _, .scr h => .scr h
  | _, _, .cd h => .cd h
  | _, _, .obj h n n2 l r => .obj h n (fun m => n2 (sub _ m)) l (Reps.fewer sub r)
  | _, _, .ref h => .ref h
theorem Reps.fewer {W : Wd} {ι : Ix} {xs : List Addr} {H : Hp} (sub : ∀ a, a ∈ xs → a ∈ ι.x) : ∀ {ds : List D} {vs : List V}, Reps W ι H ds vs → Reps W ⟨ι.c, xs⟩ H ds vs
  | _, _, .nil => .nil
  | _, _, .cons r t => .cons (Rep.fewer sub r) (Reps.fewer sub t)
end
/-! a place of somebody else's becomes a cell -/
mutual
theorem Rep.movex {W : Wd} {ι : Ix} {xs : List Addr} {H : Hp} {p : Addr} (m : p ∈ ι.x) (sub : ∀ a, a ∈ xs → a ∈ ι.x) : ∀ {d : D} {v : V}, Rep W ι H d v → Rep W ⟨ι.c ++ [p], xs⟩ H d v
  | _, _, .non => .non
  | _, _, .bl b => .bl b
  | _, _, .int i => .int i
  | _, _, .str x => .str x
  | _, _, .tup h r => .tup h (Reps.movex m sub r)
  | _, _, .lst h n n2 r => .lst h (fun z => (List.mem_append.mp z).elim n fun z => n2 (by rw [List.mem_singleton.mp z]; exact m)) (fun m => n2 (sub _ m)) (Reps.movex m sub r)
  | _, _, .scr h => .scr h
  | _, _, .cd h => .cd h
  | _, _, .obj h n n2 l r => .obj h (fun z => (List.mem_append.mp z).elim n fun z => n2 (by rw [List.mem_singleton.mp z]; exact m)) (fun m => n2 (sub _ m)) l (Reps.movex m sub r)
  | _, _, .ref (i := i) h => .ref (by
    have hl : i < ι.c.length := by
      rcases Nat.lt_or_ge i ι.c.length with q | q
      · exact q
      · rw [List.getElem?_eq_none q] at h; cases h
    show (ι.c ++ [p])[i]? = _
    rw [List.getElem?_append_left hl]; exact h)
theorem Reps.movex {W : Wd} {ι : Ix} {xs : List Addr} {H : Hp} {p : Addr} (m : p ∈ ι.x) (sub : ∀ a, a ∈ xs → a ∈ ι.x) : ∀ {ds : List D} {vs : List V}, Reps W ι H ds vs → Reps W ⟨ι.c ++ [p], xs⟩ H ds vs
  | _, _, .nil => .nil
  | _, _, .cons r t => .cons (Rep.movex m sub r) (Reps.movex m sub t)
end
theorem CellR.movex {W : Wd} {ι : Ix} {xs : List Addr} {H : Hp} {p a : Addr} {c : Cell} (m : p ∈ ι.x) (sub : ∀ a, a ∈ xs → a ∈ ι.x) (x : CellR W ι H a c) : CellR W ⟨ι.c ++ [p], xs⟩ H a c := by
  cases c with
  | lst ds =>
    obtain ⟨q, vs, h, r⟩ := x
    exact ⟨q, vs, h, r.movex m sub⟩
  | ins c fs =>
    obtain ⟨q, dx, vs, h, l, r⟩ := x
    exact ⟨q, dx, vs, h, l, r.movex m sub⟩
  | dct lk kvs =>
    obtain ⟨q, ws, k, h, r⟩ := x
    exact ⟨q, ws, k, h, r.movex m sub⟩
theorem Sm.movex {W : Wd} {ι : Ix} {xs : List Addr} {H : Hp} {h : MH} {p : Addr} {c : Cell} (s : Sm W ι H h) (m : p ∈ ι.x) (np : p ∉ xs) (sub : ∀ a, a ∈ xs → a ∈ ι.x) (x : CellR W ⟨ι.c ++ [p], xs⟩ H p c) : Sm W ⟨ι.c ++ [p], xs⟩ H (h ++ [c]) :=
  ⟨List.nodup_append.mpr ⟨s.nd, by simp, fun a ma b hb z => by
      rw [List.mem_singleton] at hb
      subst hb; subst z
      exact (s.exs _ m).1 ma⟩,
   by show (ι.c ++ [p]).length = _; simp [s.len], fun i k a e ha => by
    have hl := s.len
    have ha : (ι.c ++ [p])[i]? = some a := ha
    by_cases q : i < h.length
    · rw [List.getElem?_append_left q] at e
      rw [List.getElem?_append_left (by omega)] at ha
      exact (s.cell i k a e ha).movex m sub
    · rw [List.getElem?_append_right (by omega)] at e ha
      have z : i - h.length = 0 := by
        rcases Nat.eq_zero_or_pos (i - h.length) with z | z
        · exact z
        · rw [List.getElem?_eq_none (by simp only [List.length_singleton]; omega)] at e; cases e
      rw [z] at e
      rw [hl, z] at ha
      cases e
      cases ha
      exact x, fun a ma => by
    obtain ⟨n, o⟩ := s.exs a (sub a ma)
    exact ⟨fun z => (List.mem_append.mp z).elim n fun z => np (by rw [← List.mem_singleton.mp z]; exact ma), o⟩⟩
theorem CellR.fewer {W : Wd} {ι : Ix} {xs : List Addr} {H : Hp} {a : Addr} {c : Cell} (sub : ∀ a, a ∈ xs → a ∈ ι.x) (x : CellR W ι H a c) : CellR W ⟨ι.c, xs⟩ H a c := by
  cases c with
  | lst ds =>
    obtain ⟨p, vs, h, r⟩ := x
    exact ⟨p, vs, h, r.fewer sub⟩
  | ins c fs =>
    obtain ⟨p, dx, vs, h, l, r⟩ := x
    exact ⟨p, dx, vs, h, l, r.fewer sub⟩
  | dct lk kvs =>
    obtain ⟨p, ws, k, h, r⟩ := x
    exact ⟨p, ws, k, h, r.fewer sub⟩
theorem Sm.fewer {W : Wd} {ι : Ix} {xs : List Addr} {H : Hp} {h : MH} (s : Sm W ι H h) (sub : ∀ a, a ∈ xs → a ∈ ι.x) : Sm W ⟨ι.c, xs⟩ H h :=
  ⟨s.nd, s.len, fun i c a e ha => (s.cell i c a e ha).fewer sub, fun a m => s.exs a (sub a m)⟩
mutual
theorem Rep.putx {W : Wd} {ι : Ix} {H : Hp} {p : Addr} {us : List V} {o : HO} (m : p ∈ ι.x) (e : H p = some (.lst us)) : ∀ {d : D} {v : V}, Rep W ι H d v → Rep W ι (upd H p o) d v
  | _, _, .non => .non
  | _, _, .bl b => .bl b
  | _, _, .int i => .int i
  | _, _, .str x => .str x
  | _, _, .tup h r => .tup (by rw [upd_ne (ne_of h e (fun z => by cases z))]; exact h) (Reps.putx m e r)
  | _, _, .lst h n n2 r => .lst (by rw [upd_ne (fun z => n2 (by rw [z]; exact m))]; exact h) n n2 (Reps.putx m e r)
  | _, _, .cd h => .cd h
  | _, _, .scr h => .scr (by rw [upd_ne (ne_of h e (fun z => by cases z))]; exact h)
  | _, _, .obj h n n2 l r => .obj (by rw [upd_ne (fun z => n2 (by rw [z]; exact m))]; exact h) n n2 l (Reps.putx m e r)
  | _, _, .ref h => .ref h
theorem Reps.putx {W : Wd} {ι : Ix} {H : Hp} {p : Addr} {us : List V} {o : HO} (m : p ∈ ι.x) (e : H p = some (.lst us)) : ∀ {ds : List D} {vs : List V}, Reps W ι H ds vs → Reps W ι (upd H p o) ds vs
  | _, _, .nil => .nil
  | _, _, .cons r t => .cons (Rep.putx m e r) (Reps.putx m e t)
end
theorem Sm.putx {W : Wd} {ι : Ix} {H : Hp} {h : MH} {p : Addr} {us ys : List V} (s : Sm W ι H h) (m : p ∈ ι.x) (e : H p = some (.lst us)) : Sm W ι (upd H p (.lst ys)) h :=
  ⟨s.nd, s.len, fun i c a ec ha => by
    have hne : a ≠ p := fun z => (s.exs p m).1 (by rw [← z]; exact List.mem_of_getElem? ha)
    have x := s.cell i c a ec ha
    cases c with
    | lst ds =>
      obtain ⟨q, vs, h, r⟩ := x
      exact ⟨q, vs, by rw [upd_ne hne]; exact h, r.putx m e⟩
    | ins c fs =>
      obtain ⟨q, dx, vs, h, l, r⟩ := x
      exact ⟨q, dx, vs, by rw [upd_ne hne]; exact h, l, r.putx m e⟩
    | dct lk kvs =>
      obtain ⟨q, ws, k, h, r⟩ := x
      exact ⟨q, ws, k, by rw [upd_ne hne]; exact h, r.putx m e⟩, fun a ma => by
    obtain ⟨n, o, h1, h2⟩ := s.exs a ma
    refine ⟨n, ?_⟩
    by_cases z : a = p
    · subst z
      exact ⟨_, upd_same, fun ps q => by cases q⟩
    · exact ⟨o, by rw [upd_ne z]; exact h1, h2⟩⟩
/-- a place that was free at the start may change -/
theorem Step.after {ι ι' : Ix} {H H' : Hp} {p : Addr} {o : HO} (s : Step ι H ι' H') (n : H p = none) : Step ι H ι' (upd H' p o) where
  ex := s.ex
  newx := s.newx
  pre := s.pre
  tups := fun a xs h => by rw [upd_ne (ne_of_none h n)]; exact s.tups a xs h
  frzs := fun a x u h => by rw [upd_ne (ne_of_none h n)]; exact s.frzs a x u h
  tbls := fun a ps h => by
    obtain ⟨m, q⟩ := s.tbls a ps h
    exact ⟨m, by rw [upd_ne (ne_of_none h n)]; exact q⟩
  keep := fun a u c h t => by rw [upd_ne (ne_of_none h n)]; exact s.keep a u c h t
  new := s.new
theorem Step.less {ι ι' : Ix} {H H' : Hp} (s : Step ι H ι' H') : Step ι H ⟨ι'.c, ι.x⟩ H' where
  ex := fun _ h => h
  newx := fun a h n _ => absurd h n
  pre := s.pre
  tups := s.tups
  frzs := s.frzs
  tbls := s.tbls
  keep := s.keep
  new := s.new
theorem Step.movex {ι ι' : Ix} {H H' : Hp} {p : Addr} (s : Step ι H ι' H') (n : H p = none) : Step ι H ⟨ι'.c ++ [p], ι.x⟩ H' where
  ex := fun _ h => h
  newx := fun a h n _ => absurd h n
  pre := fun i a h => by
    have h' := s.pre i a h
    have hl : i < ι'.c.length := by
      rcases Nat.lt_or_ge i ι'.c.length with q | q
      · exact q
      · rw [List.getElem?_eq_none q] at h'; cases h'
    show (ι'.c ++ [p])[i]? = _
    rw [List.getElem?_append_left hl]; exact h'
  tups := s.tups
  frzs := s.frzs
  tbls := s.tbls
  keep := s.keep
  new := fun a h m => by
    rcases List.mem_append.mp h with q | q
    · exact s.new a q m
    · rw [List.mem_singleton.mp q]; exact n
/-- a new place of somebody else's -/
theorem Step.layx {ι : Ix} {H : Hp} {p : Addr} {o : HO} (n : H p = none) : Step ι H ⟨ι.c, p :: ι.x⟩ (upd H p o) where
  ex := fun _ h => List.mem_cons_of_mem _ h
  newx := fun a h m _ => by
    rcases List.mem_cons.mp h with z | z
    · rw [z]; exact n
    · exact absurd z m
  pre := fun _ _ h => h
  tups := fun a xs h => by rw [upd_ne (ne_of_none h n)]; exact h
  frzs := fun a u x h => by rw [upd_ne (ne_of_none h n)]; exact h
  tbls := fun a ps h => ⟨#[], by rw [upd_ne (ne_of_none h n)]; simpa using h⟩
  keep := fun a u _ h _ => by rw [upd_ne (ne_of_none h n)]; exact h
  new := fun a h m => absurd h m
theorem Sm.layx {W : Wd} {ι : Ix} {H : Hp} {h : MH} {p : Addr} {us : List V} (s : Sm W ι H h) (n : H p = none) : Sm W ⟨ι.c, p :: ι.x⟩ (upd H p (.lst us)) h :=
  ⟨s.nd, s.len, fun i c a e ha => by
    have x := s.cell i c a e ha
    obtain ⟨u, hu, _⟩ := x.some
    exact x.mono (Step.layx n) (upd_ne (ne_of_none hu n)), fun a m => by
    rcases List.mem_cons.mp m with z | z
    · subst z
      exact ⟨s.fresh n, _, upd_same, fun ps q => by cases q⟩
    · obtain ⟨k, o, h1, h2⟩ := s.exs a z
      exact ⟨k, o, by rw [upd_ne (ne_of_none h1 n)]; exact h1, h2⟩⟩

/-! ### the env -/
def EnvR (W : Wd) (ι : Ix) (H : Hp) (σ : L2.St) (env : Env) : Prop :=
  σ.length = env.length ∧ ∀ (i : Nat) (d : D), env[i]? = some (some d) → ∃ v, σ[i]? = some (some v) ∧ Rep W ι H d v
theorem EnvR.mono {W : Wd} {ι ι' : Ix} {H H' : Hp} {σ : L2.St} {env : Env} (s : Step ι H ι' H') (e : EnvR W ι H σ env) : EnvR W ι' H' σ env :=
  ⟨e.1, fun i d h => by
    obtain ⟨v, hv, r⟩ := e.2 i d h
    exact ⟨v, hv, r.mono s⟩⟩
theorem EnvR.set {W : Wd} {ι : Ix} {H : Hp} {σ : L2.St} {env : Env} {i : Nat} {d : D} {v : V} (e : EnvR W ι H σ env) (r : Rep W ι H d v) : EnvR W ι H (σ.set i (some v)) (env.set i (some d)) :=
  ⟨by simp [e.1], fun j d' h => by
    by_cases q : i = j
    · subst q
      have hl : i < env.length := by
        rcases Nat.lt_or_ge i env.length with z | z
        · exact z
        · rw [List.getElem?_eq_none (by simpa using z)] at h; cases h
      rw [List.getElem?_set_self hl] at h
      cases h
      exact ⟨v, List.getElem?_set_self (by rw [e.1]; exact hl), r⟩
    · rw [List.getElem?_set_ne q] at h ⊢
      exact e.2 j d' h⟩
theorem EnvR.wipe1 {W : Wd} {ι : Ix} {H : Hp} {σ : L2.St} {env : Env} {i : Nat} (e : EnvR W ι H σ env) : EnvR W ι H (σ.set i none) (env.set i none) :=
  ⟨by simp [e.1], fun j d' h => by
    by_cases q : i = j
    · subst q
      have hl : i < env.length := by
        rcases Nat.lt_or_ge i env.length with z | z
        · exact z
        · rw [List.getElem?_eq_none (by simpa using z)] at h; cases h
      rw [List.getElem?_set_self hl] at h
      cases h
    · rw [List.getElem?_set_ne q] at h ⊢
      exact e.2 j d' h⟩
theorem EnvR.wipe {W : Wd} {ι : Ix} {H : Hp} {σ : L2.St} {env : Env} (e : EnvR W ι H σ env) : ∀ vs : List Nat, EnvR W ι H (L2.wipe σ vs) (wipeE env vs)
  | [] => e
  | v :: vs => (EnvR.wipe e vs).wipe1

/-! ### a lock is taken away -/
mutual
theorem Rep.unfz {W : Wd} {ι : Ix} {H : Hp} {p : Addr} {od : Obj} {ws : List (List L2.Key × V)} {o : HO} (e : H p = some (.frz od (.dT ws))) : ∀ {d : D} {v : V}, Rep W ι H d v → Rep W ι (upd H p o) d v
  | _, _, .non => .non
  | _, _, .bl b => .bl b
  | _, _, .int i => .int i
  | _, _, .str x => .str x
  | _, _, .tup h r => .tup (by rw [upd_ne (ne_of h e (fun z => by cases z))]; exact h) (Reps.unfz e r)
  | _, _, .lst h n n2 r => .lst (by rw [upd_ne (ne_of h e (fun z => by cases z))]; exact h) n n2 (Reps.unfz e r)
  | _, _, .cd h => .cd h
  | _, _, .scr h => .scr (by rw [upd_ne (ne_of h e (fun z => by cases z))]; exact h)
  | _, _, .obj h n n2 l r => .obj (by rw [upd_ne (ne_of h e (fun z => by cases z))]; exact h) n n2 l (Reps.unfz e r)
  | _, _, .ref h => .ref h
theorem Reps.unfz {W : Wd} {ι : Ix} {H : Hp} {p : Addr} {od : Obj} {ws : List (List L2.Key × V)} {o : HO} (e : H p = some (.frz od (.dT ws))) : ∀ {ds : List D} {vs : List V}, Reps W ι H ds vs → Reps W ι (upd H p o) ds vs
  | _, _, .nil => .nil
  | _, _, .cons r t => .cons (Rep.unfz e r) (Reps.unfz e t)
end
theorem nd_ne {l : List Addr} {i j : Nat} {a b : Addr} (nd : l.Nodup) (ha : l[i]? = some a) (hb : l[j]? = some b) (q : i ≠ j) : b ≠ a := fun z => by
  subst z
  have h1 : i < l.length := by
    rcases Nat.lt_or_ge i l.length with r | r
    · exact r
    · rw [List.getElem?_eq_none r] at ha; cases ha
  have h2 : j < l.length := by
    rcases Nat.lt_or_ge j l.length with r | r
    · exact r
    · rw [List.getElem?_eq_none r] at hb; cases hb
  rw [List.getElem?_eq_getElem h1] at ha
  rw [List.getElem?_eq_getElem h2] at hb
  have eq := (Option.some.inj ha).trans (Option.some.inj hb).symm
  have pw := List.pairwise_iff_getElem.mp nd
  rcases Nat.lt_or_gt_of_ne q with r | r
  · exact pw i j h1 h2 r eq
  · exact pw j i h2 h1 r eq.symm
theorem Sm.unfz {W : Wd} {ι : Ix} {H : Hp} {h : MH} {i : Nat} {a : Addr} {od : Obj} {ws : List (List L2.Key × V)} {kvs : List (List L2.Key × D)} (s : Sm W ι H h) (hi : ι.c[i]? = some a) (hc : h[i]? = some (.dct true kvs)) (e : H a = some (.frz od (.dT ws))) : Sm W ι (upd H a (.dT ws)) (h.set i (.dct false kvs)) :=
  ⟨s.nd, by simp [s.len], fun j c b ec hb => by
    by_cases q : i = j
    · subst q
      rw [hi] at hb
      cases hb
      have hl : i < h.length := by
        rcases Nat.lt_or_ge i h.length with q | q
        · exact q
        · rw [List.getElem?_eq_none q] at hc; cases hc
      rw [List.getElem?_set_self hl] at ec
      cases ec
      obtain ⟨p, ws', k, ⟨o, z⟩, r⟩ := s.cell i _ a hc hi
      rw [e] at z
      cases z
      exact ⟨p, ws, k, upd_same, r.unfz e⟩
    · rw [List.getElem?_set_ne q] at ec
      have hne := nd_ne s.nd hi hb q
      have x := s.cell j c b ec hb
      cases c with
      | lst ds =>
        obtain ⟨q, vs, h, r⟩ := x
        exact ⟨q, vs, by rw [upd_ne hne]; exact h, r.unfz e⟩
      | ins c fs =>
        obtain ⟨q, dx, vs, h, l, r⟩ := x
        exact ⟨q, dx, vs, by rw [upd_ne hne]; exact h, l, r.unfz e⟩
      | dct lk kvs =>
        obtain ⟨q, ws, k, h, r⟩ := x
        exact ⟨q, ws, k, by rw [upd_ne hne]; exact h, r.unfz e⟩, fun b mb => by
    obtain ⟨n, o, h1, h2⟩ := s.exs b mb
    exact ⟨n, o, by rw [upd_ne (fun z => n (by rw [z]; exact List.mem_of_getElem? hi))]; exact h1, h2⟩⟩
theorem Step.unlock {ι ι' : Ix} {H H' : Hp} {a : Addr} {od : Obj} {ws : List (List L2.Key × V)} (s : Step ι (upd H a (.frz od (.dT ws))) ι' H') (e : H a = some (.dT ws)) (m : a ∈ ι.c) : Step ι H ι' (upd H' a (.dT ws)) where
  ex := s.ex
  newx := fun b h n nc => by
    have := s.newx b h n nc
    rwa [upd_ne (fun z => nc (by rw [z]; exact m))] at this
  pre := s.pre
  tups := fun b xs h => by
    have hne : b ≠ a := ne_of h e (fun z => by cases z)
    rw [upd_ne hne]
    exact s.tups b xs (by rw [upd_ne hne]; exact h)
  frzs := fun b x y h => by
    have hne : b ≠ a := ne_of h e (fun z => by cases z)
    rw [upd_ne hne]
    exact s.frzs b x y (by rw [upd_ne hne]; exact h)
  tbls := fun b ps h => by
    have hne : b ≠ a := ne_of h e (fun z => by cases z)
    rw [upd_ne hne]
    exact s.tbls b ps (by rw [upd_ne hne]; exact h)
  keep := fun b x n h t => by
    have hne : b ≠ a := fun z => n (by rw [z]; exact m)
    rw [upd_ne hne]
    exact s.keep b x n (by rw [upd_ne hne]; exact h) t
  new := fun b h n => by
    have := s.new b h n
    rwa [upd_ne (fun z => n (by rw [z]; exact m))] at this

/-! ### what is wanted behind an evaluation -/
/-- an exception: its class, its own dict -/
def RepX (W : Wd) (ι : Ix) (H : Hp) (e : D) (cls : Value) (d : Option Addr) : Prop := match e with
  | .exc c fs => cls = .ref (W.ca c) ∧ match d with
    | none => fs = []
    | some d => d ∉ ι.c ∧ d ∉ ι.x ∧ ∃ vs, H d = some (.xd ((W.cf c).zip vs)) ∧ fs.length = (W.cf c).length ∧ Reps W ι H fs vs
  | _ => False
def Post {α β : Type} (W : Wd) (Rel : Ix → Hp → α → β → Prop) (ι : Ix) (H : Hp) (r : R α) (Q : β → Hp → Prop) (E : XK) : Prop := match r with
  | .ok a h => ∀ ι' H' b, Step ι H ι' H' → Sm W ι' H' h → Rel ι' H' a b → Q b H'
  | .exn e h => ∀ ι' H' cls d, Step ι H ι' H' → Sm W ι' H' h → RepX W ι' H' e cls d → E cls d H'
  | .bad => False
/-- the reading of what evaluates to values (Rel: Rep, Reps, ..) -/
def rd {α β : Type} (W : Wd) (WE : WX) (Rel : Ix → Hp → α → β → Prop) (f : Env → M α) : L2.St → Hp → (β → Hp → Prop) → Prop := fun σ H Q =>
  ∃ ι env h, Sm W ι H h ∧ EnvR W ι H σ env ∧ Post W Rel ι H (f env h) Q fun c d H' => WE c d σ H'
abbrev rdE (W : Wd) (WE : WX) (f : Env → M D) : TE := rd W WE (Rep W) f
abbrev rdL (W : Wd) (WE : WX) (f : Env → M (List D)) : TA := rd W WE (Reps W) f
abbrev rdT (W : Wd) (WE : WX) (f : Env → M Bool) : TT := rd W WE (fun _ _ a b => a = b) f
theorem Post.base {α β : Type} {W : Wd} {Rel : Ix → Hp → α → β → Prop} {ι ι1 : Ix} {H H1 : Hp} {r : R α} {Q : β → Hp → Prop} {E : XK} (s : Step ι H ι1 H1) (p : Post W Rel ι H r Q E) : Post W Rel ι1 H1 r Q E := by
  cases r with
  | ok a h => exact fun ι' H' b s' m x => p ι' H' b (s.trans s') m x
  | exn e h => exact fun ι' H' c d s' m x => p ι' H' c d (s.trans s') m x
  | bad => exact p
/-- at the end of an evaluation that changes nothing more -/
theorem Post.here {α β : Type} {W : Wd} {Rel : Ix → Hp → α → β → Prop} {ι : Ix} {H : Hp} {a : α} {b : β} {h : MH} {Q : β → Hp → Prop} {E : XK} (p : Post W Rel ι H (.ok a h) Q E) (m : Sm W ι H h) (x : Rel ι H a b) : Q b H := p ι H b (Step.refl ι H) m x
/-- one evaluation behind another -/
theorem rd_bnd {α β γ δ : Type} {W : Wd} {WE : WX} {R1 : Ix → Hp → α → β → Prop} {R2 : Ix → Hp → γ → δ → Prop} {f : Env → M α} {k : α → Env → M γ} {σ : L2.St} {H : Hp} {Q : δ → Hp → Prop}
    (h : rd W WE R2 (fun env => bnd (f env) fun a => k a env) σ H Q) {P : β → Hp → Prop}
    (hp : ∀ ι env a b H1 h1, Sm W ι H1 h1 → EnvR W ι H1 σ env → R1 ι H1 a b → Post W R2 ι H1 (k a env h1) Q (fun c d H' => WE c d σ H') → P b H1) : rd W WE R1 f σ H P := by
  obtain ⟨ι, env, h0, m, e, p⟩ := h
  refine ⟨ι, env, h0, m, e, ?_⟩
  show Post W R1 ι H (f env h0) P _
  have p : Post W R2 ι H ((f env h0).bnd fun a => k a env) Q (fun c d H' => WE c d σ H') := p
  cases q : f env h0 with
  | ok a h1 =>
    rw [q] at p
    exact fun ι' H' b s' m' x => hp ι' env a b H' h1 m' (e.mono s') x (Post.base s' p)
  | exn x h1 => rw [q] at p; exact p
  | bad => rw [q] at p; exact p
theorem rd_imp {α β : Type} {W : Wd} {WE : WX} {Rel : Ix → Hp → α → β → Prop} {f : Env → M α} {σ : L2.St} {H : Hp} {Q P : β → Hp → Prop} (h : rd W WE Rel f σ H Q) (i : ∀ b H', Q b H' → P b H') : rd W WE Rel f σ H P := by
  obtain ⟨ι, env, h0, m, e, p⟩ := h
  refine ⟨ι, env, h0, m, e, ?_⟩
  cases q : f env h0 with
  | ok a h1 => rw [q] at p; exact fun ι' H' b s m' x => i _ _ (p ι' H' b s m' x)
  | exn x h1 => rw [q] at p; exact p
  | bad => rw [q] at p; exact p
end Mn

/-! Mn: the operations on values keep what the layer says. -/
namespace Mn
open PySem L2

def PostQ (W : Wd) (ι : Ix) (H : Hp) (r : R D) (Q : VK) : Prop := Post W (Rep W) ι H r Q fun _ _ _ => True
def rV2 (W : Wd) (op : D → D → M D) : R2 := fun x y H Q => ∃ ι h d1 d2, Sm W ι H h ∧ Rep W ι H d1 x ∧ Rep W ι H d2 y ∧ PostQ W ι H (op d1 d2 h) Q
def rV1 (W : Wd) (op : D → M D) : V → Hp → VK → Prop := fun x H Q => ∃ ι h d1, Sm W ι H h ∧ Rep W ι H d1 x ∧ PostQ W ι H (op d1 h) Q
def rVN (W : Wd) (op : List D → M D) : List V → Hp → VK → Prop := fun xs H Q => ∃ ι h ds, Sm W ι H h ∧ Reps W ι H ds xs ∧ PostQ W ι H (op ds h) Q
section
variable {W : Wd} {X : Cx} {ι : Ix} {H : Hp} {h : MH}
theorem postQ_here {d : D} {v : V} {Q : VK} (p : PostQ W ι H (.ok d h) Q) (m : Sm W ι H h) (r : Rep W ι H d v) : Q v H := p ι H v (Step.refl ι H) m r
theorem postQ_lay {d : D} {q : Addr} {o : HO} {Q : VK} (p : PostQ W ι H (.ok d h) Q) (m : Sm W ι H h) (n : H q = none) (r : Rep W ι (upd H q o) d (.ref q)) : Q (.ref q) (upd H q o) := p ι (upd H q o) (.ref q) (Step.lay n) (m.lay n) r
theorem rep_tup {q : Addr} {ds : List D} {vs : List V} (n : H q = none) (r : Reps W ι H ds vs) : Rep W ι (upd H q (.tup vs)) (.tup ds) (.ref q) := .tup upd_same (r.mono (Step.lay n))
theorem rep_lst {q : Addr} {ds : List D} {vs : List V} (m : Sm W ι H h) (n : H q = none) (r : Reps W ι H ds vs) : Rep W ι (upd H q (.lst vs)) (.lst ds) (.ref q) := .lst upd_same (m.fresh n) (m.freshX n) (r.mono (Step.lay n))
/-- a list: frozen or a cell's -/
theorem lItems_rep {d : D} {v : V} {xs : List D} (m : Sm W ι H h) (r : Rep W ι H d v) (e : lItems d h = some xs) : ∃ a vs, v = .ref a ∧ H a = some (.lst vs) ∧ Reps W ι H xs vs := by
  cases r with
  | lst hl n n2 r => cases e; exact ⟨_, _, rfl, hl, r⟩
  | ref hi =>
    rename_i i a
    unfold lItems at e
    simp only at e
    split at e
    · rename_i ys hc
      cases e
      obtain ⟨a', ha, c⟩ := m.get hc
      rw [hi] at ha
      cases ha
      obtain ⟨_, vs, h1, h2⟩ := c
      exact ⟨a, vs, rfl, h1, h2⟩
    · cases e
  | _ => cases e
theorem items_rep {d : D} {v : V} {xs : List D} (m : Sm W ι H h) (r : Rep W ι H d v) (e : items d h = some xs) : ∃ a vs, v = .ref a ∧ (SqL W.K H a vs ∨ H a = some (.tup vs)) ∧ Reps W ι H xs vs := by
  cases d with
  | tup ys =>
    cases e
    cases r with
    | tup hs r => exact ⟨_, _, rfl, .inr hs, r⟩
  | _ =>
    obtain ⟨a, vs, e1, e2, e3⟩ := lItems_rep m r e
    exact ⟨a, vs, e1, .inl (SqL.of e2), e3⟩
theorem big_mul {i j : Int} (h1 : i.natAbs < BIG) (h2 : j.natAbs < BIG) : CMulX i j := mulx_ok h1 h2 (by decide)
theorem big_div {i j : Int} (h1 : 0 < j) (h2 : j.natAbs < BIGD) : CDivW i j := wide_div h1 h2 (by decide) (by decide)
theorem SZ_eq : SZ = sizeLine := sizeLine_eq.symm

theorem op_addD (hK : X.K = W.K) : OpR X (binaryOp .Add) (rV2 W addD) := by
  intro pins s σ H x y v u Q I rx ry hh
  obtain ⟨ι, h, d1, d2, m, r1, r2, p⟩ := hh
  unfold addD at p
  split at p
  · cases r1; cases r2
    exact op_add pins s σ H _ _ v u Q I rx ry ⟨_, _, rfl, rfl, postQ_here p m (.int _)⟩
  · cases r1; cases r2
    split at p
    · rename_i hz
      exact op_add_str pins s σ H _ _ v u Q I rx ry ⟨_, _, rfl, rfl, by rw [← SZ_eq]; exact hz, postQ_here p m (.str _)⟩
    · exact p.elim
  · unfold cat2 at p
    split at p
    · rename_i hz
      cases r1 with
      | tup s1 q1 =>
        cases r2 with
        | tup s2 q2 =>
          refine op_catA pins s σ H _ _ v u Q I rx ry ⟨_, _, _, _, rfl, rfl, SqT.of s1, SqT.of s2, by rw [← SZ_eq, ← q1.length, ← q2.length]; exact hz, fun e => ?_, fun _ e => ?_, fun _ _ q hq => ?_⟩
          · subst e
            have : Reps W ι H _ _ := q1
            cases q1
            exact postQ_here p m (.tup s2 q2)
          · subst e
            cases q2
            rw [List.append_nil] at p
            exact postQ_here p m (.tup s1 q1)
          · exact postQ_lay p m hq (rep_tup hq (q1.append q2))
    · exact p.elim
  · split at p
    · rename_i xs ys e1 e2
      unfold cat2 at p
      split at p
      · rename_i hz
        obtain ⟨a, vs, rfl, h1, q1⟩ := lItems_rep m r1 e1
        obtain ⟨b, us, rfl, h2, q2⟩ := lItems_rep m r2 e2
        refine op_cat pins s σ H _ _ v u Q I rx ry ⟨_, _, _, _, rfl, rfl, h1, h2, by rw [← SZ_eq, ← q1.length, ← q2.length]; exact hz, fun q hq => ?_⟩
        exact postQ_lay p m hq (rep_lst m hq (q1.append q2))
      · exact p.elim
    · exact p.elim
theorem op_mulD (hK : X.K = W.K) : OpR X (binaryOp .Mult) (rV2 W mulD) := by
  intro pins s σ H x y v u Q I rx ry hh
  obtain ⟨ι, h, d1, d2, m, r1, r2, p⟩ := hh
  unfold mulD at p
  split at p
  · cases r1; cases r2
    split at p
    · rename_i hz
      exact op_mulX pins s σ H _ _ v u Q I rx ry ⟨_, _, rfl, rfl, big_mul hz.1 hz.2, postQ_here p m (.int _)⟩
    · exact p.elim
  · split at p
    · rename_i hz
      cases r2
      cases r1 with
      | tup s1 q1 =>
        have hl := q1.length
        refine op_repT pins s σ H _ _ v u Q I rx ry ⟨_, _, _, rfl, rfl, SqT.of s1, fun e => ?_, hz.2.1, hz.2.2.1, by rw [← hl]; exact hz.2.2.2, fun q hq => ?_⟩
        · subst e
          cases q1
          exact Bool.noConfusion hz.1
        · exact postQ_lay p m hq (rep_tup hq (q1.rep _))
    · exact p.elim
  · split at p
    · rename_i hz
      cases r2
      cases r1 with
      | lst s1 n1 n2 q1 =>
        have hl := q1.length
        have hR : RNG = 2 ^ 62 := rfl
        refine op_rep pins s σ H _ _ v u Q I rx ry ⟨_, _, _, rfl, rfl, s1, ?_, ?_, by rw [← SZ_eq, ← hl]; exact hz.2.2, fun q hq => ?_⟩
        · have := hz.1
          rw [hR] at this
          have e1 : (2 : Int) ^ 62 = 4611686018427387904 := by decide
          have e2 : (2 : Int) ^ 63 = 9223372036854775808 := by decide
          omega
        · have := hz.2.1
          rw [hR] at this
          have e1 : (2 : Int) ^ 62 = 4611686018427387904 := by decide
          have e2 : (2 : Int) ^ 63 = 9223372036854775808 := by decide
          omega
        · exact postQ_lay p m hq (rep_lst m hq (q1.rep _))
    · exact p.elim
  · exact p.elim
theorem op_subD : OpR X (binaryOp .Sub) (rV2 W (binD .sub)) := by
  intro pins s σ H x y v u Q I rx ry hh
  obtain ⟨ι, h, d1, d2, m, r1, r2, p⟩ := hh
  unfold binD at p
  simp only at p
  split at p
  · cases r1; cases r2
    exact op_sub pins s σ H _ _ v u Q I rx ry ⟨_, _, rfl, rfl, postQ_here p m (.int _)⟩
  · exact p.elim
theorem op_fdvD : OpR X (binaryOp .FloorDiv) (rV2 W (binD .fdv)) := by
  intro pins s σ H x y v u Q I rx ry hh
  obtain ⟨ι, h, d1, d2, m, r1, r2, p⟩ := hh
  unfold binD at p
  simp only at p
  split at p
  · cases r1; cases r2
    split at p
    · rename_i hz
      exact op_fdivW pins s σ H _ _ v u Q I rx ry ⟨_, _, rfl, rfl, big_div hz.1 hz.2, postQ_here p m (.int _)⟩
    · exact p.elim
  · exact p.elim
theorem op_modD : OpR X (binaryOp .Mod) (rV2 W (binD .mod)) := by
  intro pins s σ H x y v u Q I rx ry hh
  obtain ⟨ι, h, d1, d2, m, r1, r2, p⟩ := hh
  unfold binD at p
  simp only at p
  split at p
  · cases r1; cases r2
    split at p
    · rename_i hz
      exact op_mod pins s σ H _ _ v u Q I rx ry ⟨_, _, rfl, rfl, hz, postQ_here p m (.int _)⟩
    · exact p.elim
  · exact p.elim
def opOf : BO → Operator
  | .add => .Add
  | .sub => .Sub
  | .mul => .Mult
  | .fdv => .FloorDiv
  | .mod => .Mod
theorem op_binD (hK : X.K = W.K) (o : BO) : OpR X (binaryOp (opOf o)) (rV2 W (binD o)) := by
  cases o with
  | add => exact op_addD hK
  | sub => exact op_subD
  | mul => exact op_mulD hK
  | fdv => exact op_fdvD
  | mod => exact op_modD

/-! ### data -/
mutual
theorem dp0 : ∀ {d : D} {v : V} {a : PyData}, Rep W ι H d v → pd0 d = some a → Dp W.K H v a
  | _, _, _, .non, e => by cases e; exact .non
  | _, _, _, .bl b, e => by cases e; exact .bl b
  | _, _, _, .int i, e => by cases e; exact .int i
  | _, _, _, .str x, e => by cases e; exact .str x
  | .tup ds, _, a, .tup h r, e => by
    unfold pd0 at e
    cases q : pd0L ds with
    | none => rw [q] at e; cases e
    | some as => rw [q] at e; cases e; exact .tup (SqT.of h) (dp0L r q)
  | .lst ds, _, a, .lst h n n2 r, e => by
    unfold pd0 at e
    cases q : pd0L ds with
    | none => rw [q] at e; cases e
    | some as => rw [q] at e; cases e; exact .lst (SqL.of h) (dp0L r q)
  | _, _, _, .scr _, e => by cases e
  | _, _, _, .cd _, e => by cases e
  | _, _, _, .obj _ _ _ _ _, e => by cases e
  | _, _, _, .ref _, e => by cases e
theorem dp0L : ∀ {ds : List D} {vs : List V} {as : List PyData}, Reps W ι H ds vs → pd0L ds = some as → DpAll W.K H vs as
  | _, _, _, .nil, e => by cases e; exact .nil
  | d :: ds, _, as, .cons r t, e => by
    unfold pd0L at e
    cases q1 : pd0 d with
    | none => rw [q1] at e; cases e
    | some a =>
      cases q2 : pd0L ds with
      | none => rw [q1, q2] at e; cases e
      | some bs => rw [q1, q2] at e; cases e; exact .cons (dp0 r q1) (dp0L t q2)
end
theorem dp_of {d : D} {v : V} {a : PyData} (m : Sm W ι H h) (r : Rep W ι H d v) (e : pd h d = some a) : Dp W.K H v a := by
  cases d with
  | ref i =>
    unfold pd at e
    simp only at e
    split at e
    · rename_i ys hc
      obtain ⟨a', vs, rfl, h1, h2⟩ := lItems_rep (d := .ref i) (xs := ys) m r (by unfold lItems; simp only [hc])
      cases q : pd0L ys with
      | none => rw [q] at e; cases e
      | some bs => rw [q] at e; cases e; exact .lst (SqL.of h1) (dp0L h2 q)
    · cases e
  | _ => exact dp0 r e
theorem op_eqM (hK : X.K = W.K) (hu : X.A.units + 64 < cLine) : OpR X (compareOp .Eq) (rV2 W (cmpD .eq)) := by
  intro pins s σ H x y v u Q I rx ry hh
  obtain ⟨ι, h, d1, d2, m, r1, r2, p⟩ := hh
  unfold cmpD ofH eqO at p
  simp only at p
  cases q1 : pd h d1 with
  | none => rw [q1] at p; exact p.elim
  | some a =>
    cases q2 : pd h d2 with
    | none => rw [q1, q2] at p; exact p.elim
    | some b =>
      rw [q1, q2] at p
      simp only at p
      by_cases hs : (SeqAt.shaped a && SeqAt.shaped b) = true
      · rw [if_pos hs] at p
        rw [Bool.and_eq_true] at hs
        refine op_eqD hu pins s σ H _ _ v u Q I rx ry ⟨a, b, ?_, ?_, hs.1, hs.2, postQ_here p m (.bl _)⟩
        · rw [hK]; exact dp_of m r1 q1
        · rw [hK]; exact dp_of m r2 q2
      · rw [if_neg hs] at p; exact p.elim
theorem op_neM (hK : X.K = W.K) (hu : X.A.units + 64 < cLine) : OpR X (compareOp .NotEq) (rV2 W (cmpD .ne)) := by
  intro pins s σ H x y v u Q I rx ry hh
  obtain ⟨ι, h, d1, d2, m, r1, r2, p⟩ := hh
  unfold cmpD ofH eqO at p
  simp only at p
  cases q1 : pd h d1 with
  | none => rw [q1] at p; exact p.elim
  | some a =>
    cases q2 : pd h d2 with
    | none => rw [q1, q2] at p; exact p.elim
    | some b =>
      rw [q1, q2] at p
      simp only at p
      by_cases hs : (SeqAt.shaped a && SeqAt.shaped b) = true
      · rw [if_pos hs] at p
        rw [Bool.and_eq_true] at hs
        refine op_neD hu pins s σ H _ _ v u Q I rx ry ⟨a, b, ?_, ?_, hs.1, hs.2, postQ_here p m (.bl _)⟩
        · rw [hK]; exact dp_of m r1 q1
        · rw [hK]; exact dp_of m r2 q2
      · rw [if_neg hs] at p; exact p.elim
theorem op_intB {op : CmpOp} {f : Int → Int → Bool} (ho : OpR X (compareOp op) (rI0 fun i j => .bl (f i j))) : OpR X (compareOp op) (rV2 W (intB f)) := by
  intro pins s σ H x y v u Q I rx ry hh
  obtain ⟨ι, h, d1, d2, m, r1, r2, p⟩ := hh
  unfold intB at p
  split at p
  · cases r1; cases r2
    exact ho pins s σ H _ _ v u Q I rx ry ⟨_, _, rfl, rfl, postQ_here p m (.bl _)⟩
  · exact p.elim
theorem op_ordD {op : CmpOp} {f : Int → Int → Bool} {t : List Int → List Int → Bool} (hK : X.K = W.K) (ho : OpR X (compareOp op) (rI0 fun i j => .bl (f i j))) (ht : OpR X (compareOp op) fun x y H Q => ∃ (a b : Addr) (ns ms : List Int), x = .ref a ∧ y = .ref b ∧ SqT X.K H a (ns.map V.int) ∧ SqT X.K H b (ms.map V.int) ∧ Q (.bl (t ns ms)) H) : OpR X (compareOp op) (rV2 W (ordD f t)) := by
  intro pins s σ H x y v u Q I rx ry hh
  obtain ⟨ι, h, d1, d2, m, r1, r2, p⟩ := hh
  unfold ordD at p
  split at p
  · cases r1; cases r2
    exact ho pins s σ H _ _ v u Q I rx ry ⟨_, _, rfl, rfl, postQ_here p m (.bl _)⟩
  · rename_i xs ys
    cases e1 : dInts xs with
    | none => rw [e1] at p; exact p.elim
    | some ns =>
      cases e2 : dInts ys with
      | none => rw [e1, e2] at p; exact p.elim
      | some ms =>
        rw [e1, e2] at p
        cases r1 with
        | tup h1 q1 =>
          cases r2 with
          | tup h2 q2 =>
            rw [q1.ints e1] at h1
            rw [q2.ints e2] at h2
            exact ht pins s σ H _ _ v u Q I rx ry ⟨_, _, _, _, rfl, rfl, SqT.of h1, SqT.of h2, postQ_here p m (.bl _)⟩
  · exact p.elim
end
end Mn

/-! Mn: in, subscripts, slices, truth, built-ins. -/
namespace Mn
open PySem L2
section
variable {W : Wd} {X : Cx} {ι : Ix} {H : Hp} {h : MH}
theorem flat_rep {d : D} {v : V} {a : PyData} (r : Rep W ι H d v) (e : pd0 d = some a) (f : flatP a = true) : flatV v = true := by
  cases r with
  | non => rfl
  | bl b => rfl
  | int i => rfl
  | str x => rfl
  | tup h q =>
    rename_i a' xs ds
    unfold pd0 at e
    cases q : pd0L ds with
    | none => rw [q] at e; cases e
    | some as => rw [q] at e; cases e; cases f
  | lst h n n2 q =>
    rename_i a' xs ds
    unfold pd0 at e
    cases q : pd0L ds with
    | none => rw [q] at e; cases e
    | some as => rw [q] at e; cases e; cases f
  | scr _ => cases e
  | cd _ => cases e
  | obj _ _ _ _ _ => cases e
  | ref _ => cases e
theorem eqV_rep {d e : D} {v u : V} {a b : PyData} (r1 : Rep W ι H d v) (r2 : Rep W ι H e u) (e1 : pd0 d = some a) (e2 : pd0 e = some b) (f1 : flatP a = true) (f2 : flatP b = true) : eqV v u = PyData.eqv a b := by
  have g1 := flat_rep r1 e1 f1
  have g2 := flat_rep r2 e2 f2
  cases r1 <;> first | (cases g1; done) | (cases r2 <;> first | (cases g2; done) | (cases e1; cases e2; rfl))
theorem inV_rep {x : D} {u : V} {a : PyData} (r2 : Rep W ι H x u) (e2 : pd0 x = some a) (f2 : flatP a = true) : ∀ {ds : List D} {vs : List V} {bs : List PyData}, Reps W ι H ds vs → pd0L ds = some bs → bs.all flatP = true → vs.all flatV = true ∧ inV u vs = bs.any fun b => PyData.eqv b a
  | _, _, _, .nil, e, _ => by cases e; exact ⟨rfl, rfl⟩
  | d :: ds, _, bs, .cons (v := v) (vs := vs) r t, e, f => by
    unfold pd0L at e
    cases q1 : pd0 d with
    | none => rw [q1] at e; cases e
    | some b =>
      cases q2 : pd0L ds with
      | none => rw [q1, q2] at e; cases e
      | some cs =>
        rw [q1, q2] at e
        cases e
        rw [List.all_cons, Bool.and_eq_true] at f
        obtain ⟨h1, h2⟩ := inV_rep r2 e2 f2 t q2 f.2
        refine ⟨by rw [List.all_cons, h1, flat_rep r q1 f.1]; rfl, ?_⟩
        show (eqV v u || inV u vs) = _
        rw [List.any_cons, h2, eqV_rep r r2 q1 e2 f.1 f2]
/-! ### a dict of the written part -/
theorem isInt_int (k : Int) (t : Tok) : Value.isInt k (.int k t) = true := by simp [Value.isInt]
theorem ents_pairs {P : Program} {w : World} : ∀ {es : List DictEntry} {kvs : List (Int × Int)}, entsI es kvs = true → ∃ vs : List (Int × Value), Pairs (intKind P w) es vs ∧ (∀ e ∈ es, ∃ k, (intKind P w).is k e.key = true ∧ e.hash = (intKind P w).hash k) ∧ vs.map (·.1) = kvs.map (·.1) ∧ ∀ k, (∀ j, kvs.lookup k = some j → ∃ t, valueAt vs k = some (.int j t)) ∧ (kvs.lookup k = none → valueAt vs k = none)
  | [], [], _ => ⟨[], .nil, fun _ h => (by cases h), rfl, fun k => ⟨fun j h => (by cases h), fun _ => rfl⟩⟩
  | [], _ :: _, h => by cases h
  | _ :: _, [], h => by cases h
  | ⟨hs, key, val⟩ :: es, (k1, v1) :: kvs, h => by
    unfold entsI at h
    rw [Bool.and_eq_true] at h
    obtain ⟨h1, h2⟩ := h
    obtain ⟨vs, p, hk, hm, hv⟩ := ents_pairs (P := P) (w := w) h2
    unfold entI at h1
    split at h1
    · rename_i k t v t' ek ev
      simp only [Bool.and_eq_true, decide_eq_true_eq] at h1
      obtain ⟨⟨e1, e2⟩, eh⟩ := h1
      simp only at ek ev eh
      subst e1 e2 ek ev
      refine ⟨(k, .int v t') :: vs, .cons (isInt_int k t) rfl p, fun e he => ?_, by simp [hm], fun k' => ?_⟩
      · rcases List.mem_cons.mp he with rfl | he
        · exact ⟨k, isInt_int k t, eh⟩
        · exact hk e he
      · by_cases e : k = k'
        · subst e
          refine ⟨fun j hj => ?_, fun hj => ?_⟩
          · simp only [List.lookup_cons, beq_self_eq_true, Option.some.injEq] at hj
            subst hj
            exact ⟨t', by simp [valueAt]⟩
          · simp only [List.lookup_cons, beq_self_eq_true] at hj
            cases hj
        · have e' : (k' == k) = false := beq_eq_false_iff_ne.mpr (fun z => e z.symm)
          obtain ⟨q1, q2⟩ := hv k'
          refine ⟨fun j hj => ?_, fun hj => ?_⟩
          · simp only [List.lookup_cons, e'] at hj
            obtain ⟨t, q⟩ := q1 j hj
            exact ⟨t, by simpa [valueAt, List.find?_cons, e] using q⟩
          · simp only [List.lookup_cons, e'] at hj
            simpa [valueAt, List.find?_cons, e] using q2 hj
    · cases h1
theorem cd_of {P : Program} {w : World} {K : PySem.W.Frag} {hp : Heap} {a : Addr} {kvs : List (Int × Int)} (hk : K.In hp) (hc : cdIn K a kvs = true) : (a == sysModules) = false ∧ ∃ vs : List (Int × Value), hp.DictOf (intKind P w) a vs ∧ ∀ k, (∀ j, kvs.lookup k = some j → ∃ t, valueAt vs k = some (.int j t)) ∧ (kvs.lookup k = none → valueAt vs k = none) := by
  unfold cdIn at hc
  split at hc
  · rename_i c es n sl hl
    simp only [Bool.and_eq_true, decide_eq_true_eq, Bool.not_eq_true'] at hc
    obtain ⟨⟨⟨⟨rfl, hs⟩, hm⟩, he⟩, hnd⟩ := hc
    obtain ⟨vs, p, hks, hmm, hv⟩ := ents_pairs (P := P) (w := w) he
    refine ⟨hm, vs, ⟨_, es, n, hk a _ hl, ⟨rfl, rfl, ?_⟩, rfl, fun e hm => hks e (by simpa using hm), p, by rw [hmm]; exact hnd⟩, hv⟩
    simpa using hs
  · cases hc
theorem ix_cd (hK : X.K = W.K) {a : Addr} {kvs : List (Int × Int)} {i j : Int} (hc : cdIn W.K a kvs = true) (hl : kvs.lookup i = some j) : IxR X (fun x y H Q => x = .ref a ∧ y = .int i ∧ Q (.int j) H) := by
  intro value slice pins s σ H x y v u Q I rx ry h hs
  obtain ⟨rfl, rfl, q⟩ := h
  obtain rfl : v = Value.ref a := rx
  obtain ⟨t, rfl⟩ := ry
  rw [← hK] at hc
  obtain ⟨_, vs, hd, hv⟩ := cd_of (P := X.prog) (w := X.w) I.kIn hc
  obtain ⟨t', e⟩ := (hv i).1 j hl
  exact PyProof.Rows.tail_any hd.mapOf.typeIs PySem.F.slot_dict_getitem.lookup (wpAny_getItem_of (isInt_int i t) hd.mapOf e ⟨.int j, H, I.tok _, ⟨t', rfl⟩, q⟩) hs
theorem cd_some {kvs : List (Int × Int)} {vs : List (Int × Value)} {i : Int} (hv : ∀ k, (∀ j, kvs.lookup k = some j → ∃ t, valueAt vs k = some (.int j t)) ∧ (kvs.lookup k = none → valueAt vs k = none)) : (valueAt vs i).isSome = (kvs.lookup i).isSome := by
  cases e : kvs.lookup i with
  | none => rw [(hv i).2 e]; rfl
  | some j =>
    obtain ⟨t, q⟩ := (hv i).1 j e
    rw [q]; rfl
theorem op_inM (hK : X.K = W.K) (hu : X.A.units + 65 < cLine) : OpR X (compareOp .In) (rV2 W (cmpD .isin)) := by
  intro pins s σ H x y v u Q I rx ry hh
  obtain ⟨ι, h, d1, d2, m, r1, r2, p⟩ := hh
  unfold cmpD ofH inO at p
  simp only at p
  split at p
  · rename_i o z hz
    split at hz
    · cases r1
      cases hz
      cases r2 with
      | cd hc =>
        obtain rfl : u = Value.ref _ := ry
        obtain ⟨t, rfl⟩ := rx
        rw [← hK] at hc
        obtain ⟨lo, vs, hd, hv⟩ := cd_of (P := X.prog) (w := X.w) I.kIn hc
        refine wpAny_in_of (isInt_int _ t) lo hd.mapOf ?_
        rw [cd_some hv]
        exact ⟨.bl _, H, I.tok _, rfl, postQ_here p m (.bl _)⟩
    · cases r1; cases r2
      cases hz
      exact op_in_str pins s σ H _ _ v u Q I rx ry ⟨_, _, rfl, rfl, postQ_here p m (.bl _)⟩
    · split at hz
      · rename_i a bs e1 e2
        split at hz
        · rename_i hf
          rw [Bool.and_eq_true] at hf
          cases hz
          cases r2 with
          | tup s2 q2 =>
            obtain ⟨f1, f2⟩ := inV_rep r1 e1 hf.1 q2 e2 hf.2
            refine op_in_seq pins s σ H _ _ v u Q I rx ry ⟨_, _, rfl, .inr (SqT.of s2), flat_rep r1 e1 hf.1, f1, ?_⟩
            simp only [Bool.false_eq_true, if_false]
            rw [f2]
            exact postQ_here p m (.bl _)
        · cases hz
      · cases hz
    · split at hz
      · rename_i ys a e1 e2
        split at hz
        · rename_i bs e3
          split at hz
          · rename_i hf
            rw [Bool.and_eq_true] at hf
            cases hz
            obtain ⟨b, vs, rfl, h1, q1⟩ := lItems_rep m r2 e1
            refine op_inD hu pins s σ H _ _ v u Q I rx ry ⟨a, bs, ?_, ?_, hf.1, hf.2, postQ_here p m (.bl _)⟩
            · rw [hK]; exact dp0 r1 e2
            · rw [hK]; exact .lst (SqL.of h1) (dp0L q1 e3)
          · cases hz
        · cases hz
      · cases hz
  · exact p.elim
theorem op_notinM (hK : X.K = W.K) (hu : X.A.units + 65 < cLine) : OpR X (compareOp .NotIn) (rV2 W (cmpD .noti)) := by
  intro pins s σ H x y v u Q I rx ry hh
  obtain ⟨ι, h, d1, d2, m, r1, r2, p⟩ := hh
  unfold cmpD ofH inO at p
  simp only at p
  split at p
  · rename_i o z hz
    split at hz
    · cases r1
      cases hz
      cases r2 with
      | cd hc =>
        obtain rfl : u = Value.ref _ := ry
        obtain ⟨t, rfl⟩ := rx
        rw [← hK] at hc
        obtain ⟨lo, vs, hd, hv⟩ := cd_of (P := X.prog) (w := X.w) I.kIn hc
        refine wpAny_notIn_of (isInt_int _ t) lo hd.mapOf ?_
        rw [cd_some hv]
        exact ⟨.bl _, H, I.tok _, rfl, postQ_here p m (.bl _)⟩
    · cases r1; cases r2
      cases hz
      exact op_notIn_str pins s σ H _ _ v u Q I rx ry ⟨_, _, rfl, rfl, postQ_here p m (.bl _)⟩
    · split at hz
      · rename_i a bs e1 e2
        split at hz
        · rename_i hf
          rw [Bool.and_eq_true] at hf
          cases hz
          cases r2 with
          | tup s2 q2 =>
            obtain ⟨f1, f2⟩ := inV_rep r1 e1 hf.1 q2 e2 hf.2
            refine op_notIn_seq pins s σ H _ _ v u Q I rx ry ⟨_, _, rfl, .inr (SqT.of s2), flat_rep r1 e1 hf.1, f1, ?_⟩
            simp only [if_true]
            rw [f2]
            exact postQ_here p m (.bl _)
        · cases hz
      · cases hz
    · split at hz
      · rename_i ys a e1 e2
        split at hz
        · rename_i bs e3
          split at hz
          · rename_i hf
            rw [Bool.and_eq_true] at hf
            cases hz
            obtain ⟨b, vs, rfl, h1, q1⟩ := lItems_rep m r2 e1
            refine op_notInD hu pins s σ H _ _ v u Q I rx ry ⟨a, bs, ?_, ?_, hf.1, hf.2, postQ_here p m (.bl _)⟩
            · rw [hK]; exact dp0 r1 e2
            · rw [hK]; exact .lst (SqL.of h1) (dp0L q1 e3)
          · cases hz
        · cases hz
      · cases hz
  · exact p.elim
def cmpOf : CO → CmpOp
  | .eq => .Eq
  | .ne => .NotEq
  | .lt => .Lt
  | .le => .LtE
  | .gt => .Gt
  | .ge => .GtE
  | .isin => .In
  | .noti => .NotIn
theorem op_cmpD (hK : X.K = W.K) (hu : X.A.units + 65 < cLine) (o : CO) : OpR X (compareOp (cmpOf o)) (rV2 W (cmpD o)) := by
  have hu' : X.A.units + 64 < cLine := Nat.lt_trans (Nat.lt_succ_self _) hu
  cases o with
  | eq => exact op_eqM hK hu'
  | ne => exact op_neM hK hu'
  | lt => exact op_ordD hK op_lt (op_ltT (by omega))
  | le => exact op_ordD hK op_le (op_leT (by omega))
  | gt => exact op_intB op_gt
  | ge => exact op_intB op_ge
  | isin => exact op_inM hK hu
  | noti => exact op_notinM hK hu
theorem un_negD : UnR X (unaryOp .USub) (rV1 W negD) := by
  intro pins s σ H x v Q I rx hh
  obtain ⟨ι, h, d1, m, r1, p⟩ := hh
  unfold negD at p
  split at p
  · cases r1
    exact un_neg pins s σ H _ v Q I rx ⟨_, rfl, postQ_here p m (.int _)⟩
  · exact p.elim
theorem atI_map {α β : Type} (f : α → β) (xs : List α) (i : Int) : atI (xs.map f) i = (atI xs i).map f := by
  unfold atI
  rw [List.length_map]
  cases ixN xs.length i with
  | none => rfl
  | some j => show (xs.map f)[j]? = _; rw [List.getElem?_map]; rfl
/-- x[i] -/
theorem ix_idxD (hK : X.K = W.K) : IxR X (rV2 W idxD) := by
  intro value slice pins s σ H x y v u Q I rx ry hh hs
  obtain ⟨ι, h, d1, d2, m, r1, r2, p⟩ := hh
  unfold idxD at p
  split at p
  · cases r1; cases r2
    split at p
    · rename_i hz
      split at p
      · rename_i c e
        exact ix_str value slice pins s σ H _ _ v u Q I rx ry ⟨_, _, _, rfl, rfl, by rw [← SZ_eq]; exact hz, e, postQ_here p m (.str _)⟩ hs
      · exact p.elim
    · exact p.elim
  · cases r2
    split at p
    · rename_i j e
      cases r1 with
      | cd hc => exact ix_cd hK hc e value slice pins s σ H _ _ v u Q I rx ry ⟨rfl, rfl, postQ_here p m (.int _)⟩ hs
    · exact p.elim
  · cases r2
    split at p
    · rename_i n e
      cases r1 with
      | scr hf =>
        refine ix_list value slice pins s σ H _ _ v u Q I rx ry ⟨_, _, _, .int n, rfl, rfl, .inl (.inr ⟨_, hf⟩), ?_, postQ_here p m (.int _)⟩ hs
        rw [atI_map, e]; rfl
    · exact p.elim
  · cases r2
    split at p
    · rename_i xs e1
      split at p
      · rename_i d e
        obtain ⟨a, vs, rfl, h1, q1⟩ := items_rep m r1 e1
        obtain ⟨z, hz, rz⟩ := q1.at e
        rw [← hK] at h1
        rcases h1 with h1 | h1
        · exact ix_list value slice pins s σ H _ _ v u Q I rx ry ⟨_, _, _, z, rfl, rfl, h1, hz, postQ_here p m rz⟩ hs
        · exact ix_tup value slice pins s σ H _ _ v u Q I rx ry ⟨_, _, _, z, rfl, rfl, SqT.of h1, hz, postQ_here p m rz⟩ hs
      · exact p.elim
    · exact p.elim
  · exact p.elim
theorem cut_map {α β : Type} (f : α → β) (xs : List α) (lo hi : Option Int) : (cut xs lo hi).map f = cut (xs.map f) lo hi := by
  unfold cut
  rw [List.map_take, List.map_drop, List.length_map]
theorem reps_ints : ∀ ns : List Int, Reps W ι H (ns.map D.int) (ns.map V.int)
  | [] => .nil
  | n :: r => .cons (.int n) (reps_ints r)
theorem cut_all (xs : List D) (lo hi : Option Int) (h : HT.sIx xs.length 0 lo = 0 ∧ HT.sIx xs.length xs.length hi = xs.length) : cut xs lo hi = xs := by
  unfold cut
  rw [h.1, h.2]
  simp
def rVS (W : Wd) (op : D → Option Int → Option Int → M D) : V → Option Int → Option Int → Hp → VK → Prop := fun x lo hi H Q => ∃ ι h d1, Sm W ι H h ∧ Rep W ι H d1 x ∧ PostQ W ι H (op d1 lo hi h) Q
theorem sl_slcD (hK : X.K = W.K) : SlR X (rVS W slcD) := by
  intro pins s σ H x v vl vu lo hi sl Q I rx hsl pl pu hh
  obtain ⟨ι, h, d1, m, r1, p⟩ := hh
  unfold slcD at p
  split at p
  · cases r1
    split at p
    · rename_i hz
      exact sl_str pins s σ H _ v vl vu lo hi sl Q I rx hsl pl pu ⟨_, rfl, by rw [← SZ_eq]; exact hz, postQ_here p m (.str _)⟩
    · exact p.elim
  · cases r1 with
    | tup s1 q1 =>
      refine sl_tupA pins s σ H _ v vl vu lo hi sl Q I rx hsl pl pu ⟨_, _, rfl, SqT.of s1, fun e => ?_, fun _ q hq => ?_⟩
      · rw [cut_all _ _ _ (by rw [q1.length]; exact e)] at p
        exact postQ_here p m (.tup s1 q1)
      · exact postQ_lay p m hq (rep_tup hq (q1.cut lo hi))
  · cases r1 with
    | scr hf =>
      rename_i ns _ _
      refine sl_list pins s σ H _ v vl vu lo hi sl Q I rx hsl pl pu ⟨_, _, rfl, .inl (.inr ⟨_, hf⟩), fun q hq => ?_⟩
      refine postQ_lay p m hq (rep_lst m hq ?_)
      have e := reps_ints (W := W) (ι := ι) (H := H) (cut ns lo hi)
      rw [cut_map V.int] at e
      exact e
  · split at p
    · rename_i xs e1
      obtain ⟨a, vs, rfl, h1, q1⟩ := lItems_rep m r1 e1
      refine sl_list pins s σ H _ v vl vu lo hi sl Q I rx hsl pl pu ⟨_, _, rfl, SqL.of h1, fun q hq => ?_⟩
      exact postQ_lay p m hq (rep_lst m hq (q1.cut lo hi))
    · exact p.elim
/-- truth -/
theorem truV_of (hK : X.K = W.K) {d : D} {v : V} {k : Bool} (m : Sm W ι H h) (r : Rep W ι H d v) (e : tru d h = some k) : TruV X.K v H k := by
  have lst : ∀ {xs : List D}, lItems d h = some xs → (!xs.isEmpty) = k → TruV X.K v H k := fun {xs} e1 e2 => by
    obtain ⟨a, vs, rfl, h1, q1⟩ := lItems_rep m r e1
    refine .inl ⟨vs, SqL.of h1, ?_⟩
    rw [← e2]
    cases q1 <;> rfl
  cases r with
  | non => cases e; rfl
  | bl b => cases e; rfl
  | int i => cases e; rfl
  | str x =>
    unfold tru at e
    simp only at e
    split at e
    · rename_i hz
      cases e
      exact ⟨by rw [← SZ_eq]; exact hz, rfl⟩
    · cases e
  | tup s1 q1 =>
    cases e
    refine .inr (.inl ⟨_, SqT.of s1, ?_⟩)
    cases q1 <;> rfl
  | lst h1 n n2 q1 => cases e; exact lst rfl rfl
  | scr _ => cases e
  | cd _ => cases e
  | obj _ _ _ _ _ => cases e
  | ref hi =>
    rename_i i a
    unfold tru at e
    simp only at e
    cases q : lItems (.ref i) h with
    | none => rw [q] at e; cases e
    | some xs => rw [q] at e; cases e; exact lst q rfl
end
end Mn

/-! Mn: built-ins called by name, isinstance. -/
namespace Mn
open PySem L2
section
variable {W : Wd} {X : Cx} {ι : Ix} {H : Hp} {h : MH}
/-- the name of a built-in, the value that stands under it -/
def biName : BI → Str
  | .len => "len"
  | .abs => "abs"
  | .int => "int"
  | .all => "all"
  | .any => "any"
  | .sum => "sum"
  | .tuple => "tuple"
  | .list => "list"
  | .max2 => "max"
  | .min2 => "min"
  | .str => "str"
  | .divmod => "divmod"
theorem reps1 {d : D} {xs : List V} (r : Reps W ι H [d] xs) : ∃ v, xs = [v] ∧ Rep W ι H d v := by
  cases r with
  | cons r t => cases t; exact ⟨_, rfl, r⟩
theorem reps2 {d e : D} {xs : List V} (r : Reps W ι H [d, e] xs) : ∃ v u, xs = [v, u] ∧ Rep W ι H d v ∧ Rep W ι H e u := by
  cases r with
  | cons r t =>
    obtain ⟨u, rfl, r2⟩ := reps1 t
    exact ⟨_, _, rfl, r, r2⟩
theorem cb_len (hK : X.K = W.K) : CallR X (.builtin "len") (rVN W (bltD .len)) := by
  intro pins s σ H xs us Q I rs hh
  obtain ⟨ι, h, ds, m, r, p⟩ := hh
  unfold bltD at p
  split at p
  all_goals first | exact p.elim | contradiction | skip
  rename_i x hx
  obtain ⟨v, rfl, r1⟩ := reps1 r
  unfold lenD at p
  split at p
  · cases r1
    split at p
    · rename_i hz
      exact call_len pins s σ H _ us Q I rs ⟨_, _, rfl, ⟨by rw [← SZ_eq]; exact hz, rfl⟩, postQ_here p m (.int _)⟩
    · exact p.elim
  · cases r1 with
    | scr hf =>
      refine call_len pins s σ H _ us Q I rs ⟨_, _, rfl, .inl ⟨_, .inl (.inr ⟨_, hf⟩), rfl⟩, ?_⟩
      rw [List.length_map]
      exact postQ_here p m (.int _)
  · split at p
    · rename_i ys e1
      obtain ⟨a, vs, rfl, h1, q1⟩ := items_rep m r1 e1
      rw [q1.length] at p
      rw [← hK] at h1
      refine call_len pins s σ H _ us Q I rs ⟨_, _, rfl, ?_, postQ_here p m (.int _)⟩
      rcases h1 with h1 | h1
      · exact .inl ⟨_, h1, rfl⟩
      · exact .inr ⟨_, SqT.of h1, rfl⟩
    · exact p.elim
theorem cb_abs : CallR X (.builtin "abs") (rVN W (bltD .abs)) := by
  intro pins s σ H xs us Q I rs hh
  obtain ⟨ι, h, ds, m, r, p⟩ := hh
  unfold bltD at p
  split at p
  all_goals first | exact p.elim | contradiction | skip
  obtain ⟨v, rfl, r1⟩ := reps1 r
  cases r1
  exact call_abs pins s σ H _ us Q I rs ⟨_, rfl, postQ_here p m (.int _)⟩
theorem cb_int : CallR X (.type "int") (rVN W (bltD .int)) := by
  intro pins s σ H xs us Q I rs hh
  obtain ⟨ι, h, ds, m, r, p⟩ := hh
  unfold bltD at p
  split at p
  all_goals first | exact p.elim | contradiction | skip
  · obtain ⟨v, rfl, r1⟩ := reps1 r
    cases r1
    exact call_int1 pins s σ H _ us Q I rs (.inl ⟨_, rfl, postQ_here p m (.int _)⟩)
  · obtain ⟨v, rfl, r1⟩ := reps1 r
    cases r1
    exact call_int1 pins s σ H _ us Q I rs (.inr ⟨_, rfl, postQ_here p m (.int _)⟩)
theorem cb_all (hc : X.calm = true) (hK : X.K = W.K) : CallR X (.builtin "all") (rVN W (bltD .all)) := by
  intro pins s σ H xs us Q I rs hh
  obtain ⟨ι, h, ds, m, r, p⟩ := hh
  unfold bltD at p
  split at p
  all_goals first | exact p.elim | contradiction | skip
  rename_i x hx
  obtain ⟨v, rfl, r1⟩ := reps1 r
  cases e1 : lItems x h with
  | none => rw [e1] at p; exact p.elim
  | some ys =>
    rw [e1] at p
    simp only [Option.bind_some] at p
    cases e2 : dBools ys with
    | none => rw [e2] at p; exact p.elim
    | some bs =>
      rw [e2] at p
      obtain ⟨a, vs, rfl, h1, q1⟩ := lItems_rep m r1 e1
      rw [q1.bools e2] at h1
      exact cr_all hc pins s σ H _ us Q I rs ⟨_, bs, rfl, SqL.of h1, postQ_here p m (.bl _)⟩
theorem cb_any (hc : X.calm = true) (hK : X.K = W.K) : CallR X (.builtin "any") (rVN W (bltD .any)) := by
  intro pins s σ H xs us Q I rs hh
  obtain ⟨ι, h, ds, m, r, p⟩ := hh
  unfold bltD at p
  split at p
  all_goals first | exact p.elim | contradiction | skip
  rename_i x hx
  obtain ⟨v, rfl, r1⟩ := reps1 r
  cases e1 : lItems x h with
  | none => rw [e1] at p; exact p.elim
  | some ys =>
    rw [e1] at p
    simp only [Option.bind_some] at p
    cases e2 : dBools ys with
    | none => rw [e2] at p; exact p.elim
    | some bs =>
      rw [e2] at p
      obtain ⟨a, vs, rfl, h1, q1⟩ := lItems_rep m r1 e1
      rw [q1.bools e2] at h1
      exact cr_any hc pins s σ H _ us Q I rs ⟨_, bs, rfl, SqL.of h1, postQ_here p m (.bl _)⟩
theorem cb_sum (hc : X.calm = true) (hK : X.K = W.K) : CallR X (.builtin "sum") (rVN W (bltD .sum)) := by
  intro pins s σ H xs us Q I rs hh
  obtain ⟨ι, h, ds, m, r, p⟩ := hh
  unfold bltD at p
  split at p
  all_goals first | exact p.elim | contradiction | skip
  rename_i x hx
  obtain ⟨v, rfl, r1⟩ := reps1 r
  cases e1 : lItems x h with
  | none => rw [e1] at p; exact p.elim
  | some ys =>
    rw [e1] at p
    simp only [Option.bind_some] at p
    cases e2 : dInts ys with
    | none => rw [e2] at p; exact p.elim
    | some bs =>
      rw [e2] at p
      obtain ⟨a, vs, rfl, h1, q1⟩ := lItems_rep m r1 e1
      rw [q1.ints e2] at h1
      exact cr_sum hc pins s σ H _ us Q I rs ⟨_, bs, rfl, SqL.of h1, postQ_here p m (.int _)⟩
theorem cb_tuple (hK : X.K = W.K) : CallR X (.type "tuple") (rVN W (bltD .tuple)) := by
  intro pins s σ H xs us Q I rs hh
  obtain ⟨ι, h, ds, m, r, p⟩ := hh
  unfold bltD at p
  split at p
  all_goals first | exact p.elim | contradiction | skip
  rename_i x hx
  obtain ⟨v, rfl, r1⟩ := reps1 r
  split at p
  · rename_i ys e1
    obtain ⟨a, vs, rfl, h1, q1⟩ := items_rep m r1 e1
    refine call_tuple_of pins s σ H _ us Q I rs ⟨a, vs, rfl, ?_⟩
    rcases h1 with h1 | h1
    · exact .inl ⟨by rw [hK]; exact h1, fun l hl => postQ_lay p m hl (rep_tup hl q1)⟩
    · exact .inr ⟨SqT.of h1, postQ_here p m (.tup h1 q1)⟩
  · exact p.elim
theorem cb_list (hK : X.K = W.K) : CallR X (.type "list") (rVN W (bltD .list)) := by
  intro pins s σ H xs us Q I rs hh
  obtain ⟨ι, h, ds, m, r, p⟩ := hh
  unfold bltD at p
  split at p
  all_goals first | exact p.elim | contradiction | skip
  rename_i x hx
  obtain ⟨v, rfl, r1⟩ := reps1 r
  split at p
  · rename_i ys e1
    obtain ⟨a, vs, rfl, h1, q1⟩ := items_rep m r1 e1
    exact call_list_of pins s σ H _ us Q I rs ⟨_, _, rfl, by rw [hK]; exact h1.imp id SqT.of, fun l hl => postQ_lay p m hl (rep_lst m hl q1)⟩
  · exact p.elim
theorem cb_max (hc : X.calm = true) : CallR X (.builtin "max") (rVN W (bltD .max2)) := by
  intro pins s σ H xs us Q I rs hh
  obtain ⟨ι, h, ds, m, r, p⟩ := hh
  unfold bltD at p
  split at p
  all_goals first | exact p.elim | contradiction | skip
  obtain ⟨v, u, rfl, r1, r2⟩ := reps2 r
  cases r1; cases r2
  exact call_max2 hc pins s σ H _ us Q I rs ⟨_, _, rfl, postQ_here p m (.int _)⟩
theorem cb_min (hc : X.calm = true) : CallR X (.builtin "min") (rVN W (bltD .min2)) := by
  intro pins s σ H xs us Q I rs hh
  obtain ⟨ι, h, ds, m, r, p⟩ := hh
  unfold bltD at p
  split at p
  all_goals first | exact p.elim | contradiction | skip
  obtain ⟨v, u, rfl, r1, r2⟩ := reps2 r
  cases r1; cases r2
  exact call_min2 hc pins s σ H _ us Q I rs ⟨_, _, rfl, postQ_here p m (.int _)⟩
theorem cb_str : CallR X (.type "str") (rVN W (bltD .str)) := by
  intro pins s σ H xs us Q I rs hh
  obtain ⟨ι, h, ds, m, r, p⟩ := hh
  unfold bltD at p
  split at p
  all_goals first | exact p.elim | contradiction | skip
  · obtain ⟨v, rfl, r1⟩ := reps1 r
    cases r1
    split at p
    · rename_i hz
      refine call_str_int pins s σ H _ us Q I rs ⟨_, rfl, ?_, postQ_here p m (.str _)⟩
      exact Nat.lt_of_lt_of_le (PySem.Flt.log2_lt_of (by decide) hz) (by decide)
    · exact p.elim
  · obtain ⟨v, rfl, r1⟩ := reps1 r
    cases r1
    exact SkE.call_str_str pins s σ H _ us Q I rs ⟨_, rfl, postQ_here p m (.str _)⟩
theorem cb_divmod : CallR X (.builtin "divmod") (rVN W (bltD .divmod)) := by
  intro pins s σ H xs us Q I rs hh
  obtain ⟨ι, h, ds, m, r, p⟩ := hh
  unfold bltD at p
  split at p
  all_goals first | exact p.elim | contradiction | skip
  rename_i i j hx
  obtain ⟨v, u, rfl, r1, r2⟩ := reps2 r
  cases r1; cases r2
  split at p
  · rename_i hz
    have hj : 0 < j := hz.1
    have hb : j.natAbs.log2 < 8000 := PySem.Flt.log2_lt_of (by decide) hz.2
    refine call_divmodW pins s σ H _ us Q I rs ⟨_, _, rfl, ⟨hj, ?_⟩, fun q hq => postQ_lay p m hq (rep_tup hq (.cons (.int _) (.cons (.int _) .nil)))⟩
    show (decide ((if j == 0 then 0 else j.natAbs.log2 / 30 + 1) > 300) && decide ((if i == 0 then 0 else i.natAbs.log2 / 30 + 1) > (if j == 0 then 0 else j.natAbs.log2 / 30 + 1) + 150)) = false
    rw [if_neg (show ¬ (j == 0) = true by simpa using (show j ≠ 0 by omega))]
    rw [decide_eq_false (by omega), Bool.false_and]
  · exact p.elim
/-! ### isinstance -/
def tyName : TY → String
  | .int => "int"
  | .bool => "bool"
  | .str => "str"
  | .tuple => "tuple"
  | .list => "list"
def tyOfD : D → Option String
  | .non => some "NoneType"
  | .bl _ => some "bool"
  | .int _ => some "int"
  | .str _ => some "str"
  | .tup _ => some "tuple"
  | .lst _ => some "list"
  | _ => none
theorem tyx_tup {a : Addr} {xs : List V} (h : SqT W.K H a xs) : TyX W.K H (.ref a) (.type "tuple") := by
  rcases h with (h | ⟨o, h⟩) | ⟨o, its, n, h, c, _⟩
  · exact .base (.tup h)
  · exact .fTuple h
  · exact .kTuple h c
theorem tyx_of {d : D} {v : V} {t : String} (r : Rep W ι H d v) (e : tyOfD d = some t) : TyX W.K H v (.type t) := by
  cases r with
  | non => cases e; exact .base .non
  | bl b => cases e; exact .base (.bl b)
  | int i => cases e; exact .base (.int i)
  | str x => cases e; exact .base (.str x)
  | tup hs _ => cases e; exact tyx_tup (SqT.of hs)
  | lst hl _ _ _ => cases e; exact .base (.lst hl)
  | scr _ => cases e
  | cd _ => cases e
  | obj _ _ _ _ _ => cases e
  | ref _ => cases e
/-- what isinstance says of the types -/
def isiB (t : TY) (n : String) : Bool := match t, n with
  | .int, "int" => true
  | .int, "bool" => true
  | .bool, "bool" => true
  | .str, "str" => true
  | .tuple, "tuple" => true
  | .list, "list" => true
  | _, _ => false
theorem kit_int {K : PySem.W.Frag} : ∀ n ∈ ["NoneType", "bool", "int", "str", "tuple", "list"], PySem.W.kitOne K (.type n) (.type "int") = some (isiB .int n) := by
  intro n hn
  simp only [List.mem_cons, List.not_mem_nil, or_false] at hn
  rcases hn with rfl | rfl | rfl | rfl | rfl | rfl <;> exact kit_ty (by decide +kernel)
theorem kit_bool {K : PySem.W.Frag} : ∀ n ∈ ["NoneType", "bool", "int", "str", "tuple", "list"], PySem.W.kitOne K (.type n) (.type "bool") = some (isiB .bool n) := by
  intro n hn
  simp only [List.mem_cons, List.not_mem_nil, or_false] at hn
  rcases hn with rfl | rfl | rfl | rfl | rfl | rfl <;> exact kit_ty (by decide +kernel)
theorem kit_str {K : PySem.W.Frag} : ∀ n ∈ ["NoneType", "bool", "int", "str", "tuple", "list"], PySem.W.kitOne K (.type n) (.type "str") = some (isiB .str n) := by
  intro n hn
  simp only [List.mem_cons, List.not_mem_nil, or_false] at hn
  rcases hn with rfl | rfl | rfl | rfl | rfl | rfl <;> exact kit_ty (by decide +kernel)
theorem kit_tuple {K : PySem.W.Frag} : ∀ n ∈ ["NoneType", "bool", "int", "str", "tuple", "list"], PySem.W.kitOne K (.type n) (.type "tuple") = some (isiB .tuple n) := by
  intro n hn
  simp only [List.mem_cons, List.not_mem_nil, or_false] at hn
  rcases hn with rfl | rfl | rfl | rfl | rfl | rfl <;> exact kit_ty (by decide +kernel)
theorem kit_list {K : PySem.W.Frag} : ∀ n ∈ ["NoneType", "bool", "int", "str", "tuple", "list"], PySem.W.kitOne K (.type n) (.type "list") = some (isiB .list n) := by
  intro n hn
  simp only [List.mem_cons, List.not_mem_nil, or_false] at hn
  rcases hn with rfl | rfl | rfl | rfl | rfl | rfl <;> exact kit_ty (by decide +kernel)
theorem kit_all {K : PySem.W.Frag} (t : TY) : ∀ n ∈ ["NoneType", "bool", "int", "str", "tuple", "list"], PySem.W.kitOne K (.type n) (.type (tyName t)) = some (isiB t n) := by
  cases t with
  | int => exact kit_int
  | bool => exact kit_bool
  | str => exact kit_str
  | tuple => exact kit_tuple
  | list => exact kit_list
theorem tyOfD_mem {d : D} {n : String} (e : tyOfD d = some n) : n ∈ ["NoneType", "bool", "int", "str", "tuple", "list"] := by
  cases d <;> first | (cases e; simp; done) | (cases e; done)
theorem isiD_ty {t : TY} {d : D} {n : String} (e : tyOfD d = some n) : isiD t d h = .ok (.bl (isiB t n)) h := by
  cases t <;> cases d <;> first | (cases e; rfl) | (cases e; done)
/-- isinstance(x, T) by values -/
theorem cb_isi (hK : X.K = W.K) (t : TY) {pins : List (Addr × Obj)} {s : Shared} {σ : L2.St} {x : V} {us : List Value} {Q : VK} (I : Inv X pins σ H s) (rs : Vals [x, .ty (tyName t)] us) (hh : rV1 W (isiD t) x H Q) :
    wpAny (model X.prog X.w) X.A (call (.builtin "isinstance") us) (EP X pins σ Q) X.xe s := by
  obtain ⟨ι, h, d, m, r, p⟩ := hh
  cases e : tyOfD d with
  | some n =>
    rw [isiD_ty e] at p
    exact call_isi pins s σ H _ us Q I rs ⟨x, .ty (tyName t), .type n, .type (tyName t), _, rfl, .ty _, by rw [hK]; exact tyx_of r e, kit_all t n (tyOfD_mem e), postQ_here p m (.bl _)⟩
  | none =>
    cases r with
    | scr hf => cases t <;> exact p.elim
    | cd hf => cases t <;> exact p.elim
    | obj _ _ _ _ _ => cases t <;> exact p.elim
    | ref hi =>
      rename_i i a
      have key : ∀ ys, h[i]? = some (.lst ys) → isiD t (.ref i) h = .ok (.bl (isiB t "list")) h := fun ys hc => by
        cases t <;> (unfold isiD; simp only [hc]; rfl)
      cases hc : h[i]? with
      | none => exact (by cases t <;> (unfold isiD at p; simp only [hc] at p; exact p.elim))
      | some c =>
        cases c with
        | lst ys =>
          rw [key ys hc] at p
          obtain ⟨a', ha, _, vs, h1, _⟩ := m.get hc
          rw [hi] at ha
          cases ha
          exact call_isi pins s σ H _ us Q I rs ⟨.ref a, .ty (tyName t), .type "list", .type (tyName t), _, rfl, .ty _, by rw [hK]; exact .base (.lst h1), kit_all t "list" (by simp), postQ_here p m (.bl _)⟩
        | ins c fs => exact (by cases t <;> (unfold isiD at p; simp only [hc] at p; exact p.elim))
        | dct lk kvs => exact (by cases t <;> (unfold isiD at p; simp only [hc] at p; exact p.elim))
    | _ => cases e
end
end Mn

/-! Mn: expressions keep what is evaluated. -/
namespace Mn
open PySem L2

/-- built-in names that the program leaves free -/
def FREE : List Str := ["len", "abs", "int", "all", "any", "sum", "tuple", "list", "max", "min", "str", "divmod", "isinstance", "bool", "range", "enumerate", "zip", "repr", "sorted", "dict", "set"]
def Lit.v : Lit → V
  | .non => .non
  | .bl b => .bl b
  | .int i => .int i
  | .str x => .str x
  | .cd _ => .non
/-- what a constant of the module is -/
def CRep (W : Wd) (c : Lit) (v : V) : Prop := match c with
  | .cd kvs => ∃ a, v = .ref a ∧ cdIn W.K a kvs = true
  | c => v = c.v
theorem lit_rep {W : Wd} {ι : Ix} {H : Hp} {c : Lit} {v : V} (r : CRep W c v) : Rep W ι H c.d v := by
  cases c with
  | cd kvs => obtain ⟨a, rfl, h⟩ := r; exact .cd h
  | non => cases (show v = _ from r); exact .non
  | bl b => cases (show v = _ from r); exact .bl _
  | int i => cases (show v = _ from r); exact .int _
  | str x => cases (show v = _ from r); exact .str _
/-- what is known of all contexts: the module's constants, the defs' names -/
structure Glob where
  W : Wd
  cs : List (Str × Lit)
  fname : Nat → Option (Str × List Str)
/-- what a def promises: the small reading -/
def spOf (W : Wd) (g : List D → M D) : Sp := fun vs H Q E => ∃ ι h ds, Sm W ι H h ∧ Reps W ι H ds vs ∧ Post W (Rep W) ι H (g ds h) Q E
/-- keywords ks, in the order ix of the parameters ps -/
def kwOk (ps ks : List Str) (ix : List Nat) : Bool := decide ks.Nodup && ps.all (fun p => ks.contains p) && ks.all (fun p => ps.contains p) && decide (ix.map (fun j => ks[j]?) = ps.map some)
def KBs (K : PySem.W.Frag) (fd : FuncData) (ps : List Str) : Prop := ∀ (ks : List Str) (ix : List Nat), kwOk ps ks ix = true → KBn K fd ps 0 ks (fun _ ws => pickL ix ws) (fun _ zs => pickL ix zs)
/-- the def x stands, and keeps the reading g -/
def FnAt (W : Wd) (P : Program) (w : World) (K : PySem.W.Frag) (mg : Str → Option Value) (base : Heap) (k : Nat) (x : Str × List Str) (g : List D → M D) : Prop :=
  ∃ (a : Addr) (fd : FuncData), mg x.1 = some (.ref a) ∧ PySem.W.keepIn K (.ref a) = true ∧ Binds K fd x.2 [] ∧ KBs K fd x.2 ∧ FnOk P w K mg base (L2N.CX P w) k a fd x.2 (spOf W g)
structure Cxt (Γ : Glob) (X : Cx) (N : List Str) (sc : Scope) (WE : WX) (cf : Nat → List D → M D) : Prop where
  hK : X.K = Γ.W.K
  hN : X.N = N
  nd : N.Nodup
  kind : X.env.scope.kind = .function
  vis : ∀ x k, sc.names.lookup x = some k → (k = .local ∨ k = .cell ∨ k = .free) → Vis X.env.scope x
  loc : ∀ x k, sc.names.lookup x = some k → (k = .local ∨ k = .cell) → X.env.scope.names.lookup x = some k ∧ (k = .local ∨ X.fn x = true)
  fr : ∀ x k, sc.names.lookup x = some k → (k = .cell ∨ k = .free) → (X.env.scope.names.lookup x = some .cell ∨ X.env.scope.names.lookup x = some .free)
  gl : ∀ x, sc.names.lookup x = some .globalImplicit → Gl X x
  free : ∀ x ∈ FREE, X.mg x = none
  cst : ∀ x c, (x, c) ∈ Γ.cs → ∃ u v, X.mg x = some u ∧ RelV v u ∧ CRep Γ.W c v
  calm : X.calm = true
  un : X.A.units + 100 < cLine
  tk : L2N.Takes X WE
  po : PassesOwn (model X.prog X.w) X.A X.env X.xe
  fns : ∃ k, Room k X.A ∧ ∀ (f : Nat) (x : Str × List Str), Γ.fname f = some x → FnAt Γ.W X.prog X.w X.K X.mg X.base k x (cf f)

theorem PE.imp {X : Cx} {e : Expr} {t t' : TE} (h : PE X e t) (i : ∀ σ H Q, t' σ H Q → t σ H Q) : PE X e t' := ⟨fun pins s σ H Q I w => h.run pins s σ H Q I (i σ H Q w)⟩
theorem PT.imp {X : Cx} {e : Expr} {t t' : TT} (h : PT X e t) (i : ∀ σ H Q, t' σ H Q → t σ H Q) : PT X e t' := ⟨fun pins s σ H Q I w => h.run pins s σ H Q I (i σ H Q w)⟩
theorem PW.imp {X : Cx} {e : Expr} {t t' : TT} (h : PW X e t) (i : ∀ σ H Q, t' σ H Q → t σ H Q) : PW X e t' := ⟨fun wh pins s σ H Q I w => h.run wh pins s σ H Q I (i σ H Q w)⟩
theorem PA.imp {X : Cx} {e : List Expr} {t t' : TA} (h : PA X e t) (i : ∀ σ H Q, t' σ H Q → t σ H Q) : PA X e t' := ⟨fun pos pins s σ H Q I w => h.run pos pins s σ H Q I (i σ H Q w)⟩
theorem PS.imp {X : Cx} {e : Stmt} {t t' : TS} (h : PS X e t) (i : ∀ D σ H, t' D σ H → t D σ H) : PS X e t' := ⟨fun pins s σ H D I w => h.run pins s σ H D I (i D σ H w)⟩
theorem PSs.imp {X : Cx} {e : List Stmt} {t t' : TS} (h : PSs X e t) (i : ∀ D σ H, t' D σ H → t D σ H) : PSs X e t' := ⟨fun pins s σ H D I w => h.run pins s σ H D I (i D σ H w)⟩

/-! ### the syntax: what the rules ask of a form -/
def notStar : Expr → Bool
  | .Starred .. => false
  | _ => true
theorem starEach_plain {e : Expr} {es : List Expr} {env : PySem.Env} (h : notStar e = true) : starEach (e :: es) env = (false, eval e env) :: starEach es env := by
  cases e <;> first | rfl | (cases h; done)
theorem star_all {pos : Pos} {env : PySem.Env} : ∀ {es : List Expr}, es.all notStar = true → (backTo pos (starEach es env)).any (·.1) = false
  | [], _ => rfl
  | e :: es, h => by
    rw [List.all_cons, Bool.and_eq_true] at h
    rw [starEach_plain h.1]
    show (false || (backTo pos (starEach es env)).any (·.1)) = false
    rw [star_all h.2]
    rfl
def notSlice : Expr → Bool
  | .Slice .. => false
  | _ => true
theorem plainIx_of {b : Expr} (h : notSlice b = true) : PlainIx b := by
  intro o i
  cases b <;> first | rfl | (cases h; done)
def notSet : Expr → Bool
  | .Set .. => false
  | _ => true
theorem noMarks {op : CmpOp} {b : Expr} (h : notSet b = true) : behindInMarks op b = false := by
  cases b <;> first | rfl | (cases h; done)
theorem noFold {b : Expr} {env : PySem.Env} (h : notSet b = true) : ∀ x, foldedSetIterable b env x = pure x := by
  intro x
  cases b <;> first | rfl | (cases h; done)
/-- a test that is its value's truth -/
def plainTest : Expr → Bool
  | .UnaryOp .Not _ _ => false
  | .BoolOp .. => false
  | .IfExp .. => false
  | .Compare .. => false
  | _ => true
theorem isTrue_test {e : Expr} {env : PySem.Env} (h : plainTest e = true) : ∀ whole, isTrue e env whole = (do let v ← whole; standAt e.pos; holding [v] (truthy v)) := by
  intro whole
  cases e with
  | UnaryOp op a p => cases op <;> first | (cases h; done) | (unfold PySem.isTrue; rfl)
  | _ => first | (cases h; done) | (unfold PySem.isTrue; rfl)
def okName (x : Str) : Bool := !(x == ("__debug__" : Str)) && !(x == ("__classdict__" : Str)) && !(x == ("__name__" : Str))

section
variable {Γ : Glob} {X : Cx} {N : List Str} {sc : Scope} {WE : WX} {cf : Nat → List D → M D}
/-! ### expressions -/
theorem me_var (C : Cxt Γ X N sc WE cf) {i : Nat} {x : Str} {k : NameKind} {pos : Pos} (hi : N[i]? = some x) (hx : sc.names.lookup x = some k) (hk : k = .local ∨ k = .cell ∨ k = .free) (hn : okName x = true) :
    PE X (.Name x pos) (rdE Γ.W WE (ev cf (.var i))) := by
  simp only [okName, Bool.and_eq_true, Bool.not_eq_true'] at hn
  refine PE.imp (pe_var (i := i) (by rw [C.hN]; exact hi) (C.vis x k hx hk) hn.1.1 hn.1.2) fun σ H Q hh => ?_
  obtain ⟨ι, env, h, m, e, p⟩ := hh
  unfold ev at p
  split at p
  · rename_i d hd
    obtain ⟨v, hv, r⟩ := e.2 i d hd
    exact ⟨v, hv, p.here m r⟩
  · exact p.elim
theorem me_lit {c : Lit} {v : V} {e : Expr} (r : CRep Γ.W c v) (h : PE X e (tC v)) : PE X e (rdE Γ.W WE fun _ => ret c.d) := by
  refine PE.imp h fun σ H Q hh => ?_
  obtain ⟨ι, env, h, m, e, p⟩ := hh
  exact Post.here (a := c.d) p m (lit_rep r)
theorem me_const {c : Lit} {k : Const} {j : Nat} {pos : Pos} (h : (match c, k with
    | .non, .none => true
    | .bl b, .bool b' => b == b'
    | .int i, .int i' => i == i'
    | .str x, .str x' => x == x'
    | _, _ => false) = true) : PE X (.Constant k j pos) (rdE Γ.W WE fun _ => ret c.d) := by
  cases c with
  | non => cases k <;> first | exact me_lit (v := .non) rfl pe_non | (cases h; done)
  | bl b => cases k <;> first | (cases h; done) | (have e := eq_of_beq h; subst e; exact me_lit (v := .bl _) rfl pe_bl)
  | int i => cases k <;> first | (cases h; done) | (have e := eq_of_beq h; subst e; exact me_lit (v := .int _) rfl pe_int)
  | str x => cases k <;> first | (cases h; done) | (have e := eq_of_beq h; subst e; exact me_lit (v := .str _) rfl pe_str)
  | cd _ => cases k <;> cases h
theorem me_glb (C : Cxt Γ X N sc WE cf) {x : Str} {c : Lit} {pos : Pos} (hc : (x, c) ∈ Γ.cs) (hg : sc.names.lookup x = some .globalImplicit) (hn : okName x = true) : PE X (.Name x pos) (rdE Γ.W WE fun _ => ret c.d) := by
  simp only [okName, Bool.and_eq_true, Bool.not_eq_true'] at hn
  obtain ⟨u, v, hu, r, rc⟩ := C.cst x c hc
  exact me_lit rc (pe_glob (C.gl x hg) hu r hn.1.1)
/-- two operands -/
theorem me_two {e : Expr} {a b : Expr} {f g : Env → M D} {op : D → D → M D} {mk : TE → TE → TE} (ha : PE X a (rdE Γ.W WE f)) (hb : PE X b (rdE Γ.W WE g)) (h : PE X e (tOp (rV2 Γ.W op) (rdE Γ.W WE f) (rdE Γ.W WE g))) :
    PE X e (rdE Γ.W WE fun env => bnd (f env) fun x => bnd (g env) fun y => op x y) := by
  refine PE.imp h fun σ H Q hh => ?_
  refine rd_bnd (k := fun x env => bnd (g env) fun y => op x y) hh fun ι env a b H1 h1 m e r p => ?_
  refine ⟨ι, env, h1, m, e, ?_⟩
  have p : Post Γ.W (Rep Γ.W) ι H1 ((g env h1).bnd fun y => op a y) Q (fun c d H' => WE c d σ H') := p
  cases q : g env h1 with
  | ok y h2 =>
    rw [q] at p
    intro ι' H' v s' m' r'
    refine ⟨ι', h2, a, y, m', r.mono s', r', ?_⟩
    have p2 := Post.base s' p
    have p3 : Post Γ.W (Rep Γ.W) ι' H' (op a y h2) Q (fun c d H' => WE c d σ H') := p2
    unfold PostQ
    cases q2 : op a y h2 with
    | ok z h3 => rw [q2] at p3; exact p3
    | exn z h3 => exact fun _ _ _ _ _ _ _ => True.intro
    | bad => rw [q2] at p3; exact p3
  | exn x h2 => rw [q] at p; exact p
  | bad => rw [q] at p; exact p
theorem me_one {e : Expr} {a : Expr} {f : Env → M D} {op : D → M D} (h : PE X e (tUn (rV1 Γ.W op) (rdE Γ.W WE f))) :
    PE X e (rdE Γ.W WE fun env => bnd (f env) op) := by
  refine PE.imp h fun σ H Q hh => ?_
  refine rd_bnd (k := fun x env => op x) hh fun ι env a b H1 h1 m e r p => ?_
  refine ⟨ι, h1, a, m, r, ?_⟩
  unfold PostQ
  cases q2 : op a h1 with
  | ok z h3 => rw [q2] at p; exact p
  | exn z h3 => exact fun _ _ _ _ _ _ _ => True.intro
  | bad => rw [q2] at p; exact p
theorem me_bin (C : Cxt Γ X N sc WE cf) {a b : Expr} {f g : Env → M D} {o : BO} {pos : Pos} (ha : PE X a (rdE Γ.W WE f)) (hb : PE X b (rdE Γ.W WE g)) :
    PE X (.BinOp a (opOf o) b pos) (rdE Γ.W WE fun env => bnd (f env) fun x => bnd (g env) fun y => binD o x y) :=
  me_two (mk := fun x _ => x) ha hb (pe_op (op_binD C.hK o) ha hb)
theorem me_cmp (C : Cxt Γ X N sc WE cf) {a b : Expr} {f g : Env → M D} {o : CO} {pos : Pos} (ha : PE X a (rdE Γ.W WE f)) (hb : PE X b (rdE Γ.W WE g)) (hs : notSet b = true) :
    PE X (.Compare a [cmpOf o] [b] pos) (rdE Γ.W WE fun env => bnd (f env) fun x => bnd (g env) fun y => cmpD o x y) :=
  me_two (mk := fun x _ => x) ha hb (pe_cmpR (op_cmpD C.hK (by have := C.un; omega) o) ha hb (noMarks hs))
theorem me_neg {a : Expr} {f : Env → M D} {pos : Pos} (ha : PE X a (rdE Γ.W WE f)) : PE X (.UnaryOp .USub a pos) (rdE Γ.W WE fun env => bnd (f env) negD) :=
  me_one (a := a) (pe_un un_negD ha)
theorem me_idx (C : Cxt Γ X N sc WE cf) {a b : Expr} {f g : Env → M D} {pos : Pos} (ha : PE X a (rdE Γ.W WE f)) (hb : PE X b (rdE Γ.W WE g)) (hs : notSlice b = true) :
    PE X (.Subscript a b pos) (rdE Γ.W WE fun env => bnd (f env) fun x => bnd (g env) fun y => idxD x y) :=
  me_two (mk := fun x _ => x) ha hb (pe_ix (ix_idxD C.hK) ha hb (plainIx_of hs))
/-- not e as a value -/
theorem me_not (C : Cxt Γ X N sc WE cf) {a : Expr} {f : Env → M D} {pos : Pos} (ha : PE X a (rdE Γ.W WE f)) : PE X (.UnaryOp .Not a pos) (rdE Γ.W WE fun env => bnd (f env) notD) := by
  refine PE.imp (pe_notT ha) fun σ H Q hh => ?_
  refine rd_bnd (k := fun x env => notD x) hh fun ι env a b H1 h1 m e r p => ?_
  unfold notD ofH at p
  cases q : tru a h1 with
  | none => simp only [q, Option.map_none] at p; exact p.elim
  | some k =>
    simp only [q, Option.map_some] at p
    exact ⟨k, truV_of C.hK m r q, p.here m (.bl _)⟩
/-- and, or: by truth -/
theorem me_and (C : Cxt Γ X N sc WE cf) {a b : Expr} {rest : List Expr} {f g : Env → M D} {pos : Pos} (ha : PE X a (rdE Γ.W WE f)) (hb : PE X (.BoolOp .And (b :: rest) pos) (rdE Γ.W WE g)) :
    PE X (.BoolOp .And (a :: b :: rest) pos) (rdE Γ.W WE fun env => bnd (f env) fun x => bnd (trM x) fun k => if k then g env else ret x) := by
  refine PE.imp (pe_andT ha hb) fun σ H Q hh => ?_
  refine rd_bnd (k := fun x env => bnd (trM x) fun k => if k then g env else ret x) hh fun ι env a b H1 h1 m e r p => ?_
  have p : Post Γ.W (Rep Γ.W) ι H1 ((trM a h1).bnd fun k => if k then g env else ret a) Q (fun c d H' => WE c d σ H') := p
  unfold trM ofH at p
  cases q : tru a h1 with
  | none => rw [q] at p; exact p.elim
  | some k =>
    rw [q] at p
    refine ⟨k, truV_of C.hK m r q, ?_⟩
    cases k with
    | true => exact ⟨ι, env, h1, m, e, p⟩
    | false => exact Post.here (a := a) p m r
theorem me_or (C : Cxt Γ X N sc WE cf) {a b : Expr} {rest : List Expr} {f g : Env → M D} {pos : Pos} (ha : PE X a (rdE Γ.W WE f)) (hb : PE X (.BoolOp .Or (b :: rest) pos) (rdE Γ.W WE g)) :
    PE X (.BoolOp .Or (a :: b :: rest) pos) (rdE Γ.W WE fun env => bnd (f env) fun x => bnd (trM x) fun k => if k then ret x else g env) := by
  refine PE.imp (pe_orT ha hb) fun σ H Q hh => ?_
  refine rd_bnd (k := fun x env => bnd (trM x) fun k => if k then ret x else g env) hh fun ι env a b H1 h1 m e r p => ?_
  have p : Post Γ.W (Rep Γ.W) ι H1 ((trM a h1).bnd fun k => if k then ret a else g env) Q (fun c d H' => WE c d σ H') := p
  unfold trM ofH at p
  cases q : tru a h1 with
  | none => rw [q] at p; exact p.elim
  | some k =>
    rw [q] at p
    refine ⟨k, truV_of C.hK m r q, ?_⟩
    cases k with
    | false => exact ⟨ι, env, h1, m, e, p⟩
    | true => exact Post.here (a := a) p m r
theorem me_ife {c a b : Expr} {f : Env → M Bool} {g k : Env → M D} {pos : Pos} (hc : PT X c (rdT Γ.W WE f)) (ha : PE X a (rdE Γ.W WE g)) (hb : PE X b (rdE Γ.W WE k)) :
    PE X (.IfExp c a b pos) (rdE Γ.W WE fun env => bnd (f env) fun x => if x then g env else k env) := by
  refine PE.imp (pe_ifExp hc ha hb) fun σ H Q hh => ?_
  refine rd_bnd (k := fun x env => if x then g env else k env) hh fun ι env a b H1 h1 m e r p => ?_
  subst r
  cases a with
  | true => exact ⟨ι, env, h1, m, e, p⟩
  | false => exact ⟨ι, env, h1, m, e, p⟩
/-! ### argument lists -/
theorem ml_nil : PA X [] (rdL Γ.W WE fun _ => ret []) := by
  refine PA.imp pa_nil fun σ H Q hh => ?_
  obtain ⟨ι, env, h, m, e, p⟩ := hh
  exact Post.here (a := ([] : List D)) p m .nil
theorem ml_cons {a : Expr} {es : List Expr} {f : Env → M D} {g : Env → M (List D)} (ha : PE X a (rdE Γ.W WE f)) (hb : PA X es (rdL Γ.W WE g)) (hs : notStar a = true) :
    PA X (a :: es) (rdL Γ.W WE fun env => bnd (f env) fun x => bnd (g env) fun xs => ret (x :: xs)) := by
  refine PA.imp (pa_cons ha hb (starEach_plain hs)) fun σ H Q hh => ?_
  refine rd_bnd (k := fun x env => bnd (g env) fun xs => ret (x :: xs)) hh fun ι env a b H1 h1 m e r p => ?_
  refine ⟨ι, env, h1, m, e, ?_⟩
  have p : Post Γ.W (Reps Γ.W) ι H1 ((g env h1).bnd fun xs => ret (a :: xs)) Q (fun c d H' => WE c d σ H') := p
  cases q : g env h1 with
  | ok y h2 =>
    rw [q] at p
    exact fun ι' H' v s' m' r' => p ι' H' _ s' m' (.cons (r.mono s') r')
  | exn x h2 => rw [q] at p; exact p
  | bad => rw [q] at p; exact p
/-- a display, a call: behind a list of arguments -/
theorem rdL_bnd {g : Env → M (List D)} {k : List D → M D} {σ : L2.St} {H : Hp} {Q : VK} (hh : rdE Γ.W WE (fun env => bnd (g env) k) σ H Q) {P : List V → Hp → Prop}
    (hp : ∀ ι ds vs H1 h1, Sm Γ.W ι H1 h1 → Reps Γ.W ι H1 ds vs → Post Γ.W (Rep Γ.W) ι H1 (k ds h1) Q (fun c d H' => WE c d σ H') → P vs H1) : rdL Γ.W WE g σ H P :=
  rd_bnd (k := fun x _ => k x) hh fun ι env a b H1 h1 m e r p => hp ι a b H1 h1 m r p
theorem me_tup {es : List Expr} {g : Env → M (List D)} {k : Nat} {pos : Pos} (h : PA X es (rdL Γ.W WE g)) : PE X (.Tuple es k pos) (rdE Γ.W WE fun env => bnd (g env) fun xs => if xs.length ≤ SZ then ret (.tup xs) else bad) := by
  refine PE.imp (pe_tup h) fun σ H Q hh => rdL_bnd hh fun ι ds vs H1 h1 m r p => ?_
  split at p
  · rename_i hz
    rw [r.length, SZ_eq] at hz
    exact ⟨hz, fun q hq => p ι _ _ (Step.lay hq) (m.lay hq) (rep_tup hq r)⟩
  · exact p.elim
theorem me_lst {es : List Expr} {g : Env → M (List D)} {pos : Pos} (h : PA X es (rdL Γ.W WE g)) : PE X (.List es pos) (rdE Γ.W WE fun env => bnd (g env) fun xs => if xs.length ≤ SZ then ret (.lst xs) else bad) := by
  refine PE.imp (pe_lst h) fun σ H Q hh => rdL_bnd hh fun ι ds vs H1 h1 m r p => ?_
  split at p
  · rename_i hz
    rw [r.length, SZ_eq] at hz
    exact ⟨hz, fun q hq => p ι _ _ (Step.lay hq) (m.lay hq) (rep_lst m hq r)⟩
  · exact p.elim
theorem me_cel {es : List Expr} {g : Env → M (List D)} {pos : Pos} (h : PA X es (rdL Γ.W WE g)) : PE X (.List es pos) (rdE Γ.W WE fun env => bnd (g env) fun xs => if xs.length ≤ SZ ∧ plains xs = true then fun h => .ok (.ref h.length) (h ++ [.lst xs]) else bad) := by
  refine PE.imp (pe_lst h) fun σ H Q hh => rdL_bnd hh fun ι ds vs H1 h1 m r p => ?_
  split at p
  · rename_i hz
    have hz1 := hz.1
    rw [r.length, SZ_eq] at hz1
    refine ⟨hz1, fun q hq => p (ι.app q) _ _ (Step.cell hq) (m.cellNew hq ⟨hz.2, vs, upd_same, r.mono (Step.cell hq)⟩) (.ref ?_)⟩
    show (ι.c ++ [q])[_]? = _
    rw [← m.len, List.getElem?_append_right (Nat.le_refl _), Nat.sub_self]
    rfl
  · exact p.elim
theorem me_call (C : Cxt Γ X N sc WE cf) {f : Nat} {x : Str} {ps : List Str} {e : Expr} {es : List Expr} {g : Env → M (List D)} {p pos : Pos} (hf : Γ.fname f = some (x, ps)) (hg : sc.names.lookup x = some .globalImplicit) (hn : okName x = true) (h : PA X (e :: es) (rdL Γ.W WE g)) (hs : (e :: es).all notStar = true) :
    PE X (.Call (.Name x p) (e :: es) [] pos) (rdE Γ.W WE fun env => bnd (g env) (cf f)) := by
  simp only [okName, Bool.and_eq_true, Bool.not_eq_true'] at hn
  rw [List.all_cons, Bool.and_eq_true] at hs
  obtain ⟨k, hr, F⟩ := C.fns
  obtain ⟨a, fd, hm, hk, hb, _, G⟩ := F f (x, ps) hf
  refine PE.imp (pe_callSD (E := fun σ => fun c d H' => WE c d σ H') G hr (C.gl x hg) hm hk hb .nil (fun σ => L2N.passAt C.tk σ) h hn.1.1 (starEach_plain hs.1) (star_all hs.2)) fun σ H Q hh => ?_
  refine rdL_bnd hh fun ι ds vs H1 h1 m r p => ⟨ι, h1, ds, m, ?_, p⟩
  rw [List.append_nil]
  exact r
/-- built-ins by values -/
theorem rVN_of {op : List D → M D} {g : Env → M (List D)} {σ : L2.St} {H : Hp} {Q : VK} (hh : rdE Γ.W WE (fun env => bnd (g env) op) σ H Q) : tCB (rVN Γ.W op) (rdL Γ.W WE g) σ H Q :=
  rdL_bnd hh fun ι ds vs H1 h1 m r p => by
    refine ⟨ι, h1, ds, m, r, ?_⟩
    unfold PostQ
    cases q2 : op ds h1 with
    | ok z h3 => rw [q2] at p; exact p
    | exn z h3 => exact fun _ _ _ _ _ _ _ => True.intro
    | bad => rw [q2] at p; exact p
theorem me_callB (C : Cxt Γ X N sc WE cf) {x : Str} {id : String} {op : List D → M D} {e : Expr} {es : List Expr} {g : Env → M (List D)} {p pos : Pos} (hx : x ∈ FREE) (hc : CallR X (.builtin id) (rVN Γ.W op)) (hb : bootBuiltins x = some (.builtin id)) (hg : sc.names.lookup x = some .globalImplicit) (hn : okName x = true) (h : PA X (e :: es) (rdL Γ.W WE g)) (hs : (e :: es).all notStar = true) :
    PE X (.Call (.Name x p) (e :: es) [] pos) (rdE Γ.W WE fun env => bnd (g env) op) := by
  simp only [okName, Bool.and_eq_true, Bool.not_eq_true'] at hn
  rw [List.all_cons, Bool.and_eq_true] at hs
  exact PE.imp (pe_callB hc (C.gl x hg) (C.free x hx) hb h (by have := hn.2; simpa using this) hn.1.1 (starEach_plain hs.1) (star_all hs.2)) fun σ H Q hh => rVN_of hh
theorem me_callT (C : Cxt Γ X N sc WE cf) {x : Str} {id : String} {op : List D → M D} {e : Expr} {es : List Expr} {g : Env → M (List D)} {p pos : Pos} (hx : x ∈ FREE) (hc : CallR X (.type id) (rVN Γ.W op)) (hb : bootBuiltins x = some (.type id)) (hg : sc.names.lookup x = some .globalImplicit) (hn : okName x = true) (h : PA X (e :: es) (rdL Γ.W WE g)) (hs : (e :: es).all notStar = true) :
    PE X (.Call (.Name x p) (e :: es) [] pos) (rdE Γ.W WE fun env => bnd (g env) op) := by
  simp only [okName, Bool.and_eq_true, Bool.not_eq_true'] at hn
  rw [List.all_cons, Bool.and_eq_true] at hs
  exact PE.imp (pe_callTy hc (C.gl x hg) (C.free x hx) hb h (by have := hn.2; simpa using this) hn.1.1 (starEach_plain hs.1) (star_all hs.2)) fun σ H Q hh => rVN_of hh
theorem me_blt (C : Cxt Γ X N sc WE cf) {b : BI} {e : Expr} {es : List Expr} {g : Env → M (List D)} {p pos : Pos} (hg : sc.names.lookup (biName b) = some .globalImplicit) (h : PA X (e :: es) (rdL Γ.W WE g)) (hs : (e :: es).all notStar = true) :
    PE X (.Call (.Name (biName b) p) (e :: es) [] pos) (rdE Γ.W WE fun env => bnd (g env) (bltD b)) := by
  cases b with
  | len => exact me_callB C (by decide +kernel) (cb_len C.hK) PySem.boot_len hg (by decide +kernel) h hs
  | abs => exact me_callB C (by decide +kernel) cb_abs PyProof.Rows.boot_abs hg (by decide +kernel) h hs
  | int => exact me_callT C (by decide +kernel) cb_int PyProof.Rows.boot_int hg (by decide +kernel) h hs
  | all => exact me_callB C (by decide +kernel) (cb_all C.calm C.hK) PyProof.Rows.boot_all hg (by decide +kernel) h hs
  | any => exact me_callB C (by decide +kernel) (cb_any C.calm C.hK) PyProof.Rows.boot_any hg (by decide +kernel) h hs
  | sum => exact me_callB C (by decide +kernel) (cb_sum C.calm C.hK) PyProof.Rows.boot_sum hg (by decide +kernel) h hs
  | tuple => exact me_callT C (by decide +kernel) (cb_tuple C.hK) PyProof.Rows.boot_tuple hg (by decide +kernel) h hs
  | list => exact me_callT C (by decide +kernel) (cb_list C.hK) PyProof.Rows.boot_list hg (by decide +kernel) h hs
  | max2 => exact me_callB C (by decide +kernel) (cb_max C.calm) PyProof.Rows.boot_max hg (by decide +kernel) h hs
  | min2 => exact me_callB C (by decide +kernel) (cb_min C.calm) PyProof.Rows.boot_min hg (by decide +kernel) h hs
  | str => exact me_callT C (by decide +kernel) cb_str PyProof.Rows.boot_str hg (by decide +kernel) h hs
  | divmod => exact me_callB C (by decide +kernel) cb_divmod PyProof.Rows.boot_divmod hg (by decide +kernel) h hs
/-! ### tests -/
theorem mt_plain (C : Cxt Γ X N sc WE cf) {a : Expr} {f : Env → M D} (ha : PE X a (rdE Γ.W WE f)) (hp : plainTest a = true) : PT X a (rdT Γ.W WE fun env => bnd (f env) trM) := by
  refine PT.imp (pt_truth ha (isTrue_test hp)) fun σ H Q hh => ?_
  refine rd_bnd (k := fun x env => trM x) hh fun ι env a b H1 h1 m e r p => ?_
  unfold trM ofH at p
  cases q : tru a h1 with
  | none => rw [q] at p; exact p.elim
  | some k => rw [q] at p; exact ⟨k, truV_of C.hK m r q, Post.here p m rfl⟩
end
end Mn

/-! Mn: further expressions, tests, what is walked, targets, comprehensions. -/
namespace Mn
open PySem L2
section
variable {Γ : Glob} {X : Cx} {N : List Str} {sc : Scope} {WE : WX} {cf : Nat → List D → M D}
/-! ### is None -/
theorem rep_non {W : Wd} {ι : Ix} {H : Hp} {d : D} {v : V} (r : Rep W ι H d v) : decide (v = .non) = isNonD d := by
  cases r <;> rfl
theorem me_isN {a : Expr} {f : Env → M D} {j : Nat} {pos' : Pos} (ha : PE X a (rdE Γ.W WE f)) : PC X .Is a (.Constant .none j pos') (rdE Γ.W WE fun env => bnd (f env) fun x => ret (.bl (isNonD x))) := by
  have h := pc_isN (j := j) (pos' := pos') ha
  refine ⟨fun pins s σ H Q I hh => h.run pins s σ H Q I ?_⟩
  refine rd_bnd (k := fun x env => ret (D.bl (isNonD x))) hh fun ι env a b H1 h1 m e r p => ?_
  show Q (.bl (decide (b = .non))) H1
  rw [rep_non r]
  exact Post.here (a := D.bl (isNonD a)) p m (.bl _)
theorem me_isnN {a : Expr} {f : Env → M D} {j : Nat} {pos' : Pos} (ha : PE X a (rdE Γ.W WE f)) : PC X .IsNot a (.Constant .none j pos') (rdE Γ.W WE fun env => bnd (f env) fun x => ret (.bl (!isNonD x))) := by
  have h := pc_notN (j := j) (pos' := pos') ha
  refine ⟨fun pins s σ H Q I hh => h.run pins s σ H Q I ?_⟩
  refine rd_bnd (k := fun x env => ret (D.bl (!isNonD x))) hh fun ι env a b H1 h1 m e r p => ?_
  show Q (.bl (!decide (b = .non))) H1
  rw [rep_non r]
  exact Post.here (a := D.bl (!isNonD a)) p m (.bl _)
/-! ### chains -/
/-- an evaluation goes on from a state at hand -/
theorem rd_from {α β γ δ : Type} {W : Wd} {WE : WX} {R1 : Ix → Hp → α → β → Prop} {R2 : Ix → Hp → γ → δ → Prop} {f : Env → M α} {k : α → M γ} {σ : L2.St} {H : Hp} {Q : δ → Hp → Prop} {ι : Ix} {env : Env} {h : MH}
    (m : Sm W ι H h) (e : EnvR W ι H σ env) (p : Post W R2 ι H ((f env h).bnd k) Q (fun c d H' => WE c d σ H')) {P : β → Hp → Prop}
    (hp : ∀ ι' a b H1 h1, Step ι H ι' H1 → Sm W ι' H1 h1 → EnvR W ι' H1 σ env → R1 ι' H1 a b → Post W R2 ι' H1 (k a h1) Q (fun c d H' => WE c d σ H') → P b H1) : rd W WE R1 f σ H P := by
  refine ⟨ι, env, h, m, e, ?_⟩
  show Post W R1 ι H (f env h) P _
  cases q : f env h with
  | ok a h1 =>
    rw [q] at p
    exact fun ι' H' b s' m' x => hp ι' a b H' h1 s' m' (e.mono s') x (Post.base s' p)
  | exn x h1 => rw [q] at p; exact p
  | bad => rw [q] at p; exact p
theorem cmpD_ok (o : CO) (x y : D) (h : MH) : cmpD o x y h = .bad ∨ ∃ b, cmpD o x y h = .ok (.bl b) h := by
  have oo : ∀ (z : MH → Option Bool) (g : Bool → D), (∀ b, ∃ b', g b = .bl b') → ofH (fun h => (z h).map g) h = .bad ∨ ∃ b, ofH (fun h => (z h).map g) h = .ok (.bl b) h := fun z g hg => by
    unfold ofH
    cases q : z h with
    | none => exact .inl (by simp [q])
    | some b => obtain ⟨b', e⟩ := hg b; exact .inr ⟨b', by simp [q, e]⟩
  have od : ∀ f t, ordD f t x y h = .bad ∨ ∃ b, ordD f t x y h = .ok (.bl b) h := fun f t => by
    unfold ordD
    split
    · exact .inr ⟨_, rfl⟩
    · rename_i xs ys
      cases dInts xs <;> cases dInts ys <;> first | exact .inl rfl | exact .inr ⟨_, rfl⟩
    · exact .inl rfl
  have ii : ∀ f, intB f x y h = .bad ∨ ∃ b, intB f x y h = .ok (.bl b) h := fun f => by
    unfold intB
    split
    · exact .inr ⟨_, rfl⟩
    · exact .inl rfl
  cases o with
  | eq => exact oo (eqO x y) .bl fun b => ⟨b, rfl⟩
  | ne => exact oo (eqO x y) (fun b => .bl (!b)) fun b => ⟨!b, rfl⟩
  | lt => exact od _ _
  | le => exact od _ _
  | gt => exact ii _
  | ge => exact ii _
  | isin => exact oo (inO x y) .bl fun b => ⟨b, rfl⟩
  | noti => exact oo (inO x y) (fun b => .bl (!b)) fun b => ⟨!b, rfl⟩
theorem postQ_of {W : Wd} {ι : Ix} {H : Hp} {r : R D} {Q : VK} {E : XK} (p : Post W (Rep W) ι H r Q E) : PostQ W ι H r Q := by
  unfold PostQ
  cases r with
  | ok z h3 => exact p
  | exn z h3 => exact fun _ _ _ _ _ _ _ => True.intro
  | bad => exact p
def chnD (o p : CO) (f g k : Env → M D) : Env → M D := fun env => bnd (f env) fun x => bnd (g env) fun y => bnd (cmpD o x y) fun r => match r with
    | .bl false => ret (.bl false)
    | .bl true => bnd (k env) fun z => cmpD p y z
    | _ => bad
theorem chn_rd {f g k : Env → M D} {o p : CO} {σ : L2.St} {H : Hp} {Q : VK} (hh : rdE Γ.W WE (chnD o p f g k) σ H Q) : tChain (rV2 Γ.W (cmpD o)) (rV2 Γ.W (cmpD p)) (rdE Γ.W WE f) (rdE Γ.W WE g) (rdE Γ.W WE k) σ H Q := by
  refine rd_bnd (k := fun x env => bnd (g env) fun y => bnd (cmpD o x y) fun r => match r with
    | .bl false => ret (.bl false)
    | .bl true => bnd (k env) fun z => cmpD p y z
    | _ => bad) hh fun ι env d1 v1 H1 h1 m e r1 p1 => ?_
  refine rd_from m e p1 fun ι2 d2 v2 H2 h2 s2 m2 e2 r2 p2 => ?_
  refine ⟨ι2, h2, d1, d2, m2, r1.mono s2, r2, ?_⟩
  rcases cmpD_ok o d1 d2 h2 with hb | ⟨b, hb⟩
  · unfold bnd at p2
    rw [hb] at p2
    exact p2.elim
  · rw [hb]
    unfold bnd at p2
    rw [hb] at p2
    intro ι3 H3 v3 s3 m3 r3
    cases r3
    refine ⟨b, rfl, ?_⟩
    cases b with
    | false => exact p2 ι3 H3 _ s3 m3 (.bl _)
    | true =>
      refine rd_from (f := k) (k := fun z => cmpD p d2 z) m3 (e2.mono s3) (Post.base s3 p2) fun ι4 d4 v4 H4 h4 s4 m4 e4 r4 p4 => ?_
      exact ⟨ι4, h4, d2, d4, m4, (r2.mono s3).mono s4, r4, postQ_of p4⟩
theorem me_chn (C : Cxt Γ X N sc WE cf) {a b c : Expr} {f g k : Env → M D} {o p : CO} {pos : Pos} (ha : PE X a (rdE Γ.W WE f)) (hb : PE X b (rdE Γ.W WE g)) (hc : PE X c (rdE Γ.W WE k)) (hs : notSet c = true) :
    PE X (.Compare a [cmpOf o, cmpOf p] [b, c] pos) (rdE Γ.W WE (chnD o p f g k)) := by
  have hu : X.A.units + 65 < cLine := by have := C.un; omega
  exact PE.imp (pe_chain (op_cmpD C.hK hu o) (op_cmpD C.hK hu p) ha hb hc (by show behindInMarks _ _ = false; exact noMarks hs)) fun σ H Q hh => chn_rd hh
/-! ### slices -/
/-- a part of a slice -/
theorem mo_none : PO X none (rd Γ.W WE (fun _ _ a b => a = b) fun _ => ret (none : Option Int)) := by
  have h : PO X none tNoPart := po_none
  refine ⟨fun pins s σ H Q I hh => h.run pins s σ H Q I ?_⟩
  obtain ⟨ι, env, h, m, e, p⟩ := hh
  exact Post.here (a := (none : Option Int)) p m rfl
theorem mo_some {a : Expr} {f : Env → M D} (ha : PE X a (rdE Γ.W WE f)) : PO X (some a) (rd Γ.W WE (fun _ _ a b => a = b) fun env => bnd (f env) fun x => match x with
    | .int i => ret (some i)
    | _ => bad) := by
  have h := po_some ha
  refine ⟨fun pins s σ H Q I hh => h.run pins s σ H Q I ?_⟩
  refine rd_bnd (k := fun x env => match x with
    | .int i => ret (some i)
    | _ => bad) hh fun ι env d v H1 h1 m e r p => ?_
  cases r <;> first | (exact p.elim) | skip
  rename_i i
  exact ⟨i, rfl, Post.here (a := some i) p m rfl⟩
theorem me_slc (C : Cxt Γ X N sc WE cf) {a : Expr} {lo hi : Option Expr} {f : Env → M D} {g k : Env → M (Option Int)} {pos p2 : Pos} (ha : PE X a (rdE Γ.W WE f)) (hl : PO X lo (rd Γ.W WE (fun _ _ a b => a = b) g)) (hu : PO X hi (rd Γ.W WE (fun _ _ a b => a = b) k)) :
    PE X (.Subscript a (.Slice lo hi none p2) pos) (rdE Γ.W WE fun env => bnd (f env) fun x => bnd (g env) fun l => bnd (k env) fun u => slcD x l u) := by
  refine PE.imp (pe_slice (sl_slcD C.hK) ha hl hu) fun σ H Q hh => ?_
  refine rd_bnd (k := fun x env => bnd (g env) fun l => bnd (k env) fun u => slcD x l u) hh fun ι env d1 v1 H1 h1 m e r1 p1 => ?_
  refine rd_from m e p1 fun ι2 l2 l2' H2 h2 s2 m2 e2 r2 p2 => ?_
  subst r2
  refine rd_from (f := k) (k := fun u => slcD d1 l2 u) m2 e2 p2 fun ι3 l3 l3' H3 h3 s3 m3 e3 r3 p3 => ?_
  subst r3
  exact ⟨ι3, h3, d1, m3, (r1.mono s2).mono s3, postQ_of p3⟩
/-! ### isinstance -/
theorem me_isi (C : Cxt Γ X N sc WE cf) {a : Expr} {f : Env → M D} {t : TY} {p q pos : Pos} (ha : PE X a (rdE Γ.W WE f)) (hs : notStar a = true) (hg : sc.names.lookup ("isinstance" : Str) = some .globalImplicit) (hg2 : sc.names.lookup (Str.ofString (tyName t)) = some .globalImplicit) :
    PE X (.Call (.Name "isinstance" p) [a, .Name (Str.ofString (tyName t)) q] [] pos) (rdE Γ.W WE fun env => bnd (f env) fun x => isiD t x) := by
  have hT : PE X (.Name (Str.ofString (tyName t)) q) (tC (.ty (tyName t))) := by
    cases t
    · exact pe_bltn (v := .ty "int") (C.gl _ hg2) (C.free _ (by decide +kernel)) PyProof.Rows.boot_int rfl
    · exact pe_bltn (v := .ty "bool") (C.gl _ hg2) (C.free _ (by decide +kernel)) PyProof.Rows.boot_bool rfl
    · exact pe_bltn (v := .ty "str") (C.gl _ hg2) (C.free _ (by decide +kernel)) PyProof.Rows.boot_str rfl
    · exact pe_bltn (v := .ty "tuple") (C.gl _ hg2) (C.free _ (by decide +kernel)) PyProof.Rows.boot_tuple rfl
    · exact pe_bltn (v := .ty "list") (C.gl _ hg2) (C.free _ (by decide +kernel)) PyProof.Rows.boot_list rfl
  have hA : PA X [a, .Name (Str.ofString (tyName t)) q] (tCons (rdE Γ.W WE f) (tCons (tC (.ty (tyName t))) tNil)) := pa_cons ha (pa_cons hT pa_nil) (starEach_plain hs)
  have hC : CallR X (.builtin "isinstance") (fun xs H Q => ∃ x, xs = [x, .ty (tyName t)] ∧ rV1 Γ.W (isiD t) x H Q) := by
    intro pins s σ H xs us Q I rs hh
    obtain ⟨x, rfl, hh⟩ := hh
    exact cb_isi C.hK t I rs hh
  refine PE.imp (pe_callB hC (C.gl _ hg) (C.free _ (by decide +kernel)) PyProof.Rows.boot_isinstance hA (by decide +kernel) (by decide +kernel) (starEach_plain hs) rfl) fun σ H Q hh => ?_
  refine rd_bnd (k := fun x env => isiD t x) hh fun ι env d1 v1 H1 h1 m e r1 p1 => ?_
  exact ⟨v1, rfl, ι, h1, d1, m, r1, postQ_of p1⟩
/-! ### tests of other forms -/
/-- always a truth value -/
def BoolM (f : Env → M D) : Prop := ∀ env h d h', f env h = .ok d h' → ∃ b, d = .bl b
theorem rdT_bool {f : Env → M D} (hb : BoolM f) {σ : L2.St} {H : Hp} {Q : Bool → Hp → Prop} (hh : rdT Γ.W WE (fun env => bnd (f env) trM) σ H Q) : rdE Γ.W WE f σ H fun x H' => ∃ k, x = .bl k ∧ Q k H' := by
  obtain ⟨ι, env, h, m, e, p⟩ := hh
  refine ⟨ι, env, h, m, e, ?_⟩
  have p : Post Γ.W (fun _ _ a b => a = b) ι H ((f env h).bnd trM) Q (fun c d H' => WE c d σ H') := p
  show Post Γ.W (Rep Γ.W) ι H (f env h) _ _
  cases q : f env h with
  | ok a h1 =>
    rw [q] at p
    obtain ⟨b, rfl⟩ := hb env h a h1 q
    intro ι' H' v s' m' r
    cases r
    exact ⟨b, rfl, p ι' H' b s' m' rfl⟩
  | exn x h1 => rw [q] at p; exact p
  | bad => rw [q] at p; exact p
theorem bnd_ok {α β : Type} {r : R α} {k : α → MH → R β} {b : β} {h : MH} (e : r.bnd k = .ok b h) : ∃ a h1, r = .ok a h1 ∧ k a h1 = .ok b h := by
  cases r with
  | ok a h1 => exact ⟨a, h1, rfl, e⟩
  | exn x h1 => cases e
  | bad => cases e
theorem boolM_cmp {o : CO} {f g : Env → M D} : BoolM fun env => bnd (f env) fun x => bnd (g env) fun y => cmpD o x y := fun env h d h' e => by
  obtain ⟨x, h1, _, e1⟩ := bnd_ok e
  obtain ⟨y, h2, _, e2⟩ := bnd_ok e1
  rcases cmpD_ok o x y h2 with q | ⟨b, q⟩
  · rw [q] at e2; cases e2
  · rw [q] at e2; cases e2; exact ⟨b, rfl⟩
theorem boolM_chn {o p : CO} {f g k : Env → M D} : BoolM (chnD o p f g k) := fun env h d h' e => by
  obtain ⟨x, h1, _, e1⟩ := bnd_ok e
  obtain ⟨y, h2, _, e2⟩ := bnd_ok e1
  obtain ⟨r, h3, e3, e4⟩ := bnd_ok e2
  rcases cmpD_ok o x y h2 with q | ⟨b, q⟩
  · rw [q] at e3; cases e3
  · rw [q] at e3
    cases e3
    cases b with
    | false => cases e4; exact ⟨_, rfl⟩
    | true =>
      obtain ⟨z, h4, _, e5⟩ := bnd_ok e4
      rcases cmpD_ok p y z h4 with q | ⟨b, q⟩
      · rw [q] at e5; cases e5
      · rw [q] at e5; cases e5; exact ⟨b, rfl⟩
theorem mt_cmp (C : Cxt Γ X N sc WE cf) {a b : Expr} {f g : Env → M D} {o : CO} {pos : Pos} (ha : PE X a (rdE Γ.W WE f)) (hb : PE X b (rdE Γ.W WE g)) (hs : notSet b = true) :
    PT X (.Compare a [cmpOf o] [b] pos) (rdT Γ.W WE fun env => bnd (bnd (f env) fun x => bnd (g env) fun y => cmpD o x y) trM) := by
  refine PT.imp (pt_cmpR (op_cmpD C.hK (by have := C.un; omega) o) ha hb (noMarks hs)) fun σ H Q hh => ?_
  have h1 := rdT_bool boolM_cmp hh
  refine rd_bnd (k := fun x env => bnd (g env) fun y => cmpD o x y) h1 fun ι env a b H1 h1 m e r p => ?_
  refine rd_from m e p fun ι2 d2 v2 H2 h2 s2 m2 e2 r2 p2 => ?_
  exact ⟨ι2, h2, a, d2, m2, r.mono s2, r2, postQ_of p2⟩
theorem mt_chn (C : Cxt Γ X N sc WE cf) {a b c : Expr} {f g k : Env → M D} {o p : CO} {pos : Pos} (ha : PE X a (rdE Γ.W WE f)) (hb : PE X b (rdE Γ.W WE g)) (hc : PE X c (rdE Γ.W WE k)) (hs : notSet c = true) :
    PT X (.Compare a [cmpOf o, cmpOf p] [b, c] pos) (rdT Γ.W WE fun env => bnd (chnD o p f g k env) trM) := by
  have hu : X.A.units + 65 < cLine := by have := C.un; omega
  exact PT.imp (pt_chain (op_cmpD C.hK hu o) (op_cmpD C.hK hu p) ha hb hc (by show behindInMarks _ _ = false; exact noMarks hs)) fun σ H Q hh => chn_rd (rdT_bool boolM_chn hh)
theorem mt_isN {op : CmpOp} {a : Expr} {f : Env → M D} {j : Nat} {pos pos' : Pos} (hb : BoolM f) (h : PC X op a (.Constant .none j pos') (rdE Γ.W WE f)) : PT X (.Compare a [op] [.Constant .none j pos'] pos) (rdT Γ.W WE fun env => bnd (f env) trM) :=
  PT.imp (pt_cmp h rfl) fun σ H Q hh => rdT_bool hb hh
theorem mt_not {a : Expr} {f : Env → M D} {pos : Pos} (ha : PT X a (rdT Γ.W WE fun env => bnd (f env) trM)) : PT X (.UnaryOp .Not a pos) (rdT Γ.W WE fun env => bnd (bnd (f env) notD) trM) := by
  refine PT.imp (pt_not ha) fun σ H Q hh => ?_
  obtain ⟨ι, env, h, m, e, p⟩ := hh
  refine ⟨ι, env, h, m, e, ?_⟩
  have p : Post Γ.W (fun _ _ a b => a = b) ι H (((f env h).bnd notD).bnd trM) Q (fun c d H' => WE c d σ H') := p
  show Post Γ.W _ ι H ((f env h).bnd trM) _ _
  cases q : f env h with
  | ok a h1 =>
    rw [q] at p
    have p : Post Γ.W (fun _ _ a b => a = b) ι H ((notD a h1).bnd trM) Q (fun c d H' => WE c d σ H') := p
    show Post Γ.W _ ι H (trM a h1) _ _
    unfold notD ofH at p
    unfold trM ofH
    cases q2 : tru a h1 with
    | none => simp only [q2, Option.map_none] at p; exact p
    | some k =>
      simp only [q2, Option.map_some] at p
      intro ι' H' b s' m' r
      subst r
      exact p ι' H' _ s' m' rfl
  | exn x h1 => rw [q] at p; exact p
  | bad => rw [q] at p; exact p
theorem mw_and {a b : Expr} {rest : List Expr} {f g : Env → M D} {pos : Pos} (ha : PT X a (rdT Γ.W WE fun env => bnd (f env) trM)) (hb : PW X (.BoolOp .And (b :: rest) pos) (rdT Γ.W WE fun env => bnd (g env) trM)) :
    PW X (.BoolOp .And (a :: b :: rest) pos) (rdT Γ.W WE fun env => bnd (bnd (f env) fun x => bnd (trM x) fun k => if k then g env else ret x) trM) := by
  refine PW.imp (pw_and ha hb) fun σ H Q hh => ?_
  obtain ⟨ι, env, h, m, e, p⟩ := hh
  refine ⟨ι, env, h, m, e, ?_⟩
  have p : Post Γ.W (fun _ _ a b => a = b) ι H (((f env h).bnd fun x => bnd (trM x) fun k => if k then g env else ret x).bnd trM) Q (fun c d H' => WE c d σ H') := p
  show Post Γ.W _ ι H ((f env h).bnd trM) _ _
  cases q : f env h with
  | ok a h1 =>
    rw [q] at p
    have p : Post Γ.W (fun _ _ a b => a = b) ι H (((trM a h1).bnd fun k => if k then g env else ret a).bnd trM) Q (fun c d H' => WE c d σ H') := p
    show Post Γ.W _ ι H (trM a h1) _ _
    cases q2 : trM a h1 with
    | ok k h2 =>
      have e2 : h2 = h1 := by
        unfold trM ofH at q2
        cases q3 : tru a h1 with
        | none => rw [q3] at q2; cases q2
        | some k' => rw [q3] at q2; cases q2; rfl
      subst e2
      rw [q2] at p
      intro ι' H' b s' m' r
      subst r
      cases k with
      | true => exact ⟨ι', env, h2, m', e.mono s', Post.base s' p⟩
      | false =>
        have p : Post Γ.W (fun _ _ a b => a = b) ι H (trM a h2) Q (fun c d H' => WE c d σ H') := p
        rw [q2] at p
        exact p ι' H' _ s' m' rfl
    | exn x h2 => rw [q2] at p; exact p
    | bad => rw [q2] at p; exact p
  | exn x h1 => rw [q] at p; exact p
  | bad => rw [q] at p; exact p
theorem mw_or {a b : Expr} {rest : List Expr} {f g : Env → M D} {pos : Pos} (ha : PT X a (rdT Γ.W WE fun env => bnd (f env) trM)) (hb : PW X (.BoolOp .Or (b :: rest) pos) (rdT Γ.W WE fun env => bnd (g env) trM)) :
    PW X (.BoolOp .Or (a :: b :: rest) pos) (rdT Γ.W WE fun env => bnd (bnd (f env) fun x => bnd (trM x) fun k => if k then ret x else g env) trM) := by
  refine PW.imp (pw_or ha hb) fun σ H Q hh => ?_
  obtain ⟨ι, env, h, m, e, p⟩ := hh
  refine ⟨ι, env, h, m, e, ?_⟩
  have p : Post Γ.W (fun _ _ a b => a = b) ι H (((f env h).bnd fun x => bnd (trM x) fun k => if k then ret x else g env).bnd trM) Q (fun c d H' => WE c d σ H') := p
  show Post Γ.W _ ι H ((f env h).bnd trM) _ _
  cases q : f env h with
  | ok a h1 =>
    rw [q] at p
    have p : Post Γ.W (fun _ _ a b => a = b) ι H (((trM a h1).bnd fun k => if k then ret a else g env).bnd trM) Q (fun c d H' => WE c d σ H') := p
    show Post Γ.W _ ι H (trM a h1) _ _
    cases q2 : trM a h1 with
    | ok k h2 =>
      have e2 : h2 = h1 := by
        unfold trM ofH at q2
        cases q3 : tru a h1 with
        | none => rw [q3] at q2; cases q2
        | some k' => rw [q3] at q2; cases q2; rfl
      subst e2
      rw [q2] at p
      intro ι' H' b s' m' r
      subst r
      cases k with
      | false => exact ⟨ι', env, h2, m', e.mono s', Post.base s' p⟩
      | true =>
        have p : Post Γ.W (fun _ _ a b => a = b) ι H (trM a h2) Q (fun c d H' => WE c d σ H') := p
        rw [q2] at p
        exact p ι' H' _ s' m' rfl
    | exn x h2 => rw [q2] at p; exact p
    | bad => rw [q2] at p; exact p
  | exn x h1 => rw [q] at p; exact p
  | bad => rw [q] at p; exact p
end
end Mn

/-! Mn: targets, what is walked, comprehensions. -/
namespace Mn
open PySem L2
/-! ### targets -/
def slots : Tg → List Nat
  | .nm i => [i]
  | .tp l => slots l
  | .nil => []
  | .cons t l => slots t ++ slots l
/-- the same but for some slots -/
def Off (is : List Nat) (σ σ' : L2.St) : Prop := σ'.length = σ.length ∧ ∀ j, j ∉ is → σ'[j]? = σ[j]?
theorem Off.refl (is : List Nat) (σ : L2.St) : Off is σ σ := ⟨rfl, fun _ _ => rfl⟩
theorem Off.trans {is js : List Nat} {σ σ1 σ2 : L2.St} (a : Off is σ σ1) (b : Off js σ1 σ2) : Off (is ++ js) σ σ2 :=
  ⟨b.1.trans a.1, fun j n => by
    rw [List.mem_append, not_or] at n
    exact (b.2 j n.2).trans (a.2 j n.1)⟩
theorem wipe_at {σ : L2.St} : ∀ {vs : List Nat} {j : Nat}, (L2.wipe σ vs)[j]? = if j ∈ vs ∧ j < σ.length then some none else σ[j]?
  | [], j => by simp [L2.wipe]
  | v :: vs, j => by
    unfold L2.wipe
    by_cases q : v = j
    · subst q
      by_cases hl : v < σ.length
      · rw [List.getElem?_set_self (by rw [wipe_length]; exact hl), if_pos ⟨List.mem_cons_self, hl⟩]
      · rw [if_neg (fun z => hl z.2), List.getElem?_eq_none (by rw [List.length_set, wipe_length]; omega), List.getElem?_eq_none (by omega)]
    · rw [List.getElem?_set_ne q, wipe_at (vs := vs)]
      have e : (j ∈ v :: vs) ↔ j ∈ vs := by
        rw [List.mem_cons]
        exact ⟨fun h => h.elim (fun z => absurd z.symm q) id, .inr⟩
      simp only [e]
theorem wipe_off {is vs : List Nat} {σ σ' : L2.St} (o : Off is σ σ') (sub : ∀ i ∈ is, i ∈ vs) : L2.wipe σ' vs = L2.wipe σ vs := by
  refine List.ext_getElem? fun j => ?_
  rw [wipe_at, wipe_at, o.1]
  split
  · rfl
  · rename_i h
    by_cases hl : j < σ.length
    · exact o.2 j (fun hj => h ⟨sub j hj, hl⟩)
    · rw [List.getElem?_eq_none (by rw [o.1]; omega), List.getElem?_eq_none (by omega)]
def gB (W : Wd) (t : Tg) : TG := fun v σ H Q => ∃ ι env h d env', Sm W ι H h ∧ EnvR W ι H σ env ∧ Rep W ι H d v ∧ bind t d env h = some env' ∧ ∀ σ', EnvR W ι H σ' env' → Off (slots t) σ σ' → Q σ' H
def gBs (W : Wd) (t : Tg) : TGs := fun vs σ H Q => ∃ ι env h ds env', Sm W ι H h ∧ EnvR W ι H σ env ∧ Reps W ι H ds vs ∧ binds t ds env h = some env' ∧ ∀ σ', EnvR W ι H σ' env' → Off (slots t) σ σ' → Q σ' H
theorem PG.imp {X : Cx} {e : Expr} {t t' : TG} (h : PG X e t) (i : ∀ v σ H Q, t' v σ H Q → t v σ H Q) : PG X e t' := ⟨fun pins s σ H v u Q I r w => h.run pins s σ H v u Q I r (i v σ H Q w)⟩
theorem PGs.imp {X : Cx} {e : List Expr} {t t' : TGs} (h : PGs X e t) (i : ∀ v σ H Q, t' v σ H Q → t v σ H Q) : PGs X e t' := ⟨fun pins s σ H v u Q I r w => h.run pins s σ H v u Q I r (i v σ H Q w)⟩
theorem PG.or {X : Cx} {e : Expr} {t t' : TG} (h : PG X e t) (h' : PG X e t') : PG X e (fun v σ H Q => t v σ H Q ∨ t' v σ H Q) := ⟨fun pins s σ H v u Q I r w => w.elim (h.run pins s σ H v u Q I r) (h'.run pins s σ H v u Q I r)⟩
theorem assignEach_plain {e : Expr} {es : List Expr} {env : PySem.Env} (h : notStar e = true) : assignEach (e :: es) env = (false, assign e env) :: assignEach es env := by
  cases e <;> first | rfl | (cases h; done)
theorem assignEach_len {env : PySem.Env} : ∀ es : List Expr, (assignEach es env).length = es.length
  | [] => rfl
  | e :: es => by cases e <;> (show (assignEach es env).length + 1 = es.length + 1; rw [assignEach_len es])
theorem assignEach_nostar {env : PySem.Env} : ∀ {es : List Expr}, es.all notStar = true → (assignEach es env).findIdx? (·.1) = none
  | [], _ => rfl
  | e :: es, h => by
    rw [List.all_cons, Bool.and_eq_true] at h
    rw [assignEach_plain h.1, List.findIdx?_cons]
    simp [assignEach_nostar h.2]
section
variable {Γ : Glob} {X : Cx} {N : List Str} {sc : Scope} {WE : WX} {cf : Nat → List D → M D}
theorem mg_nm (C : Cxt Γ X N sc WE cf) {i : Nat} {x : Str} {k : NameKind} {pos : Pos} (hi : N[i]? = some x) (hx : sc.names.lookup x = some k) (hk : k = .local ∨ k = .cell) : PG X (.Name x pos) (gB Γ.W (.nm i)) := by
  obtain ⟨h1, h2⟩ := C.loc x k hx hk
  have hl : Loc X.env.scope x := by
    rcases hk with rfl | rfl
    · exact .inl h1
    · exact .inr h1
  have hf : X.fn x = true ∨ X.env.scope.names.lookup x = some .local := by
    rcases h2 with rfl | h2
    · exact .inr h1
    · exact .inl h2
  refine PG.imp (pg_name (i := i) (by rw [C.hN]; exact C.nd) (by rw [C.hN]; exact hi) hl hf) fun v σ H Q hh => ?_
  obtain ⟨ι, env, h, d, env', m, e, r, b, q⟩ := hh
  unfold bind at b
  split at b
  · cases b
    refine q _ (e.set r) ⟨by simp, fun j n => ?_⟩
    have n' : ¬ j = i := by simpa [slots] using n
    exact List.getElem?_set_ne (fun z => n' z.symm)
  · cases b
theorem mgs_nil : PGs X [] (gBs Γ.W .nil) := by
  refine PGs.imp pgs_nil fun v σ H Q hh => ?_
  obtain ⟨ι, env, h, ds, env', m, e, r, b, q⟩ := hh
  cases ds with
  | nil =>
    cases r
    cases b
    exact ⟨rfl, q σ e (Off.refl _ _)⟩
  | cons d ds => cases b
theorem mgs_cons {e : Expr} {es : List Expr} {t l : Tg} (h1 : PG X e (gB Γ.W t)) (h2 : PGs X es (gBs Γ.W l)) (hs : notStar e = true) : PGs X (e :: es) (gBs Γ.W (.cons t l)) := by
  refine PGs.imp (pgs_cons h1 h2 (by rw [assignEach_plain hs]; rfl)) fun v σ H Q hh => ?_
  obtain ⟨ι, env, h, ds, env', m, e, r, b, q⟩ := hh
  cases ds with
  | nil => cases b
  | cons d ds =>
    cases r with
    | cons r t' =>
      unfold binds at b
      cases b1 : bind t d env h with
      | none => rw [b1] at b; cases b
      | some e1 =>
        rw [b1] at b
        exact ⟨_, _, rfl, ι, env, h, d, e1, m, e, r, b1, fun σ1 er o1 => ⟨ι, e1, h, ds, env', m, er, t', b, fun σ2 er2 o2 => q σ2 er2 (o1.trans o2)⟩⟩
theorem binds_len : ∀ {l : Tg} {ds : List D} {env env' : Env} {h : MH} {es : List Expr}, binds l ds env h = some env' → (∀ ds' env e', binds l ds' env h = some e' → ds'.length = es.length) → ds.length = es.length := fun b f => f _ _ _ b
/-- how many targets -/
def tgLen : Tg → Nat
  | .cons _ l => tgLen l + 1
  | _ => 0
theorem binds_tgLen : ∀ {l : Tg} {ds : List D} {env env' : Env} {h : MH}, binds l ds env h = some env' → ds.length = tgLen l
  | .nil, [], _, _, _, _ => rfl
  | .nil, _ :: _, _, _, _, e => by cases e
  | .cons t l, [], _, _, _, e => by cases e
  | .cons t l, d :: ds, env, env', h, e => by
    unfold binds at e
    cases b1 : bind t d env h with
    | none => rw [b1] at e; cases e
    | some e1 => rw [b1] at e; show ds.length + 1 = tgLen l + 1; rw [binds_tgLen e]
  | .nm _, _, _, _, _, e => by cases e
  | .tp _, _, _, _, _, e => by cases e
theorem mg_tp (C : Cxt Γ X N sc WE cf) {es : List Expr} {l : Tg} {k : Nat} {pos : Pos} (h : PGs X es (gBs Γ.W l)) (hs : es.all notStar = true) (hl : tgLen l = es.length) : PG X (.Tuple es k pos) (gB Γ.W (.tp l)) := by
  refine PG.imp (PG.or (pg_tup C.calm h (assignEach_len es) (assignEach_nostar hs)) (pg_unl C.calm h (assignEach_len es) (assignEach_nostar hs))) fun v σ H Q hh => ?_
  obtain ⟨ι, env, h, d, env', m, e, r, b, q⟩ := hh
  unfold bind at b
  split at b
  · rename_i xs
    cases r with
    | tup s1 q1 =>
      exact .inl ⟨_, _, rfl, SqT.of s1, by rw [← q1.length, binds_tgLen b, hl], ι, env, h, xs, env', m, e, q1, b, q⟩
  · split at b
    · rename_i xs e1
      obtain ⟨a, vs, rfl, h1, q1⟩ := lItems_rep m r e1
      exact .inr ⟨_, _, rfl, SqL.of h1, by rw [← q1.length, binds_tgLen b, hl], ι, env, h, xs, env', m, e, q1, b, q⟩
    · cases b
/-! ### what is walked -/
/-- the iterator J goes over the source s, from the state (ι0, H0) on -/
structure SrcR (W : Wd) (ι0 : Ix) (H0 : Hp) (s : Src) (J : It) : Prop where
  go : ∀ ι H h k d, Step ι0 H0 ι H → Sm W ι H h → s.at k h = some d → J.go k H ∧ ∀ x H', J.yld k H x H' → Step ι H ι H' ∧ Sm W ι H' h ∧ Rep W ι H' d x
  stop : ∀ ι H h, Step ι0 H0 ι H → Sm W ι H h → s.done h = true → J.stop s.count H
def PostI (W : Wd) (ι : Ix) (H : Hp) (r : R Src) (Q : It → Hp → Prop) (E : XK) : Prop := match r with
  | .ok s h => ∀ ι' H' J, Step ι H ι' H' → Sm W ι' H' h → SrcR W ι' H' s J → Q J H'
  | .exn e h => ∀ ι' H' cls d, Step ι H ι' H' → Sm W ι' H' h → RepX W ι' H' e cls d → E cls d H'
  | .bad => False
def rdI (W : Wd) (WE : WX) (f : Env → M Src) : TI := fun σ H R => ∃ ι env h, Sm W ι H h ∧ EnvR W ι H σ env ∧ PostI W ι H (f env h) R fun c d H' => WE c d σ H'
theorem PI.imp {X : Cx} {tg e : Expr} {t t' : TI} (h : PI X tg e t) (i : ∀ σ H Q, t' σ H Q → t σ H Q) : PI X tg e t' := ⟨fun pins s σ H Q I w => h.run pins s σ H Q I (i σ H Q w)⟩
theorem PI.or {X : Cx} {tg e : Expr} {t t' : TI} (h : PI X tg e t) (h' : PI X tg e t') : PI X tg e (fun σ H Q => t σ H Q ∨ t' σ H Q) := ⟨fun pins s σ H Q I w => w.elim (h.run pins s σ H Q I) (h'.run pins s σ H Q I)⟩
theorem srcR_list {W : Wd} {ι0 : Ix} {H0 : Hp} {a : Addr} {ds : List D} {vs : List V} (h : H0 a = some (.lst vs)) (n : a ∉ ι0.c) (r : Reps W ι0 H0 ds vs) : SrcR W ι0 H0 (.seq ds) (Itl W.K a) where
  go := fun ι H hp k d st m e => by
    have h1 := (lst_mono st n h).1
    obtain ⟨v, hv, rv⟩ := (r.mono st).get e
    refine ⟨⟨vs, v, SqL.of h1, hv⟩, fun x H' y => ?_⟩
    obtain ⟨rfl, y⟩ := y
    have := y vs (SqL.of h1)
    rw [hv] at this
    cases this
    exact ⟨Step.refl _ _, m, rv⟩
  stop := fun ι H hp st m _ => ⟨vs, SqL.of (lst_mono st n h).1, by rw [← r.length]; exact Nat.le_refl _⟩
theorem srcR_tup {W : Wd} {ι0 : Ix} {H0 : Hp} {a : Addr} {ds : List D} {vs : List V} (h : SqT W.K H0 a vs) (r : Reps W ι0 H0 ds vs) : SrcR W ι0 H0 (.seq ds) (Itt W.K a) where
  go := fun ι H hp k d st m e => by
    have h1 := sqt_mono st h
    obtain ⟨v, hv, rv⟩ := (r.mono st).get e
    refine ⟨⟨vs, v, h1, hv⟩, fun x H' y => ?_⟩
    obtain ⟨rfl, y⟩ := y
    have := y vs h1
    rw [hv] at this
    cases this
    exact ⟨Step.refl _ _, m, rv⟩
  stop := fun ι H hp st m _ => ⟨vs, sqt_mono st h, by rw [← r.length]; exact Nat.le_refl _⟩
theorem srcR_cel {W : Wd} {ι0 : Ix} {H0 : Hp} {a : Addr} {i n : Nat} (h : ι0.c[i]? = some a) : SrcR W ι0 H0 (.cel i n) (Itl W.K a) where
  go := fun ι H hp k d st m e => by
    unfold Src.at at e
    simp only at e
    split at e
    · rename_i xs hc
      split at e
      · obtain ⟨a', ha, _, vs, h1, r⟩ := m.get hc
        rw [st.pre i a h] at ha
        cases ha
        obtain ⟨v, hv, rv⟩ := r.get e
        refine ⟨⟨vs, v, SqL.of h1, hv⟩, fun x H' y => ?_⟩
        obtain ⟨rfl, y⟩ := y
        have := y vs (SqL.of h1)
        rw [hv] at this
        cases this
        exact ⟨Step.refl _ _, m, rv⟩
      · cases e
    · cases e
  stop := fun ι H hp st m e => by
    unfold Src.done at e
    simp only at e
    split at e
    · rename_i xs hc
      obtain ⟨a', ha, _, vs, h1, r⟩ := m.get hc
      rw [st.pre i a h] at ha
      cases ha
      have e' := of_decide_eq_true e
      exact ⟨vs, SqL.of h1, by rw [← r.length, e']; exact Nat.le_refl _⟩
    · cases e
theorem rep_key {W : Wd} {ι : Ix} {H : Hp} (k : L2.Key) : Rep W ι H (keyD k) (kV k) := by
  cases k with
  | inl i => exact .int i
  | inr x => exact .str x
theorem reps_key {W : Wd} {ι : Ix} {H : Hp} : ∀ (k : List L2.Key), Reps W ι H (k.map keyD) (k.map kV)
  | [] => .nil
  | a :: r => .cons (rep_key a) (reps_key r)
theorem srcR_keys {W : Wd} {ι0 : Ix} {H0 : Hp} {a : Addr} {od : Obj} {ws : List (List L2.Key × V)} (h : H0 a = some (.frz od (.dT ws))) : SrcR W ι0 H0 (.keys (ws.map (·.1))) (Itkt a od ws) where
  go := fun ι H hp k d st m e => by
    have h1 := st.frzs a _ _ h
    unfold Src.at at e
    simp only at e
    obtain ⟨kk, hk, rfl⟩ := Option.map_eq_some_iff.mp e
    rw [List.getElem?_map] at hk
    obtain ⟨kv, hkv, rfl⟩ := Option.map_eq_some_iff.mp hk
    have hl : k < ws.length := by
      rcases Nat.lt_or_ge k ws.length with q | q
      · exact q
      · rw [List.getElem?_eq_none q] at hkv; cases hkv
    refine ⟨⟨h1, hl⟩, fun x H' y => ?_⟩
    obtain ⟨rfl, k1, v1, q, e1, rfl, hq⟩ := y
    rw [hkv] at e1
    cases e1
    exact ⟨Step.refl _ _, m, .tup hq (reps_key _)⟩
  stop := fun ι H hp st m _ => ⟨st.frzs a _ _ h, by show ws.length ≤ (ws.map (·.1)).length; rw [List.length_map]; exact Nat.le_refl _⟩
theorem srcR_rng {W : Wd} {ι0 : Ix} {H0 : Hp} {lo : Int} {n : Nat} : SrcR W ι0 H0 (.rng lo n) (Itr lo n) where
  go := fun ι H hp k d st m e => by
    unfold Src.at at e
    simp only at e
    split at e
    · rename_i hk
      cases e
      refine ⟨hk, fun x H' y => ?_⟩
      obtain ⟨rfl, rfl⟩ := y
      exact ⟨Step.refl _ _, m, .int _⟩
    · cases e
  stop := fun ι H hp st m _ => Nat.le_refl _
theorem srcR_enm {W : Wd} {ι0 : Ix} {H0 : Hp} {a : Addr} {ds : List D} {vs : List V} (h : H0 a = some (.lst vs)) (n : a ∉ ι0.c) (r : Reps W ι0 H0 ds vs) : SrcR W ι0 H0 (.enm ds) (Ite W.K a) where
  go := fun ι H hp k d st m e => by
    have h1 := (lst_mono st n h).1
    unfold Src.at at e
    simp only at e
    cases q : ds[k]? with
    | none => rw [q] at e; cases e
    | some z =>
      rw [q] at e
      cases e
      obtain ⟨v, hv, rv⟩ := (r.mono st).get q
      refine ⟨⟨vs, v, SqL.of h1, hv⟩, fun x H' y => ?_⟩
      obtain ⟨T, x', rfl, hT, rfl, y⟩ := y
      have := y vs (SqL.of h1)
      rw [hv] at this
      cases this
      exact ⟨Step.lay hT, m.lay hT, rep_tup hT (.cons (.int _) (.cons rv .nil))⟩
  stop := fun ι H hp st m _ => ⟨vs, SqL.of (lst_mono st n h).1, by rw [← r.length]; exact Nat.le_refl _⟩
theorem srcR_zipL {W : Wd} {ι0 : Ix} {H0 : Hp} {a b : Addr} {ds es : List D} {vs us : List V} (h : H0 a = some (.lst vs)) (n : a ∉ ι0.c) (r : Reps W ι0 H0 ds vs) (h' : H0 b = some (.lst us)) (n' : b ∉ ι0.c) (r' : Reps W ι0 H0 es us) : SrcR W ι0 H0 (.zip ds es) (Itz W.K a b) where
  go := fun ι H hp k d st m e => by
    have h1 := (lst_mono st n h).1
    have h2 := (lst_mono st n' h').1
    unfold Src.at at e
    simp only at e
    split at e
    · rename_i z1 z2 q1 q2
      cases e
      obtain ⟨v, hv, rv⟩ := (r.mono st).get q1
      obtain ⟨u, hu, ru⟩ := (r'.mono st).get q2
      refine ⟨⟨vs, us, v, u, SqL.of h1, SqL.of h2, hv, hu⟩, fun x H' y => ?_⟩
      obtain ⟨T, x', y', rfl, hT, rfl, y1, y2⟩ := y
      have e1 := y1 vs (SqL.of h1)
      have e2 := y2 us (SqL.of h2)
      rw [hv] at e1
      rw [hu] at e2
      cases e1
      cases e2
      exact ⟨Step.lay hT, m.lay hT, rep_tup hT (.cons rv (.cons ru .nil))⟩
    · cases e
  stop := fun ι H hp st m _ => by
    refine ⟨vs, us, SqL.of (lst_mono st n h).1, SqL.of (lst_mono st n' h').1, ?_⟩
    show vs.length ≤ min ds.length es.length ∨ us.length ≤ min ds.length es.length
    rw [r.length, r'.length]
    omega
theorem srcR_zipT {W : Wd} {ι0 : Ix} {H0 : Hp} {a b : Addr} {ds es : List D} {vs us : List V} (h : SqT W.K H0 a vs) (r : Reps W ι0 H0 ds vs) (h' : SqT W.K H0 b us) (r' : Reps W ι0 H0 es us) : SrcR W ι0 H0 (.zip ds es) (RZ.ItzT W.K a b) where
  go := fun ι H hp k d st m e => by
    have h1 := sqt_mono st h
    have h2 := sqt_mono st h'
    unfold Src.at at e
    simp only at e
    split at e
    · rename_i z1 z2 q1 q2
      cases e
      obtain ⟨v, hv, rv⟩ := (r.mono st).get q1
      obtain ⟨u, hu, ru⟩ := (r'.mono st).get q2
      refine ⟨⟨vs, us, v, u, h1, h2, hv, hu⟩, fun x H' y => ?_⟩
      obtain ⟨T, x', y', rfl, hT, rfl, y1, y2⟩ := y
      have e1 := y1 vs h1
      have e2 := y2 us h2
      rw [hv] at e1
      rw [hu] at e2
      cases e1
      cases e2
      exact ⟨Step.lay hT, m.lay hT, rep_tup hT (.cons rv (.cons ru .nil))⟩
    · cases e
  stop := fun ι H hp st m _ => by
    refine ⟨vs, us, sqt_mono st h, sqt_mono st h', ?_⟩
    show vs.length ≤ min ds.length es.length ∨ us.length ≤ min ds.length es.length
    rw [r.length, r'.length]
    omega
/-- from the values to the iterator -/
theorem rdI_bnd {g : Env → M (List D)} {k : List D → M Src} {σ : L2.St} {H : Hp} {Q : It → Hp → Prop} (hh : rdI Γ.W WE (fun env => bnd (g env) k) σ H Q) {P : List V → Hp → Prop}
    (hp : ∀ ι ds vs H1 h1, (∃ env h, g env h = .ok ds h1) → Sm Γ.W ι H1 h1 → Reps Γ.W ι H1 ds vs → PostI Γ.W ι H1 (k ds h1) Q (fun c d H' => WE c d σ H') → P vs H1) : rdL Γ.W WE g σ H P := by
  obtain ⟨ι, env, h, m, e, p⟩ := hh
  refine ⟨ι, env, h, m, e, ?_⟩
  have p : PostI Γ.W ι H ((g env h).bnd k) Q (fun c d H' => WE c d σ H') := p
  cases q : g env h with
  | ok a h1 =>
    rw [q] at p
    have p : PostI Γ.W ι H (k a h1) Q (fun c d H' => WE c d σ H') := p
    refine fun ι' H' b s' m' x => hp ι' a b H' h1 ⟨_, _, q⟩ m' x ?_
    cases q2 : k a h1 with
    | ok z h2 => rw [q2] at p; exact fun ι2 H2 J s2 m2 x2 => p ι2 H2 J (s'.trans s2) m2 x2
    | exn z h2 => rw [q2] at p; exact fun ι2 H2 c d s2 m2 x2 => p ι2 H2 c d (s'.trans s2) m2 x2
    | bad => rw [q2] at p; exact p
  | exn x h1 => rw [q] at p; exact p
  | bad => rw [q] at p; exact p
theorem postI_here {W : Wd} {ι : Ix} {H : Hp} {s : Src} {h : MH} {Q : It → Hp → Prop} {E : XK} {J : It} (p : PostI W ι H (.ok s h) Q E) (m : Sm W ι H h) (x : SrcR W ι H s J) : Q J H := p ι H J (Step.refl _ _) m x
/-- for x in e: a list or a tuple -/
theorem mi_seq (C : Cxt Γ X N sc WE cf) {tg a : Expr} {f : Env → M D} (ha : PE X a (rdE Γ.W WE f)) : PI X tg a (rdI Γ.W WE fun env => bnd (bnd (f env) fun x => bnd (ret []) fun xs => ret (x :: xs)) (src .seq)) := by
  refine PI.imp (PI.or (PI.or (pi_list ha) (pi_tup ha)) (pi_keys ha)) fun σ H Q hh => ?_
  obtain ⟨ι, env, h, m, e, p⟩ := hh
  have p : PostI Γ.W ι H (((f env h).bnd fun x => bnd (ret []) fun xs => ret (x :: xs)).bnd (src .seq)) Q (fun c d H' => WE c d σ H') := p
  have fin : ∀ {P : V → Hp → Prop}, (∀ x h1, f env h = .ok x h1 → PostI Γ.W ι H (src .seq [x] h1) Q (fun c d H' => WE c d σ H') → ∀ ι' H' v, Step ι H ι' H' → Sm Γ.W ι' H' h1 → Rep Γ.W ι' H' x v → P v H') → rdE Γ.W WE f σ H P := fun {P} hp => by
    refine ⟨ι, env, h, m, e, ?_⟩
    show Post Γ.W (Rep Γ.W) ι H (f env h) P _
    cases q : f env h with
    | ok x h1 => rw [q] at p; exact fun ι' H' v s' m' r => hp x h1 q p ι' H' v s' m' r
    | exn x h1 => rw [q] at p; exact p
    | bad => rw [q] at p; exact p
  by_cases hD : ∃ i kvs h1, f env h = .ok (.ref i) h1 ∧ h1[i]? = some (.dct true kvs)
  · obtain ⟨i, kvs, h1, hT, hc⟩ := hD
    refine .inr (fin fun x h2 q p' ι' H' v s' m' r => ?_)
    rw [hT] at q
    cases q
    cases r with
    | ref hi =>
      obtain ⟨a2, ha2, _, ws, hk, ⟨od, hH⟩, _⟩ := m'.get hc
      rw [hi] at ha2
      cases ha2
      unfold src at p'
      simp only [hc] at p'
      rw [hk] at p'
      exact ⟨_, od, rfl, .inr ⟨ws, hH, p' ι' H' _ s' m' (srcR_keys hH)⟩⟩
  by_cases hT : ∃ xs h1, f env h = .ok (.tup xs) h1
  · obtain ⟨xs, h1, hT⟩ := hT
    refine .inl <| .inr (fin fun x h2 q p' ι' H' v s' m' r => ?_)
    rw [hT] at q
    cases q
    cases r with
    | tup hs hr =>
      exact ⟨_, rfl, ⟨_, SqT.of hs⟩, by rw [C.hK]; exact p' ι' H' _ s' m' (srcR_tup (SqT.of hs) hr)⟩
  · refine .inl <| .inl (fin fun x h2 q p' ι' H' v s' m' r => ?_)
    cases r with
    | tup hs hr => exact (hT ⟨_, _, q⟩).elim
    | lst hl n n2 hr => exact ⟨_, rfl, ⟨_, SqL.of hl⟩, by rw [C.hK]; exact p' ι' H' _ s' m' (srcR_list hl n hr)⟩
    | ref hi =>
      rename_i i a'
      unfold src at p'
      simp only at p'
      split at p'
      · rename_i xs hc
        obtain ⟨a2, ha2, _, vs, h1, _⟩ := m'.get hc
        rw [hi] at ha2
        cases ha2
        exact ⟨_, rfl, ⟨_, SqL.of h1⟩, by rw [C.hK]; exact p' ι' H' _ s' m' (srcR_cel hi)⟩
      · rename_i kvs hc
        exact (hD ⟨_, _, _, q, hc⟩).elim
      · exact p'.elim
    | _ => exact p'.elim
/-- so many values -/
def LenM (n : Nat) (g : Env → M (List D)) : Prop := ∀ env h ds h', g env h = .ok ds h' → ds.length = n
theorem mi_rng1 (C : Cxt Γ X N sc WE cf) {tg a : Expr} {g : Env → M (List D)} {p pos : Pos} (hg : sc.names.lookup ("range" : Str) = some .globalImplicit) (ha : PA X [a] (rdL Γ.W WE g)) (hs : notStar a = true) (hl : LenM 1 g) : PI X tg (.Call (.Name "range" p) [a] [] pos) (rdI Γ.W WE fun env => bnd (g env) (src .rng)) := by
  refine PI.imp (pi_range1 (C.gl _ hg) (C.free _ (by decide +kernel)) ha (starEach_plain hs)) fun σ H Q hh => rdI_bnd hh fun ι ds vs H1 h1 ok m r p => ?_
  obtain ⟨env, h, ok⟩ := ok
  have hn := hl _ _ _ _ ok
  match ds, hn, r with
  | [d], _, r =>
    obtain ⟨v, rfl, r9⟩ := reps1 r
    cases r9 with
    | int n =>
      have p : PostI Γ.W ι H1 (if -RNG ≤ n ∧ n < RNG then .ok (.rng 0 n.toNat) h1 else .bad) Q (fun c d H' => WE c d σ H') := p
      split at p
      · rename_i hz
        exact ⟨n, rfl, hz.1, hz.2, postI_here p m srcR_rng⟩
      · exact p.elim
    | _ => exact p.elim
theorem mi_rng2 (C : Cxt Γ X N sc WE cf) {tg a b : Expr} {g : Env → M (List D)} {p pos : Pos} (hg : sc.names.lookup ("range" : Str) = some .globalImplicit) (ha : PA X [a, b] (rdL Γ.W WE g)) (hs : notStar a = true) (hs2 : notStar b = true) (hl : LenM 2 g) : PI X tg (.Call (.Name "range" p) [a, b] [] pos) (rdI Γ.W WE fun env => bnd (g env) (src .rng)) := by
  refine PI.imp (pi_range2 (C.gl _ hg) (C.free _ (by decide +kernel)) ha (by rw [starEach_plain hs, starEach_plain hs2]; rfl) (starEach_plain hs2)) fun σ H Q hh => rdI_bnd hh fun ι ds vs H1 h1 ok m r p => ?_
  obtain ⟨env, h, ok⟩ := ok
  have hn := hl _ _ _ _ ok
  match ds, hn, r with
  | [d, d'], _, r =>
    obtain ⟨v, u, rfl, r8, r'⟩ := reps2 r
    cases r8 with
    | int i =>
      cases r' with
      | int j =>
        have p : PostI Γ.W ι H1 (if -RNG ≤ i ∧ i < RNG ∧ -RNG ≤ j ∧ j < RNG then .ok (.rng i (j - i).toNat) h1 else .bad) Q (fun c d H' => WE c d σ H') := p
        split at p
        · rename_i hz
          exact ⟨i, j, rfl, hz, postI_here p m srcR_rng⟩
        · exact p.elim
      | _ => exact p.elim
    | _ => exact p.elim
theorem mi_zip (C : Cxt Γ X N sc WE cf) {a b : Expr} {elts : List Expr} {kk : Nat} {tpos : Pos} {g : Env → M (List D)} {p pos : Pos} (hg : sc.names.lookup ("zip" : Str) = some .globalImplicit) (ha : PA X [a, b] (rdL Γ.W WE g)) (hs : notStar a = true) (hs2 : notStar b = true) (hl : LenM 2 g) : PI X (.Tuple elts kk tpos) (.Call (.Name "zip" p) [a, b] [] pos) (rdI Γ.W WE fun env => bnd (g env) (src .zip)) := by
  refine PI.imp (RZ.pi_zipA (C.gl _ hg) (C.free _ (by decide +kernel)) ha (starEach_plain hs) (star_all (by simp [hs2]))) fun σ H Q hh => rdI_bnd hh fun ι ds vs H1 h1 ok m r p => ?_
  obtain ⟨env, h, ok⟩ := ok
  have hn := hl _ _ _ _ ok
  match ds, hn, r with
  | [d, d'], _, r =>
    obtain ⟨v, u, rfl, r8, r'⟩ := reps2 r
    cases r8 with
    | tup hs hr =>
      cases r' with
      | tup hs' hr' => exact ⟨_, _, _, _, rfl, .inr ⟨SqT.of hs, SqT.of hs', by rw [C.hK]; exact postI_here p m (srcR_zipT (SqT.of hs) hr (SqT.of hs') hr')⟩⟩
      | _ => exact p.elim
    | lst hs n n2 hr =>
      cases r' with
      | lst hs' n' n2' hr' => exact ⟨_, _, _, _, rfl, .inl ⟨SqL.of hs, SqL.of hs', by rw [C.hK]; exact postI_here p m (srcR_zipL hs n hr hs' n' hr')⟩⟩
      | _ => exact p.elim
    | _ => exact p.elim
end
end Mn

/-! Mn: comprehensions. -/
namespace Mn
open PySem L2
abbrev WE0 : WX := fun _ _ _ _ => False
section
variable {Γ : Glob} {X : Cx} {N : List Str} {sc : Scope} {WE : WX} {cf : Nat → List D → M D}
/-- the list of a comprehension -/
def lcD (fI : Env → M Src) (t : Tg) (own : List Nat) (cond : Env → M Bool) (elt : Env → M D) : Env → M D := fun env => bnd (fI env) fun s => bnd (lcN s t own cond elt env s.count 0 []) fun xs => ret (.lst xs)
def lcDK (K : List D → M D) (fI : Env → M Src) (t : Tg) (own : List Nat) (cond : Env → M Bool) (elt : Env → M D) : Env → M D := fun env => bnd (fI env) fun s => bnd (lcN s t own cond elt env s.count 0 []) K
theorem lc_rdK {K : List D → M D} (hK : ∀ (ι1 ι' : Ix) (H1 H' : Hp) (h' : MH) (Dp : Addr) (vs : List V) (acc : List D) (Q : VK) (E : XK), Dp ∉ ι1.x → H1 Dp = none → Dp ∈ ι'.x → Step ι1 H1 ι' H' → Sm Γ.W ι' H' h' → H' Dp = some (.lst vs) → Reps Γ.W ι' H' acc vs → Post Γ.W (Rep Γ.W) ι1 H1 (K acc h') Q E → Q (.ref Dp) H') {fI : Env → M Src} {t : Tg} {own : List Nat} {cond : Env → M Bool} {elt : Env → M D} {σ : L2.St} {H : Hp} {Q : VK} (hsub : ∀ i ∈ slots t, i ∈ own) (hh : rdE Γ.W WE (lcDK K fI t own cond elt) σ H Q) :
    tLc (rdI Γ.W WE fI) (gB Γ.W t) (rdT Γ.W WE0 cond) (rdE Γ.W WE0 elt) own σ H Q := by
  obtain ⟨ι, env, h, m, e, p⟩ := hh
  refine ⟨ι, env, h, m, e, ?_⟩
  have p : Post Γ.W (Rep Γ.W) ι H ((fI env h).bnd fun s => bnd (lcN s t own cond elt env s.count 0 []) K) Q (fun c d H' => WE c d σ H') := p
  cases q : fI env h with
  | exn x h1 => rw [q] at p; exact p
  | bad => rw [q] at p; exact p
  | ok s h1 =>
    rw [q] at p
    intro ι1 H1 J st1 m1 sr Dp hD
    have p : Post Γ.W (Rep Γ.W) ι1 H1 ((lcN s t own cond elt env s.count 0 [] h1).bnd K) Q (fun c d H' => WE c d σ H') := Post.base st1 p
    have hD1 : Dp ∉ ι1.x := m1.freshX hD
    refine ⟨fun i mm H' => ∃ ι' h' acc vs, i + mm = s.count ∧ Dp ∈ ι'.x ∧ Step ι1 H1 ι' H' ∧ Sm Γ.W ι' H' h' ∧ EnvR Γ.W ι' H' σ env ∧ H' Dp = some (.lst vs) ∧ Reps Γ.W ι' H' acc vs ∧
      Post Γ.W (Rep Γ.W) ι1 H1 ((lcN s t own cond elt env mm i acc h').bnd K) Q (fun c d H' => WE c d σ H'), ⟨s.count, ⟨ι1.c, Dp :: ι1.x⟩, h1, [], [], Nat.zero_add _, List.mem_cons_self, Step.layx hD, m1.layx hD, (e.mono st1).mono (Step.layx hD), upd_same, .nil, p⟩, ?_⟩
    rintro i mm H' ⟨ι', h', acc, vs, hc, hx, st, m', e', hDl, ra, p'⟩
    cases mm with
    | zero =>
      have hi : i = s.count := by omega
      subst hi
      unfold lcN at p'
      by_cases hdone : s.done h' = true
      · rw [if_pos hdone] at p'
        refine .inl ⟨sr.stop ι' H' h' st m' hdone, ?_⟩
        exact hK ι1 ι' H1 H' h' Dp vs acc Q _ hD1 hD hx st m' hDl ra p'
      · rw [if_neg hdone] at p'
        exact p'.elim
    | succ mm =>
      unfold lcN at p'
      cases q1 : s.at i h' with
      | none => simp only [q1] at p'; exact p'.elim
      | some d =>
        simp only [q1] at p'
        cases q2 : bind t d (wipeE env own) h' with
        | none => simp only [q2] at p'; exact p'.elim
        | some env' =>
          simp only [q2] at p'
          obtain ⟨hgo, hyl⟩ := sr.go ι' H' h' i d st m' q1
          refine .inr ⟨hgo, _, fun H2 w2 => ⟨mm, Nat.lt_succ_self mm, w2⟩, fun x H2 y => ?_⟩
          obtain ⟨st2, m2, r2⟩ := hyl x H2 y
          refine ⟨ι', wipeE env own, h', d, env', m2, (e'.mono st2).wipe own, r2, q2, fun σ2 e2 o2 => ⟨?_, ?_⟩⟩
          · rw [wipe_off o2 hsub]
            refine List.ext_getElem? fun j => ?_
            rw [wipe_at, wipe_at, wipe_length]
            split
            · rfl
            · rfl
          · refine ⟨ι', env', h', m2, e2, ?_⟩
            show Post Γ.W _ ι' H2 (cond env' h') _ _
            cases q3 : cond env' h' with
            | exn x h3 => simp only [q3] at p'; exact p'.elim
            | bad => simp only [q3] at p'; exact p'.elim
            | ok b h3 =>
              simp only [q3] at p'
              intro ι3 H3 b' st3 m3 eb
              subst eb
              have stA : Step ι1 H1 ι3 H3 := (st.trans st2).trans st3
              have stB : Step ι' H' ι3 H3 := st2.trans st3
              have hnc : Dp ∉ ι'.c := (m'.exs Dp hx).1
              cases b with
              | false =>
                exact ⟨ι3, h3, acc, vs, by omega, st3.ex _ (st2.ex _ hx), stA, m3, e'.mono stB, stB.keep Dp _ hnc hDl (fun ps z => by cases z), ra.mono stB, p'⟩
              | true =>
                refine ⟨ι3, env', h3, m3, e2.mono st3, ?_⟩
                show Post Γ.W _ ι3 H3 (elt env' h3) _ _
                cases q4 : elt env' h3 with
                | exn x h4 => simp only [q4] at p'; exact p'.elim
                | bad => simp only [q4] at p'; exact p'.elim
                | ok z h4 =>
                  simp only [q4] at p'
                  intro ι4 H4 y4 st4 m4 r4
                  have stC : Step ι' H' ι4 H4 := stB.trans st4
                  have hl4 : H4 Dp = some (.lst vs) := stC.keep Dp _ hnc hDl (fun ps z => by cases z)
                  have hx4 : Dp ∈ ι4.x := stC.ex _ hx
                  split at p'
                  · rename_i hz
                    refine ⟨vs, hl4, by rw [← SZ_eq, ← ra.length]; exact hz, ι4, h4, acc ++ [z], vs ++ [y4], by omega, hx4, (stA.trans st4).after hD, m4.putx hx4 hl4, ?_, upd_same, ?_, p'⟩
                    · have ee := e'.mono stC
                      exact ⟨ee.1, fun j d' hj => by
                        obtain ⟨v', hv', rv'⟩ := ee.2 j d' hj
                        exact ⟨v', hv', rv'.putx hx4 hl4⟩⟩
                    · exact ((ra.mono stC).append (.cons r4 .nil)).putx hx4 hl4
                  · exact p'.elim
theorem lc_rd {fI : Env → M Src} {t : Tg} {own : List Nat} {cond : Env → M Bool} {elt : Env → M D} {σ : L2.St} {H : Hp} {Q : VK} (hsub : ∀ i ∈ slots t, i ∈ own) (hh : rdE Γ.W WE (lcD fI t own cond elt) σ H Q) :
    tLc (rdI Γ.W WE fI) (gB Γ.W t) (rdT Γ.W WE0 cond) (rdE Γ.W WE0 elt) own σ H Q :=
  lc_rdK (K := fun xs => ret (.lst xs)) (fun ι1 ι' H1 H' h' Dp vs acc Q E hD1 hD hx st m' hDl ra p' => p' ⟨ι'.c, ι1.x⟩ H' (.ref Dp) st.less (m'.fewer st.ex) (.lst hDl (m'.exs Dp hx).1 hD1 (ra.fewer st.ex))) hsub hh
theorem lc_rdC {fI : Env → M Src} {t : Tg} {own : List Nat} {cond : Env → M Bool} {elt : Env → M D} {σ : L2.St} {H : Hp} {Q : VK} (hsub : ∀ i ∈ slots t, i ∈ own) (hh : rdE Γ.W WE (fun env => bnd (lcD fI t own cond elt env) cellOf) σ H Q) :
    tLc (rdI Γ.W WE fI) (gB Γ.W t) (rdT Γ.W WE0 cond) (rdE Γ.W WE0 elt) own σ H Q := by
  refine lc_rdK (Γ := Γ) (WE := WE) (K := fun xs => cellOf (.lst xs)) (fun ι1 ι' H1 H' h' Dp vs acc Q E hD1 hD hx st m' hDl ra p' => ?_) hsub ?_
  · unfold cellOf at p'
    simp only [] at p'
    split at p'
    · rename_i hp
      refine p' ⟨ι'.c ++ [Dp], ι1.x⟩ H' (.ref Dp) (st.movex hD) (m'.movex hx hD1 st.ex ⟨hp, vs, hDl, ra.movex hx st.ex⟩) (.ref ?_)
      show (ι'.c ++ [Dp])[_]? = _
      rw [← m'.len, List.getElem?_append_right (Nat.le_refl _), Nat.sub_self]
      rfl
    · exact p'.elim
  · obtain ⟨ι, env, h, m, e, p⟩ := hh
    refine ⟨ι, env, h, m, e, ?_⟩
    have p : Post Γ.W (Rep Γ.W) ι H (((fI env h).bnd fun s => bnd (lcN s t own cond elt env s.count 0 []) fun xs => ret (.lst xs)).bnd cellOf) Q (fun c d H' => WE c d σ H') := p
    show Post Γ.W (Rep Γ.W) ι H ((fI env h).bnd fun s => bnd (lcN s t own cond elt env s.count 0 []) fun xs => cellOf (.lst xs)) Q _
    cases q : fI env h with
    | exn x h1 => rw [q] at p; exact p
    | bad => rw [q] at p; exact p
    | ok s h1 =>
      rw [q] at p
      have p : Post Γ.W (Rep Γ.W) ι H (((lcN s t own cond elt env s.count 0 [] h1).bnd fun xs => ret (.lst xs)).bnd cellOf) Q (fun c d H' => WE c d σ H') := p
      show Post Γ.W (Rep Γ.W) ι H ((lcN s t own cond elt env s.count 0 [] h1).bnd fun xs => cellOf (.lst xs)) Q _
      cases q2 : lcN s t own cond elt env s.count 0 [] h1 with
      | exn x h2 => rw [q2] at p; exact p
      | bad => rw [q2] at p; exact p
      | ok xs h2 => rw [q2] at p; exact p
theorem me_lc (C : Cxt Γ X N sc WE cf) {elt tg iter : Expr} {ifs : List Expr} {scope : Scope} {own : List (Str × Nat)} {pos : Pos} {fI : Env → M Src} {t : Tg} {cond : Env → M Bool} {fe : Env → M D} (hi : PI X tg iter (rdI Γ.W WE fI)) (ok : BlkOk X.N X.env.scope scope own)
    (hg : ∀ (s : Shared) (H : Hp) (C : Addr) (cl : List (Str × Addr)) (fp : List Addr), PG (X.blk s H scope (compEnvC scope cl C X.env) fp) tg (gB Γ.W t)) (ht : ∀ (s : Shared) (H : Hp) (C : Addr) (cl : List (Str × Addr)) (fp : List Addr), PTs (X.blk s H scope (compEnvC scope cl C X.env) fp) ifs (rdT Γ.W WE0 cond))
    (he : ∀ (s : Shared) (H : Hp) (C : Addr) (cl : List (Str × Addr)) (fp : List Addr), PE (X.blk s H scope (compEnvC scope cl C X.env) fp) elt (rdE Γ.W WE0 fe)) (hs : notSet iter = true) (hsub : ∀ i ∈ slots t, i ∈ own.map (·.2)) :
    PE X (.ListComp elt [⟨tg, iter, ifs, 0⟩] scope pos) (rdE Γ.W WE (lcD fI t (own.map (·.2)) cond fe)) :=
  PE.imp (pe_lc C.calm (by rw [C.hN]; exact C.nd) hi ok hg ht he (noFold hs)) fun σ H Q hh => lc_rd hsub hh
/-- y = [..], y a plain local -/
theorem ms_setLc (C : Cxt Γ X N sc WE cf) {i : Nat} {y : Str} {py spos : Pos} {elt tg iter : Expr} {ifs : List Expr} {scope : Scope} {own : List (Str × Nat)} {pos : Pos} {fI : Env → M Src} {t : Tg} {cond : Env → M Bool} {fe : Env → M D}
    (hy : N[i]? = some y) (hyl : sc.names.lookup y = some .local) (hsw : swapsWith (.ListComp elt [⟨tg, iter, ifs, 0⟩] scope pos) (some (.Name y py)) spos.line X.env = pure true)
    (hi : PI X tg iter (rdI Γ.W WE fI)) (ok : BlkOk X.N X.env.scope scope own)
    (hg : ∀ (s : Shared) (H : Hp) (C : Addr) (cl : List (Str × Addr)) (fp : List Addr), PG (X.blk s H scope (compEnvC scope cl C X.env) fp) tg (gB Γ.W t)) (ht : ∀ (s : Shared) (H : Hp) (C : Addr) (cl : List (Str × Addr)) (fp : List Addr), PTs (X.blk s H scope (compEnvC scope cl C X.env) fp) ifs (rdT Γ.W WE0 cond))
    (he : ∀ (s : Shared) (H : Hp) (C : Addr) (cl : List (Str × Addr)) (fp : List Addr), PE (X.blk s H scope (compEnvC scope cl C X.env) fp) elt (rdE Γ.W WE0 fe)) (hs : notSet iter = true) (hsub : ∀ i ∈ slots t, i ∈ own.map (·.2)) :
    PS X (.Assign [.Name y py] (.ListComp elt [⟨tg, iter, ifs, 0⟩] scope pos) spos) (tAsg (rdE Γ.W WE (lcD fI t (own.map (·.2)) cond fe)) (gName i)) :=
  PS.imp (ps_setLc C.calm (by rw [C.hN]; exact C.nd) (by rw [C.hN]; exact hy) (C.loc y .local hyl (.inl rfl)).1 hsw hi ok hg ht he (noFold hs)) fun D σ H hh => lc_rd hsub hh
theorem me_lcC (C : Cxt Γ X N sc WE cf) {elt tg iter : Expr} {ifs : List Expr} {scope : Scope} {own : List (Str × Nat)} {pos : Pos} {fI : Env → M Src} {t : Tg} {cond : Env → M Bool} {fe : Env → M D} (hi : PI X tg iter (rdI Γ.W WE fI)) (ok : BlkOk X.N X.env.scope scope own)
    (hg : ∀ (s : Shared) (H : Hp) (C : Addr) (cl : List (Str × Addr)) (fp : List Addr), PG (X.blk s H scope (compEnvC scope cl C X.env) fp) tg (gB Γ.W t)) (ht : ∀ (s : Shared) (H : Hp) (C : Addr) (cl : List (Str × Addr)) (fp : List Addr), PTs (X.blk s H scope (compEnvC scope cl C X.env) fp) ifs (rdT Γ.W WE0 cond))
    (he : ∀ (s : Shared) (H : Hp) (C : Addr) (cl : List (Str × Addr)) (fp : List Addr), PE (X.blk s H scope (compEnvC scope cl C X.env) fp) elt (rdE Γ.W WE0 fe)) (hs : notSet iter = true) (hsub : ∀ i ∈ slots t, i ∈ own.map (·.2)) :
    PE X (.ListComp elt [⟨tg, iter, ifs, 0⟩] scope pos) (rdE Γ.W WE (fun env => bnd (lcD fI t (own.map (·.2)) cond fe env) cellOf)) :=
  PE.imp (pe_lc C.calm (by rw [C.hN]; exact C.nd) hi ok hg ht he (noFold hs)) fun σ H Q hh => lc_rdC hsub hh
/-- y = [..], y a plain local -/
theorem ms_setLcC (C : Cxt Γ X N sc WE cf) {i : Nat} {y : Str} {py spos : Pos} {elt tg iter : Expr} {ifs : List Expr} {scope : Scope} {own : List (Str × Nat)} {pos : Pos} {fI : Env → M Src} {t : Tg} {cond : Env → M Bool} {fe : Env → M D}
    (hy : N[i]? = some y) (hyl : sc.names.lookup y = some .local) (hsw : swapsWith (.ListComp elt [⟨tg, iter, ifs, 0⟩] scope pos) (some (.Name y py)) spos.line X.env = pure true)
    (hi : PI X tg iter (rdI Γ.W WE fI)) (ok : BlkOk X.N X.env.scope scope own)
    (hg : ∀ (s : Shared) (H : Hp) (C : Addr) (cl : List (Str × Addr)) (fp : List Addr), PG (X.blk s H scope (compEnvC scope cl C X.env) fp) tg (gB Γ.W t)) (ht : ∀ (s : Shared) (H : Hp) (C : Addr) (cl : List (Str × Addr)) (fp : List Addr), PTs (X.blk s H scope (compEnvC scope cl C X.env) fp) ifs (rdT Γ.W WE0 cond))
    (he : ∀ (s : Shared) (H : Hp) (C : Addr) (cl : List (Str × Addr)) (fp : List Addr), PE (X.blk s H scope (compEnvC scope cl C X.env) fp) elt (rdE Γ.W WE0 fe)) (hs : notSet iter = true) (hsub : ∀ i ∈ slots t, i ∈ own.map (·.2)) :
    PS X (.Assign [.Name y py] (.ListComp elt [⟨tg, iter, ifs, 0⟩] scope pos) spos) (tAsg (rdE Γ.W WE (fun env => bnd (lcD fI t (own.map (·.2)) cond fe env) cellOf)) (gName i)) :=
  PS.imp (ps_setLc C.calm (by rw [C.hN]; exact C.nd) (by rw [C.hN]; exact hy) (C.loc y .local hyl (.inl rfl)).1 hsw hi ok hg ht he (noFold hs)) fun D σ H hh => lc_rdC hsub hh
/-! ### the block's context -/
theorem lookup_relS_free {sc : Scope} : ∀ {names : List (Str × NameKind)} {x : Str}, names.lookup x = some .free →
    ((names.map fun (n, k) => if (k == NameKind.free && sc.kind == .function && sc.names.lookup n == some .cell) then (n, NameKind.cell) else (n, k)).lookup x = some .free ∨
     (names.map fun (n, k) => if (k == NameKind.free && sc.kind == .function && sc.names.lookup n == some .cell) then (n, NameKind.cell) else (n, k)).lookup x = some .cell)
  | [], _, h => by simp at h
  | (n, k₀) :: r, x, h => by
    have ih := @lookup_relS_free sc r x
    simp only [List.map_cons]
    cases hx : x == n with
    | true =>
      simp only [List.lookup_cons, hx] at h
      cases h
      by_cases hc : (NameKind.free == NameKind.free && sc.kind == .function && sc.names.lookup n == some .cell) = true
      · rw [if_pos hc]; right; simp [List.lookup_cons, hx]
      · rw [if_neg hc]; left; simp [List.lookup_cons, hx]
    | false =>
      simp only [List.lookup_cons, hx] at h
      by_cases hc : (k₀ == NameKind.free && sc.kind == .function && sc.names.lookup n == some .cell) = true
      · rw [if_pos hc]; simp only [List.lookup_cons, hx]; exact ih h
      · rw [if_neg hc]; simp only [List.lookup_cons, hx]; exact ih h
theorem Cxt.blk (C : Cxt Γ X N sc WE cf) {scope : Scope} {s : Shared} {H : Hp} {D : Addr} {cl : List (Str × Addr)} {fp : List Addr} (hk : scope.kind = .function) : Cxt Γ (X.blk s H scope (compEnvC scope cl D X.env) fp) N scope WE0 cf where
  hK := C.hK
  hN := C.hN
  nd := C.nd
  kind := hk
  vis := fun x k h z => by
    rcases z with rfl | rfl | rfl
    · exact .inl (lookup_relS_keep (sc := X.env.scope) (by decide) h)
    · exact .inr (.inl (lookup_relS_keep (sc := X.env.scope) (by decide) h))
    · rcases lookup_relS_free (sc := X.env.scope) h with q | q
      · exact .inr (.inr q)
      · exact .inr (.inl q)
  loc := fun x k h z => by
    rcases z with rfl | rfl
    · exact ⟨lookup_relS_keep (sc := X.env.scope) (by decide) h, .inl rfl⟩
    · exact ⟨lookup_relS_keep (sc := X.env.scope) (by decide) h, .inr (by show (scope.names.lookup x == some NameKind.cell) = true; rw [h]; rfl)⟩
  fr := fun x k h z => by
    rcases z with rfl | rfl
    · exact .inl (lookup_relS_keep (sc := X.env.scope) (by decide) h)
    · exact (lookup_relS_free (sc := X.env.scope) h).symm
  gl := fun x h => lookup_relS_keep (sc := X.env.scope) (by decide) h
  free := C.free
  cst := C.cst
  calm := C.calm
  un := C.un
  tk := fun _ _ x => by
    obtain ⟨_, _, _, _, _, _, _, _, _, _, _, _, _, _, _, _, z⟩ := x
    exact z.elim
  po := PassesOwn.never
  fns := C.fns
/-- the block's names, by the text's own scope -/
theorem blkOk_cxt (C : Cxt Γ X N sc WE cf) {scope : Scope} {own : List (Str × Nat)} (h : blkC N sc scope own = true) : BlkOk X.N X.env.scope scope own := by
  have b := blkOk_by h
  refine ⟨b.kind, b.uniq, by rw [C.hN]; exact b.ix, fun y hy e => ?_, by rw [C.hN]; exact b.own⟩
  rcases b.free y hy e with q | q
  · exact C.fr y.1 _ q (.inl rfl)
  · exact C.fr y.1 _ q (.inr rfl)
end
end Mn

/-! Mn: enumerate(tuple). -/
namespace Mn
open PySem L2
section
open Sem (wp)
open AutoSeq1 (wpAny_loadPart')
theorem meets_enumerate_newT (l : Addr) (items : Array Value) (o : Obj) (ho : o.cls = .type "tuple") (n : Nat) (hd : o.data = .seq items n) :
    Meets (Builtin.«enumerate.__new__» ⟨[.type "enumerate", .ref l], []⟩) (fun _ R s => s.heap.get? l = some o ∧
      R (.ok (.ret (.ref (s.heap.push { cls := .type "tuple_iterator", data := .fields #[.ref l, .int 0 0] }).objs.size)))
        { s with heap := (s.heap.push { cls := .type "tuple_iterator", data := .fields #[.ref l, .int 0 0] }).push { cls := .type "enumerate", data := .fields #[.none, .bool false, .ref s.heap.objs.size, rawInt 0, .none, .none] } }) :=
  .of_wp fun prog w A R s h => by
    obtain ⟨hp, g, d, tk, os⟩ := s; obtain ⟨hl, h⟩ := h
    have hsub := sub_enumerate
    have hL : Heap.IsTuple (Shared.heap ⟨hp, g, d, tk, os⟩) l items := ⟨_, hl, ho, n, hd⟩
    wp_walk using wpAny_loadPart' hl
    refine wpAny_stack_any fun st => wpAny_pure ?_
    split
    · rename_i c _ _ _ _ _
      cases (c == Value.type "enumerate")
      · wp_walk using wpAny_loadPart' hl, wpAny_pyIter_tuple hL
        exact ⟨_, rfl, h⟩
      · wp_walk using wpAny_loadPart' hl, wpAny_pyIter_tuple hL
        exact ⟨_, rfl, h⟩
    · wp_walk using wpAny_loadPart' hl, wpAny_pyIter_tuple hL
      exact ⟨_, rfl, h⟩
theorem call_enumerate_tuple {prog : Program} {w : World} {A : Around} {E : Value → Shared → Prop} {s : Shared} {l : Addr} {items : Array Value} {Q : Value → Shared → Prop} (hL : s.heap.IsTuple l items)
    (h : ∀ h', IsEnum h' (s.heap.objs.size + 1) s.heap.objs.size 0 .none → h'.IsTupleIter s.heap.objs.size l 0 → h'.objs.size = s.heap.objs.size + 2 →
      (∀ b o, s.heap.get? b = some o → h'.get? b = some o) → Q (.ref (s.heap.objs.size + 1)) { s with heap := h' }) :
    wpAny (model prog w) A (call (.type "enumerate") [.ref l]) Q E s := by
  obtain ⟨o, hl, hc, n, hd⟩ := hL
  refine callType_new F.called_enumerate (by decide) (F.typeCall_enumerate_1 _) (F.newCall_enumerate_1 _) (fun obj => F.args_object_init_2 obj _) F.entry_enumerate_new
    (meets_enumerate_newT l items o hc n hd) ⟨hl, ?_⟩
  have hz : (s.heap.push { cls := .type "tuple_iterator", data := .fields #[.ref l, .int 0 0] }).objs.size = s.heap.objs.size + 1 := Heap.size_push ..
  show _ ∧ _
  rw [hz]
  have he : IsEnum ((s.heap.push { cls := .type "tuple_iterator", data := .fields #[.ref l, .int 0 0] }).push
      { cls := .type "enumerate", data := .fields #[.none, .bool false, .ref s.heap.objs.size, rawInt 0, .none, .none] }) (s.heap.objs.size + 1) s.heap.objs.size 0 .none := by
    have := Heap.get?_push_size (s.heap.push { cls := .type "tuple_iterator", data := .fields #[.ref l, .int 0 0] })
      (o := { cls := .type "enumerate", data := .fields #[.none, .bool false, .ref s.heap.objs.size, rawInt 0, .none, .none] }) rfl
    rw [hz] at this; exact this
  refine ⟨⟨_, he, rfl⟩, h _ he ⟨_, Heap.get?_push_of_some _ (Heap.get?_push_size _ rfl), rfl, rfl⟩ (by rw [Heap.size_push, hz]) fun b o x => Heap.get?_push_of_some _ (Heap.get?_push_of_some _ x)⟩
theorem enumT_end {prog : Program} {w : World} {A : Around} {E : Value → Shared → Prop} {s : Shared} {e it l : Addr} {i : Nat} {items : Array Value} {old : Value} {Q : Option Value → Shared → Prop} (hh : A.handled = none)
    (he : IsEnum s.heap e it i old) (hit : s.heap.IsTupleIter it l i) (hl : s.heap.IsTuple l items) (hx : items[i]? = none)
    (hQ : ∀ h', Heap.ExtBut it s.heap h' → Q none { s with heap := h' }) : wpAny (model prog w) A (pyNext (.ref e)) Q E s := by
  have hT : s.TypeIs (.ref e) "enumerate" := ⟨_, he, rfl⟩
  unfold pyNext
  refine wpAny_bind (wpAny_attempt (wpAny_callSpecial?_slot (name := Str.ofString "__next__") hT F.slot_enumerate_next
    (wpAny_call_entry F.slot_enumerate_next hT F.entry_enumerate_next ?_ (F.args_enumerate_next_1 _))))
  show wpAny _ _ (field (.ref e) 2 >>= _) _ _ _
  refine wpAny_bind (wpAny_field he rfl (x := .ref it) rfl ?_)
  refine wpAny_bind (wpAny_nextOf_tuple_end hh hit hl hx fun h' x he' hx' => ?_)
  obtain ⟨o, ho, hc⟩ := hx'
  refine wpAny_bind (wpAny_isInstance (T := "StopIteration") (b := true) ⟨o, ho, hc⟩ isSubtype_stop ?_)
  exact wpAny_pure (hQ _ he')
end
/-- the tuple at a, each item in a new pair -/
def IteT (K : PySem.W.Frag) (a : Addr) : It :=
  ⟨fun i H => ∃ (xs : List V) (x : V), SqT K H a xs ∧ xs[i]? = some x, fun i H v H' => ∃ T x, v = .ref T ∧ H T = none ∧ H' = upd H T (.tup [.int (i : Nat), x]) ∧ ∀ xs, SqT K H a xs → xs[i]? = some x, fun i H => ∃ xs : List V, SqT K H a xs ∧ xs.length ≤ i⟩
theorem turn_enumT {P : Program} {w : World} {K : PySem.W.Frag} {elts : List Expr} {kk : Nat} {tpos : Pos} (a e it : Addr) (hai : a ≠ it) (hae : a ≠ e) :
    Turn P w K (.Tuple elts kk tpos) (IteT K a) [e, it] e (fun i h => (∃ old, IsEnum h e it ((i : Nat) : Int) old) ∧ h.IsTupleIter it a i ∧ e ≠ it) where
  mem := by simp
  obj := fun i h st b hb => by
    obtain ⟨⟨old, he⟩, ⟨o, ho, hc, hd⟩, _⟩ := st
    have e' : b = e ∨ b = it := by simpa using hb
    rcases e' with z | z
    · rw [z]; exact ⟨_, he, fun v q => nomatch q⟩
    · rw [z]; exact ⟨o, ho, fun v q => by rw [hd] at q; cases q⟩
  keep := fun i h h' st k => let ⟨⟨old, he⟩, hi, hne⟩ := st; ⟨⟨old, k e (by simp) _ he⟩, (let ⟨o, ho, r⟩ := hi; ⟨o, k it (by simp) o ho, r⟩), hne⟩
  item := by
    intro X hP hw hK hc i pins s σ H E I hf st hg
    subst hP hw hK
    obtain ⟨⟨old, he⟩, hit, hne⟩ := st
    obtain ⟨xs, x, hq, hx⟩ := hg
    obtain ⟨its, rv, p, hz⟩ := I.tuple hq
    obtain ⟨u, hu, ru⟩ := rv.get hx
    have hel : e < s.heap.objs.size := Heap.lt_size he
    have hil : it < s.heap.objs.size := by obtain ⟨_, q, _⟩ := hit; exact Heap.lt_size q
    have hlt : i < its.toArray.size := by
      rw [List.size_toArray]
      rcases Nat.lt_or_ge i its.length with z | z
      · exact z
      · rw [List.getElem?_eq_none z] at hu; cases hu
    refine wpAny_pyNext_enum_itemD (Draws.tuple (A := X.A.in1) (I.ok.hd hc) it a hai its.toArray) he ⟨hit, p⟩ hlt hne (by simp [hne, Ne.symm hae]) fun x' h' tk px ho hst hT hsz hk => ?_
    have ex : x' = u := by
      have : its[i]? = some x' := by simpa using px
      rw [hu] at this; exact (Option.some.inj this).symm
    subst ex
    refine ⟨_, rfl, wpAny_letOwnedTupleGo_enum (s := { s with heap := h', toks := tk + 1 }) ho fun h'' he' sb => ?_⟩
    have hT2 : h''.get? s.heap.objs.size = some { cls := .type "tuple", data := .seq #[.int i tk, x'] } := (sb.2 _ (Nat.ne_of_gt hel)).trans hT
    have new : ObjOk X.prog X.w (upd H s.heap.objs.size (.tup [.int (i : Nat), x])) h'' s.heap.objs.size (.tup [.int (i : Nat), x]) :=
      ⟨by show 2 ≤ sizeLine; decide, [.int i tk, x'], .cons ⟨_, rfl⟩ (.cons ru .nil), ⟨_, hT2, rfl, _, rfl⟩⟩
    have I1 : L2.Inv X pins σ (upd H s.heap.objs.size (.tup [.int (i : Nat), x])) { s with heap := h'', toks := tk + 1 } :=
      I.turnedNew (ch := [e, it]) (fun b ob hb q => (sb.2 b (fun z => hb (by simp [z]))).trans (hk b ob (fun z => hb (by simp [z])) (fun z => hb (by simp [z])) q)) hf (Nat.le_refl _) new
    refine ⟨.ref s.heap.objs.size, _, I1, rfl, ⟨_, x, rfl, I.hok.fresh (Nat.le_refl _), rfl, fun ys hy => by rw [I.tuple_inj hy hq]; exact hx⟩, ⟨⟨x', ?_⟩, (let ⟨o, ho', r⟩ := hst.1; ⟨o, (sb.2 it (Ne.symm hne)).trans ho', r⟩), hne⟩, fun b hb => ?_⟩
    · have e1 : ((i + 1 : Nat) : Int) = (i : Int) + 1 := by omega
      rw [e1]; exact he'
    · have hb' : b < s.heap.objs.size := by
        have e' : b = e ∨ b = it := by simpa using hb
        rcases e' with z | z
        · rw [z]; exact hel
        · rw [z]; exact hil
      rw [upd_ne (Nat.ne_of_lt hb')]
      exact (hf b hb).1
  done := by
    intro X hP hw hK hc i pins s σ H E I hf st hg
    subst hP hw hK
    obtain ⟨⟨old, he⟩, hit, hne⟩ := st
    obtain ⟨xs, hq, hx⟩ := hg
    obtain ⟨its, rv, p, hz⟩ := I.tuple hq
    obtain ⟨f0, f1, f2, f3, f4, f5⟩ := hf it (by simp)
    have hl := rv.length
    exact enumT_end (I.ok.hd hc) he hit p (by simp; omega) fun h' eb => ⟨rfl, I.turned (t' := s.toks) (fun b o hb q => eb b o hb q) f0 f1 f3 f4 f5⟩
  self := fun A i s Q E st h => by
    obtain ⟨⟨old, he⟩, _⟩ := st
    exact wpAny_pyIter_enum he h
def iEnumT (K : PySem.W.Frag) (ta : TA) : TI := fun σ H R => ta σ H fun vs H1 => ∃ a xs, vs = [.ref a] ∧ SqT K H1 a xs ∧ R (IteT K a) H1
theorem pi_enumT {X : Cx} {e : Expr} {ta : TA} {p pos tpos : Pos} {elts : List Expr} {kk : Nat} (hg : Gl X "enumerate") (hm : X.mg "enumerate" = none) (ha : PA X [e] ta) (hs : starEach [e] X.env = [(false, eval e X.env)]) :
    PI X (.Tuple elts kk tpos) (.Call (.Name "enumerate" p) [e] [] pos) (iEnumT X.K ta) := by
  refine ⟨fun pins s σ H R I h => ?_⟩
  refine PyProof.Rows.Call_ (ld_blt I hg hm PyProof.Rows.boot_enumerate (PyProof.Rows.callWith_type1 (thn (ha.run pos pins s σ H _ I h) fun us s1 ⟨vs, H1, I1, r1, q1⟩ => ?_) hs rfl))
  obtain ⟨a, xs, ex, hq, q⟩ := q1
  subst ex
  cases r1 with
  | cons r rr =>
    cases rr
    cases r
    obtain ⟨its, rv, p', hz⟩ := I1.tuple hq
    have hlt : a < s1.heap.objs.size := by obtain ⟨o, q, _⟩ := p'; exact Heap.lt_size q
    refine call_enumerate_tuple p' fun h' he hit hsz hk => wpAny_pyIter_enum he ?_
    have I2 : L2.Inv X pins σ H1 { s1 with heap := h' } := I1.kept (t' := s1.toks) hk
    refine ⟨s1.heap.objs.size + 1, [s1.heap.objs.size + 1, s1.heap.objs.size], _, _, H1, rfl, I2, turn_enumT a (s1.heap.objs.size + 1) s1.heap.objs.size (Nat.ne_of_lt hlt) (Nat.ne_of_lt (Nat.lt_succ_of_lt hlt)), ⟨⟨.none, he⟩, hit, Nat.succ_ne_self _⟩, fun b hb => ?_, q⟩
    have e' : b = s1.heap.objs.size + 1 ∨ b = s1.heap.objs.size := by simpa using hb
    have hle : s1.heap.objs.size ≤ b := by
      rcases e' with z | z
      · rw [z]; exact Nat.le_add_right _ _
      · rw [z]; exact Nat.le_refl _
    exact I1.fpOk hle (I1.hok.fresh hle)
theorem srcR_enmT {W : Wd} {ι0 : Ix} {H0 : Hp} {a : Addr} {ds : List D} {vs : List V} (h : SqT W.K H0 a vs) (r : Reps W ι0 H0 ds vs) : SrcR W ι0 H0 (.enm ds) (IteT W.K a) where
  go := fun ι H hp k d st m e => by
    have h1 := sqt_mono st h
    unfold Src.at at e
    simp only at e
    cases q : ds[k]? with
    | none => rw [q] at e; cases e
    | some z =>
      rw [q] at e
      cases e
      obtain ⟨v, hv, rv⟩ := (r.mono st).get q
      refine ⟨⟨vs, v, h1, hv⟩, fun x H' y => ?_⟩
      obtain ⟨T, x', rfl, hT, rfl, y⟩ := y
      have := y vs h1
      rw [hv] at this
      cases this
      exact ⟨Step.lay hT, m.lay hT, rep_tup hT (.cons (.int _) (.cons rv .nil))⟩
  stop := fun ι H hp st m _ => ⟨vs, sqt_mono st h, by rw [← r.length]; exact Nat.le_refl _⟩
section
variable {Γ : Glob} {X : Cx} {N : List Str} {sc : Scope} {WE : WX} {cf : Nat → List D → M D}
theorem mi_enum (C : Cxt Γ X N sc WE cf) {a : Expr} {elts : List Expr} {kk : Nat} {tpos : Pos} {g : Env → M (List D)} {p pos : Pos} (hg : sc.names.lookup ("enumerate" : Str) = some .globalImplicit) (ha : PA X [a] (rdL Γ.W WE g)) (hs : notStar a = true) (hl : LenM 1 g) : PI X (.Tuple elts kk tpos) (.Call (.Name "enumerate" p) [a] [] pos) (rdI Γ.W WE fun env => bnd (g env) (src .enum)) := by
  refine PI.imp (PI.or (pi_enum (C.gl _ hg) (C.free _ (by decide +kernel)) ha (starEach_plain hs)) (pi_enumT (C.gl _ hg) (C.free _ (by decide +kernel)) ha (starEach_plain hs))) fun σ H Q hh => ?_
  have both := hh
  obtain ⟨ι, env, h, m, e, p⟩ := hh
  have p : PostI Γ.W ι H ((g env h).bnd (src .enum)) Q (fun c d H' => WE c d σ H') := p
  have fin : ∀ {P : List V → Hp → Prop}, (∀ ds h1, g env h = .ok ds h1 → PostI Γ.W ι H (src .enum ds h1) Q (fun c d H' => WE c d σ H') → ∀ ι' H' vs, Step ι H ι' H' → Sm Γ.W ι' H' h1 → Reps Γ.W ι' H' ds vs → P vs H') → rdL Γ.W WE g σ H P := fun {P} hp => by
    refine ⟨ι, env, h, m, e, ?_⟩
    show Post Γ.W (Reps Γ.W) ι H (g env h) P _
    cases q : g env h with
    | ok x h1 => rw [q] at p; exact fun ι' H' v s' m' r => hp x h1 q p ι' H' v s' m' r
    | exn x h1 => rw [q] at p; exact p
    | bad => rw [q] at p; exact p
  by_cases hT : ∃ xs h1, g env h = .ok [.tup xs] h1
  · obtain ⟨xs, h1, hT⟩ := hT
    refine .inr (fin fun ds h2 q p' ι' H' v s' m' r => ?_)
    rw [hT] at q
    cases q
    obtain ⟨v, rfl, r9⟩ := reps1 r
    cases r9 with
    | tup hs hr => exact ⟨_, _, rfl, SqT.of hs, by rw [C.hK]; exact p' ι' H' _ s' m' (srcR_enmT (SqT.of hs) hr)⟩
  · refine .inl (fin fun ds h2 q p' ι' H' v s' m' r => ?_)
    have hn := hl _ _ _ _ q
    match ds, hn, r, q, p' with
    | [d], _, r, q, p' =>
      obtain ⟨v, rfl, r9⟩ := reps1 r
      cases r9 with
      | tup hs hr => exact (hT ⟨_, _, q⟩).elim
      | lst hl n n2 hr => exact ⟨_, _, rfl, SqL.of hl, by rw [C.hK]; exact p' ι' H' _ s' m' (srcR_enm hl n hr)⟩
      | _ => exact p'.elim
end
end Mn

set_option maxHeartbeats 4000000
/-! Mn: d.items() of dicts with tuple keys, {k: v} with a tuple as key. -/
namespace Mn
open PySem L2
theorem frzTV {X : Cx} {pins : List (Addr × Obj)} {σ : L2.St} {H : Hp} {s : Shared} {d : Addr} {o : Obj} {kvs : List (List L2.Key × V)} (I : L2.Inv X pins σ H s) (h : H d = some (.frz o (.dT kvs))) :
    (d == sysModules) = false ∧ s.heap.get? d = some o ∧ o.ExactDict ∧ ∃ (es : Array DictEntry) (ep : Nat), o.data = .dict es ep ∧ es.size = kvs.length ∧
      ∀ (i : Nat) (k : List L2.Key) (v : V), kvs[i]? = some (k, v) → ∃ (en : DictEntry) (q : Addr), es[i]? = some en ∧ en.key = .ref q ∧ H q = some (.tup (k.map kV)) ∧ RelV v en.val := by
  obtain ⟨hd, z, hs, xs, pr, o', es, ep, ho, hx, hdt, he, _⟩ := I.hok d _ h
  rw [hd] at ho
  cases ho
  refine ⟨hs, hd, hx, es, ep, hdt, ?_, fun i k v e => ?_⟩
  · have l1 : es.size = xs.length := size_of_entries he
    have l2 : kvs.length = xs.length := Paired.length pr
    omega
  · obtain ⟨b, hb, e1, e2, e3⟩ := paired_get pr e
    have q := entry_at he i
    rw [hb] at q
    exact ⟨_, b.2.1, q, rfl, e2, e3⟩
/-- the pairs of a dict with tuple keys, each a new tuple -/
def ItiT (d : Addr) (o : Obj) (kvs : List (List L2.Key × V)) : It :=
  ⟨fun i H => H d = some (.frz o (.dT kvs)) ∧ i < kvs.length, fun i H x H' => ∃ (T : Addr) (k : List L2.Key) (v : V) (q : Addr), kvs[i]? = some (k, v) ∧ x = .ref T ∧ H T = none ∧ H q = some (.tup (k.map kV)) ∧ H' = upd H T (.tup [.ref q, v]), fun i H => H d = some (.frz o (.dT kvs)) ∧ kvs.length ≤ i⟩
theorem turn_itemsT {P : Program} {w : World} {K : PySem.W.Frag} {d : Addr} {o : Obj} {es : Array DictEntry} {ep : Nat} {kvs : List (List L2.Key × V)} {elts : List Expr} {kk : Nat} {tpos : Pos} (it : Addr) (hod : o.data = .dict es ep) :
    Turn P w K (.Tuple elts kk tpos) (ItiT d o kvs) [it] it (fun i h => ∃ ok ov, IsItemIter h it d i kvs.length ep ok ov) where
  mem := by simp
  obj := fun i h st b hb => by
    have e : b = it := by simpa using hb
    subst e
    obtain ⟨ok, ov, e⟩ := st
    exact ⟨_, e, fun v z => nomatch z⟩
  keep := fun i h h' st k => let ⟨ok, ov, e⟩ := st; ⟨ok, ov, k it (by simp) _ e⟩
  item := by
    intro X hP hw hK hc i pins s σ H E I hf st hg
    subst hP hw hK
    obtain ⟨hd, hi⟩ := hg
    obtain ⟨hs, hgd, hx, es', ep', hdt, hsz, ent⟩ := frzTV I hd
    obtain ⟨rfl, rfl⟩ := dict_ep hod hdt
    obtain ⟨⟨k, v⟩, hkv⟩ : ∃ p, kvs[i]? = some p := ⟨kvs[i], List.getElem?_eq_getElem hi⟩
    obtain ⟨en, q, hen, hkey, hq, rv⟩ := ent i k v hkv
    obtain ⟨ok, ov, he⟩ := st
    rw [← hsz] at he
    have hlt : it < s.heap.objs.size := Heap.lt_size he
    have hi' : i < es'.size := by rw [hsz]; exact hi
    have hen' : es'[i] = en := by
      rw [Array.getElem?_eq_getElem hi'] at hen
      exact Option.some.inj hen
    refine DT.nextI he ⟨o, hgd, hx, hdt⟩ hi' fun h' ho hT hz hk => ?_
    rw [hen'] at ho hT
    refine ⟨_, rfl, wpAny_letOwnedTupleGo_items (s := { s with heap := h' }) ho fun h'' he' sb => ?_⟩
    have hT2 : h''.get? s.heap.objs.size = some { cls := .type "tuple", data := .seq #[en.key, en.val] } := (sb.2 _ (Nat.ne_of_gt hlt)).trans hT
    have new : ObjOk X.prog X.w (upd H s.heap.objs.size (.tup [.ref q, v])) h'' s.heap.objs.size (.tup [.ref q, v]) :=
      ⟨by show 2 ≤ sizeLine; decide, [en.key, en.val], .cons hkey (.cons rv .nil), ⟨_, hT2, rfl, _, rfl⟩⟩
    have I1 : L2.Inv X pins σ (upd H s.heap.objs.size (.tup [.ref q, v])) { s with heap := h'' } :=
      I.turnedNew (t' := s.toks) (ch := [it]) (fun b ob hb e => (sb.2 b (by simpa using hb)).trans (hk b ob (by simpa using hb) e)) hf (Nat.le_refl _) new
    refine ⟨.ref s.heap.objs.size, _, I1, rfl, ⟨_, k, v, q, hkv, rfl, I.hok.fresh (Nat.le_refl _), hq, rfl⟩, ⟨en.key, en.val, ?_⟩, fun b hb => ?_⟩
    · rw [← hsz]; exact he'
    · have e : b = it := by simpa using hb
      rw [e, upd_ne (Nat.ne_of_lt hlt)]
      exact (hf it (by simp)).1
  done := by
    intro X hP hw hK hc i pins s σ H E I hf st hg
    subst hP hw hK
    obtain ⟨hd, hi⟩ := hg
    obtain ⟨f0, f1, f2, f3, f4, f5⟩ := hf it (by simp)
    obtain ⟨hs, hgd, hx, es', ep', hdt, hsz, ent⟩ := frzTV I hd
    obtain ⟨rfl, rfl⟩ := dict_ep hod hdt
    obtain ⟨ok, ov, he⟩ := st
    rw [← hsz] at he
    exact DT.endI (I.ok.hd hc) he ⟨o, hgd, hx, hdt⟩ (by omega) fun h' eb => ⟨rfl, I.turned (t' := s.toks) (fun b ob hb e => eb b ob hb e) f0 f1 f3 f4 f5⟩
  self := fun A i s Q E st h => let ⟨_, _, e⟩ := st; PySem.W.kcp_self e h
def iItemsT (td : TE) : TI := fun σ H R => td σ H fun x H1 => ∃ d o kvs, x = .ref d ∧ H1 d = some (.frz o (.dT kvs)) ∧ R (ItiT d o kvs) H1
theorem pi_itemsT {X : Cx} {e : Expr} {td : TE} {apos cpos : Pos} {elts : List Expr} {kk : Nat} {tpos : Pos} (he : PE X e td) (hbase : attributeBase e "items" X.env (eval e X.env) = eval e X.env) (hline : (apos.endLine == cpos.line) = true) :
    PI X (.Tuple elts kk tpos) (.Call (.Attribute e "items" apos) [] [] cpos) (iItemsT td) := by
  refine ⟨fun pins s σ H R I h => ?_⟩
  refine wpAny_Call_method (T := "dict") (id := "dict.items") hbase rfl hline F.plainAttrs_dict F.slot_dict_items F.type_dict_items (thn (he.run pins s σ H _ I h) fun u s1 ⟨x, H1, I1, rx, d, o, kvs, ex, hd, q⟩ => ?_)
  subst ex
  obtain rfl : u = Value.ref d := rx
  obtain ⟨hs, hgd, hx, es, ep, hdt, hsz, ent⟩ := frzTV I1 hd
  have hm : DT.Raw s1.heap d es ep := ⟨o, hgd, hx, hdt⟩
  refine ⟨hm.typeIs, fun b q => (by cases q; exact ⟨o, hgd, hx.2.1⟩), ?_⟩
  have I2 : L2.Inv X pins σ H1 { s1 with heap := s1.heap.push { cls := .type "dict_items", data := .fields #[.ref d] } } := I1.kept (t' := s1.toks) fun b ob q => Heap.get?_push_of_some _ q
  have fin : wpAny (model X.prog X.w) X.A (pyIter (.ref s1.heap.objs.size)) (PIE X pins σ (.Tuple elts kk tpos) R) X.xe { s1 with heap := s1.heap.push { cls := .type "dict_items", data := .fields #[.ref d] } } := by
    refine DT.iterI (d := d) (es := es) (ep := ep) ⟨_, Heap.get?_push_size _ rfl, rfl, rfl⟩ (hm.push _) (pi_one (tk := s1.toks) I2 _ (turn_itemsT _ hdt) ⟨.none, .none, ?_⟩ q)
    rw [← hsz]
    exact Heap.get?_push_size _ rfl
  show wpAny _ _ (callWith cpos (.builtin "dict.items") [.ref d] [] []) _ X.xe s1
  exact method_meetsIn F.slot_dict_items F.entry_dict_items rfl (PySem.evalArgs_none ⟨rfl, hm.typeIs, F.args_dict_items_1 _, _, DT.meetsItems (es := es) (ep := ep) hs, hm, fin⟩)
theorem reps_key2 {W : Wd} {ι : Ix} {H : Hp} : ∀ (k : List L2.Key), Reps W ι H (k.map keyD) (k.map kV)
  | [] => .nil
  | .inl i :: r => .cons (.int i) (reps_key2 r)
  | .inr x :: r => .cons (.str x) (reps_key2 r)
theorem srcR_itm {W : Wd} {ι0 : Ix} {H0 : Hp} {a : Addr} {od : Obj} {kvs : List (List L2.Key × D)} {ws : List (List L2.Key × V)} (h : H0 a = some (.frz od (.dT ws))) (ek : kvs.map (·.1) = ws.map (·.1)) (r : Reps W ι0 H0 (kvs.map (·.2)) (ws.map (·.2))) : SrcR W ι0 H0 (.itm kvs) (ItiT a od ws) where
  go := fun ι H hp k d st m e => by
    have h1 := st.frzs a _ _ h
    unfold Src.at at e
    simp only at e
    obtain ⟨kv, hkv, rfl⟩ := Option.map_eq_some_iff.mp e
    have hl0 : kvs.length = ws.length := by simpa using congrArg List.length ek
    have hl : k < ws.length := by
      rcases Nat.lt_or_ge k ws.length with q | q
      · exact q
      · rw [List.getElem?_eq_none (by omega)] at hkv; cases hkv
    have ek1 : (ws.map (·.1))[k]? = some kv.1 := by rw [← ek, List.getElem?_map, hkv]; rfl
    have rv1 := (r.mono st).get (i := k) (d := kv.2) (by rw [List.getElem?_map, hkv]; rfl)
    obtain ⟨v, hv, rv⟩ := rv1
    refine ⟨⟨h1, hl⟩, fun x H' y => ?_⟩
    obtain ⟨T, k1, v1, q, e1, rfl, hT, hq, rfl⟩ := y
    rw [List.getElem?_map, e1] at ek1 hv
    cases ek1
    cases hv
    exact ⟨Step.lay hT, m.lay hT, rep_tup hT (.cons (.tup hq (reps_key2 _)) (.cons rv .nil))⟩
  stop := fun ι H hp st m _ => ⟨st.frzs a _ _ h, by
    have hl0 : kvs.length = ws.length := by simpa using congrArg List.length ek
    show ws.length ≤ kvs.length
    omega⟩
section
variable {Γ : Glob} {X : Cx} {N : List Str} {sc : Scope} {WE : WX} {cf : Nat → List D → M D}
theorem mi_items (C : Cxt Γ X N sc WE cf) {a : Expr} {elts : List Expr} {kk : Nat} {tpos ap cp : Pos} {f : Env → M D} (h2 : (ap.endLine == cp.line) = true) (h3 : attributeBase a "items" X.env (eval a X.env) = eval a X.env) (ha : PE X a (rdE Γ.W WE f)) : PI X (.Tuple elts kk tpos) (.Call (.Attribute a "items" ap) [] [] cp) (rdI Γ.W WE fun env => bnd (bnd (f env) fun x => bnd (ret []) fun xs => ret (x :: xs)) (src .items)) := by
  refine PI.imp (pi_itemsT ha h3 h2) fun σ H Q hh => ?_
  obtain ⟨ι, env, h, m, e, p⟩ := hh
  have p : PostI Γ.W ι H (((f env h).bnd fun x => bnd (ret []) fun xs => ret (x :: xs)).bnd (src .items)) Q (fun c d H' => WE c d σ H') := p
  refine ⟨ι, env, h, m, e, ?_⟩
  show Post Γ.W (Rep Γ.W) ι H (f env h) _ _
  cases q : f env h with
  | exn x h1 => rw [q] at p; exact p
  | bad => rw [q] at p; exact p
  | ok x h1 =>
    rw [q] at p
    have p : PostI Γ.W ι H (src .items [x] h1) Q (fun c d H' => WE c d σ H') := p
    intro ι' H' v s' m' r
    cases r with
    | ref hi =>
      unfold src at p
      simp only at p
      split at p
      · rename_i kvs hc
        obtain ⟨a2, ha2, _, ws, hk, ⟨od, hH⟩, rr⟩ := m'.get hc
        rw [hi] at ha2
        cases ha2
        exact ⟨_, od, ws, rfl, hH, p ι' H' _ s' m' (srcR_itm hH hk rr)⟩
      · exact p.elim
    | _ => exact p.elim
end
/-! ### {k: v} -/
def tDispT (tk tv : TE) : TE := fun σ H Q => ∀ p, H p = none → tk σ (upd H p (.dT [])) fun x H1 => tv σ H1 fun y H2 => H2 p = some (.dT []) ∧ ∃ (k : List L2.Key) (b : Addr), x = .ref b ∧ H2 b = some (.tup (k.map kV)) ∧ Q (.ref p) (upd H2 p (.dT [(k, y)]))
theorem pe_dispT {X : Cx} {pos : Pos} {k v : Expr} {tk tv : TE} (hu : X.A.units + 1 < cLine) (hk : PE X k tk) (hv : PE X v tv) : PE X (.Dict [some k] [v] pos) (tDispT tk tv) := by
  refine ⟨fun pins s σ H Q I q => ?_⟩
  have hn := I.hok.fresh (Nat.le_refl s.heap.objs.size)
  have I1 := I.laid (a := s.heap.objs.size) (o := .dT []) (h' := s.heap.push { cls := .type "dict", data := .dict #[] }) (t' := s.toks) (fun _ _ q => Heap.get?_push_of_some _ q) (Nat.le_refl _) (dt_empty s.heap I.big)
  have hroom : (tupleKind (mixKind X.prog X.w)).room X.A := Nat.lt_of_succ_lt hu
  rw [arm_eval_Dict, zip_pairTrees [some k] [v] X.env pos rfl rfl, dictDisplay_pairs (pairTrees [some k] [v] X.env pos) (by simp [pairTrees]) (by simp [pairTrees])]
  refine wpAny_bind (wpAny_standAt (wpAny_bind (wpAny_subDictH (knd := tupleKind (mixKind X.prog X.w)) hroom (by simp [pairTrees]) ?_)))
  refine pairTrees_cons_walk (thn (hk.run pins _ σ _ _ I1 (q _ hn)) fun u s1 ⟨x, H1, I2, rx, q1⟩ => thn (hv.run pins s1 σ H1 _ I2 q1) fun w2 s2 ⟨y, H2, I3, ry, e, kk, b, ex, hb, q2⟩ => pairTrees_nil_walk ?_)
  subst ex
  obtain rfl : u = Value.ref b := rx
  obtain ⟨z, hd, xs, rel, dd⟩ := dt_of I3.hok e
  cases rel
  refine ⟨[(kk, b, w2)], ⟨rfl, rfl, key_of I3.hok hb, trivial⟩, dd, fun h' tk' dd' hs => wpAny_pure ?_⟩
  obtain ⟨qo, es, ep, hq, h2, h3, h4, _, h5⟩ := dd'
  have new : ObjOk X.prog X.w (upd H2 s.heap.objs.size (.dT [(kk, y)])) h' s.heap.objs.size (.dT [(kk, y)]) :=
    ⟨by show 1 ≤ sizeLine; decide, hd, [(kk, b, w2)], .cons ⟨rfl, by rw [upd_ne (ne_of hb e (fun z => nomatch z))]; exact hb, ry⟩ .nil, qo, es, ep, hq, h2, h3, h4, h5⟩
  exact ⟨.ref s.heap.objs.size, _, d_write I3 (by rw [e]; exact True.intro) hs ⟨qo, hq⟩ new, rfl, q2⟩
end Mn

/-! Mn: statements. -/
namespace Mn
open PySem L2
def PostS (W : Wd) (WE : WX) (ι : Ix) (H : Hp) (r : R Fl) (D : Ends) : Prop := match r with
  | .ok (.nx env) h => ∀ ι' H' σ', Step ι H ι' H' → Sm W ι' H' h → EnvR W ι' H' σ' env → D.nx σ' H'
  | .ok (.bk env) h => ∀ ι' H' σ', Step ι H ι' H' → Sm W ι' H' h → EnvR W ι' H' σ' env → D.bk σ' H'
  | .ok (.ct env) h => ∀ ι' H' σ', Step ι H ι' H' → Sm W ι' H' h → EnvR W ι' H' σ' env → D.ct σ' H'
  | .ok (.rt d) h => ∀ ι' H' v, Step ι H ι' H' → Sm W ι' H' h → Rep W ι' H' d v → D.rt v H'
  | .ok (.ex env e) h => ∀ ι' H' σ' c d, Step ι H ι' H' → Sm W ι' H' h → EnvR W ι' H' σ' env → RepX W ι' H' e c d → WE c d σ' H'
  | .exn _ _ => False
  | .bad => False
def rdS (W : Wd) (WE : WX) (f : Env → M Fl) : TS := fun D σ H => ∃ ι env h, Sm W ι H h ∧ EnvR W ι H σ env ∧ PostS W WE ι H (f env h) D
theorem PostS.base {W : Wd} {WE : WX} {ι ι1 : Ix} {H H1 : Hp} {r : R Fl} {D : Ends} (s : Step ι H ι1 H1) (p : PostS W WE ι H r D) : PostS W WE ι1 H1 r D := by
  cases r with
  | ok a h =>
    cases a with
    | nx env => exact fun ι' H' σ' s' m x => p ι' H' σ' (s.trans s') m x
    | bk env => exact fun ι' H' σ' s' m x => p ι' H' σ' (s.trans s') m x
    | ct env => exact fun ι' H' σ' s' m x => p ι' H' σ' (s.trans s') m x
    | rt d => exact fun ι' H' v s' m x => p ι' H' v (s.trans s') m x
    | ex env e => exact fun ι' H' σ' c d s' m x y => p ι' H' σ' c d (s.trans s') m x y
  | exn e h => exact p
  | bad => exact p
section
variable {Γ : Glob} {X : Cx} {N : List Str} {sc : Scope} {WE : WX} {cf : Nat → List D → M D}
/-- an expression within a statement -/
theorem rd_onE {α β : Type} {W : Wd} {R1 : Ix → Hp → α → β → Prop} {f : Env → M α} {k : α → M Fl} {σ : L2.St} {H : Hp} {D : Ends} {ι : Ix} {env : Env} {h : MH}
    (m : Sm W ι H h) (e : EnvR W ι H σ env) (p : PostS W WE ι H (onE env (f env) k h) D) {P : β → Hp → Prop}
    (hp : ∀ ι' a b H1 h1, Step ι H ι' H1 → Sm W ι' H1 h1 → EnvR W ι' H1 σ env → R1 ι' H1 a b → PostS W WE ι' H1 (k a h1) D → P b H1) : rd W WE R1 f σ H P := by
  refine ⟨ι, env, h, m, e, ?_⟩
  show Post W R1 ι H (f env h) P _
  unfold onE at p
  cases q : f env h with
  | ok a h1 =>
    rw [q] at p
    exact fun ι' H' b s' m' x => hp ι' a b H' h1 s' m' (e.mono s') x (PostS.base s' p)
  | exn x h1 =>
    rw [q] at p
    exact fun ι' H' c d s' m' x => p ι' H' σ c d s' m' (e.mono s') x
  | bad => rw [q] at p; exact p
/-- onE of a value that is at hand (an operation): no exception -/
theorem onE_op {f : M D} {k : D → M Fl} {D' : Ends} {ι : Ix} {H : Hp} {env : Env} {h : MH} {σ : L2.St} (hf : f h = .bad ∨ ∃ d h', f h = .ok d h') (p : PostS Γ.W WE ι H (onE env f k h) D') : ∃ d h', f h = .ok d h' ∧ PostS Γ.W WE ι H (k d h') D' := by
  unfold onE at p
  rcases hf with q | ⟨d, h', q⟩
  · rw [q] at p; exact p.elim
  · rw [q] at p; exact ⟨d, h', q, p⟩
theorem ms_pas {pos : Pos} : PS X (.Pass pos) (rdS Γ.W WE fun env => ret (.nx env)) :=
  PS.imp ps_pass fun D σ H hh => by
    obtain ⟨ι, env, h, m, e, p⟩ := hh
    exact p ι H σ (Step.refl _ _) m e
def notComp : Expr → Bool
  | .ListComp .. => false
  | .SetComp .. => false
  | .DictComp .. => false
  | _ => true
theorem swaps_not {e : Expr} {t : Option Expr} {n : Nat} {env : PySem.Env} (h : notComp e = true) : swapsWith e t n env = pure false := by
  cases e <;> first | rfl | (cases h; done)
theorem ms_exp {a : Expr} {f : Env → M D} {pos : Pos} (ha : PE X a (rdE Γ.W WE f)) (hc : notComp a = true) : PS X (.Expr a pos) (rdS Γ.W WE fun env => onE env (f env) fun _ => ret (.nx env)) :=
  PS.imp (ps_expr ha (swaps_not hc)) fun D σ H hh => by
    obtain ⟨ι, env, h, m, e, p⟩ := hh
    exact rd_onE m e p fun ι' d v H1 h1 s1 m1 e1 r1 p1 => p1 ι' H1 σ (Step.refl _ _) m1 e1
theorem ms_rtn {a : Expr} {f : Env → M D} {pos : Pos} (ha : PE X a (rdE Γ.W WE f)) : PS X (.Return (some a) pos) (rdS Γ.W WE fun env => onE env (f env) fun d => ret (.rt d)) :=
  PS.imp (ps_ret ha) fun D σ H hh => by
    obtain ⟨ι, env, h, m, e, p⟩ := hh
    exact rd_onE m e p fun ι' d v H1 h1 s1 m1 e1 r1 p1 => p1 ι' H1 v (Step.refl _ _) m1 r1
theorem ms_rt0 {pos : Pos} : PS X (.Return none pos) (rdS Γ.W WE fun _ => ret (.rt .non)) :=
  PS.imp ps_retN fun D σ H hh => by
    obtain ⟨ι, env, h, m, e, p⟩ := hh
    exact p ι H .non (Step.refl _ _) m .non
theorem ms_ite {c : Expr} {a b : List Stmt} {f : Env → M Bool} {g k : Env → M Fl} {pos : Pos} (hc : PT X c (rdT Γ.W WE f)) (ha : PSs X a (rdS Γ.W WE g)) (hb : PSs X b (rdS Γ.W WE k)) : PS X (.If c a b pos) (rdS Γ.W WE fun env => onE env (f env) fun x => if x then g env else k env) :=
  PS.imp (ps_if hc ha hb) fun D σ H hh => by
    obtain ⟨ι, env, h, m, e, p⟩ := hh
    refine rd_onE m e p fun ι' d v H1 h1 s1 m1 e1 r1 p1 => ?_
    subst r1
    cases d with
    | true => exact ⟨ι', env, h1, m1, e1, p1⟩
    | false => exact ⟨ι', env, h1, m1, e1, p1⟩
theorem mss_nil : PSs X [] (rdS Γ.W WE fun env => ret (.nx env)) :=
  PSs.imp pss_nil fun D σ H hh => by
    obtain ⟨ι, env, h, m, e, p⟩ := hh
    exact p ι H σ (Step.refl _ _) m e
def seqF (f g : Env → M Fl) : Env → M Fl := fun env h => match f env h with
    | .ok (.nx e1) h1 => g e1 h1
    | q => q
theorem mss_cons {s : Stmt} {r : List Stmt} {f g : Env → M Fl} (h1 : PS X s (rdS Γ.W WE f)) (h2 : PSs X r (rdS Γ.W WE g)) : PSs X (s :: r) (rdS Γ.W WE (seqF f g)) :=
  PSs.imp (pss_cons h1 h2) fun D σ H hh => by
    obtain ⟨ι, env, h, m, e, p⟩ := hh
    refine ⟨ι, env, h, m, e, ?_⟩
    unfold seqF at p
    cases q : f env h with
    | ok a h1 =>
      cases a with
      | nx e1 =>
        simp only [q] at p
        exact fun ι' H' σ' s' m' x => ⟨ι', e1, h1, m', x, PostS.base s' p⟩
      | bk e1 => simp only [q] at p; exact p
      | ct e1 => simp only [q] at p; exact p
      | rt d => simp only [q] at p; exact p
      | ex e1 x => simp only [q] at p; exact p
    | exn x h1 => simp only [q] at p; exact p
    | bad => simp only [q] at p; exact p
theorem pss_never' {st : List Stmt} : PSs X st (rdS Γ.W WE fun _ => bad) := ⟨fun pins s σ H D I hh => by obtain ⟨_, _, _, _, _, p⟩ := hh; exact p.elim⟩
theorem ps_never' {st : Stmt} : PS X st (rdS Γ.W WE fun _ => bad) := ⟨fun pins s σ H D I hh => by obtain ⟨_, _, _, _, _, p⟩ := hh; exact p.elim⟩
/-! ### assignments -/
theorem asg_rd {f : Env → M D} {t : Tg} {D : Ends} {σ : L2.St} {H : Hp} (hh : rdS Γ.W WE (fun env => onE env (f env) fun d h => match bind t d env h with
    | some env' => .ok (.nx env') h
    | none => .bad) D σ H) : tAsg (rdE Γ.W WE f) (gB Γ.W t) D σ H := by
  obtain ⟨ι, env, h, m, e, p⟩ := hh
  refine rd_onE m e p fun ι' d v H1 h1 s1 m1 e1 r1 p1 => ?_
  cases q : bind t d env h1 with
  | none => rw [q] at p1; exact p1.elim
  | some env' =>
    rw [q] at p1
    exact ⟨ι', env, h1, d, env', m1, e1, r1, q, fun σ' er _ => p1 ι' H1 σ' (Step.refl _ _) m1 er⟩
/-- no swapped stores -/
def noSwap (sc : Scope) (t e : Expr) : Bool := match t, e with
  | .Tuple ts _ _, .Tuple vs _ _ => vs.all (foldedForSure 8) || ts.any fun x => match x with
    | .Name id _ => sc.names.lookup id == some .cell
    | _ => true
  | .List _ _, .Tuple _ _ _ => false
  | _, _ => true
theorem filterMap_lt {α β : Type} {f : α → Option β} : ∀ {l : List α}, (∃ x ∈ l, f x = none) → (l.filterMap f).length < l.length
  | [], h => by obtain ⟨x, hx, _⟩ := h; cases hx
  | a :: l, h => by
    obtain ⟨x, hx, e⟩ := h
    have le : (l.filterMap f).length ≤ l.length := List.length_filterMap_le f l
    rcases List.mem_cons.mp hx with z | z
    · subst z
      rw [List.filterMap_cons_none e]
      simp only [List.length_cons]
      omega
    · have ih := filterMap_lt ⟨x, z, e⟩
      cases q : f a with
      | none => rw [List.filterMap_cons_none q]; simp only [List.length_cons]; omega
      | some b => rw [List.filterMap_cons_some q]; simp only [List.length_cons]; omega
theorem swapped_none (C : Cxt Γ X N sc WE cf) {t e : Expr} (h : noSwap sc t e = true) : swappedStores [t] e X.env = pure none := by
  unfold noSwap at h
  split at h
  · rename_i ts k1 p1 vs k2 p2
    unfold swappedStores
    simp only
    split
    · rfl
    · split
      · rfl
      · split
        · rfl
        · rename_i h3
          rw [Bool.or_eq_true] at h
          rcases h with h | h
          · rw [if_pos h]
          · exfalso
            apply h3
            rw [Bool.or_eq_true]
            left
            obtain ⟨x, hx, hx2⟩ := List.any_eq_true.mp h
            refine bne_iff_ne.mpr (Nat.ne_of_lt (filterMap_lt ⟨x, hx, ?_⟩))
            cases x <;> first | rfl | skip
            rename_i id pos
            have hc : sc.names.lookup id = some .cell := eq_of_beq hx2
            have hk : X.env.kindOf id = some .cell := (C.loc id .cell hc (.inr rfl)).1
            simp only [hk]
            rfl
  · cases h
  · rename_i h1 h2
    cases t <;> first | rfl | (cases e <;> first | rfl | exact (h1 _ _ _ _ _ _ rfl rfl).elim | exact (h2 _ _ _ _ _ rfl rfl).elim)
/-- target = e -/
theorem ms_asg (C : Cxt Γ X N sc WE cf) {t : Tg} {tg a : Expr} {f : Env → M D} {pos : Pos} (ha : PE X a (rdE Γ.W WE f)) (hg : PG X tg (gB Γ.W t)) (hc : notComp a = true) (hs : noSwap sc tg a = true) (hn : notStar tg = true) :
    PS X (.Assign [tg] a pos) (rdS Γ.W WE fun env => onE env (f env) fun d h => match bind t d env h with
    | some env' => .ok (.nx env') h
    | none => .bad) :=
  PS.imp (ps_asg ha hg (swaps_not hc) (swapped_none C hs) (by rw [assignEach_plain hn]; rfl)) fun D σ H hh => asg_rd hh
/-- target = [..], not stored while the block runs -/
theorem ms_asgLc (C : Cxt Γ X N sc WE cf) {t : Tg} {tg a : Expr} {f : Env → M D} {pos : Pos} (ha : PE X a (rdE Γ.W WE f)) (hg : PG X tg (gB Γ.W t)) (hw : swapsWithSole [tg] a pos.line X.env = pure false) (hs : noSwap sc tg a = true) (hn : notStar tg = true) :
    PS X (.Assign [tg] a pos) (rdS Γ.W WE fun env => onE env (f env) fun d h => match bind t d env h with
    | some env' => .ok (.nx env') h
    | none => .bad) :=
  PS.imp (ps_asg ha hg hw (swapped_none C hs) (by rw [assignEach_plain hn]; rfl)) fun D σ H hh => asg_rd hh
theorem gName_rd {i : Nat} {f : Env → M D} {D : Ends} {σ : L2.St} {H : Hp} (hh : rdS Γ.W WE (fun env => onE env (f env) fun d h => match bind (.nm i) d env h with
    | some env' => .ok (.nx env') h
    | none => .bad) D σ H) : tAsg (rdE Γ.W WE f) (gName i) D σ H := by
  obtain ⟨ι, env, h, m, e, p⟩ := hh
  refine rd_onE m e p fun ι' d v H1 h1 s1 m1 e1 r1 p1 => ?_
  unfold bind at p1
  split at p1
  · rename_i env' q
    split at q
    · cases q
      exact p1 ι' H1 _ (Step.refl _ _) m1 (e1.set r1)
    · cases q
  · exact p1.elim
/-! ### a, b = x, y -/
theorem par_names (C : Cxt Γ X N sc WE cf) {x y : Str} {a b : Expr} {px py pt pt2 : Pos} {kt k2 : Nat} (hx : sc.names.lookup x = some .local) (hy : sc.names.lookup y = some .local) (hxy : (x == y) = false) (hl : (py.line == px.line) = true)
    (hf : ([a, b].all (foldedForSure 8)) = false) (hc : ([a, b].all (constantsAlone 8)) = false) (hs : ([a, b].all notStar) = true) :
    swappedStores [.Tuple [.Name x px, .Name y py] kt pt] (.Tuple [a, b] k2 pt2) X.env = pure (some [x, y]) := by
  have kx : X.env.kindOf x = some .local := (C.loc x .local hx (.inl rfl)).1
  have ky : X.env.kindOf y = some .local := (C.loc y .local hy (.inl rfl)).1
  have kk : X.env.blockKind = .function := by unfold Env.blockKind; rw [C.kind]; rfl
  rw [List.all_cons, List.all_cons, Bool.and_eq_true, Bool.and_eq_true] at hs
  have one : ∀ {e : Expr}, notStar e = true → (match e with | .Starred .. => true | _ => false) = false := fun {e} h => by
    cases e <;> first | rfl | (cases h; done)
  have s1 := one hs.1
  have s2 := one hs.2.1
  unfold swappedStores
  simp only [List.filterMap_cons, List.filterMap_nil, kx, ky, kk, hf, hc, List.head?_cons, Option.map_some, Option.getD_some, Expr.pos, hl, beq_self_eq_true, Bool.and_self, if_true]
  have hxy' : x ≠ y := by simpa using hxy
  simp only [List.any_cons, List.any_nil, s1, s2]
  simp [List.eraseDups_cons, hxy', Ne.symm hxy']
  intro h
  exfalso
  rcases h with h | h
  · cases a <;> first | (cases h; done) | (cases hs.1; done)
  · cases b <;> first | (cases h; done) | (cases hs.2.1; done)
theorem ms_par (C : Cxt Γ X N sc WE cf) {i j : Nat} {x y : Str} {a b : Expr} {g : Env → M (List D)} {px py pt pt2 pos : Pos} {kt k2 : Nat} (hi : N[i]? = some x) (hj : N[j]? = some y) (hij : i ≠ j) (hx : sc.names.lookup x = some .local) (hy : sc.names.lookup y = some .local) (hxy : (x == y) = false) (hl : (py.line == px.line) = true)
    (hf : ([a, b].all (foldedForSure 8)) = false) (hc : ([a, b].all (constantsAlone 8)) = false) (hs : ([a, b].all notStar) = true) (ha : PA X [a, b] (rdL Γ.W WE g)) :
    PS X (.Assign [.Tuple [.Name x px, .Name y py] kt pt] (.Tuple [a, b] k2 pt2) pos) (rdS Γ.W WE fun env => onE env (g env) fun ds => match ds with
    | [x, y] => if i < env.length ∧ j < env.length then ret (.nx ((env.set i (some x)).set j (some y))) else bad
    | _ => bad) := by
  refine PS.imp (ps_par C.calm (by rw [C.hN]; exact C.nd) (by rw [C.hN]; exact hi) (by rw [C.hN]; exact hj) hij (C.loc x .local hx (.inl rfl)).1 (C.loc y .local hy (.inl rfl)).1 ha (par_names C hx hy hxy hl hf hc hs) rfl) fun D σ H hh => ?_
  obtain ⟨ι, env, h, m, e, p⟩ := hh
  refine rd_onE m e p fun ι' ds vs H1 h1 s1 m1 e1 r1 p1 => ?_
  match ds, r1, p1 with
  | [d, d'], r1, p1 =>
    obtain ⟨v, u, rfl, r8, r9⟩ := reps2 r1
    have p1 : PostS Γ.W WE ι' H1 ((if i < env.length ∧ j < env.length then ret (.nx ((env.set i (some d)).set j (some d'))) else bad : M Fl) h1) D := p1
    split at p1
    · exact ⟨v, u, rfl, p1 ι' H1 _ (Step.refl _ _) m1 ((e1.set r8).set r9)⟩
    · exact p1.elim
/-! ### x op= e -/
theorem ip_augD (o : BO) : PIp X (opOf o) (rV2 Γ.W (augD o)) := by
  intro pins s σ H x y v u Q I rx ry hh
  obtain ⟨ι, h, d1, d2, m, r1, r2, p⟩ := hh
  cases o with
  | add =>
    cases r1 <;> first | exact p.elim | skip
    cases r2 <;> first | exact p.elim | skip
    exact ip_add pins s σ H _ _ v u Q I rx ry ⟨_, _, rfl, rfl, postQ_here (d := D.int _) p m (.int _)⟩
  | sub =>
    cases r1 <;> first | exact p.elim | skip
    cases r2 <;> first | exact p.elim | skip
    exact ip_sub pins s σ H _ _ v u Q I rx ry ⟨_, _, rfl, rfl, postQ_here (d := D.int _) p m (.int _)⟩
  | mul => cases r1 <;> exact p.elim
  | fdv => cases r1 <;> exact p.elim
  | mod => cases r1 <;> exact p.elim
theorem augD_ok (o : BO) (x y : D) (h : MH) : augD o x y h = .bad ∨ ∃ d, augD o x y h = .ok d h := by
  unfold augD
  split
  · exact .inr ⟨_, rfl⟩
  · exact .inr ⟨_, rfl⟩
  · exact .inl rfl
theorem ms_aug (C : Cxt Γ X N sc WE cf) {i : Nat} {x : Str} {k : NameKind} {a : Expr} {f : Env → M D} {o : BO} {pos pos' : Pos} (hi : N[i]? = some x) (hx : sc.names.lookup x = some k) (hk : k = .local ∨ k = .cell) (ha : PE X a (rdE Γ.W WE f)) :
    PS X (.AugAssign (.Name x pos') (opOf o) a pos) (rdS Γ.W WE fun env h => match env[i]? with
    | some (some x) => onE env (f env) (fun y => onE env (augD o x y) fun z => ret (.nx (env.set i (some z)))) h
    | _ => .bad) := by
  obtain ⟨h1, h2⟩ := C.loc x k hx hk
  have hl : Loc X.env.scope x := by
    rcases hk with rfl | rfl
    · exact .inl h1
    · exact .inr h1
  have hf : X.fn x = true ∨ X.env.scope.names.lookup x = some .local := by
    rcases h2 with rfl | h2
    · exact .inr h1
    · exact .inl h2
  refine PS.imp (ps_aug (i := i) (by rw [C.hN]; exact C.nd) (by rw [C.hN]; exact hi) hl ha (ip_augD (Γ := Γ) o) hf) fun D σ H hh => ?_
  obtain ⟨ι, env, h, m, e, p⟩ := hh
  simp only at p
  split at p
  · rename_i d hd
    obtain ⟨v, hv, rv⟩ := e.2 i d hd
    refine ⟨v, hv, ?_⟩
    refine rd_onE m e p fun ι' d2 v2 H1 h1 s1 m1 e1 r1 p1 => ?_
    refine ⟨ι', h1, d, d2, m1, rv.mono s1, r1, ?_⟩
    rcases augD_ok o d d2 h1 with q | ⟨z, q⟩
    · unfold onE at p1; rw [q] at p1; exact p1.elim
    · rw [q]
      unfold onE at p1
      rw [q] at p1
      exact fun ι2 H2 w2 s2 m2 r2 => p1 ι2 H2 _ s2 m2 ((e1.mono s2).set r2)
  · exact p.elim
/-! ### stores into a cell -/
theorem cell_put {W : Wd} {ι : Ix} {H : Hp} {h : MH} {i : Nat} {a : Addr} {xs ys : List D} {vs us : List V} (m : Sm W ι H h) (hi : ι.c[i]? = some a) (hc : h[i]? = some (.lst xs)) (hv : H a = some (.lst vs)) (hp : plains ys = true) (r : Reps W ι H ys us) : Step ι H ι (upd H a (.lst us)) ∧ Sm W ι (upd H a (.lst us)) (h.set i (.lst ys)) := by
  have st : Step ι H ι (upd H a (.lst us)) := Step.put (List.mem_of_getElem? hi) hv (fun _ z => by cases z) (fun _ _ z => by cases z) (fun _ z => by cases z)
  exact ⟨st, m.put hi st ⟨hp, us, upd_same, r.mono st⟩⟩
theorem setCell_post {W : Wd} {ι : Ix} {H : Hp} {h : MH} {i : Nat} {a : Addr} {F : List D → Option (List D)} {env : Env} {D : Ends} {σ : L2.St} (m : Sm W ι H h) (e : EnvR W ι H σ env) (hi : ι.c[i]? = some a) (p : PostS W WE ι H (setCell i F env h) D)
    {P : Prop} (hp : ∀ xs ys vs, h[i]? = some (.lst xs) → H a = some (.lst vs) → Reps W ι H xs vs → F xs = some ys → plains ys = true → (∀ us, Reps W ι H ys us → D.nx σ (upd H a (.lst us))) → P) : P := by
  unfold setCell at p
  split at p
  · rename_i xs hc
    split at p
    · rename_i ys hF
      split at p
      · rename_i hpl
        obtain ⟨a', ha', _, vs, hv, r⟩ := m.get hc
        rw [hi] at ha'
        cases ha'
        refine hp xs ys vs hc hv r hF hpl fun us ru => ?_
        obtain ⟨st, m'⟩ := cell_put m hi hc hv hpl ru
        exact p ι _ σ st m' (e.mono st)
      · exact p.elim
    · exact p.elim
  · exact p.elim
theorem ms_sti (C : Cxt Γ X N sc WE cf) {a b z : Expr} {f g k : Env → M D} {pos pos' : Pos} (hz : PE X z (rdE Γ.W WE k)) (ha : PE X a (rdE Γ.W WE f)) (hb : PE X b (rdE Γ.W WE g)) (hc : notComp z = true) (hsl : notSlice b = true) :
    PS X (.Assign [.Subscript a b pos'] z pos) (rdS Γ.W WE fun env => onE env (k env) fun z => onE env (f env) fun x => onE env (g env) fun y => match x, y with
    | .ref i, .int j => setCell i (fun xs => putI xs j z) env
    | _, _ => bad) := by
  have hg : PG X (.Subscript a b pos') (gSub (rdE Γ.W WE f) (rdE Γ.W WE g) rSetL) := pg_sub ha hb set_list (by
    intro v
    cases b <;> first | rfl | (cases hsl; done))
  refine PS.imp (ps_asg hz hg (show swapsWith z (some (.Subscript a b pos')) pos.line X.env = pure false from swaps_not hc) (swapped_none C (by unfold noSwap; rfl)) rfl) fun D σ H hh => ?_
  obtain ⟨ι, env, h, m, e, p⟩ := hh
  refine rd_onE m e p fun ι1 d1 v1 H1 h1 s1 m1 e1 r1 p1 => ?_
  refine rd_onE (f := f) m1 e1 p1 fun ι2 d2 v2 H2 h2 s2 m2 e2 r2 p2 => ?_
  refine rd_onE (f := g) m2 e2 p2 fun ι3 d3 v3 H3 h3 s3 m3 e3 r3 p3 => ?_
  cases r2 <;> first | exact p3.elim | skip
  rename_i i a' hi
  cases r3 <;> first | exact p3.elim | skip
  rename_i j
  have hi3 := s3.pre _ _ hi
  refine setCell_post m3 e3 hi3 p3 fun xs ys vs hc hv r hF hpl q => ?_
  unfold putI at hF
  rw [r.length] at hF
  cases hj : ixN vs.length j with
  | none => rw [hj] at hF; cases hF
  | some jj =>
    rw [hj] at hF
    cases hF
    exact ⟨a', vs, j, jj, rfl, rfl, hv, hj, q _ (Reps.set ((r1.mono s2).mono s3) jj r)⟩
/-! ### d[k] = v -/
theorem keyL_reps {W : Wd} {ι : Ix} {H : Hp} : ∀ {ds : List D} {vs : List V} {k : List L2.Key}, Reps W ι H ds vs → keyL ds = some k → vs = k.map kV
  | [], _, _, .nil, e => by cases e; rfl
  | d :: r, _, _, .cons r1 r2, e => by
    cases d with
    | int i =>
      cases r1
      simp only [keyL, Option.map_eq_some_iff] at e
      obtain ⟨k, e1, rfl⟩ := e
      rw [keyL_reps r2 e1]
      rfl
    | str x =>
      cases r1
      simp only [keyL, Option.map_eq_some_iff] at e
      obtain ⟨k, e1, rfl⟩ := e
      rw [keyL_reps r2 e1]
      rfl
    | _ => cases e
theorem any_keys {k : List L2.Key} : ∀ {kvs : List (List L2.Key × D)} {ws : List (List L2.Key × V)}, kvs.map (·.1) = ws.map (·.1) → (kvs.any fun kv => decide (kv.1 = k)) = ws.any fun kv => decide (kv.1 = k)
  | [], [], _ => rfl
  | [], _ :: _, e => by simp at e
  | _ :: _, [], e => by simp at e
  | a :: kvs, b :: ws, e => by
    simp only [List.map_cons, List.cons.injEq] at e
    simp only [List.any_cons]
    rw [any_keys e.2, e.1]
theorem repl_rep {W : Wd} {ι : Ix} {H : Hp} {k : List L2.Key} {d : D} {v : V} (rv : Rep W ι H d v) : ∀ {kvs : List (List L2.Key × D)} {ws : List (List L2.Key × V)}, kvs.map (·.1) = ws.map (·.1) → Reps W ι H (kvs.map (·.2)) (ws.map (·.2)) →
    (kvs.map fun kv => if kv.1 = k then (kv.1, d) else kv).map (·.1) = (ws.map fun kv => if kv.1 = k then (kv.1, v) else kv).map (·.1) ∧ Reps W ι H ((kvs.map fun kv => if kv.1 = k then (kv.1, d) else kv).map (·.2)) ((ws.map fun kv => if kv.1 = k then (kv.1, v) else kv).map (·.2))
  | [], [], _, _ => ⟨rfl, .nil⟩
  | [], _ :: _, e, _ => by simp at e
  | _ :: _, [], e, _ => by simp at e
  | (k1, d1) :: kvs, (k2, v1) :: ws, e, r => by
    simp only [List.map_cons, List.cons.injEq] at e
    obtain ⟨rfl, e⟩ := e
    cases r with
    | cons r1 r2 =>
      obtain ⟨i1, i2⟩ := repl_rep (k := k) rv e r2
      by_cases h : k1 = k
      · simp only [List.map_cons, h, if_true]
        exact ⟨by rw [i1], .cons rv i2⟩
      · simp only [List.map_cons, h, if_false]
        exact ⟨by rw [i1], .cons r1 i2⟩
theorem dput_rep {W : Wd} {ι : Ix} {H : Hp} {k : List L2.Key} {d : D} {v : V} {kvs : List (List L2.Key × D)} {ws : List (List L2.Key × V)} (rv : Rep W ι H d v) (e : kvs.map (·.1) = ws.map (·.1)) (r : Reps W ι H (kvs.map (·.2)) (ws.map (·.2))) :
    (dput kvs k d).map (·.1) = (putK ws k v).map (·.1) ∧ Reps W ι H ((dput kvs k d).map (·.2)) ((putK ws k v).map (·.2)) := by
  unfold dput putK
  rw [any_keys e]
  split
  · exact repl_rep rv e r
  · simp only [List.map_append, List.map_cons, List.map_nil]
    exact ⟨by rw [e], r.append (.cons rv .nil)⟩
theorem plains_app : ∀ {xs ys : List D}, plains (xs ++ ys) = (plains xs && plains ys)
  | [], _ => rfl
  | x :: xs, ys => by simp [plains, plains_app, Bool.and_assoc]
theorem repl_plain {k : List L2.Key} {d : D} (hd : plain d = true) : ∀ {kvs : List (List L2.Key × D)}, plains (kvs.map (·.2)) = true → plains ((kvs.map fun kv => if kv.1 = k then (kv.1, d) else kv).map (·.2)) = true
  | [], _ => rfl
  | p :: r, h => by
    simp only [List.map_cons, plains, Bool.and_eq_true] at h ⊢
    have ih := repl_plain (k := k) hd h.2
    by_cases e : p.1 = k
    · simp only [e, if_true]; exact ⟨hd, ih⟩
    · simp only [e, if_false]; exact ⟨h.1, ih⟩
theorem dput_plain {k : List L2.Key} {d : D} (hd : plain d = true) : ∀ {kvs : List (List L2.Key × D)}, plains (kvs.map (·.2)) = true → plains ((dput kvs k d).map (·.2)) = true := by
  intro kvs h
  unfold dput
  split
  · exact repl_plain hd h
  · simp only [List.map_append, List.map_cons, List.map_nil, plains_app, h, plains, hd, Bool.and_self]
theorem ms_dst (C : Cxt Γ X N sc WE cf) {a b z : Expr} {f g k : Env → M D} {pos pos' : Pos} (hz : PE X z (rdE Γ.W WE k)) (ha : PE X a (rdE Γ.W WE f)) (hb : PE X b (rdE Γ.W WE g)) (hc : notComp z = true) :
    PS X (.Assign [.Subscript a b pos'] z pos) (rdS Γ.W WE fun env => onE env (k env) fun z => onE env (f env) fun x => onE env (g env) fun y => match x, y with
    | .ref i, .tup ks => fun h => (match h[i]?, keyL ks with
      | some (.dct false kvs), some k => if plain z = true ∧ kvs.length < SZ then .ok (.nx env) (h.set i (.dct false (dput kvs k z))) else .bad
      | _, _ => .bad)
    | _, _ => bad) := by
  have hu : X.A.units + 1 < cLine := by have := C.un; omega
  refine PS.imp (ps_dput hu ha hb hz (swaps_not hc)) fun D σ H hh => ?_
  obtain ⟨ι, env, h, m, e, p⟩ := hh
  refine rd_onE m e p fun ι1 d1 v1 H1 h1 s1 m1 e1 r1 p1 => ?_
  refine rd_onE (f := f) m1 e1 p1 fun ι2 d2 v2 H2 h2 s2 m2 e2 r2 p2 => ?_
  refine rd_onE (f := g) m2 e2 p2 fun ι3 d3 v3 H3 h3 s3 m3 e3 r3 p3 => ?_
  cases r2 <;> first | exact p3.elim | skip
  rename_i i a' hi
  cases r3 <;> first | exact p3.elim | skip
  rename_i ab xs ks hb3 rb3
  have hi3 := s3.pre _ _ hi
  simp only at p3
  cases q3 : h3[i]? with
  | none => rw [q3] at p3; exact p3.elim
  | some cl =>
    cases cl with
    | lst _ => rw [q3] at p3; exact p3.elim
    | ins _ _ => rw [q3] at p3; exact p3.elim
    | dct lk kvs =>
      cases lk with
      | true => rw [q3] at p3; exact p3.elim
      | false =>
        cases q4 : keyL ks with
        | none => rw [q3, q4] at p3; exact p3.elim
        | some kk =>
          rw [q3, q4] at p3
          simp only at p3
          split at p3
          · rename_i hpl
            obtain ⟨a2, ha2, pk, ws, ek, hH, rr⟩ := m3.get q3
            rw [hi3] at ha2
            cases ha2
            have hH : H3 a' = some (.dT ws) := hH
            rw [keyL_reps rb3 q4] at hb3
            have hlen : ws.length < sizeLine := by
              have := congrArg List.length ek
              rw [List.length_map, List.length_map] at this
              rw [← this, ← SZ_eq]
              exact hpl.2
            have rv := (r1.mono s2).mono s3
            obtain ⟨k1, k2⟩ := dput_rep (k := kk) rv ek rr
            have st : Step ι3 H3 ι3 (upd H3 a' (.dT (putK ws kk v1))) := Step.put (List.mem_of_getElem? hi3) hH (fun _ z => by cases z) (fun _ _ z => by cases z) (fun _ z => by cases z)
            refine ⟨a', _, rfl, DPut.t hH hb3 hlen, p3 ι3 _ σ st (m3.put hi3 st ⟨dput_plain hpl.1 pk, _, k1, ?_, k2.mono st⟩) (e3.mono st)⟩
            exact upd_same
          · exact p3.elim
theorem get_list : PGet X (rIxL X.K) := by
  intro pins s σ H x y v u Q I rx ry h
  obtain ⟨p, xs, i, z, rfl, rfl, hq, he, q⟩ := h
  cases rx
  obtain ⟨t, rfl⟩ := ry
  obtain ⟨its, r, pl, hz⟩ := I.list hq
  obtain ⟨j, h1, h2, h3, h4, h5⟩ := atI_get he
  obtain ⟨w, ew, rw'⟩ := r.get h2
  have hl := r.length
  have hn := line63
  have fin : EP X pins σ Q w s := ⟨z, H, I, rw', q⟩
  by_cases h0 : 0 ≤ i
  · have hj : i.toNat = j := by
      rw [seqIndex_of h0 h5] at h1
      exact Option.some.inj h1
    exact wpAny_getItem_list pl.isList h0 (by omega) (by rw [hj]; simpa using ew) fin
  · have hj : (i + (its.toArray.size : Int)).toNat = j := by
      rw [seqIndex_neg (by omega) h4] at h1
      rw [List.size_toArray, ← hl]
      exact Option.some.inj h1
    exact wpAny_getItem_list_neg pl.isList (by omega) (by rw [List.size_toArray] <;> omega) (by omega) (by rw [hj]; simpa using ew) fin
theorem idx_cell {i : Nat} {j : Int} {h : MH} : idxD (.ref i) (.int j) h = match h[i]? with
    | some (.lst xs) => (match atI xs j with | some d => .ok d h | none => .bad)
    | _ => .bad := by
  show (match lItems (.ref i) h with
    | some xs => (match atI xs j with | some d => R.ok d h | none => .bad)
    | none => .bad) = _
  unfold lItems
  simp only
  cases h[i]? with
  | none => rfl
  | some c => cases c <;> rfl
theorem ms_augs (C : Cxt Γ X N sc WE cf) {a b z : Expr} {f g k : Env → M D} {o : BO} {pos pos' : Pos} (ha : PE X a (rdE Γ.W WE f)) (hb : PE X b (rdE Γ.W WE g)) (hz : PE X z (rdE Γ.W WE k)) (hsl : notSlice b = true) :
    PS X (.AugAssign (.Subscript a b pos') (opOf o) z pos) (rdS Γ.W WE fun env => onE env (f env) fun x => onE env (g env) fun y => match x, y with
    | .ref i, .int j => onE env (idxD (.ref i) (.int j)) fun u => onE env (k env) fun w => onE env (augD o u w) fun z => setCell i (fun xs => putI xs j z) env
    | _, _ => bad) := by
  refine PS.imp (ps_augS ha hb get_list hz (ip_augD (Γ := Γ) o) set_list (by
    intro ov iv new
    cases b <;> first | rfl | (cases hsl; done))) fun D σ H hh => ?_
  obtain ⟨ι, env, h, m, e, p⟩ := hh
  refine rd_onE m e p fun ι1 d1 v1 H1 h1 s1 m1 e1 r1 p1 => ?_
  refine rd_onE (f := g) m1 e1 p1 fun ι2 d2 v2 H2 h2 s2 m2 e2 r2 p2 => ?_
  cases r1 <;> first | exact p2.elim | skip
  rename_i i a' hi
  cases r2 <;> first | exact p2.elim | skip
  rename_i j
  have hi2 := s2.pre _ _ hi
  have p2 : PostS Γ.W WE ι2 H2 (onE env (idxD (.ref i) (.int j)) (fun u => onE env (k env) fun w => onE env (augD o u w) fun z => setCell i (fun xs => putI xs j z) env) h2) D := p2
  unfold onE at p2
  rw [idx_cell] at p2
  cases hc : h2[i]? with
  | none => rw [hc] at p2; exact p2.elim
  | some c =>
    cases c with
    | ins _ _ => rw [hc] at p2; exact p2.elim
    | dct _ _ => rw [hc] at p2; exact p2.elim
    | lst xs =>
      rw [hc] at p2
      simp only at p2
      cases ht : atI xs j with
      | none => rw [ht] at p2; exact p2.elim
      | some u =>
        rw [ht] at p2
        obtain ⟨a2, ha2, _, vs, hv, r⟩ := m2.get hc
        rw [hi2] at ha2
        cases ha2
        obtain ⟨w, hw, rw9⟩ := r.at ht
        refine ⟨a', vs, j, w, rfl, rfl, SqL.of hv, hw, ?_⟩
        have p3 : PostS Γ.W WE ι2 H2 (onE env (k env) (fun w => onE env (augD o u w) fun z => setCell i (fun xs => putI xs j z) env) h2) D := p2
        refine rd_onE (f := k) m2 e2 p3 fun ι4 d4 v4 H4 h4 s4 m4 e4 r4 p4 => ?_
        refine ⟨ι4, h4, u, d4, m4, rw9.mono s4, r4, ?_⟩
        rcases augD_ok o u d4 h4 with q | ⟨z, q⟩
        · unfold onE at p4; rw [q] at p4; exact p4.elim
        · rw [q]
          unfold onE at p4
          rw [q] at p4
          intro ι5 H5 w5 s5 m5 r5
          have hi5 := s5.pre _ _ (s4.pre _ _ hi2)
          refine setCell_post m5 (e4.mono s5) hi5 (PostS.base s5 p4) fun xs' ys vs' hc' hv' r' hF hpl qq => ?_
          unfold putI at hF
          rw [r'.length] at hF
          cases hj : ixN vs'.length j with
          | none => rw [hj] at hF; cases hF
          | some jj =>
            rw [hj] at hF
            cases hF
            exact ⟨a', vs', j, jj, rfl, rfl, hv', hj, qq _ (Reps.set r5 jj r')⟩
/-! ### xs.append(e) -/
theorem ms_app (C : Cxt Γ X N sc WE cf) {a z : Expr} {f k : Env → M D} {pos cpos apos : Pos} (ha : PE X a (rdE Γ.W WE f)) (hz : PE X z (rdE Γ.W WE k)) (hs : notStar z = true) (hbase : attributeBase a "append" X.env (eval a X.env) = eval a X.env) (hline : (apos.endLine == cpos.line) = true) :
    PS X (.Expr (.Call (.Attribute a "append" apos) [z] [] cpos) pos) (rdS Γ.W WE fun env => onE env (f env) fun x => match x with
    | .ref i => fun h => (match h[i]? with
      | some (.lst _) => onE env (k env) (fun z => setCell i (fun xs => if xs.length < SZ then some (xs ++ [z]) else none) env) h
      | _ => .bad)
    | _ => bad) := by
  have hA : PA X [z] (tCons (rdE Γ.W WE k) tNil) := pa_cons hz pa_nil (starEach_plain hs)
  refine PS.imp (ps_expr (pe_bm PySem.F.plainAttrs_list PySem.F.slot_list_append PySem.F.type_list_append mt_append ha hA hbase (by
    rw [starEach_plain hs]; rfl) hline (starEach_plain hs) rfl) rfl) fun D σ H hh => ?_
  obtain ⟨ι, env, h, m, e, p⟩ := hh
  refine rd_onE m e p fun ι1 d1 v1 H1 h1 s1 m1 e1 r1 p1 => ?_
  cases r1 <;> first | exact p1.elim | skip
  rename_i i a' hi
  simp only at p1
  cases hc : h1[i]? with
  | none => rw [hc] at p1; exact p1.elim
  | some c =>
    cases c with
    | ins _ _ => rw [hc] at p1; exact p1.elim
    | dct _ _ => rw [hc] at p1; exact p1.elim
    | lst xs =>
      rw [hc] at p1
      obtain ⟨a2, ha2, _, vs, hv, r⟩ := m1.get hc
      rw [hi] at ha2
      cases ha2
      refine ⟨.inl ⟨rfl, _, SqL.of hv⟩, ?_⟩
      refine rd_onE (f := k) m1 e1 p1 fun ι2 d2 v2 H2 h2 s2 m2 e2 r2 p2 => ?_
      have hi2 := s2.pre _ _ hi
      refine setCell_post m2 e2 hi2 p2 fun xs' ys vs' hc' hv' r' hF hpl q => ?_
      split at hF
      · rename_i hz
        cases hF
        exact ⟨a', vs', v2, rfl, rfl, hv', by rw [← SZ_eq, ← r'.length]; exact hz, q _ (r'.append (.cons r2 .nil))⟩
      · cases hF
/-! ### loops -/
theorem ms_for (C : Cxt Γ X N sc WE cf) {tg iter : Expr} {body : List Stmt} {fI : Env → M Src} {t : Tg} {g : Env → M Fl} {pos : Pos} (hi : PI X tg iter (rdI Γ.W WE fI)) (hg : PG X tg (gB Γ.W t)) (hb : PSs X body (rdS Γ.W WE g)) (hs : notSet iter = true) :
    PS X (.For tg iter body [] pos) (rdS Γ.W WE fun env => onE env (fI env) fun s => forN s t g s.count 0 env) := by
  refine PS.imp (ps_for C.po C.calm hi hg hb (noFold hs)) fun D σ H hh => ?_
  obtain ⟨ι, env, h, m, e, p⟩ := hh
  refine ⟨ι, env, h, m, e, ?_⟩
  unfold onE at p
  cases q : fI env h with
  | exn x h1 => simp only [q] at p; exact fun ι' H' c d s' m' x => p ι' H' σ c d s' m' (e.mono s') x
  | bad => simp only [q] at p; exact p
  | ok s h1 =>
    simp only [q] at p
    intro ι1 H1 J st1 m1 sr
    refine ⟨fun i mm σ' H' => ∃ ι' h' env', i + mm = s.count ∧ Step ι1 H1 ι' H' ∧ Sm Γ.W ι' H' h' ∧ EnvR Γ.W ι' H' σ' env' ∧ PostS Γ.W WE ι' H' (forN s t g mm i env' h') D, ⟨s.count, ι1, h1, env, Nat.zero_add _, Step.refl _ _, m1, e.mono st1, PostS.base st1 p⟩, ?_⟩
    rintro i mm σ' H' ⟨ι', h', env', hc, st, m', e', p'⟩
    cases mm with
    | zero =>
      have hi : i = s.count := by omega
      subst hi
      unfold forN at p'
      by_cases hdone : s.done h' = true
      · rw [if_pos hdone] at p'
        exact .inl ⟨sr.stop ι' H' h' st m' hdone, p' ι' H' σ' (Step.refl _ _) m' e'⟩
      · rw [if_neg hdone] at p'
        exact p'.elim
    | succ mm =>
      unfold forN at p'
      cases q1 : s.at i h' with
      | none => simp only [q1] at p'; exact p'.elim
      | some d =>
        simp only [q1] at p'
        cases q2 : bind t d env' h' with
        | none => simp only [q2] at p'; exact p'.elim
        | some e2 =>
          simp only [q2] at p'
          obtain ⟨hgo, hyl⟩ := sr.go ι' H' h' i d st m' q1
          refine .inr ⟨hgo, _, fun σ2 H2 w2 => ⟨mm, Nat.lt_succ_self mm, w2⟩, fun x H2 y => ?_⟩
          obtain ⟨st2, m2, r2⟩ := hyl x H2 y
          refine ⟨ι', env', h', d, e2, m2, e'.mono st2, r2, q2, fun σ2 er _ => ⟨ι', e2, h', m2, er, ?_⟩⟩
          have p' := PostS.base st2 p'
          cases q3 : g e2 h' with
          | ok a h3 =>
            cases a with
            | nx e3 =>
              simp only [q3] at p'
              exact fun ι3 H3 σ3 s3 m3 x3 => ⟨ι3, h3, e3, by omega, (st.trans st2).trans s3, m3, x3, PostS.base s3 p'⟩
            | ct e3 =>
              simp only [q3] at p'
              exact fun ι3 H3 σ3 s3 m3 x3 => ⟨ι3, h3, e3, by omega, (st.trans st2).trans s3, m3, x3, PostS.base s3 p'⟩
            | bk e3 =>
              simp only [q3] at p'
              exact fun ι3 H3 σ3 s3 m3 x3 => p' ι3 H3 σ3 s3 m3 x3
            | rt d3 => simp only [q3] at p'; exact p'
            | ex e3 x3 => simp only [q3] at p'; exact p'
          | exn x3 h3 => simp only [q3] at p'; exact p'
          | bad => simp only [q3] at p'; exact p'
theorem ms_whl (C : Cxt Γ X N sc WE cf) {c : Expr} {body : List Stmt} {f : Env → M Bool} {g : Env → M Fl} {pos : Pos} (n : Nat) (hc : PT X c (rdT Γ.W WE f)) (hb : PSs X body (rdS Γ.W WE g)) :
    PS X (.While c body [] pos) (rdS Γ.W WE fun env => whlN f g n env) := by
  refine PS.imp (ps_while C.po hc hb) fun D σ H hh => ?_
  obtain ⟨ι, env, h, m, e, p⟩ := hh
  refine ⟨fun mm σ' H' => ∃ ι' h' env', Step ι H ι' H' ∧ Sm Γ.W ι' H' h' ∧ EnvR Γ.W ι' H' σ' env' ∧ PostS Γ.W WE ι' H' (whlN f g mm env' h') D, ⟨n, ι, h, env, Step.refl _ _, m, e, p⟩, ?_⟩
  rintro mm σ' H' ⟨ι', h', env', st, m', e', p'⟩
  cases mm with
  | zero => exact p'.elim
  | succ mm =>
    unfold whlN at p'
    refine rd_onE (f := f) m' e' p' fun ι2 d2 v2 H2 h2 s2 m2 e2 r2 p2 => ?_
    subst r2
    cases d2 with
    | false => exact p2 ι2 H2 σ' (Step.refl _ _) m2 e2
    | true =>
      refine ⟨_, fun σ3 H3 w3 => ⟨mm, Nat.lt_succ_self mm, w3⟩, ι2, env', h2, m2, e2, ?_⟩
      simp only [if_true] at p2
      cases q3 : g env' h2 with
      | ok a h3 =>
        cases a with
        | nx e3 =>
          simp only [q3] at p2
          exact fun ι3 H3 σ3 s3 m3 x3 => ⟨ι3, h3, e3, (st.trans s2).trans s3, m3, x3, PostS.base s3 p2⟩
        | ct e3 =>
          simp only [q3] at p2
          exact fun ι3 H3 σ3 s3 m3 x3 => ⟨ι3, h3, e3, (st.trans s2).trans s3, m3, x3, PostS.base s3 p2⟩
        | bk e3 =>
          simp only [q3] at p2
          exact fun ι3 H3 σ3 s3 m3 x3 => p2 ι3 H3 σ3 s3 m3 x3
        | rt d3 => simp only [q3] at p2; exact p2
        | ex e3 x3 => simp only [q3] at p2; exact p2
      | exn x3 h3 => simp only [q3] at p2; exact p2
      | bad => simp only [q3] at p2; exact p2
/-! ### a[b], name = e -/
theorem ms_unp (C : Cxt Γ X N sc WE cf) {a b z : Expr} {n : Str} {kd : NameKind} {j : Nat} {f g k : Env → M D} {pos p1 p2 p3 : Pos} {kt : Nat} (hz : PE X z (rdE Γ.W WE k)) (ha : PE X a (rdE Γ.W WE f)) (hb : PE X b (rdE Γ.W WE g)) (hj : N[j]? = some n) (hn : sc.names.lookup n = some kd) (hk : kd = .local ∨ kd = .cell) (hc : notComp z = true) (hsl : notSlice b = true) (hsw : noSwap sc (.Tuple [.Subscript a b p1, .Name n p2] kt p3) z = true) :
    PS X (.Assign [.Tuple [.Subscript a b p1, .Name n p2] kt p3] z pos) (rdS Γ.W WE fun env => onE env (k env) fun d => match d with
    | .tup [d0, d1] => onE env (f env) fun x => onE env (g env) fun y => match x, y with
      | .ref i, .int k => fun h => (match setCell i (fun xs => putI xs k d0) env h with
        | .ok (.nx e1) h1 => if j < e1.length then .ok (.nx (e1.set j (some d1))) h1 else .bad
        | _ => .bad)
      | _, _ => bad
    | _ => bad) := by
  have hg : PG X (.Subscript a b p1) (gSub (rdE Γ.W WE f) (rdE Γ.W WE g) rSetL) := pg_sub ha hb set_list (by
    intro v
    cases b <;> first | rfl | (cases hsl; done))
  obtain ⟨h1, h2⟩ := C.loc n kd hn hk
  have hl : Loc X.env.scope n := by
    rcases hk with rfl | rfl
    · exact .inl h1
    · exact .inr h1
  have hf : X.fn n = true ∨ X.env.scope.names.lookup n = some .local := by
    rcases h2 with rfl | h2
    · exact .inr h1
    · exact .inl h2
  have hg2 : PG X (.Name n p2) (gName j) := pg_name (i := j) (by rw [C.hN]; exact C.nd) (by rw [C.hN]; exact hj) hl hf
  have hT : PG X (.Tuple [.Subscript a b p1, .Name n p2] kt p3) (gTup X.K 2 (gCons (gSub (rdE Γ.W WE f) (rdE Γ.W WE g) rSetL) (gCons (gName j) gNil))) := pg_tup C.calm (pgs_cons hg (pgs_cons hg2 pgs_nil))
  refine PS.imp (ps_asg hz hT (show swapsWith z (some (.Tuple [.Subscript a b p1, .Name n p2] kt p3)) pos.line X.env = pure false from swaps_not hc) (swapped_none C hsw) rfl) fun D σ H hh => ?_
  obtain ⟨ι, env, h, m, e, p⟩ := hh
  refine rd_onE m e p fun ι1 d1 v1 H1 h1 s1 m1 e1 r1 p1 => ?_
  cases r1 <;> first | exact p1.elim | skip
  rename_i at_ xs ds sq rs
  match ds, rs, p1 with
  | [d0, d1], rs, p1 =>
    obtain ⟨w0, w1, rfl, q0, q1⟩ := reps2 rs
    refine ⟨_, _, rfl, SqT.of sq, rfl, w0, [w1], rfl, ?_⟩
    refine rd_onE (f := f) m1 e1 p1 fun ι2 d2 v2 H2 h2 s2 m2 e2 r2 p2 => ?_
    refine rd_onE (f := g) m2 e2 p2 fun ι3 d3 v3 H3 h3 s3 m3 e3 r3 p3 => ?_
    cases r2 <;> first | exact p3.elim | skip
    rename_i i a' hi
    cases r3 <;> first | exact p3.elim | skip
    rename_i jj
    have hi3 := s3.pre _ _ hi
    have p3 : PostS Γ.W WE ι3 H3 (match setCell i (fun xs => putI xs jj d0) env h3 with
        | .ok (.nx e1) h1 => if j < e1.length then .ok (.nx (e1.set j (some d1))) h1 else .bad
        | _ => .bad) D := p3
    unfold setCell at p3
    cases hc3 : h3[i]? with
    | none => simp only [hc3] at p3; exact p3.elim
    | some c =>
      cases c with
      | ins _ _ => simp only [hc3] at p3; exact p3.elim
      | dct _ _ => simp only [hc3] at p3; exact p3.elim
      | lst ys =>
        simp only [hc3] at p3
        obtain ⟨a2, ha2, _, vs, hv, r⟩ := m3.get hc3
        rw [hi3] at ha2
        cases ha2
        unfold putI at p3
        rw [r.length] at p3
        cases hx : ixN vs.length jj with
        | none => simp only [hx, Option.map_none] at p3; exact p3.elim
        | some t =>
          simp only [hx, Option.map_some] at p3
          by_cases hpl : plains (ys.set t d0) = true
          · rw [if_pos hpl] at p3
            simp only at p3
            by_cases hlen : j < env.length
            · rw [if_pos hlen] at p3
              refine ⟨a', vs, jj, t, rfl, rfl, hv, hx, w1, [], rfl, ?_⟩
              obtain ⟨st, m'⟩ := cell_put (ys := ys.set t d0) m3 hi3 hc3 hv hpl (Reps.set ((q0.mono s2).mono s3) t r)
              exact ⟨rfl, p3 ι3 _ _ st m' ((e3.mono st).set (((q1.mono s2).mono s3).mono st))⟩
            · rw [if_neg hlen] at p3; exact p3.elim
          · rw [if_neg hpl] at p3; exact p3.elim
  | [], rs, p1 => exact p1.elim
  | [_], rs, p1 => exact p1.elim
  | _ :: _ :: _ :: _, rs, p1 => exact p1.elim
/-- what a method's receiver may be -/
def baseOk : Expr → Bool
  | .Call (.Name _ _) [] [] _ => false
  | _ => true
theorem attributeBase_ok {o : Expr} {attr : Str} {env : PySem.Env} {w : Sem Value} (h : baseOk o = true) : attributeBase o attr env w = w := by
  cases o with
  | Call f as ks p =>
    cases f <;> first | rfl | skip
    cases as <;> first | rfl | skip
    cases ks <;> first | rfl | (cases h; done)
  | _ => rfl
end
end Mn

/-! Mn: the text is what the small syntax says. -/
namespace Mn
open PySem L2
def visB (sc : Scope) (x : Str) : Bool := match sc.names.lookup x with
  | some .local => true
  | some .cell => true
  | some .free => true
  | _ => false
def locB (sc : Scope) (x : Str) : Bool := match sc.names.lookup x with
  | some .local => true
  | some .cell => true
  | _ => false
def glB (sc : Scope) (x : Str) : Bool := match sc.names.lookup x with
  | some .globalImplicit => true
  | _ => false
theorem visB_ok {sc : Scope} {x : Str} (h : visB sc x = true) : ∃ k, sc.names.lookup x = some k ∧ (k = .local ∨ k = .cell ∨ k = .free) := by
  unfold visB at h
  split at h <;> first | (rename_i q; exact ⟨_, q, by simp⟩) | (cases h; done)
theorem locB_ok {sc : Scope} {x : Str} (h : locB sc x = true) : ∃ k, sc.names.lookup x = some k ∧ (k = .local ∨ k = .cell) := by
  unfold locB at h
  split at h <;> first | (rename_i q; exact ⟨_, q, by simp⟩) | (cases h; done)
theorem glB_ok {sc : Scope} {x : Str} (h : glB sc x = true) : sc.names.lookup x = some .globalImplicit := by
  unfold glB at h
  split at h <;> first | (rename_i q; exact q) | (cases h; done)
def litK (c : Lit) (k : Const) : Bool := match c, k with
    | .non, .none => true
    | .bl b, .bool b' => b == b'
    | .int i, .int i' => i == i'
    | .str x, .str x' => x == x'
    | _, _ => false
def isTupE : Expr → Bool
  | .Tuple .. => true
  | _ => false
/-- the expressions whose values a for's source is made of -/
def iterArgs (sc : Scope) (k : IK) (iter tg : Expr) : Option (List Expr) := match k with
  | .seq => some [iter]
  | .enum => (match iter with
    | .Call (.Name x _) [e] [] _ => if x == ("enumerate" : Str) && glB sc x && isTupE tg then some [e] else none
    | _ => none)
  | .zip => (match iter with
    | .Call (.Name x _) [e, e'] [] _ => if x == ("zip" : Str) && glB sc x && isTupE tg then some [e, e'] else none
    | _ => none)
  | .rng => (match iter with
    | .Call (.Name x _) [e] [] _ => if x == ("range" : Str) && glB sc x then some [e] else none
    | .Call (.Name x _) [e, e'] [] _ => if x == ("range" : Str) && glB sc x then some [e, e'] else none
    | _ => none)
  | .items => (match iter with
    | .Call (.Attribute e m ap) [] [] cp => if m == ("items" : Str) && (ap.endLine == cp.line) && baseOk e && isTupE tg then some [e] else none
    | _ => none)
def ownN (N : List Str) (own : List Nat) : List (Str × Nat) := own.map fun i => (N.getD i Str.empty, i)
mutual
def chkTg (N : List Str) (sc : Scope) : Tg → Expr → Bool
  | .nm i, e => (match e with
    | .Name x _ => decide (N[i]? = some x) && locB sc x
    | _ => false)
  | .tp l, e => (match e with
    | .Tuple es _ _ => chkTgs N sc l es
    | _ => false)
  | .nil, _ => false
  | .cons _ _, _ => false
def chkTgs (N : List Str) (sc : Scope) : Tg → List Expr → Bool
  | .nil, es => es.isEmpty
  | .cons t l, es => (match es with
    | e :: r => notStar e && chkTg N sc t e && chkTgs N sc l r
    | [] => false)
  | .nm _, _ => false
  | .tp _, _ => false
end
/-- no conditional expression where a test stands -/
def testOk : Nat → Expr → Bool
  | 0, _ => false
  | n + 1, e => match e with
    | .UnaryOp .Not x _ => testOk n x
    | .BoolOp _ vs _ => vs.all (testOk n)
    | .IfExp .. => false
    | _ => true
def callArgs (e : Expr) : Option (Str × List Expr) := match e with
  | .Call (.Name x _) (a :: r) [] _ => some (x, a :: r)
  | _ => none
/-- the parts of a further operation -/
def xArgs (sc : Scope) (o : XO) (e : Expr) : Option (List Expr) := match o with
  | .max1 => (match e with
    | .Call (.Name x _) [a] [] _ => if x == ("max" : Str) && glB sc x then some [a] else none
    | _ => none)
  | .min1 => (match e with
    | .Call (.Name x _) [a] [] _ => if x == ("min" : Str) && glB sc x then some [a] else none
    | _ => none)
  | .dnew => (match e with
    | .Dict [] [] _ => some []
    | _ => none)
  | .dix => (match e with
    | .Subscript a b _ => if notSlice b = true then some [a, b] else none
    | _ => none)
  | .srt => (match e with
    | .Call (.Name x _) [a] [] _ => if x == ("sorted" : Str) && glB sc x then some [a] else none
    | _ => none)
  | .dps => (match e with
    | .Call (.Name x _) [a] [] _ => if x == ("dict" : Str) && glB sc x then some [a] else none
    | _ => none)
  | .listc => (match e with
    | .Call (.Name x _) [a] [] _ => if x == ("list" : Str) && glB sc x then some [a] else none
    | _ => none)
  | .d1 => (match e with
    | .Dict [some k] [v] _ => some [k, v]
    | _ => none)
  | .trg => (match e with
    | .Call (.Name x _) [.Call (.Name y _) [a] [] _] [] _ => if x == ("tuple" : Str) && glB sc x && y == ("range" : Str) && glB sc y then some [a] else none
    | _ => none)
  | .lso => (match e with
    | .List [a, .Starred b _] _ => if notStar a then some [a, b] else none
    | _ => none)
/-- the object and the parts of a method's call, of a display with stars -/
def mArgs (o : MO) (e : Expr) : Option (Expr × List Expr) := match o with
  | .get => (match e with
    | .Call (.Attribute x m ap) es [] cp => if m == ("get" : Str) && (ap.endLine == cp.line) && baseOk x && decide (es.length = 2) then some (x, es) else none
    | _ => none)
  | .tst => (match e with
    | .Tuple [.Starred a _, b] _ _ => if notStar b then some (a, [b]) else none
    | _ => none)
  | .tss => (match e with
    | .Tuple [.Starred a _, .Starred b _] _ _ => some (a, [b])
    | _ => none)
def isLc : E → Bool
  | .lc _ _ _ _ _ _ => true
  | _ => false
section
variable (N : List Str) (cs : List (Str × Lit)) (fn : Nat → Option (Str × List Str))
mutual
def chkE (sc : Scope) : E → Expr → Bool
  | .var i, e => (match e with
    | .Name x _ => decide (N[i]? = some x) && visB sc x && okName x
    | _ => false)
  | .lit c, e => (match e with
    | .Constant k _ _ => litK c k
    | _ => false)
  | .glb x c, e => (match e with
    | .Name y _ => x == y && decide ((x, c) ∈ cs) && glB sc x && okName x
    | _ => false)
  | .pow a b, e => (match e with
    | .BinOp (.Constant (.int i) _ _) .Pow (.Constant (.int j) _ _) _ => decide (i = (a : Int)) && decide (j = (b : Int)) && decide (b ≤ 1000) && decide (a ≤ 1000000)
    | _ => false)
  | .neg a, e => (match e with
    | .UnaryOp .USub x _ => chkE sc a x
    | _ => false)
  | .not a, e => (match e with
    | .UnaryOp .Not x _ => chkE sc a x
    | _ => false)
  | .bin o a b, e => (match e with
    | .BinOp l op r _ => op == opOf o && chkE sc a l && chkE sc b r
    | _ => false)
  | .cmp o a b, e => (match e with
    | .Compare l [op] [r] _ => op == cmpOf o && notSet r && chkE sc a l && chkE sc b r
    | _ => false)
  | .chn o p a b c, e => (match e with
    | .Compare l [o1, o2] [r1, r2] _ => o1 == cmpOf o && o2 == cmpOf p && notSet r2 && chkE sc a l && chkE sc b r1 && chkE sc c r2
    | _ => false)
  | .isN a, e => (match e with
    | .Compare l [.Is] [.Constant .none _ _] _ => chkE sc a l
    | _ => false)
  | .isnN a, e => (match e with
    | .Compare l [.IsNot] [.Constant .none _ _] _ => chkE sc a l
    | _ => false)
  | .and a b, e => (match e with
    | .BoolOp .And (x :: y :: []) _ => chkE sc a x && chkE sc b y
    | .BoolOp .And (x :: y :: z :: r) p => chkE sc a x && chkE sc b (.BoolOp .And (y :: z :: r) p)
    | _ => false)
  | .or a b, e => (match e with
    | .BoolOp .Or (x :: y :: []) _ => chkE sc a x && chkE sc b y
    | .BoolOp .Or (x :: y :: z :: r) p => chkE sc a x && chkE sc b (.BoolOp .Or (y :: z :: r) p)
    | _ => false)
  | .ife c a b, e => (match e with
    | .IfExp t x y _ => testOk 8 t && chkE sc c t && chkE sc a x && chkE sc b y
    | _ => false)
  | .tup l, e => (match e with
    | .Tuple es _ _ => chkL sc l es
    | _ => false)
  | .lst l, e => (match e with
    | .List es _ => chkL sc l es
    | _ => false)
  | .cel l, e => (match e with
    | .List es _ => chkL sc l es
    | _ => false)
  | .idx a b, e => (match e with
    | .Subscript x y _ => notSlice y && chkE sc a x && chkE sc b y
    | _ => false)
  | .slc a lo hi, e => (match e with
    | .Subscript x (.Slice l u none _) _ => chkE sc a x && chkO sc lo l && chkO sc hi u
    | _ => false)
  | .call f l, e => (match callArgs e with
    | some (x, es) => decide ((fn f).map (·.1) = some x) && glB sc x && okName x && chkL sc l es
    | _ => false)
  | .blt b l, e => (match callArgs e with
    | some (x, es) => x == biName b && glB sc x && chkL sc l es
    | _ => false)
  | .ck f ix l, e => (match e with
    | .Call (.Name x _) [] kws _ => (match fn f with
      | some (y, ps) => x == y && glB sc x && okName x && kws.all (fun k => k.arg.isSome) && kwOk ps (kws.filterMap (·.arg)) ix && chkL sc l (kws.map (·.value))
      | none => false)
    | _ => false)
  | .ex o l, e => (match xArgs sc o e with
    | some es => chkL sc l es
    | none => false)
  | .mth o a l, e => (match mArgs o e with
    | some (x, es) => chkE sc a x && chkL sc l es
    | none => false)
  | .lk _ a, e => plainTest e && chkE sc a e
  | .cl a, e => isLc a && chkE sc a e
  | .isi a t, e => (match e with
    | .Call (.Name x _) [z, .Name y _] [] _ => x == ("isinstance" : Str) && y == Str.ofString (tyName t) && glB sc x && glB sc y && notStar z && chkE sc a z
    | _ => false)
  | .lc own elt t k l c, e => (match e with
    | .ListComp el [⟨tg, iter, ifs, asy⟩] scope _ => decide (asy = 0) && notSet iter && blkC N sc scope (ownN N own) && (slots t).all (fun i => own.contains i) && chkTg N scope t tg &&
        (match iterArgs sc k iter tg with
        | some es => chkL sc l es
        | none => false) && chkE scope elt el && (match ifs with
        | [] => (match c with
          | .nil => true
          | _ => false)
        | [i] => testOk 8 i && chkE scope c i
        | _ => false)
    | _ => false)
  | .nil, _ => false
  | .cons _ _, _ => false
def chkL (sc : Scope) : E → List Expr → Bool
  | .nil, es => es.isEmpty
  | .cons a l, es => (match es with
    | e :: r => notStar e && chkE sc a e && chkL sc l r
    | [] => false)
  | _, _ => false
def chkO (sc : Scope) : E → Option Expr → Bool
  | .nil, e => e.isNone
  | .cons a _, e => (match e with
    | some x => chkE sc a x
    | none => false)
  | _, _ => false
end
end
end Mn

set_option maxHeartbeats 4000000
/-! Mn: sorted, of tuples of ints and of tuples of tuples of ints. -/
namespace Mn
open PySem L2

theorem lexLt_asym : ∀ (x y : List Int), HT.lexLt x y = true → HT.lexLt y x = false
  | [], [], h => by cases h
  | [], _ :: _, _ => rfl
  | _ :: _, [], h => by cases h
  | a :: x, b :: y, h => by
    rw [HT.lexLt_cons] at h ⊢
    by_cases e : a = b
    · rw [if_pos e] at h; rw [if_pos e.symm]; exact lexLt_asym x y h
    · rw [if_neg e] at h; rw [if_neg (fun z => e z.symm)]
      have := of_decide_eq_true h
      exact decide_eq_false (by omega)
theorem lexLt_tr : ∀ (x y z : List Int), HT.lexLt y x = false → HT.lexLt z y = false → HT.lexLt z x = false
  | [], _, [], _, _ => rfl
  | [], _, _ :: _, _, _ => rfl
  | _ :: _, [], _, h, _ => by cases h
  | _ :: _, _ :: _, [], _, h => by cases h
  | a :: x, b :: y, c :: z, h1, h2 => by
    rw [HT.lexLt_cons] at h1 h2 ⊢
    by_cases e1 : b = a
    · rw [if_pos e1] at h1
      by_cases e2 : c = b
      · rw [if_pos e2] at h2; rw [if_pos (e2.trans e1)]; exact lexLt_tr x y z h1 h2
      · rw [if_neg e2] at h2; rw [if_neg (fun w => e2 (w.trans e1.symm))]; rw [← e1]; exact h2
    · rw [if_neg e1] at h1
      have h1 := of_decide_eq_false h1
      by_cases e2 : c = b
      · rw [if_neg (fun w => e1 (e2.symm.trans w))]; rw [e2]; exact decide_eq_false h1
      · rw [if_neg e2] at h2
        have h2 := of_decide_eq_false h2
        rw [if_neg (by omega)]
        exact decide_eq_false (by omega)
theorem lexLt_conn : ∀ (x y : List Int), HT.lexLt x y = false → HT.lexLt y x = false → x = y
  | [], [], _, _ => rfl
  | [], _ :: _, h, _ => by cases h
  | _ :: _, [], _, h => by cases h
  | a :: x, b :: y, h1, h2 => by
    rw [HT.lexLt_cons] at h1 h2
    by_cases e : a = b
    · rw [if_pos e] at h1; rw [if_pos e.symm] at h2; rw [e, lexLt_conn x y h1 h2]
    · rw [if_neg e] at h1; rw [if_neg (fun w => e w.symm)] at h2
      have h1 := of_decide_eq_false h1
      have h2 := of_decide_eq_false h2
      omega
theorem lexLt_irr (x : List Int) : HT.lexLt x x = false := by
  cases h : HT.lexLt x x with
  | false => rfl
  | true => rw [← h]; exact lexLt_asym x x h
theorem lex2_asym : ∀ (x y : List (List Int)), lex2 x y = true → lex2 y x = false
  | [], [], h => by cases h
  | [], _ :: _, _ => rfl
  | _ :: _, [], h => by cases h
  | a :: x, b :: y, h => by
    rw [lex2] at h ⊢
    by_cases e : a = b
    · rw [if_pos e] at h; rw [if_pos e.symm]; exact lex2_asym x y h
    · rw [if_neg e] at h; rw [if_neg (fun z => e z.symm)]
      exact lexLt_asym _ _ h
theorem lex2_tr : ∀ (x y z : List (List Int)), lex2 y x = false → lex2 z y = false → lex2 z x = false
  | [], _, [], _, _ => rfl
  | [], _, _ :: _, _, _ => rfl
  | _ :: _, [], _, h, _ => by cases h
  | _ :: _, _ :: _, [], _, h => by cases h
  | a :: x, b :: y, c :: z, h1, h2 => by
    rw [lex2] at h1 h2 ⊢
    by_cases e1 : b = a
    · rw [if_pos e1] at h1
      by_cases e2 : c = b
      · rw [if_pos e2] at h2; rw [if_pos (e2.trans e1)]; exact lex2_tr x y z h1 h2
      · rw [if_neg e2] at h2; rw [if_neg (fun w => e2 (w.trans e1.symm))]; rw [← e1]; exact h2
    · rw [if_neg e1] at h1
      by_cases e2 : c = b
      · rw [if_neg (fun w => e1 (e2.symm.trans w))]; rw [e2]; exact h1
      · rw [if_neg e2] at h2
        rw [if_neg (fun w => ?_)]
        · exact lexLt_tr _ _ _ h1 h2
        · subst w
          exact e1 (lexLt_conn _ _ h1 h2)
theorem lex2_conn : ∀ (x y : List (List Int)), lex2 x y = false → lex2 y x = false → x = y
  | [], [], _, _ => rfl
  | [], _ :: _, h, _ => by cases h
  | _ :: _, [], _, h => by cases h
  | a :: x, b :: y, h1, h2 => by
    rw [lex2] at h1 h2
    by_cases e : a = b
    · rw [if_pos e] at h1; rw [if_pos e.symm] at h2; rw [e, lex2_conn x y h1 h2]
    · rw [if_neg e] at h1; rw [if_neg (fun w => e w.symm)] at h2
      exact absurd (lexLt_conn _ _ h1 h2) e
theorem lex2_swo {α : Type} (k : α → List (List Int)) : SrtO.Swo (fun x y => lex2 (k x) (k y)) := ⟨fun x y => lex2_asym _ _, fun x y z => lex2_tr _ _ _⟩
/-! ### in the heap -/
/-- the items of a tuple: ints (b), or tuples of ints -/
inductive ElemsH (b : Bool) (h : Heap) : List Value → List (List Int) → Prop
  | nil : ElemsH b h [] []
  | int {i : Int} {t : Tok} {its : List Value} {ks : List (List Int)} : b = true → ElemsH b h its ks → ElemsH b h (.int i t :: its) ([i] :: ks)
  | tup {c : Addr} {xs : Array Value} {ns : List Int} {its : List Value} {ks : List (List Int)} : b = false → PyProof.Rows.IsTup h c xs → PyProof.Rows.IntsAre xs.toList ns → ElemsH b h its ks → ElemsH b h (.ref c :: its) (ns :: ks)
theorem ElemsH.length {b : Bool} {h : Heap} {its : List Value} {ks : List (List Int)} (e : ElemsH b h its ks) : its.length = ks.length := by
  induction e with
  | nil => rfl
  | int _ _ ih => simp [ih]
  | tup _ _ _ _ ih => simp [ih]
theorem IsTup_keep {h h' : Heap} {c : Addr} {xs : Array Value} (t : PyProof.Rows.IsTup h c xs) (k : ∀ b o, h.get? b = some o → o.cls = .type "tuple" → h'.get? b = some o) : PyProof.Rows.IsTup h' c xs := by
  obtain ⟨o, ho, hc, hd⟩ := t
  exact ⟨o, k _ _ ho hc, hc, hd⟩
theorem ElemsH.keep {b : Bool} {h h' : Heap} {its : List Value} {ks : List (List Int)} (e : ElemsH b h its ks) (k : ∀ b o, h.get? b = some o → o.cls = .type "tuple" → h'.get? b = some o) : ElemsH b h' its ks := by
  induction e with
  | nil => exact .nil
  | int hb _ ih => exact .int hb ih
  | tup hb t i _ ih => exact .tup hb (IsTup_keep t k) i ih
def ItemH (b : Bool) (h : Heap) (v : Value) (ks : List (List Int)) : Prop := ∃ (a : Addr) (its : List Value), v = .ref a ∧ PyProof.Rows.IsTup h a its.toArray ∧ its ≠ [] ∧ ElemsH b h its ks
theorem ItemH.keep {b : Bool} {h h' : Heap} {v : Value} {ks : List (List Int)} (e : ItemH b h v ks) (k : ∀ b o, h.get? b = some o → o.cls = .type "tuple" → h'.get? b = some o) : ItemH b h' v ks := by
  obtain ⟨a, its, e1, e2, e3, e4⟩ := e
  exact ⟨a, its, e1, IsTup_keep e2 k, e3, e4.keep k⟩
theorem inl_inj {α β : Type} : ∀ {x y : List α}, x.map (Sum.inl (β := β)) = y.map Sum.inl → x = y
  | [], [], _ => rfl
  | [], _ :: _, h => by simp at h
  | _ :: _, [], h => by simp at h
  | a :: x, b :: y, h => by
    simp only [List.map_cons, List.cons.injEq] at h
    rw [Sum.inl.inj h.1, inl_inj h.2]
theorem ints_key {prog : Program} {w : World} {vs : List Value} {ns : List Int} (i : PyProof.Rows.IntsAre vs ns) : ItemsAre (mixKind prog w) (ns.map Sum.inl) vs := by
  induction i with
  | nil => exact .nil
  | cons i t _ ih => exact .cons (mixKind_int prog w i t) ih
section
variable {prog : Program} {w : World} {A : Around} {E : Value → Shared → Prop} {s : Shared} {Q : Bool → Shared → Prop}
theorem lex_go {b fin : Bool} {xs : List Value} {ks : List (List Int)} (hx : ElemsH b s.heap xs ks) : ∀ (i : Nat) {ys : List Value} {ms : List (List Int)}, ElemsH b s.heap ys ms → fin = decide (ks.length < ms.length) → A.units < cLine → Q (lex2 ks ms) s → PySem.W.KatLex prog w A b fin Q (xs.zip ys) i s := by
  induction hx with
  | nil =>
    intro i ys ms hy hf hu h
    rw [List.zip_nil_left]
    refine PySem.W.kat_nil ?_
    cases ms with
    | nil => rw [hf]; exact h
    | cons m ms => rw [hf]; exact h
  | @int n t its ks hb hx ih =>
    intro i ys ms hy hf hu h
    cases hy with
    | nil => rw [List.zip_nil_right]; refine PySem.W.kat_nil ?_; rw [hf]; exact h
    | @int m u ys ms hb' hy =>
      show PySem.W.KatLex prog w A b fin Q ((Value.int n t, Value.int m u) :: its.zip ys) i s
      refine PySem.W.kat_cons (wpAny_eqBool_int ?_)
      rw [lex2] at h
      by_cases e : n = m
      · subst e
        rw [beq_self_eq_true]
        rw [if_pos rfl] at h
        refine PySem.W.kat_yes (ih (i + 1) hy ?_ hu h)
        simpa using hf
      · rw [show (n == m) = false from beq_eq_false_iff_ne.mpr e]
        rw [if_neg (fun z => e (by injection z))] at h
        refine PySem.W.kat_no (TS.oneLt_ints _ ?_)
        rw [HT.lexLt_cons, if_neg e] at h
        exact h
    | tup hb' _ _ _ => rw [hb] at hb'; cases hb'
  | @tup c xs ns its ks hb tx ix hx ih =>
    intro i ys ms hy hf hu h
    cases hy with
    | nil => rw [List.zip_nil_right]; refine PySem.W.kat_nil ?_; rw [hf]; exact h
    | int hb' _ => rw [hb] at hb'; cases hb'
    | @tup d zs ms' ys ms hb' tz iz hy =>
      show PySem.W.KatLex prog w A b fin Q ((Value.ref c, Value.ref d) :: its.zip ys) i s
      have k1 : IsTupleKey (mixKind prog w) s.heap (ns.map Sum.inl) c := by
        obtain ⟨o, ho, hc, n, hd⟩ := tx
        exact ⟨o, xs, n, ho, hc, hd, ints_key ix⟩
      have k2 : IsTupleKey (mixKind prog w) s.heap (ms'.map Sum.inl) d := by
        obtain ⟨o, ho, hc, n, hd⟩ := tz
        exact ⟨o, zs, n, ho, hc, hd, ints_key iz⟩
      refine PySem.W.kat_cons (wpAny_eqBool_tuple hu k1 k2 ?_)
      rw [lex2] at h
      by_cases e : ns = ms'
      · subst e
        rw [decide_eq_true rfl]
        rw [if_pos rfl] at h
        refine PySem.W.kat_yes (ih (i + 1) hy ?_ hu h)
        simpa using hf
      · rw [decide_eq_false (fun z => e (inl_inj z))]
        rw [if_neg e] at h
        refine PySem.W.kat_no ?_
        rw [hb, Bool.false_and]
        exact PySem.W.kat_one _ _ (HT.lt_tupInts (Q := PySem.W.BoolBack Q) tx tz ix iz hu h)

theorem tups_firsts {b : Bool} {h : Heap} {k : Value → List (List Int)} : ∀ vs : List Value, (∀ v ∈ vs, ItemH b h v (k v)) → ∃ fs, PySem.W.KatTups h vs fs ∧ fs.length = vs.length ∧ ∀ f ∈ fs, (b = true → ∃ i t, f = Value.int i t) ∧ (b = false → ∃ (q : Addr) (o : Obj), f = Value.ref q ∧ h.get? q = some o ∧ o.cls = .type "tuple")
  | [], _ => ⟨[], PySem.W.KatTups.nil, rfl, fun f hf => by simp at hf⟩
  | v :: vs, x => by
    obtain ⟨fs, kt, hl, hi⟩ := tups_firsts vs fun u hu => x u (List.mem_cons_of_mem _ hu)
    obtain ⟨a, its, rfl, ⟨o, ho, hc, n, hd⟩, hne, el⟩ := x v (List.mem_cons_self ..)
    generalize hk : k (.ref a) = kk at el
    cases el with
    | nil => exact absurd rfl hne
    | @int i t its ks hb el =>
      refine ⟨.int i t :: fs, PySem.W.KatTups.cons ho hc hd rfl kt, by simp [hl], fun f hf => ?_⟩
      rcases List.mem_cons.mp hf with rfl | hf
      · exact ⟨fun _ => ⟨i, t, rfl⟩, fun z => (by rw [hb] at z; cases z)⟩
      · exact hi f hf
    | @tup c xs ns its ks hb tx ix el =>
      refine ⟨.ref c :: fs, PySem.W.KatTups.cons ho hc hd rfl kt, by simp [hl], fun f hf => ?_⟩
      rcases List.mem_cons.mp hf with rfl | hf
      · obtain ⟨o2, h2, c2, _⟩ := tx
        exact ⟨fun z => (by rw [hb] at z; cases z), fun _ => ⟨c, o2, rfl, h2, c2⟩⟩
      · exact hi f hf
theorem sortableN {b : Bool} {a : Addr} {vs : List Value} {k : Value → List (List Int)} (h0 : 0 < vs.length) (hp : ∀ v ∈ vs, ItemH b s.heap v (k v)) (hu : A.units < cLine) (ha : ∀ o, s.heap.get? a = some o → o.cls ≠ .type "tuple") : SrtO.SortableO prog w A s a vs fun v u => lex2 (k v) (k u) := by
  intro h' keep
  have hp' : ∀ v ∈ vs, ItemH b h' v (k v) := fun v hm => (hp v hm).keep fun b o e c => keep b o (fun z => by subst z; exact ha o e c) e
  obtain ⟨fs, h1, h2, h3⟩ := tups_firsts vs hp'
  have cmp : SrtO.Cmp prog w A { s with heap := h' } (PyProof.Rows.tuples' b) (fun p => p.1 ∈ vs) (SrtO.lt2 fun v u => lex2 (k v) (k u)) := by
    intro p q hm hm'
    show wpAny (model prog w) A (PyProof.Rows.keyLt' (PyProof.Rows.tuples' b) p.1 q.1) (fun r s' => s' = { s with heap := h' } ∧ r = lex2 (k p.1) (k q.1)) (fun _ _ => False) _
    obtain ⟨a1, i1, e1, ⟨o1, ho1, hc1, n1, hd1⟩, _, l1⟩ := hp' _ hm
    obtain ⟨a2, i2, e2, ⟨o2, ho2, hc2, n2, hd2⟩, _, l2⟩ := hp' _ hm'
    rw [e1, e2]
    rw [e1] at l1
    rw [e2] at l2
    refine PySem.W.kat_lt ho1 hd1 ho2 hd2 ?_
    refine lex_go (s := { s with heap := h' }) l1 0 l2 ?_ hu ⟨rfl, rfl⟩
    simp [l1.length, l2.length]
  cases b with
  | true =>
    refine ⟨PyProof.Rows.tuples' true, fun Q E hq => ?_, cmp⟩
    refine PySem.W.kat_kind (T := .type "int") h1 (by omega) (fun f hm => ?_) (by rfl) ?_
    · obtain ⟨x, t, rfl⟩ := (h3 f hm).1 rfl
      exact PySem.W.Looks.now
    · have e : (Value.type "int" != Value.type "tuple") = true := by first | decide +kernel | rfl | decide
      rw [e]
      exact hq
  | false =>
    refine ⟨PyProof.Rows.tuples' false, fun Q E hq => ?_, cmp⟩
    refine PySem.W.kat_kind (T := .type "tuple") h1 (by omega) (fun f hm => ?_) (by rfl) ?_
    · obtain ⟨q, o, rfl, ho, hc⟩ := (h3 f hm).2 rfl
      have z : PySem.W.Looks (model prog w) h' (typeOf (.ref q)) o.cls := (PySem.W.Looks.ld ho).andThen .now
      rw [hc] at z
      exact z
    · have e : (Value.type "tuple" != Value.type "tuple") = false := by first | decide +kernel | rfl | decide
      rw [e]
      exact hq
end
/-! ### over the layer -/
def intV : V → Int
  | .int i => i
  | _ => 0
def ikV (H : Hp) : V → List Int
  | .int i => [i]
  | .ref b => (match H b with
    | some (.tup ys) => ys.map intV
    | _ => [])
  | _ => []
def keyV (H : Hp) : V → List (List Int)
  | .ref a => (match H a with
    | some (.tup xs) => xs.map (ikV H)
    | _ => [])
  | _ => []
def ltV (H : Hp) (x y : V) : Bool := lex2 (keyV H x) (keyV H y)
def ElV (b : Bool) (H : Hp) (z : V) : Prop := (b = true ∧ ∃ i, z = .int i) ∨ (b = false ∧ ∃ (c : Addr) (ns : List Int), z = .ref c ∧ H c = some (.tup (ns.map V.int)))
def ItemV (b : Bool) (H : Hp) (x : V) : Prop := ∃ t zs, x = .ref t ∧ H t = some (.tup zs) ∧ zs ≠ [] ∧ ∀ z ∈ zs, ElV b H z
theorem intV_map (ns : List Int) : (ns.map V.int).map intV = ns := by
  rw [List.map_map]
  have : (intV ∘ V.int) = id := by funext i; rfl
  rw [this, List.map_id]
theorem elems_of {P : Program} {w : World} {H : Hp} {h : Heap} {b : Bool} (ok : HOk P w H h) : ∀ {zs : List V} {its : List Value}, Vals zs its → (∀ z ∈ zs, ElV b H z) → ElemsH b h its (zs.map (ikV H))
  | _, _, .nil, _ => .nil
  | z :: zs, _ :: its, .cons r t, h => by
    have ih := elems_of ok t fun y hy => h y (List.mem_cons_of_mem _ hy)
    rcases h z List.mem_cons_self with ⟨hb, i, rfl⟩ | ⟨hb, c, ns, rfl, hc⟩
    · obtain ⟨t, rfl⟩ := r
      exact .int hb ih
    · cases r
      obtain ⟨_, us, rv, tu⟩ := ok c _ hc
      have e : ikV H (.ref c) = ns := by simp only [ikV, hc, intV_map]
      rw [List.map_cons, e]
      exact .tup hb tu (by simpa using ints_vals rv) ih
theorem item_of {P : Program} {w : World} {H : Hp} {h : Heap} {b : Bool} {x : V} (ok : HOk P w H h) (i : ItemV b H x) : ∃ t, x = .ref t ∧ ItemH b h (.ref t) (keyV H x) := by
  obtain ⟨t, zs, rfl, ht, hne, hz⟩ := i
  obtain ⟨_, us, rv, tu⟩ := ok t _ ht
  refine ⟨t, rfl, t, us, rfl, tu, fun z => ?_, ?_⟩
  · subst z
    cases rv
    exact hne rfl
  · have e : keyV H (.ref t) = zs.map (ikV H) := by simp only [keyV, ht]
    rw [e]
    exact elems_of ok rv hz
/-- sorted(xs), xs a list of tuples of ints (b) or of tuples of tuples of ints -/
def rSortN (K : PySem.W.Frag) : List V → Hp → VK → Prop := fun vs H Q => ∃ (a : Addr) (xs : List V) (b : Bool), vs = [V.ref a] ∧ SqL K H a xs ∧ (∀ x ∈ xs, ItemV b H x) ∧
  ∀ ys p, ys.Perm xs → SrtO.Srtd (ltV H) ys → H p = none → Q (.ref p) (upd H p (.lst ys))
section
variable {X : Cx}
theorem ltV_swo (H : Hp) : SrtO.Swo (ltV H) := lex2_swo (keyV H)
theorem cr_sortN (hu : X.A.units + 64 < cLine) : CallR X (.builtin "sorted") (rSortN X.K) := by
  intro pins s σ H vs us Q I r h
  obtain ⟨a, xs, b, rfl, hs, hx, q⟩ := h
  obtain ⟨its, rv, hl, hz⟩ := I.list hs
  obtain ⟨u, rfl, ru⟩ := vals1 r
  obtain rfl : u = Value.ref a := ru
  obtain ⟨e1, e2⟩ := refs_back rv fun x m => by
    obtain ⟨t, _, e, _⟩ := hx x m
    exact ⟨t, e⟩
  have hz' : its.length ≤ sizeLine := by rw [← rv.length]; exact hz
  have hit : ∀ v ∈ its, ItemH b s.heap v (keyV H (backV v)) := fun v hv => by
    obtain ⟨t, rfl⟩ := e2 v hv
    have hm : V.ref t ∈ xs := by rw [e1]; exact List.mem_map.mpr ⟨_, hv, rfl⟩
    obtain ⟨t', e, hi⟩ := item_of I.hok (hx _ hm)
    cases e
    exact hi
  refine SrtO.sorted_ord (ltv := fun v u => lex2 (keyV H (backV v)) (keyV H (backV u))) (lex2_swo fun v => keyV H (backV v)) hl.isList hz' (fun h2 h₁ a ha kk => ?_) fun out hs hb => ?_
  · refine sortableN (s := { s with heap := h₁ }) (b := b) (by omega) (fun v hm => (hit v hm).keep fun b o e _ => (kk b o e).2) (by show X.A.units + 1 + 1 < cLine; omega) fun o e => ?_
    have e' : some o = some (PyProof.Rows.seqObj "list" its.toArray 0) := e.symm.trans ha
    cases e'
    intro c
    exact absurd (Value.type.inj c) (by decide)
  · have h3 : ∀ u ∈ out, ∃ a, u = Value.ref a := fun u hu => e2 u (hb.perm.mem_iff.mp hu)
    obtain ⟨n, hn⟩ := PyProof.Rows.sortedAll_at s.heap its out.toArray
    have hp : (out.map backV).Perm xs := by
      rw [e1]
      exact hb.perm.map backV
    refine ⟨.ref _, upd H _ (.lst (out.map backV)), I.laid (t' := s.toks) (fun b o e => PyProof.Rows.sortedAll_old e) (Nat.le_succ _) ⟨?_, out, n, vals_back h3, hn⟩, rfl, q _ _ hp (SrtO.srtd_map hs) (I.hok.fresh (Nat.le_succ _))⟩
    rw [hp.length_eq]
    exact hz

theorem keyV_item {H : Hp} {b : Addr} {k : List L2.Key} (hk : k ≠ [] ∧ ∃ ns : List Int, k = ns.map Sum.inl) (hb : H b = some (.tup (k.map kV))) : ItemV true H (.ref b) := by
  obtain ⟨hne, ns, rfl⟩ := hk
  refine ⟨b, _, rfl, hb, fun z => hne (by simpa using z), fun z hz => .inl ⟨rfl, ?_⟩⟩
  rw [List.map_map] at hz
  obtain ⟨i, _, rfl⟩ := List.mem_map.mp hz
  exact ⟨i, rfl⟩
theorem isKeys_mem {H : Hp} {kvs : List (List L2.Key × V)} {bs : List Addr} (r : IsKeys H kvs bs) : ∀ b ∈ bs, ∃ p ∈ kvs, H b = some (.tup (p.1.map kV)) := by
  unfold IsKeys at r
  induction r with
  | nil => intro b hb; cases hb
  | cons h t ih =>
    intro b hb
    rcases List.mem_cons.mp hb with rfl | hb
    · exact ⟨_, List.mem_cons_self, h⟩
    · obtain ⟨p, hp, e⟩ := ih b hb
      exact ⟨p, List.mem_cons_of_mem _ hp, e⟩
/-- sorted(d), d a dict with tuples of ints as keys -/
def rSortND : List V → Hp → VK → Prop := fun vs H Q => ∃ (d : Addr) (kvs : List (List L2.Key × V)), vs = [V.ref d] ∧ Rd H d (.dT kvs) ∧ (∀ p ∈ kvs, p.1 ≠ [] ∧ ∃ ns : List Int, p.1 = ns.map Sum.inl) ∧
  ∀ bs ys p, IsKeys H kvs bs → ys.Perm (bs.map V.ref) → SrtO.Srtd (ltV H) ys → H p = none → Q (.ref p) (upd H p (.lst ys))
theorem cr_sortND (hc : X.calm = true) (hu : X.A.units + 64 < cLine) : CallR X (.builtin "sorted") rSortND := by
  intro pins s σ H xs us Q I r h
  obtain ⟨d, kvs, rfl, hd, hks, q⟩ := h
  obtain ⟨u, rfl, rx⟩ := r.one
  cases rx
  obtain ⟨z, hs, ks, pr, o, es, ep, ho, hx, hdt, he, hn⟩ := (show ObjOk X.prog X.w H s.heap d (.dT kvs) from hd.ok I.hok)
  have l1 : es.size = ks.length := size_of_entries he
  have l2 : kvs.length = ks.length := Paired.length pr
  refine Calls.call_function_entry PyProof.Rows.kind_sorted PyProof.Rows.plain_sorted PyProof.Rows.entry_sorted (PyProof.Rows.args_sorted1 _) ?_
  unfold Builtin.«sorted»
  refine wpAny_bind (m := checkCount "sorted" 1 1 _) (wpAny_pure ?_)
  refine wpAny_bind (PySem.W.kdu_collect (A := X.A.in1) (kdl_raw hs hx hdt) (I.ok.hd hc) ho (by omega) fun h' tk acc' kp it => ?_)
  have ea : acc'.toList = (ks.map fun x => x.2.1).map Value.ref := by
    rw [List.map_map]
    have hl : acc'.toList.length = ks.length := by rw [Array.length_toList, it.1]; exact l1
    apply List.ext_getElem?
    intro j
    rw [List.getElem?_map]
    cases hj : acc'.toList[j]? with
    | none =>
      have h1 := List.getElem?_eq_none_iff.mp hj
      rw [List.getElem?_eq_none (by omega)]
      all_goals rfl
    | some v =>
      obtain ⟨en, hen, hv⟩ := it.2 j v (by rw [← Array.getElem?_toList]; exact hj)
      have qe := entry_at he j
      rw [hen] at qe
      cases hb : ks[j]? with
      | none =>
        rw [hb] at qe
        exact nomatch (show some en = none from qe)
      | some b =>
        rw [hb] at qe
        have e2 : en = entryOfKey (tupleKind (mixKind X.prog X.w)) b := Option.some.inj qe
        rw [hv, e2]
        all_goals rfl
  have ik := isKeys_of pr
  generalize (ks.map fun x => x.2.1) = bs at ea ik
  have hbl : bs.length = kvs.length := (Paired.length ik).symm
  have I1 : Inv X pins σ H { s with heap := h', toks := tk } := I.kept kp
  rw [ea]
  refine wpAny_bind (wpAny_newList ?_ (by rw [List.length_map, hbl]; exact z))
  have hoL : (h'.push (PyProof.Rows.seqObj "list" (bs.map Value.ref).toArray 0)).get? h'.objs.size = some (PyProof.Rows.seqObj "list" (bs.map Value.ref).toArray 0) := Heap.get?_push_size _ rfl
  have hit : ∀ v ∈ bs.map Value.ref, ItemH true h' v (keyV H (backV v)) := fun v hv => by
    obtain ⟨b, hb, rfl⟩ := List.mem_map.mp hv
    obtain ⟨p, hp, e⟩ := isKeys_mem ik b hb
    obtain ⟨t', e', hi⟩ := item_of I1.hok (keyV_item (hks p hp) e)
    cases e'
    exact hi
  show wpAny _ _ _ _ _ { s with heap := h'.push (PyProof.Rows.seqObj "list" (bs.map Value.ref).toArray 0), toks := tk }
  refine wpAny_bind (wpAny_holding (wpAny_call_entry PyProof.Rows.slot_list_sort ⟨_, hoL, rfl⟩ PyProof.Rows.entry_list_sort
    (SrtO.list_sort_ord (s := { s with heap := h'.push (PyProof.Rows.seqObj "list" (bs.map Value.ref).toArray 0), toks := tk }) (ltv := fun v u => lex2 (keyV H (backV v)) (keyV H (backV u))) (lex2_swo fun v => keyV H (backV v)) hoL (by rw [List.length_map, hbl]; exact z) (fun h2 => ?_) fun out hs hb => ⟨_, rfl, ?_⟩) (PyProof.Rows.args_list_sort _)))
  · refine sortableN (s := { s with heap := h'.push (PyProof.Rows.seqObj "list" (bs.map Value.ref).toArray 0), toks := tk }) (b := true) (by omega) (fun v hm => (hit v hm).keep fun b o e _ => Heap.get?_push_of_some _ e) (by show X.A.units + 1 + 1 < cLine; omega) fun o e => ?_
    have e' : some o = some (PyProof.Rows.seqObj "list" (bs.map Value.ref).toArray 0) := e.symm.trans hoL
    cases e'
    intro c
    exact absurd (Value.type.inj c) (by decide)
  · have h3 : ∀ u ∈ out, ∃ a, u = Value.ref a := fun u hu => by
      obtain ⟨b, _, rfl⟩ := List.mem_map.mp (hb.perm.mem_iff.mp hu)
      exact ⟨b, rfl⟩
    have hp : (out.map backV).Perm (bs.map V.ref) := by
      have := hb.perm.map backV
      rw [List.map_map] at this
      exact this
    obtain ⟨e', he'⟩ := PyProof.Rows.sortedHeap_at (vs := bs.map Value.ref) (out := out.toArray) hoL
    refine wpAny_pure ⟨_, rfl, .ref h'.objs.size, upd H h'.objs.size (.lst (out.map backV)), I1.laid (t' := tk) (fun b u e => ?_) (Nat.le_refl _)
      (show ObjOk X.prog X.w _ _ _ (.lst (out.map backV)) from ⟨?_, out, e', vals_back h3, he'⟩), rfl, q bs _ _ ik hp (SrtO.srtd_map hs) (I1.hok.fresh (Nat.le_refl _))⟩
    · have hb : b < h'.objs.size := Heap.lt_size e
      rw [PyProof.Rows.sortedHeap_old (Nat.ne_of_lt hb) (by rw [PyProof.Rows.size_push']; exact Nat.lt_succ_of_lt hb)]
      exact Heap.get?_push_of_some _ e
    · rw [hp.length_eq, List.length_map, hbl]
      exact z
end
end Mn

set_option maxHeartbeats 4000000
/-! Mn: sorted and dict over the small values. -/
namespace Mn
open PySem L2
/-! ### the sorted list is one -/
theorem insD_perm (x : D) : ∀ ys : List D, (insD x ys).Perm (x :: ys)
  | [] => List.Perm.refl _
  | y :: ys => by
    unfold insD
    split
    · exact ((insD_perm x ys).cons y).trans (List.Perm.swap x y ys)
    · exact List.Perm.refl _
theorem srtD_perm : ∀ xs : List D, (srtD xs).Perm xs
  | [] => List.Perm.refl _
  | x :: xs => (insD_perm x (srtD xs)).trans ((srtD_perm xs).cons x)
abbrev Asc (l : List D) : Prop := l.Pairwise fun x y => ltD y x = false
theorem insD_asc (x : D) : ∀ {ys : List D}, Asc ys → Asc (insD x ys)
  | [], _ => List.pairwise_singleton _ _
  | y :: ys, h => by
    unfold insD
    rw [Asc, List.pairwise_cons] at h
    split
    · rename_i hl
      rw [Asc, List.pairwise_cons]
      refine ⟨fun z hz => ?_, insD_asc x h.2⟩
      rcases List.mem_cons.mp ((insD_perm x ys).mem_iff.mp hz) with rfl | hz
      · exact lex2_asym _ _ hl
      · exact h.1 z hz
    · rename_i hl
      have hl : ltD y x = false := by simpa using hl
      rw [Asc, List.pairwise_cons]
      refine ⟨fun z hz => ?_, List.pairwise_cons.mpr h⟩
      rcases List.mem_cons.mp hz with rfl | hz
      · exact hl
      · exact lex2_tr _ _ _ hl (h.1 z hz)
theorem srtD_asc : ∀ xs : List D, Asc (srtD xs)
  | [] => List.Pairwise.nil
  | x :: xs => insD_asc x (srtD_asc xs)
theorem asc_uniq : ∀ {l m : List D}, l.Perm m → Asc l → Asc m → (∀ x ∈ l, ∀ y ∈ l, skD x = skD y → x = y) → l = m
  | [], m, p, _, _, _ => (List.Perm.eq_nil p.symm).symm
  | x :: l, [], p, _, _, _ => absurd p.length_eq (by simp)
  | x :: l, y :: m, p, hl, hm, inj => by
    have hx : x ∈ y :: m := p.mem_iff.mp List.mem_cons_self
    have hy : y ∈ x :: l := p.mem_iff.mpr List.mem_cons_self
    have hl' := List.pairwise_cons.mp hl
    have hm' := List.pairwise_cons.mp hm
    have irr : ∀ z : D, ltD z z = false := fun z => by
      cases q : ltD z z with
      | false => rfl
      | true => rw [← q]; exact lex2_asym _ _ q
    have h1 : ltD x y = false := by
      rcases List.mem_cons.mp hx with rfl | h
      · exact irr x
      · exact hm'.1 x h
    have h2 : ltD y x = false := by
      rcases List.mem_cons.mp hy with rfl | h
      · exact irr y
      · exact hl'.1 y h
    have e : x = y := inj x List.mem_cons_self y hy (lex2_conn _ _ h1 h2)
    subst e
    rw [asc_uniq p.cons_inv hl'.2 hm'.2 fun a ha b hb => inj a (List.mem_cons_of_mem _ ha) b (List.mem_cons_of_mem _ hb)]
theorem dInts_map : ∀ {xs : List D} {ns : List Int}, dInts xs = some ns → xs = ns.map D.int
  | [], _, e => by cases e; rfl
  | d :: xs, ns, e => by
    cases d with
    | int i =>
      simp only [dInts, Option.map_eq_some_iff] at e
      obtain ⟨ms, e, rfl⟩ := e
      rw [dInts_map e]; rfl
    | _ => cases e
theorem dInts_of : ∀ ns : List Int, dInts (ns.map D.int) = some ns
  | [] => rfl
  | n :: ns => by simp [dInts, dInts_of ns]
theorem isTI_of {d : D} (h : isTI d = true) : ∃ ns : List Int, d = .tup (ns.map D.int) := by
  unfold isTI at h
  split at h
  · obtain ⟨ns, e⟩ := Option.isSome_iff_exists.mp h
    exact ⟨ns, by rw [dInts_map e]⟩
  · cases h
theorem okT_of {d : D} (h : okT d = true) : ∃ (n : Int) (ns : List Int), d = .tup ((n :: ns).map D.int) := by
  unfold okT at h
  split at h
  · obtain ⟨ns, e⟩ := Option.isSome_iff_exists.mp h
    have e2 := dInts_map e
    cases ns with
    | nil => cases e2
    | cons n ns => exact ⟨n, ns, by rw [e2]⟩
  · cases h
theorem all_isTI : ∀ {xs : List D}, xs.all isTI = true → ∃ nss : List (List Int), xs = nss.map fun ns => D.tup (ns.map D.int)
  | [], _ => ⟨[], rfl⟩
  | x :: xs, h => by
    rw [List.all_cons, Bool.and_eq_true] at h
    obtain ⟨ns, rfl⟩ := isTI_of h.1
    obtain ⟨nss, rfl⟩ := all_isTI h.2
    exact ⟨ns :: nss, rfl⟩
theorem okTT_of {d : D} (h : okTT d = true) : ∃ (ns : List Int) (nss : List (List Int)), d = .tup ((ns :: nss).map fun ns => D.tup (ns.map D.int)) := by
  unfold okTT at h
  split at h
  · obtain ⟨nss, e⟩ := all_isTI h
    cases nss with
    | nil => cases e
    | cons ns nss => exact ⟨ns, nss, by rw [e]⟩
  · cases h
theorem skD_ints (ns : List Int) : skD (.tup (ns.map D.int)) = ns.map fun n => [n] := by
  simp only [skD, List.map_map]
  rfl
theorem skD_tups (nss : List (List Int)) : skD (.tup (nss.map fun ns => D.tup (ns.map D.int))) = nss := by
  simp only [skD, List.map_map]
  have : (skE ∘ fun ns : List Int => D.tup (ns.map D.int)) = id := by
    funext ns
    simp [skE, dInts_of]
  rw [this, List.map_id]
theorem sing_inj : ∀ {x y : List Int}, (x.map fun n => [n]) = y.map (fun n => [n]) → x = y
  | [], [], _ => rfl
  | [], _ :: _, h => by simp at h
  | _ :: _, [], h => by simp at h
  | a :: x, b :: y, h => by
    simp only [List.map_cons, List.cons.injEq, and_true] at h
    rw [h.1, sing_inj h.2]
theorem okT_inj {x y : D} (hx : okT x = true) (hy : okT y = true) (e : skD x = skD y) : x = y := by
  obtain ⟨n, ns, rfl⟩ := okT_of hx
  obtain ⟨m, ms, rfl⟩ := okT_of hy
  rw [skD_ints, skD_ints] at e
  rw [sing_inj e]
theorem okTT_inj {x y : D} (hx : okTT x = true) (hy : okTT y = true) (e : skD x = skD y) : x = y := by
  obtain ⟨n, ns, rfl⟩ := okTT_of hx
  obtain ⟨m, ms, rfl⟩ := okTT_of hy
  rw [skD_tups, skD_tups] at e
  rw [e]
theorem srtO_inj {xs : List D} (h : (xs.all okT || xs.all okTT) = true) : ∀ x ∈ xs, ∀ y ∈ xs, skD x = skD y → x = y := by
  rw [Bool.or_eq_true] at h
  rcases h with h | h
  · exact fun x hx y hy => okT_inj (List.all_eq_true.mp h x hx) (List.all_eq_true.mp h y hy)
  · exact fun x hx y hy => okTT_inj (List.all_eq_true.mp h x hx) (List.all_eq_true.mp h y hy)
/-- the answer of sorted: any ascending rearrangement -/
theorem srtO_of {xs ys : List D} (h : (xs.all okT || xs.all okTT) = true) (p : ys.Perm xs) (a : Asc ys) : srtO xs = some ys := by
  unfold srtO
  rw [if_pos h]
  congr 1
  exact asc_uniq ((srtD_perm xs).trans p.symm) (srtD_asc xs) a fun x hx y hy => srtO_inj h x ((srtD_perm xs).mem_iff.mp hx) y ((srtD_perm xs).mem_iff.mp hy)
/-! ### what stands for what -/
section
variable {W : Wd} {ι : Ix} {H : Hp} {h : MH}
theorem reps_intsD : ∀ {ns : List Int} {vs : List V}, Reps W ι H (ns.map D.int) vs → vs = ns.map V.int
  | [], _, .nil => rfl
  | n :: ns, _, .cons r1 r2 => by
    cases r1
    rw [reps_intsD r2]
    rfl
theorem reps_tupsD : ∀ {nss : List (List Int)} {vs : List V}, Reps W ι H (nss.map fun ns => D.tup (ns.map D.int)) vs → (∀ z ∈ vs, ElV false H z) ∧ vs.map (ikV H) = nss
  | [], _, .nil => ⟨fun z hz => (by cases hz), rfl⟩
  | n :: ns, _, .cons r1 r2 => by
    obtain ⟨i1, i2⟩ := reps_tupsD r2
    cases r1 with
    | tup hb rb =>
      rw [reps_intsD rb] at hb
      refine ⟨fun z hz => ?_, ?_⟩
      · rcases List.mem_cons.mp hz with rfl | hz
        · exact .inr ⟨rfl, _, _, rfl, hb⟩
        · exact i1 z hz
      · rw [List.map_cons, i2]
        simp only [ikV, hb, intV_map]
theorem item_okT {d : D} {v : V} (r : Rep W ι H d v) (hd : okT d = true) : ItemV true H v ∧ keyV H v = skD d := by
  obtain ⟨n, ns, rfl⟩ := okT_of hd
  cases r with
  | tup hb rb =>
    rw [reps_intsD rb] at hb
    refine ⟨⟨_, _, rfl, hb, by simp, fun z hz => .inl ⟨rfl, ?_⟩⟩, ?_⟩
    · obtain ⟨i, _, rfl⟩ := List.mem_map.mp hz
      exact ⟨i, rfl⟩
    · rw [skD_ints]
      simp only [keyV, hb, List.map_map]
      rfl
theorem item_okTT {d : D} {v : V} (r : Rep W ι H d v) (hd : okTT d = true) : ItemV false H v ∧ keyV H v = skD d := by
  obtain ⟨n, ns, rfl⟩ := okTT_of hd
  cases r with
  | tup hb rb =>
    obtain ⟨i1, i2⟩ := reps_tupsD rb
    refine ⟨⟨_, _, rfl, hb, fun z => ?_, i1⟩, ?_⟩
    · subst z
      cases rb
    · rw [skD_tups]
      simp only [keyV, hb, i2]
theorem reps_mem : ∀ {ds : List D} {vs : List V}, Reps W ι H ds vs → ∀ v ∈ vs, ∃ d ∈ ds, Rep W ι H d v
  | _, _, .nil, v, hv => by cases hv
  | d :: ds, _, .cons r t, v, hv => by
    rcases List.mem_cons.mp hv with rfl | hv
    · exact ⟨d, List.mem_cons_self, r⟩
    · obtain ⟨e, he, q⟩ := reps_mem t v hv
      exact ⟨e, List.mem_cons_of_mem _ he, q⟩
theorem reps_perm {xs ys : List V} (p : ys.Perm xs) : ∀ {ds : List D}, Reps W ι H ds xs → ∃ es, Reps W ι H es ys ∧ es.Perm ds := by
  induction p with
  | nil => intro ds r; exact ⟨ds, r, List.Perm.refl _⟩
  | cons x _ ih =>
    intro ds r
    cases r with
    | cons r1 r2 =>
      obtain ⟨es, q, p⟩ := ih r2
      exact ⟨_ :: es, .cons r1 q, p.cons _⟩
  | swap x y l =>
    intro ds r
    cases r with
    | cons r1 r2 =>
      cases r2 with
      | cons r2 r3 => exact ⟨_ :: _ :: _, .cons r2 (.cons r1 r3), List.Perm.swap _ _ _⟩
  | trans _ _ ih1 ih2 =>
    intro ds r
    obtain ⟨es, q, p⟩ := ih2 r
    obtain ⟨fs, q2, p2⟩ := ih1 q
    exact ⟨fs, q2, p2.trans p⟩
theorem reps_asc : ∀ {ds : List D} {vs : List V}, Reps W ι H ds vs → (∀ d ∈ ds, okT d = true ∨ okTT d = true) → SrtO.Srtd (ltV H) vs → Asc ds
  | _, _, .nil, _, _ => List.Pairwise.nil
  | d :: ds, v :: vs, .cons r t, hk, h => by
    have h' := List.pairwise_cons.mp h
    refine List.pairwise_cons.mpr ⟨fun e he => ?_, reps_asc t (fun x hx => hk x (List.mem_cons_of_mem _ hx)) h'.2⟩
    obtain ⟨j, hj⟩ := List.mem_iff_getElem?.mp he
    obtain ⟨u, hu, ru⟩ := t.get hj
    have q := h'.1 u (List.mem_of_getElem? hu)
    have key : ∀ {d : D} {v : V}, Rep W ι H d v → (okT d = true ∨ okTT d = true) → keyV H v = skD d := fun r o => o.elim (fun o => (item_okT r o).2) (fun o => (item_okTT r o).2)
    unfold ltV at q
    rw [key ru (hk e (List.mem_cons_of_mem _ he)), key r (hk d List.mem_cons_self)] at q
    exact q
theorem reps_keys : ∀ {kvs : List (List L2.Key × D)} {ws : List (List L2.Key × V)} {bs : List Addr}, kvs.map (·.1) = ws.map (·.1) → IsKeys H ws bs → Reps W ι H (kvs.map fun kv => keyT kv.1) (bs.map V.ref)
  | [], [], _, _, r => by
    unfold IsKeys at r
    cases r
    exact .nil
  | [], _ :: _, _, e, _ => by simp at e
  | _ :: _, [], _, e, _ => by simp at e
  | a :: kvs, b :: ws, _, e, r => by
    simp only [List.map_cons, List.cons.injEq] at e
    unfold IsKeys at r
    cases r with
    | cons h t =>
      refine .cons ?_ (reps_keys e.2 t)
      show Rep W ι H (keyT a.1) _
      rw [e.1]
      exact .tup h (reps_key _)
theorem keys_okT {k : List L2.Key} (h : okT (keyT k) = true) : k ≠ [] ∧ ∃ ns : List Int, k = ns.map Sum.inl := by
  obtain ⟨n, ns, e⟩ := okT_of h
  unfold keyT at e
  injection e with e
  have : ∀ {k : List L2.Key} {ms : List Int}, k.map keyD = ms.map D.int → k = ms.map Sum.inl := by
    intro k
    induction k with
    | nil => intro ms e; cases ms with
      | nil => rfl
      | cons _ _ => simp at e
    | cons a k ih =>
      intro ms e
      cases ms with
      | nil => simp at e
      | cons m ms =>
        simp only [List.map_cons, List.cons.injEq] at e
        rw [ih e.2]
        cases a with
        | inl i => simp only [keyD] at e; rw [D.int.inj e.1]; rfl
        | inr x => simp only [keyD] at e; exact absurd e.1 (by simp)
  have e2 := this e
  exact ⟨by rw [e2]; simp, _, e2⟩
theorem keys_notTT {k : List L2.Key} (h : okTT (keyT k) = true) : False := by
  obtain ⟨n, ns, e⟩ := okTT_of h
  unfold keyT at e
  injection e with e
  cases k with
  | nil => simp at e
  | cons a k =>
    simp only [List.map_cons, List.cons.injEq] at e
    cases a with
    | inl i => simp [keyD] at e
    | inr x => simp [keyD] at e
end
theorem CellR.rd {W : Wd} {ι : Ix} {H : Hp} {a : Addr} {lk : Bool} {kvs : List (List L2.Key × D)} (x : CellR W ι H a (.dct lk kvs)) : ∃ ws : List (List L2.Key × V), kvs.map (·.1) = ws.map (·.1) ∧ Rd H a (.dT ws) ∧ Reps W ι H (kvs.map (·.2)) (ws.map (·.2)) := by
  obtain ⟨_, ws, k, h, r⟩ := x
  cases lk with
  | true => obtain ⟨o, h⟩ := h; exact ⟨ws, k, .inr ⟨o, h⟩, r⟩
  | false => exact ⟨ws, k, .inl h, r⟩
section
variable {W : Wd} {X : Cx}
theorem cb_srt (hc : X.calm = true) (hu : X.A.units + 64 < cLine) (hK : X.K = W.K) : CallR X (.builtin "sorted") (rVN W (xop .srt)) := by
  intro pins s σ H xs us Q I rs hh
  obtain ⟨ι, h, ds, m, r, p⟩ := hh
  unfold xop at p
  split at p
  all_goals first | exact p.elim | contradiction | skip
  rename_i x hx
  obtain ⟨v, rfl, r1⟩ := reps1 r
  have p : PostQ W ι H (match (sItems x h).bind srtO with
    | some ys => .ok (.lst ys) h
    | none => .bad) Q := p
  cases e1 : sItems x h with
  | none => rw [e1] at p; exact p.elim
  | some zs =>
    rw [e1] at p
    simp only [Option.bind_some] at p
    cases e2 : srtO zs with
    | none => rw [e2] at p; exact p.elim
    | some ys =>
      rw [e2] at p
      have hok : (zs.all okT || zs.all okTT) = true := by
        unfold srtO at e2
        split at e2
        · assumption
        · cases e2
      have each : ∀ d ∈ zs, okT d = true ∨ okTT d = true := fun d hd => by
        rw [Bool.or_eq_true] at hok
        exact hok.imp (fun o => List.all_eq_true.mp o d hd) (fun o => List.all_eq_true.mp o d hd)
      have fin : ∀ (vs vs' : List V) (q : Addr), Reps W ι H zs vs → vs'.Perm vs → SrtO.Srtd (ltV H) vs' → H q = none → Q (.ref q) (upd H q (.lst vs')) := fun vs vs' q rz perm srtd new => by
        obtain ⟨es, q1, pm⟩ := reps_perm perm rz
        have a := reps_asc q1 (fun d hd => each d (pm.mem_iff.mp hd)) srtd
        have e3 := srtO_of hok pm a
        rw [e2] at e3
        cases e3
        exact postQ_lay p m new (rep_lst m new q1)
      have lst : ∀ ws, lItems x h = some ws → ws = zs → EP X pins σ Q = EP X pins σ Q → wpAny (model X.prog X.w) X.A (call (.builtin "sorted") us) (EP X pins σ Q) X.xe s := fun ws hl hz _ => by
        subst hz
        obtain ⟨a, vs, rfl, h1, q1⟩ := lItems_rep m r1 hl
        rw [Bool.or_eq_true] at hok
        rcases hok with ho | ho
        · exact cr_sortN hu pins s σ H _ us Q I rs ⟨a, vs, true, rfl, SqL.of h1, fun z hz => by
            obtain ⟨d, hd, rd⟩ := reps_mem q1 z hz
            exact (item_okT rd (List.all_eq_true.mp ho d hd)).1, fun ys' q pm sd new => fin vs ys' q q1 pm sd new⟩
        · exact cr_sortN hu pins s σ H _ us Q I rs ⟨a, vs, false, rfl, SqL.of h1, fun z hz => by
            obtain ⟨d, hd, rd⟩ := reps_mem q1 z hz
            exact (item_okTT rd (List.all_eq_true.mp ho d hd)).1, fun ys' q pm sd new => fin vs ys' q q1 pm sd new⟩
      cases x with
      | lst xs => cases e1; exact lst _ rfl rfl rfl
      | ref i =>
        simp only [sItems] at e1
        cases hc2 : h[i]? with
        | none => rw [hc2] at e1; cases e1
        | some cl =>
          rw [hc2] at e1
          cases cl with
          | lst xs => cases e1; exact lst _ (by simp [lItems, hc2]) rfl rfl
          | ins _ _ => cases e1
          | dct lk kvs =>
            cases e1
            cases r1 with
            | ref hi =>
              obtain ⟨a2, ha2, x2⟩ := m.get hc2
              rw [hi] at ha2
              cases ha2
              obtain ⟨ws, ek, rd, _⟩ := x2.rd
              refine cr_sortND hc hu pins s σ H _ us Q I rs ⟨_, ws, rfl, rd, fun kv hkv => ?_, fun bs ys' q ik pm sd new => fin _ ys' q (reps_keys ek ik) pm sd new⟩
              have hm : kv.1 ∈ kvs.map (·.1) := by rw [ek]; exact List.mem_map_of_mem hkv
              obtain ⟨kv', hkv', ekv⟩ := List.mem_map.mp hm
              rw [← ekv]
              rcases each (keyT kv'.1) (List.mem_map.mpr ⟨kv', hkv', rfl⟩) with o | o
              · exact keys_okT o
              · exact (keys_notTT o).elim
      | _ => cases e1
/-! ### dict(pairs) -/
def putAll (acc : List (List L2.Key × V)) (prs : List (List L2.Key × V)) : List (List L2.Key × V) := prs.foldl (fun a kv => putK a kv.1 kv.2) acc
theorem KT.all {H : Hp} : ∀ {prs : List (List L2.Key × V)} {ps : List (List L2.Key × Addr × Value)} {acc : List (List L2.Key × V)} {xs : List (List L2.Key × Addr × Value)}, KT H prs ps → KT H acc xs → KT H (putAll acc prs) (storedAllH xs ps)
  | _, _, _, _, .nil, r => r
  | _, _, _, _, .cons h t, r => by
    unfold putAll storedAllH
    rw [List.foldl_cons, List.foldl_cons]
    obtain ⟨h1, h2, h3⟩ := h
    rw [← h1]
    exact KT.all t (KT.put r _ h2 h3)
theorem putAll_len : ∀ (prs acc : List (List L2.Key × V)), (putAll acc prs).length ≤ acc.length + prs.length
  | [], acc => Nat.le_refl _
  | kv :: prs, acc => by
    unfold putAll
    rw [List.foldl_cons]
    have h1 := putAll_len prs (putK acc kv.1 kv.2)
    have h2 : (putK acc kv.1 kv.2).length ≤ acc.length + 1 := by
      unfold putK
      split
      · rw [List.length_map]; exact Nat.le_succ _
      · rw [List.length_append]; exact Nat.le_refl _
    unfold putAll at h1
    rw [List.length_cons]
    omega
/-- the pairs, in the heap -/
theorem prs_of {pins : List (Addr × Obj)} {σ : L2.St} {H : Hp} {s : Shared} (I : Inv X pins σ H s) : ∀ {ps : List Addr} {prs : List (List L2.Key × V)}, Paired (fun p kv => ∃ b, H p = some (.tup [.ref b, kv.2]) ∧ H b = some (.tup (kv.1.map kV))) ps prs →
    ∃ xs : List (List L2.Key × Addr × Value), KT H prs xs ∧ xs.length = ps.length ∧ ∀ (j : Nat) (q : List L2.Key × Addr × Value), xs[j]? = some q → ∃ p, ps[j]? = some p ∧ PyProof.Rows.IsTup s.heap p #[.ref q.2.1, q.2.2]
  | _, _, .nil => ⟨[], .nil, rfl, fun j q e => by simp at e⟩
  | _, _, .cons (a := p) (b := kv) h t => by
    obtain ⟨xs, r, hl, hp⟩ := prs_of I t
    obtain ⟨b, h1, h2⟩ := h
    obtain ⟨_, its, rv, ht⟩ := I.hok p _ h1
    obtain ⟨u, y, ei, ru, ry⟩ := vals2 rv
    subst ei
    obtain rfl : u = Value.ref b := ru
    refine ⟨(kv.1, b, y) :: xs, .cons ⟨rfl, h2, ry⟩ r, by rw [List.length_cons, List.length_cons, hl], fun j q e => ?_⟩
    cases j with
    | zero =>
      have e' : (kv.1, b, y) = q := Option.some.inj e
      subst e'
      exact ⟨p, rfl, ht⟩
    | succ j =>
      obtain ⟨p', e1, e2⟩ := hp j q (by simpa using e)
      exact ⟨p', by simpa using e1, e2⟩
theorem cr_dictPT (hc : X.calm = true) (hu : X.A.units + 64 < cLine) : CallR X (.type "dict") (fun xs H Q => ∃ (a : Addr) (ps : List Addr) (prs : List (List L2.Key × V)), xs = [.ref a] ∧ SqL X.K H a (ps.map V.ref) ∧ Paired (fun p kv => ∃ b, H p = some (.tup [.ref b, kv.2]) ∧ H b = some (.tup (kv.1.map kV))) ps prs ∧
    ∀ p, H p = none → Q (.ref p) (upd H p (.dT (putAll [] prs)))) := by
  intro pins s σ H xs us Q I r q
  obtain ⟨a, ps, prs, ex, hq, hp, q⟩ := q
  subst ex
  obtain ⟨u, eu, rx⟩ := vals1 r
  subst eu
  cases rx
  obtain ⟨its, rv, pl, hz⟩ := I.list hq
  have ei := refs_at rv
  subst ei
  rw [List.length_map] at hz
  obtain ⟨xs, rel, hl, hpr⟩ := prs_of I hp
  have hlp : prs.length = ps.length := (Paired.length hp).symm
  let vps : List (Value × Value) := xs.map fun x => (.ref x.2.1, x.2.2)
  let Ts : Nat → Addr := fun j => (ps[j]?).getD 0
  have hvl : vps.length = ps.length := by simp [vps, hl]
  refine call_dict_pairsH (knd := tupleKind (mixKind X.prog X.w)) (ps := xs) (PairArg.list a (ps.map Value.ref).toArray Ts vps) (I.ok.hd hc) (show X.A.units + 1 + 1 < cLine by omega) ⟨?_, ?_, ?_⟩ ⟨by rw [hvl, hl], ?_⟩ ?_ (by rw [hvl]; exact hz) fun h' tk hd' kp => ?_
  · obtain ⟨o, n, ho, hcl, hd, hdat⟩ := pl
    exact ⟨o, n, ho, hcl, hd, hdat⟩
  · simp [hvl]
  · intro j k v e
    simp only [vps, List.getElem?_map, Option.map_eq_some_iff] at e
    obtain ⟨x, hx, e⟩ := e
    cases e
    obtain ⟨p, hpj, ht⟩ := hpr j x hx
    refine ⟨by simp [Ts, hpj], ?_⟩
    have : Ts j = p := by simp [Ts, hpj]
    rw [this]
    obtain ⟨o, ho, hcl, n, hd⟩ := ht
    exact .inl ⟨o, ho, hcl, n, hd⟩
  · intro i key v e
    have e' : vps[i]? = some (key, v) := e
    simp only [vps, List.getElem?_map, Option.map_eq_some_iff] at e'
    obtain ⟨x, hx, e'⟩ := e'
    cases e'
    exact ⟨x.1, x.2.1, hx, rfl⟩
  · intro h' kp x hx
    have all : ∀ {l : List (List L2.Key × V)} {m : List (List L2.Key × Addr × Value)}, KT H l m → ∀ x ∈ m, H x.2.1 = some (.tup (x.1.map kV)) := by
      intro l m q
      induction q with
      | nil => intro x hx; exact nomatch hx
      | @cons p q ps qs hq t ih =>
        intro x hx
        rcases List.mem_cons.mp hx with e | hx
        · subst e
          rw [← hq.1]
          exact hq.2.1
        · exact ih x hx
    have hb := all rel x hx
    obtain ⟨o, items, n, h1, h2, h3, h4⟩ := key_of I.hok hb
    exact ⟨o, items, n, kp _ _ (Nat.ne_of_lt (Heap.lt_size h1)) (by simp) h1, h2, h3, h4⟩
  · have hm : (s.heap.objs.size == sysModules) = false := beq_eq_false_iff_ne.mpr (Nat.ne_of_gt I.big)
    obtain ⟨o, es, ep, h1, h2, h3, h4, h5, h6⟩ := hd'
    have kt : KT H (putAll [] prs) (storedAllH [] xs) := KT.all rel .nil
    have hlen : (putAll [] prs).length ≤ sizeLine := by
      refine Nat.le_trans (putAll_len prs []) ?_
      rw [List.length_nil, Nat.zero_add, hlp]
      exact hz
    refine ⟨.ref s.heap.objs.size, upd H s.heap.objs.size (.dT (putAll [] prs)), I.laid (t' := tk) (fun b o e => kp b o (by simp) e) (Nat.le_refl _) (show ObjOk X.prog X.w _ _ _ (.dT (putAll [] prs)) from ⟨hlen, hm, storedAllH [] xs, ?_, o, es, ep, h1, h2, h3, h4, h6⟩), rfl, q _ (I.hok.fresh (Nat.le_refl _))⟩
    have hn := I.hok.fresh (Nat.le_refl s.heap.objs.size)
    exact KT.keeps kt fun b ys e => by rw [upd_ne (ne_of_none e hn)]; exact e
theorem dpairs_rep {ι : Ix} {H : Hp} : ∀ {xs : List D} {vs : List V} {acc kvs : List (List L2.Key × D)} {wacc : List (List L2.Key × V)}, Reps W ι H xs vs → dpairs xs acc = some kvs → acc.map (·.1) = wacc.map (·.1) → Reps W ι H (acc.map (·.2)) (wacc.map (·.2)) →
    ∃ (ps : List Addr) (prs : List (List L2.Key × V)), vs = ps.map V.ref ∧ Paired (fun p kv => ∃ b, H p = some (.tup [.ref b, kv.2]) ∧ H b = some (.tup (kv.1.map kV))) ps prs ∧ kvs.map (·.1) = (putAll wacc prs).map (·.1) ∧ Reps W ι H (kvs.map (·.2)) ((putAll wacc prs).map (·.2))
  | [], _, _, _, _, .nil, e, k, r => by
    cases e
    exact ⟨[], [], rfl, .nil, k, r⟩
  | x :: xs, _, acc, kvs, wacc, .cons r1 r2, e, k, r => by
    unfold dpairs at e
    split at e
    · rename_i h; cases h
    · rename_i acc' ks v rest h
      cases h
      cases ek : keyL ks with
      | none => rw [ek] at e; cases e
      | some kk =>
        rw [ek] at e
        cases r1 with
        | tup hp rp =>
          cases rp with
          | cons q1 q2 =>
            cases q2 with
            | cons q2 q3 =>
              cases q3
              cases q1 with
              | tup hb rb =>
                rw [keyL_reps rb ek] at hb
                obtain ⟨k1, k2⟩ := dput_rep (k := kk) q2 k r
                obtain ⟨ps, prs, rfl, pp, k3, k4⟩ := dpairs_rep r2 e k1 k2
                exact ⟨_ :: ps, (kk, _) :: prs, rfl, .cons ⟨_, hp, hb⟩ pp, k3, k4⟩
    · cases e
theorem cb_dps (hc : X.calm = true) (hu : X.A.units + 64 < cLine) (hK : X.K = W.K) : CallR X (.type "dict") (rVN W (xop .dps)) := by
  intro pins s σ H xs us Q I rs hh
  obtain ⟨ι, h, ds, m, r, p⟩ := hh
  unfold xop at p
  split at p
  all_goals first | exact p.elim | contradiction | skip
  rename_i x hx
  obtain ⟨v, rfl, r1⟩ := reps1 r
  cases e1 : lItems x h with
  | none => rw [e1] at p; exact p.elim
  | some zs =>
    rw [e1] at p
    simp only [Option.bind_some] at p
    cases e2 : dpairs zs [] with
    | none => rw [e2] at p; exact p.elim
    | some kvs =>
      rw [e2] at p
      simp only at p
      split at p
      · rename_i hpl
        obtain ⟨a, vs, rfl, h1, q1⟩ := lItems_rep m r1 e1
        obtain ⟨ps, prs, rfl, pp, k1, k2⟩ := dpairs_rep q1 e2 (wacc := []) rfl .nil
        refine cr_dictPT hc hu pins s σ H _ us Q I rs ⟨a, ps, prs, rfl, SqL.of h1, pp, fun q hq => ?_⟩
        refine p (ι.app q) _ _ (Step.cell hq) (m.cellNew hq ⟨hpl.1, _, k1, upd_same, k2.mono (Step.cell hq)⟩) (.ref ?_)
        show (ι.c ++ [q])[_]? = _
        rw [← m.len, List.getElem?_append_right (Nat.le_refl _), Nat.sub_self]
        rfl
      · exact p.elim
end
end Mn

set_option maxHeartbeats 4000000
/-! Mn: parts read one by one; calls with keywords; further operations. -/
namespace Mn
open PySem L2
section
variable {Γ : Glob} {X : Cx} {N : List Str} {sc : Scope} {WE : WX} {cf : Nat → List D → M D}
/-- each part is read as the small term says -/
inductive Args (Γ : Glob) (X : Cx) (WE : WX) (cf : Nat → List D → M D) : E → List Expr → Prop
  | nil : Args Γ X WE cf .nil []
  | cons {a l : E} {e : Expr} {es : List Expr} : PE X e (rdE Γ.W WE (ev cf a)) → notStar e = true → Args Γ X WE cf l es → Args Γ X WE cf (.cons a l) (e :: es)
theorem Args.pa : ∀ {l : E} {es : List Expr}, Args Γ X WE cf l es → PA X es (rdL Γ.W WE (evL cf l))
  | _, _, .nil => ml_nil
  | _, _, .cons h n r => ml_cons h r.pa n
theorem Args.star : ∀ {l : E} {es : List Expr}, Args Γ X WE cf l es → es.all notStar = true
  | _, _, .nil => rfl
  | _, _, .cons _ n r => by rw [List.all_cons, n, r.star]; rfl
theorem PK.imp {kws : List Keyword} {t t' : TA} (h : PK X kws t) (i : ∀ σ H Q, t' σ H Q → t σ H Q) : PK X kws t' := ⟨fun pos pins s σ H Q I hh => h.run pos pins s σ H Q I (i σ H Q hh)⟩
theorem mk_nil : PK X [] (rdL Γ.W WE fun _ => ret []) := by
  refine PK.imp pk_nil fun σ H Q hh => ?_
  obtain ⟨ι, env, h, m, e, p⟩ := hh
  exact Post.here (a := ([] : List D)) p m .nil
theorem mk_cons {k : Keyword} {ks : List Keyword} {f : Env → M D} {g : Env → M (List D)} (ha : PE X k.value (rdE Γ.W WE f)) (hb : PK X ks (rdL Γ.W WE g)) :
    PK X (k :: ks) (rdL Γ.W WE fun env => bnd (f env) fun x => bnd (g env) fun xs => ret (x :: xs)) := by
  obtain ⟨kn, kv, kp⟩ := k
  refine PK.imp (pk_cons ha hb) fun σ H Q hh => ?_
  refine rd_bnd (k := fun x env => bnd (g env) fun xs => ret (x :: xs)) hh fun ι env a b H1 h1 m e r p => ?_
  refine ⟨ι, env, h1, m, e, ?_⟩
  have p : Post Γ.W (Reps Γ.W) ι H1 ((g env h1).bnd fun xs => ret (a :: xs)) Q (fun c d H' => WE c d σ H') := p
  cases q : g env h1 with
  | ok z h3 =>
    rw [q] at p
    exact fun ι' H' v s' m' r' => p ι' H' _ s' m' (.cons (r.mono s') r')
  | exn c h3 => rw [q] at p; exact p
  | bad => rw [q] at p; exact p
theorem Args.pk : ∀ {l : E} {kws : List Keyword}, Args Γ X WE cf l (kws.map (·.value)) → PK X kws (rdL Γ.W WE (evL cf l)) := by
  intro l kws
  induction kws generalizing l with
  | nil =>
    intro h
    cases h
    exact mk_nil
  | cons k ks ih =>
    intro h
    cases h with
    | cons h n r => exact mk_cons h (ih r)
/-! ### calls with keywords -/
theorem kw_all {pos : Pos} {env : PySem.Env} : ∀ {kws : List Keyword}, kws.all (fun k => k.arg.isSome) = true → (backToKw pos (keywordEach kws env)).all (·.1.isSome) = true ∧ (backToKw pos (keywordEach kws env)).any (·.1.isNone) = false
  | [], _ => ⟨rfl, rfl⟩
  | ⟨a, v, p⟩ :: r, h => by
    rw [List.all_cons, Bool.and_eq_true] at h
    obtain ⟨h1, h2⟩ := kw_all (pos := pos) (env := env) h.2
    have e : backToKw pos (keywordEach (⟨a, v, p⟩ :: r) env) = (a, do let u ← eval v env; standAt pos; pure u) :: backToKw pos (keywordEach r env) := rfl
    rw [e, List.all_cons, List.any_cons, h1, h2]
    cases a with
    | none => cases h.1
    | some x => exact ⟨rfl, rfl⟩
theorem kw_names {pos : Pos} {env : PySem.Env} : ∀ {kws : List Keyword}, (backToKw pos (keywordEach kws env)).filterMap (·.1) = kws.filterMap (·.arg)
  | [] => rfl
  | ⟨a, v, p⟩ :: r => by
    have e : backToKw pos (keywordEach (⟨a, v, p⟩ :: r) env) = (a, do let u ← eval v env; standAt pos; pure u) :: backToKw pos (keywordEach r env) := rfl
    rw [e, List.filterMap_cons, List.filterMap_cons, kw_names]
theorem kw_len : ∀ {kws : List Keyword}, kws.all (fun k => k.arg.isSome) = true → (kws.filterMap (·.arg)).length = kws.length
  | [], _ => rfl
  | ⟨none, v, p⟩ :: r, h => by cases h
  | ⟨some x, v, p⟩ :: r, h => by
    rw [List.all_cons, Bool.and_eq_true] at h
    rw [List.filterMap_cons]
    simp [kw_len h.2]
theorem reps_pick {W : Wd} {ι : Ix} {H : Hp} {ds : List D} {vs : List V} (r : Reps W ι H ds vs) : ∀ ix : List Nat, Reps W ι H (pickL ix ds) (pickL ix vs)
  | [] => .nil
  | j :: ix => by
    unfold pickL
    cases q : ds[j]? with
    | none =>
      have : vs[j]? = none := by
        rw [List.getElem?_eq_none_iff] at q ⊢
        rw [← r.length]; exact q
      rw [this]
      exact reps_pick r ix
    | some d =>
      obtain ⟨v, hv, rv⟩ := r.get q
      rw [hv]
      exact .cons rv (reps_pick r ix)
/-- f(k = v, ..) -/
theorem me_callK (C : Cxt Γ X N sc WE cf) {f : Nat} {x : Str} {ps : List Str} {kws : List Keyword} {ix : List Nat} {l : E} {p pos : Pos} (hf : Γ.fname f = some (x, ps)) (hg : sc.names.lookup x = some .globalImplicit) (hn : okName x = true) (hk1 : kws.all (fun k => k.arg.isSome) = true) (hk2 : kwOk ps (kws.filterMap (·.arg)) ix = true) (hl : LenM kws.length (evL cf l)) (h : PK X kws (rdL Γ.W WE (evL cf l))) :
    PE X (.Call (.Name x p) [] kws pos) (rdE Γ.W WE fun env => bnd (evL cf l env) fun xs => cf f (pickL ix xs)) := by
  simp only [okName, Bool.and_eq_true, Bool.not_eq_true'] at hn
  obtain ⟨k, hr, F⟩ := C.fns
  obtain ⟨a, fd, hm, hk, hb, kb, G⟩ := F f (x, ps) hf
  have B := kb _ _ hk2
  refine ⟨fun pins s σ H Q I hh => ?_⟩
  refine wpAny_Call_Name_kw (ld_glob I (C.gl x hg) hm ?_ hn.1.1)
  refine PySem.W.callWith_KW0 (h₀ := X.base) I.ok.mod.kin hk (kw_all hk1).1 ?_ (by rw [(kw_all hk1).2]; rfl)
  refine thn (h.run pos pins s σ H (fun vs H1 => vs.length = kws.length ∧ spOf Γ.W (cf f) (pickL ix vs) H1 Q (fun c d H' => WE c d σ H')) I ?_) fun ws s2 ⟨zs, H2, I2, rz, l2, q2⟩ => ⟨I2.kIn, ?_⟩
  · obtain ⟨ι, env, h0, m, e, p⟩ := hh
    refine ⟨ι, env, h0, m, e, ?_⟩
    have p : Post Γ.W (Rep Γ.W) ι H ((evL cf l env h0).bnd fun xs => cf f (pickL ix xs)) Q (fun c d H' => WE c d σ H') := p
    cases q : evL cf l env h0 with
    | ok ds h2 =>
      rw [q] at p
      have hlen := hl env h0 ds h2 q
      exact fun ι' H' vs s' m' r' => ⟨by rw [← r'.length]; exact hlen, ι', h2, pickL ix ds, m', reps_pick r' ix, Post.base s' p⟩
    | exn c h3 => rw [q] at p; exact p
    | bad => rw [q] at p; exact p.elim
  · rw [kw_names, List.append_nil]
    have r2 := B.rel .nil rz
    refine wpAny_call (codeAny_mono (G.run X.A X.stack s2 H2 ⟨[], (kws.filterMap fun k : Keyword => k.arg).zip ws⟩ (pickL ix ws) (pickL ix zs) Q (fun c d H' => WE c d σ H') hr I2.env0 (B.to s2 [] ws I2.kIn rfl (by rw [kw_len hk1, ← rz.length]; exact l2)) r2 q2) fun r s' hq => ?_)
    cases r with
    | error e => exact L2N.passAt C.tk σ pins H2 s2 e s' I2 hq
    | ok fl =>
      cases fl with
      | ret u => exact I2.after hq
      | next => exact False.elim hq
      | brk => exact False.elim hq
      | cont => exact False.elim hq
/-! ### the greatest, the least of a list -/
theorem maxI_mem : ∀ (ns : List Int) (n : Int), maxI n ns ∈ n :: ns
  | [], n => List.mem_cons_self ..
  | x :: r, n => by
    unfold maxI
    rcases List.mem_cons.mp (maxI_mem r (if x > n then x else n)) with h | h
    · rw [h]; split <;> simp
    · simp [h]
theorem maxI_le : ∀ (ns : List Int) (n : Int), ∀ y ∈ n :: ns, y ≤ maxI n ns
  | [], n, y, hy => by
    rcases List.mem_cons.mp hy with h | h
    · rw [h]; exact Int.le_refl _
    · cases h
  | x :: r, n, y, hy => by
    unfold maxI
    have h1 := maxI_le r (if x > n then x else n) _ (List.mem_cons_self ..)
    rcases List.mem_cons.mp hy with h | h
    · subst h; split at h1 <;> split <;> omega
    · rcases List.mem_cons.mp h with h | h
      · subst h; split at h1 <;> split <;> omega
      · exact maxI_le r _ y (List.mem_cons_of_mem _ h)
theorem minI_mem : ∀ (ns : List Int) (n : Int), minI n ns ∈ n :: ns
  | [], n => List.mem_cons_self ..
  | x :: r, n => by
    unfold minI
    rcases List.mem_cons.mp (minI_mem r (if x < n then x else n)) with h | h
    · rw [h]; split <;> simp
    · simp [h]
theorem minI_le : ∀ (ns : List Int) (n : Int), ∀ y ∈ n :: ns, minI n ns ≤ y
  | [], n, y, hy => by
    rcases List.mem_cons.mp hy with h | h
    · rw [h]; exact Int.le_refl _
    · cases h
  | x :: r, n, y, hy => by
    unfold minI
    have h1 := minI_le r (if x < n then x else n) _ (List.mem_cons_self ..)
    rcases List.mem_cons.mp hy with h | h
    · subst h; split at h1 <;> split <;> omega
    · rcases List.mem_cons.mp h with h | h
      · subst h; split at h1 <;> split <;> omega
      · exact minI_le r _ y (List.mem_cons_of_mem _ h)
section
open Sem (wp)
open PySem.Spec PyProof.Rows
variable {prog : Program} {w : World} {A : Around} {E : Value → Shared → Prop} {s : Shared} {t : Addr} {its : List Value} {ns : List Int} {Q : Value → Shared → Prop}
theorem iter_intTup {xs : Array (Int × Tok)} (hl : s.heap.IsTuple t (intItems xs))
    (h : ∀ s₂ : Shared, s₂ = { s with heap := s.heap.push { cls := .type "tuple_iterator", data := .fields #[.ref t, .int 0 0] } } →
      (s₂.heap.IsTupleIter s.heap.objs.size t 0 ∧ s₂.heap.IsTuple t (intItems xs)) → (∀ b ∈ [s.heap.objs.size, t], b < s₂.heap.objs.size) → t ≠ s.heap.objs.size → Q (.ref s.heap.objs.size) s₂) :
    wpAny (model prog w) A (pyIter (.ref t)) Q E s := by
  have hlt : t < s.heap.objs.size := by obtain ⟨_, e, _⟩ := hl; exact Heap.lt_size e
  refine wpAny_pyIter_tuple hl (h _ rfl ⟨⟨_, Heap.get?_push_size _ rfl, rfl, rfl⟩, hl.push _⟩ (fun b hb => ?_) (Nat.ne_of_lt hlt))
  show b < (s.heap.push _).objs.size
  rw [Heap.size_push]
  rcases List.mem_cons.mp hb with rfl | hb
  · exact Nat.lt_succ_self _
  · rcases List.mem_cons.mp hb with rfl | hb
    · exact Nat.lt_succ_of_lt hlt
    · cases hb
theorem old_keptT {h' : Heap} (hk : ∀ b o, b ∉ [s.heap.objs.size] → (s.heap.push { cls := .type "tuple_iterator", data := .fields #[.ref t, .int 0 0] }).get? b = some o → h'.get? b = some o) :
    ∀ b o, s.heap.get? b = some o → h'.get? b = some o := fun b o e => by
  refine hk b o (fun hm => ?_) (Heap.get?_push_of_some _ e)
  rcases List.mem_cons.mp hm with e1 | hm
  · exact absurd (e1 ▸ Heap.lt_size e) (Nat.lt_irrefl _)
  · cases hm
theorem max_rawT (hh : A.handled = none) (hl : s.heap.IsTuple t its.toArray) (hi : IntsAre its ns) (hne : 0 < ns.length)
    (h : ∀ h' tk M t', (∀ b o, s.heap.get? b = some o → h'.get? b = some o) → M ∈ ns → (∀ a, a ∈ ns → a ≤ M) → Q (.int M t') { s with heap := h', toks := tk }) : wpAny (model prog w) A (call (.builtin "max") [.ref t]) Q E s := by
  obtain ⟨xs, e⟩ := hi.allInts.items
  have hn : numsOf (intItems xs).toList = ns := by rw [← e]; exact hi.numsOf
  rw [nums_intItems] at hn
  subst hn
  rw [e] at hl
  have hsz : 0 < xs.size := by simpa using hne
  refine call_max_walk (iter_intTup hl fun s₂ e st hfp hlI => ?_)
  subst e
  refine ⟨_, _, _, _, _, _, _, rfl, Walks.tuple (A := A.in1) hh _ t hlI (intItems xs), st, hfp, by simpa [intItems] using hsz, CmpOf.ints_gt (numAt xs) (fun _ _ => intItems_at), fun v h' tk hP hk => ?_⟩
  obtain ⟨t', rfl⟩ := intItems_at hP
  have esz : (intItems xs).size = xs.size := by simp [intItems]
  rw [esz]
  obtain ⟨h1, h2⟩ := argBest_gt (numAt xs) (xs.size - 1)
  refine h h' tk _ t' (old_keptT hk) ?_ fun a ha => ?_
  · rw [numAt_eq]; exact PySem.getD_mem (by rw [List.length_map, Array.length_toList]; omega)
  · obtain ⟨j, hj, rfl⟩ := mem_getD ha
    rw [List.length_map, Array.length_toList] at hj
    rw [← numAt_eq]; exact h2 j (by omega)
theorem min_rawT (hh : A.handled = none) (hl : s.heap.IsTuple t its.toArray) (hi : IntsAre its ns) (hne : 0 < ns.length)
    (h : ∀ h' tk M t', (∀ b o, s.heap.get? b = some o → h'.get? b = some o) → M ∈ ns → (∀ a, a ∈ ns → M ≤ a) → Q (.int M t') { s with heap := h', toks := tk }) : wpAny (model prog w) A (call (.builtin "min") [.ref t]) Q E s := by
  obtain ⟨xs, e⟩ := hi.allInts.items
  have hn : numsOf (intItems xs).toList = ns := by rw [← e]; exact hi.numsOf
  rw [nums_intItems] at hn
  subst hn
  rw [e] at hl
  have hsz : 0 < xs.size := by simpa using hne
  refine call_min_walk (iter_intTup hl fun s₂ e st hfp hlI => ?_)
  subst e
  refine ⟨_, _, _, _, _, _, _, rfl, Walks.tuple (A := A.in1) hh _ t hlI (intItems xs), st, hfp, by simpa [intItems] using hsz, CmpOf.ints_lt (numAt xs) (fun _ _ => intItems_at), fun v h' tk hP hk => ?_⟩
  obtain ⟨t', rfl⟩ := intItems_at hP
  have esz : (intItems xs).size = xs.size := by simp [intItems]
  rw [esz]
  obtain ⟨h1, h2⟩ := argBest_lt (numAt xs) (xs.size - 1)
  refine h h' tk _ t' (old_keptT hk) ?_ fun a ha => ?_
  · rw [numAt_eq]; exact PySem.getD_mem (by rw [List.length_map, Array.length_toList]; omega)
  · obtain ⟨j, hj, rfl⟩ := mem_getD ha
    rw [List.length_map, Array.length_toList] at hj
    rw [← numAt_eq]; exact h2 j (by omega)
end
theorem cb_max1 {W : Wd} (hc : X.calm = true) (hK : X.K = W.K) : CallR X (.builtin "max") (rVN W (xop .max1)) := by
  intro pins s σ H xs us Q I rs hh
  obtain ⟨ι, h, ds, m, r, p⟩ := hh
  unfold xop at p
  split at p
  all_goals first | exact p.elim | contradiction | skip
  rename_i x hx
  obtain ⟨v, rfl, r1⟩ := reps1 r
  cases e1 : items x h with
  | none => rw [e1] at p; exact p.elim
  | some ys =>
    rw [e1] at p
    simp only [Option.bind_some] at p
    cases e2 : dInts ys with
    | none => rw [e2] at p; exact p.elim
    | some ns =>
      rw [e2] at p
      cases ns with
      | nil => exact p.elim
      | cons n ns =>
        obtain ⟨a, vs, rfl, h1, q1⟩ := items_rep m r1 e1
        rw [q1.ints e2] at h1
        have fin : ∀ k, k ∈ n :: ns → (∀ y ∈ n :: ns, y ≤ k) → Q (.int k) H := fun k k1 k2 => by
          have e : k = maxI n ns := Int.le_antisymm (maxI_le ns n k k1) (k2 _ (maxI_mem ns n))
          rw [e]
          exact postQ_here p m (.int _)
        rcases h1 with h1 | h1
        · exact cr_max hc pins s σ H _ us Q I rs ⟨_, n :: ns, rfl, by rw [hK]; exact h1, Nat.succ_pos _, fin⟩
        · obtain ⟨its, rv, pl, hz⟩ := I.tuple (SqT.of h1)
          rw [Vals.ref1 rs]
          exact max_rawT (I.ok.hd hc) pl rv.ints (Nat.succ_pos _) fun h' tk m' t' hk g1 g2 => ⟨.int _, H, I.kept hk, ⟨_, rfl⟩, fin m' g1 g2⟩
theorem cb_min1 {W : Wd} (hc : X.calm = true) (hK : X.K = W.K) : CallR X (.builtin "min") (rVN W (xop .min1)) := by
  intro pins s σ H xs us Q I rs hh
  obtain ⟨ι, h, ds, m, r, p⟩ := hh
  unfold xop at p
  split at p
  all_goals first | exact p.elim | contradiction | skip
  rename_i x hx
  obtain ⟨v, rfl, r1⟩ := reps1 r
  cases e1 : items x h with
  | none => rw [e1] at p; exact p.elim
  | some ys =>
    rw [e1] at p
    simp only [Option.bind_some] at p
    cases e2 : dInts ys with
    | none => rw [e2] at p; exact p.elim
    | some ns =>
      rw [e2] at p
      cases ns with
      | nil => exact p.elim
      | cons n ns =>
        obtain ⟨a, vs, rfl, h1, q1⟩ := items_rep m r1 e1
        rw [q1.ints e2] at h1
        have fin : ∀ k, k ∈ n :: ns → (∀ y ∈ n :: ns, k ≤ y) → Q (.int k) H := fun k k1 k2 => by
          have e : k = minI n ns := Int.le_antisymm (k2 _ (minI_mem ns n)) (minI_le ns n k k1)
          rw [e]
          exact postQ_here p m (.int _)
        rcases h1 with h1 | h1
        · exact cr_min hc pins s σ H _ us Q I rs ⟨_, n :: ns, rfl, by rw [hK]; exact h1, Nat.succ_pos _, fin⟩
        · obtain ⟨its, rv, pl, hz⟩ := I.tuple (SqT.of h1)
          rw [Vals.ref1 rs]
          exact min_rawT (I.ok.hd hc) pl rv.ints (Nat.succ_pos _) fun h' tk m' t' hk g1 g2 => ⟨.int _, H, I.kept hk, ⟨_, rfl⟩, fin m' g1 g2⟩
/-! ### dicts -/
theorem keyL_rep {W : Wd} {ι : Ix} {H : Hp} : ∀ {ds : List D} {vs : List V} {k : List L2.Key}, Reps W ι H ds vs → keyL ds = some k → vs = k.map kV
  | [], _, _, .nil, e => by cases e; rfl
  | .int i :: r, _, _, .cons r1 r2, e => by
    cases r1
    simp only [keyL, Option.map_eq_some_iff] at e
    obtain ⟨k, e1, rfl⟩ := e
    rw [keyL_rep r2 e1]
    rfl
  | .str x :: r, _, _, .cons r1 r2, e => by
    cases r1
    simp only [keyL, Option.map_eq_some_iff] at e
    obtain ⟨k, e1, rfl⟩ := e
    rw [keyL_rep r2 e1]
    rfl
  | .non :: _, _, _, _, e => by cases e
  | .bl _ :: _, _, _, _, e => by cases e
  | .tup _ :: _, _, _, _, e => by cases e
  | .lst _ :: _, _, _, _, e => by cases e
  | .scr _ :: _, _, _, _, e => by cases e
  | .cd _ :: _, _, _, _, e => by cases e
  | .obj _ _ :: _, _, _, _, e => by cases e
  | .exc _ _ :: _, _, _, _, e => by cases e
  | .ref _ :: _, _, _, _, e => by cases e
theorem dval_rep {W : Wd} {ι : Ix} {H : Hp} {k : List L2.Key} : ∀ {kvs : List (List L2.Key × D)} {ws : List (List L2.Key × V)}, kvs.map (·.1) = ws.map (·.1) → Reps W ι H (kvs.map (·.2)) (ws.map (·.2)) → (dval kvs k = none ∧ valV ws k = none) ∨ ∃ d v, dval kvs k = some d ∧ valV ws k = some v ∧ Rep W ι H d v
  | [], [], _, _ => .inl ⟨rfl, rfl⟩
  | [], _ :: _, e, _ => by simp at e
  | _ :: _, [], e, _ => by simp at e
  | (k1, d) :: kvs, (k2, v) :: ws, e, r => by
    simp only [List.map_cons, List.cons.injEq] at e
    obtain ⟨rfl, e⟩ := e
    cases r with
    | cons r1 r2 =>
      by_cases h : k1 = k
      · exact .inr ⟨d, v, by simp [dval, List.find?_cons, h], by simp [valV, List.find?_cons, h], r1⟩
      · have := dval_rep (k := k) e r2
        simpa [dval, valV, List.find?_cons, h] using this
theorem fItems_rep {W : Wd} {ι : Ix} {H : Hp} {d : D} {v : V} {xs : List D} (r : Rep W ι H d v) (e : fItems d = some xs) : ∃ a vs, v = .ref a ∧ (SqT W.K H a vs ∨ SqL W.K H a vs) ∧ Reps W ι H xs vs := by
  cases d with
  | tup ys =>
    cases e
    cases r with
    | tup hs r => exact ⟨_, _, rfl, .inl (SqT.of hs), r⟩
  | lst ys =>
    cases e
    cases r with
    | lst hs n n2 r => exact ⟨_, _, rfl, .inr (SqL.of hs), r⟩
  | _ => cases e
theorem starEach_star {e : Expr} {es : List Expr} {p : Pos} {env : PySem.Env} : starEach (.Starred e p :: es) env = (true, eval e env) :: starEach es env := rfl
theorem me_mth (C : Cxt Γ X N sc WE cf) {o : MO} {a l : E} {e x : Expr} {es : List Expr} (hm : mArgs o e = some (x, es)) (ha : PE X x (rdE Γ.W WE (ev cf a))) (hl : Args Γ X WE cf l es) :
    PE X e (rdE Γ.W WE (ev cf (.mth o a l))) := by
  cases o with
  | tst =>
    simp only [mArgs] at hm
    split at hm
    · split at hm
      · rename_i nb
        cases hm
        cases hl with
        | cons hb n1 hl =>
          cases hl
          rename_i b
          refine PE.imp (pe_tup (StX.pa_star ha (ml_cons hb ml_nil nb) starEach_star)) fun σ H Q hh => ?_
          refine rd_bnd (f := ev cf a) (k := fun x env h => if mpre .tst x h = true then bnd (evL cf (.cons b .nil) env) (mop .tst x) h else .bad) hh fun ι env x v H1 h1 m e r p => ?_
          by_cases hp : mpre .tst x h1 = true
          · rw [if_pos hp] at p
            obtain ⟨xs, q0⟩ := Option.isSome_iff_exists.mp (show (fItems x).isSome = true from hp)
            obtain ⟨a', vs, rfl, hs, rx⟩ := fItems_rep r q0
            refine ⟨a', vs, rfl, by rw [C.hK]; exact hs, ι, env, h1, m, e, ?_⟩
            have p : Post Γ.W (Rep Γ.W) ι H1 ((evL cf (.cons b .nil) env h1).bnd (mop .tst x)) Q (fun c d H' => WE c d σ H') := p
            show Post Γ.W (Reps Γ.W) ι H1 (evL cf (.cons b .nil) env h1) _ _
            cases q : evL cf (.cons b .nil) env h1 with
            | bad => rw [q] at p; exact p.elim
            | exn z h2 => rw [q] at p; exact p
            | ok ys h2 =>
              rw [q] at p
              have p : Post Γ.W (Rep Γ.W) ι H1 (mop .tst x ys h2) Q (fun c d H' => WE c d σ H') := p
              intro ι' H' vs' s' m' r'
              rcases ys with _ | ⟨y, _ | ⟨z, ys⟩⟩
              · simp only [mop] at p; exact p.elim
              · simp only [mop, q0] at p
                split at p
                · rename_i hz
                  have rr := (rx.mono s').append r'
                  refine ⟨?_, fun q hq => p ι' _ _ (s'.trans (Step.lay hq)) (m'.lay hq) (rep_tup hq rr)⟩
                  rw [← SZ_eq, ← rr.length]
                  simpa using hz
                · exact p.elim
              · simp only [mop] at p; exact p.elim
          · rw [if_neg hp] at p
            exact p.elim
      · cases hm
    · cases hm
  | tss =>
    simp only [mArgs] at hm
    split at hm
    · cases hm
      cases hl with
      | cons hb n1 hl =>
        cases hl
        rename_i b
        refine PE.imp (pe_tup (StX.pa_star ha (StX.pa_star hb (ml_nil (Γ := Γ) (WE := WE)) starEach_star) starEach_star)) fun σ H Q hh => ?_
        refine rd_bnd (f := ev cf a) (k := fun x env h => if mpre .tss x h = true then bnd (evL cf (.cons b .nil) env) (mop .tss x) h else .bad) hh fun ι env x v H1 h1 m e r p => ?_
        by_cases hp : mpre .tss x h1 = true
        · rw [if_pos hp] at p
          obtain ⟨xs, q0⟩ := Option.isSome_iff_exists.mp (show (fItems x).isSome = true from hp)
          obtain ⟨a', vs, rfl, hs, rx⟩ := fItems_rep r q0
          refine ⟨a', vs, rfl, by rw [C.hK]; exact hs, ι, env, h1, m, e, ?_⟩
          have p : Post Γ.W (Rep Γ.W) ι H1 (((ev cf b env h1).bnd fun y => bnd (ret []) fun ys => ret (y :: ys)).bnd (mop .tss x)) Q (fun c d H' => WE c d σ H') := p
          show Post Γ.W (Rep Γ.W) ι H1 (ev cf b env h1) _ _
          cases q : ev cf b env h1 with
          | bad => rw [q] at p; exact p.elim
          | exn z h2 => rw [q] at p; exact p
          | ok y h2 =>
            rw [q] at p
            have p : Post Γ.W (Rep Γ.W) ι H1 (mop .tss x [y] h2) Q (fun c d H' => WE c d σ H') := p
            intro ι' H' vy s' m' ry
            simp only [mop, q0] at p
            cases q1 : fItems y with
            | none => rw [q1] at p; exact p.elim
            | some ys =>
              rw [q1] at p
              simp only at p
              split at p
              · rename_i hz
                obtain ⟨b', us, rfl, hs', rx'⟩ := fItems_rep ry q1
                refine ⟨b', us, rfl, by rw [C.hK]; exact hs', ι', env, h2, m', e.mono s', ?_⟩
                intro ι2 H2 ws s2 m2 r2
                cases r2
                have rr := ((rx.mono s').append rx').mono s2
                rw [List.append_nil]
                refine ⟨?_, fun q hq => p ι2 _ _ ((s'.trans s2).trans (Step.lay hq)) (m2.lay hq) (rep_tup hq rr)⟩
                rw [← SZ_eq, ← rr.length]
                simpa using hz
              · exact p.elim
        · rw [if_neg hp] at p
          exact p.elim
    · cases hm
  | get =>
    simp only [mArgs] at hm
    split at hm
    · split at hm
      · rename_i x0 mm ap es0 cp hc
        simp only [Bool.and_eq_true, decide_eq_true_eq] at hc
        obtain ⟨⟨⟨h1, h2⟩, h3⟩, h4⟩ := hc
        cases hm
        have e1 := eq_of_beq h1
        subst e1
        cases hl with
        | nil => cases h4
        | cons hb n1 hl =>
          cases hl with
          | nil => cases h4
          | cons hc n2 hl =>
            cases hl with
            | cons _ _ _ => simp at h4
            | nil =>
              rename_i b eb c ec
              have hu : X.A.units + 1 < cLine := by have := C.un; omega
              have m2 : M2 X x "get" ap eb ec cp := ⟨attributeBase_ok h3, by rw [starEach_plain n1, starEach_plain n2]; rfl, h2, by rw [starEach_plain n1, starEach_plain n2]; rfl⟩
              refine PE.imp (pe_dget2 hu ha hb hc m2) fun σ H Q hh => ?_
              refine rd_bnd (f := ev cf a) (k := fun x env h => if mpre .get x h = true then bnd (evL cf (.cons b (.cons c .nil)) env) (mop .get x) h else .bad) hh fun ι env x v H1 h1 m e r p => ?_
              by_cases hp : mpre .get x h1 = true
              · rw [if_pos hp] at p
                cases x with
                | ref i =>
                  cases r with
                  | ref hi =>
                    rename_i ad
                    cases q1 : h1[i]? with
                    | none => simp [mpre, q1] at hp
                    | some cl =>
                      cases cl with
                      | lst _ => simp [mpre, q1] at hp
                      | ins _ _ => simp [mpre, q1] at hp
                      | dct lk kvs =>
                        obtain ⟨a1, e1, x1⟩ := m.get q1
                        rw [hi] at e1
                        cases e1
                        obtain ⟨ws, _, rd1, _⟩ := x1.rd
                        refine ⟨ad, rfl, .inr ⟨ws, rd1⟩, ι, env, h1, m, e, ?_⟩
                        have p : Post Γ.W (Rep Γ.W) ι H1 (((ev cf b env h1).bnd fun y => bnd (evL cf (.cons c .nil) env) fun ys => ret (y :: ys)).bnd (mop .get (.ref i))) Q (fun c d H' => WE c d σ H') := p
                        cases qb : ev cf b env h1 with
                        | bad => rw [qb] at p; exact p.elim
                        | exn z h2 => rw [qb] at p; exact p
                        | ok y h2 =>
                          rw [qb] at p
                          intro ι2 H2 yv s2 m2 r2
                          refine ⟨ι2, env, h2, m2, e.mono s2, ?_⟩
                          have p : Post Γ.W (Rep Γ.W) ι H1 ((((ev cf c env h2).bnd fun z => bnd (ret []) fun zs => ret (z :: zs)).bnd fun ys => ret (y :: ys)).bnd (mop .get (.ref i))) Q (fun c d H' => WE c d σ H') := p
                          cases qc : ev cf c env h2 with
                          | bad => rw [qc] at p; exact p.elim
                          | exn z h3 => rw [qc] at p; exact Post.base s2 p
                          | ok z h3 =>
                            rw [qc] at p
                            intro ι3 H3 zv s3 m3 r3
                            have p : Post Γ.W (Rep Γ.W) ι3 H3 (mop .get (.ref i) [y, z] h3) Q (fun c d H' => WE c d σ H') := Post.base (s2.trans s3) p
                            have hi3 : ι3.c[i]? = some ad := s3.pre i _ (s2.pre i _ hi)
                            have r2 := r2.mono s3
                            cases y with
                            | tup ks =>
                              cases q3 : h3[i]? with
                              | none => simp only [mop, q3] at p; exact p.elim
                              | some cl =>
                                cases cl with
                                | lst _ => simp only [mop, q3] at p; exact p.elim
                                | ins _ _ => simp only [mop, q3] at p; exact p.elim
                                | dct lk3 kvs3 =>
                                  cases q4 : keyL ks with
                                  | none => simp only [mop, q3, q4] at p; exact p.elim
                                  | some kk =>
                                    simp only [mop, q3, q4] at p
                                    obtain ⟨a3, e3, x3⟩ := m3.get q3
                                    rw [hi3] at e3
                                    cases e3
                                    obtain ⟨ws3, k3, rd3, rr3⟩ := x3.rd
                                    cases r2 with
                                    | tup hb2 rb2 =>
                                      rw [keyL_rep rb2 q4] at hb2
                                      refine ⟨valV ws3 kk, .inr ⟨ws3, kk, _, rd3, rfl, hb2, rfl⟩, ?_⟩
                                      rcases dval_rep (k := kk) k3 rr3 with ⟨d1, d2⟩ | ⟨d, v, d1, d2, rv⟩
                                      · rw [d1] at p; rw [d2]; exact Post.here p m3 r3
                                      · rw [d1] at p; rw [d2]; exact Post.here p m3 rv
                            | _ => exact p.elim
                | _ => simp [mpre] at hp
              · rw [if_neg hp] at p
                exact p.elim
      · cases hm
    · cases hm
/-- while a dict is locked -/
theorem me_lk {v : Nat} {a : E} {e : Expr} (ha : PE X e (rdE Γ.W WE (ev cf a))) : PE X e (rdE Γ.W WE (ev cf (.lk v a))) := by
  refine PE.imp (pe_lock ha) fun σ H Q hh => ?_
  obtain ⟨ι, env, h, m, en, p⟩ := hh
  rw [ev] at p
  cases q1 : env[v]? with
  | none => rw [q1] at p; exact p.elim
  | some o =>
    rw [q1] at p
    cases o with
    | none => exact p.elim
    | some d =>
      cases d with
      | ref i =>
        simp only at p
        cases q2 : h[i]? with
        | none => rw [q2] at p; exact p.elim
        | some cl =>
          rw [q2] at p
          cases cl with
          | lst _ => exact p.elim
          | ins _ _ => exact p.elim
          | dct lk kvs =>
            cases lk with
            | true => exact p.elim
            | false =>
              simp only at p
              obtain ⟨ad, hi, pk, ws, ek, hH, rr⟩ := m.get q2
              have hH : H ad = some (.dT ws) := hH
              have hm := List.mem_of_getElem? hi
              refine ⟨ad, .dT ws, hH, trivial, fun od => ?_⟩
              have st : Step ι H ι (upd H ad (.frz od (.dT ws))) := Step.put hm hH (fun _ z => by cases z) (fun _ _ z => by cases z) (fun _ z => by cases z)
              have m1 : Sm Γ.W ι (upd H ad (.frz od (.dT ws))) (h.set i (.dct true kvs)) := m.put hi st ⟨pk, ws, ek, ⟨od, upd_same⟩, rr.mono st⟩
              refine ⟨ι, env, h.set i (.dct true kvs), m1, en.mono st, ?_⟩
              show Post Γ.W (Rep Γ.W) ι _ (ev cf a env (h.set i (.dct true kvs))) _ _
              cases q3 : ev cf a env (h.set i (.dct true kvs)) with
              | bad => rw [q3] at p; exact p.elim
              | exn z h2 => rw [q3] at p; exact p.elim
              | ok d h' =>
                rw [q3] at p
                simp only at p
                cases q4 : h'[i]? with
                | none => rw [q4] at p; exact p.elim
                | some cl' =>
                  rw [q4] at p
                  cases cl' with
                  | lst _ => exact p.elim
                  | ins _ _ => exact p.elim
                  | dct lk' kvs' =>
                    cases lk' with
                    | false => exact p.elim
                    | true =>
                      intro ι' H' b s' m' r'
                      have hf : H' ad = some (.frz od (.dT ws)) := s'.frzs ad od _ upd_same
                      have hi' := s'.pre _ _ hi
                      exact ⟨hf, p ι' _ b (s'.unlock hH hm) (m'.unfz hi' q4 hf) (r'.unfz hf)⟩
      | _ => exact p.elim
theorem xArgs_plain {o : XO} {e : Expr} {es : List Expr} (h : xArgs sc o e = some es) : plainTest e = true := by
  cases o
  all_goals
    simp only [xArgs] at h
    split at h
    · rfl
    · cases h
/-- a new cell at a place that was free at the start -/
theorem Step.addc {ι ι' : Ix} {H H' : Hp} {p : Addr} (s : Step ι H ι' H') (n : H p = none) : Step ι H (ι'.app p) H' where
  ex := s.ex
  newx := s.newx
  pre := fun i a h => by
    have h' := s.pre i a h
    have hl : i < ι'.c.length := by
      rcases Nat.lt_or_ge i ι'.c.length with q | q
      · exact q
      · rw [List.getElem?_eq_none q] at h'; cases h'
    show (ι'.c ++ [p])[i]? = _
    rw [List.getElem?_append_left hl]; exact h'
  tups := s.tups
  frzs := s.frzs
  tbls := s.tbls
  keep := s.keep
  new := fun a h m => by
    rcases List.mem_append.mp h with q | q
    · exact s.new a q m
    · rw [List.mem_singleton.mp q]; exact n
mutual
theorem Rep.putd {W : Wd} {ι : Ix} {H : Hp} {p : Addr} {ws : List (List L2.Key × V)} {o : HO} (e : H p = some (.dT ws)) : ∀ {d : D} {v : V}, Rep W ι H d v → Rep W (ι.app p) (upd H p o) d v
  | _, _, .non => .non
  | _, _, .bl b => .bl b
  | _, _, .int i => .int i
  | _, _, .str x => .str x
  | _, _, .tup h r => .tup (by rw [upd_ne (ne_of h e (fun z => by cases z))]; exact h) (Reps.putd e r)
  | _, _, .lst h n n2 r => .lst (by rw [upd_ne (ne_of h e (fun z => by cases z))]; exact h) (fun z => (List.mem_append.mp z).elim n fun z => ne_of h e (fun z => by cases z) (List.mem_singleton.mp z)) n2 (Reps.putd e r)
  | _, _, .cd h => .cd h
  | _, _, .scr h => .scr (by rw [upd_ne (ne_of h e (fun z => by cases z))]; exact h)
  | _, _, .obj h n n2 l r => .obj (by rw [upd_ne (ne_of h e (fun z => by cases z))]; exact h) (fun z => (List.mem_append.mp z).elim n fun z => ne_of h e (fun z => by cases z) (List.mem_singleton.mp z)) n2 l (Reps.putd e r)
  | _, _, .ref (i := i) h => .ref (by
    have hl : i < ι.c.length := by
      rcases Nat.lt_or_ge i ι.c.length with q | q
      · exact q
      · rw [List.getElem?_eq_none q] at h; cases h
    show (ι.c ++ [p])[i]? = _
    rw [List.getElem?_append_left hl]; exact h)
theorem Reps.putd {W : Wd} {ι : Ix} {H : Hp} {p : Addr} {ws : List (List L2.Key × V)} {o : HO} (e : H p = some (.dT ws)) : ∀ {ds : List D} {vs : List V}, Reps W ι H ds vs → Reps W (ι.app p) (upd H p o) ds vs
  | _, _, .nil => .nil
  | _, _, .cons r t => .cons (Rep.putd e r) (Reps.putd e t)
end
theorem Sm.putd {W : Wd} {ι : Ix} {H : Hp} {h : MH} {p : Addr} {ws : List (List L2.Key × V)} {o : HO} {c : Cell} (s : Sm W ι H h) (e : H p = some (.dT ws)) (nc : p ∉ ι.c) (nx : p ∉ ι.x) (x : CellR W (ι.app p) (upd H p o) p c) : Sm W (ι.app p) (upd H p o) (h ++ [c]) :=
  ⟨List.nodup_append.mpr ⟨s.nd, by simp, fun a ma b hb z => by
      rw [List.mem_singleton] at hb
      subst hb; subst z
      exact nc ma⟩,
   by show (ι.c ++ [p]).length = _; simp [s.len], fun i k a ec ha => by
    have hl := s.len
    have ha : (ι.c ++ [p])[i]? = some a := ha
    by_cases q : i < h.length
    · rw [List.getElem?_append_left q] at ec
      rw [List.getElem?_append_left (by omega)] at ha
      have hne : a ≠ p := fun z => nc (by rw [← z]; exact List.mem_of_getElem? ha)
      have y := s.cell i k a ec ha
      cases k with
      | lst ds =>
        obtain ⟨q, vs, h, r⟩ := y
        exact ⟨q, vs, by rw [upd_ne hne]; exact h, r.putd e⟩
      | ins c fs =>
        obtain ⟨q, dx, vs, h, l, r⟩ := y
        exact ⟨q, dx, vs, by rw [upd_ne hne]; exact h, l, r.putd e⟩
      | dct lk kvs =>
        obtain ⟨q, ws, k, h, r⟩ := y
        exact ⟨q, ws, k, by rw [upd_ne hne]; exact h, r.putd e⟩
    · rw [List.getElem?_append_right (by omega)] at ec ha
      have z : i - h.length = 0 := by
        rcases Nat.eq_zero_or_pos (i - h.length) with z | z
        · exact z
        · rw [List.getElem?_eq_none (by simp only [List.length_singleton]; omega)] at ec; cases ec
      rw [z] at ec
      rw [hl, z] at ha
      cases ec
      cases ha
      exact x, fun a ma => by
    obtain ⟨n, o', h1, h2⟩ := s.exs a ma
    have hne : a ≠ p := fun z => nx (by rw [← z]; exact ma)
    exact ⟨fun z => (List.mem_append.mp z).elim n fun z => hne (List.mem_singleton.mp z), o', by rw [upd_ne hne]; exact h1, h2⟩⟩
/-- list(x), a cell -/
theorem cb_listc {W : Wd} (hK : X.K = W.K) : CallR X (.type "list") (rVN W (xop .listc)) := by
  intro pins s σ H xs us Q I rs hh
  obtain ⟨ι, h, ds, m, r, p⟩ := hh
  unfold xop at p
  split at p
  all_goals first | exact p.elim | contradiction | skip
  rename_i x hx
  obtain ⟨v, rfl, r1⟩ := reps1 r
  split at p
  · rename_i ys e1
    obtain ⟨a, vs, rfl, h1, q1⟩ := items_rep m r1 e1
    split at p
    · rename_i hp
      refine call_list_of pins s σ H _ us Q I rs ⟨_, _, rfl, by rw [hK]; exact h1.imp id SqT.of, fun q hq => p (ι.app q) _ _ (Step.cell hq) (m.cellNew hq ⟨hp, vs, upd_same, q1.mono (Step.cell hq)⟩) (.ref ?_)⟩
      show (ι.c ++ [q])[_]? = _
      rw [← m.len, List.getElem?_append_right (Nat.le_refl _), Nat.sub_self]
      rfl
    · exact p.elim
  · exact p.elim
/-- a further operation -/
theorem me_x (C : Cxt Γ X N sc WE cf) {o : XO} {e : Expr} {es : List Expr} {l : E} (hx : xArgs sc o e = some es) (h : Args Γ X WE cf l es) : PE X e (rdE Γ.W WE fun env => bnd (evL cf l env) (xop o)) := by
  cases o with
  | max1 =>
    simp only [xArgs] at hx
    split at hx
    · split at hx
      · rename_i hc
        rw [Bool.and_eq_true] at hc
        cases hx
        have e1 := eq_of_beq hc.1
        subst e1
        exact me_callB C (by decide +kernel) (cb_max1 C.calm C.hK) PyProof.Rows.boot_max (glB_ok hc.2) (by decide +kernel) h.pa h.star
      · cases hx
    · cases hx
  | dnew =>
    simp only [xArgs] at hx
    split at hx
    · cases hx
      cases h
      refine PE.imp pe_dnewT fun σ H Q hh => ?_
      obtain ⟨ι, env, h, m, e, p⟩ := hh
      intro q hq
      have p : Post Γ.W (Rep Γ.W) ι H (.ok (.ref h.length) (h ++ [.dct false []])) Q (fun c d H' => WE c d σ H') := p
      refine p (ι.app q) _ _ (Step.cell hq) (m.cellNew hq ⟨rfl, [], rfl, upd_same, .nil⟩) (.ref ?_)
      show (ι.c ++ [q])[_]? = _
      rw [← m.len, List.getElem?_append_right (Nat.le_refl _), Nat.sub_self]
      rfl
    · cases hx
  | dix =>
    simp only [xArgs] at hx
    split at hx
    · split at hx
      · rename_i hns
        cases hx
        cases h with
        | cons ha n1 h =>
          cases h with
          | cons hb n2 h =>
            cases h
            rename_i a b
            have hu : X.A.units + 1 < cLine := by have := C.un; omega
            refine PE.imp (pe_dget hu ha hb (plainIx_of hns)) fun σ H Q hh => ?_
            obtain ⟨ι, env, h1, m, e, p⟩ := hh
            refine ⟨ι, env, h1, m, e, ?_⟩
            have p : Post Γ.W (Rep Γ.W) ι H (((ev cf a env h1).bnd fun x => bnd (evL cf (.cons b .nil) env) fun xs => ret (x :: xs)).bnd (xop .dix)) Q (fun c d H' => WE c d σ H') := p
            cases qa : ev cf a env h1 with
            | bad => rw [qa] at p; exact p.elim
            | exn z h2 => rw [qa] at p; exact p
            | ok x h2 =>
              rw [qa] at p
              intro ι2 H2 xv s2 m2 r2
              refine ⟨ι2, env, h2, m2, e.mono s2, ?_⟩
              have p : Post Γ.W (Rep Γ.W) ι H ((((ev cf b env h2).bnd fun z => bnd (ret []) fun zs => ret (z :: zs)).bnd fun ys => ret (x :: ys)).bnd (xop .dix)) Q (fun c d H' => WE c d σ H') := p
              cases qc : ev cf b env h2 with
              | bad => rw [qc] at p; exact p.elim
              | exn z h3 => rw [qc] at p; exact Post.base s2 p
              | ok y h3 =>
                rw [qc] at p
                intro ι3 H3 yv s3 m3 r3
                have p : Post Γ.W (Rep Γ.W) ι3 H3 (xop .dix [x, y] h3) Q (fun c d H' => WE c d σ H') := Post.base (s2.trans s3) p
                have r2 := r2.mono s3
                obtain ⟨i, rfl⟩ : ∃ i, x = .ref i := by cases x <;> first | exact ⟨_, rfl⟩ | exact p.elim
                obtain ⟨ks, rfl⟩ : ∃ ks, y = .tup ks := by cases y <;> first | exact ⟨_, rfl⟩ | exact p.elim
                have p : Post Γ.W (Rep Γ.W) ι3 H3 (match h3[i]?, keyL ks with
                  | some (.dct _ kvs), some k => (match dval kvs k with
                    | some d => .ok d h3
                    | none => .bad)
                  | _, _ => .bad) Q (fun c d H' => WE c d σ H') := p
                cases q3 : h3[i]? with
                | none => simp only [q3] at p; exact p.elim
                | some cl =>
                  cases cl with
                  | lst _ => simp only [q3] at p; exact p.elim
                  | ins _ _ => simp only [q3] at p; exact p.elim
                  | dct lk3 kvs3 =>
                    cases q4 : keyL ks with
                    | none => simp only [q3, q4] at p; exact p.elim
                    | some kk =>
                      simp only [q3, q4] at p
                      obtain ⟨a3, e3, x3⟩ := m3.get q3
                      obtain ⟨ws3, k3, rd3, rr3⟩ := x3.rd
                      cases r2 with
                      | ref hi =>
                        rw [hi] at e3
                        cases e3
                        cases r3 with
                        | tup hb2 rb2 =>
                          rw [keyL_rep rb2 q4] at hb2
                          rcases dval_rep (k := kk) k3 rr3 with ⟨d1, d2⟩ | ⟨d, v, d1, d2, rv⟩
                          · rw [d1] at p; exact p.elim
                          · rw [d1] at p
                            exact ⟨_, v, rfl, .inr ⟨ws3, kk, _, rd3, rfl, hb2, d2.symm⟩, Post.here p m3 rv⟩
      · cases hx
    · cases hx
  | d1 =>
    simp only [xArgs] at hx
    split at hx
    · cases hx
      cases h with
      | cons ha n1 h =>
        cases h with
        | cons hb n2 h =>
          cases h
          rename_i a b
          have hu : X.A.units + 1 < cLine := by have := C.un; omega
          refine PE.imp (pe_dispT hu ha hb) fun σ H Q hh => ?_
          obtain ⟨ι, env, h0, m, e, p⟩ := hh
          intro pp hp
          have st0 : Step ι H ι (upd H pp (.dT [])) := Step.lay hp
          refine ⟨ι, env, h0, m.lay hp, e.mono st0, ?_⟩
          have p : Post Γ.W (Rep Γ.W) ι H (((ev cf a env h0).bnd fun x => bnd (evL cf (.cons b .nil) env) fun xs => ret (x :: xs)).bnd (xop .d1)) Q (fun c d H' => WE c d σ H') := p
          cases qa : ev cf a env h0 with
          | bad => rw [qa] at p; exact p.elim
          | exn z h2 => rw [qa] at p; exact Post.base st0 p
          | ok x h2 =>
            rw [qa] at p
            intro ι2 H2 xv s2 m2 r2
            refine ⟨ι2, env, h2, m2, (e.mono st0).mono s2, ?_⟩
            have p : Post Γ.W (Rep Γ.W) ι H ((((ev cf b env h2).bnd fun z => bnd (ret []) fun zs => ret (z :: zs)).bnd fun ys => ret (x :: ys)).bnd (xop .d1)) Q (fun c d H' => WE c d σ H') := p
            cases qc : ev cf b env h2 with
            | bad => rw [qc] at p; exact p.elim
            | exn z h3 => rw [qc] at p; exact Post.base (st0.trans s2) p
            | ok y h3 =>
              rw [qc] at p
              intro ι3 H3 yv s3 m3 r3
              have p : Post Γ.W (Rep Γ.W) ι H (xop .d1 [x, y] h3) Q (fun c d H' => WE c d σ H') := p
              have st : Step ι (upd H pp (.dT [])) ι3 H3 := s2.trans s3
              have hp3 : H3 pp = some (.dT []) := st.keep pp _ (m.fresh hp) upd_same (fun ps z => by cases z)
              have nc : pp ∉ ι3.c := fun mm => by
                have := st.new pp mm (m.fresh hp)
                rw [upd_same] at this
                cases this
              have nx : pp ∉ ι3.x := fun mm => by
                have := st.newx pp mm (m.freshX hp) (m.fresh hp)
                rw [upd_same] at this
                cases this
              refine ⟨hp3, ?_⟩
              have r2 := r2.mono s3
              obtain ⟨ks, rfl⟩ : ∃ ks, x = .tup ks := by cases x <;> first | exact ⟨_, rfl⟩ | exact p.elim
              simp only [xop] at p
              cases q4 : keyL ks with
              | none => rw [q4] at p; exact p.elim
              | some kk =>
                rw [q4] at p
                simp only at p
                split at p
                · rename_i hpl
                  cases r2 with
                  | tup hb2 rb2 =>
                    rw [keyL_rep rb2 q4] at hb2
                    refine ⟨kk, _, rfl, hb2, ?_⟩
                    have sA : Step ι H ι3 H3 := st0.trans st
                    refine p (ι3.app pp) _ _ ((sA.after hp).addc hp) (m3.putd hp3 nc nx ⟨?_, [(kk, yv)], rfl, upd_same, .cons (r3.putd hp3) .nil⟩) (.ref ?_)
                    · simp [plains, hpl]
                    · show (ι3.c ++ [pp])[_]? = _
                      rw [← m3.len, List.getElem?_append_right (Nat.le_refl _), Nat.sub_self]
                      rfl
                · exact p.elim
    · cases hx
  | trg =>
    simp only [xArgs] at hx
    split at hx
    · split at hx
      · rename_i hc
        simp only [Bool.and_eq_true] at hc
        obtain ⟨⟨⟨h1, h2⟩, h3⟩, h4⟩ := hc
        cases hx
        have e1 := eq_of_beq h1
        have e2 := eq_of_beq h3
        subst e1 e2
        cases h with
        | cons ha n1 h =>
          cases h
          rename_i a
          refine PE.imp (pe_tupRg C.calm (C.gl _ (glB_ok h2)) (C.free _ (by decide +kernel)) (prg_1 (C.gl _ (glB_ok h4)) (C.free _ (by decide +kernel)) ha (starEach_plain n1)) (starEach_plain rfl)) fun σ H Q hh => ?_
          obtain ⟨ι, env, h0, m, e, p⟩ := hh
          refine ⟨ι, env, h0, m, e, ?_⟩
          have p : Post Γ.W (Rep Γ.W) ι H (((ev cf a env h0).bnd fun x => bnd (ret []) fun xs => ret (x :: xs)).bnd (xop .trg)) Q (fun c d H' => WE c d σ H') := p
          show Post Γ.W (Rep Γ.W) ι H (ev cf a env h0) _ _
          cases qa : ev cf a env h0 with
          | bad => rw [qa] at p; exact p.elim
          | exn z h2 => rw [qa] at p; exact p
          | ok x h2 =>
            rw [qa] at p
            have p : Post Γ.W (Rep Γ.W) ι H (xop .trg [x] h2) Q (fun c d H' => WE c d σ H') := p
            intro ι2 H2 xv s2 m2 r2
            cases r2 with
            | int n =>
              simp only [xop] at p
              split at p
              · rename_i hz
                refine ⟨n, rfl, RgOk.of_le (by omega) (by omega) (by omega) (by omega), fun q hq => p ι2 _ _ (s2.trans (Step.lay hq)) (m2.lay hq) (rep_tup hq ?_)⟩
                unfold rgV
                have e0 : (n - 0).toNat = n.toNat := by rw [Int.sub_zero]
                rw [e0]
                generalize List.range n.toNat = l
                induction l with
                | nil => exact .nil
                | cons i r ih => exact .cons (by show Rep _ _ _ _ (V.int (0 + (i : Int))); rw [Int.zero_add]; exact .int _) ih
              · exact p.elim
            | _ => exact p.elim
      · cases hx
    · cases hx
  | lso =>
    simp only [xArgs] at hx
    split at hx
    · split at hx
      · rename_i na
        cases hx
        cases h with
        | cons ha n1 h =>
          cases h with
          | cons hb n2 h =>
            cases h
            rename_i a b
            refine PE.imp (pe_lst (pa_cons ha (StX.pa_star hb (ml_nil (Γ := Γ) (WE := WE)) starEach_star) (starEach_plain na))) fun σ H Q hh => ?_
            obtain ⟨ι, env, h0, m, e, p⟩ := hh
            refine ⟨ι, env, h0, m, e, ?_⟩
            have p : Post Γ.W (Rep Γ.W) ι H (((ev cf a env h0).bnd fun x => bnd (evL cf (.cons b .nil) env) fun xs => ret (x :: xs)).bnd (xop .lso)) Q (fun c d H' => WE c d σ H') := p
            cases qa : ev cf a env h0 with
            | bad => rw [qa] at p; exact p.elim
            | exn z h2 => rw [qa] at p; exact p
            | ok x h2 =>
              rw [qa] at p
              intro ι2 H2 xv s2 m2 r2
              refine ⟨ι2, env, h2, m2, e.mono s2, ?_⟩
              have p : Post Γ.W (Rep Γ.W) ι H ((((ev cf b env h2).bnd fun z => bnd (ret []) fun zs => ret (z :: zs)).bnd fun ys => ret (x :: ys)).bnd (xop .lso)) Q (fun c d H' => WE c d σ H') := p
              cases qc : ev cf b env h2 with
              | bad => rw [qc] at p; exact p.elim
              | exn z h3 => rw [qc] at p; exact Post.base s2 p
              | ok y h3 =>
                rw [qc] at p
                intro ι3 H3 yv s3 m3 r3
                have p : Post Γ.W (Rep Γ.W) ι H (xop .lso [x, y] h3) Q (fun c d H' => WE c d σ H') := p
                simp only [xop] at p
                cases q1 : fItems y with
                | none => rw [q1] at p; exact p.elim
                | some ys =>
                  rw [q1] at p
                  simp only at p
                  split at p
                  · rename_i hz
                    obtain ⟨b', us, rfl, hs', rx'⟩ := fItems_rep r3 q1
                    refine ⟨b', us, rfl, by rw [C.hK]; exact hs', ι3, env, h3, m3, (e.mono s2).mono s3, ?_⟩
                    intro ι4 H4 ws s4 m4 r4
                    cases r4
                    have rr : Reps Γ.W ι4 H4 (x :: ys) (xv :: us) := (Reps.cons (r2.mono s3) rx').mono s4
                    rw [List.append_nil]
                    refine ⟨?_, fun q hq => p ι4 _ _ (((s2.trans s3).trans s4).trans (Step.lay hq)) (m4.lay hq) (rep_lst m4 hq rr)⟩
                    rw [← SZ_eq, ← rr.length]
                    simpa using hz
                  · exact p.elim
      · cases hx
    · cases hx
  | srt =>
    simp only [xArgs] at hx
    split at hx
    · split at hx
      · rename_i hc
        rw [Bool.and_eq_true] at hc
        cases hx
        have e1 := eq_of_beq hc.1
        subst e1
        exact me_callB C (by decide +kernel) (cb_srt C.calm (by have := C.un; omega) C.hK) PyProof.Rows.boot_sorted (glB_ok hc.2) (by decide +kernel) h.pa h.star
      · cases hx
    · cases hx
  | dps =>
    simp only [xArgs] at hx
    split at hx
    · split at hx
      · rename_i hc
        rw [Bool.and_eq_true] at hc
        cases hx
        have e1 := eq_of_beq hc.1
        subst e1
        exact me_callT C (by decide +kernel) (cb_dps C.calm (by have := C.un; omega) C.hK) PyProof.Rows.boot_dict (glB_ok hc.2) (by decide +kernel) h.pa h.star
      · cases hx
    · cases hx
  | listc =>
    simp only [xArgs] at hx
    split at hx
    · split at hx
      · rename_i hc
        rw [Bool.and_eq_true] at hc
        cases hx
        have e1 := eq_of_beq hc.1
        subst e1
        exact me_callT C (by decide +kernel) (cb_listc C.hK) PyProof.Rows.boot_list (glB_ok hc.2) (by decide +kernel) h.pa h.star
      · cases hx
    · cases hx
  | min1 =>
    simp only [xArgs] at hx
    split at hx
    · split at hx
      · rename_i hc
        rw [Bool.and_eq_true] at hc
        cases hx
        have e1 := eq_of_beq hc.1
        subst e1
        exact me_callB C (by decide +kernel) (cb_min1 C.calm C.hK) PyProof.Rows.boot_min (glB_ok hc.2) (by decide +kernel) h.pa h.star
      · cases hx
    · cases hx
end
end Mn

set_option maxHeartbeats 4000000
/-! Mn: what is checked is sound. -/
namespace Mn
open PySem L2
section
variable {Γ : Glob} {N : List Str} {cf : Nat → List D → M D}
theorem chkL_star {sc : Scope} : ∀ {l : E} {es : List Expr}, chkL N Γ.cs Γ.fname sc l es = true → es.all notStar = true
  | .nil, [], _ => rfl
  | .nil, _ :: _, h => by simp [chkL] at h
  | .cons a l, [], h => by simp [chkL] at h
  | .cons a l, e :: r, h => by
    simp only [chkL, Bool.and_eq_true] at h
    rw [List.all_cons, h.1.1, chkL_star h.2]
    rfl
  | .var _, _, h => by simp [chkL] at h
  | .lit _, _, h => by simp [chkL] at h
  | .glb _ _, _, h => by simp [chkL] at h
  | .pow _ _, _, h => by simp [chkL] at h
  | .neg _, _, h => by simp [chkL] at h
  | .not _, _, h => by simp [chkL] at h
  | .bin _ _ _, _, h => by simp [chkL] at h
  | .cmp _ _ _, _, h => by simp [chkL] at h
  | .chn _ _ _ _ _, _, h => by simp [chkL] at h
  | .isN _, _, h => by simp [chkL] at h
  | .isnN _, _, h => by simp [chkL] at h
  | .and _ _, _, h => by simp [chkL] at h
  | .or _ _, _, h => by simp [chkL] at h
  | .ife _ _ _, _, h => by simp [chkL] at h
  | .tup _, _, h => by simp [chkL] at h
  | .lst _, _, h => by simp [chkL] at h
  | .cel _, _, h => by simp [chkL] at h
  | .idx _ _, _, h => by simp [chkL] at h
  | .slc _ _ _, _, h => by simp [chkL] at h
  | .call _ _, _, h => by simp [chkL] at h
  | .blt _ _, _, h => by simp [chkL] at h
  | .isi _ _, _, h => by simp [chkL] at h
  | .lc _ _ _ _ _ _, _, h => by simp [chkL] at h
  | .ck _ _ _, _, h => by simp [chkL] at h
  | .ex _ _, _, h => by simp [chkL] at h
  | .mth _ _ _, _, h => by simp [chkL] at h
  | .lk _ _, _, h => by simp [chkL] at h
  | .cl _, _, h => by simp [chkL] at h
theorem chkL_len {sc : Scope} : ∀ {l : E} {es : List Expr}, chkL N Γ.cs Γ.fname sc l es = true → LenM es.length (evL cf l)
  | .nil, [], _ => fun env h ds h' e => by cases e; rfl
  | .nil, _ :: _, h => by simp [chkL] at h
  | .cons a l, [], h => by simp [chkL] at h
  | .cons a l, e :: r, h => by
    simp only [chkL, Bool.and_eq_true] at h
    intro env h0 ds h' q
    obtain ⟨x, h1, _, q1⟩ := bnd_ok (r := ev cf a env h0) q
    obtain ⟨xs, h2, q2, q3⟩ := bnd_ok (r := evL cf l env h1) q1
    cases q3
    rw [List.length_cons, List.length_cons, chkL_len h.2 env h1 xs h' q2]
  | .var _, _, h => by simp [chkL] at h
  | .lit _, _, h => by simp [chkL] at h
  | .glb _ _, _, h => by simp [chkL] at h
  | .pow _ _, _, h => by simp [chkL] at h
  | .neg _, _, h => by simp [chkL] at h
  | .not _, _, h => by simp [chkL] at h
  | .bin _ _ _, _, h => by simp [chkL] at h
  | .cmp _ _ _, _, h => by simp [chkL] at h
  | .chn _ _ _ _ _, _, h => by simp [chkL] at h
  | .isN _, _, h => by simp [chkL] at h
  | .isnN _, _, h => by simp [chkL] at h
  | .and _ _, _, h => by simp [chkL] at h
  | .or _ _, _, h => by simp [chkL] at h
  | .ife _ _ _, _, h => by simp [chkL] at h
  | .tup _, _, h => by simp [chkL] at h
  | .lst _, _, h => by simp [chkL] at h
  | .cel _, _, h => by simp [chkL] at h
  | .idx _ _, _, h => by simp [chkL] at h
  | .slc _ _ _, _, h => by simp [chkL] at h
  | .call _ _, _, h => by simp [chkL] at h
  | .blt _ _, _, h => by simp [chkL] at h
  | .isi _ _, _, h => by simp [chkL] at h
  | .lc _ _ _ _ _ _, _, h => by simp [chkL] at h
  | .ck _ _ _, _, h => by simp [chkL] at h
  | .ex _ _, _, h => by simp [chkL] at h
  | .mth _ _ _, _, h => by simp [chkL] at h
  | .lk _ _, _, h => by simp [chkL] at h
  | .cl _, _, h => by simp [chkL] at h
mutual
theorem sndTg {X : Cx} {sc : Scope} {WE : WX} (C : Cxt Γ X N sc WE cf) : ∀ {t : Tg} {e : Expr}, chkTg N sc t e = true → PG X e (gB Γ.W t)
  | .nm i, e, h => by
    unfold chkTg at h
    split at h
    · rename_i x p
      rw [Bool.and_eq_true, decide_eq_true_eq] at h
      obtain ⟨k, hk, hk2⟩ := locB_ok h.2
      exact mg_nm C h.1 hk hk2
    · cases h
  | .tp l, e, h => by
    unfold chkTg at h
    split at h
    · obtain ⟨h1, h2, h3⟩ := sndTgs C h
      exact mg_tp C h1 h2 h3
    · cases h
  | .nil, _, h => by unfold chkTg at h; cases h
  | .cons _ _, _, h => by unfold chkTg at h; cases h
theorem sndTgs {X : Cx} {sc : Scope} {WE : WX} (C : Cxt Γ X N sc WE cf) : ∀ {t : Tg} {es : List Expr}, chkTgs N sc t es = true → PGs X es (gBs Γ.W t) ∧ es.all notStar = true ∧ tgLen t = es.length
  | .nil, [], _ => ⟨mgs_nil, rfl, rfl⟩
  | .nil, _ :: _, h => by simp [chkTgs] at h
  | .cons t l, [], h => by simp [chkTgs] at h
  | .cons t l, e :: r, h => by
    unfold chkTgs at h
    simp only [Bool.and_eq_true] at h
    obtain ⟨h1, h2, h3⟩ := sndTgs C h.2
    exact ⟨mgs_cons (sndTg C h.1.2) h1 h.1.1, by rw [List.all_cons, h.1.1, h2]; rfl, by show tgLen l + 1 = r.length + 1; rw [h3]⟩
  | .nm _, _, h => by unfold chkTgs at h; cases h
  | .tp _, _, h => by unfold chkTgs at h; cases h
end
theorem chkL_one {sc : Scope} {l : E} {e : Expr} (h : chkL N Γ.cs Γ.fname sc l [e] = true) : ∃ a, l = .cons a .nil := by
  cases l with
  | cons a l =>
    refine ⟨a, ?_⟩
    simp only [chkL, Bool.and_eq_true] at h
    cases l with
    | nil => rfl
    | _ => simp [chkL] at h
  | _ => simp [chkL] at h
/-- what a for walks -/
theorem sndI {X : Cx} {sc : Scope} {WE : WX} (C : Cxt Γ X N sc WE cf) {k : IK} {iter tg : Expr} {es : List Expr} {l : E} (hi : iterArgs sc k iter tg = some es) (hc : chkL N Γ.cs Γ.fname sc l es = true) (hl : PA X es (rdL Γ.W WE (evL cf l)))
    (h1 : ∀ a, l = .cons a .nil → ∀ e, es = [e] → PE X e (rdE Γ.W WE (ev cf a))) : PI X tg iter (rdI Γ.W WE fun env => bnd (evL cf l env) (src k)) := by
  have hst := chkL_star hc
  have hln := chkL_len (cf := cf) hc
  cases k with
  | seq =>
    cases hi
    match l, hc with
    | .cons a .nil, hc => exact mi_seq C (h1 a rfl iter rfl)
    | .cons a (.cons b l), hc => simp [chkL] at hc
    | .cons a (.var _), hc => simp [chkL] at hc
    | .cons a (.lit _), hc => simp [chkL] at hc
    | .cons a (.glb _ _), hc => simp [chkL] at hc
    | .cons a (.pow _ _), hc => simp [chkL] at hc
    | .cons a (.neg _), hc => simp [chkL] at hc
    | .cons a (.not _), hc => simp [chkL] at hc
    | .cons a (.bin _ _ _), hc => simp [chkL] at hc
    | .cons a (.cmp _ _ _), hc => simp [chkL] at hc
    | .cons a (.chn _ _ _ _ _), hc => simp [chkL] at hc
    | .cons a (.isN _), hc => simp [chkL] at hc
    | .cons a (.isnN _), hc => simp [chkL] at hc
    | .cons a (.and _ _), hc => simp [chkL] at hc
    | .cons a (.or _ _), hc => simp [chkL] at hc
    | .cons a (.ife _ _ _), hc => simp [chkL] at hc
    | .cons a (.tup _), hc => simp [chkL] at hc
    | .cons a (.lst _), hc => simp [chkL] at hc
    | .cons a (.cel _), hc => simp [chkL] at hc
    | .cons a (.idx _ _), hc => simp [chkL] at hc
    | .cons a (.slc _ _ _), hc => simp [chkL] at hc
    | .cons a (.call _ _), hc => simp [chkL] at hc
    | .cons a (.blt _ _), hc => simp [chkL] at hc
    | .cons a (.isi _ _), hc => simp [chkL] at hc
    | .cons a (.lc _ _ _ _ _ _), hc => simp [chkL] at hc
    | .cons a (.ck _ _ _), hc => simp [chkL] at hc
    | .cons a (.ex _ _), hc => simp [chkL] at hc
    | .cons a (.mth _ _ _), hc => simp [chkL] at hc
    | .cons a (.lk _ _), hc => simp [chkL] at hc
    | .cons a (.cl _), hc => simp [chkL] at hc
    | .nil, hc => simp [chkL] at hc
  | items =>
    unfold iterArgs at hi
    simp only at hi
    split at hi
    · split at hi
      · rename_i x m ap cp hx
        cases hi
        simp only [Bool.and_eq_true] at hx
        obtain ⟨⟨⟨h2, h3⟩, h4⟩, h5⟩ := hx
        have e1 := eq_of_beq h2
        subst e1
        obtain ⟨a, rfl⟩ := chkL_one hc
        cases tg <;> first | (cases h5; done) | skip
        exact mi_items C h3 (attributeBase_ok h4) (h1 a rfl x rfl)
      · cases hi
    · cases hi
  | enum =>
    unfold iterArgs at hi
    simp only at hi
    split at hi
    · rename_i x p e pos
      split at hi
      · rename_i hx
        cases hi
        simp only [Bool.and_eq_true] at hx
        have e1 := eq_of_beq hx.1.1
        subst e1
        cases tg <;> first | (cases hx.2; done) | skip
        exact mi_enum C (glB_ok hx.1.2) hl (by simpa using hst) hln
      · cases hi
    · cases hi
  | zip =>
    unfold iterArgs at hi
    simp only at hi
    split at hi
    · rename_i x p e e' pos
      split at hi
      · rename_i hx
        cases hi
        simp only [Bool.and_eq_true] at hx
        have e1 := eq_of_beq hx.1.1
        subst e1
        cases tg <;> first | (cases hx.2; done) | skip
        simp only [List.all_cons, List.all_nil, Bool.and_eq_true, Bool.and_true] at hst
        exact mi_zip C (glB_ok hx.1.2) hl hst.1 hst.2 hln
      · cases hi
    · cases hi
  | rng =>
    unfold iterArgs at hi
    simp only at hi
    split at hi
    · rename_i x p e pos
      split at hi
      · rename_i hx
        cases hi
        simp only [Bool.and_eq_true] at hx
        have e1 := eq_of_beq hx.1
        subst e1
        exact mi_rng1 C (glB_ok hx.2) hl (by simpa using hst) hln
      · cases hi
    · rename_i x p e e' pos
      split at hi
      · rename_i hx
        cases hi
        simp only [Bool.and_eq_true] at hx
        have e1 := eq_of_beq hx.1
        subst e1
        simp only [List.all_cons, List.all_nil, Bool.and_eq_true, Bool.and_true] at hst
        exact mi_rng2 C (glB_ok hx.2) hl hst.1 hst.2 hln
      · cases hi
    · cases hi
/-- a test's form -/
def isBO : Expr → Bool
  | .BoolOp .. => true
  | _ => false
theorem xArgs_nb {sc : Scope} {o : XO} {e : Expr} {es : List Expr} (h : xArgs sc o e = some es) : isBO e = false := by
  cases o
  all_goals
    simp only [xArgs] at h
    split at h
    · rfl
    · cases h
theorem mArgs_nb {o : MO} {e : Expr} {z : Expr × List Expr} (h : mArgs o e = some z) : isBO e = false := by
  cases o
  all_goals
    simp only [mArgs] at h
    split at h
    · rfl
    · cases h
theorem mArgs_plain {o : MO} {e : Expr} {z : Expr × List Expr} (h : mArgs o e = some z) : plainTest e = true := by
  cases o
  all_goals
    simp only [mArgs] at h
    split at h
    · rfl
    · cases h
theorem testOk_all {n : Nat} {op : BoolOp} {vs : List Expr} {p : Pos} (h : testOk (n + 1) (.BoolOp op vs p) = true) : vs.all (testOk n) = true := h
theorem opOf_eq {op : Operator} {o : BO} (h : (op == opOf o) = true) : op = opOf o := eq_of_beq h
mutual
theorem sndE : ∀ (m : E) {e : Expr} {X : Cx} {sc : Scope} {WE : WX}, Cxt Γ X N sc WE cf → chkE N Γ.cs Γ.fname sc m e = true → PE X e (rdE Γ.W WE (ev cf m))
  | .var i, e, X, sc, WE, C, h => by
    unfold chkE at h
    split at h
    · simp only [Bool.and_eq_true, decide_eq_true_eq] at h
      obtain ⟨k, hk, hk2⟩ := visB_ok h.1.2
      exact me_var C h.1.1 hk hk2 h.2
    · cases h
  | .lit c, e, X, sc, WE, C, h => by
    unfold chkE at h
    split at h
    · exact me_const h
    · cases h
  | .glb x c, e, X, sc, WE, C, h => by
    unfold chkE at h
    split at h
    · simp only [Bool.and_eq_true, decide_eq_true_eq] at h
      have e1 := eq_of_beq h.1.1.1
      subst e1
      exact me_glb C h.1.1.2 (glB_ok h.1.2) h.2
    · cases h
  | .pow a b, e, X, sc, WE, C, h => by
    unfold chkE at h
    split at h
    · simp only [Bool.and_eq_true, decide_eq_true_eq] at h
      obtain ⟨⟨⟨rfl, rfl⟩, hb⟩, ha⟩ := h
      refine PE.imp (pe_op op_pow (pe_int (i := (a : Int))) (pe_int (i := (b : Int)))) fun σ H Q hh => ?_
      obtain ⟨ι, env, h, m, e, p⟩ := hh
      refine ⟨_, _, rfl, rfl, ⟨by omega, by omega, by omega⟩, ?_⟩
      exact Post.here (a := D.int ((a : Int) ^ b)) p m (by simpa using Rep.int _)
    · cases h
  | .neg a, e, X, sc, WE, C, h => by
    unfold chkE at h
    split at h
    · exact me_neg (sndE a C h)
    · cases h
  | .not a, e, X, sc, WE, C, h => by
    unfold chkE at h
    split at h
    · exact me_not C (sndE a C h)
    · cases h
  | .bin o a b, e, X, sc, WE, C, h => by
    unfold chkE at h
    split at h
    · simp only [Bool.and_eq_true] at h
      rw [eq_of_beq h.1.1]
      exact me_bin C (sndE a C h.1.2) (sndE b C h.2)
    · cases h
  | .cmp o a b, e, X, sc, WE, C, h => by
    unfold chkE at h
    split at h
    · simp only [Bool.and_eq_true] at h
      rw [eq_of_beq h.1.1.1]
      exact me_cmp C (sndE a C h.1.2) (sndE b C h.2) h.1.1.2
    · cases h
  | .chn o p a b c, e, X, sc, WE, C, h => by
    unfold chkE at h
    split at h
    · simp only [Bool.and_eq_true] at h
      rw [eq_of_beq h.1.1.1.1.1, eq_of_beq h.1.1.1.1.2]
      exact me_chn C (sndE a C h.1.1.2) (sndE b C h.1.2) (sndE c C h.2) h.1.1.1.2
    · cases h
  | .isN a, e, X, sc, WE, C, h => by
    unfold chkE at h
    split at h
    · exact pe_cmp (me_isN (sndE a C h)) rfl
    · cases h
  | .isnN a, e, X, sc, WE, C, h => by
    unfold chkE at h
    split at h
    · exact pe_cmp (me_isnN (sndE a C h)) rfl
    · cases h
  | .and a b, e, X, sc, WE, C, h => by
    unfold chkE at h
    split at h
    · rw [Bool.and_eq_true] at h
      exact me_and C (sndE a C h.1) (pe_one (sndE b C h.2))
    · rw [Bool.and_eq_true] at h
      exact me_and C (sndE a C h.1) (sndE b C h.2)
    · cases h
  | .or a b, e, X, sc, WE, C, h => by
    unfold chkE at h
    split at h
    · rw [Bool.and_eq_true] at h
      exact me_or C (sndE a C h.1) (pe_one (sndE b C h.2))
    · rw [Bool.and_eq_true] at h
      exact me_or C (sndE a C h.1) (sndE b C h.2)
    · cases h
  | .ife c a b, e, X, sc, WE, C, h => by
    unfold chkE at h
    split at h
    · simp only [Bool.and_eq_true] at h
      exact PE.imp (me_ife (sndT c C h.1.1.1 h.1.1.2 (sndE c C h.1.1.2)).1 (sndE a C h.1.2) (sndE b C h.2)) fun σ H Q hh => by
        obtain ⟨ι, env, h0, m, e, p⟩ := hh
        refine ⟨ι, env, h0, m, e, ?_⟩
        have p : Post Γ.W (Rep Γ.W) ι H ((ev cf c env h0).bnd fun x => bnd (trM x) fun k => if k then ev cf a env else ev cf b env) Q (fun c d H' => WE c d σ H') := p
        show Post Γ.W (Rep Γ.W) ι H (((ev cf c env h0).bnd trM).bnd fun x => if x then ev cf a env else ev cf b env) Q _
        cases q : ev cf c env h0 with
        | ok d h1 => rw [q] at p; exact p
        | exn d h1 => rw [q] at p; exact p
        | bad => rw [q] at p; exact p
    · cases h
  | .tup l, e, X, sc, WE, C, h => by
    unfold chkE at h
    split at h
    · exact me_tup (sndL l C h)
    · cases h
  | .lst l, e, X, sc, WE, C, h => by
    unfold chkE at h
    split at h
    · exact me_lst (sndL l C h)
    · cases h
  | .cel l, e, X, sc, WE, C, h => by
    unfold chkE at h
    split at h
    · exact me_cel (sndL l C h)
    · cases h
  | .idx a b, e, X, sc, WE, C, h => by
    unfold chkE at h
    split at h
    · simp only [Bool.and_eq_true] at h
      exact me_idx C (sndE a C h.1.2) (sndE b C h.2) h.1.1
    · cases h
  | .slc a lo hi, e, X, sc, WE, C, h => by
    unfold chkE at h
    split at h
    · simp only [Bool.and_eq_true] at h
      exact me_slc C (sndE a C h.1.1) (sndO lo C h.1.2) (sndO hi C h.2)
    · cases h
  | .call f l, e, X, sc, WE, C, h => by
    unfold chkE at h
    split at h
    · rename_i x es hc
      simp only [Bool.and_eq_true, decide_eq_true_eq] at h
      unfold callArgs at hc
      split at hc
      · cases hc
        cases q : Γ.fname f with
        | none => rw [q] at h; simp at h
        | some y =>
          obtain ⟨y, ps⟩ := y
          have e1 : y = x := by
            have z := h.1.1.1
            rw [q] at z
            exact Option.some.inj z
          subst e1
          exact me_call C q (glB_ok h.1.1.2) h.1.2 (sndL l C h.2) (chkL_star h.2)
      · cases hc
    · cases h
  | .blt b l, e, X, sc, WE, C, h => by
    unfold chkE at h
    split at h
    · rename_i x es hc
      simp only [Bool.and_eq_true] at h
      unfold callArgs at hc
      split at hc
      · cases hc
        have e1 := eq_of_beq h.1.1
        subst e1
        exact me_blt C (glB_ok h.1.2) (sndL l C h.2) (chkL_star h.2)
      · cases hc
    · cases h
  | .isi a t, e, X, sc, WE, C, h => by
    unfold chkE at h
    split at h
    · simp only [Bool.and_eq_true] at h
      have e1 := eq_of_beq h.1.1.1.1.1
      have e2 := eq_of_beq h.1.1.1.1.2
      subst e1
      subst e2
      exact me_isi C (sndE a C h.2) h.1.2 (glB_ok h.1.1.1.2) (glB_ok h.1.1.2)
    · cases h
  | .lc own elt t k l c, e, X, sc, WE, C, h => by
    unfold chkE at h
    split at h
    · rename_i el tg iter ifs asy scope pos
      simp only [Bool.and_eq_true, decide_eq_true_eq] at h
      obtain ⟨⟨⟨⟨⟨⟨⟨rfl, h1⟩, h2⟩, h3⟩, h4⟩, h5⟩, h6⟩, h7⟩ := h
      have hk : scope.kind = .function := (blkOk_by h2).kind
      have hown : (ownN N own).map (·.2) = own := by
        unfold ownN
        rw [List.map_map]
        exact List.map_id' own
      split at h5
      · rename_i es hes
        have hI := sndI C hes h5 (sndL l C h5) (fun a e1 e he => by
          subst e1
          subst he
          simp only [chkL, Bool.and_eq_true] at h5
          exact sndE a C h5.1.2)
        have hT : ∀ (s : Shared) (H : Hp) (D : Addr) (cl : List (Str × Addr)) (fp : List Addr), PTs (X.blk s H scope (compEnvC scope cl D X.env) fp) ifs (rdT Γ.W WE0 (condF (fun env' => ev cf c env') c)) := fun s H D cl fp => by
          have Cb := C.blk (s := s) (H := H) (D := D) (cl := cl) (fp := fp) hk
          match ifs, h7 with
          | [], h7 =>
            have hn : PTs (X.blk s H scope (compEnvC scope cl D X.env) fp) [] tYes := pts_nil
            refine ⟨fun pins s σ H Q I hh => hn.run pins s σ H Q I ?_⟩
            obtain ⟨ι, env, h0, m, e, p⟩ := hh
            cases c <;> first | exact Post.here (a := true) p m rfl | (simp at h7; done)
          | [i], h7 =>
            simp only [Bool.and_eq_true] at h7
            have q := pts_one (sndT c Cb h7.1 h7.2 (sndE c Cb h7.2)).1
            cases c <;> first | exact q | (simp [chkE] at h7; done)
          | _ :: _ :: _, h7 => simp at h7
        have hE : ∀ (s : Shared) (H : Hp) (D : Addr) (cl : List (Str × Addr)) (fp : List Addr), PE (X.blk s H scope (compEnvC scope cl D X.env) fp) el (rdE Γ.W WE0 (ev cf elt)) := fun s H D cl fp => sndE elt (C.blk hk) h6
        have q := me_lc (own := ownN N own) (pos := pos) C hI (blkOk_cxt C h2) (fun s H D cl fp => sndTg (C.blk hk) h4) hT hE h1 (by
          rw [hown]
          intro i hi
          have := List.all_eq_true.mp h3 i hi
          simpa using this)
        rw [hown] at q
        refine PE.imp q fun σ H Q hh => ?_
        obtain ⟨ι, env, h0, m, e, p⟩ := hh
        refine ⟨ι, env, h0, m, e, ?_⟩
        have p : Post Γ.W (Rep Γ.W) ι H ((evL cf l env h0).bnd fun ds => bnd (src k ds) fun s => bnd (lcN s t own (condF (fun env' => ev cf c env') c) (fun env' => ev cf elt env') env s.count 0 []) fun xs => ret (.lst xs)) Q (fun c d H' => WE c d σ H') := p
        show Post Γ.W (Rep Γ.W) ι H (((evL cf l env h0).bnd (src k)).bnd fun s => bnd (lcN s t own (condF (fun env' => ev cf c env') c) (ev cf elt) env s.count 0 []) fun xs => ret (.lst xs)) Q _
        cases q : evL cf l env h0 with
        | ok d h1 => rw [q] at p; exact p
        | exn d h1 => rw [q] at p; exact p
        | bad => rw [q] at p; exact p
      · cases h5
    · cases h
  | .cl (.lc own elt t k l c), e, X, sc, WE, C, h => by
    unfold chkE at h
    rw [Bool.and_eq_true] at h
    replace h := h.2
    unfold chkE at h
    split at h
    · rename_i el tg iter ifs asy scope pos
      simp only [Bool.and_eq_true, decide_eq_true_eq] at h
      obtain ⟨⟨⟨⟨⟨⟨⟨rfl, h1⟩, h2⟩, h3⟩, h4⟩, h5⟩, h6⟩, h7⟩ := h
      have hk : scope.kind = .function := (blkOk_by h2).kind
      have hown : (ownN N own).map (·.2) = own := by
        unfold ownN
        rw [List.map_map]
        exact List.map_id' own
      split at h5
      · rename_i es hes
        have hI := sndI C hes h5 (sndL l C h5) (fun a e1 e he => by
          subst e1
          subst he
          simp only [chkL, Bool.and_eq_true] at h5
          exact sndE a C h5.1.2)
        have hT : ∀ (s : Shared) (H : Hp) (D : Addr) (cl : List (Str × Addr)) (fp : List Addr), PTs (X.blk s H scope (compEnvC scope cl D X.env) fp) ifs (rdT Γ.W WE0 (condF (fun env' => ev cf c env') c)) := fun s H D cl fp => by
          have Cb := C.blk (s := s) (H := H) (D := D) (cl := cl) (fp := fp) hk
          match ifs, h7 with
          | [], h7 =>
            have hn : PTs (X.blk s H scope (compEnvC scope cl D X.env) fp) [] tYes := pts_nil
            refine ⟨fun pins s σ H Q I hh => hn.run pins s σ H Q I ?_⟩
            obtain ⟨ι, env, h0, m, e, p⟩ := hh
            cases c <;> first | exact Post.here (a := true) p m rfl | (simp at h7; done)
          | [i], h7 =>
            simp only [Bool.and_eq_true] at h7
            have q := pts_one (sndT c Cb h7.1 h7.2 (sndE c Cb h7.2)).1
            cases c <;> first | exact q | (simp [chkE] at h7; done)
          | _ :: _ :: _, h7 => simp at h7
        have hE : ∀ (s : Shared) (H : Hp) (D : Addr) (cl : List (Str × Addr)) (fp : List Addr), PE (X.blk s H scope (compEnvC scope cl D X.env) fp) el (rdE Γ.W WE0 (ev cf elt)) := fun s H D cl fp => sndE elt (C.blk hk) h6
        have q := me_lcC (own := ownN N own) (pos := pos) C hI (blkOk_cxt C h2) (fun s H D cl fp => sndTg (C.blk hk) h4) hT hE h1 (by
          rw [hown]
          intro i hi
          have := List.all_eq_true.mp h3 i hi
          simpa using this)
        rw [hown] at q
        refine PE.imp q fun σ H Q hh => ?_
        obtain ⟨ι, env, h0, m, e, p⟩ := hh
        refine ⟨ι, env, h0, m, e, ?_⟩
        have p : Post Γ.W (Rep Γ.W) ι H (((evL cf l env h0).bnd fun ds => bnd (src k ds) fun s => bnd (lcN s t own (condF (fun env' => ev cf c env') c) (fun env' => ev cf elt env') env s.count 0 []) fun xs => ret (.lst xs)).bnd cellOf) Q (fun c d H' => WE c d σ H') := p
        show Post Γ.W (Rep Γ.W) ι H ((((evL cf l env h0).bnd (src k)).bnd fun s => bnd (lcN s t own (condF (fun env' => ev cf c env') c) (ev cf elt) env s.count 0 []) fun xs => ret (.lst xs)).bnd cellOf) Q _
        cases q : evL cf l env h0 with
        | ok d h1 => rw [q] at p; exact p
        | exn d h1 => rw [q] at p; exact p
        | bad => rw [q] at p; exact p
      · cases h5
    · cases h
  | .cl (.var _), e, X, sc, WE, C, h => by simp [chkE, isLc] at h
  | .cl (.lit _), e, X, sc, WE, C, h => by simp [chkE, isLc] at h
  | .cl (.glb _ _), e, X, sc, WE, C, h => by simp [chkE, isLc] at h
  | .cl (.pow _ _), e, X, sc, WE, C, h => by simp [chkE, isLc] at h
  | .cl (.neg _), e, X, sc, WE, C, h => by simp [chkE, isLc] at h
  | .cl (.not _), e, X, sc, WE, C, h => by simp [chkE, isLc] at h
  | .cl (.bin _ _ _), e, X, sc, WE, C, h => by simp [chkE, isLc] at h
  | .cl (.cmp _ _ _), e, X, sc, WE, C, h => by simp [chkE, isLc] at h
  | .cl (.chn _ _ _ _ _), e, X, sc, WE, C, h => by simp [chkE, isLc] at h
  | .cl (.isN _), e, X, sc, WE, C, h => by simp [chkE, isLc] at h
  | .cl (.isnN _), e, X, sc, WE, C, h => by simp [chkE, isLc] at h
  | .cl (.and _ _), e, X, sc, WE, C, h => by simp [chkE, isLc] at h
  | .cl (.or _ _), e, X, sc, WE, C, h => by simp [chkE, isLc] at h
  | .cl (.ife _ _ _), e, X, sc, WE, C, h => by simp [chkE, isLc] at h
  | .cl (.tup _), e, X, sc, WE, C, h => by simp [chkE, isLc] at h
  | .cl (.lst _), e, X, sc, WE, C, h => by simp [chkE, isLc] at h
  | .cl (.cel _), e, X, sc, WE, C, h => by simp [chkE, isLc] at h
  | .cl (.idx _ _), e, X, sc, WE, C, h => by simp [chkE, isLc] at h
  | .cl (.slc _ _ _), e, X, sc, WE, C, h => by simp [chkE, isLc] at h
  | .cl (.call _ _), e, X, sc, WE, C, h => by simp [chkE, isLc] at h
  | .cl (.blt _ _), e, X, sc, WE, C, h => by simp [chkE, isLc] at h
  | .cl (.isi _ _), e, X, sc, WE, C, h => by simp [chkE, isLc] at h
  | .cl (.ck _ _ _), e, X, sc, WE, C, h => by simp [chkE, isLc] at h
  | .cl (.ex _ _), e, X, sc, WE, C, h => by simp [chkE, isLc] at h
  | .cl (.mth _ _ _), e, X, sc, WE, C, h => by simp [chkE, isLc] at h
  | .cl (.lk _ _), e, X, sc, WE, C, h => by simp [chkE, isLc] at h
  | .cl (.cl _), e, X, sc, WE, C, h => by simp [chkE, isLc] at h
  | .cl (.nil), e, X, sc, WE, C, h => by simp [chkE, isLc] at h
  | .cl (.cons _ _), e, X, sc, WE, C, h => by simp [chkE, isLc] at h
  | .ck f ix l, e, X, sc, WE, C, h => by
    unfold chkE at h
    split at h
    · split at h
      · rename_i hf
        simp only [Bool.and_eq_true] at h
        obtain ⟨⟨⟨⟨⟨h1, h2⟩, h3⟩, h4⟩, h5⟩, h6⟩ := h
        have e1 := eq_of_beq h1
        subst e1
        have hl := chkL_len (cf := cf) h6
        rw [List.length_map] at hl
        exact me_callK C hf (glB_ok h2) h3 h4 h5 hl (sndA l C h6).pk
      · cases h
    · cases h
  | .ex o l, e, X, sc, WE, C, h => by
    unfold chkE at h
    split at h
    · rename_i hx
      exact me_x C hx (sndA l C h)
    · cases h
  | .lk v a, e, X, sc, WE, C, h => by
    unfold chkE at h
    rw [Bool.and_eq_true] at h
    exact me_lk (sndE a C h.2)
  | .mth o a l, e, X, sc, WE, C, h => by
    unfold chkE at h
    split at h
    · rename_i hx
      rw [Bool.and_eq_true] at h
      exact me_mth C hx (sndE a C h.1) (sndA l C h.2)
    · cases h
  | .nil, e, X, sc, WE, C, h => by simp [chkE] at h
  | .cons _ _, e, X, sc, WE, C, h => by simp [chkE] at h
theorem sndL : ∀ (m : E) {es : List Expr} {X : Cx} {sc : Scope} {WE : WX}, Cxt Γ X N sc WE cf → chkL N Γ.cs Γ.fname sc m es = true → PA X es (rdL Γ.W WE (evL cf m))
  | .nil, es, X, sc, WE, C, h => by
    cases es with
    | nil => exact ml_nil
    | cons _ _ => simp [chkL] at h
  | .cons a l, es, X, sc, WE, C, h => by
    cases es with
    | nil => simp [chkL] at h
    | cons e r =>
      simp only [chkL, Bool.and_eq_true] at h
      exact ml_cons (sndE a C h.1.2) (sndL l C h.2) h.1.1
  | .var _, _, _, _, _, _, h => by simp [chkL] at h
  | .lit _, _, _, _, _, _, h => by simp [chkL] at h
  | .glb _ _, _, _, _, _, _, h => by simp [chkL] at h
  | .pow _ _, _, _, _, _, _, h => by simp [chkL] at h
  | .neg _, _, _, _, _, _, h => by simp [chkL] at h
  | .not _, _, _, _, _, _, h => by simp [chkL] at h
  | .bin _ _ _, _, _, _, _, _, h => by simp [chkL] at h
  | .cmp _ _ _, _, _, _, _, _, h => by simp [chkL] at h
  | .chn _ _ _ _ _, _, _, _, _, _, h => by simp [chkL] at h
  | .isN _, _, _, _, _, _, h => by simp [chkL] at h
  | .isnN _, _, _, _, _, _, h => by simp [chkL] at h
  | .and _ _, _, _, _, _, _, h => by simp [chkL] at h
  | .or _ _, _, _, _, _, _, h => by simp [chkL] at h
  | .ife _ _ _, _, _, _, _, _, h => by simp [chkL] at h
  | .tup _, _, _, _, _, _, h => by simp [chkL] at h
  | .lst _, _, _, _, _, _, h => by simp [chkL] at h
  | .cel _, _, _, _, _, _, h => by simp [chkL] at h
  | .idx _ _, _, _, _, _, _, h => by simp [chkL] at h
  | .slc _ _ _, _, _, _, _, _, h => by simp [chkL] at h
  | .call _ _, _, _, _, _, _, h => by simp [chkL] at h
  | .blt _ _, _, _, _, _, _, h => by simp [chkL] at h
  | .isi _ _, _, _, _, _, _, h => by simp [chkL] at h
  | .lc _ _ _ _ _ _, _, _, _, _, _, h => by simp [chkL] at h
  | .ck _ _ _, _, _, _, _, _, h => by simp [chkL] at h
  | .ex _ _, _, _, _, _, _, h => by simp [chkL] at h
  | .mth _ _ _, _, _, _, _, _, h => by simp [chkL] at h
  | .lk _ _, _, _, _, _, _, h => by simp [chkL] at h
  | .cl _, _, _, _, _, _, h => by simp [chkL] at h
theorem sndA : ∀ (m : E) {es : List Expr} {X : Cx} {sc : Scope} {WE : WX}, Cxt Γ X N sc WE cf → chkL N Γ.cs Γ.fname sc m es = true → Args Γ X WE cf m es
  | .nil, es, X, sc, WE, C, h => by
    cases es with
    | nil => exact .nil
    | cons _ _ => simp [chkL] at h
  | .cons a l, es, X, sc, WE, C, h => by
    cases es with
    | nil => simp [chkL] at h
    | cons e r =>
      simp only [chkL, Bool.and_eq_true] at h
      exact .cons (sndE a C h.1.2) h.1.1 (sndA l C h.2)
  | .var _, _, _, _, _, _, h => by simp [chkL] at h
  | .lit _, _, _, _, _, _, h => by simp [chkL] at h
  | .glb _ _, _, _, _, _, _, h => by simp [chkL] at h
  | .pow _ _, _, _, _, _, _, h => by simp [chkL] at h
  | .neg _, _, _, _, _, _, h => by simp [chkL] at h
  | .not _, _, _, _, _, _, h => by simp [chkL] at h
  | .bin _ _ _, _, _, _, _, _, h => by simp [chkL] at h
  | .cmp _ _ _, _, _, _, _, _, h => by simp [chkL] at h
  | .chn _ _ _ _ _, _, _, _, _, _, h => by simp [chkL] at h
  | .isN _, _, _, _, _, _, h => by simp [chkL] at h
  | .isnN _, _, _, _, _, _, h => by simp [chkL] at h
  | .and _ _, _, _, _, _, _, h => by simp [chkL] at h
  | .or _ _, _, _, _, _, _, h => by simp [chkL] at h
  | .ife _ _ _, _, _, _, _, _, h => by simp [chkL] at h
  | .tup _, _, _, _, _, _, h => by simp [chkL] at h
  | .lst _, _, _, _, _, _, h => by simp [chkL] at h
  | .cel _, _, _, _, _, _, h => by simp [chkL] at h
  | .idx _ _, _, _, _, _, _, h => by simp [chkL] at h
  | .slc _ _ _, _, _, _, _, _, h => by simp [chkL] at h
  | .call _ _, _, _, _, _, _, h => by simp [chkL] at h
  | .blt _ _, _, _, _, _, _, h => by simp [chkL] at h
  | .isi _ _, _, _, _, _, _, h => by simp [chkL] at h
  | .lc _ _ _ _ _ _, _, _, _, _, _, h => by simp [chkL] at h
  | .ck _ _ _, _, _, _, _, _, h => by simp [chkL] at h
  | .ex _ _, _, _, _, _, _, h => by simp [chkL] at h
  | .mth _ _ _, _, _, _, _, _, h => by simp [chkL] at h
  | .lk _ _, _, _, _, _, _, h => by simp [chkL] at h
  | .cl _, _, _, _, _, _, h => by simp [chkL] at h
theorem sndO : ∀ (m : E) {e : Option Expr} {X : Cx} {sc : Scope} {WE : WX}, Cxt Γ X N sc WE cf → chkO N Γ.cs Γ.fname sc m e = true → PO X e (rd Γ.W WE (fun _ _ a b => a = b) (evO cf m))
  | .nil, e, X, sc, WE, C, h => by
    cases e with
    | none => exact mo_none
    | some _ => simp [chkO] at h
  | .cons a l, e, X, sc, WE, C, h => by
    cases e with
    | none => simp [chkO] at h
    | some x =>
      simp only [chkO] at h
      exact mo_some (sndE a C h)
  | .var _, _, _, _, _, _, h => by simp [chkO] at h
  | .lit _, _, _, _, _, _, h => by simp [chkO] at h
  | .glb _ _, _, _, _, _, _, h => by simp [chkO] at h
  | .pow _ _, _, _, _, _, _, h => by simp [chkO] at h
  | .neg _, _, _, _, _, _, h => by simp [chkO] at h
  | .not _, _, _, _, _, _, h => by simp [chkO] at h
  | .bin _ _ _, _, _, _, _, _, h => by simp [chkO] at h
  | .cmp _ _ _, _, _, _, _, _, h => by simp [chkO] at h
  | .chn _ _ _ _ _, _, _, _, _, _, h => by simp [chkO] at h
  | .isN _, _, _, _, _, _, h => by simp [chkO] at h
  | .isnN _, _, _, _, _, _, h => by simp [chkO] at h
  | .and _ _, _, _, _, _, _, h => by simp [chkO] at h
  | .or _ _, _, _, _, _, _, h => by simp [chkO] at h
  | .ife _ _ _, _, _, _, _, _, h => by simp [chkO] at h
  | .tup _, _, _, _, _, _, h => by simp [chkO] at h
  | .lst _, _, _, _, _, _, h => by simp [chkO] at h
  | .cel _, _, _, _, _, _, h => by simp [chkO] at h
  | .idx _ _, _, _, _, _, _, h => by simp [chkO] at h
  | .slc _ _ _, _, _, _, _, _, h => by simp [chkO] at h
  | .call _ _, _, _, _, _, _, h => by simp [chkO] at h
  | .blt _ _, _, _, _, _, _, h => by simp [chkO] at h
  | .isi _ _, _, _, _, _, _, h => by simp [chkO] at h
  | .lc _ _ _ _ _ _, _, _, _, _, _, h => by simp [chkO] at h
  | .ck _ _ _, _, _, _, _, _, h => by simp [chkO] at h
  | .ex _ _, _, _, _, _, _, h => by simp [chkO] at h
  | .mth _ _ _, _, _, _, _, _, h => by simp [chkO] at h
  | .lk _ _, _, _, _, _, _, h => by simp [chkO] at h
  | .cl _, _, _, _, _, _, h => by simp [chkO] at h
theorem sndT : ∀ (m : E) {e : Expr} {n : Nat} {X : Cx} {sc : Scope} {WE : WX}, Cxt Γ X N sc WE cf → testOk n e = true → chkE N Γ.cs Γ.fname sc m e = true → PE X e (rdE Γ.W WE (ev cf m)) → PT X e (rdT Γ.W WE fun env => bnd (ev cf m env) trM) ∧ (isBO e = true → PW X e (rdT Γ.W WE fun env => bnd (ev cf m env) trM))
  | .not a, e, n, X, sc, WE, C, ht, h, hE => by
    unfold chkE at h
    split at h
    · cases n with
      | zero => cases ht
      | succ n => exact ⟨mt_not (sndT a C (n := n) ht h (sndE a C h)).1, fun z => by cases z⟩
    · cases h
  | .and a b, e, n, X, sc, WE, C, ht, h, hE => by
    unfold chkE at h
    split at h
    · rename_i x y p
      rw [Bool.and_eq_true] at h
      cases n with
      | zero => cases ht
      | succ n =>
        have ht := testOk_all ht
        simp only [List.all_cons, List.all_nil, Bool.and_eq_true, Bool.and_true] at ht
        have q : PW X (.BoolOp .And [x, y] p) _ := mw_and (sndT a C ht.1 h.1 (sndE a C h.1)).1 (pw_and1 (sndT b C ht.2 h.2 (sndE b C h.2)).1)
        exact ⟨q.pt, fun _ => q⟩
    · rename_i x y z r p
      rw [Bool.and_eq_true] at h
      cases n with
      | zero => cases ht
      | succ n =>
        have ht := testOk_all ht
        rw [List.all_cons, Bool.and_eq_true] at ht
        have ht2 : testOk (n + 1) (.BoolOp .And (y :: z :: r) p) = true := ht.2
        have q : PW X (.BoolOp .And (x :: y :: z :: r) p) _ := mw_and (sndT a C ht.1 h.1 (sndE a C h.1)).1 ((sndT b C ht2 h.2 (sndE b C h.2)).2 rfl)
        exact ⟨q.pt, fun _ => q⟩
    · cases h
  | .or a b, e, n, X, sc, WE, C, ht, h, hE => by
    unfold chkE at h
    split at h
    · rename_i x y p
      rw [Bool.and_eq_true] at h
      cases n with
      | zero => cases ht
      | succ n =>
        have ht := testOk_all ht
        simp only [List.all_cons, List.all_nil, Bool.and_eq_true, Bool.and_true] at ht
        have q : PW X (.BoolOp .Or [x, y] p) _ := mw_or (sndT a C ht.1 h.1 (sndE a C h.1)).1 (pw_or1 (sndT b C ht.2 h.2 (sndE b C h.2)).1)
        exact ⟨q.pt, fun _ => q⟩
    · rename_i x y z r p
      rw [Bool.and_eq_true] at h
      cases n with
      | zero => cases ht
      | succ n =>
        have ht := testOk_all ht
        rw [List.all_cons, Bool.and_eq_true] at ht
        have ht2 : testOk (n + 1) (.BoolOp .Or (y :: z :: r) p) = true := ht.2
        have q : PW X (.BoolOp .Or (x :: y :: z :: r) p) _ := mw_or (sndT a C ht.1 h.1 (sndE a C h.1)).1 ((sndT b C ht2 h.2 (sndE b C h.2)).2 rfl)
        exact ⟨q.pt, fun _ => q⟩
    · cases h
  | .cmp o a b, e, n, X, sc, WE, C, ht, h, hE => by
    unfold chkE at h
    split at h
    · simp only [Bool.and_eq_true] at h
      rw [eq_of_beq h.1.1.1]
      exact ⟨mt_cmp C (sndE a C h.1.2) (sndE b C h.2) h.1.1.2, fun z => by cases z⟩
    · cases h
  | .chn o p a b c, e, n, X, sc, WE, C, ht, h, hE => by
    unfold chkE at h
    split at h
    · simp only [Bool.and_eq_true] at h
      rw [eq_of_beq h.1.1.1.1.1, eq_of_beq h.1.1.1.1.2]
      exact ⟨mt_chn C (sndE a C h.1.1.2) (sndE b C h.1.2) (sndE c C h.2) h.1.1.1.2, fun z => by cases z⟩
    · cases h
  | .isN a, e, n, X, sc, WE, C, ht, h, hE => by
    unfold chkE at h
    split at h
    · exact ⟨mt_isN (fun env h d h' e => by
        obtain ⟨x, h1, _, q⟩ := bnd_ok e
        cases q
        exact ⟨_, rfl⟩) (me_isN (sndE a C h)), fun z => by cases z⟩
    · cases h
  | .isnN a, e, n, X, sc, WE, C, ht, h, hE => by
    unfold chkE at h
    split at h
    · exact ⟨mt_isN (fun env h d h' e => by
        obtain ⟨x, h1, _, q⟩ := bnd_ok e
        cases q
        exact ⟨_, rfl⟩) (me_isnN (sndE a C h)), fun z => by cases z⟩
    · cases h
  | .var _, e, n, X, sc, WE, C, ht, h, hE => by
    unfold chkE at h
    split at h
    · exact ⟨mt_plain C hE rfl, fun z => by cases z⟩
    · cases h
  | .lit _, e, n, X, sc, WE, C, ht, h, hE => by
    unfold chkE at h
    split at h
    · exact ⟨mt_plain C hE rfl, fun z => by cases z⟩
    · cases h
  | .glb _ _, e, n, X, sc, WE, C, ht, h, hE => by
    unfold chkE at h
    split at h
    · exact ⟨mt_plain C hE rfl, fun z => by cases z⟩
    · cases h
  | .pow _ _, e, n, X, sc, WE, C, ht, h, hE => by
    unfold chkE at h
    split at h
    · exact ⟨mt_plain C hE rfl, fun z => by cases z⟩
    · cases h
  | .neg _, e, n, X, sc, WE, C, ht, h, hE => by
    unfold chkE at h
    split at h
    · exact ⟨mt_plain C hE rfl, fun z => by cases z⟩
    · cases h
  | .bin _ _ _, e, n, X, sc, WE, C, ht, h, hE => by
    unfold chkE at h
    split at h
    · exact ⟨mt_plain C hE rfl, fun z => by cases z⟩
    · cases h
  | .tup _, e, n, X, sc, WE, C, ht, h, hE => by
    unfold chkE at h
    split at h
    · exact ⟨mt_plain C hE rfl, fun z => by cases z⟩
    · cases h
  | .lst _, e, n, X, sc, WE, C, ht, h, hE => by
    unfold chkE at h
    split at h
    · exact ⟨mt_plain C hE rfl, fun z => by cases z⟩
    · cases h
  | .cel _, e, n, X, sc, WE, C, ht, h, hE => by
    unfold chkE at h
    split at h
    · exact ⟨mt_plain C hE rfl, fun z => by cases z⟩
    · cases h
  | .idx _ _, e, n, X, sc, WE, C, ht, h, hE => by
    unfold chkE at h
    split at h
    · exact ⟨mt_plain C hE rfl, fun z => by cases z⟩
    · cases h
  | .slc _ _ _, e, n, X, sc, WE, C, ht, h, hE => by
    unfold chkE at h
    split at h
    · exact ⟨mt_plain C hE rfl, fun z => by cases z⟩
    · cases h
  | .call _ _, e, n, X, sc, WE, C, ht, h, hE => by
    unfold chkE at h
    split at h
    · rename_i hc
      unfold callArgs at hc
      split at hc
      · exact ⟨mt_plain C hE rfl, fun z => by cases z⟩
      · cases hc
    · cases h
  | .blt _ _, e, n, X, sc, WE, C, ht, h, hE => by
    unfold chkE at h
    split at h
    · rename_i hc
      unfold callArgs at hc
      split at hc
      · exact ⟨mt_plain C hE rfl, fun z => by cases z⟩
      · cases hc
    · cases h
  | .isi _ _, e, n, X, sc, WE, C, ht, h, hE => by
    unfold chkE at h
    split at h
    · exact ⟨mt_plain C hE rfl, fun z => by cases z⟩
    · cases h
  | .ck _ _ _, e, n, X, sc, WE, C, ht, h, hE => by
    unfold chkE at h
    split at h
    · exact ⟨mt_plain C hE rfl, fun z => by cases z⟩
    · cases h
  | .cl a, e, n, X, sc, WE, C, ht, h, hE => by
    unfold chkE at h
    rw [Bool.and_eq_true] at h
    obtain ⟨h1, h⟩ := h
    cases a <;> first | (cases h1; done) | skip
    unfold chkE at h
    split at h
    · exact ⟨mt_plain C hE rfl, fun z => by cases z⟩
    · cases h
  | .lk _ _, e, n, X, sc, WE, C, ht, h, hE => by
    unfold chkE at h
    rw [Bool.and_eq_true] at h
    exact ⟨mt_plain C hE h.1, fun z => by
      have := h.1
      cases e <;> first | (cases z; done) | (cases this; done)⟩
  | .mth _ _ _, e, n, X, sc, WE, C, ht, h, hE => by
    unfold chkE at h
    split at h
    · rename_i hx
      exact ⟨mt_plain C hE (mArgs_plain hx), fun z => by rw [mArgs_nb hx] at z; cases z⟩
    · cases h
  | .ex _ _, e, n, X, sc, WE, C, ht, h, hE => by
    unfold chkE at h
    split at h
    · rename_i hx
      exact ⟨mt_plain C hE (xArgs_plain hx), fun z => by rw [xArgs_nb hx] at z; cases z⟩
    · cases h
  | .lc _ _ _ _ _ _, e, n, X, sc, WE, C, ht, h, hE => by
    unfold chkE at h
    split at h
    · exact ⟨mt_plain C hE rfl, fun z => by cases z⟩
    · cases h
  | .ife _ _ _, e, n, X, sc, WE, C, ht, h, hE => by
    unfold chkE at h
    split at h
    · cases n <;> cases ht
    · cases h
  | .nil, e, n, X, sc, WE, C, ht, h, hE => by simp [chkE] at h
  | .cons _ _, e, n, X, sc, WE, C, ht, h, hE => by simp [chkE] at h
end
end
end Mn

set_option maxHeartbeats 4000000
/-! Mn: statements that are checked are sound. -/
namespace Mn
open PySem L2
/-- a comprehension given to a name: stored by its own code, or not -/
def swapB (sc : Scope) (y : Str) (p : Pos) (v : Expr) : Bool := match v with
  | .ListComp _ _ s vp => sc.names.lookup y == some .local && p.line == vp.line && !(s.names.any fun (n, k) => n == y && (k == .local || k == .cell))
  | _ => false
def lcTg (e : E) (tg : Expr) : Bool := match e, tg with
  | .lc _ _ _ _ _ _, .Name _ _ => true
  | .lc _ _ _ _ _ _, .Tuple _ _ _ => true
  | _, _ => false
def lcTgC (e : E) (tg : Expr) : Bool := match e, tg with
  | .cl (.lc _ _ _ _ _ _), .Name _ _ => true
  | _, _ => false
theorem lcTgC_ok {e : E} {tg : Expr} (h : lcTgC e tg = true) : (∃ own elt t k l c, e = .cl (.lc own elt t k l c)) ∧ ∃ y p, tg = .Name y p := by
  unfold lcTgC at h
  split at h
  · exact ⟨⟨_, _, _, _, _, _, rfl⟩, ⟨_, _, rfl⟩⟩
  · cases h
theorem lcTg_ok {e : E} {tg : Expr} (h : lcTg e tg = true) : (∃ own elt t k l c, e = .lc own elt t k l c) ∧ ((∃ y p, tg = .Name y p) ∨ ∃ es k p, tg = .Tuple es k p) := by
  unfold lcTg at h
  split at h
  · exact ⟨⟨_, _, _, _, _, _, rfl⟩, .inl ⟨_, _, rfl⟩⟩
  · exact ⟨⟨_, _, _, _, _, _, rfl⟩, .inr ⟨_, _, _, rfl⟩⟩
  · cases h
section
variable (N : List Str) (cs : List (Str × Lit)) (fn : Nat → Option (Str × List Str))
mutual
def chkS (sc : Scope) : S → Stmt → Bool
  | .asg t e, s => (match s with
    | .Assign [tg] v _ => notStar tg && chkTg N sc t tg && noSwap sc tg v && chkE N cs fn sc e v && (notComp v || lcTg e tg || lcTgC e tg)
    | _ => false)
  | .par i j l, s => (match s with
    | .Assign [.Tuple [.Name x px, .Name y py] _ _] (.Tuple [a, b] _ _) _ => decide (N[i]? = some x) && decide (N[j]? = some y) && decide (i ≠ j) && decide (sc.names.lookup x = some .local) && decide (sc.names.lookup y = some .local) && !(x == y) &&
        (py.line == px.line) && !([a, b].all (foldedForSure 8)) && !([a, b].all (constantsAlone 8)) && chkL N cs fn sc l [a, b]
    | _ => false)
  | .par3 _ _ _ _, _ => false
  | .aug i o e, s => (match s with
    | .AugAssign (.Name x _) op v _ => op == opOf o && decide (N[i]? = some x) && locB sc x && chkE N cs fn sc e v
    | _ => false)
  | .augs a b o e, s => (match s with
    | .AugAssign (.Subscript x y _) op v _ => op == opOf o && notSlice y && chkE N cs fn sc a x && chkE N cs fn sc b y && chkE N cs fn sc e v
    | _ => false)
  | .sti a b e, s => (match s with
    | .Assign [.Subscript x y _] v _ => notSlice y && notComp v && chkE N cs fn sc a x && chkE N cs fn sc b y && chkE N cs fn sc e v
    | _ => false)
  | .dst a b e, s => (match s with
    | .Assign [.Subscript x y _] v _ => notComp v && chkE N cs fn sc a x && chkE N cs fn sc b y && chkE N cs fn sc e v
    | _ => false)
  | .unp a b j e, s => (match s with
    | .Assign [.Tuple [.Subscript x y p1, .Name n p2] kt p3] v _ => notSlice y && notComp v && noSwap sc (.Tuple [.Subscript x y p1, .Name n p2] kt p3) v && decide (N[j]? = some n) && locB sc n && chkE N cs fn sc a x && chkE N cs fn sc b y && chkE N cs fn sc e v
    | _ => false)
  | .app a e, s => (match s with
    | .Expr (.Call (.Attribute x m ap) [v] [] cp) _ => m == ("append" : Str) && (ap.endLine == cp.line) && baseOk x && notStar v && chkE N cs fn sc a x && chkE N cs fn sc e v
    | _ => false)
  | .exp e, s => (match s with
    | .Expr v _ => notComp v && chkE N cs fn sc e v
    | _ => false)
  | .rtn e, s => (match s with
    | .Return (some v) _ => chkE N cs fn sc e v
    | _ => false)
  | .rt0, s => (match s with
    | .Return none _ => true
    | _ => false)
  | .ite c t e, s => (match s with
    | .If v a b _ => testOk 8 v && chkE N cs fn sc c v && chkB sc t a && chkB sc e b
    | _ => false)
  | .for_ t k l b, s => (match s with
    | .For tg iter body [] _ => notSet iter && chkTg N sc t tg && (match iterArgs sc k iter tg with
        | some es => chkL N cs fn sc l es
        | none => false) && chkB sc b body
    | _ => false)
  | .whl c b, s => (match s with
    | .While v body [] _ => testOk 8 v && chkE N cs fn sc c v && chkB sc b body
    | _ => false)
  | .rai, s => (match s with
    | .Raise _ _ _ => true
    | _ => false)
  | .pas, s => (match s with
    | .Pass _ => true
    | _ => false)
  | .nil, _ => false
  | .seq _ _, _ => false
def chkB (sc : Scope) : S → List Stmt → Bool
  | .nil, ss => ss.isEmpty
  | .seq s r, ss => (match ss with
    | a :: b => chkS sc s a && chkB sc r b
    | [] => false)
  | _, _ => false
end
end
section
variable {Γ : Glob} {N : List Str} {cf : Nat → List D → M D}
theorem swapsWith_lc {X : Cx} {sc : Scope} {WE : WX} (C : Cxt Γ X N sc WE cf) {y : Str} {k : NameKind} {py : Pos} {el : Expr} {gs : List Comprehension} {scope : Scope} {vp : Pos} {n : Nat} (hy : sc.names.lookup y = some k) (hk : k = .local ∨ k = .cell) :
    swapsWith (.ListComp el gs scope vp) (some (.Name y py)) n X.env = pure (swapB sc y py (.ListComp el gs scope vp)) := by
  have kk : X.env.blockKind = .function := by unfold Env.blockKind; rw [C.kind]; rfl
  have ky : X.env.kindOf y = sc.names.lookup y := by
    rw [hy]
    exact (C.loc y k hy hk).1
  show (pure (X.env.blockKind == .function && X.env.kindOf y == some .local && py.line == vp.line && !(scope.names.any fun (n, k) => n == y && (k == .local || k == .cell))) : Sem Bool) = _
  rw [kk, ky]
  rfl
theorem snd_asg {X : Cx} {sc : Scope} {WE : WX} (C : Cxt Γ X N sc WE cf) {t : Tg} {e : E} {tg v : Expr} {p : Pos} (h1 : notStar tg = true) (h2 : chkTg N sc t tg = true) (h3 : noSwap sc tg v = true) (h4 : chkE N Γ.cs Γ.fname sc e v = true) (h5 : (notComp v || lcTg e tg || lcTgC e tg) = true) : PS X (.Assign [tg] v p) (rdS Γ.W WE (exS cf (.asg t e))) := by
  have hE := sndE e C h4
  by_cases hc : notComp v = true
  · exact ms_asg C hE (sndTg C h2) hc h3 h1
  · rw [Bool.or_eq_true, Bool.or_eq_true] at h5
    rcases h5 with (h5 | h5) | h5
    · exact absurd h5 hc
    · obtain ⟨⟨own, elt, tt, k, l, c, rfl⟩, htg⟩ := lcTg_ok h5
      rcases htg with ⟨y, py, rfl⟩ | ⟨es, kt, pt, rfl⟩
      · cases t with
        | nm i =>
          unfold chkTg at h2
          rw [Bool.and_eq_true, decide_eq_true_eq] at h2
          obtain ⟨kd, hk, hk2⟩ := locB_ok h2.2
          have h4' := h4
          unfold chkE at h4'
          split at h4'
          · rename_i el tg iter ifs asy scope pos
            simp only [Bool.and_eq_true, decide_eq_true_eq] at h4'
            obtain ⟨⟨⟨⟨⟨⟨⟨rfl, g1⟩, g2⟩, g3⟩, g4⟩, g5⟩, g6⟩, g7⟩ := h4'
            have hsw := swapsWith_lc C (el := el) (gs := [⟨tg, iter, ifs, 0⟩]) (scope := scope) (vp := pos) (n := p.line) (py := py) hk hk2
            cases hb : swapB sc y py (.ListComp el [⟨tg, iter, ifs, 0⟩] scope pos) with
            | false =>
              rw [hb] at hsw
              exact ms_asgLc C hE (sndTg (t := .nm i) C (by unfold chkTg; rw [Bool.and_eq_true, decide_eq_true_eq]; exact h2)) hsw h3 h1
            | true =>
              rw [hb] at hsw
              have hloc : sc.names.lookup y = some .local := by
                unfold swapB at hb
                simp only [Bool.and_eq_true] at hb
                exact eq_of_beq hb.1.1
              have hkf : scope.kind = .function := (blkOk_by g2).kind
              have hown : (ownN N own).map (·.2) = own := by
                unfold ownN
                rw [List.map_map]
                exact List.map_id' own
              split at g5
              · rename_i es hes
                have hI := sndI C hes g5 (sndL l C g5) (fun a e1 e he => by
                  subst e1
                  subst he
                  simp only [chkL, Bool.and_eq_true] at g5
                  exact sndE a C g5.1.2)
                have hT : ∀ (s : Shared) (H : Hp) (D : Addr) (cl : List (Str × Addr)) (fp : List Addr), PTs (X.blk s H scope (compEnvC scope cl D X.env) fp) ifs (rdT Γ.W WE0 (condF (fun env' => ev cf c env') c)) := fun s H D cl fp => by
                  have Cb := C.blk (s := s) (H := H) (D := D) (cl := cl) (fp := fp) hkf
                  match ifs, g7 with
                  | [], g7 =>
                    have hn : PTs (X.blk s H scope (compEnvC scope cl D X.env) fp) [] tYes := pts_nil
                    refine ⟨fun pins s σ H Q I hh => hn.run pins s σ H Q I ?_⟩
                    obtain ⟨ι, env, h0, m, e, p⟩ := hh
                    cases c <;> first | exact Post.here (a := true) p m rfl | (simp at g7; done)
                  | [i], g7 =>
                    simp only [Bool.and_eq_true] at g7
                    have q := pts_one (sndT c Cb g7.1 g7.2 (sndE c Cb g7.2)).1
                    cases c <;> first | exact q | (simp [chkE] at g7; done)
                  | _ :: _ :: _, g7 => simp at g7
                have q := ms_setLc (own := ownN N own) (i := i) C h2.1 hloc hsw hI (blkOk_cxt C g2) (fun s H D cl fp => sndTg (C.blk hkf) g4) hT (fun s H D cl fp => sndE elt (C.blk hkf) g6) g1 (by
                  rw [hown]
                  intro i hi
                  have := List.all_eq_true.mp g3 i hi
                  simpa using this)
                rw [hown] at q
                refine PS.imp q fun D σ H hh => ?_
                have hh2 := gName_rd hh
                refine rd_imp ?_ fun b H' x => x
                obtain ⟨ι, env, h0, m, e, pp⟩ := hh2
                refine ⟨ι, env, h0, m, e, ?_⟩
                have pp : Post Γ.W (Rep Γ.W) ι H ((evL cf l env h0).bnd fun ds => bnd (src k ds) fun s => bnd (lcN s tt own (condF (fun env' => ev cf c env') c) (fun env' => ev cf elt env') env s.count 0 []) fun xs => ret (.lst xs)) _ (fun c d H' => WE c d σ H') := pp
                show Post Γ.W (Rep Γ.W) ι H (((evL cf l env h0).bnd (src k)).bnd fun s => bnd (lcN s tt own (condF (fun env' => ev cf c env') c) (ev cf elt) env s.count 0 []) fun xs => ret (.lst xs)) _ _
                cases q : evL cf l env h0 with
                | ok d h1 => rw [q] at pp; exact pp
                | exn d h1 => rw [q] at pp; exact pp
                | bad => rw [q] at pp; exact pp
              · cases g5
          · cases h4'
        | tp l => unfold chkTg at h2; cases h2
        | nil => unfold chkTg at h2; cases h2
        | cons _ _ => unfold chkTg at h2; cases h2
      · have hsw : swapsWithSole [.Tuple es kt pt] v p.line X.env = pure false := by
          show swapsWith v (some (.Tuple es kt pt)) p.line X.env = pure false
          cases v <;> rfl
        exact ms_asgLc C hE (sndTg C h2) hsw h3 h1
    · obtain ⟨⟨own, elt, tt, k, l, c, rfl⟩, ⟨y, py, rfl⟩⟩ := lcTgC_ok h5
      cases t with
      | nm i =>
        unfold chkTg at h2
        rw [Bool.and_eq_true, decide_eq_true_eq] at h2
        obtain ⟨kd, hk, hk2⟩ := locB_ok h2.2
        have h4' := h4
        unfold chkE at h4'
        rw [Bool.and_eq_true] at h4'
        replace h4' := h4'.2
        unfold chkE at h4'
        split at h4'
        · rename_i el tg iter ifs asy scope pos
          simp only [Bool.and_eq_true, decide_eq_true_eq] at h4'
          obtain ⟨⟨⟨⟨⟨⟨⟨rfl, g1⟩, g2⟩, g3⟩, g4⟩, g5⟩, g6⟩, g7⟩ := h4'
          have hsw := swapsWith_lc C (el := el) (gs := [⟨tg, iter, ifs, 0⟩]) (scope := scope) (vp := pos) (n := p.line) (py := py) hk hk2
          cases hb : swapB sc y py (.ListComp el [⟨tg, iter, ifs, 0⟩] scope pos) with
          | false =>
            rw [hb] at hsw
            exact ms_asgLc C hE (sndTg (t := .nm i) C (by unfold chkTg; rw [Bool.and_eq_true, decide_eq_true_eq]; exact h2)) hsw h3 h1
          | true =>
            rw [hb] at hsw
            have hloc : sc.names.lookup y = some .local := by
              unfold swapB at hb
              simp only [Bool.and_eq_true] at hb
              exact eq_of_beq hb.1.1
            have hkf : scope.kind = .function := (blkOk_by g2).kind
            have hown : (ownN N own).map (·.2) = own := by
              unfold ownN
              rw [List.map_map]
              exact List.map_id' own
            split at g5
            · rename_i es hes
              have hI := sndI C hes g5 (sndL l C g5) (fun a e1 e he => by
                subst e1
                subst he
                simp only [chkL, Bool.and_eq_true] at g5
                exact sndE a C g5.1.2)
              have hT : ∀ (s : Shared) (H : Hp) (D : Addr) (cl : List (Str × Addr)) (fp : List Addr), PTs (X.blk s H scope (compEnvC scope cl D X.env) fp) ifs (rdT Γ.W WE0 (condF (fun env' => ev cf c env') c)) := fun s H D cl fp => by
                have Cb := C.blk (s := s) (H := H) (D := D) (cl := cl) (fp := fp) hkf
                match ifs, g7 with
                | [], g7 =>
                  have hn : PTs (X.blk s H scope (compEnvC scope cl D X.env) fp) [] tYes := pts_nil
                  refine ⟨fun pins s σ H Q I hh => hn.run pins s σ H Q I ?_⟩
                  obtain ⟨ι, env, h0, m, e, p⟩ := hh
                  cases c <;> first | exact Post.here (a := true) p m rfl | (simp at g7; done)
                | [i], g7 =>
                  simp only [Bool.and_eq_true] at g7
                  have q := pts_one (sndT c Cb g7.1 g7.2 (sndE c Cb g7.2)).1
                  cases c <;> first | exact q | (simp [chkE] at g7; done)
                | _ :: _ :: _, g7 => simp at g7
              have q := ms_setLcC (own := ownN N own) (i := i) C h2.1 hloc hsw hI (blkOk_cxt C g2) (fun s H D cl fp => sndTg (C.blk hkf) g4) hT (fun s H D cl fp => sndE elt (C.blk hkf) g6) g1 (by
                rw [hown]
                intro i hi
                have := List.all_eq_true.mp g3 i hi
                simpa using this)
              rw [hown] at q
              refine PS.imp q fun D σ H hh => ?_
              have hh2 := gName_rd hh
              refine rd_imp ?_ fun b H' x => x
              obtain ⟨ι, env, h0, m, e, pp⟩ := hh2
              refine ⟨ι, env, h0, m, e, ?_⟩
              have pp : Post Γ.W (Rep Γ.W) ι H (((evL cf l env h0).bnd fun ds => bnd (src k ds) fun s => bnd (lcN s tt own (condF (fun env' => ev cf c env') c) (fun env' => ev cf elt env') env s.count 0 []) fun xs => ret (.lst xs)).bnd cellOf) _ (fun c d H' => WE c d σ H') := pp
              show Post Γ.W (Rep Γ.W) ι H ((((evL cf l env h0).bnd (src k)).bnd fun s => bnd (lcN s tt own (condF (fun env' => ev cf c env') c) (ev cf elt) env s.count 0 []) fun xs => ret (.lst xs)).bnd cellOf) _ _
              cases q : evL cf l env h0 with
              | ok d h1 => rw [q] at pp; exact pp
              | exn d h1 => rw [q] at pp; exact pp
              | bad => rw [q] at pp; exact pp
            · cases g5
        · cases h4'
      | tp l => unfold chkTg at h2; cases h2
      | nil => unfold chkTg at h2; cases h2
      | cons _ _ => unfold chkTg at h2; cases h2
mutual
theorem sndS : ∀ (m : S) {s : Stmt} {X : Cx} {sc : Scope} {WE : WX}, Cxt Γ X N sc WE cf → chkS N Γ.cs Γ.fname sc m s = true → PS X s (rdS Γ.W WE (exS cf m))
  | .asg t e, s, X, sc, WE, C, h => by
    unfold chkS at h
    split at h
    · simp only [Bool.and_eq_true] at h
      exact snd_asg C h.1.1.1.1 h.1.1.1.2 h.1.1.2 h.1.2 h.2
    · cases h
  | .par i j l, s, X, sc, WE, C, h => by
    unfold chkS at h
    split at h
    · simp only [Bool.and_eq_true, decide_eq_true_eq, Bool.not_eq_true'] at h
      obtain ⟨⟨⟨⟨⟨⟨⟨⟨⟨h1, h2⟩, h3⟩, h4⟩, h5⟩, h6⟩, h7⟩, h8⟩, h9⟩, h10⟩ := h
      exact ms_par C h1 h2 h3 h4 h5 h6 h7 h8 h9 (chkL_star h10) (sndL l C h10)
    · cases h
  | .par3 _ _ _ _, s, X, sc, WE, C, h => by unfold chkS at h; cases h
  | .aug i o e, s, X, sc, WE, C, h => by
    unfold chkS at h
    split at h
    · simp only [Bool.and_eq_true, decide_eq_true_eq] at h
      obtain ⟨kd, hk, hk2⟩ := locB_ok h.1.2
      rw [eq_of_beq h.1.1.1]
      exact ms_aug C h.1.1.2 hk hk2 (sndE e C h.2)
    · cases h
  | .augs a b o e, s, X, sc, WE, C, h => by
    unfold chkS at h
    split at h
    · simp only [Bool.and_eq_true] at h
      rw [eq_of_beq h.1.1.1.1]
      exact ms_augs C (sndE a C h.1.1.2) (sndE b C h.1.2) (sndE e C h.2) h.1.1.1.2
    · cases h
  | .sti a b e, s, X, sc, WE, C, h => by
    unfold chkS at h
    split at h
    · simp only [Bool.and_eq_true] at h
      exact ms_sti C (sndE e C h.2) (sndE a C h.1.1.2) (sndE b C h.1.2) h.1.1.1.2 h.1.1.1.1
    · cases h
  | .dst a b e, s, X, sc, WE, C, h => by
    unfold chkS at h
    split at h
    · simp only [Bool.and_eq_true] at h
      exact ms_dst C (sndE e C h.2) (sndE a C h.1.1.2) (sndE b C h.1.2) h.1.1.1
    · cases h
  | .unp a b j e, s, X, sc, WE, C, h => by
    unfold chkS at h
    split at h
    · simp only [Bool.and_eq_true, decide_eq_true_eq] at h
      obtain ⟨⟨⟨⟨⟨⟨⟨h1, h2⟩, h3⟩, h4⟩, h5⟩, h6⟩, h7⟩, h8⟩ := h
      obtain ⟨kd, hk, hk2⟩ := locB_ok h5
      exact ms_unp C (sndE e C h8) (sndE a C h6) (sndE b C h7) h4 hk hk2 h2 h1 h3
    · cases h
  | .app a e, s, X, sc, WE, C, h => by
    unfold chkS at h
    split at h
    · simp only [Bool.and_eq_true] at h
      obtain ⟨⟨⟨⟨⟨h1, h2⟩, h3⟩, h4⟩, h5⟩, h6⟩ := h
      have e1 := eq_of_beq h1
      subst e1
      exact ms_app C (sndE a C h5) (sndE e C h6) h4 (attributeBase_ok h3) h2
    · cases h
  | .exp e, s, X, sc, WE, C, h => by
    unfold chkS at h
    split at h
    · simp only [Bool.and_eq_true] at h
      exact ms_exp (sndE e C h.2) h.1
    · cases h
  | .rtn e, s, X, sc, WE, C, h => by
    unfold chkS at h
    split at h
    · exact ms_rtn (sndE e C h)
    · cases h
  | .rt0, s, X, sc, WE, C, h => by
    unfold chkS at h
    split at h
    · exact ms_rt0
    · cases h
  | .ite c t e, s, X, sc, WE, C, h => by
    unfold chkS at h
    split at h
    · simp only [Bool.and_eq_true] at h
      exact ms_ite (sndT c C h.1.1.1 h.1.1.2 (sndE c C h.1.1.2)).1 (sndB t C h.1.2) (sndB e C h.2)
    · cases h
  | .for_ t k l b, s, X, sc, WE, C, h => by
    unfold chkS at h
    split at h
    · simp only [Bool.and_eq_true] at h
      obtain ⟨⟨⟨h1, h2⟩, h3⟩, h4⟩ := h
      split at h3
      · rename_i es hes
        exact ms_for C (sndI C hes h3 (sndL l C h3) (fun a e1 e he => by
          subst e1
          subst he
          simp only [chkL, Bool.and_eq_true] at h3
          exact sndE a C h3.1.2)) (sndTg C h2) (sndB b C h4) h1
      · cases h3
    · cases h
  | .whl c b, s, X, sc, WE, C, h => by
    unfold chkS at h
    split at h
    · simp only [Bool.and_eq_true] at h
      exact ms_whl C TURNS (sndT c C h.1.1 h.1.2 (sndE c C h.1.2)).1 (sndB b C h.2)
    · cases h
  | .rai, s, X, sc, WE, C, h => ps_never'
  | .pas, s, X, sc, WE, C, h => by
    unfold chkS at h
    split at h
    · exact ms_pas
    · cases h
  | .nil, s, X, sc, WE, C, h => by unfold chkS at h; cases h
  | .seq _ _, s, X, sc, WE, C, h => by unfold chkS at h; cases h
theorem sndB : ∀ (m : S) {s : List Stmt} {X : Cx} {sc : Scope} {WE : WX}, Cxt Γ X N sc WE cf → chkB N Γ.cs Γ.fname sc m s = true → PSs X s (rdS Γ.W WE (exS cf m))
  | .nil, s, X, sc, WE, C, h => by
    cases s with
    | nil => exact mss_nil
    | cons _ _ => simp [chkB] at h
  | .seq a r, s, X, sc, WE, C, h => by
    cases s with
    | nil => simp [chkB] at h
    | cons x y =>
      simp only [chkB, Bool.and_eq_true] at h
      exact mss_cons (sndS a C h.1) (sndB r C h.2)
  | .asg _ _, _, _, _, _, _, h => by simp [chkB] at h
  | .par _ _ _, _, _, _, _, _, h => by simp [chkB] at h
  | .par3 _ _ _ _, _, _, _, _, _, h => by simp [chkB] at h
  | .aug _ _ _, _, _, _, _, _, h => by simp [chkB] at h
  | .augs _ _ _ _, _, _, _, _, _, h => by simp [chkB] at h
  | .sti _ _ _, _, _, _, _, _, h => by simp [chkB] at h
  | .dst _ _ _, _, _, _, _, _, h => by simp [chkB] at h
  | .unp _ _ _ _, _, _, _, _, _, h => by simp [chkB] at h
  | .app _ _, _, _, _, _, _, h => by simp [chkB] at h
  | .exp _, _, _, _, _, _, h => by simp [chkB] at h
  | .rtn _, _, _, _, _, _, h => by simp [chkB] at h
  | .rt0, _, _, _, _, _, h => by simp [chkB] at h
  | .ite _ _ _, _, _, _, _, _, h => by simp [chkB] at h
  | .for_ _ _ _ _, _, _, _, _, _, h => by simp [chkB] at h
  | .whl _ _, _, _, _, _, _, h => by simp [chkB] at h
  | .rai, _, _, _, _, _, h => by simp [chkB] at h
  | .pas, _, _, _, _, _, h => by simp [chkB] at h
end
end
end Mn

set_option maxHeartbeats 4000000
/-! Mn: defs. -/
namespace Mn
open PySem L2
/-! ### the end of a call -/
theorem Step.tkc {ι ι' : Ix} {H H' : Hp} (s : Step ι H ι' H') : ι'.c.take ι.c.length = ι.c := by
  refine List.ext_getElem? fun i => ?_
  by_cases hi : i < ι.c.length
  · rw [List.getElem?_take_of_lt hi, List.getElem?_eq_getElem hi]
    exact s.pre i _ (List.getElem?_eq_getElem hi)
  · rw [List.getElem?_eq_none (l := ι'.c.take ι.c.length) (by rw [List.length_take]; omega), List.getElem?_eq_none (l := ι.c) (by omega)]
theorem Step.tk {ι ι' : Ix} {H H' : Hp} (s : Step ι H ι' H') : Step ι H (ι'.tk ι.c.length) H' where
  ex := s.ex
  newx := s.newx
  pre := fun i a h => by show (ι'.c.take ι.c.length)[i]? = some a; rw [s.tkc]; exact h
  tups := s.tups
  frzs := s.frzs
  tbls := s.tbls
  keep := s.keep
  new := fun a h n => by
    have h : a ∈ ι'.c.take ι.c.length := h
    rw [s.tkc] at h
    exact absurd h n
theorem nodup_take {l : List Addr} (nd : l.Nodup) {i n : Nat} {a : Addr} (h : l[i]? = some a) (hn : n ≤ i) : a ∉ l.take n := fun hm => by
  obtain ⟨j, hj⟩ := List.getElem?_of_mem hm
  have hjn : j < n := by
    rcases Nat.lt_or_ge j n with z | z
    · exact z
    · rw [List.getElem?_eq_none (by rw [List.length_take]; omega)] at hj; cases hj
  rw [List.getElem?_take_of_lt hjn] at hj
  have h1 : i < l.length := by
    rcases Nat.lt_or_ge i l.length with r | r
    · exact r
    · rw [List.getElem?_eq_none r] at h; cases h
  have h2 : j < l.length := by omega
  rw [List.getElem?_eq_getElem h1] at h
  rw [List.getElem?_eq_getElem h2] at hj
  exact List.pairwise_iff_getElem.mp nd j i h2 h1 (by omega) ((Option.some.inj hj).trans (Option.some.inj h).symm)
theorem fin_post {W : Wd} {ι ι' : Ix} {H H' : Hp} {h h' : MH} {raw : Bool} {d : D} {v : V} {Q : VK} {E : XK} (m0 : Sm W ι H h) (p : Post W (Rep W) ι H (fin raw h.length d h') Q E) (s : Step ι H ι' H') (m : Sm W ι' H' h') (r : Rep W ι' H' d v) : Q v H' := by
  unfold fin at p
  split at p
  · exact p ι' H' v s m r
  · have hsub : ∀ a, a ∈ (ι'.tk h.length).c → a ∈ ι'.c := fun a ha => List.mem_of_mem_take ha
    have st : Step ι H (ι'.tk h.length) H' := by rw [← m0.len]; exact s.tk
    have gen : ∀ {d : D}, plain d = true → Rep W ι' H' d v → Post W (Rep W) ι H (.ok d (h'.take h.length)) Q E → Q v H' := fun {d} hp r p => p (ι'.tk h.length) H' v st (m.take _) (r.less hsub (fun _ z => z) hp)
    cases r with
    | ref hi =>
      rename_i i a
      simp only at p
      split at p
      · rename_i hlt
        exact p (ι'.tk h.length) H' _ st (m.take _) (.ref (by show (ι'.c.take h.length)[i]? = some a; rw [List.getElem?_take_of_lt hlt]; exact hi))
      · rename_i hge
        split at p
        · rename_i xs hc
          split at p
          · rename_i hp
            obtain ⟨a2, ha2, _, vs, hv, rr⟩ := m.get hc
            rw [hi] at ha2
            cases ha2
            exact p (ι'.tk h.length) H' _ st (m.take _) (.lst hv (nodup_take m.nd hi (by omega)) (fun hx => (m.exs a hx).1 (List.mem_of_getElem? hi)) (rr.less hsub (fun _ z => z) hp))
          · exact p.elim
        · exact p.elim
    | non => exact gen rfl .non p
    | bl b => exact gen rfl (.bl b) p
    | int i => exact gen rfl (.int i) p
    | str x => exact gen rfl (.str x) p
    | scr hf => exact gen rfl (.scr hf) p
    | cd hf => exact gen rfl (.cd hf) p
    | tup hs rr =>
      simp only at p
      split at p
      · rename_i hp; exact gen hp (.tup hs rr) p
      · exact p.elim
    | lst hl n n2 rr =>
      simp only at p
      split at p
      · rename_i hp; exact gen hp (.lst hl n n2 rr) p
      · exact p.elim
    | obj ho n n2 hl rr =>
      simp only at p
      split at p
      · rename_i hp; exact gen hp (.obj ho n n2 hl rr) p
      · exact p.elim
theorem finX_post {W : Wd} {ι ι' : Ix} {H H' : Hp} {h h' : MH} {e : D} {c : Value} {d : Option Addr} {Q : VK} {E : XK} (m0 : Sm W ι H h) (p : Post W (Rep W) ι H (finX h.length e h') Q E) (s : Step ι H ι' H') (m : Sm W ι' H' h') (r : RepX W ι' H' e c d) : E c d H' := by
  unfold finX at p
  split at p
  · rename_i hp
    have hsub : ∀ a, a ∈ (ι'.tk h.length).c → a ∈ ι'.c := fun a ha => List.mem_of_mem_take ha
    have st : Step ι H (ι'.tk h.length) H' := by rw [← m0.len]; exact s.tk
    refine p (ι'.tk h.length) H' c d st (m.take _) ?_
    cases e with
    | exc k fs =>
      obtain ⟨h1, h2⟩ := r
      refine ⟨h1, ?_⟩
      cases d with
      | none => exact h2
      | some dd =>
        obtain ⟨n1, n2, vs, hv, hl, rr⟩ := h2
        exact ⟨fun z => n1 (hsub _ z), n2, vs, hv, hl, rr.less hsub (fun _ z => z) (by simpa [plain] using hp)⟩
    | _ => exact r.elim
  · exact p.elim
/-! ### the start of a call -/
theorem envR_start {W : Wd} {ι : Ix} {H : Hp} {N : List Str} {ds : List D} {vs : List V} (r : Reps W ι H ds vs) (hl : vs.length ≤ N.length) : EnvR W ι H (L2.start N vs) (ds.map some ++ List.replicate (N.length - ds.length) none) := by
  have hlen := r.length
  refine ⟨by unfold L2.start; simp [hlen], fun i d h => ?_⟩
  by_cases hi : i < ds.length
  · rw [List.getElem?_append_left (by simpa using hi), List.getElem?_map] at h
    cases q : ds[i]? with
    | none => rw [q] at h; cases h
    | some z =>
      rw [q] at h
      cases h
      obtain ⟨v, hv, rv⟩ := r.get q
      refine ⟨v, ?_, rv⟩
      unfold L2.start
      rw [List.getElem?_append_left (by simp; omega), List.getElem?_map, hv]
      rfl
  · rw [List.getElem?_append_right (by simp; omega), List.getElem?_replicate] at h
    split at h <;> cases h
/-! ### defs of the text -/
structure FnD where
  name : Str
  N : List Str
  ps : List Str
  stmt : Stmt
  fn : Fn
def plainArgs (a : Arguments) (ps : List Str) : Bool := a.posonlyargs.isEmpty && a.vararg.isNone && a.kwonlyargs.isEmpty && a.kw_defaults.isEmpty && a.kwarg.isNone && a.defaults.isEmpty && decide (a.args.map (·.arg) = ps) && decide (ps.length ≤ 6)
def chkFn (cs : List (Str × Lit)) (fnm : Nat → Option (Str × List Str)) (d : FnD) : Bool := C8.scC d.N d.ps (defScope d.stmt) && plainArgs (defArgs d.stmt) d.ps && decide (d.fn.slots = d.N.length) && decide (d.fn.arity = d.ps.length) && chkB d.N cs fnm (defScope d.stmt) d.fn.body (defBody d.stmt)
theorem lookup_zip : ∀ {ps : List Str} {us : List Value} {x : Str}, ps.length = us.length → x ∈ ps → ((ps.zip us).lookup x).isSome = true
  | p :: ps, u :: us, x, hl, hx => by
    rw [List.zip_cons_cons, List.lookup_cons]
    split
    · rfl
    · rename_i hb
      refine lookup_zip (Nat.succ.inj hl) ?_
      rcases List.mem_cons.mp hx with rfl | z
      · simp at hb
      · exact z
theorem filter_zip {ps : List Str} {us : List Value} (hl : ps.length = us.length) : ∀ qs : List Str, (∀ x ∈ qs, x ∈ ps) → (qs.filter fun n => ((ps.zip us).lookup n).isNone) = [] := fun qs h => by
  rw [List.filter_eq_nil_iff]
  intro x hx
  have := lookup_zip hl (h x hx)
  cases q : (ps.zip us).lookup x with
  | none => rw [q] at this; cases this
  | some _ => simp
theorem filterMap_cg {α β : Type} {f g : α → Option β} : ∀ {l : List α}, (∀ x ∈ l, f x = g x) → l.filterMap f = l.filterMap g
  | [], _ => rfl
  | x :: l, h => by
    rw [List.filterMap_cons, List.filterMap_cons, h x (List.mem_cons_self ..), filterMap_cg fun y hy => h y (List.mem_cons_of_mem _ hy)]
theorem zip_filterMap : ∀ {ps : List Str} {us : List Value}, ps.Nodup → ps.length = us.length → ps.filterMap (fun n => ((ps.zip us).lookup n).map (n, ·)) = ps.zip us
  | [], [], _, _ => rfl
  | p :: ps, u :: us, nd, hl => by
    obtain ⟨n1, n2⟩ := List.nodup_cons.mp nd
    have h1 : ((p, u) :: ps.zip us).lookup p = some u := by simp [List.lookup_cons]
    rw [List.zip_cons_cons, List.filterMap_cons]
    simp only [h1, Option.map_some]
    congr 1
    refine Eq.trans ?_ (zip_filterMap n2 (Nat.succ.inj hl))
    refine filterMap_cg fun x hx => ?_
    have : (x == p) = false := by
      rw [beq_eq_false_iff_ne]
      rintro rfl
      exact n1 hx
    rw [List.lookup_cons, this]
theorem binds_plain {x qual : Str} {a : Arguments} {body : List Stmt} {scope : Scope} {ps : List Str} (hnd : ps.Nodup) (h : plainArgs a ps = true) (kV doc pm : Value) (an : Option Addr) (cdv ct : Value) (us : List Value) (hl : us.length = ps.length) : bindArgs (PySem.W.fnOf x qual a body scope .none kV doc pm an cdv ct) ⟨us, []⟩ = pure (ps.zip us) := by
  obtain ⟨po, as, va, ko, kd, kw, df⟩ := a
  simp only [plainArgs, Bool.and_eq_true, decide_eq_true_eq, List.isEmpty_iff, Option.isNone_iff_eq_none] at h
  obtain ⟨⟨⟨⟨⟨⟨⟨rfl, rfl⟩, rfl⟩, rfl⟩, rfl⟩, rfl⟩, rfl⟩, h6⟩ := h
  rw [List.length_map] at hl
  unfold bindArgs PySem.W.fnOf
  simp [seqItems?, notAStandIn, hl]
  rw [if_neg (by
    rw [filter_zip (by simpa using hl.symm) _ (fun x hx => by have := List.mem_of_mem_take hx; simpa using this)]
    simp)]
  have h8 := zip_filterMap hnd (us := us) (by simpa using hl.symm)
  rw [List.filterMap_map] at h8
  rw [h8]
theorem forIn_keep {α σ : Type} {f : α → σ → Sem (ForInStep σ)} (step : σ → α → σ) (P : σ → List α → Prop) (h : ∀ s a l, P s (a :: l) → f a s = pure (.yield (step s a)) ∧ P (step s a) l) : ∀ (l : List α) (s : σ), P s l → forIn l s f = pure (l.foldl step s)
  | [], s, _ => rfl
  | a :: l, s, p => by
    obtain ⟨e, p'⟩ := h s a l p
    rw [List.forIn_cons, e, pure_bind]
    exact forIn_keep step P h l (step s a) p'
theorem lookup_none {β : Type} : ∀ {l : List (Str × β)} {x : Str}, (∀ y ∈ l, y.1 ≠ x) → l.lookup x = none
  | [], _, _ => rfl
  | (a, b) :: l, x, h => by
    have : (x == a) = false := beq_eq_false_iff_ne.mpr (fun e => h (a, b) (List.mem_cons_self ..) e.symm)
    rw [List.lookup_cons, this]
    exact lookup_none fun y hy => h y (List.mem_cons_of_mem _ hy)
theorem lookup_mem' {β : Type} : ∀ {l : List (Str × β)} {x : Str} {v : β}, l.lookup x = some v → (x, v) ∈ l
  | (a, b) :: l, x, v, h => by
    rw [List.lookup_cons] at h
    split at h
    · rename_i e
      rw [eq_of_beq e]
      cases h
      exact List.mem_cons_self ..
    · exact List.mem_cons_of_mem _ (lookup_mem' h)
theorem foldl_app {β : Type} : ∀ (l : List β) (s : List β × List β), l.foldl (fun s a => (s.1 ++ [a], s.2)) s = (s.1 ++ l, s.2)
  | [], s => by simp
  | a :: l, s => by rw [List.foldl_cons, foldl_app l]; simp
theorem binds_kw {x qual : Str} {a : Arguments} {body : List Stmt} {scope : Scope} {ps ks : List Str} (hnd : ps.Nodup) (h : plainArgs a ps = true) (kV doc pm : Value) (an : Option Addr) (cdv ct : Value) (ws : List Value) (hk : ks.Nodup) (hs : ∀ k ∈ ks, k ∈ ps) (hs2 : ∀ k ∈ ps, k ∈ ks) (hl : ws.length = ks.length) : bindArgs (PySem.W.fnOf x qual a body scope .none kV doc pm an cdv ct) ⟨[], ks.zip ws⟩ = pure (ps.filterMap fun n => ((ks.zip ws).lookup n).map (n, ·)) := by
  obtain ⟨po, as, va, ko, kd, kw, df⟩ := a
  simp only [plainArgs, Bool.and_eq_true, decide_eq_true_eq, List.isEmpty_iff, Option.isNone_iff_eq_none] at h
  obtain ⟨⟨⟨⟨⟨⟨⟨rfl, rfl⟩, rfl⟩, rfl⟩, rfl⟩, rfl⟩, rfl⟩, h6⟩ := h
  unfold bindArgs PySem.W.fnOf
  simp only []
  rw [forIn_keep (step := fun (s : List (Str × Value) × List (Str × Value)) a => (s.1 ++ [a], s.2)) (P := fun s l => (s.1.map (·.1) ++ l.map (·.1)).Nodup ∧ ∀ y ∈ l, y.1 ∈ as.map (·.arg))]
  · rw [foldl_app, pure_bind]
    simp [seqItems?, notAStandIn]
    intro y hy hno
    exfalso
    have := lookup_zip hl.symm (hs2 y (List.mem_of_mem_take hy))
    cases q : (ks.zip ws).lookup y with
    | none => rw [q] at this; cases this
    | some v => exact hno v (lookup_mem' q)
  · rintro ⟨s1, s2⟩ ⟨y, v⟩ l ⟨p1, p2⟩
    have hy : y ∈ as.map (·.arg) := p2 (y, v) (List.mem_cons_self ..)
    have hc : (as.map (·.arg)).contains y = true := List.contains_iff_mem.mpr hy
    have hn : s1.lookup y = none := lookup_none fun z hz e => by
      have := (List.nodup_append.mp p1).2.2 y (by rw [← e]; exact List.mem_map_of_mem hz) y (List.mem_cons_self ..)
      exact this rfl
    refine ⟨?_, ?_, fun z hz => p2 z (List.mem_cons_of_mem _ hz)⟩
    · simp only [hc, hn, Bool.true_or, if_true]
      rfl
    · simpa using p1
  · refine ⟨?_, fun y hy => hs _ (List.of_mem_zip hy).1⟩
    simp only [List.map_nil, List.nil_append, List.zip_nil_right]
    rw [List.map_fst_zip (by omega)]
    exact hk
theorem lookup_at : ∀ {ks : List Str} {ws : List Value} {j : Nat} {p : Str}, ks.Nodup → ws.length = ks.length → ks[j]? = some p → (ks.zip ws).lookup p = ws[j]?
  | [], _, _, _, _, _, h => by simp at h
  | k :: ks, [], _, _, _, hl, _ => by simp at hl
  | k :: ks, w :: ws, 0, p, nd, hl, h => by
    have e : k = p := by simpa using h
    subst e
    simp [List.lookup_cons]
  | k :: ks, w :: ws, j + 1, p, nd, hl, h => by
    obtain ⟨n1, n2⟩ := List.nodup_cons.mp nd
    have h : ks[j]? = some p := by simpa using h
    have : (p == k) = false := beq_eq_false_iff_ne.mpr (fun e => n1 (e ▸ List.mem_of_getElem? h))
    rw [List.zip_cons_cons, List.lookup_cons, this]
    simpa using lookup_at n2 (by simpa using hl) h
theorem kw_pick {ks : List Str} {ws : List Value} (nd : ks.Nodup) (hl : ws.length = ks.length) : ∀ {ix : List Nat} {ps : List Str}, ix.map (fun j => ks[j]?) = ps.map some → ps.filterMap (fun n => ((ks.zip ws).lookup n).map (n, ·)) = ps.zip (pickL ix ws)
  | [], [], _ => rfl
  | [], p :: ps, h => by simp at h
  | j :: ix, [], h => by simp at h
  | j :: ix, p :: ps, h => by
    rw [List.map_cons, List.map_cons] at h
    injection h with h1 h2
    have e := lookup_at nd hl h1
    have hj : j < ws.length := by
      rw [hl]
      rcases Nat.lt_or_ge j ks.length with z | z
      · exact z
      · rw [List.getElem?_eq_none z] at h1; cases h1
    rw [List.getElem?_eq_getElem hj] at e
    rw [List.filterMap_cons, e]
    unfold pickL
    rw [List.getElem?_eq_getElem hj]
    simp only [Option.map_some, List.zip_cons_cons]
    rw [kw_pick nd hl h2]
theorem vals_get : ∀ {vs : List V} {us : List Value} {j : Nat}, Vals vs us → (∀ v, vs[j]? = some v → ∃ u, us[j]? = some u ∧ RelV v u) ∧ (vs[j]? = none → us[j]? = none)
  | _, _, j, .nil => ⟨fun v h => by simp at h, fun _ => by simp⟩
  | _, _, 0, .cons r t => ⟨fun v h => ⟨_, List.getElem?_cons_zero, by rw [List.getElem?_cons_zero] at h; cases h; exact r⟩, fun h => by simp at h⟩
  | _, _, j + 1, .cons r t => by
    have := vals_get (j := j) t
    simpa using this
theorem vals_pick {vs : List V} {us : List Value} (r : Vals vs us) : ∀ ix : List Nat, Vals (pickL ix vs) (pickL ix us)
  | [] => .nil
  | j :: ix => by
    obtain ⟨h1, h2⟩ := vals_get (j := j) r
    unfold pickL
    cases q : vs[j]? with
    | none => rw [h2 q]; exact vals_pick r ix
    | some v =>
      obtain ⟨u, hu, ru⟩ := h1 v q
      rw [hu]
      exact .cons ru (vals_pick r ix)
theorem kbs_of {K : PySem.W.Frag} {x qual : Str} {a : Arguments} {body : List Stmt} {scope : Scope} {kws : List (Str × V)} {f : Addr} {fd : FuncData} {ps : List Str} (F : FunD K x qual a body scope [] kws f fd) (hnd : ps.Nodup) (hp : plainArgs a ps = true) : KBs K fd ps := fun ks ix hk => by
  simp only [kwOk, Bool.and_eq_true, decide_eq_true_eq, List.all_eq_true, List.contains_iff_mem] at hk
  obtain ⟨⟨⟨k1, k2⟩, k3⟩, k4⟩ := hk
  obtain ⟨oc, od, dV, kV, doc, pm, an, cdv, ct, osl, rfl, lk, hcd, hD, hK⟩ := F.ex
  rcases hD with ⟨_, rfl⟩ | ⟨e, _⟩
  · refine ⟨fun s us ws X hu hw => ?_, fun _ r => vals_pick r ix⟩
    cases us with
    | cons _ _ => simp at hu
    | nil =>
      have e := binds_kw (x := x) (qual := qual) (body := body) (scope := scope) hnd hp kV doc pm an cdv ct ws k1 k3 k2 hw
      rw [kw_pick k1 hw k4] at e
      exact .of_eq e
  · exact absurd rfl e
/-- what the module's top has left -/
structure Facts (W : Wd) (P : Program) (w : World) (K : PySem.W.Frag) (mg : Str → Option Value) (base : Heap) (cs : List (Str × Lit)) (tab : List FnD) : Prop where
  hK : W.K = K
  free : ∀ x ∈ FREE, mg x = none
  cst : ∀ x c, (x, c) ∈ cs → ∃ u v, mg x = some u ∧ RelV v u ∧ CRep W c v
  defs : ∀ d ∈ tab, ∃ a fd qual kws, mg d.name = some (.ref a) ∧ FunD K d.name qual (defArgs d.stmt) (defBody d.stmt) (defScope d.stmt) [] kws a fd
def nameOf (tab : List FnD) (i : Nat) : Option (Str × List Str) := (tab[i]?).map fun d => (d.name, d.ps)
def fnOf (tab : List FnD) (i : Nat) : Option Fn := (tab[i]?).map (·.fn)
section
variable {W : Wd} {P : Program} {w : World} {K : PySem.W.Frag} {mg : Str → Option Value} {base : Heap} {cs : List (Str × Lit)} {tab : List FnD}
theorem runFn_len {cf : Nat → List D → M D} {f : Fn} {ds : List D} {h : MH} {ι : Ix} {H : Hp} {Q : VK} {E : XK} (p : Post W (Rep W) ι H (runFn cf f ds h) Q E) : ds.length = f.arity ∧ f.arity ≤ f.slots := by
  unfold runFn at p
  by_cases hc : ds.length = f.arity ∧ f.arity ≤ f.slots
  · exact hc
  · rw [if_neg hc] at p; exact p.elim
abbrev FunF (K : PySem.W.Frag) (d : FnD) (qual : Str) (kws : List (Str × V)) (a : Addr) (fd : FuncData) : Prop := FunD K d.name qual (defArgs d.stmt) (defBody d.stmt) (defScope d.stmt) [] kws a fd
theorem fn_nd {d : FnD} (hck : chkFn cs (nameOf tab) d = true) : d.ps.Nodup ∧ plainArgs (defArgs d.stmt) d.ps = true := by
  simp only [chkFn, Bool.and_eq_true, decide_eq_true_eq] at hck
  have hS := C8.fnScope_by hck.1.1.1.1
  exact ⟨by rw [← hS.pre]; exact hS.nd.sublist (List.take_sublist _ _), hck.1.1.1.2⟩
theorem fn_ok (F : Facts W P w K mg base cs tab) {d : FnD} (hck : chkFn cs (nameOf tab) d = true) {i : Nat} (hd : tab[i]? = some d) {a : Addr} {fd : FuncData} {qual : Str} {kws : List (Str × V)} (hF : FunF K d qual kws a fd) {k : Nat} (ih : ∀ (f : Nat) (d' : FnD), tab[f]? = some d' → FnAt W P w K mg base k (d'.name, d'.ps) (callN (fnOf tab) k f)) : FnOk P w K mg base (L2N.CX P w) (k + 1) a fd d.ps (spOf W (callN (fnOf tab) (k + 1) i)) := by
  simp only [chkFn, Bool.and_eq_true, decide_eq_true_eq] at hck
  obtain ⟨⟨⟨⟨c1, c2⟩, c3⟩, c4⟩, c5⟩ := hck
  have hS := C8.fnScope_by c1
  have hrun : ∀ ds h, callN (fnOf tab) (k + 1) i ds h = runFn (callN (fnOf tab) k) d.fn ds h := fun ds h => by
    show (match fnOf tab i with | some f => runFn (callN (fnOf tab) k) f ds h | none => .bad) = _
    unfold fnOf
    rw [hd]
    rfl
  refine FunD.ok hF hS (fun vs H Q E h => ?_) (fun cdv A outer s H vs Q E hr h => ?_)
  · obtain ⟨ι, h, ds, m, r, p⟩ := h
    rw [hrun] at p
    rw [← r.length, (runFn_len p).1, c4]
  · obtain ⟨ι, h, ds, m, r, p⟩ := h
    rw [hrun] at p
    have hl := runFn_len p
    have hvs : vs.length ≤ d.N.length := by rw [← r.length, hl.1, ← c3]; exact hl.2
    have C : Cxt ⟨W, cs, nameOf tab⟩ (cxOf (L2N.CX P w) P w K mg base d.N qual (defScope d.stmt) a cdv A outer s H E) d.N (defScope d.stmt) (fun c d _ H' => E c d H') (callN (fnOf tab) k) := {
      hK := F.hK.symm
      hN := rfl
      nd := hS.nd
      kind := hS.kind
      vis := fun x k h z => by
        rcases z with rfl | rfl | rfl
        · exact .inl h
        · exact .inr (.inl h)
        · exact .inr (.inr h)
      loc := fun x k h z => ⟨h, .inr rfl⟩
      fr := fun x k h z => by
        rcases z with rfl | rfl
        · exact .inl h
        · exact .inr h
      gl := fun x h => h
      free := F.free
      cst := F.cst
      calm := rfl
      un := by
        have := hr.un
        show (A.deeper (PyProof.Rows.envOfC qual (defScope d.stmt) s.heap.objs.size a cdv)).units + 100 < cLine
        omega
      tk := L2N.takes_of rfl rfl rfl rfl
      po := L2.passes_of rfl
      fns := ⟨k, hr, fun f x hx => by
        unfold nameOf at hx
        cases q : tab[f]? with
        | none => simp only [q, Option.map_none] at hx; cases hx
        | some d' =>
          simp only [q, Option.map_some] at hx
          cases hx
          exact ih f d' q⟩ }
    refine ⟨_, sndB d.fn.body C c5, ι, ds.map some ++ List.replicate (d.N.length - ds.length) none, h, m, envR_start r hvs, ?_⟩
    unfold runFn at p
    rw [if_pos hl, c3, ← hl.1] at p
    cases q : exS (callN (fnOf tab) k) d.fn.body (ds.map some ++ List.replicate (d.N.length - ds.length) none) h with
    | ok fl h' =>
      rw [q] at p
      cases fl with
      | nx env => exact fun ι' H' σ' s' m' _ => fin_post m p s' m' .non
      | rt d => exact fun ι' H' v s' m' r' => fin_post m p s' m' r'
      | bk env => exact p.elim
      | ct env => exact p.elim
      | ex env e => exact fun ι' H' σ' c dd s' m' _ x => finX_post m p s' m' x
    | exn e h' => rw [q] at p; exact p.elim
    | bad => rw [q] at p; exact p.elim
theorem fn_sound (F : Facts W P w K mg base cs tab) (hc : tab.all (chkFn cs (nameOf tab)) = true) : ∀ (k i : Nat) (d : FnD), tab[i]? = some d → FnAt W P w K mg base k (d.name, d.ps) (callN (fnOf tab) k i)
  | 0, i, d, hd => by
    obtain ⟨a, fd, qual, kws, hm, hF⟩ := F.defs d (List.mem_of_getElem? hd)
    obtain ⟨n1, n2⟩ := fn_nd (List.all_eq_true.mp hc d (List.mem_of_getElem? hd))
    refine ⟨a, fd, hm, hF.kp, hF.bindsN (binds_plain n1 n2), kbs_of hF n1 n2, ⟨fun vs H Q E h => ?_, fun A outer s H args us vs Q E hr he hb hv h => ?_⟩⟩
    · obtain ⟨_, _, _, _, _, p⟩ := h; exact p.elim
    · obtain ⟨_, _, _, _, _, p⟩ := h; exact p.elim
  | k + 1, i, d, hd => by
    obtain ⟨a, fd, qual, kws, hm, hF⟩ := F.defs d (List.mem_of_getElem? hd)
    have hck := List.all_eq_true.mp hc d (List.mem_of_getElem? hd)
    obtain ⟨n1, n2⟩ := fn_nd hck
    exact ⟨a, fd, hm, hF.kp, hF.bindsN (binds_plain n1 n2), kbs_of hF n1 n2, fn_ok F hck hd hF (fun f d' q => fn_sound F hc k f d' q)⟩
end
end Mn

set_option maxHeartbeats 4000000
/-! Mn: the end. -/
namespace Mn
open PySem L2
def dOf (d : FnD) : He.DefD := ⟨(d.name, none), d.name, d.name, defArgs d.stmt, defBody d.stmt, defScope d.stmt, [], []⟩
def cstFa : Str × Lit → He.Fa
  | (x, .int i) => .int x i
  | (x, .str z) => .str x z
  | (x, _) => .glo x
def noLst (K : PySem.W.Frag) : Bool := K.all fun q => !decide (q.2.cls = .type "list")
def FAS (cs : List (Str × Lit)) (tab : List FnD) (more : List He.Fa) : List He.Fa := tab.map (fun d => .glo d.name) ++ (FREE.map .free ++ (cs.map cstFa ++ more))
/-- the dicts among the constants stand in the written part -/
def cdsOk (cs : List (Str × Lit)) (K : PySem.W.Frag) : Bool := cs.all fun q => match q.2 with
  | .cd kvs => cdIn K (He.ga K q.1) kvs
  | _ => true
def exOk (cs : List (Str × Lit)) (K : PySem.W.Frag) : Bool := noLst K && cdsOk cs K
def litOk : Lit → Bool
  | .cd _ => true
  | .int _ => true
  | .str _ => true
  | _ => false
section
variable {P : Program} {w : World} {K : PySem.W.Frag} {mg : Str → Option Value} {base h : Heap} {cs : List (Str × Lit)} {tab : List FnD} {more : List He.Fa} {ex : PySem.W.Frag → Bool}
theorem noLst_ok {a : Addr} {o : Obj} (hn : noLst K = true) (hk : K.lookup a = some o) : o.cls ≠ .type "list" := fun e => by
  have := List.all_eq_true.mp hn _ (He.lookup_mem hk)
  simp [e] at this
theorem facts_of (S : He.SaysX (FAS cs tab more) (tab.map dOf) [] [] ex w h K) (hl : cs.all (fun q => litOk q.2) = true) (hcd : cdsOk cs K = true) (X : K.In h) (G : h.Ns mainGlobals mg) {W : Wd} (hW : W.K = K) : Facts W P w K mg base cs tab where
  hK := hW
  free := fun x hx => He.free_ok X G (S.t.d.facts (f := .free x) (List.mem_append_right _ (List.mem_append_left _ (List.mem_map_of_mem hx))))
  cst := fun x c hx => by
    have hm : cstFa (x, c) ∈ FAS cs tab more := List.mem_append_right _ (List.mem_append_right _ (List.mem_append_left _ (List.mem_map_of_mem hx)))
    have ho := List.all_eq_true.mp hl _ hx
    have z := S.t.d.facts hm
    cases c with
    | int i =>
      obtain ⟨t, e⟩ := He.int_ok X G z
      exact ⟨_, .int i, e, ⟨t, rfl⟩, rfl⟩
    | str y =>
      obtain ⟨t, e⟩ := He.str_ok X G z
      exact ⟨_, .str y, e, ⟨t, rfl⟩, rfl⟩
    | cd kvs =>
      have e := He.glo_ok X G z
      have q := List.all_eq_true.mp hcd _ hx
      exact ⟨_, .ref _, e, rfl, _, rfl, by rw [hW]; exact q⟩
    | non => cases ho
    | bl b => cases ho
  defs := fun d hd => by
    obtain ⟨fd, F⟩ := S.t.d.defs (d := dOf d) (List.mem_map_of_mem hd)
    exact ⟨_, fd, d.name, [], He.glo_ok X G (S.t.d.facts (f := .glo d.name) (List.mem_append_left _ (List.mem_map_of_mem hd))), F⟩
/-- what is known of the law's promise at the head's heap h -/
def LawAt (l : PySem.W.OpenLaw) (w : World) (K : PySem.W.Frag) (k n : Nat) (x : Str) (mg : Str → Option Value) (fa : Addr) : Prop :=
  ∃ (fd : FuncData) (sp : Sp), (∀ (s : Shared) (u : Value), BindsTo s fd ⟨[u], []⟩ [(x, u)]) ∧
    (∀ (H : Hp) (a : Addr) (ns : List Int), ns.length ≤ n → (∀ z ∈ ns, Builtin.Int.intBits z ≤ 1048576) → Only H → SqL K H a (ns.map V.int) → sp [.ref a] H (fun v _ => v = .bl true) fun _ _ _ => False) ∧
    ∀ base : Heap, K.In base → base.Ns mainGlobals mg → FnOk l.prog w K mg base (L2N.CX l.prog w) k fa fd [x] sp
theorem walk_w {l : PySem.W.OpenLaw} {n k : Nat} {q : Program} {loose : List Str} {XP : (Str → Option Value) → Heap → Prop} {YP : World → Heap → Prop} {d : DefRec} {x : Str}
    (hn : l.most = some n) (hn2 : n ≤ sizeLine) (hdf : d.params.defaults = []) (hr : Room k callerA)
    (F : ∀ (w : World) (mg : Str → Option Value) (fa : Addr) (h : Heap), YP w h → h.Ns mainGlobals mg → mg d.name = some (.ref fa) → ∃ K : PySem.W.Frag, K.In h ∧ LawAt l w K k n x mg fa) :
    PySem.W.WalkO q loose XP YP l.row.toRowW d [] (fun f vs => PySem.call f vs) := by
  refine Att.attach_callB hn hdf fun w s₀ s₁ mg mb fa o pm cd doc a vs ns G Y ho hd hcd hmg hobj hints hlen hbits hg => ?_
  obtain ⟨K, KX, fd, sp, hb, hsp, hF⟩ := F w mg fa _ Y G.T.g hmg
  exact law_call KX G.T.g G.T.b G.T.builtins G.T.nolimit hg hobj hints (Nat.le_trans hlen hn2) hr hF hb (fun H hO hS => hsp H a ns hlen hbits hO hS) fun H e s' ⟨_, _, _, _, _, _, _, _, _, _, _, _, z⟩ => z
/-- the law's promise from what the mini law tells -/
theorem law_at {l : PySem.W.OpenLaw} {k n i : Nat} {d : FnD} {x : Str} {fa : Addr} (S : He.SaysX (FAS cs tab more) (tab.map dOf) [] [] ex w h K) (hl : cs.all (fun q => litOk q.2) = true) (hex : ex K = true → exOk cs K = true) (X : K.In h) (G : h.Ns mainGlobals mg) (hc : tab.all (chkFn cs (nameOf tab)) = true) (hd : tab[i]? = some d) (hps : d.ps = [x]) (hfa : mg d.name = some (.ref fa))
    (W : Wd) (hW : W.K = K) (hlaw : ∀ ns : List Int, ns.length ≤ n → (∀ z ∈ ns, Builtin.Int.intBits z ≤ 1048576) → ∃ h', callN (fnOf tab) (k + 1) i [.scr ns] [] = .ok (.bl true) h') : LawAt l w K (k + 1) n x mg fa := by
  obtain ⟨fd, F⟩ := S.t.d.defs (d := dOf d) (List.mem_map_of_mem (List.mem_of_getElem? hd))
  have hm := He.glo_ok X G (S.t.d.facts (f := .glo d.name) (List.mem_append_left _ (List.mem_map_of_mem (f := fun d => He.Fa.glo d.name) (List.mem_of_getElem? hd))))
  rw [hfa] at hm
  cases hm
  obtain ⟨n1, n2⟩ := fn_nd (List.all_eq_true.mp hc d (List.mem_of_getElem? hd))
  have hb := FunD.bindsA (ps := d.ps) F (binds_plain n1 n2)
  rw [hps] at hb
  refine ⟨fd, spOf W (callN (fnOf tab) (k + 1) i), fun s u => hb s [u] rfl, fun H a ns hlen hbits hO hS => ?_, fun base hKb hNs => ?_⟩
  · obtain ⟨h', e⟩ := hlaw ns hlen hbits
    have hfz : ∃ o, H a = some (.frz o (.lst (ns.map V.int))) := by
      rcases hS with (z | z) | ⟨o, its, m, hk, hcl, _⟩
      · rcases hO a with y | ⟨o, xs, y⟩
        · rw [z] at y; cases y
        · rw [z] at y; cases y
      · exact z
      · exact absurd hcl (noLst_ok (Bool.and_eq_true_iff.mp (hex S.more)).1 hk)
    obtain ⟨o, hfz⟩ := hfz
    refine ⟨⟨[], []⟩, [], [.scr ns], ⟨.nil, rfl, fun _ _ _ z => by simp at z, fun _ z => by cases z⟩, .cons (.scr hfz) .nil, ?_⟩
    rw [e]
    intro ι' H' v _ _ r
    cases r
    rfl
  · rw [← hps]
    have F0 : Facts W l.prog w K mg base cs tab := facts_of S hl (Bool.and_eq_true_iff.mp (hex S.more)).2 X G hW
    exact fn_ok F0 (List.all_eq_true.mp hc d (List.mem_of_getElem? hd)) hd F (fun f d' q => fn_sound F0 hc k f d' q)
end
end Mn

set_option maxHeartbeats 4000000
/-! Mn: the defs that many laws share, what they do. -/
namespace Mn
def fnDip : Fn := ⟨3, 2, (.seq (.sti (.var 0) (.lit (.int 2)) (.bin .add (.idx (.var 0) (.lit (.int 2))) (.lit (.int 1))))
      (.seq (.ite (.cmp .gt (.idx (.var 0) (.lit (.int 0))) (.lit (.int 0))) (.seq (.unp (.var 0) (.lit (.int 0)) 2 (.blt .divmod (.cons (.idx (.var 0) (.lit (.int 0))) (.cons (.var 1) .nil))))
      (.seq (.rtn (.var 2))
      .nil)) .nil)
      (.seq (.sti (.var 0) (.lit (.int 1)) (.bin .mod (.blt .int (.cons (.bin .add (.bin .mul (.idx (.var 0) (.lit (.int 1))) (.lit (.int 48271))) (.bin .mul (.lit (.int 30011)) (.idx (.var 0) (.lit (.int 2))))) .nil)) (.lit (.int 2147483399))))
      (.seq (.rtn (.bin .mod (.blt .int (.cons (.bin .fdv (.idx (.var 0) (.lit (.int 1))) (.lit (.int 512))) .nil)) (.var 1)))
      .nil)))), false⟩
/-! ### bounds -/
theorem le_BIG {n : Nat} (h : n ≤ 2 ^ 200) : n < BIG := Nat.lt_of_le_of_lt h (Nat.pow_lt_pow_right (by decide) (by decide))
theorem le_BIGD {n : Nat} (h : n ≤ 2 ^ 200) : n < BIGD := Nat.lt_of_le_of_lt h (Nat.pow_lt_pow_right (by decide) (by decide))
theorem bin_mul {i j : Int} {h : MH} (hi : i.natAbs ≤ 2 ^ 200) (hj : j.natAbs ≤ 2 ^ 200) : binD .mul (.int i) (.int j) h = .ok (.int (i * j)) h := by
  simp only [binD, mulD]
  rw [if_pos ⟨le_BIG hi, le_BIG hj⟩]
  rfl
theorem bin_mod {i j : Int} {h : MH} (hj : 0 < j) : binD .mod (.int i) (.int j) h = .ok (.int (i % j)) h := by
  simp only [binD]
  rw [if_pos hj]
  rfl
theorem plain_int {i : Int} : plain (.int i) = true := rfl
theorem take_set {h : MH} {j : Nat} {c : Cell} : List.take (List.length h) (List.set h j c) = List.set h j c := List.take_of_length_le (by simp)
theorem blt_int {i : Int} {h : MH} : bltD .int [.int i] h = .ok (.int i) h := rfl
theorem bin_fdv {i j : Int} {h : MH} (hj : 0 < j) (hj2 : j ≤ 2 ^ 200) : binD .fdv (.int i) (.int j) h = .ok (.int (i / j)) h := by
  simp only [binD]
  rw [if_pos ⟨hj, le_BIGD (by omega)⟩]
  rfl
theorem bin_add {i j : Int} {h : MH} : binD .add (.int i) (.int j) h = .ok (.int (i + j)) h := rfl
theorem bin_sub {i j : Int} {h : MH} : binD .sub (.int i) (.int j) h = .ok (.int (i - j)) h := rfl
theorem blt_divmod {i j : Int} {h : MH} (hj : 0 < j) (hj2 : j ≤ 2 ^ 200) : bltD .divmod [.int i, .int j] h = .ok (.tup [.int (i / j), .int (i % j)]) h := by
  simp only [bltD]
  rw [if_pos ⟨hj, le_BIGD (by omega)⟩]
theorem idx_ref {j : Nat} {h : MH} {xs : List D} {i : Int} {d : D} (hj : h[j]? = some (.lst xs)) (hd : L2.atI xs i = some d) : idxD (.ref j) (.int i) h = .ok d h := by
  simp [idxD, items, lItems, hj, hd]
theorem set_ref {j : Nat} {h : MH} {xs ys : List D} {i : Int} {z : D} {env : Env} (hj : h[j]? = some (.lst xs)) (hd : putI xs i z = some ys) (hp : plains ys = true) : setCell j (fun xs => putI xs i z) env h = .ok (.nx env) (h.set j (.lst ys)) := by
  simp [setCell, hj, hd, hp]
theorem cmp_gt {i j : Int} {h : MH} : cmpD .gt (.int i) (.int j) h = .ok (.bl (decide (j < i))) h := rfl
theorem get_set {j : Nat} {h : MH} {c : Cell} (hl : j < h.length) : (h.set j c)[j]? = some c := by simp [hl]
/-- the jar at j, at most C dips so far -/
structure Jar (h : MH) (j : Nat) (C : Int) : Prop where
  ex : ∃ a b c : Int, h[j]? = some (.lst [.int a, .int b, .int c]) ∧ 0 ≤ a ∧ 0 ≤ b ∧ b < 4294967296 ∧ 0 ≤ c ∧ c ≤ C
theorem dip1 (cf : Nat → List D → M D) {j : Nat} {h : MH} {a b c top : Int} (hj : h[j]? = some (.lst [.int a, .int b, .int c])) (ha : 0 < a) (hb : 0 ≤ b) (hb2 : b < 4294967296) (hc : 0 ≤ c) (hc2 : c ≤ 1000000000000) (ht : 0 < top) (ht2 : top ≤ 1000000000000) :
    runFn cf fnDip [.ref j, .int top] h = .ok (.int (a % top)) (h.set j (.lst [.int (a / top), .int b, .int (c + 1)])) := by
  have hl : j < h.length := by
    rcases Nat.lt_or_ge j h.length with z | z
    · exact z
    · rw [List.getElem?_eq_none z] at hj; cases hj
  have ht3 : top ≤ 2 ^ 200 := Int.le_trans ht2 (by decide)
  have i1 : idxD (.ref j) (.int 2) h = .ok (.int c) h := idx_ref hj rfl
  have s1 : ∀ env, setCell j (fun xs => putI xs 2 (.int (c + 1))) env h = .ok (.nx env) (h.set j (.lst [.int a, .int b, .int (c + 1)])) := fun env => set_ref hj rfl rfl
  have g1 : (h.set j (.lst [.int a, .int b, .int (c + 1)]))[j]? = some (.lst [.int a, .int b, .int (c + 1)]) := get_set hl
  have i2 : idxD (.ref j) (.int 0) (h.set j (.lst [.int a, .int b, .int (c + 1)])) = .ok (.int a) _ := idx_ref g1 rfl
  have s2 : ∀ env, setCell j (fun xs => putI xs 0 (.int (a / top))) env (h.set j (.lst [.int a, .int b, .int (c + 1)])) = .ok (.nx env) (h.set j (.lst [.int (a / top), .int b, .int (c + 1)])) := fun env => by
    rw [set_ref g1 (ys := [.int (a / top), .int b, .int (c + 1)]) rfl rfl, List.set_set]
  simp [runFn, fnDip, exS, ev, evL, bnd, R.bnd, onE, ret, Lit.d, i1, s1, i2, s2, bin_add, cmp_gt, blt_divmod ht ht3, ha, trM, ofH, tru, fin, plain_int, take_set]
theorem dip0 (cf : Nat → List D → M D) {j : Nat} {h : MH} {b c top : Int} (hj : h[j]? = some (.lst [.int 0, .int b, .int c])) (hb : 0 ≤ b) (hb2 : b < 4294967296) (hc : 0 ≤ c) (hc2 : c ≤ 1000000000000) (ht : 0 < top) (ht2 : top ≤ 1000000000000) :
    runFn cf fnDip [.ref j, .int top] h = .ok (.int ((b * 48271 + 30011 * (c + 1)) % 2147483399 / 512 % top)) (h.set j (.lst [.int 0, .int ((b * 48271 + 30011 * (c + 1)) % 2147483399), .int (c + 1)])) := by
  have hl : j < h.length := by
    rcases Nat.lt_or_ge j h.length with z | z
    · exact z
    · rw [List.getElem?_eq_none z] at hj; cases hj
  have i1 : idxD (.ref j) (.int 2) h = .ok (.int c) h := idx_ref hj rfl
  have s1 : ∀ env, setCell j (fun xs => putI xs 2 (.int (c + 1))) env h = .ok (.nx env) (h.set j (.lst [.int 0, .int b, .int (c + 1)])) := fun env => set_ref hj rfl rfl
  have g1 : (h.set j (.lst [.int 0, .int b, .int (c + 1)]))[j]? = some (.lst [.int 0, .int b, .int (c + 1)]) := get_set hl
  have i2 : idxD (.ref j) (.int 0) (h.set j (.lst [.int 0, .int b, .int (c + 1)])) = .ok (.int 0) _ := idx_ref g1 rfl
  have i3 : idxD (.ref j) (.int 1) (h.set j (.lst [.int 0, .int b, .int (c + 1)])) = .ok (.int b) _ := idx_ref g1 rfl
  have i4 : idxD (.ref j) (.int 2) (h.set j (.lst [.int 0, .int b, .int (c + 1)])) = .ok (.int (c + 1)) _ := idx_ref g1 rfl
  have s2 : ∀ env z, setCell j (fun xs => putI xs 1 (.int z)) env (h.set j (.lst [.int 0, .int b, .int (c + 1)])) = .ok (.nx env) (h.set j (.lst [.int 0, .int z, .int (c + 1)])) := fun env z => by
    rw [set_ref g1 (ys := [.int 0, .int z, .int (c + 1)]) rfl rfl, List.set_set]
  have i5 : ∀ z, idxD (.ref j) (.int 1) (h.set j (.lst [.int 0, .int z, .int (c + 1)])) = .ok (.int z) (h.set j (.lst [.int 0, .int z, .int (c + 1)])) := fun z => idx_ref (get_set hl) rfl
  have m1 : ∀ h, binD .mul (.int b) (.int 48271) h = .ok (.int (b * 48271)) h := fun h => bin_mul (by omega) (by decide)
  have m2 : ∀ h, binD .mul (.int 30011) (.int (c + 1)) h = .ok (.int (30011 * (c + 1))) h := fun h => bin_mul (by decide) (by omega)
  have m3 : ∀ i h, binD .mod (.int i) (.int 2147483399) h = .ok (.int (i % 2147483399)) h := fun i h => bin_mod (by decide)
  have m4 : ∀ i h, binD .fdv (.int i) (.int 512) h = .ok (.int (i / 512)) h := fun i h => bin_fdv (by decide) (by decide)
  have m5 : ∀ i h, binD .mod (.int i) (.int top) h = .ok (.int (i % top)) h := fun i h => bin_mod ht
  simp [runFn, fnDip, exS, ev, evL, bnd, R.bnd, onE, ret, Lit.d, i1, s1, i2, i3, i4, s2, i5, bin_add, cmp_gt, m1, m2, m3, m4, m5, blt_int, trM, ofH, tru, fin, plain_int, take_set]
/-- a dip -/
theorem dip (cf : Nat → List D → M D) {j : Nat} {h : MH} {C top : Int} (J : Jar h j C) (hC : C ≤ 1000000000000) (ht : 0 < top) (ht2 : top ≤ 1000000000000) :
    ∃ r h', runFn cf fnDip [.ref j, .int top] h = .ok (.int r) h' ∧ 0 ≤ r ∧ r < top ∧ Jar h' j (C + 1) ∧ ∃ c, h' = h.set j c := by
  obtain ⟨a, b, c, hj, ha, hb, hb2, hc, hc2⟩ := J.ex
  have hl : j < h.length := by
    rcases Nat.lt_or_ge j h.length with z | z
    · exact z
    · rw [List.getElem?_eq_none z] at hj; cases hj
  rcases Int.lt_or_eq_of_le ha with ha | ha
  · exact ⟨_, _, dip1 cf hj ha hb hb2 hc (by omega) ht ht2, Int.emod_nonneg _ (by omega), Int.emod_lt_of_pos _ ht, ⟨_, _, _, get_set hl, Int.ediv_nonneg (by omega) (by omega), hb, hb2, by omega, by omega⟩, _, rfl⟩
  · subst ha
    refine ⟨_, _, dip0 cf hj hb hb2 hc (by omega) ht ht2, Int.emod_nonneg _ (by omega), Int.emod_lt_of_pos _ ht, ⟨_, _, _, get_set hl, Int.le_refl _, Int.emod_nonneg _ (by decide), ?_, by omega, by omega⟩, _, rfl⟩
    have := Int.emod_lt_of_pos (b * 48271 + 30011 * (c + 1)) (show (0 : Int) < 2147483399 by decide)
    omega
end Mn

set_option maxHeartbeats 4000000
/-! Mn: greatest common divisors, fractions in lowest terms. -/
namespace Mn
abbrev oI (i : Int) : Option D := some (.int i)
theorem whl_end {c : Env → M Bool} {body : Env → M Fl} {env : Env} {h : MH} (n : Nat) (hc : c env h = .ok false h) : whlN c body (n + 1) env h = .ok (.nx env) h := by
  rw [whlN]
  simp only [onE, hc]
  rfl
/-- Euclid's turns -/
theorem euclid {c : Env → M Bool} {body : Env → M Fl} (hc : ∀ (a b : Nat) h, c [oI a, oI b] h = .ok (decide (b ≠ 0)) h) (hb : ∀ (a b : Nat) h, 0 < b → body [oI a, oI b] h = .ok (.nx [oI b, oI ((a % b : Nat) : Int)]) h) (h : MH) :
    ∀ (k n a b : Nat), b < 2 ^ k → 2 * k + 1 ≤ n → whlN c body n [oI a, oI b] h = .ok (.nx [oI (Nat.gcd a b : Nat), oI 0]) h
  | 0, n, a, b, hk, hn => by
    obtain ⟨n, rfl⟩ : ∃ m, n = m + 1 := ⟨n - 1, by omega⟩
    have : b = 0 := by simpa using hk
    subst this
    rw [Nat.gcd_zero_right]
    exact whl_end n (by simpa using hc a 0 h)
  | k + 1, n, a, b, hk, hn => by
    obtain ⟨n, rfl⟩ : ∃ m, n = m + 1 + 1 + 1 := ⟨n - 3, by omega⟩
    rcases Nat.eq_zero_or_pos b with hz | hz
    · subst hz
      rw [Nat.gcd_zero_right]
      exact whl_end _ (by simpa using hc a 0 h)
    · have e1 : whlN c body (n + 1 + 1 + 1) [oI a, oI b] h = whlN c body (n + 1 + 1) [oI b, oI ((a % b : Nat) : Int)] h := by
        rw [whlN]
        simp only [onE, hc]
        rw [show decide (b ≠ 0) = true from decide_eq_true (by omega)]
        simp only [if_true]
        rw [hb a b h hz]
      rw [e1]
      have g1 : Nat.gcd a b = Nat.gcd b (a % b) := by rw [Nat.gcd_comm a b, Nat.gcd_rec b a, Nat.gcd_comm]
      rcases Nat.eq_zero_or_pos (a % b) with hr | hr
      · rw [hr, g1, hr, Nat.gcd_zero_right]
        exact whl_end _ (by simpa using hc b 0 h)
      · have e2 : whlN c body (n + 1 + 1) [oI b, oI ((a % b : Nat) : Int)] h = whlN c body (n + 1) [oI ((a % b : Nat) : Int), oI ((b % (a % b) : Nat) : Int)] h := by
          rw [whlN]
          simp only [onE, hc]
          rw [show decide (a % b ≠ 0) = true from decide_eq_true (by omega)]
          simp only [if_true]
          rw [hb b (a % b) h hr]
        rw [e2]
        have g2 : Nat.gcd b (a % b) = Nat.gcd (a % b) (b % (a % b)) := by rw [Nat.gcd_comm b, Nat.gcd_rec (a % b) b, Nat.gcd_comm]
        have lt1 : a % b < b := Nat.mod_lt _ hz
        have lt2 : b % (a % b) < a % b := Nat.mod_lt _ hr
        have dv := Nat.div_add_mod b (a % b)
        have q1 : 1 ≤ b / (a % b) := Nat.div_pos (by omega) hr
        have mm : a % b ≤ (a % b) * (b / (a % b)) := Nat.le_mul_of_pos_right _ q1
        have p2 : 2 ^ (k + 1) = 2 * 2 ^ k := by rw [Nat.pow_succ]; omega
        rw [euclid hc hb h k (n + 1) (a % b) (b % (a % b)) (by omega) (by omega), g1, g2]
def fnGcd : Fn := ⟨2, 2, (.seq (.par 0 1 (.cons (.blt .abs (.cons (.var 0) .nil)) (.cons (.blt .abs (.cons (.var 1) .nil)) .nil)))
      (.seq (.whl (.cmp .ne (.var 1) (.lit (.int 0))) (.seq (.par 0 1 (.cons (.var 1) (.cons (.bin .mod (.var 0) (.var 1)) .nil))) .nil))
      (.seq (.rtn (.var 0)) .nil))), false⟩
def fnGcdL : Fn := ⟨2, 2, (.seq (.par 0 1 (.cons (.blt .abs (.cons (.var 0) .nil)) (.cons (.blt .abs (.cons (.var 1) .nil)) .nil)))
      (.seq (.whl (.cmp .gt (.var 1) (.lit (.int 0))) (.seq (.par 0 1 (.cons (.var 1) (.cons (.bin .mod (.blt .int (.cons (.var 0) .nil)) (.var 1)) .nil))) .nil))
      (.seq (.rtn (.var 0)) .nil))), false⟩
theorem absI_eq (i : Int) : absI i = (i.natAbs : Int) := by
  unfold absI
  split <;> omega
theorem blt_abs {i : Int} {h : MH} : bltD .abs [.int i] h = .ok (.int (i.natAbs : Int)) h := by
  show R.ok (D.int (absI i)) h = _
  rw [absI_eq]
theorem eqO_int {i j : Int} {h : MH} : eqO (.int i) (.int j) h = some (decide (i = j)) := by
  have e : (i == j) = decide (i = j) := by by_cases e : i = j <;> simp [e]
  rw [← e]
  rfl
theorem cmp_eq {i j : Int} {h : MH} : cmpD .eq (.int i) (.int j) h = .ok (.bl (decide (i = j))) h := by
  simp [cmpD, ofH, eqO_int]
theorem cmp_ne {i j : Int} {h : MH} : cmpD .ne (.int i) (.int j) h = .ok (.bl (decide (i ≠ j))) h := by
  simp [cmpD, ofH, eqO_int]
theorem cmp_lt {i j : Int} {h : MH} : cmpD .lt (.int i) (.int j) h = .ok (.bl (decide (i < j))) h := rfl
theorem cmp_le {i j : Int} {h : MH} : cmpD .le (.int i) (.int j) h = .ok (.bl (decide (i ≤ j))) h := rfl
theorem cmp_ge {i j : Int} {h : MH} : cmpD .ge (.int i) (.int j) h = .ok (.bl (decide (j ≤ i))) h := rfl
theorem cmp_ne0 {b : Nat} {h : MH} : cmpD .ne (.int (b : Int)) (.int 0) h = .ok (.bl (decide (b ≠ 0))) h := by
  rw [cmp_ne]
  congr 2
  simp
theorem gcd_ok (cf : Nat → List D → M D) {a b : Int} {h : MH} (hb : b.natAbs < 2 ^ 100000) : runFn cf fnGcd [.int a, .int b] h = .ok (.int (Int.gcd a b : Nat)) h := by
  have E := euclid (c := fun env => bnd (ev cf (.cmp .ne (.var 1) (.lit (.int 0))) env) trM) (body := exS cf (.seq (.par 0 1 (.cons (.var 1) (.cons (.bin .mod (.var 0) (.var 1)) .nil))) .nil))
    (fun a b h => by simp [ev, bnd, R.bnd, ret, Lit.d, cmp_ne0, trM, ofH, tru]) (fun a b h hb => by
      have hb : (0 : Int) < b := by omega
      simp [exS, ev, evL, bnd, R.bnd, ret, onE, bin_mod hb]) h 100000 TURNS a.natAbs b.natAbs hb (by decide)
  have hg : Nat.gcd a.natAbs b.natAbs = Int.gcd a b := rfl
  rw [hg] at E
  simp [runFn, fnGcd, exS, ev, evL, bnd, R.bnd, onE, ret, Lit.d, blt_abs] at E ⊢
  rw [E]
  simp [fin, plain_int]
theorem gcdL_ok (cf : Nat → List D → M D) {a b : Int} {h : MH} (hb : b.natAbs < 2 ^ 100000) : runFn cf fnGcdL [.int a, .int b] h = .ok (.int (Int.gcd a b : Nat)) h := by
  have E := euclid (c := fun env => bnd (ev cf (.cmp .gt (.var 1) (.lit (.int 0))) env) trM) (body := exS cf (.seq (.par 0 1 (.cons (.var 1) (.cons (.bin .mod (.blt .int (.cons (.var 0) .nil)) (.var 1)) .nil))) .nil))
    (fun a b h => by
      have e : decide ((0 : Int) < (b : Int)) = decide (b ≠ 0) := by
        by_cases e : b = 0
        · simp [e]
        · simp [e]; omega
      simp only [ev, bnd, R.bnd, ret, Lit.d, cmp_gt, trM, ofH, tru, List.getElem?_cons_succ, List.getElem?_cons_zero, e]) (fun a b h hb => by
      have hb : (0 : Int) < b := by omega
      simp [exS, ev, evL, bnd, R.bnd, ret, onE, bin_mod hb, blt_int]) h 100000 TURNS a.natAbs b.natAbs hb (by decide)
  have hg : Nat.gcd a.natAbs b.natAbs = Int.gcd a b := rfl
  rw [hg] at E
  simp [runFn, fnGcdL, exS, ev, evL, bnd, R.bnd, onE, ret, Lit.d, blt_abs] at E ⊢
  rw [E]
  simp [fin, plain_int]
/-! ### fractions -/
/-- a fraction's value -/
def fr (q : Rat) : D := .tup [.int q.num, .int (q.den : Int)]
def fnLow (c : Nat) : Fn := ⟨3, 2, (.seq (.asg (.nm 2) (.call c (.cons (.var 0) (.cons (.var 1) .nil))))
      (.seq (.rtn (.tup (.cons (.bin .fdv (.var 0) (.var 2)) (.cons (.bin .fdv (.var 1) (.var 2)) .nil)))) .nil)), false⟩
theorem le_BIGD2 {n : Nat} (h : n ≤ 2 ^ 4000) : n < BIGD := Nat.lt_of_le_of_lt h (Nat.pow_lt_pow_right (by decide) (by decide))
theorem le_BIG2 {n : Nat} (h : n ≤ 2 ^ 4000) : n < BIG := Nat.lt_of_le_of_lt h (Nat.pow_lt_pow_right (by decide) (by decide))
theorem bin_fdv2 {i j : Int} {h : MH} (hj : 0 < j) (hj2 : j.natAbs ≤ 2 ^ 4000) : binD .fdv (.int i) (.int j) h = .ok (.int (i / j)) h := by
  simp only [binD]
  rw [if_pos ⟨hj, le_BIGD2 hj2⟩]
  rfl
theorem bin_mul2 {i j : Int} {h : MH} (hi : i.natAbs ≤ 2 ^ 4000) (hj : j.natAbs ≤ 2 ^ 4000) : binD .mul (.int i) (.int j) h = .ok (.int (i * j)) h := by
  simp only [binD, mulD]
  rw [if_pos ⟨le_BIG2 hi, le_BIG2 hj⟩]
  rfl
theorem fr_mk {t : Int} {b : Nat} (hb : b ≠ 0) : fr (mkRat t b) = .tup [.int (t / (Int.gcd t b : Nat)), .int ((b : Int) / (Int.gcd t b : Nat))] := by
  unfold fr mkRat
  rw [dif_neg hb, Rat.normalize_eq]
  rfl
theorem low_ok {cf : Nat → List D → M D} {c : Nat} {t : Int} {b : Nat} {h : MH} (hc : ∀ a b : Int, b.natAbs < 2 ^ 100000 → cf c [.int a, .int b] h = .ok (.int (Int.gcd a b : Nat)) h) (hb : 0 < b) (hb2 : b ≤ 2 ^ 4000) : runFn cf (fnLow c) [.int t, .int b] h = .ok (fr (mkRat t b)) h := by
  have hg : 0 < Int.gcd t b := Int.gcd_pos_of_ne_zero_right _ (by omega)
  have hg2 : Int.gcd t b ≤ b := by
    have := Int.gcd_le_natAbs_right t (b := (b : Int)) (by omega)
    simpa using this
  have e := hc t b (by
    have : (2 : Nat) ^ 4000 < 2 ^ 100000 := Nat.pow_lt_pow_right (by decide) (by decide)
    simp only [Int.natAbs_natCast]
    omega)
  have d : ∀ i h, binD .fdv (.int i) (.int (Int.gcd t b : Nat)) h = .ok (.int (i / (Int.gcd t b : Nat))) h := fun i h => bin_fdv2 (by omega) (by
    simp only [Int.natAbs_natCast]
    omega)
  rw [fr_mk (by omega)]
  simp [runFn, fnLow, exS, ev, evL, bnd, R.bnd, onE, ret, e, d, Mn.bind, fin, plain, plains, SZ]
/-- at most n binary digits above and below -/
def Sz (n : Nat) (p : Rat) : Prop := p.num.natAbs ≤ 2 ^ n ∧ p.den ≤ 2 ^ n
theorem Sz.mono {n m : Nat} {p : Rat} (h : Sz n p) (hm : n ≤ m) : Sz m p := by
  have := Nat.pow_le_pow_right (show 0 < 2 by decide) hm
  exact ⟨Nat.le_trans h.1 this, Nat.le_trans h.2 this⟩
theorem sz_mk {n : Nat} {t : Int} {b : Nat} (hb : b ≠ 0) (ht : t.natAbs ≤ 2 ^ n) (hb2 : b ≤ 2 ^ n) : Sz n (mkRat t b) := by
  unfold mkRat
  rw [dif_neg hb, Rat.normalize_eq]
  refine ⟨?_, Nat.le_trans (Nat.div_le_self _ _) hb2⟩
  show (t / ((t.natAbs.gcd b : Nat) : Int)).natAbs ≤ _
  refine Nat.le_trans ?_ ht
  have hg : (((t.natAbs.gcd b : Nat) : Int)) ∣ t := by
    have := Nat.gcd_dvd_left t.natAbs b
    exact Int.ofNat_dvd_left.mpr this
  rw [Int.natAbs_ediv_of_dvd hg]
  exact Nat.div_le_self _ _
theorem mul_le_pow {a b n m : Nat} (ha : a ≤ 2 ^ n) (hb : b ≤ 2 ^ m) : a * b ≤ 2 ^ (n + m) := by
  rw [Nat.pow_add]
  exact Nat.mul_le_mul ha hb
theorem Sz.add {n m : Nat} {p q : Rat} (hp : Sz n p) (hq : Sz m q) : Sz (n + m + 1) (p + q) := by
  rw [Rat.add_def']
  have h1 := mul_le_pow hp.1 hq.2
  have h2 := mul_le_pow hq.1 hp.2
  have h3 := mul_le_pow hp.2 hq.2
  rw [Nat.add_comm m n] at h2
  refine sz_mk (Nat.mul_ne_zero p.den_nz q.den_nz) ?_ ?_
  · refine Nat.le_trans (Int.natAbs_add_le _ _) ?_
    rw [Int.natAbs_mul, Int.natAbs_mul, Int.natAbs_natCast, Int.natAbs_natCast, Nat.pow_succ]
    omega
  · rw [Nat.pow_succ]
    omega
theorem Sz.sub {n m : Nat} {p q : Rat} (hp : Sz n p) (hq : Sz m q) : Sz (n + m + 1) (p - q) := by
  rw [Rat.sub_def']
  have h1 := mul_le_pow hp.1 hq.2
  have h2 := mul_le_pow hq.1 hp.2
  have h3 := mul_le_pow hp.2 hq.2
  rw [Nat.add_comm m n] at h2
  refine sz_mk (Nat.mul_ne_zero p.den_nz q.den_nz) ?_ ?_
  · refine Nat.le_trans (Int.natAbs_sub_le _ _) ?_
    rw [Int.natAbs_mul, Int.natAbs_mul, Int.natAbs_natCast, Int.natAbs_natCast, Nat.pow_succ]
    omega
  · rw [Nat.pow_succ]
    omega
theorem Sz.mul {n m : Nat} {p q : Rat} (hp : Sz n p) (hq : Sz m q) : Sz (n + m) (p * q) := by
  rw [Rat.mul_def']
  refine sz_mk (Nat.mul_ne_zero p.den_nz q.den_nz) ?_ (mul_le_pow hp.2 hq.2)
  rw [Int.natAbs_mul]
  exact mul_le_pow hp.1 hq.1
abbrev e0 (v : Nat) : E := .idx (.var v) (.lit (.int 0))
abbrev e1 (v : Nat) : E := .idx (.var v) (.lit (.int 1))
def fnPlus (l : Nat) : Fn := ⟨2, 2, (.seq (.rtn (.call l (.cons (.bin .add (.bin .mul (e0 0) (e1 1)) (.bin .mul (e0 1) (e1 0))) (.cons (.bin .mul (e1 0) (e1 1)) .nil)))) .nil), false⟩
def fnMinus (l : Nat) : Fn := ⟨2, 2, (.seq (.rtn (.call l (.cons (.bin .sub (.bin .mul (e0 0) (e1 1)) (.bin .mul (e0 1) (e1 0))) (.cons (.bin .mul (e1 0) (e1 1)) .nil)))) .nil), false⟩
def fnTimes (l : Nat) : Fn := ⟨2, 2, (.seq (.rtn (.call l (.cons (.bin .mul (e0 0) (e0 1)) (.cons (.bin .mul (e1 0) (e1 1)) .nil)))) .nil), false⟩
def fnLess : Fn := ⟨2, 2, (.seq (.rtn (.cmp .lt (.bin .mul (e0 0) (e1 1)) (.bin .mul (e0 1) (e1 0)))) .nil), false⟩
/-- cf c brings to lowest terms -/
def LowAt (cf : Nat → List D → M D) (c : Nat) : Prop := ∀ (t : Int) (b : Nat) (h : MH), 0 < b → b ≤ 2 ^ 4000 → cf c [.int t, .int b] h = .ok (fr (mkRat t b)) h
theorem idx_fr0 {p : Rat} {h : MH} : idxD (fr p) (.int 0) h = .ok (.int p.num) h := rfl
theorem idx_fr1 {p : Rat} {h : MH} : idxD (fr p) (.int 1) h = .ok (.int (p.den : Int)) h := rfl
theorem plain_fr {p : Rat} : plain (fr p) = true := rfl
theorem fin_plain {d : D} {h : MH} (hp : plain d = true) (hr : ∀ i, d ≠ .ref i) : fin false h.length d h = .ok d h := by
  unfold fin
  cases d <;> simp_all
theorem fin_fr {p : Rat} {h : MH} : fin false h.length (fr p) h = .ok (fr p) h := fin_plain plain_fr (fun i => by unfold fr; intro z; cases z)
theorem mul_fr {i j : Int} {h : MH} {n m : Nat} (hi : i.natAbs ≤ 2 ^ n) (hj : j.natAbs ≤ 2 ^ m) (hn : n ≤ 4000) (hm : m ≤ 4000) : binD .mul (.int i) (.int j) h = .ok (.int (i * j)) h :=
  bin_mul2 (Nat.le_trans hi (Nat.pow_le_pow_right (by decide) hn)) (Nat.le_trans hj (Nat.pow_le_pow_right (by decide) hm))
section
variable {cf : Nat → List D → M D} {c n : Nat} {p q : Rat} {h : MH}
theorem dd_le (hp : Sz 1900 p) (hq : Sz 1900 q) : p.den * q.den ≤ 2 ^ 4000 := Nat.le_trans (mul_le_pow hp.2 hq.2) (Nat.pow_le_pow_right (by decide) (by decide))
theorem dd_pos : 0 < p.den * q.den := Nat.mul_pos p.den_pos q.den_pos
theorem plus_ok (L : LowAt cf c) (hp : Sz 1900 p) (hq : Sz 1900 q) : runFn cf (fnPlus c) [fr p, fr q] h = .ok (fr (p + q)) h := by
  have m1 : ∀ h, binD .mul (.int p.num) (.int q.den) h = .ok (.int (p.num * q.den)) h := fun h => mul_fr hp.1 hq.2 (by decide) (by decide)
  have m2 : ∀ h, binD .mul (.int q.num) (.int p.den) h = .ok (.int (q.num * p.den)) h := fun h => mul_fr hq.1 hp.2 (by decide) (by decide)
  have m3 : ∀ h, binD .mul (.int p.den) (.int q.den) h = .ok (.int ((p.den : Int) * (q.den : Int))) h := fun h => mul_fr (n := 1900) (m := 1900) (by rw [Int.natAbs_natCast]; exact hp.2) (by rw [Int.natAbs_natCast]; exact hq.2) (by decide) (by decide)
  rw [Rat.add_def']
  have e : ∀ h, cf c [.int (p.num * q.den + q.num * p.den), .int ((p.den : Int) * (q.den : Int))] h = .ok (fr (mkRat (p.num * q.den + q.num * p.den) (p.den * q.den))) h := fun h => by
    have := L (p.num * q.den + q.num * p.den) (p.den * q.den) h dd_pos (dd_le hp hq)
    rwa [Int.natCast_mul] at this
  simp [runFn, fnPlus, exS, ev, evL, bnd, R.bnd, onE, ret, Lit.d, idx_fr0, idx_fr1, m1, m2, m3, bin_add, e, fin_fr]
theorem minus_ok (L : LowAt cf c) (hp : Sz 1900 p) (hq : Sz 1900 q) : runFn cf (fnMinus c) [fr p, fr q] h = .ok (fr (p - q)) h := by
  have m1 : ∀ h, binD .mul (.int p.num) (.int q.den) h = .ok (.int (p.num * q.den)) h := fun h => mul_fr hp.1 hq.2 (by decide) (by decide)
  have m2 : ∀ h, binD .mul (.int q.num) (.int p.den) h = .ok (.int (q.num * p.den)) h := fun h => mul_fr hq.1 hp.2 (by decide) (by decide)
  have m3 : ∀ h, binD .mul (.int p.den) (.int q.den) h = .ok (.int ((p.den : Int) * (q.den : Int))) h := fun h => mul_fr (n := 1900) (m := 1900) (by rw [Int.natAbs_natCast]; exact hp.2) (by rw [Int.natAbs_natCast]; exact hq.2) (by decide) (by decide)
  rw [Rat.sub_def']
  have e : ∀ h, cf c [.int (p.num * q.den - q.num * p.den), .int ((p.den : Int) * (q.den : Int))] h = .ok (fr (mkRat (p.num * q.den - q.num * p.den) (p.den * q.den))) h := fun h => by
    have := L (p.num * q.den - q.num * p.den) (p.den * q.den) h dd_pos (dd_le hp hq)
    rwa [Int.natCast_mul] at this
  simp [runFn, fnMinus, exS, ev, evL, bnd, R.bnd, onE, ret, Lit.d, idx_fr0, idx_fr1, m1, m2, m3, bin_sub, e, fin_fr]
theorem times_ok (L : LowAt cf c) (hp : Sz 1900 p) (hq : Sz 1900 q) : runFn cf (fnTimes c) [fr p, fr q] h = .ok (fr (p * q)) h := by
  have m1 : ∀ h, binD .mul (.int p.num) (.int q.num) h = .ok (.int (p.num * q.num)) h := fun h => mul_fr hp.1 hq.1 (by decide) (by decide)
  have m3 : ∀ h, binD .mul (.int p.den) (.int q.den) h = .ok (.int ((p.den : Int) * (q.den : Int))) h := fun h => mul_fr (n := 1900) (m := 1900) (by rw [Int.natAbs_natCast]; exact hp.2) (by rw [Int.natAbs_natCast]; exact hq.2) (by decide) (by decide)
  rw [Rat.mul_def']
  have e : ∀ h, cf c [.int (p.num * q.num), .int ((p.den : Int) * (q.den : Int))] h = .ok (fr (mkRat (p.num * q.num) (p.den * q.den))) h := fun h => by
    have := L (p.num * q.num) (p.den * q.den) h dd_pos (dd_le hp hq)
    rwa [Int.natCast_mul] at this
  simp [runFn, fnTimes, exS, ev, evL, bnd, R.bnd, onE, ret, Lit.d, idx_fr0, idx_fr1, m1, m3, e, fin_fr]
theorem less_ok (hp : Sz 1900 p) (hq : Sz 1900 q) : runFn cf fnLess [fr p, fr q] h = .ok (.bl (decide (p < q))) h := by
  have m1 : ∀ h, binD .mul (.int p.num) (.int q.den) h = .ok (.int (p.num * q.den)) h := fun h => mul_fr hp.1 hq.2 (by decide) (by decide)
  have m2 : ∀ h, binD .mul (.int q.num) (.int p.den) h = .ok (.int (q.num * p.den)) h := fun h => mul_fr hq.1 hp.2 (by decide) (by decide)
  have e : decide (p < q) = decide (p.num * q.den < q.num * p.den) := decide_eq_decide.mpr (Rat.lt_iff p q)
  rw [e]
  simp [runFn, fnLess, exS, ev, evL, bnd, R.bnd, onE, ret, Lit.d, idx_fr0, idx_fr1, m1, m2, cmp_lt, fin, plain]
end
end Mn

set_option maxHeartbeats 4000000
/-! Mn: loops and comprehensions by invariants. -/
namespace Mn
/-- a for that runs through -/
theorem forN_inv {s : Src} {t : Tg} {body : Env → M Fl} {n : Nat} (I : Nat → Env → MH → Prop)
    (step : ∀ k env h, k < n → I k env h → ∃ d env1 env2 h2, s.at k h = some d ∧ bind t d env h = some env1 ∧ body env1 h = .ok (.nx env2) h2 ∧ I (k + 1) env2 h2)
    (done : ∀ env h, I n env h → s.done h = true) : ∀ (m k : Nat) (env : Env) (h : MH), k + m = n → I k env h → ∃ env' h', forN s t body m k env h = .ok (.nx env') h' ∧ I n env' h'
  | 0, k, env, h, e, i => by
    obtain rfl : k = n := by omega
    exact ⟨env, h, by simp [forN, done env h i], i⟩
  | m + 1, k, env, h, e, i => by
    obtain ⟨d, env1, env2, h2, e1, e2, e3, i2⟩ := step k env h (by omega) i
    obtain ⟨env', h', e4, i3⟩ := forN_inv I step done m (k + 1) env2 h2 (by omega) i2
    exact ⟨env', h', by simp [forN, e1, e2, e3, e4], i3⟩
/-- a for that may return -/
theorem forN_ret {s : Src} {t : Tg} {body : Env → M Fl} {n : Nat} (I : Nat → Env → MH → Prop) (Q : D → MH → Prop)
    (step : ∀ k env h, k < n → I k env h → ∃ d env1, s.at k h = some d ∧ bind t d env h = some env1 ∧ ((∃ env2 h2, body env1 h = .ok (.nx env2) h2 ∧ I (k + 1) env2 h2) ∨ ∃ r h2, body env1 h = .ok (.rt r) h2 ∧ Q r h2))
    (done : ∀ env h, I n env h → s.done h = true) : ∀ (m k : Nat) (env : Env) (h : MH), k + m = n → I k env h → (∃ env' h', forN s t body m k env h = .ok (.nx env') h' ∧ I n env' h') ∨ ∃ r h', forN s t body m k env h = .ok (.rt r) h' ∧ Q r h'
  | 0, k, env, h, e, i => by
    obtain rfl : k = n := by omega
    exact .inl ⟨env, h, by simp [forN, done env h i], i⟩
  | m + 1, k, env, h, e, i => by
    obtain ⟨d, env1, e1, e2, e3⟩ := step k env h (by omega) i
    rcases e3 with ⟨env2, h2, e3, i2⟩ | ⟨r, h2, e3, q⟩
    · rcases forN_ret I Q step done m (k + 1) env2 h2 (by omega) i2 with ⟨env', h', e4, i3⟩ | ⟨r, h', e4, q⟩
      · exact .inl ⟨env', h', by simp [forN, e1, e2, e3, e4], i3⟩
      · exact .inr ⟨r, h', by simp [forN, e1, e2, e3, e4], q⟩
    · exact .inr ⟨r, h2, by simp [forN, e1, e2, e3], q⟩
/-- a comprehension: what has been gathered, the heap -/
theorem lcN_inv {s : Src} {t : Tg} {own : List Nat} {cond : Env → M Bool} {elt : Env → M D} {env : Env} {n : Nat} (hn : n ≤ SZ) (I : Nat → List D → MH → Prop)
    (step : ∀ k acc h, k < n → acc.length ≤ k → I k acc h → ∃ d env1 b h1, s.at k h = some d ∧ bind t d (wipeE env own) h = some env1 ∧ cond env1 h = .ok b h1 ∧ (b = false → I (k + 1) acc h1) ∧ (b = true → ∃ z h2, elt env1 h1 = .ok z h2 ∧ I (k + 1) (acc ++ [z]) h2))
    (done : ∀ acc h, I n acc h → s.done h = true) : ∀ (m k : Nat) (acc : List D) (h : MH), k + m = n → acc.length ≤ k → I k acc h → ∃ acc' h', lcN s t own cond elt env m k acc h = .ok acc' h' ∧ I n acc' h' ∧ acc'.length ≤ n
  | 0, k, acc, h, e, hl, i => by
    obtain rfl : k = n := by omega
    exact ⟨acc, h, by simp [lcN, done acc h i], i, hl⟩
  | m + 1, k, acc, h, e, hl, i => by
    obtain ⟨d, env1, b, h1, e1, e2, e3, e4, e5⟩ := step k acc h (by omega) hl i
    cases b with
    | false =>
      obtain ⟨acc', h', e6, i2, l2⟩ := lcN_inv hn I step done m (k + 1) acc h1 (by omega) (by omega) (e4 rfl)
      exact ⟨acc', h', by simp [lcN, e1, e2, e3, e6], i2, l2⟩
    | true =>
      obtain ⟨z, h2, e7, i2⟩ := e5 rfl
      obtain ⟨acc', h', e6, i3, l2⟩ := lcN_inv hn I step done m (k + 1) (acc ++ [z]) h2 (by omega) (by simp; omega) i2
      refine ⟨acc', h', ?_, i3, l2⟩
      have hs : acc.length < SZ := by omega
      simp [lcN, e1, e2, e3, e7, hs, e6]
/-- a comprehension that changes nothing -/
theorem lcN_pure {s : Src} {t : Tg} {own : List Nat} {cond : Env → M Bool} {elt : Env → M D} {env : Env} {h : MH} (hd : s.done h = true) {f : Nat → Option D} {n : Nat} (hn : n ≤ SZ)
    (step : ∀ k, k < n → ∃ d env1, s.at k h = some d ∧ bind t d (wipeE env own) h = some env1 ∧ ((cond env1 h = .ok false h ∧ f k = none) ∨ ∃ z, cond env1 h = .ok true h ∧ elt env1 h = .ok z h ∧ f k = some z)) :
    lcN s t own cond elt env n 0 [] h = .ok ((List.range n).filterMap f) h := by
  obtain ⟨acc, h', e, ⟨rfl, i⟩, _⟩ := lcN_inv (s := s) (t := t) (own := own) (cond := cond) (elt := elt) (env := env) (n := n) hn (fun k acc h' => h' = h ∧ acc = (List.range k).filterMap f) (fun k acc h' hk hl i => by
    obtain ⟨rfl, rfl⟩ := i
    obtain ⟨d, env1, e1, e2, e3⟩ := step k hk
    rcases e3 with ⟨e3, e4⟩ | ⟨z, e3, e4, e5⟩
    · exact ⟨d, env1, false, _, e1, e2, e3, fun _ => ⟨rfl, by rw [List.range_succ, List.filterMap_append]; simp [e4]⟩, fun z => by cases z⟩
    · exact ⟨d, env1, true, _, e1, e2, e3, fun z => (by cases z), fun _ => ⟨z, _, e4, rfl, by rw [List.range_succ, List.filterMap_append]; simp [e5]⟩⟩) (fun acc h' i => by rw [i.1]; exact hd) n 0 [] h (by omega) (by simp) ⟨rfl, by simp⟩
  rw [e, i]
end Mn

set_option maxHeartbeats 4000000
/-! Mn: == of data without truths. -/
namespace Mn
open PySem
mutual
/-- data of None, ints, texts, tuples and lists of such -/
def nbD : D → Bool
  | .non => true
  | .int _ => true
  | .str x => PyData.strOk x
  | .tup xs => nbL xs
  | .lst xs => nbL xs
  | _ => false
def nbL : List D → Bool
  | [] => true
  | d :: ds => nbD d && nbL ds
end
mutual
def dpD : D → Nat
  | .tup xs => dpL xs + 1
  | .lst xs => dpL xs + 1
  | _ => 0
def dpL : List D → Nat
  | [] => 0
  | d :: ds => max (dpD d) (dpL ds)
end
mutual
theorem nb_pd : ∀ (d : D), nbD d = true → ∃ a, pd0 d = some a ∧ a.canLay0 = true ∧ a.depth = dpD d
  | .non, _ => ⟨_, rfl, rfl, rfl⟩
  | .int i, _ => ⟨_, rfl, rfl, rfl⟩
  | .str x, h => ⟨_, rfl, h, rfl⟩
  | .tup xs, h => by
    obtain ⟨as, e, c, p⟩ := nb_pdL xs h
    exact ⟨.tuple as, by simp [pd0, e], c, by simp [PyData.depth, dpD, p]⟩
  | .lst xs, h => by
    obtain ⟨as, e, c, p⟩ := nb_pdL xs h
    exact ⟨.list as, by simp [pd0, e], c, by simp [PyData.depth, dpD, p]⟩
  | .bl _, h => by simp [nbD] at h
  | .scr _, h => by simp [nbD] at h
  | .cd _, h => by simp [nbD] at h
  | .obj _ _, h => by simp [nbD] at h
  | .exc _ _, h => by simp [nbD] at h
  | .ref _, h => by simp [nbD] at h
theorem nb_pdL : ∀ (ds : List D), nbL ds = true → ∃ as, pd0L ds = some as ∧ PyData.canLayAll0 as = true ∧ PyData.depthAll as = dpL ds
  | [], _ => ⟨[], rfl, rfl, rfl⟩
  | d :: ds, h => by
    simp only [nbL, Bool.and_eq_true] at h
    obtain ⟨a, e1, c1, p1⟩ := nb_pd d h.1
    obtain ⟨as, e2, c2, p2⟩ := nb_pdL ds h.2
    exact ⟨a :: as, by simp [pd0L, e1, e2], by simp [PyData.canLayAll0, c1, c2], by simp [PyData.depthAll, dpL, p1, p2]⟩
end
mutual
theorem eqv_iff : ∀ (x y : D) (a b : PyData), nbD x = true → nbD y = true → pd0 x = some a → pd0 y = some b → (PyData.eqv a b = true ↔ x = y)
  | x, y, a, b, hx, hy, ex, ey => by
    cases x with
    | non => cases ex; cases y <;> simp [nbD] at hy <;> simp only [pd0, Option.some.injEq, Option.map_eq_some_iff] at ey <;> first | (subst ey; simp [PyData.eqv]) | (obtain ⟨_, _, rfl⟩ := ey; simp [PyData.eqv])
    | int i => cases ex; cases y <;> simp [nbD] at hy <;> simp only [pd0, Option.some.injEq, Option.map_eq_some_iff] at ey <;> first | (subst ey; simp [PyData.eqv]) | (obtain ⟨_, _, rfl⟩ := ey; simp [PyData.eqv])
    | str s => cases ex; cases y <;> simp [nbD] at hy <;> simp only [pd0, Option.some.injEq, Option.map_eq_some_iff] at ey <;> first | (subst ey; simp [PyData.eqv]) | (obtain ⟨_, _, rfl⟩ := ey; simp [PyData.eqv])
    | tup xs =>
      simp only [pd0, Option.map_eq_some_iff] at ex
      obtain ⟨as, ea, rfl⟩ := ex
      cases y with
      | tup ys =>
        simp only [pd0, Option.map_eq_some_iff] at ey
        obtain ⟨bs, eb, rfl⟩ := ey
        have := eqv_iffL xs ys as bs hx hy ea eb
        simpa [PyData.eqv] using this
      | lst ys =>
        simp only [pd0, Option.map_eq_some_iff] at ey
        obtain ⟨bs, eb, rfl⟩ := ey
        simp [PyData.eqv]
      | non => cases ey; simp [PyData.eqv]
      | int _ => cases ey; simp [PyData.eqv]
      | str _ => cases ey; simp [PyData.eqv]
      | _ => simp [nbD] at hy
    | lst xs =>
      simp only [pd0, Option.map_eq_some_iff] at ex
      obtain ⟨as, ea, rfl⟩ := ex
      cases y with
      | lst ys =>
        simp only [pd0, Option.map_eq_some_iff] at ey
        obtain ⟨bs, eb, rfl⟩ := ey
        have := eqv_iffL xs ys as bs hx hy ea eb
        simpa [PyData.eqv] using this
      | tup ys =>
        simp only [pd0, Option.map_eq_some_iff] at ey
        obtain ⟨bs, eb, rfl⟩ := ey
        simp [PyData.eqv]
      | non => cases ey; simp [PyData.eqv]
      | int _ => cases ey; simp [PyData.eqv]
      | str _ => cases ey; simp [PyData.eqv]
      | _ => simp [nbD] at hy
    | _ => simp [nbD] at hx
theorem eqv_iffL : ∀ (xs ys : List D) (as bs : List PyData), nbL xs = true → nbL ys = true → pd0L xs = some as → pd0L ys = some bs → (PyData.eqvAll as bs = true ↔ xs = ys)
  | [], [], _, _, _, _, ex, ey => by cases ex; cases ey; simp [PyData.eqvAll]
  | [], y :: ys, as, bs, _, hy, ex, ey => by
    simp only [nbL, Bool.and_eq_true] at hy
    obtain ⟨b, e1, _⟩ := nb_pd y hy.1
    obtain ⟨bs', e2, _⟩ := nb_pdL ys hy.2
    simp only [pd0L, e1, e2, Option.some.injEq] at ex ey
    subst ex; subst ey
    simp [PyData.eqvAll]
  | x :: xs, [], as, bs, hx, _, ex, ey => by
    simp only [nbL, Bool.and_eq_true] at hx
    obtain ⟨b, e1, _⟩ := nb_pd x hx.1
    obtain ⟨bs', e2, _⟩ := nb_pdL xs hx.2
    simp only [pd0L, e1, e2, Option.some.injEq] at ex ey
    subst ex; subst ey
    simp [PyData.eqvAll]
  | x :: xs, y :: ys, as, bs, hx, hy, ex, ey => by
    simp only [nbL, Bool.and_eq_true] at hx hy
    obtain ⟨a, e1, _⟩ := nb_pd x hx.1
    obtain ⟨as', e2, _⟩ := nb_pdL xs hx.2
    obtain ⟨b, e3, _⟩ := nb_pd y hy.1
    obtain ⟨bs', e4, _⟩ := nb_pdL ys hy.2
    simp only [pd0L, e1, e2, e3, e4, Option.some.injEq] at ex ey
    subst ex; subst ey
    simp only [PyData.eqvAll, Bool.and_eq_true, List.cons.injEq]
    rw [eqv_iff x y a b hx.1 hy.1 e1 e3, eqv_iffL xs ys as' bs' hx.2 hy.2 e2 e4]
end
theorem pd_nb {d : D} {h : MH} (hd : nbD d = true) : pd h d = pd0 d := by
  cases d <;> first | rfl | simp [nbD] at hd
theorem eqO_of {x y : D} {h : MH} (hx : nbD x = true) (hy : nbD y = true) (px : dpD x ≤ 64) (py : dpD y ≤ 64) : ∃ b, eqO x y h = some b ∧ (b = true ↔ x = y) := by
  obtain ⟨a, e1, c1, p1⟩ := nb_pd x hx
  obtain ⟨b, e2, c2, p2⟩ := nb_pd y hy
  refine ⟨PyData.eqv a b, ?_, eqv_iff x y a b hx hy e1 e2⟩
  have s1 : SeqAt.shaped a = true := by simp [SeqAt.shaped, c1, p1, px]
  have s2 : SeqAt.shaped b = true := by simp [SeqAt.shaped, c2, p2, py]
  simp [eqO, pd_nb hx, pd_nb hy, e1, e2, s1, s2]
theorem eqO_same {x : D} {h : MH} (hx : nbD x = true) (px : dpD x ≤ 64) : eqO x x h = some true := by
  obtain ⟨b, e, i⟩ := eqO_of (h := h) hx hx px px
  rw [e, i.mpr rfl]
theorem eqO_diff {x y : D} {h : MH} (hx : nbD x = true) (hy : nbD y = true) (px : dpD x ≤ 64) (py : dpD y ≤ 64) (n : x ≠ y) : eqO x y h = some false := by
  obtain ⟨b, e, i⟩ := eqO_of (h := h) hx hy px py
  cases b with
  | false => exact e
  | true => exact absurd (i.mp rfl) n
theorem eqD_same {x : D} {h : MH} (hx : nbD x = true) (px : dpD x ≤ 64) : cmpD .eq x x h = .ok (.bl true) h := by simp [cmpD, ofH, eqO_same hx px]
theorem neD_same {x : D} {h : MH} (hx : nbD x = true) (px : dpD x ≤ 64) : cmpD .ne x x h = .ok (.bl false) h := by simp [cmpD, ofH, eqO_same hx px]
theorem eqD_diff {x y : D} {h : MH} (hx : nbD x = true) (hy : nbD y = true) (px : dpD x ≤ 64) (py : dpD y ≤ 64) (n : x ≠ y) : cmpD .eq x y h = .ok (.bl false) h := by simp [cmpD, ofH, eqO_diff hx hy px py n]
theorem neD_diff {x y : D} {h : MH} (hx : nbD x = true) (hy : nbD y = true) (px : dpD x ≤ 64) (py : dpD y ≤ 64) (n : x ≠ y) : cmpD .ne x y h = .ok (.bl true) h := by simp [cmpD, ofH, eqO_diff hx hy px py n]
/-! fractions -/
theorem nb_fr {p : Rat} : nbD (fr p) = true := rfl
theorem dp_fr {p : Rat} : dpD (fr p) = 1 := rfl
theorem fr_inj {p q : Rat} : fr p = fr q ↔ p = q := by
  constructor
  · intro e
    unfold fr at e
    injection e with e
    injection e with e1 e2
    injection e1 with e1
    injection e2 with e2 _
    injection e2 with e2
    exact Rat.ext e1 (by omega)
  · rintro rfl; rfl
theorem eq_fr {p q : Rat} {h : MH} : cmpD .eq (fr p) (fr q) h = .ok (.bl (decide (p = q))) h := by
  by_cases e : p = q
  · subst e; rw [eqD_same nb_fr (by rw [dp_fr]; decide)]; simp
  · rw [eqD_diff nb_fr nb_fr (by rw [dp_fr]; decide) (by rw [dp_fr]; decide) (fun z => e (fr_inj.mp z))]; simp [e]
theorem ne_fr {p q : Rat} {h : MH} : cmpD .ne (fr p) (fr q) h = .ok (.bl (decide (p ≠ q))) h := by
  by_cases e : p = q
  · subst e; rw [neD_same nb_fr (by rw [dp_fr]; decide)]; simp
  · rw [neD_diff nb_fr nb_fr (by rw [dp_fr]; decide) (by rw [dp_fr]; decide) (fun z => e (fr_inj.mp z))]; simp [e]
/-- the written fractions 0 and 1 -/
theorem fr_zero : D.tup [.int 0, .int 1] = fr 0 := rfl
theorem fr_one : D.tup [.int 1, .int 1] = fr 1 := rfl
end Mn

set_option maxHeartbeats 4000000
/-! Mn: the jar is made of the script; one of some. -/
namespace Mn
def fnJar : Fn := ⟨5, 2, (.seq (.asg (.nm 2) (.ife (.cmp .lt (.var 1) (.blt .len (.cons (.var 0) .nil))) (.idx (.var 0) (.var 1)) (.bin .add (.bin .mul (.lit (.int 53)) (.var 1)) (.lit (.int 4)))))
      (.seq (.asg (.nm 3) (.bin .add (.lit (.int 40009)) (.bin .mul (.lit (.int 9011)) (.var 1))))
      (.seq (.for_ (.nm 4) .seq (.cons (.bin .add (.slc (.var 0) .nil (.cons (.lit (.int 5)) .nil)) (.lst (.cons (.var 2) .nil))) .nil) (.seq (.asg (.nm 3) (.bin .mod (.blt .int (.cons (.bin .add (.bin .mul (.var 3) (.lit (.int 20021))) (.var 4)) .nil)) (.lit (.int 2147482951)))) .nil))
      (.seq (.rtn (.cel (.cons (.ife (.or (.cmp .lt (.var 2) (.lit (.int 0))) (.cmp .ge (.var 2) (.pow 10 18))) (.blt .abs (.cons (.var 2) .nil)) (.lit (.int 0))) (.cons (.var 3) (.cons (.lit (.int 0)) .nil))))) .nil)))), true⟩
section
variable {cf : Nat → List D → M D} {s r : S} {env e1 : Env} {h h1 : MH} {d : D}
theorem seq_nx (e : exS cf s env h = .ok (.nx e1) h1) : exS cf (.seq s r) env h = exS cf r e1 h1 := by simp [exS, e]
theorem seq_rt (e : exS cf s env h = .ok (.rt d) h1) : exS cf (.seq s r) env h = .ok (.rt d) h1 := by simp [exS, e]
theorem rtn_of {m : E} (e : ev cf m env h = .ok d h1) : exS cf (.rtn m) env h = .ok (.rt d) h1 := by simp [exS, onE, e, ret]
theorem asg_of {m : E} {t : Tg} (e : ev cf m env h = .ok d h1) (b : bind t d env h1 = some e1) : exS cf (.asg t m) env h = .ok (.nx e1) h1 := by simp [exS, onE, e, b]
theorem for_of {l : E} {t : Tg} {k : IK} {ds : List D} {q : Src} {b : S} {x : Fl} {h2 h3 : MH} (e : evL cf l env h = .ok ds h1) (e2 : src k ds h1 = .ok q h2) (f : forN q t (exS cf b) q.count 0 env h2 = .ok x h3) : exS cf (.for_ t k l b) env h = .ok x h3 := by
  simp [exS, onE, bnd, R.bnd, e, e2, f]
theorem run_rt {f : Fn} {ds : List D} (ha : ds.length = f.arity ∧ f.arity ≤ f.slots) (e : exS cf f.body (ds.map some ++ List.replicate (f.slots - ds.length) none) h = .ok (.rt d) h1) : runFn cf f ds h = fin f.raw h.length d h1 := by
  have e' := e
  rw [ha.1] at e'
  simp [runFn, ha, e']
end
/-- the jar's loop -/
theorem jar_loop (cf : Nat → List D → M D) {h : MH} {a b c : Option D} {xs : List Int} : ∀ (m : Int) (o : Option D), 0 ≤ m → m < 4294967296 → ∃ (m' : Int) (o' : Option D), 0 ≤ m' ∧ m' < 4294967296 ∧
    forN (.seq (xs.map D.int)) (.nm 4) (exS cf (.seq (.asg (.nm 3) (.bin .mod (.blt .int (.cons (.bin .add (.bin .mul (.var 3) (.lit (.int 20021))) (.var 4)) .nil)) (.lit (.int 2147482951)))) .nil)) xs.length 0 [a, b, c, oI m, o] h = .ok (.nx [a, b, c, oI m', o']) h := by
  intro m o h1 h2
  obtain ⟨env', h', e, rfl, m', o', rfl, h3, h4⟩ := forN_inv (s := .seq (xs.map D.int)) (t := .nm 4) (body := exS cf (.seq (.asg (.nm 3) (.bin .mod (.blt .int (.cons (.bin .add (.bin .mul (.var 3) (.lit (.int 20021))) (.var 4)) .nil)) (.lit (.int 2147482951)))) .nil)) (n := xs.length)
    (fun k env h' => h' = h ∧ ∃ (m : Int) (o : Option D), env = [a, b, c, oI m, o] ∧ 0 ≤ m ∧ m < 4294967296) (fun k env h' hk i => by
      obtain ⟨rfl, m, o, rfl, h1, h2⟩ := i
      have m1 : ∀ h, binD .mul (.int m) (.int 20021) h = .ok (.int (m * 20021)) h := fun h => bin_mul (by omega) (by decide)
      have m2 : ∀ i h, binD .mod (.int i) (.int 2147482951) h = .ok (.int (i % 2147482951)) h := fun i h => bin_mod (by decide)
      refine ⟨.int (xs[k]), [a, b, c, oI m, oI (xs[k])], [a, b, c, oI ((m * 20021 + xs[k]) % 2147482951), oI (xs[k])], _, by simp [Src.at, hk], by simp [bind], ?_, rfl, _, _, rfl, Int.emod_nonneg _ (by decide), ?_⟩
      · simp [exS, ev, evL, bnd, R.bnd, ret, onE, Lit.d, m1, m2, bin_add, blt_int, bind]
      · have := Int.emod_lt_of_pos (m * 20021 + xs[k]) (show (0 : Int) < 2147482951 by decide)
        omega) (fun _ _ _ => rfl) xs.length 0 [a, b, c, oI m, o] h (by omega) ⟨rfl, m, o, rfl, h1, h2⟩
  exact ⟨m', o', h3, h4, e⟩
theorem jar_ok (cf : Nat → List D → M D) {ns : List Int} {t : Int} {h : MH} (hl : ns.length ≤ 63) (h0 : 0 ≤ t) (h1 : t ≤ 1000) : ∃ c, runFn cf fnJar [.scr ns, .int t] h = .ok (.ref h.length) (h ++ [c]) ∧ Jar (h ++ [c]) h.length 0 := by
  have hcell : ∃ z : Int, ∀ env h, env = [some (D.scr ns), oI t, none, none, none] → ev cf (.ife (.cmp .lt (.var 1) (.blt .len (.cons (.var 0) .nil))) (.idx (.var 0) (.var 1)) (.bin .add (.bin .mul (.lit (.int 53)) (.var 1)) (.lit (.int 4)))) env h = .ok (.int z) h := by
    by_cases hc : t < ns.length
    · have hk : t.toNat < ns.length := by omega
      refine ⟨ns[t.toNat], fun env h e => ?_⟩
      subst e
      have hat : L2.atI ns t = some ns[t.toNat] := by
        simp [L2.atI, L2.ixN, h0, hc, hk]
      simp [ev, evL, bnd, R.bnd, ret, bltD, lenD, cmp_lt, trM, ofH, tru, hc, idxD, hat]
    · refine ⟨53 * t + 4, fun env h e => ?_⟩
      subst e
      have m1 : ∀ h, binD .mul (.int 53) (.int t) h = .ok (.int (53 * t)) h := fun h => bin_mul (by decide) (by omega)
      simp [ev, evL, bnd, R.bnd, ret, bltD, lenD, cmp_lt, trM, ofH, tru, hc, Lit.d, m1, bin_add]
  obtain ⟨z, hz⟩ := hcell
  have m2 : ∀ h, binD .mul (.int 9011) (.int t) h = .ok (.int (9011 * t)) h := fun h => bin_mul (by decide) (by omega)
  obtain ⟨m', o', h3, h4, el⟩ := jar_loop cf (h := h) (a := some (D.scr ns)) (b := oI t) (c := oI z) (xs := cut ns none (some 5) ++ [z]) (40009 + 9011 * t) none (by omega) (by omega)
  have lenc : (cut ns none (some 5)).length ≤ 63 := by
    unfold cut
    simp only [List.length_take, List.length_drop]
    omega
  have b1 : evL cf (.cons (.bin .add (.slc (.var 0) .nil (.cons (.lit (.int 5)) .nil)) (.lst (.cons (.var 2) .nil))) .nil) [some (D.scr ns), oI t, oI z, oI (40009 + 9011 * t), none] h = .ok [.lst ((cut ns none (some 5) ++ [z]).map D.int)] h := by
    have hs : (cut ns none (some 5)).length + 1 ≤ SZ := Nat.le_trans (Nat.succ_le_succ lenc) (by decide)
    have h1 : 1 ≤ SZ := by decide
    simp [evL, ev, evO, bnd, R.bnd, ret, Lit.d, slcD, binD, addD, lItems, cat2, hs, h1]
  have a2 : ∀ a : Int, exS cf (.rtn (.cel (.cons (.ife (.or (.cmp .lt (.var 2) (.lit (.int 0))) (.cmp .ge (.var 2) (.pow 10 18))) (.blt .abs (.cons (.var 2) .nil)) (.lit (.int 0))) (.cons (.var 3) (.cons (.lit (.int 0)) .nil))))) [some (D.scr ns), oI t, oI z, oI m', o'] h = .ok (.rt (.ref h.length)) (h ++ [.lst [.int (if z < 0 ∨ 1000000000000000000 ≤ z then z.natAbs else 0), .int m', .int 0]]) := fun a => by
    have h3z : 3 ≤ SZ := by decide
    by_cases c1 : z < 0
    · simp [exS, evL, ev, bnd, R.bnd, ret, onE, Lit.d, cmp_lt, cmp_ge, trM, ofH, tru, c1, blt_abs, plains, plain, h3z]
    · by_cases c2 : (1000000000000000000 : Int) ≤ z
      · simp [exS, evL, ev, bnd, R.bnd, ret, onE, Lit.d, cmp_lt, cmp_ge, trM, ofH, tru, c1, c2, blt_abs, plains, plain, h3z]
      · simp [exS, evL, ev, bnd, R.bnd, ret, onE, Lit.d, cmp_lt, cmp_ge, trM, ofH, tru, c1, c2, blt_abs, plains, plain, h3z]
  refine ⟨.lst [.int (if z < 0 ∨ 1000000000000000000 ≤ z then z.natAbs else 0), .int m', .int 0], ?_, ⟨(if z < 0 ∨ 1000000000000000000 ≤ z then z.natAbs else 0 : Int), m', 0, by simp, ?_, h3, h4, by decide, by decide⟩⟩
  · rw [run_rt (d := .ref h.length) (h1 := h ++ [.lst [.int (if z < 0 ∨ 1000000000000000000 ≤ z then z.natAbs else 0), .int m', .int 0]]) ⟨rfl, by decide⟩ ?_]
    · rfl
    · refine (seq_nx (asg_of (hz _ h rfl) rfl)).trans ?_
      refine (seq_nx (e1 := [some (D.scr ns), oI t, oI z, oI (40009 + 9011 * t), none]) (h1 := h) (asg_of (d := .int (40009 + 9011 * t)) (by simp [ev, bnd, R.bnd, ret, Lit.d, m2, bin_add]) rfl)).trans ?_
      refine (seq_nx (for_of b1 (q := .seq ((cut ns none (some 5) ++ [z]).map D.int)) rfl (by
        have : Src.count (.seq ((cut ns none (some 5) ++ [z]).map D.int)) = (cut ns none (some 5) ++ [z]).length := by simp [Src.count]
        rw [this]
        exact el))).trans ?_
      exact seq_rt (a2 0)
  · split <;> omega
end Mn

set_option maxHeartbeats 4000000
/-! Mn: the law's own def. -/
namespace Mn
abbrev lawE (ji ri : Nat) (n : E) : E := .blt .all (.cons (.lc [1] (.call ri (.cons (.call ji (.cons (.var 0) (.cons (.var 1) .nil))) .nil)) (.nm 1) .rng (.cons n .nil) .nil) .nil)
abbrev lawN (m : Int) : E := .blt .max2 (.cons (.lit (.int 2)) (.cons (.blt .min2 (.cons (.blt .len (.cons (.var 0) .nil)) (.cons (.lit (.int m)) .nil))) .nil))
def fnLaw (ji ri : Nat) (n : E) : Fn := ⟨2, 1, (.seq (.rtn (lawE ji ri n)) .nil), false⟩
section
variable {cf : Nat → List D → M D} {env : Env} {h h1 h2 h3 : MH} {d : D}
theorem evL_one {a : E} (e : ev cf a env h = .ok d h1) : evL cf (.cons a .nil) env h = .ok [d] h1 := by simp [evL, bnd, R.bnd, ret, e]
theorem evL_cons {a l : E} {ds : List D} (e : ev cf a env h = .ok d h1) (e2 : evL cf l env h1 = .ok ds h2) : evL cf (.cons a l) env h = .ok (d :: ds) h2 := by simp [evL, bnd, R.bnd, ret, e, e2]
theorem lc_of {own : List Nat} {elt : E} {t : Tg} {k : IK} {l c : E} {ds xs : List D} {s : Src} (e1 : evL cf l env h = .ok ds h1) (e2 : src k ds h1 = .ok s h2) (e3 : lcN s t own (condF (ev cf c) c) (ev cf elt) env s.count 0 [] h2 = .ok xs h3) : ev cf (.lc own elt t k l c) env h = .ok (.lst xs) h3 := by
  have e3' : lcN s t own (condF (fun env' => ev cf c env') c) (fun env' => ev cf elt env') env s.count 0 [] h2 = .ok xs h3 := e3
  rw [ev]
  simp only [bnd, e1, R.bnd, e2, e3', ret]
theorem blt_of {b : BI} {l : E} {ds : List D} (e1 : evL cf l env h = .ok ds h1) (e2 : bltD b ds h1 = .ok d h2) : ev cf (.blt b l) env h = .ok d h2 := by
  rw [ev]
  simp only [bnd, e1, R.bnd, e2]
theorem call_of {f : Nat} {l : E} {ds : List D} (e1 : evL cf l env h = .ok ds h1) (e2 : cf f ds h1 = .ok d h2) : ev cf (.call f l) env h = .ok d h2 := by
  rw [ev]
  simp only [bnd, e1, R.bnd, e2]
end
theorem bools_true : ∀ n : Nat, dBools (List.replicate n (.bl true)) = some (List.replicate n true)
  | 0 => rfl
  | n + 1 => by simp [List.replicate_succ, dBools, bools_true n]
theorem law_ok {cf cf' : Nat → List D → M D} {ji ri : Nat} {n : E} {ns : List Int} {c : Nat} (hn : ∀ h, ev cf n [some (.scr ns), none] h = .ok (.int (c : Nat)) h) (hc : c ≤ 1000) (J : ∀ ds h, cf ji ds h = runFn cf' fnJar ds h) (Rr : ∀ h j, Jar h j 0 → ∃ h', cf ri [.ref j] h = .ok (.bl true) h') (hl : ns.length ≤ 63) :
    ∃ h', runFn cf (fnLaw ji ri n) [.scr ns] [] = .ok (.bl true) h' := by
  obtain ⟨acc, h', e, i, _⟩ := lcN_inv (s := .rng 0 c) (t := .nm 1) (own := [1]) (cond := condF (ev cf .nil) .nil) (elt := ev cf (.call ri (.cons (.call ji (.cons (.var 0) (.cons (.var 1) .nil))) .nil))) (env := [some (D.scr ns), none]) (n := c) (Nat.le_trans hc (by decide))
    (fun k acc _ => acc = List.replicate k (.bl true)) (fun k acc h hk _ i => by
      obtain ⟨cl, e1, j1⟩ := jar_ok cf' (ns := ns) (t := (k : Int)) (h := h) hl (by omega) (by omega)
      obtain ⟨h2, e2⟩ := Rr _ _ j1
      refine ⟨.int k, [some (D.scr ns), oI k], true, h, by simp [Src.at, hk], by simp [bind, wipeE], rfl, fun z => (by cases z), fun _ => ⟨.bl true, h2, ?_, ?_⟩⟩
      · simp [ev, evL, bnd, R.bnd, ret, J, e1, e2]
      · rw [i, List.replicate_succ']) (fun _ _ _ => rfl) c 0 [] [] (by omega) (by simp) rfl
  have hr : -RNG ≤ (c : Int) ∧ (c : Int) < RNG := by
    constructor <;> (unfold RNG; omega)
  refine ⟨h'.take 0, ?_⟩
  have hs : src .rng [.int (c : Int)] [] = .ok (.rng 0 c) [] := by
    simp only [src]
    rw [if_pos hr]
    rfl
  have hb : bltD .all [.lst acc] h' = .ok (.bl true) h' := by
    rw [i]
    simp [bltD, lItems, bools_true]
  rw [run_rt (f := fnLaw ji ri n) (d := .bl true) (h1 := h') ⟨rfl, Nat.le_succ _⟩ (seq_rt (rtn_of (blt_of (evL_one (lc_of (evL_one (hn [])) hs e)) hb)))]
  rfl
theorem lawN_ok {cf : Nat → List D → M D} {ns : List Int} {m : Int} {o : Option D} (h0 : 0 ≤ m) (h1 : m ≤ 100) : ∃ c : Nat, c ≤ 1000 ∧ ∀ h, ev cf (lawN m) [some (.scr ns), o] h = .ok (.int (c : Nat)) h := by
  refine ⟨(if (if m < ns.length then m else (ns.length : Int)) > 2 then (if m < ns.length then m else (ns.length : Int)) else 2).toNat, ?_, fun h => ?_⟩
  · split <;> (try split) <;> omega
  · have e : (((if (if m < ns.length then m else (ns.length : Int)) > 2 then (if m < ns.length then m else (ns.length : Int)) else 2).toNat : Nat) : Int) = (if (if m < ns.length then m else (ns.length : Int)) > 2 then (if m < ns.length then m else (ns.length : Int)) else 2) := by
      split <;> (try split) <;> omega
    rw [e]
    simp [lawN, ev, evL, bnd, R.bnd, ret, bltD, lenD, Lit.d]
end Mn

set_option maxHeartbeats 4000000
/-! Mn: loops and comprehensions over mapped lists. -/
namespace Mn
section
variable {α : Type} {cf : Nat → List D → M D} {s : Src} {t : Tg} {body : Env → M Fl}
/-- a for over mapped items, by what holds behind each prefix -/
theorem for_gen {ys : List α} {f : α → D} (P : List α → Env → MH → Prop) (hat : ∀ (h : MH) k (hk : k < ys.length), s.at k h = some (f ys[k])) (hd : ∀ h, s.done h = true)
    (step : ∀ pre y post env h, ys = pre ++ y :: post → P pre env h → ∃ env1 env2 h2, bind t (f y) env h = some env1 ∧ body env1 h = .ok (.nx env2) h2 ∧ P (pre ++ [y]) env2 h2)
    {env : Env} {h : MH} (i : P [] env h) : ∃ env' h', forN s t body ys.length 0 env h = .ok (.nx env') h' ∧ P ys env' h' := by
  obtain ⟨env', h', e, p⟩ := forN_inv (s := s) (t := t) (body := body) (n := ys.length) (fun k env h => P (ys.take k) env h) (fun k env h hk p => by
    have e : ys = ys.take k ++ ys[k] :: ys.drop (k + 1) := by simp
    obtain ⟨env1, env2, h2, e1, e2, e3⟩ := step _ _ _ env h e p
    refine ⟨_, env1, env2, h2, hat h k hk, e1, e2, ?_⟩
    rw [List.take_succ_eq_append_getElem hk]
    exact e3) (fun env h _ => hd h) ys.length 0 env h (by omega) (by simpa using i)
  exact ⟨env', h', e, by simpa using p⟩
/-- a for that may return -/
theorem for_gen_ret {ys : List α} {f : α → D} (P : List α → Env → MH → Prop) (Q : D → MH → Prop) (hat : ∀ (h : MH) k (hk : k < ys.length), s.at k h = some (f ys[k])) (hd : ∀ h, s.done h = true)
    (step : ∀ pre y post env h, ys = pre ++ y :: post → P pre env h → ∃ env1, bind t (f y) env h = some env1 ∧ ((∃ env2 h2, body env1 h = .ok (.nx env2) h2 ∧ P (pre ++ [y]) env2 h2) ∨ ∃ r h2, body env1 h = .ok (.rt r) h2 ∧ Q r h2))
    {env : Env} {h : MH} (i : P [] env h) : (∃ env' h', forN s t body ys.length 0 env h = .ok (.nx env') h' ∧ P ys env' h') ∨ ∃ r h', forN s t body ys.length 0 env h = .ok (.rt r) h' ∧ Q r h' := by
  have := forN_ret (s := s) (t := t) (body := body) (n := ys.length) (fun k env h => P (ys.take k) env h) Q (fun k env h hk p => by
    have e : ys = ys.take k ++ ys[k] :: ys.drop (k + 1) := by simp
    obtain ⟨env1, e1, e2⟩ := step _ _ _ env h e p
    refine ⟨_, env1, hat h k hk, e1, ?_⟩
    rw [List.take_succ_eq_append_getElem hk]
    exact e2) (fun env h _ => hd h) ys.length 0 env h (by omega) (by simpa using i)
  rcases this with ⟨env', h', e, p⟩ | z
  · exact .inl ⟨env', h', e, by simpa using p⟩
  · exact .inr z
/-- a comprehension over mapped items, nothing changes -/
theorem lc_gen {own : List Nat} {cond : Env → M Bool} {elt : Env → M D} {env : Env} {h : MH} {ys : List α} {f : α → D} (p : α → Bool) (g : α → D) (hat : ∀ k (hk : k < ys.length), s.at k h = some (f ys[k])) (hd : s.done h = true) (hl : ys.length ≤ SZ)
    (step : ∀ y ∈ ys, ∃ env1, bind t (f y) (wipeE env own) h = some env1 ∧ cond env1 h = .ok (p y) h ∧ (p y = true → elt env1 h = .ok (g y) h)) :
    lcN s t own cond elt env ys.length 0 [] h = .ok ((ys.filter p).map g) h := by
  obtain ⟨acc, h', e, ⟨rfl, i⟩, _⟩ := lcN_inv (s := s) (t := t) (own := own) (cond := cond) (elt := elt) (env := env) (n := ys.length) hl (fun k acc h' => h' = h ∧ acc = ((ys.take k).filter p).map g) (fun k acc h' hk hl i => by
    obtain ⟨rfl, rfl⟩ := i
    obtain ⟨env1, e1, e2, e3⟩ := step ys[k] (List.getElem_mem hk)
    refine ⟨_, env1, p ys[k], _, hat k hk, e1, e2, fun hp => ⟨rfl, ?_⟩, fun hp => ⟨g ys[k], _, e3 hp, rfl, ?_⟩⟩
    · rw [List.take_succ_eq_append_getElem hk, List.filter_append, List.map_append]; simp [hp]
    · rw [List.take_succ_eq_append_getElem hk, List.filter_append, List.map_append]; simp [hp]) (fun acc h' i => by rw [i.1]; exact hd) ys.length 0 [] h (by omega) (by simp) ⟨rfl, by simp⟩
  rw [e, i]
  simp
end
end Mn

set_option maxHeartbeats 4000000
/-! Mn: plain facts about lots (by indexes) and weights. -/
namespace Mn
/-- the outcomes of a lot -/
def lotL (n x : Nat) : List Nat := (List.range n).filter fun k => x / 2 ^ k % 2 == 1
theorem mem_lotL {n x k : Nat} : k ∈ lotL n x ↔ k < n ∧ x / 2 ^ k % 2 = 1 := by simp [lotL]
theorem lotL_lt {n x k : Nat} (h : k ∈ lotL n x) : k < n := (mem_lotL.mp h).1
theorem lotL_asc (n x : Nat) : (lotL n x).Pairwise (· < ·) := List.Pairwise.filter _ List.pairwise_lt_range
/-- the weights whose lots are so -/
def ws : List (Nat × Rat) → (Nat → Bool) → Rat
  | [], _ => 0
  | m :: r, P => (if P m.1 then m.2 else 0) + ws r P
theorem ws_congr {P Q : Nat → Bool} : ∀ {ms : List (Nat × Rat)}, (∀ m ∈ ms, P m.1 = Q m.1) → ws ms P = ws ms Q
  | [], _ => rfl
  | m :: r, h => by
    simp only [ws]
    rw [h m (by simp), ws_congr (fun m hm => h m (by simp [hm]))]
theorem ws_append {P : Nat → Bool} : ∀ {ms ns : List (Nat × Rat)}, ws (ms ++ ns) P = ws ms P + ws ns P
  | [], ns => by simp [ws]; grind
  | m :: r, ns => by simp only [List.cons_append, ws, ws_append]; grind
theorem ws_nonneg {P : Nat → Bool} : ∀ {ms : List (Nat × Rat)}, (∀ m ∈ ms, 0 ≤ m.2) → 0 ≤ ws ms P
  | [], _ => by simp [ws]
  | m :: r, h => by
    have h1 := h m (by simp)
    have h2 := ws_nonneg (ms := r) (P := P) (fun m hm => h m (by simp [hm]))
    simp only [ws]
    split <;> grind
theorem ws_le {P Q : Nat → Bool} : ∀ {ms : List (Nat × Rat)}, (∀ m ∈ ms, 0 ≤ m.2) → (∀ m ∈ ms, P m.1 = true → Q m.1 = true) → ws ms P ≤ ws ms Q
  | [], _, _ => by simp [ws]
  | m :: r, h, hi => by
    have h1 := h m (by simp)
    have h2 := ws_le (ms := r) (P := P) (Q := Q) (fun m hm => h m (by simp [hm])) (fun m hm => hi m (by simp [hm]))
    have h3 := hi m (by simp)
    simp only [ws]
    split <;> split <;> grind
/-- one part less another is a third -/
theorem ws_sub {P Q R : Nat → Bool} : ∀ {ms : List (Nat × Rat)}, (∀ m ∈ ms, (Q m.1 = true → P m.1 = true) ∧ R m.1 = (P m.1 && !Q m.1)) → ws ms P - ws ms Q = ws ms R
  | [], _ => by simp [ws]; grind
  | m :: r, h => by
    obtain ⟨h1, h2⟩ := h m (by simp)
    have h3 := ws_sub (ms := r) (P := P) (Q := Q) (R := R) (fun m hm => h m (by simp [hm]))
    simp only [ws, h2]
    cases hp : P m.1 <;> cases hq : Q m.1 <;> simp_all <;> grind
theorem ws_add {P Q R : Nat → Bool} : ∀ {ms : List (Nat × Rat)}, (∀ m ∈ ms, (Q m.1 && P m.1) = false ∧ R m.1 = (P m.1 || Q m.1)) → ws ms P + ws ms Q = ws ms R
  | [], _ => by simp [ws]; grind
  | m :: r, h => by
    obtain ⟨h1, h2⟩ := h m (by simp)
    have h3 := ws_add (ms := r) (P := P) (Q := Q) (R := R) (fun m hm => h m (by simp [hm]))
    simp only [ws, h2]
    cases hp : P m.1 <;> cases hq : Q m.1 <;> simp_all <;> grind
theorem ws_four {P Q R S : Nat → Bool} : ∀ {ms : List (Nat × Rat)}, (∀ m ∈ ms, 0 ≤ m.2) → (∀ m ∈ ms, (P m.1 = true → S m.1 = true) ∧ (Q m.1 = true → S m.1 = true) ∧ (P m.1 = true → Q m.1 = true → R m.1 = true)) → ws ms P + ws ms Q ≤ ws ms R + ws ms S
  | [], _, _ => by simp [ws]
  | m :: r, h0, h => by
    have h1 := h0 m (by simp)
    obtain ⟨h2, h3, h4⟩ := h m (by simp)
    have h5 := ws_four (ms := r) (P := P) (Q := Q) (R := R) (S := S) (fun m hm => h0 m (by simp [hm])) (fun m hm => h m (by simp [hm]))
    simp only [ws]
    cases hp : P m.1 <;> cases hq : Q m.1 <;> cases hr : R m.1 <;> cases hs : S m.1 <;> simp_all <;> grind
/-- by adding one after the other -/
theorem ws_fold {P : Nat → Bool} : ∀ (ms : List (Nat × Rat)) (a : Rat), ms.foldl (fun t m => if P m.1 then t + m.2 else t) a = a + ws ms P
  | [], a => by simp [ws]; grind
  | m :: r, a => by
    simp only [List.foldl_cons, ws]
    rw [ws_fold r]
    split <;> grind
theorem ws_filter {P : Nat → Bool} : ∀ (ms : List (Nat × Rat)) (a : Rat), ((ms.filter fun m => P m.1).map (·.2)).foldl (· + ·) a = a + ws ms P
  | [], a => by simp [ws]; grind
  | m :: r, a => by
    simp only [List.filter_cons, ws]
    split
    · simp only [List.map_cons, List.foldl_cons]
      rw [ws_filter r]
      grind
    · rw [ws_filter r]
      grind
theorem ws_single {ms : List (Nat × Rat)} {x : Nat} {q : Rat} (hd : (ms.map (·.1)).Nodup) (hm : (x, q) ∈ ms) : ws ms (fun y => decide (y = x)) = q := by
  induction ms with
  | nil => cases hm
  | cons m r ih =>
    simp only [List.map_cons, List.nodup_cons] at hd
    simp only [ws]
    rcases List.mem_cons.mp hm with e | e
    · subst e
      have : ws r (fun y => decide (y = x)) = 0 := by
        have : ws r (fun y => decide (y = x)) = ws r (fun _ => false) := ws_congr (fun m hm => by
          have : m.1 ≠ x := fun z => hd.1 (by rw [← z]; exact List.mem_map_of_mem (f := (·.1)) hm)
          simp [this])
        rw [this]
        clear this hm hd ih
        induction r with
        | nil => rfl
        | cons m r ih => simp only [ws]; rw [ih]; grind
      simp [this]; grind
    · have : m.1 ≠ x := fun z => hd.1 (by rw [z]; exact List.mem_map_of_mem (f := (·.1)) e)
      simp [this, ih hd.2 e]; grind
theorem ws_none {ms : List (Nat × Rat)} {P : Nat → Bool} (h : ∀ m ∈ ms, P m.1 = false) : ws ms P = 0 := by
  induction ms with
  | nil => rfl
  | cons m r ih =>
    simp only [ws]
    rw [ih (fun m hm => h m (by simp [hm])), h m (by simp)]
    simp; grind
/-! ### with the bottom W -/
def Dn (W : Nat) (q : Rat) : Prop := ∃ k : Int, q = mkRat k W
theorem Dn.add {W : Nat} {p q : Rat} (hW : W ≠ 0) (hp : Dn W p) (hq : Dn W q) : Dn W (p + q) := by
  obtain ⟨a, rfl⟩ := hp
  obtain ⟨b, rfl⟩ := hq
  exact ⟨a + b, by
    rw [Rat.mkRat_add_mkRat _ _ hW hW]
    rw [← Int.add_mul]
    exact Rat.mkRat_mul_right hW⟩
theorem Dn.zero {W : Nat} : Dn W 0 := ⟨0, by simp⟩
theorem Dn.ws {W : Nat} (hW : W ≠ 0) {P : Nat → Bool} : ∀ {ms : List (Nat × Rat)}, (∀ m ∈ ms, Dn W m.2) → Dn W (ws ms P)
  | [], _ => Dn.zero
  | m :: r, h => by
    simp only [Mn.ws]
    refine Dn.add hW ?_ (Dn.ws hW fun m hm => h m (by simp [hm]))
    split
    · exact h m (by simp)
    · exact Dn.zero
theorem Dn.den {W : Nat} {q : Rat} (hW : W ≠ 0) (h : Dn W q) : q.den ≤ W := by
  obtain ⟨k, rfl⟩ := h
  unfold mkRat
  rw [dif_neg hW, Rat.normalize_eq]
  exact Nat.div_le_self _ _
/-- a share's top -/
theorem share_num {q : Rat} (h0 : 0 ≤ q) (h1 : q ≤ 1) : 0 ≤ q.num ∧ q.num ≤ q.den := by
  refine ⟨Rat.num_nonneg.mpr h0, ?_⟩
  have := (Rat.le_iff q 1).mp h1
  simpa using this
end Mn

set_option maxHeartbeats 4000000
/-! Mn: lots of up to five outcomes, by trying all. -/
namespace Mn
def subB (n x y : Nat) : Bool := (lotL n x).all fun k => decide (k ∈ lotL n y)
def touB (n x y : Nat) : Bool := (lotL n x).any fun k => decide (k ∈ lotL n y)
theorem sub_tou : ∀ n < 6, ∀ x < 2 ^ n, ∀ y < 2 ^ n, touB n x (2 ^ n - 1 - y) = !subB n x y := by decide +kernel
theorem rest_lot : ∀ n < 6, ∀ y < 2 ^ n, ((List.range n).filter fun k => !decide (k ∈ lotL n y)) = lotL n (2 ^ n - 1 - y) := by decide +kernel
theorem lot_inj : ∀ n < 6, ∀ x < 2 ^ n, ∀ y < 2 ^ n, lotL n x = lotL n y → x = y := by decide +kernel
theorem sub_all : ∀ n < 6, ∀ x < 2 ^ n, subB n x (2 ^ n - 1) = true := by decide +kernel
theorem sub_zero : ∀ n < 6, ∀ x < 2 ^ n, subB n x 0 = decide (x = 0) := by decide +kernel
/-- what is counted at x behind p steps -/
def stB (n p j x : Nat) : Bool := subB n j x && decide (j % 2 ^ p = x % 2 ^ p)
theorem st_zero : ∀ n < 6, ∀ x < 2 ^ n, ∀ j < 2 ^ n, stB n 0 j x = subB n j x := by decide +kernel
theorem st_end : ∀ n < 6, ∀ x < 2 ^ n, ∀ j < 2 ^ n, stB n n j x = decide (j = x) := by decide +kernel
theorem st_off : ∀ n < 6, ∀ p < n, ∀ x < 2 ^ n, ∀ j < 2 ^ n, x / 2 ^ p % 2 ≠ 1 → stB n (p + 1) j x = stB n p j x := by decide +kernel
theorem st_on0 : ∀ n < 6, ∀ p < n, ∀ x < 2 ^ n, ∀ j < 2 ^ n, (x / 2 ^ p % 2 != 1 || ((!stB n p j (x - 2 ^ p) || stB n p j x) && (stB n (p + 1) j x == (stB n p j x && !stB n p j (x - 2 ^ p))))) = true := by decide +kernel
theorem st_on {n p x j : Nat} (hn : n < 6) (hp : p < n) (hx : x < 2 ^ n) (hj : j < 2 ^ n) (h : x / 2 ^ p % 2 = 1) : (stB n p j (x - 2 ^ p) = true → stB n p j x = true) ∧ stB n (p + 1) j x = (stB n p j x && !stB n p j (x - 2 ^ p)) := by
  have := st_on0 n hn p hp x hx j hj
  simp only [h] at this
  cases a : stB n p j (x - 2 ^ p) <;> cases b : stB n p j x <;> simp_all
theorem bit_le : ∀ n < 6, ∀ p < n, ∀ x < 2 ^ n, x / 2 ^ p % 2 = 1 → 2 ^ p ≤ x := by decide +kernel
theorem sub_less0 : ∀ n < 6, ∀ p < n, ∀ x < 2 ^ n, ∀ j < 2 ^ n, (x / 2 ^ p % 2 != 1 || !subB n j (x - 2 ^ p) || subB n j x) = true := by decide +kernel
theorem sub_less {n p x j : Nat} (hn : n < 6) (hp : p < n) (hx : x < 2 ^ n) (hj : j < 2 ^ n) (h : x / 2 ^ p % 2 = 1) (h2 : subB n j (x - 2 ^ p) = true) : subB n j x = true := by
  have := sub_less0 n hn p hp x hx j hj
  simpa [h, h2] using this
theorem sub_and0 : ∀ n < 5, ∀ x < 2 ^ n, ∀ y < 2 ^ n, ∀ j < 2 ^ n, ((!subB n j x || subB n j (x + y - (x &&& y))) && (!subB n j y || subB n j (x + y - (x &&& y))) && (!subB n j x || !subB n j y || subB n j (x &&& y))) = true := by decide +kernel
theorem sub_and {n x y j : Nat} (hn : n < 5) (hx : x < 2 ^ n) (hy : y < 2 ^ n) (hj : j < 2 ^ n) : (subB n j x = true → subB n j (x + y - (x &&& y)) = true) ∧ (subB n j y = true → subB n j (x + y - (x &&& y)) = true) ∧ (subB n j x = true → subB n j y = true → subB n j (x &&& y) = true) := by
  have := sub_and0 n hn x hx y hy j hj
  revert this
  cases subB n j x <;> cases subB n j y <;> simp
theorem and_lt : ∀ n < 6, ∀ x < 2 ^ n, ∀ y < 2 ^ n, (x &&& y) < 2 ^ n ∧ (x &&& y) ≤ x + y ∧ x + y - (x &&& y) < 2 ^ n := by decide +kernel
theorem lot_nil : ∀ n < 6, ∀ x < 2 ^ n, lotL n x = [] → x = 0 := by decide +kernel
end Mn

set_option maxHeartbeats 4000000
/-! Mn: stepping, applied to the heap. -/
namespace Mn
section
variable {cf : Nat → List D → M D} {env : Env} {h : MH} {α β : Type}
theorem b_ok {a : α} {k : α → MH → R β} : R.bnd (.ok a h) k = k a h := rfl
def R.on (env : Env) (r : R α) (k : α → MH → R Fl) : R Fl := match r with
  | .ok a h => k a h
  | .exn e h => .ok (.ex env e) h
  | .bad => .bad
theorem on_ok {a : α} {k : α → MH → R Fl} : R.on env (.ok a h) k = k a h := rfl
abbrev truR (d : D) (h : MH) : R Bool := trM d h
theorem tru_bl {b : Bool} : truR (.bl b) h = .ok b h := rfl
theorem tru_int {i : Int} : truR (.int i) h = .ok (i != 0) h := rfl
theorem tru_non : truR .non h = .ok false h := rfl
/-- a name's value -/
def look (env : Env) (i : Nat) (h : MH) : R D := match env[i]? with
  | some (some d) => .ok d h
  | _ => .bad
theorem look_0 {d : D} {e : Env} : look (some d :: e) 0 h = .ok d h := rfl
theorem look_s {o : Option D} {e : Env} {i : Nat} : look (o :: e) (i + 1) h = look e i h := by simp [look]
theorem v_var {i : Nat} : ev cf (.var i) env h = look env i h := by rw [ev]; rfl
theorem v_lit {c : Lit} : ev cf (.lit c) env h = .ok c.d h := by rw [ev]; rfl
theorem v_glb {x : PySem.Str} {c : Lit} : ev cf (.glb x c) env h = .ok c.d h := by rw [ev]; rfl
theorem v_pow {a b : Nat} : ev cf (.pow a b) env h = .ok (.int ((a : Int) ^ b)) h := by rw [ev]; rfl
theorem v_neg {a : E} : ev cf (.neg a) env h = (ev cf a env h).bnd fun x h => negD x h := by rw [ev]; rfl
theorem v_not {a : E} : ev cf (.not a) env h = (ev cf a env h).bnd fun x h => (truR x h).bnd fun b h => .ok (.bl (!b)) h := by
  rw [ev]
  show (ev cf a env h).bnd _ = _
  cases ev cf a env h with
  | ok d h =>
    show notD d h = R.bnd (truR d h) _
    simp only [notD, truR, trM, ofH]
    cases tru d h <;> rfl
  | exn e h => rfl
  | bad => rfl
theorem v_bin {o : BO} {a b : E} : ev cf (.bin o a b) env h = (ev cf a env h).bnd fun x h => (ev cf b env h).bnd fun y h => binD o x y h := by rw [ev]; rfl
theorem v_cmp {o : CO} {a b : E} : ev cf (.cmp o a b) env h = (ev cf a env h).bnd fun x h => (ev cf b env h).bnd fun y h => cmpD o x y h := by rw [ev]; rfl
theorem v_chn {o p : CO} {a b c : E} : ev cf (.chn o p a b c) env h = (ev cf a env h).bnd fun x h => (ev cf b env h).bnd fun y h => (cmpD o x y h).bnd fun r h => match r with
    | .bl false => .ok (.bl false) h
    | .bl true => (ev cf c env h).bnd fun z h => cmpD p y z h
    | _ => .bad := by
  rw [ev]
  show (ev cf a env h).bnd _ = _
  congr 1
  funext x h
  show (ev cf b env h).bnd _ = _
  congr 1
  funext y h
  show (cmpD o x y h).bnd _ = _
  congr 1
  funext r h
  cases r <;> first | rfl | (rename_i b; cases b <;> rfl)
theorem v_isN {a : E} : ev cf (.isN a) env h = (ev cf a env h).bnd fun x h => .ok (.bl (isNonD x)) h := by rw [ev]; rfl
theorem v_isnN {a : E} : ev cf (.isnN a) env h = (ev cf a env h).bnd fun x h => .ok (.bl (!isNonD x)) h := by rw [ev]; rfl
theorem v_and {a b : E} : ev cf (.and a b) env h = (ev cf a env h).bnd fun x h => (truR x h).bnd fun k h => if k = true then ev cf b env h else .ok x h := by
  rw [ev]
  show (ev cf a env h).bnd _ = _
  congr 1
  funext x h
  show (truR x h).bnd _ = _
  congr 1
  funext k h
  cases k <;> rfl
theorem v_or {a b : E} : ev cf (.or a b) env h = (ev cf a env h).bnd fun x h => (truR x h).bnd fun k h => if k = true then .ok x h else ev cf b env h := by
  rw [ev]
  show (ev cf a env h).bnd _ = _
  congr 1
  funext x h
  show (truR x h).bnd _ = _
  congr 1
  funext k h
  cases k <;> rfl
theorem v_ife {c a b : E} : ev cf (.ife c a b) env h = (ev cf c env h).bnd fun x h => (truR x h).bnd fun k h => if k = true then ev cf a env h else ev cf b env h := by
  rw [ev]
  show (ev cf c env h).bnd _ = _
  congr 1
  funext x h
  show (truR x h).bnd _ = _
  congr 1
  funext k h
  cases k <;> rfl
theorem v_tup {l : E} : ev cf (.tup l) env h = (evL cf l env h).bnd fun xs h => if xs.length ≤ SZ then .ok (.tup xs) h else .bad := by
  rw [ev]
  show (evL cf l env h).bnd _ = _
  congr 1
  funext x h
  split <;> rfl
theorem v_lst {l : E} : ev cf (.lst l) env h = (evL cf l env h).bnd fun xs h => if xs.length ≤ SZ then .ok (.lst xs) h else .bad := by
  rw [ev]
  show (evL cf l env h).bnd _ = _
  congr 1
  funext x h
  split <;> rfl
theorem v_cel {l : E} : ev cf (.cel l) env h = (evL cf l env h).bnd fun xs h => if xs.length ≤ SZ ∧ plains xs = true then .ok (.ref h.length) (h ++ [.lst xs]) else .bad := by
  rw [ev]
  show (evL cf l env h).bnd _ = _
  congr 1
  funext x h
  split <;> rfl
theorem v_idx {a b : E} : ev cf (.idx a b) env h = (ev cf a env h).bnd fun x h => (ev cf b env h).bnd fun y h => idxD x y h := by rw [ev]; rfl
theorem v_slc {a lo hi : E} : ev cf (.slc a lo hi) env h = (ev cf a env h).bnd fun x h => (evO cf lo env h).bnd fun l h => (evO cf hi env h).bnd fun u h => slcD x l u h := by rw [ev]; rfl
theorem v_call {f : Nat} {l : E} : ev cf (.call f l) env h = (evL cf l env h).bnd fun xs h => cf f xs h := by rw [ev]; rfl
theorem v_ck {f : Nat} {ix : List Nat} {l : E} : ev cf (.ck f ix l) env h = (evL cf l env h).bnd fun xs h => cf f (pickL ix xs) h := by rw [ev]; rfl
theorem v_blt {b : BI} {l : E} : ev cf (.blt b l) env h = (evL cf l env h).bnd fun xs h => bltD b xs h := by rw [ev]; rfl
theorem v_ex {o : XO} {l : E} : ev cf (.ex o l) env h = (evL cf l env h).bnd fun xs h => xop o xs h := by rw [ev]; rfl
theorem v_mth {o : MO} {a l : E} : ev cf (.mth o a l) env h = (ev cf a env h).bnd fun x h => if mpre o x h = true then (evL cf l env h).bnd fun xs h => mop o x xs h else .bad := by rw [ev]; rfl
theorem v_isi {a : E} {t : TY} : ev cf (.isi a t) env h = (ev cf a env h).bnd fun x h => isiD t x h := by rw [ev]; rfl
theorem l_nil : evL cf .nil env h = .ok [] h := by rw [evL]; rfl
theorem l_cons {a l : E} : evL cf (.cons a l) env h = (ev cf a env h).bnd fun x h => (evL cf l env h).bnd fun xs h => .ok (x :: xs) h := by rw [evL]; rfl
theorem o_nil : evO cf .nil env h = .ok none h := by rw [evO]; rfl
theorem o_cons {a l : E} : evO cf (.cons a l) env h = (ev cf a env h).bnd fun x h => match x with
    | .int i => .ok (some i) h
    | _ => .bad := by
  rw [evO]
  show (ev cf a env h).bnd _ = _
  congr 1
  funext x h
  cases x <;> rfl
theorem cond_nil {f : Env → M D} : condF f .nil env h = .ok true h := rfl
theorem cond_of {c : E} (hc : c ≠ .nil) : condF (ev cf c) c env h = (ev cf c env h).bnd fun x h => truR x h := by
  cases c <;> first | rfl | exact absurd rfl hc
theorem ret_ap {a : α} : (ret a : M α) h = .ok a h := rfl
theorem neg_int {i : Int} : negD (.int i) h = .ok (.int (-i)) h := rfl
/-! statements -/
theorem s_asg {t : Tg} {e : E} : exS cf (.asg t e) env h = R.on env (ev cf e env h) fun d h => match bind t d env h with
    | some env' => .ok (.nx env') h
    | none => .bad := by rw [exS]; rfl
theorem s_par {i j : Nat} {l : E} : exS cf (.par i j l) env h = R.on env (evL cf l env h) fun ds h => match ds with
    | [x, y] => if i < env.length ∧ j < env.length then .ok (.nx ((env.set i (some x)).set j (some y))) h else .bad
    | _ => .bad := by
  rw [exS]
  show R.on env (evL cf l env h) _ = _
  congr 1
  funext ds h
  rcases ds with _ | ⟨x, _ | ⟨y, _ | ⟨z, ds⟩⟩⟩ <;> first | rfl | (simp only []; split <;> rfl)
theorem s_exp {e : E} : exS cf (.exp e) env h = R.on env (ev cf e env h) fun _ h => .ok (.nx env) h := by rw [exS]; rfl
theorem s_rtn {e : E} : exS cf (.rtn e) env h = R.on env (ev cf e env h) fun d h => .ok (.rt d) h := by rw [exS]; rfl
theorem s_ite {c : E} {t e : S} : exS cf (.ite c t e) env h = R.on env ((ev cf c env h).bnd fun x h => truR x h) fun k h => if k = true then exS cf t env h else exS cf e env h := by
  rw [exS]
  refine congrArg (R.on env (R.bnd (ev cf c env h) trM)) ?_
  funext k h
  cases k <;> rfl
theorem s_nil : exS cf .nil env h = .ok (.nx env) h := by rw [exS]; rfl
theorem s_pas : exS cf .pas env h = .ok (.nx env) h := by rw [exS]; rfl
def R.thn (r : R Fl) (k : Env → MH → R Fl) : R Fl := match r with
  | .ok (.nx e1) h1 => k e1 h1
  | q => q
theorem s_seq {s r : S} : exS cf (.seq s r) env h = R.thn (exS cf s env h) fun e h => exS cf r e h := by
  rw [exS]
  rfl
theorem thn_nx {e1 : Env} {k : Env → MH → R Fl} : R.thn (.ok (.nx e1) h) k = k e1 h := rfl
theorem thn_rt {d : D} {k : Env → MH → R Fl} : R.thn (.ok (.rt d) h) k = .ok (.rt d) h := rfl
theorem s_for {t : Tg} {k : IK} {l : E} {b : S} : exS cf (.for_ t k l b) env h = R.on env ((evL cf l env h).bnd fun ds h => src k ds h) fun s h => forN s t (exS cf b) s.count 0 env h := by rw [exS]; rfl
/-! the end of a def -/
def endR (f : Fn) (n : Nat) (r : R Fl) : R D := match r with
  | .ok (.rt d) h' => fin f.raw n d h'
  | .ok (.nx _) h' => fin f.raw n .non h'
  | .ok (.ex _ e) h' => finX n e h'
  | _ => .bad
theorem end_rt {f : Fn} {n : Nat} {d : D} : endR f n (.ok (.rt d) h) = fin f.raw n d h := rfl
theorem end_nx {f : Fn} {n : Nat} {e : Env} : endR f n (.ok (.nx e) h) = fin f.raw n .non h := rfl
theorem run_eq {f : Fn} {ds : List D} (ha : ds.length = f.arity ∧ f.arity ≤ f.slots) : runFn cf f ds h = endR f h.length (exS cf f.body (ds.map some ++ List.replicate (f.slots - f.arity) none) h) := by
  unfold runFn
  rw [if_pos ha]
  rfl
end
theorem bind_nm {i : Nat} {d : D} {env : Env} {h : MH} : bind (.nm i) d env h = if i < env.length then some (env.set i (some d)) else none := by rw [bind]
theorem bind_tp {l : Tg} {xs : List D} {env : Env} {h : MH} : bind (.tp l) (.tup xs) env h = binds l xs env h := by rw [bind]
theorem binds_nil {env : Env} {h : MH} : binds .nil [] env h = some env := by rw [binds]
theorem binds_cons {t l : Tg} {d : D} {ds : List D} {env : Env} {h : MH} : binds (.cons t l) (d :: ds) env h = (match bind t d env h with
    | some env' => binds l ds env' h
    | none => none) := by first | (rw [binds]; done) | (rw [binds]; rfl)
end Mn

set_option maxHeartbeats 4000000
/-! Mn: what the defs of the program do: numbers, fractions, lots. -/
namespace Mn
section
variable {cf : Nat → List D → M D}
/- is_integer:  -/
def p_is_integer : Fn := ⟨1, 1, (.seq (.rtn (.and (.isi (.var 0) .int) (.not (.isi (.var 0) .bool))))
      .nil), false⟩
/- is_between: c0=is_integer -/
def p_is_between (c0 : Nat) : Fn := ⟨3, 3, (.seq (.rtn (.and (.call c0 (.cons (.var 0) .nil)) (.chn .le .le (.var 1) (.var 0) (.var 2))))
      .nil), false⟩
/- is_fraction: c0=is_between c1=common_divisor -/
def p_is_fraction (c0 c1 : Nat) : Fn := ⟨3, 3, (.seq (.ite (.or (.not (.isi (.var 0) .tuple)) (.cmp .ne (.blt .len (.cons (.var 0) .nil)) (.lit (.int 2)))) (.seq (.rtn (.lit (.bl false)))
      .nil) .nil)
      (.seq (.ite (.or (.not (.call c0 (.cons (.idx (.var 0) (.lit (.int 0))) (.cons (.neg (.var 1)) (.cons (.var 1) .nil))))) (.not (.call c0 (.cons (.idx (.var 0) (.lit (.int 1))) (.cons (.lit (.int 1)) (.cons (.var 2) .nil)))))) (.seq (.rtn (.lit (.bl false)))
      .nil) .nil)
      (.seq (.rtn (.cmp .eq (.call c1 (.cons (.idx (.var 0) (.lit (.int 0))) (.cons (.idx (.var 0) (.lit (.int 1))) .nil))) (.lit (.int 1))))
      .nil))), false⟩
/- is_share: c0=is_fraction -/
def p_is_share (c0 : Nat) : Fn := ⟨1, 1, (.seq (.rtn (.and (.call c0 (.cons (.var 0) (.cons (.glb "MOST_TOP" (.int 1000000000)) (.cons (.glb "MOST_BOTTOM" (.int 1000000)) .nil)))) (.chn .le .le (.lit (.int 0)) (.idx (.var 0) (.lit (.int 0))) (.idx (.var 0) (.lit (.int 1))))))
      .nil), false⟩
/- is_lot: c0=is_between -/
def p_is_lot (c0 : Nat) : Fn := ⟨5, 2, (.seq (.ite (.or (.not (.isi (.var 0) .tuple)) (.not (.blt .all (.cons (.lc [2] (.call c0 (.cons (.var 2) (.cons (.lit (.int 0)) (.cons (.bin .sub (.var 1) (.lit (.int 1))) .nil)))) (.nm 2) .seq (.cons (.var 0) .nil) .nil) .nil)))) (.seq (.rtn (.lit (.bl false)))
      .nil) .nil)
      (.seq (.rtn (.blt .all (.cons (.lc [3, 4] (.cmp .lt (.var 3) (.var 4)) (.tp (.cons (.nm 3) (.cons (.nm 4) .nil))) .zip (.cons (.var 0) (.cons (.slc (.var 0) (.cons (.lit (.int 1)) .nil) .nil) .nil)) .nil) .nil)))
      .nil)), false⟩
/- bit_of:  -/
def p_bit_of : Fn := ⟨3, 1, (.seq (.asg (.nm 1) (.lit (.int 1)))
      (.seq (.for_ (.nm 2) .rng (.cons (.var 0) .nil) (.seq (.asg (.nm 1) (.bin .mul (.lit (.int 2)) (.var 1)))
      .nil))
      (.seq (.rtn (.var 1))
      .nil))), false⟩
/- lot_at: c0=bit_of -/
def p_lot_at (c0 : Nat) : Fn := ⟨3, 2, (.seq (.rtn (.blt .tuple (.cons (.lc [2] (.var 2) (.nm 2) .rng (.cons (.var 1) .nil) (.cmp .eq (.bin .mod (.bin .fdv (.var 0) (.call c0 (.cons (.var 2) .nil))) (.lit (.int 2))) (.lit (.int 1)))) .nil)))
      .nil), false⟩
/- all_lots: c0=lot_at c1=bit_of -/
def p_all_lots (c0 c1 : Nat) : Fn := ⟨2, 1, (.seq (.rtn (.lc [1] (.call c0 (.cons (.var 1) (.cons (.var 0) .nil))) (.nm 1) .rng (.cons (.call c1 (.cons (.var 0) .nil)) .nil) .nil))
      .nil), false⟩
/- lesser_lots: c0=bit_of c1=lot_at -/
def p_lesser_lots (c0 c1 : Nat) : Fn := ⟨3, 2, (.seq (.rtn (.lc [2] (.bin .sub (.var 0) (.call c0 (.cons (.var 2) .nil))) (.nm 2) .seq (.cons (.call c1 (.cons (.var 0) (.cons (.var 1) .nil))) .nil) .nil))
      .nil), false⟩
/- is_inside:  -/
def p_is_inside : Fn := ⟨3, 2, (.seq (.rtn (.blt .all (.cons (.lc [2] (.cmp .isin (.var 2) (.var 1)) (.nm 2) .seq (.cons (.var 0) .nil) .nil) .nil)))
      .nil), false⟩
/- do_touch:  -/
def p_do_touch : Fn := ⟨3, 2, (.seq (.rtn (.blt .any (.cons (.lc [2] (.cmp .isin (.var 2) (.var 1)) (.nm 2) .seq (.cons (.var 0) .nil) .nil) .nil)))
      .nil), false⟩
/- added: c0=plus -/
def p_added (c0 : Nat) : Fn := ⟨3, 1, (.seq (.asg (.nm 1) (.tup (.cons (.lit (.int 0)) (.cons (.lit (.int 1)) .nil))))
      (.seq (.for_ (.nm 2) .seq (.cons (.var 0) .nil) (.seq (.asg (.nm 1) (.call c0 (.cons (.var 1) (.cons (.var 2) .nil))))
      .nil))
      (.seq (.rtn (.var 1))
      .nil))), false⟩
/- check_lot: c0=is_lot -/
def p_check_lot (c0 : Nat) : Fn := ⟨2, 2, (.seq (.ite (.not (.call c0 (.cons (.var 0) (.cons (.var 1) .nil)))) (.seq .rai
      .nil) .nil)
      .nil), false⟩
/- check_outcomes: c0=is_between -/
def p_check_outcomes (c0 : Nat) : Fn := ⟨1, 1, (.seq (.ite (.not (.call c0 (.cons (.var 0) (.cons (.lit (.int 2)) (.cons (.glb "MOST_LISTED" (.int 5)) .nil))))) (.seq .rai
      .nil) .nil)
      .nil), false⟩
/- _law_lot:  -/
def l_lot : Fn := ⟨3, 2, (.seq (.rtn (.blt .tuple (.cons (.lc [2] (.var 2) (.nm 2) .rng (.cons (.var 1) .nil) (.cmp .eq (.bin .mod (.blt .int (.cons (.bin .fdv (.var 0) (.idx (.lst (.cons (.lit (.int 1)) (.cons (.lit (.int 2)) (.cons (.lit (.int 4)) (.cons (.lit (.int 8)) (.cons (.lit (.int 16)) .nil)))))) (.var 2))) .nil)) (.lit (.int 2))) (.lit (.int 1)))) .nil)))
      .nil), false⟩
abbrev IntegerAt (cf : Nat → List D → M D) (c : Nat) : Prop := ∀ (i : Int) h, cf c [.int i] h = .ok (.bl true) h
abbrev BetweenAt (cf : Nat → List D → M D) (c : Nat) : Prop := ∀ (v lo hi : Int) h, cf c [.int v, .int lo, .int hi] h = .ok (.bl (decide (lo ≤ v ∧ v ≤ hi))) h
abbrev GcdAt (cf : Nat → List D → M D) (c : Nat) : Prop := ∀ (a b : Int) h, b.natAbs < 2 ^ 100000 → cf c [.int a, .int b] h = .ok (.int (Int.gcd a b : Nat)) h
abbrev PlusAt (cf : Nat → List D → M D) (c : Nat) : Prop := ∀ p q h, Sz 1900 p → Sz 1900 q → cf c [fr p, fr q] h = .ok (fr (p + q)) h
abbrev MinusAt (cf : Nat → List D → M D) (c : Nat) : Prop := ∀ p q h, Sz 1900 p → Sz 1900 q → cf c [fr p, fr q] h = .ok (fr (p - q)) h
abbrev TimesAt (cf : Nat → List D → M D) (c : Nat) : Prop := ∀ p q h, Sz 1900 p → Sz 1900 q → cf c [fr p, fr q] h = .ok (fr (p * q)) h
abbrev LessAt (cf : Nat → List D → M D) (c : Nat) : Prop := ∀ p q h, Sz 1900 p → Sz 1900 q → cf c [fr p, fr q] h = .ok (.bl (decide (p < q))) h
theorem fin_bl {b : Bool} {h : MH} : fin false h.length (.bl b) h = .ok (.bl b) h := by simp [fin, plain]
theorem fin_int {b : Int} {h : MH} : fin false h.length (.int b) h = .ok (.int b) h := by simp [fin, plain]
theorem fin_non {h : MH} : fin false h.length .non h = .ok .non h := by simp [fin, plain]
theorem fin_tup {xs : List D} {h : MH} (hp : plains xs = true) : fin false h.length (.tup xs) h = .ok (.tup xs) h := by simp [fin, plain, hp]
theorem fin_lst {xs : List D} {h : MH} (hp : plains xs = true) : fin false h.length (.lst xs) h = .ok (.lst xs) h := by simp [fin, plain, hp]
theorem is_integer_ok {i : Int} {h : MH} : runFn cf p_is_integer [.int i] h = .ok (.bl true) h := by
  rw [run_eq ⟨rfl, by simp [p_is_integer]⟩]
  simp -implicitDefEqProofs [p_is_integer, -Int.natCast_ediv, -Int.natCast_pow, -Int.natCast_emod, b_ok, on_ok, tru_bl, tru_int, tru_non, look_0, look_s, v_var, v_lit, v_glb, v_pow, v_neg, v_not, v_bin, v_cmp, v_chn, v_and, v_or, v_ife, v_tup, v_lst, v_cel, v_idx, v_slc, v_call, v_ck, v_blt, v_ex, v_mth, v_isi, v_isN, v_isnN, l_nil, l_cons, o_nil, o_cons, s_asg, s_par, s_exp, s_rtn, s_ite, s_nil, s_pas, s_seq, thn_nx, thn_rt, end_rt, end_nx, bind_nm, bind_tp, binds_nil, binds_cons, cond_nil, Lit.d, ret_ap, neg_int, bin_add, bin_sub, cmp_le, cmp_lt, cmp_gt, cmp_ge, cmp_eq, cmp_ne, idx_fr0, idx_fr1, blt_int, fin_bl, fin_int, fin_non, fin_fr, isiD]
theorem is_between_ok {c : Nat} (I : IntegerAt cf c) {v lo hi : Int} {h : MH} : runFn cf (p_is_between c) [.int v, .int lo, .int hi] h = .ok (.bl (decide (lo ≤ v ∧ v ≤ hi))) h := by
  rw [run_eq ⟨rfl, by simp [p_is_between]⟩]
  by_cases h1 : lo ≤ v <;> simp -implicitDefEqProofs [p_is_between, -Int.natCast_ediv, -Int.natCast_pow, -Int.natCast_emod, b_ok, on_ok, tru_bl, tru_int, tru_non, look_0, look_s, v_var, v_lit, v_glb, v_pow, v_neg, v_not, v_bin, v_cmp, v_chn, v_and, v_or, v_ife, v_tup, v_lst, v_cel, v_idx, v_slc, v_call, v_ck, v_blt, v_ex, v_mth, v_isi, v_isN, v_isnN, l_nil, l_cons, o_nil, o_cons, s_asg, s_par, s_exp, s_rtn, s_ite, s_nil, s_pas, s_seq, thn_nx, thn_rt, end_rt, end_nx, bind_nm, bind_tp, binds_nil, binds_cons, cond_nil, Lit.d, ret_ap, neg_int, bin_add, bin_sub, cmp_le, cmp_lt, cmp_gt, cmp_ge, cmp_eq, cmp_ne, idx_fr0, idx_fr1, blt_int, fin_bl, fin_int, fin_non, fin_fr, I _ _, cmp_le, h1, fin_bl]
/-! ### fractions -/
abbrev FractionAt (cf : Nat → List D → M D) (c : Nat) : Prop := ∀ (q : Rat) (t b : Nat) h, q.den < 2 ^ 100000 → cf c [fr q, .int t, .int b] h = .ok (.bl (decide (q.num.natAbs ≤ t ∧ q.den ≤ b))) h
abbrev ShareAt (cf : Nat → List D → M D) (c : Nat) : Prop := ∀ (q : Rat) h, q.den < 2 ^ 100000 → cf c [fr q] h = .ok (.bl (decide (0 ≤ q ∧ q ≤ 1 ∧ q.den ≤ 1000000))) h
theorem isi_fr {q : Rat} {h : MH} : isiD .tuple (fr q) h = .ok (.bl true) h := rfl
theorem len_fr {q : Rat} {h : MH} : bltD .len [fr q] h = .ok (.int 2) h := rfl
theorem gcd_fr {q : Rat} : Int.gcd q.num (q.den : Int) = 1 := by
  have := q.reduced
  unfold Nat.Coprime at this
  simpa [Int.gcd] using this
theorem is_fraction_ok {c d : Nat} (B : BetweenAt cf c) (G : GcdAt cf d) {q : Rat} {t b : Nat} {h : MH} (hq : q.den < 2 ^ 100000) : runFn cf (p_is_fraction c d) [fr q, .int t, .int b] h = .ok (.bl (decide (q.num.natAbs ≤ t ∧ q.den ≤ b))) h := by
  have g := G q.num q.den
  rw [gcd_fr] at g
  have b1 : ∀ h, cf c [.int q.num, .int (-(t : Int)), .int t] h = .ok (.bl (decide (q.num.natAbs ≤ t))) h := fun h => by
    rw [B]
    exact congrArg (fun b => R.ok (D.bl b) h) (decide_eq_decide.mpr (by omega))
  have b2 : ∀ h, cf c [.int (q.den : Int), .int 1, .int b] h = .ok (.bl (decide (q.den ≤ b))) h := fun h => by
    rw [B]
    exact congrArg (fun b => R.ok (D.bl b) h) (decide_eq_decide.mpr (by have := q.den_pos; omega))
  rw [run_eq ⟨rfl, by simp [p_is_fraction]⟩]
  by_cases h1 : q.num.natAbs ≤ t <;> by_cases h2 : q.den ≤ b <;> simp -implicitDefEqProofs [p_is_fraction, -Int.natCast_ediv, -Int.natCast_pow, -Int.natCast_emod, b_ok, on_ok, tru_bl, tru_int, tru_non, look_0, look_s, v_var, v_lit, v_glb, v_pow, v_neg, v_not, v_bin, v_cmp, v_chn, v_and, v_or, v_ife, v_tup, v_lst, v_cel, v_idx, v_slc, v_call, v_ck, v_blt, v_ex, v_mth, v_isi, v_isN, v_isnN, l_nil, l_cons, o_nil, o_cons, s_asg, s_par, s_exp, s_rtn, s_ite, s_nil, s_pas, s_seq, thn_nx, thn_rt, end_rt, end_nx, bind_nm, bind_tp, binds_nil, binds_cons, cond_nil, Lit.d, ret_ap, neg_int, bin_add, bin_sub, cmp_le, cmp_lt, cmp_gt, cmp_ge, cmp_eq, cmp_ne, idx_fr0, idx_fr1, blt_int, fin_bl, fin_int, fin_non, fin_fr, isi_fr, len_fr, b1, b2, h1, h2, g, hq]
theorem is_share_ok {c : Nat} (F : FractionAt cf c) {q : Rat} {h : MH} (hq : q.den < 2 ^ 100000) : runFn cf (p_is_share c) [fr q] h = .ok (.bl (decide (0 ≤ q ∧ q ≤ 1 ∧ q.den ≤ 1000000))) h := by
  have f := fun h => F q 1000000000 1000000 h hq
  have f : ∀ h, cf c [fr q, .int 1000000000, .int 1000000] h = .ok (.bl (decide (q.num.natAbs ≤ 1000000000 ∧ q.den ≤ 1000000))) h := f
  have e0 : (0 ≤ q) ↔ 0 ≤ q.num := Rat.num_nonneg.symm
  have e1 : (q ≤ 1) ↔ q.num ≤ q.den := by
    have := Rat.le_iff q 1
    simpa using this
  rw [run_eq ⟨rfl, by simp [p_is_share]⟩]
  by_cases h1 : q.num.natAbs ≤ 1000000000 ∧ q.den ≤ 1000000
  · by_cases h2 : 0 ≤ q.num
    · simp -implicitDefEqProofs [p_is_share, -Int.natCast_ediv, -Int.natCast_pow, -Int.natCast_emod, b_ok, on_ok, tru_bl, tru_int, tru_non, look_0, look_s, v_var, v_lit, v_glb, v_pow, v_neg, v_not, v_bin, v_cmp, v_chn, v_and, v_or, v_ife, v_tup, v_lst, v_cel, v_idx, v_slc, v_call, v_ck, v_blt, v_ex, v_mth, v_isi, v_isN, v_isnN, l_nil, l_cons, o_nil, o_cons, s_asg, s_par, s_exp, s_rtn, s_ite, s_nil, s_pas, s_seq, thn_nx, thn_rt, end_rt, end_nx, bind_nm, bind_tp, binds_nil, binds_cons, cond_nil, Lit.d, ret_ap, neg_int, bin_add, bin_sub, cmp_le, cmp_lt, cmp_gt, cmp_ge, cmp_eq, cmp_ne, idx_fr0, idx_fr1, blt_int, fin_bl, fin_int, fin_non, fin_fr, f, h1, idx_fr0, idx_fr1, cmp_le, h2, fin_bl, e0, e1]
    · simp -implicitDefEqProofs [p_is_share, -Int.natCast_ediv, -Int.natCast_pow, -Int.natCast_emod, b_ok, on_ok, tru_bl, tru_int, tru_non, look_0, look_s, v_var, v_lit, v_glb, v_pow, v_neg, v_not, v_bin, v_cmp, v_chn, v_and, v_or, v_ife, v_tup, v_lst, v_cel, v_idx, v_slc, v_call, v_ck, v_blt, v_ex, v_mth, v_isi, v_isN, v_isnN, l_nil, l_cons, o_nil, o_cons, s_asg, s_par, s_exp, s_rtn, s_ite, s_nil, s_pas, s_seq, thn_nx, thn_rt, end_rt, end_nx, bind_nm, bind_tp, binds_nil, binds_cons, cond_nil, Lit.d, ret_ap, neg_int, bin_add, bin_sub, cmp_le, cmp_lt, cmp_gt, cmp_ge, cmp_eq, cmp_ne, idx_fr0, idx_fr1, blt_int, fin_bl, fin_int, fin_non, fin_fr, f, h1, idx_fr0, idx_fr1, cmp_le, h2, fin_bl, e0, e1]
  · have h3 : ¬ (0 ≤ q ∧ q ≤ 1 ∧ q.den ≤ 1000000) := by
      rw [e0, e1]
      omega
    simp -implicitDefEqProofs [p_is_share, -Int.natCast_ediv, -Int.natCast_pow, -Int.natCast_emod, b_ok, on_ok, tru_bl, tru_int, tru_non, look_0, look_s, v_var, v_lit, v_glb, v_pow, v_neg, v_not, v_bin, v_cmp, v_chn, v_and, v_or, v_ife, v_tup, v_lst, v_cel, v_idx, v_slc, v_call, v_ck, v_blt, v_ex, v_mth, v_isi, v_isN, v_isnN, l_nil, l_cons, o_nil, o_cons, s_asg, s_par, s_exp, s_rtn, s_ite, s_nil, s_pas, s_seq, thn_nx, thn_rt, end_rt, end_nx, bind_nm, bind_tp, binds_nil, binds_cons, cond_nil, Lit.d, ret_ap, neg_int, bin_add, bin_sub, cmp_le, cmp_lt, cmp_gt, cmp_ge, cmp_eq, cmp_ne, idx_fr0, idx_fr1, blt_int, fin_bl, fin_int, fin_non, fin_fr, f, h1, fin_bl, h3]
/-! ### lots -/
def tI (ks : List Nat) : D := .tup (ks.map fun k : Nat => .int (k : Int))
abbrev lotD (n x : Nat) : D := tI (lotL n x)
theorem plains_map {α : Type} {f : α → D} : ∀ {l : List α}, (∀ a ∈ l, plain (f a) = true) → plains (l.map f) = true
  | [], _ => rfl
  | a :: r, h => by
    simp only [List.map_cons, plains, Bool.and_eq_true]
    exact ⟨h a (by simp), plains_map fun b hb => h b (by simp [hb])⟩
theorem plain_tI {ks : List Nat} : plain (tI ks) = true := plains_map fun _ _ => rfl
theorem fin_tI {ks : List Nat} {h : MH} : fin false h.length (tI ks) h = .ok (tI ks) h := fin_tup plain_tI
theorem pd_ints {α : Type} {f : α → Int} : ∀ {l : List α}, pd0L (l.map fun a => .int (f a)) = some (l.map fun a => .int (f a))
  | [] => rfl
  | a :: r => by simp [pd0L, pd0, pd_ints]
theorem in_tI {i : Nat} {ks : List Nat} {h : MH} : inO (.int (i : Int)) (tI ks) h = some (decide (i ∈ ks)) := by
  unfold tI inO
  simp only [pd0, pd_ints]
  have : ((flatP (PySem.PyData.int i)) && (ks.map fun a : Nat => PySem.PyData.int (a : Int)).all flatP) = true := by
    simp [flatP]
  rw [if_pos this]
  congr 1
  rw [Bool.eq_iff_iff]
  simp [PySem.PyData.eqv]
  constructor
  · rintro ⟨x, hx, e⟩
    have : x = i := by omega
    exact this ▸ hx
  · exact fun hx => ⟨i, hx, rfl⟩
theorem filter_tt {α : Type} {l : List α} : l.filter (fun _ => true) = l := List.filter_eq_self.mpr fun _ _ => rfl
theorem isin_tI {i : Nat} {ks : List Nat} {h : MH} : cmpD .isin (.int (i : Int)) (tI ks) h = .ok (.bl (decide (i ∈ ks))) h := by simp [cmpD, ofH, in_tI]
theorem noti_tI {i : Nat} {ks : List Nat} {h : MH} : cmpD .noti (.int (i : Int)) (tI ks) h = .ok (.bl (!decide (i ∈ ks))) h := by simp [cmpD, ofH, in_tI]
theorem bools_map {α : Type} {p : α → Bool} : ∀ {l : List α}, dBools (l.map fun a => .bl (p a)) = some (l.map p)
  | [] => rfl
  | a :: r => by simp [dBools, bools_map]
theorem ints_map {α : Type} {p : α → Int} : ∀ {l : List α}, dInts (l.map fun a => .int (p a)) = some (l.map p)
  | [] => rfl
  | a :: r => by simp [dInts, ints_map]
theorem all_lst {α : Type} {p : α → Bool} {l : List α} {h : MH} : bltD .all [.lst (l.map fun a => .bl (p a))] h = .ok (.bl (l.all p)) h := by
  simp [bltD, lItems, bools_map, List.all_map]
theorem any_lst {α : Type} {p : α → Bool} {l : List α} {h : MH} : bltD .any [.lst (l.map fun a => .bl (p a))] h = .ok (.bl (l.any p)) h := by
  simp [bltD, lItems, bools_map, List.any_map]
theorem tuple_lst {xs : List D} {h : MH} : bltD .tuple [.lst xs] h = .ok (.tup xs) h := rfl
/-- a comprehension over a tuple or list of mapped items -/
theorem lc_seq {α : Type} {own : List Nat} {elt : E} {t : Tg} {l c : E} {env : Env} {h : MH} (ys : List α) (f : α → D) (p : α → Bool) (g : α → D) (hl : ys.length ≤ SZ)
    (e : evL cf l env h = .ok [.tup (ys.map f)] h ∨ evL cf l env h = .ok [.lst (ys.map f)] h)
    (step : ∀ y ∈ ys, ∃ env1, bind t (f y) (wipeE env own) h = some env1 ∧ condF (ev cf c) c env1 h = .ok (p y) h ∧ (p y = true → ev cf elt env1 h = .ok (g y) h)) :
    ev cf (.lc own elt t .seq l c) env h = .ok (.lst ((ys.filter p).map g)) h := by
  have z := lc_gen (s := .seq (ys.map f)) (t := t) (own := own) (cond := condF (ev cf c) c) (elt := ev cf elt) (env := env) (h := h) (ys := ys) (f := f) p g (fun k hk => by simp [Src.at, hk]) rfl hl step
  have cn : (Src.seq (ys.map f)).count = ys.length := by simp [Src.count]
  rw [← cn] at z
  rcases e with e | e
  · exact lc_of e rfl z
  · exact lc_of e rfl z
theorem rng_ok {n : Nat} {h : MH} (hn : n ≤ SZ) : src .rng [.int (n : Int)] h = .ok (.rng 0 n) h := by
  have hr : -RNG ≤ (n : Int) ∧ (n : Int) < RNG := by
    unfold SZ at hn
    constructor <;> (unfold RNG; omega)
  simp only [src]
  rw [if_pos hr]
  rfl
/-- over a range -/
theorem lc_rng {own : List Nat} {elt : E} {t : Tg} {l c : E} {env : Env} {h : MH} (n : Nat) (p : Nat → Bool) (g : Nat → D) (hl : n ≤ SZ)
    (e : evL cf l env h = .ok [.int (n : Int)] h)
    (step : ∀ k, k < n → ∃ env1, bind t (.int (k : Int)) (wipeE env own) h = some env1 ∧ condF (ev cf c) c env1 h = .ok (p k) h ∧ (p k = true → ev cf elt env1 h = .ok (g k) h)) :
    ev cf (.lc own elt t .rng l c) env h = .ok (.lst (((List.range n).filter p).map g)) h := by
  have z := lc_gen (s := .rng 0 n) (t := t) (own := own) (cond := condF (ev cf c) c) (elt := ev cf elt) (env := env) (h := h) (ys := List.range n) (f := fun k => .int (k : Int)) p g (fun k hk => by
    have : k < n := by simpa using hk
    simp [Src.at, this]) rfl (by simpa using hl) (fun y hy => step y (by simpa using hy))
  rw [List.length_range] at z
  exact lc_of e (rng_ok hl) z
theorem cut_tail {α : Type} {xs : List α} : cut xs (some 1) none = xs.drop 1 := by
  cases xs with
  | nil => rfl
  | cons x r =>
    have : HT.sIx (x :: r).length 0 (some 1) = 1 := by
      have := HT.sIx_nat (x :: r).length 0 1
      simpa using this
    unfold cut
    rw [this, HT.sIx_none]
    simp
/-- over enumerate of mapped items by their places -/
theorem lc_enm {own : List Nat} {elt : E} {t : Tg} {l c : E} {env : Env} {h : MH} (n : Nat) (f : Nat → D) (p : Nat → Bool) (g : Nat → D) (hl : n ≤ SZ)
    (e : evL cf l env h = .ok [.tup ((List.range n).map f)] h ∨ evL cf l env h = .ok [.lst ((List.range n).map f)] h)
    (step : ∀ k, k < n → ∃ env1, bind t (.tup [.int (k : Int), f k]) (wipeE env own) h = some env1 ∧ condF (ev cf c) c env1 h = .ok (p k) h ∧ (p k = true → ev cf elt env1 h = .ok (g k) h)) :
    ev cf (.lc own elt t .enum l c) env h = .ok (.lst (((List.range n).filter p).map g)) h := by
  have z := lc_gen (s := .enm ((List.range n).map f)) (t := t) (own := own) (cond := condF (ev cf c) c) (elt := ev cf elt) (env := env) (h := h) (ys := List.range n) (f := fun k => .tup [.int (k : Int), f k]) p g (fun k hk => by
    have : k < n := by simpa using hk
    simp [Src.at, this]) rfl (by simpa using hl) (fun y hy => step y (by simpa using hy))
  have cn : (Src.enm ((List.range n).map f)).count = (List.range n).length := by simp [Src.count]
  rw [← cn] at z
  rcases e with e | e
  · exact lc_of e rfl z
  · exact lc_of e rfl z
theorem lot_len {n x : Nat} : (lotL n x).length ≤ n := by
  have := List.length_filter_le (fun k => x / 2 ^ k % 2 == 1) (List.range n)
  simpa [lotL] using this
/-- cf c of a lot and the outcomes -/
abbrev LotAt (cf : Nat → List D → M D) (c : Nat) : Prop := ∀ (n x : Nat) h, n ≤ 1000 → cf c [lotD n x, .int n] h = .ok (.bl true) h
theorem is_lot_ok {c : Nat} (B : BetweenAt cf c) {n x : Nat} {h : MH} (hn : n ≤ 1000) : runFn cf (p_is_lot c) [lotD n x, .int n] h = .ok (.bl true) h := by
  have hl := lot_len (n := n) (x := x)
  have a1 := lc_seq (cf := cf) (own := [2]) (elt := .call c (.cons (.var 2) (.cons (.lit (.int 0)) (.cons (.bin .sub (.var 1) (.lit (.int 1))) .nil)))) (t := .nm 2) (l := .cons (.var 0) .nil) (c := .nil) (env := [some (lotD n x), oI n, none, none, none]) (h := h) (lotL n x) (fun k => .int (k : Int)) (fun _ => true) (fun _ => .bl true) (Nat.le_trans hl (Nat.le_trans hn (by decide))) (.inl (by simp -implicitDefEqProofs [-Int.natCast_ediv, -Int.natCast_pow, -Int.natCast_emod, b_ok, on_ok, tru_bl, tru_int, tru_non, look_0, look_s, v_var, v_lit, v_glb, v_pow, v_neg, v_not, v_bin, v_cmp, v_chn, v_and, v_or, v_ife, v_tup, v_lst, v_cel, v_idx, v_slc, v_call, v_ck, v_blt, v_ex, v_mth, v_isi, v_isN, v_isnN, l_nil, l_cons, o_nil, o_cons, s_asg, s_par, s_exp, s_rtn, s_ite, s_nil, s_pas, s_seq, thn_nx, thn_rt, end_rt, end_nx, bind_nm, bind_tp, binds_nil, binds_cons, cond_nil, Lit.d, ret_ap, neg_int, bin_add, bin_sub, cmp_le, cmp_lt, cmp_gt, cmp_ge, cmp_eq, cmp_ne, idx_fr0, idx_fr1, blt_int, fin_bl, fin_int, fin_non, fin_fr, tI])) (fun k hk => by
      have := lotL_lt hk
      have h1 : (k : Int) ≤ (n : Int) - 1 := by omega
      refine ⟨_, rfl, rfl, fun _ => ?_⟩
      simp -implicitDefEqProofs [-Int.natCast_ediv, -Int.natCast_pow, -Int.natCast_emod, b_ok, on_ok, tru_bl, tru_int, tru_non, look_0, look_s, v_var, v_lit, v_glb, v_pow, v_neg, v_not, v_bin, v_cmp, v_chn, v_and, v_or, v_ife, v_tup, v_lst, v_cel, v_idx, v_slc, v_call, v_ck, v_blt, v_ex, v_mth, v_isi, v_isN, v_isnN, l_nil, l_cons, o_nil, o_cons, s_asg, s_par, s_exp, s_rtn, s_ite, s_nil, s_pas, s_seq, thn_nx, thn_rt, end_rt, end_nx, bind_nm, bind_tp, binds_nil, binds_cons, cond_nil, Lit.d, ret_ap, neg_int, bin_add, bin_sub, cmp_le, cmp_lt, cmp_gt, cmp_ge, cmp_eq, cmp_ne, idx_fr0, idx_fr1, blt_int, fin_bl, fin_int, fin_non, fin_fr, wipeE, B _ _ _ _, bin_sub, h1])
  have a2 : ev cf (.lc [3, 4] (.cmp .lt (.var 3) (.var 4)) (.tp (.cons (.nm 3) (.cons (.nm 4) .nil))) .zip (.cons (.var 0) (.cons (.slc (.var 0) (.cons (.lit (.int 1)) .nil) .nil) .nil)) .nil) [some (lotD n x), oI n, none, none, none] h = .ok (.lst ((List.range ((lotL n x).length - 1)).map fun _ => .bl true)) h := by
    have z := lc_gen (s := .zip ((lotL n x).map fun k : Nat => .int (k : Int)) (((lotL n x).map fun k : Nat => D.int (k : Int)).drop 1)) (t := .tp (.cons (.nm 3) (.cons (.nm 4) .nil))) (own := [3, 4]) (cond := condF (ev cf .nil) .nil) (elt := ev cf (.cmp .lt (.var 3) (.var 4))) (env := [some (lotD n x), oI n, none, none, none]) (h := h) (ys := List.range ((lotL n x).length - 1)) (f := fun k => .tup [.int ((lotL n x).getD k 0 : Nat), .int ((lotL n x).getD (k + 1) 0 : Nat)]) (fun _ => true) (fun _ => .bl true) (fun k hk => by
      have h1 : k < (lotL n x).length - 1 := by simpa using hk
      have h2 : k < (lotL n x).length := by omega
      have h3 : k + 1 < (lotL n x).length := by omega
      have h4 : 1 + k < (lotL n x).length := by omega
      simp [Src.at, h2, h3, Nat.add_comm 1 k]) rfl (by simp; have : SZ = 16777216 := rfl; omega) (fun k hk => by
      have h1 : k < (lotL n x).length - 1 := by simpa using hk
      have h2 : k < (lotL n x).length := by omega
      have h3 : k + 1 < (lotL n x).length := by omega
      have lt := List.pairwise_iff_getElem.mp (lotL_asc n x) k (k + 1) h2 h3 (by omega)
      refine ⟨_, rfl, rfl, fun _ => ?_⟩
      have : ((lotL n x)[k] : Int) < ((lotL n x)[k + 1] : Int) := by omega
      simp -implicitDefEqProofs [-Int.natCast_ediv, -Int.natCast_pow, -Int.natCast_emod, b_ok, on_ok, tru_bl, tru_int, tru_non, look_0, look_s, v_var, v_lit, v_glb, v_pow, v_neg, v_not, v_bin, v_cmp, v_chn, v_and, v_or, v_ife, v_tup, v_lst, v_cel, v_idx, v_slc, v_call, v_ck, v_blt, v_ex, v_mth, v_isi, v_isN, v_isnN, l_nil, l_cons, o_nil, o_cons, s_asg, s_par, s_exp, s_rtn, s_ite, s_nil, s_pas, s_seq, thn_nx, thn_rt, end_rt, end_nx, bind_nm, bind_tp, binds_nil, binds_cons, cond_nil, Lit.d, ret_ap, neg_int, bin_add, bin_sub, cmp_le, cmp_lt, cmp_gt, cmp_ge, cmp_eq, cmp_ne, idx_fr0, idx_fr1, blt_int, fin_bl, fin_int, fin_non, fin_fr, wipeE, h2, h3, this])
    have hc : Src.count (.zip ((lotL n x).map fun k : Nat => .int (k : Int)) (((lotL n x).map fun k : Nat => D.int (k : Int)).drop 1)) = (List.range ((lotL n x).length - 1)).length := by
      simp [Src.count]
    rw [← hc] at z
    have z2 := lc_of (cf := cf) (l := .cons (.var 0) (.cons (.slc (.var 0) (.cons (.lit (.int 1)) .nil) .nil) .nil)) (k := .zip) (h := h) (h1 := h) (h2 := h) (ds := [lotD n x, .tup (((lotL n x).map fun k : Nat => D.int (k : Int)).drop 1)]) (by simp -implicitDefEqProofs [-Int.natCast_ediv, -Int.natCast_pow, -Int.natCast_emod, b_ok, on_ok, tru_bl, tru_int, tru_non, look_0, look_s, v_var, v_lit, v_glb, v_pow, v_neg, v_not, v_bin, v_cmp, v_chn, v_and, v_or, v_ife, v_tup, v_lst, v_cel, v_idx, v_slc, v_call, v_ck, v_blt, v_ex, v_mth, v_isi, v_isN, v_isnN, l_nil, l_cons, o_nil, o_cons, s_asg, s_par, s_exp, s_rtn, s_ite, s_nil, s_pas, s_seq, thn_nx, thn_rt, end_rt, end_nx, bind_nm, bind_tp, binds_nil, binds_cons, cond_nil, Lit.d, ret_ap, neg_int, bin_add, bin_sub, cmp_le, cmp_lt, cmp_gt, cmp_ge, cmp_eq, cmp_ne, idx_fr0, idx_fr1, blt_int, fin_bl, fin_int, fin_non, fin_fr, tI, slcD, cut_tail]) rfl z
    rwa [filter_tt] at z2
  have a1' : ev cf (.lc [2] (.call c (.cons (.var 2) (.cons (.lit (.int 0)) (.cons (.bin .sub (.var 1) (.lit (.int 1))) .nil)))) (.nm 2) .seq (.cons (.var 0) .nil) .nil) [some (lotD n x), oI n, none, none, none] h = .ok (.lst ((lotL n x).map fun _ => .bl true)) h := by rwa [filter_tt] at a1
  have is : isiD .tuple (lotD n x) h = .ok (.bl true) h := rfl
  rw [run_eq ⟨rfl, by simp [p_is_lot]⟩]
  simp only [p_is_lot, List.map, List.replicate, List.cons_append, List.nil_append, Nat.reduceSub]
  simp -implicitDefEqProofs [-Int.natCast_ediv, -Int.natCast_pow, -Int.natCast_emod, b_ok, on_ok, tru_bl, tru_int, tru_non, look_0, look_s, v_var, v_lit, v_glb, v_pow, v_neg, v_not, v_bin, v_cmp, v_chn, v_and, v_or, v_ife, v_tup, v_lst, v_cel, v_idx, v_slc, v_call, v_ck, v_blt, v_ex, v_mth, v_isi, v_isN, v_isnN, l_nil, l_cons, o_nil, o_cons, s_asg, s_par, s_exp, s_rtn, s_ite, s_nil, s_pas, s_seq, thn_nx, thn_rt, end_rt, end_nx, bind_nm, bind_tp, binds_nil, binds_cons, cond_nil, Lit.d, ret_ap, neg_int, bin_add, bin_sub, cmp_le, cmp_lt, cmp_gt, cmp_ge, cmp_eq, cmp_ne, idx_fr0, idx_fr1, blt_int, fin_bl, fin_int, fin_non, fin_fr, a1', a2, is, all_lst]
end
end Mn

set_option maxHeartbeats 4000000
/-! Mn: what the defs of the program do: lots by indexes, sums. -/
namespace Mn
section
variable {cf : Nat → List D → M D}
/-- over a range, without a test -/
theorem lc_rng' {own : List Nat} {elt : E} {t : Tg} {l : E} {env : Env} {h : MH} (n : Nat) (g : Nat → D) (hl : n ≤ SZ)
    (e : evL cf l env h = .ok [.int (n : Int)] h)
    (step : ∀ k, k < n → ∃ env1, bind t (.int (k : Int)) (wipeE env own) h = some env1 ∧ ev cf elt env1 h = .ok (g k) h) :
    ev cf (.lc own elt t .rng l .nil) env h = .ok (.lst ((List.range n).map g)) h := by
  have := lc_rng (cf := cf) (own := own) (elt := elt) (t := t) (l := l) (c := .nil) (env := env) (h := h) n (fun _ => true) g hl e (fun k hk => by
    obtain ⟨env1, e1, e2⟩ := step k hk
    exact ⟨env1, e1, rfl, fun _ => e2⟩)
  rwa [filter_tt] at this
theorem lc_seq' {α : Type} {own : List Nat} {elt : E} {t : Tg} {l : E} {env : Env} {h : MH} (ys : List α) (f : α → D) (g : α → D) (hl : ys.length ≤ SZ)
    (e : evL cf l env h = .ok [.tup (ys.map f)] h ∨ evL cf l env h = .ok [.lst (ys.map f)] h)
    (step : ∀ y ∈ ys, ∃ env1, bind t (f y) (wipeE env own) h = some env1 ∧ ev cf elt env1 h = .ok (g y) h) :
    ev cf (.lc own elt t .seq l .nil) env h = .ok (.lst (ys.map g)) h := by
  have := lc_seq (cf := cf) (own := own) (elt := elt) (t := t) (l := l) (c := .nil) (env := env) (h := h) ys f (fun _ => true) g hl e (fun k hk => by
    obtain ⟨env1, e1, e2⟩ := step k hk
    exact ⟨env1, e1, rfl, fun _ => e2⟩)
  rwa [filter_tt] at this
/-- a for over a range that runs through -/
theorem for_rng {t : Tg} {l : E} {b : S} {env : Env} {h : MH} (n : Nat) (P : Nat → Env → MH → Prop) (hl : n ≤ SZ) (e : evL cf l env h = .ok [.int (n : Int)] h)
    (step : ∀ k env h, k < n → P k env h → ∃ env1 env2 h2, bind t (.int (k : Int)) env h = some env1 ∧ exS cf b env1 h = .ok (.nx env2) h2 ∧ P (k + 1) env2 h2) (i : P 0 env h) :
    ∃ env' h', exS cf (.for_ t .rng l b) env h = .ok (.nx env') h' ∧ P n env' h' := by
  obtain ⟨env', h', e1, p⟩ := forN_inv (s := .rng 0 n) (t := t) (body := exS cf b) (n := n) P (fun k env h hk p => by
    obtain ⟨env1, env2, h2, e1, e2, e3⟩ := step k env h hk p
    exact ⟨.int k, env1, env2, h2, by simp [Src.at, hk], e1, e2, e3⟩) (fun _ _ _ => rfl) n 0 env h (by omega) i
  exact ⟨env', h', for_of e (rng_ok hl) e1, p⟩
theorem for_seq {α : Type} {t : Tg} {l : E} {b : S} {env : Env} {h : MH} (ys : List α) (f : α → D) (P : List α → Env → MH → Prop)
    (e : evL cf l env h = .ok [.tup (ys.map f)] h ∨ evL cf l env h = .ok [.lst (ys.map f)] h)
    (step : ∀ pre y post env h, ys = pre ++ y :: post → P pre env h → ∃ env1 env2 h2, bind t (f y) env h = some env1 ∧ exS cf b env1 h = .ok (.nx env2) h2 ∧ P (pre ++ [y]) env2 h2) (i : P [] env h) :
    ∃ env' h', exS cf (.for_ t .seq l b) env h = .ok (.nx env') h' ∧ P ys env' h' := by
  obtain ⟨env', h', e1, p⟩ := for_gen (s := .seq (ys.map f)) (t := t) (body := exS cf b) (ys := ys) (f := f) P (fun h k hk => by simp [Src.at, hk]) (fun _ => rfl) step i
  have cn : (Src.seq (ys.map f)).count = ys.length := by simp [Src.count]
  rw [← cn] at e1
  rcases e with e | e
  · exact ⟨env', h', for_of e rfl e1, p⟩
  · exact ⟨env', h', for_of e rfl e1, p⟩
theorem for_enm {α : Type} {t : Tg} {l : E} {b : S} {env : Env} {h : MH} (ys : List α) (f : α → D) (P : List α → Env → MH → Prop)
    (e : evL cf l env h = .ok [.tup (ys.map f)] h ∨ evL cf l env h = .ok [.lst (ys.map f)] h)
    (step : ∀ pre y post env h, ys = pre ++ y :: post → P pre env h → ∃ env1 env2 h2, bind t (.tup [.int (pre.length : Int), f y]) env h = some env1 ∧ exS cf b env1 h = .ok (.nx env2) h2 ∧ P (pre ++ [y]) env2 h2) (i : P [] env h) :
    ∃ env' h', exS cf (.for_ t .enum l b) env h = .ok (.nx env') h' ∧ P ys env' h' := by
  obtain ⟨env', h', e1, p⟩ := forN_inv (s := .enm (ys.map f)) (t := t) (body := exS cf b) (n := ys.length) (fun k env h => P (ys.take k) env h) (fun k env h hk p => by
    have e : ys = ys.take k ++ ys[k] :: ys.drop (k + 1) := by simp
    obtain ⟨env1, env2, h2, e1, e2, e3⟩ := step _ _ _ env h e p
    have hlen : (ys.take k).length = k := by simp; omega
    rw [hlen] at e1
    refine ⟨.tup [.int (k : Int), f ys[k]], env1, env2, h2, by simp [Src.at, hk], e1, e2, ?_⟩
    rw [List.take_succ_eq_append_getElem hk]
    exact e3) (fun env h _ => rfl) ys.length 0 env h (by omega) (by simpa using i)
  have cn : (Src.enm (ys.map f)).count = ys.length := by simp [Src.count]
  rw [← cn] at e1
  have p : P ys env' h' := by simpa using p
  rcases e with e | e
  · exact ⟨env', h', for_of e rfl e1, p⟩
  · exact ⟨env', h', for_of e rfl e1, p⟩
/-! ### bits -/
def pw (k : Nat) : Int := ((2 ^ k : Nat) : Int)
theorem pw_pos {k : Nat} : 0 < pw k := by
  have := Nat.two_pow_pos k
  unfold pw
  omega
theorem pw_le {k m : Nat} (h : k ≤ m) : (pw k).natAbs ≤ 2 ^ m := by
  unfold pw
  rw [Int.natAbs_natCast]
  exact Nat.pow_le_pow_right (by decide) h
theorem pw_succ {k : Nat} : pw (k + 1) = 2 * pw k := by
  unfold pw
  rw [Nat.pow_succ]
  omega
abbrev BitAt (cf : Nat → List D → M D) (c : Nat) : Prop := ∀ (k : Nat) h, k ≤ 100 → cf c [.int k] h = .ok (.int (pw k)) h
theorem le_SZ {n : Nat} (h : n ≤ 100000) : n ≤ SZ := by
  unfold SZ
  omega
theorem bit_of_ok {k : Nat} {h : MH} (hk : k ≤ 100) : runFn cf p_bit_of [.int k] h = .ok (.int (pw k)) h := by
  obtain ⟨env', h', e, rfl, o, rfl⟩ := for_rng (cf := cf) (t := .nm 2) (l := .cons (.var 0) .nil) (b := .seq (.asg (.nm 1) (.bin .mul (.lit (.int 2)) (.var 1))) .nil) (env := [oI k, oI 1, none]) (h := h) k (fun j env h' => h' = h ∧ ∃ o, env = [oI k, oI (pw j), o]) (le_SZ (by omega)) (by simp -implicitDefEqProofs [-Int.natCast_ediv, -Int.natCast_pow, -Int.natCast_emod, b_ok, on_ok, tru_bl, tru_int, tru_non, look_0, look_s, v_var, v_lit, v_glb, v_pow, v_neg, v_not, v_bin, v_cmp, v_chn, v_and, v_or, v_ife, v_tup, v_lst, v_cel, v_idx, v_slc, v_call, v_ck, v_blt, v_ex, v_mth, v_isi, v_isN, v_isnN, l_nil, l_cons, o_nil, o_cons, s_asg, s_par, s_exp, s_rtn, s_ite, s_nil, s_pas, s_seq, thn_nx, thn_rt, end_rt, end_nx, bind_nm, bind_tp, binds_nil, binds_cons, cond_nil, Lit.d, ret_ap, neg_int, bin_add, bin_sub, cmp_le, cmp_lt, cmp_gt, cmp_ge, cmp_eq, cmp_ne, idx_fr0, idx_fr1, blt_int, fin_bl, fin_int, fin_non, fin_fr]) (fun j env h' hj i => by
    obtain ⟨rfl, o, rfl⟩ := i
    have m1 : ∀ h, binD .mul (.int 2) (.int (pw j)) h = .ok (.int (pw (j + 1))) h := fun h => by
      rw [bin_mul (by decide) (pw_le (by omega)), pw_succ]
    refine ⟨_, [oI k, oI (pw (j + 1)), oI j], _, rfl, ?_, rfl, _, rfl⟩
    simp -implicitDefEqProofs [-Int.natCast_ediv, -Int.natCast_pow, -Int.natCast_emod, b_ok, on_ok, tru_bl, tru_int, tru_non, look_0, look_s, v_var, v_lit, v_glb, v_pow, v_neg, v_not, v_bin, v_cmp, v_chn, v_and, v_or, v_ife, v_tup, v_lst, v_cel, v_idx, v_slc, v_call, v_ck, v_blt, v_ex, v_mth, v_isi, v_isN, v_isnN, l_nil, l_cons, o_nil, o_cons, s_asg, s_par, s_exp, s_rtn, s_ite, s_nil, s_pas, s_seq, thn_nx, thn_rt, end_rt, end_nx, bind_nm, bind_tp, binds_nil, binds_cons, cond_nil, Lit.d, ret_ap, neg_int, bin_add, bin_sub, cmp_le, cmp_lt, cmp_gt, cmp_ge, cmp_eq, cmp_ne, idx_fr0, idx_fr1, blt_int, fin_bl, fin_int, fin_non, fin_fr, m1]) ⟨rfl, none, rfl⟩
  rw [run_eq ⟨rfl, by simp [p_bit_of]⟩]
  simp -implicitDefEqProofs [p_bit_of, -Int.natCast_ediv, -Int.natCast_pow, -Int.natCast_emod, b_ok, on_ok, tru_bl, tru_int, tru_non, look_0, look_s, v_var, v_lit, v_glb, v_pow, v_neg, v_not, v_bin, v_cmp, v_chn, v_and, v_or, v_ife, v_tup, v_lst, v_cel, v_idx, v_slc, v_call, v_ck, v_blt, v_ex, v_mth, v_isi, v_isN, v_isnN, l_nil, l_cons, o_nil, o_cons, s_asg, s_par, s_exp, s_rtn, s_ite, s_nil, s_pas, s_seq, thn_nx, thn_rt, end_rt, end_nx, bind_nm, bind_tp, binds_nil, binds_cons, cond_nil, Lit.d, ret_ap, neg_int, bin_add, bin_sub, cmp_le, cmp_lt, cmp_gt, cmp_ge, cmp_eq, cmp_ne, idx_fr0, idx_fr1, blt_int, fin_bl, fin_int, fin_non, fin_fr, e]
abbrev LotOfAt (cf : Nat → List D → M D) (c : Nat) : Prop := ∀ (x n : Nat) h, n ≤ 100 → cf c [.int x, .int n] h = .ok (lotD n x) h
theorem fdv_pw {x k : Nat} {h : MH} (hk : k ≤ 100) : binD .fdv (.int x) (.int (pw k)) h = .ok (.int ((x / 2 ^ k : Nat) : Int)) h := by
  have h2 : pw k ≤ 2 ^ 200 := by
    have := pw_le (k := k) (m := 200) (by omega)
    have := pw_pos (k := k)
    omega
  rw [bin_fdv pw_pos h2]
  rfl
theorem mod2 {x : Nat} {h : MH} : binD .mod (.int (x : Int)) (.int 2) h = .ok (.int ((x % 2 : Nat) : Int)) h := by
  rw [bin_mod (by decide)]
  rfl
theorem dec1 {x : Nat} : decide ((x : Int) = 1) = (x == 1) := by
  rw [Bool.eq_iff_iff]
  simp
  omega
theorem lot_at_ok {c : Nat} (B : BitAt cf c) {x n : Nat} {h : MH} (hn : n ≤ 100) : runFn cf (p_lot_at c) [.int x, .int n] h = .ok (lotD n x) h := by
  have a := lc_rng (cf := cf) (own := [2]) (elt := .var 2) (t := .nm 2) (l := .cons (.var 1) .nil) (c := .cmp .eq (.bin .mod (.bin .fdv (.var 0) (.call c (.cons (.var 2) .nil))) (.lit (.int 2))) (.lit (.int 1))) (env := [oI x, oI n, none]) (h := h) n (fun k => x / 2 ^ k % 2 == 1) (fun k => .int (k : Int)) (le_SZ (by omega)) (by simp -implicitDefEqProofs [-Int.natCast_ediv, -Int.natCast_pow, -Int.natCast_emod, b_ok, on_ok, tru_bl, tru_int, tru_non, look_0, look_s, v_var, v_lit, v_glb, v_pow, v_neg, v_not, v_bin, v_cmp, v_chn, v_and, v_or, v_ife, v_tup, v_lst, v_cel, v_idx, v_slc, v_call, v_ck, v_blt, v_ex, v_mth, v_isi, v_isN, v_isnN, l_nil, l_cons, o_nil, o_cons, s_asg, s_par, s_exp, s_rtn, s_ite, s_nil, s_pas, s_seq, thn_nx, thn_rt, end_rt, end_nx, bind_nm, bind_tp, binds_nil, binds_cons, cond_nil, Lit.d, ret_ap, neg_int, bin_add, bin_sub, cmp_le, cmp_lt, cmp_gt, cmp_ge, cmp_eq, cmp_ne, idx_fr0, idx_fr1, blt_int, fin_bl, fin_int, fin_non, fin_fr]) (fun k hk => by
    have b := fun h => B k h (by omega)
    have f := fun h => fdv_pw (x := x) (k := k) (h := h) (by omega)
    refine ⟨_, rfl, ?_, fun _ => ?_⟩
    · rw [cond_of (by simp)]
      simp -implicitDefEqProofs [-Int.natCast_ediv, -Int.natCast_pow, -Int.natCast_emod, b_ok, on_ok, tru_bl, tru_int, tru_non, look_0, look_s, v_var, v_lit, v_glb, v_pow, v_neg, v_not, v_bin, v_cmp, v_chn, v_and, v_or, v_ife, v_tup, v_lst, v_cel, v_idx, v_slc, v_call, v_ck, v_blt, v_ex, v_mth, v_isi, v_isN, v_isnN, l_nil, l_cons, o_nil, o_cons, s_asg, s_par, s_exp, s_rtn, s_ite, s_nil, s_pas, s_seq, thn_nx, thn_rt, end_rt, end_nx, bind_nm, bind_tp, binds_nil, binds_cons, cond_nil, Lit.d, ret_ap, neg_int, bin_add, bin_sub, cmp_le, cmp_lt, cmp_gt, cmp_ge, cmp_eq, cmp_ne, idx_fr0, idx_fr1, blt_int, fin_bl, fin_int, fin_non, fin_fr, wipeE, b, f, mod2, dec1]
    · simp -implicitDefEqProofs [-Int.natCast_ediv, -Int.natCast_pow, -Int.natCast_emod, b_ok, on_ok, tru_bl, tru_int, tru_non, look_0, look_s, v_var, v_lit, v_glb, v_pow, v_neg, v_not, v_bin, v_cmp, v_chn, v_and, v_or, v_ife, v_tup, v_lst, v_cel, v_idx, v_slc, v_call, v_ck, v_blt, v_ex, v_mth, v_isi, v_isN, v_isnN, l_nil, l_cons, o_nil, o_cons, s_asg, s_par, s_exp, s_rtn, s_ite, s_nil, s_pas, s_seq, thn_nx, thn_rt, end_rt, end_nx, bind_nm, bind_tp, binds_nil, binds_cons, cond_nil, Lit.d, ret_ap, neg_int, bin_add, bin_sub, cmp_le, cmp_lt, cmp_gt, cmp_ge, cmp_eq, cmp_ne, idx_fr0, idx_fr1, blt_int, fin_bl, fin_int, fin_non, fin_fr, wipeE])
  rw [run_eq ⟨rfl, by simp [p_lot_at]⟩]
  simp -implicitDefEqProofs [p_lot_at, -Int.natCast_ediv, -Int.natCast_pow, -Int.natCast_emod, b_ok, on_ok, tru_bl, tru_int, tru_non, look_0, look_s, v_var, v_lit, v_glb, v_pow, v_neg, v_not, v_bin, v_cmp, v_chn, v_and, v_or, v_ife, v_tup, v_lst, v_cel, v_idx, v_slc, v_call, v_ck, v_blt, v_ex, v_mth, v_isi, v_isN, v_isnN, l_nil, l_cons, o_nil, o_cons, s_asg, s_par, s_exp, s_rtn, s_ite, s_nil, s_pas, s_seq, thn_nx, thn_rt, end_rt, end_nx, bind_nm, bind_tp, binds_nil, binds_cons, cond_nil, Lit.d, ret_ap, neg_int, bin_add, bin_sub, cmp_le, cmp_lt, cmp_gt, cmp_ge, cmp_eq, cmp_ne, idx_fr0, idx_fr1, blt_int, fin_bl, fin_int, fin_non, fin_fr, a, tuple_lst]
  exact fin_tI
abbrev LotsAt (cf : Nat → List D → M D) (c : Nat) : Prop := ∀ (n : Nat) h, n ≤ 10 → cf c [.int n] h = .ok (.lst ((List.range (2 ^ n)).map (lotD n))) h
theorem pw_lt {n : Nat} (h : n ≤ 10) : 2 ^ n ≤ 100000 := Nat.le_trans (Nat.pow_le_pow_right (by decide) h) (by decide)
theorem all_lots_ok {c d : Nat} (L : LotOfAt cf c) (B : BitAt cf d) {n : Nat} {h : MH} (hn : n ≤ 10) : runFn cf (p_all_lots c d) [.int n] h = .ok (.lst ((List.range (2 ^ n)).map (lotD n))) h := by
  have b := fun h => B n h (by omega)
  have a := lc_rng' (cf := cf) (own := [1]) (elt := .call c (.cons (.var 1) (.cons (.var 0) .nil))) (t := .nm 1) (l := .cons (.call d (.cons (.var 0) .nil)) .nil) (env := [oI n, none]) (h := h) (2 ^ n) (lotD n) (le_SZ (pw_lt hn)) (by simp -implicitDefEqProofs [-Int.natCast_ediv, -Int.natCast_pow, -Int.natCast_emod, b_ok, on_ok, tru_bl, tru_int, tru_non, look_0, look_s, v_var, v_lit, v_glb, v_pow, v_neg, v_not, v_bin, v_cmp, v_chn, v_and, v_or, v_ife, v_tup, v_lst, v_cel, v_idx, v_slc, v_call, v_ck, v_blt, v_ex, v_mth, v_isi, v_isN, v_isnN, l_nil, l_cons, o_nil, o_cons, s_asg, s_par, s_exp, s_rtn, s_ite, s_nil, s_pas, s_seq, thn_nx, thn_rt, end_rt, end_nx, bind_nm, bind_tp, binds_nil, binds_cons, cond_nil, Lit.d, ret_ap, neg_int, bin_add, bin_sub, cmp_le, cmp_lt, cmp_gt, cmp_ge, cmp_eq, cmp_ne, idx_fr0, idx_fr1, blt_int, fin_bl, fin_int, fin_non, fin_fr, b, pw]) (fun k hk => by
    have l := fun h => L k n h (by omega)
    exact ⟨_, rfl, by simp -implicitDefEqProofs [-Int.natCast_ediv, -Int.natCast_pow, -Int.natCast_emod, b_ok, on_ok, tru_bl, tru_int, tru_non, look_0, look_s, v_var, v_lit, v_glb, v_pow, v_neg, v_not, v_bin, v_cmp, v_chn, v_and, v_or, v_ife, v_tup, v_lst, v_cel, v_idx, v_slc, v_call, v_ck, v_blt, v_ex, v_mth, v_isi, v_isN, v_isnN, l_nil, l_cons, o_nil, o_cons, s_asg, s_par, s_exp, s_rtn, s_ite, s_nil, s_pas, s_seq, thn_nx, thn_rt, end_rt, end_nx, bind_nm, bind_tp, binds_nil, binds_cons, cond_nil, Lit.d, ret_ap, neg_int, bin_add, bin_sub, cmp_le, cmp_lt, cmp_gt, cmp_ge, cmp_eq, cmp_ne, idx_fr0, idx_fr1, blt_int, fin_bl, fin_int, fin_non, fin_fr, wipeE, l]⟩)
  rw [run_eq ⟨rfl, by simp [p_all_lots]⟩]
  simp -implicitDefEqProofs [p_all_lots, -Int.natCast_ediv, -Int.natCast_pow, -Int.natCast_emod, b_ok, on_ok, tru_bl, tru_int, tru_non, look_0, look_s, v_var, v_lit, v_glb, v_pow, v_neg, v_not, v_bin, v_cmp, v_chn, v_and, v_or, v_ife, v_tup, v_lst, v_cel, v_idx, v_slc, v_call, v_ck, v_blt, v_ex, v_mth, v_isi, v_isN, v_isnN, l_nil, l_cons, o_nil, o_cons, s_asg, s_par, s_exp, s_rtn, s_ite, s_nil, s_pas, s_seq, thn_nx, thn_rt, end_rt, end_nx, bind_nm, bind_tp, binds_nil, binds_cons, cond_nil, Lit.d, ret_ap, neg_int, bin_add, bin_sub, cmp_le, cmp_lt, cmp_gt, cmp_ge, cmp_eq, cmp_ne, idx_fr0, idx_fr1, blt_int, fin_bl, fin_int, fin_non, fin_fr, a]
  exact fin_lst (plains_map fun _ _ => plain_tI)
abbrev LessersAt (cf : Nat → List D → M D) (c : Nat) : Prop := ∀ (x n : Nat) h, n < 6 → x < 2 ^ n → cf c [.int x, .int n] h = .ok (.lst ((lotL n x).map fun k => .int ((x - 2 ^ k : Nat) : Int))) h
theorem lesser_lots_ok {c d : Nat} (B : BitAt cf c) (L : LotOfAt cf d) {x n : Nat} {h : MH} (hn : n < 6) (hx : x < 2 ^ n) : runFn cf (p_lesser_lots c d) [.int x, .int n] h = .ok (.lst ((lotL n x).map fun k => .int ((x - 2 ^ k : Nat) : Int))) h := by
  have l := fun h => L x n h (by omega)
  have a := lc_seq' (cf := cf) (own := [2]) (elt := .bin .sub (.var 0) (.call c (.cons (.var 2) .nil))) (t := .nm 2) (l := .cons (.call d (.cons (.var 0) (.cons (.var 1) .nil))) .nil) (env := [oI x, oI n, none]) (h := h) (lotL n x) (fun k => .int (k : Int)) (fun k => .int ((x - 2 ^ k : Nat) : Int)) (le_SZ (Nat.le_trans lot_len (by omega))) (.inl (by simp -implicitDefEqProofs [-Int.natCast_ediv, -Int.natCast_pow, -Int.natCast_emod, b_ok, on_ok, tru_bl, tru_int, tru_non, look_0, look_s, v_var, v_lit, v_glb, v_pow, v_neg, v_not, v_bin, v_cmp, v_chn, v_and, v_or, v_ife, v_tup, v_lst, v_cel, v_idx, v_slc, v_call, v_ck, v_blt, v_ex, v_mth, v_isi, v_isN, v_isnN, l_nil, l_cons, o_nil, o_cons, s_asg, s_par, s_exp, s_rtn, s_ite, s_nil, s_pas, s_seq, thn_nx, thn_rt, end_rt, end_nx, bind_nm, bind_tp, binds_nil, binds_cons, cond_nil, Lit.d, ret_ap, neg_int, bin_add, bin_sub, cmp_le, cmp_lt, cmp_gt, cmp_ge, cmp_eq, cmp_ne, idx_fr0, idx_fr1, blt_int, fin_bl, fin_int, fin_non, fin_fr, l, tI])) (fun k hk => by
    obtain ⟨h1, h2⟩ := mem_lotL.mp hk
    have b := fun h => B k h (by omega)
    have h3 := bit_le n hn k h1 x hx h2
    refine ⟨_, rfl, ?_⟩
    simp -implicitDefEqProofs [-Int.natCast_ediv, -Int.natCast_pow, -Int.natCast_emod, b_ok, on_ok, tru_bl, tru_int, tru_non, look_0, look_s, v_var, v_lit, v_glb, v_pow, v_neg, v_not, v_bin, v_cmp, v_chn, v_and, v_or, v_ife, v_tup, v_lst, v_cel, v_idx, v_slc, v_call, v_ck, v_blt, v_ex, v_mth, v_isi, v_isN, v_isnN, l_nil, l_cons, o_nil, o_cons, s_asg, s_par, s_exp, s_rtn, s_ite, s_nil, s_pas, s_seq, thn_nx, thn_rt, end_rt, end_nx, bind_nm, bind_tp, binds_nil, binds_cons, cond_nil, Lit.d, ret_ap, neg_int, bin_add, bin_sub, cmp_le, cmp_lt, cmp_gt, cmp_ge, cmp_eq, cmp_ne, idx_fr0, idx_fr1, blt_int, fin_bl, fin_int, fin_non, fin_fr, wipeE, b]
    unfold pw
    omega)
  rw [run_eq ⟨rfl, by simp [p_lesser_lots]⟩]
  simp -implicitDefEqProofs [p_lesser_lots, -Int.natCast_ediv, -Int.natCast_pow, -Int.natCast_emod, b_ok, on_ok, tru_bl, tru_int, tru_non, look_0, look_s, v_var, v_lit, v_glb, v_pow, v_neg, v_not, v_bin, v_cmp, v_chn, v_and, v_or, v_ife, v_tup, v_lst, v_cel, v_idx, v_slc, v_call, v_ck, v_blt, v_ex, v_mth, v_isi, v_isN, v_isnN, l_nil, l_cons, o_nil, o_cons, s_asg, s_par, s_exp, s_rtn, s_ite, s_nil, s_pas, s_seq, thn_nx, thn_rt, end_rt, end_nx, bind_nm, bind_tp, binds_nil, binds_cons, cond_nil, Lit.d, ret_ap, neg_int, bin_add, bin_sub, cmp_le, cmp_lt, cmp_gt, cmp_ge, cmp_eq, cmp_ne, idx_fr0, idx_fr1, blt_int, fin_bl, fin_int, fin_non, fin_fr, a]
  exact fin_lst (plains_map fun _ _ => rfl)
/-! ### lots within lots -/
abbrev InsideAt (cf : Nat → List D → M D) (c : Nat) : Prop := ∀ (n x y : Nat) h, n ≤ 100 → cf c [lotD n x, lotD n y] h = .ok (.bl (subB n x y)) h
abbrev TouchAt (cf : Nat → List D → M D) (c : Nat) : Prop := ∀ (n x y : Nat) h, n ≤ 100 → cf c [lotD n x, lotD n y] h = .ok (.bl (touB n x y)) h
theorem inside_lc {n x y : Nat} {h : MH} (hn : n ≤ 100) : ev cf (.lc [2] (.cmp .isin (.var 2) (.var 1)) (.nm 2) .seq (.cons (.var 0) .nil) .nil) [some (lotD n x), some (lotD n y), none] h = .ok (.lst ((lotL n x).map fun k => .bl (decide (k ∈ lotL n y)))) h := by
  refine lc_seq' (lotL n x) (fun k => .int (k : Int)) _ (le_SZ (Nat.le_trans lot_len (by omega))) (.inl (by simp -implicitDefEqProofs [-Int.natCast_ediv, -Int.natCast_pow, -Int.natCast_emod, b_ok, on_ok, tru_bl, tru_int, tru_non, look_0, look_s, v_var, v_lit, v_glb, v_pow, v_neg, v_not, v_bin, v_cmp, v_chn, v_and, v_or, v_ife, v_tup, v_lst, v_cel, v_idx, v_slc, v_call, v_ck, v_blt, v_ex, v_mth, v_isi, v_isN, v_isnN, l_nil, l_cons, o_nil, o_cons, s_asg, s_par, s_exp, s_rtn, s_ite, s_nil, s_pas, s_seq, thn_nx, thn_rt, end_rt, end_nx, bind_nm, bind_tp, binds_nil, binds_cons, cond_nil, Lit.d, ret_ap, neg_int, bin_add, bin_sub, cmp_le, cmp_lt, cmp_gt, cmp_ge, cmp_eq, cmp_ne, idx_fr0, idx_fr1, blt_int, fin_bl, fin_int, fin_non, fin_fr, tI])) (fun k hk => ⟨_, rfl, ?_⟩)
  simp -implicitDefEqProofs [-Int.natCast_ediv, -Int.natCast_pow, -Int.natCast_emod, b_ok, on_ok, tru_bl, tru_int, tru_non, look_0, look_s, v_var, v_lit, v_glb, v_pow, v_neg, v_not, v_bin, v_cmp, v_chn, v_and, v_or, v_ife, v_tup, v_lst, v_cel, v_idx, v_slc, v_call, v_ck, v_blt, v_ex, v_mth, v_isi, v_isN, v_isnN, l_nil, l_cons, o_nil, o_cons, s_asg, s_par, s_exp, s_rtn, s_ite, s_nil, s_pas, s_seq, thn_nx, thn_rt, end_rt, end_nx, bind_nm, bind_tp, binds_nil, binds_cons, cond_nil, Lit.d, ret_ap, neg_int, bin_add, bin_sub, cmp_le, cmp_lt, cmp_gt, cmp_ge, cmp_eq, cmp_ne, idx_fr0, idx_fr1, blt_int, fin_bl, fin_int, fin_non, fin_fr, wipeE, isin_tI]
theorem is_inside_ok {n x y : Nat} {h : MH} (hn : n ≤ 100) : runFn cf p_is_inside [lotD n x, lotD n y] h = .ok (.bl (subB n x y)) h := by
  have a := inside_lc (cf := cf) (x := x) (y := y) (h := h) hn
  rw [run_eq ⟨rfl, by simp [p_is_inside]⟩]
  simp -implicitDefEqProofs [p_is_inside, -Int.natCast_ediv, -Int.natCast_pow, -Int.natCast_emod, b_ok, on_ok, tru_bl, tru_int, tru_non, look_0, look_s, v_var, v_lit, v_glb, v_pow, v_neg, v_not, v_bin, v_cmp, v_chn, v_and, v_or, v_ife, v_tup, v_lst, v_cel, v_idx, v_slc, v_call, v_ck, v_blt, v_ex, v_mth, v_isi, v_isN, v_isnN, l_nil, l_cons, o_nil, o_cons, s_asg, s_par, s_exp, s_rtn, s_ite, s_nil, s_pas, s_seq, thn_nx, thn_rt, end_rt, end_nx, bind_nm, bind_tp, binds_nil, binds_cons, cond_nil, Lit.d, ret_ap, neg_int, bin_add, bin_sub, cmp_le, cmp_lt, cmp_gt, cmp_ge, cmp_eq, cmp_ne, idx_fr0, idx_fr1, blt_int, fin_bl, fin_int, fin_non, fin_fr, a, all_lst, subB]
theorem do_touch_ok {n x y : Nat} {h : MH} (hn : n ≤ 100) : runFn cf p_do_touch [lotD n x, lotD n y] h = .ok (.bl (touB n x y)) h := by
  have a := inside_lc (cf := cf) (x := x) (y := y) (h := h) hn
  rw [run_eq ⟨rfl, by simp [p_do_touch]⟩]
  simp -implicitDefEqProofs [p_do_touch, -Int.natCast_ediv, -Int.natCast_pow, -Int.natCast_emod, b_ok, on_ok, tru_bl, tru_int, tru_non, look_0, look_s, v_var, v_lit, v_glb, v_pow, v_neg, v_not, v_bin, v_cmp, v_chn, v_and, v_or, v_ife, v_tup, v_lst, v_cel, v_idx, v_slc, v_call, v_ck, v_blt, v_ex, v_mth, v_isi, v_isN, v_isnN, l_nil, l_cons, o_nil, o_cons, s_asg, s_par, s_exp, s_rtn, s_ite, s_nil, s_pas, s_seq, thn_nx, thn_rt, end_rt, end_nx, bind_nm, bind_tp, binds_nil, binds_cons, cond_nil, Lit.d, ret_ap, neg_int, bin_add, bin_sub, cmp_le, cmp_lt, cmp_gt, cmp_ge, cmp_eq, cmp_ne, idx_fr0, idx_fr1, blt_int, fin_bl, fin_int, fin_non, fin_fr, a, any_lst, touB]
abbrev ChkLotAt (cf : Nat → List D → M D) (c : Nat) : Prop := ∀ (n x : Nat) h, n ≤ 1000 → cf c [lotD n x, .int n] h = .ok .non h
theorem check_lot_ok {c : Nat} (L : LotAt cf c) {n x : Nat} {h : MH} (hn : n ≤ 1000) : runFn cf (p_check_lot c) [lotD n x, .int n] h = .ok .non h := by
  have l := fun h => L n x h hn
  rw [run_eq ⟨rfl, by simp [p_check_lot]⟩]
  simp -implicitDefEqProofs [p_check_lot, -Int.natCast_ediv, -Int.natCast_pow, -Int.natCast_emod, b_ok, on_ok, tru_bl, tru_int, tru_non, look_0, look_s, v_var, v_lit, v_glb, v_pow, v_neg, v_not, v_bin, v_cmp, v_chn, v_and, v_or, v_ife, v_tup, v_lst, v_cel, v_idx, v_slc, v_call, v_ck, v_blt, v_ex, v_mth, v_isi, v_isN, v_isnN, l_nil, l_cons, o_nil, o_cons, s_asg, s_par, s_exp, s_rtn, s_ite, s_nil, s_pas, s_seq, thn_nx, thn_rt, end_rt, end_nx, bind_nm, bind_tp, binds_nil, binds_cons, cond_nil, Lit.d, ret_ap, neg_int, bin_add, bin_sub, cmp_le, cmp_lt, cmp_gt, cmp_ge, cmp_eq, cmp_ne, idx_fr0, idx_fr1, blt_int, fin_bl, fin_int, fin_non, fin_fr, l]
abbrev ChkOutAt (cf : Nat → List D → M D) (c : Nat) : Prop := ∀ (n : Nat) h, 2 ≤ n → n ≤ 5 → cf c [.int n] h = .ok .non h
theorem check_outcomes_ok {c : Nat} (B : BetweenAt cf c) {n : Nat} {h : MH} (h2 : 2 ≤ n) (h5 : n ≤ 5) : runFn cf (p_check_outcomes c) [.int n] h = .ok .non h := by
  have b : ∀ h, cf c [.int n, .int 2, .int 5] h = .ok (.bl true) h := fun h => by
    rw [B]
    simp
    omega
  rw [run_eq ⟨rfl, by simp [p_check_outcomes]⟩]
  simp -implicitDefEqProofs [p_check_outcomes, -Int.natCast_ediv, -Int.natCast_pow, -Int.natCast_emod, b_ok, on_ok, tru_bl, tru_int, tru_non, look_0, look_s, v_var, v_lit, v_glb, v_pow, v_neg, v_not, v_bin, v_cmp, v_chn, v_and, v_or, v_ife, v_tup, v_lst, v_cel, v_idx, v_slc, v_call, v_ck, v_blt, v_ex, v_mth, v_isi, v_isN, v_isnN, l_nil, l_cons, o_nil, o_cons, s_asg, s_par, s_exp, s_rtn, s_ite, s_nil, s_pas, s_seq, thn_nx, thn_rt, end_rt, end_nx, bind_nm, bind_tp, binds_nil, binds_cons, cond_nil, Lit.d, ret_ap, neg_int, bin_add, bin_sub, cmp_le, cmp_lt, cmp_gt, cmp_ge, cmp_eq, cmp_ne, idx_fr0, idx_fr1, blt_int, fin_bl, fin_int, fin_non, fin_fr, b]
/-! ### sums -/
theorem sz_zero {n : Nat} : Sz n 0 := ⟨by simp, Nat.one_le_two_pow⟩
theorem sz_one {n : Nat} : Sz n 1 := ⟨Nat.one_le_two_pow, Nat.one_le_two_pow⟩
theorem sz_sum {m : Nat} {ps : List Rat} {a : Rat} (hp : ∀ p ∈ ps, Sz m p) : ∀ {k : Nat}, Sz k a → Sz (k + ps.length * (m + 1)) (ps.foldl (· + ·) a) := by
  induction ps generalizing a with
  | nil => intro k h; simpa using h
  | cons p r ih =>
    intro k h
    have := ih (fun p hp' => hp p (by simp [hp'])) (h.add (hp p (by simp)))
    simp only [List.foldl_cons, List.length_cons]
    refine this.mono ?_
    rw [Nat.add_mul]
    omega
abbrev AddedAt (cf : Nat → List D → M D) (c : Nat) : Prop := ∀ (ps : List Rat) h, (∀ p ∈ ps, Sz 40 p) → ps.length ≤ 40 → cf c [.lst (ps.map fr)] h = .ok (fr (ps.foldl (· + ·) 0)) h
theorem added_ok {c : Nat} (P : PlusAt cf c) {ps : List Rat} {h : MH} (hp : ∀ p ∈ ps, Sz 40 p) (hl : ps.length ≤ 40) : runFn cf (p_added c) [.lst (ps.map fr)] h = .ok (fr (ps.foldl (· + ·) 0)) h := by
  obtain ⟨env', h', e, rfl, o, rfl⟩ := for_seq (cf := cf) (t := .nm 2) (l := .cons (.var 0) .nil) (b := .seq (.asg (.nm 1) (.call c (.cons (.var 1) (.cons (.var 2) .nil)))) .nil) (env := [some (.lst (ps.map fr)), some (fr 0), none]) (h := h) ps fr (fun pre env h' => h' = h ∧ ∃ o, env = [some (.lst (ps.map fr)), some (fr (pre.foldl (· + ·) 0)), o]) (.inr (by simp -implicitDefEqProofs [-Int.natCast_ediv, -Int.natCast_pow, -Int.natCast_emod, b_ok, on_ok, tru_bl, tru_int, tru_non, look_0, look_s, v_var, v_lit, v_glb, v_pow, v_neg, v_not, v_bin, v_cmp, v_chn, v_and, v_or, v_ife, v_tup, v_lst, v_cel, v_idx, v_slc, v_call, v_ck, v_blt, v_ex, v_mth, v_isi, v_isN, v_isnN, l_nil, l_cons, o_nil, o_cons, s_asg, s_par, s_exp, s_rtn, s_ite, s_nil, s_pas, s_seq, thn_nx, thn_rt, end_rt, end_nx, bind_nm, bind_tp, binds_nil, binds_cons, cond_nil, Lit.d, ret_ap, neg_int, bin_add, bin_sub, cmp_le, cmp_lt, cmp_gt, cmp_ge, cmp_eq, cmp_ne, idx_fr0, idx_fr1, blt_int, fin_bl, fin_int, fin_non, fin_fr])) (fun pre y post env h' hy i => by
    obtain ⟨rfl, o, rfl⟩ := i
    have s1 : Sz 1900 (pre.foldl (· + ·) 0) := by
      refine (sz_sum (m := 40) (k := 0) (fun p h => hp p (by rw [hy]; simp [h])) sz_zero).mono ?_
      have : pre.length + 1 ≤ ps.length := by rw [hy]; simp
      omega
    have s2 : Sz 1900 y := (hp y (by rw [hy]; simp)).mono (by decide)
    have q := fun h => P _ _ h s1 s2
    refine ⟨_, [some (.lst (ps.map fr)), some (fr ((pre ++ [y]).foldl (· + ·) 0)), some (fr y)], _, rfl, ?_, rfl, _, rfl⟩
    simp -implicitDefEqProofs [-Int.natCast_ediv, -Int.natCast_pow, -Int.natCast_emod, b_ok, on_ok, tru_bl, tru_int, tru_non, look_0, look_s, v_var, v_lit, v_glb, v_pow, v_neg, v_not, v_bin, v_cmp, v_chn, v_and, v_or, v_ife, v_tup, v_lst, v_cel, v_idx, v_slc, v_call, v_ck, v_blt, v_ex, v_mth, v_isi, v_isN, v_isnN, l_nil, l_cons, o_nil, o_cons, s_asg, s_par, s_exp, s_rtn, s_ite, s_nil, s_pas, s_seq, thn_nx, thn_rt, end_rt, end_nx, bind_nm, bind_tp, binds_nil, binds_cons, cond_nil, Lit.d, ret_ap, neg_int, bin_add, bin_sub, cmp_le, cmp_lt, cmp_gt, cmp_ge, cmp_eq, cmp_ne, idx_fr0, idx_fr1, blt_int, fin_bl, fin_int, fin_non, fin_fr, q]) ⟨rfl, none, rfl⟩
  rw [run_eq ⟨rfl, by simp [p_added]⟩]
  have z : D.tup [.int 0, .int 1] = fr 0 := rfl
  have one : 2 ≤ SZ := by decide
  simp -implicitDefEqProofs [p_added, -Int.natCast_ediv, -Int.natCast_pow, -Int.natCast_emod, b_ok, on_ok, tru_bl, tru_int, tru_non, look_0, look_s, v_var, v_lit, v_glb, v_pow, v_neg, v_not, v_bin, v_cmp, v_chn, v_and, v_or, v_ife, v_tup, v_lst, v_cel, v_idx, v_slc, v_call, v_ck, v_blt, v_ex, v_mth, v_isi, v_isN, v_isnN, l_nil, l_cons, o_nil, o_cons, s_asg, s_par, s_exp, s_rtn, s_ite, s_nil, s_pas, s_seq, thn_nx, thn_rt, end_rt, end_nx, bind_nm, bind_tp, binds_nil, binds_cons, cond_nil, Lit.d, ret_ap, neg_int, bin_add, bin_sub, cmp_le, cmp_lt, cmp_gt, cmp_ge, cmp_eq, cmp_ne, idx_fr0, idx_fr1, blt_int, fin_bl, fin_int, fin_non, fin_fr, z, one, e]
/-! ### the law's own lots -/
theorem l_lot_ok {x n : Nat} {h : MH} (hn : n ≤ 5) : runFn cf l_lot [.int x, .int n] h = .ok (lotD n x) h := by
  have a := lc_rng (cf := cf) (own := [2]) (elt := .var 2) (t := .nm 2) (l := .cons (.var 1) .nil) (c := .cmp .eq (.bin .mod (.blt .int (.cons (.bin .fdv (.var 0) (.idx (.lst (.cons (.lit (.int 1)) (.cons (.lit (.int 2)) (.cons (.lit (.int 4)) (.cons (.lit (.int 8)) (.cons (.lit (.int 16)) .nil)))))) (.var 2))) .nil)) (.lit (.int 2))) (.lit (.int 1))) (env := [oI x, oI n, none]) (h := h) n (fun k => x / 2 ^ k % 2 == 1) (fun k => .int (k : Int)) (le_SZ (by omega)) (by simp -implicitDefEqProofs [-Int.natCast_ediv, -Int.natCast_pow, -Int.natCast_emod, b_ok, on_ok, tru_bl, tru_int, tru_non, look_0, look_s, v_var, v_lit, v_glb, v_pow, v_neg, v_not, v_bin, v_cmp, v_chn, v_and, v_or, v_ife, v_tup, v_lst, v_cel, v_idx, v_slc, v_call, v_ck, v_blt, v_ex, v_mth, v_isi, v_isN, v_isnN, l_nil, l_cons, o_nil, o_cons, s_asg, s_par, s_exp, s_rtn, s_ite, s_nil, s_pas, s_seq, thn_nx, thn_rt, end_rt, end_nx, bind_nm, bind_tp, binds_nil, binds_cons, cond_nil, Lit.d, ret_ap, neg_int, bin_add, bin_sub, cmp_le, cmp_lt, cmp_gt, cmp_ge, cmp_eq, cmp_ne, idx_fr0, idx_fr1, blt_int, fin_bl, fin_int, fin_non, fin_fr]) (fun k hk => by
    have f := fun h => fdv_pw (x := x) (k := k) (h := h) (by omega)
    have i : ∀ h, idxD (.lst [.int 1, .int 2, .int 4, .int 8, .int 16]) (.int k) h = .ok (.int (pw k)) h := fun h => by
      have : k < 5 := by omega
      match k, this with
      | 0, _ => rfl
      | 1, _ => rfl
      | 2, _ => rfl
      | 3, _ => rfl
      | 4, _ => rfl
    have s5 : 5 ≤ SZ := by decide
    refine ⟨_, rfl, ?_, fun _ => ?_⟩
    · rw [cond_of (by simp)]
      simp -implicitDefEqProofs [-Int.natCast_ediv, -Int.natCast_pow, -Int.natCast_emod, b_ok, on_ok, tru_bl, tru_int, tru_non, look_0, look_s, v_var, v_lit, v_glb, v_pow, v_neg, v_not, v_bin, v_cmp, v_chn, v_and, v_or, v_ife, v_tup, v_lst, v_cel, v_idx, v_slc, v_call, v_ck, v_blt, v_ex, v_mth, v_isi, v_isN, v_isnN, l_nil, l_cons, o_nil, o_cons, s_asg, s_par, s_exp, s_rtn, s_ite, s_nil, s_pas, s_seq, thn_nx, thn_rt, end_rt, end_nx, bind_nm, bind_tp, binds_nil, binds_cons, cond_nil, Lit.d, ret_ap, neg_int, bin_add, bin_sub, cmp_le, cmp_lt, cmp_gt, cmp_ge, cmp_eq, cmp_ne, idx_fr0, idx_fr1, blt_int, fin_bl, fin_int, fin_non, fin_fr, wipeE, s5, i, f, mod2, dec1]
    · simp -implicitDefEqProofs [-Int.natCast_ediv, -Int.natCast_pow, -Int.natCast_emod, b_ok, on_ok, tru_bl, tru_int, tru_non, look_0, look_s, v_var, v_lit, v_glb, v_pow, v_neg, v_not, v_bin, v_cmp, v_chn, v_and, v_or, v_ife, v_tup, v_lst, v_cel, v_idx, v_slc, v_call, v_ck, v_blt, v_ex, v_mth, v_isi, v_isN, v_isnN, l_nil, l_cons, o_nil, o_cons, s_asg, s_par, s_exp, s_rtn, s_ite, s_nil, s_pas, s_seq, thn_nx, thn_rt, end_rt, end_nx, bind_nm, bind_tp, binds_nil, binds_cons, cond_nil, Lit.d, ret_ap, neg_int, bin_add, bin_sub, cmp_le, cmp_lt, cmp_gt, cmp_ge, cmp_eq, cmp_ne, idx_fr0, idx_fr1, blt_int, fin_bl, fin_int, fin_non, fin_fr, wipeE])
  rw [run_eq ⟨rfl, by simp [l_lot]⟩]
  simp -implicitDefEqProofs [l_lot, -Int.natCast_ediv, -Int.natCast_pow, -Int.natCast_emod, b_ok, on_ok, tru_bl, tru_int, tru_non, look_0, look_s, v_var, v_lit, v_glb, v_pow, v_neg, v_not, v_bin, v_cmp, v_chn, v_and, v_or, v_ife, v_tup, v_lst, v_cel, v_idx, v_slc, v_call, v_ck, v_blt, v_ex, v_mth, v_isi, v_isN, v_isnN, l_nil, l_cons, o_nil, o_cons, s_asg, s_par, s_exp, s_rtn, s_ite, s_nil, s_pas, s_seq, thn_nx, thn_rt, end_rt, end_nx, bind_nm, bind_tp, binds_nil, binds_cons, cond_nil, Lit.d, ret_ap, neg_int, bin_add, bin_sub, cmp_le, cmp_lt, cmp_gt, cmp_ge, cmp_eq, cmp_ne, idx_fr0, idx_fr1, blt_int, fin_bl, fin_int, fin_non, fin_fr, a, tuple_lst]
  exact fin_tI
end
end Mn

set_option maxHeartbeats 4000000
/-! Mn: what the defs of the program do: masses. -/
namespace Mn
/- is_mass: c0=is_lot c1=is_share -/
def p_is_mass (c0 c1 : Nat) : Fn := ⟨2, 2, (.seq (.ite (.or (.not (.isi (.var 0) .tuple)) (.or (.cmp .ne (.blt .len (.cons (.var 0) .nil)) (.lit (.int 2))) (.or (.not (.call c0 (.cons (.idx (.var 0) (.lit (.int 0))) (.cons (.var 1) .nil)))) (.cmp .eq (.idx (.var 0) (.lit (.int 0))) (.tup .nil))))) (.seq (.rtn (.lit (.bl false)))
      .nil) .nil)
      (.seq (.rtn (.and (.call c1 (.cons (.idx (.var 0) (.lit (.int 1))) .nil)) (.cmp .gt (.idx (.idx (.var 0) (.lit (.int 1))) (.lit (.int 0))) (.lit (.int 0)))))
      .nil)), false⟩
/- check_masses: c0=is_mass c1=plus c2=is_less -/
def p_check_masses (c0 c1 c2 : Nat) : Fn := ⟨5, 2, (.seq (.ite (.not (.isi (.var 1) .tuple)) (.seq .rai
      .nil) .nil)
      (.seq (.asg (.nm 2) (.tup (.cons (.lit (.int 0)) (.cons (.lit (.int 1)) .nil))))
      (.seq (.for_ (.tp (.cons (.nm 3) (.cons (.nm 4) .nil))) .enum (.cons (.var 1) .nil) (.seq (.ite (.or (.not (.call c0 (.cons (.var 4) (.cons (.var 0) .nil)))) (.and (.cmp .gt (.var 3) (.lit (.int 0))) (.cmp .le (.idx (.var 4) (.lit (.int 0))) (.idx (.idx (.var 1) (.bin .sub (.var 3) (.lit (.int 1)))) (.lit (.int 0)))))) (.seq .rai
      .nil) .nil)
      (.seq (.asg (.nm 2) (.call c1 (.cons (.var 2) (.cons (.idx (.var 4) (.lit (.int 1))) .nil))))
      (.seq (.ite (.call c2 (.cons (.tup (.cons (.lit (.int 1)) (.cons (.lit (.int 1)) .nil))) (.cons (.var 2) .nil))) (.seq .rai
      .nil) .nil)
      .nil))))
      (.seq (.ite (.cmp .ne (.var 2) (.tup (.cons (.lit (.int 1)) (.cons (.lit (.int 1)) .nil)))) (.seq .rai
      .nil) .nil)
      .nil)))), false⟩
/- check_asked: c0=check_outcomes c1=check_masses -/
def p_check_asked (c0 c1 : Nat) : Fn := ⟨2, 2, (.seq (.exp (.call c0 (.cons (.var 0) .nil)))
      (.seq (.exp (.call c1 (.cons (.var 0) (.cons (.var 1) .nil))))
      .nil)), false⟩
/- belief_by: c0=added c1=is_inside -/
def p_belief_by (c0 c1 : Nat) : Fn := ⟨4, 2, (.seq (.rtn (.call c0 (.cons (.lc [2, 3] (.var 3) (.tp (.cons (.nm 2) (.cons (.nm 3) .nil))) .seq (.cons (.var 0) .nil) (.call c1 (.cons (.var 2) (.cons (.var 1) .nil)))) .nil)))
      .nil), false⟩
/- beliefs: c0=check_asked c1=belief_by c2=all_lots -/
def p_beliefs (c0 c1 c2 : Nat) : Fn := ⟨3, 2, (.seq (.exp (.call c0 (.cons (.var 0) (.cons (.var 1) .nil))))
      (.seq (.rtn (.blt .tuple (.cons (.lc [2] (.call c1 (.cons (.var 1) (.cons (.var 2) .nil))) (.nm 2) .seq (.cons (.call c2 (.cons (.var 0) .nil)) .nil) .nil) .nil)))
      .nil)), false⟩
/- belief: c0=check_asked c1=check_lot c2=belief_by -/
def p_belief (c0 c1 c2 : Nat) : Fn := ⟨3, 3, (.seq (.exp (.call c0 (.cons (.var 0) (.cons (.var 1) .nil))))
      (.seq (.exp (.call c1 (.cons (.var 2) (.cons (.var 0) .nil))))
      (.seq (.rtn (.call c2 (.cons (.var 1) (.cons (.var 2) .nil))))
      .nil))), false⟩
/- room: c0=check_asked c1=check_lot c2=added c3=do_touch -/
def p_room (c0 c1 c2 c3 : Nat) : Fn := ⟨5, 3, (.seq (.exp (.call c0 (.cons (.var 0) (.cons (.var 1) .nil))))
      (.seq (.exp (.call c1 (.cons (.var 2) (.cons (.var 0) .nil))))
      (.seq (.rtn (.call c2 (.cons (.lc [3, 4] (.var 4) (.tp (.cons (.nm 3) (.cons (.nm 4) .nil))) .seq (.cons (.var 1) .nil) (.call c3 (.cons (.var 3) (.cons (.var 2) .nil)))) .nil)))
      .nil))), false⟩
/- _law_beliefs: c0=_law_lot c1=_law_plus -/
def l_beliefs (c0 c1 : Nat) : Fn := ⟨9, 2, (.seq (.asg (.nm 2) (.cel .nil))
      (.seq (.for_ (.nm 3) .rng (.cons (.idx (.lst (.cons (.lit (.int 1)) (.cons (.lit (.int 2)) (.cons (.lit (.int 4)) (.cons (.lit (.int 8)) (.cons (.lit (.int 16)) (.cons (.lit (.int 32)) .nil))))))) (.var 0)) .nil) (.seq (.asg (.tp (.cons (.nm 4) (.cons (.nm 5) .nil))) (.tup (.cons (.call c0 (.cons (.var 3) (.cons (.var 0) .nil))) (.cons (.tup (.cons (.lit (.int 0)) (.cons (.lit (.int 1)) .nil))) .nil))))
      (.seq (.for_ (.tp (.cons (.nm 6) (.cons (.nm 7) .nil))) .seq (.cons (.var 1) .nil) (.seq (.asg (.nm 5) (.ife (.cmp .eq (.lc [8] (.var 8) (.nm 8) .seq (.cons (.var 6) .nil) (.cmp .noti (.var 8) (.var 4))) (.lst .nil)) (.call c1 (.cons (.var 5) (.cons (.var 7) .nil))) (.var 5)))
      .nil))
      (.seq (.app (.var 2) (.var 5))
      .nil))))
      (.seq (.rtn (.blt .tuple (.cons (.var 2) .nil)))
      .nil))), false⟩
/- _law_room: c0=_law_plus -/
def l_room (c0 : Nat) : Fn := ⟨6, 2, (.seq (.asg (.nm 2) (.tup (.cons (.lit (.int 0)) (.cons (.lit (.int 1)) .nil))))
      (.seq (.for_ (.tp (.cons (.nm 3) (.cons (.nm 4) .nil))) .seq (.cons (.var 0) .nil) (.seq (.asg (.nm 2) (.ife (.cmp .ne (.lc [5] (.var 5) (.nm 5) .seq (.cons (.var 3) .nil) (.cmp .isin (.var 5) (.var 1))) (.lst .nil)) (.call c0 (.cons (.var 2) (.cons (.var 4) .nil))) (.var 2)))
      .nil))
      (.seq (.rtn (.var 2))
      .nil))), false⟩
def massD (n : Nat) (m : Nat × Rat) : D := .tup [lotD n m.1, fr m.2]
def massesD (n : Nat) (ms : List (Nat × Rat)) : D := .tup (ms.map (massD n))
def lotI (n x : Nat) : List Int := (lotL n x).map fun k : Nat => (k : Int)
def lotLt (n x y : Nat) : Bool := HT.lexLt (lotI n x) (lotI n y)
theorem le_not_lt : ∀ n < 6, ∀ x < 2 ^ n, ∀ y < 2 ^ n, lexLe (lotI n x) (lotI n y) = !lotLt n y x := by decide +kernel
theorem lt_tri : ∀ n < 6, ∀ x < 2 ^ n, ∀ y < 2 ^ n, x = y ∨ lotLt n x y = true ∨ lotLt n y x = true := by decide +kernel
theorem lt_irr : ∀ n < 6, ∀ x < 2 ^ n, lotLt n x x = false := by decide +kernel
abbrev tt : Nat → Bool := fun _ => true
structure OkM (n : Nat) (ms : List (Nat × Rat)) : Prop where
  n2 : 2 ≤ n
  n5 : n ≤ 5
  lots : ∀ m ∈ ms, 0 < m.1 ∧ m.1 < 2 ^ n
  pos : ∀ m ∈ ms, 0 < m.2
  den : ∀ m ∈ ms, m.2.den ≤ 1000000
  asc : ms.Pairwise fun a b => lotLt n a.1 b.1 = true
  sum : ws ms tt = 1
  len : ms.length ≤ 40
theorem ws_tail {pre : List (Nat × Rat)} {y : Nat × Rat} {P : Nat → Bool} : ws (pre ++ [y]) P = ws pre P + if P y.1 then y.2 else 0 := by
  rw [ws_append]
  simp only [ws]
  grind
theorem sz_ws {P : Nat → Bool} {m : Nat} : ∀ {ms : List (Nat × Rat)}, (∀ x ∈ ms, Sz m x.2) → Sz (ms.length * (m + 1)) (ws ms P)
  | [], _ => sz_zero
  | x :: r, h => by
    have h2 := sz_ws (P := P) (m := m) (ms := r) fun x hx => h x (by simp [hx])
    simp only [ws, List.length_cons]
    have h3 : Sz m (if P x.1 then x.2 else 0) := by
      split
      · exact h x (by simp)
      · exact sz_zero
    refine (h3.add h2).mono ?_
    rw [Nat.add_mul]
    omega
theorem num_pos {q : Rat} (h : 0 < q) : 0 < q.num := by
  have := (Rat.lt_iff 0 q).mp h
  simpa using this
section
variable {cf : Nat → List D → M D} {n : Nat} {ms : List (Nat × Rat)}
theorem sz_share {q : Rat} (h0 : 0 ≤ q) (h1 : q ≤ 1) (hd : q.den ≤ 1000000) : Sz 20 q := by
  obtain ⟨a, b⟩ := share_num h0 h1
  constructor
  · have : q.num.natAbs ≤ 1000000 := by omega
    exact Nat.le_trans this (by decide)
  · exact Nat.le_trans hd (by decide)
theorem OkM.nonneg (o : OkM n ms) : ∀ m ∈ ms, 0 ≤ m.2 := fun m hm => by have := o.pos m hm; grind
theorem OkM.pre_le (o : OkM n ms) {pre post : List (Nat × Rat)} (e : ms = pre ++ post) : ws pre tt ≤ 1 := by
  have h1 := o.sum
  rw [e, ws_append] at h1
  have h2 : 0 ≤ ws post tt := ws_nonneg fun m hm => o.nonneg m (by rw [e]; simp [hm])
  grind
theorem OkM.le1 (o : OkM n ms) : ∀ m ∈ ms, m.2 ≤ 1 := fun m hm => by
  obtain ⟨pre, post, e⟩ := List.append_of_mem hm
  have h1 := o.sum
  rw [e, ws_append] at h1
  simp only [ws] at h1
  have h2 : 0 ≤ ws pre tt := ws_nonneg fun m hm => o.nonneg m (by rw [e]; simp [hm])
  have h3 : 0 ≤ ws post tt := ws_nonneg fun m hm => o.nonneg m (by rw [e]; simp [hm])
  simp at h1
  grind
theorem OkM.sz (o : OkM n ms) : ∀ m ∈ ms, Sz 20 m.2 := fun m hm => sz_share (o.nonneg m hm) (o.le1 m hm) (o.den m hm)
theorem OkM.sz_ws (o : OkM n ms) {pre post : List (Nat × Rat)} (e : ms = pre ++ post) {P : Nat → Bool} : Sz 1900 (ws pre P) := by
  refine (Mn.sz_ws (m := 20) fun x hx => o.sz x (by rw [e]; simp [hx])).mono ?_
  have : pre.length ≤ ms.length := by rw [e]; simp
  have := o.len
  omega
theorem nb_tI {ks : List Nat} : nbD (tI ks) = true := by
  unfold tI nbD
  induction ks with
  | nil => rfl
  | cons k r ih => simp [nbL, nbD, ih]
theorem dp_tI {ks : List Nat} : dpD (tI ks) ≤ 64 := by
  have : ∀ l : List Nat, dpL (l.map fun k : Nat => .int (k : Int)) = 0 := fun l => by
    induction l with
    | nil => rfl
    | cons k r ih => simp [dpL, dpD, ih]
  unfold tI dpD
  rw [this]
  decide
theorem tI_ne {ks : List Nat} (h : ks ≠ []) : tI ks ≠ .tup [] := by
  cases ks with
  | nil => exact absurd rfl h
  | cons k r => simp [tI]
theorem idx_map {α : Type} {f : α → D} {ys : List α} {k : Nat} {y : α} {h : MH} (hk : ys[k]? = some y) : idxD (.tup (ys.map f)) (.int (k : Int)) h = .ok (f y) h := by
  obtain ⟨hl, e⟩ := List.getElem?_eq_some_iff.mp hk
  have h1 : ((k : Int) < (ys.length : Int)) := by omega
  simp [idxD, items, L2.atI, L2.ixN, hl, e]
abbrev MassAt (cf : Nat → List D → M D) (c : Nat) : Prop := ∀ (n x : Nat) (q : Rat) h, n < 6 → 0 < x → x < 2 ^ n → 0 < q → q ≤ 1 → q.den ≤ 1000000 → cf c [massD n (x, q), .int n] h = .ok (.bl true) h
theorem is_mass_ok {c d : Nat} (L : LotAt cf c) (S : ShareAt cf d) {x : Nat} {q : Rat} {h : MH} (hn : n < 6) (hx : 0 < x) (hx2 : x < 2 ^ n) (h0 : 0 < q) (h1 : q ≤ 1) (hd : q.den ≤ 1000000) : runFn cf (p_is_mass c d) [massD n (x, q), .int n] h = .ok (.bl true) h := by
  have l := fun h => L n x h (by omega)
  have s : ∀ h, cf d [fr q] h = .ok (.bl true) h := fun h => by
    rw [S q h (Nat.lt_of_le_of_lt hd (by have : (1000000 : Nat) < 2 ^ 100000 := Nat.lt_of_lt_of_le (by decide : 1000000 < 2 ^ 20) (Nat.pow_le_pow_right (by decide) (by decide)); exact this))]
    have : (0 ≤ q ∧ q ≤ 1 ∧ q.den ≤ 1000000) := ⟨by grind, h1, hd⟩
    simp [this]
  have i0 : ∀ h, idxD (massD n (x, q)) (.int 0) h = .ok (lotD n x) h := fun h => rfl
  have i1 : ∀ h, idxD (massD n (x, q)) (.int 1) h = .ok (fr q) h := fun h => rfl
  have is : ∀ h, isiD .tuple (massD n (x, q)) h = .ok (.bl true) h := fun h => rfl
  have ln : ∀ h, bltD .len [massD n (x, q)] h = .ok (.int 2) h := fun h => rfl
  have ne : ∀ h, cmpD .eq (lotD n x) (.tup []) h = .ok (.bl false) h := fun h => eqD_diff nb_tI rfl dp_tI (by decide) (tI_ne fun z => by have := lot_nil n hn x hx2 z; omega)
  have np : 0 < q.num := num_pos h0
  rw [run_eq ⟨rfl, by simp [p_is_mass]⟩]
  simp -implicitDefEqProofs [p_is_mass, -Int.natCast_ediv, -Int.natCast_pow, -Int.natCast_emod, b_ok, on_ok, tru_bl, tru_int, tru_non, look_0, look_s, v_var, v_lit, v_glb, v_pow, v_neg, v_not, v_bin, v_cmp, v_chn, v_and, v_or, v_ife, v_tup, v_lst, v_cel, v_idx, v_slc, v_call, v_ck, v_blt, v_ex, v_mth, v_isi, v_isN, v_isnN, l_nil, l_cons, o_nil, o_cons, s_asg, s_par, s_exp, s_rtn, s_ite, s_nil, s_pas, s_seq, thn_nx, thn_rt, end_rt, end_nx, bind_nm, bind_tp, binds_nil, binds_cons, cond_nil, Lit.d, ret_ap, neg_int, bin_add, bin_sub, cmp_le, cmp_lt, cmp_gt, cmp_ge, cmp_eq, cmp_ne, idx_fr0, idx_fr1, blt_int, fin_bl, fin_int, fin_non, fin_fr, is, ln, i0, i1, l, s, ne, np]
abbrev ChkMassesAt (cf : Nat → List D → M D) (c : Nat) : Prop := ∀ (n : Nat) (ms : List (Nat × Rat)) h, OkM n ms → cf c [.int n, massesD n ms] h = .ok .non h
theorem one_lt {p : Rat} (h : p ≤ 1) : decide ((1 : Rat) < p) = false := decide_eq_false (by grind)
theorem le_lot {x y : Nat} {h : MH} (hn : n < 6) (hx : x < 2 ^ n) (hy : y < 2 ^ n) : cmpD .le (lotD n x) (lotD n y) h = .ok (.bl (!lotLt n y x)) h := by
  have : cmpD .le (lotD n x) (lotD n y) h = .ok (.bl (lexLe (lotI n x) (lotI n y))) h := by
    simp only [cmpD, ordD, tI, ints_map]
    rfl
  rw [this, le_not_lt n hn x hx y hy]
theorem check_masses_ok {c d e : Nat} (M : MassAt cf c) (P : PlusAt cf d) (L : LessAt cf e) {h : MH} (o : OkM n ms) : runFn cf (p_check_masses c d e) [.int n, massesD n ms] h = .ok .non h := by
  have n5 := o.n5
  have z : D.tup [.int 0, .int 1] = fr 0 := rfl
  have u : D.tup [.int 1, .int 1] = fr 1 := rfl
  have s2 : 2 ≤ SZ := by decide
  obtain ⟨env', h', e, rfl, o1, o2, rfl⟩ := for_enm (cf := cf) (t := .tp (.cons (.nm 3) (.cons (.nm 4) .nil))) (l := .cons (.var 1) .nil) (b := (.seq (.ite (.or (.not (.call c (.cons (.var 4) (.cons (.var 0) .nil)))) (.and (.cmp .gt (.var 3) (.lit (.int 0))) (.cmp .le (.idx (.var 4) (.lit (.int 0))) (.idx (.idx (.var 1) (.bin .sub (.var 3) (.lit (.int 1)))) (.lit (.int 0)))))) (.seq .rai
      .nil) .nil)
      (.seq (.asg (.nm 2) (.call d (.cons (.var 2) (.cons (.idx (.var 4) (.lit (.int 1))) .nil))))
      (.seq (.ite (.call e (.cons (.tup (.cons (.lit (.int 1)) (.cons (.lit (.int 1)) .nil))) (.cons (.var 2) .nil))) (.seq .rai
      .nil) .nil)
      .nil)))) (env := [oI n, some (massesD n ms), some (fr 0), none, none]) (h := h) ms (massD n) (fun pre env h' => h' = h ∧ ∃ o1 o2, env = [oI n, some (massesD n ms), some (fr (ws pre tt)), o1, o2]) (.inl (by simp -implicitDefEqProofs [-Int.natCast_ediv, -Int.natCast_pow, -Int.natCast_emod, b_ok, on_ok, tru_bl, tru_int, tru_non, look_0, look_s, v_var, v_lit, v_glb, v_pow, v_neg, v_not, v_bin, v_cmp, v_chn, v_and, v_or, v_ife, v_tup, v_lst, v_cel, v_idx, v_slc, v_call, v_ck, v_blt, v_ex, v_mth, v_isi, v_isN, v_isnN, l_nil, l_cons, o_nil, o_cons, s_asg, s_par, s_exp, s_rtn, s_ite, s_nil, s_pas, s_seq, thn_nx, thn_rt, end_rt, end_nx, bind_nm, bind_tp, binds_nil, binds_cons, cond_nil, Lit.d, ret_ap, neg_int, bin_add, bin_sub, cmp_le, cmp_lt, cmp_gt, cmp_ge, cmp_eq, cmp_ne, idx_fr0, idx_fr1, blt_int, fin_bl, fin_int, fin_non, fin_fr, massesD])) (fun pre y post env h' hy i => by
    obtain ⟨rfl, o1, o2, rfl⟩ := i
    have hm : y ∈ ms := by rw [hy]; simp
    have a1 := fun h => M n y.1 y.2 h (by omega) (o.lots y hm).1 (o.lots y hm).2 (o.pos y hm) (o.le1 y hm) (o.den y hm)
    have a2 := fun h => P _ _ h (o.sz_ws (P := tt) hy) ((o.sz y hm).mono (by decide))
    have e2 : ws pre tt + y.2 = ws (pre ++ [y]) tt := by rw [ws_tail]; simp
    rw [e2] at a2
    have hy2 : ms = (pre ++ [y]) ++ post := by rw [hy]; simp
    have a3 := fun h => L 1 _ h sz_one (o.sz_ws (P := tt) hy2)
    rw [one_lt (o.pre_le hy2)] at a3
    have i0 : ∀ h, idxD (massD n y) (.int 0) h = .ok (lotD n y.1) h := fun h => rfl
    have i1 : ∀ h, idxD (massD n y) (.int 1) h = .ok (fr y.2) h := fun h => rfl
    refine ⟨_, [oI n, some (massesD n ms), some (fr (ws (pre ++ [y]) tt)), oI pre.length, some (massD n y)], _, rfl, ?_, rfl, _, _, rfl⟩
    rcases List.eq_nil_or_concat pre with e | ⟨pr, w, e⟩
    · subst e
      simp only [List.nil_append] at a2 a3
      simp -implicitDefEqProofs [-Int.natCast_ediv, -Int.natCast_pow, -Int.natCast_emod, b_ok, on_ok, tru_bl, tru_int, tru_non, look_0, look_s, v_var, v_lit, v_glb, v_pow, v_neg, v_not, v_bin, v_cmp, v_chn, v_and, v_or, v_ife, v_tup, v_lst, v_cel, v_idx, v_slc, v_call, v_ck, v_blt, v_ex, v_mth, v_isi, v_isN, v_isnN, l_nil, l_cons, o_nil, o_cons, s_asg, s_par, s_exp, s_rtn, s_ite, s_nil, s_pas, s_seq, thn_nx, thn_rt, end_rt, end_nx, bind_nm, bind_tp, binds_nil, binds_cons, cond_nil, Lit.d, ret_ap, neg_int, bin_add, bin_sub, cmp_le, cmp_lt, cmp_gt, cmp_ge, cmp_eq, cmp_ne, idx_fr0, idx_fr1, blt_int, fin_bl, fin_int, fin_non, fin_fr, a1, a2, a3, i0, i1, u, s2]
    · rw [List.concat_eq_append] at e
      have hw : w ∈ ms := by rw [hy, e]; simp
      have g : ms[pr.length]? = some w := by rw [hy, e]; simp
      have i2 : ∀ h, idxD (massesD n ms) (.int ((pre.length : Int) - 1)) h = .ok (massD n w) h := fun h => by
        have : (pre.length : Int) - 1 = (pr.length : Int) := by rw [e]; simp
        rw [this]
        exact idx_map g
      have i3 : ∀ h, idxD (massD n w) (.int 0) h = .ok (lotD n w.1) h := fun h => rfl
      have lt : lotLt n w.1 y.1 = true := by
        have := o.asc
        rw [hy, e, List.pairwise_append] at this
        exact this.2.2 w (by simp) y (by simp)
      have a4 := fun h => le_lot (n := n) (x := y.1) (y := w.1) (h := h) (by omega) (o.lots y hm).2 (o.lots w hw).2
      rw [lt] at a4
      have hp : 0 < pre.length := by rw [e]; simp
      simp -implicitDefEqProofs [-Int.natCast_ediv, -Int.natCast_pow, -Int.natCast_emod, b_ok, on_ok, tru_bl, tru_int, tru_non, look_0, look_s, v_var, v_lit, v_glb, v_pow, v_neg, v_not, v_bin, v_cmp, v_chn, v_and, v_or, v_ife, v_tup, v_lst, v_cel, v_idx, v_slc, v_call, v_ck, v_blt, v_ex, v_mth, v_isi, v_isN, v_isnN, l_nil, l_cons, o_nil, o_cons, s_asg, s_par, s_exp, s_rtn, s_ite, s_nil, s_pas, s_seq, thn_nx, thn_rt, end_rt, end_nx, bind_nm, bind_tp, binds_nil, binds_cons, cond_nil, Lit.d, ret_ap, neg_int, bin_add, bin_sub, cmp_le, cmp_lt, cmp_gt, cmp_ge, cmp_eq, cmp_ne, idx_fr0, idx_fr1, blt_int, fin_bl, fin_int, fin_non, fin_fr, a1, a2, a3, i0, i1, i2, i3, a4, u, s2, hp]) ⟨rfl, none, none, rfl⟩
  have is : ∀ h, isiD .tuple (massesD n ms) h = .ok (.bl true) h := fun h => rfl
  have q : ∀ h, cmpD .ne (fr (ws ms tt)) (fr 1) h = .ok (.bl false) h := fun h => by
    rw [ne_fr, o.sum]
    simp
  rw [run_eq ⟨rfl, by simp [p_check_masses]⟩]
  simp -implicitDefEqProofs [p_check_masses, -Int.natCast_ediv, -Int.natCast_pow, -Int.natCast_emod, b_ok, on_ok, tru_bl, tru_int, tru_non, look_0, look_s, v_var, v_lit, v_glb, v_pow, v_neg, v_not, v_bin, v_cmp, v_chn, v_and, v_or, v_ife, v_tup, v_lst, v_cel, v_idx, v_slc, v_call, v_ck, v_blt, v_ex, v_mth, v_isi, v_isN, v_isnN, l_nil, l_cons, o_nil, o_cons, s_asg, s_par, s_exp, s_rtn, s_ite, s_nil, s_pas, s_seq, thn_nx, thn_rt, end_rt, end_nx, bind_nm, bind_tp, binds_nil, binds_cons, cond_nil, Lit.d, ret_ap, neg_int, bin_add, bin_sub, cmp_le, cmp_lt, cmp_gt, cmp_ge, cmp_eq, cmp_ne, idx_fr0, idx_fr1, blt_int, fin_bl, fin_int, fin_non, fin_fr, is, z, u, s2, e, q]
end
end Mn

set_option maxHeartbeats 4000000
/-! Mn: what the defs do: beliefs and rooms. -/
namespace Mn
def bel (n : Nat) (ms : List (Nat × Rat)) (y : Nat) : Rat := ws ms fun x => subB n x y
def rom (n : Nat) (ms : List (Nat × Rat)) (y : Nat) : Rat := ws ms fun x => touB n x y
def vecD (N : Nat) (v : Nat → Rat) : D := .tup ((List.range N).map fun x => fr (v x))
section
variable {cf : Nat → List D → M D} {n : Nat} {ms : List (Nat × Rat)}
abbrev AskedAt (cf : Nat → List D → M D) (c : Nat) : Prop := ∀ (n : Nat) (ms : List (Nat × Rat)) h, OkM n ms → cf c [.int n, massesD n ms] h = .ok .non h
theorem check_asked_ok {c d : Nat} (O : ChkOutAt cf c) (M : ChkMassesAt cf d) {h : MH} (o : OkM n ms) : runFn cf (p_check_asked c d) [.int n, massesD n ms] h = .ok .non h := by
  have a := fun h => O n h o.n2 o.n5
  have b := fun h => M n ms h o
  rw [run_eq ⟨rfl, by simp [p_check_asked]⟩]
  simp -implicitDefEqProofs [p_check_asked, -Int.natCast_ediv, -Int.natCast_pow, -Int.natCast_emod, b_ok, on_ok, tru_bl, tru_int, tru_non, look_0, look_s, v_var, v_lit, v_glb, v_pow, v_neg, v_not, v_bin, v_cmp, v_chn, v_and, v_or, v_ife, v_tup, v_lst, v_cel, v_idx, v_slc, v_call, v_ck, v_blt, v_ex, v_mth, v_isi, v_isN, v_isnN, l_nil, l_cons, o_nil, o_cons, s_asg, s_par, s_exp, s_rtn, s_ite, s_nil, s_pas, s_seq, thn_nx, thn_rt, end_rt, end_nx, bind_nm, bind_tp, binds_nil, binds_cons, cond_nil, Lit.d, ret_ap, neg_int, bin_add, bin_sub, cmp_le, cmp_lt, cmp_gt, cmp_ge, cmp_eq, cmp_ne, idx_fr0, idx_fr1, blt_int, fin_bl, fin_int, fin_non, fin_fr, a, b]
/-- the sum of the numbers whose lots are so -/
theorem added_ws {c : Nat} (A : AddedAt cf c) (o : OkM n ms) {P : Nat → Bool} {h : MH} : cf c [.lst ((ms.filter fun m => P m.1).map fun m => fr m.2)] h = .ok (fr (ws ms P)) h := by
  have a := A ((ms.filter fun m => P m.1).map (·.2)) h (fun p hp => by
    obtain ⟨m, hm, rfl⟩ := List.mem_map.mp hp
    exact (o.sz m (List.mem_filter.mp hm).1).mono (by decide)) (by
    rw [List.length_map]
    exact Nat.le_trans (List.length_filter_le _ _) o.len)
  rw [ws_filter] at a
  have e : (0 : Rat) + ws ms P = ws ms P := by grind
  rw [e, List.map_map] at a
  exact a
theorem ms_len (o : OkM n ms) : ms.length ≤ SZ := le_SZ (by have := o.len; omega)
abbrev BeliefByAt (cf : Nat → List D → M D) (c : Nat) : Prop := ∀ (n : Nat) (ms : List (Nat × Rat)) (y : Nat) h, OkM n ms → cf c [massesD n ms, lotD n y] h = .ok (fr (bel n ms y)) h
theorem belief_by_ok {c d : Nat} (A : AddedAt cf c) (I : InsideAt cf d) {y : Nat} {h : MH} (o : OkM n ms) : runFn cf (p_belief_by c d) [massesD n ms, lotD n y] h = .ok (fr (bel n ms y)) h := by
  have n5 := o.n5
  have a := lc_seq (cf := cf) (own := [2, 3]) (elt := .var 3) (t := .tp (.cons (.nm 2) (.cons (.nm 3) .nil))) (l := .cons (.var 0) .nil) (c := .call d (.cons (.var 2) (.cons (.var 1) .nil))) (env := [some (massesD n ms), some (lotD n y), none, none]) (h := h) ms (massD n) (fun m => subB n m.1 y) (fun m => fr m.2) (ms_len o) (.inl (by simp -implicitDefEqProofs [-Int.natCast_ediv, -Int.natCast_pow, -Int.natCast_emod, b_ok, on_ok, tru_bl, tru_int, tru_non, look_0, look_s, v_var, v_lit, v_glb, v_pow, v_neg, v_not, v_bin, v_cmp, v_chn, v_and, v_or, v_ife, v_tup, v_lst, v_cel, v_idx, v_slc, v_call, v_ck, v_blt, v_ex, v_mth, v_isi, v_isN, v_isnN, l_nil, l_cons, o_nil, o_cons, s_asg, s_par, s_exp, s_rtn, s_ite, s_nil, s_pas, s_seq, thn_nx, thn_rt, end_rt, end_nx, bind_nm, bind_tp, binds_nil, binds_cons, cond_nil, Lit.d, ret_ap, neg_int, bin_add, bin_sub, cmp_le, cmp_lt, cmp_gt, cmp_ge, cmp_eq, cmp_ne, idx_fr0, idx_fr1, blt_int, fin_bl, fin_int, fin_non, fin_fr, massesD])) (fun m hm => by
    have i := fun h => I n m.1 y h (by omega)
    refine ⟨_, rfl, ?_, fun _ => ?_⟩
    · rw [cond_of (by simp)]
      simp -implicitDefEqProofs [-Int.natCast_ediv, -Int.natCast_pow, -Int.natCast_emod, b_ok, on_ok, tru_bl, tru_int, tru_non, look_0, look_s, v_var, v_lit, v_glb, v_pow, v_neg, v_not, v_bin, v_cmp, v_chn, v_and, v_or, v_ife, v_tup, v_lst, v_cel, v_idx, v_slc, v_call, v_ck, v_blt, v_ex, v_mth, v_isi, v_isN, v_isnN, l_nil, l_cons, o_nil, o_cons, s_asg, s_par, s_exp, s_rtn, s_ite, s_nil, s_pas, s_seq, thn_nx, thn_rt, end_rt, end_nx, bind_nm, bind_tp, binds_nil, binds_cons, cond_nil, Lit.d, ret_ap, neg_int, bin_add, bin_sub, cmp_le, cmp_lt, cmp_gt, cmp_ge, cmp_eq, cmp_ne, idx_fr0, idx_fr1, blt_int, fin_bl, fin_int, fin_non, fin_fr, wipeE, i]
    · simp -implicitDefEqProofs [-Int.natCast_ediv, -Int.natCast_pow, -Int.natCast_emod, b_ok, on_ok, tru_bl, tru_int, tru_non, look_0, look_s, v_var, v_lit, v_glb, v_pow, v_neg, v_not, v_bin, v_cmp, v_chn, v_and, v_or, v_ife, v_tup, v_lst, v_cel, v_idx, v_slc, v_call, v_ck, v_blt, v_ex, v_mth, v_isi, v_isN, v_isnN, l_nil, l_cons, o_nil, o_cons, s_asg, s_par, s_exp, s_rtn, s_ite, s_nil, s_pas, s_seq, thn_nx, thn_rt, end_rt, end_nx, bind_nm, bind_tp, binds_nil, binds_cons, cond_nil, Lit.d, ret_ap, neg_int, bin_add, bin_sub, cmp_le, cmp_lt, cmp_gt, cmp_ge, cmp_eq, cmp_ne, idx_fr0, idx_fr1, blt_int, fin_bl, fin_int, fin_non, fin_fr, wipeE])
  have b := fun h => added_ws A o (P := fun x => subB n x y) (h := h)
  rw [run_eq ⟨rfl, by simp [p_belief_by]⟩]
  simp -implicitDefEqProofs [p_belief_by, -Int.natCast_ediv, -Int.natCast_pow, -Int.natCast_emod, b_ok, on_ok, tru_bl, tru_int, tru_non, look_0, look_s, v_var, v_lit, v_glb, v_pow, v_neg, v_not, v_bin, v_cmp, v_chn, v_and, v_or, v_ife, v_tup, v_lst, v_cel, v_idx, v_slc, v_call, v_ck, v_blt, v_ex, v_mth, v_isi, v_isN, v_isnN, l_nil, l_cons, o_nil, o_cons, s_asg, s_par, s_exp, s_rtn, s_ite, s_nil, s_pas, s_seq, thn_nx, thn_rt, end_rt, end_nx, bind_nm, bind_tp, binds_nil, binds_cons, cond_nil, Lit.d, ret_ap, neg_int, bin_add, bin_sub, cmp_le, cmp_lt, cmp_gt, cmp_ge, cmp_eq, cmp_ne, idx_fr0, idx_fr1, blt_int, fin_bl, fin_int, fin_non, fin_fr, a, b]
  rfl
abbrev BeliefsAt (cf : Nat → List D → M D) (c : Nat) : Prop := ∀ (n : Nat) (ms : List (Nat × Rat)) h, OkM n ms → cf c [.int n, massesD n ms] h = .ok (vecD (2 ^ n) (bel n ms)) h
theorem plains_vec {N : Nat} {v : Nat → Rat} : plains ((List.range N).map fun x => fr (v x)) = true := plains_map fun _ _ => plain_fr
theorem fin_vec {N : Nat} {v : Nat → Rat} {h : MH} : fin false h.length (vecD N v) h = .ok (vecD N v) h := fin_tup plains_vec
theorem pow5 {n : Nat} (h : n ≤ 5) : 2 ^ n ≤ 32 := Nat.pow_le_pow_right (by decide) h
theorem beliefs_ok {c d e : Nat} (A : AskedAt cf c) (B : BeliefByAt cf d) (L : LotsAt cf e) {h : MH} (o : OkM n ms) : runFn cf (p_beliefs c d e) [.int n, massesD n ms] h = .ok (vecD (2 ^ n) (bel n ms)) h := by
  have n5 := o.n5
  have p5 := pow5 n5
  have a1 := fun h => A n ms h o
  have a2 := fun h => L n h (by omega)
  have a3 := lc_seq' (cf := cf) (own := [2]) (elt := .call d (.cons (.var 1) (.cons (.var 2) .nil))) (t := .nm 2) (l := .cons (.call e (.cons (.var 0) .nil)) .nil) (env := [oI n, some (massesD n ms), none]) (h := h) (List.range (2 ^ n)) (lotD n) (fun y => fr (bel n ms y)) (by rw [List.length_range]; exact le_SZ (by omega)) (.inr (by simp -implicitDefEqProofs [-Int.natCast_ediv, -Int.natCast_pow, -Int.natCast_emod, b_ok, on_ok, tru_bl, tru_int, tru_non, look_0, look_s, v_var, v_lit, v_glb, v_pow, v_neg, v_not, v_bin, v_cmp, v_chn, v_and, v_or, v_ife, v_tup, v_lst, v_cel, v_idx, v_slc, v_call, v_ck, v_blt, v_ex, v_mth, v_isi, v_isN, v_isnN, l_nil, l_cons, o_nil, o_cons, s_asg, s_par, s_exp, s_rtn, s_ite, s_nil, s_pas, s_seq, thn_nx, thn_rt, end_rt, end_nx, bind_nm, bind_tp, binds_nil, binds_cons, cond_nil, Lit.d, ret_ap, neg_int, bin_add, bin_sub, cmp_le, cmp_lt, cmp_gt, cmp_ge, cmp_eq, cmp_ne, idx_fr0, idx_fr1, blt_int, fin_bl, fin_int, fin_non, fin_fr, a2])) (fun y hy => by
    have b := fun h => B n ms y h o
    exact ⟨_, rfl, by simp -implicitDefEqProofs [-Int.natCast_ediv, -Int.natCast_pow, -Int.natCast_emod, b_ok, on_ok, tru_bl, tru_int, tru_non, look_0, look_s, v_var, v_lit, v_glb, v_pow, v_neg, v_not, v_bin, v_cmp, v_chn, v_and, v_or, v_ife, v_tup, v_lst, v_cel, v_idx, v_slc, v_call, v_ck, v_blt, v_ex, v_mth, v_isi, v_isN, v_isnN, l_nil, l_cons, o_nil, o_cons, s_asg, s_par, s_exp, s_rtn, s_ite, s_nil, s_pas, s_seq, thn_nx, thn_rt, end_rt, end_nx, bind_nm, bind_tp, binds_nil, binds_cons, cond_nil, Lit.d, ret_ap, neg_int, bin_add, bin_sub, cmp_le, cmp_lt, cmp_gt, cmp_ge, cmp_eq, cmp_ne, idx_fr0, idx_fr1, blt_int, fin_bl, fin_int, fin_non, fin_fr, wipeE, b]⟩)
  rw [run_eq ⟨rfl, by simp [p_beliefs]⟩]
  simp -implicitDefEqProofs [p_beliefs, -Int.natCast_ediv, -Int.natCast_pow, -Int.natCast_emod, b_ok, on_ok, tru_bl, tru_int, tru_non, look_0, look_s, v_var, v_lit, v_glb, v_pow, v_neg, v_not, v_bin, v_cmp, v_chn, v_and, v_or, v_ife, v_tup, v_lst, v_cel, v_idx, v_slc, v_call, v_ck, v_blt, v_ex, v_mth, v_isi, v_isN, v_isnN, l_nil, l_cons, o_nil, o_cons, s_asg, s_par, s_exp, s_rtn, s_ite, s_nil, s_pas, s_seq, thn_nx, thn_rt, end_rt, end_nx, bind_nm, bind_tp, binds_nil, binds_cons, cond_nil, Lit.d, ret_ap, neg_int, bin_add, bin_sub, cmp_le, cmp_lt, cmp_gt, cmp_ge, cmp_eq, cmp_ne, idx_fr0, idx_fr1, blt_int, fin_bl, fin_int, fin_non, fin_fr, a1, a3, tuple_lst]
  exact fin_vec
abbrev BeliefAt (cf : Nat → List D → M D) (c : Nat) : Prop := ∀ (n : Nat) (ms : List (Nat × Rat)) (y : Nat) h, OkM n ms → cf c [.int n, massesD n ms, lotD n y] h = .ok (fr (bel n ms y)) h
theorem belief_ok {c d e : Nat} (A : AskedAt cf c) (C : ChkLotAt cf d) (B : BeliefByAt cf e) {y : Nat} {h : MH} (o : OkM n ms) : runFn cf (p_belief c d e) [.int n, massesD n ms, lotD n y] h = .ok (fr (bel n ms y)) h := by
  have n5 := o.n5
  have a1 := fun h => A n ms h o
  have a2 := fun h => C n y h (by omega)
  have a3 := fun h => B n ms y h o
  rw [run_eq ⟨rfl, by simp [p_belief]⟩]
  simp -implicitDefEqProofs [p_belief, -Int.natCast_ediv, -Int.natCast_pow, -Int.natCast_emod, b_ok, on_ok, tru_bl, tru_int, tru_non, look_0, look_s, v_var, v_lit, v_glb, v_pow, v_neg, v_not, v_bin, v_cmp, v_chn, v_and, v_or, v_ife, v_tup, v_lst, v_cel, v_idx, v_slc, v_call, v_ck, v_blt, v_ex, v_mth, v_isi, v_isN, v_isnN, l_nil, l_cons, o_nil, o_cons, s_asg, s_par, s_exp, s_rtn, s_ite, s_nil, s_pas, s_seq, thn_nx, thn_rt, end_rt, end_nx, bind_nm, bind_tp, binds_nil, binds_cons, cond_nil, Lit.d, ret_ap, neg_int, bin_add, bin_sub, cmp_le, cmp_lt, cmp_gt, cmp_ge, cmp_eq, cmp_ne, idx_fr0, idx_fr1, blt_int, fin_bl, fin_int, fin_non, fin_fr, a1, a2, a3]
abbrev RoomAt (cf : Nat → List D → M D) (c : Nat) : Prop := ∀ (n : Nat) (ms : List (Nat × Rat)) (y : Nat) h, OkM n ms → cf c [.int n, massesD n ms, lotD n y] h = .ok (fr (rom n ms y)) h
theorem room_ok {c d e f : Nat} (A : AskedAt cf c) (C : ChkLotAt cf d) (S : AddedAt cf e) (T : TouchAt cf f) {y : Nat} {h : MH} (o : OkM n ms) : runFn cf (p_room c d e f) [.int n, massesD n ms, lotD n y] h = .ok (fr (rom n ms y)) h := by
  have n5 := o.n5
  have a1 := fun h => A n ms h o
  have a2 := fun h => C n y h (by omega)
  have a3 := lc_seq (cf := cf) (own := [3, 4]) (elt := .var 4) (t := .tp (.cons (.nm 3) (.cons (.nm 4) .nil))) (l := .cons (.var 1) .nil) (c := .call f (.cons (.var 3) (.cons (.var 2) .nil))) (env := [oI n, some (massesD n ms), some (lotD n y), none, none]) (h := h) ms (massD n) (fun m => touB n m.1 y) (fun m => fr m.2) (ms_len o) (.inl (by simp -implicitDefEqProofs [-Int.natCast_ediv, -Int.natCast_pow, -Int.natCast_emod, b_ok, on_ok, tru_bl, tru_int, tru_non, look_0, look_s, v_var, v_lit, v_glb, v_pow, v_neg, v_not, v_bin, v_cmp, v_chn, v_and, v_or, v_ife, v_tup, v_lst, v_cel, v_idx, v_slc, v_call, v_ck, v_blt, v_ex, v_mth, v_isi, v_isN, v_isnN, l_nil, l_cons, o_nil, o_cons, s_asg, s_par, s_exp, s_rtn, s_ite, s_nil, s_pas, s_seq, thn_nx, thn_rt, end_rt, end_nx, bind_nm, bind_tp, binds_nil, binds_cons, cond_nil, Lit.d, ret_ap, neg_int, bin_add, bin_sub, cmp_le, cmp_lt, cmp_gt, cmp_ge, cmp_eq, cmp_ne, idx_fr0, idx_fr1, blt_int, fin_bl, fin_int, fin_non, fin_fr, massesD])) (fun m hm => by
    have i := fun h => T n m.1 y h (by omega)
    refine ⟨_, rfl, ?_, fun _ => ?_⟩
    · rw [cond_of (by simp)]
      simp -implicitDefEqProofs [-Int.natCast_ediv, -Int.natCast_pow, -Int.natCast_emod, b_ok, on_ok, tru_bl, tru_int, tru_non, look_0, look_s, v_var, v_lit, v_glb, v_pow, v_neg, v_not, v_bin, v_cmp, v_chn, v_and, v_or, v_ife, v_tup, v_lst, v_cel, v_idx, v_slc, v_call, v_ck, v_blt, v_ex, v_mth, v_isi, v_isN, v_isnN, l_nil, l_cons, o_nil, o_cons, s_asg, s_par, s_exp, s_rtn, s_ite, s_nil, s_pas, s_seq, thn_nx, thn_rt, end_rt, end_nx, bind_nm, bind_tp, binds_nil, binds_cons, cond_nil, Lit.d, ret_ap, neg_int, bin_add, bin_sub, cmp_le, cmp_lt, cmp_gt, cmp_ge, cmp_eq, cmp_ne, idx_fr0, idx_fr1, blt_int, fin_bl, fin_int, fin_non, fin_fr, wipeE, i]
    · simp -implicitDefEqProofs [-Int.natCast_ediv, -Int.natCast_pow, -Int.natCast_emod, b_ok, on_ok, tru_bl, tru_int, tru_non, look_0, look_s, v_var, v_lit, v_glb, v_pow, v_neg, v_not, v_bin, v_cmp, v_chn, v_and, v_or, v_ife, v_tup, v_lst, v_cel, v_idx, v_slc, v_call, v_ck, v_blt, v_ex, v_mth, v_isi, v_isN, v_isnN, l_nil, l_cons, o_nil, o_cons, s_asg, s_par, s_exp, s_rtn, s_ite, s_nil, s_pas, s_seq, thn_nx, thn_rt, end_rt, end_nx, bind_nm, bind_tp, binds_nil, binds_cons, cond_nil, Lit.d, ret_ap, neg_int, bin_add, bin_sub, cmp_le, cmp_lt, cmp_gt, cmp_ge, cmp_eq, cmp_ne, idx_fr0, idx_fr1, blt_int, fin_bl, fin_int, fin_non, fin_fr, wipeE])
  have b := fun h => added_ws S o (P := fun x => touB n x y) (h := h)
  rw [run_eq ⟨rfl, by simp [p_room]⟩]
  simp -implicitDefEqProofs [p_room, -Int.natCast_ediv, -Int.natCast_pow, -Int.natCast_emod, b_ok, on_ok, tru_bl, tru_int, tru_non, look_0, look_s, v_var, v_lit, v_glb, v_pow, v_neg, v_not, v_bin, v_cmp, v_chn, v_and, v_or, v_ife, v_tup, v_lst, v_cel, v_idx, v_slc, v_call, v_ck, v_blt, v_ex, v_mth, v_isi, v_isN, v_isnN, l_nil, l_cons, o_nil, o_cons, s_asg, s_par, s_exp, s_rtn, s_ite, s_nil, s_pas, s_seq, thn_nx, thn_rt, end_rt, end_nx, bind_nm, bind_tp, binds_nil, binds_cons, cond_nil, Lit.d, ret_ap, neg_int, bin_add, bin_sub, cmp_le, cmp_lt, cmp_gt, cmp_ge, cmp_eq, cmp_ne, idx_fr0, idx_fr1, blt_int, fin_bl, fin_int, fin_non, fin_fr, a1, a2, a3, b]
  rfl
/-! ### the law's own ones -/
theorem nb_ints {ks : List Nat} : nbD (.lst (ks.map fun k : Nat => .int (k : Int))) = true := nb_tI (ks := ks)
theorem dp_ints {ks : List Nat} : dpD (.lst (ks.map fun k : Nat => .int (k : Int))) ≤ 64 := dp_tI (ks := ks)
theorem eq_nil {ks : List Nat} {h : MH} : cmpD .eq (.lst (ks.map fun k : Nat => .int (k : Int))) (.lst []) h = .ok (.bl ks.isEmpty) h := by
  cases ks with
  | nil => exact eqD_same rfl (by decide)
  | cons k r => exact eqD_diff nb_ints rfl dp_ints (by decide) (by simp)
theorem ne_nil {ks : List Nat} {h : MH} : cmpD .ne (.lst (ks.map fun k : Nat => .int (k : Int))) (.lst []) h = .ok (.bl (!ks.isEmpty)) h := by
  cases ks with
  | nil => exact neD_same rfl (by decide)
  | cons k r => exact neD_diff nb_ints rfl dp_ints (by decide) (by simp)
theorem out_empty {x y : Nat} : ((lotL n x).filter fun k => !decide (k ∈ lotL n y)).isEmpty = subB n x y := by
  rw [Bool.eq_iff_iff]
  simp [subB]
theorem in_empty {x y : Nat} : (!((lotL n x).filter fun k => decide (k ∈ lotL n y)).isEmpty) = touB n x y := by
  rw [Bool.eq_iff_iff]
  simp [touB]
/-- a cell takes one more -/
theorem app_of {a e : E} {env : Env} {h : MH} {i : Nat} {xs : List D} {z : D} (e1 : ev cf a env h = .ok (.ref i) h) (hi : h[i]? = some (.lst xs)) (e2 : ev cf e env h = .ok z h) (hl : xs.length < SZ) (hp : plains (xs ++ [z]) = true) : exS cf (.app a e) env h = .ok (.nx env) (h.set i (.lst (xs ++ [z]))) := by
  rw [exS]
  simp [onE, e1, hi, e2, setCell, hl, hp]
theorem set_last {h : MH} {c d : Cell} : (h ++ [c]).set h.length d = h ++ [d] := by simp
theorem get_last {h : MH} {c : Cell} : (h ++ [c])[h.length]? = some c := by simp
theorem plains_snoc {xs : List D} {z : D} (h : plains xs = true) (hz : plain z = true) : plains (xs ++ [z]) = true := by
  induction xs with
  | nil => simp [plains, hz]
  | cons x r ih =>
    simp only [plains, Bool.and_eq_true, List.cons_append] at h ⊢
    exact ⟨h.1, ih h.2⟩
theorem fin_drop {xs : List D} {h : MH} {c : Cell} (hp : plains xs = true) : fin false h.length (.tup xs) (h ++ [c]) = .ok (.tup xs) h := by simp [fin, plain, hp]
abbrev LLotAt (cf : Nat → List D → M D) (c : Nat) : Prop := ∀ (x n : Nat) h, n ≤ 5 → cf c [.int x, .int n] h = .ok (lotD n x) h
theorem filter_lc {x y v w : Nat} {env : Env} {h : MH} (hn : n ≤ 5) (hw : w < env.length) (ev1 : env[v]? = some (some (lotD n x))) (ev2 : ∀ d, ((env.set w none).set w (some d))[w + 1 - 1]? = some (some d)) : True := trivial
theorem inner_loop {c : Nat} (P : PlusAt cf c) (o : OkM n ms) {o2 o3 : Option D} {y : Nat} {h : MH} : ∀ {o6 o7 : Option D}, ∃ o6' o7', exS cf (.for_ (.tp (.cons (.nm 6) (.cons (.nm 7) .nil))) .seq (.cons (.var 1) .nil) (.seq (.asg (.nm 5) (.ife (.cmp .eq (.lc [8] (.var 8) (.nm 8) .seq (.cons (.var 6) .nil) (.cmp .noti (.var 8) (.var 4))) (.lst .nil)) (.call c (.cons (.var 5) (.cons (.var 7) .nil))) (.var 5)))
      .nil)) [oI n, some (massesD n ms), o2, o3, some (lotD n y), some (fr 0), o6, o7, none] h = .ok (.nx [oI n, some (massesD n ms), o2, o3, some (lotD n y), some (fr (bel n ms y)), o6', o7', none]) h := by
  intro o6 o7
  have n5 := o.n5
  obtain ⟨env', h', e, rfl, p6, p7, rfl⟩ := for_seq (cf := cf) (t := .tp (.cons (.nm 6) (.cons (.nm 7) .nil))) (l := .cons (.var 1) .nil) (b := .seq (.asg (.nm 5) (.ife (.cmp .eq (.lc [8] (.var 8) (.nm 8) .seq (.cons (.var 6) .nil) (.cmp .noti (.var 8) (.var 4))) (.lst .nil)) (.call c (.cons (.var 5) (.cons (.var 7) .nil))) (.var 5)))
      .nil) (env := [oI n, some (massesD n ms), o2, o3, some (lotD n y), some (fr 0), o6, o7, none]) (h := h) ms (massD n) (fun pre env h' => h' = h ∧ ∃ p6 p7, env = [oI n, some (massesD n ms), o2, o3, some (lotD n y), some (fr (bel n pre y)), p6, p7, none]) (.inl (by simp -implicitDefEqProofs [-Int.natCast_ediv, -Int.natCast_pow, -Int.natCast_emod, b_ok, on_ok, tru_bl, tru_int, tru_non, look_0, look_s, v_var, v_lit, v_glb, v_pow, v_neg, v_not, v_bin, v_cmp, v_chn, v_and, v_or, v_ife, v_tup, v_lst, v_cel, v_idx, v_slc, v_call, v_ck, v_blt, v_ex, v_mth, v_isi, v_isN, v_isnN, l_nil, l_cons, o_nil, o_cons, s_asg, s_par, s_exp, s_rtn, s_ite, s_nil, s_pas, s_seq, thn_nx, thn_rt, end_rt, end_nx, bind_nm, bind_tp, binds_nil, binds_cons, cond_nil, Lit.d, ret_ap, neg_int, bin_add, bin_sub, cmp_le, cmp_lt, cmp_gt, cmp_ge, cmp_eq, cmp_ne, idx_fr0, idx_fr1, blt_int, fin_bl, fin_int, fin_non, fin_fr, massesD])) (fun pre m post env h' hm i => by
    obtain ⟨rfl, p6, p7, rfl⟩ := i
    have mm : m ∈ ms := by rw [hm]; simp
    have a := lc_seq (cf := cf) (own := [8]) (elt := .var 8) (t := .nm 8) (l := .cons (.var 6) .nil) (c := .cmp .noti (.var 8) (.var 4)) (env := [oI n, some (massesD n ms), o2, o3, some (lotD n y), some (fr (bel n pre y)), some (lotD n m.1), some (fr m.2), none]) (h := h') (lotL n m.1) (fun k => .int (k : Int)) (fun k => !decide (k ∈ lotL n y)) (fun k => .int (k : Int)) (le_SZ (Nat.le_trans lot_len (by omega))) (.inl (by simp -implicitDefEqProofs [-Int.natCast_ediv, -Int.natCast_pow, -Int.natCast_emod, b_ok, on_ok, tru_bl, tru_int, tru_non, look_0, look_s, v_var, v_lit, v_glb, v_pow, v_neg, v_not, v_bin, v_cmp, v_chn, v_and, v_or, v_ife, v_tup, v_lst, v_cel, v_idx, v_slc, v_call, v_ck, v_blt, v_ex, v_mth, v_isi, v_isN, v_isnN, l_nil, l_cons, o_nil, o_cons, s_asg, s_par, s_exp, s_rtn, s_ite, s_nil, s_pas, s_seq, thn_nx, thn_rt, end_rt, end_nx, bind_nm, bind_tp, binds_nil, binds_cons, cond_nil, Lit.d, ret_ap, neg_int, bin_add, bin_sub, cmp_le, cmp_lt, cmp_gt, cmp_ge, cmp_eq, cmp_ne, idx_fr0, idx_fr1, blt_int, fin_bl, fin_int, fin_non, fin_fr, tI])) (fun k hk => by
      refine ⟨_, rfl, ?_, fun _ => ?_⟩
      · rw [cond_of (by simp)]
        simp -implicitDefEqProofs [-Int.natCast_ediv, -Int.natCast_pow, -Int.natCast_emod, b_ok, on_ok, tru_bl, tru_int, tru_non, look_0, look_s, v_var, v_lit, v_glb, v_pow, v_neg, v_not, v_bin, v_cmp, v_chn, v_and, v_or, v_ife, v_tup, v_lst, v_cel, v_idx, v_slc, v_call, v_ck, v_blt, v_ex, v_mth, v_isi, v_isN, v_isnN, l_nil, l_cons, o_nil, o_cons, s_asg, s_par, s_exp, s_rtn, s_ite, s_nil, s_pas, s_seq, thn_nx, thn_rt, end_rt, end_nx, bind_nm, bind_tp, binds_nil, binds_cons, cond_nil, Lit.d, ret_ap, neg_int, bin_add, bin_sub, cmp_le, cmp_lt, cmp_gt, cmp_ge, cmp_eq, cmp_ne, idx_fr0, idx_fr1, blt_int, fin_bl, fin_int, fin_non, fin_fr, wipeE, noti_tI]
      · simp -implicitDefEqProofs [-Int.natCast_ediv, -Int.natCast_pow, -Int.natCast_emod, b_ok, on_ok, tru_bl, tru_int, tru_non, look_0, look_s, v_var, v_lit, v_glb, v_pow, v_neg, v_not, v_bin, v_cmp, v_chn, v_and, v_or, v_ife, v_tup, v_lst, v_cel, v_idx, v_slc, v_call, v_ck, v_blt, v_ex, v_mth, v_isi, v_isN, v_isnN, l_nil, l_cons, o_nil, o_cons, s_asg, s_par, s_exp, s_rtn, s_ite, s_nil, s_pas, s_seq, thn_nx, thn_rt, end_rt, end_nx, bind_nm, bind_tp, binds_nil, binds_cons, cond_nil, Lit.d, ret_ap, neg_int, bin_add, bin_sub, cmp_le, cmp_lt, cmp_gt, cmp_ge, cmp_eq, cmp_ne, idx_fr0, idx_fr1, blt_int, fin_bl, fin_int, fin_non, fin_fr, wipeE])
    have q := fun h => P (bel n pre y) m.2 h (o.sz_ws (P := fun x => subB n x y) hm) ((o.sz m mm).mono (by decide))
    have s0 : 0 ≤ SZ := by decide
    refine ⟨_, [oI n, some (massesD n ms), o2, o3, some (lotD n y), some (fr (bel n (pre ++ [m]) y)), some (lotD n m.1), some (fr m.2), none], _, rfl, ?_, rfl, _, _, rfl⟩
    have e2 : bel n (pre ++ [m]) y = bel n pre y + if subB n m.1 y then m.2 else 0 := ws_tail
    rw [e2]
    cases hs : subB n m.1 y with
    | true => simp -implicitDefEqProofs [-Int.natCast_ediv, -Int.natCast_pow, -Int.natCast_emod, b_ok, on_ok, tru_bl, tru_int, tru_non, look_0, look_s, v_var, v_lit, v_glb, v_pow, v_neg, v_not, v_bin, v_cmp, v_chn, v_and, v_or, v_ife, v_tup, v_lst, v_cel, v_idx, v_slc, v_call, v_ck, v_blt, v_ex, v_mth, v_isi, v_isN, v_isnN, l_nil, l_cons, o_nil, o_cons, s_asg, s_par, s_exp, s_rtn, s_ite, s_nil, s_pas, s_seq, thn_nx, thn_rt, end_rt, end_nx, bind_nm, bind_tp, binds_nil, binds_cons, cond_nil, Lit.d, ret_ap, neg_int, bin_add, bin_sub, cmp_le, cmp_lt, cmp_gt, cmp_ge, cmp_eq, cmp_ne, idx_fr0, idx_fr1, blt_int, fin_bl, fin_int, fin_non, fin_fr, a, q, eq_nil, out_empty, hs, s0]
    | false =>
      have e3 : bel n pre y + 0 = bel n pre y := by grind
      simp -implicitDefEqProofs [-Int.natCast_ediv, -Int.natCast_pow, -Int.natCast_emod, b_ok, on_ok, tru_bl, tru_int, tru_non, look_0, look_s, v_var, v_lit, v_glb, v_pow, v_neg, v_not, v_bin, v_cmp, v_chn, v_and, v_or, v_ife, v_tup, v_lst, v_cel, v_idx, v_slc, v_call, v_ck, v_blt, v_ex, v_mth, v_isi, v_isN, v_isnN, l_nil, l_cons, o_nil, o_cons, s_asg, s_par, s_exp, s_rtn, s_ite, s_nil, s_pas, s_seq, thn_nx, thn_rt, end_rt, end_nx, bind_nm, bind_tp, binds_nil, binds_cons, cond_nil, Lit.d, ret_ap, neg_int, bin_add, bin_sub, cmp_le, cmp_lt, cmp_gt, cmp_ge, cmp_eq, cmp_ne, idx_fr0, idx_fr1, blt_int, fin_bl, fin_int, fin_non, fin_fr, a, q, eq_nil, out_empty, hs, s0, e3]) ⟨rfl, o6, o7, rfl⟩
  exact ⟨p6, p7, e⟩
theorem sz_list {n : Nat} {h : MH} (hn : n ≤ 5) : idxD (.lst [.int 1, .int 2, .int 4, .int 8, .int 16, .int 32]) (.int (n : Int)) h = .ok (.int ((2 ^ n : Nat) : Int)) h := by
  have : n < 6 := by omega
  match n, this with
  | 0, _ => rfl
  | 1, _ => rfl
  | 2, _ => rfl
  | 3, _ => rfl
  | 4, _ => rfl
  | 5, _ => rfl
theorem l_beliefs_ok {c d : Nat} (L : LLotAt cf c) (P : PlusAt cf d) {h : MH} (o : OkM n ms) : runFn cf (l_beliefs c d) [.int n, massesD n ms] h = .ok (vecD (2 ^ n) (bel n ms)) h := by
  have n5 := o.n5
  have p5 := pow5 n5
  have z : D.tup [.int 0, .int 1] = fr 0 := rfl
  have s2 : 2 ≤ SZ := by decide
  have s6 : 6 ≤ SZ := by decide
  have s0 : 0 ≤ SZ := by decide
  have sl := fun h => sz_list (h := h) n5
  obtain ⟨env', h', e, rfl, o3, o4, o5, o6, o7, rfl⟩ := for_rng (cf := cf) (t := .nm 3) (l := (.cons (.idx (.lst (.cons (.lit (.int 1)) (.cons (.lit (.int 2)) (.cons (.lit (.int 4)) (.cons (.lit (.int 8)) (.cons (.lit (.int 16)) (.cons (.lit (.int 32)) .nil))))))) (.var 0)) .nil)) (b := (.seq (.asg (.tp (.cons (.nm 4) (.cons (.nm 5) .nil))) (.tup (.cons (.call c (.cons (.var 3) (.cons (.var 0) .nil))) (.cons (.tup (.cons (.lit (.int 0)) (.cons (.lit (.int 1)) .nil))) .nil))))
      (.seq (.for_ (.tp (.cons (.nm 6) (.cons (.nm 7) .nil))) .seq (.cons (.var 1) .nil) (.seq (.asg (.nm 5) (.ife (.cmp .eq (.lc [8] (.var 8) (.nm 8) .seq (.cons (.var 6) .nil) (.cmp .noti (.var 8) (.var 4))) (.lst .nil)) (.call d (.cons (.var 5) (.cons (.var 7) .nil))) (.var 5)))
      .nil))
      (.seq (.app (.var 2) (.var 5))
      .nil)))) (env := [oI n, some (massesD n ms), some (.ref h.length), none, none, none, none, none, none]) (h := h ++ [.lst []]) (2 ^ n) (fun k env h' => h' = h ++ [.lst ((List.range k).map fun y => fr (bel n ms y))] ∧ ∃ o3 o4 o5 o6 o7, env = [oI n, some (massesD n ms), some (.ref h.length), o3, o4, o5, o6, o7, none]) (le_SZ (by omega)) (by simp -implicitDefEqProofs [-Int.natCast_ediv, -Int.natCast_pow, -Int.natCast_emod, b_ok, on_ok, tru_bl, tru_int, tru_non, look_0, look_s, v_var, v_lit, v_glb, v_pow, v_neg, v_not, v_bin, v_cmp, v_chn, v_and, v_or, v_ife, v_tup, v_lst, v_cel, v_idx, v_slc, v_call, v_ck, v_blt, v_ex, v_mth, v_isi, v_isN, v_isnN, l_nil, l_cons, o_nil, o_cons, s_asg, s_par, s_exp, s_rtn, s_ite, s_nil, s_pas, s_seq, thn_nx, thn_rt, end_rt, end_nx, bind_nm, bind_tp, binds_nil, binds_cons, cond_nil, Lit.d, ret_ap, neg_int, bin_add, bin_sub, cmp_le, cmp_lt, cmp_gt, cmp_ge, cmp_eq, cmp_ne, idx_fr0, idx_fr1, blt_int, fin_bl, fin_int, fin_non, fin_fr, s6, sl]) (fun k env h' hk i => by
    obtain ⟨rfl, o3, o4, o5, o6, o7, rfl⟩ := i
    have l := fun h => L k n h (by omega)
    obtain ⟨o6', o7', il⟩ := inner_loop P o (o2 := some (.ref h.length)) (o3 := oI k) (y := k) (h := h ++ [.lst ((List.range k).map fun y => fr (bel n ms y))]) (o6 := o6) (o7 := o7)
    have ap := app_of (cf := cf) (a := .var 2) (e := .var 5) (env := [oI n, some (massesD n ms), some (.ref h.length), oI k, some (lotD n k), some (fr (bel n ms k)), o6', o7', none]) (h := h ++ [.lst ((List.range k).map fun y => fr (bel n ms y))]) (i := h.length) (z := fr (bel n ms k)) (by simp -implicitDefEqProofs [-Int.natCast_ediv, -Int.natCast_pow, -Int.natCast_emod, b_ok, on_ok, tru_bl, tru_int, tru_non, look_0, look_s, v_var, v_lit, v_glb, v_pow, v_neg, v_not, v_bin, v_cmp, v_chn, v_and, v_or, v_ife, v_tup, v_lst, v_cel, v_idx, v_slc, v_call, v_ck, v_blt, v_ex, v_mth, v_isi, v_isN, v_isnN, l_nil, l_cons, o_nil, o_cons, s_asg, s_par, s_exp, s_rtn, s_ite, s_nil, s_pas, s_seq, thn_nx, thn_rt, end_rt, end_nx, bind_nm, bind_tp, binds_nil, binds_cons, cond_nil, Lit.d, ret_ap, neg_int, bin_add, bin_sub, cmp_le, cmp_lt, cmp_gt, cmp_ge, cmp_eq, cmp_ne, idx_fr0, idx_fr1, blt_int, fin_bl, fin_int, fin_non, fin_fr]) get_last (by simp -implicitDefEqProofs [-Int.natCast_ediv, -Int.natCast_pow, -Int.natCast_emod, b_ok, on_ok, tru_bl, tru_int, tru_non, look_0, look_s, v_var, v_lit, v_glb, v_pow, v_neg, v_not, v_bin, v_cmp, v_chn, v_and, v_or, v_ife, v_tup, v_lst, v_cel, v_idx, v_slc, v_call, v_ck, v_blt, v_ex, v_mth, v_isi, v_isN, v_isnN, l_nil, l_cons, o_nil, o_cons, s_asg, s_par, s_exp, s_rtn, s_ite, s_nil, s_pas, s_seq, thn_nx, thn_rt, end_rt, end_nx, bind_nm, bind_tp, binds_nil, binds_cons, cond_nil, Lit.d, ret_ap, neg_int, bin_add, bin_sub, cmp_le, cmp_lt, cmp_gt, cmp_ge, cmp_eq, cmp_ne, idx_fr0, idx_fr1, blt_int, fin_bl, fin_int, fin_non, fin_fr]) (by
      rw [List.length_map, List.length_range]
      have : SZ = 16777216 := rfl
      omega) (plains_snoc plains_vec plain_fr)
    rw [set_last] at ap
    refine ⟨_, [oI n, some (massesD n ms), some (.ref h.length), oI k, some (lotD n k), some (fr (bel n ms k)), o6', o7', none], h ++ [.lst ((List.range (k + 1)).map fun y => fr (bel n ms y))], rfl, ?_, rfl, _, _, _, _, _, rfl⟩
    have er : (List.range k).map (fun y => fr (bel n ms y)) ++ [fr (bel n ms k)] = (List.range (k + 1)).map fun y => fr (bel n ms y) := by
      rw [List.range_succ]; simp
    rw [er] at ap
    simp -implicitDefEqProofs [-Int.natCast_ediv, -Int.natCast_pow, -Int.natCast_emod, b_ok, on_ok, tru_bl, tru_int, tru_non, look_0, look_s, v_var, v_lit, v_glb, v_pow, v_neg, v_not, v_bin, v_cmp, v_chn, v_and, v_or, v_ife, v_tup, v_lst, v_cel, v_idx, v_slc, v_call, v_ck, v_blt, v_ex, v_mth, v_isi, v_isN, v_isnN, l_nil, l_cons, o_nil, o_cons, s_asg, s_par, s_exp, s_rtn, s_ite, s_nil, s_pas, s_seq, thn_nx, thn_rt, end_rt, end_nx, bind_nm, bind_tp, binds_nil, binds_cons, cond_nil, Lit.d, ret_ap, neg_int, bin_add, bin_sub, cmp_le, cmp_lt, cmp_gt, cmp_ge, cmp_eq, cmp_ne, idx_fr0, idx_fr1, blt_int, fin_bl, fin_int, fin_non, fin_fr, l, z, s2, il, ap]) ⟨rfl, none, none, none, none, none, rfl⟩
  have tp : bltD .tuple [.ref h.length] (h ++ [.lst ((List.range (2 ^ n)).map fun y => fr (bel n ms y))]) = .ok (vecD (2 ^ n) (bel n ms)) (h ++ [.lst ((List.range (2 ^ n)).map fun y => fr (bel n ms y))]) := by
    simp [bltD, items, lItems, vecD]
  rw [run_eq ⟨rfl, by simp [l_beliefs]⟩]
  simp -implicitDefEqProofs [l_beliefs, -Int.natCast_ediv, -Int.natCast_pow, -Int.natCast_emod, b_ok, on_ok, tru_bl, tru_int, tru_non, look_0, look_s, v_var, v_lit, v_glb, v_pow, v_neg, v_not, v_bin, v_cmp, v_chn, v_and, v_or, v_ife, v_tup, v_lst, v_cel, v_idx, v_slc, v_call, v_ck, v_blt, v_ex, v_mth, v_isi, v_isN, v_isnN, l_nil, l_cons, o_nil, o_cons, s_asg, s_par, s_exp, s_rtn, s_ite, s_nil, s_pas, s_seq, thn_nx, thn_rt, end_rt, end_nx, bind_nm, bind_tp, binds_nil, binds_cons, cond_nil, Lit.d, ret_ap, neg_int, bin_add, bin_sub, cmp_le, cmp_lt, cmp_gt, cmp_ge, cmp_eq, cmp_ne, idx_fr0, idx_fr1, blt_int, fin_bl, fin_int, fin_non, fin_fr, s0, plains, e, tp]
  exact fin_drop plains_vec
theorem l_room_ok {c : Nat} (P : PlusAt cf c) (o : OkM n ms) {y : Nat} {h : MH} : runFn cf (l_room c) [massesD n ms, lotD n y] h = .ok (fr (rom n ms y)) h := by
  have n5 := o.n5
  obtain ⟨env', h', e, rfl, p6, p7, rfl⟩ := for_seq (cf := cf) (t := .tp (.cons (.nm 3) (.cons (.nm 4) .nil))) (l := .cons (.var 0) .nil) (b := .seq (.asg (.nm 2) (.ife (.cmp .ne (.lc [5] (.var 5) (.nm 5) .seq (.cons (.var 3) .nil) (.cmp .isin (.var 5) (.var 1))) (.lst .nil)) (.call c (.cons (.var 2) (.cons (.var 4) .nil))) (.var 2)))
      .nil) (env := [some (massesD n ms), some (lotD n y), some (fr 0), none, none, none]) (h := h) ms (massD n) (fun pre env h' => h' = h ∧ ∃ p6 p7, env = [some (massesD n ms), some (lotD n y), some (fr (rom n pre y)), p6, p7, none]) (.inl (by simp -implicitDefEqProofs [-Int.natCast_ediv, -Int.natCast_pow, -Int.natCast_emod, b_ok, on_ok, tru_bl, tru_int, tru_non, look_0, look_s, v_var, v_lit, v_glb, v_pow, v_neg, v_not, v_bin, v_cmp, v_chn, v_and, v_or, v_ife, v_tup, v_lst, v_cel, v_idx, v_slc, v_call, v_ck, v_blt, v_ex, v_mth, v_isi, v_isN, v_isnN, l_nil, l_cons, o_nil, o_cons, s_asg, s_par, s_exp, s_rtn, s_ite, s_nil, s_pas, s_seq, thn_nx, thn_rt, end_rt, end_nx, bind_nm, bind_tp, binds_nil, binds_cons, cond_nil, Lit.d, ret_ap, neg_int, bin_add, bin_sub, cmp_le, cmp_lt, cmp_gt, cmp_ge, cmp_eq, cmp_ne, idx_fr0, idx_fr1, blt_int, fin_bl, fin_int, fin_non, fin_fr, massesD])) (fun pre m post env h' hm i => by
    obtain ⟨rfl, p6, p7, rfl⟩ := i
    have mm : m ∈ ms := by rw [hm]; simp
    have a := lc_seq (cf := cf) (own := [5]) (elt := .var 5) (t := .nm 5) (l := .cons (.var 3) .nil) (c := .cmp .isin (.var 5) (.var 1)) (env := [some (massesD n ms), some (lotD n y), some (fr (rom n pre y)), some (lotD n m.1), some (fr m.2), none]) (h := h') (lotL n m.1) (fun k => .int (k : Int)) (fun k => decide (k ∈ lotL n y)) (fun k => .int (k : Int)) (le_SZ (Nat.le_trans lot_len (by omega))) (.inl (by simp -implicitDefEqProofs [-Int.natCast_ediv, -Int.natCast_pow, -Int.natCast_emod, b_ok, on_ok, tru_bl, tru_int, tru_non, look_0, look_s, v_var, v_lit, v_glb, v_pow, v_neg, v_not, v_bin, v_cmp, v_chn, v_and, v_or, v_ife, v_tup, v_lst, v_cel, v_idx, v_slc, v_call, v_ck, v_blt, v_ex, v_mth, v_isi, v_isN, v_isnN, l_nil, l_cons, o_nil, o_cons, s_asg, s_par, s_exp, s_rtn, s_ite, s_nil, s_pas, s_seq, thn_nx, thn_rt, end_rt, end_nx, bind_nm, bind_tp, binds_nil, binds_cons, cond_nil, Lit.d, ret_ap, neg_int, bin_add, bin_sub, cmp_le, cmp_lt, cmp_gt, cmp_ge, cmp_eq, cmp_ne, idx_fr0, idx_fr1, blt_int, fin_bl, fin_int, fin_non, fin_fr, tI])) (fun k hk => by
      refine ⟨_, rfl, ?_, fun _ => ?_⟩
      · rw [cond_of (by simp)]
        simp -implicitDefEqProofs [-Int.natCast_ediv, -Int.natCast_pow, -Int.natCast_emod, b_ok, on_ok, tru_bl, tru_int, tru_non, look_0, look_s, v_var, v_lit, v_glb, v_pow, v_neg, v_not, v_bin, v_cmp, v_chn, v_and, v_or, v_ife, v_tup, v_lst, v_cel, v_idx, v_slc, v_call, v_ck, v_blt, v_ex, v_mth, v_isi, v_isN, v_isnN, l_nil, l_cons, o_nil, o_cons, s_asg, s_par, s_exp, s_rtn, s_ite, s_nil, s_pas, s_seq, thn_nx, thn_rt, end_rt, end_nx, bind_nm, bind_tp, binds_nil, binds_cons, cond_nil, Lit.d, ret_ap, neg_int, bin_add, bin_sub, cmp_le, cmp_lt, cmp_gt, cmp_ge, cmp_eq, cmp_ne, idx_fr0, idx_fr1, blt_int, fin_bl, fin_int, fin_non, fin_fr, wipeE, isin_tI]
      · simp -implicitDefEqProofs [-Int.natCast_ediv, -Int.natCast_pow, -Int.natCast_emod, b_ok, on_ok, tru_bl, tru_int, tru_non, look_0, look_s, v_var, v_lit, v_glb, v_pow, v_neg, v_not, v_bin, v_cmp, v_chn, v_and, v_or, v_ife, v_tup, v_lst, v_cel, v_idx, v_slc, v_call, v_ck, v_blt, v_ex, v_mth, v_isi, v_isN, v_isnN, l_nil, l_cons, o_nil, o_cons, s_asg, s_par, s_exp, s_rtn, s_ite, s_nil, s_pas, s_seq, thn_nx, thn_rt, end_rt, end_nx, bind_nm, bind_tp, binds_nil, binds_cons, cond_nil, Lit.d, ret_ap, neg_int, bin_add, bin_sub, cmp_le, cmp_lt, cmp_gt, cmp_ge, cmp_eq, cmp_ne, idx_fr0, idx_fr1, blt_int, fin_bl, fin_int, fin_non, fin_fr, wipeE])
    have q := fun h => P (rom n pre y) m.2 h (o.sz_ws (P := fun x => touB n x y) hm) ((o.sz m mm).mono (by decide))
    have s0 : 0 ≤ SZ := by decide
    refine ⟨_, [some (massesD n ms), some (lotD n y), some (fr (rom n (pre ++ [m]) y)), some (lotD n m.1), some (fr m.2), none], _, rfl, ?_, rfl, _, _, rfl⟩
    have e2 : rom n (pre ++ [m]) y = rom n pre y + if touB n m.1 y then m.2 else 0 := ws_tail
    rw [e2]
    cases hs : touB n m.1 y with
    | true => simp -implicitDefEqProofs [-Int.natCast_ediv, -Int.natCast_pow, -Int.natCast_emod, b_ok, on_ok, tru_bl, tru_int, tru_non, look_0, look_s, v_var, v_lit, v_glb, v_pow, v_neg, v_not, v_bin, v_cmp, v_chn, v_and, v_or, v_ife, v_tup, v_lst, v_cel, v_idx, v_slc, v_call, v_ck, v_blt, v_ex, v_mth, v_isi, v_isN, v_isnN, l_nil, l_cons, o_nil, o_cons, s_asg, s_par, s_exp, s_rtn, s_ite, s_nil, s_pas, s_seq, thn_nx, thn_rt, end_rt, end_nx, bind_nm, bind_tp, binds_nil, binds_cons, cond_nil, Lit.d, ret_ap, neg_int, bin_add, bin_sub, cmp_le, cmp_lt, cmp_gt, cmp_ge, cmp_eq, cmp_ne, idx_fr0, idx_fr1, blt_int, fin_bl, fin_int, fin_non, fin_fr, a, q, ne_nil, in_empty, hs, s0]
    | false =>
      have e3 : rom n pre y + 0 = rom n pre y := by grind
      simp -implicitDefEqProofs [-Int.natCast_ediv, -Int.natCast_pow, -Int.natCast_emod, b_ok, on_ok, tru_bl, tru_int, tru_non, look_0, look_s, v_var, v_lit, v_glb, v_pow, v_neg, v_not, v_bin, v_cmp, v_chn, v_and, v_or, v_ife, v_tup, v_lst, v_cel, v_idx, v_slc, v_call, v_ck, v_blt, v_ex, v_mth, v_isi, v_isN, v_isnN, l_nil, l_cons, o_nil, o_cons, s_asg, s_par, s_exp, s_rtn, s_ite, s_nil, s_pas, s_seq, thn_nx, thn_rt, end_rt, end_nx, bind_nm, bind_tp, binds_nil, binds_cons, cond_nil, Lit.d, ret_ap, neg_int, bin_add, bin_sub, cmp_le, cmp_lt, cmp_gt, cmp_ge, cmp_eq, cmp_ne, idx_fr0, idx_fr1, blt_int, fin_bl, fin_int, fin_non, fin_fr, a, q, ne_nil, in_empty, hs, s0, e3]) ⟨rfl, none, none, rfl⟩
  have z : D.tup [.int 0, .int 1] = fr 0 := rfl
  have s2 : 2 ≤ SZ := by decide
  rw [run_eq ⟨rfl, by simp [l_room]⟩]
  simp -implicitDefEqProofs [l_room, -Int.natCast_ediv, -Int.natCast_pow, -Int.natCast_emod, b_ok, on_ok, tru_bl, tru_int, tru_non, look_0, look_s, v_var, v_lit, v_glb, v_pow, v_neg, v_not, v_bin, v_cmp, v_chn, v_and, v_or, v_ife, v_tup, v_lst, v_cel, v_idx, v_slc, v_call, v_ck, v_blt, v_ex, v_mth, v_isi, v_isN, v_isnN, l_nil, l_cons, o_nil, o_cons, s_asg, s_par, s_exp, s_rtn, s_ite, s_nil, s_pas, s_seq, thn_nx, thn_rt, end_rt, end_nx, bind_nm, bind_tp, binds_nil, binds_cons, cond_nil, Lit.d, ret_ap, neg_int, bin_add, bin_sub, cmp_le, cmp_lt, cmp_gt, cmp_ge, cmp_eq, cmp_ne, idx_fr0, idx_fr1, blt_int, fin_bl, fin_int, fin_non, fin_fr, z, s2, e]
end
end Mn

set_option maxHeartbeats 4000000
/-! Mn: what the defs do: bounds, their numbers, the masses of which they come, gathering. -/
namespace Mn
/- check_bounds: c0=is_let_at -/
def p_check_bounds (c0 : Nat) : Fn := ⟨2, 1, (.seq (.ite (.or (.not (.isi (.var 0) .tuple)) (.cmp .noti (.blt .len (.cons (.var 0) .nil)) (.glb "SIZES" (.cd [(4, 2), (8, 3), (16, 4), (32, 5)])))) (.seq .rai
      .nil) .nil)
      (.seq (.for_ (.nm 1) .rng (.cons (.blt .len (.cons (.var 0) .nil)) .nil) (.seq (.ite (.not (.call c0 (.cons (.var 0) (.cons (.var 1) .nil)))) (.seq .rai
      .nil) .nil)
      .nil))
      .nil)), false⟩
/- is_let_at: c0=is_share c1=is_less c2=lesser_lots -/
def p_is_let_at (c0 c1 c2 : Nat) : Fn := ⟨3, 2, (.seq (.ite (.or (.not (.call c0 (.cons (.idx (.var 0) (.var 1)) .nil))) (.and (.cmp .eq (.var 1) (.lit (.int 0))) (.cmp .ne (.idx (.var 0) (.lit (.int 0))) (.tup (.cons (.lit (.int 0)) (.cons (.lit (.int 1)) .nil)))))) (.seq (.rtn (.lit (.bl false)))
      .nil) .nil)
      (.seq (.ite (.and (.cmp .eq (.var 1) (.bin .sub (.blt .len (.cons (.var 0) .nil)) (.lit (.int 1)))) (.cmp .ne (.idx (.var 0) (.var 1)) (.tup (.cons (.lit (.int 1)) (.cons (.lit (.int 1)) .nil))))) (.seq (.rtn (.lit (.bl false)))
      .nil) .nil)
      (.seq (.rtn (.not (.blt .any (.cons (.lc [2] (.call c1 (.cons (.idx (.var 0) (.var 1)) (.cons (.idx (.var 0) (.var 2)) .nil))) (.nm 2) .seq (.cons (.call c2 (.cons (.var 1) (.cons (.idx (.glb "SIZES" (.cd [(4, 2), (8, 3), (16, 4), (32, 5)])) (.blt .len (.cons (.var 0) .nil))) .nil))) .nil) .nil) .nil))))
      .nil))), false⟩
/- numbers_by: c0=bit_of c1=minus -/
def p_numbers_by (c0 c1 : Nat) : Fn := ⟨6, 1, (.seq (.asg (.nm 1) (.blt .list (.cons (.var 0) .nil)))
      (.seq (.for_ (.nm 2) .rng (.cons (.idx (.glb "SIZES" (.cd [(4, 2), (8, 3), (16, 4), (32, 5)])) (.blt .len (.cons (.var 0) .nil))) .nil) (.seq (.asg (.nm 3) (.call c0 (.cons (.var 2) .nil)))
      (.seq (.asg (.nm 1) (.lc [4, 5] (.ife (.cmp .eq (.bin .mod (.bin .fdv (.var 4) (.var 3)) (.lit (.int 2))) (.lit (.int 1))) (.call c1 (.cons (.var 5) (.cons (.idx (.var 1) (.bin .sub (.var 4) (.var 3))) .nil))) (.var 5)) (.tp (.cons (.nm 4) (.cons (.nm 5) .nil))) .enum (.cons (.var 1) .nil) .nil))
      .nil)))
      (.seq (.rtn (.var 1))
      .nil))), false⟩
/- numbers_of: c0=check_bounds c1=numbers_by -/
def p_numbers_of (c0 c1 : Nat) : Fn := ⟨1, 1, (.seq (.exp (.call c0 (.cons (.var 0) .nil)))
      (.seq (.rtn (.blt .tuple (.cons (.call c1 (.cons (.var 0) .nil)) .nil)))
      .nil)), false⟩
/- masses_of: c0=check_bounds c1=masses_by -/
def p_masses_of (c0 c1 : Nat) : Fn := ⟨1, 1, (.seq (.exp (.call c0 (.cons (.var 0) .nil)))
      (.seq (.rtn (.call c1 (.cons (.var 0) .nil)))
      .nil)), false⟩
/- masses_by: c0=numbers_by c1=lot_at -/
def p_masses_by (c0 c1 : Nat) : Fn := ⟨5, 1, (.seq (.asg (.nm 1) (.call c0 (.cons (.var 0) .nil)))
      (.seq (.ite (.blt .any (.cons (.lc [2] (.cmp .lt (.idx (.var 2) (.lit (.int 0))) (.lit (.int 0))) (.nm 2) .seq (.cons (.var 1) .nil) .nil) .nil)) (.seq (.rtn (.lit .non))
      .nil) .nil)
      (.seq (.asg (.nm 3) (.idx (.glb "SIZES" (.cd [(4, 2), (8, 3), (16, 4), (32, 5)])) (.blt .len (.cons (.var 0) .nil))))
      (.seq (.rtn (.blt .tuple (.cons (.ex .srt (.cons (.lc [4, 2] (.tup (.cons (.call c1 (.cons (.var 4) (.cons (.var 3) .nil))) (.cons (.var 2) .nil))) (.tp (.cons (.nm 4) (.cons (.nm 2) .nil))) .enum (.cons (.var 1) .nil) (.cmp .gt (.idx (.var 2) (.lit (.int 0))) (.lit (.int 0)))) .nil)) .nil)))
      .nil)))), false⟩
/- gathers: c0=check_bounds c1=scattered -/
def p_gathers (c0 c1 : Nat) : Fn := ⟨1, 1, (.seq (.exp (.call c0 (.cons (.var 0) .nil)))
      (.seq (.rtn (.isN (.call c1 (.cons (.var 0) .nil))))
      .nil)), false⟩
/- scattered: c0=does_scatter -/
def p_scattered (c0 : Nat) : Fn := ⟨3, 1, (.seq (.for_ (.nm 1) .rng (.cons (.blt .len (.cons (.var 0) .nil)) .nil) (.seq (.for_ (.nm 2) .rng (.cons (.var 1) .nil) (.seq (.ite (.call c0 (.cons (.var 0) (.cons (.var 2) (.cons (.var 1) .nil)))) (.seq (.rtn (.tup (.cons (.var 2) (.cons (.var 1) .nil))))
      .nil) .nil)
      .nil))
      .nil))
      (.seq (.rtn (.lit .non))
      .nil)), false⟩
/- does_scatter: c0=both_lots c1=plus c2=is_less -/
def p_does_scatter (c0 c1 c2 : Nat) : Fn := ⟨6, 3, (.seq (.asg (.nm 3) (.call c0 (.cons (.var 1) (.cons (.var 2) .nil))))
      (.seq (.par 4 5 (.cons (.call c1 (.cons (.idx (.var 0) (.var 1)) (.cons (.idx (.var 0) (.var 2)) .nil))) (.cons (.call c1 (.cons (.idx (.var 0) (.var 3)) (.cons (.idx (.var 0) (.bin .sub (.bin .add (.var 1) (.var 2)) (.var 3))) .nil))) .nil)))
      (.seq (.rtn (.call c2 (.cons (.var 5) (.cons (.var 4) .nil))))
      .nil))), false⟩
/- both_lots:  -/
def p_both_lots : Fn := ⟨4, 2, (.seq (.asg (.tp (.cons (.nm 2) (.cons (.nm 3) .nil))) (.tup (.cons (.lit (.int 0)) (.cons (.lit (.int 1)) .nil))))
      (.seq (.whl (.cmp .le (.var 3) (.var 0)) (.seq (.ite (.and (.cmp .eq (.bin .mod (.bin .fdv (.var 0) (.var 3)) (.lit (.int 2))) (.lit (.int 1))) (.cmp .eq (.bin .mod (.bin .fdv (.var 1) (.var 3)) (.lit (.int 2))) (.lit (.int 1)))) (.seq (.aug 2 .add (.var 3))
      .nil) .nil)
      (.seq (.asg (.nm 3) (.bin .mul (.lit (.int 2)) (.var 3)))
      .nil)))
      (.seq (.rtn (.var 2))
      .nil))), false⟩
structure OkV (n : Nat) (v : Nat → Rat) : Prop where
  n2 : 2 ≤ n
  n5 : n ≤ 5
  lo : ∀ x < 2 ^ n, 0 ≤ v x
  hi : ∀ x < 2 ^ n, v x ≤ 1
  den : ∀ x < 2 ^ n, (v x).den ≤ 1000000
  bot : v 0 = 0
  top : v (2 ^ n - 1) = 1
  mono : ∀ x < 2 ^ n, ∀ k < n, x / 2 ^ k % 2 = 1 → v (x - 2 ^ k) ≤ v x
section
variable {cf : Nat → List D → M D} {n : Nat} {v : Nat → Rat}
theorem OkV.sz (o : OkV n v) {x : Nat} (hx : x < 2 ^ n) : Sz 20 (v x) := sz_share (o.lo x hx) (o.hi x hx) (o.den x hx)
theorem idx_vec {N x : Nat} {h : MH} (hx : x < N) : idxD (vecD N v) (.int (x : Int)) h = .ok (fr (v x)) h := by
  have : (List.range N)[x]? = some x := by simp [hx]
  exact idx_map (f := fun x => fr (v x)) this
theorem len_vec {N : Nat} {h : MH} : bltD .len [vecD N v] h = .ok (.int (N : Int)) h := by
  simp [bltD, lenD, items, vecD]
abbrev SIZ : D := .cd [(4, 2), (8, 3), (16, 4), (32, 5)]
theorem siz_idx {h : MH} (n2 : 2 ≤ n) (n5 : n ≤ 5) : idxD SIZ (.int ((2 ^ n : Nat) : Int)) h = .ok (.int (n : Int)) h := by
  have h6 : n < 6 := by omega
  match n, h6, n2 with
  | 2, _, _ => rfl
  | 3, _, _ => rfl
  | 4, _, _ => rfl
  | 5, _, _ => rfl
theorem siz_in {h : MH} (n2 : 2 ≤ n) (n5 : n ≤ 5) : cmpD .noti (.int ((2 ^ n : Nat) : Int)) SIZ h = .ok (.bl false) h := by
  have h6 : n < 6 := by omega
  match n, h6, n2 with
  | 2, _, _ => rfl
  | 3, _, _ => rfl
  | 4, _, _ => rfl
  | 5, _, _ => rfl
theorem share_big {q : Rat} (hd : q.den ≤ 1000000) : q.den < 2 ^ 100000 := Nat.lt_of_le_of_lt hd (Nat.lt_of_lt_of_le (by decide : 1000000 < 2 ^ 20) (Nat.pow_le_pow_right (by decide) (by decide)))
abbrev LetAt (cf : Nat → List D → M D) (c : Nat) : Prop := ∀ (n : Nat) (v : Nat → Rat) (x : Nat) h, OkV n v → x < 2 ^ n → cf c [vecD (2 ^ n) v, .int x] h = .ok (.bl true) h
theorem is_let_at_ok {c d e : Nat} (S : ShareAt cf c) (L : LessAt cf d) (Q : LessersAt cf e) {x : Nat} {h : MH} (o : OkV n v) (hx : x < 2 ^ n) : runFn cf (p_is_let_at c d e) [vecD (2 ^ n) v, .int x] h = .ok (.bl true) h := by
  have n5 := o.n5
  have p5 := pow5 n5
  have z : D.tup [.int 0, .int 1] = fr 0 := rfl
  have u : D.tup [.int 1, .int 1] = fr 1 := rfl
  have s2 : 2 ≤ SZ := by decide
  have ix := fun h => idx_vec (v := v) (h := h) hx
  have i0 : ∀ h, idxD (vecD (2 ^ n) v) (.int 0) h = .ok (fr (v 0)) h := fun h => idx_vec (v := v) (x := 0) (h := h) (Nat.two_pow_pos n)
  have s : ∀ h, cf c [fr (v x)] h = .ok (.bl true) h := fun h => by
    rw [S (v x) h (share_big (o.den x hx))]
    simp [o.lo x hx, o.hi x hx, o.den x hx]
  have ln := fun h => len_vec (v := v) (N := 2 ^ n) (h := h)
  have q := fun h => Q x n h (by omega) hx
  have sz := fun h => siz_idx (h := h) o.n2 n5
  have a := lc_seq' (cf := cf) (own := [2]) (elt := (.call d (.cons (.idx (.var 0) (.var 1)) (.cons (.idx (.var 0) (.var 2)) .nil)))) (t := .nm 2) (l := (.cons (.call e (.cons (.var 1) (.cons (.idx (.glb "SIZES" (.cd [(4, 2), (8, 3), (16, 4), (32, 5)])) (.blt .len (.cons (.var 0) .nil))) .nil))) .nil)) (env := [some (vecD (2 ^ n) v), oI x, none]) (h := h) (lotL n x) (fun k => .int ((x - 2 ^ k : Nat) : Int)) (fun _ => .bl false) (le_SZ (Nat.le_trans lot_len (by omega))) (.inr (by simp -implicitDefEqProofs [-Int.natCast_ediv, -Int.natCast_pow, -Int.natCast_emod, b_ok, on_ok, tru_bl, tru_int, tru_non, look_0, look_s, v_var, v_lit, v_glb, v_pow, v_neg, v_not, v_bin, v_cmp, v_chn, v_and, v_or, v_ife, v_tup, v_lst, v_cel, v_idx, v_slc, v_call, v_ck, v_blt, v_ex, v_mth, v_isi, v_isN, v_isnN, l_nil, l_cons, o_nil, o_cons, s_asg, s_par, s_exp, s_rtn, s_ite, s_nil, s_pas, s_seq, thn_nx, thn_rt, end_rt, end_nx, bind_nm, bind_tp, binds_nil, binds_cons, cond_nil, Lit.d, ret_ap, neg_int, bin_add, bin_sub, cmp_le, cmp_lt, cmp_gt, cmp_ge, cmp_eq, cmp_ne, idx_fr0, idx_fr1, blt_int, fin_bl, fin_int, fin_non, fin_fr, ln, sz, q])) (fun k hk => by
    obtain ⟨h1, h2⟩ := mem_lotL.mp hk
    have hl : x - 2 ^ k < 2 ^ n := Nat.lt_of_le_of_lt (Nat.sub_le _ _) hx
    have i2 := fun h => idx_vec (v := v) (h := h) hl
    have ls : ∀ h, cf d [fr (v x), fr (v (x - 2 ^ k))] h = .ok (.bl false) h := fun h => by
      rw [L _ _ h ((o.sz hx).mono (by decide)) ((o.sz hl).mono (by decide))]
      have := o.mono x hx k h1 h2
      rw [decide_eq_false (by grind)]
    refine ⟨_, rfl, ?_⟩
    simp -implicitDefEqProofs [-Int.natCast_ediv, -Int.natCast_pow, -Int.natCast_emod, b_ok, on_ok, tru_bl, tru_int, tru_non, look_0, look_s, v_var, v_lit, v_glb, v_pow, v_neg, v_not, v_bin, v_cmp, v_chn, v_and, v_or, v_ife, v_tup, v_lst, v_cel, v_idx, v_slc, v_call, v_ck, v_blt, v_ex, v_mth, v_isi, v_isN, v_isnN, l_nil, l_cons, o_nil, o_cons, s_asg, s_par, s_exp, s_rtn, s_ite, s_nil, s_pas, s_seq, thn_nx, thn_rt, end_rt, end_nx, bind_nm, bind_tp, binds_nil, binds_cons, cond_nil, Lit.d, ret_ap, neg_int, bin_add, bin_sub, cmp_le, cmp_lt, cmp_gt, cmp_ge, cmp_eq, cmp_ne, idx_fr0, idx_fr1, blt_int, fin_bl, fin_int, fin_non, fin_fr, wipeE, ix, i2, ls])
  have an : ∀ h, bltD .any [.lst ((lotL n x).map fun _ => .bl false)] h = .ok (.bl false) h := fun h => by
    rw [any_lst (p := fun _ => false)]
    simp
  have e0 : ∀ h, cmpD .ne (fr (v 0)) (fr 0) h = .ok (.bl false) h := fun h => by rw [o.bot, ne_fr]; simp
  have np := Nat.two_pow_pos n
  have e1 : (x : Int) = ((2 ^ n : Nat) : Int) - 1 → ∀ h, cmpD .ne (fr (v x)) (fr 1) h = .ok (.bl false) h := fun hh h => by
    have : x = 2 ^ n - 1 := by omega
    rw [this, o.top, ne_fr]
    simp
  rw [run_eq ⟨rfl, by simp [p_is_let_at]⟩]
  by_cases c1 : (x : Int) = ((2 ^ n : Nat) : Int) - 1
  · have ct1 := eq_true c1
    have e1' := e1 c1
    have n2 := o.n2
    have p2 : 4 ≤ 2 ^ n := Nat.pow_le_pow_right (show 0 < 2 by decide) n2
    have c0 : ¬ x = 0 := by omega
    simp -implicitDefEqProofs [p_is_let_at, -Int.natCast_ediv, -Int.natCast_pow, -Int.natCast_emod, b_ok, on_ok, tru_bl, tru_int, tru_non, look_0, look_s, v_var, v_lit, v_glb, v_pow, v_neg, v_not, v_bin, v_cmp, v_chn, v_and, v_or, v_ife, v_tup, v_lst, v_cel, v_idx, v_slc, v_call, v_ck, v_blt, v_ex, v_mth, v_isi, v_isN, v_isnN, l_nil, l_cons, o_nil, o_cons, s_asg, s_par, s_exp, s_rtn, s_ite, s_nil, s_pas, s_seq, thn_nx, thn_rt, end_rt, end_nx, bind_nm, bind_tp, binds_nil, binds_cons, cond_nil, Lit.d, ret_ap, neg_int, bin_add, bin_sub, cmp_le, cmp_lt, cmp_gt, cmp_ge, cmp_eq, cmp_ne, idx_fr0, idx_fr1, blt_int, fin_bl, fin_int, fin_non, fin_fr, z, u, s2, ix, i0, s, ln, a, an, e0, e1', c0, ct1]
  · by_cases c0 : x = 0
    · have ct0 := eq_true c0
      simp -implicitDefEqProofs [p_is_let_at, -Int.natCast_ediv, -Int.natCast_pow, -Int.natCast_emod, b_ok, on_ok, tru_bl, tru_int, tru_non, look_0, look_s, v_var, v_lit, v_glb, v_pow, v_neg, v_not, v_bin, v_cmp, v_chn, v_and, v_or, v_ife, v_tup, v_lst, v_cel, v_idx, v_slc, v_call, v_ck, v_blt, v_ex, v_mth, v_isi, v_isN, v_isnN, l_nil, l_cons, o_nil, o_cons, s_asg, s_par, s_exp, s_rtn, s_ite, s_nil, s_pas, s_seq, thn_nx, thn_rt, end_rt, end_nx, bind_nm, bind_tp, binds_nil, binds_cons, cond_nil, Lit.d, ret_ap, neg_int, bin_add, bin_sub, cmp_le, cmp_lt, cmp_gt, cmp_ge, cmp_eq, cmp_ne, idx_fr0, idx_fr1, blt_int, fin_bl, fin_int, fin_non, fin_fr, z, u, s2, ix, i0, s, ln, a, an, e0, ct0, c1]
    · simp -implicitDefEqProofs [p_is_let_at, -Int.natCast_ediv, -Int.natCast_pow, -Int.natCast_emod, b_ok, on_ok, tru_bl, tru_int, tru_non, look_0, look_s, v_var, v_lit, v_glb, v_pow, v_neg, v_not, v_bin, v_cmp, v_chn, v_and, v_or, v_ife, v_tup, v_lst, v_cel, v_idx, v_slc, v_call, v_ck, v_blt, v_ex, v_mth, v_isi, v_isN, v_isnN, l_nil, l_cons, o_nil, o_cons, s_asg, s_par, s_exp, s_rtn, s_ite, s_nil, s_pas, s_seq, thn_nx, thn_rt, end_rt, end_nx, bind_nm, bind_tp, binds_nil, binds_cons, cond_nil, Lit.d, ret_ap, neg_int, bin_add, bin_sub, cmp_le, cmp_lt, cmp_gt, cmp_ge, cmp_eq, cmp_ne, idx_fr0, idx_fr1, blt_int, fin_bl, fin_int, fin_non, fin_fr, z, u, s2, ix, i0, s, ln, a, an, e0, c0, c1]
abbrev ChkBoundsAt (cf : Nat → List D → M D) (c : Nat) : Prop := ∀ (n : Nat) (v : Nat → Rat) h, OkV n v → cf c [vecD (2 ^ n) v] h = .ok .non h
theorem check_bounds_ok {c : Nat} (L : LetAt cf c) {h : MH} (o : OkV n v) : runFn cf (p_check_bounds c) [vecD (2 ^ n) v] h = .ok .non h := by
  have n5 := o.n5
  have p5 := pow5 n5
  have ln := fun h => len_vec (v := v) (N := 2 ^ n) (h := h)
  have si := fun h => siz_in (h := h) o.n2 n5
  have is : ∀ h, isiD .tuple (vecD (2 ^ n) v) h = .ok (.bl true) h := fun h => rfl
  obtain ⟨env', h', e, rfl, o1, rfl⟩ := for_rng (cf := cf) (t := .nm 1) (l := (.cons (.blt .len (.cons (.var 0) .nil)) .nil)) (b := (.seq (.ite (.not (.call c (.cons (.var 0) (.cons (.var 1) .nil)))) (.seq .rai
      .nil) .nil)
      .nil)) (env := [some (vecD (2 ^ n) v), none]) (h := h) (2 ^ n) (fun k env h' => h' = h ∧ ∃ o1, env = [some (vecD (2 ^ n) v), o1]) (le_SZ (by omega)) (by simp -implicitDefEqProofs [-Int.natCast_ediv, -Int.natCast_pow, -Int.natCast_emod, b_ok, on_ok, tru_bl, tru_int, tru_non, look_0, look_s, v_var, v_lit, v_glb, v_pow, v_neg, v_not, v_bin, v_cmp, v_chn, v_and, v_or, v_ife, v_tup, v_lst, v_cel, v_idx, v_slc, v_call, v_ck, v_blt, v_ex, v_mth, v_isi, v_isN, v_isnN, l_nil, l_cons, o_nil, o_cons, s_asg, s_par, s_exp, s_rtn, s_ite, s_nil, s_pas, s_seq, thn_nx, thn_rt, end_rt, end_nx, bind_nm, bind_tp, binds_nil, binds_cons, cond_nil, Lit.d, ret_ap, neg_int, bin_add, bin_sub, cmp_le, cmp_lt, cmp_gt, cmp_ge, cmp_eq, cmp_ne, idx_fr0, idx_fr1, blt_int, fin_bl, fin_int, fin_non, fin_fr, ln]) (fun k env h' hk i => by
    obtain ⟨rfl, o1, rfl⟩ := i
    have l := fun h => L n v k h o hk
    refine ⟨_, [some (vecD (2 ^ n) v), oI k], _, rfl, ?_, rfl, _, rfl⟩
    simp -implicitDefEqProofs [-Int.natCast_ediv, -Int.natCast_pow, -Int.natCast_emod, b_ok, on_ok, tru_bl, tru_int, tru_non, look_0, look_s, v_var, v_lit, v_glb, v_pow, v_neg, v_not, v_bin, v_cmp, v_chn, v_and, v_or, v_ife, v_tup, v_lst, v_cel, v_idx, v_slc, v_call, v_ck, v_blt, v_ex, v_mth, v_isi, v_isN, v_isnN, l_nil, l_cons, o_nil, o_cons, s_asg, s_par, s_exp, s_rtn, s_ite, s_nil, s_pas, s_seq, thn_nx, thn_rt, end_rt, end_nx, bind_nm, bind_tp, binds_nil, binds_cons, cond_nil, Lit.d, ret_ap, neg_int, bin_add, bin_sub, cmp_le, cmp_lt, cmp_gt, cmp_ge, cmp_eq, cmp_ne, idx_fr0, idx_fr1, blt_int, fin_bl, fin_int, fin_non, fin_fr, l]) ⟨rfl, none, rfl⟩
  rw [run_eq ⟨rfl, by simp [p_check_bounds]⟩]
  simp -implicitDefEqProofs [p_check_bounds, -Int.natCast_ediv, -Int.natCast_pow, -Int.natCast_emod, b_ok, on_ok, tru_bl, tru_int, tru_non, look_0, look_s, v_var, v_lit, v_glb, v_pow, v_neg, v_not, v_bin, v_cmp, v_chn, v_and, v_or, v_ife, v_tup, v_lst, v_cel, v_idx, v_slc, v_call, v_ck, v_blt, v_ex, v_mth, v_isi, v_isN, v_isnN, l_nil, l_cons, o_nil, o_cons, s_asg, s_par, s_exp, s_rtn, s_ite, s_nil, s_pas, s_seq, thn_nx, thn_rt, end_rt, end_nx, bind_nm, bind_tp, binds_nil, binds_cons, cond_nil, Lit.d, ret_ap, neg_int, bin_add, bin_sub, cmp_le, cmp_lt, cmp_gt, cmp_ge, cmp_eq, cmp_ne, idx_fr0, idx_fr1, blt_int, fin_bl, fin_int, fin_non, fin_fr, is, ln, si, e]
/-! ### numbers -/
/-- behind p steps -/
def mob (v : Nat → Rat) : Nat → Nat → Rat
  | 0, x => v x
  | p + 1, x => if x / 2 ^ p % 2 == 1 then mob v p x - mob v p (x - 2 ^ p) else mob v p x
theorem mob_sz (o : OkV n v) : ∀ (p x : Nat), x < 2 ^ n → Sz (21 * 2 ^ p - 1) (mob v p x)
  | 0, x, hx => o.sz hx
  | p + 1, x, hx => by
    have h1 := mob_sz o p x hx
    have h2 := mob_sz o p (x - 2 ^ p) (Nat.lt_of_le_of_lt (Nat.sub_le _ _) hx)
    have np := Nat.two_pow_pos p
    have e : 2 ^ (p + 1) = 2 * 2 ^ p := by rw [Nat.pow_succ]; omega
    simp only [mob]
    split
    · exact (h1.sub h2).mono (by omega)
    · exact h1.mono (by omega)
theorem mob_big (o : OkV n v) {p x : Nat} (hp : p ≤ 5) (hx : x < 2 ^ n) : Sz 1900 (mob v p x) := by
  refine (mob_sz o p x hx).mono ?_
  have := Nat.pow_le_pow_right (show 0 < 2 by decide) hp
  omega
abbrev lvecD (N : Nat) (v : Nat → Rat) : D := .lst ((List.range N).map fun x => fr (v x))
theorem idx_lvec {N x : Nat} {h : MH} (hx : x < N) : idxD (lvecD N v) (.int (x : Int)) h = .ok (fr (v x)) h := by
  have h1 : ((x : Int) < (N : Int)) := by omega
  simp [idxD, items, lItems, L2.atI, L2.ixN, hx]
abbrev NumbersAt (cf : Nat → List D → M D) (c : Nat) : Prop := ∀ (n : Nat) (v : Nat → Rat) h, OkV n v → cf c [vecD (2 ^ n) v] h = .ok (lvecD (2 ^ n) (mob v n)) h
theorem numbers_by_ok {c d : Nat} (B : BitAt cf c) (M : MinusAt cf d) {h : MH} (o : OkV n v) : runFn cf (p_numbers_by c d) [vecD (2 ^ n) v] h = .ok (lvecD (2 ^ n) (mob v n)) h := by
  have n5 := o.n5
  have p5 := pow5 n5
  have ln := fun h => len_vec (v := v) (N := 2 ^ n) (h := h)
  have sz := fun h => siz_idx (h := h) o.n2 n5
  obtain ⟨env', h', e, rfl, o2, o3, rfl⟩ := for_rng (cf := cf) (t := .nm 2) (l := (.cons (.idx (.glb "SIZES" (.cd [(4, 2), (8, 3), (16, 4), (32, 5)])) (.blt .len (.cons (.var 0) .nil))) .nil)) (b := (.seq (.asg (.nm 3) (.call c (.cons (.var 2) .nil)))
      (.seq (.asg (.nm 1) (.lc [4, 5] (.ife (.cmp .eq (.bin .mod (.bin .fdv (.var 4) (.var 3)) (.lit (.int 2))) (.lit (.int 1))) (.call d (.cons (.var 5) (.cons (.idx (.var 1) (.bin .sub (.var 4) (.var 3))) .nil))) (.var 5)) (.tp (.cons (.nm 4) (.cons (.nm 5) .nil))) .enum (.cons (.var 1) .nil) .nil))
      .nil))) (env := [some (vecD (2 ^ n) v), some (lvecD (2 ^ n) v), none, none, none, none]) (h := h) n (fun p env h' => h' = h ∧ ∃ o2 o3, env = [some (vecD (2 ^ n) v), some (lvecD (2 ^ n) (mob v p)), o2, o3, none, none]) (le_SZ (by omega)) (by simp -implicitDefEqProofs [-Int.natCast_ediv, -Int.natCast_pow, -Int.natCast_emod, b_ok, on_ok, tru_bl, tru_int, tru_non, look_0, look_s, v_var, v_lit, v_glb, v_pow, v_neg, v_not, v_bin, v_cmp, v_chn, v_and, v_or, v_ife, v_tup, v_lst, v_cel, v_idx, v_slc, v_call, v_ck, v_blt, v_ex, v_mth, v_isi, v_isN, v_isnN, l_nil, l_cons, o_nil, o_cons, s_asg, s_par, s_exp, s_rtn, s_ite, s_nil, s_pas, s_seq, thn_nx, thn_rt, end_rt, end_nx, bind_nm, bind_tp, binds_nil, binds_cons, cond_nil, Lit.d, ret_ap, neg_int, bin_add, bin_sub, cmp_le, cmp_lt, cmp_gt, cmp_ge, cmp_eq, cmp_ne, idx_fr0, idx_fr1, blt_int, fin_bl, fin_int, fin_non, fin_fr, ln, sz]) (fun p env h' hp i => by
    obtain ⟨rfl, o2, o3, rfl⟩ := i
    have b := fun h => B p h (by omega)
    have a := lc_enm (cf := cf) (own := [4, 5]) (elt := (.ife (.cmp .eq (.bin .mod (.bin .fdv (.var 4) (.var 3)) (.lit (.int 2))) (.lit (.int 1))) (.call d (.cons (.var 5) (.cons (.idx (.var 1) (.bin .sub (.var 4) (.var 3))) .nil))) (.var 5))) (t := (.tp (.cons (.nm 4) (.cons (.nm 5) .nil)))) (l := .cons (.var 1) .nil) (c := .nil) (env := [some (vecD (2 ^ n) v), some (lvecD (2 ^ n) (mob v p)), oI p, oI (pw p), none, none]) (h := h') (2 ^ n) (fun x => fr (mob v p x)) (fun _ => true) (fun x => fr (mob v (p + 1) x)) (le_SZ (by omega)) (.inr (by simp -implicitDefEqProofs [-Int.natCast_ediv, -Int.natCast_pow, -Int.natCast_emod, b_ok, on_ok, tru_bl, tru_int, tru_non, look_0, look_s, v_var, v_lit, v_glb, v_pow, v_neg, v_not, v_bin, v_cmp, v_chn, v_and, v_or, v_ife, v_tup, v_lst, v_cel, v_idx, v_slc, v_call, v_ck, v_blt, v_ex, v_mth, v_isi, v_isN, v_isnN, l_nil, l_cons, o_nil, o_cons, s_asg, s_par, s_exp, s_rtn, s_ite, s_nil, s_pas, s_seq, thn_nx, thn_rt, end_rt, end_nx, bind_nm, bind_tp, binds_nil, binds_cons, cond_nil, Lit.d, ret_ap, neg_int, bin_add, bin_sub, cmp_le, cmp_lt, cmp_gt, cmp_ge, cmp_eq, cmp_ne, idx_fr0, idx_fr1, blt_int, fin_bl, fin_int, fin_non, fin_fr])) (fun x hx => by
      have f := fun h => fdv_pw (x := x) (k := p) (h := h) (by omega)
      refine ⟨_, rfl, rfl, fun _ => ?_⟩
      by_cases hb : x / 2 ^ p % 2 = 1
      · have hle := bit_le n (by omega) p hp x hx hb
        have hl : x - 2 ^ p < 2 ^ n := Nat.lt_of_le_of_lt (Nat.sub_le _ _) hx
        have i2 : ∀ h, idxD (lvecD (2 ^ n) (mob v p)) (.int ((x : Int) - pw p)) h = .ok (fr (mob v p (x - 2 ^ p))) h := fun h => by
          have : (x : Int) - pw p = ((x - 2 ^ p : Nat) : Int) := by unfold pw; omega
          rw [this]
          exact idx_lvec hl
        have m := fun h => M _ _ h (mob_big o (p := p) (by omega) hx) (mob_big o (p := p) (by omega) hl)
        have em : mob v (p + 1) x = mob v p x - mob v p (x - 2 ^ p) := by simp [mob, hb]
        rw [em]
        simp -implicitDefEqProofs [-Int.natCast_ediv, -Int.natCast_pow, -Int.natCast_emod, b_ok, on_ok, tru_bl, tru_int, tru_non, look_0, look_s, v_var, v_lit, v_glb, v_pow, v_neg, v_not, v_bin, v_cmp, v_chn, v_and, v_or, v_ife, v_tup, v_lst, v_cel, v_idx, v_slc, v_call, v_ck, v_blt, v_ex, v_mth, v_isi, v_isN, v_isnN, l_nil, l_cons, o_nil, o_cons, s_asg, s_par, s_exp, s_rtn, s_ite, s_nil, s_pas, s_seq, thn_nx, thn_rt, end_rt, end_nx, bind_nm, bind_tp, binds_nil, binds_cons, cond_nil, Lit.d, ret_ap, neg_int, bin_add, bin_sub, cmp_le, cmp_lt, cmp_gt, cmp_ge, cmp_eq, cmp_ne, idx_fr0, idx_fr1, blt_int, fin_bl, fin_int, fin_non, fin_fr, wipeE, f, mod2, dec1, hb, i2, m]
      · have em : mob v (p + 1) x = mob v p x := by simp [mob, hb]
        rw [em]
        simp -implicitDefEqProofs [-Int.natCast_ediv, -Int.natCast_pow, -Int.natCast_emod, b_ok, on_ok, tru_bl, tru_int, tru_non, look_0, look_s, v_var, v_lit, v_glb, v_pow, v_neg, v_not, v_bin, v_cmp, v_chn, v_and, v_or, v_ife, v_tup, v_lst, v_cel, v_idx, v_slc, v_call, v_ck, v_blt, v_ex, v_mth, v_isi, v_isN, v_isnN, l_nil, l_cons, o_nil, o_cons, s_asg, s_par, s_exp, s_rtn, s_ite, s_nil, s_pas, s_seq, thn_nx, thn_rt, end_rt, end_nx, bind_nm, bind_tp, binds_nil, binds_cons, cond_nil, Lit.d, ret_ap, neg_int, bin_add, bin_sub, cmp_le, cmp_lt, cmp_gt, cmp_ge, cmp_eq, cmp_ne, idx_fr0, idx_fr1, blt_int, fin_bl, fin_int, fin_non, fin_fr, wipeE, f, mod2, dec1, hb])
    rw [filter_tt] at a
    refine ⟨_, [some (vecD (2 ^ n) v), some (lvecD (2 ^ n) (mob v (p + 1))), oI p, oI (pw p), none, none], _, rfl, ?_, rfl, _, _, rfl⟩
    simp -implicitDefEqProofs [-Int.natCast_ediv, -Int.natCast_pow, -Int.natCast_emod, b_ok, on_ok, tru_bl, tru_int, tru_non, look_0, look_s, v_var, v_lit, v_glb, v_pow, v_neg, v_not, v_bin, v_cmp, v_chn, v_and, v_or, v_ife, v_tup, v_lst, v_cel, v_idx, v_slc, v_call, v_ck, v_blt, v_ex, v_mth, v_isi, v_isN, v_isnN, l_nil, l_cons, o_nil, o_cons, s_asg, s_par, s_exp, s_rtn, s_ite, s_nil, s_pas, s_seq, thn_nx, thn_rt, end_rt, end_nx, bind_nm, bind_tp, binds_nil, binds_cons, cond_nil, Lit.d, ret_ap, neg_int, bin_add, bin_sub, cmp_le, cmp_lt, cmp_gt, cmp_ge, cmp_eq, cmp_ne, idx_fr0, idx_fr1, blt_int, fin_bl, fin_int, fin_non, fin_fr, b, a]) ⟨rfl, none, none, rfl⟩
  have lv : ∀ h, bltD .list [vecD (2 ^ n) v] h = .ok (lvecD (2 ^ n) v) h := fun h => rfl
  rw [run_eq ⟨rfl, by simp [p_numbers_by]⟩]
  simp -implicitDefEqProofs [p_numbers_by, -Int.natCast_ediv, -Int.natCast_pow, -Int.natCast_emod, b_ok, on_ok, tru_bl, tru_int, tru_non, look_0, look_s, v_var, v_lit, v_glb, v_pow, v_neg, v_not, v_bin, v_cmp, v_chn, v_and, v_or, v_ife, v_tup, v_lst, v_cel, v_idx, v_slc, v_call, v_ck, v_blt, v_ex, v_mth, v_isi, v_isN, v_isnN, l_nil, l_cons, o_nil, o_cons, s_asg, s_par, s_exp, s_rtn, s_ite, s_nil, s_pas, s_seq, thn_nx, thn_rt, end_rt, end_nx, bind_nm, bind_tp, binds_nil, binds_cons, cond_nil, Lit.d, ret_ap, neg_int, bin_add, bin_sub, cmp_le, cmp_lt, cmp_gt, cmp_ge, cmp_eq, cmp_ne, idx_fr0, idx_fr1, blt_int, fin_bl, fin_int, fin_non, fin_fr, lv, e]
  exact fin_lst plains_vec
abbrev NumbersOfAt (cf : Nat → List D → M D) (c : Nat) : Prop := ∀ (n : Nat) (v : Nat → Rat) h, OkV n v → cf c [vecD (2 ^ n) v] h = .ok (vecD (2 ^ n) (mob v n)) h
theorem numbers_of_ok {c d : Nat} (C : ChkBoundsAt cf c) (N : NumbersAt cf d) {h : MH} (o : OkV n v) : runFn cf (p_numbers_of c d) [vecD (2 ^ n) v] h = .ok (vecD (2 ^ n) (mob v n)) h := by
  have a := fun h => C n v h o
  have b := fun h => N n v h o
  rw [run_eq ⟨rfl, by simp [p_numbers_of]⟩]
  simp -implicitDefEqProofs [p_numbers_of, -Int.natCast_ediv, -Int.natCast_pow, -Int.natCast_emod, b_ok, on_ok, tru_bl, tru_int, tru_non, look_0, look_s, v_var, v_lit, v_glb, v_pow, v_neg, v_not, v_bin, v_cmp, v_chn, v_and, v_or, v_ife, v_tup, v_lst, v_cel, v_idx, v_slc, v_call, v_ck, v_blt, v_ex, v_mth, v_isi, v_isN, v_isnN, l_nil, l_cons, o_nil, o_cons, s_asg, s_par, s_exp, s_rtn, s_ite, s_nil, s_pas, s_seq, thn_nx, thn_rt, end_rt, end_nx, bind_nm, bind_tp, binds_nil, binds_cons, cond_nil, Lit.d, ret_ap, neg_int, bin_add, bin_sub, cmp_le, cmp_lt, cmp_gt, cmp_ge, cmp_eq, cmp_ne, idx_fr0, idx_fr1, blt_int, fin_bl, fin_int, fin_non, fin_fr, a, b, tuple_lst]
  exact fin_vec
end
end Mn

set_option maxHeartbeats 4000000
/-! Mn: what the defs do: the masses of which bounds come, gathering. -/
namespace Mn
section
variable {cf : Nat → List D → M D} {n : Nat} {v : Nat → Rat} {ms : List (Nat × Rat)}
theorem lt_of_asc (o : OkM n ms) {a b : Nat × Rat} (ha : a ∈ ms) (h : lotLt n a.1 b.1 = true) : a.1 ≠ b.1 := fun e => by
  have n5 := o.n5
  rw [← e, lt_irr n (by omega) a.1 (o.lots a ha).2] at h
  cases h
theorem OkM.nodupF (o : OkM n ms) : (ms.map (·.1)).Nodup := by
  rw [List.Nodup, List.pairwise_map]
  refine List.Pairwise.imp_of_mem (fun {a b} ha hb h => ?_) o.asc
  exact lt_of_asc o ha h
theorem OkM.nodup (o : OkM n ms) : ms.Nodup := by
  refine List.Pairwise.imp_of_mem (fun {a b} ha hb h => ?_) o.asc
  exact fun e => lt_of_asc o ha h (by rw [e])
theorem perm_ms (o : OkM n ms) (N : Nat → Rat) (hN : ∀ x < 2 ^ n, N x = ws ms fun y => decide (y = x)) : (((List.range (2 ^ n)).filter fun x => decide (0 < (N x).num)).map fun x => (x, N x)).Perm ms := by
  refine (List.perm_ext_iff_of_nodup ?_ o.nodup).mpr fun a => ?_
  · rw [List.Nodup, List.pairwise_map]
    refine List.Pairwise.filter _ ?_
    refine List.Pairwise.imp (fun {a b} h => ?_) List.pairwise_lt_range
    intro e
    injection e with e _
    omega
  · rw [List.mem_map]
    constructor
    · rintro ⟨x, hx, rfl⟩
      obtain ⟨h1, h2⟩ := List.mem_filter.mp hx
      have h1 : x < 2 ^ n := by simpa using h1
      have h2 : 0 < (N x).num := by simpa using h2
      by_cases hz : ∃ q, (x, q) ∈ ms
      · obtain ⟨q, hq⟩ := hz
        have := ws_single o.nodupF hq
        rw [hN x h1, this]
        exact hq
      · have : N x = 0 := by
          rw [hN x h1]
          exact ws_none fun m hm => decide_eq_false fun e => hz ⟨m.2, by rw [← e]; exact hm⟩
        rw [this] at h2
        simp at h2
    · intro ha
      obtain ⟨x, q⟩ := a
      have hx := (o.lots _ ha).2
      have := ws_single o.nodupF ha
      refine ⟨x, List.mem_filter.mpr ⟨by simpa using hx, ?_⟩, ?_⟩
      · rw [hN x hx, this]
        exact decide_eq_true (num_pos (o.pos _ ha))
      · rw [hN x hx, this]
theorem sk_tI {ks : List Nat} : skE (tI ks) = ks.map fun k : Nat => (k : Int) := by
  simp [skE, tI, ints_map]
theorem lt_mass (o : OkM n ms) {a b : Nat × Rat} (ha : a ∈ ms) (hb : b ∈ ms) (h : lotLt n a.1 b.1 = true) : ltD (massD n b) (massD n a) = false := by
  have n5 := o.n5
  have ne : lotI n b.1 ≠ lotI n a.1 := fun e => by
    have h2 := lt_irr n (by omega) a.1 (o.lots a ha).2
    unfold lotLt at h h2
    rw [e, h2] at h
    cases h
  have as := lexLt_asym _ _ h
  show lex2 [skE (lotD n b.1), skE (fr b.2)] [skE (lotD n a.1), skE (fr a.2)] = false
  rw [sk_tI, sk_tI]
  show (if lotI n b.1 = lotI n a.1 then _ else HT.lexLt (lotI n b.1) (lotI n a.1)) = false
  rw [if_neg ne]
  exact as
theorem ti_ok {ks : List Nat} : isTI (tI ks) = true := by simp [isTI, tI, ints_map]
theorem tt_ok {m : Nat × Rat} : okTT (massD n m) = true := by
  show (isTI (lotD n m.1) && (isTI (fr m.2) && true)) = true
  rw [ti_ok]
  rfl
theorem srt_ok (o : OkM n ms) {l : List (Nat × Rat)} (hp : l.Perm ms) {h : MH} : xop .srt [.lst (l.map (massD n))] h = .ok (.lst (ms.map (massD n))) h := by
  have : srtO (l.map (massD n)) = some (ms.map (massD n)) := srtO_of (by
    have : (l.map (massD n)).all okTT = true := by
      rw [List.all_eq_true]
      intro x hx
      obtain ⟨m, _, rfl⟩ := List.mem_map.mp hx
      exact tt_ok
    rw [this, Bool.or_true]) (hp.symm.map _) (by
    rw [Asc, List.pairwise_map]
    exact List.Pairwise.imp_of_mem (fun {a b} ha hb h => lt_mass o ha hb h) o.asc)
  simp [xop, sItems, this]
abbrev MassesByAt (cf : Nat → List D → M D) (c : Nat) : Prop := ∀ (n : Nat) (v : Nat → Rat) (ms : List (Nat × Rat)) h, OkV n v → OkM n ms → (∀ x < 2 ^ n, mob v n x = ws ms fun y => decide (y = x)) → cf c [vecD (2 ^ n) v] h = .ok (massesD n ms) h
theorem plain_mass {m : Nat × Rat} : plain (massD n m) = true := by
  show (plain (lotD n m.1) && (plain (fr m.2) && true)) = true
  rw [plain_tI]
  rfl
theorem fin_masses {h : MH} : fin false h.length (massesD n ms) h = .ok (massesD n ms) h := fin_tup (plains_map fun _ _ => plain_mass)
theorem masses_by_ok {c d : Nat} (N : NumbersAt cf c) (L : LotOfAt cf d) {h : MH} (o : OkV n v) (om : OkM n ms) (hm : ∀ x < 2 ^ n, mob v n x = ws ms fun y => decide (y = x)) : runFn cf (p_masses_by c d) [vecD (2 ^ n) v] h = .ok (massesD n ms) h := by
  have n5 := o.n5
  have p5 := pow5 n5
  have ln := fun h => len_vec (v := v) (N := 2 ^ n) (h := h)
  have sz := fun h => siz_idx (h := h) o.n2 n5
  have a1 := fun h => N n v h o
  have a2 := lc_seq' (cf := cf) (own := [2]) (elt := .cmp .lt (.idx (.var 2) (.lit (.int 0))) (.lit (.int 0))) (t := .nm 2) (l := .cons (.var 1) .nil) (env := [some (vecD (2 ^ n) v), some (lvecD (2 ^ n) (mob v n)), none, none, none]) (h := h) (List.range (2 ^ n)) (fun x => fr (mob v n x)) (fun _ => .bl false) (by rw [List.length_range]; exact le_SZ (by omega)) (.inr (by simp -implicitDefEqProofs [-Int.natCast_ediv, -Int.natCast_pow, -Int.natCast_emod, b_ok, on_ok, tru_bl, tru_int, tru_non, look_0, look_s, v_var, v_lit, v_glb, v_pow, v_neg, v_not, v_bin, v_cmp, v_chn, v_and, v_or, v_ife, v_tup, v_lst, v_cel, v_idx, v_slc, v_call, v_ck, v_blt, v_ex, v_mth, v_isi, v_isN, v_isnN, l_nil, l_cons, o_nil, o_cons, s_asg, s_par, s_exp, s_rtn, s_ite, s_nil, s_pas, s_seq, thn_nx, thn_rt, end_rt, end_nx, bind_nm, bind_tp, binds_nil, binds_cons, cond_nil, Lit.d, ret_ap, neg_int, bin_add, bin_sub, cmp_le, cmp_lt, cmp_gt, cmp_ge, cmp_eq, cmp_ne, idx_fr0, idx_fr1, blt_int, fin_bl, fin_int, fin_non, fin_fr])) (fun x hx => by
    have hx : x < 2 ^ n := by simpa using hx
    have h0 : 0 ≤ mob v n x := by
      rw [hm x hx]
      exact ws_nonneg om.nonneg
    have h1 : ¬ (mob v n x).num < 0 := by
      have := Rat.num_nonneg.mpr h0
      omega
    refine ⟨_, rfl, ?_⟩
    simp -implicitDefEqProofs [-Int.natCast_ediv, -Int.natCast_pow, -Int.natCast_emod, b_ok, on_ok, tru_bl, tru_int, tru_non, look_0, look_s, v_var, v_lit, v_glb, v_pow, v_neg, v_not, v_bin, v_cmp, v_chn, v_and, v_or, v_ife, v_tup, v_lst, v_cel, v_idx, v_slc, v_call, v_ck, v_blt, v_ex, v_mth, v_isi, v_isN, v_isnN, l_nil, l_cons, o_nil, o_cons, s_asg, s_par, s_exp, s_rtn, s_ite, s_nil, s_pas, s_seq, thn_nx, thn_rt, end_rt, end_nx, bind_nm, bind_tp, binds_nil, binds_cons, cond_nil, Lit.d, ret_ap, neg_int, bin_add, bin_sub, cmp_le, cmp_lt, cmp_gt, cmp_ge, cmp_eq, cmp_ne, idx_fr0, idx_fr1, blt_int, fin_bl, fin_int, fin_non, fin_fr, wipeE, h1])
  have an : ∀ h, bltD .any [.lst ((List.range (2 ^ n)).map fun _ => .bl false)] h = .ok (.bl false) h := fun h => by
    rw [any_lst (p := fun _ => false)]
    simp
  have a3 := lc_enm (cf := cf) (own := [4, 2]) (elt := (.tup (.cons (.call d (.cons (.var 4) (.cons (.var 3) .nil))) (.cons (.var 2) .nil)))) (t := (.tp (.cons (.nm 4) (.cons (.nm 2) .nil)))) (l := .cons (.var 1) .nil) (c := .cmp .gt (.idx (.var 2) (.lit (.int 0))) (.lit (.int 0))) (env := [some (vecD (2 ^ n) v), some (lvecD (2 ^ n) (mob v n)), none, oI n, none]) (h := h) (2 ^ n) (fun x => fr (mob v n x)) (fun x => decide (0 < (mob v n x).num)) (fun x => massD n (x, mob v n x)) (le_SZ (by omega)) (.inr (by simp -implicitDefEqProofs [-Int.natCast_ediv, -Int.natCast_pow, -Int.natCast_emod, b_ok, on_ok, tru_bl, tru_int, tru_non, look_0, look_s, v_var, v_lit, v_glb, v_pow, v_neg, v_not, v_bin, v_cmp, v_chn, v_and, v_or, v_ife, v_tup, v_lst, v_cel, v_idx, v_slc, v_call, v_ck, v_blt, v_ex, v_mth, v_isi, v_isN, v_isnN, l_nil, l_cons, o_nil, o_cons, s_asg, s_par, s_exp, s_rtn, s_ite, s_nil, s_pas, s_seq, thn_nx, thn_rt, end_rt, end_nx, bind_nm, bind_tp, binds_nil, binds_cons, cond_nil, Lit.d, ret_ap, neg_int, bin_add, bin_sub, cmp_le, cmp_lt, cmp_gt, cmp_ge, cmp_eq, cmp_ne, idx_fr0, idx_fr1, blt_int, fin_bl, fin_int, fin_non, fin_fr])) (fun x hx => by
    have l := fun h => L x n h (by omega)
    have s2 : 2 ≤ SZ := by decide
    refine ⟨_, rfl, ?_, fun _ => ?_⟩
    · rw [cond_of (by simp)]
      simp -implicitDefEqProofs [-Int.natCast_ediv, -Int.natCast_pow, -Int.natCast_emod, b_ok, on_ok, tru_bl, tru_int, tru_non, look_0, look_s, v_var, v_lit, v_glb, v_pow, v_neg, v_not, v_bin, v_cmp, v_chn, v_and, v_or, v_ife, v_tup, v_lst, v_cel, v_idx, v_slc, v_call, v_ck, v_blt, v_ex, v_mth, v_isi, v_isN, v_isnN, l_nil, l_cons, o_nil, o_cons, s_asg, s_par, s_exp, s_rtn, s_ite, s_nil, s_pas, s_seq, thn_nx, thn_rt, end_rt, end_nx, bind_nm, bind_tp, binds_nil, binds_cons, cond_nil, Lit.d, ret_ap, neg_int, bin_add, bin_sub, cmp_le, cmp_lt, cmp_gt, cmp_ge, cmp_eq, cmp_ne, idx_fr0, idx_fr1, blt_int, fin_bl, fin_int, fin_non, fin_fr, wipeE]
    · simp -implicitDefEqProofs [-Int.natCast_ediv, -Int.natCast_pow, -Int.natCast_emod, b_ok, on_ok, tru_bl, tru_int, tru_non, look_0, look_s, v_var, v_lit, v_glb, v_pow, v_neg, v_not, v_bin, v_cmp, v_chn, v_and, v_or, v_ife, v_tup, v_lst, v_cel, v_idx, v_slc, v_call, v_ck, v_blt, v_ex, v_mth, v_isi, v_isN, v_isnN, l_nil, l_cons, o_nil, o_cons, s_asg, s_par, s_exp, s_rtn, s_ite, s_nil, s_pas, s_seq, thn_nx, thn_rt, end_rt, end_nx, bind_nm, bind_tp, binds_nil, binds_cons, cond_nil, Lit.d, ret_ap, neg_int, bin_add, bin_sub, cmp_le, cmp_lt, cmp_gt, cmp_ge, cmp_eq, cmp_ne, idx_fr0, idx_fr1, blt_int, fin_bl, fin_int, fin_non, fin_fr, wipeE, l, s2, massD])
  have a4 := srt_ok om (perm_ms om (mob v n) hm) (h := h)
  rw [List.map_map] at a4
  have a5 : xop .srt [.lst (((List.range (2 ^ n)).filter fun x => decide (0 < (mob v n x).num)).map fun x => massD n (x, mob v n x))] h = .ok (.lst (ms.map (massD n))) h := a4
  rw [run_eq ⟨rfl, by simp [p_masses_by]⟩]
  simp -implicitDefEqProofs [p_masses_by, -Int.natCast_ediv, -Int.natCast_pow, -Int.natCast_emod, b_ok, on_ok, tru_bl, tru_int, tru_non, look_0, look_s, v_var, v_lit, v_glb, v_pow, v_neg, v_not, v_bin, v_cmp, v_chn, v_and, v_or, v_ife, v_tup, v_lst, v_cel, v_idx, v_slc, v_call, v_ck, v_blt, v_ex, v_mth, v_isi, v_isN, v_isnN, l_nil, l_cons, o_nil, o_cons, s_asg, s_par, s_exp, s_rtn, s_ite, s_nil, s_pas, s_seq, thn_nx, thn_rt, end_rt, end_nx, bind_nm, bind_tp, binds_nil, binds_cons, cond_nil, Lit.d, ret_ap, neg_int, bin_add, bin_sub, cmp_le, cmp_lt, cmp_gt, cmp_ge, cmp_eq, cmp_ne, idx_fr0, idx_fr1, blt_int, fin_bl, fin_int, fin_non, fin_fr, a1, a2, an, ln, sz, a3, a5, tuple_lst]
  exact fin_masses
abbrev MassesOfAt (cf : Nat → List D → M D) (c : Nat) : Prop := ∀ (n : Nat) (v : Nat → Rat) (ms : List (Nat × Rat)) h, OkV n v → OkM n ms → (∀ x < 2 ^ n, mob v n x = ws ms fun y => decide (y = x)) → cf c [vecD (2 ^ n) v] h = .ok (massesD n ms) h
theorem masses_of_ok {c d : Nat} (C : ChkBoundsAt cf c) (B : MassesByAt cf d) {h : MH} (o : OkV n v) (om : OkM n ms) (hm : ∀ x < 2 ^ n, mob v n x = ws ms fun y => decide (y = x)) : runFn cf (p_masses_of c d) [vecD (2 ^ n) v] h = .ok (massesD n ms) h := by
  have a := fun h => C n v h o
  have b := fun h => B n v ms h o om hm
  rw [run_eq ⟨rfl, by simp [p_masses_of]⟩]
  simp -implicitDefEqProofs [p_masses_of, -Int.natCast_ediv, -Int.natCast_pow, -Int.natCast_emod, b_ok, on_ok, tru_bl, tru_int, tru_non, look_0, look_s, v_var, v_lit, v_glb, v_pow, v_neg, v_not, v_bin, v_cmp, v_chn, v_and, v_or, v_ife, v_tup, v_lst, v_cel, v_idx, v_slc, v_call, v_ck, v_blt, v_ex, v_mth, v_isi, v_isN, v_isnN, l_nil, l_cons, o_nil, o_cons, s_asg, s_par, s_exp, s_rtn, s_ite, s_nil, s_pas, s_seq, thn_nx, thn_rt, end_rt, end_nx, bind_nm, bind_tp, binds_nil, binds_cons, cond_nil, Lit.d, ret_ap, neg_int, bin_add, bin_sub, cmp_le, cmp_lt, cmp_gt, cmp_ge, cmp_eq, cmp_ne, idx_fr0, idx_fr1, blt_int, fin_bl, fin_int, fin_non, fin_fr, a, b]
  exact fin_masses
/-! ### gathering -/
theorem and_step : ∀ x < 32, ∀ y < 32, ∀ j < 6, (x &&& y) % 2 ^ (j + 1) = (x &&& y) % 2 ^ j + (if x / 2 ^ j % 2 = 1 ∧ y / 2 ^ j % 2 = 1 then 2 ^ j else 0) := by decide +kernel
theorem and_end : ∀ x < 32, ∀ y < 32, ∀ j < 7, x < 2 ^ j → (x &&& y) % 2 ^ j = (x &&& y) := by decide +kernel
theorem s_aug {i : Nat} {o : BO} {e : E} {env : Env} {h : MH} : exS cf (.aug i o e) env h = (match env[i]? with
    | some (some x) => R.on env (ev cf e env h) fun y h => R.on env (augD o x y h) fun z h => .ok (.nx (env.set i (some z))) h
    | _ => .bad) := by rw [exS]; rfl
theorem aug_add {i j : Int} {h : MH} : augD .add (.int i) (.int j) h = .ok (.int (i + j)) h := rfl
theorem s_whl {c : E} {b : S} {env : Env} {h : MH} : exS cf (.whl c b) env h = whlN (fun env => bnd (ev cf c env) trM) (exS cf b) TURNS env h := by rw [exS]
theorem whl_tt {c : Env → M Bool} {body : Env → M Fl} {m : Nat} {env e1 : Env} {h h1 : MH} (hc : c env h = .ok true h) (hb : body env h = .ok (.nx e1) h1) : whlN c body (m + 1) env h = whlN c body m e1 h1 := by
  rw [whlN]
  simp only [onE, hc, if_true, hb]
abbrev bothC : E := .cmp .le (.var 3) (.var 0)
abbrev bothB : S := (.seq (.ite (.and (.cmp .eq (.bin .mod (.bin .fdv (.var 0) (.var 3)) (.lit (.int 2))) (.lit (.int 1))) (.cmp .eq (.bin .mod (.bin .fdv (.var 1) (.var 3)) (.lit (.int 2))) (.lit (.int 1)))) (.seq (.aug 2 .add (.var 3))
      .nil) .nil)
      (.seq (.asg (.nm 3) (.bin .mul (.lit (.int 2)) (.var 3)))
      .nil))
theorem mul2 {j : Nat} {h : MH} (hj : j ≤ 100) : binD .mul (.int 2) (.int (pw j)) h = .ok (.int (pw (j + 1))) h := by
  rw [bin_mul (by decide) (pw_le (by omega)), pw_succ]
theorem both_loop {x y : Nat} (hx : x < 32) (hy : y < 32) {h : MH} : ∀ (d j m : Nat), j + d = 6 → d < m → ∃ J, whlN (fun env => bnd (ev cf bothC env) trM) (exS cf bothB) m [oI x, oI y, oI (((x &&& y) % 2 ^ j : Nat) : Int), oI (pw j)] h = .ok (.nx [oI x, oI y, oI ((x &&& y : Nat) : Int), oI (pw J)]) h := by
  intro d
  induction d with
  | zero =>
    intro j m e hm
    obtain ⟨m, rfl⟩ : ∃ k, m = k + 1 := ⟨m - 1, by omega⟩
    have hj : x < 2 ^ j := by
      have : j = 6 := by omega
      subst this
      exact Nat.lt_trans hx (by decide)
    have hle : ¬ pw j ≤ (x : Int) := by unfold pw; omega
    refine ⟨j, ?_⟩
    rw [whl_end m, and_end x hx y hy j (by omega) hj]
    show R.bnd (ev cf bothC _ h) trM = _
    simp -implicitDefEqProofs [-Int.natCast_ediv, -Int.natCast_pow, -Int.natCast_emod, b_ok, on_ok, tru_bl, tru_int, tru_non, look_0, look_s, v_var, v_lit, v_glb, v_pow, v_neg, v_not, v_bin, v_cmp, v_chn, v_and, v_or, v_ife, v_tup, v_lst, v_cel, v_idx, v_slc, v_call, v_ck, v_blt, v_ex, v_mth, v_isi, v_isN, v_isnN, l_nil, l_cons, o_nil, o_cons, s_asg, s_par, s_exp, s_rtn, s_ite, s_nil, s_pas, s_seq, thn_nx, thn_rt, end_rt, end_nx, bind_nm, bind_tp, binds_nil, binds_cons, cond_nil, Lit.d, ret_ap, neg_int, bin_add, bin_sub, cmp_le, cmp_lt, cmp_gt, cmp_ge, cmp_eq, cmp_ne, idx_fr0, idx_fr1, blt_int, fin_bl, fin_int, fin_non, fin_fr, hle]
  | succ d ih =>
    intro j m e hm
    obtain ⟨m, rfl⟩ : ∃ k, m = k + 1 := ⟨m - 1, by omega⟩
    by_cases hj : x < 2 ^ j
    · have hle : ¬ pw j ≤ (x : Int) := by unfold pw; omega
      refine ⟨j, ?_⟩
      rw [whl_end m, and_end x hx y hy j (by omega) hj]
      show R.bnd (ev cf bothC _ h) trM = _
      simp -implicitDefEqProofs [-Int.natCast_ediv, -Int.natCast_pow, -Int.natCast_emod, b_ok, on_ok, tru_bl, tru_int, tru_non, look_0, look_s, v_var, v_lit, v_glb, v_pow, v_neg, v_not, v_bin, v_cmp, v_chn, v_and, v_or, v_ife, v_tup, v_lst, v_cel, v_idx, v_slc, v_call, v_ck, v_blt, v_ex, v_mth, v_isi, v_isN, v_isnN, l_nil, l_cons, o_nil, o_cons, s_asg, s_par, s_exp, s_rtn, s_ite, s_nil, s_pas, s_seq, thn_nx, thn_rt, end_rt, end_nx, bind_nm, bind_tp, binds_nil, binds_cons, cond_nil, Lit.d, ret_ap, neg_int, bin_add, bin_sub, cmp_le, cmp_lt, cmp_gt, cmp_ge, cmp_eq, cmp_ne, idx_fr0, idx_fr1, blt_int, fin_bl, fin_int, fin_non, fin_fr, hle]
    · have hle : pw j ≤ (x : Int) := by unfold pw; omega
      obtain ⟨J, e2⟩ := ih (j + 1) m (by omega) (by omega)
      refine ⟨J, ?_⟩
      rw [← e2]
      refine whl_tt ?_ ?_
      · show R.bnd (ev cf bothC _ h) trM = _
        simp -implicitDefEqProofs [-Int.natCast_ediv, -Int.natCast_pow, -Int.natCast_emod, b_ok, on_ok, tru_bl, tru_int, tru_non, look_0, look_s, v_var, v_lit, v_glb, v_pow, v_neg, v_not, v_bin, v_cmp, v_chn, v_and, v_or, v_ife, v_tup, v_lst, v_cel, v_idx, v_slc, v_call, v_ck, v_blt, v_ex, v_mth, v_isi, v_isN, v_isnN, l_nil, l_cons, o_nil, o_cons, s_asg, s_par, s_exp, s_rtn, s_ite, s_nil, s_pas, s_seq, thn_nx, thn_rt, end_rt, end_nx, bind_nm, bind_tp, binds_nil, binds_cons, cond_nil, Lit.d, ret_ap, neg_int, bin_add, bin_sub, cmp_le, cmp_lt, cmp_gt, cmp_ge, cmp_eq, cmp_ne, idx_fr0, idx_fr1, blt_int, fin_bl, fin_int, fin_non, fin_fr, hle]
      · have f1 := fun h => fdv_pw (x := x) (k := j) (h := h) (by omega)
        have f2 := fun h => fdv_pw (x := y) (k := j) (h := h) (by omega)
        have m2 := fun h => mul2 (j := j) (h := h) (by omega)
        have st := and_step x hx y hy j (by omega)
        by_cases b1 : x / 2 ^ j % 2 = 1
        · by_cases b2 : y / 2 ^ j % 2 = 1
          · have e3 : (((x &&& y) % 2 ^ j : Nat) : Int) + pw j = (((x &&& y) % 2 ^ (j + 1) : Nat) : Int) := by
              rw [st, if_pos ⟨b1, b2⟩]
              unfold pw
              omega
            simp -implicitDefEqProofs [-Int.natCast_ediv, -Int.natCast_pow, -Int.natCast_emod, b_ok, on_ok, tru_bl, tru_int, tru_non, look_0, look_s, v_var, v_lit, v_glb, v_pow, v_neg, v_not, v_bin, v_cmp, v_chn, v_and, v_or, v_ife, v_tup, v_lst, v_cel, v_idx, v_slc, v_call, v_ck, v_blt, v_ex, v_mth, v_isi, v_isN, v_isnN, l_nil, l_cons, o_nil, o_cons, s_asg, s_par, s_exp, s_rtn, s_ite, s_nil, s_pas, s_seq, thn_nx, thn_rt, end_rt, end_nx, bind_nm, bind_tp, binds_nil, binds_cons, cond_nil, Lit.d, ret_ap, neg_int, bin_add, bin_sub, cmp_le, cmp_lt, cmp_gt, cmp_ge, cmp_eq, cmp_ne, idx_fr0, idx_fr1, blt_int, fin_bl, fin_int, fin_non, fin_fr, f1, f2, m2, mod2, dec1, b1, b2, s_aug, aug_add, e3]
          · have e3 : (x &&& y) % 2 ^ (j + 1) = (x &&& y) % 2 ^ j := by rw [st, if_neg (fun z => b2 z.2)]; omega
            rw [e3]
            simp -implicitDefEqProofs [-Int.natCast_ediv, -Int.natCast_pow, -Int.natCast_emod, b_ok, on_ok, tru_bl, tru_int, tru_non, look_0, look_s, v_var, v_lit, v_glb, v_pow, v_neg, v_not, v_bin, v_cmp, v_chn, v_and, v_or, v_ife, v_tup, v_lst, v_cel, v_idx, v_slc, v_call, v_ck, v_blt, v_ex, v_mth, v_isi, v_isN, v_isnN, l_nil, l_cons, o_nil, o_cons, s_asg, s_par, s_exp, s_rtn, s_ite, s_nil, s_pas, s_seq, thn_nx, thn_rt, end_rt, end_nx, bind_nm, bind_tp, binds_nil, binds_cons, cond_nil, Lit.d, ret_ap, neg_int, bin_add, bin_sub, cmp_le, cmp_lt, cmp_gt, cmp_ge, cmp_eq, cmp_ne, idx_fr0, idx_fr1, blt_int, fin_bl, fin_int, fin_non, fin_fr, f1, f2, m2, mod2, dec1, b1, b2]
        · have e3 : (x &&& y) % 2 ^ (j + 1) = (x &&& y) % 2 ^ j := by rw [st, if_neg (fun z => b1 z.1)]; omega
          rw [e3]
          simp -implicitDefEqProofs [-Int.natCast_ediv, -Int.natCast_pow, -Int.natCast_emod, b_ok, on_ok, tru_bl, tru_int, tru_non, look_0, look_s, v_var, v_lit, v_glb, v_pow, v_neg, v_not, v_bin, v_cmp, v_chn, v_and, v_or, v_ife, v_tup, v_lst, v_cel, v_idx, v_slc, v_call, v_ck, v_blt, v_ex, v_mth, v_isi, v_isN, v_isnN, l_nil, l_cons, o_nil, o_cons, s_asg, s_par, s_exp, s_rtn, s_ite, s_nil, s_pas, s_seq, thn_nx, thn_rt, end_rt, end_nx, bind_nm, bind_tp, binds_nil, binds_cons, cond_nil, Lit.d, ret_ap, neg_int, bin_add, bin_sub, cmp_le, cmp_lt, cmp_gt, cmp_ge, cmp_eq, cmp_ne, idx_fr0, idx_fr1, blt_int, fin_bl, fin_int, fin_non, fin_fr, f1, f2, m2, mod2, dec1, b1]
abbrev BothAt (cf : Nat → List D → M D) (c : Nat) : Prop := ∀ (x y : Nat) h, x < 32 → y < 32 → cf c [.int x, .int y] h = .ok (.int ((x &&& y : Nat) : Int)) h
theorem both_lots_ok {x y : Nat} (hx : x < 32) (hy : y < 32) {h : MH} : runFn cf p_both_lots [.int x, .int y] h = .ok (.int ((x &&& y : Nat) : Int)) h := by
  obtain ⟨J, e⟩ := both_loop (cf := cf) hx hy (h := h) 6 0 TURNS rfl (by decide)
  have e0 : (((x &&& y) % 2 ^ 0 : Nat) : Int) = 0 := by simp [Nat.mod_one]
  rw [e0] at e
  have e1 : exS cf (.whl bothC bothB) [oI x, oI y, oI 0, oI 1] h = .ok (.nx [oI x, oI y, oI ((x &&& y : Nat) : Int), oI (pw J)]) h := by
    rw [s_whl]
    exact e
  have s2 : 2 ≤ SZ := by decide
  rw [run_eq ⟨rfl, by simp [p_both_lots]⟩]
  simp -implicitDefEqProofs [p_both_lots, -Int.natCast_ediv, -Int.natCast_pow, -Int.natCast_emod, b_ok, on_ok, tru_bl, tru_int, tru_non, look_0, look_s, v_var, v_lit, v_glb, v_pow, v_neg, v_not, v_bin, v_cmp, v_chn, v_and, v_or, v_ife, v_tup, v_lst, v_cel, v_idx, v_slc, v_call, v_ck, v_blt, v_ex, v_mth, v_isi, v_isN, v_isnN, l_nil, l_cons, o_nil, o_cons, s_asg, s_par, s_exp, s_rtn, s_ite, s_nil, s_pas, s_seq, thn_nx, thn_rt, end_rt, end_nx, bind_nm, bind_tp, binds_nil, binds_cons, cond_nil, Lit.d, ret_ap, neg_int, bin_add, bin_sub, cmp_le, cmp_lt, cmp_gt, cmp_ge, cmp_eq, cmp_ne, idx_fr0, idx_fr1, blt_int, fin_bl, fin_int, fin_non, fin_fr, s2, e1]
abbrev ScatterAt (cf : Nat → List D → M D) (c : Nat) : Prop := ∀ (n : Nat) (v : Nat → Rat) (x y : Nat) h, OkV n v → x < 2 ^ n → y < 2 ^ n → v x + v y ≤ v (x &&& y) + v (x + y - (x &&& y)) → cf c [vecD (2 ^ n) v, .int x, .int y] h = .ok (.bl false) h
theorem does_scatter_ok {c d e : Nat} (B : BothAt cf c) (P : PlusAt cf d) (L : LessAt cf e) {x y : Nat} {h : MH} (o : OkV n v) (hx : x < 2 ^ n) (hy : y < 2 ^ n) (hg : v x + v y ≤ v (x &&& y) + v (x + y - (x &&& y))) : runFn cf (p_does_scatter c d e) [vecD (2 ^ n) v, .int x, .int y] h = .ok (.bl false) h := by
  have n5 := o.n5
  have p5 := pow5 n5
  obtain ⟨l1, l2, l3⟩ := and_lt n (by omega) x hx y hy
  have a1 := fun h => B x y h (by omega) (by omega)
  have i1 := fun h => idx_vec (v := v) (h := h) hx
  have i2 := fun h => idx_vec (v := v) (h := h) hy
  have i3 := fun h => idx_vec (v := v) (h := h) l1
  have i4 : ∀ h, idxD (vecD (2 ^ n) v) (.int ((x : Int) + (y : Int) - ((x &&& y : Nat) : Int))) h = .ok (fr (v (x + y - (x &&& y)))) h := fun h => by
    have : (x : Int) + (y : Int) - ((x &&& y : Nat) : Int) = ((x + y - (x &&& y) : Nat) : Int) := by omega
    rw [this]
    exact idx_vec l3
  have z1 := o.sz hx
  have z2 := o.sz hy
  have z3 := o.sz l1
  have z4 := o.sz l3
  have p1 := fun h => P _ _ h (z1.mono (by decide)) (z2.mono (by decide))
  have p2 := fun h => P _ _ h (z3.mono (by decide)) (z4.mono (by decide))
  have ls : ∀ h, cf e [fr (v (x &&& y) + v (x + y - (x &&& y))), fr (v x + v y)] h = .ok (.bl false) h := fun h => by
    rw [L _ _ h ((z3.add z4).mono (by decide)) ((z1.add z2).mono (by decide))]
    rw [decide_eq_false (by grind)]
  rw [run_eq ⟨rfl, by simp [p_does_scatter]⟩]
  simp -implicitDefEqProofs [p_does_scatter, -Int.natCast_ediv, -Int.natCast_pow, -Int.natCast_emod, b_ok, on_ok, tru_bl, tru_int, tru_non, look_0, look_s, v_var, v_lit, v_glb, v_pow, v_neg, v_not, v_bin, v_cmp, v_chn, v_and, v_or, v_ife, v_tup, v_lst, v_cel, v_idx, v_slc, v_call, v_ck, v_blt, v_ex, v_mth, v_isi, v_isN, v_isnN, l_nil, l_cons, o_nil, o_cons, s_asg, s_par, s_exp, s_rtn, s_ite, s_nil, s_pas, s_seq, thn_nx, thn_rt, end_rt, end_nx, bind_nm, bind_tp, binds_nil, binds_cons, cond_nil, Lit.d, ret_ap, neg_int, bin_add, bin_sub, cmp_le, cmp_lt, cmp_gt, cmp_ge, cmp_eq, cmp_ne, idx_fr0, idx_fr1, blt_int, fin_bl, fin_int, fin_non, fin_fr, a1, i1, i2, i3, i4, p1, p2, ls]
abbrev ScatteredAt (cf : Nat → List D → M D) (c : Nat) : Prop := ∀ (n : Nat) (v : Nat → Rat) h, OkV n v → (∀ x < 2 ^ n, ∀ y < 2 ^ n, v x + v y ≤ v (x &&& y) + v (x + y - (x &&& y))) → cf c [vecD (2 ^ n) v] h = .ok .non h
theorem scattered_ok {c : Nat} (S : ScatterAt cf c) {h : MH} (o : OkV n v) (hg : ∀ x < 2 ^ n, ∀ y < 2 ^ n, v x + v y ≤ v (x &&& y) + v (x + y - (x &&& y))) : runFn cf (p_scattered c) [vecD (2 ^ n) v] h = .ok .non h := by
  have n5 := o.n5
  have p5 := pow5 n5
  have ln := fun h => len_vec (v := v) (N := 2 ^ n) (h := h)
  obtain ⟨env', h', e, rfl, o1, o2, rfl⟩ := for_rng (cf := cf) (t := .nm 1) (l := (.cons (.blt .len (.cons (.var 0) .nil)) .nil)) (b := (.seq (.for_ (.nm 2) .rng (.cons (.var 1) .nil) (.seq (.ite (.call c (.cons (.var 0) (.cons (.var 2) (.cons (.var 1) .nil)))) (.seq (.rtn (.tup (.cons (.var 2) (.cons (.var 1) .nil))))
      .nil) .nil)
      .nil))
      .nil)) (env := [some (vecD (2 ^ n) v), none, none]) (h := h) (2 ^ n) (fun k env h' => h' = h ∧ ∃ o1 o2, env = [some (vecD (2 ^ n) v), o1, o2]) (le_SZ (by omega)) (by simp -implicitDefEqProofs [-Int.natCast_ediv, -Int.natCast_pow, -Int.natCast_emod, b_ok, on_ok, tru_bl, tru_int, tru_non, look_0, look_s, v_var, v_lit, v_glb, v_pow, v_neg, v_not, v_bin, v_cmp, v_chn, v_and, v_or, v_ife, v_tup, v_lst, v_cel, v_idx, v_slc, v_call, v_ck, v_blt, v_ex, v_mth, v_isi, v_isN, v_isnN, l_nil, l_cons, o_nil, o_cons, s_asg, s_par, s_exp, s_rtn, s_ite, s_nil, s_pas, s_seq, thn_nx, thn_rt, end_rt, end_nx, bind_nm, bind_tp, binds_nil, binds_cons, cond_nil, Lit.d, ret_ap, neg_int, bin_add, bin_sub, cmp_le, cmp_lt, cmp_gt, cmp_ge, cmp_eq, cmp_ne, idx_fr0, idx_fr1, blt_int, fin_bl, fin_int, fin_non, fin_fr, ln]) (fun k env h' hk i => by
    obtain ⟨rfl, o1, o2, rfl⟩ := i
    obtain ⟨env2, h2, e, rfl, o2', rfl⟩ := for_rng (cf := cf) (t := .nm 2) (l := .cons (.var 1) .nil) (b := (.seq (.ite (.call c (.cons (.var 0) (.cons (.var 2) (.cons (.var 1) .nil)))) (.seq (.rtn (.tup (.cons (.var 2) (.cons (.var 1) .nil))))
      .nil) .nil)
      .nil)) (env := [some (vecD (2 ^ n) v), oI k, o2]) (h := h') k (fun j env h2 => h2 = h' ∧ ∃ o2, env = [some (vecD (2 ^ n) v), oI k, o2]) (le_SZ (by omega)) (by simp -implicitDefEqProofs [-Int.natCast_ediv, -Int.natCast_pow, -Int.natCast_emod, b_ok, on_ok, tru_bl, tru_int, tru_non, look_0, look_s, v_var, v_lit, v_glb, v_pow, v_neg, v_not, v_bin, v_cmp, v_chn, v_and, v_or, v_ife, v_tup, v_lst, v_cel, v_idx, v_slc, v_call, v_ck, v_blt, v_ex, v_mth, v_isi, v_isN, v_isnN, l_nil, l_cons, o_nil, o_cons, s_asg, s_par, s_exp, s_rtn, s_ite, s_nil, s_pas, s_seq, thn_nx, thn_rt, end_rt, end_nx, bind_nm, bind_tp, binds_nil, binds_cons, cond_nil, Lit.d, ret_ap, neg_int, bin_add, bin_sub, cmp_le, cmp_lt, cmp_gt, cmp_ge, cmp_eq, cmp_ne, idx_fr0, idx_fr1, blt_int, fin_bl, fin_int, fin_non, fin_fr]) (fun j env h2 hj i => by
      obtain ⟨rfl, o2, rfl⟩ := i
      have s := fun h => S n v j k h o (by omega) hk (hg j (by omega) k hk)
      refine ⟨_, [some (vecD (2 ^ n) v), oI k, oI j], _, rfl, ?_, rfl, _, rfl⟩
      simp -implicitDefEqProofs [-Int.natCast_ediv, -Int.natCast_pow, -Int.natCast_emod, b_ok, on_ok, tru_bl, tru_int, tru_non, look_0, look_s, v_var, v_lit, v_glb, v_pow, v_neg, v_not, v_bin, v_cmp, v_chn, v_and, v_or, v_ife, v_tup, v_lst, v_cel, v_idx, v_slc, v_call, v_ck, v_blt, v_ex, v_mth, v_isi, v_isN, v_isnN, l_nil, l_cons, o_nil, o_cons, s_asg, s_par, s_exp, s_rtn, s_ite, s_nil, s_pas, s_seq, thn_nx, thn_rt, end_rt, end_nx, bind_nm, bind_tp, binds_nil, binds_cons, cond_nil, Lit.d, ret_ap, neg_int, bin_add, bin_sub, cmp_le, cmp_lt, cmp_gt, cmp_ge, cmp_eq, cmp_ne, idx_fr0, idx_fr1, blt_int, fin_bl, fin_int, fin_non, fin_fr, s]) ⟨rfl, o2, rfl⟩
    refine ⟨_, [some (vecD (2 ^ n) v), oI k, o2'], _, rfl, ?_, rfl, _, _, rfl⟩
    simp -implicitDefEqProofs [-Int.natCast_ediv, -Int.natCast_pow, -Int.natCast_emod, b_ok, on_ok, tru_bl, tru_int, tru_non, look_0, look_s, v_var, v_lit, v_glb, v_pow, v_neg, v_not, v_bin, v_cmp, v_chn, v_and, v_or, v_ife, v_tup, v_lst, v_cel, v_idx, v_slc, v_call, v_ck, v_blt, v_ex, v_mth, v_isi, v_isN, v_isnN, l_nil, l_cons, o_nil, o_cons, s_asg, s_par, s_exp, s_rtn, s_ite, s_nil, s_pas, s_seq, thn_nx, thn_rt, end_rt, end_nx, bind_nm, bind_tp, binds_nil, binds_cons, cond_nil, Lit.d, ret_ap, neg_int, bin_add, bin_sub, cmp_le, cmp_lt, cmp_gt, cmp_ge, cmp_eq, cmp_ne, idx_fr0, idx_fr1, blt_int, fin_bl, fin_int, fin_non, fin_fr, e]) ⟨rfl, none, none, rfl⟩
  rw [run_eq ⟨rfl, by simp [p_scattered]⟩]
  simp -implicitDefEqProofs [p_scattered, -Int.natCast_ediv, -Int.natCast_pow, -Int.natCast_emod, b_ok, on_ok, tru_bl, tru_int, tru_non, look_0, look_s, v_var, v_lit, v_glb, v_pow, v_neg, v_not, v_bin, v_cmp, v_chn, v_and, v_or, v_ife, v_tup, v_lst, v_cel, v_idx, v_slc, v_call, v_ck, v_blt, v_ex, v_mth, v_isi, v_isN, v_isnN, l_nil, l_cons, o_nil, o_cons, s_asg, s_par, s_exp, s_rtn, s_ite, s_nil, s_pas, s_seq, thn_nx, thn_rt, end_rt, end_nx, bind_nm, bind_tp, binds_nil, binds_cons, cond_nil, Lit.d, ret_ap, neg_int, bin_add, bin_sub, cmp_le, cmp_lt, cmp_gt, cmp_ge, cmp_eq, cmp_ne, idx_fr0, idx_fr1, blt_int, fin_bl, fin_int, fin_non, fin_fr, e]
abbrev GathersAt (cf : Nat → List D → M D) (c : Nat) : Prop := ∀ (n : Nat) (v : Nat → Rat) h, OkV n v → (∀ x < 2 ^ n, ∀ y < 2 ^ n, v x + v y ≤ v (x &&& y) + v (x + y - (x &&& y))) → cf c [vecD (2 ^ n) v] h = .ok (.bl true) h
theorem gathers_ok {c d : Nat} (C : ChkBoundsAt cf c) (S : ScatteredAt cf d) {h : MH} (o : OkV n v) (hg : ∀ x < 2 ^ n, ∀ y < 2 ^ n, v x + v y ≤ v (x &&& y) + v (x + y - (x &&& y))) : runFn cf (p_gathers c d) [vecD (2 ^ n) v] h = .ok (.bl true) h := by
  have a := fun h => C n v h o
  have b := fun h => S n v h o hg
  rw [run_eq ⟨rfl, by simp [p_gathers]⟩]
  simp -implicitDefEqProofs [p_gathers, -Int.natCast_ediv, -Int.natCast_pow, -Int.natCast_emod, b_ok, on_ok, tru_bl, tru_int, tru_non, look_0, look_s, v_var, v_lit, v_glb, v_pow, v_neg, v_not, v_bin, v_cmp, v_chn, v_and, v_or, v_ife, v_tup, v_lst, v_cel, v_idx, v_slc, v_call, v_ck, v_blt, v_ex, v_mth, v_isi, v_isN, v_isnN, l_nil, l_cons, o_nil, o_cons, s_asg, s_par, s_exp, s_rtn, s_ite, s_nil, s_pas, s_seq, thn_nx, thn_rt, end_rt, end_nx, bind_nm, bind_tp, binds_nil, binds_cons, cond_nil, Lit.d, ret_ap, neg_int, bin_add, bin_sub, cmp_le, cmp_lt, cmp_gt, cmp_ge, cmp_eq, cmp_ne, idx_fr0, idx_fr1, blt_int, fin_bl, fin_int, fin_non, fin_fr, a, b, isNonD]
/-! ### the beliefs of masses are such bounds -/
theorem bel_mob (o : OkM n ms) : ∀ (p x : Nat), p ≤ n → x < 2 ^ n → mob (bel n ms) p x = ws ms fun j => stB n p j x
  | 0, x, _, hx => by
    have n5 := o.n5
    simp only [mob, bel]
    exact ws_congr fun m hm => (st_zero n (by omega) x hx m.1 (o.lots m hm).2).symm
  | p + 1, x, hp, hx => by
    have n5 := o.n5
    have hl : x - 2 ^ p < 2 ^ n := Nat.lt_of_le_of_lt (Nat.sub_le _ _) hx
    have h1 := bel_mob o p x (by omega) hx
    have h2 := bel_mob o p (x - 2 ^ p) (by omega) hl
    simp only [mob]
    by_cases hb : x / 2 ^ p % 2 = 1
    · have : (x / 2 ^ p % 2 == 1) = true := by simp [hb]
      rw [if_pos this, h1, h2]
      exact ws_sub fun m hm => st_on (by omega) (by omega) hx (o.lots m hm).2 hb
    · have : ¬ (x / 2 ^ p % 2 == 1) = true := by simp [hb]
      rw [if_neg this, h1]
      exact ws_congr fun m hm => (st_off n (by omega) p (by omega) x hx m.1 (o.lots m hm).2 hb).symm
theorem bel_num (o : OkM n ms) : ∀ x < 2 ^ n, mob (bel n ms) n x = ws ms fun y => decide (y = x) := fun x hx => by
  have n5 := o.n5
  rw [bel_mob o n x (Nat.le_refl _) hx]
  exact ws_congr fun m hm => st_end n (by omega) x hx m.1 (o.lots m hm).2
theorem bel_gather (o : OkM n ms) (h4 : n < 5) : ∀ x < 2 ^ n, ∀ y < 2 ^ n, bel n ms x + bel n ms y ≤ bel n ms (x &&& y) + bel n ms (x + y - (x &&& y)) := fun x hx y hy => by
  refine ws_four o.nonneg fun m hm => ?_
  exact sub_and h4 hx hy (o.lots m hm).2
theorem bel_ok (o : OkM n ms) {W : Nat} (hW : W ≠ 0) (hW2 : W ≤ 1000000) (hd : ∀ m ∈ ms, Dn W m.2) : OkV n (bel n ms) where
  n2 := o.n2
  n5 := o.n5
  lo := fun x _ => ws_nonneg o.nonneg
  hi := fun x _ => by
    have := ws_le (P := fun z => subB n z x) (Q := tt) o.nonneg (fun _ _ _ => rfl)
    rw [o.sum] at this
    exact this
  den := fun x _ => Nat.le_trans (Dn.den hW (Dn.ws hW hd)) hW2
  bot := by
    have n5 := o.n5
    refine ws_none fun m hm => ?_
    rw [sub_zero n (by omega) m.1 (o.lots m hm).2]
    have := (o.lots m hm).1
    exact decide_eq_false (by omega)
  top := by
    have n5 := o.n5
    rw [← o.sum]
    exact ws_congr fun m hm => sub_all n (by omega) m.1 (o.lots m hm).2
  mono := fun x hx k hk hb => by
    have n5 := o.n5
    exact ws_le o.nonneg fun m hm => sub_less (by omega) hk hx (o.lots m hm).2 hb
theorem bel_rom (o : OkM n ms) {y : Nat} (hy : y < 2 ^ n) : bel n ms y + rom n ms (2 ^ n - 1 - y) = 1 := by
  have n5 := o.n5
  rw [← o.sum]
  refine ws_add fun m hm => ?_
  rw [sub_tou n (by omega) m.1 (o.lots m hm).2 y hy]
  cases subB n m.1 y <;> simp
end
end Mn

set_option maxHeartbeats 4000000
/-! Mn: what the law draws: dips, one of some, masses. -/
namespace Mn
open PySem
/- _law_one_of: c0=_law_dip -/
def l_one_of (c0 : Nat) : Fn := ⟨2, 2, (.seq (.rtn (.idx (.var 1) (.call c0 (.cons (.var 0) (.cons (.blt .len (.cons (.var 1) .nil)) .nil)))))
      .nil), false⟩
/- _law_dip:  -/
def l_dip : Fn := ⟨3, 2, (.seq (.sti (.var 0) (.lit (.int 2)) (.bin .add (.idx (.var 0) (.lit (.int 2))) (.lit (.int 1))))
      (.seq (.ite (.cmp .gt (.idx (.var 0) (.lit (.int 0))) (.lit (.int 0))) (.seq (.unp (.var 0) (.lit (.int 0)) 2 (.blt .divmod (.cons (.idx (.var 0) (.lit (.int 0))) (.cons (.var 1) .nil))))
      (.seq (.rtn (.var 2))
      .nil)) .nil)
      (.seq (.sti (.var 0) (.lit (.int 1)) (.bin .mod (.blt .int (.cons (.bin .add (.bin .mul (.idx (.var 0) (.lit (.int 1))) (.lit (.int 48271))) (.bin .mul (.lit (.int 30011)) (.idx (.var 0) (.lit (.int 2))))) .nil)) (.lit (.int 2147483399))))
      (.seq (.rtn (.bin .mod (.blt .int (.cons (.bin .fdv (.idx (.var 0) (.lit (.int 1))) (.lit (.int 512))) .nil)) (.var 1)))
      .nil)))), false⟩
/- _law_masses: c0=_law_dip c1=_law_lot c2=_law_low -/
def l_masses (c0 c1 c2 : Nat) : Fn := ⟨7, 2, (.seq (.asg (.nm 2) (.ex .dnew .nil))
      (.seq (.for_ (.nm 3) .rng (.cons (.bin .add (.lit (.int 1)) (.call c0 (.cons (.var 0) (.cons (.lit (.int 4)) .nil)))) .nil) (.seq (.asg (.nm 4) (.call c1 (.cons (.bin .add (.lit (.int 1)) (.call c0 (.cons (.var 0) (.cons (.idx (.lst (.cons (.lit (.int 1)) (.cons (.lit (.int 1)) (.cons (.lit (.int 3)) (.cons (.lit (.int 7)) (.cons (.lit (.int 15)) (.cons (.lit (.int 31)) .nil))))))) (.var 1)) .nil)))) (.cons (.var 1) .nil))))
      (.seq (.dst (.var 2) (.var 4) (.bin .add (.bin .add (.mth .get (.var 2) (.cons (.var 4) (.cons (.lit (.int 0)) .nil))) (.lit (.int 1))) (.call c0 (.cons (.var 0) (.cons (.lit (.int 3)) .nil)))))
      .nil)))
      (.seq (.asg (.nm 5) (.lk 2 (.blt .sum (.cons (.lc [6] (.ex .dix (.cons (.var 2) (.cons (.var 6) .nil))) (.nm 6) .seq (.cons (.var 2) .nil) .nil) .nil))))
      (.seq (.rtn (.blt .tuple (.cons (.lc [6] (.tup (.cons (.var 6) (.cons (.call c2 (.cons (.ex .dix (.cons (.var 2) (.cons (.var 6) .nil))) (.cons (.var 5) .nil))) .nil))) (.nm 6) .seq (.cons (.ex .srt (.cons (.var 2) .nil)) .nil) .nil) .nil)))
      .nil)))), false⟩
theorem Jar.mono {h : MH} {j : Nat} {C C' : Int} (J : Jar h j C) (hc : C ≤ C') : Jar h j C' := by
  obtain ⟨a, b, c, h1, h2, h3, h4, h5, h6⟩ := J.ex
  exact ⟨a, b, c, h1, h2, h3, h4, h5, by omega⟩
theorem Jar.lt {h : MH} {j : Nat} {C : Int} (J : Jar h j C) : j < h.length := by
  obtain ⟨a, b, c, h1, _⟩ := J.ex
  exact (List.getElem?_eq_some_iff.mp h1).1
theorem Jar.app {h : MH} {j : Nat} {C : Int} {c : Cell} (J : Jar h j C) : Jar (h ++ [c]) j C := by
  have hl := J.lt
  obtain ⟨a, b, d, h1, h2⟩ := J.ex
  exact ⟨a, b, d, by rw [List.getElem?_append_left hl]; exact h1, h2⟩
theorem Jar.unapp {h : MH} {j : Nat} {C : Int} {c : Cell} (J : Jar (h ++ [c]) j C) (hl : j < h.length) : Jar h j C := by
  obtain ⟨a, b, d, h1, h2⟩ := J.ex
  exact ⟨a, b, d, by rw [List.getElem?_append_left hl] at h1; exact h1, h2⟩
section
variable {cf : Nat → List D → M D} {n : Nat}
abbrev DipAt (cf : Nat → List D → M D) (c : Nat) : Prop := ∀ (j : Nat) (h : MH) (C : Int) (top : Nat), Jar h j C → C ≤ 1000000 → 0 < top → top ≤ 1000000 → ∃ (r : Nat) (cl : Cell), cf c [.ref j, .int (top : Int)] h = .ok (.int (r : Int)) (h.set j cl) ∧ r < top ∧ Jar (h.set j cl) j (C + 1)
theorem dip_ok {j : Nat} {h : MH} {C : Int} {top : Nat} (J : Jar h j C) (hC : C ≤ 1000000) (h0 : 0 < top) (h1 : top ≤ 1000000) : ∃ (r : Nat) (cl : Cell), runFn cf l_dip [.ref j, .int (top : Int)] h = .ok (.int (r : Int)) (h.set j cl) ∧ r < top ∧ Jar (h.set j cl) j (C + 1) := by
  obtain ⟨r, h', e, r0, r1, J', c, rfl⟩ := dip cf (top := top) J (by omega) (by omega) (by omega)
  refine ⟨r.toNat, c, ?_, by omega, J'⟩
  have : ((r.toNat : Nat) : Int) = r := by omega
  rw [this]
  exact e
theorem fin_set {d : D} {h : MH} {j : Nat} {c : Cell} (hp : plain d = true) : fin false h.length d (h.set j c) = .ok d (h.set j c) := by
  cases d <;> first | (simp [plain] at hp; done) | simp_all [fin, take_set]
abbrev OneOfAt (cf : Nat → List D → M D) (c : Nat) : Prop := ∀ (j : Nat) (h : MH) (C : Int) (xs : List D), Jar h j C → C ≤ 1000000 → xs ≠ [] → xs.length ≤ 1000 → (∀ d ∈ xs, plain d = true) → ∃ (d : D) (cl : Cell), cf c [.ref j, .lst xs] h = .ok d (h.set j cl) ∧ d ∈ xs ∧ Jar (h.set j cl) j (C + 1)
theorem idx_lst {xs : List D} {k : Nat} {h : MH} (hk : k < xs.length) : idxD (.lst xs) (.int (k : Int)) h = .ok xs[k] h := by
  have h1 : ((k : Int) < (xs.length : Int)) := by omega
  simp [idxD, items, lItems, L2.atI, L2.ixN, hk]
theorem one_of_ok {c : Nat} (Dp : DipAt cf c) {j : Nat} {h : MH} {C : Int} {xs : List D} (J : Jar h j C) (hC : C ≤ 1000000) (hx : xs ≠ []) (hl : xs.length ≤ 1000) (hp : ∀ d ∈ xs, plain d = true) : ∃ (d : D) (cl : Cell), runFn cf (l_one_of c) [.ref j, .lst xs] h = .ok d (h.set j cl) ∧ d ∈ xs ∧ Jar (h.set j cl) j (C + 1) := by
  have h0 : 0 < xs.length := List.length_pos_iff.mpr hx
  obtain ⟨r, cl, e, hr, J'⟩ := Dp j h C xs.length J hC h0 (by omega)
  refine ⟨xs[r], cl, ?_, List.getElem_mem _, J'⟩
  have ln : ∀ h, bltD .len [.lst xs] h = .ok (.int (xs.length : Int)) h := fun h => rfl
  have ix := fun h => idx_lst (xs := xs) (h := h) hr
  rw [run_eq ⟨rfl, by simp [l_one_of]⟩]
  simp -implicitDefEqProofs [l_one_of, -Int.natCast_ediv, -Int.natCast_pow, -Int.natCast_emod, b_ok, on_ok, tru_bl, tru_int, tru_non, look_0, look_s, v_var, v_lit, v_glb, v_pow, v_neg, v_not, v_bin, v_cmp, v_chn, v_and, v_or, v_ife, v_tup, v_lst, v_cel, v_idx, v_slc, v_call, v_ck, v_blt, v_ex, v_mth, v_isi, v_isN, v_isnN, l_nil, l_cons, o_nil, o_cons, s_asg, s_par, s_exp, s_rtn, s_ite, s_nil, s_pas, s_seq, thn_nx, thn_rt, end_rt, end_nx, bind_nm, bind_tp, binds_nil, binds_cons, cond_nil, Lit.d, ret_ap, neg_int, bin_add, bin_sub, cmp_le, cmp_lt, cmp_gt, cmp_ge, cmp_eq, cmp_ne, idx_fr0, idx_fr1, blt_int, fin_bl, fin_int, fin_non, fin_fr, ln, e, ix]
  exact fin_set (hp _ (List.getElem_mem _))
/-! ### dicts by lots -/
def keyX (n x : Nat) : List L2.Key := (lotL n x).map fun k : Nat => Sum.inl (k : Int)
theorem key_map {l : List Nat} : keyL (l.map fun k : Nat => .int (k : Int)) = some (l.map fun k : Nat => Sum.inl (k : Int)) := by
  induction l with
  | nil => rfl
  | cons k r ih => simp [keyL, ih]
theorem key_lot {x : Nat} : keyL ((lotL n x).map fun k : Nat => .int (k : Int)) = some (keyX n x) := key_map
theorem keyT_lot {x : Nat} : keyT (keyX n x) = lotD n x := by
  simp [keyT, keyX, tI, keyD]
theorem key_inj (hn : n < 6) {x y : Nat} (hx : x < 2 ^ n) (hy : y < 2 ^ n) : keyX n x = keyX n y ↔ x = y := by
  constructor
  · intro e
    apply lot_inj n hn x hx y hy
    have : ∀ (a b : List Nat), (a.map fun k : Nat => (Sum.inl (k : Int) : L2.Key)) = b.map (fun k : Nat => Sum.inl (k : Int)) → a = b := by
      intro a
      induction a with
      | nil => intro b e; cases b with
        | nil => rfl
        | cons _ _ => cases e
      | cons k r ih => intro b e; cases b with
        | nil => cases e
        | cons k2 r2 =>
          simp only [List.map_cons, List.cons.injEq] at e
          obtain ⟨e1, e2⟩ := e
          injection e1 with e1
          rw [ih r2 e2]
          have : k = k2 := by omega
          rw [this]
    exact this _ _ e
  · rintro rfl; rfl
def kv (n : Nat) (p : Nat × Nat) : List L2.Key × D := (keyX n p.1, .int (p.2 : Int))
def upd : List (Nat × Nat) → Nat → Nat → List (Nat × Nat)
  | [], x, d => [(x, d)]
  | p :: r, x, d => if p.1 = x then (p.1, p.2 + d) :: r else p :: upd r x d
def gt : List (Nat × Nat) → Nat → Nat
  | [], _ => 0
  | p :: r, x => if p.1 = x then p.2 else gt r x
def tot (ps : List (Nat × Nat)) : Nat := (ps.map (·.2)).sum
theorem tot_upd : ∀ (ps : List (Nat × Nat)) (x d : Nat), tot (upd ps x d) = tot ps + d
  | [], x, d => by simp [upd, tot]
  | p :: r, x, d => by
    have ih := tot_upd r x d
    unfold upd
    split
    · simp [tot]; omega
    · simp [tot] at ih ⊢; omega
theorem mem_upd : ∀ {ps : List (Nat × Nat)} {x d : Nat} {p : Nat × Nat}, p ∈ upd ps x d → p ∈ ps ∨ p.1 = x ∧ d ≤ p.2
  | [], x, d, p, h => by
    simp [upd] at h
    subst h
    simp
  | q :: r, x, d, p, h => by
    unfold upd at h
    split at h
    · rename_i e
      rcases List.mem_cons.mp h with z | z
      · subst z
        exact .inr ⟨e, by simp⟩
      · exact .inl (by simp [z])
    · rcases List.mem_cons.mp h with z | z
      · exact .inl (by simp [z])
      · rcases mem_upd z with y | y
        · exact .inl (by simp [y])
        · exact .inr y
theorem nodup_upd : ∀ {ps : List (Nat × Nat)} {x d : Nat}, (ps.map (·.1)).Nodup → ((upd ps x d).map (·.1)).Nodup
  | [], x, d, h => by simp [upd]
  | q :: r, x, d, h => by
    simp only [List.map_cons, List.nodup_cons] at h
    unfold upd
    split
    · simpa using h
    · rename_i hq
      simp only [List.map_cons, List.nodup_cons]
      refine ⟨fun hm => ?_, nodup_upd h.2⟩
      obtain ⟨p, hp, e⟩ := List.mem_map.mp hm
      rcases mem_upd hp with z | z
      · exact h.1 (by rw [← e]; exact List.mem_map_of_mem (f := (·.1)) z)
      · exact hq (by rw [← e]; exact z.1)
theorem len_upd : ∀ (ps : List (Nat × Nat)) (x d : Nat), (upd ps x d).length ≤ ps.length + 1
  | [], x, d => by simp [upd]
  | q :: r, x, d => by
    have := len_upd r x d
    unfold upd
    split <;> simp <;> omega
/-- the lots of parts are lots -/
def LtP (n : Nat) (ps : List (Nat × Nat)) : Prop := ∀ p ∈ ps, p.1 < 2 ^ n
theorem dval_kv (hn : n < 6) : ∀ {ps : List (Nat × Nat)} {x : Nat}, LtP n ps → x < 2 ^ n → (dval (ps.map (kv n)) (keyX n x)).getD (.int 0) = .int (gt ps x : Int)
  | [], x, _, _ => rfl
  | p :: r, x, hl, hx => by
    have hp := hl p (by simp)
    have ih := dval_kv hn (ps := r) (fun p h => hl p (by simp [h])) hx
    unfold dval at ih ⊢
    simp only [List.map_cons, List.find?_cons, kv, gt]
    by_cases e : p.1 = x
    · have : decide (keyX n p.1 = keyX n x) = true := decide_eq_true ((key_inj hn hp hx).mpr e)
      rw [this, if_pos e]
      rfl
    · have : decide (keyX n p.1 = keyX n x) = false := decide_eq_false fun z => e ((key_inj hn hp hx).mp z)
      rw [this, if_neg e]
      exact ih
theorem dval_mem (hn : n < 6) : ∀ {ps : List (Nat × Nat)} {p : Nat × Nat}, LtP n ps → (ps.map (·.1)).Nodup → p ∈ ps → dval (ps.map (kv n)) (keyX n p.1) = some (.int (p.2 : Int))
  | [], _, _, _, h => by cases h
  | q :: r, p, hl, hd, h => by
    have hq := hl q (by simp)
    have hp := hl p h
    simp only [List.map_cons, List.nodup_cons] at hd
    unfold dval
    simp only [List.map_cons, List.find?_cons, kv]
    rcases List.mem_cons.mp h with z | z
    · subst z
      simp
    · have ne : q.1 ≠ p.1 := fun e => hd.1 (by rw [e]; exact List.mem_map_of_mem (f := (·.1)) z)
      have : decide (keyX n q.1 = keyX n p.1) = false := decide_eq_false fun z => ne ((key_inj hn hq hp).mp z)
      rw [this]
      exact dval_mem hn (fun p h => hl p (by simp [h])) hd.2 z
theorem any_kv (hn : n < 6) : ∀ {ps : List (Nat × Nat)} {x : Nat}, LtP n ps → x < 2 ^ n → (ps.map (kv n)).any (fun q => decide (q.1 = keyX n x)) = ps.any fun p => decide (p.1 = x)
  | [], x, _, _ => rfl
  | p :: r, x, hl, hx => by
    have hp := hl p (by simp)
    simp only [List.map_cons, List.any_cons]
    rw [any_kv hn (fun p h => hl p (by simp [h])) hx]
    congr 1
    exact decide_eq_decide.mpr (key_inj hn hp hx)
theorem dput_kv (hn : n < 6) {x d : Nat} (hx : x < 2 ^ n) : ∀ {ps : List (Nat × Nat)}, LtP n ps → (ps.map (·.1)).Nodup → dput (ps.map (kv n)) (keyX n x) (.int ((gt ps x + d : Nat) : Int)) = (upd ps x d).map (kv n) := by
  intro ps hl hd
  by_cases ha : (ps.any fun p => decide (p.1 = x)) = true
  · unfold dput
    rw [any_kv hn hl hx, if_pos ha]
    induction ps with
    | nil => simp at ha
    | cons p r ih =>
      have hp := hl p (by simp)
      simp only [List.map_cons, List.nodup_cons] at hd
      by_cases e : p.1 = x
      · have k1 : (kv n p).1 = keyX n x := (key_inj hn hp hx).mpr e
        have rest : ∀ q ∈ r, ¬ (kv n q).1 = keyX n x := fun q hq z => by
          have := (key_inj hn (hl q (by simp [hq])) hx).mp z
          exact hd.1 (by rw [e, ← this]; exact List.mem_map_of_mem (f := (·.1)) hq)
        have : List.map (fun q => if q.1 = keyX n x then (q.1, D.int ((gt (p :: r) x + d : Nat) : Int)) else q) (r.map (kv n)) = r.map (kv n) := by
          rw [List.map_map]
          refine List.map_congr_left fun q hq => ?_
          simp [rest q hq]
        rw [List.map_cons, List.map_cons, this, if_pos k1]
        unfold upd
        rw [if_pos e]
        simp [kv, gt, e]
      · have k1 : ¬ (kv n p).1 = keyX n x := fun z => e ((key_inj hn hp hx).mp z)
        have ha2 : (r.any fun p => decide (p.1 = x)) = true := by simpa [e] using ha
        have := ih (fun p h => hl p (by simp [h])) hd.2 ha2
        rw [List.map_cons, List.map_cons, if_neg k1]
        unfold upd
        rw [if_neg e, List.map_cons]
        congr 1
        have g : gt (p :: r) x = gt r x := by simp [gt, e]
        rw [g]
        exact this
  · unfold dput
    rw [any_kv hn hl hx, if_neg ha]
    clear hd
    induction ps with
    | nil => simp [upd, gt, kv]
    | cons p r ih =>
      have e : ¬ p.1 = x := fun e => ha (by simp [e])
      have := ih (fun p h => hl p (by simp [h])) (fun z => ha (by simp at z ⊢; exact .inr z))
      unfold upd
      rw [if_neg e, List.map_cons, List.map_cons, ← this]
      simp [gt, e]
end
end Mn

set_option maxHeartbeats 4000000
/-! Mn: what the law draws: masses. -/
namespace Mn
open PySem
theorem perm_inv {α β : Type} {f : α → β} {l m : List β} (h : l.Perm m) : ∀ {ps : List α}, m = ps.map f → ∃ qs : List α, qs.Perm ps ∧ l = qs.map f := by
  induction h with
  | nil =>
    intro ps e
    cases ps with
    | nil => exact ⟨[], List.Perm.refl _, rfl⟩
    | cons _ _ => cases e
  | cons x h ih =>
    intro ps e
    cases ps with
    | nil => cases e
    | cons p r =>
      simp only [List.map_cons, List.cons.injEq] at e
      obtain ⟨qs, h1, h2⟩ := ih e.2
      exact ⟨p :: qs, h1.cons p, by rw [List.map_cons, ← h2, e.1]⟩
  | swap x y l =>
    intro ps e
    match ps, e with
    | a :: b :: r, e =>
      simp only [List.map_cons, List.cons.injEq] at e
      exact ⟨b :: a :: r, List.Perm.swap a b r, by simp [e.1, e.2.1, e.2.2]⟩
  | trans h1 h2 ih1 ih2 =>
    intro ps e
    obtain ⟨qs, p1, e1⟩ := ih2 e
    obtain ⟨rs, p2, e2⟩ := ih1 e1
    exact ⟨rs, p2.trans p1, e2⟩
theorem lt_lotD : ∀ n < 6, ∀ x < 2 ^ n, ∀ y < 2 ^ n, ltD (lotD n x) (lotD n y) = lotLt n x y := by decide +kernel
section
variable {cf : Nat → List D → M D} {n : Nat}
theorem ok_lot (hn : n < 6) {x : Nat} (h0 : 0 < x) (hx : x < 2 ^ n) : okT (lotD n x) = true := by
  have : lotL n x ≠ [] := fun z => by have := lot_nil n hn x hx z; omega
  show okT (tI (lotL n x)) = true
  cases e : lotL n x with
  | nil => exact absurd e this
  | cons k r =>
    show (dInts ((k :: r).map fun k : Nat => .int (k : Int))).isSome = true
    rw [ints_map]
    rfl
/-- the keys, sorted -/
theorem srt_keys (hn : n < 6) {ps : List (Nat × Nat)} (hl : ∀ p ∈ ps, 0 < p.1 ∧ p.1 < 2 ^ n) (hd : (ps.map (·.1)).Nodup) : ∃ qs : List (Nat × Nat), qs.Perm ps ∧ qs.Pairwise (fun a b => lotLt n a.1 b.1 = true) ∧ srtO (ps.map fun p => lotD n p.1) = some (qs.map fun p => lotD n p.1) := by
  obtain ⟨qs, hp, e⟩ := perm_inv (f := fun p : Nat × Nat => lotD n p.1) (srtD_perm (ps.map fun p => lotD n p.1)) rfl
  have ha := srtD_asc (ps.map fun p => lotD n p.1)
  rw [e] at ha
  have hall : ((ps.map fun p => lotD n p.1).all okT || (ps.map fun p => lotD n p.1).all okTT) = true := by
    have : (ps.map fun p => lotD n p.1).all okT = true := by
      rw [List.all_eq_true]
      intro x hx
      obtain ⟨p, h, rfl⟩ := List.mem_map.mp hx
      exact ok_lot hn (hl p h).1 (hl p h).2
    rw [this]
    rfl
  refine ⟨qs, hp, ?_, srtO_of hall (hp.map _) ha⟩
  rw [Asc, List.pairwise_map] at ha
  have hd2 : qs.Pairwise fun a b => a.1 ≠ b.1 := by
    have := (hp.map (·.1)).nodup_iff.mpr hd
    rwa [List.Nodup, List.pairwise_map] at this
  refine List.Pairwise.imp_of_mem (fun {a b} ha hb h => ?_) (ha.and hd2)
  have la := hl a (hp.mem_iff.mp ha)
  have lb := hl b (hp.mem_iff.mp hb)
  rw [lt_lotD n hn b.1 lb.2 a.1 la.2] at h
  rcases lt_tri n hn a.1 la.2 b.1 lb.2 with z | z | z
  · exact absurd z h.2
  · exact z
  · rw [z] at h
    cases h.1
theorem dst_of {a b e : E} {env : Env} {h h1 : MH} {i : Nat} {ks : List D} {k : List L2.Key} {kvs : List (List L2.Key × D)} {z : D} (e1 : ev cf e env h = .ok z h1) (e2 : ev cf a env h1 = .ok (.ref i) h1) (e3 : ev cf b env h1 = .ok (.tup ks) h1) (hi : h1[i]? = some (.dct false kvs)) (hk : keyL ks = some k) (hz : plain z = true) (hl : kvs.length < SZ) : exS cf (.dst a b e) env h = .ok (.nx env) (h1.set i (.dct false (dput kvs k z))) := by
  rw [exS]
  simp [onE, e1, e2, e3, hi, hk, hz, hl]
theorem lk_of {v i : Nat} {e : E} {env : Env} {h : MH} {kvs : List (List L2.Key × D)} {d : D} (ev1 : env[v]? = some (some (.ref i))) (hi : h[i]? = some (.dct false kvs)) (e1 : ev cf e env (h.set i (.dct true kvs)) = .ok d (h.set i (.dct true kvs))) : ev cf (.lk v e) env h = .ok d h := by
  have hl := (List.getElem?_eq_some_iff.mp hi).1
  have he : h.set i (.dct false kvs) = h := by
    have := (List.getElem?_eq_some_iff.mp hi).2
    rw [← this]
    exact List.set_getElem_self hl
  have hg : (h.set i (.dct true kvs))[i]? = some (.dct true kvs) := by simp [hl]
  rw [ev]
  simp only [ev1, hi, e1, hg, List.set_set, he]
/-- a for over a range, the range's end drawn -/
theorem for_rng2 {t : Tg} {l : E} {b : S} {env : Env} {h h1 : MH} (n : Nat) (P : Nat → Env → MH → Prop) (hl : n ≤ SZ) (e : evL cf l env h = .ok [.int (n : Int)] h1)
    (step : ∀ k env h, k < n → P k env h → ∃ env1 env2 h2, bind t (.int (k : Int)) env h = some env1 ∧ exS cf b env1 h = .ok (.nx env2) h2 ∧ P (k + 1) env2 h2) (i : P 0 env h1) :
    ∃ env' h', exS cf (.for_ t .rng l b) env h = .ok (.nx env') h' ∧ P n env' h' := by
  obtain ⟨env', h', e1, p⟩ := forN_inv (s := .rng 0 n) (t := t) (body := exS cf b) (n := n) P (fun k env h hk p => by
    obtain ⟨env1, env2, h2, e1, e2, e3⟩ := step k env h hk p
    exact ⟨.int k, env1, env2, h2, by simp [Src.at, hk], e1, e2, e3⟩) (fun _ _ _ => rfl) n 0 env h1 (by omega) i
  exact ⟨env', h', for_of e (rng_ok hl) e1, p⟩
theorem set_app {h : MH} {j : Nat} {c d : Cell} (hl : j < h.length) : (h ++ [d]).set j c = h.set j c ++ [d] := List.set_append_left _ _ hl
theorem top_list {n : Nat} {h : MH} (n2 : 2 ≤ n) (hn : n ≤ 5) : idxD (.lst [.int 1, .int 1, .int 3, .int 7, .int 15, .int 31]) (.int (n : Int)) h = .ok (.int ((2 ^ n - 1 : Nat) : Int)) h := by
  have : n < 6 := by omega
  match n, this, n2 with
  | 2, _, _ => rfl
  | 3, _, _ => rfl
  | 4, _, _ => rfl
  | 5, _, _ => rfl
/-- what a draw of masses leaves -/
structure Ps (n k : Nat) (ps : List (Nat × Nat)) : Prop where
  lots : ∀ p ∈ ps, 0 < p.1 ∧ p.1 < 2 ^ n
  pos : ∀ p ∈ ps, 0 < p.2
  nd : (ps.map (·.1)).Nodup
  len : ps.length ≤ k
  tot1 : tot ps ≤ 3 * k
  tot0 : k ≤ tot ps
theorem Ps.step {k : Nat} {ps : List (Nat × Nat)} (o : Ps n k ps) {x d : Nat} (h0 : 0 < x) (hx : x < 2 ^ n) (d0 : 0 < d) (d3 : d ≤ 3) : Ps n (k + 1) (upd ps x d) where
  lots := fun p hp => by
    rcases mem_upd hp with z | z
    · exact o.lots p z
    · rw [z.1]; exact ⟨h0, hx⟩
  pos := fun p hp => by
    rcases mem_upd hp with z | z
    · exact o.pos p z
    · omega
  nd := nodup_upd o.nd
  len := by
    have := len_upd ps x d
    have := o.len
    omega
  tot1 := by
    rw [tot_upd]
    have := o.tot1
    omega
  tot0 := by
    rw [tot_upd]
    have := o.tot0
    omega
def msOf (W : Nat) (qs : List (Nat × Nat)) : List (Nat × Rat) := qs.map fun p => (p.1, mkRat (p.2 : Int) W)
theorem ws_of {W : Nat} (hW : W ≠ 0) : ∀ qs : List (Nat × Nat), ws (msOf W qs) tt = mkRat (tot qs : Int) W
  | [] => by simp [msOf, ws, tot]
  | p :: r => by
    have ih := ws_of hW r
    have e : msOf W (p :: r) = (p.1, mkRat (p.2 : Int) W) :: msOf W r := rfl
    rw [e]
    simp only [ws, if_true]
    rw [ih, Rat.mkRat_add_mkRat _ _ hW hW, ← Int.add_mul]
    rw [Rat.mkRat_mul_right hW]
    congr 1
theorem ms_ok {k : Nat} {ps qs : List (Nat × Nat)} (n2 : 2 ≤ n) (n5 : n ≤ 5) (o : Ps n k ps) (k4 : k ≤ 4) (k0 : 0 < k) (hp : qs.Perm ps) (ha : qs.Pairwise fun a b => lotLt n a.1 b.1 = true) : OkM n (msOf (tot ps) qs) := by
  have w1 := o.tot1
  have w0 := o.tot0
  have hW : tot ps ≠ 0 := by omega
  have ht : tot qs = tot ps := (hp.map (f := fun p : Nat × Nat => p.2)).sum_nat
  have hm : ∀ m ∈ msOf (tot ps) qs, ∃ p ∈ ps, m = (p.1, mkRat (p.2 : Int) (tot ps)) := fun m hm => by
    obtain ⟨p, h1, rfl⟩ := List.mem_map.mp hm
    exact ⟨p, hp.mem_iff.mp h1, rfl⟩
  refine ⟨n2, n5, fun m h => ?_, fun m h => ?_, fun m h => ?_, ?_, ?_, ?_⟩
  · obtain ⟨p, h1, rfl⟩ := hm m h
    exact o.lots p h1
  · obtain ⟨p, h1, rfl⟩ := hm m h
    have := o.pos p h1
    have h2 : (0 : Rat) ≤ mkRat (p.2 : Int) (tot ps) := by
      refine Rat.num_nonneg.mp ?_
      rw [Rat.num_mkRat, if_neg hW]
      exact Int.ediv_nonneg (by omega) (by omega)
    have h3 : mkRat (p.2 : Int) (tot ps) ≠ 0 := by
      rw [Ne, Rat.mkRat_eq_zero hW]
      omega
    grind
  · obtain ⟨p, h1, rfl⟩ := hm m h
    exact Nat.le_trans (Dn.den hW ⟨_, rfl⟩) (by omega)
  · unfold msOf
    rw [List.pairwise_map]
    exact ha
  · rw [ws_of hW, ht]
    exact (Rat.mkRat_eq_iff hW (by decide)).mpr (by simp) |>.trans (rfl : mkRat 1 1 = 1)
  · unfold msOf
    rw [List.length_map, hp.length_eq]
    have := o.len
    omega
end
end Mn

set_option maxHeartbeats 4000000
/-! Mn: what the law draws: masses, the def. -/
namespace Mn
open PySem
section
variable {cf : Nat → List D → M D} {n : Nat}
/-- a dip beside one cell more -/
theorem dip_app {c : Nat} (Dp : DipAt cf c) {j : Nat} {h g : MH} {C : Int} {top : Nat} {d : Cell} (hg : ∃ cl, g = h.set j cl) (J : Jar g j C) (hC : C ≤ 1000000) (h0 : 0 < top) (h1 : top ≤ 1000000) : ∃ (r : Nat) (g1 : MH), cf c [.ref j, .int (top : Int)] (g ++ [d]) = .ok (.int (r : Int)) (g1 ++ [d]) ∧ r < top ∧ Jar g1 j (C + 1) ∧ ∃ cl, g1 = h.set j cl := by
  have hl := J.lt
  obtain ⟨r, cl, e, hr, J'⟩ := Dp j (g ++ [d]) C top J.app hC h0 h1
  rw [set_app hl] at e J'
  refine ⟨r, g.set j cl, e, hr, J'.unapp (by simpa using hl), ?_⟩
  obtain ⟨c0, rfl⟩ := hg
  exact ⟨cl, by rw [List.set_set]⟩
theorem len_set {g h : MH} {j : Nat} (hg : ∃ cl, g = h.set j cl) : g.length = h.length := by
  obtain ⟨c0, rfl⟩ := hg
  simp
theorem sum_ints {α : Type} {p : α → Nat} {l : List α} {h : MH} : bltD .sum [.lst (l.map fun a => .int (p a : Int))] h = .ok (.int (((l.map p).sum : Nat) : Int)) h := by
  have e : (l.map fun a => (p a : Int)).sum = (((l.map p).sum : Nat) : Int) := by
    induction l with
    | nil => rfl
    | cons a r ih => simp [ih]
  rw [← e]
  simp [bltD, lItems, ints_map (p := fun a => (p a : Int))]
abbrev DrawAt (cf : Nat → List D → M D) (c : Nat) : Prop := ∀ (j : Nat) (h : MH) (C : Int) (n : Nat), Jar h j C → C ≤ 1000 → 2 ≤ n → n ≤ 5 → ∃ (ms : List (Nat × Rat)) (W : Nat) (g : MH), cf c [.ref j, .int (n : Int)] h = .ok (massesD n ms) g ∧ OkM n ms ∧ W ≠ 0 ∧ W ≤ 12 ∧ (∀ m ∈ ms, Dn W m.2) ∧ Jar g j (C + 10) ∧ ∃ cl, g = h.set j cl
theorem l_masses_ok {c d e : Nat} (Dp : DipAt cf c) (L : LLotAt cf d) (Lw : LowAt cf e) {j : Nat} {h : MH} {C : Int} (J : Jar h j C) (hC : C ≤ 1000) (n2 : 2 ≤ n) (n5 : n ≤ 5) : ∃ (ms : List (Nat × Rat)) (W : Nat) (g : MH), runFn cf (l_masses c d e) [.ref j, .int (n : Int)] h = .ok (massesD n ms) g ∧ OkM n ms ∧ W ≠ 0 ∧ W ≤ 12 ∧ (∀ m ∈ ms, Dn W m.2) ∧ Jar g j (C + 10) ∧ ∃ cl, g = h.set j cl := by
  have hn : n < 6 := by omega
  have hl := J.lt
  have p5 := pow5 n5
  have p2 : 4 ≤ 2 ^ n := Nat.pow_le_pow_right (show 0 < 2 by decide) n2
  have h0s : ∃ cl, h = h.set j cl := ⟨h[j], (List.set_getElem_self hl).symm⟩
  obtain ⟨r0, g0, e0, hr0, J0, hg0⟩ := dip_app Dp (top := 4) (d := .dct false []) h0s J (by omega) (by omega) (by omega)
  have e0 : cf c [.ref j, .int 4] (h ++ [.dct false []]) = .ok (.int (r0 : Int)) (g0 ++ [.dct false []]) := e0
  have s6 : 6 ≤ SZ := by decide
  have cast0 : (1 : Int) + (r0 : Int) = ((1 + r0 : Nat) : Int) := by omega
  obtain ⟨env', h', el, ps, g, o3, o4, rfl, rfl, hg, hps, Jg⟩ := for_rng2 (cf := cf) (t := .nm 3) (l := (.cons (.bin .add (.lit (.int 1)) (.call c (.cons (.var 0) (.cons (.lit (.int 4)) .nil)))) .nil)) (b := (.seq (.asg (.nm 4) (.call d (.cons (.bin .add (.lit (.int 1)) (.call c (.cons (.var 0) (.cons (.idx (.lst (.cons (.lit (.int 1)) (.cons (.lit (.int 1)) (.cons (.lit (.int 3)) (.cons (.lit (.int 7)) (.cons (.lit (.int 15)) (.cons (.lit (.int 31)) .nil))))))) (.var 1)) .nil)))) (.cons (.var 1) .nil))))
      (.seq (.dst (.var 2) (.var 4) (.bin .add (.bin .add (.mth .get (.var 2) (.cons (.var 4) (.cons (.lit (.int 0)) .nil))) (.lit (.int 1))) (.call c (.cons (.var 0) (.cons (.lit (.int 3)) .nil)))))
      .nil))) (env := [some (.ref j), oI n, some (.ref h.length), none, none, none, none]) (h := h ++ [.dct false []]) (h1 := g0 ++ [.dct false []]) (1 + r0)
    (fun k env hh => ∃ (ps : List (Nat × Nat)) (g : MH) (o3 o4 : Option D), env = [some (.ref j), oI n, some (.ref h.length), o3, o4, none, none] ∧ hh = g ++ [.dct false (ps.map (kv n))] ∧ (∃ cl, g = h.set j cl) ∧ Ps n k ps ∧ Jar g j (C + 1 + 2 * k)) (le_SZ (by omega)) (by simp -implicitDefEqProofs [-Int.natCast_ediv, -Int.natCast_pow, -Int.natCast_emod, b_ok, on_ok, tru_bl, tru_int, tru_non, look_0, look_s, v_var, v_lit, v_glb, v_pow, v_neg, v_not, v_bin, v_cmp, v_chn, v_and, v_or, v_ife, v_tup, v_lst, v_cel, v_idx, v_slc, v_call, v_ck, v_blt, v_ex, v_mth, v_isi, v_isN, v_isnN, l_nil, l_cons, o_nil, o_cons, s_asg, s_par, s_exp, s_rtn, s_ite, s_nil, s_pas, s_seq, thn_nx, thn_rt, end_rt, end_nx, bind_nm, bind_tp, binds_nil, binds_cons, cond_nil, Lit.d, ret_ap, neg_int, bin_add, bin_sub, cmp_le, cmp_lt, cmp_gt, cmp_ge, cmp_eq, cmp_ne, idx_fr0, idx_fr1, blt_int, fin_bl, fin_int, fin_non, fin_fr, -Int.natCast_add, e0, cast0]) (fun k env hh hk i => by
      obtain ⟨ps, g, o3, o4, rfl, rfl, hg, hps, Jg⟩ := i
      have ltp : LtP n ps := fun p hp => (hps.lots p hp).2
      obtain ⟨r1, g1, e1, hr1, J1, hg1⟩ := dip_app Dp (top := 2 ^ n - 1) (d := .dct false (ps.map (kv n))) hg Jg (by omega) (by omega) (by omega)
      obtain ⟨r2, g2, e2, hr2, J2, hg2⟩ := dip_app Dp (top := 3) (d := .dct false (ps.map (kv n))) hg1 J1 (by omega) (by omega) (by omega)
      have e2 : cf c [.ref j, .int 3] (g1 ++ [.dct false (ps.map (kv n))]) = .ok (.int (r2 : Int)) (g2 ++ [.dct false (ps.map (kv n))]) := e2
      have tl := fun h => top_list (h := h) n2 n5
      have hx : 1 + r1 < 2 ^ n := by omega
      have l : ∀ h, cf d [.int (1 + (r1 : Int)), .int (n : Int)] h = .ok (lotD n (1 + r1)) h := fun h => by
        have : (1 : Int) + (r1 : Int) = ((1 + r1 : Nat) : Int) := by omega
        rw [this]
        exact L (1 + r1) n h n5
      have lg1 : g1.length = h.length := len_set hg1
      have lg2 : g2.length = h.length := len_set hg2
      have at1 : (g1 ++ [.dct false (ps.map (kv n))])[h.length]? = some (.dct false (ps.map (kv n))) := by rw [← lg1]; exact get_last
      have at2 : (g2 ++ [.dct false (ps.map (kv n))])[h.length]? = some (.dct false (ps.map (kv n))) := by rw [← lg2]; exact get_last
      have mp : mpre .get (.ref h.length) (g1 ++ [.dct false (ps.map (kv n))]) = true := by
        unfold mpre
        simp only [at1]
      have mo : mop .get (.ref h.length) [lotD n (1 + r1), .int 0] (g1 ++ [.dct false (ps.map (kv n))]) = .ok (.int (gt ps (1 + r1) : Int)) (g1 ++ [.dct false (ps.map (kv n))]) := by
        have := dval_kv hn ltp hx
        simp only [mop, tI, at1, key_lot, this]
      have vz : ev cf (.bin .add (.bin .add (.mth .get (.var 2) (.cons (.var 4) (.cons (.lit (.int 0)) .nil))) (.lit (.int 1))) (.call c (.cons (.var 0) (.cons (.lit (.int 3)) .nil)))) [some (.ref j), oI n, some (.ref h.length), oI k, some (lotD n (1 + r1)), none, none] (g1 ++ [.dct false (ps.map (kv n))]) = .ok (.int ((gt ps (1 + r1) + (1 + r2) : Nat) : Int)) (g2 ++ [.dct false (ps.map (kv n))]) := by
        have cz : (gt ps (1 + r1) : Int) + 1 + (r2 : Int) = ((gt ps (1 + r1) + (1 + r2) : Nat) : Int) := by omega
        simp -implicitDefEqProofs [-Int.natCast_ediv, -Int.natCast_pow, -Int.natCast_emod, b_ok, on_ok, tru_bl, tru_int, tru_non, look_0, look_s, v_var, v_lit, v_glb, v_pow, v_neg, v_not, v_bin, v_cmp, v_chn, v_and, v_or, v_ife, v_tup, v_lst, v_cel, v_idx, v_slc, v_call, v_ck, v_blt, v_ex, v_mth, v_isi, v_isN, v_isnN, l_nil, l_cons, o_nil, o_cons, s_asg, s_par, s_exp, s_rtn, s_ite, s_nil, s_pas, s_seq, thn_nx, thn_rt, end_rt, end_nx, bind_nm, bind_tp, binds_nil, binds_cons, cond_nil, Lit.d, ret_ap, neg_int, bin_add, bin_sub, cmp_le, cmp_lt, cmp_gt, cmp_ge, cmp_eq, cmp_ne, idx_fr0, idx_fr1, blt_int, fin_bl, fin_int, fin_non, fin_fr, -Int.natCast_add, mp, mo, e2, cz]
      have ds := dst_of (cf := cf) (a := .var 2) (b := .var 4) (i := h.length) (ks := (lotL n (1 + r1)).map fun k : Nat => .int (k : Int)) vz (by simp -implicitDefEqProofs [-Int.natCast_ediv, -Int.natCast_pow, -Int.natCast_emod, b_ok, on_ok, tru_bl, tru_int, tru_non, look_0, look_s, v_var, v_lit, v_glb, v_pow, v_neg, v_not, v_bin, v_cmp, v_chn, v_and, v_or, v_ife, v_tup, v_lst, v_cel, v_idx, v_slc, v_call, v_ck, v_blt, v_ex, v_mth, v_isi, v_isN, v_isnN, l_nil, l_cons, o_nil, o_cons, s_asg, s_par, s_exp, s_rtn, s_ite, s_nil, s_pas, s_seq, thn_nx, thn_rt, end_rt, end_nx, bind_nm, bind_tp, binds_nil, binds_cons, cond_nil, Lit.d, ret_ap, neg_int, bin_add, bin_sub, cmp_le, cmp_lt, cmp_gt, cmp_ge, cmp_eq, cmp_ne, idx_fr0, idx_fr1, blt_int, fin_bl, fin_int, fin_non, fin_fr]) (by simp -implicitDefEqProofs [-Int.natCast_ediv, -Int.natCast_pow, -Int.natCast_emod, b_ok, on_ok, tru_bl, tru_int, tru_non, look_0, look_s, v_var, v_lit, v_glb, v_pow, v_neg, v_not, v_bin, v_cmp, v_chn, v_and, v_or, v_ife, v_tup, v_lst, v_cel, v_idx, v_slc, v_call, v_ck, v_blt, v_ex, v_mth, v_isi, v_isN, v_isnN, l_nil, l_cons, o_nil, o_cons, s_asg, s_par, s_exp, s_rtn, s_ite, s_nil, s_pas, s_seq, thn_nx, thn_rt, end_rt, end_nx, bind_nm, bind_tp, binds_nil, binds_cons, cond_nil, Lit.d, ret_ap, neg_int, bin_add, bin_sub, cmp_le, cmp_lt, cmp_gt, cmp_ge, cmp_eq, cmp_ne, idx_fr0, idx_fr1, blt_int, fin_bl, fin_int, fin_non, fin_fr]; rfl) at2 key_lot rfl (by
        rw [List.length_map]
        have := hps.len
        have : SZ = 16777216 := rfl
        omega)
      have sl : (g2 ++ [Cell.dct false (ps.map (kv n))]).set h.length (.dct false (dput (ps.map (kv n)) (keyX n (1 + r1)) (.int ((gt ps (1 + r1) + (1 + r2) : Nat) : Int)))) = g2 ++ [.dct false ((upd ps (1 + r1) (1 + r2)).map (kv n))] := by
        rw [dput_kv hn hx ltp hps.nd, ← lg2]
        exact set_last
      rw [sl] at ds
      refine ⟨_, [some (.ref j), oI n, some (.ref h.length), oI k, some (lotD n (1 + r1)), none, none], g2 ++ [.dct false ((upd ps (1 + r1) (1 + r2)).map (kv n))], rfl, ?_, upd ps (1 + r1) (1 + r2), g2, _, _, rfl, rfl, hg2, hps.step (by omega) hx (by omega) (by omega), J2.mono (by omega)⟩
      simp -implicitDefEqProofs [-Int.natCast_ediv, -Int.natCast_pow, -Int.natCast_emod, b_ok, on_ok, tru_bl, tru_int, tru_non, look_0, look_s, v_var, v_lit, v_glb, v_pow, v_neg, v_not, v_bin, v_cmp, v_chn, v_and, v_or, v_ife, v_tup, v_lst, v_cel, v_idx, v_slc, v_call, v_ck, v_blt, v_ex, v_mth, v_isi, v_isN, v_isnN, l_nil, l_cons, o_nil, o_cons, s_asg, s_par, s_exp, s_rtn, s_ite, s_nil, s_pas, s_seq, thn_nx, thn_rt, end_rt, end_nx, bind_nm, bind_tp, binds_nil, binds_cons, cond_nil, Lit.d, ret_ap, neg_int, bin_add, bin_sub, cmp_le, cmp_lt, cmp_gt, cmp_ge, cmp_eq, cmp_ne, idx_fr0, idx_fr1, blt_int, fin_bl, fin_int, fin_non, fin_fr, s6, tl, e1, l, ds])
    ⟨[], g0, none, none, rfl, rfl, hg0, ⟨by simp, by simp, List.nodup_nil, by simp, by simp [tot], by simp [tot]⟩, J0.mono (by omega)⟩
  have lg : g.length = h.length := len_set hg
  have ltp : LtP n ps := fun p hp => (hps.lots p hp).2
  have at0 : (g ++ [.dct false (ps.map (kv n))])[h.length]? = some (.dct false (ps.map (kv n))) := by rw [← lg]; exact get_last
  have at1 : (g ++ [.dct true (ps.map (kv n))])[h.length]? = some (.dct true (ps.map (kv n))) := by rw [← lg]; exact get_last
  have dx : ∀ b, ∀ p ∈ ps, xop .dix [.ref h.length, lotD n p.1] (g ++ [.dct b (ps.map (kv n))]) = .ok (.int (p.2 : Int)) (g ++ [.dct b (ps.map (kv n))]) := fun b p hp => by
    have a : (g ++ [.dct b (ps.map (kv n))])[h.length]? = some (.dct b (ps.map (kv n))) := by rw [← lg]; exact get_last
    have := dval_mem hn ltp hps.nd hp
    simp only [xop, tI, a, key_lot, this]
  have lenp : ps.length ≤ SZ := le_SZ (by have := hps.len; omega)
  have a1 : ev cf (.lc [6] (.ex .dix (.cons (.var 2) (.cons (.var 6) .nil))) (.nm 6) .seq (.cons (.var 2) .nil) .nil) [some (.ref j), oI n, some (.ref h.length), o3, o4, none, none] (g ++ [.dct true (ps.map (kv n))]) = .ok (.lst (ps.map fun p => .int (p.2 : Int))) (g ++ [.dct true (ps.map (kv n))]) := by
    have z := lc_gen (s := .keys ((ps.map (kv n)).map (·.1))) (t := .nm 6) (own := [6]) (cond := condF (ev cf .nil) .nil) (elt := ev cf (.ex .dix (.cons (.var 2) (.cons (.var 6) .nil)))) (env := [some (.ref j), oI n, some (.ref h.length), o3, o4, none, none]) (h := g ++ [.dct true (ps.map (kv n))]) (ys := ps) (f := fun p => lotD n p.1) (fun _ => true) (fun p => .int (p.2 : Int)) (fun k hk => by
      have : (Src.keys ((ps.map (kv n)).map (·.1))).at k (g ++ [.dct true (ps.map (kv n))]) = some (keyT (keyX n ps[k].1)) := by
        simp [Src.at, hk, kv]
      rw [this, keyT_lot]) rfl lenp (fun p hp => ⟨_, rfl, rfl, fun _ => by
        have d1 := dx true p hp
        simp -implicitDefEqProofs [-Int.natCast_ediv, -Int.natCast_pow, -Int.natCast_emod, b_ok, on_ok, tru_bl, tru_int, tru_non, look_0, look_s, v_var, v_lit, v_glb, v_pow, v_neg, v_not, v_bin, v_cmp, v_chn, v_and, v_or, v_ife, v_tup, v_lst, v_cel, v_idx, v_slc, v_call, v_ck, v_blt, v_ex, v_mth, v_isi, v_isN, v_isnN, l_nil, l_cons, o_nil, o_cons, s_asg, s_par, s_exp, s_rtn, s_ite, s_nil, s_pas, s_seq, thn_nx, thn_rt, end_rt, end_nx, bind_nm, bind_tp, binds_nil, binds_cons, cond_nil, Lit.d, ret_ap, neg_int, bin_add, bin_sub, cmp_le, cmp_lt, cmp_gt, cmp_ge, cmp_eq, cmp_ne, idx_fr0, idx_fr1, blt_int, fin_bl, fin_int, fin_non, fin_fr, wipeE, d1]⟩)
    rw [filter_tt] at z
    have cn : (Src.keys ((ps.map (kv n)).map (·.1))).count = ps.length := by simp [Src.count]
    rw [← cn] at z
    refine lc_of (ds := [.ref h.length]) (h1 := g ++ [.dct true (ps.map (kv n))]) (h2 := g ++ [.dct true (ps.map (kv n))]) (by simp -implicitDefEqProofs [-Int.natCast_ediv, -Int.natCast_pow, -Int.natCast_emod, b_ok, on_ok, tru_bl, tru_int, tru_non, look_0, look_s, v_var, v_lit, v_glb, v_pow, v_neg, v_not, v_bin, v_cmp, v_chn, v_and, v_or, v_ife, v_tup, v_lst, v_cel, v_idx, v_slc, v_call, v_ck, v_blt, v_ex, v_mth, v_isi, v_isN, v_isnN, l_nil, l_cons, o_nil, o_cons, s_asg, s_par, s_exp, s_rtn, s_ite, s_nil, s_pas, s_seq, thn_nx, thn_rt, end_rt, end_nx, bind_nm, bind_tp, binds_nil, binds_cons, cond_nil, Lit.d, ret_ap, neg_int, bin_add, bin_sub, cmp_le, cmp_lt, cmp_gt, cmp_ge, cmp_eq, cmp_ne, idx_fr0, idx_fr1, blt_int, fin_bl, fin_int, fin_non, fin_fr]) ?_ z
    simp only [src, at1]
  have a2 : ev cf (.lk 2 (.blt .sum (.cons (.lc [6] (.ex .dix (.cons (.var 2) (.cons (.var 6) .nil))) (.nm 6) .seq (.cons (.var 2) .nil) .nil) .nil))) [some (.ref j), oI n, some (.ref h.length), o3, o4, none, none] (g ++ [.dct false (ps.map (kv n))]) = .ok (.int (tot ps : Int)) (g ++ [.dct false (ps.map (kv n))]) := by
    refine lk_of (i := h.length) (kvs := ps.map (kv n)) rfl at0 ?_
    have sl : (g ++ [Cell.dct false (ps.map (kv n))]).set h.length (.dct true (ps.map (kv n))) = g ++ [.dct true (ps.map (kv n))] := by rw [← lg]; exact set_last
    rw [sl]
    have sm := fun h => sum_ints (p := fun p : Nat × Nat => p.2) (l := ps) (h := h)
    simp -implicitDefEqProofs [-Int.natCast_ediv, -Int.natCast_pow, -Int.natCast_emod, b_ok, on_ok, tru_bl, tru_int, tru_non, look_0, look_s, v_var, v_lit, v_glb, v_pow, v_neg, v_not, v_bin, v_cmp, v_chn, v_and, v_or, v_ife, v_tup, v_lst, v_cel, v_idx, v_slc, v_call, v_ck, v_blt, v_ex, v_mth, v_isi, v_isN, v_isnN, l_nil, l_cons, o_nil, o_cons, s_asg, s_par, s_exp, s_rtn, s_ite, s_nil, s_pas, s_seq, thn_nx, thn_rt, end_rt, end_nx, bind_nm, bind_tp, binds_nil, binds_cons, cond_nil, Lit.d, ret_ap, neg_int, bin_add, bin_sub, cmp_le, cmp_lt, cmp_gt, cmp_ge, cmp_eq, cmp_ne, idx_fr0, idx_fr1, blt_int, fin_bl, fin_int, fin_non, fin_fr, a1, sm]
    rfl
  obtain ⟨qs, hp, ha, hs⟩ := srt_keys hn hps.lots hps.nd
  have a3 : xop .srt [.ref h.length] (g ++ [.dct false (ps.map (kv n))]) = .ok (.lst (qs.map fun p => lotD n p.1)) (g ++ [.dct false (ps.map (kv n))]) := by
    have : (ps.map (kv n)).map (fun q => keyT q.1) = ps.map fun p => lotD n p.1 := by
      rw [List.map_map]
      exact List.map_congr_left fun p _ => keyT_lot
    simp only [xop, sItems, at0, this, Option.bind_some, hs]
  have hW0 := hps.tot0
  have hW1 := hps.tot1
  have s2 : 2 ≤ SZ := by decide
  have a4 := lc_seq' (cf := cf) (own := [6]) (elt := (.tup (.cons (.var 6) (.cons (.call e (.cons (.ex .dix (.cons (.var 2) (.cons (.var 6) .nil))) (.cons (.var 5) .nil))) .nil)))) (t := .nm 6) (l := (.cons (.ex .srt (.cons (.var 2) .nil)) .nil)) (env := [some (.ref j), oI n, some (.ref h.length), o3, o4, oI (tot ps), none]) (h := g ++ [.dct false (ps.map (kv n))]) qs (fun p => lotD n p.1) (fun p => massD n (p.1, mkRat (p.2 : Int) (tot ps))) (by rw [hp.length_eq]; exact lenp) (.inr (by simp -implicitDefEqProofs [-Int.natCast_ediv, -Int.natCast_pow, -Int.natCast_emod, b_ok, on_ok, tru_bl, tru_int, tru_non, look_0, look_s, v_var, v_lit, v_glb, v_pow, v_neg, v_not, v_bin, v_cmp, v_chn, v_and, v_or, v_ife, v_tup, v_lst, v_cel, v_idx, v_slc, v_call, v_ck, v_blt, v_ex, v_mth, v_isi, v_isN, v_isnN, l_nil, l_cons, o_nil, o_cons, s_asg, s_par, s_exp, s_rtn, s_ite, s_nil, s_pas, s_seq, thn_nx, thn_rt, end_rt, end_nx, bind_nm, bind_tp, binds_nil, binds_cons, cond_nil, Lit.d, ret_ap, neg_int, bin_add, bin_sub, cmp_le, cmp_lt, cmp_gt, cmp_ge, cmp_eq, cmp_ne, idx_fr0, idx_fr1, blt_int, fin_bl, fin_int, fin_non, fin_fr, a3])) (fun p hq => by
    have d1 := dx false p (hp.mem_iff.mp hq)
    have lw := fun h => Lw (p.2 : Int) (tot ps) h (by omega) (Nat.le_trans (show tot ps ≤ 2 ^ 4 by omega) (Nat.pow_le_pow_right (by decide) (by decide)))
    refine ⟨_, rfl, ?_⟩
    simp -implicitDefEqProofs [-Int.natCast_ediv, -Int.natCast_pow, -Int.natCast_emod, b_ok, on_ok, tru_bl, tru_int, tru_non, look_0, look_s, v_var, v_lit, v_glb, v_pow, v_neg, v_not, v_bin, v_cmp, v_chn, v_and, v_or, v_ife, v_tup, v_lst, v_cel, v_idx, v_slc, v_call, v_ck, v_blt, v_ex, v_mth, v_isi, v_isN, v_isnN, l_nil, l_cons, o_nil, o_cons, s_asg, s_par, s_exp, s_rtn, s_ite, s_nil, s_pas, s_seq, thn_nx, thn_rt, end_rt, end_nx, bind_nm, bind_tp, binds_nil, binds_cons, cond_nil, Lit.d, ret_ap, neg_int, bin_add, bin_sub, cmp_le, cmp_lt, cmp_gt, cmp_ge, cmp_eq, cmp_ne, idx_fr0, idx_fr1, blt_int, fin_bl, fin_int, fin_non, fin_fr, wipeE, d1, lw, s2]
    rfl)
  refine ⟨msOf (tot ps) qs, tot ps, g, ?_, ms_ok n2 n5 hps (by omega) (by omega) hp ha, by omega, by omega, fun m hm => ?_, Jg.mono (by omega), hg⟩
  · rw [run_eq ⟨rfl, by simp [l_masses]⟩]
    have dn : xop .dnew [] h = .ok (.ref h.length) (h ++ [.dct false []]) := rfl
    simp -implicitDefEqProofs [l_masses, -Int.natCast_ediv, -Int.natCast_pow, -Int.natCast_emod, b_ok, on_ok, tru_bl, tru_int, tru_non, look_0, look_s, v_var, v_lit, v_glb, v_pow, v_neg, v_not, v_bin, v_cmp, v_chn, v_and, v_or, v_ife, v_tup, v_lst, v_cel, v_idx, v_slc, v_call, v_ck, v_blt, v_ex, v_mth, v_isi, v_isN, v_isnN, l_nil, l_cons, o_nil, o_cons, s_asg, s_par, s_exp, s_rtn, s_ite, s_nil, s_pas, s_seq, thn_nx, thn_rt, end_rt, end_nx, bind_nm, bind_tp, binds_nil, binds_cons, cond_nil, Lit.d, ret_ap, neg_int, bin_add, bin_sub, cmp_le, cmp_lt, cmp_gt, cmp_ge, cmp_eq, cmp_ne, idx_fr0, idx_fr1, blt_int, fin_bl, fin_int, fin_non, fin_fr, dn, el, a2, a4, tuple_lst]
    have e5 : D.tup (qs.map fun p => massD n (p.1, mkRat (p.2 : Int) (tot ps))) = massesD n (msOf (tot ps) qs) := by
      unfold massesD msOf
      rw [List.map_map]
      rfl
    rw [e5, ← lg]
    exact fin_drop (plains_map fun _ _ => plain_mass)
  · obtain ⟨p, _, rfl⟩ := List.mem_map.mp hm
    exact ⟨_, rfl⟩
end
end Mn

set_option maxHeartbeats 4000000
/-! k33: beliefs and rooms are right. -/
namespace Mn
theorem nb_map {α : Type} {f : α → D} : ∀ {l : List α}, (∀ a ∈ l, nbD (f a) = true) → nbL (l.map f) = true
  | [], _ => rfl
  | a :: r, h => by
    simp only [List.map_cons, nbL, Bool.and_eq_true]
    exact ⟨h a (by simp), nb_map fun b hb => h b (by simp [hb])⟩
theorem dp_map {α : Type} {f : α → D} {k : Nat} : ∀ {l : List α}, (∀ a ∈ l, dpD (f a) ≤ k) → dpL (l.map f) ≤ k
  | [], _ => Nat.zero_le _
  | a :: r, h => by
    simp only [List.map_cons, dpL]
    have h1 := h a (by simp)
    have h2 := dp_map (l := r) fun b hb => h b (by simp [hb])
    omega
theorem nb_vec {N : Nat} {v : Nat → Rat} : nbD (vecD N v) = true := nb_map fun _ _ => nb_fr
theorem dp_vec {N : Nat} {v : Nat → Rat} : dpD (vecD N v) ≤ 64 := by
  have := dp_map (f := fun x => fr (v x)) (k := 1) (l := List.range N) fun _ _ => Nat.le_of_eq dp_fr
  show dpL _ + 1 ≤ 64
  omega
theorem dp_tI1 {ks : List Nat} : dpD (tI ks) ≤ 1 := by
  have := dp_map (f := fun k : Nat => D.int (k : Int)) (k := 0) (l := ks) fun _ _ => Nat.le_refl _
  show dpL _ + 1 ≤ 1
  omega
theorem nb_masses {n : Nat} {ms : List (Nat × Rat)} : nbD (massesD n ms) = true := nb_map fun m _ => by
  show (nbD (lotD n m.1) && (nbD (fr m.2) && true)) = true
  rw [nb_tI]
  rfl
theorem dp_masses {n : Nat} {ms : List (Nat × Rat)} : dpD (massesD n ms) ≤ 64 := by
  have := dp_map (f := massD n) (k := 2) (l := ms) fun m _ => by
    show max (dpD (lotD n m.1)) (max (dpD (fr m.2)) 0) + 1 ≤ 2
    have h1 := dp_tI1 (ks := lotL n m.1)
    have h2 : dpD (fr m.2) = 1 := dp_fr
    have h3 : dpD (lotD n m.1) ≤ 1 := h1
    omega
  show dpL _ + 1 ≤ 64
  omega
theorem same_vec {N : Nat} {v : Nat → Rat} {h : MH} : cmpD .ne (vecD N v) (vecD N v) h = .ok (.bl false) h := neD_same nb_vec dp_vec
theorem same_masses {n : Nat} {ms : List (Nat × Rat)} {h : MH} : cmpD .ne (massesD n ms) (massesD n ms) h = .ok (.bl false) h := neD_same nb_masses dp_masses
theorem same_fr {q : Rat} {h : MH} : cmpD .ne (fr q) (fr q) h = .ok (.bl false) h := by rw [ne_fr]; simp
/-! ### dict of masses -/
def kvm (n : Nat) (m : Nat × Rat) : List L2.Key × D := (keyX n m.1, fr m.2)
section
variable {cf : Nat → List D → M D} {n : Nat} {ms : List (Nat × Rat)}
theorem dpairs_ms (hn : n < 6) : ∀ {ms acc : List (Nat × Rat)}, (∀ m ∈ acc ++ ms, m.1 < 2 ^ n) → ((acc ++ ms).map (·.1)).Nodup → dpairs (ms.map (massD n)) (acc.map (kvm n)) = some ((acc ++ ms).map (kvm n))
  | [], acc, _, _ => by simp [dpairs]
  | m :: r, acc, hl, hd => by
    have hm := hl m (by simp)
    have no : (acc.map (kvm n)).any (fun q => decide (q.1 = keyX n m.1)) = false := by
      rw [List.any_eq_false]
      intro q hq
      obtain ⟨a, ha, rfl⟩ := List.mem_map.mp hq
      have hne : a.1 ≠ m.1 := fun e => by
        rw [List.map_append, List.nodup_append] at hd
        exact hd.2.2 a.1 (List.mem_map_of_mem (f := (·.1)) ha) m.1 (by simp) e
      have : ¬ keyX n a.1 = keyX n m.1 := fun z => hne ((key_inj hn (hl a (by simp [ha])) hm).mp z)
      simp [kvm, this]
    have e : dpairs ((m :: r).map (massD n)) (acc.map (kvm n)) = dpairs (r.map (massD n)) (dput (acc.map (kvm n)) (keyX n m.1) (fr m.2)) := by
      rw [List.map_cons]
      show dpairs (.tup [.tup ((lotL n m.1).map fun k : Nat => .int (k : Int)), fr m.2] :: r.map (massD n)) _ = _
      simp only [dpairs, key_lot]
    have e2 : dput (acc.map (kvm n)) (keyX n m.1) (fr m.2) = (acc ++ [m]).map (kvm n) := by
      unfold dput
      rw [no]
      simp [kvm]
    have e3 : acc ++ m :: r = (acc ++ [m]) ++ r := by simp
    rw [e, e2, e3]
    exact dpairs_ms hn (by rw [← e3]; exact hl) (by rw [← e3]; exact hd)
theorem dval_ms (hn : n < 6) {x : Nat} (hx : x < 2 ^ n) : ∀ {ms : List (Nat × Rat)}, (∀ m ∈ ms, m.1 < 2 ^ n) → (ms.map (·.1)).Nodup → (dval (ms.map (kvm n)) (keyX n x)).getD (fr 0) = fr (ws ms fun y => decide (y = x))
  | [], _, _ => rfl
  | m :: r, hl, hd => by
    have hm := hl m (by simp)
    simp only [List.map_cons, List.nodup_cons] at hd
    have ih := dval_ms hn hx (ms := r) (fun m h => hl m (by simp [h])) hd.2
    unfold dval at ih ⊢
    simp only [List.map_cons, List.find?_cons, kvm, ws]
    by_cases e : m.1 = x
    · have k1 : decide (keyX n m.1 = keyX n x) = true := decide_eq_true ((key_inj hn hm hx).mpr e)
      have w0 : ws r (fun y => decide (y = x)) = 0 := ws_none fun q hq => decide_eq_false fun z => hd.1 (by rw [e, ← z]; exact List.mem_map_of_mem (f := (·.1)) hq)
      rw [k1, w0]
      simp only [e, decide_true, if_true, Option.map_some, Option.getD_some]
      congr 1
      grind
    · have k1 : decide (keyX n m.1 = keyX n x) = false := decide_eq_false fun z => e ((key_inj hn hm hx).mp z)
      rw [k1]
      have : (if decide (m.1 = x) = true then m.2 else 0) + ws r (fun y => decide (y = x)) = ws r (fun y => decide (y = x)) := by
        simp [e]
        grind
      rw [this]
      exact ih
theorem dps_ok (o : OkM n ms) {h : MH} : xop .dps [.lst (ms.map (massD n))] h = .ok (.ref h.length) (h ++ [.dct false (ms.map (kvm n))]) := by
  have n5 := o.n5
  have e := dpairs_ms (n := n) (by omega) (ms := ms) (acc := []) (fun m hm => (o.lots m (by simpa using hm)).2) (by simpa using o.nodupF)
  have e : dpairs (ms.map (massD n)) [] = some (ms.map (kvm n)) := e
  have hp : plains ((ms.map (kvm n)).map (·.2)) = true := by
    rw [List.map_map]
    exact plains_map fun _ _ => plain_fr
  have hl : (ms.map (kvm n)).length ≤ SZ := by rw [List.length_map]; exact ms_len o
  simp only [xop, lItems, Option.bind_some, e]
  rw [if_pos ⟨hp, hl⟩]
end
end Mn
namespace K33
open Mn
/- _law_one_right: c0=_law_beliefs c1=beliefs c2=_law_lot c3=belief c4=room c5=_law_room c6=_law_plus c7=masses_of c8=gathers c9=numbers_of -/
def l_one_right (c0 c1 c2 c3 c4 c5 c6 c7 c8 c9 : Nat) : Fn := ⟨8, 2, (.seq (.asg (.nm 2) (.call c0 (.cons (.var 0) (.cons (.var 1) .nil))))
      (.seq (.ite (.or (.cmp .ne (.call c1 (.cons (.var 0) (.cons (.var 1) .nil))) (.var 2)) (.cmp .ne (.ck c1 [1, 0] (.cons (.var 1) (.cons (.var 0) .nil))) (.var 2))) (.seq (.rtn (.lit (.bl false)))
      .nil) .nil)
      (.seq (.for_ (.nm 3) .rng (.cons (.blt .len (.cons (.var 2) .nil)) .nil) (.seq (.asg (.nm 4) (.call c2 (.cons (.var 3) (.cons (.var 0) .nil))))
      (.seq (.asg (.nm 5) (.blt .tuple (.cons (.lc [6] (.var 6) (.nm 6) .rng (.cons (.var 0) .nil) (.cmp .noti (.var 6) (.var 4))) .nil)))
      (.seq (.ite (.cmp .ne (.call c3 (.cons (.var 0) (.cons (.var 1) (.cons (.var 4) .nil)))) (.idx (.var 2) (.var 3))) (.seq (.rtn (.lit (.bl false)))
      .nil) .nil)
      (.seq (.ite (.cmp .ne (.call c4 (.cons (.var 0) (.cons (.var 1) (.cons (.var 4) .nil)))) (.call c5 (.cons (.var 1) (.cons (.var 4) .nil)))) (.seq (.rtn (.lit (.bl false)))
      .nil) .nil)
      (.seq (.ite (.cmp .ne (.call c6 (.cons (.idx (.var 2) (.var 3)) (.cons (.ck c4 [2, 1, 0] (.cons (.var 5) (.cons (.var 1) (.cons (.var 0) .nil)))) .nil))) (.tup (.cons (.lit (.int 1)) (.cons (.lit (.int 1)) .nil)))) (.seq (.rtn (.lit (.bl false)))
      .nil) .nil)
      .nil))))))
      (.seq (.ite (.or (.cmp .ne (.call c7 (.cons (.var 2) .nil)) (.var 1)) (.and (.cmp .lt (.var 0) (.lit (.int 5))) (.not (.call c8 (.cons (.var 2) .nil))))) (.seq (.rtn (.lit (.bl false)))
      .nil) .nil)
      (.seq (.asg (.nm 7) (.call c9 (.cons (.var 2) .nil)))
      (.seq (.for_ (.nm 3) .rng (.cons (.blt .len (.cons (.var 2) .nil)) .nil) (.seq (.ite (.cmp .ne (.idx (.var 7) (.var 3)) (.mth .get (.ex .dps (.cons (.blt .list (.cons (.var 1) .nil)) .nil)) (.cons (.call c2 (.cons (.var 3) (.cons (.var 0) .nil))) (.cons (.tup (.cons (.lit (.int 0)) (.cons (.lit (.int 1)) .nil))) .nil)))) (.seq (.rtn (.lit (.bl false)))
      .nil) .nil)
      .nil))
      (.seq (.rtn (.lit (.bl true)))
      .nil))))))), false⟩
/- _law_right: c0=_law_one_of c1=_law_one_right c2=_law_masses c3=_law_lot c4=_law_dip c5=beliefs -/
def l_right (c0 c1 c2 c3 c4 c5 : Nat) : Fn := ⟨8, 1, (.seq (.for_ (.nm 1) .rng (.cons (.lit (.int 2)) .nil) (.seq (.asg (.nm 2) (.call c0 (.cons (.var 0) (.cons (.lst (.cons (.lit (.int 2)) (.cons (.lit (.int 3)) (.cons (.lit (.int 3)) (.cons (.lit (.int 4)) (.cons (.lit (.int 5)) .nil)))))) .nil))))
      (.seq (.ite (.not (.call c1 (.cons (.var 2) (.cons (.call c2 (.cons (.var 0) (.cons (.var 2) .nil))) .nil)))) (.seq (.rtn (.lit (.bl false)))
      .nil) .nil)
      .nil)))
      (.seq (.asg (.nm 3) (.call c3 (.cons (.bin .add (.lit (.int 1)) (.call c4 (.cons (.var 0) (.cons (.lit (.int 7)) .nil)))) (.cons (.lit (.int 3)) .nil))))
      (.seq (.asg (.nm 4) (.call c5 (.cons (.lit (.int 3)) (.cons (.tup (.cons (.tup (.cons (.var 3) (.cons (.tup (.cons (.lit (.int 1)) (.cons (.lit (.int 1)) .nil))) .nil))) .nil)) .nil))))
      (.seq (.for_ (.nm 5) .rng (.cons (.lit (.int 8)) .nil) (.seq (.asg (.nm 6) (.cmp .eq (.lc [7] (.var 7) (.nm 7) .seq (.cons (.var 3) .nil) (.cmp .noti (.var 7) (.call c3 (.cons (.var 5) (.cons (.lit (.int 3)) .nil))))) (.lst .nil)))
      (.seq (.ite (.cmp .ne (.idx (.var 4) (.var 5)) (.tup (.cons (.blt .int (.cons (.var 6) .nil)) (.cons (.lit (.int 1)) .nil)))) (.seq (.rtn (.lit (.bl false)))
      .nil) .nil)
      .nil)))
      (.seq (.rtn (.lit (.bl true)))
      .nil))))), false⟩
section
variable {cf : Nat → List D → M D} {n : Nat} {ms : List (Nat × Rat)}
abbrev LBeliefsAt (cf : Nat → List D → M D) (c : Nat) : Prop := ∀ (n : Nat) (ms : List (Nat × Rat)) h, OkM n ms → cf c [.int n, massesD n ms] h = .ok (vecD (2 ^ n) (bel n ms)) h
abbrev LRoomAt (cf : Nat → List D → M D) (c : Nat) : Prop := ∀ (n : Nat) (ms : List (Nat × Rat)) (y : Nat) h, OkM n ms → cf c [massesD n ms, lotD n y] h = .ok (fr (rom n ms y)) h
theorem sz_rom (o : OkM n ms) {y : Nat} : Sz 1900 (rom n ms y) := o.sz_ws (pre := ms) (post := []) (by simp)
theorem sz_bel (o : OkM n ms) {y : Nat} : Sz 1900 (bel n ms y) := o.sz_ws (pre := ms) (post := []) (by simp)
theorem one_right_ok {c0 c1 c2 c3 c4 c5 c6 c7 c8 c9 : Nat} (A0 : LBeliefsAt cf c0) (A1 : BeliefsAt cf c1) (A2 : LLotAt cf c2) (A3 : BeliefAt cf c3) (A4 : RoomAt cf c4) (A5 : LRoomAt cf c5) (A6 : PlusAt cf c6) (A7 : MassesOfAt cf c7) (A8 : GathersAt cf c8) (A9 : NumbersOfAt cf c9) {h : MH} (o : OkM n ms) {W : Nat} (hW : W ≠ 0) (hW2 : W ≤ 1000000) (hd : ∀ m ∈ ms, Dn W m.2) :
    runFn cf (l_one_right c0 c1 c2 c3 c4 c5 c6 c7 c8 c9) [.int n, massesD n ms] h = .ok (.bl true) h := by
  have n5 := o.n5
  have hn : n < 6 := by omega
  have p5 := pow5 n5
  have ov := bel_ok o hW hW2 hd
  have a0 := fun h => A0 n ms h o
  have a1 := fun h => A1 n ms h o
  have u : D.tup [.int 1, .int 1] = fr 1 := rfl
  have z : D.tup [.int 0, .int 1] = fr 0 := rfl
  have s2 : 2 ≤ SZ := by decide
  have ln := fun h => len_vec (v := bel n ms) (N := 2 ^ n) (h := h)
  obtain ⟨env1, h1, el1, rfl, o3, o4, o5, rfl⟩ := for_rng (cf := cf) (t := .nm 3) (l := (.cons (.blt .len (.cons (.var 2) .nil)) .nil)) (b := (.seq (.asg (.nm 4) (.call c2 (.cons (.var 3) (.cons (.var 0) .nil))))
      (.seq (.asg (.nm 5) (.blt .tuple (.cons (.lc [6] (.var 6) (.nm 6) .rng (.cons (.var 0) .nil) (.cmp .noti (.var 6) (.var 4))) .nil)))
      (.seq (.ite (.cmp .ne (.call c3 (.cons (.var 0) (.cons (.var 1) (.cons (.var 4) .nil)))) (.idx (.var 2) (.var 3))) (.seq (.rtn (.lit (.bl false)))
      .nil) .nil)
      (.seq (.ite (.cmp .ne (.call c4 (.cons (.var 0) (.cons (.var 1) (.cons (.var 4) .nil)))) (.call c5 (.cons (.var 1) (.cons (.var 4) .nil)))) (.seq (.rtn (.lit (.bl false)))
      .nil) .nil)
      (.seq (.ite (.cmp .ne (.call c6 (.cons (.idx (.var 2) (.var 3)) (.cons (.ck c4 [2, 1, 0] (.cons (.var 5) (.cons (.var 1) (.cons (.var 0) .nil)))) .nil))) (.tup (.cons (.lit (.int 1)) (.cons (.lit (.int 1)) .nil)))) (.seq (.rtn (.lit (.bl false)))
      .nil) .nil)
      .nil)))))) (env := [oI n, some (massesD n ms), some (vecD (2 ^ n) (bel n ms)), none, none, none, none, none]) (h := h) (2 ^ n) (fun k env h' => h' = h ∧ ∃ o3 o4 o5, env = [oI n, some (massesD n ms), some (vecD (2 ^ n) (bel n ms)), o3, o4, o5, none, none]) (le_SZ (by omega)) (by simp -implicitDefEqProofs [-Int.natCast_ediv, -Int.natCast_pow, -Int.natCast_emod, b_ok, on_ok, tru_bl, tru_int, tru_non, look_0, look_s, v_var, v_lit, v_glb, v_pow, v_neg, v_not, v_bin, v_cmp, v_chn, v_and, v_or, v_ife, v_tup, v_lst, v_cel, v_idx, v_slc, v_call, v_ck, v_blt, v_ex, v_mth, v_isi, v_isN, v_isnN, l_nil, l_cons, o_nil, o_cons, s_asg, s_par, s_exp, s_rtn, s_ite, s_nil, s_pas, s_seq, thn_nx, thn_rt, end_rt, end_nx, bind_nm, bind_tp, binds_nil, binds_cons, cond_nil, Lit.d, ret_ap, neg_int, bin_add, bin_sub, cmp_le, cmp_lt, cmp_gt, cmp_ge, cmp_eq, cmp_ne, idx_fr0, idx_fr1, blt_int, fin_bl, fin_int, fin_non, fin_fr, ln]) (fun k env h' hk i => by
    obtain ⟨rfl, o3, o4, o5, rfl⟩ := i
    have a2 := fun h => A2 k n h n5
    have a3 := fun h => A3 n ms k h o
    have a4 := fun h => A4 n ms k h o
    have a4' := fun h => A4 n ms (2 ^ n - 1 - k) h o
    have a5 := fun h => A5 n ms k h o
    have a6 := fun h => A6 (bel n ms k) (rom n ms (2 ^ n - 1 - k)) h (sz_bel o) (sz_rom o)
    rw [bel_rom o hk] at a6
    have ix := fun h => idx_vec (v := bel n ms) (h := h) hk
    have lc := lc_rng (cf := cf) (own := [6]) (elt := .var 6) (t := .nm 6) (l := .cons (.var 0) .nil) (c := .cmp .noti (.var 6) (.var 4)) (env := [oI n, some (massesD n ms), some (vecD (2 ^ n) (bel n ms)), oI k, some (lotD n k), o5, none, none]) (h := h') n (fun j => !decide (j ∈ lotL n k)) (fun j => .int (j : Int)) (le_SZ (by omega)) (by simp -implicitDefEqProofs [-Int.natCast_ediv, -Int.natCast_pow, -Int.natCast_emod, b_ok, on_ok, tru_bl, tru_int, tru_non, look_0, look_s, v_var, v_lit, v_glb, v_pow, v_neg, v_not, v_bin, v_cmp, v_chn, v_and, v_or, v_ife, v_tup, v_lst, v_cel, v_idx, v_slc, v_call, v_ck, v_blt, v_ex, v_mth, v_isi, v_isN, v_isnN, l_nil, l_cons, o_nil, o_cons, s_asg, s_par, s_exp, s_rtn, s_ite, s_nil, s_pas, s_seq, thn_nx, thn_rt, end_rt, end_nx, bind_nm, bind_tp, binds_nil, binds_cons, cond_nil, Lit.d, ret_ap, neg_int, bin_add, bin_sub, cmp_le, cmp_lt, cmp_gt, cmp_ge, cmp_eq, cmp_ne, idx_fr0, idx_fr1, blt_int, fin_bl, fin_int, fin_non, fin_fr]) (fun j hj => by
      refine ⟨_, rfl, ?_, fun _ => ?_⟩
      · rw [cond_of (by simp)]
        simp -implicitDefEqProofs [-Int.natCast_ediv, -Int.natCast_pow, -Int.natCast_emod, b_ok, on_ok, tru_bl, tru_int, tru_non, look_0, look_s, v_var, v_lit, v_glb, v_pow, v_neg, v_not, v_bin, v_cmp, v_chn, v_and, v_or, v_ife, v_tup, v_lst, v_cel, v_idx, v_slc, v_call, v_ck, v_blt, v_ex, v_mth, v_isi, v_isN, v_isnN, l_nil, l_cons, o_nil, o_cons, s_asg, s_par, s_exp, s_rtn, s_ite, s_nil, s_pas, s_seq, thn_nx, thn_rt, end_rt, end_nx, bind_nm, bind_tp, binds_nil, binds_cons, cond_nil, Lit.d, ret_ap, neg_int, bin_add, bin_sub, cmp_le, cmp_lt, cmp_gt, cmp_ge, cmp_eq, cmp_ne, idx_fr0, idx_fr1, blt_int, fin_bl, fin_int, fin_non, fin_fr, wipeE, noti_tI]
      · simp -implicitDefEqProofs [-Int.natCast_ediv, -Int.natCast_pow, -Int.natCast_emod, b_ok, on_ok, tru_bl, tru_int, tru_non, look_0, look_s, v_var, v_lit, v_glb, v_pow, v_neg, v_not, v_bin, v_cmp, v_chn, v_and, v_or, v_ife, v_tup, v_lst, v_cel, v_idx, v_slc, v_call, v_ck, v_blt, v_ex, v_mth, v_isi, v_isN, v_isnN, l_nil, l_cons, o_nil, o_cons, s_asg, s_par, s_exp, s_rtn, s_ite, s_nil, s_pas, s_seq, thn_nx, thn_rt, end_rt, end_nx, bind_nm, bind_tp, binds_nil, binds_cons, cond_nil, Lit.d, ret_ap, neg_int, bin_add, bin_sub, cmp_le, cmp_lt, cmp_gt, cmp_ge, cmp_eq, cmp_ne, idx_fr0, idx_fr1, blt_int, fin_bl, fin_int, fin_non, fin_fr, wipeE])
    rw [rest_lot n hn k hk] at lc
    have tl : ∀ h, bltD .tuple [.lst ((lotL n (2 ^ n - 1 - k)).map fun j : Nat => .int (j : Int))] h = .ok (lotD n (2 ^ n - 1 - k)) h := fun h => rfl
    refine ⟨_, [oI n, some (massesD n ms), some (vecD (2 ^ n) (bel n ms)), oI k, some (lotD n k), some (lotD n (2 ^ n - 1 - k)), none, none], _, rfl, ?_, rfl, _, _, _, rfl⟩
    simp -implicitDefEqProofs [-Int.natCast_ediv, -Int.natCast_pow, -Int.natCast_emod, b_ok, on_ok, tru_bl, tru_int, tru_non, look_0, look_s, v_var, v_lit, v_glb, v_pow, v_neg, v_not, v_bin, v_cmp, v_chn, v_and, v_or, v_ife, v_tup, v_lst, v_cel, v_idx, v_slc, v_call, v_ck, v_blt, v_ex, v_mth, v_isi, v_isN, v_isnN, l_nil, l_cons, o_nil, o_cons, s_asg, s_par, s_exp, s_rtn, s_ite, s_nil, s_pas, s_seq, thn_nx, thn_rt, end_rt, end_nx, bind_nm, bind_tp, binds_nil, binds_cons, cond_nil, Lit.d, ret_ap, neg_int, bin_add, bin_sub, cmp_le, cmp_lt, cmp_gt, cmp_ge, cmp_eq, cmp_ne, idx_fr0, idx_fr1, blt_int, fin_bl, fin_int, fin_non, fin_fr, a2, lc, tl, a3, a4, a4', a5, a6, ix, u, s2, same_fr, pickL]) ⟨rfl, none, none, none, rfl⟩
  have a7 := fun h => A7 n (bel n ms) ms h ov o (bel_num o)
  have a8 : n < 5 → ∀ h, cf c8 [vecD (2 ^ n) (bel n ms)] h = .ok (.bl true) h := fun h4 h => A8 n (bel n ms) h ov (bel_gather o h4)
  have a9 := fun h => A9 n (bel n ms) h ov
  have ln2 := fun h => len_vec (v := bel n ms) (N := 2 ^ n) (h := h)
  obtain ⟨env2, h2, el2, ⟨cs, rfl⟩, o3', rfl⟩ := for_rng (cf := cf) (t := .nm 3) (l := (.cons (.blt .len (.cons (.var 2) .nil)) .nil)) (b := (.seq (.ite (.cmp .ne (.idx (.var 7) (.var 3)) (.mth .get (.ex .dps (.cons (.blt .list (.cons (.var 1) .nil)) .nil)) (.cons (.call c2 (.cons (.var 3) (.cons (.var 0) .nil))) (.cons (.tup (.cons (.lit (.int 0)) (.cons (.lit (.int 1)) .nil))) .nil)))) (.seq (.rtn (.lit (.bl false)))
      .nil) .nil)
      .nil)) (env := [oI n, some (massesD n ms), some (vecD (2 ^ n) (bel n ms)), o3, o4, o5, none, some (vecD (2 ^ n) (mob (bel n ms) n))]) (h := h1) (2 ^ n) (fun k env h' => (∃ cs, h' = h1 ++ cs) ∧ ∃ o3, env = [oI n, some (massesD n ms), some (vecD (2 ^ n) (bel n ms)), o3, o4, o5, none, some (vecD (2 ^ n) (mob (bel n ms) n))]) (le_SZ (by omega)) (by simp -implicitDefEqProofs [-Int.natCast_ediv, -Int.natCast_pow, -Int.natCast_emod, b_ok, on_ok, tru_bl, tru_int, tru_non, look_0, look_s, v_var, v_lit, v_glb, v_pow, v_neg, v_not, v_bin, v_cmp, v_chn, v_and, v_or, v_ife, v_tup, v_lst, v_cel, v_idx, v_slc, v_call, v_ck, v_blt, v_ex, v_mth, v_isi, v_isN, v_isnN, l_nil, l_cons, o_nil, o_cons, s_asg, s_par, s_exp, s_rtn, s_ite, s_nil, s_pas, s_seq, thn_nx, thn_rt, end_rt, end_nx, bind_nm, bind_tp, binds_nil, binds_cons, cond_nil, Lit.d, ret_ap, neg_int, bin_add, bin_sub, cmp_le, cmp_lt, cmp_gt, cmp_ge, cmp_eq, cmp_ne, idx_fr0, idx_fr1, blt_int, fin_bl, fin_int, fin_non, fin_fr, ln]) (fun k env h' hk i => by
    obtain ⟨⟨cs, rfl⟩, o3, rfl⟩ := i
    generalize hh : h1 ++ cs = g
    have a2 := fun h => A2 k n h n5
    have ix := fun h => idx_vec (v := mob (bel n ms) n) (h := h) hk
    have ls : ∀ h, bltD .list [massesD n ms] h = .ok (.lst (ms.map (massD n))) h := fun h => rfl
    have dp := dps_ok o (h := g)
    have at1 : (g ++ [.dct false (ms.map (kvm n))])[g.length]? = some (.dct false (ms.map (kvm n))) := get_last
    have mp : mpre .get (.ref g.length) (g ++ [.dct false (ms.map (kvm n))]) = true := by
      unfold mpre
      simp only [at1]
    have mo : mop .get (.ref g.length) [lotD n k, fr 0] (g ++ [.dct false (ms.map (kvm n))]) = .ok (fr (mob (bel n ms) n k)) (g ++ [.dct false (ms.map (kvm n))]) := by
      have := dval_ms hn hk (fun m hm => (o.lots m hm).2) o.nodupF
      rw [← bel_num o k hk] at this
      simp only [mop, tI, at1, key_lot, this]
    refine ⟨_, [oI n, some (massesD n ms), some (vecD (2 ^ n) (bel n ms)), oI k, o4, o5, none, some (vecD (2 ^ n) (mob (bel n ms) n))], g ++ [.dct false (ms.map (kvm n))], rfl, ?_, ⟨cs ++ [.dct false (ms.map (kvm n))], by rw [← hh, List.append_assoc]⟩, _, rfl⟩
    simp -implicitDefEqProofs [-Int.natCast_ediv, -Int.natCast_pow, -Int.natCast_emod, b_ok, on_ok, tru_bl, tru_int, tru_non, look_0, look_s, v_var, v_lit, v_glb, v_pow, v_neg, v_not, v_bin, v_cmp, v_chn, v_and, v_or, v_ife, v_tup, v_lst, v_cel, v_idx, v_slc, v_call, v_ck, v_blt, v_ex, v_mth, v_isi, v_isN, v_isnN, l_nil, l_cons, o_nil, o_cons, s_asg, s_par, s_exp, s_rtn, s_ite, s_nil, s_pas, s_seq, thn_nx, thn_rt, end_rt, end_nx, bind_nm, bind_tp, binds_nil, binds_cons, cond_nil, Lit.d, ret_ap, neg_int, bin_add, bin_sub, cmp_le, cmp_lt, cmp_gt, cmp_ge, cmp_eq, cmp_ne, idx_fr0, idx_fr1, blt_int, fin_bl, fin_int, fin_non, fin_fr, ix, ls, dp, mp, a2, z, s2, mo, same_fr]) ⟨⟨[], by simp⟩, o3, rfl⟩
  rw [run_eq ⟨rfl, by simp [l_one_right]⟩]
  have ft : fin false h1.length (.bl true) (h1 ++ cs) = .ok (.bl true) h1 := by simp [fin, plain]
  by_cases h4 : n < 5
  · have a8' := a8 h4
    have h4' : (n : Int) < 5 := by omega
    simp -implicitDefEqProofs [l_one_right, -Int.natCast_ediv, -Int.natCast_pow, -Int.natCast_emod, b_ok, on_ok, tru_bl, tru_int, tru_non, look_0, look_s, v_var, v_lit, v_glb, v_pow, v_neg, v_not, v_bin, v_cmp, v_chn, v_and, v_or, v_ife, v_tup, v_lst, v_cel, v_idx, v_slc, v_call, v_ck, v_blt, v_ex, v_mth, v_isi, v_isN, v_isnN, l_nil, l_cons, o_nil, o_cons, s_asg, s_par, s_exp, s_rtn, s_ite, s_nil, s_pas, s_seq, thn_nx, thn_rt, end_rt, end_nx, bind_nm, bind_tp, binds_nil, binds_cons, cond_nil, Lit.d, ret_ap, neg_int, bin_add, bin_sub, cmp_le, cmp_lt, cmp_gt, cmp_ge, cmp_eq, cmp_ne, idx_fr0, idx_fr1, blt_int, fin_bl, fin_int, fin_non, fin_fr, a0, a1, pickL, same_vec, el1, a7, same_masses, h4, h4', a8', a9, el2, ft]
  · have h4' : ¬ (n : Int) < 5 := by omega
    simp -implicitDefEqProofs [l_one_right, -Int.natCast_ediv, -Int.natCast_pow, -Int.natCast_emod, b_ok, on_ok, tru_bl, tru_int, tru_non, look_0, look_s, v_var, v_lit, v_glb, v_pow, v_neg, v_not, v_bin, v_cmp, v_chn, v_and, v_or, v_ife, v_tup, v_lst, v_cel, v_idx, v_slc, v_call, v_ck, v_blt, v_ex, v_mth, v_isi, v_isN, v_isnN, l_nil, l_cons, o_nil, o_cons, s_asg, s_par, s_exp, s_rtn, s_ite, s_nil, s_pas, s_seq, thn_nx, thn_rt, end_rt, end_nx, bind_nm, bind_tp, binds_nil, binds_cons, cond_nil, Lit.d, ret_ap, neg_int, bin_add, bin_sub, cmp_le, cmp_lt, cmp_gt, cmp_ge, cmp_eq, cmp_ne, idx_fr0, idx_fr1, blt_int, fin_bl, fin_int, fin_non, fin_fr, a0, a1, pickL, same_vec, el1, a7, same_masses, h4, h4', a9, el2, ft]
abbrev OneRightAt (cf : Nat → List D → M D) (c : Nat) : Prop := ∀ (n : Nat) (ms : List (Nat × Rat)) (W : Nat) h, OkM n ms → W ≠ 0 → W ≤ 1000000 → (∀ m ∈ ms, Dn W m.2) → cf c [.int n, massesD n ms] h = .ok (.bl true) h
theorem ok_single {x : Nat} (h0 : 0 < x) (hx : x < 8) : OkM 3 [(x, 1)] where
  n2 := by decide
  n5 := by decide
  lots := by simpa using ⟨h0, hx⟩
  pos := fun m hm => by
    simp at hm
    subst hm
    exact (by decide : (0 : Rat) < 1)
  den := by simp
  asc := List.pairwise_singleton _ _
  sum := by simp [ws]; grind
  len := by simp
theorem bel_single {x y : Nat} : bel 3 [(x, 1)] y = if subB 3 x y then 1 else 0 := by
  simp only [bel, ws]
  split <;> grind
theorem right_ok {c0 c1 c2 c3 c4 c5 : Nat} (A0 : OneOfAt cf c0) (A1 : OneRightAt cf c1) (A2 : DrawAt cf c2) (A3 : LLotAt cf c3) (A4 : DipAt cf c4) (A5 : BeliefsAt cf c5) {h : MH} {j : Nat} (J : Jar h j 0) : ∃ h', runFn cf (l_right c0 c1 c2 c3 c4 c5) [.ref j] h = .ok (.bl true) h' := by
  have hl := J.lt
  have s5 : 5 ≤ SZ := by decide
  have s1 : 1 ≤ SZ := by decide
  have s2 : 2 ≤ SZ := by decide
  have s0 : 0 ≤ SZ := by decide
  obtain ⟨env1, g, el1, hg, J1, o1, o2, rfl⟩ := for_rng (cf := cf) (t := .nm 1) (l := .cons (.lit (.int 2)) .nil) (b := (.seq (.asg (.nm 2) (.call c0 (.cons (.var 0) (.cons (.lst (.cons (.lit (.int 2)) (.cons (.lit (.int 3)) (.cons (.lit (.int 3)) (.cons (.lit (.int 4)) (.cons (.lit (.int 5)) .nil)))))) .nil))))
      (.seq (.ite (.not (.call c1 (.cons (.var 2) (.cons (.call c2 (.cons (.var 0) (.cons (.var 2) .nil))) .nil)))) (.seq (.rtn (.lit (.bl false)))
      .nil) .nil)
      .nil))) (env := [some (.ref j), none, none, none, none, none, none, none]) (h := h) 2 (fun k env g => (∃ cl, g = h.set j cl) ∧ Jar g j (11 * k) ∧ ∃ o1 o2, env = [some (.ref j), o1, o2, none, none, none, none, none]) (by decide) (by simp -implicitDefEqProofs [-Int.natCast_ediv, -Int.natCast_pow, -Int.natCast_emod, b_ok, on_ok, tru_bl, tru_int, tru_non, look_0, look_s, v_var, v_lit, v_glb, v_pow, v_neg, v_not, v_bin, v_cmp, v_chn, v_and, v_or, v_ife, v_tup, v_lst, v_cel, v_idx, v_slc, v_call, v_ck, v_blt, v_ex, v_mth, v_isi, v_isN, v_isnN, l_nil, l_cons, o_nil, o_cons, s_asg, s_par, s_exp, s_rtn, s_ite, s_nil, s_pas, s_seq, thn_nx, thn_rt, end_rt, end_nx, bind_nm, bind_tp, binds_nil, binds_cons, cond_nil, Lit.d, ret_ap, neg_int, bin_add, bin_sub, cmp_le, cmp_lt, cmp_gt, cmp_ge, cmp_eq, cmp_ne, idx_fr0, idx_fr1, blt_int, fin_bl, fin_int, fin_non, fin_fr]) (fun k env g hk i => by
    obtain ⟨⟨cl, hg⟩, J1, o1, o2, rfl⟩ := i
    obtain ⟨d, cl1, e1, hd, J2⟩ := A0 j g _ [.int 2, .int 3, .int 3, .int 4, .int 5] J1 (by omega) (by simp) (by simp) (by simp [plain])
    obtain ⟨n, rfl, n2, n5⟩ : ∃ n : Nat, d = .int (n : Int) ∧ 2 ≤ n ∧ n ≤ 5 := by
      simp at hd
      rcases hd with rfl | rfl | rfl | rfl
      · exact ⟨2, rfl, by decide, by decide⟩
      · exact ⟨3, rfl, by decide, by decide⟩
      · exact ⟨4, rfl, by decide, by decide⟩
      · exact ⟨5, rfl, by decide, by decide⟩
    generalize hg1 : g.set j cl1 = g1 at e1 J2
    obtain ⟨ms, W, g2, e2, om, hW, hW2, hdn, J3, cl2, hg2⟩ := A2 j g1 _ n J2 (by omega) n2 n5
    have e3 := fun h => A1 n ms W h om hW (by omega) hdn
    refine ⟨_, [some (.ref j), oI k, oI n, none, none, none, none, none], g2, rfl, ?_, ⟨cl2, by rw [hg2, ← hg1, hg, List.set_set, List.set_set]⟩, J3.mono (by omega), _, _, rfl⟩
    simp -implicitDefEqProofs [-Int.natCast_ediv, -Int.natCast_pow, -Int.natCast_emod, b_ok, on_ok, tru_bl, tru_int, tru_non, look_0, look_s, v_var, v_lit, v_glb, v_pow, v_neg, v_not, v_bin, v_cmp, v_chn, v_and, v_or, v_ife, v_tup, v_lst, v_cel, v_idx, v_slc, v_call, v_ck, v_blt, v_ex, v_mth, v_isi, v_isN, v_isnN, l_nil, l_cons, o_nil, o_cons, s_asg, s_par, s_exp, s_rtn, s_ite, s_nil, s_pas, s_seq, thn_nx, thn_rt, end_rt, end_nx, bind_nm, bind_tp, binds_nil, binds_cons, cond_nil, Lit.d, ret_ap, neg_int, bin_add, bin_sub, cmp_le, cmp_lt, cmp_gt, cmp_ge, cmp_eq, cmp_ne, idx_fr0, idx_fr1, blt_int, fin_bl, fin_int, fin_non, fin_fr, s5, e1, e2, e3]) ⟨⟨h[j], (List.set_getElem_self hl).symm⟩, J.mono (by omega), none, none, rfl⟩
  obtain ⟨r, cl, e4, hr, J4⟩ := A4 j g _ 7 J1 (by omega) (by omega) (by omega)
  generalize hg1 : g.set j cl = g1 at e4 J4
  have e4 : cf c4 [.ref j, .int 7] g = .ok (.int (r : Int)) g1 := e4
  have hx : 1 + r < 8 := by omega
  have l3 : ∀ h, cf c3 [.int (1 + (r : Int)), .int 3] h = .ok (lotD 3 (1 + r)) h := fun h => by
    have : (1 : Int) + (r : Int) = ((1 + r : Nat) : Int) := by omega
    rw [this]
    exact A3 (1 + r) 3 h (by decide)
  have om := ok_single (x := 1 + r) (by omega) hx
  have e5 : ∀ h, cf c5 [.int 3, .tup [.tup [lotD 3 (1 + r), fr 1]]] h = .ok (vecD 8 (bel 3 [(1 + r, 1)])) h := fun h => A5 3 [(1 + r, 1)] h om
  have u : D.tup [.int 1, .int 1] = fr 1 := rfl
  obtain ⟨env2, h2, el2, rfl, o5, o6, rfl⟩ := for_rng (cf := cf) (t := .nm 5) (l := .cons (.lit (.int 8)) .nil) (b := (.seq (.asg (.nm 6) (.cmp .eq (.lc [7] (.var 7) (.nm 7) .seq (.cons (.var 3) .nil) (.cmp .noti (.var 7) (.call c3 (.cons (.var 5) (.cons (.lit (.int 3)) .nil))))) (.lst .nil)))
      (.seq (.ite (.cmp .ne (.idx (.var 4) (.var 5)) (.tup (.cons (.blt .int (.cons (.var 6) .nil)) (.cons (.lit (.int 1)) .nil)))) (.seq (.rtn (.lit (.bl false)))
      .nil) .nil)
      .nil))) (env := [some (.ref j), o1, o2, some (lotD 3 (1 + r)), some (vecD 8 (bel 3 [(1 + r, 1)])), none, none, none]) (h := g1) 8 (fun k env g => g = g1 ∧ ∃ o5 o6, env = [some (.ref j), o1, o2, some (lotD 3 (1 + r)), some (vecD 8 (bel 3 [(1 + r, 1)])), o5, o6, none]) (by decide) (by simp -implicitDefEqProofs [-Int.natCast_ediv, -Int.natCast_pow, -Int.natCast_emod, b_ok, on_ok, tru_bl, tru_int, tru_non, look_0, look_s, v_var, v_lit, v_glb, v_pow, v_neg, v_not, v_bin, v_cmp, v_chn, v_and, v_or, v_ife, v_tup, v_lst, v_cel, v_idx, v_slc, v_call, v_ck, v_blt, v_ex, v_mth, v_isi, v_isN, v_isnN, l_nil, l_cons, o_nil, o_cons, s_asg, s_par, s_exp, s_rtn, s_ite, s_nil, s_pas, s_seq, thn_nx, thn_rt, end_rt, end_nx, bind_nm, bind_tp, binds_nil, binds_cons, cond_nil, Lit.d, ret_ap, neg_int, bin_add, bin_sub, cmp_le, cmp_lt, cmp_gt, cmp_ge, cmp_eq, cmp_ne, idx_fr0, idx_fr1, blt_int, fin_bl, fin_int, fin_non, fin_fr]) (fun k env g hk i => by
    obtain ⟨rfl, o5, o6, rfl⟩ := i
    have a3 := fun h => A3 k 3 h (by decide)
    have a3 : ∀ h, cf c3 [.int (k : Int), .int 3] h = .ok (lotD 3 k) h := a3
    have lc := lc_seq (cf := cf) (own := [7]) (elt := .var 7) (t := .nm 7) (l := .cons (.var 3) .nil) (c := (.cmp .noti (.var 7) (.call c3 (.cons (.var 5) (.cons (.lit (.int 3)) .nil))))) (env := [some (.ref j), o1, o2, some (lotD 3 (1 + r)), some (vecD 8 (bel 3 [(1 + r, 1)])), oI k, o6, none]) (h := g) (lotL 3 (1 + r)) (fun k => .int (k : Int)) (fun i => !decide (i ∈ lotL 3 k)) (fun k => .int (k : Int)) (le_SZ (Nat.le_trans lot_len (by decide))) (.inl (by simp -implicitDefEqProofs [-Int.natCast_ediv, -Int.natCast_pow, -Int.natCast_emod, b_ok, on_ok, tru_bl, tru_int, tru_non, look_0, look_s, v_var, v_lit, v_glb, v_pow, v_neg, v_not, v_bin, v_cmp, v_chn, v_and, v_or, v_ife, v_tup, v_lst, v_cel, v_idx, v_slc, v_call, v_ck, v_blt, v_ex, v_mth, v_isi, v_isN, v_isnN, l_nil, l_cons, o_nil, o_cons, s_asg, s_par, s_exp, s_rtn, s_ite, s_nil, s_pas, s_seq, thn_nx, thn_rt, end_rt, end_nx, bind_nm, bind_tp, binds_nil, binds_cons, cond_nil, Lit.d, ret_ap, neg_int, bin_add, bin_sub, cmp_le, cmp_lt, cmp_gt, cmp_ge, cmp_eq, cmp_ne, idx_fr0, idx_fr1, blt_int, fin_bl, fin_int, fin_non, fin_fr, tI])) (fun i hi => by
      refine ⟨_, rfl, ?_, fun _ => ?_⟩
      · rw [cond_of (by simp)]
        simp -implicitDefEqProofs [-Int.natCast_ediv, -Int.natCast_pow, -Int.natCast_emod, b_ok, on_ok, tru_bl, tru_int, tru_non, look_0, look_s, v_var, v_lit, v_glb, v_pow, v_neg, v_not, v_bin, v_cmp, v_chn, v_and, v_or, v_ife, v_tup, v_lst, v_cel, v_idx, v_slc, v_call, v_ck, v_blt, v_ex, v_mth, v_isi, v_isN, v_isnN, l_nil, l_cons, o_nil, o_cons, s_asg, s_par, s_exp, s_rtn, s_ite, s_nil, s_pas, s_seq, thn_nx, thn_rt, end_rt, end_nx, bind_nm, bind_tp, binds_nil, binds_cons, cond_nil, Lit.d, ret_ap, neg_int, bin_add, bin_sub, cmp_le, cmp_lt, cmp_gt, cmp_ge, cmp_eq, cmp_ne, idx_fr0, idx_fr1, blt_int, fin_bl, fin_int, fin_non, fin_fr, wipeE, a3, noti_tI]
      · simp -implicitDefEqProofs [-Int.natCast_ediv, -Int.natCast_pow, -Int.natCast_emod, b_ok, on_ok, tru_bl, tru_int, tru_non, look_0, look_s, v_var, v_lit, v_glb, v_pow, v_neg, v_not, v_bin, v_cmp, v_chn, v_and, v_or, v_ife, v_tup, v_lst, v_cel, v_idx, v_slc, v_call, v_ck, v_blt, v_ex, v_mth, v_isi, v_isN, v_isnN, l_nil, l_cons, o_nil, o_cons, s_asg, s_par, s_exp, s_rtn, s_ite, s_nil, s_pas, s_seq, thn_nx, thn_rt, end_rt, end_nx, bind_nm, bind_tp, binds_nil, binds_cons, cond_nil, Lit.d, ret_ap, neg_int, bin_add, bin_sub, cmp_le, cmp_lt, cmp_gt, cmp_ge, cmp_eq, cmp_ne, idx_fr0, idx_fr1, blt_int, fin_bl, fin_int, fin_non, fin_fr, wipeE])
    have ix := fun h => idx_vec (v := bel 3 [(1 + r, 1)]) (N := 8) (h := h) hk
    have bi : ∀ h, bltD .int [.bl (subB 3 (1 + r) k)] h = .ok (.int (if subB 3 (1 + r) k then 1 else 0)) h := fun h => rfl
    have cm : ∀ h, cmpD .ne (fr (bel 3 [(1 + r, 1)] k)) (.tup [.int (if subB 3 (1 + r) k then 1 else 0), .int 1]) h = .ok (.bl false) h := fun h => by
      have : D.tup [.int (if subB 3 (1 + r) k then 1 else 0), .int 1] = fr (bel 3 [(1 + r, 1)] k) := by
        rw [bel_single]
        split <;> rfl
      rw [this]
      exact same_fr
    refine ⟨_, [some (.ref j), o1, o2, some (lotD 3 (1 + r)), some (vecD 8 (bel 3 [(1 + r, 1)])), oI k, some (.bl (subB 3 (1 + r) k)), none], _, rfl, ?_, rfl, _, _, rfl⟩
    cases hs : subB 3 (1 + r) k with
    | false =>
      rw [hs] at bi cm
      simp only [Bool.false_eq_true, if_false] at bi cm
      simp -implicitDefEqProofs [-Int.natCast_ediv, -Int.natCast_pow, -Int.natCast_emod, b_ok, on_ok, tru_bl, tru_int, tru_non, look_0, look_s, v_var, v_lit, v_glb, v_pow, v_neg, v_not, v_bin, v_cmp, v_chn, v_and, v_or, v_ife, v_tup, v_lst, v_cel, v_idx, v_slc, v_call, v_ck, v_blt, v_ex, v_mth, v_isi, v_isN, v_isnN, l_nil, l_cons, o_nil, o_cons, s_asg, s_par, s_exp, s_rtn, s_ite, s_nil, s_pas, s_seq, thn_nx, thn_rt, end_rt, end_nx, bind_nm, bind_tp, binds_nil, binds_cons, cond_nil, Lit.d, ret_ap, neg_int, bin_add, bin_sub, cmp_le, cmp_lt, cmp_gt, cmp_ge, cmp_eq, cmp_ne, idx_fr0, idx_fr1, blt_int, fin_bl, fin_int, fin_non, fin_fr, s0, s2, lc, eq_nil, out_empty, hs, ix, bi, cm]
    | true =>
      rw [hs] at bi cm
      simp only [if_true] at bi cm
      simp -implicitDefEqProofs [-Int.natCast_ediv, -Int.natCast_pow, -Int.natCast_emod, b_ok, on_ok, tru_bl, tru_int, tru_non, look_0, look_s, v_var, v_lit, v_glb, v_pow, v_neg, v_not, v_bin, v_cmp, v_chn, v_and, v_or, v_ife, v_tup, v_lst, v_cel, v_idx, v_slc, v_call, v_ck, v_blt, v_ex, v_mth, v_isi, v_isN, v_isnN, l_nil, l_cons, o_nil, o_cons, s_asg, s_par, s_exp, s_rtn, s_ite, s_nil, s_pas, s_seq, thn_nx, thn_rt, end_rt, end_nx, bind_nm, bind_tp, binds_nil, binds_cons, cond_nil, Lit.d, ret_ap, neg_int, bin_add, bin_sub, cmp_le, cmp_lt, cmp_gt, cmp_ge, cmp_eq, cmp_ne, idx_fr0, idx_fr1, blt_int, fin_bl, fin_int, fin_non, fin_fr, s0, s2, lc, eq_nil, out_empty, hs, ix, bi, cm]) ⟨rfl, none, none, rfl⟩
  refine ⟨h2.take h.length, ?_⟩
  rw [run_eq ⟨rfl, by simp [l_right]⟩]
  simp -implicitDefEqProofs [l_right, -Int.natCast_ediv, -Int.natCast_pow, -Int.natCast_emod, b_ok, on_ok, tru_bl, tru_int, tru_non, look_0, look_s, v_var, v_lit, v_glb, v_pow, v_neg, v_not, v_bin, v_cmp, v_chn, v_and, v_or, v_ife, v_tup, v_lst, v_cel, v_idx, v_slc, v_call, v_ck, v_blt, v_ex, v_mth, v_isi, v_isN, v_isnN, l_nil, l_cons, o_nil, o_cons, s_asg, s_par, s_exp, s_rtn, s_ite, s_nil, s_pas, s_seq, thn_nx, thn_rt, end_rt, end_nx, bind_nm, bind_tp, binds_nil, binds_cons, cond_nil, Lit.d, ret_ap, neg_int, bin_add, bin_sub, cmp_le, cmp_lt, cmp_gt, cmp_ge, cmp_eq, cmp_ne, idx_fr0, idx_fr1, blt_int, fin_bl, fin_int, fin_non, fin_fr, el1, e4, l3, u, s1, s2, e5, el2]
  simp [fin, plain]
end
end K33

set_option maxHeartbeats 4000000
/-! Mn: numbers of bounds by signs, bounds by numbers. -/
namespace Mn
def lin (c : Nat → Int) (v : Nat → Rat) : Nat → Rat
  | 0 => 0
  | N + 1 => lin c v N + (c N : Rat) * v N
theorem lin_congr {c d : Nat → Int} {v : Nat → Rat} : ∀ {N : Nat}, (∀ y < N, c y = d y) → lin c v N = lin d v N
  | 0, _ => rfl
  | N + 1, h => by
    simp only [lin]
    rw [lin_congr (N := N) fun y hy => h y (by omega), h N (by omega)]
theorem lin_sub {c d : Nat → Int} {v : Nat → Rat} : ∀ {N : Nat}, lin (fun y => c y - d y) v N = lin c v N - lin d v N
  | 0 => by simp [lin]; grind
  | N + 1 => by
    simp only [lin]
    rw [lin_sub (N := N), Rat.intCast_sub]
    grind
theorem lin_add {c d : Nat → Int} {v : Nat → Rat} : ∀ {N : Nat}, lin (fun y => c y + d y) v N = lin c v N + lin d v N
  | 0 => by simp [lin]; grind
  | N + 1 => by
    simp only [lin]
    rw [lin_add (N := N), Rat.intCast_add]
    grind
theorem lin_zero {v : Nat → Rat} : ∀ {N : Nat}, lin (fun _ => 0) v N = 0
  | 0 => rfl
  | N + 1 => by
    simp only [lin]
    rw [lin_zero (N := N)]
    grind
theorem lin_one {v : Nat → Rat} {x : Nat} : ∀ {N : Nat}, lin (fun y => if x = y then 1 else 0) v N = if x < N then v x else 0
  | 0 => rfl
  | N + 1 => by
    simp only [lin]
    rw [lin_one (N := N)]
    by_cases e : x = N
    · subst e
      simp
      grind
    · by_cases h : x < N
      · have h2 : x < N + 1 := by omega
        simp [e, h, h2]
        grind
      · have h2 : ¬ x < N + 1 := by omega
        simp [e, h, h2]
        grind
/-- linear in the vector -/
theorem lin_vec {c : Nat → Int} {v w : Nat → Rat} {a b : Rat} : ∀ {N : Nat}, lin c (fun y => a * v y + b * w y) N = a * lin c v N + b * lin c w N
  | 0 => by simp [lin]; grind
  | N + 1 => by
    simp only [lin]
    rw [lin_vec (N := N)]
    grind
def cof : Nat → Nat → Nat → Int
  | 0, x, y => if x = y then 1 else 0
  | p + 1, x, y => if x / 2 ^ p % 2 == 1 then cof p x y - cof p (x - 2 ^ p) y else cof p x y
theorem mob_lin {v : Nat → Rat} {N : Nat} : ∀ (p x : Nat), x < N → mob v p x = lin (cof p x) v N
  | 0, x, hx => by
    have : lin (cof 0 x) v N = lin (fun y => if x = y then 1 else 0) v N := lin_congr fun _ _ => rfl
    rw [this, lin_one, if_pos hx]
    rfl
  | p + 1, x, hx => by
    simp only [mob]
    have h1 := mob_lin (v := v) p x hx
    have h2 := mob_lin (v := v) p (x - 2 ^ p) (Nat.lt_of_le_of_lt (Nat.sub_le _ _) hx)
    by_cases hb : (x / 2 ^ p % 2 == 1) = true
    · rw [if_pos hb, h1, h2, ← lin_sub]
      exact lin_congr fun y _ => by simp [cof, hb]
    · rw [if_neg hb, h1]
      exact lin_congr fun y _ => by simp [cof, hb]
/-- the sign of a lot within another one -/
def sgn (n x y : Nat) : Int := if ((lotL n x).length : Int) - ((lotL n y).length : Int) ≥ 0 ∧ ((lotL n x).length - (lotL n y).length) % 2 = 0 then 1 else -1
def sg (n x y : Nat) : Int := if (((lotL n x).length : Int) - ((lotL n y).length : Int)) % 2 = 0 then 1 else -1
theorem cof_sg : ∀ n < 5, ∀ x < 2 ^ n, ∀ y < 2 ^ n, cof n x y = if subB n y x then sg n x y else 0 := by decide +kernel
/-- sums of integers over the places that are so -/
def zsI (P : Nat → Bool) (f : Nat → Int) : Nat → Int
  | 0 => 0
  | N + 1 => zsI P f N + if P N then f N else 0
def zs (P : Nat → Bool) (f : Nat → Rat) : Nat → Rat
  | 0 => 0
  | N + 1 => zs P f N + if P N then f N else 0
theorem zeta : ∀ n < 5, ∀ x < 2 ^ n, ∀ y < 2 ^ n, zsI (fun z => subB n z x) (fun z => cof n z y) (2 ^ n) = if x = y then 1 else 0 := by decide +kernel
theorem zs_lin {P : Nat → Bool} {c : Nat → Nat → Int} {v : Nat → Rat} {M : Nat} : ∀ {N : Nat}, zs P (fun x => lin (c x) v M) N = lin (fun y => zsI P (fun x => c x y) N) v M
  | 0 => by simp only [zs, zsI]; exact lin_zero.symm
  | N + 1 => by
    simp only [zs, zsI]
    rw [zs_lin (N := N)]
    cases hp : P N with
    | true =>
      simp only [if_true]
      rw [← lin_add]
    | false =>
      simp
      grind
theorem zs_congr {P : Nat → Bool} {f g : Nat → Rat} : ∀ {N : Nat}, (∀ x < N, f x = g x) → zs P f N = zs P g N
  | 0, _ => rfl
  | N + 1, h => by
    simp only [zs]
    rw [zs_congr (N := N) fun x hx => h x (by omega), h N (by omega)]
/-- bounds by their numbers -/
theorem mob_inv {n : Nat} (hn : n < 5) {v : Nat → Rat} {x : Nat} (hx : x < 2 ^ n) : zs (fun z => subB n z x) (mob v n) (2 ^ n) = v x := by
  rw [zs_congr (g := fun z => lin (cof n z) v (2 ^ n)) fun z hz => mob_lin n z hz, zs_lin]
  rw [lin_congr (d := fun y => if x = y then 1 else 0) fun y hy => zeta n hn x hx y hy, lin_one, if_pos hx]
theorem ws_perm {P : Nat → Bool} {ms ns : List (Nat × Rat)} (h : ms.Perm ns) : ws ms P = ws ns P := by
  induction h with
  | nil => rfl
  | cons x _ ih => simp only [ws, ih]
  | swap x y l => simp only [ws]; grind
  | trans _ _ h1 h2 => rw [h1, h2]
/-- the places with a number above 0 -/
def posL (f : Nat → Rat) (N : Nat) : List (Nat × Rat) := ((List.range N).filter fun x => decide (0 < (f x).num)).map fun x => (x, f x)
theorem posL_succ {f : Nat → Rat} {N : Nat} : posL f (N + 1) = posL f N ++ if 0 < (f N).num then [(N, f N)] else [] := by
  unfold posL
  rw [List.range_succ, List.filter_append, List.map_append]
  congr 1
  by_cases h : 0 < (f N).num <;> simp [h]
theorem ws_posL {P : Nat → Bool} {f : Nat → Rat} : ∀ {N : Nat}, (∀ x < N, 0 ≤ f x) → ws (posL f N) P = zs P f N
  | 0, _ => rfl
  | N + 1, h => by
    rw [posL_succ, ws_append, ws_posL (N := N) fun x hx => h x (by omega)]
    simp only [zs]
    congr 1
    by_cases hp : 0 < (f N).num
    · rw [if_pos hp]
      simp only [ws]
      grind
    · rw [if_neg hp]
      have h0 := h N (by omega)
      have : f N = 0 := by
        have h1 := Rat.num_nonneg.mpr h0
        have h2 : (f N).num = 0 := by omega
        exact Rat.num_eq_zero.mp h2
      simp only [ws, this]
      split <;> rfl
theorem mem_posL {f : Nat → Rat} {N : Nat} {m : Nat × Rat} (h : m ∈ posL f N) : m.1 < N ∧ m.2 = f m.1 ∧ 0 < (f m.1).num := by
  obtain ⟨x, hx, rfl⟩ := List.mem_map.mp h
  obtain ⟨h1, h2⟩ := List.mem_filter.mp hx
  exact ⟨by simpa using h1, rfl, by simpa using h2⟩
theorem nodup_posL {f : Nat → Rat} {N : Nat} : ((posL f N).map (·.1)).Nodup := by
  unfold posL
  rw [List.map_map]
  have : ((fun m : Nat × Rat => m.1) ∘ fun x => (x, f x)) = id := rfl
  rw [this, List.map_id]
  exact List.Pairwise.filter _ List.nodup_range
/-- masses, sorted -/
theorem srt_mass {n : Nat} (hn : n < 6) {l : List (Nat × Rat)} (hl : ∀ m ∈ l, m.1 < 2 ^ n) (hd : (l.map (·.1)).Nodup) : ∃ qs : List (Nat × Rat), qs.Perm l ∧ qs.Pairwise (fun a b => lotLt n a.1 b.1 = true) ∧ srtO (l.map (massD n)) = some (qs.map (massD n)) := by
  obtain ⟨qs, hp, e⟩ := perm_inv (f := massD n) (srtD_perm (l.map (massD n))) rfl
  have ha := srtD_asc (l.map (massD n))
  rw [e] at ha
  have hall : ((l.map (massD n)).all okT || (l.map (massD n)).all okTT) = true := by
    have : (l.map (massD n)).all okTT = true := by
      rw [List.all_eq_true]
      intro x hx
      obtain ⟨m, _, rfl⟩ := List.mem_map.mp hx
      exact tt_ok
    rw [this, Bool.or_true]
  refine ⟨qs, hp, ?_, srtO_of hall (hp.map _) ha⟩
  rw [Asc, List.pairwise_map] at ha
  have hd2 : qs.Pairwise fun a b => a.1 ≠ b.1 := by
    have := (hp.map (·.1)).nodup_iff.mpr hd
    rwa [List.Nodup, List.pairwise_map] at this
  refine List.Pairwise.imp_of_mem (fun {a b} ha hb h => ?_) (ha.and hd2)
  have la := hl a (hp.mem_iff.mp ha)
  have lb := hl b (hp.mem_iff.mp hb)
  rcases lt_tri n hn a.1 la b.1 lb with z | z | z
  · exact absurd z h.2
  · exact z
  · have ne : lotI n b.1 ≠ lotI n a.1 := fun e => by
      have h2 := lt_irr n hn a.1 la
      unfold lotLt at z h2
      rw [e, h2] at z
      cases z
    have : ltD (massD n b) (massD n a) = true := by
      show lex2 [skE (lotD n b.1), skE (fr b.2)] [skE (lotD n a.1), skE (fr a.2)] = true
      rw [sk_tI, sk_tI]
      show (if lotI n b.1 = lotI n a.1 then _ else HT.lexLt (lotI n b.1) (lotI n a.1)) = true
      rw [if_neg ne]
      exact z
    rw [this] at h
    cases h.1
end Mn

set_option maxHeartbeats 4000000
/-! Mn: masses of bounds, all cases; the law's own numbers. -/
namespace Mn
theorem Dn.neg {W : Nat} {p : Rat} (hp : Dn W p) : Dn W (-p) := by
  obtain ⟨a, rfl⟩ := hp
  exact ⟨-a, Rat.neg_mkRat a W⟩
theorem Dn.sub {W : Nat} {p q : Rat} (hW : W ≠ 0) (hp : Dn W p) (hq : Dn W q) : Dn W (p - q) := by
  have := Dn.add hW hp hq.neg
  have e : p + -q = p - q := by grind
  rwa [e] at this
theorem pos_num {q : Rat} (h : 0 < q.num) : 0 < q := by
  have := (Rat.lt_iff 0 q).mpr (by simpa using h)
  exact this
section
variable {cf : Nat → List D → M D} {n : Nat} {v : Nat → Rat}
theorem mob_dn {W : Nat} (hW : W ≠ 0) (hd : ∀ x < 2 ^ n, Dn W (v x)) : ∀ (p x : Nat), x < 2 ^ n → Dn W (mob v p x)
  | 0, x, hx => hd x hx
  | p + 1, x, hx => by
    have h1 := mob_dn hW hd p x hx
    have h2 := mob_dn hW hd p (x - 2 ^ p) (Nat.lt_of_le_of_lt (Nat.sub_le _ _) hx)
    simp only [mob]
    split
    · exact h1.sub hW h2
    · exact h1
theorem mob_zero : ∀ p : Nat, mob v p 0 = v 0
  | 0 => rfl
  | p + 1 => by
    simp only [mob]
    simp [mob_zero p]
theorem zs_single {f : Nat → Rat} {x : Nat} : ∀ {N : Nat}, zs (fun y => decide (y = x)) f N = if x < N then f x else 0
  | 0 => rfl
  | N + 1 => by
    simp only [zs]
    rw [zs_single (N := N)]
    by_cases e : N = x
    · subst e
      simp
      grind
    · by_cases h : x < N
      · have h2 : x < N + 1 := by omega
        simp [e, h, h2]
        grind
      · have h2 : ¬ x < N + 1 := by omega
        simp [e, h, h2]
        grind
/-- bounds whose numbers are not below 0 come of masses -/
theorem come {W : Nat} (hn : n < 5) (o : OkV n v) (hW : W ≠ 0) (hW2 : W ≤ 1000000) (hd : ∀ x < 2 ^ n, Dn W (v x)) (h0 : ∀ x < 2 ^ n, 0 ≤ mob v n x) :
    ∃ ms : List (Nat × Rat), OkM n ms ∧ srtO ((posL (mob v n) (2 ^ n)).map (massD n)) = some (ms.map (massD n)) ∧ (∀ x < 2 ^ n, mob v n x = ws ms fun y => decide (y = x)) ∧ ∀ x < 2 ^ n, bel n ms x = v x := by
  obtain ⟨ms, hp, ha, hs⟩ := srt_mass (n := n) (by omega) (l := posL (mob v n) (2 ^ n)) (fun m hm => (mem_posL hm).1) nodup_posL
  have hw : ∀ P, ws ms P = zs P (mob v n) (2 ^ n) := fun P => by rw [ws_perm hp, ws_posL h0]
  have np := Nat.two_pow_pos n
  refine ⟨ms, ⟨o.n2, o.n5, fun m hm => ?_, fun m hm => ?_, fun m hm => ?_, ha, ?_, ?_⟩, hs, fun x hx => ?_, fun x hx => ?_⟩
  · obtain ⟨h1, h2, h3⟩ := mem_posL (hp.mem_iff.mp hm)
    refine ⟨?_, h1⟩
    rcases Nat.eq_zero_or_pos m.1 with z | z
    · rw [z, mob_zero, o.bot] at h3
      simp at h3
    · exact z
  · obtain ⟨h1, h2, h3⟩ := mem_posL (hp.mem_iff.mp hm)
    rw [h2]
    exact pos_num h3
  · obtain ⟨h1, h2, h3⟩ := mem_posL (hp.mem_iff.mp hm)
    rw [h2]
    exact Nat.le_trans (Dn.den hW (mob_dn hW hd n m.1 h1)) hW2
  · rw [hw, ← o.top, ← mob_inv hn (v := v) (x := 2 ^ n - 1) (by omega)]
    have : ∀ N, N ≤ 2 ^ n → zs tt (mob v n) N = zs (fun z => subB n z (2 ^ n - 1)) (mob v n) N := fun N hN => by
      induction N with
      | zero => rfl
      | succ N ih =>
        simp only [zs]
        have hs := sub_all n (by omega) N (by omega)
        simp [ih (by omega), hs]
    exact this _ (Nat.le_refl _)
  · rw [hp.length_eq]
    unfold posL
    rw [List.length_map]
    refine Nat.le_trans (List.length_filter_le _ _) ?_
    rw [List.length_range]
    have : 2 ^ n ≤ 2 ^ 4 := Nat.pow_le_pow_right (by decide) (by omega)
    omega
  · rw [hw, zs_single, if_pos hx]
  · show ws ms _ = _
    rw [hw, mob_inv hn hx]
abbrev MassesNoAt (cf : Nat → List D → M D) (c : Nat) : Prop := ∀ (n : Nat) (v : Nat → Rat) h, OkV n v → (∃ x < 2 ^ n, mob v n x < 0) → cf c [vecD (2 ^ n) v] h = .ok .non h
theorem masses_by_no {c d : Nat} (N : NumbersAt cf c) {h : MH} (o : OkV n v) (hx : ∃ x < 2 ^ n, mob v n x < 0) : runFn cf (p_masses_by c d) [vecD (2 ^ n) v] h = .ok .non h := by
  have n5 := o.n5
  have p5 := pow5 n5
  have a1 := fun h => N n v h o
  have a2 := lc_seq' (cf := cf) (own := [2]) (elt := .cmp .lt (.idx (.var 2) (.lit (.int 0))) (.lit (.int 0))) (t := .nm 2) (l := .cons (.var 1) .nil) (env := [some (vecD (2 ^ n) v), some (lvecD (2 ^ n) (mob v n)), none, none, none]) (h := h) (List.range (2 ^ n)) (fun x => fr (mob v n x)) (fun x => .bl (decide ((mob v n x).num < 0))) (by rw [List.length_range]; exact le_SZ (by omega)) (.inr (by simp -implicitDefEqProofs [-Int.natCast_ediv, -Int.natCast_pow, -Int.natCast_emod, b_ok, on_ok, tru_bl, tru_int, tru_non, look_0, look_s, v_var, v_lit, v_glb, v_pow, v_neg, v_not, v_bin, v_cmp, v_chn, v_and, v_or, v_ife, v_tup, v_lst, v_cel, v_idx, v_slc, v_call, v_ck, v_blt, v_ex, v_mth, v_isi, v_isN, v_isnN, l_nil, l_cons, o_nil, o_cons, s_asg, s_par, s_exp, s_rtn, s_ite, s_nil, s_pas, s_seq, thn_nx, thn_rt, end_rt, end_nx, bind_nm, bind_tp, binds_nil, binds_cons, cond_nil, Lit.d, ret_ap, neg_int, bin_add, bin_sub, cmp_le, cmp_lt, cmp_gt, cmp_ge, cmp_eq, cmp_ne, idx_fr0, idx_fr1, blt_int, fin_bl, fin_int, fin_non, fin_fr])) (fun x hx => by
    refine ⟨_, rfl, ?_⟩
    simp -implicitDefEqProofs [-Int.natCast_ediv, -Int.natCast_pow, -Int.natCast_emod, b_ok, on_ok, tru_bl, tru_int, tru_non, look_0, look_s, v_var, v_lit, v_glb, v_pow, v_neg, v_not, v_bin, v_cmp, v_chn, v_and, v_or, v_ife, v_tup, v_lst, v_cel, v_idx, v_slc, v_call, v_ck, v_blt, v_ex, v_mth, v_isi, v_isN, v_isnN, l_nil, l_cons, o_nil, o_cons, s_asg, s_par, s_exp, s_rtn, s_ite, s_nil, s_pas, s_seq, thn_nx, thn_rt, end_rt, end_nx, bind_nm, bind_tp, binds_nil, binds_cons, cond_nil, Lit.d, ret_ap, neg_int, bin_add, bin_sub, cmp_le, cmp_lt, cmp_gt, cmp_ge, cmp_eq, cmp_ne, idx_fr0, idx_fr1, blt_int, fin_bl, fin_int, fin_non, fin_fr, wipeE])
  have an : ∀ h, bltD .any [.lst ((List.range (2 ^ n)).map fun x => .bl (decide ((mob v n x).num < 0)))] h = .ok (.bl true) h := fun h => by
    rw [any_lst (p := fun x => decide ((mob v n x).num < 0))]
    have : (List.range (2 ^ n)).any (fun x => decide ((mob v n x).num < 0)) = true := by
      obtain ⟨x, hx, hz⟩ := hx
      rw [List.any_eq_true]
      refine ⟨x, by simpa using hx, decide_eq_true ?_⟩
      have := (Rat.lt_iff (mob v n x) 0).mp hz
      simpa using this
    rw [this]
  rw [run_eq ⟨rfl, by simp [p_masses_by]⟩]
  simp -implicitDefEqProofs [p_masses_by, -Int.natCast_ediv, -Int.natCast_pow, -Int.natCast_emod, b_ok, on_ok, tru_bl, tru_int, tru_non, look_0, look_s, v_var, v_lit, v_glb, v_pow, v_neg, v_not, v_bin, v_cmp, v_chn, v_and, v_or, v_ife, v_tup, v_lst, v_cel, v_idx, v_slc, v_call, v_ck, v_blt, v_ex, v_mth, v_isi, v_isN, v_isnN, l_nil, l_cons, o_nil, o_cons, s_asg, s_par, s_exp, s_rtn, s_ite, s_nil, s_pas, s_seq, thn_nx, thn_rt, end_rt, end_nx, bind_nm, bind_tp, binds_nil, binds_cons, cond_nil, Lit.d, ret_ap, neg_int, bin_add, bin_sub, cmp_le, cmp_lt, cmp_gt, cmp_ge, cmp_eq, cmp_ne, idx_fr0, idx_fr1, blt_int, fin_bl, fin_int, fin_non, fin_fr, a1, a2, an]
theorem masses_of_no {c d : Nat} (C : ChkBoundsAt cf c) (B : MassesNoAt cf d) {h : MH} (o : OkV n v) (hx : ∃ x < 2 ^ n, mob v n x < 0) : runFn cf (p_masses_of c d) [vecD (2 ^ n) v] h = .ok .non h := by
  have a := fun h => C n v h o
  have b := fun h => B n v h o hx
  rw [run_eq ⟨rfl, by simp [p_masses_of]⟩]
  simp -implicitDefEqProofs [p_masses_of, -Int.natCast_ediv, -Int.natCast_pow, -Int.natCast_emod, b_ok, on_ok, tru_bl, tru_int, tru_non, look_0, look_s, v_var, v_lit, v_glb, v_pow, v_neg, v_not, v_bin, v_cmp, v_chn, v_and, v_or, v_ife, v_tup, v_lst, v_cel, v_idx, v_slc, v_call, v_ck, v_blt, v_ex, v_mth, v_isi, v_isN, v_isnN, l_nil, l_cons, o_nil, o_cons, s_asg, s_par, s_exp, s_rtn, s_ite, s_nil, s_pas, s_seq, thn_nx, thn_rt, end_rt, end_nx, bind_nm, bind_tp, binds_nil, binds_cons, cond_nil, Lit.d, ret_ap, neg_int, bin_add, bin_sub, cmp_le, cmp_lt, cmp_gt, cmp_ge, cmp_eq, cmp_ne, idx_fr0, idx_fr1, blt_int, fin_bl, fin_int, fin_non, fin_fr, a, b]
end
end Mn

set_option maxHeartbeats 4000000
/-! Mn: the laws' own least, minus, times, chances, envelopes, numbers. -/
namespace Mn
/- _law_least: c0=_law_less -/
def l_least (c0 : Nat) : Fn := ⟨3, 1, (.seq (.asg (.nm 1) (.idx (.var 0) (.lit (.int 0))))
      (.seq (.for_ (.nm 2) .seq (.cons (.var 0) .nil) (.seq (.asg (.nm 1) (.ife (.call c0 (.cons (.var 2) (.cons (.var 1) .nil))) (.var 2) (.var 1)))
      .nil))
      (.seq (.rtn (.var 1))
      .nil))), false⟩
/- _law_on: c0=_law_plus -/
def l_on (c0 : Nat) : Fn := ⟨4, 2, (.seq (.asg (.nm 2) (.tup (.cons (.lit (.int 0)) (.cons (.lit (.int 1)) .nil))))
      (.seq (.for_ (.nm 3) .seq (.cons (.var 1) .nil) (.seq (.asg (.nm 2) (.call c0 (.cons (.var 2) (.cons (.idx (.var 0) (.var 3)) .nil))))
      .nil))
      (.seq (.rtn (.var 2))
      .nil))), false⟩
/- _law_minus:  -/
def l_minus : Fn := ⟨1, 1, (.seq (.rtn (.tup (.cons (.bin .sub (.lit (.int 0)) (.idx (.var 0) (.lit (.int 0)))) (.cons (.idx (.var 0) (.lit (.int 1))) .nil))))
      .nil), false⟩
/- _law_chance: c0=_law_dip c1=_law_low -/
def l_chance (c0 c1 : Nat) : Fn := ⟨6, 2, (.seq (.asg (.nm 2) (.cl (.lc [3] (.call c0 (.cons (.var 0) (.cons (.lit (.int 6)) .nil))) (.nm 3) .rng (.cons (.var 1) .nil) .nil)))
      (.seq (.augs (.var 2) (.call c0 (.cons (.var 0) (.cons (.var 1) .nil))) .add (.bin .add (.lit (.int 1)) (.call c0 (.cons (.var 0) (.cons (.lit (.int 3)) .nil)))))
      (.seq (.asg (.nm 4) (.blt .sum (.cons (.var 2) .nil)))
      (.seq (.rtn (.blt .tuple (.cons (.lc [5] (.call c1 (.cons (.var 5) (.cons (.var 4) .nil))) (.nm 5) .seq (.cons (.var 2) .nil) .nil) .nil)))
      .nil)))), false⟩
/- _law_envelope: c0=_law_least c1=_law_on c2=_law_lot -/
def l_envelope (c0 c1 c2 : Nat) : Fn := ⟨5, 2, (.seq (.asg (.nm 2) (.cel .nil))
      (.seq (.for_ (.nm 3) .rng (.cons (.idx (.lst (.cons (.lit (.int 1)) (.cons (.lit (.int 2)) (.cons (.lit (.int 4)) (.cons (.lit (.int 8)) (.cons (.lit (.int 16)) (.cons (.lit (.int 32)) .nil))))))) (.var 1)) .nil) (.seq (.app (.var 2) (.call c0 (.cons (.lc [4] (.call c1 (.cons (.var 4) (.cons (.call c2 (.cons (.var 3) (.cons (.var 1) .nil))) .nil))) (.nm 4) .seq (.cons (.var 0) .nil) .nil) .nil)))
      .nil))
      (.seq (.rtn (.blt .tuple (.cons (.var 2) .nil)))
      .nil))), false⟩
/- _law_numbers: c0=_law_lot c1=_law_plus c2=_law_times -/
def l_numbers (c0 c1 c2 : Nat) : Fn := ⟨10, 2, (.seq (.asg (.nm 2) (.cel .nil))
      (.seq (.for_ (.nm 3) .rng (.cons (.blt .len (.cons (.var 1) .nil)) .nil) (.seq (.asg (.tp (.cons (.nm 4) (.cons (.nm 5) .nil))) (.tup (.cons (.call c0 (.cons (.var 3) (.cons (.var 0) .nil))) (.cons (.tup (.cons (.lit (.int 0)) (.cons (.lit (.int 1)) .nil))) .nil))))
      (.seq (.for_ (.nm 6) .rng (.cons (.blt .len (.cons (.var 1) .nil)) .nil) (.seq (.asg (.nm 7) (.call c0 (.cons (.var 6) (.cons (.var 0) .nil))))
      (.seq (.ite (.cmp .eq (.lc [8] (.var 8) (.nm 8) .seq (.cons (.var 7) .nil) (.cmp .noti (.var 8) (.var 4))) (.lst .nil)) (.seq (.asg (.nm 9) (.ife (.cmp .eq (.bin .mod (.blt .int (.cons (.bin .sub (.blt .len (.cons (.var 4) .nil)) (.blt .len (.cons (.var 7) .nil))) .nil)) (.lit (.int 2))) (.lit (.int 0))) (.lit (.int 1)) (.neg (.lit (.int 1)))))
      (.seq (.asg (.nm 5) (.call c1 (.cons (.var 5) (.cons (.call c2 (.cons (.tup (.cons (.var 9) (.cons (.lit (.int 1)) .nil))) (.cons (.idx (.var 1) (.var 6)) .nil))) .nil))))
      .nil)) .nil)
      .nil)))
      (.seq (.app (.var 2) (.var 5))
      .nil))))
      (.seq (.rtn (.var 2))
      .nil))), false⟩
section
variable {cf : Nat → List D → M D} {n : Nat} {v : Nat → Rat}
theorem fr_neg {q : Rat} : fr (-q) = .tup [.int (0 - q.num), .int (q.den : Int)] := by
  unfold fr
  rw [Rat.neg_num, Rat.neg_den, Int.zero_sub]
abbrev NegAt (cf : Nat → List D → M D) (c : Nat) : Prop := ∀ (q : Rat) h, cf c [fr q] h = .ok (fr (-q)) h
theorem l_minus_ok {q : Rat} {h : MH} : runFn cf l_minus [fr q] h = .ok (fr (-q)) h := by
  have s2 : 2 ≤ SZ := by decide
  rw [run_eq ⟨rfl, by simp [l_minus]⟩, fr_neg]
  simp -implicitDefEqProofs [l_minus, -Int.natCast_ediv, -Int.natCast_pow, -Int.natCast_emod, b_ok, on_ok, tru_bl, tru_int, tru_non, look_0, look_s, v_var, v_lit, v_glb, v_pow, v_neg, v_not, v_bin, v_cmp, v_chn, v_and, v_or, v_ife, v_tup, v_lst, v_cel, v_idx, v_slc, v_call, v_ck, v_blt, v_ex, v_mth, v_isi, v_isN, v_isnN, l_nil, l_cons, o_nil, o_cons, s_asg, s_par, s_exp, s_rtn, s_ite, s_nil, s_pas, s_seq, thn_nx, thn_rt, end_rt, end_nx, bind_nm, bind_tp, binds_nil, binds_cons, cond_nil, Lit.d, ret_ap, neg_int, bin_add, bin_sub, cmp_le, cmp_lt, cmp_gt, cmp_ge, cmp_eq, cmp_ne, idx_fr0, idx_fr1, blt_int, fin_bl, fin_int, fin_non, fin_fr, s2]
  exact fin_tup rfl
/-- the least one of some -/
def leastR : Rat → List Rat → Rat
  | m, [] => m
  | m, q :: r => leastR (if q < m then q else m) r
def hd0 : List Rat → Rat
  | [] => 0
  | q :: _ => q
def leastL (qs : List Rat) : Rat := leastR (hd0 qs) qs
theorem leastR_append : ∀ (l r : List Rat) (m : Rat), leastR m (l ++ r) = leastR (leastR m l) r
  | [], r, m => rfl
  | q :: l, r, m => by simp only [List.cons_append, leastR]; exact leastR_append l r _
theorem leastR_le : ∀ (l : List Rat) (m : Rat), leastR m l ≤ m ∧ ∀ q ∈ l, leastR m l ≤ q
  | [], m => ⟨by simp [leastR], by simp⟩
  | q :: l, m => by
    obtain ⟨h1, h2⟩ := leastR_le l (if q < m then q else m)
    simp only [leastR]
    refine ⟨?_, fun p hp => ?_⟩
    · split at h1 <;> grind
    · rcases List.mem_cons.mp hp with z | z
      · subst z
        split at h1 <;> grind
      · exact h2 p z
theorem leastR_mem : ∀ (l : List Rat) (m : Rat), leastR m l = m ∨ leastR m l ∈ l
  | [], m => .inl rfl
  | q :: l, m => by
    simp only [leastR]
    rcases leastR_mem l (if q < m then q else m) with h | h
    · rw [h]
      split
      · exact .inr (by simp)
      · exact .inl rfl
    · exact .inr (by simp [h])
theorem leastL_mem {qs : List Rat} (h : qs ≠ []) : leastL qs ∈ qs := by
  cases qs with
  | nil => exact absurd rfl h
  | cons q r =>
    rcases leastR_mem (q :: r) q with z | z
    · show leastR q (q :: r) ∈ _
      rw [z]
      simp
    · exact z
theorem leastL_le {qs : List Rat} {q : Rat} (h : q ∈ qs) : leastL qs ≤ q := (leastR_le qs _).2 q h
abbrev LeastAt (cf : Nat → List D → M D) (c : Nat) : Prop := ∀ (qs : List Rat) h, qs ≠ [] → qs.length ≤ 1000 → (∀ q ∈ qs, Sz 1900 q) → cf c [.lst (qs.map fr)] h = .ok (fr (leastL qs)) h
theorem l_least_ok {c : Nat} (L : LessAt cf c) {qs : List Rat} {h : MH} (h0 : qs ≠ []) (hl : qs.length ≤ 1000) (hz : ∀ q ∈ qs, Sz 1900 q) : runFn cf (l_least c) [.lst (qs.map fr)] h = .ok (fr (leastL qs)) h := by
  have hh : hd0 qs ∈ qs := by
    cases qs with
    | nil => exact absurd rfl h0
    | cons q r => simp [hd0]
  obtain ⟨env', h', e, rfl, o, rfl⟩ := for_seq (cf := cf) (t := .nm 2) (l := .cons (.var 0) .nil) (b := .seq (.asg (.nm 1) (.ife (.call c (.cons (.var 2) (.cons (.var 1) .nil))) (.var 2) (.var 1))) .nil) (env := [some (.lst (qs.map fr)), some (fr (hd0 qs)), none]) (h := h) qs fr (fun pre env h' => h' = h ∧ ∃ o, env = [some (.lst (qs.map fr)), some (fr (leastR (hd0 qs) pre)), o]) (.inr (by simp -implicitDefEqProofs [-Int.natCast_ediv, -Int.natCast_pow, -Int.natCast_emod, b_ok, on_ok, tru_bl, tru_int, tru_non, look_0, look_s, v_var, v_lit, v_glb, v_pow, v_neg, v_not, v_bin, v_cmp, v_chn, v_and, v_or, v_ife, v_tup, v_lst, v_cel, v_idx, v_slc, v_call, v_ck, v_blt, v_ex, v_mth, v_isi, v_isN, v_isnN, l_nil, l_cons, o_nil, o_cons, s_asg, s_par, s_exp, s_rtn, s_ite, s_nil, s_pas, s_seq, thn_nx, thn_rt, end_rt, end_nx, bind_nm, bind_tp, binds_nil, binds_cons, cond_nil, Lit.d, ret_ap, neg_int, bin_add, bin_sub, cmp_le, cmp_lt, cmp_gt, cmp_ge, cmp_eq, cmp_ne, idx_fr0, idx_fr1, blt_int, fin_bl, fin_int, fin_non, fin_fr])) (fun pre y post env h' hy i => by
    obtain ⟨rfl, o, rfl⟩ := i
    have sm : Sz 1900 (leastR (hd0 qs) pre) := by
      rcases leastR_mem pre (hd0 qs) with z | z
      · rw [z]; exact hz _ hh
      · exact hz _ (by
          have : leastR (hd0 qs) pre ∈ pre ++ y :: post := List.mem_append_left _ z
          rw [← hy] at this
          exact this)
    have q := fun h => L y (leastR (hd0 qs) pre) h (hz y (by rw [hy]; simp)) sm
    refine ⟨_, [some (.lst (qs.map fr)), some (fr (leastR (hd0 qs) (pre ++ [y]))), some (fr y)], _, rfl, ?_, rfl, _, rfl⟩
    rw [leastR_append]
    by_cases hlt : y < leastR (hd0 qs) pre
    · simp -implicitDefEqProofs [-Int.natCast_ediv, -Int.natCast_pow, -Int.natCast_emod, b_ok, on_ok, tru_bl, tru_int, tru_non, look_0, look_s, v_var, v_lit, v_glb, v_pow, v_neg, v_not, v_bin, v_cmp, v_chn, v_and, v_or, v_ife, v_tup, v_lst, v_cel, v_idx, v_slc, v_call, v_ck, v_blt, v_ex, v_mth, v_isi, v_isN, v_isnN, l_nil, l_cons, o_nil, o_cons, s_asg, s_par, s_exp, s_rtn, s_ite, s_nil, s_pas, s_seq, thn_nx, thn_rt, end_rt, end_nx, bind_nm, bind_tp, binds_nil, binds_cons, cond_nil, Lit.d, ret_ap, neg_int, bin_add, bin_sub, cmp_le, cmp_lt, cmp_gt, cmp_ge, cmp_eq, cmp_ne, idx_fr0, idx_fr1, blt_int, fin_bl, fin_int, fin_non, fin_fr, q, hlt, leastR]
    · simp -implicitDefEqProofs [-Int.natCast_ediv, -Int.natCast_pow, -Int.natCast_emod, b_ok, on_ok, tru_bl, tru_int, tru_non, look_0, look_s, v_var, v_lit, v_glb, v_pow, v_neg, v_not, v_bin, v_cmp, v_chn, v_and, v_or, v_ife, v_tup, v_lst, v_cel, v_idx, v_slc, v_call, v_ck, v_blt, v_ex, v_mth, v_isi, v_isN, v_isnN, l_nil, l_cons, o_nil, o_cons, s_asg, s_par, s_exp, s_rtn, s_ite, s_nil, s_pas, s_seq, thn_nx, thn_rt, end_rt, end_nx, bind_nm, bind_tp, binds_nil, binds_cons, cond_nil, Lit.d, ret_ap, neg_int, bin_add, bin_sub, cmp_le, cmp_lt, cmp_gt, cmp_ge, cmp_eq, cmp_ne, idx_fr0, idx_fr1, blt_int, fin_bl, fin_int, fin_non, fin_fr, q, hlt, leastR]) ⟨rfl, none, rfl⟩
  have i0 : idxD (.lst (qs.map fr)) (.int 0) h' = .ok (fr (hd0 qs)) h' := by
    cases qs with
    | nil => exact absurd rfl h0
    | cons q r =>
      have := idx_lst (xs := (q :: r).map fr) (k := 0) (h := h') (by simp)
      exact this
  rw [run_eq ⟨rfl, by simp [l_least]⟩]
  simp -implicitDefEqProofs [l_least, -Int.natCast_ediv, -Int.natCast_pow, -Int.natCast_emod, b_ok, on_ok, tru_bl, tru_int, tru_non, look_0, look_s, v_var, v_lit, v_glb, v_pow, v_neg, v_not, v_bin, v_cmp, v_chn, v_and, v_or, v_ife, v_tup, v_lst, v_cel, v_idx, v_slc, v_call, v_ck, v_blt, v_ex, v_mth, v_isi, v_isN, v_isnN, l_nil, l_cons, o_nil, o_cons, s_asg, s_par, s_exp, s_rtn, s_ite, s_nil, s_pas, s_seq, thn_nx, thn_rt, end_rt, end_nx, bind_nm, bind_tp, binds_nil, binds_cons, cond_nil, Lit.d, ret_ap, neg_int, bin_add, bin_sub, cmp_le, cmp_lt, cmp_gt, cmp_ge, cmp_eq, cmp_ne, idx_fr0, idx_fr1, blt_int, fin_bl, fin_int, fin_non, fin_fr, i0, e]
  rfl
/-! ### numbers by signs -/
abbrev LNumbersAt (cf : Nat → List D → M D) (c : Nat) : Prop := ∀ (n : Nat) (v : Nat → Rat) h, n < 5 → OkV n v → cf c [.int n, vecD (2 ^ n) v] h = .ok (lvecD (2 ^ n) (mob v n)) h
theorem sz_lin {c : Nat → Int} (hc : ∀ y, (c y).natAbs ≤ 1) : ∀ {N : Nat}, (∀ y < N, Sz 20 (v y)) → Sz (N * 22) (lin c v N)
  | 0, _ => sz_zero
  | N + 1, h => by
    have h1 := sz_lin hc (N := N) fun y hy => h y (by omega)
    have h2 : Sz 20 ((c N : Rat) * v N) := by
      have : c N = 0 ∨ c N = 1 ∨ c N = -1 := by have := hc N; omega
      have hv := h N (by omega)
      rcases this with z | z | z <;> rw [z]
      · have : ((0 : Int) : Rat) * v N = 0 := by simp
        rw [this]; exact sz_zero
      · have : ((1 : Int) : Rat) * v N = v N := by simp
        rw [this]; exact hv
      · have : ((-1 : Int) : Rat) * v N = -v N := by grind
        rw [this]
        refine ⟨?_, ?_⟩
        · rw [Rat.neg_num, Int.natAbs_neg]; exact hv.1
        · rw [Rat.neg_den]; exact hv.2
    simp only [lin]
    exact (h1.add h2).mono (by omega)
end
end Mn

set_option maxHeartbeats 4000000
/-! Mn: the laws' own numbers. -/
namespace Mn
section
variable {cf : Nat → List D → M D} {n : Nat} {v : Nat → Rat}
theorem fr_int {i : Int} : fr (i : Rat) = .tup [.int i, .int 1] := rfl
theorem len_tI {ks : List Nat} {h : MH} : bltD .len [tI ks] h = .ok (.int (ks.length : Int)) h := by
  simp [bltD, lenD, items, tI]
theorem mod2i {i : Int} {h : MH} : binD .mod (.int i) (.int 2) h = .ok (.int (i % 2)) h := bin_mod (by decide)
theorem sg_abs {x y : Nat} : (sg n x y).natAbs = 1 := by
  unfold sg
  split <;> rfl
theorem sz_int {i : Int} (h : i.natAbs ≤ 1) : Sz 1900 (i : Rat) := by
  refine ⟨?_, ?_⟩
  · show (i : Int).natAbs ≤ _
    exact Nat.le_trans h Nat.one_le_two_pow
  · show 1 ≤ _
    exact Nat.one_le_two_pow
abbrev numI : S := (.seq (.asg (.nm 7) (.call 0 .nil)) .nil)
theorem fin_ref {xs : List D} {h : MH} (hp : plains xs = true) : fin false h.length (.ref h.length) (h ++ [.lst xs]) = .ok (.lst xs) h := by
  simp [fin, hp]
theorem l_numbers_ok {c0 c1 c2 : Nat} (L : LLotAt cf c0) (P : PlusAt cf c1) (T : TimesAt cf c2) {h : MH} (hn : n < 5) (o : OkV n v) : runFn cf (l_numbers c0 c1 c2) [.int n, vecD (2 ^ n) v] h = .ok (lvecD (2 ^ n) (mob v n)) h := by
  have p4 : 2 ^ n ≤ 2 ^ 4 := Nat.pow_le_pow_right (by decide) (by omega)
  have z : D.tup [.int 0, .int 1] = fr 0 := rfl
  have s2 : 2 ≤ SZ := by decide
  have s0 : 0 ≤ SZ := by decide
  have ln := fun h => len_vec (v := v) (N := 2 ^ n) (h := h)
  obtain ⟨env', h', e, rfl, o3, o4, o5, o6, o7, o9, rfl⟩ := for_rng (cf := cf) (t := .nm 3) (l := (.cons (.blt .len (.cons (.var 1) .nil)) .nil)) (b := (.seq (.asg (.tp (.cons (.nm 4) (.cons (.nm 5) .nil))) (.tup (.cons (.call c0 (.cons (.var 3) (.cons (.var 0) .nil))) (.cons (.tup (.cons (.lit (.int 0)) (.cons (.lit (.int 1)) .nil))) .nil))))
      (.seq (.for_ (.nm 6) .rng (.cons (.blt .len (.cons (.var 1) .nil)) .nil) (.seq (.asg (.nm 7) (.call c0 (.cons (.var 6) (.cons (.var 0) .nil))))
      (.seq (.ite (.cmp .eq (.lc [8] (.var 8) (.nm 8) .seq (.cons (.var 7) .nil) (.cmp .noti (.var 8) (.var 4))) (.lst .nil)) (.seq (.asg (.nm 9) (.ife (.cmp .eq (.bin .mod (.blt .int (.cons (.bin .sub (.blt .len (.cons (.var 4) .nil)) (.blt .len (.cons (.var 7) .nil))) .nil)) (.lit (.int 2))) (.lit (.int 0))) (.lit (.int 1)) (.neg (.lit (.int 1)))))
      (.seq (.asg (.nm 5) (.call c1 (.cons (.var 5) (.cons (.call c2 (.cons (.tup (.cons (.var 9) (.cons (.lit (.int 1)) .nil))) (.cons (.idx (.var 1) (.var 6)) .nil))) .nil))))
      .nil)) .nil)
      .nil)))
      (.seq (.app (.var 2) (.var 5))
      .nil)))) (env := [oI n, some (vecD (2 ^ n) v), some (.ref h.length), none, none, none, none, none, none, none]) (h := h ++ [.lst []]) (2 ^ n) (fun k env h' => h' = h ++ [.lst ((List.range k).map fun x => fr (mob v n x))] ∧ ∃ o3 o4 o5 o6 o7 o9, env = [oI n, some (vecD (2 ^ n) v), some (.ref h.length), o3, o4, o5, o6, o7, none, o9]) (le_SZ (by omega)) (by simp -implicitDefEqProofs [-Int.natCast_ediv, -Int.natCast_pow, -Int.natCast_emod, b_ok, on_ok, tru_bl, tru_int, tru_non, look_0, look_s, v_var, v_lit, v_glb, v_pow, v_neg, v_not, v_bin, v_cmp, v_chn, v_and, v_or, v_ife, v_tup, v_lst, v_cel, v_idx, v_slc, v_call, v_ck, v_blt, v_ex, v_mth, v_isi, v_isN, v_isnN, l_nil, l_cons, o_nil, o_cons, s_asg, s_par, s_exp, s_rtn, s_ite, s_nil, s_pas, s_seq, thn_nx, thn_rt, end_rt, end_nx, bind_nm, bind_tp, binds_nil, binds_cons, cond_nil, Lit.d, ret_ap, neg_int, bin_add, bin_sub, cmp_le, cmp_lt, cmp_gt, cmp_ge, cmp_eq, cmp_ne, idx_fr0, idx_fr1, blt_int, fin_bl, fin_int, fin_non, fin_fr, ln]) (fun x env h' hx i => by
    obtain ⟨rfl, o3, o4, o5, o6, o7, o9, rfl⟩ := i
    have l := fun h => L x n h (by omega)
    generalize hg : h ++ [.lst ((List.range x).map fun x => fr (mob v n x))] = g
    obtain ⟨env2, g2, e2, rfl, o6', o7', o9', rfl⟩ := for_rng (cf := cf) (t := .nm 6) (l := (.cons (.blt .len (.cons (.var 1) .nil)) .nil)) (b := (.seq (.asg (.nm 7) (.call c0 (.cons (.var 6) (.cons (.var 0) .nil))))
      (.seq (.ite (.cmp .eq (.lc [8] (.var 8) (.nm 8) .seq (.cons (.var 7) .nil) (.cmp .noti (.var 8) (.var 4))) (.lst .nil)) (.seq (.asg (.nm 9) (.ife (.cmp .eq (.bin .mod (.blt .int (.cons (.bin .sub (.blt .len (.cons (.var 4) .nil)) (.blt .len (.cons (.var 7) .nil))) .nil)) (.lit (.int 2))) (.lit (.int 0))) (.lit (.int 1)) (.neg (.lit (.int 1)))))
      (.seq (.asg (.nm 5) (.call c1 (.cons (.var 5) (.cons (.call c2 (.cons (.tup (.cons (.var 9) (.cons (.lit (.int 1)) .nil))) (.cons (.idx (.var 1) (.var 6)) .nil))) .nil))))
      .nil)) .nil)
      .nil))) (env := [oI n, some (vecD (2 ^ n) v), some (.ref h.length), oI x, some (lotD n x), some (fr 0), o6, o7, none, o9]) (h := g) (2 ^ n) (fun y env h' => h' = g ∧ ∃ o6 o7 o9, env = [oI n, some (vecD (2 ^ n) v), some (.ref h.length), oI x, some (lotD n x), some (fr (lin (fun y => if subB n y x then sg n x y else 0) v y)), o6, o7, none, o9]) (le_SZ (by omega)) (by simp -implicitDefEqProofs [-Int.natCast_ediv, -Int.natCast_pow, -Int.natCast_emod, b_ok, on_ok, tru_bl, tru_int, tru_non, look_0, look_s, v_var, v_lit, v_glb, v_pow, v_neg, v_not, v_bin, v_cmp, v_chn, v_and, v_or, v_ife, v_tup, v_lst, v_cel, v_idx, v_slc, v_call, v_ck, v_blt, v_ex, v_mth, v_isi, v_isN, v_isnN, l_nil, l_cons, o_nil, o_cons, s_asg, s_par, s_exp, s_rtn, s_ite, s_nil, s_pas, s_seq, thn_nx, thn_rt, end_rt, end_nx, bind_nm, bind_tp, binds_nil, binds_cons, cond_nil, Lit.d, ret_ap, neg_int, bin_add, bin_sub, cmp_le, cmp_lt, cmp_gt, cmp_ge, cmp_eq, cmp_ne, idx_fr0, idx_fr1, blt_int, fin_bl, fin_int, fin_non, fin_fr, ln]) (fun y env h' hy i => by
      obtain ⟨rfl, o6, o7, o9, rfl⟩ := i
      have ly := fun h => L y n h (by omega)
      have ix := fun h => idx_vec (v := v) (h := h) hy
      have lc := lc_seq (cf := cf) (own := [8]) (elt := .var 8) (t := .nm 8) (l := .cons (.var 7) .nil) (c := .cmp .noti (.var 8) (.var 4)) (env := [oI n, some (vecD (2 ^ n) v), some (.ref h.length), oI x, some (lotD n x), some (fr (lin (fun y => if subB n y x then sg n x y else 0) v y)), oI y, some (lotD n y), none, o9]) (h := h') (lotL n y) (fun k => .int (k : Int)) (fun k => !decide (k ∈ lotL n x)) (fun k => .int (k : Int)) (le_SZ (Nat.le_trans lot_len (by omega))) (.inl (by simp -implicitDefEqProofs [-Int.natCast_ediv, -Int.natCast_pow, -Int.natCast_emod, b_ok, on_ok, tru_bl, tru_int, tru_non, look_0, look_s, v_var, v_lit, v_glb, v_pow, v_neg, v_not, v_bin, v_cmp, v_chn, v_and, v_or, v_ife, v_tup, v_lst, v_cel, v_idx, v_slc, v_call, v_ck, v_blt, v_ex, v_mth, v_isi, v_isN, v_isnN, l_nil, l_cons, o_nil, o_cons, s_asg, s_par, s_exp, s_rtn, s_ite, s_nil, s_pas, s_seq, thn_nx, thn_rt, end_rt, end_nx, bind_nm, bind_tp, binds_nil, binds_cons, cond_nil, Lit.d, ret_ap, neg_int, bin_add, bin_sub, cmp_le, cmp_lt, cmp_gt, cmp_ge, cmp_eq, cmp_ne, idx_fr0, idx_fr1, blt_int, fin_bl, fin_int, fin_non, fin_fr, tI])) (fun k hk => by
        refine ⟨_, rfl, ?_, fun _ => ?_⟩
        · rw [cond_of (by simp)]
          simp -implicitDefEqProofs [-Int.natCast_ediv, -Int.natCast_pow, -Int.natCast_emod, b_ok, on_ok, tru_bl, tru_int, tru_non, look_0, look_s, v_var, v_lit, v_glb, v_pow, v_neg, v_not, v_bin, v_cmp, v_chn, v_and, v_or, v_ife, v_tup, v_lst, v_cel, v_idx, v_slc, v_call, v_ck, v_blt, v_ex, v_mth, v_isi, v_isN, v_isnN, l_nil, l_cons, o_nil, o_cons, s_asg, s_par, s_exp, s_rtn, s_ite, s_nil, s_pas, s_seq, thn_nx, thn_rt, end_rt, end_nx, bind_nm, bind_tp, binds_nil, binds_cons, cond_nil, Lit.d, ret_ap, neg_int, bin_add, bin_sub, cmp_le, cmp_lt, cmp_gt, cmp_ge, cmp_eq, cmp_ne, idx_fr0, idx_fr1, blt_int, fin_bl, fin_int, fin_non, fin_fr, wipeE, noti_tI]
        · simp -implicitDefEqProofs [-Int.natCast_ediv, -Int.natCast_pow, -Int.natCast_emod, b_ok, on_ok, tru_bl, tru_int, tru_non, look_0, look_s, v_var, v_lit, v_glb, v_pow, v_neg, v_not, v_bin, v_cmp, v_chn, v_and, v_or, v_ife, v_tup, v_lst, v_cel, v_idx, v_slc, v_call, v_ck, v_blt, v_ex, v_mth, v_isi, v_isN, v_isnN, l_nil, l_cons, o_nil, o_cons, s_asg, s_par, s_exp, s_rtn, s_ite, s_nil, s_pas, s_seq, thn_nx, thn_rt, end_rt, end_nx, bind_nm, bind_tp, binds_nil, binds_cons, cond_nil, Lit.d, ret_ap, neg_int, bin_add, bin_sub, cmp_le, cmp_lt, cmp_gt, cmp_ge, cmp_eq, cmp_ne, idx_fr0, idx_fr1, blt_int, fin_bl, fin_int, fin_non, fin_fr, wipeE])
      have sl : Sz 1900 (lin (fun y => if subB n y x then sg n x y else 0) v y) := (sz_lin (fun y => by
        split
        · rw [sg_abs]; decide
        · decide) fun y' hy' => o.sz (by omega)).mono (by omega)
      have t := fun h => T (sg n x y : Rat) (v y) h (sz_int (by rw [sg_abs]; decide)) ((o.sz hy).mono (by decide))
      have st : Sz 1900 ((sg n x y : Rat) * v y) := ((show Sz 1 (sg n x y : Rat) from ⟨by
        show (sg n x y).natAbs ≤ _
        rw [sg_abs]; decide, by show 1 ≤ _; decide⟩).mul (o.sz hy)).mono (by decide)
      have q := fun h => P _ _ h sl st
      have lx : ∀ h, bltD .len [lotD n x] h = .ok (.int ((lotL n x).length : Int)) h := fun h => len_tI
      have lyy : ∀ h, bltD .len [lotD n y] h = .ok (.int ((lotL n y).length : Int)) h := fun h => len_tI
      have fs : D.tup [.int (sg n x y), .int 1] = fr (sg n x y : Rat) := rfl
      cases hs : subB n y x with
      | false =>
        have el : lin (fun y => if subB n y x then sg n x y else 0) v (y + 1) = lin (fun y => if subB n y x then sg n x y else 0) v y := by
          simp [lin, hs]
          grind
        refine ⟨_, [oI n, some (vecD (2 ^ n) v), some (.ref h.length), oI x, some (lotD n x), some (fr (lin (fun y => if subB n y x then sg n x y else 0) v (y + 1))), oI y, some (lotD n y), none, o9], _, rfl, ?_, rfl, _, _, _, rfl⟩
        rw [el]
        generalize lin (fun y => if subB n y x then sg n x y else 0) v y = w at *
        simp -implicitDefEqProofs [-Int.natCast_ediv, -Int.natCast_pow, -Int.natCast_emod, b_ok, on_ok, tru_bl, tru_int, tru_non, look_0, look_s, v_var, v_lit, v_glb, v_pow, v_neg, v_not, v_bin, v_cmp, v_chn, v_and, v_or, v_ife, v_tup, v_lst, v_cel, v_idx, v_slc, v_call, v_ck, v_blt, v_ex, v_mth, v_isi, v_isN, v_isnN, l_nil, l_cons, o_nil, o_cons, s_asg, s_par, s_exp, s_rtn, s_ite, s_nil, s_pas, s_seq, thn_nx, thn_rt, end_rt, end_nx, bind_nm, bind_tp, binds_nil, binds_cons, cond_nil, Lit.d, ret_ap, neg_int, bin_add, bin_sub, cmp_le, cmp_lt, cmp_gt, cmp_ge, cmp_eq, cmp_ne, idx_fr0, idx_fr1, blt_int, fin_bl, fin_int, fin_non, fin_fr, ly, lc, eq_nil, out_empty, hs, s0]
      | true =>
        have el : lin (fun y => if subB n y x then sg n x y else 0) v (y + 1) = lin (fun y => if subB n y x then sg n x y else 0) v y + (sg n x y : Rat) * v y := by
          simp [lin, hs]
        refine ⟨_, [oI n, some (vecD (2 ^ n) v), some (.ref h.length), oI x, some (lotD n x), some (fr (lin (fun y => if subB n y x then sg n x y else 0) v (y + 1))), oI y, some (lotD n y), none, oI (sg n x y)], _, rfl, ?_, rfl, _, _, _, rfl⟩
        rw [el]
        generalize lin (fun y => if subB n y x then sg n x y else 0) v y = w at *
        obtain ⟨u, hu⟩ : ∃ u : Rat, u = (sg n x y : Rat) := ⟨_, rfl⟩
        rw [← hu] at t q fs ⊢
        by_cases hp : (((lotL n x).length : Int) - ((lotL n y).length : Int)) % 2 = 0
        · have e1 : sg n x y = 1 := if_pos hp
          rw [e1] at fs ⊢
          simp -implicitDefEqProofs [-Int.natCast_ediv, -Int.natCast_pow, -Int.natCast_emod, b_ok, on_ok, tru_bl, tru_int, tru_non, look_0, look_s, v_var, v_lit, v_glb, v_pow, v_neg, v_not, v_bin, v_cmp, v_chn, v_and, v_or, v_ife, v_tup, v_lst, v_cel, v_idx, v_slc, v_call, v_ck, v_blt, v_ex, v_mth, v_isi, v_isN, v_isnN, l_nil, l_cons, o_nil, o_cons, s_asg, s_par, s_exp, s_rtn, s_ite, s_nil, s_pas, s_seq, thn_nx, thn_rt, end_rt, end_nx, bind_nm, bind_tp, binds_nil, binds_cons, cond_nil, Lit.d, ret_ap, neg_int, bin_add, bin_sub, cmp_le, cmp_lt, cmp_gt, cmp_ge, cmp_eq, cmp_ne, idx_fr0, idx_fr1, blt_int, fin_bl, fin_int, fin_non, fin_fr, ly, lc, eq_nil, out_empty, hs, s0, s2, lx, lyy, mod2i, hp, ix, fs, t, q]
        · have e1 : sg n x y = -1 := if_neg hp
          rw [e1] at fs ⊢
          simp -implicitDefEqProofs [-Int.natCast_ediv, -Int.natCast_pow, -Int.natCast_emod, b_ok, on_ok, tru_bl, tru_int, tru_non, look_0, look_s, v_var, v_lit, v_glb, v_pow, v_neg, v_not, v_bin, v_cmp, v_chn, v_and, v_or, v_ife, v_tup, v_lst, v_cel, v_idx, v_slc, v_call, v_ck, v_blt, v_ex, v_mth, v_isi, v_isN, v_isnN, l_nil, l_cons, o_nil, o_cons, s_asg, s_par, s_exp, s_rtn, s_ite, s_nil, s_pas, s_seq, thn_nx, thn_rt, end_rt, end_nx, bind_nm, bind_tp, binds_nil, binds_cons, cond_nil, Lit.d, ret_ap, neg_int, bin_add, bin_sub, cmp_le, cmp_lt, cmp_gt, cmp_ge, cmp_eq, cmp_ne, idx_fr0, idx_fr1, blt_int, fin_bl, fin_int, fin_non, fin_fr, ly, lc, eq_nil, out_empty, hs, s0, s2, lx, lyy, mod2i, hp, ix, fs, t, q]) ⟨rfl, o6, o7, o9, rfl⟩
    have em : lin (fun y => if subB n y x then sg n x y else 0) v (2 ^ n) = mob v n x := by
      rw [mob_lin n x hx]
      exact (lin_congr fun y hy => cof_sg n hn x hx y hy).symm
    rw [em] at e2
    have ap := app_of (cf := cf) (a := .var 2) (e := .var 5) (env := [oI n, some (vecD (2 ^ n) v), some (.ref h.length), oI x, some (lotD n x), some (fr (mob v n x)), o6', o7', none, o9']) (h := g2) (i := h.length) (xs := (List.range x).map fun x => fr (mob v n x)) (z := fr (mob v n x)) (by simp -implicitDefEqProofs [-Int.natCast_ediv, -Int.natCast_pow, -Int.natCast_emod, b_ok, on_ok, tru_bl, tru_int, tru_non, look_0, look_s, v_var, v_lit, v_glb, v_pow, v_neg, v_not, v_bin, v_cmp, v_chn, v_and, v_or, v_ife, v_tup, v_lst, v_cel, v_idx, v_slc, v_call, v_ck, v_blt, v_ex, v_mth, v_isi, v_isN, v_isnN, l_nil, l_cons, o_nil, o_cons, s_asg, s_par, s_exp, s_rtn, s_ite, s_nil, s_pas, s_seq, thn_nx, thn_rt, end_rt, end_nx, bind_nm, bind_tp, binds_nil, binds_cons, cond_nil, Lit.d, ret_ap, neg_int, bin_add, bin_sub, cmp_le, cmp_lt, cmp_gt, cmp_ge, cmp_eq, cmp_ne, idx_fr0, idx_fr1, blt_int, fin_bl, fin_int, fin_non, fin_fr]) (by rw [← hg]; exact get_last) (by simp -implicitDefEqProofs [-Int.natCast_ediv, -Int.natCast_pow, -Int.natCast_emod, b_ok, on_ok, tru_bl, tru_int, tru_non, look_0, look_s, v_var, v_lit, v_glb, v_pow, v_neg, v_not, v_bin, v_cmp, v_chn, v_and, v_or, v_ife, v_tup, v_lst, v_cel, v_idx, v_slc, v_call, v_ck, v_blt, v_ex, v_mth, v_isi, v_isN, v_isnN, l_nil, l_cons, o_nil, o_cons, s_asg, s_par, s_exp, s_rtn, s_ite, s_nil, s_pas, s_seq, thn_nx, thn_rt, end_rt, end_nx, bind_nm, bind_tp, binds_nil, binds_cons, cond_nil, Lit.d, ret_ap, neg_int, bin_add, bin_sub, cmp_le, cmp_lt, cmp_gt, cmp_ge, cmp_eq, cmp_ne, idx_fr0, idx_fr1, blt_int, fin_bl, fin_int, fin_non, fin_fr]) (by
      rw [List.length_map, List.length_range]
      have : SZ = 16777216 := rfl
      omega) (plains_snoc plains_vec plain_fr)
    rw [← hg, set_last] at ap
    have er : (List.range x).map (fun y => fr (mob v n y)) ++ [fr (mob v n x)] = (List.range (x + 1)).map fun y => fr (mob v n y) := by
      rw [List.range_succ]; simp
    rw [er, hg] at ap
    refine ⟨_, [oI n, some (vecD (2 ^ n) v), some (.ref h.length), oI x, some (lotD n x), some (fr (mob v n x)), o6', o7', none, o9'], h ++ [.lst ((List.range (x + 1)).map fun y => fr (mob v n y))], rfl, ?_, rfl, _, _, _, _, _, _, rfl⟩
    simp -implicitDefEqProofs [-Int.natCast_ediv, -Int.natCast_pow, -Int.natCast_emod, b_ok, on_ok, tru_bl, tru_int, tru_non, look_0, look_s, v_var, v_lit, v_glb, v_pow, v_neg, v_not, v_bin, v_cmp, v_chn, v_and, v_or, v_ife, v_tup, v_lst, v_cel, v_idx, v_slc, v_call, v_ck, v_blt, v_ex, v_mth, v_isi, v_isN, v_isnN, l_nil, l_cons, o_nil, o_cons, s_asg, s_par, s_exp, s_rtn, s_ite, s_nil, s_pas, s_seq, thn_nx, thn_rt, end_rt, end_nx, bind_nm, bind_tp, binds_nil, binds_cons, cond_nil, Lit.d, ret_ap, neg_int, bin_add, bin_sub, cmp_le, cmp_lt, cmp_gt, cmp_ge, cmp_eq, cmp_ne, idx_fr0, idx_fr1, blt_int, fin_bl, fin_int, fin_non, fin_fr, l, z, s2, e2, ap]) ⟨rfl, none, none, none, none, none, none, rfl⟩
  rw [run_eq ⟨rfl, by simp [l_numbers]⟩]
  simp -implicitDefEqProofs [l_numbers, -Int.natCast_ediv, -Int.natCast_pow, -Int.natCast_emod, b_ok, on_ok, tru_bl, tru_int, tru_non, look_0, look_s, v_var, v_lit, v_glb, v_pow, v_neg, v_not, v_bin, v_cmp, v_chn, v_and, v_or, v_ife, v_tup, v_lst, v_cel, v_idx, v_slc, v_call, v_ck, v_blt, v_ex, v_mth, v_isi, v_isN, v_isnN, l_nil, l_cons, o_nil, o_cons, s_asg, s_par, s_exp, s_rtn, s_ite, s_nil, s_pas, s_seq, thn_nx, thn_rt, end_rt, end_nx, bind_nm, bind_tp, binds_nil, binds_cons, cond_nil, Lit.d, ret_ap, neg_int, bin_add, bin_sub, cmp_le, cmp_lt, cmp_gt, cmp_ge, cmp_eq, cmp_ne, idx_fr0, idx_fr1, blt_int, fin_bl, fin_int, fin_non, fin_fr, s0, plains, e]
  exact fin_ref plains_vec
end
end Mn

set_option maxHeartbeats 4000000
/-! Mn: the laws' own chances. -/
namespace Mn
section
variable {cf : Nat → List D → M D} {n : Nat}
theorem v_cl {a : E} {env : Env} {h : MH} : ev cf (.cl a) env h = (ev cf a env h).bnd fun x h => cellOf x h := by rw [ev]; rfl
theorem cell_of {xs : List D} {h : MH} (hp : plains xs = true) : cellOf (.lst xs) h = .ok (.ref h.length) (h ++ [.lst xs]) := by
  unfold cellOf
  simp only []
  rw [if_pos hp]
theorem augs_of {a b e : E} {env : Env} {h h1 h2 : MH} {i j : Nat} {xs : List D} {u w : Int} {hj : j < xs.length} (e1 : ev cf a env h = .ok (.ref i) h) (e2 : ev cf b env h = .ok (.int (j : Int)) h1) (g1 : h1[i]? = some (.lst xs)) (hu : xs[j] = .int u) (e3 : ev cf e env h1 = .ok (.int w) h2) (g2 : h2[i]? = some (.lst xs)) (hp : plains (xs.set j (.int (u + w))) = true) :
    exS cf (.augs a b .add e) env h = .ok (.nx env) (h2.set i (.lst (xs.set j (.int (u + w))))) := by
  have ix : idxD (.ref i) (.int (j : Int)) h1 = .ok (.int u) h1 := by
    have : L2.atI xs (j : Int) = some (.int u) := by
      simp [L2.atI, L2.ixN, hj, hu]
    exact idx_ref g1 this
  have hix : L2.ixN xs.length (j : Int) = some j := by
    simp [L2.ixN, hj]
  rw [exS]
  simp [onE, e1, e2, ix, e3, augD, ret, setCell, g2, putI, hix, hp]
theorem plains_ints {ps : List Nat} : plains (ps.map fun p : Nat => .int (p : Int)) = true := plains_map fun _ _ => rfl
theorem map_set {ps : List Nat} {r x : Nat} : (ps.map fun p : Nat => D.int (p : Int)).set r (.int (x : Int)) = (ps.set r x).map fun p : Nat => .int (p : Int) := by
  rw [List.map_set]
theorem sum_set : ∀ (ps : List Nat) (r x : Nat) (hr : r < ps.length), (ps.set r (ps[r] + x)).sum = ps.sum + x
  | [], r, x, hr => by simp at hr
  | p :: l, 0, x, hr => by simp; omega
  | p :: l, r + 1, x, hr => by
    simp only [List.set_cons_succ, List.sum_cons, List.getElem_cons_succ]
    rw [sum_set l r x (by simpa using hr)]
    omega
theorem zs_take {ps : List Nat} {W : Nat} (hW : W ≠ 0) : ∀ {N : Nat}, N ≤ ps.length → zs tt (fun k => mkRat (ps.getD k 0 : Nat) W) N = mkRat ((ps.take N).sum : Nat) W
  | 0, _ => by simp [zs]
  | N + 1, h => by
    have hN : N < ps.length := by omega
    simp only [zs, if_true]
    rw [zs_take hW (N := N) (by omega), Rat.mkRat_add_mkRat _ _ hW hW, ← Int.add_mul, Rat.mkRat_mul_right hW]
    have e : (List.take (N + 1) ps).sum = (List.take N ps).sum + ps.getD N 0 := by
      rw [List.take_succ_eq_append_getElem hN, List.sum_append]
      simp [hN]
    rw [e, Int.natCast_add]
theorem sum_le {B : Nat} : ∀ {ps : List Nat}, (∀ p ∈ ps, p ≤ B) → ps.sum ≤ B * ps.length
  | [], _ => by simp
  | p :: r, h => by
    have h1 := h p (by simp)
    have h2 := sum_le (ps := r) fun p hp => h p (by simp [hp])
    simp only [List.sum_cons, List.length_cons]
    rw [Nat.mul_add]
    omega
abbrev ChanceAt (cf : Nat → List D → M D) (c : Nat) : Prop := ∀ (j : Nat) (h : MH) (C : Int) (n : Nat), Jar h j C → C ≤ 100000 → 2 ≤ n → n ≤ 5 → ∃ (q : Nat → Rat) (W : Nat) (g : MH), cf c [.ref j, .int (n : Int)] h = .ok (vecD n q) g ∧ W ≠ 0 ∧ W ≤ 28 ∧ (∀ k < n, Dn W (q k) ∧ 0 ≤ q k) ∧ zs tt q n = 1 ∧ Jar g j (C + 8) ∧ ∃ cl, g = h.set j cl
theorem l_chance_ok {c d : Nat} (Dp : DipAt cf c) (Lw : LowAt cf d) {j : Nat} {h : MH} {C : Int} (J : Jar h j C) (hC : C ≤ 100000) (n2 : 2 ≤ n) (n5 : n ≤ 5) : ∃ (q : Nat → Rat) (W : Nat) (g : MH), runFn cf (l_chance c d) [.ref j, .int (n : Int)] h = .ok (vecD n q) g ∧ W ≠ 0 ∧ W ≤ 28 ∧ (∀ k < n, Dn W (q k) ∧ 0 ≤ q k) ∧ zs tt q n = 1 ∧ Jar g j (C + 8) ∧ ∃ cl, g = h.set j cl := by
  have hl := J.lt
  obtain ⟨acc, g, el, ⟨ps, rfl, hlen, hps, hg, Jg⟩, _⟩ := lcN_inv (s := .rng 0 n) (t := .nm 3) (own := [3]) (cond := condF (ev cf .nil) .nil) (elt := ev cf (.call c (.cons (.var 0) (.cons (.lit (.int 6)) .nil)))) (env := [some (.ref j), oI n, none, none, none, none]) (n := n) (le_SZ (by omega))
    (fun k acc h' => ∃ ps : List Nat, acc = ps.map (fun p : Nat => D.int (p : Int)) ∧ ps.length = k ∧ (∀ p ∈ ps, p ≤ 5) ∧ (∃ cl, h' = h.set j cl) ∧ Jar h' j (C + k)) (fun k acc h' hk _ i => by
      obtain ⟨ps, rfl, hlen, hps, ⟨cl, hh⟩, Jh⟩ := i
      obtain ⟨r, cl1, e1, hr, J1⟩ := Dp j h' _ 6 Jh (by omega) (by omega) (by omega)
      have e1 : cf c [.ref j, .int 6] h' = .ok (.int (r : Int)) (h'.set j cl1) := e1
      refine ⟨.int (k : Int), _, true, h', by simp [Src.at, hk], rfl, rfl, fun z => (by cases z), fun _ => ⟨.int (r : Int), h'.set j cl1, ?_, ps ++ [r], by simp, by simp [hlen], fun p hp => ?_, ⟨cl1, by rw [hh, List.set_set]⟩, J1.mono (by omega)⟩⟩
      · simp -implicitDefEqProofs [-Int.natCast_ediv, -Int.natCast_pow, -Int.natCast_emod, b_ok, on_ok, tru_bl, tru_int, tru_non, look_0, look_s, v_var, v_lit, v_glb, v_pow, v_neg, v_not, v_bin, v_cmp, v_chn, v_and, v_or, v_ife, v_tup, v_lst, v_cel, v_idx, v_slc, v_call, v_ck, v_blt, v_ex, v_mth, v_isi, v_isN, v_isnN, l_nil, l_cons, o_nil, o_cons, s_asg, s_par, s_exp, s_rtn, s_ite, s_nil, s_pas, s_seq, thn_nx, thn_rt, end_rt, end_nx, bind_nm, bind_tp, binds_nil, binds_cons, cond_nil, Lit.d, ret_ap, neg_int, bin_add, bin_sub, cmp_le, cmp_lt, cmp_gt, cmp_ge, cmp_eq, cmp_ne, idx_fr0, idx_fr1, blt_int, fin_bl, fin_int, fin_non, fin_fr, wipeE, e1]
      · rcases List.mem_append.mp hp with z | z
        · exact hps p z
        · have := List.mem_singleton.mp z
          omega) (fun _ _ _ => rfl) n 0 [] h (by omega) (by simp) ⟨[], rfl, rfl, by simp, ⟨h[j], (List.set_getElem_self hl).symm⟩, J.mono (by omega)⟩
  have a1 : ev cf (.lc [3] (.call c (.cons (.var 0) (.cons (.lit (.int 6)) .nil))) (.nm 3) .rng (.cons (.var 1) .nil) .nil) [some (.ref j), oI n, none, none, none, none] h = .ok (.lst (ps.map fun p : Nat => .int (p : Int))) g := lc_of (ds := [.int (n : Int)]) (by simp -implicitDefEqProofs [-Int.natCast_ediv, -Int.natCast_pow, -Int.natCast_emod, b_ok, on_ok, tru_bl, tru_int, tru_non, look_0, look_s, v_var, v_lit, v_glb, v_pow, v_neg, v_not, v_bin, v_cmp, v_chn, v_and, v_or, v_ife, v_tup, v_lst, v_cel, v_idx, v_slc, v_call, v_ck, v_blt, v_ex, v_mth, v_isi, v_isN, v_isnN, l_nil, l_cons, o_nil, o_cons, s_asg, s_par, s_exp, s_rtn, s_ite, s_nil, s_pas, s_seq, thn_nx, thn_rt, end_rt, end_nx, bind_nm, bind_tp, binds_nil, binds_cons, cond_nil, Lit.d, ret_ap, neg_int, bin_add, bin_sub, cmp_le, cmp_lt, cmp_gt, cmp_ge, cmp_eq, cmp_ne, idx_fr0, idx_fr1, blt_int, fin_bl, fin_int, fin_non, fin_fr]) (rng_ok (le_SZ (by omega))) el
  have lg : g.length = h.length := len_set hg
  obtain ⟨r, g1, e1, hr, J1, hg1⟩ := dip_app Dp (top := n) (d := .lst (ps.map fun p : Nat => .int (p : Int))) hg Jg (by omega) (by omega) (by omega)
  obtain ⟨s, g2, e2, hs, J2, hg2⟩ := dip_app Dp (top := 3) (d := .lst (ps.map fun p : Nat => .int (p : Int))) hg1 J1 (by omega) (by omega) (by omega)
  have e2 : cf c [.ref j, .int 3] (g1 ++ [.lst (ps.map fun p : Nat => .int (p : Int))]) = .ok (.int (s : Int)) (g2 ++ [.lst (ps.map fun p : Nat => .int (p : Int))]) := e2
  have lg1 : g1.length = h.length := len_set hg1
  have lg2 : g2.length = h.length := len_set hg2
  have hr2 : r < ps.length := by omega
  have au := augs_of (cf := cf) (a := .var 2) (b := .call c (.cons (.var 0) (.cons (.var 1) .nil))) (e := .bin .add (.lit (.int 1)) (.call c (.cons (.var 0) (.cons (.lit (.int 3)) .nil)))) (env := [some (.ref j), oI n, some (.ref h.length), none, none, none]) (h := g ++ [.lst (ps.map fun p : Nat => .int (p : Int))]) (h1 := g1 ++ [.lst (ps.map fun p : Nat => .int (p : Int))]) (h2 := g2 ++ [.lst (ps.map fun p : Nat => .int (p : Int))]) (i := h.length) (j := r) (xs := ps.map fun p : Nat => .int (p : Int)) (u := (ps[r] : Int)) (w := 1 + (s : Int)) (hj := by simpa using hr2) (by simp -implicitDefEqProofs [-Int.natCast_ediv, -Int.natCast_pow, -Int.natCast_emod, b_ok, on_ok, tru_bl, tru_int, tru_non, look_0, look_s, v_var, v_lit, v_glb, v_pow, v_neg, v_not, v_bin, v_cmp, v_chn, v_and, v_or, v_ife, v_tup, v_lst, v_cel, v_idx, v_slc, v_call, v_ck, v_blt, v_ex, v_mth, v_isi, v_isN, v_isnN, l_nil, l_cons, o_nil, o_cons, s_asg, s_par, s_exp, s_rtn, s_ite, s_nil, s_pas, s_seq, thn_nx, thn_rt, end_rt, end_nx, bind_nm, bind_tp, binds_nil, binds_cons, cond_nil, Lit.d, ret_ap, neg_int, bin_add, bin_sub, cmp_le, cmp_lt, cmp_gt, cmp_ge, cmp_eq, cmp_ne, idx_fr0, idx_fr1, blt_int, fin_bl, fin_int, fin_non, fin_fr]) (by simp -implicitDefEqProofs [-Int.natCast_ediv, -Int.natCast_pow, -Int.natCast_emod, b_ok, on_ok, tru_bl, tru_int, tru_non, look_0, look_s, v_var, v_lit, v_glb, v_pow, v_neg, v_not, v_bin, v_cmp, v_chn, v_and, v_or, v_ife, v_tup, v_lst, v_cel, v_idx, v_slc, v_call, v_ck, v_blt, v_ex, v_mth, v_isi, v_isN, v_isnN, l_nil, l_cons, o_nil, o_cons, s_asg, s_par, s_exp, s_rtn, s_ite, s_nil, s_pas, s_seq, thn_nx, thn_rt, end_rt, end_nx, bind_nm, bind_tp, binds_nil, binds_cons, cond_nil, Lit.d, ret_ap, neg_int, bin_add, bin_sub, cmp_le, cmp_lt, cmp_gt, cmp_ge, cmp_eq, cmp_ne, idx_fr0, idx_fr1, blt_int, fin_bl, fin_int, fin_non, fin_fr, e1]) (by rw [← lg1]; exact get_last) (by simp) (by simp -implicitDefEqProofs [-Int.natCast_ediv, -Int.natCast_pow, -Int.natCast_emod, b_ok, on_ok, tru_bl, tru_int, tru_non, look_0, look_s, v_var, v_lit, v_glb, v_pow, v_neg, v_not, v_bin, v_cmp, v_chn, v_and, v_or, v_ife, v_tup, v_lst, v_cel, v_idx, v_slc, v_call, v_ck, v_blt, v_ex, v_mth, v_isi, v_isN, v_isnN, l_nil, l_cons, o_nil, o_cons, s_asg, s_par, s_exp, s_rtn, s_ite, s_nil, s_pas, s_seq, thn_nx, thn_rt, end_rt, end_nx, bind_nm, bind_tp, binds_nil, binds_cons, cond_nil, Lit.d, ret_ap, neg_int, bin_add, bin_sub, cmp_le, cmp_lt, cmp_gt, cmp_ge, cmp_eq, cmp_ne, idx_fr0, idx_fr1, blt_int, fin_bl, fin_int, fin_non, fin_fr, e2]) (by rw [← lg2]; exact get_last) (by
    have : (ps[r] : Int) + (1 + (s : Int)) = ((ps[r] + (1 + s) : Nat) : Int) := by omega
    rw [this, map_set]
    exact plains_ints)
  have ez : (ps[r] : Int) + (1 + (s : Int)) = ((ps[r] + (1 + s) : Nat) : Int) := by omega
  rw [ez, map_set, ← lg2, set_last, lg2] at au
  generalize hqs : ps.set r (ps[r] + (1 + s)) = qs at au
  have hql : qs.length = n := by rw [← hqs]; simp [hlen]
  have hsum : qs.sum = ps.sum + (1 + s) := by rw [← hqs]; exact sum_set ps r (1 + s) hr2
  have hsle := sum_le (B := 5) hps
  have hW : qs.sum ≠ 0 := by omega
  have hW2 : qs.sum ≤ 28 := by
    rw [hlen] at hsle
    omega
  have gl : (g2 ++ [.lst (qs.map fun p : Nat => .int (p : Int))])[h.length]? = some (.lst (qs.map fun p : Nat => .int (p : Int))) := by rw [← lg2]; exact get_last
  have sm : bltD .sum [.ref h.length] (g2 ++ [.lst (qs.map fun p : Nat => .int (p : Int))]) = .ok (.int (qs.sum : Int)) (g2 ++ [.lst (qs.map fun p : Nat => .int (p : Int))]) := by
    have e : (qs.map fun p : Nat => (p : Int)).sum = ((qs.sum : Nat) : Int) := by
      clear hqs hql hsum hW hW2 gl au
      induction qs with
      | nil => rfl
      | cons a r ih => simp [ih]
    simp [bltD, lItems, gl, ints_map (p := fun p : Nat => (p : Int)), e]
  have a2 : ev cf (.lc [5] (.call d (.cons (.var 5) (.cons (.var 4) .nil))) (.nm 5) .seq (.cons (.var 2) .nil) .nil) [some (.ref j), oI n, some (.ref h.length), none, oI qs.sum, none] (g2 ++ [.lst (qs.map fun p : Nat => .int (p : Int))]) = .ok (.lst ((List.range n).map fun k => fr (mkRat (qs.getD k 0 : Nat) qs.sum))) (g2 ++ [.lst (qs.map fun p : Nat => .int (p : Int))]) := by
    have z := lc_gen (s := .cel h.length qs.length) (t := .nm 5) (own := [5]) (cond := condF (ev cf .nil) .nil) (elt := ev cf (.call d (.cons (.var 5) (.cons (.var 4) .nil)))) (env := [some (.ref j), oI n, some (.ref h.length), none, oI qs.sum, none]) (h := g2 ++ [.lst (qs.map fun p : Nat => .int (p : Int))]) (ys := List.range qs.length) (f := fun k => .int (qs.getD k 0 : Nat)) (fun _ => true) (fun k => fr (mkRat (qs.getD k 0 : Nat) qs.sum)) (fun k hk => by
      have hk : k < qs.length := by simpa using hk
      simp [Src.at, gl, hk]) (by simp [Src.done, gl]) (by rw [List.length_range, hql]; exact le_SZ (by omega)) (fun k hk => by
      have hk : k < qs.length := by simpa using hk
      have lw := fun h => Lw (qs.getD k 0 : Nat) qs.sum h (by omega) (Nat.le_trans (show qs.sum ≤ 2 ^ 5 by omega) (Nat.pow_le_pow_right (by decide) (by decide)))
      generalize qs.getD k 0 = x at lw
      generalize qs.sum = y at lw
      exact ⟨_, rfl, rfl, fun _ => by simp -implicitDefEqProofs [-Int.natCast_ediv, -Int.natCast_pow, -Int.natCast_emod, b_ok, on_ok, tru_bl, tru_int, tru_non, look_0, look_s, v_var, v_lit, v_glb, v_pow, v_neg, v_not, v_bin, v_cmp, v_chn, v_and, v_or, v_ife, v_tup, v_lst, v_cel, v_idx, v_slc, v_call, v_ck, v_blt, v_ex, v_mth, v_isi, v_isN, v_isnN, l_nil, l_cons, o_nil, o_cons, s_asg, s_par, s_exp, s_rtn, s_ite, s_nil, s_pas, s_seq, thn_nx, thn_rt, end_rt, end_nx, bind_nm, bind_tp, binds_nil, binds_cons, cond_nil, Lit.d, ret_ap, neg_int, bin_add, bin_sub, cmp_le, cmp_lt, cmp_gt, cmp_ge, cmp_eq, cmp_ne, idx_fr0, idx_fr1, blt_int, fin_bl, fin_int, fin_non, fin_fr, wipeE, lw]⟩)
    rw [filter_tt, List.length_range] at z
    rw [hql] at z
    refine lc_of (ds := [.ref h.length]) (h1 := g2 ++ [.lst (qs.map fun p : Nat => .int (p : Int))]) (h2 := g2 ++ [.lst (qs.map fun p : Nat => .int (p : Int))]) (by simp -implicitDefEqProofs [-Int.natCast_ediv, -Int.natCast_pow, -Int.natCast_emod, b_ok, on_ok, tru_bl, tru_int, tru_non, look_0, look_s, v_var, v_lit, v_glb, v_pow, v_neg, v_not, v_bin, v_cmp, v_chn, v_and, v_or, v_ife, v_tup, v_lst, v_cel, v_idx, v_slc, v_call, v_ck, v_blt, v_ex, v_mth, v_isi, v_isN, v_isnN, l_nil, l_cons, o_nil, o_cons, s_asg, s_par, s_exp, s_rtn, s_ite, s_nil, s_pas, s_seq, thn_nx, thn_rt, end_rt, end_nx, bind_nm, bind_tp, binds_nil, binds_cons, cond_nil, Lit.d, ret_ap, neg_int, bin_add, bin_sub, cmp_le, cmp_lt, cmp_gt, cmp_ge, cmp_eq, cmp_ne, idx_fr0, idx_fr1, blt_int, fin_bl, fin_int, fin_non, fin_fr]) ?_ z
    simp [src, gl, hql]
  refine ⟨fun k => mkRat (qs.getD k 0 : Nat) qs.sum, qs.sum, g2, ?_, hW, hW2, fun k hk => ⟨⟨_, rfl⟩, ?_⟩, ?_, J2.mono (by omega), hg2⟩
  · rw [run_eq ⟨rfl, by simp [l_chance]⟩]
    have ce := cell_of (h := g) (plains_ints (ps := ps))
    rw [lg] at ce
    simp -implicitDefEqProofs [l_chance, -Int.natCast_ediv, -Int.natCast_pow, -Int.natCast_emod, b_ok, on_ok, tru_bl, tru_int, tru_non, look_0, look_s, v_var, v_lit, v_glb, v_pow, v_neg, v_not, v_bin, v_cmp, v_chn, v_and, v_or, v_ife, v_tup, v_lst, v_cel, v_idx, v_slc, v_call, v_ck, v_blt, v_ex, v_mth, v_isi, v_isN, v_isnN, l_nil, l_cons, o_nil, o_cons, s_asg, s_par, s_exp, s_rtn, s_ite, s_nil, s_pas, s_seq, thn_nx, thn_rt, end_rt, end_nx, bind_nm, bind_tp, binds_nil, binds_cons, cond_nil, Lit.d, ret_ap, neg_int, bin_add, bin_sub, cmp_le, cmp_lt, cmp_gt, cmp_ge, cmp_eq, cmp_ne, idx_fr0, idx_fr1, blt_int, fin_bl, fin_int, fin_non, fin_fr, v_cl, a1, ce, au, sm, a2, tuple_lst]
    rw [← lg2]
    exact fin_drop plains_vec
  · refine Rat.num_nonneg.mp ?_
    rw [Rat.num_mkRat, if_neg hW]
    exact Int.ediv_nonneg (by omega) (by omega)
  · have := zs_take (ps := qs) hW (N := n) (by omega)
    rw [this, ← hql, List.take_length]
    exact (Rat.mkRat_eq_iff hW (by decide)).mpr (by simp) |>.trans (rfl : mkRat 1 1 = 1)
end
end Mn

set_option maxHeartbeats 4000000
/-! Mn: the laws' own envelopes of chances. -/
namespace Mn
def onC (n : Nat) (q : Nat → Rat) (x : Nat) : Rat := zs (fun k => x / 2 ^ k % 2 == 1) q n
theorem fold_on {q : Nat → Rat} {x : Nat} : ∀ n : Nat, (lotL n x).foldl (fun t k => t + q k) 0 = onC n q x
  | 0 => rfl
  | n + 1 => by
    have e : lotL (n + 1) x = lotL n x ++ if x / 2 ^ n % 2 == 1 then [n] else [] := by
      unfold lotL
      rw [List.range_succ, List.filter_append]
      congr 1
      by_cases h : (x / 2 ^ n % 2 == 1) = true <;> simp [h]
    rw [e, List.foldl_append, fold_on n]
    show _ = onC n q x + _
    split
    · rfl
    · show onC n q x = _
      grind
theorem zs_nonneg {P : Nat → Bool} {f : Nat → Rat} : ∀ {N : Nat}, (∀ k < N, 0 ≤ f k) → 0 ≤ zs P f N
  | 0, _ => by simp [zs]
  | N + 1, h => by
    have h1 := zs_nonneg (P := P) (N := N) fun k hk => h k (by omega)
    have h2 := h N (by omega)
    simp only [zs]
    split <;> grind
theorem zs_le {P Q : Nat → Bool} {f : Nat → Rat} : ∀ {N : Nat}, (∀ k < N, 0 ≤ f k) → (∀ k < N, P k = true → Q k = true) → zs P f N ≤ zs Q f N
  | 0, _, _ => by simp [zs]
  | N + 1, h, hi => by
    have h1 := zs_le (P := P) (Q := Q) (N := N) (fun k hk => h k (by omega)) fun k hk => hi k (by omega)
    have h2 := h N (by omega)
    have h3 := hi N (by omega)
    simp only [zs]
    split <;> split <;> grind
theorem zs_pcongr {P Q : Nat → Bool} {f : Nat → Rat} : ∀ {N : Nat}, (∀ k < N, P k = Q k) → zs P f N = zs Q f N
  | 0, _ => rfl
  | N + 1, h => by
    simp only [zs]
    rw [zs_pcongr (N := N) fun k hk => h k (by omega)]
    have := h N (by omega)
    simp [this]
theorem zs_ff {f : Nat → Rat} : ∀ {N : Nat}, zs (fun _ => false) f N = 0
  | 0 => rfl
  | N + 1 => by
    simp only [zs]
    rw [zs_ff (N := N)]
    simp
    grind
theorem Dn.zs {W : Nat} (hW : W ≠ 0) {P : Nat → Bool} {f : Nat → Rat} : ∀ {N : Nat}, (∀ k < N, Dn W (f k)) → Dn W (zs P f N)
  | 0, _ => Dn.zero
  | N + 1, h => by
    simp only [Mn.zs]
    refine Dn.add hW (Dn.zs hW fun k hk => h k (by omega)) ?_
    split
    · exact h N (by omega)
    · exact Dn.zero
/-- a chance: shares that add up to 1 -/
structure OkC (n : Nat) (W : Nat) (q : Nat → Rat) : Prop where
  w0 : W ≠ 0
  w1 : W ≤ 28
  dn : ∀ k < n, Dn W (q k)
  lo : ∀ k < n, 0 ≤ q k
  sum : zs tt q n = 1
section
variable {cf : Nat → List D → M D} {n W : Nat} {q : Nat → Rat}
theorem zs_part {P : Nat → Bool} (o : OkC n W q) : zs P q n ≤ 1 := by
  rw [← o.sum]
  exact zs_le o.lo fun _ _ _ => rfl
theorem zs_at {f : Nat → Rat} {N k : Nat} (hk : k < N) (h : ∀ k < N, 0 ≤ f k) : f k ≤ zs tt f N := by
  have := zs_le (P := fun y => decide (y = k)) (Q := tt) h fun _ _ _ => rfl
  rw [zs_single, if_pos hk] at this
  exact this
theorem OkC.hi (o : OkC n W q) {k : Nat} (hk : k < n) : q k ≤ 1 := by
  rw [← o.sum]
  exact zs_at hk o.lo
theorem OkC.sz (o : OkC n W q) {k : Nat} (hk : k < n) : Sz 20 (q k) := sz_share (o.lo k hk) (o.hi hk) (Nat.le_trans (Dn.den o.w0 (o.dn k hk)) (Nat.le_trans o.w1 (by decide)))
theorem on_bot : ∀ n < 6, ∀ k < n, (0 / 2 ^ k % 2 == 1) = false := by decide +kernel
theorem on_top : ∀ n < 6, ∀ k < n, ((2 ^ n - 1) / 2 ^ k % 2 == 1) = true := by decide +kernel
theorem on_bits : ∀ n < 6, ∀ x < 2 ^ n, ∀ k < n, ∀ i < n, (x / 2 ^ k % 2 != 1 || !((x - 2 ^ k) / 2 ^ i % 2 == 1) || (x / 2 ^ i % 2 == 1)) = true := by decide +kernel
theorem onC_bot (hn : n < 6) : onC n q 0 = 0 := by
  unfold onC
  rw [zs_pcongr (Q := fun _ => false) fun k hk => on_bot n hn k hk, zs_ff]
theorem onC_top (hn : n < 6) (o : OkC n W q) : onC n q (2 ^ n - 1) = 1 := by
  unfold onC
  rw [zs_pcongr (Q := tt) fun k hk => on_top n hn k hk, o.sum]
theorem onC_mono (hn : n < 6) (o : OkC n W q) {x k : Nat} (hx : x < 2 ^ n) (hk : k < n) (hb : x / 2 ^ k % 2 = 1) : onC n q (x - 2 ^ k) ≤ onC n q x :=
  zs_le o.lo fun i hi h => by
    have := on_bits n hn x hx k hk i hi
    simp only [hb] at this
    simpa [h] using this
abbrev OnAt (cf : Nat → List D → M D) (c : Nat) : Prop := ∀ (n : Nat) (q : Nat → Rat) (x : Nat) h, n ≤ 5 → (∀ k < n, Sz 20 (q k)) → cf c [vecD n q, lotD n x] h = .ok (fr (onC n q x)) h
theorem sz_fold {q : Nat → Rat} : ∀ (l : List Nat) {a : Rat} {m : Nat}, (∀ k ∈ l, Sz 20 (q k)) → Sz m a → Sz (m + l.length * 21) (l.foldl (fun t k => t + q k) a)
  | [], a, m, _, h => by simpa using h
  | k :: l, a, m, hk, h => by
    have := sz_fold l (fun k h => hk k (by simp [h])) (h.add (hk k (by simp)))
    simp only [List.foldl_cons, List.length_cons]
    exact this.mono (by omega)
theorem l_on_ok {c : Nat} (P : PlusAt cf c) {x : Nat} {h : MH} (n5 : n ≤ 5) (hq : ∀ k < n, Sz 20 (q k)) : runFn cf (l_on c) [vecD n q, lotD n x] h = .ok (fr (onC n q x)) h := by
  have z : D.tup [.int 0, .int 1] = fr 0 := rfl
  have s2 : 2 ≤ SZ := by decide
  obtain ⟨env', h', e, rfl, o, rfl⟩ := for_seq (cf := cf) (t := .nm 3) (l := .cons (.var 1) .nil) (b := .seq (.asg (.nm 2) (.call c (.cons (.var 2) (.cons (.idx (.var 0) (.var 3)) .nil)))) .nil) (env := [some (vecD n q), some (lotD n x), some (fr 0), none]) (h := h) (lotL n x) (fun k => .int (k : Int)) (fun pre env h' => h' = h ∧ ∃ o, env = [some (vecD n q), some (lotD n x), some (fr (pre.foldl (fun t k => t + q k) 0)), o]) (.inl (by simp -implicitDefEqProofs [-Int.natCast_ediv, -Int.natCast_pow, -Int.natCast_emod, b_ok, on_ok, tru_bl, tru_int, tru_non, look_0, look_s, v_var, v_lit, v_glb, v_pow, v_neg, v_not, v_bin, v_cmp, v_chn, v_and, v_or, v_ife, v_tup, v_lst, v_cel, v_idx, v_slc, v_call, v_ck, v_blt, v_ex, v_mth, v_isi, v_isN, v_isnN, l_nil, l_cons, o_nil, o_cons, s_asg, s_par, s_exp, s_rtn, s_ite, s_nil, s_pas, s_seq, thn_nx, thn_rt, end_rt, end_nx, bind_nm, bind_tp, binds_nil, binds_cons, cond_nil, Lit.d, ret_ap, neg_int, bin_add, bin_sub, cmp_le, cmp_lt, cmp_gt, cmp_ge, cmp_eq, cmp_ne, idx_fr0, idx_fr1, blt_int, fin_bl, fin_int, fin_non, fin_fr, tI])) (fun pre k post env h' hy i => by
    obtain ⟨rfl, o, rfl⟩ := i
    have hk : k < n := lotL_lt (x := x) (by rw [hy]; simp)
    have ix := fun h => idx_vec (v := q) (h := h) hk
    have hl : pre.length ≤ 5 := by
      have h1 := lot_len (n := n) (x := x)
      rw [hy] at h1
      simp at h1
      omega
    have sz1 : Sz 1900 (pre.foldl (fun t k => t + q k) 0) := (sz_fold pre (m := 0) (fun k h => hq k (lotL_lt (x := x) (by rw [hy]; simp [h]))) sz_zero).mono (by omega)
    have p := fun h => P _ _ h sz1 ((hq k hk).mono (by decide))
    refine ⟨_, [some (vecD n q), some (lotD n x), some (fr ((pre ++ [k]).foldl (fun t k => t + q k) 0)), oI k], _, rfl, ?_, rfl, _, rfl⟩
    rw [List.foldl_append]
    generalize pre.foldl (fun t k => t + q k) 0 = w at p
    simp -implicitDefEqProofs [-Int.natCast_ediv, -Int.natCast_pow, -Int.natCast_emod, b_ok, on_ok, tru_bl, tru_int, tru_non, look_0, look_s, v_var, v_lit, v_glb, v_pow, v_neg, v_not, v_bin, v_cmp, v_chn, v_and, v_or, v_ife, v_tup, v_lst, v_cel, v_idx, v_slc, v_call, v_ck, v_blt, v_ex, v_mth, v_isi, v_isN, v_isnN, l_nil, l_cons, o_nil, o_cons, s_asg, s_par, s_exp, s_rtn, s_ite, s_nil, s_pas, s_seq, thn_nx, thn_rt, end_rt, end_nx, bind_nm, bind_tp, binds_nil, binds_cons, cond_nil, Lit.d, ret_ap, neg_int, bin_add, bin_sub, cmp_le, cmp_lt, cmp_gt, cmp_ge, cmp_eq, cmp_ne, idx_fr0, idx_fr1, blt_int, fin_bl, fin_int, fin_non, fin_fr, ix, p]) ⟨rfl, none, rfl⟩
  rw [fold_on] at e
  rw [run_eq ⟨rfl, by simp [l_on]⟩]
  simp -implicitDefEqProofs [l_on, -Int.natCast_ediv, -Int.natCast_pow, -Int.natCast_emod, b_ok, on_ok, tru_bl, tru_int, tru_non, look_0, look_s, v_var, v_lit, v_glb, v_pow, v_neg, v_not, v_bin, v_cmp, v_chn, v_and, v_or, v_ife, v_tup, v_lst, v_cel, v_idx, v_slc, v_call, v_ck, v_blt, v_ex, v_mth, v_isi, v_isN, v_isnN, l_nil, l_cons, o_nil, o_cons, s_asg, s_par, s_exp, s_rtn, s_ite, s_nil, s_pas, s_seq, thn_nx, thn_rt, end_rt, end_nx, bind_nm, bind_tp, binds_nil, binds_cons, cond_nil, Lit.d, ret_ap, neg_int, bin_add, bin_sub, cmp_le, cmp_lt, cmp_gt, cmp_ge, cmp_eq, cmp_ne, idx_fr0, idx_fr1, blt_int, fin_bl, fin_int, fin_non, fin_fr, z, s2, e]
def envL (n : Nat) (qs : List (Nat → Rat)) (x : Nat) : Rat := leastL (qs.map fun q => onC n q x)
abbrev EnvAt (cf : Nat → List D → M D) (c : Nat) : Prop := ∀ (n : Nat) (qs : List (Nat → Rat)) h, n ≤ 5 → qs ≠ [] → qs.length ≤ 10 → (∀ q ∈ qs, ∃ W, OkC n W q) → cf c [.lst (qs.map (vecD n)), .int n] h = .ok (vecD (2 ^ n) (envL n qs)) h
theorem OkC.on_sz (o : OkC n W q) {x : Nat} : Sz 20 (onC n q x) := sz_share (zs_nonneg o.lo) (zs_part o) (Nat.le_trans (Dn.den o.w0 (Dn.zs o.w0 o.dn)) (Nat.le_trans o.w1 (by decide)))
theorem l_envelope_ok {c0 c1 c2 : Nat} (A : LeastAt cf c0) (B : OnAt cf c1) (L : LLotAt cf c2) {qs : List (Nat → Rat)} {h : MH} (n5 : n ≤ 5) (h0 : qs ≠ []) (hl : qs.length ≤ 10) (hq : ∀ q ∈ qs, ∃ W, OkC n W q) : runFn cf (l_envelope c0 c1 c2) [.lst (qs.map (vecD n)), .int n] h = .ok (vecD (2 ^ n) (envL n qs)) h := by
  have p5 := pow5 n5
  have s6 : 6 ≤ SZ := by decide
  have s0 : 0 ≤ SZ := by decide
  have sl := fun h => sz_list (h := h) n5
  obtain ⟨env', h', e, rfl, o3, rfl⟩ := for_rng (cf := cf) (t := .nm 3) (l := (.cons (.idx (.lst (.cons (.lit (.int 1)) (.cons (.lit (.int 2)) (.cons (.lit (.int 4)) (.cons (.lit (.int 8)) (.cons (.lit (.int 16)) (.cons (.lit (.int 32)) .nil))))))) (.var 1)) .nil)) (b := (.seq (.app (.var 2) (.call c0 (.cons (.lc [4] (.call c1 (.cons (.var 4) (.cons (.call c2 (.cons (.var 3) (.cons (.var 1) .nil))) .nil))) (.nm 4) .seq (.cons (.var 0) .nil) .nil) .nil)))
      .nil)) (env := [some (.lst (qs.map (vecD n))), oI n, some (.ref h.length), none, none]) (h := h ++ [.lst []]) (2 ^ n) (fun k env h' => h' = h ++ [.lst ((List.range k).map fun y => fr (envL n qs y))] ∧ ∃ o3, env = [some (.lst (qs.map (vecD n))), oI n, some (.ref h.length), o3, none]) (le_SZ (by omega)) (by simp -implicitDefEqProofs [-Int.natCast_ediv, -Int.natCast_pow, -Int.natCast_emod, b_ok, on_ok, tru_bl, tru_int, tru_non, look_0, look_s, v_var, v_lit, v_glb, v_pow, v_neg, v_not, v_bin, v_cmp, v_chn, v_and, v_or, v_ife, v_tup, v_lst, v_cel, v_idx, v_slc, v_call, v_ck, v_blt, v_ex, v_mth, v_isi, v_isN, v_isnN, l_nil, l_cons, o_nil, o_cons, s_asg, s_par, s_exp, s_rtn, s_ite, s_nil, s_pas, s_seq, thn_nx, thn_rt, end_rt, end_nx, bind_nm, bind_tp, binds_nil, binds_cons, cond_nil, Lit.d, ret_ap, neg_int, bin_add, bin_sub, cmp_le, cmp_lt, cmp_gt, cmp_ge, cmp_eq, cmp_ne, idx_fr0, idx_fr1, blt_int, fin_bl, fin_int, fin_non, fin_fr, s6, sl]) (fun k env h' hk i => by
    obtain ⟨rfl, o3, rfl⟩ := i
    have l := fun h => L k n h n5
    generalize hg : h ++ [.lst ((List.range k).map fun y => fr (envL n qs y))] = g
    have lc := lc_seq' (cf := cf) (own := [4]) (elt := (.call c1 (.cons (.var 4) (.cons (.call c2 (.cons (.var 3) (.cons (.var 1) .nil))) .nil)))) (t := .nm 4) (l := .cons (.var 0) .nil) (env := [some (.lst (qs.map (vecD n))), oI n, some (.ref h.length), oI k, none]) (h := g) qs (vecD n) (fun q => fr (onC n q k)) (le_SZ (by omega)) (.inr (by simp -implicitDefEqProofs [-Int.natCast_ediv, -Int.natCast_pow, -Int.natCast_emod, b_ok, on_ok, tru_bl, tru_int, tru_non, look_0, look_s, v_var, v_lit, v_glb, v_pow, v_neg, v_not, v_bin, v_cmp, v_chn, v_and, v_or, v_ife, v_tup, v_lst, v_cel, v_idx, v_slc, v_call, v_ck, v_blt, v_ex, v_mth, v_isi, v_isN, v_isnN, l_nil, l_cons, o_nil, o_cons, s_asg, s_par, s_exp, s_rtn, s_ite, s_nil, s_pas, s_seq, thn_nx, thn_rt, end_rt, end_nx, bind_nm, bind_tp, binds_nil, binds_cons, cond_nil, Lit.d, ret_ap, neg_int, bin_add, bin_sub, cmp_le, cmp_lt, cmp_gt, cmp_ge, cmp_eq, cmp_ne, idx_fr0, idx_fr1, blt_int, fin_bl, fin_int, fin_non, fin_fr])) (fun q hm => by
      obtain ⟨W, o⟩ := hq q hm
      have b := fun h => B n q k h n5 fun k hk => o.sz hk
      exact ⟨_, rfl, by simp -implicitDefEqProofs [-Int.natCast_ediv, -Int.natCast_pow, -Int.natCast_emod, b_ok, on_ok, tru_bl, tru_int, tru_non, look_0, look_s, v_var, v_lit, v_glb, v_pow, v_neg, v_not, v_bin, v_cmp, v_chn, v_and, v_or, v_ife, v_tup, v_lst, v_cel, v_idx, v_slc, v_call, v_ck, v_blt, v_ex, v_mth, v_isi, v_isN, v_isnN, l_nil, l_cons, o_nil, o_cons, s_asg, s_par, s_exp, s_rtn, s_ite, s_nil, s_pas, s_seq, thn_nx, thn_rt, end_rt, end_nx, bind_nm, bind_tp, binds_nil, binds_cons, cond_nil, Lit.d, ret_ap, neg_int, bin_add, bin_sub, cmp_le, cmp_lt, cmp_gt, cmp_ge, cmp_eq, cmp_ne, idx_fr0, idx_fr1, blt_int, fin_bl, fin_int, fin_non, fin_fr, wipeE, l, b]⟩)
    have a := A (qs.map fun q => onC n q k) g (by simpa using h0) (by rw [List.length_map]; omega) (fun p hp => by
      obtain ⟨q, hm, rfl⟩ := List.mem_map.mp hp
      obtain ⟨W, o⟩ := hq q hm
      exact o.on_sz.mono (by decide))
    rw [List.map_map] at a
    have a : cf c0 [.lst (qs.map fun q => fr (onC n q k))] g = .ok (fr (envL n qs k)) g := a
    have ap := app_of (cf := cf) (a := .var 2) (e := (.call c0 (.cons (.lc [4] (.call c1 (.cons (.var 4) (.cons (.call c2 (.cons (.var 3) (.cons (.var 1) .nil))) .nil))) (.nm 4) .seq (.cons (.var 0) .nil) .nil) .nil))) (env := [some (.lst (qs.map (vecD n))), oI n, some (.ref h.length), oI k, none]) (h := g) (i := h.length) (xs := (List.range k).map fun y => fr (envL n qs y)) (z := fr (envL n qs k)) (by simp -implicitDefEqProofs [-Int.natCast_ediv, -Int.natCast_pow, -Int.natCast_emod, b_ok, on_ok, tru_bl, tru_int, tru_non, look_0, look_s, v_var, v_lit, v_glb, v_pow, v_neg, v_not, v_bin, v_cmp, v_chn, v_and, v_or, v_ife, v_tup, v_lst, v_cel, v_idx, v_slc, v_call, v_ck, v_blt, v_ex, v_mth, v_isi, v_isN, v_isnN, l_nil, l_cons, o_nil, o_cons, s_asg, s_par, s_exp, s_rtn, s_ite, s_nil, s_pas, s_seq, thn_nx, thn_rt, end_rt, end_nx, bind_nm, bind_tp, binds_nil, binds_cons, cond_nil, Lit.d, ret_ap, neg_int, bin_add, bin_sub, cmp_le, cmp_lt, cmp_gt, cmp_ge, cmp_eq, cmp_ne, idx_fr0, idx_fr1, blt_int, fin_bl, fin_int, fin_non, fin_fr]) (by rw [← hg]; exact get_last) (by simp -implicitDefEqProofs [-Int.natCast_ediv, -Int.natCast_pow, -Int.natCast_emod, b_ok, on_ok, tru_bl, tru_int, tru_non, look_0, look_s, v_var, v_lit, v_glb, v_pow, v_neg, v_not, v_bin, v_cmp, v_chn, v_and, v_or, v_ife, v_tup, v_lst, v_cel, v_idx, v_slc, v_call, v_ck, v_blt, v_ex, v_mth, v_isi, v_isN, v_isnN, l_nil, l_cons, o_nil, o_cons, s_asg, s_par, s_exp, s_rtn, s_ite, s_nil, s_pas, s_seq, thn_nx, thn_rt, end_rt, end_nx, bind_nm, bind_tp, binds_nil, binds_cons, cond_nil, Lit.d, ret_ap, neg_int, bin_add, bin_sub, cmp_le, cmp_lt, cmp_gt, cmp_ge, cmp_eq, cmp_ne, idx_fr0, idx_fr1, blt_int, fin_bl, fin_int, fin_non, fin_fr, lc, a]) (by
      rw [List.length_map, List.length_range]
      have : SZ = 16777216 := rfl
      omega) (plains_snoc plains_vec plain_fr)
    rw [← hg, set_last] at ap
    have er : (List.range k).map (fun y => fr (envL n qs y)) ++ [fr (envL n qs k)] = (List.range (k + 1)).map fun y => fr (envL n qs y) := by
      rw [List.range_succ]; simp
    rw [er, hg] at ap
    refine ⟨_, [some (.lst (qs.map (vecD n))), oI n, some (.ref h.length), oI k, none], h ++ [.lst ((List.range (k + 1)).map fun y => fr (envL n qs y))], rfl, ?_, rfl, _, rfl⟩
    simp -implicitDefEqProofs [-Int.natCast_ediv, -Int.natCast_pow, -Int.natCast_emod, b_ok, on_ok, tru_bl, tru_int, tru_non, look_0, look_s, v_var, v_lit, v_glb, v_pow, v_neg, v_not, v_bin, v_cmp, v_chn, v_and, v_or, v_ife, v_tup, v_lst, v_cel, v_idx, v_slc, v_call, v_ck, v_blt, v_ex, v_mth, v_isi, v_isN, v_isnN, l_nil, l_cons, o_nil, o_cons, s_asg, s_par, s_exp, s_rtn, s_ite, s_nil, s_pas, s_seq, thn_nx, thn_rt, end_rt, end_nx, bind_nm, bind_tp, binds_nil, binds_cons, cond_nil, Lit.d, ret_ap, neg_int, bin_add, bin_sub, cmp_le, cmp_lt, cmp_gt, cmp_ge, cmp_eq, cmp_ne, idx_fr0, idx_fr1, blt_int, fin_bl, fin_int, fin_non, fin_fr, ap]) ⟨rfl, none, rfl⟩
  have tp : bltD .tuple [.ref h.length] (h ++ [.lst ((List.range (2 ^ n)).map fun y => fr (envL n qs y))]) = .ok (vecD (2 ^ n) (envL n qs)) (h ++ [.lst ((List.range (2 ^ n)).map fun y => fr (envL n qs y))]) := by
    simp [bltD, items, lItems, vecD]
  rw [run_eq ⟨rfl, by simp [l_envelope]⟩]
  simp -implicitDefEqProofs [l_envelope, -Int.natCast_ediv, -Int.natCast_pow, -Int.natCast_emod, b_ok, on_ok, tru_bl, tru_int, tru_non, look_0, look_s, v_var, v_lit, v_glb, v_pow, v_neg, v_not, v_bin, v_cmp, v_chn, v_and, v_or, v_ife, v_tup, v_lst, v_cel, v_idx, v_slc, v_call, v_ck, v_blt, v_ex, v_mth, v_isi, v_isN, v_isnN, l_nil, l_cons, o_nil, o_cons, s_asg, s_par, s_exp, s_rtn, s_ite, s_nil, s_pas, s_seq, thn_nx, thn_rt, end_rt, end_nx, bind_nm, bind_tp, binds_nil, binds_cons, cond_nil, Lit.d, ret_ap, neg_int, bin_add, bin_sub, cmp_le, cmp_lt, cmp_gt, cmp_ge, cmp_eq, cmp_ne, idx_fr0, idx_fr1, blt_int, fin_bl, fin_int, fin_non, fin_fr, s0, plains, e, tp]
  exact fin_drop plains_vec
end
end Mn

set_option maxHeartbeats 4000000
/-! Mn: envelopes are bounds; bounds lowered and raised. -/
namespace Mn
theorem Dn.mulr {W V : Nat} {p : Rat} (hV : V ≠ 0) (h : Dn W p) : Dn (W * V) p := by
  obtain ⟨a, rfl⟩ := h
  exact ⟨a * V, (Rat.mkRat_mul_right hV).symm⟩
theorem Dn.mull {W V : Nat} {p : Rat} (hV : V ≠ 0) (h : Dn W p) : Dn (V * W) p := by
  rw [Nat.mul_comm]
  exact h.mulr hV
section
variable {n : Nat} {v : Nat → Rat}
/-- a common bottom of some chances -/
theorem common {qs : List (Nat → Rat)} (hq : ∀ q ∈ qs, ∃ W, OkC n W q) : ∃ W, W ≠ 0 ∧ W ≤ 28 ^ qs.length ∧ ∀ q ∈ qs, ∀ k < n, Dn W (q k) := by
  induction qs with
  | nil => exact ⟨1, by decide, by simp, by simp⟩
  | cons q r ih =>
    obtain ⟨W, w0, w1, wd⟩ := ih fun q h => hq q (by simp [h])
    obtain ⟨V, o⟩ := hq q (by simp)
    refine ⟨V * W, Nat.mul_ne_zero o.w0 w0, ?_, fun p hp k hk => ?_⟩
    · rw [List.length_cons, Nat.pow_succ, Nat.mul_comm]
      exact Nat.mul_le_mul w1 o.w1
    · rcases List.mem_cons.mp hp with z | z
      · subst z
        exact (o.dn k hk).mulr w0
      · exact (wd p z k hk).mull o.w0
theorem env_mem {qs : List (Nat → Rat)} (h0 : qs ≠ []) (x : Nat) : ∃ q ∈ qs, envL n qs x = onC n q x := by
  have := leastL_mem (qs := qs.map fun q => onC n q x) (by simpa using h0)
  obtain ⟨q, hq, e⟩ := List.mem_map.mp this
  exact ⟨q, hq, e.symm⟩
theorem env_le {qs : List (Nat → Rat)} {q : Nat → Rat} (hq : q ∈ qs) (x : Nat) : envL n qs x ≤ onC n q x := leastL_le (List.mem_map_of_mem (f := fun q => onC n q x) hq)
/-- an envelope of chances -/
theorem env_ok {qs : List (Nat → Rat)} (n2 : 2 ≤ n) (n5 : n ≤ 5) (h0 : qs ≠ []) (hq : ∀ q ∈ qs, ∃ W, OkC n W q) : OkV n (envL n qs) where
  n2 := n2
  n5 := n5
  lo := fun x _ => by
    obtain ⟨q, hm, e⟩ := env_mem (n := n) h0 x
    obtain ⟨W, o⟩ := hq q hm
    rw [e]
    exact zs_nonneg o.lo
  hi := fun x _ => by
    obtain ⟨q, hm, e⟩ := env_mem (n := n) h0 x
    obtain ⟨W, o⟩ := hq q hm
    rw [e]
    exact zs_part o
  den := fun x _ => by
    obtain ⟨q, hm, e⟩ := env_mem (n := n) h0 x
    obtain ⟨W, o⟩ := hq q hm
    rw [e]
    exact Nat.le_trans (Dn.den o.w0 (Dn.zs o.w0 o.dn)) (Nat.le_trans o.w1 (by decide))
  bot := by
    obtain ⟨q, hm, e⟩ := env_mem (n := n) h0 0
    rw [e]
    exact onC_bot (by omega)
  top := by
    obtain ⟨q, hm, e⟩ := env_mem (n := n) h0 (2 ^ n - 1)
    obtain ⟨W, o⟩ := hq q hm
    rw [e]
    exact onC_top (by omega) o
  mono := fun x hx k hk hb => by
    obtain ⟨q, hm, e⟩ := env_mem (n := n) h0 x
    obtain ⟨W, o⟩ := hq q hm
    rw [e]
    have h1 := env_le (n := n) hm (x - 2 ^ k)
    have h2 := onC_mono (by omega) o hx hk hb
    grind
theorem env_dn {qs : List (Nat → Rat)} {W : Nat} (hW : W ≠ 0) (h0 : qs ≠ []) (hd : ∀ q ∈ qs, ∀ k < n, Dn W (q k)) (x : Nat) : Dn W (envL n qs x) := by
  obtain ⟨q, hm, e⟩ := env_mem (n := n) h0 x
  rw [e]
  exact Dn.zs hW (hd q hm)
/-! ### one bound otherwise -/
def putV (v : Nat → Rat) (x : Nat) (q : Rat) : Nat → Rat := fun y => if y = x then q else v y
theorem putV_same {x : Nat} {q : Rat} : putV v x q x = q := by simp [putV]
theorem putV_ne {x y : Nat} {q : Rat} (h : y ≠ x) : putV v x q y = v y := by simp [putV, h]
theorem off_bits : ∀ n < 6, ∀ x < 2 ^ n, ∀ k < n, (x / 2 ^ k % 2 == 1) = true → x - 2 ^ k ≠ x ∧ x - 2 ^ k < 2 ^ n := by decide +kernel
theorem up_bits0 : ∀ n < 6, ∀ x < 2 ^ n, ∀ k < n, (x / 2 ^ k % 2 == 1 || (decide (x + 2 ^ k < 2 ^ n) && ((x + 2 ^ k) / 2 ^ k % 2 == 1))) = true := by decide +kernel
theorem up_bits (n : Nat) (hn : n < 6) (x : Nat) (hx : x < 2 ^ n) (k : Nat) (hk : k < n) (h : x / 2 ^ k % 2 ≠ 1) : x + 2 ^ k < 2 ^ n ∧ (x + 2 ^ k) / 2 ^ k % 2 = 1 ∧ x + 2 ^ k - 2 ^ k = x := by
  have := up_bits0 n hn x hx k hk
  rw [Bool.or_eq_true, Bool.and_eq_true] at this
  rcases this with z | ⟨z1, z2⟩
  · exact absurd (by simpa using z) h
  · exact ⟨of_decide_eq_true z1, by simpa using z2, by omega⟩
theorem down_up : ∀ n < 6, ∀ y < 2 ^ n, ∀ k < n, y / 2 ^ k % 2 = 1 → (y - 2 ^ k) / 2 ^ k % 2 ≠ 1 ∧ y - 2 ^ k + 2 ^ k = y := by decide +kernel
theorem ne_full : ∀ n < 6, ∀ x < 2 ^ n, x ≠ 2 ^ n - 1 → ((List.range n).filter fun k => x / 2 ^ k % 2 == 0) ≠ [] := by decide +kernel
theorem put_ok (o : OkV n v) {x : Nat} {q : Rat} (hx : x < 2 ^ n) (h0 : x ≠ 0) (h1 : x ≠ 2 ^ n - 1) (hq : ∃ y < 2 ^ n, q = v y) (hd : ∀ k < n, x / 2 ^ k % 2 = 1 → v (x - 2 ^ k) ≤ q) (hu : ∀ k < n, x / 2 ^ k % 2 ≠ 1 → q ≤ v (x + 2 ^ k)) : OkV n (putV v x q) := by
  have n5 := o.n5
  obtain ⟨y0, hy0, rfl⟩ := hq
  refine ⟨o.n2, o.n5, fun y hy => ?_, fun y hy => ?_, fun y hy => ?_, ?_, ?_, fun y hy k hk hb => ?_⟩
  · unfold putV; split
    · exact o.lo _ hy0
    · exact o.lo y hy
  · unfold putV; split
    · exact o.hi _ hy0
    · exact o.hi y hy
  · unfold putV; split
    · exact o.den _ hy0
    · exact o.den y hy
  · rw [putV_ne (fun e => h0 e.symm)]; exact o.bot
  · rw [putV_ne (fun e => h1 e.symm)]; exact o.top
  · have hof := off_bits n (by omega) y hy k hk (by simp [hb])
    by_cases e : y = x
    · subst e
      rw [putV_same, putV_ne hof.1]
      exact hd k hk hb
    · rw [putV_ne e]
      by_cases e2 : y - 2 ^ k = x
      · rw [e2, putV_same]
        obtain ⟨d1, d2⟩ := down_up n (by omega) y hy k hk hb
        rw [e2] at d1 d2
        have := hu k hk d1
        rwa [d2] at this
      · rw [putV_ne e2]
        exact o.mono y hy k hk hb
/-- lowered as far as others let it -/
theorem low_put (o : OkV n v) {x : Nat} (hx : x < 2 ^ n) (h0 : x ≠ 0) (h1 : x ≠ 2 ^ n - 1) : OkV n (putV v x (-leastL ((lotL n x).map fun k => -v (x - 2 ^ k)))) ∧ ∃ y < 2 ^ n, -leastL ((lotL n x).map fun k => -v (x - 2 ^ k)) = v y := by
  have n5 := o.n5
  have hne : (lotL n x).map (fun k => -v (x - 2 ^ k)) ≠ [] := by
    intro z
    rw [List.map_eq_nil_iff] at z
    exact h0 (lot_nil n (by omega) x hx z)
  obtain ⟨k, hk, e⟩ := List.mem_map.mp (leastL_mem hne)
  obtain ⟨k1, k2⟩ := mem_lotL.mp hk
  have hq : ∃ y < 2 ^ n, -leastL ((lotL n x).map fun k => -v (x - 2 ^ k)) = v y := ⟨x - 2 ^ k, Nat.lt_of_le_of_lt (Nat.sub_le _ _) hx, by rw [← e]; grind⟩
  refine ⟨put_ok o hx h0 h1 hq (fun i hi hb => ?_) (fun i hi hb => ?_), hq⟩
  · have := leastL_le (List.mem_map_of_mem (f := fun k => -v (x - 2 ^ k)) (mem_lotL.mpr ⟨hi, hb⟩))
    grind
  · have a1 := o.mono x hx k k1 k2
    obtain ⟨u1, u2, u3⟩ := up_bits n (by omega) x hx i hi hb
    have a2 := o.mono (x + 2 ^ i) u1 i hi u2
    rw [u3] at a2
    rw [← e]
    grind
/-- raised as far as others let it -/
theorem high_put (o : OkV n v) {x : Nat} (hx : x < 2 ^ n) (h0 : x ≠ 0) (h1 : x ≠ 2 ^ n - 1) : OkV n (putV v x (leastL (((List.range n).filter fun k => x / 2 ^ k % 2 == 0).map fun k => v (x + 2 ^ k)))) ∧ ∃ y < 2 ^ n, leastL (((List.range n).filter fun k => x / 2 ^ k % 2 == 0).map fun k => v (x + 2 ^ k)) = v y := by
  have n5 := o.n5
  have hne : ((List.range n).filter fun k => x / 2 ^ k % 2 == 0).map (fun k => v (x + 2 ^ k)) ≠ [] := by
    intro z
    rw [List.map_eq_nil_iff] at z
    exact ne_full n (by omega) x hx h1 z
  obtain ⟨k, hk, e⟩ := List.mem_map.mp (leastL_mem hne)
  obtain ⟨k1, k2⟩ := List.mem_filter.mp hk
  have k1 : k < n := by simpa using k1
  have k2 : x / 2 ^ k % 2 ≠ 1 := by
    have : x / 2 ^ k % 2 = 0 := by simpa using k2
    omega
  obtain ⟨u1, u2, u3⟩ := up_bits n (by omega) x hx k k1 k2
  have hq : ∃ y < 2 ^ n, leastL (((List.range n).filter fun k => x / 2 ^ k % 2 == 0).map fun k => v (x + 2 ^ k)) = v y := ⟨x + 2 ^ k, u1, e.symm⟩
  refine ⟨put_ok o hx h0 h1 hq (fun i hi hb => ?_) (fun i hi hb => ?_), hq⟩
  · have a1 := o.mono x hx i hi hb
    have a2 := o.mono (x + 2 ^ k) u1 k k1 u2
    rw [u3] at a2
    rw [← e]
    grind
  · have hz : x / 2 ^ i % 2 = 0 := by
      have : x / 2 ^ i % 2 < 2 := Nat.mod_lt _ (by decide)
      omega
    exact leastL_le (List.mem_map_of_mem (f := fun k => v (x + 2 ^ k)) (List.mem_filter.mpr ⟨by simpa using hi, by simp [hz]⟩))
end
end Mn

set_option maxHeartbeats 4000000
/-! Mn: weights by lots, weakened. -/
namespace Mn
/-- the weight of one lot -/
def wt (ms : List (Nat × Rat)) (x : Nat) : Rat := ws ms fun y => decide (y = x)
theorem wt_nil {x : Nat} : wt [] x = 0 := rfl
theorem wt_cons {m : Nat × Rat} {ms : List (Nat × Rat)} {x : Nat} : wt (m :: ms) x = (if m.1 = x then m.2 else 0) + wt ms x := by
  unfold wt
  simp only [ws, decide_eq_true_eq]
theorem wt_snoc {m : Nat × Rat} {ms : List (Nat × Rat)} {x : Nat} : wt (ms ++ [m]) x = wt ms x + if m.1 = x then m.2 else 0 := by
  unfold wt
  rw [ws_tail]
  simp only [decide_eq_true_eq]
theorem wt_none {ms : List (Nat × Rat)} {x : Nat} (h : ∀ m ∈ ms, m.1 ≠ x) : wt ms x = 0 := ws_none fun m hm => decide_eq_false (h m hm)
theorem wt_nonneg {ms : List (Nat × Rat)} {x : Nat} (h : ∀ m ∈ ms, 0 ≤ m.2) : 0 ≤ wt ms x := ws_nonneg h
theorem wt_mem {ms : List (Nat × Rat)} {m : Nat × Rat} (hd : (ms.map (·.1)).Nodup) (h : m ∈ ms) : wt ms m.1 = m.2 := ws_single hd h
theorem wt_one {ms : List (Nat × Rat)} (hd : (ms.map (·.1)).Nodup) (x : Nat) : wt ms x = 0 ∨ ∃ m ∈ ms, m.1 = x ∧ wt ms x = m.2 := by
  by_cases h : ∃ m ∈ ms, m.1 = x
  · obtain ⟨m, hm, e⟩ := h
    exact .inr ⟨m, hm, e, by rw [← e]; exact wt_mem hd hm⟩
  · exact .inl (wt_none fun m hm e => h ⟨m, hm, e⟩)
theorem zs_add {P : Nat → Bool} {f g : Nat → Rat} : ∀ {N : Nat}, zs P (fun x => f x + g x) N = zs P f N + zs P g N
  | 0 => by simp [zs]; grind
  | N + 1 => by
    simp only [zs]
    rw [zs_add (N := N)]
    split <;> grind
theorem zs_mul {P : Nat → Bool} {f : Nat → Rat} {a : Rat} : ∀ {N : Nat}, zs P (fun x => a * f x) N = a * zs P f N
  | 0 => by simp [zs]
  | N + 1 => by
    simp only [zs]
    rw [zs_mul (N := N)]
    split <;> grind
theorem zs_zero {P : Nat → Bool} : ∀ {N : Nat}, zs P (fun _ => 0) N = 0
  | 0 => rfl
  | N + 1 => by
    simp only [zs]
    rw [zs_zero (N := N)]
    split <;> grind
theorem zs_pt {P : Nat → Bool} {x : Nat} {a : Rat} : ∀ {N : Nat}, zs P (fun y => if x = y then a else 0) N = if x < N ∧ P x = true then a else 0
  | 0 => by simp [zs]
  | N + 1 => by
    simp only [zs]
    rw [zs_pt (N := N)]
    by_cases e : x = N
    · subst e
      by_cases hp : P x = true <;> simp [hp] <;> grind
    · have : (x < N + 1) ↔ x < N := by omega
      simp only [this, e, if_false]
      split <;> split <;> grind
/-- all weights, by lots -/
theorem ws_wt {P : Nat → Bool} {N : Nat} : ∀ {ms : List (Nat × Rat)}, (∀ m ∈ ms, m.1 < N) → ws ms P = zs P (wt ms) N
  | [], _ => by
    rw [zs_congr (g := fun _ => 0) fun x _ => wt_nil, zs_zero]
    rfl
  | m :: r, h => by
    have ih := ws_wt (P := P) (N := N) (ms := r) fun m hm => h m (by simp [hm])
    rw [zs_congr (g := fun x => (if m.1 = x then m.2 else 0) + wt r x) fun x _ => wt_cons, zs_add, zs_pt, ← ih]
    have := h m (by simp)
    simp only [ws, this, true_and]
/-- a sum of weights, each so many times -/
def gs (g : Nat → Rat) : List (Nat × Rat) → Rat
  | [] => 0
  | m :: r => m.2 * g m.1 + gs g r
theorem gs_fold {g : Nat → Rat} : ∀ (ms : List (Nat × Rat)) (a : Rat), (ms.map fun m => m.2 * g m.1).foldl (· + ·) a = a + gs g ms
  | [], a => by simp [gs]; grind
  | m :: r, a => by
    simp only [List.map_cons, List.foldl_cons, gs]
    rw [gs_fold r]
    grind
theorem gs_wt {g : Nat → Rat} {N : Nat} : ∀ {ms : List (Nat × Rat)}, (∀ m ∈ ms, m.1 < N) → gs g ms = zs tt (fun x => wt ms x * g x) N
  | [], _ => by
    rw [zs_congr (g := fun _ => 0) fun x _ => by rw [wt_nil]; grind, zs_zero]
    rfl
  | m :: r, h => by
    have ih := gs_wt (g := g) (N := N) (ms := r) fun m hm => h m (by simp [hm])
    rw [zs_congr (g := fun x => (if m.1 = x then m.2 * g m.1 else 0) + wt r x * g x) fun x _ => by
      rw [wt_cons]
      by_cases e : m.1 = x
      · subst e; simp; grind
      · simp [e]; grind, zs_add, zs_pt, ← ih]
    have := h m (by simp)
    simp only [gs, this, true_and, if_true]
/-- a list with these weights, all above 0, is the sorted one -/
theorem perm_wt {n : Nat} {ms l : List (Nat × Rat)} (o : OkM n ms) (hl : ∀ m ∈ l, m.1 < 2 ^ n) (hd : (l.map (·.1)).Nodup) (hp : ∀ m ∈ l, 0 < m.2) (hw : ∀ x < 2 ^ n, wt l x = wt ms x) : l.Perm ms := by
  have nd : l.Nodup := by
    rw [List.Nodup, List.pairwise_map] at hd
    exact List.Pairwise.imp (fun {a b} h e => h (by rw [e])) hd
  refine (List.perm_ext_iff_of_nodup nd o.nodup).mpr fun a => ⟨fun ha => ?_, fun ha => ?_⟩
  · have h1 := wt_mem hd ha
    rw [hw _ (hl a ha)] at h1
    rcases wt_one o.nodupF a.1 with z | ⟨m, hm, e, z⟩
    · have := hp a ha
      rw [← h1, z] at this
      exact absurd this (by decide)
    · have : a = m := Prod.ext e.symm (by rw [← h1, z])
      rw [this]; exact hm
  · have h1 := wt_mem o.nodupF ha
    rw [← hw _ (o.lots a ha).2] at h1
    rcases wt_one hd a.1 with z | ⟨m, hm, e, z⟩
    · have := o.pos a ha
      rw [← h1, z] at this
      exact absurd this (by decide)
    · have : a = m := Prod.ext e.symm (by rw [← h1, z])
      rw [this]; exact hm
theorem wt_filter {p : Nat × Rat → Bool} {x : Nat} : ∀ {l : List (Nat × Rat)}, (∀ m ∈ l, p m = false → m.2 = 0) → wt (l.filter p) x = wt l x
  | [], _ => rfl
  | m :: r, h => by
    have ih := wt_filter (p := p) (x := x) (l := r) fun m hm => h m (by simp [hm])
    by_cases e : p m = true
    · rw [List.filter_cons_of_pos e, wt_cons, wt_cons, ih]
    · have e : p m = false := by simpa using e
      rw [List.filter_cons_of_neg (by simp [e]), wt_cons, ih, h m (by simp) e]
      split <;> grind
/-! ### l[x] = q -/
def putL (l : List (Nat × Rat)) (x : Nat) (q : Rat) : List (Nat × Rat) :=
  if l.any (fun m => decide (m.1 = x)) then l.map (fun m => if m.1 = x then (m.1, q) else m) else l ++ [(x, q)]
theorem put_keys {x : Nat} {q : Rat} : ∀ (l : List (Nat × Rat)), (l.map (fun m => if m.1 = x then (m.1, q) else m)).map (·.1) = l.map (·.1)
  | [] => rfl
  | m :: r => by
    simp only [List.map_cons]
    rw [put_keys r]
    split <;> rfl
theorem any_iff {l : List (Nat × Rat)} {x : Nat} : l.any (fun m => decide (m.1 = x)) = true ↔ x ∈ l.map (·.1) := by
  rw [List.any_eq_true, List.mem_map]
  constructor
  · rintro ⟨m, hm, e⟩
    exact ⟨m, hm, by simpa using e⟩
  · rintro ⟨m, hm, e⟩
    exact ⟨m, hm, by simpa using e⟩
theorem put_nodup {l : List (Nat × Rat)} {x : Nat} {q : Rat} (hd : (l.map (·.1)).Nodup) : ((putL l x q).map (·.1)).Nodup := by
  unfold putL
  split
  · rw [put_keys]; exact hd
  · rename_i h
    rw [any_iff] at h
    rw [List.map_append, List.nodup_append]
    refine ⟨hd, by simp, fun a ha b hb e => ?_⟩
    have hb : b = x := by simpa using hb
    exact h (by rw [← hb, ← e]; exact ha)
theorem mem_put {l : List (Nat × Rat)} {x : Nat} {q : Rat} {m : Nat × Rat} (h : m ∈ putL l x q) : m ∈ l ∨ m = (x, q) := by
  unfold putL at h
  split at h
  · obtain ⟨a, ha, rfl⟩ := List.mem_map.mp h
    by_cases e : a.1 = x
    · simp only [e, if_true]; exact .inr (by simp)
    · simp only [e, if_false]; exact .inl ha
  · rcases List.mem_append.mp h with z | z
    · exact .inl z
    · exact .inr (by simpa using z)
theorem put_len {l : List (Nat × Rat)} {x : Nat} {q : Rat} : (putL l x q).length ≤ l.length + 1 := by
  unfold putL
  split <;> simp
theorem wt_put {l : List (Nat × Rat)} {x : Nat} {q : Rat} (hd : (l.map (·.1)).Nodup) (y : Nat) : wt (putL l x q) y = if y = x then q else wt l y := by
  by_cases e : y = x
  · subst e
    rw [if_pos rfl]
    have hm : (y, q) ∈ putL l y q := by
      unfold putL
      split
      · rename_i h
        rw [List.any_eq_true] at h
        obtain ⟨m, hm, e⟩ := h
        have e : m.1 = y := by simpa using e
        exact List.mem_map.mpr ⟨m, hm, by simp [e]⟩
      · simp
    exact wt_mem (put_nodup hd) hm
  · rw [if_neg e]
    unfold putL
    split
    · clear hd
      rename_i h
      clear h
      induction l with
      | nil => rfl
      | cons m r ih =>
        rw [List.map_cons, wt_cons, wt_cons, ih]
        by_cases e2 : m.1 = x
        · have e3 : ¬ x = y := fun z => e z.symm
          simp [e2, e3]
        · simp [e2]
    · rw [wt_snoc]
      have e3 : ¬ x = y := fun z => e z.symm
      simp [e3]
      grind
/-! ### weakened -/
/-- the weights of masses weakened by s -/
def wkf (n : Nat) (s : Rat) (ms : List (Nat × Rat)) (x : Nat) : Rat := (1 - s) * wt ms x + if x = 2 ^ n - 1 then s else 0
def Wk (n : Nat) (s : Rat) (ms ns : List (Nat × Rat)) : Prop := ∀ x < 2 ^ n, wt ns x = wkf n s ms x
theorem Dn.mul {W V : Nat} {p q : Rat} (hW : W ≠ 0) (hV : V ≠ 0) (hp : Dn W p) (hq : Dn V q) : Dn (W * V) (p * q) := by
  obtain ⟨a, rfl⟩ := hp
  obtain ⟨b, rfl⟩ := hq
  exact ⟨a * b, by rw [Rat.mkRat_mul_mkRat]⟩
theorem Dn.self {q : Rat} : Dn q.den q := ⟨q.num, (Rat.mkRat_self q).symm⟩
theorem Dn.one {W : Nat} (hW : W ≠ 0) : Dn W 1 := ⟨W, by
  have : mkRat (W : Int) W = mkRat 1 1 := (Rat.mkRat_eq_iff hW (by decide)).mpr (by simp)
  rw [this]; rfl⟩
theorem wkf_dn {n W V : Nat} {s : Rat} {ms : List (Nat × Rat)} {x : Nat} (hW : W ≠ 0) (hV : V ≠ 0) (hs : Dn V s) (hd : ∀ m ∈ ms, Dn W m.2) : Dn (W * V) (wkf n s ms x) := by
  have h1 : Dn W (wt ms x) := Dn.ws hW hd
  have hWV : W * V ≠ 0 := Nat.mul_ne_zero hW hV
  have h2 : Dn (W * V) ((1 - s) * wt ms x) := by
    rw [Rat.mul_comm]
    exact Dn.mul hW hV h1 (Dn.sub hV (Dn.one hV) hs)
  refine Dn.add hWV h2 ?_
  split
  · exact Dn.mull hW hs
  · exact Dn.zero
theorem wkf_nonneg {n : Nat} {s : Rat} {ms : List (Nat × Rat)} {x : Nat} (h0 : 0 ≤ s) (h1 : s ≤ 1) (hm : ∀ m ∈ ms, 0 ≤ m.2) : 0 ≤ wkf n s ms x := by
  have h2 : 0 ≤ (1 - s) * wt ms x := Rat.mul_nonneg (by grind) (wt_nonneg hm)
  unfold wkf
  split <;> grind
theorem wk_ex {n W V : Nat} {s : Rat} {ms : List (Nat × Rat)} (o : OkM n ms) (hW : W ≠ 0) (hV : V ≠ 0) (hWV : W * V ≤ 1000000) (h0 : 0 ≤ s) (h1 : s ≤ 1) (hs : Dn V s) (hd : ∀ m ∈ ms, Dn W m.2) :
    ∃ ns, OkM n ns ∧ Wk n s ms ns ∧ ∀ m ∈ ns, Dn (W * V) m.2 := by
  have n5 := o.n5
  have n2 := o.n2
  have hn : n < 6 := by omega
  have p2 : 4 ≤ 2 ^ n := Nat.pow_le_pow_right (show 0 < 2 by decide) n2
  have p5 := pow5 n5
  have hpos : ∀ x < 2 ^ n, 0 ≤ wkf n s ms x := fun x _ => wkf_nonneg h0 h1 o.nonneg
  obtain ⟨qs, hp, ha, _⟩ := srt_mass hn (l := posL (wkf n s ms) (2 ^ n)) (fun m hm => (mem_posL hm).1) nodup_posL
  have mem : ∀ m ∈ qs, m.1 < 2 ^ n ∧ m.2 = wkf n s ms m.1 ∧ 0 < (wkf n s ms m.1).num := fun m hm => mem_posL (hp.mem_iff.mp hm)
  have hw : ∀ P, ws qs P = zs P (wkf n s ms) (2 ^ n) := fun P => by rw [ws_perm hp, ws_posL hpos]
  have wt0 : wt ms 0 = 0 := wt_none fun m hm => by have := (o.lots m hm).1; omega
  refine ⟨qs, ⟨n2, n5, fun m hm => ?_, fun m hm => ?_, fun m hm => ?_, ha, ?_, ?_⟩, fun x hx => ?_, fun m hm => ?_⟩
  · obtain ⟨a, b, c⟩ := mem m hm
    refine ⟨?_, a⟩
    rcases Nat.eq_zero_or_pos m.1 with z | z
    · have e0 : wkf n s ms 0 = 0 := by
        unfold wkf
        have : ¬ 0 = 2 ^ n - 1 := by omega
        rw [wt0, if_neg this]
        grind
      rw [z, e0] at c
      exact absurd c (by decide)
    · exact z
  · obtain ⟨a, b, c⟩ := mem m hm
    rw [b]
    have h3 := hpos m.1 a
    have h4 : wkf n s ms m.1 ≠ 0 := fun z => by rw [z] at c; exact absurd c (by decide)
    grind
  · obtain ⟨a, b, c⟩ := mem m hm
    rw [b]
    exact Nat.le_trans (Dn.den (Nat.mul_ne_zero hW hV) (wkf_dn hW hV hs hd)) hWV
  · rw [hw]
    have e1 := ws_wt (P := tt) (N := 2 ^ n) fun m hm => (o.lots m hm).2
    rw [o.sum] at e1
    have e2 : zs tt (wkf n s ms) (2 ^ n) = (1 - s) * zs tt (wt ms) (2 ^ n) + s := by
      rw [zs_congr (g := fun x => (1 - s) * wt ms x + if 2 ^ n - 1 = x then s else 0) fun x _ => by
        unfold wkf
        by_cases z : x = 2 ^ n - 1
        · simp [z]
        · have : ¬ 2 ^ n - 1 = x := fun e => z e.symm
          simp [z, this], zs_add, zs_mul, zs_pt, if_pos ⟨by omega, rfl⟩]
    rw [e2, ← e1]
    grind
  · rw [hp.length_eq]
    unfold posL
    rw [List.length_map]
    have := List.length_filter_le (fun x => decide (0 < (wkf n s ms x).num)) (List.range (2 ^ n))
    rw [List.length_range] at this
    omega
  · unfold wt
    rw [hw, zs_single, if_pos hx]
  · obtain ⟨a, b, c⟩ := mem m hm
    rw [b]
    exact wkf_dn hW hV hs hd
theorem Wk.bel {n : Nat} {s : Rat} {ms ns : List (Nat × Rat)} (o : OkM n ms) (on : OkM n ns) (k : Wk n s ms ns) {P : Nat → Bool} : ws ns P = (1 - s) * ws ms P + if P (2 ^ n - 1) = true then s else 0 := by
  have p2 : 4 ≤ 2 ^ n := Nat.pow_le_pow_right (show 0 < 2 by decide) o.n2
  rw [ws_wt (N := 2 ^ n) fun m hm => (on.lots m hm).2, ws_wt (ms := ms) (N := 2 ^ n) fun m hm => (o.lots m hm).2]
  rw [zs_congr (g := fun x => (1 - s) * wt ms x + if 2 ^ n - 1 = x then s else 0) fun x hx => by
    rw [k x hx]
    unfold wkf
    by_cases z : x = 2 ^ n - 1
    · simp [z]
    · have : ¬ 2 ^ n - 1 = x := fun e => z e.symm
      simp [z, this], zs_add, zs_mul, zs_pt]
  have : 2 ^ n - 1 < 2 ^ n := by omega
  simp only [this, true_and]
theorem Wk.gs {n : Nat} {s : Rat} {ms ns : List (Nat × Rat)} (o : OkM n ms) (on : OkM n ns) (k : Wk n s ms ns) {g : Nat → Rat} : gs g ns = (1 - s) * gs g ms + s * g (2 ^ n - 1) := by
  have p2 : 4 ≤ 2 ^ n := Nat.pow_le_pow_right (show 0 < 2 by decide) o.n2
  rw [gs_wt (N := 2 ^ n) fun m hm => (on.lots m hm).2, gs_wt (ms := ms) (N := 2 ^ n) fun m hm => (o.lots m hm).2]
  rw [zs_congr (g := fun x => (1 - s) * (wt ms x * g x) + if 2 ^ n - 1 = x then s * g (2 ^ n - 1) else 0) fun x hx => by
    rw [k x hx]
    unfold wkf
    by_cases z : x = 2 ^ n - 1
    · simp [z]; grind
    · have : ¬ 2 ^ n - 1 = x := fun e => z e.symm
      simp [z, this]; grind, zs_add, zs_mul, zs_pt]
  have : 2 ^ n - 1 < 2 ^ n := by omega
  simp only [this, true_and, if_true]
end Mn

set_option maxHeartbeats 4000000
/-! Mn: masses weakened; sure worths. -/
namespace Mn
/- weakened: c0=check_asked c1=is_share c2=minus c3=plus c4=times -/
def p_weakened (c0 c1 c2 c3 c4 : Nat) : Fn := ⟨8, 3, (.seq (.exp (.call c0 (.cons (.var 0) (.cons (.var 1) .nil))))
      (.seq (.ite (.not (.call c1 (.cons (.var 2) .nil))) (.seq .rai
      .nil) .nil)
      (.seq (.par 3 4 (.cons (.ex .trg (.cons (.var 0) .nil)) (.cons (.call c2 (.cons (.tup (.cons (.lit (.int 1)) (.cons (.lit (.int 1)) .nil))) (.cons (.var 2) .nil))) .nil)))
      (.seq (.asg (.nm 5) (.ex .d1 (.cons (.var 3) (.cons (.var 2) .nil))))
      (.seq (.for_ (.tp (.cons (.nm 6) (.cons (.nm 7) .nil))) .seq (.cons (.var 1) .nil) (.seq (.dst (.var 5) (.var 6) (.call c3 (.cons (.mth .get (.var 5) (.cons (.var 6) (.cons (.tup (.cons (.lit (.int 0)) (.cons (.lit (.int 1)) .nil))) .nil))) (.cons (.call c4 (.cons (.var 7) (.cons (.var 4) .nil))) .nil))))
      .nil))
      (.seq (.rtn (.blt .tuple (.cons (.ex .srt (.cons (.lk 5 (.lc [6, 7] (.tup (.cons (.var 6) (.cons (.var 7) .nil))) (.tp (.cons (.nm 6) (.cons (.nm 7) .nil))) .items (.cons (.var 5) .nil) (.cmp .gt (.idx (.var 7) (.lit (.int 0))) (.lit (.int 0))))) .nil)) .nil)))
      .nil)))))), false⟩
/- _law_rest: c0=_law_plus c1=_law_minus -/
def l_rest (c0 c1 : Nat) : Fn := ⟨1, 1, (.seq (.rtn (.call c0 (.cons (.tup (.cons (.lit (.int 1)) (.cons (.lit (.int 1)) .nil))) (.cons (.call c1 (.cons (.var 0) .nil)) .nil))))
      .nil), false⟩
/- _law_due: c0=_law_times c1=_law_rest c2=_law_plus -/
def l_due (c0 c1 c2 : Nat) : Fn := ⟨7, 3, (.seq (.asg (.tp (.cons (.nm 3) (.cons (.nm 4) .nil))) (.tup (.cons (.ex .trg (.cons (.var 0) .nil)) (.cons (.ex .dnew .nil) .nil))))
      (.seq (.for_ (.tp (.cons (.nm 5) (.cons (.nm 6) .nil))) .seq (.cons (.var 1) .nil) (.seq (.dst (.var 4) (.var 5) (.call c0 (.cons (.var 6) (.cons (.call c1 (.cons (.var 2) .nil)) .nil))))
      .nil))
      (.seq (.dst (.var 4) (.var 3) (.call c2 (.cons (.mth .get (.var 4) (.cons (.var 3) (.cons (.tup (.cons (.lit (.int 0)) (.cons (.lit (.int 1)) .nil))) .nil))) (.cons (.var 2) .nil))))
      (.seq (.rtn (.blt .tuple (.cons (.lc [5] (.tup (.cons (.var 5) (.cons (.ex .dix (.cons (.var 4) (.cons (.var 5) .nil))) .nil))) (.nm 5) .seq (.cons (.ex .srt (.cons (.var 4) .nil)) .nil) (.cmp .gt (.idx (.ex .dix (.cons (.var 4) (.cons (.var 5) .nil))) (.lit (.int 0))) (.lit (.int 0)))) .nil)))
      .nil)))), false⟩
/- is_payoff: c0=is_between -/
def p_is_payoff (c0 : Nat) : Fn := ⟨3, 2, (.seq (.ite (.or (.not (.isi (.var 0) .tuple)) (.cmp .ne (.blt .len (.cons (.var 0) .nil)) (.var 1))) (.seq (.rtn (.lit (.bl false)))
      .nil) .nil)
      (.seq (.rtn (.blt .all (.cons (.lc [2] (.call c0 (.cons (.var 2) (.cons (.neg (.glb "MOST_NUMBER" (.int 1000))) (.cons (.glb "MOST_NUMBER" (.int 1000)) .nil)))) (.nm 2) .seq (.cons (.var 0) .nil) .nil) .nil)))
      .nil)), false⟩
/- check_payoff: c0=is_payoff -/
def p_check_payoff (c0 : Nat) : Fn := ⟨2, 2, (.seq (.ite (.not (.call c0 (.cons (.var 0) (.cons (.var 1) .nil)))) (.seq .rai
      .nil) .nil)
      .nil), false⟩
/- sure_worth: c0=check_asked c1=check_payoff c2=added c3=times -/
def p_sure_worth (c0 c1 c2 c3 : Nat) : Fn := ⟨6, 3, (.seq (.exp (.call c0 (.cons (.var 0) (.cons (.var 1) .nil))))
      (.seq (.exp (.call c1 (.cons (.var 2) (.cons (.var 0) .nil))))
      (.seq (.rtn (.call c2 (.cons (.lc [4, 5] (.call c3 (.cons (.var 5) (.cons (.tup (.cons (.ex .min1 (.cons (.lc [3] (.idx (.var 2) (.var 3)) (.nm 3) .seq (.cons (.var 4) .nil) .nil) .nil)) (.cons (.lit (.int 1)) .nil))) .nil))) (.tp (.cons (.nm 4) (.cons (.nm 5) .nil))) .seq (.cons (.var 1) .nil) .nil) .nil)))
      .nil))), false⟩
/- _law_payoff: c0=_law_dip -/
def l_payoff (c0 : Nat) : Fn := ⟨4, 3, (.seq (.rtn (.blt .tuple (.cons (.lc [3] (.bin .sub (.call c0 (.cons (.var 0) (.cons (.bin .add (.bin .mul (.lit (.int 2)) (.var 2)) (.lit (.int 1))) .nil))) (.var 2)) (.nm 3) .rng (.cons (.var 1) .nil) .nil) .nil)))
      .nil), false⟩
theorem lot_full : ∀ n < 6, lotL n (2 ^ n - 1) = List.range n := by decide +kernel
theorem trg_ok {n : Nat} {h : MH} (hn : n < 6) : xop .trg [.int (n : Int)] h = .ok (lotD n (2 ^ n - 1)) h := by
  have : (0 : Int) ≤ n ∧ (n : Int) ≤ 1000 := by omega
  simp only [xop]
  rw [if_pos this, Int.toNat_natCast]
  show R.ok (D.tup ((List.range n).map fun i : Nat => .int (i : Int))) h = .ok (.tup ((lotL n (2 ^ n - 1)).map fun k : Nat => .int (k : Int))) h
  rw [lot_full n hn]
section
variable {cf : Nat → List D → M D} {n : Nat} {ms ns : List (Nat × Rat)} {s : Rat}
theorem d1_ok {x : Nat} {q : Rat} {h : MH} : xop .d1 [lotD n x, fr q] h = .ok (.ref h.length) (h ++ [.dct false ([(x, q)].map (kvm n))]) := by
  simp only [xop, tI, key_lot, plain_fr, if_true]
  rfl
theorem dput_m (hn : n < 6) {x : Nat} {q : Rat} (hx : x < 2 ^ n) : ∀ {l : List (Nat × Rat)}, (∀ m ∈ l, m.1 < 2 ^ n) → dput (l.map (kvm n)) (keyX n x) (fr q) = (putL l x q).map (kvm n) := by
  intro l hl
  have e1 : (l.map (kvm n)).any (fun kv => decide (kv.1 = keyX n x)) = l.any (fun m => decide (m.1 = x)) := by
    rw [List.any_map]
    induction l with
    | nil => rfl
    | cons m r ih =>
      have hm := hl m (by simp)
      have : decide ((kvm n m).1 = keyX n x) = decide (m.1 = x) := by
        have := key_inj hn hm hx
        by_cases e : m.1 = x
        · simp [kvm, e]
        · have e2 : ¬ keyX n m.1 = keyX n x := fun z => e (this.mp z)
          simp [kvm, e, e2]
      simp only [List.any_cons, Function.comp]
      rw [this]
      have ih := ih fun m h => hl m (by simp [h])
      rw [← ih]
  unfold dput putL
  rw [e1]
  split
  · rw [List.map_map, List.map_map]
    refine List.map_congr_left fun m hm => ?_
    have := key_inj hn (hl m hm) hx
    by_cases e : m.1 = x
    · simp [kvm, e]
    · have e2 : ¬ keyX n m.1 = keyX n x := fun z => e (this.mp z)
      simp [kvm, e, e2]
  · simp [kvm]
theorem den_big {q : Rat} (hd : q.den ≤ 1000000) : q.den < 2 ^ 100000 := Nat.lt_of_le_of_lt hd (Nat.lt_of_lt_of_le (by decide : 1000000 < 2 ^ 20) (Nat.pow_le_pow_right (by decide) (by decide)))
theorem share_true {c : Nat} (S : ShareAt cf c) {q : Rat} (h0 : 0 ≤ q) (h1 : q ≤ 1) (hd : q.den ≤ 1000000) (h : MH) : cf c [fr q] h = .ok (.bl true) h := by
  rw [S q h (den_big hd)]
  simp [h0, h1, hd]
theorem sz_wt {pre : List (Nat × Rat)} {m : Nat} (hd : (pre.map (·.1)).Nodup) (hs : ∀ a ∈ pre, Sz m a.2) (x : Nat) : Sz m (wt pre x) := by
  rcases wt_one hd x with z | ⟨a, ha, _, z⟩
  · rw [z]; exact sz_zero
  · rw [z]; exact hs a ha
/-- a dict of weights -/
structure DL (n : Nat) (l : List (Nat × Rat)) (k : Nat) : Prop where
  lots : ∀ m ∈ l, 0 < m.1 ∧ m.1 < 2 ^ n
  nd : (l.map (·.1)).Nodup
  nn : ∀ m ∈ l, 0 ≤ m.2
  len : l.length ≤ k
theorem DL.put {l : List (Nat × Rat)} {k x : Nat} {q : Rat} (o : DL n l k) (h0 : 0 < x) (hx : x < 2 ^ n) (hq : 0 ≤ q) : DL n (putL l x q) (k + 1) where
  lots := fun m hm => by
    rcases mem_put hm with z | z
    · exact o.lots m z
    · rw [z]; exact ⟨h0, hx⟩
  nd := put_nodup o.nd
  nn := fun m hm => by
    rcases mem_put hm with z | z
    · exact o.nn m z
    · rw [z]; exact hq
  len := by
    have := put_len (l := l) (x := x) (q := q)
    have := o.len
    omega
theorem get_wt {l : List (Nat × Rat)} {k x : Nat} {g : MH} {i : Nat} (hn : n < 6) (o : DL n l k) (hx : x < 2 ^ n) (hi : g[i]? = some (.dct false (l.map (kvm n)))) : mpre .get (.ref i) g = true ∧ mop .get (.ref i) [lotD n x, fr 0] g = .ok (fr (wt l x)) g := by
  constructor
  · unfold mpre
    simp only [hi]
  · have := dval_ms hn hx (fun m hm => (o.lots m hm).2) o.nd
    simp only [mop, tI, hi, key_lot, this]
    rfl
/-- what is left of a dict of weights, sorted -/
theorem srt_wt {l : List (Nat × Rat)} {k : Nat} (o : DL n l k) (on : OkM n ns) (hw : ∀ x < 2 ^ n, wt l x = wt ns x) : (l.filter fun m => decide (0 < m.2.num)).Perm ns := by
  have hf : ∀ m ∈ l, (fun m : Nat × Rat => decide (0 < m.2.num)) m = false → m.2 = 0 := fun m hm e => by
    have h1 := o.nn m hm
    have h2 := Rat.num_nonneg.mpr h1
    have h3 : ¬ 0 < m.2.num := by simpa using e
    have h4 : m.2.num = 0 := by omega
    exact Rat.num_eq_zero.mp h4
  refine perm_wt on (fun m hm => (o.lots m (List.mem_filter.mp hm).1).2) (o.nd.sublist (List.Sublist.map _ List.filter_sublist)) (fun m hm => ?_) (fun x hx => by rw [wt_filter hf]; exact hw x hx)
  obtain ⟨h1, h2⟩ := List.mem_filter.mp hm
  have h2 : 0 < m.2.num := by simpa using h2
  have h3 := o.nn m h1
  have h4 : m.2 ≠ 0 := fun z => by rw [z] at h2; exact absurd h2 (by decide)
  grind
theorem cmp_gt0 {q : Rat} {h : MH} : idxD (fr q) (.int 0) h = .ok (.int q.num) h := rfl
abbrev WeakAt (cf : Nat → List D → M D) (c : Nat) : Prop := ∀ (n : Nat) (ms ns : List (Nat × Rat)) (s : Rat) h, OkM n ms → OkM n ns → 0 ≤ s → s ≤ 1 → s.den ≤ 1000000 → Wk n s ms ns → cf c [.int n, massesD n ms, fr s] h = .ok (massesD n ns) h
theorem weakened_ok {c0 c1 c2 c3 c4 : Nat} (A : AskedAt cf c0) (S : ShareAt cf c1) (M : MinusAt cf c2) (P : PlusAt cf c3) (T : TimesAt cf c4) {h : MH} (o : OkM n ms) (on : OkM n ns) (h0 : 0 ≤ s) (h1 : s ≤ 1) (hd : s.den ≤ 1000000) (k : Wk n s ms ns) : runFn cf (p_weakened c0 c1 c2 c3 c4) [.int n, massesD n ms, fr s] h = .ok (massesD n ns) h := by
  have n5 := o.n5
  have n2 := o.n2
  have hn : n < 6 := by omega
  have p2 : 4 ≤ 2 ^ n := Nat.pow_le_pow_right (show 0 < 2 by decide) n2
  have ss : Sz 20 s := sz_share h0 h1 hd
  have ask := fun h => A n ms h o
  have sh := fun h => share_true S h0 h1 hd h
  have mi := fun h => M 1 s h sz_one (ss.mono (by decide))
  have tr := fun h => trg_ok (h := h) hn
  have u : D.tup [.int 1, .int 1] = fr 1 := rfl
  have z : D.tup [.int 0, .int 1] = fr 0 := rfl
  have s2 : 2 ≤ SZ := by decide
  have d1 := d1_ok (n := n) (x := 2 ^ n - 1) (q := s) (h := h)
  obtain ⟨env', h', el, l, o6, o7, rfl, rfl, ol, hw⟩ := for_seq (cf := cf) (t := (.tp (.cons (.nm 6) (.cons (.nm 7) .nil)))) (l := .cons (.var 1) .nil) (b := (.seq (.dst (.var 5) (.var 6) (.call c3 (.cons (.mth .get (.var 5) (.cons (.var 6) (.cons (.tup (.cons (.lit (.int 0)) (.cons (.lit (.int 1)) .nil))) .nil))) (.cons (.call c4 (.cons (.var 7) (.cons (.var 4) .nil))) .nil))))
      .nil)) (env := [oI n, some (massesD n ms), some (fr s), some (lotD n (2 ^ n - 1)), some (fr (1 - s)), some (.ref h.length), none, none]) (h := h ++ [.dct false ([(2 ^ n - 1, s)].map (kvm n))]) ms (massD n)
    (fun pre env g => ∃ (l : List (Nat × Rat)) (o6 o7 : Option D), env = [oI n, some (massesD n ms), some (fr s), some (lotD n (2 ^ n - 1)), some (fr (1 - s)), some (.ref h.length), o6, o7] ∧ g = h ++ [.dct false (l.map (kvm n))] ∧ DL n l (pre.length + 1) ∧ ∀ x < 2 ^ n, wt l x = wkf n s pre x) (.inl (by simp -implicitDefEqProofs [-Int.natCast_ediv, -Int.natCast_pow, -Int.natCast_emod, b_ok, on_ok, tru_bl, tru_int, tru_non, look_0, look_s, v_var, v_lit, v_glb, v_pow, v_neg, v_not, v_bin, v_cmp, v_chn, v_and, v_or, v_ife, v_tup, v_lst, v_cel, v_idx, v_slc, v_call, v_ck, v_blt, v_ex, v_mth, v_isi, v_isN, v_isnN, l_nil, l_cons, o_nil, o_cons, s_asg, s_par, s_exp, s_rtn, s_ite, s_nil, s_pas, s_seq, thn_nx, thn_rt, end_rt, end_nx, bind_nm, bind_tp, binds_nil, binds_cons, cond_nil, Lit.d, ret_ap, neg_int, bin_add, bin_sub, cmp_le, cmp_lt, cmp_gt, cmp_ge, cmp_eq, cmp_ne, idx_fr0, idx_fr1, blt_int, fin_bl, fin_int, fin_non, fin_fr, massesD])) (fun pre m post env g hy i => by
      obtain ⟨l, o6, o7, rfl, rfl, ol, hw⟩ := i
      have hm : m ∈ ms := by rw [hy]; simp
      obtain ⟨m0, mx⟩ := o.lots m hm
      have ndp : (pre.map (·.1)).Nodup := by
        have := o.nodupF
        rw [hy, List.map_append] at this
        exact (List.nodup_append.mp this).1
      have szp : ∀ a ∈ pre, Sz 20 a.2 := fun a ha => o.sz a (by rw [hy]; simp [ha])
      have at1 : (h ++ [.dct false (l.map (kvm n))])[h.length]? = some (.dct false (l.map (kvm n))) := get_last
      obtain ⟨mp, mo⟩ := get_wt hn ol mx at1
      have sm : Sz 41 (1 - s) := (sz_one (n := 20)).sub ss
      have tm := fun h => T m.2 (1 - s) h ((o.sz m hm).mono (by decide)) (sm.mono (by decide))
      have szw : Sz 100 (wt l m.1) := by
        rw [hw _ mx]
        unfold wkf
        refine ((sm.mul (sz_wt ndp szp m.1)).add (m := 20) ?_).mono (by decide)
        split
        · exact ss
        · exact sz_zero
      have pl := fun h => P (wt l m.1) (m.2 * (1 - s)) h (szw.mono (by decide)) (((o.sz m hm).mul sm).mono (by decide))
      have vz : ev cf (.call c3 (.cons (.mth .get (.var 5) (.cons (.var 6) (.cons (.tup (.cons (.lit (.int 0)) (.cons (.lit (.int 1)) .nil))) .nil))) (.cons (.call c4 (.cons (.var 7) (.cons (.var 4) .nil))) .nil))) [oI n, some (massesD n ms), some (fr s), some (lotD n (2 ^ n - 1)), some (fr (1 - s)), some (.ref h.length), some (lotD n m.1), some (fr m.2)] (h ++ [.dct false (l.map (kvm n))]) = .ok (fr (wt l m.1 + m.2 * (1 - s))) (h ++ [.dct false (l.map (kvm n))]) := by
        simp -implicitDefEqProofs [-Int.natCast_ediv, -Int.natCast_pow, -Int.natCast_emod, b_ok, on_ok, tru_bl, tru_int, tru_non, look_0, look_s, v_var, v_lit, v_glb, v_pow, v_neg, v_not, v_bin, v_cmp, v_chn, v_and, v_or, v_ife, v_tup, v_lst, v_cel, v_idx, v_slc, v_call, v_ck, v_blt, v_ex, v_mth, v_isi, v_isN, v_isnN, l_nil, l_cons, o_nil, o_cons, s_asg, s_par, s_exp, s_rtn, s_ite, s_nil, s_pas, s_seq, thn_nx, thn_rt, end_rt, end_nx, bind_nm, bind_tp, binds_nil, binds_cons, cond_nil, Lit.d, ret_ap, neg_int, bin_add, bin_sub, cmp_le, cmp_lt, cmp_gt, cmp_ge, cmp_eq, cmp_ne, idx_fr0, idx_fr1, blt_int, fin_bl, fin_int, fin_non, fin_fr, z, s2, mp, mo, tm, pl]
      have ds := dst_of (cf := cf) (a := .var 5) (b := .var 6) (i := h.length) (ks := (lotL n m.1).map fun k : Nat => .int (k : Int)) vz (by simp -implicitDefEqProofs [-Int.natCast_ediv, -Int.natCast_pow, -Int.natCast_emod, b_ok, on_ok, tru_bl, tru_int, tru_non, look_0, look_s, v_var, v_lit, v_glb, v_pow, v_neg, v_not, v_bin, v_cmp, v_chn, v_and, v_or, v_ife, v_tup, v_lst, v_cel, v_idx, v_slc, v_call, v_ck, v_blt, v_ex, v_mth, v_isi, v_isN, v_isnN, l_nil, l_cons, o_nil, o_cons, s_asg, s_par, s_exp, s_rtn, s_ite, s_nil, s_pas, s_seq, thn_nx, thn_rt, end_rt, end_nx, bind_nm, bind_tp, binds_nil, binds_cons, cond_nil, Lit.d, ret_ap, neg_int, bin_add, bin_sub, cmp_le, cmp_lt, cmp_gt, cmp_ge, cmp_eq, cmp_ne, idx_fr0, idx_fr1, blt_int, fin_bl, fin_int, fin_non, fin_fr]) (by simp -implicitDefEqProofs [-Int.natCast_ediv, -Int.natCast_pow, -Int.natCast_emod, b_ok, on_ok, tru_bl, tru_int, tru_non, look_0, look_s, v_var, v_lit, v_glb, v_pow, v_neg, v_not, v_bin, v_cmp, v_chn, v_and, v_or, v_ife, v_tup, v_lst, v_cel, v_idx, v_slc, v_call, v_ck, v_blt, v_ex, v_mth, v_isi, v_isN, v_isnN, l_nil, l_cons, o_nil, o_cons, s_asg, s_par, s_exp, s_rtn, s_ite, s_nil, s_pas, s_seq, thn_nx, thn_rt, end_rt, end_nx, bind_nm, bind_tp, binds_nil, binds_cons, cond_nil, Lit.d, ret_ap, neg_int, bin_add, bin_sub, cmp_le, cmp_lt, cmp_gt, cmp_ge, cmp_eq, cmp_ne, idx_fr0, idx_fr1, blt_int, fin_bl, fin_int, fin_non, fin_fr]; rfl) at1 key_lot plain_fr (by
        rw [List.length_map]
        have h1 := ol.len
        have h2 : pre.length ≤ ms.length := by rw [hy]; simp
        have h3 := o.len
        have : SZ = 16777216 := rfl
        omega)
      rw [dput_m hn mx fun m hm => (ol.lots m hm).2, set_last] at ds
      have nnw : 0 ≤ wt l m.1 + m.2 * (1 - s) := by
        have a1 := wt_nonneg (x := m.1) ol.nn
        have a2 := Rat.mul_nonneg (o.nonneg m hm) (show (0 : Rat) ≤ 1 - s by grind)
        grind
      refine ⟨_, [oI n, some (massesD n ms), some (fr s), some (lotD n (2 ^ n - 1)), some (fr (1 - s)), some (.ref h.length), some (lotD n m.1), some (fr m.2)], h ++ [.dct false ((putL l m.1 (wt l m.1 + m.2 * (1 - s))).map (kvm n))], rfl, ?_, _, _, _, rfl, rfl, by rw [List.length_append]; exact ol.put m0 mx nnw, fun x hx => ?_⟩
      · simp -implicitDefEqProofs [-Int.natCast_ediv, -Int.natCast_pow, -Int.natCast_emod, b_ok, on_ok, tru_bl, tru_int, tru_non, look_0, look_s, v_var, v_lit, v_glb, v_pow, v_neg, v_not, v_bin, v_cmp, v_chn, v_and, v_or, v_ife, v_tup, v_lst, v_cel, v_idx, v_slc, v_call, v_ck, v_blt, v_ex, v_mth, v_isi, v_isN, v_isnN, l_nil, l_cons, o_nil, o_cons, s_asg, s_par, s_exp, s_rtn, s_ite, s_nil, s_pas, s_seq, thn_nx, thn_rt, end_rt, end_nx, bind_nm, bind_tp, binds_nil, binds_cons, cond_nil, Lit.d, ret_ap, neg_int, bin_add, bin_sub, cmp_le, cmp_lt, cmp_gt, cmp_ge, cmp_eq, cmp_ne, idx_fr0, idx_fr1, blt_int, fin_bl, fin_int, fin_non, fin_fr, ds]
      · rw [wt_put ol.nd]
        have e := hw x hx
        unfold wkf at e ⊢
        rw [wt_snoc]
        by_cases q : x = m.1
        · subst q
          rw [if_pos rfl, if_pos rfl, e]
          grind
        · have q2 : ¬ m.1 = x := fun z => q z.symm
          rw [if_neg q, if_neg q2, e]
          grind)
    ⟨_, none, none, rfl, rfl, ⟨by simp; omega, by simp, by simpa using h0, by simp⟩, fun x hx => by
      unfold wkf
      rw [wt_cons, wt_nil]
      by_cases q : x = 2 ^ n - 1
      · simp [q]; grind
      · have q2 : ¬ 2 ^ n - 1 = x := fun z => q z.symm
        simp [q, q2]⟩
  have hl : l.length ≤ SZ := by
    have h1 := ol.len
    have h3 := o.len
    have : SZ = 16777216 := rfl
    omega
  have at0 : (h ++ [.dct false (l.map (kvm n))])[h.length]? = some (.dct false (l.map (kvm n))) := get_last
  have at1 : (h ++ [.dct true (l.map (kvm n))])[h.length]? = some (.dct true (l.map (kvm n))) := get_last
  have a1 : ev cf (.lc [6, 7] (.tup (.cons (.var 6) (.cons (.var 7) .nil))) (.tp (.cons (.nm 6) (.cons (.nm 7) .nil))) .items (.cons (.var 5) .nil) (.cmp .gt (.idx (.var 7) (.lit (.int 0))) (.lit (.int 0)))) [oI n, some (massesD n ms), some (fr s), some (lotD n (2 ^ n - 1)), some (fr (1 - s)), some (.ref h.length), o6, o7] (h ++ [.dct true (l.map (kvm n))]) = .ok (.lst ((l.filter fun m => decide (0 < m.2.num)).map (massD n))) (h ++ [.dct true (l.map (kvm n))]) := by
    have z := lc_gen (s := .itm (l.map (kvm n))) (t := (.tp (.cons (.nm 6) (.cons (.nm 7) .nil)))) (own := [6, 7]) (cond := condF (ev cf (.cmp .gt (.idx (.var 7) (.lit (.int 0))) (.lit (.int 0)))) (.cmp .gt (.idx (.var 7) (.lit (.int 0))) (.lit (.int 0)))) (elt := ev cf (.tup (.cons (.var 6) (.cons (.var 7) .nil)))) (env := [oI n, some (massesD n ms), some (fr s), some (lotD n (2 ^ n - 1)), some (fr (1 - s)), some (.ref h.length), o6, o7]) (h := h ++ [.dct true (l.map (kvm n))]) (ys := l) (f := massD n) (fun m => decide (0 < m.2.num)) (massD n) (fun k hk => by
      simp only [Src.at, List.getElem?_map, List.getElem?_eq_getElem hk, Option.map_some]
      show some (D.tup [keyT (keyX n l[k].1), fr l[k].2]) = _
      rw [keyT_lot]
      rfl) rfl hl (fun m hm => by
        refine ⟨_, rfl, ?_, fun _ => ?_⟩
        · rw [cond_of (by simp)]
          simp -implicitDefEqProofs [-Int.natCast_ediv, -Int.natCast_pow, -Int.natCast_emod, b_ok, on_ok, tru_bl, tru_int, tru_non, look_0, look_s, v_var, v_lit, v_glb, v_pow, v_neg, v_not, v_bin, v_cmp, v_chn, v_and, v_or, v_ife, v_tup, v_lst, v_cel, v_idx, v_slc, v_call, v_ck, v_blt, v_ex, v_mth, v_isi, v_isN, v_isnN, l_nil, l_cons, o_nil, o_cons, s_asg, s_par, s_exp, s_rtn, s_ite, s_nil, s_pas, s_seq, thn_nx, thn_rt, end_rt, end_nx, bind_nm, bind_tp, binds_nil, binds_cons, cond_nil, Lit.d, ret_ap, neg_int, bin_add, bin_sub, cmp_le, cmp_lt, cmp_gt, cmp_ge, cmp_eq, cmp_ne, idx_fr0, idx_fr1, blt_int, fin_bl, fin_int, fin_non, fin_fr, wipeE]
        · simp -implicitDefEqProofs [-Int.natCast_ediv, -Int.natCast_pow, -Int.natCast_emod, b_ok, on_ok, tru_bl, tru_int, tru_non, look_0, look_s, v_var, v_lit, v_glb, v_pow, v_neg, v_not, v_bin, v_cmp, v_chn, v_and, v_or, v_ife, v_tup, v_lst, v_cel, v_idx, v_slc, v_call, v_ck, v_blt, v_ex, v_mth, v_isi, v_isN, v_isnN, l_nil, l_cons, o_nil, o_cons, s_asg, s_par, s_exp, s_rtn, s_ite, s_nil, s_pas, s_seq, thn_nx, thn_rt, end_rt, end_nx, bind_nm, bind_tp, binds_nil, binds_cons, cond_nil, Lit.d, ret_ap, neg_int, bin_add, bin_sub, cmp_le, cmp_lt, cmp_gt, cmp_ge, cmp_eq, cmp_ne, idx_fr0, idx_fr1, blt_int, fin_bl, fin_int, fin_non, fin_fr, wipeE, s2]
          rfl)
    have cn : (Src.itm (l.map (kvm n))).count = l.length := by simp [Src.count]
    rw [← cn] at z
    refine lc_of (ds := [.ref h.length]) (h1 := h ++ [.dct true (l.map (kvm n))]) (h2 := h ++ [.dct true (l.map (kvm n))]) (by simp -implicitDefEqProofs [-Int.natCast_ediv, -Int.natCast_pow, -Int.natCast_emod, b_ok, on_ok, tru_bl, tru_int, tru_non, look_0, look_s, v_var, v_lit, v_glb, v_pow, v_neg, v_not, v_bin, v_cmp, v_chn, v_and, v_or, v_ife, v_tup, v_lst, v_cel, v_idx, v_slc, v_call, v_ck, v_blt, v_ex, v_mth, v_isi, v_isN, v_isnN, l_nil, l_cons, o_nil, o_cons, s_asg, s_par, s_exp, s_rtn, s_ite, s_nil, s_pas, s_seq, thn_nx, thn_rt, end_rt, end_nx, bind_nm, bind_tp, binds_nil, binds_cons, cond_nil, Lit.d, ret_ap, neg_int, bin_add, bin_sub, cmp_le, cmp_lt, cmp_gt, cmp_ge, cmp_eq, cmp_ne, idx_fr0, idx_fr1, blt_int, fin_bl, fin_int, fin_non, fin_fr]) ?_ z
    simp only [src, at1]
  have a2 : ev cf (.lk 5 (.lc [6, 7] (.tup (.cons (.var 6) (.cons (.var 7) .nil))) (.tp (.cons (.nm 6) (.cons (.nm 7) .nil))) .items (.cons (.var 5) .nil) (.cmp .gt (.idx (.var 7) (.lit (.int 0))) (.lit (.int 0))))) [oI n, some (massesD n ms), some (fr s), some (lotD n (2 ^ n - 1)), some (fr (1 - s)), some (.ref h.length), o6, o7] (h ++ [.dct false (l.map (kvm n))]) = .ok (.lst ((l.filter fun m => decide (0 < m.2.num)).map (massD n))) (h ++ [.dct false (l.map (kvm n))]) := by
    refine lk_of (i := h.length) (kvs := l.map (kvm n)) rfl at0 ?_
    rw [set_last]
    exact a1
  have a3 := fun h => srt_ok on (srt_wt ol on fun x hx => by rw [hw x hx, k x hx]) (h := h)
  generalize h ++ [Cell.dct false ([(2 ^ n - 1, s)].map (kvm n))] = g0 at d1 el
  rw [run_eq ⟨rfl, by simp [p_weakened]⟩]
  simp -implicitDefEqProofs [p_weakened, -Int.natCast_ediv, -Int.natCast_pow, -Int.natCast_emod, b_ok, on_ok, tru_bl, tru_int, tru_non, look_0, look_s, v_var, v_lit, v_glb, v_pow, v_neg, v_not, v_bin, v_cmp, v_chn, v_and, v_or, v_ife, v_tup, v_lst, v_cel, v_idx, v_slc, v_call, v_ck, v_blt, v_ex, v_mth, v_isi, v_isN, v_isnN, l_nil, l_cons, o_nil, o_cons, s_asg, s_par, s_exp, s_rtn, s_ite, s_nil, s_pas, s_seq, thn_nx, thn_rt, end_rt, end_nx, bind_nm, bind_tp, binds_nil, binds_cons, cond_nil, Lit.d, ret_ap, neg_int, bin_add, bin_sub, cmp_le, cmp_lt, cmp_gt, cmp_ge, cmp_eq, cmp_ne, idx_fr0, idx_fr1, blt_int, fin_bl, fin_int, fin_non, fin_fr, ask, sh, mi, tr, u, s2, d1, el, a2, a3, tuple_lst]
  exact fin_drop (plains_map fun _ _ => plain_mass)
end
end Mn

set_option maxHeartbeats 4000000
/-! Mn: the law's own weakened masses; payoffs, sure worths, stirred bounds. -/
namespace Mn
/- check_chance: c0=is_share c1=plus c2=is_less -/
def p_check_chance (c0 c1 c2 : Nat) : Fn := ⟨5, 2, (.seq (.ite (.or (.not (.isi (.var 0) .tuple)) (.cmp .ne (.blt .len (.cons (.var 0) .nil)) (.var 1))) (.seq .rai
      .nil) .nil)
      (.seq (.asg (.nm 2) (.tup (.cons (.lit (.int 0)) (.cons (.lit (.int 1)) .nil))))
      (.seq (.for_ (.tp (.cons (.nm 3) (.cons (.nm 4) .nil))) .enum (.cons (.var 0) .nil) (.seq (.ite (.not (.call c0 (.cons (.var 4) .nil))) (.seq .rai
      .nil) .nil)
      (.seq (.asg (.nm 2) (.call c1 (.cons (.var 2) (.cons (.var 4) .nil))))
      (.seq (.ite (.call c2 (.cons (.tup (.cons (.lit (.int 1)) (.cons (.lit (.int 1)) .nil))) (.cons (.var 2) .nil))) (.seq .rai
      .nil) .nil)
      .nil))))
      (.seq (.ite (.cmp .ne (.var 2) (.tup (.cons (.lit (.int 1)) (.cons (.lit (.int 1)) .nil)))) (.seq .rai
      .nil) .nil)
      .nil)))), false⟩
/- check_shape: c0=check_chance c1=is_share -/
def p_check_shape (c0 c1 : Nat) : Fn := ⟨2, 2, (.seq (.ite (.or (.not (.isi (.var 0) .tuple)) (.not (.chn .le .le (.lit (.int 2)) (.blt .len (.cons (.var 0) .nil)) (.glb "MOST_LISTED" (.int 5))))) (.seq .rai
      .nil) .nil)
      (.seq (.exp (.call c0 (.cons (.var 0) (.cons (.blt .len (.cons (.var 0) .nil)) .nil))))
      (.seq (.ite (.not (.call c1 (.cons (.var 1) .nil))) (.seq .rai
      .nil) .nil)
      .nil))), false⟩
/- lot_chance: c0=added -/
def p_lot_chance (c0 : Nat) : Fn := ⟨3, 2, (.seq (.rtn (.call c0 (.cons (.lc [2] (.idx (.var 0) (.var 2)) (.nm 2) .seq (.cons (.var 1) .nil) .nil) .nil)))
      .nil), false⟩
/- stirred_bounds: c0=check_shape c1=minus c2=times c3=lot_chance c4=all_lots -/
def p_stirred_bounds (c0 c1 c2 c3 c4 : Nat) : Fn := ⟨5, 2, (.seq (.exp (.call c0 (.cons (.var 0) (.cons (.var 1) .nil))))
      (.seq (.asg (.nm 2) (.call c1 (.cons (.tup (.cons (.lit (.int 1)) (.cons (.lit (.int 1)) .nil))) (.cons (.var 1) .nil))))
      (.seq (.asg (.nm 3) (.lc [4] (.call c2 (.cons (.var 2) (.cons (.call c3 (.cons (.var 0) (.cons (.var 4) .nil))) .nil))) (.nm 4) .seq (.cons (.call c4 (.cons (.blt .len (.cons (.var 0) .nil)) .nil)) .nil) .nil))
      (.seq (.rtn (.mth .tst (.slc (.var 3) .nil (.cons (.neg (.lit (.int 1))) .nil)) (.cons (.tup (.cons (.lit (.int 1)) (.cons (.lit (.int 1)) .nil))) .nil)))
      .nil)))), false⟩
section
variable {cf : Nat → List D → M D} {n : Nat} {ms ns : List (Nat × Rat)} {s : Rat}
theorem Sz.neg {m : Nat} {q : Rat} (h : Sz m q) : Sz m (-q) := ⟨by simpa using h.1, by simpa using h.2⟩
abbrev RestAt (cf : Nat → List D → M D) (c : Nat) : Prop := ∀ (q : Rat) h, Sz 1900 q → cf c [fr q] h = .ok (fr (1 - q)) h
theorem l_rest_ok {c0 c1 : Nat} (P : PlusAt cf c0) (N : NegAt cf c1) {q : Rat} {h : MH} (hq : Sz 1900 q) : runFn cf (l_rest c0 c1) [fr q] h = .ok (fr (1 - q)) h := by
  have a := fun h => N q h
  have b := fun h => P 1 (-q) h sz_one hq.neg
  have e : (1 : Rat) + -q = 1 - q := by grind
  rw [e] at b
  have u : D.tup [.int 1, .int 1] = fr 1 := rfl
  have s2 : 2 ≤ SZ := by decide
  rw [run_eq ⟨rfl, by simp [l_rest]⟩]
  simp -implicitDefEqProofs [l_rest, -Int.natCast_ediv, -Int.natCast_pow, -Int.natCast_emod, b_ok, on_ok, tru_bl, tru_int, tru_non, look_0, look_s, v_var, v_lit, v_glb, v_pow, v_neg, v_not, v_bin, v_cmp, v_chn, v_and, v_or, v_ife, v_tup, v_lst, v_cel, v_idx, v_slc, v_call, v_ck, v_blt, v_ex, v_mth, v_isi, v_isN, v_isnN, l_nil, l_cons, o_nil, o_cons, s_asg, s_par, s_exp, s_rtn, s_ite, s_nil, s_pas, s_seq, thn_nx, thn_rt, end_rt, end_nx, bind_nm, bind_tp, binds_nil, binds_cons, cond_nil, Lit.d, ret_ap, neg_int, bin_add, bin_sub, cmp_le, cmp_lt, cmp_gt, cmp_ge, cmp_eq, cmp_ne, idx_fr0, idx_fr1, blt_int, fin_bl, fin_int, fin_non, fin_fr, u, s2, a, b]
/-- the keys, sorted -/
theorem srt_keysR (hn : n < 6) {ps : List (Nat × Rat)} (hl : ∀ p ∈ ps, 0 < p.1 ∧ p.1 < 2 ^ n) (hd : (ps.map (·.1)).Nodup) : ∃ qs : List (Nat × Rat), qs.Perm ps ∧ qs.Pairwise (fun a b => lotLt n a.1 b.1 = true) ∧ srtO (ps.map fun p => lotD n p.1) = some (qs.map fun p => lotD n p.1) := by
  obtain ⟨qs, hp, e⟩ := perm_inv (f := fun p : Nat × Rat => lotD n p.1) (srtD_perm (ps.map fun p => lotD n p.1)) rfl
  have ha := srtD_asc (ps.map fun p => lotD n p.1)
  rw [e] at ha
  have hall : ((ps.map fun p => lotD n p.1).all okT || (ps.map fun p => lotD n p.1).all okTT) = true := by
    have : (ps.map fun p => lotD n p.1).all okT = true := by
      rw [List.all_eq_true]
      intro x hx
      obtain ⟨p, h, rfl⟩ := List.mem_map.mp hx
      exact ok_lot hn (hl p h).1 (hl p h).2
    rw [this]
    rfl
  refine ⟨qs, hp, ?_, srtO_of hall (hp.map _) ha⟩
  rw [Asc, List.pairwise_map] at ha
  have hd2 : qs.Pairwise fun a b => a.1 ≠ b.1 := by
    have := (hp.map (·.1)).nodup_iff.mpr hd
    rwa [List.Nodup, List.pairwise_map] at this
  refine List.Pairwise.imp_of_mem (fun {a b} ha hb h => ?_) (ha.and hd2)
  have la := hl a (hp.mem_iff.mp ha)
  have lb := hl b (hp.mem_iff.mp hb)
  rw [lt_lotD n hn b.1 lb.2 a.1 la.2] at h
  rcases lt_tri n hn a.1 la.2 b.1 lb.2 with z | z | z
  · exact absurd z h.2
  · exact z
  · rw [z] at h
    cases h.1
theorem dval_memR (hn : n < 6) : ∀ {l : List (Nat × Rat)}, (∀ m ∈ l, m.1 < 2 ^ n) → (l.map (·.1)).Nodup → ∀ m ∈ l, dval (l.map (kvm n)) (keyX n m.1) = some (fr m.2)
  | [], _, _, m, hm => by simp at hm
  | a :: r, hl, hd, m, hm => by
    simp only [List.map_cons, List.nodup_cons] at hd
    unfold dval
    rcases List.mem_cons.mp hm with z | z
    · subst z
      simp [kvm]
    · have hne : a.1 ≠ m.1 := fun e => hd.1 (by rw [e]; exact List.mem_map_of_mem (f := (·.1)) z)
      have : ¬ keyX n a.1 = keyX n m.1 := fun e => hne ((key_inj hn (hl a (by simp)) (hl m hm)).mp e)
      have ih := dval_memR hn (l := r) (fun m h => hl m (by simp [h])) hd.2 m z
      unfold dval at ih
      simp only [List.map_cons, List.find?_cons, kvm, this, decide_false]
      exact ih
/-- sorted masses are equal if their weights are -/
theorem asc_eq (hn : n < 6) {l : List (Nat × Rat)} (hl : ∀ m ∈ l, m.1 < 2 ^ n) (o : OkM n ns) (ha : l.Pairwise fun a b => lotLt n a.1 b.1 = true) (hp : l.Perm ns) : l = ns := by
  refine hp.eq_of_pairwise (fun a b ha hb h1 h2 => ?_) ha o.asc
  have := lexLt_asym _ _ h1
  unfold lotLt at h2
  rw [h2] at this
  cases this
theorem l_due_ok {c0 c1 c2 : Nat} (T : TimesAt cf c0) (Rs : RestAt cf c1) (P : PlusAt cf c2) {h : MH} (o : OkM n ms) (on : OkM n ns) (h0 : 0 ≤ s) (h1 : s ≤ 1) (hd : s.den ≤ 1000000) (k : Wk n s ms ns) : runFn cf (l_due c0 c1 c2) [.int n, massesD n ms, fr s] h = .ok (massesD n ns) h := by
  have n5 := o.n5
  have n2 := o.n2
  have hn : n < 6 := by omega
  have p2 : 4 ≤ 2 ^ n := Nat.pow_le_pow_right (show 0 < 2 by decide) n2
  have ss : Sz 20 s := sz_share h0 h1 hd
  have rs := fun h => Rs s h (ss.mono (by decide))
  have tr := fun h => trg_ok (h := h) hn
  have z : D.tup [.int 0, .int 1] = fr 0 := rfl
  have s2 : 2 ≤ SZ := by decide
  have dn : xop .dnew [] h = .ok (.ref h.length) (h ++ [.dct false []]) := rfl
  have sm : Sz 41 (1 - s) := (sz_one (n := 20)).sub ss
  obtain ⟨env', h', el, l, o5, o6, rfl, rfl, ol, hw⟩ := for_seq (cf := cf) (t := (.tp (.cons (.nm 5) (.cons (.nm 6) .nil)))) (l := .cons (.var 1) .nil) (b := (.seq (.dst (.var 4) (.var 5) (.call c0 (.cons (.var 6) (.cons (.call c1 (.cons (.var 2) .nil)) .nil))))
      .nil)) (env := [oI n, some (massesD n ms), some (fr s), some (lotD n (2 ^ n - 1)), some (.ref h.length), none, none]) (h := h ++ [.dct false []]) ms (massD n)
    (fun pre env g => ∃ (l : List (Nat × Rat)) (o5 o6 : Option D), env = [oI n, some (massesD n ms), some (fr s), some (lotD n (2 ^ n - 1)), some (.ref h.length), o5, o6] ∧ g = h ++ [.dct false (l.map (kvm n))] ∧ DL n l pre.length ∧ ∀ x < 2 ^ n, wt l x = (1 - s) * wt pre x) (.inl (by simp -implicitDefEqProofs [-Int.natCast_ediv, -Int.natCast_pow, -Int.natCast_emod, b_ok, on_ok, tru_bl, tru_int, tru_non, look_0, look_s, v_var, v_lit, v_glb, v_pow, v_neg, v_not, v_bin, v_cmp, v_chn, v_and, v_or, v_ife, v_tup, v_lst, v_cel, v_idx, v_slc, v_call, v_ck, v_blt, v_ex, v_mth, v_isi, v_isN, v_isnN, l_nil, l_cons, o_nil, o_cons, s_asg, s_par, s_exp, s_rtn, s_ite, s_nil, s_pas, s_seq, thn_nx, thn_rt, end_rt, end_nx, bind_nm, bind_tp, binds_nil, binds_cons, cond_nil, Lit.d, ret_ap, neg_int, bin_add, bin_sub, cmp_le, cmp_lt, cmp_gt, cmp_ge, cmp_eq, cmp_ne, idx_fr0, idx_fr1, blt_int, fin_bl, fin_int, fin_non, fin_fr, massesD])) (fun pre m post env g hy i => by
      obtain ⟨l, o5, o6, rfl, rfl, ol, hw⟩ := i
      have hm : m ∈ ms := by rw [hy]; simp
      obtain ⟨m0, mx⟩ := o.lots m hm
      have at1 : (h ++ [.dct false (l.map (kvm n))])[h.length]? = some (.dct false (l.map (kvm n))) := get_last
      have tm := fun h => T m.2 (1 - s) h ((o.sz m hm).mono (by decide)) (sm.mono (by decide))
      have vz : ev cf (.call c0 (.cons (.var 6) (.cons (.call c1 (.cons (.var 2) .nil)) .nil))) [oI n, some (massesD n ms), some (fr s), some (lotD n (2 ^ n - 1)), some (.ref h.length), some (lotD n m.1), some (fr m.2)] (h ++ [.dct false (l.map (kvm n))]) = .ok (fr (m.2 * (1 - s))) (h ++ [.dct false (l.map (kvm n))]) := by
        simp -implicitDefEqProofs [-Int.natCast_ediv, -Int.natCast_pow, -Int.natCast_emod, b_ok, on_ok, tru_bl, tru_int, tru_non, look_0, look_s, v_var, v_lit, v_glb, v_pow, v_neg, v_not, v_bin, v_cmp, v_chn, v_and, v_or, v_ife, v_tup, v_lst, v_cel, v_idx, v_slc, v_call, v_ck, v_blt, v_ex, v_mth, v_isi, v_isN, v_isnN, l_nil, l_cons, o_nil, o_cons, s_asg, s_par, s_exp, s_rtn, s_ite, s_nil, s_pas, s_seq, thn_nx, thn_rt, end_rt, end_nx, bind_nm, bind_tp, binds_nil, binds_cons, cond_nil, Lit.d, ret_ap, neg_int, bin_add, bin_sub, cmp_le, cmp_lt, cmp_gt, cmp_ge, cmp_eq, cmp_ne, idx_fr0, idx_fr1, blt_int, fin_bl, fin_int, fin_non, fin_fr, rs, tm]
      have ds := dst_of (cf := cf) (a := .var 4) (b := .var 5) (i := h.length) (ks := (lotL n m.1).map fun k : Nat => .int (k : Int)) vz (by simp -implicitDefEqProofs [-Int.natCast_ediv, -Int.natCast_pow, -Int.natCast_emod, b_ok, on_ok, tru_bl, tru_int, tru_non, look_0, look_s, v_var, v_lit, v_glb, v_pow, v_neg, v_not, v_bin, v_cmp, v_chn, v_and, v_or, v_ife, v_tup, v_lst, v_cel, v_idx, v_slc, v_call, v_ck, v_blt, v_ex, v_mth, v_isi, v_isN, v_isnN, l_nil, l_cons, o_nil, o_cons, s_asg, s_par, s_exp, s_rtn, s_ite, s_nil, s_pas, s_seq, thn_nx, thn_rt, end_rt, end_nx, bind_nm, bind_tp, binds_nil, binds_cons, cond_nil, Lit.d, ret_ap, neg_int, bin_add, bin_sub, cmp_le, cmp_lt, cmp_gt, cmp_ge, cmp_eq, cmp_ne, idx_fr0, idx_fr1, blt_int, fin_bl, fin_int, fin_non, fin_fr]) (by simp -implicitDefEqProofs [-Int.natCast_ediv, -Int.natCast_pow, -Int.natCast_emod, b_ok, on_ok, tru_bl, tru_int, tru_non, look_0, look_s, v_var, v_lit, v_glb, v_pow, v_neg, v_not, v_bin, v_cmp, v_chn, v_and, v_or, v_ife, v_tup, v_lst, v_cel, v_idx, v_slc, v_call, v_ck, v_blt, v_ex, v_mth, v_isi, v_isN, v_isnN, l_nil, l_cons, o_nil, o_cons, s_asg, s_par, s_exp, s_rtn, s_ite, s_nil, s_pas, s_seq, thn_nx, thn_rt, end_rt, end_nx, bind_nm, bind_tp, binds_nil, binds_cons, cond_nil, Lit.d, ret_ap, neg_int, bin_add, bin_sub, cmp_le, cmp_lt, cmp_gt, cmp_ge, cmp_eq, cmp_ne, idx_fr0, idx_fr1, blt_int, fin_bl, fin_int, fin_non, fin_fr]; rfl) at1 key_lot plain_fr (by
        rw [List.length_map]
        have h1 := ol.len
        have h2 : pre.length ≤ ms.length := by rw [hy]; simp
        have h3 := o.len
        have : SZ = 16777216 := rfl
        omega)
      rw [dput_m hn mx fun m hm => (ol.lots m hm).2, set_last] at ds
      refine ⟨_, [oI n, some (massesD n ms), some (fr s), some (lotD n (2 ^ n - 1)), some (.ref h.length), some (lotD n m.1), some (fr m.2)], h ++ [.dct false ((putL l m.1 (m.2 * (1 - s))).map (kvm n))], rfl, ?_, _, _, _, rfl, rfl, by rw [List.length_append]; exact ol.put m0 mx (Rat.mul_nonneg (o.nonneg m hm) (by grind)), fun x hx => ?_⟩
      · simp -implicitDefEqProofs [-Int.natCast_ediv, -Int.natCast_pow, -Int.natCast_emod, b_ok, on_ok, tru_bl, tru_int, tru_non, look_0, look_s, v_var, v_lit, v_glb, v_pow, v_neg, v_not, v_bin, v_cmp, v_chn, v_and, v_or, v_ife, v_tup, v_lst, v_cel, v_idx, v_slc, v_call, v_ck, v_blt, v_ex, v_mth, v_isi, v_isN, v_isnN, l_nil, l_cons, o_nil, o_cons, s_asg, s_par, s_exp, s_rtn, s_ite, s_nil, s_pas, s_seq, thn_nx, thn_rt, end_rt, end_nx, bind_nm, bind_tp, binds_nil, binds_cons, cond_nil, Lit.d, ret_ap, neg_int, bin_add, bin_sub, cmp_le, cmp_lt, cmp_gt, cmp_ge, cmp_eq, cmp_ne, idx_fr0, idx_fr1, blt_int, fin_bl, fin_int, fin_non, fin_fr, ds]
      · rw [wt_put ol.nd, wt_snoc]
        have w0 : wt pre m.1 = 0 := wt_none fun a ha e => by
          have := o.nodupF
          rw [hy, List.map_append, List.nodup_append] at this
          exact this.2.2 a.1 (List.mem_map_of_mem (f := (·.1)) ha) m.1 (by simp) e
        by_cases q : x = m.1
        · subst q
          rw [if_pos rfl, if_pos rfl, w0]
          grind
        · have q2 : ¬ m.1 = x := fun z => q z.symm
          rw [if_neg q, if_neg q2, hw x hx]
          grind)
    ⟨[], none, none, rfl, rfl, ⟨by simp, by simp, by simp, by simp⟩, fun x hx => by rw [wt_nil]; grind⟩
  have fx : 2 ^ n - 1 < 2 ^ n := by omega
  have f0 : 0 < 2 ^ n - 1 := by omega
  have at0 : (h ++ [.dct false (l.map (kvm n))])[h.length]? = some (.dct false (l.map (kvm n))) := get_last
  obtain ⟨mp, mo⟩ := get_wt hn ol fx at0
  have szf : Sz 61 (wt l (2 ^ n - 1)) := by
    rw [hw _ fx]
    exact sm.mul (sz_wt o.nodupF (fun a ha => o.sz a ha) _)
  have pl := fun h => P (wt l (2 ^ n - 1)) s h (szf.mono (by decide)) (ss.mono (by decide))
  have vz : ev cf (.call c2 (.cons (.mth .get (.var 4) (.cons (.var 3) (.cons (.tup (.cons (.lit (.int 0)) (.cons (.lit (.int 1)) .nil))) .nil))) (.cons (.var 2) .nil))) [oI n, some (massesD n ms), some (fr s), some (lotD n (2 ^ n - 1)), some (.ref h.length), o5, o6] (h ++ [.dct false (l.map (kvm n))]) = .ok (fr (wt l (2 ^ n - 1) + s)) (h ++ [.dct false (l.map (kvm n))]) := by
    simp -implicitDefEqProofs [-Int.natCast_ediv, -Int.natCast_pow, -Int.natCast_emod, b_ok, on_ok, tru_bl, tru_int, tru_non, look_0, look_s, v_var, v_lit, v_glb, v_pow, v_neg, v_not, v_bin, v_cmp, v_chn, v_and, v_or, v_ife, v_tup, v_lst, v_cel, v_idx, v_slc, v_call, v_ck, v_blt, v_ex, v_mth, v_isi, v_isN, v_isnN, l_nil, l_cons, o_nil, o_cons, s_asg, s_par, s_exp, s_rtn, s_ite, s_nil, s_pas, s_seq, thn_nx, thn_rt, end_rt, end_nx, bind_nm, bind_tp, binds_nil, binds_cons, cond_nil, Lit.d, ret_ap, neg_int, bin_add, bin_sub, cmp_le, cmp_lt, cmp_gt, cmp_ge, cmp_eq, cmp_ne, idx_fr0, idx_fr1, blt_int, fin_bl, fin_int, fin_non, fin_fr, z, s2, mp, mo, pl]
  have ds := dst_of (cf := cf) (a := .var 4) (b := .var 3) (i := h.length) (ks := (lotL n (2 ^ n - 1)).map fun k : Nat => .int (k : Int)) vz (by simp -implicitDefEqProofs [-Int.natCast_ediv, -Int.natCast_pow, -Int.natCast_emod, b_ok, on_ok, tru_bl, tru_int, tru_non, look_0, look_s, v_var, v_lit, v_glb, v_pow, v_neg, v_not, v_bin, v_cmp, v_chn, v_and, v_or, v_ife, v_tup, v_lst, v_cel, v_idx, v_slc, v_call, v_ck, v_blt, v_ex, v_mth, v_isi, v_isN, v_isnN, l_nil, l_cons, o_nil, o_cons, s_asg, s_par, s_exp, s_rtn, s_ite, s_nil, s_pas, s_seq, thn_nx, thn_rt, end_rt, end_nx, bind_nm, bind_tp, binds_nil, binds_cons, cond_nil, Lit.d, ret_ap, neg_int, bin_add, bin_sub, cmp_le, cmp_lt, cmp_gt, cmp_ge, cmp_eq, cmp_ne, idx_fr0, idx_fr1, blt_int, fin_bl, fin_int, fin_non, fin_fr]) (by simp -implicitDefEqProofs [-Int.natCast_ediv, -Int.natCast_pow, -Int.natCast_emod, b_ok, on_ok, tru_bl, tru_int, tru_non, look_0, look_s, v_var, v_lit, v_glb, v_pow, v_neg, v_not, v_bin, v_cmp, v_chn, v_and, v_or, v_ife, v_tup, v_lst, v_cel, v_idx, v_slc, v_call, v_ck, v_blt, v_ex, v_mth, v_isi, v_isN, v_isnN, l_nil, l_cons, o_nil, o_cons, s_asg, s_par, s_exp, s_rtn, s_ite, s_nil, s_pas, s_seq, thn_nx, thn_rt, end_rt, end_nx, bind_nm, bind_tp, binds_nil, binds_cons, cond_nil, Lit.d, ret_ap, neg_int, bin_add, bin_sub, cmp_le, cmp_lt, cmp_gt, cmp_ge, cmp_eq, cmp_ne, idx_fr0, idx_fr1, blt_int, fin_bl, fin_int, fin_non, fin_fr]; rfl) at0 key_lot plain_fr (by
    rw [List.length_map]
    have h1 := ol.len
    have h3 := o.len
    have : SZ = 16777216 := rfl
    omega)
  rw [dput_m hn fx fun m hm => (ol.lots m hm).2, set_last] at ds
  have nnf : 0 ≤ wt l (2 ^ n - 1) + s := by
    have := wt_nonneg (x := 2 ^ n - 1) ol.nn
    grind
  have ol2 := ol.put f0 fx nnf
  have hw2 : ∀ x < 2 ^ n, wt (putL l (2 ^ n - 1) (wt l (2 ^ n - 1) + s)) x = wt ns x := fun x hx => by
    rw [wt_put ol.nd, k x hx]
    unfold wkf
    by_cases q : x = 2 ^ n - 1
    · rw [if_pos q, if_pos q, hw _ fx, q]
    · rw [if_neg q, if_neg q, hw x hx]
      grind
  generalize putL l (2 ^ n - 1) (wt l (2 ^ n - 1) + s) = l2 at ds ol2 hw2
  have hl2 : l2.length ≤ SZ := by
    have h1 := ol2.len
    have h3 := o.len
    have : SZ = 16777216 := rfl
    omega
  have at2 : (h ++ [.dct false (l2.map (kvm n))])[h.length]? = some (.dct false (l2.map (kvm n))) := get_last
  obtain ⟨qs, hp, ha, hs⟩ := srt_keysR hn ol2.lots ol2.nd
  have a3 : xop .srt [.ref h.length] (h ++ [.dct false (l2.map (kvm n))]) = .ok (.lst (qs.map fun p => lotD n p.1)) (h ++ [.dct false (l2.map (kvm n))]) := by
    have : (l2.map (kvm n)).map (fun q => keyT q.1) = l2.map fun p => lotD n p.1 := by
      rw [List.map_map]
      exact List.map_congr_left fun p _ => keyT_lot
    simp only [xop, sItems, at2, this, Option.bind_some, hs]
  have a4 := lc_seq (cf := cf) (own := [5]) (elt := (.tup (.cons (.var 5) (.cons (.ex .dix (.cons (.var 4) (.cons (.var 5) .nil))) .nil)))) (t := .nm 5) (l := (.cons (.ex .srt (.cons (.var 4) .nil)) .nil)) (c := (.cmp .gt (.idx (.ex .dix (.cons (.var 4) (.cons (.var 5) .nil))) (.lit (.int 0))) (.lit (.int 0)))) (env := [oI n, some (massesD n ms), some (fr s), some (lotD n (2 ^ n - 1)), some (.ref h.length), o5, o6]) (h := h ++ [.dct false (l2.map (kvm n))]) qs (fun p => lotD n p.1) (fun p => decide (0 < p.2.num)) (massD n) (by rw [hp.length_eq]; exact hl2) (.inr (by simp -implicitDefEqProofs [-Int.natCast_ediv, -Int.natCast_pow, -Int.natCast_emod, b_ok, on_ok, tru_bl, tru_int, tru_non, look_0, look_s, v_var, v_lit, v_glb, v_pow, v_neg, v_not, v_bin, v_cmp, v_chn, v_and, v_or, v_ife, v_tup, v_lst, v_cel, v_idx, v_slc, v_call, v_ck, v_blt, v_ex, v_mth, v_isi, v_isN, v_isnN, l_nil, l_cons, o_nil, o_cons, s_asg, s_par, s_exp, s_rtn, s_ite, s_nil, s_pas, s_seq, thn_nx, thn_rt, end_rt, end_nx, bind_nm, bind_tp, binds_nil, binds_cons, cond_nil, Lit.d, ret_ap, neg_int, bin_add, bin_sub, cmp_le, cmp_lt, cmp_gt, cmp_ge, cmp_eq, cmp_ne, idx_fr0, idx_fr1, blt_int, fin_bl, fin_int, fin_non, fin_fr, a3])) (fun p hq => by
    have dx : xop .dix [.ref h.length, lotD n p.1] (h ++ [.dct false (l2.map (kvm n))]) = .ok (fr p.2) (h ++ [.dct false (l2.map (kvm n))]) := by
      have := dval_memR hn (fun m hm => (ol2.lots m hm).2) ol2.nd p (hp.mem_iff.mp hq)
      simp only [xop, tI, at2, key_lot, this]
    refine ⟨_, rfl, ?_, fun _ => ?_⟩
    · rw [cond_of (by simp)]
      simp -implicitDefEqProofs [-Int.natCast_ediv, -Int.natCast_pow, -Int.natCast_emod, b_ok, on_ok, tru_bl, tru_int, tru_non, look_0, look_s, v_var, v_lit, v_glb, v_pow, v_neg, v_not, v_bin, v_cmp, v_chn, v_and, v_or, v_ife, v_tup, v_lst, v_cel, v_idx, v_slc, v_call, v_ck, v_blt, v_ex, v_mth, v_isi, v_isN, v_isnN, l_nil, l_cons, o_nil, o_cons, s_asg, s_par, s_exp, s_rtn, s_ite, s_nil, s_pas, s_seq, thn_nx, thn_rt, end_rt, end_nx, bind_nm, bind_tp, binds_nil, binds_cons, cond_nil, Lit.d, ret_ap, neg_int, bin_add, bin_sub, cmp_le, cmp_lt, cmp_gt, cmp_ge, cmp_eq, cmp_ne, idx_fr0, idx_fr1, blt_int, fin_bl, fin_int, fin_non, fin_fr, wipeE, dx]
    · simp -implicitDefEqProofs [-Int.natCast_ediv, -Int.natCast_pow, -Int.natCast_emod, b_ok, on_ok, tru_bl, tru_int, tru_non, look_0, look_s, v_var, v_lit, v_glb, v_pow, v_neg, v_not, v_bin, v_cmp, v_chn, v_and, v_or, v_ife, v_tup, v_lst, v_cel, v_idx, v_slc, v_call, v_ck, v_blt, v_ex, v_mth, v_isi, v_isN, v_isnN, l_nil, l_cons, o_nil, o_cons, s_asg, s_par, s_exp, s_rtn, s_ite, s_nil, s_pas, s_seq, thn_nx, thn_rt, end_rt, end_nx, bind_nm, bind_tp, binds_nil, binds_cons, cond_nil, Lit.d, ret_ap, neg_int, bin_add, bin_sub, cmp_le, cmp_lt, cmp_gt, cmp_ge, cmp_eq, cmp_ne, idx_fr0, idx_fr1, blt_int, fin_bl, fin_int, fin_non, fin_fr, wipeE, dx, s2]
      rfl)
  have e5 : qs.filter (fun p => decide (0 < p.2.num)) = ns := by
    refine asc_eq hn (fun m hm => (ol2.lots m (hp.mem_iff.mp (List.mem_filter.mp hm).1)).2) on (ha.filter _) ?_
    exact (hp.filter _).trans (srt_wt ol2 on hw2)
  rw [e5] at a4
  rw [run_eq ⟨rfl, by simp [l_due]⟩]
  simp -implicitDefEqProofs [l_due, -Int.natCast_ediv, -Int.natCast_pow, -Int.natCast_emod, b_ok, on_ok, tru_bl, tru_int, tru_non, look_0, look_s, v_var, v_lit, v_glb, v_pow, v_neg, v_not, v_bin, v_cmp, v_chn, v_and, v_or, v_ife, v_tup, v_lst, v_cel, v_idx, v_slc, v_call, v_ck, v_blt, v_ex, v_mth, v_isi, v_isN, v_isnN, l_nil, l_cons, o_nil, o_cons, s_asg, s_par, s_exp, s_rtn, s_ite, s_nil, s_pas, s_seq, thn_nx, thn_rt, end_rt, end_nx, bind_nm, bind_tp, binds_nil, binds_cons, cond_nil, Lit.d, ret_ap, neg_int, bin_add, bin_sub, cmp_le, cmp_lt, cmp_gt, cmp_ge, cmp_eq, cmp_ne, idx_fr0, idx_fr1, blt_int, fin_bl, fin_int, fin_non, fin_fr, tr, dn, s2, el, ds, a4, tuple_lst]
  exact fin_drop (plains_map fun _ _ => plain_mass)
/-! ### payoffs -/
def ivecD (n : Nat) (p : Nat → Int) : D := .tup ((List.range n).map fun k => .int (p k))
theorem len_ivec {N : Nat} {p : Nat → Int} {h : MH} : bltD .len [ivecD N p] h = .ok (.int (N : Int)) h := by
  simp [bltD, lenD, ivecD, items]
theorem idx_ivec {N x : Nat} {p : Nat → Int} {h : MH} (hx : x < N) : idxD (ivecD N p) (.int (x : Int)) h = .ok (.int (p x)) h := by
  unfold ivecD
  exact idx_map (by simp [hx])
theorem isi_ivec {N : Nat} {p : Nat → Int} {h : MH} : isiD .tuple (ivecD N p) h = .ok (.bl true) h := rfl
theorem plain_ivec {N : Nat} {p : Nat → Int} : plains ((List.range N).map fun k => D.int (p k)) = true := plains_map fun _ _ => rfl
abbrev PayoffAt (cf : Nat → List D → M D) (c : Nat) : Prop := ∀ (n : Nat) (p : Nat → Int) h, n ≤ 100 → (∀ k < n, -1000 ≤ p k ∧ p k ≤ 1000) → cf c [ivecD n p, .int n] h = .ok (.bl true) h
theorem is_payoff_ok {c : Nat} (B : BetweenAt cf c) {p : Nat → Int} {h : MH} (hn : n ≤ 100) (hp : ∀ k < n, -1000 ≤ p k ∧ p k ≤ 1000) : runFn cf (p_is_payoff c) [ivecD n p, .int n] h = .ok (.bl true) h := by
  have ln := fun h => len_ivec (N := n) (p := p) (h := h)
  have is := fun h => isi_ivec (N := n) (p := p) (h := h)
  have a := lc_seq' (cf := cf) (own := [2]) (elt := (.call c (.cons (.var 2) (.cons (.neg (.glb "MOST_NUMBER" (.int 1000))) (.cons (.glb "MOST_NUMBER" (.int 1000)) .nil))))) (t := .nm 2) (l := .cons (.var 0) .nil) (env := [some (ivecD n p), oI n, none]) (h := h) (List.range n) (fun k => .int (p k)) (fun _ => .bl true) (by rw [List.length_range]; exact le_SZ (by omega)) (.inl (by simp -implicitDefEqProofs [-Int.natCast_ediv, -Int.natCast_pow, -Int.natCast_emod, b_ok, on_ok, tru_bl, tru_int, tru_non, look_0, look_s, v_var, v_lit, v_glb, v_pow, v_neg, v_not, v_bin, v_cmp, v_chn, v_and, v_or, v_ife, v_tup, v_lst, v_cel, v_idx, v_slc, v_call, v_ck, v_blt, v_ex, v_mth, v_isi, v_isN, v_isnN, l_nil, l_cons, o_nil, o_cons, s_asg, s_par, s_exp, s_rtn, s_ite, s_nil, s_pas, s_seq, thn_nx, thn_rt, end_rt, end_nx, bind_nm, bind_tp, binds_nil, binds_cons, cond_nil, Lit.d, ret_ap, neg_int, bin_add, bin_sub, cmp_le, cmp_lt, cmp_gt, cmp_ge, cmp_eq, cmp_ne, idx_fr0, idx_fr1, blt_int, fin_bl, fin_int, fin_non, fin_fr, ivecD])) (fun k hk => by
    have hk : k < n := by simpa using hk
    have b := fun h => B (p k) (-1000) 1000 h
    have e : decide (-1000 ≤ p k ∧ p k ≤ 1000) = true := decide_eq_true (hp k hk)
    rw [e] at b
    refine ⟨_, rfl, ?_⟩
    simp -implicitDefEqProofs [-Int.natCast_ediv, -Int.natCast_pow, -Int.natCast_emod, b_ok, on_ok, tru_bl, tru_int, tru_non, look_0, look_s, v_var, v_lit, v_glb, v_pow, v_neg, v_not, v_bin, v_cmp, v_chn, v_and, v_or, v_ife, v_tup, v_lst, v_cel, v_idx, v_slc, v_call, v_ck, v_blt, v_ex, v_mth, v_isi, v_isN, v_isnN, l_nil, l_cons, o_nil, o_cons, s_asg, s_par, s_exp, s_rtn, s_ite, s_nil, s_pas, s_seq, thn_nx, thn_rt, end_rt, end_nx, bind_nm, bind_tp, binds_nil, binds_cons, cond_nil, Lit.d, ret_ap, neg_int, bin_add, bin_sub, cmp_le, cmp_lt, cmp_gt, cmp_ge, cmp_eq, cmp_ne, idx_fr0, idx_fr1, blt_int, fin_bl, fin_int, fin_non, fin_fr, wipeE, b])
  have al : ∀ h, bltD .all [.lst ((List.range n).map fun _ => .bl true)] h = .ok (.bl true) h := fun h => by
    rw [all_lst (p := fun _ => true)]
    simp
  rw [run_eq ⟨rfl, by simp [p_is_payoff]⟩]
  simp -implicitDefEqProofs [p_is_payoff, -Int.natCast_ediv, -Int.natCast_pow, -Int.natCast_emod, b_ok, on_ok, tru_bl, tru_int, tru_non, look_0, look_s, v_var, v_lit, v_glb, v_pow, v_neg, v_not, v_bin, v_cmp, v_chn, v_and, v_or, v_ife, v_tup, v_lst, v_cel, v_idx, v_slc, v_call, v_ck, v_blt, v_ex, v_mth, v_isi, v_isN, v_isnN, l_nil, l_cons, o_nil, o_cons, s_asg, s_par, s_exp, s_rtn, s_ite, s_nil, s_pas, s_seq, thn_nx, thn_rt, end_rt, end_nx, bind_nm, bind_tp, binds_nil, binds_cons, cond_nil, Lit.d, ret_ap, neg_int, bin_add, bin_sub, cmp_le, cmp_lt, cmp_gt, cmp_ge, cmp_eq, cmp_ne, idx_fr0, idx_fr1, blt_int, fin_bl, fin_int, fin_non, fin_fr, is, ln, a, al]
abbrev ChkPayAt (cf : Nat → List D → M D) (c : Nat) : Prop := ∀ (n : Nat) (p : Nat → Int) h, n ≤ 100 → (∀ k < n, -1000 ≤ p k ∧ p k ≤ 1000) → cf c [ivecD n p, .int n] h = .ok .non h
theorem check_payoff_ok {c : Nat} (B : PayoffAt cf c) {p : Nat → Int} {h : MH} (hn : n ≤ 100) (hp : ∀ k < n, -1000 ≤ p k ∧ p k ≤ 1000) : runFn cf (p_check_payoff c) [ivecD n p, .int n] h = .ok .non h := by
  have b := fun h => B n p h hn hp
  rw [run_eq ⟨rfl, by simp [p_check_payoff]⟩]
  simp -implicitDefEqProofs [p_check_payoff, -Int.natCast_ediv, -Int.natCast_pow, -Int.natCast_emod, b_ok, on_ok, tru_bl, tru_int, tru_non, look_0, look_s, v_var, v_lit, v_glb, v_pow, v_neg, v_not, v_bin, v_cmp, v_chn, v_and, v_or, v_ife, v_tup, v_lst, v_cel, v_idx, v_slc, v_call, v_ck, v_blt, v_ex, v_mth, v_isi, v_isN, v_isnN, l_nil, l_cons, o_nil, o_cons, s_asg, s_par, s_exp, s_rtn, s_ite, s_nil, s_pas, s_seq, thn_nx, thn_rt, end_rt, end_nx, bind_nm, bind_tp, binds_nil, binds_cons, cond_nil, Lit.d, ret_ap, neg_int, bin_add, bin_sub, cmp_le, cmp_lt, cmp_gt, cmp_ge, cmp_eq, cmp_ne, idx_fr0, idx_fr1, blt_int, fin_bl, fin_int, fin_non, fin_fr, b]
/-- the least one of a list -/
def mnL : List Int → Int
  | [] => 0
  | a :: r => minI a r
theorem mnL_mem {l : List Int} (h : l ≠ []) : mnL l ∈ l := by
  cases l with
  | nil => exact absurd rfl h
  | cons a r => exact minI_mem r a
/-- the least number of a payoff on a lot -/
def mnP (n : Nat) (p : Nat → Int) (x : Nat) : Int := mnL ((lotL n x).map p)
theorem mnP_le (hn : n < 6) {p : Nat → Int} {B : Int} (hp : ∀ k < n, -B ≤ p k ∧ p k ≤ B) {x : Nat} (h0 : 0 < x) (hx : x < 2 ^ n) : -B ≤ mnP n p x ∧ mnP n p x ≤ B := by
  have hne : (lotL n x).map p ≠ [] := fun e => by
    have := lot_nil n hn x hx (List.map_eq_nil_iff.mp e)
    omega
  obtain ⟨k, hk, e⟩ := List.mem_map.mp (mnL_mem hne)
  have := hp k (lotL_lt hk)
  unfold mnP
  omega
theorem min_ok {l : List Int} {h : MH} (hl : l ≠ []) : xop .min1 [.lst (l.map .int)] h = .ok (.int (mnL l)) h := by
  cases l with
  | nil => exact absurd rfl hl
  | cons a r =>
    have : dInts ((a :: r).map D.int) = some (a :: r) := by
      have := ints_map (p := fun a : Int => a) (l := a :: r)
      simpa using this
    show (match ((some ((a :: r).map D.int)).bind dInts) with
      | some (n :: ns) => R.ok (D.int (minI n ns)) h
      | _ => .bad) = _
    rw [Option.bind_some, this]
    rfl
theorem fr_int1 {i : Int} : D.tup [.int i, .int 1] = fr (i : Rat) := by
  show _ = D.tup [.int (i : Rat).num, .int ((i : Rat).den : Int)]
  rw [Rat.num_intCast, Rat.den_intCast]
  rfl
theorem sz_intN {i : Int} (h : i.natAbs ≤ 1000) : Sz 10 (i : Rat) := ⟨by rw [Rat.num_intCast]; exact Nat.le_trans h (by decide), by rw [Rat.den_intCast]; decide⟩
/-- the sure worth -/
def sw (n : Nat) (ms : List (Nat × Rat)) (p : Nat → Int) : Rat := gs (fun x => ((mnP n p x : Int) : Rat)) ms
abbrev SureAt (cf : Nat → List D → M D) (c : Nat) : Prop := ∀ (n : Nat) (ms : List (Nat × Rat)) (p : Nat → Int) h, OkM n ms → (∀ k < n, -1000 ≤ p k ∧ p k ≤ 1000) → cf c [.int n, massesD n ms, ivecD n p] h = .ok (fr (sw n ms p)) h
theorem sure_worth_ok {c0 c1 c2 c3 : Nat} (A : AskedAt cf c0) (C : ChkPayAt cf c1) (S : AddedAt cf c2) (T : TimesAt cf c3) {p : Nat → Int} {h : MH} (o : OkM n ms) (hp : ∀ k < n, -1000 ≤ p k ∧ p k ≤ 1000) : runFn cf (p_sure_worth c0 c1 c2 c3) [.int n, massesD n ms, ivecD n p] h = .ok (fr (sw n ms p)) h := by
  have n5 := o.n5
  have hn : n < 6 := by omega
  have ask := fun h => A n ms h o
  have ck := fun h => C n p h (by omega) hp
  have s2 : 2 ≤ SZ := by decide
  have hb : ∀ m ∈ ms, Sz 10 ((mnP n p m.1 : Int) : Rat) := fun m hm => by
    obtain ⟨m0, mx⟩ := o.lots m hm
    have := mnP_le hn hp m0 mx
    exact sz_intN (by omega)
  have a1 := lc_seq' (cf := cf) (own := [4, 5]) (elt := (.call c3 (.cons (.var 5) (.cons (.tup (.cons (.ex .min1 (.cons (.lc [3] (.idx (.var 2) (.var 3)) (.nm 3) .seq (.cons (.var 4) .nil) .nil) .nil)) (.cons (.lit (.int 1)) .nil))) .nil)))) (t := (.tp (.cons (.nm 4) (.cons (.nm 5) .nil)))) (l := .cons (.var 1) .nil) (env := [oI n, some (massesD n ms), some (ivecD n p), none, none, none]) (h := h) ms (massD n) (fun m => fr (m.2 * ((mnP n p m.1 : Int) : Rat))) (by have := o.len; exact le_SZ (by omega)) (.inl (by simp -implicitDefEqProofs [-Int.natCast_ediv, -Int.natCast_pow, -Int.natCast_emod, b_ok, on_ok, tru_bl, tru_int, tru_non, look_0, look_s, v_var, v_lit, v_glb, v_pow, v_neg, v_not, v_bin, v_cmp, v_chn, v_and, v_or, v_ife, v_tup, v_lst, v_cel, v_idx, v_slc, v_call, v_ck, v_blt, v_ex, v_mth, v_isi, v_isN, v_isnN, l_nil, l_cons, o_nil, o_cons, s_asg, s_par, s_exp, s_rtn, s_ite, s_nil, s_pas, s_seq, thn_nx, thn_rt, end_rt, end_nx, bind_nm, bind_tp, binds_nil, binds_cons, cond_nil, Lit.d, ret_ap, neg_int, bin_add, bin_sub, cmp_le, cmp_lt, cmp_gt, cmp_ge, cmp_eq, cmp_ne, idx_fr0, idx_fr1, blt_int, fin_bl, fin_int, fin_non, fin_fr, massesD])) (fun m hm => by
    obtain ⟨m0, mx⟩ := o.lots m hm
    have b1 := lc_seq' (cf := cf) (own := [3]) (elt := (.idx (.var 2) (.var 3))) (t := .nm 3) (l := .cons (.var 4) .nil) (env := [oI n, some (massesD n ms), some (ivecD n p), none, some (lotD n m.1), some (fr m.2)]) (h := h) (lotL n m.1) (fun k => .int (k : Int)) (fun k => .int (p k)) (le_SZ (Nat.le_trans lot_len (by omega))) (.inl (by simp -implicitDefEqProofs [-Int.natCast_ediv, -Int.natCast_pow, -Int.natCast_emod, b_ok, on_ok, tru_bl, tru_int, tru_non, look_0, look_s, v_var, v_lit, v_glb, v_pow, v_neg, v_not, v_bin, v_cmp, v_chn, v_and, v_or, v_ife, v_tup, v_lst, v_cel, v_idx, v_slc, v_call, v_ck, v_blt, v_ex, v_mth, v_isi, v_isN, v_isnN, l_nil, l_cons, o_nil, o_cons, s_asg, s_par, s_exp, s_rtn, s_ite, s_nil, s_pas, s_seq, thn_nx, thn_rt, end_rt, end_nx, bind_nm, bind_tp, binds_nil, binds_cons, cond_nil, Lit.d, ret_ap, neg_int, bin_add, bin_sub, cmp_le, cmp_lt, cmp_gt, cmp_ge, cmp_eq, cmp_ne, idx_fr0, idx_fr1, blt_int, fin_bl, fin_int, fin_non, fin_fr, tI])) (fun k hk => by
      have ix := fun h => idx_ivec (N := n) (p := p) (h := h) (lotL_lt hk)
      refine ⟨_, rfl, ?_⟩
      simp -implicitDefEqProofs [-Int.natCast_ediv, -Int.natCast_pow, -Int.natCast_emod, b_ok, on_ok, tru_bl, tru_int, tru_non, look_0, look_s, v_var, v_lit, v_glb, v_pow, v_neg, v_not, v_bin, v_cmp, v_chn, v_and, v_or, v_ife, v_tup, v_lst, v_cel, v_idx, v_slc, v_call, v_ck, v_blt, v_ex, v_mth, v_isi, v_isN, v_isnN, l_nil, l_cons, o_nil, o_cons, s_asg, s_par, s_exp, s_rtn, s_ite, s_nil, s_pas, s_seq, thn_nx, thn_rt, end_rt, end_nx, bind_nm, bind_tp, binds_nil, binds_cons, cond_nil, Lit.d, ret_ap, neg_int, bin_add, bin_sub, cmp_le, cmp_lt, cmp_gt, cmp_ge, cmp_eq, cmp_ne, idx_fr0, idx_fr1, blt_int, fin_bl, fin_int, fin_non, fin_fr, wipeE, ix])
    have mn : ∀ h, xop .min1 [.lst ((lotL n m.1).map fun k => .int (p k))] h = .ok (.int (mnP n p m.1)) h := fun h => by
      have := min_ok (l := (lotL n m.1).map p) (h := h) (fun e => by
        have := lot_nil n hn m.1 mx (List.map_eq_nil_iff.mp e)
        omega)
      rwa [List.map_map] at this
    have t := fun h => T m.2 ((mnP n p m.1 : Int) : Rat) h ((o.sz m hm).mono (by decide)) ((hb m hm).mono (by decide))
    refine ⟨_, rfl, ?_⟩
    simp -implicitDefEqProofs [-Int.natCast_ediv, -Int.natCast_pow, -Int.natCast_emod, b_ok, on_ok, tru_bl, tru_int, tru_non, look_0, look_s, v_var, v_lit, v_glb, v_pow, v_neg, v_not, v_bin, v_cmp, v_chn, v_and, v_or, v_ife, v_tup, v_lst, v_cel, v_idx, v_slc, v_call, v_ck, v_blt, v_ex, v_mth, v_isi, v_isN, v_isnN, l_nil, l_cons, o_nil, o_cons, s_asg, s_par, s_exp, s_rtn, s_ite, s_nil, s_pas, s_seq, thn_nx, thn_rt, end_rt, end_nx, bind_nm, bind_tp, binds_nil, binds_cons, cond_nil, Lit.d, ret_ap, neg_int, bin_add, bin_sub, cmp_le, cmp_lt, cmp_gt, cmp_ge, cmp_eq, cmp_ne, idx_fr0, idx_fr1, blt_int, fin_bl, fin_int, fin_non, fin_fr, wipeE, b1, mn, s2, fr_int1, t])
  have ad := fun h => S (ms.map fun m => m.2 * ((mnP n p m.1 : Int) : Rat)) h (fun q hq => by
    obtain ⟨m, hm, rfl⟩ := List.mem_map.mp hq
    exact ((o.sz m hm).mul (hb m hm)).mono (by decide)) (by rw [List.length_map]; exact o.len)
  rw [gs_fold (g := fun x => ((mnP n p x : Int) : Rat))] at ad
  have e0 : (0 : Rat) + gs (fun x => ((mnP n p x : Int) : Rat)) ms = sw n ms p := by
    unfold sw
    grind
  rw [e0, List.map_map] at ad
  have ad : ∀ h, cf c2 [.lst (ms.map fun m => fr (m.2 * ((mnP n p m.1 : Int) : Rat)))] h = .ok (fr (sw n ms p)) h := ad
  rw [run_eq ⟨rfl, by simp [p_sure_worth]⟩]
  simp -implicitDefEqProofs [p_sure_worth, -Int.natCast_ediv, -Int.natCast_pow, -Int.natCast_emod, b_ok, on_ok, tru_bl, tru_int, tru_non, look_0, look_s, v_var, v_lit, v_glb, v_pow, v_neg, v_not, v_bin, v_cmp, v_chn, v_and, v_or, v_ife, v_tup, v_lst, v_cel, v_idx, v_slc, v_call, v_ck, v_blt, v_ex, v_mth, v_isi, v_isN, v_isnN, l_nil, l_cons, o_nil, o_cons, s_asg, s_par, s_exp, s_rtn, s_ite, s_nil, s_pas, s_seq, thn_nx, thn_rt, end_rt, end_nx, bind_nm, bind_tp, binds_nil, binds_cons, cond_nil, Lit.d, ret_ap, neg_int, bin_add, bin_sub, cmp_le, cmp_lt, cmp_gt, cmp_ge, cmp_eq, cmp_ne, idx_fr0, idx_fr1, blt_int, fin_bl, fin_int, fin_non, fin_fr, ask, ck, a1, ad]
end
end Mn

set_option maxHeartbeats 4000000
/-! Mn: drawn payoffs; chances looked at; stirred bounds. -/
namespace Mn
section
variable {cf : Nat → List D → M D} {n W : Nat} {q : Nat → Rat} {s : Rat}
abbrev PayDrawAt (cf : Nat → List D → M D) (c : Nat) : Prop := ∀ (j : Nat) (h : MH) (C : Int) (n t : Nat), Jar h j C → C ≤ 100000 → n ≤ 10 → t ≤ 1000 → ∃ (p : Nat → Int) (g : MH), cf c [.ref j, .int (n : Int), .int (t : Int)] h = .ok (ivecD n p) g ∧ (∀ k < n, -(t : Int) ≤ p k ∧ p k ≤ t) ∧ Jar g j (C + n) ∧ ∃ cl, g = h.set j cl
theorem l_payoff_ok {c : Nat} (Dp : DipAt cf c) {j t : Nat} {h : MH} {C : Int} (J : Jar h j C) (hC : C ≤ 100000) (hn : n ≤ 10) (ht : t ≤ 1000) : ∃ (p : Nat → Int) (g : MH), runFn cf (l_payoff c) [.ref j, .int (n : Int), .int (t : Int)] h = .ok (ivecD n p) g ∧ (∀ k < n, -(t : Int) ≤ p k ∧ p k ≤ t) ∧ Jar g j (C + n) ∧ ∃ cl, g = h.set j cl := by
  have hl := J.lt
  obtain ⟨acc, g, el, ⟨ps, rfl, hlen, hps, hg, Jg⟩, _⟩ := lcN_inv (s := .rng 0 n) (t := .nm 3) (own := [3]) (cond := condF (ev cf .nil) .nil) (elt := ev cf (.bin .sub (.call c (.cons (.var 0) (.cons (.bin .add (.bin .mul (.lit (.int 2)) (.var 2)) (.lit (.int 1))) .nil))) (.var 2))) (env := [some (.ref j), oI n, oI t, none]) (n := n) (le_SZ (by omega))
    (fun k acc h' => ∃ ps : List Int, acc = ps.map D.int ∧ ps.length = k ∧ (∀ p ∈ ps, -(t : Int) ≤ p ∧ p ≤ t) ∧ (∃ cl, h' = h.set j cl) ∧ Jar h' j (C + k)) (fun k acc h' hk _ i => by
      obtain ⟨ps, rfl, hlen, hps, ⟨cl, hh⟩, Jh⟩ := i
      obtain ⟨r, cl1, e1, hr, J1⟩ := Dp j h' _ (2 * t + 1) Jh (by omega) (by omega) (by omega)
      have ct : (2 : Int) * (t : Int) + 1 = ((2 * t + 1 : Nat) : Int) := by omega
      have bm : ∀ h, binD .mul (.int 2) (.int (t : Int)) h = .ok (.int (2 * (t : Int))) h := fun h => bin_mul (by decide) (by have : (t : Int).natAbs = t := by omega
                                                                                                                              rw [this]; exact Nat.le_trans ht (by decide))
      refine ⟨.int (k : Int), _, true, h', by simp [Src.at, hk], rfl, rfl, fun z => (by cases z), fun _ => ⟨.int ((r : Int) - t), h'.set j cl1, ?_, ps ++ [(r : Int) - t], by simp, by simp [hlen], fun p hp => ?_, ⟨cl1, by rw [hh, List.set_set]⟩, J1.mono (by omega)⟩⟩
      · simp -implicitDefEqProofs [-Int.natCast_ediv, -Int.natCast_pow, -Int.natCast_emod, b_ok, on_ok, tru_bl, tru_int, tru_non, look_0, look_s, v_var, v_lit, v_glb, v_pow, v_neg, v_not, v_bin, v_cmp, v_chn, v_and, v_or, v_ife, v_tup, v_lst, v_cel, v_idx, v_slc, v_call, v_ck, v_blt, v_ex, v_mth, v_isi, v_isN, v_isnN, l_nil, l_cons, o_nil, o_cons, s_asg, s_par, s_exp, s_rtn, s_ite, s_nil, s_pas, s_seq, thn_nx, thn_rt, end_rt, end_nx, bind_nm, bind_tp, binds_nil, binds_cons, cond_nil, Lit.d, ret_ap, neg_int, bin_add, bin_sub, cmp_le, cmp_lt, cmp_gt, cmp_ge, cmp_eq, cmp_ne, idx_fr0, idx_fr1, blt_int, fin_bl, fin_int, fin_non, fin_fr, -Int.natCast_add, -Int.natCast_mul, wipeE, bm, ct, e1]
      · rcases List.mem_append.mp hp with z | z
        · exact hps p z
        · have z : p = (r : Int) - t := by simpa using z
          omega)
    (fun _ _ _ => rfl) n 0 [] h (by omega) (by simp) ⟨[], rfl, rfl, by simp, ⟨h[j], (List.set_getElem_self hl).symm⟩, J.mono (by omega)⟩
  have a1 : ev cf (.lc [3] (.bin .sub (.call c (.cons (.var 0) (.cons (.bin .add (.bin .mul (.lit (.int 2)) (.var 2)) (.lit (.int 1))) .nil))) (.var 2)) (.nm 3) .rng (.cons (.var 1) .nil) .nil) [some (.ref j), oI n, oI t, none] h = .ok (.lst (ps.map D.int)) g := lc_of (ds := [.int (n : Int)]) (h1 := h) (h2 := h) (by simp -implicitDefEqProofs [-Int.natCast_ediv, -Int.natCast_pow, -Int.natCast_emod, b_ok, on_ok, tru_bl, tru_int, tru_non, look_0, look_s, v_var, v_lit, v_glb, v_pow, v_neg, v_not, v_bin, v_cmp, v_chn, v_and, v_or, v_ife, v_tup, v_lst, v_cel, v_idx, v_slc, v_call, v_ck, v_blt, v_ex, v_mth, v_isi, v_isN, v_isnN, l_nil, l_cons, o_nil, o_cons, s_asg, s_par, s_exp, s_rtn, s_ite, s_nil, s_pas, s_seq, thn_nx, thn_rt, end_rt, end_nx, bind_nm, bind_tp, binds_nil, binds_cons, cond_nil, Lit.d, ret_ap, neg_int, bin_add, bin_sub, cmp_le, cmp_lt, cmp_gt, cmp_ge, cmp_eq, cmp_ne, idx_fr0, idx_fr1, blt_int, fin_bl, fin_int, fin_non, fin_fr]) (rng_ok (le_SZ (by omega))) el
  have e2 : ps.map D.int = (List.range n).map fun k => .int (ps.getD k 0) := by
    refine List.ext_getElem (by simp [hlen]) fun i h1 h2 => ?_
    simp at h1
    simp [h1]
  obtain ⟨cl, rfl⟩ := hg
  refine ⟨fun k => ps.getD k 0, h.set j cl, ?_, fun k hk => ?_, Jg, ⟨cl, rfl⟩⟩
  · rw [run_eq ⟨rfl, by simp [l_payoff]⟩]
    simp -implicitDefEqProofs [l_payoff, -Int.natCast_ediv, -Int.natCast_pow, -Int.natCast_emod, b_ok, on_ok, tru_bl, tru_int, tru_non, look_0, look_s, v_var, v_lit, v_glb, v_pow, v_neg, v_not, v_bin, v_cmp, v_chn, v_and, v_or, v_ife, v_tup, v_lst, v_cel, v_idx, v_slc, v_call, v_ck, v_blt, v_ex, v_mth, v_isi, v_isN, v_isnN, l_nil, l_cons, o_nil, o_cons, s_asg, s_par, s_exp, s_rtn, s_ite, s_nil, s_pas, s_seq, thn_nx, thn_rt, end_rt, end_nx, bind_nm, bind_tp, binds_nil, binds_cons, cond_nil, Lit.d, ret_ap, neg_int, bin_add, bin_sub, cmp_le, cmp_lt, cmp_gt, cmp_ge, cmp_eq, cmp_ne, idx_fr0, idx_fr1, blt_int, fin_bl, fin_int, fin_non, fin_fr, a1, tuple_lst]
    rw [e2]
    exact fin_set (show plain (.tup _) = true from plain_ivec)
  · have hk' : k < ps.length := by omega
    have : ps.getD k 0 = ps[k] := by simp [hk']
    simp only [this]
    exact hps _ (List.getElem_mem hk')
theorem range_split {n y : Nat} {pre post : List Nat} (h : List.range n = pre ++ y :: post) : y = pre.length ∧ y < n := by
  have hl : pre.length < n := by
    have := congrArg List.length h
    simp at this
    omega
  have h1 : (List.range n)[pre.length]? = some y := by rw [h]; simp
  rw [List.getElem?_range hl] at h1
  have := Option.some.inj h1
  omega
theorem isi_vec {N : Nat} {v : Nat → Rat} {h : MH} : isiD .tuple (vecD N v) h = .ok (.bl true) h := rfl
abbrev ChkChanceAt (cf : Nat → List D → M D) (c : Nat) : Prop := ∀ (n W : Nat) (q : Nat → Rat) h, n ≤ 6 → OkC n W q → cf c [vecD n q, .int n] h = .ok .non h
theorem zs_succ {P : Nat → Bool} {f : Nat → Rat} {N : Nat} : zs P f (N + 1) = zs P f N + if P N then f N else 0 := rfl
theorem zs_pre (o : OkC n W q) : ∀ {k : Nat}, k ≤ n → zs tt q k ≤ 1 := by
  have up : ∀ d k, k + d = n → zs tt q k ≤ zs tt q n := by
    intro d
    induction d with
    | zero => intro k e; rw [← e]; exact Rat.le_refl
    | succ d ih =>
      intro k e
      have h1 := ih (k + 1) (by omega)
      rw [zs_succ, if_pos rfl] at h1
      have h2 := o.lo k (by omega)
      grind
  intro k hk
  rw [← o.sum]
  exact up (n - k) k (by omega)
theorem sz_pre (o : OkC n W q) {k : Nat} (hk : k ≤ n) : Sz 20 (zs tt q k) :=
  sz_share (zs_nonneg fun i hi => o.lo i (by omega)) (zs_pre o hk) (Nat.le_trans (Dn.den o.w0 (Dn.zs o.w0 fun i hi => o.dn i (by omega))) (Nat.le_trans o.w1 (by decide)))
theorem check_chance_ok {c0 c1 c2 : Nat} (S : ShareAt cf c0) (P : PlusAt cf c1) (L : LessAt cf c2) {h : MH} (hn : n ≤ 6) (o : OkC n W q) : runFn cf (p_check_chance c0 c1 c2) [vecD n q, .int n] h = .ok .non h := by
  have ln := fun h => len_vec (N := n) (v := q) (h := h)
  have is := fun h => isi_vec (N := n) (v := q) (h := h)
  have z : D.tup [.int 0, .int 1] = fr 0 := rfl
  have u : D.tup [.int 1, .int 1] = fr 1 := rfl
  have s2 : 2 ≤ SZ := by decide
  obtain ⟨env', h', el, o3, o4, rfl, rfl⟩ := for_enm (cf := cf) (t := (.tp (.cons (.nm 3) (.cons (.nm 4) .nil)))) (l := .cons (.var 0) .nil) (b := (.seq (.ite (.not (.call c0 (.cons (.var 4) .nil))) (.seq .rai
      .nil) .nil)
      (.seq (.asg (.nm 2) (.call c1 (.cons (.var 2) (.cons (.var 4) .nil))))
      (.seq (.ite (.call c2 (.cons (.tup (.cons (.lit (.int 1)) (.cons (.lit (.int 1)) .nil))) (.cons (.var 2) .nil))) (.seq .rai
      .nil) .nil)
      .nil)))) (env := [some (vecD n q), oI n, some (fr 0), none, none]) (h := h) (List.range n) (fun k => fr (q k)) (fun pre env h' => ∃ o3 o4, h' = h ∧ env = [some (vecD n q), oI n, some (fr (zs tt q pre.length)), o3, o4]) (.inl (by simp -implicitDefEqProofs [-Int.natCast_ediv, -Int.natCast_pow, -Int.natCast_emod, b_ok, on_ok, tru_bl, tru_int, tru_non, look_0, look_s, v_var, v_lit, v_glb, v_pow, v_neg, v_not, v_bin, v_cmp, v_chn, v_and, v_or, v_ife, v_tup, v_lst, v_cel, v_idx, v_slc, v_call, v_ck, v_blt, v_ex, v_mth, v_isi, v_isN, v_isnN, l_nil, l_cons, o_nil, o_cons, s_asg, s_par, s_exp, s_rtn, s_ite, s_nil, s_pas, s_seq, thn_nx, thn_rt, end_rt, end_nx, bind_nm, bind_tp, binds_nil, binds_cons, cond_nil, Lit.d, ret_ap, neg_int, bin_add, bin_sub, cmp_le, cmp_lt, cmp_gt, cmp_ge, cmp_eq, cmp_ne, idx_fr0, idx_fr1, blt_int, fin_bl, fin_int, fin_non, fin_fr, vecD])) (fun pre y post env h' hy i => by
    obtain ⟨o3, o4, rfl, rfl⟩ := i
    obtain ⟨e, hk⟩ := range_split hy
    have sh := fun h => share_true S (o.lo y hk) (o.hi hk) (Nat.le_trans (Dn.den o.w0 (o.dn y hk)) (Nat.le_trans o.w1 (by decide))) h
    have p := fun h => P (zs tt q pre.length) (q y) h ((sz_pre o (k := pre.length) (by omega)).mono (by decide)) ((o.sz hk).mono (by decide))
    have e2 : zs tt q pre.length + q y = zs tt q (pre ++ [y]).length := by
      rw [List.length_append]
      show _ = zs tt q (pre.length + 1)
      rw [zs_succ, if_pos rfl, e]
    rw [e2] at p
    have le : (pre ++ [y]).length ≤ n := by simp; omega
    have l := fun h => L 1 (zs tt q (pre ++ [y]).length) h sz_one ((sz_pre o le).mono (by decide))
    rw [one_lt (zs_pre o le)] at l
    refine ⟨_, [some (vecD n q), oI n, some (fr (zs tt q (pre ++ [y]).length)), oI pre.length, some (fr (q y))], h', rfl, ?_, _, _, rfl, rfl⟩
    generalize zs tt q (pre ++ [y]).length = w at p l
    simp -implicitDefEqProofs [-Int.natCast_ediv, -Int.natCast_pow, -Int.natCast_emod, b_ok, on_ok, tru_bl, tru_int, tru_non, look_0, look_s, v_var, v_lit, v_glb, v_pow, v_neg, v_not, v_bin, v_cmp, v_chn, v_and, v_or, v_ife, v_tup, v_lst, v_cel, v_idx, v_slc, v_call, v_ck, v_blt, v_ex, v_mth, v_isi, v_isN, v_isnN, l_nil, l_cons, o_nil, o_cons, s_asg, s_par, s_exp, s_rtn, s_ite, s_nil, s_pas, s_seq, thn_nx, thn_rt, end_rt, end_nx, bind_nm, bind_tp, binds_nil, binds_cons, cond_nil, Lit.d, ret_ap, neg_int, bin_add, bin_sub, cmp_le, cmp_lt, cmp_gt, cmp_ge, cmp_eq, cmp_ne, idx_fr0, idx_fr1, blt_int, fin_bl, fin_int, fin_non, fin_fr, sh, p, u, s2, l]) ⟨none, none, rfl, rfl⟩
  rw [List.length_range, o.sum] at el
  have ne : ∀ h, cmpD .ne (fr 1) (fr 1) h = .ok (.bl false) h := fun h => same_fr
  rw [run_eq ⟨rfl, by simp [p_check_chance]⟩]
  simp -implicitDefEqProofs [p_check_chance, -Int.natCast_ediv, -Int.natCast_pow, -Int.natCast_emod, b_ok, on_ok, tru_bl, tru_int, tru_non, look_0, look_s, v_var, v_lit, v_glb, v_pow, v_neg, v_not, v_bin, v_cmp, v_chn, v_and, v_or, v_ife, v_tup, v_lst, v_cel, v_idx, v_slc, v_call, v_ck, v_blt, v_ex, v_mth, v_isi, v_isN, v_isnN, l_nil, l_cons, o_nil, o_cons, s_asg, s_par, s_exp, s_rtn, s_ite, s_nil, s_pas, s_seq, thn_nx, thn_rt, end_rt, end_nx, bind_nm, bind_tp, binds_nil, binds_cons, cond_nil, Lit.d, ret_ap, neg_int, bin_add, bin_sub, cmp_le, cmp_lt, cmp_gt, cmp_ge, cmp_eq, cmp_ne, idx_fr0, idx_fr1, blt_int, fin_bl, fin_int, fin_non, fin_fr, is, ln, z, u, s2, el, ne]
abbrev ChkShapeAt (cf : Nat → List D → M D) (c : Nat) : Prop := ∀ (n W : Nat) (q : Nat → Rat) (s : Rat) h, 2 ≤ n → n ≤ 5 → OkC n W q → 0 ≤ s → s ≤ 1 → s.den ≤ 1000000 → cf c [vecD n q, fr s] h = .ok .non h
theorem check_shape_ok {c0 c1 : Nat} (C : ChkChanceAt cf c0) (S : ShareAt cf c1) {h : MH} (n2 : 2 ≤ n) (n5 : n ≤ 5) (o : OkC n W q) (h0 : 0 ≤ s) (h1 : s ≤ 1) (hd : s.den ≤ 1000000) : runFn cf (p_check_shape c0 c1) [vecD n q, fr s] h = .ok .non h := by
  have ln := fun h => len_vec (N := n) (v := q) (h := h)
  have is := fun h => isi_vec (N := n) (v := q) (h := h)
  have c := fun h => C n W q h (by omega) o
  have sh := fun h => share_true S h0 h1 hd h
  have a : (2 : Int) ≤ (n : Int) := by omega
  have b : (n : Int) ≤ 5 := by omega
  rw [run_eq ⟨rfl, by simp [p_check_shape]⟩]
  simp -implicitDefEqProofs [p_check_shape, -Int.natCast_ediv, -Int.natCast_pow, -Int.natCast_emod, b_ok, on_ok, tru_bl, tru_int, tru_non, look_0, look_s, v_var, v_lit, v_glb, v_pow, v_neg, v_not, v_bin, v_cmp, v_chn, v_and, v_or, v_ife, v_tup, v_lst, v_cel, v_idx, v_slc, v_call, v_ck, v_blt, v_ex, v_mth, v_isi, v_isN, v_isnN, l_nil, l_cons, o_nil, o_cons, s_asg, s_par, s_exp, s_rtn, s_ite, s_nil, s_pas, s_seq, thn_nx, thn_rt, end_rt, end_nx, bind_nm, bind_tp, binds_nil, binds_cons, cond_nil, Lit.d, ret_ap, neg_int, bin_add, bin_sub, cmp_le, cmp_lt, cmp_gt, cmp_ge, cmp_eq, cmp_ne, idx_fr0, idx_fr1, blt_int, fin_bl, fin_int, fin_non, fin_fr, is, ln, c, sh, eq_true a, eq_true b]
abbrev LotChanceAt (cf : Nat → List D → M D) (c : Nat) : Prop := ∀ (n W : Nat) (q : Nat → Rat) (x : Nat) h, n ≤ 6 → OkC n W q → cf c [vecD n q, lotD n x] h = .ok (fr (onC n q x)) h
theorem lot_chance_ok {c : Nat} (A : AddedAt cf c) {x : Nat} {h : MH} (hn : n ≤ 6) (o : OkC n W q) : runFn cf (p_lot_chance c) [vecD n q, lotD n x] h = .ok (fr (onC n q x)) h := by
  have a1 := lc_seq' (cf := cf) (own := [2]) (elt := (.idx (.var 0) (.var 2))) (t := .nm 2) (l := .cons (.var 1) .nil) (env := [some (vecD n q), some (lotD n x), none]) (h := h) (lotL n x) (fun k => .int (k : Int)) (fun k => fr (q k)) (le_SZ (Nat.le_trans lot_len (by omega))) (.inl (by simp -implicitDefEqProofs [-Int.natCast_ediv, -Int.natCast_pow, -Int.natCast_emod, b_ok, on_ok, tru_bl, tru_int, tru_non, look_0, look_s, v_var, v_lit, v_glb, v_pow, v_neg, v_not, v_bin, v_cmp, v_chn, v_and, v_or, v_ife, v_tup, v_lst, v_cel, v_idx, v_slc, v_call, v_ck, v_blt, v_ex, v_mth, v_isi, v_isN, v_isnN, l_nil, l_cons, o_nil, o_cons, s_asg, s_par, s_exp, s_rtn, s_ite, s_nil, s_pas, s_seq, thn_nx, thn_rt, end_rt, end_nx, bind_nm, bind_tp, binds_nil, binds_cons, cond_nil, Lit.d, ret_ap, neg_int, bin_add, bin_sub, cmp_le, cmp_lt, cmp_gt, cmp_ge, cmp_eq, cmp_ne, idx_fr0, idx_fr1, blt_int, fin_bl, fin_int, fin_non, fin_fr, tI])) (fun k hk => by
    have ix := fun h => idx_vec (N := n) (v := q) (h := h) (lotL_lt hk)
    refine ⟨_, rfl, ?_⟩
    simp -implicitDefEqProofs [-Int.natCast_ediv, -Int.natCast_pow, -Int.natCast_emod, b_ok, on_ok, tru_bl, tru_int, tru_non, look_0, look_s, v_var, v_lit, v_glb, v_pow, v_neg, v_not, v_bin, v_cmp, v_chn, v_and, v_or, v_ife, v_tup, v_lst, v_cel, v_idx, v_slc, v_call, v_ck, v_blt, v_ex, v_mth, v_isi, v_isN, v_isnN, l_nil, l_cons, o_nil, o_cons, s_asg, s_par, s_exp, s_rtn, s_ite, s_nil, s_pas, s_seq, thn_nx, thn_rt, end_rt, end_nx, bind_nm, bind_tp, binds_nil, binds_cons, cond_nil, Lit.d, ret_ap, neg_int, bin_add, bin_sub, cmp_le, cmp_lt, cmp_gt, cmp_ge, cmp_eq, cmp_ne, idx_fr0, idx_fr1, blt_int, fin_bl, fin_int, fin_non, fin_fr, wipeE, ix])
  have ad := fun h => A ((lotL n x).map q) h (fun p hp => by
    obtain ⟨k, hk, rfl⟩ := List.mem_map.mp hp
    exact (o.sz (lotL_lt hk)).mono (by decide)) (by rw [List.length_map]; exact Nat.le_trans lot_len (by omega))
  rw [List.foldl_map, fold_on, List.map_map] at ad
  have ad : ∀ h, cf c [.lst ((lotL n x).map fun k => fr (q k))] h = .ok (fr (onC n q x)) h := ad
  rw [run_eq ⟨rfl, by simp [p_lot_chance]⟩]
  simp -implicitDefEqProofs [p_lot_chance, -Int.natCast_ediv, -Int.natCast_pow, -Int.natCast_emod, b_ok, on_ok, tru_bl, tru_int, tru_non, look_0, look_s, v_var, v_lit, v_glb, v_pow, v_neg, v_not, v_bin, v_cmp, v_chn, v_and, v_or, v_ife, v_tup, v_lst, v_cel, v_idx, v_slc, v_call, v_ck, v_blt, v_ex, v_mth, v_isi, v_isN, v_isnN, l_nil, l_cons, o_nil, o_cons, s_asg, s_par, s_exp, s_rtn, s_ite, s_nil, s_pas, s_seq, thn_nx, thn_rt, end_rt, end_nx, bind_nm, bind_tp, binds_nil, binds_cons, cond_nil, Lit.d, ret_ap, neg_int, bin_add, bin_sub, cmp_le, cmp_lt, cmp_gt, cmp_ge, cmp_eq, cmp_ne, idx_fr0, idx_fr1, blt_int, fin_bl, fin_int, fin_non, fin_fr, a1, ad]
/-- all but the last -/
theorem cut_init {α : Type} {xs : List α} : cut xs none (some (-1)) = xs.dropLast := by
  unfold cut
  have h1 : HT.sIx xs.length xs.length (some (-1)) = xs.length - 1 := by
    show (if (-1 : Int) < 0 then ((-1 : Int) + (xs.length : Int)).toNat else min (-1 : Int).toNat xs.length) = _
    rw [if_pos (by decide)]
    omega
  rw [HT.sIx_none, h1, List.dropLast_eq_take]
  simp
theorem range_init {β : Type} {f : Nat → β} {N : Nat} : ((List.range N).map f).dropLast = (List.range (N - 1)).map f := by
  cases N with
  | zero => rfl
  | succ N => simp [List.range_succ]
theorem slc_init {α : Type} {f : Nat → D} {N : Nat} {h : MH} : slcD (.lst ((List.range N).map f)) none (some (-1)) h = .ok (.lst ((List.range (N - 1)).map f)) h := by
  simp only [slcD, lItems]
  rw [cut_init, range_init]
def stir (n : Nat) (s : Rat) (q : Nat → Rat) (x : Nat) : Rat := if x = 2 ^ n - 1 then 1 else (1 - s) * onC n q x
abbrev StirAt (cf : Nat → List D → M D) (c : Nat) : Prop := ∀ (n W : Nat) (q : Nat → Rat) (s : Rat) h, 2 ≤ n → n ≤ 5 → OkC n W q → 0 ≤ s → s ≤ 1 → s.den ≤ 1000000 → cf c [vecD n q, fr s] h = .ok (vecD (2 ^ n) (stir n s q)) h
theorem stirred_ok {c0 c1 c2 c3 c4 : Nat} (C : ChkShapeAt cf c0) (M : MinusAt cf c1) (T : TimesAt cf c2) (L : LotChanceAt cf c3) (A : LotsAt cf c4) {h : MH} (n2 : 2 ≤ n) (n5 : n ≤ 5) (o : OkC n W q) (h0 : 0 ≤ s) (h1 : s ≤ 1) (hd : s.den ≤ 1000000) : runFn cf (p_stirred_bounds c0 c1 c2 c3 c4) [vecD n q, fr s] h = .ok (vecD (2 ^ n) (stir n s q)) h := by
  have p5 := pow5 n5
  have p2 : 4 ≤ 2 ^ n := Nat.pow_le_pow_right (show 0 < 2 by decide) n2
  have u : D.tup [.int 1, .int 1] = fr 1 := rfl
  have s2 : 2 ≤ SZ := by decide
  have ss : Sz 20 s := sz_share h0 h1 hd
  have sm : Sz 41 (1 - s) := (sz_one (n := 20)).sub ss
  have ck := fun h => C n W q s h n2 n5 o h0 h1 hd
  have mi := fun h => M 1 s h sz_one (ss.mono (by decide))
  have ln := fun h => len_vec (N := n) (v := q) (h := h)
  have al := fun h => A n h (by omega)
  have a1 := lc_seq' (cf := cf) (own := [4]) (elt := (.call c2 (.cons (.var 2) (.cons (.call c3 (.cons (.var 0) (.cons (.var 4) .nil))) .nil)))) (t := .nm 4) (l := (.cons (.call c4 (.cons (.blt .len (.cons (.var 0) .nil)) .nil)) .nil)) (env := [some (vecD n q), some (fr s), some (fr (1 - s)), none, none]) (h := h) (List.range (2 ^ n)) (lotD n) (fun x => fr ((1 - s) * onC n q x)) (by rw [List.length_range]; exact le_SZ (by omega)) (.inr (by simp -implicitDefEqProofs [-Int.natCast_ediv, -Int.natCast_pow, -Int.natCast_emod, b_ok, on_ok, tru_bl, tru_int, tru_non, look_0, look_s, v_var, v_lit, v_glb, v_pow, v_neg, v_not, v_bin, v_cmp, v_chn, v_and, v_or, v_ife, v_tup, v_lst, v_cel, v_idx, v_slc, v_call, v_ck, v_blt, v_ex, v_mth, v_isi, v_isN, v_isnN, l_nil, l_cons, o_nil, o_cons, s_asg, s_par, s_exp, s_rtn, s_ite, s_nil, s_pas, s_seq, thn_nx, thn_rt, end_rt, end_nx, bind_nm, bind_tp, binds_nil, binds_cons, cond_nil, Lit.d, ret_ap, neg_int, bin_add, bin_sub, cmp_le, cmp_lt, cmp_gt, cmp_ge, cmp_eq, cmp_ne, idx_fr0, idx_fr1, blt_int, fin_bl, fin_int, fin_non, fin_fr, ln, al])) (fun x hx => by
    have l := fun h => L n W q x h (by omega) o
    have t := fun h => T (1 - s) (onC n q x) h (sm.mono (by decide)) (o.on_sz.mono (by decide))
    refine ⟨_, rfl, ?_⟩
    simp -implicitDefEqProofs [-Int.natCast_ediv, -Int.natCast_pow, -Int.natCast_emod, b_ok, on_ok, tru_bl, tru_int, tru_non, look_0, look_s, v_var, v_lit, v_glb, v_pow, v_neg, v_not, v_bin, v_cmp, v_chn, v_and, v_or, v_ife, v_tup, v_lst, v_cel, v_idx, v_slc, v_call, v_ck, v_blt, v_ex, v_mth, v_isi, v_isN, v_isnN, l_nil, l_cons, o_nil, o_cons, s_asg, s_par, s_exp, s_rtn, s_ite, s_nil, s_pas, s_seq, thn_nx, thn_rt, end_rt, end_nx, bind_nm, bind_tp, binds_nil, binds_cons, cond_nil, Lit.d, ret_ap, neg_int, bin_add, bin_sub, cmp_le, cmp_lt, cmp_gt, cmp_ge, cmp_eq, cmp_ne, idx_fr0, idx_fr1, blt_int, fin_bl, fin_int, fin_non, fin_fr, wipeE, l, t])
  have sl := fun h => slc_init (α := Nat) (f := fun x => fr ((1 - s) * onC n q x)) (N := 2 ^ n) (h := h)
  have mp : ∀ h, mpre .tst (.lst ((List.range (2 ^ n - 1)).map fun x => fr ((1 - s) * onC n q x))) h = true := fun h => rfl
  have e1 : ((List.range (2 ^ n - 1)).map fun x => fr ((1 - s) * onC n q x)) ++ [fr 1] = (List.range (2 ^ n)).map fun x => fr (stir n s q x) := by
    have : 2 ^ n = (2 ^ n - 1) + 1 := by omega
    conv => rhs; rw [this, List.range_succ, List.map_append]
    congr 1
    · refine List.map_congr_left fun x hx => ?_
      have : x < 2 ^ n - 1 := by simpa using hx
      unfold stir
      rw [if_neg (by omega)]
    · simp [stir]
  have mo : ∀ h, mop .tst (.lst ((List.range (2 ^ n - 1)).map fun x => fr ((1 - s) * onC n q x))) [fr 1] h = .ok (vecD (2 ^ n) (stir n s q)) h := fun h => by
    have hz : ((List.range (2 ^ n - 1)).map fun x => fr ((1 - s) * onC n q x)).length + 1 ≤ SZ := by
      rw [List.length_map, List.length_range]
      exact le_SZ (by omega)
    simp only [mop, fItems]
    rw [if_pos hz, e1]
    rfl
  rw [run_eq ⟨rfl, by simp [p_stirred_bounds]⟩]
  simp -implicitDefEqProofs [p_stirred_bounds, -Int.natCast_ediv, -Int.natCast_pow, -Int.natCast_emod, b_ok, on_ok, tru_bl, tru_int, tru_non, look_0, look_s, v_var, v_lit, v_glb, v_pow, v_neg, v_not, v_bin, v_cmp, v_chn, v_and, v_or, v_ife, v_tup, v_lst, v_cel, v_idx, v_slc, v_call, v_ck, v_blt, v_ex, v_mth, v_isi, v_isN, v_isnN, l_nil, l_cons, o_nil, o_cons, s_asg, s_par, s_exp, s_rtn, s_ite, s_nil, s_pas, s_seq, thn_nx, thn_rt, end_rt, end_nx, bind_nm, bind_tp, binds_nil, binds_cons, cond_nil, Lit.d, ret_ap, neg_int, bin_add, bin_sub, cmp_le, cmp_lt, cmp_gt, cmp_ge, cmp_eq, cmp_ne, idx_fr0, idx_fr1, blt_int, fin_bl, fin_int, fin_non, fin_fr, ck, mi, u, s2, a1, sl, mp, mo]
  exact fin_tup plains_vec
end
end Mn

set_option maxHeartbeats 4000000
/-! k36: masses weakened are right. -/
namespace K36
open Mn
theorem lot_single : ∀ n < 6, ∀ k < n, lotL n (2 ^ k) = [k] := by decide +kernel
theorem lt_single : ∀ n < 6, ∀ a < n, ∀ b < n, a < b → lotLt n (2 ^ a) (2 ^ b) = true := by decide +kernel
theorem sub_single : ∀ n < 6, ∀ k < n, ∀ x < 2 ^ n, subB n (2 ^ k) x = (x / 2 ^ k % 2 == 1) := by decide +kernel
theorem sub_full : ∀ n < 6, ∀ x < 2 ^ n - 1, subB n (2 ^ n - 1) x = false := by decide +kernel
section
variable {cf : Nat → List D → M D} {n W : Nat} {q v w : Nat → Rat}
theorem same_lvec {N : Nat} {h : MH} : cmpD .ne (lvecD N v) (lvecD N v) h = .ok (.bl false) h := neD_same (nb_map fun _ _ => nb_fr) (dp_vec (N := N) (v := v))
theorem eq_vec {N : Nat} {h : MH} : cmpD .eq (vecD N v) (vecD N v) h = .ok (.bl true) h := eqD_same nb_vec dp_vec
theorem vec_congr {N : Nat} (h : ∀ x < N, v x = w x) : vecD N v = vecD N w := by
  unfold vecD
  congr 1
  exact List.map_congr_left fun x hx => by rw [h x (by simpa using hx)]
theorem lvec_congr {N : Nat} (h : ∀ x < N, v x = w x) : lvecD N v = lvecD N w := by
  unfold lvecD
  congr 1
  exact List.map_congr_left fun x hx => by rw [h x (by simpa using hx)]
/-- a chance as masses -/
def pmL (q : Nat → Rat) (N : Nat) : List (Nat × Rat) := ((List.range N).filter fun k => decide (0 < (q k).num)).map fun k => (2 ^ k, q k)
theorem pmL_succ {N : Nat} : pmL q (N + 1) = pmL q N ++ if 0 < (q N).num then [(2 ^ N, q N)] else [] := by
  unfold pmL
  rw [List.range_succ, List.filter_append, List.map_append]
  congr 1
  by_cases h : 0 < (q N).num <;> simp [h]
theorem ws_pmL {P : Nat → Bool} : ∀ {N : Nat}, (∀ k < N, 0 ≤ q k) → ws (pmL q N) P = zs (fun k => P (2 ^ k)) q N
  | 0, _ => rfl
  | N + 1, h => by
    rw [pmL_succ, ws_append, ws_pmL fun k hk => h k (by omega)]
    simp only [zs]
    congr 1
    have h0 := h N (by omega)
    have h1 := Rat.num_nonneg.mpr h0
    by_cases e : 0 < (q N).num
    · simp only [e, if_true, ws]
      split <;> grind
    · have : q N = 0 := Rat.num_eq_zero.mp (by omega)
      rw [if_neg e, this]
      simp [ws]
theorem mem_pmL {N : Nat} {m : Nat × Rat} (h : m ∈ pmL q N) : ∃ k < N, m = (2 ^ k, q k) ∧ 0 < (q k).num := by
  obtain ⟨k, hk, rfl⟩ := List.mem_map.mp h
  obtain ⟨h1, h2⟩ := List.mem_filter.mp hk
  exact ⟨k, by simpa using h1, rfl, by simpa using h2⟩
theorem pm_ok (n2 : 2 ≤ n) (n5 : n ≤ 5) (o : OkC n W q) : OkM n (pmL q n) where
  n2 := n2
  n5 := n5
  lots := fun m hm => by
    obtain ⟨k, hk, rfl, _⟩ := mem_pmL hm
    exact ⟨Nat.two_pow_pos k, Nat.pow_lt_pow_right (by decide) hk⟩
  pos := fun m hm => by
    obtain ⟨k, hk, rfl, h⟩ := mem_pmL hm
    have h0 := o.lo k hk
    have h1 : q k ≠ 0 := fun z => by rw [z] at h; exact absurd h (by decide)
    show 0 < q k
    grind
  den := fun m hm => by
    obtain ⟨k, hk, rfl, h⟩ := mem_pmL hm
    exact Nat.le_trans (Dn.den o.w0 (o.dn k hk)) (Nat.le_trans o.w1 (by decide))
  asc := by
    unfold pmL
    rw [List.pairwise_map]
    refine List.Pairwise.filter _ ?_
    refine List.Pairwise.imp_of_mem (fun {a b} ha hb h => ?_) List.pairwise_lt_range
    exact lt_single n (by omega) a (by simpa using ha) b (by simpa using hb) h
  sum := by rw [ws_pmL o.lo]; exact o.sum
  len := by
    unfold pmL
    rw [List.length_map]
    have := List.length_filter_le (fun k => decide (0 < (q k).num)) (List.range n)
    rw [List.length_range] at this
    omega
theorem bel_pm (n5 : n ≤ 5) (o : OkC n W q) {x : Nat} (hx : x < 2 ^ n) : bel n (pmL q n) x = onC n q x := by
  unfold bel onC
  rw [ws_pmL o.lo]
  exact zs_pcongr fun k hk => sub_single n (by omega) k hk x hx
theorem full_ok (n2 : 2 ≤ n) (n5 : n ≤ 5) : OkM n [(2 ^ n - 1, 1)] where
  n2 := n2
  n5 := n5
  lots := by
    have p2 : 4 ≤ 2 ^ n := Nat.pow_le_pow_right (show 0 < 2 by decide) n2
    simp
    omega
  pos := fun m hm => by
    simp at hm
    subst hm
    exact (by decide : (0 : Rat) < 1)
  den := by simp
  asc := List.pairwise_singleton _ _
  sum := by simp [ws]; grind
  len := by simp
theorem wk_zero {ms : List (Nat × Rat)} : Wk n 0 ms ms := fun x _ => by
  unfold wkf
  split <;> grind
theorem wk_one {ms : List (Nat × Rat)} : Wk n 1 ms [(2 ^ n - 1, 1)] := fun x _ => by
  unfold wkf
  rw [wt_cons, wt_nil]
  by_cases e : x = 2 ^ n - 1
  · simp [e]; grind
  · have : ¬ 2 ^ n - 1 = x := fun z => e z.symm
    simp [e, this]; grind
theorem wk_both {s t : Rat} {ms ns n2 : List (Nat × Rat)} (a : Wk n s ms ns) (b : Wk n t ns n2) : Wk n (1 - (1 - s) * (1 - t)) ms n2 := fun x hx => by
  rw [b x hx]
  unfold wkf
  rw [a x hx]
  unfold wkf
  split <;> grind
theorem sz_sw {ms : List (Nat × Rat)} {p : Nat → Int} (o : OkM n ms) (hp : ∀ k < n, -1000 ≤ p k ∧ p k ≤ 1000) : Sz 1300 (sw n ms p) := by
  have n5 := o.n5
  have e : sw n ms p = (ms.map fun m => m.2 * ((mnP n p m.1 : Int) : Rat)).foldl (· + ·) 0 := by
    rw [gs_fold (g := fun x => ((mnP n p x : Int) : Rat))]
    unfold sw
    grind
  rw [e]
  refine (sz_sum (m := 30) (fun q hq => ?_) (sz_zero (n := 0))).mono ?_
  · obtain ⟨m, hm, rfl⟩ := List.mem_map.mp hq
    obtain ⟨m0, mx⟩ := o.lots m hm
    have := mnP_le (show n < 6 by omega) hp m0 mx
    exact (o.sz m hm).mul (sz_intN (by omega))
  · rw [List.length_map]
    have := o.len
    omega
/-- the shares -/
theorem shares {d : D} (h : d ∈ [fr 0, fr 1, fr (mkRat 1 2), fr (mkRat 1 3), fr (mkRat 3 4)]) : ∃ s : Rat, d = fr s ∧ 0 ≤ s ∧ s ≤ 1 ∧ s.den ≤ 4 ∧ Dn 12 s := by
  simp only [List.mem_cons, List.not_mem_nil, or_false] at h
  rcases h with rfl | rfl | rfl | rfl | rfl
  · exact ⟨_, rfl, by decide +kernel, by decide +kernel, by decide +kernel, 0, by decide +kernel⟩
  · exact ⟨_, rfl, by decide +kernel, by decide +kernel, by decide +kernel, 12, by decide +kernel⟩
  · exact ⟨_, rfl, by decide +kernel, by decide +kernel, by decide +kernel, 6, by decide +kernel⟩
  · exact ⟨_, rfl, by decide +kernel, by decide +kernel, by decide +kernel, 4, by decide +kernel⟩
  · exact ⟨_, rfl, by decide +kernel, by decide +kernel, by decide +kernel, 9, by decide +kernel⟩
/- _law_right: c0=_law_one_of c1=_law_masses c2=weakened c3=_law_due c4=_law_rest c5=_law_times c6=beliefs c7=_law_payoff c8=sure_worth c9=_law_plus c10=_law_chance c11=stirred_bounds -/
def l_right (c0 c1 c2 c3 c4 c5 c6 c7 c8 c9 c10 c11 : Nat) : Fn := ⟨15, 1, (.seq (.asg (.nm 1) (.call c0 (.cons (.var 0) (.cons (.lst (.cons (.lit (.int 2)) (.cons (.lit (.int 3)) (.cons (.lit (.int 3)) (.cons (.lit (.int 4)) .nil))))) .nil))))
      (.seq (.par 2 3 (.cons (.call c1 (.cons (.var 0) (.cons (.var 1) .nil))) (.cons (.lst (.cons (.tup (.cons (.lit (.int 0)) (.cons (.lit (.int 1)) .nil))) (.cons (.tup (.cons (.lit (.int 1)) (.cons (.lit (.int 1)) .nil))) (.cons (.tup (.cons (.lit (.int 1)) (.cons (.lit (.int 2)) .nil))) (.cons (.tup (.cons (.lit (.int 1)) (.cons (.lit (.int 3)) .nil))) (.cons (.tup (.cons (.lit (.int 3)) (.cons (.lit (.int 4)) .nil))) .nil)))))) .nil)))
      (.seq (.asg (.tp (.cons (.nm 4) (.cons (.nm 5) .nil))) (.tup (.cons (.call c0 (.cons (.var 0) (.cons (.var 3) .nil))) (.cons (.call c0 (.cons (.var 0) (.cons (.var 3) .nil))) .nil))))
      (.seq (.asg (.nm 6) (.call c2 (.cons (.var 1) (.cons (.var 2) (.cons (.var 4) .nil)))))
      (.seq (.ite (.or (.cmp .ne (.var 6) (.call c3 (.cons (.var 1) (.cons (.var 2) (.cons (.var 4) .nil))))) (.cmp .ne (.ck c2 [2, 1, 0] (.cons (.var 4) (.cons (.var 2) (.cons (.var 1) .nil)))) (.var 6))) (.seq (.rtn (.lit (.bl false)))
      .nil) .nil)
      (.seq (.ite (.cmp .ne (.call c2 (.cons (.var 1) (.cons (.var 2) (.cons (.tup (.cons (.lit (.int 0)) (.cons (.lit (.int 1)) .nil))) .nil)))) (.var 2)) (.seq (.rtn (.lit (.bl false)))
      .nil) .nil)
      (.seq (.ite (.cmp .ne (.call c2 (.cons (.var 1) (.cons (.var 2) (.cons (.tup (.cons (.lit (.int 1)) (.cons (.lit (.int 1)) .nil))) .nil)))) (.tup (.cons (.tup (.cons (.ex .trg (.cons (.var 1) .nil)) (.cons (.tup (.cons (.lit (.int 1)) (.cons (.lit (.int 1)) .nil))) .nil))) .nil))) (.seq (.rtn (.lit (.bl false)))
      .nil) .nil)
      (.seq (.asg (.nm 7) (.call c4 (.cons (.call c5 (.cons (.call c4 (.cons (.var 4) .nil)) (.cons (.call c4 (.cons (.var 5) .nil)) .nil))) .nil)))
      (.seq (.ite (.cmp .ne (.call c2 (.cons (.var 1) (.cons (.var 6) (.cons (.var 5) .nil)))) (.call c2 (.cons (.var 1) (.cons (.var 2) (.cons (.var 7) .nil))))) (.seq (.rtn (.lit (.bl false)))
      .nil) .nil)
      (.seq (.asg (.nm 8) (.lc [9] (.call c5 (.cons (.var 9) (.cons (.call c4 (.cons (.var 4) .nil)) .nil))) (.nm 9) .seq (.cons (.call c6 (.cons (.var 1) (.cons (.var 2) .nil))) .nil) .nil))
      (.seq (.ite (.cmp .ne (.slc (.blt .list (.cons (.call c6 (.cons (.var 1) (.cons (.var 6) .nil))) .nil)) .nil (.cons (.neg (.lit (.int 1))) .nil)) (.slc (.var 8) .nil (.cons (.neg (.lit (.int 1))) .nil))) (.seq (.rtn (.lit (.bl false)))
      .nil) .nil)
      (.seq (.asg (.nm 10) (.call c7 (.cons (.var 0) (.cons (.var 1) (.cons (.lit (.int 5)) .nil)))))
      (.seq (.asg (.nm 11) (.call c5 (.cons (.call c4 (.cons (.var 4) .nil)) (.cons (.call c8 (.cons (.var 1) (.cons (.var 2) (.cons (.var 10) .nil)))) .nil))))
      (.seq (.ite (.cmp .ne (.call c8 (.cons (.var 1) (.cons (.var 6) (.cons (.var 10) .nil)))) (.call c9 (.cons (.var 11) (.cons (.call c5 (.cons (.var 4) (.cons (.tup (.cons (.ex .min1 (.cons (.var 10) .nil)) (.cons (.lit (.int 1)) .nil))) .nil))) .nil)))) (.seq (.rtn (.lit (.bl false)))
      .nil) .nil)
      (.seq (.asg (.nm 12) (.call c10 (.cons (.var 0) (.cons (.var 1) .nil))))
      (.seq (.asg (.nm 13) (.blt .tuple (.cons (.lc [14] (.tup (.cons (.tup (.cons (.var 14) .nil)) (.cons (.idx (.var 12) (.var 14)) .nil))) (.nm 14) .rng (.cons (.var 1) .nil) (.cmp .gt (.idx (.idx (.var 12) (.var 14)) (.lit (.int 0))) (.lit (.int 0)))) .nil)))
      (.seq (.rtn (.cmp .eq (.call c11 (.cons (.var 12) (.cons (.var 4) .nil))) (.call c6 (.cons (.var 1) (.cons (.call c2 (.cons (.var 1) (.cons (.var 13) (.cons (.var 4) .nil)))) .nil)))))
      .nil))))))))))))))))), false⟩
theorem right_ok {c0 c1 c2 c3 c4 c5 c6 c7 c8 c9 c10 c11 : Nat} (A0 : OneOfAt cf c0) (A1 : DrawAt cf c1) (A2 : WeakAt cf c2) (A3 : WeakAt cf c3) (A4 : RestAt cf c4) (T : TimesAt cf c5) (B : BeliefsAt cf c6) (Py : PayDrawAt cf c7) (Su : SureAt cf c8) (P : PlusAt cf c9) (Ch : ChanceAt cf c10) (St : StirAt cf c11) {h : MH} {j : Nat} (J : Jar h j 0) : ∃ h', runFn cf (l_right c0 c1 c2 c3 c4 c5 c6 c7 c8 c9 c10 c11) [.ref j] h = .ok (.bl true) h' := by
  have s4 : 4 ≤ SZ := by decide
  have s5 : 5 ≤ SZ := by decide
  have s2 : 2 ≤ SZ := by decide
  have s1 : 1 ≤ SZ := by decide
  obtain ⟨d, cl1, e1, hd, J1⟩ := A0 j h _ [.int 2, .int 3, .int 3, .int 4] J (by omega) (by simp) (by simp) (by simp [plain])
  obtain ⟨n, rfl, n2, n4⟩ : ∃ n : Nat, d = .int (n : Int) ∧ 2 ≤ n ∧ n ≤ 4 := by
    simp at hd
    rcases hd with rfl | rfl | rfl
    · exact ⟨2, rfl, by decide, by decide⟩
    · exact ⟨3, rfl, by decide, by decide⟩
    · exact ⟨4, rfl, by decide, by decide⟩
  have n5 : n ≤ 5 := by omega
  have hn : n < 6 := by omega
  have p2 : 4 ≤ 2 ^ n := Nat.pow_le_pow_right (show 0 < 2 by decide) n2
  have p5 := pow5 n5
  generalize h.set j cl1 = g1 at e1 J1
  obtain ⟨ms, W, g2, e2, om, w0, w12, wd, J2, _⟩ := A1 j g1 _ n J1 (by omega) n2 n5
  have pls : ∀ d ∈ [fr 0, fr 1, fr (mkRat 1 2), fr (mkRat 1 3), fr (mkRat 3 4)], plain d = true := by simp [plain_fr]
  obtain ⟨d, cl3, e3, hd, J3⟩ := A0 j g2 _ [fr 0, fr 1, fr (mkRat 1 2), fr (mkRat 1 3), fr (mkRat 3 4)] J2 (by omega) (by simp) (by simp) pls
  generalize g2.set j cl3 = g3 at e3 J3
  obtain ⟨s, rfl, s0, s1', sd, sn⟩ := shares hd
  obtain ⟨d, cl4, e4, hd, J4⟩ := A0 j g3 _ [fr 0, fr 1, fr (mkRat 1 2), fr (mkRat 1 3), fr (mkRat 3 4)] J3 (by omega) (by simp) (by simp) pls
  generalize g3.set j cl4 = g4 at e4 J4
  obtain ⟨t, rfl, t0, t1, td, tn⟩ := shares hd
  have z0 : D.tup [.int 0, .int 1] = fr 0 := rfl
  have z1 : D.tup [.int 1, .int 1] = fr 1 := rfl
  have z2 : D.tup [.int 1, .int 2] = fr (mkRat 1 2) := rfl
  have z3 : D.tup [.int 1, .int 3] = fr (mkRat 1 3) := rfl
  have z4 : D.tup [.int 3, .int 4] = fr (mkRat 3 4) := rfl
  obtain ⟨ns, ons, wk, nd⟩ := wk_ex om w0 (show (12 : Nat) ≠ 0 by decide) (by omega) s0 s1' sn wd
  obtain ⟨ns2, ons2, wk2, nd2⟩ := wk_ex ons (Nat.mul_ne_zero w0 (by decide)) (show (12 : Nat) ≠ 0 by decide) (by omega) t0 t1 tn nd
  have f1 := fun h => A2 n ms ns s h om ons s0 s1' (by omega) wk
  have f2 := fun h => A3 n ms ns s h om ons s0 s1' (by omega) wk
  have f3 := fun h => A2 n ms ms 0 h om om (by decide) (by decide) (by decide) wk_zero
  have f4 : ∀ h, cf c2 [.int n, massesD n ms, fr 1] h = .ok (.tup [.tup [lotD n (2 ^ n - 1), fr 1]]) h := fun h => A2 n ms _ 1 h om (full_ok n2 n5) (by decide) (by decide) (by decide) wk_one
  have f5 := fun h => A2 n ns ns2 t h ons ons2 t0 t1 (by omega) wk2
  have ss : Sz 20 s := sz_share s0 s1' (by omega)
  have st : Sz 20 t := sz_share t0 t1 (by omega)
  have sm : Sz 41 (1 - s) := (sz_one (n := 20)).sub ss
  have tm : Sz 41 (1 - t) := (sz_one (n := 20)).sub st
  have bn : Dn (12 * 12) (1 - (1 - s) * (1 - t)) := Dn.sub (by decide) (Dn.one (by decide)) (Dn.mul (by decide) (by decide) (Dn.sub (by decide) (Dn.one (by decide)) sn) (Dn.sub (by decide) (Dn.one (by decide)) tn))
  have bd := Dn.den (by decide) bn
  have st1 : 0 ≤ (1 - s) * (1 - t) := Rat.mul_nonneg (by grind) (by grind)
  have st2 : (1 - s) * (1 - t) ≤ 1 := by
    have a : 0 ≤ s * (1 - t) := Rat.mul_nonneg s0 (by grind)
    grind
  have f6 := fun h => A2 n ms ns2 (1 - (1 - s) * (1 - t)) h om ons2 (by grind) (by grind) (by omega) (wk_both wk wk2)
  have r1 := fun h => A4 s h (ss.mono (by decide))
  have r2 := fun h => A4 t h (st.mono (by decide))
  have t1' := fun h => T (1 - s) (1 - t) h (sm.mono (by decide)) (tm.mono (by decide))
  have r3 := fun h => A4 ((1 - s) * (1 - t)) h ((sm.mul tm).mono (by decide))
  have b1 := fun h => B n ms h om
  have b2 := fun h => B n ns h ons
  have b3 := lc_seq' (cf := cf) (own := [9]) (elt := (.call c5 (.cons (.var 9) (.cons (.call c4 (.cons (.var 4) .nil)) .nil)))) (t := .nm 9) (l := (.cons (.call c6 (.cons (.var 1) (.cons (.var 2) .nil))) .nil)) (env := [some (.ref j), oI n, some (massesD n ms), some (.lst [fr 0, fr 1, fr (mkRat 1 2), fr (mkRat 1 3), fr (mkRat 3 4)]), some (fr s), some (fr t), some (massesD n ns), some (fr (1 - (1 - s) * (1 - t))), none, none, none, none, none, none, none]) (h := g4) (List.range (2 ^ n)) (fun x => fr (bel n ms x)) (fun x => fr (bel n ms x * (1 - s))) (by rw [List.length_range]; exact le_SZ (by omega)) (.inl (by simp -implicitDefEqProofs [-Int.natCast_ediv, -Int.natCast_pow, -Int.natCast_emod, b_ok, on_ok, tru_bl, tru_int, tru_non, look_0, look_s, v_var, v_lit, v_glb, v_pow, v_neg, v_not, v_bin, v_cmp, v_chn, v_and, v_or, v_ife, v_tup, v_lst, v_cel, v_idx, v_slc, v_call, v_ck, v_blt, v_ex, v_mth, v_isi, v_isN, v_isnN, l_nil, l_cons, o_nil, o_cons, s_asg, s_par, s_exp, s_rtn, s_ite, s_nil, s_pas, s_seq, thn_nx, thn_rt, end_rt, end_nx, bind_nm, bind_tp, binds_nil, binds_cons, cond_nil, Lit.d, ret_ap, neg_int, bin_add, bin_sub, cmp_le, cmp_lt, cmp_gt, cmp_ge, cmp_eq, cmp_ne, idx_fr0, idx_fr1, blt_int, fin_bl, fin_int, fin_non, fin_fr, b1, vecD])) (fun x hx => by
    have t2 := fun h => T (bel n ms x) (1 - s) h (K33.sz_bel om) (sm.mono (by decide))
    refine ⟨_, rfl, ?_⟩
    simp -implicitDefEqProofs [-Int.natCast_ediv, -Int.natCast_pow, -Int.natCast_emod, b_ok, on_ok, tru_bl, tru_int, tru_non, look_0, look_s, v_var, v_lit, v_glb, v_pow, v_neg, v_not, v_bin, v_cmp, v_chn, v_and, v_or, v_ife, v_tup, v_lst, v_cel, v_idx, v_slc, v_call, v_ck, v_blt, v_ex, v_mth, v_isi, v_isN, v_isnN, l_nil, l_cons, o_nil, o_cons, s_asg, s_par, s_exp, s_rtn, s_ite, s_nil, s_pas, s_seq, thn_nx, thn_rt, end_rt, end_nx, bind_nm, bind_tp, binds_nil, binds_cons, cond_nil, Lit.d, ret_ap, neg_int, bin_add, bin_sub, cmp_le, cmp_lt, cmp_gt, cmp_ge, cmp_eq, cmp_ne, idx_fr0, idx_fr1, blt_int, fin_bl, fin_int, fin_non, fin_fr, wipeE, r1, t2])
  have ls : ∀ h, bltD .list [vecD (2 ^ n) (bel n ns)] h = .ok (lvecD (2 ^ n) (bel n ns)) h := fun h => rfl
  have sl1 := fun h => slc_init (α := Nat) (f := fun x => fr (bel n ns x)) (N := 2 ^ n) (h := h)
  have sl2 := fun h => slc_init (α := Nat) (f := fun x => fr (bel n ms x * (1 - s))) (N := 2 ^ n) (h := h)
  have eb : lvecD (2 ^ n - 1) (bel n ns) = lvecD (2 ^ n - 1) fun x => bel n ms x * (1 - s) := lvec_congr fun x hx => by
    have e := wk.bel om ons (P := fun y => subB n y x)
    unfold bel
    rw [e, sub_full n hn x hx]
    simp
    grind
  have ne1 : ∀ h, cmpD .ne (lvecD (2 ^ n - 1) (bel n ns)) (lvecD (2 ^ n - 1) fun x => bel n ms x * (1 - s)) h = .ok (.bl false) h := fun h => by
    rw [eb]
    exact same_lvec
  obtain ⟨p, g5, e5, hp, J5, _⟩ := Py j g4 _ n 5 J4 (by omega) (by omega) (by omega)
  have e5 : cf c7 [.ref j, .int (n : Int), .int 5] g4 = .ok (ivecD n p) g5 := e5
  have hp : ∀ k < n, -1000 ≤ p k ∧ p k ≤ 1000 := fun k hk => by have := hp k hk; omega
  have u1 := fun h => Su n ms p h om hp
  have u2 := fun h => Su n ns p h ons hp
  have swm := sz_sw om hp
  have mb := mnP_le hn hp (x := 2 ^ n - 1) (by omega) (by omega)
  have mz : Sz 10 ((mnP n p (2 ^ n - 1) : Int) : Rat) := sz_intN (by omega)
  have t3 := fun h => T (1 - s) (sw n ms p) h (sm.mono (by decide)) (swm.mono (by decide))
  have t4 := fun h => T s ((mnP n p (2 ^ n - 1) : Int) : Rat) h (ss.mono (by decide)) (mz.mono (by decide))
  have pl := fun h => P ((1 - s) * sw n ms p) (s * ((mnP n p (2 ^ n - 1) : Int) : Rat)) h ((sm.mul swm).mono (by decide)) ((ss.mul mz).mono (by decide))
  have es : (1 - s) * sw n ms p + s * ((mnP n p (2 ^ n - 1) : Int) : Rat) = sw n ns p := (wk.gs om ons (g := fun x => ((mnP n p x : Int) : Rat))).symm
  rw [es] at pl
  have mn : ∀ h, xop .min1 [ivecD n p] h = .ok (.int (mnP n p (2 ^ n - 1))) h := fun h => by
    have := min_ok (l := (lotL n (2 ^ n - 1)).map p) (h := h) (fun e => by
      have := lot_nil n hn _ (by omega) (List.map_eq_nil_iff.mp e)
      omega)
    rw [lot_full n hn, List.map_map] at this
    unfold mnP
    rw [lot_full n hn]
    exact this
  obtain ⟨q, V, g6, e6, v0, v28, qd, qs, J6, _⟩ := Ch j g5 _ n J5 (by omega) n2 n5
  have oc : OkC n V q := ⟨v0, v28, fun k hk => (qd k hk).1, fun k hk => (qd k hk).2, qs⟩
  have op := pm_ok n2 n5 oc
  obtain ⟨ns3, ons3, wk3, _⟩ := wk_ex op v0 (show (12 : Nat) ≠ 0 by decide) (by omega) s0 s1' sn (fun m hm => by
    obtain ⟨k, hk, rfl, _⟩ := mem_pmL hm
    exact oc.dn k hk)
  have f7 := fun h => A2 n (pmL q n) ns3 s h op ons3 s0 s1' (by omega) wk3
  have b4 := fun h => B n ns3 h ons3
  have sb := fun h => St n V q s h n2 n5 oc s0 s1' (by omega)
  have ev : vecD (2 ^ n) (stir n s q) = vecD (2 ^ n) (bel n ns3) := vec_congr fun x hx => by
    have e := wk3.bel op ons3 (P := fun y => subB n y x)
    have e2 := bel_pm n5 oc hx
    unfold bel at e2 ⊢
    rw [e, e2]
    unfold stir
    by_cases q1 : x = 2 ^ n - 1
    · rw [if_pos q1, q1, onC_top hn oc, sub_all n hn _ (by omega)]
      simp
      grind
    · rw [if_neg q1, sub_full n hn x (by omega)]
      simp
      grind
  have eq1 : ∀ h, cmpD .eq (vecD (2 ^ n) (stir n s q)) (vecD (2 ^ n) (bel n ns3)) h = .ok (.bl true) h := fun h => by
    rw [ev]
    exact eq_vec
  have b5 := lc_rng (cf := cf) (own := [14]) (elt := (.tup (.cons (.tup (.cons (.var 14) .nil)) (.cons (.idx (.var 12) (.var 14)) .nil)))) (t := .nm 14) (l := .cons (.var 1) .nil) (c := (.cmp .gt (.idx (.idx (.var 12) (.var 14)) (.lit (.int 0))) (.lit (.int 0)))) (env := [some (.ref j), oI n, some (massesD n ms), some (.lst [fr 0, fr 1, fr (mkRat 1 2), fr (mkRat 1 3), fr (mkRat 3 4)]), some (fr s), some (fr t), some (massesD n ns), some (fr (1 - (1 - s) * (1 - t))), some (lvecD (2 ^ n) fun x => bel n ms x * (1 - s)), none, some (ivecD n p), some (fr ((1 - s) * sw n ms p)), some (vecD n q), none, none]) (h := g6) n (fun k => decide (0 < (q k).num)) (fun k => massD n (2 ^ k, q k)) (le_SZ (by omega)) (by simp -implicitDefEqProofs [-Int.natCast_ediv, -Int.natCast_pow, -Int.natCast_emod, b_ok, on_ok, tru_bl, tru_int, tru_non, look_0, look_s, v_var, v_lit, v_glb, v_pow, v_neg, v_not, v_bin, v_cmp, v_chn, v_and, v_or, v_ife, v_tup, v_lst, v_cel, v_idx, v_slc, v_call, v_ck, v_blt, v_ex, v_mth, v_isi, v_isN, v_isnN, l_nil, l_cons, o_nil, o_cons, s_asg, s_par, s_exp, s_rtn, s_ite, s_nil, s_pas, s_seq, thn_nx, thn_rt, end_rt, end_nx, bind_nm, bind_tp, binds_nil, binds_cons, cond_nil, Lit.d, ret_ap, neg_int, bin_add, bin_sub, cmp_le, cmp_lt, cmp_gt, cmp_ge, cmp_eq, cmp_ne, idx_fr0, idx_fr1, blt_int, fin_bl, fin_int, fin_non, fin_fr]) (fun k hk => by
    have ix := fun h => idx_vec (N := n) (v := q) (h := h) hk
    have lk : D.tup [.int (k : Int)] = lotD n (2 ^ k) := by
      show _ = tI (lotL n (2 ^ k))
      rw [lot_single n hn k hk]
      rfl
    refine ⟨_, rfl, ?_, fun _ => ?_⟩
    · rw [cond_of (by simp)]
      simp -implicitDefEqProofs [-Int.natCast_ediv, -Int.natCast_pow, -Int.natCast_emod, b_ok, on_ok, tru_bl, tru_int, tru_non, look_0, look_s, v_var, v_lit, v_glb, v_pow, v_neg, v_not, v_bin, v_cmp, v_chn, v_and, v_or, v_ife, v_tup, v_lst, v_cel, v_idx, v_slc, v_call, v_ck, v_blt, v_ex, v_mth, v_isi, v_isN, v_isnN, l_nil, l_cons, o_nil, o_cons, s_asg, s_par, s_exp, s_rtn, s_ite, s_nil, s_pas, s_seq, thn_nx, thn_rt, end_rt, end_nx, bind_nm, bind_tp, binds_nil, binds_cons, cond_nil, Lit.d, ret_ap, neg_int, bin_add, bin_sub, cmp_le, cmp_lt, cmp_gt, cmp_ge, cmp_eq, cmp_ne, idx_fr0, idx_fr1, blt_int, fin_bl, fin_int, fin_non, fin_fr, wipeE, ix]
    · simp -implicitDefEqProofs [-Int.natCast_ediv, -Int.natCast_pow, -Int.natCast_emod, b_ok, on_ok, tru_bl, tru_int, tru_non, look_0, look_s, v_var, v_lit, v_glb, v_pow, v_neg, v_not, v_bin, v_cmp, v_chn, v_and, v_or, v_ife, v_tup, v_lst, v_cel, v_idx, v_slc, v_call, v_ck, v_blt, v_ex, v_mth, v_isi, v_isN, v_isnN, l_nil, l_cons, o_nil, o_cons, s_asg, s_par, s_exp, s_rtn, s_ite, s_nil, s_pas, s_seq, thn_nx, thn_rt, end_rt, end_nx, bind_nm, bind_tp, binds_nil, binds_cons, cond_nil, Lit.d, ret_ap, neg_int, bin_add, bin_sub, cmp_le, cmp_lt, cmp_gt, cmp_ge, cmp_eq, cmp_ne, idx_fr0, idx_fr1, blt_int, fin_bl, fin_int, fin_non, fin_fr, wipeE, ix, s1, s2, lk]
      rfl)
  have tp : ∀ h, bltD .tuple [.lst (((List.range n).filter fun k => decide (0 < (q k).num)).map fun k => massD n (2 ^ k, q k))] h = .ok (massesD n (pmL q n)) h := fun h => by
    unfold massesD pmL
    rw [List.map_map]
    rfl
  have tr := fun h => trg_ok (h := h) hn
  have nsame : ∀ h, cmpD .ne (.tup [.tup [lotD n (2 ^ n - 1), fr 1]]) (.tup [.tup [lotD n (2 ^ n - 1), fr 1]]) h = .ok (.bl false) h := fun h => same_masses (n := n) (ms := [(2 ^ n - 1, 1)])
  refine ⟨g6.take h.length, ?_⟩
  rw [run_eq ⟨rfl, by simp [l_right]⟩]
  simp -implicitDefEqProofs [l_right, -Int.natCast_ediv, -Int.natCast_pow, -Int.natCast_emod, b_ok, on_ok, tru_bl, tru_int, tru_non, look_0, look_s, v_var, v_lit, v_glb, v_pow, v_neg, v_not, v_bin, v_cmp, v_chn, v_and, v_or, v_ife, v_tup, v_lst, v_cel, v_idx, v_slc, v_call, v_ck, v_blt, v_ex, v_mth, v_isi, v_isN, v_isnN, l_nil, l_cons, o_nil, o_cons, s_asg, s_par, s_exp, s_rtn, s_ite, s_nil, s_pas, s_seq, thn_nx, thn_rt, end_rt, end_nx, bind_nm, bind_tp, binds_nil, binds_cons, cond_nil, Lit.d, ret_ap, neg_int, bin_add, bin_sub, cmp_le, cmp_lt, cmp_gt, cmp_ge, cmp_eq, cmp_ne, idx_fr0, idx_fr1, blt_int, fin_bl, fin_int, fin_non, fin_fr, s4, s5, s2, s1, z0, z1, z2, z3, z4, e1, e2, e3, e4, f1, f2, f3, f4, same_masses, pickL, tr, nsame, r1, r2, t1', r3, f5, f6, b3, b2, ls, sl1, sl2, ne1, e5, u1, t3, u2, mn, fr_int1, t4, pl, same_fr, e6, b5, tp, sb, f7, b4, eq1]
  simp [fin, plain]
end
end K36

set_option maxHeartbeats 0
namespace Lw
open PySem L2 Mn
def top (i : Nat) : Stmt := PySem.Challenge.pw_softchances_k36_whole_masses_weakened.main.body.getD i (.Pass ⟨0, 0, 0, 0⟩)
def f0 : FnD := ⟨"law", ["_law_script", "_law_turn"], ["_law_script"], top 63, ⟨2, 1, (.seq (.rtn (.blt .all (.cons (.lc [1] (.call 1 (.cons (.call 45 (.cons (.var 0) (.cons (.var 1) .nil))) .nil)) (.nm 1) .rng (.cons (.blt .max2 (.cons (.lit (.int 2)) (.cons (.blt .min2 (.cons (.blt .len (.cons (.var 0) .nil)) (.cons (.lit (.int 3)) .nil))) .nil))) .nil) .nil) .nil)))
      .nil), false⟩⟩
def f1 : FnD := ⟨"_law_right", ["_law_jar_here", "_law_size", "_law_masses_here", "_law_shares", "_law_one", "_law_two", "_law_told", "_law_both", "_law_due_here", "_law_each", "_law_payoff_here", "_law_near", "_law_chance_here", "_law_plain", "_law_k"], ["_law_jar_here"], top 62, ⟨15, 1, (.seq (.asg (.nm 1) (.call 2 (.cons (.var 0) (.cons (.lst (.cons (.lit (.int 2)) (.cons (.lit (.int 3)) (.cons (.lit (.int 3)) (.cons (.lit (.int 4)) .nil))))) .nil))))
      (.seq (.par 2 3 (.cons (.call 28 (.cons (.var 0) (.cons (.var 1) .nil))) (.cons (.lst (.cons (.tup (.cons (.lit (.int 0)) (.cons (.lit (.int 1)) .nil))) (.cons (.tup (.cons (.lit (.int 1)) (.cons (.lit (.int 1)) .nil))) (.cons (.tup (.cons (.lit (.int 1)) (.cons (.lit (.int 2)) .nil))) (.cons (.tup (.cons (.lit (.int 1)) (.cons (.lit (.int 3)) .nil))) (.cons (.tup (.cons (.lit (.int 3)) (.cons (.lit (.int 4)) .nil))) .nil)))))) .nil)))
      (.seq (.asg (.tp (.cons (.nm 4) (.cons (.nm 5) .nil))) (.tup (.cons (.call 2 (.cons (.var 0) (.cons (.var 3) .nil))) (.cons (.call 2 (.cons (.var 0) (.cons (.var 3) .nil))) .nil))))
      (.seq (.asg (.nm 6) (.call 4 (.cons (.var 1) (.cons (.var 2) (.cons (.var 4) .nil)))))
      (.seq (.ite (.or (.cmp .ne (.var 6) (.call 44 (.cons (.var 1) (.cons (.var 2) (.cons (.var 4) .nil))))) (.cmp .ne (.ck 4 [2, 1, 0] (.cons (.var 4) (.cons (.var 2) (.cons (.var 1) .nil)))) (.var 6))) (.seq (.rtn (.lit (.bl false)))
      .nil) .nil)
      (.seq (.ite (.cmp .ne (.call 4 (.cons (.var 1) (.cons (.var 2) (.cons (.tup (.cons (.lit (.int 0)) (.cons (.lit (.int 1)) .nil))) .nil)))) (.var 2)) (.seq (.rtn (.lit (.bl false)))
      .nil) .nil)
      (.seq (.ite (.cmp .ne (.call 4 (.cons (.var 1) (.cons (.var 2) (.cons (.tup (.cons (.lit (.int 1)) (.cons (.lit (.int 1)) .nil))) .nil)))) (.tup (.cons (.tup (.cons (.ex .trg (.cons (.var 1) .nil)) (.cons (.tup (.cons (.lit (.int 1)) (.cons (.lit (.int 1)) .nil))) .nil))) .nil))) (.seq (.rtn (.lit (.bl false)))
      .nil) .nil)
      (.seq (.asg (.nm 7) (.call 20 (.cons (.call 26 (.cons (.call 20 (.cons (.var 4) .nil)) (.cons (.call 20 (.cons (.var 5) .nil)) .nil))) .nil)))
      (.seq (.ite (.cmp .ne (.call 4 (.cons (.var 1) (.cons (.var 6) (.cons (.var 5) .nil)))) (.call 4 (.cons (.var 1) (.cons (.var 2) (.cons (.var 7) .nil))))) (.seq (.rtn (.lit (.bl false)))
      .nil) .nil)
      (.seq (.asg (.nm 8) (.lc [9] (.call 26 (.cons (.var 9) (.cons (.call 20 (.cons (.var 4) .nil)) .nil))) (.nm 9) .seq (.cons (.call 41 (.cons (.var 1) (.cons (.var 2) .nil))) .nil) .nil))
      (.seq (.ite (.cmp .ne (.slc (.blt .list (.cons (.call 41 (.cons (.var 1) (.cons (.var 6) .nil))) .nil)) .nil (.cons (.neg (.lit (.int 1))) .nil)) (.slc (.var 8) .nil (.cons (.neg (.lit (.int 1))) .nil))) (.seq (.rtn (.lit (.bl false)))
      .nil) .nil)
      (.seq (.asg (.nm 10) (.call 25 (.cons (.var 0) (.cons (.var 1) (.cons (.lit (.int 5)) .nil)))))
      (.seq (.asg (.nm 11) (.call 26 (.cons (.call 20 (.cons (.var 4) .nil)) (.cons (.call 30 (.cons (.var 1) (.cons (.var 2) (.cons (.var 10) .nil)))) .nil))))
      (.seq (.ite (.cmp .ne (.call 30 (.cons (.var 1) (.cons (.var 6) (.cons (.var 10) .nil)))) (.call 21 (.cons (.var 11) (.cons (.call 26 (.cons (.var 4) (.cons (.tup (.cons (.ex .min1 (.cons (.var 10) .nil)) (.cons (.lit (.int 1)) .nil))) .nil))) .nil)))) (.seq (.rtn (.lit (.bl false)))
      .nil) .nil)
      (.seq (.asg (.nm 12) (.call 27 (.cons (.var 0) (.cons (.var 1) .nil))))
      (.seq (.asg (.nm 13) (.blt .tuple (.cons (.lc [14] (.tup (.cons (.tup (.cons (.var 14) .nil)) (.cons (.idx (.var 12) (.var 14)) .nil))) (.nm 14) .rng (.cons (.var 1) .nil) (.cmp .gt (.idx (.idx (.var 12) (.var 14)) (.lit (.int 0))) (.lit (.int 0)))) .nil)))
      (.seq (.rtn (.cmp .eq (.call 34 (.cons (.var 12) (.cons (.var 4) .nil))) (.call 41 (.cons (.var 1) (.cons (.call 4 (.cons (.var 1) (.cons (.var 13) (.cons (.var 4) .nil)))) .nil)))))
      .nil))))))))))))))))), false⟩⟩
def f2 : FnD := ⟨"_law_one_of", ["_law_jar_here", "_law_some"], ["_law_jar_here", "_law_some"], top 50, ⟨2, 2, (.seq (.rtn (.idx (.var 1) (.call 3 (.cons (.var 0) (.cons (.blt .len (.cons (.var 1) .nil)) .nil)))))
      .nil), false⟩⟩
def f3 : FnD := ⟨"_law_dip", ["_law_jar_here", "_law_top", "_law_digit"], ["_law_jar_here", "_law_top"], top 49, ⟨3, 2, (.seq (.sti (.var 0) (.lit (.int 2)) (.bin .add (.idx (.var 0) (.lit (.int 2))) (.lit (.int 1))))
      (.seq (.ite (.cmp .gt (.idx (.var 0) (.lit (.int 0))) (.lit (.int 0))) (.seq (.unp (.var 0) (.lit (.int 0)) 2 (.blt .divmod (.cons (.idx (.var 0) (.lit (.int 0))) (.cons (.var 1) .nil))))
      (.seq (.rtn (.var 2))
      .nil)) .nil)
      (.seq (.sti (.var 0) (.lit (.int 1)) (.bin .mod (.blt .int (.cons (.bin .add (.bin .mul (.idx (.var 0) (.lit (.int 1))) (.lit (.int 48271))) (.bin .mul (.lit (.int 30011)) (.idx (.var 0) (.lit (.int 2))))) .nil)) (.lit (.int 2147483399))))
      (.seq (.rtn (.bin .mod (.blt .int (.cons (.bin .fdv (.idx (.var 0) (.lit (.int 1))) (.lit (.int 512))) .nil)) (.var 1)))
      .nil)))), false⟩⟩
def f4 : FnD := ⟨"weakened", ["outcomes", "masses", "share", "whole", "left", "found", "lot", "number"], ["outcomes", "masses", "share"], top 42, ⟨8, 3, (.seq (.exp (.call 5 (.cons (.var 0) (.cons (.var 1) .nil))))
      (.seq (.ite (.not (.call 15 (.cons (.var 2) .nil))) (.seq .rai
      .nil) .nil)
      (.seq (.par 3 4 (.cons (.ex .trg (.cons (.var 0) .nil)) (.cons (.call 18 (.cons (.tup (.cons (.lit (.int 1)) (.cons (.lit (.int 1)) .nil))) (.cons (.var 2) .nil))) .nil)))
      (.seq (.asg (.nm 5) (.ex .d1 (.cons (.var 3) (.cons (.var 2) .nil))))
      (.seq (.for_ (.tp (.cons (.nm 6) (.cons (.nm 7) .nil))) .seq (.cons (.var 1) .nil) (.seq (.dst (.var 5) (.var 6) (.call 10 (.cons (.mth .get (.var 5) (.cons (.var 6) (.cons (.tup (.cons (.lit (.int 0)) (.cons (.lit (.int 1)) .nil))) .nil))) (.cons (.call 19 (.cons (.var 7) (.cons (.var 4) .nil))) .nil))))
      .nil))
      (.seq (.rtn (.blt .tuple (.cons (.ex .srt (.cons (.lk 5 (.lc [6, 7] (.tup (.cons (.var 6) (.cons (.var 7) .nil))) (.tp (.cons (.nm 6) (.cons (.nm 7) .nil))) .items (.cons (.var 5) .nil) (.cmp .gt (.idx (.var 7) (.lit (.int 0))) (.lit (.int 0))))) .nil)) .nil)))
      .nil)))))), false⟩⟩
def f5 : FnD := ⟨"check_asked", ["outcomes", "masses"], ["outcomes", "masses"], top 37, ⟨2, 2, (.seq (.exp (.call 6 (.cons (.var 0) .nil)))
      (.seq (.exp (.call 9 (.cons (.var 0) (.cons (.var 1) .nil))))
      .nil)), false⟩⟩
def f6 : FnD := ⟨"check_outcomes", ["outcomes"], ["outcomes"], top 34, ⟨1, 1, (.seq (.ite (.not (.call 7 (.cons (.var 0) (.cons (.lit (.int 2)) (.cons (.glb "MOST_LISTED" (.int 5)) .nil))))) (.seq .rai
      .nil) .nil)
      .nil), false⟩⟩
def f7 : FnD := ⟨"is_between", ["value", "low", "high"], ["value", "low", "high"], top 9, ⟨3, 3, (.seq (.rtn (.and (.call 8 (.cons (.var 0) .nil)) (.chn .le .le (.var 1) (.var 0) (.var 2))))
      .nil), false⟩⟩
def f8 : FnD := ⟨"is_integer", ["value"], ["value"], top 8, ⟨1, 1, (.seq (.rtn (.and (.isi (.var 0) .int) (.not (.isi (.var 0) .bool))))
      .nil), false⟩⟩
def f9 : FnD := ⟨"check_masses", ["outcomes", "masses", "total", "index", "mass"], ["outcomes", "masses"], top 36, ⟨5, 2, (.seq (.ite (.not (.isi (.var 1) .tuple)) (.seq .rai
      .nil) .nil)
      (.seq (.asg (.nm 2) (.tup (.cons (.lit (.int 0)) (.cons (.lit (.int 1)) .nil))))
      (.seq (.for_ (.tp (.cons (.nm 3) (.cons (.nm 4) .nil))) .enum (.cons (.var 1) .nil) (.seq (.ite (.or (.not (.call 14 (.cons (.var 4) (.cons (.var 0) .nil)))) (.and (.cmp .gt (.var 3) (.lit (.int 0))) (.cmp .le (.idx (.var 4) (.lit (.int 0))) (.idx (.idx (.var 1) (.bin .sub (.var 3) (.lit (.int 1)))) (.lit (.int 0)))))) (.seq .rai
      .nil) .nil)
      (.seq (.asg (.nm 2) (.call 10 (.cons (.var 2) (.cons (.idx (.var 4) (.lit (.int 1))) .nil))))
      (.seq (.ite (.call 13 (.cons (.tup (.cons (.lit (.int 1)) (.cons (.lit (.int 1)) .nil))) (.cons (.var 2) .nil))) (.seq .rai
      .nil) .nil)
      .nil))))
      (.seq (.ite (.cmp .ne (.var 2) (.tup (.cons (.lit (.int 1)) (.cons (.lit (.int 1)) .nil)))) (.seq .rai
      .nil) .nil)
      .nil)))), false⟩⟩
def f10 : FnD := ⟨"plus", ["one", "other"], ["one", "other"], top 15, ⟨2, 2, (.seq (.rtn (.call 11 (.cons (.bin .add (.bin .mul (.idx (.var 0) (.lit (.int 0))) (.idx (.var 1) (.lit (.int 1)))) (.bin .mul (.idx (.var 1) (.lit (.int 0))) (.idx (.var 0) (.lit (.int 1))))) (.cons (.bin .mul (.idx (.var 0) (.lit (.int 1))) (.idx (.var 1) (.lit (.int 1)))) .nil))))
      .nil), false⟩⟩
def f11 : FnD := ⟨"lowest", ["top", "bottom", "common"], ["top", "bottom"], top 14, ⟨3, 2, (.seq (.asg (.nm 2) (.call 12 (.cons (.var 0) (.cons (.var 1) .nil))))
      (.seq (.rtn (.tup (.cons (.bin .fdv (.var 0) (.var 2)) (.cons (.bin .fdv (.var 1) (.var 2)) .nil))))
      .nil)), false⟩⟩
def f12 : FnD := ⟨"common_divisor", ["one", "other"], ["one", "other"], top 10, ⟨2, 2, (.seq (.par 0 1 (.cons (.blt .abs (.cons (.var 0) .nil)) (.cons (.blt .abs (.cons (.var 1) .nil)) .nil)))
      (.seq (.whl (.cmp .ne (.var 1) (.lit (.int 0))) (.seq (.par 0 1 (.cons (.var 1) (.cons (.bin .mod (.var 0) (.var 1)) .nil)))
      .nil))
      (.seq (.rtn (.var 0))
      .nil))), false⟩⟩
def f13 : FnD := ⟨"is_less", ["one", "other"], ["one", "other"], top 18, ⟨2, 2, (.seq (.rtn (.cmp .lt (.bin .mul (.idx (.var 0) (.lit (.int 0))) (.idx (.var 1) (.lit (.int 1)))) (.bin .mul (.idx (.var 1) (.lit (.int 0))) (.idx (.var 0) (.lit (.int 1))))))
      .nil), false⟩⟩
def f14 : FnD := ⟨"is_mass", ["value", "outcomes"], ["value", "outcomes"], top 35, ⟨2, 2, (.seq (.ite (.or (.not (.isi (.var 0) .tuple)) (.or (.cmp .ne (.blt .len (.cons (.var 0) .nil)) (.lit (.int 2))) (.or (.not (.call 17 (.cons (.idx (.var 0) (.lit (.int 0))) (.cons (.var 1) .nil)))) (.cmp .eq (.idx (.var 0) (.lit (.int 0))) (.tup .nil))))) (.seq (.rtn (.lit (.bl false)))
      .nil) .nil)
      (.seq (.rtn (.and (.call 15 (.cons (.idx (.var 0) (.lit (.int 1))) .nil)) (.cmp .gt (.idx (.idx (.var 0) (.lit (.int 1))) (.lit (.int 0))) (.lit (.int 0)))))
      .nil)), false⟩⟩
def f15 : FnD := ⟨"is_share", ["value"], ["value"], top 27, ⟨1, 1, (.seq (.rtn (.and (.call 16 (.cons (.var 0) (.cons (.glb "MOST_TOP" (.int 1000000000)) (.cons (.glb "MOST_BOTTOM" (.int 1000000)) .nil)))) (.chn .le .le (.lit (.int 0)) (.idx (.var 0) (.lit (.int 0))) (.idx (.var 0) (.lit (.int 1))))))
      .nil), false⟩⟩
def f16 : FnD := ⟨"is_fraction", ["value", "top", "bottom"], ["value", "top", "bottom"], top 11, ⟨3, 3, (.seq (.ite (.or (.not (.isi (.var 0) .tuple)) (.cmp .ne (.blt .len (.cons (.var 0) .nil)) (.lit (.int 2)))) (.seq (.rtn (.lit (.bl false)))
      .nil) .nil)
      (.seq (.ite (.or (.not (.call 7 (.cons (.idx (.var 0) (.lit (.int 0))) (.cons (.neg (.var 1)) (.cons (.var 1) .nil))))) (.not (.call 7 (.cons (.idx (.var 0) (.lit (.int 1))) (.cons (.lit (.int 1)) (.cons (.var 2) .nil)))))) (.seq (.rtn (.lit (.bl false)))
      .nil) .nil)
      (.seq (.rtn (.cmp .eq (.call 12 (.cons (.idx (.var 0) (.lit (.int 0))) (.cons (.idx (.var 0) (.lit (.int 1))) .nil))) (.lit (.int 1))))
      .nil))), false⟩⟩
def f17 : FnD := ⟨"is_lot", ["value", "outcomes", "part", "one", "other"], ["value", "outcomes"], top 12, ⟨5, 2, (.seq (.ite (.or (.not (.isi (.var 0) .tuple)) (.not (.blt .all (.cons (.lc [2] (.call 7 (.cons (.var 2) (.cons (.lit (.int 0)) (.cons (.bin .sub (.var 1) (.lit (.int 1))) .nil)))) (.nm 2) .seq (.cons (.var 0) .nil) .nil) .nil)))) (.seq (.rtn (.lit (.bl false)))
      .nil) .nil)
      (.seq (.rtn (.blt .all (.cons (.lc [3, 4] (.cmp .lt (.var 3) (.var 4)) (.tp (.cons (.nm 3) (.cons (.nm 4) .nil))) .zip (.cons (.var 0) (.cons (.slc (.var 0) (.cons (.lit (.int 1)) .nil) .nil) .nil)) .nil) .nil)))
      .nil)), false⟩⟩
def f18 : FnD := ⟨"minus", ["one", "other"], ["one", "other"], top 16, ⟨2, 2, (.seq (.rtn (.call 11 (.cons (.bin .sub (.bin .mul (.idx (.var 0) (.lit (.int 0))) (.idx (.var 1) (.lit (.int 1)))) (.bin .mul (.idx (.var 1) (.lit (.int 0))) (.idx (.var 0) (.lit (.int 1))))) (.cons (.bin .mul (.idx (.var 0) (.lit (.int 1))) (.idx (.var 1) (.lit (.int 1)))) .nil))))
      .nil), false⟩⟩
def f19 : FnD := ⟨"times", ["one", "other"], ["one", "other"], top 17, ⟨2, 2, (.seq (.rtn (.call 11 (.cons (.bin .mul (.idx (.var 0) (.lit (.int 0))) (.idx (.var 1) (.lit (.int 0)))) (.cons (.bin .mul (.idx (.var 0) (.lit (.int 1))) (.idx (.var 1) (.lit (.int 1)))) .nil))))
      .nil), false⟩⟩
def f20 : FnD := ⟨"_law_rest", ["_law_share"], ["_law_share"], top 60, ⟨1, 1, (.seq (.rtn (.call 21 (.cons (.tup (.cons (.lit (.int 1)) (.cons (.lit (.int 1)) .nil))) (.cons (.call 24 (.cons (.var 0) .nil)) .nil))))
      .nil), false⟩⟩
def f21 : FnD := ⟨"_law_plus", ["_law_one", "_law_two"], ["_law_one", "_law_two"], top 53, ⟨2, 2, (.seq (.rtn (.call 22 (.cons (.bin .add (.bin .mul (.idx (.var 0) (.lit (.int 0))) (.idx (.var 1) (.lit (.int 1)))) (.bin .mul (.idx (.var 1) (.lit (.int 0))) (.idx (.var 0) (.lit (.int 1))))) (.cons (.bin .mul (.idx (.var 0) (.lit (.int 1))) (.idx (.var 1) (.lit (.int 1)))) .nil))))
      .nil), false⟩⟩
def f22 : FnD := ⟨"_law_low", ["_law_top", "_law_bottom", "_law_common_here"], ["_law_top", "_law_bottom"], top 52, ⟨3, 2, (.seq (.asg (.nm 2) (.call 23 (.cons (.var 0) (.cons (.var 1) .nil))))
      (.seq (.rtn (.tup (.cons (.bin .fdv (.var 0) (.var 2)) (.cons (.bin .fdv (.var 1) (.var 2)) .nil))))
      .nil)), false⟩⟩
def f23 : FnD := ⟨"_law_common", ["_law_a", "_law_b"], ["_law_a", "_law_b"], top 51, ⟨2, 2, (.seq (.par 0 1 (.cons (.blt .abs (.cons (.var 0) .nil)) (.cons (.blt .abs (.cons (.var 1) .nil)) .nil)))
      (.seq (.whl (.cmp .gt (.var 1) (.lit (.int 0))) (.seq (.par 0 1 (.cons (.var 1) (.cons (.bin .mod (.blt .int (.cons (.var 0) .nil)) (.var 1)) .nil)))
      .nil))
      (.seq (.rtn (.var 0))
      .nil))), false⟩⟩
def f24 : FnD := ⟨"_law_minus", ["_law_one"], ["_law_one"], top 55, ⟨1, 1, (.seq (.rtn (.tup (.cons (.bin .sub (.lit (.int 0)) (.idx (.var 0) (.lit (.int 0)))) (.cons (.idx (.var 0) (.lit (.int 1))) .nil))))
      .nil), false⟩⟩
def f25 : FnD := ⟨"_law_payoff", ["_law_jar_here", "_law_size", "_law_top", "_law_k"], ["_law_jar_here", "_law_size", "_law_top"], top 56, ⟨4, 3, (.seq (.rtn (.blt .tuple (.cons (.lc [3] (.bin .sub (.call 3 (.cons (.var 0) (.cons (.bin .add (.bin .mul (.lit (.int 2)) (.var 2)) (.lit (.int 1))) .nil))) (.var 2)) (.nm 3) .rng (.cons (.var 1) .nil) .nil) .nil)))
      .nil), false⟩⟩
def f26 : FnD := ⟨"_law_times", ["_law_one", "_law_two"], ["_law_one", "_law_two"], top 54, ⟨2, 2, (.seq (.rtn (.call 22 (.cons (.bin .mul (.idx (.var 0) (.lit (.int 0))) (.idx (.var 1) (.lit (.int 0)))) (.cons (.bin .mul (.idx (.var 0) (.lit (.int 1))) (.idx (.var 1) (.lit (.int 1)))) .nil))))
      .nil), false⟩⟩
def f27 : FnD := ⟨"_law_chance", ["_law_jar_here", "_law_size", "_law_parts_here", "_law_k", "_law_whole", "_law_each"], ["_law_jar_here", "_law_size"], top 57, ⟨6, 2, (.seq (.asg (.nm 2) (.cl (.lc [3] (.call 3 (.cons (.var 0) (.cons (.lit (.int 6)) .nil))) (.nm 3) .rng (.cons (.var 1) .nil) .nil)))
      (.seq (.augs (.var 2) (.call 3 (.cons (.var 0) (.cons (.var 1) .nil))) .add (.bin .add (.lit (.int 1)) (.call 3 (.cons (.var 0) (.cons (.lit (.int 3)) .nil)))))
      (.seq (.asg (.nm 4) (.blt .sum (.cons (.var 2) .nil)))
      (.seq (.rtn (.blt .tuple (.cons (.lc [5] (.call 22 (.cons (.var 5) (.cons (.var 4) .nil))) (.nm 5) .seq (.cons (.var 2) .nil) .nil) .nil)))
      .nil)))), false⟩⟩
def f28 : FnD := ⟨"_law_masses", ["_law_jar_here", "_law_size", "_law_parts_here", "_law_turn", "_law_lot_here", "_law_whole", "_law_each"], ["_law_jar_here", "_law_size"], top 59, ⟨7, 2, (.seq (.asg (.nm 2) (.ex .dnew .nil))
      (.seq (.for_ (.nm 3) .rng (.cons (.bin .add (.lit (.int 1)) (.call 3 (.cons (.var 0) (.cons (.lit (.int 4)) .nil)))) .nil) (.seq (.asg (.nm 4) (.call 29 (.cons (.bin .add (.lit (.int 1)) (.call 3 (.cons (.var 0) (.cons (.idx (.lst (.cons (.lit (.int 1)) (.cons (.lit (.int 1)) (.cons (.lit (.int 3)) (.cons (.lit (.int 7)) (.cons (.lit (.int 15)) (.cons (.lit (.int 31)) .nil))))))) (.var 1)) .nil)))) (.cons (.var 1) .nil))))
      (.seq (.dst (.var 2) (.var 4) (.bin .add (.bin .add (.mth .get (.var 2) (.cons (.var 4) (.cons (.lit (.int 0)) .nil))) (.lit (.int 1))) (.call 3 (.cons (.var 0) (.cons (.lit (.int 3)) .nil)))))
      .nil)))
      (.seq (.asg (.nm 5) (.lk 2 (.blt .sum (.cons (.lc [6] (.ex .dix (.cons (.var 2) (.cons (.var 6) .nil))) (.nm 6) .seq (.cons (.var 2) .nil) .nil) .nil))))
      (.seq (.rtn (.blt .tuple (.cons (.lc [6] (.tup (.cons (.var 6) (.cons (.call 22 (.cons (.ex .dix (.cons (.var 2) (.cons (.var 6) .nil))) (.cons (.var 5) .nil))) .nil))) (.nm 6) .seq (.cons (.ex .srt (.cons (.var 2) .nil)) .nil) .nil) .nil)))
      .nil)))), false⟩⟩
def f29 : FnD := ⟨"_law_lot", ["_law_number_here", "_law_size", "_law_k"], ["_law_number_here", "_law_size"], top 58, ⟨3, 2, (.seq (.rtn (.blt .tuple (.cons (.lc [2] (.var 2) (.nm 2) .rng (.cons (.var 1) .nil) (.cmp .eq (.bin .mod (.blt .int (.cons (.bin .fdv (.var 0) (.idx (.lst (.cons (.lit (.int 1)) (.cons (.lit (.int 2)) (.cons (.lit (.int 4)) (.cons (.lit (.int 8)) (.cons (.lit (.int 16)) .nil)))))) (.var 2))) .nil)) (.lit (.int 2))) (.lit (.int 1)))) .nil)))
      .nil), false⟩⟩
def f30 : FnD := ⟨"sure_worth", ["outcomes", "masses", "payoff", "place", "lot", "number"], ["outcomes", "masses", "payoff"], top 41, ⟨6, 3, (.seq (.exp (.call 5 (.cons (.var 0) (.cons (.var 1) .nil))))
      (.seq (.exp (.call 31 (.cons (.var 2) (.cons (.var 0) .nil))))
      (.seq (.rtn (.call 33 (.cons (.lc [4, 5] (.call 19 (.cons (.var 5) (.cons (.tup (.cons (.ex .min1 (.cons (.lc [3] (.idx (.var 2) (.var 3)) (.nm 3) .seq (.cons (.var 4) .nil) .nil) .nil)) (.cons (.lit (.int 1)) .nil))) .nil))) (.tp (.cons (.nm 4) (.cons (.nm 5) .nil))) .seq (.cons (.var 1) .nil) .nil) .nil)))
      .nil))), false⟩⟩
def f31 : FnD := ⟨"check_payoff", ["value", "outcomes"], ["value", "outcomes"], top 26, ⟨2, 2, (.seq (.ite (.not (.call 32 (.cons (.var 0) (.cons (.var 1) .nil)))) (.seq .rai
      .nil) .nil)
      .nil), false⟩⟩
def f32 : FnD := ⟨"is_payoff", ["value", "outcomes", "number"], ["value", "outcomes"], top 25, ⟨3, 2, (.seq (.ite (.or (.not (.isi (.var 0) .tuple)) (.cmp .ne (.blt .len (.cons (.var 0) .nil)) (.var 1))) (.seq (.rtn (.lit (.bl false)))
      .nil) .nil)
      (.seq (.rtn (.blt .all (.cons (.lc [2] (.call 7 (.cons (.var 2) (.cons (.neg (.glb "MOST_NUMBER" (.int 1000))) (.cons (.glb "MOST_NUMBER" (.int 1000)) .nil)))) (.nm 2) .seq (.cons (.var 0) .nil) .nil) .nil)))
      .nil)), false⟩⟩
def f33 : FnD := ⟨"added", ["some", "total", "one"], ["some"], top 19, ⟨3, 1, (.seq (.asg (.nm 1) (.tup (.cons (.lit (.int 0)) (.cons (.lit (.int 1)) .nil))))
      (.seq (.for_ (.nm 2) .seq (.cons (.var 0) .nil) (.seq (.asg (.nm 1) (.call 10 (.cons (.var 1) (.cons (.var 2) .nil))))
      .nil))
      (.seq (.rtn (.var 1))
      .nil))), false⟩⟩
def f34 : FnD := ⟨"stirred_bounds", ["chance", "share", "left", "found", "lot"], ["chance", "share"], top 46, ⟨5, 2, (.seq (.exp (.call 35 (.cons (.var 0) (.cons (.var 1) .nil))))
      (.seq (.asg (.nm 2) (.call 18 (.cons (.tup (.cons (.lit (.int 1)) (.cons (.lit (.int 1)) .nil))) (.cons (.var 1) .nil))))
      (.seq (.asg (.nm 3) (.lc [4] (.call 19 (.cons (.var 2) (.cons (.call 37 (.cons (.var 0) (.cons (.var 4) .nil))) .nil))) (.nm 4) .seq (.cons (.call 38 (.cons (.blt .len (.cons (.var 0) .nil)) .nil)) .nil) .nil))
      (.seq (.rtn (.mth .tst (.slc (.var 3) .nil (.cons (.neg (.lit (.int 1))) .nil)) (.cons (.tup (.cons (.lit (.int 1)) (.cons (.lit (.int 1)) .nil))) .nil)))
      .nil)))), false⟩⟩
def f35 : FnD := ⟨"check_shape", ["chance", "share"], ["chance", "share"], top 44, ⟨2, 2, (.seq (.ite (.or (.not (.isi (.var 0) .tuple)) (.not (.chn .le .le (.lit (.int 2)) (.blt .len (.cons (.var 0) .nil)) (.glb "MOST_LISTED" (.int 5))))) (.seq .rai
      .nil) .nil)
      (.seq (.exp (.call 36 (.cons (.var 0) (.cons (.blt .len (.cons (.var 0) .nil)) .nil))))
      (.seq (.ite (.not (.call 15 (.cons (.var 1) .nil))) (.seq .rai
      .nil) .nil)
      .nil))), false⟩⟩
def f36 : FnD := ⟨"check_chance", ["value", "outcomes", "total", "index", "part"], ["value", "outcomes"], top 28, ⟨5, 2, (.seq (.ite (.or (.not (.isi (.var 0) .tuple)) (.cmp .ne (.blt .len (.cons (.var 0) .nil)) (.var 1))) (.seq .rai
      .nil) .nil)
      (.seq (.asg (.nm 2) (.tup (.cons (.lit (.int 0)) (.cons (.lit (.int 1)) .nil))))
      (.seq (.for_ (.tp (.cons (.nm 3) (.cons (.nm 4) .nil))) .enum (.cons (.var 0) .nil) (.seq (.ite (.not (.call 15 (.cons (.var 4) .nil))) (.seq .rai
      .nil) .nil)
      (.seq (.asg (.nm 2) (.call 10 (.cons (.var 2) (.cons (.var 4) .nil))))
      (.seq (.ite (.call 13 (.cons (.tup (.cons (.lit (.int 1)) (.cons (.lit (.int 1)) .nil))) (.cons (.var 2) .nil))) (.seq .rai
      .nil) .nil)
      .nil))))
      (.seq (.ite (.cmp .ne (.var 2) (.tup (.cons (.lit (.int 1)) (.cons (.lit (.int 1)) .nil)))) (.seq .rai
      .nil) .nil)
      .nil)))), false⟩⟩
def f37 : FnD := ⟨"lot_chance", ["chance", "lot", "place"], ["chance", "lot"], top 45, ⟨3, 2, (.seq (.rtn (.call 33 (.cons (.lc [2] (.idx (.var 0) (.var 2)) (.nm 2) .seq (.cons (.var 1) .nil) .nil) .nil)))
      .nil), false⟩⟩
def f38 : FnD := ⟨"all_lots", ["outcomes", "index"], ["outcomes"], top 32, ⟨2, 1, (.seq (.rtn (.lc [1] (.call 39 (.cons (.var 1) (.cons (.var 0) .nil))) (.nm 1) .rng (.cons (.call 40 (.cons (.var 0) .nil)) .nil) .nil))
      .nil), false⟩⟩
def f39 : FnD := ⟨"lot_at", ["index", "outcomes", "place"], ["index", "outcomes"], top 30, ⟨3, 2, (.seq (.rtn (.blt .tuple (.cons (.lc [2] (.var 2) (.nm 2) .rng (.cons (.var 1) .nil) (.cmp .eq (.bin .mod (.bin .fdv (.var 0) (.call 40 (.cons (.var 2) .nil))) (.lit (.int 2))) (.lit (.int 1)))) .nil)))
      .nil), false⟩⟩
def f40 : FnD := ⟨"bit_of", ["place", "found", "turn"], ["place"], top 31, ⟨3, 1, (.seq (.asg (.nm 1) (.lit (.int 1)))
      (.seq (.for_ (.nm 2) .rng (.cons (.var 0) .nil) (.seq (.asg (.nm 1) (.bin .mul (.lit (.int 2)) (.var 1)))
      .nil))
      (.seq (.rtn (.var 1))
      .nil))), false⟩⟩
def f41 : FnD := ⟨"beliefs", ["outcomes", "masses", "lot"], ["outcomes", "masses"], top 40, ⟨3, 2, (.seq (.exp (.call 5 (.cons (.var 0) (.cons (.var 1) .nil))))
      (.seq (.rtn (.blt .tuple (.cons (.lc [2] (.call 42 (.cons (.var 1) (.cons (.var 2) .nil))) (.nm 2) .seq (.cons (.call 38 (.cons (.var 0) .nil)) .nil) .nil) .nil)))
      .nil)), false⟩⟩
def f42 : FnD := ⟨"belief_by", ["masses", "lot", "own", "number"], ["masses", "lot"], top 39, ⟨4, 2, (.seq (.rtn (.call 33 (.cons (.lc [2, 3] (.var 3) (.tp (.cons (.nm 2) (.cons (.nm 3) .nil))) .seq (.cons (.var 0) .nil) (.call 43 (.cons (.var 2) (.cons (.var 1) .nil)))) .nil)))
      .nil), false⟩⟩
def f43 : FnD := ⟨"is_inside", ["lot", "other", "place"], ["lot", "other"], top 38, ⟨3, 2, (.seq (.rtn (.blt .all (.cons (.lc [2] (.cmp .isin (.var 2) (.var 1)) (.nm 2) .seq (.cons (.var 0) .nil) .nil) .nil)))
      .nil), false⟩⟩
def f44 : FnD := ⟨"_law_due", ["_law_size", "_law_masses_here", "_law_share", "_law_whole", "_law_parts_here", "_law_each", "_law_part"], ["_law_size", "_law_masses_here", "_law_share"], top 61, ⟨7, 3, (.seq (.asg (.tp (.cons (.nm 3) (.cons (.nm 4) .nil))) (.tup (.cons (.ex .trg (.cons (.var 0) .nil)) (.cons (.ex .dnew .nil) .nil))))
      (.seq (.for_ (.tp (.cons (.nm 5) (.cons (.nm 6) .nil))) .seq (.cons (.var 1) .nil) (.seq (.dst (.var 4) (.var 5) (.call 26 (.cons (.var 6) (.cons (.call 20 (.cons (.var 2) .nil)) .nil))))
      .nil))
      (.seq (.dst (.var 4) (.var 3) (.call 21 (.cons (.mth .get (.var 4) (.cons (.var 3) (.cons (.tup (.cons (.lit (.int 0)) (.cons (.lit (.int 1)) .nil))) .nil))) (.cons (.var 2) .nil))))
      (.seq (.rtn (.blt .tuple (.cons (.lc [5] (.tup (.cons (.var 5) (.cons (.ex .dix (.cons (.var 4) (.cons (.var 5) .nil))) .nil))) (.nm 5) .seq (.cons (.ex .srt (.cons (.var 4) .nil)) .nil) (.cmp .gt (.idx (.ex .dix (.cons (.var 4) (.cons (.var 5) .nil))) (.lit (.int 0))) (.lit (.int 0)))) .nil)))
      .nil)))), false⟩⟩
def f45 : FnD := ⟨"_law_jar", ["_law_cells", "_law_turn", "_law_cell", "_law_mixed", "_law_each"], ["_law_cells", "_law_turn"], top 48, ⟨5, 2, (.seq (.asg (.nm 2) (.ife (.cmp .lt (.var 1) (.blt .len (.cons (.var 0) .nil))) (.idx (.var 0) (.var 1)) (.bin .add (.bin .mul (.lit (.int 53)) (.var 1)) (.lit (.int 4)))))
      (.seq (.asg (.nm 3) (.bin .add (.lit (.int 40009)) (.bin .mul (.lit (.int 9011)) (.var 1))))
      (.seq (.for_ (.nm 4) .seq (.cons (.bin .add (.slc (.var 0) .nil (.cons (.lit (.int 5)) .nil)) (.lst (.cons (.var 2) .nil))) .nil) (.seq (.asg (.nm 3) (.bin .mod (.blt .int (.cons (.bin .add (.bin .mul (.var 3) (.lit (.int 20021))) (.var 4)) .nil)) (.lit (.int 2147482951))))
      .nil))
      (.seq (.rtn (.cel (.cons (.ife (.or (.cmp .lt (.var 2) (.lit (.int 0))) (.cmp .ge (.var 2) (.pow 10 18))) (.blt .abs (.cons (.var 2) .nil)) (.lit (.int 0))) (.cons (.var 3) (.cons (.lit (.int 0)) .nil)))))
      .nil)))), true⟩⟩
def tab : List FnD := [f0, f1, f2, f3, f4, f5, f6, f7, f8, f9, f10, f11, f12, f13, f14, f15, f16, f17, f18, f19, f20, f21, f22, f23, f24, f25, f26, f27, f28, f29, f30, f31, f32, f33, f34, f35, f36, f37, f38, f39, f40, f41, f42, f43, f44, f45]
def cs : List (Str × Lit) := [("MOST_LISTED", (.int 5)), ("MOST_BOTTOM", (.int 1000000)), ("MOST_TOP", (.int 1000000000)), ("MOST_NUMBER", (.int 1000))]
abbrev RightAt (cf : Nat → List D → M D) (c : Nat) : Prop := ∀ (h : MH) (j : Nat), Jar h j 0 → ∃ h2, cf c [.ref j] h = .ok (.bl true) h2
abbrev F : Nat → Option Fn := fnOf tab
theorem stp {F : Nat → Option Fn} {k i : Nat} {f : Fn} {ds : List D} {h : MH} (hf : F i = some f) : callN F (k + 1) i ds h = runFn (callN F k) f ds h := by
  rw [callN]
  simp only [hf]
theorem a3 (k : Nat) : DipAt (callN F (k + 1)) 3 := fun j h C top J hC h0 h1 => by
  obtain ⟨r, w, e, z⟩ := dip_ok J hC h0 h1
  exact ⟨r, w, (stp rfl).trans e, z⟩
theorem a8 (k : Nat) : IntegerAt (callN F (k + 1)) 8 := fun i h => (stp rfl).trans (is_integer_ok)
theorem a12 (k : Nat) : GcdAt (callN F (k + 1)) 12 := fun a b h hb => (stp rfl).trans (gcd_ok _ hb)
theorem a13 (k : Nat) : LessAt (callN F (k + 1)) 13 := fun p q h hp hq => (stp rfl).trans (less_ok hp hq)
theorem a23 (k : Nat) : GcdAt (callN F (k + 1)) 23 := fun a b h hb => (stp rfl).trans (gcdL_ok _ hb)
theorem a24 (k : Nat) : NegAt (callN F (k + 1)) 24 := fun q h => (stp rfl).trans (l_minus_ok)
theorem a29 (k : Nat) : LLotAt (callN F (k + 1)) 29 := fun x n h hn => (stp rfl).trans (l_lot_ok hn)
theorem a40 (k : Nat) : BitAt (callN F (k + 1)) 40 := fun k h hk => (stp rfl).trans (bit_of_ok hk)
theorem a43 (k : Nat) : InsideAt (callN F (k + 1)) 43 := fun n x y h hn => (stp rfl).trans (is_inside_ok hn)
theorem a2 (k : Nat) : OneOfAt (callN F (k + 2)) 2 := fun j h C xs J hC hx hl hp => by
  obtain ⟨r, w, e, z⟩ := one_of_ok (a3 k) J hC hx hl hp
  exact ⟨r, w, (stp rfl).trans e, z⟩
theorem a7 (k : Nat) : BetweenAt (callN F (k + 2)) 7 := fun v lo hi h => (stp rfl).trans (is_between_ok (a8 k))
theorem a11 (k : Nat) : LowAt (callN F (k + 2)) 11 := fun t b h hb hb2 => (stp rfl).trans (low_ok (fun a b hab => (a12 k) a b h hab) hb hb2)
theorem a22 (k : Nat) : LowAt (callN F (k + 2)) 22 := fun t b h hb hb2 => (stp rfl).trans (low_ok (fun a b hab => (a23 k) a b h hab) hb hb2)
theorem a25 (k : Nat) : PayDrawAt (callN F (k + 2)) 25 := fun j h C n t J hC hn ht => by
  obtain ⟨r, w, e, z⟩ := l_payoff_ok (a3 k) J hC hn ht
  exact ⟨r, w, (stp rfl).trans e, z⟩
theorem a39 (k : Nat) : LotOfAt (callN F (k + 2)) 39 := fun x n h hn => (stp rfl).trans (lot_at_ok (a40 k) hn)
theorem a6 (k : Nat) : ChkOutAt (callN F (k + 3)) 6 := fun n h h2 h5 => (stp rfl).trans (check_outcomes_ok (a7 k) h2 h5)
theorem a10 (k : Nat) : PlusAt (callN F (k + 3)) 10 := fun p q h hp hq => (stp rfl).trans (plus_ok (a11 k) hp hq)
theorem a16 (k : Nat) : FractionAt (callN F (k + 3)) 16 := fun q t b h hq => (stp rfl).trans (is_fraction_ok (a7 k) (a12 (k + 1)) hq)
theorem a17 (k : Nat) : LotAt (callN F (k + 3)) 17 := fun n x h hn => (stp rfl).trans (is_lot_ok (a7 k) hn)
theorem a18 (k : Nat) : MinusAt (callN F (k + 3)) 18 := fun p q h hp hq => (stp rfl).trans (minus_ok (a11 k) hp hq)
theorem a19 (k : Nat) : TimesAt (callN F (k + 3)) 19 := fun p q h hp hq => (stp rfl).trans (times_ok (a11 k) hp hq)
theorem a21 (k : Nat) : PlusAt (callN F (k + 3)) 21 := fun p q h hp hq => (stp rfl).trans (plus_ok (a22 k) hp hq)
theorem a26 (k : Nat) : TimesAt (callN F (k + 3)) 26 := fun p q h hp hq => (stp rfl).trans (times_ok (a22 k) hp hq)
theorem a27 (k : Nat) : ChanceAt (callN F (k + 3)) 27 := fun j h C n J hC n2 n5 => by
  obtain ⟨r, w, g, e, z⟩ := l_chance_ok (a3 (k + 1)) (a22 k) J hC n2 n5
  exact ⟨r, w, g, (stp rfl).trans e, z⟩
theorem a28 (k : Nat) : DrawAt (callN F (k + 3)) 28 := fun j h C n J hC n2 n5 => by
  obtain ⟨r, w, g, e, z⟩ := l_masses_ok (a3 (k + 1)) (a29 (k + 1)) (a22 k) J hC n2 n5
  exact ⟨r, w, g, (stp rfl).trans e, z⟩
theorem a32 (k : Nat) : PayoffAt (callN F (k + 3)) 32 := fun n p h hn hp => (stp rfl).trans (is_payoff_ok (a7 k) hn hp)
theorem a38 (k : Nat) : LotsAt (callN F (k + 3)) 38 := fun n h hn => (stp rfl).trans (all_lots_ok (a39 k) (a40 (k + 1)) hn)
theorem a15 (k : Nat) : ShareAt (callN F (k + 4)) 15 := fun q h hq => (stp rfl).trans (is_share_ok (a16 k) hq)
theorem a20 (k : Nat) : RestAt (callN F (k + 4)) 20 := fun q h hq => (stp rfl).trans (l_rest_ok (a21 k) (a24 (k + 2)) hq)
theorem a31 (k : Nat) : ChkPayAt (callN F (k + 4)) 31 := fun n p h hn hp => (stp rfl).trans (check_payoff_ok (a32 k) hn hp)
theorem a33 (k : Nat) : AddedAt (callN F (k + 4)) 33 := fun ps h hp hl => (stp rfl).trans (added_ok (a10 k) hp hl)
theorem a14 (k : Nat) : MassAt (callN F (k + 5)) 14 := fun n x q h h1 h2 h3 h4 h5 h6 => (stp rfl).trans (is_mass_ok (a17 (k + 1)) (a15 k) h1 h2 h3 h4 h5 h6)
theorem a36 (k : Nat) : ChkChanceAt (callN F (k + 5)) 36 := fun n W q h hn o => (stp rfl).trans (check_chance_ok (a15 k) (a10 (k + 1)) (a13 (k + 3)) hn o)
theorem a37 (k : Nat) : LotChanceAt (callN F (k + 5)) 37 := fun n W q x h hn o => (stp rfl).trans (lot_chance_ok (a33 k) hn o)
theorem a42 (k : Nat) : BeliefByAt (callN F (k + 5)) 42 := fun n ms y h o => (stp rfl).trans (belief_by_ok (a33 k) (a43 (k + 3)) o)
theorem a44 (k : Nat) : WeakAt (callN F (k + 5)) 44 := fun n ms ns s h o on h0 h1 hd wk => (stp rfl).trans (l_due_ok (a26 (k + 1)) (a20 k) (a21 (k + 1)) o on h0 h1 hd wk)
theorem a9 (k : Nat) : ChkMassesAt (callN F (k + 6)) 9 := fun n ms h o => (stp rfl).trans (check_masses_ok (a14 k) (a10 (k + 2)) (a13 (k + 4)) o)
theorem a35 (k : Nat) : ChkShapeAt (callN F (k + 6)) 35 := fun n W q s h n2 n5 o h0 h1 hd => (stp rfl).trans (check_shape_ok (a36 k) (a15 (k + 1)) n2 n5 o h0 h1 hd)
theorem a5 (k : Nat) : AskedAt (callN F (k + 7)) 5 := fun n ms h o => (stp rfl).trans (check_asked_ok (a6 (k + 3)) (a9 k) o)
theorem a34 (k : Nat) : StirAt (callN F (k + 7)) 34 := fun n W q s h n2 n5 o h0 h1 hd => (stp rfl).trans (stirred_ok (a35 k) (a18 (k + 3)) (a19 (k + 3)) (a37 (k + 1)) (a38 (k + 3)) n2 n5 o h0 h1 hd)
theorem a4 (k : Nat) : WeakAt (callN F (k + 8)) 4 := fun n ms ns s h o on h0 h1 hd wk => (stp rfl).trans (weakened_ok (a5 k) (a15 (k + 3)) (a18 (k + 4)) (a10 (k + 4)) (a19 (k + 4)) o on h0 h1 hd wk)
theorem a30 (k : Nat) : SureAt (callN F (k + 8)) 30 := fun n ms p h o hp => (stp rfl).trans (sure_worth_ok (a5 k) (a31 (k + 3)) (a33 (k + 3)) (a19 (k + 4)) o hp)
theorem a41 (k : Nat) : BeliefsAt (callN F (k + 8)) 41 := fun n ms h o => (stp rfl).trans (beliefs_ok (a5 k) (a42 (k + 2)) (a38 (k + 4)) o)
theorem a1 (k : Nat) : RightAt (callN F (k + 9)) 1 := fun h j J => by
  obtain ⟨h2, e⟩ := K36.right_ok (a2 (k + 6)) (a28 (k + 5)) (a4 k) (a44 (k + 3)) (a20 (k + 4)) (a26 (k + 5)) (a41 k) (a25 (k + 6)) (a30 k) (a21 (k + 5)) (a27 (k + 5)) (a34 (k + 1)) J
  exact ⟨h2, (stp rfl).trans e⟩
theorem chk : tab.all (chkFn cs (nameOf tab)) = true := by decide +kernel
theorem law_true (ns : List Int) (hl : ns.length ≤ 63) : ∃ h', callN (fnOf tab) (9 + 1) 0 [.scr ns] [] = .ok (.bl true) h' := by
  obtain ⟨c, hc, hn⟩ := lawN_ok (cf := callN F 9) (ns := ns) (m := 3) (o := none) (by decide) (by decide)
  obtain ⟨h', e⟩ := law_ok (cf := callN F 9) (cf' := callN F 8) (ji := 45) (ri := 1) (n := lawN 3) (ns := ns) (c := c) hn hc (fun ds h => stp rfl) (fun h j J => a1 0 h j J) hl
  exact ⟨h', (stp rfl).trans e⟩
def loose0 : List PySem.Str := ["WrongValue", "InvalidNumber", "InvalidPayoff", "InvalidFraction", "InvalidChance", "InvalidMasses", "is_integer", "is_between", "common_divisor", "is_fraction", "is_lot", "lowest", "plus", "minus", "times", "is_less", "added", "MOST_LISTED", "MOST_NUMBER", "MOST_TOP", "MOST_BOTTOM", "is_payoff", "check_payoff", "is_share", "check_chance", "lot_at", "bit_of", "all_lots", "check_outcomes", "is_mass"]
def loose1 : List PySem.Str := ["check_masses", "check_asked", "is_inside", "belief_by", "beliefs", "sure_worth", "weakened", "check_shape", "lot_chance", "stirred_bounds", "_law_jar", "_law_dip", "_law_one_of", "_law_common", "_law_low", "_law_plus", "_law_times", "_law_minus", "_law_payoff", "_law_chance", "_law_lot", "_law_masses", "_law_rest", "_law_due", "_law_right"]
def loose : List PySem.Str := loose0 ++ loose1
def fa : List He.Fa := FAS cs tab []
def fn : List He.DefD := tab.map dOf
abbrev RR : PySem.W.OpenRow := PySem.W.OpenLaw.row PySem.Challenge.rw_softchances_k36_whole_masses_weakened
abbrev hk : PySem.W.Hook := He.hookX 4 fa fn [] [] (exOk cs)
def ob (s : PySem.W.SharedT) : He.AlX := He.obsX 4 fa fn [] [] (exOk cs) (HandSHeadRun.getT s)
theorem ob_eq (s : PySem.W.SharedT) : ob s = hk.obs s.abs := He.obsX_eq (HandSHeadRun.getT_eq s)
theorem run (w : World) : HandSHeadRun.RunEq RR (PySem.W.view RR.prog [63]) hk ob 20000 loose w :=
  PySem.W.byRow2 "special-get-raises" (P := fun w => HandSHeadRun.RunEq RR (PySem.W.view RR.prog [63]) hk ob 20000 loose w) (fun w => by
    intro os
    kernel_rfl) (fun w => by
    intro os
    kernel_rfl) w
end Lw
open PySem PySem.W PySem.Calls PyProof.Rows
theorem PySem.Challenge.cw_softchances_k36_whole_masses_weakened_holds : PySem.Challenge.rw_softchances_k36_whole_masses_weakened.Holds := by
  w_on; o_law
  refine HandSHeadRun.head_any (r := OpenLaw.row PySem.Challenge.rw_softchances_k36_whole_masses_weakened) (q := view (OpenLaw.row PySem.Challenge.rw_softchances_k36_whole_masses_weakened).prog [63]) (H := Lw.hk) (ob := Lw.ob) (M := 20000) (loose := Lw.loose) (d := HandSHeadRun.topDef (OpenLaw.row PySem.Challenge.rw_softchances_k36_whole_masses_weakened).prog 63) (kwd := []) Lw.ob_eq
    (by kernel_rfl) (fun s => by kernel_rfl) Lw.run (by kernel_rfl) (by kernel_rfl) (by kernel_rfl) (by rfl) (by first | assumption | decide +kernel) (by decide +kernel) ⟨rfl, rfl, rfl, rfl, rfl, by decide +kernel⟩ ?hw ?hc
  case hw => w_witness2
  case hc =>
    refine Mn.walk_w (l := PySem.Challenge.rw_softchances_k36_whole_masses_weakened) (n := 63) (k := 10) (x := "_law_script") rfl (by decide) (by kernel_rfl) ⟨rfl, by decide, by decide⟩ ?F
    intro w mg fa h Y G hmg0
    obtain ⟨K, KX, S⟩ := Y
    have hmg : mg ("law" : PySem.Str) = some (.ref fa) := by
      have e : (HandSHeadRun.topDef (OpenLaw.row PySem.Challenge.rw_softchances_k36_whole_masses_weakened).prog 63).name = ("law" : PySem.Str) := by kernel_rfl
      rw [← e]
      exact hmg0
    exact ⟨K, KX, Mn.law_at (l := PySem.Challenge.rw_softchances_k36_whole_masses_weakened) (k := 9) (i := 0) (d := Lw.f0) S (by decide) (fun z => z) KX G Lw.chk rfl rfl hmg ⟨K, fun _ => 0, fun _ => []⟩ rfl fun ns hl _ => Lw.law_true ns hl⟩

