import PyProof.Rows.All
import Wide.All
import OpenK.AllK
import Wide.FinOn
import HandS.ForMost
import HandS.Nested
import HandS.Gcd
import HandS.Wide
import HandS.TupMul
import HandS.Deep
import HandS.IsInst
import HandS.WordsDict
import HandS.Style
import HandS.SortInts
import HandS.TupLen
import PyProof.TupleCall
import KE.KDictPairs
import HandS.Lambda
import HandS.Zip
import KE.GoesMore
import HandS.DictComp
import HandS.Conv
import HandS.HeadWalk
import HandS.Codes
import HandS.Head3
import HandS.HeadHook1
import PySem.Challenge.RW_wearloads_k74_whole_works_that_strain_mo
set_option Elab.async false
set_option linter.all false
set_option maxRecDepth 100000
namespace Ev
open PySem PySem.Spec PyProof.Rows L2
abbrev D := PySem.PyData
mutual
/-- what a slot holds: data; a list of one's own; a list that came by a parameter; the script; a function -/
inductive SV where
  | dat (d : D) | own (ds : List D) | par (ds : List D) | ro (ns : List Int) | fn (F : FV) | mk
/-- a def of the text by its name; a function made in a def, with what it captured -/
inductive FV where
  | glob (f : Str) | clo (id : Nat) (caps : List SV)
end
abbrev Env := List (Option SV)
/-- a value; a list that nobody else holds -/
inductive EV where
  | dat (d : D) | fresh (ds : List D)
def EV.frz : EV → D
  | .dat d => d
  | .fresh ds => .list ds
inductive Arg where
  | dat (d : D) | par (ds : List D) | ro (ns : List Int) | fn (F : FV)
/-- the end of an expression -/
inductive Out (α : Type) where
  | ok (a : α) (ρ : Env) | exc (c : Str) (x : D) (ρ : Env) | bad
@[simp] def Out.bind {α β : Type} : Out α → (α → Env → Out β) → Out β
  | .ok a ρ, f => f a ρ
  | .exc c x ρ, _ => .exc c x ρ
  | .bad, _ => .bad
@[simp] def Out.frz : Out EV → Out D
  | .ok a ρ => .ok a.frz ρ
  | .exc c x ρ => .exc c x ρ
  | .bad => .bad
@[simp] def Out.opt {α : Type} (ρ : Env) : Option α → Out α
  | some a => .ok a ρ
  | none => .bad
/-- the end of a call: what it gives, its arguments as they stand then -/
inductive Res where
  | ok (r : EV) (as : List Arg) | exc (c : Str) (x : D) (as : List Arg) | bad
/-- the end of a statement -/
inductive Fl where
  | nx (ρ : Env) | rt (r : EV) (ρ : Env) | bk (ρ : Env) | ct (ρ : Env) | exc (c : Str) (x : D) (ρ : Env) | bad
@[simp] def Out.thenF {α : Type} : Out α → (α → Env → Fl) → Fl
  | .ok a ρ, f => f a ρ
  | .exc c x ρ, _ => .exc c x ρ
  | .bad, _ => .bad
@[simp] def Fl.thenF : Fl → (Env → Fl) → Fl
  | .nx ρ, f => f ρ
  | r, _ => r

/-- targets: a name's slot; a tuple; a place (written) of a list in a slot -/
inductive Tg where
  | nm (i : Nat) | tup (ts : List Tg) | at (i : Nat) (k : Int)
mutual
inductive E where
  | lit (d : D)
  | gc (x : Str) (d : D)
  | var (i : Nat)
  | mov (i : Nat)
  | bin (op : Operator) (a b : E)
  | cmp (op : CmpOp) (a b : E)
  | cmp2 (op op' : CmpOp) (a b c : E)
  | neg (a : E)
  | not (a : E)
  | and (a b : E)
  | or (a b : E)
  | ite (c a b : E)
  | tup (es : List E)
  | lst (es : List E)
  | cat (own : Bool) (bs : List Bool) (es : List E)
  | ix (a b : E)
  | ixv (i : Nat) (b : E)
  | slc (a lo hi : E)
  | slv (i : Nat) (lo hi : E)
  | rev (a : E)
  | lenv (i : Nat)
  | isi (a : E) (c : String)
  | blt (id : String) (es : List E)
  | mth (m : String) (o : E) (es : List E)
  | mut (m : String) (i : Nat) (es : List E)
  | call (f : Str) (as : List AE) (ks : List Str) (perm : List Nat)
  | callv (i : Nat) (as : List AE)
  | call1 (f : Str) (e : E)
  | lc (elt : E) (tg : Tg) (it : It) (cs : List E) (vs : List Nat)
  | lc2 (elt : E) (tg : Tg) (it : It) (cs : List E) (tg1 : Tg) (it1 : It) (cs1 : List E) (vs vs1 : List Nat)
  | dc (k v : E) (tg : Tg) (it : It) (vs : List Nat)
  | ofit (b : Bool) (it : It)
  | addv (i : Nat) (e : E)
inductive AE where
  | d (e : E) | mv (i : Nat) | fg (f : Str) | fv (i : Nat) | lam (id : Nat) (caps : List Nat) | made (i id : Nat) (caps : List Nat)
inductive It where
  | seq (e : E) | rng (a b : E) (two : Bool) | enum (e : E) | zip (a b : E) | items (e : E)
end
inductive S where
  | asg (tg : Tg) (e : E)
  | asgO (i : Nat) (e : E)
  | parl (is : List (Nat × Bool)) (es : List E)
  | setx (i : Nat) (k e : E)
  | expr (e : E)
  | ret (e : E)
  | ite (c : E) (a b : List S)
  | for (tg : Tg) (it : It) (body : List S)
  | while (c : E) (body : List S)
  | raise (c : Str) (e : Option E)
  | defn (i : Nat)
  | pass
  | brk
  | cont
  | forget (vs : List Nat)

/-! ### values -/
def mulOk (i j : Int) : Bool := decide (i.natAbs.log2 + j.natAbs.log2 < 1000000)
def divOk (j : Int) : Bool := decide (0 < j) && decide (j.natAbs.log2 < 9000)
def binD : Operator → D → D → Option EV
  | .Add, .int i, .int j => some (.dat (.int (i + j)))
  | .Add, .str x, .str y => if x.length + y.length ≤ sizeLine then some (.dat (.str (x ++ y))) else none
  | .Add, .tuple xs, .tuple ys => if xs.length + ys.length ≤ sizeLine then some (.dat (.tuple (xs ++ ys))) else none
  | .Add, .list xs, .list ys => if xs.length + ys.length ≤ sizeLine then some (.fresh (xs ++ ys)) else none
  | .Sub, .int i, .int j => some (.dat (.int (i - j)))
  | .Mult, .int i, .int j => if mulOk i j then some (.dat (.int (i * j))) else none
  | .Mult, .tuple xs, .int k => if xs.isEmpty = false ∧ 2 ≤ k ∧ k ≤ 1000 ∧ xs.length ≤ 1000 then some (.dat (.tuple (List.replicate k.toNat xs).flatten)) else none
  | .Mult, .list xs, .int k => if 0 ≤ k ∧ k ≤ 1000 ∧ xs.length ≤ 1000 then some (.fresh (List.replicate k.toNat xs).flatten) else none
  | .FloorDiv, .int i, .int j => if divOk j then some (.dat (.int (i / j))) else none
  | .Mod, .int i, .int j => if 0 < j then some (.dat (.int (i % j))) else none
  | .Pow, .int i, .int j => if 0 ≤ j ∧ j ≤ 1000000 ∧ i.natAbs < 2 ^ 64 then some (.dat (.int (i ^ j.toNat))) else none
  | _, _, _ => none
def cmpD : CmpOp → D → D → Option Bool
  | .Eq, x, y => if SeqAt.shaped x && SeqAt.shaped y then some (PyData.eqv x y) else none
  | .NotEq, x, y => if SeqAt.shaped x && SeqAt.shaped y then some (!PyData.eqv x y) else none
  | .Lt, .int i, .int j => some (decide (i < j))
  | .LtE, .int i, .int j => some (decide (i ≤ j))
  | .Gt, .int i, .int j => some (decide (j < i))
  | .GtE, .int i, .int j => some (decide (j ≤ i))
  | .Lt, .str x, .str y => some (decide (x.cps.toList < y.cps.toList))
  | .Is, x, .none => some (match x with | .none => true | _ => false)
  | .IsNot, x, .none => some (match x with | .none => false | _ => true)
  | .Is, .bool a, .bool b => some (decide (a = b))
  | .IsNot, .bool a, .bool b => some (!decide (a = b))
  | .In, .str x, .str y => some (!(Builtin.Str.occurrences y x 0 y.length 1).isEmpty)
  | .NotIn, .str x, .str y => some (!(!(Builtin.Str.occurrences y x 0 y.length 1).isEmpty))
  | .In, x, .list ys => if SeqAt.shaped x && SeqAt.shaped (.list ys) then some (ys.any fun y => PyData.eqv y x) else none
  | .In, x, .tuple ys => if SeqAt.shaped x && SeqAt.shaped (.tuple ys) then some (ys.any fun y => PyData.eqv y x) else none
  | .NotIn, x, .list ys => if SeqAt.shaped x && SeqAt.shaped (.list ys) then some (!ys.any fun y => PyData.eqv y x) else none
  | .NotIn, x, .tuple ys => if SeqAt.shaped x && SeqAt.shaped (.tuple ys) then some (!ys.any fun y => PyData.eqv y x) else none
  | _, _, _ => none
def ixD : D → D → Option D
  | .list xs, .int i => atI xs i
  | .tuple xs, .int i => atI xs i
  | .str z, .int i => if z.length ≤ sizeLine then (atI z.cps.toList i).map fun c => .str ⟨#[c]⟩ else none
  | .dict kvs, .str k => (kvs.find? fun kv => PyData.eqv kv.1 (.str k)).map (·.2)
  | .dict kvs, .int k => (kvs.find? fun kv => PyData.eqv kv.1 (.int k)).map (·.2)
  | _, _ => none
def cut {α : Type} (xs : List α) (lo hi : Option Int) : List α := (xs.drop (HT.sIx xs.length 0 lo)).take (HT.sIx xs.length xs.length hi - HT.sIx xs.length 0 lo)
def optI : D → Option (Option Int)
  | .none => some none
  | .int i => some (some i)
  | _ => none
def slcD (x lo hi : D) : Option EV :=
  match optI lo, optI hi, x with
  | some l, some h, .list xs => some (.fresh (cut xs l h))
  | some l, some h, .tuple xs => some (.dat (.tuple (cut xs l h)))
  | some l, some h, .str z => if z.length ≤ sizeLine then some (.dat (.str ⟨(cut z.cps.toList l h).toArray⟩)) else none
  | _, _, _ => none
def revD : D → Option EV
  | .list xs => some (.fresh xs.reverse)
  | .tuple xs => some (.dat (.tuple xs.reverse))
  | _ => none
def isiD : D → String → Option Bool
  | d, "int" => some (match d with | .int _ | .bool _ => true | _ => false)
  | d, "bool" => some (match d with | .bool _ => true | _ => false)
  | d, "str" => some (match d with | .str _ => true | _ => false)
  | d, "tuple" => some (match d with | .tuple _ => true | _ => false)
  | d, "list" => some (match d with | .list _ => true | _ => false)
  | _, _ => none
def chars (z : Str) : List D := z.cps.toList.map fun c => .str ⟨#[c]⟩
def ints? : List D → Option (List Int)
  | [] => some []
  | .int i :: r => (ints? r).map (i :: ·)
  | _ => none
def bools? : List D → Option (List Bool)
  | [] => some []
  | .bool b :: r => (bools? r).map (b :: ·)
  | _ => none
def strs? : List D → Option (List Str)
  | [] => some []
  | .str x :: r => (strs? r).map (x :: ·)
  | _ => none
def maxL : List Int → Int
  | [] => 0
  | [x] => x
  | x :: y :: r => max x (maxL (y :: r))
def minL : List Int → Int
  | [] => 0
  | [x] => x
  | x :: y :: r => min x (minL (y :: r))
/-- the entry of a key, put in (the place of an equal one is kept) -/
def putD (k v : D) : List (D × D) → List (D × D)
  | [] => [(k, v)]
  | (k', v') :: r => if PyData.eqv k' k then (k', v) :: r else (k', v') :: putD k v r
def pairs? : List D → Option (List (D × D))
  | [] => some []
  | .tuple [k, v] :: r => (pairs? r).map ((k, v) :: ·)
  | _ => none
def keyD : Key → D
  | .inl i => .int i
  | .inr x => .str x
def keyOf : D → Option Key
  | .int i => some (.inl i)
  | .str x => some (.inr x)
  | _ => none
def pairsK? : List D → Option (List (Key × D))
  | [] => some []
  | .tuple [k, v] :: r => (keyOf k).bind fun q => (pairsK? r).map ((q, v) :: ·)
  | _ => none
/-- in its place, or at the end -/
def putX {α : Type} (kvs : List (Key × α)) (k : Key) (v : α) : List (Key × α) :=
  if (kvs.any fun kv => decide (kv.1 = k)) = true then kvs.map (fun kv => if kv.1 = k then (kv.1, v) else kv) else kvs ++ [(k, v)]
def mergeX {α : Type} (kvs more : List (Key × α)) : List (Key × α) := more.foldl (fun acc kv => putX acc kv.1 kv.2) kvs
def dictX (kvs : List (Key × D)) : D := .dict (kvs.map fun kv => (keyD kv.1, kv.2))
def strLe (x y : Str) : Bool := !ltCps y.cps.toList x.cps.toList
def isSeqD : D → Bool
  | .list _ => true
  | .tuple _ => true
  | _ => false
def bltD : String → List D → Option EV
  | "len", [.list xs] => some (.dat (.int xs.length))
  | "len", [.tuple xs] => some (.dat (.int xs.length))
  | "len", [.str z] => if z.length ≤ sizeLine then some (.dat (.int z.length)) else none
  | "len", [.dict kvs] => some (.dat (.int kvs.length))
  | "abs", [.int i] => some (.dat (.int i.natAbs))
  | "int", [.int i] => some (.dat (.int i))
  | "int", [.bool b] => some (.dat (.int (if b then 1 else 0)))
  | "max", [.int i, .int j] => some (.dat (.int (max i j)))
  | "min", [.int i, .int j] => some (.dat (.int (min i j)))
  | "max", [.list xs] => match ints? xs with
    | some (i :: r) => some (.dat (.int (maxL (i :: r))))
    | _ => none
  | "min", [.list xs] => match ints? xs with
    | some (i :: r) => some (.dat (.int (minL (i :: r))))
    | _ => none
  | "sum", [.list xs] => (ints? xs).map fun ns => .dat (.int ns.sum)
  | "all", [.list xs] => (bools? xs).map fun bs => .dat (.bool (bs.all id))
  | "any", [.list xs] => (bools? xs).map fun bs => .dat (.bool (bs.any id))
  | "list", [.list xs] => some (.fresh xs)
  | "list", [.tuple xs] => some (.fresh xs)
  | "list", [.str z] => if z.length ≤ sizeLine then some (.fresh (chars z)) else none
  | "tuple", [.list xs] => some (.dat (.tuple xs))
  | "tuple", [.tuple xs] => some (.dat (.tuple xs))
  | "divmod", [.int i, .int j] => if 0 < j ∧ j < 1073741824 then some (.dat (.tuple [.int (i / j), .int (i % j)])) else none
  | "math.gcd", [.int i, .int j] => some (.dat (.int (Int.gcd i j)))
  | "repr", [d] => if d.showable && decide (d.depth ≤ 60) && decide (d.shown.length ≤ sizeLine) && !d.hasDict && isSeqD d then some (.dat (.str d.shown)) else none
  | "sorted", [.list xs] => if xs.length < 64 then (match ints? xs with
      | some ns => some (.fresh ((ns.mergeSort (fun a b => decide (a ≤ b))).map .int))
      | none => (strs? xs).map fun zs => .fresh ((zs.mergeSort strLe).map .str)) else none
  | "dict", [.list xs] => (pairsK? xs).map fun ps => .dat (dictX (mergeX [] ps))
  | "dict", [.tuple (x :: xs)] => (pairsK? (x :: xs)).map fun ps => .dat (dictX (mergeX [] ps))
  | _, _ => none
def mthD : String → D → List D → Option EV
  | "index", .list xs, [y] => if SeqAt.shaped y && SeqAt.shaped (.list xs) then (xs.findIdx? fun x => PyData.eqv x y).map fun j => .dat (.int (j : Nat)) else none
  | "join", .str a, [.list xs] => (strs? xs).bind fun ys => if (ys.map (·.length)).sum + ys.length * a.length ≤ 16777216 then some (.dat (.str (Txt.join a ys))) else none
  | _, _, _ => none
/-- a method that changes the list in a slot: what it gives, the list behind it -/
def mutD : String → List D → List D → Option (D × List D)
  | "append", xs, [y] => if xs.length < sizeLine then some (.none, xs ++ [y]) else none
  | "pop", xs, [.int i] => if -(2 ^ 63) ≤ i ∧ i < 2 ^ 63 then (seqIndex? i xs.length).bind fun k => (xs[k]?).map fun y => (y, xs.eraseIdx k) else none
  | "pop", xs, [] => (xs[xs.length - 1]?).map fun y => (y, xs.dropLast)
  | "extend", xs, [.list ys] => if xs.length + ys.length ≤ sizeLine then some (.none, xs ++ ys) else none
  | _, _, _ => none

/-! ### environments -/
def wipeE (ρ : Env) : List Nat → Env
  | [] => ρ
  | v :: vs => (wipeE ρ vs).set v none
/-- ρ' but for the slots vs, which are those of ρ -/
def restE (ρ ρ' : Env) : List Nat → Env
  | [] => ρ'
  | v :: vs => (restE ρ ρ' vs).set v (ρ.getD v none)
def isMut : Option (Option SV) → Bool
  | some (some (.own _)) => true
  | some (some (.par _)) => true
  | _ => false
def isPar : Option (Option SV) → Bool
  | some (some (.par _)) => true
  | some (some .mk) => true
  | _ => false
/-- a list in a slot that may be changed -/
def mutOf : Option (Option SV) → Option (List D)
  | some (some (.own ds)) => some ds
  | some (some (.par ds)) => some ds
  | _ => none
/-- .. put back -/
def mutPut (ρ : Env) (i : Nat) (ds : List D) : Env :=
  match ρ[i]? with
  | some (some (.own _)) => ρ.set i (some (.own ds))
  | some (some (.par _)) => ρ.set i (some (.par ds))
  | _ => ρ
/-- a slot takes a new value: none that came by a parameter as a list is lost -/
def setE (ρ : Env) (i : Nat) (v : SV) : Option Env := if isPar ρ[i]? then none else if i < ρ.length then some (ρ.set i (some v)) else none
/-- a slot's value is not spoken of any more (but for a list that came by a parameter) -/
def forget1 (ρ : Env) (v : Nat) : Env := if isPar ρ[v]? then ρ else ρ.set v none
def forgetE (ρ : Env) : List Nat → Env
  | [] => ρ
  | v :: vs => forgetE (forget1 ρ v) vs
mutual
def bindT : Tg → D → Env → Option Env
  | .nm i, d, ρ => setE ρ i (.dat d)
  | .tup ts, .tuple ds, ρ => bindTs ts ds ρ
  | .at i k, d, ρ => (mutOf ρ[i]?).bind fun xs => (ixN xs.length k).map fun j => mutPut ρ i (xs.set j d)
  | _, _, _ => none
def bindTs : List Tg → List D → Env → Option Env
  | [], [], ρ => some ρ
  | t :: ts, d :: ds, ρ => (bindT t d ρ).bind (bindTs ts ds)
  | _, _, _ => none
end
/-- what a list-like slot may be read as -/
def readL : Option (Option SV) → Option (List D)
  | some (some (.own ds)) => some ds
  | some (some (.par ds)) => some ds
  | some (some (.ro ns)) => some (ns.map .int)
  | _ => none

/-! ### arguments -/
/-- an argument ahead of the call: a value, a slot's list (as it stands at the call), a list made for it, a function -/
inductive PArg where
  | dat (d : D) | slot (i : Nat) | fn (F : FV)
def PArg.now (ρ : Env) : PArg → Option Arg
  | .dat d => some (.dat d)
  | .slot i => match ρ[i]? with
    | some (some (.own ds)) => some (.par ds)
    | some (some (.par ds)) => some (.par ds)
    | some (some (.ro ns)) => some (.ro ns)
    | _ => none
  | .fn F => some (.fn F)
def PArgs.now (ρ : Env) : List PArg → Option (List Arg)
  | [] => some []
  | a :: r => (a.now ρ).bind fun x => (PArgs.now ρ r).map (x :: ·)
def slotsOf : List PArg → List Nat
  | [] => []
  | .slot i :: r => i :: slotsOf r
  | _ :: r => slotsOf r
/-- the slots' lists behind the call -/
def PArgs.back : List PArg → List Arg → Env → Env
  | .slot i :: r, .par ds :: as, ρ => PArgs.back r as (mutPut ρ i ds)
  | _ :: r, _ :: as, ρ => PArgs.back r as ρ
  | _, _, ρ => ρ
def permute {α : Type} (xs : List α) (perm : List Nat) : Option (List α) := perm.mapM fun j => xs[j]?
def capOf (ρ : Env) : List Nat → Option (List SV)
  | [] => some []
  | i :: r => match ρ[i]? with
    | some (some (.dat d)) => (capOf ρ r).map (.dat d :: ·)
    | some (some (.fn F)) => (capOf ρ r).map (.fn F :: ·)
    | _ => none
/-- a call by its arguments -/
def callP (Φ : FV → List Arg → Res) (F : FV) (ps : List PArg) (ρ : Env) : Out EV :=
  if (slotsOf ps).Nodup then
    match PArgs.now ρ ps with
    | none => .bad
    | some as => match Φ F as with
      | .ok r as' => .ok r (PArgs.back ps as' ρ)
      | .exc c x as' => .exc c x (PArgs.back ps as' ρ)
      | .bad => .bad
  else .bad

/-! ### loops -/
def lcLoop (f : D → Env → Out (Option D)) (vs : List Nat) : List D → Env → Out (List D)
  | [], ρ => .ok [] ρ
  | d :: ds, ρ => (f d (wipeE ρ vs)).bind fun o ρ1 => (lcLoop f vs ds (restE ρ ρ1 vs)).bind fun r ρ2 => .ok (o.toList ++ r) ρ2
def lcLoop2 (f : D → Env → Out (List D)) (vs : List Nat) : List D → Env → Out (List D)
  | [], ρ => .ok [] ρ
  | d :: ds, ρ => (f d (wipeE ρ vs)).bind fun o ρ1 => (lcLoop2 f vs ds (restE ρ ρ1 vs)).bind fun r ρ2 => .ok (o ++ r) ρ2
def forLoop (f : D → Env → Fl) : List D → Env → Fl
  | [], ρ => .nx ρ
  | d :: ds, ρ => match f d ρ with
    | .nx ρ' => forLoop f ds ρ'
    | .ct ρ' => forLoop f ds ρ'
    | .bk ρ' => .nx ρ'
    | r => r
def whileLoop (c : Env → Out D) (f : Env → Fl) : Nat → Env → Fl
  | 0, _ => .bad
  | n + 1, ρ => (c ρ).thenF fun b ρ => match b with
    | .bool true => (match f ρ with
      | .nx ρ' => whileLoop c f n ρ'
      | .ct ρ' => whileLoop c f n ρ'
      | .bk ρ' => .nx ρ'
      | r => r)
    | .bool false => .nx ρ
    | _ => .bad
def enumD : Nat → List D → List D
  | _, [] => []
  | n, d :: ds => .tuple [.int n, d] :: enumD (n + 1) ds
def seqD : D → Option (List D)
  | .list ds => some ds
  | .tuple ds => some ds
  | .str z => some (chars z)
  | _ => none
/-- lists and tuples alone -/
def seqLT : D → Option (List D)
  | .list ds => some ds
  | .tuple ds => some ds
  | _ => none
def rngD (lo hi : Int) : List D := (List.range (hi - lo).toNat).map fun (k : Nat) => .int (lo + (k : Int))

/-- a bound of a slice: left out, or a whole number -/
def loOk : E → D → Bool
  | .lit .none, _ => true
  | _, .int _ => true
  | _, _ => false
/-! ### the evaluator -/
section
variable (Φ : FV → List Arg → Res)
mutual
def ev : E → Env → Out EV
  | .lit d, ρ => .ok (.dat d) ρ
  | .gc _ d, ρ => .ok (.dat d) ρ
  | .var i, ρ => match ρ[i]? with
    | some (some (.dat d)) => .ok (.dat d) ρ
    | some (some (.own ds)) => .ok (.dat (.list ds)) (ρ.set i (some (.dat (.list ds))))
    | _ => .bad
  | .mov i, ρ => match ρ[i]? with
    | some (some (.own ds)) => .ok (.fresh ds) (ρ.set i none)
    | _ => .bad
  | .bin op a b, ρ => (ev a ρ).frz.bind fun x ρ => (ev b ρ).frz.bind fun y ρ => .opt ρ (binD op x y)
  | .cmp op a b, ρ => (ev a ρ).frz.bind fun x ρ => (ev b ρ).frz.bind fun y ρ => .opt ρ ((cmpD op x y).map fun c => .dat (.bool c))
  | .cmp2 op op' a b c, ρ => (ev a ρ).frz.bind fun x ρ => (ev b ρ).frz.bind fun y ρ => match cmpD op x y with
    | some true => (ev c ρ).frz.bind fun z ρ => .opt ρ ((cmpD op' y z).map fun c => .dat (.bool c))
    | some false => .ok (.dat (.bool false)) ρ
    | none => .bad
  | .neg a, ρ => (ev a ρ).frz.bind fun x ρ => match x with
    | .int i => .ok (.dat (.int (-i))) ρ
    | _ => .bad
  | .not a, ρ => (ev a ρ).frz.bind fun x ρ => match x with
    | .bool c => .ok (.dat (.bool (!c))) ρ
    | _ => .bad
  | .and a b, ρ => (ev a ρ).frz.bind fun x ρ => match x with
    | .bool true => (ev b ρ).frz.bind fun y ρ => .ok (.dat y) ρ
    | .bool false => .ok (.dat (.bool false)) ρ
    | _ => .bad
  | .or a b, ρ => (ev a ρ).frz.bind fun x ρ => match x with
    | .bool true => .ok (.dat (.bool true)) ρ
    | .bool false => (ev b ρ).frz.bind fun y ρ => .ok (.dat y) ρ
    | _ => .bad
  | .ite c a b, ρ => (ev c ρ).frz.bind fun x ρ => match x with
    | .bool true => (ev a ρ).frz.bind fun y ρ => .ok (.dat y) ρ
    | .bool false => (ev b ρ).frz.bind fun y ρ => .ok (.dat y) ρ
    | _ => .bad
  | .tup es, ρ => (evL es ρ).bind fun ds ρ => if ds.length ≤ sizeLine then .ok (.dat (.tuple ds)) ρ else .bad
  | .lst es, ρ => (evL es ρ).bind fun ds ρ => if ds.length ≤ sizeLine then .ok (.fresh ds) ρ else .bad
  | .cat own bs es, ρ => (evX es bs ρ).bind fun ds ρ => if ds.length ≤ sizeLine then .ok (if own then .fresh ds else .dat (.tuple ds)) ρ else .bad
  | .ix a b, ρ => (ev a ρ).frz.bind fun x ρ => (ev b ρ).frz.bind fun y ρ => .opt ρ ((ixD x y).map .dat)
  | .ixv i b, ρ => if (readL ρ[i]?).isSome then (ev b ρ).frz.bind fun y ρ => match readL ρ[i]?, y with
      | some xs, .int k => .opt ρ ((atI xs k).map .dat)
      | _, _ => .bad
    else .bad
  | .slc a lo hi, ρ => (ev a ρ).frz.bind fun x ρ => (ev lo ρ).frz.bind fun l ρ => (ev hi ρ).frz.bind fun h ρ => if loOk lo l && loOk hi h then .opt ρ (slcD x l h) else .bad
  | .slv i lo hi, ρ => if (readL ρ[i]?).isSome then (ev lo ρ).frz.bind fun l ρ => (ev hi ρ).frz.bind fun h ρ => if loOk lo l && loOk hi h then (match readL ρ[i]?, optI l, optI h with
      | some xs, some l, some h => .ok (.fresh (cut xs l h)) ρ
      | _, _, _ => .bad) else .bad
    else .bad
  | .rev a, ρ => (ev a ρ).frz.bind fun x ρ => .opt ρ (revD x)
  | .lenv i, ρ => match readL ρ[i]? with
    | some xs => .ok (.dat (.int xs.length)) ρ
    | none => .bad
  | .isi a c, ρ => (ev a ρ).frz.bind fun x ρ => .opt ρ ((isiD x c).map fun b => .dat (.bool b))
  | .blt id es, ρ => (evL es ρ).bind fun ds ρ => .opt ρ (bltD id ds)
  | .mth m o es, ρ => (ev o ρ).frz.bind fun x ρ => (evL es ρ).bind fun ds ρ => .opt ρ (mthD m x ds)
  | .mut m i es, ρ => if (mutOf ρ[i]?).isSome then (evL es ρ).bind fun ds ρ => match mutOf ρ[i]? with
      | some xs => (match mutD m xs ds with
        | some (d, ys) => .ok (.dat d) (mutPut ρ i ys)
        | none => .bad)
      | none => .bad
    else .bad
  | .call f as _ perm, ρ => (evA as ρ).bind fun ps ρ => match permute ps perm with
    | some qs => callP Φ (.glob f) qs ρ
    | none => .bad
  | .callv i as, ρ => match ρ[i]? with
    | some (some (.fn F)) => (evA as ρ).bind fun ps ρ => callP Φ F ps ρ
    | _ => .bad
  | .call1 f e, ρ => (ev e ρ).bind fun r ρ => match r with
    | .fresh ds => (match Φ (.glob f) [.par ds] with
      | .ok r _ => .ok r ρ
      | .exc c x _ => .exc c x ρ
      | .bad => .bad)
    | _ => .bad
  | .lc elt tg it cs vs, ρ => (evI it ρ).bind fun items ρ => (lcLoop (fun d ρ => match bindT tg d ρ with
      | some ρ => (evC cs ρ).bind fun b ρ => if b then (ev elt ρ).frz.bind fun d ρ => .ok (some d) ρ else .ok none ρ
      | none => .bad) vs items ρ).bind fun ds ρ => if ds.length ≤ sizeLine then .ok (.fresh ds) ρ else .bad
  | .lc2 elt tg it cs tg1 it1 cs1 vs vs1, ρ => (evI it ρ).bind fun items ρ => (lcLoop2 (fun d ρ => match bindT tg d ρ with
      | some ρ => (evC cs ρ).bind fun b ρ => if b then
          (evI it1 ρ).bind fun items1 ρ => lcLoop (fun d ρ => match bindT tg1 d ρ with
            | some ρ => (evC cs1 ρ).bind fun b ρ => if b then (ev elt ρ).frz.bind fun d ρ => .ok (some d) ρ else .ok none ρ
            | none => .bad) vs1 items1 ρ
        else .ok [] ρ
      | none => .bad) vs items ρ).bind fun ds ρ => if ds.length ≤ sizeLine then .ok (.fresh ds) ρ else .bad
  | .dc k v tg it vs, ρ => (evI it ρ).bind fun items ρ => (lcLoop (fun d ρ => match bindT tg d ρ with
      | some ρ => (ev k ρ).frz.bind fun x ρ => (ev v ρ).frz.bind fun y ρ => .ok (some (.tuple [x, y])) ρ
      | none => .bad) vs items ρ).bind fun ds ρ => match pairsK? ds with
        | some ps => if ds.length ≤ sizeLine then .ok (.dat (dictX (mergeX [] ps))) ρ else .bad
        | none => .bad
  | .ofit b it, ρ => (evI it ρ).bind fun items ρ => if items.length ≤ sizeLine then (if b then .ok (.dat (.tuple items)) ρ else .ok (.fresh items) ρ) else .bad
  | .addv i e, ρ => if (mutOf ρ[i]?).isSome then (ev e ρ).frz.bind fun y ρ => match mutOf ρ[i]?, y with
      | some xs, .list ys => if xs.length + ys.length ≤ sizeLine then .ok (.fresh (xs ++ ys)) ρ else .bad
      | _, _ => .bad
    else .bad
def evL : List E → Env → Out (List D)
  | [], ρ => .ok [] ρ
  | e :: es, ρ => (ev e ρ).frz.bind fun d ρ => (evL es ρ).bind fun ds ρ => .ok (d :: ds) ρ
/-- a display in which some are starred -/
def evX : List E → List Bool → Env → Out (List D)
  | [], [], ρ => .ok [] ρ
  | e :: es, b :: bs, ρ => (ev e ρ).frz.bind fun d ρ => (Out.opt ρ (if b then seqLT d else some [d])).bind fun xs ρ => (evX es bs ρ).bind fun ds ρ => .ok (xs ++ ds) ρ
  | _, _, _ => .bad
/-- all conditions, from the left -/
def evC : List E → Env → Out Bool
  | [], ρ => .ok true ρ
  | e :: es, ρ => (ev e ρ).frz.bind fun d ρ => match d with
    | .bool true => evC es ρ
    | .bool false => .ok false ρ
    | _ => .bad
def evA : List AE → Env → Out (List PArg)
  | [], ρ => .ok [] ρ
  | a :: as, ρ => (evA1 a ρ).bind fun p ρ => (evA as ρ).bind fun ps ρ => .ok (p :: ps) ρ
def evA1 : AE → Env → Out PArg
  | .d e, ρ => (ev e ρ).frz.bind fun d ρ => .ok (.dat d) ρ
  | .mv i, ρ => match ρ[i]? with
    | some (some (.own _)) => .ok (.slot i) ρ
    | some (some (.par _)) => .ok (.slot i) ρ
    | some (some (.ro _)) => .ok (.slot i) ρ
    | _ => .bad
  | .fg f, ρ => .ok (.fn (.glob f)) ρ
  | .fv i, ρ => match ρ[i]? with
    | some (some (.fn F)) => .ok (.fn F) ρ
    | _ => .bad
  | .lam id caps, ρ => match capOf ρ caps with
    | some cs => .ok (.fn (.clo id cs)) ρ
    | none => .bad
  | .made i id caps, ρ => match ρ[i]?, capOf ρ caps with
    | some (some .mk), some cs => .ok (.fn (.clo id cs)) ρ
    | _, _ => .bad
def evI : It → Env → Out (List D)
  | .seq e, ρ => (ev e ρ).frz.bind fun d ρ => .opt ρ (seqD d)
  | .rng a b two, ρ => (ev a ρ).frz.bind fun x ρ => if two then (ev b ρ).frz.bind fun y ρ => (match x, y with
      | .int i, .int j => if -(2 ^ 62) ≤ i ∧ i < 2 ^ 62 ∧ -(2 ^ 62) ≤ j ∧ j < 2 ^ 62 then .ok (rngD i j) ρ else .bad
      | _, _ => .bad)
    else match x with
      | .int j => if -(2 ^ 62) ≤ j ∧ j < 2 ^ 62 then .ok (rngD 0 j) ρ else .bad
      | _ => .bad
  | .enum e, ρ => (ev e ρ).frz.bind fun d ρ => .opt ρ ((seqLT d).map (enumD 0))
  | .zip a b, ρ => (ev a ρ).frz.bind fun x ρ => (ev b ρ).frz.bind fun y ρ => match x, y with
    | .list xs, .list ys => .ok (List.zipWith (fun u v => .tuple [u, v]) xs ys) ρ
    | .tuple xs, .tuple ys => .ok (List.zipWith (fun u v => .tuple [u, v]) xs ys) ρ
    | .list xs, .tuple ys => .ok (List.zipWith (fun u v => .tuple [u, v]) xs ys) ρ
    | .tuple xs, .list ys => .ok (List.zipWith (fun u v => .tuple [u, v]) xs ys) ρ
    | _, _ => .bad
  | .items e, ρ => (ev e ρ).frz.bind fun d ρ => match d with
    | .dict kvs => .ok (kvs.map fun kv => .tuple [kv.1, kv.2]) ρ
    | _ => .bad
end
/-- several slots take several values -/
def setEs : List (Nat × Bool) → List EV → Env → Option Env
  | [], [], ρ => some ρ
  | (i, b) :: is, v :: vs, ρ => ((match b, v with
      | true, .fresh ds => setE ρ i (.own ds)
      | true, .dat _ => none
      | false, v => setE ρ i (.dat v.frz))).bind (setEs is vs)
  | _, _, _ => none
def evEs : List E → Env → Out (List EV)
  | [], ρ => .ok [] ρ
  | e :: es, ρ => (ev Φ e ρ).bind fun d ρ => (evEs es ρ).bind fun ds ρ => .ok (d :: ds) ρ
variable (W : Nat)
mutual
def evS : S → Env → Fl
  | .asg tg e, ρ => (ev Φ e ρ).frz.thenF fun d ρ => match bindT tg d ρ with
    | some ρ => .nx ρ
    | none => .bad
  | .asgO i e, ρ => (ev Φ e ρ).thenF fun r ρ => match r with
    | .fresh ds => (match setE ρ i (.own ds) with
      | some ρ => .nx ρ
      | none => .bad)
    | _ => .bad
  | .parl is es, ρ => (evEs Φ es ρ).thenF fun rs ρ => match setEs is rs ρ with
    | some ρ => .nx ρ
    | none => .bad
  | .setx i k e, ρ => (ev Φ e ρ).frz.thenF fun d ρ => if (mutOf ρ[i]?).isSome then (ev Φ k ρ).frz.thenF fun k ρ => (match mutOf ρ[i]?, k with
      | some xs, .int k => (match ixN xs.length k with
        | some j => .nx (mutPut ρ i (xs.set j d))
        | none => .bad)
      | _, _ => .bad) else .bad
  | .expr e, ρ => (ev Φ e ρ).thenF fun _ ρ => .nx ρ
  | .ret e, ρ => (ev Φ e ρ).thenF fun r ρ => .rt r ρ
  | .ite c a b, ρ => (ev Φ c ρ).frz.thenF fun d ρ => match d with
    | .bool true => evB a ρ
    | .bool false => evB b ρ
    | _ => .bad
  | .for tg it body, ρ => (evI Φ it ρ).thenF fun items ρ => forLoop (fun d ρ => match bindT tg d ρ with
    | some ρ => evB body ρ
    | none => .bad) items ρ
  | .while c body, ρ => whileLoop (fun ρ => (ev Φ c ρ).frz) (fun ρ => evB body ρ) W ρ
  | .raise c none, ρ => .exc c .none ρ
  | .raise c (some e), ρ => (ev Φ e ρ).frz.thenF fun d ρ => .exc c d ρ
  | .defn i, ρ => if isPar ρ[i]? then .bad else if i < ρ.length then .nx (ρ.set i (some .mk)) else .bad
  | .pass, ρ => .nx ρ
  | .brk, ρ => .bk ρ
  | .cont, ρ => .ct ρ
  | .forget vs, ρ => .nx (forgetE ρ vs)
def evB : List S → Env → Fl
  | [], ρ => .nx ρ
  | s :: ss, ρ => (evS s ρ).thenF (evB ss)
end
end

/-! ### defs -/
structure FD where
  np : Nat
  nl : Nat
  body : List S
/-- a def made in a def, a lambda: what it captures stands behind the parameters -/
structure LD where
  np : Nat
  nc : Nat
  nl : Nat
  body : List S
def argSV : Arg → SV
  | .dat d => .dat d
  | .par ds => .par ds
  | .ro ns => .ro ns
  | .fn F => .fn F
def svArg : Option SV → Option Arg
  | some (.dat d) => some (.dat d)
  | some (.par ds) => some (.par ds)
  | some (.ro ns) => some (.ro ns)
  | some (.fn F) => some (.fn F)
  | _ => none
/-- the arguments' lists at the end: a list that came by a parameter still stands in its slot -/
def outA : List Arg → Env → Option (List Arg)
  | [], _ => some []
  | .par _ :: as, some (.par ds) :: ρ => (outA as ρ).map (.par ds :: ·)
  | .par _ :: _, _ => none
  | a :: as, _ :: ρ => (outA as ρ).map (a :: ·)
  | _, _ => none
def endOf (as : List Arg) : Fl → Res
  | .nx ρ => match outA as ρ with
    | some as' => .ok (.dat .none) as'
    | none => .bad
  | .rt r ρ => match outA as ρ with
    | some as' => .ok r as'
    | none => .bad
  | .exc c x ρ => match outA as ρ with
    | some as' => .exc c x as'
    | none => .bad
  | _ => .bad
/-- no function made in a def -/
def Arg.plain : Arg → Bool
  | .fn (.clo _ _) => false
  | _ => true
structure Prog where
  fns : Str → Option FD
  lams : Nat → Option LD
  fuel : Nat
def run (G : Prog) : Nat → FV → List Arg → Res
  | 0, _, _ => .bad
  | k + 1, .glob f, as => match G.fns f with
    | some d => if as.length = d.np ∧ d.np ≤ d.nl then endOf as (evB (run G k) G.fuel d.body (as.map (fun a => some (argSV a)) ++ List.replicate (d.nl - d.np) none)) else .bad
    | none => .bad
  | k + 1, .clo id caps, as => match G.lams id with
    | some d => if as.length = d.np ∧ caps.length = d.nc ∧ d.np + d.nc ≤ d.nl ∧ as.all Arg.plain = true then endOf as (evB (run G k) G.fuel d.body (as.map (fun a => some (argSV a)) ++ (caps.map some ++ List.replicate (d.nl - d.np - d.nc) none))) else .bad
    | none => .bad
/-! ### the evaluator's equations, laid here once -/
def evq1 := @ev.eq_1
def evq2 := @ev.eq_2
def evq3 := @ev.eq_3
def evq4 := @ev.eq_4
def evq5 := @ev.eq_5
def evq6 := @ev.eq_6
def evq7 := @ev.eq_7
def evq8 := @ev.eq_8
def evq9 := @ev.eq_9
def evq10 := @ev.eq_10
def evq11 := @ev.eq_11
def evq12 := @ev.eq_12
def evq13 := @ev.eq_13
def evq14 := @ev.eq_14
def evq15 := @ev.eq_15
def evq16 := @ev.eq_16
def evq17 := @ev.eq_17
def evq18 := @ev.eq_18
def evq19 := @ev.eq_19
def evq20 := @ev.eq_20
def evq21 := @ev.eq_21
def evq22 := @ev.eq_22
def evq23 := @ev.eq_23
def evq24 := @ev.eq_24
def evq25 := @ev.eq_25
def evq26 := @ev.eq_26
def evq27 := @ev.eq_27
def evq28 := @ev.eq_28
def evq29 := @ev.eq_29
def evq30 := @ev.eq_30
def evq31 := @ev.eq_31
def evq32 := @ev.eq_32
def evq33 := @ev.eq_33
end Ev
set_option Elab.async false
set_option linter.all false
set_option maxRecDepth 100000
namespace Ev
open PySem PySem.Spec PyProof.Rows L2
/-! ### data in the abstract heap -/
def flatD : D → Bool
  | .list _ => false
  | .tuple _ => false
  | .dict _ => false
  | _ => true
/-- a tuple of flat things is told as such (it may be a key); another one with its object, which has no dict -/
def TupO (K : PySem.W.Frag) (H : Hp) (a : Addr) (xs : List V) (ds : List D) : Prop :=
  (ds.all flatD = true ∧ SqT K H a xs) ∨ (ds.all flatD = false ∧ ∃ ob, H a = some (.frz ob (.tup xs)) ∧ ob.dict = Option.none)
theorem TupO.sq {K : PySem.W.Frag} {H : Hp} {a : Addr} {xs : List V} {ds : List D} (h : TupO K H a xs ds) : SqT K H a xs := by
  rcases h with ⟨_, h⟩ | ⟨_, ob, h, _⟩
  · exact h
  · exact .inl (.inr ⟨ob, h⟩)
section
variable (K : PySem.W.Frag) (H : Hp) (B : Addr → Prop)
mutual
inductive RD : V → D → Prop where
  | non : RD .non .none
  | bl (b : Bool) : RD (.bl b) (.bool b)
  | int (i : Int) : RD (.int i) (.int i)
  | str (x : Str) : RD (.str x) (.str x)
  | lst {a : Addr} {xs : List V} {ds : List D} : H a = some (.lst xs) → ¬ B a → RDs xs ds → RD (.ref a) (.list ds)
  | tup {a : Addr} {xs : List V} {ds : List D} : TupO K H a xs ds → RDs xs ds → RD (.ref a) (.tuple ds)
  | dic {a : Addr} {kvs : List (Key × V)} {ds : List D} : H a = some (.dK kvs) → ¬ B a → RDs (kvs.map (·.2)) ds → RD (.ref a) (.dict ((kvs.map fun kv => keyD kv.1).zip ds))
  | dit {a : Addr} {kvs : List (List Key × V)} {ds : List D} : H a = some (.dT kvs) → RDs (kvs.map (·.2)) ds → RD (.ref a) (.dict ((kvs.map fun kv => PyData.tuple (kv.1.map keyD)).zip ds))
inductive RDs : List V → List D → Prop where
  | nil : RDs [] []
  | cons {v : V} {d : D} {vs : List V} {ds : List D} : RD v d → RDs vs ds → RDs (v :: vs) (d :: ds)
end
end
section
variable {K : PySem.W.Frag} {H H' : Hp} {B B' : Addr → Prop}
theorem RDs.length : ∀ {vs : List V} {ds : List D}, RDs K H B vs ds → vs.length = ds.length
  | _, _, .nil => rfl
  | _, _, .cons _ t => by simp [RDs.length t]
theorem RDs.get : ∀ {vs : List V} {ds : List D} {i : Nat} {v : V}, RDs K H B vs ds → vs[i]? = some v → ∃ d, ds[i]? = some d ∧ RD K H B v d
  | _, _, _, _, .nil, e => by simp at e
  | _, _, 0, _, .cons r _, e => by simp at e; subst e; exact ⟨_, rfl, r⟩
  | _, _, i + 1, x, .cons _ t, e => by
    obtain ⟨u, h1, h2⟩ := RDs.get (i := i) (v := x) t (by simpa using e)
    exact ⟨u, by simpa using h1, h2⟩
theorem RDs.getD : ∀ {vs : List V} {ds : List D} {i : Nat} {d : D}, RDs K H B vs ds → ds[i]? = some d → ∃ v, vs[i]? = some v ∧ RD K H B v d
  | _, _, _, _, .nil, e => by simp at e
  | _, _, 0, _, .cons r _, e => by simp at e; subst e; exact ⟨_, rfl, r⟩
  | _, _, i + 1, x, .cons _ t, e => by
    obtain ⟨u, h1, h2⟩ := RDs.getD (i := i) (d := x) t (by simpa using e)
    exact ⟨u, by simpa using h1, h2⟩
theorem RDs.append : ∀ {vs ws : List V} {ds es : List D}, RDs K H B vs ds → RDs K H B ws es → RDs K H B (vs ++ ws) (ds ++ es)
  | _, _, _, _, .nil, s => s
  | _, _, _, _, .cons r t, s => .cons r (RDs.append t s)
theorem RDs.take : ∀ {vs : List V} {ds : List D} (n : Nat), RDs K H B vs ds → RDs K H B (vs.take n) (ds.take n)
  | _, _, 0, _ => .nil
  | _, _, _ + 1, .nil => .nil
  | _, _, n + 1, .cons r t => .cons r (RDs.take n t)
theorem RDs.drop : ∀ {vs : List V} {ds : List D} (n : Nat), RDs K H B vs ds → RDs K H B (vs.drop n) (ds.drop n)
  | _, _, 0, r => r
  | _, _, _ + 1, .nil => .nil
  | _, _, n + 1, .cons _ t => RDs.drop n t
theorem RDs.set {v : V} {d : D} (r : RD K H B v d) : ∀ {vs : List V} {ds : List D} (i : Nat), RDs K H B vs ds → RDs K H B (vs.set i v) (ds.set i d)
  | _, _, _, .nil => .nil
  | _, _, 0, .cons _ t => .cons r t
  | _, _, i + 1, .cons q t => .cons q (RDs.set r i t)
theorem RDs.eraseIdx : ∀ {vs : List V} {ds : List D} (i : Nat), RDs K H B vs ds → RDs K H B (vs.eraseIdx i) (ds.eraseIdx i)
  | _, _, _, .nil => .nil
  | _, _, 0, .cons _ t => t
  | _, _, i + 1, .cons q t => .cons q (RDs.eraseIdx i t)
theorem RDs.dropLast : ∀ {vs : List V} {ds : List D}, RDs K H B vs ds → RDs K H B vs.dropLast ds.dropLast := fun {vs ds} r => by
  rw [List.dropLast_eq_take, List.dropLast_eq_take, r.length]
  exact r.take _
theorem RDs.reverse : ∀ {vs : List V} {ds : List D}, RDs K H B vs ds → RDs K H B vs.reverse ds.reverse
  | _, _, .nil => .nil
  | _, _, .cons r t => by
    rw [List.reverse_cons, List.reverse_cons]
    exact (RDs.reverse t).append (.cons r .nil)
theorem RDs.cutV {vs : List V} {ds : List D} (lo hi : Option Int) (r : RDs K H B vs ds) : RDs K H B (L2.cutV vs lo hi) (cut ds lo hi) := by
  unfold L2.cutV cut
  rw [r.length]
  exact (r.drop _).take _
theorem RDs.ints : ∀ {vs : List V} {ns : List Int}, RDs K H B vs (ns.map .int) → vs = ns.map V.int
  | _, [], h => by cases h; rfl
  | _, n :: ns, h => by
    cases h with
    | cons r t =>
      cases r
      rw [RDs.ints t]
      rfl
theorem RDs.of_ints : ∀ (ns : List Int), RDs K H B (ns.map V.int) (ns.map .int)
  | [] => .nil
  | n :: ns => .cons (.int n) (RDs.of_ints ns)
theorem RDs.strs : ∀ {vs : List V} {ns : List Str}, RDs K H B vs (ns.map .str) → vs = ns.map V.str
  | _, [], h => by cases h; rfl
  | _, n :: ns, h => by
    cases h with
    | cons r t =>
      cases r
      rw [RDs.strs t]
      rfl
theorem RDs.of_strs : ∀ (ns : List Str), RDs K H B (ns.map V.str) (ns.map .str)
  | [] => .nil
  | n :: ns => .cons (.str n) (RDs.of_strs ns)
theorem RDs.bls : ∀ {vs : List V} {ns : List Bool}, RDs K H B vs (ns.map .bool) → vs = ns.map V.bl
  | _, [], h => by cases h; rfl
  | _, n :: ns, h => by
    cases h with
    | cons r t =>
      cases r
      rw [RDs.bls t]
      rfl
theorem ints?_eq : ∀ {ds : List D} {ns : List Int}, ints? ds = some ns → ds = ns.map .int
  | [], ns, h => by simp [ints?] at h; subst h; rfl
  | d :: ds, ns, h => by
    cases d <;> simp [ints?] at h
    obtain ⟨r, h1, rfl⟩ := h
    rw [ints?_eq h1]; rfl
theorem strs?_eq : ∀ {ds : List D} {ns : List Str}, strs? ds = some ns → ds = ns.map .str
  | [], ns, h => by simp [strs?] at h; subst h; rfl
  | d :: ds, ns, h => by
    cases d <;> simp [strs?] at h
    obtain ⟨r, h1, rfl⟩ := h
    rw [strs?_eq h1]; rfl
theorem bools?_eq : ∀ {ds : List D} {ns : List Bool}, bools? ds = some ns → ds = ns.map .bool
  | [], ns, h => by simp [bools?] at h; subst h; rfl
  | d :: ds, ns, h => by
    cases d <;> simp [bools?] at h
    obtain ⟨r, h1, rfl⟩ := h
    rw [bools?_eq h1]; rfl
/-- what stays: all but the lists in M (and the tables of code objects) -/
structure Kp (M : Addr → Prop) (H H' : Hp) : Prop where
  keep : ∀ a o, H a = some o → (∀ ps, o ≠ .tbl ps) → (M a → ∀ xs, o ≠ .lst xs) → H' a = some o
  none : ∀ a, H' a = none → H a = none
theorem Kp.refl {M : Addr → Prop} : Kp M H H := ⟨fun _ _ h _ _ => h, fun _ h => h⟩
theorem Kp.trans {M M1 : Addr → Prop} {H1 H2 : Hp} (k : Kp M H H1) (k1 : Kp M1 H1 H2) (hm : ∀ a, M1 a → M a ∨ H a = Option.none) : Kp M H H2 := by
  refine ⟨fun a o h t m => k1.keep a o (k.keep a o h t m) t fun x => ?_, fun a h => k.none a (k1.none a h)⟩
  rcases hm a x with z | z
  · exact m z
  · rw [z] at h
    cases h
theorem Kp.mono {M M1 : Addr → Prop} (k : Kp M H H') (h : ∀ a, M a → M1 a) : Kp M1 H H' := ⟨fun a o e t m => k.keep a o e t fun x => m (h a x), k.none⟩
theorem Kp.laid {M : Addr → Prop} {p : Addr} {o : HO} (h : H p = Option.none) : Kp M H (upd H p o) := by
  refine ⟨fun a o e _ _ => ?_, fun a e => ?_⟩
  · rw [upd_ne (ne_of_none e h)]
    exact e
  · unfold upd at e
    split at e
    · cases e
    · exact e
theorem Kp.wrote {M : Addr → Prop} {p : Addr} {xs ys : List V} (h : H p = some (.lst xs)) (hm : M p) : Kp M H (upd H p (.lst ys)) := by
  refine ⟨fun a o e _ m => ?_, fun a e => ?_⟩
  · have q : a ≠ p := fun q => by
      subst q
      rw [h] at e
      cases e
      exact absurd rfl (m hm xs)
    rw [upd_ne q]
    exact e
  · unfold upd at e
    split at e
    · cases e
    · exact e
theorem Kp.sqT {M : Addr → Prop} {a : Addr} {xs : List V} (k : Kp M H H') (h : SqT K H a xs) : SqT K H' a xs := by
  rcases h with (h | ⟨o, h⟩) | h
  · exact .inl (.inl (k.keep _ _ h (fun _ z => nomatch z) fun _ _ z => nomatch z))
  · exact .inl (.inr ⟨o, k.keep _ _ h (fun _ z => nomatch z) fun _ _ z => nomatch z⟩)
  · exact .inr h
theorem Kp.tupO {M : Addr → Prop} {a : Addr} {xs : List V} {ds : List D} (k : Kp M H H') (h : TupO K H a xs ds) : TupO K H' a xs ds := by
  rcases h with ⟨f, h⟩ | ⟨f, ob, h, e⟩
  · exact .inl ⟨f, k.sqT h⟩
  · exact .inr ⟨f, ob, k.keep _ _ h (fun _ z => nomatch z) (fun _ _ z => nomatch z), e⟩
mutual
theorem RD.kp {M : Addr → Prop} (k : Kp M H H') (hm : ∀ a, M a → B a) : ∀ {v : V} {d : D}, RD K H B v d → RD K H' B v d
  | _, _, .non => .non
  | _, _, .bl b => .bl b
  | _, _, .int i => .int i
  | _, _, .str x => .str x
  | _, _, .lst h n r => .lst (k.keep _ _ h (fun _ z => nomatch z) fun x => absurd (hm _ x) n) n (RDs.kp k hm r)
  | _, _, .tup h r => .tup (k.tupO h) (RDs.kp k hm r)
  | _, _, .dic h n r => .dic (k.keep _ _ h (fun _ z => nomatch z) fun _ _ z => nomatch z) n (RDs.kp k hm r)
  | _, _, .dit h r => .dit (k.keep _ _ h (fun _ z => nomatch z) fun _ _ z => nomatch z) (RDs.kp k hm r)
theorem RDs.kp {M : Addr → Prop} (k : Kp M H H') (hm : ∀ a, M a → B a) : ∀ {vs : List V} {ds : List D}, RDs K H B vs ds → RDs K H' B vs ds
  | _, _, .nil => .nil
  | _, _, .cons r t => .cons (RD.kp k hm r) (RDs.kp k hm t)
end
mutual
theorem RD.bad (h : ∀ a, B' a → B a ∨ H a = Option.none) : ∀ {v : V} {d : D}, RD K H B v d → RD K H B' v d
  | _, _, .non => .non
  | _, _, .bl b => .bl b
  | _, _, .int i => .int i
  | _, _, .str x => .str x
  | _, _, .lst e n r => .lst e (fun z => (h _ z).elim n fun q => by rw [q] at e; cases e) (RDs.bad h r)
  | _, _, .tup e r => .tup e (RDs.bad h r)
  | _, _, .dic e n r => .dic e (fun z => (h _ z).elim n fun q => by rw [q] at e; cases e) (RDs.bad h r)
  | _, _, .dit e r => .dit e (RDs.bad h r)
theorem RDs.bad (h : ∀ a, B' a → B a ∨ H a = Option.none) : ∀ {vs : List V} {ds : List D}, RDs K H B vs ds → RDs K H B' vs ds
  | _, _, .nil => .nil
  | _, _, .cons r t => .cons (RD.bad h r) (RDs.bad h t)
end
end

/-! ### functions as values -/
/-- the words of the functions that are made in defs -/
structure LI where
  qual : Str
  fr : List Str
  fd : List (Str × Addr) → Addr → Value → Value → Value → FuncData
/-- the object at f is such a function -/
def FnU (f : Addr) (L : LI) (cl : List (Str × Addr)) (c' : Addr) : HO := .ext fun h => ∃ (od : Option Addr) (sl : Array (Option Value)) (doc pm ctv : Value), h.get? f = some (⟨.type "function", od, .func (L.fd cl c' doc pm ctv), sl⟩ : Obj)
theorem fnU_ne {f : Addr} {L : LI} {cl : List (Str × Addr)} {c' : Addr} (ps : Array Value) : FnU f L cl c' ≠ .tbl ps := fun z => by
  unfold FnU at z
  cases z
theorem fnU_ne2 {f : Addr} {L : LI} {cl : List (Str × Addr)} {c' : Addr} (ps : List V) : FnU f L cl c' ≠ .lst ps := fun z => by
  unfold FnU at z
  cases z
/-- what is fixed: the written part, the module's names, the code tables, the functions that are made -/
structure Cn where
  K : PySem.W.Frag
  mg : Str → Option Value
  T : List NdefX.NTab
  lam : Nat → Option LI
def IsCellO (H : Hp) (c : Addr) (w : V) : Prop := ∃ (ob : Obj) (u : Value), H c = some (.frz ob (.own 0)) ∧ ob.data = .cell (some u) ∧ L2.RelV w u
open Classical in
/-- the heap without what stands at S -/
noncomputable def cutH (H : Hp) (S : Addr → Prop) : Hp := fun a => if S a then none else H a
theorem cutH_in {H : Hp} {S : Addr → Prop} {a : Addr} (h : S a) : cutH H S a = none := by unfold cutH; rw [if_pos h]
theorem cutH_out {H : Hp} {S : Addr → Prop} {a : Addr} (h : ¬ S a) : cutH H S a = H a := by unfold cutH; rw [if_neg h]
theorem cutH_some {H : Hp} {S : Addr → Prop} {a : Addr} {o : HO} (h : cutH H S a = some o) : ¬ S a ∧ H a = some o := by
  by_cases q : S a
  · rw [cutH_in q] at h; cases h
  · rw [cutH_out q] at h; exact ⟨q, h⟩
theorem cutH_none {H : Hp} {S : Addr → Prop} {a : Addr} (h : H a = Option.none) : cutH H S a = Option.none := by
  by_cases w : S a
  · exact cutH_in w
  · rw [cutH_out w]; exact h
theorem Kp.cut {M : Addr → Prop} {H H' : Hp} (k : Kp M H H') (S : Addr → Prop) : Kp M (cutH H S) (cutH H' S) := by
  refine ⟨fun a o h t m => ?_, fun a h => ?_⟩
  · obtain ⟨h1, h2⟩ := cutH_some h
    rw [cutH_out h1]
    exact k.keep a o h2 t m
  · by_cases q : S a
    · exact cutH_in q
    · rw [cutH_out q] at h ⊢
      exact k.none a h
def clA (cl : List (Str × Addr)) (a : Addr) : Prop := ∃ y, cl.lookup y = some a
section
variable (C : Cn) (B : Addr → Prop)
mutual
inductive RS : Hp → V → SV → Prop where
  | dat {H : Hp} {v : V} {d : D} : RD C.K H B v d → RS H v (.dat d)
  | glob {H : Hp} {x : Str} {a : Addr} : C.mg x = some (.ref a) → PySem.W.keepIn C.K (.ref a) = true → RS H (.ref a) (.fn (.glob x))
  | clo {H : Hp} {id : Nat} {L : LI} {f c' : Addr} {cl : List (Str × Addr)} {ws : List V} {caps : List SV} : C.lam id = some L → H f = some (FnU f L cl c') → H c' = some (LamX.CodeO c' L.qual) →
      (∀ y c, cl.lookup y = some c → y ∈ L.fr) → (∀ x y c, cl.lookup x = some c → cl.lookup y = some c → x = y) →
      ws.length = L.fr.length → (∀ (i : Nat) (y : Str), L.fr[i]? = some y → ∃ c w, cl.lookup y = some c ∧ ws[i]? = some w ∧ IsCellO H c w) → RSs (cutH H (clA cl)) ws caps → RS H (.ref f) (.fn (.clo id caps))
inductive RSs : Hp → List V → List SV → Prop where
  | nil {H : Hp} : RSs H [] []
  | cons {H : Hp} {v : V} {d : SV} {vs : List V} {ds : List SV} : RS H v d → RSs H vs ds → RSs H (v :: vs) (d :: ds)
end
end
section
variable {C : Cn} {B B' : Addr → Prop}
theorem IsCellO.kp {M : Addr → Prop} {H H' : Hp} (k : Kp M H H') {c : Addr} {w : V} (h : IsCellO H c w) : IsCellO H' c w := by
  obtain ⟨ob, u, a3, a4, a5⟩ := h
  exact ⟨ob, u, k.keep _ _ a3 (fun _ z => nomatch z) (fun _ _ z => nomatch z), a4, a5⟩
mutual
theorem RS.kp0 {M : Addr → Prop} (hm : ∀ a, M a → B a) : ∀ {H H' : Hp} {v : V} {d : SV}, Kp M H H' → RS C B H v d → RS C B H' v d
  | _, _, _, _, k, .dat r => .dat (r.kp k hm)
  | _, _, _, _, _, .glob a b => .glob a b
  | _, _, _, _, k, .clo h1 h2 h3 h4 h5 h6 h7 h8 => .clo h1 (k.keep _ _ h2 (fun ps => fnU_ne ps) fun _ xs z => fnU_ne2 xs z) (k.keep _ _ h3 (fun ps => LamX.codeO_ne ps) fun _ xs z => by unfold LamX.CodeO at z; cases z) h4 h5 h6
      (fun i y e => by
        obtain ⟨c, w, a1, a2, a3⟩ := h7 i y e
        exact ⟨c, w, a1, a2, a3.kp k⟩) (RSs.kp0 hm (k.cut _) h8)
theorem RSs.kp0 {M : Addr → Prop} (hm : ∀ a, M a → B a) : ∀ {H H' : Hp} {vs : List V} {ds : List SV}, Kp M H H' → RSs C B H vs ds → RSs C B H' vs ds
  | _, _, _, _, _, .nil => .nil
  | _, _, _, _, k, .cons r t => .cons (RS.kp0 hm k r) (RSs.kp0 hm k t)
end
theorem RS.kp {M : Addr → Prop} {H H' : Hp} {v : V} {d : SV} (k : Kp M H H') (hm : ∀ a, M a → B a) (r : RS C B H v d) : RS C B H' v d := RS.kp0 hm k r
theorem RSs.kp {M : Addr → Prop} {H H' : Hp} {v : List V} {d : List SV} (k : Kp M H H') (hm : ∀ a, M a → B a) (r : RSs C B H v d) : RSs C B H' v d := RSs.kp0 hm k r
mutual
theorem RS.bad : ∀ {H : Hp} {v : V} {d : SV}, (∀ a, B' a → B a ∨ H a = Option.none) → RS C B H v d → RS C B' H v d
  | _, _, _, h, .dat r => .dat (r.bad h)
  | _, _, _, _, .glob a b => .glob a b
  | _, _, _, h, .clo h1 h2 h3 h4 h5 h6 h7 h8 => .clo h1 h2 h3 h4 h5 h6 h7 (RSs.bad (fun a z => (h a z).elim .inl fun q => .inr (cutH_none q)) h8)
theorem RSs.bad : ∀ {H : Hp} {vs : List V} {ds : List SV}, (∀ a, B' a → B a ∨ H a = Option.none) → RSs C B H vs ds → RSs C B' H vs ds
  | _, _, _, _, .nil => .nil
  | _, _, _, h, .cons r t => .cons (RS.bad h r) (RSs.bad h t)
end
end

/-! ### the state -/
def mutA (ρ : Env) (σ : L2.St) (a : Addr) : Prop := ∃ (i : Nat) (ds : List D), mutOf ρ[i]? = some ds ∧ σ[i]? = some (some (V.ref a))
def bad (Fb : Addr → Prop) (ρ : Env) (σ : L2.St) (a : Addr) : Prop := Fb a ∨ mutA ρ σ a
def RoL (K : PySem.W.Frag) (H : Hp) (a : Addr) (ns : List Int) : Prop := (∃ o, H a = some (.frz o (.lst (ns.map V.int)))) ∨ ∀ H', SqL K H' a (ns.map V.int)
theorem RoL.sq {K : PySem.W.Frag} {H : Hp} {a : Addr} {ns : List Int} (h : RoL K H a ns) : SqL K H a (ns.map V.int) := h.elim (fun ⟨o, h⟩ => .inl (.inr ⟨o, h⟩)) fun h => h H
theorem RoL.kp {K : PySem.W.Frag} {M : Addr → Prop} {H H' : Hp} {a : Addr} {ns : List Int} (h : RoL K H a ns) (k : Kp M H H') : RoL K H' a ns := h.elim (fun ⟨o, h⟩ => .inl ⟨o, k.keep _ _ h (fun _ z => nomatch z) fun _ _ z => nomatch z⟩) .inr
/-- a function that a def has just made stands in a slot -/
abbrev Mkd := Nat → Option V → Hp → Prop
structure Rel (C : Cn) (mk : Mkd) (Fb : Addr → Prop) (ρ : Env) (σ : L2.St) (H : Hp) : Prop where
  len : ρ.length = σ.length
  fb : ∀ a, Fb a → H a ≠ none
  val : ∀ (i : Nat) (s : SV), ρ[i]? = some (some s) → (∃ d, s = .dat d) ∨ (∃ F, s = .fn F) → ∃ v, σ[i]? = some (some v) ∧ RS C (bad Fb ρ σ) H v s
  mt : ∀ (i : Nat) (ds : List D), mutOf ρ[i]? = some ds → ∃ a xs, σ[i]? = some (some (V.ref a)) ∧ ¬ Fb a ∧ H a = some (.lst xs) ∧ RDs C.K H (bad Fb ρ σ) xs ds
  inj : ∀ (i j : Nat) (a : Addr), mutOf ρ[i]? ≠ none → mutOf ρ[j]? ≠ none → σ[i]? = some (some (V.ref a)) → σ[j]? = some (some (V.ref a)) → i = j
  ro : ∀ (i : Nat) (ns : List Int), ρ[i]? = some (some (.ro ns)) → ∃ a, σ[i]? = some (some (V.ref a)) ∧ RoL C.K H a ns
  mks : ∀ (i : Nat), ρ[i]? = some (some .mk) → ∃ v, σ[i]? = some (some v) ∧ mk i (some v) H
  tabs : NdefX.TabsN C.T H
end Ev
set_option Elab.async false
set_option linter.all false
set_option maxRecDepth 100000
set_option maxHeartbeats 1000000
namespace Ev
open PySem PySem.Spec PyProof.Rows L2
/-! ### rules by data -/
/-- the heap is as it was, or it has one new object (no code table) -/
inductive New (H : Hp) : Hp → Prop where
  | same : New H H
  | laid {p : Addr} {o : HO} : H p = none → New H (upd H p o)
theorem New.kp {M : Addr → Prop} {H H' : Hp} (n : New H H') : Kp M H H' := by
  cases n with
  | same => exact .refl
  | laid h => exact .laid h
theorem New.gr {H H' : Hp} (n : New H H') : ∀ b o, H b = some o → H' b = some o := by
  cases n with
  | same => exact fun _ _ h => h
  | laid h => exact fun b o e => by rw [upd_ne (ne_of_none e h)]; exact e
/-- what a step gives -/
def RVn (K : PySem.W.Frag) (H H' : Hp) (B : Addr → Prop) (v : V) : EV → Prop
  | .dat d => RD K H' B v d
  | .fresh ds => ∃ a xs, v = .ref a ∧ H a = none ∧ H' = upd H a (.lst xs) ∧ RDs K H B xs ds
theorem rvn_lst {K : PySem.W.Frag} {H : Hp} {B : Addr → Prop} {p : Addr} {xs : List V} {ds : List D} (h : H p = none) (r : RDs K H B xs ds) : RVn K H (upd H p (.lst xs)) B (.ref p) (.fresh ds) :=
  ⟨p, xs, rfl, h, rfl, r⟩
theorem rvn_tup {K : PySem.W.Frag} {H : Hp} {B : Addr → Prop} {p : Addr} {xs : List V} {ds : List D} (h : H p = none) (f : ds.all flatD = true) (r : RDs K H B xs ds) : RVn K H (upd H p (.tup xs)) B (.ref p) (.dat (.tuple ds)) :=
  .tup (.inl ⟨f, .inl (.inl upd_same)⟩) (r.kp (M := fun _ => False) (.laid h) fun _ z => z.elim)
/-- a new tuple -/
theorem new_tup {X : Cx} {pins : List (Addr × Obj)} {s : Shared} {σ : L2.St} {H : Hp} {B : Addr → Prop} {xs : List V} {ds : List D} {its : List Value} {Q : VK} {tk : Nat} (I : Inv X pins σ H s) (rv : Vals xs its) (hz : xs.length ≤ sizeLine) (r : RDs X.K H B xs ds)
    (q : ∀ v H', New H H' → RVn X.K H H' B v (.dat (.tuple ds)) → Q v H') : EP X pins σ Q (.ref s.heap.objs.size) { s with heap := s.heap.push { cls := .type "tuple", data := .seq its.toArray }, toks := tk } := by
  have hn := I.hok.fresh (Nat.le_refl _)
  by_cases f : ds.all flatD = true
  · refine ⟨.ref _, _, I.laid (t' := tk) (o := .tup xs) (fun b u e => Heap.get?_push_of_some _ e) (Nat.le_refl _) ?_, rfl, q _ _ (.laid hn) (rvn_tup hn f r)⟩
    exact ⟨hz, its, rv, IsTup.new _ _⟩
  · have f' : ds.all flatD = false := by simpa using f
    refine ⟨.ref _, _, I.laid (t' := tk) (o := .frz { cls := .type "tuple", data := .seq its.toArray } (.tup xs)) (fun b u e => Heap.get?_push_of_some _ e) (Nat.le_refl _) ?_, rfl, q _ _ (.laid hn) (.tup (.inr ⟨f', _, upd_same, rfl⟩) (r.kp (M := fun _ => False) (.laid hn) fun _ z => z.elim))⟩
    exact ⟨Heap.get?_push_size _ rfl, hz, its, rv, IsTup.new _ _⟩
def rD1 (K : PySem.W.Frag) (f : D → Option EV) : V → Hp → VK → Prop := fun x H Q => ∃ B d r, RD K H B x d ∧ f d = some r ∧ ∀ v H', New H H' → RVn K H H' B v r → Q v H'
def rD2 (K : PySem.W.Frag) (f : D → D → Option EV) : R2 := fun x y H Q => ∃ B d e r, RD K H B x d ∧ RD K H B y e ∧ f d e = some r ∧ ∀ v H', New H H' → RVn K H H' B v r → Q v H'
def rDs (K : PySem.W.Frag) (f : List D → Option EV) : List V → Hp → VK → Prop := fun xs H Q => ∃ B ds r, RDs K H B xs ds ∧ f ds = some r ∧ (∀ v H', New H H' → RVn K H H' B v r → Q v H') ∧ ∀ a, B a → H a ≠ none
section
variable {X : Cx}
theorem OpR.use {f : Value → Value → Sem Value} {r r' : R2} (h : OpR X f r) (e : ∀ x y H Q, r' x y H Q → r x y H Q) : OpR X f r' := fun pins s σ H x y v u Q I rx ry q => h pins s σ H x y v u Q I rx ry (e _ _ _ _ q)
theorem catT0 {pins : List (Addr × Obj)} {s : Shared} {σ : L2.St} {H : Hp} {a b : Addr} {ys : List V} {Q : VK} (I : Inv X pins σ H s) (ha : SqT X.K H a []) (hb : SqT X.K H b ys) (q : Q (.ref b) H) :
    wpAny (model X.prog X.w) X.A (binaryOp .Add (.ref a) (.ref b)) (EP X pins σ Q) X.xe s := by
  obtain ⟨its, r1, p1, _⟩ := I.tuple ha
  obtain ⟨its2, r2, p2, _⟩ := I.tuple hb
  cases r1
  obtain ⟨⟨cls, dd, data, sl⟩, ho, hc, n, hd⟩ := id p1
  obtain ⟨⟨cls2, dd2, data2, sl2⟩, ho2, hc2, n2, hd2⟩ := id p2
  simp only at hc hd hc2 hd2
  subst hc hd hc2 hd2
  exact concat_meets ⟨_, ho, rfl⟩ ⟨_, ho2, rfl⟩ noFill_tuple_add seq_tuple_add PySem.F.slot_tuple_add PySem.F.entry_tuple_add (PySem.F.args_tuple_add_2 _ _)
      (tuple_addW0 a b [].toArray its2.toArray n n2 dd dd2 sl sl2 (by simp)) ⟨ho, ho2, ⟨.ref b, H, I, rfl, q⟩⟩
theorem opD_add : OpR X (binaryOp .Add) (rD2 X.K (binD .Add)) := by
  intro pins s σ H x y v u Q I rx ry h
  obtain ⟨B, d, e, r, h1, h2, hf, q⟩ := h
  cases h1 with
  | int i =>
    cases h2 <;> simp [binD] at hf
    subst hf
    exact op_add pins s σ H _ _ v u Q I rx ry ⟨_, _, rfl, rfl, q _ _ .same (.int _)⟩
  | str z =>
    cases h2 <;> simp [binD] at hf
    obtain ⟨hl, rfl⟩ := hf
    exact op_add_str pins s σ H _ _ v u Q I rx ry ⟨_, _, rfl, rfl, hl, q _ _ .same (.str _)⟩
  | lst h1 n1 r1 =>
    cases h2 <;> simp [binD] at hf
    rename_i h2 n2 r2
    obtain ⟨hl, rfl⟩ := hf
    refine op_cat pins s σ H _ _ v u Q I rx ry ⟨_, _, _, _, rfl, rfl, h1, h2, by rw [r1.length, r2.length]; exact hl, fun p hp => q _ _ (.laid hp) (rvn_lst hp (r1.append r2))⟩
  | tup h1 r1 =>
    cases h2 <;> simp [binD] at hf
    rename_i h2 r2
    obtain ⟨hl, rfl⟩ := hf
    rename_i a xs ds b ys es
    obtain rfl : v = Value.ref a := rx
    obtain rfl : u = Value.ref b := ry
    by_cases hx : xs = []
    · subst hx
      cases r1
      exact catT0 I h1.sq h2.sq (q _ _ .same (.tup h2 r2))
    · obtain ⟨i1, v1, p1, _⟩ := I.tuple h1.sq
      obtain ⟨i2, v2, p2, _⟩ := I.tuple h2.sq
      refine HT.cat_tup p1 p2 (fun z => hx (v1.nil_iff.mp z)) (fun z => ?_) (fun _ => ?_) (by rw [← v1.length, ← v2.length, r1.length, r2.length]; exact hl)
      · have ey := v2.nil_iff.mp z
        subst ey
        cases r2
        rw [List.append_nil] at q
        exact ⟨.ref a, H, I, rfl, q _ _ .same (.tup h1 r1)⟩
      · exact new_tup I (v1.append v2) (by rw [List.length_append, r1.length, r2.length]; exact hl) (r1.append r2) q
  | non => cases h2 <;> simp [binD] at hf
  | bl b => cases h2 <;> simp [binD] at hf
  | dic h1 r1 => cases h2 <;> simp [binD] at hf
  | dit h1 r1 => cases h2 <;> simp [binD] at hf
theorem opD_int {op : Operator} {f : Int → Int → Option Int} {g : D → D → Option EV} (hg : ∀ d e r, g d e = some r → ∃ i j k, d = .int i ∧ e = .int j ∧ f i j = some k ∧ r = .dat (.int k))
    (h : ∀ i j k, f i j = some k → OpR X (binaryOp op) (fun x' y' H' Q' => x' = .int i ∧ y' = .int j ∧ Q' (.int k) H')) : OpR X (binaryOp op) (rD2 X.K g) := by
  intro pins s σ H x y v u Q I rx ry q
  obtain ⟨B, d, e, r, h1, h2, hf, q⟩ := q
  obtain ⟨i, j, k, rfl, rfl, hk, rfl⟩ := hg d e r hf
  cases h1
  cases h2
  exact h i j k hk pins s σ H _ _ v u Q I rx ry ⟨rfl, rfl, q _ _ .same (.int _)⟩
theorem opD_sub : OpR X (binaryOp .Sub) (rD2 X.K (binD .Sub)) := by
  refine opD_int (f := fun i j => some (i - j)) (fun d e r h => ?_) fun i j k hk => OpR.use op_sub fun x y H Q ⟨h1, h2, q⟩ => ⟨i, j, h1, h2, ?_⟩
  · cases d <;> cases e <;> simp [binD] at h
    exact ⟨_, _, _, rfl, rfl, rfl, h.symm⟩
  · cases hk; exact q
theorem RDs.rep {K : PySem.W.Frag} {H : Hp} {B : Addr → Prop} {xs : List V} {ds : List D} (r : RDs K H B xs ds) : ∀ k : Nat, RDs K H B (List.replicate k xs).flatten (List.replicate k ds).flatten
  | 0 => .nil
  | k + 1 => by
    rw [List.replicate_succ, List.replicate_succ, List.flatten_cons, List.flatten_cons]
    exact r.append (RDs.rep r k)
theorem opD_mulI : OpR X (binaryOp .Mult) (rD2 X.K fun d e => match d, e with | .int i, .int j => if mulOk i j then some (.dat (.int (i * j))) else none | _, _ => none) := by
  refine opD_int (f := fun i j => if mulOk i j then some (i * j) else none) (fun d e r h => ?_) fun i j k hk => OpR.use op_mulW fun x y H Q ⟨h1, h2, q⟩ => ?_
  · cases d <;> cases e <;> simp at h
    exact ⟨_, _, _, rfl, rfl, by rw [if_pos h.1], h.2.symm⟩
  · split at hk
    · rename_i hm
      cases hk
      exact ⟨i, j, h1, h2, of_decide_eq_true (p := i.natAbs.log2 + j.natAbs.log2 < 1000000) hm, q⟩
    · cases hk
theorem rep_tup {pins : List (Addr × Obj)} {s : Shared} {σ : L2.St} {H : Hp} {l : Addr} {B : Addr → Prop} {xs : List V} {ds : List D} {k : Int} {t : Tok} {Q : VK} (I : Inv X pins σ H s) (hT : SqT X.K H l xs) (hne : xs ≠ []) (h1 : 2 ≤ k) (h2 : k ≤ 1000) (hz : xs.length ≤ 1000) (rd : RDs X.K H B xs ds)
    (q : ∀ v H', New H H' → RVn X.K H H' B v (.dat (.tuple (List.replicate k.toNat ds).flatten)) → Q v H') : wpAny (model X.prog X.w) X.A (binaryOp .Mult (.ref l) (.int k t)) (EP X pins σ Q) X.xe s := by
  obtain ⟨its, r, ⟨⟨cls, dd, data, sl⟩, ho, hc, n, hd⟩, hs⟩ := I.tuple hT
  simp only at hc hd
  subst hc hd
  have hle : its.length = xs.length := r.length.symm
  have hn : its ≠ [] := fun e => hne (by
    rw [e] at hle
    exact List.eq_nil_of_length_eq_zero hle.symm)
  have hi : its.toArray.isEmpty = false := by
    cases its with
    | nil => exact absurd rfl hn
    | cons a b => rfl
  have hsz0 : its.toArray.size = xs.length := by rw [List.size_toArray, hle]
  have hm : ((its.toArray.size : Nat) : Int) * k ≤ 1000000 := by
    rw [hsz0]
    have a1 : ((xs.length : Nat) : Int) * k ≤ 1000 * k := Int.mul_le_mul_of_nonneg_right (by omega) (by omega)
    omega
  have rlen : (List.replicate k.toNat xs).flatten.length ≤ sizeLine := by
    rw [PyProof.Rows.lm_len_rep_flat, sizeLine_eq]
    have a1 : k.toNat * xs.length ≤ 1000 * 1000 := Nat.mul_le_mul (by omega) hz
    omega
  have flen : (List.replicate k.toNat its).flatten.length ≤ sizeLine := by
    rw [← (r.rep k.toNat).length]
    exact rlen
  have c0 : (decide (k < -(2 ^ 63)) || decide (k ≥ 2 ^ 63)) = false := by
    rw [decide_eq_false (by omega), decide_eq_false (by omega)] <;> rfl
  have c1 : (its.toArray.isEmpty || k == 1) = false := by
    rw [hi, Bool.false_or]
    exact beq_eq_false_iff_ne.mpr (by omega)
  have c2 : (decide (k ≤ 0) || its.toArray.isEmpty) = false := by
    rw [hi, Bool.or_false]
    exact decide_eq_false (by omega)
  have c4 : Builtin.Tuple.tupleTooMany (((its.toArray.size : Nat) : Int) * k) = false := by
    unfold Builtin.Tuple.tupleTooMany
    rw [sizeLine_eq]
    exact decide_eq_false (by omega)
  refine wpAny_binaryOp_repeat_ref (T := "tuple") (U := "int") (by decide) ⟨_, ho, rfl⟩ (fun s' => typeIs_int s' k t) noFill_tuple_mul F.fills_int_mul F.slot_int_rmul repeat_tuple F.slot_int_index.lookup
    (call_meets F.slot_int_rmul (typeIs_int s k t) F.entry_int_rmul (F.args_int_rmul_2 _ _) (int_rmul_tuple k t l its.toArray n dd sl)
      ⟨ho, rfl, ⟨_, ho, rfl⟩, call_meets F.slot_tuple_mul ⟨_, ho, rfl⟩ F.entry_tuple_mul (F.args_tuple_mul_2 _ _) (tuple_mulW l its.toArray n dd sl k t c0 c1 c2 (by omega) c4 (by rw [size_rep, List.size_toArray]; exact flen)) ⟨ho, ?_⟩⟩)
  rw [size_rep]
  exact new_tup I (r.rep k.toNat) rlen (rd.rep k.toNat) q
theorem opD_mul : OpR X (binaryOp .Mult) (rD2 X.K (binD .Mult)) := by
  intro pins s σ H x y v u Q I rx ry h
  obtain ⟨B, d, e, r, h1, h2, hf, q⟩ := h
  cases h1 with
  | int i =>
    cases h2 with
    | int j => exact opD_mulI pins s σ H _ _ v u Q I rx ry ⟨B, _, _, r, .int i, .int j, hf, q⟩
    | _ => simp [binD] at hf
  | tup g rd =>
    cases h2 with
    | int k =>
      simp only [binD] at hf
      split at hf
      · rename_i hh
        cases hf
        obtain ⟨a1, a2, a3, a4⟩ := hh
        cases rx
        obtain ⟨t, rfl⟩ := ry
        exact rep_tup I g.sq (fun z => by
          subst z
          cases rd
          cases a1) a2 a3 (by rw [rd.length]; exact a4) rd q
      · cases hf
    | _ => simp [binD] at hf
  | lst g nb rd =>
    cases h2 with
    | int k =>
      simp only [binD] at hf
      split at hf
      · rename_i hh
        cases hf
        obtain ⟨a1, a2, a3⟩ := hh
        have hl := rd.length
        rename_i a0 xs0 ds0
        have a4 : xs0.length * k.toNat ≤ 1000 * 1000 := Nat.mul_le_mul (by omega) (by omega)
        have a5 : xs0.length * k.toNat ≤ sizeLine := by
          rw [sizeLine_eq]
          omega
        exact op_rep pins s σ H _ _ v u Q I rx ry ⟨_, k, _, rfl, rfl, g, by omega, by omega, a5, fun p hp => q _ _ (.laid hp) (rvn_lst hp (rd.rep k.toNat))⟩
      · cases hf
    | _ => simp [binD] at hf
  | non => cases h2 <;> simp [binD] at hf
  | bl b => cases h2 <;> simp [binD] at hf
  | str z => cases h2 <;> simp [binD] at hf
  | dic g1 g2 => cases h2 <;> simp [binD] at hf
  | dit g1 g2 => cases h2 <;> simp [binD] at hf
theorem opD_fdiv : OpR X (binaryOp .FloorDiv) (rD2 X.K (binD .FloorDiv)) := by
  refine opD_int (f := fun i j => if divOk j then some (i / j) else none) (fun d e r h => ?_) fun i j k hk => OpR.use op_fdivW fun x y H Q ⟨h1, h2, q⟩ => ?_
  · cases d <;> cases e <;> simp [binD] at h
    exact ⟨_, _, _, rfl, rfl, by rw [if_pos h.1], h.2.symm⟩
  · split at hk
    · rename_i hm
      cases hk
      unfold divOk at hm
      simp only [Bool.and_eq_true, decide_eq_true_eq] at hm
      exact ⟨i, j, h1, h2, ⟨hm.1, hm.2⟩, q⟩
    · cases hk
theorem opD_mod : OpR X (binaryOp .Mod) (rD2 X.K (binD .Mod)) := by
  refine opD_int (f := fun i j => if 0 < j then some (i % j) else none) (fun d e r h => ?_) fun i j k hk => OpR.use op_mod fun x y H Q ⟨h1, h2, q⟩ => ?_
  · cases d <;> cases e <;> simp [binD] at h
    exact ⟨_, _, _, rfl, rfl, by rw [if_pos h.1], h.2.symm⟩
  · split at hk
    · rename_i hm
      cases hk
      exact ⟨i, j, h1, h2, hm, q⟩
    · cases hk
theorem opD_pow : OpR X (binaryOp .Pow) (rD2 X.K (binD .Pow)) := by
  refine opD_int (f := fun i j => if 0 ≤ j ∧ j ≤ 1000000 ∧ i.natAbs < 2 ^ 64 then some (i ^ j.toNat) else none) (fun d e r h => ?_) fun i j k hk => OpR.use op_pow fun x y H Q ⟨h1, h2, q⟩ => ?_
  · cases d <;> cases e <;> simp [binD] at h
    exact ⟨_, _, _, rfl, rfl, by rw [if_pos (by simpa using h.1)], h.2.symm⟩
  · split at hk
    · rename_i hm
      cases hk
      exact ⟨i, j, h1, h2, hm, q⟩
    · cases hk
theorem opD_bin (op : Operator) : OpR X (binaryOp op) (rD2 X.K (binD op)) := by
  have no : ∀ o : Operator, (∀ d e, binD o d e = none) → OpR X (binaryOp o) (rD2 X.K (binD o)) := fun o h pins s σ H x y v u Q I rx ry q => by
    obtain ⟨B, d, e, r, h1, h2, hf, q⟩ := q
    rw [h d e] at hf
    cases hf
  cases op
  case Add => exact opD_add
  case Sub => exact opD_sub
  case Mult => exact opD_mul
  case FloorDiv => exact opD_fdiv
  case Mod => exact opD_mod
  case Pow => exact opD_pow
  all_goals exact no _ fun d e => by cases d <;> cases e <;> rfl
end
end Ev
set_option Elab.async false
set_option linter.all false
set_option maxRecDepth 100000
set_option maxHeartbeats 1000000
namespace Ev
open PySem PySem.Spec PyProof.Rows L2
section
variable {X : Cx} {K : PySem.W.Frag} {H : Hp} {B : Addr → Prop}
mutual
theorem RD.dp : ∀ {v : V} {d : D}, RD K H B v d → d.canLay0 = true → Dp K H v d
  | _, _, .non, _ => .non
  | _, _, .bl b, _ => .bl b
  | _, _, .int i, _ => .int i
  | _, _, .str x, _ => .str x
  | _, _, .lst h n r, c => .lst (.inl (.inl h)) (RDs.dp r (by simpa [PyData.canLay0] using c))
  | _, _, .tup h r, c => .tup h.sq (RDs.dp r (by simpa [PyData.canLay0] using c))
  | _, _, .dic h n r, c => by simp [PyData.canLay0] at c
  | _, _, .dit h r, c => by simp [PyData.canLay0] at c
theorem RDs.dp : ∀ {vs : List V} {ds : List D}, RDs K H B vs ds → PyData.canLayAll0 ds = true → DpAll K H vs ds
  | _, _, .nil, _ => .nil
  | _, _, .cons r t, c => by
    rw [PyData.canLayAll0, Bool.and_eq_true] at c
    exact .cons (RD.dp r c.1) (RDs.dp t c.2)
end
theorem RD.sh {v : V} {d : D} (r : RD K H B v d) (h : SeqAt.shaped d = true) : Dp K H v d := r.dp (SeqAt.canLay_of_shaped h)
def cD (op : CmpOp) (x y : D) : Option EV := (cmpD op x y).map fun c => .dat (.bool c)
theorem opD_eq (hu : X.A.units + 65 < cLine) : OpR X (compareOp .Eq) (rD2 X.K (cD .Eq)) := by
  intro pins s σ H x y v u Q I rx ry h
  obtain ⟨B, d, e, r, h1, h2, hf, q⟩ := h
  simp only [cD, cmpD] at hf
  split at hf
  · rename_i hs
    simp only [Option.map_some, Option.some.injEq] at hf
    subst hf
    simp only [Bool.and_eq_true] at hs
    exact op_eqD (by omega) pins s σ H x y v u Q I rx ry ⟨d, e, h1.sh hs.1, h2.sh hs.2, hs.1, hs.2, q _ _ .same (.bl _)⟩
  · cases hf
theorem opD_ne (hu : X.A.units + 65 < cLine) : OpR X (compareOp .NotEq) (rD2 X.K (cD .NotEq)) := by
  intro pins s σ H x y v u Q I rx ry h
  obtain ⟨B, d, e, r, h1, h2, hf, q⟩ := h
  simp only [cD, cmpD] at hf
  split at hf
  · rename_i hs
    simp only [Option.map_some, Option.some.injEq] at hf
    subst hf
    simp only [Bool.and_eq_true] at hs
    exact op_neD (by omega) pins s σ H x y v u Q I rx ry ⟨d, e, h1.sh hs.1, h2.sh hs.2, hs.1, hs.2, q _ _ .same (.bl _)⟩
  · cases hf
theorem opD_lt : OpR X (compareOp .Lt) (rD2 X.K (cD .Lt)) := by
  intro pins s σ H x y v u Q I rx ry h
  obtain ⟨B, d, e, r, h1, h2, hf, q⟩ := h
  cases h1 with
  | int i =>
    cases h2 <;> simp [cD, cmpD] at hf
    subst hf
    exact op_lt pins s σ H _ _ v u Q I rx ry ⟨_, _, rfl, rfl, q _ _ .same (.bl _)⟩
  | str z =>
    cases h2 <;> first | (simp [cD, cmpD] at hf; done) | skip
    simp only [cD, cmpD, Option.map_some, Option.some.injEq] at hf
    subst hf
    exact op_lt_str pins s σ H _ _ v u Q I rx ry ⟨_, _, rfl, rfl, q _ _ .same (.bl _)⟩
  | lst h1 n1 r1 => cases h2 <;> simp [cD, cmpD] at hf
  | tup h1 r1 => cases h2 <;> simp [cD, cmpD] at hf
  | non => cases h2 <;> simp [cD, cmpD] at hf
  | bl b => cases h2 <;> simp [cD, cmpD] at hf
  | dic h1 r1 => cases h2 <;> simp [cD, cmpD] at hf
  | dit h1 r1 => cases h2 <;> simp [cD, cmpD] at hf
theorem opD_ii {op : CmpOp} {p : Int → Int → Bool} (hr : OpR X (compareOp op) (rI0 fun i j => .bl (p i j))) (hf : ∀ d e r, cD op d e = some r → ∃ i j, d = .int i ∧ e = .int j ∧ r = .dat (.bool (p i j))) : OpR X (compareOp op) (rD2 X.K (cD op)) := by
  intro pins s σ H x y v u Q I rx ry h
  obtain ⟨B, d, e, r, h1, h2, h3, q⟩ := h
  obtain ⟨i, j, rfl, rfl, rfl⟩ := hf d e r h3
  cases h1
  cases h2
  exact hr pins s σ H _ _ v u Q I rx ry ⟨_, _, rfl, rfl, q _ _ .same (.bl _)⟩
theorem opD_le : OpR X (compareOp .LtE) (rD2 X.K (cD .LtE)) := opD_ii op_le fun d e r h => by cases d <;> cases e <;> simp [cD, cmpD] at h; exact ⟨_, _, rfl, rfl, h.symm⟩
theorem opD_gt : OpR X (compareOp .Gt) (rD2 X.K (cD .Gt)) := opD_ii op_gt fun d e r h => by cases d <;> cases e <;> simp [cD, cmpD] at h; exact ⟨_, _, rfl, rfl, h.symm⟩
theorem opD_ge : OpR X (compareOp .GtE) (rD2 X.K (cD .GtE)) := opD_ii op_ge fun d e r h => by cases d <;> cases e <;> simp [cD, cmpD] at h; exact ⟨_, _, rfl, rfl, h.symm⟩
theorem opD_is : OpR X (compareOp .Is) (rD2 X.K (cD .Is)) := by
  intro pins s σ H x y v u Q I rx ry h
  obtain ⟨B, d, e, r, h1, h2, hf, q⟩ := h
  have he : e = .none ∨ ∃ a b, d = .bool a ∧ e = .bool b := by cases d <;> cases e <;> simp [cD, cmpD] at hf <;> simp
  rcases he with rfl | ⟨a, b, rfl, rfl⟩
  · cases h2
    have hr : r = .dat (.bool (decide (x = V.non))) := by cases h1 <;> simp [cD, cmpD] at hf <;> exact hf.symm
    subst hr
    exact op_isN pins s σ H _ _ v u Q I rx ry ⟨rfl, q _ _ .same (.bl _)⟩
  · cases h1
    cases h2
    cases (show v = Value.bool a from rx)
    cases (show u = Value.bool b from ry)
    have hr : r = .dat (.bool (decide (a = b))) := by simp [cD, cmpD] at hf; exact hf.symm
    subst hr
    by_cases e : a = b
    · subst e
      exact wpAny_is_self rfl ⟨.bl true, H, I, rfl, by simpa using q _ _ .same (.bl _)⟩
    · exact wpAny_is_other rfl (fun z => e (Value.bool.inj z)) ⟨.bl false, H, I, rfl, by simpa [e] using q _ _ .same (.bl _)⟩
theorem opD_isnot : OpR X (compareOp .IsNot) (rD2 X.K (cD .IsNot)) := by
  intro pins s σ H x y v u Q I rx ry h
  obtain ⟨B, d, e, r, h1, h2, hf, q⟩ := h
  have he : e = .none ∨ ∃ a b, d = .bool a ∧ e = .bool b := by cases d <;> cases e <;> simp [cD, cmpD] at hf <;> simp
  rcases he with rfl | ⟨a, b, rfl, rfl⟩
  · cases h2
    have hr : r = .dat (.bool (!decide (x = V.non))) := by cases h1 <;> simp [cD, cmpD] at hf <;> exact hf.symm
    subst hr
    exact op_notN pins s σ H _ _ v u Q I rx ry ⟨rfl, q _ _ .same (.bl _)⟩
  · cases h1
    cases h2
    cases (show v = Value.bool a from rx)
    cases (show u = Value.bool b from ry)
    have hr : r = .dat (.bool (!decide (a = b))) := by simp [cD, cmpD] at hf; exact hf.symm
    subst hr
    by_cases e : a = b
    · subst e
      exact wpAny_isNot_self rfl ⟨.bl false, H, I, rfl, by simpa using q _ _ .same (.bl _)⟩
    · exact wpAny_isNot_other rfl (fun z => e (Value.bool.inj z)) ⟨.bl true, H, I, rfl, by simpa [e] using q _ _ .same (.bl _)⟩
theorem inT (neg : Bool) (hu : X.A.units + 65 < cLine) {pins : List (Addr × Obj)} {s : Shared} {σ : L2.St} {H : Hp} {x y : V} {v u : Value} {d : D} {ds : List D} {Q : VK} (I : Inv X pins σ H s) (rx : L2.RelV x v) (ry : L2.RelV y u) (h1 : Dp X.K H x d) (h2 : Dp X.K H y (.tuple ds)) (s1 : SeqAt.shaped d = true)
    (s2 : SeqAt.shaped (.tuple ds) = true) (q : Q (.bl (if neg then !ds.any (fun z => PyData.eqv z d) else ds.any fun z => PyData.eqv z d)) H) : wpAny (model X.prog X.w) X.A (compareOp (if neg then .NotIn else .In) v u) (EP X pins σ Q) X.xe s := by
  obtain ⟨as, r1⟩ := Dp.reads I d x v h1 rx
  obtain ⟨bs, r2⟩ := Dp.reads I (.tuple ds) y u h2 ry
  cases neg with
  | false => exact SeqAt.in_tuple_reads r2 r1 (SeqAt.canLay_of_shaped s2) (SeqAt.canLay_of_shaped s1) (room_in_shaped s1 hu) ⟨.bl _, H, I, rfl, q⟩
  | true => exact SeqAt.notIn_tuple_reads r2 r1 (SeqAt.canLay_of_shaped s2) (SeqAt.canLay_of_shaped s1) (room_in_shaped s1 hu) ⟨.bl _, H, I, rfl, q⟩
theorem opD_in (hu : X.A.units + 65 < cLine) : OpR X (compareOp .In) (rD2 X.K (cD .In)) := by
  intro pins s σ H x y v u Q I rx ry h
  obtain ⟨B, d, e, r, h1, h2, hf, q⟩ := h
  cases h2 with
  | str z =>
    cases h1 <;> simp [cD, cmpD] at hf
    subst hf
    exact op_in_str pins s σ H _ _ v u Q I rx ry ⟨_, _, rfl, rfl, q _ _ .same (by simpa using .bl _)⟩
  | lst g1 n1 r1 =>
    simp only [cD, cmpD] at hf
    split at hf
    · rename_i hs
      simp only [Option.map_some, Option.some.injEq] at hf
      subst hf
      simp only [Bool.and_eq_true] at hs
      exact op_inD hu pins s σ H _ _ v u Q I rx ry ⟨d, _, h1.sh hs.1, (RD.lst g1 n1 r1).sh hs.2, hs.1, hs.2, q _ _ .same (.bl _)⟩
    · cases hf
  | tup g1 r1 =>
    simp only [cD, cmpD] at hf
    split at hf
    · rename_i hs
      simp only [Option.map_some, Option.some.injEq] at hf
      subst hf
      simp only [Bool.and_eq_true] at hs
      exact inT false hu I rx ry (h1.sh hs.1) ((RD.tup g1 r1).sh hs.2) hs.1 hs.2 (q _ _ .same (.bl _))
    · cases hf
  | non => cases h1 <;> simp [cD, cmpD] at hf
  | bl b => cases h1 <;> simp [cD, cmpD] at hf
  | int b => cases h1 <;> simp [cD, cmpD] at hf
  | dic g1 r1 => cases h1 <;> simp [cD, cmpD] at hf
  | dit g1 r1 => cases h1 <;> simp [cD, cmpD] at hf
theorem opD_notin (hu : X.A.units + 65 < cLine) : OpR X (compareOp .NotIn) (rD2 X.K (cD .NotIn)) := by
  intro pins s σ H x y v u Q I rx ry h
  obtain ⟨B, d, e, r, h1, h2, hf, q⟩ := h
  cases h2 with
  | str z =>
    cases h1 <;> simp [cD, cmpD] at hf
    subst hf
    exact op_notin_str pins s σ H _ _ v u Q I rx ry ⟨_, _, rfl, rfl, q _ _ .same (by simpa using .bl _)⟩
  | lst g1 n1 r1 =>
    simp only [cD, cmpD] at hf
    split at hf
    · rename_i hs
      simp only [Option.map_some, Option.some.injEq] at hf
      subst hf
      simp only [Bool.and_eq_true] at hs
      exact op_notInD hu pins s σ H _ _ v u Q I rx ry ⟨d, _, h1.sh hs.1, (RD.lst g1 n1 r1).sh hs.2, hs.1, hs.2, q _ _ .same (.bl _)⟩
    · cases hf
  | tup g1 r1 =>
    simp only [cD, cmpD] at hf
    split at hf
    · rename_i hs
      simp only [Option.map_some, Option.some.injEq] at hf
      subst hf
      simp only [Bool.and_eq_true] at hs
      exact inT true hu I rx ry (h1.sh hs.1) ((RD.tup g1 r1).sh hs.2) hs.1 hs.2 (q _ _ .same (.bl _))
    · cases hf
  | non => cases h1 <;> simp [cD, cmpD] at hf
  | bl b => cases h1 <;> simp [cD, cmpD] at hf
  | int b => cases h1 <;> simp [cD, cmpD] at hf
  | dic g1 r1 => cases h1 <;> simp [cD, cmpD] at hf
  | dit g1 r1 => cases h1 <;> simp [cD, cmpD] at hf
theorem opD_cmp (op : CmpOp) (hu : X.A.units + 65 < cLine) : OpR X (compareOp op) (rD2 X.K (cD op)) := by
  cases op
  case Eq => exact opD_eq hu
  case NotEq => exact opD_ne hu
  case Lt => exact opD_lt
  case LtE => exact opD_le
  case Gt => exact opD_gt
  case GtE => exact opD_ge
  case Is => exact opD_is
  case IsNot => exact opD_isnot
  case In => exact opD_in hu
  case NotIn => exact opD_notin hu
/-! ### subscripts -/
def iD (x y : D) : Option EV := (ixD x y).map .dat
theorem RDs.atI {vs : List V} {ds : List D} {i : Int} {d : D} (r : RDs K H B vs ds) (h : L2.atI ds i = some d) : ∃ v, L2.atI vs i = some v ∧ RD K H B v d := by
  unfold L2.atI at h ⊢
  rw [← r.length] at h
  cases e : ixN vs.length i with
  | none => rw [e] at h; cases h
  | some j =>
    rw [e] at h
    obtain ⟨v, h1, h2⟩ := r.getD (show ds[j]? = some d from h)
    exact ⟨v, h1, h2⟩
theorem dic_find {k : D} {key : Key} (hk : ∀ q : Key, PyData.eqv (keyD q) k = decide (q = key)) : ∀ {kvs : List (Key × V)} {ds : List D} {d : D}, RDs K H B (kvs.map (·.2)) ds → (((kvs.map fun kv => keyD kv.1).zip ds).find? fun kv => PyData.eqv kv.1 k).map (·.2) = some d →
    ∃ v, valV kvs key = some v ∧ RD K H B v d
  | [], ds, d, r, h => by simp at h
  | (q, v) :: kvs, ds, d, r, h => by
    cases r with
    | cons r t =>
      rename_i d0 ds0
      simp only [List.map_cons, List.zip_cons_cons, List.find?_cons, hk] at h
      unfold valV
      rw [List.find?_cons]
      by_cases e : q = key
      · subst e
        simp at h ⊢
        subst h
        exact r
      · rw [decide_eq_false e] at h
        have e2 : decide ((q, v).1 = key) = false := decide_eq_false e
        rw [e2]
        exact dic_find hk t h
theorem eqv_key_str (k : Str) (q : Key) : PyData.eqv (keyD q) (.str k) = decide (q = Sum.inr k) := by
  cases q with
  | inl i => simp [keyD, PyData.eqv]
  | inr z =>
    simp only [keyD, PyData.eqv]
    by_cases e : z = k
    · subst e; simp
    · rw [decide_eq_false (fun q => e (Sum.inr.inj q))]
      exact beq_eq_false_iff_ne.mpr e
theorem eqv_key_int (k : Int) (q : Key) : PyData.eqv (keyD q) (.int k) = decide (q = Sum.inl k) := by
  cases q with
  | inr i => simp [keyD, PyData.eqv]
  | inl z =>
    simp only [keyD, PyData.eqv]
    by_cases e : z = k
    · subst e; simp
    · rw [decide_eq_false (fun q => e (Sum.inl.inj q))]
      exact beq_eq_false_iff_ne.mpr e
theorem dit_find {k : D} (hk : ∀ q : List Key, PyData.eqv (.tuple (q.map keyD)) k = false) : ∀ {kvs : List (List Key × V)} {ds : List D}, (((kvs.map fun kv => PyData.tuple (kv.1.map keyD)).zip ds).find? fun kv => PyData.eqv kv.1 k).map (·.2) = none
  | [], ds => by simp
  | (q, v) :: kvs, [] => by simp
  | (q, v) :: kvs, d :: ds => by
    simp only [List.map_cons, List.zip_cons_cons, List.find?_cons, hk]
    exact dit_find hk
theorem ixD_ok (hu : X.A.units + 65 < cLine) : IxR X (rD2 X.K iD) := by
  intro value slice pins s σ H x y v u Q I rx ry h hs
  obtain ⟨B, d, e, r, h1, h2, hf, q⟩ := h
  cases h1 with
  | lst g n r1 =>
    cases h2 <;> simp [iD, ixD] at hf
    obtain ⟨z, h3, rfl⟩ := hf
    obtain ⟨w, h4, h5⟩ := r1.atI h3
    exact ix_list value slice pins s σ H _ _ v u Q I rx ry ⟨_, _, _, w, rfl, rfl, .inl (.inl g), h4, q _ _ .same h5⟩ hs
  | tup g r1 =>
    cases h2 <;> simp [iD, ixD] at hf
    obtain ⟨z, h3, rfl⟩ := hf
    obtain ⟨w, h4, h5⟩ := r1.atI h3
    exact ix_tup value slice pins s σ H _ _ v u Q I rx ry ⟨_, _, _, w, rfl, rfl, g.sq, h4, q _ _ .same h5⟩ hs
  | str z =>
    cases h2 <;> simp [iD, ixD] at hf
    obtain ⟨_, ⟨h3, c, h4, rfl⟩, rfl⟩ := hf
    exact ix_str value slice pins s σ H _ _ v u Q I rx ry ⟨_, _, c, rfl, rfl, h3, h4, q _ _ .same (.str _)⟩ hs
  | @dic a kvs ds g _ r1 =>
    obtain rfl : v = Value.ref a := rx
    cases h2 with
    | str k =>
      simp only [iD, ixD, Option.map_eq_some_iff] at hf
      obtain ⟨z, hz, rfl⟩ := hf
      obtain ⟨w, h4, h5⟩ := dic_find (eqv_key_str k) r1 (by simpa using hz)
      have gd : DGet H a (V.str k) (some w) := h4 ▸ DGet.k (k := Sum.inr k) g
      exact tail_any (dict_typeIs I gd) PySem.F.slot_dict_getitem.lookup (d_getItem (by omega) I gd ry fun w' s3 I3 rw' => ⟨w, H, I3, rw', q _ _ .same h5⟩) hs
    | int k =>
      simp only [iD, ixD, Option.map_eq_some_iff] at hf
      obtain ⟨z, hz, rfl⟩ := hf
      obtain ⟨w, h4, h5⟩ := dic_find (eqv_key_int k) r1 (by simpa using hz)
      have gd : DGet H a (V.int k) (some w) := h4 ▸ DGet.k (k := Sum.inl k) g
      exact tail_any (dict_typeIs I gd) PySem.F.slot_dict_getitem.lookup (d_getItem (by omega) I gd ry fun w' s3 I3 rw' => ⟨w, H, I3, rw', q _ _ .same h5⟩) hs
    | non => simp [iD, ixD] at hf
    | bl b => simp [iD, ixD] at hf
    | lst g2 n2 r2 => simp [iD, ixD] at hf
    | tup g2 r2 => simp [iD, ixD] at hf
    | dic g2 r2 => simp [iD, ixD] at hf
    | dit g2 r2 => simp [iD, ixD] at hf
  | dit g r1 =>
    cases h2 with
    | str k =>
      simp only [iD, ixD, Option.map_eq_some_iff] at hf
      obtain ⟨z, hz, rfl⟩ := hf
      rw [← Option.map_eq_some_iff, dit_find (fun q => by simp [PyData.eqv])] at hz
      cases hz
    | int k =>
      simp only [iD, ixD, Option.map_eq_some_iff] at hf
      obtain ⟨z, hz, rfl⟩ := hf
      rw [← Option.map_eq_some_iff, dit_find (fun q => by simp [PyData.eqv])] at hz
      cases hz
    | non => simp [iD, ixD] at hf
    | bl b => simp [iD, ixD] at hf
    | lst g2 n2 r2 => simp [iD, ixD] at hf
    | tup g2 r2 => simp [iD, ixD] at hf
    | dic g2 r2 => simp [iD, ixD] at hf
    | dit g2 r2 => simp [iD, ixD] at hf
  | non => cases h2 <;> simp [iD, ixD] at hf
  | bl b => cases h2 <;> simp [iD, ixD] at hf
  | int b => cases h2 <;> simp [iD, ixD] at hf
end
end Ev
set_option Elab.async false
set_option linter.all false
set_option maxRecDepth 100000
set_option maxHeartbeats 1000000
namespace Ev
open PySem PySem.Spec PyProof.Rows L2
section
variable {X : Cx} {K : PySem.W.Frag} {H : Hp} {B : Addr → Prop}
/-! ### a type asked for -/
def clsName : D → String
  | .none => "NoneType"
  | .bool _ => "bool"
  | .int _ => "int"
  | .str _ => "str"
  | .list _ => "list"
  | .tuple _ => "tuple"
  | .dict _ => "dict"
theorem RD.tyx {v : V} {d : D} (r : RD K H B v d) : TyX K H v (.type (clsName d)) := by
  cases r with
  | non => exact .base .non
  | bl b => exact .base (.bl b)
  | int i => exact .base (.int i)
  | str x => exact .base (.str x)
  | lst h _ _ => exact .base (.lst h)
  | tup h _ =>
    rcases h.sq with (h | ⟨o, h⟩) | ⟨o, its, n, h, hc, _⟩
    · exact .base (.tup h)
    · exact .fTuple h
    · exact .kTuple h hc
  | dic h _ => exact .base (.dK h)
  | dit h _ => exact .base (.dT h)
theorem isi_kit (K : PySem.W.Frag) {d : D} {c : String} {b : Bool} (h : isiD d c = some b) : PySem.W.kitOne K (.type (clsName d)) (.type c) = some b := by
  unfold isiD at h
  split at h
  all_goals (try cases h)
  all_goals (cases d <;> exact kit_ty (by dsimp only [clsName]; decide +kernel))
theorem isi_ok : CallR X (.builtin "isinstance") (fun xs H Q => ∃ B v d c b, xs = [v, .ty c] ∧ RD X.K H B v d ∧ isiD d c = some b ∧ Q (.bl b) H) := by
  intro pins s σ H xs us Q I r h
  obtain ⟨B, v, d, c, b, rfl, rd, hb, q⟩ := h
  exact call_isi pins s σ H _ us Q I r ⟨v, .ty c, _, .type c, b, rfl, by first | exact .ty c | exact rfl | constructor, rd.tyx, isi_kit X.K hb, q⟩
/-! ### built-ins by data -/
theorem maxL_mem : ∀ (ns : List Int), ns ≠ [] → maxL ns ∈ ns ∧ ∀ y ∈ ns, y ≤ maxL ns
  | [], h => absurd rfl h
  | [x], _ => by simp [maxL]
  | x :: y :: r, _ => by
    obtain ⟨h1, h2⟩ := maxL_mem (y :: r) (by simp)
    rw [maxL]
    refine ⟨?_, fun z hz => ?_⟩
    · rcases Int.le_total x (maxL (y :: r)) with q | q
      · rw [Int.max_eq_right q]; exact List.mem_cons_of_mem _ h1
      · rw [Int.max_eq_left q]; exact List.mem_cons_self
    · rcases List.mem_cons.mp hz with rfl | hz
      · omega
      · have := h2 z hz
        omega
theorem minL_mem : ∀ (ns : List Int), ns ≠ [] → minL ns ∈ ns ∧ ∀ y ∈ ns, minL ns ≤ y
  | [], h => absurd rfl h
  | [x], _ => by simp [minL]
  | x :: y :: r, _ => by
    obtain ⟨h1, h2⟩ := minL_mem (y :: r) (by simp)
    rw [minL]
    refine ⟨?_, fun z hz => ?_⟩
    · rcases Int.le_total x (minL (y :: r)) with q | q
      · rw [Int.min_eq_left q]; exact List.mem_cons_self
      · rw [Int.min_eq_right q]; exact List.mem_cons_of_mem _ h1
    · rcases List.mem_cons.mp hz with rfl | hz
      · omega
      · have := h2 z hz
        omega
theorem chars_rds (z : Str) : RDs K H B (z.cps.toList.map fun c => V.str ⟨#[c]⟩) (chars z) := by
  unfold chars
  induction z.cps.toList with
  | nil => exact .nil
  | cons c r ih => exact .cons (.str _) ih
theorem CallR.use {f : Value} {r r' : List V → Hp → VK → Prop} (h : CallR X f r) (e : ∀ xs H Q, r' xs H Q → r xs H Q) : CallR X f r' := fun pins s σ H vs us Q I rr q => h pins s σ H vs us Q I rr (e _ _ _ q)
theorem rds1 {vs : List V} {d : D} (r : RDs K H B vs [d]) : ∃ v, vs = [v] ∧ RD K H B v d := by
  cases r with
  | cons r t => cases t; exact ⟨_, rfl, r⟩
theorem rds2 {vs : List V} {d e : D} (r : RDs K H B vs [d, e]) : ∃ v w, vs = [v, w] ∧ RD K H B v d ∧ RD K H B w e := by
  cases r with
  | cons r t =>
    cases t with
    | cons r2 t => cases t; exact ⟨_, _, rfl, r, r2⟩
def bval : String → Value
  | "int" => .type "int"
  | "list" => .type "list"
  | "tuple" => .type "tuple"
  | "dict" => .type "dict"
  | "str" => .type "str"
  | id => .builtin id
theorem b_len : CallR X (.builtin "len") (rDs X.K (bltD "len")) := by
  intro pins s σ H xs us Q I r h
  obtain ⟨B, ds, e, hr, hf, q, hB⟩ := h
  match ds, hf with
  | [.list ys], hf =>
    obtain ⟨v, rfl, rv⟩ := rds1 hr
    simp only [bltD, Option.some.injEq] at hf; subst hf
    cases rv with
    | lst g n rr => exact call_len_seq pins s σ H _ us Q I r ⟨_, _, rfl, .inl (.inl (.inl g)), by rw [rr.length]; exact q _ _ .same (.int _)⟩
  | [.tuple ys], hf =>
    obtain ⟨v, rfl, rv⟩ := rds1 hr
    simp only [bltD, Option.some.injEq] at hf; subst hf
    cases rv with
    | tup g rr => exact call_len_seq pins s σ H _ us Q I r ⟨_, _, rfl, .inr g.sq, by rw [rr.length]; exact q _ _ .same (.int _)⟩
  | [.str z], hf =>
    obtain ⟨v, rfl, rv⟩ := rds1 hr
    simp only [bltD] at hf
    split at hf
    · rename_i hz
      simp only [Option.some.injEq] at hf; subst hf
      cases rv
      exact call_len_str pins s σ H _ us Q I r ⟨z, rfl, hz, q _ _ .same (.int _)⟩
    · cases hf
  | [.dict kvs], hf =>
    obtain ⟨v, rfl, rv⟩ := rds1 hr
    simp only [bltD, Option.some.injEq] at hf; subst hf
    cases rv with
    | @dic a kvs ds g _ rr =>
      have e : ((kvs.map fun kv => keyD kv.1).zip ds).length = kvs.length := by
        have := rr.length
        simp only [List.length_map] at this
        simp [this]
      exact call_lenD pins s σ H _ us Q I r ⟨_, _, rfl, g, by rw [e] at q; exact q _ _ .same (.int _)⟩
    | dit g rr =>
      rename_i a kvs ds
      have e : ((kvs.map fun kv => PyData.tuple (kv.1.map keyD)).zip ds).length = kvs.length := by
        have := rr.length
        simp only [List.length_map] at this
        simp [this]
      exact call_len_dT pins s σ H _ us Q I r ⟨_, _, rfl, g, by rw [e] at q; exact q _ _ .same (.int _)⟩
theorem b_abs : CallR X (.builtin "abs") (rDs X.K (bltD "abs")) := by
  intro pins s σ H xs us Q I r h
  obtain ⟨B, ds, e, hr, hf, q, hB⟩ := h
  match ds, hf with
  | [.int i], hf =>
    obtain ⟨v, rfl, rv⟩ := rds1 hr
    simp only [bltD, Option.some.injEq] at hf; subst hf
    cases rv
    refine call_abs pins s σ H _ us Q I r ⟨_, rfl, ?_⟩
    have e : (if i < 0 then -i else i) = (i.natAbs : Int) := by split <;> omega
    rw [e]
    exact q _ _ .same (.int _)
theorem b_int : CallR X (.type "int") (rDs X.K (bltD "int")) := by
  intro pins s σ H xs us Q I r h
  obtain ⟨B, ds, e, hr, hf, q, hB⟩ := h
  match ds, hf with
  | [.int i], hf =>
    obtain ⟨v, rfl, rv⟩ := rds1 hr
    simp only [bltD, Option.some.injEq] at hf; subst hf
    cases rv
    exact call_int1 pins s σ H _ us Q I r (.inl ⟨_, rfl, q _ _ .same (.int _)⟩)
  | [.bool b], hf =>
    obtain ⟨v, rfl, rv⟩ := rds1 hr
    simp only [bltD, Option.some.injEq] at hf; subst hf
    cases rv
    exact call_int1 pins s σ H _ us Q I r (.inr ⟨_, rfl, q _ _ .same (.int _)⟩)
theorem b_max (hc : X.calm = true) : CallR X (.builtin "max") (rDs X.K (bltD "max")) := by
  intro pins s σ H xs us Q I r h
  obtain ⟨B, ds, e, hr, hf, q, hB⟩ := h
  match ds, hf with
  | [.int i, .int j], hf =>
    obtain ⟨v, w, rfl, rv, rw'⟩ := rds2 hr
    simp only [bltD, Option.some.injEq] at hf; subst hf
    cases rv; cases rw'
    refine call_max2 hc pins s σ H _ us Q I r ⟨_, _, rfl, ?_⟩
    have e : (if j > i then j else i) = max i j := by split <;> omega
    rw [e]
    exact q _ _ .same (.int _)
  | [.list ys], hf =>
    obtain ⟨v, rfl, rv⟩ := rds1 hr
    simp only [bltD] at hf
    split at hf
    · rename_i i t hi
      simp only [Option.some.injEq] at hf; subst hf
      cases rv with
      | lst g n rr =>
        rw [ints?_eq hi] at rr
        have ex := rr.ints
        subst ex
        refine cr_max hc pins s σ H _ us Q I r ⟨_, i :: t, rfl, .inl (.inl g), by simp, fun m hm hy => ?_⟩
        obtain ⟨h1, h2⟩ := maxL_mem (i :: t) (by simp)
        have e : m = maxL (i :: t) := Int.le_antisymm (h2 m hm) (hy _ h1)
        rw [e]
        exact q _ _ .same (.int _)
    · cases hf
theorem b_min (hc : X.calm = true) : CallR X (.builtin "min") (rDs X.K (bltD "min")) := by
  intro pins s σ H xs us Q I r h
  obtain ⟨B, ds, e, hr, hf, q, hB⟩ := h
  match ds, hf with
  | [.int i, .int j], hf =>
    obtain ⟨v, w, rfl, rv, rw'⟩ := rds2 hr
    simp only [bltD, Option.some.injEq] at hf; subst hf
    cases rv; cases rw'
    refine call_min2 hc pins s σ H _ us Q I r ⟨_, _, rfl, ?_⟩
    have e : (if j < i then j else i) = min i j := by split <;> omega
    rw [e]
    exact q _ _ .same (.int _)
  | [.list ys], hf =>
    obtain ⟨v, rfl, rv⟩ := rds1 hr
    simp only [bltD] at hf
    split at hf
    · rename_i i t hi
      simp only [Option.some.injEq] at hf; subst hf
      cases rv with
      | lst g n rr =>
        rw [ints?_eq hi] at rr
        have ex := rr.ints
        subst ex
        refine cr_min hc pins s σ H _ us Q I r ⟨_, i :: t, rfl, .inl (.inl g), by simp, fun m hm hy => ?_⟩
        obtain ⟨h1, h2⟩ := minL_mem (i :: t) (by simp)
        have e : m = minL (i :: t) := Int.le_antisymm (hy _ h1) (h2 m hm)
        rw [e]
        exact q _ _ .same (.int _)
    · cases hf
theorem b_sum (hc : X.calm = true) : CallR X (.builtin "sum") (rDs X.K (bltD "sum")) := by
  intro pins s σ H xs us Q I r h
  obtain ⟨B, ds, e, hr, hf, q, hB⟩ := h
  match ds, hf with
  | [.list ys], hf =>
    obtain ⟨v, rfl, rv⟩ := rds1 hr
    simp only [bltD, Option.map_eq_some_iff] at hf
    obtain ⟨ns, hi, rfl⟩ := hf
    cases rv with
    | lst g n rr =>
      rw [ints?_eq hi] at rr
      have ex := rr.ints
      subst ex
      exact cr_sum hc pins s σ H _ us Q I r ⟨_, ns, rfl, .inl (.inl g), q _ _ .same (.int _)⟩
theorem b_all (hc : X.calm = true) : CallR X (.builtin "all") (rDs X.K (bltD "all")) := by
  intro pins s σ H xs us Q I r h
  obtain ⟨B, ds, e, hr, hf, q, hB⟩ := h
  match ds, hf with
  | [.list ys], hf =>
    obtain ⟨v, rfl, rv⟩ := rds1 hr
    simp only [bltD, Option.map_eq_some_iff] at hf
    obtain ⟨ns, hi, rfl⟩ := hf
    cases rv with
    | lst g n rr =>
      rw [bools?_eq hi] at rr
      have ex := rr.bls
      subst ex
      exact cr_all hc pins s σ H _ us Q I r ⟨_, ns, rfl, .inl (.inl g), q _ _ .same (.bl _)⟩
theorem b_any (hc : X.calm = true) : CallR X (.builtin "any") (rDs X.K (bltD "any")) := by
  intro pins s σ H xs us Q I r h
  obtain ⟨B, ds, e, hr, hf, q, hB⟩ := h
  match ds, hf with
  | [.list ys], hf =>
    obtain ⟨v, rfl, rv⟩ := rds1 hr
    simp only [bltD, Option.map_eq_some_iff] at hf
    obtain ⟨ns, hi, rfl⟩ := hf
    cases rv with
    | lst g n rr =>
      rw [bools?_eq hi] at rr
      have ex := rr.bls
      subst ex
      exact cr_any hc pins s σ H _ us Q I r ⟨_, ns, rfl, .inl (.inl g), q _ _ .same (.bl _)⟩
theorem paired_of_get {α β : Type} {R : α → β → Prop} : ∀ {xs : List α} {ys : List β}, xs.length = ys.length → (∀ (i : Nat) x y, xs[i]? = some x → ys[i]? = some y → R x y) → Paired R xs ys
  | [], [], _, _ => .nil
  | x :: xs, y :: ys, hl, h => .cons (h 0 x y rfl rfl) (paired_of_get (by simpa using hl) fun i a b ha hb => h (i + 1) a b (by simpa using ha) (by simpa using hb))
theorem sign_vals {z : Str} {acc : Array Value} (h : ItemsOf (SignAt z) acc z.cps.size) : Vals (z.cps.toList.map fun c => V.str ⟨#[c]⟩) acc.toList := by
  obtain ⟨hsz, hv⟩ := h
  refine paired_of_get (by rw [List.length_map, Array.length_toList, Array.length_toList]; exact hsz.symm) fun i x u hx hu => ?_
  rw [Array.getElem?_toList] at hu
  obtain ⟨c, t, hc, rfl⟩ := hv i u hu
  rw [List.getElem?_map, Array.getElem?_toList, hc] at hx
  cases hx
  exact ⟨t, rfl⟩
theorem b_list (hc : X.calm = true) : CallR X (.type "list") (rDs X.K (bltD "list")) := by
  intro pins s σ H xs us Q I r h
  obtain ⟨B, ds, e, hr, hf, q, hB⟩ := h
  match ds, hf with
  | [.list ys], hf =>
    obtain ⟨v, rfl, rv⟩ := rds1 hr
    simp only [bltD, Option.some.injEq] at hf; subst hf
    cases rv with
    | lst g n rr => exact call_list_of pins s σ H _ us Q I r ⟨_, _, rfl, .inl (.inl (.inl g)), fun l hl => q _ _ (.laid hl) (rvn_lst hl rr)⟩
  | [.tuple ys], hf =>
    obtain ⟨v, rfl, rv⟩ := rds1 hr
    simp only [bltD, Option.some.injEq] at hf; subst hf
    cases rv with
    | tup g rr => exact call_list_of pins s σ H _ us Q I r ⟨_, _, rfl, .inr g.sq, fun l hl => q _ _ (.laid hl) (rvn_lst hl rr)⟩
  | [.str z], hf =>
    obtain ⟨v, rfl, rv⟩ := rds1 hr
    simp only [bltD] at hf
    split at hf
    · rename_i hz
      simp only [Option.some.injEq] at hf; subst hf
      cases rv
      obtain ⟨u, rfl, t, rfl⟩ := vals1 r
      refine PySem.call_list_str (I.ok.hd hc) z t (fun h' tk acc c' hk hS ha => ?_) hz
      have hf := I.hok.fresh (Nat.le_refl _)
      refine ⟨.ref s.heap.objs.size, upd H s.heap.objs.size (.lst (z.cps.toList.map fun c => V.str ⟨#[c]⟩)), I.laid (t' := tk) hk (Nat.le_refl _) ?_, rfl, q _ _ (.laid hf) (rvn_lst hf (chars_rds z))⟩
      exact ⟨by rw [List.length_map, Array.length_toList]; exact hz, acc.toList, c', sign_vals ha, by simpa using hS⟩
    · cases hf
theorem b_tuple : CallR X (.type "tuple") (rDs X.K (bltD "tuple")) := by
  intro pins s σ H xs us Q I r h
  obtain ⟨B, ds, e, hr, hf, q, hB⟩ := h
  match ds, hf with
  | [.list ys], hf =>
    obtain ⟨v, rfl, rv⟩ := rds1 hr
    simp only [bltD, Option.some.injEq] at hf; subst hf
    cases rv with
    | lst g n rr =>
      obtain ⟨u, rfl, ru⟩ := vals1 r
      cases ru
      obtain ⟨its, vi, pl, hz⟩ := I.list (.inl (.inl g))
      have hlen := vi.length
      refine call_tuple_list pl.isList (fun h' kp => ?_) (by simp only [List.size_toArray]; omega)
      have J : Inv X pins σ H { s with heap := h' } := I.kept (t' := s.toks) kp
      exact new_tup (s := { s with heap := h' }) (tk := s.toks) J vi hz rr q
  | [.tuple ys], hf =>
    obtain ⟨v, rfl, rv⟩ := rds1 hr
    simp only [bltD, Option.some.injEq] at hf; subst hf
    cases rv with
    | tup g rr => exact call_tuple_of pins s σ H _ us Q I r ⟨_, _, rfl, .inr ⟨g.sq, q _ _ .same (.tup g rr)⟩⟩
theorem b_divmod : CallR X (.builtin "divmod") (rDs X.K (bltD "divmod")) := by
  intro pins s σ H xs us Q I r h
  obtain ⟨B, ds, e, hr, hf, q, hB⟩ := h
  match ds, hf with
  | [.int i, .int j], hf =>
    obtain ⟨v, w, rfl, rv, rw'⟩ := rds2 hr
    simp only [bltD] at hf
    split at hf
    · rename_i hj
      simp only [Option.some.injEq] at hf; subst hf
      cases rv; cases rw'
      exact call_divmod pins s σ H _ us Q I r ⟨_, _, rfl, ⟨hj.1, hj.2⟩, fun p hp => q _ _ (.laid hp) (rvn_tup hp rfl (.cons (.int _) (.cons (.int _) .nil)))⟩
    · cases hf
theorem b_gcd : CallR X (.builtin "math.gcd") (rDs X.K (bltD "math.gcd")) := by
  intro pins s σ H xs us Q I r h
  obtain ⟨B, ds, e, hr, hf, q, hB⟩ := h
  match ds, hf with
  | [.int i, .int j], hf =>
    obtain ⟨v, w, rfl, rv, rw'⟩ := rds2 hr
    simp only [bltD, Option.some.injEq] at hf; subst hf
    cases rv; cases rw'
    exact cr_gcd pins s σ H _ us Q I r ⟨_, _, rfl, q _ _ .same (.int _)⟩
mutual
theorem RD.nd : ∀ {v : V} {d : D}, RD K H B v d → d.hasDict = false → Dp K H v d
  | _, _, .non, _ => .non
  | _, _, .bl b, _ => .bl b
  | _, _, .int i, _ => .int i
  | _, _, .str x, _ => .str x
  | _, _, .lst h n r, c => .lst (.inl (.inl h)) (RDs.nd r (by simpa [PyData.hasDict] using c))
  | _, _, .tup h r, c => .tup h.sq (RDs.nd r (by simpa [PyData.hasDict] using c))
  | _, _, .dic h n r, c => by simp [PyData.hasDict] at c
  | _, _, .dit h r, c => by simp [PyData.hasDict] at c
theorem RDs.nd : ∀ {vs : List V} {ds : List D}, RDs K H B vs ds → PyData.hasDictAll ds = false → DpAll K H vs ds
  | _, _, .nil, _ => .nil
  | _, _, .cons r t, c => by
    rw [PyData.hasDictAll, Bool.or_eq_false_iff] at c
    exact .cons (RD.nd r c.1) (RDs.nd t c.2)
end
theorem RD.reads {pins : List (Addr × Obj)} {σ : L2.St} {s : Shared} {H : Hp} (I : Inv X pins σ H s) : ∀ {v : V} {d : D} {u : Value}, RD X.K H B v d → d.hasDict = false → L2.RelV v u → ∃ as, Reads s.heap u d as := fun {v d u} r hd ru =>
  Dp.reads I d v u (r.nd hd) ru
theorem b_repr (hg : X.A.guards = some []) (hu : X.A.units + 65 < cLine) : CallR X (.builtin "repr") (rDs X.K (bltD "repr")) := by
  intro pins s σ H xs us Q I r h
  obtain ⟨B, ds, e, hr, hf, q, hB⟩ := h
  match ds, hf with
  | [d], hf =>
    obtain ⟨v, rfl, rv⟩ := rds1 hr
    obtain ⟨u, rfl, ru⟩ := vals1 r
    simp only [bltD] at hf
    split at hf
    · rename_i hc
      simp only [Option.some.injEq] at hf; subst hf
      simp only [Bool.and_eq_true, decide_eq_true_eq, Bool.not_eq_true'] at hc
      obtain ⟨⟨⟨⟨h1, h2⟩, h3⟩, h5⟩, h4⟩ := hc
      have fin : ∀ a, u = .ref a → wpAny (model X.prog X.w) X.A (call (.builtin "repr") [u]) (EP X pins σ Q) X.xe s := fun a ea => by
        obtain ⟨as, hr⟩ := RD.reads (B := B) I rv h5 ru
        subst ea
        refine repr_of_reads' hr h1 (PyData.noDict_hsm h5) hg (by omega) (fun _ _ z => z) (fun h' t tk hk => ?_) h3
        exact ⟨.str d.shown, H, I.kept (t' := tk) hk, ⟨t, rfl⟩, q _ _ .same (.str _)⟩
      cases rv with
      | lst g n rr => exact fin _ ru
      | tup g rr => exact fin _ ru
      | non => simp [isSeqD] at h4
      | bl b => simp [isSeqD] at h4
      | int b => simp [isSeqD] at h4
      | str b => simp [isSeqD] at h4
      | dic g rr => simp [isSeqD] at h4
      | dit g rr => simp [isSeqD] at h4
    · cases hf
/-! ### sorted -/
theorem strLe_iff (x y : Str) : strLe x y = true ↔ x.cps.toList ≤ y.cps.toList := by
  unfold strLe
  rw [ltCps_eq, Bool.not_eq_true', decide_eq_false_iff_not]
  exact List.not_lt
theorem strLe_trans (x y z : Str) (h1 : strLe x y = true) (h2 : strLe y z = true) : strLe x z = true := by
  rw [strLe_iff] at *
  exact List.le_trans h1 h2
theorem strLe_total (x y : Str) : (strLe x y || strLe y x) = true := by
  rw [Bool.or_eq_true, strLe_iff, strLe_iff]
  exact List.le_total _ _
theorem risingS_pw : ∀ (p : Str) (l : List Str), risingS p l = true → (p :: l).Pairwise (fun a b => strLe a b = true)
  | p, [], _ => List.pairwise_singleton _ _
  | p, x :: r, h => by
    have h' : (!ltCps x.cps.toList p.cps.toList && risingS x r) = true := h
    rw [Bool.and_eq_true] at h'
    have ih := risingS_pw x r h'.2
    refine List.pairwise_cons.mpr ⟨fun z hz => ?_, ih⟩
    have hx : strLe p x = true := h'.1
    rcases List.mem_cons.mp hz with rfl | hz
    · exact hx
    · exact strLe_trans _ _ _ hx ((List.pairwise_cons.mp ih).1 z hz)
theorem sortedS_pw (l : List Str) (h : sortedS l = true) : l.Pairwise (fun a b => strLe a b = true) := by
  cases l with
  | nil => exact List.Pairwise.nil
  | cons x r => exact risingS_pw x r h
theorem str_cps {x y : Str} (h : x.cps.toList = y.cps.toList) : x = y := by
  obtain ⟨a⟩ := x
  obtain ⟨b⟩ := y
  congr 1
  exact Array.toList_inj.mp h
theorem sort_strs {xs ys : List Str} (hp : ys.Perm xs) (hs : sortedS ys = true) : ys = xs.mergeSort strLe := by
  refine List.Perm.eq_of_pairwise (le := fun a b => strLe a b = true) (fun a b _ _ h1 h2 => ?_) (sortedS_pw ys hs) ?_ (hp.trans (List.mergeSort_perm xs strLe).symm)
  · rw [strLe_iff] at h1 h2
    exact str_cps (List.le_antisymm h1 h2)
  · exact List.pairwise_mergeSort (fun a b c h1 h2 => strLe_trans a b c h1 h2) (fun a b => strLe_total a b) xs
theorem sort_ints {xs ys : List Int} (hp : ys.Perm xs) (hs : ys.Pairwise (· ≤ ·)) : ys = xs.mergeSort (fun a b => decide (a ≤ b)) := by
  refine List.Perm.eq_of_pairwise (le := fun a b : Int => a ≤ b) (fun a b _ _ h1 h2 => Int.le_antisymm h1 h2) hs ?_ (hp.trans (List.mergeSort_perm xs _).symm)
  have h := List.pairwise_mergeSort (le := fun a b : Int => decide (a ≤ b)) (fun a b c h1 h2 => by simp at *; omega) (fun a b => by simp; omega) xs
  exact h.imp fun q => by simpa using q
theorem b_sorted : CallR X (.builtin "sorted") (rDs X.K (bltD "sorted")) := by
  intro pins s σ H xs us Q I r h
  obtain ⟨B, ds, e, hr, hf, q, hB⟩ := h
  match ds, hf with
  | [.list ys], hf =>
    obtain ⟨v, rfl, rv⟩ := rds1 hr
    simp only [bltD] at hf
    split at hf
    · rename_i hl
      cases rv with
      | lst g n rr =>
        split at hf
        · rename_i ns hi
          simp only [Option.some.injEq] at hf; subst hf
          rw [ints?_eq hi] at rr
          have ex := rr.ints
          subst ex
          refine cr_sortedI pins s σ H _ us Q I r ⟨_, ns, rfl, .inl (.inl g), fun zs p hp hs hn => ?_⟩
          rw [← sort_ints hp hs] at q
          exact q _ _ (.laid hn) (rvn_lst hn (RDs.of_ints zs))
        · simp only [Option.map_eq_some_iff] at hf
          obtain ⟨zs, hz, rfl⟩ := hf
          rw [strs?_eq hz] at rr
          have ex := rr.strs
          subst ex
          refine cr_sortedS pins s σ H _ us Q I r ⟨_, zs, rfl, .inl (.inl g), by rw [strs?_eq hz, List.length_map] at hl; exact hl, fun ws p hp hs hn => ?_⟩
          rw [← sort_strs hp hs] at q
          exact q _ _ (.laid hn) (rvn_lst hn (RDs.of_strs ws))
    · cases hf
/-! ### methods -/
theorem m_index (hu : X.A.units + 65 < cLine) : MtR X "list.index" (fun x xs H Q => ∃ B ys d ds e, RD X.K H B x (.list ys) ∧ RDs X.K H B xs ds ∧ ds = [d] ∧ mthD "index" (.list ys) ds = some e ∧ ∀ v H', New H H' → RVn X.K H H' B v e → Q v H') := by
  intro pins s σ H x xs v us Q I rx rxs h
  obtain ⟨B, ys, d, ds, e, h1, h2, rfl, hf, q⟩ := h
  obtain ⟨y, rfl, ry⟩ := rds1 h2
  simp only [mthD] at hf
  split at hf
  · rename_i hs
    simp only [Bool.and_eq_true] at hs
    simp only [Option.map_eq_some_iff] at hf
    obtain ⟨j, hj, rfl⟩ := hf
    have hd := h1.sh hs.2
    cases h1 with
    | lst g n rr =>
      obtain ⟨hlt, hp, hno⟩ := List.findIdx?_eq_some_iff_getElem.mp hj
      refine mt_indexD hu pins s σ H _ _ v us Q I rx rxs ⟨_, y, d, ys, j, ys[j], rfl, rfl, hd, ry.sh hs.1, hs.2, hs.1, List.getElem?_eq_getElem hlt, hp, fun m z hm hz => ?_, q _ _ .same (.int _)⟩
      obtain ⟨hm2, rfl⟩ := List.getElem?_eq_some_iff.mp hz
      have := hno m hm
      simpa using this
  · cases hf
theorem m_join : MtR X "str.join" (fun x xs H Q => ∃ B a ds e, RD X.K H B x (.str a) ∧ RDs X.K H B xs ds ∧ mthD "join" (.str a) ds = some e ∧ ∀ v H', New H H' → RVn X.K H H' B v e → Q v H') := by
  intro pins s σ H x xs v us Q I rx rxs h
  obtain ⟨B, a, ds, e, h1, h2, hf, q⟩ := h
  match ds, hf with
  | [.list ys], hf =>
    obtain ⟨y, rfl, ry⟩ := rds1 h2
    simp only [mthD, Option.bind_eq_some_iff] at hf
    obtain ⟨zs, hz, hf⟩ := hf
    split at hf
    · rename_i hl
      simp only [Option.some.injEq] at hf; subst hf
      cases h1
      cases ry with
      | lst g n rr =>
        rw [strs?_eq hz] at rr
        have ex := rr.strs
        subst ex
        exact mt_join pins s σ H _ _ v us Q I rx rxs ⟨_, _, zs, rfl, rfl, .inl (.inl (.inl g)), hl, q _ _ .same (.str _)⟩
    · cases hf
end
end Ev
set_option Elab.async false
set_option linter.all false
set_option maxRecDepth 100000
set_option maxHeartbeats 1000000
namespace Ev
open PySem PySem.Spec PyProof.Rows L2
section
variable {prog : Program} {w : World} {A : Around} {E : Value → Shared → Prop} {s : Shared}
/-- what a tuple's subscript by a slice comes to -/
theorem tupSlice {t sl : Addr} {its : Array Value} {vl vu vs : Value} {Q : Value → Shared → Prop} {lo step : Int} {n : Nat} (ht : IsTup s.heap t its) (hs : s.heap.IsSliceOf sl vl vu vs)
    (ha : ∀ (R : Int × Int × Nat → Shared → Prop), R (lo, step, n) s → wpAny (model prog w) A.in1 (Builtin.Slice.sliceApplied (.ref sl) (pure (its.size : Int))) R E s)
    (h1 : (lo == 0 && step == 1 && n == its.size) = true → Q (.ref t) s)
    (h2 : (lo == 0 && step == 1 && n == its.size) = false → (((List.range n).filterMap fun (k : Nat) => its[(lo + (k : Int) * step).toNat]?).length ≤ sizeLine) ∧
      Q (.ref s.heap.objs.size) { s with heap := s.heap.push { cls := .type "tuple", data := .seq ((List.range n).filterMap fun (k : Nat) => its[(lo + (k : Int) * step).toNat]?).toArray } }) :
    wpAny (model prog w) A (getItem (.ref t) (.ref sl)) Q E s := by
  obtain ⟨os, e1, e2, e3⟩ := id hs
  have isSl : s.TypeIs (.ref sl) "slice" := ⟨os, e1, e2⟩
  unfold getItem
  try with_reducible refine wpAny_holding ?_
  first | refine wpAny_bind (wpAny_pure ?_) | skip
  refine wpAny_bind (wpAny_sequenceKey ht.typeIs (by decide) ?_)
  refine wpAny_bind (wpAny_callSpecial?_slot (name := Str.ofString "__getitem__") ht.typeIs PyProof.Rows.slot_tuple_getitem (wpAny_call_entry slot_tuple_getitem ht.typeIs entry_tuple_getitem ?_ (args_tuple_getitem _ _)))
  show wpAny _ _ (Builtin.Tuple.tupleItemsOf (.ref t) >>= _) _ _ _
  refine wpAny_bind (tupleItemsOf_ ht (wpAny_bind (wpAny_typeOf isSl ?_)))
  rw [if_pos (by decide)]
  refine wpAny_bind (ha _ ?_)
  cases hb : (lo == 0 && step == 1 && n == its.size) with
  | true =>
    show wpAny _ _ (if (lo == 0 && step == 1 && n == its.size) = true then _ else _) _ _ _
    rw [hb, if_pos rfl]
    have fin := h1 hb
    have ty := ht.typeIs
    unfold Builtin.Tuple.tupleIsExact
    repeat (any_goals (first | assumption | exact ⟨_, rfl, wpAny_pure fin⟩ | (refine wpAny_typeOf ty ?_) | wp_step))
  | false =>
    show wpAny _ _ (if (lo == 0 && step == 1 && n == its.size) = true then _ else _) _ _ _
    rw [hb, if_neg Bool.false_ne_true]
    obtain ⟨hz, fin⟩ := h2 hb
    have hok : sizeOk (.seq ((List.range n).filterMap fun (k : Nat) => its[(lo + (k : Int) * step).toNat]?).toArray) := by
      show (List.toArray _).size ≤ sizeLine
      rw [List.size_toArray]
      exact hz
    first
      | exact wpAny_bind (m := Builtin.Tuple.tupleExact _) (wpAny_newObj_type (wpAny_pure ⟨_, rfl, wpAny_pure fin⟩) hok)
      | exact wpAny_bind (m := Builtin.Tuple.tupleExact _) (wpAny_newObj_type (wpAny_bind (wpAny_pure (wpAny_pure ⟨_, rfl, wpAny_pure fin⟩))) hok)
      | exact wpAny_bind (wpAny_bind (m := Builtin.Tuple.tupleExact _) (wpAny_newObj_type (wpAny_pure (wpAny_pure ⟨_, rfl, wpAny_pure fin⟩)) hok))
      | exact wpAny_bind (wpAny_bind (m := Builtin.Tuple.tupleExact _) (wpAny_newObj_type (wpAny_pure ⟨_, rfl, wpAny_pure fin⟩) hok))
theorem slRev {sl : Addr} {t : Tok} {n : Nat} {R : Int × Int × Nat → Shared → Prop} (hs : s.heap.IsSliceOf sl .none .none (.int (-1) t)) (h : R ((n : Int) - 1, -1, n) s) :
    wpAny (model prog w) A (Builtin.Slice.sliceApplied (.ref sl) (pure (n : Int))) R E s := by
  obtain ⟨os, e1, e2, e3⟩ := id hs
  unfold Builtin.Slice.sliceApplied Builtin.Slice.sliceFields
  refine wpAny_bind (wpAny_bind (wpAny_field e1 e3 (x := .none) rfl (wpAny_bind (wpAny_field e1 e3 (x := .none) rfl (wpAny_bind (wpAny_field e1 e3 (x := .int (-1) t) rfl (wpAny_pure ?_)))))))
  refine wpAny_bind (HT.slicePart_ (.int (-1) t) ?_)
  show wpAny _ _ (if ((-1 : Int) == 0) = true then _ else _) _ _ _
  rw [if_neg (by decide)]
  refine wpAny_bind (HT.slicePart_ .none (wpAny_bind (HT.slicePart_ .none (wpAny_bind (wpAny_pure ?_)))))
  have e : Builtin.Slice.sliceAdjust none none (-1) (n : Int) = ((n : Int) - 1, -1) := by
    simp [Builtin.Slice.sliceAdjust]
  have e' : Builtin.Slice.slicePlaces ((n : Int) - 1) (-1) (-1) = n := by
    unfold Builtin.Slice.slicePlaces
    rw [if_neg (by decide)]
    split
    · simp
    · omega
  show wpAny _ _ (match Builtin.Slice.sliceAdjust none none (-1) (n : Int) with | (lo, hi) => pure (lo, (-1 : Int), Builtin.Slice.slicePlaces lo hi (-1))) _ _ _
  rw [e]
  show wpAny _ _ (pure ((n : Int) - 1, (-1 : Int), Builtin.Slice.slicePlaces ((n : Int) - 1) (-1) (-1))) _ _ _
  rw [e']
  exact wpAny_pure h
theorem pickRev (its : Array Value) : ((List.range its.size).filterMap fun (k : Nat) => its[((its.size : Int) - 1 + (k : Int) * (-1)).toNat]?) = its.toList.reverse := by
  apply List.ext_getElem?
  intro i
  have key : ((List.range its.size).filterMap fun (k : Nat) => its[((its.size : Int) - 1 + (k : Int) * (-1)).toNat]?) = (List.range its.size).map fun (k : Nat) => its.toList.getD (its.size - 1 - k) Value.none := by
    have : ∀ l : List Nat, (∀ k ∈ l, k < its.size) → (l.filterMap fun (k : Nat) => its[((its.size : Int) - 1 + (k : Int) * (-1)).toNat]?) = l.map fun (k : Nat) => its.toList.getD (its.size - 1 - k) Value.none := by
      intro l
      induction l with
      | nil => intro _; rfl
      | cons k r ih =>
        intro hk
        have hlt := hk k List.mem_cons_self
        have e : ((its.size : Int) - 1 + (k : Int) * (-1)).toNat = its.size - 1 - k := by omega
        have hl2 : its.size - 1 - k < its.size := by omega
        rw [List.filterMap_cons, e, Array.getElem?_eq_getElem hl2, List.map_cons, ih fun x hx => hk x (List.mem_cons_of_mem _ hx)]
        simp [List.getD_eq_getElem?_getD, hl2]
    exact this _ fun k hk => List.mem_range.mp hk
  rw [key]
  by_cases hi : i < its.size
  · rw [List.getElem?_map, List.getElem?_range hi, List.getElem?_reverse (by simpa using hi)]
    simp [List.getD_eq_getElem?_getD]
    have h2 : its.size - 1 - i < its.size := by omega
    simp [h2]
  · rw [List.getElem?_eq_none (by simpa using hi), List.getElem?_eq_none (by simpa using hi)]
end
section
variable {X : Cx} {K : PySem.W.Frag} {H : Hp} {B : Addr → Prop}
def rSl (K : PySem.W.Frag) : V → Option Int → Option Int → Hp → VK → Prop := fun x lo hi H Q => ∃ B d l h r, RD K H B x d ∧ optI l = some lo ∧ optI h = some hi ∧ slcD d l h = some r ∧ ∀ v H', New H H' → RVn K H H' B v r → Q v H'
theorem slD_ok : SlR X (rSl X.K) := by
  intro pins s σ H x v vl vu lo hi sl Q I rx hs pl pu h
  obtain ⟨B, d, l, h, r, rd, hl, hh, hf, q⟩ := h
  cases rd with
  | lst g n rr =>
    simp [slcD, hl, hh] at hf
    subst hf
    exact sl_list pins s σ H _ v vl vu lo hi sl Q I rx hs pl pu ⟨_, _, rfl, .inl (.inl g), fun p hp => q _ _ (.laid hp) (rvn_lst hp (rr.cutV lo hi))⟩
  | str z =>
    simp [slcD, hl, hh] at hf
    obtain ⟨hz, rfl⟩ := hf
    exact sl_str pins s σ H _ v vl vu lo hi sl Q I rx hs pl pu ⟨z, rfl, hz, q _ _ .same (by
      have e : L2.cutS z lo hi = ⟨(cut z.cps.toList lo hi).toArray⟩ := by
        unfold L2.cutS cut
        rw [show z.cps.toList.length = z.length from Array.length_toList]
      rw [e]
      exact .str _)⟩
  | tup g rr =>
    rename_i a xs ds
    simp [slcD, hl, hh] at hf
    subst hf
    obtain rfl : v = Value.ref a := rx
    obtain ⟨its, r, ht, hz⟩ := I.tuple g.sq
    have hsz : its.toArray.size = xs.length := by rw [List.size_toArray]; exact r.length.symm
    refine ⟨"tuple", _, slot_tuple_getitem.lookup, ht.typeIs, ?_⟩
    by_cases hw : HT.sIx xs.length 0 lo = 0 ∧ HT.sIx xs.length xs.length hi = xs.length
    · have hcut : cut ds lo hi = ds := by
        unfold cut
        rw [← rr.length, hw.1, hw.2]
        simp [rr.length]
      rw [hcut] at q
      refine tupSlice (lo := 0) (step := 1) (n := xs.length) ht hs (fun R hR => HT.sliceApplied_gen hs pl pu (by rw [hsz, hw.1, hw.2]; exact hR)) (fun _ => ⟨.ref a, H, I, rfl, q _ _ .same (.tup g rr)⟩) (fun hno => ?_)
      rw [hsz] at hno
      simp at hno
    · refine HT.getItem_tuple_cut ht hs pl pu (by rw [hsz]; exact hw) ?_ (by rw [hsz]; exact hz)
      rw [hsz]
      exact new_tup (tk := s.toks) I ((r.drop (HT.sIx xs.length 0 lo)).take (HT.sIx xs.length xs.length hi - HT.sIx xs.length 0 lo)) (Nat.le_trans (L2.cutV_length xs lo hi) hz) (rr.cutV lo hi) q
  | non => simp [slcD, hl, hh] at hf
  | bl b => simp [slcD, hl, hh] at hf
  | int b => simp [slcD, hl, hh] at hf
  | dic g rr => simp [slcD, hl, hh] at hf
  | dit g rr => simp [slcD, hl, hh] at hf
theorem pe_rev {e : Expr} {te : TE} {k : Nat} {p1 p2 p3 pos : Pos} (he : PE X e te) :
    PE X (.Subscript e (.Slice none none (some (.UnaryOp .USub (.Constant (.int 1) k p1) p2)) p3) pos) (fun σ H Q => te σ H fun x H1 => rD1 X.K revD x H1 Q) := by
  have hl := pe_revL (k := k) (p1 := p1) (p2 := p2) (p3 := p3) (pos := pos) (X := X) he
  refine ⟨fun pins s σ H Q I h => ?_⟩
  refine Subscript_ (thn (he.run pins s σ H _ I h) fun v s1 ⟨x, H1, I1, r1, q1⟩ => ?_)
  obtain ⟨B, d, r, rd, hf, q⟩ := q1
  have hst : PO X (some (.UnaryOp .USub (.Constant (.int 1) k p1) p2)) (tPart (tUn (rU fun i => .int (-i)) (tC (.int 1)))) := po_some (pe_un un_neg pe_int)
  refine wpAny_Slice (thn (po_none.run pins s1 σ H1 (fun o Hn => o = none ∧ Hn = H1) I1 ⟨rfl, rfl⟩) fun vl s2 ⟨l, H2, I2, pl, el, e2⟩ => ?_)
  subst el e2
  refine thn (po_none.run pins s2 σ H2 (fun o Hn => o = none ∧ Hn = H2) I2 ⟨rfl, rfl⟩) fun vu s3 ⟨u, H3, I3, pu, eu, e3⟩ => ?_
  subst eu e3
  refine thn (hst.run pins s3 σ H3 (fun o Hn => o = some (-1) ∧ Hn = H3) I3 ⟨1, rfl, -1, rfl, rfl, rfl⟩) fun vs s4 ⟨o, H4, I4, ps, eo, e4⟩ => ?_
  subst eo e4
  have J : Inv X pins σ H4 { s4 with heap := s4.heap.push { cls := .type "slice", data := .fields #[vl, vu, vs] } } := I4.kept (t' := s4.toks) fun b ob q => Heap.get?_push_of_some _ q
  cases rd with
  | lst g n rr =>
    simp only [revD, Option.some.injEq] at hf
    subst hf
    rename_i a xs ds
    obtain rfl : v = Value.ref a := r1
    obtain ⟨its, rv, ht, hz⟩ := J.list (.inl (.inl g))
    have hlen := rv.length
    show wpAny _ _ (subscriptTail e (.Slice none none (some (.UnaryOp .USub (.Constant (.int 1) k p1) p2)) p3) (.ref a) (.ref s4.heap.objs.size)) _ _ _
    refine tail_any (ops := [.ref a, .ref s4.heap.objs.size]) ht.isList.typeIs slot_list_getitem.lookup ?_ (by with_unfolding_all rfl)
    refine wpAny_getItem_list_slice ht.isList (Heap.IsSliceOf.new _ vl vu vs) pl pu ps (by decide) ?_ (by rw [List.size_toArray]; omega)
    rw [PySem.W.krv_pick]
    refine ⟨.ref _, _, J.laid (t' := s4.toks) (o := .lst xs.reverse) (fun b ob q => Heap.get?_push_of_some _ q) (Nat.le_refl _) ?_, rfl, q _ _ (.laid (J.hok.fresh (Nat.le_refl _))) (rvn_lst (J.hok.fresh (Nat.le_refl _)) rr.reverse)⟩
    exact ⟨by rw [List.length_reverse]; exact hz, _, 0, rv.reverse, Heap.get?_push_size _ rfl⟩
  | tup g rr =>
    simp only [revD, Option.some.injEq] at hf
    subst hf
    rename_i a xs ds
    obtain rfl : v = Value.ref a := r1
    obtain ⟨its, rv, ht, hz⟩ := J.tuple g.sq
    have hlen := rv.length
    obtain ⟨l', rfl, rfl⟩ : ∃ l', vl = l' ∧ l' = Value.none := by cases pl; exact ⟨_, rfl, rfl⟩
    obtain ⟨u', rfl, rfl⟩ : ∃ l', vu = l' ∧ l' = Value.none := by cases pu; exact ⟨_, rfl, rfl⟩
    obtain ⟨tk, rfl⟩ : ∃ tk, vs = Value.int (-1) tk := by cases ps; exact ⟨_, rfl⟩
    show wpAny _ _ (subscriptTail e (.Slice none none (some (.UnaryOp .USub (.Constant (.int 1) k p1) p2)) p3) (.ref a) (.ref s4.heap.objs.size)) _ _ _
    refine tail_any (ops := [.ref a, .ref s4.heap.objs.size]) ht.typeIs slot_tuple_getitem.lookup ?_ (by with_unfolding_all rfl)
    have hS := Heap.IsSliceOf.new s4.heap .none .none (.int (-1) tk)
    have hp := pickRev its.toArray
    have hn := J.hok.fresh (Nat.le_refl _)
    refine tupSlice (lo := (its.toArray.size : Int) - 1) (step := -1) (n := its.toArray.size) ht hS (fun R hR => slRev hS hR) (fun hb => ?_) fun _ => ?_
    · simp at hb
    · rw [hp]
      refine ⟨by rw [List.length_reverse]; simpa [← hlen] using hz, ?_⟩
      exact new_tup (tk := s4.toks) J rv.reverse (by rw [List.length_reverse]; exact hz) rr.reverse q
  | non => simp [revD] at hf
  | bl b => simp [revD] at hf
  | int b => simp [revD] at hf
  | str b => simp [revD] at hf
  | dic g rr => simp [revD] at hf
  | dit g rr => simp [revD] at hf
end
end Ev
set_option Elab.async false
set_option linter.all false
set_option maxRecDepth 100000
set_option maxHeartbeats 1000000
namespace Ev
open PySem PySem.Spec PyProof.Rows L2
section
variable {X : Cx} {K : PySem.W.Frag} {H : Hp} {B : Addr → Prop}
theorem keyOf_eq {d : D} {q : Key} (h : keyOf d = some q) : d = keyD q := by
  cases d <;> simp [keyOf] at h <;> subst h <;> rfl
theorem rd_key {v : V} {q : Key} (r : RD K H B v (keyD q)) : v = kV q := by
  cases q <;> cases r <;> rfl
/-- pairs told by tuples -/
theorem rds_pairs : ∀ {vs : List V} {ds : List D} {kd : List (Key × D)}, RDs K H B vs ds → pairsK? ds = some kd →
    ∃ (ps : List Addr) (kvs : List (Key × V)), vs = ps.map V.ref ∧ Paired (fun p (kv : Key × V) => SqT K H p [kV kv.1, kv.2]) ps kvs ∧ Paired (fun (x : Key × V) (y : Key × D) => x.1 = y.1 ∧ RD K H B x.2 y.2) kvs kd
  | _, [], kd, r, h => by
    simp [pairsK?] at h
    subst h
    cases r
    exact ⟨[], [], rfl, .nil, .nil⟩
  | _, d :: ds, kd, r, h => by
    cases r with
    | cons r t =>
      rename_i v vs
      match d, h with
      | .tuple [k, e], h =>
        simp only [pairsK?, Option.bind_eq_some_iff, Option.map_eq_some_iff] at h
        obtain ⟨q, hq, kd', h', rfl⟩ := h
        obtain ⟨ps, kvs, rfl, h1, h2⟩ := rds_pairs t h'
        rw [keyOf_eq hq] at r
        cases r with
        | tup g rr =>
          obtain ⟨x, y, rfl, rx, ry⟩ := rds2 rr
          have ex := rd_key rx
          subst ex
          rename_i a
          exact ⟨a :: ps, (q, y) :: kvs, rfl, .cons g.sq h1, .cons ⟨rfl, ry⟩ h2⟩
theorem putX_rel {R : V → D → Prop} {kvs : List (Key × V)} {kd : List (Key × D)} (r : Paired (fun (x : Key × V) (y : Key × D) => x.1 = y.1 ∧ R x.2 y.2) kvs kd) (k : Key) {v : V} {d : D} (h : R v d) :
    Paired (fun (x : Key × V) (y : Key × D) => x.1 = y.1 ∧ R x.2 y.2) (L2.putK kvs k v) (putX kd k d) := by
  have hany : ∀ {kvs : List (Key × V)} {kd : List (Key × D)}, Paired (fun (x : Key × V) (y : Key × D) => x.1 = y.1 ∧ R x.2 y.2) kvs kd → (kvs.any fun kv => decide (kv.1 = k)) = (kd.any fun kv => decide (kv.1 = k)) := by
    intro kvs kd r
    induction r with
    | nil => rfl
    | cons h t ih => simp only [List.any_cons, ih, h.1]
  have hmap : ∀ {kvs : List (Key × V)} {kd : List (Key × D)}, Paired (fun (x : Key × V) (y : Key × D) => x.1 = y.1 ∧ R x.2 y.2) kvs kd →
      Paired (fun (x : Key × V) (y : Key × D) => x.1 = y.1 ∧ R x.2 y.2) (kvs.map fun kv => if kv.1 = k then (kv.1, v) else kv) (kd.map fun kv => if kv.1 = k then (kv.1, d) else kv) := by
    intro kvs kd r
    induction r with
    | nil => exact .nil
    | @cons a b _ _ h0 t ih =>
      refine .cons ?_ ih
      by_cases e : a.1 = k
      · simp only [if_pos e, if_pos (h0.1 ▸ e : b.1 = k)]
        exact ⟨h0.1, h⟩
      · simp only [if_neg e, if_neg (fun z => e (h0.1.trans z) : ¬ b.1 = k)]
        exact h0
  have happ : ∀ {kvs : List (Key × V)} {kd : List (Key × D)}, Paired (fun (x : Key × V) (y : Key × D) => x.1 = y.1 ∧ R x.2 y.2) kvs kd → Paired (fun (x : Key × V) (y : Key × D) => x.1 = y.1 ∧ R x.2 y.2) (kvs ++ [(k, v)]) (kd ++ [(k, d)]) := by
    intro kvs kd r
    induction r with
    | nil => exact .cons ⟨rfl, h⟩ .nil
    | cons h0 t ih => exact .cons h0 ih
  unfold L2.putK putX
  rw [hany r]
  split
  · exact hmap r
  · exact happ r
theorem mergeX_rel {R : V → D → Prop} : ∀ {more : List (Key × V)} {mored : List (Key × D)} {kvs : List (Key × V)} {kd : List (Key × D)}, Paired (fun (x : Key × V) (y : Key × D) => x.1 = y.1 ∧ R x.2 y.2) more mored →
    Paired (fun (x : Key × V) (y : Key × D) => x.1 = y.1 ∧ R x.2 y.2) kvs kd → Paired (fun (x : Key × V) (y : Key × D) => x.1 = y.1 ∧ R x.2 y.2) (L2.mergeK kvs more) (mergeX kd mored)
  | _, _, _, _, .nil, r => r
  | _, _, kvs, kd, .cons (a := a) (b := b) h t, r => by
    show Paired _ (L2.mergeK (L2.putK kvs a.1 a.2) _) (mergeX (putX kd b.1 b.2) _)
    rw [← h.1]
    exact mergeX_rel t (putX_rel r a.1 h.2)
theorem rel_dict {kvs : List (Key × V)} {kd : List (Key × D)} (r : Paired (fun (x : Key × V) (y : Key × D) => x.1 = y.1 ∧ RD K H B x.2 y.2) kvs kd) :
    RDs K H B (kvs.map (·.2)) (kd.map (·.2)) ∧ (kvs.map fun kv => keyD kv.1).zip (kd.map (·.2)) = kd.map fun kv => (keyD kv.1, kv.2) := by
  induction r with
  | nil => exact ⟨.nil, rfl⟩
  | cons h t ih =>
    refine ⟨.cons h.2 ih.1, ?_⟩
    simp only [List.map_cons, List.zip_cons_cons, h.1]
    rw [ih.2]
theorem rd_dict {a : Addr} {kvs : List (Key × V)} {kd : List (Key × D)} (h : H a = some (.dK kvs)) (nB : ¬ B a) (r : Paired (fun (x : Key × V) (y : Key × D) => x.1 = y.1 ∧ RD K H B x.2 y.2) kvs kd) : RD K H B (.ref a) (dictX kd) := by
  obtain ⟨h1, h2⟩ := rel_dict r
  unfold dictX
  rw [← h2]
  exact .dic h nB h1
theorem pairs_plain {pins : List (Addr × Obj)} {σ : L2.St} {H : Hp} {s : Shared} (I : Inv X pins σ H s) : ∀ {ps : List Addr} {kvs : List (Key × V)}, Paired (fun p (kv : Key × V) => SqT X.K H p [kV kv.1, kv.2]) ps kvs →
    ∃ (qs : List (Value × Value)) (prs : List (Key × Value)), KV kvs prs ∧ qs.length = ps.length ∧ prs.length = ps.length ∧
      ∀ (j : Nat) (k v : Value), qs[j]? = some (k, v) → ∃ b q, ps[j]? = some b ∧ s.heap.IsTuple b #[k, v] ∧ prs[j]? = some (q, v) ∧ keyIs q k = true
  | _, _, .nil => ⟨[], [], .nil, rfl, rfl, fun j k v e => by simp at e⟩
  | _, _, .cons (a := p) (b := kv) h t => by
    obtain ⟨qs, prs, r, l1, l2, hp⟩ := pairs_plain I t
    obtain ⟨its, rv, ht, _⟩ := I.tuple h
    obtain ⟨u, y, ei, ru, ry⟩ := vals2 rv
    subst ei
    refine ⟨(u, y) :: qs, (kv.1, y) :: prs, .cons ⟨rfl, ry⟩ r, by rw [List.length_cons, List.length_cons, l1], by rw [List.length_cons, List.length_cons, l2], fun j k v e => ?_⟩
    cases j with
    | zero =>
      have e' : (u, y) = (k, v) := Option.some.inj e
      cases e'
      exact ⟨p, kv.1, rfl, ht, rfl, kV_is (P := X.prog) (w := X.w) ru⟩
    | succ j =>
      obtain ⟨b, q, e1, e2, e3, e4⟩ := hp j k v (by simpa using e)
      exact ⟨b, q, by simpa using e1, e2, by simpa using e3, e4⟩
theorem dict_list (hc : X.calm = true) {pins : List (Addr × Obj)} {σ : L2.St} {H : Hp} {s : Shared} {B : Addr → Prop} {a : Addr} {ps : List Addr} {kvs : List (Key × V)} {kd : List (Key × D)} {Q : VK} (I : Inv X pins σ H s) (hB : ∀ a, B a → H a ≠ none) (g : H a = some (.lst (ps.map V.ref)))
    (h1 : Paired (fun p (kv : Key × V) => SqT X.K H p [kV kv.1, kv.2]) ps kvs) (h2 : Paired (fun (x : Key × V) (y : Key × D) => x.1 = y.1 ∧ RD X.K H B x.2 y.2) kvs kd)
    (q : ∀ v H', New H H' → RD X.K H' B v (dictX (mergeX [] kd)) → Q v H') : wpAny (model X.prog X.w) X.A (call (.type "dict") [.ref a]) (EP X pins σ Q) X.xe s := by
  refine call_dictP hc pins s σ H [V.ref a] [Value.ref a] Q I (.cons (show L2.RelV (V.ref a) (Value.ref a) from rfl) .nil) ⟨a, ps, kvs, rfl, .inl (.inl g), h1, fun p hp => q _ _ (.laid hp) (rd_dict upd_same (fun z => hB _ z hp) ?_)⟩
  exact mergeX_rel (R := fun v d => RD X.K (upd H p (.dK (mergeK [] kvs))) B v d) (Paired.mapP h2 fun a b z => ⟨z.1, z.2.kp (M := fun _ => False) (.laid hp) fun _ z => z.elim⟩) .nil
theorem dict_tup (hc : X.calm = true) {pins : List (Addr × Obj)} {σ : L2.St} {H : Hp} {s : Shared} {B : Addr → Prop} {a : Addr} {ob : Obj} {ps : List Addr} {kvs : List (Key × V)} {kd : List (Key × D)} {Q : VK} (I : Inv X pins σ H s) (hB : ∀ a, B a → H a ≠ none) (g : H a = some (.frz ob (.tup (ps.map V.ref)))) (ed : ob.dict = none)
    (h1 : Paired (fun p (kv : Key × V) => SqT X.K H p [kV kv.1, kv.2]) ps kvs) (h2 : Paired (fun (x : Key × V) (y : Key × D) => x.1 = y.1 ∧ RD X.K H B x.2 y.2) kvs kd)
    (q : ∀ v H', New H H' → RD X.K H' B v (dictX (mergeX [] kd)) → Q v H') : wpAny (model X.prog X.w) X.A (call (.type "dict") [.ref a]) (EP X pins σ Q) X.xe s := by
  obtain ⟨qs, prs, rel, l1, l2, hpr⟩ := pairs_plain I h1
  obtain ⟨eo, hz, its, rv2, o2, eo2, ec, n, edat⟩ := (show ObjOk X.prog X.w H s.heap a (.frz ob (.tup (ps.map V.ref))) from I.hok a _ g)
  rw [eo] at eo2
  cases eo2
  have ei := refs_at rv2
  subst ei
  rw [List.length_map] at hz
  have P := PySem.PairArg.tuple (prog := X.prog) (w := X.w) a (ps.map Value.ref).toArray (fun j => ps.getD j 0) qs
  refine PySem.call_dict_pairs (knd := mixKind X.prog X.w) (kvs := prs) P (I.ok.hd hc) ⟨⟨ob, n, eo, ec, ed, edat⟩, ?_⟩ ⟨l2.trans l1.symm, fun j k v e => ?_⟩ (by rw [l1]; exact hz) fun h' tk hd' hk => ?_
  · refine ⟨by simp [l1], fun j k v e => ?_⟩
    obtain ⟨b, kq, e1, e2, _, _⟩ := hpr j k v e
    exact ⟨by simp [e1], .inl (by simpa [List.getD_eq_getElem?_getD, e1] using e2)⟩
  · obtain ⟨b, kq, _, _, e3, e4⟩ := hpr j k v e
    exact ⟨kq, e3, e4⟩
  · have hm : (s.heap.objs.size == sysModules) = false := beq_eq_false_iff_ne.mpr (Nat.ne_of_gt I.big)
    have hlen : (mergeK [] kvs).length ≤ sizeLine := by
      refine Nat.le_trans (length_mergeK kvs []) ?_
      rw [List.length_nil, Nat.zero_add, rel.length, l2]
      exact hz
    have hp := I.hok.fresh (Nat.le_refl s.heap.objs.size)
    refine ⟨.ref s.heap.objs.size, _, I.laid (t' := tk) (o := .dK (mergeK [] kvs)) (fun b o e => hk b o (by simp) e) (Nat.le_refl _) ⟨hlen, hm, merged [] prs, KV.merge rel .nil, hd'⟩, rfl, q _ _ (.laid hp) (rd_dict upd_same (fun z => hB _ z hp) ?_)⟩
    exact mergeX_rel (R := fun v d => RD X.K (upd H s.heap.objs.size (.dK (mergeK [] kvs))) B v d) (Paired.mapP h2 fun a b z => ⟨z.1, z.2.kp (M := fun _ => False) (.laid hp) fun _ z => z.elim⟩) .nil
theorem pairsK_nf {y : D} {ys : List D} {kd : List (Key × D)} (h : pairsK? (y :: ys) = some kd) : (y :: ys).all flatD = false := by
  cases y <;> first | (simp [pairsK?] at h; done) | simp [flatD]
theorem b_dict (hc : X.calm = true) : CallR X (.type "dict") (rDs X.K (bltD "dict")) := by
  intro pins s σ H xs us Q I r h
  obtain ⟨B, ds, e, hr, hf, q, hB⟩ := h
  match ds, hf with
  | [.list ys], hf =>
    obtain ⟨v, rfl, rv⟩ := rds1 hr
    simp only [bltD, Option.map_eq_some_iff] at hf
    obtain ⟨kd, hk, rfl⟩ := hf
    cases rv with
    | lst g n rr =>
      obtain ⟨ps, kvs, rfl, h1, h2⟩ := rds_pairs rr hk
      obtain ⟨u, rfl, ru⟩ := vals1 r
      cases ru
      exact dict_list hc I hB g h1 h2 q
  | [.tuple (y :: ys)], hf =>
    obtain ⟨v, rfl, rv⟩ := rds1 hr
    simp only [bltD, Option.map_eq_some_iff] at hf
    obtain ⟨kd, hk, rfl⟩ := hf
    cases rv with
    | tup g rr =>
      obtain ⟨u, rfl, ru⟩ := vals1 r
      cases ru
      obtain ⟨ps, kvs, rfl, h1, h2⟩ := rds_pairs rr hk
      rcases g with ⟨f, _⟩ | ⟨_, ob, g, ed⟩
      · rw [pairsK_nf hk] at f
        cases f
      · exact dict_tup hc I hB g ed h1 h2 q
end
end Ev
set_option Elab.async false
set_option linter.all false
set_option maxRecDepth 100000
set_option maxHeartbeats 1000000
namespace Ev
open PySem PySem.Spec PyProof.Rows L2
structure Sx where
  T : List NdefX.NTab
  lam : Nat → Option LI
abbrev cn (X : Cx) (S : Sx) : Cn := ⟨X.K, X.mg, S.T, S.lam⟩
def MkOk (mk : Mkd) : Prop := ∀ i v H H' M, mk i v H → Kp M H H' → mk i v H'
theorem peImp {X : Cx} {e : Expr} {t t' : TE} (h : PE X e t) (i : ∀ σ H Q, t' σ H Q → t σ H Q) : PE X e t' := ⟨fun pins s σ H Q I q => h.run pins s σ H Q I (i _ _ _ q)⟩
section
variable {C : Cn} {mk : Mkd} {Fb Fb' : Addr → Prop} {ρ ρ' : Env} {σ : L2.St} {H H' : Hp}
theorem mutA_none (R : Rel C mk Fb ρ σ H) {a : Addr} (h : H a = none) : ¬ mutA ρ σ a := fun ⟨i, ds, e1, e2⟩ => by
  obtain ⟨b, xs, e3, _, e4, _⟩ := R.mt i ds e1
  rw [e2] at e3
  cases e3
  rw [h] at e4
  cases e4
theorem bad_none (R : Rel C mk Fb ρ σ H) {a : Addr} (h : H a = none) : ¬ bad Fb ρ σ a := fun z => z.elim (fun f => R.fb a f h) (mutA_none R h)
theorem Kp.dead (k : Kp (fun _ => False) H H') {M : Addr → Prop} : Kp M H H' := k.mono fun _ z => z.elim
/-- the heap grows; more is forbidden, but nothing that stood there -/
theorem Rel.grow (hm : MkOk mk) (R : Rel C mk Fb ρ σ H) (hf : ∀ a, Fb a → Fb' a) (hf2 : ∀ a, Fb' a → Fb a ∨ H a = none) (hf3 : ∀ a, Fb' a → H' a ≠ none) (k : Kp (fun _ => False) H H') (t : NdefX.TabsN C.T H') : Rel C mk Fb' ρ σ H' := by
  have hb : ∀ a, bad Fb' ρ σ a → bad Fb ρ σ a ∨ H a = none := fun a z => z.elim (fun q => (hf2 a q).elim (fun x => .inl (.inl x)) .inr) fun q => .inl (.inr q)
  refine ⟨R.len, hf3, fun i s e c => ?_, fun i ds e => ?_, R.inj, fun i ns e => ?_, fun i e => ?_, t⟩
  · obtain ⟨v, h1, h2⟩ := R.val i s e c
    exact ⟨v, h1, (h2.bad hb).kp k fun _ z => z.elim⟩
  · obtain ⟨a, xs, h1, h2, h3, h4⟩ := R.mt i ds e
    refine ⟨a, xs, h1, fun z => ?_, k.keep _ _ h3 (fun _ z => nomatch z) (fun z => z.elim), (h4.bad hb).kp k fun _ z => z.elim⟩
    rcases hf2 a z with z | z
    · exact h2 z
    · rw [h3] at z; cases z
  · obtain ⟨a, h1, h2⟩ := R.ro i ns e
    exact ⟨a, h1, h2.kp k⟩
  · obtain ⟨v, h1, h2⟩ := R.mks i e
    exact ⟨v, h1, hm _ _ _ _ _ h2 k⟩
theorem Rel.new (hm : MkOk mk) (R : Rel C mk Fb ρ σ H) (n : New H H') : Rel C mk Fb ρ σ H' :=
  R.grow hm (fun _ h => h) (fun _ h => .inl h) (fun a h z => R.fb a h (n.kp (M := fun _ => False) |>.none a z)) n.kp (R.tabs.ext n.gr)
/-- fewer are forbidden -/
theorem Rel.less (R : Rel C mk Fb ρ σ H) (h : ∀ a, Fb' a → Fb a) : Rel C mk Fb' ρ σ H := by
  have hb : ∀ a, bad Fb' ρ σ a → bad Fb ρ σ a ∨ H a = none := fun a z => .inl (z.elim (fun q => .inl (h a q)) .inr)
  refine ⟨R.len, fun a z => R.fb a (h a z), fun i s e c => ?_, fun i ds e => ?_, R.inj, R.ro, R.mks, R.tabs⟩
  · obtain ⟨v, h1, h2⟩ := R.val i s e c
    exact ⟨v, h1, h2.bad hb⟩
  · obtain ⟨a, xs, h1, h2, h3, h4⟩ := R.mt i ds e
    exact ⟨a, xs, h1, fun z => h2 (h a z), h3, h4.bad hb⟩
/-- a step of an expression -/
structure Step (C : Cn) (mk : Mkd) (Fb : Addr → Prop) (ρ ρ' : Env) (σ : L2.St) (H H' : Hp) : Prop where
  rel : Rel C mk Fb ρ' σ H'
  kp : Kp (mutA ρ σ) H H'
  sub : ∀ a, mutA ρ' σ a → mutA ρ σ a
  par : ∀ (i : Nat) (ds : List D), ρ[i]? = some (some (.par ds)) → ∃ ds', ρ'[i]? = some (some (.par ds'))
theorem Step.refl (R : Rel C mk Fb ρ σ H) : Step C mk Fb ρ ρ σ H H := ⟨R, .refl, fun _ h => h, fun i ds e => ⟨ds, e⟩⟩
theorem Step.trans {ρ1 ρ2 : Env} {H1 H2 : Hp} (a : Step C mk Fb ρ ρ1 σ H H1) (b : Step C mk Fb ρ1 ρ2 σ H1 H2) : Step C mk Fb ρ ρ2 σ H H2 :=
  ⟨b.rel, a.kp.trans b.kp fun x h => .inl (a.sub x h), fun x h => a.sub x (b.sub x h), fun i ds e => let ⟨ds1, e1⟩ := a.par i ds e; b.par i ds1 e1⟩
theorem Step.new {ρ1 : Env} {H1 H2 : Hp} (hm : MkOk mk) (a : Step C mk Fb ρ ρ1 σ H H1) (n : New H1 H2) : Step C mk Fb ρ ρ1 σ H H2 :=
  ⟨a.rel.new hm n, a.kp.trans (n.kp (M := mutA ρ σ)) fun x h => .inl h, a.sub, a.par⟩
theorem Step.bad {ρ1 : Env} {H1 : Hp} (a : Step C mk Fb ρ ρ1 σ H H1) : ∀ x, Ev.bad Fb ρ1 σ x → Ev.bad Fb ρ σ x := fun x h => h.elim .inl fun z => .inr (a.sub x z)
/-- a value through a step -/
theorem Step.rd {ρ1 : Env} {H1 : Hp} {K : PySem.W.Frag} (a : Step C mk Fb ρ ρ1 σ H H1) {v : V} {d : D} (r : RD K H (Ev.bad Fb ρ σ) v d) : RD K H1 (Ev.bad Fb ρ1 σ) v d :=
  (r.kp a.kp fun x h => .inr h).bad fun x h => .inl (a.bad x h)
theorem Step.rds {ρ1 : Env} {H1 : Hp} {K : PySem.W.Frag} (a : Step C mk Fb ρ ρ1 σ H H1) {v : List V} {d : List D} (r : RDs K H (Ev.bad Fb ρ σ) v d) : RDs K H1 (Ev.bad Fb ρ1 σ) v d :=
  (r.kp a.kp fun x h => .inr h).bad fun x h => .inl (a.bad x h)
theorem Step.rs {ρ1 : Env} {H1 : Hp} (a : Step C mk Fb ρ ρ1 σ H H1) {v : V} {d : SV} (r : RS C (Ev.bad Fb ρ σ) H v d) : RS C (Ev.bad Fb ρ1 σ) H1 v d :=
  (r.kp a.kp fun x h => .inr h).bad fun x h => .inl (a.bad x h)
/-- what an expression gives -/
def RV (C : Cn) (mk : Mkd) (Fb : Addr → Prop) (ρ ρ' : Env) (σ : L2.St) (H H' : Hp) (v : V) : EV → Prop
  | .dat d => RD C.K H' (bad Fb ρ' σ) v d
  | .fresh ds => ∃ a xs, v = .ref a ∧ (H a = none ∨ mutA ρ σ a) ∧ ¬ bad Fb ρ' σ a ∧ H' a = some (.lst xs) ∧ RDs C.K H' (fun b => bad Fb ρ' σ b ∨ b = a) xs ds ∧ Rel C mk (fun b => Fb b ∨ b = a) ρ' σ H'
theorem RV.frz {H1 : Hp} {v : V} : ∀ {r : EV}, RV C mk Fb ρ ρ' σ H H1 v r → RD C.K H1 (bad Fb ρ' σ) v r.frz
  | .dat d, h => h
  | .fresh ds, ⟨a, xs, e, _, h1, h2, h3, _⟩ => by
    subst e
    exact .lst h2 h1 (h3.bad fun x z => .inl (.inl z))
theorem RV.of {H1 H2 : Hp} {v : V} {r : EV} (hm : MkOk mk) (s : Step C mk Fb ρ ρ' σ H H1) (n : New H1 H2) (h : RVn C.K H1 H2 (bad Fb ρ' σ) v r) : RV C mk Fb ρ ρ' σ H H2 v r := by
  cases r with
  | dat d => exact h
  | fresh ds =>
    obtain ⟨a, xs, e, h1, h2, h3⟩ := h
    subst e h2
    have hb := bad_none s.rel h1
    refine ⟨a, xs, rfl, .inl (s.kp.none a h1), hb, upd_same, ?_, ?_⟩
    · exact (h3.bad fun x z => z.elim .inl fun e => .inr (by rw [e]; exact h1)).kp (M := fun _ => False) (.laid h1) fun _ z => z.elim
    · refine s.rel.grow hm (fun x z => .inl z) (fun x z => z.elim .inl fun e => .inr (by rw [e]; exact h1)) (fun x z => ?_) (.laid h1) (s.rel.tabs.ext n.gr)
      rcases z with z | z
      · exact fun q => s.rel.fb x z ((Kp.laid (M := fun _ => False) h1).none x q)
      · subst z
        rw [upd_same]
        exact fun q => nomatch q
def tE (C : Cn) (mk : Mkd) (ρ : Env) (r : EV) (ρ' : Env) : TE := fun σ H Q => ∃ Fb, Rel C mk Fb ρ σ H ∧ ∀ v H', Step C mk Fb ρ ρ' σ H H' → RV C mk Fb ρ ρ' σ H H' v r → Q v H'
end
section
variable {X : Cx} {S : Sx} {mk : Mkd} {ρ ρ1 ρ2 ρ3 : Env} {a b c e : Expr} {r r1 r2 r3 : EV} {pos : Pos}
/-- the value alone -/
theorem e_frz (h : PE X e (tE (cn X S) mk ρ r ρ1)) : PE X e (tE (cn X S) mk ρ (.dat r.frz) ρ1) :=
  peImp h fun σ H Q ⟨Fb, R, q⟩ => ⟨Fb, R, fun v H' s h => q v H' s h.frz⟩
theorem e_lit_i {i : Int} {j : Nat} : PE X (.Constant (.int i) j pos) (tE (cn X S) mk ρ (.dat (.int i)) ρ) := peImp pe_int fun σ H Q ⟨Fb, R, q⟩ => q _ _ (.refl R) (RD.int i)
theorem e_lit_b {i : Bool} {j : Nat} : PE X (.Constant (.bool i) j pos) (tE (cn X S) mk ρ (.dat (.bool i)) ρ) := peImp pe_bl fun σ H Q ⟨Fb, R, q⟩ => q _ _ (.refl R) (RD.bl i)
theorem e_lit_n {j : Nat} : PE X (.Constant .none j pos) (tE (cn X S) mk ρ (.dat .none) ρ) := peImp pe_non fun σ H Q ⟨Fb, R, q⟩ => q _ _ (.refl R) RD.non
theorem e_lit_s {x : Str} {j : Nat} : PE X (.Constant (.str x) j pos) (tE (cn X S) mk ρ (.dat (.str x)) ρ) := peImp pe_str fun σ H Q ⟨Fb, R, q⟩ => q _ _ (.refl R) (RD.str x)
/-- a constant of the module: what it is, in every heap -/
def KCon (X : Cx) (x : Str) (d : D) : Prop := ∃ u v, X.mg x = some u ∧ L2.RelV v u ∧ ∀ H B, RD X.K H B v d
theorem e_gc {x : Str} {d : D} (hg : Gl X x) (h : KCon X x d) (hd : (x == ("__debug__" : Str)) = false) : PE X (.Name x pos) (tE (cn X S) mk ρ (.dat d) ρ) := by
  obtain ⟨u, v, h1, h2, h3⟩ := h
  exact peImp (pe_glob hg h1 h2 hd) fun σ H Q ⟨Fb, R, q⟩ => q _ _ (.refl R) (h3 _ _)
theorem e_var {i : Nat} {x : Str} {d : D} (hN : X.N[i]? = some x) (hv : Vis X.env.scope x) (hd : (x == ("__debug__" : Str)) = false) (hcd : (x == ("__classdict__" : Str)) = false) (h : ρ[i]? = some (some (.dat d))) :
    PE X (.Name x pos) (tE (cn X S) mk ρ (.dat d) ρ) := by
  refine peImp (pe_var hN hv hd hcd) fun σ H Q ⟨Fb, R, q⟩ => ?_
  obtain ⟨v, h1, h2⟩ := R.val i _ h (.inl ⟨d, rfl⟩)
  cases h2 with
  | dat r => exact ⟨v, h1, q _ _ (.refl R) r⟩
theorem set_get {ρ : Env} {i j : Nat} {s : Option SV} (hl : i < ρ.length) : (ρ.set i s)[j]? = if i = j then some s else ρ[j]? := by
  rw [List.getElem?_set]
  by_cases e : i = j
  · rw [if_pos e, if_pos e, if_pos hl]
  · rw [if_neg e, if_neg e]
theorem ltOf {ρ : Env} {i : Nat} {s : Option SV} (h : ρ[i]? = some s) : i < ρ.length := (List.getElem?_eq_some_iff.mp h).1
/-- own lists but for that in slot i -/
theorem mutA_set_sub {ρ : Env} {σ : L2.St} {i : Nat} {s : Option SV} (h : mutOf (some s) = none) {a : Addr} (m : mutA (ρ.set i s) σ a) : mutA ρ σ a := by
  obtain ⟨j, ds, e1, e2⟩ := m
  refine ⟨j, ds, ?_, e2⟩
  by_cases hl : i < ρ.length
  · rw [set_get hl] at e1
    split at e1
    · rw [h] at e1; cases e1
    · exact e1
  · rw [List.set_eq_of_length_le (by omega)] at e1
    exact e1
theorem mutOf_own {o : Option (Option SV)} {ds : List D} (h : o = some (some (.own ds))) : mutOf o = some ds := by subst h; rfl
theorem Rel.own {C : Cn} {Fb : Addr → Prop} {σ : L2.St} {H : Hp} {i : Nat} {ds : List D} (R : Rel C mk Fb ρ σ H) (h : ρ[i]? = some (some (.own ds))) {s : Option SV} (hs : mutOf (some s) = none) :
    ∃ a xs, σ[i]? = some (some (.ref a)) ∧ H a = some (.lst xs) ∧ RDs C.K H (bad Fb ρ σ) xs ds ∧ ¬ bad Fb (ρ.set i s) σ a ∧ mutA ρ σ a := by
  obtain ⟨a, xs, h1, h2, h3, h4⟩ := R.mt i ds (mutOf_own h)
  refine ⟨a, xs, h1, h3, h4, fun z => ?_, i, ds, mutOf_own h, h1⟩
  rcases z with z | ⟨j, es, e1, e2⟩
  · exact h2 z
  · rw [set_get (ltOf h)] at e1
    split at e1
    · rw [hs] at e1; cases e1
    · rename_i hij
      exact hij (R.inj i j a (by rw [mutOf_own h]; exact fun z => nomatch z) (by rw [e1]; exact fun z => nomatch z) h1 e2)
theorem Rel.setV {C : Cn} {Fb : Addr → Prop} {σ : L2.St} {H : Hp} {i : Nat} {ds : List D} (R : Rel C mk Fb ρ σ H) (h : ρ[i]? = some (some (.own ds))) {d : D} {v : V} (hv : σ[i]? = some (some v)) (rd : RD C.K H (bad Fb (ρ.set i (some (.dat d))) σ) v d) : Rel C mk Fb (ρ.set i (some (.dat d))) σ H := by
  have hb : ∀ a, bad Fb (ρ.set i (some (.dat d))) σ a → bad Fb ρ σ a ∨ H a = none := fun a z => .inl (z.elim .inl fun m => .inr (mutA_set_sub rfl m))
  have hl := ltOf h
  refine ⟨by rw [List.length_set]; exact R.len, R.fb, fun j s e c => ?_, fun j es e => ?_, fun j k a e1 e2 => ?_, fun j ns e => ?_, fun j e => ?_, R.tabs⟩
  · rw [set_get hl] at e
    split at e
    · rename_i hij
      subst hij
      cases e
      exact ⟨v, hv, .dat rd⟩
    · obtain ⟨w, h1, h2⟩ := R.val j s e c
      exact ⟨w, h1, h2.bad hb⟩
  · rw [set_get hl] at e
    split at e
    · simp [mutOf] at e
    · obtain ⟨a, xs, h1, h2, h3, h4⟩ := R.mt j es e
      exact ⟨a, xs, h1, h2, h3, h4.bad hb⟩
  · have up : ∀ {j : Nat}, mutOf (ρ.set i (some (.dat d)))[j]? ≠ none → mutOf ρ[j]? ≠ none := fun {j} z => by
      rw [set_get hl] at z
      split at z
      · exact absurd rfl z
      · exact z
    exact R.inj j k a (up e1) (up e2)
  · rw [set_get hl] at e
    split at e
    · cases e
    · exact R.ro j ns e
  · rw [set_get hl] at e
    split at e
    · cases e
    · exact R.mks j e
theorem e_varO {i : Nat} {x : Str} {ds : List D} (hN : X.N[i]? = some x) (hv : Vis X.env.scope x) (hd : (x == ("__debug__" : Str)) = false) (hcd : (x == ("__classdict__" : Str)) = false) (h : ρ[i]? = some (some (.own ds))) :
    PE X (.Name x pos) (tE (cn X S) mk ρ (.dat (.list ds)) (ρ.set i (some (.dat (.list ds))))) := by
  refine peImp (pe_var hN hv hd hcd) fun σ H Q ⟨Fb, R, q⟩ => ?_
  obtain ⟨a, xs, h1, h2, h3, h4, _⟩ := R.own h (s := some (.dat (.list ds))) rfl
  have rd : RD X.K H (bad Fb (ρ.set i (some (.dat (.list ds)))) σ) (.ref a) (.list ds) := .lst h2 h4 (h3.bad fun b z => .inl (z.elim .inl fun m => .inr (mutA_set_sub rfl m)))
  exact ⟨_, h1, q _ _ ⟨R.setV h h1 rd, .refl, fun b m => mutA_set_sub rfl m, fun j es e => ⟨es, by rw [List.getElem?_set_ne fun z => by subst z; rw [h] at e; cases e]; exact e⟩⟩ rd⟩
/-! ### operators -/
theorem e_op2 {f : Value → Value → Sem Value} {g : D → D → Option EV} (hm : MkOk mk) (ho : OpR X f (rD2 X.K g)) (hg : g r1.frz r2.frz = some r) {σ : L2.St} {H : Hp} {Q : VK} (h : tE (cn X S) mk ρ r ρ2 σ H Q) :
    tOp (rD2 X.K g) (tE (cn X S) mk ρ r1 ρ1) (tE (cn X S) mk ρ1 r2 ρ2) σ H Q := by
  obtain ⟨Fb, R, q⟩ := h
  refine ⟨Fb, R, fun x H1 s1 v1 => ⟨Fb, s1.rel, fun y H2 s2 v2 => ⟨bad Fb ρ2 σ, _, _, r, s2.rd v1.frz, v2.frz, hg, fun v H3 n rv => ?_⟩⟩⟩
  have s := s1.trans s2
  exact q v H3 (s.new hm n) (RV.of hm s n rv)
theorem e_bin {op : Operator} (hm : MkOk mk) (ha : PE X a (tE (cn X S) mk ρ r1 ρ1)) (hb : PE X b (tE (cn X S) mk ρ1 r2 ρ2)) (hg : binD op r1.frz r2.frz = some r) : PE X (.BinOp a op b pos) (tE (cn X S) mk ρ r ρ2) :=
  peImp (pe_op (opD_bin op) ha hb) fun σ H Q h => e_op2 (S := S) (ρ1 := ρ1) (r1 := r1) (r2 := r2) hm (opD_bin op) hg h
theorem beh {op : CmpOp} (h : behindInMarks op b = false) : behindInMarks op b = false := h
theorem e_cmp {op : CmpOp} {k : Bool} (hm : MkOk mk) (hu : X.A.units + 65 < cLine) (ha : PE X a (tE (cn X S) mk ρ r1 ρ1)) (hb : PE X b (tE (cn X S) mk ρ1 r2 ρ2)) (hg : cmpD op r1.frz r2.frz = some k) (hbm : behindInMarks op b = false) :
    PE X (.Compare a [op] [b] pos) (tE (cn X S) mk ρ (.dat (.bool k)) ρ2) :=
  peImp (pe_cmpR (opD_cmp op hu) ha hb hbm) fun σ H Q h => e_op2 (S := S) (ρ1 := ρ1) (r1 := r1) (r2 := r2) hm (opD_cmp op hu) (by unfold cD; rw [hg]; rfl) h
theorem e_ix (hm : MkOk mk) (hu : X.A.units + 65 < cLine) (ha : PE X a (tE (cn X S) mk ρ r1 ρ1)) (hb : PE X b (tE (cn X S) mk ρ1 r2 ρ2)) {d : D} (hg : ixD r1.frz r2.frz = some d) (hp : PlainIx b) : PE X (.Subscript a b pos) (tE (cn X S) mk ρ (.dat d) ρ2) := by
  refine peImp (pe_ix (ixD_ok hu) ha hb hp) fun σ H Q h => ?_
  obtain ⟨Fb, R, q⟩ := h
  refine ⟨Fb, R, fun x H1 s1 v1 => ⟨Fb, s1.rel, fun y H2 s2 v2 => ⟨bad Fb ρ2 σ, _, _, .dat d, s2.rd v1.frz, v2.frz, by unfold iD; rw [hg]; rfl, fun v H3 n rv => ?_⟩⟩⟩
  have s := s1.trans s2
  exact q v H3 (s.new hm n) (RV.of hm s n rv)
theorem e_neg {i : Int} (ha : PE X a (tE (cn X S) mk ρ r1 ρ1)) (hg : r1.frz = .int i) : PE X (.UnaryOp .USub a pos) (tE (cn X S) mk ρ (.dat (.int (-i))) ρ1) := by
  refine peImp (pe_un un_neg ha) fun σ H Q ⟨Fb, R, q⟩ => ⟨Fb, R, fun x H1 s1 v1 => ?_⟩
  have z := v1.frz
  rw [hg] at z
  cases z
  exact ⟨i, rfl, q _ _ s1 (RD.int _)⟩
end
end Ev
set_option Elab.async false
set_option linter.all false
set_option maxRecDepth 100000
set_option maxHeartbeats 1000000
namespace Ev
open PySem PySem.Spec PyProof.Rows L2
/-! ### what stands in a text -/
def isStar : Expr → Bool
  | .Starred _ _ => true
  | _ => false
def noStar (es : List Expr) : Bool := es.all fun e => !isStar e
theorem star_cons {e : Expr} {es : List Expr} {env : PySem.Env} (h : isStar e = false) : starEach (e :: es) env = (false, eval e env) :: starEach es env := by
  cases e <;> first | rfl | (simp [isStar] at h)
theorem star_any : ∀ {es : List Expr} {env : PySem.Env} {pos : Pos}, noStar es = true → (backTo pos (starEach es env)).any (·.1) = false
  | [], _, _, _ => rfl
  | e :: es, env, pos, h => by
    have h' : (!isStar e) = true ∧ noStar es = true := by simpa [noStar] using h
    rw [star_cons (by simpa using h'.1)]
    have ih := star_any (env := env) (pos := pos) h'.2
    simpa [backTo] using ih
def plainTest : Expr → Bool
  | .UnaryOp .Not _ _ => false
  | .BoolOp _ _ _ => false
  | .IfExp _ _ _ _ => false
  | .Compare _ _ _ _ => false
  | _ => true
theorem test_plain {e : Expr} {env : PySem.Env} (h : plainTest e = true) (whole : Sem Value) : isTrue e env whole = (do let v ← whole; standAt e.pos; holding [v] (truthy v)) := by
  cases e with
  | UnaryOp op a p => cases op <;> first | rfl | (simp [plainTest] at h)
  | BoolOp => simp [plainTest] at h
  | IfExp => simp [plainTest] at h
  | Compare => simp [plainTest] at h
  | _ => rfl
theorem beh_ok {op : CmpOp} {b : Expr} (h : (match b with | .Set _ _ _ => false | _ => true) = true) : behindInMarks op b = false := by
  cases b <;> first | rfl | (simp at h)
/-! ### tests, lists of expressions -/
def tT (C : Cn) (mk : Mkd) (ρ : Env) (k : Bool) (ρ' : Env) : TT := fun σ H Q => ∃ Fb, Rel C mk Fb ρ σ H ∧ ∀ H', Step C mk Fb ρ ρ' σ H H' → Q k H'
def tAs (C : Cn) (mk : Mkd) (ρ : Env) (ds : List D) (ρ' : Env) : TA := fun σ H Q => ∃ Fb, Rel C mk Fb ρ σ H ∧ ∀ vs H', Step C mk Fb ρ ρ' σ H H' → RDs C.K H' (bad Fb ρ' σ) vs ds → Q vs H'
theorem ptImp {X : Cx} {e : Expr} {t t' : TT} (h : PT X e t) (i : ∀ σ H Q, t' σ H Q → t σ H Q) : PT X e t' := ⟨fun pins s σ H Q I q => h.run pins s σ H Q I (i _ _ _ q)⟩
theorem pwImp {X : Cx} {e : Expr} {t t' : TT} (h : PW X e t) (i : ∀ σ H Q, t' σ H Q → t σ H Q) : PW X e t' := ⟨fun wh pins s σ H Q I q => h.run wh pins s σ H Q I (i _ _ _ q)⟩
theorem paImp {X : Cx} {e : List Expr} {t t' : TA} (h : PA X e t) (i : ∀ σ H Q, t' σ H Q → t σ H Q) : PA X e t' := ⟨fun pos pins s σ H Q I q => h.run pos pins s σ H Q I (i _ _ _ q)⟩
section
variable {X : Cx} {S : Sx} {mk : Mkd} {ρ ρ1 ρ2 ρ3 : Env} {a b c e : Expr} {es : List Expr} {r r1 r2 r3 : EV} {k k1 k2 : Bool} {d : D} {ds : List D} {pos : Pos}
theorem tE_bool {σ : L2.St} {H : Hp} {Q : Bool → Hp → Prop} (hr : r.frz = .bool k) (h : tT (cn X S) mk ρ k ρ1 σ H Q) : tE (cn X S) mk ρ r ρ1 σ H fun x H' => ∃ c, x = .bl c ∧ Q c H' := by
  obtain ⟨Fb, R, q⟩ := h
  refine ⟨Fb, R, fun x H1 s1 v1 => ?_⟩
  have z := v1.frz
  rw [hr] at z
  cases z
  exact ⟨k, rfl, q _ s1⟩
theorem t_plain (hp : plainTest e = true) (h : PE X e (tE (cn X S) mk ρ r ρ1)) (hr : r.frz = .bool k) : PT X e (tT (cn X S) mk ρ k ρ1) :=
  ptImp (pt_val h (test_plain hp)) fun σ H Q q => tE_bool (S := S) hr q
theorem t_cmp {op : CmpOp} (hm : MkOk mk) (hu : X.A.units + 65 < cLine) (ha : PE X a (tE (cn X S) mk ρ r1 ρ1)) (hb : PE X b (tE (cn X S) mk ρ1 r2 ρ2)) (hg : cmpD op r1.frz r2.frz = some k) (hbm : behindInMarks op b = false) :
    PT X (.Compare a [op] [b] pos) (tT (cn X S) mk ρ k ρ2) :=
  ptImp (pt_cmpR (opD_cmp op hu) ha hb hbm) fun σ H Q q => e_op2 (S := S) (ρ1 := ρ1) (r1 := r1) (r2 := r2) (r := .dat (.bool k)) hm (opD_cmp op hu) (by unfold cD; rw [hg]; rfl) (tE_bool (S := S) (r := .dat (.bool k)) rfl q)
theorem e_cmp2T {op op' : CmpOp} (hm : MkOk mk) (hu : X.A.units + 65 < cLine) (ha : PE X a (tE (cn X S) mk ρ r1 ρ1)) (hb : PE X b (tE (cn X S) mk ρ1 r2 ρ2)) (hc : PE X c (tE (cn X S) mk ρ2 r3 ρ3)) (hg : cmpD op r1.frz r2.frz = some true) (hg2 : cmpD op' r2.frz r3.frz = some k) {σ : L2.St} {H : Hp} {Q : VK}
    (h : tE (cn X S) mk ρ (.dat (.bool k)) ρ3 σ H Q) : tChain (rD2 X.K (cD op)) (rD2 X.K (cD op')) (tE (cn X S) mk ρ r1 ρ1) (tE (cn X S) mk ρ1 r2 ρ2) (tE (cn X S) mk ρ2 r3 ρ3) σ H Q := by
  obtain ⟨Fb, R, q⟩ := h
  refine ⟨Fb, R, fun x H1 s1 v1 => ⟨Fb, s1.rel, fun y H2 s2 v2 => ⟨bad Fb ρ2 σ, _, _, .dat (.bool true), s2.rd v1.frz, v2.frz, by unfold cD; rw [hg]; rfl, fun v H3 n rv => ?_⟩⟩⟩
  have s := (s1.trans s2).new hm n
  cases (show RD X.K H3 _ v (.bool true) from rv)
  have rb : RD X.K H3 (bad Fb ρ2 σ) y r2.frz := v2.frz.kp (M := fun _ => False) n.kp fun _ z => z.elim
  refine ⟨true, rfl, ?_⟩
  rw [if_pos rfl]
  refine ⟨Fb, s.rel, fun z H4 s3 v3 => ⟨bad Fb ρ3 σ, _, _, .dat (.bool k), s3.rd rb, v3.frz, by unfold cD; rw [hg2]; rfl, fun v H5 n2 rv2 => ?_⟩⟩
  exact q v H5 ((s.trans s3).new hm n2) rv2
theorem e_cmp2F {op op' : CmpOp} (hm : MkOk mk) (hu : X.A.units + 65 < cLine) {tc : TE} (ha : PE X a (tE (cn X S) mk ρ r1 ρ1)) (hb : PE X b (tE (cn X S) mk ρ1 r2 ρ2)) (hg : cmpD op r1.frz r2.frz = some false) {σ : L2.St} {H : Hp} {Q : VK}
    (h : tE (cn X S) mk ρ (.dat (.bool false)) ρ2 σ H Q) : tChain (rD2 X.K (cD op)) (rD2 X.K (cD op')) (tE (cn X S) mk ρ r1 ρ1) (tE (cn X S) mk ρ1 r2 ρ2) tc σ H Q := by
  obtain ⟨Fb, R, q⟩ := h
  refine ⟨Fb, R, fun x H1 s1 v1 => ⟨Fb, s1.rel, fun y H2 s2 v2 => ⟨bad Fb ρ2 σ, _, _, .dat (.bool false), s2.rd v1.frz, v2.frz, by unfold cD; rw [hg]; rfl, fun v H3 n rv => ?_⟩⟩⟩
  have s := (s1.trans s2).new hm n
  cases (show RD X.K H3 _ v (.bool false) from rv)
  refine ⟨false, rfl, ?_⟩
  rw [if_neg Bool.false_ne_true]
  exact q _ _ s (RD.bl false)
theorem t_not (h : PT X a (tT (cn X S) mk ρ k ρ1)) : PT X (.UnaryOp .Not a pos) (tT (cn X S) mk ρ (!k) ρ1) :=
  ptImp (pt_not h) fun σ H Q ⟨Fb, R, q⟩ => ⟨Fb, R, fun H' s => q H' s⟩
theorem e_not (h : PE X a (tE (cn X S) mk ρ r ρ1)) (hr : r.frz = .bool k) : PE X (.UnaryOp .Not a pos) (tE (cn X S) mk ρ (.dat (.bool (!k))) ρ1) :=
  peImp (pe_not h) fun σ H Q ⟨Fb, R, q⟩ => ⟨Fb, R, fun x H1 s1 v1 => by
    have z := v1.frz
    rw [hr] at z
    cases z
    exact ⟨k, rfl, q _ _ s1 (RD.bl _)⟩⟩
/-- what 'and', 'or' of the rest give -/
theorem e_and {bs : List Expr} (ha : PE X a (tE (cn X S) mk ρ r1 ρ1)) (hr : r1.frz = .bool true) (hb : PE X (.BoolOp .And (b :: bs) pos) (tE (cn X S) mk ρ1 (.dat d) ρ2)) : PE X (.BoolOp .And (a :: b :: bs) pos) (tE (cn X S) mk ρ (.dat d) ρ2) :=
  peImp (pe_and ha hb) fun σ H Q ⟨Fb, R, q⟩ => ⟨Fb, R, fun x H1 s1 v1 => by
    have z := v1.frz
    rw [hr] at z
    cases z
    exact ⟨true, rfl, by rw [if_pos rfl]; exact ⟨Fb, s1.rel, fun y H2 s2 v2 => q _ _ (s1.trans s2) v2⟩⟩⟩
theorem e_andF {bs : List Expr} {tb : TE} (ha : PE X a (tE (cn X S) mk ρ r1 ρ1)) (hr : r1.frz = .bool false) (hb : PE X (.BoolOp .And (b :: bs) pos) tb) : PE X (.BoolOp .And (a :: b :: bs) pos) (tE (cn X S) mk ρ (.dat (.bool false)) ρ1) :=
  peImp (pe_and ha hb) fun σ H Q ⟨Fb, R, q⟩ => ⟨Fb, R, fun x H1 s1 v1 => by
    have z := v1.frz
    rw [hr] at z
    cases z
    exact ⟨false, rfl, by rw [if_neg Bool.false_ne_true]; exact q _ _ s1 (RD.bl _)⟩⟩
theorem e_or {bs : List Expr} (ha : PE X a (tE (cn X S) mk ρ r1 ρ1)) (hr : r1.frz = .bool false) (hb : PE X (.BoolOp .Or (b :: bs) pos) (tE (cn X S) mk ρ1 (.dat d) ρ2)) : PE X (.BoolOp .Or (a :: b :: bs) pos) (tE (cn X S) mk ρ (.dat d) ρ2) :=
  peImp (pe_or ha hb) fun σ H Q ⟨Fb, R, q⟩ => ⟨Fb, R, fun x H1 s1 v1 => by
    have z := v1.frz
    rw [hr] at z
    cases z
    exact ⟨false, rfl, by rw [if_neg Bool.false_ne_true]; exact ⟨Fb, s1.rel, fun y H2 s2 v2 => q _ _ (s1.trans s2) v2⟩⟩⟩
theorem e_orT {bs : List Expr} {tb : TE} (ha : PE X a (tE (cn X S) mk ρ r1 ρ1)) (hr : r1.frz = .bool true) (hb : PE X (.BoolOp .Or (b :: bs) pos) tb) : PE X (.BoolOp .Or (a :: b :: bs) pos) (tE (cn X S) mk ρ (.dat (.bool true)) ρ1) :=
  peImp (pe_or ha hb) fun σ H Q ⟨Fb, R, q⟩ => ⟨Fb, R, fun x H1 s1 v1 => by
    have z := v1.frz
    rw [hr] at z
    cases z
    exact ⟨true, rfl, by rw [if_pos rfl]; exact q _ _ s1 (RD.bl _)⟩⟩
theorem w_and {bs : List Expr} (ha : PT X a (tT (cn X S) mk ρ true ρ1)) (hb : PW X (.BoolOp .And (b :: bs) pos) (tT (cn X S) mk ρ1 k ρ2)) : PW X (.BoolOp .And (a :: b :: bs) pos) (tT (cn X S) mk ρ k ρ2) :=
  pwImp (pw_and ha hb) fun σ H Q ⟨Fb, R, q⟩ => ⟨Fb, R, fun H1 s1 => by
    exact L2.iteT (⟨Fb, s1.rel, fun H2 s2 => q _ (s1.trans s2)⟩)⟩
theorem w_andF {bs : List Expr} {tb : TT} (ha : PT X a (tT (cn X S) mk ρ false ρ1)) (hb : PW X (.BoolOp .And (b :: bs) pos) tb) : PW X (.BoolOp .And (a :: b :: bs) pos) (tT (cn X S) mk ρ false ρ1) :=
  pwImp (pw_and ha hb) fun σ H Q ⟨Fb, R, q⟩ => ⟨Fb, R, fun H1 s1 => by
    exact L2.iteF (q _ s1)⟩
theorem w_or {bs : List Expr} (ha : PT X a (tT (cn X S) mk ρ false ρ1)) (hb : PW X (.BoolOp .Or (b :: bs) pos) (tT (cn X S) mk ρ1 k ρ2)) : PW X (.BoolOp .Or (a :: b :: bs) pos) (tT (cn X S) mk ρ k ρ2) :=
  pwImp (pw_or ha hb) fun σ H Q ⟨Fb, R, q⟩ => ⟨Fb, R, fun H1 s1 => by
    exact L2.iteF (⟨Fb, s1.rel, fun H2 s2 => q _ (s1.trans s2)⟩)⟩
theorem w_orT {bs : List Expr} {tb : TT} (ha : PT X a (tT (cn X S) mk ρ true ρ1)) (hb : PW X (.BoolOp .Or (b :: bs) pos) tb) : PW X (.BoolOp .Or (a :: b :: bs) pos) (tT (cn X S) mk ρ true ρ1) :=
  pwImp (pw_or ha hb) fun σ H Q ⟨Fb, R, q⟩ => ⟨Fb, R, fun H1 s1 => by
    exact L2.iteT (q _ s1)⟩
theorem e_ifT {tb : TE} (hc : PT X c (tT (cn X S) mk ρ true ρ1)) (ha : PE X a (tE (cn X S) mk ρ1 (.dat d) ρ2)) (hb : PE X b tb) : PE X (.IfExp c a b pos) (tE (cn X S) mk ρ (.dat d) ρ2) :=
  peImp (pe_ifExp hc ha hb) fun σ H Q ⟨Fb, R, q⟩ => ⟨Fb, R, fun H1 s1 => by
    exact L2.iteT (⟨Fb, s1.rel, fun y H2 s2 v2 => q _ _ (s1.trans s2) v2⟩)⟩
theorem e_ifF {ta : TE} (hc : PT X c (tT (cn X S) mk ρ false ρ1)) (ha : PE X a ta) (hb : PE X b (tE (cn X S) mk ρ1 (.dat d) ρ2)) : PE X (.IfExp c a b pos) (tE (cn X S) mk ρ (.dat d) ρ2) :=
  peImp (pe_ifExp hc ha hb) fun σ H Q ⟨Fb, R, q⟩ => ⟨Fb, R, fun H1 s1 => by
    exact L2.iteF (⟨Fb, s1.rel, fun y H2 s2 v2 => q _ _ (s1.trans s2) v2⟩)⟩
/-- anything, where it is not come to -/
theorem pe_no : PE X e (fun _ _ _ => False) := ⟨fun _ _ _ _ _ _ h => h.elim⟩
theorem pw_no : PW X e (fun _ _ _ => False) := ⟨fun _ _ _ _ _ _ _ h => h.elim⟩
theorem pt_no : PT X e (fun _ _ _ => False) := ⟨fun _ _ _ _ _ _ h => h.elim⟩
/-! ### several -/
theorem a_nil : PA X [] (tAs (cn X S) mk ρ [] ρ) := paImp pa_nil fun σ H Q ⟨Fb, R, q⟩ => q _ _ (.refl R) .nil
theorem a_cons (hs : isStar e = false) (he : PE X e (tE (cn X S) mk ρ r ρ1)) (hr : PA X es (tAs (cn X S) mk ρ1 ds ρ2)) : PA X (e :: es) (tAs (cn X S) mk ρ (r.frz :: ds) ρ2) :=
  paImp (pa_cons he hr (star_cons hs)) fun σ H Q ⟨Fb, R, q⟩ => ⟨Fb, R, fun x H1 s1 v1 => ⟨Fb, s1.rel, fun ys H2 s2 v2 => q _ _ (s1.trans s2) (.cons (s2.rd v1.frz) v2)⟩⟩
theorem star_sq {pins : List (Addr × Obj)} {σ : L2.St} {H : Hp} {s : Shared} {a : Addr} {xs : List V} {E : Value → Shared → Prop} {Q : List Value → Shared → Prop} (I : Inv X pins σ H s) (h : SqL X.K H a xs ∨ SqT X.K H a xs) (hQ : ∀ us s', Inv X pins σ H s' → Vals xs us → Q us s') :
    PySem.W.StarOf (model X.prog X.w) X.A E (.ref a) Q s := by
  rcases h with h | h
  · obtain ⟨its, r, ⟨o, n, ho, hc, _, hd⟩, hz⟩ := I.list h
    have hT : s.TypeIs (.ref a) "list" := ⟨o, ho, hc⟩
    have hl := r.length
    have z : wpAny (model X.prog X.w) X.A (collect (.ref a)) Q E s := by
      refine wpAny_collect_seq a (.inl rfl) ho hc hd (fun h' hk => ?_) (by rw [List.size_toArray]; omega)
      have e : its.toArray.toList = its := by simp
      rw [e]
      exact hQ its _ (I.kept (t' := s.toks) hk) r
    unfold PySem.W.StarOf notIterableAtAll
    exact wpAny_bind (wpAny_specialOf hT PySem.F.slot_list_iter.lookup (wpAny_pure ⟨rfl, z⟩))
  · obtain ⟨its, r, ⟨o, ho, hc, n, hd⟩, hz⟩ := I.tuple h
    have hT : s.TypeIs (.ref a) "tuple" := ⟨o, ho, hc⟩
    have hl := r.length
    have z : wpAny (model X.prog X.w) X.A (collect (.ref a)) Q E s := by
      refine wpAny_collect_seq a (.inr rfl) ho hc hd (fun h' hk => ?_) (by rw [List.size_toArray]; omega)
      have e : its.toArray.toList = its := by simp
      rw [e]
      exact hQ its _ (I.kept (t' := s.toks) hk) r
    unfold PySem.W.StarOf notIterableAtAll
    exact wpAny_bind (wpAny_specialOf hT PySem.F.slot_tuple_iter.lookup (wpAny_pure ⟨rfl, z⟩))
/-- *e among written items -/
theorem a_star {p : Pos} {xs0 : List D} (he : PE X e (tE (cn X S) mk ρ r ρ1)) (hr : PA X es (tAs (cn X S) mk ρ1 ds ρ2)) (hx : seqLT r.frz = some xs0) : PA X (.Starred e p :: es) (tAs (cn X S) mk ρ (xs0 ++ ds) ρ2) := by
  refine ⟨fun pos pins s σ H Q I ⟨Fb, R, q⟩ => ?_⟩
  refine PySem.W.items_star (thn (he.run pins s σ H (fun x H1 => ∃ a xs, x = .ref a ∧ (SqL X.K H1 a xs ∨ SqT X.K H1 a xs) ∧ Step (cn X S) mk Fb ρ ρ1 σ H H1 ∧ RDs X.K H1 (bad Fb ρ1 σ) xs xs0) I ⟨Fb, R, fun x H1 s1 v1 => ?_⟩) fun u s1 ⟨x, H1, I1, r1, a, xs, hxa, hsq, s1', rd⟩ => ?_)
  · have v2 : RD X.K H1 (bad Fb ρ1 σ) x r.frz := v1.frz
    generalize r.frz = d at v2 hx
    cases v2 with
    | lst h n rd => cases hx; exact ⟨_, _, rfl, .inl (.inl (.inl h)), s1, rd⟩
    | tup h rd => cases hx; exact ⟨_, _, rfl, .inr h.sq, s1, rd⟩
    | _ => cases hx
  · subst hxa
    cases r1
    refine star_sq I1 hsq fun us s2 I2 vs => ?_
    exact thn (hr.run pos pins s2 σ H1 _ I2 ⟨Fb, s1'.rel, fun ys H2 s3 v2 => q _ _ (s1'.trans s3) (RDs.append (s3.rds rd) v2)⟩) fun ws s3 ⟨ys, H2, I3, r2, q2⟩ => ⟨_, H2, I3, vs.append r2, q2⟩
theorem e_lst (hm : MkOk mk) (h : PA X es (tAs (cn X S) mk ρ ds ρ1)) (hz : ds.length ≤ sizeLine) : PE X (.List es pos) (tE (cn X S) mk ρ (.fresh ds) ρ1) :=
  peImp (pe_lst h) fun σ H Q ⟨Fb, R, q⟩ => ⟨Fb, R, fun xs H1 s1 v1 => ⟨by rw [v1.length]; exact hz, fun p hp => q _ _ (s1.new hm (.laid hp)) (RV.of hm s1 (.laid hp) (rvn_lst hp v1))⟩⟩
theorem pe_tupD {x1 : Nat} (h : PA X es (tAs (cn X S) mk ρ ds ρ1)) (hm : MkOk mk) (hz : ds.length ≤ sizeLine) : PE X (.Tuple es x1 pos) (tE (cn X S) mk ρ (.dat (.tuple ds)) ρ1) := by
  refine ⟨fun pins s σ H Q I q => ?_⟩
  obtain ⟨Fb, R, q⟩ := q
  refine wpAny_Tuple_spliced (thn (h.run pos pins s σ H _ I ⟨Fb, R, fun xs H1 s1 v1 => (⟨s1, v1⟩ : Step (cn X S) mk Fb ρ ρ1 σ H H1 ∧ RDs X.K H1 (bad Fb ρ1 σ) xs ds)⟩) fun us s1 ⟨xs, H1, I1, rv, st, rd⟩ => ⟨by rw [← rv.length, rd.length]; exact hz, ?_⟩)
  exact new_tup (tk := s1.toks) I1 rv (by rw [rd.length]; exact hz) rd fun v H' n r => q v H' (st.new hm n) r
end
end Ev
set_option Elab.async false
set_option linter.all false
set_option maxRecDepth 100000
set_option maxHeartbeats 1000000
namespace Ev
open PySem PySem.Spec PyProof.Rows L2
/-! ### a list in a slot is changed -/
theorem mutPut_len {ρ : Env} {i : Nat} {ds : List D} : (mutPut ρ i ds).length = ρ.length := by
  unfold mutPut
  split <;> simp
theorem mutPut_ne {ρ : Env} {i j : Nat} {ds : List D} (h : i ≠ j) : (mutPut ρ i ds)[j]? = ρ[j]? := by
  unfold mutPut
  split
  · exact List.getElem?_set_ne h
  · exact List.getElem?_set_ne h
  · rfl
theorem mutOf_cases {o : Option (Option SV)} {ds : List D} (h : mutOf o = some ds) : o = some (some (.own ds)) ∨ o = some (some (.par ds)) := by
  match o, h with
  | some (some (.own _)), h => simp only [mutOf, Option.some.injEq] at h; subst h; exact .inl rfl
  | some (some (.par _)), h => simp only [mutOf, Option.some.injEq] at h; subst h; exact .inr rfl
theorem mutPut_at {ρ : Env} {i : Nat} {ds es : List D} (h : mutOf ρ[i]? = some ds) : mutOf (mutPut ρ i es)[i]? = some es ∧ (∀ s, (mutPut ρ i es)[i]? = some (some s) → (∃ d, s = .own d) ∨ ∃ d, s = .par d) := by
  unfold mutPut
  rcases mutOf_cases h with e | e
  · rw [e]
    simp only
    rw [List.getElem?_set_self (ltOf e)]
    exact ⟨rfl, fun s q => by cases q; exact .inl ⟨_, rfl⟩⟩
  · rw [e]
    simp only
    rw [List.getElem?_set_self (ltOf e)]
    exact ⟨rfl, fun s q => by cases q; exact .inr ⟨_, rfl⟩⟩
def putO (o : Option (Option SV)) (ds : List D) : Option (Option SV) := match o with
  | some (some (.own _)) => some (some (.own ds))
  | some (some (.par _)) => some (some (.par ds))
  | o => o
theorem mutPut_get {ρ : Env} {i : Nat} {ds : List D} : (mutPut ρ i ds)[i]? = putO ρ[i]? ds := by
  unfold mutPut
  split
  · rename_i e
    rw [List.getElem?_set_self (ltOf e), e]; rfl
  · rename_i e
    rw [List.getElem?_set_self (ltOf e), e]; rfl
  · rename_i h1 h2
    unfold putO
    split
    · rename_i e; exact absurd e (h1 _)
    · rename_i e; exact absurd e (h2 _)
    · rfl
theorem mutA_put {ρ : Env} {σ : L2.St} {i : Nat} {ds es : List D} (h : mutOf ρ[i]? = some ds) (a : Addr) : mutA (mutPut ρ i es) σ a ↔ mutA ρ σ a := by
  constructor
  · rintro ⟨j, fs, e1, e2⟩
    by_cases hj : i = j
    · subst hj
      exact ⟨i, ds, h, e2⟩
    · rw [mutPut_ne hj] at e1
      exact ⟨j, fs, e1, e2⟩
  · rintro ⟨j, fs, e1, e2⟩
    by_cases hj : i = j
    · subst hj
      exact ⟨i, es, (mutPut_at h).1, e2⟩
    · exact ⟨j, fs, by rw [mutPut_ne hj]; exact e1, e2⟩
theorem tabs_wrote {T : List NdefX.NTab} {H : Hp} {a : Addr} {xs ys : List V} (t : NdefX.TabsN T H) (h : H a = some (.lst xs)) : NdefX.TabsN T (upd H a (.lst ys)) := fun p hp => by
  obtain ⟨ps, h1, h2, h3⟩ := t p hp
  refine ⟨ps, ?_, h2, fun pos cv hc => ?_⟩
  · rw [upd_ne (fun z => by rw [z, h] at h1; cases h1)]
    exact h1
  · obtain ⟨c, e1, e2⟩ := h3 pos cv hc
    refine ⟨c, e1, ?_⟩
    rw [upd_ne (fun z => by rw [z, h] at e2; unfold LamX.CodeO at e2; cases e2)]
    exact e2
section
variable {C : Cn} {mk : Mkd} {Fb : Addr → Prop} {ρ ρ' : Env} {σ : L2.St} {H H' : Hp}
theorem Rel.put (hm : MkOk mk) (R : Rel C mk Fb ρ σ H) {i : Nat} {ds es : List D} {a : Addr} {xs ys : List V} (h : mutOf ρ[i]? = some ds) (hσ : σ[i]? = some (some (.ref a))) (hH : H a = some (.lst xs)) (rd : RDs C.K H (bad Fb ρ σ) ys es) :
    Rel C mk Fb (mutPut ρ i es) σ (upd H a (.lst ys)) := by
  have hMa : mutA ρ σ a := ⟨i, ds, h, hσ⟩
  have k : Kp (mutA ρ σ) H (upd H a (.lst ys)) := .wrote hH hMa
  have hb : ∀ b, bad Fb (mutPut ρ i es) σ b → bad Fb ρ σ b := fun b z => z.elim .inl fun m => .inr ((mutA_put h b).mp m)
  obtain ⟨p1, p2⟩ := mutPut_at (es := es) h
  refine ⟨by rw [mutPut_len]; exact R.len, fun b fb z => R.fb b fb (k.none b z), fun j s e c => ?_, fun j fs e => ?_, fun j l b e1 e2 q1 q2 => ?_, fun j ns e => ?_, fun j e => ?_, tabs_wrote R.tabs hH⟩
  · by_cases hj : i = j
    · subst hj
      rcases p2 s e with ⟨d, rfl⟩ | ⟨d, rfl⟩ <;> rcases c with ⟨_, q⟩ | ⟨_, q⟩ <;> cases q
    · rw [mutPut_ne hj] at e
      obtain ⟨v, h1, h2⟩ := R.val j s e c
      exact ⟨v, h1, (h2.kp k fun b z => .inr z).bad fun b z => .inl (hb b z)⟩
  · by_cases hj : i = j
    · subst hj
      rw [p1] at e
      cases e
      obtain ⟨b, zs, h1, h2, h3, _⟩ := R.mt i ds h
      rw [hσ] at h1
      cases h1
      exact ⟨a, ys, hσ, h2, upd_same, (rd.kp k fun b z => .inr z).bad fun b z => .inl (hb b z)⟩
    · rw [mutPut_ne hj] at e
      obtain ⟨b, zs, h1, h2, h3, h4⟩ := R.mt j fs e
      have hne : b ≠ a := fun z => by
        subst z
        exact hj (R.inj i j b (by rw [h]; exact fun z => nomatch z) (by rw [e]; exact fun z => nomatch z) hσ h1)
      exact ⟨b, zs, h1, h2, by rw [upd_ne hne]; exact h3, (h4.kp k fun b z => .inr z).bad fun b z => .inl (hb b z)⟩
  · have up : ∀ {j : Nat}, mutOf (mutPut ρ i es)[j]? ≠ none → mutOf ρ[j]? ≠ none := fun {j} z => by
      by_cases hj : i = j
      · subst hj
        rw [h]
        exact fun z => nomatch z
      · rw [mutPut_ne hj] at z
        exact z
    exact R.inj j l b (up e1) (up e2) q1 q2
  · by_cases hj : i = j
    · subst hj
      rcases p2 _ e with ⟨d, q⟩ | ⟨d, q⟩ <;> cases q
    · rw [mutPut_ne hj] at e
      obtain ⟨b, h1, h2⟩ := R.ro j ns e
      exact ⟨b, h1, h2.kp k⟩
  · by_cases hj : i = j
    · subst hj
      rcases p2 _ e with ⟨d, q⟩ | ⟨d, q⟩ <;> cases q
    · rw [mutPut_ne hj] at e
      obtain ⟨v, h1, h2⟩ := R.mks j e
      exact ⟨v, h1, hm _ _ _ _ _ h2 k⟩
theorem Step.put {ρ1 : Env} {H1 : Hp} (hm : MkOk mk) (s : Step C mk Fb ρ ρ1 σ H H1) {i : Nat} {ds es : List D} {a : Addr} {xs ys : List V} (h : mutOf ρ1[i]? = some ds) (hσ : σ[i]? = some (some (.ref a))) (hH : H1 a = some (.lst xs)) (rd : RDs C.K H1 (Ev.bad Fb ρ1 σ) ys es) :
    Step C mk Fb ρ (mutPut ρ1 i es) σ H (upd H1 a (.lst ys)) := by
  have hMa : mutA ρ1 σ a := ⟨i, ds, h, hσ⟩
  exact ⟨s.rel.put hm h hσ hH rd, s.kp.trans (Kp.wrote (M := mutA ρ1 σ) hH hMa) fun x z => .inl (s.sub x z), fun x z => s.sub x ((mutA_put h x).mp z), fun j fs e => by
    obtain ⟨gs, e1⟩ := s.par j fs e
    by_cases hj : i = j
    · subst hj
      have := (mutPut_get (ρ := ρ1) (i := i) (ds := es))
      rw [e1] at this
      exact ⟨es, this⟩
    · exact ⟨gs, by rw [mutPut_ne hj]; exact e1⟩⟩
theorem bad_put {i : Nat} {ds es : List D} (h : mutOf ρ[i]? = some ds) : ∀ x, bad Fb (mutPut ρ i es) σ x → bad Fb ρ σ x := fun x z => z.elim .inl fun m => .inr ((mutA_put h x).mp m)
end
section
variable {X : Cx} {S : Sx} {mk : Mkd} {ρ ρ1 ρ2 ρ3 : Env} {a b c e : Expr} {es : List Expr} {r r1 r2 r3 : EV} {k k1 k2 : Bool} {d : D} {ds : List D} {pos : Pos}
/-! ### built-ins by their names -/
def typeIds : List String := ["int", "list", "tuple", "dict"]
def funIds : List String := ["len", "abs", "max", "min", "sum", "all", "any", "divmod", "repr", "sorted"]
theorem blt_type (hc : X.calm = true) {id : String} (h : typeIds.contains id = true) : CallR X (.type id) (rDs X.K (bltD id)) ∧ bootBuiltins (Str.ofString id) = some (.type id) ∧ Str.ofString id ≠ "__name__" ∧ (Str.ofString id == ("__debug__" : Str)) = false := by
  simp only [typeIds, List.contains_cons, List.contains_nil, Bool.or_false, Bool.or_eq_true, beq_iff_eq] at h
  rcases h with rfl | rfl | rfl | rfl
  · exact ⟨b_int, by decide +kernel, by decide +kernel, by decide +kernel⟩
  · exact ⟨b_list hc, by decide +kernel, by decide +kernel, by decide +kernel⟩
  · exact ⟨b_tuple, by decide +kernel, by decide +kernel, by decide +kernel⟩
  · exact ⟨b_dict hc, by decide +kernel, by decide +kernel, by decide +kernel⟩
theorem blt_fun (hc : X.calm = true) (hgd : X.A.guards = some []) (hu : X.A.units + 65 < cLine) {id : String} (h : funIds.contains id = true) : CallR X (.builtin id) (rDs X.K (bltD id)) ∧ bootBuiltins (Str.ofString id) = some (.builtin id) ∧ Str.ofString id ≠ "__name__" ∧ (Str.ofString id == ("__debug__" : Str)) = false := by
  simp only [funIds, List.contains_cons, List.contains_nil, Bool.or_false, Bool.or_eq_true, beq_iff_eq] at h
  rcases h with rfl | rfl | rfl | rfl | rfl | rfl | rfl | rfl | rfl | rfl
  · exact ⟨b_len, by decide +kernel, by decide +kernel, by decide +kernel⟩
  · exact ⟨b_abs, by decide +kernel, by decide +kernel, by decide +kernel⟩
  · exact ⟨b_max hc, by decide +kernel, by decide +kernel, by decide +kernel⟩
  · exact ⟨b_min hc, by decide +kernel, by decide +kernel, by decide +kernel⟩
  · exact ⟨b_sum hc, by decide +kernel, by decide +kernel, by decide +kernel⟩
  · exact ⟨b_all hc, by decide +kernel, by decide +kernel, by decide +kernel⟩
  · exact ⟨b_any hc, by decide +kernel, by decide +kernel, by decide +kernel⟩
  · exact ⟨b_divmod, by decide +kernel, by decide +kernel, by decide +kernel⟩
  · exact ⟨b_repr hgd hu, by decide +kernel, by decide +kernel, by decide +kernel⟩
  · exact ⟨b_sorted, by decide +kernel, by decide +kernel, by decide +kernel⟩
theorem rds_use (hm : MkOk mk) {f : List D → Option EV} (hf : f ds = some r) {t : TA} {σ : L2.St} {H : Hp} {Q : VK} (h : tE (cn X S) mk ρ r ρ1 σ H Q) : tCB (rDs X.K f) (tAs (cn X S) mk ρ ds ρ1) σ H Q := by
  obtain ⟨Fb, R, q⟩ := h
  exact ⟨Fb, R, fun vs H1 s1 v1 => ⟨bad Fb ρ1 σ, ds, r, v1, hf, fun v H2 n rv => q v H2 (s1.new hm n) (RV.of hm s1 n rv), fun a z q => bad_none s1.rel q z⟩⟩
theorem e_bltT (hm : MkOk mk) (hc : X.calm = true) {id : String} {p : Pos} (hid : typeIds.contains id = true) (hg : Gl X (Str.ofString id)) (hmg : X.mg (Str.ofString id) = none) (ha : PA X (e :: es) (tAs (cn X S) mk ρ ds ρ1)) (hs : noStar (e :: es) = true) (hf : bltD id ds = some r) :
    PE X (.Call (.Name (Str.ofString id) p) (e :: es) [] pos) (tE (cn X S) mk ρ r ρ1) := by
  obtain ⟨h1, h2, h3, h4⟩ := blt_type (X := X) hc hid
  have hs' : isStar e = false ∧ noStar es = true := by simpa [noStar] using hs
  exact peImp (pe_callTy h1 hg hmg h2 ha h3 h4 (star_cons hs'.1) (star_any hs'.2)) fun σ H Q q => rds_use (t := tAs (cn X S) mk ρ ds ρ1) hm hf q
theorem e_bltF (hm : MkOk mk) (hc : X.calm = true) (hgd : X.A.guards = some []) (hu : X.A.units + 65 < cLine) {id : String} {p : Pos} (hid : funIds.contains id = true) (hg : Gl X (Str.ofString id)) (hmg : X.mg (Str.ofString id) = none) (ha : PA X (e :: es) (tAs (cn X S) mk ρ ds ρ1)) (hs : noStar (e :: es) = true) (hf : bltD id ds = some r) :
    PE X (.Call (.Name (Str.ofString id) p) (e :: es) [] pos) (tE (cn X S) mk ρ r ρ1) := by
  obtain ⟨h1, h2, h3, h4⟩ := blt_fun (X := X) hc hgd hu hid
  have hs' : isStar e = false ∧ noStar es = true := by simpa [noStar] using hs
  exact peImp (pe_callB h1 hg hmg h2 ha h3 h4 (star_cons hs'.1) (star_any hs'.2)) fun σ H Q q => rds_use (t := tAs (cn X S) mk ρ ds ρ1) hm hf q
theorem e_gcd (hm : MkOk mk) {p : Pos} (hg : Gl X "gcd") (hmg : X.mg "gcd" = some (.builtin "math.gcd")) (ha : PA X (e :: es) (tAs (cn X S) mk ρ ds ρ1)) (hs : noStar (e :: es) = true) (hf : bltD "math.gcd" ds = some r) :
    PE X (.Call (.Name "gcd" p) (e :: es) [] pos) (tE (cn X S) mk ρ r ρ1) := by
  have hs' : isStar e = false ∧ noStar es = true := by simpa [noStar] using hs
  exact peImp (pe_callBfun b_gcd hg hmg ha (by decide +kernel) (star_cons hs'.1) (star_any hs'.2)) fun σ H Q q => rds_use (t := tAs (cn X S) mk ρ ds ρ1) hm hf q
def isiIds : List String := ["int", "bool", "str", "tuple", "list"]
theorem isi_boot {c : String} (h : isiIds.contains c = true) : bootBuiltins (Str.ofString c) = some (.type c) ∧ Str.ofString c ≠ "__name__" ∧ (Str.ofString c == ("__debug__" : Str)) = false := by
  simp only [isiIds, List.contains_cons, List.contains_nil, Bool.or_false, Bool.or_eq_true, beq_iff_eq] at h
  rcases h with rfl | rfl | rfl | rfl | rfl <;> exact ⟨by decide +kernel, by decide +kernel, by decide +kernel⟩
theorem e_isi {cl : String} {p1 p2 : Pos} (hid : isiIds.contains cl = true) (hg : Gl X "isinstance") (hmg : X.mg "isinstance" = none) (hg2 : Gl X (Str.ofString cl)) (hmg2 : X.mg (Str.ofString cl) = none) (hs : isStar a = false) (ha : PE X a (tE (cn X S) mk ρ r1 ρ1)) (hf : isiD r1.frz cl = some k) :
    PE X (.Call (.Name "isinstance" p1) [a, .Name (Str.ofString cl) p2] [] pos) (tE (cn X S) mk ρ (.dat (.bool k)) ρ1) := by
  obtain ⟨h2, h3, h4⟩ := isi_boot hid
  have hc : PE X (.Name (Str.ofString cl) p2) (tC (.ty cl)) := pe_bltn hg2 hmg2 h2 rfl h3 h4
  have hn : noStar [Expr.Name (Str.ofString cl) p2] = true := rfl
  refine peImp (pe_callB isi_ok hg hmg (by decide +kernel) (pa_cons ha (pa_cons hc pa_nil (star_cons rfl)) (star_cons hs)) (by decide +kernel) (by decide +kernel) (star_cons hs) (star_any hn)) fun σ H Q q => ?_
  obtain ⟨Fb, R, q⟩ := q
  exact ⟨Fb, R, fun x H1 s1 v1 => ⟨bad Fb ρ1 σ, x, r1.frz, cl, k, rfl, v1.frz, hf, q _ _ s1 (RD.bl k)⟩⟩
end
end Ev
set_option Elab.async false
set_option linter.all false
set_option maxRecDepth 100000
set_option maxHeartbeats 1000000
namespace Ev
open PySem PySem.Spec PyProof.Rows L2
section
variable {X : Cx} {S : Sx} {mk : Mkd} {ρ ρ1 ρ2 ρ3 : Env} {a b c e o : Expr} {es : List Expr} {r r1 r2 r3 : EV} {k k1 k2 : Bool} {d : D} {ds : List D} {pos : Pos} {i : Nat} {x : Str}
/-- a part of a slice: none, or an int -/
def tPt (C : Cn) (mk : Mkd) (ρ : Env) (d : D) (ρ' : Env) : TO := fun σ H Q => ∃ Fb l, optI d = some l ∧ Rel C mk Fb ρ σ H ∧ ∀ H', Step C mk Fb ρ ρ' σ H H' → Q l H'
theorem poImp {e : Option Expr} {t t' : TO} (h : PO X e t) (i : ∀ σ H Q, t' σ H Q → t σ H Q) : PO X e t' := ⟨fun pins s σ H Q I q => h.run pins s σ H Q I (i _ _ _ q)⟩
theorem o_none : PO X none (tPt (cn X S) mk ρ .none ρ) := poImp po_none fun σ H Q ⟨Fb, l, e, R, q⟩ => by
  cases e
  exact q _ (.refl R)
theorem o_some (ha : PE X a (tE (cn X S) mk ρ r1 ρ1)) {i : Int} (hr : r1.frz = .int i) : PO X (some a) (tPt (cn X S) mk ρ r1.frz ρ1) := poImp (po_some ha) fun σ H Q ⟨Fb, l, e, R, q⟩ => ⟨Fb, R, fun y H1 s1 v1 => by
  have z := v1.frz
  rw [hr] at z e
  cases z
  cases e
  exact ⟨i, rfl, q _ s1⟩⟩
theorem e_slc (hm : MkOk mk) {lo hi : Option Expr} {d2 d3 : D} {p2 : Pos} (ha : PE X a (tE (cn X S) mk ρ r1 ρ1)) (hl : PO X lo (tPt (cn X S) mk ρ1 d2 ρ2)) (hh : PO X hi (tPt (cn X S) mk ρ2 d3 ρ3)) (hf : slcD r1.frz d2 d3 = some r) :
    PE X (.Subscript a (.Slice lo hi none p2) pos) (tE (cn X S) mk ρ r ρ3) := by
  obtain ⟨l, hl2⟩ : ∃ l, optI d2 = some l := by
    cases e : optI d2 with
    | none => simp [slcD, e] at hf
    | some l => exact ⟨l, rfl⟩
  obtain ⟨h, hh2⟩ : ∃ l, optI d3 = some l := by
    cases e : optI d3 with
    | none => simp [slcD, e] at hf
    | some l => exact ⟨l, rfl⟩
  refine peImp (pe_slice slD_ok ha hl hh) fun σ H Q ⟨Fb, R, q⟩ => ⟨Fb, R, fun y H1 s1 v1 => ⟨Fb, l, hl2, s1.rel, fun H2 s2 => ⟨Fb, h, hh2, s2.rel, fun H3 s3 => ⟨bad Fb ρ3 σ, r1.frz, d2, d3, r, s3.rd (s2.rd v1.frz), hl2, hh2, hf, fun v H4 n rv => ?_⟩⟩⟩⟩
  have s := (s1.trans s2).trans s3
  exact q v H4 (s.new hm n) (RV.of hm s n rv)
theorem e_rev (hm : MkOk mk) {j : Nat} {p1 p2 p3 : Pos} (ha : PE X a (tE (cn X S) mk ρ r1 ρ1)) (hf : revD r1.frz = some r) : PE X (.Subscript a (.Slice none none (some (.UnaryOp .USub (.Constant (.int 1) j p1) p2)) p3) pos) (tE (cn X S) mk ρ r ρ1) :=
  peImp (pe_rev ha) fun σ H Q ⟨Fb, R, q⟩ => ⟨Fb, R, fun y H1 s1 v1 => ⟨bad Fb ρ1 σ, _, r, v1.frz, hf, fun v H2 n rv => q v H2 (s1.new hm n) (RV.of hm s1 n rv)⟩⟩
/-! ### a list in a slot, read -/
theorem Rel.readL {C : Cn} {Fb : Addr → Prop} {σ : L2.St} {H : Hp} (R : Rel C mk Fb ρ σ H) (h : readL ρ[i]? = some ds) : ∃ (p : Addr) (xs : List V), σ[i]? = some (some (.ref p)) ∧ SqL C.K H p xs ∧ RDs C.K H (bad Fb ρ σ) xs ds := by
  have key : ∀ fs, mutOf ρ[i]? = some fs → fs = ds → ∃ (p : Addr) (xs : List V), σ[i]? = some (some (.ref p)) ∧ SqL C.K H p xs ∧ RDs C.K H (bad Fb ρ σ) xs ds := fun fs e e2 => by
    subst e2
    obtain ⟨p, xs, h1, _, h3, h4⟩ := R.mt i fs e
    exact ⟨p, xs, h1, .inl (.inl h3), h4⟩
  match e : ρ[i]?, h with
  | some (some (.own fs)), h => exact key fs (by rw [e]; rfl) (Option.some.inj h)
  | some (some (.par fs)), h => exact key fs (by rw [e]; rfl) (Option.some.inj h)
  | some (some (.ro ns)), h =>
    obtain ⟨p, h1, h2⟩ := R.ro i ns e
    have e2 : ns.map PyData.int = ds := Option.some.inj h
    subst e2
    exact ⟨p, _, h1, h2.sq, RDs.of_ints ns⟩
  | some (some (.dat _)), h => cases h
  | some (some (.fn _)), h => cases h
  | some (some .mk), h => cases h
  | some none, h => cases h
  | none, h => cases h
theorem e_ixv (hm : MkOk mk) {p : Pos} {ds0 : List D} (hN : X.N[i]? = some x) (hv : Vis X.env.scope x) (hd : (x == ("__debug__" : Str)) = false) (hcd : (x == ("__classdict__" : Str)) = false) (h0 : readL ρ[i]? = some ds0) (hb : PE X b (tE (cn X S) mk ρ r1 ρ1)) (hp : PlainIx b) {j : Int} (hr : r1.frz = .int j)
    (h : readL ρ1[i]? = some ds) (hat : atI ds j = some d) : PE X (.Subscript (.Name x p) b pos) (tE (cn X S) mk ρ (.dat d) ρ1) := by
  refine peImp (pe_ix ix_list (pe_var hN hv hd hcd) hb hp) fun σ H Q ⟨Fb, R, q⟩ => ?_
  obtain ⟨p0, _, hv, _⟩ := R.readL h0
  refine ⟨_, hv, Fb, R, fun y H1 s1 v1 => ?_⟩
  obtain ⟨pa, xs, h1, h2, h3⟩ := s1.rel.readL h
  rw [hv] at h1
  cases h1
  obtain ⟨w, h4, h5⟩ := h3.atI hat
  have z := v1.frz
  rw [hr] at z
  cases z
  exact ⟨p0, xs, j, w, rfl, rfl, h2, h4, q _ _ s1 h5⟩
theorem e_slv (hm : MkOk mk) {p p2 : Pos} {ds0 : List D} {lo hi : Option Expr} {d2 d3 : D} {l h : Option Int} (hN : X.N[i]? = some x) (hv : Vis X.env.scope x) (hd : (x == ("__debug__" : Str)) = false) (hcd : (x == ("__classdict__" : Str)) = false) (h0 : readL ρ[i]? = some ds0)
    (hlo : PO X lo (tPt (cn X S) mk ρ d2 ρ1)) (hhi : PO X hi (tPt (cn X S) mk ρ1 d3 ρ2)) (hl : optI d2 = some l) (hh : optI d3 = some h) (hr : readL ρ2[i]? = some ds) :
    PE X (.Subscript (.Name x p) (.Slice lo hi none p2) pos) (tE (cn X S) mk ρ (.fresh (cut ds l h)) ρ2) := by
  refine peImp (pe_slice sl_list (pe_var hN hv hd hcd) hlo hhi) fun σ H Q ⟨Fb, R, q⟩ => ?_
  obtain ⟨p0, _, hv, _⟩ := R.readL h0
  refine ⟨_, hv, Fb, l, hl, R, fun H1 s1 => ⟨Fb, h, hh, s1.rel, fun H2 s2 => ?_⟩⟩
  have s := s1.trans s2
  obtain ⟨pa, xs, h1, h2, h3⟩ := s.rel.readL hr
  rw [hv] at h1
  cases h1
  exact ⟨p0, xs, rfl, h2, fun t ht => q _ _ (s.new hm (.laid ht)) (RV.of hm s (.laid ht) (rvn_lst ht (h3.cutV l h)))⟩
theorem e_lenv {p p2 : Pos} (hN : X.N[i]? = some x) (hv : Vis X.env.scope x) (hd : (x == ("__debug__" : Str)) = false) (hcd : (x == ("__classdict__" : Str)) = false) (h : readL ρ[i]? = some ds) (hg : Gl X "len") (hmg : X.mg "len" = none) :
    PE X (.Call (.Name "len" p2) [.Name x p] [] pos) (tE (cn X S) mk ρ (.dat (.int ds.length)) ρ) := by
  have hn : noStar [] = true := rfl
  refine peImp (pe_callB call_len_seq hg hmg (by decide +kernel) (pa_cons (pe_var hN hv hd hcd) pa_nil (star_cons rfl)) (by decide +kernel) (by decide +kernel) (star_cons rfl) (star_any hn)) fun σ H Q ⟨Fb, R, q⟩ => ?_
  obtain ⟨p0, xs, hv, h2, h3⟩ := R.readL h
  exact ⟨_, hv, p0, xs, rfl, .inl h2, by rw [h3.length]; exact q _ _ (.refl R) (RD.int _)⟩
/-! ### methods -/
def baseOk : Expr → Bool
  | .Call _ [] [] _ => false
  | _ => true
theorem base_ok {o : Expr} {n : Str} {env : PySem.Env} {whole : Sem Value} (h : baseOk o = true) : attributeBase o n env whole = whole := by
  cases o with
  | Call f as ks p => cases f <;> cases as <;> cases ks <;> first | rfl | (simp [baseOk] at h)
  | _ => rfl
theorem few_ok {e : Expr} {es : List Expr} {env : PySem.Env} {cpos : Pos} (h : noStar (e :: es) = true) (hl : (e :: es).length < 30) :
    ((backTo cpos (starEach (e :: es) env)).all (fun x => !x.1) && (backToKw cpos (keywordEach [] env)).all (fun x => x.1.isSome) && decide ((e :: es).length + ([] : List Keyword).length + (if ([] : List Keyword).isEmpty then 0 else 1) < 30)) = true := by
  have h1 : (backTo cpos (starEach (e :: es) env)).all (fun x => !x.1) = true := by
    have q := star_any (env := env) (pos := cpos) h
    simp only [List.any_eq_false, List.all_eq_true, Bool.not_eq_true] at q ⊢
    intro x hx
    rw [q x hx]
    rfl
  rw [h1]
  simp only [Bool.true_and, decide_eq_true_eq]
  show (true && decide ((e :: es).length + 0 + 0 < 30)) = true
  simpa using hl
theorem e_index (hm : MkOk mk) (hu : X.A.units + 65 < cLine) {apos : Pos} (ho : PE X o (tE (cn X S) mk ρ r1 ρ1)) (hs : noStar (e :: es) = true) (hl : (e :: es).length < 30) (ha : PA X (e :: es) (tAs (cn X S) mk ρ1 ds ρ2)) {ys : List D} (hr : r1.frz = .list ys) (hf : mthD "index" (.list ys) ds = some r)
    (hb : baseOk o = true) (hline : (apos.endLine == pos.line) = true) : PE X (.Call (.Attribute o "index" apos) (e :: es) [] pos) (tE (cn X S) mk ρ r ρ2) := by
  have hs' : isStar e = false ∧ noStar es = true := by simpa [noStar] using hs
  refine peImp (pe_bm PySem.F.plainAttrs_list PySem.F.slot_list_index PySem.F.type_list_index (m_index hu) ho ha (base_ok hb) (few_ok hs hl) hline (star_cons hs'.1) (star_any hs'.2)) fun σ H Q ⟨Fb, R, q⟩ => ⟨Fb, R, fun x H1 s1 v1 => ?_⟩
  have z := v1.frz
  rw [hr] at z
  refine ⟨?_, Fb, s1.rel, fun vs H2 s2 v2 => ?_⟩
  · cases z with
    | lst g n rr => exact .inl ⟨rfl, _, .inl (.inl g)⟩
  · obtain ⟨d, rfl⟩ : ∃ d, ds = [d] := by
      match ds, hf with
      | [d], _ => exact ⟨d, rfl⟩
    have s := s1.trans s2
    exact ⟨bad Fb ρ2 σ, ys, d, [d], r, s2.rd z, v2, rfl, hf, fun v H3 n rv => q v H3 (s.new hm n) (RV.of hm s n rv)⟩
theorem e_join (hm : MkOk mk) {apos : Pos} (ho : PE X o (tE (cn X S) mk ρ r1 ρ1)) (hs : noStar (e :: es) = true) (hl : (e :: es).length < 30) (ha : PA X (e :: es) (tAs (cn X S) mk ρ1 ds ρ2)) {z : Str} (hr : r1.frz = .str z) (hf : mthD "join" (.str z) ds = some r)
    (hb : baseOk o = true) (hline : (apos.endLine == pos.line) = true) : PE X (.Call (.Attribute o "join" apos) (e :: es) [] pos) (tE (cn X S) mk ρ r ρ2) := by
  have hs' : isStar e = false ∧ noStar es = true := by simpa [noStar] using hs
  refine peImp (pe_bm PySem.F.plainAttrs_str PySem.F.slot_str_join PySem.F.type_str_join m_join ho ha (base_ok hb) (few_ok hs hl) hline (star_cons hs'.1) (star_any hs'.2)) fun σ H Q ⟨Fb, R, q⟩ => ⟨Fb, R, fun x H1 s1 v1 => ?_⟩
  have z := v1.frz
  rw [hr] at z
  refine ⟨?_, Fb, s1.rel, fun vs H2 s2 v2 => ?_⟩
  · cases z; first | exact ⟨_, rfl⟩ | exact trivial | exact rfl
  · have s := s1.trans s2
    exact ⟨bad Fb ρ2 σ, _, ds, r, s2.rd z, v2, hf, fun v H3 n rv => q v H3 (s.new hm n) (RV.of hm s n rv)⟩
/-! ### methods that change a list in a slot -/
theorem Rel.mutAt {C : Cn} {Fb : Addr → Prop} {σ : L2.St} {H : Hp} (R : Rel C mk Fb ρ σ H) (h : mutOf ρ[i]? = some ds) : ∃ (a : Addr) (xs : List V), σ[i]? = some (some (.ref a)) ∧ H a = some (.lst xs) ∧ RDs C.K H (bad Fb ρ σ) xs ds := by
  obtain ⟨a, xs, h1, _, h3, h4⟩ := R.mt i ds h
  exact ⟨a, xs, h1, h3, h4⟩
theorem e_mut (hm : MkOk mk) {m : String} {xs0 : List D} {ys : List D} {p apos : Pos} {id : String} {rr : V → List V → Hp → VK → Prop} {d : D} (hN : X.N[i]? = some x) (hv : Vis X.env.scope x) (hd : (x == ("__debug__" : Str)) = false) (hcd : (x == ("__classdict__" : Str)) = false)
    (slot : Slot "list" (Str.ofString m) id) (hty : typeOf (.builtin id) = pure (.type "method_descriptor")) (hM : MtR X id rr)
    (huse : ∀ (a : Addr) (xs : List V) (vs : List V) (B : Addr → Prop) (H : Hp) (Q : VK), H a = some (.lst xs) → RDs X.K H B xs xs0 → RDs X.K H B vs ds → (∀ v zs, RD X.K H B v d → RDs X.K H B zs ys → Q v (upd H a (.lst zs))) → rr (.ref a) vs H Q)
    (hs : noStar (e :: es) = true) (hl : (e :: es).length < 30) {ds0 : List D} (h0 : mutOf ρ[i]? = some ds0) (ha : PA X (e :: es) (tAs (cn X S) mk ρ ds ρ1)) (h : mutOf ρ1[i]? = some xs0) (hline : (apos.endLine == pos.line) = true) :
    PE X (.Call (.Attribute (.Name x p) (Str.ofString m) apos) (e :: es) [] pos) (tE (cn X S) mk ρ (.dat d) (mutPut ρ1 i ys)) := by
  have hs' : isStar e = false ∧ noStar es = true := by simpa [noStar] using hs
  refine peImp (pe_bm PySem.F.plainAttrs_list slot hty hM (pe_var hN hv hd hcd) ha (base_ok rfl) (few_ok hs hl) hline (star_cons hs'.1) (star_any hs'.2)) fun σ H Q ⟨Fb, R, q⟩ => ?_
  obtain ⟨a, xs, h1, h2, h3⟩ := R.mutAt h0
  refine ⟨_, h1, .inl ⟨rfl, _, .inl (.inl h2)⟩, Fb, R, fun vs H1 s1 v1 => ?_⟩
  obtain ⟨a', xs', g1, g2, g3⟩ := s1.rel.mutAt h
  rw [h1] at g1
  cases g1
  refine huse a xs' vs (bad Fb ρ1 σ) H1 Q g2 g3 v1 fun v zs rv rz => ?_
  have st := s1.put hm (es := ys) (ys := zs) h h1 g2 rz
  refine q v _ st ?_
  exact ((rv.kp (Kp.wrote (M := mutA ρ1 σ) g2 ⟨i, xs0, h, h1⟩) fun b z => .inr z).bad fun b z => .inl (bad_put h b z))
theorem u_append {xs0 : List D} {d : D} (hz : xs0.length < sizeLine) (a : Addr) (xs vs : List V) (B : Addr → Prop) (H : Hp) (Q : VK) (hH : H a = some (.lst xs)) (r : RDs X.K H B xs xs0) (rv : RDs X.K H B vs [d]) (q : ∀ v zs, RD X.K H B v .none → RDs X.K H B zs (xs0 ++ [d]) → Q v (upd H a (.lst zs))) : rAppend (.ref a) vs H Q := by
  obtain ⟨v, rfl, rd⟩ := rds1 rv
  exact ⟨a, xs, v, rfl, rfl, hH, by rw [r.length]; exact hz, q _ _ .non (r.append (.cons rd .nil))⟩
theorem u_pop {xs0 : List D} {j : Int} {k : Nat} {d : D} (h1 : -(2 ^ 63) ≤ j) (h2 : j < 2 ^ 63) (hk : seqIndex? j xs0.length = some k) (hd : xs0[k]? = some d) (a : Addr) (xs vs : List V) (B : Addr → Prop) (H : Hp) (Q : VK) (hH : H a = some (.lst xs)) (r : RDs X.K H B xs xs0) (rv : RDs X.K H B vs [.int j])
    (q : ∀ v zs, RD X.K H B v d → RDs X.K H B zs (xs0.eraseIdx k) → Q v (upd H a (.lst zs))) : rPopAt (.ref a) vs H Q := by
  obtain ⟨v, rfl, rd⟩ := rds1 rv
  cases rd
  obtain ⟨y, h3, h4⟩ := r.getD hd
  exact ⟨a, xs, j, k, y, rfl, rfl, hH, h1, h2, by rw [r.length]; exact hk, h3, q _ _ h4 (r.eraseIdx k)⟩
theorem u_extend {xs0 ys : List D} (hz : xs0.length + ys.length ≤ sizeLine) (a : Addr) (xs vs : List V) (B : Addr → Prop) (H : Hp) (Q : VK) (hH : H a = some (.lst xs)) (r : RDs X.K H B xs xs0) (rv : RDs X.K H B vs [.list ys]) (q : ∀ v zs, RD X.K H B v .none → RDs X.K H B zs (xs0 ++ ys) → Q v (upd H a (.lst zs))) : rExtend (.ref a) vs H Q := by
  obtain ⟨v, rfl, rd⟩ := rds1 rv
  cases rd with
  | lst g n rr => exact ⟨a, _, xs, _, rfl, rfl, hH, g, by rw [r.length, rr.length]; exact hz, q _ _ .non (r.append rr)⟩
end
end Ev
set_option Elab.async false
set_option linter.all false
set_option maxRecDepth 100000
set_option maxHeartbeats 1000000
namespace Ev
open PySem PySem.Spec PyProof.Rows L2
/-! ### more tracked, less tracked -/
def addH (H F : Hp) : Hp := fun a => match F a with
  | some o => some o
  | none => H a
theorem addH_in {H F : Hp} {a : Addr} {o : HO} (h : F a = some o) : addH H F a = some o := by unfold addH; rw [h]
theorem addH_out {H F : Hp} {a : Addr} (h : F a = none) : addH H F a = H a := by unfold addH; rw [h]
theorem addH_none {H F : Hp} {a : Addr} (h : addH H F a = none) : F a = none ∧ H a = none := by
  unfold addH at h
  cases e : F a with
  | none => rw [e] at h; exact ⟨rfl, h⟩
  | some o => rw [e] at h; cases h
theorem addH_some {H F : Hp} {a : Addr} {o : HO} (h : addH H F a = some o) : F a = some o ∨ (F a = none ∧ H a = some o) := by
  unfold addH at h
  cases e : F a with
  | none => rw [e] at h; exact .inr ⟨rfl, h⟩
  | some u => rw [e] at h; exact .inl h
/-- cells that are held as they are -/
def CellH (F : Hp) : Prop := ∀ a o, F a = some o → ∃ ob, o = .frz ob (.own 0)
section
variable {P : Program} {w : World} {H F : Hp} {h : Heap} {S : Addr → Prop}
theorem hok_cut (ok : HOk P w H h) (hS : ∀ a, S a → H a = none ∨ ∃ ob, H a = some (.frz ob (.own 0))) : HOk P w (cutH H S) h := fun a o e => by
  obtain ⟨n, e⟩ := cutH_some e
  have out : ∀ b u, H b = some u → (∀ ob, u ≠ .frz ob (.own 0)) → cutH H S b = some u := fun b u q ne => by
    rw [cutH_out fun z => ?_]
    · exact q
    · rcases hS b z with k | ⟨ob, k⟩ <;> rw [q] at k <;> cases k
      exact ne _ rfl
  exact (ok a o e).stay (fun _ _ _ q => q) (fun b q => out b _ q fun _ z => nomatch z) fun b xs q => out b _ q fun _ z => nomatch z
theorem hok_add (ok : HOk P w H h) (hF : ∀ a o, F a = some o → H a = none ∧ ∃ ob, o = .frz ob (.own 0) ∧ h.get? a = some ob) : HOk P w (addH H F) h := fun a o e => by
  have keep : ∀ b u, H b = some u → addH H F b = some u := fun b u q => by
    rw [addH_out]
    · exact q
    · cases e : F b with
      | none => rfl
      | some v => rw [(hF b v e).1] at q; cases q
  rcases addH_some e with e | ⟨_, e⟩
  · obtain ⟨_, ob, rfl, q⟩ := hF a o e
    exact ⟨q, ob, q⟩
  · exact (ok a o e).stay (fun _ _ _ q => q) (fun b q => keep b _ q) fun b xs q => keep b _ q
end
open Classical in
noncomputable def resH (H : Hp) (S : Addr → Prop) : Hp := fun a => if S a then H a else none
theorem resH_in {H : Hp} {S : Addr → Prop} {a : Addr} (h : S a) : resH H S a = H a := by unfold resH; rw [if_pos h]
theorem resH_out {H : Hp} {S : Addr → Prop} {a : Addr} (h : ¬ S a) : resH H S a = none := by unfold resH; rw [if_neg h]
theorem resH_some {H : Hp} {S : Addr → Prop} {a : Addr} {o : HO} (h : resH H S a = some o) : S a ∧ H a = some o := by
  by_cases q : S a
  · rw [resH_in q] at h; exact ⟨q, h⟩
  · rw [resH_out q] at h; cases h
/-- a callee is entered with less tracked (its captured cells are its frame's) -/
theorem env0_cut {P : Program} {w : World} {K : PySem.W.Frag} {mg : Str → Option Value} {base : Heap} {A : Around} {outer : List PySem.Env} {s : Shared} {H : Hp} {S : Addr → Prop} (e : Env0 P w K mg base A outer s H) (hS : ∀ a, S a → ∃ ob, H a = some (.frz ob (.own 0))) : Env0 P w K mg base A outer s (cutH H S) :=
  ⟨e.frames, e.mod, fun b o q => ⟨(e.bs b o q).1, cutH_none (e.bs b o q).2⟩, e.bsz, e.funs, fun b q => cutH_none (e.frf b q), hok_cut e.hok fun a q => .inr (hS a q), e.bare⟩
theorem ce_add {P : Program} {w : World} {K : PySem.W.Frag} {mg : Str → Option Value} {base : Heap} {A : Around} {outer : List PySem.Env} {s s' : Shared} {H : Hp} {S : Addr → Prop} {Q : VK} {u : Value} (e : Env0 P w K mg base A outer s H) (hS : ∀ a, S a → ∃ ob, H a = some (.frz ob (.own 0)))
    (c : CE outer P w (cutH H S) s (fun v H' => Q v (addH H' (resH H S))) u s') : CE outer P w H s Q u s' := by
  obtain ⟨v, H', os, bare, un, hok, r, q⟩ := c
  have at_ : ∀ a, S a → ∃ ob, H a = some (.frz ob (.own 0)) ∧ s.heap.get? a = some ob ∧ H' a = none ∧ s'.heap.get? a = some ob := fun a z => by
    obtain ⟨ob, q1⟩ := hS a z
    obtain ⟨q2, _⟩ := e.hok a _ q1
    have nf : a ∉ frs outer := fun k => by rw [e.frf a k] at q1; cases q1
    exact ⟨ob, q1, q2, un.free a ob q2 (cutH_in z) (by simp), un.keep a ob q2 (cutH_in z) nf (by simp)⟩
  have add_in : ∀ a, S a → addH H' (resH H S) a = H a := fun a z => by
    obtain ⟨ob, q1, _⟩ := at_ a z
    rw [q1]; exact addH_in (by rw [resH_in z]; exact q1)
  have add_out : ∀ a, ¬ S a → addH H' (resH H S) a = H' a := fun a z => addH_out (resH_out z)
  refine ⟨v, addH H' (resH H S), os, bare, ⟨fun b o e1 n hb hx => ?_, fun b o e1 n hb hx => ?_, fun b o e1 n hx => ?_, un.there, fun b xs e1 => ?_, fun b o x e1 => ?_, fun b ps e1 => ?_⟩, ?_, r, q⟩
  · exact un.keep b o e1 (cutH_none n) hb hx
  · exact un.slot b o e1 (cutH_none n) hb hx
  · rw [add_out b fun z => by obtain ⟨ob, q1⟩ := hS b z; rw [n] at q1; cases q1]
    exact un.free b o e1 (cutH_none n) hx
  · have nS : ¬ S b := fun z => by obtain ⟨ob, q1⟩ := hS b z; rw [e1] at q1; cases q1
    rw [add_out b nS]
    exact un.tups b xs (by rw [cutH_out nS]; exact e1)
  · by_cases z : S b
    · rw [add_in b z]; exact e1
    · rw [add_out b z]
      exact un.frzs b o x (by rw [cutH_out z]; exact e1)
  · have nS : ¬ S b := fun z => by obtain ⟨ob, q1⟩ := hS b z; rw [e1] at q1; cases q1
    rw [add_out b nS]
    exact un.tbls b ps (by rw [cutH_out nS]; exact e1)
  · refine hok_add hok fun a o k => ?_
    obtain ⟨k1, k2⟩ := resH_some k
    obtain ⟨ob, q1, _, q3, q4⟩ := at_ a k1
    rw [q1] at k2; cases k2
    exact ⟨q3, ob, rfl, q4⟩
/-! ### a frame's own cells, held while others run -/
open Classical in
noncomputable def frzF (X : Cx) (s : Shared) : Hp := fun a => if clA X.env.cells a then (s.heap.get? a).map fun ob => .frz ob (.own 0) else none
section
variable {X : Cx} {pins : List (Addr × Obj)} {σ : L2.St} {H : Hp} {s s' : Shared}
theorem frzF_some {a : Addr} {o : HO} (h : frzF X s a = some o) : clA X.env.cells a ∧ ∃ ob, s.heap.get? a = some ob ∧ o = .frz ob (.own 0) := by
  unfold frzF at h
  split at h
  · rename_i z
    cases e : s.heap.get? a with
    | none => rw [e] at h; cases h
    | some ob => rw [e] at h; cases h; exact ⟨z, ob, rfl, rfl⟩
  · cases h
theorem frzF_in (I : Inv X pins σ H s) {a : Addr} (h : clA X.env.cells a) : ∃ ob v, s.heap.get? a = some ob ∧ ob.data = .cell v ∧ frzF X s a = some (.frz ob (.own 0)) ∧ H a = none := by
  obtain ⟨y, hy⟩ := h
  obtain ⟨v, ob, q, d⟩ := I.cell y a hy
  refine ⟨ob, v, q, d, ?_, I.freeC y a hy⟩
  unfold frzF
  rw [if_pos ⟨y, hy⟩, q] <;> rfl
theorem frzF_out {a : Addr} (h : ¬ clA X.env.cells a) : frzF X s a = none := by
  unfold frzF
  rw [if_neg h]
theorem cell_nofr (hfn : ∀ x, X.fn x = true) (I : Inv X pins σ H s) {a : Addr} (h : clA X.env.cells a) : a ∉ frs X.stack := fun z => by
  obtain ⟨y, hy⟩ := h
  rcases List.mem_cons.mp (I.stkSub _ z) with e | e
  · exact I.cne y a hy e
  · obtain ⟨_, o, ho, _⟩ := I.ok.funs.mem e
    exact absurd (Nat.lt_of_lt_of_le (Heap.lt_size ho) (I.ok.cab y a (hfn y) hy)) (Nat.lt_irrefl _)
theorem frz_env0 (hfn : ∀ x, X.fn x = true) (I : Inv X pins σ H s) : Env0 X.prog X.w X.K X.mg X.base X.A X.stack s (addH H (frzF X s)) := by
  have e := I.env0
  refine ⟨e.frames, e.mod, fun b o q => ⟨(e.bs b o q).1, ?_⟩, e.bsz, e.funs, fun b q => ?_, ?_, e.bare⟩
  · rw [addH_out (frzF_out ?_)]
    · exact (e.bs b o q).2
    · rintro ⟨y, hy⟩
      have h1 := I.ok.cab y b (hfn y) hy
      exact absurd (Nat.lt_of_lt_of_le (Heap.lt_size q) (Nat.le_trans I.ok.bsz h1)) (Nat.lt_irrefl _)
  · rw [addH_out (frzF_out fun z => cell_nofr hfn I z q)]
    exact e.frf b q
  · refine hok_add e.hok fun a o k => ?_
    obtain ⟨k1, ob, k2, rfl⟩ := frzF_some k
    obtain ⟨_, _, _, _, _, n⟩ := frzF_in I k1
    exact ⟨n, ob, rfl, k2⟩
theorem frz_after (hfn : ∀ x, X.fn x = true) (I : Inv X pins σ H s) {Q : VK} {u : Value} (c : CE X.stack X.prog X.w (addH H (frzF X s)) s (fun v H' => Q v (cutH H' (clA X.env.cells))) u s') : CE X.stack X.prog X.w H s Q u s' := by
  obtain ⟨v, H', os, bare, un, hok, r, q⟩ := c
  have at_ : ∀ a, clA X.env.cells a → ∃ ob, H a = none ∧ addH H (frzF X s) a = some (.frz ob (.own 0)) ∧ s.heap.get? a = some ob ∧ H' a = some (.frz ob (.own 0)) ∧ s'.heap.get? a = some ob := fun a z => by
    obtain ⟨ob, _, q1, _, q2, n⟩ := frzF_in I z
    have q3 := addH_in (H := H) q2
    have q4 := un.frzs a ob _ q3
    obtain ⟨q5, _⟩ := hok a _ q4
    exact ⟨ob, n, q3, q1, q4, q5⟩
  have out : ∀ a, ¬ clA X.env.cells a → addH H (frzF X s) a = H a := fun a z => addH_out (frzF_out z)
  refine ⟨v, cutH H' (clA X.env.cells), os, bare, ⟨fun b o e1 n hb hx => ?_, fun b o e1 n hb hx => ?_, fun b o e1 n hx => ?_, un.there, fun b xs e1 => ?_, fun b o x e1 => ?_, fun b ps e1 => ?_⟩, ?_, r, q⟩
  · by_cases z : clA X.env.cells b
    · obtain ⟨ob, _, _, q1, _, q2⟩ := at_ b z
      rw [e1] at q1; cases q1; exact q2
    · exact un.keep b o e1 (by rw [out b z]; exact n) hb hx
  · by_cases z : clA X.env.cells b
    · exact absurd hb (cell_nofr hfn I z)
    · exact un.slot b o e1 (by rw [out b z]; exact n) hb hx
  · by_cases z : clA X.env.cells b
    · exact cutH_in z
    · rw [cutH_out z]
      exact un.free b o e1 (by rw [out b z]; exact n) hx
  · have nS : ¬ clA X.env.cells b := fun z => by obtain ⟨ob, n, _⟩ := at_ b z; rw [n] at e1; cases e1
    rw [cutH_out nS]
    exact un.tups b xs (by rw [out b nS]; exact e1)
  · have nS : ¬ clA X.env.cells b := fun z => by obtain ⟨ob, n, _⟩ := at_ b z; rw [n] at e1; cases e1
    rw [cutH_out nS]
    exact un.frzs b o x (by rw [out b nS]; exact e1)
  · have nS : ¬ clA X.env.cells b := fun z => by obtain ⟨ob, n, _⟩ := at_ b z; rw [n] at e1; cases e1
    rw [cutH_out nS]
    exact un.tbls b ps (by rw [out b nS]; exact e1)
  · exact hok_cut hok fun a z => by
      obtain ⟨ob, _, _, _, q1, _⟩ := at_ a z
      exact .inr ⟨ob, q1⟩
end
end Ev
set_option Elab.async false
set_option linter.all false
set_option maxRecDepth 100000
set_option maxHeartbeats 1000000
namespace Ev
open PySem PySem.Spec PyProof.Rows L2
/-! ### how the parameters are bound -/
structure PlainP (p : Arguments) (ps : List Str) : Prop where
  po : p.posonlyargs = []
  ar : p.args.map (·.arg) = ps
  va : p.vararg = none
  ko : p.kwonlyargs = []
  kw : p.kwarg = none
def okKw (ps : List Str) : List (Str × Value) → List (Str × Value) → Prop
  | _, [] => True
  | sl, (k, v) :: r => ps.contains k = true ∧ (sl.lookup k).isSome = false ∧ okKw ps (sl ++ [(k, v)]) r
theorem seqItems_none : seqItems? Value.none = pure none := rfl
theorem loopKw {ps : List Str} (f : Str × Value → List (Str × Value) × List (Str × Value) → Sem (ForInStep (List (Str × Value) × List (Str × Value))))
    (hf : ∀ k v sl ex, ps.contains k = true → (sl.lookup k).isSome = false → f (k, v) (sl, ex) = pure (.yield (sl ++ [(k, v)], ex))) : ∀ (kw sl ex : List (Str × Value)), okKw ps sl kw → forIn kw (sl, ex) f = pure (sl ++ kw, ex)
  | [], sl, ex, _ => by rw [List.forIn_nil, List.append_nil]
  | (k, v) :: r, sl, ex, h => by
    obtain ⟨h1, h2, h3⟩ := h
    rw [List.forIn_cons, hf k v sl ex h1 h2, pure_bind]
    show forIn r (sl ++ [(k, v)], ex) f = _
    rw [loopKw f hf r _ ex h3]
    simp
theorem bind_core {fd : FuncData} {ps : List Str} {us : List Value} {kw : List (Str × Value)} (hp : PlainP fd.params ps) (hd : fd.defaults = .none) (hk : okKw ps (ps.zip us) kw) (hl : us.length ≤ ps.length)
    (ha : ∀ n ∈ ps, ((ps.zip us ++ kw).lookup n).isSome = true) : bindArgs fd ⟨us, kw⟩ = pure (ps.filterMap fun n => ((ps.zip us ++ kw).lookup n).map (n, ·)) := by
  unfold bindArgs
  simp only [hp.po, hp.ar, hp.va, hp.ko, hp.kw, hd, seqItems_none, List.map_nil, List.nil_append, List.append_nil]
  rw [loopKw (ps := ps) _ (fun k v sl ex h1 h2 => by simp only [h1, h2, Bool.true_or, if_true, Bool.false_eq_true, if_false]) kw _ _ hk, pure_bind]
  have hm : (List.filter (fun n => (List.lookup n (ps.zip us ++ kw)).isNone) ps) = [] := by
    rw [List.filter_eq_nil_iff]
    intro n hn
    have := ha n hn
    cases e : List.lookup n (ps.zip us ++ kw) with
    | none => rw [e] at this; cases this
    | some v => simp
  have hg : ¬ us.length > ps.length := by omega
  simp [hg, hm]
theorem permute_nil {α : Type} {xs : List α} : permute xs [] = some [] := rfl
theorem permute_cons {α : Type} {xs ys : List α} {j : Nat} {p : List Nat} (h : permute xs (j :: p) = some ys) : ∃ y r, ys = y :: r ∧ xs[j]? = some y ∧ permute xs p = some r := by
  unfold permute at h ⊢
  rw [List.mapM_cons] at h
  cases e : xs[j]? with
  | none => rw [e] at h; cases h
  | some y =>
    rw [e] at h
    cases e2 : List.mapM (fun j => xs[j]?) p with
    | none => rw [e2] at h; cases h
    | some r => rw [e2] at h; cases h; exact ⟨y, r, rfl, rfl, rfl⟩
theorem permute_len {α : Type} {xs : List α} : ∀ {p : List Nat} {ys : List α}, permute xs p = some ys → ys.length = p.length
  | [], ys, h => by cases h; rfl
  | j :: p, ys, h => by
    obtain ⟨y, r, rfl, _, h2⟩ := permute_cons h
    simp [permute_len h2]
theorem zip_lookup {β : Type} : ∀ {nm : List Str} {xs : List β} {j : Nat} {n : Str} {v : β}, nm.Nodup → nm[j]? = some n → xs[j]? = some v → (nm.zip xs).lookup n = some v
  | [], _, _, _, _, _, h, _ => by simp at h
  | _ :: _, [], _, _, _, _, _, h => by simp at h
  | p :: ps, x :: xs, 0, n, v, nd, h1, h2 => by
    simp at h1 h2; subst h1; subst h2
    simp [List.lookup]
  | p :: ps, x :: xs, j + 1, n, v, nd, h1, h2 => by
    have h1' : ps[j]? = some n := by simpa using h1
    have ne : n ≠ p := fun e => by
      subst e
      exact (List.nodup_cons.mp nd).1 (List.mem_of_getElem? h1')
    have nb : (n == p) = false := by simpa using ne
    rw [List.zip_cons_cons, List.lookup_cons, nb]
    exact zip_lookup (List.nodup_cons.mp nd).2 h1' (by simpa using h2)
theorem zip_lookup_none {β : Type} : ∀ {nm : List Str} {xs : List β} {n : Str}, n ∉ nm → (nm.zip xs).lookup n = none
  | [], _, _, _ => rfl
  | _ :: _, [], _, _ => rfl
  | p :: ps, x :: xs, n, h => by
    have nb : (n == p) = false := by
      simp only [beq_eq_false_iff_ne, ne_eq]
      intro e; subst e; exact h List.mem_cons_self
    rw [List.zip_cons_cons, List.lookup_cons, nb]
    exact zip_lookup_none fun z => h (List.mem_cons_of_mem _ z)
def kwB (ps ks : List Str) (npos : Nat) (perm : List Nat) : Bool :=
  decide (ps.take npos ++ ks).Nodup && decide ((ps.take npos ++ ks).length = ps.length) && decide (npos ≤ ps.length) && decide (permute (ps.take npos ++ ks) perm = some ps) && ks.all ps.contains
theorem okKw_of {ps : List Str} : ∀ {ks : List Str} {ws : List Value} {n0 : List Str} {x0 : List Value}, (n0 ++ ks).Nodup → (∀ k ∈ ks, ps.contains k = true) → n0.length = x0.length → okKw ps (n0.zip x0) (ks.zip ws)
  | [], _, _, _, _, _, _ => True.intro
  | _ :: _, [], _, _, _, _, _ => True.intro
  | k :: ks, w :: ws, n0, x0, nd, h, hl => by
    refine ⟨h k List.mem_cons_self, ?_, ?_⟩
    · rw [zip_lookup_none]
      · rfl
      · intro z
        exact (List.nodup_append.mp nd).2.2 k z k List.mem_cons_self rfl
    · have e : n0.zip x0 ++ [(k, w)] = (n0 ++ [k]).zip (x0 ++ [w]) := by rw [List.zip_append hl]; rfl
      rw [e]
      exact okKw_of (by simpa using nd) (fun q z => h q (List.mem_cons_of_mem _ z)) (by simp [hl])
theorem gather {nm : List Str} {xs : List Value} (nd : nm.Nodup) : ∀ {p : List Nat} {ps : List Str} {zs : List Value}, permute nm p = some ps → permute xs p = some zs → (ps.filterMap fun n => ((nm.zip xs).lookup n).map (n, ·)) = ps.zip zs ∧ ∀ n ∈ ps, ((nm.zip xs).lookup n).isSome = true
  | [], ps, zs, h1, h2 => by cases h1; cases h2; exact ⟨rfl, fun _ z => by cases z⟩
  | j :: p, ps, zs, h1, h2 => by
    obtain ⟨n, r, rfl, a1, a2⟩ := permute_cons h1
    obtain ⟨v, t, rfl, b1, b2⟩ := permute_cons h2
    have l := zip_lookup nd a1 b1
    obtain ⟨c1, c2⟩ := gather nd a2 b2
    refine ⟨?_, fun m z => ?_⟩
    · rw [List.filterMap_cons, l, List.zip_cons_cons, ← c1] <;> rfl
    · rcases List.mem_cons.mp z with e | z
      · rw [e, l]; rfl
      · exact c2 m z
theorem bind_all {fd : FuncData} {ps ks : List Str} {us ws zs : List Value} {perm : List Nat} (hp : PlainP fd.params ps) (hd : fd.defaults = .none) (hb : kwB ps ks us.length perm = true) (hw : ks.length = ws.length) (hz : permute (us ++ ws) perm = some zs) :
    bindArgs fd ⟨us, ks.zip ws⟩ = pure (ps.zip zs) := by
  unfold kwB at hb
  simp only [Bool.and_eq_true, decide_eq_true_eq, List.all_eq_true] at hb
  obtain ⟨⟨⟨⟨h1, h2⟩, h3⟩, h4⟩, h5⟩ := hb
  have ht : (ps.take us.length).length = us.length := by rw [List.length_take]; omega
  have e1 : ps.zip us = (ps.take us.length).zip us := by
    have key : ∀ (ps : List Str) (us : List Value), ps.zip us = (ps.take us.length).zip us := by
      intro ps
      induction ps with
      | nil => intro us; simp
      | cons p ps ih =>
        intro us
        cases us with
        | nil => simp
        | cons u us => simp only [List.zip_cons_cons, List.length_cons, List.take_succ_cons]; rw [← ih us]
    exact key ps us
  have e2 : ps.zip us ++ ks.zip ws = (ps.take us.length ++ ks).zip (us ++ ws) := by rw [e1, List.zip_append ht]
  obtain ⟨g1, g2⟩ := gather (xs := us ++ ws) h1 h4 hz
  rw [bind_core hp hd (by rw [e1]; exact okKw_of h1 h5 ht) h3 (by rw [e2]; exact g2), e2, g1]
theorem permute_range {α : Type} (xs : List α) : permute xs (List.range xs.length) = some xs := by
  have key : ∀ (ys : List α) (pre : List α), permute (pre ++ ys) ((List.range ys.length).map (· + pre.length)) = some ys := by
    intro ys
    induction ys with
    | nil => intro pre; rfl
    | cons y ys ih =>
      intro pre
      have h := ih (pre ++ [y])
      unfold permute at h ⊢
      rw [List.length_cons, List.range_succ_eq_map, List.map_cons, List.map_map, List.mapM_cons]
      have e : (pre ++ y :: ys)[0 + pre.length]? = some y := by simp
      rw [e]
      have e2 : List.map ((fun x => x + pre.length) ∘ Nat.succ) (List.range ys.length) = (List.range ys.length).map (· + (pre ++ [y]).length) := by
        apply List.map_congr_left
        intro a _
        simp
        omega
      rw [e2]
      have e3 : pre ++ y :: ys = (pre ++ [y]) ++ ys := by simp
      rw [e3, h] <;> rfl
  have := key xs []
  simpa using this
theorem bind_pos {fd : FuncData} {ps : List Str} {us : List Value} (hp : PlainP fd.params ps) (hd : fd.defaults = .none) (nd : ps.Nodup) (hl : us.length = ps.length) : bindArgs fd ⟨us, []⟩ = pure (ps.zip us) := by
  have q := bind_all (ks := []) (ws := []) (us := us) (zs := us) (perm := List.range ps.length) hp hd ?_ rfl (by rw [List.append_nil, ← hl]; exact permute_range us)
  · exact q
  · unfold kwB
    rw [hl, List.take_length, List.append_nil]
    simp [nd, permute_range]
end Ev
set_option Elab.async false
set_option linter.all false
set_option maxRecDepth 100000
set_option maxHeartbeats 1000000
namespace Ev
open PySem PySem.Spec PyProof.Rows L2
/-! ### what a call promises -/
def aenv (as : List Arg) : Env := as.map fun a => some (argSV a)
def mk0 : Mkd := fun _ _ _ => False
theorem mk0_ok : MkOk mk0 := fun _ _ _ _ _ h _ => h
def Shape : List Arg → List Arg → Prop
  | [], [] => True
  | .par _ :: as, .par _ :: bs => Shape as bs
  | a :: as, b :: bs => a = b ∧ Shape as bs
  | _, _ => False
theorem Shape.len : ∀ {as bs : List Arg}, Shape as bs → as.length = bs.length
  | [], [], _ => rfl
  | [], _ :: _, h => h.elim
  | a :: as, [], h => by cases a <;> exact h.elim
  | a :: as, b :: bs, h => by
    have : Shape as bs := by cases a <;> cases b <;> first | exact h | exact h.2
    simp [Shape.len this]
theorem Shape.get : ∀ {as bs : List Arg} {i : Nat} {a : Arg}, Shape as bs → as[i]? = some a → (∃ ds ds', a = .par ds ∧ bs[i]? = some (.par ds')) ∨ ((∀ ds, a ≠ .par ds) ∧ bs[i]? = some a)
  | [], [], _, _, _, e => by simp at e
  | [], _ :: _, _, _, h, _ => h.elim
  | a :: as, [], _, _, h, _ => by cases a <;> exact h.elim
  | a :: as, b :: bs, 0, x, h, e => by
    simp at e; subst e
    cases a with
    | par ds =>
      cases b with
      | par es => exact .inl ⟨ds, es, rfl, rfl⟩
      | dat _ => exact (nomatch h.1)
      | ro _ => exact (nomatch h.1)
      | fn _ => exact (nomatch h.1)
    | dat _ => cases b <;> (have q := h.1; cases q) <;> exact .inr ⟨fun _ z => (nomatch z), rfl⟩
    | ro _ => cases b <;> (have q := h.1; cases q) <;> exact .inr ⟨fun _ z => (nomatch z), rfl⟩
    | fn _ => cases b <;> (have q := h.1; cases q) <;> exact .inr ⟨fun _ z => (nomatch z), rfl⟩
  | a :: as, b :: bs, i + 1, x, h, e => by
    have h' : Shape as bs := by cases a <;> cases b <;> first | exact h | exact h.2
    have := Shape.get (i := i) (a := x) h' (by simpa using e)
    simpa using this
theorem Shape.getR {as bs : List Arg} {i : Nat} {ds : List D} (h : Shape as bs) (e : bs[i]? = some (.par ds)) : ∃ ds', as[i]? = some (.par ds') := by
  have hl : i < as.length := by rw [h.len]; exact (List.getElem?_eq_some_iff.mp e).1
  rcases h.get (List.getElem?_eq_getElem hl) with ⟨x, _, q, _⟩ | ⟨n, q⟩
  · exact ⟨x, by rw [List.getElem?_eq_getElem hl, q]⟩
  · rw [e] at q
    exact absurd (Option.some.inj q).symm (n ds)
theorem Shape.refl : ∀ (as : List Arg), Shape as as
  | [] => True.intro
  | a :: as => by cases a <;> first | exact Shape.refl as | exact ⟨rfl, Shape.refl as⟩
theorem aenv_get {as : List Arg} {i : Nat} {s : SV} (h : (aenv as)[i]? = some (some s)) : ∃ a, as[i]? = some a ∧ argSV a = s := by
  unfold aenv at h
  rw [List.getElem?_map] at h
  cases e : as[i]? with
  | none => rw [e] at h; cases h
  | some a => rw [e] at h; exact ⟨a, rfl, Option.some.inj (Option.some.inj h)⟩
theorem aenv_at {as : List Arg} {i : Nat} {a : Arg} (h : as[i]? = some a) : (aenv as)[i]? = some (some (argSV a)) := by
  unfold aenv
  rw [List.getElem?_map, h]
  rfl
theorem aenv_mut {as : List Arg} {i : Nat} {ds : List D} (h : mutOf (aenv as)[i]? = some ds) : as[i]? = some (.par ds) := by
  rcases mutOf_cases h with e | e <;> obtain ⟨a, e1, e2⟩ := aenv_get e <;> cases a <;> cases e2
  exact e1
theorem map_some_get {vs : List V} {i : Nat} {v : V} (h : (vs.map some)[i]? = some (some v)) : vs[i]? = some v := by
  rw [List.getElem?_map] at h
  cases e : vs[i]? with
  | none => rw [e] at h; cases h
  | some w => rw [e] at h; cases h; rfl
theorem map_some_at {vs : List V} {i : Nat} {v : V} (h : vs[i]? = some v) : (vs.map some)[i]? = some (some v) := by
  rw [List.getElem?_map, h]; rfl
/-- the value that a call gives -/
def RA (C : Cn) (Fb : Addr → Prop) (as' : List Arg) (vs : List V) (H H' : Hp) (v : V) : EV → Prop
  | .dat d => RD C.K H' (bad Fb (aenv as') (vs.map some)) v d
  | .fresh ds => ∃ a xs, v = .ref a ∧ H a = none ∧ ¬ bad Fb (aenv as') (vs.map some) a ∧ H' a = some (.lst xs) ∧ RDs C.K H' (fun b => bad Fb (aenv as') (vs.map some) b ∨ b = a) xs ds ∧ Rel C mk0 (fun b => Fb b ∨ b = a) (aenv as') (vs.map some) H'
structure AEnd (C : Cn) (Fb : Addr → Prop) (as as' : List Arg) (vs : List V) (r : EV) (H H' : Hp) (v : V) : Prop where
  rel : Rel C mk0 Fb (aenv as') (vs.map some) H'
  kp : Kp (mutA (aenv as) (vs.map some)) H H'
  shape : Shape as as'
  val : RA C Fb as' vs H H' v r
def spG (C : Cn) (Φ : FV → List Arg → Res) (F : FV) (vf : V) : Sp := fun vs H Q _ => ∃ Fb as r as', Rel C mk0 Fb (aenv as) (vs.map some) H ∧ RS C (bad Fb (aenv as) (vs.map some)) H vf (.fn F) ∧ Φ F as = .ok r as' ∧ ∀ v H', AEnd C Fb as as' vs r H H' v → Q v H'
def CXe : CXT := fun _ _ _ _ _ _ => False
/-- a def of the text -/
def DefG (P : Program) (w : World) (base : Heap) (C : Cn) (Φ : FV → List Arg → Res) (k : Nat) (f : Str) (ps : List Str) : Prop :=
  ∃ (fa : Addr) (fd : FuncData), C.mg f = some (.ref fa) ∧ PySem.W.keepIn C.K (.ref fa) = true ∧ PlainP fd.params ps ∧ fd.defaults = .none ∧ ps.Nodup ∧
    ∀ (A : Around) (outer : List PySem.Env) (s : Shared) (H : Hp) (args : Args) (us : List Value) (vs : List V) (Q : VK) (E : XK), Room k A → A.guards = some [] → Env0 P w C.K C.mg base A outer s H → BindsTo s fd args (ps.zip us) → Vals vs us → vs.length = ps.length →
      spG C Φ (.glob f) (.ref fa) vs H Q E → codeAny (model P w) A (.call (.ref fa) args) (CR CXe outer P w H s Q E) s
/-- all that may be called -/
structure Runs (P : Program) (w : World) (base : Heap) (C : Cn) (Φ : FV → List Arg → Res) (k : Nat) (sig : Str → Option (List Str)) : Prop where
  glob : ∀ f ps, sig f = some ps → DefG P w base C Φ k f ps
  dom : ∀ f as r as', Φ (.glob f) as = .ok r as' → ∃ ps, sig f = some ps ∧ as.length = ps.length
  clo : ∀ (id : Nat) (caps : List SV) (fa : Addr) (A : Around) (outer : List PySem.Env) (s : Shared) (H : Hp) (us : List Value) (vs : List V) (Q : VK) (E : XK), Room k A → A.guards = some [] → Env0 P w C.K C.mg base A outer s H → Vals vs us →
      spG C Φ (.clo id caps) (.ref fa) vs H Q E → codeAny (model P w) A (.call (.ref fa) ⟨us, []⟩) (CR CXe outer P w H s Q E) s
/-! ### arguments -/
/-- an argument's value; Ad: what may be held besides -/
def PRel (C : Cn) (Fb : Addr → Prop) (ρ : Env) (σ : L2.St) (H : Hp) (Ad : Hp → Prop) : PArg → V → Prop
  | .dat d, v => RD C.K H (bad Fb ρ σ) v d
  | .slot i, v => σ[i]? = some (some v)
  | .fn F, v => ∀ FF, Ad FF → (∀ a, FF a ≠ none → H a = none) → RS C (bad Fb ρ σ) (addH H FF) v (.fn F)
inductive PRels (C : Cn) (Fb : Addr → Prop) (ρ : Env) (σ : L2.St) (H : Hp) (Ad : Hp → Prop) : List PArg → List V → Prop where
  | nil : PRels C Fb ρ σ H Ad [] []
  | cons {p : PArg} {v : V} {ps : List PArg} {vs : List V} : PRel C Fb ρ σ H Ad p v → PRels C Fb ρ σ H Ad ps vs → PRels C Fb ρ σ H Ad (p :: ps) (v :: vs)
theorem Kp.add {M : Addr → Prop} {H H' : Hp} (k : Kp M H H') (F : Hp) : Kp M (addH H F) (addH H' F) := by
  refine ⟨fun a o h t m => ?_, fun a h => ?_⟩
  · rcases addH_some h with e | ⟨e, q⟩
    · exact addH_in e
    · rw [addH_out e]
      exact k.keep a o q t m
  · obtain ⟨h1, h2⟩ := addH_none h
    rw [addH_out h1]
    exact k.none a h2
theorem Kp.to_add {M : Addr → Prop} {H F : Hp} (d : ∀ a, F a ≠ Option.none → H a = Option.none) : Kp M H (addH H F) := by
  refine ⟨fun a o h t m => ?_, fun a h => (addH_none h).2⟩
  rw [addH_out]
  · exact h
  · cases e : F a with
    | none => rfl
    | some u =>
      have := d a (by rw [e]; exact fun z => nomatch z)
      rw [h] at this; cases this
section
variable {C : Cn} {mk : Mkd} {Fb : Addr → Prop} {ρ ρ' : Env} {σ : L2.St} {H H' : Hp} {Ad : Hp → Prop}
theorem PRel.step (s : Step C mk Fb ρ ρ' σ H H') {p : PArg} {v : V} (r : PRel C Fb ρ σ H Ad p v) : PRel C Fb ρ' σ H' Ad p v := by
  cases p with
  | dat d => exact s.rd r
  | slot i => exact r
  | fn F =>
    intro FF hA hd
    have hd0 : ∀ a, FF a ≠ none → H a = none := fun a z => s.kp.none a (hd a z)
    exact ((r FF hA hd0).kp (s.kp.add FF) fun x h => .inr h).bad fun x h => .inl (s.bad x h)
theorem PRels.step (s : Step C mk Fb ρ ρ' σ H H') : ∀ {ps : List PArg} {vs : List V}, PRels C Fb ρ σ H Ad ps vs → PRels C Fb ρ' σ H' Ad ps vs
  | _, _, .nil => .nil
  | _, _, .cons r t => .cons (r.step s) (PRels.step s t)
theorem PRels.get : ∀ {ps : List PArg} {vs : List V} {i : Nat} {p : PArg}, PRels C Fb ρ σ H Ad ps vs → ps[i]? = some p → ∃ v, vs[i]? = some v ∧ PRel C Fb ρ σ H Ad p v
  | _, _, _, _, .nil, e => by simp at e
  | _, _, 0, _, .cons r _, e => by simp at e; subst e; exact ⟨_, rfl, r⟩
  | _, _, i + 1, x, .cons _ t, e => by
    obtain ⟨u, h1, h2⟩ := PRels.get (i := i) (p := x) t (by simpa using e)
    exact ⟨u, by simpa using h1, h2⟩
theorem PRels.len : ∀ {ps : List PArg} {vs : List V}, PRels C Fb ρ σ H Ad ps vs → ps.length = vs.length
  | _, _, .nil => rfl
  | _, _, .cons _ t => by simp [PRels.len t]
theorem PRels.permute : ∀ {perm : List Nat} {ps qs : List PArg} {vs : List V}, PRels C Fb ρ σ H Ad ps vs → permute ps perm = some qs → ∃ zs, permute vs perm = some zs ∧ PRels C Fb ρ σ H Ad qs zs
  | [], ps, qs, vs, r, h => by cases h; exact ⟨[], rfl, .nil⟩
  | j :: perm, ps, qs, vs, r, h => by
    obtain ⟨y, t, rfl, h1, h2⟩ := permute_cons h
    obtain ⟨v, e1, e2⟩ := r.get h1
    obtain ⟨zs, e3, e4⟩ := PRels.permute r h2
    refine ⟨v :: zs, ?_, .cons e2 e4⟩
    unfold Ev.permute at e3 ⊢
    rw [List.mapM_cons, e1, e3]
    rfl
end
theorem now_get : ∀ {qs : List PArg} {as : List Arg} {ρ : Env} {j : Nat} {q : PArg}, PArgs.now ρ qs = some as → qs[j]? = some q → ∃ a, q.now ρ = some a ∧ as[j]? = some a
  | [], _, _, _, _, _, e => by simp at e
  | p :: qs, as, ρ, j, q, h, e => by
    unfold PArgs.now at h
    cases h1 : p.now ρ with
    | none => rw [h1] at h; cases h
    | some a =>
      rw [h1] at h
      cases h2 : PArgs.now ρ qs with
      | none => rw [h2] at h; cases h
      | some as' =>
        rw [h2] at h
        cases h
        cases j with
        | zero => simp at e; subst e; exact ⟨a, h1, rfl⟩
        | succ j =>
          obtain ⟨b, e1, e2⟩ := now_get (j := j) (q := q) h2 (by simpa using e)
          exact ⟨b, e1, by simpa using e2⟩
theorem now_len : ∀ {qs : List PArg} {as : List Arg} {ρ : Env}, PArgs.now ρ qs = some as → qs.length = as.length
  | [], as, _, h => by cases h; rfl
  | p :: qs, as, ρ, h => by
    unfold PArgs.now at h
    cases h1 : p.now ρ with
    | none => rw [h1] at h; cases h
    | some a =>
      rw [h1] at h
      cases h2 : PArgs.now ρ qs with
      | none => rw [h2] at h; cases h
      | some as' => rw [h2] at h; cases h; simp [now_len h2]
theorem slot_mem : ∀ {qs : List PArg} {j i : Nat}, qs[j]? = some (.slot i) → i ∈ slotsOf qs
  | [], _, _, e => by simp at e
  | p :: qs, 0, i, e => by simp at e; subst e; exact List.mem_cons_self
  | p :: qs, j + 1, i, e => by
    have := slot_mem (qs := qs) (j := j) (i := i) (by simpa using e)
    cases p <;> first | exact List.mem_cons_of_mem _ this | exact this
theorem slot_uniq : ∀ {qs : List PArg} {j k i : Nat}, (slotsOf qs).Nodup → qs[j]? = some (.slot i) → qs[k]? = some (.slot i) → j = k
  | [], _, _, _, _, e, _ => by simp at e
  | p :: qs, 0, 0, i, _, _, _ => rfl
  | p :: qs, 0, k + 1, i, nd, e1, e2 => by
    simp at e1; subst e1
    exact absurd (slot_mem (qs := qs) (j := k) (by simpa using e2)) (List.nodup_cons.mp nd).1
  | p :: qs, j + 1, 0, i, nd, e1, e2 => by
    simp at e2; subst e2
    exact absurd (slot_mem (qs := qs) (j := j) (by simpa using e1)) (List.nodup_cons.mp nd).1
  | p :: qs, j + 1, k + 1, i, nd, e1, e2 => by
    have nd' : (slotsOf qs).Nodup := by cases p <;> first | exact (List.nodup_cons.mp nd).2 | exact nd
    rw [slot_uniq (qs := qs) (j := j) (k := k) nd' (by simpa using e1) (by simpa using e2)]
/-! ### the slots' lists behind a call -/
theorem back_len : ∀ {qs : List PArg} {as : List Arg} {ρ : Env}, (PArgs.back qs as ρ).length = ρ.length
  | [], _, _ => by unfold PArgs.back; rfl
  | .slot i :: qs, [], ρ => rfl
  | .dat i :: qs, [], ρ => rfl
  | .fn i :: qs, [], ρ => rfl
  | .dat _ :: qs, a :: as, ρ => by cases a <;> exact back_len (qs := qs)
  | .fn _ :: qs, a :: as, ρ => by cases a <;> exact back_len (qs := qs)
  | .slot i :: qs, a :: as, ρ => by
    cases a with
    | par ds =>
      show (PArgs.back qs as (mutPut ρ i ds)).length = _
      rw [back_len (qs := qs), mutPut_len]
    | dat _ => exact back_len (qs := qs)
    | ro _ => exact back_len (qs := qs)
    | fn _ => exact back_len (qs := qs)
theorem back_out : ∀ {qs : List PArg} {as : List Arg} {ρ : Env} {i : Nat}, i ∉ slotsOf qs → (PArgs.back qs as ρ)[i]? = ρ[i]?
  | [], _, _, _, _ => by unfold PArgs.back; rfl
  | .slot _ :: qs, [], ρ, _, _ => rfl
  | .dat _ :: qs, [], ρ, _, _ => rfl
  | .fn _ :: qs, [], ρ, _, _ => rfl
  | .dat _ :: qs, a :: as, ρ, i, h => by cases a <;> exact back_out (qs := qs) h
  | .fn _ :: qs, a :: as, ρ, i, h => by cases a <;> exact back_out (qs := qs) h
  | .slot k :: qs, a :: as, ρ, i, h => by
    have h1 : i ≠ k := fun e => h (by rw [e]; exact List.mem_cons_self)
    have h2 : i ∉ slotsOf qs := fun e => h (List.mem_cons_of_mem _ e)
    cases a with
    | par ds =>
      show (PArgs.back qs as (mutPut ρ k ds))[i]? = _
      rw [back_out (qs := qs) h2, mutPut_ne (Ne.symm h1)]
    | dat _ => exact back_out (qs := qs) h2
    | ro _ => exact back_out (qs := qs) h2
    | fn _ => exact back_out (qs := qs) h2
/-- a slot that was handed over -/
theorem back_in : ∀ {qs : List PArg} {as : List Arg} {ρ : Env} {i j : Nat} {a : Arg}, (slotsOf qs).Nodup → qs[j]? = some (.slot i) → as[j]? = some a → (PArgs.back qs as ρ)[i]? = (match a with | .par ds => (mutPut ρ i ds)[i]? | _ => ρ[i]?)
  | [], _, _, _, _, _, _, e, _ => by simp at e
  | p :: qs, [], _, _, _, _, _, _, e => by simp at e
  | p :: qs, b :: as, ρ, i, 0, a, nd, e1, e2 => by
    simp at e1 e2; subst e1; subst e2
    have h2 : i ∉ slotsOf qs := (List.nodup_cons.mp nd).1
    cases b with
    | par ds => exact back_out (qs := qs) (ρ := mutPut ρ i ds) h2
    | dat _ => exact back_out (qs := qs) h2
    | ro _ => exact back_out (qs := qs) h2
    | fn _ => exact back_out (qs := qs) h2
  | p :: qs, b :: as, ρ, i, j + 1, a, nd, e1, e2 => by
    have e1' : qs[j]? = some (.slot i) := by simpa using e1
    have e2' : as[j]? = some a := by simpa using e2
    have nd' : (slotsOf qs).Nodup := by cases p <;> first | exact (List.nodup_cons.mp nd).2 | exact nd
    cases p with
    | dat _ => cases b <;> exact back_in (qs := qs) nd' e1' e2'
    | fn _ => cases b <;> exact back_in (qs := qs) nd' e1' e2'
    | slot k =>
      have hk : k ≠ i := fun e => (List.nodup_cons.mp nd).1 (by rw [e]; exact slot_mem e1')
      cases b with
      | par ds =>
        show (PArgs.back qs as (mutPut ρ k ds))[i]? = _
        rw [back_in (qs := qs) nd' e1' e2']
        cases a with
        | par es =>
          show (mutPut (mutPut ρ k ds) i es)[i]? = (mutPut ρ i es)[i]?
          rw [mutPut_get, mutPut_get, mutPut_ne hk]
        | dat _ => exact mutPut_ne hk
        | ro _ => exact mutPut_ne hk
        | fn _ => exact mutPut_ne hk
      | dat _ => exact back_in (qs := qs) nd' e1' e2'
      | ro _ => exact back_in (qs := qs) nd' e1' e2'
      | fn _ => exact back_in (qs := qs) nd' e1' e2'
end Ev
set_option Elab.async false
set_option linter.all false
set_option maxRecDepth 100000
set_option maxHeartbeats 1000000
namespace Ev
open PySem PySem.Spec PyProof.Rows L2
section
variable {K : PySem.W.Frag} {H : Hp} {B : Addr → Prop} {S : Addr → Prop}
def CellAt (H : Hp) (S : Addr → Prop) : Prop := ∀ a, S a → ∃ ob, H a = some (.frz ob (.own 0))
theorem cutH_keep (hS : CellAt H S) {a : Addr} {o : HO} (h : H a = some o) (n : ∀ ob, o ≠ .frz ob (.own 0)) : cutH H S a = some o := by
  rw [cutH_out fun z => ?_]
  · exact h
  · obtain ⟨ob, e⟩ := hS a z
    rw [h] at e; cases e
    exact n ob rfl
theorem SqT.cut (hS : CellAt H S) {a : Addr} {xs : List V} (h : SqT K H a xs) : SqT K (cutH H S) a xs := by
  rcases h with (h | ⟨o, h⟩) | h
  · exact .inl (.inl (cutH_keep hS h fun _ z => nomatch z))
  · exact .inl (.inr ⟨o, cutH_keep hS h fun _ z => nomatch z⟩)
  · exact .inr h
theorem TupO.cut (hS : CellAt H S) {a : Addr} {xs : List V} {ds : List D} (h : TupO K H a xs ds) : TupO K (cutH H S) a xs ds := by
  rcases h with ⟨f, h⟩ | ⟨f, ob, h, e⟩
  · exact .inl ⟨f, SqT.cut hS h⟩
  · exact .inr ⟨f, ob, cutH_keep hS h (fun _ z => nomatch z), e⟩
mutual
theorem RD.cut (hS : CellAt H S) : ∀ {v : V} {d : D}, RD K H B v d → RD K (cutH H S) B v d
  | _, _, .non => .non
  | _, _, .bl b => .bl b
  | _, _, .int i => .int i
  | _, _, .str x => .str x
  | _, _, .lst h n r => .lst (cutH_keep hS h fun _ z => nomatch z) n (RDs.cut hS r)
  | _, _, .tup h r => .tup (TupO.cut hS h) (RDs.cut hS r)
  | _, _, .dic h n r => .dic (cutH_keep hS h fun _ z => nomatch z) n (RDs.cut hS r)
  | _, _, .dit h r => .dit (cutH_keep hS h fun _ z => nomatch z) (RDs.cut hS r)
theorem RDs.cut (hS : CellAt H S) : ∀ {vs : List V} {ds : List D}, RDs K H B vs ds → RDs K (cutH H S) B vs ds
  | _, _, .nil => .nil
  | _, _, .cons r t => .cons (RD.cut hS r) (RDs.cut hS t)
end
theorem TabsN.cut {T : List NdefX.NTab} (hS : CellAt H S) (t : NdefX.TabsN T H) : NdefX.TabsN T (cutH H S) := fun p hp => by
  obtain ⟨ps, h1, h2, h3⟩ := t p hp
  refine ⟨ps, cutH_keep hS h1 (fun _ z => nomatch z), h2, fun pos cv hc => ?_⟩
  obtain ⟨c, e1, e2⟩ := h3 pos cv hc
  exact ⟨c, e1, cutH_keep hS e2 fun _ z => by unfold LamX.CodeO at z; cases z⟩
end
section
variable {C : Cn} {mk : Mkd} {Fb : Addr → Prop} {ρ ρ' : Env} {σ : L2.St} {H : Hp} {Ad : Hp → Prop} {FF : Hp} {qs : List PArg} {as as' : List Arg} {vs : List V}
/-- each argument -/
theorem arg_at (P : PRels C Fb ρ σ H Ad qs vs) (hn : PArgs.now ρ qs = some as) {j : Nat} {a : Arg} (h : as[j]? = some a) : ∃ q v, qs[j]? = some q ∧ q.now ρ = some a ∧ vs[j]? = some v ∧ PRel C Fb ρ σ H Ad q v := by
  have hl : j < qs.length := by rw [now_len hn]; exact (List.getElem?_eq_some_iff.mp h).1
  have e := List.getElem?_eq_getElem hl
  obtain ⟨b, e1, e2⟩ := now_get hn e
  rw [h] at e2; cases e2
  obtain ⟨v, e3, e4⟩ := P.get e
  exact ⟨_, v, e, e1, e3, e4⟩
theorem now_par {q : PArg} {ds : List D} (h : q.now ρ = some (.par ds)) : ∃ i, q = .slot i ∧ mutOf ρ[i]? = some ds := by
  cases q with
  | dat d => cases h
  | fn F => cases h
  | slot i =>
    refine ⟨i, rfl, ?_⟩
    unfold PArg.now at h
    simp only at h
    split at h
    · rename_i e; cases h; rw [e]; rfl
    · rename_i e; cases h; rw [e]; rfl
    · cases h
    · cases h
theorem now_ro {q : PArg} {ns : List Int} (h : q.now ρ = some (.ro ns)) : ∃ i, q = .slot i ∧ ρ[i]? = some (some (.ro ns)) := by
  cases q with
  | dat d => cases h
  | fn F => cases h
  | slot i =>
    refine ⟨i, rfl, ?_⟩
    unfold PArg.now at h
    simp only at h
    split at h
    · cases h
    · cases h
    · rename_i e; cases h; exact e
    · cases h
theorem now_dat {q : PArg} {d : D} (h : q.now ρ = some (.dat d)) : q = .dat d := by
  cases q with
  | dat d' => cases h; rfl
  | fn F => cases h
  | slot i =>
    unfold PArg.now at h
    simp only at h
    split at h <;> cases h
theorem now_fn {q : PArg} {F : FV} (h : q.now ρ = some (.fn F)) : q = .fn F := by
  cases q with
  | dat d' => cases h
  | fn F => cases h; rfl
  | slot i =>
    unfold PArg.now at h
    simp only at h
    split at h <;> cases h
/-- a list that is handed over -/
theorem mut_arg (P : PRels C Fb ρ σ H Ad qs vs) (hn : PArgs.now ρ qs = some as) {a : Addr} (m : mutA (aenv as) (vs.map some) a) : ∃ (j i : Nat) (ds : List D), as[j]? = some (.par ds) ∧ qs[j]? = some (.slot i) ∧ mutOf ρ[i]? = some ds ∧ σ[i]? = some (some (.ref a)) ∧ vs[j]? = some (.ref a) := by
  obtain ⟨j, ds, e1, e2⟩ := m
  have e3 := aenv_mut e1
  obtain ⟨q, v, e4, e5, e6, e7⟩ := arg_at P hn e3
  obtain ⟨i, rfl, e8⟩ := now_par e5
  have e9 := map_some_get e2
  rw [e6] at e9; cases e9
  exact ⟨j, i, ds, e3, e4, e8, e7, e6⟩
/-- what the callee must not reach -/
def FbC (Fb : Addr → Prop) (ρ : Env) (σ : L2.St) (as : List Arg) (vs : List V) (a : Addr) : Prop := bad Fb ρ σ a ∧ ¬ mutA (aenv as) (vs.map some) a
theorem badC (P : PRels C Fb ρ σ H Ad qs vs) (hn : PArgs.now ρ qs = some as) (a : Addr) : bad (FbC Fb ρ σ as vs) (aenv as) (vs.map some) a ↔ bad Fb ρ σ a := by
  constructor
  · rintro (⟨h, _⟩ | m)
    · exact h
    · obtain ⟨j, i, ds, _, _, h1, h2, _⟩ := mut_arg P hn m
      exact .inr ⟨i, ds, h1, h2⟩
  · intro h
    by_cases m : mutA (aenv as) (vs.map some) a
    · exact .inr m
    · exact .inl ⟨h, m⟩
theorem call_rel (R : Rel C mk Fb ρ σ H) (P : PRels C Fb ρ σ H Ad qs vs) (hA : Ad FF) (hd : ∀ a, FF a ≠ none → H a = none) (hn : PArgs.now ρ qs = some as) (nd : (slotsOf qs).Nodup) :
    Rel C mk0 (FbC Fb ρ σ as vs) (aenv as) (vs.map some) (addH H FF) := by
  have kp : Kp (fun _ => False) H (addH H FF) := .to_add hd
  have hb : ∀ a, bad (FbC Fb ρ σ as vs) (aenv as) (vs.map some) a → bad Fb ρ σ a ∨ H a = none := fun a z => .inl ((badC P hn a).mp z)
  have hb2 : ∀ a, bad (FbC Fb ρ σ as vs) (aenv as) (vs.map some) a → bad Fb ρ σ a ∨ addH H FF a = none := fun a z => .inl ((badC P hn a).mp z)
  refine ⟨?_, fun a z q => ?_, fun j s e c => ?_, fun j ds e => ?_, fun j k a e1 e2 e3 e4 => ?_, fun j ns e => ?_, fun j e => ?_, R.tabs.ext fun b o q => ?_⟩
  · unfold aenv
    rw [List.length_map, List.length_map, ← now_len hn, P.len]
  · rcases z.1 with y | y
    · exact R.fb a y (kp.none a q)
    · exact mutA_none R (kp.none a q) y
  · obtain ⟨a, e1, e2⟩ := aenv_get e
    obtain ⟨q, v, e3, e4, e5, e6⟩ := arg_at P hn e1
    refine ⟨v, map_some_at e5, ?_⟩
    cases a with
    | dat d =>
      cases e2
      cases now_dat e4
      exact .dat ((RD.bad hb e6).kp kp fun _ z => z.elim)
    | fn F =>
      cases e2
      cases now_fn e4
      exact (e6 FF hA hd).bad hb2
    | par ds => cases e2; rcases c with ⟨_, z⟩ | ⟨_, z⟩ <;> cases z
    | ro ns => cases e2; rcases c with ⟨_, z⟩ | ⟨_, z⟩ <;> cases z
  · have e3 := aenv_mut e
    obtain ⟨q, v, e4, e5, e6, e7⟩ := arg_at P hn e3
    obtain ⟨i, rfl, e8⟩ := now_par e5
    obtain ⟨a, xs, h1, h2, h3, h4⟩ := R.mt i ds e8
    have e7 : σ[i]? = some (some v) := e7
    rw [h1] at e7; cases e7
    refine ⟨a, xs, map_some_at e6, fun z => z.2 ⟨j, ds, e, map_some_at e6⟩, kp.keep _ _ h3 (fun _ z => nomatch z) (fun z => z.elim), (h4.bad hb).kp kp fun _ z => z.elim⟩
  · cases m1 : mutOf (aenv as)[j]? with
    | none => exact absurd m1 e1
    | some ds =>
      cases m2 : mutOf (aenv as)[k]? with
      | none => exact absurd m2 e2
      | some es =>
        obtain ⟨q, v, a4, a5, a6, a7⟩ := arg_at P hn (aenv_mut m1)
        obtain ⟨q', v', b4, b5, b6, b7⟩ := arg_at P hn (aenv_mut m2)
        obtain ⟨i, rfl, a8⟩ := now_par a5
        obtain ⟨i', rfl, b8⟩ := now_par b5
        have a9 := map_some_get e3
        have b9 := map_some_get e4
        rw [a6] at a9; cases a9
        rw [b6] at b9; cases b9
        have : i = i' := R.inj i i' a (by rw [a8]; exact fun z => nomatch z) (by rw [b8]; exact fun z => nomatch z) a7 b7
        subst this
        exact slot_uniq nd a4 b4
  · obtain ⟨a, e1, e2⟩ := aenv_get e
    cases a <;> cases e2
    obtain ⟨q, v, e3, e4, e5, e6⟩ := arg_at P hn e1
    obtain ⟨i, rfl, e7⟩ := now_ro e4
    obtain ⟨a, h1, h2⟩ := R.ro i ns e7
    have e6 : σ[i]? = some (some v) := e6
    rw [h1] at e6; cases e6
    exact ⟨a, map_some_at e5, h2.kp kp⟩
  · obtain ⟨a, e1, e2⟩ := aenv_get e
    cases a <;> cases e2
  · rw [addH_out]
    · exact q
    · cases z : FF b with
      | none => rfl
      | some u => have := hd b (by rw [z]; exact fun z => nomatch z); rw [q] at this; cases this
end
section
variable {C : Cn} {mk : Mkd} {Fb Fbx Fx : Addr → Prop} {ρ ρ' : Env} {σ : L2.St} {H H' : Hp} {Ad : Hp → Prop} {FF : Hp} {qs : List PArg} {as as' : List Arg} {vs : List V}
theorem mem_slot : ∀ {qs : List PArg} {i : Nat}, i ∈ slotsOf qs → ∃ j : Nat, qs[j]? = some (PArg.slot i)
  | [], _, h => by cases h
  | .slot k :: qs, i, h => by
    rcases List.mem_cons.mp h with e | e
    · subst e; exact ⟨0, rfl⟩
    · obtain ⟨j, q⟩ := mem_slot e; exact ⟨j + 1, by simpa using q⟩
  | .dat _ :: qs, i, h => by obtain ⟨j, q⟩ := mem_slot (qs := qs) h; exact ⟨j + 1, by simpa using q⟩
  | .fn _ :: qs, i, h => by obtain ⟨j, q⟩ := mem_slot (qs := qs) h; exact ⟨j + 1, by simpa using q⟩
/-- own lists behind a call: as ahead -/
theorem back_mut (hn : PArgs.now ρ qs = some as) (sh : Shape as as') (nd : (slotsOf qs).Nodup) (i : Nat) : (∃ (j : Nat) (ds es : List D), qs[j]? = some (.slot i) ∧ as[j]? = some (.par ds) ∧ as'[j]? = some (.par es) ∧ mutOf ρ[i]? = some ds ∧ (PArgs.back qs as' ρ)[i]? = putO ρ[i]? es) ∨ ((PArgs.back qs as' ρ)[i]? = ρ[i]? ∧ ∀ (j : Nat) (ds : List D), qs[j]? = some (.slot i) → as[j]? ≠ some (.par ds)) := by
  by_cases h : ∃ (j : Nat) (ds : List D), qs[j]? = some (.slot i) ∧ as[j]? = some (.par ds)
  · obtain ⟨j, ds, h1, h2⟩ := h
    obtain ⟨a, h3, h4⟩ := now_get hn h1
    rw [h2] at h4; cases h4
    obtain ⟨i', e, h5⟩ := now_par h3
    cases e
    rcases sh.get h2 with ⟨_, es, _, q⟩ | ⟨n, _⟩
    · exact .inl ⟨j, ds, es, h1, h2, q, h5, (back_in nd h1 q).trans mutPut_get⟩
    · exact absurd rfl (n ds)
  · refine .inr ⟨?_, fun j ds h1 h2 => h ⟨j, ds, h1, h2⟩⟩
    by_cases hs : i ∈ slotsOf qs
    · obtain ⟨j, hj⟩ := mem_slot hs
      obtain ⟨a, h3, h4⟩ := now_get hn hj
      rcases sh.get h4 with ⟨ds, _, q, _⟩ | ⟨n, q⟩
      · exact absurd ⟨j, ds, hj, by rw [h4, q]⟩ h
      · rw [back_in nd hj q]
        cases a <;> first | rfl | exact absurd rfl (n _)
    · exact back_out hs
theorem putO_mut {o : Option (Option SV)} {ds es : List D} (h : mutOf o = some ds) : mutOf (putO o es) = some es ∧ ∀ s, putO o es = some (some s) → (∃ d, s = .own d) ∨ ∃ d, s = .par d := by
  rcases mutOf_cases h with e | e <;> subst e
  · exact ⟨rfl, fun s q => by cases q; exact .inl ⟨_, rfl⟩⟩
  · exact ⟨rfl, fun s q => by cases q; exact .inr ⟨_, rfl⟩⟩
theorem back_mutA (hn : PArgs.now ρ qs = some as) (sh : Shape as as') (nd : (slotsOf qs).Nodup) (a : Addr) : mutA (PArgs.back qs as' ρ) σ a ↔ mutA ρ σ a := by
  constructor
  · rintro ⟨i, ds, e1, e2⟩
    rcases back_mut hn sh nd i with ⟨j, ds', es, _, _, _, h1, h2⟩ | ⟨h1, _⟩
    · exact ⟨i, ds', h1, e2⟩
    · rw [h1] at e1; exact ⟨i, ds, e1, e2⟩
  · rintro ⟨i, ds, e1, e2⟩
    rcases back_mut hn sh nd i with ⟨j, ds', es, _, _, _, h1, h2⟩ | ⟨h1, _⟩
    · exact ⟨i, es, by rw [h2]; exact (putO_mut h1).1, e2⟩
    · exact ⟨i, ds, by rw [h1]; exact e1, e2⟩
theorem after_rel (hm : MkOk mk) (R : Rel C mk Fb ρ σ H) (P : PRels C Fb ρ σ H Ad qs vs) (hn : PArgs.now ρ qs = some as) (nd : (slotsOf qs).Nodup) (sh : Shape as as') (k : Kp (mutA (aenv as) (vs.map some)) H H')
    (h1 : ∀ b, Fb b → Fbx b) (h2 : ∀ b, Fbx b → Fb b ∨ H b = none) (h3 : ∀ b, Fbx b → H' b ≠ none) (Am : ∀ (j : Nat) (ds : List D), as'[j]? = some (.par ds) → ∃ a xs, vs[j]? = some (V.ref a) ∧ H' a = some (.lst xs) ∧ RDs C.K H' (bad Fx (aenv as') (vs.map some)) xs ds) (At : NdefX.TabsN C.T H') (h4 : ∀ b, bad Fbx ρ σ b → bad Fx (aenv as') (vs.map some) b) :
    Rel C mk Fbx (PArgs.back qs as' ρ) σ H' := by
  have bm := back_mutA (σ := σ) hn sh nd
  have hb : ∀ b, bad Fbx (PArgs.back qs as' ρ) σ b → bad Fb ρ σ b ∨ H b = none := fun b z => z.elim (fun q => (h2 b q).elim (fun x => .inl (.inl x)) .inr) fun m => .inl (.inr ((bm b).mp m))
  have hx : ∀ b, bad Fbx (PArgs.back qs as' ρ) σ b → bad Fx (aenv as') (vs.map some) b := fun b z => h4 b (z.elim .inl fun m => .inr ((bm b).mp m))
  have mm : ∀ b, mutA (aenv as) (vs.map some) b → mutA ρ σ b := fun b m => by
    obtain ⟨j, i, ds, _, _, e1, e2, _⟩ := mut_arg P hn m
    exact ⟨i, ds, e1, e2⟩
  have kM := k.mono mm
  refine ⟨by rw [back_len]; exact R.len, h3, fun i s e c => ?_, fun i ds e => ?_, fun i j a e1 e2 e3 e4 => ?_, fun i ns e => ?_, fun i e => ?_, At⟩
  · rcases back_mut hn sh nd i with ⟨j, ds', es, _, _, _, q1, q2⟩ | ⟨q1, _⟩
    · rw [q2] at e
      rcases (putO_mut q1).2 s e with ⟨d, rfl⟩ | ⟨d, rfl⟩ <;> rcases c with ⟨_, z⟩ | ⟨_, z⟩ <;> cases z
    · rw [q1] at e
      obtain ⟨v, r1, r2⟩ := R.val i s e c
      have r3 : RS C (bad Fb ρ σ) H' v s := r2.kp kM fun b z => .inr z
      exact ⟨v, r1, (((r2.bad hb).kp k fun b z => .inr ((bm b).mpr (mm b z))))⟩
  · rcases back_mut hn sh nd i with ⟨j, ds', es, p1, p2, p3, q1, q2⟩ | ⟨q1, q2⟩
    · rw [q2, (putO_mut q1).1] at e
      cases e
      obtain ⟨a, xs, r1, r3, r4⟩ := Am j ds p3
      obtain ⟨v, e1, e2⟩ := P.get p1
      rw [e1] at r1; cases r1
      refine ⟨a, xs, e2, fun z => ?_, r3, r4.bad fun b z => .inl (hx b z)⟩
      obtain ⟨a', xs', w1, w2, w3, _⟩ := R.mt i ds' q1
      have e2 : σ[i]? = some (some (V.ref a)) := e2
      rw [w1] at e2; cases e2
      rcases h2 _ z with z | z
      · exact w2 z
      · rw [w3] at z; cases z
    · rw [q1] at e
      obtain ⟨a, xs, r1, r2, r3, r4⟩ := R.mt i ds e
      have nm : ¬ mutA (aenv as) (vs.map some) a := fun m => by
        obtain ⟨j, i', ds', e1, e2, e3, e4, _⟩ := mut_arg P hn m
        have : i = i' := R.inj i i' a (by rw [e]; exact fun z => nomatch z) (by rw [e3]; exact fun z => nomatch z) r1 e4
        subst this
        exact q2 j ds' e2 e1
      refine ⟨a, xs, r1, fun z => ?_, k.keep _ _ r3 (fun _ z => nomatch z) (fun z => absurd z nm), (r4.bad hb).kp k fun b z => .inr ((bm b).mpr (mm b z))⟩
      rcases h2 _ z with z | z
      · exact r2 z
      · rw [r3] at z; cases z
  · have up : ∀ {i : Nat}, mutOf (PArgs.back qs as' ρ)[i]? ≠ none → mutOf ρ[i]? ≠ none := fun {i} z => by
      rcases back_mut hn sh nd i with ⟨j, ds', es, _, _, _, q1, q2⟩ | ⟨q1, _⟩
      · rw [q1]; exact fun z => nomatch z
      · rw [q1] at z; exact z
    exact R.inj i j a (up e1) (up e2) e3 e4
  · rcases back_mut hn sh nd i with ⟨j, ds', es, _, _, _, q1, q2⟩ | ⟨q1, _⟩
    · rw [q2] at e
      rcases (putO_mut q1).2 _ e with ⟨d, z⟩ | ⟨d, z⟩ <;> cases z
    · rw [q1] at e
      obtain ⟨a, r1, r2⟩ := R.ro i ns e
      exact ⟨a, r1, r2.kp k⟩
  · rcases back_mut hn sh nd i with ⟨j, ds', es, _, _, _, q1, q2⟩ | ⟨q1, _⟩
    · rw [q2] at e
      rcases (putO_mut q1).2 _ e with ⟨d, z⟩ | ⟨d, z⟩ <;> cases z
    · rw [q1] at e
      obtain ⟨v, r1, r2⟩ := R.mks i e
      exact ⟨v, r1, hm _ _ _ _ _ r2 k⟩
theorem call_core {F : FV} {r : EV} {vf : V} {Φ : FV → List Arg → Res} {E : XK} (hm : MkOk mk) (R : Rel C mk Fb ρ σ H) (P : PRels C Fb ρ σ H Ad qs vs) (hA : Ad FF) (hd : ∀ a, FF a ≠ none → H a = none) (hF : CellH FF)
    (hv : RS C (bad Fb ρ σ) (addH H FF) vf (.fn F)) (hc : callP Φ F qs ρ = .ok r ρ') {Q : VK} (hQ : ∀ v H', Step C mk Fb ρ ρ' σ H H' → RV C mk Fb ρ ρ' σ H H' v r → Q v H') : spG C Φ F vf vs (addH H FF) (fun v H' => Q v (cutH H' fun a => FF a ≠ none)) E := by
  unfold callP at hc
  split at hc
  case isFalse => cases hc
  rename_i nd
  cases hn : PArgs.now ρ qs with
  | none => rw [hn] at hc; cases hc
  | some as =>
    rw [hn] at hc
    simp only at hc
    cases hp : Φ F as with
    | exc c x as' => rw [hp] at hc; cases hc
    | bad => rw [hp] at hc; cases hc
    | ok r0 as' =>
      rw [hp] at hc
      simp only [Out.ok.injEq] at hc
      obtain ⟨rfl, rfl⟩ := hc
      have bC := badC P hn
      refine ⟨FbC Fb ρ σ as vs, as, r0, as', call_rel R P hA hd hn nd, hv.bad fun a z => .inl ((bC a).mp z), hp, fun v H' A => ?_⟩
      have k0 : Kp (mutA (aenv as) (vs.map some)) H (addH H FF) := .to_add hd
      have k1 : Kp (mutA (aenv as) (vs.map some)) H H' := k0.trans A.kp fun a z => .inl z
      have at_ : CellAt H' fun a => FF a ≠ none := fun a z => by
        cases e : FF a with
        | none => exact absurd e z
        | some o =>
          obtain ⟨ob, rfl⟩ := hF a o e
          exact ⟨ob, A.kp.keep a _ (addH_in e) (fun _ z => nomatch z) fun _ _ z => nomatch z⟩
      have k : Kp (mutA (aenv as) (vs.map some)) H (cutH H' fun a => FF a ≠ none) := by
        refine ⟨fun a o h t m => ?_, fun a h => ?_⟩
        · rw [cutH_out fun z => by rw [hd a z] at h; cases h]
          exact k1.keep a o h t m
        · by_cases z : FF a ≠ none
          · exact hd a z
          · rw [cutH_out z] at h
            exact k1.none a h
      have mm : ∀ b, mutA (aenv as) (vs.map some) b → mutA ρ σ b := fun b m => by
        obtain ⟨j, i, ds, _, _, e1, e2, _⟩ := mut_arg P hn m
        exact ⟨i, ds, e1, e2⟩
      have mA : ∀ b, mutA (aenv as) (vs.map some) b → mutA (aenv as') (vs.map some) b := fun b ⟨j, ds, e1, e2⟩ => by
        rcases A.shape.get (aenv_mut e1) with ⟨_, es, _, q⟩ | ⟨n, _⟩
        · exact ⟨j, es, by rw [aenv_at q]; rfl, e2⟩
        · exact absurd rfl (n ds)
      have mA' : ∀ b, mutA (aenv as') (vs.map some) b → mutA (aenv as) (vs.map some) b := fun b ⟨j, ds, e1, e2⟩ => by
        obtain ⟨es, q⟩ := A.shape.getR (aenv_mut e1)
        exact ⟨j, es, by rw [aenv_at q]; rfl, e2⟩
      have b1 : ∀ b, bad Fb ρ σ b → bad (FbC Fb ρ σ as vs) (aenv as') (vs.map some) b := fun b z => ((bC b).mpr z).elim .inl fun m => .inr (mA b m)
      have b2 : ∀ b, bad (FbC Fb ρ σ as vs) (aenv as') (vs.map some) b → bad Fb ρ σ b := fun b z => (bC b).mp (z.elim .inl fun m => .inr (mA' b m))
      have bm := back_mutA (σ := σ) hn A.shape nd
      have b3 : ∀ b, bad Fb (PArgs.back qs as' ρ) σ b → bad (FbC Fb ρ σ as vs) (aenv as') (vs.map some) b := fun b z => b1 b (z.elim .inl fun m => .inr ((bm b).mp m))
      have tabs := TabsN.cut at_ A.rel.tabs
      have rel : Rel C mk Fb (PArgs.back qs as' ρ) σ (cutH H' fun a => FF a ≠ none) := by
        refine after_rel hm R P hn nd A.shape k (fun _ z => z) (fun _ z => .inl z) (fun b z q => R.fb b z (k.none b q)) (fun j ds e => ?_) tabs b1
        obtain ⟨a, xs, r1, _, r3, r4⟩ := A.rel.mt j ds (by rw [aenv_at e]; rfl)
        exact ⟨a, xs, map_some_get r1, cutH_keep at_ r3 (fun _ z => nomatch z), r4.cut at_⟩
      refine hQ v _ ⟨rel, k.mono mm, fun a z => (bm a).mp z, fun i ds e => by
        rcases back_mut hn A.shape nd i with ⟨j, ds', es, _, _, _, _, h2⟩ | ⟨h1, _⟩
        · rw [e] at h2; exact ⟨es, h2⟩
        · exact ⟨ds, by rw [h1]; exact e⟩⟩ ?_
      have val := A.val
      cases r0 with
      | dat d => exact (RD.cut at_ val).bad fun b z => .inl (b3 b z)
      | fresh ds =>
        obtain ⟨a, xs, rfl, v1, v2, v3, v4, v5⟩ := val
        have hH : H a = none := (addH_none v1).2
        refine ⟨a, xs, rfl, .inl hH, fun z => v2 (b3 a z), cutH_keep at_ v3 (fun _ z => nomatch z), (v4.cut at_).bad fun b z => .inl (z.elim (fun q => .inl (b3 b q)) .inr), ?_⟩
        refine after_rel (Fx := fun b => FbC Fb ρ σ as vs b ∨ b = a) hm R P hn nd A.shape k (fun _ z => .inl z) (fun b z => z.elim .inl fun e => .inr (by rw [e]; exact hH)) (fun b z q => ?_) (fun j ds e => ?_) tabs fun b z => ?_
        · rcases z with z | z
          · exact R.fb b z (k.none b q)
          · subst z
            rw [cutH_keep at_ v3 (fun _ z => nomatch z)] at q
            cases q
        · obtain ⟨a', xs', r1, _, r3, r4⟩ := v5.mt j ds (by rw [aenv_at e]; rfl)
          exact ⟨a', xs', map_some_get r1, cutH_keep at_ r3 (fun _ z => nomatch z), r4.cut at_⟩
        · rcases z with (z | z) | z
          · exact (b1 b (.inl z)).elim (fun q => .inl (.inl q)) .inr
          · exact .inl (.inr z)
          · exact (b1 b (.inr z)).elim (fun q => .inl (.inl q)) .inr
end
end Ev
set_option Elab.async false
set_option linter.all false
set_option maxRecDepth 100000
set_option maxHeartbeats 1000000
namespace Ev
open PySem PySem.Spec PyProof.Rows L2
def Ad0 : L2.St → Hp → Prop := fun _ FF => FF = fun _ => none
/-- the frame's own cells, held -/
def AdL (X : Cx) : L2.St → Hp → Prop := fun σ FF => CellH FF ∧ (∀ a, FF a ≠ none → clA X.env.cells a) ∧ ∀ x c, X.env.cells.lookup x = some c → (X.env.scope.names.lookup x = some .cell ∨ X.env.scope.names.lookup x = some .free) → ∀ (i : Nat) (v : V), X.N[i]? = some x → σ[i]? = some (some v) → IsCellO FF c v
def tP (C : Cn) (mk : Mkd) (Ad : L2.St → Hp → Prop) (ρ : Env) (p : PArg) (ρ' : Env) : TE := fun σ H Q => ∃ Fb, Rel C mk Fb ρ σ H ∧ ∀ v H', Step C mk Fb ρ ρ' σ H H' → PRel C Fb ρ' σ H' (Ad σ) p v → Q v H'
def tAr (C : Cn) (mk : Mkd) (Ad : L2.St → Hp → Prop) (ρ : Env) (ps : List PArg) (ρ' : Env) : TA := fun σ H Q => ∃ Fb, Rel C mk Fb ρ σ H ∧ ∀ vs H', Step C mk Fb ρ ρ' σ H H' → PRels C Fb ρ' σ H' (Ad σ) ps vs → Q vs H'
theorem pkImp {X : Cx} {e : List Keyword} {t t' : TA} (h : PK X e t) (i : ∀ σ H Q, t' σ H Q → t σ H Q) : PK X e t' := ⟨fun pos pins s σ H Q I q => h.run pos pins s σ H Q I (i _ _ _ q)⟩
section
variable {X : Cx} {S : Sx} {mk : Mkd} {Ad : L2.St → Hp → Prop} {ρ ρ1 ρ2 ρ3 : Env} {e : Expr} {es : List Expr} {kws : List Keyword} {r : EV} {p : PArg} {ps qs : List PArg} {pos kpos : Pos}
theorem ar_nil : PA X [] (tAr (cn X S) mk Ad ρ [] ρ) := paImp pa_nil fun σ H Q ⟨Fb, R, q⟩ => q _ _ (.refl R) .nil
theorem ar_cons (hs : isStar e = false) (ha : PE X e (tP (cn X S) mk Ad ρ p ρ1)) (hr : PA X es (tAr (cn X S) mk Ad ρ1 ps ρ2)) : PA X (e :: es) (tAr (cn X S) mk Ad ρ (p :: ps) ρ2) :=
  paImp (pa_cons ha hr (star_cons hs)) fun σ H Q ⟨Fb, R, q⟩ => ⟨Fb, R, fun v H1 s1 v1 => ⟨Fb, s1.rel, fun vs H2 s2 v2 => q _ _ (s1.trans s2) (.cons (v1.step s2) v2)⟩⟩
theorem ak_nil : PK X [] (tAr (cn X S) mk Ad ρ [] ρ) := pkImp pk_nil fun σ H Q ⟨Fb, R, q⟩ => q _ _ (.refl R) .nil
theorem ak_cons {nm : Option Str} (ha : PE X e (tP (cn X S) mk Ad ρ p ρ1)) (hr : PK X kws (tAr (cn X S) mk Ad ρ1 ps ρ2)) : PK X (⟨nm, e, kpos⟩ :: kws) (tAr (cn X S) mk Ad ρ (p :: ps) ρ2) :=
  pkImp (pk_cons ha hr) fun σ H Q ⟨Fb, R, q⟩ => ⟨Fb, R, fun v H1 s1 v1 => ⟨Fb, s1.rel, fun vs H2 s2 v2 => q _ _ (s1.trans s2) (.cons (v1.step s2) v2)⟩⟩
theorem p_d (h : PE X e (tE (cn X S) mk ρ r ρ1)) : PE X e (tP (cn X S) mk Ad ρ (.dat r.frz) ρ1) := peImp h fun σ H Q ⟨Fb, R, q⟩ => ⟨Fb, R, fun v H' s h => q v H' s h.frz⟩
theorem p_mv {i : Nat} {x : Str} (hN : X.N[i]? = some x) (hv : Vis X.env.scope x) (hd : (x == ("__debug__" : Str)) = false) (hcd : (x == ("__classdict__" : Str)) = false) (h : (mutOf ρ[i]?).isSome = true ∨ ∃ ns, ρ[i]? = some (some (.ro ns))) :
    PE X (.Name x pos) (tP (cn X S) mk Ad ρ (.slot i) ρ) := by
  refine peImp (pe_var hN hv hd hcd) fun σ H Q ⟨Fb, R, q⟩ => ?_
  have : ∃ v, σ[i]? = some (some v) := by
    rcases h with h | ⟨ns, h⟩
    · obtain ⟨ds, e⟩ := Option.isSome_iff_exists.mp h
      obtain ⟨a, _, e1, _⟩ := R.mt i ds e
      exact ⟨_, e1⟩
    · obtain ⟨a, e1, _⟩ := R.ro i ns h
      exact ⟨_, e1⟩
  obtain ⟨v, e⟩ := this
  exact ⟨v, e, q _ _ (.refl R) e⟩
theorem fn_prel {Fb : Addr → Prop} {σ : L2.St} {H : Hp} {A : Hp → Prop} {v : V} {F : FV} (h : RS (cn X S) (bad Fb ρ σ) H v (.fn F)) : PRel (cn X S) Fb ρ σ H A (.fn F) v := fun FF _ hd => h.kp (Kp.to_add hd (M := fun _ => False)) fun _ z => z.elim
theorem p_fv {i : Nat} {x : Str} {F : FV} (hN : X.N[i]? = some x) (hv : Vis X.env.scope x) (hd : (x == ("__debug__" : Str)) = false) (hcd : (x == ("__classdict__" : Str)) = false) (h : ρ[i]? = some (some (.fn F))) :
    PE X (.Name x pos) (tP (cn X S) mk Ad ρ (.fn F) ρ) := by
  refine peImp (pe_var hN hv hd hcd) fun σ H Q ⟨Fb, R, q⟩ => ?_
  obtain ⟨v, e, r⟩ := R.val i _ h (.inr ⟨F, rfl⟩)
  exact ⟨v, e, q _ _ (.refl R) (fn_prel r)⟩
theorem p_fg {f : Str} {fa : Addr} (hg : Gl X f) (hm : X.mg f = some (.ref fa)) (hk : PySem.W.keepIn X.K (.ref fa) = true) (hd : (f == ("__debug__" : Str)) = false) :
    PE X (.Name f pos) (tP (cn X S) mk Ad ρ (.fn (.glob f)) ρ) :=
  peImp (pe_glob (v := .ref fa) hg hm rfl hd) fun σ H Q ⟨Fb, R, q⟩ => q _ _ (.refl R) (fn_prel (.glob hm hk))
end
/-! ### running -/
/-- a body may call -/
structure CallX (X : Cx) (S : Sx) (Φ : FV → List Arg → Res) (k : Nat) (sig : Str → Option (List Str)) : Prop where
  runs : Runs X.prog X.w X.base (cn X S) Φ k sig
  room : Room k X.A
  gd : X.A.guards = some []
section
variable {X : Cx} {S : Sx} {Φ : FV → List Arg → Res} {k : Nat} {sig : Str → Option (List Str)} {pins : List (Addr × Obj)} {σ : L2.St} {H : Hp} {s : Shared} {Q : VK}
theorem cr_end {E : XK} {Q' : VK} {H' : Hp} (I : Inv X pins σ H s) {r : Result} {s' : Shared} (hc : ∀ u, CE X.stack X.prog X.w H' s Q' u s' → CE X.stack X.prog X.w H s Q u s') : CR CXe X.stack X.prog X.w H' s Q' E r s' →
    (match r with | .ok (.ret v) => EP X pins σ Q v s' | .ok _ => False | .error e => X.xe e s') := by
  intro hq
  cases r with
  | error e => exact False.elim (show False from hq)
  | ok fl =>
    cases fl with
    | ret u => exact I.after (hc u hq)
    | next => exact False.elim hq
    | brk => exact False.elim hq
    | cont => exact False.elim hq
theorem addH_nil {H : Hp} : addH H (fun _ => none) = H := rfl
theorem cutH_nil {H : Hp} : (cutH H fun a => (fun _ => none : Hp) a ≠ none) = H := by
  funext a
  exact cutH_out fun z => z rfl
theorem frz_ad (I : Inv X pins σ H s) : AdL X σ (frzF X s) := by
  refine ⟨fun a o e => ?_, fun a e => ?_, fun x c e kd i v e1 e2 => ?_⟩
  · obtain ⟨_, ob, _, r⟩ := frzF_some e
    exact ⟨ob, r⟩
  · cases z : frzF X s a with
    | none => exact absurd z e
    | some o => exact (frzF_some z).1
  · obtain ⟨m, hn, hl⟩ := I.loc
    obtain ⟨u, r, l⟩ := hl i x v e1 e2 (kd.elim (fun z => .inr (.inl z)) fun z => .inr (.inr z))
    rcases l with ⟨z, _⟩ | ⟨_, c', e', hcell⟩
    · have z' : X.env.scope.names.lookup x = some .local := z
      rcases kd with k | k <;> rw [k] at z' <;> cases z'
    · rw [e] at e'
      cases e'
      obtain ⟨ob, w', g1, g2, g3, _⟩ := frzF_in I ⟨x, e⟩
      obtain ⟨ob', g4, g5⟩ := hcell
      rw [g1] at g4; cases g4
      exact ⟨ob, u, g3, g5, r⟩
theorem frz_dis (I : Inv X pins σ H s) : ∀ a, frzF X s a ≠ none → H a = none := fun a e => by
  cases z : frzF X s a with
  | none => exact absurd z e
  | some o =>
    obtain ⟨_, _, _, _, _, n⟩ := frzF_in I (frzF_some z).1
    exact n
theorem frz_S (I : Inv X pins σ H s) : (fun a => frzF X s a ≠ none) = clA X.env.cells := by
  funext a
  refine propext ⟨fun e => ?_, fun e => ?_⟩
  · cases z : frzF X s a with
    | none => exact absurd z e
    | some o => exact (frzF_some z).1
  · obtain ⟨_, _, _, _, z, _⟩ := frzF_in I e
    rw [z]; exact fun q => nomatch q
/-- how a call is made ready: nothing more is held, or the frame's own cells -/
def AdOk (X : Cx) (Ad : L2.St → Hp → Prop) : Prop := Ad = Ad0 ∨ (Ad = AdL X ∧ ∀ x, X.fn x = true)
/-- the core of all calls: what is held (FF), the callee's world and the way back -/
theorem ready {Ad : L2.St → Hp → Prop} (hA : AdOk X Ad) (I : Inv X pins σ H s) : ∃ FF, Ad σ FF ∧ CellH FF ∧ (∀ a, FF a ≠ none → H a = none) ∧ Env0 X.prog X.w X.K X.mg X.base X.A X.stack s (addH H FF) ∧
    ∀ (Q : VK) (u : Value) (s' : Shared), CE X.stack X.prog X.w (addH H FF) s (fun v H' => Q v (cutH H' fun a => FF a ≠ none)) u s' → CE X.stack X.prog X.w H s Q u s' := by
  rcases hA with rfl | ⟨rfl, hfn⟩
  · refine ⟨fun _ => none, rfl, fun _ _ z => (nomatch z), fun a z => absurd rfl z, by rw [addH_nil]; exact I.env0, fun Q u s' c => ?_⟩
    rw [addH_nil] at c
    have e : (fun v H' => Q v (cutH H' fun a => (fun _ => none : Hp) a ≠ none)) = Q := by
      funext v H'
      rw [cutH_nil]
    rw [e] at c
    exact c
  · refine ⟨frzF X s, frz_ad I, (frz_ad I).1, frz_dis I, frz_env0 hfn I, fun Q u s' c => ?_⟩
    rw [frz_S I] at c
    exact frz_after hfn I c
end
section
variable {X : Cx} {S : Sx} {Φ : FV → List Arg → Res} {k : Nat} {sig : Str → Option (List Str)} {mk : Mkd} {Ad : L2.St → Hp → Prop} {ρ ρ1 ρ2 ρ3 : Env} {e : Expr} {es : List Expr} {kws : List Keyword} {r : EV} {ps qs zs : List PArg} {pos p : Pos} {f : Str} {pn ks : List Str} {perm : List Nat}
theorem PRels.app {C : Cn} {Fb : Addr → Prop} {ρ : Env} {σ : L2.St} {H : Hp} {A : Hp → Prop} : ∀ {ps qs : List PArg} {vs ws : List V}, PRels C Fb ρ σ H A ps vs → PRels C Fb ρ σ H A qs ws → PRels C Fb ρ σ H A (ps ++ qs) (vs ++ ws)
  | _, _, _, _, .nil, s => s
  | _, _, _, _, .cons r t, s => .cons r (PRels.app t s)
theorem permute_vals {vs : List V} {us : List Value} (r : Vals vs us) : ∀ {perm : List Nat} {zs : List V}, permute vs perm = some zs → ∃ ws, permute us perm = some ws ∧ Vals zs ws
  | [], zs, h => by cases h; exact ⟨[], rfl, .nil⟩
  | j :: perm, zs, h => by
    obtain ⟨y, t, rfl, h1, h2⟩ := permute_cons h
    obtain ⟨u, e1, e2⟩ := r.get h1
    obtain ⟨ws, e3, e4⟩ := permute_vals r h2
    refine ⟨u :: ws, ?_, .cons e2 e4⟩
    unfold Ev.permute at e3 ⊢
    rw [List.mapM_cons, e1, e3]
    rfl
/-- a call of a def, its arguments there -/
theorem glob_run {fa : Addr} {fd : FuncData} {pins : List (Addr × Obj)} {σ : L2.St} {H : Hp} {s : Shared} {Q : VK} {Fb : Addr → Prop} {us ws : List Value} {vs xs : List V} (cx : CallX X S Φ k sig) (hm : MkOk mk) (hA : AdOk X Ad) (hmg : X.mg f = some (.ref fa)) (hk : PySem.W.keepIn X.K (.ref fa) = true) (hp : PlainP fd.params pn) (hdf : fd.defaults = .none)
    (run : ∀ (A : Around) (outer : List PySem.Env) (s : Shared) (H : Hp) (args : Args) (us : List Value) (vs : List V) (Q : VK) (E : XK), Room k A → A.guards = some [] → Env0 X.prog X.w X.K X.mg X.base A outer s H → BindsTo s fd args (pn.zip us) → Vals vs us → vs.length = pn.length →
      spG (cn X S) Φ (.glob f) (.ref fa) vs H Q E → codeAny (model X.prog X.w) A (.call (.ref fa) args) (CR CXe outer X.prog X.w H s Q E) s)
    (I : Inv X pins σ H s) (r1 : Vals vs us) (r2 : Vals xs ws) (R : Rel (cn X S) mk Fb ρ σ H) (P1 : PRels (cn X S) Fb ρ σ H (Ad σ) ps vs) (P2 : PRels (cn X S) Fb ρ σ H (Ad σ) qs xs) (hb : kwB pn ks us.length perm = true) (hks : ks.length = qs.length) (hz : permute (ps ++ qs) perm = some zs)
    (hc : callP Φ (.glob f) zs ρ = .ok r ρ1) (hQ : ∀ v H', Step (cn X S) mk Fb ρ ρ1 σ H H' → RV (cn X S) mk Fb ρ ρ1 σ H H' v r → Q v H') : wpAny (model X.prog X.w) X.A (call (.ref fa) us (ks.zip ws)) (EP X pins σ Q) X.xe s := by
  obtain ⟨ys, e1, e2⟩ := (P1.app P2).permute hz
  obtain ⟨cs, e3, e4⟩ := permute_vals (r1.append r2) e1
  obtain ⟨FF, h1, h2, h3, h4, h5⟩ := ready hA I
  have hq := call_core (vf := .ref fa) (E := fun _ _ _ => False) hm R e2 h1 h3 h2 (.glob hmg hk) hc hQ
  have hw : ks.length = ws.length := by rw [hks, P2.len, r2.length]
  have hb2 := bind_all (fd := fd) hp hdf hb hw e3
  have hlen : ys.length = pn.length := by
    have := permute_len e1
    unfold kwB at hb
    simp only [Bool.and_eq_true, decide_eq_true_eq] at hb
    rw [this, ← permute_len hb.1.2]
  refine wpAny_call (codeAny_mono (run X.A X.stack s (addH H FF) ⟨us, ks.zip ws⟩ cs ys _ (fun _ _ _ => False) cx.room cx.gd h4 (.of_eq hb2) e4 hlen hq) fun r s' hq' => ?_)
  exact cr_end I (fun u c => h5 Q u s' c) hq'
def namesOf : List Keyword → Option (List Str)
  | [] => some []
  | ⟨some x, _, _⟩ :: r => (namesOf r).map (x :: ·)
  | _ => none
theorem names_ok : ∀ {kws : List Keyword} {ks : List Str} {env : PySem.Env} {pos : Pos}, namesOf kws = some ks → (backToKw pos (keywordEach kws env)).all (·.1.isSome) = true ∧ (backToKw pos (keywordEach kws env)).filterMap (·.1) = ks ∧ (backToKw pos (keywordEach kws env)).any (·.1.isNone) = false
  | [], ks, env, pos, h => by cases h; exact ⟨rfl, rfl, rfl⟩
  | ⟨none, _, _⟩ :: r, ks, env, pos, h => by cases h
  | ⟨some x, v, q⟩ :: r, ks, env, pos, h => by
    unfold namesOf at h
    cases e : namesOf r with
    | none => rw [e] at h; cases h
    | some t =>
      rw [e] at h; cases h
      obtain ⟨h1, h2, h3⟩ := names_ok (env := env) (pos := pos) e
      unfold backToKw at h1 h2 h3 ⊢
      simp only [keywordEach, List.map_cons, List.all_cons, List.filterMap_cons, List.any_cons]
      exact ⟨by rw [h1]; rfl, by rw [h2], by rw [h3]; rfl⟩
theorem rv_step {Fb : Addr → Prop} {σ : L2.St} {H H1 H2 : Hp} {v : V} (s : Step (cn X S) mk Fb ρ ρ1 σ H H1) : RV (cn X S) mk Fb ρ1 ρ2 σ H1 H2 v r → RV (cn X S) mk Fb ρ ρ2 σ H H2 v r := fun rv => by
  cases r with
  | dat d => exact rv
  | fresh ds =>
    obtain ⟨a, zs, e1, e2, e3⟩ := rv
    exact ⟨a, zs, e1, e2.elim (fun z => .inl (s.kp.none a z)) fun z => .inr (s.sub a z), e3⟩
/-- f(e, .., k = v, ..) -/
theorem e_call (cx : CallX X S Φ k sig) (hm : MkOk mk) (hA : AdOk X Ad) (hg : Gl X f) (hd : (f == ("__debug__" : Str)) = false) (hs : sig f = some pn) (hst : noStar (e :: es) = true) (hks : namesOf kws = some ks) (ha : PA X (e :: es) (tAr (cn X S) mk Ad ρ ps ρ1)) (hkw : PK X kws (tAr (cn X S) mk Ad ρ1 qs ρ2))
    (hb : kwB pn ks ps.length perm = true) (hl : ks.length = qs.length) (hz : permute (ps ++ qs) perm = some zs) (hc : callP Φ (.glob f) zs ρ2 = .ok r ρ3) : PE X (.Call (.Name f p) (e :: es) kws pos) (tE (cn X S) mk ρ r ρ3) := by
  obtain ⟨fa, fd, hmg, hk, hp, hdf, _, run⟩ := cx.runs.glob f pn hs
  refine ⟨fun pins s σ H Q I ⟨Fb, R, q⟩ => ?_⟩
  obtain ⟨n1, n2, n3⟩ := names_ok (env := X.env) (pos := pos) hks
  refine wpAny_Call_Name_kw (ld_glob I hg hmg ?_ hd)
  have hst' : (!isStar e) = true ∧ noStar es = true := by simpa [noStar] using hst
  refine PySem.W.callWith_KW (h₀ := X.base) I.ok.mod.kin hk n1 (thn (ha.run pos pins s σ H (fun vs H1 => Step (cn X S) mk Fb ρ ρ1 σ H H1 ∧ PRels (cn X S) Fb ρ1 σ H1 (Ad σ) ps vs) I ⟨Fb, R, fun vs H1 s1 P1 => ⟨s1, P1⟩⟩) fun us s1 ⟨vs, H1, I1, r1, st1, P1⟩ => ?_)
    (by rw [star_any hst, n3]; rfl) (star_cons (by simpa using hst'.1))
  refine thn (hkw.run pos pins s1 σ H1 (fun xs H2 => Step (cn X S) mk Fb ρ1 ρ2 σ H1 H2 ∧ PRels (cn X S) Fb ρ2 σ H2 (Ad σ) qs xs) I1 ⟨Fb, st1.rel, fun xs H2 s2 P2 => ⟨s2, P2⟩⟩) fun ws s2 ⟨xs, H2, I2, r2, st2, P2⟩ => ⟨I2.kIn, ?_⟩
  rw [n2]
  exact glob_run (us := us) cx hm hA hmg hk hp hdf run I2 r1 r2 st2.rel (P1.step st2) P2 (by rw [← r1.length, ← P1.len]; exact hb) hl hz hc fun v H3 s4 rv => q v H3 ((st1.trans st2).trans s4) (rv_step (st1.trans st2) rv)
/-- f(), f(k = v, ..) -/
theorem e_call0 (cx : CallX X S Φ k sig) (hm : MkOk mk) (hA : AdOk X Ad) (hg : Gl X f) (hd : (f == ("__debug__" : Str)) = false) (hs : sig f = some pn) (hks : namesOf kws = some ks) (hkw : PK X kws (tAr (cn X S) mk Ad ρ qs ρ2))
    (hb : kwB pn ks 0 perm = true) (hl : ks.length = qs.length) (hz : permute qs perm = some zs) (hc : callP Φ (.glob f) zs ρ2 = .ok r ρ3) : PE X (.Call (.Name f p) [] kws pos) (tE (cn X S) mk ρ r ρ3) := by
  obtain ⟨fa, fd, hmg, hk, hp, hdf, _, run⟩ := cx.runs.glob f pn hs
  refine ⟨fun pins s σ H Q I ⟨Fb, R, q⟩ => ?_⟩
  obtain ⟨n1, n2, n3⟩ := names_ok (env := X.env) (pos := pos) hks
  refine wpAny_Call_Name_kw (ld_glob I hg hmg ?_ hd)
  refine PySem.W.callWith_KW0 (h₀ := X.base) I.ok.mod.kin hk n1 ?_ (by rw [n3]; rfl)
  refine thn (hkw.run pos pins s σ H (fun xs H2 => Step (cn X S) mk Fb ρ ρ2 σ H H2 ∧ PRels (cn X S) Fb ρ2 σ H2 (Ad σ) qs xs) I ⟨Fb, R, fun xs H2 s2 P2 => ⟨s2, P2⟩⟩) fun ws s2 ⟨xs, H2, I2, r2, st2, P2⟩ => ⟨I2.kIn, ?_⟩
  rw [n2]
  exact glob_run (ps := []) (us := []) cx hm hA hmg hk hp hdf run I2 .nil r2 st2.rel .nil P2 hb hl hz hc fun v H3 s4 rv => q v H3 (st2.trans s4) (rv_step st2 rv)
/-- x(e, ..), x a name that holds a function -/
theorem e_callv {i : Nat} {x : Str} {F : FV} (cx : CallX X S Φ k sig) (hm : MkOk mk) (hA : AdOk X Ad) (hN : X.N[i]? = some x) (hv : Vis X.env.scope x) (hd : (x == ("__debug__" : Str)) = false) (hcd : (x == ("__classdict__" : Str)) = false) (hF : ρ[i]? = some (some (.fn F))) (hst : noStar (e :: es) = true)
    (ha : PA X (e :: es) (tAr (cn X S) mk Ad ρ ps ρ1)) (hc : callP Φ F ps ρ1 = .ok r ρ2) : PE X (.Call (.Name x p) (e :: es) [] pos) (tE (cn X S) mk ρ r ρ2) := by
  refine ⟨fun pins s σ H Q I ⟨Fb, R, q⟩ => ?_⟩
  obtain ⟨fv, e1, rF⟩ := R.val i _ hF (.inr ⟨F, rfl⟩)
  refine wpAny_Call_Name_kw (thn ((pe_var (pos := p) hN hv hd hcd).run pins s σ H (fun v H1 => v = fv ∧ H1 = H) I ⟨fv, e1, rfl, rfl⟩) fun u s0 ⟨v, H0, I0, r0, ev, eH⟩ => ?_)
  subst ev
  rw [eH] at I0
  have hst' : (!isStar e) = true ∧ noStar es = true := by simpa [noStar] using hst
  have args := ha.run pos pins s0 σ H (fun vs H1 => Step (cn X S) mk Fb ρ ρ1 σ H H1 ∧ PRels (cn X S) Fb ρ1 σ H1 (Ad σ) ps vs) I0 ⟨Fb, R, fun vs H1 s1 P1 => ⟨s1, P1⟩⟩
  have prep : ∀ {us : List Value} {vs : List V} {H1 : Hp} {s1 : Shared} (I1 : Inv X pins σ H1 s1) (r1 : Vals vs us) (st : Step (cn X S) mk Fb ρ ρ1 σ H H1) (P1 : PRels (cn X S) Fb ρ1 σ H1 (Ad σ) ps vs), ∃ FF, Env0 X.prog X.w X.K X.mg X.base X.A X.stack s1 (addH H1 FF) ∧
      (∀ (Q : VK) (u : Value) (s' : Shared), CE X.stack X.prog X.w (addH H1 FF) s1 (fun v H' => Q v (cutH H' fun a => FF a ≠ none)) u s' → CE X.stack X.prog X.w H1 s1 Q u s') ∧ spG (cn X S) Φ F v vs (addH H1 FF) (fun v H' => Q v (cutH H' fun a => FF a ≠ none)) (fun _ _ _ => False) := fun {us vs H1 s1} I1 r1 st P1 => by
    obtain ⟨FF, h1, h2, h3, h4, h5⟩ := ready hA I1
    exact ⟨FF, h4, h5, call_core hm st.rel P1 h1 h3 h2 (((st.rs rF).kp (Kp.to_add h3 (M := fun _ => False))) fun _ z => z.elim) hc fun v H3 s4 rv => q v H3 (st.trans s4) (rv_step st rv)⟩
  cases rF with
  | @glob _ f fa hmg hk =>
    have e2 : u = Value.ref fa := r0
    subst e2
    refine PySem.W.callWith_K (h₀ := X.base) I.ok.mod.kin hk (thn args fun us s1 ⟨vs, H1, I1, r1, st, P1⟩ => ⟨I1.kIn, ?_⟩) (star_cons (by simpa using hst'.1)) (star_any hst'.2)
    obtain ⟨FF, h4, h5, hq⟩ := prep I1 r1 st P1
    have hdom : ∃ pn, sig f = some pn ∧ vs.length = pn.length := by
      unfold callP at hc
      split at hc
      · cases hn : PArgs.now ρ1 ps with
        | none => rw [hn] at hc; cases hc
        | some as =>
          rw [hn] at hc
          simp only at hc
          cases hp : Φ (.glob f) as with
          | exc c x as' => rw [hp] at hc; cases hc
          | bad => rw [hp] at hc; cases hc
          | ok r0 as' =>
            obtain ⟨pn, g1, g2⟩ := cx.runs.dom f as r0 as' hp
            exact ⟨pn, g1, by rw [← g2, ← now_len hn, P1.len]⟩
      · cases hc
    obtain ⟨pn, g1, g2⟩ := hdom
    obtain ⟨fa', fd, hmg', hk', hp, hdf, nd, run⟩ := cx.runs.glob f pn g1
    have : fa' = fa := by
      have h := hmg'.symm.trans hmg
      cases h
      rfl
    subst this
    have hb2 := bind_pos (fd := fd) hp hdf nd (us := us) (by rw [← r1.length]; exact g2)
    refine wpAny_call (codeAny_mono (run X.A X.stack s1 (addH H1 FF) ⟨us, []⟩ us vs _ (fun _ _ _ => False) cx.room cx.gd h4 (.of_eq hb2) r1 g2 hq) fun r s' hq' => ?_)
    exact cr_end I1 (fun u c => h5 Q u s' c) hq'
  | @clo _ id L f c' cl ws caps hl hf hco h4' h5' h6' h7' h8' =>
    have e2 : u = Value.ref f := r0
    subst e2
    have fnat : ∀ {H1 : Hp} {s1 : Shared}, Inv X pins σ H1 s1 → H1 f = some (FnU f L cl c') → PySem.W.FnAt f s1.heap := fun {H1 s1} I1 h => by
      obtain ⟨⟨od, sl, doc, pm, ctv, ho⟩, _, _⟩ := I1.hok f _ h
      exact ⟨_, od, _, sl, ho⟩
    refine PySem.W.callWith_F (first := []) (fnat I0 hf) (thn args fun us s1 ⟨vs, H1, I1, r1, st, P1⟩ => ⟨fnat I1 (st.kp.keep _ _ hf (fun ps => fnU_ne ps) fun _ xs z => fnU_ne2 xs z), ?_⟩) (star_cons (by simpa using hst'.1)) (star_any hst'.2)
    obtain ⟨FF, h4, h5, hq⟩ := prep I1 r1 st P1
    refine wpAny_call (codeAny_mono (cx.runs.clo id caps f X.A X.stack s1 (addH H1 FF) us vs _ (fun _ _ _ => False) cx.room cx.gd h4 r1 hq) fun r s' hq' => ?_)
    exact cr_end I1 (fun u c => h5 Q u s' c) hq'
end
end Ev
set_option Elab.async false
set_option linter.all false
set_option maxRecDepth 100000
set_option maxHeartbeats 1000000
namespace Ev
open PySem PySem.Spec PyProof.Rows L2
/-! ### steps of statements -/
structure StepS (C : Cn) (mk : Mkd) (Fb : Addr → Prop) (ρ ρ' : Env) (σ σ' : L2.St) (H H' : Hp) : Prop where
  rel : Rel C mk Fb ρ' σ' H'
  kp : Kp (mutA ρ σ) H H'
  sub : ∀ a, mutA ρ' σ' a → mutA ρ σ a ∨ H a = none
  par : ∀ (i : Nat) (ds : List D), ρ[i]? = some (some (.par ds)) → (∃ ds', ρ'[i]? = some (some (.par ds'))) ∧ σ'[i]? = σ[i]?
section
variable {C : Cn} {mk : Mkd} {Fb : Addr → Prop} {ρ ρ' ρ1 ρ2 : Env} {σ σ' σ1 σ2 : L2.St} {H H' H1 H2 : Hp}
theorem StepS.refl (R : Rel C mk Fb ρ σ H) : StepS C mk Fb ρ ρ σ σ H H := ⟨R, .refl, fun _ h => .inl h, fun i ds e => ⟨⟨ds, e⟩, rfl⟩⟩
theorem Step.toS (s : Step C mk Fb ρ ρ' σ H H') : StepS C mk Fb ρ ρ' σ σ H H' := ⟨s.rel, s.kp, fun a m => .inl (s.sub a m), fun i ds e => ⟨s.par i ds e, rfl⟩⟩
theorem StepS.trans (a : StepS C mk Fb ρ ρ1 σ σ1 H H1) (b : StepS C mk Fb ρ1 ρ2 σ1 σ2 H1 H2) : StepS C mk Fb ρ ρ2 σ σ2 H H2 := by
  refine ⟨b.rel, a.kp.trans b.kp a.sub, fun x m => ?_, fun i ds e => ?_⟩
  · rcases b.sub x m with z | z
    · exact a.sub x z
    · exact .inr (a.kp.none x z)
  · obtain ⟨⟨ds1, e1⟩, s1⟩ := a.par i ds e
    obtain ⟨e2, s2⟩ := b.par i ds1 e1
    exact ⟨e2, s2.trans s1⟩
theorem StepS.bad (s : StepS C mk Fb ρ ρ' σ σ' H H') : ∀ x, Ev.bad Fb ρ' σ' x → Ev.bad Fb ρ σ x ∨ H x = none := fun x z => z.elim (fun q => .inl (.inl q)) fun m => (s.sub x m).elim (fun q => .inl (.inr q)) .inr
theorem StepS.rd {K : PySem.W.Frag} (s : StepS C mk Fb ρ ρ' σ σ' H H') {v : V} {d : D} (r : RD K H (Ev.bad Fb ρ σ) v d) : RD K H' (Ev.bad Fb ρ' σ') v d := by
  have r1 : RD K H (fun b => Ev.bad Fb ρ σ b ∨ Ev.bad Fb ρ' σ' b) v d := r.bad fun a z => z.elim .inl fun q => s.bad a q
  exact (r1.kp s.kp fun a m => .inl (.inr m)).bad fun a z => .inl (.inr z)
theorem StepS.rds {K : PySem.W.Frag} (s : StepS C mk Fb ρ ρ' σ σ' H H') {v : List V} {d : List D} (r : RDs K H (Ev.bad Fb ρ σ) v d) : RDs K H' (Ev.bad Fb ρ' σ') v d := by
  have r1 : RDs K H (fun b => Ev.bad Fb ρ σ b ∨ Ev.bad Fb ρ' σ' b) v d := r.bad fun a z => z.elim .inl fun q => s.bad a q
  exact (r1.kp s.kp fun a m => .inl (.inr m)).bad fun a z => .inl (.inr z)
end
/-- a value that a statement ends with; A: where it may stand -/
def RVS (C : Cn) (mk : Mkd) (Fb A : Addr → Prop) (ρ' : Env) (σ' : L2.St) (H' : Hp) (v : V) : EV → Prop
  | .dat d => RD C.K H' (bad Fb ρ' σ') v d
  | .fresh ds => ∃ a xs, v = .ref a ∧ A a ∧ ¬ bad Fb ρ' σ' a ∧ H' a = some (.lst xs) ∧ RDs C.K H' (fun b => bad Fb ρ' σ' b ∨ b = a) xs ds ∧ Rel C mk (fun b => Fb b ∨ b = a) ρ' σ' H'
def newA (ρ : Env) (σ : L2.St) (H : Hp) (a : Addr) : Prop := H a = none ∨ mutA ρ σ a
def EndsOk (C : Cn) (mk : Mkd) (Fb : Addr → Prop) (D : Ends) (ρ : Env) (σ : L2.St) (H : Hp) : Fl → Prop
  | .nx ρ' => ∀ σ' H', StepS C mk Fb ρ ρ' σ σ' H H' → D.nx σ' H'
  | .bk ρ' => ∀ σ' H', StepS C mk Fb ρ ρ' σ σ' H H' → D.bk σ' H'
  | .ct ρ' => ∀ σ' H', StepS C mk Fb ρ ρ' σ σ' H H' → D.ct σ' H'
  | .rt r ρ' => ∀ v σ' H', StepS C mk Fb ρ ρ' σ σ' H H' → RVS C mk Fb (newA ρ σ H) ρ' σ' H' v r → D.rt v H'
  | _ => False
def tS (C : Cn) (mk : Mkd) (ρ : Env) (fl : Fl) : TS := fun D σ H => ∃ Fb, Rel C mk Fb ρ σ H ∧ EndsOk C mk Fb D ρ σ H fl
/-- a value; w: or a tuple that is not kept -/
def RDw (w : Bool) (K : PySem.W.Frag) (H : Hp) (B : Addr → Prop) (v : V) (d : D) : Prop := RD K H B v d ∨ (w = true ∧ ∃ a xs ds, v = .ref a ∧ d = .tuple ds ∧ SqT K H a xs ∧ RDs K H B xs ds)
theorem RDw.no {K : PySem.W.Frag} {H : Hp} {B : Addr → Prop} {v : V} {d : D} (h : RDw false K H B v d) : RD K H B v d := h.elim id fun z => by cases z.1
/-- what a target's store leaves -/
structure OutOk (L : List Nat) (ρ ρ' : Env) (σ σ' : L2.St) : Prop where
  len : σ'.length = σ.length
  out : ∀ j, j ∉ L → σ'[j]? = σ[j]?
  sub : ∀ a, mutA ρ' σ' a → mutA ρ σ a
theorem OutOk.refl {L : List Nat} {ρ : Env} {σ : L2.St} : OutOk L ρ ρ σ σ := ⟨rfl, fun _ _ => rfl, fun _ h => h⟩
theorem OutOk.trans {L M : List Nat} {ρ ρ1 ρ2 : Env} {σ σ1 σ2 : L2.St} (a : OutOk L ρ ρ1 σ σ1) (b : OutOk M ρ1 ρ2 σ1 σ2) : OutOk (L ++ M) ρ ρ2 σ σ2 :=
  ⟨b.len.trans a.len, fun j h => (b.out j fun z => h (List.mem_append_right _ z)).trans (a.out j fun z => h (List.mem_append_left _ z)), fun x h => a.sub x (b.sub x h)⟩
def tG (C : Cn) (mk : Mkd) (w : Bool) (L : List Nat) (ρ : Env) (d : D) (ρ' : Env) : TG := fun v σ H Q => ∃ Fb, Rel C mk Fb ρ σ H ∧ RDw w C.K H (bad Fb ρ σ) v d ∧ ∀ σ' H', StepS C mk Fb ρ ρ' σ σ' H H' → OutOk L ρ ρ' σ σ' → Q σ' H'
def tGs (C : Cn) (mk : Mkd) (L : List Nat) (ρ : Env) (ds : List D) (ρ' : Env) : TGs := fun vs σ H Q => ∃ Fb, Rel C mk Fb ρ σ H ∧ RDs C.K H (bad Fb ρ σ) vs ds ∧ ∀ σ' H', StepS C mk Fb ρ ρ' σ σ' H H' → OutOk L ρ ρ' σ σ' → Q σ' H'
theorem psImp {X : Cx} {e : Stmt} {t t' : TS} (h : PS X e t) (i : ∀ D σ H, t' D σ H → t D σ H) : PS X e t' := ⟨fun pins s σ H D I q => h.run pins s σ H D I (i _ _ _ q)⟩
theorem pssImp {X : Cx} {e : List Stmt} {t t' : TS} (h : PSs X e t) (i : ∀ D σ H, t' D σ H → t D σ H) : PSs X e t' := ⟨fun pins s σ H D I q => h.run pins s σ H D I (i _ _ _ q)⟩
theorem pgImp {X : Cx} {e : Expr} {t t' : TG} (h : PG X e t) (i : ∀ v σ H Q, t' v σ H Q → t v σ H Q) : PG X e t' := ⟨fun pins s σ H v u Q I r q => h.run pins s σ H v u Q I r (i _ _ _ _ q)⟩
theorem pgsImp {X : Cx} {e : List Expr} {t t' : TGs} (h : PGs X e t) (i : ∀ v σ H Q, t' v σ H Q → t v σ H Q) : PGs X e t' := ⟨fun pins s σ H v u Q I r q => h.run pins s σ H v u Q I r (i _ _ _ _ q)⟩
section
variable {C : Cn} {mk : Mkd} {Fb : Addr → Prop} {ρ ρ' ρ1 ρ2 : Env} {σ σ' σ1 σ2 : L2.St} {H H' H1 H2 : Hp}
/-- the ends of a step and of what follows it -/
theorem EndsOk.after (s : StepS C mk Fb ρ ρ1 σ σ1 H H1) {D : Ends} : ∀ {fl : Fl}, EndsOk C mk Fb D ρ σ H fl → EndsOk C mk Fb D ρ1 σ1 H1 fl
  | .nx ρ', h => fun σ' H' t => h σ' H' (s.trans t)
  | .bk ρ', h => fun σ' H' t => h σ' H' (s.trans t)
  | .ct ρ', h => fun σ' H' t => h σ' H' (s.trans t)
  | .rt (.dat d) ρ', h => fun v σ' H' t r => h v σ' H' (s.trans t) r
  | .rt (.fresh ds) ρ', h => fun v σ' H' t ⟨a, xs, e, A, r⟩ => h v σ' H' (s.trans t) ⟨a, xs, e, by
      rcases A with z | z
      · exact .inl (s.kp.none a z)
      · exact (s.sub a z).elim .inr .inl, r⟩
  | .exc _ _ _, h => h.elim
  | .bad, h => h.elim
theorem notPar {o : Option (Option SV)} (h : isPar o = false) : (∀ ds, o ≠ some (some (.par ds))) ∧ o ≠ some (some .mk) := ⟨fun ds e => (by rw [e] at h; cases h), fun e => (by rw [e] at h; cases h)⟩
/-- a slot takes data -/
theorem Rel.bind (R : Rel C mk Fb ρ σ H) {i : Nat} {d : D} {v : V} (hp : isPar ρ[i]? = false) (hl : i < ρ.length) (rd : RD C.K H (bad Fb ρ σ) v d) : StepS C mk Fb ρ (ρ.set i (some (.dat d))) σ (σ.set i (some v)) H H := by
  have hlσ : i < σ.length := by rw [← R.len]; exact hl
  have up : ∀ {j : Nat}, mutOf (ρ.set i (some (.dat d)))[j]? ≠ none → i ≠ j ∧ (ρ.set i (some (.dat d)))[j]? = ρ[j]? := fun {j} z => by
    rw [set_get hl] at z
    split at z
    · exact absurd rfl z
    · rename_i q; exact ⟨q, List.getElem?_set_ne q⟩
  have sub : ∀ a, mutA (ρ.set i (some (.dat d))) (σ.set i (some v)) a → mutA ρ σ a := fun a ⟨j, ds, e1, e2⟩ => by
    obtain ⟨q, e3⟩ := up (j := j) (by rw [e1]; exact fun z => nomatch z)
    exact ⟨j, ds, by rw [← e3]; exact e1, by rw [List.getElem?_set_ne q] at e2; exact e2⟩
  have hb : ∀ a, bad Fb (ρ.set i (some (.dat d))) (σ.set i (some v)) a → bad Fb ρ σ a ∨ H a = none := fun a z => .inl (z.elim .inl fun m => .inr (sub a m))
  refine ⟨⟨by rw [List.length_set, List.length_set]; exact R.len, R.fb, fun j s e c => ?_, fun j ds e => ?_, fun j k a e1 e2 e3 e4 => ?_, fun j ns e => ?_, fun j e => ?_, R.tabs⟩, .refl, fun a m => .inl (sub a m), fun j ds e => ?_⟩
  · rw [set_get hl] at e
    split at e
    · rename_i hij
      subst hij
      cases e
      exact ⟨v, List.getElem?_set_self hlσ, .dat (rd.bad hb)⟩
    · rename_i hij
      obtain ⟨w, h1, h2⟩ := R.val j s e c
      exact ⟨w, by rw [List.getElem?_set_ne hij]; exact h1, h2.bad hb⟩
  · obtain ⟨q, e3⟩ := up (j := j) (by rw [e]; exact fun z => nomatch z)
    rw [e3] at e
    obtain ⟨a, xs, h1, h2, h3, h4⟩ := R.mt j ds e
    exact ⟨a, xs, by rw [List.getElem?_set_ne q]; exact h1, h2, h3, h4.bad hb⟩
  · obtain ⟨q1, f1⟩ := up e1
    obtain ⟨q2, f2⟩ := up e2
    rw [f1] at e1
    rw [f2] at e2
    rw [List.getElem?_set_ne q1] at e3
    rw [List.getElem?_set_ne q2] at e4
    exact R.inj j k a e1 e2 e3 e4
  · rw [set_get hl] at e
    split at e
    · cases e
    · rename_i q
      rw [List.getElem?_set_ne q]
      exact R.ro j ns e
  · rw [set_get hl] at e
    split at e
    · cases e
    · rename_i q
      rw [List.getElem?_set_ne q]
      exact R.mks j e
  · have q : i ≠ j := fun z => by subst z; exact (notPar hp).1 ds e
    exact ⟨⟨ds, by rw [List.getElem?_set_ne q]; exact e⟩, List.getElem?_set_ne q⟩
theorem bind_out {i : Nat} {d : D} {v : V} (hl : i < ρ.length) : OutOk [i] ρ (ρ.set i (some (.dat d))) σ (σ.set i (some v)) := by
  refine ⟨List.length_set, fun j h => List.getElem?_set_ne fun z => h (by simp [z]), fun a ⟨j, ds, e1, e2⟩ => ?_⟩
  rw [set_get hl] at e1
  split at e1
  · cases e1
  · rename_i q
    rw [List.getElem?_set_ne q] at e2
    exact ⟨j, ds, e1, e2⟩
/-- a slot takes a list of its own -/
theorem Rel.bindO {a : Addr} {xs : List V} {ds : List D} (R : Rel C mk (fun b => Fb b ∨ b = a) ρ σ H) {i : Nat} (hp : isPar ρ[i]? = false) (hl : i < ρ.length) (hFb : ¬ Fb a) (hH : H a = some (.lst xs)) (rd : RDs C.K H (fun b => bad Fb ρ σ b ∨ b = a) xs ds) :
    Rel C mk Fb (ρ.set i (some (.own ds))) (σ.set i (some (.ref a))) H := by
  have hlσ : i < σ.length := by rw [← R.len]; exact hl
  have oth : ∀ {j : Nat} {es : List D}, mutOf (ρ.set i (some (.own ds)))[j]? = some es → (i = j ∧ es = ds) ∨ (i ≠ j ∧ mutOf ρ[j]? = some es) := fun {j es} e => by
    rw [set_get hl] at e
    split at e
    · rename_i q; cases e; exact .inl ⟨q, rfl⟩
    · rename_i q; exact .inr ⟨q, e⟩
  have sub : ∀ b, mutA (ρ.set i (some (.own ds))) (σ.set i (some (.ref a))) b → mutA ρ σ b ∨ b = a := fun b ⟨j, es, e1, e2⟩ => by
    rcases oth e1 with ⟨q, _⟩ | ⟨q, e3⟩
    · subst q
      rw [List.getElem?_set_self hlσ] at e2
      cases e2
      exact .inr rfl
    · rw [List.getElem?_set_ne q] at e2
      exact .inl ⟨j, es, e3, e2⟩
  have hb : ∀ b, bad Fb (ρ.set i (some (.own ds))) (σ.set i (some (.ref a))) b → bad (fun b => Fb b ∨ b = a) ρ σ b ∨ H b = none := fun b z => .inl (z.elim (fun q => .inl (.inl q)) fun m => (sub b m).elim .inr fun q => .inl (.inr q))
  have na : ¬ mutA ρ σ a := fun ⟨j, es, e1, e2⟩ => by
    obtain ⟨b, ys, h1, h2, _⟩ := R.mt j es e1
    rw [e2] at h1; cases h1
    exact h2 (.inr rfl)
  refine ⟨by rw [List.length_set, List.length_set]; exact R.len, fun b z => R.fb b (.inl z), fun j s e c => ?_, fun j es e => ?_, fun j k b e1 e2 e3 e4 => ?_, fun j ns e => ?_, fun j e => ?_, R.tabs⟩
  · rw [set_get hl] at e
    split at e
    · cases e
      rcases c with ⟨_, z⟩ | ⟨_, z⟩ <;> cases z
    · rename_i hij
      obtain ⟨w, h1, h2⟩ := R.val j s e c
      exact ⟨w, by rw [List.getElem?_set_ne hij]; exact h1, h2.bad hb⟩
  · rcases oth e with ⟨q, rfl⟩ | ⟨q, e3⟩
    · subst q
      exact ⟨a, xs, List.getElem?_set_self hlσ, hFb, hH, rd.bad fun b z => .inl (z.elim (fun q => .inl (.inl q)) fun m => (sub b m).elim (fun q => .inl (.inr q)) .inr)⟩
    · obtain ⟨b, ys, h1, h2, h3, h4⟩ := R.mt j es e3
      exact ⟨b, ys, by rw [List.getElem?_set_ne q]; exact h1, fun z => h2 (.inl z), h3, h4.bad hb⟩
  · cases m1 : mutOf (ρ.set i (some (.own ds)))[j]? with
    | none => exact absurd m1 e1
    | some f1 =>
      cases m2 : mutOf (ρ.set i (some (.own ds)))[k]? with
      | none => exact absurd m2 e2
      | some f2 =>
        rcases oth m1 with ⟨q1, _⟩ | ⟨q1, g1⟩ <;> rcases oth m2 with ⟨q2, _⟩ | ⟨q2, g2⟩
        · exact q1.symm.trans q2
        · subst q1
          rw [List.getElem?_set_self hlσ] at e3
          rw [List.getElem?_set_ne q2] at e4
          cases e3
          exact absurd ⟨k, f2, g2, e4⟩ na
        · subst q2
          rw [List.getElem?_set_self hlσ] at e4
          rw [List.getElem?_set_ne q1] at e3
          cases e4
          exact absurd ⟨j, f1, g1, e3⟩ na
        · rw [List.getElem?_set_ne q1] at e3
          rw [List.getElem?_set_ne q2] at e4
          exact R.inj j k b (by rw [g1]; exact fun z => nomatch z) (by rw [g2]; exact fun z => nomatch z) e3 e4
  · rw [set_get hl] at e
    split at e
    · cases e
    · rename_i q
      rw [List.getElem?_set_ne q]
      exact R.ro j ns e
  · rw [set_get hl] at e
    split at e
    · cases e
    · rename_i q
      rw [List.getElem?_set_ne q]
      exact R.mks j e
end
end Ev
set_option Elab.async false
set_option linter.all false
set_option maxRecDepth 100000
set_option maxHeartbeats 1000000
namespace Ev
open PySem PySem.Spec PyProof.Rows L2
def isComp : Expr → Bool
  | .ListComp _ _ _ _ => true
  | .SetComp _ _ _ _ => true
  | .DictComp _ _ _ _ _ => true
  | _ => false
theorem swaps_no {e : Expr} {t : Option Expr} {l : Nat} {env : PySem.Env} (h : isComp e = false) : swapsWith e t l env = pure false := by
  cases e <;> first | rfl | cases h
theorem swaps_sole {e t : Expr} {l : Nat} {env : PySem.Env} (h : isComp e = false) : swapsWithSole [t] e l env = pure false := swaps_no h
def isTupT : Expr → Bool
  | .Tuple _ _ _ => true
  | .List _ _ => true
  | _ => false
theorem stores_no {e t : Expr} {env : PySem.Env} (h : isTupT t = false ∨ isTupT e = false) : swappedStores [t] e env = pure none := by
  unfold swappedStores
  rcases h with h | h
  · cases t <;> first | rfl | (simp [isTupT] at h)
  · cases t <;> first | rfl | (cases e <;> first | rfl | (simp [isTupT] at h))
theorem stores_len {ts vs : List Expr} {k k2 : Nat} {p p2 : Pos} {env : PySem.Env} (h : ∀ l, (ts.filterMap fun
    | .Name id pos => if env.kindOf id == some .local && pos.line == l then some id else none
    | _ => none).length ≠ ts.length) : swappedStores [.Tuple ts k p] (.Tuple vs k2 p2) env = pure none := by
  have h := h ((ts.head?.map (·.pos.line)).getD 0)
  unfold swappedStores
  simp only
  split
  · rfl
  · split
    · rfl
    · rw [if_pos]
      simp only [Bool.or_eq_true, bne_iff_ne]
      exact .inl h
/-- a tuple that goes into names of which one is no local of the block -/
def cellT (sc : Scope) : Expr → Expr → Bool
  | .Tuple ts _ _, .Tuple _ _ _ => ts.any fun
    | .Name x _ => !decide (sc.names.lookup x = some .local)
    | _ => true
  | _, _ => false
theorem stores_cell {e t : Expr} {env : PySem.Env} (h : cellT env.scope t e = true) : swappedStores [t] e env = pure none := by
  unfold cellT at h
  split at h
  · refine stores_len fun l => Nat.ne_of_lt ?_
    rw [List.length_filterMap_lt_length_iff_exists]
    obtain ⟨x, hx, h2⟩ := List.any_eq_true.mp h
    refine ⟨x, hx, ?_⟩
    split at h2
    · rename_i y _
      have e1 : env.kindOf y ≠ some .local := fun z => by
        have z' : env.scope.names.lookup y = some .local := z
        rw [decide_eq_true z'] at h2
        cases h2
      simp [e1]
    · rfl
  · cases h
theorem each_cons {t : Expr} {ts : List Expr} {env : PySem.Env} (h : isStar t = false) : assignEach (t :: ts) env = (false, assign t env) :: assignEach ts env := by
  cases t <;> first | rfl | (simp [isStar] at h)
theorem each_len : ∀ {ts : List Expr} {env : PySem.Env}, (assignEach ts env).length = ts.length
  | [], _ => rfl
  | t :: ts, env => by
    have ih := each_len (ts := ts) (env := env)
    cases t <;> (unfold assignEach; rw [List.length_cons, List.length_cons, ih])
theorem each_plain : ∀ {ts : List Expr} {env : PySem.Env}, noStar ts = true → (assignEach ts env).findIdx? (·.1) = none
  | [], _, _ => rfl
  | t :: ts, env, h => by
    have h' : (!isStar t) = true ∧ noStar ts = true := by simpa [noStar] using h
    rw [each_cons (by simpa using h'.1), List.findIdx?_cons, each_plain h'.2]
    rfl
section
variable {X : Cx} {S : Sx} {mk : Mkd} {ρ ρ1 ρ2 ρ3 : Env} {e t : Expr} {es ts : List Expr} {st : Stmt} {rest a b : List Stmt} {r r1 r2 : EV} {d : D} {ds : List D} {k : Bool} {fl fl2 : Fl} {pos pos2 pos3 : Pos}
/-! ### targets -/
theorem g_name {i : Nat} {x : Str} (hN : X.N.Nodup) (hi : X.N[i]? = some x) (hx : Loc X.env.scope x) (hf : X.fn x = true ∨ X.env.scope.names.lookup x = some .local) (hp : isPar ρ[i]? = false) (hl : i < ρ.length) : PG X (.Name x pos) (tG (cn X S) mk false [i] ρ d (ρ.set i (some (.dat d)))) :=
  pgImp (pg_name hN hi hx hf) fun v σ H Q ⟨Fb, R, rd, q⟩ => q _ _ (R.bind hp hl rd.no) (bind_out hl)
theorem gs_nil : PGs X [] (tGs (cn X S) mk [] ρ [] ρ) := pgsImp pgs_nil fun vs σ H Q ⟨Fb, R, rd, q⟩ => by
  cases rd
  exact ⟨rfl, q _ _ (.refl R) .refl⟩
theorem gs_cons {L M : List Nat} (hs : isStar t = false) (h1 : PG X t (tG (cn X S) mk false L ρ d ρ1)) (h2 : PGs X ts (tGs (cn X S) mk M ρ1 ds ρ2)) : PGs X (t :: ts) (tGs (cn X S) mk (L ++ M) ρ (d :: ds) ρ2) :=
  pgsImp (pgs_cons h1 h2 (by rw [each_cons hs, List.map_cons])) fun vs σ H Q ⟨Fb, R, rd, q⟩ => by
    cases rd with
    | cons r1 r2 => exact ⟨_, _, rfl, Fb, R, .inl r1, fun σ1 H1 s1 o1 => ⟨Fb, s1.rel, s1.rds r2, fun σ2 H2 s2 o2 => q _ _ (s1.trans s2) (o1.trans o2)⟩⟩
theorem g_tup {L : List Nat} {w : Bool} {kd : Nat} (hc : X.calm = true) (hs : noStar ts = true) (hl : ts.length = ds.length) (h : PGs X ts (tGs (cn X S) mk L ρ ds ρ1)) : PG X (.Tuple ts kd pos) (tG (cn X S) mk w L ρ (.tuple ds) ρ1) :=
  pgImp (pg_tup (n := ds.length) hc h (by rw [each_len, hl]) (each_plain hs)) fun v σ H Q ⟨Fb, R, rd, q⟩ => by
    rcases rd with rd | ⟨_, a, xs, ds', ev, ed, h1, h2⟩
    · cases rd with
      | tup h1 h2 => exact ⟨_, _, rfl, h1.sq, h2.length, Fb, R, h2, q⟩
    · subst ev
      cases ed
      exact ⟨_, _, rfl, h1, h2.length, Fb, R, h2, q⟩
theorem g_at {i : Nat} {x : Str} {kk : Int} {xs : List D} {j kj : Nat} {p1 p2 : Pos} (hm : MkOk mk) (hN : X.N[i]? = some x) (hv : Vis X.env.scope x) (hd : (x == ("__debug__" : Str)) = false) (hcd : (x == ("__classdict__" : Str)) = false) (h : mutOf ρ[i]? = some xs) (hj : ixN xs.length kk = some j) :
    PG X (.Subscript (.Name x p1) (.Constant (.int kk) kj p2) pos) (tG (cn X S) mk false [] ρ d (mutPut ρ i (xs.set j d))) :=
  pgImp (pg_sub (pe_var hN hv hd hcd) pe_int set_list) fun v σ H Q ⟨Fb, R, rd, q⟩ => by
    obtain ⟨a, ys, h1, h2, h3, h4⟩ := R.mt i xs h
    exact ⟨.ref a, h1, a, ys, kk, j, rfl, rfl, h3, by rw [h4.length]; exact hj, q _ _ ((Step.refl R).put hm h h1 h3 (h4.set rd.no j)).toS ⟨rfl, fun _ _ => rfl, fun b m => (mutA_put h b).mp m⟩⟩
/-! ### statements -/
theorem s_asg {L : List Nat} (he : PE X e (tE (cn X S) mk ρ r ρ1)) (hg : PG X t (tG (cn X S) mk false L ρ1 r.frz ρ2)) (hs : isComp e = false ∨ swapsWithSole [t] e pos.line X.env = pure false) (hw : swappedStores [t] e X.env = pure none) (ht : isStar t = false) : PS X (.Assign [t] e pos) (tS (cn X S) mk ρ (.nx ρ2)) :=
  psImp (ps_asg he hg (hs.elim swaps_sole id) hw (by rw [each_cons ht]; rfl)) fun D σ H ⟨Fb, R, q⟩ => ⟨Fb, R, fun v H1 s v1 => ⟨Fb, s.rel, .inl v1.frz, fun σ' H' s2 _ => q _ _ (s.toS.trans s2)⟩⟩
theorem asgO_te {i : Nat} {C : Cn} (hp : isPar ρ1[i]? = false) (hl : i < ρ1.length) {D : Ends} {σ : L2.St} {H : Hp} (h : tS C mk ρ (.nx (ρ1.set i (some (.own ds)))) D σ H) : tE C mk ρ (.fresh ds) ρ1 σ H (fun x H1 => gName i x σ H1 D.nx) := by
  obtain ⟨Fb, R, q⟩ := h
  exact ⟨Fb, R, fun v H1 s ⟨a, xs, ev, hA, h1, h2, h3, h4⟩ => by
    subst ev
    have hFb : ¬ Fb a := fun z => h1 (.inl z)
    have rel := h4.bindO hp hl hFb h2 h3
    have hlσ : i < σ.length := by rw [← s.rel.len]; exact hl
    refine q _ _ ⟨rel, s.kp, fun b ⟨j, es, e1, e2⟩ => ?_, fun j es e1 => ?_⟩
    · rw [set_get hl] at e1
      split at e1
      · rename_i z
        subst z
        rw [List.getElem?_set_self hlσ] at e2
        cases e2
        exact hA.elim .inr .inl
      · rename_i z
        rw [List.getElem?_set_ne z] at e2
        exact .inl (s.sub b ⟨j, es, e1, e2⟩)
    · obtain ⟨fs, e2⟩ := s.par j es e1
      have z : i ≠ j := fun z => by subst z; exact (notPar hp).1 fs e2
      exact ⟨⟨fs, by rw [List.getElem?_set_ne z]; exact e2⟩, List.getElem?_set_ne z⟩⟩
theorem asg_te {i : Nat} {C : Cn} (hp : isPar ρ1[i]? = false) (hl : i < ρ1.length) {D : Ends} {σ : L2.St} {H : Hp} (h : tS C mk ρ (.nx (ρ1.set i (some (.dat r.frz)))) D σ H) : tE C mk ρ r ρ1 σ H (fun x H1 => gName i x σ H1 D.nx) := by
  obtain ⟨Fb, R, q⟩ := h
  exact ⟨Fb, R, fun v H1 s rv => q _ _ (s.toS.trans (s.rel.bind hp hl rv.frz))⟩
theorem s_asgO {i : Nat} {x : Str} (hN : X.N.Nodup) (hi : X.N[i]? = some x) (hx : Loc X.env.scope x) (hf : X.fn x = true ∨ X.env.scope.names.lookup x = some .local) (hp : isPar ρ1[i]? = false) (hl : i < ρ1.length) (he : PE X e (tE (cn X S) mk ρ (.fresh ds) ρ1)) (hs : isComp e = false ∨ swapsWithSole [.Name x pos2] e pos.line X.env = pure false) :
    PS X (.Assign [.Name x pos2] e pos) (tS (cn X S) mk ρ (.nx (ρ1.set i (some (.own ds))))) :=
  psImp (ps_asg he (pg_name hN hi hx hf) (hs.elim swaps_sole id) (stores_no (.inl rfl)) rfl) fun D σ H h => asgO_te hp hl h
theorem s_expr (he : PE X e (tE (cn X S) mk ρ r ρ1)) (hs : isComp e = false) : PS X (.Expr e pos) (tS (cn X S) mk ρ (.nx ρ1)) :=
  psImp (ps_expr he (swaps_no hs)) fun D σ H ⟨Fb, R, q⟩ => ⟨Fb, R, fun v H1 s v1 => q _ _ s.toS⟩
theorem rv_to {C : Cn} {Fb : Addr → Prop} {σ : L2.St} {H H1 : Hp} {v : V} (rv : RV C mk Fb ρ ρ1 σ H H1 v r) : RVS C mk Fb (newA ρ σ H) ρ1 σ H1 v r := by
  cases r with
  | dat d => exact rv
  | fresh ds => exact rv
theorem s_ret (he : PE X e (tE (cn X S) mk ρ r ρ1)) : PS X (.Return (some e) pos) (tS (cn X S) mk ρ (.rt r ρ1)) :=
  psImp (ps_ret he) fun D σ H ⟨Fb, R, q⟩ => ⟨Fb, R, fun v H1 s v1 => q v σ H1 s.toS (rv_to v1)⟩
theorem s_retN : PS X (.Return none pos) (tS (cn X S) mk ρ (.rt (.dat .none) ρ)) := psImp ps_retN fun D σ H ⟨Fb, R, q⟩ => q .non σ H (.refl R) RD.non
theorem s_pass : PS X (.Pass pos) (tS (cn X S) mk ρ (.nx ρ)) := psImp ps_pass fun D σ H ⟨Fb, R, q⟩ => q σ H (.refl R)
theorem s_brk : PS X (.Break pos) (tS (cn X S) mk ρ (.bk ρ)) := psImp ps_break fun D σ H ⟨Fb, R, q⟩ => q σ H (.refl R)
theorem s_cont : PS X (.Continue pos) (tS (cn X S) mk ρ (.ct ρ)) := psImp ps_continue fun D σ H ⟨Fb, R, q⟩ => q σ H (.refl R)
theorem ss_nil : PSs X [] (tS (cn X S) mk ρ (.nx ρ)) := pssImp pss_nil fun D σ H ⟨Fb, R, q⟩ => q σ H (.refl R)
theorem s_ifT (hc : PT X e (tT (cn X S) mk ρ true ρ1)) (ha : PSs X a (tS (cn X S) mk ρ1 fl)) : PS X (.If e a b pos) (tS (cn X S) mk ρ fl) :=
  psImp (ps_if hc ha (pss_never (sts := b))) fun D σ H ⟨Fb, R, q⟩ => ⟨Fb, R, fun H1 s => show (if true = true then tS (cn X S) mk ρ1 fl D σ H1 else tNever D σ H1) from by rw [if_pos rfl]; exact ⟨Fb, s.rel, q.after s.toS⟩⟩
theorem s_ifF (hc : PT X e (tT (cn X S) mk ρ false ρ1)) (hb : PSs X b (tS (cn X S) mk ρ1 fl)) : PS X (.If e a b pos) (tS (cn X S) mk ρ fl) :=
  psImp (ps_if hc (pss_never (sts := a)) hb) fun D σ H ⟨Fb, R, q⟩ => ⟨Fb, R, fun H1 s => show (if false = true then tNever D σ H1 else tS (cn X S) mk ρ1 fl D σ H1) from by rw [if_neg Bool.false_ne_true]; exact ⟨Fb, s.rel, q.after s.toS⟩⟩
/-- a statement that goes on, then the others -/
theorem ss_cons (h1 : PS X st (tS (cn X S) mk ρ (.nx ρ1))) (h2 : PSs X rest (tS (cn X S) mk ρ1 fl)) : PSs X (st :: rest) (tS (cn X S) mk ρ fl) :=
  pssImp (pss_cons h1 h2) fun D σ H ⟨Fb, R, q⟩ => ⟨Fb, R, fun σ1 H1 s => ⟨Fb, s.rel, q.after s⟩⟩
/-- a statement behind which nothing is done -/
theorem ss_end (h1 : PS X st (tS (cn X S) mk ρ fl)) (hn : ∀ ρ', fl ≠ .nx ρ') : PSs X (st :: rest) (tS (cn X S) mk ρ fl) :=
  pssImp (pss_cons h1 (pss_never (sts := rest))) fun D σ H ⟨Fb, R, q⟩ => ⟨Fb, R, by
    cases fl with
    | nx ρ' => exact absurd rfl (hn ρ')
    | rt r ρ' => exact q
    | bk ρ' => exact q
    | ct ρ' => exact q
    | exc _ _ _ => exact q.elim
    | bad => exact q.elim⟩
end
end Ev
set_option Elab.async false
set_option linter.all false
set_option maxRecDepth 100000
set_option maxHeartbeats 1000000
namespace Ev
open PySem PySem.Spec PyProof.Rows L2
/-! ### what is walked -/
/-- J walks items, so long as the values vs stand for ds -/
def WalkD (K : PySem.W.Frag) (w : Bool) (J : L2.It) (vs : List V) (ds : List D) (items : List D) : Prop :=
  ∀ H B, RDs K H B vs ds → ∀ i : Nat, (∀ x, items[i]? = some x → J.go i H ∧ ∀ u H', J.yld i H u H' → New H H' ∧ RDw w K H' B u x) ∧ (items.length ≤ i → J.stop i H)
def tI (C : Cn) (mk : Mkd) (w : Bool) (ρ : Env) (items : List D) (ρ1 : Env) : TI := fun σ H R => ∃ Fb, Rel C mk Fb ρ σ H ∧ ∀ J H1 vs ds, Step C mk Fb ρ ρ1 σ H H1 → RDs C.K H1 (bad Fb ρ1 σ) vs ds → WalkD C.K w J vs ds items → R J H1
theorem piImp {X : Cx} {tg e : Expr} {t t' : TI} (h : PI X tg e t) (i : ∀ σ H R, t' σ H R → t σ H R) : PI X tg e t' := ⟨fun pins s σ H R I q => h.run pins s σ H R I (i _ _ _ q)⟩
section
variable {X : Cx} {S : Sx} {mk : Mkd} {ρ ρ1 ρ2 : Env} {e tg iter : Expr} {body : List Stmt} {items : List D} {fl : Fl} {pos : Pos} {w : Bool}
theorem pg_union {α : Type} {t : α → TG} (h : ∀ a, PG X tg (t a)) : PG X tg (fun v σ H Q => ∃ a, t a v σ H Q) := ⟨fun pins s σ H v u Q I r ⟨a, q⟩ => (h a).run pins s σ H v u Q I r q⟩
theorem pss_union {α : Type} {t : α → TS} (h : ∀ a, PSs X body (t a)) : PSs X body (fun D σ H => ∃ a, t a D σ H) := ⟨fun pins s σ H D I ⟨a, q⟩ => (h a).run pins s σ H D I q⟩
theorem pt_union {α : Type} {t : α → TT} (h : ∀ a, PT X e (t a)) : PT X e (fun σ H Q => ∃ a, t a σ H Q) := ⟨fun pins s σ H Q I ⟨a, q⟩ => (h a).run pins s σ H Q I q⟩
theorem pe_union {α : Type} {t : α → TE} (h : ∀ a, PE X e (t a)) : PE X e (fun σ H Q => ∃ a, t a σ H Q) := ⟨fun pins s σ H Q I ⟨a, q⟩ => (h a).run pins s σ H Q I q⟩
theorem drop_cons {α : Type} {xs : List α} {i : Nat} {x : α} (h : xs[i]? = some x) : xs.drop i = x :: xs.drop (i + 1) := by
  obtain ⟨hl, e⟩ := List.getElem?_eq_some_iff.mp h
  rw [List.drop_eq_getElem_cons hl, e]
theorem RDw.new {K : PySem.W.Frag} {H : Hp} {B : Addr → Prop} {v : V} {d : D} {w : Bool} (h : RD K H B v d) : RDw w K H B v d := .inl h
theorem s_for {L : List Nat} (bT : D → Env → Option Env) (f : Env → Fl) (hp : PassesOwn (model X.prog X.w) X.A X.env X.xe) (hc : X.calm = true) (hm : MkOk mk) (hi : PI X tg iter (tI (cn X S) mk w ρ items ρ1)) (hg : ∀ d ρ ρ', bT d ρ = some ρ' → PG X tg (tG (cn X S) mk w L ρ d ρ')) (hb : ∀ ρ, PSs X body (tS (cn X S) mk ρ (f ρ)))
    (hfl : forLoop (fun d ρ => match bT d ρ with | some ρ => f ρ | none => .bad) items ρ1 = fl) (hs : ∀ x, foldedSetIterable iter X.env x = pure x) : PS X (.For tg iter body [] pos) (tS (cn X S) mk ρ fl) := by
  have hg' : PG X tg (fun v σ H Q => ∃ a : { p : D × Env × Env // bT p.1 p.2.1 = some p.2.2 }, tG (cn X S) mk w L a.1.2.1 a.1.1 a.1.2.2 v σ H Q) := pg_union fun a => hg _ _ _ a.2
  have hb' : PSs X body (fun D σ H => ∃ ρ, tS (cn X S) mk ρ (f ρ) D σ H) := pss_union hb
  refine psImp (ps_for hp hc hi hg' hb' hs) fun D σ H ⟨Fb, R, q⟩ => ⟨Fb, R, fun J H1 vs ds st rds wk => ?_⟩
  let N : Nat → L2.St → Hp → Prop := fun i σ' H' => i ≤ items.length ∧ ∃ ρi, StepS (cn X S) mk Fb ρ ρi σ σ' H H' ∧ RDs X.K H' (bad Fb ρi σ') vs ds ∧ forLoop (fun d ρ => match bT d ρ with | some ρ => f ρ | none => .bad) (items.drop i) ρi = fl
  refine ⟨fun i m σ' H' => m = items.length - i ∧ N i σ' H', ⟨items.length, by simp, Nat.zero_le _, ρ1, st.toS, rds, by simpa using hfl⟩, ?_⟩
  rintro i m σ' H' ⟨rfl, hi, ρi, si, ri, ei⟩
  obtain ⟨w1, w2⟩ := wk H' _ ri i
  by_cases hlt : i < items.length
  · refine .inr ?_
    have hx := List.getElem?_eq_getElem hlt
    rw [drop_cons hx] at ei
    obtain ⟨g1, g2⟩ := w1 _ hx
    refine ⟨g1, N (i + 1), fun σ2 H2 n2 => ⟨items.length - (i + 1), by omega, rfl, n2⟩, fun x H5 y => ?_⟩
    obtain ⟨n5, r5⟩ := g2 x H5 y
    have s5 : Step (cn X S) mk Fb ρi ρi σ' H' H5 := (Step.refl si.rel).new hm n5
    unfold forLoop at ei
    cases hbt : bT items[i] ρi with
    | none =>
      rw [hbt] at ei
      simp only at ei
      rw [← ei] at q
      exact q.elim
    | some ρ2 =>
      rw [hbt] at ei
      simp only at ei
      have t5 : StepS (cn X S) mk Fb ρ ρi σ σ' H H5 := si.trans s5.toS
      refine ⟨⟨(items[i], ρi, ρ2), hbt⟩, Fb, s5.rel, r5, fun σ2 H2 st2 _ => ⟨ρ2, Fb, st2.rel, ?_⟩⟩
      have t2 := t5.trans st2
      have r2 := st2.rds (s5.toS.rds ri)
      cases hfb : f ρ2 with
      | nx ρ3 =>
        rw [hfb] at ei
        exact fun σ3 H3 st3 => ⟨by omega, ρ3, t2.trans st3, st3.rds r2, ei⟩
      | ct ρ3 =>
        rw [hfb] at ei
        exact fun σ3 H3 st3 => ⟨by omega, ρ3, t2.trans st3, st3.rds r2, ei⟩
      | bk ρ3 =>
        rw [hfb] at ei
        simp only at ei
        rw [← ei] at q
        exact fun σ3 H3 st3 => q σ3 H3 (t2.trans st3)
      | rt r ρ3 =>
        rw [hfb] at ei
        simp only at ei
        rw [← ei] at q
        have q2 := q.after t2
        exact q2
      | exc c x ρ3 =>
        rw [hfb] at ei
        simp only at ei
        rw [← ei] at q
        exact q.elim
      | bad =>
        rw [hfb] at ei
        simp only at ei
        rw [← ei] at q
        exact q.elim
  · refine .inl ⟨w2 (by omega), ?_⟩
    have : items.drop i = [] := List.drop_eq_nil_of_le (by omega)
    rw [this] at ei
    unfold forLoop at ei
    rw [← ei] at q
    exact q σ' H' si
/-- while -/
theorem s_while (c : Env → Out D) (f : Env → Fl) (n : Nat) (hp : PassesOwn (model X.prog X.w) X.A X.env X.xe) (hc : ∀ ρ b ρ', c ρ = .ok (.bool b) ρ' → PT X e (tT (cn X S) mk ρ b ρ')) (hb : ∀ ρ, PSs X body (tS (cn X S) mk ρ (f ρ))) (hfl : whileLoop c f n ρ = fl) :
    PS X (.While e body [] pos) (tS (cn X S) mk ρ fl) := by
  have hc' : PT X e (fun σ H Q => ∃ a : { p : Env × Bool × Env // c p.1 = .ok (.bool p.2.1) p.2.2 }, tT (cn X S) mk a.1.1 a.1.2.1 a.1.2.2 σ H Q) := pt_union fun a => hc _ _ _ a.2
  have hb' : PSs X body (fun D σ H => ∃ ρ, tS (cn X S) mk ρ (f ρ) D σ H) := pss_union hb
  refine psImp (ps_while hp hc' hb') fun D σ H ⟨Fb, R, q⟩ => ?_
  refine ⟨fun m σ' H' => ∃ ρi, StepS (cn X S) mk Fb ρ ρi σ σ' H H' ∧ whileLoop c f m ρi = fl, ⟨n, ρ, .refl R, hfl⟩, ?_⟩
  rintro m σ' H' ⟨ρi, si, ei⟩
  cases m with
  | zero =>
    unfold whileLoop at ei
    rw [← ei] at q
    exact q.elim
  | succ m =>
    unfold whileLoop at ei
    cases hce : c ρi with
    | exc c' x ρ' =>
      rw [hce] at ei
      simp only [Out.thenF] at ei
      rw [← ei] at q
      exact q.elim
    | bad =>
      rw [hce] at ei
      simp only [Out.thenF] at ei
      rw [← ei] at q
      exact q.elim
    | ok d ρ2 =>
      rw [hce] at ei
      simp only [Out.thenF] at ei
      cases d with
      | bool b =>
        refine ⟨⟨(ρi, b, ρ2), hce⟩, Fb, si.rel, fun H1 s1 => ?_⟩
        have t1 := si.trans s1.toS
        cases b with
        | false =>
          simp only at ei
          rw [← ei] at q
          show (if false = true then _ else D.nx σ' H1)
          rw [if_neg Bool.false_ne_true]
          exact q σ' H1 t1
        | true =>
          show (if true = true then _ else D.nx σ' H1)
          rw [if_pos rfl]
          refine ⟨fun σ3 H3 => ∃ ρ3, StepS (cn X S) mk Fb ρ ρ3 σ σ3 H H3 ∧ whileLoop c f m ρ3 = fl, fun σ3 H3 n3 => ⟨m, Nat.lt_succ_self _, n3⟩, ρ2, Fb, s1.rel, ?_⟩
          cases hfb : f ρ2 with
          | nx ρ3 =>
            rw [hfb] at ei
            exact fun σ3 H3 st3 => ⟨ρ3, t1.trans st3, ei⟩
          | ct ρ3 =>
            rw [hfb] at ei
            exact fun σ3 H3 st3 => ⟨ρ3, t1.trans st3, ei⟩
          | bk ρ3 =>
            rw [hfb] at ei
            simp only at ei
            rw [← ei] at q
            exact fun σ3 H3 st3 => q σ3 H3 (t1.trans st3)
          | rt r ρ3 =>
            rw [hfb] at ei
            simp only at ei
            rw [← ei] at q
            exact q.after t1
          | exc c x ρ3 =>
            rw [hfb] at ei
            simp only at ei
            rw [← ei] at q
            exact q.elim
          | bad =>
            rw [hfb] at ei
            simp only at ei
            rw [← ei] at q
            exact q.elim
      | none => simp only at ei; rw [← ei] at q; exact q.elim
      | int _ => simp only at ei; rw [← ei] at q; exact q.elim
      | str _ => simp only at ei; rw [← ei] at q; exact q.elim
      | _ => simp only at ei; rw [← ei] at q; exact q.elim
end
end Ev
set_option Elab.async false
set_option linter.all false
set_option maxRecDepth 100000
set_option maxHeartbeats 1000000
namespace Ev
open PySem PySem.Spec PyProof.Rows L2
open PySem.AutoSeq1 (wpAny_loadPart')
/-! ### enumerate of a tuple -/
def tupIt (q : Addr) : Obj := { cls := .type "tuple_iterator", data := .fields #[.ref q, .int 0 0] }
def enumIt (it : Addr) : Obj := { cls := .type "enumerate", data := .fields #[.none, .bool false, .ref it, rawInt 0, .none, .none] }
theorem enum_new (q : Addr) (o : Obj) (cells : Array Value) :
    Meets (Builtin.«enumerate.__new__» ⟨[.type "enumerate", .ref q], []⟩) (fun _ R s => (s.heap.get? q = some o ∧ s.heap.IsTuple q cells) ∧
      R (.ok (.ret (.ref (s.heap.push (tupIt q)).objs.size))) { s with heap := (s.heap.push (tupIt q)).push (enumIt s.heap.objs.size) }) :=
  .of_wp fun prog w A R s hyp => by
    obtain ⟨hp, g, d, tk, os⟩ := s
    obtain ⟨⟨hq, hT⟩, hyp⟩ := hyp
    have below := sub_enumerate
    wp_walk using wpAny_loadPart' hq
    refine wpAny_stack_any fun frames => wpAny_pure ?_
    split
    · rename_i c _ _ _ _ _
      cases (c == Value.type "enumerate")
      · wp_walk using wpAny_loadPart' hq, wpAny_pyIter_tuple hT
        exact ⟨_, rfl, hyp⟩
      · wp_walk using wpAny_loadPart' hq, wpAny_pyIter_tuple hT
        exact ⟨_, rfl, hyp⟩
    · wp_walk using wpAny_loadPart' hq, wpAny_pyIter_tuple hT
      exact ⟨_, rfl, hyp⟩
section
variable {prog : Program} {w : World} {A : Around} {E : Value → Shared → Prop} {s : Shared}
theorem call_enumT {q : Addr} {cells : Array Value} {Q : Value → Shared → Prop} (hT : s.heap.IsTuple q cells)
    (then_ : ∀ h', IsEnum h' (s.heap.objs.size + 1) s.heap.objs.size 0 .none → h'.IsTupleIter s.heap.objs.size q 0 → h'.objs.size = s.heap.objs.size + 2 →
      (∀ b o, s.heap.get? b = some o → h'.get? b = some o) → Q (.ref (s.heap.objs.size + 1)) { s with heap := h' }) :
    wpAny (model prog w) A (call (.type "enumerate") [.ref q]) Q E s := by
  obtain ⟨o, ho, _⟩ := id hT
  refine callType_new F.called_enumerate (by decide) (F.typeCall_enumerate_1 _) (F.newCall_enumerate_1 _) (fun obj => F.args_object_init_2 obj _) F.entry_enumerate_new (enum_new q o cells) ⟨⟨ho, hT⟩, ?_⟩
  have next : (s.heap.push (tupIt q)).objs.size = s.heap.objs.size + 1 := Heap.size_push ..
  have made : IsEnum ((s.heap.push (tupIt q)).push (enumIt s.heap.objs.size)) (s.heap.objs.size + 1) s.heap.objs.size 0 .none := by
    have z := Heap.get?_push_size (s.heap.push (tupIt q)) (o := enumIt s.heap.objs.size) rfl
    rw [next] at z
    exact z
  show _ ∧ _
  rw [next]
  exact ⟨⟨_, made, rfl⟩, then_ _ made ⟨_, Heap.get?_push_of_some _ (Heap.get?_push_size _ rfl), rfl, rfl⟩ (by rw [Heap.size_push, next]) fun b u x => Heap.get?_push_of_some _ (Heap.get?_push_of_some _ x)⟩
end
theorem drawsT {prog : Program} {w : World} {A : Around} (hh : A.handled = none) (it q : Addr) (ne : q ≠ it) (cells : Array Value) :
    Draws prog w A it [it, q] cells.size (fun i v => cells[i]? = some v) (fun i h => h.IsTupleIter it q i ∧ h.IsTuple q cells) where
  live := fun _ _ st => let ⟨o, ho, _⟩ := st.1; ⟨o, ho⟩
  frame := fun i h h' st keep => ⟨st.1.at fun o e => keep it (by simp) o e, by
    obtain ⟨o, ho, rest⟩ := st.2
    exact ⟨o, keep q (by simp) o ho, rest⟩⟩
  item := fun i s Q E hi st hQ => by
    refine RZ.nextOf_tuple_item st.1 st.2 (x := cells[i]) (by simp [hi]) fun h' t1 same => ?_
    obtain ⟨o, ho, rest⟩ := st.2
    exact hQ _ h' s.toks (by simp [hi]) ⟨t1, o, (same.2 q ne).trans ho, rest⟩ same
  done := fun s Q E st hE => RZ.nextOf_tuple_end hh st.1 st.2 (by simp) hE
/-- the tuple at q, each item in a new pair -/
def IteT (K : PySem.W.Frag) (q : Addr) : L2.It :=
  ⟨fun i H => ∃ (xs : List V) (x : V), SqT K H q xs ∧ xs[i]? = some x, fun i H v H' => ∃ T x, v = .ref T ∧ H T = none ∧ H' = upd H T (.tup [.int (i : Nat), x]) ∧ ∀ xs, SqT K H q xs → xs[i]? = some x, fun i H => ∃ xs : List V, SqT K H q xs ∧ xs.length ≤ i⟩
theorem tuple_ne {it q : Addr} {i : Nat} {h : Heap} {cells : Array Value} (a : h.IsTupleIter it q i) (b : h.IsTuple q cells) : q ≠ it := fun z => by
  obtain ⟨o, ho, hc, _⟩ := a
  obtain ⟨o', ho', hc', _⟩ := b
  rw [z] at ho'
  rw [ho] at ho'
  cases ho'
  rw [hc] at hc'
  exact absurd (Value.type.inj hc') (by decide)
theorem turn_enumT {P : Program} {w : World} {K : PySem.W.Frag} {elts : List Expr} {kk : Nat} {tpos : Pos} (q e it : Addr) :
    Turn P w K (.Tuple elts kk tpos) (IteT K q) [e, it] e (fun i h => (∃ old, IsEnum h e it ((i : Nat) : Int) old) ∧ h.IsTupleIter it q i ∧ e ≠ it) where
  mem := by simp
  obj := fun i h st b hb => by
    obtain ⟨⟨old, he⟩, ⟨o, ho, hc, hd⟩, _⟩ := st
    rcases List.mem_cons.mp hb with z | hb
    · subst z
      exact ⟨_, he, fun v y => nomatch y⟩
    · rw [List.mem_singleton.mp hb]
      exact ⟨o, ho, fun v y => by rw [hd] at y; cases y⟩
  keep := fun i h h' st k => by
    obtain ⟨⟨old, he⟩, hi, ne⟩ := st
    exact ⟨⟨old, k e (by simp) _ he⟩, hi.at fun o y => k it (by simp) o y, ne⟩
  item := by
    intro X hP hw hK hc i pins s σ H E I hf st hg
    subst hP hw hK
    obtain ⟨⟨old, he⟩, hit, ne⟩ := st
    obtain ⟨xs, x, hq, hx⟩ := hg
    obtain ⟨its, rv, p, hz⟩ := I.tuple hq
    have p : s.heap.IsTuple q its.toArray := p
    obtain ⟨u, hu, ru⟩ := rv.get hx
    have lte : e < s.heap.objs.size := Heap.lt_size he
    have lti : it < s.heap.objs.size := by obtain ⟨_, y, _⟩ := hit; exact Heap.lt_size y
    have qe : e ∉ [it, q] := fun hm => by
      rcases List.mem_cons.mp hm with y | hm
      · exact ne y
      · have y := List.mem_singleton.mp hm
        obtain ⟨o, ho, hcl, _⟩ := p
        have he' : s.heap.get? e = some _ := he
        rw [y, ho] at he'
        cases he'
        exact absurd (Value.type.inj hcl) (by decide)
    refine wpAny_pyNext_enum_itemD (drawsT (prog := X.prog) (w := X.w) (A := X.A.in1) (I.ok.hd hc) it q (tuple_ne hit p) its.toArray) he ⟨hit, p⟩ (by obtain ⟨hl, _⟩ := List.getElem?_eq_some_iff.mp hu; simpa using hl) ne qe fun u' h' tk hu' ho st' hT hsz hk => ?_
    have eu : u' = u := by
      have hu' : its.toArray[i]? = some u' := hu'
      rw [List.getElem?_toArray, hu] at hu'
      exact (Option.some.inj hu').symm
    subst eu
    refine ⟨_, rfl, wpAny_letOwnedTupleGo_enum (s := { s with heap := h', toks := tk + 1 }) ho fun h2 he' sb => ?_⟩
    have T2 : h2.get? s.heap.objs.size = some { cls := .type "tuple", data := .seq #[.int i tk, u'] } := (sb.2 _ (Nat.ne_of_gt lte)).trans hT
    have new : ObjOk X.prog X.w (upd H s.heap.objs.size (.tup [.int (i : Nat), x])) h2 s.heap.objs.size (.tup [.int (i : Nat), x]) :=
      ⟨by show 2 ≤ sizeLine; decide, [.int i tk, u'], .cons ⟨tk, rfl⟩ (.cons ru .nil), ⟨_, T2, rfl, _, rfl⟩⟩
    have I1 : Inv X pins σ (upd H s.heap.objs.size (.tup [.int (i : Nat), x])) { s with heap := h2, toks := tk + 1 } :=
      I.turnedNew (ch := [e, it]) (fun b ob hb y => by
        have b1 : b ≠ e := fun z => hb (by simp [z])
        have b2 : b ≠ it := fun z => hb (by simp [z])
        exact (sb.2 b b1).trans (hk b ob b1 b2 y)) hf (Nat.le_refl _) new
    refine ⟨.ref s.heap.objs.size, _, I1, rfl, ⟨_, x, rfl, I.hok.fresh (Nat.le_refl _), rfl, fun ys hy => by rw [I.tuple_inj hy hq]; exact hx⟩, ⟨⟨u', ?_⟩, st'.1.at fun o y => (sb.2 it (Ne.symm ne)).trans y, ne⟩, fun b hb => ?_⟩
    · have e1 : ((i + 1 : Nat) : Int) = (i : Int) + 1 := by omega
      rw [e1]
      exact he'
    · have lb : b < s.heap.objs.size := by
        rcases List.mem_cons.mp hb with z | hb
        · rw [z]; exact lte
        · rw [List.mem_singleton.mp hb]; exact lti
      rw [upd_ne (Nat.ne_of_lt lb)]
      exact (hf b hb).1
  done := by
    intro X hP hw hK hc i pins s σ H E I hf st hg
    subst hP hw hK
    obtain ⟨⟨old, he⟩, hit, ne⟩ := st
    obtain ⟨xs, hq, hx⟩ := hg
    obtain ⟨its, rv, p, hz⟩ := I.tuple hq
    have p : s.heap.IsTuple q its.toArray := p
    obtain ⟨f0, f1, f2, f3, f4, f5⟩ := hf it (by simp)
    have hl := rv.length
    have D2 : Draws X.prog X.w X.A.in1 it [it, q] i (fun i v => True) (fun k h => k = i ∧ h.IsTupleIter it q i ∧ h.IsTuple q its.toArray) :=
      ⟨fun _ _ st => let ⟨o, ho, _⟩ := st.2.1; ⟨o, ho⟩, fun k h h' st keep => ⟨st.1, st.2.1.at fun o e => keep it (by simp) o e, by
        obtain ⟨o, ho, rest⟩ := st.2.2
        exact ⟨o, keep q (by simp) o ho, rest⟩⟩, fun j s Q E hj st hQ => absurd st.1 (Nat.ne_of_lt hj), fun s Q E st hE => RZ.nextOf_tuple_end (I.ok.hd hc) st.2.1 st.2.2 (by simp; omega) hE⟩
    exact wpAny_pyNext_enum_endD D2 he ⟨rfl, hit, p⟩ fun h' eb => ⟨rfl, I.turned (t' := s.toks) (fun b o hb y => eb b o hb y) f0 f1 f3 f4 f5⟩
  self := fun A i s Q E st h => let ⟨⟨_, he⟩, _⟩ := st; wpAny_pyIter_enum he h
end Ev
set_option Elab.async false
set_option linter.all false
set_option maxRecDepth 100000
set_option maxHeartbeats 1000000
namespace Ev
open PySem PySem.Spec PyProof.Rows L2
section
variable {K : PySem.W.Frag} {w : Bool}
theorem pair_w {H : Hp} {B : Addr → Prop} {T : Addr} {x y : V} {d e : D} (hT : H T = none) (r1 : RD K H B x d) (r2 : RD K H B y e) : New H (upd H T (.tup [x, y])) ∧ RDw true K (upd H T (.tup [x, y])) B (.ref T) (.tuple [d, e]) :=
  ⟨.laid hT, .inr ⟨rfl, T, _, _, rfl, rfl, .inl (.inl upd_same), (RDs.cons r1 (.cons r2 .nil)).kp (M := fun _ => False) (.laid hT) fun _ z => z.elim⟩⟩
theorem walk_list {a : Addr} {ds : List D} : WalkD K w (Itl K a) [.ref a] [.list ds] ds := fun H B r i => by
  cases r with
  | cons r _ =>
    cases r with
    | lst h1 h2 h3 =>
      refine ⟨fun x hx => ?_, fun hl => ⟨_, .inl (.inl h1), by rw [h3.length]; exact hl⟩⟩
      obtain ⟨v, e1, e2⟩ := h3.getD hx
      refine ⟨⟨_, v, .inl (.inl h1), e1⟩, fun u H' ⟨e3, e4⟩ => ?_⟩
      subst e3
      have := e4 _ (.inl (.inl h1))
      rw [e1] at this; cases this
      exact ⟨.same, .inl e2⟩
theorem walk_tup {a : Addr} {ds : List D} : WalkD K w (Itt K a) [.ref a] [.tuple ds] ds := fun H B r i => by
  cases r with
  | cons r _ =>
    cases r with
    | tup h1 h3 =>
      refine ⟨fun x hx => ?_, fun hl => ⟨_, h1.sq, by rw [h3.length]; exact hl⟩⟩
      obtain ⟨v, e1, e2⟩ := h3.getD hx
      refine ⟨⟨_, v, h1.sq, e1⟩, fun u H' ⟨e3, e4⟩ => ?_⟩
      subst e3
      have := e4 _ h1.sq
      rw [e1] at this; cases this
      exact ⟨.same, .inl e2⟩
theorem walk_str {z : Str} : WalkD K w (Its z) [] [] (chars z) := fun H B r i => by
  refine ⟨fun x hx => ?_, fun hl => ?_⟩
  · unfold chars at hx
    rw [List.getElem?_map] at hx
    cases e : z.cps.toList[i]? with
    | none => rw [e] at hx; cases hx
    | some c =>
      rw [e] at hx
      cases hx
      have e' : z.cps[i]? = some c := by rw [← Array.getElem?_toList]; exact e
      refine ⟨(Array.getElem?_eq_some_iff.mp e').1, fun u H' ⟨e3, c', e4, e5⟩ => ?_⟩
      subst e3 e5
      rw [e'] at e4; cases e4
      exact ⟨.same, .inl (.str _)⟩
  · show z.cps.size ≤ i
    unfold chars at hl
    simpa using hl
theorem walk_rng {lo hi : Int} : WalkD K w (Itr lo (hi - lo).toNat) [] [] (rngD lo hi) := fun H B r i => by
  unfold rngD
  refine ⟨fun x hx => ?_, fun hl => show (hi - lo).toNat ≤ i by simpa using hl⟩
  rw [List.getElem?_map] at hx
  cases e : (List.range (hi - lo).toNat)[i]? with
  | none => rw [e] at hx; cases hx
  | some k =>
    rw [e] at hx
    cases hx
    obtain ⟨h1, h2⟩ := List.getElem?_eq_some_iff.mp e
    have h1' : i < (hi - lo).toNat := by simpa using h1
    have hk : k = i := by simpa using h2.symm
    subst hk
    refine ⟨h1', fun u H' ⟨e3, e4⟩ => ?_⟩
    subst e3 e4
    exact ⟨.same, .inl (.int _)⟩
theorem enumD_get : ∀ {ds : List D} {n i : Nat}, (enumD n ds)[i]? = (ds[i]?).map fun d => .tuple [.int ((n + i : Nat) : Int), d]
  | [], n, i => by simp [enumD]
  | d :: ds, n, 0 => by simp [enumD]
  | d :: ds, n, i + 1 => by
    simp only [enumD, List.getElem?_cons_succ]
    rw [enumD_get (ds := ds) (n := n + 1) (i := i)]
    have : n + 1 + i = n + (i + 1) := by omega
    rw [this]
theorem enumD_len : ∀ {ds : List D} {n : Nat}, (enumD n ds).length = ds.length
  | [], _ => rfl
  | d :: ds, n => by simp [enumD, enumD_len (ds := ds)]
theorem walk_enumL {a : Addr} {ds : List D} : WalkD K true (Ite K a) [.ref a] [.list ds] (enumD 0 ds) := fun H B r i => by
  cases r with
  | cons r _ =>
    cases r with
    | lst h1 h2 h3 =>
      refine ⟨fun x hx => ?_, fun hl => ⟨_, .inl (.inl h1), by rw [h3.length]; rw [enumD_len] at hl; exact hl⟩⟩
      rw [enumD_get] at hx
      cases e : ds[i]? with
      | none => rw [e] at hx; cases hx
      | some d =>
        rw [e] at hx
        cases hx
        obtain ⟨v, e1, e2⟩ := h3.getD e
        refine ⟨⟨_, v, .inl (.inl h1), e1⟩, fun u H' ⟨T, x, e3, e4, e5, e6⟩ => ?_⟩
        subst e3 e5
        have := e6 _ (.inl (.inl h1))
        rw [e1] at this; cases this
        have z := pair_w (K := K) (B := B) e4 (.int (i : Nat)) e2
        simpa using z
theorem walk_enumT {a : Addr} {ds : List D} : WalkD K true (IteT K a) [.ref a] [.tuple ds] (enumD 0 ds) := fun H B r i => by
  cases r with
  | cons r _ =>
    cases r with
    | tup h1 h3 =>
      refine ⟨fun x hx => ?_, fun hl => ⟨_, h1.sq, by rw [h3.length]; rw [enumD_len] at hl; exact hl⟩⟩
      rw [enumD_get] at hx
      cases e : ds[i]? with
      | none => rw [e] at hx; cases hx
      | some d =>
        rw [e] at hx
        cases hx
        obtain ⟨v, e1, e2⟩ := h3.getD e
        refine ⟨⟨_, v, h1.sq, e1⟩, fun u H' ⟨T, x, e3, e4, e5, e6⟩ => ?_⟩
        subst e3 e5
        have := e6 _ h1.sq
        rw [e1] at this; cases this
        have z := pair_w (K := K) (B := B) e4 (.int (i : Nat)) e2
        simpa using z
theorem zip_get {xs ys : List D} {i : Nat} {d : D} (h : (List.zipWith (fun u v => PyData.tuple [u, v]) xs ys)[i]? = some d) : ∃ x y, xs[i]? = some x ∧ ys[i]? = some y ∧ d = .tuple [x, y] := by
  rw [List.getElem?_zipWith] at h
  cases e1 : xs[i]? with
  | none => rw [e1] at h; cases h
  | some x =>
    cases e2 : ys[i]? with
    | none => rw [e1, e2] at h; cases h
    | some y => rw [e1, e2] at h; cases h; exact ⟨x, y, rfl, rfl, rfl⟩
theorem zip_end {xs ys : List D} {i : Nat} (h : (List.zipWith (fun u v => PyData.tuple [u, v]) xs ys).length ≤ i) : xs.length ≤ i ∨ ys.length ≤ i := by
  rw [List.length_zipWith] at h
  omega
theorem walk_zipL {a b : Addr} {ds es : List D} : WalkD K true (Itz K a b) [.ref a, .ref b] [.list ds, .list es] (List.zipWith (fun u v => .tuple [u, v]) ds es) := fun H B r i => by
  cases r with
  | cons r1 r =>
    cases r with
    | cons r2 _ =>
      cases r1 with
      | lst h1 h2 h3 =>
        cases r2 with
        | lst g1 g2 g3 =>
          refine ⟨fun d hd => ?_, fun hl => ⟨_, _, .inl (.inl h1), .inl (.inl g1), by rw [h3.length, g3.length]; exact zip_end hl⟩⟩
          obtain ⟨x, y, e1, e2, rfl⟩ := zip_get hd
          obtain ⟨v1, f1, f2⟩ := h3.getD e1
          obtain ⟨v2, f3, f4⟩ := g3.getD e2
          refine ⟨⟨_, _, v1, v2, .inl (.inl h1), .inl (.inl g1), f1, f3⟩, fun u H' ⟨T, x', y', e3, e4, e5, e6, e7⟩ => ?_⟩
          subst e3 e5
          have := e6 _ (.inl (.inl h1))
          rw [f1] at this; cases this
          have := e7 _ (.inl (.inl g1))
          rw [f3] at this; cases this
          exact pair_w e4 f2 f4
theorem walk_zipT {a b : Addr} {ds es : List D} : WalkD K true (RZ.ItzT K a b) [.ref a, .ref b] [.tuple ds, .tuple es] (List.zipWith (fun u v => .tuple [u, v]) ds es) := fun H B r i => by
  cases r with
  | cons r1 r =>
    cases r with
    | cons r2 _ =>
      cases r1 with
      | tup h1 h3 =>
        cases r2 with
        | tup g1 g3 =>
          refine ⟨fun d hd => ?_, fun hl => ⟨_, _, h1.sq, g1.sq, by rw [h3.length, g3.length]; exact zip_end hl⟩⟩
          obtain ⟨x, y, e1, e2, rfl⟩ := zip_get hd
          obtain ⟨v1, f1, f2⟩ := h3.getD e1
          obtain ⟨v2, f3, f4⟩ := g3.getD e2
          refine ⟨⟨_, _, v1, v2, h1.sq, g1.sq, f1, f3⟩, fun u H' ⟨T, x', y', e3, e4, e5, e6, e7⟩ => ?_⟩
          subst e3 e5
          have := e6 _ h1.sq
          rw [f1] at this; cases this
          have := e7 _ g1.sq
          rw [f3] at this; cases this
          exact pair_w e4 f2 f4
end
section
variable {X : Cx} {S : Sx} {mk : Mkd} {ρ ρ1 ρ2 : Env} {e e2 tg : Expr} {r : EV} {ds es : List D} {w : Bool} {p pos tpos : Pos} {kk : Nat} {elts : List Expr}
theorem i_list (he : PE X e (tE (cn X S) mk ρ r ρ1)) (hr : r.frz = .list ds) : PI X tg e (tI (cn X S) mk w ρ ds ρ1) :=
  piImp (pi_list he) fun σ H R ⟨Fb, Rl, q⟩ => ⟨Fb, Rl, fun v H1 s rv => by
    have rd := rv.frz
    rw [hr] at rd
    cases rd with
    | lst h1 h2 h3 => exact ⟨_, rfl, ⟨_, .inl (.inl h1)⟩, q _ H1 _ _ s (.cons (.lst h1 h2 h3) .nil) walk_list⟩⟩
theorem i_tup (he : PE X e (tE (cn X S) mk ρ r ρ1)) (hr : r.frz = .tuple ds) : PI X tg e (tI (cn X S) mk w ρ ds ρ1) :=
  piImp (pi_tup he) fun σ H R ⟨Fb, Rl, q⟩ => ⟨Fb, Rl, fun v H1 s rv => by
    have rd := rv.frz
    rw [hr] at rd
    cases rd with
    | tup h1 h3 => exact ⟨_, rfl, ⟨_, h1.sq⟩, q _ H1 _ _ s (.cons (.tup h1 h3) .nil) walk_tup⟩⟩
theorem i_str {z : Str} (he : PE X e (tE (cn X S) mk ρ r ρ1)) (hr : r.frz = .str z) : PI X tg e (tI (cn X S) mk w ρ (chars z) ρ1) :=
  piImp (pi_str he) fun σ H R ⟨Fb, Rl, q⟩ => ⟨Fb, Rl, fun v H1 s rv => by
    have rd := rv.frz
    rw [hr] at rd
    cases rd with
    | str x => exact ⟨_, rfl, q _ H1 [] [] s .nil walk_str⟩⟩
theorem star_one (h : isStar e = false) : starEach [e] X.env = [(false, eval e X.env)] := by rw [star_cons h]; rfl
theorem i_rng1 {j : Int} (hg : Gl X "range") (hm : X.mg "range" = none) (hs : isStar e = false) (ha : PA X [e] (tAs (cn X S) mk ρ [.int j] ρ1)) (h1 : -(2 ^ 62) ≤ j) (h2 : j < 2 ^ 62) : PI X tg (.Call (.Name "range" p) [e] [] pos) (tI (cn X S) mk w ρ (rngD 0 j) ρ1) :=
  piImp (pi_range1 hg hm ha (star_one hs)) fun σ H R ⟨Fb, Rl, q⟩ => ⟨Fb, Rl, fun vs H1 s rv => by
    have e1 := RDs.ints (ns := [j]) rv
    have wk := walk_rng (K := X.K) (w := w) (lo := 0) (hi := j)
    rw [Int.sub_zero] at wk
    exact ⟨j, e1, h1, h2, q _ H1 [] [] s .nil wk⟩⟩
theorem i_rng2 {i j : Int} (hg : Gl X "range") (hm : X.mg "range" = none) (hs : isStar e = false) (hs2 : isStar e2 = false) (ha : PA X [e, e2] (tAs (cn X S) mk ρ [.int i, .int j] ρ1)) (h : -(2 ^ 62) ≤ i ∧ i < 2 ^ 62 ∧ -(2 ^ 62) ≤ j ∧ j < 2 ^ 62) : PI X tg (.Call (.Name "range" p) [e, e2] [] pos) (tI (cn X S) mk w ρ (rngD i j) ρ1) :=
  piImp (pi_range2 hg hm ha (by rw [star_cons hs, star_one hs2]) (star_one hs2)) fun σ H R ⟨Fb, Rl, q⟩ => ⟨Fb, Rl, fun vs H1 s rv => ⟨i, j, RDs.ints (ns := [i, j]) rv, h, q _ H1 [] [] s .nil walk_rng⟩⟩
theorem i_enumL (hg : Gl X "enumerate") (hm : X.mg "enumerate" = none) (hs : isStar e = false) (ha : PA X [e] (tAs (cn X S) mk ρ [.list ds] ρ1)) : PI X (.Tuple elts kk tpos) (.Call (.Name "enumerate" p) [e] [] pos) (tI (cn X S) mk true ρ (enumD 0 ds) ρ1) :=
  piImp (pi_enum hg hm ha (star_one hs)) fun σ H R ⟨Fb, Rl, q⟩ => ⟨Fb, Rl, fun vs H1 s rv => by
    cases rv with
    | cons r1 r2 =>
      cases r2
      cases r1 with
      | lst h1 h2 h3 => exact ⟨_, _, rfl, .inl (.inl h1), q _ H1 _ _ s (.cons (.lst h1 h2 h3) .nil) walk_enumL⟩⟩
theorem i_enumT (hg : Gl X "enumerate") (hm : X.mg "enumerate" = none) (hs : isStar e = false) (ha : PA X [e] (tAs (cn X S) mk ρ [.tuple ds] ρ1)) : PI X (.Tuple elts kk tpos) (.Call (.Name "enumerate" p) [e] [] pos) (tI (cn X S) mk true ρ (enumD 0 ds) ρ1) := by
  refine ⟨fun pins s σ H R I ⟨Fb, Rl, q⟩ => ?_⟩
  refine Call_ (ld_blt I hg hm boot_enumerate (PyProof.Rows.callWith_type1 (thn (ha.run pos pins s σ H (fun vs H1 => Step (cn X S) mk Fb ρ ρ1 σ H H1 ∧ RDs X.K H1 (bad Fb ρ1 σ) vs [.tuple ds]) I ⟨Fb, Rl, fun vs H1 s r => ⟨s, r⟩⟩) fun us s1 ⟨vs, H1, I1, r1, st, rd⟩ => ?_) (star_one hs) rfl))
  cases rd with
  | cons rd rd2 =>
    cases rd2
    cases rd with
    | tup h1 h3 =>
      cases r1 with
      | cons ra rr =>
        cases rr
        cases ra
        obtain ⟨its, rv, tp, _⟩ := I1.tuple h1.sq
        refine call_enumT (show s1.heap.IsTuple _ its.toArray from tp) fun h' he hit hsz hk => wpAny_pyIter_enum he ?_
        have I2 : Inv X pins σ H1 { s1 with heap := h' } := I1.kept (t' := s1.toks) hk
        refine ⟨s1.heap.objs.size + 1, [s1.heap.objs.size + 1, s1.heap.objs.size], _, _, H1, rfl, I2, turn_enumT _ (s1.heap.objs.size + 1) s1.heap.objs.size, ⟨⟨_, he⟩, hit, Nat.succ_ne_self _⟩, fun b hb => ?_, q _ H1 _ _ st (.cons (.tup h1 h3) .nil) walk_enumT⟩
        have lb : s1.heap.objs.size ≤ b := by
          rcases List.mem_cons.mp hb with z | hb
          · rw [z]; exact Nat.le_succ _
          · rw [List.mem_singleton.mp hb]; exact Nat.le_refl _
        exact I1.fpOk lb (I1.hok.fresh lb)
theorem i_zipL (hg : Gl X "zip") (hm : X.mg "zip" = none) (hs : isStar e = false) (hs2 : isStar e2 = false) (ha : PA X [e, e2] (tAs (cn X S) mk ρ [.list ds, .list es] ρ1)) :
    PI X (.Tuple elts kk tpos) (.Call (.Name "zip" p) [e, e2] [] pos) (tI (cn X S) mk true ρ (List.zipWith (fun u v => .tuple [u, v]) ds es) ρ1) :=
  piImp (RZ.pi_zipA hg hm ha (star_cons hs) (star_any (by simp [noStar, hs2]))) fun σ H R ⟨Fb, Rl, q⟩ => ⟨Fb, Rl, fun vs H1 s rv => by
    cases rv with
    | cons r1 r2 =>
      cases r2 with
      | cons r2 r3 =>
        cases r3
        cases r1 with
        | lst h1 h2 h3 =>
          cases r2 with
          | lst g1 g2 g3 => exact ⟨_, _, _, _, rfl, .inl ⟨.inl (.inl h1), .inl (.inl g1), q _ H1 _ _ s (.cons (.lst h1 h2 h3) (.cons (.lst g1 g2 g3) .nil)) walk_zipL⟩⟩⟩
theorem i_zipT (hg : Gl X "zip") (hm : X.mg "zip" = none) (hs : isStar e = false) (hs2 : isStar e2 = false) (ha : PA X [e, e2] (tAs (cn X S) mk ρ [.tuple ds, .tuple es] ρ1)) :
    PI X (.Tuple elts kk tpos) (.Call (.Name "zip" p) [e, e2] [] pos) (tI (cn X S) mk true ρ (List.zipWith (fun u v => .tuple [u, v]) ds es) ρ1) :=
  piImp (RZ.pi_zipA hg hm ha (star_cons hs) (star_any (by simp [noStar, hs2]))) fun σ H R ⟨Fb, Rl, q⟩ => ⟨Fb, Rl, fun vs H1 s rv => by
    cases rv with
    | cons r1 r2 =>
      cases r2 with
      | cons r2 r3 =>
        cases r3
        cases r1 with
        | tup h1 h3 =>
          cases r2 with
          | tup g1 g3 => exact ⟨_, _, _, _, rfl, .inr ⟨h1.sq, g1.sq, q _ H1 _ _ s (.cons (.tup h1 h3) (.cons (.tup g1 g3) .nil)) walk_zipT⟩⟩⟩
end
end Ev
set_option Elab.async false
set_option linter.all false
set_option maxRecDepth 100000
namespace Ev
open PySem PySem.Spec PyProof.Rows L2
/-! ### zip over a list and a tuple, in any mix -/
/-- a list (true) or a tuple (false) -/
def KiQ (κ : Bool) (K : PySem.W.Frag) (H : Hp) (a : Addr) (xs : List V) : Prop := match κ with
  | true => SqL K H a xs
  | false => SqT K H a xs
def KiS (κ : Bool) (h : Heap) (a : Addr) (vs : Array Value) : Prop := match κ with
  | true => h.IsList a vs
  | false => h.IsTuple a vs
def KiI (κ : Bool) (h : Heap) (i a : Addr) (k : Nat) : Prop := match κ with
  | true => h.IsListIter i a k
  | false => h.IsTupleIter i a k
theorem KiI.keep {κ : Bool} {h h' : Heap} {i a : Addr} {k : Nat} (x : KiI κ h i a k) (hk : ∀ o, h.get? i = some o → h'.get? i = some o) : KiI κ h' i a k := by
  cases κ
  · exact Heap.IsTupleIter.at x hk
  · exact Heap.IsListIter.at x hk
theorem KiI.obj {κ : Bool} {h : Heap} {i a : Addr} {k : Nat} (x : KiI κ h i a k) : ∃ o, h.get? i = some o ∧ ∀ v, o.data ≠ .cell v := by
  cases κ
  · obtain ⟨o, e, _, d⟩ := x
    exact ⟨o, e, fun v q => by rw [d] at q; cases q⟩
  · obtain ⟨o, e, _, d⟩ := x
    exact ⟨o, e, fun v q => by rw [d] at q; cases q⟩
theorem KiQ.heap {κ : Bool} {X : Cx} {pins : List (Addr × Obj)} {σ : L2.St} {H : Hp} {s : Shared} (I : Inv X pins σ H s) {a : Addr} {xs : List V} (q : KiQ κ X.K H a xs) : ∃ its, Vals xs its ∧ KiS κ s.heap a its.toArray ∧ a < s.heap.objs.size := by
  cases κ
  · obtain ⟨its, rv, p, _⟩ := I.tuple q
    obtain ⟨o, ho, _⟩ := id p
    exact ⟨its, rv, p, Heap.lt_size ho⟩
  · obtain ⟨its, rv, p, _⟩ := I.list q
    exact ⟨its, rv, p.isList, p.lt⟩
theorem KiQ.inj {κ : Bool} {X : Cx} {pins : List (Addr × Obj)} {σ : L2.St} {H : Hp} {s : Shared} (I : Inv X pins σ H s) {a : Addr} {xs ys : List V} (q : KiQ κ X.K H a xs) (q' : KiQ κ X.K H a ys) : xs = ys := by
  cases κ
  · exact I.tuple_inj q q'
  · exact I.list_inj q q'
/-- what such an iterator draws from a turn on -/
theorem ki_draws {prog : Program} {w : World} {A : Around} (hh : A.handled = none) (κ : Bool) (it l : Addr) (hne : l ≠ it) (vs : Array Value) (i : Nat) :
    ∃ (n : Nat) (St : Nat → Heap → Prop), Draws prog w A it [it, l] n (fun i v => vs[i]? = some v) St ∧ (∀ h, KiI κ h it l i → KiS κ h l vs → St i h) ∧ i ≤ n ∧ (vs.size ≤ i → i = n) ∧ (i < vs.size → i < n) ∧ (i < vs.size → ∀ h, St (i + 1) h → KiI κ h it l (i + 1)) := by
  by_cases hi : i ≤ vs.size
  · cases κ
    · exact ⟨vs.size, _, Draws.tuple hh it l hne vs, fun h a b => ⟨a, b⟩, hi, fun h => by omega, fun h => h, fun _ h st => st.1⟩
    · exact ⟨vs.size, _, Draws.list hh it l hne vs, fun h a b => ⟨a, b⟩, hi, fun h => by omega, fun h => h, fun _ h st => st.1⟩
  · have hn : vs[i]? = none := by simp; omega
    refine ⟨i, fun j h => j = i ∧ KiI κ h it l i ∧ KiS κ h l vs, ⟨fun j h st => ?_, fun j h h' st hk => ?_, fun j s Q E hj st => by omega, fun s Q E st hE => ?_⟩, fun h a b => ⟨rfl, a, b⟩, Nat.le_refl _, fun _ => rfl, fun h => by omega, fun h => by omega⟩
    · obtain ⟨o, ho, _⟩ := st.2.1.obj
      exact ⟨o, ho⟩
    · refine ⟨st.1, st.2.1.keep fun o e => hk it (by simp) o e, ?_⟩
      have z := st.2.2
      cases κ
      · exact Heap.IsTuple.at z fun o e => hk l (by simp) o e
      · exact Heap.IsList.at z fun o e => hk l (by simp) o e
    · obtain ⟨_, h1, h2⟩ := st
      cases κ
      · exact wpAny_nextOf_tuple_end hh h1 h2 hn hE
      · exact wpAny_nextOf_list_end hh h1 h2 hn hE
/-- a sequence of each kind at a and at b as they stand at each turn, the items in new pairs -/
def ItzM (κ κ' : Bool) (K : PySem.W.Frag) (a b : Addr) : L2.It :=
  ⟨fun i H => ∃ (xs ys : List V) (x y : V), KiQ κ K H a xs ∧ KiQ κ' K H b ys ∧ xs[i]? = some x ∧ ys[i]? = some y,
    fun i H v H' => ∃ T x y, v = .ref T ∧ H T = none ∧ H' = upd H T (.tup [x, y]) ∧ (∀ xs, KiQ κ K H a xs → xs[i]? = some x) ∧ ∀ ys, KiQ κ' K H b ys → ys[i]? = some y,
    fun i H => ∃ xs ys : List V, KiQ κ K H a xs ∧ KiQ κ' K H b ys ∧ (xs.length ≤ i ∨ ys.length ≤ i)⟩
theorem sep_of {z TI TO i1 i2 a b : Addr} (D : ZipApart z TI TO i1 i2 a b) : ZipSep2 z TI TO i1 i2 [i1, a] [i2, b] where
  TIz := D.TIz
  TOz := D.TOz
  TITO := D.TITO
  TIi1 := D.TIi1
  mem1 := by simp
  zf1 := by simp; exact ⟨D.i1z.symm, D.l1z.symm⟩
  Tf1 := by simp; exact ⟨D.TOi1, D.l1TO.symm⟩
  TIi2 := D.TIi2
  mem2 := by simp
  zf2 := by simp; exact ⟨D.i2z.symm, D.l2z.symm⟩
  Tf2 := by simp; exact ⟨D.TOi2, D.l2TO.symm⟩
  sep1_2 := by simp; exact ⟨D.i12, D.l2i1.symm⟩
  sep2_1 := by simp; exact ⟨D.i12.symm, D.l1i2.symm⟩
theorem turn_zipM {κ κ' : Bool} {P : Program} {w : World} {K : PySem.W.Frag} {elts : List Expr} {kk : Nat} {tpos : Pos} {a b z TI TO i1 i2 : Addr} (D : ZipApart z TI TO i1 i2 a b) :
    Turn P w K (.Tuple elts kk tpos) (ItzM κ κ' K a b) [z, TI, TO, i1, i2] z (fun i h => IsZip h z TI TO .none ∧ IsPair h TI (.ref i1) (.ref i2) ∧ (∃ x y, IsPair h TO x y) ∧ KiI κ h i1 a i ∧ KiI κ' h i2 b i) := by
  have five : ∀ c, c ∈ [z, TI, TO, i1, i2] → c = z ∨ c = TI ∨ c = TO ∨ c = i1 ∨ c = i2 := fun c hc => by simpa using hc
  refine ⟨by simp, fun i h st c hc => ?_, fun i h h' st k => ?_, ?_, ?_, fun A i s Q E st h => wpAny_pyIter_zip st.1 h⟩
  · obtain ⟨hz, hI, ⟨x, y, hO⟩, g1, g2⟩ := st
    rcases five c hc with rfl | rfl | rfl | rfl | rfl
    · exact ⟨_, hz, fun v q => nomatch q⟩
    · exact ⟨_, hI, fun v q => nomatch q⟩
    · exact ⟨_, hO, fun v q => nomatch q⟩
    · exact g1.obj
    · exact g2.obj
  · obtain ⟨hz, hI, ⟨x, y, hO⟩, g1, g2⟩ := st
    exact ⟨k z (by simp) _ hz, k TI (by simp) _ hI, ⟨x, y, k TO (by simp) _ hO⟩, g1.keep fun o e => k i1 (by simp) o e, g2.keep fun o e => k i2 (by simp) o e⟩
  · intro X hP hw hK hc i pins s σ H E I hf st hg
    subst hP hw hK
    obtain ⟨hz, hI, ⟨x0, y0, hO⟩, g1, g2⟩ := st
    obtain ⟨xs, ys, x, y, qx, qy, hx, hy⟩ := hg
    obtain ⟨v1, rv1, p1, _⟩ := KiQ.heap I qx
    obtain ⟨v2, rv2, p2, _⟩ := KiQ.heap I qy
    have hh : X.A.in1.handled = none := I.ok.hd hc
    obtain ⟨n1, S1, D1, b1, c1, d1, e1, f1⟩ := ki_draws (prog := X.prog) (w := X.w) hh κ i1 a D.l1i1 v1.toArray i
    obtain ⟨n2, S2, D2, b2, c2, d2, e2, f2⟩ := ki_draws (prog := X.prog) (w := X.w) hh κ' i2 b D.l2i2 v2.toArray i
    have l1 : i < v1.toArray.size := by
      have q1 := rv1.length
      have q2 := (List.getElem?_eq_some_iff.mp hx).1
      simp; omega
    have l2 : i < v2.toArray.size := by
      have q1 := rv2.length
      have q2 := (List.getElem?_eq_some_iff.mp hy).1
      simp; omega
    have zlt : z < s.heap.objs.size := Heap.lt_size hz
    refine wpAny_pyNext_zipD2_item (sep_of D) D1 D2 hz hI hO (b1 _ g1 p1) (b2 _ g2 p2) (e1 l1) (e2 l2) fun u1 u2 h' tk hu1 hu2 z' O' t1 t2 hT hsz hk => ?_
    refine ⟨_, rfl, wpAny_letOwnedTupleGo_zip (s := { s with heap := h', toks := tk }) z' fun h'' z'' sb => ?_⟩
    obtain ⟨w1, hw1, rw1⟩ := rv1.get hx
    obtain ⟨w2, hw2, rw2⟩ := rv2.get hy
    have eu1 : u1 = w1 := by
      have q : v1[i]? = some u1 := by simpa using hu1
      rw [hw1] at q
      exact (Option.some.inj q).symm
    have eu2 : u2 = w2 := by
      have q : v2[i]? = some u2 := by simpa using hu2
      rw [hw2] at q
      exact (Option.some.inj q).symm
    subst eu1 eu2
    have hT2 := (sb.2 _ (Nat.ne_of_gt zlt)).trans hT
    have nw : ObjOk X.prog X.w (upd H s.heap.objs.size (.tup [x, y])) h'' s.heap.objs.size (.tup [x, y]) :=
      ⟨by show 2 ≤ sizeLine; decide, [u1, u2], .cons rw1 (.cons rw2 .nil), ⟨_, hT2, rfl, _, rfl⟩⟩
    have I1 : Inv X pins σ (upd H s.heap.objs.size (.tup [x, y])) { s with heap := h'', toks := tk } :=
      I.turnedNew (t' := tk) (ch := [z, TI, TO, i1, i2]) (fun c o hb q => (sb.2 c (fun j => hb (by simp [j]))).trans (hk c o (fun j => hb (by simp [j])) (fun j => hb (by simp [j])) (fun j => hb (by simp [j])) (fun j => hb (by simp [j])) q)) hf (Nat.le_refl _) nw
    refine ⟨.ref s.heap.objs.size, _, I1, rfl, ⟨_, x, y, rfl, I.hok.fresh (Nat.le_refl _), rfl, fun l hl => by rw [KiQ.inj I hl qx]; exact hx, fun l hl => by rw [KiQ.inj I hl qy]; exact hy⟩, ⟨z'', ?_, ⟨u1, u2, ?_⟩, ?_, ?_⟩, fun c hcm => ?_⟩
    · exact (sb.2 _ D.TIz).trans (hk _ _ D.TIz D.TITO D.TIi1 D.TIi2 hI)
    · exact (sb.2 _ D.TOz).trans O'
    · exact (f1 l1 _ t1).keep fun o q => (sb.2 _ D.i1z).trans q
    · exact (f2 l2 _ t2).keep fun o q => (sb.2 _ D.i2z).trans q
    · have lt : c < s.heap.objs.size := by
        rcases five c hcm with rfl | rfl | rfl | rfl | rfl
        · exact zlt
        · exact Heap.lt_size hI
        · exact Heap.lt_size hO
        · obtain ⟨o, ho, _⟩ := g1.obj
          exact Heap.lt_size ho
        · obtain ⟨o, ho, _⟩ := g2.obj
          exact Heap.lt_size ho
      rw [upd_ne (Nat.ne_of_lt lt)]
      exact (hf c hcm).1
  · intro X hP hw hK hc i pins s σ H E I hf st hg
    subst hP hw hK
    obtain ⟨hz, hI, ⟨x0, y0, hO⟩, g1, g2⟩ := st
    obtain ⟨xs, ys, qx, qy, hend⟩ := hg
    obtain ⟨v1, rv1, p1, _⟩ := KiQ.heap I qx
    obtain ⟨v2, rv2, p2, _⟩ := KiQ.heap I qy
    have hh : X.A.in1.handled = none := I.ok.hd hc
    obtain ⟨n1, S1, D1, b1, c1, d1, e1, f1⟩ := ki_draws (prog := X.prog) (w := X.w) hh κ i1 a D.l1i1 v1.toArray i
    obtain ⟨n2, S2, D2, b2, c2, d2, e2, f2⟩ := ki_draws (prog := X.prog) (w := X.w) hh κ' i2 b D.l2i2 v2.toArray i
    have q1 := rv1.length
    have q2 := rv2.length
    have he : i = n1 ∨ i = n2 := by
      rcases hend with q | q
      · exact .inl (d1 (by simp; omega))
      · exact .inr (d2 (by simp; omega))
    exact wpAny_pyNext_zipD2_end (sep_of D) D1 D2 hz hI hO (b1 _ g1 p1) (b2 _ g2 p2) c1 c2 he fun h' tk hk => ⟨rfl, I.turnedL (t' := tk) (ch := [z, TI, TO, i1, i2]) (fun c o hb q =>
      hk c o (fun j => hb (by simp [j])) (fun j => hb (by simp [j])) (fun j => hb (by simp [j])) (fun j => hb (by simp [j])) q) hf⟩
theorem walk_zipLT {K : PySem.W.Frag} {a b : Addr} {ds es : List D} : WalkD K true (ItzM true false K a b) [.ref a, .ref b] [.list ds, .tuple es] (List.zipWith (fun u v => .tuple [u, v]) ds es) := fun H B r i => by
  cases r with
  | cons r1 r =>
    cases r with
    | cons r2 _ =>
      cases r1 with
      | lst h1 h2 h3 =>
        cases r2 with
        | tup g1 g3 =>
          have qa : KiQ true K H a _ := .inl (.inl h1)
          have qb : KiQ false K H b _ := g1.sq
          refine ⟨fun d hd => ?_, fun hl => ⟨_, _, qa, qb, by rw [h3.length, g3.length]; exact zip_end hl⟩⟩
          obtain ⟨x, y, e1, e2, rfl⟩ := zip_get hd
          obtain ⟨v1, f1, f2⟩ := h3.getD e1
          obtain ⟨v2, f3, f4⟩ := g3.getD e2
          refine ⟨⟨_, _, v1, v2, qa, qb, f1, f3⟩, fun u H' ⟨T, x', y', e3, e4, e5, e6, e7⟩ => ?_⟩
          subst e3 e5
          have z1 := e6 _ qa
          rw [f1] at z1
          cases z1
          have z2 := e7 _ qb
          rw [f3] at z2
          cases z2
          exact pair_w e4 f2 f4
theorem walk_zipTL {K : PySem.W.Frag} {a b : Addr} {ds es : List D} : WalkD K true (ItzM false true K a b) [.ref a, .ref b] [.tuple ds, .list es] (List.zipWith (fun u v => .tuple [u, v]) ds es) := fun H B r i => by
  cases r with
  | cons r1 r =>
    cases r with
    | cons r2 _ =>
      cases r1 with
      | tup h1 h3 =>
        cases r2 with
        | lst g1 g2 g3 =>
          have qa : KiQ false K H a _ := h1.sq
          have qb : KiQ true K H b _ := .inl (.inl g1)
          refine ⟨fun d hd => ?_, fun hl => ⟨_, _, qa, qb, by rw [h3.length, g3.length]; exact zip_end hl⟩⟩
          obtain ⟨x, y, e1, e2, rfl⟩ := zip_get hd
          obtain ⟨v1, f1, f2⟩ := h3.getD e1
          obtain ⟨v2, f3, f4⟩ := g3.getD e2
          refine ⟨⟨_, _, v1, v2, qa, qb, f1, f3⟩, fun u H' ⟨T, x', y', e3, e4, e5, e6, e7⟩ => ?_⟩
          subst e3 e5
          have z1 := e6 _ qa
          rw [f1] at z1
          cases z1
          have z2 := e7 _ qb
          rw [f3] at z2
          cases z2
          exact pair_w e4 f2 f4
def iZipM (κ κ' : Bool) (K : PySem.W.Frag) (ta : TA) : TI := fun σ H R => ta σ H fun vs H1 => ∃ a b xs ys, vs = [.ref a, .ref b] ∧ KiQ κ K H1 a xs ∧ KiQ κ' K H1 b ys ∧ R (ItzM κ κ' K a b) H1
def kiO (κ : Bool) (a : Addr) : Obj := { cls := .type (if κ then "list_iterator" else "tuple_iterator"), data := .fields #[.ref a, .int 0 0] }
theorem ki_begins (κ : Bool) (a : Addr) (vs : Array Value) : Begins (.ref a) (kiO κ a) fun h => KiS κ h a vs := by
  cases κ
  · exact begins_tuple a vs
  · exact begins_list a vs
theorem ki_at {κ : Bool} {h : Heap} {i a : Addr} (e : h.get? i = some (kiO κ a)) : KiI κ h i a 0 := by
  cases κ
  · exact ⟨_, e, rfl, rfl⟩
  · exact ⟨_, e, rfl, rfl⟩
theorem pi_zipM {κ κ' : Bool} {X : Cx} {e e2 : Expr} {ta : TA} {p pos tpos : Pos} {elts : List Expr} {kk : Nat} (hg : Gl X "zip") (hm : X.mg "zip" = none) (ha : PA X [e, e2] ta)
    (hs : starEach [e, e2] X.env = (false, eval e X.env) :: starEach [e2] X.env) (hpl : (backTo pos (starEach [e2] X.env)).any (·.1) = false) :
    PI X (.Tuple elts kk tpos) (.Call (.Name "zip" p) [e, e2] [] pos) (iZipM κ κ' X.K ta) := by
  refine ⟨fun pins s σ H R I h => ?_⟩
  refine Call_ (ld_blt I hg hm PyProof.Rows.boot_zip (PyProof.Rows.callWith_type1 (thn (ha.run pos pins s σ H _ I h) fun us s1 ⟨vs, H1, I1, r1, q1⟩ => ?_) hs hpl))
  obtain ⟨a, b, xs, ys, ex, qx, qy, q⟩ := q1
  subst ex
  cases r1 with
  | cons r rr =>
    cases rr with
    | cons r' rr =>
      cases rr
      cases r
      cases r'
      obtain ⟨v1, rv1, p1, l1⟩ := KiQ.heap I1 qx
      obtain ⟨v2, rv2, p2, l2⟩ := KiQ.heap I1 qy
      refine zip_begins2 (ki_begins κ a v1.toArray) (ki_begins κ' b v2.toArray) p1 p2 fun h' hz hI hO g1 g2 hsz hk => wpAny_pyIter_zip hz ?_
      have I2 : Inv X pins σ H1 { s1 with heap := h' } := I1.kept (t' := s1.toks) hk
      refine ⟨s1.heap.objs.size + 4, [s1.heap.objs.size + 4, s1.heap.objs.size + 2, s1.heap.objs.size + 3, s1.heap.objs.size, s1.heap.objs.size + 1], _, _, H1, rfl, I2, turn_zipM (PySem.W.ktu_apart s1.heap.objs.size a b l1 l2), ⟨hz, hI, ⟨_, _, hO⟩, ki_at g1, ki_at g2⟩, fun c hc => ?_, q⟩
      have hle : s1.heap.objs.size ≤ c := by
        simp only [List.mem_cons, List.not_mem_nil, or_false] at hc
        rcases hc with rfl | rfl | rfl | rfl | rfl
        · exact Nat.le_add_right _ _
        · exact Nat.le_add_right _ _
        · exact Nat.le_add_right _ _
        · exact Nat.le_refl _
        · exact Nat.le_add_right _ _
      exact I1.fpOk hle (I1.hok.fresh hle)
section
variable {X : Cx} {S : Sx} {mk : Mkd} {ρ ρ1 : Env} {e e2 : Expr} {ds es : List D} {elts : List Expr} {kk : Nat} {p pos tpos : Pos}
theorem i_zipLT (hg : Gl X "zip") (hm : X.mg "zip" = none) (hs : isStar e = false) (hs2 : isStar e2 = false) (ha : PA X [e, e2] (tAs (cn X S) mk ρ [.list ds, .tuple es] ρ1)) :
    PI X (.Tuple elts kk tpos) (.Call (.Name "zip" p) [e, e2] [] pos) (tI (cn X S) mk true ρ (List.zipWith (fun u v => .tuple [u, v]) ds es) ρ1) :=
  piImp (pi_zipM (κ := true) (κ' := false) hg hm ha (star_cons hs) (star_any (by simp [noStar, hs2]))) fun σ H R ⟨Fb, Rl, q⟩ => ⟨Fb, Rl, fun vs H1 s rv => by
    cases rv with
    | cons r1 r2 =>
      cases r2 with
      | cons r2 r3 =>
        cases r3
        cases r1 with
        | lst h1 h2 h3 =>
          cases r2 with
          | tup g1 g3 => exact ⟨_, _, _, _, rfl, .inl (.inl h1), g1.sq, q _ H1 _ _ s (.cons (.lst h1 h2 h3) (.cons (.tup g1 g3) .nil)) walk_zipLT⟩⟩
theorem i_zipTL (hg : Gl X "zip") (hm : X.mg "zip" = none) (hs : isStar e = false) (hs2 : isStar e2 = false) (ha : PA X [e, e2] (tAs (cn X S) mk ρ [.tuple ds, .list es] ρ1)) :
    PI X (.Tuple elts kk tpos) (.Call (.Name "zip" p) [e, e2] [] pos) (tI (cn X S) mk true ρ (List.zipWith (fun u v => .tuple [u, v]) ds es) ρ1) :=
  piImp (pi_zipM (κ := false) (κ' := true) hg hm ha (star_cons hs) (star_any (by simp [noStar, hs2]))) fun σ H R ⟨Fb, Rl, q⟩ => ⟨Fb, Rl, fun vs H1 s rv => by
    cases rv with
    | cons r1 r2 =>
      cases r2 with
      | cons r2 r3 =>
        cases r3
        cases r1 with
        | tup h1 h3 =>
          cases r2 with
          | lst g1 g2 g3 => exact ⟨_, _, _, _, rfl, h1.sq, .inl (.inl g1), q _ H1 _ _ s (.cons (.tup h1 h3) (.cons (.lst g1 g2 g3) .nil)) walk_zipTL⟩⟩
end
end Ev
set_option Elab.async false
set_option linter.all false
set_option maxRecDepth 100000
set_option maxHeartbeats 1000000
namespace Ev
open PySem PySem.Spec PyProof.Rows L2
/-! ### a comprehension's block -/
theorem wipeE_len {ρ : Env} : ∀ {vs : List Nat}, (wipeE ρ vs).length = ρ.length
  | [] => rfl
  | v :: vs => by unfold wipeE; rw [List.length_set, wipeE_len]
theorem wipeE_out {ρ : Env} {j : Nat} : ∀ {vs : List Nat}, j ∉ vs → (wipeE ρ vs)[j]? = ρ[j]?
  | [], _ => rfl
  | v :: vs, h => by
    unfold wipeE
    rw [List.getElem?_set_ne fun z => h (by simp [z]), wipeE_out fun z => h (List.mem_cons_of_mem _ z)]
theorem wipeE_in {ρ : Env} {j : Nat} {s : SV} : ∀ {vs : List Nat}, j ∈ vs → (wipeE ρ vs)[j]? ≠ some (some s)
  | v :: vs, h => by
    unfold wipeE
    by_cases hv : v = j
    · subst hv
      rw [List.getElem?_set]
      split
      · split
        · exact fun z => nomatch z
        · exact fun z => nomatch z
      · rename_i q; exact absurd rfl q
    · rw [List.getElem?_set_ne hv]
      exact wipeE_in ((List.mem_cons.mp h).resolve_left (Ne.symm hv))
theorem wipe_out' {σ : L2.St} {j : Nat} : ∀ {vs : List Nat}, j ∉ vs → (wipe σ vs)[j]? = σ[j]?
  | [], _ => rfl
  | v :: vs, h => by
    unfold wipe
    rw [List.getElem?_set_ne fun z => h (by simp [z]), wipe_out' fun z => h (List.mem_cons_of_mem _ z)]
theorem restE_len {ρ ρ' : Env} : ∀ {vs : List Nat}, (restE ρ ρ' vs).length = ρ'.length
  | [] => rfl
  | v :: vs => by unfold restE; rw [List.length_set, restE_len]
theorem restE_out {ρ ρ' : Env} {j : Nat} : ∀ {vs : List Nat}, j ∉ vs → (restE ρ ρ' vs)[j]? = ρ'[j]?
  | [], _ => rfl
  | v :: vs, h => by
    unfold restE
    rw [List.getElem?_set_ne fun z => h (by simp [z]), restE_out fun z => h (List.mem_cons_of_mem _ z)]
theorem restE_in {ρ ρ' : Env} {j : Nat} (hl : ρ'.length = ρ.length) : ∀ {vs : List Nat}, j ∈ vs → (restE ρ ρ' vs)[j]? = ρ[j]?
  | v :: vs, h => by
    unfold restE
    by_cases hv : v = j
    · subst hv
      by_cases hj : v < ρ.length
      · rw [List.getElem?_set_self (by rw [restE_len, hl]; exact hj), List.getD_eq_getElem?_getD, List.getElem?_eq_getElem hj]
        rfl
      · rw [List.getElem?_eq_none (by rw [List.length_set, restE_len, hl]; omega), List.getElem?_eq_none (by omega)]
    · rw [List.getElem?_set_ne hv]
      exact restE_in hl ((List.mem_cons.mp h).resolve_left (Ne.symm hv))
theorem wipe_eq {σ σ' : L2.St} {vs : List Nat} (hl : σ'.length = σ.length) (h : ∀ j, j ∉ vs → σ'[j]? = σ[j]?) : wipe σ' vs = wipe σ vs := by
  have key : ∀ (us : List Nat) (τ : L2.St) (j : Nat), j ∈ us → (wipe τ us)[j]? = if j < τ.length then some none else none := by
    intro us
    induction us with
    | nil => intro τ j hj; cases hj
    | cons u us ih =>
      intro τ j hj
      unfold wipe
      by_cases hu : u = j
      · subst hu
        rw [List.getElem?_set, if_pos rfl, wipe_length]
      · rw [List.getElem?_set_ne hu]
        exact ih τ j ((List.mem_cons.mp hj).resolve_left (Ne.symm hu))
  refine List.ext_getElem? fun j => ?_
  by_cases hj : j ∈ vs
  · rw [key vs σ' j hj, key vs σ j hj, hl]
  · rw [wipe_out' hj, wipe_out' hj, h j hj]
/-- what a block must not reach -/
def FbB (Fb : Addr → Prop) (ρ : Env) (σ : L2.St) (vs : List Nat) (a : Addr) : Prop := bad Fb ρ σ a ∧ ¬ mutA (wipeE ρ vs) (wipe σ vs) a
section
variable {C : Cn} {mk : Mkd} {Fb : Addr → Prop} {ρ ρ' ρ1 : Env} {σ σ' σ1 : L2.St} {H H' : Hp} {vs : List Nat}
theorem mutA_wipe {a : Addr} (h : mutA (wipeE ρ vs) (wipe σ vs) a) : ∃ (i : Nat) (ds : List D), i ∉ vs ∧ mutOf ρ[i]? = some ds ∧ σ[i]? = some (some (V.ref a)) := by
  obtain ⟨i, ds, e1, e2⟩ := h
  have hi : i ∉ vs := fun hi => by
    rcases mutOf_cases e1 with z | z <;> exact wipeE_in hi z
  rw [wipeE_out hi] at e1
  rw [wipe_out' hi] at e2
  exact ⟨i, ds, hi, e1, e2⟩
theorem mutA_unwipe {a : Addr} {i : Nat} {ds : List D} (hi : i ∉ vs) (e1 : mutOf ρ[i]? = some ds) (e2 : σ[i]? = some (some (V.ref a))) : mutA (wipeE ρ vs) (wipe σ vs) a := ⟨i, ds, by rw [wipeE_out hi]; exact e1, by rw [wipe_out' hi]; exact e2⟩
theorem badB (a : Addr) : bad (FbB Fb ρ σ vs) (wipeE ρ vs) (wipe σ vs) a ↔ bad Fb ρ σ a := by
  constructor
  · rintro (⟨h, _⟩ | m)
    · exact h
    · obtain ⟨i, ds, _, e1, e2⟩ := mutA_wipe m
      exact .inr ⟨i, ds, e1, e2⟩
  · intro h
    by_cases m : mutA (wipeE ρ vs) (wipe σ vs) a
    · exact .inr m
    · exact .inl ⟨h, m⟩
theorem mut_notFb (R : Rel C mk Fb ρ σ H) {a : Addr} (m : mutA ρ σ a) : ¬ Fb a := fun z => by
  obtain ⟨i, ds, e1, e2⟩ := m
  obtain ⟨b, xs, h1, h2, _⟩ := R.mt i ds e1
  rw [e2] at h1; cases h1
  exact h2 z
theorem blkIn (R : Rel C mk Fb ρ σ H) : Rel C mk (FbB Fb ρ σ vs) (wipeE ρ vs) (wipe σ vs) H := by
  have hb : ∀ a, bad (FbB Fb ρ σ vs) (wipeE ρ vs) (wipe σ vs) a → bad Fb ρ σ a ∨ H a = none := fun a z => .inl ((badB a).mp z)
  have un : ∀ {i : Nat} {s : SV}, (wipeE ρ vs)[i]? = some (some s) → i ∉ vs ∧ ρ[i]? = some (some s) := fun {i s} e => by
    have hi : i ∉ vs := fun hi => wipeE_in hi e
    exact ⟨hi, by rw [wipeE_out hi] at e; exact e⟩
  have unm : ∀ {i : Nat} {ds : List D}, mutOf (wipeE ρ vs)[i]? = some ds → i ∉ vs ∧ mutOf ρ[i]? = some ds := fun {i ds} e => by
    rcases mutOf_cases e with z | z <;> obtain ⟨h1, h2⟩ := un z <;> exact ⟨h1, by rw [h2]; rfl⟩
  refine ⟨by rw [wipeE_len, wipe_length]; exact R.len, fun a z q => ?_, fun i s e c => ?_, fun i ds e => ?_, fun i j a e1 e2 e3 e4 => ?_, fun i ns e => ?_, fun i e => ?_, R.tabs⟩
  · rcases z.1 with y | y
    · exact R.fb a y q
    · exact mutA_none R q y
  · obtain ⟨hi, e⟩ := un e
    obtain ⟨v, h1, h2⟩ := R.val i s e c
    exact ⟨v, by rw [wipe_out' hi]; exact h1, h2.bad hb⟩
  · obtain ⟨hi, e⟩ := unm e
    obtain ⟨a, xs, h1, h2, h3, h4⟩ := R.mt i ds e
    exact ⟨a, xs, by rw [wipe_out' hi]; exact h1, fun z => z.2 (mutA_unwipe hi e h1), h3, h4.bad hb⟩
  · cases m1 : mutOf (wipeE ρ vs)[i]? with
    | none => exact absurd m1 e1
    | some d1 =>
      cases m2 : mutOf (wipeE ρ vs)[j]? with
      | none => exact absurd m2 e2
      | some d2 =>
        obtain ⟨hi, g1⟩ := unm m1
        obtain ⟨hj, g2⟩ := unm m2
        rw [wipe_out' hi] at e3
        rw [wipe_out' hj] at e4
        exact R.inj i j a (by rw [g1]; exact fun z => nomatch z) (by rw [g2]; exact fun z => nomatch z) e3 e4
  · obtain ⟨hi, e⟩ := un e
    obtain ⟨a, h1, h2⟩ := R.ro i ns e
    exact ⟨a, by rw [wipe_out' hi]; exact h1, h2⟩
  · obtain ⟨hi, e⟩ := un e
    obtain ⟨v, h1, h2⟩ := R.mks i e
    exact ⟨v, by rw [wipe_out' hi]; exact h1, h2⟩
theorem blkOut (hm : MkOk mk) (R : Rel C mk Fb ρ σ H) (R1 : Rel C mk (FbB Fb ρ σ vs) ρ1 σ1 H') (k : Kp (mutA (wipeE ρ vs) (wipe σ vs)) H H') (sub : ∀ a, mutA ρ1 σ1 a → mutA (wipeE ρ vs) (wipe σ vs) a) (hl : σ1.length = σ.length) (ho : ∀ j, j ∉ vs → σ1[j]? = σ[j]?)
    (hp : ∀ (i : Nat) (ds : List D), (wipeE ρ vs)[i]? = some (some (.par ds)) → ∃ ds', ρ1[i]? = some (some (.par ds'))) : Step C mk Fb ρ (restE ρ ρ1 vs) σ H H' ∧ ∀ b, bad Fb (restE ρ ρ1 vs) σ b → bad (FbB Fb ρ σ vs) ρ1 σ1 b := by
  have hlen : ρ1.length = ρ.length := by rw [R1.len, hl, R.len]
  have mm : ∀ a, mutA (wipeE ρ vs) (wipe σ vs) a → mutA ρ σ a := fun a m => by
    obtain ⟨i, ds, _, e1, e2⟩ := mutA_wipe m
    exact ⟨i, ds, e1, e2⟩
  have cs : ∀ a, mutA (restE ρ ρ1 vs) σ a → (∃ (i : Nat) (ds : List D), i ∈ vs ∧ mutOf ρ[i]? = some ds ∧ σ[i]? = some (some (V.ref a))) ∨ mutA ρ1 σ1 a := fun a ⟨i, ds, e1, e2⟩ => by
    by_cases hi : i ∈ vs
    · rw [restE_in hlen hi] at e1
      exact .inl ⟨i, ds, hi, e1, e2⟩
    · rw [restE_out hi] at e1
      exact .inr ⟨i, ds, e1, by rw [ho i hi]; exact e2⟩
  have nw : ∀ (a : Addr) (i : Nat) (ds : List D), i ∈ vs → mutOf ρ[i]? = some ds → σ[i]? = some (some (V.ref a)) → ¬ mutA (wipeE ρ vs) (wipe σ vs) a := fun a i ds hi e1 e2 m => by
    obtain ⟨j, es, hj, f1, f2⟩ := mutA_wipe m
    have := R.inj i j a (by rw [e1]; exact fun z => nomatch z) (by rw [f1]; exact fun z => nomatch z) e2 f2
    subst this
    exact hj hi
  have sub2 : ∀ a, mutA (restE ρ ρ1 vs) σ a → mutA ρ σ a := fun a m => by
    rcases cs a m with ⟨i, ds, _, e1, e2⟩ | m
    · exact ⟨i, ds, e1, e2⟩
    · exact mm a (sub a m)
  have inc : ∀ b, bad Fb (restE ρ ρ1 vs) σ b → bad (FbB Fb ρ σ vs) ρ1 σ1 b := fun b z => by
    rcases z with z | m
    · exact .inl ⟨.inl z, fun m => mut_notFb R (mm b m) z⟩
    · rcases cs b m with ⟨i, ds, hi, e1, e2⟩ | m
      · exact .inl ⟨.inr ⟨i, ds, e1, e2⟩, nw b i ds hi e1 e2⟩
      · exact .inr m
  have hb : ∀ a, bad Fb (restE ρ ρ1 vs) σ a → bad Fb ρ σ a ∨ H a = none := fun a z => .inl (z.elim .inl fun m => .inr (sub2 a m))
  have kM := k.mono mm
  have at_ : ∀ {i : Nat} {o : Option SV}, i ∈ vs → (restE ρ ρ1 vs)[i]? = some o → ρ[i]? = some o := fun {i o} hi e => by rw [restE_in hlen hi] at e; exact e
  refine ⟨⟨⟨by rw [restE_len, R1.len, hl], fun a z q => R.fb a z (k.none a q), fun i s e c => ?_, fun i ds e => ?_, fun i j a e1 e2 e3 e4 => ?_, fun i ns e => ?_, fun i e => ?_, R1.tabs⟩, kM, sub2, fun i ds e => ?_⟩, inc⟩
  · by_cases hi : i ∈ vs
    · obtain ⟨v, h1, h2⟩ := R.val i s (at_ hi e) c
      have h3 : RS C (fun b => bad Fb ρ σ b) H' v s := h2.kp kM fun b z => .inr z
      exact ⟨v, h1, h3.bad fun a z => .inl (z.elim .inl fun m => .inr (sub2 a m))⟩
    · rw [restE_out hi] at e
      obtain ⟨v, h1, h2⟩ := R1.val i s e c
      exact ⟨v, by rw [← ho i hi]; exact h1, h2.bad fun a z => .inl (inc a z)⟩
  · by_cases hi : i ∈ vs
    · rw [restE_in hlen hi] at e
      obtain ⟨a, xs, h1, h2, h3, h4⟩ := R.mt i ds e
      have h5 : RDs C.K H' (bad Fb ρ σ) xs ds := h4.kp kM fun b z => .inr z
      exact ⟨a, xs, h1, h2, k.keep _ _ h3 (fun _ z => nomatch z) (fun z => absurd z (nw a i ds hi e h1)), h5.bad fun a z => .inl (z.elim .inl fun m => .inr (sub2 a m))⟩
    · rw [restE_out hi] at e
      obtain ⟨a, xs, h1, h2, h3, h4⟩ := R1.mt i ds e
      exact ⟨a, xs, by rw [← ho i hi]; exact h1, mut_notFb R (mm a (sub a ⟨i, ds, e, h1⟩)), h3, h4.bad fun a z => .inl (inc a z)⟩
  · cases m1 : mutOf (restE ρ ρ1 vs)[i]? with
    | none => exact absurd m1 e1
    | some d1 =>
      cases m2 : mutOf (restE ρ ρ1 vs)[j]? with
      | none => exact absurd m2 e2
      | some d2 =>
        by_cases hi : i ∈ vs <;> by_cases hj : j ∈ vs
        · rw [restE_in hlen hi] at m1
          rw [restE_in hlen hj] at m2
          exact R.inj i j a (by rw [m1]; exact fun z => nomatch z) (by rw [m2]; exact fun z => nomatch z) e3 e4
        · rw [restE_in hlen hi] at m1
          rw [restE_out hj] at m2
          exact absurd (sub a ⟨j, d2, m2, by rw [ho j hj]; exact e4⟩) (nw a i d1 hi m1 e3)
        · rw [restE_out hi] at m1
          rw [restE_in hlen hj] at m2
          exact absurd (sub a ⟨i, d1, m1, by rw [ho i hi]; exact e3⟩) (nw a j d2 hj m2 e4)
        · rw [restE_out hi] at m1
          rw [restE_out hj] at m2
          exact R1.inj i j a (by rw [m1]; exact fun z => nomatch z) (by rw [m2]; exact fun z => nomatch z) (by rw [ho i hi]; exact e3) (by rw [ho j hj]; exact e4)
  · by_cases hi : i ∈ vs
    · obtain ⟨a, h1, h2⟩ := R.ro i ns (at_ hi e)
      exact ⟨a, h1, h2.kp k⟩
    · rw [restE_out hi] at e
      obtain ⟨a, h1, h2⟩ := R1.ro i ns e
      exact ⟨a, by rw [← ho i hi]; exact h1, h2⟩
  · by_cases hi : i ∈ vs
    · obtain ⟨v, h1, h2⟩ := R.mks i (at_ hi e)
      exact ⟨v, h1, hm _ _ _ _ _ h2 k⟩
    · rw [restE_out hi] at e
      obtain ⟨v, h1, h2⟩ := R1.mks i e
      exact ⟨v, by rw [← ho i hi]; exact h1, h2⟩
  · by_cases hi : i ∈ vs
    · exact ⟨ds, by rw [restE_in hlen hi]; exact e⟩
    · obtain ⟨ds', e'⟩ := hp i ds (by rw [wipeE_out hi]; exact e)
      exact ⟨ds', by rw [restE_out hi]; exact e'⟩
/-- a list that nobody reaches is written -/
theorem Rel.wrote (hm : MkOk mk) (R : Rel C mk Fb ρ σ H) {p : Addr} {xs ys : List V} (hF : Fb p) (hH : H p = some (.lst xs)) : Rel C mk Fb ρ σ (upd H p (.lst ys)) := by
  have k : Kp (fun a => a = p) H (upd H p (.lst ys)) := .wrote hH rfl
  have hB : ∀ a, a = p → bad Fb ρ σ a := fun a z => .inl (by rw [z]; exact hF)
  refine ⟨R.len, fun a z q => R.fb a z (k.none a q), fun i s e c => ?_, fun i ds e => ?_, R.inj, fun i ns e => ?_, fun i e => ?_, tabs_wrote R.tabs hH⟩
  · obtain ⟨v, h1, h2⟩ := R.val i s e c
    exact ⟨v, h1, h2.kp k hB⟩
  · obtain ⟨a, zs, h1, h2, h3, h4⟩ := R.mt i ds e
    have ne : a ≠ p := fun z => h2 (by rw [z]; exact hF)
    exact ⟨a, zs, h1, h2, by rw [upd_ne ne]; exact h3, h4.kp k hB⟩
  · obtain ⟨a, h1, h2⟩ := R.ro i ns e
    exact ⟨a, h1, h2.kp k⟩
  · obtain ⟨v, h1, h2⟩ := R.mks i e
    exact ⟨v, h1, hm _ _ _ _ _ h2 k⟩
end
end Ev
set_option Elab.async false
set_option linter.all false
set_option maxRecDepth 100000
set_option maxHeartbeats 1000000
namespace Ev
open PySem PySem.Spec PyProof.Rows L2
theorem ptsImp {X : Cx} {e : List Expr} {t t' : TT} (h : PTs X e t) (i : ∀ σ H Q, t' σ H Q → t σ H Q) : PTs X e t' := ⟨fun pins s σ H Q I q => h.run pins s σ H Q I (i _ _ _ q)⟩
theorem pts_union {X : Cx} {e : List Expr} {α : Type} {t : α → TT} (h : ∀ a, PTs X e (t a)) : PTs X e (fun σ H Q => ∃ a, t a σ H Q) := ⟨fun pins s σ H Q I ⟨a, q⟩ => (h a).run pins s σ H Q I q⟩
section
variable {X : Cx} {S : Sx} {mk : Mkd} {ρ ρ1 ρ2 : Env} {e : Expr} {k : Bool}
theorem ts_nil : PTs X [] (tT (cn X S) mk ρ true ρ) := ptsImp pts_nil fun σ H Q ⟨Fb, R, q⟩ => q H (.refl R)
theorem ts_one (h : PT X e (tT (cn X S) mk ρ k ρ1)) : PTs X [e] (tT (cn X S) mk ρ k ρ1) := pts_one h
end
/-- what a comprehension does with an item -/
def lcF (bT : D → Env → Option Env) (fc : Env → Out Bool) (fe : Env → Out D) (d : D) (ρ : Env) : Out (Option D) := match bT d ρ with
  | some ρ => (fc ρ).bind fun b ρ => if b then (fe ρ).bind fun d ρ => .ok (some d) ρ else .ok none ρ
  | none => .bad
theorem lcF_ok {bT : D → Env → Option Env} {fc : Env → Out Bool} {fe : Env → Out D} {d : D} {ρ ρ' : Env} {o : Option D} (h : lcF bT fc fe d ρ = .ok o ρ') :
    ∃ ρb b ρc, bT d ρ = some ρb ∧ fc ρb = .ok b ρc ∧ ((b = false ∧ o = none ∧ ρ' = ρc) ∨ (b = true ∧ ∃ y, fe ρc = .ok y ρ' ∧ o = some y)) := by
  unfold lcF at h
  cases h1 : bT d ρ with
  | none => rw [h1] at h; cases h
  | some ρb =>
    rw [h1] at h
    replace h : ((fc ρb).bind fun b ρ => if b then (fe ρ).bind fun d ρ => .ok (some d) ρ else .ok none ρ) = .ok o ρ' := h
    cases h2 : fc ρb with
    | exc c x r => rw [h2] at h; cases h
    | bad => rw [h2] at h; cases h
    | ok b ρc =>
      rw [h2] at h
      replace h : (if b then (fe ρc).bind fun d ρ => .ok (some d) ρ else .ok none ρc) = Out.ok o ρ' := h
      refine ⟨ρb, b, ρc, rfl, h2, ?_⟩
      cases b with
      | false => cases h; exact .inl ⟨rfl, rfl, rfl⟩
      | true =>
        rw [if_pos rfl] at h
        cases h3 : fe ρc with
        | exc c x r => rw [h3] at h; cases h
        | bad => rw [h3] at h; cases h
        | ok y ρd =>
          rw [h3] at h
          cases h
          exact .inr ⟨rfl, y, rfl, rfl⟩
theorem lcLoop_cons {f : D → Env → Out (Option D)} {vs : List Nat} {d : D} {ds es : List D} {ρ ρ' : Env} (h : lcLoop f vs (d :: ds) ρ = .ok es ρ') :
    ∃ o ρ1 r, f d (wipeE ρ vs) = .ok o ρ1 ∧ lcLoop f vs ds (restE ρ ρ1 vs) = .ok r ρ' ∧ es = o.toList ++ r := by
  unfold lcLoop at h
  cases h1 : f d (wipeE ρ vs) with
  | exc c x r => rw [h1] at h; cases h
  | bad => rw [h1] at h; cases h
  | ok o ρ1 =>
    rw [h1] at h
    simp only [Out.bind] at h
    cases h2 : lcLoop f vs ds (restE ρ ρ1 vs) with
    | exc c x r => rw [h2] at h; cases h
    | bad => rw [h2] at h; cases h
    | ok r ρ2 => rw [h2] at h; cases h; exact ⟨o, ρ1, r, rfl, h2, rfl⟩
section
variable {X : Cx} {S : Sx} {mk : Mkd} {ρ ρ1 ρ2 : Env} {tg iter elt : Expr} {ifs : List Expr} {items ds : List D} {pos : Pos} {w : Bool} {scope : Scope} {own : List (Str × Nat)} {L : List Nat}
/-- the state between two turns: D holds what has come -/
structure LcN (C : Cn) (mk : Mkd) (Fb : Addr → Prop) (D : Addr) (ρ1 ρi : Env) (σ : L2.St) (H1 H' : Hp) (vs' : List V) (ds' pre : List PyData) : Prop where
  rel : Rel C mk (fun b => Fb b ∨ b = D) ρi σ H'
  kp : Kp (mutA ρ1 σ) H1 H'
  sub : ∀ a, mutA ρi σ a → mutA ρ1 σ a
  par : ∀ (i : Nat) (ds : List PyData), ρ1[i]? = some (some (.par ds)) → ∃ ds', ρi[i]? = some (some (.par ds'))
  acc : ∃ acc, H' D = some (.lst acc) ∧ RDs C.K H' (bad (fun b => Fb b ∨ b = D) ρi σ) acc pre
  src : RDs C.K H' (bad (fun b => Fb b ∨ b = D) ρi σ) vs' ds'
/-- a turn that gives nothing more than a step -/
theorem LcN.step {C : Cn} {Fb : Addr → Prop} {D : Addr} {ρi ρ' : Env} {σ : L2.St} {H1 H' H4 : Hp} {vs' : List V} {ds' pre : List PyData} (n : LcN C mk Fb D ρ1 ρi σ H1 H' vs' ds' pre) (s : Step C mk (fun b => Fb b ∨ b = D) ρi ρ' σ H' H4) : LcN C mk Fb D ρ1 ρ' σ H1 H4 vs' ds' pre := by
  obtain ⟨acc, a1, a2⟩ := n.acc
  refine ⟨s.rel, n.kp.trans s.kp fun a m => .inl (n.sub a m), fun a m => n.sub a (s.sub a m), fun i ds e => ?_, ⟨acc, ?_, s.rds a2⟩, s.rds n.src⟩
  · obtain ⟨es, e1⟩ := n.par i ds e
    exact s.par i es e1
  · exact s.kp.keep _ _ a1 (fun _ z => nomatch z) fun m => absurd (.inr rfl) (mut_notFb n.rel m)
theorem LcN.put {C : Cn} {Fb : Addr → Prop} {D : Addr} {ρi : Env} {σ : L2.St} {H1 H4 : Hp} {vs' : List V} {ds' pre : List PyData} {acc : List V} {y : V} {d : PyData} (hm : MkOk mk) (n : LcN C mk Fb D ρ1 ρi σ H1 H4 vs' ds' pre) (hD : H1 D = none) (ha : H4 D = some (.lst acc)) (ra : RDs C.K H4 (bad (fun b => Fb b ∨ b = D) ρi σ) acc pre)
    (ry : RD C.K H4 (bad (fun b => Fb b ∨ b = D) ρi σ) y d) : LcN C mk Fb D ρ1 ρi σ H1 (upd H4 D (.lst (acc ++ [y]))) vs' ds' (pre ++ [d]) := by
  have k : Kp (fun a => a = D) H4 (upd H4 D (.lst (acc ++ [y]))) := .wrote ha rfl
  have hB : ∀ a, a = D → bad (fun b => Fb b ∨ b = D) ρi σ a := fun a z => .inl (.inr z)
  exact ⟨n.rel.wrote hm (.inr rfl) ha, n.kp.trans k fun a z => .inr (by rw [z]; exact hD), n.sub, n.par, ⟨_, upd_same, (ra.kp k hB).append (.cons (ry.kp k hB) .nil)⟩, n.src.kp k hB⟩
def uG (C : Cn) (mk : Mkd) (w : Bool) (L : List Nat) (bT : D → Env → Option Env) : TG := fun v σ H Q => ∃ a : { p : D × Env × Env // bT p.1 p.2.1 = some p.2.2 }, tG C mk w L a.1.2.1 a.1.1 a.1.2.2 v σ H Q
def uT (C : Cn) (mk : Mkd) (fc : Env → Out Bool) : TT := fun σ H Q => ∃ a : { p : Env × Env × Bool // fc p.1 = .ok p.2.2 p.2.1 }, tT C mk a.1.1 a.1.2.2 a.1.2.1 σ H Q
def uE (C : Cn) (mk : Mkd) (fe : Env → Out D) : TE := fun σ H Q => ∃ a : { p : Env × Env × D // fe p.1 = .ok p.2.2 p.2.1 }, tE C mk a.1.1 (.dat a.1.2.2) a.1.2.1 σ H Q
theorem lc_te {bT : D → Env → Option Env} {fc : Env → Out Bool} {fe : Env → Out D} {vs : List Nat} {C : Cn} {σ : L2.St} {H : Hp} {Q : VK} (hm : MkOk mk) (hL : ∀ j ∈ L, j ∈ vs) (hfl : lcLoop (lcF bT fc fe) vs items ρ1 = .ok ds ρ2) (hz : ds.length ≤ sizeLine) (h : tE C mk ρ (.fresh ds) ρ2 σ H Q) :
    tLc (tI C mk w ρ items ρ1) (uG C mk w L bT) (uT C mk fc) (uE C mk fe) vs σ H Q := by
  obtain ⟨Fb, R, q⟩ := h
  refine ⟨Fb, R, fun J H1 vs' ds' st rds wk D hD => ?_⟩
  let N : Nat → Hp → Prop := fun i H' => i ≤ items.length ∧ ∃ ρi pre rest, LcN C mk Fb D ρ1 ρi σ H1 H' vs' ds' pre ∧ lcLoop (lcF bT fc fe) (vs) (items.drop i) ρi = .ok rest ρ2 ∧ pre ++ rest = ds
  have start : N 0 (upd H1 D (.lst [])) := by
    refine ⟨Nat.zero_le _, ρ1, [], ds, ⟨?_, .laid hD, fun _ h => h, fun i es e => ⟨es, e⟩, ⟨[], upd_same, .nil⟩, ?_⟩, by simpa using hfl, rfl⟩
    · refine st.rel.grow hm (fun _ z => .inl z) (fun b z => z.elim .inl fun e => .inr (by rw [e]; exact hD)) (fun b z y => ?_) (.laid hD) (st.rel.tabs.ext (New.laid hD).gr)
      rcases z with z | z
      · exact st.rel.fb b z ((Kp.laid (M := fun _ => False) hD).none b y)
      · subst z
        rw [upd_same] at y
        cases y
    · exact (rds.bad fun b z => z.elim (fun y => y.elim (fun f => .inl (.inl f)) fun e => .inr (by rw [e]; exact hD)) fun m => .inl (.inr m)).kp (M := fun _ => False) (.laid hD) fun _ z => z.elim
  refine ⟨fun i m H' => m = items.length - i ∧ N i H', ⟨items.length, by simp, start⟩, ?_⟩
  rintro i m H' ⟨rfl, hi, ρi, pre, rest, n, ei, ep⟩
  obtain ⟨w1, w2⟩ := wk H' _ n.src i
  by_cases hlt : i < items.length
  · refine .inr ?_
    have hx := List.getElem?_eq_getElem hlt
    rw [drop_cons hx] at ei
    obtain ⟨o, ρa, r, f1, f2, rfl⟩ := lcLoop_cons ei
    obtain ⟨ρb, b, ρc, b1, b2, b3⟩ := lcF_ok f1
    obtain ⟨g1, g2⟩ := w1 _ hx
    refine ⟨g1, N (i + 1), fun H2 n2 => ⟨items.length - (i + 1), by omega, rfl, n2⟩, fun x H5 y => ?_⟩
    obtain ⟨n5, r5⟩ := g2 x H5 y
    have s5 : Step C mk (fun b => Fb b ∨ b = D) ρi ρi σ H' H5 := (Step.refl n.rel).new hm n5
    have N5 := n.step s5
    have Rb := blkIn (vs := vs) N5.rel
    have r5' : RDw w C.K H5 (bad (FbB (fun b => Fb b ∨ b = D) ρi σ (vs)) (wipeE ρi (vs)) (wipe σ (vs))) x items[i] := by
      rcases r5 with r | ⟨h1, a, xs, es, h2, h3, h4, h6⟩
      · exact .inl (r.bad fun a z => .inl ((badB a).mp z))
      · exact .inr ⟨h1, a, xs, es, h2, h3, h4, h6.bad fun a z => .inl ((badB a).mp z)⟩
    refine ⟨⟨(items[i], _, ρb), b1⟩, _, Rb, r5', fun σ2 H2 s2 o2 => ?_⟩
    have hlen : σ2.length = σ.length := o2.len.trans (wipe_length _ _)
    have hout : ∀ j, j ∉ vs → σ2[j]? = σ[j]? := fun j hj => (o2.out j fun z => hj (hL j z)).trans (wipe_out' hj)
    refine ⟨wipe_eq hlen hout, ⟨(ρb, ρc, b), b2⟩, _, s2.rel, fun H3 s3 => ?_⟩
    have back : ∀ {ρd : Env} {H4 : Hp}, Step C mk (FbB (fun b => Fb b ∨ b = D) ρi σ (vs)) ρb ρd σ2 H2 H4 → Step C mk (fun b => Fb b ∨ b = D) ρi (restE ρi ρd (vs)) σ H5 H4 ∧ ∀ b, bad (fun b => Fb b ∨ b = D) (restE ρi ρd (vs)) σ b → bad (FbB (fun b => Fb b ∨ b = D) ρi σ (vs)) ρd σ2 b := fun {ρd H4} s4 => by
      have t := s2.trans s4.toS
      exact blkOut hm N5.rel s4.rel t.kp (fun a z => o2.sub a (s4.sub a z)) hlen hout fun i es e => (t.par i es e).1
    rcases b3 with ⟨rfl, rfl, rfl⟩ | ⟨rfl, y, b4, rfl⟩
    · show (if false = true then _ else N (i + 1) H3)
      rw [if_neg Bool.false_ne_true]
      obtain ⟨s6, _⟩ := back s3
      exact ⟨by omega, _, pre, r, N5.step s6, f2, by simpa using ep⟩
    · show (if true = true then _ else N (i + 1) H3)
      rw [if_pos rfl]
      refine ⟨⟨(ρc, ρa, y), b4⟩, _, s3.rel, fun v H4 s4 rv => ?_⟩
      obtain ⟨s6, inc⟩ := back (s3.trans s4)
      have N6 := N5.step s6
      obtain ⟨acc, a1, a2⟩ := N6.acc
      refine ⟨acc, a1, ?_, by omega, _, pre ++ [y], r, N6.put hm hD a1 a2 (RD.bad (fun a z => .inl (inc a z)) rv), f2, by simpa using ep⟩
      have hp : pre.length < ds.length := by rw [← ep]; simp
      have := a2.length
      omega
  · refine .inl ⟨w2 (by omega), ?_⟩
    have hnil : items.drop i = [] := List.drop_eq_nil_of_le (by omega)
    rw [hnil] at ei
    unfold lcLoop at ei
    simp only [Out.ok.injEq] at ei
    obtain ⟨ei1, ei2⟩ := ei
    subst ei1 ei2
    simp only [List.append_nil] at ep
    subst ep
    obtain ⟨acc, a1, a2⟩ := n.acc
    have sub2 : ∀ a, mutA ρi σ a → mutA ρ σ a := fun a m => st.sub a (n.sub a m)
    refine q (.ref D) H' ⟨n.rel.less fun _ z => .inl z, st.kp.trans n.kp fun a m => .inl (st.sub a m), sub2, fun i es e => ?_⟩ ⟨D, acc, rfl, .inl (st.kp.none D hD), ?_, a1, ?_, n.rel⟩
    · obtain ⟨es1, e1⟩ := st.par i es e
      exact n.par i es1 e1
    · rintro (z | z)
      · exact absurd hD (st.rel.fb D z)
      · exact absurd (.inr rfl) (mut_notFb n.rel z)
    · exact a2.bad fun b z => .inl (z.elim (fun y => y.elim (fun f => .inl (.inl f)) .inr) fun e => .inl (.inr e))
section
variable {bT : D → Env → Option Env} {fc : Env → Out Bool} {fe : Env → Out D}
theorem e_lc (hc : X.calm = true) (hN : X.N.Nodup) (hm : MkOk mk) (hi : PI X tg iter (tI (cn X S) mk w ρ items ρ1)) (ok : BlkOk X.N X.env.scope scope own)
    (hg : ∀ (s : Shared) (H : Hp) (C : Addr) (cl : List (Str × Addr)) (fp : List Addr) (d : D) (ρ ρ' : Env), bT d ρ = some ρ' → PG (X.blk s H scope (compEnvC scope cl C X.env) fp) tg (tG (cn X S) mk w L ρ d ρ'))
    (hL : ∀ j ∈ L, j ∈ own.map (·.2))
    (ht : ∀ (s : Shared) (H : Hp) (C : Addr) (cl : List (Str × Addr)) (fp : List Addr) (ρ ρ' : Env) (b : Bool), fc ρ = .ok b ρ' → PTs (X.blk s H scope (compEnvC scope cl C X.env) fp) ifs (tT (cn X S) mk ρ b ρ'))
    (he : ∀ (s : Shared) (H : Hp) (C : Addr) (cl : List (Str × Addr)) (fp : List Addr) (ρ ρ' : Env) (d : D), fe ρ = .ok d ρ' → PE (X.blk s H scope (compEnvC scope cl C X.env) fp) elt (tE (cn X S) mk ρ (.dat d) ρ'))
    (hs : ∀ x, foldedSetIterable iter X.env x = pure x) (hfl : lcLoop (lcF bT fc fe) (own.map (·.2)) items ρ1 = .ok ds ρ2) (hz : ds.length ≤ sizeLine) : PE X (.ListComp elt [⟨tg, iter, ifs, 0⟩] scope pos) (tE (cn X S) mk ρ (.fresh ds) ρ2) :=
  peImp (pe_lc hc hN hi ok (g := uG (cn X S) mk w L bT) (tt := uT (cn X S) mk fc) (te := uE (cn X S) mk fe)
    (fun s H C cl fp => pg_union fun a => hg s H C cl fp _ _ _ a.2) (fun s H C cl fp => pts_union fun a => ht s H C cl fp _ _ _ a.2) (fun s H C cl fp => pe_union fun a => he s H C cl fp _ _ _ a.2) hs) fun σ H Q h => lc_te hm hL hfl hz h
/-- name = [..] on one line -/
theorem s_lc {i : Nat} {y : Str} {py spos : Pos} {fl : Fl} (hc : X.calm = true) (hN : X.N.Nodup) (hm : MkOk mk) (hy : X.N[i]? = some y) (hyl : X.env.scope.names.lookup y = some .local) (hsw : swapsWith (.ListComp elt [⟨tg, iter, ifs, 0⟩] scope pos) (some (.Name y py)) spos.line X.env = pure true)
    (hi : PI X tg iter (tI (cn X S) mk w ρ items ρ1)) (ok : BlkOk X.N X.env.scope scope own)
    (hg : ∀ (s : Shared) (H : Hp) (C : Addr) (cl : List (Str × Addr)) (fp : List Addr) (d : D) (ρ ρ' : Env), bT d ρ = some ρ' → PG (X.blk s H scope (compEnvC scope cl C X.env) fp) tg (tG (cn X S) mk w L ρ d ρ'))
    (hL : ∀ j ∈ L, j ∈ own.map (·.2))
    (ht : ∀ (s : Shared) (H : Hp) (C : Addr) (cl : List (Str × Addr)) (fp : List Addr) (ρ ρ' : Env) (b : Bool), fc ρ = .ok b ρ' → PTs (X.blk s H scope (compEnvC scope cl C X.env) fp) ifs (tT (cn X S) mk ρ b ρ'))
    (he : ∀ (s : Shared) (H : Hp) (C : Addr) (cl : List (Str × Addr)) (fp : List Addr) (ρ ρ' : Env) (d : D), fe ρ = .ok d ρ' → PE (X.blk s H scope (compEnvC scope cl C X.env) fp) elt (tE (cn X S) mk ρ (.dat d) ρ'))
    (hs : ∀ x, foldedSetIterable iter X.env x = pure x) (hfl : lcLoop (lcF bT fc fe) (own.map (·.2)) items ρ1 = .ok ds ρ2) (hz : ds.length ≤ sizeLine)
    (hend : ∀ D σ H, tS (cn X S) mk ρ fl D σ H → tE (cn X S) mk ρ (.fresh ds) ρ2 σ H (fun x H1 => gName i x σ H1 D.nx)) : PS X (.Assign [.Name y py] (.ListComp elt [⟨tg, iter, ifs, 0⟩] scope pos) spos) (tS (cn X S) mk ρ fl) :=
  psImp (ps_setLc hc hN hy hyl hsw hi ok (g := uG (cn X S) mk w L bT) (tt := uT (cn X S) mk fc) (te := uE (cn X S) mk fe)
    (fun s H C cl fp => pg_union fun a => hg s H C cl fp _ _ _ a.2) (fun s H C cl fp => pts_union fun a => ht s H C cl fp _ _ _ a.2) (fun s H C cl fp => pe_union fun a => he s H C cl fp _ _ _ a.2) hs) fun D σ H h => lc_te hm hL hfl hz (hend D σ H h)
end
end
end Ev
set_option Elab.async false
set_option linter.all false
set_option maxRecDepth 100000
set_option maxHeartbeats 1000000
namespace Ev
open PySem PySem.Spec PyProof.Rows L2
/-! ### a dict that is being made -/
/-- the heaps are the same but at D, where a dict stands -/
structure OffD (D : Addr) (H H' : Hp) : Prop where
  same : ∀ a, a ≠ D → H' a = H a
  dk : ∀ o, H D = some o → ∃ kvs, o = .dK kvs
theorem OffD.cut {D : Addr} {H H' : Hp} (x : OffD D H H') (S : Addr → Prop) : OffD D (cutH H S) (cutH H' S) := by
  refine ⟨fun a h => ?_, fun o h => x.dk o (cutH_some h).2⟩
  by_cases z : S a
  · rw [cutH_in z, cutH_in z]
  · rw [cutH_out z, cutH_out z]; exact x.same a h
theorem OffD.at {D : Addr} {H H' : Hp} (x : OffD D H H') {a : Addr} {o : HO} (h : H a = some o) (n : ∀ kvs, o ≠ .dK kvs) : H' a = some o := by
  rw [x.same a fun z => ?_]
  · exact h
  · subst z
    obtain ⟨kvs, e⟩ := x.dk o h
    exact n kvs e
theorem OffD.sqT {D : Addr} {H H' : Hp} {K : PySem.W.Frag} (x : OffD D H H') {a : Addr} {xs : List V} (h : SqT K H a xs) : SqT K H' a xs := by
  rcases h with (h | ⟨o, h⟩) | h
  · exact .inl (.inl (x.at h fun _ z => nomatch z))
  · exact .inl (.inr ⟨o, x.at h fun _ z => nomatch z⟩)
  · exact .inr h
section
variable {K : PySem.W.Frag} {H H' : Hp} {B : Addr → Prop} {D : Addr}
mutual
theorem RD.off (x : OffD D H H') (hB : B D) : ∀ {v : V} {d : PyData}, RD K H B v d → RD K H' B v d
  | _, _, .non => .non
  | _, _, .bl b => .bl b
  | _, _, .int i => .int i
  | _, _, .str z => .str z
  | _, _, .lst h n r => .lst (x.at h fun _ z => nomatch z) n (RDs.off x hB r)
  | _, _, .tup h r => .tup (by
      rcases h with ⟨f, h⟩ | ⟨f, ob, h, e⟩
      · exact .inl ⟨f, x.sqT h⟩
      · exact .inr ⟨f, ob, x.at h (fun _ z => nomatch z), e⟩) (RDs.off x hB r)
  | _, _, .dic h n r => .dic (by rw [x.same _ fun z => n (by rw [z]; exact hB)]; exact h) n (RDs.off x hB r)
  | _, _, .dit h r => .dit (x.at h fun _ z => nomatch z) (RDs.off x hB r)
theorem RDs.off (x : OffD D H H') (hB : B D) : ∀ {vs : List V} {ds : List PyData}, RDs K H B vs ds → RDs K H' B vs ds
  | _, _, .nil => .nil
  | _, _, .cons r t => .cons (RD.off x hB r) (RDs.off x hB t)
end
end
section
variable {C : Cn} {B : Addr → Prop} {D : Addr}
mutual
theorem RS.off (hB : B D) : ∀ {H H' : Hp} {v : V} {d : SV}, OffD D H H' → RS C B H v d → RS C B H' v d
  | _, _, _, _, x, .dat r => .dat (r.off x hB)
  | _, _, _, _, _, .glob a b => .glob a b
  | _, _, _, _, x, .clo h1 h2 h3 h4 h5 h6 h7 h8 => .clo h1 (x.at h2 fun _ z => by unfold FnU at z; cases z) (x.at h3 fun _ z => by unfold LamX.CodeO at z; cases z) h4 h5 h6
      (fun i y e => by
        obtain ⟨c, w, a1, a2, ob, u, a3, a4, a5⟩ := h7 i y e
        exact ⟨c, w, a1, a2, ob, u, x.at a3 (fun _ z => nomatch z), a4, a5⟩) (RSs.off hB (x.cut _) h8)
theorem RSs.off (hB : B D) : ∀ {H H' : Hp} {vs : List V} {ds : List SV}, OffD D H H' → RSs C B H vs ds → RSs C B H' vs ds
  | _, _, _, _, _, .nil => .nil
  | _, _, _, _, x, .cons r t => .cons (RS.off hB x r) (RSs.off hB x t)
end
/-- a made def's slot does not look at dicts -/
def MkD (mk : Mkd) : Prop := ∀ i v H H' D, mk i v H → OffD D H H' → mk i v H'
theorem mk0_d : MkD mk0 := fun _ _ _ _ _ h _ => h
theorem Rel.off {mk : Mkd} {Fb : Addr → Prop} {ρ : Env} {σ : L2.St} {H H' : Hp} (hd : MkD mk) (R : Rel C mk Fb ρ σ H) (hF : Fb D) (x : OffD D H H') (hn : H' D ≠ none) : Rel C mk Fb ρ σ H' := by
  have hB : bad Fb ρ σ D := .inl hF
  refine ⟨R.len, fun a z q => ?_, fun i s e c => ?_, fun i ds e => ?_, R.inj, fun i ns e => ?_, fun i e => ?_, fun p hp => ?_⟩
  · by_cases h : a = D
    · subst h; exact hn q
    · rw [x.same a h] at q; exact R.fb a z q
  · obtain ⟨v, h1, h2⟩ := R.val i s e c
    exact ⟨v, h1, h2.off hB x⟩
  · obtain ⟨a, zs, h1, h2, h3, h4⟩ := R.mt i ds e
    exact ⟨a, zs, h1, h2, x.at h3 (fun _ z => nomatch z), h4.off x hB⟩
  · obtain ⟨a, h1, h2⟩ := R.ro i ns e
    refine ⟨a, h1, ?_⟩
    rcases h2 with ⟨o, h⟩ | h
    · exact .inl ⟨o, x.at h fun _ z => nomatch z⟩
    · exact .inr h
  · obtain ⟨v, h1, h2⟩ := R.mks i e
    exact ⟨v, h1, hd _ _ _ _ _ h2 x⟩
  · obtain ⟨ps, h1, h2, h3⟩ := R.tabs p hp
    refine ⟨ps, x.at h1 (fun _ z => nomatch z), h2, fun pos cv hc => ?_⟩
    obtain ⟨c, e1, e2⟩ := h3 pos cv hc
    exact ⟨c, e1, x.at e2 fun _ z => by unfold LamX.CodeO at z; cases z⟩
end
def dcF (bT : D → Env → Option Env) (fk fv : Env → Out D) (d : D) (ρ : Env) : Out (Option D) := match bT d ρ with
  | some ρ => (fk ρ).bind fun x ρ => (fv ρ).bind fun y ρ => .ok (some (.tuple [x, y])) ρ
  | none => .bad
theorem dcF_ok {bT : D → Env → Option Env} {fk fv : Env → Out D} {d : D} {ρ ρ' : Env} {o : Option D} (h : dcF bT fk fv d ρ = .ok o ρ') : ∃ ρb x ρc y, bT d ρ = some ρb ∧ fk ρb = .ok x ρc ∧ fv ρc = .ok y ρ' ∧ o = some (.tuple [x, y]) := by
  unfold dcF at h
  cases h1 : bT d ρ with
  | none => rw [h1] at h; cases h
  | some ρb =>
    rw [h1] at h
    replace h : ((fk ρb).bind fun x ρ => (fv ρ).bind fun y ρ => .ok (some (.tuple [x, y])) ρ) = .ok o ρ' := h
    cases h2 : fk ρb with
    | exc c x r => rw [h2] at h; cases h
    | bad => rw [h2] at h; cases h
    | ok x ρc =>
      rw [h2] at h
      replace h : ((fv ρc).bind fun y ρ => .ok (some (.tuple [x, y])) ρ) = Out.ok o ρ' := h
      cases h3 : fv ρc with
      | exc c x r => rw [h3] at h; cases h
      | bad => rw [h3] at h; cases h
      | ok y ρd =>
        rw [h3] at h
        cases h
        exact ⟨ρb, x, ρc, y, rfl, h2, h3, rfl⟩
theorem pairsK_app : ∀ {ds es : List D} {ps : List (Key × D)}, pairsK? (ds ++ es) = some ps → ∃ p1 p2, pairsK? ds = some p1 ∧ pairsK? es = some p2 ∧ ps = p1 ++ p2
  | [], es, ps, h => ⟨[], ps, rfl, h, rfl⟩
  | d :: ds, es, ps, h => by
    match d, h with
    | .tuple [k, v], h =>
      have h : ((keyOf k).bind fun q => (pairsK? (ds ++ es)).map ((q, v) :: ·)) = some ps := h
      cases hk : keyOf k with
      | none => rw [hk] at h; cases h
      | some q =>
        rw [hk] at h
        replace h : (pairsK? (ds ++ es)).map ((q, v) :: ·) = some ps := h
        cases hr : pairsK? (ds ++ es) with
        | none => rw [hr] at h; cases h
        | some r =>
          rw [hr] at h; cases h
          obtain ⟨p1, p2, e1, e2, rfl⟩ := pairsK_app hr
          refine ⟨(q, v) :: p1, p2, ?_, e2, rfl⟩
          show ((keyOf k).bind fun q => (pairsK? ds).map ((q, v) :: ·)) = _
          rw [hk, e1]; rfl
theorem pairsK_len : ∀ {ds : List D} {ps : List (Key × D)}, pairsK? ds = some ps → ps.length = ds.length
  | [], ps, h => by cases h; rfl
  | d :: ds, ps, h => by
    match d, h with
    | .tuple [k, v], h =>
      have h : ((keyOf k).bind fun q => (pairsK? ds).map ((q, v) :: ·)) = some ps := h
      cases hk : keyOf k with
      | none => rw [hk] at h; cases h
      | some q =>
        rw [hk] at h
        replace h : (pairsK? ds).map ((q, v) :: ·) = some ps := h
        cases hr : pairsK? ds with
        | none => rw [hr] at h; cases h
        | some r => rw [hr] at h; cases h; simp [pairsK_len hr]
theorem putX_len {α : Type} (kvs : List (Key × α)) (k : Key) (v : α) : (putX kvs k v).length ≤ kvs.length + 1 := by
  unfold putX
  split
  · simp
  · simp
theorem mergeX_len {α : Type} : ∀ (more kvs : List (Key × α)), (mergeX kvs more).length ≤ kvs.length + more.length
  | [], kvs => by simp [mergeX]
  | m :: more, kvs => by
    have h := mergeX_len more (putX kvs m.1 m.2)
    have h2 := putX_len kvs m.1 m.2
    have e : mergeX kvs (m :: more) = mergeX (putX kvs m.1 m.2) more := rfl
    rw [e]
    simp only [List.length_cons]
    omega
theorem key_of {x : D} {q : Key} (h : keyOf x = some q) : x = keyD q := by
  cases x <;> simp [keyOf] at h <;> subst h <;> rfl
theorem rd_key2 {K : PySem.W.Frag} {H : Hp} {B : Addr → Prop} {v : V} {q : Key} (h : RD K H B v (keyD q)) : v = kV q := by
  cases q with
  | inl i => cases h; rfl
  | inr z => cases h; rfl
section
variable {mk : Mkd} {ρ ρ1 ρ2 : Env} {items ds : List D} {w : Bool} {L : List Nat}
/-- the state between two turns -/
structure DcN (C : Cn) (mk : Mkd) (Fb : Addr → Prop) (D : Addr) (ρ1 ρi : Env) (σ : L2.St) (H1 H' : Hp) (vs' : List V) (ds' : List PyData) (ps : List (Key × PyData)) : Prop where
  rel : Rel C mk (fun b => Fb b ∨ b = D) ρi σ H'
  kp : Kp (mutA ρ1 σ) H1 H'
  sub : ∀ a, mutA ρi σ a → mutA ρ1 σ a
  par : ∀ (i : Nat) (ds : List PyData), ρ1[i]? = some (some (.par ds)) → ∃ ds', ρi[i]? = some (some (.par ds'))
  acc : ∃ kvs, H' D = some (.dK kvs) ∧ Paired (fun (x : Key × V) (y : Key × PyData) => x.1 = y.1 ∧ RD C.K H' (bad (fun b => Fb b ∨ b = D) ρi σ) x.2 y.2) kvs (mergeX [] ps)
  src : RDs C.K H' (bad (fun b => Fb b ∨ b = D) ρi σ) vs' ds'
theorem DcN.step {C : Cn} {Fb : Addr → Prop} {D : Addr} {ρi ρ' : Env} {σ : L2.St} {H1 H' H4 : Hp} {vs' : List V} {ds' : List PyData} {ps : List (Key × PyData)} (n : DcN C mk Fb D ρ1 ρi σ H1 H' vs' ds' ps) (s : Step C mk (fun b => Fb b ∨ b = D) ρi ρ' σ H' H4) : DcN C mk Fb D ρ1 ρ' σ H1 H4 vs' ds' ps := by
  obtain ⟨kvs, a1, a2⟩ := n.acc
  refine ⟨s.rel, n.kp.trans s.kp fun a m => .inl (n.sub a m), fun a m => n.sub a (s.sub a m), fun i ds e => ?_, ⟨kvs, s.kp.keep _ _ a1 (fun _ z => nomatch z) (fun _ _ z => nomatch z), Paired.mapP a2 fun x y z => ⟨z.1, s.rd z.2⟩⟩, s.rds n.src⟩
  obtain ⟨es, e1⟩ := n.par i ds e
  exact s.par i es e1
theorem DcN.put {C : Cn} {Fb : Addr → Prop} {D : Addr} {ρi : Env} {σ : L2.St} {H1 H4 : Hp} {vs' : List V} {ds' : List PyData} {ps : List (Key × PyData)} {kvs : List (Key × V)} {k : Key} {y : V} {d : PyData} (hd : MkD mk) (n : DcN C mk Fb D ρ1 ρi σ H1 H4 vs' ds' ps) (hD : H1 D = none) (ha : H4 D = some (.dK kvs))
    (ra : Paired (fun (x : Key × V) (y : Key × PyData) => x.1 = y.1 ∧ RD C.K H4 (bad (fun b => Fb b ∨ b = D) ρi σ) x.2 y.2) kvs (mergeX [] ps)) (ry : RD C.K H4 (bad (fun b => Fb b ∨ b = D) ρi σ) y d) : DcN C mk Fb D ρ1 ρi σ H1 (upd H4 D (.dK (L2.putK kvs k y))) vs' ds' (ps ++ [(k, d)]) := by
  have x : OffD D H4 (upd H4 D (.dK (L2.putK kvs k y))) := ⟨fun a h => upd_ne h, fun o e => by rw [ha] at e; cases e; exact ⟨kvs, rfl⟩⟩
  have hB : bad (fun b => Fb b ∨ b = D) ρi σ D := .inl (.inr rfl)
  have hk : Kp (mutA ρ1 σ) H1 (upd H4 D (.dK (L2.putK kvs k y))) := by
    refine ⟨fun a o h t m => ?_, fun a h => ?_⟩
    · rw [upd_ne fun z => by subst z; rw [hD] at h; cases h]
      exact n.kp.keep a o h t m
    · by_cases z : a = D
      · rw [z]; exact hD
      · rw [upd_ne z] at h; exact n.kp.none a h
  have em : mergeX [] (ps ++ [(k, d)]) = putX (mergeX [] ps) k d := by unfold mergeX; rw [List.foldl_append]; rfl
  refine ⟨n.rel.off hd (.inr rfl) x (by rw [upd_same]; exact fun z => nomatch z), hk, n.sub, n.par, ⟨_, upd_same, ?_⟩, n.src.off x hB⟩
  rw [em]
  exact putX_rel (R := fun v d => RD C.K (upd H4 D (.dK (L2.putK kvs k y))) (bad (fun b => Fb b ∨ b = D) ρi σ) v d) (Paired.mapP ra fun a b z => ⟨z.1, z.2.off x hB⟩) k (ry.off x hB)
theorem dc_te {bT : PyData → Env → Option Env} {fk fv : Env → Out PyData} {vs : List Nat} {C : Cn} {σ : L2.St} {H : Hp} {Q : VK} {ps : List (Key × PyData)} (hm : MkOk mk) (hmd : MkD mk) (hL : ∀ j ∈ L, j ∈ vs) (hfl : lcLoop (dcF bT fk fv) vs items ρ1 = .ok ds ρ2) (hps : pairsK? ds = some ps) (hz : ds.length ≤ sizeLine)
    (h : tE C mk ρ (.dat (dictX (mergeX [] ps))) ρ2 σ H Q) : tDc (tI C mk w ρ items ρ1) (uG C mk w L bT) tYes (uE C mk fk) (uE C mk fv) vs σ H Q := by
  obtain ⟨Fb, R, q⟩ := h
  refine ⟨Fb, R, fun J H1 vs' ds' st rds wk D hD => ?_⟩
  let N : Nat → Hp → Prop := fun i H' => i ≤ items.length ∧ ∃ ρi pre rest p1, DcN C mk Fb D ρ1 ρi σ H1 H' vs' ds' p1 ∧ lcLoop (dcF bT fk fv) vs (items.drop i) ρi = .ok rest ρ2 ∧ pairsK? pre = some p1 ∧ pre ++ rest = ds
  have start : N 0 (upd H1 D (.dK [])) := by
    refine ⟨Nat.zero_le _, ρ1, [], ds, [], ⟨?_, .laid hD, fun _ h => h, fun i es e => ⟨es, e⟩, ⟨[], upd_same, .nil⟩, ?_⟩, by simpa using hfl, rfl, rfl⟩
    · refine st.rel.grow hm (fun _ z => .inl z) (fun b z => z.elim .inl fun e => .inr (by rw [e]; exact hD)) (fun b z y => ?_) (.laid hD) (st.rel.tabs.ext (New.laid hD).gr)
      rcases z with z | z
      · exact st.rel.fb b z ((Kp.laid (M := fun _ => False) hD).none b y)
      · subst z
        rw [upd_same] at y
        cases y
    · exact (rds.bad fun b z => z.elim (fun y => y.elim (fun f => .inl (.inl f)) fun e => .inr (by rw [e]; exact hD)) fun m => .inl (.inr m)).kp (M := fun _ => False) (.laid hD) fun _ z => z.elim
  refine ⟨fun i m H' => m = items.length - i ∧ N i H', ⟨items.length, by simp, start⟩, ?_⟩
  rintro i m H' ⟨rfl, hi, ρi, pre, rest, p1, n, ei, hp1, ep⟩
  obtain ⟨w1, w2⟩ := wk H' _ n.src i
  by_cases hlt : i < items.length
  · refine .inr ?_
    have hx := List.getElem?_eq_getElem hlt
    rw [drop_cons hx] at ei
    obtain ⟨o, ρa, r, f1, f2, rfl⟩ := lcLoop_cons ei
    obtain ⟨ρb, kx, ρc, y, b1, b2, b4, rfl⟩ := dcF_ok f1
    obtain ⟨g1, g2⟩ := w1 _ hx
    refine ⟨g1, N (i + 1), fun H2 n2 => ⟨items.length - (i + 1), by omega, rfl, n2⟩, fun x H5 yy => ?_⟩
    obtain ⟨n5, r5⟩ := g2 x H5 yy
    have s5 : Step C mk (fun b => Fb b ∨ b = D) ρi ρi σ H' H5 := (Step.refl n.rel).new hm n5
    have N5 := n.step s5
    have Rb := blkIn (vs := vs) N5.rel
    have r5' : RDw w C.K H5 (bad (FbB (fun b => Fb b ∨ b = D) ρi σ vs) (wipeE ρi vs) (wipe σ vs)) x items[i] := by
      rcases r5 with r | ⟨h1, a, xs, es, h2, h3, h4, h6⟩
      · exact .inl (r.bad fun a z => .inl ((badB a).mp z))
      · exact .inr ⟨h1, a, xs, es, h2, h3, h4, h6.bad fun a z => .inl ((badB a).mp z)⟩
    refine ⟨⟨(items[i], _, ρb), b1⟩, _, Rb, r5', fun σ2 H2 s2 o2 => ?_⟩
    have hlen : σ2.length = σ.length := o2.len.trans (wipe_length _ _)
    have hout : ∀ j, j ∉ vs → σ2[j]? = σ[j]? := fun j hj => (o2.out j fun z => hj (hL j z)).trans (wipe_out' hj)
    refine ⟨wipe_eq hlen hout, ?_⟩
    show (if true = true then _ else N (i + 1) H2)
    rw [if_pos rfl]
    refine ⟨⟨(ρb, ρc, kx), b2⟩, _, s2.rel, fun kv H3 s3 rk => ⟨⟨(ρc, ρa, y), b4⟩, _, s3.rel, fun v H4 s4 rv => ?_⟩⟩
    have t := s2.trans (s3.trans s4).toS
    obtain ⟨s6, inc⟩ := blkOut hm N5.rel s4.rel t.kp (fun a z => o2.sub a ((s3.trans s4).sub a z)) hlen hout fun i es e => (t.par i es e).1
    have N6 := N5.step s6
    obtain ⟨kvs, a1, a2⟩ := N6.acc
    have hall := hps
    rw [← ep] at hall
    have e3 : pre ++ ((some (PyData.tuple [kx, y])).toList ++ r) = (pre ++ [.tuple [kx, y]]) ++ r := by simp
    rw [e3] at hall
    obtain ⟨p3, p4, c1, c2, c3⟩ := pairsK_app hall
    obtain ⟨p5, p6, c4, c5, c6⟩ := pairsK_app c1
    rw [hp1] at c4
    cases c4
    have c5 : ((keyOf kx).bind fun q => (pairsK? []).map ((q, y) :: ·)) = some p6 := c5
    cases hk : keyOf kx with
    | none => rw [hk] at c5; cases c5
    | some kq =>
      rw [hk] at c5
      cases c5
      have ek := key_of hk
      have rk2 : RD C.K H3 (bad (FbB (fun b => Fb b ∨ b = D) ρi σ vs) ρc σ2) kv kx := rk
      rw [ek] at rk2
      have rk' : kv = kV kq := rd_key2 rk2
      have hlk : kvs.length = (mergeX [] p1).length := by
        have : ∀ {α β : Type} {P : α → β → Prop} {xs : List α} {ys : List β}, Paired P xs ys → xs.length = ys.length := fun h => Paired.length h
        exact this a2
      refine ⟨kvs, kq, rk', a1, ?_, by omega, _, pre ++ [.tuple [kx, y]], r, p1 ++ [(kq, y)], N6.put hmd hD a1 a2 (RD.bad (fun a z => .inl (inc a z)) rv), f2, by rw [c1, c6], by rw [← ep, e3]⟩
      have h1 := mergeX_len p1 ([] : List (Key × PyData))
      have h2 := pairsK_len hp1
      have h3 : pre.length < ds.length := by rw [← ep]; simp
      simp only [List.length_nil] at h1
      omega
  · refine .inl ⟨w2 (by omega), ?_⟩
    have hnil : items.drop i = [] := List.drop_eq_nil_of_le (by omega)
    rw [hnil] at ei
    unfold lcLoop at ei
    simp only [Out.ok.injEq] at ei
    obtain ⟨ei1, ei2⟩ := ei
    subst ei1 ei2
    simp only [List.append_nil] at ep
    subst ep
    rw [hps] at hp1
    cases hp1
    obtain ⟨kvs, a1, a2⟩ := n.acc
    have sub2 : ∀ a, mutA ρi σ a → mutA ρ σ a := fun a m => st.sub a (n.sub a m)
    have nb : ¬ bad Fb ρi σ D := by
      rintro (z | z)
      · exact absurd hD (st.rel.fb D z)
      · exact absurd (.inr rfl) (mut_notFb n.rel z)
    refine q (.ref D) H' ⟨n.rel.less fun _ z => .inl z, st.kp.trans n.kp fun a m => .inl (st.sub a m), sub2, fun i es e => ?_⟩ (rd_dict a1 nb (Paired.mapP a2 fun x y z => ⟨z.1, z.2.bad fun b u => .inl (u.elim (fun f => .inl (.inl f)) .inr)⟩))
    obtain ⟨es1, e1⟩ := st.par i es e
    exact n.par i es1 e1
variable {X : Cx} {S : Sx} {tg iter kx vx : Expr} {pos : Pos} {scope : Scope} {own : List (Str × Nat)} {bT : D → Env → Option Env} {fk fv : Env → Out D}
theorem e_dc {ps : List (Key × D)} (hc : X.calm = true) (hN : X.N.Nodup) (hm : MkOk mk) (hmd : MkD mk) (hi : PI X tg iter (tI (cn X S) mk w ρ items ρ1)) (ok : BlkOk X.N X.env.scope scope own)
    (hg : ∀ (s : Shared) (H : Hp) (C : Addr) (cl : List (Str × Addr)) (fp : List Addr) (d : D) (ρ ρ' : Env), bT d ρ = some ρ' → PG (X.blk s H scope (compEnvC scope cl C X.env) fp) tg (tG (cn X S) mk w L ρ d ρ'))
    (hL : ∀ j ∈ L, j ∈ own.map (·.2))
    (hk : ∀ (s : Shared) (H : Hp) (C : Addr) (cl : List (Str × Addr)) (fp : List Addr) (ρ ρ' : Env) (d : D), fk ρ = .ok d ρ' → PE (X.blk s H scope (compEnvC scope cl C X.env) fp) kx (tE (cn X S) mk ρ (.dat d) ρ'))
    (hv : ∀ (s : Shared) (H : Hp) (C : Addr) (cl : List (Str × Addr)) (fp : List Addr) (ρ ρ' : Env) (d : D), fv ρ = .ok d ρ' → PE (X.blk s H scope (compEnvC scope cl C X.env) fp) vx (tE (cn X S) mk ρ (.dat d) ρ'))
    (hs : ∀ x, foldedSetIterable iter X.env x = pure x) (hfl : lcLoop (dcF bT fk fv) (own.map (·.2)) items ρ1 = .ok ds ρ2) (hps : pairsK? ds = some ps) (hz : ds.length ≤ sizeLine) : PE X (.DictComp kx vx [⟨tg, iter, [], 0⟩] scope pos) (tE (cn X S) mk ρ (.dat (dictX (mergeX [] ps))) ρ2) :=
  peImp (pe_dc hc hN hi ok (g := uG (cn X S) mk w L bT) (tt := tYes) (tk := uE (cn X S) mk fk) (tv := uE (cn X S) mk fv)
    (fun s H C cl fp => pg_union fun a => hg s H C cl fp _ _ _ a.2) (fun s H C cl fp => pts_nil) (fun s H C cl fp => pe_union fun a => hk s H C cl fp _ _ _ a.2) (fun s H C cl fp => pe_union fun a => hv s H C cl fp _ _ _ a.2) hs) fun σ H Q h => dc_te hm hmd hL hfl hps hz h
end
end Ev
set_option Elab.async false
set_option linter.all false
set_option maxRecDepth 100000
set_option maxHeartbeats 1000000
namespace Ev
open PySem PySem.Spec PyProof.Rows L2
/-! ### lambdas -/
theorem none_upd {H : Hp} {a b : Addr} {o : HO} (e : upd H a o b = none) : H b = none := by
  by_cases z : b = a
  · subst z; rw [upd_same] at e; cases e
  · rw [upd_ne z] at e; exact e
section
variable {X : Cx} {pins : List (Addr × Obj)} {σ : L2.St} {H : Hp} {s : Shared}
theorem inv_fnU {L : LI} {cl : List (Str × Addr)} {c' : Addr} {o : Obj} {t' : Nat} {doc pm ctv : Value} (I : Inv X pins σ H s) (ho : o = { cls := .type "function", data := .func (L.fd cl c' doc pm ctv) }) :
    Inv X pins σ (upd H s.heap.objs.size (FnU s.heap.objs.size L cl c')) { s with heap := s.heap.push o, toks := t' } := by
  subst ho
  have at_ : (s.heap.push ({ cls := .type "function", data := .func (L.fd cl c' doc pm ctv) } : Obj)).get? s.heap.objs.size = some ({ cls := .type "function", data := .func (L.fd cl c' doc pm ctv) } : Obj) := Heap.get?_push_size _ rfl
  exact I.laid (a := s.heap.objs.size) (fun b u e => Heap.get?_push_of_some _ e) (Nat.le_refl _) ⟨⟨_, _, doc, pm, ctv, at_⟩, ⟨_, at_⟩, fun h1 h2 ⟨od, sl, d, p, t, z⟩ st => ⟨od, sl, d, p, t, st _ z⟩⟩
theorem lamU_make {T : List NdefX.NTab} {nm : Nat → Nat → Str} {L : LI} {c P : Addr} {params : Arguments} {body : Expr} {scope : Scope} {pos : Pos} {E Q : Value → Shared → Prop} (I : Inv X pins σ H s) (TB : LamX.TabB X.base X.mg c P) (hcode : X.env.code = .ref c)
    (hm : (P, nm) ∈ T) (hn : nm pos.line pos.col = X.env.qual ++ "<lambda>") (hu : ∀ p ∈ T, p.1 = P → p.2 = nm) (hT : NdefX.TabsN T H) (hdef : defaultsOf params X.env = ([], [])) (hfree : ∀ y ∈ scope.names, y.2 = .free → ∃ c, X.env.cells.lookup y.1 = some c)
    (hL : ∀ cl c' pm ctv, L.fd cl c' .none pm ctv = PySem.W.kla_fn "<lambda>" (X.env.qual ++ "<lambda>") params body scope cl pm (.ref c') ctv)
    (fin : ∀ (f c' : Addr) (H1 : Hp) (s' : Shared), Inv X pins σ H1 s' → LamX.ExtN H H1 → (∀ b, H1 b = none → H b = none) → NdefX.TabsN T H1 → H f = none → H1 f = some (FnU f L (cloFrom X.env.cells scope.names []) c') → H1 c' = some (LamX.CodeO c' (X.env.qual ++ "<lambda>")) → Q (.ref f) s') :
    wpAny (model X.prog X.w) X.A (eval (.Lambda params body scope pos) X.env) Q E s := by
  obtain ⟨ps, hP, ht, ha⟩ := (show NdefX.TabN H P nm from hT _ hm)
  have bP : s.heap.BuiltinsAt X.mg P := TB.bm.keeps I.bk
  have oP : s.heap.get? P = some { cls := .none, data := .fields ps } := I.hok P _ hP
  refine PySem.W.kla_eval hdef ?_
  cases hc : codeAmong pos ps.toList with
  | some cv =>
    obtain ⟨c', e, hco⟩ := ha pos cv hc
    subst e
    rw [hn] at hco
    refine PySem.W.kla_makeFunctionHit (mg := X.mg) (c := c) (P := P) (ps := ps) (closure_ok hfree) I.ok.glob (I.mod.glob.keeps I.bk) hcode (TB.code.keeps I.bk) oP ht hc bP fun ctv h' tk hx hsz => ?_
    have I1 : Inv X pins σ H { s with heap := h', toks := tk } := I.kept hx
    have nF : H h'.objs.size = none := I1.hok.fresh (Nat.le_refl _)
    have I2 := inv_fnU (L := L) (cl := cloFrom X.env.cells scope.names []) (c' := c') (t' := tk) (doc := .none) (pm := (X.mg "__name__").getD .none) (ctv := ctv) I1 rfl
    rw [hL] at I2
    exact fin h'.objs.size c' _ _ I2 (fun b o e n => (upd_ne (ne_of_none e nF)).trans e) (fun b e => none_upd e) (hT.ext fun b o e => (upd_ne (ne_of_none e nF)).trans e) nF upd_same ((upd_ne (ne_of_none hco nF)).trans hco)
  | none =>
    refine PySem.W.kla_makeFunction (mg := X.mg) (c := c) (P := P) (ps := ps) (closure_ok hfree) I.ok.glob (I.mod.glob.keeps I.bk) hcode (TB.code.keeps I.bk) oP ht hc TB.gP bP fun c' ctv h' tk hx hge hlt hrec htb => ?_
    obtain ⟨c2, oc, vs, t, e2, hoc, hd, hv⟩ := hrec
    cases e2
    have nC : H c' = none := I.hok.fresh hge
    have I1 := LamX.inv_table (t' := tk) (more := #[rawInt pos.line, rawInt pos.col, .ref c']) (h' := h') I hP (fun b o hb e => hx b o hb e) htb hge ⟨oc, vs, t, hoc, hd, hv⟩
    have ext : LamX.ExtN H (upd (upd H P (.tbl (ps ++ #[rawInt pos.line, rawInt pos.col, .ref c']))) c' (LamX.CodeO c' (X.env.qual ++ "<lambda>"))) := fun b o e n => by
      have b1 : b ≠ P := fun z => by rw [z, hP] at e; exact n ps (Option.some.inj e).symm
      rw [upd_ne (ne_of_none e nC), upd_ne b1]
      exact e
    have eL : (ps ++ #[rawInt pos.line, rawInt pos.col, .ref c']).toList = ps.toList ++ [rawInt pos.line, rawInt pos.col, .ref c'] := by simp
    have T1 : NdefX.TabsN T (upd (upd H P (.tbl (ps ++ #[rawInt pos.line, rawInt pos.col, .ref c']))) c' (LamX.CodeO c' (X.env.qual ++ "<lambda>"))) := fun p hp => by
      by_cases hb : p.1 = P
      · rw [hu p hp hb, hb]
        refine ⟨_, (upd_ne (ne_of_none hP nC)).trans upd_same, by rw [eL]; exact PySem.TriplesOk_snoc _ _ _ _ ht, fun p' cv hcv => ?_⟩
        rw [eL] at hcv
        rcases NdefX.among_app2 _ ht hcv with z | ⟨z, z1, z2⟩
        · obtain ⟨c0, e1, e2⟩ := ha p' cv z
          exact ⟨c0, e1, ext _ _ e2 LamX.codeO_ne⟩
        · refine ⟨c', z, ?_⟩
          rw [← z1, ← z2, hn]
          exact upd_same
      · obtain ⟨qs, a1, a2, a3⟩ := hT p hp
        refine ⟨qs, (upd_ne (ne_of_none a1 nC)).trans ((upd_ne hb).trans a1), a2, fun p' cv hcv => ?_⟩
        obtain ⟨c0, e1, e2⟩ := a3 p' cv hcv
        exact ⟨c0, e1, ext _ _ e2 LamX.codeO_ne⟩
    have nF := I1.hok.fresh (Nat.le_refl _)
    have I2 := inv_fnU (L := L) (cl := cloFrom X.env.cells scope.names []) (c' := c') (t' := tk) (doc := .none) (pm := (X.mg "__name__").getD .none) (ctv := ctv) I1 rfl
    rw [hL] at I2
    refine fin h'.objs.size c' _ _ I2 (fun b o e n => ?_) (fun b e => none_upd (none_upd (none_upd e))) (T1.ext fun b o e => (upd_ne (ne_of_none e nF)).trans e) (I.hok.fresh (Nat.le_trans hge (Nat.le_of_lt hlt))) upd_same ((upd_ne (Nat.ne_of_lt hlt)).trans upd_same)
    have e1 := ext b o e n
    exact (upd_ne (ne_of_none e1 nF)).trans e1
end
/-! ### a function made here, as an argument -/
section
variable {X : Cx} {S : Sx} {mk : Mkd} {ρ : Env} {Fb : Addr → Prop} {σ : L2.St} {H : Hp} {pins : List (Addr × Obj)} {s : Shared}
/-- the made function's words fit the frame -/
structure CapX (X : Cx) (L : LI) (scope : Scope) (js : List Nat) : Prop where
  sub : ∀ y ∈ scope.names, y.2 = .free → (X.env.scope.names.lookup y.1 = some .cell ∨ X.env.scope.names.lookup y.1 = some .free) ∧ y.1 ∈ L.fr
  sup : ∀ y ∈ L.fr, (y, NameKind.free) ∈ scope.names
  at_ : js.map (fun j => X.N[j]?) = L.fr.map some
theorem CapX.has {L : LI} {scope : Scope} {js : List Nat} (c : CapX X L scope js) (ok : X.Ok) : ∀ y ∈ scope.names, y.2 = .free → ∃ a, X.env.cells.lookup y.1 = some a := fun y hy e => ((c.sub y hy e).1.elim (fun z => ok.has _ (.inl z)) fun z => ok.has _ (.inr z))
theorem cap_len : ∀ {js : List Nat} {cs : List SV}, capOf ρ js = some cs → js.length = cs.length
  | [], cs, h => by cases h; rfl
  | j :: js, cs, h => by
    unfold capOf at h
    split at h
    · cases e : capOf ρ js with
      | none => rw [e] at h; cases h
      | some r => rw [e] at h; cases h; simp [cap_len e]
    · cases e : capOf ρ js with
      | none => rw [e] at h; cases h
      | some r => rw [e] at h; cases h; simp [cap_len e]
    · cases h
/-- the captured values -/
theorem cap_vals {C : Cn} (R : Rel C mk Fb ρ σ H) : ∀ {js : List Nat} {cs : List SV}, capOf ρ js = some cs → ∃ ws : List V, ws.length = js.length ∧ RSs C (bad Fb ρ σ) H ws cs ∧ ∀ (i j : Nat), js[i]? = some j → ∃ w, ws[i]? = some w ∧ σ[j]? = some (some w)
  | [], cs, h => by cases h; exact ⟨[], rfl, .nil, fun i j e => by simp at e⟩
  | j :: js, cs, h => by
    have step : ∀ {s : SV}, ρ[j]? = some (some s) → ((∃ d, s = .dat d) ∨ ∃ F, s = .fn F) → (capOf ρ js).map (s :: ·) = some cs → ∃ ws : List V, ws.length = (j :: js).length ∧ RSs C (bad Fb ρ σ) H ws cs ∧ ∀ (i k : Nat), (j :: js)[i]? = some k → ∃ w, ws[i]? = some w ∧ σ[k]? = some (some w) := fun {s} e1 e2 e3 => by
      obtain ⟨v, h1, h2⟩ := R.val j s e1 e2
      cases e : capOf ρ js with
      | none => rw [e] at e3; cases e3
      | some r =>
        rw [e] at e3; cases e3
        obtain ⟨ws, l, rs, at_⟩ := cap_vals R e
        refine ⟨v :: ws, by simp [l], .cons h2 rs, fun i k hk => ?_⟩
        cases i with
        | zero => simp at hk; subst hk; exact ⟨v, rfl, h1⟩
        | succ i =>
          obtain ⟨w, f1, f2⟩ := at_ i k (by simpa using hk)
          exact ⟨w, by simpa using f1, f2⟩
    unfold capOf at h
    split at h
    · rename_i d e; exact step e (.inl ⟨d, rfl⟩) h
    · rename_i F e; exact step e (.inr ⟨F, rfl⟩) h
    · cases h
theorem made_rel {id : Nat} {L : LI} {scope : Scope} {js : List Nat} {cs : List SV} {f c' : Addr} (I : Inv X pins σ H s) (R : Rel (cn X S) mk Fb ρ σ H) (hid : S.lam id = some L) (cp : CapX X L scope js) (hcs : capOf ρ js = some cs)
    (h1 : H f = some (FnU f L (cloFrom X.env.cells scope.names []) c')) (h2 : H c' = some (LamX.CodeO c' L.qual)) : PRel (cn X S) Fb ρ σ H (AdL X σ) (.fn (.clo id cs)) (.ref f) := by
  intro FF ⟨hF, hdom, hcell⟩ hd
  have has := cp.has I.ok
  have cm : ∀ {y : Str} {a : Addr}, (cloFrom X.env.cells scope.names []).lookup y = some a → X.env.cells.lookup y = some a := fun {y a} e => NdefX.clo_cm has e
  have up : ∀ {a : Addr} {o : HO}, H a = some o → addH H FF a = some o := fun {a o} e => by
    rw [addH_out]
    · exact e
    · cases z : FF a with
      | none => rfl
      | some u => have := hd a (by rw [z]; exact fun q => nomatch q); rw [e] at this; cases this
  obtain ⟨ws, l, rs, at_⟩ := cap_vals R hcs
  have hlen : js.length = L.fr.length := by
    have := congrArg List.length cp.at_
    simpa using this
  refine .clo hid (up h1) (up h2) (fun y a e => ?_) (fun x y a e1 e2 => I.ok.inj x y a (cm e1) (cm e2)) (l.trans hlen) (fun i y e => ?_) (rs.kp (M := fun _ => False) ?_ fun _ z => z.elim)
  · rcases cloFrom_mem (PySem.mem_of_lookup e) with z | ⟨z, _⟩
    · cases z
    · exact (cp.sub _ z rfl).2
  · have hy := cp.sup y (List.mem_of_getElem? e)
    obtain ⟨a, ha⟩ := has _ hy rfl
    have ej : (js.map fun j => X.N[j]?)[i]? = some (some y) := by rw [cp.at_, List.getElem?_map, e]; rfl
    rw [List.getElem?_map] at ej
    cases e2 : js[i]? with
    | none => rw [e2] at ej; cases ej
    | some j =>
      rw [e2] at ej
      have hN : X.N[j]? = some y := Option.some.inj ej
      obtain ⟨w, w1, w2⟩ := at_ i j e2
      obtain ⟨ob, u, c1, c2, c3⟩ := hcell y a ha (cp.sub _ hy rfl).1 j w hN w2
      exact ⟨a, w, NdefX.clo_has has hy ha, w1, ob, u, addH_in c1, c2, c3⟩
  · have off : ∀ a, H a ≠ none → ¬ clA (cloFrom X.env.cells scope.names []) a := fun a n ⟨y, hy⟩ => n (I.freeC y a (cm hy))
    refine ⟨fun a o e _ _ => ?_, fun a e => ?_⟩
    · rw [cutH_out (off a (by rw [e]; exact fun z => nomatch z))]
      exact up e
    · by_cases z : clA (cloFrom X.env.cells scope.names []) a
      · obtain ⟨y, hy⟩ := z
        exact I.freeC y a (cm hy)
      · rw [cutH_out z] at e
        exact (addH_none e).2
theorem ext_kp {H1 : Hp} (e : LamX.ExtN H H1) (n : ∀ b, H1 b = none → H b = none) : Kp (fun _ => False) H H1 := ⟨fun a o h t _ => e a o h t, n⟩
theorem p_lam {nm : Nat → Nat → Str} {id : Nat} {L : LI} {c P : Addr} {params : Arguments} {body : Expr} {scope : Scope} {pos : Pos} {js : List Nat} {cs : List SV} (hmk : MkOk mk) (TB : LamX.TabB X.base X.mg c P) (hcode : X.env.code = .ref c) (hm : (P, nm) ∈ S.T) (hn : nm pos.line pos.col = X.env.qual ++ "<lambda>")
    (hu : ∀ p ∈ S.T, p.1 = P → p.2 = nm) (hdef : defaultsOf params X.env = ([], [])) (hid : S.lam id = some L) (hq : L.qual = X.env.qual ++ "<lambda>") (cp : CapX X L scope js) (hcs : capOf ρ js = some cs)
    (hL : ∀ cl c' pm ctv, L.fd cl c' .none pm ctv = PySem.W.kla_fn "<lambda>" (X.env.qual ++ "<lambda>") params body scope cl pm (.ref c') ctv) : PE X (.Lambda params body scope pos) (tP (cn X S) mk (AdL X) ρ (.fn (.clo id cs)) ρ) := by
  refine ⟨fun pins s σ H Q I ⟨Fb, R, q⟩ => ?_⟩
  refine lamU_make (T := S.T) I TB hcode hm hn hu R.tabs hdef (cp.has I.ok) hL fun f c' H1 s' I1 eN nn T1 f0 f1 c1 => ?_
  have k := ext_kp eN nn
  have R1 : Rel (cn X S) mk Fb ρ σ H1 := R.grow hmk (fun _ z => z) (fun _ z => .inl z) (fun b z y => R.fb b z (nn b y)) k T1
  exact ⟨.ref f, H1, I1, rfl, q _ _ ⟨R1, k.dead, fun _ h => h, fun i ds e => ⟨ds, e⟩⟩ (made_rel I1 R1 hid cp hcs f1 (by rw [hq]; exact c1))⟩
/-- the slots of the defs that are made in this frame -/
def mkX (X : Cx) (S : Sx) (nd : Nat → Option (Nat × Scope)) : Mkd := fun i v H => ∃ id sc L f c', nd i = some (id, sc) ∧ S.lam id = some L ∧ v = some (V.ref f) ∧ H f = some (FnU f L (cloFrom X.env.cells sc.names []) c') ∧ H c' = some (LamX.CodeO c' L.qual)
theorem mkX_ok {nd : Nat → Option (Nat × Scope)} : MkOk (mkX X S nd) := fun i v H H' M ⟨id, sc, L, f, c', h1, h2, h3, h4, h5⟩ k => ⟨id, sc, L, f, c', h1, h2, h3, k.keep _ _ h4 (fun ps => fnU_ne ps) (fun _ xs z => fnU_ne2 xs z), k.keep _ _ h5 (fun ps => LamX.codeO_ne ps) fun _ xs z => by unfold LamX.CodeO at z; cases z⟩
theorem mkX_d {nd : Nat → Option (Nat × Scope)} : MkD (mkX X S nd) := fun i v H H' D ⟨id, sc, L, f, c', h1, h2, h3, h4, h5⟩ x => ⟨id, sc, L, f, c', h1, h2, h3, x.at h4 (fun _ z => by unfold FnU at z; cases z), x.at h5 fun _ z => by unfold LamX.CodeO at z; cases z⟩
theorem p_made {nd : Nat → Option (Nat × Scope)} {i id : Nat} {sc : Scope} {L : LI} {x : Str} {js : List Nat} {cs : List SV} {pos : Pos} (hN : X.N[i]? = some x) (hv : Vis X.env.scope x) (hd : (x == ("__debug__" : Str)) = false) (hcd : (x == ("__classdict__" : Str)) = false) (h : ρ[i]? = some (some .mk))
    (hnd : nd i = some (id, sc)) (hid : S.lam id = some L) (cp : CapX X L sc js) (hcs : capOf ρ js = some cs) : PE X (.Name x pos) (tP (cn X S) (mkX X S nd) (AdL X) ρ (.fn (.clo id cs)) ρ) := by
  refine ⟨fun pins s σ H Q I ⟨Fb, R, q⟩ => ?_⟩
  obtain ⟨v, h1, id', sc', L', f, c', e1, e2, e3, e4, e5⟩ := R.mks i h
  rw [hnd] at e1; cases e1
  rw [hid] at e2; cases e2
  cases e3
  refine (pe_var (pos := pos) hN hv hd hcd).run pins s σ H Q I ⟨.ref f, h1, q _ _ (.refl R) (made_rel I R hid cp hcs e4 e5)⟩
end
end Ev
set_option Elab.async false
set_option linter.all false
set_option maxRecDepth 100000
set_option maxHeartbeats 1000000
namespace Ev
open PySem PySem.Spec PyProof.Rows L2
/-! ### a body's beginning and end -/
theorem outA_ok : ∀ {as as' : List Arg} {ρ : Env}, outA as ρ = some as' → Shape as as' ∧ ∀ (j : Nat) (ds : List D), as'[j]? = some (.par ds) → ρ[j]? = some (some (.par ds))
  | [], as', ρ, h => by
    unfold outA at h
    cases h
    exact ⟨True.intro, fun j ds e => by simp at e⟩
  | .par xs :: as, as', some (.par ds) :: ρ, h => by
    have h : (outA as ρ).map (.par ds :: ·) = some as' := h
    cases e : outA as ρ with
    | none => rw [e] at h; cases h
    | some t =>
      rw [e] at h; cases h
      obtain ⟨h1, h2⟩ := outA_ok e
      refine ⟨h1, fun j es ej => ?_⟩
      cases j with
      | zero => simp at ej; subst ej; rfl
      | succ j => simpa using h2 j es (by simpa using ej)
  | .par xs :: as, as', [], h => by unfold outA at h; cases h
  | .par xs :: as, as', none :: ρ, h => by unfold outA at h; cases h
  | .par xs :: as, as', some (.dat d) :: ρ, h => by unfold outA at h; cases h
  | .par xs :: as, as', some (.own d) :: ρ, h => by unfold outA at h; cases h
  | .par xs :: as, as', some (.ro d) :: ρ, h => by unfold outA at h; cases h
  | .par xs :: as, as', some (.fn d) :: ρ, h => by unfold outA at h; cases h
  | .par xs :: as, as', some .mk :: ρ, h => by unfold outA at h; cases h
  | .dat d :: as, as', [], h => by unfold outA at h; cases h
  | .ro d :: as, as', [], h => by unfold outA at h; cases h
  | .fn d :: as, as', [], h => by unfold outA at h; cases h
  | .dat d :: as, as', o :: ρ, h => by
    have h : (outA as ρ).map (.dat d :: ·) = some as' := h
    cases e : outA as ρ with
    | none => rw [e] at h; cases h
    | some t =>
      rw [e] at h; cases h
      obtain ⟨h1, h2⟩ := outA_ok e
      refine ⟨⟨rfl, h1⟩, fun j es ej => ?_⟩
      cases j with
      | zero => simp at ej
      | succ j => simpa using h2 j es (by simpa using ej)
  | .ro d :: as, as', o :: ρ, h => by
    have h : (outA as ρ).map (.ro d :: ·) = some as' := h
    cases e : outA as ρ with
    | none => rw [e] at h; cases h
    | some t =>
      rw [e] at h; cases h
      obtain ⟨h1, h2⟩ := outA_ok e
      refine ⟨⟨rfl, h1⟩, fun j es ej => ?_⟩
      cases j with
      | zero => simp at ej
      | succ j => simpa using h2 j es (by simpa using ej)
  | .fn d :: as, as', o :: ρ, h => by
    have h : (outA as ρ).map (.fn d :: ·) = some as' := h
    cases e : outA as ρ with
    | none => rw [e] at h; cases h
    | some t =>
      rw [e] at h; cases h
      obtain ⟨h1, h2⟩ := outA_ok e
      refine ⟨⟨rfl, h1⟩, fun j es ej => ?_⟩
      cases j with
      | zero => simp at ej
      | succ j => simpa using h2 j es (by simpa using ej)
/-- more slots behind the arguments, none of which holds a list -/
structure Tail (C : Cn) (B : Addr → Prop) (H : Hp) (ρt : Env) (σt : L2.St) : Prop where
  len : ρt.length = σt.length
  val : ∀ (i : Nat) (s : SV), ρt[i]? = some (some s) → ((∃ d, s = .dat d) ∨ ∃ F, s = .fn F) ∧ ∃ v, σt[i]? = some (some v) ∧ RS C B H v s
section
variable {C : Cn} {mk : Mkd} {Fb Fbx : Addr → Prop} {as as' : List Arg} {vs : List V} {H H' : Hp} {ρt ρ' : Env} {σt σ' : L2.St}
theorem app_cases {α : Type} {xs ys : List α} {i : Nat} {x : α} (h : (xs ++ ys)[i]? = some x) : (i < xs.length ∧ xs[i]? = some x) ∨ (xs.length ≤ i ∧ ys[i - xs.length]? = some x) := by
  by_cases hi : i < xs.length
  · rw [List.getElem?_append_left hi] at h; exact .inl ⟨hi, h⟩
  · rw [List.getElem?_append_right (by omega)] at h; exact .inr ⟨by omega, h⟩
theorem tail_mut (t : Tail C (bad Fb (aenv as) (vs.map some)) H ρt σt) (hl : as.length = vs.length) {i : Nat} {ds : List D} (h : mutOf (aenv as ++ ρt)[i]? = some ds) : mutOf (aenv as)[i]? = some ds ∧ i < as.length := by
  have la : (aenv as).length = as.length := by unfold aenv; simp
  have go : ∀ {s : SV}, (aenv as ++ ρt)[i]? = some (some s) → mutOf (some (some s)) ≠ none → (aenv as)[i]? = some (some s) ∧ i < as.length := fun {s} e n => by
    rcases app_cases e with ⟨h1, h2⟩ | ⟨_, h2⟩
    · exact ⟨h2, by rw [← la]; exact h1⟩
    · rcases (t.val _ _ h2).1 with ⟨d, rfl⟩ | ⟨F, rfl⟩ <;> exact absurd rfl n
  rcases mutOf_cases h with e | e
  · obtain ⟨h1, h2⟩ := go e (fun z => nomatch z)
    exact ⟨by rw [h1]; rfl, h2⟩
  · obtain ⟨h1, h2⟩ := go e (fun z => nomatch z)
    exact ⟨by rw [h1]; rfl, h2⟩
theorem tail_mutA (t : Tail C (bad Fb (aenv as) (vs.map some)) H ρt σt) (hl : as.length = vs.length) (a : Addr) : mutA (aenv as ++ ρt) (vs.map some ++ σt) a ↔ mutA (aenv as) (vs.map some) a := by
  have la : (aenv as).length = as.length := by unfold aenv; simp
  constructor
  · rintro ⟨i, ds, e1, e2⟩
    obtain ⟨h1, h2⟩ := tail_mut t hl e1
    rw [List.getElem?_append_left (by simp; omega)] at e2
    exact ⟨i, ds, h1, e2⟩
  · rintro ⟨i, ds, e1, e2⟩
    have hi : i < as.length := (List.getElem?_eq_some_iff.mp (aenv_mut e1)).1
    exact ⟨i, ds, by rw [List.getElem?_append_left (by rw [la]; exact hi)]; exact e1, by rw [List.getElem?_append_left (by simp; omega)]; exact e2⟩
theorem rel_begin (R : Rel C mk0 Fb (aenv as) (vs.map some) H) (t : Tail C (bad Fb (aenv as) (vs.map some)) H ρt σt) : Rel C mk Fb (aenv as ++ ρt) (vs.map some ++ σt) H := by
  have la : (aenv as).length = as.length := by unfold aenv; simp
  have hl : as.length = vs.length := by have := R.len; rw [la] at this; simpa using this
  have lv : (vs.map some).length = as.length := by simp [hl]
  have hb : ∀ a, bad Fb (aenv as ++ ρt) (vs.map some ++ σt) a → bad Fb (aenv as) (vs.map some) a ∨ H a = none := fun a z => .inl (z.elim .inl fun m => .inr ((tail_mutA t hl a).mp m))
  refine ⟨by rw [List.length_append, List.length_append, la, lv, t.len], R.fb, fun i s e c => ?_, fun i ds e => ?_, fun i j a e1 e2 e3 e4 => ?_, fun i ns e => ?_, fun i e => ?_, R.tabs⟩
  · rcases app_cases e with ⟨h1, h2⟩ | ⟨h1, h2⟩
    · obtain ⟨v, v1, v2⟩ := R.val i s h2 c
      exact ⟨v, by rw [List.getElem?_append_left (by omega)]; exact v1, v2.bad hb⟩
    · obtain ⟨_, v, v1, v2⟩ := t.val _ _ h2
      refine ⟨v, ?_, v2.bad hb⟩
      rw [List.getElem?_append_right (by omega), lv, ← la]
      exact v1
  · obtain ⟨h1, h2⟩ := tail_mut t hl e
    obtain ⟨a, xs, r1, r2, r3, r4⟩ := R.mt i ds h1
    exact ⟨a, xs, by rw [List.getElem?_append_left (by omega)]; exact r1, r2, r3, r4.bad hb⟩
  · cases m1 : mutOf (aenv as ++ ρt)[i]? with
    | none => exact absurd m1 e1
    | some d1 =>
      cases m2 : mutOf (aenv as ++ ρt)[j]? with
      | none => exact absurd m2 e2
      | some d2 =>
        obtain ⟨g1, g2⟩ := tail_mut t hl m1
        obtain ⟨g3, g4⟩ := tail_mut t hl m2
        rw [List.getElem?_append_left (by omega)] at e3 e4
        exact R.inj i j a (by rw [g1]; exact fun z => nomatch z) (by rw [g3]; exact fun z => nomatch z) e3 e4
  · rcases app_cases e with ⟨h1, h2⟩ | ⟨h1, h2⟩
    · obtain ⟨a, r1, r2⟩ := R.ro i ns h2
      exact ⟨a, by rw [List.getElem?_append_left (by omega)]; exact r1, r2⟩
    · rcases (t.val _ _ h2).1 with ⟨d, z⟩ | ⟨F, z⟩ <;> cases z
  · rcases app_cases e with ⟨h1, h2⟩ | ⟨h1, h2⟩
    · obtain ⟨v, _, z⟩ := R.mks i h2
      exact z.elim
    · rcases (t.val _ _ h2).1 with ⟨d, z⟩ | ⟨F, z⟩ <;> cases z
theorem aend_rel (R : Rel C mk0 Fb (aenv as) (vs.map some) H) (hl : as.length = vs.length) (k : Kp (mutA (aenv as) (vs.map some)) H H') (sh : Shape as as') (hp : ∀ (j : Nat) (ds : List D), as'[j]? = some (.par ds) → ρ'[j]? = some (some (.par ds)) ∧ ∀ v, vs[j]? = some v → σ'[j]? = some (some v))
    (R' : Rel C mk Fbx ρ' σ' H') (h2 : ∀ b, Fbx b → Fb b ∨ H b = none) : Rel C mk0 Fbx (aenv as') (vs.map some) H' := by
  have la : (aenv as').length = as.length := by unfold aenv; rw [List.length_map, sh.len]
  have back : ∀ a, mutA (aenv as') (vs.map some) a → mutA (aenv as) (vs.map some) a := fun a ⟨j, ds, e1, e2⟩ => by
    obtain ⟨es, q⟩ := sh.getR (aenv_mut e1)
    exact ⟨j, es, by rw [aenv_at q]; rfl, e2⟩
  have fore : ∀ a, mutA (aenv as) (vs.map some) a → mutA (aenv as') (vs.map some) a := fun a ⟨j, ds, e1, e2⟩ => by
    rcases sh.get (aenv_mut e1) with ⟨_, es, _, q⟩ | ⟨n, _⟩
    · exact ⟨j, es, by rw [aenv_at q]; rfl, e2⟩
    · exact absurd rfl (n ds)
  have inn : ∀ a, mutA (aenv as') (vs.map some) a → mutA ρ' σ' a := fun a ⟨j, ds, e1, e2⟩ => by
    obtain ⟨q1, q2⟩ := hp j ds (aenv_mut e1)
    exact ⟨j, ds, by rw [q1]; rfl, q2 _ (map_some_get e2)⟩
  have hb : ∀ a, bad Fbx (aenv as') (vs.map some) a → bad Fb (aenv as) (vs.map some) a ∨ H a = none := fun a z => z.elim (fun q => (h2 a q).elim (fun x => .inl (.inl x)) .inr) fun m => .inl (.inr (back a m))
  refine ⟨by rw [la]; simp [hl], R'.fb, fun i s e c => ?_, fun i ds e => ?_, fun i j a e1 e2 e3 e4 => ?_, fun i ns e => ?_, fun i e => ?_, R'.tabs⟩
  · obtain ⟨a, e1, e2⟩ := aenv_get e
    have hi : i < as.length := by rw [sh.len]; exact (List.getElem?_eq_some_iff.mp e1).1
    have hx := List.getElem?_eq_getElem hi
    rcases sh.get hx with ⟨_, es, q, q2⟩ | ⟨n, q⟩
    · rw [e1] at q2; cases q2
      cases e2
      rcases c with ⟨_, z⟩ | ⟨_, z⟩ <;> cases z
    · rw [e1] at q
      have q := Option.some.inj q
      obtain ⟨v, h1, h3⟩ := R.val i s (by rw [aenv_at hx, ← q, e2]) c
      exact ⟨v, h1, (h3.bad hb).kp k fun b m => .inr (fore b m)⟩
  · have e1 := aenv_mut e
    obtain ⟨q1, q2⟩ := hp i ds e1
    have hi : i < vs.length := by rw [← hl, sh.len]; exact (List.getElem?_eq_some_iff.mp e1).1
    have hv := q2 _ (List.getElem?_eq_getElem hi)
    obtain ⟨a, xs, r1, r2, r3, r4⟩ := R'.mt i ds (by rw [q1]; rfl)
    rw [hv] at r1
    have r1 := Option.some.inj (Option.some.inj r1)
    exact ⟨a, xs, map_some_at (by rw [List.getElem?_eq_getElem hi, r1]), r2, r3, r4.bad fun b z => .inl (z.elim .inl fun m => .inr (inn b m))⟩
  · have up : ∀ {i : Nat}, mutOf (aenv as')[i]? ≠ none → mutOf (aenv as)[i]? ≠ none := fun {i} z => by
      cases m : mutOf (aenv as')[i]? with
      | none => exact absurd m z
      | some ds =>
        obtain ⟨es, q⟩ := sh.getR (aenv_mut m)
        rw [aenv_at q]
        exact fun z => nomatch z
    exact R.inj i j a (up e1) (up e2) e3 e4
  · obtain ⟨a, e1, e2⟩ := aenv_get e
    have hi : i < as.length := by rw [sh.len]; exact (List.getElem?_eq_some_iff.mp e1).1
    have hx := List.getElem?_eq_getElem hi
    rcases sh.get hx with ⟨_, es, q, q2⟩ | ⟨n, q⟩
    · rw [e1] at q2; cases q2; cases e2
    · rw [e1] at q
      have q := Option.some.inj q
      obtain ⟨b, h1, h3⟩ := R.ro i ns (by rw [aenv_at hx, ← q, e2])
      exact ⟨b, h1, h3.kp k⟩
  · obtain ⟨a, e1, e2⟩ := aenv_get e
    cases a <;> cases e2
theorem aend {r : EV} {v : V} (R : Rel C mk0 Fb (aenv as) (vs.map some) H) (t : Tail C (bad Fb (aenv as) (vs.map some)) H ρt σt) (s : StepS C mk Fb (aenv as ++ ρt) ρ' (vs.map some ++ σt) σ' H H') (ho : outA as ρ' = some as') (rv : RVS C mk Fb (newA (aenv as ++ ρt) (vs.map some ++ σt) H) ρ' σ' H' v r) : AEnd C Fb as as' vs r H H' v := by
  have la : (aenv as).length = as.length := by unfold aenv; simp
  have hl : as.length = vs.length := by have := R.len; rw [la] at this; simpa using this
  obtain ⟨sh, hpar⟩ := outA_ok ho
  have k : Kp (mutA (aenv as) (vs.map some)) H H' := s.kp.mono fun a m => (tail_mutA t hl a).mp m
  have hp : ∀ (j : Nat) (ds : List D), as'[j]? = some (.par ds) → ρ'[j]? = some (some (.par ds)) ∧ ∀ v, vs[j]? = some v → σ'[j]? = some (some v) := fun j ds e => by
    refine ⟨hpar j ds e, fun v hv => ?_⟩
    obtain ⟨es, q⟩ := sh.getR e
    have hj : j < as.length := (List.getElem?_eq_some_iff.mp q).1
    have h1 := (s.par j es (by rw [List.getElem?_append_left (by rw [la]; exact hj), aenv_at q]; rfl)).2
    rw [h1, List.getElem?_append_left (by simp; omega)]
    exact map_some_at hv
  have inn : ∀ a, mutA (aenv as') (vs.map some) a → mutA ρ' σ' a := fun a ⟨j, ds, e1, e2⟩ => by
    obtain ⟨q1, q2⟩ := hp j ds (aenv_mut e1)
    exact ⟨j, ds, by rw [q1]; rfl, q2 _ (map_some_get e2)⟩
  have hbad : ∀ a, bad Fb (aenv as') (vs.map some) a → bad Fb ρ' σ' a := fun a z => z.elim .inl fun m => .inr (inn a m)
  refine ⟨aend_rel R hl k sh hp s.rel fun _ z => .inl z, k, sh, ?_⟩
  cases r with
  | dat d => exact RD.bad (fun a z => .inl (hbad a z)) rv
  | fresh ds =>
    obtain ⟨a, xs, e, hA, h1, h2, h3, h4⟩ := rv
    have hn : H a = none := by
      rcases hA with z | z
      · exact z
      · obtain ⟨j, es, e1, e2⟩ := (tail_mutA t hl a).mp z
        rcases sh.get (aenv_mut e1) with ⟨_, fs, _, q⟩ | ⟨n, _⟩
        · exact absurd (.inr (inn a ⟨j, fs, by rw [aenv_at q]; rfl, e2⟩)) h1
        · exact absurd rfl (n es)
    exact ⟨a, xs, e, hn, fun z => h1 (hbad a z), h2, h3.bad fun b z => .inl (z.elim (fun q => .inl (hbad b q)) .inr), aend_rel R hl k sh hp h4 fun b z => z.elim .inl fun q => .inr (by rw [q]; exact hn)⟩
/-- how a body's end is a call's end -/
theorem ends_of {r : EV} {Q : VK} {fl : Fl} (R : Rel C mk0 Fb (aenv as) (vs.map some) H) (t : Tail C (bad Fb (aenv as) (vs.map some)) H ρt σt) (he : endOf as fl = .ok r as') (hQ : ∀ v H', AEnd C Fb as as' vs r H H' v → Q v H') :
    tS C mk (aenv as ++ ρt) fl { nx := fun _ H' => Q .non H', rt := Q } (vs.map some ++ σt) H := by
  refine ⟨Fb, rel_begin R t, ?_⟩
  cases fl with
  | nx ρ' =>
    intro σ' H' s
    unfold endOf at he
    simp only at he
    cases ho : outA as ρ' with
    | none => rw [ho] at he; cases he
    | some x => rw [ho] at he; cases he; exact hQ .non H' (aend R t s ho RD.non)
  | rt r' ρ' =>
    intro v σ' H' s rv
    unfold endOf at he
    simp only at he
    cases ho : outA as ρ' with
    | none => rw [ho] at he; cases he
    | some x => rw [ho] at he; cases he; exact hQ v H' (aend R t s ho rv)
  | bk ρ' => unfold endOf at he; cases he
  | ct ρ' => unfold endOf at he; cases he
  | exc c x ρ' =>
    unfold endOf at he
    simp only at he
    cases ho : outA as ρ' with
    | none => rw [ho] at he; cases he
    | some x => rw [ho] at he; cases he
  | bad => unfold endOf at he; cases he
end
end Ev
set_option Elab.async false
set_option linter.all false
set_option maxRecDepth 100000
set_option maxHeartbeats 1000000
namespace Ev
open PySem PySem.Spec PyProof.Rows L2
/-! ### a def runs -/
/-- what is known of a def of the text -/
structure DefF (K : PySem.W.Frag) (mg : Str → Option Value) (f qual : Str) (ps N : List Str) (scope : Scope) (body : List Stmt) (fa : Addr) (cdv : Value) : Prop where
  ex : ∃ (name : Str) (params : Arguments) (oc kV doc pm ct : Value) (an od : Option Addr) (osl : Array (Option Value)), K.lookup fa = some ⟨oc, od, .func (PySem.W.fnOf name qual params body scope .none kV doc pm an cdv ct), osl⟩ ∧ PlainP params ps
  mg : mg f = some (.ref fa)
  kp : PySem.W.keepIn K (.ref fa) = true
  cd : PySem.W.codeIn K cdv qual = true
  nd : ps.Nodup
  sc : FnScope N ps scope
section
variable {P : Program} {w : World} {base : Heap} {S : Sx} {K : PySem.W.Frag} {mg : Str → Option Value} {G : Prog} {k : Nat} {sig : Str → Option (List Str)} {f qual : Str} {ps N : List Str} {scope : Scope} {body : List Stmt} {fa : Addr} {cdv : Value} {d : FD}
theorem none_tail {C : Cn} {B : Addr → Prop} {H : Hp} {n m : Nat} (h : n = m) : Tail C B H (List.replicate n none) (List.replicate m none) := by
  subst h
  refine ⟨by simp, fun i s e => ?_⟩
  rw [List.getElem?_replicate] at e
  split at e <;> cases e
theorem def_run (mk : Cx → Mkd) (hf : G.fns f = some d) (hnp : d.np = ps.length) (hnl : d.nl = N.length) (F : DefF K mg f qual ps N scope body fa cdv) (hr : Runs P w base ⟨K, mg, S.T, S.lam⟩ (run G k) k sig)
    (hbody : ∀ (A : Around) (outer : List PySem.Env) (s : Shared) (H : Hp) (E : XK), CallX (cxOf CXe P w K mg base N qual scope fa cdv A outer s H E) S (run G k) k sig →
      ∀ ρ, PSs (cxOf CXe P w K mg base N qual scope fa cdv A outer s H E) body (tS ⟨K, mg, S.T, S.lam⟩ (mk (cxOf CXe P w K mg base N qual scope fa cdv A outer s H E)) ρ (evB (run G k) G.fuel d.body ρ))) :
    DefG P w base ⟨K, mg, S.T, S.lam⟩ (run G (k + 1)) (k + 1) f ps := by
  obtain ⟨name, params, oc, kV, doc, pm, ct, an, od, osl, lk, pp⟩ := F.ex
  refine ⟨fa, PySem.W.fnOf name qual params body scope .none kV doc pm an cdv ct, F.mg, F.kp, pp, rfl, F.nd, fun A outer s H args us vs Q E hroom hg e0 hb r hl hsp => ?_⟩
  obtain ⟨Fb, as, r0, as', R, _, hΦ, hQ⟩ := hsp
  have la : as.length = vs.length := by have := R.len; unfold aenv at this; simpa using this
  refine LamX.run_ofS (N := N) (ps := ps) lk F.cd F.sc hroom e0 hb r hl fun hr' => ?_
  refine ⟨_, hbody A outer s H E ⟨hr, hr', hg⟩ (aenv as ++ List.replicate (d.nl - d.np) none), ?_⟩
  have hres : endOf as (evB (run G k) G.fuel d.body (aenv as ++ List.replicate (d.nl - d.np) none)) = .ok r0 as' := by
    unfold run at hΦ
    rw [hf] at hΦ
    simp only at hΦ
    split at hΦ
    · exact hΦ
    · cases hΦ
  exact ends_of R (none_tail (by rw [hnl, hnp, hl])) hres hQ
/-! ### a function that a def made runs -/
structure CloF (L : LI) (d : LD) (ps N : List Str) (scope : Scope) (params : Arguments) : Prop where
  pp : PlainP params ps
  nd : ps.Nodup
  sc : NdefX.NScope N ps L.fr scope
  np : d.np = ps.length
  nc : d.nc = L.fr.length
  nl : d.nl = N.length
theorem RSs.get {C : Cn} {B : Addr → Prop} {H : Hp} : ∀ {vs : List V} {ds : List SV} {i : Nat} {s : SV}, RSs C B H vs ds → ds[i]? = some s → ∃ v, vs[i]? = some v ∧ RS C B H v s
  | _, _, _, _, .nil, e => by simp at e
  | _, _, 0, _, .cons r _, e => by simp at e; subst e; exact ⟨_, rfl, r⟩
  | _, _, i + 1, x, .cons _ t, e => by
    obtain ⟨u, h1, h2⟩ := RSs.get (i := i) (s := x) t (by simpa using e)
    exact ⟨u, by simpa using h1, h2⟩
theorem RSs.len {C : Cn} {B : Addr → Prop} {H : Hp} : ∀ {vs : List V} {ds : List SV}, RSs C B H vs ds → vs.length = ds.length
  | _, _, .nil => rfl
  | _, _, .cons _ t => by simp [RSs.len t]
theorem caps_tail {C : Cn} {B : Addr → Prop} {H : Hp} {ws : List V} {caps : List SV} {n m : Nat} (h : n = m) (r : RSs C B H ws caps) : Tail C B H (caps.map some ++ List.replicate n none) (ws.map some ++ List.replicate m none) := by
  subst h
  have hl := r.len
  refine ⟨by simp [hl], fun i s e => ?_⟩
  rcases app_cases e with ⟨h1, h2⟩ | ⟨h1, h2⟩
  · rw [List.getElem?_map] at h2
    cases e2 : caps[i]? with
    | none => rw [e2] at h2; cases h2
    | some t =>
      rw [e2] at h2; cases h2
      obtain ⟨v, v1, v2⟩ := r.get e2
      refine ⟨?_, v, ?_, v2⟩
      · cases v2 with
        | dat _ => exact .inl ⟨_, rfl⟩
        | glob _ _ => exact .inr ⟨_, rfl⟩
        | clo _ _ _ _ _ _ _ _ => exact .inr ⟨_, rfl⟩
      · rw [List.getElem?_append_left (by simp at h1 ⊢; omega)]
        exact map_some_at v1
  · rw [List.getElem?_replicate] at h2
    split at h2 <;> cases h2
/-- arguments that are no functions made in defs stand without the cells -/
theorem rel_cut {C : Cn} {Fb : Addr → Prop} {as : List Arg} {vs : List V} {H : Hp} {T : Addr → Prop} (R : Rel C mk0 Fb (aenv as) (vs.map some) H) (hp : as.all Arg.plain = true) (hS : CellAt H T) : Rel C mk0 (fun b => Fb b ∧ ¬ T b) (aenv as) (vs.map some) (cutH H T) := by
  have hb : ∀ a, bad (fun b => Fb b ∧ ¬ T b) (aenv as) (vs.map some) a → bad Fb (aenv as) (vs.map some) a ∨ cutH H T a = none := fun a z => .inl (z.elim (fun q => .inl q.1) .inr)
  have hb0 : ∀ a, bad (fun b => Fb b ∧ ¬ T b) (aenv as) (vs.map some) a → bad Fb (aenv as) (vs.map some) a ∨ H a = none := fun a z => .inl (z.elim (fun q => .inl q.1) .inr)
  refine ⟨R.len, fun b z => by rw [cutH_out z.2]; exact R.fb b z.1, fun i s e c => ?_, fun i ds e => ?_, R.inj, fun i ns e => ?_, fun i e => ?_, TabsN.cut hS R.tabs⟩
  · obtain ⟨v, h1, h2⟩ := R.val i s e c
    refine ⟨v, h1, ?_⟩
    rcases c with ⟨d, rfl⟩ | ⟨F, rfl⟩
    · cases h2 with
      | dat r => exact (RS.dat (r.cut hS)).bad hb
    · obtain ⟨a, e1, e2⟩ := aenv_get e
      have hpa := List.all_eq_true.mp hp a (List.mem_of_getElem? e1)
      cases a <;> cases e2
      cases F with
      | clo id cs => cases hpa
      | glob x =>
        cases h2 with
        | glob g1 g2 => exact .glob g1 g2
  · obtain ⟨a, xs, h1, h2, h3, h4⟩ := R.mt i ds e
    exact ⟨a, xs, h1, fun z => h2 z.1, cutH_keep hS h3 (fun _ z => nomatch z), (h4.cut hS).bad hb⟩
  · obtain ⟨a, h1, h2⟩ := R.ro i ns e
    refine ⟨a, h1, ?_⟩
    rcases h2 with ⟨o, h⟩ | h
    · exact .inl ⟨o, cutH_keep hS h fun _ z => nomatch z⟩
    · exact .inr h
  · obtain ⟨v, _, h⟩ := R.mks i e
    exact h.elim
/-- the captured cells -/
theorem cells_at {H : Hp} {L : LI} {cl : List (Str × Addr)} {ws : List V} (h4 : ∀ y c, cl.lookup y = some c → y ∈ L.fr) (h7 : ∀ (i : Nat) (y : Str), L.fr[i]? = some y → ∃ c w, cl.lookup y = some c ∧ ws[i]? = some w ∧ IsCellO H c w) : CellAt H (clA cl) := fun a ⟨y, hy⟩ => by
  obtain ⟨i, hi⟩ := List.mem_iff_getElem?.mp (h4 y a hy)
  obtain ⟨c, w, e1, _, ob, u, e2, _⟩ := h7 i y hi
  rw [hy] at e1; cases e1
  exact ⟨ob, e2⟩
theorem back_end {C : Cn} {Fb : Addr → Prop} {as as' : List Arg} {vs : List V} {H H' : Hp} {T : Addr → Prop} {r : EV} {v : V} (R : Rel C mk0 Fb (aenv as) (vs.map some) H) (hp : as.all Arg.plain = true) (hS : CellAt H T) (A : AEnd C (fun b => Fb b ∧ ¬ T b) as as' vs r (cutH H T) H' v) (hn : ∀ a, T a → H' a = none) :
    AEnd C Fb as as' vs r H (addH H' (resH H T)) v := by
  have up : ∀ {a : Addr} {o : HO}, H' a = some o → addH H' (resH H T) a = some o := fun {a o} e => by
    rw [addH_out]
    · exact e
    · exact resH_out fun z => by rw [hn a z] at e; cases e
  have inT : ∀ a, T a → addH H' (resH H T) a = H a := fun a z => by
    obtain ⟨ob, e⟩ := hS a z
    rw [e]
    exact addH_in (by rw [resH_in z]; exact e)
  have k1 : Kp (fun _ => False) H' (addH H' (resH H T)) := ⟨fun a o h _ _ => up h, fun a h => (addH_none h).2⟩
  have kp : Kp (mutA (aenv as) (vs.map some)) H (addH H' (resH H T)) := by
    refine ⟨fun a o h t m => ?_, fun a h => ?_⟩
    · by_cases z : T a
      · rw [inT a z]; exact h
      · exact up (A.kp.keep a o (by rw [cutH_out z]; exact h) t m)
    · by_cases z : T a
      · rw [inT a z] at h; exact h
      · have := A.kp.none a (addH_none h).2
        rw [cutH_out z] at this; exact this
  have la : as.length = vs.length := by have := R.len; unfold aenv at this; simpa using this
  -- what is forbidden, with the cells
  have bad2 : ∀ a, bad Fb (aenv as') (vs.map some) a → bad (fun b => Fb b ∧ ¬ T b) (aenv as') (vs.map some) a ∨ H' a = none := fun a z => by
    rcases z with z | m
    · by_cases y : T a
      · exact .inr (hn a y)
      · exact .inl (.inl ⟨z, y⟩)
    · exact .inl (.inr m)
  have tabs : ∀ {Fx : Addr → Prop}, Rel C mk0 Fx (aenv as') (vs.map some) H' → NdefX.TabsN C.T (addH H' (resH H T)) := fun {Fx} R' => R'.tabs.ext fun b o e => up e
  have grow : ∀ {Fx Fy : Addr → Prop}, Rel C mk0 Fx (aenv as') (vs.map some) H' → (∀ b, Fy b → Fx b ∨ (T b ∧ Fb b)) → (∀ b, Fx b → Fy b) → Rel C mk0 Fy (aenv as') (vs.map some) (addH H' (resH H T)) := fun {Fx Fy} R' h1 h2 => by
    refine R'.grow mk0_ok h2 (fun a z => (h1 a z).elim .inl fun q => .inr (hn a q.1)) (fun a z q => ?_) k1 (tabs R')
    rcases h1 a z with y | y
    · exact R'.fb a y (addH_none q).2
    · rw [inT a y.1] at q
      exact R.fb a y.2 q
  refine ⟨grow A.rel (fun b z => ?_) fun b z => z.1, kp, A.shape, ?_⟩
  · by_cases y : T b
    · exact .inr ⟨y, z⟩
    · exact .inl ⟨z, y⟩
  · have val := A.val
    cases r with
    | dat d => exact (RD.bad bad2 val).kp k1 fun _ z => z.elim
    | fresh ds =>
      obtain ⟨a, xs, e, v1, v2, v3, v4, v5⟩ := val
      have nT : ¬ T a := fun z => by rw [hn a z] at v3; cases v3
      rw [cutH_out nT] at v1
      refine ⟨a, xs, e, v1, fun z => ?_, up v3, ((v4.bad fun b z => ?_).kp k1 fun _ z => z.elim), grow v5 (fun b z => ?_) fun b z => z.elim (fun q => .inl q.1) .inr⟩
      · rcases bad2 a z with q | q
        · exact v2 q
        · rw [v3] at q; cases q
      · rcases z with z | z
        · exact (bad2 b z).elim (fun q => .inl (.inl q)) .inr
        · exact .inl (.inr z)
      · rcases z with z | z
        · by_cases y : T b
          · exact .inr ⟨y, z⟩
          · exact .inl (.inl ⟨z, y⟩)
        · exact .inl (.inr z)
end
end Ev
set_option Elab.async false
set_option linter.all false
set_option maxRecDepth 100000
set_option maxHeartbeats 1000000
namespace Ev
open PySem PySem.Spec PyProof.Rows L2
section
variable {P : Program} {w : World} {base : Heap} {S : Sx} {K : PySem.W.Frag} {mg : Str → Option Value} {G : Prog} {k : Nat} {sig : Str → Option (List Str)} {ps N : List Str} {scope : Scope} {params : Arguments} {id : Nat} {L : LI} {ld : LD}
/-- one function that a def made keeps its promise -/
def CloR (P : Program) (w : World) (base : Heap) (C : Cn) (Φ : FV → List Arg → Res) (k : Nat) (id : Nat) : Prop :=
  ∀ (caps : List SV) (fa : Addr) (A : Around) (outer : List PySem.Env) (s : Shared) (H : Hp) (us : List Value) (vs : List V) (Q : VK) (E : XK), Room k A → A.guards = some [] → Env0 P w C.K C.mg base A outer s H → Vals vs us →
    spG C Φ (.clo id caps) (.ref fa) vs H Q E → codeAny (model P w) A (.call (.ref fa) ⟨us, []⟩) (CR CXe outer P w H s Q E) s
theorem cells_ok {H : Hp} {s : Shared} {cl : List (Str × Addr)} {ws : List V} (hok : HOk P w H s.heap) (h4 : ∀ y c, cl.lookup y = some c → y ∈ L.fr) (h5 : ∀ x y c, cl.lookup x = some c → cl.lookup y = some c → x = y) (h6 : ws.length = L.fr.length)
    (h7 : ∀ (i : Nat) (y : Str), L.fr[i]? = some y → ∃ c w, cl.lookup y = some c ∧ ws[i]? = some w ∧ IsCellO H c w) : NdefX.CellsAt cl L.fr (ws.map some) s.heap (cutH H (clA cl)) := by
  refine ⟨by simpa using h6, fun y c e => ⟨cutH_in ⟨y, e⟩, ?_⟩, h5, fun i y e => ?_⟩
  · obtain ⟨i, hi⟩ := List.mem_iff_getElem?.mp (h4 y c e)
    obtain ⟨c', v, e1, _, ob, u, e2, e3, _⟩ := h7 i y hi
    rw [e] at e1; cases e1
    obtain ⟨g, _⟩ := hok c _ e2
    exact ⟨some u, ob, g, e3⟩
  · obtain ⟨c, v, e1, e2, ob, u, e3, e4, e5⟩ := h7 i y e
    obtain ⟨g, _⟩ := hok c _ e3
    refine ⟨c, e1, fun v' hv => ?_⟩
    have hv := map_some_get hv
    rw [e2] at hv; cases hv
    exact ⟨u, e5, ob, g, e4⟩
/-- what both kinds share: the callee's world and the way back -/
theorem clo_core (hid : S.lam id = some L) (hl : G.lams id = some ld) (F : CloF L ld ps N scope params)
    (go : ∀ (fa c' : Addr) (cl : List (Str × Addr)) (A : Around) (outer : List PySem.Env) (s : Shared) (Hb : Hp) (us : List Value) (vs : List V) (ws : List V) (caps : List SV) (Fb : Addr → Prop) (as as' : List Arg) (r0 : EV) (Q0 : VK) (E : XK) (od : Option Addr) (sl : Array (Option Value)) (doc pm ctv : Value),
      Room (k + 1) A → A.guards = some [] → Env0 P w K mg base A outer s Hb → s.heap.get? fa = some (⟨.type "function", od, .func (L.fd cl c' doc pm ctv), sl⟩ : Obj) → s.heap.CodeRec (.ref c') L.qual → NdefX.CellsAt cl L.fr (ws.map some) s.heap Hb → Vals vs us → vs.length = ps.length → ws.length = L.fr.length →
      Rel ⟨K, mg, S.T, S.lam⟩ mk0 Fb (aenv as) (vs.map some) Hb → Tail ⟨K, mg, S.T, S.lam⟩ (bad Fb (aenv as) (vs.map some)) Hb (caps.map some ++ List.replicate (ld.nl - ld.np - ld.nc) none) (ws.map some ++ List.replicate (N.length - vs.length - ws.length) none) →
      endOf as (evB (run G k) G.fuel ld.body (aenv as ++ (caps.map some ++ List.replicate (ld.nl - ld.np - ld.nc) none))) = .ok r0 as' → (∀ v H', AEnd ⟨K, mg, S.T, S.lam⟩ Fb as as' vs r0 Hb H' v → Q0 v H') →
      codeAny (model P w) A (.call (.ref fa) ⟨us, []⟩) (CR CXe outer P w Hb s Q0 E) s) : CloR P w base ⟨K, mg, S.T, S.lam⟩ (run G (k + 1)) (k + 1) id := by
  intro caps fa A outer s H us vs Q E hr hg e0 r hsp
  obtain ⟨Fb, as, r0, as', R, RSf, hΦ, hQ⟩ := hsp
  cases RSf with
  | @clo _ _ L' f c' cl ws _ g1 hf hco h4 h5 h6 h7 h8 =>
    have eL : L' = L := by
      have := g1.symm.trans hid
      cases this; rfl
    subst eL
    have hS := cells_at h4 h7
    unfold run at hΦ
    rw [hl] at hΦ
    simp only at hΦ
    split at hΦ
    case isFalse => cases hΦ
    rename_i hcond
    obtain ⟨c1, c2, c3, c4⟩ := hcond
    have la : as.length = vs.length := by have := R.len; unfold aenv at this; simpa using this
    obtain ⟨⟨od, sl, doc, pm, ctv, ho⟩, _, _⟩ := e0.hok fa _ hf
    have hlen : vs.length = ps.length := by rw [← la, c1, F.np]
    have hbad : ∀ a, bad (fun b => Fb b ∧ ¬ clA cl b) (aenv as) (vs.map some) a → bad Fb (aenv as) (vs.map some) a := fun a z => z.elim (fun q => .inl q.1) .inr
    have main := go fa c' cl A outer s (cutH H (clA cl)) us vs ws caps (fun b => Fb b ∧ ¬ clA cl b) as as' r0 (fun v H' => (∀ a, clA cl a → H' a = none) → Q v (addH H' (resH H (clA cl)))) E od sl doc pm ctv hr hg (env0_cut e0 hS) ho (NdefX.codeO_at e0.hok hco) (cells_ok e0.hok h4 h5 h6 h7) r hlen h6
      (rel_cut R c4 hS) (caps_tail (by rw [F.np, F.nc, F.nl, hlen, h6]) (h8.bad fun a z => .inl (hbad a z))) hΦ (fun v H' Ae hn => hQ v _ (back_end R c4 hS Ae hn))
    refine codeAny_mono main fun res s' hq => ?_
    cases res with
    | error e => exact False.elim (show False from hq)
    | ok fl =>
      cases fl with
      | next => exact False.elim hq
      | brk => exact False.elim hq
      | cont => exact False.elim hq
      | ret u =>
        obtain ⟨v, H', os, bare, un, hok, rv, q0⟩ := hq
        refine ce_add e0 hS ⟨v, H', os, bare, un, hok, rv, q0 fun a z => ?_⟩
        obtain ⟨ob, e⟩ := hS a z
        obtain ⟨g, _⟩ := e0.hok a _ e
        exact un.free a ob g (cutH_in z) (by simp)
theorem nested_run {name : Str} {body : List Stmt} (hid : S.lam id = some L) (hl : G.lams id = some ld) (F : CloF L ld ps N scope params)
    (hL : ∀ cl c' doc pm ctv, L.fd cl c' doc pm ctv = PySem.W.fnX name L.qual params body scope cl .none .none doc pm none (.ref c') ctv) (hr : Runs P w base ⟨K, mg, S.T, S.lam⟩ (run G k) k sig)
    (hbody : ∀ (A : Around) (outer : List PySem.Env) (s : Shared) (H : Hp) (E : XK) (f c' : Addr) (cl : List (Str × Addr)), CallX (NdefX.ncx CXe P w K mg base N ⟨name, L.qual, params, body, scope, cl, c'⟩ f A outer s H E) S (run G k) k sig →
      ∀ ρ, PSs (NdefX.ncx CXe P w K mg base N ⟨name, L.qual, params, body, scope, cl, c'⟩ f A outer s H E) body (tS ⟨K, mg, S.T, S.lam⟩ mk0 ρ (evB (run G k) G.fuel ld.body ρ))) : CloR P w base ⟨K, mg, S.T, S.lam⟩ (run G (k + 1)) (k + 1) id := by
  refine clo_core hid hl F fun fa c' cl A outer s Hb us vs ws caps Fb as as' r0 Q0 E od sl doc pm ctv hroom hg e0 ho hcode hcells r hlen hws R tl hend hQ => ?_
  have lim : s.heap.NoLimit := e0.mod.nolimit.keeps fun b o e => (e0.bs b o e).1
  rw [hL] at ho
  refine codeAny_call_function hroom.depth ho rfl F.sc.co F.sc.gen rfl hcode ?_
  rw [bind_pos (us := us) F.pp rfl F.nd (by rw [← r.length]; exact hlen)]
  refine wpAny_pure (wpAny_newFunctionEnv F.sc.nocell (fun ⟨n, _⟩ hy => F.sc.par n (List.of_mem_zip hy).1) (fun h₁ hns hsb => ⟨lim.fresh _ hsb, ?_⟩) F.sc.kind)
  show codeAny _ _ (.func body (NdefX.envF ⟨name, L.qual, params, body, scope, cl, c'⟩ fa s.heap.objs.size)) _ _
  refine codeAny_func ?_
  have kp : ∀ b o, s.heap.get? b = some o → h₁.get? b = some o := fun b o e => hsb.extBut b o (Nat.ne_of_lt (Heap.lt_size e)) (Heap.get?_push_of_some _ e)
  have I := NdefX.inv_startN (CX := CXe) (E := E) (F := ⟨name, L.qual, params, body, scope, cl, c'⟩) (f := fa) (tk := s.toks + (ps.zip us).length) F.sc hroom.hd e0 hlen r hcells hns kp
  have run1 := hbody A outer s Hb E fa c' cl ⟨hr, hroom.deeper _, hg⟩ (aenv as ++ (caps.map some ++ List.replicate (ld.nl - ld.np - ld.nc) none))
  have ends := ends_of (mk := mk0) R tl hend hQ
  have est : NdefX.startF N vs (ws.map some) = vs.map some ++ (ws.map some ++ List.replicate (N.length - vs.length - ws.length) none) := by
    unfold NdefX.startF
    rw [List.length_map]
  rw [est] at I
  refine wpAny_mono (run1.run [] _ _ Hb _ I ends) (fun fl s' hs => ?_) fun e s' hs => hs
  cases fl with
  | ret u =>
    obtain ⟨v, σ', H', J, rv, q⟩ := hs
    exact ⟨v, H', J.os, J.bare, J.base, J.hok, rv, q⟩
  | next =>
    obtain ⟨σ', H', J, q⟩ := hs
    exact ⟨.non, H', J.os, J.bare, J.base, J.hok, rfl, q⟩
  | brk =>
    obtain ⟨_, _, _, q⟩ := hs
    exact False.elim q
  | cont =>
    obtain ⟨_, _, _, q⟩ := hs
    exact False.elim q
theorem lam_run {body : Expr} {il : Ev.E} (hid : S.lam id = some L) (hl : G.lams id = some ld) (F : CloF L ld ps N scope params) (hil : ld.body = [.ret il])
    (hL : ∀ cl c' doc pm ctv, L.fd cl c' doc pm ctv = PySem.W.kla_fn "<lambda>" L.qual params body scope cl pm (.ref c') ctv) (hr : Runs P w base ⟨K, mg, S.T, S.lam⟩ (run G k) k sig)
    (hbody : ∀ (A : Around) (outer : List PySem.Env) (s : Shared) (H : Hp) (E : XK) (f c' : Addr) (cl : List (Str × Addr)), CallX (NdefX.ncx CXe P w K mg base N ⟨"<lambda>", L.qual, params, [], scope, cl, c'⟩ f A outer s H E) S (run G k) k sig →
      ∀ ρ r ρ', ev (run G k) il ρ = .ok r ρ' → PE (NdefX.ncx CXe P w K mg base N ⟨"<lambda>", L.qual, params, [], scope, cl, c'⟩ f A outer s H E) body (tE ⟨K, mg, S.T, S.lam⟩ mk0 ρ r ρ')) : CloR P w base ⟨K, mg, S.T, S.lam⟩ (run G (k + 1)) (k + 1) id := by
  refine clo_core hid hl F fun fa c' cl A outer s Hb us vs ws caps Fb as as' r0 Q0 E od sl doc pm ctv hroom hg e0 ho hcode hcells r hlen hws R tl hend hQ => ?_
  have lim : s.heap.NoLimit := e0.mod.nolimit.keeps fun b o e => (e0.bs b o e).1
  rw [hL] at ho
  refine PySem.W.kla_callFunE hroom.depth ho rfl F.sc.co F.sc.gen rfl hcode ?_
  rw [bind_pos (us := us) F.pp rfl F.nd (by rw [← r.length]; exact hlen)]
  refine wpAny_pure (wpAny_newFunctionEnv F.sc.nocell (fun ⟨n, _⟩ hy => F.sc.par n (List.of_mem_zip hy).1) (fun h₁ hns hsb => ⟨lim.fresh _ hsb, ?_⟩) F.sc.kind)
  show codeAny _ _ (.expr body (NdefX.envF ⟨"<lambda>", L.qual, params, [], scope, cl, c'⟩ fa s.heap.objs.size)) _ _
  have kp : ∀ b o, s.heap.get? b = some o → h₁.get? b = some o := fun b o e => hsb.extBut b o (Nat.ne_of_lt (Heap.lt_size e)) (Heap.get?_push_of_some _ e)
  have I := NdefX.inv_startN (CX := CXe) (E := E) (F := ⟨"<lambda>", L.qual, params, [], scope, cl, c'⟩) (f := fa) (tk := s.toks + (ps.zip us).length) F.sc hroom.hd e0 hlen r hcells hns kp
  have est : NdefX.startF N vs (ws.map some) = vs.map some ++ (ws.map some ++ List.replicate (N.length - vs.length - ws.length) none) := by
    unfold NdefX.startF
    rw [List.length_map]
  rw [est] at I
  rw [hil] at hend
  simp only [evB, evS] at hend
  cases hev : ev (run G k) il (aenv as ++ (caps.map some ++ List.replicate (ld.nl - ld.np - ld.nc) none)) with
  | bad => rw [hev] at hend; cases hend
  | exc c x ρ' =>
    rw [hev] at hend
    simp only [Out.thenF, Fl.thenF, endOf] at hend
    cases ho2 : outA as ρ' with
    | none => rw [ho2] at hend; cases hend
    | some z => rw [ho2] at hend; cases hend
  | ok rr ρ' =>
    rw [hev] at hend
    simp only [Out.thenF, Fl.thenF, endOf] at hend
    cases ho2 : outA as ρ' with
    | none => rw [ho2] at hend; cases hend
    | some z =>
      rw [ho2] at hend
      cases hend
      have pe := hbody A outer s Hb E fa c' cl ⟨hr, hroom.deeper _, hg⟩ _ _ _ hev
      refine PySem.W.kla_codeExpr (wpAny_mono (pe.run [] _ _ Hb Q0 I ⟨Fb, rel_begin R tl, fun v H' st rv => hQ v H' (aend R tl st.toS ho2 (rv_to rv))⟩) (fun v s' hq => ?_) fun e s' hq => hq)
      obtain ⟨v', H', J, rv, q⟩ := hq
      exact ⟨v', H', J.os, J.bare, J.base, J.hok, rv, q⟩
end
end Ev
set_option Elab.async false
set_option linter.all false
set_option maxRecDepth 100000
set_option maxHeartbeats 1000000
namespace Ev
open PySem PySem.Spec PyProof.Rows L2
section
variable {C : Cn} {mk : Mkd} {Fb : Addr → Prop} {ρ ρ' ρ1 : Env} {σ : L2.St} {H H' : Hp}
/-- a slot's own list is given away -/
theorem Rel.drop {i : Nat} {ds : List D} {a : Addr} (R : Rel C mk Fb ρ σ H) (h : ρ[i]? = some (some (.own ds))) (hσ : σ[i]? = some (some (.ref a))) : Rel C mk (fun b => Fb b ∨ b = a) (ρ.set i none) σ H := by
  have hl := ltOf h
  have sub : ∀ b, mutA (ρ.set i none) σ b → mutA ρ σ b := fun b m => mutA_set_sub rfl m
  have hb : ∀ b, bad (fun b => Fb b ∨ b = a) (ρ.set i none) σ b → bad Fb ρ σ b ∨ H b = none := fun b z => .inl (z.elim (fun q => q.elim .inl fun e => .inr ⟨i, ds, mutOf_own h, by rw [e]; exact hσ⟩) fun m => .inr (sub b m))
  have un : ∀ {j : Nat} {s : SV}, (ρ.set i none)[j]? = some (some s) → i ≠ j ∧ ρ[j]? = some (some s) := fun {j s} e => by
    rw [set_get hl] at e
    split at e
    · cases e
    · rename_i q; exact ⟨q, e⟩
  have unm : ∀ {j : Nat} {es : List D}, mutOf (ρ.set i none)[j]? = some es → i ≠ j ∧ mutOf ρ[j]? = some es := fun {j es} e => by
    rcases mutOf_cases e with z | z <;> obtain ⟨h1, h2⟩ := un z <;> exact ⟨h1, by rw [h2]; rfl⟩
  refine ⟨by rw [List.length_set]; exact R.len, fun b z q => ?_, fun j s e c => ?_, fun j es e => ?_, fun j k b e1 e2 e3 e4 => ?_, fun j ns e => R.ro j ns (un e).2, fun j e => R.mks j (un e).2, R.tabs⟩
  · rcases z with z | z
    · exact R.fb b z q
    · subst z
      obtain ⟨b', xs, h1, _, h3, _⟩ := R.mt i ds (mutOf_own h)
      rw [hσ] at h1; cases h1
      rw [q] at h3; cases h3
  · obtain ⟨v, h1, h2⟩ := R.val j s (un e).2 c
    exact ⟨v, h1, h2.bad hb⟩
  · obtain ⟨q, e⟩ := unm e
    obtain ⟨b, xs, h1, h2, h3, h4⟩ := R.mt j es e
    refine ⟨b, xs, h1, fun z => z.elim h2 fun z => ?_, h3, h4.bad hb⟩
    subst z
    exact q (R.inj i j b (by rw [mutOf_own h]; exact fun z => nomatch z) (by rw [e]; exact fun z => nomatch z) hσ h1)
  · cases m1 : mutOf (ρ.set i none)[j]? with
    | none => exact absurd m1 e1
    | some d1 =>
      cases m2 : mutOf (ρ.set i none)[k]? with
      | none => exact absurd m2 e2
      | some d2 =>
        exact R.inj j k b (by rw [(unm m1).2]; exact fun z => nomatch z) (by rw [(unm m2).2]; exact fun z => nomatch z) e3 e4
end
section
variable {X : Cx} {S : Sx} {mk : Mkd} {ρ ρ1 ρ2 ρ3 : Env} {e : Expr} {es : List Expr} {r : EV} {rs : List EV} {pos : Pos}
theorem e_mov {i : Nat} {x : Str} {ds : List D} (hN : X.N[i]? = some x) (hv : Vis X.env.scope x) (hd : (x == ("__debug__" : Str)) = false) (hcd : (x == ("__classdict__" : Str)) = false) (h : ρ[i]? = some (some (.own ds))) : PE X (.Name x pos) (tE (cn X S) mk ρ (.fresh ds) (ρ.set i none)) := by
  refine peImp (pe_var hN hv hd hcd) fun σ H Q ⟨Fb, R, q⟩ => ?_
  obtain ⟨a, xs, h1, h2, h3, h4, h5⟩ := R.own h (s := none) rfl
  have sub : ∀ b, mutA (ρ.set i none) σ b → mutA ρ σ b := fun b m => mutA_set_sub rfl m
  have R2 := R.drop h h1
  refine ⟨_, h1, q _ _ ⟨R2.less fun _ z => .inl z, .refl, sub, fun j es e => ⟨es, by rw [List.getElem?_set_ne fun z => by subst z; rw [h] at e; cases e]; exact e⟩⟩ ⟨a, xs, rfl, .inr h5, h4, h2, h3.bad fun b z => .inl ?_, R2⟩⟩
  rcases z with (z | z) | z
  · exact .inl z
  · exact .inr (sub b z)
  · subst z; exact .inr h5
/-! ### several values at once -/
def freshA : List V → List EV → List Addr
  | .ref a :: vs, .fresh _ :: rs => a :: freshA vs rs
  | _ :: vs, _ :: rs => freshA vs rs
  | _, _ => []
/-- the values; Fx: the lists among them that nobody else holds -/
inductive EachV (C : Cn) (Fb Fx : Addr → Prop) (ρ' : Env) (σ : L2.St) (H' : Hp) : List V → List EV → Prop where
  | nil : EachV C Fb Fx ρ' σ H' [] []
  | dat {v : V} {d : D} {vs : List V} {rs : List EV} : RD C.K H' (bad (fun b => Fb b ∨ Fx b) ρ' σ) v d → EachV C Fb Fx ρ' σ H' vs rs → EachV C Fb Fx ρ' σ H' (v :: vs) (.dat d :: rs)
  | fresh {a : Addr} {xs : List V} {ds : List D} {vs : List V} {rs : List EV} : Fx a → H' a = some (.lst xs) → RDs C.K H' (bad (fun b => Fb b ∨ Fx b) ρ' σ) xs ds → a ∉ freshA vs rs → EachV C Fb Fx ρ' σ H' vs rs → EachV C Fb Fx ρ' σ H' (.ref a :: vs) (.fresh ds :: rs)
structure StepF (C : Cn) (mk : Mkd) (Fb Fx : Addr → Prop) (ρ ρ' : Env) (σ : L2.St) (H H' : Hp) : Prop where
  rel : Rel C mk (fun b => Fb b ∨ Fx b) ρ' σ H'
  kp : Kp (mutA ρ σ) H H'
  sub : ∀ a, mutA ρ' σ a → mutA ρ σ a
  par : ∀ (i : Nat) (ds : List D), ρ[i]? = some (some (.par ds)) → ∃ ds', ρ'[i]? = some (some (.par ds'))
  own : ∀ a, Fx a → (H a = none ∨ mutA ρ σ a) ∧ ¬ Fb a
def tL (C : Cn) (mk : Mkd) (ρ : Env) (rs : List EV) (ρ' : Env) : TA := fun σ H Q => ∃ Fb, Rel C mk Fb ρ σ H ∧ ∀ vs H' Fx, StepF C mk Fb Fx ρ ρ' σ H H' → EachV C Fb Fx ρ' σ H' vs rs → Q vs H'
theorem el_nil : PA X [] (tL (cn X S) mk ρ [] ρ) := paImp pa_nil fun σ H Q ⟨Fb, R, q⟩ => q [] H (fun _ => False) ⟨R.less fun _ z => z.elim id False.elim, .refl, fun _ h => h, fun i ds e => ⟨ds, e⟩, fun _ z => z.elim⟩ .nil
theorem freshA_dat {v : V} {d : D} {vs : List V} {rs : List EV} : freshA (v :: vs) (.dat d :: rs) = freshA vs rs := by cases v <;> rfl
theorem EachV.refs {C : Cn} {Fb Fx : Addr → Prop} {ρ' : Env} {σ : L2.St} {H' : Hp} {a : Addr} : ∀ {vs : List V} {rs : List EV}, EachV C Fb Fx ρ' σ H' vs rs → a ∈ freshA vs rs → Fx a
  | _, _, .nil, h => by cases h
  | _, _, .dat r t, h => EachV.refs t (by rw [freshA_dat] at h; exact h)
  | _, _, .fresh f _ _ _ t, h => by
    rcases List.mem_cons.mp h with e | h
    · subst e; exact f
    · exact EachV.refs t h
theorem EachV.more {C : Cn} {Fb Fb' Fx Fx' : Addr → Prop} {ρ' : Env} {σ : L2.St} {H' : Hp} (hx : ∀ a, Fx a → Fx' a) (hb : ∀ a, bad (fun b => Fb' b ∨ Fx' b) ρ' σ a → bad (fun b => Fb b ∨ Fx b) ρ' σ a) : ∀ {vs : List V} {rs : List EV}, EachV C Fb Fx ρ' σ H' vs rs → EachV C Fb' Fx' ρ' σ H' vs rs
  | _, _, .nil => .nil
  | _, _, .dat r t => .dat (r.bad fun a z => .inl (hb a z)) (EachV.more hx hb t)
  | _, _, .fresh f h r n t => .fresh (hx _ f) h (r.bad fun a z => .inl (hb a z)) n (EachV.more hx hb t)
theorem el_cons (hs : isStar e = false) (he : PE X e (tE (cn X S) mk ρ r ρ1)) (hr : PA X es (tL (cn X S) mk ρ1 rs ρ2)) : PA X (e :: es) (tL (cn X S) mk ρ (r :: rs) ρ2) :=
  paImp (pa_cons he hr (star_cons hs)) fun σ H Q ⟨Fb, R, q⟩ => ⟨Fb, R, fun v H1 s1 rv => by
    cases r with
    | dat d =>
      refine ⟨Fb, s1.rel, fun vs H2 Fx s2 ev => q (v :: vs) H2 Fx ⟨s2.rel, s1.kp.trans s2.kp fun a m => .inl (s1.sub a m), fun a m => s1.sub a (s2.sub a m), fun i ds e => let ⟨ds1, e1⟩ := s1.par i ds e; s2.par i ds1 e1, fun a f => ⟨?_, (s2.own a f).2⟩⟩ (.dat ?_ ev)⟩
      · exact (s2.own a f).1.elim (fun z => .inl (s1.kp.none a z)) fun z => .inr (s1.sub a z)
      · have r1 : RD X.K H1 (fun b => bad Fb ρ1 σ b ∨ H1 b = none ∧ bad (fun b => Fb b ∨ Fx b) ρ2 σ b) v d := RD.bad (fun a z => z.elim .inl fun q => .inr q.1) rv
        refine (r1.kp s2.kp fun a m => .inl (.inr m)).bad fun b z => .inl ?_
        rcases z with (z | z) | m
        · exact .inl (.inl z)
        · rcases (s2.own b z).1 with y | y
          · exact .inr ⟨y, .inl (.inr z)⟩
          · exact .inl (.inr y)
        · exact .inl (.inr (s2.sub b m))
    | fresh ds =>
      obtain ⟨a, xs, ev0, hA, h1, h2, h3, h4⟩ := rv
      subst ev0
      have hFa : ¬ Fb a := fun z => h1 (.inl z)
      have hma : ¬ mutA ρ1 σ a := fun z => h1 (.inr z)
      refine ⟨_, h4, fun vs H2 Fx s2 ev => ?_⟩
      have hc : ∀ b, bad (fun b => Fb b ∨ (Fx b ∨ b = a)) ρ2 σ b → bad (fun b => (Fb b ∨ b = a) ∨ Fx b) ρ2 σ b := fun b z => z.elim (fun q => q.elim (fun w => .inl (.inl (.inl w))) fun w => w.elim (fun u => .inl (.inr u)) fun u => .inl (.inl (.inr u))) .inr
      have keepa : H2 a = some (.lst xs) := s2.kp.keep _ _ h2 (fun _ z => nomatch z) fun m => absurd m hma
      refine q (.ref a :: vs) H2 (fun b => Fx b ∨ b = a) ⟨s2.rel.less fun b z => z.elim (fun w => .inl (.inl w)) fun w => w.elim .inr fun u => .inl (.inr u), s1.kp.trans s2.kp fun a m => .inl (s1.sub a m), fun a m => s1.sub a (s2.sub a m), fun i ds e => let ⟨ds1, e1⟩ := s1.par i ds e; s2.par i ds1 e1, fun b f => ?_⟩ (.fresh (.inr rfl) keepa ?_ (fun hmem => ?_) (ev.more (fun _ z => .inl z) hc))
      · rcases f with f | f
        · exact ⟨(s2.own b f).1.elim (fun z => .inl (s1.kp.none b z)) fun z => .inr (s1.sub b z), fun z => (s2.own b f).2 (.inl z)⟩
        · subst f; exact ⟨hA, hFa⟩
      · have r1 : RDs X.K H1 (fun b => bad (fun b => Fb b ∨ b = a) ρ1 σ b ∨ H1 b = none ∧ bad (fun b => Fb b ∨ (Fx b ∨ b = a)) ρ2 σ b) xs ds := h3.bad fun b z => z.elim (fun y => .inl (y.elim (fun w => w.elim (fun u => .inl (.inl u)) fun u => .inr u) fun m => .inl (.inr m))) fun y => .inr y.1
        refine (r1.kp s2.kp fun b m => .inl (.inr m)).bad fun b z => .inl ?_
        rcases z with (z | z | z) | m
        · exact .inl (.inl (.inl z))
        · rcases (s2.own b z).1 with y | y
          · exact .inr ⟨y, .inl (.inr (.inl z))⟩
          · exact .inl (.inr y)
        · exact .inl (.inl (.inr z))
        · exact .inl (.inr (s2.sub b m))
      · exact (s2.own a (ev.refs hmem)).2 (.inr rfl)⟩
end
end Ev
set_option Elab.async false
set_option linter.all false
set_option maxRecDepth 100000
set_option maxHeartbeats 1000000
namespace Ev
open PySem PySem.Spec PyProof.Rows L2
def setV : List (Nat × Bool) → List V → L2.St → L2.St
  | (i, _) :: is, v :: vs, σ => setV is vs (σ.set i (some v))
  | _, _, σ => σ
section
variable {C : Cn} {mk : Mkd} {Fb Fx Fx' : Addr → Prop} {ρ ρ' ρ'' : Env} {σ σ' : L2.St} {H : Hp}
theorem EachV.to (hb : ∀ a, bad (fun b => Fb b ∨ Fx' b) ρ' σ' a → bad (fun b => Fb b ∨ Fx b) ρ σ a) : ∀ {vs : List V} {rs : List EV}, (∀ a ∈ freshA vs rs, Fx' a) → EachV C Fb Fx ρ σ H vs rs → EachV C Fb Fx' ρ' σ' H vs rs
  | _, _, _, .nil => .nil
  | _, _, hx, .dat r t => .dat (r.bad fun a z => .inl (hb a z)) (EachV.to hb (fun a h => hx a (by rw [freshA_dat]; exact h)) t)
  | _, _, hx, .fresh f h r n t => .fresh (hx _ List.mem_cons_self) h (r.bad fun a z => .inl (hb a z)) n (EachV.to hb (fun a h => hx a (List.mem_cons_of_mem _ h)) t)
theorem EachV.len : ∀ {vs : List V} {rs : List EV}, EachV C Fb Fx ρ σ H vs rs → vs.length = rs.length
  | _, _, .nil => rfl
  | _, _, .dat _ t => by simp [EachV.len t]
  | _, _, .fresh _ _ _ _ t => by simp [EachV.len t]
theorem setE_ok {i : Nat} {v : SV} (h : setE ρ i v = some ρ') : isPar ρ[i]? = false ∧ i < ρ.length ∧ ρ' = ρ.set i (some v) := by
  unfold setE at h
  split at h
  · cases h
  · rename_i hp
    split at h
    · rename_i hl
      cases h
      exact ⟨by simpa using hp, hl, rfl⟩
    · cases h
theorem store_all : ∀ {is : List (Nat × Bool)} {rs : List EV} {vs : List V} {ρ ρ'' : Env} {σ : L2.St} {Fx : Addr → Prop}, setEs is rs ρ = some ρ'' → Rel C mk (fun b => Fb b ∨ Fx b) ρ σ H → EachV C Fb Fx ρ σ H vs rs → (∀ a, Fx a → ¬ Fb a) →
    Rel C mk Fb ρ'' (setV is vs σ) H ∧ (∀ a, mutA ρ'' (setV is vs σ) a → mutA ρ σ a ∨ Fx a) ∧ ∀ (i : Nat) (ds : List D), ρ[i]? = some (some (.par ds)) → ρ''[i]? = some (some (.par ds)) ∧ (setV is vs σ)[i]? = σ[i]?
  | [], [], vs, ρ, ρ'', σ, Fx, h, R, ev, hF => by
    unfold setEs at h
    cases h
    cases ev
    exact ⟨R.less fun _ z => .inl z, fun a m => .inl m, fun i ds e => ⟨e, rfl⟩⟩
  | [], _ :: _, _, _, _, _, _, h, _, _, _ => by unfold setEs at h; cases h
  | _ :: _, [], _, _, _, _, _, h, _, _, _ => by unfold setEs at h; cases h
  | (i, b) :: is, r :: rs, vs, ρ, ρ'', σ, Fx, h, R, ev, hF => by
    have go : ∀ {ρ1 : Env} {v : V} {vs' : List V} {Fx' : Addr → Prop} {s : SV}, vs = v :: vs' → ρ1 = ρ.set i (some s) → isPar ρ[i]? = false → i < ρ.length → setEs is rs ρ1 = some ρ'' → Rel C mk (fun b => Fb b ∨ Fx' b) ρ1 (σ.set i (some v)) H → EachV C Fb Fx' ρ1 (σ.set i (some v)) H vs' rs → (∀ a, Fx' a → Fx a) →
        (∀ a, mutA ρ1 (σ.set i (some v)) a → mutA ρ σ a ∨ Fx a) → Rel C mk Fb ρ'' (setV ((i, b) :: is) vs σ) H ∧ (∀ a, mutA ρ'' (setV ((i, b) :: is) vs σ) a → mutA ρ σ a ∨ Fx a) ∧ ∀ (j : Nat) (ds : List D), ρ[j]? = some (some (.par ds)) → ρ''[j]? = some (some (.par ds)) ∧ (setV ((i, b) :: is) vs σ)[j]? = σ[j]? := fun {ρ1 v vs' Fx' s} ev eρ hp hl hs R1 ev1 hx hm => by
      subst ev
      obtain ⟨g1, g2, g3⟩ := store_all hs R1 ev1 fun a z => hF a (hx a z)
      refine ⟨g1, fun a m => ?_, fun j ds e => ?_⟩
      · rcases g2 a m with z | z
        · exact hm a z
        · exact .inr (hx a z)
      · have ne : i ≠ j := fun z => by subst z; exact (notPar hp).1 ds e
        obtain ⟨q1, q2⟩ := g3 j ds (by rw [eρ, List.getElem?_set_ne ne]; exact e)
        exact ⟨q1, q2.trans (List.getElem?_set_ne ne)⟩
    unfold setEs at h
    -- data into a slot, from a state without the list itself
    have put : ∀ {v : V} {vs' : List V} {d : D} {Fx' : Addr → Prop}, vs = v :: vs' → (setE ρ i (.dat d)).bind (setEs is rs) = some ρ'' → Rel C mk (fun b => Fb b ∨ Fx' b) ρ σ H → RD C.K H (bad (fun b => Fb b ∨ Fx' b) ρ σ) v d → EachV C Fb Fx' ρ σ H vs' rs → (∀ a, Fx' a → Fx a) →
        Rel C mk Fb ρ'' (setV ((i, b) :: is) vs σ) H ∧ (∀ a, mutA ρ'' (setV ((i, b) :: is) vs σ) a → mutA ρ σ a ∨ Fx a) ∧ ∀ (j : Nat) (ds : List D), ρ[j]? = some (some (.par ds)) → ρ''[j]? = some (some (.par ds)) ∧ (setV ((i, b) :: is) vs σ)[j]? = σ[j]? := fun {v vs' d Fx'} ev0 hb R0 rd ev1 hx => by
      cases hse : setE ρ i (.dat d) with
      | none => rw [hse] at hb; cases hb
      | some ρ1 =>
        rw [hse] at hb
        obtain ⟨hp, hl, e1⟩ := setE_ok hse
        have st := R0.bind hp hl rd
        have out := bind_out (ρ := ρ) (σ := σ) (i := i) (d := d) (v := v) hl
        subst e1
        exact go ev0 rfl hp hl hb st.rel (ev1.to (fun a z => z.elim .inl fun m => .inr (out.sub a m)) fun a h => EachV.refs ev1 h) hx fun a m => .inl (out.sub a m)
    cases ev with
    | @dat v d vs' _ rd ev1 =>
      cases b with
      | true => cases h
      | false => exact put rfl h R rd ev1 fun _ z => z
    | @fresh a xs ds vs' _ f hH rd n ev1 =>
      have hFa := hF a f
      have na : ¬ mutA ρ σ a := fun m => mut_notFb R m (.inr f)
      have hx' : ∀ c ∈ freshA vs' rs, (fun c => Fx c ∧ c ≠ a) c := fun c hc => ⟨ev1.refs hc, fun z => n (by rw [← z]; exact hc)⟩
      cases b with
      | true =>
        replace h : (setE ρ i (.own ds)).bind (setEs is rs) = some ρ'' := h
        cases hse : setE ρ i (.own ds) with
        | none => rw [hse] at h; cases h
        | some ρ1 =>
          rw [hse] at h
          obtain ⟨hp, hl, e1⟩ := setE_ok hse
          subst e1
          have hlσ : i < σ.length := by rw [← R.len]; exact hl
          have R2 : Rel C mk (fun b => (fun c => Fb c ∨ (Fx c ∧ c ≠ a)) b ∨ b = a) ρ σ H := R.less fun c z => z.elim (fun y => y.elim .inl fun w => .inr w.1) fun y => .inr (by rw [y]; exact f)
          have R3 := R2.bindO hp hl (fun z => z.elim hFa fun w => w.2 rfl) hH (rd.bad fun c z => .inl (z.elim (fun y => y.elim (fun w => w.elim (fun u => .inl (.inl u)) fun u => .inl (.inr u.1)) .inr) fun y => .inl (.inr (by rw [y]; exact f))))
          have sub : ∀ c, mutA (ρ.set i (some (.own ds))) (σ.set i (some (.ref a))) c → mutA ρ σ c ∨ c = a := fun c ⟨j, es, e1, e2⟩ => by
            rw [set_get hl] at e1
            split at e1
            · rename_i z
              subst z
              rw [List.getElem?_set_self hlσ] at e2
              cases e2
              exact .inr rfl
            · rename_i z
              rw [List.getElem?_set_ne z] at e2
              exact .inl ⟨j, es, e1, e2⟩
          refine go rfl rfl hp hl h R3 (ev1.to (fun c z => ?_) hx') (fun c z => z.1) fun c m => (sub c m).elim .inl fun z => .inr (by rw [z]; exact f)
          rcases z with (z | z) | m
          · exact .inl (.inl z)
          · exact .inl (.inr z.1)
          · rcases sub c m with y | y
            · exact .inr y
            · exact .inl (.inr (by rw [y]; exact f))
      | false =>
        refine put (d := .list ds) (Fx' := fun c => Fx c ∧ c ≠ a) rfl h (R.less fun c z => z.elim .inl fun w => .inr w.1) (.lst hH (fun z => ?_) (rd.bad fun c z => .inl (z.elim (fun y => y.elim (fun w => .inl (.inl w)) fun w => .inl (.inr w.1)) .inr))) (ev1.to (fun c z => z.elim (fun y => y.elim (fun w => .inl (.inl w)) fun w => .inl (.inr w.1)) .inr) hx') fun c z => z.1
        rcases z with (z | z) | m
        · exact hFa z
        · exact z.2 rfl
        · exact na m
end
section
variable {X : Cx} {S : Sx} {mk : Mkd} {ρ ρ1 ρ2 : Env} {rs : List EV} {pos : Pos}
theorem par_te {is : List (Nat × Bool)} {C : Cn} {D : Ends} {σ : L2.St} {H : Hp} (hs : setEs is rs ρ1 = some ρ2) (h : tS C mk ρ (.nx ρ2) D σ H) : tL C mk ρ rs ρ1 σ H (fun vs H1 => D.nx (setV is vs σ) H1 ∧ vs.length = rs.length) := by
  obtain ⟨Fb, R, q⟩ := h
  refine ⟨Fb, R, fun vs H1 Fx s ev => ⟨?_, ev.len⟩⟩
  obtain ⟨g1, g2, g3⟩ := store_all hs s.rel ev fun a f => (s.own a f).2
  refine q _ _ ⟨g1, s.kp, fun a m => ?_, fun i ds e => ?_⟩
  · rcases g2 a m with z | z
    · exact .inl (s.sub a z)
    · exact (s.own a z).1.elim .inr .inl
  · obtain ⟨ds1, e1⟩ := s.par i ds e
    obtain ⟨q1, q2⟩ := g3 i ds1 e1
    exact ⟨⟨ds1, q1⟩, q2⟩
theorem s_par2 {i j : Nat} {bi bj : Bool} {x y : Str} {a b : Expr} {px py pt pt2 : Pos} {kt k2 : Nat} {r1 r2 : EV} (hc : X.calm = true) (hN : X.N.Nodup) (hi : X.N[i]? = some x) (hj : X.N[j]? = some y) (hij : i ≠ j) (hx : X.env.scope.names.lookup x = some .local) (hy : X.env.scope.names.lookup y = some .local)
    (ha : PA X [a, b] (tL (cn X S) mk ρ [r1, r2] ρ1)) (hw : swappedStores [.Tuple [.Name x px, .Name y py] kt pt] (.Tuple [a, b] k2 pt2) X.env = pure (some [x, y])) (hs : setEs [(i, bi), (j, bj)] [r1, r2] ρ1 = some ρ2) :
    PS X (.Assign [.Tuple [.Name x px, .Name y py] kt pt] (.Tuple [a, b] k2 pt2) pos) (tS (cn X S) mk ρ (.nx ρ2)) :=
  psImp (ps_par hc hN hi hj hij hx hy ha hw rfl) fun D σ H h => by
    obtain ⟨Fb, R, q⟩ := par_te hs h
    refine ⟨Fb, R, fun vs H1 Fx s ev => ?_⟩
    obtain ⟨g1, g2⟩ := q vs H1 Fx s ev
    match vs, g2 with
    | [v, w], _ => exact ⟨v, w, rfl, g1⟩
theorem s_par3 {i j l : Nat} {bi bj bl : Bool} {x y z : Str} {a b c : Expr} {px py pz pt pt2 : Pos} {kt k2 : Nat} {r1 r2 r3 : EV} (hc : X.calm = true) (hN : X.N.Nodup) (hi : X.N[i]? = some x) (hj : X.N[j]? = some y) (hl : X.N[l]? = some z) (hij : i ≠ j) (hil : i ≠ l) (hjl : j ≠ l)
    (hx : X.env.scope.names.lookup x = some .local) (hy : X.env.scope.names.lookup y = some .local) (hz : X.env.scope.names.lookup z = some .local) (ha : PA X [a, b, c] (tL (cn X S) mk ρ [r1, r2, r3] ρ1))
    (hw : swappedStores [.Tuple [.Name x px, .Name y py, .Name z pz] kt pt] (.Tuple [a, b, c] k2 pt2) X.env = pure (some [x, y, z])) (hs : setEs [(i, bi), (j, bj), (l, bl)] [r1, r2, r3] ρ1 = some ρ2) :
    PS X (.Assign [.Tuple [.Name x px, .Name y py, .Name z pz] kt pt] (.Tuple [a, b, c] k2 pt2) pos) (tS (cn X S) mk ρ (.nx ρ2)) :=
  psImp (L2.ps_par3 hc hN hi hj hl hij hil hjl hx hy hz ha hw rfl) fun D σ H h => by
    obtain ⟨Fb, R, q⟩ := par_te hs h
    refine ⟨Fb, R, fun vs H1 Fx s ev => ?_⟩
    obtain ⟨g1, g2⟩ := q vs H1 Fx s ev
    match vs, g2 with
    | [u, v, w], _ => exact ⟨u, v, w, rfl, g1⟩
end
end Ev
set_option Elab.async false
set_option linter.all false
set_option maxRecDepth 100000
set_option maxHeartbeats 1000000
namespace Ev
open PySem PySem.Spec PyProof.Rows L2
section
variable {C : Cn} {mk : Mkd} {Fb Fbx : Addr → Prop} {ρ ρ' : Env} {σ : L2.St} {H H' : Hp}
/-- what nobody here reaches has changed -/
theorem Rel.kpM {M : Addr → Prop} (hm : MkOk mk) (R : Rel C mk Fb ρ σ H) (k : Kp M H H') (hM : ∀ a, M a → Fb a) (h1 : ∀ a, Fbx a → Fb a ∨ H a = none) (h3 : ∀ a, Fbx a → H' a ≠ none) (t : NdefX.TabsN C.T H') : Rel C mk Fbx ρ σ H' := by
  have step : ∀ a, bad Fbx ρ σ a → bad Fb ρ σ a ∨ H a = none := fun a z => z.elim (fun q => (h1 a q).elim (fun x => .inl (.inl x)) .inr) fun m => .inl (.inr m)
  have hMB : ∀ a, M a → (fun a => bad Fb ρ σ a ∨ bad Fbx ρ σ a) a := fun a m => .inl (.inl (hM a m))
  have wide : ∀ a, (fun a => bad Fb ρ σ a ∨ bad Fbx ρ σ a) a → bad Fb ρ σ a ∨ H a = none := fun a z => z.elim .inl (step a)
  refine ⟨R.len, h3, fun i s e c => ?_, fun i ds e => ?_, R.inj, fun i ns e => ?_, fun i e => ?_, t⟩
  · obtain ⟨v, g1, g2⟩ := R.val i s e c
    exact ⟨v, g1, ((g2.bad wide).kp k hMB).bad fun a z => .inl (.inr z)⟩
  · obtain ⟨a, xs, g1, g2, g3, g4⟩ := R.mt i ds e
    refine ⟨a, xs, g1, fun z => ?_, k.keep _ _ g3 (fun _ z => nomatch z) (fun m => absurd (hM a m) g2), ((g4.bad wide).kp k hMB).bad fun a z => .inl (.inr z)⟩
    rcases h1 a z with y | y
    · exact g2 y
    · rw [g3] at y; cases y
  · obtain ⟨a, g1, g2⟩ := R.ro i ns e
    exact ⟨a, g1, g2.kp k⟩
  · obtain ⟨v, g1, g2⟩ := R.mks i e
    exact ⟨v, g1, hm _ _ _ _ _ g2 k⟩
/-- a slot takes the mark of a made def -/
theorem Rel.bindMk (R : Rel C mk Fb ρ σ H) {i : Nat} {v : V} (hp : isPar ρ[i]? = false) (hl : i < ρ.length) (hv : mk i (some v) H) : StepS C mk Fb ρ (ρ.set i (some .mk)) σ (σ.set i (some v)) H H := by
  have hlσ : i < σ.length := by rw [← R.len]; exact hl
  have oth : ∀ {j : Nat} {s : SV}, (ρ.set i (some .mk))[j]? = some (some s) → s ≠ .mk ∨ i ≠ j → i ≠ j ∧ ρ[j]? = some (some s) := fun {j s} e n => by
    rw [set_get hl] at e
    split at e
    · rename_i q
      cases e
      exact absurd rfl (n.elim id fun y => absurd q y)
    · rename_i q; exact ⟨q, e⟩
  have unm : ∀ {j : Nat} {es : List D}, mutOf (ρ.set i (some .mk))[j]? = some es → i ≠ j ∧ mutOf ρ[j]? = some es := fun {j es} e => by
    rcases mutOf_cases e with z | z <;> obtain ⟨h1, h2⟩ := oth z (.inl fun q => nomatch q) <;> exact ⟨h1, by rw [h2]; rfl⟩
  have sub : ∀ a, mutA (ρ.set i (some .mk)) (σ.set i (some v)) a → mutA ρ σ a := fun a ⟨j, ds, e1, e2⟩ => by
    obtain ⟨q, e3⟩ := unm e1
    rw [List.getElem?_set_ne q] at e2
    exact ⟨j, ds, e3, e2⟩
  have hb : ∀ a, bad Fb (ρ.set i (some .mk)) (σ.set i (some v)) a → bad Fb ρ σ a ∨ H a = none := fun a z => .inl (z.elim .inl fun m => .inr (sub a m))
  refine ⟨⟨by rw [List.length_set, List.length_set]; exact R.len, R.fb, fun j s e c => ?_, fun j ds e => ?_, fun j k a e1 e2 e3 e4 => ?_, fun j ns e => ?_, fun j e => ?_, R.tabs⟩, .refl, fun a m => .inl (sub a m), fun j ds e => ?_⟩
  · obtain ⟨q, e⟩ := oth e (.inl fun z => by subst z; rcases c with ⟨_, z⟩ | ⟨_, z⟩ <;> cases z)
    obtain ⟨w, h1, h2⟩ := R.val j s e c
    exact ⟨w, by rw [List.getElem?_set_ne q]; exact h1, h2.bad hb⟩
  · obtain ⟨q, e⟩ := unm e
    obtain ⟨a, xs, h1, h2, h3, h4⟩ := R.mt j ds e
    exact ⟨a, xs, by rw [List.getElem?_set_ne q]; exact h1, h2, h3, h4.bad hb⟩
  · cases m1 : mutOf (ρ.set i (some .mk))[j]? with
    | none => exact absurd m1 e1
    | some d1 =>
      cases m2 : mutOf (ρ.set i (some .mk))[k]? with
      | none => exact absurd m2 e2
      | some d2 =>
        obtain ⟨q1, g1⟩ := unm m1
        obtain ⟨q2, g2⟩ := unm m2
        rw [List.getElem?_set_ne q1] at e3
        rw [List.getElem?_set_ne q2] at e4
        exact R.inj j k a (by rw [g1]; exact fun z => nomatch z) (by rw [g2]; exact fun z => nomatch z) e3 e4
  · obtain ⟨q, e⟩ := oth e (.inl fun z => nomatch z)
    rw [List.getElem?_set_ne q]
    exact R.ro j ns e
  · by_cases q : i = j
    · subst q
      exact ⟨v, List.getElem?_set_self hlσ, hv⟩
    · obtain ⟨_, e⟩ := oth e (.inr q)
      rw [List.getElem?_set_ne q]
      exact R.mks j e
  · have q : i ≠ j := fun z => by subst z; exact (notPar hp).1 ds e
    exact ⟨⟨ds, by rw [List.getElem?_set_ne q]; exact e⟩, List.getElem?_set_ne q⟩
end
section
variable {X : Cx} {S : Sx} {mk : Mkd} {ρ ρ1 ρ2 : Env} {e : Expr} {r : EV} {pos p : Pos} {Φ : FV → List Arg → Res} {k : Nat} {sig : Str → Option (List Str)} {f : Str} {pn : List Str}
theorem s_defn {nd : Nat → Option (Nat × Scope)} {nm : Nat → Nat → Str} {L : LI} {i id : Nat} {c P : Addr} {name : Str} {params : Arguments} {body : List Stmt} {scope : Scope} (TB : LamX.TabB X.base X.mg c P) (hcode : X.env.code = .ref c) (hm : (P, nm) ∈ S.T) (hn : nm pos.line pos.col = X.env.qual ++ name) (hu : ∀ p ∈ S.T, p.1 = P → p.2 = nm)
    (hfree : ∀ y ∈ scope.names, y.2 = .free → X.env.scope.names.lookup y.1 = some .cell ∨ X.env.scope.names.lookup y.1 = some .free) (hd0 : params.defaults = []) (hk0 : params.kw_defaults = []) (ha : annTrees params none X.env = []) (hN : X.N.Nodup) (hi : X.N[i]? = some name) (hx : Loc X.env.scope name) (hf : X.fn name = true ∨ X.env.scope.names.lookup name = some .local)
    (hnd : nd i = some (id, scope)) (hid : S.lam id = some L) (hq : L.qual = X.env.qual ++ name) (hL : ∀ cl c' doc pm ctv, L.fd cl c' doc pm ctv = PySem.W.fnX name L.qual params body scope cl .none .none doc pm none (.ref c') ctv) (hp : isPar ρ[i]? = false) (hl : i < ρ.length) :
    PS X (.FunctionDef name params body [] none [] scope none name pos) (tS (cn X S) (mkX X S nd) ρ (.nx (ρ.set i (some .mk)))) :=
  psImp (NdefX.ps_ndefM (T := S.T) TB hcode hm hn hu hfree hd0 hk0 ha hN hi hx hf) fun D σ H ⟨Fb, R, q⟩ => ⟨R.tabs, fun fa c' H1 eN nn T1 f0 f1 c1 => by
    have k := ext_kp eN nn
    have R1 : Rel (cn X S) (mkX X S nd) Fb ρ σ H1 := R.grow mkX_ok (fun _ z => z) (fun _ z => .inl z) (fun b z y => R.fb b z (nn b y)) k T1
    have eF : NdefX.FnO fa ⟨name, X.env.qual ++ name, params, body, scope, cloFrom X.env.cells scope.names [], c'⟩ = FnU fa L (cloFrom X.env.cells scope.names []) c' := by
      unfold NdefX.FnO FnU
      simp only [hL, hq]
    have st0 : Step (cn X S) (mkX X S nd) Fb ρ ρ σ H H1 := ⟨R1, k.dead, fun _ h => h, fun i ds e => ⟨ds, e⟩⟩
    exact q _ _ (st0.toS.trans (R1.bindMk hp hl ⟨id, scope, L, fa, c', hnd, hid, rfl, by rw [← eF]; exact f1, by rw [hq]; exact c1⟩))⟩
/-- f(e), e a list that nobody else holds -/
theorem e_call1 {ds : List D} {as' : List Arg} (cx : CallX X S Φ k sig) (hm : MkOk mk) (hg : Gl X f) (hd : (f == ("__debug__" : Str)) = false) (hs : sig f = some pn) (hpn : pn.length = 1) (hst : isStar e = false) (he : PE X e (tE (cn X S) mk ρ (.fresh ds) ρ1)) (hc : Φ (.glob f) [.par ds] = .ok r as') :
    PE X (.Call (.Name f p) [e] [] pos) (tE (cn X S) mk ρ r ρ1) := by
  obtain ⟨fa, fd, hmg, hk, hp, hdf, hnd, run⟩ := cx.runs.glob f pn hs
  refine ⟨fun pins s σ H Q I ⟨Fb, R, q⟩ => ?_⟩
  refine wpAny_Call_Name_kw (ld_glob I hg hmg ?_ hd)
  have ha : PA X [e] (tCons (tE (cn X S) mk ρ (.fresh ds) ρ1) tNil) := pa_cons he pa_nil (star_cons hst)
  refine PySem.W.callWith_K (h₀ := X.base) I.ok.mod.kin hk (thn (ha.run pos pins s σ H (fun vs H1 => ∃ v, vs = [v] ∧ Step (cn X S) mk Fb ρ ρ1 σ H H1 ∧ RV (cn X S) mk Fb ρ ρ1 σ H H1 v (.fresh ds)) I ⟨Fb, R, fun v H1 s1 rv => ⟨v, rfl, s1, rv⟩⟩) fun us s1 ⟨vs, H1, I1, r1, v, ev, st, a, xs, eva, hA, h1, h2, h3, h4⟩ => ⟨I1.kIn, ?_⟩) (star_cons hst) rfl
  subst ev eva
  have hus : us.length = pn.length := by rw [← r1.length, hpn]; rfl
  have hb2 := bind_pos (fd := fd) (us := us) hp hdf hnd hus
  have mA : ∀ {xs' : List D} (b : Addr), mutA (aenv [.par xs']) ([V.ref a].map some) b ↔ b = a := fun {xs'} b => by
    constructor
    · rintro ⟨j, es, e1, e2⟩
      cases j with
      | zero => simp at e2; exact e2.symm
      | succ j => simp [aenv, mutOf] at e1
    · rintro rfl
      exact ⟨0, xs', rfl, rfl⟩
  have bd : ∀ {xs' : List D} (b : Addr), bad (bad Fb ρ1 σ) (aenv [.par xs']) ([V.ref a].map some) b ↔ bad Fb ρ1 σ b ∨ b = a := fun {xs'} b => ⟨fun z => z.elim .inl fun m => .inr ((mA b).mp m), fun z => z.elim .inl fun m => .inr ((mA b).mpr m)⟩
  have Rc : Rel (cn X S) mk0 (bad Fb ρ1 σ) (aenv [.par ds]) ([V.ref a].map some) H1 := by
    refine ⟨rfl, fun b z y => bad_none st.rel y z, fun i sv e c => ?_, fun i es e => ?_, fun i j b e1 e2 e3 e4 => ?_, fun i ns e => ?_, fun i e => ?_, st.rel.tabs⟩
    · obtain ⟨x, e1, e2⟩ := aenv_get e
      cases i with
      | zero => simp at e1; subst e1; cases e2; rcases c with ⟨_, z⟩ | ⟨_, z⟩ <;> cases z
      | succ i => simp at e1
    · have e1 := aenv_mut e
      cases i with
      | zero =>
        simp at e1
        subst e1
        exact ⟨a, xs, rfl, h1, h2, h3.bad fun b z => .inl ((bd b).mp z)⟩
      | succ i => simp at e1
    · cases i with
      | zero =>
        cases j with
        | zero => rfl
        | succ j => simp [aenv, mutOf] at e2
      | succ i => simp [aenv, mutOf] at e1
    · obtain ⟨x, e1, e2⟩ := aenv_get e
      cases i with
      | zero => simp at e1; subst e1; cases e2
      | succ i => simp at e1
    · obtain ⟨x, e1, e2⟩ := aenv_get e
      cases x <;> cases e2
  refine wpAny_call (codeAny_mono (run X.A X.stack s1 H1 ⟨us, []⟩ us [V.ref a] Q (fun _ _ _ => False) cx.room cx.gd I1.env0 (.of_eq hb2) r1 (by rw [hpn]; rfl) ⟨bad Fb ρ1 σ, [.par ds], r, as', Rc, .glob hmg hk, hc, fun v H' A => ?_⟩) fun res s' hq => cr_end I1 (fun u c => c) hq)
  obtain ⟨es, eas⟩ : ∃ es, as' = [.par es] := by
    have sh := A.shape
    match as', sh with
    | [.par es], _ => exact ⟨es, rfl⟩
    | [.dat _], sh => exact (nomatch sh.1)
    | [.ro _], sh => exact (nomatch sh.1)
    | [.fn _], sh => exact (nomatch sh.1)
    | [], sh => exact sh.elim
    | .par _ :: _ :: _, sh => exact sh.elim
    | .dat _ :: _ :: _, sh => exact (nomatch sh.1)
    | .ro _ :: _ :: _, sh => exact (nomatch sh.1)
    | .fn _ :: _ :: _, sh => exact (nomatch sh.1)
  subst eas
  have k1 : Kp (fun b => b = a) H1 H' := A.kp.mono fun b m => (mA b).mp m
  have nn : ∀ b, (Fb b ∨ b = a) → H' b ≠ none := fun b z y => h4.fb b z (k1.none b y)
  have rel1 : Rel (cn X S) mk Fb ρ1 σ H' := h4.kpM hm k1 (fun b z => .inr z) (fun b z => .inl (.inl z)) (fun b z => nn b (.inl z)) A.rel.tabs
  have kk : Kp (mutA ρ σ) H H' := st.kp.trans k1 fun b z => by rw [z]; exact hA.elim .inr .inl
  refine q v H' ⟨rel1, kk, st.sub, st.par⟩ ?_
  have val := A.val
  cases r with
  | dat d => exact RD.bad (fun b z => .inl ((bd b).mpr (.inl z))) val
  | fresh fs =>
    obtain ⟨b, ys, e1, e2, e3, e4, e5, e6⟩ := val
    have hb : H b = none := st.kp.none b e2
    refine ⟨b, ys, e1, .inl hb, fun z => e3 ((bd b).mpr (.inl z)), e4, e5.bad fun x z => .inl (z.elim (fun y => .inl ((bd x).mpr (.inl y))) .inr), ?_⟩
    refine h4.kpM hm k1 (fun x z => .inr z) (fun x z => z.elim (fun y => .inl (.inl y)) fun y => .inr (by rw [y]; exact e2)) (fun x z y => ?_) A.rel.tabs
    rcases z with z | z
    · exact nn x (.inl z) y
    · subst z; rw [e4] at y; cases y
end
end Ev
set_option Elab.async false
set_option linter.all false
set_option maxRecDepth 100000
set_option maxHeartbeats 1000000
namespace Ev
open PySem PySem.Spec PyProof.Rows L2
/-! ### several values at once into names of which some are cells: by a tuple -/
section
variable {C : Cn} {mk : Mkd} {Fb Fx : Addr → Prop} {ρ ρ' : Env} {σ : L2.St} {H H' H2 : Hp}
theorem EachV.new (n : New H H2) : ∀ {vs : List V} {rs : List EV}, EachV C Fb Fx ρ σ H vs rs → EachV C Fb Fx ρ σ H2 vs rs
  | _, _, .nil => .nil
  | _, _, .dat r t => .dat (r.kp (M := fun _ => False) n.kp fun _ z => z.elim) (EachV.new n t)
  | _, _, .fresh f h r m t => .fresh f (n.gr _ _ h) (r.kp (M := fun _ => False) n.kp fun _ z => z.elim) m (EachV.new n t)
theorem StepF.new (hm : MkOk mk) (s : StepF C mk Fb Fx ρ ρ' σ H H') (n : New H' H2) : StepF C mk Fb Fx ρ ρ' σ H H2 :=
  ⟨s.rel.new hm n, s.kp.trans (n.kp (M := mutA ρ σ)) fun x h => .inl h, s.sub, s.par, s.own⟩
/-- names at their slots -/
inductive NamesAt (X : Cx) : List Expr → List (Nat × Bool) → Prop where
  | nil : NamesAt X [] []
  | cons {x : Str} {p : Pos} {i : Nat} {b : Bool} {ts : List Expr} {is : List (Nat × Bool)} : X.N[i]? = some x → Loc X.env.scope x → (X.fn x = true ∨ X.env.scope.names.lookup x = some .local) → NamesAt X ts is → NamesAt X (.Name x p :: ts) ((i, b) :: is)
def gNames (is : List (Nat × Bool)) : TGs := fun vs σ H Q => vs.length = is.length ∧ Q (setV is vs σ) H
theorem pgsImp' {X : Cx} {e : List Expr} {t t' : TGs} (h : PGs X e t) (i : ∀ v σ H Q, t' v σ H Q → t v σ H Q) : PGs X e t' := pgsImp h i
theorem pgs_names {X : Cx} (hN : X.N.Nodup) : ∀ {ts : List Expr} {is : List (Nat × Bool)}, NamesAt X ts is → PGs X ts (gNames is)
  | _, _, .nil => pgsImp pgs_nil fun vs σ H Q ⟨h, q⟩ => by
    cases vs with
    | nil => exact ⟨rfl, q⟩
    | cons v vs => cases h
  | _, _, .cons h1 h2 h3 t => pgsImp (pgs_cons (pg_name hN h1 h2 h3) (pgs_names hN t) (by rw [each_cons rfl, List.map_cons])) fun vs σ H Q ⟨h, q⟩ => by
    cases vs with
    | nil => cases h
    | cons v vs => exact ⟨v, vs, rfl, by simpa using h, q⟩
theorem NamesAt.len {X : Cx} : ∀ {ts : List Expr} {is : List (Nat × Bool)}, NamesAt X ts is → ts.length = is.length
  | _, _, .nil => rfl
  | _, _, .cons _ _ _ t => by rw [List.length_cons, List.length_cons, t.len]
theorem NamesAt.star {X : Cx} : ∀ {ts : List Expr} {is : List (Nat × Bool)}, NamesAt X ts is → noStar ts = true
  | _, _, .nil => rfl
  | _, _, .cons _ _ _ t => by
    have := t.star
    simpa [noStar, isStar] using this
theorem setEs_len : ∀ {is : List (Nat × Bool)} {rs : List EV} {ρ ρ2 : Env}, setEs is rs ρ = some ρ2 → is.length = rs.length
  | [], [], _, _, _ => rfl
  | [], _ :: _, _, _, h => by simp [setEs] at h
  | (i, b) :: _, [], _, _, h => by simp [setEs] at h
  | (i, b) :: is, v :: vs, ρ, ρ2, h => by
    unfold setEs at h
    obtain ⟨ρ1, _, h2⟩ := Option.bind_eq_some_iff.mp h
    rw [List.length_cons, List.length_cons, setEs_len h2]
end
section
variable {X : Cx} {S : Sx} {mk : Mkd} {ρ ρ1 ρ2 : Env} {rs : List EV} {pos : Pos}
theorem s_parC {is : List (Nat × Bool)} {ts es : List Expr} {pt pt2 : Pos} {kt k2 : Nat} (hm : MkOk mk) (hc : X.calm = true) (hN : X.N.Nodup) (hn : NamesAt X ts is) (hlen : es.length ≤ 1000)
    (ha : PA X es (tL (cn X S) mk ρ rs ρ1)) (hce : cellT X.env.scope (.Tuple ts kt pt) (.Tuple es k2 pt2) = true) (hs : setEs is rs ρ1 = some ρ2) (hrl : rs.length = es.length) :
    PS X (.Assign [.Tuple ts kt pt] (.Tuple es k2 pt2) pos) (tS (cn X S) mk ρ (.nx ρ2)) := by
  refine psImp (ps_asg (pe_tup ha) (pg_tup (n := is.length) hc (pgs_names hN hn) (by rw [each_len, hn.len]) (each_plain hn.star)) (swaps_sole rfl) (stores_cell hce) (by rw [each_cons rfl, List.map_cons]; rfl)) fun D σ H h => ?_
  obtain ⟨Fb, R, q⟩ := h
  refine ⟨Fb, R, fun vs H1 Fx s ev => ?_⟩
  have hl : vs.length = rs.length := ev.len
  have hz : vs.length ≤ sizeLine := by rw [hl, hrl]; exact Nat.le_trans hlen (by decide)
  refine ⟨hz, fun T hT => ?_⟩
  have n : New H1 (upd H1 T (.tup vs)) := .laid hT
  have s' := s.new hm n
  have ev' := ev.new n
  obtain ⟨g1, g2, g3⟩ := store_all hs s'.rel ev' fun a f => (s'.own a f).2
  refine ⟨T, vs, rfl, .inl (.inl upd_same), by rw [hl]; exact (setEs_len hs).symm, by rw [hl]; exact (setEs_len hs).symm, q _ _ ⟨g1, s'.kp, fun a m => ?_, fun i ds e => ?_⟩⟩
  · rcases g2 a m with z | z
    · exact .inl (s'.sub a z)
    · exact (s'.own a z).1.elim .inr .inl
  · obtain ⟨ds1, e1⟩ := s'.par i ds e
    obtain ⟨q1, q2⟩ := g3 i ds1 e1
    exact ⟨⟨ds1, q1⟩, q2⟩
theorem e_addv {i : Nat} {x : Str} {e : Expr} {p : Pos} {r : EV} {ds0 ds es : List D} (hm : MkOk mk) (hi : X.N[i]? = some x) (hv : Vis X.env.scope x) (hd : (x == ("__debug__" : Str)) = false) (hcd : (x == ("__classdict__" : Str)) = false) (h0 : mutOf ρ[i]? = some ds0) (he : PE X e (tE (cn X S) mk ρ r ρ1))
    (h1 : mutOf ρ1[i]? = some ds) (hr : r.frz = .list es) (hl : ds.length + es.length ≤ sizeLine) : PE X (.BinOp (.Name x p) .Add e pos) (tE (cn X S) mk ρ (.fresh (ds ++ es)) ρ1) := by
  refine peImp (pe_op op_cat (pe_var hi hv hd hcd) he) fun σ H Q ⟨Fb, R, q⟩ => ?_
  obtain ⟨a, xs, g1, _, g3, _⟩ := R.mt i ds0 h0
  refine ⟨_, g1, Fb, R, fun v H1 s1 rv => ?_⟩
  obtain ⟨a', ys, f1, _, f3, f4⟩ := s1.rel.mt i ds h1
  rw [g1] at f1
  cases f1
  have z := rv.frz
  rw [hr] at z
  cases z with
  | lst k1 k2 k3 => exact ⟨_, _, _, _, rfl, rfl, f3, k1, by rw [f4.length, k3.length]; exact hl, fun p' hp => q _ _ (s1.new hm (.laid hp)) (RV.of hm s1 (.laid hp) (rvn_lst hp (f4.append k3)))⟩
/-! ### list(range(..)) -/
theorem rds_rg {K : PySem.W.Frag} {H : Hp} {B : Addr → Prop} {a b : Int} : RDs K H B (rgV a b) (rngD a b) := by
  unfold rgV rngD
  generalize List.range (b - a).toNat = l
  induction l with
  | nil => exact .nil
  | cons i l ih => exact .cons (.int _) ih
theorem rng_len {a b : Int} : (rngD a b).length = (b - a).toNat := by unfold rngD; rw [List.length_map, List.length_range]
theorem e_listR1 {a : Expr} {p p1 p2 pos2 : Pos} {j : Int} {r : EV} (hm : MkOk mk) (hc : X.calm = true) (hg : Gl X "list") (hmg : X.mg "list" = none) (hg2 : Gl X "range") (hmg2 : X.mg "range" = none) (hst : isStar a = false) (he : PE X a (tE (cn X S) mk ρ r ρ1)) (hr : r.frz = .int j) (hj : -(2 ^ 62) ≤ j ∧ j < 2 ^ 62) (hlen : (rngD 0 j).length ≤ sizeLine) :
    PE X (.Call (.Name "list" p) [.Call (.Name "range" p1) [a] [] p2] [] pos2) (tE (cn X S) mk ρ (.fresh (rngD 0 j)) ρ1) := by
  refine peImp (pe_listRg hc hg hmg (prg_1 hg2 hmg2 he (star_cons hst))) fun σ H Q ⟨Fb, R, q⟩ => ⟨Fb, R, fun v H1 s1 rv => ?_⟩
  have z := rv.frz
  rw [hr] at z
  cases z
  rw [rng_len, sizeLine_eq] at hlen
  refine ⟨j, rfl, ⟨by decide, by decide, hj.1, hj.2, by omega⟩, fun q' hq' => q _ _ (s1.new hm (.laid hq')) (RV.of hm s1 (.laid hq') (rvn_lst hq' rds_rg))⟩
theorem e_listR2 {a b : Expr} {p p1 p2 pos2 : Pos} {i j : Int} {r r2 : EV} (hm : MkOk mk) (hc : X.calm = true) (hg : Gl X "list") (hmg : X.mg "list" = none) (hg2 : Gl X "range") (hmg2 : X.mg "range" = none) (hst : isStar a = false) (hst2 : isStar b = false) (he : PE X a (tE (cn X S) mk ρ r ρ1)) (he2 : PE X b (tE (cn X S) mk ρ1 r2 ρ2)) (hr : r.frz = .int i) (hr2 : r2.frz = .int j)
    (hj : -(2 ^ 62) ≤ i ∧ i < 2 ^ 62 ∧ -(2 ^ 62) ≤ j ∧ j < 2 ^ 62) (hlen : (rngD i j).length ≤ sizeLine) :
    PE X (.Call (.Name "list" p) [.Call (.Name "range" p1) [a, b] [] p2] [] pos2) (tE (cn X S) mk ρ (.fresh (rngD i j)) ρ2) := by
  refine peImp (pe_listRg hc hg hmg (prg_2 hg2 hmg2 he he2 (star_cons hst) (star_cons hst2) (by rw [star_cons hst2]; rfl))) fun σ H Q ⟨Fb, R, q⟩ => ⟨Fb, R, fun v H1 s1 rv => ⟨Fb, s1.rel, fun v2 H2 s2 rv2 => ?_⟩⟩
  have z2 := rv2.frz
  rw [hr2] at z2
  have z := rv.frz
  rw [hr] at z
  cases z
  cases z2
  rw [rng_len, sizeLine_eq] at hlen
  refine ⟨i, j, rfl, rfl, ⟨hj.1, hj.2.1, hj.2.2.1, hj.2.2.2, by omega⟩, fun q' hq' => q _ _ ((s1.trans s2).new hm (.laid hq')) (RV.of hm (s1.trans s2) (.laid hq') (rvn_lst hq' rds_rg))⟩
end
end Ev
set_option Elab.async false
set_option linter.all false
set_option maxRecDepth 100000
set_option maxHeartbeats 1000000
namespace Ev
open PySem PySem.Spec PyProof.Rows L2
/-! ### the check of a text against the small language -/
/-- what a name of the module is known to be -/
inductive GI where
  | no | con (d : D) | gcd | other
/-- a function that is made in a def -/
structure LamE where
  id : Nat
  nm : Str
  qual : Str
  params : Arguments
  body : Expr ⊕ List Stmt
  scope : Scope
def frOf (sc : Scope) : List Str := (sc.names.filter fun y => decide (y.2 = .free)).map (·.1)
def LamE.li (x : LamE) : LI := ⟨x.qual, frOf x.scope, fun cl c' doc pm ctv => match x.body with
  | .inl e => PySem.W.kla_fn "<lambda>" x.qual x.params e x.scope cl pm (.ref c') ctv
  | .inr b => PySem.W.fnX x.nm x.qual x.params b x.scope cl .none .none doc pm none (.ref c') ctv⟩
/-- what is looked at in one frame or block -/
structure Cc where
  N : List Str
  sc : Scope
  fr : Bool
  qual : Str
  nm : Nat → Nat → Str
  nd : Nat → Option (Nat × Scope)
  /-- the block that this is, if one -/
  cf : Option Scope
structure Gs where
  gi : Str → GI
  sig : Str → Option (List Str)
abbrev Fnd := Option (List LamE)
def g0 (b : Bool) : Fnd := if b then some [] else none
def o2 : Fnd → Fnd → Fnd
  | some x, some y => some (x ++ y)
  | _, _ => none
theorem g0_ok {b : Bool} {l : List LamE} (h : g0 b = some l) : b = true := by
  unfold g0 at h
  split at h
  · assumption
  · cases h
theorem o2_ok {a b : Fnd} {l : List LamE} (h : o2 a b = some l) : ∃ x y, a = some x ∧ b = some y ∧ l = x ++ y := by
  unfold o2 at h
  split at h
  · cases h; exact ⟨_, _, rfl, rfl, rfl⟩
  · cases h
def eqF : D → D → Bool
  | .none, .none => true
  | .bool a, .bool b => a == b
  | .int a, .int b => a == b
  | .str a, .str b => decide (a = b)
  | _, _ => false
def eqFs : List D → List D → Bool
  | [], [] => true
  | a :: as, b :: bs => eqF a b && eqFs as bs
  | _, _ => false
def eqD : D → D → Bool
  | .tuple as, .tuple bs => eqFs as bs
  | a, b => eqF a b
theorem eqF_ok {a b : D} (h : eqF a b = true) : a = b := by
  cases a <;> cases b <;> simp [eqF] at h <;> first | rfl | (subst h; rfl)
theorem eqFs_ok : ∀ {as bs : List D}, eqFs as bs = true → as = bs
  | [], [], _ => rfl
  | a :: as, b :: bs, h => by
    simp only [eqFs, Bool.and_eq_true] at h
    rw [eqF_ok h.1, eqFs_ok h.2]
  | [], _ :: _, h => by simp [eqFs] at h
  | _ :: _, [], h => by simp [eqFs] at h
theorem eqD_ok {a b : D} (h : eqD a b = true) : a = b := by
  unfold eqD at h
  split at h
  · rw [eqFs_ok h]
  · exact eqF_ok h
def visB (sc : Scope) (x : Str) : Bool := match sc.names.lookup x with
  | some .local => true
  | some .cell => true
  | some .free => true
  | _ => false
theorem vis_by {sc : Scope} {x : Str} (h : visB sc x = true) : Vis sc x := by
  unfold visB at h
  unfold Vis
  cases e : sc.names.lookup x with
  | none => rw [e] at h; cases h
  | some k =>
    cases k with
    | «local» => exact .inl rfl
    | cell => exact .inr (.inl rfl)
    | free => exact .inr (.inr rfl)
    | globalExplicit => rw [e] at h; cases h
    | globalImplicit => rw [e] at h; cases h
def nmB (c : Cc) (i : Nat) (x : Str) : Bool := decide (c.N[i]? = some x) && visB c.sc x && !(x == ("__debug__" : Str)) && !(x == ("__classdict__" : Str))
def glB (c : Cc) (x : Str) : Bool := decide (c.sc.names.lookup x = some .globalImplicit)
/-- a cell of the block's own -/
def cfB (c : Cc) (x : Str) : Bool := match c.cf with
  | some sc => sc.names.lookup x == some .cell
  | none => false
def locB (c : Cc) (x : Str) : Bool := decide (c.sc.names.lookup x = some .local) || ((c.fr || cfB c x) && decide (c.sc.names.lookup x = some .cell))
def plIx : Expr → Bool
  | .Slice _ _ none _ => false
  | _ => true
theorem plIx_ok {b : Expr} (h : plIx b = true) : PlainIx b := by
  intro o i
  cases b with
  | Slice a b c p => cases c <;> first | rfl | (simp [plIx] at h)
  | _ => rfl
def notSet : Expr → Bool
  | .Set _ _ _ => false
  | _ => true
theorem folded_ok {e : Expr} {env : PySem.Env} (h : notSet e = true) : ∀ x, foldedSetIterable e env x = pure x := by
  intro x
  cases e <;> first | rfl | (simp [notSet] at h)
/-- what may stand as a test -/
def tOk : Expr → Bool
  | .IfExp _ _ _ _ => false
  | _ => true
section
variable (g : Gs) (f : Cc → Expr → E → Fnd)
/-- displays in which some are starred -/
def chkX (c : Cc) : List Expr → List E → List Bool → Fnd
  | [], [], [] => some []
  | .Starred e _ :: es, il :: ils, true :: bs => o2 (f c e il) (chkX c es ils bs)
  | e :: es, il :: ils, false :: bs => if isStar e then none else o2 (f c e il) (chkX c es ils bs)
  | _, _, _ => none
/-- lists -/
def chkL (c : Cc) : List Expr → List E → Fnd
  | [], [] => some []
  | e :: es, il :: ils => if isStar e then none else o2 (f c e il) (chkL c es ils)
  | _, _ => none
/-- tests of a comprehension: none or one -/
def chkC (c : Cc) : List Expr → List E → Fnd
  | [], [] => some []
  | [e], [il] => if tOk e then f c e il else none
  | _, _ => none
def chkO (c : Cc) : Option Expr → E → Fnd
  | none, .lit .none => some []
  | some _, .lit .none => none
  | some e, il => f c e il
  | _, _ => none
/-- an argument -/
def chkA1 (c : Cc) : Expr → AE → Fnd
  | .Name x _, .mv i => g0 (nmB c i x)
  | .Name x _, .fv i => g0 (nmB c i x)
  | .Name x _, .fg y => g0 (decide (x = y) && glB c x && (g.sig x).isSome && !(x == ("__debug__" : Str)))
  | .Name x _, .made i id js => match c.nd i with
    | some (id', sc) => g0 (c.fr && nmB c i x && decide (id = id') && decide (js.map (fun j => c.N[j]?) = (frOf sc).map some) && (frOf sc).all fun y => visB c.sc y && !decide (c.sc.names.lookup y = some .local))
    | none => none
  | .Lambda params body scope pos, .lam id js =>
    if c.fr && decide (c.nm pos.line pos.col = c.qual ++ "<lambda>") && params.defaults.isEmpty && params.kw_defaults.isEmpty && decide (js.map (fun j => c.N[j]?) = (frOf scope).map some) && (frOf scope).all (fun y => visB c.sc y && !decide (c.sc.names.lookup y = some .local))
    then some [⟨id, "<lambda>", c.qual ++ "<lambda>", params, .inl body, scope⟩] else none
  | e, .d il => f c e il
  | _, _ => none
def chkA (c : Cc) : List Expr → List AE → Fnd
  | [], [] => some []
  | e :: es, a :: as => if isStar e then none else o2 (chkA1 g f c e a) (chkA c es as)
  | _, _ => none
def chkK (c : Cc) : List Keyword → List AE → Fnd
  | [], [] => some []
  | ⟨_, e, _⟩ :: es, a :: as => o2 (chkA1 g f c e a) (chkK c es as)
  | _, _ => none
end
/-- a target's slots -/
def tgS : Tg → List Nat
  | .nm i => [i]
  | .tup ts => tgSs ts
  | .at _ _ => []
where tgSs : List Tg → List Nat
  | [] => []
  | t :: ts => tgS t ++ tgSs ts
mutual
def chkG (c : Cc) : Expr → Tg → Bool
  | .Name x _, .nm i => decide (c.N[i]? = some x) && locB c x
  | .Tuple es _ _, .tup ts => chkGs c es ts
  | .Subscript (.Name x _) (.Constant (.int k) _ _) _, .at i k' => nmB c i x && decide (k = k')
  | _, _ => false
def chkGs (c : Cc) : List Expr → List Tg → Bool
  | [], [] => true
  | e :: es, t :: ts => !isStar e && chkG c e t && chkGs c es ts
  | _, _ => false
end
def isTup : Expr → Bool
  | .Tuple _ _ _ => true
  | _ => false
section
variable (g : Gs) (f : Cc → Expr → E → Fnd)
def noB (x : Str) : Bool := match g.gi x with
  | .no => true
  | _ => false
def gcdB : Bool := match g.gi "gcd" with
  | .gcd => true
  | _ => false
def chkI (c : Cc) (tg : Expr) : Expr → It → Fnd
  | e, .seq il => if notSet e then f c e il else none
  | .Call (.Name x _) [a] [] _, .rng ia _ false => if decide (x = "range") && glB c "range" && noB g "range" && !isStar a then f c a ia else none
  | .Call (.Name x _) [a, b] [] _, .rng ia ib true => if decide (x = "range") && glB c "range" && noB g "range" && !isStar a && !isStar b then o2 (f c a ia) (f c b ib) else none
  | .Call (.Name x _) [a] [] _, .enum ia => if decide (x = "enumerate") && glB c "enumerate" && noB g "enumerate" && !isStar a && isTup tg then f c a ia else none
  | .Call (.Name x _) [a, b] [] _, .zip ia ib => if decide (x = "zip") && glB c "zip" && noB g "zip" && !isStar a && !isStar b && isTup tg then o2 (f c a ia) (f c b ib) else none
  | _, _ => none
def ownOf (c : Cc) (vs : List Nat) : List (Str × Nat) := vs.map fun i => ((c.N[i]?).getD "", i)
def relS (scope sc : Scope) : Scope := { scope with names := scope.names.map fun (n, k) => if (k == NameKind.free && sc.kind == .function && sc.names.lookup n == some .cell) then (n, NameKind.cell) else (n, k) }
def sub (c : Cc) (scope : Scope) : Cc := { c with sc := relS scope c.sc, fr := false, cf := some scope }
def chkStep (c : Cc) : Expr → E → Fnd
  | .Constant (.int i) _ _, .lit (.int j) => g0 (decide (i = j))
  | .Constant (.bool i) _ _, .lit (.bool j) => g0 (decide (i = j))
  | .Constant .none _ _, .lit .none => some []
  | .Constant (.str i) _ _, .lit (.str j) => g0 (decide (i = j))
  | .Name x _, .gc y d => match g.gi x with
    | .con d' => g0 (decide (x = y) && glB c x && eqD d d' && !(x == ("__debug__" : Str)))
    | _ => none
  | .Name x _, .var i => g0 (nmB c i x)
  | .Name x _, .mov i => g0 (nmB c i x)
  | .BinOp a op b _, .bin op' ia ib => if op = op' then o2 (f c a ia) (f c b ib) else none
  | .Compare a [op] [b] _, .cmp op' ia ib => if decide (op = op') && !behindInMarks op b then o2 (f c a ia) (f c b ib) else none
  | .Compare a [op1, op2] [b, d] _, .cmp2 op1' op2' ia ib id => if decide (op1 = op1') && decide (op2 = op2') && !lastMarks [op1, op2] [b, d] then o2 (f c a ia) (o2 (f c b ib) (f c d id)) else none
  | .UnaryOp .USub a _, .neg ia => f c a ia
  | .UnaryOp .Not a _, .not ia => if tOk a then f c a ia else none
  | .BoolOp .And (a :: b :: bs) p, .and ia ib => if !tOk a then none else o2 (f c a ia) (f c (.BoolOp .And (b :: bs) p) ib)
  | .BoolOp .Or (a :: b :: bs) p, .or ia ib => if !tOk a then none else o2 (f c a ia) (f c (.BoolOp .Or (b :: bs) p) ib)
  | .BoolOp _ [a] _, ia => if tOk a then f c a ia else none
  | .IfExp t a b _, .ite it ia ib => if !tOk t then none else o2 (f c t it) (o2 (f c a ia) (f c b ib))
  | .Tuple es _ _, .tup is => chkL f c es is
  | .List es _, .lst is => chkL f c es is
  | .Tuple es _ _, .cat false bs is => chkX f c es is bs
  | .List es _, .cat true bs is => chkX f c es is bs
  | .Subscript a (.Slice none none (some (.UnaryOp .USub (.Constant (.int 1) _ _) _)) _) _, .rev ia => f c a ia
  | .Subscript (.Name x _) (.Slice lo hi none _) _, .slv i ilo ihi => if nmB c i x then o2 (chkO f c lo ilo) (chkO f c hi ihi) else none
  | .Subscript a (.Slice lo hi none _) _, .slc ia ilo ihi => o2 (f c a ia) (o2 (chkO f c lo ilo) (chkO f c hi ihi))
  | .Subscript (.Name x _) b _, .ixv i ib => if nmB c i x && plIx b then f c b ib else none
  | .Subscript a b _, .ix ia ib => if plIx b then o2 (f c a ia) (f c b ib) else none
  | .Call (.Name y _) [.Name x _] [] _, .lenv i => g0 (decide (y = "len") && nmB c i x && glB c "len" && noB g "len")
  | .Call (.Name y _) [a, .Name z _] [] _, .isi ia cl => if decide (y = "isinstance") && decide (z = Str.ofString cl) && isiIds.contains cl && glB c "isinstance" && noB g "isinstance" && glB c z && noB g z && !isStar a then f c a ia else none
  | .Call (.Name y _) (a :: as) [] _, .blt id is =>
    if decide (id = "math.gcd") && decide (y = "gcd") && glB c "gcd" && gcdB g then chkL f c (a :: as) is
    else if decide (y = Str.ofString id) && (typeIds.contains id || funIds.contains id) && glB c y && noB g y then chkL f c (a :: as) is else none
  | .Call (.Name y _) es kws _, .call y' as ks perm => match g.sig y with
    | some pn => if decide (y = y') && decide (namesOf kws = some ks) && kwB pn ks es.length perm && noStar es && glB c y && !(y == ("__debug__" : Str)) && decide (as.length = es.length + kws.length) then o2 (chkA g f c es (as.take es.length)) (chkK g f c kws (as.drop es.length)) else none
    | none => none
  | .Call (.Name x _) (a :: es) [] _, .callv i as => if nmB c i x && noStar (a :: es) then chkA g f c (a :: es) as else none
  | .Call (.Name y _) [a] [] _, .call1 y' ia => match g.sig y with
    | some pn => if decide (y = y') && decide (pn.length = 1) && glB c y && !isStar a && !(y == ("__debug__" : Str)) then f c a ia else none
    | none => none
  | .Call (.Attribute o m apos) (a :: es) [] pos, .mth m' io is => if decide (m = Str.ofString m') && (decide (m' = "index") || decide (m' = "join")) && noStar (a :: es) && decide ((a :: es).length < 30) && baseOk o && (apos.endLine == pos.line) then o2 (f c o io) (chkL f c (a :: es) is) else none
  | .Call (.Attribute (.Name x _) m apos) (a :: es) [] pos, .mut m' i is => if decide (m = Str.ofString m') && nmB c i x && noStar (a :: es) && decide ((a :: es).length < 30) && (apos.endLine == pos.line) then chkL f c (a :: es) is else none
  | .ListComp elt [⟨tg, it, ifs, 0⟩] scope _, .lc ie t ii cs vs =>
    if blkC c.N c.sc scope (ownOf c vs) && chkG (sub c scope) tg t && (tgS t).all (fun j => decide (j ∈ vs)) then o2 (chkI g f c tg it ii) (o2 (chkC f (sub c scope) ifs cs) (f (sub c scope) elt ie)) else none
  | .DictComp kx vx [⟨tg, it, [], 0⟩] scope _, .dc ik iv t ii vs =>
    if blkC c.N c.sc scope (ownOf c vs) && chkG (sub c scope) tg t && (tgS t).all (fun j => decide (j ∈ vs)) then o2 (chkI g f c tg it ii) (o2 (f (sub c scope) kx ik) (f (sub c scope) vx iv)) else none
  | _, _ => none
end
section
variable (g : Gs) (f : Cc → Expr → E → Fnd)
/-- what the first look does not know -/
def chkStep2 (c : Cc) : Expr → E → Fnd
  | .Call (.Name y _) [.Call (.Name x _) [a] [] _] [] _, .ofit false (.rng ia _ false) => if decide (y = "list") && decide (x = "range") && glB c "list" && noB g "list" && glB c "range" && noB g "range" && !isStar a then f c a ia else none
  | .Call (.Name y _) [.Call (.Name x _) [a, b] [] _] [] _, .ofit false (.rng ia ib true) => if decide (y = "list") && decide (x = "range") && glB c "list" && noB g "list" && glB c "range" && noB g "range" && !isStar a && !isStar b then o2 (f c a ia) (f c b ib) else none
  | .BinOp (.Name x _) .Add b _, .addv i ib => if nmB c i x then f c b ib else none
  | _, _ => none
end
def orF (a : Fnd) (b : Unit → Fnd) : Fnd := match a with
  | some l => some l
  | none => b ()
theorem orF_ok {a : Fnd} {b : Unit → Fnd} {l : List LamE} (h : orF a b = some l) : a = some l ∨ b () = some l := by
  unfold orF at h
  split at h
  · exact .inl h
  · exact .inr h
def chkE (g : Gs) : Nat → Cc → Expr → E → Fnd
  | 0 => fun _ _ _ => none
  | n + 1 => fun c e il => orF (chkStep g (chkE g n) c e il) fun _ => chkStep2 g (chkE g n) c e il
end Ev
set_option Elab.async false
set_option linter.all false
set_option maxRecDepth 100000
set_option maxHeartbeats 4000000
namespace Ev
open PySem PySem.Spec PyProof.Rows L2
structure XOk (g : Gs) (c : Cc) (X : Cx) (S : Sx) (mk : Mkd) (Φ : FV → List Arg → Res) (k : Nat) : Prop where
  N : X.N = c.N
  nd : c.N.Nodup
  sc : X.env.scope = c.sc
  calm : X.calm = true
  hm : MkOk mk
  hmd : MkD mk
  cx : CallX X S Φ k g.sig
  un : X.A.units + 65 < cLine
  no : ∀ x, noB g x = true → X.mg x = none
  con : ∀ x d, g.gi x = .con d → KCon X x d
  gcd : ∀ x, g.gi x = .gcd → X.mg x = some (.builtin "math.gcd")
  ndl : ∀ i id sc, c.nd i = some (id, sc) → ∃ L, S.lam id = some L ∧ L.fr = frOf sc
  cfo : ∀ y, cfB c y = true → X.fn y = true
  frame : c.fr = true → (∀ x, X.fn x = true) ∧ X.env.qual = c.qual ∧ mk = mkX X S c.nd ∧ ∃ a P, LamX.TabB X.base X.mg a P ∧ X.env.code = .ref a ∧ (P, c.nm) ∈ S.T ∧ ∀ p ∈ S.T, p.1 = P → p.2 = c.nm
def isBool : Expr → Bool
  | .BoolOp _ _ _ => true
  | _ => false
/-- what the check of an expression says -/
def SE (X : Cx) (S : Sx) (mk : Mkd) (Φ : FV → List Arg → Res) (e : Expr) (il : E) : Prop :=
  ∀ ρ r ρ', ev Φ il ρ = .ok r ρ' → PE X e (tE (cn X S) mk ρ r ρ') ∧ ∀ b, r.frz = .bool b → (tOk e = true → PT X e (tT (cn X S) mk ρ b ρ')) ∧ (isBool e = true → PW X e (tT (cn X S) mk ρ b ρ'))
def LamsOk (S : Sx) (l : List LamE) : Prop := ∀ x ∈ l, S.lam x.id = some x.li
theorem LamsOk.split {S : Sx} {a b : List LamE} (h : LamsOk S (a ++ b)) : LamsOk S a ∧ LamsOk S b := ⟨fun x hx => h x (List.mem_append_left _ hx), fun x hx => h x (List.mem_append_right _ hx)⟩
theorem bind_ok {α β : Type} {o : Out α} {f : α → Env → Out β} {b : β} {ρ' : Env} (h : o.bind f = .ok b ρ') : ∃ a ρ1, o = .ok a ρ1 ∧ f a ρ1 = .ok b ρ' := by
  cases o with
  | ok a ρ1 => exact ⟨a, ρ1, rfl, h⟩
  | exc c x ρ1 => cases h
  | bad => cases h
theorem frz_ok {o : Out EV} {d : D} {ρ' : Env} (h : o.frz = .ok d ρ') : ∃ r, o = .ok r ρ' ∧ d = r.frz := by
  cases o with
  | ok a ρ1 => cases h; exact ⟨a, rfl, rfl⟩
  | exc c x ρ1 => cases h
  | bad => cases h
theorem fbind_ok {β : Type} {o : Out EV} {f : D → Env → Out β} {b : β} {ρ' : Env} (h : o.frz.bind f = .ok b ρ') : ∃ r ρ1, o = .ok r ρ1 ∧ f r.frz ρ1 = .ok b ρ' := by
  obtain ⟨d, ρ1, h1, h2⟩ := bind_ok h
  obtain ⟨r, h3, h4⟩ := frz_ok h1
  exact ⟨r, ρ1, h3, by rw [← h4]; exact h2⟩
theorem opt_ok {α : Type} {o : Option α} {a : α} {ρ ρ' : Env} (h : Out.opt ρ o = .ok a ρ') : o = some a ∧ ρ = ρ' := by
  cases o with
  | none => cases h
  | some x => cases h; exact ⟨rfl, rfl⟩
section
variable {g : Gs} {c : Cc} {X : Cx} {S : Sx} {mk : Mkd} {Φ : FV → List Arg → Res} {k : Nat} {e : Expr} {il : E}
theorem se_plain (hp : plainTest e = true) (h : ∀ ρ r ρ', ev Φ il ρ = .ok r ρ' → PE X e (tE (cn X S) mk ρ r ρ')) : SE X S mk Φ e il := fun ρ r ρ' he =>
  ⟨h ρ r ρ' he, fun b hb => ⟨fun _ => t_plain hp (h ρ r ρ' he) hb, fun hbo => by cases e <;> first | (simp [plainTest] at hp; done) | (simp [isBool] at hbo; done)⟩⟩
theorem XOk.nmv (x : XOk g c X S mk Φ k) {i : Nat} {y : Str} (h : nmB c i y = true) : X.N[i]? = some y ∧ Vis X.env.scope y ∧ (y == ("__debug__" : Str)) = false ∧ (y == ("__classdict__" : Str)) = false := by
  unfold nmB at h
  simp only [Bool.and_eq_true, decide_eq_true_eq, Bool.not_eq_true'] at h
  exact ⟨by rw [x.N]; exact h.1.1.1, by rw [x.sc]; exact vis_by h.1.1.2, h.1.2, h.2⟩
theorem XOk.gl (x : XOk g c X S mk Φ k) {y : Str} (h : glB c y = true) : Gl X y := by
  unfold glB at h
  show X.env.scope.names.lookup y = _
  rw [x.sc]
  exact of_decide_eq_true h
theorem XOk.loc (x : XOk g c X S mk Φ k) {y : Str} (h : locB c y = true) : Loc X.env.scope y ∧ (X.fn y = true ∨ X.env.scope.names.lookup y = some .local) := by
  unfold locB at h
  rw [x.sc]
  simp only [Bool.or_eq_true, Bool.and_eq_true, decide_eq_true_eq] at h
  rcases h with h | ⟨h1 | h1, h2⟩
  · exact ⟨.inl h, .inr h⟩
  · exact ⟨.inr h2, .inl ((x.frame h1).1 y)⟩
  · exact ⟨.inr h2, .inl (x.cfo y h1)⟩
/-- a block within -/
theorem XOk.blk (x : XOk g c X S mk Φ k) {scope : Scope} (s : Shared) (H : Hp) (C : Addr) (cl : List (Str × Addr)) (fp : List Addr) : XOk g (sub c scope) (X.blk s H scope (compEnvC scope cl C X.env) fp) S mk Φ k :=
  ⟨x.N, x.nd, by rw [show (sub c scope).sc = relS scope c.sc from rfl, ← x.sc]; rfl, x.calm, x.hm, x.hmd, ⟨x.cx.runs, x.cx.room, x.cx.gd⟩, x.un, x.no, x.con, x.gcd, x.ndl, fun _ h => h, fun h => by cases h⟩
/-! ### lists -/
def F1 (g : Gs) (S : Sx) (Φ : FV → List Arg → Res) (k : Nat) (f : Cc → Expr → E → Fnd) : Prop := ∀ (c : Cc) (X : Cx) (mk : Mkd) (e : Expr) (il : E) (l : List LamE), XOk g c X S mk Φ k → f c e il = some l → LamsOk S l → SE X S mk Φ e il
variable {f : Cc → Expr → E → Fnd}
theorem chkL_star {c : Cc} : ∀ {es : List Expr} {ils : List E} {l : List LamE}, chkL f c es ils = some l → noStar es = true
  | [], [], _, _ => rfl
  | e :: es, il :: ils, l, h => by
    unfold chkL at h
    split at h
    · cases h
    · rename_i hs
      obtain ⟨_, _, _, h2, _⟩ := o2_ok h
      have := chkL_star h2
      unfold noStar at this ⊢
      simp only [List.all_cons, Bool.and_eq_true, Bool.not_eq_true']
      exact ⟨by simpa using hs, this⟩
  | [], _ :: _, _, h => by unfold chkL at h; cases h
  | _ :: _, [], _, h => by unfold chkL at h; cases h
theorem chkL_ok (hf : F1 g S Φ k f) (x : XOk g c X S mk Φ k) : ∀ {es : List Expr} {ils : List E} {l : List LamE}, chkL f c es ils = some l → LamsOk S l → ∀ ρ ds ρ', evL Φ ils ρ = .ok ds ρ' → PA X es (tAs (cn X S) mk ρ ds ρ')
  | [], [], l, h, hl, ρ, ds, ρ', he => by
    unfold evL at he
    cases he
    exact a_nil
  | e :: es, il :: ils, l, h, hl, ρ, ds, ρ', he => by
    unfold chkL at h
    split at h
    · cases h
    · rename_i hs
      obtain ⟨l1, l2, h1, h2, rfl⟩ := o2_ok h
      obtain ⟨g1, g2⟩ := hl.split
      unfold evL at he
      obtain ⟨r, ρ1, e1, e2⟩ := fbind_ok he
      obtain ⟨ds', ρ2, e3, e4⟩ := bind_ok e2
      cases e4
      exact a_cons (by simpa using hs) (hf c X mk e il l1 x h1 g1 ρ r ρ1 e1).1 (chkL_ok hf x h2 g2 ρ1 ds' ρ' e3)
  | [], _ :: _, _, h, _, _, _, _, _ => by unfold chkL at h; cases h
  | _ :: _, [], _, h, _, _, _, _, _ => by unfold chkL at h; cases h
theorem chkX_ok (hf : F1 g S Φ k f) (x : XOk g c X S mk Φ k) : ∀ {es : List Expr} {ils : List E} {bs : List Bool} {l : List LamE}, chkX f c es ils bs = some l → LamsOk S l → ∀ ρ ds ρ', evX Φ ils bs ρ = .ok ds ρ' → PA X es (tAs (cn X S) mk ρ ds ρ')
  | es, [], bs, l, h, hl, ρ, ds, ρ', he => by
    unfold chkX at h
    split at h
    · unfold evX at he
      cases he
      exact a_nil
    all_goals first | (cases h; done) | (rename_i hh; cases hh; done) | skip
    all_goals (simp_all; done)
  | es, il :: ils, bs, l, h, hl, ρ, ds, ρ', he => by
    unfold chkX at h
    split at h
    · exact absurd ‹_ :: _ = []› (List.cons_ne_nil _ _)
    · rename_i hh
      cases hh
      obtain ⟨l1, l2, h1, h2, rfl⟩ := o2_ok h
      obtain ⟨g1, g2⟩ := hl.split
      unfold evX at he
      obtain ⟨r, ρ1, e1, e2⟩ := fbind_ok he
      obtain ⟨xs, ρ1', e3, e4⟩ := bind_ok e2
      obtain ⟨e5, rfl⟩ := opt_ok e3
      obtain ⟨ds', ρ2, e6, e7⟩ := bind_ok e4
      cases e7
      exact a_star (hf c X mk _ _ l1 x h1 g1 ρ r ρ1 e1).1 (chkX_ok hf x h2 g2 ρ1 ds' ρ' e6) e5
    · rename_i hh
      cases hh
      split at h
      · cases h
      · rename_i hs
        obtain ⟨l1, l2, h1, h2, rfl⟩ := o2_ok h
        obtain ⟨g1, g2⟩ := hl.split
        unfold evX at he
        obtain ⟨r, ρ1, e1, e2⟩ := fbind_ok he
        obtain ⟨xs, ρ1', e3, e4⟩ := bind_ok e2
        obtain ⟨e5, rfl⟩ := opt_ok e3
        obtain ⟨ds', ρ2, e6, e7⟩ := bind_ok e4
        cases e5
        cases e7
        exact a_cons (by simpa using hs) (hf c X mk _ _ l1 x h1 g1 ρ r ρ1 e1).1 (chkX_ok hf x h2 g2 ρ1 ds' ρ' e6)
    · cases h
theorem chkL_len {c : Cc} : ∀ {es : List Expr} {ils : List E} {l : List LamE}, chkL f c es ils = some l → es.length = ils.length
  | [], [], _, _ => rfl
  | e :: es, il :: ils, l, h => by
    unfold chkL at h
    split at h
    · cases h
    · obtain ⟨_, _, _, h2, _⟩ := o2_ok h
      simp [chkL_len h2]
  | [], _ :: _, _, h => by unfold chkL at h; cases h
  | _ :: _, [], _, h => by unfold chkL at h; cases h
theorem evL_len {Φ : FV → List Arg → Res} : ∀ {ils : List E} {ρ ρ' : Env} {ds : List D}, evL Φ ils ρ = .ok ds ρ' → ds.length = ils.length
  | [], ρ, ρ', ds, h => by unfold evL at h; cases h; rfl
  | il :: ils, ρ, ρ', ds, h => by
    unfold evL at h
    obtain ⟨r, ρ1, e1, e2⟩ := fbind_ok h
    obtain ⟨ds', ρ2, e3, e4⟩ := bind_ok e2
    cases e4
    simp [evL_len e3]
/-- the tests of a comprehension -/
theorem chkC_ok (hf : F1 g S Φ k f) (x : XOk g c X S mk Φ k) : ∀ {es : List Expr} {ils : List E} {l : List LamE} (h : chkC f c es ils = some l) (hl : LamsOk S l) (ρ : Env) (b : Bool) (ρ' : Env) (he : evC Φ ils ρ = .ok b ρ'), PTs X es (tT (cn X S) mk ρ b ρ')
  | [], [], l, h, hl, ρ, b, ρ', he => by
    unfold evC at he
    cases he
    exact ts_nil
  | [e], [il], l, h, hl, ρ, b, ρ', he => by
    simp only [chkC] at h
    split at h
    case isFalse => cases h
    rename_i ht
    unfold evC at he
    obtain ⟨r, ρ1, e1, e2⟩ := fbind_ok he
    have q := hf c X mk e il l x h hl ρ r ρ1 e1
    cases hr : r.frz with
    | bool bb =>
      rw [hr] at e2
      cases bb with
      | true =>
        simp only [evC] at e2
        cases e2
        exact ts_one ((q.2 true hr).1 ht)
      | false =>
        simp only at e2
        cases e2
        exact ts_one ((q.2 false hr).1 ht)
    | _ => rw [hr] at e2; simp only at e2; cases e2
  | [], _ :: _, _, h, _, _, _, _, _ => by simp [chkC] at h
  | _ :: _, [], _, h, _, _, _, _, _ => by simp [chkC] at h
  | [_], _ :: _ :: _, _, h, _, _, _, _, _ => by simp [chkC] at h
  | _ :: _ :: _, _ :: _, _, h, _, _, _, _, _ => by simp [chkC] at h
theorem loOk_int {io : E} {d : D} (h : loOk io d = true) (n : io ≠ .lit .none) : ∃ i, d = .int i := by
  unfold loOk at h
  split at h
  · exact absurd rfl n
  · exact ⟨_, rfl⟩
  · cases h
theorem chkO_ok (hf : F1 g S Φ k f) (x : XOk g c X S mk Φ k) {o : Option Expr} {io : E} {l : List LamE} (h : chkO f c o io = some l) (hl : LamsOk S l) (ρ : Env) (r : EV) (ρ' : Env) (he : ev Φ io ρ = .ok r ρ') (hlo : loOk io r.frz = true) : PO X o (tPt (cn X S) mk ρ r.frz ρ') := by
  cases o with
  | none =>
    unfold chkO at h
    split at h
    · unfold ev at he
      cases he
      exact o_none
    · rename_i z; cases z
    · rename_i z _; cases z
    · cases h
  | some e =>
    by_cases hn : io = .lit .none
    · subst hn
      simp [chkO] at h
    · have h2 : f c e io = some l := by
        unfold chkO at h
        split at h
        · rename_i z; cases z
        · cases h
        · rename_i z _; cases z; exact h
        · cases h
      obtain ⟨i, hi⟩ := loOk_int hlo hn
      exact o_some (hf c X mk e io l x h2 hl ρ r ρ' he).1 hi
end
end Ev
set_option Elab.async false
set_option linter.all false
set_option maxRecDepth 100000
set_option maxHeartbeats 4000000
namespace Ev
open PySem PySem.Spec PyProof.Rows L2
open Classical in
noncomputable def AdC (c : Cc) (X : Cx) : L2.St → Hp → Prop := if c.fr = true then AdL X else Ad0
section
variable {g : Gs} {c : Cc} {X : Cx} {S : Sx} {mk : Mkd} {Φ : FV → List Arg → Res} {k : Nat} {f : Cc → Expr → E → Fnd}
theorem adc_ok (x : XOk g c X S mk Φ k) : AdOk X (AdC c X) := by
  unfold AdC
  split
  · rename_i h; exact .inr ⟨rfl, (x.frame h).1⟩
  · exact .inl rfl
theorem adc_fr (h : c.fr = true) : AdC c X = AdL X := by unfold AdC; rw [if_pos h]
theorem frOf_mem {sc : Scope} {y : Str} : y ∈ frOf sc ↔ (y, NameKind.free) ∈ sc.names := by
  unfold frOf
  simp only [List.mem_map, List.mem_filter, decide_eq_true_eq]
  constructor
  · rintro ⟨⟨a, b⟩, ⟨h1, h2⟩, h3⟩
    simp only at h2 h3
    subst h2 h3
    exact h1
  · intro h
    exact ⟨(y, .free), ⟨h, rfl⟩, rfl⟩
theorem cap_by (x : XOk g c X S mk Φ k) {L : LI} {scope : Scope} {js : List Nat} (hL : L.fr = frOf scope) (h1 : js.map (fun j => c.N[j]?) = (frOf scope).map some) (h2 : (frOf scope).all (fun y => visB c.sc y && !decide (c.sc.names.lookup y = some .local)) = true) : CapX X L scope js := by
  refine ⟨fun y hy e => ?_, fun y hy => ?_, by rw [x.N, hL]; exact h1⟩
  · have hm : y.1 ∈ frOf scope := frOf_mem.mpr (by rw [← e]; exact hy)
    refine ⟨?_, by rw [hL]; exact hm⟩
    have q := List.all_eq_true.mp h2 y.1 hm
    simp only [Bool.and_eq_true, Bool.not_eq_true', decide_eq_false_iff_not] at q
    rw [x.sc]
    rcases vis_by q.1 with z | z | z
    · exact absurd z q.2
    · exact .inl z
    · exact .inr z
  · rw [hL] at hy
    exact frOf_mem.mp hy
theorem chkA1_ok (hf : F1 g S Φ k f) (x : XOk g c X S mk Φ k) {e : Expr} {a : AE} {l : List LamE} (h : chkA1 g f c e a = some l) (hl : LamsOk S l) {ρ ρ' : Env} {p : PArg} (he : evA1 Φ a ρ = .ok p ρ') : PE X e (tP (cn X S) mk (AdC c X) ρ p ρ') := by
  unfold chkA1 at h
  split at h
  · obtain ⟨n1, n2, n3, n4⟩ := x.nmv (g0_ok h)
    unfold evA1 at he
    split at he <;> cases he
    · rename_i q; exact p_mv n1 n2 n3 n4 (.inl (by rw [q]; rfl))
    · rename_i q; exact p_mv n1 n2 n3 n4 (.inl (by rw [q]; rfl))
    · rename_i q; exact p_mv n1 n2 n3 n4 (.inr ⟨_, q⟩)
  · obtain ⟨n1, n2, n3, n4⟩ := x.nmv (g0_ok h)
    unfold evA1 at he
    split at he <;> cases he
    rename_i q
    exact p_fv n1 n2 n3 n4 q
  · have hb := g0_ok h
    simp only [Bool.and_eq_true, decide_eq_true_eq, Bool.not_eq_true'] at hb
    obtain ⟨⟨⟨e1, e2⟩, e3⟩, e4⟩ := hb
    subst e1
    unfold evA1 at he
    cases he
    obtain ⟨pn, hpn⟩ := Option.isSome_iff_exists.mp e3
    obtain ⟨fa, fd, h1, h2, _⟩ := x.cx.runs.glob _ pn hpn
    exact p_fg (x.gl e2) h1 h2 e4
  · split at h
    · rename_i id' sc hnd
      have hb := g0_ok h
      simp only [Bool.and_eq_true, decide_eq_true_eq] at hb
      obtain ⟨⟨⟨⟨b1, b2⟩, b3⟩, b4⟩, b5⟩ := hb
      subst b3
      obtain ⟨n1, n2, n3, n4⟩ := x.nmv b2
      obtain ⟨_, _, hmk, _⟩ := x.frame b1
      obtain ⟨L, l1, l2⟩ := x.ndl _ _ _ hnd
      unfold evA1 at he
      split at he <;> cases he
      rename_i cs q1 q2
      subst hmk
      rw [adc_fr b1]
      exact p_made n1 n2 n3 n4 q1 hnd l1 (cap_by x l2 b4 (by simpa using b5)) q2
    · cases h
  · rename_i params body scope pos id js
    split at h
    · rename_i hb
      cases h
      simp only [Bool.and_eq_true, decide_eq_true_eq, List.isEmpty_iff] at hb
      obtain ⟨⟨⟨⟨⟨b1, b2⟩, b3⟩, b4⟩, b5⟩, b6⟩ := hb
      obtain ⟨_, hq, _, A, P, TB, hcode, hin, hu⟩ := x.frame b1
      unfold evA1 at he
      split at he <;> cases he
      rename_i cs q
      have hid := hl _ (List.mem_singleton.mpr rfl)
      rw [adc_fr b1]
      refine p_lam (nm := c.nm) x.hm TB hcode hin (by rw [hq]; exact b2) hu ?_ hid (by rw [hq]; rfl) (cap_by x rfl b5 (by simpa using b6)) q (fun cl c' pm ctv => by rw [hq]; rfl)
      obtain ⟨p1, p2, p3, p4, p5, p6, p7⟩ := params
      simp only at b3 b4
      subst b3 b4
      rfl
    · cases h
  · unfold evA1 at he
    obtain ⟨r, ρ1, e1, e2⟩ := fbind_ok he
    cases e2
    exact p_d (hf c X mk _ _ l x h hl ρ r ρ' e1).1
  · cases h
theorem chkA_star {c : Cc} : ∀ {es : List Expr} {as : List AE} {l : List LamE}, chkA g f c es as = some l → noStar es = true
  | [], [], _, _ => rfl
  | e :: es, a :: as, l, h => by
    unfold chkA at h
    split at h
    · cases h
    · rename_i hs
      obtain ⟨_, _, _, h2, _⟩ := o2_ok h
      have := chkA_star h2
      unfold noStar at this ⊢
      simp only [List.all_cons, Bool.and_eq_true, Bool.not_eq_true']
      exact ⟨by simpa using hs, this⟩
  | [], _ :: _, _, h => by unfold chkA at h; cases h
  | _ :: _, [], _, h => by unfold chkA at h; cases h
theorem chkA_ok (hf : F1 g S Φ k f) (x : XOk g c X S mk Φ k) : ∀ {es : List Expr} {as : List AE} {l : List LamE}, chkA g f c es as = some l → LamsOk S l → ∀ {ρ ρ' : Env} {ps : List PArg}, evA Φ as ρ = .ok ps ρ' → PA X es (tAr (cn X S) mk (AdC c X) ρ ps ρ') ∧ ps.length = es.length
  | [], [], l, h, hl, ρ, ρ', ps, he => by
    unfold evA at he
    cases he
    exact ⟨ar_nil, rfl⟩
  | e :: es, a :: as, l, h, hl, ρ, ρ', ps, he => by
    unfold chkA at h
    split at h
    · cases h
    · rename_i hs
      obtain ⟨l1, l2, h1, h2, rfl⟩ := o2_ok h
      obtain ⟨g1, g2⟩ := hl.split
      unfold evA at he
      obtain ⟨p, ρ1, e1, e2⟩ := bind_ok he
      obtain ⟨ps', ρ2, e3, e4⟩ := bind_ok e2
      cases e4
      obtain ⟨q1, q2⟩ := chkA_ok hf x h2 g2 e3
      exact ⟨ar_cons (by simpa using hs) (chkA1_ok hf x h1 g1 e1) q1, by simp [q2]⟩
  | [], _ :: _, _, h, _, _, _, _, _ => by unfold chkA at h; cases h
  | _ :: _, [], _, h, _, _, _, _, _ => by unfold chkA at h; cases h
theorem chkK_ok (hf : F1 g S Φ k f) (x : XOk g c X S mk Φ k) : ∀ {es : List Keyword} {as : List AE} {l : List LamE}, chkK g f c es as = some l → LamsOk S l → ∀ {ρ ρ' : Env} {ps : List PArg}, evA Φ as ρ = .ok ps ρ' → PK X es (tAr (cn X S) mk (AdC c X) ρ ps ρ') ∧ ps.length = es.length
  | [], [], l, h, hl, ρ, ρ', ps, he => by
    unfold evA at he
    cases he
    exact ⟨ak_nil, rfl⟩
  | ⟨nm, e, kp⟩ :: es, a :: as, l, h, hl, ρ, ρ', ps, he => by
    unfold chkK at h
    obtain ⟨l1, l2, h1, h2, rfl⟩ := o2_ok h
    obtain ⟨g1, g2⟩ := hl.split
    unfold evA at he
    obtain ⟨p, ρ1, e1, e2⟩ := bind_ok he
    obtain ⟨ps', ρ2, e3, e4⟩ := bind_ok e2
    cases e4
    obtain ⟨q1, q2⟩ := chkK_ok hf x h2 g2 e3
    exact ⟨ak_cons (chkA1_ok hf x h1 g1 e1) q1, by simp [q2]⟩
  | [], _ :: _, _, h, _, _, _, _, _ => by simp [chkK] at h
  | _ :: _, [], _, h, _, _, _, _, _ => by simp [chkK] at h
/-! ### targets -/
mutual
theorem chkG_ok (x : XOk g c X S mk Φ k) : ∀ {e : Expr} {t : Tg}, chkG c e t = true → ∀ (d : D) (ρ ρ' : Env), bindT t d ρ = some ρ' → PG X e (tG (cn X S) mk (isTup e) (tgS t) ρ d ρ')
  | e, .nm i, h, d, ρ, ρ', hb => by
    unfold chkG at h
    split at h
    · rename_i y p i' z
      cases z
      simp only [Bool.and_eq_true, decide_eq_true_eq] at h
      unfold bindT at hb
      obtain ⟨h1, h2, h3⟩ := setE_ok hb
      subst h3
      obtain ⟨l1, l2⟩ := x.loc h.2
      exact g_name (by rw [x.N]; exact x.nd) (by rw [x.N]; exact h.1) l1 l2 h1 h2
    · rename_i z; cases z
    · rename_i z; cases z
    · cases h
  | e, .tup ts, h, d, ρ, ρ', hb => by
    have key : ∃ es kd p, e = .Tuple es kd p ∧ chkGs c es ts = true := by
      unfold chkG at h
      split at h
      · rename_i z; cases z
      · rename_i es kd p ts' z; cases z; exact ⟨es, kd, p, rfl, h⟩
      · rename_i z; cases z
      · cases h
    obtain ⟨es, kd, p, rfl, h2⟩ := key
    cases d with
    | tuple ds =>
      have hb : bindTs ts ds ρ = some ρ' := hb
      obtain ⟨q1, q2, q3⟩ := chkGs_ok x h2 ds ρ ρ' hb
      exact g_tup x.calm q2 q3 q1
    | none => unfold bindT at hb; cases hb
    | bool _ => unfold bindT at hb; cases hb
    | int _ => unfold bindT at hb; cases hb
    | str _ => unfold bindT at hb; cases hb
    | list _ => unfold bindT at hb; cases hb
    | dict _ => unfold bindT at hb; cases hb
  | e, .at i k', h, d, ρ, ρ', hb => by
    unfold chkG at h
    split at h
    · rename_i z; cases z
    · rename_i z; cases z
    · rename_i y p1 kk kj p2 p3 i' k2 z
      cases z
      simp only [Bool.and_eq_true, decide_eq_true_eq] at h
      obtain ⟨h1, h2⟩ := h
      subst h2
      obtain ⟨n1, n2, n3, n4⟩ := x.nmv h1
      unfold bindT at hb
      cases hm : mutOf ρ[i]? with
      | none => rw [hm] at hb; cases hb
      | some xs =>
        rw [hm] at hb
        simp only [Option.bind] at hb
        cases hx : ixN xs.length kk with
        | none => rw [hx] at hb; cases hb
        | some j =>
          rw [hx] at hb
          cases hb
          exact g_at x.hm n1 n2 n3 n4 hm hx
    · cases h
theorem chkGs_ok (x : XOk g c X S mk Φ k) : ∀ {es : List Expr} {ts : List Tg}, chkGs c es ts = true → ∀ (ds : List D) (ρ ρ' : Env), bindTs ts ds ρ = some ρ' → PGs X es (tGs (cn X S) mk (tgS.tgSs ts) ρ ds ρ') ∧ noStar es = true ∧ es.length = ds.length
  | [], [], h, ds, ρ, ρ', hb => by
    cases ds with
    | nil => unfold bindTs at hb; cases hb; exact ⟨gs_nil, rfl, rfl⟩
    | cons _ _ => unfold bindTs at hb; cases hb
  | e :: es, t :: ts, h, ds, ρ, ρ', hb => by
    unfold chkGs at h
    simp only [Bool.and_eq_true, Bool.not_eq_true'] at h
    obtain ⟨⟨h1, h2⟩, h3⟩ := h
    cases ds with
    | nil => unfold bindTs at hb; cases hb
    | cons d ds =>
      unfold bindTs at hb
      cases hb1 : bindT t d ρ with
      | none => rw [hb1] at hb; cases hb
      | some ρ1 =>
        rw [hb1] at hb
        have hb : bindTs ts ds ρ1 = some ρ' := hb
        obtain ⟨q1, q2, q3⟩ := chkGs_ok x h3 ds ρ1 ρ' hb
        have g1 := chkG_ok x h2 d ρ ρ1 hb1
        have g2 : PG X e (tG (cn X S) mk false (tgS t) ρ d ρ1) := pgImp g1 fun v σ H Q ⟨Fb, R, rd, q⟩ => ⟨Fb, R, .inl rd.no, q⟩
        refine ⟨gs_cons h1 g2 q1, ?_, by simp [q3]⟩
        unfold noStar at q2 ⊢
        simp only [List.all_cons, Bool.and_eq_true, Bool.not_eq_true']
        exact ⟨h1, q2⟩
  | [], _ :: _, h, _, _, _, _ => by unfold chkGs at h; cases h
  | _ :: _, [], h, _, _, _, _ => by unfold chkGs at h; cases h
end
end
end Ev
set_option Elab.async false
set_option linter.all false
set_option maxRecDepth 100000
set_option maxHeartbeats 4000000
namespace Ev
open PySem PySem.Spec PyProof.Rows L2
section
variable {g : Gs} {c : Cc} {X : Cx} {S : Sx} {mk : Mkd} {Φ : FV → List Arg → Res} {k : Nat} {f : Cc → Expr → E → Fnd}
theorem one_arg {r : EV} {a : Expr} {ρ ρ1 : Env} (hs : isStar a = false) (h : PE X a (tE (cn X S) mk ρ r ρ1)) : PA X [a] (tAs (cn X S) mk ρ [r.frz] ρ1) := a_cons hs h a_nil
theorem two_args {r r2 : EV} {a b : Expr} {ρ ρ1 ρ2 : Env} (hs : isStar a = false) (hs2 : isStar b = false) (h : PE X a (tE (cn X S) mk ρ r ρ1)) (h2 : PE X b (tE (cn X S) mk ρ1 r2 ρ2)) : PA X [a, b] (tAs (cn X S) mk ρ [r.frz, r2.frz] ρ2) := a_cons hs h (a_cons hs2 h2 a_nil)
theorem isTup_ok {e : Expr} (h : isTup e = true) : ∃ es kd p, e = .Tuple es kd p := by
  cases e <;> first | exact ⟨_, _, _, rfl⟩ | cases h
theorem chkI_ok (hf : F1 g S Φ k f) (x : XOk g c X S mk Φ k) {tg e : Expr} {it : It} {l : List LamE} (h : chkI g f c tg e it = some l) (hl : LamsOk S l) {ρ ρ' : Env} {items : List D} (he : evI Φ it ρ = .ok items ρ') :
    PI X tg e (tI (cn X S) mk (isTup tg) ρ items ρ') ∧ ∀ v, foldedSetIterable e X.env v = pure v := by
  unfold chkI at h
  split at h
  · rename_i e il
    split at h
    · rename_i hn
      refine ⟨?_, folded_ok hn⟩
      unfold evI at he
      obtain ⟨r, ρ1, e1, e2⟩ := fbind_ok he
      obtain ⟨e3, rfl⟩ := opt_ok e2
      have q := (hf c X mk _ _ l x h hl ρ r ρ1 e1).1
      cases hr : r.frz with
      | list ds => rw [hr] at e3; cases e3; exact i_list q hr
      | tuple ds => rw [hr] at e3; cases e3; exact i_tup q hr
      | str z => rw [hr] at e3; cases e3; exact i_str q hr
      | none => rw [hr] at e3; cases e3
      | bool _ => rw [hr] at e3; cases e3
      | int _ => rw [hr] at e3; cases e3
      | dict _ => rw [hr] at e3; cases e3
    · cases h
  · rename_i y p a pos ia ib
    split at h
    · rename_i hb
      simp only [Bool.and_eq_true, decide_eq_true_eq, Bool.not_eq_true'] at hb
      obtain ⟨⟨⟨b1, b2⟩, b3⟩, b4⟩ := hb
      subst b1
      refine ⟨?_, folded_ok rfl⟩
      unfold evI at he
      obtain ⟨r, ρ1, e1, e2⟩ := fbind_ok he
      have q := (hf c X mk _ _ l x h hl ρ r ρ1 e1).1
      simp only [Bool.false_eq_true, if_false] at e2
      cases hr : r.frz with
      | int j =>
        rw [hr] at e2
        simp only at e2
        split at e2
        · rename_i hj
          cases e2
          exact i_rng1 (x.gl b2) (x.no _ b3) b4 (by have := one_arg b4 q; rw [hr] at this; exact this) hj.1 hj.2
        · cases e2
      | _ => rw [hr] at e2; simp only at e2; cases e2
    · cases h
  · rename_i y p a b pos ia ib
    split at h
    · rename_i hb
      simp only [Bool.and_eq_true, decide_eq_true_eq, Bool.not_eq_true'] at hb
      obtain ⟨⟨⟨⟨b1, b2⟩, b3⟩, b4⟩, b5⟩ := hb
      subst b1
      refine ⟨?_, folded_ok rfl⟩
      obtain ⟨l1, l2, h1, h2, rfl⟩ := o2_ok h
      obtain ⟨g1, g2⟩ := hl.split
      unfold evI at he
      obtain ⟨r, ρ1, e1, e2⟩ := fbind_ok he
      simp only [if_true] at e2
      obtain ⟨r2, ρ2, e3, e4⟩ := fbind_ok e2
      have q1 := (hf c X mk _ _ _ x h1 g1 ρ r ρ1 e1).1
      have q2 := (hf c X mk _ _ _ x h2 g2 ρ1 r2 ρ2 e3).1
      have qq := two_args b4 b5 q1 q2
      split at e4
      · rename_i i j hi hj
        split at e4
        · rename_i hij
          cases e4
          rw [hi, hj] at qq
          exact i_rng2 (x.gl b2) (x.no _ b3) b4 b5 qq hij
        · cases e4
      · cases e4
    · cases h
  · rename_i y p a pos ia
    split at h
    · rename_i hb
      simp only [Bool.and_eq_true, decide_eq_true_eq, Bool.not_eq_true'] at hb
      obtain ⟨⟨⟨⟨b1, b2⟩, b3⟩, b4⟩, b5⟩ := hb
      subst b1
      obtain ⟨elts, kk, tp, rfl⟩ := isTup_ok b5
      refine ⟨?_, folded_ok rfl⟩
      unfold evI at he
      obtain ⟨r, ρ1, e1, e2⟩ := fbind_ok he
      obtain ⟨e3, rfl⟩ := opt_ok e2
      have q := one_arg b4 (hf c X mk _ _ l x h hl ρ r ρ1 e1).1
      cases hr : r.frz with
      | list ds => rw [hr] at e3 q; cases e3; exact i_enumL (x.gl b2) (x.no _ b3) b4 q
      | tuple ds => rw [hr] at e3 q; cases e3; exact i_enumT (x.gl b2) (x.no _ b3) b4 q
      | str z => rw [hr] at e3; cases e3
      | none => rw [hr] at e3; cases e3
      | bool _ => rw [hr] at e3; cases e3
      | int _ => rw [hr] at e3; cases e3
      | dict _ => rw [hr] at e3; cases e3
    · cases h
  · rename_i y p a b pos ia ib
    split at h
    · rename_i hb
      simp only [Bool.and_eq_true, decide_eq_true_eq, Bool.not_eq_true'] at hb
      obtain ⟨⟨⟨⟨⟨b1, b2⟩, b3⟩, b4⟩, b5⟩, b6⟩ := hb
      subst b1
      obtain ⟨elts, kk, tp, rfl⟩ := isTup_ok b6
      refine ⟨?_, folded_ok rfl⟩
      obtain ⟨l1, l2, h1, h2, rfl⟩ := o2_ok h
      obtain ⟨g1, g2⟩ := hl.split
      unfold evI at he
      obtain ⟨r, ρ1, e1, e2⟩ := fbind_ok he
      obtain ⟨r2, ρ2, e3, e4⟩ := fbind_ok e2
      have q1 := (hf c X mk _ _ _ x h1 g1 ρ r ρ1 e1).1
      have q2 := (hf c X mk _ _ _ x h2 g2 ρ1 r2 ρ2 e3).1
      have qq := two_args b4 b5 q1 q2
      split at e4
      · rename_i xs ys hi hj
        cases e4
        rw [hi, hj] at qq
        exact i_zipL (x.gl b2) (x.no _ b3) b4 b5 qq
      · rename_i xs ys hi hj
        cases e4
        rw [hi, hj] at qq
        exact i_zipT (x.gl b2) (x.no _ b3) b4 b5 qq
      · rename_i xs ys hi hj
        cases e4
        rw [hi, hj] at qq
        exact i_zipLT (x.gl b2) (x.no _ b3) b4 b5 qq
      · rename_i xs ys hi hj
        cases e4
        rw [hi, hj] at qq
        exact i_zipTL (x.gl b2) (x.no _ b3) b4 b5 qq
      · cases e4
    · cases h
  · cases h
end
end Ev
set_option Elab.async false
set_option linter.all false
set_option maxRecDepth 100000
set_option maxHeartbeats 8000000
namespace Ev
open PySem PySem.Spec PyProof.Rows L2
section
variable {g : Gs} {c : Cc} {X : Cx} {S : Sx} {mk : Mkd} {Φ : FV → List Arg → Res} {k : Nat} {f : Cc → Expr → E → Fnd}
theorem own_map {c : Cc} {vs : List Nat} : (ownOf c vs).map (·.2) = vs := by
  unfold ownOf
  rw [List.map_map]
  have e : ((fun x : Str × Nat => x.2) ∘ fun i => ((c.N[i]?).getD "", i)) = id := rfl
  rw [e, List.map_id]
theorem names_len : ∀ {kws : List Keyword} {ks : List Str}, namesOf kws = some ks → ks.length = kws.length
  | [], ks, h => by cases h; rfl
  | ⟨none, _, _⟩ :: r, ks, h => by cases h
  | ⟨some x, v, q⟩ :: r, ks, h => by
    unfold namesOf at h
    cases e : namesOf r with
    | none => rw [e] at h; cases h
    | some t => rw [e] at h; cases h; simp [names_len e]
theorem evA_app {Φ : FV → List Arg → Res} : ∀ {as bs : List AE} {ρ ρ' : Env} {ps : List PArg}, evA Φ (as ++ bs) ρ = .ok ps ρ' → ∃ p1 p2 ρ1, evA Φ as ρ = .ok p1 ρ1 ∧ evA Φ bs ρ1 = .ok p2 ρ' ∧ ps = p1 ++ p2
  | [], bs, ρ, ρ', ps, h => ⟨[], ps, ρ, by unfold evA; rfl, h, rfl⟩
  | a :: as, bs, ρ, ρ', ps, h => by
    rw [List.cons_append] at h
    unfold evA at h
    obtain ⟨p, ρ1, e1, e2⟩ := bind_ok h
    obtain ⟨ps', ρ2, e3, e4⟩ := bind_ok e2
    cases e4
    obtain ⟨p1, p2, ρ3, f1, f2, rfl⟩ := evA_app e3
    refine ⟨p :: p1, p2, ρ3, ?_, f2, rfl⟩
    unfold evA
    rw [e1]
    simp only [Out.bind]
    rw [f1]
/-- a comprehension's parts -/
theorem lc_parts (hf : F1 g S Φ k f) (x : XOk g c X S mk Φ k) {elt tg it : Expr} {ifs : List Expr} {scope : Scope} {ie : E} {t : Tg} {ii : It} {cs : List E} {vs : List Nat} {l : List LamE} {ρ ρ' : Env} {r : EV}
    (h : (if blkC c.N c.sc scope (ownOf c vs) && chkG (sub c scope) tg t && (tgS t).all (fun j => decide (j ∈ vs)) then o2 (chkI g f c tg it ii) (o2 (chkC f (sub c scope) ifs cs) (f (sub c scope) elt ie)) else none) = some l) (hl : LamsOk S l) (he : ev Φ (.lc ie t ii cs vs) ρ = .ok r ρ') :
    ∃ items ρ1 ds, r = .fresh ds ∧ PI X tg it (tI (cn X S) mk (isTup tg) ρ items ρ1) ∧ BlkOk X.N X.env.scope scope (ownOf c vs) ∧
      (∀ (s : Shared) (H : Hp) (C : Addr) (cl : List (Str × Addr)) (fp : List Addr) (d : D) (ρ ρ' : Env), bindT t d ρ = some ρ' → PG (X.blk s H scope (compEnvC scope cl C X.env) fp) tg (tG (cn X S) mk (isTup tg) (tgS t) ρ d ρ')) ∧ (∀ j ∈ tgS t, j ∈ (ownOf c vs).map (·.2)) ∧
      (∀ (s : Shared) (H : Hp) (C : Addr) (cl : List (Str × Addr)) (fp : List Addr) (ρ ρ' : Env) (b : Bool), evC Φ cs ρ = .ok b ρ' → PTs (X.blk s H scope (compEnvC scope cl C X.env) fp) ifs (tT (cn X S) mk ρ b ρ')) ∧
      (∀ (s : Shared) (H : Hp) (C : Addr) (cl : List (Str × Addr)) (fp : List Addr) (ρ ρ' : Env) (d : D), (ev Φ ie ρ).frz = .ok d ρ' → PE (X.blk s H scope (compEnvC scope cl C X.env) fp) elt (tE (cn X S) mk ρ (.dat d) ρ')) ∧
      (∀ v, foldedSetIterable it X.env v = pure v) ∧ lcLoop (lcF (bindT t) (evC Φ cs) (fun ρ => (ev Φ ie ρ).frz)) ((ownOf c vs).map (·.2)) items ρ1 = .ok ds ρ' ∧ ds.length ≤ sizeLine := by
  split at h
  case isFalse => cases h
  rename_i hb
  simp only [Bool.and_eq_true, List.all_eq_true, decide_eq_true_eq] at hb
  obtain ⟨⟨b1, b2⟩, b3⟩ := hb
  obtain ⟨l1, l23, h1, h23, rfl⟩ := o2_ok h
  obtain ⟨l2, l3, h2, h3, rfl⟩ := o2_ok h23
  obtain ⟨g1, g23⟩ := hl.split
  obtain ⟨g2, g3⟩ := g23.split
  unfold ev at he
  obtain ⟨items, ρ1, e1, e2⟩ := bind_ok he
  obtain ⟨ds, ρ2, e3, e4⟩ := bind_ok e2
  split at e4
  case isFalse => cases e4
  rename_i hz
  cases e4
  obtain ⟨i1, i2⟩ := chkI_ok hf x h1 g1 e1
  refine ⟨items, ρ1, ds, rfl, i1, ?_, fun s H C cl fp d ρ ρ' hbt => chkG_ok (x.blk s H C cl fp) b2 d ρ ρ' hbt, fun j hj => by rw [own_map]; exact b3 j hj, fun s H C cl fp ρ ρ' b hc => chkC_ok hf (x.blk s H C cl fp) h2 g2 ρ b ρ' hc, fun s H C cl fp ρ ρ' d hd => ?_, i2, ?_, hz⟩
  · rw [x.N, x.sc]
    exact blkOk_by b1
  · obtain ⟨rr, q1, q2⟩ := frz_ok hd
    rw [q2]
    exact e_frz (hf (sub c scope) _ mk elt ie l3 (x.blk s H C cl fp) h3 g3 ρ rr ρ' q1).1
  · rw [own_map, ← e3]
    congr 1
theorem dc_parts (hf : F1 g S Φ k f) (x : XOk g c X S mk Φ k) {kx vx tg it : Expr} {scope : Scope} {ik iv : E} {t : Tg} {ii : It} {vs : List Nat} {l : List LamE} {ρ ρ' : Env} {r : EV} {pos : Pos}
    (h : (if blkC c.N c.sc scope (ownOf c vs) && chkG (sub c scope) tg t && (tgS t).all (fun j => decide (j ∈ vs)) then o2 (chkI g f c tg it ii) (o2 (f (sub c scope) kx ik) (f (sub c scope) vx iv)) else none) = some l) (hl : LamsOk S l) (he : ev Φ (.dc ik iv t ii vs) ρ = .ok r ρ') :
    PE X (.DictComp kx vx [⟨tg, it, [], 0⟩] scope pos) (tE (cn X S) mk ρ r ρ') := by
  split at h
  case isFalse => cases h
  rename_i hb
  simp only [Bool.and_eq_true, List.all_eq_true, decide_eq_true_eq] at hb
  obtain ⟨⟨b1, b2⟩, b3⟩ := hb
  obtain ⟨l1, l23, h1, h23, rfl⟩ := o2_ok h
  obtain ⟨l2, l3, h2, h3, rfl⟩ := o2_ok h23
  obtain ⟨g1, g23⟩ := hl.split
  obtain ⟨g2, g3⟩ := g23.split
  unfold ev at he
  obtain ⟨items, ρ1, e1, e2⟩ := bind_ok he
  obtain ⟨ds, ρ2, e3, e4⟩ := bind_ok e2
  split at e4
  case h_2 => cases e4
  rename_i ps hps
  split at e4
  case isFalse => cases e4
  rename_i hz
  cases e4
  obtain ⟨i1, i2⟩ := chkI_ok hf x h1 g1 e1
  refine e_dc (own := ownOf c vs) (bT := bindT t) (fk := fun ρ => (ev Φ ik ρ).frz) (fv := fun ρ => (ev Φ iv ρ).frz) x.calm (by rw [x.N]; exact x.nd) x.hm x.hmd i1 (by rw [x.N, x.sc]; exact blkOk_by b1) (fun s H C cl fp d ρ ρ' hbt => chkG_ok (x.blk s H C cl fp) b2 d ρ ρ' hbt) (fun j hj => by rw [own_map]; exact b3 j hj)
    (fun s H C cl fp ρ ρ' d hd => ?_) (fun s H C cl fp ρ ρ' d hd => ?_) i2 (by rw [own_map, ← e3]; congr 1) hps hz
  · obtain ⟨rr, q1, q2⟩ := frz_ok hd
    rw [q2]
    exact e_frz (hf (sub c scope) _ mk kx ik l2 (x.blk s H C cl fp) h2 g2 ρ rr ρ' q1).1
  · obtain ⟨rr, q1, q2⟩ := frz_ok hd
    rw [q2]
    exact e_frz (hf (sub c scope) _ mk vx iv l3 (x.blk s H C cl fp) h3 g3 ρ rr ρ' q1).1
end
end Ev
set_option Elab.async false
set_option linter.all false
set_option maxRecDepth 100000
set_option maxHeartbeats 16000000
namespace Ev
open PySem PySem.Spec PyProof.Rows L2
section
variable {g : Gs} {S : Sx} {Φ : FV → List Arg → Res} {k : Nat} {f : Cc → Expr → E → Fnd}
theorem pw_single {X : Cx} {op : BoolOp} {a : Expr} {p : Pos} {t : TT} (h : PT X a t) : PW X (.BoolOp op [a] p) t := by
  cases op with
  | And => exact pw_and1 h
  | Or => exact pw_or1 h
theorem step_ok (hf : F1 g S Φ k f) : F1 g S Φ k (chkStep g f) := by
  intro c X mk e il l x h hl
  unfold chkStep at h
  split at h
  · -- an int
    have hb := g0_ok h
    simp only [decide_eq_true_eq] at hb
    subst hb
    exact se_plain rfl fun ρ r ρ' he => by unfold ev at he; cases he; exact e_lit_i
  · have hb := g0_ok h
    simp only [decide_eq_true_eq] at hb
    subst hb
    exact se_plain rfl fun ρ r ρ' he => by unfold ev at he; cases he; exact e_lit_b
  · exact se_plain rfl fun ρ r ρ' he => by unfold ev at he; cases he; exact e_lit_n
  · have hb := g0_ok h
    simp only [decide_eq_true_eq] at hb
    subst hb
    exact se_plain rfl fun ρ r ρ' he => by unfold ev at he; cases he; exact e_lit_s
  · -- a constant of the module
    split at h
    · rename_i d' hgi
      have hb := g0_ok h
      simp only [Bool.and_eq_true, decide_eq_true_eq, Bool.not_eq_true'] at hb
      obtain ⟨⟨⟨b1, b2⟩, b3⟩, b4⟩ := hb
      subst b1
      have b5 := eqD_ok b3
      subst b5
      exact se_plain rfl fun ρ r ρ' he => by unfold ev at he; cases he; exact e_gc (x.gl b2) (x.con _ _ hgi) b4
    · cases h
  · obtain ⟨n1, n2, n3, n4⟩ := x.nmv (g0_ok h)
    refine se_plain rfl fun ρ r ρ' he => ?_
    unfold ev at he
    split at he
    · rename_i q; cases he; exact e_var n1 n2 n3 n4 q
    · rename_i q; cases he; exact e_varO n1 n2 n3 n4 q
    · cases he
  · obtain ⟨n1, n2, n3, n4⟩ := x.nmv (g0_ok h)
    refine se_plain rfl fun ρ r ρ' he => ?_
    unfold ev at he
    split at he
    · rename_i q; cases he; exact e_mov n1 n2 n3 n4 q
    · cases he
  · -- a op b
    split at h
    · rename_i heq
      subst heq
      obtain ⟨l1, l2, h1, h2, rfl⟩ := o2_ok h
      obtain ⟨g1, g2⟩ := hl.split
      refine se_plain rfl fun ρ r ρ' he => ?_
      unfold ev at he
      obtain ⟨r1, ρ1, e1, e2⟩ := fbind_ok he
      obtain ⟨r2, ρ2, e3, e4⟩ := fbind_ok e2
      obtain ⟨e5, rfl⟩ := opt_ok e4
      exact e_bin x.hm (hf _ _ _ _ _ _ x h1 g1 _ _ _ e1).1 (hf _ _ _ _ _ _ x h2 g2 _ _ _ e3).1 e5
    · cases h
  · -- a comparison
    split at h
    · rename_i hb
      simp only [Bool.and_eq_true, decide_eq_true_eq, Bool.not_eq_true'] at hb
      obtain ⟨b1, b2⟩ := hb
      subst b1
      obtain ⟨l1, l2, h1, h2, rfl⟩ := o2_ok h
      obtain ⟨g1, g2⟩ := hl.split
      intro ρ r ρ' he
      unfold ev at he
      obtain ⟨r1, ρ1, e1, e2⟩ := fbind_ok he
      obtain ⟨r2, ρ2, e3, e4⟩ := fbind_ok e2
      obtain ⟨e5, rfl⟩ := opt_ok e4
      obtain ⟨kk, e6, rfl⟩ := Option.map_eq_some_iff.mp e5
      have q1 := (hf _ _ _ _ _ _ x h1 g1 _ _ _ e1).1
      have q2 := (hf _ _ _ _ _ _ x h2 g2 _ _ _ e3).1
      refine ⟨e_cmp x.hm x.un q1 q2 e6 b2, fun b hb => ?_⟩
      cases hb
      exact ⟨fun _ => t_cmp x.hm x.un q1 q2 e6 b2, fun z => by cases z⟩
    · cases h
  · split at h
    · rename_i hb
      simp only [Bool.and_eq_true, decide_eq_true_eq, Bool.not_eq_true'] at hb
      obtain ⟨⟨b1, b2⟩, b3⟩ := hb
      subst b1 b2
      obtain ⟨l1, l23, h1, h23, rfl⟩ := o2_ok h
      obtain ⟨l2, l3, h2, h3, rfl⟩ := o2_ok h23
      obtain ⟨g1, g23⟩ := hl.split
      obtain ⟨g2, g3⟩ := g23.split
      intro ρ r ρ' he
      unfold ev at he
      obtain ⟨r1, ρ1, e1, e2⟩ := fbind_ok he
      obtain ⟨r2, ρ2, e3, e4⟩ := fbind_ok e2
      have q1 := (hf _ _ _ _ _ _ x h1 g1 _ _ _ e1).1
      have q2 := (hf _ _ _ _ _ _ x h2 g2 _ _ _ e3).1
      split at e4
      · rename_i hc
        obtain ⟨r3, ρ3, e5, e6⟩ := fbind_ok e4
        obtain ⟨e7, rfl⟩ := opt_ok e6
        obtain ⟨kk, e8, rfl⟩ := Option.map_eq_some_iff.mp e7
        have q3 := (hf _ _ _ _ _ _ x h3 g3 _ _ _ e5).1
        refine ⟨peImp (pe_chain (opD_cmp _ x.un) (opD_cmp _ x.un) q1 q2 q3 b3) fun σ H Q q => e_cmp2T (S := S) x.hm x.un q1 q2 q3 hc e8 q, fun b hb => ?_⟩
        cases hb
        exact ⟨fun _ => ptImp (pt_chain (opD_cmp _ x.un) (opD_cmp _ x.un) q1 q2 q3 b3) fun σ H Q q => e_cmp2T (S := S) x.hm x.un q1 q2 q3 hc e8 (tE_bool (S := S) (r := .dat (.bool kk)) rfl q), fun z => by cases z⟩
      · rename_i hc
        cases e4
        refine ⟨peImp (pe_chain (opD_cmp _ x.un) (opD_cmp _ x.un) q1 q2 pe_no b3) fun σ H Q q => e_cmp2F (S := S) x.hm x.un q1 q2 hc q, fun b hb => ?_⟩
        cases hb
        exact ⟨fun _ => ptImp (pt_chain (opD_cmp _ x.un) (opD_cmp _ x.un) q1 q2 pe_no b3) fun σ H Q q => e_cmp2F (S := S) x.hm x.un q1 q2 hc (tE_bool (S := S) (r := .dat (.bool false)) rfl q), fun z => by cases z⟩
      · cases e4
    · cases h
  · -- -a
    refine se_plain rfl fun ρ r ρ' he => ?_
    unfold ev at he
    obtain ⟨r1, ρ1, e1, e2⟩ := fbind_ok he
    split at e2
    · rename_i i hi
      cases e2
      exact e_neg (hf _ _ _ _ _ _ x h hl _ _ _ e1).1 hi
    · cases e2
  · split at h
    · rename_i ht
      intro ρ r ρ' he
      unfold ev at he
      obtain ⟨r1, ρ1, e1, e2⟩ := fbind_ok he
      have q := hf _ _ _ _ _ _ x h hl _ _ _ e1
      split at e2
      · rename_i b hb
        cases e2
        refine ⟨e_not q.1 hb, fun b' hb' => ?_⟩
        cases hb'
        exact ⟨fun _ => t_not ((q.2 _ hb).1 ht), fun z => by cases z⟩
      · cases e2
    · cases h
  · -- and
    split at h
    · cases h
    · rename_i ht
      simp only [Bool.not_eq_true', Bool.not_eq_false] at ht
      obtain ⟨l1, l2, h1, h2, rfl⟩ := o2_ok h
      obtain ⟨g1, g2⟩ := hl.split
      intro ρ r ρ' he
      unfold ev at he
      obtain ⟨r1, ρ1, e1, e2⟩ := fbind_ok he
      have q := hf _ _ _ _ _ _ x h1 g1 _ _ _ e1
      split at e2
      · rename_i hb
        obtain ⟨r2, ρ2, e3, e4⟩ := fbind_ok e2
        cases e4
        have q2 := hf _ _ _ _ _ _ x h2 g2 _ _ _ e3
        refine ⟨e_and q.1 hb (e_frz q2.1), fun b hb2 => ?_⟩
        have w := w_and ((q.2 _ hb).1 ht) ((q2.2 b hb2).2 rfl)
        exact ⟨fun _ => w.pt, fun _ => w⟩
      · rename_i hb
        cases e2
        refine ⟨e_andF q.1 hb pe_no, fun b hb2 => ?_⟩
        cases hb2
        exact ⟨fun _ => (w_andF ((q.2 _ hb).1 ht) pw_no).pt, fun _ => w_andF ((q.2 _ hb).1 ht) pw_no⟩
      · cases e2
  · split at h
    · cases h
    · rename_i ht
      simp only [Bool.not_eq_true', Bool.not_eq_false] at ht
      obtain ⟨l1, l2, h1, h2, rfl⟩ := o2_ok h
      obtain ⟨g1, g2⟩ := hl.split
      intro ρ r ρ' he
      unfold ev at he
      obtain ⟨r1, ρ1, e1, e2⟩ := fbind_ok he
      have q := hf _ _ _ _ _ _ x h1 g1 _ _ _ e1
      split at e2
      · rename_i hb
        cases e2
        refine ⟨e_orT q.1 hb pe_no, fun b hb2 => ?_⟩
        cases hb2
        exact ⟨fun _ => (w_orT ((q.2 _ hb).1 ht) pw_no).pt, fun _ => w_orT ((q.2 _ hb).1 ht) pw_no⟩
      · rename_i hb
        obtain ⟨r2, ρ2, e3, e4⟩ := fbind_ok e2
        cases e4
        have q2 := hf _ _ _ _ _ _ x h2 g2 _ _ _ e3
        refine ⟨e_or q.1 hb (e_frz q2.1), fun b hb2 => ?_⟩
        have w := w_or ((q.2 _ hb).1 ht) ((q2.2 b hb2).2 rfl)
        exact ⟨fun _ => w.pt, fun _ => w⟩
      · cases e2
  · -- one alone
    split at h
    · rename_i ht
      intro ρ r ρ' he
      have q := hf _ _ _ _ _ _ x h hl _ _ _ he
      exact ⟨pe_one q.1, fun b hb => ⟨fun _ => (pw_single ((q.2 b hb).1 ht)).pt, fun _ => pw_single ((q.2 b hb).1 ht)⟩⟩
    · cases h
  · -- a if t else b
    split at h
    · cases h
    · rename_i ht
      simp only [Bool.not_eq_true', Bool.not_eq_false] at ht
      obtain ⟨l1, l23, h1, h23, rfl⟩ := o2_ok h
      obtain ⟨l2, l3, h2, h3, rfl⟩ := o2_ok h23
      obtain ⟨g1, g23⟩ := hl.split
      obtain ⟨g2, g3⟩ := g23.split
      intro ρ r ρ' he
      unfold ev at he
      obtain ⟨r1, ρ1, e1, e2⟩ := fbind_ok he
      have q := hf _ _ _ _ _ _ x h1 g1 _ _ _ e1
      split at e2
      · rename_i hb
        obtain ⟨r2, ρ2, e3, e4⟩ := fbind_ok e2
        cases e4
        exact ⟨e_ifT ((q.2 _ hb).1 ht) (e_frz (hf _ _ _ _ _ _ x h2 g2 _ _ _ e3).1) pe_no, fun b _ => ⟨fun z => (by cases z), fun z => (by cases z)⟩⟩
      · rename_i hb
        obtain ⟨r2, ρ2, e3, e4⟩ := fbind_ok e2
        cases e4
        exact ⟨e_ifF ((q.2 _ hb).1 ht) pe_no (e_frz (hf _ _ _ _ _ _ x h3 g3 _ _ _ e3).1), fun b _ => ⟨fun z => (by cases z), fun z => (by cases z)⟩⟩
      · cases e2
  · refine se_plain rfl fun ρ r ρ' he => ?_
    unfold ev at he
    obtain ⟨ds, ρ1, e1, e2⟩ := bind_ok he
    split at e2
    · rename_i hz
      cases e2
      exact pe_tupD (chkL_ok hf x h hl _ _ _ e1) x.hm hz
    · cases e2
  · refine se_plain rfl fun ρ r ρ' he => ?_
    unfold ev at he
    obtain ⟨ds, ρ1, e1, e2⟩ := bind_ok he
    split at e2
    · rename_i hz
      cases e2
      exact e_lst x.hm (chkL_ok hf x h hl _ _ _ e1) hz
    · cases e2
  · refine se_plain rfl fun ρ r ρ' he => ?_
    unfold ev at he
    obtain ⟨ds, ρ1, e1, e2⟩ := bind_ok he
    split at e2
    · rename_i hz
      cases e2
      exact pe_tupD (chkX_ok hf x h hl _ _ _ e1) x.hm hz
    · cases e2
  · refine se_plain rfl fun ρ r ρ' he => ?_
    unfold ev at he
    obtain ⟨ds, ρ1, e1, e2⟩ := bind_ok he
    split at e2
    · rename_i hz
      cases e2
      exact e_lst x.hm (chkX_ok hf x h hl _ _ _ e1) hz
    · cases e2
  · refine se_plain rfl fun ρ r ρ' he => ?_
    unfold ev at he
    obtain ⟨r1, ρ1, e1, e2⟩ := fbind_ok he
    obtain ⟨e3, rfl⟩ := opt_ok e2
    exact e_rev x.hm (hf _ _ _ _ _ _ x h hl _ _ _ e1).1 e3
  · split at h
    · rename_i hb
      obtain ⟨n1, n2, n3, n4⟩ := x.nmv hb
      obtain ⟨l1, l2, h1, h2, rfl⟩ := o2_ok h
      obtain ⟨g1, g2⟩ := hl.split
      refine se_plain rfl fun ρ r ρ' he => ?_
      unfold ev at he
      split at he
      · rename_i hs0
        obtain ⟨ds0, hs1⟩ := Option.isSome_iff_exists.mp hs0
        obtain ⟨r1, ρ1, e1, e2⟩ := fbind_ok he
        obtain ⟨r2, ρ2, e3, e4⟩ := fbind_ok e2
        split at e4
        · rename_i hlo
          simp only [Bool.and_eq_true] at hlo
          split at e4
          · rename_i xs ll hh q1 q2 q3
            cases e4
            exact e_slv x.hm n1 n2 n3 n4 hs1 (chkO_ok hf x h1 g1 _ _ _ e1 hlo.1) (chkO_ok hf x h2 g2 _ _ _ e3 hlo.2) q2 q3 q1
          · cases e4
        · cases e4
      · cases he
    · cases h
  · obtain ⟨l1, l23, h1, h23, rfl⟩ := o2_ok h
    obtain ⟨l2, l3, h2, h3, rfl⟩ := o2_ok h23
    obtain ⟨g1, g23⟩ := hl.split
    obtain ⟨g2, g3⟩ := g23.split
    refine se_plain rfl fun ρ r ρ' he => ?_
    unfold ev at he
    obtain ⟨r1, ρ1, e1, e2⟩ := fbind_ok he
    obtain ⟨r2, ρ2, e3, e4⟩ := fbind_ok e2
    obtain ⟨r3, ρ3, e5, e6⟩ := fbind_ok e4
    split at e6
    · rename_i hlo
      simp only [Bool.and_eq_true] at hlo
      obtain ⟨e7, rfl⟩ := opt_ok e6
      exact e_slc x.hm (hf _ _ _ _ _ _ x h1 g1 _ _ _ e1).1 (chkO_ok hf x h2 g2 _ _ _ e3 hlo.1) (chkO_ok hf x h3 g3 _ _ _ e5 hlo.2) e7
    · cases e6
  · split at h
    · rename_i hb
      simp only [Bool.and_eq_true] at hb
      obtain ⟨n1, n2, n3, n4⟩ := x.nmv hb.1
      refine se_plain rfl fun ρ r ρ' he => ?_
      unfold ev at he
      split at he
      · rename_i hs0
        obtain ⟨ds0, hs1⟩ := Option.isSome_iff_exists.mp hs0
        obtain ⟨r1, ρ1, e1, e2⟩ := fbind_ok he
        split at e2
        · rename_i xs j q1 q2
          obtain ⟨e3, rfl⟩ := opt_ok e2
          obtain ⟨d, e4, rfl⟩ := Option.map_eq_some_iff.mp e3
          exact e_ixv x.hm n1 n2 n3 n4 hs1 (hf _ _ _ _ _ _ x h hl _ _ _ e1).1 (plIx_ok hb.2) q2 q1 e4
        · cases e2
      · cases he
    · cases h
  · split at h
    · rename_i hb
      obtain ⟨l1, l2, h1, h2, rfl⟩ := o2_ok h
      obtain ⟨g1, g2⟩ := hl.split
      refine se_plain rfl fun ρ r ρ' he => ?_
      unfold ev at he
      obtain ⟨r1, ρ1, e1, e2⟩ := fbind_ok he
      obtain ⟨r2, ρ2, e3, e4⟩ := fbind_ok e2
      obtain ⟨e5, rfl⟩ := opt_ok e4
      obtain ⟨d, e6, rfl⟩ := Option.map_eq_some_iff.mp e5
      exact e_ix x.hm x.un (hf _ _ _ _ _ _ x h1 g1 _ _ _ e1).1 (hf _ _ _ _ _ _ x h2 g2 _ _ _ e3).1 e6 (plIx_ok hb)
    · cases h
  · -- len of a list in a slot
    have hb := g0_ok h
    simp only [Bool.and_eq_true, decide_eq_true_eq] at hb
    obtain ⟨⟨⟨b1, b2⟩, b3⟩, b4⟩ := hb
    subst b1
    obtain ⟨n1, n2, n3, n4⟩ := x.nmv b2
    refine se_plain rfl fun ρ r ρ' he => ?_
    unfold ev at he
    split at he
    · rename_i xs q
      cases he
      exact e_lenv n1 n2 n3 n4 q (x.gl b3) (x.no _ b4)
    · cases he
  · -- isinstance
    split at h
    · rename_i hb
      simp only [Bool.and_eq_true, decide_eq_true_eq, Bool.not_eq_true'] at hb
      obtain ⟨⟨⟨⟨⟨⟨⟨b1, b2⟩, b3⟩, b4⟩, b5⟩, b6⟩, b7⟩, b8⟩ := hb
      subst b1 b2
      refine se_plain rfl fun ρ r ρ' he => ?_
      unfold ev at he
      obtain ⟨r1, ρ1, e1, e2⟩ := fbind_ok he
      obtain ⟨e3, rfl⟩ := opt_ok e2
      obtain ⟨bb, e4, rfl⟩ := Option.map_eq_some_iff.mp e3
      exact e_isi b3 (x.gl b4) (x.no _ b5) (x.gl b6) (x.no _ b7) b8 (hf _ _ _ _ _ _ x h hl _ _ _ e1).1 e4
    · cases h
  · -- a builtin
    split at h
    · rename_i hb
      simp only [Bool.and_eq_true, decide_eq_true_eq] at hb
      obtain ⟨⟨⟨b1, b2⟩, b3⟩, b4⟩ := hb
      subst b1 b2
      have b5 : g.gi "gcd" = .gcd := by
        unfold gcdB at b4
        split at b4
        · assumption
        · cases b4
      refine se_plain rfl fun ρ r ρ' he => ?_
      unfold ev at he
      obtain ⟨ds, ρ1, e1, e2⟩ := bind_ok he
      obtain ⟨e3, rfl⟩ := opt_ok e2
      exact e_gcd x.hm (x.gl b3) (x.gcd _ b5) (chkL_ok hf x h hl _ _ _ e1) (chkL_star h) e3
    · split at h
      · rename_i hb
        simp only [Bool.and_eq_true, Bool.or_eq_true, decide_eq_true_eq] at hb
        obtain ⟨⟨⟨b1, b2⟩, b3⟩, b4⟩ := hb
        subst b1
        refine se_plain rfl fun ρ r ρ' he => ?_
        unfold ev at he
        obtain ⟨ds, ρ1, e1, e2⟩ := bind_ok he
        obtain ⟨e3, rfl⟩ := opt_ok e2
        rcases b2 with b2 | b2
        · exact e_bltT x.hm x.calm b2 (x.gl b3) (x.no _ b4) (chkL_ok hf x h hl _ _ _ e1) (chkL_star h) e3
        · exact e_bltF x.hm x.calm x.cx.gd x.un b2 (x.gl b3) (x.no _ b4) (chkL_ok hf x h hl _ _ _ e1) (chkL_star h) e3
      · cases h
  · -- a call of a def
    rename_i y p es kws pos y' as ks perm
    split at h
    · rename_i pn hpn
      split at h
      · rename_i hb
        simp only [Bool.and_eq_true, decide_eq_true_eq, Bool.not_eq_true'] at hb
        obtain ⟨⟨⟨⟨⟨⟨b1, b2⟩, b3⟩, b4⟩, b5⟩, b6⟩, b7⟩ := hb
        subst b1
        obtain ⟨l1, l2, h1, h2, rfl⟩ := o2_ok h
        obtain ⟨g1, g2⟩ := hl.split
        refine se_plain rfl fun ρ r ρ' he => ?_
        unfold ev at he
        obtain ⟨ps, ρ1, e1, e2⟩ := bind_ok he
        split at e2
        · rename_i qs hq
          rw [← List.take_append_drop es.length as] at e1
          obtain ⟨p1, p2, ρ2, f1, f2, rfl⟩ := evA_app e1
          obtain ⟨c1, c2⟩ := chkA_ok hf x h1 g1 f1
          obtain ⟨c3, c4⟩ := chkK_ok hf x h2 g2 f2
          have hlk := names_len b2
          cases es with
          | nil =>
            have : p1 = [] := List.length_eq_zero_iff.mp c2
            subst this
            have e0 : ρ = ρ2 := by
              have z : evA Φ [] ρ = .ok [] ρ2 := by simpa using f1
              unfold evA at z
              cases z
              rfl
            subst e0
            exact e_call0 x.cx x.hm (adc_ok x) (x.gl b5) b6 hpn b2 c3 b3 (by rw [hlk, c4]) hq e2
          | cons e0 es0 => exact e_call x.cx x.hm (adc_ok x) (x.gl b5) b6 hpn b4 b2 c1 c3 (by rw [c2]; exact b3) (by rw [hlk, c4]) hq e2
        · cases e2
      · cases h
    · cases h
  · -- a call of a function in a slot
    split at h
    · rename_i hb
      simp only [Bool.and_eq_true] at hb
      obtain ⟨n1, n2, n3, n4⟩ := x.nmv hb.1
      refine se_plain rfl fun ρ r ρ' he => ?_
      unfold ev at he
      split at he
      · rename_i F hF
        obtain ⟨ps, ρ1, e1, e2⟩ := bind_ok he
        exact e_callv x.cx x.hm (adc_ok x) n1 n2 n3 n4 hF hb.2 (chkA_ok hf x h hl e1).1 e2
      · cases he
    · cases h
  · -- f(a list that nobody else holds)
    split at h
    · rename_i pn hpn
      split at h
      · rename_i hb
        simp only [Bool.and_eq_true, decide_eq_true_eq, Bool.not_eq_true'] at hb
        obtain ⟨⟨⟨⟨b1, b2⟩, b3⟩, b4⟩, b5⟩ := hb
        subst b1
        refine se_plain rfl fun ρ r ρ' he => ?_
        unfold ev at he
        obtain ⟨r1, ρ1, e1, e2⟩ := bind_ok he
        split at e2
        · split at e2
          · rename_i hΦ
            cases e2
            exact e_call1 x.cx x.hm (x.gl b3) b5 hpn b2 b4 (hf _ _ _ _ _ _ x h hl _ _ _ e1).1 hΦ
          · cases e2
          · cases e2
        · cases e2
      · cases h
    · cases h
  · -- index, join
    split at h
    · rename_i hb
      simp only [Bool.and_eq_true, Bool.or_eq_true, decide_eq_true_eq] at hb
      obtain ⟨⟨⟨⟨⟨b1, b2⟩, b3⟩, b4⟩, b5⟩, b6⟩ := hb
      subst b1
      obtain ⟨l1, l2, h1, h2, rfl⟩ := o2_ok h
      obtain ⟨g1, g2⟩ := hl.split
      refine se_plain rfl fun ρ r ρ' he => ?_
      unfold ev at he
      obtain ⟨r1, ρ1, e1, e2⟩ := fbind_ok he
      obtain ⟨ds, ρ2, e3, e4⟩ := bind_ok e2
      obtain ⟨e5, rfl⟩ := opt_ok e4
      have q := (hf _ _ _ _ _ _ x h1 g1 _ _ _ e1).1
      have qa := chkL_ok hf x h2 g2 _ _ _ e3
      rcases b2 with rfl | rfl
      · cases hr : r1.frz with
        | list ys => rw [hr] at e5; exact e_index x.hm x.un q b3 b4 qa hr e5 b5 b6
        | _ => rw [hr] at e5; simp [mthD] at e5
      · cases hr : r1.frz with
        | str z => rw [hr] at e5; exact e_join x.hm q b3 b4 qa hr e5 b5 b6
        | _ => rw [hr] at e5; simp [mthD] at e5
    · cases h
  · -- append, pop, extend
    split at h
    · rename_i hb
      simp only [Bool.and_eq_true, decide_eq_true_eq] at hb
      obtain ⟨⟨⟨⟨b1, b2⟩, b3⟩, b4⟩, b5⟩ := hb
      subst b1
      obtain ⟨n1, n2, n3, n4⟩ := x.nmv b2
      refine se_plain rfl fun ρ r ρ' he => ?_
      unfold ev at he
      split at he
      · rename_i hs0
        obtain ⟨ds0, hs1⟩ := Option.isSome_iff_exists.mp hs0
        obtain ⟨ds, ρ1, e1, e2⟩ := bind_ok he
        have qa := chkL_ok hf x h hl _ _ _ e1
        split at e2
        · rename_i xs hxs
          split at e2
          · rename_i d ys hm
            cases e2
            unfold mutD at hm
            split at hm
            · split at hm
              · rename_i hz
                cases hm
                exact e_mut x.hm n1 n2 n3 n4 PySem.F.slot_list_append PySem.F.type_list_append mt_append (fun a xs' vs B H Q hH r1 r2 q => u_append (X := X) hz a xs' vs B H Q hH r1 r2 q) b3 b4 hs1 qa hxs b5
              · cases hm
            · split at hm
              · rename_i hz
                cases hk : seqIndex? _ xs.length with
                | none => rw [hk] at hm; cases hm
                | some kk =>
                  rw [hk] at hm
                  simp only [Option.bind] at hm
                  obtain ⟨y, hy, hyy⟩ := Option.map_eq_some_iff.mp hm
                  cases hyy
                  exact e_mut x.hm n1 n2 n3 n4 PySem.F.slot_list_pop PySem.F.type_list_pop mt_popAt (fun a xs' vs B H Q hH r1 r2 q => u_pop (X := X) hz.1 hz.2 hk hy a xs' vs B H Q hH r1 r2 q) b3 b4 hs1 qa hxs b5
              · cases hm
            · have z1 := evL_len e1
              have z2 := chkL_len h
              simp at z1 z2
              omega
            · split at hm
              · rename_i hz
                cases hm
                exact e_mut x.hm n1 n2 n3 n4 PySem.F.slot_list_extend PySem.F.type_list_extend mt_extend (fun a xs' vs B H Q hH r1 r2 q => u_extend (X := X) hz a xs' vs B H Q hH r1 r2 q) b3 b4 hs1 qa hxs b5
              · cases hm
            · cases hm
          · cases e2
        · cases e2
      · cases he
    · cases h
  · -- a list comprehension
    refine se_plain rfl fun ρ r ρ' he => ?_
    obtain ⟨items, ρ1, ds, rfl, p1, p2, p3, p4, p5, p6, p7, p8, p9⟩ := lc_parts hf x h hl he
    exact e_lc x.calm (by rw [x.N]; exact x.nd) x.hm p1 p2 p3 p4 p5 p6 p7 p8 p9
  · refine se_plain rfl fun ρ r ρ' he => dc_parts hf x h hl he
  · cases h
end
end Ev
set_option Elab.async false
set_option linter.all false
set_option maxRecDepth 100000
set_option maxHeartbeats 4000000
namespace Ev
open PySem PySem.Spec PyProof.Rows L2
section
variable {g : Gs} {S : Sx} {Φ : FV → List Arg → Res} {k : Nat} {f : Cc → Expr → E → Fnd}
theorem step2_ok (hf : F1 g S Φ k f) : F1 g S Φ k (chkStep2 g f) := by
  intro c X mk e il l x h hl
  unfold chkStep2 at h
  split at h
  · split at h
    · rename_i hb
      simp only [Bool.and_eq_true, decide_eq_true_eq, Bool.not_eq_true'] at hb
      obtain ⟨⟨⟨⟨⟨⟨b1, b2⟩, b3⟩, b4⟩, b5⟩, b6⟩, b7⟩ := hb
      subst b1 b2
      refine se_plain rfl fun ρ r ρ' he => ?_
      unfold ev at he
      obtain ⟨items, ρ1, e1, e2⟩ := bind_ok he
      unfold evI at e1
      obtain ⟨r0, ρ2, e3, e4⟩ := fbind_ok e1
      have q := (hf c X mk _ _ l x h hl ρ r0 ρ2 e3).1
      rw [if_neg (by decide)] at e4
      split at e4
      · rename_i j hj
        split at e4
        · rename_i hr
          cases e4
          split at e2
          · rename_i hlen
            rw [if_neg (by decide)] at e2
            cases e2
            exact e_listR1 x.hm x.calm (x.gl b3) (x.no _ b4) (x.gl b5) (x.no _ b6) b7 q hj hr hlen
          · cases e2
        · cases e4
      · cases e4
    · cases h
  · split at h
    · rename_i hb
      simp only [Bool.and_eq_true, decide_eq_true_eq, Bool.not_eq_true'] at hb
      obtain ⟨⟨⟨⟨⟨⟨⟨b1, b2⟩, b3⟩, b4⟩, b5⟩, b6⟩, b7⟩, b8⟩ := hb
      subst b1 b2
      obtain ⟨l1, l2, h1, h2, rfl⟩ := o2_ok h
      obtain ⟨g1, g2⟩ := hl.split
      refine se_plain rfl fun ρ r ρ' he => ?_
      unfold ev at he
      obtain ⟨items, ρ1, e1, e2⟩ := bind_ok he
      unfold evI at e1
      obtain ⟨r0, ρ2, e3, e4⟩ := fbind_ok e1
      have q := (hf c X mk _ _ _ x h1 g1 ρ r0 ρ2 e3).1
      rw [if_pos rfl] at e4
      obtain ⟨r1, ρ3, e5, e6⟩ := fbind_ok e4
      have q2 := (hf c X mk _ _ _ x h2 g2 ρ2 r1 ρ3 e5).1
      split at e6
      · rename_i i j hi hj
        split at e6
        · rename_i hr
          cases e6
          split at e2
          · rename_i hlen
            rw [if_neg (by decide)] at e2
            cases e2
            exact e_listR2 x.hm x.calm (x.gl b3) (x.no _ b4) (x.gl b5) (x.no _ b6) b7 b8 q q2 hi hj hr hlen
          · cases e2
        · cases e6
      · cases e6
    · cases h
  · split at h
    · rename_i hb
      obtain ⟨n1, n2, n3, n4⟩ := x.nmv hb
      refine se_plain rfl fun ρ r ρ' he => ?_
      unfold ev at he
      split at he
      · rename_i hs0
        obtain ⟨xs0, hs1⟩ := Option.isSome_iff_exists.mp hs0
        obtain ⟨r0, ρ1, e1, e2⟩ := fbind_ok he
        split at e2
        · rename_i xs ys h1 h2
          split at e2
          · rename_i hlen
            cases e2
            exact e_addv x.hm n1 n2 n3 n4 hs1 (hf c X mk _ _ l x h hl ρ r0 _ e1).1 h1 h2 hlen
          · cases e2
        · cases e2
      · cases he
    · cases h
  · cases h
/-- several values -/
theorem chkEs_ok (hf : F1 g S Φ k f) {c : Cc} {X : Cx} {mk : Mkd} (x : XOk g c X S mk Φ k) : ∀ {es : List Expr} {ils : List E} {l : List LamE}, chkL f c es ils = some l → LamsOk S l → ∀ {ρ ρ' : Env} {rs : List EV}, evEs Φ ils ρ = .ok rs ρ' → PA X es (tL (cn X S) mk ρ rs ρ') ∧ rs.length = es.length
  | [], [], _, _, _, ρ, ρ', rs, h => by
    unfold evEs at h
    cases h
    exact ⟨el_nil, rfl⟩
  | e :: es, il :: ils, l, h, hl, ρ, ρ', rs, he => by
    unfold chkL at h
    split at h
    · cases h
    · rename_i hs
      obtain ⟨l1, l2, h1, h2, rfl⟩ := o2_ok h
      obtain ⟨g1, g2⟩ := hl.split
      unfold evEs at he
      obtain ⟨r, ρ1, e1, e2⟩ := bind_ok he
      obtain ⟨rs2, ρ2, e3, e4⟩ := bind_ok e2
      cases e4
      obtain ⟨q1, q2⟩ := chkEs_ok hf x h2 g2 e3
      exact ⟨el_cons (by simpa using hs) (hf _ _ _ _ _ _ x h1 g1 _ _ _ e1).1 q1, by rw [List.length_cons, List.length_cons, q2]⟩
  | [], _ :: _, _, h, _, _, _, _, _ => by unfold chkL at h; cases h
  | _ :: _, [], _, h, _, _, _, _, _ => by unfold chkL at h; cases h
end
end Ev
set_option Elab.async false
set_option linter.all false
set_option maxRecDepth 100000
set_option maxHeartbeats 8000000
namespace Ev
open PySem PySem.Spec PyProof.Rows L2
theorem chkE_ok {g : Gs} {S : Sx} {Φ : FV → List Arg → Res} {k : Nat} : ∀ n, F1 g S Φ k (chkE g n)
  | 0 => fun c X mk e il l x h => by cases h
  | n + 1 => fun c X mk e il l x h hl => by
    have h0 : orF (chkStep g (chkE g n) c e il) (fun _ => chkStep2 g (chkE g n) c e il) = some l := h
    rcases orF_ok h0 with h | h
    · exact step_ok (chkE_ok n) c X mk e il l x h hl
    · exact step2_ok (chkE_ok n) c X mk e il l x h hl
/-! ### statements -/
def swB (c : Cc) (x : Str) (py : Pos) (e : Expr) : Bool := match e with
  | .ListComp _ _ s _ => decide (c.sc.kind = .function) && decide (c.sc.names.lookup x = some .local) && (py.line == e.pos.line) && !(s.names.any fun (n, k) => n == x && (k == .local || k == .cell))
  | _ => false
/-- no comprehension, or one that is stored as any other value -/
def okV (c : Cc) (t e : Expr) : Bool := !isComp e || match t, e with
  | .Name x py, .ListComp _ _ _ _ => decide (c.sc.kind = .function) && !swB c x py e
  | .Name _ _, _ => false
  | _, _ => true
def notName : Expr → Bool
  | .Name _ _ => false
  | _ => true
def namesB (c : Cc) : List Expr → List (Nat × Bool) → Bool
  | [], [] => true
  | .Name x _ :: ts, (i, _) :: is => decide (c.N[i]? = some x) && decide (c.sc.names.lookup x = some .local) && namesB c ts is
  | _, _ => false
section
variable (g : Gs) (fe : Cc → Expr → E → Fnd) (fs : Cc → Stmt → Ev.S → Fnd)
def isFg : Ev.S → Bool
  | .forget _ => true
  | _ => false
def chkB (c : Cc) : List Stmt → List Ev.S → Fnd
  | [], [] => some []
  | _ :: _, [] => none
  | ss, i :: is => if isFg i then chkB c ss is else match ss with
    | s :: ss => o2 (fs c s i) (chkB c ss is)
    | [] => none
/-- a list comprehension that goes into a local name -/
def chkSet (c : Cc) : Expr → E → Fnd
  | .ListComp elt [⟨tg, it, ifs, 0⟩] scope _, .lc ie t ii cs vs =>
    if blkC c.N c.sc scope (ownOf c vs) && chkG (sub c scope) tg t && (tgS t).all (fun j => decide (j ∈ vs)) then o2 (chkI g fe c tg it ii) (o2 (chkC fe (sub c scope) ifs cs) (fe (sub c scope) elt ie)) else none
  | _, _ => none
def chkSt (c : Cc) : Stmt → Ev.S → Fnd
  | .Assign [.Tuple [.Name x px, .Name y py] kt pt] (.Tuple [a, b] k2 pt2) pos, .parl [(i, bi), (j, bj)] [ia, ib] =>
    if decide (c.sc.kind = .function) && namesB c [.Name x px, .Name y py] [(i, bi), (j, bj)] && decide (i ≠ j) && !isStar a && !isStar b && (px.line == py.line) && !(x == y) && !([a, b].all (foldedForSure 8)) && !([a, b].all (constantsAlone 8)) then o2 (fe c a ia) (fe c b ib) else none
  | .Assign [.Tuple [.Name x px, .Name y py, .Name z pz] kt pt] (.Tuple [a, b, d] k2 pt2) pos, .parl [(i, bi), (j, bj), (l, bl)] [ia, ib, id] =>
    if decide (c.sc.kind = .function) && namesB c [.Name x px, .Name y py, .Name z pz] [(i, bi), (j, bj), (l, bl)] && decide (i ≠ j) && decide (i ≠ l) && decide (j ≠ l) && !isStar a && !isStar b && !isStar d && (px.line == py.line) && (px.line == pz.line) && !(x == y) && !(x == z) && !(y == z) && !([a, b, d].all (foldedForSure 8)) && !([a, b, d].all (constantsAlone 8)) then o2 (fe c a ia) (o2 (fe c b ib) (fe c d id)) else none
  | .Assign [.Name x py] e pos, .asgO i il =>
    if decide (c.N[i]? = some x) && locB c x then (if swB c x py e then chkSet g fe c e il else if okV c (.Name x py) e then fe c e il else none) else none
  | .Assign [.Name x py] e pos, .asg (.nm i) il =>
    if decide (c.N[i]? = some x) && locB c x then (if swB c x py e then chkSet g fe c e il else if okV c (.Name x py) e then fe c e il else none) else none
  | .Assign [t] e pos, .asg tg il => if chkG c t tg && okV c t e && !isStar t && (!(isTupT t && isTupT e) || cellT c.sc t e) && notName t then fe c e il else none
  | .Assign [.Subscript (.Name x _) ke _] e pos, .setx i ki il => if nmB c i x && plIx ke && !isComp e then o2 (fe c e il) (fe c ke ki) else none
  | .Expr e _, .expr il => if isComp e then none else fe c e il
  | .Return (some e) _, .ret il => fe c e il
  | .Return none _, .ret (.lit .none) => some []
  | .If t a b _, .ite it ia ib => if !tOk t then none else o2 (fe c t it) (o2 (chkB fs c a ia) (chkB fs c b ib))
  | .For tg it body [] _, .for t ii ib => if chkG c tg t then o2 (chkI g fe c tg it ii) (chkB fs c body ib) else none
  | .While t body [] _, .while it ib => if !tOk t then none else o2 (fe c t it) (chkB fs c body ib)
  | .FunctionDef name params body [] none [] scope none name' pos, .defn i => match c.nd i with
    | some (id, sc) => if c.fr && decide (name = name') && decide (sc = scope) && decide (c.nm pos.line pos.col = c.qual ++ name) && params.defaults.isEmpty && params.kw_defaults.isEmpty && (frOf scope).all (fun y => visB c.sc y && !decide (c.sc.names.lookup y = some .local)) && decide (c.N[i]? = some name) && locB c name && params.posonlyargs.isEmpty && params.kwonlyargs.isEmpty && params.vararg.isNone && params.kwarg.isNone && params.args.all (fun a => a.annotation.isNone)
      then some [⟨id, name, c.qual ++ name, params, .inr body, scope⟩] else none
    | none => none
  | .Pass _, .pass => some []
  | .Break _, .brk => some []
  | .Continue _, .cont => some []
  | _, .raise _ none => some []
  | _, _ => none
end
def namesC (c : Cc) : List Expr → List (Nat × Bool) → Bool
  | [], [] => true
  | .Name x _ :: ts, (i, _) :: is => decide (c.N[i]? = some x) && locB c x && namesC c ts is
  | _, _ => false
/-- what the first look does not know -/
def chkSt2 (fe : Cc → Expr → E → Fnd) (c : Cc) : Stmt → Ev.S → Fnd
  | .Assign [.Tuple ts kt pt] (.Tuple es k2 pt2) _, .parl is ils => if namesC c ts is && cellT c.sc (.Tuple ts kt pt) (.Tuple es k2 pt2) && decide (es.length ≤ 1000) then chkL fe c es ils else none
  | _, _ => none
def chkS (g : Gs) : Nat → Cc → Stmt → Ev.S → Fnd
  | 0 => fun _ _ _ => none
  | n + 1 => fun c st il => orF (chkSt g (chkE g 60) (chkS g n) c st il) fun _ => chkSt2 (chkE g 60) c st il
section
variable {g : Gs} {c : Cc} {X : Cx} {S : Sx} {mk : Mkd} {Φ : FV → List Arg → Res} {k W : Nat} {ρ ρ1 ρ2 : Env}
def SS (X : Cx) (S : Sx) (mk : Mkd) (Φ : FV → List Arg → Res) (W : Nat) (st : Stmt) (il : Ev.S) : Prop := ∀ ρ, PS X st (tS (cn X S) mk ρ (evS Φ W il ρ))
def SB (X : Cx) (S : Sx) (mk : Mkd) (Φ : FV → List Arg → Res) (W : Nat) (st : List Stmt) (il : List Ev.S) : Prop := ∀ ρ, PSs X st (tS (cn X S) mk ρ (evB Φ W il ρ))
theorem ps_no {st : Stmt} {fl : Fl} (h : fl = .bad ∨ ∃ c x ρ', fl = .exc c x ρ') : PS X st (tS (cn X S) mk ρ fl) := psImp ps_never fun D σ H ⟨Fb, R, q⟩ => by
  rcases h with rfl | ⟨c, x, ρ', rfl⟩ <;> exact q.elim
theorem pss_no {st : List Stmt} {fl : Fl} (h : fl = .bad ∨ ∃ c x ρ', fl = .exc c x ρ') : PSs X st (tS (cn X S) mk ρ fl) := pssImp pss_never fun D σ H ⟨Fb, R, q⟩ => by
  rcases h with rfl | ⟨c, x, ρ', rfl⟩ <;> exact q.elim
theorem assign_sub {o i : Expr} {pos : Pos} {env : PySem.Env} (h : plIx i = true) (v : Value) : assign (.Subscript o i pos) env v = (do
      let ov ← holding [v] (eval o env)
      let iv ← holding [v, ov] (eval i env)
      standAt pos
      holding [v, ov, iv] (setItem ov iv v)
      release [v, ov, iv] []) := by
  cases i with
  | Slice a b c p => cases c <;> first | rfl | (simp [plIx] at h)
  | _ => rfl
theorem s_setx {i : Nat} {x : Str} {e ke : Expr} {r rk : EV} {kk : Int} {j : Nat} {xs0 xs : List D} {p1 p2 pos : Pos} (hm : MkOk mk) (hN : X.N[i]? = some x) (hv : Vis X.env.scope x) (hd : (x == ("__debug__" : Str)) = false) (hcd : (x == ("__classdict__" : Str)) = false) (hpl : plIx ke = true) (hcmp : isComp e = false)
    (he : PE X e (tE (cn X S) mk ρ r ρ1)) (h0 : mutOf ρ1[i]? = some xs0) (hk : PE X ke (tE (cn X S) mk ρ1 rk ρ2)) (hkk : rk.frz = .int kk) (h1 : mutOf ρ2[i]? = some xs) (hj : ixN xs.length kk = some j) :
    PS X (.Assign [.Subscript (.Name x p1) ke p2] e pos) (tS (cn X S) mk ρ (.nx (mutPut ρ2 i (xs.set j r.frz)))) :=
  psImp (ps_asg he (pg_sub (pe_var hN hv hd hcd) hk set_list (assign_sub hpl)) (swaps_sole hcmp) (stores_no (.inl rfl)) rfl) fun D σ H ⟨Fb, R, q⟩ => ⟨Fb, R, fun v H1 s1 rv => by
    obtain ⟨a, ys, g1, _, g3, _⟩ := s1.rel.mt i xs0 h0
    refine ⟨.ref a, g1, Fb, s1.rel, fun kv H2 s2 rkv => ?_⟩
    have z := rkv.frz
    rw [hkk] at z
    cases z
    obtain ⟨a', zs, f1, _, f3, f4⟩ := s2.rel.mt i xs h1
    rw [g1] at f1; cases f1
    exact ⟨a, zs, kk, j, rfl, rfl, f3, by rw [f4.length]; exact hj, q _ _ (((s1.trans s2).put hm h1 g1 f3 (f4.set (s2.rd rv.frz) j)).toS)⟩⟩
theorem chkB_cons {fs : Cc → Stmt → Ev.S → Fnd} {c : Cc} {sts : List Stmt} {il : Ev.S} {ils : List Ev.S} : chkB fs c sts (il :: ils) = if isFg il then chkB fs c sts ils else match sts with
    | s :: ss => o2 (fs c s il) (chkB fs c ss ils)
    | [] => none := by
  cases sts <;> rw [chkB]
theorem Rel.forget1 {C : Cn} {Fb : Addr → Prop} {ρ : Env} {σ : L2.St} {H : Hp} (R : Rel C mk Fb ρ σ H) (v : Nat) : StepS C mk Fb ρ (forget1 ρ v) σ σ H H := by
  unfold Ev.forget1
  split
  · exact .refl R
  · rename_i hp
    have hp' : isPar ρ[v]? = false := by simpa using hp
    have get : ∀ {i : Nat} {s : SV}, (ρ.set v none)[i]? = some (some s) → i ≠ v ∧ ρ[i]? = some (some s) := fun {i s} e => by
      by_cases h : v = i
      · subst h
        rw [List.getElem?_set] at e
        split at e
        · split at e <;> cases e
        · rename_i z; exact absurd rfl z
      · rw [List.getElem?_set_ne h] at e
        exact ⟨fun z => h z.symm, e⟩
    have mtt : ∀ {i : Nat} {ds : List D}, mutOf (ρ.set v none)[i]? = some ds → mutOf ρ[i]? = some ds := fun {i ds} e => by
      rcases mutOf_cases e with z | z
      · rw [(get z).2]
        rfl
      · rw [(get z).2]
        rfl
    have sub : ∀ a, mutA (ρ.set v none) σ a → mutA ρ σ a := fun a ⟨i, ds, e1, e2⟩ => ⟨i, ds, mtt e1, e2⟩
    have bd : ∀ a, bad Fb (ρ.set v none) σ a → bad Fb ρ σ a := fun a h => h.elim .inl fun z => .inr (sub a z)
    refine ⟨⟨by rw [List.length_set]; exact R.len, R.fb, fun i s e h => ?_, fun i ds e => ?_, fun i j a h1 h2 e1 e2 => ?_, fun i ns e => R.ro i ns (get e).2, fun i e => R.mks i (get e).2, R.tabs⟩, .refl, fun a h => .inl (sub a h), fun i ds e => ?_⟩
    · obtain ⟨w, e1, e2⟩ := R.val i s (get e).2 h
      exact ⟨w, e1, e2.bad fun a z => .inl (bd a z)⟩
    · obtain ⟨a, xs, e1, e2, e3, e4⟩ := R.mt i ds (mtt e)
      exact ⟨a, xs, e1, e2, e3, e4.bad fun a z => .inl (bd a z)⟩
    · have nn : ∀ {k : Nat}, mutOf (ρ.set v none)[k]? ≠ none → mutOf ρ[k]? ≠ none := fun {k} h => by
        obtain ⟨ds, hds⟩ := Option.ne_none_iff_exists'.mp h
        rw [mtt hds]
        exact fun z => by cases z
      exact R.inj i j a (nn h1) (nn h2) e1 e2
    · refine ⟨⟨ds, ?_⟩, rfl⟩
      have hne : v ≠ i := fun z => by
        subst z
        exact (notPar hp').1 ds e
      rw [List.getElem?_set_ne hne]
      exact e
theorem Rel.forgetE {C : Cn} {Fb : Addr → Prop} {σ : L2.St} {H : Hp} : ∀ {vs : List Nat} {ρ : Env}, Rel C mk Fb ρ σ H → StepS C mk Fb ρ (Ev.forgetE ρ vs) σ σ H H
  | [], _, R => .refl R
  | v :: _, _, R => (R.forget1 v).trans (Rel.forgetE (R.forget1 v).rel)
theorem chkB_ok {fs : Cc → Stmt → Ev.S → Fnd} (hs : ∀ st il l, fs c st il = some l → LamsOk S l → SS X S mk Φ W st il) : ∀ {sts : List Stmt} {ils : List Ev.S} {l : List LamE}, chkB fs c sts ils = some l → LamsOk S l → SB X S mk Φ W sts ils
  | [], [], l, h, hl => fun ρ => by unfold evB; exact ss_nil
  | _ :: _, [], _, h, _ => by unfold chkB at h; cases h
  | sts, il :: ils, l, h, hl => by
    rw [chkB_cons] at h
    split at h
    · rename_i hf
      cases il with
      | forget vs =>
        intro ρ
        unfold evB
        show PSs X sts (tS (cn X S) mk ρ (evB Φ W ils (Ev.forgetE ρ vs)))
        exact pssImp (chkB_ok hs h hl (Ev.forgetE ρ vs)) fun D σ H ⟨Fb, R, q⟩ => ⟨Fb, R.forgetE.rel, q.after R.forgetE⟩
      | _ => cases hf
    · cases sts with
      | nil => cases h
      | cons st sts =>
        obtain ⟨l1, l2, h1, h2, rfl⟩ := o2_ok h
        obtain ⟨g1, g2⟩ := hl.split
        have q1 := hs st il l1 h1 g1
        have q2 := chkB_ok hs h2 g2
        intro ρ
        have e := q1 ρ
        unfold evB
        cases hf : evS Φ W il ρ with
        | nx ρ1 => rw [hf] at e; exact ss_cons e (q2 ρ1)
        | rt r ρ1 => rw [hf] at e; exact ss_end e fun _ z => nomatch z
        | bk ρ1 => rw [hf] at e; exact ss_end e fun _ z => nomatch z
        | ct ρ1 => rw [hf] at e; exact ss_end e fun _ z => nomatch z
        | exc c x ρ1 => exact pss_no (.inr ⟨_, _, _, rfl⟩)
        | bad => exact pss_no (.inl rfl)
end
end Ev
set_option Elab.async false
set_option linter.all false
set_option maxRecDepth 100000
set_option maxHeartbeats 16000000
namespace Ev
open PySem PySem.Spec PyProof.Rows L2
section
variable {g : Gs} {c : Cc} {X : Cx} {S : Sx} {mk : Mkd} {Φ : FV → List Arg → Res} {k W : Nat} {ρ ρ1 ρ2 : Env}
theorem kind_block {env : PySem.Env} (h : env.scope.kind = .function) : env.blockKind = .function := by
  unfold Env.blockKind
  rw [h]
  rfl
theorem sw_true (x : XOk g c X S mk Φ k) {y : Str} {py : Pos} {e : Expr} {l : Nat} (h : swB c y py e = true) : swapsWith e (some (.Name y py)) l X.env = pure true := by
  unfold swB at h
  split at h
  · rename_i elt gens s p
    simp only [Bool.and_eq_true, decide_eq_true_eq] at h
    obtain ⟨⟨⟨h1, h2⟩, h3⟩, h4⟩ := h
    have hk := kind_block (env := X.env) (by rw [x.sc]; exact h1)
    have hl : X.env.kindOf y = some .local := by show X.env.scope.names.lookup y = _; rw [x.sc]; exact h2
    show pure (X.env.blockKind == .function && X.env.kindOf y == some .local && py.line == (Expr.ListComp elt gens s p).pos.line && !(s.names.any fun (n, k) => n == y && (k == .local || k == .cell))) = pure true
    rw [hk, hl, h3, h4]
    rfl
  · cases h
theorem ok_swaps (x : XOk g c X S mk Φ k) {t e : Expr} {l : Nat} (h : okV c t e = true) : isComp e = false ∨ swapsWithSole [t] e l X.env = pure false := by
  unfold okV at h
  simp only [Bool.or_eq_true, Bool.not_eq_true'] at h
  rcases h with h | h
  · exact .inl h
  · refine .inr ?_
    split at h
    · rename_i y py elt gens s p
      simp only [Bool.and_eq_true, decide_eq_true_eq, Bool.not_eq_true'] at h
      obtain ⟨h1, h2⟩ := h
      have hk := kind_block (env := X.env) (by rw [x.sc]; exact h1)
      have hl : X.env.kindOf y = c.sc.names.lookup y := by show X.env.scope.names.lookup y = _; rw [x.sc]
      show pure (X.env.blockKind == .function && X.env.kindOf y == some .local && py.line == (Expr.ListComp elt gens s p).pos.line && !(s.names.any fun (n, k) => n == y && (k == .local || k == .cell))) = pure false
      congr 1
      rw [hk, hl]
      unfold swB at h2
      simp only [h1, decide_true, Bool.true_and] at h2
      have e1 : (ScopeKind.function == ScopeKind.function) = true := rfl
      rw [e1, Bool.true_and]
      have e2 : (c.sc.names.lookup y == some NameKind.local) = decide (c.sc.names.lookup y = some .local) := by
        by_cases z : c.sc.names.lookup y = some .local
        · rw [z]; rfl
        · rw [decide_eq_false z]
          simpa using z
      rw [e2]
      exact h2
    · cases h
    · cases t <;> cases e <;> first | rfl | (simp at *; done) | (rename_i w _; exact absurd rfl (by first | exact w _ _ | skip))
theorem set_parts {fe : Cc → Expr → E → Fnd} (hf : F1 g S Φ k fe) (x : XOk g c X S mk Φ k) {i : Nat} {y : Str} {py pos : Pos} {e : Expr} {il : E} {l : List LamE} (h : chkSet g fe c e il = some l) (hl : LamsOk S l) (hsw : swB c y py e = true) (hy : X.N[i]? = some y) {r : EV} (he : ev Φ il ρ = .ok r ρ1) {fl : Fl}
    (hend : ∀ ds, r = .fresh ds → ∀ D σ H, tS (cn X S) mk ρ fl D σ H → tE (cn X S) mk ρ (.fresh ds) ρ1 σ H (fun v H1 => gName i v σ H1 D.nx)) : PS X (.Assign [.Name y py] e pos) (tS (cn X S) mk ρ fl) := by
  have hloc : X.env.scope.names.lookup y = some .local := by
    unfold swB at hsw
    split at hsw
    · simp only [Bool.and_eq_true, decide_eq_true_eq] at hsw
      rw [x.sc]; exact hsw.1.1.2
    · cases hsw
  unfold chkSet at h
  split at h
  · obtain ⟨items, ρa, ds, rfl, p1, p2, p3, p4, p5, p6, p7, p8, p9⟩ := lc_parts hf x h hl he
    exact s_lc x.calm (by rw [x.N]; exact x.nd) x.hm hy hloc (sw_true x hsw) p1 p2 p3 p4 p5 p6 p7 p8 p9 (hend ds rfl)
  · cases h
end
end Ev
set_option Elab.async false
set_option linter.all false
set_option maxRecDepth 100000
set_option maxHeartbeats 16000000
namespace Ev
open PySem PySem.Spec PyProof.Rows L2
section
variable {env : PySem.Env}
theorem noStar_any : ∀ {es : List Expr}, noStar es = true → (es.any fun | .Starred .. => true | _ => false) = false
  | [], _ => rfl
  | e :: es, h => by
    have h' : (!isStar e) = true ∧ noStar es = true := by simpa [noStar] using h
    rw [List.any_cons, noStar_any h'.2]
    cases e <;> first | rfl | (simp [isStar] at h'; done)
theorem star_ne {a : Expr} (h : isStar a = false) : (match a with | .Starred value pos => true | _ => false) = false := by
  cases a <;> first | rfl | (simp [isStar] at h; done)
theorem swap2 {x y : Str} {px py pt pt2 : Pos} {kt k2 : Nat} {a b : Expr} (hk : env.scope.kind = .function) (hx : env.scope.names.lookup x = some .local) (hy : env.scope.names.lookup y = some .local) (hs : noStar [a, b] = true) (hl : (px.line == py.line) = true) (hxy : (x == y) = false)
    (h1 : [a, b].all (foldedForSure 8) = false) (h2 : [a, b].all (constantsAlone 8) = false) : swappedStores [.Tuple [.Name x px, .Name y py] kt pt] (.Tuple [a, b] k2 pt2) env = pure (some [x, y]) := by
  have kx : env.kindOf x = some .local := hx
  have ky : env.kindOf y = some .local := hy
  have hl' : px.line = py.line := by simpa using hl
  have hyx : (y == x) = false := by
    simp only [beq_eq_false_iff_ne, ne_eq] at hxy ⊢
    exact fun z => hxy z.symm
  have e1 : [x, y].eraseDups = [x, y] := by
    simp [List.eraseDups_cons, hyx]
  simp only [swappedStores, kind_block hk, noStar_any hs, h1, h2]
  have hs' : isStar a = false ∧ isStar b = false := by simpa [noStar] using hs
  simp [kx, ky, hl', e1, List.filterMap, Expr.pos]
  intro hor
  exfalso
  obtain ⟨s1, s2⟩ := hs'
  rcases hor with w | w
  · cases a <;> first | (cases s1; done) | (cases w; done)
  · cases b <;> first | (cases s2; done) | (cases w; done)
theorem swap3 {x y z : Str} {px py pz pt pt2 : Pos} {kt k2 : Nat} {a b d : Expr} (hk : env.scope.kind = .function) (hx : env.scope.names.lookup x = some .local) (hy : env.scope.names.lookup y = some .local) (hz : env.scope.names.lookup z = some .local) (hs : noStar [a, b, d] = true) (hl : (px.line == py.line) = true) (hl2 : (px.line == pz.line) = true) (hxy : (x == y) = false) (hxz : (x == z) = false) (hyz : (y == z) = false)
    (h1 : [a, b, d].all (foldedForSure 8) = false) (h2 : [a, b, d].all (constantsAlone 8) = false) : swappedStores [.Tuple [.Name x px, .Name y py, .Name z pz] kt pt] (.Tuple [a, b, d] k2 pt2) env = pure (some [x, y, z]) := by
  have kx : env.kindOf x = some .local := hx
  have ky : env.kindOf y = some .local := hy
  have kz : env.kindOf z = some .local := hz
  have hl' : py.line = px.line := by simpa using (beq_iff_eq.mp hl).symm
  have hl2' : pz.line = px.line := by simpa using (beq_iff_eq.mp hl2).symm
  have n1 : (y == x) = false := by
    simp only [beq_eq_false_iff_ne, ne_eq] at hxy ⊢
    exact fun w => hxy w.symm
  have n2 : (z == x) = false := by
    simp only [beq_eq_false_iff_ne, ne_eq] at hxz ⊢
    exact fun w => hxz w.symm
  have n3 : (z == y) = false := by
    simp only [beq_eq_false_iff_ne, ne_eq] at hyz ⊢
    exact fun w => hyz w.symm
  have e1 : [x, y, z].eraseDups = [x, y, z] := by
    simp [List.eraseDups_cons, n1, n2, n3]
  simp only [swappedStores, kind_block hk, noStar_any hs, h1, h2]
  have hs' : isStar a = false ∧ isStar b = false ∧ isStar d = false := by simpa [noStar] using hs
  simp [kx, ky, kz, hl', hl2', e1, List.filterMap, Expr.pos]
  intro hor
  exfalso
  obtain ⟨s1, s2, s3⟩ := hs'
  rcases hor with w | w | w
  · cases a <;> first | (cases s1; done) | (cases w; done)
  · cases b <;> first | (cases s2; done) | (cases w; done)
  · cases d <;> first | (cases s3; done) | (cases w; done)
end
end Ev
set_option Elab.async false
set_option linter.all false
set_option maxRecDepth 100000
set_option maxHeartbeats 16000000
namespace Ev
open PySem PySem.Spec PyProof.Rows L2
section
variable {g : Gs} {S : Sx} {Φ : FV → List Arg → Res} {k W : Nat} {fe : Cc → Expr → E → Fnd} {fs : Cc → Stmt → Ev.S → Fnd}
def F2 (g : Gs) (S : Sx) (Φ : FV → List Arg → Res) (k W : Nat) (fs : Cc → Stmt → Ev.S → Fnd) : Prop := ∀ (c : Cc) (X : Cx) (mk : Mkd) (st : Stmt) (il : Ev.S) (l : List LamE), XOk g c X S mk Φ k → PassesOwn (model X.prog X.w) X.A X.env X.xe → fs c st il = some l → LamsOk S l → SS X S mk Φ W st il
theorem thenF_cases {α : Type} {o : Out α} {f : α → Env → Fl} {fl : Fl} (h : o.thenF f = fl) : (∃ a ρ1, o = .ok a ρ1 ∧ f a ρ1 = fl) ∨ (fl = .bad ∨ ∃ c x ρ', fl = .exc c x ρ') := by
  cases o with
  | ok a ρ1 => exact .inl ⟨a, ρ1, rfl, h⟩
  | exc c x ρ1 => exact .inr (.inr ⟨c, x, ρ1, h.symm⟩)
  | bad => exact .inr (.inl h.symm)
theorem ffz_cases {o : Out EV} {f : D → Env → Fl} {fl : Fl} (h : o.frz.thenF f = fl) : (∃ r ρ1, o = .ok r ρ1 ∧ f r.frz ρ1 = fl) ∨ (fl = .bad ∨ ∃ c x ρ', fl = .exc c x ρ') := by
  cases o with
  | ok a ρ1 => exact .inl ⟨a, ρ1, rfl, h⟩
  | exc c x ρ1 => exact .inr (.inr ⟨c, x, ρ1, h.symm⟩)
  | bad => exact .inr (.inl h.symm)
theorem annNone {env : PySem.Env} : ∀ {l : List PySem.Arg}, l.all (fun a => a.annotation.isNone) = true → annotationsOf l env = []
  | [], _ => rfl
  | ⟨x, none, p⟩ :: l, h => by
    have h2 : l.all (fun a => a.annotation.isNone) = true := by simpa using h
    show annotationsOf (⟨x, none, p⟩ :: l) env = []
    simp only [annotationsOf]
    exact annNone h2
  | ⟨x, some a, p⟩ :: l, h => by simp at h
theorem fnArr {params : Arguments} {env : PySem.Env} (h1 : params.posonlyargs.isEmpty = true) (h2 : params.kwonlyargs.isEmpty = true) (h3 : params.vararg.isNone = true) (h4 : params.kwarg.isNone = true) (h5 : params.args.all (fun a => a.annotation.isNone) = true) : annTrees params none env = [] := by
  obtain ⟨po, ar, va, ko, kd, kw, df⟩ := params
  simp only [List.isEmpty_iff, Option.isNone_iff_eq_none] at h1 h2 h3 h4
  subst h1 h2 h3 h4
  unfold annTrees
  simp only [Option.toList_none, List.append_nil]
  rw [annNone h5]
  rfl
theorem st_ok (hf : F1 g S Φ k fe) (hs : F2 g S Φ k W fs) : F2 g S Φ k W (chkSt g fe fs) := by
  intro c X mk st il l x pw h hl
  have hN : X.N.Nodup := by rw [x.N]; exact x.nd
  have hB : ∀ {sts : List Stmt} {ils : List Ev.S} {l : List LamE}, chkB fs c sts ils = some l → LamsOk S l → SB X S mk Φ W sts ils := fun {sts ils l} h hl => chkB_ok (fun st il l h hl => hs c X mk st il l x pw h hl) h hl
  unfold chkSt at h
  split at h
  · -- a, b = e, f
    split at h
    · rename_i hb
      simp only [Bool.and_eq_true, decide_eq_true_eq, Bool.not_eq_true'] at hb
      obtain ⟨⟨⟨⟨⟨⟨⟨⟨b0, b1⟩, b2⟩, b3⟩, b4⟩, b5⟩, b6⟩, b7⟩, b8⟩ := hb
      simp only [namesB, Bool.and_eq_true, decide_eq_true_eq] at b1
      obtain ⟨⟨n1, n2⟩, ⟨n3, n4⟩, _⟩ := b1
      obtain ⟨l1, l2, h1, h2, rfl⟩ := o2_ok h
      obtain ⟨g1, g2⟩ := hl.split
      intro ρ
      unfold evS
      generalize hfl : Out.thenF _ _ = fl
      rcases thenF_cases hfl with ⟨rs, ρ1, e1, e2⟩ | hno
      · rw [← e2]
        unfold evEs at e1
        obtain ⟨r1, ρa, f1, f2⟩ := bind_ok e1
        obtain ⟨rs2, ρb, f3, f4⟩ := bind_ok f2
        cases f4
        unfold evEs at f3
        obtain ⟨r2, ρc, f5, f6⟩ := bind_ok f3
        obtain ⟨rs3, ρd, f7, f8⟩ := bind_ok f6
        cases f8
        unfold evEs at f7
        cases f7
        have q1 := (hf _ _ _ _ _ _ x h1 g1 _ _ _ f1).1
        have q2 := (hf _ _ _ _ _ _ x h2 g2 _ _ _ f5).1
        cases hse : setEs _ [r1, r2] ρ1 with
        | none => exact ps_no (.inl rfl)
        | some ρ2 =>
          refine s_par2 x.calm hN (by rw [x.N]; exact n1) (by rw [x.N]; exact n3) b2 (by rw [x.sc]; exact n2) (by rw [x.sc]; exact n4) (el_cons b3 q1 (el_cons b4 q2 el_nil)) (swap2 (by rw [x.sc]; exact b0) (by rw [x.sc]; exact n2) (by rw [x.sc]; exact n4) (by simp [noStar, b3, b4]) b5 b6 b7 b8) hse
      · exact ps_no hno
    · cases h
  · split at h
    · rename_i hb
      simp only [Bool.and_eq_true, decide_eq_true_eq, Bool.not_eq_true'] at hb
      obtain ⟨⟨⟨⟨⟨⟨⟨⟨⟨⟨⟨⟨⟨⟨b0, b1⟩, b2⟩, b2a⟩, b2b⟩, b3⟩, b4⟩, b4a⟩, b5⟩, b5a⟩, b6⟩, b6a⟩, b6b⟩, b7⟩, b8⟩ := hb
      simp only [namesB, Bool.and_eq_true, decide_eq_true_eq] at b1
      obtain ⟨⟨n1, n2⟩, ⟨n3, n4⟩, ⟨n5, n6⟩, _⟩ := b1
      obtain ⟨l1, l23, h1, h23, rfl⟩ := o2_ok h
      obtain ⟨l2, l3, h2, h3, rfl⟩ := o2_ok h23
      obtain ⟨g1, g23⟩ := hl.split
      obtain ⟨g2, g3⟩ := g23.split
      intro ρ
      unfold evS
      generalize hfl : Out.thenF _ _ = fl
      rcases thenF_cases hfl with ⟨rs, ρ1, e1, e2⟩ | hno
      · rw [← e2]
        unfold evEs at e1
        obtain ⟨r1, ρa, f1, f2⟩ := bind_ok e1
        obtain ⟨rs2, ρb, f3, f4⟩ := bind_ok f2
        cases f4
        unfold evEs at f3
        obtain ⟨r2, ρc, f5, f6⟩ := bind_ok f3
        obtain ⟨rs3, ρd, f7, f8⟩ := bind_ok f6
        cases f8
        unfold evEs at f7
        obtain ⟨r3, ρe, f9, f10⟩ := bind_ok f7
        obtain ⟨rs4, ρf, f11, f12⟩ := bind_ok f10
        cases f12
        unfold evEs at f11
        cases f11
        have q1 := (hf _ _ _ _ _ _ x h1 g1 _ _ _ f1).1
        have q2 := (hf _ _ _ _ _ _ x h2 g2 _ _ _ f5).1
        have q3 := (hf _ _ _ _ _ _ x h3 g3 _ _ _ f9).1
        cases hse : setEs _ [r1, r2, r3] ρ1 with
        | none => exact ps_no (.inl rfl)
        | some ρ2 =>
          refine s_par3 x.calm hN (by rw [x.N]; exact n1) (by rw [x.N]; exact n3) (by rw [x.N]; exact n5) b2 b2a b2b (by rw [x.sc]; exact n2) (by rw [x.sc]; exact n4) (by rw [x.sc]; exact n6) (el_cons b3 q1 (el_cons b4 q2 (el_cons b4a q3 el_nil))) (swap3 (by rw [x.sc]; exact b0) (by rw [x.sc]; exact n2) (by rw [x.sc]; exact n4) (by rw [x.sc]; exact n6) (by simp [noStar, b3, b4, b4a]) b5 b5a b6 b6a b6b b7 b8) hse
      · exact ps_no hno
    · cases h
  · -- a name takes a list of its own
    split at h
    · rename_i hb
      simp only [Bool.and_eq_true, decide_eq_true_eq] at hb
      obtain ⟨b1, b2⟩ := hb
      obtain ⟨lo1, lo2⟩ := x.loc b2
      intro ρ
      unfold evS
      generalize hfl : Out.thenF _ _ = fl
      rcases thenF_cases hfl with ⟨r, ρ1, e1, e2⟩ | hno
      · rw [← e2]
        cases r with
        | dat d => exact ps_no (.inl rfl)
        | fresh ds =>
          simp only
          cases hse : setE ρ1 _ (.own ds) with
          | none => exact ps_no (.inl rfl)
          | some ρ2 =>
            obtain ⟨z1, z2, rfl⟩ := setE_ok hse
            simp only
            split at h
            · rename_i hsw
              exact set_parts hf x h hl hsw (by rw [x.N]; exact b1) e1 fun ds' hd D σ H t => by cases hd; exact asgO_te z1 z2 t
            · split at h
              · rename_i hok
                exact s_asgO hN (by rw [x.N]; exact b1) lo1 lo2 z1 z2 (hf _ _ _ _ _ _ x h hl _ _ _ e1).1 (ok_swaps x hok)
              · cases h
      · exact ps_no hno
    · cases h
  · split at h
    · rename_i hb
      simp only [Bool.and_eq_true, decide_eq_true_eq] at hb
      obtain ⟨b1, b2⟩ := hb
      obtain ⟨lo1, lo2⟩ := x.loc b2
      intro ρ
      unfold evS
      generalize hfl : Out.thenF _ _ = fl
      rcases ffz_cases hfl with ⟨r, ρ1, e1, e2⟩ | hno
      · rw [← e2]
        simp only [bindT]
        cases hse : setE ρ1 _ (.dat r.frz) with
        | none => exact ps_no (.inl rfl)
        | some ρ2 =>
          obtain ⟨z1, z2, rfl⟩ := setE_ok hse
          simp only
          split at h
          · rename_i hsw
            exact set_parts hf x h hl hsw (by rw [x.N]; exact b1) e1 fun ds' hd D σ H t => by subst hd; exact asg_te (r := .fresh ds') z1 z2 t
          · split at h
            · rename_i hok
              exact s_asg (hf _ _ _ _ _ _ x h hl _ _ _ e1).1 (g_name hN (by rw [x.N]; exact b1) lo1 lo2 z1 z2) (ok_swaps x hok) (stores_no (.inl rfl)) rfl
            · cases h
      · exact ps_no hno
    · cases h
  · split at h
    · rename_i hb
      simp only [Bool.and_eq_true, decide_eq_true_eq, Bool.not_eq_true', Bool.and_eq_false_iff, Bool.or_eq_true] at hb
      obtain ⟨⟨⟨⟨b1, b2⟩, b3⟩, b4⟩, _⟩ := hb
      intro ρ
      unfold evS
      generalize hfl : Out.thenF _ _ = fl
      rcases ffz_cases hfl with ⟨r, ρ1, e1, e2⟩ | hno
      · rw [← e2]
        cases hbt : bindT _ r.frz ρ1 with
        | none => exact ps_no (.inl rfl)
        | some ρ2 =>
          have g1 := chkG_ok x b1 _ _ _ hbt
          have g2 : PG X _ (tG (cn X S) mk false _ ρ1 r.frz ρ2) := pgImp g1 fun v σ H Q ⟨Fb, R, rd, q⟩ => ⟨Fb, R, .inl rd.no, q⟩
          exact s_asg (hf _ _ _ _ _ _ x h hl _ _ _ e1).1 g2 (ok_swaps x b2) (b4.elim stores_no (fun z => stores_cell (by rw [x.sc]; exact z))) b3
      · exact ps_no hno
    · cases h
  · -- xs[k] = e
    split at h
    · rename_i hb
      simp only [Bool.and_eq_true, Bool.not_eq_true'] at hb
      obtain ⟨⟨b1, b2⟩, b3⟩ := hb
      obtain ⟨n1, n2, n3, n4⟩ := x.nmv b1
      obtain ⟨l1, l2, h1, h2, rfl⟩ := o2_ok h
      obtain ⟨g1, g2⟩ := hl.split
      intro ρ
      unfold evS
      generalize hfl : Out.thenF _ _ = fl
      rcases ffz_cases hfl with ⟨r, ρ1, e1, e2⟩ | hno
      · rw [← e2]
        split
        · rename_i hs0
          obtain ⟨xs0, hs1⟩ := Option.isSome_iff_exists.mp hs0
          generalize hfl2 : Out.thenF _ _ = fl2
          rcases ffz_cases hfl2 with ⟨rk, ρ2, e3, e4⟩ | hno
          · rw [← e4]
            split
            · rename_i xs kk q1 q2
              split
              · rename_i j hj
                exact s_setx x.hm n1 n2 n3 n4 b2 b3 (hf _ _ _ _ _ _ x h1 g1 _ _ _ e1).1 hs1 (hf _ _ _ _ _ _ x h2 g2 _ _ _ e3).1 q2 q1 hj
              · exact ps_no (.inl rfl)
            · exact ps_no (.inl rfl)
          · exact ps_no hno
        · exact ps_no (.inl rfl)
      · exact ps_no hno
    · cases h
  · split at h
    · cases h
    · rename_i hb
      intro ρ
      unfold evS
      generalize hfl : Out.thenF _ _ = fl
      rcases thenF_cases hfl with ⟨r, ρ1, e1, e2⟩ | hno
      · rw [← e2]
        exact s_expr (hf _ _ _ _ _ _ x h hl _ _ _ e1).1 (by simpa using hb)
      · exact ps_no hno
  · intro ρ
    unfold evS
    generalize hfl : Out.thenF _ _ = fl
    rcases thenF_cases hfl with ⟨r, ρ1, e1, e2⟩ | hno
    · rw [← e2]
      exact s_ret (hf _ _ _ _ _ _ x h hl _ _ _ e1).1
    · exact ps_no hno
  · intro ρ
    simp only [evS, ev, Out.thenF]
    exact s_retN
  · -- if
    split at h
    · cases h
    · rename_i ht
      simp only [Bool.not_eq_true', Bool.not_eq_false] at ht
      obtain ⟨l1, l23, h1, h23, rfl⟩ := o2_ok h
      obtain ⟨l2, l3, h2, h3, rfl⟩ := o2_ok h23
      obtain ⟨g1, g23⟩ := hl.split
      obtain ⟨g2, g3⟩ := g23.split
      intro ρ
      unfold evS
      generalize hfl : Out.thenF _ _ = fl
      rcases ffz_cases hfl with ⟨r, ρ1, e1, e2⟩ | hno
      · rw [← e2]
        have q := hf _ _ _ _ _ _ x h1 g1 _ _ _ e1
        split
        · rename_i hb; exact s_ifT ((q.2 _ hb).1 ht) (hB h2 g2 ρ1)
        · rename_i hb; exact s_ifF ((q.2 _ hb).1 ht) (hB h3 g3 ρ1)
        · exact ps_no (.inl rfl)
      · exact ps_no hno
  · -- for
    split at h
    · rename_i hb
      obtain ⟨l1, l2, h1, h2, rfl⟩ := o2_ok h
      obtain ⟨g1, g2⟩ := hl.split
      intro ρ
      unfold evS
      generalize hfl : Out.thenF _ _ = fl
      rcases thenF_cases hfl with ⟨items, ρ1, e1, e2⟩ | hno
      · obtain ⟨i1, i2⟩ := chkI_ok hf x h1 g1 e1
        exact s_for (bindT _) (evB Φ W _) pw x.calm x.hm i1 (fun d ρ ρ' hbt => chkG_ok x hb d ρ ρ' hbt) (fun ρ => hB h2 g2 ρ) e2 i2
      · exact ps_no hno
    · cases h
  · -- while
    split at h
    · cases h
    · rename_i ht
      simp only [Bool.not_eq_true', Bool.not_eq_false] at ht
      obtain ⟨l1, l2, h1, h2, rfl⟩ := o2_ok h
      obtain ⟨g1, g2⟩ := hl.split
      intro ρ
      unfold evS
      refine s_while (fun ρ => (ev Φ _ ρ).frz) (evB Φ W _) W pw (fun ρ b ρ' hc => ?_) (fun ρ => hB h2 g2 ρ) rfl
      obtain ⟨r, e1, e2⟩ := frz_ok hc
      exact ((hf _ _ _ _ _ _ x h1 g1 _ _ _ e1).2 b e2.symm).1 ht
  · -- a def
    split at h
    · rename_i id sc hnd
      split at h
      · rename_i hb
        cases h
        simp only [Bool.and_eq_true, decide_eq_true_eq, List.isEmpty_iff] at hb
        obtain ⟨⟨⟨⟨⟨⟨⟨⟨⟨⟨⟨⟨⟨b1, b2⟩, b3⟩, b4⟩, b5⟩, b6⟩, b7⟩, b8⟩, b9⟩, b10⟩, b11⟩, b12⟩, b13⟩, b14⟩ := hb
        subst b2 b3
        obtain ⟨hfn, hq, hmk, A, P, TB, hcode, hin, hu⟩ := x.frame b1
        subst hmk
        have hid := hl _ (List.mem_singleton.mpr rfl)
        obtain ⟨lo1, lo2⟩ := x.loc b9
        intro ρ
        unfold evS
        split
        · exact ps_no (.inl rfl)
        · rename_i hp
          split
          · rename_i hlen
            refine s_defn (nm := c.nm) TB hcode hin (by rw [hq]; exact b4) hu (fun y hy e => ?_) b5 b6 (fnArr (by simp [b10]) (by simp [b11]) b12 b13 b14) hN (by rw [x.N]; exact b8) lo1 lo2 hnd hid (by rw [hq]; rfl) (fun cl c' doc pm ctv => rfl) (by simpa using hp) hlen
            have hm : y.1 ∈ frOf sc := frOf_mem.mpr (by rw [← e]; exact hy)
            have q := List.all_eq_true.mp b7 y.1 hm
            simp only [Bool.and_eq_true, Bool.not_eq_true', decide_eq_false_iff_not] at q
            rw [x.sc]
            rcases vis_by q.1 with z | z | z
            · exact absurd z q.2
            · exact .inl z
            · exact .inr z
          · exact ps_no (.inl rfl)
      · cases h
    · cases h
  · intro ρ; exact s_pass
  · intro ρ; exact s_brk
  · intro ρ; exact s_cont
  · intro ρ; exact ps_no (.inr ⟨_, _, _, rfl⟩)
  · cases h
end
end Ev
set_option Elab.async false
set_option linter.all false
set_option maxRecDepth 100000
set_option maxHeartbeats 4000000
namespace Ev
open PySem PySem.Spec PyProof.Rows L2
section
variable {g : Gs} {S : Sx} {Φ : FV → List Arg → Res} {k W : Nat} {fe : Cc → Expr → E → Fnd} {c : Cc} {X : Cx} {mk : Mkd}
theorem namesC_ok (x : XOk g c X S mk Φ k) : ∀ {ts : List Expr} {is : List (Nat × Bool)}, namesC c ts is = true → NamesAt X ts is
  | [], [], _ => .nil
  | t :: ts, (i, b) :: is, h => by
    unfold namesC at h
    split at h
    · rename_i h1 h2
      cases h1
    · rename_i y p ts' i' b' is' h1 h2
      cases h1
      cases h2
      simp only [Bool.and_eq_true, decide_eq_true_eq] at h
      obtain ⟨⟨a1, a2⟩, a3⟩ := h
      obtain ⟨lo1, lo2⟩ := x.loc a2
      exact .cons (by rw [x.N]; exact a1) lo1 lo2 (namesC_ok x a3)
    · cases h
  | [], _ :: _, h => by simp [namesC] at h
  | t :: _, [], h => by cases t <;> simp [namesC] at h
theorem st2_ok (hf : F1 g S Φ k fe) : F2 g S Φ k W (chkSt2 fe) := by
  intro c X mk st il l x pw h hl
  have hN : X.N.Nodup := by rw [x.N]; exact x.nd
  unfold chkSt2 at h
  split at h
  · split at h
    · rename_i hb
      simp only [Bool.and_eq_true, decide_eq_true_eq] at hb
      obtain ⟨⟨b1, b2⟩, b3⟩ := hb
      intro ρ
      unfold evS
      generalize hfl : Out.thenF _ _ = fl
      rcases thenF_cases hfl with ⟨rs, ρ1, e1, e2⟩ | hno
      · rw [← e2]
        obtain ⟨q1, q2⟩ := chkEs_ok hf x h hl e1
        cases hse : setEs _ rs ρ1 with
        | none => exact ps_no (.inl rfl)
        | some ρ2 => exact s_parC x.hm x.calm hN (namesC_ok x b1) b3 q1 (by rw [x.sc]; exact b2) hse q2
      · exact ps_no hno
    · cases h
  · cases h
end
end Ev
set_option Elab.async false
set_option linter.all false
set_option maxRecDepth 100000
set_option maxHeartbeats 4000000
namespace Ev
open PySem PySem.Spec PyProof.Rows L2
theorem chkS_ok {g : Gs} {S : Sx} {Φ : FV → List Arg → Res} {k W : Nat} : ∀ n, F2 g S Φ k W (chkS g n)
  | 0 => fun c X mk st il l x pw h => by cases h
  | n + 1 => fun c X mk st il l x pw h hl => by
    have h0 : orF (chkSt g (chkE g 60) (chkS g n) c st il) (fun _ => chkSt2 (chkE g 60) c st il) = some l := h
    rcases orF_ok h0 with h | h
    · exact st_ok (chkE_ok 60) (chkS_ok n) c X mk st il l x pw h hl
    · exact st2_ok (chkE_ok 60) c X mk st il l x pw h hl
def KC (K : PySem.W.Frag) (mg : Str → Option Value) (x : Str) (d : D) : Prop := ∃ u v, mg x = some u ∧ L2.RelV v u ∧ ∀ H B, RD K H B v d
/-- what a law's text has to show of a def -/
structure DOk (base : Heap) (K : PySem.W.Frag) (mg : Str → Option Value) (S : Sx) (g : Gs) (f : Str) (ps : List Str) (d : FD) : Prop where
  ex : ∃ (qual : Str) (scope : Scope) (body : List Stmt) (fa : Addr) (cdv : Value) (c : Cc) (l : List LamE), DefF K mg f qual ps c.N scope body fa cdv ∧ d.np = ps.length ∧ d.nl = c.N.length ∧ c.sc = scope ∧ c.N.Nodup ∧ chkB (chkS g 30) c body d.body = some l ∧ LamsOk S l ∧
    (∀ i id sc, c.nd i = some (id, sc) → ∃ L, S.lam id = some L ∧ L.fr = frOf sc) ∧
    (c.fr = true → c.qual = qual ++ ".<locals>." ∧ ∃ a P, LamX.TabB base mg a P ∧ cdv = .ref a ∧ (P, c.nm) ∈ S.T ∧ ∀ p ∈ S.T, p.1 = P → p.2 = c.nm)
/-- .. of a function that a def makes -/
structure LOk (S : Sx) (g : Gs) (id : Nat) (ld : LD) : Prop where
  ex : ∃ (x : LamE) (ps : List Str) (c : Cc) (l : List LamE), S.lam id = some x.li ∧ CloF x.li ld ps c.N x.scope x.params ∧ c.sc = x.scope ∧ c.N.Nodup ∧ (c.fr = false ∧ c.cf = none) ∧ (∀ i, c.nd i = none) ∧ LamsOk S l ∧
    ((∃ e il, x.body = .inl e ∧ x.nm = "<lambda>" ∧ ld.body = [.ret il] ∧ chkE g 60 c e il = some l) ∨ ∃ b, x.body = .inr b ∧ chkB (chkS g 30) c b ld.body = some l)
structure PFacts (base : Heap) (K : PySem.W.Frag) (mg : Str → Option Value) (S : Sx) (G : Prog) (g : Gs) : Prop where
  fns : ∀ f d, G.fns f = some d → ∃ ps, g.sig f = some ps ∧ d.np = ps.length
  glob : ∀ f ps, g.sig f = some ps → ∃ d, G.fns f = some d ∧ DOk base K mg S g f ps d
  lams : ∀ id ld, G.lams id = some ld → LOk S g id ld
  no : ∀ x, noB g x = true → mg x = none
  con : ∀ x d, g.gi x = .con d → KC K mg x d
  gcd : ∀ x, g.gi x = .gcd → mg x = some (.builtin "math.gcd")
section
variable {P : Program} {w : World} {base : Heap} {K : PySem.W.Frag} {mg : Str → Option Value} {S : Sx} {G : Prog} {g : Gs}
theorem pass_own {CX : CXT} {N : List Str} {qual : Str} {scope : Scope} {f : Addr} {cd : Value} {A : Around} {outer : List PySem.Env} {s : Shared} {H : Hp} {E : XK} : PassesOwn (model (cxOf CX P w K mg base N qual scope f cd A outer s H E).prog (cxOf CX P w K mg base N qual scope f cd A outer s H E).w) (cxOf CX P w K mg base N qual scope f cd A outer s H E).A (cxOf CX P w K mg base N qual scope f cd A outer s H E).env (cxOf CX P w K mg base N qual scope f cd A outer s H E).xe :=
  passes_of rfl
theorem pass_ownN {CX : CXT} {N : List Str} {F : NdefX.NF} {f : Addr} {A : Around} {outer : List PySem.Env} {s : Shared} {H : Hp} {E : XK} : PassesOwn (model (NdefX.ncx CX P w K mg base N F f A outer s H E).prog (NdefX.ncx CX P w K mg base N F f A outer s H E).w) (NdefX.ncx CX P w K mg base N F f A outer s H E).A (NdefX.ncx CX P w K mg base N F f A outer s H E).env (NdefX.ncx CX P w K mg base N F f A outer s H E).xe :=
  passes_of rfl
theorem units_ok {X : Cx} {k : Nat} (r : Room k X.A) : X.A.units + 65 < cLine := by
  have := r.un
  omega
theorem def_ok (F : PFacts base K mg S G g) {k : Nat} (hr : Runs P w base ⟨K, mg, S.T, S.lam⟩ (run G k) k g.sig) {f : Str} {ps : List Str} {d : FD} (hd : G.fns f = some d) (D : DOk base K mg S g f ps d) : DefG P w base ⟨K, mg, S.T, S.lam⟩ (run G (k + 1)) (k + 1) f ps := by
  obtain ⟨qual, scope, body, fa, cdv, c, l, DF, np, nl, hsc, hnd, hchk, hl, hndl, hfr⟩ := D.ex
  refine def_run (mk := fun X => mkX X S c.nd) hd np nl DF hr fun A outer s H E cx ρ => ?_
  have x : XOk g c (cxOf CXe P w K mg base c.N qual scope fa cdv A outer s H E) S (mkX (cxOf CXe P w K mg base c.N qual scope fa cdv A outer s H E) S c.nd) (run G k) k := by
    refine ⟨rfl, hnd, hsc.symm, rfl, mkX_ok, mkX_d, cx, units_ok cx.room, F.no, F.con, F.gcd, hndl, fun _ _ => rfl, fun h => ?_⟩
    obtain ⟨h1, a, Pt, h2, h3, h4, h5⟩ := hfr h
    exact ⟨fun _ => rfl, h1.symm, rfl, a, Pt, h2, h3, h4, h5⟩
  exact chkB_ok (fun st il l h hl => chkS_ok 30 c _ _ st il l x pass_own h hl) hchk hl ρ
theorem lam_ok (F : PFacts base K mg S G g) {k : Nat} (hr : Runs P w base ⟨K, mg, S.T, S.lam⟩ (run G k) k g.sig) {id : Nat} {ld : LD} (hd : G.lams id = some ld) (D : LOk S g id ld) : CloR P w base ⟨K, mg, S.T, S.lam⟩ (run G (k + 1)) (k + 1) id := by
  obtain ⟨x, ps, c, l, hid, CF, hsc, hnd, ⟨hfr, hcf⟩, hn, hl, hb⟩ := D.ex
  rcases hb with ⟨e, il, hx, hnm, hbd, hchk⟩ | ⟨b, hx, hchk⟩
  · refine lam_run (body := e) (il := il) hid hd CF hbd (fun cl c' doc pm ctv => ?_) hr fun A outer s H E f c' cl cx ρ r ρ' he => ?_
    · unfold LamE.li
      simp only [hx]
    · have xo : XOk g c (NdefX.ncx CXe P w K mg base c.N ⟨"<lambda>", x.li.qual, x.params, [], x.scope, cl, c'⟩ f A outer s H E) S mk0 (run G k) k :=
        ⟨rfl, hnd, hsc.symm, rfl, mk0_ok, mk0_d, cx, units_ok cx.room, F.no, F.con, F.gcd, fun i id sc h => (by rw [hn i] at h; cases h), fun y h => (by unfold cfB at h; rw [hcf] at h; cases h), fun h => (by rw [hfr] at h; cases h)⟩
      exact (chkE_ok 60 c _ mk0 e il l xo hchk hl ρ r ρ' he).1
  · refine nested_run (name := x.nm) (body := b) hid hd CF (fun cl c' doc pm ctv => ?_) hr fun A outer s H E f c' cl cx ρ => ?_
    · unfold LamE.li
      simp only [hx]
    · have xo : XOk g c (NdefX.ncx CXe P w K mg base c.N ⟨x.nm, x.li.qual, x.params, b, x.scope, cl, c'⟩ f A outer s H E) S mk0 (run G k) k :=
        ⟨rfl, hnd, hsc.symm, rfl, mk0_ok, mk0_d, cx, units_ok cx.room, F.no, F.con, F.gcd, fun i id sc h => (by rw [hn i] at h; cases h), fun y h => (by unfold cfB at h; rw [hcf] at h; cases h), fun h => (by rw [hfr] at h; cases h)⟩
      exact chkB_ok (fun st il l h hl => chkS_ok 30 c _ _ st il l xo pass_ownN h hl) hchk hl ρ
/-- THE THEOREM: what the small language says is what the program does -/
theorem runs_all (F : PFacts base K mg S G g) : ∀ k, Runs P w base ⟨K, mg, S.T, S.lam⟩ (run G k) k g.sig
  | 0 => by
    refine ⟨fun f ps hs => ?_, fun f as r as' h => (by unfold run at h; cases h), fun id caps fa A outer s H us vs Q E _ _ _ _ h => ?_⟩
    · obtain ⟨d, _, D⟩ := F.glob f ps hs
      obtain ⟨qual, scope, body, fa, cdv, c, l, DF, _⟩ := D.ex
      obtain ⟨name, params, oc, kV, doc, pm, ct, an, od, osl, lk, pp⟩ := DF.ex
      refine ⟨fa, PySem.W.fnOf name qual params body scope .none kV doc pm an cdv ct, DF.mg, DF.kp, pp, rfl, DF.nd, fun A outer s H args us vs Q E _ _ _ _ _ _ hsp => ?_⟩
      obtain ⟨Fb, as, r0, as', _, _, hΦ, _⟩ := hsp
      unfold run at hΦ
      cases hΦ
    · obtain ⟨Fb, as, r0, as', _, _, hΦ, _⟩ := h
      unfold run at hΦ
      cases hΦ
  | k + 1 => by
    have hr := runs_all F k
    refine ⟨fun f ps hs => ?_, fun f as r as' h => ?_, fun id caps fa A outer s H us vs Q E h1 h2 h3 h4 h5 => ?_⟩
    · obtain ⟨d, hd, D⟩ := F.glob f ps hs
      exact def_ok F hr hd D
    · unfold run at h
      split at h
      · rename_i d hd
        obtain ⟨ps, h1, h2⟩ := F.fns f d hd
        split at h
        · rename_i hc
          exact ⟨ps, h1, by rw [hc.1, h2]⟩
        · cases h
      · cases h
    · have hid : ∃ ld, G.lams id = some ld := by
        obtain ⟨Fb, as, r0, as', _, _, hΦ, _⟩ := h5
        unfold run at hΦ
        split at hΦ
        · exact ⟨_, by assumption⟩
        · cases hΦ
      obtain ⟨ld, hld⟩ := hid
      exact lam_ok F hr hld (F.lams id ld hld) caps fa A outer s H us vs Q E h1 h2 h3 h4 h5
end
end Ev
set_option Elab.async false
set_option linter.all false
set_option maxRecDepth 100000
set_option maxHeartbeats 4000000
namespace Ev
open PySem PySem.Spec PyProof.Rows L2
/-- the heap's view where the law begins: the tables, and the script if it is not in the text's part -/
def hp0 (T : List Addr) (a : Addr) (u : Option HO) : Hp := fun b => if b ∈ T then some (.tbl #[]) else if b = a then u else none
section
variable {P : Program} {w : World} {K : PySem.W.Frag} {mg mb : Str → Option Value} {s : Shared} {a : Addr} {T : List Addr}
theorem hp0_some {u : Option HO} {b : Addr} {o : HO} (h : hp0 T a u b = some o) : (b ∈ T ∧ o = .tbl #[]) ∨ (b ∉ T ∧ b = a ∧ u = some o) := by
  unfold hp0 at h
  split at h
  · rename_i m
    cases h
    exact .inl ⟨m, rfl⟩
  · rename_i m
    split at h
    · rename_i e
      exact .inr ⟨m, e, h⟩
    · cases h
theorem hp0_tab {u : Option HO} {b : Addr} (m : b ∈ T) : hp0 T a u b = some (.tbl #[]) := if_pos m
abbrev tab0 : Obj := { cls := .none, data := .fields #[] }
abbrev list0 (vs : List Value) : Obj := { cls := .type "list", data := .seq vs.toArray }
theorem law_end {fa : Addr} {cs : List (Addr × Addr)} {vs : List Value} {ns : List Int}
    (hK : K.In s.heap) (hM : s.heap.Ns mainGlobals mg) (hB : s.heap.Ns builtinsNs mb) (hBB : ∀ x : Str, x ≠ "__name__" → mb x = bootBuiltins x) (hL : s.heap.NoLimit) (hG : s.gens = #[])
    (tb : ∀ p ∈ cs, s.heap.get? p.2 = some tab0 ∧ K.lookup p.2 = none ∧ PySem.W.CodeHd s.heap p.1 p.2)
    (bm : ∃ (m : Addr) (o : Obj), mg "__builtins__" = some (.ref m) ∧ m ≠ builtinsNs ∧ s.heap.get? m = some o ∧ o.cls = .type "module" ∧ o.dict = some builtinsNs ∧ o.data = .plain)
    (ha : s.heap.get? a = some (list0 vs)) (hi : IntsAre vs ns) (hn : ns.length ≤ sizeLine)
    (F : ∀ (base : Heap) (H : Hp), K.In base → base.Ns mainGlobals mg → (∀ p ∈ cs, LamX.TabB base mg p.1 p.2) → (∀ p ∈ cs, H p.2 = some (.tbl #[])) → RoL K H a ns → Env0 P w K mg base callerA [] s H →
      codeAny (model P w) callerA (.call (.ref fa) ⟨[.ref a], []⟩) (CR CXe [] P w H s (fun v _ => v = .bl true) (fun _ _ _ => False)) s) :
    codeAny (model P w) callerA (.call (.ref fa) ⟨[.ref a], []⟩) (fun r s' => r = .ok (.ret (.bool true)) ∧ OldK s.heap s'.heap ∧ s'.os = s.os ∧ AllBare s'.gens) s := by
  have rv := vals_ints hi
  have lv := hi.length
  obtain ⟨T, hTd⟩ : ∃ T, T = cs.map (·.2) := ⟨_, rfl⟩
  have tT : ∀ b ∈ T, s.heap.get? b = some tab0 ∧ K.lookup b = none := fun b hb => by
    rw [hTd] at hb
    obtain ⟨p, hp, rfl⟩ := List.mem_map.mp hb
    exact ⟨(tb p hp).1, (tb p hp).2.1⟩
  have mT : ∀ p ∈ cs, p.2 ∈ T := fun p hp => by
    rw [hTd]
    exact List.mem_map.mpr ⟨p, hp, rfl⟩
  have aT : a ∉ T := fun m => by
    have q := (tT a m).1
    rw [ha] at q
    cases congrArg Obj.data (Option.some.inj q)
  obtain ⟨u, hu⟩ : ∃ u : Option HO, u = (match K.lookup a with | some _ => none | none => some (.frz (list0 vs) (.lst (ns.map V.int)))) := ⟨_, rfl⟩
  have uK : ∀ o, u = some o → K.lookup a = none ∧ o = .frz (list0 vs) (.lst (ns.map V.int)) := fun o e => by
    rw [hu] at e
    split at e
    · cases e
    · rename_i q
      cases e
      exact ⟨q, rfl⟩
  have ro : RoL K (hp0 T a u) a ns := by
    cases q : K.lookup a with
    | none =>
      refine .inl ⟨list0 vs, ?_⟩
      unfold hp0
      rw [if_neg aT, if_pos rfl, hu, q]
    | some o =>
      have e := hK a o q
      rw [ha] at e
      cases e
      exact .inr fun H' => .inr ⟨_, vs.toArray, _, q, rfl, rfl, rfl, by rw [List.size_toArray, lv]; exact hn, by simpa using rv⟩
  have ok : HOk P w (hp0 T a u) s.heap := fun b o z => by
    rcases hp0_some z with ⟨m, rfl⟩ | ⟨_, rfl, e⟩
    · exact (tT b m).1
    · obtain ⟨_, rfl⟩ := uK o e
      exact ⟨ha, by rw [List.length_map]; exact hn, vs, _, rv, ha⟩
  -- what is neither a table nor a list is not in view
  have free : ∀ {b : Addr} {o : Obj}, s.heap.get? b = some o → (∀ xs n, o.data = .seq xs n → False) → (o.data = .fields #[] → False) → hp0 T a u b = none := fun {b o} e h1 h2 => by
    cases q : hp0 T a u b with
    | none => rfl
    | some y =>
      rcases hp0_some q with ⟨m, _⟩ | ⟨_, rfl, _⟩
      · rw [(tT b m).1] at e
        cases e
        exact (h2 rfl).elim
      · rw [ha] at e
        cases e
        exact (h1 _ _ rfl).elim
  have freeD : ∀ {b : Addr} {o : Obj} {es : Array DictEntry} {n : Nat}, s.heap.get? b = some o → o.data = .dict es n → hp0 T a u b = none := fun {b o es n} e d =>
    free e (fun xs n z => by rw [d] at z; cases z) fun z => by rw [d] at z; cases z
  have nsB : ∀ {b : Addr} {m : Str → Option Value}, s.heap.Ns b m → (hidT s.heap (hp0 T a u)).Ns b m := fun {b m} ⟨o, es, n, e, d, r⟩ => ⟨o, es, n, hidT_get e (freeD e d), d, r⟩
  have kB : K.In (hidT s.heap (hp0 T a u)) := fun b o e => by
    refine hidT_get (hK b o e) ?_
    cases q : hp0 T a u b with
    | none => rfl
    | some y =>
      rcases hp0_some q with ⟨m, _⟩ | ⟨_, rfl, z⟩
      · rw [(tT b m).2] at e
        cases e
      · rw [(uK y z).1] at e
        cases e
  have gT : ∀ b ∈ T, mainGlobals ≠ b := fun b m z => by
    obtain ⟨o, es, n, e, d, _⟩ := hM
    rw [z, (tT b m).1] at e
    cases e
    cases d
  have tB : ∀ p ∈ cs, LamX.TabB (hidT s.heap (hp0 T a u)) mg p.1 p.2 := fun p hp => by
    obtain ⟨h1, h2, o, us, file, tf, flags, tg, inF, text, tt, e1, r1, r2, r3, r4⟩ := tb p hp
    obtain ⟨m, ob, b1, b2, b3, b4, b5, b6⟩ := bm
    refine ⟨⟨o, us, file, tf, flags, tg, inF, text, tt, hidT_get e1 (free e1 (fun xs n z => ?_) fun z => ?_), r1, r2, r3, r4⟩, ⟨m, ob, b1, b2, fun z => ?_, fun z => ?_, hidT_get b3 (free b3 (fun xs n z => ?_) fun z => ?_), b4, b5, b6⟩, gT _ (mT p hp)⟩
    · rw [r2] at z
      cases z
    · rw [r2] at z
      cases z
      simp at r3
    · obtain ⟨o', es, n, e, d, _⟩ := hM
      rw [← z, b3] at e
      cases e
      rw [b6] at d
      cases d
    · rw [z, h1] at b3
      cases b3
      cases b6
    · rw [b6] at z
      cases z
    · rw [b6] at z
      cases z
  have e0 : Env0 P w K mg (hidT s.heap (hp0 T a u)) callerA [] s (hp0 T a u) :=
    ⟨rfl, ⟨kB, nsB hM, ⟨mb, nsB hB, hBB⟩, let ⟨mc, h1, h2⟩ := hL; ⟨mc, nsB h1, h2⟩⟩, fun b o e => of_hidT e, Nat.le_of_eq (hidT_size _ _), trivial, fun b hb => absurd (show b ∈ ([] : List Addr) from hb) (by simp), ok, .of_eq hG⟩
  refine codeAny_mono (F _ _ kB (nsB hM) tB (fun p hp => hp0_tab (mT p hp)) ro e0) fun r s' h => ?_
  rcases r with e | fl
  · exact False.elim h
  cases fl with
  | next => exact False.elim h
  | brk => exact False.elim h
  | cont => exact False.elim h
  | ret x =>
    obtain ⟨v, H', os, bare, un, ok', r', q⟩ := h
    have q' : v = .bl true := q
    subst q'
    obtain rfl : x = Value.bool true := r'
    have old : ∀ b o, b ∉ T → s.heap.get? b = some o → s'.heap.get? b = some o := fun b o nb e => by
      cases q : hp0 T a u b with
      | none => exact un.keep b o e q (by intro z; exact absurd (show b ∈ ([] : List Addr) from z) (by simp)) (by simp)
      | some y =>
        rcases hp0_some q with ⟨m, _⟩ | ⟨_, rfl, z⟩
        · exact absurd m nb
        · obtain ⟨_, rfl⟩ := uK y z
          obtain ⟨e1, _⟩ := ok _ _ q
          obtain ⟨e2, _⟩ := ok' _ _ (un.frzs _ _ _ q)
          rw [e] at e1
          cases e1
          exact e2
    have gr : ∀ p ∈ cs, ∃ more : Array Value, s'.heap.get? p.2 = some { cls := .none, data := .fields more } := fun p hp => by
      obtain ⟨more, z⟩ := un.tbls p.2 #[] (hp0_tab (mT p hp))
      exact ⟨_, ok' p.2 _ z⟩
    refine ⟨rfl, ⟨fun b o e => ?_, fun b o e => ?_⟩, os, bare⟩
    · by_cases m : b ∈ T
      · rw [hTd] at m
        obtain ⟨p, hp, rfl⟩ := List.mem_map.mp m
        obtain ⟨h1, _, h3⟩ := tb p hp
        obtain ⟨more, hm⟩ := gr p hp
        rw [h1] at e
        cases e
        exact .inr (.inl ⟨(h3.tab h1).isCodeTable, rfl, #[], more, rfl, by rw [Array.empty_append]; exact hm⟩)
      · exact .inl (old b o m e)
    · by_cases m : b ∈ T
      · rw [hTd] at m
        obtain ⟨p, hp, rfl⟩ := List.mem_map.mp m
        obtain ⟨more, hm⟩ := gr p hp
        exact ⟨_, hm⟩
      · exact ⟨o, old b o m e⟩
end
end Ev
set_option Elab.async false
set_option linter.all false
set_option maxRecDepth 100000
set_option maxHeartbeats 4000000
namespace Ev
open PySem PySem.Spec PyProof.Rows L2
/-- what a law's text has to show at the head's heap -/
structure LawText (K : PySem.W.Frag) (mg : Str → Option Value) (h : Heap) (n k : Nat) : Prop where
  ex : ∃ (cs : List (Addr × Addr)) (S : Sx) (G : Prog) (g : Gs), (∀ p ∈ cs, h.get? p.2 = some tab0 ∧ K.lookup p.2 = none ∧ PySem.W.CodeHd h p.1 p.2) ∧ (∀ t ∈ S.T, ∃ c, (c, t.1) ∈ cs) ∧ g.sig "law" = some [("script" : Str)] ∧
    (∀ base : Heap, K.In base → base.Ns mainGlobals mg → (∀ p ∈ cs, LamX.TabB base mg p.1 p.2) → PFacts base K mg S G g) ∧
    ∀ ns : List Int, ns.length ≤ n → (∀ z ∈ ns, Builtin.Int.intBits z ≤ 1048576) → ∃ as', run G k (.glob "law") [.ro ns] = .ok (.dat (.bool true)) as'
theorem rel_script {C : Cn} {H : Hp} {a : Addr} {ns : List Int} (h : RoL C.K H a ns) (hT : ∀ t ∈ C.T, H t.1 = some (.tbl #[])) : Rel C mk0 (fun _ => False) (aenv [.ro ns]) ([V.ref a].map some) H := by
  have z : ∀ (i : Nat) (s : SV), (aenv [.ro ns])[i]? = some (some s) → i = 0 ∧ s = .ro ns := fun i s e => by
    cases i with
    | zero => exact ⟨rfl, (Option.some.inj (Option.some.inj e)).symm⟩
    | succ i => cases e
  have m : ∀ i : Nat, mutOf (aenv [.ro ns])[i]? = none := fun i => by
    cases i with
    | zero => rfl
    | succ i => rfl
  refine ⟨rfl, fun b hb => hb.elim, fun i s e hs => ?_, fun i ds e => ?_, fun i j b e => ?_, fun i xs e => ?_, fun i e => ?_, fun t ht => ?_⟩
  · obtain ⟨_, rfl⟩ := z i s e
    rcases hs with ⟨d, hs⟩ | ⟨F, hs⟩ <;> cases hs
  · rw [m i] at e
    cases e
  · exact absurd (m i) e
  · obtain ⟨rfl, e2⟩ := z i _ e
    cases e2
    exact ⟨a, rfl, h⟩
  · obtain ⟨_, e2⟩ := z i _ e
    cases e2
  · exact ⟨#[], hT t ht, trivial, fun pos cv e => by cases e⟩
theorem law_walk {l : PySem.W.OpenLaw} {n k : Nat} {q : Program} {loose : List Str} {XP : (Str → Option Value) → Heap → Prop} {YP : World → Heap → Prop} {d : DefRec} {K : Params → PySem.W.Frag}
    (hn : l.most = some n) (hs : n ≤ sizeLine) (hdf : d.params.defaults = []) (hd : d.name = "law") (hr : Room k callerA) (hY : ∀ (w : World) (h : Heap), YP w h → (K w.params).In h)
    (F : ∀ (w : World) (mg : Str → Option Value) (h : Heap), YP w h → (K w.params).In h → h.Ns mainGlobals mg → LawText (K w.params) mg h n k) :
    PySem.W.WalkO q loose XP YP l.row.toRowW d [] (fun f vs => PySem.call f vs) := by
  refine Att.attach_callB hn hdf fun w s0 s mg mb fa o pm cd doc a vs ns G Y ho hdd hcd hmg hobj hints hlen hbits hg => ?_
  have KX := hY w _ Y
  obtain ⟨cs, S, Gp, g, h1, h2, h3, h4, h5⟩ := (F w mg _ Y KX G.T.g).ex
  refine law_end KX G.T.g G.T.b G.T.builtins G.T.nolimit hg h1 G.T.bmain hobj hints (Nat.le_trans hlen hs) fun base H kb nb tb hH hS e0 => ?_
  obtain ⟨fb, fd, m1, m2, m3, m4, m5, m6⟩ := (runs_all (P := l.prog) (w := w) (h4 base kb nb tb) k).glob "law" ["script"] h3
  rw [hd] at hmg
  have m1' : mg "law" = some (.ref fb) := m1
  rw [hmg] at m1'
  cases m1'
  obtain ⟨as', hrun⟩ := h5 ns hlen hbits
  have R : Rel ⟨K w.params, mg, S.T, S.lam⟩ mk0 (fun _ => False) (aenv [.ro ns]) ([V.ref a].map some) H := rel_script hS fun t ht => by
    obtain ⟨c, hc⟩ := h2 t ht
    exact hH _ hc
  refine m6 callerA [] s H ⟨[.ref a], []⟩ [.ref a] [.ref a] _ _ hr rfl e0 (.of_eq (bind_pos m3 m4 m5 rfl)) (.cons rfl .nil) rfl ?_
  refine ⟨fun _ => False, [.ro ns], _, as', R, .glob m1 m2, hrun, fun v H' e => ?_⟩
  have val : RD _ H' _ v (.bool true) := e.val
  cases val
  rfl
end Ev
set_option Elab.async false
set_option linter.all false
set_option maxRecDepth 100000
set_option maxHeartbeats 4000000
namespace Ev
open PySem PySem.Spec PyProof.Rows L2
/-- arguments that are names alone -/
def plainB (a : Arguments) (ps : List Str) : Bool := a.posonlyargs.isEmpty && a.kwonlyargs.isEmpty && a.vararg.isNone && a.kwarg.isNone && decide (a.args.map (·.arg) = ps)
theorem plain_by {a : Arguments} {ps : List Str} (h : plainB a ps = true) : PlainP a ps := by
  unfold plainB at h
  simp only [Bool.and_eq_true, List.isEmpty_iff, Option.isNone_iff_eq_none, decide_eq_true_eq] at h
  obtain ⟨⟨⟨⟨h1, h2⟩, h3⟩, h4⟩, h5⟩ := h
  exact ⟨h1, h5, h3, h2, h4⟩
/-- what can be decided of a def -/
def defB (st : Stmt) (c : Cc) (ps : List Str) (d : FD) : Bool := plainB (C8.fnArgs st) ps && C8.scC c.N ps (C8.fnScope st) && decide ps.Nodup && decide c.N.Nodup && decide (d.np = ps.length) && decide (d.nl = c.N.length)
theorem dok {base h : Heap} {K : PySem.W.Frag} {mg : Str → Option Value} {S : Sx} {g : Gs} {f : Str} {ps : List Str} {d : FD} {st : Stmt} {c : Cc} {l : List LamE} {fa : Addr} {oc kV dc pm cd ct : Value} {od an : Option Addr} {sl : Array (Option Value)}
    (X : K.In h) (M : h.Ns mainGlobals mg) (a1 : PySem.W.nsIn K mainGlobals f = some (some (.ref fa))) (l1 : K.lookup fa = some ⟨oc, od, .func (PySem.W.fnOf f f (C8.fnArgs st) (C8.fnBody st) (C8.fnScope st) .none kV dc pm an cd ct), sl⟩)
    (c1 : PySem.W.codeIn K cd f = true) (k1 : PySem.W.keepIn K (.ref fa) = true) (hb : defB st c ps d = true) (hsc : c.sc = C8.fnScope st) (hchk : chkB (chkS g 30) c (C8.fnBody st) d.body = some l) (hl : LamsOk S l)
    (hn : ∀ i id sc, c.nd i = some (id, sc) → ∃ L, S.lam id = some L ∧ L.fr = frOf sc) (hf : c.fr = true → c.qual = f ++ ".<locals>." ∧ ∃ a P, LamX.TabB base mg a P ∧ cd = .ref a ∧ (P, c.nm) ∈ S.T ∧ ∀ p ∈ S.T, p.1 = P → p.2 = c.nm) :
    DOk base K mg S g f ps d := by
  unfold defB at hb
  simp only [Bool.and_eq_true, decide_eq_true_eq] at hb
  obtain ⟨⟨⟨⟨⟨b0, b1⟩, b2⟩, b3⟩, b4⟩, b5⟩ := hb
  exact ⟨⟨f, C8.fnScope st, C8.fnBody st, fa, cd, c, l, ⟨⟨f, C8.fnArgs st, oc, kV, dc, pm, ct, an, od, sl, l1, plain_by b0⟩, PySem.W.mg_of X M a1, k1, c1, b2, C8.fnScope_by b1⟩, b4, b5, hsc, b3, hchk, hl, hn, hf⟩⟩
/-- what can be decided of a lambda or a nested def -/
def lokB (x : LamE) (c : Cc) (ps : List Str) (d : LD) : Bool := plainB x.params ps && decide ps.Nodup && NdefX.nscB c.N ps (frOf x.scope) x.scope && decide (d.np = ps.length) && decide (d.nc = (frOf x.scope).length) && decide (d.nl = c.N.length) && !c.fr && c.cf.isNone && decide c.N.Nodup
theorem lokB_ok {x : LamE} {c : Cc} {ps : List Str} {d : LD} (h : lokB x c ps d = true) : CloF x.li d ps c.N x.scope x.params ∧ (c.fr = false ∧ c.cf = none) ∧ c.N.Nodup := by
  unfold lokB at h
  simp only [Bool.and_eq_true, decide_eq_true_eq, Bool.not_eq_true'] at h
  obtain ⟨⟨⟨⟨⟨⟨⟨⟨b1, b2⟩, b3⟩, b4⟩, b5⟩, b6⟩, b7⟩, b9⟩, b8⟩ := h
  exact ⟨⟨plain_by b1, b2, NdefX.nscope_by b3, b4, b5, b6⟩, ⟨b7, Option.isNone_iff_eq_none.mp b9⟩, b8⟩
theorem lok_lam {S : Sx} {g : Gs} {id : Nat} {x : LamE} {c : Cc} {ps : List Str} {d : LD} {e : Expr} {il : E} {l : List LamE} (hS : S.lam id = some x.li) (hb : lokB x c ps d = true) (hsc : c.sc = x.scope) (hn : ∀ i, c.nd i = none) (hx : x.body = .inl e) (hm : x.nm = "<lambda>") (hd : d.body = [.ret il])
    (hchk : chkE g 60 c e il = some l) (hl : LamsOk S l) : LOk S g id d := by
  obtain ⟨h1, h2, h3⟩ := lokB_ok hb
  exact ⟨⟨x, ps, c, l, hS, h1, hsc, h3, h2, hn, hl, .inl ⟨e, il, hx, hm, hd, hchk⟩⟩⟩
theorem lok_def {S : Sx} {g : Gs} {id : Nat} {x : LamE} {c : Cc} {ps : List Str} {d : LD} {b : List Stmt} {l : List LamE} (hS : S.lam id = some x.li) (hb : lokB x c ps d = true) (hsc : c.sc = x.scope) (hn : ∀ i, c.nd i = none) (hx : x.body = .inr b)
    (hchk : chkB (chkS g 30) c b d.body = some l) (hl : LamsOk S l) : LOk S g id d := by
  obtain ⟨h1, h2, h3⟩ := lokB_ok hb
  exact ⟨⟨x, ps, c, l, hS, h1, hsc, h3, h2, hn, hl, .inr ⟨b, hx, hchk⟩⟩⟩
end Ev
set_option Elab.async false
set_option linter.all false
set_option maxRecDepth 100000
set_option maxHeartbeats 4000000
namespace Ev
open PySem PySem.Spec PyProof.Rows L2
/-! ### a law's text, all by decision -/
/-- a def of the text -/
structure Row where
  f : Str
  ps : List Str
  N : List Str
  d : FD
  fr : Bool
  nds : List (Nat × Nat × Str)
/-- a lambda or a nested def -/
structure LRow where
  id : Nat
  ps : List Str
  N : List Str
  d : LD
/-- the text -/
structure Txt where
  p : Program
  rows : List Row
  lrows : List LRow
  cons : List (Str × D)
  nos : List Str
  gcd : Bool
  nm : Nat → Nat → Str
def scIn (body : List Stmt) (n : Str) : Scope := C8.fnScope ((body.find? fun s => match s with | .FunctionDef x _ _ _ _ _ _ _ _ _ => decide (x = n) | _ => false).getD (.Pass ⟨0, 0, 0, 0⟩))
namespace Txt
variable (T : Txt)
def rec? (f : Str) : Option DefRec := (recsOf T.p).find? fun d => d.name == f
def gi (x : Str) : GI := match T.cons.find? fun c => decide (c.1 = x) with
  | some c => .con c.2
  | none => if T.gcd && decide (x = "gcd") then .gcd else if decide (x ∈ T.nos) then .no else .other
def sig (f : Str) : Option (List Str) := (T.rows.find? fun r => decide (r.f = f)).map (·.ps)
def g : Gs := ⟨T.gi, T.sig⟩
def nd (r : Row) (body : List Stmt) (i : Nat) : Option (Nat × Scope) := (r.nds.find? fun t => decide (t.1 = i)).map fun t => (t.2.1, scIn body t.2.2)
def cc (r : Row) (d : DefRec) : Cc := ⟨r.N, d.scope, r.fr, r.f ++ ".<locals>.", T.nm, nd r d.body, none⟩
def fnd (r : Row) : Fnd := match T.rec? r.f with
  | some d => chkB (chkS T.g 30) (T.cc r d) d.body r.d.body
  | none => none
def lams : List LamE := T.rows.flatMap fun r => (T.fnd r).getD []
def lam? (id : Nat) : Option LamE := T.lams.find? fun x => decide (x.id = id)
def rowB (r : Row) : Bool := match T.rec? r.f with
  | some d => plainB d.params r.ps && C8.scC r.N r.ps d.scope && decide r.ps.Nodup && decide r.N.Nodup && decide (r.d.np = r.ps.length) && decide (r.d.nl = r.N.length) && (T.fnd r).isSome &&
      r.nds.all fun t => match T.lam? t.2.1 with
        | some x => decide (frOf x.scope = frOf (scIn d.body t.2.2))
        | none => false
  | none => false
def lcc (r : LRow) (x : LamE) : Cc := ⟨r.N, x.scope, false, "", fun _ _ => "", fun _ => none, none⟩
def lrowB (r : LRow) : Bool := match T.lam? r.id with
  | some x => lokB x (lcc r x) r.ps r.d && (match x.body, r.d.body with
      | .inl e, [.ret il] => decide (x.nm = "<lambda>") && (match chkE T.g 60 (lcc r x) e il with
        | some l => l.isEmpty
        | none => false)
      | .inr b, bd => (match chkB (chkS T.g 30) (lcc r x) b bd with
        | some l => l.isEmpty
        | none => false)
      | _, _ => false)
  | none => false
def okB : Bool := T.rows.all T.rowB && T.lrows.all T.lrowB && decide (T.lams.map (·.id)).Nodup
/-! what the heap's part says -/
def entB (K : PySem.W.Frag) (f : Str) : Bool := match PySem.W.nsIn K mainGlobals f with
  | some (some (.ref a)) => (match K.lookup a with
    | some ⟨_, _, .func fd, _⟩ => PySem.W.codeIn K fd.code f && PySem.W.keepIn K (.ref a)
    | _ => false)
  | _ => false
def noneB (K : PySem.W.Frag) (x : Str) : Bool := match PySem.W.nsIn K mainGlobals x with
  | some none => true
  | _ => false
def flatVB : Value → D → Bool
  | .none, .none => true
  | .bool a, .bool b => a == b
  | .int a _, .int b => a == b
  | .str a _, .str b => decide (a = b)
  | _, _ => false
def flatsB : List Value → List D → Bool
  | [], [] => true
  | v :: vs, d :: ds => flatVB v d && flatsB vs ds
  | _, _ => false
def conB (K : PySem.W.Frag) (x : Str) (d : D) : Bool := match PySem.W.nsIn K mainGlobals x with
  | some (some (.ref a)) => (match K.lookup a, d with
    | some ⟨.type c, _, .seq vs _, _⟩, .tuple ds => c == "tuple" && decide (ds.length ≤ 1000) && flatsB vs.toList ds
    | _, _ => false)
  | some (some v) => flatVB v d
  | _ => false
def gcdB (K : PySem.W.Frag) : Bool := match PySem.W.nsIn K mainGlobals "gcd" with
  | some (some (.builtin c)) => c == "math.gcd"
  | _ => false
def heapB (K : PySem.W.Frag) : Bool := (T.rows.all fun r => entB K r.f) && (T.nos.all (noneB K)) && (T.cons.all fun c => conB K c.1 c.2) && (!T.gcd || gcdB K) && PySem.W.noTabs K
end Txt
section
variable {K : PySem.W.Frag} {h base : Heap} {mg : Str → Option Value} {T : Txt}
theorem flatV_ok {v : Value} {d : D} (e : Txt.flatVB v d = true) : ∃ u, L2.RelV u v ∧ flatD d = true ∧ ∀ H B, RD K H B u d := by
  cases v <;> cases d <;> simp [Txt.flatVB] at e
  · exact ⟨.non, rfl, rfl, fun _ _ => .non⟩
  · subst e
    exact ⟨.bl _, rfl, rfl, fun _ _ => .bl _⟩
  · subst e
    exact ⟨.int _, ⟨_, rfl⟩, rfl, fun _ _ => .int _⟩
  · subst e
    exact ⟨.str _, ⟨_, rfl⟩, rfl, fun _ _ => .str _⟩
end
section
variable {K : PySem.W.Frag} {h base : Heap} {mg mb : Str → Option Value} {T : Txt}
theorem flats_ok : ∀ {vs : List Value} {ds : List D}, Txt.flatsB vs ds = true → ∃ us, L2.Vals us vs ∧ ds.all flatD = true ∧ ds.length = vs.length ∧ ∀ H B, RDs K H B us ds
  | [], [], _ => ⟨[], .nil, rfl, rfl, fun _ _ => .nil⟩
  | v :: vs, d :: ds, e => by
    simp only [Txt.flatsB, Bool.and_eq_true] at e
    obtain ⟨u, h1, h2, h3⟩ := flatV_ok (K := K) e.1
    obtain ⟨us, g1, g2, g3, g4⟩ := flats_ok e.2
    exact ⟨u :: us, .cons h1 g1, by simp [h2, g2], by simp [g3], fun H B => .cons (h3 H B) (g4 H B)⟩
  | [], _ :: _, e => by simp [Txt.flatsB] at e
  | _ :: _, [], e => by simp [Txt.flatsB] at e
theorem con_ok (X : K.In h) (M : h.Ns mainGlobals mg) {x : Str} {d : D} (e : Txt.conB K x d = true) : KC K mg x d := by
  unfold Txt.conB at e
  split at e
  · rename_i a ha
    split at e
    · rename_i c od vs n sl ds hl
      simp only [Bool.and_eq_true, decide_eq_true_eq, beq_iff_eq] at e
      obtain ⟨⟨rfl, e2⟩, e3⟩ := e
      obtain ⟨us, g1, g2, g3, g4⟩ := flats_ok (K := K) e3
      refine ⟨.ref a, .ref a, PySem.W.mg_of X M ha, rfl, fun H B => .tup (.inl ⟨g2, .inr ⟨_, vs, n, hl, rfl, rfl, ?_, g1⟩⟩) (g4 H B)⟩
      have : vs.size = ds.length := by rw [g3, Array.length_toList]
      rw [this]
      exact Nat.le_trans e2 (by decide)
    · cases e
  · rename_i v _ hv
    obtain ⟨u, h1, h2, h3⟩ := flatV_ok (K := K) e
    exact ⟨v, u, PySem.W.mg_of X M hv, h1, h3⟩
  · cases e
theorem none_ok (X : K.In h) (M : h.Ns mainGlobals mg) {x : Str} (e : Txt.noneB K x = true) : mg x = none := by
  unfold Txt.noneB at e
  split at e
  · rename_i hn
    exact PySem.W.mg_none_of X M hn
  · cases e
theorem gcd_ok (X : K.In h) (M : h.Ns mainGlobals mg) (e : Txt.gcdB K = true) : mg "gcd" = some (.builtin "math.gcd") := by
  unfold Txt.gcdB at e
  split at e
  · rename_i c hn
    rw [beq_iff_eq] at e
    subst e
    exact PySem.W.mg_of X M hn
  · cases e
/-- what is known of a def's function object, and of its code's table -/
def DefAt (T : Txt) (K : PySem.W.Frag) (mg : Str → Option Value) (h : Heap) (r : Row) (d : DefRec) (p : Addr × Addr) : Prop :=
  ∃ (fa : Addr) (oc kV doc pm ct : Value) (an od : Option Addr) (osl : Array (Option Value)), K.lookup fa = some ⟨oc, od, .func (PySem.W.fnOf r.f r.f d.params d.body d.scope .none kV doc pm an (.ref p.1) ct), osl⟩ ∧ mg r.f = some (.ref fa) ∧ PySem.W.keepIn K (.ref fa) = true ∧ PySem.W.codeIn K (.ref p.1) r.f = true ∧
    h.get? p.2 = some tab0 ∧ K.lookup p.2 = none ∧ PySem.W.CodeHd h p.1 p.2
theorem noTab_of (X : K.In h) (hK : PySem.W.noTabs K = true) {P : Addr} (hP : h.get? P = some tab0) : K.lookup P = none := by
  cases e : K.lookup P with
  | none => rfl
  | some o =>
    have h1 := X _ _ e
    rw [hP] at h1
    cases h1
    have h2 := List.all_eq_true.mp hK _ (PySem.W.mem_of_lookupK e)
    exact absurd (show false = true from h2) Bool.false_ne_true
theorem def_at {q : Program} {loose : List Str} {mean : ExcName → Option Value} (X : K.In h) (Tp : Top q loose mean mg mb h) (hK : PySem.W.noTabs K = true) {r : Row} {d : DefRec} (hd : (recsOf q).find? (fun d => d.name == r.f) = some d) (he : Txt.entB K r.f = true) : ∃ p, DefAt T K mg h r d p := by
  have hm := List.mem_of_find?_eq_some hd
  have hn : d.name = r.f := beq_iff_eq.mp (List.find?_some (p := fun e : DefRec => e.name == r.f) hd)
  unfold Txt.entB at he
  split at he
  · rename_i a ha
    split at he
    · rename_i oc od fd sl hl
      simp only [Bool.and_eq_true] at he
      have m1 := PySem.W.mg_of X Tp.g ha
      obtain ⟨a1, o1, pm, code, doc, f1, f2, f3, f4⟩ := Tp.fn d hm
      obtain ⟨a2, o2, fd2, c, P, g1, g2, g3, g4, g5, g6⟩ := Tp.tab d hm
      rw [hn, m1] at f1 g1
      cases f1
      cases g1
      have x1 := X _ _ hl
      rw [x1] at f2 g2
      cases f2
      cases g2
      cases g3
      cases f3
      have ec : code = .ref c := g4
      subst ec
      have hc := PySem.W.CodeHd.of g5 g6
      have hP : h.get? P = some tab0 := g6.2
      rw [hn] at hl
      exact ⟨(c, P), a, oc, .none, doc, pm, _, _, od, sl, hl, m1, he.2, he.1, hP, noTab_of X hK hP, hc⟩
    · cases he
  · cases he
theorem pick {α β : Type} {φ : α → β → Prop} : ∀ {l : List α}, (∀ a ∈ l, ∃ b, φ a b) → ∃ bs : List β, (∀ a ∈ l, ∃ b ∈ bs, φ a b) ∧ ∀ b ∈ bs, ∃ a ∈ l, φ a b
  | [], _ => ⟨[], by simp, by simp⟩
  | a :: l, h => by
    obtain ⟨b, hb⟩ := h a (.head _)
    obtain ⟨bs, h1, h2⟩ := pick fun a ha => h a (.tail _ ha)
    refine ⟨b :: bs, fun a' ha' => ?_, fun b' hb' => ?_⟩
    · rcases List.mem_cons.mp ha' with rfl | ha'
      · exact ⟨b, .head _, hb⟩
      · obtain ⟨b', hb', h3⟩ := h1 a' ha'
        exact ⟨b', .tail _ hb', h3⟩
    · rcases List.mem_cons.mp hb' with rfl | hb'
      · exact ⟨a, .head _, hb⟩
      · obtain ⟨a', ha', h3⟩ := h2 b' hb'
        exact ⟨a', .tail _ ha', h3⟩
theorem lam_find {T : Txt} (hnd : (T.lams.map (·.id)).Nodup) {x : LamE} (hx : x ∈ T.lams) : T.lam? x.id = some x := by
  unfold Txt.lam?
  generalize T.lams = l at hnd hx
  induction l with
  | nil => cases hx
  | cons y l ih =>
    simp only [List.map_cons, List.nodup_cons] at hnd
    by_cases e : y.id = x.id
    · rcases List.mem_cons.mp hx with rfl | hl
      · simp
      · exact absurd (e ▸ List.mem_map_of_mem hl) hnd.1
    · rcases List.mem_cons.mp hx with rfl | hl
      · exact absurd rfl e
      · rw [List.find?_cons_of_neg (by simpa using e)]
        exact ih hnd.2 hl
theorem text_ok {q : Program} {loose : List Str} {mean : ExcName → Option Value} {G : Prog} (X : K.In h) (Tp : Top q loose mean mg mb h)
    (hq : (T.rows.map fun r => (recsOf q).find? fun d => d.name == r.f) = T.rows.map fun r => T.rec? r.f) (hok : T.okB = true) (hh : T.heapB K = true)
    (hG : G.fns = fun f => (T.rows.find? fun r => decide (r.f = f)).map (·.d)) (hL : G.lams = fun i => (T.lrows.find? fun r => decide (r.id = i)).map (·.d)) :
    ∃ (cs : List (Addr × Addr)) (S : Sx), (∀ p ∈ cs, h.get? p.2 = some tab0 ∧ K.lookup p.2 = none ∧ PySem.W.CodeHd h p.1 p.2) ∧ (∀ t ∈ S.T, ∃ c, (c, t.1) ∈ cs) ∧
      ∀ base : Heap, K.In base → base.Ns mainGlobals mg → (∀ p ∈ cs, LamX.TabB base mg p.1 p.2) → PFacts base K mg S G T.g := by
  simp only [Txt.okB, Bool.and_eq_true, decide_eq_true_eq, List.all_eq_true] at hok
  obtain ⟨⟨hrows, hlrows⟩, hnd⟩ := hok
  simp only [Txt.heapB, Bool.and_eq_true, List.all_eq_true] at hh
  obtain ⟨⟨⟨⟨h1, h2⟩, h3⟩, h4⟩, h5⟩ := hh
  have hrec : ∀ r ∈ T.rows, (recsOf q).find? (fun d => d.name == r.f) = T.rec? r.f := fun r hr => List.map_inj_left.mp hq r hr
  have hdef : ∀ r ∈ T.rows, ∃ p : Addr × Addr, ∃ d, T.rec? r.f = some d ∧ DefAt T K mg h r d p := fun r hr => by
    have hb := hrows r hr
    unfold Txt.rowB at hb
    split at hb
    · rename_i d hd
      obtain ⟨p, hp⟩ := def_at (T := T) X Tp h5 ((hrec r hr).trans hd) (h1 r hr)
      exact ⟨p, d, hd, hp⟩
    · cases hb
  obtain ⟨cs, c1, c2⟩ := pick hdef
  refine ⟨cs, ⟨cs.map fun p => (p.2, T.nm), fun id => (T.lam? id).map LamE.li⟩, fun p hp => ?_, fun t ht => ?_, fun base kb nb tb => ?_⟩
  · obtain ⟨r, _, d, _, fa, oc, kV, doc, pm, ct, an, od, osl, _, _, _, _, e1, e2, e3⟩ := c2 p hp
    exact ⟨e1, e2, e3⟩
  · obtain ⟨p, hp, rfl⟩ := List.mem_map.mp ht
    exact ⟨p.1, hp⟩
  have lamS : ∀ x ∈ T.lams, ((T.lam? x.id).map LamE.li) = some x.li := fun x hx => by rw [lam_find hnd hx]; rfl
  have rowG : ∀ r ∈ T.rows, DOk base K mg ⟨cs.map fun p => (p.2, T.nm), fun id => (T.lam? id).map LamE.li⟩ T.g r.f r.ps r.d := fun r hr => by
    obtain ⟨p, hp, d, hd, fa, oc, kV, doc, pm, ct, an, od, osl, k1, k2, k3, k4, k5, k6, k7⟩ := c1 r hr
    have hb := hrows r hr
    unfold Txt.rowB at hb
    rw [hd] at hb
    simp only [Bool.and_eq_true, decide_eq_true_eq, List.all_eq_true] at hb
    obtain ⟨⟨⟨⟨⟨⟨⟨b1, b2⟩, b3⟩, b4⟩, b5⟩, b6⟩, b7⟩, b8⟩ := hb
    obtain ⟨l, hl⟩ := Option.isSome_iff_exists.mp b7
    have hl' := hl
    unfold Txt.fnd at hl'
    rw [hd] at hl'
    refine ⟨⟨r.f, d.scope, d.body, fa, .ref p.1, T.cc r d, l, ⟨⟨r.f, d.params, oc, kV, doc, pm, ct, an, od, osl, k1, plain_by b1⟩, k2, k3, k4, b3, C8.fnScope_by b2⟩, b5, b6, rfl, b4, hl', fun x hx => lamS x ?_, fun i id sc hi => ?_, fun hf => ⟨rfl, p.1, p.2, tb p hp, rfl, ?_, fun t ht _ => ?_⟩⟩⟩
    · exact List.mem_flatMap.mpr ⟨r, hr, by rw [hl]; exact hx⟩
    · have hi2 : (r.nds.find? fun t => decide (t.1 = i)).map (fun t => (t.2.1, scIn d.body t.2.2)) = some (id, sc) := hi
      rw [Option.map_eq_some_iff] at hi2
      obtain ⟨t, ht, he⟩ := hi2
      cases he
      have hbt := b8 t (List.mem_of_find?_eq_some ht)
      split at hbt
      · rename_i x hx
        exact ⟨x.li, by show (T.lam? t.2.1).map LamE.li = some x.li; rw [hx]; rfl, of_decide_eq_true hbt⟩
      · cases hbt
    · exact List.mem_map_of_mem hp
    · obtain ⟨p', _, rfl⟩ := List.mem_map.mp ht
      rfl
  have lamG : ∀ r ∈ T.lrows, LOk ⟨cs.map fun p => (p.2, T.nm), fun id => (T.lam? id).map LamE.li⟩ T.g r.id r.d := fun r hr => by
    have hb := hlrows r hr
    unfold Txt.lrowB at hb
    split at hb
    · rename_i x hx
      rw [Bool.and_eq_true] at hb
      obtain ⟨b1, b2⟩ := hb
      split at b2
      · rename_i e il hxe hbd
        rw [Bool.and_eq_true, decide_eq_true_eq] at b2
        obtain ⟨b2, b3⟩ := b2
        split at b3
        · rename_i l hl
          rw [List.isEmpty_iff] at b3
          subst b3
          exact lok_lam (by show (T.lam? r.id).map LamE.li = some x.li; rw [hx]; rfl) b1 rfl (fun _ => rfl) hxe b2 hbd hl (fun x hx => by cases hx)
        · cases b3
      · rename_i b bd hxe
        split at b2
        · rename_i l hl
          rw [List.isEmpty_iff] at b2
          subst b2
          exact lok_def (by show (T.lam? r.id).map LamE.li = some x.li; rw [hx]; rfl) b1 rfl (fun _ => rfl) hxe hl (fun x hx => by cases hx)
        · cases b2
      · cases b2
    · cases hb
  refine ⟨fun f d hf => ?_, fun f ps hf => ?_, fun id ld hl => ?_, fun x hx => ?_, fun x d hx => ?_, fun x hx => ?_⟩
  · rw [hG] at hf
    rw [Option.map_eq_some_iff] at hf
    obtain ⟨r, hr, rfl⟩ := hf
    have hm := List.mem_of_find?_eq_some hr
    refine ⟨r.ps, by show Txt.sig T f = _; unfold Txt.sig; rw [hr]; rfl, ?_⟩
    obtain ⟨qual, scope, body, fa, cdv, c, l, DF, np, _⟩ := (rowG r hm).ex
    exact np
  · have hf2 : (T.rows.find? fun r => decide (r.f = f)).map (·.ps) = some ps := hf
    rw [Option.map_eq_some_iff] at hf2
    obtain ⟨r, hr, rfl⟩ := hf2
    have hn : r.f = f := of_decide_eq_true (List.find?_some (p := fun r : Row => decide (r.f = f)) hr)
    refine ⟨r.d, by rw [hG]; show (T.rows.find? fun r => decide (r.f = f)).map (·.d) = _; rw [hr]; rfl, ?_⟩
    rw [← hn]
    exact rowG r (List.mem_of_find?_eq_some hr)
  · rw [hL, Option.map_eq_some_iff] at hl
    obtain ⟨r, hr, rfl⟩ := hl
    have hn : r.id = id := of_decide_eq_true (List.find?_some (p := fun r : LRow => decide (r.id = id)) hr)
    rw [← hn]
    exact lamG r (List.mem_of_find?_eq_some hr)
  · unfold noB at hx
    split at hx
    · rename_i hg
      have hg2 : T.gi x = .no := hg
      unfold Txt.gi at hg2
      split at hg2
      · cases hg2
      · split at hg2
        · cases hg2
        · split at hg2
          · rename_i hno
            exact none_ok X Tp.g (h2 x (of_decide_eq_true hno))
          · cases hg2
    · cases hx
  · have hg2 : T.gi x = .con d := hx
    unfold Txt.gi at hg2
    split at hg2
    · rename_i c hc
      cases hg2
      have hn : c.1 = x := of_decide_eq_true (List.find?_some (p := fun c : Str × D => decide (c.1 = x)) hc)
      rw [← hn]
      exact con_ok X Tp.g (h3 c (List.mem_of_find?_eq_some hc))
    · split at hg2
      · cases hg2
      · split at hg2 <;> cases hg2
  · have hg2 : T.gi x = .gcd := hx
    unfold Txt.gi at hg2
    split at hg2
    · cases hg2
    · split at hg2
      · rename_i hgc
        simp only [Bool.and_eq_true, decide_eq_true_eq] at hgc
        rw [hgc.2]
        refine gcd_ok X Tp.g ?_
        rw [hgc.1] at h4
        simpa using h4
      · split at hg2 <;> cases hg2
theorem law_walk2 {l : PySem.W.OpenLaw} {n k : Nat} {q : Program} {loose : List Str} {XP : (Str → Option Value) → Heap → Prop} {YP : World → Heap → Prop} {d : DefRec} {K : Params → PySem.W.Frag} {T : Txt} {G : Prog}
    (hn : l.most = some n) (hs : n ≤ sizeLine) (hdf : d.params.defaults = []) (hd : d.name = "law") (hr : Room k callerA) (hY : ∀ (w : World) (h : Heap), YP w h → (K w.params).In h)
    (hq : (T.rows.map fun r => (recsOf q).find? fun d => d.name == r.f) = T.rows.map fun r => T.rec? r.f) (hok : T.okB = true) (hh : ∀ w : World, T.heapB (K w.params) = true)
    (hG : G.fns = fun f => (T.rows.find? fun r => decide (r.f = f)).map (·.d)) (hL : G.lams = fun i => (T.lrows.find? fun r => decide (r.id = i)).map (·.d)) (hsig : T.sig "law" = some [("script" : Str)])
    (hlaw : ∀ ns : List Int, ns.length ≤ n → (∀ z ∈ ns, Builtin.Int.intBits z ≤ 1048576) → ∃ as', run G k (.glob "law") [.ro ns] = .ok (.dat (.bool true)) as') :
    PySem.W.WalkO q loose XP YP l.row.toRowW d [] (fun f vs => PySem.call f vs) := by
  refine Att.attach_callB hn hdf fun w s0 s mg mb fa o pm cd doc a vs ns G' Y ho hdd hcd hmg hobj hints hlen hbits hg => ?_
  have KX := hY w _ Y
  obtain ⟨cs, S, h1, h2, h4⟩ := text_ok (T := T) (G := G) KX G'.T hq hok (hh w) hG hL
  refine law_end KX G'.T.g G'.T.b G'.T.builtins G'.T.nolimit hg h1 G'.T.bmain hobj hints (Nat.le_trans hlen hs) fun base H kb nb tb hH hS e0 => ?_
  obtain ⟨fb, fd, m1, m2, m3, m4, m5, m6⟩ := (runs_all (P := l.prog) (w := w) (h4 base kb nb tb) k).glob "law" ["script"] hsig
  rw [hd] at hmg
  have m1' : mg "law" = some (.ref fb) := m1
  rw [hmg] at m1'
  cases m1'
  obtain ⟨as', hrun⟩ := hlaw ns hlen hbits
  have R : Rel ⟨K w.params, mg, S.T, S.lam⟩ mk0 (fun _ => False) (aenv [.ro ns]) ([V.ref a].map some) H := rel_script hS fun t ht => by
    obtain ⟨c, hc⟩ := h2 t ht
    exact hH _ hc
  refine m6 callerA [] s H ⟨[.ref a], []⟩ [.ref a] [.ref a] _ _ hr rfl e0 (.of_eq (bind_pos m3 m4 m5 rfl)) (.cons rfl .nil) rfl ?_
  refine ⟨fun _ => False, [.ro ns], _, as', R, .glob m1 m2, hrun, fun v H' e => ?_⟩
  have val : RD _ H' _ v (.bool true) := e.val
  cases val
  rfl
end
end Ev
set_option Elab.async false
set_option linter.all false
set_option maxRecDepth 100000
set_option maxHeartbeats 4000000
namespace Ev
open PySem PySem.Spec PyProof.Rows L2
/-! ### the head by one run of the machine: what the heap says is read off the state itself -/
/-- the objects that the module's names name, with the functions' codes -/
def asE (g : Addr → Option Obj) : List Addr := mainGlobals :: match g mainGlobals with
  | some ⟨_, _, .dict es _, _⟩ => es.toList.flatMap fun e => match e.val with
    | .ref a => (match g a with
      | some ⟨_, _, .func fd, _⟩ => (match fd.code with
        | .ref c => [a, c]
        | _ => [a])
      | some ⟨_, _, .seq _ _, _⟩ => [a]
      | _ => [])
    | _ => []
  | _ => []
def frE (g : Addr → Option Obj) : PySem.W.Frag := He.frG g (asE g)
/-- what is asked of a function object -/
abbrev FW : Type := Option (Str × Str × Arguments × FuncBody × Scope × Addr × List (Str × Addr) × Value × Addr)
def fnE (K : PySem.W.Frag) (f : Str) : FW := match PySem.W.nsIn K mainGlobals f with
  | some (some (.ref a)) => (match K.lookup a with
    | some ⟨_, _, .func fd, _⟩ => some (fd.name, fd.qualname, fd.params, fd.body, fd.scope, fd.globals, fd.closure, fd.defaults, fd.builtins)
    | _ => none)
  | _ => none
def fnT (T : Txt) (f : Str) : FW := match T.rec? f with
  | some d => some (f, f, d.params, .stmts d.body, d.scope, mainGlobals, [], .none, builtinsNs)
  | none => none
def tabG (g : Addr → Option Obj) (c : Addr) : Option Addr :=
  match g c with
  | some ⟨.type n, _, .fields vs, _⟩ =>
    if n == "code" then
      match (vs[11]? : Option Value), (vs[18]? : Option Value), (vs[7]? : Option Value), (vs[9]? : Option Value), (vs[10]? : Option Value) with
      | some (.ref P), some (.str _ _), some (.int _ _), some (.bool _), some (.int _ _) =>
        (match g P with
        | some ⟨.none, none, .fields ps, sl⟩ => if ps.size == 0 && sl.size == 0 && c != P then some P else none
        | _ => none)
      | _, _, _, _, _ => none
    else none
  | _ => none
theorem tabG_eq (h : Heap) (c : Addr) : tabG h.get? c = h.tab0At c := rfl
def codeE (K : PySem.W.Frag) (f : Str) : Option Addr := match PySem.W.nsIn K mainGlobals f with
  | some (some (.ref a)) => (match K.lookup a with
    | some ⟨_, _, .func fd, _⟩ => (match fd.code with
      | .ref c => some c
      | _ => none)
    | _ => none)
  | _ => none
def tabB (g : Addr → Option Obj) (K : PySem.W.Frag) (f : Str) : Bool := match codeE K f with
  | some c => (tabG g c).isSome
  | none => false
abbrev AlE : Type := Bool × List FW
def obE (T : Txt) (g : Addr → Option Obj) : AlE := (T.heapB (frE g) && T.rows.all fun r => tabB g (frE g) r.f, T.rows.map fun r => fnE (frE g) r.f)
structure SaysE (T : Txt) (h : Heap) (K : PySem.W.Frag) : Prop where
  In : K.In h
  b : T.heapB K = true
  t : ∀ r ∈ T.rows, ∃ c P, codeE K r.f = some c ∧ h.get? P = some tab0 ∧ PySem.W.CodeHd h c P
  f : (T.rows.map fun r => fnE K r.f) = T.rows.map fun r => fnT T r.f
theorem obE_says {T : Txt} {h : Heap} (e : obE T h.get? = (true, T.rows.map fun r => fnT T r.f)) : SaysE T h (frE h.get?) := by
  obtain ⟨e1, e2⟩ := Prod.mk.inj e
  obtain ⟨e3, e4⟩ := Bool.and_eq_true_iff.mp e1
  refine ⟨He.frG_in, e3, fun r hr => ?_, e2⟩
  have h1 := List.all_eq_true.mp e4 r hr
  unfold tabB at h1
  split at h1
  · rename_i c hc
    obtain ⟨P, hP⟩ := Option.isSome_iff_exists.mp h1
    rw [tabG_eq] at hP
    obtain ⟨g5, g6⟩ := Heap.tab0At_spec hP
    exact ⟨c, P, hc, g6.2, PySem.W.CodeHd.of g5 g6⟩
  · cases h1
def hookE (T : Txt) : PySem.W.Hook where
  α := AlE
  obs := fun s => obE T s.heap.get?
  val := fun _ => (true, T.rows.map fun r => fnT T r.f)
  says := fun _ h => ∃ K : PySem.W.Frag, SaysE T h K
  of := fun _ _ e => ⟨_, obE_says e⟩
  keeps := fun _ _ _ ⟨K, S⟩ k => ⟨K, PySem.W.Frag.In.keeps S.In k, S.b, fun r hr => let ⟨c, P, h1, h2, h3⟩ := S.t r hr; ⟨c, P, h1, k _ _ h2, h3.keeps k⟩, S.f⟩
def obT (T : Txt) (s : PySem.W.SharedT) : AlE := obE T (HandSHeadRun.getT s)
theorem obT_eq (T : Txt) (s : PySem.W.SharedT) : obT T s = (hookE T).obs s.abs := by
  have e : HandSHeadRun.getT s = s.abs.heap.get? := funext fun a => HandSHeadRun.getT_eq s a
  show obE T (HandSHeadRun.getT s) = obE T s.abs.heap.get?
  rw [e]
section
variable {K : PySem.W.Frag} {h base : Heap} {mg mb : Str → Option Value} {T : Txt}
theorem def_at2 (S : SaysE T h K) (M : h.Ns mainGlobals mg) (hK : PySem.W.noTabs K = true) {r : Row} (hr : r ∈ T.rows) {d : DefRec} (hd : T.rec? r.f = some d) (he : Txt.entB K r.f = true) : ∃ p, DefAt T K mg h r d p := by
  have X := S.In
  obtain ⟨c, P, hc, hP, hCH⟩ := S.t r hr
  have hf : fnE K r.f = fnT T r.f := List.map_inj_left.mp S.f r hr
  unfold fnT at hf
  rw [hd] at hf
  unfold Txt.entB at he
  unfold fnE at hf
  unfold codeE at hc
  split at he
  · rename_i a ha
    rw [ha] at hf hc
    split at he
    · rename_i oc od fd sl hl
      simp only [hl] at hf hc
      simp only [Bool.and_eq_true] at he
      obtain ⟨n1, n2, n3, n4, n5, n6, n7, n8, n9, n10, n11, n12, n13, n14, n15⟩ := fd
      simp only [Option.some.injEq, Prod.mk.injEq] at hf
      obtain ⟨h1, h2, h3, h4, h5, h6, h7, h8, h9⟩ := hf
      subst h1 h2 h3 h4 h5 h6 h7 h8 h9
      split at hc
      · rename_i c' hcode
        cases hc
        subst hcode
        exact ⟨(c, P), a, oc, _, _, _, _, _, od, sl, hl, PySem.W.mg_of X M ha, he.2, he.1, hP, noTab_of X hK hP, hCH⟩
      · cases hc
    · cases he
  · cases he
theorem text_ok2 {G : Prog} (SS : SaysE T h K) (M0 : h.Ns mainGlobals mg) (hok : T.okB = true)
    (hG : G.fns = fun f => (T.rows.find? fun r => decide (r.f = f)).map (·.d)) (hL : G.lams = fun i => (T.lrows.find? fun r => decide (r.id = i)).map (·.d)) :
    ∃ (cs : List (Addr × Addr)) (S : Sx), (∀ p ∈ cs, h.get? p.2 = some tab0 ∧ K.lookup p.2 = none ∧ PySem.W.CodeHd h p.1 p.2) ∧ (∀ t ∈ S.T, ∃ c, (c, t.1) ∈ cs) ∧
      ∀ base : Heap, K.In base → base.Ns mainGlobals mg → (∀ p ∈ cs, LamX.TabB base mg p.1 p.2) → PFacts base K mg S G T.g := by
  simp only [Txt.okB, Bool.and_eq_true, decide_eq_true_eq, List.all_eq_true] at hok
  obtain ⟨⟨hrows, hlrows⟩, hnd⟩ := hok
  have hh := SS.b
  have X := SS.In
  simp only [Txt.heapB, Bool.and_eq_true, List.all_eq_true] at hh
  obtain ⟨⟨⟨⟨h1, h2⟩, h3⟩, h4⟩, h5⟩ := hh
  have hdef : ∀ r ∈ T.rows, ∃ p : Addr × Addr, ∃ d, T.rec? r.f = some d ∧ DefAt T K mg h r d p := fun r hr => by
    have hb := hrows r hr
    unfold Txt.rowB at hb
    split at hb
    · rename_i d hd
      obtain ⟨p, hp⟩ := def_at2 SS M0 h5 hr hd (h1 r hr)
      exact ⟨p, d, hd, hp⟩
    · cases hb
  obtain ⟨cs, c1, c2⟩ := pick hdef
  refine ⟨cs, ⟨cs.map fun p => (p.2, T.nm), fun id => (T.lam? id).map LamE.li⟩, fun p hp => ?_, fun t ht => ?_, fun base kb nb tb => ?_⟩
  · obtain ⟨r, _, d, _, fa, oc, kV, doc, pm, ct, an, od, osl, _, _, _, _, e1, e2, e3⟩ := c2 p hp
    exact ⟨e1, e2, e3⟩
  · obtain ⟨p, hp, rfl⟩ := List.mem_map.mp ht
    exact ⟨p.1, hp⟩
  have lamS : ∀ x ∈ T.lams, ((T.lam? x.id).map LamE.li) = some x.li := fun x hx => by rw [lam_find hnd hx]; rfl
  have rowG : ∀ r ∈ T.rows, DOk base K mg ⟨cs.map fun p => (p.2, T.nm), fun id => (T.lam? id).map LamE.li⟩ T.g r.f r.ps r.d := fun r hr => by
    obtain ⟨p, hp, d, hd, fa, oc, kV, doc, pm, ct, an, od, osl, k1, k2, k3, k4, k5, k6, k7⟩ := c1 r hr
    have hb := hrows r hr
    unfold Txt.rowB at hb
    rw [hd] at hb
    simp only [Bool.and_eq_true, decide_eq_true_eq, List.all_eq_true] at hb
    obtain ⟨⟨⟨⟨⟨⟨⟨b1, b2⟩, b3⟩, b4⟩, b5⟩, b6⟩, b7⟩, b8⟩ := hb
    obtain ⟨l, hl⟩ := Option.isSome_iff_exists.mp b7
    have hl' := hl
    unfold Txt.fnd at hl'
    rw [hd] at hl'
    refine ⟨⟨r.f, d.scope, d.body, fa, .ref p.1, T.cc r d, l, ⟨⟨r.f, d.params, oc, kV, doc, pm, ct, an, od, osl, k1, plain_by b1⟩, k2, k3, k4, b3, C8.fnScope_by b2⟩, b5, b6, rfl, b4, hl', fun x hx => lamS x ?_, fun i id sc hi => ?_, fun hf => ⟨rfl, p.1, p.2, tb p hp, rfl, ?_, fun t ht _ => ?_⟩⟩⟩
    · exact List.mem_flatMap.mpr ⟨r, hr, by rw [hl]; exact hx⟩
    · have hi2 : (r.nds.find? fun t => decide (t.1 = i)).map (fun t => (t.2.1, scIn d.body t.2.2)) = some (id, sc) := hi
      rw [Option.map_eq_some_iff] at hi2
      obtain ⟨t, ht, he⟩ := hi2
      cases he
      have hbt := b8 t (List.mem_of_find?_eq_some ht)
      split at hbt
      · rename_i x hx
        exact ⟨x.li, by show (T.lam? t.2.1).map LamE.li = some x.li; rw [hx]; rfl, of_decide_eq_true hbt⟩
      · cases hbt
    · exact List.mem_map_of_mem hp
    · obtain ⟨p', _, rfl⟩ := List.mem_map.mp ht
      rfl
  have lamG : ∀ r ∈ T.lrows, LOk ⟨cs.map fun p => (p.2, T.nm), fun id => (T.lam? id).map LamE.li⟩ T.g r.id r.d := fun r hr => by
    have hb := hlrows r hr
    unfold Txt.lrowB at hb
    split at hb
    · rename_i x hx
      rw [Bool.and_eq_true] at hb
      obtain ⟨b1, b2⟩ := hb
      split at b2
      · rename_i e il hxe hbd
        rw [Bool.and_eq_true, decide_eq_true_eq] at b2
        obtain ⟨b2, b3⟩ := b2
        split at b3
        · rename_i l hl
          rw [List.isEmpty_iff] at b3
          subst b3
          exact lok_lam (by show (T.lam? r.id).map LamE.li = some x.li; rw [hx]; rfl) b1 rfl (fun _ => rfl) hxe b2 hbd hl (fun x hx => by cases hx)
        · cases b3
      · rename_i b bd hxe
        split at b2
        · rename_i l hl
          rw [List.isEmpty_iff] at b2
          subst b2
          exact lok_def (by show (T.lam? r.id).map LamE.li = some x.li; rw [hx]; rfl) b1 rfl (fun _ => rfl) hxe hl (fun x hx => by cases hx)
        · cases b2
      · cases b2
    · cases hb
  refine ⟨fun f d hf => ?_, fun f ps hf => ?_, fun id ld hl => ?_, fun x hx => ?_, fun x d hx => ?_, fun x hx => ?_⟩
  · rw [hG] at hf
    rw [Option.map_eq_some_iff] at hf
    obtain ⟨r, hr, rfl⟩ := hf
    have hm := List.mem_of_find?_eq_some hr
    refine ⟨r.ps, by show Txt.sig T f = _; unfold Txt.sig; rw [hr]; rfl, ?_⟩
    obtain ⟨qual, scope, body, fa, cdv, c, l, DF, np, _⟩ := (rowG r hm).ex
    exact np
  · have hf2 : (T.rows.find? fun r => decide (r.f = f)).map (·.ps) = some ps := hf
    rw [Option.map_eq_some_iff] at hf2
    obtain ⟨r, hr, rfl⟩ := hf2
    have hn : r.f = f := of_decide_eq_true (List.find?_some (p := fun r : Row => decide (r.f = f)) hr)
    refine ⟨r.d, by rw [hG]; show (T.rows.find? fun r => decide (r.f = f)).map (·.d) = _; rw [hr]; rfl, ?_⟩
    rw [← hn]
    exact rowG r (List.mem_of_find?_eq_some hr)
  · rw [hL, Option.map_eq_some_iff] at hl
    obtain ⟨r, hr, rfl⟩ := hl
    have hn : r.id = id := of_decide_eq_true (List.find?_some (p := fun r : LRow => decide (r.id = id)) hr)
    rw [← hn]
    exact lamG r (List.mem_of_find?_eq_some hr)
  · unfold noB at hx
    split at hx
    · rename_i hg
      have hg2 : T.gi x = .no := hg
      unfold Txt.gi at hg2
      split at hg2
      · cases hg2
      · split at hg2
        · cases hg2
        · split at hg2
          · rename_i hno
            exact none_ok X M0 (h2 x (of_decide_eq_true hno))
          · cases hg2
    · cases hx
  · have hg2 : T.gi x = .con d := hx
    unfold Txt.gi at hg2
    split at hg2
    · rename_i c hc
      cases hg2
      have hn : c.1 = x := of_decide_eq_true (List.find?_some (p := fun c : Str × D => decide (c.1 = x)) hc)
      rw [← hn]
      exact con_ok X M0 (h3 c (List.mem_of_find?_eq_some hc))
    · split at hg2
      · cases hg2
      · split at hg2 <;> cases hg2
  · have hg2 : T.gi x = .gcd := hx
    unfold Txt.gi at hg2
    split at hg2
    · cases hg2
    · split at hg2
      · rename_i hgc
        simp only [Bool.and_eq_true, decide_eq_true_eq] at hgc
        rw [hgc.2]
        refine gcd_ok X M0 ?_
        rw [hgc.1] at h4
        simpa using h4
      · split at hg2 <;> cases hg2
end
theorem law_walk3 {l : PySem.W.OpenLaw} {n k : Nat} {q : Program} {loose : List Str} {XP : (Str → Option Value) → Heap → Prop} {d : DefRec} {T : Txt} {G : Prog}
    (hn : l.most = some n) (hs : n ≤ sizeLine) (hdf : d.params.defaults = []) (hd : d.name = "law") (hr : Room k callerA)
    (hok : T.okB = true)
    (hG : G.fns = fun f => (T.rows.find? fun r => decide (r.f = f)).map (·.d)) (hL : G.lams = fun i => (T.lrows.find? fun r => decide (r.id = i)).map (·.d)) (hsig : T.sig "law" = some [("script" : Str)])
    (hlaw : ∀ ns : List Int, ns.length ≤ n → (∀ z ∈ ns, Builtin.Int.intBits z ≤ 1048576) → ∃ as', run G k (.glob "law") [.ro ns] = .ok (.dat (.bool true)) as') :
    PySem.W.WalkO q loose XP (hookE T).says l.row.toRowW d [] (fun f vs => PySem.call f vs) := by
  refine Att.attach_callB hn hdf fun w s0 s mg mb fa o pm cd doc a vs ns G' Y ho hdd hcd hmg hobj hints hlen hbits hg => ?_
  obtain ⟨K, SS⟩ := Y
  have KX := SS.In
  obtain ⟨cs, S, h1, h2, h4⟩ := text_ok2 (T := T) (G := G) SS G'.T.g hok hG hL
  refine law_end KX G'.T.g G'.T.b G'.T.builtins G'.T.nolimit hg h1 G'.T.bmain hobj hints (Nat.le_trans hlen hs) fun base H kb nb tb hH hS e0 => ?_
  obtain ⟨fb, fd, m1, m2, m3, m4, m5, m6⟩ := (runs_all (P := l.prog) (w := w) (h4 base kb nb tb) k).glob "law" ["script"] hsig
  rw [hd] at hmg
  have m1' : mg "law" = some (.ref fb) := m1
  rw [hmg] at m1'
  cases m1'
  obtain ⟨as', hrun⟩ := hlaw ns hlen hbits
  have R : Rel ⟨K, mg, S.T, S.lam⟩ mk0 (fun _ => False) (aenv [.ro ns]) ([V.ref a].map some) H := rel_script hS fun t ht => by
    obtain ⟨c, hc⟩ := h2 t ht
    exact hH _ hc
  refine m6 callerA [] s H ⟨[.ref a], []⟩ [.ref a] [.ref a] _ _ hr rfl e0 (.of_eq (bind_pos m3 m4 m5 rfl)) (.cons rfl .nil) rfl ?_
  refine ⟨fun _ => False, [.ro ns], _, as', R, .glob m1 m2, hrun, fun v H' e => ?_⟩
  have val : RD _ H' _ v (.bool true) := e.val
  cases val
  rfl
theorem map3 {α β γ δ : Type} {o : Option α} {f : α → β} {g : α → γ} {h : α → δ} {x : β} {y : γ} {z : δ} (h1 : o.map f = some x) (h2 : o.map g = some y) (h3 : o.map h = some z) : o.map (fun a => (f a, g a, h a)) = some (x, y, z) := by
  cases o with
  | none => cases h1
  | some a =>
    cases h1
    cases h2
    cases h3
    rfl
end Ev
set_option Elab.async false
set_option linter.all false
set_option maxRecDepth 100000
namespace Ev
open PySem
section
variable {α β : Type}
/-- keeps the simplifier out of what comes later -/
structure Tag {γ : Sort _} (a : γ) : Type where
/-- an end of the good kind, with what is wanted of it -/
def OutW (o : Out α) (Q : α → Env → Prop) (_t : Tag Q := ⟨⟩) : Prop := match o with
  | .ok a ρ => Q a ρ
  | _ => False
def FlW (f : Fl) (Q : Env → Prop) (R : EV → Env → Prop) (_t : Tag Q := ⟨⟩) (_u : Tag R := ⟨⟩) : Prop := match f with
  | .nx ρ => Q ρ
  | .rt r ρ => R r ρ
  | _ => False
def ResW (r : Res) (Q : EV → List Arg → Prop) (_t : Tag Q := ⟨⟩) : Prop := match r with
  | .ok e as => Q e as
  | _ => False
theorem OutW_ext {o : Out α} {Q Q' : α → Env → Prop} (h : ∀ a ρ, Q a ρ = Q' a ρ) : OutW o Q = OutW o Q' := by
  have e : Q = Q' := funext fun a => funext fun ρ => h a ρ
  rw [e]
@[simp ↓] theorem OutW_ok {a : α} {ρ : Env} {Q : α → Env → Prop} : OutW (.ok a ρ) Q = Q a ρ := rfl
@[simp ↓] theorem OutW_bind {o : Out α} {f : α → Env → Out β} {Q : β → Env → Prop} : OutW (o.bind f) Q = OutW o (fun a ρ => OutW (f a ρ) Q) := by
  cases o <;> rfl
@[simp ↓] theorem OutW_frz {o : Out EV} {Q : D → Env → Prop} : OutW o.frz Q = OutW o (fun a ρ => Q a.frz ρ) := by
  cases o <;> rfl
theorem OutW_opt {ρ : Env} {x : Option α} {Q : α → Env → Prop} : OutW (.opt ρ x) Q = ∃ a, x = some a ∧ Q a ρ := by
  cases x with
  | none => simp [OutW]
  | some a => simp [OutW]
theorem FlW_then {o : Out α} {f : α → Env → Fl} {Q : Env → Prop} {R : EV → Env → Prop} : FlW (o.thenF f) Q R = OutW o (fun a ρ => FlW (f a ρ) Q R) := by
  cases o <;> rfl
theorem FlW_seq {f : Fl} {g : Env → Fl} {Q : Env → Prop} {R : EV → Env → Prop} : FlW (f.thenF g) Q R = FlW f (fun ρ => FlW (g ρ) Q R) R := by
  cases f <;> rfl
@[simp ↓] theorem FlW_nx {ρ : Env} {Q : Env → Prop} {R : EV → Env → Prop} : FlW (.nx ρ) Q R = Q ρ := rfl
@[simp ↓] theorem FlW_rt {r : EV} {ρ : Env} {Q : Env → Prop} {R : EV → Env → Prop} : FlW (.rt r ρ) Q R = R r ρ := rfl
@[simp ↓] theorem ResW_ok {r : EV} {as : List Arg} {Q : EV → List Arg → Prop} : ResW (.ok r as) Q = Q r as := rfl
theorem OutW.mono {o : Out α} {Q Q' : α → Env → Prop} (h : OutW o Q) (k : ∀ a ρ, Q a ρ → Q' a ρ) : OutW o Q' := by
  cases o with
  | ok a ρ => exact k _ _ h
  | exc c x ρ => exact h
  | bad => exact h
theorem FlW.mono {o : Fl} {Q Q' : Env → Prop} {R R' : EV → Env → Prop} (h : FlW o Q R) (k : ∀ ρ, Q ρ → Q' ρ) (k' : ∀ r ρ, R r ρ → R' r ρ) : FlW o Q' R' := by
  cases o with
  | nx ρ => exact k _ h
  | rt r ρ => exact k' _ _ h
  | _ => exact h
theorem ResW.mono {o : Res} {Q Q' : EV → List Arg → Prop} (h : ResW o Q) (k : ∀ a ρ, Q a ρ → Q' a ρ) : ResW o Q' := by
  cases o with
  | ok a ρ => exact k _ _ h
  | exc c x ρ => exact h
  | bad => exact h
theorem OutW_eq {o : Out α} {a : α} {ρ : Env} : OutW o (fun b ρ' => b = a ∧ ρ' = ρ) ↔ o = .ok a ρ := by
  cases o with
  | ok b ρ' => simp [OutW]
  | exc c x ρ' => simp [OutW]
  | bad => simp [OutW]
theorem FlW_eq {f : Fl} {ρ : Env} : FlW f (fun ρ' => ρ' = ρ) (fun _ _ => False) ↔ f = .nx ρ := by
  cases f <;> simp [FlW]
theorem ResW_eq {r : Res} {e : EV} {as : List Arg} : ResW r (fun b as' => b = e ∧ as' = as) ↔ r = .ok e as := by
  cases r with
  | ok b ρ' => simp [ResW]
  | exc c x ρ' => simp [ResW]
  | bad => simp [ResW]
theorem ResW_end {as : List Arg} {f : Fl} {Q : EV → List Arg → Prop} (h : FlW f (fun ρ => ∃ as', outA as ρ = some as' ∧ Q (.dat .none) as') (fun r ρ => ∃ as', outA as ρ = some as' ∧ Q r as')) : ResW (endOf as f) Q := by
  cases f with
  | nx ρ =>
    obtain ⟨as', h1, h2⟩ := h
    simp only [endOf, h1]
    exact h2
  | rt r ρ =>
    obtain ⟨as', h1, h2⟩ := h
    simp only [endOf, h1]
    exact h2
  | bk ρ => exact h.elim
  | ct ρ => exact h.elim
  | exc c x ρ => exact h.elim
  | bad => exact h.elim
/-- `run`, closed -/
@[irreducible] def call (G : Prog) (k : Nat) (F : FV) (as : List Arg) : Res := run G k F as
theorem call_run {G : Prog} {k : Nat} : call G k = run G k := by
  funext F as
  unfold call
  rfl
/-- a def of the text -/
theorem run_glob {G : Prog} {k : Nat} {f : Str} {d : FD} {as : List Arg} {Q : EV → List Arg → Prop} (h : G.fns f = some d) (hn : as.length = d.np) (hl : d.np ≤ d.nl)
    (hw : FlW (evB (call G k) G.fuel d.body (as.map (fun a => some (argSV a)) ++ List.replicate (d.nl - d.np) none)) (fun ρ => ∃ as', outA as ρ = some as' ∧ Q (.dat .none) as') (fun r ρ => ∃ as', outA as ρ = some as' ∧ Q r as')) : ResW (call G (k + 1) (.glob f) as) Q := by
  rw [call_run] at hw
  rw [call_run, run, h]
  simp only [hn, hl, true_and, if_true]
  exact ResW_end hw
theorem run_globQ {G : Prog} {k : Nat} {f : Str} {d : FD} {as : List Arg} {Q : EV → List Arg → Prop} (h : G.fns f = some d) (hn : as.length = d.np) (hl : d.np ≤ d.nl)
    (hw : ∀ Q' : EV → List Arg → Prop, (∀ r as, Q r as → Q' r as) → FlW (evB (call G k) G.fuel d.body (as.map (fun a => some (argSV a)) ++ List.replicate (d.nl - d.np) none)) (fun ρ => ∃ as', outA as ρ = some as' ∧ Q' (.dat .none) as') (fun r ρ => ∃ as', outA as ρ = some as' ∧ Q' r as')) : ResW (call G (k + 1) (.glob f) as) Q :=
  run_glob h hn hl (hw Q fun _ _ h => h)
theorem run_clo {G : Prog} {k : Nat} {id : Nat} {caps : List SV} {d : LD} {as : List Arg} {Q : EV → List Arg → Prop} (h : G.lams id = some d) (hn : as.length = d.np) (hc : caps.length = d.nc) (hl : d.np + d.nc ≤ d.nl) (hp : as.all Arg.plain = true)
    (hw : FlW (evB (call G k) G.fuel d.body (as.map (fun a => some (argSV a)) ++ (caps.map some ++ List.replicate (d.nl - d.np - d.nc) none))) (fun ρ => ∃ as', outA as ρ = some as' ∧ Q (.dat .none) as') (fun r ρ => ∃ as', outA as ρ = some as' ∧ Q r as')) : ResW (call G (k + 1) (.clo id caps) as) Q := by
  rw [call_run] at hw
  rw [call_run, run, h]
  simp only [hn, hc, hl, hp, and_self, if_true]
  exact ResW_end hw
/-- a call -/
theorem OutW_call {Φ : FV → List Arg → Res} {F : FV} {ps : List PArg} {ρ : Env} {as : List Arg} {Q : EV → Env → Prop} (hs : (slotsOf ps).Nodup) (ha : PArgs.now ρ ps = some as) (h : ResW (Φ F as) (fun r as' => Q r (PArgs.back ps as' ρ))) : OutW (callP Φ F ps ρ) Q := by
  unfold callP
  rw [if_pos hs, ha]
  cases e : Φ F as with
  | ok r as' =>
    rw [e] at h
    simp only [e]
    exact h
  | exc c x as' =>
    rw [e] at h
    exact h.elim
  | bad =>
    rw [e] at h
    exact h.elim
@[simp] theorem atI_0 {x : α} {r : List α} : L2.atI (x :: r) 0 = some x := by
  have h : (0 : Int) < ((x :: r).length : Nat) := by rw [List.length_cons]; omega
  unfold L2.atI L2.ixN
  rw [if_pos (by omega), if_pos h]
  rfl
@[simp] theorem atI_1 {x y : α} {r : List α} : L2.atI (x :: y :: r) 1 = some y := by
  have h : (1 : Int) < ((x :: y :: r).length : Nat) := by simp only [List.length_cons]; omega
  unfold L2.atI L2.ixN
  rw [if_pos (by omega), if_pos h]
  rfl
@[simp] theorem atI_2 {x y z : α} {r : List α} : L2.atI (x :: y :: z :: r) 2 = some z := by
  have h : (2 : Int) < ((x :: y :: z :: r).length : Nat) := by simp only [List.length_cons]; omega
  unfold L2.atI L2.ixN
  rw [if_pos (by omega), if_pos h]
  rfl
theorem atI_n {xs : List α} {j : Nat} : L2.atI xs (j : Int) = xs[j]? := by
  unfold L2.atI L2.ixN
  rw [if_pos (by omega)]
  by_cases h : j < xs.length
  · rw [if_pos (by omega)]
    rfl
  · rw [if_neg (by omega)]
    exact (List.getElem?_eq_none (by omega)).symm
theorem atI_last {xs : List α} : L2.atI xs (-1) = xs.getLast? := by
  unfold L2.atI L2.ixN
  rw [if_neg (by omega)]
  cases xs with
  | nil => rfl
  | cons x r =>
    rw [if_pos (by simp only [List.length_cons]; omega), List.getLast?_eq_getElem?]
    have e : ((-1 : Int) + ((x :: r).length : Nat)).toNat = (x :: r).length - 1 := by
      simp only [List.length_cons]
      omega
    rw [e]
    rfl
@[simp] theorem ixN_0 {n : Nat} : L2.ixN (n + 1) 0 = some 0 := by
  unfold L2.ixN
  rw [if_pos (by omega), if_pos (by omega)]
  rfl
@[simp] theorem ixN_1 {n : Nat} : L2.ixN (n + 1 + 1) 1 = some 1 := by
  unfold L2.ixN
  rw [if_pos (by omega), if_pos (by omega)]
  rfl
@[simp] theorem ixN_2 {n : Nat} : L2.ixN (n + 1 + 1 + 1) 2 = some 2 := by
  unfold L2.ixN
  rw [if_pos (by omega), if_pos (by omega)]
  rfl
def OptW (x : Option α) (Q : α → Prop) (_t : Tag Q := ⟨⟩) : Prop := match x with
  | some a => Q a
  | none => False
@[simp ↓] theorem OptW_some {a : α} {Q : α → Prop} : OptW (some a) Q = Q a := rfl
@[simp ↓] theorem OptW_if {c : Prop} [Decidable c] {x : Option α} {Q : α → Prop} : OptW (if c then x else none) Q = (c ∧ OptW x Q) := by
  by_cases h : c <;> simp [h, OptW]
@[simp ↓] theorem OptW_map {f : β → α} {x : Option β} {Q : α → Prop} : OptW (x.map f) Q = OptW x (fun b => Q (f b)) := by
  cases x <;> rfl
/-- a truth value, and what is wanted in both cases -/
def BoolW (d : D) (P Q : Prop) (_t : Tag P := ⟨⟩) (_u : Tag Q := ⟨⟩) : Prop := match d with
  | .bool true => P
  | .bool false => Q
  | _ => False
@[simp ↓] theorem BoolW_true {P Q : Prop} : BoolW (.bool true) P Q = P := rfl
@[simp ↓] theorem BoolW_false {P Q : Prop} : BoolW (.bool false) P Q = Q := rfl
@[simp ↓] theorem BoolW_bool {b : Bool} {P Q : Prop} : BoolW (.bool b) P Q = ((b = true → P) ∧ (b = false → Q)) := by
  cases b <;> simp [BoolW]
def IntW (d : D) (Q : Int → Prop) (_t : Tag Q := ⟨⟩) : Prop := match d with
  | .int i => Q i
  | _ => False
@[simp ↓] theorem IntW_int {i : Int} {Q : Int → Prop} : IntW (.int i) Q = Q i := rfl
/-- what a slot reads as -/
def SlotW (x : Option (Option SV)) (ρ : Env) (i : Nat) (Q : EV → Env → Prop) (_t : Tag Q := ⟨⟩) : Prop := match x with
  | some (some (.dat d)) => Q (.dat d) ρ
  | some (some (.own ds)) => Q (.dat (.list ds)) (ρ.set i (some (.dat (.list ds))))
  | _ => False
@[simp ↓] theorem SlotW_dat {d : D} {ρ : Env} {i : Nat} {Q : EV → Env → Prop} : SlotW (some (some (.dat d))) ρ i Q = Q (.dat d) ρ := rfl
@[simp ↓] theorem SlotW_own {ds : List D} {ρ : Env} {i : Nat} {Q : EV → Env → Prop} : SlotW (some (some (.own ds))) ρ i Q = Q (.dat (.list ds)) (ρ.set i (some (.dat (.list ds)))) := rfl
def FreshW (r : EV) (Q : List D → Prop) (_t : Tag Q := ⟨⟩) : Prop := match r with
  | .fresh ds => Q ds
  | _ => False
@[simp ↓] theorem FreshW_fresh {ds : List D} {Q : List D → Prop} : FreshW (.fresh ds) Q = Q ds := rfl
/-- small enough for range -/
def R62 (j : Int) : Prop := -(2 ^ 62) ≤ j ∧ j < 2 ^ 62
theorem r62 {j : Int} (h1 : 0 ≤ j) (h2 : j ≤ 1000000000) : R62 j := by
  unfold R62
  omega
def forB (Φ : FV → List Arg → Res) (W : Nat) (tg : Tg) (body : List S) (d : D) (ρ : Env) : Fl := match bindT tg d ρ with
  | some ρ => evB Φ W body ρ
  | none => .bad
def lcB (Φ : FV → List Arg → Res) (tg : Tg) (cs : List E) (elt : E) (d : D) (ρ : Env) : Out (Option D) := match bindT tg d ρ with
  | some ρ => (evC Φ cs ρ).bind fun b ρ => if b then (ev Φ elt ρ).frz.bind fun d ρ => .ok (some d) ρ else .ok none ρ
  | none => .bad
def whC (Φ : FV → List Arg → Res) (c : E) (ρ : Env) : Out D := (ev Φ c ρ).frz
def dcB (Φ : FV → List Arg → Res) (tg : Tg) (k v : E) (d : D) (ρ : Env) : Out (Option D) := match bindT tg d ρ with
  | some ρ => (ev Φ k ρ).frz.bind fun x ρ => (ev Φ v ρ).frz.bind fun y ρ => .ok (some (.tuple [x, y])) ρ
  | none => .bad
section
variable {Φ : FV → List Arg → Res} {ρ : Env} {Q : EV → Env → Prop}
@[simp ↓] theorem w_forB {W : Nat} {tg : Tg} {body : List S} {d : D} {P : Env → Prop} : FlW (forB Φ W tg body d ρ) P Q = OptW (bindT tg d ρ) fun ρ => FlW (evB Φ W body ρ) P Q := by
  unfold forB
  cases bindT tg d ρ <;> rfl
@[simp ↓] theorem w_lcB {tg : Tg} {cs : List E} {elt : E} {d : D} {Q : Option D → Env → Prop} : OutW (lcB Φ tg cs elt d ρ) Q = OptW (bindT tg d ρ) fun ρ => OutW (evC Φ cs ρ) fun b ρ => BoolW (.bool b) (OutW (ev Φ elt ρ) fun x ρ => Q (some x.frz) ρ) (Q none ρ) := by
  unfold lcB
  cases bindT tg d ρ with
  | none => rfl
  | some ρ =>
    simp only [OutW_bind, OptW]
    refine OutW_ext fun b ρ => ?_
    try simp only [OutW_bind, OutW_frz]
    cases b with
    | true =>
      simp only [if_true, OutW_bind, OutW_frz]
      rfl
    | false => rfl
@[simp ↓] theorem w_dcB {tg : Tg} {k v : E} {d : D} {Q : Option D → Env → Prop} : OutW (dcB Φ tg k v d ρ) Q = OptW (bindT tg d ρ) fun ρ => OutW (ev Φ k ρ) fun x ρ => OutW (ev Φ v ρ) fun y ρ => Q (some (.tuple [x.frz, y.frz])) ρ := by
  unfold dcB
  cases bindT tg d ρ with
  | none => rfl
  | some ρ =>
    simp only [OutW_bind, OptW, OutW_frz]
    refine OutW_ext fun x ρ => ?_
    simp only [OutW_bind, OptW, OutW_frz]
    rfl
@[simp ↓] theorem w_whC {c : E} {Q : D → Env → Prop} : OutW (whC Φ c ρ) Q = OutW (ev Φ c ρ) fun x ρ => Q x.frz ρ := OutW_frz
@[simp ↓] theorem w_lit {d : D} : OutW (ev Φ (.lit d) ρ) Q = Q (.dat d) ρ := rfl
@[simp ↓] theorem w_gc {x : Str} {d : D} : OutW (ev Φ (.gc x d) ρ) Q = Q (.dat d) ρ := rfl
@[simp ↓] theorem w_var {i : Nat} : OutW (ev Φ (.var i) ρ) Q = SlotW ρ[i]? ρ i Q := by
  rw [ev]
  rcases ρ[i]? with _ | (_ | s)
  · rfl
  · rfl
  · cases s <;> rfl
@[simp ↓] theorem w_mov {i : Nat} : OutW (ev Φ (.mov i) ρ) Q = match ρ[i]? with
    | some (some (.own ds)) => Q (.fresh ds) (ρ.set i none)
    | _ => False := by
  rw [ev]
  rcases ρ[i]? with _ | (_ | s)
  · rfl
  · rfl
  · cases s <;> rfl
@[simp ↓] theorem w_bin {op : Operator} {a b : E} : OutW (ev Φ (.bin op a b) ρ) Q = OutW (ev Φ a ρ) fun x ρ => OutW (ev Φ b ρ) fun y ρ => OptW (binD op x.frz y.frz) fun z => Q z ρ := by
  simp only [ev, OutW_bind, OutW_frz]
  refine OutW_ext fun x ρ => ?_
  try simp only [OutW_bind, OutW_frz]
  refine OutW_ext fun y ρ => ?_
  try simp only [OutW_bind, OutW_frz]
  cases binD op x.frz y.frz <;> rfl
@[simp ↓] theorem w_cmp {op : CmpOp} {a b : E} : OutW (ev Φ (.cmp op a b) ρ) Q = OutW (ev Φ a ρ) fun x ρ => OutW (ev Φ b ρ) fun y ρ => OptW (cmpD op x.frz y.frz) fun z => Q (.dat (.bool z)) ρ := by
  simp only [ev, OutW_bind, OutW_frz]
  refine OutW_ext fun x ρ => ?_
  try simp only [OutW_bind, OutW_frz]
  refine OutW_ext fun y ρ => ?_
  try simp only [OutW_bind, OutW_frz]
  cases cmpD op x.frz y.frz <;> rfl
@[simp ↓] theorem w_cmp2 {op op' : CmpOp} {a b c : E} : OutW (ev Φ (.cmp2 op op' a b c) ρ) Q = OutW (ev Φ a ρ) fun x ρ => OutW (ev Φ b ρ) fun y ρ => OptW (cmpD op x.frz y.frz) fun z => BoolW (.bool z) (OutW (ev Φ c ρ) fun z ρ => OptW (cmpD op' y.frz z.frz) fun z => Q (.dat (.bool z)) ρ) (Q (.dat (.bool false)) ρ) := by
  simp only [ev, OutW_bind, OutW_frz]
  refine OutW_ext fun x ρ => ?_
  try simp only [OutW_bind, OutW_frz]
  refine OutW_ext fun y ρ => ?_
  try simp only [OutW_bind, OutW_frz]
  cases cmpD op x.frz y.frz with
  | none => rfl
  | some z =>
    cases z with
    | true =>
      simp only [OptW, BoolW, OutW_bind, OutW_frz]
      refine OutW_ext fun z ρ => ?_
      try simp only [OutW_bind, OutW_frz]
      cases cmpD op' y.frz z.frz <;> rfl
    | false => rfl
@[simp ↓] theorem w_neg {a : E} : OutW (ev Φ (.neg a) ρ) Q = OutW (ev Φ a ρ) fun x ρ => IntW x.frz fun i => Q (.dat (.int (-i))) ρ := by
  simp only [ev, OutW_bind, OutW_frz]
  refine OutW_ext fun x ρ => ?_
  try simp only [OutW_bind, OutW_frz]
  cases x.frz <;> rfl
@[simp ↓] theorem w_not {a : E} : OutW (ev Φ (.not a) ρ) Q = OutW (ev Φ a ρ) fun x ρ => BoolW x.frz (Q (.dat (.bool false)) ρ) (Q (.dat (.bool true)) ρ) := by
  simp only [ev, OutW_bind, OutW_frz]
  refine OutW_ext fun x ρ => ?_
  try simp only [OutW_bind, OutW_frz]
  cases x.frz with
  | bool b => cases b <;> rfl
  | _ => rfl
@[simp ↓] theorem w_and_x {a b : E} : OutW (ev Φ (.and a b) ρ) Q = OutW (ev Φ a ρ) fun x ρ => BoolW x.frz (OutW (ev Φ b ρ) fun y ρ => Q (.dat y.frz) ρ) (Q (.dat (.bool false)) ρ) := by
  simp only [ev, OutW_bind, OutW_frz]
  refine OutW_ext fun x ρ => ?_
  try simp only [OutW_bind, OutW_frz]
  cases x.frz with
  | bool c =>
    cases c with
    | true => simp only [OutW_bind, OutW_frz]; rfl
    | false => rfl
  | _ => rfl
@[simp ↓] theorem w_or_x {a b : E} : OutW (ev Φ (.or a b) ρ) Q = OutW (ev Φ a ρ) fun x ρ => BoolW x.frz (Q (.dat (.bool true)) ρ) (OutW (ev Φ b ρ) fun y ρ => Q (.dat y.frz) ρ) := by
  simp only [ev, OutW_bind, OutW_frz]
  refine OutW_ext fun x ρ => ?_
  try simp only [OutW_bind, OutW_frz]
  cases x.frz with
  | bool c =>
    cases c with
    | false => simp only [OutW_bind, OutW_frz]; rfl
    | true => rfl
  | _ => rfl
@[simp ↓] theorem w_ite {c a b : E} : OutW (ev Φ (.ite c a b) ρ) Q = OutW (ev Φ c ρ) fun x ρ => BoolW x.frz (OutW (ev Φ a ρ) fun y ρ => Q (.dat y.frz) ρ) (OutW (ev Φ b ρ) fun y ρ => Q (.dat y.frz) ρ) := by
  simp only [ev, OutW_bind, OutW_frz]
  refine OutW_ext fun x ρ => ?_
  try simp only [OutW_bind, OutW_frz]
  cases x.frz with
  | bool c =>
    cases c <;> simp only [OutW_bind, OutW_frz] <;> rfl
  | _ => rfl
@[simp ↓] theorem w_tup {es : List E} : OutW (ev Φ (.tup es) ρ) Q = OutW (evL Φ es ρ) fun ds ρ => ds.length ≤ sizeLine ∧ Q (.dat (.tuple ds)) ρ := by
  simp only [ev, OutW_bind]
  refine OutW_ext fun x ρ => ?_
  try simp only [OutW_bind, OutW_frz]
  by_cases h : x.length ≤ sizeLine <;> simp [h, OutW]
@[simp ↓] theorem w_lst {es : List E} : OutW (ev Φ (.lst es) ρ) Q = OutW (evL Φ es ρ) fun ds ρ => ds.length ≤ sizeLine ∧ Q (.fresh ds) ρ := by
  simp only [ev, OutW_bind]
  refine OutW_ext fun x ρ => ?_
  try simp only [OutW_bind, OutW_frz]
  by_cases h : x.length ≤ sizeLine <;> simp [h, OutW]
@[simp ↓] theorem w_catT {bs : List Bool} {es : List E} : OutW (ev Φ (.cat true bs es) ρ) Q = OutW (evX Φ es bs ρ) fun ds ρ => ds.length ≤ sizeLine ∧ Q (.fresh ds) ρ := by
  simp only [ev, OutW_bind]
  refine OutW_ext fun x ρ => ?_
  try simp only [OutW_bind, OutW_frz]
  by_cases h : x.length ≤ sizeLine <;> simp [h, OutW]
@[simp ↓] theorem w_catF {bs : List Bool} {es : List E} : OutW (ev Φ (.cat false bs es) ρ) Q = OutW (evX Φ es bs ρ) fun ds ρ => ds.length ≤ sizeLine ∧ Q (.dat (.tuple ds)) ρ := by
  simp only [ev, OutW_bind]
  refine OutW_ext fun x ρ => ?_
  try simp only [OutW_bind, OutW_frz]
  by_cases h : x.length ≤ sizeLine <;> simp [h, OutW]
@[simp ↓] theorem w_ix {a b : E} : OutW (ev Φ (.ix a b) ρ) Q = OutW (ev Φ a ρ) fun x ρ => OutW (ev Φ b ρ) fun y ρ => OptW (ixD x.frz y.frz) fun z => Q (.dat z) ρ := by
  simp only [ev, OutW_bind, OutW_frz]
  refine OutW_ext fun x ρ => ?_
  try simp only [OutW_bind, OutW_frz]
  refine OutW_ext fun y ρ => ?_
  try simp only [OutW_bind, OutW_frz]
  cases ixD x.frz y.frz <;> rfl
@[simp ↓] theorem w_ixv {i : Nat} {b : E} : OutW (ev Φ (.ixv i b) ρ) Q = ((readL ρ[i]?).isSome = true ∧ OutW (ev Φ b ρ) fun y ρ => IntW y.frz fun k => OptW (readL ρ[i]?) fun xs => OptW (L2.atI xs k) fun z => Q (.dat z) ρ) := by
  rw [ev]
  by_cases h : (readL ρ[i]?).isSome = true
  · rw [if_pos h]
    simp only [OutW_bind, OutW_frz, h, true_and]
    refine OutW_ext fun y ρ => ?_
    try simp only [OutW_bind, OutW_frz]
    cases readL ρ[i]? with
    | none => cases y.frz <;> rfl
    | some xs =>
      cases y.frz with
      | int k =>
        simp only [IntW, OptW]
        cases L2.atI xs k <;> rfl
      | _ => rfl
  · rw [if_neg h]
    simp [h, OutW]
@[simp ↓] theorem w_slc {a lo hi : E} : OutW (ev Φ (.slc a lo hi) ρ) Q = OutW (ev Φ a ρ) fun x ρ => OutW (ev Φ lo ρ) fun l ρ => OutW (ev Φ hi ρ) fun h ρ => loOk lo l.frz = true ∧ loOk hi h.frz = true ∧ OptW (slcD x.frz l.frz h.frz) fun z => Q z ρ := by
  simp only [ev, OutW_bind, OutW_frz]
  refine OutW_ext fun x ρ => ?_
  try simp only [OutW_bind, OutW_frz]
  refine OutW_ext fun l ρ => ?_
  try simp only [OutW_bind, OutW_frz]
  refine OutW_ext fun h ρ => ?_
  try simp only [OutW_bind, OutW_frz]
  cases loOk lo l.frz with
  | false => simp [OutW]
  | true =>
    cases loOk hi h.frz with
    | false => simp [OutW]
    | true =>
      cases slcD x.frz l.frz h.frz <;> simp [OutW, OptW]
@[simp ↓] theorem w_rev {a : E} : OutW (ev Φ (.rev a) ρ) Q = OutW (ev Φ a ρ) fun x ρ => OptW (revD x.frz) fun z => Q z ρ := by
  simp only [ev, OutW_bind, OutW_frz]
  refine OutW_ext fun x ρ => ?_
  try simp only [OutW_bind, OutW_frz]
  cases revD x.frz <;> rfl
@[simp ↓] theorem w_slv {i : Nat} {lo hi : E} : OutW (ev Φ (.slv i lo hi) ρ) Q = ((readL ρ[i]?).isSome = true ∧ OutW (ev Φ lo ρ) fun l ρ => OutW (ev Φ hi ρ) fun h ρ => loOk lo l.frz = true ∧ loOk hi h.frz = true ∧ OptW (readL ρ[i]?) fun xs => OptW (optI l.frz) fun l => OptW (optI h.frz) fun h => Q (.fresh (cut xs l h)) ρ) := by
  rw [ev]
  by_cases hh : (readL ρ[i]?).isSome = true
  · rw [if_pos hh]
    simp only [OutW_bind, OutW_frz, hh, true_and]
    refine OutW_ext fun l ρ => ?_
    try simp only [OutW_bind, OutW_frz]
    refine OutW_ext fun h ρ => ?_
    try simp only [OutW_bind, OutW_frz]
    cases loOk lo l.frz with
    | false => simp [OutW]
    | true =>
      cases loOk hi h.frz with
      | false => simp [OutW]
      | true =>
        cases readL ρ[i]? with
        | none => simp [OutW, OptW]
        | some xs =>
          cases optI l.frz with
          | none => simp [OutW, OptW]
          | some l' =>
            cases optI h.frz <;> simp [OutW, OptW]
  · rw [if_neg hh]
    simp [hh, OutW]
@[simp ↓] theorem w_lenv {i : Nat} : OutW (ev Φ (.lenv i) ρ) Q = OptW (readL ρ[i]?) fun xs => Q (.dat (.int xs.length)) ρ := by
  rw [ev]
  cases readL ρ[i]? <;> rfl
@[simp ↓] theorem w_isi {a : E} {c : String} : OutW (ev Φ (.isi a c) ρ) Q = OutW (ev Φ a ρ) fun x ρ => OptW (isiD x.frz c) fun z => Q (.dat (.bool z)) ρ := by
  simp only [ev, OutW_bind, OutW_frz]
  refine OutW_ext fun x ρ => ?_
  try simp only [OutW_bind, OutW_frz]
  cases isiD x.frz c <;> rfl
@[simp ↓] theorem w_blt {id : String} {es : List E} : OutW (ev Φ (.blt id es) ρ) Q = OutW (evL Φ es ρ) fun ds ρ => OptW (bltD id ds) fun z => Q z ρ := by
  simp only [ev, OutW_bind]
  refine OutW_ext fun x ρ => ?_
  try simp only [OutW_bind, OutW_frz]
  cases bltD id x <;> rfl
@[simp ↓] theorem w_mth {m : String} {o : E} {es : List E} : OutW (ev Φ (.mth m o es) ρ) Q = OutW (ev Φ o ρ) fun x ρ => OutW (evL Φ es ρ) fun ds ρ => OptW (mthD m x.frz ds) fun z => Q z ρ := by
  simp only [ev, OutW_bind, OutW_frz]
  refine OutW_ext fun x ρ => ?_
  try simp only [OutW_bind, OutW_frz]
  refine OutW_ext fun y ρ => ?_
  try simp only [OutW_bind, OutW_frz]
  cases mthD m x.frz y <;> rfl
@[simp ↓] theorem w_mut {m : String} {i : Nat} {es : List E} : OutW (ev Φ (.mut m i es) ρ) Q = ((mutOf ρ[i]?).isSome = true ∧ OutW (evL Φ es ρ) fun ds ρ => OptW (mutOf ρ[i]?) fun xs => OptW (mutD m xs ds) fun p => Q (.dat p.1) (mutPut ρ i p.2)) := by
  rw [ev]
  by_cases h : (mutOf ρ[i]?).isSome = true
  · rw [if_pos h]
    simp only [OutW_bind, h, true_and]
    refine OutW_ext fun y ρ => ?_
    try simp only [OutW_bind, OutW_frz]
    cases mutOf ρ[i]? with
    | none => rfl
    | some xs =>
      simp only [OptW]
      cases mutD m xs y with
      | none => rfl
      | some p => rfl
  · rw [if_neg h]
    simp [h, OutW]
@[simp ↓] theorem w_call {f : Str} {as : List AE} {ks : List Str} {perm : List Nat} : OutW (ev Φ (.call f as ks perm) ρ) Q = OutW (evA Φ as ρ) fun ps ρ => OptW (permute ps perm) fun qs => OutW (callP Φ (.glob f) qs ρ) Q := by
  simp only [ev, OutW_bind]
  refine OutW_ext fun x ρ => ?_
  try simp only [OutW_bind, OutW_frz]
  cases permute x perm <;> rfl
@[simp ↓] theorem w_callv {i : Nat} {as : List AE} : OutW (ev Φ (.callv i as) ρ) Q = match ρ[i]? with
    | some (some (.fn F)) => OutW (evA Φ as ρ) fun ps ρ => OutW (callP Φ F ps ρ) Q
    | _ => False := by
  rw [ev]
  rcases ρ[i]? with _ | (_ | s)
  · rfl
  · rfl
  · cases s <;> first | rfl | exact OutW_bind
@[simp ↓] theorem w_call1 {f : Str} {e : E} : OutW (ev Φ (.call1 f e) ρ) Q = OutW (ev Φ e ρ) fun r ρ => FreshW r fun ds => ResW (Φ (.glob f) [.par ds]) fun r _ => Q r ρ := by
  simp only [ev, OutW_bind]
  refine OutW_ext fun r ρ => ?_
  try simp only [OutW_bind, OutW_frz]
  cases r with
  | dat d => rfl
  | fresh ds =>
    simp only [FreshW]
    cases Φ (.glob f) [.par ds] <;> rfl
@[simp ↓] theorem w_lc {elt : E} {tg : Tg} {it : It} {cs : List E} {vs : List Nat} : OutW (ev Φ (.lc elt tg it cs vs) ρ) Q = OutW (evI Φ it ρ) fun items ρ => OutW (lcLoop (lcB Φ tg cs elt) vs items ρ) fun ds ρ => ds.length ≤ sizeLine ∧ Q (.fresh ds) ρ := by
  have e : ev Φ (.lc elt tg it cs vs) ρ = (evI Φ it ρ).bind fun items ρ => (lcLoop (lcB Φ tg cs elt) vs items ρ).bind fun ds ρ => if ds.length ≤ sizeLine then .ok (.fresh ds) ρ else .bad := by
    simp only [ev]
    rfl
  rw [e]
  simp only [OutW_bind]
  refine OutW_ext fun x ρ => ?_
  try simp only [OutW_bind, OutW_frz]
  refine OutW_ext fun x ρ => ?_
  try simp only [OutW_bind, OutW_frz]
  by_cases h : x.length ≤ sizeLine <;> simp [h, OutW]
def ListW (d : D) (Q : List D → Prop) (_t : Tag Q := ⟨⟩) : Prop := match d with
  | .list ds => Q ds
  | _ => False
@[simp ↓] theorem ListW_list {ds : List D} {Q : List D → Prop} : ListW (.list ds) Q = Q ds := rfl
@[simp ↓] theorem w_addv {i : Nat} {e : E} : OutW (ev Φ (.addv i e) ρ) Q = ((mutOf ρ[i]?).isSome = true ∧ OutW (ev Φ e ρ) fun y ρ => OptW (mutOf ρ[i]?) fun xs => ListW y.frz fun ys => xs.length + ys.length ≤ sizeLine ∧ Q (.fresh (xs ++ ys)) ρ) := by
  rw [ev]
  by_cases h : (mutOf ρ[i]?).isSome = true
  · rw [if_pos h]
    simp only [OutW_bind, OutW_frz, h, true_and]
    refine OutW_ext fun y ρ => ?_
    try simp only [OutW_bind, OutW_frz]
    cases mutOf ρ[i]? with
    | none => rfl
    | some xs =>
      cases y.frz with
      | list ys =>
        simp only [OptW, ListW]
        by_cases h2 : xs.length + ys.length ≤ sizeLine <;> simp [h2, OutW]
      | _ => rfl
  · rw [if_neg h]
    simp [h, OutW]
@[simp ↓] theorem w_ofit {b : Bool} {it : It} : OutW (ev Φ (.ofit b it) ρ) Q = OutW (evI Φ it ρ) fun items ρ => items.length ≤ sizeLine ∧ Q (if b then .dat (.tuple items) else .fresh items) ρ := by
  rw [ev]
  simp only [OutW_bind]
  refine OutW_ext fun x ρ => ?_
  by_cases h : x.length ≤ sizeLine <;> cases b <;> simp [h, OutW]
@[simp ↓] theorem w_dc {k v : E} {tg : Tg} {it : It} {vs : List Nat} : OutW (ev Φ (.dc k v tg it vs) ρ) Q = OutW (evI Φ it ρ) fun items ρ => OutW (lcLoop (dcB Φ tg k v) vs items ρ) fun ds ρ => OptW (pairsK? ds) fun ps => ds.length ≤ sizeLine ∧ Q (.dat (dictX (mergeX [] ps))) ρ := by
  have e : ev Φ (.dc k v tg it vs) ρ = (evI Φ it ρ).bind fun items ρ => (lcLoop (dcB Φ tg k v) vs items ρ).bind fun ds ρ => match pairsK? ds with
        | some ps => if ds.length ≤ sizeLine then .ok (.dat (dictX (mergeX [] ps))) ρ else .bad
        | none => .bad := by
    simp only [ev]
    rfl
  rw [e]
  simp only [OutW_bind]
  refine OutW_ext fun x ρ => ?_
  try simp only [OutW_bind, OutW_frz]
  refine OutW_ext fun x ρ => ?_
  try simp only [OutW_bind, OutW_frz]
  cases pairsK? x with
  | none => rfl
  | some ps =>
    by_cases h : x.length ≤ sizeLine <;> simp [h, OutW, OptW]
@[simp ↓] theorem w_Xnil {Q : List D → Env → Prop} : OutW (evX Φ [] [] ρ) Q = Q [] ρ := rfl
@[simp ↓] theorem w_XconsF {Q : List D → Env → Prop} {e : E} {es : List E} {bs : List Bool} : OutW (evX Φ (e :: es) (false :: bs) ρ) Q = OutW (ev Φ e ρ) fun d ρ => OutW (evX Φ es bs ρ) fun ds ρ => Q (d.frz :: ds) ρ := by
  simp only [evX, OutW_bind, OutW_frz]
  refine OutW_ext fun x ρ => ?_
  simp only [OutW_bind, Bool.false_eq_true, if_false]
  show OutW ((evX Φ es bs ρ).bind fun ds ρ => Out.ok ([x.frz] ++ ds) ρ) Q = _
  simp only [OutW_bind]
  rfl
@[simp ↓] theorem w_XconsT {Q : List D → Env → Prop} {e : E} {es : List E} {bs : List Bool} : OutW (evX Φ (e :: es) (true :: bs) ρ) Q = OutW (ev Φ e ρ) fun d ρ => OptW (seqLT d.frz) fun xs => OutW (evX Φ es bs ρ) fun ds ρ => Q (xs ++ ds) ρ := by
  simp only [evX, OutW_bind, OutW_frz]
  refine OutW_ext fun x ρ => ?_
  simp only [OutW_bind, if_true]
  cases seqLT x.frz with
  | none => rfl
  | some v =>
    show OutW ((evX Φ es bs ρ).bind fun ds ρ => Out.ok (v ++ ds) ρ) Q = OutW (evX Φ es bs ρ) fun ds ρ => Q (v ++ ds) ρ
    simp only [OutW_bind]
    rfl
@[simp ↓] theorem w_Lnil {Q : List D → Env → Prop} : OutW (evL Φ [] ρ) Q = Q [] ρ := rfl
@[simp ↓] theorem w_Lcons {Q : List D → Env → Prop} {e : E} {es : List E} : OutW (evL Φ (e :: es) ρ) Q = OutW (ev Φ e ρ) fun d ρ => OutW (evL Φ es ρ) fun ds ρ => Q (d.frz :: ds) ρ := by
  simp only [evL, OutW_bind, OutW_frz]
  refine OutW_ext fun x ρ => ?_
  simp only [OutW_bind]
  rfl
@[simp ↓] theorem w_Cnil {Q : Bool → Env → Prop} : OutW (evC Φ [] ρ) Q = Q true ρ := rfl
@[simp ↓] theorem w_Ccons {Q : Bool → Env → Prop} {e : E} {es : List E} : OutW (evC Φ (e :: es) ρ) Q = OutW (ev Φ e ρ) fun d ρ => BoolW d.frz (OutW (evC Φ es ρ) Q) (Q false ρ) := by
  simp only [evC, OutW_bind, OutW_frz]
  refine OutW_ext fun d ρ => ?_
  try simp only [OutW_bind, OutW_frz]
  cases d.frz with
  | bool b => cases b <;> rfl
  | _ => rfl
@[simp ↓] theorem w_Anil {Q : List PArg → Env → Prop} : OutW (evA Φ [] ρ) Q = Q [] ρ := rfl
@[simp ↓] theorem w_Ad {Q : List PArg → Env → Prop} {e : E} {as : List AE} : OutW (evA Φ (.d e :: as) ρ) Q = OutW (ev Φ e ρ) fun d ρ => OutW (evA Φ as ρ) fun ps ρ => Q (.dat d.frz :: ps) ρ := by
  simp only [evA, evA1, OutW_bind, OutW_frz]
  refine OutW_ext fun x ρ => ?_
  simp only [OutW_bind, OutW_ok]
@[simp ↓] theorem w_Amv {Q : List PArg → Env → Prop} {i : Nat} {as : List AE} : OutW (evA Φ (.mv i :: as) ρ) Q = (((match ρ[i]? with
    | some (some (.own _)) => true
    | some (some (.par _)) => true
    | some (some (.ro _)) => true
    | _ => false) = true) ∧ OutW (evA Φ as ρ) fun ps ρ => Q (.slot i :: ps) ρ) := by
  simp only [evA, evA1, OutW_bind]
  rcases ρ[i]? with _ | (_ | s)
  · simp [OutW]
  · simp [OutW]
  · cases s <;> simp only [OutW_ok, OutW_bind, true_and] <;> first | rfl | simp [OutW]
@[simp ↓] theorem w_Afg {Q : List PArg → Env → Prop} {f : Str} {as : List AE} : OutW (evA Φ (.fg f :: as) ρ) Q = OutW (evA Φ as ρ) fun ps ρ => Q (.fn (.glob f) :: ps) ρ := by
  simp only [evA, evA1, OutW_bind, OutW_ok]
@[simp ↓] theorem w_Afv {Q : List PArg → Env → Prop} {i : Nat} {as : List AE} : OutW (evA Φ (.fv i :: as) ρ) Q = match ρ[i]? with
    | some (some (.fn F)) => OutW (evA Φ as ρ) fun ps ρ => Q (.fn F :: ps) ρ
    | _ => False := by
  simp only [evA, evA1, OutW_bind]
  rcases ρ[i]? with _ | (_ | s)
  · simp [OutW]
  · simp [OutW]
  · cases s <;> simp only [OutW_ok, OutW_bind] <;> first | rfl | simp [OutW]
@[simp ↓] theorem w_Alam {Q : List PArg → Env → Prop} {id : Nat} {caps : List Nat} {as : List AE} : OutW (evA Φ (.lam id caps :: as) ρ) Q = OptW (capOf ρ caps) fun cs => OutW (evA Φ as ρ) fun ps ρ => Q (.fn (.clo id cs) :: ps) ρ := by
  simp only [evA, evA1, OutW_bind]
  cases capOf ρ caps with
  | none => rfl
  | some cs => simp only [OptW, OutW_ok, OutW_bind]
@[simp ↓] theorem w_Amade {Q : List PArg → Env → Prop} {i id : Nat} {caps : List Nat} {as : List AE} : OutW (evA Φ (.made i id caps :: as) ρ) Q = match ρ[i]? with
    | some (some .mk) => OptW (capOf ρ caps) fun cs => OutW (evA Φ as ρ) fun ps ρ => Q (.fn (.clo id cs) :: ps) ρ
    | _ => False := by
  simp only [evA, evA1, OutW_bind]
  cases h : capOf ρ caps with
  | none =>
    split
    · rename_i h1 h2
      cases h2
    · split <;> rfl
  | some cs =>
    split
    · rename_i h1 h2
      cases h2
      rw [h1]
      simp only [OptW, OutW_ok, OutW_bind]
    · rename_i h1
      split
      · rename_i h2
        exact absurd rfl (h1 _ h2)
      · rfl
@[simp ↓] theorem w_Iseq {Q : List D → Env → Prop} {e : E} : OutW (evI Φ (.seq e) ρ) Q = OutW (ev Φ e ρ) fun d ρ => OptW (seqD d.frz) fun items => Q items ρ := by
  simp only [evI, OutW_bind, OutW_frz]
  refine OutW_ext fun d ρ => ?_
  try simp only [OutW_bind, OutW_frz]
  cases seqD d.frz <;> rfl
@[simp ↓] theorem w_Irng {Q : List D → Env → Prop} {a b : E} : OutW (evI Φ (.rng a b false) ρ) Q = OutW (ev Φ a ρ) fun x ρ => IntW x.frz fun j => R62 j ∧ Q (rngD 0 j) ρ := by
  simp only [evI, OutW_bind, OutW_frz]
  refine OutW_ext fun x ρ => ?_
  try simp only [OutW_bind, OutW_frz]
  cases x.frz with
  | int j =>
    simp only [IntW]
    by_cases h : -(2 ^ 62) ≤ j ∧ j < 2 ^ 62
    · rw [if_pos h]
      exact propext ⟨fun x => ⟨h, x⟩, fun x => x.2⟩
    · rw [if_neg h]
      exact propext ⟨fun x => x.elim, fun x => (h x.1).elim⟩
  | _ => simp [OutW, IntW]
@[simp ↓] theorem w_Irng2 {Q : List D → Env → Prop} {a b : E} : OutW (evI Φ (.rng a b true) ρ) Q = OutW (ev Φ a ρ) fun x ρ => OutW (ev Φ b ρ) fun y ρ => IntW x.frz fun i => IntW y.frz fun j => (R62 i ∧ R62 j) ∧ Q (rngD i j) ρ := by
  simp only [evI, OutW_bind, OutW_frz, if_true]
  refine OutW_ext fun x ρ => ?_
  try simp only [OutW_bind, OutW_frz]
  refine OutW_ext fun y ρ => ?_
  try simp only [OutW_bind, OutW_frz]
  cases x.frz with
  | int i =>
    cases y.frz with
    | int j =>
      simp only [IntW]
      by_cases h : -(2 ^ 62) ≤ i ∧ i < 2 ^ 62 ∧ -(2 ^ 62) ≤ j ∧ j < 2 ^ 62
      · rw [if_pos h]
        exact propext ⟨fun x => ⟨⟨⟨h.1, h.2.1⟩, h.2.2⟩, x⟩, fun x => x.2⟩
      · rw [if_neg h]
        exact propext ⟨fun x => x.elim, fun x => (h ⟨x.1.1.1, x.1.1.2, x.1.2⟩).elim⟩
    | _ => simp [OutW, IntW]
  | _ => simp [OutW, IntW]
@[simp ↓] theorem w_Ienum {Q : List D → Env → Prop} {e : E} : OutW (evI Φ (.enum e) ρ) Q = OutW (ev Φ e ρ) fun d ρ => OptW (seqLT d.frz) fun items => Q (enumD 0 items) ρ := by
  simp only [evI, OutW_bind, OutW_frz]
  refine OutW_ext fun d ρ => ?_
  try simp only [OutW_bind, OutW_frz]
  cases seqLT d.frz <;> rfl
@[simp ↓] theorem w_Izip {Q : List D → Env → Prop} {a b : E} : OutW (evI Φ (.zip a b) ρ) Q = OutW (ev Φ a ρ) fun x ρ => OutW (ev Φ b ρ) fun y ρ => OptW (match x.frz, y.frz with
    | .list xs, .list ys => some (List.zipWith (fun u v => PyData.tuple [u, v]) xs ys)
    | .tuple xs, .tuple ys => some (List.zipWith (fun u v => PyData.tuple [u, v]) xs ys)
    | .list xs, .tuple ys => some (List.zipWith (fun u v => PyData.tuple [u, v]) xs ys)
    | .tuple xs, .list ys => some (List.zipWith (fun u v => PyData.tuple [u, v]) xs ys)
    | _, _ => none) fun items => Q items ρ := by
  simp only [evI, OutW_bind, OutW_frz]
  refine OutW_ext fun x ρ => ?_
  try simp only [OutW_bind, OutW_frz]
  refine OutW_ext fun y ρ => ?_
  try simp only [OutW_bind, OutW_frz]
  cases x.frz <;> cases y.frz <;> rfl
section
variable {W : Nat} {P : Env → Prop}
@[simp ↓] theorem s_asg_x {tg : Tg} {e : E} : FlW (evS Φ W (.asg tg e) ρ) P Q = OutW (ev Φ e ρ) fun d ρ => OptW (bindT tg d.frz ρ) P := by
  simp only [evS, FlW_then, OutW_frz]
  refine OutW_ext fun d ρ => ?_
  try simp only [OutW_bind, OutW_frz]
  cases bindT tg d.frz ρ <;> rfl
@[simp ↓] theorem s_asgO_x {i : Nat} {e : E} : FlW (evS Φ W (.asgO i e) ρ) P Q = OutW (ev Φ e ρ) fun r ρ => FreshW r fun ds => OptW (setE ρ i (.own ds)) P := by
  simp only [evS, FlW_then]
  refine OutW_ext fun r ρ => ?_
  try simp only [OutW_bind, OutW_frz]
  cases r with
  | dat d => rfl
  | fresh ds =>
    simp only [FreshW]
    cases setE ρ i (.own ds) <;> rfl
@[simp ↓] theorem s_parl {is : List (Nat × Bool)} {es : List E} : FlW (evS Φ W (.parl is es) ρ) P Q = OutW (evEs Φ es ρ) fun rs ρ => OptW (setEs is rs ρ) P := by
  simp only [evS, FlW_then]
  refine OutW_ext fun r ρ => ?_
  try simp only [OutW_bind, OutW_frz]
  cases setEs is r ρ <;> rfl
@[simp ↓] theorem w_EsNil {Q : List EV → Env → Prop} : OutW (evEs Φ [] ρ) Q = Q [] ρ := rfl
@[simp ↓] theorem w_EsCons {Q : List EV → Env → Prop} {e : E} {es : List E} : OutW (evEs Φ (e :: es) ρ) Q = OutW (ev Φ e ρ) fun d ρ => OutW (evEs Φ es ρ) fun ds ρ => Q (d :: ds) ρ := by
  simp only [evEs, OutW_bind]
  refine OutW_ext fun x ρ => ?_
  simp only [OutW_bind]
  rfl
@[simp ↓] theorem s_setx_x {i : Nat} {k e : E} : FlW (evS Φ W (.setx i k e) ρ) P Q = OutW (ev Φ e ρ) fun d ρ => (mutOf ρ[i]?).isSome = true ∧ OutW (ev Φ k ρ) fun k ρ => OptW (mutOf ρ[i]?) fun xs => IntW k.frz fun k => OptW (L2.ixN xs.length k) fun j => P (mutPut ρ i (xs.set j d.frz)) := by
  simp only [evS, FlW_then, OutW_frz]
  refine OutW_ext fun d ρ => ?_
  try simp only [OutW_bind, OutW_frz]
  by_cases h : (mutOf ρ[i]?).isSome = true
  · rw [if_pos h]
    simp only [h, true_and, FlW_then, OutW_frz]
    refine OutW_ext fun k ρ => ?_
    try simp only [OutW_bind, OutW_frz]
    cases mutOf ρ[i]? with
    | none => rfl
    | some xs =>
      cases k.frz with
      | int k =>
        simp only [OptW, IntW]
        cases L2.ixN xs.length k <;> rfl
      | _ => rfl
  · simp [h, FlW]
@[simp ↓] theorem s_expr_x {e : E} : FlW (evS Φ W (.expr e) ρ) P Q = OutW (ev Φ e ρ) fun _ ρ => P ρ := by
  simp only [evS, FlW_then]
  rfl
@[simp ↓] theorem s_ret_x {e : E} : FlW (evS Φ W (.ret e) ρ) P Q = OutW (ev Φ e ρ) Q := by
  simp only [evS, FlW_then]
  rfl
@[simp ↓] theorem s_ite {c : E} {a b : List S} : FlW (evS Φ W (.ite c a b) ρ) P Q = OutW (ev Φ c ρ) fun d ρ => BoolW d.frz (FlW (evB Φ W a ρ) P Q) (FlW (evB Φ W b ρ) P Q) := by
  simp only [evS, FlW_then, OutW_frz]
  refine OutW_ext fun d ρ => ?_
  try simp only [OutW_bind, OutW_frz]
  cases d.frz with
  | bool b => cases b <;> rfl
  | _ => rfl
@[simp ↓] theorem s_for_x {tg : Tg} {it : It} {body : List S} : FlW (evS Φ W (.for tg it body) ρ) P Q = OutW (evI Φ it ρ) fun items ρ => FlW (forLoop (forB Φ W tg body) items ρ) P Q := by
  have e : evS Φ W (.for tg it body) ρ = (evI Φ it ρ).thenF fun items ρ => forLoop (forB Φ W tg body) items ρ := by
    simp only [evS]
    rfl
  rw [e, FlW_then]
@[simp ↓] theorem s_while_x {c : E} {body : List S} : FlW (evS Φ W (.while c body) ρ) P Q = FlW (whileLoop (whC Φ c) (evB Φ W body) W ρ) P Q := by
  simp only [evS]
  rfl
@[simp ↓] theorem s_defn_x {i : Nat} : FlW (evS Φ W (.defn i) ρ) P Q = ((isPar ρ[i]? = false ∧ i < ρ.length) ∧ P (ρ.set i (some .mk))) := by
  simp only [evS]
  cases isPar ρ[i]? with
  | true => simp [FlW]
  | false =>
    by_cases h : i < ρ.length <;> simp [h, FlW]
@[simp ↓] theorem s_forget_x {vs : List Nat} : FlW (evS Φ W (.forget vs) ρ) P Q = P (forgetE ρ vs) := rfl
@[simp ↓] theorem s_pass_x : FlW (evS Φ W .pass ρ) P Q = P ρ := rfl
@[simp ↓] theorem s_nil : FlW (evB Φ W [] ρ) P Q = P ρ := rfl
@[simp ↓] theorem s_cons {s : S} {ss : List S} : FlW (evB Φ W (s :: ss) ρ) P Q = FlW (evS Φ W s ρ) (fun ρ => FlW (evB Φ W ss ρ) P Q) Q := by
  simp only [evB, FlW_seq]
end
@[simp ↓] theorem w_callP {F : FV} {ps : List PArg} : OutW (callP Φ F ps ρ) Q = ((slotsOf ps).Nodup ∧ OptW (PArgs.now ρ ps) fun as => ResW (Φ F as) fun r as' => Q r (PArgs.back ps as' ρ)) := by
  unfold callP
  by_cases h : (slotsOf ps).Nodup
  · rw [if_pos h]
    simp only [h, true_and]
    cases PArgs.now ρ ps with
    | none => rfl
    | some as =>
      simp only [OptW]
      cases Φ F as <;> rfl
  · rw [if_neg h]
    simp [h, OutW]
end
/-- what a loop's body may do, and what is behind it -/
def FlC (f : Fl) (P : Env → Prop) (Q : Env → Prop) (R : EV → Env → Prop) (_t : Tag P := ⟨⟩) (_u : Tag Q := ⟨⟩) (_v : Tag R := ⟨⟩) : Prop := match f with
  | .nx ρ => P ρ
  | .ct ρ => P ρ
  | .bk ρ => Q ρ
  | .rt r ρ => R r ρ
  | _ => False
theorem FlW_for_nil {f : D → Env → Fl} {ρ : Env} {Q : Env → Prop} {R : EV → Env → Prop} : FlW (forLoop f [] ρ) Q R = Q ρ := rfl
/-- a turn that neither breaks nor goes on at once -/
theorem FlW_for_cons {f : D → Env → Fl} {d : D} {ds : List D} {ρ : Env} {Q : Env → Prop} {R : EV → Env → Prop} (h : FlW (f d ρ) (fun ρ' => FlW (forLoop f ds ρ') Q R) R) : FlW (forLoop f (d :: ds) ρ) Q R := by
  unfold forLoop
  cases e : f d ρ with
  | nx ρ' =>
    rw [e] at h
    exact h
  | rt r ρ' =>
    rw [e] at h
    exact h
  | bk ρ' =>
    rw [e] at h
    exact h.elim
  | ct ρ' =>
    rw [e] at h
    exact h.elim
  | exc c x ρ' =>
    rw [e] at h
    exact h.elim
  | bad =>
    rw [e] at h
    exact h.elim
/-- for loops, by what holds ahead of the elements that are left -/
theorem FlW_for {f : D → Env → Fl} {I : List D → Env → Prop} {Q : Env → Prop} {R : EV → Env → Prop} (hs : ∀ d ds ρ, I (d :: ds) ρ → FlW (f d ρ) (I ds) R) (hn : ∀ ρ, I [] ρ → Q ρ) : ∀ (items : List D) (ρ : Env), I items ρ → FlW (forLoop f items ρ) Q R
  | [], ρ, h => hn ρ h
  | d :: ds, ρ, h => by
    have hd := hs d ds ρ h
    unfold forLoop
    revert hd
    cases f d ρ with
    | nx ρ' => exact fun hd => FlW_for hs hn ds ρ' hd
    | rt r ρ' => exact id
    | bk ρ' => exact fun h => h.elim
    | ct ρ' => exact fun h => h.elim
    | exc c x ρ' => exact id
    | bad => exact id
theorem OutW_lc {f : D → Env → Out (Option D)} {vs : List Nat} {I : List D → List D → Env → Prop} {Q : List D → Env → Prop} (hs : ∀ done d ds ρ, I done (d :: ds) ρ → OutW (f d (wipeE ρ vs)) (fun o ρ1 => I (done ++ o.toList) ds (restE ρ ρ1 vs))) (hn : ∀ done ρ, I done [] ρ → Q done ρ) :
    ∀ (items done : List D) (ρ : Env), I done items ρ → OutW (lcLoop f vs items ρ) (fun r ρ' => Q (done ++ r) ρ')
  | [], done, ρ, h => by
    show Q (done ++ []) ρ
    rw [List.append_nil]
    exact hn done ρ h
  | d :: ds, done, ρ, h => by
    unfold lcLoop
    rw [OutW_bind]
    refine (hs done d ds ρ h).mono fun o ρ1 h1 => ?_
    rw [OutW_bind]
    refine (OutW_lc hs hn ds (done ++ o.toList) _ h1).mono fun r ρ2 h2 => ?_
    show Q (done ++ (o.toList ++ r)) ρ2
    rw [← List.append_assoc]
    exact h2
theorem OutW_map {f : D → Env → Out (Option D)} {vs : List Nat} {g : D → D} {ρ : Env} {items : List D} {Q : List D → Env → Prop} (h : ∀ d ∈ items, OutW (f d (wipeE ρ vs)) (fun o ρ1 => o = some (g d) ∧ restE ρ ρ1 vs = ρ)) (hq : Q (items.map g) ρ) : OutW (lcLoop f vs items ρ) Q := by
  refine (OutW_lc (I := fun done rest ρ' => ρ' = ρ ∧ ∃ pre, items = pre ++ rest ∧ done = pre.map g) (Q := fun r ρ' => Q r ρ') (fun done d ds ρ' hI => ?_) (fun done ρ' hI => ?_) items [] ρ ⟨rfl, [], rfl, rfl⟩).mono fun r ρ' h => h
  · obtain ⟨rfl, pre, e1, rfl⟩ := hI
    refine (h d (by rw [e1]; simp)).mono fun o ρ1 ho => ?_
    obtain ⟨rfl, h2⟩ := ho
    exact ⟨h2, pre ++ [d], by rw [e1]; simp, by simp⟩
  · obtain ⟨rfl, pre, e1, rfl⟩ := hI
    rw [List.append_nil] at e1
    rw [← e1]
    exact hq
theorem OutW_map' {α : Type} {f : D → Env → Out (Option D)} {vs : List Nat} {l : List α} {e : α → D} {g : α → D} {ρ : Env} {Q : List D → Env → Prop} (h : ∀ x ∈ l, OutW (f (e x) (wipeE ρ vs)) (fun o ρ1 => o = some (g x) ∧ restE ρ ρ1 vs = ρ)) (hq : Q (l.map g) ρ) : OutW (lcLoop f vs (l.map e) ρ) Q := by
  refine (OutW_lc (I := fun done rest ρ' => ρ' = ρ ∧ ∃ pre post, l = pre ++ post ∧ rest = post.map e ∧ done = pre.map g) (Q := fun r ρ' => Q r ρ') (fun done d ds ρ' hI => ?_) (fun done ρ' hI => ?_) (l.map e) [] ρ ⟨rfl, [], l, rfl, rfl, rfl⟩).mono fun r ρ' h => h
  · obtain ⟨rfl, pre, post, e1, e2, rfl⟩ := hI
    cases post with
    | nil => cases e2
    | cons x post =>
      simp only [List.map_cons, List.cons.injEq] at e2
      obtain ⟨rfl, rfl⟩ := e2
      refine (h x (by rw [e1]; simp)).mono fun o ρ1 ho => ?_
      obtain ⟨rfl, h2⟩ := ho
      exact ⟨h2, pre ++ [x], post, by rw [e1]; simp, rfl, by simp⟩
  · obtain ⟨rfl, pre, post, e1, e2, rfl⟩ := hI
    obtain rfl : post = [] := by simpa using e2.symm
    rw [List.append_nil] at e1
    rw [← e1]
    exact hq
theorem OutW_filt {α : Type} {f : D → Env → Out (Option D)} {vs : List Nat} {l : List α} {e : α → D} {g : α → Option D} {ρ : Env} {Q : List D → Env → Prop} (h : ∀ x ∈ l, OutW (f (e x) (wipeE ρ vs)) (fun o ρ1 => o = g x ∧ restE ρ ρ1 vs = ρ)) (hq : Q (l.filterMap g) ρ) : OutW (lcLoop f vs (l.map e) ρ) Q := by
  refine (OutW_lc (I := fun done rest ρ' => ρ' = ρ ∧ ∃ pre post, l = pre ++ post ∧ rest = post.map e ∧ done = pre.filterMap g) (Q := fun r ρ' => Q r ρ') (fun done d ds ρ' hI => ?_) (fun done ρ' hI => ?_) (l.map e) [] ρ ⟨rfl, [], l, rfl, rfl, rfl⟩).mono fun r ρ' h => h
  · obtain ⟨rfl, pre, post, e1, e2, rfl⟩ := hI
    cases post with
    | nil => cases e2
    | cons x post =>
      simp only [List.map_cons, List.cons.injEq] at e2
      obtain ⟨rfl, rfl⟩ := e2
      refine (h x (by rw [e1]; simp)).mono fun o ρ1 ho => ?_
      obtain ⟨rfl, h2⟩ := ho
      refine ⟨h2, pre ++ [x], post, by rw [e1]; simp, rfl, ?_⟩
      rw [List.filterMap_append]
      cases hg : g x <;> simp [hg]
  · obtain ⟨rfl, pre, post, e1, e2, rfl⟩ := hI
    obtain rfl : post = [] := by simpa using e2.symm
    rw [List.append_nil] at e1
    rw [← e1]
    exact hq
theorem OutW_fmap {f : D → Env → Out (Option D)} {vs : List Nat} {g : D → Option D} {ρ : Env} {items : List D} {Q : List D → Env → Prop} (h : ∀ d ∈ items, OutW (f d (wipeE ρ vs)) (fun o ρ1 => o = g d ∧ restE ρ ρ1 vs = ρ)) (hq : Q (items.filterMap g) ρ) : OutW (lcLoop f vs items ρ) Q := by
  refine (OutW_lc (I := fun done rest ρ' => ρ' = ρ ∧ ∃ pre, items = pre ++ rest ∧ done = pre.filterMap g) (Q := fun r ρ' => Q r ρ') (fun done d ds ρ' hI => ?_) (fun done ρ' hI => ?_) items [] ρ ⟨rfl, [], rfl, rfl⟩).mono fun r ρ' h => h
  · obtain ⟨rfl, pre, e1, rfl⟩ := hI
    refine (h d (by rw [e1]; simp)).mono fun o ρ1 ho => ?_
    obtain ⟨rfl, h2⟩ := ho
    refine ⟨h2, pre ++ [d], by rw [e1]; simp, ?_⟩
    rw [List.filterMap_append]
    cases hg : g d <;> simp [hg]
  · obtain ⟨rfl, pre, e1, rfl⟩ := hI
    rw [List.append_nil] at e1
    rw [← e1]
    exact hq
/-- a comprehension whose elements leave all as it is -/
theorem lc_map {f : D → Env → Out (Option D)} {vs : List Nat} {g : D → D} {ρ : Env} : ∀ {items : List D}, (∀ d ∈ items, ∃ ρ1, f d (wipeE ρ vs) = .ok (some (g d)) ρ1 ∧ restE ρ ρ1 vs = ρ) → lcLoop f vs items ρ = .ok (items.map g) ρ
  | [], _ => rfl
  | d :: ds, h => by
    obtain ⟨ρ1, h1, h2⟩ := h d (.head _)
    unfold lcLoop
    rw [h1]
    simp only [Out.bind, h2]
    rw [lc_map fun d hd => h d (.tail _ hd)]
    rfl
end
end Ev
namespace Ev
open PySem
section
variable {i j : Int} {x y : Str} {xs ys : List D} {a b : Bool} {d e : D} {l h : Option Int}
@[simp] theorem b_add : binD .Add (.int i) (.int j) = some (.dat (.int (i + j))) := rfl
@[simp] theorem b_adds : binD .Add (.str x) (.str y) = if x.length + y.length ≤ sizeLine then some (.dat (.str (x ++ y))) else none := rfl
@[simp] theorem b_addt : binD .Add (.tuple xs) (.tuple ys) = if xs.length + ys.length ≤ sizeLine then some (.dat (.tuple (xs ++ ys))) else none := rfl
@[simp] theorem b_addl : binD .Add (.list xs) (.list ys) = if xs.length + ys.length ≤ sizeLine then some (.fresh (xs ++ ys)) else none := rfl
@[simp] theorem b_sub : binD .Sub (.int i) (.int j) = some (.dat (.int (i - j))) := rfl
@[simp] theorem b_mul : binD .Mult (.int i) (.int j) = if mulOk i j then some (.dat (.int (i * j))) else none := rfl
@[simp] theorem b_rept : binD .Mult (.tuple xs) (.int k) = if xs.isEmpty = false ∧ 2 ≤ k ∧ k ≤ 1000 ∧ xs.length ≤ 1000 then some (.dat (.tuple (List.replicate k.toNat xs).flatten)) else none := rfl
@[simp] theorem b_repl : binD .Mult (.list xs) (.int k) = if 0 ≤ k ∧ k ≤ 1000 ∧ xs.length ≤ 1000 then some (.fresh (List.replicate k.toNat xs).flatten) else none := rfl
@[simp] theorem b_div : binD .FloorDiv (.int i) (.int j) = if divOk j then some (.dat (.int (i / j))) else none := rfl
@[simp] theorem b_mod : binD .Mod (.int i) (.int j) = if 0 < j then some (.dat (.int (i % j))) else none := rfl
@[simp] theorem b_pow : binD .Pow (.int i) (.int j) = if 0 ≤ j ∧ j ≤ 1000000 ∧ i.natAbs < 2 ^ 64 then some (.dat (.int (i ^ j.toNat))) else none := rfl
@[simp] theorem c_eq : cmpD .Eq d e = if SeqAt.shaped d && SeqAt.shaped e then some (PyData.eqv d e) else none := rfl
@[simp] theorem c_ne : cmpD .NotEq d e = if SeqAt.shaped d && SeqAt.shaped e then some (!PyData.eqv d e) else none := rfl
@[simp] theorem c_lt : cmpD .Lt (.int i) (.int j) = some (decide (i < j)) := rfl
@[simp] theorem c_le : cmpD .LtE (.int i) (.int j) = some (decide (i ≤ j)) := rfl
@[simp] theorem c_gt : cmpD .Gt (.int i) (.int j) = some (decide (j < i)) := rfl
@[simp] theorem c_ge : cmpD .GtE (.int i) (.int j) = some (decide (j ≤ i)) := rfl
@[simp] theorem c_lts : cmpD .Lt (.str x) (.str y) = some (decide (x.cps.toList < y.cps.toList)) := rfl
@[simp] theorem c_is : cmpD .Is d .none = some (match d with | .none => true | _ => false) := by cases d <;> rfl
@[simp] theorem c_isnot : cmpD .IsNot d .none = some (match d with | .none => false | _ => true) := by cases d <;> rfl
@[simp] theorem c_isb {a b : Bool} : cmpD .Is (.bool a) (.bool b) = some (decide (a = b)) := rfl
@[simp] theorem c_isnb {a b : Bool} : cmpD .IsNot (.bool a) (.bool b) = some (!decide (a = b)) := rfl
@[simp] theorem c_ins : cmpD .In (.str x) (.str y) = some (!(Builtin.Str.occurrences y x 0 y.length 1).isEmpty) := rfl
@[simp] theorem c_nins : cmpD .NotIn (.str x) (.str y) = some (!(!(Builtin.Str.occurrences y x 0 y.length 1).isEmpty)) := rfl
@[simp] theorem c_inl : cmpD .In d (.list ys) = if SeqAt.shaped d && SeqAt.shaped (.list ys) then some (ys.any fun y => PyData.eqv y d) else none := by cases d <;> rfl
@[simp] theorem c_int : cmpD .In d (.tuple ys) = if SeqAt.shaped d && SeqAt.shaped (.tuple ys) then some (ys.any fun y => PyData.eqv y d) else none := by cases d <;> rfl
@[simp] theorem c_ninl : cmpD .NotIn d (.list ys) = if SeqAt.shaped d && SeqAt.shaped (.list ys) then some (!ys.any fun y => PyData.eqv y d) else none := by cases d <;> rfl
@[simp] theorem c_nint : cmpD .NotIn d (.tuple ys) = if SeqAt.shaped d && SeqAt.shaped (.tuple ys) then some (!ys.any fun y => PyData.eqv y d) else none := by cases d <;> rfl
@[simp] theorem i_int : isiD d "int" = some (match d with | .int _ | .bool _ => true | _ => false) := rfl
@[simp] theorem i_bool : isiD d "bool" = some (match d with | .bool _ => true | _ => false) := rfl
@[simp] theorem i_str_x : isiD d "str" = some (match d with | .str _ => true | _ => false) := rfl
@[simp] theorem i_tuple : isiD d "tuple" = some (match d with | .tuple _ => true | _ => false) := rfl
@[simp] theorem i_list_x : isiD d "list" = some (match d with | .list _ => true | _ => false) := rfl
@[simp] theorem x_list : ixD (.list xs) (.int i) = L2.atI xs i := rfl
@[simp] theorem x_tuple : ixD (.tuple xs) (.int i) = L2.atI xs i := rfl
@[simp] theorem x_str : ixD (.str x) (.int i) = if x.length ≤ sizeLine then (L2.atI x.cps.toList i).map (fun c => PyData.str ⟨#[c]⟩) else none := rfl
@[simp] theorem x_dicts {kvs : List (D × D)} : ixD (.dict kvs) (.str x) = (kvs.find? fun kv => PyData.eqv kv.1 (.str x)).map (·.2) := rfl
@[simp] theorem x_dicti {kvs : List (D × D)} : ixD (.dict kvs) (.int i) = (kvs.find? fun kv => PyData.eqv kv.1 (.int i)).map (·.2) := rfl
@[simp] theorem t_len_l : bltD "len" [.list xs] = some (.dat (.int xs.length)) := rfl
@[simp] theorem t_len_t : bltD "len" [.tuple xs] = some (.dat (.int xs.length)) := rfl
@[simp] theorem t_len_s : bltD "len" [.str x] = if x.length ≤ sizeLine then some (.dat (.int x.length)) else none := rfl
@[simp] theorem t_abs : bltD "abs" [.int i] = some (.dat (.int i.natAbs)) := rfl
@[simp] theorem t_int : bltD "int" [.int i] = some (.dat (.int i)) := rfl
@[simp] theorem t_intb : bltD "int" [.bool a] = some (.dat (.int (if a then 1 else 0))) := rfl
@[simp] theorem t_max : bltD "max" [.int i, .int j] = some (.dat (.int (max i j))) := rfl
@[simp] theorem t_min : bltD "min" [.int i, .int j] = some (.dat (.int (min i j))) := rfl
@[simp] theorem t_sum : bltD "sum" [.list xs] = (ints? xs).map fun ns => EV.dat (.int ns.sum) := rfl
@[simp] theorem t_all : bltD "all" [.list xs] = (bools? xs).map fun bs => EV.dat (.bool (bs.all id)) := rfl
@[simp] theorem t_any : bltD "any" [.list xs] = (bools? xs).map fun bs => EV.dat (.bool (bs.any id)) := rfl
@[simp] theorem t_list_l : bltD "list" [.list xs] = some (.fresh xs) := rfl
@[simp] theorem t_list_t : bltD "list" [.tuple xs] = some (.fresh xs) := rfl
@[simp] theorem t_list_s : bltD "list" [.str x] = if x.length ≤ sizeLine then some (.fresh (chars x)) else none := rfl
@[simp] theorem t_tuple_l : bltD "tuple" [.list xs] = some (.dat (.tuple xs)) := rfl
@[simp] theorem t_tuple_t : bltD "tuple" [.tuple xs] = some (.dat (.tuple xs)) := rfl
@[simp] theorem t_divmod : bltD "divmod" [.int i, .int j] = if 0 < j ∧ j < 1073741824 then some (.dat (.tuple [.int (i / j), .int (i % j)])) else none := rfl
@[simp] theorem t_gcd : bltD "math.gcd" [.int i, .int j] = some (.dat (.int (Int.gcd i j))) := rfl
@[simp] theorem t_repr : bltD "repr" [d] = if d.showable && decide (d.depth ≤ 60) && decide (d.shown.length ≤ sizeLine) && !d.hasDict && isSeqD d then some (.dat (.str d.shown)) else none := rfl
@[simp] theorem t_dict_l : bltD "dict" [.list xs] = (pairsK? xs).map fun ps => EV.dat (dictX (mergeX [] ps)) := rfl
@[simp] theorem t_dict_t : bltD "dict" [.tuple (d :: xs)] = (pairsK? (d :: xs)).map fun ps => EV.dat (dictX (mergeX [] ps)) := rfl
@[simp] theorem t_sorted : bltD "sorted" [.list xs] = if xs.length < 64 then (match ints? xs with
      | some ns => some (EV.fresh ((ns.mergeSort (fun a b => decide (a ≤ b))).map .int))
      | none => (strs? xs).map fun zs => EV.fresh ((zs.mergeSort strLe).map .str)) else none := rfl
@[simp] theorem m_index_x : mthD "index" (.list xs) [d] = if SeqAt.shaped d && SeqAt.shaped (.list xs) then (xs.findIdx? fun x => PyData.eqv x d).map fun j => EV.dat (.int (j : Nat)) else none := rfl
@[simp] theorem m_join_x : mthD "join" (.str x) [.list xs] = (strs? xs).bind fun ys => if (ys.map (·.length)).sum + ys.length * x.length ≤ 16777216 then some (.dat (.str (PySem.Txt.join x ys))) else none := rfl
@[simp] theorem u_append_x : mutD "append" xs [d] = if xs.length < sizeLine then some (.none, xs ++ [d]) else none := rfl
@[simp] theorem u_pop_x (h0 : 0 ≤ i) (h1 : i.toNat < xs.length) (h2 : i ≤ 1000000000) : mutD "pop" xs [.int i] = some (xs[i.toNat], xs.eraseIdx i.toNat) := by
  have e : seqIndex? i xs.length = some i.toNat := by
    refine (L2.ixN_seq (j := i.toNat) ?_).1
    unfold L2.ixN
    rw [if_pos h0, if_pos (by omega)]
  have e2 : mutD "pop" xs [.int i] = if -(2 ^ 63) ≤ i ∧ i < 2 ^ 63 then (seqIndex? i xs.length).bind fun k => (xs[k]?).map fun y => (y, xs.eraseIdx k) else none := rfl
  rw [e2, if_pos (by omega), e, Option.bind_some, List.getElem?_eq_getElem h1]
  rfl
@[simp] theorem u_pop0 : mutD "pop" xs [] = (xs[xs.length - 1]?).map fun y => (y, xs.dropLast) := rfl
@[simp] theorem u_extend_x : mutD "extend" xs [.list ys] = if xs.length + ys.length ≤ sizeLine then some (.none, xs ++ ys) else none := rfl
@[simp] theorem o_none_x : optI .none = some none := rfl
@[simp] theorem o_int : optI (.int i) = some (some i) := rfl
@[simp] theorem l_l (hl : optI d = some l) (hh : optI e = some h) : slcD (.list xs) d e = some (.fresh (cut xs l h)) := by
  unfold slcD
  rw [hl, hh]
@[simp] theorem l_t (hl : optI d = some l) (hh : optI e = some h) : slcD (.tuple xs) d e = some (.dat (.tuple (cut xs l h))) := by
  unfold slcD
  rw [hl, hh]
@[simp] theorem l_s (hl : optI d = some l) (hh : optI e = some h) : slcD (.str x) d e = if x.length ≤ sizeLine then some (.dat (.str ⟨(cut x.cps.toList l h).toArray⟩)) else none := by
  unfold slcD
  rw [hl, hh]
@[simp] theorem T_nm {k : Nat} {ρ : Env} : bindT (.nm k) d ρ = setE ρ k (.dat d) := by rw [bindT]
@[simp] theorem T_tup {ts : List Tg} {ρ : Env} : bindT (.tup ts) (.tuple xs) ρ = bindTs ts xs ρ := by rw [bindT]
@[simp] theorem T_at {k : Nat} {ρ : Env} : bindT (.at k i) d ρ = (mutOf ρ[k]?).bind fun xs => (L2.ixN xs.length i).map fun j => mutPut ρ k (xs.set j d) := by rw [bindT]
@[simp] theorem T_nil {ρ : Env} : bindTs [] [] ρ = some ρ := by rw [bindTs]
@[simp] theorem T_cons {t : Tg} {ts : List Tg} {ρ : Env} : bindTs (t :: ts) (d :: xs) ρ = (bindT t d ρ).bind (bindTs ts xs) := by rw [bindTs]
@[simp] theorem r_l : revD (.list xs) = some (.fresh xs.reverse) := rfl
@[simp] theorem r_t : revD (.tuple xs) = some (.dat (.tuple xs.reverse)) := rfl
@[simp] theorem q_l : seqD (.list xs) = some xs := rfl
@[simp] theorem q_t : seqD (.tuple xs) = some xs := rfl
@[simp] theorem q_s : seqD (.str x) = some (chars x) := rfl
@[simp] theorem k_l : seqLT (.list xs) = some xs := rfl
@[simp] theorem k_t : seqLT (.tuple xs) = some xs := rfl
@[simp] theorem ok_none : loOk (.lit .none) .none = true := rfl
@[simp] theorem ok_int {e : E} : loOk e (.int i) = true := by
  unfold loOk
  split <;> simp_all
/-! the words over the layer, case by case -/
@[simp] theorem z_frz_dat : EV.frz (.dat d) = d := rfl
@[simp] theorem z_frz_fresh : EV.frz (.fresh xs) = .list xs := rfl
@[simp] theorem z_perm_nil {α : Type} {l : List α} : permute l [] = some [] := rfl
@[simp] theorem z_perm_cons {α : Type} {l : List α} {j : Nat} {js : List Nat} : permute l (j :: js) = (l[j]?).bind fun x => (permute l js).map (x :: ·) := by
  unfold permute
  rw [List.mapM_cons]
  cases l[j]? with
  | none => rfl
  | some x => cases List.mapM (fun j => l[j]?) js <;> rfl
@[simp] theorem z_slots_nil : slotsOf [] = [] := rfl
@[simp] theorem z_slots_s {k : Nat} {r : List PArg} : slotsOf (.slot k :: r) = k :: slotsOf r := rfl
@[simp] theorem z_slots_d {r : List PArg} : slotsOf (.dat d :: r) = slotsOf r := rfl
@[simp] theorem z_slots_f {F : FV} {r : List PArg} : slotsOf (.fn F :: r) = slotsOf r := rfl
section
variable {ρ : Env} {a1 : Arg} {r : List PArg} {as : List Arg} {k : Nat} {F : FV} {ns : List Int}
@[simp] theorem z_now_nil : PArgs.now ρ [] = some [] := rfl
@[simp] theorem z_now_cons {p : PArg} : PArgs.now ρ (p :: r) = (p.now ρ).bind fun x => (PArgs.now ρ r).map (x :: ·) := rfl
@[simp] theorem z_now_d : PArg.now ρ (.dat d) = some (.dat d) := rfl
@[simp] theorem z_now_f : PArg.now ρ (.fn F) = some (.fn F) := rfl
@[simp] theorem z_now_s : PArg.now ρ (.slot k) = match ρ[k]? with
    | some (some (.own ds)) => some (.par ds)
    | some (some (.par ds)) => some (.par ds)
    | some (some (.ro ns)) => some (.ro ns)
    | _ => none := rfl
@[simp] theorem z_back_nil : PArgs.back [] as ρ = ρ := by cases as <;> rfl
@[simp] theorem z_back_sp : PArgs.back (.slot k :: r) (.par xs :: as) ρ = PArgs.back r as (mutPut ρ k xs) := rfl
@[simp] theorem z_back_sr : PArgs.back (.slot k :: r) (.ro ns :: as) ρ = PArgs.back r as ρ := rfl
@[simp] theorem z_back_d : PArgs.back (.dat d :: r) (a1 :: as) ρ = PArgs.back r as ρ := by cases a1 <;> rfl
@[simp] theorem z_back_f : PArgs.back (.fn F :: r) (a1 :: as) ρ = PArgs.back r as ρ := by cases a1 <;> rfl
@[simp] theorem z_out_nil : outA [] ρ = some [] := by cases ρ <;> rfl
@[simp] theorem z_out_p {ds : List D} : outA (.par ds :: as) (some (.par xs) :: ρ) = (outA as ρ).map (.par xs :: ·) := rfl
@[simp] theorem z_out_d {v : Option SV} : outA (.dat d :: as) (v :: ρ) = (outA as ρ).map (.dat d :: ·) := by cases v <;> rfl
@[simp] theorem z_out_r {v : Option SV} : outA (.ro ns :: as) (v :: ρ) = (outA as ρ).map (.ro ns :: ·) := by cases v <;> rfl
@[simp] theorem z_out_f {v : Option SV} : outA (.fn F :: as) (v :: ρ) = (outA as ρ).map (.fn F :: ·) := by cases v <;> rfl
@[simp] theorem z_sv_d : argSV (.dat d) = .dat d := rfl
@[simp] theorem z_sv_p : argSV (.par xs) = .par xs := rfl
@[simp] theorem z_sv_r : argSV (.ro ns) = .ro ns := rfl
@[simp] theorem z_sv_f : argSV (.fn F) = .fn F := rfl
@[simp] theorem z_forget_nil : forgetE ρ [] = ρ := rfl
@[simp] theorem z_forget_cons {vs : List Nat} : forgetE ρ (k :: vs) = forgetE (if isPar ρ[k]? then ρ else ρ.set k none) vs := rfl
@[simp] theorem z_setE {v : SV} : setE ρ k v = if isPar ρ[k]? then none else if k < ρ.length then some (ρ.set k (some v)) else none := rfl
@[simp] theorem z_setEs_nil : setEs [] [] ρ = some ρ := rfl
@[simp] theorem z_setEs_o {is : List (Nat × Bool)} {vs : List EV} : setEs ((k, true) :: is) (.fresh xs :: vs) ρ = (setE ρ k (.own xs)).bind (setEs is vs) := rfl
@[simp] theorem z_setEs_d {is : List (Nat × Bool)} {vs : List EV} {v : EV} : setEs ((k, false) :: is) (v :: vs) ρ = (setE ρ k (.dat v.frz)).bind (setEs is vs) := by cases v <;> rfl
@[simp] theorem z_par_none : isPar none = false := rfl
@[simp] theorem z_par_sn : isPar (some none) = false := rfl
@[simp] theorem z_par_d : isPar (some (some (.dat d))) = false := rfl
@[simp] theorem z_par_o : isPar (some (some (.own xs))) = false := rfl
@[simp] theorem z_par_p : isPar (some (some (.par xs))) = true := rfl
@[simp] theorem z_par_r : isPar (some (some (.ro ns))) = false := rfl
@[simp] theorem z_par_f : isPar (some (some (.fn F))) = false := rfl
@[simp] theorem z_par_m : isPar (some (some .mk)) = true := rfl
@[simp] theorem z_mut_o : mutOf (some (some (.own xs))) = some xs := rfl
@[simp] theorem z_mut_p : mutOf (some (some (.par xs))) = some xs := rfl
@[simp] theorem z_put : mutPut ρ k xs = match ρ[k]? with
    | some (some (.own _)) => ρ.set k (some (.own xs))
    | some (some (.par _)) => ρ.set k (some (.par xs))
    | _ => ρ := rfl
@[simp] theorem z_read_o : readL (some (some (.own xs))) = some xs := rfl
@[simp] theorem z_read_p : readL (some (some (.par xs))) = some xs := rfl
@[simp] theorem z_read_r : readL (some (some (.ro ns))) = some (ns.map .int) := rfl
@[simp] theorem z_cap_nil : capOf ρ [] = some [] := rfl
@[simp] theorem z_cap_cons {r : List Nat} : capOf ρ (k :: r) = match ρ[k]? with
    | some (some (.dat d)) => (capOf ρ r).map (.dat d :: ·)
    | some (some (.fn F)) => (capOf ρ r).map (.fn F :: ·)
    | _ => none := rfl
@[simp] theorem z_wipe_nil : wipeE ρ [] = ρ := rfl
@[simp] theorem z_wipe_cons {vs : List Nat} : wipeE ρ (k :: vs) = (wipeE ρ vs).set k none := rfl
@[simp] theorem z_rest_nil {ρ' : Env} : restE ρ ρ' [] = ρ' := rfl
@[simp] theorem z_rest_cons {ρ' : Env} {vs : List Nat} : restE ρ ρ' (k :: vs) = (restE ρ ρ' vs).set k (ρ.getD k none) := rfl
end
end
end Ev
set_option Elab.async false
set_option linter.all false
set_option maxRecDepth 100000
namespace LawT
open PySem Ev
/-! ### fractions as rational numbers -/
@[simp] theorem le_sz {n : Nat} (h : n ≤ 10000) : n ≤ sizeLine := Nat.le_trans h (by decide)
@[simp] theorem lt_sz {n : Nat} (h : n ≤ 10000) : n < sizeLine := Nat.lt_of_le_of_lt h (by decide)
/-- sizes of a fraction -/
def Fz (B : Nat) (r : Rat) : Prop := r.num.natAbs < 2 ^ B ∧ r.den < 2 ^ B
theorem Fz.mono {B C : Nat} {r : Rat} (h : Fz B r) (hc : B ≤ C) : Fz C r :=
  ⟨Nat.lt_of_lt_of_le h.1 (Nat.pow_le_pow_right (by decide) hc), Nat.lt_of_lt_of_le h.2 (Nat.pow_le_pow_right (by decide) hc)⟩
theorem low_num (n d : Int) (hd : 0 < d) : n / (Int.gcd n d : Int) = ((n : Rat) / (d : Rat)).num := by
  obtain ⟨m, rfl⟩ := Int.eq_ofNat_of_zero_le (Int.le_of_lt hd)
  have hm : m ≠ 0 := by omega
  have e : (n : Rat) / ((m : Int) : Rat) = Rat.normalize n m hm := by
    rw [Rat.normalize_eq_mkRat, Rat.mkRat_eq_div]
    rfl
  rw [e, Rat.normalize_eq]
  simp [Int.gcd]
theorem low_den (n d : Int) (hd : 0 < d) : d / (Int.gcd n d : Int) = (((n : Rat) / (d : Rat)).den : Int) := by
  obtain ⟨m, rfl⟩ := Int.eq_ofNat_of_zero_le (Int.le_of_lt hd)
  have hm : m ≠ 0 := by omega
  have e : (n : Rat) / ((m : Int) : Rat) = Rat.normalize n m hm := by
    rw [Rat.normalize_eq_mkRat, Rat.mkRat_eq_div]
    rfl
  rw [e, Rat.normalize_eq]
  simp [Int.gcd]
theorem num_div_den (r : Rat) : (r.num : Rat) / ((r.den : Int) : Rat) = r := by
  rw [← Rat.divInt_eq_div]
  exact Rat.num_divInt_den r
theorem den_pos (r : Rat) : (0 : Int) < r.den := by
  have := r.den_nz
  omega
theorem int_ne {d : Int} (h : 0 < d) : (d : Rat) ≠ 0 := by
  intro e
  have h2 := Rat.intCast_inj.mp (show (d : Rat) = ((0 : Int) : Rat) from e)
  omega
theorem int_pos {d : Int} (h : 0 < d) : (0 : Rat) < (d : Rat) := Rat.intCast_pos.mpr h
theorem den_ne (r : Rat) : ((r.den : Int) : Rat) ≠ 0 := int_ne (den_pos r)
theorem num_eq (r : Rat) : (r.num : Rat) = r * ((r.den : Int) : Rat) := by
  have h := num_div_den r
  have h2 := den_ne r
  grind
theorem fz_low {n d : Int} {B : Nat} (hd : 0 < d) (h1 : n.natAbs < 2 ^ B) (h2 : d.natAbs < 2 ^ B) : Fz B ((n : Rat) / (d : Rat)) := by
  have e1 := low_num n d hd
  have e2 := low_den n d hd
  constructor
  · rw [← e1]
    exact Nat.lt_of_le_of_lt (Int.natAbs_ediv_le_natAbs n _) h1
  · have : (((n : Rat) / (d : Rat)).den : Int).natAbs ≤ d.natAbs := by
      rw [← e2]
      exact Int.natAbs_ediv_le_natAbs d _
    omega
theorem log2_le {n A : Nat} (h : n < 2 ^ A) : n.log2 ≤ A := by
  by_cases h0 : n = 0
  · subst h0
    simp
  · have := (Nat.log2_lt h0).mpr h
    omega
theorem mulOk_of {i j : Int} {A B : Nat} (h1 : i.natAbs < 2 ^ A) (h2 : j.natAbs < 2 ^ B) (h : A + B < 1000000) : mulOk i j = true := by
  have := log2_le h1
  have := log2_le h2
  unfold mulOk
  exact decide_eq_true (by omega)
theorem divOk_of {j : Int} {A : Nat} (h0 : 0 < j) (h1 : j.natAbs < 2 ^ A) (h : A < 9000) : divOk j = true := by
  have := log2_le h1
  unfold divOk
  rw [decide_eq_true h0, decide_eq_true (show j.natAbs.log2 < 9000 by omega)]
  rfl
theorem gcd_pos {n d : Int} (hd : 0 < d) : (0 : Int) < Int.gcd n d := by
  have := Int.gcd_pos_of_ne_zero_right n (show d ≠ 0 by omega)
  omega
theorem gcd_lt {n d : Int} {B : Nat} (hd : 0 < d) (h2 : d.natAbs < 2 ^ B) : ((Int.gcd n d : Nat) : Int).natAbs < 2 ^ B := by
  have h := Int.gcd_dvd_right n d
  have := Int.le_of_dvd hd h
  omega
/-- a fraction as the program has it -/
def fr (r : Rat) : D := .tuple [.int r.num, .int r.den]
@[simp] theorem eqv_int (i j : Int) : PyData.eqv (.int i) (.int j) = decide (i = j) := by
  simp only [PyData.eqv]
  by_cases h : i = j <;> simp [h]
theorem rat_ext {a b : Rat} (h1 : a.num = b.num) (h2 : (a.den : Int) = b.den) : a = b := by
  have e : a.den = b.den := by omega
  rw [← num_div_den a, ← num_div_den b, h1, e]
@[simp] theorem eqv_fr (a b : Rat) : PyData.eqv (fr a) (fr b) = decide (a = b) := by
  simp only [fr, PyData.eqv, PyData.eqvAll, Bool.and_true]
  by_cases h : a = b
  · subst h
    simp
  · rw [decide_eq_false h]
    by_cases h1 : a.num = b.num
    · have h2 : ¬ (a.den : Int) = b.den := fun e => h (rat_ext h1 e)
      have h3 : ((a.den : Int) == b.den) = false := by simpa using h2
      rw [h3, Bool.and_false]
    · have h3 : (a.num == b.num) = false := by simpa using h1
      rw [h3, Bool.false_and]
theorem fr_inj {a b : Rat} (h : fr a = fr b) : a = b := by
  unfold fr at h
  simp only [PyData.tuple.injEq, List.cons.injEq, PyData.int.injEq, and_true] at h
  exact rat_ext h.1 h.2
@[simp] theorem shaped_fr (a : Rat) : SeqAt.shaped (fr a) = true := rfl
theorem lt_iff (a b : Rat) : a < b ↔ a.num * b.den < b.num * a.den := Rat.lt_iff a b
/-! ### books -/
structure Tr where
  k : Int
  s : Int
  a : Int
/-- what a deed does to a load -/
def Tr.ap (t : Tr) (x : Rat) : Rat := (t.k : Rat) / (t.s : Rat) * x + (t.a : Rat)
structure Tr.Ok (t : Tr) : Prop where
  k1 : 1 ≤ t.k
  ks : t.k ≤ t.s - 1
  s12 : t.s ≤ 12
  a0 : 0 ≤ t.a
  a9 : t.a ≤ 999
theorem Tr.Ok.s2 {t : Tr} (h : t.Ok) : 2 ≤ t.s := by
  have := h.k1
  have := h.ks
  omega
structure Bk where
  parts : List (Str × Int)
  deeds : List (Str × List Tr)
def encT (t : Tr) : D := .tuple [.int t.k, .int t.s, .int t.a]
def encP (p : Str × Int) : D := .tuple [.str p.1, .int p.2]
def encD (d : Str × List Tr) : D := .tuple [.str d.1, .tuple (d.2.map encT)]
def encB (b : Bk) : D := .tuple [.tuple (b.parts.map encP), .tuple (b.deeds.map encD)]
def words : List Str := ["added", "all", "any", "at", "by", "deed", "do", "ends", "for", "from", "group", "least", "left", "limit", "load", "loads", "most", "no", "none", "of", "out", "part", "rest", "row", "safe", "take", "time", "times", "to", "undo", "work", "works"]
structure NameOk (n : Str) : Prop where
  ne : n.cps.toList ≠ []
  let_ : ∀ c ∈ n.cps.toList, 97 ≤ c ∧ c ≤ 122
  le8 : n.length ≤ 8
  nw : n ∉ words
def asc (ns : List Str) : Prop := ns.Pairwise fun x y => x.cps.toList < y.cps.toList
structure Bk.Ok (b : Bk) : Prop where
  p1 : 1 ≤ b.parts.length
  p3 : b.parts.length ≤ 3
  pn : ∀ p ∈ b.parts, NameOk p.1
  pl : ∀ p ∈ b.parts, 1 ≤ p.2 ∧ p.2 ≤ 9999
  pa : asc (b.parts.map (·.1))
  d1 : 1 ≤ b.deeds.length
  d6 : b.deeds.length ≤ 6
  dn : ∀ d ∈ b.deeds, NameOk d.1
  dl : ∀ d ∈ b.deeds, d.2.length = b.parts.length
  dt : ∀ d ∈ b.deeds, ∀ t ∈ d.2, t.Ok
  da : asc (b.deeds.map (·.1))
/-- what a deed does to a part, by names of deeds -/
def Bk.tr (b : Bk) (at_ : Nat) (n : Str) : Tr := (((b.deeds.find? fun d => decide (d.1 = n)).map (·.2)).getD []).getD at_ ⟨1, 2, 0⟩
/-- loads behind each deed -/
def along (f : Str → Tr) : List Str → Rat → List Rat
  | [], _ => []
  | n :: r, x => (f n).ap x :: along f r ((f n).ap x)
/-- the load behind a row -/
def left (f : Str → Tr) : List Str → Rat → Rat
  | [], x => x
  | n :: r, x => left f r ((f n).ap x)
/-- the greatest one -/
def maxR (x y : Rat) : Rat := if x < y then y else x
def minR (x y : Rat) : Rat := if y < x then y else x
def maxL (x : Rat) (r : List Rat) : Rat := r.foldl maxR x
def minL (x : Rat) (r : List Rat) : Rat := r.foldl minR x
theorem fz_ap {t : Tr} (h : t.Ok) {B : Nat} {x : Rat} (hx : Fz B x) :
    (t.k * x.num).natAbs < 2 ^ (B + 4) ∧ (t.a * t.s).natAbs < 2 ^ 14 ∧ (t.a * t.s * x.den).natAbs < 2 ^ (B + 14) ∧ (t.s * x.den).natAbs < 2 ^ (B + 14) ∧ (t.k * x.num + t.a * t.s * x.den).natAbs < 2 ^ (B + 14) ∧ 0 < t.s * (x.den : Int) := by
  obtain ⟨h1, h2, h3, h4, h5⟩ := h
  obtain ⟨g1, g2⟩ := hx
  have p4 : 2 ^ (B + 4) = 16 * 2 ^ B := by
    rw [Nat.pow_add]
    omega
  have p14 : 2 ^ (B + 14) = 16384 * 2 ^ B := by
    rw [Nat.pow_add]
    omega
  rw [p4, p14]
  have dp := den_pos x
  have e1 : (t.k * x.num).natAbs = t.k.natAbs * x.num.natAbs := Int.natAbs_mul _ _
  have e2 : (t.a * t.s).natAbs = t.a.natAbs * t.s.natAbs := Int.natAbs_mul _ _
  have e3 : (t.a * t.s * x.den).natAbs = t.a.natAbs * t.s.natAbs * x.den := by
    rw [Int.natAbs_mul, e2]
    rfl
  have e4 : (t.s * x.den).natAbs = t.s.natAbs * x.den := Int.natAbs_mul _ _
  have k1 : t.k.natAbs * x.num.natAbs ≤ 11 * x.num.natAbs := Nat.mul_le_mul_right _ (by omega)
  have k2 : t.a.natAbs * t.s.natAbs ≤ 999 * 12 := Nat.mul_le_mul (by omega) (by omega)
  have k3 : t.a.natAbs * t.s.natAbs * x.den ≤ 999 * 12 * x.den := Nat.mul_le_mul_right _ k2
  have k4 : t.s.natAbs * x.den ≤ 12 * x.den := Nat.mul_le_mul_right _ (by omega)
  have k5 := Int.natAbs_add_le (t.k * x.num) (t.a * t.s * x.den)
  refine ⟨by omega, by omega, by omega, by omega, by omega, ?_⟩
  exact Int.mul_pos (by omega) dp
theorem ap_eq {t : Tr} (h : t.Ok) (x : Rat) : ((t.k * x.num + t.a * t.s * x.den : Int) : Rat) / ((t.s * x.den : Int) : Rat) = t.ap x := by
  have h2 := den_ne x
  have h3 := int_ne (show 0 < t.s by have := h.s2; omega)
  have h4 := num_eq x
  unfold Tr.ap
  simp only [Rat.intCast_add, Rat.intCast_mul]
  rw [h4]
  grind
theorem fz_ap' {t : Tr} (h : t.Ok) {B : Nat} {x : Rat} (hx : Fz B x) : Fz (B + 14) (t.ap x) := by
  obtain ⟨_, _, _, h4, h5, h6⟩ := fz_ap h hx
  rw [← ap_eq h]
  exact fz_low h6 h5 h4
def encR (row : List Str) : D := .tuple (row.map PyData.str)
section
variable {b : Bk} {r r2 : List Str} {t : Tr} {x : Rat} {p : Str × Int} {d : Str × List Tr} {ts : List Tg} {ρ : Ev.Env}
@[simp] theorem sh_int {i : Int} : SeqAt.shaped (.int i) = true := rfl
@[simp] theorem sh_none : SeqAt.shaped (.none) = true := rfl
@[simp] theorem sh_bool {c : Bool} : SeqAt.shaped (.bool c) = true := rfl
@[simp] theorem sh_nil : SeqAt.shaped (.list []) = true := rfl
@[simp] theorem sh_unit : SeqAt.shaped (.tuple []) = true := rfl
@[simp] theorem x_B0 : ixD (encB b) (.int 0) = some (.tuple (b.parts.map encP)) := by rw [encB, x_tuple, atI_0]
@[simp] theorem x_B1 : ixD (encB b) (.int 1) = some (.tuple (b.deeds.map encD)) := by rw [encB, x_tuple, atI_1]
@[simp] theorem x_P0 : ixD (encP p) (.int 0) = some (.str p.1) := by rw [encP, x_tuple, atI_0]
@[simp] theorem x_P1 : ixD (encP p) (.int 1) = some (.int p.2) := by rw [encP, x_tuple, atI_1]
@[simp] theorem x_D0 : ixD (encD d) (.int 0) = some (.str d.1) := by rw [encD, x_tuple, atI_0]
@[simp] theorem x_D1 : ixD (encD d) (.int 1) = some (.tuple (d.2.map encT)) := by rw [encD, x_tuple, atI_1]
@[simp] theorem x_T0 : ixD (encT t) (.int 0) = some (.int t.k) := by rw [encT, x_tuple, atI_0]
@[simp] theorem x_T1 : ixD (encT t) (.int 1) = some (.int t.s) := by rw [encT, x_tuple, atI_1]
@[simp] theorem x_T2 : ixD (encT t) (.int 2) = some (.int t.a) := by rw [encT, x_tuple, atI_2]
@[simp] theorem x_f0 : ixD (fr x) (.int 0) = some (.int x.num) := by rw [fr, x_tuple, atI_0]
@[simp] theorem x_f1 : ixD (fr x) (.int 1) = some (.int x.den) := by rw [fr, x_tuple, atI_1]
@[simp] theorem x_R {i : Int} : ixD (encR r) (.int i) = L2.atI (r.map PyData.str) i := rfl
@[simp] theorem q_R : seqD (encR r) = some (r.map PyData.str) := rfl
@[simp] theorem k_R : seqLT (encR r) = some (r.map PyData.str) := rfl
@[simp] theorem t_R : bltD "len" [encR r] = some (.dat (.int r.length)) := by rw [encR, t_len_t, List.length_map]
@[simp] theorem b_R : binD .Add (encR r) (encR r2) = if r.length + r2.length ≤ sizeLine then some (.dat (encR (r ++ r2))) else none := by
  rw [encR, encR, b_addt, List.length_map, List.length_map, encR, List.map_append]
@[simp] theorem r_R : revD (encR r) = some (.dat (encR r.reverse)) := by
  rw [encR, r_t, encR, List.map_reverse]
@[simp] theorem T_B : bindT (.tup ts) (encB b) ρ = bindTs ts [.tuple (b.parts.map encP), .tuple (b.deeds.map encD)] ρ := by rw [encB, bindT]
@[simp] theorem T_P : bindT (.tup ts) (encP p) ρ = bindTs ts [.str p.1, .int p.2] ρ := by rw [encP, bindT]
@[simp] theorem T_D : bindT (.tup ts) (encD d) ρ = bindTs ts [.str d.1, .tuple (d.2.map encT)] ρ := by rw [encD, bindT]
@[simp] theorem T_T : bindT (.tup ts) (encT t) ρ = bindTs ts [.int t.k, .int t.s, .int t.a] ρ := by rw [encT, bindT]
@[simp] theorem T_f : bindT (.tup ts) (fr x) ρ = bindTs ts [.int x.num, .int x.den] ρ := by rw [fr, bindT]
end
def encW (ws : List (List Str)) : D := .tuple (ws.map encR)
def encL (xs : List Rat) : D := .tuple (xs.map fr)
section
variable {ws : List (List Str)} {xs : List Rat}
@[simp] theorem q_W : seqD (encW ws) = some (ws.map encR) := rfl
@[simp] theorem k_W : seqLT (encW ws) = some (ws.map encR) := rfl
@[simp] theorem t_W : bltD "len" [encW ws] = some (.dat (.int ws.length)) := by rw [encW, t_len_t, List.length_map]
@[simp] theorem x_W {i : Int} : ixD (encW ws) (.int i) = L2.atI (ws.map encR) i := rfl
@[simp] theorem q_L : seqD (encL xs) = some (xs.map fr) := rfl
@[simp] theorem k_L : seqLT (encL xs) = some (xs.map fr) := rfl
@[simp] theorem t_L : bltD "len" [encL xs] = some (.dat (.int xs.length)) := by rw [encL, t_len_t, List.length_map]
@[simp] theorem x_L {i : Int} : ixD (encL xs) (.int i) = L2.atI (xs.map fr) i := rfl
theorem enc_nought : PyData.tuple [.int 0, .int 1] = fr 0 := rfl
theorem enc_whole : PyData.tuple [.int 1, .int 1] = fr 1 := rfl
end
end LawT
set_option Elab.async false
set_option linter.all false
set_option maxRecDepth 100000
namespace LawT
open PySem Ev
/-! ### what repr shows -/
structure Rp (n m : Nat) (d : D) : Prop where
  sh : d.showable = true
  dp : d.depth ≤ m
  ln : d.shown.length ≤ n
  nd : d.hasDict = false
  ok : PyData.strOk d.shown = true
theorem Rp.mono {n m n' m' : Nat} {d : D} (h : Rp n m d) (hn : n ≤ n') (hm : m ≤ m') : Rp n' m' d := ⟨h.sh, Nat.le_trans h.dp hm, Nat.le_trans h.ln hn, h.nd, h.ok⟩
theorem strOk_app (a b : Str) : PyData.strOk (a ++ b) = (PyData.strOk a && PyData.strOk b) := by
  show (a.cps ++ b.cps).all _ = _
  rw [Array.all_append]
  rfl
theorem strOk_of (s : String) : PyData.strOk (Str.ofString s) = true := by
  unfold PyData.strOk Str.ofString
  rw [cpsOfBytes_string]
  simp only [List.all_toArray, List.all_map, List.all_eq_true]
  intro c _
  have h := c.valid
  simp only [UInt32.isValidChar, Nat.isValidChar] at h
  show decide (c.val.toNat < 1114112) = true
  exact decide_eq_true (by omega)
theorem Rp.int {i : Int} {B : Nat} (h : i.natAbs < 2 ^ B) (hB : B ≤ 1900) : Rp 1921 0 (.int i) := by
  have hl : i.natAbs.log2 < 1920 := by
    have := log2_le h
    omega
  refine ⟨by simp only [PyData.showable]; exact decide_eq_true hl, by simp [PyData.depth], ?_, rfl, ?_⟩
  · simp only [PyData.shown]
    exact PyProof.Rows.int_text_len_1921 hl
  · simp only [PyData.shown]
    exact strOk_of _
theorem Rp.none : Rp 4 0 .none := ⟨rfl, by simp [PyData.depth], by simp only [PyData.shown]; decide +kernel, rfl, by simp only [PyData.shown]; exact strOk_of _⟩
theorem Rp.bool {b : Bool} : Rp 5 0 (.bool b) := ⟨rfl, by simp [PyData.depth], by cases b <;> (simp only [PyData.shown]; decide +kernel), rfl, by cases b <;> (simp only [PyData.shown]; exact strOk_of _)⟩
theorem showable_all {l : List D} (h : ∀ d ∈ l, d.showable = true) : PyData.showableAll l = true := by
  induction l with
  | nil => rfl
  | cons x r ih => simp only [PyData.showableAll, h x (.head _), ih fun d hd => h d (.tail _ hd), Bool.and_self]
theorem nodict_all {l : List D} (h : ∀ d ∈ l, d.hasDict = false) : PyData.hasDictAll l = false := by
  induction l with
  | nil => rfl
  | cons x r ih => simp only [PyData.hasDictAll, h x (.head _), ih fun d hd => h d (.tail _ hd), Bool.or_self]
theorem depth_all' {l : List D} {n : Nat} (h : ∀ d ∈ l, PyData.depth d ≤ n) : PyData.depthAll l ≤ n := by
  induction l with
  | nil => exact Nat.zero_le _
  | cons x r ih =>
    simp only [PyData.depthAll]
    exact Nat.max_le.mpr ⟨h x (.head _), ih fun d hd => h d (.tail _ hd)⟩
theorem shownAll_map (l : List D) : PyData.shownAll l = l.map PyData.shown := by
  induction l with
  | nil => rfl
  | cons x r ih => simp only [PyData.shownAll, ih, List.map_cons]
theorem app_len (a b : Str) : (a ++ b).length = a.length + b.length := Array.size_append
theorem join_len {n : Nat} : ∀ {ts : List Str}, (∀ t ∈ ts, t.length ≤ n) → (Str.join ", " ts).length ≤ (n + 2) * ts.length
  | [], _ => Nat.zero_le _
  | [x], h => by
    have := h x (.head _)
    show x.length ≤ _
    simp only [List.length_singleton]
    omega
  | x :: y :: r, h => by
    have h1 := h x (.head _)
    have ih := join_len (n := n) (ts := y :: r) fun t ht => h t (.tail _ ht)
    show (x ++ ", " ++ Str.join ", " (y :: r)).length ≤ _
    have e2 : ((", " : String) : Str).length = 2 := rfl
    rw [app_len, app_len, e2, List.length_cons, Nat.mul_succ]
    omega
theorem join_ok : ∀ {ts : List Str}, (∀ t ∈ ts, PyData.strOk t = true) → PyData.strOk (Str.join ", " ts) = true
  | [], _ => by decide +kernel
  | [x], h => h x (.head _)
  | x :: y :: r, h => by
    show PyData.strOk (x ++ ", " ++ Str.join ", " (y :: r)) = true
    rw [strOk_app, strOk_app, h x (.head _), strOk_of, join_ok fun t ht => h t (.tail _ ht)]
    rfl
theorem from_len {n : Nat} : ∀ {ts : List Str} {k : Nat} {acc : Str}, (∀ t ∈ ts, t.length ≤ n) → (textFrom k acc ts).length ≤ acc.length + (n + 2) * ts.length
  | [], k, acc, _ => by
    show acc.length ≤ _
    omega
  | t :: r, k, acc, h => by
    have h1 := h t (.head _)
    have ih := from_len (n := n) (k := k + 1) (acc := acc ++ (if k > 0 then ", " else "" : String) ++ t) (ts := r) fun t ht => h t (.tail _ ht)
    have e : (acc ++ (if k > 0 then ", " else "" : String) ++ t).length ≤ acc.length + 2 + t.length := by
      rw [app_len, app_len]
      split
      · exact Nat.le_refl _
      · have : ((("" : String) : Str)).length = 0 := rfl
        omega
    show (textFrom (k + 1) _ r).length ≤ _
    rw [List.length_cons, Nat.mul_succ]
    omega
theorem from_ok : ∀ {ts : List Str} {k : Nat} {acc : Str}, PyData.strOk acc = true → (∀ t ∈ ts, PyData.strOk t = true) → PyData.strOk (textFrom k acc ts) = true
  | [], k, acc, ha, _ => ha
  | t :: r, k, acc, ha, h => from_ok (k := k + 1) (by rw [strOk_app, strOk_app, ha, strOk_of, h t (.head _)]; rfl) fun t ht => h t (.tail _ ht)
theorem Rp.tup {n m : Nat} {l : List D} (h : ∀ d ∈ l, Rp n m d) : Rp ((n + 2) * l.length + 4) (m + 1) (.tuple l) := by
  have h2 : ∀ t ∈ l.map PyData.shown, t.length ≤ n := fun t ht => by
    obtain ⟨d, hd, rfl⟩ := List.mem_map.mp ht
    exact (h d hd).ln
  have h3 : ∀ t ∈ l.map PyData.shown, PyData.strOk t = true := fun t ht => by
    obtain ⟨d, hd, rfl⟩ := List.mem_map.mp ht
    exact (h d hd).ok
  refine ⟨showable_all fun d hd => (h d hd).sh, Nat.succ_le_succ (depth_all' fun d hd => (h d hd).dp), ?_, nodict_all fun d hd => (h d hd).nd, ?_⟩
  · simp only [PyData.shown, shownAll_map, tupleText]
    rw [app_len, app_len]
    have j := join_len h2
    rw [List.length_map] at j
    have e1 : ((("(" : String) : Str)).length = 1 := rfl
    have e2 : (((if (l.map PyData.shown).length == 1 then ",)" else ")" : String) : Str)).length ≤ 2 := by split <;> decide
    omega
  · simp only [PyData.shown, shownAll_map, tupleText]
    rw [strOk_app, strOk_app, strOk_of, strOk_of, join_ok h3]
    rfl
theorem Rp.lst {n m : Nat} {l : List D} (h : ∀ d ∈ l, Rp n m d) : Rp ((n + 2) * l.length + 4) (m + 1) (.list l) := by
  have h2 : ∀ t ∈ l.map PyData.shown, t.length ≤ n := fun t ht => by
    obtain ⟨d, hd, rfl⟩ := List.mem_map.mp ht
    exact (h d hd).ln
  have h3 : ∀ t ∈ l.map PyData.shown, PyData.strOk t = true := fun t ht => by
    obtain ⟨d, hd, rfl⟩ := List.mem_map.mp ht
    exact (h d hd).ok
  refine ⟨showable_all fun d hd => (h d hd).sh, Nat.succ_le_succ (depth_all' fun d hd => (h d hd).dp), ?_, nodict_all fun d hd => (h d hd).nd, ?_⟩
  · simp only [PyData.shown, shownAll_map, listText]
    rw [app_len]
    have j := from_len (k := 0) (acc := "[") h2
    rw [List.length_map] at j
    have e1 : ((("[" : String) : Str)).length = 1 := rfl
    have e2 : ((("]" : String) : Str)).length = 1 := rfl
    omega
  · simp only [PyData.shown, shownAll_map, listText]
    rw [strOk_app, strOk_of, from_ok (strOk_of _) h3]
    rfl
theorem Rp.fr {x : Rat} {B : Nat} (h : Fz B x) (hB : B ≤ 1900) : Rp 4000 1 (fr x) :=
  (Rp.tup (n := 1921) (m := 0) fun d hd => by
    simp only [List.mem_cons, List.not_mem_nil, or_false] at hd
    rcases hd with rfl | rfl
    · exact Rp.int h.1 hB
    · exact Rp.int (B := B) h.2 hB).mono (by simp) (by omega)
theorem repr_of {n m : Nat} {d : D} (h : Rp n m d) (hn : n ≤ 16000000) (hm : m ≤ 60) (hs : isSeqD d = true) : bltD "repr" [d] = some (.dat (.str d.shown)) := by
  have h1 := h.dp
  have h2 : d.shown.length ≤ sizeLine := Nat.le_trans h.ln (Nat.le_trans hn (by decide))
  rw [t_repr, h.sh, decide_eq_true (show d.depth ≤ 60 by omega), decide_eq_true h2, h.nd, hs]
  rfl
theorem shaped_shown {n m : Nat} {d : D} (h : Rp n m d) : SeqAt.shaped (.str d.shown) = true := by
  simp only [SeqAt.shaped, PyData.canLay0, PyData.depth, h.ok]
  rfl
end LawT
set_option Elab.async false
set_option linter.all false
set_option maxRecDepth 100000
namespace Ev
open PySem
/-! ### loops by what is behind -/
/-- an invariant, kept from the simplifier -/
abbrev Inv {α : Sort _} (J : α → Prop) (i : α) (_t : Tag J := ⟨⟩) : Prop := J i
theorem FlW_forL {α : Type} {l : List α} {e : α → D} {f : D → Env → Fl} (J : List α → Env → Prop) {Q : Env → Prop} {R : EV → Env → Prop} {ρ : Env}
    (hs : ∀ pre x post ρ, l = pre ++ x :: post → J pre ρ → FlW (f (e x) ρ) (fun ρ' => Inv (fun p : List α × Env => J p.1 p.2) (pre ++ [x], ρ')) R) (hn : ∀ ρ, J l ρ → Q ρ) (h0 : J [] ρ) : FlW (forLoop f (l.map e) ρ) Q R := by
  refine FlW_for (I := fun items ρ => ∃ pre post, l = pre ++ post ∧ items = post.map e ∧ J pre ρ) (fun d ds ρ hj => ?_) (fun ρ hj => ?_) _ _ ⟨[], l, rfl, rfl, h0⟩
  · obtain ⟨pre, post, h1, h2, h3⟩ := hj
    cases post with
    | nil => cases h2
    | cons x post =>
      rw [List.map_cons, List.cons.injEq] at h2
      obtain ⟨rfl, rfl⟩ := h2
      exact (hs pre x post ρ h1 h3).mono (fun ρ' h => ⟨pre ++ [x], post, by rw [h1]; simp, rfl, h⟩) fun r ρ' h => h
  · obtain ⟨pre, post, h1, h2, h3⟩ := hj
    cases post with
    | cons x post => cases h2
    | nil =>
      rw [List.append_nil] at h1
      rw [h1] at hn
      exact hn ρ h3
theorem rngD_nat (n : Nat) : rngD 0 (n : Int) = (List.range n).map fun i : Nat => PyData.int i := by simp [rngD, List.range_eq_range']
theorem FlW_rng {n : Nat} {f : D → Env → Fl} (J : Nat → Env → Prop) {Q : Env → Prop} {R : EV → Env → Prop} {ρ : Env}
    (hs : ∀ i, i < n → ∀ ρ, J i ρ → FlW (f (.int i) ρ) (fun ρ' => Inv (fun p : Nat × Env => J p.1 p.2) (i + 1, ρ')) R) (hn : ∀ ρ, J n ρ → Q ρ) (h0 : J 0 ρ) : FlW (forLoop f (rngD 0 (n : Int)) ρ) Q R := by
  rw [rngD_nat]
  refine FlW_forL (fun pre ρ => ∃ i, pre = List.range i ∧ i ≤ n ∧ J i ρ) (fun pre x post ρ h1 hj => ?_) (fun ρ hj => ?_) ⟨0, rfl, by omega, h0⟩
  · obtain ⟨i, rfl, h2, h3⟩ := hj
    have hl : n = i + (post.length + 1) := by
      have := congrArg List.length h1
      simpa using this
    have hx : x = i := by
      have h4 : (List.range n)[i]? = some x := by rw [h1]; simp
      rw [List.getElem?_range (by omega)] at h4
      exact (Option.some.inj h4).symm
    subst hx
    exact (hs x (by omega) ρ h3).mono (fun ρ' h => ⟨x + 1, List.range_succ.symm, by omega, h⟩) fun r ρ' h => h
  · obtain ⟨i, h1, h2, h3⟩ := hj
    have : n = i := by
      have := congrArg List.length h1
      simpa using this
    subst this
    exact hn ρ h3
theorem OutW_lcL {α : Type} {l : List α} {e : α → D} {f : D → Env → Out (Option D)} {vs : List Nat} (J : List α → List D → Env → Prop) {Q : List D → Env → Prop} {ρ : Env}
    (hs : ∀ pre x post done ρ, l = pre ++ x :: post → J pre done ρ → OutW (f (e x) (wipeE ρ vs)) (fun o ρ1 => Inv (fun p : List α × List D × Env => J p.1 p.2.1 p.2.2) (pre ++ [x], done ++ o.toList, restE ρ ρ1 vs))) (hn : ∀ done ρ, J l done ρ → Q done ρ) (h0 : J [] [] ρ) : OutW (lcLoop f vs (l.map e) ρ) Q := by
  refine (OutW_lc (I := fun done rest ρ' => ∃ pre post, l = pre ++ post ∧ rest = post.map e ∧ J pre done ρ') (Q := fun r ρ' => Q r ρ') (fun done d ds ρ' hI => ?_) (fun done ρ' hI => ?_) (l.map e) [] ρ ⟨[], l, rfl, rfl, h0⟩).mono fun r ρ' h => h
  · obtain ⟨pre, post, e1, e2, h3⟩ := hI
    cases post with
    | nil => cases e2
    | cons x post =>
      simp only [List.map_cons, List.cons.injEq] at e2
      obtain ⟨rfl, rfl⟩ := e2
      exact (hs pre x post done ρ' e1 h3).mono fun o ρ1 h => ⟨pre ++ [x], post, by rw [e1]; simp, rfl, h⟩
  · obtain ⟨pre, post, e1, e2, h3⟩ := hI
    obtain rfl : post = [] := by simpa using e2.symm
    rw [List.append_nil] at e1
    rw [e1] at hn
    exact hn done ρ' h3
theorem OutW_lcR {n : Nat} {f : D → Env → Out (Option D)} {vs : List Nat} (J : Nat → List D → Env → Prop) {Q : List D → Env → Prop} {ρ : Env}
    (hs : ∀ i, i < n → ∀ done ρ, J i done ρ → OutW (f (.int i) (wipeE ρ vs)) (fun o ρ1 => Inv (fun p : Nat × List D × Env => J p.1 p.2.1 p.2.2) (i + 1, done ++ o.toList, restE ρ ρ1 vs))) (hn : ∀ done ρ, J n done ρ → Q done ρ) (h0 : J 0 [] ρ) : OutW (lcLoop f vs (rngD 0 (n : Int)) ρ) Q := by
  rw [rngD_nat]
  refine OutW_lcL (fun pre done ρ => ∃ i, pre = List.range i ∧ i ≤ n ∧ J i done ρ) (fun pre x post done ρ h1 hj => ?_) (fun done ρ hj => ?_) ⟨0, rfl, by omega, h0⟩
  · obtain ⟨i, rfl, h2, h3⟩ := hj
    have hl : n = i + (post.length + 1) := by
      have := congrArg List.length h1
      simpa using this
    have hx : x = i := by
      have h4 : (List.range n)[i]? = some x := by rw [h1]; simp
      rw [List.getElem?_range (by omega)] at h4
      exact (Option.some.inj h4).symm
    subst hx
    exact (hs x (by omega) done ρ h3).mono fun o ρ1 h => ⟨x + 1, List.range_succ.symm, by omega, h⟩
  · obtain ⟨i, h1, h2, h3⟩ := hj
    have : n = i := by
      have := congrArg List.length h1
      simpa using this
    subst this
    exact hn done ρ h3
/-- a while loop by a measure -/
theorem FlW_whl {c : Env → Out D} {f : Env → Fl} (J : Nat → Env → Prop) (E : Env → Prop) {Q : Env → Prop} {R : EV → Env → Prop}
    (hs : ∀ m ρ, J m ρ → OutW (c ρ) (fun d ρ' => BoolW d (FlW (f ρ') (fun ρ'' => Inv (fun ρ => ∃ m', m' < m ∧ J m' ρ) ρ'') R) (Inv E ρ'))) (hn : ∀ ρ, E ρ → Q ρ) : ∀ (n m : Nat) (ρ : Env), m < n → J m ρ → FlW (whileLoop c f n ρ) Q R
  | 0, m, ρ, h, _ => by omega
  | n + 1, m, ρ, h, hj => by
    unfold whileLoop
    rw [FlW_then]
    refine (hs m ρ hj).mono fun d ρ' h1 => ?_
    cases d with
    | bool b =>
      cases b with
      | true =>
        have h2 : FlW (f ρ') (fun ρ'' => Inv (fun ρ => ∃ m', m' < m ∧ J m' ρ) ρ'') R := h1
        revert h2
        show FlW (f ρ') _ R → FlW (match f ρ' with
          | .nx ρ' => whileLoop c f n ρ'
          | .ct ρ' => whileLoop c f n ρ'
          | .bk ρ' => .nx ρ'
          | r => r) Q R
        cases f ρ' with
        | nx ρ2 =>
          intro h2
          obtain ⟨m', h3, h4⟩ : ∃ m', m' < m ∧ J m' ρ2 := h2
          exact FlW_whl J E hs hn n m' ρ2 (by omega) h4
        | rt r ρ2 => exact id
        | bk ρ2 => exact fun h => h.elim
        | ct ρ2 => exact fun h => h.elim
        | exc c x ρ2 => exact id
        | bad => exact id
      | false => exact hn ρ' h1
    | _ => exact h1.elim
end Ev
set_option maxRecDepth 100000
set_option linter.all false
namespace LawT
open PySem Ev
def k_WORDS : D := (.tuple [(.str "added"), (.str "all"), (.str "any"), (.str "at"), (.str "by"), (.str "deed"), (.str "do"), (.str "ends"), (.str "for"), (.str "from"), (.str "group"), (.str "least"), (.str "left"), (.str "limit"), (.str "load"), (.str "loads"), (.str "most"), (.str "no"), (.str "none"), (.str "of"), (.str "out"), (.str "part"), (.str "rest"), (.str "row"), (.str "safe"), (.str "take"), (.str "time"), (.str "times"), (.str "to"), (.str "undo"), (.str "work"), (.str "works")])
def f_is_whole : FD := ⟨1, 1, [
  (.ret (.and (.isi (.var 0) "int") (.not (.isi (.var 0) "bool"))))]⟩
def f_is_number : FD := ⟨3, 3, [
  (.ite (.or (.not (.call "is_whole" [(.d (.var 0))] [] [0])) (.and (.cmp .IsNot (.var 1) (.lit .none)) (.cmp .Lt (.var 0) (.var 1)))) [(.ret (.lit (.bool false)))] []),
  (.ret (.or (.cmp .Is (.var 2) (.lit .none)) (.cmp .LtE (.var 0) (.var 2))))]⟩
def f_is_tuple_of : FD := ⟨2, 2, [
  (.ret (.and (.isi (.var 0) "tuple") (.cmp .Eq (.blt "len" [(.var 0)]) (.var 1))))]⟩
def f_wrong_at : FD := ⟨3, 5, [
  (.ite (.not (.isi (.var 0) "tuple")) [(.ret (.lst [(.lit .none)]))] []),
  (.for (.tup [(.nm 3), (.nm 4)]) (.enum (.var 0)) [(.ite (.or (.and (.cmp .IsNot (.var 1) (.lit .none)) (.cmp .GtE (.var 3) (.var 1))) (.not (.callv 2 [(.d (.var 4)), (.d (.slc (.var 0) (.lit .none) (.var 3)))]))) [(.ret (.lst [(.var 3)]))] [])]),
  (.ret (.lst []))]⟩
def f_wrong_from_one : FD := ⟨3, 3, [
  (.ret (.ite (.and (.isi (.var 0) "tuple") (.cmp .Eq (.var 0) (.tup []))) (.lst [(.lit .none)]) (.call "wrong_at" [(.d (.var 0)), (.d (.var 1)), (.fv 2)] [] [0, 1, 2])))]⟩
def f_is_word : FD := ⟨1, 2, [
  (.ret (.and (.isi (.var 0) "str") (.and (.cmp .NotEq (.var 0) (.lit (.str ""))) (.blt "all" [(.lc (.cmp .In (.var 1) (.gc "LETTERS" (.str "abcdefghijklmnopqrstuvwxyz"))) (.nm 1) (.seq (.var 0)) [] [1])]))))]⟩
def f_is_name : FD := ⟨1, 1, [
  (.ret (.and (.call "is_word" [(.d (.var 0))] [] [0]) (.and (.cmp .LtE (.blt "len" [(.var 0)]) (.gc "MOST_IN_NAME" (.int 8))) (.cmp .NotIn (.var 0) (.gc "WORDS" k_WORDS)))))]⟩
def f_is_one_of : FD := ⟨2, 2, [
  (.ret (.and (.isi (.var 0) "str") (.cmp .In (.var 0) (.var 1))))]⟩
def f_is_fraction : FD := ⟨1, 1, [
  (.ite (.or (.not (.call "is_tuple_of" [(.d (.var 0)), (.d (.lit (.int 2)))] [] [0, 1])) (.or (.not (.call "is_whole" [(.d (.ix (.var 0) (.lit (.int 0))))] [] [0])) (.or (.not (.call "is_whole" [(.d (.ix (.var 0) (.lit (.int 1))))] [] [0])) (.cmp .Lt (.ix (.var 0) (.lit (.int 1))) (.lit (.int 1)))))) [(.ret (.lit (.bool false)))] []),
  (.ret (.cmp .Eq (.blt "math.gcd" [(.ix (.var 0) (.lit (.int 0))), (.ix (.var 0) (.lit (.int 1)))]) (.lit (.int 1))))]⟩
def f_lowest : FD := ⟨2, 3, [
  (.asg (.nm 2) (.blt "math.gcd" [(.var 0), (.var 1)])),
  (.ret (.tup [(.bin .FloorDiv (.var 0) (.var 2)), (.bin .FloorDiv (.var 1) (.var 2))]))]⟩
def f_minus : FD := ⟨2, 2, [
  (.ret (.call "lowest" [(.d (.bin .Sub (.bin .Mult (.ix (.var 0) (.lit (.int 0))) (.ix (.var 1) (.lit (.int 1)))) (.bin .Mult (.ix (.var 1) (.lit (.int 0))) (.ix (.var 0) (.lit (.int 1)))))), (.d (.bin .Mult (.ix (.var 0) (.lit (.int 1))) (.ix (.var 1) (.lit (.int 1)))))] [] [0, 1]))]⟩
def f_times : FD := ⟨2, 2, [
  (.ret (.call "lowest" [(.d (.bin .Mult (.ix (.var 0) (.lit (.int 0))) (.ix (.var 1) (.lit (.int 0))))), (.d (.bin .Mult (.ix (.var 0) (.lit (.int 1))) (.ix (.var 1) (.lit (.int 1)))))] [] [0, 1]))]⟩
def f_divided : FD := ⟨2, 4, [
  (.parl [(2, false), (3, false)] [(.bin .Mult (.ix (.var 0) (.lit (.int 0))) (.ix (.var 1) (.lit (.int 1)))), (.bin .Mult (.ix (.var 0) (.lit (.int 1))) (.ix (.var 1) (.lit (.int 0))))]),
  (.ret (.ite (.cmp .Gt (.var 3) (.lit (.int 0))) (.call "lowest" [(.d (.var 2)), (.d (.var 3))] [] [0, 1]) (.call "lowest" [(.d (.bin .Sub (.lit (.int 0)) (.var 2))), (.d (.bin .Sub (.lit (.int 0)) (.var 3)))] [] [0, 1])))]⟩
def f_is_less : FD := ⟨2, 2, [
  (.ret (.cmp .Lt (.bin .Mult (.ix (.var 0) (.lit (.int 0))) (.ix (.var 1) (.lit (.int 1)))) (.bin .Mult (.ix (.var 1) (.lit (.int 0))) (.ix (.var 0) (.lit (.int 1))))))]⟩
def f_greater_of : FD := ⟨2, 2, [
  (.ret (.ite (.call "is_less" [(.d (.var 0)), (.d (.var 1))] [] [0, 1]) (.var 1) (.var 0)))]⟩
def f_greatest_of : FD := ⟨1, 3, [
  (.asg (.nm 1) (.ix (.var 0) (.lit (.int 0)))),
  (.for (.nm 2) (.seq (.var 0)) [(.asg (.nm 1) (.call "greater_of" [(.d (.var 1)), (.d (.var 2))] [] [0, 1]))]),
  (.ret (.var 1))]⟩
def f_is_part_form : FD := ⟨1, 1, [
  (.ret (.and (.call "is_tuple_of" [(.d (.var 0)), (.d (.lit (.int 2)))] [] [0, 1]) (.and (.call "is_name" [(.d (.ix (.var 0) (.lit (.int 0))))] [] [0]) (.call "is_number" [(.d (.ix (.var 0) (.lit (.int 1)))), (.d (.lit (.int 1))), (.d (.gc "MOST_LIMIT" (.int 9999)))] [] [0, 1, 2]))))]⟩
def f_is_triple : FD := ⟨1, 1, [
  (.ite (.or (.not (.call "is_tuple_of" [(.d (.var 0)), (.d (.lit (.int 3)))] [] [0, 1])) (.not (.call "is_number" [(.d (.ix (.var 0) (.lit (.int 1)))), (.d (.lit (.int 2))), (.d (.gc "MOST_OF" (.int 12)))] [] [0, 1, 2]))) [(.ret (.lit (.bool false)))] []),
  (.ret (.and (.call "is_number" [(.d (.ix (.var 0) (.lit (.int 0)))), (.d (.lit (.int 1))), (.d (.bin .Sub (.ix (.var 0) (.lit (.int 1))) (.lit (.int 1))))] [] [0, 1, 2]) (.call "is_number" [(.d (.ix (.var 0) (.lit (.int 2)))), (.d (.lit (.int 0))), (.d (.gc "MOST_ADDED" (.int 999)))] [] [0, 1, 2])))]⟩
def f_is_deed_form : FD := ⟨2, 3, [
  (.ite (.or (.not (.call "is_tuple_of" [(.d (.var 0)), (.d (.lit (.int 2)))] [] [0, 1])) (.or (.not (.call "is_name" [(.d (.ix (.var 0) (.lit (.int 0))))] [] [0])) (.not (.call "is_tuple_of" [(.d (.ix (.var 0) (.lit (.int 1)))), (.d (.var 1))] [] [0, 1])))) [(.ret (.lit (.bool false)))] []),
  (.ret (.blt "all" [(.lc (.call "is_triple" [(.d (.var 2))] [] [0]) (.nm 2) (.seq (.ix (.var 0) (.lit (.int 1)))) [] [2])]))]⟩
def f_are_ascending_by_name : FD := ⟨3, 4, [
  (.defn 3),
  (.ret (.cmp .Eq (.call "wrong_from_one" [(.d (.var 0)), (.d (.var 1)), (.made 3 3 [2])] [] [0, 1, 2]) (.lst [])))]⟩
def f_is_book_form : FD := ⟨1, 2, [
  (.ite (.or (.not (.call "is_tuple_of" [(.d (.var 0)), (.d (.lit (.int 2)))] [] [0, 1])) (.not (.call "are_ascending_by_name" [(.d (.ix (.var 0) (.lit (.int 0)))), (.d (.gc "MOST_PARTS" (.int 3))), (.fg "is_part_form")] [] [0, 1, 2]))) [(.ret (.lit (.bool false)))] []),
  (.asg (.nm 1) (.blt "len" [(.ix (.var 0) (.lit (.int 0)))])),
  (.ret (.call "are_ascending_by_name" [(.d (.ix (.var 0) (.lit (.int 1)))), (.d (.gc "MOST_DEEDS" (.int 6))), (.lam 4 [1])] [] [0, 1, 2]))]⟩
def f_wrong_row : FD := ⟨3, 3, [
  (.ret (.call "wrong_from_one" [(.d (.var 1)), (.d (.var 2)), (.lam 5 [0])] [] [0, 1, 2]))]⟩
def f_wrong_works : FD := ⟨2, 2, [
  (.ret (.call "wrong_from_one" [(.d (.var 1)), (.d (.gc "MOST_WORKS" (.int 6))), (.lam 6 [0])] [] [0, 1, 2]))]⟩
def f_is_load_form : FD := ⟨1, 1, [
  (.ret (.and (.call "is_fraction" [(.d (.var 0))] [] [0]) (.cmp .GtE (.ix (.var 0) (.lit (.int 0))) (.lit (.int 0)))))]⟩
def f_part_names : FD := ⟨1, 3, [
  (.ret (.lc (.var 1) (.tup [(.nm 1), (.nm 2)]) (.seq (.ix (.var 0) (.lit (.int 0)))) [] [1, 2]))]⟩
def f_deed_names : FD := ⟨1, 3, [
  (.ret (.lc (.var 1) (.tup [(.nm 1), (.nm 2)]) (.seq (.ix (.var 0) (.lit (.int 1)))) [] [1, 2]))]⟩
def f_triples_of : FD := ⟨2, 5, [
  (.asg (.nm 2) (.mth "index" (.call "part_names" [(.d (.var 0))] [] [0]) [(.var 1)])),
  (.ret (.dc (.var 3) (.ix (.var 4) (.var 2)) (.tup [(.nm 3), (.nm 4)]) (.seq (.ix (.var 0) (.lit (.int 1)))) [3, 4]))]⟩
def f_along_of : FD := ⟨4, 8, [
  (.parl [(4, false), (5, false), (6, true)] [(.call "triples_of" [(.d (.var 0)), (.d (.var 2))] [] [0, 1]), (.var 3), (.lst [])]),
  (.for (.nm 7) (.seq (.var 1)) [(.asg (.nm 5) (.call "done_by" [(.d (.ix (.var 4) (.var 7))), (.d (.var 5))] [] [0, 1])), (.expr (.mut "append" 6 [(.var 5)]))]),
  (.ret (.mov 6))]⟩
def f_done_by : FD := ⟨2, 5, [
  (.asg (.tup [(.nm 2), (.nm 3), (.nm 4)]) (.var 0)),
  (.ret (.call "lowest" [(.d (.bin .Add (.bin .Mult (.var 2) (.ix (.var 1) (.lit (.int 0)))) (.bin .Mult (.bin .Mult (.var 4) (.var 3)) (.ix (.var 1) (.lit (.int 1)))))), (.d (.bin .Mult (.var 3) (.ix (.var 1) (.lit (.int 1)))))] [] [0, 1]))]⟩
def f_left_of : FD := ⟨4, 4, [
  (.ret (.ix (.call "along_of" [(.d (.var 0)), (.d (.var 1)), (.d (.var 2)), (.d (.var 3))] [] [0, 1, 2, 3]) (.neg (.lit (.int 1)))))]⟩
def f_effect_of : FD := ⟨3, 9, [
  (.parl [(3, false), (4, false)] [(.gc "WHOLE" (.tuple [(.int 1), (.int 1)])), (.call "triples_of" [(.d (.var 0)), (.d (.var 2))] [] [0, 1])]),
  (.for (.nm 5) (.seq (.var 1)) [(.asg (.tup [(.nm 6), (.nm 7), (.nm 8)]) (.ix (.var 4) (.var 5))), (.asg (.nm 3) (.call "times" [(.d (.var 3)), (.d (.call "lowest" [(.d (.var 6)), (.d (.var 7))] [] [0, 1]))] [] [0, 1]))]),
  (.ret (.tup [(.var 3), (.call "left_of" [(.d (.var 0)), (.d (.var 1)), (.d (.var 2)), (.d (.gc "NOUGHT" (.tuple [(.int 0), (.int 1)])))] [] [0, 1, 2, 3])]))]⟩
def f_standing_of : FD := ⟨3, 5, [
  (.asg (.tup [(.nm 3), (.nm 4)]) (.call "effect_of" [(.d (.var 0)), (.d (.var 1)), (.d (.var 2))] [] [0, 1, 2])),
  (.ret (.call "divided" [(.d (.var 4)), (.d (.call "minus" [(.d (.gc "WHOLE" (.tuple [(.int 1), (.int 1)]))), (.d (.var 3))] [] [0, 1]))] [] [0, 1]))]⟩
def f_standings_of : FD := ⟨3, 4, [
  (.ret (.lc (.call "standing_of" [(.d (.var 0)), (.d (.var 3)), (.d (.var 2))] [] [0, 1, 2]) (.nm 3) (.seq (.var 1)) [] [3]))]⟩
def f_strain_of : FD := ⟨4, 4, [
  (.ret (.call "greatest_of" [(.d (.call "along_of" [(.d (.var 0)), (.d (.var 1)), (.d (.var 2)), (.d (.var 3))] [] [0, 1, 2, 3]))] [] [0]))]⟩
def f_check_book : FD := ⟨1, 1, [
  (.ite (.not (.call "is_book_form" [(.d (.var 0))] [] [0])) [(.raise "" none)] [])]⟩
def f_check_part : FD := ⟨2, 2, [
  (.ite (.not (.call "is_one_of" [(.d (.var 1)), (.d (.call "part_names" [(.d (.var 0))] [] [0]))] [] [0, 1])) [(.raise "" none)] [])]⟩
def f_check_row_of : FD := ⟨2, 3, [
  (.for (.nm 2) (.seq (.call "wrong_row" [(.d (.call "deed_names" [(.d (.var 0))] [] [0])), (.d (.var 1)), (.d (.gc "MOST_ROW" (.int 12)))] [] [0, 1, 2])) [(.raise "" none)])]⟩
def f_check_row : FD := ⟨2, 2, [
  (.expr (.call "check_book" [(.d (.var 0))] [] [0])),
  (.expr (.call "check_row_of" [(.d (.var 0)), (.d (.var 1))] [] [0, 1]))]⟩
def f_check_row_part : FD := ⟨3, 3, [
  (.expr (.call "check_row" [(.d (.var 0)), (.d (.var 1))] [] [0, 1])),
  (.expr (.call "check_part" [(.d (.var 0)), (.d (.var 2))] [] [0, 1]))]⟩
def f_check_works_of : FD := ⟨2, 3, [
  (.for (.nm 2) (.seq (.call "wrong_works" [(.d (.call "deed_names" [(.d (.var 0))] [] [0])), (.d (.var 1))] [] [0, 1])) [(.raise "" none)])]⟩
def f_check_works : FD := ⟨2, 2, [
  (.expr (.call "check_book" [(.d (.var 0))] [] [0])),
  (.expr (.call "check_works_of" [(.d (.var 0)), (.d (.var 1))] [] [0, 1]))]⟩
def f_check_load : FD := ⟨1, 1, [
  (.ite (.not (.call "is_load_form" [(.d (.var 0))] [] [0])) [(.raise "" none)] [])]⟩
def f_check_two_works : FD := ⟨3, 3, [
  (.expr (.call "check_works" [(.d (.var 0)), (.d (.var 1))] [] [0, 1])),
  (.expr (.call "check_works_of" [(.d (.var 0)), (.d (.var 2))] [] [0, 1]))]⟩
def f_strain_from_nothing : FD := ⟨3, 5, [
  (.asg (.nm 3) (.call "greatest_of" [(.d (.call "standings_of" [(.d (.var 0)), (.d (.var 1)), (.d (.var 2))] [] [0, 1, 2]))] [] [0])),
  (.ret (.call "greatest_of" [(.d (.lc (.call "strain_of" [(.d (.var 0)), (.d (.var 4)), (.d (.var 2)), (.d (.var 3))] [] [0, 1, 2, 3]) (.nm 4) (.seq (.var 1)) [] [4]))] [] [0]))]⟩
def f_strained_parts : FD := ⟨3, 5, [
  (.asgO 3 (.lst [])),
  (.for (.nm 4) (.seq (.call "part_names" [(.d (.var 0))] [] [0])) [(.ite (.call "is_less" [(.d (.call "strain_from_nothing" [(.d (.var 0)), (.d (.var 2)), (.d (.var 4))] [] [0, 1, 2])), (.d (.call "strain_from_nothing" [(.d (.var 0)), (.d (.var 1)), (.d (.var 4))] [] [0, 1, 2]))] [] [0, 1]) [(.expr (.mut "append" 3 [(.var 4)]))] []), (.forget [4])]),
  (.ret (.mov 3))]⟩
def f_never_strains_more : FD := ⟨3, 3, [
  (.expr (.call "check_two_works" [(.d (.var 0)), (.d (.var 1)), (.d (.var 2))] [] [0, 1, 2])),
  (.ret (.cmp .Eq (.call "strained_parts" [(.d (.var 0)), (.d (.var 1)), (.d (.var 2))] [] [0, 1, 2]) (.lst [])))]⟩
def f_strained_part : FD := ⟨3, 3, [
  (.expr (.call "check_two_works" [(.d (.var 0)), (.d (.var 1)), (.d (.var 2))] [] [0, 1, 2])),
  (.ret (.ix (.cat true [true, false] [(.call "strained_parts" [(.d (.var 0)), (.d (.var 1)), (.d (.var 2))] [] [0, 1, 2]), (.lit .none)]) (.lit (.int 0))))]⟩
def f_strain : FD := ⟨4, 4, [
  (.expr (.call "check_row_part" [(.d (.var 0)), (.d (.var 1)), (.d (.var 2))] [] [0, 1, 2])),
  (.expr (.call "check_load" [(.d (.var 3))] [] [0])),
  (.ret (.call "strain_of" [(.d (.var 0)), (.d (.var 1)), (.d (.var 2)), (.d (.var 3))] [] [0, 1, 2, 3]))]⟩
def f_law_well : FD := ⟨2, 5, [
  (.asg (.nm 2) (.ite (.cmp .Lt (.var 1) (.lenv 0)) (.blt "int" [(.ixv 0 (.var 1))]) (.bin .Add (.bin .Mult (.lit (.int 8513)) (.var 1)) (.lit (.int 1511))))),
  (.asg (.nm 3) (.bin .Add (.lit (.int 28001)) (.bin .Mult (.lit (.int 2707)) (.var 1)))),
  (.for (.nm 4) (.seq (.bin .Add (.slv 0 (.lit .none) (.lit (.int 7))) (.lst [(.var 2)]))) [(.asg (.nm 3) (.bin .Mod (.blt "int" [(.bin .Add (.bin .Add (.bin .Mult (.var 3) (.lit (.int 38011))) (.bin .Mod (.blt "int" [(.var 4)]) (.lit (.int 2147480009)))) (.lit (.int 83)))]) (.lit (.int 2147480009)))), (.forget [4])]),
  (.ret (.lst [(.ite (.or (.cmp .Lt (.var 2) (.lit (.int 0))) (.cmp .GtE (.var 2) (.bin .Pow (.lit (.int 10)) (.lit (.int 15))))) (.blt "abs" [(.var 2)]) (.lit (.int 0))), (.var 3), (.lit (.int 0))]))]⟩
def f_law_dip : FD := ⟨2, 3, [
  (.ite (.cmp .Gt (.ixv 0 (.lit (.int 0))) (.lit (.int 0))) [(.asg (.tup [(.at 0 0), (.nm 2)]) (.blt "divmod" [(.ixv 0 (.lit (.int 0))), (.var 1)])), (.ret (.var 2))] []),
  (.setx 0 (.lit (.int 2)) (.bin .Add (.ixv 0 (.lit (.int 2))) (.lit (.int 1)))),
  (.setx 0 (.lit (.int 1)) (.bin .Mod (.blt "int" [(.bin .Add (.bin .Add (.bin .Mult (.ixv 0 (.lit (.int 1))) (.lit (.int 48271))) (.bin .Mult (.lit (.int 7919)) (.ixv 0 (.lit (.int 2))))) (.lit (.int 97)))]) (.lit (.int 2147480009)))),
  (.ret (.bin .Mod (.blt "int" [(.bin .FloorDiv (.ixv 0 (.lit (.int 1))) (.lit (.int 163)))]) (.var 1)))]⟩
def f_law_one : FD := ⟨2, 2, [
  (.ret (.ix (.var 1) (.call "_law_dip" [(.mv 0), (.d (.blt "len" [(.var 1)]))] [] [0, 1])))]⟩
def f_law_turns : FD := ⟨1, 1, [
  (.ret (.ofit false (.rng (.blt "max" [(.lit (.int 2)), (.blt "min" [(.lenv 0), (.lit (.int 3))])]) (.lit .none) false)))]⟩
def f_law_low : FD := ⟨2, 4, [
  (.parl [(2, false), (3, false)] [(.blt "abs" [(.var 0)]), (.var 1)]),
  (.while (.cmp .Gt (.var 3) (.lit (.int 0))) [(.parl [(2, false), (3, false)] [(.var 3), (.bin .Mod (.blt "int" [(.var 2)]) (.var 3))])]),
  (.forget [3]),
  (.ret (.tup [(.bin .FloorDiv (.var 0) (.var 2)), (.bin .FloorDiv (.var 1) (.var 2))]))]⟩
def f_law_add : FD := ⟨2, 2, [
  (.ret (.call "_law_low" [(.d (.bin .Add (.bin .Mult (.ix (.var 0) (.lit (.int 0))) (.ix (.var 1) (.lit (.int 1)))) (.bin .Mult (.ix (.var 1) (.lit (.int 0))) (.ix (.var 0) (.lit (.int 1)))))), (.d (.bin .Mult (.ix (.var 0) (.lit (.int 1))) (.ix (.var 1) (.lit (.int 1)))))] [] [0, 1]))]⟩
def f_law_take : FD := ⟨2, 2, [
  (.ret (.call "_law_low" [(.d (.bin .Sub (.bin .Mult (.ix (.var 0) (.lit (.int 0))) (.ix (.var 1) (.lit (.int 1)))) (.bin .Mult (.ix (.var 1) (.lit (.int 0))) (.ix (.var 0) (.lit (.int 1)))))), (.d (.bin .Mult (.ix (.var 0) (.lit (.int 1))) (.ix (.var 1) (.lit (.int 1)))))] [] [0, 1]))]⟩
def f_law_by : FD := ⟨2, 2, [
  (.ret (.call "_law_low" [(.d (.bin .Mult (.ix (.var 0) (.lit (.int 0))) (.ix (.var 1) (.lit (.int 0))))), (.d (.bin .Mult (.ix (.var 0) (.lit (.int 1))) (.ix (.var 1) (.lit (.int 1)))))] [] [0, 1]))]⟩
def f_law_part : FD := ⟨2, 2, [
  (.ret (.call "_law_low" [(.d (.bin .Mult (.ix (.var 0) (.lit (.int 0))) (.ix (.var 1) (.lit (.int 1))))), (.d (.bin .Mult (.ix (.var 0) (.lit (.int 1))) (.ix (.var 1) (.lit (.int 0)))))] [] [0, 1]))]⟩
def f_law_less : FD := ⟨2, 2, [
  (.ret (.cmp .Lt (.bin .Mult (.ix (.var 0) (.lit (.int 0))) (.ix (.var 1) (.lit (.int 1)))) (.bin .Mult (.ix (.var 1) (.lit (.int 0))) (.ix (.var 0) (.lit (.int 1))))))]⟩
def f_law_greatest : FD := ⟨1, 3, [
  (.asg (.nm 1) (.ix (.var 0) (.lit (.int 0)))),
  (.for (.nm 2) (.seq (.var 0)) [(.asg (.nm 1) (.ite (.call "_law_less" [(.d (.var 1)), (.d (.var 2))] [] [0, 1]) (.var 2) (.var 1))), (.forget [2])]),
  (.ret (.var 1))]⟩
def f_law_least : FD := ⟨1, 3, [
  (.asg (.nm 1) (.ix (.var 0) (.lit (.int 0)))),
  (.for (.nm 2) (.seq (.var 0)) [(.asg (.nm 1) (.ite (.call "_law_less" [(.d (.var 2)), (.d (.var 1))] [] [0, 1]) (.var 2) (.var 1))), (.forget [2])]),
  (.ret (.var 1))]⟩
def f_law_words : FD := ⟨2, 11, [
  (.parl [(2, false), (3, true)] [(.lit (.str "abcdefghijklmnopqrstuvwxyz")), (.lst [])]),
  (.asg (.nm 4) (.lst [(.lit (.str "added")), (.lit (.str "all")), (.lit (.str "any")), (.lit (.str "at")), (.lit (.str "by")), (.lit (.str "deed")), (.lit (.str "do")), (.lit (.str "ends")), (.lit (.str "for")), (.lit (.str "from")), (.lit (.str "group")), (.lit (.str "least")), (.lit (.str "left")), (.lit (.str "limit"))])),
  (.asg (.nm 4) (.bin .Add (.var 4) (.lst [(.lit (.str "load")), (.lit (.str "loads")), (.lit (.str "most")), (.lit (.str "no")), (.lit (.str "none")), (.lit (.str "of")), (.lit (.str "out")), (.lit (.str "part")), (.lit (.str "rest")), (.lit (.str "row")), (.lit (.str "safe")), (.lit (.str "take")), (.lit (.str "time"))]))),
  (.asg (.nm 4) (.bin .Add (.var 4) (.lst [(.lit (.str "times")), (.lit (.str "to")), (.lit (.str "undo")), (.lit (.str "work")), (.lit (.str "works"))]))),
  (.for (.nm 5) (.rng (.var 1) (.lit .none) false) [(.asg (.nm 6) (.mth "join" (.lit (.str "")) [(.lc (.call "_law_one" [(.mv 0), (.d (.var 2))] [] [0, 1]) (.nm 7) (.rng (.bin .Add (.lit (.int 1)) (.call "_law_dip" [(.mv 0), (.d (.call "_law_one" [(.mv 0), (.d (.lst [(.lit (.int 2)), (.lit (.int 3)), (.lit (.int 8))]))] [] [0, 1]))] [] [0, 1])) (.lit .none) false) [] [7])])), (.asg (.nm 8) (.bin .Add (.bin .Add (.lst [(.var 6)]) (.lc (.bin .Add (.bin .Add (.slc (.var 6) (.lit .none) (.lit (.int 6))) (.var 9)) (.lit (.str "q"))) (.nm 9) (.seq (.var 2)) [] [9])) (.lc (.bin .Add (.bin .Add (.slc (.var 6) (.lit .none) (.lit (.int 6))) (.var 9)) (.lit (.str "z"))) (.nm 9) (.seq (.var 2)) [] [9]))), (.expr (.mut "append" 3 [(.ix (.lc (.var 10) (.nm 10) (.seq (.var 8)) [(.cmp .NotIn (.var 10) (.addv 3 (.var 4)))] [10]) (.lit (.int 0)))])), (.forget [5, 6, 8])]),
  (.ret (.blt "tuple" [(.blt "sorted" [(.var 3)])]))]⟩
def f_law_book : FD := ⟨2, 12, [
  (.asg (.nm 2) (.call "_law_words" [(.mv 0), (.d (.bin .Add (.lit (.int 1)) (.call "_law_dip" [(.mv 0), (.d (.lit (.int 3)))] [] [0, 1])))] [] [0, 1])),
  (.asg (.nm 3) (.lc (.tup [(.var 4), (.bin .Add (.lit (.int 1)) (.call "_law_dip" [(.mv 0), (.d (.call "_law_one" [(.mv 0), (.d (.lst [(.lit (.int 9)), (.lit (.int 40)), (.lit (.int 90))]))] [] [0, 1]))] [] [0, 1]))]) (.nm 4) (.seq (.var 2)) [] [4])),
  (.parl [(2, false), (5, true), (6, false)] [(.call "_law_words" [(.mv 0), (.d (.bin .Add (.lit (.int 2)) (.call "_law_dip" [(.mv 0), (.d (.bin .Sub (.var 1) (.lit (.int 1))))] [] [0, 1])))] [] [0, 1]), (.lst []), (.call "_law_one" [(.mv 0), (.d (.lst [(.lit (.int 3)), (.lit (.int 9)), (.lit (.int 20))]))] [] [0, 1])]),
  (.asg (.nm 7) (.call "_law_dip" [(.mv 0), (.d (.blt "len" [(.var 2)]))] [] [0, 1])),
  (.for (.nm 8) (.rng (.blt "len" [(.var 2)]) (.lit .none) false) [(.asgO 9 (.lst [])), (.for (.nm 10) (.seq (.var 3)) [(.asg (.nm 11) (.bin .Add (.lit (.int 2)) (.call "_law_dip" [(.mv 0), (.d (.call "_law_one" [(.mv 0), (.d (.lst [(.lit (.int 2)), (.lit (.int 4)), (.lit (.int 11))]))] [] [0, 1]))] [] [0, 1]))), (.expr (.mut "append" 9 [(.tup [(.bin .Add (.lit (.int 1)) (.call "_law_dip" [(.mv 0), (.d (.bin .Sub (.var 11) (.lit (.int 1))))] [] [0, 1])), (.var 11), (.ite (.cmp .Eq (.var 8) (.var 7)) (.lit (.int 0)) (.call "_law_dip" [(.mv 0), (.d (.var 6))] [] [0, 1]))])])), (.forget [10, 11])]), (.expr (.mut "append" 5 [(.tup [(.ix (.var 2) (.var 8)), (.blt "tuple" [(.var 9)])])])), (.forget [8, 9, 10, 11])]),
  (.ret (.tup [(.blt "tuple" [(.var 3)]), (.blt "tuple" [(.var 5)])]))]⟩
def f_law_rests : FD := ⟨1, 4, [
  (.ret (.lc (.var 1) (.tup [(.nm 1), (.nm 2)]) (.seq (.ix (.var 0) (.lit (.int 1)))) [(.cmp .Eq (.lc (.var 3) (.nm 3) (.seq (.var 2)) [(.cmp .Gt (.ix (.var 3) (.lit (.int 2))) (.lit (.int 0)))] [3]) (.lst []))] [1, 2]))]⟩
def f_law_tables : FD := ⟨2, 6, [
  (.asg (.nm 2) (.mth "index" (.lc (.var 3) (.tup [(.nm 3), (.nm 4)]) (.seq (.ix (.var 0) (.lit (.int 0)))) [] [3, 4]) [(.var 1)])),
  (.ret (.blt "dict" [(.lc (.tup [(.var 3), (.ix (.var 5) (.var 2))]) (.tup [(.nm 3), (.nm 5)]) (.seq (.ix (.var 0) (.lit (.int 1)))) [] [3, 5])]))]⟩
def f_law_row : FD := ⟨3, 4, [
  (.ret (.blt "tuple" [(.lc (.ix (.call "_law_one" [(.mv 0), (.d (.ix (.var 1) (.lit (.int 1))))] [] [0, 1]) (.lit (.int 0))) (.nm 3) (.rng (.bin .Add (.lit (.int 1)) (.call "_law_dip" [(.mv 0), (.d (.var 2))] [] [0, 1])) (.lit .none) false) [] [3])]))]⟩
def f_law_works : FD := ⟨4, 5, [
  (.ret (.blt "tuple" [(.lc (.call "_law_row" [(.mv 0), (.d (.var 1)), (.d (.var 3))] [] [0, 1, 2]) (.nm 4) (.rng (.bin .Add (.lit (.int 1)) (.call "_law_dip" [(.mv 0), (.d (.var 2))] [] [0, 1])) (.lit .none) false) [] [4])]))]⟩
def f_law_along : FD := ⟨3, 8, [
  (.asgO 3 (.lst [(.var 2)])),
  (.for (.nm 4) (.seq (.var 1)) [(.asg (.tup [(.nm 5), (.nm 6), (.nm 7)]) (.ix (.var 0) (.var 4))), (.expr (.mut "append" 3 [(.call "_law_add" [(.d (.call "_law_by" [(.d (.tup [(.var 5), (.var 6)])), (.d (.ixv 3 (.neg (.lit (.int 1)))))] [] [0, 1])), (.d (.tup [(.var 7), (.lit (.int 1))]))] [] [0, 1])])), (.forget [4, 5, 6, 7])]),
  (.ret (.slv 3 (.lit (.int 1)) (.lit .none)))]⟩
def f_law_effect : FD := ⟨2, 4, [
  (.asg (.nm 2) (.tup [(.lit (.int 1)), (.lit (.int 1))])),
  (.for (.nm 3) (.seq (.var 1)) [(.asg (.nm 2) (.call "_law_by" [(.d (.var 2)), (.d (.slc (.ix (.var 0) (.var 3)) (.lit .none) (.lit (.int 2))))] [] [0, 1])), (.forget [3])]),
  (.ret (.tup [(.var 2), (.ix (.call "_law_along" [(.d (.var 0)), (.d (.var 1)), (.d (.tup [(.lit (.int 0)), (.lit (.int 1))]))] [] [0, 1, 2]) (.neg (.lit (.int 1))))]))]⟩
def f_law_stands : FD := ⟨2, 4, [
  (.asg (.tup [(.nm 2), (.nm 3)]) (.call "_law_effect" [(.d (.var 0)), (.d (.var 1))] [] [0, 1])),
  (.ret (.call "_law_part" [(.d (.var 3)), (.d (.call "_law_take" [(.d (.tup [(.lit (.int 1)), (.lit (.int 1))])), (.d (.var 2))] [] [0, 1]))] [] [0, 1]))]⟩
def f_law_most_strain : FD := ⟨2, 5, [
  (.asg (.nm 2) (.tup [(.lit (.int 0)), (.lit (.int 1))])),
  (.for (.nm 3) (.seq (.var 1)) [(.for (.nm 4) (.seq (.var 1)) [(.asg (.nm 2) (.call "_law_greatest" [(.d (.bin .Add (.lst [(.var 2)]) (.call "_law_along" [(.d (.var 0)), (.d (.var 4)), (.d (.call "_law_stands" [(.d (.var 0)), (.d (.var 3))] [] [0, 1]))] [] [0, 1, 2])))] [] [0])), (.forget [4])]), (.forget [3, 4])]),
  (.ret (.var 2))]⟩
def f_law_right : FD := ⟨1, 18, [
  (.for (.nm 1) (.rng (.lit (.int 4)) (.lit .none) false) [(.asg (.nm 2) (.call "_law_book" [(.mv 0), (.d (.lit (.int 4)))] [] [0, 1])), (.parl [(3, false), (4, false)] [(.call "_law_works" [(.mv 0), (.d (.var 2)), (.d (.lit (.int 3))), (.d (.lit (.int 3)))] [] [0, 1, 2, 3]), (.call "_law_works" [(.mv 0), (.d (.var 2)), (.d (.lit (.int 3))), (.d (.lit (.int 3)))] [] [0, 1, 2, 3])]), (.asg (.nm 5) (.call "_law_one" [(.mv 0), (.d (.call "_law_rests" [(.d (.var 2))] [] [0]))] [] [0, 1])), (.asg (.nm 4) (.slc (.call "_law_one" [(.mv 0), (.d (.lst [(.var 4), (.var 4), (.bin .Add (.var 3) (.var 4)), (.blt "tuple" [(.lc (.bin .Add (.var 6) (.tup [(.var 5)])) (.nm 6) (.seq (.var 3)) [] [6])])]))] [] [0, 1]) (.lit .none) (.lit (.int 6)))), (.asgO 7 (.lst [])), (.for (.tup [(.nm 8), (.nm 9)]) (.seq (.ix (.var 2) (.lit (.int 0)))) [(.asg (.nm 10) (.call "_law_tables" [(.d (.var 2)), (.d (.var 8))] [] [0, 1])), (.asg (.nm 11) (.call "_law_most_strain" [(.d (.var 10)), (.d (.var 3))] [] [0, 1])), (.ite (.call "_law_less" [(.d (.call "_law_most_strain" [(.d (.var 10)), (.d (.var 4))] [] [0, 1])), (.d (.var 11))] [] [0, 1]) [(.expr (.mut "append" 7 [(.var 8)]))] []), (.asg (.nm 12) (.lst [(.tup [(.lit (.int 0)), (.lit (.int 1))])])), (.for (.nm 13) (.rng (.lit (.int 4)) (.lit .none) false) [(.asgO 14 (.lst [])), (.for (.nm 15) (.seq (.var 12)) [(.for (.nm 6) (.seq (.var 3)) [(.ite (.cmp .NotEq (.call "strain" [(.d (.var 2)), (.d (.var 6)), (.d (.var 8)), (.d (.var 15))] [] [0, 1, 2, 3]) (.call "_law_greatest" [(.d (.call "_law_along" [(.d (.var 10)), (.d (.var 6)), (.d (.var 15))] [] [0, 1, 2]))] [] [0])) [(.ret (.lit (.bool false)))] []), (.ite (.call "_law_less" [(.d (.var 11)), (.d (.call "_law_greatest" [(.d (.call "_law_along" [(.d (.var 10)), (.d (.var 6)), (.d (.var 15))] [] [0, 1, 2]))] [] [0]))] [] [0, 1]) [(.ret (.lit (.bool false)))] []), (.expr (.mut "append" 14 [(.ix (.call "_law_along" [(.d (.var 10)), (.d (.var 6)), (.d (.var 15))] [] [0, 1, 2]) (.neg (.lit (.int 1))))]))]), (.forget [15])]), (.asg (.nm 12) (.lst [(.call "_law_greatest" [(.d (.var 14))] [] [0]), (.call "_law_least" [(.d (.var 14))] [] [0]), (.call "_law_one" [(.mv 0), (.d (.var 14))] [] [0, 1])])), (.forget [13, 14, 15])]), (.forget [12]), (.forget [8, 9, 10, 11, 12, 13, 14, 15])]), (.asg (.nm 16) (.ite (.cmp .NotEq (.var 7) (.lst [])) (.ix (.var 7) (.lit (.int 0))) (.lit .none))), (.asg (.nm 17) (.lst [(.call "strained_part" [(.d (.var 2)), (.d (.var 3)), (.d (.var 4))] [] [0, 1, 2]), (.call "strained_part" [(.d (.var 4)), (.d (.var 3)), (.d (.var 2))] ["works2", "works", "book"] [2, 1, 0])])), (.ite (.cmp .NotEq (.blt "repr" [(.var 17)]) (.blt "repr" [(.lst [(.var 16), (.var 16)])])) [(.ret (.lit (.bool false)))] []), (.asg (.nm 17) (.lst [(.call "never_strains_more" [(.d (.var 2)), (.d (.var 3)), (.d (.var 4))] [] [0, 1, 2]), (.call "never_strains_more" [(.d (.var 4)), (.d (.var 3)), (.d (.var 2))] ["works2", "works", "book"] [2, 1, 0])])), (.ite (.cmp .NotEq (.blt "repr" [(.var 17)]) (.blt "repr" [(.bin .Mult (.lst [(.cmp .Eq (.var 7) (.lst []))]) (.lit (.int 2)))])) [(.ret (.lit (.bool false)))] []), (.ite (.or (.cmp .IsNot (.call "never_strains_more" [(.d (.var 2)), (.d (.slc (.var 3) (.lit .none) (.lit (.int 1)))), (.d (.var 3))] [] [0, 1, 2]) (.lit (.bool true))) (.cmp .IsNot (.call "never_strains_more" [(.d (.var 2)), (.d (.var 3)), (.d (.var 3))] [] [0, 1, 2]) (.lit (.bool true)))) [(.ret (.lit (.bool false)))] []), (.forget [1, 2, 3, 4, 5, 7, 8, 9, 10, 11, 12, 13, 14, 15, 16, 17])]),
  (.forget [6]),
  (.ret (.lit (.bool true)))]⟩
def f_law : FD := ⟨1, 2, [
  (.ret (.blt "all" [(.lc (.call1 "_law_right" (.call "_law_well" [(.mv 0), (.d (.var 1))] [] [0, 1])) (.nm 1) (.seq (.call "_law_turns" [(.mv 0)] [] [0])) [] [1])]))]⟩
def l_3 : LD := ⟨2, 1, 3, [(.ret (.and (.callv 2 [(.d (.var 0))]) (.or (.cmp .Eq (.var 1) (.tup [])) (.cmp .Lt (.ix (.ix (.var 1) (.neg (.lit (.int 1)))) (.lit (.int 0))) (.ix (.var 0) (.lit (.int 0)))))))]⟩
def l_4 : LD := ⟨1, 1, 2, [.ret (.call "is_deed_form" [(.d (.var 0)), (.d (.var 1))] [] [0, 1])]⟩
def l_5 : LD := ⟨2, 1, 3, [.ret (.call "is_one_of" [(.d (.var 0)), (.d (.var 2))] [] [0, 1])]⟩
def l_6 : LD := ⟨2, 1, 3, [.ret (.cmp .Eq (.call "wrong_row" [(.d (.var 2)), (.d (.var 0)), (.d (.gc "MOST_IN_WORK" (.int 6)))] [] [0, 1, 2]) (.lst []))]⟩
def tab : List (Str × FD) := [
  (("is_whole" : Str), f_is_whole),
  (("is_number" : Str), f_is_number),
  (("is_tuple_of" : Str), f_is_tuple_of),
  (("wrong_at" : Str), f_wrong_at),
  (("wrong_from_one" : Str), f_wrong_from_one),
  (("is_word" : Str), f_is_word),
  (("is_name" : Str), f_is_name),
  (("is_one_of" : Str), f_is_one_of),
  (("is_fraction" : Str), f_is_fraction),
  (("lowest" : Str), f_lowest),
  (("minus" : Str), f_minus),
  (("times" : Str), f_times),
  (("divided" : Str), f_divided),
  (("is_less" : Str), f_is_less),
  (("greater_of" : Str), f_greater_of),
  (("greatest_of" : Str), f_greatest_of),
  (("is_part_form" : Str), f_is_part_form),
  (("is_triple" : Str), f_is_triple),
  (("is_deed_form" : Str), f_is_deed_form),
  (("are_ascending_by_name" : Str), f_are_ascending_by_name),
  (("is_book_form" : Str), f_is_book_form),
  (("wrong_row" : Str), f_wrong_row),
  (("wrong_works" : Str), f_wrong_works),
  (("is_load_form" : Str), f_is_load_form),
  (("part_names" : Str), f_part_names),
  (("deed_names" : Str), f_deed_names),
  (("triples_of" : Str), f_triples_of),
  (("along_of" : Str), f_along_of),
  (("done_by" : Str), f_done_by),
  (("left_of" : Str), f_left_of),
  (("effect_of" : Str), f_effect_of),
  (("standing_of" : Str), f_standing_of),
  (("standings_of" : Str), f_standings_of),
  (("strain_of" : Str), f_strain_of),
  (("check_book" : Str), f_check_book),
  (("check_part" : Str), f_check_part),
  (("check_row_of" : Str), f_check_row_of),
  (("check_row" : Str), f_check_row),
  (("check_row_part" : Str), f_check_row_part),
  (("check_works_of" : Str), f_check_works_of),
  (("check_works" : Str), f_check_works),
  (("check_load" : Str), f_check_load),
  (("check_two_works" : Str), f_check_two_works),
  (("strain_from_nothing" : Str), f_strain_from_nothing),
  (("strained_parts" : Str), f_strained_parts),
  (("never_strains_more" : Str), f_never_strains_more),
  (("strained_part" : Str), f_strained_part),
  (("strain" : Str), f_strain),
  (("_law_well" : Str), f_law_well),
  (("_law_dip" : Str), f_law_dip),
  (("_law_one" : Str), f_law_one),
  (("_law_turns" : Str), f_law_turns),
  (("_law_low" : Str), f_law_low),
  (("_law_add" : Str), f_law_add),
  (("_law_take" : Str), f_law_take),
  (("_law_by" : Str), f_law_by),
  (("_law_part" : Str), f_law_part),
  (("_law_less" : Str), f_law_less),
  (("_law_greatest" : Str), f_law_greatest),
  (("_law_least" : Str), f_law_least),
  (("_law_words" : Str), f_law_words),
  (("_law_book" : Str), f_law_book),
  (("_law_rests" : Str), f_law_rests),
  (("_law_tables" : Str), f_law_tables),
  (("_law_row" : Str), f_law_row),
  (("_law_works" : Str), f_law_works),
  (("_law_along" : Str), f_law_along),
  (("_law_effect" : Str), f_law_effect),
  (("_law_stands" : Str), f_law_stands),
  (("_law_most_strain" : Str), f_law_most_strain),
  (("_law_right" : Str), f_law_right),
  (("law" : Str), f_law)]
def ltab : List (Nat × LD) := [(3, l_3), (4, l_4), (5, l_5), (6, l_6)]
def fns : Str → Option FD := fun f => (tab.find? fun p => decide (p.1 = f)).map (·.2)
def lams : Nat → Option LD := fun i => (ltab.find? fun p => decide (p.1 = i)).map (·.2)
def G : Prog := ⟨fns, lams, 100000⟩
theorem g_is_whole : G.fns "is_whole" = some f_is_whole := rfl
theorem g_is_number : G.fns "is_number" = some f_is_number := rfl
theorem g_is_tuple_of : G.fns "is_tuple_of" = some f_is_tuple_of := rfl
theorem g_wrong_at : G.fns "wrong_at" = some f_wrong_at := rfl
theorem g_wrong_from_one : G.fns "wrong_from_one" = some f_wrong_from_one := rfl
theorem g_is_word : G.fns "is_word" = some f_is_word := rfl
theorem g_is_name : G.fns "is_name" = some f_is_name := rfl
theorem g_is_one_of : G.fns "is_one_of" = some f_is_one_of := rfl
theorem g_is_fraction : G.fns "is_fraction" = some f_is_fraction := rfl
theorem g_lowest : G.fns "lowest" = some f_lowest := rfl
theorem g_minus : G.fns "minus" = some f_minus := rfl
theorem g_times : G.fns "times" = some f_times := rfl
theorem g_divided : G.fns "divided" = some f_divided := rfl
theorem g_is_less : G.fns "is_less" = some f_is_less := rfl
theorem g_greater_of : G.fns "greater_of" = some f_greater_of := rfl
theorem g_greatest_of : G.fns "greatest_of" = some f_greatest_of := rfl
theorem g_is_part_form : G.fns "is_part_form" = some f_is_part_form := rfl
theorem g_is_triple : G.fns "is_triple" = some f_is_triple := rfl
theorem g_is_deed_form : G.fns "is_deed_form" = some f_is_deed_form := rfl
theorem g_are_ascending_by_name : G.fns "are_ascending_by_name" = some f_are_ascending_by_name := rfl
theorem g_is_book_form : G.fns "is_book_form" = some f_is_book_form := rfl
theorem g_wrong_row : G.fns "wrong_row" = some f_wrong_row := rfl
theorem g_wrong_works : G.fns "wrong_works" = some f_wrong_works := rfl
theorem g_is_load_form : G.fns "is_load_form" = some f_is_load_form := rfl
theorem g_part_names : G.fns "part_names" = some f_part_names := rfl
theorem g_deed_names : G.fns "deed_names" = some f_deed_names := rfl
theorem g_triples_of : G.fns "triples_of" = some f_triples_of := rfl
theorem g_along_of : G.fns "along_of" = some f_along_of := rfl
theorem g_done_by : G.fns "done_by" = some f_done_by := rfl
theorem g_left_of : G.fns "left_of" = some f_left_of := rfl
theorem g_effect_of : G.fns "effect_of" = some f_effect_of := rfl
theorem g_standing_of : G.fns "standing_of" = some f_standing_of := rfl
theorem g_standings_of : G.fns "standings_of" = some f_standings_of := rfl
theorem g_strain_of : G.fns "strain_of" = some f_strain_of := rfl
theorem g_check_book : G.fns "check_book" = some f_check_book := rfl
theorem g_check_part : G.fns "check_part" = some f_check_part := rfl
theorem g_check_row_of : G.fns "check_row_of" = some f_check_row_of := rfl
theorem g_check_row : G.fns "check_row" = some f_check_row := rfl
theorem g_check_row_part : G.fns "check_row_part" = some f_check_row_part := rfl
theorem g_check_works_of : G.fns "check_works_of" = some f_check_works_of := rfl
theorem g_check_works : G.fns "check_works" = some f_check_works := rfl
theorem g_check_load : G.fns "check_load" = some f_check_load := rfl
theorem g_check_two_works : G.fns "check_two_works" = some f_check_two_works := rfl
theorem g_strain_from_nothing : G.fns "strain_from_nothing" = some f_strain_from_nothing := rfl
theorem g_strained_parts : G.fns "strained_parts" = some f_strained_parts := rfl
theorem g_never_strains_more : G.fns "never_strains_more" = some f_never_strains_more := rfl
theorem g_strained_part : G.fns "strained_part" = some f_strained_part := rfl
theorem g_strain : G.fns "strain" = some f_strain := rfl
theorem g_law_well : G.fns "_law_well" = some f_law_well := rfl
theorem g_law_dip : G.fns "_law_dip" = some f_law_dip := rfl
theorem g_law_one : G.fns "_law_one" = some f_law_one := rfl
theorem g_law_turns : G.fns "_law_turns" = some f_law_turns := rfl
theorem g_law_low : G.fns "_law_low" = some f_law_low := rfl
theorem g_law_add : G.fns "_law_add" = some f_law_add := rfl
theorem g_law_take : G.fns "_law_take" = some f_law_take := rfl
theorem g_law_by : G.fns "_law_by" = some f_law_by := rfl
theorem g_law_part : G.fns "_law_part" = some f_law_part := rfl
theorem g_law_less : G.fns "_law_less" = some f_law_less := rfl
theorem g_law_greatest : G.fns "_law_greatest" = some f_law_greatest := rfl
theorem g_law_least : G.fns "_law_least" = some f_law_least := rfl
theorem g_law_words : G.fns "_law_words" = some f_law_words := rfl
theorem g_law_book : G.fns "_law_book" = some f_law_book := rfl
theorem g_law_rests : G.fns "_law_rests" = some f_law_rests := rfl
theorem g_law_tables : G.fns "_law_tables" = some f_law_tables := rfl
theorem g_law_row : G.fns "_law_row" = some f_law_row := rfl
theorem g_law_works : G.fns "_law_works" = some f_law_works := rfl
theorem g_law_along : G.fns "_law_along" = some f_law_along := rfl
theorem g_law_effect : G.fns "_law_effect" = some f_law_effect := rfl
theorem g_law_stands : G.fns "_law_stands" = some f_law_stands := rfl
theorem g_law_most_strain : G.fns "_law_most_strain" = some f_law_most_strain := rfl
theorem g_law_right : G.fns "_law_right" = some f_law_right := rfl
theorem g_law : G.fns "law" = some f_law := rfl
-- LAMS are_ascending_by_name.0=3 is_book_form.0=4 wrong_row.0=5 wrong_works.0=6

end LawT
set_option Elab.async false
set_option maxRecDepth 100000
set_option linter.all false
namespace LawT
open PySem Ev
theorem is_whole (k : Nat) (i : Int) : call G (k + 1) (.glob "is_whole") [.dat (.int i)] = .ok (.dat (.bool true)) [.dat (.int i)] := by
  rw [← ResW_eq]
  refine run_glob g_is_whole rfl (by decide) ?_
  simp -dsimp -implicitDefEqProofs [f_is_whole]
theorem is_number (k : Nat) (i lo hi : Int) (h1 : lo ≤ i) (h2 : i ≤ hi) : call G (k + 2) (.glob "is_number") [.dat (.int i), .dat (.int lo), .dat (.int hi)] = .ok (.dat (.bool true)) [.dat (.int i), .dat (.int lo), .dat (.int hi)] := by
  rw [← ResW_eq]
  refine run_glob g_is_number rfl (by decide) ?_
  simp -dsimp -implicitDefEqProofs [f_is_number, is_whole, h2, Int.not_lt.mpr h1]
theorem is_tuple_of (k : Nat) (ds : List D) (n : Int) : call G (k + 1) (.glob "is_tuple_of") [.dat (.tuple ds), .dat (.int n)] = .ok (.dat (.bool (decide ((ds.length : Int) = n)))) [.dat (.tuple ds), .dat (.int n)] := by
  rw [← ResW_eq]
  refine run_glob g_is_tuple_of rfl (by decide) ?_
  simp -dsimp -implicitDefEqProofs [f_is_tuple_of, SeqAt.shaped, eqv_int, PyData.canLay0, PyData.depth]
theorem lowest (k : Nat) (n d : Int) (hd : 0 < d) {B : Nat} (hB : d.natAbs < 2 ^ B) (h9 : B < 9000) : call G (k + 1) (.glob "lowest") [.dat (.int n), .dat (.int d)] = .ok (.dat (fr ((n : Rat) / (d : Rat)))) [.dat (.int n), .dat (.int d)] := by
  rw [← ResW_eq]
  refine run_glob g_lowest rfl (by decide) ?_
  have h := divOk_of (gcd_pos (n := n) hd) (gcd_lt (n := n) hd hB) h9
  simp -dsimp -implicitDefEqProofs [f_lowest, h]
  unfold fr
  rw [low_num n d hd, low_den n d hd]
theorem is_less (k : Nat) (a b : Rat) {B : Nat} (ha : Fz B a) (hb : Fz B b) (h9 : B < 9000) : call G (k + 1) (.glob "is_less") [.dat (fr a), .dat (fr b)] = .ok (.dat (.bool (decide (a < b)))) [.dat (fr a), .dat (fr b)] := by
  rw [← ResW_eq]
  refine run_glob g_is_less rfl (by decide) ?_
  have h1 : mulOk a.num b.den = true := mulOk_of ha.1 hb.2 (by omega)
  have h2 : mulOk b.num a.den = true := mulOk_of hb.1 ha.2 (by omega)
  simp -dsimp -implicitDefEqProofs [f_is_less, fr, L2.atI, seqIndex?, h1, h2, lt_iff]
/-- an upper bound, None for none -/
def oi : Option Int → D
  | none => .none
  | some m => .int m
/-- the first wrong place -/
def firstBad (most : Option Int) (P : Nat → Bool) : Nat → Nat → List D
  | 0, _ => []
  | m + 1, i => if (match most with | none => false | some m => decide (m ≤ (i : Int))) || !P i then [.int i] else firstBad most P m (i + 1)
theorem firstBad_none {most : Option Int} {P : Nat → Bool} : ∀ (m i : Nat), (∀ j, i ≤ j → j < i + m → P j = true) → (∀ q, most = some q → ((i + m : Nat) : Int) ≤ q) → firstBad most P m i = []
  | 0, _, _, _ => rfl
  | m + 1, i, h, hq => by
    unfold firstBad
    rw [h i (by omega) (by omega)]
    have e : firstBad most P m (i + 1) = [] := firstBad_none m (i + 1) (fun j h1 h2 => h j (by omega) (by omega)) fun q e => by
      have := hq q e
      omega
    cases most with
    | none => simp [e]
    | some q =>
      have := hq q rfl
      have h2 : ¬ q ≤ (i : Int) := by omega
      simp [e, h2]
theorem wrong_at_loop {k W : Nat} {F : FV} {ds : List D} {most : Option Int} {P : Nat → Bool} {S : Ev.Env → Prop} {R : EV → Ev.Env → Prop}
    (hF : ∀ i d, ds[i]? = some d → (∀ j, j < i → P j = true) → call G k F [.dat d, .dat (.tuple (ds.take i))] = .ok (.dat (.bool (P i))) [.dat d, .dat (.tuple (ds.take i))]) :
    ∀ (m i : Nat) (y z : Option SV), isPar (some y) = false → isPar (some z) = false → i + m = ds.length → (∀ j, j < i → P j = true) →
      (firstBad most P m i = [] → ∀ y z, S [some (.dat (.tuple ds)), some (.dat (oi most)), some (.fn F), y, z]) →
      (∀ j, firstBad most P m i = [.int j] → ∀ y z, R (.fresh [.int j]) [some (.dat (.tuple ds)), some (.dat (oi most)), some (.fn F), y, z]) →
      FlW (forLoop (forB (call G k) W (.tup [.nm 3, .nm 4]) [.ite (.or (.and (.cmp .IsNot (.var 1) (.lit .none)) (.cmp .GtE (.var 3) (.var 1))) (.not (.callv 2 [.d (.var 4), .d (.slc (.var 0) (.lit .none) (.var 3))]))) [.ret (.lst [.var 3])] []]) (enumD i (ds.drop i)) [some (.dat (.tuple ds)), some (.dat (oi most)), some (.fn F), y, z]) S R
  | 0, i, y, z, hy, hz, hm, hp, h1, h2 => by
    rw [List.drop_eq_nil_of_le (by omega)]
    exact h1 rfl y z
  | m + 1, i, y, z, hy, hz, hm, hp, h1, h2 => by
    have hi : i < ds.length := by omega
    rw [List.drop_eq_getElem_cons hi]
    have e0 := hF i ds[i] (List.getElem?_eq_getElem hi) hp
    have ec : cut ds none (some (i : Int)) = ds.take i := by
      unfold cut
      rw [HT.sIx_none, HT.sIx_nat, List.drop_zero, Nat.min_eq_left (by omega), Nat.sub_zero]
    have ih := wrong_at_loop (S := S) (R := R) (most := most) (W := W) hF m (i + 1)
    have e2 : isPar (some (some (SV.dat (PyData.int i)))) = false := rfl
    have e3 : isPar (some (some (SV.dat ds[i]))) = false := rfl
    unfold enumD
    apply FlW_for_cons
    unfold firstBad at h1 h2
    cases most with
    | none =>
      simp -dsimp -implicitDefEqProofs [oi, hy, hz, ec, e0]
      refine ⟨fun hp1 => ?_, fun hp1 => ?_⟩
      · refine ih _ _ rfl rfl (by omega) (fun j hj => ?_) (fun e => h1 (by simp [hp1, e])) (fun j e => h2 j (by simp [hp1, e]))
        by_cases h : j = i
        · rw [h, hp1]
        · exact hp j (by omega)
      · exact h2 i (by simp [hp1]) _ _
    | some q =>
      simp -dsimp -implicitDefEqProofs [oi, hy, hz, ec, e0]
      refine ⟨fun hq => h2 i (by simp [hq]) _ _, fun hq => ⟨fun hp1 => ?_, fun hp1 => ?_⟩⟩
      · have hq2 : ¬ q ≤ (i : Int) := by omega
        refine ih _ _ rfl rfl (by omega) (fun j hj => ?_) (fun e => h1 (by simp [hp1, hq2, e])) (fun j e => h2 j (by simp [hp1, hq2, e]))
        by_cases h : j = i
        · rw [h, hp1]
        · exact hp j (by omega)
      · exact h2 i (by simp [hp1]) _ _
theorem wrong_at (k : Nat) (F : FV) (ds : List D) (most : Option Int) (P : Nat → Bool)
    (hF : ∀ i d, ds[i]? = some d → (∀ j, j < i → P j = true) → call G k F [.dat d, .dat (.tuple (ds.take i))] = .ok (.dat (.bool (P i))) [.dat d, .dat (.tuple (ds.take i))]) :
    call G (k + 1) (.glob "wrong_at") [.dat (.tuple ds), .dat (oi most), .fn F] = .ok (.fresh (firstBad most P ds.length 0)) [.dat (.tuple ds), .dat (oi most), .fn F] := by
  rw [← ResW_eq]
  refine run_glob g_wrong_at rfl (by decide) ?_
  simp -dsimp -implicitDefEqProofs [f_wrong_at]
  refine wrong_at_loop (P := P) hF ds.length 0 none none rfl rfl (by omega) (fun j hj => by omega) (fun e y z => ?_) fun j e y z => ?_
  · simp -dsimp -implicitDefEqProofs [e]
  · simp -dsimp -implicitDefEqProofs [e]
theorem wrong_at' (k : Nat) (F : FV) (d : D) (m : D) (hd : isiD d "tuple" = some false) : call G (k + 1) (.glob "wrong_at") [.dat d, .dat m, .fn F] = .ok (.fresh [.none]) [.dat d, .dat m, .fn F] := by
  rw [← ResW_eq]
  refine run_glob g_wrong_at rfl (by decide) ?_
  have e : (isiD d "tuple") = some false := hd
  cases d <;> simp -dsimp -implicitDefEqProofs [f_wrong_at] <;> simp [isiD] at hd
theorem wrong_from_one (k : Nat) (F : FV) (d : D) (ds : List D) (most : Option Int) (P : Nat → Bool) (hs : SeqAt.shaped (.tuple (d :: ds)) = true)
    (hF : ∀ i e, (d :: ds)[i]? = some e → (∀ j, j < i → P j = true) → call G k F [.dat e, .dat (.tuple ((d :: ds).take i))] = .ok (.dat (.bool (P i))) [.dat e, .dat (.tuple ((d :: ds).take i))]) :
    call G (k + 2) (.glob "wrong_from_one") [.dat (.tuple (d :: ds)), .dat (oi most), .fn F] = .ok (.dat (.list (firstBad most P (ds.length + 1) 0))) [.dat (.tuple (d :: ds)), .dat (oi most), .fn F] := by
  rw [← ResW_eq]
  refine run_glob g_wrong_from_one rfl (by decide) ?_
  have e := wrong_at k F (d :: ds) most P hF
  have e2 : PyData.eqv (.tuple (d :: ds)) (.tuple []) = false := by simp [PyData.eqv, PyData.eqvAll]
  have e3 : SeqAt.shaped (.tuple []) = true := rfl
  simp -dsimp -implicitDefEqProofs [f_wrong_from_one, e, e2, e3, hs]
theorem is_letter {c : Nat} (h : 97 ≤ c ∧ c ≤ 122) : (Builtin.Str.occurrences ("abcdefghijklmnopqrstuvwxyz" : Str) ⟨#[c]⟩ 0 ("abcdefghijklmnopqrstuvwxyz" : Str).length 1).isEmpty = false := by
  have key : ∀ i : Fin 26, (Builtin.Str.occurrences ("abcdefghijklmnopqrstuvwxyz" : Str) ⟨#[97 + i.val]⟩ 0 ("abcdefghijklmnopqrstuvwxyz" : Str).length 1).isEmpty = false := by decide +kernel
  have := key ⟨c - 97, by omega⟩
  rw [show 97 + (c - 97) = c by omega] at this
  exact this
theorem shaped_str {n : Str} (h : ∀ c ∈ n.cps.toList, c < 1114112) : SeqAt.shaped (.str n) = true := by
  have e : n.cps.all (· < 0x110000) = true := by
    rw [← Array.all_toList, List.all_eq_true]
    intro c hc
    exact decide_eq_true (h c hc)
  simp only [SeqAt.shaped, PyData.canLay0, PyData.depth, PyData.strOk, e]
  rfl
theorem shaped_name {n : Str} (h : NameOk n) : SeqAt.shaped (.str n) = true := shaped_str fun c hc => by
  have := h.let_ c hc
  omega
theorem eqv_str (x y : Str) : PyData.eqv (.str x) (.str y) = decide (x = y) := by
  simp only [PyData.eqv]
  by_cases h : x = y <;> simp [h]
theorem name_ne {n : Str} (h : NameOk n) : n ≠ ("" : Str) := fun e => h.ne (by rw [e]; rfl)
theorem shaped_e : SeqAt.shaped (.str ("" : Str)) = true := by decide +kernel
theorem bools_map {α : Type} (l : List α) (f : α → Bool) : bools? (l.map fun x => PyData.bool (f x)) = some (l.map f) := by
  induction l with
  | nil => rfl
  | cons x r ih => simp [bools?, ih]
theorem small_line {n : Nat} (h : n ≤ 1000) : n ≤ sizeLine := Nat.le_trans h (by decide)
theorem is_word (k : Nat) (n : Str) (h : NameOk n) : call G (k + 1) (.glob "is_word") [.dat (.str n)] = .ok (.dat (.bool true)) [.dat (.str n)] := by
  rw [← ResW_eq]
  refine run_glob g_is_word rfl (by decide) ?_
  have hl : n.length ≤ sizeLine := small_line (by have := h.le8; omega)
  have hc : (n.cps.toList).length ≤ sizeLine := by simpa [Str.length] using hl
  simp -dsimp -implicitDefEqProofs [f_is_word, shaped_name h, eqv_str, name_ne h, shaped_e]
  refine OutW_map (g := fun _ => .bool true) (fun d hd => ?_) ?_
  · obtain ⟨c, hc, rfl⟩ := List.mem_map.mp hd
    simp -dsimp -implicitDefEqProofs [is_letter (h.let_ c hc)]
  · have e : (chars n).map (fun _ => PyData.bool true) = n.cps.toList.map (fun _ => PyData.bool true) := by simp [chars]
    rw [e]
    simp -dsimp -implicitDefEqProofs [bools_map n.cps.toList (fun _ => true)]
    simpa using hc
theorem is_name (k : Nat) (n : Str) (h : NameOk n) : call G (k + 2) (.glob "is_name") [.dat (.str n)] = .ok (.dat (.bool true)) [.dat (.str n)] := by
  rw [← ResW_eq]
  refine run_glob g_is_name rfl (by decide) ?_
  have hl : n.length ≤ sizeLine := small_line (by have := h.le8; omega)
  have h8 : (n.length : Int) ≤ 8 := by have := h.le8; omega
  have hw : (words.map PyData.str).any (fun y => PyData.eqv y (.str n)) = false := by
    rw [List.any_map, List.any_eq_false]
    intro w hw
    show ¬ PyData.eqv (.str w) (.str n) = true
    rw [eqv_str, decide_eq_true_eq]
    exact fun e => h.nw (e ▸ hw)
  have hs : SeqAt.shaped (.tuple (words.map PyData.str)) = true := by decide +kernel
  have e := is_word (k := k) n h
  have ek : k_WORDS = .tuple (words.map PyData.str) := rfl
  generalize words.map PyData.str = ws at hw hs ek
  simp -dsimp -implicitDefEqProofs [f_is_name, e, hl, h8, hw, hs, shaped_name h, ek]
theorem is_one_of (k : Nat) (n : Str) (ns : List Str) (h : n ∈ ns) (h1 : SeqAt.shaped (.str n) = true) (h2 : SeqAt.shaped (.list (ns.map PyData.str)) = true) : call G (k + 1) (.glob "is_one_of") [.dat (.str n), .dat (.list (ns.map PyData.str))] = .ok (.dat (.bool true)) [.dat (.str n), .dat (.list (ns.map PyData.str))] := by
  rw [← ResW_eq]
  refine run_glob g_is_one_of rfl (by decide) ?_
  simp -dsimp -implicitDefEqProofs [f_is_one_of, h1, h2, eqv_str, h]
theorem is_fraction (k : Nat) (r : Rat) : call G (k + 2) (.glob "is_fraction") [.dat (fr r)] = .ok (.dat (.bool true)) [.dat (fr r)] := by
  rw [← ResW_eq]
  refine run_glob g_is_fraction rfl (by decide) ?_
  have h1 := is_tuple_of k [.int r.num, .int r.den] 2
  have h2 := is_whole k r.num
  have h3 := is_whole k (r.den : Int)
  have h4 : ¬ ((r.den : Int) < 1) := by have := den_pos r; omega
  have h5 : Int.gcd r.num r.den = 1 := r.reduced
  simp -dsimp -implicitDefEqProofs [f_is_fraction, fr, h1, h2, h3, h4, h5, eqv_int, show ∀ i : Int, SeqAt.shaped (.int i) = true from fun _ => rfl]
theorem greater_of (k : Nat) (a b : Rat) {B : Nat} (ha : Fz B a) (hb : Fz B b) (h9 : B < 9000) : call G (k + 2) (.glob "greater_of") [.dat (fr a), .dat (fr b)] = .ok (.dat (fr (maxR a b))) [.dat (fr a), .dat (fr b)] := by
  rw [← ResW_eq]
  refine run_glob g_greater_of rfl (by decide) ?_
  have e := is_less k a b ha hb h9
  simp -dsimp -implicitDefEqProofs [f_greater_of, e]
  unfold maxR
  by_cases h : a < b <;> simp [h, Rat.not_lt.mp]
theorem canLay_name {n : Str} (h : NameOk n) : PyData.canLay0 (.str n) = true := by
  have := shaped_name h
  simp only [SeqAt.shaped, Bool.and_eq_true] at this
  exact this.1
theorem canLay_all {l : List D} (h : ∀ d ∈ l, PyData.canLay0 d = true) : PyData.canLayAll0 l = true := by
  induction l with
  | nil => rfl
  | cons x r ih =>
    simp only [PyData.canLayAll0, h x (.head _), ih fun d hd => h d (.tail _ hd), Bool.and_self]
theorem depth_all {l : List D} {n : Nat} (h : ∀ d ∈ l, PyData.depth d ≤ n) : PyData.depthAll l ≤ n := by
  induction l with
  | nil => exact Nat.zero_le _
  | cons x r ih =>
    simp only [PyData.depthAll]
    exact Nat.max_le.mpr ⟨h x (.head _), ih fun d hd => h d (.tail _ hd)⟩
/-- what is shaped, with how deep it goes -/
def Sh (n : Nat) (d : D) : Prop := PyData.canLay0 d = true ∧ PyData.depth d ≤ n
theorem Sh.sh {n : Nat} {d : D} (h : Sh n d) (hn : n ≤ 64) : SeqAt.shaped d = true := by
  simp only [SeqAt.shaped, h.1, decide_eq_true (show d.depth ≤ 64 from Nat.le_trans h.2 hn), Bool.and_self]
theorem Sh.tup {n : Nat} {l : List D} (h : ∀ d ∈ l, Sh n d) : Sh (n + 1) (.tuple l) :=
  ⟨canLay_all fun d hd => (h d hd).1, Nat.succ_le_succ (depth_all fun d hd => (h d hd).2)⟩
theorem Sh.lst {n : Nat} {l : List D} (h : ∀ d ∈ l, Sh n d) : Sh (n + 1) (.list l) :=
  ⟨canLay_all fun d hd => (h d hd).1, Nat.succ_le_succ (depth_all fun d hd => (h d hd).2)⟩
theorem Sh.int {n : Nat} {i : Int} : Sh n (.int i) := ⟨rfl, Nat.zero_le _⟩
theorem Sh.name {n : Nat} {x : Str} (h : NameOk x) : Sh n (.str x) := ⟨canLay_name h, Nat.zero_le _⟩
theorem Sh.none {n : Nat} : Sh n .none := ⟨rfl, Nat.zero_le _⟩
theorem Sh.fr {n : Nat} {r : Rat} : Sh (n + 1) (fr r) := ⟨rfl, by simp [LawT.fr, PyData.depth, PyData.depthAll]⟩
theorem Sh.mono {n m : Nat} {d : D} (h : Sh n d) (hm : n ≤ m) : Sh m d := ⟨h.1, Nat.le_trans h.2 hm⟩
theorem Sh.pair {n : Nat} {a b : D} (h1 : Sh n a) (h2 : Sh n b) : Sh (n + 1) (.tuple [a, b]) := Sh.tup fun d hd => by
  simp only [List.mem_cons, List.not_mem_nil, or_false] at hd
  rcases hd with rfl | rfl
  · exact h1
  · exact h2
theorem Sh.encT {n : Nat} {t : Tr} : Sh (n + 1) (encT t) := ⟨rfl, by simp [LawT.encT, PyData.depth, PyData.depthAll]⟩
theorem Sh.encP {n : Nat} {p : Str × Int} (h : NameOk p.1) : Sh (n + 1) (encP p) := Sh.pair (Sh.name h) Sh.int
theorem Sh.encD {n : Nat} {d : Str × List Tr} (h : NameOk d.1) : Sh (n + 3) (encD d) := Sh.pair (Sh.name h) (Sh.tup fun x hx => by
  obtain ⟨t, _, rfl⟩ := List.mem_map.mp hx
  exact Sh.encT)
theorem Sh.encB {b : Bk} (h : b.Ok) : Sh 5 (encB b) := Sh.pair (Sh.mono (n := 2) (Sh.tup fun x hx => by
  obtain ⟨p, hp, rfl⟩ := List.mem_map.mp hx
  exact Sh.encP (h.pn p hp)) (by omega)) (Sh.tup fun x hx => by
  obtain ⟨p, hp, rfl⟩ := List.mem_map.mp hx
  exact Sh.encD (h.dn p hp))
theorem is_part_form (k : Nat) (p : Str × Int) (h : NameOk p.1) (hl : 1 ≤ p.2 ∧ p.2 ≤ 9999) : call G (k + 3) (.glob "is_part_form") [.dat (encP p)] = .ok (.dat (.bool true)) [.dat (encP p)] := by
  rw [← ResW_eq]
  refine run_glob g_is_part_form rfl (by decide) ?_
  have e1 := is_tuple_of (k + 1) [.str p.1, .int p.2] 2
  have e2 := is_name k p.1 h
  have e3 := is_number k p.2 1 9999 hl.1 hl.2
  simp -dsimp -implicitDefEqProofs [f_is_part_form, encP, e1, e2, e3]
theorem is_triple (k : Nat) (t : Tr) (h : t.Ok) : call G (k + 3) (.glob "is_triple") [.dat (encT t)] = .ok (.dat (.bool true)) [.dat (encT t)] := by
  rw [← ResW_eq]
  refine run_glob g_is_triple rfl (by decide) ?_
  have e1 := is_tuple_of (k + 1) [.int t.k, .int t.s, .int t.a] 3
  have e2 := is_number k t.k 1 (t.s - 1) h.k1 h.ks
  have e3 := is_number k t.s 2 12 h.s2 h.s12
  have e4 := is_number k t.a 0 999 h.a0 h.a9
  simp -dsimp -implicitDefEqProofs [f_is_triple, encT, e1, e2, e3, e4]
theorem is_deed_form (k : Nat) (d : Str × List Tr) (h : NameOk d.1) (n : Int) (hl : (d.2.length : Int) = n) (h9 : d.2.length ≤ 1000) (ht : ∀ t ∈ d.2, t.Ok) : call G (k + 4) (.glob "is_deed_form") [.dat (encD d), .dat (.int n)] = .ok (.dat (.bool true)) [.dat (encD d), .dat (.int n)] := by
  rw [← ResW_eq]
  refine run_glob g_is_deed_form rfl (by decide) ?_
  have e1 := is_tuple_of (k + 2) [.str d.1, .tuple (d.2.map encT)] 2
  have e2 := is_name (k + 1) d.1 h
  have e3 := is_tuple_of (k + 2) (d.2.map encT) n
  rw [List.length_map] at e3
  simp -dsimp -implicitDefEqProofs [f_is_deed_form, encD, e1, e2, e3, hl]
  refine OutW_map (g := fun _ => .bool true) (fun d hd => ?_) ?_
  · obtain ⟨t, ht', rfl⟩ := List.mem_map.mp hd
    have e4 := is_triple k t (ht t ht')
    simp -dsimp -implicitDefEqProofs [e4]
  · have hc := small_line h9
    simp -dsimp -implicitDefEqProofs [hc, bools_map d.2 (fun _ => true), Function.comp_def]
/-- the two books' things that ascend -/
theorem asc_loop (k : Nat) (nm : List Str) (ds : List D) (F : FV) (hn : ds.length = nm.length) (hd : ∀ (i : Nat) (n : Str), nm[i]? = some n → ∃ x, ds[i]? = some (.tuple [.str n, x]))
    (hF : ∀ d ∈ ds, call G (k + 1) F [.dat d] = .ok (.dat (.bool true)) [.dat d]) (ha : asc nm) (hs : ∀ i, SeqAt.shaped (.tuple (ds.take i)) = true) (i : Nat) (d : D) (hi : ds[i]? = some d) :
    call G (k + 2) (.clo 3 [.fn F]) [.dat d, .dat (.tuple (ds.take i))] = .ok (.dat (.bool true)) [.dat d, .dat (.tuple (ds.take i))] := by
  have hlt : i < ds.length := by
    rcases Nat.lt_or_ge i ds.length with h | h
    · exact h
    · rw [List.getElem?_eq_none h] at hi
      cases hi
  have e1 := hF d (List.mem_of_getElem? hi)
  obtain ⟨x, hx⟩ := hd i nm[i] (List.getElem?_eq_getElem (by omega))
  rw [hi] at hx
  cases hx
  rw [← ResW_eq]
  refine run_clo rfl rfl rfl (by decide) rfl ?_
  have e3 : SeqAt.shaped (.tuple ([] : List D)) = true := rfl
  simp -dsimp -implicitDefEqProofs [l_3, e1, hs i, e3]
  intro h0
  have hi0 : i ≠ 0 := by
    intro h
    subst h
    simp [PyData.eqv, PyData.eqvAll] at h0
  obtain ⟨j, rfl⟩ := Nat.exists_eq_succ_of_ne_zero hi0
  obtain ⟨y, hy⟩ := hd j nm[j] (List.getElem?_eq_getElem (by omega))
  have el : (ds.take (j + 1)).getLast? = some (.tuple [.str nm[j], y]) := by
    rw [List.getLast?_take]
    simp [hy]
  have ea : nm[j].cps.toList < nm[j + 1].cps.toList := List.pairwise_iff_getElem.mp ha j (j + 1) (by omega) (by omega) (by omega)
  simp only [atI_last, el]
  simp -dsimp -implicitDefEqProofs [ea]
theorem are_ascending_by_name (k : Nat) (nm : List Str) (ds : List D) (m : Int) (F : FV) (hn : ds.length = nm.length) (h1 : 1 ≤ ds.length) (hm : (ds.length : Int) ≤ m) (hd : ∀ (i : Nat) (n : Str), nm[i]? = some n → ∃ x, ds[i]? = some (.tuple [.str n, x]))
    (hF : ∀ d ∈ ds, call G (k + 1) F [.dat d] = .ok (.dat (.bool true)) [.dat d]) (ha : asc nm) (hs : ∀ i, SeqAt.shaped (.tuple (ds.take i)) = true) :
    call G (k + 5) (.glob "are_ascending_by_name") [.dat (.tuple ds), .dat (.int m), .fn F] = .ok (.dat (.bool true)) [.dat (.tuple ds), .dat (.int m), .fn F] := by
  rw [← ResW_eq]
  refine run_glob g_are_ascending_by_name rfl (by decide) ?_
  obtain ⟨d, r, rfl⟩ : ∃ d r, ds = d :: r := by
    cases ds with
    | nil => simp at h1
    | cons d r => exact ⟨d, r, rfl⟩
  have hs0 : SeqAt.shaped (.tuple (d :: r)) = true := by
    have := hs (d :: r).length
    rwa [List.take_length] at this
  have e := wrong_from_one (k + 2) (.clo 3 [.fn F]) d r (some m) (fun _ => true) hs0 (fun i e hi _ => asc_loop k nm (d :: r) F hn hd hF ha hs i e hi)
  have e2 : firstBad (some m) (fun _ => true) (r.length + 1) 0 = [] := firstBad_none _ _ (fun _ _ _ => rfl) (fun q hq => by
    cases hq
    simp only [List.length_cons] at hm
    omega)
  rw [e2] at e
  simp only [oi] at e
  simp -dsimp -implicitDefEqProofs [f_are_ascending_by_name, e, PyData.eqv, PyData.eqvAll, show SeqAt.shaped (.list ([] : List D)) = true from rfl]
theorem take_sh {n : Nat} {ds : List D} (h : ∀ d ∈ ds, Sh n d) (hn : n + 1 ≤ 64) (i : Nat) : SeqAt.shaped (.tuple (ds.take i)) = true :=
  (Sh.tup fun d hd => h d (List.mem_of_mem_take hd)).sh hn
theorem clo_deed (k : Nat) (n : Int) (d : Str × List Tr) (h : NameOk d.1) (hl : (d.2.length : Int) = n) (h9 : d.2.length ≤ 1000) (ht : ∀ t ∈ d.2, t.Ok) : call G (k + 5) (.clo 4 [.dat (.int n)]) [.dat (encD d)] = .ok (.dat (.bool true)) [.dat (encD d)] := by
  rw [← ResW_eq]
  refine run_clo rfl rfl rfl (by decide) rfl ?_
  have e := is_deed_form k d h n hl h9 ht
  simp -dsimp -implicitDefEqProofs [l_4, e]
theorem is_book_form (k : Nat) (b : Bk) (h : b.Ok) : call G (k + 10) (.glob "is_book_form") [.dat (encB b)] = .ok (.dat (.bool true)) [.dat (encB b)] := by
  rw [← ResW_eq]
  refine run_glob g_is_book_form rfl (by decide) ?_
  have e1 := is_tuple_of (k + 8) [.tuple (b.parts.map encP), .tuple (b.deeds.map encD)] 2
  have e2 := are_ascending_by_name (k + 4) (b.parts.map (·.1)) (b.parts.map encP) 3 (.glob "is_part_form") (by simp) (by have := h.p1; simpa using this) (by have := h.p3; simp; omega)
    (fun i n hi => by
      rw [List.getElem?_map] at hi ⊢
      cases hp : b.parts[i]? with
      | none => rw [hp] at hi; cases hi
      | some p => rw [hp] at hi; cases hi; exact ⟨_, rfl⟩)
    (fun d hd => by
      obtain ⟨p, hp, rfl⟩ := List.mem_map.mp hd
      exact is_part_form (k + 2) p (h.pn p hp) (h.pl p hp)) h.pa
    (take_sh (n := 2) (fun d hd => by
      obtain ⟨p, hp, rfl⟩ := List.mem_map.mp hd
      exact Sh.encP (h.pn p hp)) (by omega))
  have e3 := are_ascending_by_name (k + 4) (b.deeds.map (·.1)) (b.deeds.map encD) 6 (.clo 4 [.dat (.int b.parts.length)]) (by simp) (by have := h.d1; simpa using this) (by have := h.d6; simp; omega)
    (fun i n hi => by
      rw [List.getElem?_map] at hi ⊢
      cases hp : b.deeds[i]? with
      | none => rw [hp] at hi; cases hi
      | some p => rw [hp] at hi; cases hi; exact ⟨_, rfl⟩)
    (fun d hd => by
      obtain ⟨p, hp, rfl⟩ := List.mem_map.mp hd
      exact clo_deed k _ p (h.dn p hp) (by rw [h.dl p hp]) (by rw [h.dl p hp]; have := h.p3; omega) (h.dt p hp)) h.da
    (take_sh (n := 3) (fun d hd => by
      obtain ⟨p, hp, rfl⟩ := List.mem_map.mp hd
      exact Sh.encD (h.dn p hp)) (by omega))
  simp -dsimp -implicitDefEqProofs [f_is_book_form, encB, e1, e2, e3]
theorem part_names (k : Nat) (b : Bk) (h : b.Ok) : call G (k + 1) (.glob "part_names") [.dat (encB b)] = .ok (.fresh (b.parts.map fun p => .str p.1)) [.dat (encB b)] := by
  rw [← ResW_eq]
  refine run_glob g_part_names rfl (by decide) ?_
  simp -dsimp -implicitDefEqProofs [f_part_names, encB]
  refine OutW_map (g := fun d => match d with | .tuple [x, _] => x | _ => .none) (fun d hd => ?_) ?_
  · obtain ⟨p, hp, rfl⟩ := List.mem_map.mp hd
    simp -dsimp -implicitDefEqProofs [encP]
  · have hc : b.parts.length ≤ sizeLine := small_line (by have := h.p3; omega)
    simp -dsimp -implicitDefEqProofs [encP, hc, Function.comp_def]
theorem deed_names (k : Nat) (b : Bk) (h : b.Ok) : call G (k + 1) (.glob "deed_names") [.dat (encB b)] = .ok (.fresh (b.deeds.map fun p => .str p.1)) [.dat (encB b)] := by
  rw [← ResW_eq]
  refine run_glob g_deed_names rfl (by decide) ?_
  simp -dsimp -implicitDefEqProofs [f_deed_names, encB]
  refine OutW_map (g := fun d => match d with | .tuple [x, _] => x | _ => .none) (fun d hd => ?_) ?_
  · obtain ⟨p, hp, rfl⟩ := List.mem_map.mp hd
    simp -dsimp -implicitDefEqProofs [encD]
  · have hc : b.deeds.length ≤ sizeLine := small_line (by have := h.d6; omega)
    simp -dsimp -implicitDefEqProofs [encD, hc, Function.comp_def]
theorem names_sh {l : List Str} (h : ∀ n ∈ l, NameOk n) : SeqAt.shaped (.list (l.map PyData.str)) = true :=
  (Sh.lst (n := 0) fun d hd => by
    obtain ⟨p, hp, rfl⟩ := List.mem_map.mp hd
    exact Sh.name (h p hp)).sh (by omega)
theorem wrong_row (k : Nat) (ns : List Str) (row : List Str) (m : Int) (hn : ∀ n ∈ ns, NameOk n) (hr : ∀ n ∈ row, n ∈ ns) (h1 : 1 ≤ row.length) (hm : (row.length : Int) ≤ m) :
    call G (k + 5) (.glob "wrong_row") [.dat (.list (ns.map PyData.str)), .dat (.tuple (row.map PyData.str)), .dat (.int m)] = .ok (.dat (.list [])) [.dat (.list (ns.map PyData.str)), .dat (.tuple (row.map PyData.str)), .dat (.int m)] := by
  rw [← ResW_eq]
  refine run_glob g_wrong_row rfl (by decide) ?_
  obtain ⟨d, r, rfl⟩ : ∃ d r, row = d :: r := by
    cases row with
    | nil => simp at h1
    | cons d r => exact ⟨d, r, rfl⟩
  have e := wrong_from_one (k + 2) (.clo 5 [.dat (.list (ns.map PyData.str))]) (.str d) (r.map PyData.str) (some m) (fun _ => true) ((Sh.tup (n := 0) fun x hx => by
      obtain ⟨p, hp, rfl⟩ := List.mem_map.mp (show x ∈ (d :: r).map PyData.str from hx)
      exact Sh.name (hn _ (hr _ hp))).sh (by omega)) (fun i e hi _ => by
    obtain ⟨n, hnr, rfl⟩ := List.mem_map.mp (List.mem_of_getElem? (show ((d :: r).map PyData.str)[i]? = some e from hi))
    rw [← ResW_eq]
    refine run_clo rfl rfl rfl (by decide) rfl ?_
    have e := is_one_of k n ns (hr n hnr) (shaped_name (hn _ (hr _ hnr))) (names_sh hn)
    simp -dsimp -implicitDefEqProofs [l_5, e])
  have e2 : firstBad (some m) (fun _ => true) ((r.map PyData.str).length + 1) 0 = [] := firstBad_none _ _ (fun _ _ _ => rfl) (fun q hq => by
    cases hq
    simp only [List.length_cons, List.length_map] at hm ⊢
    omega)
  rw [e2] at e
  simp only [oi] at e
  simp -dsimp -implicitDefEqProofs [f_wrong_row, e]
theorem is_load_form (k : Nat) (r : Rat) (h : 0 ≤ r) : call G (k + 3) (.glob "is_load_form") [.dat (fr r)] = .ok (.dat (.bool true)) [.dat (fr r)] := by
  rw [← ResW_eq]
  refine run_glob g_is_load_form rfl (by decide) ?_
  have e := is_fraction k r
  have h2 : 0 ≤ r.num := Rat.num_nonneg.mpr h
  simp -dsimp -implicitDefEqProofs [f_is_load_form, e, h2]
theorem done_by (k : Nat) (t : Tr) (x : Rat) (h : t.Ok) {B : Nat} (hx : Fz B x) (hB : B ≤ 8000) : call G (k + 2) (.glob "done_by") [.dat (encT t), .dat (fr x)] = .ok (.dat (fr (t.ap x))) [.dat (encT t), .dat (fr x)] := by
  rw [← ResW_eq]
  refine run_glob g_done_by rfl (by decide) ?_
  obtain ⟨h1, h2, h3, h4, h5, h6⟩ := fz_ap h hx
  have m1 : mulOk t.k x.num = true := mulOk_of (A := 4) (B := B) (by have := h.k1; have := h.ks; have := h.s12; omega) hx.1 (by omega)
  have m2 : mulOk t.a t.s = true := mulOk_of (A := 10) (B := 4) (by have := h.a0; have := h.a9; omega) (by have := h.s2; have := h.s12; omega) (by omega)
  have m3 : mulOk (t.a * t.s) x.den = true := mulOk_of h2 hx.2 (by omega)
  have m4 : mulOk t.s x.den = true := mulOk_of (A := 4) (by have := h.s2; have := h.s12; omega) hx.2 (by omega)
  have e := lowest k (t.k * x.num + t.a * t.s * x.den) (t.s * x.den) h6 h4 (by omega)
  rw [ap_eq h] at e
  simp -dsimp -implicitDefEqProofs [f_done_by, encT]
  simp -dsimp -implicitDefEqProofs [fr, m1, m2, m3, m4]
  simp [e, ↓s_asg_x, ↓s_asgO_x, ↓s_parl, ↓s_setx_x, ↓s_expr_x, ↓s_ret_x, ↓s_ite, ↓s_for_x, ↓s_while_x, ↓s_defn_x, ↓s_pass_x, ↓s_forget_x, ↓s_nil, ↓s_cons, ↓w_lit, ↓w_gc, ↓w_var, ↓w_mov, ↓w_bin, ↓w_cmp, ↓w_cmp2, ↓w_neg, ↓w_not, ↓w_and_x, ↓w_or_x, ↓w_ite, ↓w_tup, ↓w_lst, ↓w_ix, ↓w_ixv, ↓w_slc, ↓w_rev, ↓w_slv, ↓w_lenv, ↓w_isi, ↓w_blt, ↓w_mth, ↓w_mut, ↓w_call, ↓w_callv, ↓w_call1, ↓w_lc, ↓w_dc, ↓w_Lnil, ↓w_Lcons, ↓w_Cnil, ↓w_Ccons, ↓w_Anil, ↓w_Ad, ↓w_Amv, ↓w_Afg, ↓w_Afv, ↓w_Alam, ↓w_Amade, ↓w_Iseq, ↓w_Irng, ↓w_Irng2, ↓w_Ienum, ↓w_Izip, ↓w_EsNil, ↓w_EsCons, ↓w_callP, ↓w_forB, ↓w_lcB, ↓w_dcB, ↓w_whC, ↓OptW_some, ↓OptW_if, ↓OptW_map, ↓BoolW_true, ↓BoolW_false, ↓BoolW_bool, ↓IntW_int, ↓SlotW_dat, ↓SlotW_own, ↓FreshW_fresh, ↓OutW_ok, ↓FlW_nx, ↓FlW_rt, ↓ResW_ok, ↓OutW_bind, ↓OutW_frz, EV.frz, permute, slotsOf, PArgs.now, PArg.now, PArgs.back, outA, argSV, T_nm, T_tup, T_at, T_nil, T_cons, setE, setEs, isPar, mutOf, mutPut, readL, capOf, b_add, b_adds, b_addt, b_addl, b_sub, b_mul, b_div, b_mod, b_pow, c_eq, c_ne, c_lt, c_le, c_gt, c_ge, c_lts, c_is, c_isnot, c_ins, c_nins, c_inl, c_int, c_ninl, c_nint, i_int, i_bool, i_str_x, i_tuple, i_list_x, x_list, x_tuple, x_str, x_dicts, x_dicti, t_len_l, t_len_t, t_len_s, t_abs, t_int, t_intb, t_max, t_min, t_sum, t_all, t_any, t_list_l, t_list_t, t_list_s, t_tuple_l, t_tuple_t, t_divmod, t_gcd, t_repr, t_dict_l, t_dict_t, t_sorted, m_index_x, m_join_x, u_append_x, u_pop_x, u_pop0, u_extend_x, o_none_x, o_int, l_l, l_t, l_s, r_l, r_t, q_l, q_t, q_s, k_l, k_t, ok_none, ok_int, sh_int, sh_none, sh_bool, sh_nil, sh_unit, shaped_fr, eqv_int, eqv_fr, x_B0, x_B1, x_P0, x_P1, x_D0, x_D1, x_T0, x_T1, x_T2, x_f0, x_f1, x_R, q_R, k_R, t_R, b_R, r_R, T_B, T_P, T_D, T_T, T_f, le_sz, lt_sz, wipeE, restE, List.getD_cons_zero, List.getD_cons_succ, List.map_cons, List.map_nil, List.cons_append, List.nil_append, List.replicate, List.getElem?_cons_zero, List.getElem?_cons_succ, List.set_cons_zero, List.set_cons_succ, List.length_cons, List.length_nil, atI_0, atI_1, atI_2, ixN_0, ixN_1, ixN_2, fr]
theorem putX_new {α : Type} {kvs : List (L2.Key × α)} {k : L2.Key} {v : α} (h : ∀ p ∈ kvs, p.1 ≠ k) : putX kvs k v = kvs ++ [(k, v)] := by
  unfold putX
  rw [if_neg]
  intro hc
  rw [List.any_eq_true] at hc
  obtain ⟨p, hp, he⟩ := hc
  exact h p hp (of_decide_eq_true he)
theorem mergeX_nodup {α : Type} : ∀ (more kvs : List (L2.Key × α)), ((kvs ++ more).map (·.1)).Nodup → mergeX kvs more = kvs ++ more
  | [], kvs, _ => by simp [mergeX]
  | (k, v) :: r, kvs, h => by
    have e : putX kvs k v = kvs ++ [(k, v)] := putX_new fun p hp e => by
      rw [List.map_append, List.nodup_append] at h
      exact h.2.2 p.1 (List.mem_map_of_mem hp) k (by simp) e
    show mergeX (putX kvs k v) r = _
    rw [e, mergeX_nodup r (kvs ++ [(k, v)]) (by simpa using h)]
    simp
theorem pairsK_str {α : Type} (l : List α) (f : α → Str) (g : α → D) : pairsK? (l.map fun x => PyData.tuple [.str (f x), g x]) = some (l.map fun x => ((.inr (f x) : L2.Key), g x)) := by
  induction l with
  | nil => rfl
  | cons x r ih => simp [pairsK?, ih, keyOf]
theorem asc_nodup {l : List Str} (h : asc l) : l.Nodup := h.imp fun {x y} hlt e => by
  subst e
  exact List.lt_irrefl _ hlt
theorem lookup_nodup {α : Type} {l : List (Str × α)} (h : (l.map (·.1)).Nodup) {p : Str × α} (hp : p ∈ l) : l.find? (fun d => decide (d.1 = p.1)) = some p := by
  induction l with
  | nil => cases hp
  | cons q r ih =>
    simp only [List.map_cons, List.nodup_cons] at h
    by_cases e : q.1 = p.1
    · rcases List.mem_cons.mp hp with rfl | hr
      · simp
      · exact absurd (e ▸ List.mem_map_of_mem hr) h.1
    · rcases List.mem_cons.mp hp with rfl | hr
      · exact absurd rfl e
      · rw [List.find?_cons_of_neg (by simpa using e)]
        exact ih h.2 hr
/-- what each deed does to a part, as the program has it -/
def dictT (b : Bk) (at_ : Nat) : D := .dict (b.deeds.map fun d => (.str d.1, encT (d.2.getD at_ ⟨1, 2, 0⟩)))
theorem tr_of {b : Bk} (h : b.Ok) {d : Str × List Tr} (hd : d ∈ b.deeds) (at_ : Nat) : b.tr at_ d.1 = d.2.getD at_ ⟨1, 2, 0⟩ := by
  unfold Bk.tr
  rw [lookup_nodup (asc_nodup h.da) hd]
  rfl
theorem tr0_ok : (⟨1, 2, 0⟩ : Tr).Ok := ⟨by decide, by decide, by decide, by decide, by decide⟩
theorem tr_ok {b : Bk} (h : b.Ok) (at_ : Nat) (n : Str) : (b.tr at_ n).Ok := by
  unfold Bk.tr
  cases e : b.deeds.find? (fun d => decide (d.1 = n)) with
  | none => exact tr0_ok
  | some d =>
    have hd := List.mem_of_find?_eq_some e
    show (d.2.getD at_ ⟨1, 2, 0⟩).Ok
    rw [List.getD_eq_getElem?_getD]
    cases e2 : d.2[at_]? with
    | none => exact tr0_ok
    | some t => exact h.dt d hd t (List.mem_of_getElem? e2)
theorem dictT_at {b : Bk} (h : b.Ok) (at_ : Nat) {n : Str} (hn : n ∈ b.deeds.map (·.1)) : ixD (dictT b at_) (.str n) = some (encT (b.tr at_ n)) := by
  obtain ⟨d, hd, rfl⟩ := List.mem_map.mp hn
  unfold dictT
  rw [x_dicts, List.find?_map, show ((fun kv : D × D => PyData.eqv kv.1 (.str d.1)) ∘ fun d : Str × List Tr => ((PyData.str d.1, encT (d.2.getD at_ ⟨1, 2, 0⟩)) : D × D)) = fun e => decide (e.1 = d.1) from funext fun e => eqv_str _ _]
  rw [lookup_nodup (asc_nodup h.da) hd, tr_of h hd]
  rfl
theorem index_nodup : ∀ {l : List Str} {i : Nat} (hi : i < l.length), l.Nodup → (l.map PyData.str).findIdx? (fun x => PyData.eqv x (.str l[i])) = some i
  | x :: r, 0, hi, h => by simp [List.findIdx?_cons, eqv_str]
  | x :: r, i + 1, hi, h => by
    simp only [List.nodup_cons] at h
    have hi' : i < r.length := by simpa using hi
    have hne : x ≠ r[i] := fun e => h.1 (e ▸ List.getElem_mem hi')
    have ih := index_nodup hi' h.2
    simp only [List.getElem_cons_succ, List.map_cons, List.findIdx?_cons]
    simp only [show PyData.eqv (.str x) (.str r[i]) = false by rw [eqv_str]; exact decide_eq_false hne, hne, decide_false, Bool.false_eq_true, if_false]
    rw [ih]
    rfl
theorem triples_of (k : Nat) (b : Bk) (h : b.Ok) (at_ : Nat) (ha : at_ < b.parts.length) : call G (k + 2) (.glob "triples_of") [.dat (encB b), .dat (.str (b.parts[at_]).1)] = .ok (.dat (dictT b at_)) [.dat (encB b), .dat (.str (b.parts[at_]).1)] := by
  rw [← ResW_eq]
  refine run_glob g_triples_of rfl (by decide) ?_
  have e := part_names k b h
  have hnm : ∀ n ∈ b.parts.map (·.1), NameOk n := fun n hn => by
    obtain ⟨p, hp, rfl⟩ := List.mem_map.mp hn
    exact h.pn p hp
  have e1 := names_sh hnm
  have e2 := shaped_name (h.pn _ (List.getElem_mem ha))
  have e3 := index_nodup (l := b.parts.map (·.1)) (i := at_) (by simpa using ha) (asc_nodup h.pa)
  simp only [List.map_map, Function.comp_def, List.getElem_map] at e1 e3
  simp -dsimp -implicitDefEqProofs [f_triples_of, e, e1, e2, e3]
  simp -dsimp -implicitDefEqProofs [encB]
  refine OutW_map (g := fun d => match d with | .tuple [x, .tuple t] => .tuple [x, t.getD at_ .none] | _ => .none) (fun d hd => ?_) ?_
  · obtain ⟨d', hd', rfl⟩ := List.mem_map.mp hd
    have hl : at_ < d'.2.length := by rw [h.dl d' hd']; exact ha
    simp -dsimp -implicitDefEqProofs [encD, atI_n, hl]
  · have e5 : ((b.deeds.map encD).map fun d => match d with | .tuple [x, .tuple t] => PyData.tuple [x, t.getD at_ .none] | _ => .none) = b.deeds.map fun d => PyData.tuple [.str d.1, encT (d.2.getD at_ ⟨1, 2, 0⟩)] := by
      rw [List.map_map]
      refine List.map_congr_left fun d hd2 => ?_
      have hl : at_ < d.2.length := by rw [h.dl d hd2]; exact ha
      simp [encD, hl]
    have hc : b.deeds.length ≤ sizeLine := small_line (by have := h.d6; omega)
    rw [e5, pairsK_str]
    have hnd : ((b.deeds.map fun x => ((.inr x.1 : L2.Key), encT (x.2.getD at_ ⟨1, 2, 0⟩))).map (·.1)).Nodup := by
      rw [List.map_map]
      have := asc_nodup h.da
      rw [List.nodup_iff_pairwise_ne, List.pairwise_map] at this ⊢
      exact this.imp fun {x y} hne e => hne (Sum.inr.inj e)
    have em := mergeX_nodup (b.deeds.map fun x => ((.inr x.1 : L2.Key), encT (x.2.getD at_ ⟨1, 2, 0⟩))) [] (by rw [List.nil_append]; exact hnd)
    rw [List.nil_append] at em
    simp -dsimp -implicitDefEqProofs only [↓s_asg_x, ↓s_asgO_x, ↓s_parl, ↓s_setx_x, ↓s_expr_x, ↓s_ret_x, ↓s_ite, ↓s_for_x, ↓s_while_x, ↓s_defn_x, ↓s_pass_x, ↓s_forget_x, ↓s_nil, ↓s_cons, ↓w_lit, ↓w_gc, ↓w_var, ↓w_mov, ↓w_bin, ↓w_cmp, ↓w_cmp2, ↓w_neg, ↓w_not, ↓w_and_x, ↓w_or_x, ↓w_ite, ↓w_tup, ↓w_lst, ↓w_ix, ↓w_ixv, ↓w_slc, ↓w_rev, ↓w_slv, ↓w_lenv, ↓w_isi, ↓w_blt, ↓w_mth, ↓w_mut, ↓w_call, ↓w_callv, ↓w_call1, ↓w_lc, ↓w_dc, ↓w_Lnil, ↓w_Lcons, ↓w_Cnil, ↓w_Ccons, ↓w_Anil, ↓w_Ad, ↓w_Amv, ↓w_Afg, ↓w_Afv, ↓w_Alam, ↓w_Amade, ↓w_Iseq, ↓w_Irng, ↓w_Irng2, ↓w_Ienum, ↓w_Izip, ↓w_EsNil, ↓w_EsCons, ↓w_callP, ↓w_forB, ↓w_lcB, ↓w_dcB, ↓w_whC, ↓OptW_some, ↓OptW_if, ↓OptW_map, ↓BoolW_true, ↓BoolW_false, ↓BoolW_bool, ↓IntW_int, ↓SlotW_dat, ↓SlotW_own, ↓FreshW_fresh, ↓OutW_ok, ↓FlW_nx, ↓FlW_rt, ↓ResW_ok, ↓OutW_bind, ↓OutW_frz, EV.frz, permute, slotsOf, PArgs.now, PArg.now, PArgs.back, outA, argSV, T_nm, T_tup, T_at, T_nil, T_cons, setE, setEs, isPar, mutOf, mutPut, readL, capOf, b_add, b_adds, b_addt, b_addl, b_sub, b_mul, b_div, b_mod, b_pow, c_eq, c_ne, c_lt, c_le, c_gt, c_ge, c_lts, c_is, c_isnot, c_ins, c_nins, c_inl, c_int, c_ninl, c_nint, i_int, i_bool, i_str_x, i_tuple, i_list_x, x_list, x_tuple, x_str, x_dicts, x_dicti, t_len_l, t_len_t, t_len_s, t_abs, t_int, t_intb, t_max, t_min, t_sum, t_all, t_any, t_list_l, t_list_t, t_list_s, t_tuple_l, t_tuple_t, t_divmod, t_gcd, t_repr, t_dict_l, t_dict_t, t_sorted, m_index_x, m_join_x, u_append_x, u_pop_x, u_pop0, u_extend_x, o_none_x, o_int, l_l, l_t, l_s, r_l, r_t, q_l, q_t, q_s, k_l, k_t, ok_none, ok_int, sh_int, sh_none, sh_bool, sh_nil, sh_unit, shaped_fr, eqv_int, eqv_fr, x_B0, x_B1, x_P0, x_P1, x_D0, x_D1, x_T0, x_T1, x_T2, x_f0, x_f1, x_R, q_R, k_R, t_R, b_R, r_R, T_B, T_P, T_D, T_T, T_f, le_sz, lt_sz, wipeE, restE, List.getD_cons_zero, List.getD_cons_succ, List.map_cons, List.map_nil, List.cons_append, List.nil_append, List.replicate, List.getElem?_cons_zero, List.getElem?_cons_succ, List.set_cons_zero, List.set_cons_succ, List.length_cons, List.length_nil, atI_0, atI_1, atI_2, ixN_0, ixN_1, ixN_2, em]
    refine ⟨by simpa using hc, _, rfl, ?_, rfl⟩
    simp [dictX, dictT, keyD, Function.comp_def]
theorem along_of (k : Nat) (b : Bk) (h : b.Ok) (at_ : Nat) (ha : at_ < b.parts.length) (row : List Str) (hr : ∀ n ∈ row, n ∈ b.deeds.map (·.1)) (x : Rat) {B : Nat} (hx : Fz B x) (hB : B + 14 * row.length ≤ 7000) :
    call G (k + 3) (.glob "along_of") [.dat (encB b), .dat (.tuple (row.map PyData.str)), .dat (.str (b.parts[at_]).1), .dat (fr x)] = .ok (.fresh ((along (b.tr at_) row x).map fr)) [.dat (encB b), .dat (.tuple (row.map PyData.str)), .dat (.str (b.parts[at_]).1), .dat (fr x)] := by
  rw [← ResW_eq]
  refine run_glob g_along_of rfl (by decide) ?_
  have e := triples_of k b h at_ ha
  simp -dsimp -implicitDefEqProofs [f_along_of, e]
  obtain ⟨I, hI⟩ : ∃ I : List D → Ev.Env → Prop, ∀ items ρ, I items ρ ↔ ∃ (rest : List Str) (y : Rat) (acc : List Rat) (z : Option SV), items = rest.map PyData.str ∧ ρ = [some (.dat (encB b)), some (.dat (.tuple (row.map PyData.str))), some (.dat (.str (b.parts[at_]).1)), some (.dat (fr x)), some (.dat (dictT b at_)), some (.dat (fr y)), some (.own (acc.map fr)), z] ∧ isPar (some z) = false ∧ acc ++ along (b.tr at_) rest y = along (b.tr at_) row x ∧ (∀ n ∈ rest, n ∈ b.deeds.map (·.1)) ∧ Fz (B + 14 * acc.length) y ∧ acc.length + rest.length = row.length := ⟨_, fun _ _ => Iff.rfl⟩
  refine FlW_for (I := I) (fun d ds ρ hi => ?_) (fun ρ hi => ?_) _ _ ((hI _ _).mpr ⟨row, x, [], none, rfl, rfl, rfl, rfl, hr, by simpa using hx, by simp⟩)
  · obtain ⟨rest, y, acc, z, h1, rfl, hz, h2, h3, h4, h5⟩ := (hI _ _).mp hi
    cases rest with
    | nil => cases h1
    | cons n rest =>
      simp only [List.map_cons, List.cons.injEq] at h1
      obtain ⟨rfl, rfl⟩ := h1
      simp only [List.length_cons] at h5
      have e1 := dictT_at h at_ (h3 n (.head _))
      have e2 := done_by (k := k) (b.tr at_ n) y (tr_ok h at_ n) h4 (by omega)
      have hl : acc.length ≤ 10000 := by omega
      simp -dsimp -implicitDefEqProofs [hz, e1, e2, hl]
      refine (hI _ _).mpr ⟨rest, (b.tr at_ n).ap y, acc ++ [(b.tr at_ n).ap y], some (.dat (.str n)), rfl, by simp, rfl, ?_, fun m hm => h3 m (.tail _ hm), ?_, ?_⟩
      · rw [← h2]
        simp [along]
      · have := fz_ap' (tr_ok h at_ n) h4
        rw [List.length_append, List.length_singleton]
        exact this.mono (by omega)
      · rw [List.length_append, List.length_singleton]
        omega
  · obtain ⟨rest, y, acc, z, h1, rfl, hz, h2, h3, h4, h5⟩ := (hI _ _).mp hi
    cases rest with
    | cons n rest => cases h1
    | nil =>
      simp -dsimp -implicitDefEqProofs
      simp only [along, List.append_nil] at h2
      rw [h2]
theorem along_len (f : Str → Tr) : ∀ (row : List Str) (x : Rat), (along f row x).length = row.length
  | [], _ => rfl
  | n :: r, x => by simp [along, along_len f r]
theorem along_fz {f : Str → Tr} (hf : ∀ n, (f n).Ok) : ∀ {row : List Str} {x : Rat} {B : Nat}, Fz B x → ∀ y ∈ along f row x, Fz (B + 14 * row.length) y
  | [], _, _, _, y, hy => by cases hy
  | n :: r, x, B, h, y, hy => by
    have h1 := fz_ap' (hf n) h
    simp only [along, List.mem_cons] at hy
    rcases hy with rfl | hy
    · exact h1.mono (by simp only [List.length_cons]; omega)
    · exact (along_fz hf h1 y hy).mono (by simp only [List.length_cons]; omega)
theorem fz_maxR {B : Nat} {x y : Rat} (h1 : Fz B x) (h2 : Fz B y) : Fz B (maxR x y) := by
  unfold maxR
  split <;> assumption
/-- the greatest one of a list -/
def great (l : List Rat) : Rat := match l with
  | [] => 0
  | x :: r => r.foldl maxR x
theorem maxR_self (x : Rat) : maxR x x = x := by
  unfold maxR
  split <;> rfl
theorem greatest_of (k : Nat) (x : Rat) (r : List Rat) {B : Nat} (hf : ∀ y ∈ x :: r, Fz B y) (hB : B < 9000) : call G (k + 3) (.glob "greatest_of") [.dat (.list ((x :: r).map fr))] = .ok (.dat (fr (great (x :: r)))) [.dat (.list ((x :: r).map fr))] := by
  rw [← ResW_eq]
  refine run_glob g_greatest_of rfl (by decide) ?_
  simp -dsimp -implicitDefEqProofs [f_greatest_of]
  obtain ⟨I, hI⟩ : ∃ I : List D → Ev.Env → Prop, ∀ items ρ, I items ρ ↔ ∃ (rest : List Rat) (y : Rat) (z : Option SV), items = rest.map fr ∧ ρ = [some (.dat (.list (fr x :: r.map fr))), some (.dat (fr y)), z] ∧ isPar (some z) = false ∧ rest.foldl maxR y = great (x :: r) ∧ (∀ y ∈ rest, Fz B y) ∧ Fz B y := ⟨_, fun _ _ => Iff.rfl⟩
  refine FlW_for (I := I) (fun d ds ρ hi => ?_) (fun ρ hi => ?_) _ _ ((hI _ _).mpr ⟨x :: r, x, none, rfl, rfl, rfl, ?_, hf, hf x (.head _)⟩)
  · obtain ⟨rest, y, z, h1, rfl, hz, h2, h3, h4⟩ := (hI _ _).mp hi
    cases rest with
    | nil => cases h1
    | cons n rest =>
      simp only [List.map_cons, List.cons.injEq] at h1
      obtain ⟨rfl, rfl⟩ := h1
      have e1 := greater_of k y n h4 (h3 n (.head _)) hB
      simp -dsimp -implicitDefEqProofs [hz, e1]
      exact (hI _ _).mpr ⟨rest, maxR y n, some (.dat (fr n)), rfl, rfl, rfl, h2, fun y hy => h3 y (.tail _ hy), fz_maxR h4 (h3 n (.head _))⟩
  · obtain ⟨rest, y, z, h1, rfl, hz, h2, h3, h4⟩ := (hI _ _).mp hi
    cases rest with
    | cons n rest => cases h1
    | nil =>
      have h2' : y = great (x :: r) := h2
      simp -dsimp -implicitDefEqProofs [h2']
  · show List.foldl maxR (maxR x x) r = _
    rw [maxR_self]
    rfl
/-- a drawn or given row -/
structure RowOk (b : Bk) (row : List Str) (m : Nat) : Prop where
  r1 : 1 ≤ row.length
  rm : row.length ≤ m
  rn : ∀ n ∈ row, n ∈ b.deeds.map (·.1)
theorem strain_of (k : Nat) (b : Bk) (h : b.Ok) (at_ : Nat) (ha : at_ < b.parts.length) (row : List Str) {m : Nat} (hr : RowOk b row m) (x : Rat) {B : Nat} (hx : Fz B x) (hB : B + 14 * row.length ≤ 7000) :
    call G (k + 4) (.glob "strain_of") [.dat (encB b), .dat (encR row), .dat (.str (b.parts[at_]).1), .dat (fr x)] = .ok (.dat (fr (great (along (b.tr at_) row x)))) [.dat (encB b), .dat (encR row), .dat (.str (b.parts[at_]).1), .dat (fr x)] := by
  rw [← ResW_eq]
  refine run_glob g_strain_of rfl (by decide) ?_
  have e1 := along_of k b h at_ ha row hr.rn x hx hB
  have hf := along_fz (tr_ok h at_) (row := row) hx
  have hl := along_len (b.tr at_) row x
  have h1 := hr.r1
  generalize along (b.tr at_) row x = l at *
  cases l with
  | nil => simp only [List.length_nil] at hl; omega
  | cons y r =>
    have e2 := greatest_of k y r hf (by omega)
    simp only [encR]
    simp only [List.map_cons] at e1 e2
    simp -dsimp -implicitDefEqProofs [f_strain_of, e1, e2]
theorem names_ok {b : Bk} (h : b.Ok) : ∀ n ∈ b.deeds.map (·.1), NameOk n := fun n hn => by
  obtain ⟨p, hp, rfl⟩ := List.mem_map.mp hn
  exact h.dn p hp
theorem check_book (k : Nat) (b : Bk) (h : b.Ok) : call G (k + 11) (.glob "check_book") [.dat (encB b)] = .ok (.dat .none) [.dat (encB b)] := by
  rw [← ResW_eq]
  refine run_glob g_check_book rfl (by decide) ?_
  have e := is_book_form k b h
  simp -dsimp -implicitDefEqProofs [f_check_book, e]
theorem check_part (k : Nat) (b : Bk) (h : b.Ok) (at_ : Nat) (ha : at_ < b.parts.length) : call G (k + 2) (.glob "check_part") [.dat (encB b), .dat (.str (b.parts[at_]).1)] = .ok (.dat .none) [.dat (encB b), .dat (.str (b.parts[at_]).1)] := by
  rw [← ResW_eq]
  refine run_glob g_check_part rfl (by decide) ?_
  have e1 := part_names k b h
  have hnm : ∀ n ∈ b.parts.map (·.1), NameOk n := fun n hn => by
    obtain ⟨p, hp, rfl⟩ := List.mem_map.mp hn
    exact h.pn p hp
  have e2 := is_one_of k (b.parts[at_]).1 (b.parts.map (·.1)) (List.mem_map_of_mem (List.getElem_mem ha)) (shaped_name (h.pn _ (List.getElem_mem ha))) (names_sh hnm)
  rw [List.map_map] at e2
  simp only [Function.comp_def] at e2
  simp -dsimp -implicitDefEqProofs [f_check_part, e1, e2]
theorem check_row_of (k : Nat) (b : Bk) (h : b.Ok) (row : List Str) (hr : RowOk b row 12) : call G (k + 6) (.glob "check_row_of") [.dat (encB b), .dat (encR row)] = .ok (.dat .none) [.dat (encB b), .dat (encR row)] := by
  rw [← ResW_eq]
  refine run_glob g_check_row_of rfl (by decide) ?_
  have e1 := deed_names (k + 4) b h
  have e2 := wrong_row k (b.deeds.map (·.1)) row 12 (names_ok h) hr.rn hr.r1 (by have := hr.rm; omega)
  rw [List.map_map] at e2
  simp only [Function.comp_def] at e2
  simp only [encR]
  simp -dsimp -implicitDefEqProofs [f_check_row_of, e1, e2, forLoop]
theorem check_row (k : Nat) (b : Bk) (h : b.Ok) (row : List Str) (hr : RowOk b row 12) : call G (k + 12) (.glob "check_row") [.dat (encB b), .dat (encR row)] = .ok (.dat .none) [.dat (encB b), .dat (encR row)] := by
  rw [← ResW_eq]
  refine run_glob g_check_row rfl (by decide) ?_
  have e1 := check_book k b h
  have e2 := check_row_of (k + 5) b h row hr
  simp -dsimp -implicitDefEqProofs [f_check_row, e1, e2]
theorem check_row_part (k : Nat) (b : Bk) (h : b.Ok) (row : List Str) (hr : RowOk b row 12) (at_ : Nat) (ha : at_ < b.parts.length) : call G (k + 13) (.glob "check_row_part") [.dat (encB b), .dat (encR row), .dat (.str (b.parts[at_]).1)] = .ok (.dat .none) [.dat (encB b), .dat (encR row), .dat (.str (b.parts[at_]).1)] := by
  rw [← ResW_eq]
  refine run_glob g_check_row_part rfl (by decide) ?_
  have e1 := check_row k b h row hr
  have e2 := check_part (k + 10) b h at_ ha
  simp -dsimp -implicitDefEqProofs [f_check_row_part, e1, e2]
theorem check_load (k : Nat) (x : Rat) (h : 0 ≤ x) : call G (k + 4) (.glob "check_load") [.dat (fr x)] = .ok (.dat .none) [.dat (fr x)] := by
  rw [← ResW_eq]
  refine run_glob g_check_load rfl (by decide) ?_
  have e := is_load_form k x h
  simp -dsimp -implicitDefEqProofs [f_check_load, e]
theorem strain (k : Nat) (b : Bk) (h : b.Ok) (row : List Str) (hr : RowOk b row 12) (at_ : Nat) (ha : at_ < b.parts.length) (x : Rat) (h0 : 0 ≤ x) {B : Nat} (hx : Fz B x) (hB : B ≤ 6000) : call G (k + 14) (.glob "strain") [.dat (encB b), .dat (encR row), .dat (.str (b.parts[at_]).1), .dat (fr x)] = .ok (.dat (fr (great (along (b.tr at_) row x)))) [.dat (encB b), .dat (encR row), .dat (.str (b.parts[at_]).1), .dat (fr x)] := by
  rw [← ResW_eq]
  refine run_glob g_strain rfl (by decide) ?_
  have e1 := check_row_part k b h row hr at_ ha
  have e2 := check_load (k + 9) x h0
  have e3 := strain_of (k + 9) b h at_ ha row hr x hx (by have := hr.rm; omega)
  simp -dsimp -implicitDefEqProofs [f_strain, e1, e2, e3]
/-- where the draws come from -/
def Pl (n : Nat) (ds : List D) : Prop := ∃ a m c : Int, ds = [.int a, .int m, .int c] ∧ 0 ≤ a ∧ 0 ≤ m ∧ m < 2147483489 ∧ 0 ≤ c ∧ c ≤ n
theorem Pl.mono {n m : Nat} {ds : List D} (h : Pl n ds) (hm : n ≤ m) : Pl m ds := by
  obtain ⟨a, q, c, rfl, h1, h2, h3, h4, h5⟩ := h
  exact ⟨a, q, c, rfl, h1, h2, h3, h4, by omega⟩
theorem nat_lt_pow {n : Nat} {A : Nat} (h : n < 2 ^ A) : n < 2 ^ A := h
theorem perm_erase : ∀ {l : List D} {i : Nat} (h : i < l.length), (l[i] :: l.eraseIdx i).Perm l
  | x :: r, 0, _ => by simp
  | x :: r, i + 1, h => by
    have h2 : i < r.length := by simpa using h
    have := perm_erase h2
    simp only [List.getElem_cons_succ, List.eraseIdx_cons_succ]
    exact (List.Perm.swap x r[i] _).trans (this.cons x)
theorem perm_map_inv {α β : Type} {f : α → β} {ys zs : List β} (h : ys.Perm zs) : ∀ l : List α, zs = l.map f → ∃ l' : List α, l'.Perm l ∧ ys = l'.map f := by
  induction h with
  | nil =>
    intro l e
    cases l with
    | nil => exact ⟨[], .refl _, rfl⟩
    | cons a l => cases e
  | cons x _ ih =>
    intro l e
    cases l with
    | nil => cases e
    | cons a l =>
      simp only [List.map_cons, List.cons.injEq] at e
      obtain ⟨rfl, e⟩ := e
      obtain ⟨l', h1, rfl⟩ := ih l e
      exact ⟨a :: l', h1.cons a, rfl⟩
  | swap x y r =>
    intro l e
    cases l with
    | nil => cases e
    | cons a l =>
      cases l with
      | nil => cases e
      | cons b l =>
        simp only [List.map_cons, List.cons.injEq] at e
        obtain ⟨rfl, rfl, rfl⟩ := e
        exact ⟨b :: a :: l, .swap a b l, rfl⟩
  | trans _ _ ih1 ih2 =>
    intro l e
    obtain ⟨l1, h1, e1⟩ := ih2 l e
    obtain ⟨l2, h2, e2⟩ := ih1 l1 e1
    exact ⟨l2, h2.trans h1, e2⟩
theorem join_chars : ∀ l : List Nat, PySem.Txt.join ("" : Str) (l.map fun c => (⟨#[c]⟩ : Str)) = ⟨l.toArray⟩ := by
  have key : ∀ l : List Nat, Str.join ("" : Str) (l.map fun c => (⟨#[c]⟩ : Str)) = ⟨l.toArray⟩ := by
    intro l
    induction l with
    | nil => rfl
    | cons c r ih =>
      cases r with
      | nil => rfl
      | cons d r =>
        show (⟨#[c]⟩ : Str) ++ "" ++ Str.join "" ((d :: r).map fun c => (⟨#[c]⟩ : Str)) = _
        rw [ih]
        show (⟨(#[c] ++ ("" : Str).cps) ++ (d :: r).toArray⟩ : Str) = _
        have e : ("" : Str).cps = #[] := by decide +kernel
        rw [e]
        simp
  intro l
  show Builtin.Str.glued ("" : Str) _ = _
  rw [StrLaws.glued_eq_join]
  exact key l
def bvxz (c : Nat) : Bool := c == 98 || c == 118 || c == 120 || c == 122
theorem name_made {c : Nat} {t : List Nat} (hc : 97 ≤ c ∧ c ≤ 122) (ht : ∀ x ∈ t, bvxz x = true) (hl : t.length ≤ 7) : NameOk ⟨(c :: t).toArray⟩ := by
  refine ⟨by simp, fun x hx => ?_, by simp [Str.length]; omega, fun hw => ?_⟩
  · simp only [List.mem_cons] at hx
    rcases hx with rfl | hx
    · exact hc
    · have := ht x hx
      simp only [bvxz, Bool.or_eq_true, beq_iff_eq] at this
      omega
  · have key : ∀ w ∈ words, w.cps.toList.tail.all bvxz = false := by decide +kernel
    have h1 := key _ hw
    rw [show (⟨(c :: t).toArray⟩ : Str).cps.toList.tail = t from rfl] at h1
    rw [List.all_eq_true.mpr ht] at h1
    cases h1
theorem letters_eq : chars ("abcdefghijklmnopqrstuvwxyz" : Str) = ((List.range 26).map (97 + ·)).map fun c => PyData.str ⟨#[c]⟩ := by
  have e : ("abcdefghijklmnopqrstuvwxyz" : Str).cps.toList = (List.range 26).map (97 + ·) := by decide +kernel
  unfold chars
  rw [e]
theorem strs_map {α : Type} (l : List α) (f : α → Str) : strs? (l.map fun x => PyData.str (f x)) = some (l.map f) := by
  induction l with
  | nil => rfl
  | cons x r ih => simp [strs?, ih]
/-! ### the law's own lowest terms -/
theorem FlW_while_stop {c : Ev.Env → Out D} {f : Ev.Env → Fl} {n : Nat} {ρ : Ev.Env} {Q : Ev.Env → Prop} {R : EV → Ev.Env → Prop} (h : OutW (c ρ) (fun b ρ => b = .bool false ∧ Q ρ)) : FlW (whileLoop c f (n + 1) ρ) Q R := by
  unfold whileLoop
  rw [FlW_then]
  refine h.mono fun b ρ h => ?_
  obtain ⟨rfl, h⟩ := h
  exact h
theorem FlW_while_turn {c : Ev.Env → Out D} {f : Ev.Env → Fl} {n : Nat} {ρ : Ev.Env} {Q : Ev.Env → Prop} {R : EV → Ev.Env → Prop} (h : OutW (c ρ) (fun b ρ => b = .bool true ∧ FlW (f ρ) (fun ρ => FlW (whileLoop c f n ρ) Q R) R)) : FlW (whileLoop c f (n + 1) ρ) Q R := by
  unfold whileLoop
  rw [FlW_then]
  refine h.mono fun b ρ h => ?_
  obtain ⟨rfl, h⟩ := h
  show FlW (match f ρ with
      | .nx ρ' => whileLoop c f n ρ'
      | .ct ρ' => whileLoop c f n ρ'
      | .bk ρ' => .nx ρ'
      | r => r) Q R
  cases e : f ρ with
  | nx ρ' =>
    rw [e] at h
    exact h
  | rt r ρ' =>
    rw [e] at h
    exact h
  | bk ρ' =>
    rw [e] at h
    exact h.elim
  | ct ρ' =>
    rw [e] at h
    exact h.elim
  | exc c x ρ' =>
    rw [e] at h
    exact h.elim
  | bad =>
    rw [e] at h
    exact h.elim
theorem law_low_loop {Φ : FV → List Ev.Arg → Res} {W : Nat} {a b : SV} {Q : Ev.Env → Prop} {R : EV → Ev.Env → Prop} : ∀ (j n : Nat) (x y : Nat), y < 2 ^ j → 2 * j + 1 ≤ n → Q [some a, some b, some (.dat (.int (Nat.gcd x y : Nat))), some (.dat (.int 0)), none] →
    FlW (whileLoop (whC Φ (.cmp .Gt (.var 3) (.lit (.int 0)))) (evB Φ W [.parl [(2, false), (3, false)] [.var 3, .bin .Mod (.var 2) (.var 3)]]) n [some a, some b, some (.dat (.int x)), some (.dat (.int y)), none]) Q R := by
  have stop : ∀ (n x : Nat), 1 ≤ n → Q [some a, some b, some (.dat (.int (x : Nat))), some (.dat (.int 0)), none] → FlW (whileLoop (whC Φ (.cmp .Gt (.var 3) (.lit (.int 0)))) (evB Φ W [.parl [(2, false), (3, false)] [.var 3, .bin .Mod (.var 2) (.var 3)]]) n [some a, some b, some (.dat (.int x)), some (.dat (.int 0)), none]) Q R := by
    intro n x hn hq
    obtain ⟨n, rfl⟩ : ∃ m, n = m + 1 := ⟨n - 1, by omega⟩
    apply FlW_while_stop
    simp -dsimp -implicitDefEqProofs
    exact hq
  have turn : ∀ (n x y : Nat), 0 < y → FlW (whileLoop (whC Φ (.cmp .Gt (.var 3) (.lit (.int 0)))) (evB Φ W [.parl [(2, false), (3, false)] [.var 3, .bin .Mod (.var 2) (.var 3)]]) n [some a, some b, some (.dat (.int y)), some (.dat (.int (x % y : Nat))), none]) Q R → FlW (whileLoop (whC Φ (.cmp .Gt (.var 3) (.lit (.int 0)))) (evB Φ W [.parl [(2, false), (3, false)] [.var 3, .bin .Mod (.var 2) (.var 3)]]) (n + 1) [some a, some b, some (.dat (.int x)), some (.dat (.int y)), none]) Q R := by
    intro n x y hy h
    apply FlW_while_turn
    have hy' : (0 : Int) < (y : Int) := by omega
    simp -dsimp -implicitDefEqProofs [hy, hy']
    rw [← Int.natCast_emod]
    exact h
  intro j
  induction j with
  | zero =>
    intro n x y hy hn hq
    obtain rfl : y = 0 := by simpa using hy
    rw [Nat.gcd_zero_right] at hq
    exact stop n x (by omega) hq
  | succ j ih =>
    intro n x y hy hn hq
    by_cases h0 : y = 0
    · subst h0
      rw [Nat.gcd_zero_right] at hq
      exact stop n x (by omega) hq
    · obtain ⟨n, rfl⟩ : ∃ m, n = m + 1 := ⟨n - 1, by omega⟩
      have hy0 : 0 < y := Nat.pos_of_ne_zero h0
      refine turn n x y hy0 ?_
      have e1 : Nat.gcd y (x % y) = Nat.gcd x y := by
        rw [Nat.gcd_comm x y, Nat.gcd_comm y (x % y), ← Nat.gcd_rec]
      by_cases h1 : x % y = 0
      · rw [h1]
        rw [h1, Nat.gcd_zero_right] at e1
        rw [← e1] at hq
        exact stop n y (by omega) hq
      · obtain ⟨n, rfl⟩ : ∃ m, n = m + 1 := ⟨n - 1, by omega⟩
        have hr0 : 0 < x % y := Nat.pos_of_ne_zero h1
        have hr : x % y < y := Nat.mod_lt _ hy0
        refine turn n y (x % y) hr0 ?_
        have e2 : Nat.gcd (x % y) (y % (x % y)) = Nat.gcd y (x % y) := by
          rw [Nat.gcd_comm y (x % y), Nat.gcd_comm (x % y) (y % (x % y)), ← Nat.gcd_rec]
        refine ih n (x % y) (y % (x % y)) ?_ (by omega) (by rw [e2, e1]; exact hq)
        have h2 : y % (x % y) < x % y := Nat.mod_lt _ hr0
        have h3 : y % (x % y) + x % y ≤ y := by
          have := Nat.div_add_mod y (x % y)
          have h4 : 1 ≤ y / (x % y) := Nat.div_pos (by omega) hr0
          have h5 : (x % y) * 1 ≤ (x % y) * (y / (x % y)) := Nat.mul_le_mul_left _ h4
          omega
        rw [Nat.pow_succ] at hy
        omega
theorem law_less (k : Nat) (a b : Rat) {B : Nat} (ha : Fz B a) (hb : Fz B b) (h9 : B < 9000) : call G (k + 1) (.glob "_law_less") [.dat (fr a), .dat (fr b)] = .ok (.dat (.bool (decide (a < b)))) [.dat (fr a), .dat (fr b)] := by
  rw [← ResW_eq]
  refine run_glob g_law_less rfl (by decide) ?_
  have h1 : mulOk a.num b.den = true := mulOk_of ha.1 hb.2 (by omega)
  have h2 : mulOk b.num a.den = true := mulOk_of hb.1 ha.2 (by omega)
  simp -dsimp -implicitDefEqProofs [f_law_less, fr, h1, h2, lt_iff]
/-- the deeds of a book as a dict -/
def dictD (b : Bk) : D := .dict (b.deeds.map fun d => (.str d.1, .tuple (d.2.map encT)))
theorem dictD_of {b : Bk} (h : b.Ok) : bltD "dict" [.tuple (b.deeds.map encD)] = some (.dat (dictD b)) := by
  have h1 := h.d1
  have e : bltD "dict" [.tuple (b.deeds.map encD)] = (pairsK? (b.deeds.map encD)).map fun ps => EV.dat (dictX (mergeX [] ps)) := by
    cases hd : b.deeds with
    | nil => rw [hd] at h1; simp at h1
    | cons x r => rfl
  rw [e]
  have e2 : pairsK? (b.deeds.map encD) = some (b.deeds.map fun x => ((.inr x.1 : L2.Key), PyData.tuple (x.2.map encT))) := pairsK_str b.deeds (·.1) fun x => .tuple (x.2.map encT)
  have hnd : ((b.deeds.map fun x => ((.inr x.1 : L2.Key), PyData.tuple (x.2.map encT))).map (·.1)).Nodup := by
    rw [List.map_map]
    have := asc_nodup h.da
    rw [List.nodup_iff_pairwise_ne, List.pairwise_map] at this ⊢
    exact this.imp fun {x y} hne e => hne (Sum.inr.inj e)
  have em := mergeX_nodup (b.deeds.map fun x => ((.inr x.1 : L2.Key), PyData.tuple (x.2.map encT))) [] (by rw [List.nil_append]; exact hnd)
  rw [List.nil_append] at em
  rw [e2, Option.map_some, em]
  simp [dictX, dictD, keyD, Function.comp_def]
theorem dictD_at {b : Bk} (h : b.Ok) (at_ : Nat) (ha : at_ < b.parts.length) {n : Str} (hn : n ∈ b.deeds.map (·.1)) : ∃ ts : List D, ixD (dictD b) (.str n) = some (.tuple ts) ∧ ts[at_]? = some (encT (b.tr at_ n)) := by
  obtain ⟨d, hd, rfl⟩ := List.mem_map.mp hn
  refine ⟨d.2.map encT, ?_, ?_⟩
  · unfold dictD
    rw [x_dicts, List.find?_map, show ((fun kv : D × D => PyData.eqv kv.1 (.str d.1)) ∘ fun d : Str × List Tr => ((PyData.str d.1, PyData.tuple (d.2.map encT)) : D × D)) = fun e => decide (e.1 = d.1) from funext fun e => eqv_str _ _]
    rw [lookup_nodup (asc_nodup h.da) hd]
    rfl
  · have hl : at_ < d.2.length := by rw [h.dl d hd]; exact ha
    rw [tr_of h hd, List.getElem?_map, List.getElem?_eq_getElem hl]
    simp [hl]
theorem along_last {f : Str → Tr} : ∀ {row : List Str} {x : Rat}, row ≠ [] → (along f row x).getLast? = some (left f row x)
  | [], _, h => absurd rfl h
  | [n], x, _ => rfl
  | n :: m :: r, x, _ => by
    have ih := along_last (f := f) (row := m :: r) (x := (f n).ap x) (by simp)
    show ((f n).ap x :: along f (m :: r) ((f n).ap x)).getLast? = _
    rw [List.getLast?_cons, ih]
    rfl
theorem ltCps_eq : ∀ a b : List Nat, Spec.ltCps a b = decide (a < b)
  | [], [] => by simp [Spec.ltCps]
  | [], _ :: _ => by simp [Spec.ltCps]
  | _ :: _, [] => by simp [Spec.ltCps]
  | a :: r, b :: t => by
    have ih := ltCps_eq r t
    simp only [Spec.ltCps, ih, List.cons_lt_cons_iff]
    by_cases h1 : a < b
    · simp [h1]
    · by_cases h2 : a = b
      · simp [h2]
      · simp [h1, h2]
theorem strLe_iff {x y : Str} : strLe x y = true ↔ ¬ y.cps.toList < x.cps.toList := by
  unfold strLe
  rw [ltCps_eq]
  simp
theorem sorted_asc {l : List Str} (h : l.Nodup) : asc (l.mergeSort strLe) := by
  have h1 : (l.mergeSort strLe).Pairwise (fun x y => strLe x y = true) := List.pairwise_mergeSort (le := strLe) (fun a b c h1 h2 => by
    rw [strLe_iff] at *
    exact List.not_lt.mpr (List.le_trans (List.not_lt.mp h1) (List.not_lt.mp h2))) (fun a b => by
    by_cases h : strLe a b = true
    · simp [h]
    · have h2 : b.cps.toList < a.cps.toList := Classical.byContradiction fun h3 => h (strLe_iff.mpr h3)
      have h3 : strLe b a = true := strLe_iff.mpr (List.lt_asymm h2)
      simp [h3]) l
  have h2 : (l.mergeSort strLe).Nodup := (List.mergeSort_perm l strLe).nodup_iff.mpr h
  unfold asc
  have h3 := h1.and h2
  refine h3.imp fun {x y} hxy => ?_
  obtain ⟨h4, h5⟩ := hxy
  rw [strLe_iff] at h4
  have h6 := List.not_lt.mp h4
  rcases List.le_iff_lt_or_eq.mp h6 with h7 | h7
  · exact h7
  · exfalso
    apply h5
    cases x
    cases y
    congr
    exact Array.toList_inj.mp h7
theorem sorted_strs {l : List Str} (hl : l.length < 64) : bltD "sorted" [.list (l.map PyData.str)] = some (.fresh ((l.mergeSort strLe).map PyData.str)) := by
  rw [t_sorted, if_pos (by simpa using hl)]
  cases l with
  | nil => simp [ints?]
  | cons x r =>
    have e : ints? ((x :: r).map PyData.str) = none := rfl
    rw [e]
    simp only [strs_map (x :: r) (fun x => x), List.map_id', Option.map_some]
theorem mod_pos (x : Int) : 0 ≤ x % 2147483489 ∧ x % 2147483489 < 2147483489 := ⟨Int.emod_nonneg _ (by decide), Int.emod_lt_of_pos _ (by decide)⟩
theorem pow1015 : (10 : Int) ^ (15 : Int).toNat = 1000000000000000 := by decide +kernel
/-! ### the plain law of strains -/
theorem along_app {f : Str → Tr} : ∀ {r s : List Str} {x : Rat}, along f (r ++ s) x = along f r x ++ along f s (left f r x)
  | [], _, _ => rfl
  | n :: r, s, x => by
    show _ :: along f (r ++ s) _ = _ :: (along f r _ ++ _)
    rw [along_app]
    rfl
theorem foldl_max {x y : Rat} {l : List Rat} : (maxR x y :: l).foldl maxR x = (y :: l).foldl maxR x := by
  simp only [List.foldl_cons]
  congr 1
  unfold maxR
  grind
theorem foldl_maxR {l : List Rat} : ∀ {x y : Rat}, l.foldl maxR (maxR x y) = maxR x (l.foldl maxR y) := by
  induction l with
  | nil => intro x y; rfl
  | cons z l ih =>
    intro x y
    simp only [List.foldl_cons]
    rw [show maxR (maxR x y) z = maxR x (maxR y z) by unfold maxR; grind]
    exact ih
theorem great_app {l m : List Rat} (hl : l ≠ []) (hm : m ≠ []) : great (l ++ m) = maxR (great l) (great m) := by
  cases l with
  | nil => exact absurd rfl hl
  | cons x l =>
    cases m with
    | nil => exact absurd rfl hm
    | cons y m =>
      show (l ++ y :: m).foldl maxR x = maxR (l.foldl maxR x) (m.foldl maxR y)
      rw [List.foldl_append, List.foldl_cons, foldl_maxR]
theorem great_mem : ∀ {l : List Rat}, l ≠ [] → great l ∈ l
  | [], h => absurd rfl h
  | x :: l, _ => by
    show l.foldl maxR x ∈ x :: l
    have key : ∀ (l : List Rat) (x : Rat), l.foldl maxR x ∈ x :: l := by
      intro l
      induction l with
      | nil => intro x; exact .head _
      | cons y l ih =>
        intro x
        have h := ih (maxR x y)
        simp only [List.foldl_cons]
        rcases List.mem_cons.mp h with h | h
        · rw [h]
          unfold maxR
          split
          · exact .tail _ (.head _)
          · exact .head _
        · exact .tail _ (.tail _ h)
    exact key l x
theorem le_great : ∀ {l : List Rat} {y : Rat}, y ∈ l → y ≤ great l
  | x :: l, y, hy => by
    show y ≤ l.foldl maxR x
    have key : ∀ (l : List Rat) (x y : Rat), y ∈ x :: l → y ≤ l.foldl maxR x := by
      intro l
      induction l with
      | nil =>
        intro x y hy
        rw [List.mem_singleton.mp hy]
        exact Rat.le_refl
      | cons z l ih =>
        intro x y hy
        simp only [List.foldl_cons]
        have hm1 : x ≤ maxR x z ∧ z ≤ maxR x z := by unfold maxR; grind
        have h1 := ih (maxR x z) (maxR x z) (.head _)
        rcases List.mem_cons.mp hy with rfl | hy
        · grind
        · rcases List.mem_cons.mp hy with rfl | hy
          · grind
          · exact ih (maxR x z) y (.tail _ hy)
    exact key l x y hy
theorem Tr.Ok.keep {t : Tr} (h : t.Ok) : (0 : Rat) < (t.k : Rat) / (t.s : Rat) := by
  have h1 := int_pos (show 0 < t.k by have := h.k1; omega)
  have h2 := int_pos (show 0 < t.s by have := h.s2; omega)
  rw [Rat.div_def]
  exact Rat.mul_pos h1 (Rat.inv_pos.mpr h2)
theorem Tr.Ok.add {t : Tr} (h : t.Ok) : (0 : Rat) ≤ (t.a : Rat) := Rat.intCast_nonneg.mpr h.a0
theorem ap_lt {t : Tr} (h : t.Ok) {x y : Rat} (hxy : x < y) : t.ap x < t.ap y := by
  have h1 := h.keep
  have h2 := Rat.mul_lt_mul_of_pos_left hxy h1
  unfold Tr.ap
  grind
theorem ap_nonneg {t : Tr} (h : t.Ok) {x : Rat} (hx : 0 ≤ x) : 0 ≤ t.ap x := by
  have h1 := Rat.mul_nonneg (Rat.le_of_lt h.keep) hx
  have h2 := h.add
  unfold Tr.ap
  grind
theorem left_nonneg {f : Str → Tr} (hf : ∀ n, (f n).Ok) : ∀ {row : List Str} {x : Rat}, 0 ≤ x → 0 ≤ left f row x
  | [], _, h => h
  | n :: r, x, h => left_nonneg hf (row := r) (ap_nonneg (hf n) h)
theorem left_fz {f : Str → Tr} (hf : ∀ n, (f n).Ok) : ∀ {row : List Str} {x : Rat} {B : Nat}, Fz B x → Fz (B + 14 * row.length) (left f row x)
  | [], _, _, h => h
  | n :: r, x, B, h => (left_fz hf (row := r) (fz_ap' (hf n) h)).mono (by simp only [List.length_cons]; omega)
/-- each load of the one is below one of the other -/
theorem along_lt {f : Str → Tr} (hf : ∀ n, (f n).Ok) : ∀ {row : List Str} {x y : Rat}, x < y → ∀ z ∈ along f row x, ∃ w ∈ along f row y, z < w
  | [], _, _, _, z, hz => by cases hz
  | n :: r, x, y, h, z, hz => by
    have h1 := ap_lt (hf n) h
    simp only [along, List.mem_cons] at hz
    rcases hz with rfl | hz
    · exact ⟨_, .head _, h1⟩
    · obtain ⟨w, hw, hlt⟩ := along_lt hf h1 z hz
      exact ⟨w, .tail _ hw, hlt⟩
theorem along_ne {f : Str → Tr} {row : List Str} {x : Rat} (h : row ≠ []) : along f row x ≠ [] := fun e => h (by
  have := along_len f row x
  rw [e] at this
  exact List.length_eq_zero_iff.mp this.symm)
theorem strain_lt {f : Str → Tr} (hf : ∀ n, (f n).Ok) {row : List Str} (hr : row ≠ []) {x y : Rat} (h : x < y) : great (along f row x) < great (along f row y) := by
  obtain ⟨w, hw, hlt⟩ := along_lt hf h _ (great_mem (along_ne (f := f) (x := x) hr))
  have := le_great hw
  grind
theorem great_fz {l : List Rat} {B : Nat} (hl : l ≠ []) (h : ∀ y ∈ l, Fz B y) : Fz B (great l) := h _ (great_mem hl)
theorem repr_same {n m : Nat} {d : D} (h : Rp n m d) (hn : n ≤ 16000000) (hm : m ≤ 60) (hs : isSeqD d = true) : bltD "repr" [d] = some (.dat (.str d.shown)) ∧ SeqAt.shaped (.str d.shown) = true ∧ PyData.eqv (.str d.shown) (.str d.shown) = true :=
  ⟨repr_of h hn hm hs, shaped_shown h, by rw [eqv_str]; exact decide_eq_true rfl⟩
theorem RowOk.ne {b : Bk} {row : List Str} {m : Nat} (h : RowOk b row m) : row ≠ [] := fun e => by
  have := h.r1
  rw [e] at this
  simp at this
theorem RowOk.mono {b : Bk} {row : List Str} {m n : Nat} (h : RowOk b row m) (hn : m ≤ n) : RowOk b row n := ⟨h.r1, Nat.le_trans h.rm hn, h.rn⟩
theorem RowOk.app {b : Bk} {r s : List Str} {m n : Nat} (h : RowOk b r m) (h2 : RowOk b s n) : RowOk b (r ++ s) (m + n) :=
  ⟨by rw [List.length_append]; have := h.r1; omega, by rw [List.length_append]; have := h.rm; have := h2.rm; omega, fun x hx => by
    rcases List.mem_append.mp hx with hx | hx
    · exact h.rn x hx
    · exact h2.rn x hx⟩
theorem mulB {i j : Int} {A B : Nat} (h1 : i.natAbs < 2 ^ A) (h2 : j.natAbs < 2 ^ B) : (i * j).natAbs < 2 ^ (A + B) := by
  rw [Int.natAbs_mul, Nat.pow_add]
  exact Nat.mul_lt_mul'' h1 h2
theorem addB {i j : Int} {A : Nat} (h1 : i.natAbs < 2 ^ A) (h2 : j.natAbs < 2 ^ A) : (i + j).natAbs < 2 ^ (A + 1) := by
  have := Int.natAbs_add_le i j
  rw [Nat.pow_succ]
  omega
theorem subB {i j : Int} {A : Nat} (h1 : i.natAbs < 2 ^ A) (h2 : j.natAbs < 2 ^ A) : (i - j).natAbs < 2 ^ (A + 1) := by
  have := Int.natAbs_sub_le i j
  rw [Nat.pow_succ]
  omega
theorem denB {a b : Rat} {A B : Nat} (ha : Fz A a) (hb : Fz B b) : ((a.den : Int) * b.den).natAbs < 2 ^ (A + B) := mulB ha.2 hb.2
theorem den_mul_pos (a b : Rat) : (0 : Int) < (a.den : Int) * b.den := Int.mul_pos (den_pos a) (den_pos b)
theorem sub_low (a b : Rat) : ((a.num * b.den - b.num * a.den : Int) : Rat) / (((a.den : Int) * b.den : Int) : Rat) = a - b := by
  have h1 := den_ne a
  have h2 := den_ne b
  have h3 := num_eq a
  have h4 := num_eq b
  simp only [Rat.intCast_sub, Rat.intCast_mul]
  rw [h3, h4]
  grind
theorem add_low (a b : Rat) : ((a.num * b.den + b.num * a.den : Int) : Rat) / (((a.den : Int) * b.den : Int) : Rat) = a + b := by
  have h1 := den_ne a
  have h2 := den_ne b
  have h3 := num_eq a
  have h4 := num_eq b
  simp only [Rat.intCast_add, Rat.intCast_mul]
  rw [h3, h4]
  grind
theorem mul_low (a b : Rat) : ((a.num * b.num : Int) : Rat) / (((a.den : Int) * b.den : Int) : Rat) = a * b := by
  have h1 := den_ne a
  have h2 := den_ne b
  have h3 := num_eq a
  have h4 := num_eq b
  simp only [Rat.intCast_mul]
  rw [h3, h4]
  grind
theorem div_low {a b : Rat} (hb : b ≠ 0) : ((a.num * b.den : Int) : Rat) / (((a.den : Int) * b.num : Int) : Rat) = a / b := by
  have h1 := den_ne a
  have h2 := den_ne b
  have h3 := num_eq a
  have h4 := num_eq b
  simp only [Rat.intCast_mul]
  rw [h3, h4]
  grind
theorem div_low' {a b : Rat} (hb : b ≠ 0) : ((0 - a.num * b.den : Int) : Rat) / ((0 - (a.den : Int) * b.num : Int) : Rat) = a / b := by
  have h := div_low (a := a) hb
  simp only [Rat.intCast_sub, Rat.intCast_mul, Rat.intCast_zero] at *
  grind
theorem fz_sub {a b : Rat} {A B : Nat} (ha : Fz A a) (hb : Fz B b) : Fz (A + B + 1) (a - b) := by
  rw [← sub_low]
  refine fz_low (den_mul_pos a b) (subB (mulB ha.1 hb.2) ?_) (Nat.lt_of_lt_of_le (denB ha hb) (Nat.pow_le_pow_right (by decide) (by omega)))
  rw [Nat.add_comm]
  exact mulB hb.1 ha.2
theorem fz_add {a b : Rat} {A B : Nat} (ha : Fz A a) (hb : Fz B b) : Fz (A + B + 1) (a + b) := by
  rw [← add_low]
  refine fz_low (den_mul_pos a b) (addB (mulB ha.1 hb.2) ?_) (Nat.lt_of_lt_of_le (denB ha hb) (Nat.pow_le_pow_right (by decide) (by omega)))
  rw [Nat.add_comm]
  exact mulB hb.1 ha.2
theorem fz_mul {a b : Rat} {A B : Nat} (ha : Fz A a) (hb : Fz B b) : Fz (A + B) (a * b) := by
  rw [← mul_low]
  exact fz_low (den_mul_pos a b) (mulB ha.1 hb.1) (denB ha hb)
theorem num_pos {b : Rat} (h : 0 < b) : 0 < b.num := by
  have h1 := (lt_iff 0 b).mp h
  simpa using h1
theorem fz_div {a b : Rat} {A B : Nat} (ha : Fz A a) (hb : Fz B b) (h : 0 < b) : Fz (A + B) (a / b) := by
  rw [← div_low (by grind)]
  exact fz_low (Int.mul_pos (den_pos a) (num_pos h)) (mulB ha.1 hb.2) (mulB ha.2 hb.1)
theorem minus (k : Nat) (a b : Rat) {A B : Nat} (ha : Fz A a) (hb : Fz B b) (h : A + B ≤ 8000) : call G (k + 2) (.glob "minus") [.dat (fr a), .dat (fr b)] = .ok (.dat (fr (a - b))) [.dat (fr a), .dat (fr b)] := by
  rw [← ResW_eq]
  refine run_glob g_minus rfl (by decide) ?_
  have h1 : mulOk a.num b.den = true := mulOk_of ha.1 hb.2 (by omega)
  have h2 : mulOk b.num a.den = true := mulOk_of hb.1 ha.2 (by omega)
  have h3 : mulOk a.den b.den = true := mulOk_of ha.2 hb.2 (by omega)
  have e := lowest k (a.num * b.den - b.num * a.den) ((a.den : Int) * b.den) (den_mul_pos a b) (denB ha hb) (by omega)
  rw [sub_low] at e
  simp -dsimp -implicitDefEqProofs [f_minus, h1, h2, h3, e]
theorem times (k : Nat) (a b : Rat) {A B : Nat} (ha : Fz A a) (hb : Fz B b) (h : A + B ≤ 8000) : call G (k + 2) (.glob "times") [.dat (fr a), .dat (fr b)] = .ok (.dat (fr (a * b))) [.dat (fr a), .dat (fr b)] := by
  rw [← ResW_eq]
  refine run_glob g_times rfl (by decide) ?_
  have h1 : mulOk a.num b.num = true := mulOk_of ha.1 hb.1 (by omega)
  have h3 : mulOk a.den b.den = true := mulOk_of ha.2 hb.2 (by omega)
  have e := lowest k (a.num * b.num) ((a.den : Int) * b.den) (den_mul_pos a b) (denB ha hb) (by omega)
  rw [mul_low] at e
  simp -dsimp -implicitDefEqProofs [f_times, h1, h3, e]
theorem divided (k : Nat) (a b : Rat) {A B : Nat} (ha : Fz A a) (hb : Fz B b) (h : A + B ≤ 8000) (hb0 : b ≠ 0) : call G (k + 2) (.glob "divided") [.dat (fr a), .dat (fr b)] = .ok (.dat (fr (a / b))) [.dat (fr a), .dat (fr b)] := by
  rw [← ResW_eq]
  refine run_glob g_divided rfl (by decide) ?_
  have h1 : mulOk a.num b.den = true := mulOk_of ha.1 hb.2 (by omega)
  have h2 : mulOk a.den b.num = true := mulOk_of ha.2 hb.1 (by omega)
  have hz : ((a.den : Int) * b.num).natAbs < 2 ^ (A + B) := mulB ha.2 hb.1
  have h0 : (a.den : Int) * b.num ≠ 0 := by
    intro e
    rcases Int.mul_eq_zero.mp e with e | e
    · have := den_pos a
      omega
    · exact hb0 (Rat.num_eq_zero.mp e)
  by_cases hs : 0 < (a.den : Int) * b.num
  · have e := lowest k (a.num * b.den) ((a.den : Int) * b.num) hs hz (by omega)
    rw [div_low hb0] at e
    simp -dsimp -implicitDefEqProofs [f_divided, h1, h2, hs, e]
  · have e := lowest k (0 - a.num * b.den) (0 - (a.den : Int) * b.num) (by omega) (B := A + B) (by omega) (by omega)
    rw [div_low' hb0] at e
    simp -dsimp -implicitDefEqProofs [f_divided, h1, h2, hs, -Int.zero_sub, e]
/-- the least one of a list -/
def least (l : List Rat) : Rat := match l with
  | [] => 0
  | x :: r => r.foldl minR x
theorem minR_self (x : Rat) : minR x x = x := by
  unfold minR
  split <;> rfl
theorem fz_minR {B : Nat} {x y : Rat} (h1 : Fz B x) (h2 : Fz B y) : Fz B (minR x y) := by
  unfold minR
  split <;> assumption
/-! ### works -/
structure WorksOk (b : Bk) (ws : List (List Str)) (m q : Nat) : Prop where
  w1 : 1 ≤ ws.length
  wm : ws.length ≤ m
  wr : ∀ r ∈ ws, RowOk b r q
theorem Sh.encR {n : Nat} {row : List Str} (h : ∀ x ∈ row, NameOk x) : Sh (n + 1) (encR row) := Sh.tup fun d hd => by
  obtain ⟨p, hp, rfl⟩ := List.mem_map.mp hd
  exact Sh.name (h p hp)
theorem RowOk.names {b : Bk} (hb : b.Ok) {row : List Str} {m : Nat} (h : RowOk b row m) : ∀ x ∈ row, NameOk x := fun x hx => names_ok hb x (h.rn x hx)
theorem wrong_works (k : Nat) (b : Bk) (hb : b.Ok) (ws : List (List Str)) (hw : WorksOk b ws 6 6) :
    call G (k + 9) (.glob "wrong_works") [.dat (.list ((b.deeds.map (·.1)).map PyData.str)), .dat (encW ws)] = .ok (.dat (.list [])) [.dat (.list ((b.deeds.map (·.1)).map PyData.str)), .dat (encW ws)] := by
  rw [← ResW_eq]
  refine run_glob g_wrong_works rfl (by decide) ?_
  obtain ⟨w1, wm, wr⟩ := hw
  cases ws with
  | nil => simp at w1
  | cons d r =>
    have e := wrong_from_one (k + 6) (.clo 6 [.dat (.list ((b.deeds.map (·.1)).map PyData.str))]) (encR d) (r.map encR) (some 6) (fun _ => true) ((Sh.tup (n := 1) fun x hx => by
        obtain ⟨p, hp, rfl⟩ := List.mem_map.mp (show x ∈ (d :: r).map encR from hx)
        exact Sh.encR ((wr p hp).names hb)).sh (by omega)) (fun i e hi _ => by
      obtain ⟨n, hnr, rfl⟩ := List.mem_map.mp (List.mem_of_getElem? (show ((d :: r).map encR)[i]? = some e from hi))
      rw [← ResW_eq]
      refine run_clo rfl rfl rfl (by decide) rfl ?_
      have e := wrong_row k (b.deeds.map (·.1)) n 6 (names_ok hb) (wr n hnr).rn (wr n hnr).r1 (by have := (wr n hnr).rm; omega)
      have e2 : PyData.eqv (.list []) (.list []) = true := rfl
      rw [List.map_map] at e
      simp only [encR]
      simp -dsimp -implicitDefEqProofs [l_6, e, e2])
    have e2 : firstBad (some 6) (fun _ => true) ((r.map encR).length + 1) 0 = [] := firstBad_none _ _ (fun _ _ _ => rfl) (fun q hq => by
      cases hq
      simp only [List.length_cons, List.length_map] at wm ⊢
      omega)
    rw [e2] at e
    simp only [oi] at e
    simp only [encW, List.map_cons]
    simp only [List.map_map, Function.comp_def] at e ⊢
    simp -dsimp -implicitDefEqProofs [f_wrong_works, e]
theorem check_works_of (k : Nat) (b : Bk) (hb : b.Ok) (ws : List (List Str)) (hw : WorksOk b ws 6 6) : call G (k + 10) (.glob "check_works_of") [.dat (encB b), .dat (encW ws)] = .ok (.dat .none) [.dat (encB b), .dat (encW ws)] := by
  rw [← ResW_eq]
  refine run_glob g_check_works_of rfl (by decide) ?_
  have e1 := deed_names (k + 8) b hb
  have e2 := wrong_works k b hb ws hw
  rw [List.map_map] at e2
  simp only [Function.comp_def] at e2
  simp -dsimp -implicitDefEqProofs [f_check_works_of, e1, e2, forLoop]
theorem check_works (k : Nat) (b : Bk) (hb : b.Ok) (ws : List (List Str)) (hw : WorksOk b ws 6 6) : call G (k + 12) (.glob "check_works") [.dat (encB b), .dat (encW ws)] = .ok (.dat .none) [.dat (encB b), .dat (encW ws)] := by
  rw [← ResW_eq]
  refine run_glob g_check_works rfl (by decide) ?_
  have e1 := check_book k b hb
  have e2 := check_works_of (k + 1) b hb ws hw
  simp -dsimp -implicitDefEqProofs [f_check_works, e1, e2]
/-! ### effects, standing loads -/
def keepR (f : Str → Tr) : List Str → Rat
  | [] => 1
  | n :: r => keepR f r * ((f n).k / (f n).s)
def addR (f : Str → Tr) (row : List Str) : Rat := left f row 0
theorem left_eq {f : Str → Tr} : ∀ {row : List Str} {x : Rat}, left f row x = keepR f row * x + addR f row
  | [], x => by simp only [left, keepR, addR]; grind
  | n :: r, x => by
    have h1 := left_eq (f := f) (row := r) (x := (f n).ap x)
    have h2 := left_eq (f := f) (row := r) (x := (f n).ap 0)
    simp only [left, addR, keepR] at *
    rw [h1, h2]
    unfold Tr.ap
    grind
theorem Tr.Ok.keep1 {t : Tr} (h : t.Ok) : (t.k : Rat) / (t.s : Rat) < 1 := by
  have h2 := int_pos (show 0 < t.s by have := h.s2; omega)
  have h3 : (t.k : Rat) < (t.s : Rat) := Rat.intCast_lt_intCast.mpr (by have := h.ks; omega)
  have h4 := Rat.mul_lt_mul_of_pos_left h3 (Rat.inv_pos.mpr h2)
  rw [Rat.div_def]
  grind
theorem keepR_pos {f : Str → Tr} (hf : ∀ n, (f n).Ok) : ∀ {row : List Str}, 0 < keepR f row
  | [] => by simp only [keepR]; grind
  | n :: r => Rat.mul_pos (keepR_pos hf) (hf n).keep
theorem keepR_le {f : Str → Tr} (hf : ∀ n, (f n).Ok) : ∀ {row : List Str}, keepR f row ≤ 1
  | [] => by simp only [keepR]; grind
  | n :: r => by
    have h1 := keepR_le hf (row := r)
    have h2 := (hf n).keep1
    have h3 := (hf n).keep
    have h4 := Rat.mul_le_mul_of_nonneg_right h1 (Rat.le_of_lt h3)
    simp only [keepR]
    grind
theorem keepR_lt {f : Str → Tr} (hf : ∀ n, (f n).Ok) {row : List Str} (hr : row ≠ []) : keepR f row < 1 := by
  cases row with
  | nil => exact absurd rfl hr
  | cons n r =>
    have h1 := keepR_le hf (row := r)
    have h2 := (hf n).keep1
    have h3 := (hf n).keep
    have h4 := Rat.mul_le_mul_of_nonneg_right h1 (Rat.le_of_lt h3)
    simp only [keepR]
    grind
theorem fz_ks {t : Tr} (h : t.Ok) : Fz 4 ((t.k : Rat) / (t.s : Rat)) := by
  have h1 := h.k1
  have h2 := h.ks
  have h3 := h.s12
  exact fz_low (by omega) (by omega) (by omega)
theorem fz_keepR {f : Str → Tr} (hf : ∀ n, (f n).Ok) : ∀ {row : List Str}, Fz (4 * row.length + 1) (keepR f row)
  | [] => show Fz 1 1 from ⟨by decide, by decide⟩
  | n :: r => (fz_mul (fz_keepR hf (row := r)) (fz_ks (hf n))).mono (by simp only [List.length_cons]; omega)
theorem fz_0 : Fz 1 0 := ⟨by decide, by decide⟩
theorem fz_1 : Fz 1 1 := ⟨by decide, by decide⟩
theorem fz_addR {f : Str → Tr} (hf : ∀ n, (f n).Ok) {row : List Str} : Fz (14 * row.length + 1) (addR f row) := (left_fz hf fz_0).mono (by omega)
/-- the load that a row leaves as it is -/
def stand (f : Str → Tr) (row : List Str) : Rat := addR f row / (1 - keepR f row)
theorem fz_stand {f : Str → Tr} (hf : ∀ n, (f n).Ok) {row : List Str} (hr : row ≠ []) : Fz (18 * row.length + 4) (stand f row) := by
  have h := keepR_lt hf hr
  exact (fz_div (fz_addR hf) (fz_sub fz_1 (fz_keepR hf)) (by grind)).mono (by omega)
theorem stand_eq {f : Str → Tr} (hf : ∀ n, (f n).Ok) {row : List Str} (hr : row ≠ []) : left f row (stand f row) = stand f row := by
  have h := keepR_lt hf hr
  have h2 : 1 - keepR f row ≠ 0 := by grind
  rw [left_eq]
  unfold stand
  grind
theorem stand_nonneg {f : Str → Tr} (hf : ∀ n, (f n).Ok) {row : List Str} (hr : row ≠ []) : 0 ≤ stand f row := by
  have h := keepR_lt hf hr
  have h2 : 0 ≤ addR f row := left_nonneg hf Rat.le_refl
  unfold stand
  rw [Rat.div_def]
  exact Rat.mul_nonneg h2 (Rat.le_of_lt (Rat.inv_pos.mpr (by grind)))
/-- a load rises by a row just if it is below the standing load -/
theorem rises_iff {f : Str → Tr} (hf : ∀ n, (f n).Ok) {row : List Str} (hr : row ≠ []) {x : Rat} : x < left f row x ↔ x < stand f row := by
  have h := keepR_lt hf hr
  have h3 : left f row x - x = (1 - keepR f row) * (stand f row - x) := by
    have h2 : 1 - keepR f row ≠ 0 := by grind
    rw [left_eq]
    unfold stand
    grind
  have h4 : 0 < 1 - keepR f row := by grind
  constructor
  · intro h5
    apply Classical.byContradiction
    intro h6
    have h7 : stand f row - x ≤ 0 := by grind
    have h8 := Rat.mul_le_mul_of_nonneg_left h7 (Rat.le_of_lt h4)
    grind
  · intro h5
    have h7 : 0 < stand f row - x := by grind
    have h8 := Rat.mul_pos h4 h7
    grind
theorem left_le {f : Str → Tr} (hf : ∀ n, (f n).Ok) {row : List Str} {x y : Rat} (h : x ≤ y) : left f row x ≤ left f row y := by
  have h1 := Rat.mul_le_mul_of_nonneg_left h (Rat.le_of_lt (keepR_pos hf (row := row)))
  rw [left_eq, left_eq (x := y)]
  grind
theorem left_of (k : Nat) (b : Bk) (h : b.Ok) (at_ : Nat) (ha : at_ < b.parts.length) (row : List Str) {m : Nat} (hr : RowOk b row m) (x : Rat) {B : Nat} (hx : Fz B x) (hB : B + 14 * row.length ≤ 7000) :
    call G (k + 4) (.glob "left_of") [.dat (encB b), .dat (encR row), .dat (.str (b.parts[at_]).1), .dat (fr x)] = .ok (.dat (fr (left (b.tr at_) row x))) [.dat (encB b), .dat (encR row), .dat (.str (b.parts[at_]).1), .dat (fr x)] := by
  rw [← ResW_eq]
  refine run_glob g_left_of rfl (by decide) ?_
  have e1 := along_of k b h at_ ha row hr.rn x hx hB
  have e2 := along_last (f := b.tr at_) (x := x) hr.ne
  simp only [encR]
  simp -dsimp -implicitDefEqProofs [f_left_of, e1, atI_last, e2]
theorem effect_of (k : Nat) (b : Bk) (h : b.Ok) (at_ : Nat) (ha : at_ < b.parts.length) (row : List Str) {m : Nat} (hr : RowOk b row m) (hm : row.length ≤ 300) :
    call G (k + 5) (.glob "effect_of") [.dat (encB b), .dat (encR row), .dat (.str (b.parts[at_]).1)] = .ok (.dat (.tuple [fr (keepR (b.tr at_) row), fr (addR (b.tr at_) row)])) [.dat (encB b), .dat (encR row), .dat (.str (b.parts[at_]).1)] := by
  rw [← ResW_eq]
  refine run_glob g_effect_of rfl (by decide) ?_
  have e := triples_of (k + 2) b h at_ ha
  simp -dsimp -implicitDefEqProofs [f_effect_of, e]
  have hkm : ∀ (l : List Str) (q : Rat) (n : Str), keepR (b.tr at_) l * ((b.tr at_ n).k / (b.tr at_ n).s) * q = keepR (b.tr at_) l * (q * ((b.tr at_ n).k / (b.tr at_ n).s)) := fun l q n => by grind
  obtain ⟨I, hI⟩ : ∃ I : List D → Ev.Env → Prop, ∀ items ρ, I items ρ ↔ ∃ (rest : List Str) (q : Rat) (j : Nat) (z6 z7 z8 z9 : Option SV), items = rest.map PyData.str ∧ ρ = [some (.dat (encB b)), some (.dat (encR row)), some (.dat (.str (b.parts[at_]).1)), some (.dat (fr q)), some (.dat (dictT b at_)), z6, z7, z8, z9] ∧ isPar (some z6) = false ∧ isPar (some z7) = false ∧ isPar (some z8) = false ∧ isPar (some z9) = false ∧ keepR (b.tr at_) rest * q = keepR (b.tr at_) row ∧ (∀ n ∈ rest, n ∈ b.deeds.map (·.1)) ∧ Fz (4 * j + 1) q ∧ j + rest.length = row.length := ⟨_, fun _ _ => Iff.rfl⟩
  refine FlW_for (I := I) (fun d ds ρ hi => ?_) (fun ρ hi => ?_) _ _ ((hI _ _).mpr ⟨row, 1, 0, none, none, none, none, rfl, rfl, rfl, rfl, rfl, rfl, by grind, hr.rn, fz_1, by omega⟩)
  · obtain ⟨rest, q, j, z6, z7, z8, z9, h1, rfl, hz6, hz7, hz8, hz9, h2, h3, h4, h5⟩ := (hI _ _).mp hi
    cases rest with
    | nil => cases h1
    | cons n rest =>
      simp only [List.map_cons, List.cons.injEq] at h1
      obtain ⟨rfl, rfl⟩ := h1
      simp only [List.length_cons] at h5
      have e1 := dictT_at h at_ (h3 n (.head _))
      have ht := tr_ok h at_ n
      have e2 := lowest (k + 3) (b.tr at_ n).k (b.tr at_ n).s (by have := ht.s2; omega) (B := 4) (by have := ht.s2; have := ht.s12; omega) (by omega)
      have e3 := times (k + 2) q ((b.tr at_ n).k / (b.tr at_ n).s) h4 (fz_ks ht) (by omega)
      simp -dsimp -implicitDefEqProofs [hz6, hz7, hz8, hz9, e1, e2, e3]
      refine (hI _ _).mpr ⟨rest, q * ((b.tr at_ n).k / (b.tr at_ n).s), j + 1, _, _, _, _, rfl, rfl, rfl, rfl, rfl, rfl, ?_, fun m hm => h3 m (.tail _ hm), (fz_mul h4 (fz_ks ht)).mono (by omega), by omega⟩
      rw [← h2]
      simp only [keepR]
      exact (hkm rest q n).symm
  · obtain ⟨rest, q, j, z6, z7, z8, z9, h1, rfl, hz6, hz7, hz8, hz9, h2, h3, h4, h5⟩ := (hI _ _).mp hi
    cases rest with
    | cons n rest => cases h1
    | nil =>
      have e1 := left_of k b h at_ ha row hr 0 fz_0 (by omega)
      have hq : q = keepR (b.tr at_) row := by
        rw [← h2]
        simp only [keepR]
        grind
      subst hq
      simp -dsimp -implicitDefEqProofs [enc_nought, e1]
      rfl
theorem standing_of (k : Nat) (b : Bk) (h : b.Ok) (at_ : Nat) (ha : at_ < b.parts.length) (row : List Str) {m : Nat} (hr : RowOk b row m) (hm : row.length ≤ 200) :
    call G (k + 6) (.glob "standing_of") [.dat (encB b), .dat (encR row), .dat (.str (b.parts[at_]).1)] = .ok (.dat (fr (stand (b.tr at_) row))) [.dat (encB b), .dat (encR row), .dat (.str (b.parts[at_]).1)] := by
  rw [← ResW_eq]
  refine run_glob g_standing_of rfl (by decide) ?_
  have hf := tr_ok h at_
  have hk := keepR_lt hf hr.ne
  have e1 := effect_of k b h at_ ha row hr (by omega)
  have e2 := minus (k + 3) 1 (keepR (b.tr at_) row) fz_1 (fz_keepR hf) (by omega)
  have e3 := divided (k + 3) (addR (b.tr at_) row) (1 - keepR (b.tr at_) row) (fz_addR hf) (fz_sub fz_1 (fz_keepR hf)) (by omega) (by grind)
  simp -dsimp -implicitDefEqProofs [f_standing_of, e1, e2, e3, enc_whole]
  rfl
theorem standings_of (k : Nat) (b : Bk) (h : b.Ok) (at_ : Nat) (ha : at_ < b.parts.length) (ws : List (List Str)) {m q : Nat} (hw : WorksOk b ws m q) (hm : m ≤ 1000) (hq : q ≤ 200) :
    call G (k + 7) (.glob "standings_of") [.dat (encB b), .dat (encW ws), .dat (.str (b.parts[at_]).1)] = .ok (.fresh ((ws.map (stand (b.tr at_))).map fr)) [.dat (encB b), .dat (encW ws), .dat (.str (b.parts[at_]).1)] := by
  rw [← ResW_eq]
  refine run_glob g_standings_of rfl (by decide) ?_
  simp -dsimp -implicitDefEqProofs [f_standings_of]
  have hl : ws.length ≤ 10000 := by have := hw.wm; omega
  refine OutW_map' (l := ws) (e := encR) (g := fun r => fr (stand (b.tr at_) r)) (fun r hr => ?_) ?_
  · have e := standing_of k b h at_ ha r (hw.wr r hr) (by have := (hw.wr r hr).rm; omega)
    simp -dsimp -implicitDefEqProofs [e]
  · simp -dsimp -implicitDefEqProofs [hl, Function.comp_def]
theorem eqv_list_nil (l : List D) : PyData.eqv (.list l) (.list []) = l.isEmpty := by
  cases l <;> simp [PyData.eqv, PyData.eqvAll]
theorem eqv_bool (a b : Bool) : PyData.eqv (.bool a) (.bool b) = (a == b) := by simp [PyData.eqv]
theorem frs_sh {l : List Rat} : SeqAt.shaped (.list (l.map fr)) = true := (Sh.lst (n := 1) fun d hd => by
  obtain ⟨r, _, rfl⟩ := List.mem_map.mp hd
  exact Sh.fr).sh (by omega)
theorem frt_sh {l : List Rat} : SeqAt.shaped (.tuple (l.map fr)) = true := (Sh.tup (n := 1) fun d hd => by
  obtain ⟨r, _, rfl⟩ := List.mem_map.mp hd
  exact Sh.fr).sh (by omega)
theorem rows_sh {b : Bk} (hb : b.Ok) {l : List (List Str)} (h : ∀ r ∈ l, ∀ x ∈ r, x ∈ b.deeds.map (·.1)) : SeqAt.shaped (.list (l.map encR)) = true := (Sh.lst (n := 1) fun d hd => by
  obtain ⟨r, hr, rfl⟩ := List.mem_map.mp hd
  exact Sh.encR fun x hx => names_ok hb x (h r hr x hx)).sh (by omega)
theorem filterMap_if {α β : Type} (l : List α) (p : α → Bool) (f : α → β) : (l.filterMap fun x => if p x = true then some (f x) else none) = (l.filter p).map f := by
  induction l with
  | nil => rfl
  | cons x r ih =>
    by_cases h : p x = true
    · simp [h, ih]
    · simp [h, ih]
theorem filter_nil {α : Type} (l : List α) (p : α → Bool) : (l.filter p).isEmpty = !l.any p := by
  induction l with
  | nil => rfl
  | cons x r ih =>
    cases h : p x <;> simp [h, ih]
theorem greatest_of' (k : Nat) (l : List Rat) (hl : l ≠ []) {B : Nat} (hf : ∀ y ∈ l, Fz B y) (hB : B < 9000) : call G (k + 3) (.glob "greatest_of") [.dat (.list (l.map fr))] = .ok (.dat (fr (great l))) [.dat (.list (l.map fr))] := by
  cases l with
  | nil => exact absurd rfl hl
  | cons x r => exact greatest_of k x r hf hB
/-! ### loads -/
structure LoadsOk (b : Bk) (xs : List Rat) (B : Nat) : Prop where
  ll : xs.length = b.parts.length
  l0 : ∀ x ∈ xs, 0 ≤ x
  lf : ∀ x ∈ xs, Fz B x
theorem LoadsOk.mono {b : Bk} {xs : List Rat} {B C : Nat} (h : LoadsOk b xs B) (hc : B ≤ C) : LoadsOk b xs C := ⟨h.ll, h.l0, fun x hx => (h.lf x hx).mono hc⟩
theorem getD_get {α : Type} {l : List α} {i : Nat} (h : i < l.length) (d : α) : l.getD i d = l[i] := by
  rw [List.getD_eq_getElem?_getD, List.getElem?_eq_getElem h]
  rfl
def pnm (b : Bk) (i : Nat) : Str := (b.parts.getD i ("", 0)).1
def ld (xs : List Rat) (i : Nat) : Rat := xs.getD i 0
theorem pnm_get {b : Bk} {i : Nat} (h : i < b.parts.length) : pnm b i = (b.parts[i]).1 := by
  unfold pnm
  rw [getD_get h]
theorem LoadsOk.get {b : Bk} {xs : List Rat} {B : Nat} (h : LoadsOk b xs B) {i : Nat} (hi : i < xs.length) : 0 ≤ ld xs i ∧ Fz B (ld xs i) := by
  unfold ld
  rw [getD_get hi]
  exact ⟨h.l0 _ (List.getElem_mem hi), h.lf _ (List.getElem_mem hi)⟩
/-- loads behind a row -/
def leftAll (b : Bk) (row : List Str) (xs : List Rat) : List Rat := (List.range xs.length).map fun i => left (b.tr i) row (ld xs i)
theorem leftAll_ok {b : Bk} (hb : b.Ok) {row : List Str} {xs : List Rat} {B : Nat} (h : LoadsOk b xs B) : LoadsOk b (leftAll b row xs) (B + 14 * row.length) := by
  refine ⟨by unfold leftAll; rw [List.length_map, List.length_range, h.ll], fun x hx => ?_, fun x hx => ?_⟩
  · obtain ⟨i, hi, rfl⟩ := List.mem_map.mp hx
    have hi2 := List.mem_range.mp hi
    exact left_nonneg (tr_ok hb i) (h.get hi2).1
  · obtain ⟨i, hi, rfl⟩ := List.mem_map.mp hx
    have hi2 := List.mem_range.mp hi
    exact left_fz (tr_ok hb i) (h.get hi2).2
/-- a course -/
def encC (cs : List Nat) : D := .tuple (cs.map fun i : Nat => PyData.int i)
structure CourseOk (ws : List (List Str)) (cs : List Nat) : Prop where
  cl : cs.length ≤ 12
  ci : ∀ i ∈ cs, i < ws.length
/-- parts' names beside loads -/
theorem zip_items (b : Bk) (xs : List Rat) (h : xs.length = b.parts.length) : List.zipWith (fun u v => PyData.tuple [u, v]) (b.parts.map fun p => PyData.str p.1) (xs.map fr) = (List.range xs.length).map fun i => PyData.tuple [.str (pnm b i), fr (ld xs i)] := by
  refine List.ext_getElem? fun i => ?_
  rw [List.getElem?_zipWith, List.getElem?_map, List.getElem?_map, List.getElem?_map]
  by_cases hi : i < xs.length
  · have hi2 : i < b.parts.length := by omega
    rw [List.getElem?_eq_getElem hi, List.getElem?_eq_getElem hi2, List.getElem?_eq_getElem (by simpa using hi)]
    simp [hi, hi2, pnm, ld]
  · rw [List.getElem?_eq_none (by omega), List.getElem?_eq_none (by omega), List.getElem?_eq_none (by simpa using hi)]
    rfl
/-- loads behind a course -/
def courseLeft (b : Bk) (ws : List (List Str)) : List Nat → List Rat → List Rat
  | [], xs => xs
  | i :: cs, xs => courseLeft b ws cs (leftAll b (ws.getD i []) xs)
theorem WorksOk.get {b : Bk} {ws : List (List Str)} {m q : Nat} (h : WorksOk b ws m q) {i : Nat} (hi : i < ws.length) : RowOk b (ws.getD i []) q := by
  rw [getD_get hi]
  exact h.wr _ (List.getElem_mem hi)
theorem courseLeft_ok {b : Bk} (hb : b.Ok) {ws : List (List Str)} {m q : Nat} (hw : WorksOk b ws m q) : ∀ {cs : List Nat} {xs : List Rat} {B : Nat}, (∀ i ∈ cs, i < ws.length) → LoadsOk b xs B → LoadsOk b (courseLeft b ws cs xs) (B + 14 * q * cs.length)
  | [], xs, B, _, h => h.mono (by simp)
  | i :: cs, xs, B, hc, h => by
    have h1 := (hw.get (hc i (.head _))).rm
    have h2 := leftAll_ok hb (row := ws.getD i []) h
    refine (courseLeft_ok hb hw (fun j hj => hc j (.tail _ hj)) h2).mono ?_
    rw [List.length_cons, Nat.mul_succ]
    have : 14 * (ws.getD i []).length ≤ 14 * q := Nat.mul_le_mul_left _ h1
    omega
theorem courseLeft_app {b : Bk} {ws : List (List Str)} : ∀ {cs ds : List Nat} {xs : List Rat}, courseLeft b ws (cs ++ ds) xs = courseLeft b ws ds (courseLeft b ws cs xs)
  | [], _, _ => rfl
  | i :: cs, ds, xs => by
    show courseLeft b ws (cs ++ ds) _ = courseLeft b ws ds (courseLeft b ws cs _)
    exact courseLeft_app (cs := cs)
theorem eqv_frs : ∀ (xs : List Rat), PyData.eqvAll (xs.map fr) (xs.map fr) = true
  | [] => rfl
  | x :: xs => by
    simp only [List.map_cons, PyData.eqvAll, eqv_fr, decide_true, eqv_frs xs, Bool.and_self]
theorem eqv_L (xs : List Rat) : PyData.eqv (encL xs) (encL xs) = true := by
  simp only [encL, PyData.eqv]
  exact eqv_frs xs
theorem sh_L (xs : List Rat) : SeqAt.shaped (encL xs) = true := frt_sh
theorem Rp.encL {xs : List Rat} {B : Nat} (h : ∀ x ∈ xs, Fz B x) (hB : B ≤ 1900) (hn : xs.length ≤ 100) : Rp 500000 2 (encL xs) :=
  (Rp.tup (n := 4000) (m := 1) fun d hd => by
    obtain ⟨x, hx, rfl⟩ := List.mem_map.mp hd
    exact Rp.fr (h x hx) hB).mono (by rw [List.length_map]; omega) (by omega)
theorem cut_drop {α : Type} (l : List α) (i : Nat) (h : i ≤ l.length) : cut l (some (i : Int)) none = l.drop i := by
  unfold cut
  rw [HT.sIx_none, HT.sIx_nat, Nat.min_eq_left h, List.take_of_length_le (by rw [List.length_drop]; omega)]
theorem cut_take {α : Type} (l : List α) (i : Nat) (h : i ≤ l.length) : cut l none (some (i : Int)) = l.take i := by
  unfold cut
  rw [HT.sIx_none, HT.sIx_nat, Nat.min_eq_left h, List.drop_zero, Nat.sub_zero]
/-! ### limits -/
def lim (b : Bk) (i : Nat) : Int := (b.parts.getD i ("", 0)).2
theorem lim_get {b : Bk} {i : Nat} (h : i < b.parts.length) : lim b i = (b.parts[i]).2 := by
  unfold lim
  rw [getD_get h]
theorem lim_1 {b : Bk} (hb : b.Ok) {i : Nat} (h : i < b.parts.length) : 1 ≤ lim b i ∧ lim b i ≤ 9999 := by
  rw [lim_get h]
  exact hb.pl _ (List.getElem_mem h)
theorem lim_fz {b : Bk} (hb : b.Ok) {i : Nat} (h : i < b.parts.length) : Fz 14 ((lim b i : Int) : Rat) := by
  obtain ⟨h1, h2⟩ := lim_1 hb h
  refine ⟨?_, ?_⟩
  · rw [Rat.num_intCast]
    omega
  · rw [Rat.den_intCast]
    decide
theorem fr_cast (n : Int) : fr (n : Rat) = .tuple [.int n, .int 1] := by
  unfold fr
  rw [Rat.num_intCast, Rat.den_intCast]
  rfl
def dictP (b : Bk) : D := .dict (b.parts.map fun p => (.str p.1, .int p.2))
theorem dictP_of {b : Bk} (h : b.Ok) : bltD "dict" [.tuple (b.parts.map encP)] = some (.dat (dictP b)) := by
  have h1 := h.p1
  have e : bltD "dict" [.tuple (b.parts.map encP)] = (pairsK? (b.parts.map encP)).map fun ps => EV.dat (dictX (mergeX [] ps)) := by
    cases hd : b.parts with
    | nil => rw [hd] at h1; simp at h1
    | cons x r => rfl
  rw [e]
  have e2 : pairsK? (b.parts.map encP) = some (b.parts.map fun x => ((.inr x.1 : L2.Key), PyData.int x.2)) := pairsK_str b.parts (·.1) fun x => .int x.2
  have hnd : ((b.parts.map fun x => ((.inr x.1 : L2.Key), PyData.int x.2)).map (·.1)).Nodup := by
    rw [List.map_map]
    have := asc_nodup h.pa
    rw [List.nodup_iff_pairwise_ne, List.pairwise_map] at this ⊢
    exact this.imp fun {x y} hne e => hne (Sum.inr.inj e)
  have em := mergeX_nodup (b.parts.map fun x => ((.inr x.1 : L2.Key), PyData.int x.2)) [] (by rw [List.nil_append]; exact hnd)
  rw [List.nil_append] at em
  rw [e2, Option.map_some, em]
  simp [dictX, dictP, keyD, Function.comp_def]
theorem dictP_at {b : Bk} (h : b.Ok) {i : Nat} (hi : i < b.parts.length) : ixD (dictP b) (.str (pnm b i)) = some (.int (lim b i)) := by
  rw [pnm_get hi, lim_get hi]
  unfold dictP
  rw [x_dicts, List.find?_map, show ((fun kv : D × D => PyData.eqv kv.1 (.str (b.parts[i]).1)) ∘ fun d : Str × Int => ((PyData.str d.1, PyData.int d.2) : D × D)) = fun e => decide (e.1 = (b.parts[i]).1) from funext fun e => eqv_str _ _]
  rw [lookup_nodup (asc_nodup h.pa) (List.getElem_mem hi)]
  rfl
def over (b : Bk) (i : Nat) (x : Rat) : Bool := decide (((lim b i : Int) : Rat) < x)
/-- a row keeps all limits -/
def keepsB (b : Bk) (row : List Str) (xs : List Rat) : Bool := !(List.range xs.length).any fun i => over b i (great (along (b.tr i) row (ld xs i)))
/-- a course keeps all limits -/
def courseKeeps (b : Bk) (ws : List (List Str)) : List Nat → List Rat → Bool
  | [], _ => true
  | i :: cs, xs => keepsB b (ws.getD i []) xs && courseKeeps b ws cs (leftAll b (ws.getD i []) xs)
/-! ### the law's own -/
theorem ld_at {xs : List Rat} {i : Nat} (h : i < xs.length) : L2.atI (xs.map fr) (i : Int) = some (fr (ld xs i)) := by
  rw [atI_n, List.getElem?_map, List.getElem?_eq_getElem h]
  unfold ld
  rw [getD_get h]
  rfl
theorem parts_at {b : Bk} {i : Nat} (h : i < b.parts.length) : L2.atI (b.parts.map encP) (i : Int) = some (.tuple [.str (pnm b i), .int (lim b i)]) := by
  rw [atI_n, List.getElem?_map, List.getElem?_eq_getElem h, pnm_get h, lim_get h]
  rfl
theorem ints_sh (l : List Nat) : SeqAt.shaped (.list (l.map fun i : Nat => PyData.int i)) = true := (Sh.lst (n := 0) fun d hd => by
  obtain ⟨i, _, rfl⟩ := List.mem_map.mp hd
  exact Sh.int).sh (by omega)
theorem fz_stand' {b : Bk} (hb : b.Ok) (i : Nat) {row : List Str} {m : Nat} (hr : RowOk b row m) (hm : m ≤ 12) : Fz 220 (stand (b.tr i) row) := (fz_stand (tr_ok hb i) hr.ne).mono (by have := hr.rm; omega)
/-- the load ahead of a strain: the greatest of a load and of what stands -/
def ahead (b : Bk) (ws : List (List Str)) (i : Nat) (x : Rat) : Rat := great (x :: ws.map (stand (b.tr i)))
theorem ahead_fz {b : Bk} (hb : b.Ok) {ws : List (List Str)} {m q : Nat} (hw : WorksOk b ws m q) (hq : q ≤ 12) (i : Nat) {x : Rat} {B : Nat} (hx : Fz B x) : Fz (B + 220) (ahead b ws i x) := by
  refine great_fz (by simp) fun y hy => ?_
  rcases List.mem_cons.mp hy with rfl | hy
  · exact hx.mono (by omega)
  · obtain ⟨r, hr, rfl⟩ := List.mem_map.mp hy
    exact (fz_stand' hb i (hw.wr r hr) hq).mono (by omega)
/-- the greatest strain of works -/
def greatS (b : Bk) (ws : List (List Str)) (i : Nat) (x : Rat) : Rat := great (ws.map fun r => great (along (b.tr i) r (ahead b ws i x)))
theorem greatS_fz {b : Bk} (hb : b.Ok) {ws : List (List Str)} {m q : Nat} (hw : WorksOk b ws m q) (hq : q ≤ 12) (i : Nat) {x : Rat} {B : Nat} (hx : Fz B x) : Fz (B + 400) (greatS b ws i x) := by
  refine great_fz (fun e => ?_) fun y hy => ?_
  · have := hw.w1
    rw [List.map_eq_nil_iff.mp e] at this
    simp at this
  · obtain ⟨r, hr, rfl⟩ := List.mem_map.mp hy
    have h2 := hw.wr r hr
    exact (great_fz (along_ne h2.ne) (along_fz (tr_ok hb i) (ahead_fz hb hw hq i hx))).mono (by have := h2.rm; omega)
/-! ### a book with other limits -/
structure Relim (b : Bk) (ps : List (Str × Int)) : Prop where
  nm : ps.map (·.1) = b.parts.map (·.1)
  li : ∀ p ∈ ps, 1 ≤ p.2 ∧ p.2 ≤ 9999
theorem Relim.len {b : Bk} {ps : List (Str × Int)} (h : Relim b ps) : ps.length = b.parts.length := by
  have := congrArg List.length h.nm
  simpa using this
theorem Relim.ok {b : Bk} (hb : b.Ok) {ps : List (Str × Int)} (h : Relim b ps) : (Bk.mk ps b.deeds).Ok := by
  have hl := h.len
  have ha := hb.pa
  rw [← h.nm] at ha
  refine ⟨?_, ?_, fun p hp => ?_, h.li, ha, hb.d1, hb.d6, hb.dn, fun d hd => ?_, hb.dt, hb.da⟩
  · show 1 ≤ ps.length
    rw [hl]
    exact hb.p1
  · show ps.length ≤ 3
    rw [hl]
    exact hb.p3
  · have : p.1 ∈ b.parts.map (·.1) := by
      rw [← h.nm]
      exact List.mem_map_of_mem hp
    obtain ⟨p', hp', e⟩ := List.mem_map.mp this
    rw [← e]
    exact hb.pn p' hp'
  · show d.2.length = ps.length
    rw [hl]
    exact hb.dl d hd
theorem RowOk.re {b : Bk} {row : List Str} {m : Nat} (h : RowOk b row m) (ps : List (Str × Int)) : RowOk (Bk.mk ps b.deeds) row m := ⟨h.r1, h.rm, h.rn⟩
theorem WorksOk.re {b : Bk} {ws : List (List Str)} {m q : Nat} (h : WorksOk b ws m q) (ps : List (Str × Int)) : WorksOk (Bk.mk ps b.deeds) ws m q := ⟨h.w1, h.wm, fun r hr => (h.wr r hr).re ps⟩
theorem LoadsOk.re {b : Bk} {xs : List Rat} {B : Nat} (h : LoadsOk b xs B) {ps : List (Str × Int)} (hl : ps.length = b.parts.length) : LoadsOk (Bk.mk ps b.deeds) xs B := ⟨by rw [h.ll, ← hl], h.l0, h.lf⟩
/-! ### rows one behind another keep -/
theorem over_max {b : Bk} {i : Nat} {x y : Rat} : over b i (maxR x y) = (over b i x || over b i y) := by
  unfold over maxR
  by_cases h : x < y
  · rw [if_pos h]
    by_cases h2 : ((lim b i : Int) : Rat) < x
    · have h3 : ((lim b i : Int) : Rat) < y := by grind
      rw [decide_eq_true h2, decide_eq_true h3]
      rfl
    · rw [decide_eq_false h2, Bool.false_or]
  · rw [if_neg h]
    by_cases h2 : ((lim b i : Int) : Rat) < y
    · have h3 : ((lim b i : Int) : Rat) < x := by grind
      rw [decide_eq_true h2, decide_eq_true h3]
      rfl
    · rw [decide_eq_false h2, Bool.or_false]
theorem any_or {α : Type} (l : List α) (p q : α → Bool) : (l.any fun x => p x || q x) = (l.any p || l.any q) := by
  induction l with
  | nil => rfl
  | cons x r ih =>
    simp only [List.any_cons, ih]
    cases p x <;> cases q x <;> simp
theorem leftAll_len {b : Bk} {row : List Str} {xs : List Rat} : (leftAll b row xs).length = xs.length := by simp [leftAll]
theorem leftAll_ld {b : Bk} {row : List Str} {xs : List Rat} {i : Nat} (h : i < xs.length) : ld (leftAll b row xs) i = left (b.tr i) row (ld xs i) := by
  have h2 : i < (leftAll b row xs).length := by rw [leftAll_len]; exact h
  unfold ld
  rw [getD_get h2, getD_get h]
  simp [leftAll, ld, h]
theorem any_congr {α : Type} {l : List α} {p q : α → Bool} (h : ∀ x ∈ l, p x = q x) : l.any p = l.any q := by
  induction l with
  | nil => rfl
  | cons x r ih =>
    rw [List.any_cons, List.any_cons, h x (.head _), ih fun y hy => h y (.tail _ hy)]
theorem keepsB_app {b : Bk} {r s : List Str} {xs : List Rat} (hr : r ≠ []) (hs : s ≠ []) : keepsB b (r ++ s) xs = (keepsB b r xs && keepsB b s (leftAll b r xs)) := by
  unfold keepsB
  rw [leftAll_len, ← Bool.not_or, ← any_or]
  congr 1
  refine any_congr fun i hi => ?_
  rw [along_app, great_app (along_ne hr) (along_ne hs), over_max, leftAll_ld (List.mem_range.mp hi)]
/-- the deeds of a course -/
def flat (ws : List (List Str)) (cs : List Nat) : List Str := cs.flatMap fun i => ws.getD i []
theorem flat_cons {ws : List (List Str)} {cs : List Nat} {i : Nat} : flat ws (i :: cs) = ws.getD i [] ++ flat ws cs := rfl
theorem flat_nil {ws : List (List Str)} : flat ws [] = [] := rfl
theorem courseKeeps_cons {b : Bk} {ws : List (List Str)} {cs : List Nat} {i : Nat} {xs : List Rat} : courseKeeps b ws (i :: cs) xs = (keepsB b (ws.getD i []) xs && courseKeeps b ws cs (leftAll b (ws.getD i []) xs)) := rfl
theorem courseKeeps_nil {b : Bk} {ws : List (List Str)} {xs : List Rat} : courseKeeps b ws [] xs = true := rfl
theorem flat_app {ws : List (List Str)} {cs : List Nat} {i : Nat} : flat ws (cs ++ [i]) = flat ws cs ++ ws.getD i [] := by simp [flat]
theorem courseKeeps_app {b : Bk} {ws : List (List Str)} : ∀ {cs ds : List Nat} {xs : List Rat}, courseKeeps b ws (cs ++ ds) xs = (courseKeeps b ws cs xs && courseKeeps b ws ds (courseLeft b ws cs xs))
  | [], _, _ => rfl
  | i :: cs, ds, xs => by
    have e := courseKeeps_app (b := b) (ws := ws) (cs := cs) (ds := ds) (xs := leftAll b (ws.getD i []) xs)
    have e2 : courseLeft b ws (i :: cs) xs = courseLeft b ws cs (leftAll b (ws.getD i []) xs) := rfl
    rw [List.cons_append, courseKeeps_cons, courseKeeps_cons, e, e2, Bool.and_assoc]
theorem flat_ne {ws : List (List Str)} {i : Nat} {cs : List Nat} (h : ws.getD i [] ≠ []) : flat ws (i :: cs) ≠ [] := by
  rw [flat_cons]
  exact fun e => h (List.append_eq_nil_iff.mp e).1
theorem flat_keeps {b : Bk} {ws : List (List Str)} : ∀ {cs : List Nat} {xs : List Rat}, (∀ i ∈ cs, ws.getD i [] ≠ []) → flat ws cs ≠ [] → keepsB b (flat ws cs) xs = courseKeeps b ws cs xs
  | [], _, _, h => absurd rfl h
  | [i], xs, hc, _ => by
    rw [flat_cons, flat_nil, courseKeeps_cons, courseKeeps_nil, List.append_nil, Bool.and_true]
  | i :: j :: cs, xs, hc, _ => by
    have h1 := hc i (.head _)
    have h2 : flat ws (j :: cs) ≠ [] := flat_ne (hc j (.tail _ (.head _)))
    have e := flat_keeps (b := b) (cs := j :: cs) (xs := leftAll b (ws.getD i []) xs) (fun q hq => hc q (.tail _ hq)) h2
    rw [flat_cons (i := i), courseKeeps_cons (i := i), keepsB_app h1 h2, e]
theorem flat_len {ws : List (List Str)} {q : Nat} : ∀ {cs : List Nat}, (∀ i ∈ cs, (ws.getD i []).length ≤ q) → (flat ws cs).length ≤ q * cs.length
  | [], _ => by simp [flat]
  | i :: cs, h => by
    have h1 := h i (.head _)
    have h2 := flat_len (ws := ws) (q := q) (cs := cs) fun j hj => h j (.tail _ hj)
    show (ws.getD i [] ++ flat ws cs).length ≤ _
    rw [List.length_append, List.length_cons, Nat.mul_succ]
    omega
theorem flat_mem {ws : List (List Str)} {cs : List Nat} {n : Str} (h : n ∈ flat ws cs) : ∃ i ∈ cs, n ∈ ws.getD i [] := by
  obtain ⟨i, hi, h2⟩ := List.mem_flatMap.mp h
  exact ⟨i, hi, h2⟩
/-! ### safe works -/
def safeB (b : Bk) (ws : List (List Str)) (xs : List Rat) : Bool := !(List.range xs.length).any fun i => over b i (greatS b ws i (ld xs i))
theorem safeB_t {b : Bk} {ws : List (List Str)} {xs : List Rat} (h : ∀ i < xs.length, over b i (greatS b ws i (ld xs i)) = false) : safeB b ws xs = true := by
  unfold safeB
  rw [Bool.not_eq_true', List.any_eq_false]
  intro i hi
  rw [h i (List.mem_range.mp hi)]
  exact Bool.false_ne_true
theorem safeB_f {b : Bk} {ws : List (List Str)} {xs : List Rat} {i : Nat} (hi : i < xs.length) (h : over b i (greatS b ws i (ld xs i)) = true) : safeB b ws xs = false := by
  unfold safeB
  rw [Bool.not_eq_false', List.any_eq_true]
  exact ⟨i, List.mem_range.mpr hi, h⟩
/-- one of the works, alone -/
theorem WorksOk.one {b : Bk} {r : List Str} {q : Nat} (h : RowOk b r q) : WorksOk b [r] 1 q := ⟨by simp, by simp, fun x hx => by rw [List.mem_singleton.mp hx]; exact h⟩
theorem encW_1 (r : List Str) : PyData.tuple [encR r] = encW [r] := rfl
theorem over_mono {b : Bk} {i : Nat} {x y : Rat} (h : x ≤ y) (ho : over b i y = false) : over b i x = false := by
  unfold over at *
  rw [decide_eq_false_iff_not] at *
  grind
theorem great_le {l : List Rat} {y : Rat} (hl : l ≠ []) (h : ∀ x ∈ l, x ≤ y) : great l ≤ y := h _ (great_mem hl)
theorem strain_le {f : Str → Tr} (hf : ∀ n, (f n).Ok) {row : List Str} (hr : row ≠ []) {x y : Rat} (h : x ≤ y) : great (along f row x) ≤ great (along f row y) := by
  by_cases he : x = y
  · rw [he]
    exact Rat.le_refl
  · have := strain_lt hf hr (show x < y by grind)
    grind
theorem greatS_one {b : Bk} (hb : b.Ok) {ws : List (List Str)} {r : List Str} (hr : r ∈ ws) (hne : r ≠ []) (i : Nat) (x : Rat) : greatS b [r] i x ≤ greatS b ws i x := by
  have ha : ahead b [r] i x ≤ ahead b ws i x := by
    refine great_le (by simp) fun y hy => le_great ?_
    rcases List.mem_cons.mp hy with rfl | hy
    · exact .head _
    · rw [List.map_cons, List.map_nil, List.mem_singleton] at hy
      rw [hy]
      exact .tail _ (List.mem_map_of_mem hr)
  have h1 : greatS b [r] i x = great (along (b.tr i) r (ahead b [r] i x)) := by
    have h2 : greatS b [r] i x ∈ [great (along (b.tr i) r (ahead b [r] i x))] := great_mem (by simp)
    exact List.mem_singleton.mp h2
  have h3 := strain_le (tr_ok hb i) hne ha
  have h4 : great (along (b.tr i) r (ahead b ws i x)) ≤ greatS b ws i x := le_great (List.mem_map.mpr ⟨r, hr, rfl⟩)
  rw [h1]
  grind
theorem safeB_one {b : Bk} (hb : b.Ok) {ws : List (List Str)} {r : List Str} (hr : r ∈ ws) (hne : r ≠ []) {xs : List Rat} (h : safeB b ws xs = true) : safeB b [r] xs = true := by
  refine safeB_t fun i hi => over_mono (greatS_one hb hr hne i (ld xs i)) ?_
  cases ho : over b i (greatS b ws i (ld xs i)) with
  | false => rfl
  | true =>
    rw [safeB_f hi ho] at h
    cases h
theorem enumD_range (ws : List (List Str)) : ∀ (post pre : List (List Str)), ws = pre ++ post → enumD pre.length (post.map encR) = (List.range' pre.length post.length).map fun i : Nat => PyData.tuple [.int i, encR (ws.getD i [])]
  | [], _, _ => rfl
  | r :: post, pre, h => by
    have ih := enumD_range ws post (pre ++ [r]) (by rw [h]; simp)
    rw [List.length_append, List.length_singleton] at ih
    have e : ws.getD pre.length [] = r := by rw [h]; simp
    rw [List.map_cons, List.length_cons, List.range'_succ, List.map_cons, e, ← ih]
    rfl
theorem enumD_ws (ws : List (List Str)) : enumD 0 (ws.map encR) = (List.range ws.length).map fun i : Nat => PyData.tuple [.int i, encR (ws.getD i [])] := by
  rw [List.range_eq_range']
  exact enumD_range ws ws [] rfl
/-- those works that are safe alone -/
def safeOnes (b : Bk) (ws : List (List Str)) (xs : List Rat) : List Nat := (List.range ws.length).filter fun i => safeB b [ws.getD i []] xs
theorem safeOnes_len {b : Bk} {ws : List (List Str)} {xs : List Rat} : (safeOnes b ws xs).length ≤ ws.length := by
  have := List.length_filter_le (fun i => safeB b [ws.getD i []] xs) (List.range ws.length)
  rwa [List.length_range] at this
theorem Rp.encC {cs : List Nat} (h : cs.length ≤ 12) (hi : ∀ i ∈ cs, i < 100) : Rp 30000 1 (encC cs) :=
  (Rp.tup (n := 1921) (m := 0) fun d hd => by
    obtain ⟨i, hx, rfl⟩ := List.mem_map.mp hd
    have := hi i hx
    exact Rp.int (B := 7) (by omega) (by omega)).mono (by rw [List.length_map]; omega) (by omega)
theorem any_int (S : List Nat) (i : Nat) : ((S.map fun i : Nat => PyData.int i).any fun y => PyData.eqv y (.int i)) = decide (i ∈ S) := by
  induction S with
  | nil => rfl
  | cons x r ih =>
    rw [List.map_cons, List.any_cons, ih]
    simp only [PyData.eqv]
    by_cases h : x = i
    · subst h
      simp
    · have h2 : ¬ ((x : Int) = (i : Int)) := by omega
      have h3 : ¬ i = x := fun e => h e.symm
      simp [h2, h3]
theorem shaped_C (cs : List Nat) : SeqAt.shaped (encC cs) = true := (Sh.tup (n := 0) fun d hd => by
  obtain ⟨i, _, rfl⟩ := List.mem_map.mp hd
  exact Sh.int).sh (by omega)
theorem in_C (S : List Nat) (i : Nat) : cmpD .In (.int i) (encC S) = some (decide (i ∈ S)) := by
  have h1 : SeqAt.shaped (.int (i : Int)) = true := (Sh.int (n := 0)).sh (by omega)
  have h2 := shaped_C S
  unfold encC at *
  rw [c_int, h1, h2, any_int]
  rfl
/-! ### numbers, indexes, loads of nothing -/
theorem is_number_up (k : Nat) (i lo : Int) (h1 : lo ≤ i) : call G (k + 2) (.glob "is_number") [.dat (.int i), .dat (.int lo), .dat .none] = .ok (.dat (.bool true)) [.dat (.int i), .dat (.int lo), .dat .none] := by
  rw [← ResW_eq]
  refine run_glob g_is_number rfl (by decide) ?_
  simp -dsimp -implicitDefEqProofs [f_is_number, is_whole, Int.not_lt.mpr h1]
/-- loads of nothing -/
def nought (b : Bk) : List Rat := b.parts.map fun _ => 0
theorem nought_ok (b : Bk) : LoadsOk b (nought b) 8 := by
  refine ⟨by simp [nought], fun x hx => ?_, fun x hx => ?_⟩
  · obtain ⟨_, _, rfl⟩ := List.mem_map.mp hx
    exact Rat.le_refl
  · obtain ⟨_, _, rfl⟩ := List.mem_map.mp hx
    exact fz_0.mono (by omega)
theorem nought_ld (b : Bk) (i : Nat) : ld (nought b) i = 0 := by
  unfold ld nought
  rw [List.getD_eq_getElem?_getD, List.getElem?_map]
  cases b.parts[i]? <;> rfl
theorem nought_enc (b : Bk) : PyData.tuple (b.parts.map fun _ => fr 0) = encL (nought b) := by
  simp [encL, nought, Function.comp_def]
/-! ### two works -/
theorem WorksOk.two {b : Bk} {r s : List Str} {q : Nat} (h : RowOk b r q) (h2 : RowOk b s q) : WorksOk b [r, s] 2 q := ⟨by simp, by simp, fun x hx => by
  simp only [List.mem_cons, List.not_mem_nil, or_false] at hx
  rcases hx with rfl | rfl
  · exact h
  · exact h2⟩
theorem encW_2 (r s : List Str) : PyData.tuple [encR r, encR s] = encW [r, s] := rfl
theorem ws_at {ws : List (List Str)} {i : Nat} (h : i < ws.length) : L2.atI (ws.map encR) (i : Int) = some (encR (ws.getD i [])) := by
  rw [atI_n, List.getElem?_map, List.getElem?_eq_getElem h, getD_get h]
  rfl
theorem greatS_sub {b : Bk} (hb : b.Ok) {vs ws : List (List Str)} (hv : vs ≠ []) (h : ∀ r ∈ vs, r ∈ ws ∧ r ≠ []) (i : Nat) (x : Rat) : greatS b vs i x ≤ greatS b ws i x := by
  have ha : ahead b vs i x ≤ ahead b ws i x := by
    refine great_le (by simp) fun y hy => le_great ?_
    rcases List.mem_cons.mp hy with rfl | hy
    · exact .head _
    · obtain ⟨r, hr, rfl⟩ := List.mem_map.mp hy
      exact .tail _ (List.mem_map_of_mem (h r hr).1)
  refine great_le (fun e => hv (List.map_eq_nil_iff.mp e)) fun y hy => ?_
  obtain ⟨r, hr, rfl⟩ := List.mem_map.mp hy
  have h3 := strain_le (tr_ok hb i) (h r hr).2 ha
  have h4 : great (along (b.tr i) r (ahead b ws i x)) ≤ greatS b ws i x := le_great (List.mem_map.mpr ⟨r, (h r hr).1, rfl⟩)
  grind
theorem safeB_sub {b : Bk} (hb : b.Ok) {vs ws : List (List Str)} (hv : vs ≠ []) (hs : ∀ r ∈ vs, r ∈ ws ∧ r ≠ []) {xs : List Rat} (h : safeB b ws xs = true) : safeB b vs xs = true := by
  refine safeB_t fun i hi => over_mono (greatS_sub hb hv hs i (ld xs i)) ?_
  cases ho : over b i (greatS b ws i (ld xs i)) with
  | false => rfl
  | true =>
    rw [safeB_f hi ho] at h
    cases h
theorem greatS_two {b : Bk} (hb : b.Ok) {ws : List (List Str)} (hw : ws ≠ []) (hn : ∀ r ∈ ws, r ≠ []) (i : Nat) (x : Rat) : ∃ r ∈ ws, ∃ s ∈ ws, greatS b ws i x ≤ greatS b [r, s] i x := by
  have h1 : greatS b ws i x ∈ ws.map fun r => great (along (b.tr i) r (ahead b ws i x)) := great_mem (fun e => hw (List.map_eq_nil_iff.mp e))
  obtain ⟨s, hs, e⟩ := List.mem_map.mp h1
  have h2 : ahead b ws i x ∈ x :: ws.map (stand (b.tr i)) := great_mem (by simp)
  have key : ∀ r, ahead b ws i x ∈ x :: [r, s].map (stand (b.tr i)) → greatS b ws i x ≤ greatS b [r, s] i x := fun r hr => by
    have ha : ahead b ws i x ≤ ahead b [r, s] i x := le_great hr
    have h3 := strain_le (tr_ok hb i) (hn s hs) ha
    have h4 : great (along (b.tr i) s (ahead b [r, s] i x)) ≤ greatS b [r, s] i x := le_great (List.mem_map.mpr ⟨s, by simp, rfl⟩)
    rw [← e]
    grind
  rcases List.mem_cons.mp h2 with h2 | h2
  · exact ⟨s, hs, s, hs, key s (by rw [h2]; exact .head _)⟩
  · obtain ⟨r, hr, e2⟩ := List.mem_map.mp h2
    exact ⟨r, hr, s, hs, key r (by rw [← e2]; exact .tail _ (.head _))⟩
/-- works are safe exactly if each two of them are -/
theorem safeB_two {b : Bk} (hb : b.Ok) {ws : List (List Str)} (hw : ws ≠ []) (hn : ∀ r ∈ ws, r ≠ []) (xs : List Rat) : safeB b ws xs = (List.range ws.length).all fun i => (List.range ws.length).all fun j => safeB b [ws.getD i [], ws.getD j []] xs := by
  rw [Bool.eq_iff_iff, List.all_eq_true]
  constructor
  · intro h i hi
    rw [List.all_eq_true]
    intro j hj
    have hi2 := List.mem_range.mp hi
    have hj2 := List.mem_range.mp hj
    refine safeB_sub hb (by simp) (fun r hr => ?_) h
    have hm : r ∈ ws := by
      rw [getD_get hi2, getD_get hj2] at hr
      simp only [List.mem_cons, List.not_mem_nil, or_false] at hr
      rcases hr with rfl | rfl <;> exact List.getElem_mem _
    exact ⟨hm, hn r hm⟩
  · intro h
    refine safeB_t fun i hi => ?_
    obtain ⟨r, hr, s, hs, hle⟩ := greatS_two hb hw hn i (ld xs i)
    obtain ⟨p, hp, rfl⟩ := List.mem_iff_getElem.mp hr
    obtain ⟨q, hq, rfl⟩ := List.mem_iff_getElem.mp hs
    have h2 := List.all_eq_true.mp (h p (List.mem_range.mpr hp)) q (List.mem_range.mpr hq)
    rw [getD_get hp, getD_get hq] at h2
    refine over_mono hle ?_
    cases ho : over b i (greatS b [ws[p], ws[q]] i (ld xs i)) with
    | false => rfl
    | true =>
      rw [safeB_f hi ho] at h2
      cases h2
/-- with limits raised none becomes unsafe -/
theorem safeB_wide {b : Bk} {ps : List (Str × Int)} {ws : List (List Str)} {xs : List Rat} (hl : ∀ i < xs.length, lim b i ≤ lim (Bk.mk ps b.deeds) i) (h : safeB b ws xs = true) : safeB (Bk.mk ps b.deeds) ws xs = true := by
  refine safeB_t fun i hi => ?_
  have e : greatS (Bk.mk ps b.deeds) ws i (ld xs i) = greatS b ws i (ld xs i) := rfl
  rw [e]
  generalize hg : greatS b ws i (ld xs i) = g at *
  cases ho : over b i g with
  | true =>
    rw [safeB_f hi (by rw [hg]; exact ho)] at h
    cases h
  | false =>
    have h1 := hl i hi
    have h2 : ((lim b i : Int) : Rat) ≤ ((lim (Bk.mk ps b.deeds) i : Int) : Rat) := Rat.intCast_le_intCast.mpr h1
    unfold over at *
    rw [decide_eq_false_iff_not] at *
    grind
/-! ### least limits, a book with one other limit -/
theorem names_items (b : Bk) : (b.parts.map fun p => PyData.str p.1) = (List.range b.parts.length).map fun i => PyData.str (pnm b i) := by
  refine List.ext_getElem? fun i => ?_
  rw [List.getElem?_map, List.getElem?_map]
  by_cases hi : i < b.parts.length
  · rw [List.getElem?_eq_getElem hi, List.getElem?_eq_getElem (by simpa using hi)]
    simp [hi, pnm]
  · rw [List.getElem?_eq_none (by omega), List.getElem?_eq_none (by simpa using hi)]
    rfl
def leastL (b : Bk) (ws : List (List Str)) : List Rat := (List.range b.parts.length).map fun i => greatS b ws i 0
theorem leastL_len {b : Bk} {ws : List (List Str)} : (leastL b ws).length = b.parts.length := by simp [leastL]
theorem leastL_fz {b : Bk} (hb : b.Ok) {ws : List (List Str)} {m q : Nat} (hw : WorksOk b ws m q) (hq : q ≤ 12) : ∀ x ∈ leastL b ws, Fz 401 x := fun x hx => by
  obtain ⟨i, hi, rfl⟩ := List.mem_map.mp hx
  exact (greatS_fz hb hw hq i fz_0).mono (by omega)
/-- one other limit -/
def setLim (b : Bk) (i : Nat) (v : Int) : List (Str × Int) := b.parts.map fun p => (p.1, if p.1 = pnm b i then v else p.2)
theorem setLim_re {b : Bk} (hb : b.Ok) {i : Nat} {v : Int} (h : 1 ≤ v ∧ v ≤ 9999) : Relim b (setLim b i v) := ⟨by simp [setLim, Function.comp_def], fun p hp => by
  obtain ⟨q, hq, rfl⟩ := List.mem_map.mp hp
  have h1 := hb.pl q hq
  show 1 ≤ (if q.1 = pnm b i then v else q.2) ∧ (if q.1 = pnm b i then v else q.2) ≤ 9999
  split
  · exact h
  · exact h1⟩
theorem pnm_inj {b : Bk} (hb : b.Ok) {i j : Nat} (hi : i < b.parts.length) (hj : j < b.parts.length) (h : pnm b j = pnm b i) : j = i := by
  rw [pnm_get hi, pnm_get hj] at h
  have hn := asc_nodup hb.pa
  have e : (b.parts.map (·.1))[j]'(by simpa using hj) = (b.parts.map (·.1))[i]'(by simpa using hi) := by simpa using h
  exact (List.getElem_inj hn).mp e
theorem setLim_lim {b : Bk} (hb : b.Ok) {i j : Nat} {v : Int} (hi : i < b.parts.length) (hj : j < b.parts.length) : lim (Bk.mk (setLim b i v) b.deeds) j = if j = i then v else lim b j := by
  have e : lim (Bk.mk (setLim b i v) b.deeds) j = if pnm b j = pnm b i then v else lim b j := by
    rw [pnm_get hj, lim_get hj]
    unfold lim setLim
    simp only [List.getD_eq_getElem?_getD, List.getElem?_map, List.getElem?_eq_getElem hj, Option.map_some, Option.getD_some]
  rw [e]
  by_cases h : j = i
  · subst h
    rw [if_pos rfl, if_pos rfl]
  · rw [if_neg h, if_neg fun h2 => h (pnm_inj hb hi hj h2)]
theorem setLim_pnm {b : Bk} {i j : Nat} {v : Int} : pnm (Bk.mk (setLim b i v) b.deeds) j = pnm b j := by
  unfold pnm setLim
  simp only [List.getD_eq_getElem?_getD, List.getElem?_map]
  cases b.parts[j]? <;> rfl
/-! ### the least of some; course bounds; how near loads come -/
def behind (b : Bk) (ws : List (List Str)) (i : Nat) (x : Rat) : Rat := least (x :: ws.map (stand (b.tr i)))
theorem least_mem : ∀ {l : List Rat}, l ≠ [] → least l ∈ l
  | [], h => absurd rfl h
  | [x], _ => List.mem_singleton.mpr rfl
  | x :: y :: r, _ => by
    have h : least (x :: y :: r) = least (minR x y :: r) := rfl
    have ih := least_mem (l := minR x y :: r) (List.cons_ne_nil _ _)
    rw [h]
    rcases List.mem_cons.mp ih with e | e
    · rw [e]
      unfold minR
      split <;> simp
    · exact List.mem_cons_of_mem _ (List.mem_cons_of_mem _ e)
termination_by l => l.length
theorem least_le : ∀ {l : List Rat} {y : Rat}, y ∈ l → least l ≤ y
  | [], _, h => by cases h
  | [x], y, h => by
    rw [List.mem_singleton.mp h]
    exact Rat.le_refl
  | x :: z :: r, y, h => by
    have e : least (x :: z :: r) = least (minR x z :: r) := rfl
    rw [e]
    have h1 := least_le (l := minR x z :: r) (y := minR x z) (.head _)
    have h2 : minR x z ≤ x ∧ minR x z ≤ z := by
      unfold minR
      split <;> constructor <;> grind
    rcases List.mem_cons.mp h with rfl | h
    · grind
    · rcases List.mem_cons.mp h with rfl | h
      · grind
      · exact least_le (.tail _ h)
termination_by l => l.length
theorem least_eq {l m : List Rat} (hl : l ≠ []) (hm : m ≠ []) (h1 : ∀ x ∈ l, x ∈ m) (h2 : ∀ x ∈ m, x ∈ l) : least l = least m := by
  have a := least_le (h2 _ (least_mem hm))
  have b := least_le (h1 _ (least_mem hl))
  grind
theorem great_eq {l m : List Rat} (hl : l ≠ []) (hm : m ≠ []) (h1 : ∀ x ∈ l, x ∈ m) (h2 : ∀ x ∈ m, x ∈ l) : great l = great m := by
  have a := le_great (h2 _ (great_mem hm))
  have b := le_great (h1 _ (great_mem hl))
  grind
/-! how near -/
def leftN (f : Str → Tr) (row : List Str) (x : Rat) : Nat → Rat
  | 0 => x
  | n + 1 => left f row (leftN f row x n)
theorem leftN_fz {f : Str → Tr} (hf : ∀ n, (f n).Ok) {row : List Str} {q : Nat} (hq : row.length ≤ q) {x : Rat} {B : Nat} (hx : Fz B x) : ∀ n, Fz (B + 14 * q * n) (leftN f row x n)
  | 0 => hx
  | n + 1 => (left_fz hf (leftN_fz hf hq hx n)).mono (by
    have : 14 * row.length ≤ 14 * q := by omega
    have e : 14 * q * (n + 1) = 14 * q * n + 14 * q := by rw [Nat.mul_succ]
    omega)
theorem Tr.Ok.keep11 {t : Tr} (h : t.Ok) : (t.k : Rat) / (t.s : Rat) ≤ 11 / 12 := by
  have h2 := int_pos (show 0 < t.s by have := h.s2; omega)
  have h3 : (12 * t.k : Int) ≤ 11 * t.s := by have := h.ks; have := h.s12; omega
  have h4 : (12 : Rat) * (t.k : Rat) ≤ 11 * (t.s : Rat) := by
    have := Rat.intCast_le_intCast.mpr h3
    rwa [Rat.intCast_mul, Rat.intCast_mul] at this
  have h5 := Rat.mul_le_mul_of_nonneg_right h4 (Rat.le_of_lt (Rat.inv_pos.mpr h2))
  have h6 : (t.s : Rat) * (t.s : Rat)⁻¹ = 1 := Rat.mul_inv_cancel _ (by grind)
  rw [Rat.div_def]
  grind
theorem keepR_11 {f : Str → Tr} (hf : ∀ n, (f n).Ok) {row : List Str} (hr : row ≠ []) : keepR f row ≤ 11 / 12 := by
  cases row with
  | nil => exact absurd rfl hr
  | cons n r =>
    have h1 := keepR_le hf (row := r)
    have h2 := (hf n).keep11
    have h3 := (hf n).keep
    have h4 := Rat.mul_le_mul_of_nonneg_right h1 (Rat.le_of_lt h3)
    simp only [keepR]
    grind
theorem near_step {f : Str → Tr} (hf : ∀ n, (f n).Ok) {row : List Str} (hr : row ≠ []) (x : Rat) : left f row x - stand f row = keepR f row * (x - stand f row) := by
  have h := keepR_lt hf hr
  have h2 : 1 - keepR f row ≠ 0 := by grind
  rw [left_eq]
  unfold stand
  grind
theorem leftN_near {f : Str → Tr} (hf : ∀ n, (f n).Ok) {row : List Str} (hr : row ≠ []) (x : Rat) : ∀ n, ∃ c : Rat, 0 ≤ c ∧ c ≤ 11 / 12 ∧ leftN f row x (n + 1) - stand f row = c * (x - stand f row)
  | 0 => ⟨keepR f row, Rat.le_of_lt (keepR_pos hf), keepR_11 hf hr, near_step hf hr x⟩
  | n + 1 => by
    obtain ⟨c, h1, h2, h3⟩ := leftN_near hf hr x n
    refine ⟨keepR f row * c, Rat.mul_nonneg (Rat.le_of_lt (keepR_pos hf)) h1, ?_, ?_⟩
    · have h4 := Rat.mul_le_mul_of_nonneg_right (keepR_le hf (row := row)) h1
      grind
    · show left f row (leftN f row x (n + 1)) - stand f row = _
      rw [near_step hf hr, h3]
      grind
def absR (x : Rat) : Rat := if x < 0 then -x else x
theorem abs_low {n d : Int} (hd : 0 < d) : (((n.natAbs : Nat) : Int) : Rat) / (d : Rat) = absR ((n : Rat) / (d : Rat)) := by
  have h2 := int_pos hd
  have h3 := Rat.inv_pos.mpr h2
  unfold absR
  rw [Rat.div_def, Rat.div_def]
  by_cases h : n < 0
  · have e : ((n.natAbs : Nat) : Int) = -n := by omega
    have h4 : (n : Rat) < 0 := by
      have := Rat.intCast_lt_intCast.mpr h
      simpa using this
    have h5 : (n : Rat) * (d : Rat)⁻¹ < 0 := by
      have := Rat.mul_lt_mul_of_pos_right h4 h3
      grind
    rw [if_pos h5, e, Rat.intCast_neg]
    grind
  · have e : ((n.natAbs : Nat) : Int) = n := by omega
    have h4 : (0 : Rat) ≤ (n : Rat) := Rat.intCast_nonneg.mpr (by omega)
    have h5 : 0 ≤ (n : Rat) * (d : Rat)⁻¹ := Rat.mul_nonneg h4 (Rat.le_of_lt h3)
    rw [if_neg (by grind), e]
theorem dist_low (a b : Rat) : ((((a.num * b.den - b.num * a.den : Int).natAbs : Nat) : Int) : Rat) / (((a.den : Int) * b.den : Int) : Rat) = absR (a - b) := by
  rw [abs_low (den_mul_pos a b), sub_low]
theorem natAbs_natAbs (n : Int) : (((n.natAbs : Nat) : Int)).natAbs = n.natAbs := by omega
theorem fz_abs {x : Rat} {B : Nat} (h : Fz B x) : Fz B (absR x) := by
  unfold absR
  split
  · exact ⟨by show (-x.num).natAbs < _; rw [Int.natAbs_neg]; exact h.1, h.2⟩
  · exact h
theorem less_raw (k : Nat) (a : Rat) (n d : Int) (h1 : mulOk a.num d = true) (h2 : mulOk n a.den = true) : call G (k + 1) (.glob "_law_less") [.dat (fr a), .dat (.tuple [.int n, .int d])] = .ok (.dat (.bool (decide (a.num * d < n * a.den)))) [.dat (fr a), .dat (.tuple [.int n, .int d])] := by
  rw [← ResW_eq]
  refine run_glob g_law_less rfl (by decide) ?_
  simp -dsimp -implicitDefEqProofs [f_law_less, h1, h2]
/-- a load comes near to a bound that is itself, or a standing load -/
theorem absR_mul {c x : Rat} (h : 0 ≤ c) : absR (c * x) = c * absR x := by
  unfold absR
  by_cases hx : x < 0
  · by_cases hc : c = 0
    · subst hc
      grind
    · have h1 := Rat.mul_lt_mul_of_pos_left hx (show 0 < c by grind)
      rw [if_pos hx, if_pos (by grind)]
      grind
  · have h1 := Rat.mul_nonneg h (show 0 ≤ x by grind)
    rw [if_neg hx, if_neg (by grind)]
theorem absR_pos {x : Rat} (h : x ≠ 0) : 0 < absR x := by
  unfold absR
  split <;> grind
theorem near_true {f : Str → Tr} (hf : ∀ n, (f n).Ok) {row : List Str} (hr : row ≠ []) {x : Rat} (hx : x ≠ stand f row) (n : Nat) : (absR (leftN f row x (n + 1) - stand f row)).num * ((absR (x - stand f row)).den * 25) < (absR (x - stand f row)).num * 24 * (absR (leftN f row x (n + 1) - stand f row)).den := by
  obtain ⟨c, h1, h2, h3⟩ := leftN_near hf hr x n
  have hp := absR_pos (x := x - stand f row) (by grind)
  rw [h3, absR_mul h1]
  generalize absR (x - stand f row) = g at *
  have h4 : c * g * 25 < g * 24 := by
    have := Rat.mul_le_mul_of_nonneg_right h2 (Rat.le_of_lt hp)
    grind
  have e1 := num_eq (c * g)
  have e2 := num_eq g
  have d1 := int_pos (den_pos (c * g))
  have d2 := int_pos (den_pos g)
  generalize c * g = y at *
  have h5 := Rat.mul_lt_mul_of_pos_right h4 (Rat.mul_pos d1 d2)
  have h6 : ((y.num * (g.den * 25) : Int) : Rat) < ((g.num * 24 * y.den : Int) : Rat) := by
    simp only [Rat.intCast_mul, e1, e2]
    have e3 : ((25 : Int) : Rat) = 25 := rfl
    have e4 : ((24 : Int) : Rat) = 24 := rfl
    rw [e3, e4]
    grind
  exact Rat.intCast_lt_intCast.mp h6
theorem rowOk_at {b : Bk} {ws : List (List Str)} {m q : Nat} (hw : WorksOk b ws m q) {i : Nat} (h : i < ws.length) : L2.atI (ws.map encR) (i : Int) = some (encR (ws.getD i [])) := by
  rw [atI_n, List.getElem?_map, List.getElem?_eq_getElem h, getD_get h]
  rfl
theorem fz_ok {a c : Rat} {A C : Nat} (ha : Fz A a) (hc : Fz C c) (h : A + C ≤ 8000) : mulOk a.num c.den = true ∧ mulOk c.num a.den = true ∧ mulOk (a.den : Int) (c.den : Int) = true ∧ mulOk a.num c.num = true :=
  ⟨mulOk_of ha.1 (by simpa using hc.2) (by omega), mulOk_of hc.1 (by simpa using ha.2) (by omega), mulOk_of (by simpa using ha.2) (by simpa using hc.2) (by omega), mulOk_of ha.1 hc.1 (by omega)⟩
theorem fz_dist {a c : Rat} {A C : Nat} (ha : Fz A a) (hc : Fz C c) : ((((a.num * c.den - c.num * a.den : Int).natAbs : Nat) : Int)).natAbs < 2 ^ (A + C + 1) ∧ ((a.den : Int) * c.den).natAbs < 2 ^ (A + C + 1) := by
  rw [natAbs_natAbs]
  have h1 : (c.num * (a.den : Int)).natAbs < 2 ^ (A + C) := by
    have := mulB hc.1 (show (a.den : Int).natAbs < 2 ^ A by simpa using ha.2)
    rwa [Nat.add_comm] at this
  exact ⟨subB (mulB ha.1 (by simpa using hc.2)) h1, Nat.lt_of_lt_of_le (denB ha hc) (Nat.pow_le_pow_right (by decide) (by omega))⟩
theorem left_between {f : Str → Tr} (hf : ∀ n, (f n).Ok) {row : List Str} (hr : row ≠ []) {x lo hi : Rat} (h1 : lo ≤ x) (h2 : x ≤ hi) (h3 : lo ≤ stand f row) (h4 : stand f row ≤ hi) : lo ≤ left f row x ∧ left f row x ≤ hi := by
  have e := near_step hf hr x
  have k0 := keepR_pos hf (row := row)
  have k1 := keepR_le hf (row := row)
  have a1 := Rat.mul_nonneg (Rat.le_of_lt k0) (show 0 ≤ hi - x by grind)
  have a2 := Rat.mul_nonneg (show 0 ≤ 1 - keepR f row by grind) (show 0 ≤ hi - stand f row by grind)
  have a3 := Rat.mul_nonneg (Rat.le_of_lt k0) (show 0 ≤ x - lo by grind)
  have a4 := Rat.mul_nonneg (show 0 ≤ 1 - keepR f row by grind) (show 0 ≤ stand f row - lo by grind)
  constructor <;> grind
theorem course_between {b : Bk} (hb : b.Ok) {ws : List (List Str)} {m q : Nat} (hw : WorksOk b ws m q) {i : Nat} {lo hi : Rat} (hs : ∀ r ∈ ws, lo ≤ stand (b.tr i) r ∧ stand (b.tr i) r ≤ hi) : ∀ {cs : List Nat} {xs : List Rat}, (∀ c ∈ cs, c < ws.length) → i < xs.length → lo ≤ ld xs i → ld xs i ≤ hi → lo ≤ ld (courseLeft b ws cs xs) i ∧ ld (courseLeft b ws cs xs) i ≤ hi
  | [], xs, _, _, h1, h2 => ⟨h1, h2⟩
  | c :: cs, xs, hc, hi', h1, h2 => by
    have hcw := hc c (.head _)
    have hr := hw.get hcw
    have hm : ws.getD c [] ∈ ws := by rw [getD_get hcw]; exact List.getElem_mem hcw
    have h3 := left_between (tr_ok hb i) hr.ne h1 h2 (hs _ hm).1 (hs _ hm).2
    rw [← leftAll_ld (row := ws.getD c []) hi'] at h3
    exact course_between hb hw hs (cs := cs) (xs := leftAll b (ws.getD c []) xs) (fun d hd => hc d (.tail _ hd)) (by rw [leftAll_len]; exact hi') h3.1 h3.2
/-! ### draws of the second and the third group -/
/-- where the draws come from -/
def Pw (n : Nat) (ds : List D) : Prop := ∃ a m c : Int, ds = [.int a, .int m, .int c] ∧ 0 ≤ a ∧ 0 ≤ m ∧ m < 2147483648 ∧ 0 ≤ c ∧ c ≤ n
theorem Pw.mono {n m : Nat} {ds : List D} (h : Pw n ds) (hm : n ≤ m) : Pw m ds := by
  obtain ⟨a, q, c, rfl, h1, h2, h3, h4, h5⟩ := h
  exact ⟨a, q, c, rfl, h1, h2, h3, h4, by omega⟩
theorem law_dip (k : Nat) {n : Nat} {ds : List D} (hp : Pw n ds) (hn : n ≤ 1000000000) (top : Int) (h1 : 0 < top) (h2 : top < 1073741824) :
    ResW (call G (k + 1) (.glob "_law_dip") [.par ds, .dat (.int top)]) (fun r as => ∃ x ds', r = .dat (.int x) ∧ as = [.par ds', .dat (.int top)] ∧ 0 ≤ x ∧ x < top ∧ Pw (n + 1) ds') := by
  obtain ⟨a, m, c, rfl, h3, h4, h5, h6, h7⟩ := hp
  refine run_globQ g_law_dip rfl (by decide) fun Q hQ => ?_
  simp -dsimp -implicitDefEqProofs [f_law_dip]
  refine ⟨fun ha => ?_, fun ha => ?_⟩
  · simp -dsimp -implicitDefEqProofs [h1, h2]
    exact hQ _ _ ⟨_, _, rfl, rfl, Int.emod_nonneg _ (by omega), Int.emod_lt_of_pos _ h1, _, _, _, rfl, Int.ediv_nonneg h3 (by omega), h4, h5, h6, by omega⟩
  · have m1 : mulOk m 48271 = true := mulOk_of (A := 31) (B := 16) (by omega) (by decide) (by omega)
    have m2 : mulOk 7919 (c + 1) = true := mulOk_of (A := 13) (B := 31) (by decide) (by omega) (by omega)
    have d1 : divOk 163 = true := by decide +kernel
    simp -dsimp -implicitDefEqProofs [m1, m2, d1, h1]
    exact hQ _ _ ⟨_, _, rfl, rfl, Int.emod_nonneg _ (by omega), Int.emod_lt_of_pos _ h1, _, _, _, rfl, h3, Int.emod_nonneg _ (by decide), Int.lt_trans (Int.emod_lt_of_pos _ (by decide)) (by decide), by omega, by omega⟩
theorem law_one (k : Nat) {n : Nat} {ds : List D} (hp : Pw n ds) (hn : n ≤ 1000000000) (xs : List D) (d : D) (hd : d = .list xs ∨ d = .tuple xs) (h1 : xs ≠ []) (h2 : xs.length ≤ 1000) :
    ResW (call G (k + 2) (.glob "_law_one") [.par ds, .dat d]) (fun r as => ∃ x ds', r = .dat x ∧ as = [.par ds', .dat d] ∧ x ∈ xs ∧ Pw (n + 1) ds') := by
  refine run_globQ g_law_one rfl (by decide) fun Q hQ => ?_
  have hl : 0 < xs.length := List.length_pos_iff.mpr h1
  have key : ∀ x : Int, 0 ≤ x → x < xs.length → ∃ y, L2.atI xs x = some y ∧ y ∈ xs := fun x h3 h4 => by
    obtain ⟨j, rfl⟩ := Int.eq_ofNat_of_zero_le h3
    have hj : j < xs.length := by omega
    exact ⟨xs[j], by rw [atI_n, List.getElem?_eq_getElem hj], List.getElem_mem hj⟩
  rcases hd with rfl | rfl
  · simp -dsimp -implicitDefEqProofs [f_law_one]
    refine (law_dip k hp hn xs.length (by omega) (by omega)).mono ?_
    rintro _ _ ⟨x, ds', rfl, rfl, h3, h4, h5⟩
    obtain ⟨y, e, hy⟩ := key x h3 h4
    simp -dsimp -implicitDefEqProofs [e]
    exact hQ _ _ ⟨_, _, rfl, rfl, hy, h5⟩
  · simp -dsimp -implicitDefEqProofs [f_law_one]
    refine (law_dip k hp hn xs.length (by omega) (by omega)).mono ?_
    rintro _ _ ⟨x, ds', rfl, rfl, h3, h4, h5⟩
    obtain ⟨y, e, hy⟩ := key x h3 h4
    simp -dsimp -implicitDefEqProofs [e]
    exact hQ _ _ ⟨_, _, rfl, rfl, hy, h5⟩
theorem law_one_s (k : Nat) {n : Nat} {ds : List D} (hp : Pw n ds) (hn : n ≤ 1000000000) (s : Str) (h1 : 0 < s.length) (h2 : s.length ≤ 1000) :
    ResW (call G (k + 2) (.glob "_law_one") [.par ds, .dat (.str s)]) (fun r as => ∃ x ds', r = .dat (.str ⟨#[x]⟩) ∧ as = [.par ds', .dat (.str s)] ∧ x ∈ s.cps.toList ∧ Pw (n + 1) ds') := by
  refine run_globQ g_law_one rfl (by decide) fun Q hQ => ?_
  have hs : s.length ≤ sizeLine := small_line h2
  have e0 : s.length = s.cps.toList.length := by simp [Str.length]
  simp -dsimp -implicitDefEqProofs [f_law_one, hs]
  refine (law_dip k hp hn s.length (by omega) (by omega)).mono ?_
  rintro _ _ ⟨x, ds', rfl, rfl, h3, h4, h5⟩
  obtain ⟨j, rfl⟩ := Int.eq_ofNat_of_zero_le h3
  have hj : j < s.cps.toList.length := by omega
  obtain ⟨c, e5, e6⟩ : ∃ c, L2.atI s.cps.toList (j : Int) = some c ∧ c ∈ s.cps.toList := ⟨_, by rw [atI_n, List.getElem?_eq_getElem hj], List.getElem_mem hj⟩
  simp -dsimp -implicitDefEqProofs [e5, hs]
  exact hQ _ _ ⟨_, _, rfl, rfl, e6, h5⟩
/-! fractions -/
theorem euclid_step {x y m : Nat} (hy : 0 < y) (hxy : y ≤ x) (h : x * y < 2 ^ m) : ∃ m', m' < m ∧ x % y ≤ y ∧ y * (x % y) < 2 ^ m' := by
  have h1 : x % y < y := Nat.mod_lt _ hy
  have h2 : 2 * (x % y) < x := by
    have := Nat.div_add_mod x y
    have h3 : 1 ≤ x / y := (Nat.one_le_div_iff hy).mpr hxy
    have h4 : y * 1 ≤ y * (x / y) := Nat.mul_le_mul_left _ h3
    omega
  cases m with
  | zero =>
    have : 0 < x * y := Nat.mul_pos (by omega) hy
    omega
  | succ m =>
    refine ⟨m, by omega, by omega, ?_⟩
    have h5 : y * (2 * (x % y)) < y * x := Nat.mul_lt_mul_of_pos_left h2 hy
    have h6 : y * (2 * (x % y)) = 2 * (y * (x % y)) := by rw [Nat.mul_left_comm]
    rw [Nat.mul_comm] at h
    rw [Nat.pow_succ] at h
    omega
theorem law_low (k : Nat) (n d : Int) (hd : 0 < d) {B : Nat} (h1 : n.natAbs < 2 ^ B) (h2 : d.natAbs < 2 ^ B) (hB : B ≤ 8900) : call G (k + 1) (.glob "_law_low") [.dat (.int n), .dat (.int d)] = .ok (.dat (fr ((n : Rat) / (d : Rat)))) [.dat (.int n), .dat (.int d)] := by
  rw [← ResW_eq]
  refine run_glob g_law_low rfl (by decide) ?_
  simp -dsimp -implicitDefEqProofs [f_law_low]
  obtain ⟨e, rfl⟩ : ∃ e : Nat, d = e := ⟨d.toNat, by omega⟩
  have hprod : n.natAbs * e < 2 ^ (B + B) := by
    rw [Nat.pow_add]
    exact Nat.mul_lt_mul'' h1 h2
  refine FlW_whl (fun m ρ => ∃ x y : Nat, ρ = [some (.dat (.int n)), some (.dat (.int e)), some (.dat (.int x)), some (.dat (.int y))] ∧ Nat.gcd x y = Nat.gcd n.natAbs e ∧ ((y ≤ x ∧ x * y < 2 ^ m) ∨ (1 ≤ m ∧ x < y ∧ y * x < 2 ^ (m - 1))))
    (fun ρ => ρ = [some (.dat (.int n)), some (.dat (.int e)), some (.dat (.int (Nat.gcd n.natAbs e : Nat))), some (.dat (.int 0))]) (fun m ρ hj => ?_) (fun ρ hj => ?_) _ (B + B + 1) _ (by show B + B + 1 < 100000; omega) ?_
  · obtain ⟨x, y, rfl, hg, hm⟩ := hj
    simp -dsimp -implicitDefEqProofs
    refine ⟨fun hy => ?_, fun hy => ?_⟩
    · have key : ∃ m', m' < m ∧ x % y ≤ y ∧ y * (x % y) < 2 ^ m' := by
        rcases hm with ⟨a, b⟩ | ⟨a, b, c⟩
        · exact euclid_step hy a b
        · exact ⟨m - 1, by omega, by rw [Nat.mod_eq_of_lt b]; omega, by rw [Nat.mod_eq_of_lt b]; exact c⟩
      obtain ⟨m', a1, a2, a3⟩ := key
      exact ⟨hy, m', a1, y, x % y, rfl, by rw [← hg, Nat.gcd_comm y, ← Nat.gcd_rec, Nat.gcd_comm], .inl ⟨a2, a3⟩⟩
    · subst hy
      rw [Nat.gcd_zero_right] at hg
      show _ = _
      rw [hg]
      rfl
  · subst hj
    have hg0 : (0 : Int) < (Nat.gcd n.natAbs e : Nat) := by
      have := Nat.gcd_pos_of_pos_right n.natAbs (show 0 < e by omega)
      omega
    have hgl : ((Nat.gcd n.natAbs e : Nat) : Int).natAbs < 2 ^ B := by
      have := Nat.le_of_dvd (show 0 < e by omega) (Nat.gcd_dvd_right n.natAbs e)
      rw [Int.natAbs_natCast] at h2 ⊢
      omega
    have dk := divOk_of hg0 hgl (by omega)
    have e1 := low_num n e hd
    have e2 := low_den n e hd
    have eg : (Int.gcd n e : Int) = (Nat.gcd n.natAbs e : Nat) := rfl
    rw [eg] at e1 e2
    simp -dsimp -implicitDefEqProofs [dk, e1, e2]
    rfl
  · refine ⟨n.natAbs, e, rfl, rfl, ?_⟩
    by_cases h : e ≤ n.natAbs
    · exact .inl ⟨h, Nat.lt_of_lt_of_le hprod (Nat.pow_le_pow_right (by decide) (by omega))⟩
    · exact .inr ⟨by omega, by omega, by rw [Nat.mul_comm]; exact hprod⟩
theorem law_add (k : Nat) (a b : Rat) {A B : Nat} (ha : Fz A a) (hb : Fz B b) (h : A + B ≤ 8000) : call G (k + 2) (.glob "_law_add") [.dat (fr a), .dat (fr b)] = .ok (.dat (fr (a + b))) [.dat (fr a), .dat (fr b)] := by
  rw [← ResW_eq]
  refine run_glob g_law_add rfl (by decide) ?_
  obtain ⟨m1, m2, m3, _⟩ := fz_ok ha hb h
  have h1 : (b.num * (a.den : Int)).natAbs < 2 ^ (A + B) := by
    have := mulB hb.1 (show (a.den : Int).natAbs < 2 ^ A by simpa using ha.2)
    rwa [Nat.add_comm] at this
  have e := law_low k _ _ (den_mul_pos a b) (addB (mulB ha.1 (show (b.den : Int).natAbs < 2 ^ B by simpa using hb.2)) h1) (Nat.lt_of_lt_of_le (denB ha hb) (Nat.pow_le_pow_right (by decide) (by omega))) (by omega)
  rw [add_low] at e
  simp -dsimp -implicitDefEqProofs [f_law_add, m1, m2, m3, e]
theorem law_take (k : Nat) (a b : Rat) {A B : Nat} (ha : Fz A a) (hb : Fz B b) (h : A + B ≤ 8000) : call G (k + 2) (.glob "_law_take") [.dat (fr a), .dat (fr b)] = .ok (.dat (fr (a - b))) [.dat (fr a), .dat (fr b)] := by
  rw [← ResW_eq]
  refine run_glob g_law_take rfl (by decide) ?_
  obtain ⟨m1, m2, m3, _⟩ := fz_ok ha hb h
  have h1 : (b.num * (a.den : Int)).natAbs < 2 ^ (A + B) := by
    have := mulB hb.1 (show (a.den : Int).natAbs < 2 ^ A by simpa using ha.2)
    rwa [Nat.add_comm] at this
  have e := law_low k _ _ (den_mul_pos a b) (subB (mulB ha.1 (show (b.den : Int).natAbs < 2 ^ B by simpa using hb.2)) h1) (Nat.lt_of_lt_of_le (denB ha hb) (Nat.pow_le_pow_right (by decide) (by omega))) (by omega)
  rw [sub_low] at e
  simp -dsimp -implicitDefEqProofs [f_law_take, m1, m2, m3, e]
theorem law_by (k : Nat) (a b : Rat) {A B : Nat} (ha : Fz A a) (hb : Fz B b) (h : A + B ≤ 8000) : call G (k + 2) (.glob "_law_by") [.dat (fr a), .dat (fr b)] = .ok (.dat (fr (a * b))) [.dat (fr a), .dat (fr b)] := by
  rw [← ResW_eq]
  refine run_glob g_law_by rfl (by decide) ?_
  obtain ⟨_, _, m3, m4⟩ := fz_ok ha hb h
  have e := law_low k _ _ (den_mul_pos a b) (mulB ha.1 hb.1) (denB ha hb) (by omega)
  rw [mul_low] at e
  simp -dsimp -implicitDefEqProofs [f_law_by, m3, m4, e]
/-! ### names of the third group -/
def cand (w : Str) (e c : Nat) : Str := ⟨(w.cps.toList.take 6 ++ [c, e]).toArray⟩
def Lw (w : Str) : Prop := w.cps.toList ≠ [] ∧ (∀ c ∈ w.cps.toList, 97 ≤ c ∧ c ≤ 122) ∧ w.length ≤ 8
theorem Lw.name {w : Str} (h : Lw w) (hn : w ∉ words) : NameOk w := ⟨h.1, h.2.1, h.2.2, hn⟩
theorem Lw.sh {w : Str} (h : Lw w) : SeqAt.shaped (.str w) = true := shaped_str fun c hc => by
  have := h.2.1 c hc
  omega
theorem cand_lw {w : Str} (h : ∀ c ∈ w.cps.toList, 97 ≤ c ∧ c ≤ 122) {e c : Nat} (he : 97 ≤ e ∧ e ≤ 122) (hc : 97 ≤ c ∧ c ≤ 122) : Lw (cand w e c) := by
  refine ⟨by simp [cand], fun x hx => ?_, ?_⟩
  · have hx2 : x ∈ w.cps.toList.take 6 ++ [c, e] := hx
    rcases List.mem_append.mp hx2 with hx2 | hx2
    · exact h x (List.mem_of_mem_take hx2)
    · simp only [List.mem_cons, List.not_mem_nil, or_false] at hx2
      rcases hx2 with rfl | rfl
      · exact hc
      · exact he
  · show (w.cps.toList.take 6 ++ [c, e]).toArray.size ≤ 8
    simp
    omega
theorem cand_new {w : Str} {c : Nat} : cand w 113 c ∉ words := fun hw => by
  have key : ∀ x ∈ words, x.cps.toList.getLast? ≠ some 113 := by decide +kernel
  refine key _ hw ?_
  show (w.cps.toList.take 6 ++ [c, 113]).getLast? = some 113
  rw [List.getLast?_append]
  rfl
theorem cand_inj {w : Str} {e c d : Nat} (h : cand w e c = cand w e d) : c = d := by
  have h1 : w.cps.toList.take 6 ++ [c, e] = w.cps.toList.take 6 ++ [d, e] := by
    have := congrArg (fun s : Str => s.cps.toList) h
    simpa [cand] using this
  have h2 := List.append_cancel_left h1
  exact (List.cons.inj h2).1
theorem length_le_of_sub {α : Type} [DecidableEq α] : ∀ {l m : List α}, l.Nodup → (∀ x ∈ l, x ∈ m) → l.length ≤ m.length
  | [], _, _, _ => Nat.zero_le _
  | x :: l, m, h, hs => by
    rw [List.nodup_cons] at h
    have hx := hs x (.head _)
    have ih := length_le_of_sub (l := l) (m := m.erase x) h.2 fun y hy => (List.mem_erase_of_ne fun e => h.1 (by rw [← e]; exact hy)).mpr (hs y (.tail _ hy))
    rw [List.length_erase_of_mem hx] at ih
    have := List.length_pos_of_mem hx
    rw [List.length_cons]
    omega
theorem fresh_of {α : Type} [DecidableEq α] {l m : List α} (h : l.Nodup) (hl : m.length < l.length) : ∃ x ∈ l, x ∉ m := by
  by_cases hc : ∀ x ∈ l, x ∈ m
  · have := length_le_of_sub h hc
    omega
  · simp only [Classical.not_forall] at hc
    obtain ⟨x, hx, hn⟩ := hc
    exact ⟨x, hx, hn⟩
def abc : List Nat := (List.range 26).map (97 + ·)
theorem abc_mem {c : Nat} (h : c ∈ abc) : 97 ≤ c ∧ c ≤ 122 := by
  obtain ⟨i, hi, rfl⟩ := List.mem_map.mp h
  have := List.mem_range.mp hi
  omega
theorem abc_chars : chars ("abcdefghijklmnopqrstuvwxyz" : Str) = abc.map fun c => PyData.str ⟨#[c]⟩ := letters_eq
theorem abc_list : ("abcdefghijklmnopqrstuvwxyz" : Str).cps.toList = abc := by decide +kernel
def somes (w : Str) : List Str := [w] ++ abc.map (cand w 113) ++ abc.map (cand w 122)
theorem somes_lw {w : Str} (h : Lw w) : ∀ x ∈ somes w, Lw x := fun x hx => by
  unfold somes at hx
  rcases List.mem_append.mp hx with hx | hx
  · rcases List.mem_append.mp hx with hx | hx
    · rw [List.mem_singleton.mp hx]
      exact h
    · obtain ⟨c, hc, rfl⟩ := List.mem_map.mp hx
      exact cand_lw h.2.1 (by decide) (abc_mem hc)
  · obtain ⟨c, hc, rfl⟩ := List.mem_map.mp hx
    exact cand_lw h.2.1 (by decide) (abc_mem hc)
theorem somes_fresh (w : Str) (ns : List Str) (hl : ns.length < 26) : ∃ x ∈ somes w, x ∉ ns ++ words := by
  have nd : (abc.map (cand w 113)).Nodup := by
    unfold List.Nodup
    rw [List.pairwise_map]
    have h0 : abc.Nodup := by decide +kernel
    exact h0.imp fun h e => h (cand_inj e)
  obtain ⟨x, hx, hn⟩ := fresh_of nd (show ns.length < (abc.map (cand w 113)).length by rw [List.length_map]; exact hl)
  refine ⟨x, ?_, fun h => ?_⟩
  · unfold somes
    exact List.mem_append_left _ (List.mem_append_right _ hx)
  · rcases List.mem_append.mp h with h | h
    · exact hn h
    · obtain ⟨c, hc, rfl⟩ := List.mem_map.mp hx
      exact cand_new h
theorem any_str (l : List Str) (w : Str) : ((l.map PyData.str).any fun y => PyData.eqv y (.str w)) = decide (w ∈ l) := by
  induction l with
  | nil => rfl
  | cons x r ih =>
    rw [List.map_cons, List.any_cons, ih, eqv_str]
    by_cases h : x = w
    · subst h
      simp
    · have h3 : ¬ w = x := fun e => h e.symm
      simp [h, h3]
theorem strs_sh {l : List Str} (h : ∀ x ∈ l, ∀ c ∈ x.cps.toList, c < 1114112) : SeqAt.shaped (.list (l.map PyData.str)) = true :=
  (Sh.lst (n := 0) fun d hd => by
    obtain ⟨p, hp, rfl⟩ := List.mem_map.mp hd
    have h1 := shaped_str (h p hp)
    simp only [SeqAt.shaped, Bool.and_eq_true] at h1
    exact ⟨h1.1, Nat.zero_le _⟩).sh (by omega)
theorem words_lt : ∀ x ∈ words, ∀ c ∈ x.cps.toList, c < 1114112 := by decide +kernel
theorem sum_ones (t : List Nat) : (List.map (fun x => Str.length x) (t.map fun c => (⟨#[c]⟩ : Str))).sum = t.length := by
  induction t with
  | nil => rfl
  | cons a t ih =>
    simp only [List.map_cons, List.sum_cons, ih, List.length_cons]
    show 1 + t.length = _
    omega
theorem cand_eq {w : Str} {c e : Nat} : ((⟨(w.cps.toList.take 6).toArray⟩ : Str) ++ (⟨#[c]⟩ : Str)) ++ (⟨#[e]⟩ : Str) = cand w e c := by
  refine congrArg Str.mk ?_
  show ((w.cps.toList.take 6).toArray ++ #[c]) ++ #[e] = (w.cps.toList.take 6 ++ [c, e]).toArray
  apply Array.toList_inj.mp
  simp
theorem law_words (k : Nat) {n : Nat} {ds : List D} (hp : Pw n ds) (many : Nat) (hm : many ≤ 20) (hn : n ≤ 999990000) :
    ResW (call G (k + 3) (.glob "_law_words") [.par ds, .dat (.int many)]) (fun r as => ∃ (ns : List Str) (ds' : List D), r = .dat (.tuple (ns.map PyData.str)) ∧ as = [.par ds', .dat (.int many)] ∧ ns.length = many ∧ asc ns ∧ (∀ x ∈ ns, NameOk x) ∧ Pw (n + 20 * many) ds') := by
  refine run_globQ g_law_words rfl (by decide) fun Q hQ => ?_
  simp -dsimp -implicitDefEqProofs [f_law_words]
  refine ⟨r62 (by omega) (by omega), ?_⟩
  refine FlW_rng (fun i ρ => ∃ (ns : List Str) (ds' : List D), ρ = [some (.par ds'), some (.dat (.int many)), some (.dat (.str "abcdefghijklmnopqrstuvwxyz")), some (.own (ns.map PyData.str)), some (.dat (.list (words.map PyData.str))), none, none, none, none, none, none] ∧ ns.length = i ∧ ns.Nodup ∧ (∀ x ∈ ns, NameOk x) ∧ Pw (n + 20 * i) ds') (fun i hi ρ hj => ?_) (fun ρ hj => ?_) ⟨[], ds, rfl, rfl, List.nodup_nil, by simp, hp⟩
  · obtain ⟨ns, ds1, rfl, hl, hnd, hok, hp1⟩ := hj
    generalize hW : words.map PyData.str = W at *
    simp -dsimp -implicitDefEqProofs
    refine (law_one k hp1 (by omega) [.int 2, .int 3, .int 8] _ (.inl rfl) (by simp) (by simp)).mono ?_
    rintro _ _ ⟨x, ds2, rfl, rfl, hx, hp2⟩
    obtain ⟨j, rfl, hj1, hj2⟩ : ∃ j : Int, x = .int j ∧ 0 < j ∧ j ≤ 8 := by
      simp only [List.mem_cons, List.not_mem_nil, or_false] at hx
      rcases hx with rfl | rfl | rfl <;> exact ⟨_, rfl, by omega, by omega⟩
    simp -dsimp -implicitDefEqProofs
    refine (law_dip (k + 1) hp2 (by omega) j hj1 (by omega)).mono ?_
    rintro _ _ ⟨a, ds3, rfl, rfl, ha0, ha1, hp3⟩
    obtain ⟨a, rfl⟩ := Int.eq_ofNat_of_zero_le ha0
    have ea : (1 + (a : Int)) = ((1 + a : Nat) : Int) := by omega
    simp -dsimp -implicitDefEqProofs
    rw [ea]
    refine ⟨r62 (by omega) (by omega), ?_⟩
    refine OutW_lcR (fun i' done ρ => ∃ (t : List Nat) (ds' : List D), done = (t.map fun c => PyData.str ⟨#[c]⟩) ∧ ρ = [some (.par ds'), some (.dat (.int many)), some (.dat (.str "abcdefghijklmnopqrstuvwxyz")), some (.own (ns.map PyData.str)), some (.dat (.list W)), some (.dat (.int i)), none, none, none, none, none] ∧ t.length = i' ∧ (∀ c ∈ t, 97 ≤ c ∧ c ≤ 122) ∧ Pw (n + 20 * i + 2 + i') ds') (fun i' hi' done ρ hj => ?_) (fun done ρ hj => ?_) ⟨[], ds3, rfl, rfl, rfl, by simp, hp3⟩
    · obtain ⟨t, ds4, rfl, rfl, ht, htl, hp4⟩ := hj
      simp -dsimp -implicitDefEqProofs
      refine (law_one_s k hp4 (by omega) "abcdefghijklmnopqrstuvwxyz" (by decide +kernel) (by decide +kernel)).mono ?_
      rintro _ _ ⟨c, ds5, rfl, rfl, hc, hp5⟩
      rw [abc_list] at hc
      simp -dsimp -implicitDefEqProofs
      refine ⟨t ++ [c], ds5, by simp, rfl, by simp [ht], fun q hq => ?_, hp5⟩
      rcases List.mem_append.mp hq with hq | hq
      · exact htl q hq
      · rw [List.mem_singleton.mp hq]
        exact abc_mem hc
    · obtain ⟨t, ds4, rfl, rfl, ht, htl, hp4⟩ := hj
      have l0 : ("" : Str).length = 0 := by decide +kernel
      have ls : (List.map (fun x => Str.length x) (t.map fun c => (⟨#[c]⟩ : Str))).sum ≤ 16777216 := by
        rw [sum_ones]
        omega
      have ht9 : t.length ≤ 10000 := by omega
      have hw : Lw ⟨t.toArray⟩ := ⟨by intro e; have e2 : t = [] := e; rw [e2, List.length_nil] at ht; omega, htl, by show t.toArray.size ≤ 8; simp; omega⟩
      have wl : Str.length (⟨t.toArray⟩ : Str) ≤ 10000 := by have := hw.2.2; omega
      have ec : ∀ w : Str, cut w.cps.toList none (some (6 : Int)) = w.cps.toList.take 6 := fun w => by
        unfold cut
        rw [HT.sIx_none, show (6 : Int) = ((6 : Nat) : Int) from rfl, HT.sIx_nat, List.drop_zero]
        simp
      simp -dsimp -implicitDefEqProofs only [↓s_asg_x, ↓s_asgO_x, ↓s_parl, ↓s_setx_x, ↓s_expr_x, ↓s_ret_x, ↓s_ite, ↓s_for_x, ↓s_while_x, ↓s_defn_x, ↓s_pass_x, ↓s_forget_x, ↓s_nil, ↓s_cons, ↓w_lit, ↓w_gc, ↓w_var, ↓w_mov, ↓w_bin, ↓w_cmp, ↓w_cmp2, ↓w_neg, ↓w_not, ↓w_and_x, ↓w_or_x, ↓w_ite, ↓w_tup, ↓w_lst, ↓w_ix, ↓w_ixv, ↓w_slc, ↓w_rev, ↓w_slv, ↓w_lenv, ↓w_isi, ↓w_blt, ↓w_mth, ↓w_mut, ↓w_call, ↓w_callv, ↓w_call1, ↓w_lc, ↓w_dc, ↓w_Lnil, ↓w_Lcons, ↓w_Cnil, ↓w_Ccons, ↓w_Anil, ↓w_Ad, ↓w_Amv, ↓w_Afg, ↓w_Afv, ↓w_Alam, ↓w_Amade, ↓w_Iseq, ↓w_Irng, ↓w_Irng2, ↓w_Ienum, ↓w_Izip, ↓w_EsNil, ↓w_EsCons, ↓w_callP, ↓w_forB, ↓w_lcB, ↓w_dcB, ↓w_whC, ↓OptW_some, ↓OptW_if, ↓OptW_map, ↓BoolW_true, ↓BoolW_false, ↓BoolW_bool, ↓IntW_int, ↓SlotW_dat, ↓SlotW_own, ↓FreshW_fresh, ↓OutW_ok, ↓FlW_nx, ↓FlW_rt, ↓ResW_ok, ↓OutW_bind, ↓OutW_frz, EV.frz, permute, slotsOf, PArgs.now, PArg.now, PArgs.back, outA, argSV, T_nm, T_tup, T_at, T_nil, T_cons, setE, setEs, isPar, mutOf, mutPut, readL, capOf, b_add, b_adds, b_addt, b_addl, b_sub, b_mul, b_div, b_mod, b_pow, c_eq, c_ne, c_lt, c_le, c_gt, c_ge, c_lts, c_is, c_isnot, c_ins, c_nins, c_inl, c_int, c_ninl, c_nint, i_int, i_bool, i_str_x, i_tuple, i_list_x, x_list, x_tuple, x_str, x_dicts, x_dicti, t_len_l, t_len_t, t_len_s, t_abs, t_int, t_intb, t_max, t_min, t_sum, t_all, t_any, t_list_l, t_list_t, t_list_s, t_tuple_l, t_tuple_t, t_divmod, t_gcd, t_repr, t_dict_l, t_dict_t, t_sorted, m_index_x, m_join_x, u_append_x, u_pop_x, u_pop0, u_extend_x, o_none_x, o_int, l_l, l_t, l_s, r_l, r_t, q_l, q_t, q_s, k_l, k_t, ok_none, ok_int, sh_int, sh_none, sh_bool, sh_nil, sh_unit, shaped_fr, eqv_int, eqv_fr, x_B0, x_B1, x_P0, x_P1, x_D0, x_D1, x_T0, x_T1, x_T2, x_f0, x_f1, x_R, q_R, k_R, t_R, b_R, r_R, T_B, T_P, T_D, T_T, T_f, le_sz, lt_sz, wipeE, restE, List.getD_cons_zero, List.getD_cons_succ, List.map_cons, List.map_nil, List.cons_append, List.nil_append, List.replicate, List.getElem?_cons_zero, List.getElem?_cons_succ, List.set_cons_zero, List.set_cons_succ, List.length_cons, List.length_nil, atI_0, atI_1, atI_2, ixN_0, ixN_1, ixN_2, strs_map t (fun c => (⟨#[c]⟩ : Str)), Option.bind_some, l0, Nat.mul_zero, Nat.add_zero, ls, if_true, join_chars, List.length_map, ht9, abc_chars]
      generalize hwd : (⟨t.toArray⟩ : Str) = w at *
      have lq : ("q" : Str) = ⟨#[113]⟩ := by decide +kernel
      have lz : ("z" : Str) = ⟨#[122]⟩ := by decide +kernel
      have k1 : Str.length (⟨(w.cps.toList.take 6).toArray⟩ : Str) ≤ 6 := by
        show (w.cps.toList.take 6).toArray.size ≤ 6
        simp
        omega
      have k2 : ∀ c : Nat, Str.length (⟨(w.cps.toList.take 6).toArray⟩ : Str) + Str.length (⟨#[c]⟩ : Str) ≤ 10000 := fun c => by
        have : Str.length (⟨#[c]⟩ : Str) = 1 := rfl
        omega
      have k3 : ∀ c e : Nat, Str.length ((⟨(w.cps.toList.take 6).toArray⟩ : Str) ++ (⟨#[c]⟩ : Str)) + Str.length (⟨#[e]⟩ : Str) ≤ 10000 := fun c e => by
        rw [app_len]
        have h1 : Str.length (⟨#[c]⟩ : Str) = 1 := rfl
        have h2 : Str.length (⟨#[e]⟩ : Str) = 1 := rfl
        omega
      refine ⟨trivial, ?_⟩
      simp -dsimp -implicitDefEqProofs [abc_chars]
      refine OutW_map' (l := abc) (e := fun c => PyData.str ⟨#[c]⟩) (g := fun c => PyData.str (cand w 113 c)) (fun c hc => ?_) ?_
      · simp -dsimp -implicitDefEqProofs [wl, ec, k2 c, k3 c 113, lq, cand_eq]
      have la : (abc.map fun c => PyData.str (cand w 113 c)).length ≤ 10000 := by rw [List.length_map]; decide
      have lb : (abc.map fun c => PyData.str (cand w 113 c)).length + 1 ≤ 10000 := by rw [List.length_map]; decide
      have lc : (abc.map fun c => PyData.str (cand w 122 c)).length ≤ 10000 := by rw [List.length_map]; decide
      have ld : (abc.map fun c => PyData.str (cand w 113 c)).length + 1 + (abc.map fun c => PyData.str (cand w 122 c)).length ≤ 10000 := by rw [List.length_map, List.length_map]; decide
      refine ⟨le_sz la, ?_⟩
      generalize hA : (abc.map fun c => PyData.str (cand w 113 c)) = A at *
      simp -dsimp -implicitDefEqProofs [abc_chars]
      refine ⟨le_sz (by omega), ?_⟩
      refine OutW_map' (l := abc) (e := fun c => PyData.str ⟨#[c]⟩) (g := fun c => PyData.str (cand w 122 c)) (fun c hc => ?_) ?_
      · simp -dsimp -implicitDefEqProofs [wl, ec, k2 c, k3 c 122, lz, cand_eq]
      refine ⟨le_sz lc, ?_⟩
      have eS : PyData.str w :: (A ++ abc.map fun c => PyData.str (cand w 122 c)) = (somes w).map PyData.str := by
        rw [← hA]
        unfold somes
        simp [Function.comp_def]
      generalize hB : (abc.map fun c => PyData.str (cand w 122 c)) = B at *
      simp -dsimp -implicitDefEqProofs [ld, eS]
      have wlen : W.length = 32 := by rw [← hW]; decide
      have lns : ns.length + W.length ≤ 10000 := by omega
      obtain ⟨M, hM⟩ : ∃ M, M = (ns ++ words).map PyData.str := ⟨_, rfl⟩
      have enw : ns.map PyData.str ++ W = M := by rw [← hW, hM, List.map_append]
      have shN : SeqAt.shaped (.list M) = true := by
        rw [hM]
        refine strs_sh fun x hx c hc => ?_
        rcases List.mem_append.mp hx with hx | hx
        · have := (hok x hx).let_ c hc
          omega
        · exact words_lt x hx c hc
      have hany : ∀ x, (M.any fun y => PyData.eqv y (.str x)) = decide (x ∈ ns ++ words) := fun x => by rw [hM, any_str]
      refine OutW_filt (l := somes w) (e := PyData.str) (g := fun x => if decide (x ∉ ns ++ words) = true then some (.str x) else none) (fun x hx => ?_) ?_
      · have h1 := (somes_lw hw x hx).sh
        have h2 := hany x
        by_cases hh : x ∈ ns ++ words
        · rw [decide_eq_true hh] at h2
          have h3 : (if decide (x ∉ ns ++ words) = true then some (PyData.str x) else none) = none := if_neg fun h => absurd hh (of_decide_eq_true h)
          rw [h3]
          simp -dsimp -implicitDefEqProofs [lns, enw, h1, shN, h2]
        · rw [decide_eq_false hh] at h2
          have h3 : (if decide (x ∉ ns ++ words) = true then some (PyData.str x) else none) = some (.str x) := if_pos (decide_eq_true hh)
          rw [h3]
          simp -dsimp -implicitDefEqProofs [lns, enw, h1, shN, h2]
      rw [filterMap_if]
      obtain ⟨x, tl, hxt⟩ : ∃ x tl, (somes w).filter (fun x => decide (x ∉ ns ++ words)) = x :: tl := by
        obtain ⟨x, hx1, hx2⟩ := somes_fresh w ns (by omega)
        have hm : x ∈ (somes w).filter (fun x => decide (x ∉ ns ++ words)) := List.mem_filter.mpr ⟨hx1, decide_eq_true hx2⟩
        cases e : (somes w).filter (fun x => decide (x ∉ ns ++ words)) with
        | nil =>
          rw [e] at hm
          cases hm
        | cons x tl => exact ⟨x, tl, rfl⟩
      have hxm : x ∈ (somes w).filter (fun x => decide (x ∉ ns ++ words)) := by rw [hxt]; exact .head _
      obtain ⟨g1, g2⟩ := List.mem_filter.mp hxm
      have g3 : x ∉ ns ++ words := of_decide_eq_true g2
      have hlen : (x :: tl).length ≤ 53 := by
        rw [← hxt]
        exact Nat.le_trans (List.length_filter_le _ _) (by unfold somes; simp [abc])
      have hxo : NameOk x := (somes_lw hw x g1).name fun h => g3 (List.mem_append_right _ h)
      rw [hxt]
      have hl2 : (List.map PyData.str (x :: tl)).length ≤ 10000 := by rw [List.length_map]; omega
      have hl3 : ns.length ≤ 10000 := by omega
      refine ⟨le_sz hl2, ?_⟩
      simp -dsimp -implicitDefEqProofs [hl3]
      refine ⟨ns ++ [x], ds4, by rw [List.map_append]; rfl, by simp [hl], ?_, fun y hy => ?_, hp4.mono (by omega)⟩
      · rw [List.nodup_append]
        refine ⟨hnd, by simp, fun y hy z hz e => ?_⟩
        rw [List.mem_singleton.mp hz] at e
        exact g3 (List.mem_append_left _ (by rw [← e]; exact hy))
      · rcases List.mem_append.mp hy with hy | hy
        · exact hok y hy
        · rw [List.mem_singleton.mp hy]
          exact hxo
  · obtain ⟨ns, ds1, rfl, hl, hnd, hok, hp1⟩ := hj
    have es := sorted_strs (l := ns) (by omega)
    simp -dsimp -implicitDefEqProofs [es]
    have hpm := List.mergeSort_perm ns strLe
    exact hQ _ _ ⟨ns.mergeSort strLe, ds1, rfl, rfl, by rw [hpm.length_eq, hl], sorted_asc hnd, fun x hx => hok x (hpm.mem_iff.mp hx), hp1⟩
/-! ### books of the third group -/
theorem law_book (k : Nat) {n : Nat} {ds : List D} (hp : Pw n ds) (most : Nat) (hm : 2 ≤ most ∧ most ≤ 6) (hn : n ≤ 999000000) :
    ResW (call G (k + 4) (.glob "_law_book") [.par ds, .dat (.int most)]) (fun r as => ∃ b ds', r = .dat (encB b) ∧ as = [.par ds', .dat (.int most)] ∧ b.Ok ∧ (2 ≤ b.deeds.length ∧ b.deeds.length ≤ most) ∧ (∃ d ∈ b.deeds, ∀ t ∈ d.2, t.a = 0) ∧ (∀ p ∈ b.parts, p.2 ≤ 90) ∧ (∀ d ∈ b.deeds, ∀ t ∈ d.2, t.a ≤ 19) ∧ Pw (n + 500) ds') := by
  refine run_globQ g_law_book rfl (by decide) fun Q hQ => ?_
  simp -dsimp -implicitDefEqProofs [f_law_book]
  refine (law_dip (k + 2) hp (by omega) 3 (by decide) (by decide)).mono ?_
  rintro _ _ ⟨a, ds1, rfl, rfl, ha0, ha1, hp1⟩
  obtain ⟨a, rfl⟩ := Int.eq_ofNat_of_zero_le ha0
  have ea : (1 + (a : Int)) = ((1 + a : Nat) : Int) := by omega
  simp -dsimp -implicitDefEqProofs
  rw [ea]
  refine (law_words k hp1 (1 + a) (by omega) (by omega)).mono ?_
  rintro _ _ ⟨ps, ds2, rfl, rfl, psl, psa, pso, hp2⟩
  simp -dsimp -implicitDefEqProofs
  refine OutW_lcL (l := ps) (e := PyData.str) (fun pre done ρ => ∃ (parts : List (Str × Int)) (ds' : List D), done = parts.map encP ∧ ρ = [some (.par ds'), some (.dat (.int most)), some (.dat (.tuple (ps.map PyData.str))), none, none, none, none, none, none, none, none, none] ∧ parts.map (·.1) = pre ∧ (∀ p ∈ parts, 1 ≤ p.2 ∧ p.2 ≤ 90) ∧ Pw (n + 70 + 2 * pre.length) ds') (fun pre x post done ρ h1 hj => ?_) (fun done ρ hj => ?_) ⟨[], ds2, rfl, rfl, rfl, by simp, hp2.mono (by simp; omega)⟩
  · obtain ⟨parts, ds3, rfl, rfl, h2, h3, hp3⟩ := hj
    have hpl : pre.length ≤ 3 := by
      have := congrArg List.length h1
      simp at this
      omega
    simp -dsimp -implicitDefEqProofs
    refine (law_one (k + 1) hp3 (by omega) [.int 9, .int 40, .int 90] _ (.inl rfl) (by simp) (by simp)).mono ?_
    rintro _ _ ⟨v, ds4, rfl, rfl, hv, hp4⟩
    obtain ⟨j, rfl, hj1, hj2⟩ : ∃ j : Int, v = .int j ∧ 0 < j ∧ j ≤ 90 := by
      simp only [List.mem_cons, List.not_mem_nil, or_false] at hv
      rcases hv with rfl | rfl | rfl <;> exact ⟨_, rfl, by omega, by omega⟩
    simp -dsimp -implicitDefEqProofs
    refine (law_dip (k + 2) hp4 (by omega) j hj1 (by omega)).mono ?_
    rintro _ _ ⟨c, ds5, rfl, rfl, hc0, hc1, hp5⟩
    simp -dsimp -implicitDefEqProofs
    refine ⟨parts ++ [(x, 1 + c)], ds5, by simp [encP], rfl, by simp [h2], fun p hp => ?_, hp5.mono (by simp; omega)⟩
    rcases List.mem_append.mp hp with hp | hp
    · exact h3 p hp
    · rw [List.mem_singleton.mp hp]
      exact ⟨by show 1 ≤ 1 + c; omega, by show 1 + c ≤ 90; omega⟩
  obtain ⟨parts, ds3, rfl, rfl, h2, h3, hp3⟩ := hj
  have hpl : parts.length = 1 + a := by rw [← psl, ← h2, List.length_map]
  have hpl2 : parts.length ≤ 10000 := by omega
  rw [psl] at hp3
  have em : ((most : Int) - 1) = ((most - 1 : Nat) : Int) := by omega
  simp -dsimp -implicitDefEqProofs [hpl2]
  rw [em]
  refine (law_dip (k + 2) (hp3.mono (show n + 70 + 2 * (1 + a) ≤ n + 80 by omega)) (by omega) ((most - 1 : Nat) : Int) (by omega) (by omega)).mono ?_
  rintro _ _ ⟨c, ds4, rfl, rfl, hc0, hc1, hp4⟩
  obtain ⟨c, rfl⟩ := Int.eq_ofNat_of_zero_le hc0
  have ec : (2 + (c : Int)) = ((2 + c : Nat) : Int) := by omega
  simp -dsimp -implicitDefEqProofs
  rw [ec]
  refine (law_words k hp4 (2 + c) (by omega) (by omega)).mono ?_
  rintro _ _ ⟨ns, ds5, rfl, rfl, nsl, nsa, nso, hp5⟩
  simp -dsimp -implicitDefEqProofs
  refine (law_one (k + 1) hp5 (by omega) [.int 3, .int 9, .int 20] _ (.inl rfl) (by simp) (by simp)).mono ?_
  rintro _ _ ⟨v, ds6, rfl, rfl, hv, hp6⟩
  obtain ⟨high, rfl, hh1, hh2⟩ : ∃ j : Int, v = .int j ∧ 0 < j ∧ j ≤ 20 := by
    simp only [List.mem_cons, List.not_mem_nil, or_false] at hv
    rcases hv with rfl | rfl | rfl <;> exact ⟨_, rfl, by omega, by omega⟩
  simp -dsimp -implicitDefEqProofs
  refine (law_dip (k + 2) hp6 (by omega) ns.length (by omega) (by omega)).mono ?_
  rintro q1 q2 ⟨idle, ds7, w1, w2, hi0, hi1, hp7⟩
  obtain ⟨idl, hidl⟩ := Int.eq_ofNat_of_zero_le hi0
  rw [hidl] at hi1 w1
  clear hidl hi0 idle
  simp -dsimp -implicitDefEqProofs [w1, w2]
  clear w1 w2 q1 q2
  refine ⟨r62 (by omega) (by omega), ?_⟩
  refine FlW_rng (fun i ρ => ∃ (deeds : List (Str × List Tr)) (ds' : List D), ρ = [some (.par ds'), some (.dat (.int most)), some (.dat (.tuple (ns.map PyData.str))), some (.dat (.list (parts.map encP))), none, some (.own (deeds.map encD)), some (.dat (.int high)), some (.dat (.int idl)), none, none, none, none] ∧ deeds.map (·.1) = ns.take i ∧ deeds.length = i ∧ (∀ d ∈ deeds, d.2.length = parts.length ∧ ∀ t ∈ d.2, t.Ok ∧ t.a ≤ 19) ∧ (idl < i → ∃ d ∈ deeds, ∀ t ∈ d.2, t.a = 0) ∧ Pw (n + 280 + 20 * i) ds') (fun i hi ρ hj => ?_) (fun ρ hj => ?_) ⟨[], ds7, rfl, rfl, rfl, by simp, fun h => by omega, hp7.mono (by omega)⟩
  · obtain ⟨deeds, ds8, rfl, g1, g2, g3, g4, hp8⟩ := hj
    simp -dsimp -implicitDefEqProofs
    refine FlW_forL (l := parts) (e := encP) (fun pre ρ => ∃ (rows : List Tr) (ds' : List D), ρ = [some (.par ds'), some (.dat (.int most)), some (.dat (.tuple (ns.map PyData.str))), some (.dat (.list (parts.map encP))), none, some (.own (deeds.map encD)), some (.dat (.int high)), some (.dat (.int idl)), some (.dat (.int i)), some (.own (rows.map encT)), none, none] ∧ rows.length = pre.length ∧ (∀ t ∈ rows, t.Ok ∧ t.a ≤ 19 ∧ (i = idl → t.a = 0)) ∧ Pw (n + 280 + 20 * i + 4 * pre.length) ds') (fun pre p post ρ h1 hj => ?_) (fun ρ hj => ?_) ⟨[], ds8, rfl, rfl, by simp, hp8⟩
    · obtain ⟨rows, ds9, rfl, f1, f2, hp9⟩ := hj
      have hpl3 : pre.length < parts.length := by
        have := congrArg List.length h1
        simp at this
        omega
      have hr9 : rows.length ≤ 10000 := by omega
      simp -dsimp -implicitDefEqProofs
      refine (law_one (k + 1) hp9 (by omega) [.int 2, .int 4, .int 11] _ (.inl rfl) (by simp) (by simp)).mono ?_
      rintro _ _ ⟨v, ds10, rfl, rfl, hv, hp10⟩
      obtain ⟨w, rfl, hw1, hw2⟩ : ∃ j : Int, v = .int j ∧ 0 < j ∧ j ≤ 11 := by
        simp only [List.mem_cons, List.not_mem_nil, or_false] at hv
        rcases hv with rfl | rfl | rfl <;> exact ⟨_, rfl, by omega, by omega⟩
      simp -dsimp -implicitDefEqProofs
      refine (law_dip (k + 2) hp10 (by omega) w hw1 (by omega)).mono ?_
      rintro _ _ ⟨s, ds11, rfl, rfl, hs0, hs1, hp11⟩
      simp -dsimp -implicitDefEqProofs
      refine (law_dip (k + 2) hp11 (by omega) (2 + s - 1) (by omega) (by omega)).mono ?_
      rintro _ _ ⟨y, ds12, rfl, rfl, hy0, hy1, hp12⟩
      simp -dsimp -implicitDefEqProofs [hr9]
      refine ⟨fun hid => ?_, fun hid => ?_⟩
      · refine ⟨rows ++ [⟨1 + y, 2 + s, 0⟩], ds12, by simp [encT], by simp [f1], fun t ht => ?_, hp12.mono (by simp; omega)⟩
        rcases List.mem_append.mp ht with ht | ht
        · exact f2 t ht
        · rw [List.mem_singleton.mp ht]
          exact ⟨⟨by show 1 ≤ 1 + y; omega, by show 1 + y ≤ 2 + s - 1; omega, by show 2 + s ≤ 12; omega, Int.le_refl 0, by show (0 : Int) ≤ 999; decide⟩, by show (0 : Int) ≤ 19; decide, fun _ => rfl⟩
      · refine (law_dip (k + 2) hp12 (by omega) high hh1 (by omega)).mono ?_
        rintro _ _ ⟨ad, ds13, rfl, rfl, hd0, hd1, hp13⟩
        simp -dsimp -implicitDefEqProofs [hr9]
        refine ⟨rows ++ [⟨1 + y, 2 + s, ad⟩], ds13, by simp [encT], by simp [f1], fun t ht => ?_, hp13.mono (by simp; omega)⟩
        rcases List.mem_append.mp ht with ht | ht
        · exact f2 t ht
        · rw [List.mem_singleton.mp ht]
          exact ⟨⟨by show 1 ≤ 1 + y; omega, by show 1 + y ≤ 2 + s - 1; omega, by show 2 + s ≤ 12; omega, hd0, by show ad ≤ 999; omega⟩, by show ad ≤ 19; omega, fun e => absurd e (by omega)⟩
    · obtain ⟨rows, ds9, rfl, f1, f2, hp9⟩ := hj
      have hd9 : deeds.length ≤ 10000 := by omega
      have en : L2.atI (ns.map PyData.str) (i : Int) = some (.str ns[i]) := by
        rw [atI_n, List.getElem?_map, List.getElem?_eq_getElem hi]
        rfl
      simp -dsimp -implicitDefEqProofs [en, hd9]
      refine ⟨deeds ++ [(ns[i], rows)], ds9, by simp [encD], ?_, by simp [g2], fun d hd => ?_, fun h => ?_, hp9.mono (by omega)⟩
      · rw [List.map_append, g1, ← List.take_append_getElem hi]
        rfl
      · rcases List.mem_append.mp hd with hd | hd
        · exact g3 d hd
        · rw [List.mem_singleton.mp hd]
          exact ⟨f1, fun t ht => ⟨(f2 t ht).1, (f2 t ht).2.1⟩⟩
      · by_cases hid : idl < i
        · obtain ⟨d, hd, h0⟩ := g4 hid
          exact ⟨d, List.mem_append_left _ hd, h0⟩
        · exact ⟨(ns[i], rows), by simp, fun t ht => (f2 t ht).2.2 (by omega)⟩
  · obtain ⟨deeds, ds8, rfl, g1, g2, g3, g4, hp8⟩ := hj
    rw [List.take_length] at g1
    simp -dsimp -implicitDefEqProofs
    refine hQ _ _ ⟨⟨parts, deeds⟩, ds8, rfl, rfl, ?_, ⟨by show 2 ≤ deeds.length; omega, by show deeds.length ≤ most; omega⟩, g4 (by omega), fun p hp => (h3 p hp).2, fun d hd t ht => ((g3 d hd).2 t ht).2, hp8.mono (by omega)⟩
    refine ⟨?_, ?_, fun p hp => ?_, fun p hp => ?_, ?_, ?_, ?_, fun d hd => ?_, fun d hd => (g3 d hd).1, fun d hd t ht => ((g3 d hd).2 t ht).1, ?_⟩
    · show 1 ≤ parts.length
      omega
    · show parts.length ≤ 3
      omega
    · exact pso _ (by rw [← h2]; exact List.mem_map_of_mem hp)
    · have := h3 p hp
      omega
    · show asc (parts.map (·.1))
      rw [h2]
      exact psa
    · show 1 ≤ deeds.length
      omega
    · show deeds.length ≤ 6
      omega
    · exact nso _ (by rw [← g1]; exact List.mem_map_of_mem hd)
    · show asc (deeds.map (·.1))
      rw [g1]
      exact nsa
/-! ### rows, loads, sums of the third group -/
theorem pairs_dictT {b : Bk} (h : b.Ok) (at_ : Nat) : bltD "dict" [.list (b.deeds.map fun d => PyData.tuple [.str d.1, encT (d.2.getD at_ ⟨1, 2, 0⟩)])] = some (.dat (dictT b at_)) := by
  have hnd : ((b.deeds.map fun x => ((.inr x.1 : L2.Key), encT (x.2.getD at_ ⟨1, 2, 0⟩))).map (·.1)).Nodup := by
    rw [List.map_map]
    have := asc_nodup h.da
    rw [List.nodup_iff_pairwise_ne, List.pairwise_map] at this ⊢
    exact this.imp fun {x y} hne e => hne (Sum.inr.inj e)
  have em := mergeX_nodup (b.deeds.map fun x => ((.inr x.1 : L2.Key), encT (x.2.getD at_ ⟨1, 2, 0⟩))) [] (by rw [List.nil_append]; exact hnd)
  rw [List.nil_append] at em
  show (pairsK? _).map _ = _
  rw [pairsK_str, Option.map_some, em]
  simp [dictX, dictT, keyD, Function.comp_def]
theorem law_tables (k : Nat) (b : Bk) (h : b.Ok) (i : Nat) (hi : i < b.parts.length) : call G (k + 1) (.glob "_law_tables") [.dat (encB b), .dat (.str (pnm b i))] = .ok (.dat (dictT b i)) [.dat (encB b), .dat (.str (pnm b i))] := by
  rw [← ResW_eq]
  refine run_glob g_law_tables rfl (by decide) ?_
  have hp3 := h.p3
  have hd6 := h.d6
  have hnm : ∀ n ∈ b.parts.map (·.1), NameOk n := fun n hn => by
    obtain ⟨p, hp, rfl⟩ := List.mem_map.mp hn
    exact h.pn p hp
  have e1 := names_sh hnm
  have e2 := shaped_name (h.pn _ (List.getElem_mem hi))
  have e3 := index_nodup (l := b.parts.map (·.1)) (i := i) (by simpa using hi) (asc_nodup h.pa)
  rw [List.getElem_map, ← pnm_get hi] at e3
  rw [← pnm_get hi] at e2
  rw [List.map_map] at e1 e3
  simp -dsimp -implicitDefEqProofs [f_law_tables]
  refine OutW_map' (l := b.parts) (e := encP) (g := PyData.str ∘ (·.1)) (fun p hp => ?_) ?_
  · simp -dsimp -implicitDefEqProofs
  have hl : b.parts.length ≤ 10000 := by omega
  simp -dsimp -implicitDefEqProofs [hl, e1, e2, e3]
  refine OutW_map' (l := b.deeds) (e := encD) (g := fun d => PyData.tuple [.str d.1, encT (d.2.getD i ⟨1, 2, 0⟩)]) (fun d hd => ?_) ?_
  · have hl : i < d.2.length := by rw [h.dl d hd]; exact hi
    have e4 : L2.atI (d.2.map encT) (i : Int) = some (encT (d.2.getD i ⟨1, 2, 0⟩)) := by
      rw [atI_n, List.getElem?_map, List.getElem?_eq_getElem hl, getD_get hl]
      rfl
    simp -dsimp -implicitDefEqProofs [e4]
  have hl2 : b.deeds.length ≤ 10000 := by omega
  have e5 := pairs_dictT h i
  have e6 : (b.deeds.map fun d => PyData.tuple [.str d.1, encT (d.2.getD i ⟨1, 2, 0⟩)]).length = b.deeds.length := List.length_map _
  generalize (b.deeds.map fun d => PyData.tuple [.str d.1, encT (d.2.getD i ⟨1, 2, 0⟩)]) = l at *
  simp -dsimp -implicitDefEqProofs [e6, hl2, e5]
theorem law_row (k : Nat) {n : Nat} {ds : List D} (hp : Pw n ds) (b : Bk) (h : b.Ok) (m : Nat) (hm : 1 ≤ m ∧ m ≤ 100) (hn : n ≤ 999999000) :
    ResW (call G (k + 3) (.glob "_law_row") [.par ds, .dat (encB b), .dat (.int m)]) (fun r as => ∃ row ds', r = .dat (encR row) ∧ as = [.par ds', .dat (encB b), .dat (.int m)] ∧ RowOk b row m ∧ Pw (n + 1 + m) ds') := by
  refine run_globQ g_law_row rfl (by decide) fun Q hQ => ?_
  simp -dsimp -implicitDefEqProofs [f_law_row]
  refine (law_dip (k + 1) hp (by omega) m (by omega) (by omega)).mono ?_
  rintro _ _ ⟨a, ds1, rfl, rfl, h1, h2, h3⟩
  obtain ⟨j, rfl⟩ := Int.eq_ofNat_of_zero_le h1
  have ej : (1 + (j : Int)) = ((1 + j : Nat) : Int) := by omega
  simp -dsimp -implicitDefEqProofs
  rw [ej]
  refine ⟨r62 (by omega) (by omega), ?_⟩
  refine OutW_lcR (fun i done ρ => ∃ (t : List Str) (ds' : List D), done = t.map PyData.str ∧ ρ = [some (.par ds'), some (.dat (encB b)), some (.dat (.int m)), none] ∧ (∀ x ∈ t, x ∈ b.deeds.map (·.1)) ∧ t.length = i ∧ Pw (n + 1 + i) ds') (fun i hi done ρ hj => ?_) (fun done ρ hj => ?_) ⟨[], ds1, rfl, rfl, by simp, rfl, h3⟩
  · obtain ⟨t, ds3, rfl, rfl, h6, h7, h8⟩ := hj
    simp -dsimp -implicitDefEqProofs
    have h9 := h.d1
    refine (law_one k h8 (by omega) (b.deeds.map encD) _ (.inr rfl) (by intro e; rw [List.map_eq_nil_iff] at e; rw [e] at h9; simp at h9) (by have := h.d6; simp; omega)).mono ?_
    rintro _ _ ⟨x, ds4, rfl, rfl, hx, h10⟩
    obtain ⟨d', hd', rfl⟩ := List.mem_map.mp hx
    simp -dsimp -implicitDefEqProofs
    refine ⟨t ++ [d'.1], ds4, by simp, rfl, fun q hq => ?_, by simp; omega, h10⟩
    rcases List.mem_append.mp hq with hq | hq
    · exact h6 q hq
    · rw [List.mem_singleton.mp hq]
      exact List.mem_map_of_mem hd'
  · obtain ⟨t, ds3, rfl, rfl, h7, h8, h9⟩ := hj
    have hl : t.length ≤ 10000 := by omega
    simp -dsimp -implicitDefEqProofs [hl]
    exact hQ _ _ ⟨t, ds3, rfl, rfl, ⟨by omega, by omega, h7⟩, h9.mono (by omega)⟩
theorem frac_small {n d : Int} (h0 : 0 ≤ n) (h1 : n < 128) (h2 : 0 < d) (h3 : d < 128) : 0 ≤ (n : Rat) / (d : Rat) ∧ Fz 8 ((n : Rat) / (d : Rat)) := by
  refine ⟨?_, fz_low h2 (by omega) (by omega)⟩
  rw [Rat.div_def]
  exact Rat.mul_nonneg (Rat.intCast_nonneg.mpr h0) (Rat.le_of_lt (Rat.inv_pos.mpr (int_pos h2)))
theorem law_by_raw (k : Nat) (n d : Int) (hd : 0 < d) (x : Rat) {A B : Nat} (h1 : n.natAbs < 2 ^ A) (h2 : d.natAbs < 2 ^ A) (hx : Fz B x) (h : A + B ≤ 8000) : call G (k + 2) (.glob "_law_by") [.dat (.tuple [.int n, .int d]), .dat (fr x)] = .ok (.dat (fr ((n : Rat) / (d : Rat) * x))) [.dat (.tuple [.int n, .int d]), .dat (fr x)] := by
  rw [← ResW_eq]
  refine run_glob g_law_by rfl (by decide) ?_
  have m1 : mulOk n x.num = true := mulOk_of h1 hx.1 (by omega)
  have m2 : mulOk d x.den = true := mulOk_of h2 (by simpa using hx.2) (by omega)
  have e := law_low k (n * x.num) (d * x.den) (Int.mul_pos hd (den_pos x)) (mulB h1 hx.1) (mulB h2 (by simpa using hx.2)) (by omega)
  have e2 : ((n * x.num : Int) : Rat) / ((d * x.den : Int) : Rat) = (n : Rat) / (d : Rat) * x := by
    rw [Rat.intCast_mul, Rat.intCast_mul, num_eq x]
    have h3 := den_ne x
    have h4 := int_ne hd
    rw [Rat.div_def, Rat.div_def]
    grind
  rw [e2] at e
  simp -dsimp -implicitDefEqProofs [f_law_by, m1, m2, e]
theorem fz_int {a : Int} {A : Nat} (h : a.natAbs < 2 ^ A) (hA : 1 ≤ A) : Fz A (a : Rat) := by
  refine ⟨by rw [Rat.num_intCast]; exact h, ?_⟩
  rw [Rat.den_intCast]
  exact Nat.lt_of_lt_of_le (by decide) (Nat.pow_le_pow_right (by decide) hA)
theorem law_along (k : Nat) (b : Bk) (h : b.Ok) (i : Nat) (hi : i < b.parts.length) (row : List Str) (hr : ∀ n ∈ row, n ∈ b.deeds.map (·.1)) (x : Rat) {B : Nat} (hx : Fz B x) (hB : B + 14 * row.length ≤ 7000) :
    call G (k + 3) (.glob "_law_along") [.dat (dictT b i), .dat (encR row), .dat (fr x)] = .ok (.fresh ((along (b.tr i) row x).map fr)) [.dat (dictT b i), .dat (encR row), .dat (fr x)] := by
  rw [← ResW_eq]
  refine run_glob g_law_along rfl (by decide) ?_
  simp -dsimp -implicitDefEqProofs [f_law_along]
  refine FlW_forL (l := row) (e := PyData.str) (fun pre ρ => ρ = [some (.dat (dictT b i)), some (.dat (encR row)), some (.dat (fr x)), some (.own ((x :: along (b.tr i) pre x).map fr)), none, none, none, none]) (fun pre n post ρ h1 hj => ?_) (fun ρ hj => ?_) rfl
  · subst hj
    have hn := hr n (by rw [h1]; simp)
    have e1 := dictT_at h i hn
    have ht := tr_ok h i n
    have hlen := congrArg List.length h1
    simp at hlen
    have hy := left_fz (f := b.tr i) (tr_ok h i) (row := pre) hx
    have elast : L2.atI (fr x :: (along (b.tr i) pre x).map fr) (-1) = some (fr (left (b.tr i) pre x)) := by
      rw [atI_last]
      cases pre with
      | nil => rfl
      | cons m pre =>
        have hl := along_last (f := b.tr i) (row := m :: pre) (x := x) (by simp)
        have hne : along (b.tr i) (m :: pre) x ≠ [] := along_ne (by simp)
        rw [List.getLast?_cons_of_ne_nil (by simpa using hne), List.getLast?_map, hl]
        rfl
    have e2 := law_by_raw k (b.tr i n).k (b.tr i n).s (by have := ht.s2; omega) (left (b.tr i) pre x) (A := 4) (by have := ht.k1; have := ht.ks; have := ht.s12; omega) (by have := ht.s2; have := ht.s12; omega) hy (by omega)
    have e3 := law_add k (((b.tr i n).k : Rat) / ((b.tr i n).s : Rat) * left (b.tr i) pre x) ((b.tr i n).a : Rat) (fz_mul (fz_ks ht) hy) (fz_int (A := 10) (by have := ht.a0; have := ht.a9; omega) (by omega)) (by omega)
    rw [fr_cast] at e3
    have e4 : ((b.tr i n).k : Rat) / ((b.tr i n).s : Rat) * left (b.tr i) pre x + ((b.tr i n).a : Rat) = (b.tr i n).ap (left (b.tr i) pre x) := rfl
    have hal : (along (b.tr i) pre x).length = pre.length := along_len _ _ _
    have hl9 : (along (b.tr i) pre x).length + 1 ≤ 10000 := by omega
    simp -dsimp -implicitDefEqProofs [e1, elast, e2, e3, e4, hl9]
    show _ = _
    rw [along_app]
    simp [along]
  · subst hj
    have hal : (along (b.tr i) row x).length = row.length := along_len _ _ _
    have ec : cut (fr x :: (along (b.tr i) row x).map fr) (some 1) none = (along (b.tr i) row x).map fr := cut_drop _ 1 (by simp)
    simp -dsimp -implicitDefEqProofs [ec]
theorem mod_w (x : Int) : 0 ≤ x % 2147480009 ∧ x % 2147480009 < 2147480009 := ⟨Int.emod_nonneg _ (by decide), Int.emod_lt_of_pos _ (by decide)⟩
theorem law_turns (k : Nat) (ns : List Int) (hl : ns.length ≤ 63) : ∃ m : Nat, 1 ≤ m ∧ m ≤ 3 ∧ call G (k + 1) (.glob "_law_turns") [.ro ns] = .ok (.fresh (rngD 0 m)) [.ro ns] := by
  refine ⟨(max (2 : Int) (min (ns.length : Int) 3)).toNat, by omega, by omega, ?_⟩
  rw [← ResW_eq]
  refine run_glob g_law_turns rfl (by decide) ?_
  have e : max (2 : Int) (min (ns.length : Int) 3) = ((max (2 : Int) (min (ns.length : Int) 3)).toNat : Int) := by omega
  have e2 : (rngD 0 (((max (2 : Int) (min (ns.length : Int) 3)).toNat : Nat) : Int)).length ≤ 10000 := by rw [rngD_nat]; simp; omega
  generalize (max (2 : Int) (min (ns.length : Int) 3)).toNat = m at *
  simp -dsimp -implicitDefEqProofs [f_law_turns, e]
  exact ⟨r62 (by omega) (by omega), le_sz e2⟩
theorem law_well (k : Nat) (ns : List Int) (hl : ns.length ≤ 63) (turn : Nat) (ht : turn ≤ 1000) :
    ResW (call G (k + 1) (.glob "_law_well") [.ro ns, .dat (.int turn)]) (fun r as => ∃ ds, r = .fresh ds ∧ as = [.ro ns, .dat (.int turn)] ∧ Pw 0 ds) := by
  refine run_globQ g_law_well rfl (by decide) fun Q hQ => ?_
  have m0 : mulOk 2707 turn = true := mulOk_of (A := 13) (B := 10) (by decide) (by omega) (by omega)
  have m5 : mulOk 8513 turn = true := mulOk_of (A := 14) (B := 10) (by decide) (by omega) (by omega)
  have key : ∀ spot : Int, FlW (evB (call G k) G.fuel (f_law_well.body.drop 1) [some (.ro ns), some (.dat (.int turn)), some (.dat (.int spot)), none, none]) (fun ρ => ∃ as', outA [Ev.Arg.ro ns, .dat (.int turn)] ρ = some as' ∧ Q (.dat .none) as') (fun r ρ => ∃ as', outA [Ev.Arg.ro ns, .dat (.int turn)] ρ = some as' ∧ Q r as') := fun spot => by
    simp -dsimp -implicitDefEqProofs [f_law_well, m0]
    have hcl : (cut (ns.map PyData.int) none (some (7 : Int))).length + 1 ≤ 10000 := by
      unfold cut
      rw [List.length_take, List.length_drop, List.length_map]
      omega
    obtain ⟨l, hl2⟩ : ∃ l : List Int, cut (ns.map PyData.int) none (some (7 : Int)) = l.map PyData.int := by
      unfold cut
      rw [← List.map_drop, ← List.map_take]
      exact ⟨_, rfl⟩
    obtain ⟨L, eit⟩ : ∃ L : List Int, l.map PyData.int ++ [PyData.int spot] = L.map PyData.int := ⟨l ++ [spot], by simp⟩
    rw [hl2] at hcl ⊢
    rw [List.length_map] at hcl
    simp -dsimp -implicitDefEqProofs [hcl, eit]
    refine FlW_forL (l := L) (e := PyData.int) (fun pre ρ => ∃ m : Int, ρ = [some (.ro ns), some (.dat (.int turn)), some (.dat (.int spot)), some (.dat (.int m)), none] ∧ 0 ≤ m ∧ m < 2147483648) (fun pre i post ρ h1 hj => ?_) (fun ρ hj => ?_) ⟨_, rfl, by omega, by omega⟩
    · obtain ⟨m, rfl, h2, h3⟩ := hj
      have m1 : mulOk m 38011 = true := mulOk_of (A := 31) (B := 16) (by omega) (by decide) (by omega)
      have h4 := mod_w (m * 38011 + i % 2147480009 + 83)
      simp -dsimp -implicitDefEqProofs [m1]
      exact ⟨_, rfl, h4.1, by omega⟩
    · obtain ⟨m, rfl, h2, h3⟩ := hj
      have fin : ∀ a : Int, 0 ≤ a → Q (.fresh [.int a, .int m, .int 0]) [.ro ns, .dat (.int turn)] := fun a ha => hQ _ _ ⟨_, rfl, rfl, a, m, 0, rfl, ha, h2, h3, by omega, by omega⟩
      simp -dsimp -implicitDefEqProofs
      exact ⟨fun h => fin _ (by omega), fun h => ⟨fun h => fin _ (by omega), fun h => fin _ (by omega)⟩⟩
  simp -dsimp -implicitDefEqProofs [f_law_well] at key
  by_cases hlt : turn < ns.length
  · have hlt' : (turn : Int) < (ns.length : Int) := by omega
    simp -dsimp -implicitDefEqProofs [f_law_well, hlt, hlt', atI_n]
    exact key _
  · have hlt' : ¬ (turn : Int) < (ns.length : Int) := by omega
    simp -dsimp -implicitDefEqProofs [f_law_well, hlt, hlt', m5]
    exact key _
/-! ### effects, loads behind rows, loads between -/
/-- the index of a part's name -/
theorem part_index (b : Bk) (h : b.Ok) {i : Nat} (hi : i < b.parts.length) : (SeqAt.shaped (.str (pnm b i)) = true ∧ SeqAt.shaped (.list (b.parts.map (PyData.str ∘ (·.1)))) = true) ∧ (b.parts.map (PyData.str ∘ (·.1))).findIdx? (fun x => PyData.eqv x (.str (pnm b i))) = some i := by
  have hnm : ∀ n ∈ b.parts.map (·.1), NameOk n := fun n hn => by
    obtain ⟨p, hp, rfl⟩ := List.mem_map.mp hn
    exact h.pn p hp
  have e1 := names_sh hnm
  have e2 := shaped_name (h.pn _ (List.getElem_mem hi))
  have e3 := index_nodup (l := b.parts.map (·.1)) (i := i) (by simpa using hi) (asc_nodup h.pa)
  rw [List.getElem_map, ← pnm_get hi] at e3
  rw [← pnm_get hi] at e2
  rw [List.map_map] at e1 e3
  exact ⟨⟨e2, e1⟩, e3⟩
theorem part_mem {b : Bk} {p : Str × Int} (h : p ∈ b.parts) : ∃ i, i < b.parts.length ∧ p.1 = pnm b i ∧ p.2 = lim b i := by
  obtain ⟨i, hi, e⟩ := List.getElem_of_mem h
  exact ⟨i, hi, by rw [pnm_get hi, e], by rw [lim_get hi, e]⟩
theorem left_app {f : Str → Tr} : ∀ {r s : List Str} {x : Rat}, left f (r ++ s) x = left f s (left f r x)
  | [], _, _ => rfl
  | n :: r, s, x => left_app (r := r) (s := s) (x := (f n).ap x)
theorem left_sub {f : Str → Tr} {row : List Str} {x y : Rat} : left f row y - left f row x = keepR f row * (y - x) := by
  rw [left_eq (x := x), left_eq (x := y)]
  grind
theorem along_at (f : Str → Tr) {row : List Str} (x : Rat) (hr : row ≠ []) : L2.atI ((along f row x).map fr) (-1) = some (fr (left f row x)) := by
  rw [atI_last, List.getLast?_map, along_last hr]
  rfl
/-! ### where one row leaves more than another -/
/-- the ends where one row leaves more -/
def mores (f : Str → Tr) (r s : List Str) (m : Int) : List Rat := [0, (m : Rat)].filter fun x => decide (left f s x < left f r x)
theorem slc3 : ∀ {r : List Str}, 1 ≤ r.length → r.length ≤ 5 → slcD (encR r) .none (.int 3) = some (.dat (encR (r.take 3)))
  | [_], _, _ => rfl
  | [_, _], _, _ => rfl
  | [_, _, _], _, _ => rfl
  | [_, _, _, _], _, _ => rfl
  | [_, _, _, _, _], _, _ => rfl
  | _ :: _ :: _ :: _ :: _ :: _ :: _, _, h => by simp at h
theorem encR_add (r s : List Str) (h : r.length + s.length ≤ 10000) : binD .Add (encR r) (encR s) = some (.dat (encR (r ++ s))) := by
  have e : binD .Add (encR r) (encR s) = if (r.map PyData.str).length + (s.map PyData.str).length ≤ sizeLine then some (.dat (.tuple (r.map PyData.str ++ s.map PyData.str))) else none := rfl
  rw [e, if_pos (by rw [List.length_map, List.length_map]; exact le_sz h), ← List.map_append]
  rfl
theorem fr_sh (x : Rat) : SeqAt.shaped (fr x) = true := rfl
theorem keepR_app {f : Str → Tr} : ∀ {r s : List Str}, keepR f (r ++ s) = keepR f r * keepR f s
  | [], s => by simp only [List.nil_append, keepR]; grind
  | n :: r, s => by
    simp only [List.cons_append, keepR]
    rw [keepR_app (r := r) (s := s)]
    grind
theorem addR_app {f : Str → Tr} {r s : List Str} : addR f (r ++ s) = keepR f s * addR f r + addR f s := by
  unfold addR
  rw [left_app, left_eq (row := s)]
  rfl
/-- the load at which two rows leave the same -/
def meet (f : Str → Tr) (r s : List Str) : Rat := (addR f s - addR f r) / (keepR f r - keepR f s)
def meetD (f : Str → Tr) (r s : List Str) : D := if keepR f r = keepR f s then .none else fr (meet f r s)
theorem kf12 {b : Bk} (hb : b.Ok) {row : List Str} (hr : RowOk b row 12) (i : Nat) : Fz 49 (keepR (b.tr i) row) := (fz_keepR (tr_ok hb i)).mono (by have := hr.rm; omega)
theorem af12 {b : Bk} (hb : b.Ok) {row : List Str} (hr : RowOk b row 12) (i : Nat) : Fz 169 (addR (b.tr i) row) := (fz_addR (tr_ok hb i)).mono (by have := hr.rm; omega)
theorem law_by_left (k : Nat) (n d : Int) (hd : 0 < d) (x : Rat) {A B : Nat} (h1 : n.natAbs < 2 ^ A) (h2 : d.natAbs < 2 ^ A) (hx : Fz B x) (h : A + B ≤ 8000) : call G (k + 2) (.glob "_law_by") [.dat (fr x), .dat (.tuple [.int n, .int d])] = .ok (.dat (fr (x * ((n : Rat) / (d : Rat))))) [.dat (fr x), .dat (.tuple [.int n, .int d])] := by
  rw [← ResW_eq]
  refine run_glob g_law_by rfl (by decide) ?_
  have m1 : mulOk x.num n = true := mulOk_of hx.1 h1 (by omega)
  have m2 : mulOk x.den d = true := mulOk_of (by simpa using hx.2) h2 (by omega)
  have e := law_low k (x.num * n) (x.den * d) (Int.mul_pos (den_pos x) hd) (mulB hx.1 h1) (mulB (by simpa using hx.2) h2) (by omega)
  have e2 : ((x.num * n : Int) : Rat) / ((x.den * d : Int) : Rat) = x * ((n : Rat) / (d : Rat)) := by
    rw [Rat.intCast_mul, Rat.intCast_mul, num_eq x]
    have h3 := den_ne x
    have h4 := int_ne hd
    rw [Rat.div_def, Rat.div_def]
    grind
  rw [e2] at e
  simp -dsimp -implicitDefEqProofs [f_law_by, m1, m2, e]
theorem law_part (k : Nat) (x y : Rat) (hy : 0 < y) {A B : Nat} (hx : Fz A x) (hyf : Fz B y) (h : A + B ≤ 8000) : call G (k + 2) (.glob "_law_part") [.dat (fr x), .dat (fr y)] = .ok (.dat (fr (x / y))) [.dat (fr x), .dat (fr y)] := by
  rw [← ResW_eq]
  refine run_glob g_law_part rfl (by decide) ?_
  have yn : 0 < y.num := num_pos hy
  have m1 : mulOk x.num y.den = true := mulOk_of hx.1 (by simpa using hyf.2) (by omega)
  have m2 : mulOk x.den y.num = true := mulOk_of (by simpa using hx.2) hyf.1 (by omega)
  have e := law_low k (x.num * y.den) (x.den * y.num) (Int.mul_pos (den_pos x) yn) (mulB hx.1 (by simpa using hyf.2)) (mulB (by simpa using hx.2) hyf.1) (by omega)
  have e2 : ((x.num * y.den : Int) : Rat) / ((x.den * y.num : Int) : Rat) = x / y := by
    rw [Rat.intCast_mul, Rat.intCast_mul, num_eq x, num_eq y]
    have h3 := den_ne x
    have h4 := den_ne y
    rw [Rat.div_def, Rat.div_def]
    grind
  rw [e2] at e
  simp -dsimp -implicitDefEqProofs [f_law_part, m1, m2, e]
theorem law_effect (k : Nat) (b : Bk) (h : b.Ok) (i : Nat) (hi : i < b.parts.length) (row : List Str) (hr : RowOk b row 12) :
    call G (k + 4) (.glob "_law_effect") [.dat (dictT b i), .dat (encR row)] = .ok (.dat (.tuple [fr (keepR (b.tr i) row), fr (addR (b.tr i) row)])) [.dat (dictT b i), .dat (encR row)] := by
  rw [← ResW_eq]
  refine run_glob g_law_effect rfl (by decide) ?_
  have er := hr.rm
  have e1 := law_along k b h i hi row hr.rn 0 (B := 1) fz_0 (by omega)
  have a1 := along_at (b.tr i) 0 hr.ne
  rw [show left (b.tr i) row 0 = addR (b.tr i) row from rfl] at a1
  simp -dsimp -implicitDefEqProofs [f_law_effect]
  refine FlW_forL (l := row) (e := PyData.str) (fun pre ρ => ρ = [some (.dat (dictT b i)), some (.dat (encR row)), some (.dat (fr (keepR (b.tr i) pre))), none]) (fun pre n post ρ h1 hj => ?_) (fun ρ hj => ?_) rfl
  · subst hj
    have hn := hr.rn n (by rw [h1]; simp)
    have e2 := dictT_at h i hn
    have ht := tr_ok h i n
    have hpl : pre.length ≤ 12 := by
      have := congrArg List.length h1
      simp at this
      omega
    have kf : Fz 49 (keepR (b.tr i) pre) := (fz_keepR (tr_ok h i)).mono (by omega)
    have esl : slcD (encT (b.tr i n)) .none (.int 2) = some (.dat (.tuple [.int (b.tr i n).k, .int (b.tr i n).s])) := rfl
    have e3 := law_by_left (k + 1) (b.tr i n).k (b.tr i n).s (by have := ht.s2; omega) (keepR (b.tr i) pre) (A := 4) (by have := ht.k1; have := ht.ks; have := ht.s12; omega) (by have := ht.s2; have := ht.s12; omega) kf (by omega)
    have e4 : keepR (b.tr i) pre * (((b.tr i n).k : Rat) / ((b.tr i n).s : Rat)) = keepR (b.tr i) (pre ++ [n]) := by
      rw [keepR_app]
      simp only [keepR]
      grind
    rw [e4] at e3
    simp -dsimp -implicitDefEqProofs [e2, esl, e3]
    rfl
  · subst hj
    simp -dsimp -implicitDefEqProofs [e1, a1, enc_nought]
theorem meet_twice {f : Str → Tr} (hf : ∀ n, (f n).Ok) {r : List Str} (hr : r ≠ []) : meetD f r (r ++ r) = fr (stand f r) := by
  have h0 := keepR_pos hf (row := r)
  have h1 := keepR_lt hf hr
  unfold meetD meet stand
  rw [keepR_app, addR_app]
  generalize keepR f r = a at *
  generalize addR f r = u
  have h2 : 0 < a * (1 - a) := Rat.mul_pos h0 (by grind)
  have h3 : ¬ a = a * a := by grind
  rw [if_neg h3]
  refine congrArg fr ?_
  have h4 : a - a * a ≠ 0 := by grind
  have h5 : 1 - a ≠ 0 := by grind
  rw [Rat.div_def, Rat.div_def]
  have h6 : (a - a * a) = a * (1 - a) := by grind
  have h7 : a ≠ 0 := by grind
  rw [h6, Rat.inv_mul_rev]
  have h8 : a * a⁻¹ = 1 := Rat.mul_inv_cancel _ h7
  grind
theorem fr_neg (x : Rat) : PyData.tuple [.int (-x.num), .int x.den] = fr (-x) := by
  unfold fr
  rw [Rat.neg_num, Rat.neg_den]
theorem fz_neg {x : Rat} {B : Nat} (h : Fz B x) : Fz B (-x) := ⟨by rw [Rat.neg_num, Int.natAbs_neg]; exact h.1, by rw [Rat.neg_den]; exact h.2⟩
theorem mores_same {f : Str → Tr} {r : List Str} {m : Int} : mores f r r m = [] := by
  unfold mores
  rw [List.filter_eq_nil_iff]
  intro x _
  simp
theorem bool_eqv (z : Bool) : (PyData.bool z).eqv (.bool z) = true := by cases z <;> rfl
theorem neg_div_neg {g r : Rat} (h : r ≠ 0) : (-g) / (-r) = g / r := by
  have hr : r * r⁻¹ = 1 := Rat.mul_inv_cancel _ h
  have hx : (-g) / (-r) * (-r) = -g := by
    rw [Rat.div_def, Rat.mul_assoc, Rat.inv_mul_cancel _ (by grind), Rat.mul_one]
  generalize (-g) / (-r) = x at *
  have hx' : x * r = g := by grind
  rw [Rat.div_def, ← hx', Rat.mul_assoc, hr, Rat.mul_one]
/-! ### rows done over and over: tight sizes -/
theorem ap_den {t : Tr} (h : t.Ok) (x : Rat) : (t.ap x).den ≤ 12 * x.den := by
  have h2 := h.s2
  have h3 := h.s12
  have h6 : 0 < t.s * (x.den : Int) := Int.mul_pos (by omega) (den_pos x)
  have e2 := low_den (t.k * x.num + t.a * t.s * x.den) (t.s * x.den) h6
  rw [ap_eq h] at e2
  have h4 := Int.natAbs_ediv_le_natAbs (t.s * (x.den : Int)) (Int.gcd (t.k * x.num + t.a * t.s * x.den) (t.s * x.den))
  rw [e2, Int.natAbs_mul] at h4
  have h5 : t.s.natAbs * (x.den : Int).natAbs ≤ 12 * (x.den : Int).natAbs := Nat.mul_le_mul_right _ (by omega)
  simp at h4 h5 ⊢
  omega
theorem left_den {f : Str → Tr} (hf : ∀ n, (f n).Ok) : ∀ {row : List Str} {x : Rat} {B : Nat}, x.den < 2 ^ B → (left f row x).den < 2 ^ (B + 4 * row.length)
  | [], x, B, h => h
  | n :: r, x, B, h => by
    have h1 := ap_den (hf n) x
    have h2 : ((f n).ap x).den < 2 ^ (B + 4) := by
      rw [Nat.pow_add]
      omega
    have h3 := left_den hf (row := r) h2
    rw [show B + 4 * (n :: r).length = B + 4 + 4 * r.length by simp; omega]
    exact h3
theorem left_val {f : Str → Tr} (hf : ∀ n, (f n).Ok) : ∀ {row : List Str} {x : Rat}, 0 ≤ x → x ≤ 16384 → left f row x ≤ 16384
  | [], x, h0, h => h
  | n :: r, x, h0, h => by
    have h1 := (hf n).keep11
    have h2 := (hf n).keep
    have h3 : ((f n).a : Rat) ≤ ((999 : Int) : Rat) := Rat.intCast_le_intCast.mpr (hf n).a9
    rw [show ((999 : Int) : Rat) = 999 from rfl] at h3
    have h4 := Rat.mul_le_mul_of_nonneg_right h1 h0
    have h5 : ((f n).k : Rat) / ((f n).s : Rat) * x + ((f n).a : Rat) ≤ 16384 := by grind
    have h6 : 0 ≤ ((f n).k : Rat) / ((f n).s : Rat) * x + ((f n).a : Rat) := by
      have := Rat.mul_nonneg (Rat.le_of_lt h2) h0
      have := (hf n).add
      grind
    exact left_val hf (row := r) h6 h5
theorem fz_val {x : Rat} {B : Nat} (h0 : 0 ≤ x) (h1 : x ≤ 16384) (h2 : x.den < 2 ^ B) : Fz (B + 15) x := by
  have h3 : (x.num : Rat) ≤ ((16384 * (x.den : Int) : Int) : Rat) := by
    rw [num_eq x, Rat.intCast_mul]
    exact Rat.mul_le_mul_of_nonneg_right h1 (Rat.le_of_lt (int_pos (den_pos x)))
  have h4 := Rat.intCast_le_intCast.mp h3
  have h5 : 0 ≤ x.num := Rat.num_nonneg.mpr h0
  refine ⟨?_, Nat.lt_of_lt_of_le h2 (Nat.pow_le_pow_right (by decide) (by omega))⟩
  have p15 : 2 ^ (B + 15) = 32768 * 2 ^ B := by
    rw [Nat.pow_add]
    omega
  rw [p15]
  omega
theorem leftN_den {f : Str → Tr} (hf : ∀ n, (f n).Ok) {row : List Str} (hq : row.length ≤ 4) {x : Rat} {B : Nat} (hx : x.den < 2 ^ B) : ∀ n, (leftN f row x n).den < 2 ^ (B + 16 * n)
  | 0 => hx
  | n + 1 => Nat.lt_of_lt_of_le (left_den hf (leftN_den hf hq hx n)) (Nat.pow_le_pow_right (by decide) (by omega))
theorem leftN_val {f : Str → Tr} (hf : ∀ n, (f n).Ok) {row : List Str} {x : Rat} (h0 : 0 ≤ x) (h : x ≤ 16384) : ∀ n, 0 ≤ leftN f row x n ∧ leftN f row x n ≤ 16384
  | 0 => ⟨h0, h⟩
  | n + 1 => ⟨left_nonneg hf (leftN_val hf h0 h n).1, left_val hf (leftN_val hf h0 h n).1 (leftN_val hf h0 h n).2⟩
theorem leftN_sub {f : Str → Tr} {row : List Str} {x y : Rat} : ∀ n, leftN f row y n - leftN f row x n = keepR f row ^ n * (y - x)
  | 0 => by
    show y - x = _
    rw [Rat.pow_zero, Rat.one_mul]
  | n + 1 => by
    show left f row _ - left f row _ = _
    rw [left_sub, leftN_sub n, Rat.pow_succ]
    grind
/-- how often until a gap is no more passed -/
structure First (p : Nat → Prop) (n : Nat) : Prop where
  all : ∀ j < n, p j
  not : ¬ p n
theorem First.uniq {p : Nat → Prop} {n m : Nat} (h : First p n) (g : First p m) : n = m := by
  rcases Nat.lt_trichotomy n m with h1 | h1 | h1
  · exact absurd (g.all n h1) h.not
  · exact h1
  · exact absurd (h.all m h1) g.not
theorem pow_le_one {a : Rat} (h0 : 0 ≤ a) (h1 : a ≤ 1) : ∀ n : Nat, 0 ≤ a ^ n ∧ a ^ n ≤ 1
  | 0 => by rw [Rat.pow_zero]; decide
  | n + 1 => by
    obtain ⟨g0, g1⟩ := pow_le_one h0 h1 n
    rw [Rat.pow_succ]
    refine ⟨Rat.mul_nonneg g0 h0, ?_⟩
    have := Rat.mul_le_mul_of_nonneg_right g1 h0
    grind
theorem rpow_add (a : Rat) (m : Nat) : ∀ d, a ^ (m + d) = a ^ m * a ^ d
  | 0 => by rw [Rat.pow_zero, Nat.add_zero, Rat.mul_one]
  | d + 1 => by rw [Nat.add_succ, Rat.pow_succ, Rat.pow_succ, rpow_add a m d, Rat.mul_assoc]
theorem pow_11 {a : Rat} (h0 : 0 ≤ a) (h1 : a ≤ 11 / 12) : ∀ n : Nat, a ^ n ≤ (11 / 12 : Rat) ^ n
  | 0 => by rw [Rat.pow_zero, Rat.pow_zero]; exact Rat.le_refl
  | n + 1 => by
    have g := pow_11 h0 h1 n
    have g0 := (pow_le_one h0 (by grind) n).1
    rw [Rat.pow_succ, Rat.pow_succ]
    have a1 := Rat.mul_le_mul_of_nonneg_right g h0
    have a2 := Rat.mul_le_mul_of_nonneg_left h1 (show (0 : Rat) ≤ (11 / 12) ^ n from (pow_le_one (by decide +kernel) (by decide +kernel) n).1)
    grind
theorem gap_bound {a w g : Rat} (h0 : 0 ≤ a) (h1 : a ≤ 11 / 12) (hw : w ≤ 256) (hw0 : 0 ≤ w) (hg : 1 / 40 ≤ g) : ∀ n, g < a ^ n * w → n < 120 := fun n hn => by
  apply Decidable.byContradiction
  intro hc
  obtain ⟨d, rfl⟩ : ∃ d, n = 120 + d := ⟨n - 120, by omega⟩
  have e : a ^ (120 + d) = a ^ 120 * a ^ d := by rw [rpow_add]
  have g1 := pow_11 h0 h1 120
  have g2 : (11 / 12 : Rat) ^ 120 * 256 < 1 / 40 := by decide +kernel
  have g3 := pow_le_one h0 (by grind) d
  have g4 := pow_le_one h0 (show a ≤ 1 by grind) 120
  have g5 := Rat.mul_le_mul_of_nonneg_left g3.2 g4.1
  rw [e] at hn
  have g6 := Rat.mul_le_mul_of_nonneg_right g5 hw0
  have g7 := Rat.mul_le_mul_of_nonneg_right g1 hw0
  have g8 := Rat.mul_le_mul_of_nonneg_left hw (show (0 : Rat) ≤ (11 / 12) ^ 120 by decide +kernel)
  grind
theorem gap_pow {a w : Rat} (h0 : 0 ≤ a) (h1 : a ≤ 1) (hw0 : 0 ≤ w) (m : Nat) (hm : m < 120) : ∀ n, a ^ m * w < a ^ n * w → n < 120 := fun n hn => by
  apply Decidable.byContradiction
  intro hc
  obtain ⟨d, rfl⟩ : ∃ d, n = m + d := ⟨n - m, by omega⟩
  rw [rpow_add] at hn
  have g3 := pow_le_one h0 h1 d
  have g4 := pow_le_one h0 h1 m
  have g5 := Rat.mul_le_mul_of_nonneg_left g3.2 g4.1
  have g6 := Rat.mul_le_mul_of_nonneg_right g5 hw0
  grind
/-! ### how often a row must be done -/
theorem law_greatest (k : Nat) (xs : List Rat) (hne : xs ≠ []) {B : Nat} (hx : ∀ x ∈ xs, Fz B x) (hB : B < 9000) : call G (k + 2) (.glob "_law_greatest") [.dat (.list (xs.map fr))] = .ok (.dat (fr (great xs))) [.dat (.list (xs.map fr))] := by
  cases xs with
  | nil => exact absurd rfl hne
  | cons x0 xs =>
  rw [← ResW_eq]
  refine run_glob g_law_greatest rfl (by decide) ?_
  have ea : L2.atI ((x0 :: xs).map fr) 0 = some (fr x0) := by
    rw [show (0 : Int) = ((0 : Nat) : Int) from rfl, atI_n]
    rfl
  have egr : great (x0 :: xs) = (x0 :: xs).foldl maxR x0 := by
    show xs.foldl maxR x0 = xs.foldl maxR (maxR x0 x0)
    rw [maxR_self]
  rw [egr]
  have hx0 := hx x0 (by simp)
  generalize hL : x0 :: xs = L at *
  simp -dsimp -implicitDefEqProofs [f_law_greatest, ea]
  refine FlW_forL (l := L) (e := fr) (fun pre ρ => Fz B (pre.foldl maxR x0) ∧ ρ = [some (.dat (.list (L.map fr))), some (.dat (fr (pre.foldl maxR x0))), none]) (fun pre y post ρ h1 hj => ?_) (fun ρ hj => ?_) ⟨hx0, rfl⟩
  · obtain ⟨hf, rfl⟩ := hj
    have hy := hx y (by rw [h1]; simp)
    have e1 := law_less k (pre.foldl maxR x0) y hf hy hB
    have e2 : (pre ++ [y]).foldl maxR x0 = maxR (pre.foldl maxR x0) y := by rw [List.foldl_append]; rfl
    by_cases hc : pre.foldl maxR x0 < y
    · rw [decide_eq_true hc] at e1
      have e3 : maxR (pre.foldl maxR x0) y = y := if_pos hc
      simp -dsimp -implicitDefEqProofs [e1]
      refine ⟨by rw [e2, e3]; exact hy, ?_⟩
      rw [e2, e3]
    · rw [decide_eq_false hc] at e1
      have e3 : maxR (pre.foldl maxR x0) y = pre.foldl maxR x0 := if_neg hc
      simp -dsimp -implicitDefEqProofs [e1]
      refine ⟨by rw [e2, e3]; exact hf, ?_⟩
      rw [e2, e3]
  · obtain ⟨hf, rfl⟩ := hj
    simp -dsimp -implicitDefEqProofs
theorem fz_le {x : Rat} (h0 : 0 ≤ x) (h : Fz 8 x) : x ≤ 256 := by
  have h1 := num_eq x
  have h2 : (x.num : Rat) ≤ ((256 : Int) : Rat) := Rat.intCast_le_intCast.mpr (by have := h.1; omega)
  have h3 : (1 : Rat) ≤ ((x.den : Int) : Rat) := Rat.intCast_le_intCast.mpr (show (1 : Int) ≤ x.den by have := den_pos x; omega)
  have h4 := Rat.mul_le_mul_of_nonneg_left h3 h0
  rw [show ((256 : Int) : Rat) = 256 from rfl] at h2
  grind
/-! ### long runs -/
def runs (f : Str → Tr) (row : List Str) : List Rat := along f row (stand f row)
theorem runs_fz {b : Bk} (hb : b.Ok) {row : List Str} (hr : RowOk b row 12) (i : Nat) : ∀ y ∈ runs (b.tr i) row, Fz 400 y := fun y hy => (along_fz (tr_ok hb i) (fz_stand' hb i hr (by omega)) y hy).mono (by have := hr.rm; omega)
/-- the loads of all parts behind each deed -/
def gridR (b : Bk) (row : List Str) (xs : List Rat) (j : Nat) : List Rat := (List.range xs.length).map fun i => ld (along (b.tr i) row (ld xs i)) j
def grid (b : Bk) (row : List Str) (xs : List Rat) : D := .tuple ((List.range row.length).map fun j => encL (gridR b row xs j))
theorem law_stands (k : Nat) (b : Bk) (h : b.Ok) (i : Nat) (hi : i < b.parts.length) (row : List Str) (hr : RowOk b row 12) :
    call G (k + 5) (.glob "_law_stands") [.dat (dictT b i), .dat (encR row)] = .ok (.dat (fr (stand (b.tr i) row))) [.dat (dictT b i), .dat (encR row)] := by
  rw [← ResW_eq]
  refine run_glob g_law_stands rfl (by decide) ?_
  have e1 := law_effect k b h i hi row hr
  have e2 := law_take (k + 2) 1 (keepR (b.tr i) row) fz_1 (kf12 h hr i) (by omega)
  have hlt := keepR_lt (tr_ok h i) hr.ne
  have e3 := law_part (k + 2) (addR (b.tr i) row) (1 - keepR (b.tr i) row) (by grind) (af12 h hr i) (fz_sub fz_1 (kf12 h hr i)) (by omega)
  rw [show addR (b.tr i) row / (1 - keepR (b.tr i) row) = stand (b.tr i) row from rfl] at e3
  simp -dsimp -implicitDefEqProofs [f_law_stands, e1, e2, e3, enc_whole]
/-! ### what holds of long runs -/
theorem along_ld {f : Str → Tr} : ∀ {row : List Str} {x : Rat} {j : Nat}, j < row.length → ld (along f row x) j = left f (row.take (j + 1)) x
  | [], _, _, h => by simp at h
  | n :: r, x, 0, _ => rfl
  | n :: r, x, j + 1, h => by
    show ld (along f r ((f n).ap x)) j = left f (r.take (j + 1)) ((f n).ap x)
    exact along_ld (by simpa using h)
theorem run_step {f : Str → Tr} (hf : ∀ n, (f n).Ok) {row : List Str} (hr : row ≠ []) {x : Rat} {j : Nat} (hj : j < row.length) : ld (along f row (left f row x)) j - ld (runs f row) j = keepR f row * (ld (along f row x) j - ld (runs f row) j) := by
  unfold runs
  rw [along_ld hj, along_ld hj, along_ld hj, left_sub, left_sub]
  have h1 := stand_eq hf hr
  have h2 := left_sub (f := f) (row := row) (x := stand f row) (y := x)
  rw [h1] at h2
  rw [h2]
  grind
theorem sign_ok {a h : Rat} (ha : 0 < a) : ¬ h.num * (a * h).num < 0 := by
  by_cases hh : 0 ≤ h
  · have h1 : 0 ≤ h.num := Rat.num_nonneg.mpr hh
    have h2 : 0 ≤ (a * h).num := Rat.num_nonneg.mpr (Rat.mul_nonneg (Rat.le_of_lt ha) hh)
    have := Int.mul_nonneg h1 h2
    omega
  · have hn : 0 ≤ -h := by grind
    have h1 : 0 ≤ (-h).num := Rat.num_nonneg.mpr hn
    have h2 : 0 ≤ (-(a * h)).num := Rat.num_nonneg.mpr (by have := Rat.mul_nonneg (Rat.le_of_lt ha) hn; grind)
    rw [Rat.neg_num] at h1 h2
    have := Int.mul_nonneg h1 h2
    rw [Int.neg_mul_neg] at this
    omega
theorem stand_twice {f : Str → Tr} (hf : ∀ n, (f n).Ok) {row : List Str} (hr : row ≠ []) : stand f (row ++ row) = stand f row := by
  have h0 := keepR_pos hf (row := row)
  have h1 := keepR_lt hf hr
  have h2 : (1 - keepR f row * keepR f row) ≠ 0 := by
    have := Rat.mul_lt_mul_of_pos_left h1 h0
    grind
  have h3 : 1 - keepR f row ≠ 0 := by grind
  unfold stand
  rw [keepR_app, addR_app]
  generalize keepR f row = a at *
  generalize addR f row = u
  have e1 : (a * u + u) / (1 - a * a) * (1 - a * a) = a * u + u := by rw [Rat.div_def, Rat.mul_assoc, Rat.inv_mul_cancel _ h2, Rat.mul_one]
  have e2 : u / (1 - a) * (1 - a) = u := by rw [Rat.div_def, Rat.mul_assoc, Rat.inv_mul_cancel _ h3, Rat.mul_one]
  generalize (a * u + u) / (1 - a * a) = x at *
  generalize u / (1 - a) = y at *
  have e3 : (x - y) * (1 - a * a) = 0 := by grind
  have e4 : x - y = 0 := by
    have := congrArg (fun z => z * (1 - a * a)⁻¹) e3
    simp only [Rat.mul_assoc, Rat.mul_inv_cancel _ h2, Rat.mul_one, Rat.zero_mul] at this
    exact this
  grind
theorem runs_twice {f : Str → Tr} (hf : ∀ n, (f n).Ok) {row : List Str} (hr : row ≠ []) : runs f (row ++ row) = runs f row ++ runs f row := by
  unfold runs
  rw [stand_twice hf hr, along_app, stand_eq hf hr]
/-- a row of parts by numbers -/
theorem parts_range (b : Bk) : b.parts.map encP = (List.range b.parts.length).map fun i => PyData.tuple [.str (pnm b i), .int (lim b i)] := List.ext_getElem (by simp) fun i h1 h2 => by
  have h3 : i < b.parts.length := by simpa using h1
  rw [List.getElem_map, List.getElem_map, List.getElem_range, pnm_get h3, lim_get h3]
  rfl
theorem parts_at2 {b : Bk} {i : Nat} (hi : i < b.parts.length) : L2.atI (b.parts.map encP) (i : Int) = some (.tuple [.str (pnm b i), .int (lim b i)]) := by
  rw [parts_range, atI_n, List.getElem?_map, List.getElem?_range hi]
  rfl
theorem range_at {g : Nat → D} {n i : Nat} (hi : i < n) : L2.atI ((List.range n).map g) (i : Int) = some (g i) := by
  rw [atI_n, List.getElem?_map, List.getElem?_range hi]
  rfl
theorem law_greatest_t (k : Nat) (xs : List Rat) (hne : xs ≠ []) {B : Nat} (hx : ∀ x ∈ xs, Fz B x) (hB : B < 9000) : call G (k + 2) (.glob "_law_greatest") [.dat (encL xs)] = .ok (.dat (fr (great xs))) [.dat (encL xs)] := by
  cases xs with
  | nil => exact absurd rfl hne
  | cons x0 xs =>
  rw [← ResW_eq]
  refine run_glob g_law_greatest rfl (by decide) ?_
  have ea : L2.atI ((x0 :: xs).map fr) 0 = some (fr x0) := by
    rw [show (0 : Int) = ((0 : Nat) : Int) from rfl, atI_n]
    rfl
  have egr : great (x0 :: xs) = (x0 :: xs).foldl maxR x0 := by
    show xs.foldl maxR x0 = xs.foldl maxR (maxR x0 x0)
    rw [maxR_self]
  rw [egr]
  have hx0 := hx x0 (by simp)
  generalize hL : x0 :: xs = L at *
  have eL : encL L = .tuple (L.map fr) := rfl
  rw [eL]
  simp -dsimp -implicitDefEqProofs [f_law_greatest, ea]
  refine FlW_forL (l := L) (e := fr) (fun pre ρ => Fz B (pre.foldl maxR x0) ∧ ρ = [some (.dat (.tuple (L.map fr))), some (.dat (fr (pre.foldl maxR x0))), none]) (fun pre y post ρ h1 hj => ?_) (fun ρ hj => ?_) ⟨hx0, rfl⟩
  · obtain ⟨hf, rfl⟩ := hj
    have hy := hx y (by rw [h1]; simp)
    have e1 := law_less k (pre.foldl maxR x0) y hf hy hB
    have e2 : (pre ++ [y]).foldl maxR x0 = maxR (pre.foldl maxR x0) y := by rw [List.foldl_append]; rfl
    by_cases hc : pre.foldl maxR x0 < y
    · rw [decide_eq_true hc] at e1
      have e3 : maxR (pre.foldl maxR x0) y = y := if_pos hc
      simp -dsimp -implicitDefEqProofs [e1]
      refine ⟨by rw [e2, e3]; exact hy, ?_⟩
      rw [e2, e3]
    · rw [decide_eq_false hc] at e1
      have e3 : maxR (pre.foldl maxR x0) y = pre.foldl maxR x0 := if_neg hc
      simp -dsimp -implicitDefEqProofs [e1]
      refine ⟨by rw [e2, e3]; exact hf, ?_⟩
      rw [e2, e3]
  · obtain ⟨hf, rfl⟩ := hj
    simp -dsimp -implicitDefEqProofs
theorem grid_at {b : Bk} {row : List Str} {xs : List Rat} {q : Nat} (hq : q < row.length) : ixD (grid b row xs) (.int (q : Int)) = some (encL (gridR b row xs q)) := by
  show L2.atI ((List.range row.length).map fun j => encL (gridR b row xs j)) (q : Int) = _
  exact range_at hq
theorem gridR_at {b : Bk} {row : List Str} {xs : List Rat} {p q : Nat} (hp : p < xs.length) : L2.atI ((gridR b row xs q).map fr) (p : Int) = some (fr (ld (along (b.tr p) row (ld xs p)) q)) := by
  unfold gridR
  rw [List.map_map]
  exact range_at hp
theorem along_ld_fz {f : Str → Tr} (hf : ∀ n, (f n).Ok) {row : List Str} {x : Rat} {B q : Nat} (hx : Fz B x) (hq : q < row.length) : Fz (B + 14 * row.length) (ld (along f row x) q) := by
  rw [along_ld hq]
  exact (left_fz hf hx).mono (by rw [List.length_take]; omega)
theorem encL_add (r s : List Rat) (h : r.length + s.length ≤ 10000) : binD .Add (encL r) (encL s) = some (.dat (encL (r ++ s))) := by
  have e : binD .Add (encL r) (encL s) = if (r.map fr).length + (s.map fr).length ≤ sizeLine then some (.dat (.tuple (r.map fr ++ s.map fr))) else none := rfl
  rw [e, if_pos (by rw [List.length_map, List.length_map]; exact le_sz h), ← List.map_append]
  rfl
theorem eqv_encL (r : List Rat) : PyData.eqv (encL r) (encL r) = true := eqv_frs r
theorem encL_sh (r : List Rat) : SeqAt.shaped (encL r) = true := frt_sh
/-! ### peaks, troughs, what keeps -/
theorem law_least (k : Nat) (xs : List Rat) (hne : xs ≠ []) {B : Nat} (hx : ∀ x ∈ xs, Fz B x) (hB : B < 9000) : call G (k + 2) (.glob "_law_least") [.dat (encL xs)] = .ok (.dat (fr (least xs))) [.dat (encL xs)] := by
  cases xs with
  | nil => exact absurd rfl hne
  | cons x0 xs =>
  rw [← ResW_eq]
  refine run_glob g_law_least rfl (by decide) ?_
  have ea : L2.atI ((x0 :: xs).map fr) 0 = some (fr x0) := by
    rw [show (0 : Int) = ((0 : Nat) : Int) from rfl, atI_n]
    rfl
  have egr : least (x0 :: xs) = (x0 :: xs).foldl minR x0 := by
    show xs.foldl minR x0 = xs.foldl minR (minR x0 x0)
    rw [minR_self]
  rw [egr]
  have hx0 := hx x0 (by simp)
  generalize hL : x0 :: xs = L at *
  have eL : encL L = .tuple (L.map fr) := rfl
  rw [eL]
  simp -dsimp -implicitDefEqProofs [f_law_least, ea]
  refine FlW_forL (l := L) (e := fr) (fun pre ρ => Fz B (pre.foldl minR x0) ∧ ρ = [some (.dat (.tuple (L.map fr))), some (.dat (fr (pre.foldl minR x0))), none]) (fun pre y post ρ h1 hj => ?_) (fun ρ hj => ?_) ⟨hx0, rfl⟩
  · obtain ⟨hf, rfl⟩ := hj
    have hy := hx y (by rw [h1]; simp)
    have e1 := law_less k y (pre.foldl minR x0) hy hf hB
    have e2 : (pre ++ [y]).foldl minR x0 = minR (pre.foldl minR x0) y := by rw [List.foldl_append]; rfl
    by_cases hc : y < pre.foldl minR x0
    · rw [decide_eq_true hc] at e1
      have e3 : minR (pre.foldl minR x0) y = y := if_pos hc
      simp -dsimp -implicitDefEqProofs [e1]
      refine ⟨by rw [e2, e3]; exact hy, ?_⟩
      rw [e2, e3]
    · rw [decide_eq_false hc] at e1
      have e3 : minR (pre.foldl minR x0) y = pre.foldl minR x0 := if_neg hc
      simp -dsimp -implicitDefEqProofs [e1]
      refine ⟨by rw [e2, e3]; exact hf, ?_⟩
      rw [e2, e3]
  · obtain ⟨hf, rfl⟩ := hj
    simp -dsimp -implicitDefEqProofs
/-- a part whose peak passes its limit -/
def overR (b : Bk) (row : List Str) (i : Nat) : Bool := decide ((lim b i : Rat) < great (runs (b.tr i) row))
theorem bools_mapR {f : Nat → Bool} : ∀ l : List Nat, bools? (l.map fun i => PyData.bool (f i)) = some (l.map f)
  | [] => rfl
  | i :: l => by simp [bools?, bools_mapR l]
/-! ### the row from another deed on -/
theorem stand_uniq {f : Str → Tr} (hf : ∀ n, (f n).Ok) {row : List Str} (hr : row ≠ []) {x : Rat} (h : left f row x = x) : x = stand f row := by
  have h1 := stand_eq hf hr
  have h2 := left_sub (f := f) (row := row) (x := stand f row) (y := x)
  rw [h1, h] at h2
  have h3 := keepR_lt hf hr
  have h4 : (1 - keepR f row) ≠ 0 := by grind
  have h5 : (x - stand f row) * (1 - keepR f row) = 0 := by grind
  have h6 : x - stand f row = 0 := by
    have := congrArg (fun z => z * (1 - keepR f row)⁻¹) h5
    simp only [Rat.mul_assoc, Rat.mul_inv_cancel _ h4, Rat.mul_one, Rat.zero_mul] at this
    exact this
  grind
theorem stand_turned {f : Str → Tr} (hf : ∀ n, (f n).Ok) {row : List Str} {j : Nat} (hj : j < row.length) : stand f (row.drop (j + 1) ++ row.take (j + 1)) = ld (runs f row) j := by
  have hr : row ≠ [] := fun e => by rw [e] at hj; simp at hj
  unfold runs
  rw [along_ld hj]
  refine (stand_uniq hf (by intro e; have := congrArg List.length e; rw [List.length_append, List.length_drop, List.length_take] at this; simp only [List.length_nil] at this; omega) ?_).symm
  rw [left_app, ← left_app (r := row.take (j + 1)), List.take_append_drop, stand_eq hf hr]
theorem runs_last {f : Str → Tr} (hf : ∀ n, (f n).Ok) {row : List Str} (hr : row ≠ []) : L2.atI ((runs f row).map fr) (-1) = some (fr (stand f row)) := by
  have ea := along_at f (stand f row) hr
  rw [stand_eq hf hr] at ea
  exact ea
theorem slc_from {r : List Str} {j : Nat} (hj : j + 1 ≤ r.length) : slcD (encR r) (.int ((j : Int) + 1)) .none = some (.dat (encR (r.drop (j + 1)))) := by
  have e : slcD (encR r) (.int ((j : Int) + 1)) .none = some (.dat (.tuple (cut (r.map PyData.str) (some ((j + 1 : Nat) : Int)) none))) := rfl
  rw [e, cut_drop _ _ (by simpa using hj), ← List.map_drop]
  rfl
theorem slc_to {r : List Str} {j : Nat} (hj : j + 1 ≤ r.length) : slcD (encR r) .none (.int ((j : Int) + 1)) = some (.dat (encR (r.take (j + 1)))) := by
  have e : slcD (encR r) .none (.int ((j : Int) + 1)) = some (.dat (.tuple (cut (r.map PyData.str) none (some ((j + 1 : Nat) : Int))))) := rfl
  rw [e, cut_take _ _ (by simpa using hj), ← List.map_take]
  rfl
end LawT
set_option Elab.async false
set_option maxRecDepth 100000
set_option linter.all false
namespace LawT
open PySem Ev
/-! ### strains from nothing -/
theorem check_two_works (k : Nat) (b : Bk) (hb : b.Ok) (ws vs : List (List Str)) (hw : WorksOk b ws 6 6) (hv : WorksOk b vs 6 6) : call G (k + 13) (.glob "check_two_works") [.dat (encB b), .dat (encW ws), .dat (encW vs)] = .ok (.dat .none) [.dat (encB b), .dat (encW ws), .dat (encW vs)] := by
  rw [← ResW_eq]
  refine run_glob g_check_two_works rfl (by decide) ?_
  have e1 := check_works k b hb ws hw
  have e2 := check_works_of (k + 2) b hb vs hv
  simp -dsimp -implicitDefEqProofs [f_check_two_works, e1, e2]
/-- the greatest strain of works from nothing -/
def mostS (b : Bk) (ws : List (List Str)) (i : Nat) : Rat := great (ws.map fun r => great (along (b.tr i) r (great (ws.map (stand (b.tr i))))))
theorem mostS_fz {b : Bk} (hb : b.Ok) {ws : List (List Str)} (hw : WorksOk b ws 6 6) (i : Nat) : Fz 220 (great (ws.map (stand (b.tr i)))) ∧ (∀ y ∈ ws.map fun r => great (along (b.tr i) r (great (ws.map (stand (b.tr i))))), Fz 400 y) := by
  have hne : ws ≠ [] := fun e => by have := hw.w1; rw [e] at this; simp at this
  have h1 : Fz 220 (great (ws.map (stand (b.tr i)))) := great_fz (by simpa using hne) fun y hy => by
    obtain ⟨r, hr, rfl⟩ := List.mem_map.mp hy
    exact fz_stand' hb i (hw.wr r hr) (by omega)
  refine ⟨h1, fun y hy => ?_⟩
  obtain ⟨r, hr, rfl⟩ := List.mem_map.mp hy
  have := (hw.wr r hr).rm
  exact great_fz (along_ne (hw.wr r hr).ne) fun z hz => (along_fz (tr_ok hb i) h1 z hz).mono (by omega)
theorem strain_from_nothing (k : Nat) (b : Bk) (hb : b.Ok) (ws : List (List Str)) (hw : WorksOk b ws 6 6) (i : Nat) (hi : i < b.parts.length) :
    call G (k + 8) (.glob "strain_from_nothing") [.dat (encB b), .dat (encW ws), .dat (.str (pnm b i))] = .ok (.dat (fr (mostS b ws i))) [.dat (encB b), .dat (encW ws), .dat (.str (pnm b i))] := by
  rw [← ResW_eq]
  refine run_glob g_strain_from_nothing rfl (by decide) ?_
  have hne : ws ≠ [] := fun e => by have := hw.w1; rw [e] at this; simp at this
  obtain ⟨f1, f2⟩ := mostS_fz hb hw i
  have e1 := standings_of k b hb i hi ws hw (by omega) (by omega)
  rw [← pnm_get] at e1
  have e2 := greatest_of' (k + 4) (ws.map (stand (b.tr i))) (by simpa using hne) (B := 220) (fun y hy => by
    obtain ⟨r, hr, rfl⟩ := List.mem_map.mp hy
    exact fz_stand' hb i (hw.wr r hr) (by omega)) (by omega)
  rw [List.map_map] at e1 e2
  generalize hg : great (ws.map (stand (b.tr i))) = x at *
  simp -dsimp -implicitDefEqProofs [f_strain_from_nothing, e1, e2]
  have eW : encW ws = .tuple (ws.map encR) := rfl
  refine OutW_map' (l := ws) (e := encR) (g := fun r => fr (great (along (b.tr i) r x))) (fun r hr => ?_) ?_
  · have e3 := strain_of (k + 3) b hb i hi r (hw.wr r hr) x f1 (by have := (hw.wr r hr).rm; omega)
    rw [← pnm_get] at e3
    simp -dsimp -implicitDefEqProofs [e3]
  have hl : ws.length ≤ 10000 := by have := hw.wm; omega
  have e4 := greatest_of' (k + 4) (ws.map fun r => great (along (b.tr i) r x)) (by simpa using hne) f2 (by omega)
  have em : mostS b ws i = great (ws.map fun r => great (along (b.tr i) r x)) := by unfold mostS; rw [hg]
  rw [List.map_map] at e4
  rw [em]
  rw [show (fr ∘ fun r => great (along (b.tr i) r x)) = fun r => fr (great (along (b.tr i) r x)) from rfl] at e4
  simp -dsimp -implicitDefEqProofs [hl, e4]
/-- the parts that works strain more than others -/
def strained (b : Bk) (ws vs : List (List Str)) (l : List Nat) : List Nat := l.filter fun i => decide (mostS b vs i < mostS b ws i)
theorem mostS_fz' {b : Bk} (hb : b.Ok) {ws : List (List Str)} (hw : WorksOk b ws 6 6) (i : Nat) : Fz 400 (mostS b ws i) := great_fz (fun e => by have := hw.w1; rw [List.map_eq_nil_iff] at e; rw [e] at this; simp at this) (mostS_fz hb hw i).2
theorem names_range (b : Bk) : (b.parts.map fun p => PyData.str p.1) = (List.range b.parts.length).map fun i => PyData.str (pnm b i) := List.ext_getElem (by simp) fun i h1 h2 => by
  have h3 : i < b.parts.length := by simpa using h1
  rw [List.getElem_map, List.getElem_map, List.getElem_range, pnm_get h3]
theorem strained_parts (k : Nat) (b : Bk) (hb : b.Ok) (ws vs : List (List Str)) (hw : WorksOk b ws 6 6) (hv : WorksOk b vs 6 6) :
    call G (k + 9) (.glob "strained_parts") [.dat (encB b), .dat (encW ws), .dat (encW vs)] = .ok (.fresh ((strained b ws vs (List.range b.parts.length)).map fun i => PyData.str (pnm b i))) [.dat (encB b), .dat (encW ws), .dat (encW vs)] := by
  rw [← ResW_eq]
  refine run_glob g_strained_parts rfl (by decide) ?_
  have e1 := part_names (k + 7) b hb
  have hp3 := hb.p3
  rw [names_range] at e1
  simp -dsimp -implicitDefEqProofs [f_strained_parts, e1]
  refine FlW_forL (l := List.range b.parts.length) (e := fun i => PyData.str (pnm b i)) (fun pre ρ => ρ = [some (.dat (encB b)), some (.dat (encW ws)), some (.dat (encW vs)), some (.own ((strained b ws vs pre).map fun i => PyData.str (pnm b i))), none]) (fun pre i post ρ h1 hj => ?_) (fun ρ hj => ?_) rfl
  · subst hj
    have hi : i < b.parts.length := List.mem_range.mp (by rw [h1]; simp)
    have hl : pre.length < b.parts.length := by
      have := congrArg List.length h1
      simp at this
      omega
    have e2 := strain_from_nothing k b hb ws hw i hi
    have e3 := strain_from_nothing k b hb vs hv i hi
    have e4 := is_less (k + 7) _ _ (mostS_fz' hb hv i) (mostS_fz' hb hw i) (by omega)
    have hsl : (strained b ws vs pre).length ≤ pre.length := List.length_filter_le _ _
    have hsl2 : (strained b ws vs pre).length + 1 ≤ 10000 := by omega
    have ea : strained b ws vs (pre ++ [i]) = strained b ws vs pre ++ (if mostS b vs i < mostS b ws i then [i] else []) := by
      unfold strained
      rw [List.filter_append, List.filter_cons]
      simp
    by_cases hc : mostS b vs i < mostS b ws i
    · rw [decide_eq_true hc] at e4
      rw [if_pos hc] at ea
      simp -dsimp -implicitDefEqProofs [e2, e3, e4, hsl2]
      refine ⟨le_sz hsl2, ?_⟩
      show _ = _
      rw [ea]
      simp
    · rw [decide_eq_false hc] at e4
      rw [if_neg hc] at ea
      simp -dsimp -implicitDefEqProofs [e2, e3, e4]
      show _ = _
      rw [ea]
      simp
  · subst hj
    simp -dsimp -implicitDefEqProofs
theorem pnm_sh {b : Bk} (hb : b.Ok) {l : List Nat} (h : ∀ i ∈ l, i < b.parts.length) : SeqAt.shaped (.list (l.map fun i => PyData.str (pnm b i))) = true := by
  have := names_sh (l := l.map (pnm b)) fun n hn => by
    obtain ⟨i, hi, rfl⟩ := List.mem_map.mp hn
    rw [pnm_get (h i hi)]
    exact hb.pn _ (List.getElem_mem (h i hi))
  rw [List.map_map] at this
  exact this
theorem never_strains_more (k : Nat) (b : Bk) (hb : b.Ok) (ws vs : List (List Str)) (hw : WorksOk b ws 6 6) (hv : WorksOk b vs 6 6) :
    call G (k + 14) (.glob "never_strains_more") [.dat (encB b), .dat (encW ws), .dat (encW vs)] = .ok (.dat (.bool (decide (strained b ws vs (List.range b.parts.length) = [])))) [.dat (encB b), .dat (encW ws), .dat (encW vs)] := by
  rw [← ResW_eq]
  refine run_glob g_never_strains_more rfl (by decide) ?_
  have e1 := check_two_works k b hb ws vs hw hv
  have e2 := strained_parts (k + 4) b hb ws vs hw hv
  have hsh := pnm_sh hb (l := strained b ws vs (List.range b.parts.length)) fun i hi => List.mem_range.mp (List.mem_filter.mp hi).1
  cases e : strained b ws vs (List.range b.parts.length) with
  | nil =>
    rw [e] at e2
    have q : (PyData.list []).eqv (PyData.list []) = true := rfl
    simp -dsimp -implicitDefEqProofs [f_never_strains_more, e1, e2, q]
  | cons x l =>
    rw [e] at e2 hsh
    have q : (PyData.list (.str (pnm b x) :: l.map fun i => PyData.str (pnm b i))).eqv (PyData.list []) = false := rfl
    have q2 : SeqAt.shaped (.list (.str (pnm b x) :: l.map fun i => PyData.str (pnm b i))) = true := hsh
    simp -dsimp -implicitDefEqProofs [f_never_strains_more, e1, e2, q, q2]
def firstS (b : Bk) : List Nat → D
  | [] => .none
  | i :: _ => .str (pnm b i)
theorem strained_part (k : Nat) (b : Bk) (hb : b.Ok) (ws vs : List (List Str)) (hw : WorksOk b ws 6 6) (hv : WorksOk b vs 6 6) :
    call G (k + 14) (.glob "strained_part") [.dat (encB b), .dat (encW ws), .dat (encW vs)] = .ok (.dat (firstS b (strained b ws vs (List.range b.parts.length)))) [.dat (encB b), .dat (encW ws), .dat (encW vs)] := by
  rw [← ResW_eq]
  refine run_glob g_strained_part rfl (by decide) ?_
  have e1 := check_two_works k b hb ws vs hw hv
  have e2 := strained_parts (k + 4) b hb ws vs hw hv
  have hl : (strained b ws vs (List.range b.parts.length)).length ≤ 3 := Nat.le_trans (List.length_filter_le _ _) (by have := hb.p3; simpa using this)
  cases e : strained b ws vs (List.range b.parts.length) with
  | nil =>
    rw [e] at e2
    simp -dsimp -implicitDefEqProofs [f_strained_part, e1, e2, firstS]
  | cons x l =>
    rw [e] at e2 hl
    have hl2 : l.length + 1 + 1 ≤ 10000 := by simp at hl; omega
    simp -dsimp -implicitDefEqProofs [f_strained_part, e1, e2, firstS, hl2]
end LawT
set_option Elab.async false
set_option maxRecDepth 100000
set_option linter.all false
namespace LawT
open PySem Ev
/-! ### drawn works -/
theorem law_works (k : Nat) {n : Nat} {ds : List D} (hp : Pw n ds) (b : Bk) (h : b.Ok) (m q : Nat) (hm : 1 ≤ m ∧ m ≤ 100) (hq : 1 ≤ q ∧ q ≤ 100) (hn : n ≤ 999000000) :
    ResW (call G (k + 4) (.glob "_law_works") [.par ds, .dat (encB b), .dat (.int m), .dat (.int q)]) (fun r as => ∃ ws ds', r = .dat (encW ws) ∧ as = [.par ds', .dat (encB b), .dat (.int m), .dat (.int q)] ∧ WorksOk b ws m q ∧ Pw (n + 1 + 101 * m) ds') := by
  refine run_globQ g_law_works rfl (by decide) fun Q hQ => ?_
  simp -dsimp -implicitDefEqProofs [f_law_works]
  refine (law_dip (k + 2) hp (by omega) m (by omega) (by omega)).mono ?_
  rintro _ _ ⟨a, ds1, rfl, rfl, h1, h2, h3⟩
  obtain ⟨j, rfl⟩ := Int.eq_ofNat_of_zero_le h1
  have ej : (1 + (j : Int)) = ((1 + j : Nat) : Int) := by omega
  simp -dsimp -implicitDefEqProofs
  rw [ej]
  refine ⟨r62 (by omega) (by omega), ?_⟩
  refine OutW_lcR (fun i done ρ => ∃ (t : List (List Str)) (ds' : List D), done = t.map encR ∧ ρ = [some (.par ds'), some (.dat (encB b)), some (.dat (.int m)), some (.dat (.int q)), none] ∧ (∀ x ∈ t, RowOk b x q) ∧ t.length = i ∧ Pw (n + 1 + 101 * i) ds') (fun i hi done ρ hj => ?_) (fun done ρ hj => ?_) ⟨[], ds1, rfl, rfl, by simp, rfl, h3⟩
  · obtain ⟨t, ds3, rfl, rfl, h6, h7, h8⟩ := hj
    simp -dsimp -implicitDefEqProofs
    refine (law_row k h8 b h q hq (by omega)).mono ?_
    rintro _ _ ⟨r, ds4, rfl, rfl, hr, h10⟩
    simp -dsimp -implicitDefEqProofs
    refine ⟨t ++ [r], ds4, by simp, rfl, fun x hx => ?_, by simp; omega, h10.mono (by omega)⟩
    rcases List.mem_append.mp hx with hx | hx
    · exact h6 x hx
    · rw [List.mem_singleton.mp hx]
      exact hr
  · obtain ⟨t, ds3, rfl, rfl, h7, h8, h9⟩ := hj
    have hl : t.length ≤ 10000 := by omega
    simp -dsimp -implicitDefEqProofs [hl]
    exact hQ _ _ ⟨t, ds3, rfl, rfl, ⟨by omega, by omega, h7⟩, h9.mono (by omega)⟩
/-- strains of rows at long runs of rows -/
def crossS (b : Bk) (i : Nat) (ws : List (List Str)) (one : List Str) : List Rat := ws.flatMap fun two => along (b.tr i) two (stand (b.tr i) one)
theorem great_cons {x : Rat} {l : List Rat} (v : Rat) (h : v = great (x :: l)) : (v = x ∨ v ∈ l) ∧ x ≤ v ∧ ∀ y ∈ l, y ≤ v := by
  subst h
  refine ⟨?_, le_great (by simp), fun y hy => le_great (by simp [hy])⟩
  have := great_mem (l := x :: l) (by simp)
  simpa using this
theorem law_most_strain (k : Nat) (b : Bk) (hb : b.Ok) (ws : List (List Str)) (hw : WorksOk b ws 6 6) (i : Nat) (hi : i < b.parts.length) :
    ResW (call G (k + 6) (.glob "_law_most_strain") [.dat (dictT b i), .dat (encW ws)]) (fun r as => ∃ v : Rat, r = .dat (fr v) ∧ as = [.dat (dictT b i), .dat (encW ws)] ∧ (v = 0 ∨ ∃ one ∈ ws, v ∈ crossS b i ws one) ∧ 0 ≤ v ∧ (∀ one ∈ ws, ∀ y ∈ crossS b i ws one, y ≤ v) ∧ Fz 400 v) := by
  refine run_globQ g_law_most_strain rfl (by decide) fun Q hQ => ?_
  have eW : encW ws = .tuple (ws.map encR) := rfl
  simp -dsimp -implicitDefEqProofs [f_law_most_strain, enc_nought]
  refine FlW_forL (l := ws) (e := encR) (fun pre ρ => ∃ v : Rat, ρ = [some (.dat (dictT b i)), some (.dat (encW ws)), some (.dat (fr v)), none, none] ∧ (v = 0 ∨ ∃ one ∈ ws, v ∈ crossS b i ws one) ∧ 0 ≤ v ∧ (∀ one ∈ pre, ∀ y ∈ crossS b i ws one, y ≤ v) ∧ Fz 400 v) (fun pre one post ρ h1 hj => ?_) (fun ρ hj => ?_) ⟨0, rfl, .inl rfl, Rat.le_refl, by simp, fz_0.mono (by omega)⟩
  · obtain ⟨v, rfl, v1, v2, v3, v4⟩ := hj
    have ho : one ∈ ws := by rw [h1]; simp
    have hro : RowOk b one 12 := (hw.wr one ho).mono (by omega)
    have e1 := law_stands k b hb i hi one hro
    have sf := fz_stand' hb i hro (by omega)
    simp -dsimp -implicitDefEqProofs
    refine FlW_forL (l := ws) (e := encR) (fun pre2 ρ => ∃ v : Rat, ρ = [some (.dat (dictT b i)), some (.dat (encW ws)), some (.dat (fr v)), some (.dat (encR one)), none] ∧ (v = 0 ∨ ∃ one ∈ ws, v ∈ crossS b i ws one) ∧ 0 ≤ v ∧ (∀ one ∈ pre, ∀ y ∈ crossS b i ws one, y ≤ v) ∧ (∀ two ∈ pre2, ∀ y ∈ along (b.tr i) two (stand (b.tr i) one), y ≤ v) ∧ Fz 400 v) (fun pre2 two post2 ρ h2 hj => ?_) (fun ρ hj => ?_) ⟨v, rfl, v1, v2, v3, by simp, v4⟩
    · obtain ⟨u, rfl, u1, u2, u3, u5, u4⟩ := hj
      have ht : two ∈ ws := by rw [h2]; simp
      have hrt := hw.wr two ht
      have e2 := law_along (k + 2) b hb i hi two hrt.rn (stand (b.tr i) one) sf (by have := hrt.rm; omega)
      have af : ∀ y ∈ along (b.tr i) two (stand (b.tr i) one), Fz 400 y := fun y hy => (along_fz (tr_ok hb i) sf y hy).mono (by have := hrt.rm; omega)
      have e3 := law_greatest (k + 3) (u :: along (b.tr i) two (stand (b.tr i) one)) (by simp) (B := 400) (fun y hy => by
        rcases List.mem_cons.mp hy with rfl | hy
        · exact u4
        · exact af y hy) (by omega)
      obtain ⟨g1, g2, g3⟩ := great_cons (x := u) (l := along (b.tr i) two (stand (b.tr i) one)) _ rfl
      have gfz : Fz 400 (great (u :: along (b.tr i) two (stand (b.tr i) one))) := by
        rcases g1 with g1 | g1
        · rw [g1]; exact u4
        · exact af _ g1
      rw [List.map_cons] at e3
      generalize great (u :: along (b.tr i) two (stand (b.tr i) one)) = w at *
      have hal : (along (b.tr i) two (stand (b.tr i) one)).length = two.length := along_len _ _ _
      have hl9 : 1 + (along (b.tr i) two (stand (b.tr i) one)).length ≤ 10000 := by have := hrt.rm; omega
      have hl8 : (along (b.tr i) two (stand (b.tr i) one)).length + 1 ≤ 10000 := by omega
      simp -dsimp -implicitDefEqProofs [e1, e2, e3, hl9, hl8]
      refine ⟨w, rfl, ?_, by grind, fun o h3 y hy => ?_, fun o h3 y hy => ?_, gfz⟩
      · rcases g1 with g1 | g1
        · rw [g1]
          exact u1
        · exact .inr ⟨one, ho, List.mem_flatMap.mpr ⟨two, ht, g1⟩⟩
      · have := u3 o h3 y hy
        grind
      · rcases List.mem_append.mp h3 with h3 | h3
        · have := u5 o h3 y hy
          grind
        · rw [List.mem_singleton.mp h3] at hy
          exact g3 y hy
    · obtain ⟨u, rfl, u1, u2, u3, u5, u4⟩ := hj
      simp -dsimp -implicitDefEqProofs
      refine ⟨u, rfl, u1, u2, fun o ho2 y hy => ?_, u4⟩
      rcases List.mem_append.mp ho2 with ho2 | ho2
      · exact u3 o ho2 y hy
      · rw [List.mem_singleton.mp ho2] at hy
        obtain ⟨two, h3, h4⟩ := List.mem_flatMap.mp hy
        exact u5 two h3 y h4
  · obtain ⟨v, rfl, v1, v2, v3, v4⟩ := hj
    simp -dsimp -implicitDefEqProofs
    exact hQ _ _ ⟨v, rfl, rfl, v1, v2, v3, v4⟩
end LawT
set_option Elab.async false
set_option maxRecDepth 100000
set_option linter.all false
namespace LawT
open PySem Ev
/-! ### deeds that only rest -/
def isRest (d : Str × List Tr) : Bool := d.2.all fun t => decide (t.a ≤ 0)
theorem law_rests (k : Nat) (b : Bk) (hb : b.Ok) : call G (k + 1) (.glob "_law_rests") [.dat (encB b)] = .ok (.fresh ((b.deeds.filter isRest).map fun d => PyData.str d.1)) [.dat (encB b)] := by
  rw [← ResW_eq]
  refine run_glob g_law_rests rfl (by decide) ?_
  have hd6 := hb.d6
  have hp3 := hb.p3
  simp -dsimp -implicitDefEqProofs [f_law_rests]
  refine OutW_filt (l := b.deeds) (e := encD) (g := fun d => if isRest d then some (.str d.1) else none) (fun d hd => ?_) ?_
  · simp -dsimp -implicitDefEqProofs
    refine OutW_filt (l := d.2) (e := encT) (g := fun t => if 0 < t.a then some (encT t) else none) (fun t ht => ?_) ?_
    · simp -dsimp -implicitDefEqProofs [encT]
    · have hdl := hb.dl d hd
      have hle : (d.2.filterMap fun t => if 0 < t.a then some (encT t) else none).length ≤ 10000 := Nat.le_trans (List.length_filterMap_le _ _) (by omega)
      have hsh : SeqAt.shaped (.list (d.2.filterMap fun t => if 0 < t.a then some (encT t) else none)) = true := (Sh.lst (n := 1) fun x hx => by
        obtain ⟨t, _, h2⟩ := List.mem_filterMap.mp hx
        by_cases hc : 0 < t.a
        · rw [if_pos hc] at h2
          cases h2
          exact Sh.encT
        · rw [if_neg hc] at h2
          cases h2).sh (by omega)
      have hr : (d.2.filterMap fun t => if 0 < t.a then some (encT t) else none) = [] ↔ isRest d = true := by
        unfold isRest
        rw [List.filterMap_eq_nil_iff, List.all_eq_true]
        constructor
        · intro h t ht
          have := h t ht
          by_cases hc : 0 < t.a
          · rw [if_pos hc] at this
            cases this
          · exact decide_eq_true (by omega)
        · intro h t ht
          have := of_decide_eq_true (h t ht)
          exact if_neg (by omega)
      generalize (d.2.filterMap fun t => if 0 < t.a then some (encT t) else none) = L at *
      cases L with
      | nil =>
        have q : (PyData.list []).eqv (PyData.list []) = true := rfl
        have h3 := hr.mp rfl
        simp -dsimp -implicitDefEqProofs [q, h3]
      | cons x l =>
        have q : (PyData.list (x :: l)).eqv (PyData.list []) = false := rfl
        have h3 : isRest d = false := by
          cases h : isRest d with
          | false => rfl
          | true => cases hr.mpr h
        refine ⟨le_sz hle, ?_⟩
        simp -dsimp -implicitDefEqProofs [q, h3, hsh]
  · have hle : (b.deeds.filterMap fun d => if isRest d then some (PyData.str d.1) else none).length ≤ 10000 := Nat.le_trans (List.length_filterMap_le _ _) (by omega)
    have he : (b.deeds.filterMap fun d => if isRest d then some (PyData.str d.1) else none) = (b.deeds.filter isRest).map fun d => PyData.str d.1 := by
      induction b.deeds with
      | nil => rfl
      | cons d l ih =>
        rw [List.filterMap_cons, List.filter_cons, ih]
        cases isRest d <;> rfl
    refine ⟨le_sz hle, ?_⟩
    rw [he]
    simp -dsimp -implicitDefEqProofs
theorem most_eq {b : Bk} (hb : b.Ok) {ws : List (List Str)} (hw : WorksOk b ws 6 6) {i : Nat} {v : Rat} (h1 : v = 0 ∨ ∃ one ∈ ws, v ∈ crossS b i ws one) (h0 : 0 ≤ v) (h2 : ∀ one ∈ ws, ∀ y ∈ crossS b i ws one, y ≤ v) : v = mostS b ws i := by
  have hne : ws ≠ [] := fun e => by have := hw.w1; rw [e] at this; simp at this
  have hn1 : ws.map (stand (b.tr i)) ≠ [] := by simpa using hne
  have hn2 : (ws.map fun r => great (along (b.tr i) r (great (ws.map (stand (b.tr i)))))) ≠ [] := by simpa using hne
  have a1 : mostS b ws i ≤ v := by
    obtain ⟨r, hr, e⟩ := List.mem_map.mp (great_mem hn2)
    obtain ⟨o, ho, e2⟩ := List.mem_map.mp (great_mem hn1)
    have h3 := great_mem (along_ne (f := b.tr i) (x := great (ws.map (stand (b.tr i)))) (hw.wr r hr).ne)
    have e3 : mostS b ws i = great (along (b.tr i) r (great (ws.map (stand (b.tr i))))) := e.symm
    rw [e3]
    refine h2 o ho _ (List.mem_flatMap.mpr ⟨r, hr, ?_⟩)
    rw [e2]
    exact h3
  have a2 : v ≤ mostS b ws i := by
    have hle : ∀ r ∈ ws, great (along (b.tr i) r (great (ws.map (stand (b.tr i))))) ≤ mostS b ws i := fun r hr => le_great (List.mem_map.mpr ⟨r, hr, rfl⟩)
    rcases h1 with rfl | ⟨one, ho, h3⟩
    · obtain ⟨r, hr⟩ := List.exists_mem_of_ne_nil ws hne
      have hX : 0 ≤ great (ws.map (stand (b.tr i))) := by
        obtain ⟨o, ho, e2⟩ := List.mem_map.mp (great_mem hn1)
        rw [← e2]
        exact stand_nonneg (tr_ok hb i) (hw.wr o ho).ne
      have h4 := hle r hr
      have h5 := le_great (List.mem_of_getLast? (along_last (f := b.tr i) (x := great (ws.map (stand (b.tr i)))) (hw.wr r hr).ne))
      have h6 := left_nonneg (tr_ok hb i) (row := r) hX
      grind
    · obtain ⟨two, ht, h4⟩ := List.mem_flatMap.mp h3
      have h5 := le_great h4
      have h6 : stand (b.tr i) one ≤ great (ws.map (stand (b.tr i))) := le_great (List.mem_map.mpr ⟨one, ho, rfl⟩)
      have h7 := strain_le (tr_ok hb i) (hw.wr two ht).ne h6
      have h8 := hle two ht
      grind
  grind
end LawT
set_option Elab.async false
set_option maxRecDepth 100000
set_option linter.all false
namespace LawT
open PySem Ev
/-! ### more works strain no less; the least of a list -/
theorem mostS_le {b : Bk} (hb : b.Ok) {ws vs : List (List Str)} (hw : WorksOk b ws 6 6) (h : ∀ r ∈ ws, r ∈ vs) (i : Nat) : mostS b ws i ≤ mostS b vs i := by
  have hne : ws ≠ [] := fun e => by have := hw.w1; rw [e] at this; simp at this
  have hn1 : ws.map (stand (b.tr i)) ≠ [] := by simpa using hne
  have hn2 : (ws.map fun r => great (along (b.tr i) r (great (ws.map (stand (b.tr i)))))) ≠ [] := by simpa using hne
  obtain ⟨r, hr, e⟩ := List.mem_map.mp (great_mem hn2)
  obtain ⟨o, ho, e2⟩ := List.mem_map.mp (great_mem hn1)
  have h1 : great (ws.map (stand (b.tr i))) ≤ great (vs.map (stand (b.tr i))) := by
    rw [← e2]
    exact le_great (List.mem_map.mpr ⟨o, h o ho, rfl⟩)
  have h2 := strain_le (tr_ok hb i) (hw.wr r hr).ne h1
  have h3 : great (along (b.tr i) r (great (vs.map (stand (b.tr i))))) ≤ mostS b vs i := le_great (List.mem_map.mpr ⟨r, h r hr, rfl⟩)
  have h4 : mostS b ws i = great (along (b.tr i) r (great (ws.map (stand (b.tr i))))) := e.symm
  grind
theorem strained_nil {b : Bk} (hb : b.Ok) {ws vs : List (List Str)} (hw : WorksOk b ws 6 6) (h : ∀ r ∈ ws, r ∈ vs) (l : List Nat) : strained b ws vs l = [] := by
  unfold strained
  rw [List.filter_eq_nil_iff]
  intro i _ hc
  have h1 := of_decide_eq_true hc
  have h2 := mostS_le hb hw h i
  grind
theorem law_least_l (k : Nat) (xs : List Rat) (hne : xs ≠ []) {B : Nat} (hx : ∀ x ∈ xs, Fz B x) (hB : B < 9000) : call G (k + 2) (.glob "_law_least") [.dat (.list (xs.map fr))] = .ok (.dat (fr (least xs))) [.dat (.list (xs.map fr))] := by
  cases xs with
  | nil => exact absurd rfl hne
  | cons x0 xs =>
  rw [← ResW_eq]
  refine run_glob g_law_least rfl (by decide) ?_
  have ea : L2.atI ((x0 :: xs).map fr) 0 = some (fr x0) := by
    rw [show (0 : Int) = ((0 : Nat) : Int) from rfl, atI_n]
    rfl
  have egr : least (x0 :: xs) = (x0 :: xs).foldl minR x0 := by
    show xs.foldl minR x0 = xs.foldl minR (minR x0 x0)
    rw [minR_self]
  rw [egr]
  have hx0 := hx x0 (by simp)
  generalize hL : x0 :: xs = L at *
  simp -dsimp -implicitDefEqProofs [f_law_least, ea]
  refine FlW_forL (l := L) (e := fr) (fun pre ρ => Fz B (pre.foldl minR x0) ∧ ρ = [some (.dat (.list (L.map fr))), some (.dat (fr (pre.foldl minR x0))), none]) (fun pre y post ρ h1 hj => ?_) (fun ρ hj => ?_) ⟨hx0, rfl⟩
  · obtain ⟨hf, rfl⟩ := hj
    have hy := hx y (by rw [h1]; simp)
    have e1 := law_less k y (pre.foldl minR x0) hy hf hB
    have e2 : (pre ++ [y]).foldl minR x0 = minR (pre.foldl minR x0) y := by rw [List.foldl_append]; rfl
    by_cases hc : y < pre.foldl minR x0
    · rw [decide_eq_true hc] at e1
      have e3 : minR (pre.foldl minR x0) y = y := if_pos hc
      simp -dsimp -implicitDefEqProofs [e1]
      refine ⟨by rw [e2, e3]; exact hy, ?_⟩
      rw [e2, e3]
    · rw [decide_eq_false hc] at e1
      have e3 : minR (pre.foldl minR x0) y = pre.foldl minR x0 := if_neg hc
      simp -dsimp -implicitDefEqProofs [e1]
      refine ⟨by rw [e2, e3]; exact hf, ?_⟩
      rw [e2, e3]
  · obtain ⟨hf, rfl⟩ := hj
    simp -dsimp -implicitDefEqProofs
theorem stand_left {f : Str → Tr} (hf : ∀ n, (f n).Ok) {r : List Str} (hr : r ≠ []) {x y : Rat} (h : stand f r ≤ x) (hy : y ≤ x) : left f r y ≤ x := by
  have h1 := left_le hf (row := r) hy
  have h2 := stand_eq hf hr
  have h3 := left_eq (f := f) (row := r) (x := x)
  have h4 := left_eq (f := f) (row := r) (x := stand f r)
  have h5 := keepR_lt hf hr
  have h6 : 0 ≤ (1 - keepR f r) * (x - stand f r) := Rat.mul_nonneg (by grind) (by grind)
  grind
theorem rq_name (x : Str) : reprQuote x = 39 ∨ reprQuote x = 34 := by
  unfold reprQuote
  split <;> simp
theorem rc_name (q c : Nat) (hq : q = 39 ∨ q = 34) (hc : 97 ≤ c ∧ c ≤ 122) : Builtin.Str.reprChar q c = [c] := by
  have : ∀ c ∈ List.range' 97 26, Builtin.Str.reprChar 39 c = [c] ∧ Builtin.Str.reprChar 34 c = [c] := by decide +kernel
  have h := this c (List.mem_range'_1.mpr (by omega))
  rcases hq with rfl | rfl
  · exact h.1
  · exact h.2
theorem rt_name (q : Nat) (hq : q = 39 ∨ q = 34) : ∀ (l : List Nat) (acc : Array Nat), (∀ c ∈ l, 97 ≤ c ∧ c ≤ 122) → l.foldl (fun out c => out ++ (Builtin.Str.reprChar q c).toArray) acc = acc ++ l.toArray
  | [], acc, _ => by simp
  | c :: l, acc, h => by
    rw [List.foldl_cons, rc_name q c hq (h c (by simp)), rt_name q hq l _ fun x hx => h x (by simp [hx])]
    simp
theorem reprName {n : Str} (h : NameOk n) : ∃ q, (q = 39 ∨ q = 34) ∧ (reprText n).cps.toList = q :: (n.cps.toList ++ [q]) := by
  refine ⟨reprQuote n, rq_name n, ?_⟩
  unfold reprText
  simp only [Array.toList_push]
  rw [← Array.foldl_toList, rt_name _ (rq_name n) _ _ h.let_]
  simp
theorem Rp.name {n : Str} (h : NameOk n) : Rp 10 0 (.str n) := by
  obtain ⟨q, hq, e⟩ := reprName h
  have hs : PyData.shown (.str n) = reprText n := by simp only [PyData.shown]
  refine ⟨by simp only [PyData.showable], by simp [PyData.depth], ?_, rfl, ?_⟩
  · rw [hs]
    show (reprText n).cps.size ≤ 10
    rw [← Array.length_toList, e]
    have := h.le8
    have h2 : n.cps.toList.length ≤ 8 := by rw [Array.length_toList]; exact this
    simp only [List.length_cons, List.length_append, List.length_nil]
    omega
  · rw [hs]
    unfold PyData.strOk
    rw [← Array.all_toList, e, List.all_eq_true]
    intro c hc
    refine decide_eq_true ?_
    simp only [List.mem_cons, List.mem_append, List.not_mem_nil, or_false] at hc
    rcases hc with rfl | hc | rfl
    · omega
    · have := h.let_ c hc
      omega
    · omega
end LawT
set_option Elab.async false
set_option maxRecDepth 100000
set_option linter.all false
namespace LawT
open PySem Ev
theorem encW_add (r s : List (List Str)) (h : r.length + s.length ≤ 10000) : binD .Add (encW r) (encW s) = some (.dat (encW (r ++ s))) := by
  have e : binD .Add (encW r) (encW s) = if (r.map encR).length + (s.map encR).length ≤ sizeLine then some (.dat (.tuple (r.map encR ++ s.map encR))) else none := rfl
  rw [e, if_pos (by rw [List.length_map, List.length_map]; exact le_sz h), ← List.map_append]
  rfl
theorem slcW : ∀ {r : List (List Str)}, 1 ≤ r.length → r.length ≤ 6 → slcD (encW r) .none (.int 6) = some (.dat (encW r))
  | [_], _, _ => rfl
  | [_, _], _, _ => rfl
  | [_, _, _], _, _ => rfl
  | [_, _, _, _], _, _ => rfl
  | [_, _, _, _, _], _, _ => rfl
  | [_, _, _, _, _, _], _, _ => rfl
  | _ :: _ :: _ :: _ :: _ :: _ :: _ :: _, _, h => by simp at h
theorem slcW1 : ∀ {r : List (List Str)}, 1 ≤ r.length → r.length ≤ 6 → slcD (encW r) .none (.int 1) = some (.dat (encW (r.take 1)))
  | [_], _, _ => rfl
  | [_, _], _, _ => rfl
  | [_, _, _], _, _ => rfl
  | [_, _, _, _], _, _ => rfl
  | [_, _, _, _, _], _, _ => rfl
  | [_, _, _, _, _, _], _, _ => rfl
  | _ :: _ :: _ :: _ :: _ :: _ :: _ :: _, _, h => by simp at h
theorem law_right (k : Nat) {ds : List D} (hp : Pw 0 ds) : ResW (call G (k + 16) (.glob "_law_right") [.par ds]) (fun r as => r = .dat (.bool true)) := by
  refine run_globQ g_law_right rfl (by decide) fun Q hQ => ?_
  simp -dsimp -implicitDefEqProofs [f_law_right]
  refine ⟨r62 (by decide) (by decide), ?_⟩
  refine FlW_rng (n := 4) (fun j ρ => ∃ ds' v6, (v6 = none ∨ ∃ d, v6 = some (SV.dat d)) ∧ ρ = [some (.par ds'), none, none, none, none, none, v6, none, none, none, none, none, none, none, none, none, none, none] ∧ Pw (10000 * j) ds') (fun j hj ρ hjj => ?_) (fun ρ hj => ?_) ⟨ds, none, .inl rfl, rfl, hp⟩
  · obtain ⟨ds', v6, hv6, rfl, hpl⟩ := hjj
    simp -dsimp -implicitDefEqProofs
    refine (law_book (k + 11) hpl 4 (by omega) (by omega)).mono ?_
    rintro _ _ ⟨b, ds1, rfl, rfl, hb, _, hrest, _, _, hp1⟩
    simp -dsimp -implicitDefEqProofs
    refine (law_works (k + 11) hp1 b hb 3 3 (by omega) (by omega) (by omega)).mono ?_
    rintro _ _ ⟨ws, ds2, rfl, rfl, hw, hp2⟩
    simp -dsimp -implicitDefEqProofs
    refine (law_works (k + 11) hp2 b hb 3 3 (by omega) (by omega) (by omega)).mono ?_
    rintro q1 q2 ⟨vs0, ds3, w1, w2, hv0, hp3⟩
    have e1 := law_rests (k + 14) b hb
    simp -dsimp -implicitDefEqProofs [w1, w2, e1]
    clear w1 w2
    obtain ⟨dr, hdr, hda⟩ := hrest
    have hdr2 : dr ∈ b.deeds.filter isRest := List.mem_filter.mpr ⟨hdr, List.all_eq_true.mpr fun t ht => decide_eq_true (by have := hda t ht; omega)⟩
    have hd6 := hb.d6
    refine (law_one (k + 13) hp3 (by omega) ((b.deeds.filter isRest).map fun d => PyData.str d.1) _ (.inl rfl) (by intro e; rw [List.map_eq_nil_iff] at e; rw [e] at hdr2; cases hdr2) (by rw [List.length_map]; exact Nat.le_trans (List.length_filter_le _ _) (by omega))).mono ?_
    rintro q1 q2 ⟨x, ds4, w1, w2, hx, hp4⟩
    obtain ⟨d1, hd1, rfl⟩ := List.mem_map.mp hx
    have hn1 : d1.1 ∈ b.deeds.map (·.1) := List.mem_map_of_mem (List.mem_filter.mp hd1).1
    have ead := encW_add ws vs0 (by have := hw.wm; have := hv0.wm; omega)
    have hwl : ws.length ≤ 10000 := by have := hw.wm; omega
    simp -dsimp -implicitDefEqProofs [w1, w2, ead]
    clear w1 w2 hx
    refine OutW_map' (l := ws) (e := encR) (g := fun r => encR (r ++ [d1.1])) (fun r hr => ?_) ?_
    · have ea := encR_add r [d1.1] (by have := (hw.wr r hr).rm; simp; omega)
      rw [show encR [d1.1] = PyData.tuple [.str d1.1] from rfl] at ea
      simp -dsimp -implicitDefEqProofs [ea]
    have eW : PyData.tuple (ws.map fun r => encR (r ++ [d1.1])) = encW (ws.map fun r => r ++ [d1.1]) := by
      unfold encW
      rw [List.map_map]
      rfl
    simp -dsimp -implicitDefEqProofs [hwl, eW]
    refine (law_one (k + 13) hp4 (by omega) [encW vs0, encW vs0, encW (ws ++ vs0), encW (ws.map fun r => r ++ [d1.1])] _ (.inl rfl) (by simp) (by simp)).mono ?_
    rintro q1 q2 ⟨x, ds5, w1, w2, hx, hp5⟩
    have hw6 : WorksOk b ws 6 6 := ⟨hw.w1, by have := hw.wm; omega, fun r hr => (hw.wr r hr).mono (by omega)⟩
    obtain ⟨vs, rfl, hv⟩ : ∃ vs, x = encW vs ∧ WorksOk b vs 6 6 := by
      simp only [List.mem_cons, List.not_mem_nil, or_false] at hx
      have h0 : WorksOk b vs0 6 6 := ⟨hv0.w1, by have := hv0.wm; omega, fun r hr => (hv0.wr r hr).mono (by omega)⟩
      rcases hx with rfl | rfl | rfl | rfl
      · exact ⟨vs0, rfl, h0⟩
      · exact ⟨vs0, rfl, h0⟩
      · refine ⟨_, rfl, by have := hw.w1; rw [List.length_append]; omega, by have := hw.wm; have := hv0.wm; rw [List.length_append]; omega, fun r hr => ?_⟩
        rcases List.mem_append.mp hr with hr | hr
        · exact hw6.wr r hr
        · exact h0.wr r hr
      · refine ⟨_, rfl, by rw [List.length_map]; exact hw.w1, by rw [List.length_map]; exact hw6.wm, fun r hr => ?_⟩
        obtain ⟨s, hs, rfl⟩ := List.mem_map.mp hr
        have h2 := hw.wr s hs
        exact ⟨by rw [List.length_append]; have := h2.r1; omega, by rw [List.length_append]; have := h2.rm; simp; omega, fun n hn => by
          rcases List.mem_append.mp hn with hn | hn
          · exact h2.rn n hn
          · rw [List.mem_singleton.mp hn]
            exact hn1⟩
    have es := slcW hv.w1 hv.wm
    simp -dsimp -implicitDefEqProofs [w1, w2, es]
    clear w1 w2 hx
    rw [parts_range]
    have hX0 : ∀ i, 0 ≤ great (ws.map (stand (b.tr i))) := fun i => by
      obtain ⟨o, ho, e2⟩ := List.mem_map.mp (great_mem (l := ws.map (stand (b.tr i))) (by simpa using fun e => by have := hw.w1; rw [e] at this; simp at this))
      rw [← e2]
      exact stand_nonneg (tr_ok hb i) (hw.wr o ho).ne
    have hp3b := hb.p3
    refine FlW_forL (l := List.range b.parts.length) (e := fun i => PyData.tuple [.str (pnm b i), .int (lim b i)]) (fun pre ρ => ∃ ds' v6', (v6' = none ∨ ∃ d, v6' = some (SV.dat d)) ∧ ρ = [some (.par ds'), some (.dat (.int j)), some (.dat (encB b)), some (.dat (encW ws)), some (.dat (encW vs)), some (.dat (.str d1.1)), v6', some (.own ((strained b ws vs pre).map fun i => PyData.str (pnm b i))), none, none, none, none, none, none, none, none, none, none] ∧ Pw (10000 * j + 5000 + 4 * pre.length) ds') (fun pre i post ρ h1 hj => ?_) (fun ρ hj => ?_) ⟨ds5, v6, hv6, rfl, hp5.mono (by simp)⟩
    · obtain ⟨ds6, v6', hv6', rfl, hp6⟩ := hj
      have hi : i < b.parts.length := List.mem_range.mp (by rw [h1]; simp)
      have hl : pre.length < b.parts.length := by
        have := congrArg List.length h1
        simp at this
        omega
      have et := law_tables (k + 14) b hb i hi
      simp -dsimp -implicitDefEqProofs [et]
      refine (law_most_strain (k + 9) b hb ws hw6 i hi).mono ?_
      rintro _ _ ⟨v, rfl, rfl, m1, m2, m3, _⟩
      have hv1 := most_eq hb hw6 m1 m2 m3
      subst hv1
      clear m1 m2 m3
      simp -dsimp -implicitDefEqProofs
      refine (law_most_strain (k + 9) b hb vs hv i hi).mono ?_
      rintro _ _ ⟨v, rfl, rfl, m1, m2, m3, _⟩
      have hv1 := most_eq hb hv m1 m2 m3
      subst hv1
      clear m1 m2 m3
      have e4 := law_less (k + 14) _ _ (mostS_fz' hb hv i) (mostS_fz' hb hw6 i) (by omega)
      have hsl : (strained b ws vs pre).length ≤ pre.length := List.length_filter_le _ _
      have hsl2 : (strained b ws vs pre).length + 1 ≤ 10000 := by omega
      have ea : strained b ws vs (pre ++ [i]) = strained b ws vs pre ++ (if mostS b vs i < mostS b ws i then [i] else []) := by
        unfold strained
        rw [List.filter_append, List.filter_cons]
        simp
      obtain ⟨S2, hS2⟩ : ∃ S2, S2 = strained b ws vs (pre ++ [i]) := ⟨_, rfl⟩
      rw [← hS2] at ea
      generalize strained b ws vs pre = S1 at *
      obtain ⟨X, hX⟩ : ∃ X, X = great (ws.map (stand (b.tr i))) := ⟨_, rfl⟩
      have hX0i : 0 ≤ X := by rw [hX]; exact hX0 i
      have hmost : ∀ r ∈ ws, great (along (b.tr i) r X) ≤ mostS b ws i := fun r hr => by
        rw [hX]
        exact le_great (List.mem_map.mpr ⟨r, hr, rfl⟩)
      have hstd : ∀ r ∈ ws, ∀ y, y ≤ X → left (b.tr i) r y ≤ X := fun r hr y hy => by
        have h2 := stand_left (tr_ok hb i) (hw.wr r hr).ne (le_great (List.mem_map.mpr ⟨r, hr, rfl⟩) : stand (b.tr i) r ≤ great (ws.map (stand (b.tr i)))) (hX ▸ hy)
        rw [hX]
        exact h2
      by_cases hc : mostS b vs i < mostS b ws i
      all_goals
        first
        | rw [decide_eq_true hc] at e4
          rw [if_pos hc] at ea
        | rw [decide_eq_false hc] at e4
          rw [if_neg hc, List.append_nil] at ea
        simp -dsimp -implicitDefEqProofs [e4, hsl2, enc_nought]
        first
        | refine ⟨le_sz hsl2, ?_⟩
          rw [show (S1.map fun i => PyData.str (pnm b i)) ++ [PyData.str (pnm b i)] = S2.map fun i => PyData.str (pnm b i) from by rw [ea]; simp]
        | rw [← ea]
        clear hc e4 ea hsl hsl2
        refine ⟨r62 (by omega) (by omega), ?_⟩
        refine FlW_rng (n := 4) (fun t ρ => ∃ ds' v6' ls, (v6' = none ∨ ∃ d, v6' = some (SV.dat d)) ∧ ρ = [some (.par ds'), some (.dat (.int j)), some (.dat (encB b)), some (.dat (encW ws)), some (.dat (encW vs)), some (.dat (.str d1.1)), v6', some (.own (S2.map fun i => PyData.str (pnm b i))), some (.dat (.str (pnm b i))), some (.dat (.int (lim b i))), some (.dat (dictT b i)), some (.dat (fr (mostS b ws i))), some (.dat (.list (List.map fr ls))), none, none, none, none, none] ∧ 1 ≤ ls.length ∧ ls.length ≤ 3 ∧ (∀ y ∈ ls, 0 ≤ y ∧ y ≤ X ∧ Fz (8 + 42 * t) y) ∧ Pw (10000 * j + 5000 + 4 * pre.length + t) ds') (fun t ht ρ hj => ?_) (fun ρ hj => ?_) ⟨ds6, v6', [0], hv6', rfl, by simp, by simp, fun y hy => by rw [List.mem_singleton.mp hy]; exact ⟨Rat.le_refl, hX0i, fz_0.mono (by omega)⟩, hp6⟩
        · obtain ⟨ds7, v7, ls, hv7, rfl, hl1, hl3, hls, hp7⟩ := hj
          simp -dsimp -implicitDefEqProofs
          refine FlW_forL (l := ls) (e := fr) (fun pre2 ρ => ∃ v7' es, (v7' = none ∨ ∃ d, v7' = some (SV.dat d)) ∧ ρ = [some (.par ds7), some (.dat (.int j)), some (.dat (encB b)), some (.dat (encW ws)), some (.dat (encW vs)), some (.dat (.str d1.1)), v7', some (.own (S2.map fun i => PyData.str (pnm b i))), some (.dat (.str (pnm b i))), some (.dat (.int (lim b i))), some (.dat (dictT b i)), some (.dat (fr (mostS b ws i))), some (.dat (.list (List.map fr ls))), some (.dat (.int t)), some (.own (List.map fr es)), none, none, none] ∧ pre2.length ≤ es.length ∧ es.length ≤ 3 * pre2.length ∧ (∀ y ∈ es, 0 ≤ y ∧ y ≤ X ∧ Fz (8 + 42 * (t + 1)) y)) (fun pre2 x post2 ρ h2 hj => ?_) (fun ρ hj => ?_) ⟨v7, [], hv7, rfl, by simp, by simp, by simp⟩
          · obtain ⟨v8, es, hv8, rfl, hes1, hes3, hes⟩ := hj
            have hx := hls x (by rw [h2]; simp)
            have hpl2 : pre2.length < ls.length := by
              have := congrArg List.length h2
              simp at this
              omega
            simp -dsimp -implicitDefEqProofs
            have eW2 : encW ws = .tuple (ws.map encR) := rfl
            refine FlW_forL (l := ws) (e := encR) (fun pre3 ρ => ∃ v7' es, (v7' = none ∨ ∃ d, v7' = some (SV.dat d)) ∧ ρ = [some (.par ds7), some (.dat (.int j)), some (.dat (encB b)), some (.dat (encW ws)), some (.dat (encW vs)), some (.dat (.str d1.1)), v7', some (.own (S2.map fun i => PyData.str (pnm b i))), some (.dat (.str (pnm b i))), some (.dat (.int (lim b i))), some (.dat (dictT b i)), some (.dat (fr (mostS b ws i))), some (.dat (.list (List.map fr ls))), some (.dat (.int t)), some (.own (List.map fr es)), some (.dat (fr x)), none, none] ∧ pre2.length + pre3.length ≤ es.length ∧ es.length ≤ 3 * pre2.length + pre3.length ∧ (∀ y ∈ es, 0 ≤ y ∧ y ≤ X ∧ Fz (8 + 42 * (t + 1)) y)) (fun pre3 r post3 ρ h3 hj => ?_) (fun ρ hj => ?_) ⟨v8, es, hv8, rfl, by simpa using hes1, by simpa using hes3, hes⟩
            · obtain ⟨v9, es2, hv9, rfl, hs1, hs3, hs⟩ := hj
              have hr : r ∈ ws := by rw [h3]; simp
              have hro := hw.wr r hr
              have hpl3 : pre3.length < ws.length := by
                have := congrArg List.length h3
                simp at this
                omega
              have hwm := hw.wm
              have s1 := strain (k + 1) b hb r (hro.mono (by omega)) i hi x hx.1 hx.2.2 (by omega)
              rw [← pnm_get] at s1
              have s2 := law_along (k + 12) b hb i hi r hro.rn x hx.2.2 (by have := hro.rm; omega)
              have af : ∀ y ∈ along (b.tr i) r x, Fz 400 y := fun y hy => (along_fz (tr_ok hb i) hx.2.2 y hy).mono (by have := hro.rm; omega)
              have s3 := law_greatest (k + 13) (along (b.tr i) r x) (along_ne hro.ne) af (by omega)
              have s4 := law_less (k + 14) (mostS b ws i) (great (along (b.tr i) r x)) (mostS_fz' hb hw6 i) (great_fz (along_ne hro.ne) af) (by omega)
              have hle : ¬ mostS b ws i < great (along (b.tr i) r x) := by
                have := hmost r hr
                have := strain_le (tr_ok hb i) hro.ne hx.2.1
                grind
              rw [decide_eq_false hle] at s4
              have s5 := along_at (b.tr i) x hro.ne
              have s6 := fr_sh (great (along (b.tr i) r x))
              have hL : es2.length + 1 ≤ 10000 := by omega
              have hpar : isPar (some v9) = false := by rcases hv9 with rfl | ⟨d, rfl⟩ <;> rfl
              simp -dsimp -implicitDefEqProofs [s1, s2, s3, s4, s5, s6, hL, hpar]
              refine ⟨le_sz (by simpa using hL), _, es2 ++ [left (b.tr i) r x], .inr ⟨_, rfl⟩, by simp; rfl, by simp; omega, by simp; omega, fun y hy => ?_⟩
              rcases List.mem_append.mp hy with hy | hy
              · exact hs y hy
              · rw [List.mem_singleton.mp hy]
                exact ⟨left_nonneg (tr_ok hb i) hx.1, hstd r hr x hx.2.1, (left_fz (tr_ok hb i) hx.2.2).mono (by have := hro.rm; omega)⟩
            · obtain ⟨v9, es2, hv9, rfl, hs1, hs3, hs⟩ := hj
              simp -dsimp -implicitDefEqProofs
              have hwm := hw.wm
              have hw1 := hw.w1
              exact ⟨v9, es2, hv9, rfl, by simp; omega, by simp; omega, hs⟩
          · obtain ⟨v8, es, hv8, rfl, hes1, hes3, hes⟩ := hj
            have hne : es ≠ [] := fun e => by rw [e, List.length_nil] at hes1; omega
            have l1 := law_greatest (k + 13) es hne (B := 400) (fun y hy => (hes y hy).2.2.mono (by omega)) (by omega)
            have l2 := law_least_l (k + 13) es hne (B := 400) (fun y hy => (hes y hy).2.2.mono (by omega)) (by omega)
            simp -dsimp -implicitDefEqProofs [l1, l2]
            refine (law_one (k + 13) hp7 (by omega) (es.map fr) _ (.inl rfl) (by simpa using hne) (by rw [List.length_map]; omega)).mono ?_
            rintro q1 q2 ⟨z0, ds8, w1, w2, hz0, hp8⟩
            obtain ⟨z, hz, rfl⟩ := List.mem_map.mp hz0
            simp -dsimp -implicitDefEqProofs [w1, w2]
            refine ⟨ds8, v8, [great es, least es, z], hv8, rfl, by simp, by simp, fun y hy => ?_, hp8⟩
            simp only [List.mem_cons, List.not_mem_nil, or_false] at hy
            rcases hy with rfl | rfl | rfl
            · exact hes _ (great_mem hne)
            · exact hes _ (least_mem hne)
            · exact hes _ hz
        · obtain ⟨ds7, v7, ls, hv7, rfl, hl1, hl3, hls, hp7⟩ := hj
          simp -dsimp -implicitDefEqProofs
          exact ⟨ds7, v7, hv7, by rw [hS2], hp7.mono (by simp; omega)⟩
    · obtain ⟨ds6, v6', hv6', rfl, hp6⟩ := hj
      have hsh := pnm_sh hb (l := strained b ws vs (List.range b.parts.length)) fun i hi => List.mem_range.mp (List.mem_filter.mp hi).1
      have hmem : ∀ i ∈ strained b ws vs (List.range b.parts.length), i < b.parts.length := fun i hi => List.mem_range.mp (List.mem_filter.mp hi).1
      have t1 := strained_part (k + 1) b hb ws vs hw6 hv
      have t2 := never_strains_more (k + 1) b hb ws vs hw6 hv
      have hmem1 : ∀ r ∈ ws.take 1, r ∈ ws := fun r hr => List.mem_of_mem_take hr
      have hw1 : WorksOk b (ws.take 1) 6 6 := ⟨by have := hw.w1; rw [List.length_take]; omega, by rw [List.length_take]; omega, fun r hr => hw6.wr r (hmem1 r hr)⟩
      have t3 := never_strains_more (k + 1) b hb (ws.take 1) ws hw1 hw6
      have t4 := never_strains_more (k + 1) b hb ws ws hw6 hw6
      rw [strained_nil hb hw1 hmem1] at t3
      rw [strained_nil hb hw6 fun r hr => hr] at t4
      have s1 := slcW1 hw.w1 (by have := hw.wm; omega)
      cases e : strained b ws vs (List.range b.parts.length) with
      | nil =>
        rw [e] at t1 t2
        have q : (PyData.list []).eqv (PyData.list []) = true := rfl
        obtain ⟨r1, r2, r3⟩ := repr_same (d := .list [.none, .none]) (Rp.lst (n := 5) (m := 0) fun d hd => by
          simp only [List.mem_cons, List.not_mem_nil, or_false, or_self] at hd
          subst hd
          exact Rp.none.mono (by omega) (by omega)) (by simp) (by omega) rfl
        obtain ⟨u1, u2, u3⟩ := repr_same (d := .list [.bool true, .bool true]) (Rp.lst (n := 5) (m := 0) fun d hd => by
          simp only [List.mem_cons, List.not_mem_nil, or_false, or_self] at hd
          subst hd
          exact Rp.bool) (by simp) (by omega) rfl
        simp -dsimp -implicitDefEqProofs [t1, t2, t3, t4, s1, q, firstS, r1, r2, r3, u1, u2, u3]
        exact ⟨ds6, v6', hv6', rfl, hp6.mono (by simp; omega)⟩
      | cons x l =>
        rw [e] at t1 t2 hsh hmem
        have q : (PyData.list (.str (pnm b x) :: l.map fun i => PyData.str (pnm b i))).eqv (PyData.list []) = false := rfl
        have q2 : SeqAt.shaped (.list (.str (pnm b x) :: l.map fun i => PyData.str (pnm b i))) = true := hsh
        have q3 : L2.atI (.str (pnm b x) :: l.map fun i => PyData.str (pnm b i)) 0 = some (.str (pnm b x)) := by
          rw [show (0 : Int) = ((0 : Nat) : Int) from rfl, atI_n]
          rfl
        have hxn : NameOk (pnm b x) := by
          rw [pnm_get (hmem x (by simp))]
          exact hb.pn _ (List.getElem_mem (hmem x (by simp)))
        obtain ⟨r1, r2, r3⟩ := repr_same (d := .list [.str (pnm b x), .str (pnm b x)]) (Rp.lst (n := 10) (m := 0) fun d hd => by
          simp only [List.mem_cons, List.not_mem_nil, or_false, or_self] at hd
          subst hd
          exact Rp.name hxn) (by simp) (by omega) rfl
        obtain ⟨u1, u2, u3⟩ := repr_same (d := .list [.bool false, .bool false]) (Rp.lst (n := 5) (m := 0) fun d hd => by
          simp only [List.mem_cons, List.not_mem_nil, or_false, or_self] at hd
          subst hd
          exact Rp.bool) (by simp) (by omega) rfl
        simp -dsimp -implicitDefEqProofs [t1, t2, t3, t4, s1, q, q2, q3, firstS, r1, r2, r3, u1, u2, u3]
        exact ⟨ds6, v6', hv6', rfl, hp6.mono (by simp; omega)⟩
  · obtain ⟨ds', v6, hv6, rfl, hpl⟩ := hj
    rcases hv6 with rfl | ⟨d, rfl⟩
    all_goals
      simp -dsimp -implicitDefEqProofs
      exact hQ _ _ rfl
theorem law_true (k : Nat) (ns : List Int) (hl : ns.length ≤ 63) : ResW (call G (k + 17) (.glob "law") [.ro ns]) (fun r as => r = .dat (.bool true)) := by
  refine run_globQ g_law rfl (by decide) fun Q hQ => ?_
  obtain ⟨m, hm1, hm3, et⟩ := law_turns (k + 15) ns hl
  simp -dsimp -implicitDefEqProofs [f_law, et]
  refine OutW_lcR (fun i done ρ => done = List.replicate i (PyData.bool true) ∧ ρ = [some (.ro ns), none]) (fun i hi done ρ hj => ?_) (fun done ρ hj => ?_) ⟨rfl, rfl⟩
  · obtain ⟨rfl, rfl⟩ := hj
    simp -dsimp -implicitDefEqProofs
    refine (law_well (k + 15) ns hl i (by omega)).mono ?_
    rintro _ _ ⟨ds1, rfl, rfl, hp⟩
    simp -dsimp -implicitDefEqProofs
    refine (law_right k hp).mono ?_
    rintro _ _ rfl
    simp -dsimp -implicitDefEqProofs
    exact ⟨by rw [List.replicate_succ'], rfl⟩
  · obtain ⟨rfl, rfl⟩ := hj
    have hj3 : m ≤ 10000 := by omega
    have hb : ∀ j : Nat, bools? (List.replicate j (PyData.bool true)) = some (List.replicate j true) := fun j => by
      induction j with
      | zero => rfl
      | succ j ih => simp [List.replicate_succ, bools?, ih]
    simp -dsimp -implicitDefEqProofs [hj3, hb]
    exact hQ _ _ rfl
theorem law_holds (ns : List Int) (hl : ns.length ≤ 63) (_hb : ∀ z ∈ ns, Builtin.Int.intBits z ≤ 1048576) : ∃ as', run G 17 (.glob "law") [.ro ns] = .ok (.dat (.bool true)) as' := by
  have h := law_true 0 ns hl
  rw [call_run] at h
  cases e : run G (0 + 17) (.glob "law") [.ro ns] with
  | ok r as' =>
    rw [e] at h
    have h2 : r = .dat (.bool true) := h
    subst h2
    exact ⟨as', rfl⟩
  | exc c x as' =>
    rw [e] at h
    exact h.elim
  | bad =>
    rw [e] at h
    exact h.elim

end LawT
set_option Elab.async false
set_option maxRecDepth 100000
set_option linter.all false
namespace LawT
open PySem Ev
def nm : Nat → Nat → Str := fun l c => if l = 75 ∧ c = 4 then "are_ascending_by_name.<locals>.is_behind" else if l = 82 ∧ c = 55 then "is_book_form.<locals>.<lambda>" else if l = 84 ∧ c = 39 then "wrong_row.<locals>.<lambda>" else if l = 86 ∧ c = 45 then "wrong_works.<locals>.<lambda>" else ""
def T : Txt := ⟨PySem.Challenge.pw_wearloads_k74_whole_works_that_strain_mo, [
  ⟨"is_whole", ["value"], ["value"], f_is_whole, false, []⟩,
  ⟨"is_number", ["value", "low", "high"], ["value", "low", "high"], f_is_number, false, []⟩,
  ⟨"is_tuple_of", ["value", "many"], ["value", "many"], f_is_tuple_of, false, []⟩,
  ⟨"wrong_at", ["value", "most", "is_right"], ["value", "most", "is_right", "at", "each"], f_wrong_at, false, []⟩,
  ⟨"wrong_from_one", ["value", "most", "is_right"], ["value", "most", "is_right"], f_wrong_from_one, false, []⟩,
  ⟨"is_word", ["value"], ["value", "letter"], f_is_word, false, []⟩,
  ⟨"is_name", ["value"], ["value"], f_is_name, false, []⟩,
  ⟨"is_one_of", ["value", "words"], ["value", "words"], f_is_one_of, false, []⟩,
  ⟨"is_fraction", ["value"], ["value"], f_is_fraction, false, []⟩,
  ⟨"lowest", ["number", "scale"], ["number", "scale", "shared"], f_lowest, false, []⟩,
  ⟨"minus", ["one", "two"], ["one", "two"], f_minus, false, []⟩,
  ⟨"times", ["one", "two"], ["one", "two"], f_times, false, []⟩,
  ⟨"divided", ["one", "two"], ["one", "two", "number", "scale"], f_divided, false, []⟩,
  ⟨"is_less", ["one", "two"], ["one", "two"], f_is_less, false, []⟩,
  ⟨"greater_of", ["one", "two"], ["one", "two"], f_greater_of, false, []⟩,
  ⟨"greatest_of", ["fractions"], ["fractions", "found", "each"], f_greatest_of, false, []⟩,
  ⟨"is_part_form", ["value"], ["value"], f_is_part_form, false, []⟩,
  ⟨"is_triple", ["value"], ["value"], f_is_triple, false, []⟩,
  ⟨"is_deed_form", ["value", "many"], ["value", "many", "each"], f_is_deed_form, false, []⟩,
  ⟨"are_ascending_by_name", ["value", "most", "is_right"], ["value", "most", "is_right", "is_behind"], f_are_ascending_by_name, true, [(3, 3, "is_behind")]⟩,
  ⟨"is_book_form", ["value"], ["value", "many"], f_is_book_form, true, []⟩,
  ⟨"wrong_row", ["names", "value", "most"], ["names", "value", "most"], f_wrong_row, true, []⟩,
  ⟨"wrong_works", ["names", "value"], ["names", "value"], f_wrong_works, true, []⟩,
  ⟨"is_load_form", ["value"], ["value"], f_is_load_form, false, []⟩,
  ⟨"part_names", ["book"], ["book", "part", "_"], f_part_names, false, []⟩,
  ⟨"deed_names", ["book"], ["book", "deed", "_"], f_deed_names, false, []⟩,
  ⟨"triples_of", ["book", "part"], ["book", "part", "at", "deed", "table"], f_triples_of, true, []⟩,
  ⟨"along_of", ["book", "row", "part", "load"], ["book", "row", "part", "load", "triples", "here", "found", "deed"], f_along_of, false, []⟩,
  ⟨"done_by", ["triple", "load"], ["triple", "load", "kept", "of", "added"], f_done_by, false, []⟩,
  ⟨"left_of", ["book", "row", "part", "load"], ["book", "row", "part", "load"], f_left_of, false, []⟩,
  ⟨"effect_of", ["book", "row", "part"], ["book", "row", "part", "keep", "triples", "deed", "kept", "of", "_"], f_effect_of, false, []⟩,
  ⟨"standing_of", ["book", "row", "part"], ["book", "row", "part", "keep", "add"], f_standing_of, false, []⟩,
  ⟨"standings_of", ["book", "works", "part"], ["book", "works", "part", "row"], f_standings_of, false, []⟩,
  ⟨"strain_of", ["book", "row", "part", "load"], ["book", "row", "part", "load"], f_strain_of, false, []⟩,
  ⟨"check_book", ["value"], ["value"], f_check_book, false, []⟩,
  ⟨"check_part", ["book", "value"], ["book", "value"], f_check_part, false, []⟩,
  ⟨"check_row_of", ["book", "value"], ["book", "value", "at"], f_check_row_of, false, []⟩,
  ⟨"check_row", ["book", "value"], ["book", "value"], f_check_row, false, []⟩,
  ⟨"check_row_part", ["book", "row", "part"], ["book", "row", "part"], f_check_row_part, false, []⟩,
  ⟨"check_works_of", ["book", "value"], ["book", "value", "at"], f_check_works_of, false, []⟩,
  ⟨"check_works", ["book", "value"], ["book", "value"], f_check_works, false, []⟩,
  ⟨"check_load", ["value"], ["value"], f_check_load, false, []⟩,
  ⟨"check_two_works", ["book", "works", "works2"], ["book", "works", "works2"], f_check_two_works, false, []⟩,
  ⟨"strain_from_nothing", ["book", "works", "part"], ["book", "works", "part", "most", "row"], f_strain_from_nothing, true, []⟩,
  ⟨"strained_parts", ["book", "works", "works2"], ["book", "works", "works2", "found", "part"], f_strained_parts, false, []⟩,
  ⟨"never_strains_more", ["book", "works", "works2"], ["book", "works", "works2"], f_never_strains_more, false, []⟩,
  ⟨"strained_part", ["book", "works", "works2"], ["book", "works", "works2"], f_strained_part, false, []⟩,
  ⟨"strain", ["book", "row", "part", "load"], ["book", "row", "part", "load"], f_strain, false, []⟩,
  ⟨"_law_well", ["script", "k"], ["script", "k", "spot", "mixed", "each"], f_law_well, false, []⟩,
  ⟨"_law_dip", ["well", "many"], ["well", "many", "digit"], f_law_dip, false, []⟩,
  ⟨"_law_one", ["well", "some"], ["well", "some"], f_law_one, false, []⟩,
  ⟨"_law_turns", ["script"], ["script"], f_law_turns, false, []⟩,
  ⟨"_law_low", ["one", "two"], ["one", "two", "a", "b"], f_law_low, false, []⟩,
  ⟨"_law_add", ["one", "two"], ["one", "two"], f_law_add, false, []⟩,
  ⟨"_law_take", ["one", "two"], ["one", "two"], f_law_take, false, []⟩,
  ⟨"_law_by", ["one", "two"], ["one", "two"], f_law_by, false, []⟩,
  ⟨"_law_part", ["one", "two"], ["one", "two"], f_law_part, false, []⟩,
  ⟨"_law_less", ["one", "two"], ["one", "two"], f_law_less, false, []⟩,
  ⟨"_law_greatest", ["some"], ["some", "found", "each"], f_law_greatest, false, []⟩,
  ⟨"_law_least", ["some"], ["some", "found", "each"], f_law_least, false, []⟩,
  ⟨"_law_words", ["well", "many"], ["well", "many", "letters", "found", "taken", "k", "word", "turn", "some", "sign", "each"], f_law_words, true, []⟩,
  ⟨"_law_book", ["well", "most"], ["well", "most", "names", "parts", "name", "deeds", "high", "idle", "k", "table", "part", "of"], f_law_book, false, []⟩,
  ⟨"_law_rests", ["book"], ["book", "name", "table", "one"], f_law_rests, false, []⟩,
  ⟨"_law_tables", ["book", "part"], ["book", "part", "at", "name", "limit", "table"], f_law_tables, true, []⟩,
  ⟨"_law_row", ["well", "book", "most"], ["well", "book", "most", "each"], f_law_row, false, []⟩,
  ⟨"_law_works", ["well", "book", "most", "long"], ["well", "book", "most", "long", "each"], f_law_works, false, []⟩,
  ⟨"_law_along", ["tables", "row", "load"], ["tables", "row", "load", "found", "deed", "kept", "of", "more"], f_law_along, false, []⟩,
  ⟨"_law_effect", ["tables", "row"], ["tables", "row", "keep", "deed"], f_law_effect, false, []⟩,
  ⟨"_law_stands", ["tables", "row"], ["tables", "row", "keep", "more"], f_law_stands, false, []⟩,
  ⟨"_law_most_strain", ["tables", "works"], ["tables", "works", "found", "one", "two"], f_law_most_strain, false, []⟩,
  ⟨"_law_right", ["well"], ["well", "turn", "book", "works", "other", "rest", "work", "bad", "part", "limit", "tables", "top", "line", "again", "ends", "here", "due", "told"], f_law_right, true, []⟩,
  ⟨"law", ["script"], ["script", "k"], f_law, false, []⟩], [
  ⟨3, ["each", "before"], ["each", "before", "is_right"], l_3⟩,
  ⟨4, ["each"], ["each", "many"], l_4⟩,
  ⟨5, ["each", "_"], ["each", "_", "names"], l_5⟩,
  ⟨6, ["each", "_"], ["each", "_", "names"], l_6⟩], [("LETTERS", (.str "abcdefghijklmnopqrstuvwxyz")), ("MOST_ADDED", (.int 999)), ("MOST_DEEDS", (.int 6)), ("MOST_IN_NAME", (.int 8)), ("MOST_IN_WORK", (.int 6)), ("MOST_LIMIT", (.int 9999)), ("MOST_OF", (.int 12)), ("MOST_PARTS", (.int 3)), ("MOST_ROW", (.int 12)), ("MOST_WORKS", (.int 6)), ("NOUGHT", (.tuple [(.int 0), (.int 1)])), ("WHOLE", (.tuple [(.int 1), (.int 1)])), ("WORDS", k_WORDS)], ["abs", "all", "bool", "dict", "divmod", "enumerate", "int", "isinstance", "len", "list", "max", "min", "range", "repr", "sorted", "str", "tuple"], true, nm⟩

theorem t_ok : T.okB = true := by decide +kernel
theorem t_fns : G.fns = fun f => (T.rows.find? fun r => decide (r.f = f)).map (·.d) := by
  have e : tab = T.rows.map fun r => (r.f, r.d) := rfl
  funext f
  show (tab.find? fun p => decide (p.1 = f)).map (·.2) = _
  rw [e, List.find?_map, Option.map_map]
  rfl
theorem t_lams : G.lams = fun i => (T.lrows.find? fun r => decide (r.id = i)).map (·.d) := by
  have e : ltab = T.lrows.map fun r => (r.id, r.d) := rfl
  funext i
  show (ltab.find? fun p => decide (p.1 = i)).map (·.2) = _
  rw [e, List.find?_map, Option.map_map]
  rfl
theorem t_sig : T.sig "law" = some [("script" : Str)] := by decide +kernel
end LawT
open PySem PySem.W PySem.Calls PyProof.Rows
set_option Elab.async false
set_option maxRecDepth 100000
set_option maxHeartbeats 0
namespace LawT
abbrev RW : OpenRow := PySem.W.OpenLaw.row PySem.Challenge.rw_wearloads_k74_whole_works_that_strain_mo
def ln0 : List PySem.Str := ["gcd", "__name__", "LETTERS", "MOST_IN_NAME", "WORDS", "NOUGHT", "WHOLE", "is_whole", "is_number", "is_tuple_of", "wrong_at", "wrong_from_one", "is_word", "is_name", "is_one_of", "is_fraction", "lowest", "minus", "times", "divided", "is_less", "greater_of", "greatest_of", "MOST_PARTS", "MOST_DEEDS", "MOST_LIMIT", "MOST_OF", "MOST_ADDED", "MOST_ROW", "MOST_WORKS"]
def ln1 : List PySem.Str := ["MOST_IN_WORK", "is_part_form", "is_triple", "is_deed_form", "are_ascending_by_name", "is_book_form", "wrong_row", "wrong_works", "is_load_form", "part_names", "deed_names", "triples_of", "along_of", "done_by", "left_of", "effect_of", "standing_of", "standings_of", "strain_of", "LoadError", "InvalidBook", "InvalidLoad", "UnknownPart", "InvalidRow", "InvalidWorks", "check_book", "check_part", "check_row_of", "check_row", "check_row_part"]
def ln2 : List PySem.Str := ["check_works_of", "check_works", "check_load", "check_two_works", "strain_from_nothing", "strained_parts", "never_strains_more", "strained_part", "strain", "_law_well", "_law_dip", "_law_one", "_law_turns", "_law_low", "_law_add", "_law_take", "_law_by", "_law_part", "_law_less", "_law_greatest", "_law_least", "_law_words", "_law_book", "_law_rests", "_law_tables", "_law_row", "_law_works", "_law_along", "_law_effect", "_law_stands"]
def ln3 : List PySem.Str := ["_law_most_strain", "_law_right"]
def ln : List PySem.Str := ln0 ++ ln1 ++ ln2 ++ ln3
def qv : Program := view RW.prog [98]
noncomputable def h_go (w : World) := HandSHeadRun.wholeF (fun p => HandSHeadRun.stepQ (HandSHeadRun.denQ HandSHeadRun.tabQ) p w) HandSHeadRun.fenceQ 40000 RW.prog
theorem h_looks (w : World) : (h_go w).map (fun x => HandSHeadRun.looksF RW.prog x.1.heap x.2.abs) = some true := by
  kernel_rfl
theorem h_seen (w : World) : (h_go w).map (fun x => HandSHeadRun.seenQ qv ln (importedModules RW.prog.main.body) (fun s => xlAt qv [] s && recOk RW.toRowW.records s) x.2.abs) = some (openGood qv ln) := by
  kernel_rfl
theorem h_ob (w : World) : (h_go w).map (fun x => Ev.obT T x.2) = some ((Ev.hookE T).val w) := by
  kernel_rfl
theorem h_run (w : World) : HandSHeadRun.RunEqI RW qv (Ev.hookE T) (Ev.obT T) 40000 ln w := Ev.map3 (h_looks w) (h_seen w) (h_ob w)
end LawT
theorem PySem.Challenge.cw_wearloads_k74_whole_works_that_strain_mo_holds : PySem.Challenge.rw_wearloads_k74_whole_works_that_strain_mo.Holds := by
  w_on; o_law
  refine HandSHeadRun.head_imp (r := OpenLaw.row PySem.Challenge.rw_wearloads_k74_whole_works_that_strain_mo) (q := LawT.qv) (H := Ev.hookE LawT.T) (ob := Ev.obT LawT.T) (M := 40000) (loose := LawT.ln) (kwd := []) (Ev.obT_eq LawT.T) LawT.h_run (by rfl) (by rfl) (by rfl) (by rfl) (by first | assumption | decide +kernel) (by decide +kernel) ⟨rfl, rfl, rfl, rfl, rfl, by decide +kernel⟩ ?hw ?hc
  case hw => w_witness2
  case hc => exact Ev.law_walk3 (l := PySem.Challenge.rw_wearloads_k74_whole_works_that_strain_mo) (n := 63) (k := 17) (T := LawT.T) (G := LawT.G) rfl (by decide) rfl rfl ⟨rfl, by decide, by decide⟩ LawT.t_ok LawT.t_fns LawT.t_lams LawT.t_sig LawT.law_holds
