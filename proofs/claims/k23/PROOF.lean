import PyProof.Rows.All
import Wide.All
import OpenK.AllK
import Wide.FinOn
import HandS.ForMost
import HandS.TupAny
import HandS.TupMul
import HandS.IsInst
import HandS.Deep
import HandS.Conv
import HandS.Zip
import HandS.Text
import HandS.Dict
import HandS.Iter
import HandS.Words
import HandS.Comp
import HandS.Defaults
import HandS.Head0
import HandS.Head1
import HandS.Head2
import HandS.HeadEnd
import HandS.HeadHook1
import HandS.HeadHook2
import PySem.Challenge.RW_tidewarden_k23_yards_told
set_option Elab.async false
set_option linter.all false
set_option autoImplicit false
set_option maxRecDepth 100000
set_option maxHeartbeats 1000000
/-! TW.Sem: the values, the store, and what each construct computes (no heap, no program). -/
namespace TW
open PySem

/-- not a rule by rfl -/
theorem nr {α : Sort _} {a b : α} (h : a = b) : a = b := h
/-- a value. lst: a list that is never changed again; ref n: the n-th object of the store; scr: the script, as it is handed in -/
inductive Val where
  | non | bl (b : Bool) | int (i : Int) | str (s : Str) | tup (xs : List Val) | lst (xs : List Val)
  | dct (kvs : List (Val × Val)) | ref (n : Nat) | exc (c : Str) (a : Val) | scr (ns : List Int)

inductive Ob where
  | lst (xs : List Val) | dct (kvs : List (Val × Val)) | ins (c : Str) (fs : List (Str × Val))
abbrev Sto := List Ob
structure Er where
  cls : Str
  arg : Val
inductive Res (α : Type) where
  | ok (a : α) (S : Sto) | er (e : Er) (S : Sto) | bad
def bnd {α β : Type} (r : Res α) (f : α → Sto → Res β) : Res β := match r with
  | .ok a S => f a S | .er e S => .er e S | .bad => .bad
@[simp] theorem bnd_ok {α β : Type} (a : α) (S : Sto) (f : α → Sto → Res β) : bnd (.ok a S) f = f a S := nr rfl
@[simp] theorem bnd_er {α β : Type} (e : Er) (S : Sto) (f : α → Sto → Res β) : bnd (.er e S) f = .er e S := nr rfl
@[simp] theorem bnd_bad {α β : Type} (f : α → Sto → Res β) : bnd .bad f = .bad := nr rfl
abbrev Env := List (Option Val)
abbrev Ex := Env → Sto → Res Val
abbrev Ts := Env → Sto → Res Bool
abbrev Es := Env → Sto → Res (List Val)
abbrev CallF := Str → List Val → Sto → Res Val

/-! ### plain facts of values -/
mutual
/-- every store place in it is below k -/
def Val.und (k : Nat) : Val → Bool
  | .non => true | .bl _ => true | .int _ => true | .str _ => true
  | .tup xs => Val.unds k xs
  | .lst xs => Val.unds k xs
  | .dct kvs => Val.undp k kvs
  | .ref n => decide (n < k)
  | .exc _ a => a.und k
  | .scr _ => true
def Val.unds (k : Nat) : List Val → Bool
  | [] => true
  | x :: xs => x.und k && Val.unds k xs
def Val.undp (k : Nat) : List (Val × Val) → Bool
  | [] => true
  | (x, y) :: r => x.und k && (y.und k && Val.undp k r)
end
mutual
/-- data: none, bools, ints, texts, tuples, lists -/
def Val.dat : Val → Bool
  | .non => true | .bl _ => true | .int _ => true | .str x => x.cps.all (· < 0x110000)
  | .tup xs => Val.dats xs
  | .lst xs => Val.dats xs
  | .dct _ => false | .ref _ => false | .exc _ _ => false | .scr _ => false
def Val.dats : List Val → Bool
  | [] => true
  | x :: xs => x.dat && Val.dats xs
end
mutual
def Val.depth : Val → Nat
  | .tup xs => Val.depths xs + 1
  | .lst xs => Val.depths xs + 1
  | .dct kvs => Val.depthp kvs + 1
  | .exc _ a => a.depth + 1
  | .non => 0 | .bl _ => 0 | .int _ => 0 | .str _ => 0 | .ref _ => 0 | .scr _ => 0
def Val.depths : List Val → Nat
  | [] => 0
  | x :: xs => max x.depth (Val.depths xs)
def Val.depthp : List (Val × Val) → Nat
  | [] => 0
  | (x, y) :: r => max x.depth (max y.depth (Val.depthp r))
end
mutual
/-- == of data -/
def Val.eqv : Val → Val → Bool
  | .non, .non => true
  | .bl a, .bl b => a == b
  | .bl a, .int j => (if a then 1 else 0) == j
  | .int i, .bl b => i == (if b then 1 else 0)
  | .int i, .int j => i == j
  | .str x, .str y => x == y
  | .lst xs, .lst ys => Val.eqvs xs ys
  | .tup xs, .tup ys => Val.eqvs xs ys
  | _, _ => false
def Val.eqvs : List Val → List Val → Bool
  | [], [] => true
  | x :: xs, y :: ys => x.eqv y && Val.eqvs xs ys
  | _, _ => false
end
mutual
/-- < of ints, texts, tuples and lists (none: no order) -/
def Val.lt : Val → Val → Option Bool
  | .int i, .int j => some (decide (i < j))
  | .str x, .str y => some (decide (x.cps.toList < y.cps.toList))
  | .tup xs, .tup ys => Val.lts xs ys
  | .lst xs, .lst ys => Val.lts xs ys
  | _, _ => none
def Val.lts : List Val → List Val → Option Bool
  | [], [] => some false
  | [], _ :: _ => some true
  | _ :: _, [] => some false
  | x :: xs, y :: ys => if x.eqv y then Val.lts xs ys else x.lt y
end

/-! ### operations by values -/
abbrev Op2 := Val → Val → Sto → Res Val
/-- a list's items, as it stands -/
def asL (v : Val) (S : Sto) : Option (List Val) := match v with
  | .lst xs => some xs
  | .ref n => (match S[n]? with
    | some (.lst xs) => some xs
    | _ => none)
  | _ => none
def addV : Op2 := fun x y S => match x, y with
  | .int i, .int j => .ok (.int (i + j)) S
  | .str a, .str b => if a.length + b.length ≤ sizeLine then .ok (.str (a ++ b)) S else .bad
  | .tup xs, .tup ys => if xs.length + ys.length ≤ sizeLine then .ok (.tup (xs ++ ys)) S else .bad
  | _, _ => match asL x S, asL y S with
    | some xs, some ys => if xs.length + ys.length ≤ sizeLine then .ok (.lst (xs ++ ys)) S else .bad
    | _, _ => .bad
def subV : Op2 := fun x y S => match x, y with
  | .int i, .int j => .ok (.int (i - j)) S
  | _, _ => .bad
def mulOk (i j : Int) : Bool := (decide (-(2 ^ 64) < i) && decide (i < 2 ^ 64)) || (decide (-(2 ^ 64) < j) && decide (j < 2 ^ 64))
def mulV : Op2 := fun x y S => match x, y with
  | .int i, .int j => if mulOk i j then .ok (.int (i * j)) S else .bad
  | .tup xs, .int k => if 1 ≤ xs.length ∧ xs.length ≤ 1000 ∧ 0 ≤ k ∧ k ≤ 1000 then .ok (.tup (List.replicate k.toNat xs).flatten) S else .bad
  | .lst xs, .int k => if xs.length * k.toNat ≤ sizeLine ∧ -(2 ^ 62) < k ∧ k < 2 ^ 62 then .ok (.lst (List.replicate k.toNat xs).flatten) S else .bad
  | _, _ => .bad
def mulI : Op2 := fun x y S => match x, y with
  | .int i, .int j => if mulOk i j then .ok (.int (i * j)) S else .bad
  | _, _ => .bad
def fdivV : Op2 := fun x y S => match x, y with
  | .int i, .int j => if j ≠ 0 ∧ j.natAbs < 1073741824 then .ok (.int (i.fdiv j)) S else .bad
  | _, _ => .bad
def modV : Op2 := fun x y S => match x, y with
  | .int i, .int j => if j ≠ 0 then .ok (.int (i.fmod j)) S else .bad
  | _, _ => .bad
def powV : Op2 := fun x y S => match x, y with
  | .int i, .int j => if 0 ≤ j ∧ j ≤ 1000 ∧ i.natAbs < 2 ^ 64 then .ok (.int (i ^ j.toNat)) S else .bad
  | _, _ => .bad
def negV (x : Val) (S : Sto) : Res Val := match x with
  | .int i => .ok (.int (-i)) S
  | _ => .bad
/-- a value for ==: a list of the store by its items -/
def flat (v : Val) (S : Sto) : Val := match v with
  | .ref n => (match S[n]? with
    | some (.lst xs) => .lst xs
    | _ => v)
  | _ => v
def eqB (x y : Val) (S : Sto) : Res Bool := match x, y with
  | .str a, .str b => .ok (a == b) S
  | _, _ => if (flat x S).dat && ((flat y S).dat && decide (min (flat x S).depth (flat y S).depth ≤ 150)) then .ok ((flat x S).eqv (flat y S)) S else .bad
def eqV : Op2 := fun x y S => bnd (eqB x y S) fun b S => .ok (.bl b) S
def neV : Op2 := fun x y S => bnd (eqB x y S) fun b S => .ok (.bl (!b)) S
def ordV (f : Int → Int → Bool) : Op2 := fun x y S => match x, y with
  | .int i, .int j => .ok (.bl (f i j)) S
  | _, _ => .bad
def ltV : Op2 := fun x y S => match x, y with
  | .int i, .int j => .ok (.bl (decide (i < j))) S
  | .str i, .str j => .ok (.bl (decide (i.cps.toList < j.cps.toList))) S
  | _, _ => .bad
def leV : Op2 := ordV fun i j => decide (i ≤ j)
def gtV : Op2 := ordV fun i j => decide (j < i)
def geV : Op2 := ordV fun i j => decide (j ≤ i)
def Val.isNon : Val → Bool
  | .non => true
  | _ => false
def isNonV : Op2 := fun x y S => match y with
  | .non => .ok (.bl x.isNon) S
  | _ => .bad
def notNonV : Op2 := fun x y S => match y with
  | .non => .ok (.bl (!x.isNon)) S
  | _ => .bad
/-- the items of a list or a tuple -/
def asQ (v : Val) (S : Sto) : Option (List Val) := match v with
  | .tup xs => some xs
  | _ => asL v S
def inB (x y : Val) (S : Sto) : Res Bool := match y with
  | .str j => (match x with
    | .str i => .ok (!(Builtin.Str.occurrences j i 0 j.length 1).isEmpty) S
    | _ => .bad)
  | _ => match asQ y S with
    | some ys => if x.dat && (Val.dats ys && decide (min (Val.depths ys) x.depth ≤ 150)) then .ok (ys.any fun z => z.eqv x) S else .bad
    | none => .bad
def inV : Op2 := fun x y S => bnd (inB x y S) fun b S => .ok (.bl b) S
def notInV : Op2 := fun x y S => bnd (inB x y S) fun b S => .ok (.bl (!b)) S
/-- a key: an int or a text -/
def keyOf : Val → Option L2.Key
  | .int i => some (.inl i)
  | .str x => some (.inr x)
  | _ => none
def dGet (kvs : List (Val × Val)) (k : L2.Key) : Option Val := (kvs.find? fun kv => decide (keyOf kv.1 = some k)).map (·.2)
/-- d[k] of a dict -/
def isD (v : Val) : Bool := match v with
  | .dct _ => true
  | _ => false
def dixV : Op2 := fun x y S => match x, keyOf y with
  | .dct kvs, some k => (match dGet kvs k with
    | some v => .ok v S
    | none => .bad)
  | _, _ => .bad
def ixL : Op2 := fun x y S => match y with
  | .int i => (match x with
    | .str z => if z.length ≤ sizeLine then (match L2.atI z.cps.toList i with
      | some c => .ok (.str ⟨#[c]⟩) S
      | none => .bad) else .bad
    | _ => match asQ x S with
      | some xs => (match L2.atI xs i with
        | some v => .ok v S
        | none => .bad)
      | none => .bad)
  | _ => .bad
def ixV : Op2 := fun x y S => if isD x then dixV x y S else ixL x y S
/-- the part of a list between two places, as Python counts them -/
def cut {α : Type} (xs : List α) (lo hi : Option Int) : List α := (xs.drop (HT.sIx xs.length 0 lo)).take (HT.sIx xs.length xs.length hi - HT.sIx xs.length 0 lo)
def slV (x : Val) (lo hi : Option Int) (S : Sto) : Res Val := match x with
  | .str z => if z.length ≤ sizeLine then .ok (.str ⟨(cut z.cps.toList lo hi).toArray⟩) S else .bad
  | .tup xs => .ok (.tup (cut xs lo hi)) S
  | .scr ns => .ok (.lst (cut (ns.map .int) lo hi)) S
  | _ => match asL x S with
    | some xs => .ok (.lst (cut xs lo hi)) S
    | none => .bad
/-- isinstance of a built-in type -/
inductive Ty where
  | int | bool | str | tuple | list | dict
def isB (x : Val) (t : Ty) (S : Sto) : Res Bool := match x, t with
  | .int _, .int => .ok true S
  | .bl _, .int => .ok true S
  | .bl _, .bool => .ok true S
  | .str _, .str => .ok true S
  | .tup _, .tuple => .ok true S
  | .lst _, .list => .ok true S
  | .dct _, .dict => .ok true S
  | .ref n, .list => (match S[n]? with
    | some (.lst _) => .ok true S
    | some (.dct _) => .ok false S
    | _ => .bad)
  | .ref n, .dict => (match S[n]? with
    | some (.lst _) => .ok false S
    | some (.dct _) => .ok true S
    | _ => .bad)
  | .ref n, _ => (match S[n]? with
    | some (.lst _) => .ok false S
    | some (.dct _) => .ok false S
    | _ => .bad)
  | .exc _ _, _ => .bad
  | .scr _, _ => .bad
  | _, _ => .ok false S
def lenV (x : Val) (S : Sto) : Res Val := match x with
  | .str z => if z.length ≤ sizeLine then .ok (.int z.length) S else .bad
  | .ref n => (match S[n]? with
    | some (.lst xs) => .ok (.int xs.length) S
    | some (.dct kvs) => .ok (.int kvs.length) S
    | _ => .bad)
  | .tup xs => .ok (.int xs.length) S
  | .lst xs => .ok (.int xs.length) S
  | _ => .bad
def bools : List Val → Option (List Bool)
  | [] => some []
  | .bl b :: r => (bools r).map (b :: ·)
  | _ => none
def toInts : List Val → Option (List Int)
  | [] => some []
  | .int b :: r => (toInts r).map (b :: ·)
  | _ => none
def toStrs : List Val → Option (List Str)
  | [] => some []
  | .str b :: r => (toStrs r).map (b :: ·)
  | _ => none
abbrev Fn := List Val → Sto → Res Val
def allV : Fn := fun vs S => match vs with
  | [x] => (match asL x S with
    | some xs => (match bools xs with
      | some bs => .ok (.bl (bs.all id)) S
      | none => .bad)
    | none => .bad)
  | _ => .bad
def anyV : Fn := fun vs S => match vs with
  | [x] => (match asL x S with
    | some xs => (match bools xs with
      | some bs => .ok (.bl (bs.any id)) S
      | none => .bad)
    | none => .bad)
  | _ => .bad
def intV : Fn := fun vs S => match vs with
  | [.int i] => .ok (.int i) S
  | [.bl b] => .ok (.int (if b then 1 else 0)) S
  | [.str z] => (match PySem.intText? z with
    | some n => if z.length ≤ 640 then .ok (.int n) S else .bad
    | none => .bad)
  | _ => .bad
def strV : Fn := fun vs S => match vs with
  | [.int i] => if i.natAbs.log2 < 1920 then .ok (.str (toString i : String)) S else .bad
  | _ => .bad
def absV : Fn := fun vs S => match vs with
  | [.int i] => .ok (.int (if i < 0 then -i else i)) S
  | _ => .bad
def max2V : Fn := fun vs S => match vs with
  | [.int i, .int j] => .ok (.int (if j > i then j else i)) S
  | _ => .bad
def min2V : Fn := fun vs S => match vs with
  | [.int i, .int j] => .ok (.int (if j < i then j else i)) S
  | _ => .bad
def listV : Fn := fun vs S => match vs with
  | [.scr ns] => .ok (.lst (ns.map .int)) S
  | [x] => (match asQ x S with
    | some xs => .ok (.lst xs) S
    | none => .bad)
  | _ => .bad
def tupleV : Fn := fun vs S => match vs with
  | [x] => (match asQ x S with
    | some xs => .ok (.tup xs) S
    | none => .bad)
  | _ => .bad
def sumV : Fn := fun vs S => match vs with
  | [x] => (match asL x S with
    | some xs => (match toInts xs with
      | some ns => .ok (.int ns.sum) S
      | none => .bad)
    | none => .bad)
  | _ => .bad

/-! ### expressions -/
def eVar (i : Nat) : Ex := fun ρ S => match ρ[i]? with
  | some (some v) => .ok v S
  | _ => .bad
def eC (v : Val) : Ex := fun _ S => .ok v S
def eBin (f : Op2) (a b : Ex) : Ex := fun ρ S => bnd (a ρ S) fun x S => bnd (b ρ S) fun y S => f x y S
def eUn (f : Val → Sto → Res Val) (a : Ex) : Ex := fun ρ S => bnd (a ρ S) fun x S => f x S
def eChain (f g : Op2) (a b c : Ex) : Ex := fun ρ S => bnd (a ρ S) fun x S => bnd (b ρ S) fun y S => bnd (f x y S) fun k S => match k with
  | .bl true => bnd (c ρ S) fun z S => g y z S
  | .bl false => .ok (.bl false) S
  | _ => .bad
def esNil : Es := fun _ S => .ok [] S
def esCons (a : Ex) (r : Es) : Es := fun ρ S => bnd (a ρ S) fun x S => bnd (r ρ S) fun xs S => .ok (x :: xs) S
def eTup (es : Es) : Ex := fun ρ S => bnd (es ρ S) fun xs S => if xs.length ≤ sizeLine then .ok (.tup xs) S else .bad
def eLst (es : Es) : Ex := fun ρ S => bnd (es ρ S) fun xs S => if xs.length ≤ sizeLine then .ok (.lst xs) S else .bad
def eFn (f : Fn) (es : Es) : Ex := fun ρ S => bnd (es ρ S) fun xs S => f xs S
def eCall (c : CallF) (f : Str) (es : Es) : Ex := fun ρ S => bnd (es ρ S) fun xs S => c f xs S
def eIs (a : Ex) (t : Ty) : Ex := fun ρ S => bnd (a ρ S) fun x S => bnd (isB x t S) fun b S => .ok (.bl b) S
/-- a part of a slice -/
abbrev Pt := Env → Sto → Res (Option Int)
def ptNone : Pt := fun _ S => .ok none S
def ptSome (a : Ex) : Pt := fun ρ S => bnd (a ρ S) fun x S => match x with
  | .int i => .ok (some i) S
  | _ => .bad
def eSl (a : Ex) (lo hi : Pt) : Ex := fun ρ S => bnd (a ρ S) fun x S => bnd (lo ρ S) fun l S => bnd (hi ρ S) fun h S => slV x l h S
/-- tests -/
def tVal (a : Ex) : Ts := fun ρ S => bnd (a ρ S) fun x S => match x with
  | .bl b => .ok b S
  | _ => .bad
def tAnd (a b : Ts) : Ts := fun ρ S => bnd (a ρ S) fun x S => if x then b ρ S else .ok false S
def tOr (a b : Ts) : Ts := fun ρ S => bnd (a ρ S) fun x S => if x then .ok true S else b ρ S
def tNot (a : Ts) : Ts := fun ρ S => bnd (a ρ S) fun x S => .ok (!x) S
/-- as values, all but the last bools -/
def eAnd (a b : Ex) : Ex := fun ρ S => bnd (a ρ S) fun x S => match x with
  | .bl true => b ρ S
  | .bl false => .ok (.bl false) S
  | _ => .bad
def eOr (a b : Ex) : Ex := fun ρ S => bnd (a ρ S) fun x S => match x with
  | .bl true => .ok (.bl true) S
  | .bl false => b ρ S
  | _ => .bad
def eNot (a : Ex) : Ex := fun ρ S => bnd (a ρ S) fun x S => match x with
  | .bl b => .ok (.bl (!b)) S
  | _ => .bad
def eIf (t : Ts) (a b : Ex) : Ex := fun ρ S => bnd (t ρ S) fun c S => if c then a ρ S else b ρ S

/-- a new list, kept in the store -/
def pushV (v : Val) (S : Sto) : Res Val := match v with
  | .lst xs => .ok (.ref S.length) (S ++ [.lst xs])
  | _ => .bad
def eNew (m : Ex) : Ex := fun ρ S => bnd (m ρ S) pushV
def listN : Fn := fun vs S => bnd (listV vs S) pushV
/-- methods: of the receiver and the arguments -/
abbrev Mt := Val → List Val → Sto → Res Val
def appM : Mt := fun x ys S => match x, ys with
  | .ref n, [y] => (match S[n]? with
    | some (.lst xs) => if y.und n && decide (xs.length < sizeLine) then .ok .non (S.set n (.lst (xs ++ [y]))) else .bad
    | _ => .bad)
  | _, _ => .bad
def extM : Mt := fun x ys S => match x, ys with
  | .ref n, [y] => (match S[n]? with
    | some (.lst xs) => (match asL y S with
      | some zs => if Val.unds n zs && decide (xs.length + zs.length ≤ sizeLine) then .ok .non (S.set n (.lst (xs ++ zs))) else .bad
      | none => .bad)
    | _ => .bad)
  | _, _ => .bad
def popM : Mt := fun x ys S => match x, ys with
  | .ref n, [] => (match S[n]? with
    | some (.lst xs) => (match xs[xs.length - 1]? with
      | some y => .ok y (S.set n (.lst xs.dropLast))
      | none => .bad)
    | _ => .bad)
  | _, _ => .bad
def popAtM : Mt := fun x ys S => match x, ys with
  | .ref n, [.int i] => (match S[n]? with
    | some (.lst xs) => (match L2.ixN xs.length i with
      | some k => (match xs[k]? with
        | some z => if -(2 ^ 62) < i ∧ i < 2 ^ 62 then .ok z (S.set n (.lst (xs.eraseIdx k))) else .bad
        | none => .bad)
      | none => .bad)
    | _ => .bad)
  | _, _ => .bad
/-- a list of the store -/
def ckL (x : Val) (S : Sto) : Bool := match x with
  | .ref n => (match S[n]? with
    | some (.lst _) => true
    | _ => false)
  | _ => false
def eM (ck : Val → Sto → Bool) (f : Mt) (a : Ex) (es : Es) : Ex := fun ρ S => bnd (a ρ S) fun x S => if ck x S then bnd (es ρ S) fun ys S => f x ys S else .bad

/-- the distinct ones, in the order in which they come first -/
def addNew (acc : List Int) (n : Int) : List Int := if n ∈ acc then acc else acc ++ [n]
def distinct (ns : List Int) : List Int := ns.foldl addNew []
/-- len(set(x)) of a list of ints -/
def lenSetV (x : Val) (S : Sto) : Res Val := match asL x S with
  | some xs => (match toInts xs with
    | some ns => if ns.length ≤ 4000 then .ok (.int (distinct ns).length) S else .bad
    | none => .bad)
  | none => .bad

/-! ### what is walked: a row of items that stands, or a list of the store, read at each turn -/
inductive Src where
  | row (xs : List Val)
  | cell (n : Nat)
abbrev It := Env → Sto → Res Src
def iSeq (a : Ex) : It := fun ρ S => bnd (a ρ S) fun x S => match x with
  | .tup xs => .ok (.row xs) S
  | .lst xs => .ok (.row xs) S
  | .ref n => (match S[n]? with
    | some (.lst _) => .ok (.cell n) S
    | _ => .bad)
  | _ => .bad
def rowI (lo : Int) (n : Nat) : List Val := (List.range n).map fun i => .int (lo + (i : Nat))
def iRng1 (a : Ex) : It := fun ρ S => bnd (a ρ S) fun x S => match x with
  | .int j => if -(2 ^ 62) ≤ j ∧ j < 2 ^ 62 then .ok (.row (rowI 0 j.toNat)) S else .bad
  | _ => .bad
def rngT (t : Ty) (xs : List Val) (S : Sto) : Res Val := match t with
  | .tuple => .ok (.tup xs) S
  | .list => .ok (.lst xs) S
  | _ => .bad
/-- tuple(range(..)), list(range(..)) -/
def eRng1 (t : Ty) (a : Ex) : Ex := fun ρ S => bnd (a ρ S) fun x S => match x with
  | .int j => if -10000 ≤ j ∧ j ≤ 10000 then rngT t (rowI 0 j.toNat) S else .bad
  | _ => .bad
def eRng2 (t : Ty) (a b : Ex) : Ex := fun ρ S => bnd (a ρ S) fun x S => bnd (b ρ S) fun y S => match x, y with
  | .int i, .int j => if -10000 ≤ i ∧ i ≤ 10000 ∧ -10000 ≤ j ∧ j ≤ 10000 then rngT t (rowI i (j - i).toNat) S else .bad
  | _, _ => .bad
def iRng2 (a b : Ex) : It := fun ρ S => bnd (a ρ S) fun x S => bnd (b ρ S) fun y S => match x, y with
  | .int i, .int j => if -(2 ^ 62) ≤ i ∧ i < 2 ^ 62 ∧ -(2 ^ 62) ≤ j ∧ j < 2 ^ 62 then .ok (.row (rowI i (j - i).toNat)) S else .bad
  | _, _ => .bad

/-! ### statements -/
inductive SR where
  | nx (ρ : Env) (S : Sto) | rt (v : Val) (S : Sto) | bk (ρ : Env) (S : Sto) | ct (ρ : Env) (S : Sto) | er (e : Er) (S : Sto) | bad
abbrev Stm := Env → Sto → SR
def sb {α : Type} (r : Res α) (f : α → Sto → SR) : SR := match r with
  | .ok a S => f a S | .er e S => .er e S | .bad => .bad
@[simp] theorem sb_ok {α : Type} (a : α) (S : Sto) (f : α → Sto → SR) : sb (.ok a S) f = f a S := nr rfl
@[simp] theorem sb_er {α : Type} (e : Er) (S : Sto) (f : α → Sto → SR) : sb (.er e S) f = .er e S := nr rfl
@[simp] theorem sb_bad {α : Type} (f : α → Sto → SR) : sb .bad f = .bad := nr rfl
def sThen (r : SR) (b : Stm) : SR := match r with
  | .nx ρ S => b ρ S
  | .rt v S => .rt v S | .bk ρ S => .bk ρ S | .ct ρ S => .ct ρ S | .er e S => .er e S | .bad => .bad
@[simp] theorem sThen_nx (ρ : Env) (S : Sto) (b : Stm) : sThen (.nx ρ S) b = b ρ S := nr rfl
@[simp] theorem sThen_rt (v : Val) (S : Sto) (b : Stm) : sThen (.rt v S) b = .rt v S := nr rfl
@[simp] theorem sThen_bk (ρ : Env) (S : Sto) (b : Stm) : sThen (.bk ρ S) b = .bk ρ S := nr rfl
@[simp] theorem sThen_ct (ρ : Env) (S : Sto) (b : Stm) : sThen (.ct ρ S) b = .ct ρ S := nr rfl
@[simp] theorem sThen_er (e : Er) (S : Sto) (b : Stm) : sThen (.er e S) b = .er e S := nr rfl
@[simp] theorem sThen_bad (b : Stm) : sThen .bad b = .bad := nr rfl
def sSeq (a b : Stm) : Stm := fun ρ S => sThen (a ρ S) b
def sNext : Stm := fun ρ S => .nx ρ S
def sBreak : Stm := fun ρ S => .bk ρ S
def sCont : Stm := fun ρ S => .ct ρ S
def sRet (a : Ex) : Stm := fun ρ S => sb (a ρ S) fun v S => .rt v S
def sRetN : Stm := fun _ S => .rt .non S
def sExpr (a : Ex) : Stm := fun ρ S => sb (a ρ S) fun _ S => .nx ρ S
def sIf (t : Ts) (a b : Stm) : Stm := fun ρ S => sb (t ρ S) fun c S => if c then a ρ S else b ρ S
/-- name = value -/
def sSet (i : Nat) (a : Ex) : Stm := fun ρ S => sb (a ρ S) fun v S => .nx (ρ.set i (some v)) S
/-- a, b, .. = value -/
def sets (ρ : Env) : List Nat → List Val → Option Env
  | [], [] => some ρ
  | i :: is, v :: vs => sets (ρ.set i (some v)) is vs
  | _, _ => none
def sSets (is : List Nat) (a : Ex) : Stm := fun ρ S => sb (a ρ S) fun v S => match v with
  | .tup xs => (match sets ρ is xs with
    | some ρ' => .nx ρ' S
    | none => .bad)
  | _ => .bad
/-- o[i] = value: the value first -/
def setAt (o i v : Val) (S : Sto) : Option Sto := match o, i with
  | .ref n, .int k => (match S[n]? with
    | some (.lst xs) => (match L2.ixN xs.length k with
      | some j => if v.und n then some (S.set n (.lst (xs.set j v))) else none
      | none => none)
    | _ => none)
  | _, _ => none
def sPut (o i a : Ex) : Stm := fun ρ S => sb (a ρ S) fun v S => sb (o ρ S) fun x S => sb (i ρ S) fun k S => match setAt x k v S with
  | some S' => .nx ρ S'
  | none => .bad
def sAug (i : Nat) (f : Op2) (a : Ex) : Stm := fun ρ S => match ρ[i]? with
  | some (some x) => sb (a ρ S) fun y S => sb (f x y S) fun z S => .nx (ρ.set i (some z)) S
  | _ => .bad
/-- a turn's end: go on, or out with the result -/
def turnK (r : SR) (go : Env → Sto → SR) : SR := match r with
  | .nx ρ S => go ρ S
  | .ct ρ S => go ρ S
  | .bk ρ S => .nx ρ S
  | .rt v S => .rt v S | .er e S => .er e S | .bad => .bad
@[simp] theorem turnK_nx (ρ : Env) (S : Sto) (g : Env → Sto → SR) : turnK (.nx ρ S) g = g ρ S := nr rfl
@[simp] theorem turnK_ct (ρ : Env) (S : Sto) (g : Env → Sto → SR) : turnK (.ct ρ S) g = g ρ S := nr rfl
@[simp] theorem turnK_bk (ρ : Env) (S : Sto) (g : Env → Sto → SR) : turnK (.bk ρ S) g = .nx ρ S := nr rfl
@[simp] theorem turnK_rt (v : Val) (S : Sto) (g : Env → Sto → SR) : turnK (.rt v S) g = .rt v S := nr rfl
@[simp] theorem turnK_er (e : Er) (S : Sto) (g : Env → Sto → SR) : turnK (.er e S) g = .er e S := nr rfl
@[simp] theorem turnK_bad (g : Env → Sto → SR) : turnK .bad g = .bad := nr rfl
/-- a target of a loop -/
abbrev Tg := Val → Env → Option Env
def gName (i : Nat) : Tg := fun v ρ => some (ρ.set i (some v))
def gTup (is : List Nat) : Tg := fun v ρ => match v with
  | .tup xs => sets ρ is xs
  | _ => none
def forL (g : Tg) (b : Stm) : List Val → Stm
  | [], ρ, S => .nx ρ S
  | x :: xs, ρ, S => match g x ρ with
    | some ρ' => turnK (b ρ' S) fun ρ S => forL g b xs ρ S
    | none => .bad
def forAt (g : Tg) (b : Stm) (n : Nat) : Nat → Nat → Stm
  | 0, _, _, _ => .bad
  | f + 1, i, ρ, S => match S[n]? with
    | some (.lst xs) => (match xs[i]? with
      | none => .nx ρ S
      | some x => match g x ρ with
        | some ρ' => turnK (b ρ' S) fun ρ S => forAt g b n f (i + 1) ρ S
        | none => .bad)
    | _ => .bad
def sFor (it : It) (g : Tg) (b : Stm) : Stm := fun ρ S => sb (it ρ S) fun src S => match src with
  | .row xs => forL g b xs ρ S
  | .cell n => forAt g b n 100000 0 ρ S
def whileF (t : Ts) (b : Stm) : Nat → Stm
  | 0, _, _ => .bad
  | f + 1, ρ, S => sb (t ρ S) fun c S => if c then turnK (b ρ S) (whileF t b f) else .nx ρ S
def sWhile (t : Ts) (b : Stm) : Stm := whileF t b 100000

/-! ### comprehensions -/
/-- the slots forgotten -/
def wipe (ρ : Env) : List Nat → Env
  | [] => ρ
  | v :: vs => (wipe ρ vs).set v none
/-- one step, no exception -/
def bnx {α β : Type} (r : Res α) (f : α → Sto → Res β) : Res β := match r with
  | .ok a S => f a S | .er _ _ => .bad | .bad => .bad
@[simp] theorem bnx_ok {α β : Type} (a : α) (S : Sto) (f : α → Sto → Res β) : bnx (.ok a S) f = f a S := nr rfl
@[simp] theorem bnx_er {α β : Type} (e : Er) (S : Sto) (f : α → Sto → Res β) : bnx (.er e S) f = .bad := nr rfl
@[simp] theorem bnx_bad {α β : Type} (f : α → Sto → Res β) : bnx .bad f = .bad := nr rfl
/-- a turn's end -/
def compK (acc : List Val) (t : Ts) (e : Ex) (ρ : Env) (S : Sto) (go : List Val → Sto → Res Val) : Res Val :=
  bnx (t ρ S) fun c S => if c then bnx (e ρ S) fun v S => (if acc.length < sizeLine then go (acc ++ [v]) S else .bad) else go acc S
def compL (fin : List Val → Sto → Res Val) (g : Tg) (t : Ts) (e : Ex) (ρ : Env) : List Val → List Val → Sto → Res Val
  | [], acc, S => fin acc S
  | x :: xs, acc, S => match g x ρ with
    | some ρ' => compK acc t e ρ' S (compL fin g t e ρ xs)
    | none => .bad
def compAt (fin : List Val → Sto → Res Val) (g : Tg) (t : Ts) (e : Ex) (ρ : Env) (n : Nat) : Nat → Nat → List Val → Sto → Res Val
  | 0, _, _, _ => .bad
  | f + 1, i, acc, S => match S[n]? with
    | some (.lst xs) => (match xs[i]? with
      | none => fin acc S
      | some x => match g x ρ with
        | some ρ' => compK acc t e ρ' S (compAt fin g t e ρ n f (i + 1))
        | none => .bad)
    | _ => .bad
def tYes : Ts := fun _ S => .ok true S
def eCompK (fin : List Val → Sto → Res Val) (it : It) (own : List Nat) (g : Tg) (t : Ts) (e : Ex) : Ex := fun ρ S => bnd (it ρ S) fun src S => match src with
  | .row xs => compL fin g t e (wipe ρ own) xs [] S
  | .cell n => compAt fin g t e (wipe ρ own) n 100000 0 [] S
def finL (acc : List Val) (S : Sto) : Res Val := .ok (.lst acc) S
def finN (acc : List Val) (S : Sto) : Res Val := .ok (.ref S.length) (S ++ [.lst acc])
/-- a list; a list of the store -/
abbrev eComp := eCompK finL
abbrev eCompN := eCompK finN

/-- two clauses -/
def comp1L (g : Tg) (t : Ts) (e : Ex) (ρ : Env) (go : List Val → Sto → Res Val) : List Val → List Val → Sto → Res Val
  | [], acc, S => go acc S
  | x :: xs, acc, S => match g x ρ with
    | some ρ' => compK acc t e ρ' S (comp1L g t e ρ go xs)
    | none => .bad
def comp2L (fin : List Val → Sto → Res Val) (g : Tg) (t : Ts) (it1 : It) (is1 : List Nat) (g1 : Tg) (t1 : Ts) (e : Ex) (ρ : Env) : List Val → List Val → Sto → Res Val
  | [], acc, S => fin acc S
  | x :: xs, acc, S => match g x ρ with
    | some ρ' => bnx (t ρ' S) fun c S => if c then bnx (it1 ρ' S) fun src S => (match src with
        | .row ys => comp1L g1 t1 e (wipe ρ' is1) (comp2L fin g t it1 is1 g1 t1 e ρ xs) ys acc S
        | .cell _ => .bad)
      else comp2L fin g t it1 is1 g1 t1 e ρ xs acc S
    | none => .bad
def eComp2 (fin : List Val → Sto → Res Val) (it : It) (own : List Nat) (g : Tg) (t : Ts) (it1 : It) (is1 : List Nat) (g1 : Tg) (t1 : Ts) (e : Ex) : Ex := fun ρ S => bnd (it ρ S) fun src S => match src with
  | .row xs => comp2L fin g t it1 is1 g1 t1 e (wipe ρ own) xs [] S
  | .cell _ => .bad

/-! ### defs -/
structure Df where
  name : Str
  np : Nat
  ns : Nat
  keep : Bool
  body : CallF → Stm
/-- what a call hands back: a list made within it comes as its items, all else that was made within it is forgotten -/
def thaw (k : Nat) (v : Val) (S : Sto) : Val := match v with
  | .ref n => if k ≤ n then (match S[n]? with
    | some (.lst xs) => .lst xs
    | _ => v) else v
  | _ => v
def finV (keep : Bool) (k : Nat) (v : Val) (S : Sto) : Res Val :=
  if !keep && (thaw k v S).und k then .ok (thaw k v S) (S.take k) else .ok v S
def finish (keep : Bool) (k : Nat) (r : SR) : Res Val := match r with
  | .nx _ S => .ok .non (S.take k)
  | .rt v S => finV keep k v S
  | .er e S => if e.arg.und k then .er e (S.take k) else .bad
  | .bk _ _ => .bad | .ct _ _ => .bad | .bad => .bad
def runDf (d : Df) (c : CallF) (args : List Val) (S : Sto) : Res Val :=
  if args.length = d.np then finish d.keep S.length (d.body c (args.map some ++ List.replicate (d.ns - args.length) none) S) else .bad
def look (ds : List Df) (f : Str) : Option Df := ds.find? fun d => d.name == f
def callN (ds : List Df) : Nat → CallF
  | 0, _, _, _ => .bad
  | n + 1, f, args, S => match look ds f with
    | some d => runDf d (callN ds n) args S
    | none => .bad
end TW
/-! TW.Rel: how values, the store and the slots lie in the abstract heap; the readings of what is computed. -/
namespace TW
open PySem PySem.Spec PyProof.Rows L2

/-- the places of the store's objects; lists that are being built (b): nothing refers to them -/
structure Pl where
  p : List Addr
  b : List Addr
def Pl.out (ι : Pl) (a : Addr) : Prop := a ∉ ι.p ∧ a ∉ ι.b
def Pl.add (ι : Pl) (a : Addr) : Pl := ⟨ι.p ++ [a], ι.b⟩
def Pl.ban (ι : Pl) (a : Addr) : Pl := ⟨ι.p, a :: ι.b⟩
/-- a list of the written part -/
def KL (K : PySem.W.Frag) (a : Addr) (xs : List V) : Prop := ∃ (o : Obj) (its : Array Value) (n : Nat), K.lookup a = some o ∧ o.cls = .type "list" ∧ o.dict = none ∧ o.data = .seq its n ∧ its.size ≤ sizeLine ∧ Vals xs its.toList
def keyVal : Key → Val
  | .inl i => .int i
  | .inr x => .str x
mutual
inductive VR (K : PySem.W.Frag) (ι : Pl) (H : Hp) : Val → V → Prop
  | non : VR K ι H .non .non
  | bl (b : Bool) : VR K ι H (.bl b) (.bl b)
  | int (i : Int) : VR K ι H (.int i) (.int i)
  | str (x : Str) : VR K ι H (.str x) (.str x)
  | tup {a : Addr} {vs : List Val} {xs : List V} (h : SqT K H a xs) (r : VRs K ι H vs xs) : VR K ι H (.tup vs) (.ref a)
  | lst {a : Addr} {vs : List Val} {xs : List V} (h : H a = some (.lst xs)) (n : ι.out a) (r : VRs K ι H vs xs) : VR K ι H (.lst vs) (.ref a)
  | dct {a : Addr} {kvs : List (Val × Val)} {ps : List (Key × V)} (h : Rd H a (.dK ps)) (n : ι.out a) (r : VRp K ι H kvs ps) : VR K ι H (.dct kvs) (.ref a)
  | ref {n : Nat} {a : Addr} (h : ι.p[n]? = some a) : VR K ι H (.ref n) (.ref a)
  | scr {a : Addr} {ns : List Int} (h : (Rd H a (.lst (ns.map V.int)) ∧ ι.out a) ∨ KL K a (ns.map V.int)) : VR K ι H (.scr ns) (.ref a)
inductive VRs (K : PySem.W.Frag) (ι : Pl) (H : Hp) : List Val → List V → Prop
  | nil : VRs K ι H [] []
  | cons {v : Val} {x : V} {vs : List Val} {xs : List V} (h : VR K ι H v x) (t : VRs K ι H vs xs) : VRs K ι H (v :: vs) (x :: xs)
inductive VRp (K : PySem.W.Frag) (ι : Pl) (H : Hp) : List (Val × Val) → List (Key × V) → Prop
  | nil : VRp K ι H [] []
  | cons {k : Key} {v : Val} {x : V} {vs : List (Val × Val)} {xs : List (Key × V)} (h : VR K ι H v x) (t : VRp K ι H vs xs) : VRp K ι H ((keyVal k, v) :: vs) ((k, x) :: xs)
end

/-- what a later state keeps of an earlier one -/
structure Ext0 (ι : Pl) (H : Hp) (ι' : Pl) (H' : Hp) : Prop where
  pre : ι.p <+: ι'.p
  keep : ∀ a o, ι.out a → H a = some o → ι'.out a ∧ H' a = some o
structure Ext (ι : Pl) (H : Hp) (ι' : Pl) (H' : Hp) : Prop extends Ext0 ι H ι' H' where
  ban : ι'.b = ι.b
  keepb : ∀ a, a ∈ ι.b → H' a = H a
theorem Ext.refl {ι : Pl} {H : Hp} : Ext ι H ι H := ⟨⟨List.prefix_refl _, fun _ _ n h => ⟨n, h⟩⟩, rfl, fun _ _ => rfl⟩
theorem Ext0.trans {ι1 ι2 ι3 : Pl} {H1 H2 H3 : Hp} (a : Ext0 ι1 H1 ι2 H2) (b : Ext0 ι2 H2 ι3 H3) : Ext0 ι1 H1 ι3 H3 :=
  ⟨a.pre.trans b.pre, fun p o n h => let ⟨n', h'⟩ := a.keep p o n h; b.keep p o n' h'⟩
theorem Ext.trans {ι1 ι2 ι3 : Pl} {H1 H2 H3 : Hp} (a : Ext ι1 H1 ι2 H2) (b : Ext ι2 H2 ι3 H3) : Ext ι1 H1 ι3 H3 :=
  ⟨a.toExt0.trans b.toExt0, b.ban.trans a.ban, fun p m => (b.keepb p (by rw [a.ban]; exact m)).trans (a.keepb p m)⟩
/-- a tuple stands outside of the store's places -/
def Off (ι : Pl) (H : Hp) : Prop := ∀ a, (a ∈ ι.p ∨ a ∈ ι.b) → (∃ xs, H a = some (.lst xs)) ∨ (∃ kvs, H a = some (.dK kvs)) ∨ (∃ kvs, H a = some (.dT kvs)) ∨ ∃ C dx fs, H a = some (.ins C dx fs)
theorem Off.tup {ι : Pl} {H : Hp} {a : Addr} {xs : List V} (o : Off ι H) (h : H a = some (.tup xs)) : ι.out a := by
  refine ⟨fun m => ?_, fun m => ?_⟩
  · rcases o a (.inl m) with ⟨_, e⟩ | ⟨_, e⟩ | ⟨_, e⟩ | ⟨_, _, _, e⟩ <;> rw [h] at e <;> cases e
  · rcases o a (.inr m) with ⟨_, e⟩ | ⟨_, e⟩ | ⟨_, e⟩ | ⟨_, _, _, e⟩ <;> rw [h] at e <;> cases e
theorem Off.frz {ι : Pl} {H : Hp} {a : Addr} {ob : Obj} {u : HO} (o : Off ι H) (h : H a = some (.frz ob u)) : ι.out a := by
  refine ⟨fun m => ?_, fun m => ?_⟩
  · rcases o a (.inl m) with ⟨_, e⟩ | ⟨_, e⟩ | ⟨_, e⟩ | ⟨_, _, _, e⟩ <;> rw [h] at e <;> cases e
  · rcases o a (.inr m) with ⟨_, e⟩ | ⟨_, e⟩ | ⟨_, e⟩ | ⟨_, _, _, e⟩ <;> rw [h] at e <;> cases e
theorem sqT_ext {K : PySem.W.Frag} {ι ι' : Pl} {H H' : Hp} {a : Addr} {xs : List V} (o : Off ι H) (e : Ext0 ι H ι' H') (h : SqT K H a xs) : SqT K H' a xs := by
  rcases h with (h | ⟨ob, h⟩) | h
  · exact .inl (.inl (e.keep a _ (o.tup h) h).2)
  · exact .inl (.inr ⟨ob, (e.keep a _ (o.frz h) h).2⟩)
  · exact .inr h
mutual
theorem VR.ext {K : PySem.W.Frag} {ι ι' : Pl} {H H' : Hp} (o : Off ι H) (e : Ext0 ι H ι' H') : ∀ {v : Val} {x : V}, VR K ι H v x → VR K ι' H' v x
  | _, _, .non => .non
  | _, _, .bl b => .bl b
  | _, _, .int i => .int i
  | _, _, .str s => .str s
  | _, _, .tup h r => .tup (sqT_ext o e h) (VRs.ext o e r)
  | _, _, .lst h n r => .lst (e.keep _ _ n h).2 (e.keep _ _ n h).1 (VRs.ext o e r)
  | _, _, .dct h n r => .dct (by
    rcases h with h | ⟨ob, h⟩
    · exact .inl (e.keep _ _ n h).2
    · exact .inr ⟨ob, (e.keep _ _ n h).2⟩) (by
    rcases h with h | ⟨ob, h⟩
    · exact (e.keep _ _ n h).1
    · exact (e.keep _ _ n h).1) (VRp.ext o e r)
  | _, _, .ref h => .ref (by
    obtain ⟨t, ht⟩ := e.pre
    rw [← ht, List.getElem?_append_left (List.getElem?_eq_some_iff.mp h).1]
    exact h)
  | _, _, .scr h => .scr (by
    rcases h with ⟨h | ⟨ob, h⟩, n⟩ | h
    · exact .inl ⟨.inl (e.keep _ _ n h).2, (e.keep _ _ n h).1⟩
    · exact .inl ⟨.inr ⟨ob, (e.keep _ _ n h).2⟩, (e.keep _ _ n h).1⟩
    · exact .inr h)
theorem VRs.ext {K : PySem.W.Frag} {ι ι' : Pl} {H H' : Hp} (o : Off ι H) (e : Ext0 ι H ι' H') : ∀ {vs : List Val} {xs : List V}, VRs K ι H vs xs → VRs K ι' H' vs xs
  | _, _, .nil => .nil
  | _, _, .cons h t => .cons (VR.ext o e h) (VRs.ext o e t)
theorem VRp.ext {K : PySem.W.Frag} {ι ι' : Pl} {H H' : Hp} (o : Off ι H) (e : Ext0 ι H ι' H') : ∀ {vs : List (Val × Val)} {xs : List (Key × V)}, VRp K ι H vs xs → VRp K ι' H' vs xs
  | _, _, .nil => .nil
  | _, _, .cons h t => .cons (VR.ext o e h) (VRp.ext o e t)
end
section
variable {K : PySem.W.Frag} {ι : Pl} {H : Hp}
theorem VRs.length : ∀ {vs : List Val} {xs : List V}, VRs K ι H vs xs → vs.length = xs.length
  | _, _, .nil => rfl
  | _, _, .cons _ t => by rw [List.length_cons, List.length_cons, VRs.length t]
theorem VRp.length : ∀ {vs : List (Val × Val)} {xs : List (Key × V)}, VRp K ι H vs xs → vs.length = xs.length
  | _, _, .nil => rfl
  | _, _, .cons _ t => by rw [List.length_cons, List.length_cons, VRp.length t]
theorem VRs.append : ∀ {vs ws : List Val} {xs ys : List V}, VRs K ι H vs xs → VRs K ι H ws ys → VRs K ι H (vs ++ ws) (xs ++ ys)
  | _, _, _, _, .nil, s => s
  | _, _, _, _, .cons h t, s => .cons h (VRs.append t s)
theorem VRs.get : ∀ {vs : List Val} {xs : List V} {i : Nat} {v : Val}, VRs K ι H vs xs → vs[i]? = some v → ∃ x, xs[i]? = some x ∧ VR K ι H v x
  | _, _, 0, _, .cons h _, e => by simp at e; subst e; exact ⟨_, rfl, h⟩
  | _, _, i + 1, _, .cons _ t, e => by
    obtain ⟨x, h1, h2⟩ := VRs.get (i := i) t (by simpa using e)
    exact ⟨x, by simpa using h1, h2⟩
theorem VRs.get' : ∀ {vs : List Val} {xs : List V} {i : Nat} {x : V}, VRs K ι H vs xs → xs[i]? = some x → ∃ v, vs[i]? = some v ∧ VR K ι H v x
  | _, _, 0, _, .cons h _, e => by simp at e; subst e; exact ⟨_, rfl, h⟩
  | _, _, i + 1, _, .cons _ t, e => by
    obtain ⟨x, h1, h2⟩ := VRs.get' (i := i) t (by simpa using e)
    exact ⟨x, by simpa using h1, h2⟩
theorem VRs.take : ∀ {vs : List Val} {xs : List V} (n : Nat), VRs K ι H vs xs → VRs K ι H (vs.take n) (xs.take n)
  | _, _, 0, _ => .nil
  | _, _, _ + 1, .nil => .nil
  | _, _, n + 1, .cons h t => .cons h (VRs.take n t)
theorem VRs.drop : ∀ {vs : List Val} {xs : List V} (n : Nat), VRs K ι H vs xs → VRs K ι H (vs.drop n) (xs.drop n)
  | _, _, 0, r => r
  | _, _, _ + 1, .nil => .nil
  | _, _, n + 1, .cons _ t => VRs.drop n t
theorem VRs.set {v : Val} {x : V} (r : VR K ι H v x) : ∀ {vs : List Val} {xs : List V} (n : Nat), VRs K ι H vs xs → VRs K ι H (vs.set n v) (xs.set n x)
  | _, _, _, .nil => .nil
  | _, _, 0, .cons _ t => .cons r t
  | _, _, n + 1, .cons h t => .cons h (VRs.set r n t)
theorem VRs.rep {vs : List Val} {xs : List V} (r : VRs K ι H vs xs) : ∀ n : Nat, VRs K ι H (List.replicate n vs).flatten (List.replicate n xs).flatten
  | 0 => .nil
  | n + 1 => by rw [List.replicate_succ, List.flatten_cons, List.replicate_succ, List.flatten_cons]; exact r.append (VRs.rep r n)
theorem VRs.snoc {vs : List Val} {xs : List V} {v : Val} {x : V} (r : VRs K ι H vs xs) (h : VR K ι H v x) : VRs K ι H (vs ++ [v]) (xs ++ [x]) := r.append (.cons h .nil)
end

/-! ### the store -/
inductive ObR (K : PySem.W.Frag) (ι : Pl) (H : Hp) (a : Addr) (n : Nat) : Ob → Prop
  | lst {vs : List Val} {xs : List V} (h : H a = some (.lst xs)) (r : VRs K ι H vs xs) (b : Val.unds n vs = true) : ObR K ι H a n (.lst vs)
structure RelS (K : PySem.W.Frag) (S : Sto) (ι : Pl) (H : Hp) : Prop where
  len : ι.p.length = S.length
  nd : ι.p.Nodup
  ob : ∀ (n : Nat) (o : Ob) (a : Addr), S[n]? = some o → ι.p[n]? = some a → ObR K ι H a n o
  bn : ∀ a ∈ ι.b, a ∉ ι.p ∧ ∃ xs, H a = some (.lst xs)
theorem RelS.off {K : PySem.W.Frag} {S : Sto} {ι : Pl} {H : Hp} (r : RelS K S ι H) : Off ι H := fun a m => by
  rcases m with m | m
  · obtain ⟨n, hn, e⟩ := List.getElem_of_mem m
    have e1 : ι.p[n]? = some a := by rw [List.getElem?_eq_getElem hn, e]
    have hs : n < S.length := by rw [← r.len]; exact hn
    have q := r.ob n S[n] a (List.getElem?_eq_getElem hs) e1
    generalize S[n] = o at q
    cases q with
    | lst h _ _ => exact .inl ⟨_, h⟩
  · exact .inl (r.bn a m).2
theorem RelS.addr {K : PySem.W.Frag} {S : Sto} {ι : Pl} {H : Hp} (r : RelS K S ι H) {n : Nat} {o : Ob} (e : S[n]? = some o) : ∃ a, ι.p[n]? = some a ∧ ObR K ι H a n o := by
  have h : n < ι.p.length := by rw [r.len]; exact (List.getElem?_eq_some_iff.mp e).1
  exact ⟨ι.p[n], List.getElem?_eq_getElem h, r.ob n o _ e (List.getElem?_eq_getElem h)⟩
structure EnvR (K : PySem.W.Frag) (ι : Pl) (H : Hp) (ρ : Env) (σ : L2.St) : Prop where
  len : ρ.length = σ.length
  at_ : ∀ (i : Nat) (v : Val), ρ[i]? = some (some v) → ∃ x, σ[i]? = some (some x) ∧ VR K ι H v x
theorem EnvR.ext {K : PySem.W.Frag} {ι ι' : Pl} {H H' : Hp} {ρ : Env} {σ : L2.St} (r : EnvR K ι H ρ σ) (o : Off ι H) (e : Ext0 ι H ι' H') : EnvR K ι' H' ρ σ :=
  ⟨r.len, fun i v h => let ⟨x, h1, h2⟩ := r.at_ i v h; ⟨x, h1, h2.ext o e⟩⟩
theorem EnvR.set {K : PySem.W.Frag} {ι : Pl} {H : Hp} {ρ : Env} {σ : L2.St} {v : Val} {x : V} (r : EnvR K ι H ρ σ) (i : Nat) (h : VR K ι H v x) : EnvR K ι H (ρ.set i (some v)) (σ.set i (some x)) := by
  refine ⟨by rw [List.length_set, List.length_set, r.len], fun j w e => ?_⟩
  by_cases hj : i = j
  · subst hj
    by_cases hi : i < ρ.length
    · rw [List.getElem?_set_self hi] at e
      cases e
      exact ⟨x, List.getElem?_set_self (by rw [← r.len]; exact hi), h⟩
    · rw [List.getElem?_eq_none (by simpa using hi)] at e; cases e
  · rw [List.getElem?_set_ne hj] at e
    obtain ⟨y, h1, h2⟩ := r.at_ j w e
    exact ⟨y, by rw [List.getElem?_set_ne hj]; exact h1, h2⟩
theorem EnvR.unset {K : PySem.W.Frag} {ι : Pl} {H : Hp} {ρ : Env} {σ : L2.St} (r : EnvR K ι H ρ σ) (i : Nat) : EnvR K ι H (ρ.set i none) (σ.set i none) := by
  refine ⟨by rw [List.length_set, List.length_set, r.len], fun j w e => ?_⟩
  by_cases hj : i = j
  · subst hj
    by_cases hi : i < ρ.length
    · rw [List.getElem?_set_self hi] at e; cases e
    · rw [List.getElem?_eq_none (by simpa using hi)] at e; cases e
  · rw [List.getElem?_set_ne hj] at e
    obtain ⟨y, h1, h2⟩ := r.at_ j w e
    exact ⟨y, by rw [List.getElem?_set_ne hj]; exact h1, h2⟩
theorem EnvR.wipe {K : PySem.W.Frag} {ι : Pl} {H : Hp} {ρ : Env} {σ : L2.St} (r : EnvR K ι H ρ σ) : ∀ vs : List Nat, EnvR K ι H (TW.wipe ρ vs) (L2.wipe σ vs)
  | [] => r
  | v :: vs => (EnvR.wipe r vs).unset v

/-! ### a new object beside the store, a new object of the store, an object of the store changed -/
theorem RelS.notin {K : PySem.W.Frag} {S : Sto} {ι : Pl} {H : Hp} (r : RelS K S ι H) {p : Addr} (hp : H p = none) : ι.out p := by
  refine ⟨fun m => ?_, fun m => ?_⟩
  · rcases r.off p (.inl m) with ⟨_, e⟩ | ⟨_, e⟩ | ⟨_, e⟩ | ⟨_, _, _, e⟩ <;> rw [hp] at e <;> cases e
  · rcases r.off p (.inr m) with ⟨_, e⟩ | ⟨_, e⟩ | ⟨_, e⟩ | ⟨_, _, _, e⟩ <;> rw [hp] at e <;> cases e
theorem RelS.nb {K : PySem.W.Frag} {S : Sto} {ι : Pl} {H : Hp} (r : RelS K S ι H) {p a : Addr} (hp : H p = none) (ha : a ∈ ι.b) : a ≠ p := fun z => by
  obtain ⟨_, xs, e⟩ := r.bn a ha
  rw [z, hp] at e
  cases e
theorem Ext0.new {ι : Pl} {H : Hp} {p : Addr} {o : HO} (hp : H p = none) : Ext0 ι H ι (upd H p o) :=
  ⟨List.prefix_refl _, fun a u n h => ⟨n, by rw [upd_ne (ne_of_none h hp)]; exact h⟩⟩
theorem Ext.new {K : PySem.W.Frag} {S : Sto} {ι : Pl} {H : Hp} (r : RelS K S ι H) {p : Addr} {o : HO} (hp : H p = none) : Ext ι H ι (upd H p o) :=
  ⟨Ext0.new hp, rfl, fun a ha => upd_ne (r.nb hp ha)⟩
theorem ObR.ext {K : PySem.W.Frag} {ι ι' : Pl} {H H' : Hp} {a : Addr} {n : Nat} {o : Ob} (f : Off ι H) (e : Ext0 ι H ι' H') (ha : H' a = H a) (r : ObR K ι H a n o) : ObR K ι' H' a n o := by
  cases r with
  | lst h r b => exact .lst (by rw [ha]; exact h) (r.ext f e) b
theorem RelS.new {K : PySem.W.Frag} {S : Sto} {ι : Pl} {H : Hp} {p : Addr} {o : HO} (r : RelS K S ι H) (hp : H p = none) : RelS K S ι (upd H p o) :=
  ⟨r.len, r.nd, fun n u a e1 e2 => (r.ob n u a e1 e2).ext r.off (Ext0.new hp) (upd_ne fun z => (r.notin hp).1 (z ▸ List.mem_of_getElem? e2)), fun a ha => ⟨(r.bn a ha).1, by
    rw [upd_ne (show a ≠ p from fun z => (r.notin hp).2 (z ▸ ha))]
    exact (r.bn a ha).2⟩⟩
theorem unds_refs {k : Nat} : ∀ {vs : List Val}, Val.unds k vs = true → ∀ v ∈ vs, v.und k = true
  | v :: vs, h, w, m => by
    simp only [Val.unds, Bool.and_eq_true] at h
    rcases List.mem_cons.mp m with rfl | m
    · exact h.1
    · exact unds_refs h.2 w m
/-- the store has one more object, at p -/
theorem Ext0.push {ι : Pl} {H : Hp} {p : Addr} {o : HO} (hp : H p = none) : Ext0 ι H (ι.add p) (upd H p o) :=
  ⟨List.prefix_append _ _, fun a u n h => ⟨⟨by
    simp only [Pl.add, List.mem_append, List.mem_singleton, not_or]
    exact ⟨n.1, ne_of_none h hp⟩, n.2⟩, by rw [upd_ne (ne_of_none h hp)]; exact h⟩⟩
theorem Ext.push {K : PySem.W.Frag} {S : Sto} {ι : Pl} {H : Hp} (r : RelS K S ι H) {p : Addr} {o : HO} (hp : H p = none) : Ext ι H (ι.add p) (upd H p o) :=
  ⟨Ext0.push hp, rfl, fun a ha => upd_ne (r.nb hp ha)⟩
theorem RelS.push {K : PySem.W.Frag} {S : Sto} {ι : Pl} {H : Hp} {p : Addr} {u : Ob} {o : HO} (r : RelS K S ι H) (hp : H p = none) (h : ObR K (ι.add p) (upd H p o) p S.length u) : RelS K (S ++ [u]) (ι.add p) (upd H p o) := by
  refine ⟨by simp [Pl.add, r.len], ?_, fun n w a e1 e2 => ?_, fun a ha => ⟨fun m => ?_, by
    rw [upd_ne (show a ≠ p from fun z => (r.notin hp).2 (z ▸ ha))]
    exact (r.bn a ha).2⟩⟩
  · show (ι.p ++ [p]).Nodup
    rw [List.nodup_append]
    refine ⟨r.nd, by simp, fun a ha b hb => ?_⟩
    simp only [List.mem_singleton] at hb
    subst hb
    exact fun z => (r.notin hp).1 (z ▸ ha)
  · have e2 : (ι.p ++ [p])[n]? = some a := e2
    by_cases hn : n < S.length
    · rw [List.getElem?_append_left hn] at e1
      rw [List.getElem?_append_left (by rw [r.len]; exact hn)] at e2
      exact (r.ob n w a e1 e2).ext r.off (Ext0.push hp) (upd_ne fun z => (r.notin hp).1 (z ▸ List.mem_of_getElem? e2))
    · have hn' : n = S.length := by
        have := (List.getElem?_eq_some_iff.mp e1).1
        simp at this
        omega
      subst hn'
      simp at e1
      rw [← r.len] at e2
      simp at e2
      subst e1 e2
      exact h
  · have m : a ∈ ι.p ++ [p] := m
    rcases List.mem_append.mp m with m | m
    · exact (r.bn a ha).1 m
    · simp only [List.mem_singleton] at m
      subst m
      exact (r.notin hp).2 ha
/-- an object of the store is changed -/
theorem Ext0.put {ι : Pl} {H : Hp} {p : Addr} {o : HO} (m : p ∈ ι.p) : Ext0 ι H ι (upd H p o) :=
  ⟨List.prefix_refl _, fun a u n h => ⟨n, by rw [upd_ne fun z => n.1 (by rw [z]; exact m)]; exact h⟩⟩
theorem Ext.put {K : PySem.W.Frag} {S : Sto} {ι : Pl} {H : Hp} (r : RelS K S ι H) {p : Addr} {o : HO} (m : p ∈ ι.p) : Ext ι H ι (upd H p o) :=
  ⟨Ext0.put m, rfl, fun a ha => upd_ne fun z => (r.bn a ha).1 (by rw [z]; exact m)⟩
theorem RelS.put {K : PySem.W.Frag} {S : Sto} {ι : Pl} {H : Hp} {p : Addr} {i : Nat} {u : Ob} {o : HO} (r : RelS K S ι H) (hi : ι.p[i]? = some p) (h : ObR K ι (upd H p o) p i u) : RelS K (S.set i u) ι (upd H p o) := by
  refine ⟨by simp [r.len], r.nd, fun n w a e1 e2 => ?_, fun a ha => ⟨(r.bn a ha).1, by
    rw [upd_ne (show a ≠ p from fun z => (r.bn a ha).1 (z ▸ List.mem_of_getElem? hi))]
    exact (r.bn a ha).2⟩⟩
  by_cases hn : i = n
  · subst hn
    have hs : i < S.length := by rw [← r.len]; exact (List.getElem?_eq_some_iff.mp hi).1
    rw [List.getElem?_set_self hs] at e1
    rw [hi] at e2
    cases e1; cases e2
    exact h
  · rw [List.getElem?_set_ne hn] at e1
    refine (r.ob n w a e1 e2).ext r.off (Ext0.put (List.mem_of_getElem? hi)) (upd_ne fun z => hn ?_)
    subst z
    obtain ⟨h1, e3⟩ := List.getElem?_eq_some_iff.mp hi
    obtain ⟨h2, e4⟩ := List.getElem?_eq_some_iff.mp e2
    exact (List.getElem_inj r.nd).mp (e3.trans e4.symm)

/-! ### readings -/
abbrev Wish := Er → Sto → Pl → Hp → Prop
/-- an end, and what is wanted of it (G tells how the answer is held) -/
def Fin {α β : Type} (K : PySem.W.Frag) (W : Wish) (G : Pl → Hp → α → β → Prop) (r : Res α) (ι : Pl) (H : Hp) (Q : β → Hp → Prop) : Prop := match r with
  | .ok v S' => ∀ ι' H' x, RelS K S' ι' H' → Ext ι H ι' H' → G ι' H' v x → Q x H'
  | .er e S' => ∀ ι' H', RelS K S' ι' H' → Ext ι H ι' H' → W e S' ι' H'
  | .bad => False
def GB : Pl → Hp → Bool → Bool → Prop := fun _ _ b x => x = b
def GP : Pl → Hp → Option Int → Option Int → Prop := fun _ _ b x => x = b
theorem Fin.base {α β : Type} {K : PySem.W.Frag} {W : Wish} {G : Pl → Hp → α → β → Prop} {r : Res α} {ι ι' : Pl} {H H' : Hp} {Q : β → Hp → Prop} (e : Ext ι H ι' H') (h : Fin K W G r ι H Q) : Fin K W G r ι' H' Q := by
  cases r with
  | ok v S' => exact fun ι2 H2 x r e2 g => h ι2 H2 x r (e.trans e2) g
  | er e' S' => exact fun ι2 H2 r e2 => h ι2 H2 r (e.trans e2)
  | bad => exact h
/-- one step, then the rest -/
theorem Fin.step {α β γ δ : Type} {K : PySem.W.Frag} {W : Wish} {G : Pl → Hp → α → β → Prop} {G' : Pl → Hp → γ → δ → Prop} {r : Res α} {k : α → Sto → Res γ} {ι : Pl} {H : Hp} {Q : δ → Hp → Prop} {P : β → Hp → Prop}
    (h : Fin K W G' (bnd r k) ι H Q) (f : ∀ v S' ι' H' x, r = .ok v S' → RelS K S' ι' H' → Ext ι H ι' H' → G ι' H' v x → Fin K W G' (k v S') ι' H' Q → P x H') : Fin K W G r ι H P := by
  cases r with
  | ok v S' => exact fun ι' H' x r e g => f v S' ι' H' x rfl r e g (Fin.base e h)
  | er e S' => exact h
  | bad => exact h
theorem Fin.imp {α β : Type} {K : PySem.W.Frag} {W : Wish} {G : Pl → Hp → α → β → Prop} {r : Res α} {ι : Pl} {H : Hp} {Q Q' : β → Hp → Prop} (h : Fin K W G r ι H Q) (f : ∀ x H', Q x H' → Q' x H') : Fin K W G r ι H Q' := by
  cases r with
  | ok v S' => exact fun ι' H' x r e g => f _ _ (h ι' H' x r e g)
  | er e S' => exact h
  | bad => exact h
/-- a state of slots, store and heap -/
structure Sta (K : PySem.W.Frag) (ρ : Env) (S : Sto) (ι : Pl) (σ : L2.St) (H : Hp) : Prop where
  st : RelS K S ι H
  en : EnvR K ι H ρ σ
theorem Sta.to {K : PySem.W.Frag} {ρ : Env} {S S' : Sto} {ι ι' : Pl} {σ : L2.St} {H H' : Hp} (s : Sta K ρ S ι σ H) (r : RelS K S' ι' H') (e : Ext ι H ι' H') : Sta K ρ S' ι' σ H' := ⟨r, s.en.ext s.st.off e.toExt0⟩
def rdE (K : PySem.W.Frag) (W : Wish) (m : Ex) : TE := fun σ H Q => ∃ ρ S ι, Sta K ρ S ι σ H ∧ Fin K W (VR K) (m ρ S) ι H Q
def rdT (K : PySem.W.Frag) (W : Wish) (m : Ts) : TT := fun σ H Q => ∃ ρ S ι, Sta K ρ S ι σ H ∧ Fin K W GB (m ρ S) ι H Q
def rdA (K : PySem.W.Frag) (W : Wish) (m : Es) : TA := fun σ H Q => ∃ ρ S ι, Sta K ρ S ι σ H ∧ Fin K W (VRs K) (m ρ S) ι H Q
def rdP (K : PySem.W.Frag) (W : Wish) (m : Pt) : TO := fun σ H Q => ∃ ρ S ι, Sta K ρ S ι σ H ∧ Fin K W GP (m ρ S) ι H Q
/-- readings by values -/
def rd2 (K : PySem.W.Frag) (W : Wish) (f : Op2) : R2 := fun x y H Q => ∃ S ι a b, RelS K S ι H ∧ VR K ι H a x ∧ VR K ι H b y ∧ Fin K W (VR K) (f a b S) ι H Q
def rd1 (K : PySem.W.Frag) (W : Wish) (f : Val → Sto → Res Val) : V → Hp → VK → Prop := fun x H Q => ∃ S ι a, RelS K S ι H ∧ VR K ι H a x ∧ Fin K W (VR K) (f a S) ι H Q
def rdF (K : PySem.W.Frag) (W : Wish) (f : Fn) : List V → Hp → VK → Prop := fun xs H Q => ∃ S ι as, RelS K S ι H ∧ VRs K ι H as xs ∧ Fin K W (VR K) (f as S) ι H Q
/-- statements -/
def FinS (K : PySem.W.Frag) (W : Wish) (r : SR) (ι : Pl) (H : Hp) (D : Ends) : Prop := match r with
  | .nx ρ' S' => ∀ ι' H' σ', Sta K ρ' S' ι' σ' H' → Ext ι H ι' H' → D.nx σ' H'
  | .rt v S' => ∀ ι' H' x, RelS K S' ι' H' → Ext ι H ι' H' → VR K ι' H' v x → D.rt x H'
  | .bk ρ' S' => ∀ ι' H' σ', Sta K ρ' S' ι' σ' H' → Ext ι H ι' H' → D.bk σ' H'
  | .ct ρ' S' => ∀ ι' H' σ', Sta K ρ' S' ι' σ' H' → Ext ι H ι' H' → D.ct σ' H'
  | .er e S' => ∀ ι' H', RelS K S' ι' H' → Ext ι H ι' H' → W e S' ι' H'
  | .bad => False
def rdS (K : PySem.W.Frag) (W : Wish) (m : Stm) : TS := fun D σ H => ∃ ρ S ι, Sta K ρ S ι σ H ∧ FinS K W (m ρ S) ι H D
theorem FinS.base {K : PySem.W.Frag} {W : Wish} {r : SR} {ι ι' : Pl} {H H' : Hp} {D : Ends} (e : Ext ι H ι' H') (h : FinS K W r ι H D) : FinS K W r ι' H' D := by
  cases r with
  | nx ρ S => exact fun ι2 H2 x s e2 => h ι2 H2 x s (e.trans e2)
  | rt v S => exact fun ι2 H2 x s e2 g => h ι2 H2 x s (e.trans e2) g
  | bk ρ S => exact fun ι2 H2 x s e2 => h ι2 H2 x s (e.trans e2)
  | ct ρ S => exact fun ι2 H2 x s e2 => h ι2 H2 x s (e.trans e2)
  | er e' S => exact fun ι2 H2 s e2 => h ι2 H2 s (e.trans e2)
  | bad => exact h
theorem FinS.step {α β : Type} {K : PySem.W.Frag} {W : Wish} {G : Pl → Hp → α → β → Prop} {r : Res α} {k : α → Sto → SR} {ι : Pl} {H : Hp} {D : Ends} {P : β → Hp → Prop}
    (h : FinS K W (sb r k) ι H D) (f : ∀ v S' ι' H' x, r = .ok v S' → RelS K S' ι' H' → Ext ι H ι' H' → G ι' H' v x → FinS K W (k v S') ι' H' D → P x H') : Fin K W G r ι H P := by
  cases r with
  | ok v S' => exact fun ι' H' x r e g => f v S' ι' H' x rfl r e g (FinS.base e h)
  | er e S' => exact h
  | bad => exact h

theorem PE.weak {X : Cx} {e : Expr} {t t' : TE} (h : PE X e t) (w : ∀ σ H Q, t' σ H Q → t σ H Q) : PE X e t' := ⟨fun pins s σ H Q I q => h.run pins s σ H Q I (w σ H Q q)⟩
theorem PT.weak {X : Cx} {e : Expr} {t t' : TT} (h : PT X e t) (w : ∀ σ H Q, t' σ H Q → t σ H Q) : PT X e t' := ⟨fun pins s σ H Q I q => h.run pins s σ H Q I (w σ H Q q)⟩
theorem PW.weak {X : Cx} {e : Expr} {t t' : TT} (h : PW X e t) (w : ∀ σ H Q, t' σ H Q → t σ H Q) : PW X e t' := ⟨fun wh pins s σ H Q I q => h.run wh pins s σ H Q I (w σ H Q q)⟩
theorem PA.weak {X : Cx} {e : List Expr} {t t' : TA} (h : PA X e t) (w : ∀ σ H Q, t' σ H Q → t σ H Q) : PA X e t' := ⟨fun pos pins s σ H Q I q => h.run pos pins s σ H Q I (w σ H Q q)⟩
theorem PS.weak {X : Cx} {e : Stmt} {t t' : TS} (h : PS X e t) (w : ∀ D σ H, t' D σ H → t D σ H) : PS X e t' := ⟨fun pins s σ H D I q => h.run pins s σ H D I (w D σ H q)⟩
theorem PSs.weak {X : Cx} {e : List Stmt} {t t' : TS} (h : PSs X e t) (w : ∀ D σ H, t' D σ H → t D σ H) : PSs X e t' := ⟨fun pins s σ H D I q => h.run pins s σ H D I (w D σ H q)⟩
theorem OpR.weak {X : Cx} {f : Value → Value → Sem Value} {r r' : R2} (h : OpR X f r) (w : ∀ x y H Q, r' x y H Q → r x y H Q) : OpR X f r' := fun pins s σ H x y v u Q I rx ry q => h pins s σ H x y v u Q I rx ry (w x y H Q q)
theorem CallR.weak {X : Cx} {f : Value} {r r' : List V → Hp → VK → Prop} (h : CallR X f r) (w : ∀ xs H Q, r' xs H Q → r xs H Q) : CallR X f r' := fun pins s σ H xs us Q I rx q => h pins s σ H xs us Q I rx (w xs H Q q)
end TW
/-! TW.Ops: each operation by values, over the library's rules. -/
namespace TW
open PySem PySem.Spec PyProof.Rows L2

section
variable {K : PySem.W.Frag} {W : Wish} {S : Sto} {ι : Pl} {H : Hp} {Q : VK}
/-- an answer that stands already -/
theorem Fin.val {v : Val} {x : V} (rs : RelS K S ι H) (r : VR K ι H v x) (f : Fin K W (VR K) (.ok v S) ι H Q) : Q x H := f ι H x rs .refl r
theorem Fin.newL {vs : List Val} {xs : List V} (rs : RelS K S ι H) (r : VRs K ι H vs xs) (f : Fin K W (VR K) (.ok (.lst vs) S) ι H Q) : ∀ p, H p = none → Q (.ref p) (upd H p (.lst xs)) :=
  fun p hp => f ι _ _ (rs.new hp) (.new rs hp) (.lst upd_same (rs.notin hp) (r.ext rs.off (Ext0.new hp)))
theorem Fin.newT {vs : List Val} {xs : List V} (rs : RelS K S ι H) (r : VRs K ι H vs xs) (f : Fin K W (VR K) (.ok (.tup vs) S) ι H Q) : ∀ p, H p = none → Q (.ref p) (upd H p (.tup xs)) :=
  fun p hp => f ι _ _ (rs.new hp) (.new rs hp) (.tup (.of upd_same) (r.ext rs.off (Ext0.new hp)))
theorem Fin.bool {k : Bool} (rs : RelS K S ι H) (f : Fin K W (VR K) (.ok (.bl k) S) ι H Q) : Q (.bl k) H := f.val rs (.bl k)
theorem Fin.int {k : Int} (rs : RelS K S ι H) (f : Fin K W (VR K) (.ok (.int k) S) ι H Q) : Q (.int k) H := f.val rs (.int k)
theorem Fin.str {k : Str} (rs : RelS K S ι H) (f : Fin K W (VR K) (.ok (.str k) S) ι H Q) : Q (.str k) H := f.val rs (.str k)
theorem asL_at {v : Val} {x : V} {vs : List Val} (rs : RelS K S ι H) (r : VR K ι H v x) (e : asL v S = some vs) : ∃ p xs, x = .ref p ∧ H p = some (.lst xs) ∧ VRs K ι H vs xs := by
  cases r with
  | lst h n r =>
    simp only [asL, Option.some.injEq] at e
    subst e
    exact ⟨_, _, rfl, h, r⟩
  | @ref n a h =>
    simp only [asL] at e
    cases hs : S[n]? with
    | none => rw [hs] at e; cases e
    | some o =>
      rw [hs] at e
      cases o with
      | lst ws =>
        simp only [Option.some.injEq] at e
        subst e
        have q := rs.ob n _ a hs h
        cases q with
        | lst h1 r1 b1 => exact ⟨_, _, rfl, h1, r1⟩
      | dct _ => cases e
      | ins _ _ => cases e
  | _ => cases e
theorem asQ_at {v : Val} {x : V} {vs : List Val} (rs : RelS K S ι H) (r : VR K ι H v x) (e : asQ v S = some vs) : ∃ p xs, x = .ref p ∧ (SqL K H p xs ∨ SqT K H p xs) ∧ VRs K ι H vs xs := by
  cases r with
  | tup h r =>
    simp only [asQ, Option.some.injEq] at e
    subst e
    exact ⟨_, _, rfl, .inr h, r⟩
  | lst h n r =>
    obtain ⟨p, xs, e1, h1, r1⟩ := asL_at rs (.lst h n r) (show asL _ S = some vs from e)
    exact ⟨p, xs, e1, .inl (.of h1), r1⟩
  | ref h =>
    obtain ⟨p, xs, e1, h1, r1⟩ := asL_at rs (.ref h) (show asL _ S = some vs from e)
    exact ⟨p, xs, e1, .inl (.of h1), r1⟩
  | _ => cases e
end

theorem scr_at {K : PySem.W.Frag} {ι : Pl} {H : Hp} {ns : List Int} {x : V} (r : VR K ι H (.scr ns) x) : ∃ p, x = .ref p ∧ SqL K H p (ns.map V.int) := by
  cases r with
  | scr h =>
    refine ⟨_, rfl, ?_⟩
    rcases h with h | h
    · exact .inl h.1
    · exact .inr h
theorem scr_vals {K : PySem.W.Frag} {ι : Pl} {H : Hp} : ∀ ns : List Int, VRs K ι H (ns.map Val.int) (ns.map V.int)
  | [] => .nil
  | n :: ns => .cons (.int n) (scr_vals ns)

/-! ### data -/
mutual
def Val.data : Val → PyData
  | .bl b => .bool b
  | .int i => .int i
  | .str x => .str x
  | .tup xs => .tuple (Val.datas xs)
  | .lst xs => .list (Val.datas xs)
  | .non => .none | .dct _ => .none | .ref _ => .none | .exc _ _ => .none | .scr _ => .none
def Val.datas : List Val → List PyData
  | [] => []
  | x :: xs => x.data :: Val.datas xs
end
mutual
theorem Val.data_lay : ∀ {v : Val}, v.dat = true → v.data.canLay0 = true
  | .non, _ => rfl
  | .bl _, _ => rfl
  | .int _, _ => rfl
  | .str x, h => by simpa [Val.data, PyData.canLay0, PyData.strOk, Val.dat] using h
  | .tup xs, h => by simp only [Val.data, PyData.canLay0]; exact Val.datas_lay (by simpa [Val.dat] using h)
  | .lst xs, h => by simp only [Val.data, PyData.canLay0]; exact Val.datas_lay (by simpa [Val.dat] using h)
theorem Val.datas_lay : ∀ {vs : List Val}, Val.dats vs = true → PyData.canLayAll0 (Val.datas vs) = true
  | [], _ => rfl
  | v :: vs, h => by
    simp only [Val.dats, Bool.and_eq_true] at h
    simp only [Val.datas, PyData.canLayAll0, Bool.and_eq_true]
    exact ⟨Val.data_lay h.1, Val.datas_lay h.2⟩
end
mutual
theorem Val.data_depth : ∀ {v : Val}, v.dat = true → v.data.depth = v.depth
  | .non, _ => rfl
  | .bl _, _ => rfl
  | .int _, _ => rfl
  | .str x, h => rfl
  | .tup xs, h => by simp only [Val.data, PyData.depth, Val.depth]; rw [Val.datas_depth (by simpa [Val.dat] using h)]
  | .lst xs, h => by simp only [Val.data, PyData.depth, Val.depth]; rw [Val.datas_depth (by simpa [Val.dat] using h)]
theorem Val.datas_depth : ∀ {vs : List Val}, Val.dats vs = true → PyData.depthAll (Val.datas vs) = Val.depths vs
  | [], _ => rfl
  | v :: vs, h => by
    simp only [Val.dats, Bool.and_eq_true] at h
    simp only [Val.datas, PyData.depthAll, Val.depths]
    rw [Val.data_depth h.1, Val.datas_depth h.2]
end
mutual
theorem Val.data_eqv : ∀ {v w : Val}, v.dat = true → w.dat = true → PyData.eqv v.data w.data = v.eqv w
  | .non, w, _, hw => by cases w <;> first | rfl | (simp [Val.dat] at hw) | simp [Val.data, PyData.eqv, Val.eqv]
  | .bl _, w, _, hw => by cases w <;> first | rfl | (simp [Val.dat] at hw) | simp [Val.data, PyData.eqv, Val.eqv]
  | .int _, w, _, hw => by cases w <;> first | rfl | (simp [Val.dat] at hw) | simp [Val.data, PyData.eqv, Val.eqv]
  | .str _, w, _, hw => by cases w <;> first | rfl | (simp [Val.dat] at hw; done) | simp [Val.data, PyData.eqv, Val.eqv]
  | .tup xs, w, h, hw => by
    cases w with
    | tup ys => simp only [Val.data, PyData.eqv, Val.eqv]; exact Val.datas_eqv (by simpa [Val.dat] using h) (by simpa [Val.dat] using hw)
    | _ => first | rfl | (simp [Val.dat] at hw; done) | simp [Val.data, PyData.eqv, Val.eqv]
  | .lst xs, w, h, hw => by
    cases w with
    | lst ys => simp only [Val.data, PyData.eqv, Val.eqv]; exact Val.datas_eqv (by simpa [Val.dat] using h) (by simpa [Val.dat] using hw)
    | _ => first | rfl | (simp [Val.dat] at hw; done) | simp [Val.data, PyData.eqv, Val.eqv]
theorem Val.datas_eqv : ∀ {vs ws : List Val}, Val.dats vs = true → Val.dats ws = true → PyData.eqvAll (Val.datas vs) (Val.datas ws) = Val.eqvs vs ws
  | [], [], _, _ => rfl
  | [], _ :: _, _, _ => by simp only [Val.datas, PyData.eqvAll, Val.eqvs]
  | _ :: _, [], _, _ => by simp only [Val.datas, PyData.eqvAll, Val.eqvs]
  | v :: vs, w :: ws, h, hw => by
    simp only [Val.dats, Bool.and_eq_true] at h hw
    simp only [Val.datas, PyData.eqvAll, Val.eqvs]
    rw [Val.data_eqv h.1 hw.1, Val.datas_eqv h.2 hw.2]
end
section
variable {K : PySem.W.Frag} {ι : Pl} {H : Hp}
mutual
theorem VR.dpv : ∀ (v : Val) (x : V), VR K ι H v x → v.dat = true → Dp K H x v.data
  | .non, _, r, _ => by cases r; exact .non
  | .bl b, _, r, _ => by cases r; exact .bl b
  | .int i, _, r, _ => by cases r; exact .int i
  | .str s, _, r, _ => by cases r; exact .str s
  | .tup vs, _, r, d => by
    cases r with
    | tup h r => simp only [Val.data]; exact .tup h (VRs.dpv vs _ r (by simpa [Val.dat] using d))
  | .lst vs, _, r, d => by
    cases r with
    | lst h n r => simp only [Val.data]; exact .lst (.of h) (VRs.dpv vs _ r (by simpa [Val.dat] using d))
  | .dct _, _, _, d => by simp [Val.dat] at d
  | .ref _, _, _, d => by simp [Val.dat] at d
  | .exc _ _, _, _, d => by simp [Val.dat] at d
  | .scr _, _, _, d => by simp [Val.dat] at d
theorem VRs.dpv : ∀ (vs : List Val) (xs : List V), VRs K ι H vs xs → Val.dats vs = true → DpAll K H xs (Val.datas vs)
  | [], _, r, _ => by cases r; exact .nil
  | v :: vs, _, r, d => by
    cases r with
    | cons h t =>
      simp only [Val.dats, Bool.and_eq_true] at d
      simp only [Val.datas]
      exact .cons (VR.dpv v _ h d.1) (VRs.dpv vs _ t d.2)
end
theorem VR.dp {v : Val} {x : V} (r : VR K ι H v x) (d : v.dat = true) : Dp K H x v.data := VR.dpv v x r d
theorem VRs.dp {vs : List Val} {xs : List V} (r : VRs K ι H vs xs) (d : Val.dats vs = true) : DpAll K H xs (Val.datas vs) := VRs.dpv vs xs r d
end
theorem flat_dp {K : PySem.W.Frag} {S : Sto} {ι : Pl} {H : Hp} {v : Val} {x : V} (rs : RelS K S ι H) (r : VR K ι H v x) (d : (flat v S).dat = true) : Dp K H x (flat v S).data := by
  cases r with
  | @ref n a h =>
    simp only [flat] at d ⊢
    cases hs : S[n]? with
    | none => rw [hs] at d; simp [Val.dat] at d
    | some o =>
      rw [hs] at d
      cases o with
      | lst ws =>
        have q := rs.ob n _ a hs h
        cases q with
        | lst h1 r1 b1 =>
          simp only [Val.data] at d ⊢
          exact .lst (.of h1) (VRs.dp r1 (by simpa [Val.dat] using d))
      | dct _ => simp [Val.dat] at d
      | ins _ _ => simp [Val.dat] at d
  | non => exact VR.dp (ι := ι) .non d
  | bl b => exact VR.dp (ι := ι) (.bl b) d
  | int b => exact VR.dp (ι := ι) (.int b) d
  | str b => exact VR.dp (ι := ι) (.str b) d
  | tup h r => exact VR.dp (.tup h r) d
  | lst h n r => exact VR.dp (.lst h n r) d
  | dct h n r => simp [flat, Val.dat] at d
  | scr h => simp [flat, Val.dat] at d

/-! ### operators -/
section
variable {X : Cx} {W : Wish}
theorem o_add : OpR X (binaryOp .Add) (rd2 X.K W addV) := by
  intro pins s σ H x y v u Q I rx ry ⟨S, ι, a, b, rs, ra, rb, f⟩
  unfold addV at f
  split at f
  · cases ra; cases rb
    exact op_add pins s σ H _ _ v u Q I rx ry ⟨_, _, rfl, rfl, f.int rs⟩
  · cases ra; cases rb
    split at f
    · rename_i hz
      exact op_add_str pins s σ H _ _ v u Q I rx ry ⟨_, _, rfl, rfl, hz, f.str rs⟩
    · exact f.elim
  · split at f
    · rename_i hz
      cases ra with
      | tup h1 r1 =>
        cases rb with
        | tup h2 r2 =>
          rw [r1.length, r2.length] at hz
          refine op_catA pins s σ H _ _ v u Q I rx ry ⟨_, _, _, _, rfl, rfl, h1, h2, hz, fun e => ?_, fun _ e => ?_, fun _ _ => f.newT rs (r1.append r2)⟩
          · subst e
            cases r1
            exact f.val rs (.tup h2 r2)
          · subst e
            cases r2
            rw [List.append_nil] at f
            exact f.val rs (.tup h1 r1)
    · exact f.elim
  · split at f
    · rename_i xs ys e1 e2
      obtain ⟨p, zs, rfl, h1, r1⟩ := asL_at rs ra e1
      obtain ⟨q, ws, rfl, h2, r2⟩ := asL_at rs rb e2
      split at f
      · rename_i hz
        rw [r1.length, r2.length] at hz
        exact op_cat pins s σ H _ _ v u Q I rx ry ⟨_, _, _, _, rfl, rfl, h1, h2, hz, f.newL rs (r1.append r2)⟩
      · exact f.elim
    · exact f.elim
theorem o_sub : OpR X (binaryOp .Sub) (rd2 X.K W subV) := by
  intro pins s σ H x y v u Q I rx ry ⟨S, ι, a, b, rs, ra, rb, f⟩
  unfold subV at f
  split at f
  · cases ra; cases rb
    exact op_sub pins s σ H _ _ v u Q I rx ry ⟨_, _, rfl, rfl, f.int rs⟩
  · exact f.elim
theorem o_fdiv : OpR X (binaryOp .FloorDiv) (rd2 X.K W fdivV) := by
  intro pins s σ H x y v u Q I rx ry ⟨S, ι, a, b, rs, ra, rb, f⟩
  unfold fdivV at f
  split at f
  · cases ra; cases rb
    split at f
    · rename_i hz
      exact op_fdivN pins s σ H _ _ v u Q I rx ry ⟨_, _, rfl, rfl, hz, f.int rs⟩
    · exact f.elim
  · exact f.elim
theorem o_mod : OpR X (binaryOp .Mod) (rd2 X.K W modV) := by
  intro pins s σ H x y v u Q I rx ry ⟨S, ι, a, b, rs, ra, rb, f⟩
  unfold modV at f
  split at f
  · cases ra; cases rb
    split at f
    · rename_i hz
      exact op_modN pins s σ H _ _ v u Q I rx ry ⟨_, _, rfl, rfl, hz, f.int rs⟩
    · exact f.elim
  · exact f.elim
theorem o_pow : OpR X (binaryOp .Pow) (rd2 X.K W powV) := by
  intro pins s σ H x y v u Q I rx ry ⟨S, ι, a, b, rs, ra, rb, f⟩
  unfold powV at f
  split at f
  · cases ra; cases rb
    split at f
    · rename_i hz
      exact op_pow pins s σ H _ _ v u Q I rx ry ⟨_, _, rfl, rfl, ⟨hz.1, by omega, hz.2.2⟩, f.int rs⟩
    · exact f.elim
  · exact f.elim
theorem o_neg : UnR X (unaryOp .USub) (rd1 X.K W negV) := by
  intro pins s σ H x v Q I rx ⟨S, ι, a, rs, ra, f⟩
  unfold negV at f
  split at f
  · cases ra
    exact un_neg pins s σ H _ v Q I rx ⟨_, rfl, f.int rs⟩
  · exact f.elim
theorem bnd_bl {r : Res Bool} {g : Bool → Bool} {K : PySem.W.Frag} {ι : Pl} {H : Hp} {Q : VK} (f : Fin K W (VR K) (bnd r fun b S => .ok (.bl (g b)) S) ι H Q) : (∃ b S, r = .ok b S) ∨ (∃ e S, r = .er e S) := by
  cases r with
  | ok b S => exact .inl ⟨b, S, rfl⟩
  | er e S => exact .inr ⟨e, S, rfl⟩
  | bad => exact False.elim f
theorem room_eq {A : Around} {a b : Nat} (hu : A.units + 200 < cLine) (h : min a b ≤ 150) : A.units + min a b < cLine := by omega
theorem eq_core {g : Bool → Bool} {op : CmpOp} (hs : ∀ {pins : List (Addr × Obj)} {s : Shared} {σ : L2.St} {H : Hp} {i j : Str} {v u : Value} {Q : VK}, Inv X pins σ H s → RelV (.str i) v → RelV (.str j) u → Q (.bl (g (i == j))) H → wpAny (model X.prog X.w) X.A (compareOp op v u) (EP X pins σ Q) X.xe s)
    (hd : ∀ {pins : List (Addr × Obj)} {s : Shared} {σ : L2.St} {H : Hp} {v u : Value} {Q : VK} {da db : PyData} {as bs : List Addr}, Inv X pins σ H s → Reads s.heap v da as → Reads s.heap u db bs → da.canLay0 = true → db.canLay0 = true → X.A.units + min da.depth db.depth < cLine → Q (.bl (g (PyData.eqv da db))) H → wpAny (model X.prog X.w) X.A (compareOp op v u) (EP X pins σ Q) X.xe s)
    (hu : X.A.units + 200 < cLine) : OpR X (compareOp op) (rd2 X.K W fun x y S => bnd (eqB x y S) fun b S => .ok (.bl (g b)) S) := by
  intro pins s σ H x y v u Q I rx ry ⟨S, ι, a, b, rs, ra, rb, f⟩
  replace f : Fin X.K W (VR X.K) (bnd (eqB a b S) fun b S => .ok (.bl (g b)) S) ι H Q := f
  unfold eqB at f
  split at f
  · cases ra; cases rb
    exact hs I rx ry (f.bool rs)
  · split at f
    · rename_i hc
      simp only [Bool.and_eq_true, decide_eq_true_eq] at hc
      obtain ⟨h1, h2, h3⟩ := hc
      obtain ⟨as, q1⟩ := Dp.reads I _ x v (flat_dp rs ra h1) rx
      obtain ⟨bs, q2⟩ := Dp.reads I _ y u (flat_dp rs rb h2) ry
      refine hd I q1 q2 (Val.data_lay h1) (Val.data_lay h2) (room_eq hu (by rw [Val.data_depth h1, Val.data_depth h2]; exact h3)) ?_
      rw [Val.data_eqv h1 h2]
      exact f.bool rs
    · exact f.elim
theorem o_eq (hu : X.A.units + 200 < cLine) : OpR X (compareOp .Eq) (rd2 X.K W eqV) := by
  refine eq_core (g := fun b => b) (fun I rx ry q => ?_) (fun {pins s σ H v u Q da db as bs} I q1 q2 h1 h2 h3 q => ?_) hu
  · exact op_eq _ _ _ _ _ _ _ _ _ I rx ry ⟨rfl, by rw [dec_str]; exact q⟩
  · exact SeqAt.compareEq_reads q1 q2 h1 h2 h3 ⟨.bl _, H, I, rfl, q⟩
theorem o_ne (hu : X.A.units + 200 < cLine) : OpR X (compareOp .NotEq) (rd2 X.K W neV) := by
  refine eq_core (g := fun b => !b) (fun I rx ry q => ?_) (fun {pins s σ H v u Q da db as bs} I q1 q2 h1 h2 h3 q => ?_) hu
  · exact op_ne _ _ _ _ _ _ _ _ _ I rx ry ⟨rfl, by rw [dec_str]; exact q⟩
  · exact SeqAt.compareNe_reads q1 q2 h1 h2 h3 ⟨.bl _, H, I, rfl, q⟩
theorem o_ord {op : CmpOp} {p : Int → Int → Bool} (h : OpR X (compareOp op) (rI0 fun i j => .bl (p i j))) : OpR X (compareOp op) (rd2 X.K W (ordV p)) := by
  intro pins s σ H x y v u Q I rx ry ⟨S, ι, a, b, rs, ra, rb, f⟩
  unfold ordV at f
  split at f
  · cases ra; cases rb
    exact h pins s σ H _ _ v u Q I rx ry ⟨_, _, rfl, rfl, f.bool rs⟩
  · exact f.elim
theorem o_le : OpR X (compareOp .LtE) (rd2 X.K W leV) := o_ord op_le
theorem o_gt : OpR X (compareOp .Gt) (rd2 X.K W gtV) := o_ord op_gt
theorem o_ge : OpR X (compareOp .GtE) (rd2 X.K W geV) := o_ord op_ge
theorem o_lt : OpR X (compareOp .Lt) (rd2 X.K W ltV) := by
  intro pins s σ H x y v u Q I rx ry ⟨S, ι, a, b, rs, ra, rb, f⟩
  unfold ltV at f
  split at f
  · cases ra; cases rb
    exact op_lt pins s σ H _ _ v u Q I rx ry ⟨_, _, rfl, rfl, f.bool rs⟩
  · cases ra; cases rb
    exact op_lt_str pins s σ H _ _ v u Q I rx ry ⟨_, _, rfl, rfl, f.bool rs⟩
  · exact f.elim
theorem VR.non_iff {K : PySem.W.Frag} {ι : Pl} {H : Hp} {v : Val} {x : V} (r : VR K ι H v x) : decide (x = .non) = v.isNon := by
  cases r <;> simp [Val.isNon]
theorem o_isN : OpR X (compareOp .Is) (rd2 X.K W isNonV) := by
  intro pins s σ H x y v u Q I rx ry ⟨S, ι, a, b, rs, ra, rb, f⟩
  unfold isNonV at f
  split at f
  · cases rb
    refine op_isN pins s σ H _ _ v u Q I rx ry ⟨rfl, ?_⟩
    rw [ra.non_iff]
    exact f.bool rs
  · exact f.elim
theorem o_notN : OpR X (compareOp .IsNot) (rd2 X.K W notNonV) := by
  intro pins s σ H x y v u Q I rx ry ⟨S, ι, a, b, rs, ra, rb, f⟩
  unfold notNonV at f
  split at f
  · cases rb
    refine op_notN pins s σ H _ _ v u Q I rx ry ⟨rfl, ?_⟩
    rw [ra.non_iff]
    exact f.bool rs
  · exact f.elim
theorem datas_any {x : Val} (hx : x.dat = true) : ∀ {vs : List Val}, Val.dats vs = true → ((Val.datas vs).any fun z => PyData.eqv z x.data) = vs.any fun z => z.eqv x
  | [], _ => rfl
  | v :: vs, h => by
    simp only [Val.dats, Bool.and_eq_true] at h
    simp only [Val.datas, List.any_cons]
    rw [Val.data_eqv h.1 hx, datas_any hx h.2]
theorem in_core {g : Bool → Bool} {op : CmpOp} (hs : OpR X (compareOp op) (fun x y H Q => ∃ i j, x = .str i ∧ y = .str j ∧ Q (.bl (g (!(Builtin.Str.occurrences j i 0 j.length 1).isEmpty))) H))
    (hl : ∀ {pins : List (Addr × Obj)} {s : Shared} {σ : L2.St} {H : Hp} {v u : Value} {Q : VK} {d : PyData} {ds : List PyData} {as bs : List Addr}, Inv X pins σ H s → Reads s.heap u (.list ds) as → Reads s.heap v d bs → PyData.canLayAll0 ds = true → d.canLay0 = true → X.A.units + 1 + min (PyData.depthAll ds) d.depth < cLine → Q (.bl (g (ds.any fun y => PyData.eqv y d))) H → wpAny (model X.prog X.w) X.A (compareOp op v u) (EP X pins σ Q) X.xe s)
    (ht : ∀ {pins : List (Addr × Obj)} {s : Shared} {σ : L2.St} {H : Hp} {v u : Value} {Q : VK} {d : PyData} {ds : List PyData} {as bs : List Addr}, Inv X pins σ H s → Reads s.heap u (.tuple ds) as → Reads s.heap v d bs → PyData.canLayAll0 ds = true → d.canLay0 = true → X.A.units + 1 + min (PyData.depthAll ds) d.depth < cLine → Q (.bl (g (ds.any fun y => PyData.eqv y d))) H → wpAny (model X.prog X.w) X.A (compareOp op v u) (EP X pins σ Q) X.xe s)
    (hu : X.A.units + 200 < cLine) : OpR X (compareOp op) (rd2 X.K W fun x y S => bnd (inB x y S) fun b S => .ok (.bl (g b)) S) := by
  intro pins s σ H x y v u Q I rx ry ⟨S, ι, a, b, rs, ra, rb, f⟩
  replace f : Fin X.K W (VR X.K) (bnd (inB a b S) fun b S => .ok (.bl (g b)) S) ι H Q := f
  unfold inB at f
  split at f
  · split at f
    · cases ra; cases rb
      exact hs pins s σ H _ _ v u Q I rx ry ⟨_, _, rfl, rfl, f.bool rs⟩
    · exact f.elim
  · split at f
    · rename_i vs e
      split at f
      · rename_i hc
        simp only [Bool.and_eq_true, decide_eq_true_eq] at hc
        obtain ⟨h1, h2, h3⟩ := hc
        obtain ⟨p, xs, rfl, hq, r⟩ := asQ_at rs rb e
        obtain ⟨bs, q2⟩ := Dp.reads I _ x v (VR.dp ra h1) rx
        have hroom : X.A.units + 1 + min (PyData.depthAll (Val.datas vs)) a.data.depth < cLine := by rw [Val.datas_depth h2, Val.data_depth h1]; omega
        have hQ : Q (.bl (g ((Val.datas vs).any fun z => PyData.eqv z a.data))) H := by rw [datas_any h1 h2]; exact f.bool rs
        rcases hq with hq | hq
        · obtain ⟨as, q1⟩ := Dp.reads I (.list (Val.datas vs)) (.ref p) u (.lst hq (VRs.dp r h2)) ry
          exact hl I q1 q2 (Val.datas_lay h2) (Val.data_lay h1) hroom hQ
        · obtain ⟨as, q1⟩ := Dp.reads I (.tuple (Val.datas vs)) (.ref p) u (.tup hq (VRs.dp r h2)) ry
          exact ht I q1 q2 (Val.datas_lay h2) (Val.data_lay h1) hroom hQ
      · exact f.elim
    · exact f.elim
theorem o_in (hu : X.A.units + 200 < cLine) : OpR X (compareOp .In) (rd2 X.K W inV) :=
  in_core (g := fun b => b) op_in_str (fun {pins s σ H v u Q d ds as bs} I q1 q2 h1 h2 h3 q => SeqAt.in_list_reads q1 q2 h1 h2 h3 ⟨.bl _, H, I, rfl, q⟩)
    (fun {pins s σ H v u Q d ds as bs} I q1 q2 h1 h2 h3 q => SeqAt.in_tuple_reads q1 q2 h1 h2 h3 ⟨.bl _, H, I, rfl, q⟩) hu
theorem o_notIn (hu : X.A.units + 200 < cLine) : OpR X (compareOp .NotIn) (rd2 X.K W notInV) :=
  in_core (g := fun b => !b) op_notin_str (fun {pins s σ H v u Q d ds as bs} I q1 q2 h1 h2 h3 q => SeqAt.notIn_list_reads q1 q2 h1 h2 h3 ⟨.bl _, H, I, rfl, q⟩)
    (fun {pins s σ H v u Q d ds as bs} I q1 q2 h1 h2 h3 q => SeqAt.notIn_tuple_reads q1 q2 h1 h2 h3 ⟨.bl _, H, I, rfl, q⟩) hu
end
end TW
/-! TW.Ops2: products, subscripts, slices, isinstance, built-in functions. -/
namespace TW
open PySem PySem.Spec PyProof.Rows L2

/-! ### tuple * 0, tuple * 1 -/
theorem tuple_mul1 (l : Addr) (items : Array Value) (n : Nat) (dd : Option Addr) (sl : Array (Option Value)) (u : Tok) :
    Meets (Builtin.«tuple.__mul__» ⟨[.ref l, .int 1 u], []⟩) (fun _ R s => s.heap.get? l = some { cls := .type "tuple", dict := dd, data := .seq items n, slots := sl } ∧ R (.ok (.ret (Value.ref l))) s) :=
  .of_wp fun prog w A R s h => by
    obtain ⟨hp, g, d, tk, os⟩ := s
    obtain ⟨hl, h⟩ := h
    have f1 := AutoSeq1.idx_int
    have c0 : (decide ((1 : Int) < -(2 ^ 63)) || decide ((1 : Int) ≥ 2 ^ 63)) = false := by decide
    have c1 : (items.isEmpty || (1 : Int) == 1) = true := by simp
    wp_walk using wpAny_loadPart' hl
    repeat (first
      | (refine wpAny_ite_false (decide_eq_false (by rw [c0]; exact Bool.false_ne_true)) ?_; wp_walk using wpAny_loadPart' hl)
      | (refine wpAny_ite_true (decide_eq_true c1) ?_; wp_walk using wpAny_loadPart' hl))
    exact ⟨_, rfl, h⟩
theorem tuple_mul0 (l : Addr) (items : Array Value) (n : Nat) (dd : Option Addr) (sl : Array (Option Value)) (u : Tok) (hi : items.isEmpty = false) :
    Meets (Builtin.«tuple.__mul__» ⟨[.ref l, .int 0 u], []⟩) (fun _ R s => s.heap.get? l = some { cls := .type "tuple", dict := dd, data := .seq items n, slots := sl } ∧
      R (.ok (.ret (Value.ref s.heap.objs.size))) { s with heap := s.heap.push { cls := Value.type "tuple", data := Data.seq #[] }, toks := s.toks }) :=
  .of_wp fun prog w A R s h => by
    obtain ⟨hp, g, d, tk, os⟩ := s
    obtain ⟨hl, h⟩ := h
    have f1 := AutoSeq1.idx_int
    have c0 : (decide ((0 : Int) < -(2 ^ 63)) || decide ((0 : Int) ≥ 2 ^ 63)) = false := by decide
    have c1 : (items.isEmpty || (0 : Int) == 1) = false := by rw [hi]; decide
    have c2 : (decide ((0 : Int) ≤ 0) || items.isEmpty) = true := by simp
    wp_walk using wpAny_loadPart' hl
    repeat (first
      | (refine wpAny_ite_false (decide_eq_false (by rw [c0]; exact Bool.false_ne_true)) ?_; wp_walk using wpAny_loadPart' hl)
      | (refine wpAny_ite_false (decide_eq_false (by rw [c1]; exact Bool.false_ne_true)) ?_; wp_walk using wpAny_loadPart' hl)
      | (refine wpAny_ite_true (decide_eq_true c2) ?_; wp_walk using wpAny_loadPart' hl))
    exact ⟨_, rfl, h⟩
theorem mul_ref {X : Cx} {pins : List (Addr × Obj)} {s : Shared} {σ : L2.St} {H : Hp} {l : Addr} {xs : List V} {k : Int} {t : Tok} {Q : Value → Shared → Prop} {E : Value → Shared → Prop} (I : Inv X pins σ H s) (hT : SqT X.K H l xs)
    (h : ∀ (items : Array Value) (n : Nat) (dd : Option Addr) (sl : Array (Option Value)), items.size = xs.length → s.heap.get? l = some { cls := .type "tuple", dict := dd, data := .seq items n, slots := sl } →
      ∃ C : Result → Shared → Prop, True ∧ Meets (Builtin.«tuple.__mul__» ⟨[.ref l, .int k t], []⟩) (fun _ R s => s.heap.get? l = some { cls := .type "tuple", dict := dd, data := .seq items n, slots := sl } ∧ R (.ok (.ret (Value.ref l))) s)) (q : Q (.ref l) s) :
    wpAny (model X.prog X.w) X.A (binaryOp .Mult (.ref l) (.int k t)) Q E s := by
  obtain ⟨its, r, ⟨⟨cls, dd, data, sl⟩, ho, hc, n, hd⟩, hs⟩ := I.tuple hT
  simp only at hc hd
  subst hc hd
  obtain ⟨_, _, m⟩ := h its.toArray n dd sl (by rw [List.size_toArray, r.length]) ho
  exact wpAny_binaryOp_repeat_ref (T := "tuple") (U := "int") (by decide) ⟨_, ho, rfl⟩ (fun s' => typeIs_int s' k t) noFill_tuple_mul F.fills_int_mul F.slot_int_rmul repeat_tuple F.slot_int_index.lookup
    (call_meets F.slot_int_rmul (typeIs_int s k t) F.entry_int_rmul (F.args_int_rmul_2 _ _) (int_rmul_tuple k t l its.toArray n dd sl)
      ⟨ho, rfl, ⟨_, ho, rfl⟩, call_meets F.slot_tuple_mul ⟨_, ho, rfl⟩ F.entry_tuple_mul (F.args_tuple_mul_2 _ _) m ⟨ho, q⟩⟩)
section
variable {X : Cx} {W : Wish}
theorem mul_zero {pins : List (Addr × Obj)} {s : Shared} {σ : L2.St} {H : Hp} {l : Addr} {xs : List V} {t : Tok} {Q : VK} (I : Inv X pins σ H s) (hT : SqT X.K H l xs) (hne : xs ≠ []) (q : ∀ p, H p = none → Q (.ref p) (upd H p (.tup []))) :
    wpAny (model X.prog X.w) X.A (binaryOp .Mult (.ref l) (.int 0 t)) (EP X pins σ Q) X.xe s := by
  obtain ⟨its, r, ⟨⟨cls, dd, data, sl⟩, ho, hc, n, hd⟩, hs⟩ := I.tuple hT
  simp only at hc hd
  subst hc hd
  have hi : its.toArray.isEmpty = false := by
    cases its with
    | nil => exact absurd (r.nil_iff.mp rfl) hne
    | cons a b => rfl
  refine wpAny_binaryOp_repeat_ref (T := "tuple") (U := "int") (by decide) ⟨_, ho, rfl⟩ (fun s' => typeIs_int s' 0 t) noFill_tuple_mul F.fills_int_mul F.slot_int_rmul repeat_tuple F.slot_int_index.lookup
    (call_meets F.slot_int_rmul (typeIs_int s 0 t) F.entry_int_rmul (F.args_int_rmul_2 _ _) (int_rmul_tuple 0 t l its.toArray n dd sl)
      ⟨ho, rfl, ⟨_, ho, rfl⟩, call_meets F.slot_tuple_mul ⟨_, ho, rfl⟩ F.entry_tuple_mul (F.args_tuple_mul_2 _ _) (tuple_mul0 l its.toArray n dd sl t hi) ⟨ho, ?_⟩⟩)
  refine ⟨.ref s.heap.objs.size, _, I.laid (t' := s.toks) (o := .tup []) (fun b ob q => Heap.get?_push_of_some _ q) (Nat.le_refl _) ?_, rfl, q _ (I.hok.fresh (Nat.le_refl _))⟩
  exact ⟨Nat.zero_le _, [], .nil, IsTup.new _ _⟩
theorem o_mul : OpR X (binaryOp .Mult) (rd2 X.K W mulV) := by
  intro pins s σ H x y v u Q I rx ry ⟨S, ι, a, b, rs, ra, rb, f⟩
  unfold mulV at f
  split at f
  · cases ra; cases rb
    split at f
    · rename_i hz
      refine op_mul pins s σ H _ _ v u Q I rx ry ⟨_, _, rfl, rfl, ?_, f.int rs⟩
      simpa [mulOk, CMul] using hz
    · exact f.elim
  · rename_i xs k
    split at f
    · rename_i hz
      cases ra with
      | tup h1 r1 =>
        cases rb
        have hne : _ := r1.length
        by_cases hk : 2 ≤ k
        · refine op_repT pins s σ H _ _ v u Q I rx ry ⟨_, _, _, rfl, rfl, h1, fun e => ?_, hk, hz.2.2.2, by rw [← r1.length]; exact hz.2.1, f.newT rs (r1.rep _)⟩
          subst e
          cases r1
          exact absurd hz.1 (by decide)
        · by_cases hk0 : k = 0
          · subst hk0
            cases rx
            obtain ⟨t, rfl⟩ := ry
            refine mul_zero I h1 (fun e => ?_) (f.newT rs .nil)
            subst e
            cases r1
            exact absurd hz.1 (by decide)
          · have hk1 : k = 1 := by omega
            subst hk1
            cases rx
            obtain ⟨t, rfl⟩ := ry
            have e : (List.replicate (1 : Int).toNat xs).flatten = xs := by simp
            rw [e] at f
            exact mul_ref I h1 (fun items n dd sl _ _ => ⟨fun _ _ => True, trivial, tuple_mul1 _ _ _ _ _ _⟩) (show EP X pins σ Q (Value.ref _) s from ⟨V.ref _, H, I, rfl, f.val rs (.tup h1 r1)⟩)
    · exact f.elim
  · split at f
    · rename_i hz
      cases ra with
      | lst h1 n1 r1 =>
        cases rb
        rw [r1.length] at hz
        exact op_rep pins s σ H _ _ v u Q I rx ry ⟨_, _, _, rfl, rfl, h1, by omega, by omega, hz.1, f.newL rs (r1.rep _)⟩
    · exact f.elim
  · exact f.elim

theorem ixN_map {n : Nat} {i : Int} {α : Type} {xs : List α} : atI xs i = (ixN xs.length i).bind fun j => xs[j]? := rfl
theorem VRs.atI {K : PySem.W.Frag} {ι : Pl} {H : Hp} {vs : List Val} {xs : List V} {i : Int} {v : Val} (r : VRs K ι H vs xs) (e : L2.atI vs i = some v) : ∃ x, L2.atI xs i = some x ∧ VR K ι H v x := by
  unfold L2.atI at e ⊢
  rw [r.length] at e
  cases h : ixN xs.length i with
  | none => rw [h] at e; cases e
  | some j =>
    rw [h] at e
    exact r.get e
theorem o_ix : IxR X (rd2 X.K W ixL) := by
  intro value slice pins s σ H x y v u Q I rx ry ⟨S, ι, a, b, rs, ra, rb, f⟩ hs
  unfold ixL at f
  split at f
  · rename_i i
    split at f
    · rename_i z
      split at f
      · rename_i hz
        split at f
        · rename_i c e
          cases ra; cases rb
          exact ix_str value slice pins s σ H _ _ v u Q I rx ry ⟨_, _, _, rfl, rfl, hz, e, f.str rs⟩ hs
        · exact f.elim
      · exact f.elim
    · split at f
      · rename_i vs e1
        split at f
        · rename_i w e2
          cases rb
          obtain ⟨p, xs, rfl, hq, r⟩ := asQ_at rs ra e1
          obtain ⟨z, e3, rz⟩ := r.atI e2
          rcases hq with hq | hq
          · exact ix_list value slice pins s σ H _ _ v u Q I rx ry ⟨_, _, _, _, rfl, rfl, hq, e3, f.val rs rz⟩ hs
          · exact ix_tup value slice pins s σ H _ _ v u Q I rx ry ⟨_, _, _, _, rfl, rfl, hq, e3, f.val rs rz⟩ hs
        · exact f.elim
      · exact f.elim
  · exact f.elim
theorem VRs.cut {K : PySem.W.Frag} {ι : Pl} {H : Hp} {vs : List Val} {xs : List V} {lo hi : Option Int} (r : VRs K ι H vs xs) : VRs K ι H (TW.cut vs lo hi) (cutV xs lo hi) := by
  unfold TW.cut cutV
  rw [r.length]
  exact (r.drop _).take _
def rdSl (K : PySem.W.Frag) (W : Wish) (f : Val → Option Int → Option Int → Sto → Res Val) : V → Option Int → Option Int → Hp → VK → Prop := fun x lo hi H Q => ∃ S ι a, RelS K S ι H ∧ VR K ι H a x ∧ Fin K W (VR K) (f a lo hi S) ι H Q
theorem cut_whole {α : Type} {xs : List α} {lo hi : Option Int} (h : HT.sIx xs.length 0 lo = 0 ∧ HT.sIx xs.length xs.length hi = xs.length) : TW.cut xs lo hi = xs := by
  unfold TW.cut
  rw [h.1, h.2]
  simp
theorem o_sl : SlR X (rdSl X.K W slV) := by
  intro pins s σ H x v vl vu lo hi sl Q I rx hs pl pu ⟨S, ι, a, rs, ra, f⟩
  unfold slV at f
  split at f
  · split at f
    · rename_i hz
      cases ra
      exact sl_str pins s σ H _ v vl vu lo hi sl Q I rx hs pl pu ⟨_, rfl, hz, f.str rs⟩
    · exact f.elim
  · cases ra with
    | tup h1 r1 =>
      refine sl_tupA pins s σ H _ v vl vu lo hi sl Q I rx hs pl pu ⟨_, _, rfl, h1, fun e => ?_, fun _ => f.newT rs r1.cut⟩
      rw [← r1.length] at e
      rw [cut_whole e] at f
      exact f.val rs (.tup h1 r1)
  · obtain ⟨p, rfl, h1⟩ := scr_at ra
    exact sl_list pins s σ H _ v vl vu lo hi sl Q I rx hs pl pu ⟨_, _, rfl, h1, f.newL rs (scr_vals _).cut⟩
  · split at f
    · rename_i vs e
      obtain ⟨p, xs, rfl, h1, r1⟩ := asL_at rs ra e
      exact sl_list pins s σ H _ v vl vu lo hi sl Q I rx hs pl pu ⟨_, _, rfl, .of h1, f.newL rs r1.cut⟩
    · exact f.elim

/-! ### isinstance -/
def Ty.nm : Ty → String
  | .int => "int" | .bool => "bool" | .str => "str" | .tuple => "tuple" | .list => "list" | .dict => "dict"
theorem sqT_ty {K : PySem.W.Frag} {H : Hp} {a : Addr} {xs : List V} (h : SqT K H a xs) : TyX K H (.ref a) (.type "tuple") := by
  rcases h with (h | ⟨o, h⟩) | ⟨o, its, n, h, hc, _⟩
  · exact .base (.tup h)
  · exact .fTuple h
  · exact .kTuple h hc
theorem rd_ty {K : PySem.W.Frag} {H : Hp} {a : Addr} {kvs : List (Key × V)} (h : Rd H a (.dK kvs)) : TyX K H (.ref a) (.type "dict") := by
  rcases h with h | ⟨o, h⟩
  · exact .base (.dK h)
  · exact .fDict h
theorem ty_of {K : PySem.W.Frag} {S : Sto} {ι : Pl} {H : Hp} {v : Val} {x : V} {t : Ty} {k : Bool} {S' : Sto} (rs : RelS K S ι H) (r : VR K ι H v x) (e : isB v t S = .ok k S') :
    S' = S ∧ ∃ T : String, TyX K H x (.type T) ∧ kitB T t.nm = some k := by
  cases r with
  | non => cases t <;> cases e <;> exact ⟨rfl, _, .base .non, by decide +kernel⟩
  | bl b => cases t <;> cases e <;> exact ⟨rfl, _, .base (.bl b), by decide +kernel⟩
  | int b => cases t <;> cases e <;> exact ⟨rfl, _, .base (.int b), by decide +kernel⟩
  | str b => cases t <;> cases e <;> exact ⟨rfl, _, .base (.str b), by decide +kernel⟩
  | tup h r => cases t <;> cases e <;> exact ⟨rfl, _, sqT_ty h, by decide +kernel⟩
  | lst h n r => cases t <;> cases e <;> exact ⟨rfl, _, .base (.lst h), by decide +kernel⟩
  | dct h n r => cases t <;> cases e <;> exact ⟨rfl, _, rd_ty h, by decide +kernel⟩
  | scr h => cases t <;> cases e
  | @ref n a h =>
    cases hs : S[n]? with
    | none => cases t <;> simp [isB, hs] at e
    | some o =>
      have q := rs.ob n o a hs h
      cases q with
      | lst h1 r1 b1 => cases t <;> simp [isB, hs] at e <;> obtain ⟨rfl, rfl⟩ := e <;> exact ⟨rfl, _, .base (.lst h1), by decide +kernel⟩
theorem rel_ty {n : String} {u : Value} (r : RelV (.ty n) u) : u = .type n := r
/-- isinstance(x, T) -/
def rdIs (K : PySem.W.Frag) (W : Wish) (t : Ty) : List V → Hp → VK → Prop := fun xs H Q => ∃ x S ι a, xs = [x, .ty t.nm] ∧ RelS K S ι H ∧ VR K ι H a x ∧ Fin K W (VR K) (bnd (isB a t S) fun b S => .ok (.bl b) S) ι H Q
theorem o_is (t : Ty) : CallR X (.builtin "isinstance") (rdIs X.K W t) := by
  refine CallR.weak call_isi fun xs H Q ⟨x, S, ι, a, e, rs, ra, f⟩ => ?_
  cases hb : isB a t S with
  | ok k S' =>
    rw [hb] at f
    obtain ⟨rfl, T, ty, hk⟩ := ty_of rs ra hb
    exact ⟨x, .ty t.nm, .type T, .type t.nm, k, e, .ty _, ty, kit_ty hk, f.bool rs⟩
  | er e S' => unfold isB at hb; split at hb <;> first | cases hb | (split at hb <;> cases hb)
  | bad => rw [hb] at f; exact f.elim

/-! ### built-in functions of values -/
theorem VRs.one {K : PySem.W.Frag} {ι : Pl} {H : Hp} {v : Val} {xs : List V} (r : VRs K ι H [v] xs) : ∃ x, xs = [x] ∧ VR K ι H v x := by
  cases r with
  | cons h t => cases t; exact ⟨_, rfl, h⟩
theorem VRs.two {K : PySem.W.Frag} {ι : Pl} {H : Hp} {v w : Val} {xs : List V} (r : VRs K ι H [v, w] xs) : ∃ x y, xs = [x, y] ∧ VR K ι H v x ∧ VR K ι H w y := by
  cases r with
  | cons h t =>
    obtain ⟨y, rfl, h2⟩ := t.one
    exact ⟨_, y, rfl, h, h2⟩
def lenF : Fn := fun vs S => match vs with
  | [x] => lenV x S
  | _ => .bad
theorem o_len : CallR X (.builtin "len") (rdF X.K W lenF) := by
  intro pins s σ H xs us Q I rv ⟨S, ι, as, rs, ra, f⟩
  unfold lenF at f
  split at f
  · rename_i x
    obtain ⟨y, rfl, r⟩ := ra.one
    unfold lenV at f
    split at f
    · split at f
      · rename_i hz
        cases r
        exact call_len pins s σ H _ us Q I rv ⟨_, _, rfl, ⟨hz, rfl⟩, f.int rs⟩
      · exact f.elim
    · rename_i n
      cases r with
      | @ref _ a h =>
        split at f
        · rename_i ws e
          have q := rs.ob n _ a e h
          cases q with
          | lst h1 r1 b1 => exact call_len pins s σ H _ us Q I rv ⟨_, _, rfl, .inl ⟨_, .of h1, rfl⟩, by rw [← r1.length]; exact f.int rs⟩
        · rename_i ws e
          have q := rs.ob n _ a e h
          cases q
        · exact f.elim
    · cases r with
      | tup h1 r1 => exact call_len pins s σ H _ us Q I rv ⟨_, _, rfl, .inr ⟨_, h1, rfl⟩, by rw [← r1.length]; exact f.int rs⟩
    · cases r with
      | lst h1 n1 r1 => exact call_len pins s σ H _ us Q I rv ⟨_, _, rfl, .inl ⟨_, .of h1, rfl⟩, by rw [← r1.length]; exact f.int rs⟩
    · exact f.elim
  · exact f.elim
theorem bools_at {K : PySem.W.Frag} {ι : Pl} {H : Hp} : ∀ {vs : List Val} {xs : List V} {bs : List Bool}, VRs K ι H vs xs → bools vs = some bs → xs = bs.map V.bl
  | [], _, bs, .nil, e => by simp only [bools, Option.some.injEq] at e; subst e; rfl
  | v :: vs, _, bs, .cons h t, e => by
    cases h <;> simp only [bools] at e <;> first | cases e | skip
    cases e2 : bools vs with
    | none => rw [e2] at e; cases e
    | some cs =>
      rw [e2] at e
      simp only [Option.map_some, Option.some.injEq] at e
      subst e
      rw [bools_at t e2]
      rfl
theorem ints_at {K : PySem.W.Frag} {ι : Pl} {H : Hp} : ∀ {vs : List Val} {xs : List V} {bs : List Int}, VRs K ι H vs xs → toInts vs = some bs → xs = bs.map V.int
  | [], _, bs, .nil, e => by simp only [toInts, Option.some.injEq] at e; subst e; rfl
  | v :: vs, _, bs, .cons h t, e => by
    cases h <;> simp only [toInts] at e <;> first | cases e | skip
    cases e2 : toInts vs with
    | none => rw [e2] at e; cases e
    | some cs =>
      rw [e2] at e
      simp only [Option.map_some, Option.some.injEq] at e
      subst e
      rw [ints_at t e2]
      rfl
theorem strs_at {K : PySem.W.Frag} {ι : Pl} {H : Hp} : ∀ {vs : List Val} {xs : List V} {bs : List Str}, VRs K ι H vs xs → toStrs vs = some bs → xs = bs.map V.str
  | [], _, bs, .nil, e => by simp only [toStrs, Option.some.injEq] at e; subst e; rfl
  | v :: vs, _, bs, .cons h t, e => by
    cases h <;> simp only [toStrs] at e <;> first | cases e | skip
    cases e2 : toStrs vs with
    | none => rw [e2] at e; cases e
    | some cs =>
      rw [e2] at e
      simp only [Option.map_some, Option.some.injEq] at e
      subst e
      rw [strs_at t e2]
      rfl
theorem o_all (hc : X.calm = true) : CallR X (.builtin "all") (rdF X.K W allV) := by
  intro pins s σ H xs us Q I rv ⟨S, ι, as, rs, ra, f⟩
  unfold allV at f
  split at f
  · obtain ⟨y, rfl, r⟩ := ra.one
    split at f
    · rename_i ws e
      obtain ⟨p, zs, rfl, h1, r1⟩ := asL_at rs r e
      split at f
      · rename_i bs e2
        rw [bools_at r1 e2] at h1
        exact cr_all hc pins s σ H _ us Q I rv ⟨_, bs, rfl, .of h1, f.bool rs⟩
      · exact f.elim
    · exact f.elim
  · exact f.elim
theorem o_any (hc : X.calm = true) : CallR X (.builtin "any") (rdF X.K W anyV) := by
  intro pins s σ H xs us Q I rv ⟨S, ι, as, rs, ra, f⟩
  unfold anyV at f
  split at f
  · obtain ⟨y, rfl, r⟩ := ra.one
    split at f
    · rename_i ws e
      obtain ⟨p, zs, rfl, h1, r1⟩ := asL_at rs r e
      split at f
      · rename_i bs e2
        rw [bools_at r1 e2] at h1
        exact cr_any hc pins s σ H _ us Q I rv ⟨_, bs, rfl, .of h1, f.bool rs⟩
      · exact f.elim
    · exact f.elim
  · exact f.elim
theorem o_sum (hc : X.calm = true) : CallR X (.builtin "sum") (rdF X.K W sumV) := by
  intro pins s σ H xs us Q I rv ⟨S, ι, as, rs, ra, f⟩
  unfold sumV at f
  split at f
  · obtain ⟨y, rfl, r⟩ := ra.one
    split at f
    · rename_i ws e
      obtain ⟨p, zs, rfl, h1, r1⟩ := asL_at rs r e
      split at f
      · rename_i bs e2
        rw [ints_at r1 e2] at h1
        exact cr_sum hc pins s σ H _ us Q I rv ⟨_, bs, rfl, .of h1, f.int rs⟩
      · exact f.elim
    · exact f.elim
  · exact f.elim
theorem o_int : CallR X (.type "int") (rdF X.K W intV) := by
  intro pins s σ H xs us Q I rv ⟨S, ι, as, rs, ra, f⟩
  unfold intV at f
  split at f
  · obtain ⟨y, rfl, r⟩ := ra.one
    cases r
    exact call_int1 pins s σ H _ us Q I rv (.inl ⟨_, rfl, f.int rs⟩)
  · obtain ⟨y, rfl, r⟩ := ra.one
    cases r
    exact call_int1 pins s σ H _ us Q I rv (.inr ⟨_, rfl, f.int rs⟩)
  · obtain ⟨y, rfl, r⟩ := ra.one
    cases r
    split at f
    · rename_i n e
      split at f
      · rename_i hz
        exact call_int_str pins s σ H _ us Q I rv ⟨_, _, rfl, e, hz, f.int rs⟩
      · exact f.elim
    · exact f.elim
  · exact f.elim
theorem o_str : CallR X (.type "str") (rdF X.K W strV) := by
  intro pins s σ H xs us Q I rv ⟨S, ι, as, rs, ra, f⟩
  unfold strV at f
  split at f
  · obtain ⟨y, rfl, r⟩ := ra.one
    cases r
    split at f
    · rename_i hz
      exact call_str_int pins s σ H _ us Q I rv ⟨_, rfl, hz, f.str rs⟩
    · exact f.elim
  · exact f.elim
theorem o_abs : CallR X (.builtin "abs") (rdF X.K W absV) := by
  intro pins s σ H xs us Q I rv ⟨S, ι, as, rs, ra, f⟩
  unfold absV at f
  split at f
  · obtain ⟨y, rfl, r⟩ := ra.one
    cases r
    exact call_abs pins s σ H _ us Q I rv ⟨_, rfl, f.int rs⟩
  · exact f.elim
theorem o_max2 (hc : X.calm = true) : CallR X (.builtin "max") (rdF X.K W max2V) := by
  intro pins s σ H xs us Q I rv ⟨S, ι, as, rs, ra, f⟩
  unfold max2V at f
  split at f
  · obtain ⟨y, z, rfl, r, r2⟩ := ra.two
    cases r; cases r2
    exact call_max2 hc pins s σ H _ us Q I rv ⟨_, _, rfl, f.int rs⟩
  · exact f.elim
theorem o_min2 (hc : X.calm = true) : CallR X (.builtin "min") (rdF X.K W min2V) := by
  intro pins s σ H xs us Q I rv ⟨S, ι, as, rs, ra, f⟩
  unfold min2V at f
  split at f
  · obtain ⟨y, z, rfl, r, r2⟩ := ra.two
    cases r; cases r2
    exact call_min2 hc pins s σ H _ us Q I rv ⟨_, _, rfl, f.int rs⟩
  · exact f.elim
theorem o_list : CallR X (.type "list") (rdF X.K W listV) := by
  intro pins s σ H xs us Q I rv ⟨S, ι, as, rs, ra, f⟩
  unfold listV at f
  split at f
  · obtain ⟨y, rfl, r⟩ := ra.one
    obtain ⟨p, rfl, h1⟩ := scr_at r
    exact call_list_of pins s σ H _ us Q I rv ⟨_, _, rfl, .inl h1, f.newL rs (scr_vals _)⟩
  · obtain ⟨y, rfl, r⟩ := ra.one
    split at f
    · rename_i ws e
      obtain ⟨p, zs, rfl, h1, r1⟩ := asQ_at rs r e
      exact call_list_of pins s σ H _ us Q I rv ⟨_, _, rfl, h1, f.newL rs r1⟩
    · exact f.elim
  · exact f.elim
theorem o_tuple : CallR X (.type "tuple") (rdF X.K W tupleV) := by
  intro pins s σ H xs us Q I rv ⟨S, ι, as, rs, ra, f⟩
  unfold tupleV at f
  split at f
  · obtain ⟨y, rfl, r⟩ := ra.one
    split at f
    · rename_i ws e
      obtain ⟨p, zs, rfl, h1, r1⟩ := asQ_at rs r e
      refine call_tuple_of pins s σ H _ us Q I rv ⟨p, zs, rfl, ?_⟩
      rcases h1 with h1 | h1
      · exact .inl ⟨h1, f.newT rs r1⟩
      · exact .inr ⟨h1, f.val rs (.tup h1 r1)⟩
    · exact f.elim
  · exact f.elim
end
end TW
/-! TW.Exp: one lemma for each form of expression. -/
namespace TW
open PySem PySem.Spec PyProof.Rows L2

/-- what is the same for a whole program -/
structure En where
  P : Program
  w : World
  K : PySem.W.Frag
  mg : Str → Option Value
  base : Heap
/-- where code stands: its names, its scope, room for n calls -/
structure Cxt (en : En) (X : Cx) (W : Wish) (N : List Str) (sc : Scope) (fb : Str → Bool) (n : Nat) : Prop where
  hP : X.prog = en.P
  hw : X.w = en.w
  hK : X.K = en.K
  hm : X.mg = en.mg
  hb : X.base = en.base
  hN : X.N = N
  hs : X.env.scope = sc
  nd : N.Nodup
  calm : X.calm = true
  room : Room n X.A
  own : PassesOwn (model X.prog X.w) X.A X.env X.xe
  hf : ∀ x, fb x = true → X.fn x = true
  kf : sc.kind = .function
def kindB (sc : Scope) (x : Str) (k : NameKind) : Bool := sc.names.lookup x == some k
def varB (N : List Str) (sc : Scope) (i : Nat) (x : Str) : Bool := N[i]? == some x && ((kindB sc x .local || (kindB sc x .cell || kindB sc x .free)) && (!(x == ("__debug__" : Str)) && !(x == ("__classdict__" : Str))))
def setB (N : List Str) (sc : Scope) (fb : Str → Bool) (i : Nat) (x : Str) : Bool := N[i]? == some x && (kindB sc x .local || (kindB sc x .cell && fb x))
def gloB (sc : Scope) (x : Str) : Bool := kindB sc x .globalImplicit && (!(x == ("__debug__" : Str)) && !(x == ("__name__" : Str)))
theorem kindB_ok {sc : Scope} {x : Str} {k : NameKind} (h : kindB sc x k = true) : sc.names.lookup x = some k := eq_of_beq h
section
variable {en : En} {X : Cx} {W : Wish} {N : List Str} {sc : Scope} {fb : Str → Bool} {n : Nat}
theorem Cxt.var (C : Cxt en X W N sc fb n) {i : Nat} {x : Str} (h : varB N sc i x = true) : X.N[i]? = some x ∧ Vis X.env.scope x ∧ (x == ("__debug__" : Str)) = false ∧ (x == ("__classdict__" : Str)) = false := by
  simp only [varB, Bool.and_eq_true, Bool.or_eq_true, Bool.not_eq_true'] at h
  obtain ⟨h1, h2, h3, h4⟩ := h
  refine ⟨by rw [C.hN]; exact eq_of_beq h1, ?_, h3, h4⟩
  rw [C.hs]
  rcases h2 with h | h | h
  · exact .inl (kindB_ok h)
  · exact .inr (.inl (kindB_ok h))
  · exact .inr (.inr (kindB_ok h))
theorem Cxt.set (C : Cxt en X W N sc fb n) {i : Nat} {x : Str} (h : setB N sc fb i x = true) : X.N[i]? = some x ∧ Loc X.env.scope x ∧ (X.fn x = true ∨ X.env.scope.names.lookup x = some .local) := by
  simp only [setB, Bool.and_eq_true, Bool.or_eq_true] at h
  refine ⟨by rw [C.hN]; exact eq_of_beq h.1, ?_⟩
  rw [C.hs]
  exact h.2.elim (fun h => ⟨.inl (kindB_ok h), .inr (kindB_ok h)⟩) fun h => ⟨.inr (kindB_ok h.1), .inl (C.hf _ h.2)⟩
theorem Cxt.glo (C : Cxt en X W N sc fb n) {x : Str} (h : gloB sc x = true) : Gl X x ∧ (x == ("__debug__" : Str)) = false ∧ x ≠ "__name__" := by
  simp only [gloB, Bool.and_eq_true, Bool.not_eq_true'] at h
  refine ⟨?_, h.2.1, fun e => by rw [e] at h; exact absurd h.2.2 (by decide)⟩
  show X.env.scope.names.lookup x = _
  rw [C.hs]
  exact kindB_ok h.1
theorem Cxt.free (C : Cxt en X W N sc fb n) {x : Str} (h : en.mg x = none) : X.mg x = none := by rw [C.hm]; exact h
theorem Cxt.hu (C : Cxt en X W N sc fb n) : X.A.units + 200 < cLine := by have := C.room.un; omega
variable {a b c : Expr} {ma mb mc : Ex} {pos : Pos}
theorem e_var (C : Cxt en X W N sc fb n) {i : Nat} {x : Str} (h : varB N sc i x = true) : PE X (.Name x pos) (rdE X.K W (eVar i)) := by
  obtain ⟨h1, h2, h3, h4⟩ := C.var h
  refine PE.weak (pe_var h1 h2 h3 h4) fun σ H Q ⟨ρ, S, ι, st, f⟩ => ?_
  unfold eVar at f
  split at f
  · rename_i v e
    obtain ⟨y, e2, r⟩ := st.en.at_ i v e
    exact ⟨y, e2, f.val st.st r⟩
  · exact f.elim
theorem e_c {e : Expr} {v : Val} {y : V} (h : PE X e (tC y)) (r : ∀ K ι H, VR K ι H v y) : PE X e (rdE X.K W (eC v)) := PE.weak h fun σ H Q ⟨ρ, S, ι, st, f⟩ => Fin.val st.st (r _ _ _) f
theorem e_int {i : Int} {j} : PE X (.Constant (.int i) j pos) (rdE X.K W (eC (.int i))) := e_c pe_int fun _ _ _ => .int i
theorem e_bl {i : Bool} {j} : PE X (.Constant (.bool i) j pos) (rdE X.K W (eC (.bl i))) := e_c pe_bl fun _ _ _ => .bl i
theorem e_non {j} : PE X (.Constant .none j pos) (rdE X.K W (eC .non)) := e_c pe_non fun _ _ _ => .non
theorem e_str {x : Str} {j} : PE X (.Constant (.str x) j pos) (rdE X.K W (eC (.str x))) := e_c pe_str fun _ _ _ => .str x
/-- a constant of the module -/
def GC (K : PySem.W.Frag) (mg : Str → Option Value) (x : Str) (v : Val) : Prop := ∃ u y, mg x = some u ∧ RelV y u ∧ ∀ ι H, VR K ι H v y
theorem e_glob (C : Cxt en X W N sc fb n) {x : Str} {v : Val} (g : GC en.K en.mg x v) (h : gloB sc x = true) : PE X (.Name x pos) (rdE X.K W (eC v)) := by
  rw [← C.hK, ← C.hm] at g
  obtain ⟨u, y, h1, h2, h3⟩ := g
  exact PE.weak (pe_glob (C.glo h).1 h1 h2 (C.glo h).2.1) fun σ H Q ⟨ρ, S, ι, st, f⟩ => Fin.val st.st (h3 _ _) f
theorem rd_two {f : Op2} {σ : L2.St} {H : Hp} {Q : VK} (h : rdE X.K W (eBin f ma mb) σ H Q) : tOp (rd2 X.K W f) (rdE X.K W ma) (rdE X.K W mb) σ H Q := by
  obtain ⟨ρ, S, ι, st, f⟩ := h
  exact ⟨ρ, S, ι, st, f.step fun v S1 ι1 H1 x _ r1 e1 g1 f1 => ⟨ρ, S1, ι1, st.to r1 e1, f1.step fun w S2 ι2 H2 y _ r2 e2 g2 f2 => ⟨S2, ι2, v, w, r2, g1.ext r1.off e2.toExt0, g2, f2⟩⟩⟩
theorem e_bin {f : Op2} {op : Operator} (ho : OpR X (binaryOp op) (rd2 X.K W f)) (ha : PE X a (rdE X.K W ma)) (hb : PE X b (rdE X.K W mb)) : PE X (.BinOp a op b pos) (rdE X.K W (eBin f ma mb)) :=
  PE.weak (pe_op ho ha hb) fun _ _ _ h => rd_two h
theorem e_un {f : Val → Sto → Res Val} {op : UnaryOp} (ho : UnR X (unaryOp op) (rd1 X.K W f)) (ha : PE X a (rdE X.K W ma)) : PE X (.UnaryOp op a pos) (rdE X.K W (eUn f ma)) :=
  PE.weak (pe_un ho ha) fun σ H Q ⟨ρ, S, ι, st, f⟩ => ⟨ρ, S, ι, st, f.step fun v S1 ι1 H1 x _ r1 e1 g1 f1 => ⟨S1, ι1, v, r1, g1, f1⟩⟩
theorem e_cmp {f : Op2} {op : CmpOp} (ho : OpR X (compareOp op) (rd2 X.K W f)) (ha : PE X a (rdE X.K W ma)) (hb : PE X b (rdE X.K W mb)) (hm : behindInMarks op b = false) : PE X (.Compare a [op] [b] pos) (rdE X.K W (eBin f ma mb)) :=
  PE.weak (pe_cmpR ho ha hb hm) fun _ _ _ h => rd_two h
/-- a value's reading as a test's -/
theorem rd_test {m : Ex} {t : TE} (w : ∀ {σ : L2.St} {H : Hp} {Q : VK}, rdE X.K W m σ H Q → t σ H Q) {σ : L2.St} {H : Hp} {Q : Bool → Hp → Prop} (h : rdT X.K W (tVal m) σ H Q) : tTest t σ H Q := by
  obtain ⟨ρ, S, ι, st, f⟩ := h
  refine w ⟨ρ, S, ι, st, f.step fun v S1 ι1 H1 x _ r1 e1 g1 f1 => ?_⟩
  cases v with
  | bl k => cases g1; exact ⟨k, rfl, f1 ι1 H1 k r1 .refl rfl⟩
  | _ => exact f1.elim
theorem t_cmp {f : Op2} {op : CmpOp} (ho : OpR X (compareOp op) (rd2 X.K W f)) (ha : PE X a (rdE X.K W ma)) (hb : PE X b (rdE X.K W mb)) (hm : behindInMarks op b = false) : PT X (.Compare a [op] [b] pos) (rdT X.K W (tVal (eBin f ma mb))) :=
  PT.weak (pt_cmpR ho ha hb hm) fun _ _ _ h => rd_test (fun h => rd_two h) h
theorem t_val {e : Expr} {m : Ex} (h : PE X e (rdE X.K W m)) (he : ∀ whole, isTrue e X.env whole = (do let v ← whole; standAt e.pos; holding [v] (truthy v))) : PT X e (rdT X.K W (tVal m)) :=
  PT.weak (pt_val h he) fun _ _ _ h => rd_test (fun h => h) h
theorem rd_chain {f g : Op2} {σ : L2.St} {H : Hp} {Q : VK} (h : rdE X.K W (eChain f g ma mb mc) σ H Q) : tChain (rd2 X.K W f) (rd2 X.K W g) (rdE X.K W ma) (rdE X.K W mb) (rdE X.K W mc) σ H Q := by
  obtain ⟨ρ, S, ι, st, f⟩ := h
  refine ⟨ρ, S, ι, st, f.step fun v S1 ι1 H1 x _ r1 e1 g1 f1 => ⟨ρ, S1, ι1, st.to r1 e1, f1.step fun w S2 ι2 H2 y _ r2 e2 g2 f2 => ⟨S2, ι2, v, w, r2, g1.ext r1.off e2.toExt0, g2, f2.step fun k S3 ι3 H3 z _ r3 e3 g3 f3 => ?_⟩⟩⟩
  cases k with
  | bl k =>
    cases g3
    cases k with
    | true =>
      refine ⟨true, rfl, ?_⟩
      rw [if_pos rfl]
      have e13 := e1.trans (e2.trans e3)
      exact ⟨ρ, S3, ι3, st.to r3 e13, f3.step fun u S4 ι4 H4 z4 _ r4 e4 g4 f4 => ⟨S4, ι4, w, u, r4, (g2.ext r2.off e3.toExt0).ext r3.off e4.toExt0, g4, f4⟩⟩
    | false => exact ⟨false, rfl, by rw [if_neg Bool.false_ne_true]; exact f3.bool r3⟩
  | _ => exact f3.elim
theorem e_chain {f g : Op2} {op op' : CmpOp} (ho : OpR X (compareOp op) (rd2 X.K W f)) (ho' : OpR X (compareOp op') (rd2 X.K W g)) (ha : PE X a (rdE X.K W ma)) (hb : PE X b (rdE X.K W mb)) (hc : PE X c (rdE X.K W mc)) (hm : lastMarks [op, op'] [b, c] = false) :
    PE X (.Compare a [op, op'] [b, c] pos) (rdE X.K W (eChain f g ma mb mc)) := PE.weak (pe_chain ho ho' ha hb hc hm) fun _ _ _ h => rd_chain h
theorem t_chain {f g : Op2} {op op' : CmpOp} (ho : OpR X (compareOp op) (rd2 X.K W f)) (ho' : OpR X (compareOp op') (rd2 X.K W g)) (ha : PE X a (rdE X.K W ma)) (hb : PE X b (rdE X.K W mb)) (hc : PE X c (rdE X.K W mc)) (hm : lastMarks [op, op'] [b, c] = false) :
    PT X (.Compare a [op, op'] [b, c] pos) (rdT X.K W (tVal (eChain f g ma mb mc))) := PT.weak (pt_chain ho ho' ha hb hc hm) fun _ _ _ h => rd_test (fun h => rd_chain h) h

/-! ### lists of arguments, displays -/
variable {es : List Expr} {ms : Es}
theorem a_nil : PA X [] (rdA X.K W esNil) := PA.weak pa_nil fun σ H Q ⟨ρ, S, ι, st, f⟩ => f ι H [] st.st .refl .nil
theorem a_cons (ha : PE X a (rdE X.K W ma)) (hr : PA X es (rdA X.K W ms)) (hs : starEach (a :: es) X.env = (false, eval a X.env) :: starEach es X.env := by rfl) : PA X (a :: es) (rdA X.K W (esCons ma ms)) :=
  PA.weak (pa_cons ha hr hs) fun σ H Q ⟨ρ, S, ι, st, f⟩ => ⟨ρ, S, ι, st, f.step fun v S1 ι1 H1 x _ r1 e1 g1 f1 => ⟨ρ, S1, ι1, st.to r1 e1, f1.step fun w S2 ι2 H2 y _ r2 e2 g2 f2 => f2 ι2 H2 (x :: y) r2 .refl (.cons (g1.ext r1.off e2.toExt0) g2)⟩⟩
theorem e_tup {k} (h : PA X es (rdA X.K W ms)) : PE X (.Tuple es k pos) (rdE X.K W (eTup ms)) := by
  refine PE.weak (pe_tup h) fun σ H Q ⟨ρ, S, ι, st, f⟩ => ⟨ρ, S, ι, st, f.step fun v S1 ι1 H1 x _ r1 e1 g1 f1 => ?_⟩
  split at f1
  · rename_i hz
    exact ⟨by rw [← VRs.length g1]; exact hz, f1.newT r1 g1⟩
  · exact f1.elim
theorem e_lst (h : PA X es (rdA X.K W ms)) : PE X (.List es pos) (rdE X.K W (eLst ms)) := by
  refine PE.weak (pe_lst h) fun σ H Q ⟨ρ, S, ι, st, f⟩ => ⟨ρ, S, ι, st, f.step fun v S1 ι1 H1 x _ r1 e1 g1 f1 => ?_⟩
  split at f1
  · rename_i hz
    exact ⟨by rw [← VRs.length g1]; exact hz, f1.newL r1 g1⟩
  · exact f1.elim

/-! ### calls of built-ins -/
theorem rd_fn {f : Fn} {σ : L2.St} {H : Hp} {Q : VK} (h : rdE X.K W (eFn f ms) σ H Q) : tCB (rdF X.K W f) (rdA X.K W ms) σ H Q := by
  obtain ⟨ρ, S, ι, st, f⟩ := h
  exact ⟨ρ, S, ι, st, f.step fun v S1 ι1 H1 x _ r1 e1 g1 f1 => ⟨S1, ι1, v, r1, g1, f1⟩⟩
theorem e_fnB (C : Cxt en X W N sc fb n) {x : Str} {p : Pos} {id : String} {f : Fn} (hc : CallR X (.builtin id) (rdF X.K W f)) (hm : en.mg x = none) (hg : gloB sc x = true) (hv : bootBuiltins x = some (.builtin id)) (ha : PA X (a :: es) (rdA X.K W ms))
    (he : starEach (a :: es) X.env = (false, eval a X.env) :: starEach es X.env := by rfl) (hpl : (backTo pos (starEach es X.env)).any (·.1) = false := by rfl) : PE X (.Call (.Name x p) (a :: es) [] pos) (rdE X.K W (eFn f ms)) :=
  PE.weak (pe_callB hc (C.glo hg).1 (C.free hm) hv ha (C.glo hg).2.2 (C.glo hg).2.1 he hpl) fun _ _ _ h => rd_fn h
theorem e_fnT (C : Cxt en X W N sc fb n) {x : Str} {p : Pos} {id : String} {f : Fn} (hc : CallR X (.type id) (rdF X.K W f)) (hm : en.mg x = none) (hg : gloB sc x = true) (hv : bootBuiltins x = some (.type id)) (ha : PA X (a :: es) (rdA X.K W ms))
    (he : starEach (a :: es) X.env = (false, eval a X.env) :: starEach es X.env := by rfl) (hpl : (backTo pos (starEach es X.env)).any (·.1) = false := by rfl) : PE X (.Call (.Name x p) (a :: es) [] pos) (rdE X.K W (eFn f ms)) :=
  PE.weak (pe_callTy hc (C.glo hg).1 (C.free hm) hv ha (C.glo hg).2.2 (C.glo hg).2.1 he hpl) fun _ _ _ h => rd_fn h
theorem e_is (C : Cxt en X W N sc fb n) {p p2 : Pos} {x : Str} (t : Ty) (hm : en.mg "isinstance" = none) (hg : gloB sc "isinstance" = true) (hm2 : en.mg x = none) (hg2 : gloB sc x = true) (hv : bootBuiltins x = some (.type t.nm)) (ha : PE X a (rdE X.K W ma))
    (hs1 : starEach [a, .Name x p2] X.env = (false, eval a X.env) :: starEach [.Name x p2] X.env := by rfl) (hs2 : starEach [.Name x p2] X.env = (false, eval (.Name x p2) X.env) :: starEach [] X.env := by rfl) (hpl : (backTo pos (starEach [.Name x p2] X.env)).any (·.1) = false := by rfl) :
    PE X (.Call (.Name "isinstance" p) [a, .Name x p2] [] pos) (rdE X.K W (eIs ma t)) := by
  refine PE.weak (pe_callB (o_is (W := W) t) (C.glo hg).1 (C.free hm) boot_isinstance (pa_cons ha (pa_cons (pe_bltn (v := .ty t.nm) (C.glo hg2).1 (C.free hm2) hv rfl (C.glo hg2).2.2 (C.glo hg2).2.1) pa_nil hs2) hs1) (C.glo hg).2.2 (C.glo hg).2.1 hs1 hpl) fun σ H Q ⟨ρ, S, ι, st, f⟩ => ?_
  exact ⟨ρ, S, ι, st, f.step fun v S1 ι1 H1 x _ r1 e1 g1 f1 => ⟨x, S1, ι1, v, rfl, r1, g1, f1⟩⟩

/-! ### subscripts, slices -/
theorem PE.or {e : Expr} {t t' : TE} (h : PE X e t) (h' : PE X e t') : PE X e (fun σ H Q => t σ H Q ∨ t' σ H Q) := ⟨fun pins s σ H Q I q => q.elim (h.run pins s σ H Q I) (h'.run pins s σ H Q I)⟩
theorem VRp.get {K : PySem.W.Frag} {ι : Pl} {H : Hp} {k : Key} : ∀ {kvs : List (Val × Val)} {ps : List (Key × V)} {v : Val}, VRp K ι H kvs ps → dGet kvs k = some v → ∃ x, valV ps k = some x ∧ VR K ι H v x
  | _, _, _, .nil, e => by cases e
  | _, _, v, @VRp.cons _ _ _ k' w x vs xs h t, e => by
    have hk : keyOf (keyVal k') = some k' := by cases k' <;> rfl
    by_cases hkk : k' = k
    · subst hkk
      have e1 : dGet ((keyVal k', w) :: vs) k' = some w := by simp [dGet, List.find?_cons, hk]
      rw [e1] at e
      cases e
      exact ⟨x, valV_pos rfl, h⟩
    · have e1 : dGet ((keyVal k', w) :: vs) k = dGet vs k := by simp [dGet, List.find?_cons, hk, hkk]
      rw [e1] at e
      obtain ⟨y, h1, h2⟩ := VRp.get t e
      exact ⟨y, by rw [valV_neg hkk]; exact h1, h2⟩
theorem key_at {K : PySem.W.Frag} {ι : Pl} {H : Hp} {v : Val} {x : V} {k : Key} (r : VR K ι H v x) (e : keyOf v = some k) : x = kV k := by
  cases r <;> simp only [keyOf, Option.some.injEq] at e <;> first | (subst e; rfl) | cases e
theorem e_ix (C : Cxt en X W N sc fb n) (ha : PE X a (rdE X.K W ma)) (hb : PE X b (rdE X.K W mb)) (hp : PlainIx b) : PE X (.Subscript a b pos) (rdE X.K W (eBin ixV ma mb)) := by
  refine PE.weak (PE.or (pe_ix (o_ix (W := W)) ha hb hp) (pe_dget (hu_of C.room) ha hb hp)) fun σ H Q ⟨ρ, S, ι, st, f⟩ => ?_
  cases hm : ma ρ S with
  | bad => simp only [eBin, hm] at f; exact f.elim
  | er e S' => exact .inl ⟨ρ, S, ι, st, by simp only [eBin, hm] at f; rw [hm]; exact f⟩
  | ok v S' =>
    have f' : Fin X.K W (VR X.K) (bnd (mb ρ S') fun y S => ixV v y S) ι H Q := by simpa only [eBin, hm, bnd_ok] using f
    cases hd : isD v with
    | false =>
      refine .inl (rd_two (f := ixL) ⟨ρ, S, ι, st, ?_⟩)
      have e : (fun y S => ixV v y S) = fun y S => ixL v y S := by funext y S; simp only [ixV, hd, Bool.false_eq_true, if_false]
      rw [e] at f'
      simpa only [eBin, hm, bnd_ok] using f'
    | true =>
      refine .inr ⟨ρ, S, ι, st, ?_⟩
      rw [hm]
      intro ι1 H1 x r1 e1 g1
      refine ⟨ρ, S', ι1, st.to r1 e1, Fin.step (Fin.base e1 f') fun y S2 ι2 H2 z _ r2 e2 g2 f2 => ?_⟩
      unfold ixV at f2
      rw [if_pos hd] at f2
      unfold dixV at f2
      split at f2
      · rename_i kvs k ek
        split at f2
        · rename_i w ew
          cases g1.ext r1.off e2.toExt0 with
          | dct h n r =>
            obtain ⟨q, hq, rq⟩ := r.get ew
            exact ⟨_, q, rfl, .inl ⟨_, k, h, key_at g2 ek, hq.symm⟩, f2.val r2 rq⟩
        · exact f2.elim
      · exact f2.elim
theorem PO.weak {e : Option Expr} {t t' : TO} (h : PO X e t) (w : ∀ σ H Q, t' σ H Q → t σ H Q) : PO X e t' := ⟨fun pins s σ H Q I q => h.run pins s σ H Q I (w σ H Q q)⟩
theorem p_none : PO X none (rdP X.K W ptNone) := PO.weak po_none fun σ H Q ⟨ρ, S, ι, st, f⟩ => f ι H none st.st .refl rfl
theorem p_some (h : PE X a (rdE X.K W ma)) : PO X (some a) (rdP X.K W (ptSome ma)) := by
  refine PO.weak (po_some h) fun σ H Q ⟨ρ, S, ι, st, f⟩ => ⟨ρ, S, ι, st, f.step fun v S1 ι1 H1 x _ r1 e1 g1 f1 => ?_⟩
  cases v with
  | int i => cases g1; exact ⟨i, rfl, f1 ι1 H1 _ r1 .refl rfl⟩
  | _ => exact f1.elim
theorem e_sl {lo hi : Option Expr} {ml mh : Pt} {p2 : Pos} (ha : PE X a (rdE X.K W ma)) (hl : PO X lo (rdP X.K W ml)) (hh : PO X hi (rdP X.K W mh)) : PE X (.Subscript a (.Slice lo hi none p2) pos) (rdE X.K W (eSl ma ml mh)) := by
  refine PE.weak (pe_slice (o_sl (W := W)) ha hl hh) fun σ H Q ⟨ρ, S, ι, st, f⟩ => ⟨ρ, S, ι, st, f.step fun v S1 ι1 H1 x _ r1 e1 g1 f1 => ⟨ρ, S1, ι1, st.to r1 e1, f1.step fun l S2 ι2 H2 y _ r2 e2 g2 f2 => ⟨ρ, S2, ι2, st.to r2 (e1.trans e2), f2.step fun h S3 ι3 H3 z _ r3 e3 g3 f3 => ?_⟩⟩⟩
  cases g2; cases g3
  exact ⟨S3, ι3, v, r3, (g1.ext r1.off e2.toExt0).ext r2.off e3.toExt0, f3⟩

/-! ### and, or, not, if else -/
variable {ta tb : Ts} {rest : List Expr}
theorem w_and1 (ha : PT X a (rdT X.K W ta)) : PW X (.BoolOp .And [a] pos) (rdT X.K W ta) := pw_and1 ha
theorem w_or1 (ha : PT X a (rdT X.K W ta)) : PW X (.BoolOp .Or [a] pos) (rdT X.K W ta) := pw_or1 ha
theorem w_and (ha : PT X a (rdT X.K W ta)) (hb : PW X (.BoolOp .And (b :: rest) pos) (rdT X.K W tb)) : PW X (.BoolOp .And (a :: b :: rest) pos) (rdT X.K W (tAnd ta tb)) := by
  refine PW.weak (pw_and ha hb) fun σ H Q ⟨ρ, S, ι, st, f⟩ => ⟨ρ, S, ι, st, f.step fun v S1 ι1 H1 x _ r1 e1 g1 f1 => ?_⟩
  cases g1
  cases v with
  | true => exact ⟨ρ, S1, ι1, st.to r1 e1, f1⟩
  | false => exact f1 ι1 H1 false r1 .refl rfl
theorem w_or (ha : PT X a (rdT X.K W ta)) (hb : PW X (.BoolOp .Or (b :: rest) pos) (rdT X.K W tb)) : PW X (.BoolOp .Or (a :: b :: rest) pos) (rdT X.K W (tOr ta tb)) := by
  refine PW.weak (pw_or ha hb) fun σ H Q ⟨ρ, S, ι, st, f⟩ => ⟨ρ, S, ι, st, f.step fun v S1 ι1 H1 x _ r1 e1 g1 f1 => ?_⟩
  cases g1
  cases v with
  | true => exact f1 ι1 H1 true r1 .refl rfl
  | false => exact ⟨ρ, S1, ι1, st.to r1 e1, f1⟩
theorem t_not (ha : PT X a (rdT X.K W ta)) : PT X (.UnaryOp .Not a pos) (rdT X.K W (tNot ta)) := by
  refine PT.weak (pt_not ha) fun σ H Q ⟨ρ, S, ι, st, f⟩ => ⟨ρ, S, ι, st, f.step fun v S1 ι1 H1 x _ r1 e1 g1 f1 => ?_⟩
  cases g1
  exact f1 ι1 H1 _ r1 .refl rfl
theorem e_one {op} (h : PE X a (rdE X.K W ma)) : PE X (.BoolOp op [a] pos) (rdE X.K W ma) := pe_one h
theorem e_and (ha : PE X a (rdE X.K W ma)) (hb : PE X (.BoolOp .And (b :: rest) pos) (rdE X.K W mb)) : PE X (.BoolOp .And (a :: b :: rest) pos) (rdE X.K W (eAnd ma mb)) := by
  refine PE.weak (pe_and ha hb) fun σ H Q ⟨ρ, S, ι, st, f⟩ => ⟨ρ, S, ι, st, f.step fun v S1 ι1 H1 x _ r1 e1 g1 f1 => ?_⟩
  cases v with
  | bl k =>
    cases g1
    refine ⟨k, rfl, ?_⟩
    cases k with
    | true => exact ⟨ρ, S1, ι1, st.to r1 e1, f1⟩
    | false => exact f1.bool r1
  | _ => exact f1.elim
theorem e_or (ha : PE X a (rdE X.K W ma)) (hb : PE X (.BoolOp .Or (b :: rest) pos) (rdE X.K W mb)) : PE X (.BoolOp .Or (a :: b :: rest) pos) (rdE X.K W (eOr ma mb)) := by
  refine PE.weak (pe_or ha hb) fun σ H Q ⟨ρ, S, ι, st, f⟩ => ⟨ρ, S, ι, st, f.step fun v S1 ι1 H1 x _ r1 e1 g1 f1 => ?_⟩
  cases v with
  | bl k =>
    cases g1
    refine ⟨k, rfl, ?_⟩
    cases k with
    | true => exact f1.bool r1
    | false => exact ⟨ρ, S1, ι1, st.to r1 e1, f1⟩
  | _ => exact f1.elim
theorem e_not (ha : PE X a (rdE X.K W ma)) : PE X (.UnaryOp .Not a pos) (rdE X.K W (eNot ma)) := by
  refine PE.weak (pe_not ha) fun σ H Q ⟨ρ, S, ι, st, f⟩ => ⟨ρ, S, ι, st, f.step fun v S1 ι1 H1 x _ r1 e1 g1 f1 => ?_⟩
  cases v with
  | bl k => cases g1; exact ⟨k, rfl, f1.bool r1⟩
  | _ => exact f1.elim
theorem e_if (hc : PT X c (rdT X.K W ta)) (ha : PE X a (rdE X.K W ma)) (hb : PE X b (rdE X.K W mb)) : PE X (.IfExp c a b pos) (rdE X.K W (eIf ta ma mb)) := by
  refine PE.weak (pe_ifExp hc ha hb) fun σ H Q ⟨ρ, S, ι, st, f⟩ => ⟨ρ, S, ι, st, f.step fun v S1 ι1 H1 x _ r1 e1 g1 f1 => ?_⟩
  cases g1
  cases v with
  | true => exact ⟨ρ, S1, ι1, st.to r1 e1, f1⟩
  | false => exact ⟨ρ, S1, ι1, st.to r1 e1, f1⟩

/-! ### calls of the program's own defs -/
abbrev W0 : Wish := fun _ _ _ _ => False
/-- what a def promises -/
def spC (K : PySem.W.Frag) (np : Nat) (c : List Val → Sto → Res Val) : Sp := fun vs H Q _ => ∃ S ι as, as.length = np ∧ RelS K S ι H ∧ VRs K ι H as vs ∧ Fin K W0 (VR K) (c as S) ι H Q
structure CallOk (P : Program) (w : World) (K : PySem.W.Frag) (mg : Str → Option Value) (base : Heap) (n : Nat) (c : CallF) (f : Str) (np : Nat) : Prop where
  ok : ∃ a fd ps, FnOk P w K mg base CX0 n a fd ps (spC K np (c f)) ∧ mg f = some (.ref a) ∧ PySem.W.keepIn K (.ref a) = true ∧ Binds K fd ps []
  len : ∀ as S, as.length ≠ np → c f as S = .bad
theorem rd_call {P : Program} {w : World} {mg : Str → Option Value} {base : Heap} {cf : CallF} {f : Str} {np m : Nat} (k : CallOk P w X.K mg base m cf f np) {E : XK} {σ : L2.St} {H : Hp} {Q : VK} (h : rdE X.K W0 (eCall cf f ms) σ H Q) : tCall (spC X.K np (cf f)) [] E (rdA X.K W0 ms) σ H Q := by
  obtain ⟨ρ, S, ι, st, f⟩ := h
  refine ⟨ρ, S, ι, st, f.step fun v S1 ι1 H1 x _ r1 e1 g1 f1 => ?_⟩
  rw [List.append_nil]
  by_cases hl : v.length = np
  · exact ⟨S1, ι1, v, hl, r1, g1, f1⟩
  · rw [k.len v S1 hl] at f1
    exact f1.elim
theorem e_call (C : Cxt en X W0 N sc fb n) {cf : CallF} {f : Str} {np : Nat} {p : Pos} (k : CallOk en.P en.w en.K en.mg en.base n cf f np) (hg : gloB sc f = true) (ha : PA X (a :: es) (rdA X.K W0 ms))
    (he : starEach (a :: es) X.env = (false, eval a X.env) :: starEach es X.env := by rfl) (hpl : (backTo pos (starEach es X.env)).any (·.1) = false := by rfl) : PE X (.Call (.Name f p) (a :: es) [] pos) (rdE X.K W0 (eCall cf f ms)) := by
  rw [← C.hP, ← C.hw, ← C.hK, ← C.hm, ← C.hb] at k
  obtain ⟨ad, fd, ps, F, hm, hk, hb⟩ := k.ok
  exact PE.weak (pe_call F C.room (C.glo hg).1 hm hk hb .nil pass0 ha (C.glo hg).2.1 he hpl) fun _ _ _ h => rd_call k h
theorem e_call0 (C : Cxt en X W0 N sc fb n) {cf : CallF} {f : Str} {np : Nat} {p : Pos} (k : CallOk en.P en.w en.K en.mg en.base n cf f np) (hg : gloB sc f = true) : PE X (.Call (.Name f p) [] [] pos) (rdE X.K W0 (eCall cf f esNil)) := by
  rw [← C.hP, ← C.hw, ← C.hK, ← C.hm, ← C.hb] at k
  obtain ⟨ad, fd, ps, F, hm, hk, hb⟩ := k.ok
  refine PE.weak (pe_call0 F C.room (C.glo hg).1 hm hk hb .nil pass0 (C.glo hg).2.1) fun σ H Q h => ?_
  obtain ⟨ρ, S, ι, st, h⟩ := h
  show spC X.K np (cf f) ([] ++ []) H Q (fun _ _ _ => False)
  by_cases hl : ([] : List Val).length = np
  · exact ⟨S, ι, [], hl, st.st, .nil, h⟩
  · have e : cf f [] S = .bad := k.len [] S hl
    replace h : Fin X.K W0 (VR X.K) (cf f [] S) ι H Q := h
    rw [e] at h
    exact h.elim
end
end TW
/-! TW.Stm: methods of lists, statements, loops. -/
namespace TW
open PySem PySem.Spec PyProof.Rows L2

section
variable {en : En} {X : Cx} {W : Wish} {N : List Str} {sc : Scope} {fb : Str → Bool} {n : Nat} {a b c : Expr} {ma mb mc : Ex} {pos : Pos}
/-! ### new lists of the store -/
theorem VR.undr {K : PySem.W.Frag} {ι : Pl} {H : Hp} : ∀ {v : Val} {x : V}, VR K ι H v x → v.und ι.p.length = true
  | _, _, r => by
    revert r
    exact fun r => VR.rec (motive_1 := fun v x _ => v.und ι.p.length = true) (motive_2 := fun vs xs _ => Val.unds ι.p.length vs = true) (motive_3 := fun vs xs _ => Val.undp ι.p.length vs = true)
      rfl (fun _ => rfl) (fun _ => rfl) (fun _ => rfl) (fun _ _ ih => by simpa [Val.und] using ih) (fun _ _ _ ih => by simpa [Val.und] using ih) (fun _ _ _ ih => by simpa [Val.und] using ih)
      (fun h => by simp only [Val.und, decide_eq_true_eq]; exact (List.getElem?_eq_some_iff.mp h).1) (fun _ => rfl) rfl (fun _ _ i1 i2 => by simp [Val.unds, i1, i2]) rfl
      (fun {k v x vs xs} _ _ i1 i2 => by simp only [Val.undp, Bool.and_eq_true]; exact ⟨by cases k <;> rfl, i1, i2⟩) r
theorem VRs.undr {K : PySem.W.Frag} {ι : Pl} {H : Hp} : ∀ {vs : List Val} {xs : List V}, VRs K ι H vs xs → Val.unds ι.p.length vs = true
  | _, _, .nil => rfl
  | _, _, .cons h t => by simp [Val.unds, VR.undr h, VRs.undr t]
theorem Fin.push {K : PySem.W.Frag} {S : Sto} {ι : Pl} {H : Hp} {Q : VK} {vs : List Val} {xs : List V} (rs : RelS K S ι H) (r : VRs K ι H vs xs) (f : Fin K W (VR K) (.ok (.ref S.length) (S ++ [.lst vs])) ι H Q) :
    ∀ p, H p = none → Q (.ref p) (upd H p (.lst xs)) := fun p hp =>
  f _ _ _ (rs.push hp (.lst upd_same (r.ext rs.off (Ext0.push hp)) (by rw [← rs.len]; exact r.undr))) (.push rs hp) (.ref (by show (ι.p ++ [p])[S.length]? = some p; rw [← rs.len]; simp))
theorem e_newL {es : List Expr} {ms : Es} (h : PA X es (rdA X.K W ms)) : PE X (.List es pos) (rdE X.K W (eNew (eLst ms))) := by
  refine PE.weak (pe_lst h) fun σ H Q ⟨ρ, S, ι, st, f⟩ => ⟨ρ, S, ι, st, ?_⟩
  replace f : Fin X.K W (VR X.K) (bnd (ms ρ S) fun xs S => bnd (if xs.length ≤ sizeLine then .ok (.lst xs) S else .bad) pushV) ι H Q := by
    have e : eNew (eLst ms) ρ S = (bnd (ms ρ S) fun xs S => bnd (if xs.length ≤ sizeLine then .ok (.lst xs) S else .bad) pushV) := by
      unfold eNew eLst
      cases ms ρ S <;> rfl
    rw [e] at f
    exact f
  refine f.step fun v S1 ι1 H1 x _ r1 e1 g1 f1 => ?_
  split at f1
  · rename_i hz
    exact ⟨by rw [← VRs.length g1]; exact hz, Fin.push r1 g1 f1⟩
  · exact f1.elim
theorem o_listN : CallR X (.type "list") (rdF X.K W listN) := by
  intro pins s σ H xs us Q I rv ⟨S, ι, as, rs, ra, f⟩
  unfold listN listV at f
  split at f
  · obtain ⟨y, rfl, r⟩ := ra.one
    obtain ⟨p, rfl, h1⟩ := scr_at r
    exact call_list_of pins s σ H _ us Q I rv ⟨_, _, rfl, .inl h1, Fin.push rs (scr_vals _) f⟩
  · obtain ⟨y, rfl, r⟩ := ra.one
    split at f
    · rename_i ws e
      obtain ⟨p, zs, rfl, h1, r1⟩ := asQ_at rs r e
      exact call_list_of pins s σ H _ us Q I rv ⟨_, _, rfl, h1, Fin.push rs r1 f⟩
    · exact f.elim
  · exact f.elim

/-! ### methods of lists -/
/-- an object of the store is changed -/
theorem Fin.put {K : PySem.W.Frag} {S : Sto} {ι : Pl} {H : Hp} {Q : VK} {vs : List Val} {xs : List V} {i : Nat} {p : Addr} {v : Val} {y : V} (rs : RelS K S ι H) (hi : ι.p[i]? = some p) (r : VRs K ι H vs xs) (b : Val.unds i vs = true) (rv : VR K ι H v y)
    (f : Fin K W (VR K) (.ok v (S.set i (.lst vs))) ι H Q) : Q y (upd H p (.lst xs)) := by
  have e : Ext ι H ι (upd H p (.lst xs)) := .put rs (List.mem_of_getElem? hi)
  exact f ι _ _ (rs.put hi (.lst upd_same (r.ext rs.off e.toExt0) b)) e (rv.ext rs.off e.toExt0)
theorem ref_at {K : PySem.W.Frag} {S : Sto} {ι : Pl} {H : Hp} {i : Nat} {x : V} {vs : List Val} (rs : RelS K S ι H) (r : VR K ι H (.ref i) x) (e : S[i]? = some (.lst vs)) : ∃ p xs, x = .ref p ∧ ι.p[i]? = some p ∧ H p = some (.lst xs) ∧ VRs K ι H vs xs ∧ Val.unds i vs = true := by
  cases r with
  | ref h =>
    have q := rs.ob i _ _ e h
    cases q with
    | lst h1 r1 b1 => exact ⟨_, _, rfl, h, h1, r1, b1⟩
theorem unds_append {k : Nat} : ∀ {vs ws : List Val}, Val.unds k (vs ++ ws) = (Val.unds k vs && Val.unds k ws)
  | [], ws => rfl
  | v :: vs, ws => by rw [List.cons_append, Val.unds, Val.unds, unds_append, Bool.and_assoc]
theorem unds_iff {k : Nat} : ∀ {vs : List Val}, Val.unds k vs = true ↔ ∀ v ∈ vs, v.und k = true
  | [] => by simp [Val.unds]
  | v :: vs => by simp [Val.unds, unds_iff (vs := vs)]
theorem VRs.eraseIdx {K : PySem.W.Frag} {ι : Pl} {H : Hp} : ∀ {vs : List Val} {xs : List V} (n : Nat), VRs K ι H vs xs → VRs K ι H (vs.eraseIdx n) (xs.eraseIdx n)
  | _, _, _, .nil => .nil
  | _, _, 0, .cons _ t => t
  | _, _, n + 1, .cons h t => .cons h (VRs.eraseIdx n t)
theorem VRs.dropLast {K : PySem.W.Frag} {ι : Pl} {H : Hp} {vs : List Val} {xs : List V} (r : VRs K ι H vs xs) : VRs K ι H vs.dropLast xs.dropLast := by
  rw [List.dropLast_eq_take, List.dropLast_eq_take, r.length]
  exact r.take _
theorem tyL {K : PySem.W.Frag} {H : Hp} {p : Addr} {xs : List V} (h : H p = some (.lst xs)) : tyV K "list" (.ref p) H := .inl ⟨rfl, _, .of h⟩
/-- the receiver's list, still there behind the argument -/
theorem recv_at {K : PySem.W.Frag} {S S2 : Sto} {ι ι2 : Pl} {H H2 : Hp} {i : Nat} {x : V} {vs : List Val} (rs : RelS K S ι H) (r : VR K ι H (.ref i) x) (e2 : Ext ι H ι2 H2) (rs2 : RelS K S2 ι2 H2) (e : S2[i]? = some (.lst vs)) : ∃ p xs, x = .ref p ∧ ι2.p[i]? = some p ∧ H2 p = some (.lst xs) ∧ VRs K ι2 H2 vs xs ∧ Val.unds i vs = true :=
  ref_at rs2 (r.ext rs.off e2.toExt0) e
/-- what stands at a store's place is a list at each time, or a dict .. -/
theorem place_ty {K : PySem.W.Frag} {S : Sto} {ι : Pl} {H : Hp} {i : Nat} {x : V} (rs : RelS K S ι H) (r : VR K ι H (.ref i) x) : ∃ vs, S[i]? = some (.lst vs) := by
  cases r with
  | ref h =>
    have hs : i < S.length := by rw [← rs.len]; exact (List.getElem?_eq_some_iff.mp h).1
    have q := rs.ob i _ _ (List.getElem?_eq_getElem hs) h
    rw [List.getElem?_eq_getElem hs]
    generalize S[i] = o at q
    cases q with
    | lst h1 r1 b1 => exact ⟨_, rfl⟩
/-- methods by values -/
def rdM (K : PySem.W.Frag) (W : Wish) (f : Mt) : V → List V → Hp → VK → Prop := fun x xs H Q => ∃ S ι a as, RelS K S ι H ∧ VR K ι H a x ∧ VRs K ι H as xs ∧ Fin K W (VR K) (f a as S) ι H Q
def CkT (K : PySem.W.Frag) (T : String) (ck : Val → Sto → Bool) : Prop := ∀ S ι H a x, RelS K S ι H → VR K ι H a x → ck a S = true → tyV K T x H
theorem ckL_ty {K : PySem.W.Frag} : CkT K "list" ckL := fun S ι H a x rs r h => by
  unfold ckL at h
  split at h
  · split at h
    · rename_i vs e
      obtain ⟨p, xs, rfl, _, hh, _⟩ := ref_at rs r e
      exact tyL hh
    · cases h
  · cases h
theorem e_m {T id : String} {name : Str} {ck : Val → Sto → Bool} {f : Mt} {ap : Pos} {es : List Expr} {ms : Es} (pa : PlainAttrs T) (slot : Slot T name id) (hty : typeOf (.builtin id) = pure (.type "method_descriptor")) (hm : MtR X id (rdM X.K W f)) (hck : CkT X.K T ck)
    (ha : PE X a (rdE X.K W ma)) (hb : PA X (b :: es) (rdA X.K W ms)) (hbase : attributeBase a name X.env (eval a X.env) = eval a X.env := by rfl)
    (hfew : ((backTo pos (starEach (b :: es) X.env)).all (fun x => !x.1) && (backToKw pos (keywordEach [] X.env)).all (fun x => x.1.isSome) && decide ((b :: es).length + ([] : List Keyword).length + (if ([] : List Keyword).isEmpty then 0 else 1) < 30)) = true := by rfl)
    (hline : (ap.endLine == pos.line) = true := by rfl) (hs : starEach (b :: es) X.env = (false, eval b X.env) :: starEach es X.env := by rfl) (hpl : (backTo pos (starEach es X.env)).any (·.1) = false := by rfl) :
    PE X (.Call (.Attribute a name ap) (b :: es) [] pos) (rdE X.K W (eM ck f ma ms)) := by
  refine PE.weak (pe_bm pa slot hty hm ha hb hbase hfew hline hs hpl) fun σ H Q ⟨ρ, S, ι, st, f⟩ => ⟨ρ, S, ι, st, f.step fun v S1 ι1 H1 x _ r1 e1 g1 f1 => ?_⟩
  split at f1
  · rename_i hc
    exact ⟨hck _ _ _ _ _ r1 g1 hc, ρ, S1, ι1, st.to r1 e1, f1.step fun ys S2 ι2 H2 zs _ r2 e2 g2 f2 => ⟨S2, ι2, v, ys, r2, g1.ext r1.off e2.toExt0, g2, f2⟩⟩
  · exact f1.elim
theorem e_m0 {T id : String} {name : Str} {ck : Val → Sto → Bool} {f : Mt} {ap : Pos} (pa : PlainAttrs T) (slot : Slot T name id) (hty : typeOf (.builtin id) = pure (.type "method_descriptor")) (hm : MtR X id (rdM X.K W f)) (hck : CkT X.K T ck)
    (ha : PE X a (rdE X.K W ma)) (hbase : attributeBase a name X.env (eval a X.env) = eval a X.env := by rfl) (hline : (ap.endLine == pos.line) = true := by rfl) :
    PE X (.Call (.Attribute a name ap) [] [] pos) (rdE X.K W (eM ck f ma esNil)) := by
  refine PE.weak (pe_bm0 pa slot hty hm ha hbase hline) fun σ H Q ⟨ρ, S, ι, st, f⟩ => ⟨ρ, S, ι, st, f.step fun v S1 ι1 H1 x _ r1 e1 g1 f1 => ?_⟩
  split at f1
  · rename_i hc
    exact ⟨hck _ _ _ _ _ r1 g1 hc, S1, ι1, v, [], r1, g1, .nil, f1⟩
  · exact f1.elim
theorem o_app : MtR X "list.append" (rdM X.K W appM) := by
  intro pins s σ H x xs v us Q I rx rv ⟨S, ι, a, as, rs, ra, ras, f⟩
  unfold appM at f
  split at f
  · split at f
    · rename_i vs hS
      obtain ⟨z, rfl, rz⟩ := VRs.one ras
      obtain ⟨p, ys, rfl, hi, hh, rr, bb⟩ := ref_at rs ra hS
      split at f
      · rename_i hc
        simp only [Bool.and_eq_true, decide_eq_true_eq] at hc
        exact mt_append pins s σ H _ _ v us Q I rx rv ⟨_, _, _, rfl, rfl, hh, by rw [← rr.length]; exact hc.2, Fin.put rs hi (rr.snoc rz) (by rw [unds_append]; simp [bb, Val.unds, hc.1]) .non f⟩
      · exact False.elim f
    · exact False.elim f
  · exact False.elim f
theorem o_ext : MtR X "list.extend" (rdM X.K W extM) := by
  intro pins s σ H x xs v us Q I rx rv ⟨S, ι, a, as, rs, ra, ras, f⟩
  unfold extM at f
  split at f
  · split at f
    · rename_i vs hS
      obtain ⟨z, rfl, rz⟩ := VRs.one ras
      obtain ⟨p, ys, rfl, hi, hh, rr, bb⟩ := ref_at rs ra hS
      split at f
      · rename_i ws e
        obtain ⟨q, zs, rfl, h2, r2⟩ := asL_at rs rz e
        split at f
        · rename_i hc
          simp only [Bool.and_eq_true, decide_eq_true_eq] at hc
          exact mt_extend pins s σ H _ _ v us Q I rx rv ⟨_, _, _, _, rfl, rfl, hh, h2, by rw [← rr.length, ← r2.length]; exact hc.2, Fin.put rs hi (rr.append r2) (by rw [unds_append, bb, hc.1]; rfl) .non f⟩
        · exact False.elim f
      · exact False.elim f
    · exact False.elim f
  · exact False.elim f
theorem o_pop : MtR X "list.pop" (rdM X.K W popM) := by
  intro pins s σ H x xs v us Q I rx rv ⟨S, ι, a, as, rs, ra, ras, f⟩
  unfold popM at f
  split at f
  · split at f
    · rename_i vs hS
      cases ras
      obtain ⟨p, ys, rfl, hi, hh, rr, bb⟩ := ref_at rs ra hS
      split at f
      · rename_i y e
        obtain ⟨z, hz, rz⟩ := rr.get e
        rw [rr.length] at hz
        exact mt_pop pins s σ H _ _ v us Q I rx rv ⟨_, _, _, rfl, rfl, hh, hz, Fin.put rs hi rr.dropLast (unds_iff.mpr fun w hw => unds_iff.mp bb w ((List.dropLast_sublist _).subset hw)) rz f⟩
      · exact False.elim f
    · exact False.elim f
  · exact False.elim f
theorem o_popAt : MtR X "list.pop" (rdM X.K W popAtM) := by
  intro pins s σ H x xs v us Q I rx rv ⟨S, ι, a, as, rs, ra, ras, f⟩
  unfold popAtM at f
  split at f
  · split at f
    · rename_i vs hS
      obtain ⟨z, rfl, rz⟩ := VRs.one ras
      cases rz
      obtain ⟨p, ys, rfl, hi, hh, rr, bb⟩ := ref_at rs ra hS
      split at f
      · rename_i k e
        split at f
        · rename_i y e2
          split at f
          · rename_i hc
            obtain ⟨z, hz, rz⟩ := rr.get e2
            rw [rr.length] at e
            exact mt_popAt pins s σ H _ _ v us Q I rx rv ⟨_, _, _, k, _, rfl, rfl, hh, by omega, by omega, (ixN_seq e).1, hz, Fin.put rs hi (rr.eraseIdx k) (unds_iff.mpr fun w hw => unds_iff.mp bb w ((List.eraseIdx_sublist _ _).subset hw)) rz f⟩
          · exact False.elim f
        · exact False.elim f
      · exact False.elim f
    · exact False.elim f
  · exact False.elim f

/-! ### statements -/
variable {st : Stmt} {rest : List Stmt} {m m2 : Stm}
theorem s_nil : PSs X [] (rdS X.K W sNext) := PSs.weak pss_nil fun D σ H ⟨ρ, S, ι, s, f⟩ => f ι H σ s .refl
theorem FinS.seq {K : PySem.W.Frag} {r : SR} {b : Stm} {ι : Pl} {H : Hp} {D : Ends} (h : FinS K W (sThen r b) ι H D) : FinS K W r ι H { D with nx := rdS K W b D } := by
  cases r with
  | nx ρ S => exact fun ι' H' σ' s e => ⟨ρ, S, ι', s, FinS.base e h⟩
  | rt v S => exact h
  | bk ρ S => exact h
  | ct ρ S => exact h
  | er e S => exact h
  | bad => exact h
theorem s_cons (h1 : PS X st (rdS X.K W m)) (h2 : PSs X rest (rdS X.K W m2)) : PSs X (st :: rest) (rdS X.K W (sSeq m m2)) :=
  PSs.weak (pss_cons h1 h2) fun D σ H ⟨ρ, S, ι, s, f⟩ => ⟨ρ, S, ι, s, FinS.seq f⟩
theorem s_one (h1 : PS X st (rdS X.K W m)) : PSs X [st] (rdS X.K W m) := pss_one h1
theorem s_pass : PS X (.Pass pos) (rdS X.K W sNext) := PS.weak ps_pass fun D σ H ⟨ρ, S, ι, s, f⟩ => f ι H σ s .refl
theorem s_break : PS X (.Break pos) (rdS X.K W sBreak) := PS.weak ps_break fun D σ H ⟨ρ, S, ι, s, f⟩ => f ι H σ s .refl
theorem s_cont : PS X (.Continue pos) (rdS X.K W sCont) := PS.weak ps_continue fun D σ H ⟨ρ, S, ι, s, f⟩ => f ι H σ s .refl
theorem s_ret (ha : PE X a (rdE X.K W ma)) : PS X (.Return (some a) pos) (rdS X.K W (sRet ma)) :=
  PS.weak (ps_ret ha) fun D σ H ⟨ρ, S, ι, s, f⟩ => ⟨ρ, S, ι, s, FinS.step f fun v S1 ι1 H1 x _ r1 e1 g1 f1 => f1 ι1 H1 x r1 .refl g1⟩
theorem s_retN : PS X (.Return none pos) (rdS X.K W sRetN) := PS.weak ps_retN fun D σ H ⟨ρ, S, ι, s, f⟩ => f ι H .non s.st .refl .non
theorem s_expr (ha : PE X a (rdE X.K W ma)) (hs : swapsWith a none pos.line X.env = pure false := by rfl) : PS X (.Expr a pos) (rdS X.K W (sExpr ma)) :=
  PS.weak (ps_expr ha hs) fun D σ H ⟨ρ, S, ι, s, f⟩ => ⟨ρ, S, ι, s, FinS.step f fun v S1 ι1 H1 x _ r1 e1 g1 f1 => f1 ι1 H1 σ (s.to r1 e1) .refl⟩
theorem s_if {c : Expr} {as bs : List Stmt} {tc : Ts} (hc : PT X c (rdT X.K W tc)) (ha : PSs X as (rdS X.K W m)) (hb : PSs X bs (rdS X.K W m2)) : PS X (.If c as bs pos) (rdS X.K W (sIf tc m m2)) :=
  PS.weak (ps_if hc ha hb) fun D σ H ⟨ρ, S, ι, s, f⟩ => ⟨ρ, S, ι, s, FinS.step f fun v S1 ι1 H1 x _ r1 e1 g1 f1 => by
    cases g1
    cases v with
    | true => exact ⟨ρ, S1, ι1, s.to r1 e1, f1⟩
    | false => exact ⟨ρ, S1, ι1, s.to r1 e1, f1⟩⟩
/-- targets: is, the slots that they store -/
theorem wipe_set_in {i : Nat} {x : Option V} : ∀ {js : List Nat} {σ : L2.St}, i ∈ js → L2.wipe (σ.set i x) js = L2.wipe σ js := by
  have out : ∀ (js : List Nat) (σ : L2.St), i ∉ js → L2.wipe (σ.set i x) js = (L2.wipe σ js).set i x := by
    intro js
    induction js with
    | nil => intro σ _; rfl
    | cons j js ih =>
      intro σ h
      simp only [List.mem_cons, not_or] at h
      simp only [L2.wipe]
      rw [ih σ h.2, List.set_comm _ _ h.1]
  intro js
  induction js with
  | nil => intro σ h; cases h
  | cons j js ih =>
    intro σ h
    simp only [L2.wipe]
    by_cases hj : i ∈ js
    · rw [ih hj]
    · have e : i = j := by
        rcases List.mem_cons.mp h with e | e
        · exact e
        · exact absurd e hj
      subst e
      rw [out js σ hj, List.set_set]
theorem wipe_wipe (σ : L2.St) : ∀ (js ks : List Nat), (∀ j ∈ js, j ∈ ks) → L2.wipe (L2.wipe σ js) ks = L2.wipe σ ks
  | [], ks, _ => rfl
  | j :: js, ks, h => by
    simp only [L2.wipe]
    rw [wipe_set_in (h j List.mem_cons_self), wipe_wipe σ js ks fun k m => h k (List.mem_cons_of_mem _ m)]
def Same (is : List Nat) (σ σ' : L2.St) : Prop := ∀ js : List Nat, (∀ i ∈ is, i ∈ js) → L2.wipe σ' js = L2.wipe σ js
def rdG (K : PySem.W.Frag) (is : List Nat) (g : Tg) : TG := fun x σ H Q => ∃ ρ S ι a, Sta K ρ S ι σ H ∧ VR K ι H a x ∧ ∃ ρ', g a ρ = some ρ' ∧ ∀ σ', Sta K ρ' S ι σ' H → Same is σ σ' → Q σ' H
theorem PG.weak {tg : Expr} {t t' : TG} (h : PG X tg t) (w : ∀ x σ H Q, t' x σ H Q → t x σ H Q) : PG X tg t' := ⟨fun pins s σ H v u Q I r q => h.run pins s σ H v u Q I r (w v σ H Q q)⟩
theorem PGs.weak {tg : List Expr} {t t' : TGs} (h : PGs X tg t) (w : ∀ x σ H Q, t' x σ H Q → t x σ H Q) : PGs X tg t' := ⟨fun pins s σ H v u Q I r q => h.run pins s σ H v u Q I r (w v σ H Q q)⟩
theorem g_name (C : Cxt en X W N sc fb n) {i : Nat} {x : Str} (h : setB N sc fb i x = true) : PG X (.Name x pos) (rdG X.K [i] (gName i)) := by
  obtain ⟨h1, h2, hf'⟩ := C.set h
  refine PG.weak (pg_name (by rw [C.hN]; exact C.nd) h1 h2 hf') fun x σ H Q ⟨ρ, S, ι, a, s, r, ρ', e, q⟩ => ?_
  simp only [gName, Option.some.injEq] at e
  subst e
  exact q _ ⟨s.st, s.en.set i r⟩ fun js h => wipe_set_in (h i (by simp))
def rdGs (K : PySem.W.Frag) (is : List Nat) : TGs := fun xs σ H Q => ∃ ρ S ι as, Sta K ρ S ι σ H ∧ VRs K ι H as xs ∧ ∃ ρ', sets ρ is as = some ρ' ∧ ∀ σ', Sta K ρ' S ι σ' H → Same is σ σ' → Q σ' H
theorem gs_nil : PGs X [] (rdGs X.K []) := PGs.weak pgs_nil fun xs σ H Q ⟨ρ, S, ι, as, s, r, ρ', e, q⟩ => by
  cases r with
  | nil =>
    simp only [sets, Option.some.injEq] at e
    subst e
    exact ⟨rfl, q σ s fun _ _ => rfl⟩
  | cons _ _ => cases e
theorem gs_cons {i : Nat} {is : List Nat} {e : Expr} {es : List Expr} (h1 : PG X e (rdG X.K [i] (gName i))) (h2 : PGs X es (rdGs X.K is)) (hs : (assignEach (e :: es) X.env).map (·.2) = assign e X.env :: (assignEach es X.env).map (·.2) := by rfl) : PGs X (e :: es) (rdGs X.K (i :: is)) :=
  PGs.weak (pgs_cons h1 h2 hs) fun xs σ H Q ⟨ρ, S, ι, as, s, r, ρ', e, q⟩ => by
    cases r with
    | nil => cases e
    | cons r1 r2 => exact ⟨_, _, rfl, ρ, S, ι, _, s, r1, _, rfl, fun σ' s' w1 => ⟨_, S, ι, _, s', r2, ρ', e, fun σ2 s2 w2 => q σ2 s2 fun js h => (w2 js fun k m => h k (List.mem_cons_of_mem _ m)).trans (w1 js fun k m => h k (by
      simp only [List.mem_singleton] at m
      rw [m]
      exact List.mem_cons_self))⟩⟩
theorem sets_len : ∀ (is : List Nat) (vs : List Val) (ρ : Env) {ρ' : Env}, sets ρ is vs = some ρ' → vs.length = is.length
  | [], [], _, _, _ => rfl
  | [], _ :: _, _, _, e => by cases e
  | _ :: _, [], _, _, e => by cases e
  | i :: is, v :: vs, ρ, _, e => by
    rw [List.length_cons, List.length_cons, sets_len is vs _ e]
theorem g_tup (C : Cxt en X W N sc fb n) {es : List Expr} {k : Nat} {is : List Nat} (h : PGs X es (rdGs X.K is)) (hn : (assignEach es X.env).length = is.length := by rfl) (hst : (assignEach es X.env).findIdx? (·.1) = none := by rfl) : PG X (.Tuple es k pos) (rdG X.K is (gTup is)) := by
  refine PG.weak (pg_tup (n := is.length) C.calm h hn hst) fun x σ H Q ⟨ρ, S, ι, a, s, r, ρ', e, q⟩ => ?_
  unfold gTup at e
  split at e
  · cases r with
    | tup h1 r1 =>
      refine ⟨_, _, rfl, h1, ?_, ρ, S, ι, _, s, r1, ρ', e, q⟩
      rw [← r1.length]
      exact sets_len _ _ _ e
  · cases e
theorem s_set (C : Cxt en X W N sc fb n) {i : Nat} {x : Str} {p : Pos} (h : setB N sc fb i x = true) (ha : PE X a (rdE X.K W ma)) (hs : swapsWith a (some (.Name x p)) pos.line X.env = pure false) : PS X (.Assign [.Name x p] a pos) (rdS X.K W (sSet i ma)) := by
  obtain ⟨h1, h2, hf'⟩ := C.set h
  refine PS.weak (ps_set (by rw [C.hN]; exact C.nd) h1 h2 ha hs hf') fun D σ H ⟨ρ, S, ι, s, f⟩ => ⟨ρ, S, ι, s, FinS.step f fun v S1 ι1 H1 x _ r1 e1 g1 f1 => ?_⟩
  exact f1 ι1 H1 _ ⟨r1, (s.to r1 e1).en.set i g1⟩ .refl
theorem sw_false {elt : Expr} {gs : List Comprehension} {scope : Scope} {pos py : Pos} {y : Str} {l : Nat} {env : PySem.Env} (hy : (env.scope.names.lookup y == some .local) = false) : swapsWith (.ListComp elt gs scope pos) (some (.Name y py)) l env = pure false := by
  have ky : (env.kindOf y == some .local) = false := hy
  unfold swapsWith
  simp only [ky, Bool.and_false, Bool.false_and]
theorem s_sets (C : Cxt en X W N sc fb n) {tg : Expr} {is : List Nat} (hg : PG X tg (rdG X.K is (gTup is))) (ha : PE X a (rdE X.K W ma)) (hs : swapsWithSole [tg] a pos.line X.env = pure false) (hw : swappedStores [tg] a X.env = pure none) (h1 : (assignEach [tg] X.env).map (·.2) = [assign tg X.env]) :
    PS X (.Assign [tg] a pos) (rdS X.K W (sSets is ma)) := by
  refine PS.weak (ps_asg ha hg hs hw h1) fun D σ H ⟨ρ, S, ι, s, f⟩ => ⟨ρ, S, ι, s, FinS.step f fun v S1 ι1 H1 x _ r1 e1 g1 f1 => ⟨ρ, S1, ι1, v, s.to r1 e1, g1, ?_⟩⟩
  unfold gTup
  split at f1
  · split at f1
    · rename_i ρ' e
      exact ⟨ρ', e, fun σ' s' _ => f1 ι1 H1 σ' s' .refl⟩
    · exact f1.elim
  · exact f1.elim
theorem o_put : PSet X (fun o i v H Q => ∃ S ι a b c S', RelS X.K S ι H ∧ VR X.K ι H a o ∧ VR X.K ι H b i ∧ VR X.K ι H c v ∧ setAt a b c S = some S' ∧ ∀ H', RelS X.K S' ι H' → Ext ι H ι H' → Q H') := by
  intro pins s σ H o i v ov iv u Q I ro ri rv ⟨S, ι, a, b, c, S', rs, ra, rb, rc, e, q⟩
  unfold setAt at e
  split at e
  · split at e
    · rename_i vs hS
      split at e
      · rename_i j e2
        split at e
        · rename_i hu
          cases e
          cases rb
          obtain ⟨p, ys, rfl, hi, hh, rr, bb⟩ := ref_at rs ra hS
          have e3 : Ext ι H ι (upd H p (.lst (ys.set j v))) := .put rs (List.mem_of_getElem? hi)
          refine set_list pins s σ H _ _ v ov iv u Q I ro ri rv ⟨p, ys, _, j, rfl, rfl, hh, by rw [← rr.length]; exact e2, q _ (rs.put hi (.lst upd_same ((rr.set rc j).ext rs.off e3.toExt0) ?_)) e3⟩
          refine unds_iff.mpr fun w hw => ?_
          rcases List.mem_or_eq_of_mem_set hw with hw | hw
          · exact unds_iff.mp bb w hw
          · rw [hw]; exact hu
        · cases e
      · cases e
    · cases e
  · cases e
theorem s_put {i : Expr} {o : Expr} {mo mi : Ex} {p : Pos} (ho : PE X o (rdE X.K W mo)) (hi : PE X i (rdE X.K W mi)) (ha : PE X a (rdE X.K W ma)) (hv : ∀ v, assign (.Subscript o i p) X.env v = (do
      let ov ← holding [v] (eval o X.env)
      let iv ← holding [v, ov] (eval i X.env)
      standAt p
      holding [v, ov, iv] (setItem ov iv v)
      release [v, ov, iv] [])) (hs : swapsWithSole [.Subscript o i p] a pos.line X.env = pure false) (hw : swappedStores [.Subscript o i p] a X.env = pure none) (h1 : (assignEach [.Subscript o i p] X.env).map (·.2) = [assign (.Subscript o i p) X.env]) :
    PS X (.Assign [.Subscript o i p] a pos) (rdS X.K W (sPut mo mi ma)) := by
  refine PS.weak (ps_asg ha (pg_sub ho hi o_put hv) hs hw h1) fun D σ H ⟨ρ, S, ι, s, f⟩ => ⟨ρ, S, ι, s, FinS.step f fun v S1 ι1 H1 x _ r1 e1 g1 f1 => ?_⟩
  refine ⟨ρ, S1, ι1, s.to r1 e1, FinS.step f1 fun w S2 ι2 H2 y _ r2 e2 g2 f2 => ⟨ρ, S2, ι2, s.to r2 (e1.trans e2), FinS.step f2 fun k S3 ι3 H3 z _ r3 e3 g3 f3 => ?_⟩⟩
  split at f3
  · rename_i S' e
    exact ⟨S3, ι3, w, k, v, S', r3, g2.ext r2.off e3.toExt0, g3, g1.ext r1.off (e2.trans e3).toExt0, e, fun H' r4 e4 => f3 ι3 H' σ (s.to r4 (e1.trans (e2.trans (e3.trans e4)))) e4⟩
  · exact f3.elim
theorem o_ip {op : Operator} {f : Op2} (h : OpR X (inplaceOp op) (rd2 X.K W f)) : PIp X op (rd2 X.K W f) := fun pins s σ H x y v u Q I rx ry q => h pins s σ H x y v u Q I rx ry q
theorem ip_int {f : Int → Int → Int} {op : Operator} {F : Op2} (hF : ∀ x y S, F x y S = (match x, y with | .int i, .int j => .ok (.int (f i j)) S | _, _ => .bad)) (h : PIp X op (ipI f)) : PIp X op (rd2 X.K W F) := by
  intro pins s σ H x y v u Q I rx ry ⟨S, ι, a, b, rs, ra, rb, g⟩
  rw [hF] at g
  split at g
  · cases ra; cases rb
    exact h pins s σ H _ _ v u Q I rx ry ⟨_, _, rfl, rfl, g.int rs⟩
  · exact g.elim
def addI : Op2 := fun x y S => match x, y with | .int i, .int j => .ok (.int (i + j)) S | _, _ => .bad
theorem ip_addI : PIp X .Add (rd2 X.K W addI) := ip_int (fun _ _ _ => rfl) ip_add
theorem ip_subI : PIp X .Sub (rd2 X.K W subV) := ip_int (fun _ _ _ => rfl) ip_sub
theorem s_aug (C : Cxt en X W N sc fb n) {i : Nat} {x : Str} {op : Operator} {f : Op2} {p : Pos} (h : setB N sc fb i x = true) (ho : PIp X op (rd2 X.K W f)) (ha : PE X a (rdE X.K W ma)) : PS X (.AugAssign (.Name x p) op a pos) (rdS X.K W (sAug i f ma)) := by
  obtain ⟨h1, h2, hf'⟩ := C.set h
  refine PS.weak (ps_aug (by rw [C.hN]; exact C.nd) h1 h2 ha ho hf') fun D σ H ⟨ρ, S, ι, s, f⟩ => ?_
  unfold sAug at f
  split at f
  · rename_i w e
    obtain ⟨y, ey, ry⟩ := s.en.at_ i w e
    refine ⟨y, ey, ρ, S, ι, s, FinS.step f fun v S1 ι1 H1 x _ r1 e1 g1 f1 => ⟨S1, ι1, w, v, r1, ry.ext s.st.off e1.toExt0, g1, FinS.step f1 fun z S2 ι2 H2 zz _ r2 e2 g2 f2 => ?_⟩⟩
    exact f2 ι2 H2 _ ⟨r2, (s.to r2 (e1.trans e2)).en.set i g2⟩ .refl
  · exact f.elim

/-! ### loops -/
theorem s_while {c : Expr} {body : List Stmt} {tc : Ts} (C : Cxt en X W N sc fb n) (hc : PT X c (rdT X.K W tc)) (hb : PSs X body (rdS X.K W m)) : PS X (.While c body [] pos) (rdS X.K W (sWhile tc m)) := by
  refine PS.weak (ps_while C.own hc hb) fun D σ H ⟨ρ, S, ι, s, f⟩ => ?_
  refine ⟨fun k σ H => ∃ ρ S ι, Sta X.K ρ S ι σ H ∧ FinS X.K W (whileF tc m k ρ S) ι H D, ⟨_, ρ, S, ι, s, f⟩, fun k σ H ⟨ρ, S, ι, s, f⟩ => ?_⟩
  cases k with
  | zero => exact f.elim
  | succ k =>
    refine ⟨ρ, S, ι, s, FinS.step f fun v S1 ι1 H1 x _ r1 e1 g1 f1 => ?_⟩
    cases g1
    cases v with
    | false => exact f1 ι1 H1 σ (s.to r1 e1) .refl
    | true =>
      refine ⟨fun σ' H' => ∃ ρ S ι, Sta X.K ρ S ι σ' H' ∧ FinS X.K W (whileF tc m k ρ S) ι H' D, fun σ' H' h => ⟨k, Nat.lt_succ_self k, h⟩, ρ, S1, ι1, s.to r1 e1, ?_⟩
      replace f1 : FinS X.K W (turnK (m ρ S1) (whileF tc m k)) ι1 H1 D := f1
      cases hm : m ρ S1 with
      | nx ρ2 S2 => rw [hm] at f1; exact fun ι' H' σ' s' e => ⟨ρ2, S2, ι', s', FinS.base e f1⟩
      | ct ρ2 S2 => rw [hm] at f1; exact fun ι' H' σ' s' e => ⟨ρ2, S2, ι', s', FinS.base e f1⟩
      | bk ρ2 S2 => rw [hm] at f1; exact f1
      | rt v S2 => rw [hm] at f1; exact f1
      | er e S2 => rw [hm] at f1; exact f1
      | bad => rw [hm] at f1; exact f1
/-- behind a turn the heap is the same, or has one more tuple -/
def Lat (H H' : Hp) : Prop := H' = H ∨ ∃ p xs, H p = none ∧ H' = upd H p (.tup xs)
theorem Lat.ext {K : PySem.W.Frag} {S : Sto} {ι : Pl} {H H' : Hp} (h : Lat H H') (r : RelS K S ι H) : Ext ι H ι H' := by
  rcases h with rfl | ⟨p, xs, hp, rfl⟩
  · exact .refl
  · exact .new r hp
theorem Lat.rel {K : PySem.W.Frag} {S : Sto} {ι : Pl} {H H' : Hp} (h : Lat H H') (r : RelS K S ι H) : RelS K S ι H' := by
  rcases h with rfl | ⟨p, xs, hp, rfl⟩
  · exact r
  · exact r.new hp
/-- what walks a source's items -/
inductive SrcR (K : PySem.W.Frag) (ι : Pl) (H : Hp) : Src → L2.It → Prop
  | row {vs : List Val} {J : L2.It} (h : ∀ ι2 H2, Ext0 ι H ι2 H2 → ∀ i : Nat, (vs.length ≤ i → J.stop i H2) ∧ ∀ v, vs[i]? = some v → J.go i H2 ∧ ∀ x H3, J.yld i H2 x H3 → Lat H2 H3 ∧ VR K ι2 H3 v x) : SrcR K ι H (.row vs) J
  | cell {i : Nat} {p : Addr} (h : ι.p[i]? = some p) : SrcR K ι H (.cell i) (Itl K p)
def rdI (K : PySem.W.Frag) (W : Wish) (m : TW.It) : TI := fun σ H R => ∃ ρ S ι, Sta K ρ S ι σ H ∧ Fin K W (SrcR K) (m ρ S) ι H R
theorem PI.weak {tg e : Expr} {t t' : TI} (h : PI X tg e t) (w : ∀ σ H Q, t' σ H Q → t σ H Q) : PI X tg e t' := ⟨fun pins s σ H Q I q => h.run pins s σ H Q I (w σ H Q q)⟩
theorem PI.or {tg e : Expr} {t t' : TI} (h : PI X tg e t) (h' : PI X tg e t') : PI X tg e (fun σ H Q => t σ H Q ∨ t' σ H Q) := ⟨fun pins s σ H Q I q => q.elim (h.run pins s σ H Q I) (h'.run pins s σ H Q I)⟩
theorem row_tup {K : PySem.W.Frag} {S : Sto} {ι : Pl} {H : Hp} {a : Addr} {vs : List Val} {xs : List V} (rs : RelS K S ι H) (h : SqT K H a xs) (r : VRs K ι H vs xs) : SrcR K ι H (.row vs) (Itt K a) := by
  refine .row fun ι2 H2 e i => ⟨fun hi => ⟨xs, sqT_ext rs.off e h, by rw [← r.length]; exact hi⟩, fun v hv => ?_⟩
  obtain ⟨x, hx, rx⟩ := (r.ext rs.off e).get hv
  refine ⟨⟨xs, x, sqT_ext rs.off e h, hx⟩, fun y H3 ⟨e3, q⟩ => ⟨.inl e3, ?_⟩⟩
  have q2 := q xs (sqT_ext rs.off e h)
  rw [hx] at q2
  cases q2
  rw [e3]
  exact rx
theorem row_lst {K : PySem.W.Frag} {S : Sto} {ι : Pl} {H : Hp} {a : Addr} {vs : List Val} {xs : List V} (rs : RelS K S ι H) (h : H a = some (.lst xs)) (hn : ι.out a) (r : VRs K ι H vs xs) : SrcR K ι H (.row vs) (Itl K a) := by
  refine .row fun ι2 H2 e i => ⟨fun hi => ⟨xs, .of (e.keep a _ hn h).2, by rw [← r.length]; exact hi⟩, fun v hv => ?_⟩
  obtain ⟨x, hx, rx⟩ := (r.ext rs.off e).get hv
  refine ⟨⟨xs, x, .of (e.keep a _ hn h).2, hx⟩, fun y H3 ⟨e3, q⟩ => ⟨.inl e3, ?_⟩⟩
  have q2 := q xs (.of (e.keep a _ hn h).2)
  rw [hx] at q2
  cases q2
  rw [e3]
  exact rx
theorem row_rng {K : PySem.W.Frag} {ι : Pl} {H : Hp} {lo : Int} {k : Nat} : SrcR K ι H (.row (rowI lo k)) (Itr lo k) := by
  refine .row fun ι2 H2 e i => ⟨fun hi => (show k ≤ i by simpa [rowI] using hi), fun v hv => ?_⟩
  unfold rowI at hv
  rw [List.getElem?_map] at hv
  by_cases hk : i < k
  · rw [List.getElem?_range hk] at hv
    cases hv
    exact ⟨hk, fun x H3 ⟨e3, q⟩ => ⟨.inl e3, by rw [q]; exact .int _⟩⟩
  · rw [List.getElem?_eq_none (by simpa using hk)] at hv
    cases hv
theorem i_seq {tg : Expr} (ha : PE X a (rdE X.K W ma)) : PI X tg a (rdI X.K W (iSeq ma)) := by
  refine PI.weak (PI.or (pi_list ha) (pi_tup ha)) fun σ H R ⟨ρ, S, ι, s, f⟩ => ?_
  unfold iSeq at f
  cases hm : ma ρ S with
  | bad => rw [hm] at f; exact f.elim
  | er e S' => rw [hm] at f; exact .inl ⟨ρ, S, ι, s, by rw [hm]; exact f⟩
  | ok v S' =>
    rw [hm] at f
    simp only [bnd_ok] at f
    split at f
    · refine .inr ⟨ρ, S, ι, s, ?_⟩
      rw [hm]
      intro ι1 H1 x r1 e1 g1
      cases g1 with
      | tup h1 q1 => exact ⟨_, rfl, ⟨_, h1⟩, f ι1 H1 _ r1 e1 (row_tup r1 h1 q1)⟩
    · refine .inl ⟨ρ, S, ι, s, ?_⟩
      rw [hm]
      intro ι1 H1 x r1 e1 g1
      cases g1 with
      | lst h1 n1 q1 => exact ⟨_, rfl, ⟨_, .of h1⟩, f ι1 H1 _ r1 e1 (row_lst r1 h1 n1 q1)⟩
    · split at f
      · rename_i vs hS
        refine .inl ⟨ρ, S, ι, s, ?_⟩
        rw [hm]
        intro ι1 H1 x r1 e1 g1
        obtain ⟨p, xs, rfl, hi, hh, _⟩ := ref_at r1 g1 hS
        exact ⟨_, rfl, ⟨_, .of hh⟩, f ι1 H1 _ r1 e1 (.cell hi)⟩
      · exact f.elim
    · exact f.elim
theorem i_rng1 (C : Cxt en X W N sc fb n) {tg : Expr} {p : Pos} (hm : en.mg "range" = none) (hg : gloB sc "range" = true) (ha : PE X a (rdE X.K W ma)) (h1 : starEach [a] X.env = (false, eval a X.env) :: starEach [] X.env := by rfl) (h2 : starEach [a] X.env = [(false, eval a X.env)] := by rfl) : PI X tg (.Call (.Name "range" p) [a] [] pos) (rdI X.K W (iRng1 ma)) := by
  refine PI.weak (pi_range1 (C.glo hg).1 (C.free hm) (pa_cons ha pa_nil h1) h2) fun σ H R ⟨ρ, S, ι, s, f⟩ => ⟨ρ, S, ι, s, f.step fun v S1 ι1 H1 x _ r1 e1 g1 f1 => ?_⟩
  split at f1
  · cases g1
    split at f1
    · rename_i hz
      exact ⟨_, rfl, hz.1, hz.2, f1 ι1 H1 _ r1 .refl row_rng⟩
    · exact f1.elim
  · exact f1.elim
theorem i_rng2 (C : Cxt en X W N sc fb n) {tg : Expr} {p : Pos} (hm : en.mg "range" = none) (hg : gloB sc "range" = true) (ha : PE X a (rdE X.K W ma)) (hb : PE X b (rdE X.K W mb)) (h1 : starEach [a, b] X.env = (false, eval a X.env) :: starEach [b] X.env := by rfl) (h2 : starEach [b] X.env = (false, eval b X.env) :: starEach [] X.env := by rfl)
    (h3 : starEach [a, b] X.env = [(false, eval a X.env), (false, eval b X.env)] := by rfl) (h4 : starEach [b] X.env = [(false, eval b X.env)] := by rfl) : PI X tg (.Call (.Name "range" p) [a, b] [] pos) (rdI X.K W (iRng2 ma mb)) := by
  refine PI.weak (pi_range2 (C.glo hg).1 (C.free hm) (pa_cons ha (pa_cons hb pa_nil h2) h1) h3 h4) fun σ H R ⟨ρ, S, ι, s, f⟩ => ⟨ρ, S, ι, s, f.step fun v S1 ι1 H1 x _ r1 e1 g1 f1 => ⟨ρ, S1, ι1, s.to r1 e1, f1.step fun w S2 ι2 H2 y _ r2 e2 g2 f2 => ?_⟩⟩
  split at f2
  · cases g1
    cases g2
    split at f2
    · rename_i hz
      exact ⟨_, _, rfl, hz, f2 ι2 H2 _ r2 .refl row_rng⟩
    · exact f2.elim
  · exact f2.elim
theorem FinS.turn {K : PySem.W.Frag} {r : SR} {go : Env → Sto → SR} {ι : Pl} {H : Hp} {D : Ends} {Nx : L2.St → Hp → Prop} (h : FinS K W (turnK r go) ι H D) (f : ∀ ρ S ι' H' σ', Sta K ρ S ι' σ' H' → Ext ι H ι' H' → FinS K W (go ρ S) ι' H' D → Nx σ' H') :
    FinS K W r ι H { D with nx := Nx, ct := Nx, bk := D.nx } := by
  cases r with
  | nx ρ S => exact fun ι' H' σ' s e => f ρ S ι' H' σ' s e (FinS.base e h)
  | ct ρ S => exact fun ι' H' σ' s e => f ρ S ι' H' σ' s e (FinS.base e h)
  | rt v S => exact h
  | bk ρ S => exact h
  | er e S => exact h
  | bad => exact h
theorem s_for (C : Cxt en X W N sc fb n) {tg iter : Expr} {body : List Stmt} {it : TW.It} {g : Tg} {is : List Nat} (hi : PI X tg iter (rdI X.K W it)) (hg : PG X tg (rdG X.K is g)) (hb : PSs X body (rdS X.K W m)) (hs : ∀ x, foldedSetIterable iter X.env x = pure x) : PS X (.For tg iter body [] pos) (rdS X.K W (sFor it g m)) := by
  refine PS.weak (ps_for C.own C.calm hi hg hb hs) fun D σ H ⟨ρ, S, ι, s, f⟩ => ⟨ρ, S, ι, s, FinS.step f fun src S1 ι1 H1 J _ r1 e1 g1 f1 => ?_⟩
  have s1 := s.to r1 e1
  cases g1 with
  | @row vs J hJ =>
    refine ⟨fun i k σ H => k = vs.length - i ∧ i ≤ vs.length ∧ ∃ ρ S ι, Sta X.K ρ S ι σ H ∧ Ext ι1 H1 ι H ∧ FinS X.K W (forL g m (vs.drop i) ρ S) ι H D, ⟨_, rfl, Nat.zero_le _, ρ, S1, ι1, s1, .refl, f1⟩, ?_⟩
    rintro i k σ2 H2 ⟨rfl, hi, ρ2, S2, ι2, s2, e2, f2⟩
    by_cases hlt : i < vs.length
    · rw [List.drop_eq_getElem_cons hlt] at f2
      have hv : vs[i]? = some vs[i] := List.getElem?_eq_getElem hlt
      obtain ⟨go, yl⟩ := (hJ ι2 H2 e2.toExt0 i).2 _ hv
      refine .inr ⟨go, fun σ' H' => i + 1 ≤ vs.length ∧ ∃ ρ S ι, Sta X.K ρ S ι σ' H' ∧ Ext ι1 H1 ι H' ∧ FinS X.K W (forL g m (vs.drop (i + 1)) ρ S) ι H' D, fun σ' H' ⟨h, q⟩ => ⟨vs.length - (i + 1), by omega, rfl, h, q⟩, fun x H3 y3 => ?_⟩
      obtain ⟨lat, rx⟩ := yl x H3 y3
      have s3 : Sta X.K ρ2 S2 ι2 σ2 H3 := s2.to (lat.rel s2.st) (lat.ext s2.st)
      refine ⟨ρ2, S2, ι2, _, s3, rx, ?_⟩
      unfold forL at f2
      split at f2
      · rename_i ρ' eg
        refine ⟨ρ', eg, fun σ' s' _ => ⟨ρ', S2, ι2, s', FinS.turn (FinS.base (lat.ext s2.st) f2) fun ρ4 S4 ι4 H4 σ4 s4 e4 f4 => ⟨hlt, ρ4, S4, ι4, s4, e2.trans ((lat.ext s2.st).trans e4), f4⟩⟩⟩
      · exact f2.elim
    · have e : i = vs.length := by omega
      subst e
      rw [List.drop_length] at f2
      exact .inl ⟨(hJ ι2 H2 e2.toExt0 _).1 (Nat.le_refl _), f2 ι2 H2 σ2 s2 .refl⟩
  | @cell i0 p hp =>
    refine ⟨fun i k σ H => ∃ ρ S ι, Sta X.K ρ S ι σ H ∧ Ext ι1 H1 ι H ∧ FinS X.K W (forAt g m i0 k i ρ S) ι H D, ⟨_, ρ, S1, ι1, s1, .refl, f1⟩, ?_⟩
    rintro i k σ2 H2 ⟨ρ2, S2, ι2, s2, e2, f2⟩
    cases k with
    | zero => exact f2.elim
    | succ k =>
      unfold forAt at f2
      split at f2
      · rename_i vs hS
        have hp2 : VR X.K ι2 H2 (.ref i0) (.ref p) := (VR.ref hp).ext r1.off e2.toExt0
        obtain ⟨p', xs, ee, hi, hh, rr, _⟩ := ref_at s2.st hp2 hS
        cases ee
        split at f2
        · rename_i hn
          refine .inl ⟨⟨xs, .of hh, ?_⟩, f2 ι2 H2 σ2 s2 .refl⟩
          rw [← rr.length]
          exact List.getElem?_eq_none_iff.mp hn
        · rename_i v hv
          obtain ⟨x, hx, rx⟩ := rr.get hv
          refine .inr ⟨⟨xs, x, .of hh, hx⟩, fun σ' H' => ∃ ρ S ι, Sta X.K ρ S ι σ' H' ∧ Ext ι1 H1 ι H' ∧ FinS X.K W (forAt g m i0 k (i + 1) ρ S) ι H' D, fun σ' H' q => ⟨k, Nat.lt_succ_self k, q⟩, fun y H3 ⟨e3, q⟩ => ?_⟩
          subst e3
          have q2 := q xs (.of hh)
          rw [hx] at q2
          cases q2
          refine ⟨ρ2, S2, ι2, v, s2, rx, ?_⟩
          split at f2
          · rename_i ρ' eg
            exact ⟨ρ', eg, fun σ' s' _ => ⟨ρ', S2, ι2, s', FinS.turn f2 fun ρ4 S4 ι4 H4 σ4 s4 e4 f4 => ⟨ρ4, S4, ι4, s4, e2.trans e4, f4⟩⟩⟩
          · exact f2.elim
      · exact f2.elim
end
end TW
/-! TW.Comp: list comprehensions of one clause. -/
namespace TW
open PySem PySem.Spec PyProof.Rows L2

section
variable {en : En} {X : Cx} {W : Wish} {N : List Str} {sc : Scope} {fb : Str → Bool} {n : Nat} {a b c : Expr} {ma mb mc : Ex} {pos : Pos}
/-- within a comprehension -/
theorem Cxt.blk (C : Cxt en X W N sc fb n) (s : Shared) (H : Hp) (scope : Scope) (C' : Addr) (cl : List (Str × Addr)) (fp : List Addr) (hk : scope.kind = .function) :
    Cxt en (X.blk s H scope (compEnvC scope cl C' X.env) fp) W0 N (relS scope sc) (fun x => scope.names.lookup x == some .cell) n :=
  ⟨C.hP, C.hw, C.hK, C.hm, C.hb, C.hN, by show relS scope X.env.scope = _; rw [C.hs], C.nd, C.calm, C.room, PassesOwn.never, fun _ h => h, hk⟩
theorem Pl.ban_b (ι : Pl) (D : Addr) : (ι.ban D).b = D :: ι.b := rfl
theorem Ext0.ban {ι : Pl} {H : Hp} {D : Addr} {o : HO} (hD : H D = none) : Ext0 ι H (ι.ban D) (upd H D o) :=
  ⟨List.prefix_refl _, fun a u n h => ⟨⟨n.1, fun m => by
    rcases List.mem_cons.mp m with rfl | m
    · rw [h] at hD; cases hD
    · exact n.2 m⟩, by rw [upd_ne (ne_of_none h hD)]; exact h⟩⟩
theorem RelS.ban {K : PySem.W.Frag} {S : Sto} {ι : Pl} {H : Hp} {D : Addr} {xs : List V} (r : RelS K S ι H) (hD : H D = none) : RelS K S (ι.ban D) (upd H D (.lst xs)) := by
  refine ⟨r.len, r.nd, fun i o a e1 e2 => (r.ob i o a e1 e2).ext r.off (Ext0.ban hD) (upd_ne fun z => (r.notin hD).1 (z ▸ List.mem_of_getElem? e2)), fun a ha => ?_⟩
  rcases List.mem_cons.mp ha with rfl | ha
  · exact ⟨(r.notin hD).1, xs, upd_same⟩
  · refine ⟨(r.bn a ha).1, ?_⟩
    rw [upd_ne (show a ≠ D from fun z => (r.notin hD).2 (z ▸ ha))]
    exact (r.bn a ha).2
/-- the list that is being built grows -/
theorem Ext0.grow {ι : Pl} {H : Hp} {D : Addr} {o : HO} (m : D ∈ ι.b) : Ext0 ι H ι (upd H D o) :=
  ⟨List.prefix_refl _, fun a u n h => ⟨n, by rw [upd_ne fun z => n.2 (by rw [z]; exact m)]; exact h⟩⟩
theorem RelS.grow {K : PySem.W.Frag} {S : Sto} {ι : Pl} {H : Hp} {D : Addr} {xs : List V} (r : RelS K S ι H) (m : D ∈ ι.b) : RelS K S ι (upd H D (.lst xs)) := by
  refine ⟨r.len, r.nd, fun i o a e1 e2 => (r.ob i o a e1 e2).ext r.off (Ext0.grow m) (upd_ne fun z => (r.bn D m).1 (z ▸ List.mem_of_getElem? e2)), fun a ha => ⟨(r.bn a ha).1, ?_⟩⟩
  by_cases h : a = D
  · subst h; exact ⟨xs, upd_same⟩
  · rw [upd_ne h]; exact (r.bn a ha).2
/-- it is built -/
theorem Ext0.unban {ι : Pl} {H : Hp} {D : Addr} {bs : List Addr} (h : ι.b = D :: bs) : Ext0 ι H ⟨ι.p, bs⟩ H :=
  ⟨List.prefix_refl _, fun a u n e => ⟨⟨n.1, fun m => n.2 (by rw [h]; exact List.mem_cons_of_mem _ m)⟩, e⟩⟩
theorem RelS.unban {K : PySem.W.Frag} {S : Sto} {ι : Pl} {H : Hp} {D : Addr} {bs : List Addr} (r : RelS K S ι H) (h : ι.b = D :: bs) : RelS K S ⟨ι.p, bs⟩ H :=
  ⟨r.len, r.nd, fun i o a e1 e2 => (r.ob i o a e1 e2).ext r.off (Ext0.unban h) rfl, fun a ha => r.bn a (by rw [h]; exact List.mem_cons_of_mem _ ha)⟩
/-- within: relative to the state at the list's making -/
structure In1 (ι1 : Pl) (H1 : Hp) (D : Addr) (ι : Pl) (H : Hp) : Prop where
  pre : ι1.p <+: ι.p
  ban : ι.b = D :: ι1.b
  nd : D ∉ ι1.b
  keep : ∀ a o, ι1.out a → H1 a = some o → ι.out a ∧ H a = some o
  keepb : ∀ a, a ∈ ι1.b → H a = H1 a
theorem In1.ext {ι1 ι ι' : Pl} {H1 H H' : Hp} {D : Addr} (i : In1 ι1 H1 D ι H) (e : Ext ι H ι' H') : In1 ι1 H1 D ι' H' :=
  ⟨i.pre.trans e.pre, e.ban.trans i.ban, i.nd, fun a o n h => let ⟨n', h'⟩ := i.keep a o n h; e.keep a o n' h', fun a m => (e.keepb a (by rw [i.ban]; exact List.mem_cons_of_mem _ m)).trans (i.keepb a m)⟩
theorem In1.grow {ι1 ι : Pl} {H1 H : Hp} {D : Addr} {o : HO} (i : In1 ι1 H1 D ι H) : In1 ι1 H1 D ι (upd H D o) :=
  ⟨i.pre, i.ban, i.nd, fun a u n h => by
    obtain ⟨n', h'⟩ := i.keep a u n h
    exact ⟨n', by rw [upd_ne fun z => n'.2 (by rw [i.ban, z]; exact List.mem_cons_self)]; exact h'⟩, fun a m => by rw [upd_ne (show a ≠ D from fun z => i.nd (z ▸ m))]; exact i.keepb a m⟩
theorem In1.out {ι1 ι : Pl} {H1 H : Hp} {D : Addr} (i : In1 ι1 H1 D ι H) : Ext ι1 H1 ⟨ι.p, ι1.b⟩ H :=
  ⟨⟨i.pre, fun a o n h => let ⟨n', h'⟩ := i.keep a o n h; ⟨⟨n'.1, n.2⟩, h'⟩⟩, rfl, i.keepb⟩
theorem In1.e0 {ι1 ι : Pl} {H1 H : Hp} {D : Addr} (i : In1 ι1 H1 D ι H) : Ext0 ι1 H1 ι H := ⟨i.pre, i.keep⟩
theorem In1.mem {ι1 ι : Pl} {H1 H : Hp} {D : Addr} (i : In1 ι1 H1 D ι H) : D ∈ ι.b := by rw [i.ban]; exact List.mem_cons_self
theorem In1.start {K : PySem.W.Frag} {S : Sto} {ι : Pl} {H : Hp} {D : Addr} {o : HO} (r : RelS K S ι H) (hD : H D = none) : In1 ι H D (ι.ban D) (upd H D o) :=
  ⟨List.prefix_refl _, rfl, (r.notin hD).2, (Ext0.ban hD).keep, fun a m => upd_ne (r.nb hD m)⟩
theorem Fin.x {α β : Type} {K : PySem.W.Frag} {W' : Wish} {G : Pl → Hp → α → β → Prop} {r : Res α} {ι : Pl} {H : Hp} {P : β → Hp → Prop} (h : ∀ e S, r ≠ .er e S) (h2 : r ≠ .bad)
    (f : ∀ v S' ι' H' x, r = .ok v S' → RelS K S' ι' H' → Ext ι H ι' H' → G ι' H' v x → P x H') : Fin K W' G r ι H P := by
  cases r with
  | ok v S' => exact fun ι' H' x r e g => f v S' ι' H' x rfl r e g
  | er e S' => exact absurd rfl (h e S')
  | bad => exact absurd rfl h2
/-- one step within, no exception -/
theorem Fin.stepx {α β : Type} {K : PySem.W.Frag} {W' : Wish} {G : Pl → Hp → α → β → Prop} {r : Res α} {k : α → Sto → Res Val} {ι1 : Pl} {H1 : Hp} {Q : VK} {ι : Pl} {H : Hp} {P : β → Hp → Prop}
    (h : Fin K W (VR K) (bnx r k) ι1 H1 Q) (f : ∀ v S' ι' H' x, r = .ok v S' → RelS K S' ι' H' → Ext ι H ι' H' → G ι' H' v x → Fin K W (VR K) (k v S') ι1 H1 Q → P x H') : Fin K W' G r ι H P := by
  cases r with
  | ok v S' => exact fun ι' H' x r e g => f v S' ι' H' x rfl r e g h
  | er e S' => exact h.elim
  | bad => exact h.elim
variable {ts : Ts} {ifs : List Expr}
theorem ts_nil : PTs X [] (rdT X.K W tYes) := ⟨fun pins s σ H Q I ⟨ρ, S, ι, st, f⟩ => pts_nil.run pins s σ H Q I (f ι H true st.st .refl rfl)⟩
theorem ts_one (h : PT X c (rdT X.K W ts)) : PTs X [c] (rdT X.K W ts) := pts_one h
/-- a turn's end within -/
theorem comp_turn {K : PySem.W.Frag} {σ2 : L2.St} {ρ' : Env} {acc : List Val} {S : Sto} {go : List Val → Sto → Res Val} {ι1 ι : Pl} {H1 H : Hp} {D : Addr} {Q : VK} {xs : List V} {Nx : Hp → Prop}
    (st : Sta K ρ' S ι σ2 H) (i1 : In1 ι1 H1 D ι H) (hD : H D = some (.lst xs)) (ra : VRs K ι H acc xs) (f : Fin K W (VR K) (compK acc ts mb ρ' S go) ι1 H1 Q)
    (nx : ∀ acc' S' ι' H' xs', RelS K S' ι' H' → In1 ι1 H1 D ι' H' → Ext0 ι H ι' H' → H' D = some (.lst xs') → VRs K ι' H' acc' xs' → Fin K W (VR K) (go acc' S') ι1 H1 Q → Nx H') :
    rdT K W0 ts σ2 H fun b H3 => if b = true then rdE K W0 mb σ2 H3 fun y H4 => ∃ acc, H4 D = some (.lst acc) ∧ acc.length < sizeLine ∧ Nx (upd H4 D (.lst (acc ++ [y]))) else Nx H3 := by
  refine ⟨ρ', S, ι, st, Fin.stepx f fun v S' ι' H' x _ r1 e1 g1 f1 => ?_⟩
  have hD' : H' D = some (.lst xs) := (e1.keepb D i1.mem).trans hD
  have i2 := i1.ext e1
  cases g1
  cases v with
  | false =>
    rw [if_neg Bool.false_ne_true] at f1 ⊢
    exact nx acc S' ι' H' xs r1 i2 e1.toExt0 hD' (ra.ext st.st.off e1.toExt0) f1
  | true =>
    rw [if_pos rfl] at f1 ⊢
    refine ⟨ρ', S', ι', st.to r1 e1, Fin.stepx f1 fun w S2 ι2 H2 y _ r2 e2 g2 f2 => ?_⟩
    split at f2
    · rename_i hz
      have hD2 : H2 D = some (.lst xs) := (e2.keepb D i2.mem).trans hD'
      have i3 := i2.ext e2
      have ra2 : VRs K ι2 H2 acc xs := (ra.ext st.st.off e1.toExt0).ext r1.off e2.toExt0
      refine ⟨xs, hD2, by rw [← ra2.length]; exact hz, nx (acc ++ [w]) S2 ι2 _ _ (r2.grow i3.mem) i3.grow ((e1.toExt0.trans e2.toExt0).trans (Ext0.grow i3.mem)) upd_same ((ra2.snoc g2).ext r2.off (Ext0.grow i3.mem)) f2⟩
    · exact f2.elim
/-- what the end of a comprehension makes of its list -/
def FinOk (K : PySem.W.Frag) (W : Wish) (fin : List Val → Sto → Res Val) : Prop := ∀ (acc : List Val) (S : Sto) (ι1 ι : Pl) (H1 H : Hp) (D : Addr) (xs : List V) (Q : VK), RelS K S ι H → In1 ι1 H1 D ι H → H D = some (.lst xs) → VRs K ι H acc xs → Fin K W (VR K) (fin acc S) ι1 H1 Q → Q (.ref D) H
theorem finL_ok {K : PySem.W.Frag} : FinOk K W finL := fun acc S ι1 ι H1 H D xs Q r i hD ra f => by
  have u : Ext0 ι H ⟨ι.p, ι1.b⟩ H := Ext0.unban i.ban
  exact f _ H _ (r.unban i.ban) i.out (.lst hD ⟨(r.bn D i.mem).1, i.nd⟩ (ra.ext r.off u))
theorem finN_ok {K : PySem.W.Frag} : FinOk K W finN := fun acc S ι1 ι H1 H D xs Q r i hD ra f => by
  have u : Ext0 ι H ⟨ι.p ++ [D], ι1.b⟩ H := ⟨List.prefix_append _ _, fun a o n h => ⟨⟨by
    simp only [List.mem_append, List.mem_singleton, not_or]
    exact ⟨n.1, fun z => n.2 (by rw [i.ban, z]; exact List.mem_cons_self)⟩, fun m => n.2 (by rw [i.ban]; exact List.mem_cons_of_mem _ m)⟩, h⟩⟩
  have rr := ra.ext r.off u
  refine f ⟨ι.p ++ [D], ι1.b⟩ H _ ⟨by simp [r.len], ?_, fun k o a e1 e2 => ?_, fun a ha => ⟨fun m => ?_, (r.bn a (by rw [i.ban]; exact List.mem_cons_of_mem _ ha)).2⟩⟩ ⟨⟨i.pre.trans (List.prefix_append _ _), fun a o n h => ?_⟩, rfl, i.keepb⟩ (.ref (by show (ι.p ++ [D])[S.length]? = some D; rw [← r.len]; simp))
  · rw [List.nodup_append]
    refine ⟨r.nd, by simp, fun a ha b hb => ?_⟩
    simp only [List.mem_singleton] at hb
    subst hb
    exact fun z => (r.bn b i.mem).1 (z ▸ ha)
  · have e2 : (ι.p ++ [D])[k]? = some a := e2
    by_cases hn : k < S.length
    · rw [List.getElem?_append_left hn] at e1
      rw [List.getElem?_append_left (by rw [r.len]; exact hn)] at e2
      exact (r.ob k o a e1 e2).ext r.off u rfl
    · have hn' : k = S.length := by
        have := (List.getElem?_eq_some_iff.mp e1).1
        simp at this
        omega
      subst hn'
      simp at e1
      rw [← r.len] at e2
      simp at e2
      subst e1 e2
      exact .lst hD rr (by rw [← r.len]; exact ra.undr)
  · rcases List.mem_append.mp m with m | m
    · exact (r.bn a (by rw [i.ban]; exact List.mem_cons_of_mem _ ha)).1 m
    · simp only [List.mem_singleton] at m
      subst m
      exact i.nd ha
  · obtain ⟨n', h'⟩ := i.keep a o n h
    exact ⟨⟨by
      simp only [List.mem_append, List.mem_singleton, not_or]
      exact ⟨n'.1, fun z => n'.2 (by rw [i.ban, z]; exact List.mem_cons_self)⟩, n.2⟩, h'⟩
theorem rd_comp0 {fin : List Val → Sto → Res Val} (hfin : FinOk X.K W fin) {it : TW.It} {own is : List Nat} {g : Tg} (his : ∀ i ∈ is, i ∈ own) {ρ : Env} {S : Sto} {ι : Pl} {σ : L2.St} {H : Hp} {Q : VK} (st : Sta X.K ρ S ι σ H) (f : Fin X.K W (VR X.K) (eCompK fin it own g ts mb ρ S) ι H Q)
    (wi : TI) (hwi : ∀ R : L2.It → Hp → Prop, Fin X.K W (SrcR X.K) (it ρ S) ι H R → wi σ H R) : tLc wi (rdG X.K is g) (rdT X.K W0 ts) (rdE X.K W0 mb) own σ H Q := by
  refine hwi _ (f.step fun src S1 ι1 H1 J _ r1 e1 g1 f1 => ?_)
  intro D hD
  have en : EnvR X.K (ι1.ban D) (upd H1 D (.lst [])) (TW.wipe ρ own) (L2.wipe σ own) := ((st.en.ext st.st.off e1.toExt0).wipe own).ext r1.off (Ext0.ban hD)
  have i0' : In1 ι1 H1 D (ι1.ban D) (upd H1 D (.lst [])) := In1.start r1 hD
  cases g1 with
  | @row vs J hJ =>
    refine ⟨fun i k H => k = vs.length - i ∧ i ≤ vs.length ∧ ∃ S ι acc xs, RelS X.K S ι H ∧ EnvR X.K ι H (TW.wipe ρ own) (L2.wipe σ own) ∧ In1 ι1 H1 D ι H ∧ H D = some (.lst xs) ∧ VRs X.K ι H acc xs ∧ Fin X.K W (VR X.K) (compL fin g ts mb (TW.wipe ρ own) (vs.drop i) acc S) ι1 H1 Q,
      ⟨_, rfl, Nat.zero_le _, S1, _, [], [], r1.ban hD, en, i0', upd_same, .nil, f1⟩, ?_⟩
    rintro i k H2 ⟨rfl, hi, S2, ι2, acc, xs, r2, en2, i2, hD2, ra, f2⟩
    by_cases hlt : i < vs.length
    · rw [List.drop_eq_getElem_cons hlt] at f2
      have hv : vs[i]? = some vs[i] := List.getElem?_eq_getElem hlt
      obtain ⟨go, yl⟩ := (hJ ι2 H2 i2.e0 i).2 _ hv
      refine .inr ⟨go, fun H' => i + 1 ≤ vs.length ∧ ∃ S ι acc xs, RelS X.K S ι H' ∧ EnvR X.K ι H' (TW.wipe ρ own) (L2.wipe σ own) ∧ In1 ι1 H1 D ι H' ∧ H' D = some (.lst xs) ∧ VRs X.K ι H' acc xs ∧ Fin X.K W (VR X.K) (compL fin g ts mb (TW.wipe ρ own) (vs.drop (i + 1)) acc S) ι1 H1 Q,
        fun H' ⟨h, q⟩ => ⟨vs.length - (i + 1), by omega, rfl, h, q⟩, fun x H3 y3 => ?_⟩
      obtain ⟨lat, rx⟩ := yl x H3 y3
      have le := lat.ext r2
      have r3 := lat.rel r2
      have i3 := i2.ext le
      have en3 := en2.ext r2.off le.toExt0
      have hD3 : H3 D = some (.lst xs) := (le.keepb D i2.mem).trans hD2
      unfold compL at f2
      split at f2
      · rename_i ρ' eg
        refine ⟨_, S2, ι2, _, ⟨r3, en3⟩, rx, ρ', eg, fun σ' s' sm => ⟨?_, comp_turn s' i3 hD3 (ra.ext r2.off le.toExt0) f2 fun acc' S4 ι4 H4 xs4 r4 i4 e4 hD4 ra4 f4 => ⟨hlt, S4, ι4, acc', xs4, r4, en3.ext r3.off e4, i4, hD4, ra4, f4⟩⟩⟩
        rw [sm own his, wipe_wipe σ own own fun _ h => h]
      · exact f2.elim
    · have e : i = vs.length := by omega
      subst e
      rw [List.drop_length] at f2
      refine .inl ⟨(hJ ι2 H2 i2.e0 _).1 (Nat.le_refl _), ?_⟩
      exact hfin acc S2 ι1 ι2 H1 H2 D xs Q r2 i2 hD2 ra f2
  | @cell i0 p hp =>
    refine ⟨fun i k H => ∃ S ι acc xs, RelS X.K S ι H ∧ EnvR X.K ι H (TW.wipe ρ own) (L2.wipe σ own) ∧ In1 ι1 H1 D ι H ∧ H D = some (.lst xs) ∧ VRs X.K ι H acc xs ∧ Fin X.K W (VR X.K) (compAt fin g ts mb (TW.wipe ρ own) i0 k i acc S) ι1 H1 Q,
      ⟨_, S1, _, [], [], r1.ban hD, en, i0', upd_same, .nil, f1⟩, ?_⟩
    rintro i k H2 ⟨S2, ι2, acc, xs, r2, en2, i2, hD2, ra, f2⟩
    cases k with
    | zero => exact f2.elim
    | succ k =>
      unfold compAt at f2
      split at f2
      · rename_i vs hS
        have hp2 : VR X.K ι2 H2 (.ref i0) (.ref p) := (VR.ref hp).ext r1.off i2.e0
        obtain ⟨p', ys, ee, hi, hh, rr, _⟩ := ref_at r2 hp2 hS
        cases ee
        split at f2
        · rename_i hn
          refine .inl ⟨⟨ys, .of hh, ?_⟩, ?_⟩
          · rw [← rr.length]
            exact List.getElem?_eq_none_iff.mp hn
          · exact hfin acc S2 ι1 ι2 H1 H2 D xs Q r2 i2 hD2 ra f2
        · rename_i v hv
          obtain ⟨x, hx, rx⟩ := rr.get hv
          refine .inr ⟨⟨ys, x, .of hh, hx⟩, fun H' => ∃ S ι acc xs, RelS X.K S ι H' ∧ EnvR X.K ι H' (TW.wipe ρ own) (L2.wipe σ own) ∧ In1 ι1 H1 D ι H' ∧ H' D = some (.lst xs) ∧ VRs X.K ι H' acc xs ∧ Fin X.K W (VR X.K) (compAt fin g ts mb (TW.wipe ρ own) i0 k (i + 1) acc S) ι1 H1 Q,
            fun H' q => ⟨k, Nat.lt_succ_self k, q⟩, fun y H3 ⟨e3, q⟩ => ?_⟩
          subst e3
          have q2 := q ys (.of hh)
          rw [hx] at q2
          cases q2
          split at f2
          · rename_i ρ' eg
            refine ⟨_, S2, ι2, v, ⟨r2, en2⟩, rx, ρ', eg, fun σ' s' sm => ⟨?_, comp_turn s' i2 hD2 ra f2 fun acc' S4 ι4 H4 xs4 r4 i4 e4 hD4 ra4 f4 => ⟨S4, ι4, acc', xs4, r4, en2.ext r2.off e4, i4, hD4, ra4, f4⟩⟩⟩
            rw [sm own his, wipe_wipe σ own own fun _ h => h]
          · exact f2.elim
      · exact f2.elim
theorem rd_comp {fin : List Val → Sto → Res Val} (hfin : FinOk X.K W fin) {it : TW.It} {own is : List Nat} {g : Tg} (his : ∀ i ∈ is, i ∈ own) {σ : L2.St} {H : Hp} {Q : VK} (h : rdE X.K W (eCompK fin it own g ts mb) σ H Q) : tLc (rdI X.K W it) (rdG X.K is g) (rdT X.K W0 ts) (rdE X.K W0 mb) own σ H Q := by
  obtain ⟨ρ, S, ι, st, f⟩ := h
  exact rd_comp0 hfin his st f _ fun R h => ⟨ρ, S, ι, st, h⟩
/-- [elt for tg in iter if ..] as a value -/
theorem e_comp (C : Cxt en X W N sc fb n) {fin : List Val → Sto → Res Val} (hfin : FinOk X.K W fin) {elt tg iter : Expr} {scope : Scope} {own : List (Str × Nat)} {it : TW.It} {is : List Nat} {g : Tg} (hi : PI X tg iter (rdI X.K W it)) (ok : BlkOk N sc scope own) (his : ∀ i ∈ is, i ∈ own.map (·.2))
    (hg : ∀ Y : Cx, Cxt en Y W0 N (relS scope sc) (fun x => scope.names.lookup x == some .cell) n → PG Y tg (rdG Y.K is g) ∧ PTs Y ifs (rdT Y.K W0 ts) ∧ PE Y elt (rdE Y.K W0 mb))
    (hs : ∀ x, foldedSetIterable iter X.env x = pure x) : PE X (.ListComp elt [⟨tg, iter, ifs, 0⟩] scope pos) (rdE X.K W (eCompK fin it (own.map (·.2)) g ts mb)) := by
  have ok' : BlkOk X.N X.env.scope scope own := by rw [C.hN, C.hs]; exact ok
  exact PE.weak (pe_lc C.calm (by rw [C.hN]; exact C.nd) hi ok' (fun s H Cl cl fp => (hg (X.blk s H scope (compEnvC scope cl Cl X.env) fp) (C.blk s H scope Cl cl fp ok.kind)).1) (fun s H Cl cl fp => (hg (X.blk s H scope (compEnvC scope cl Cl X.env) fp) (C.blk s H scope Cl cl fp ok.kind)).2.1) (fun s H Cl cl fp => (hg (X.blk s H scope (compEnvC scope cl Cl X.env) fp) (C.blk s H scope Cl cl fp ok.kind)).2.2) hs) fun σ H Q h => rd_comp hfin his h
/-- x = [..] -/
theorem s_setComp (C : Cxt en X W N sc fb n) {fin : List Val → Sto → Res Val} (hfin : FinOk X.K W fin) {elt tg iter : Expr} {scope : Scope} {own : List (Str × Nat)} {it : TW.It} {is : List Nat} {g : Tg} {i : Nat} {y : Str} {py spos : Pos} (hy : N[i]? = some y) (hyl : kindB sc y .local = true)
    (hi : PI X tg iter (rdI X.K W it)) (ok : BlkOk N sc scope own) (his : ∀ i ∈ is, i ∈ own.map (·.2))
    (hg : ∀ Y : Cx, Cxt en Y W0 N (relS scope sc) (fun x => scope.names.lookup x == some .cell) n → PG Y tg (rdG Y.K is g) ∧ PTs Y ifs (rdT Y.K W0 ts) ∧ PE Y elt (rdE Y.K W0 mb))
    (hs : ∀ x, foldedSetIterable iter X.env x = pure x) (hl : (py.line == pos.line) = true) (ha : (scope.names.any fun (n, k) => n == y && (k == .local || k == .cell)) = false) :
    PS X (.Assign [.Name y py] (.ListComp elt [⟨tg, iter, ifs, 0⟩] scope pos) spos) (rdS X.K W (sSet i (eCompK fin it (own.map (·.2)) g ts mb))) := by
  have ok' : BlkOk X.N X.env.scope scope own := by rw [C.hN, C.hs]; exact ok
  have hyl' : X.env.scope.names.lookup y = some .local := by rw [C.hs]; exact kindB_ok hyl
  refine PS.weak (ps_setLc (g := rdG X.K is g) (tt := rdT X.K W0 ts) (te := rdE X.K W0 mb) C.calm (by rw [C.hN]; exact C.nd) (by rw [C.hN]; exact hy) hyl' (sw_true (by rw [C.hs]; exact C.kf) hyl' hl ha) hi ok' (fun s H Cl cl fp => (hg (X.blk s H scope (compEnvC scope cl Cl X.env) fp) (C.blk s H scope Cl cl fp ok.kind)).1) (fun s H Cl cl fp => (hg (X.blk s H scope (compEnvC scope cl Cl X.env) fp) (C.blk s H scope Cl cl fp ok.kind)).2.1) (fun s H Cl cl fp => (hg (X.blk s H scope (compEnvC scope cl Cl X.env) fp) (C.blk s H scope Cl cl fp ok.kind)).2.2) hs) fun D σ H ⟨ρ, S, ι, s, f⟩ => ?_
  refine rd_comp hfin his ⟨ρ, S, ι, s, FinS.step f fun v S1 ι1 H1 x _ r1 e1 g1 f1 => ?_⟩
  exact f1 ι1 H1 _ ⟨r1, (s.to r1 e1).en.set i g1⟩ .refl
end
end TW
/-! TW.Def: a def by its body; all defs of a program; the law's end. -/
namespace TW
open PySem PySem.Spec PyProof.Rows L2

def Pl.tk (ι : Pl) (k : Nat) : Pl := ⟨ι.p.take k, ι.b⟩
section
variable {K : PySem.W.Frag} {ι : Pl} {H : Hp} {k : Nat}
theorem tk_out {a : Addr} (h : ι.out a) : (ι.tk k).out a := ⟨fun m => h.1 (List.mem_of_mem_take m), h.2⟩
mutual
theorem VR.tk : ∀ (v : Val) (x : V), VR K ι H v x → v.und k = true → VR K (ι.tk k) H v x
  | .non, _, r, _ => by cases r; exact .non
  | .bl b, _, r, _ => by cases r; exact .bl b
  | .int i, _, r, _ => by cases r; exact .int i
  | .str s, _, r, _ => by cases r; exact .str s
  | .tup vs, _, r, d => by
    cases r with
    | tup h r => exact .tup h (VRs.tk vs _ r (by simpa [Val.und] using d))
  | .lst vs, _, r, d => by
    cases r with
    | lst h n r => exact .lst h (tk_out n) (VRs.tk vs _ r (by simpa [Val.und] using d))
  | .dct kvs, _, r, d => by
    cases r with
    | dct h n r => exact .dct h (tk_out n) (VRp.tk kvs _ r (by simpa [Val.und] using d))
  | .ref n, _, r, d => by
    cases r with
    | ref h =>
      have hn : n < k := by simpa [Val.und] using d
      exact .ref (by show (ι.p.take k)[n]? = _; rw [List.getElem?_take_of_lt hn]; exact h)
  | .exc _ _, _, r, d => by cases r
  | .scr _, _, r, d => by
    cases r with
    | scr h => exact .scr (h.imp (fun h => ⟨h.1, tk_out h.2⟩) id)
theorem VRs.tk : ∀ (vs : List Val) (xs : List V), VRs K ι H vs xs → Val.unds k vs = true → VRs K (ι.tk k) H vs xs
  | [], _, r, _ => by cases r; exact .nil
  | v :: vs, _, r, d => by
    cases r with
    | cons h t =>
      simp only [Val.unds, Bool.and_eq_true] at d
      exact .cons (VR.tk v _ h d.1) (VRs.tk vs _ t d.2)
theorem VRp.tk : ∀ (vs : List (Val × Val)) (xs : List (Key × V)), VRp K ι H vs xs → Val.undp k vs = true → VRp K (ι.tk k) H vs xs
  | [], _, r, _ => by cases r; exact .nil
  | (v, w) :: vs, _, r, d => by
    simp only [Val.undp, Bool.and_eq_true] at d
    cases r with
    | cons h t => exact .cons (VR.tk w _ h d.2.1) (VRp.tk vs _ t d.2.2)
end
theorem unds_mono {j : Nat} {vs : List Val} (h : Val.unds j vs = true) (hj : j ≤ k) : Val.unds k vs = true := by
  have all : ∀ v : Val, v.und j = true → v.und k = true := fun v => by
    refine Val.rec (motive_1 := fun v => v.und j = true → v.und k = true) (motive_2 := fun vs => Val.unds j vs = true → Val.unds k vs = true) (motive_3 := fun vs => Val.undp j vs = true → Val.undp k vs = true)
      (motive_4 := fun p => (p.1.und j = true → p.1.und k = true) ∧ (p.2.und j = true → p.2.und k = true))
      (fun _ => rfl) (fun _ _ => rfl) (fun _ _ => rfl) (fun _ _ => rfl) (fun _ ih h => ?_) (fun _ ih h => ?_) (fun _ ih h => ?_) (fun n h => ?_) (fun _ _ ih h => ?_) (fun _ _ => rfl) (fun _ => rfl) (fun _ _ i1 i2 h => ?_) (fun _ => rfl) (fun _ _ i1 i2 h => ?_) (fun _ _ i1 i2 => ⟨i1, i2⟩) v
    · simp only [Val.und] at h ⊢; exact ih h
    · simp only [Val.und] at h ⊢; exact ih h
    · simp only [Val.und] at h ⊢; exact ih h
    · simp only [Val.und, decide_eq_true_eq] at h ⊢; omega
    · simp only [Val.und] at h ⊢; exact ih h
    · simp only [Val.unds, Bool.and_eq_true] at h ⊢; exact ⟨i1 h.1, i2 h.2⟩
    · obtain ⟨x, y⟩ := ‹Val × Val›
      simp only [Val.undp, Bool.and_eq_true] at h ⊢
      exact ⟨i1.1 h.1, i1.2 h.2.1, i2 h.2.2⟩
  exact unds_iff.mpr fun v hv => all v (unds_iff.mp h v hv)
theorem RelS.tk {S : Sto} (r : RelS K S ι H) (k : Nat) : RelS K (S.take k) (ι.tk k) H := by
  refine ⟨by simp [Pl.tk, r.len], r.nd.sublist (List.take_sublist _ _), fun n o a e1 e2 => ?_, fun a ha => ⟨fun m => (r.bn a ha).1 (List.mem_of_mem_take m), (r.bn a ha).2⟩⟩
  have hn : n < k := by
    have := (List.getElem?_eq_some_iff.mp e1).1
    rw [List.length_take] at this
    omega
  rw [List.getElem?_take_of_lt hn] at e1
  have e2 : (ι.p.take k)[n]? = some a := e2
  rw [List.getElem?_take_of_lt hn] at e2
  cases r.ob n o a e1 e2 with
  | lst h q b => exact .lst h (VRs.tk _ _ q (unds_mono b (Nat.le_of_lt hn))) b
theorem Ext.tk {ι' : Pl} {H' : Hp} (e : Ext ι H ι' H') (hk : ι.p.length = k) : Ext ι H (ι'.tk k) H' := by
  refine ⟨⟨?_, fun a o n h => ⟨tk_out (e.keep a o n h).1, (e.keep a o n h).2⟩⟩, e.ban, e.keepb⟩
  obtain ⟨t, ht⟩ := e.pre
  refine ⟨[], ?_⟩
  show ι.p ++ [] = ι'.p.take k
  rw [← ht, ← hk, List.take_left, List.append_nil]
theorem VR.fin {S : Sto} {v : Val} {x : V} (rs : RelS K S ι H) (r : VR K ι H v x) (h : (thaw k v S).und k = true) : VR K (ι.tk k) H (thaw k v S) x := by
  have keep : thaw k v S = v → VR K (ι.tk k) H (thaw k v S) x := fun e => by
    rw [e] at h ⊢
    exact VR.tk _ _ r h
  cases v with
  | ref n =>
    by_cases hn : k ≤ n
    · cases e : S[n]? with
      | none => exact keep (by simp only [thaw, if_pos hn, e])
      | some o =>
        cases o with
        | lst xs =>
          have e1 : thaw k (.ref n) S = .lst xs := by simp only [thaw, if_pos hn, e]
          rw [e1] at h ⊢
          obtain ⟨p, ys, rfl, hi, hh, rr, bb⟩ := ref_at rs r e
          refine .lst hh ⟨fun m => ?_, fun m => (rs.bn p m).1 (List.mem_of_getElem? hi)⟩ (VRs.tk _ _ rr (by simpa [Val.und] using h))
          obtain ⟨j, hj, e2⟩ := List.getElem_of_mem m
          have hj : j < (ι.p.take k).length := hj
          have hjk : j < k := by rw [List.length_take] at hj; omega
          have e3 : ι.p[j]? = some p := by
            rw [← List.getElem?_take_of_lt hjk, List.getElem?_eq_getElem hj]
            exact congrArg some e2
          obtain ⟨h1, e4⟩ := List.getElem?_eq_some_iff.mp e3
          obtain ⟨h2, e5⟩ := List.getElem?_eq_some_iff.mp hi
          have := (List.getElem_inj rs.nd).mp (e4.trans e5.symm)
          omega
        | dct _ => exact keep (by simp only [thaw, if_pos hn, e])
        | ins _ _ => exact keep (by simp only [thaw, if_pos hn, e])
    · exact keep (by simp only [thaw, if_neg hn])
  | _ => exact keep rfl
end
section
variable {P : Program} {w : World} {K : PySem.W.Frag} {mg : Str → Option Value} {base : Heap}
theorem fin_def {d : Df} {c : CallF} {as : List Val} {S : Sto} {ι : Pl} {H : Hp} {Q : VK} {ρ : Env} (rs : RelS K S ι H) (f : Fin K W0 (VR K) (finish d.keep S.length (d.body c ρ S)) ι H Q) :
    FinS K W0 (d.body c ρ S) ι H { nx := fun _ H' => Q .non H', rt := Q } := by
  cases hb : d.body c ρ S with
  | nx ρ' S' =>
    rw [hb] at f
    exact fun ι' H' σ' s e => f _ H' .non (s.st.tk S.length) (e.tk rs.len) .non
  | rt v S' =>
    rw [hb] at f
    intro ι' H' x r e g
    replace f : Fin K W0 (VR K) (finV d.keep S.length v S') ι H Q := f
    unfold finV at f
    split at f
    · rename_i hc
      simp only [Bool.and_eq_true] at hc
      exact f _ H' x (r.tk S.length) (e.tk rs.len) (VR.fin r g hc.2)
    · exact f ι' H' x r e g
  | bk ρ' S' => rw [hb] at f; exact f.elim
  | ct ρ' S' => rw [hb] at f; exact f.elim
  | er ee S' =>
    rw [hb] at f
    intro ι' H' r e
    replace f : Fin K W0 (VR K) (if ee.arg.und S.length then .er ee (S'.take S.length) else .bad) ι H Q := f
    split at f
    · exact (f _ H' (r.tk S.length) (e.tk rs.len)).elim
    · exact f.elim
  | bad => rw [hb] at f; exact f.elim
theorem env_start {N : List Str} {as : List Val} {vs : List V} {ι : Pl} {H : Hp} {m : Nat} (r : VRs K ι H as vs) (hm : m = N.length) : EnvR K ι H (as.map some ++ List.replicate (m - as.length) none) (L2.start N vs) := by
  subst hm
  unfold L2.start
  refine ⟨by simp [r.length], fun i v e => ?_⟩
  by_cases hi : i < as.length
  · rw [List.getElem?_append_left (by simpa using hi), List.getElem?_map] at e
    cases ha : as[i]? with
    | none => rw [ha] at e; cases e
    | some y =>
      rw [ha] at e
      cases e
      obtain ⟨x, h1, h2⟩ := r.get ha
      refine ⟨x, ?_, h2⟩
      rw [List.getElem?_append_left (by rw [List.length_map, ← r.length]; exact hi), List.getElem?_map, h1]
      rfl
  · rw [List.getElem?_append_right (by simpa using hi), List.getElem?_replicate] at e
    split at e <;> cases e
/-- what is known of each def: where it stands, its body's derivation -/
structure DOk (P : Program) (w : World) (K : PySem.W.Frag) (mg : Str → Option Value) (base : Heap) (ds : List Df) (d : Df) : Prop where
  ex : ∃ (a : Addr) (fd : FuncData) (qual : Str) (params : Arguments) (body : List Stmt) (sc : Scope) (N ps : List Str), FunD K d.name qual params body sc [] [] a fd ∧ mg d.name = some (.ref a) ∧ Binds K fd ps [] ∧ FnScope N ps sc ∧ d.ns = N.length ∧ d.np = ps.length ∧
    ∀ (n : Nat) (c : CallF), (∀ f d', look ds f = some d' → CallOk P w K mg base n c f d'.np) → ∀ X : Cx, Cxt ⟨P, w, K, mg, base⟩ X W0 N sc (fun _ => true) n → PSs X body (rdS X.K W0 (d.body c))
theorem look_name {ds : List Df} {f : Str} {d : Df} (h : look ds f = some d) : d ∈ ds ∧ d.name = f := by
  unfold look at h
  exact ⟨List.mem_of_find?_eq_some h, by simpa using List.find?_some h⟩
theorem all_ok {ds : List Df} (h : ∀ d ∈ ds, DOk P w K mg base ds d) : ∀ (n : Nat) (f : Str) (d : Df), look ds f = some d → CallOk P w K mg base n (callN ds n) f d.np
  | 0, f, d, e => by
    obtain ⟨hm, hn⟩ := look_name e
    obtain ⟨a, fd, qual, params, body, sc, N, ps, F, hg, hb, Sc, h1, h2, dv⟩ := (h d hm).ex
    subst hn
    exact ⟨⟨a, fd, ps, ⟨fun vs H Q E ⟨S, ι, as, hl, rs, ra, f⟩ => f.elim, fun A outer s H args us vs Q E _ _ _ _ ⟨S, ι, as, hl, rs, ra, f⟩ => f.elim⟩, hg, F.kp, hb⟩, fun _ _ _ => rfl⟩
  | n + 1, f, d, e => by
    obtain ⟨hm, hn⟩ := look_name e
    obtain ⟨a, fd, qual, params, body, sc, N, ps, F, hg, hb, Sc, h1, h2, dv⟩ := (h d hm).ex
    subst hn
    have ih := all_ok h n
    have un : ∀ as S, callN ds (n + 1) d.name as S = runDf d (callN ds n) as S := fun as S => by
      show (match look ds d.name with
        | some d => runDf d (callN ds n) as S
        | none => .bad) = _
      rw [e]
    refine ⟨⟨a, fd, ps, F.ok Sc (fun vs H Q E ⟨S, ι, as, hl, rs, ra, f⟩ => ?_) (fun cdv A outer s H vs Q E hr ⟨S, ι, as, hl, rs, ra, f⟩ => ?_), hg, F.kp, hb⟩, fun as S hl => ?_⟩
    · rw [← ra.length, hl, h2]
    · refine ⟨rdS K W0 (d.body (callN ds n)), PSs.nox ?_, ?_⟩
      · exact dv n (callN ds n) ih _ ⟨rfl, rfl, rfl, rfl, rfl, rfl, rfl, Sc.nd, rfl, hr, PassesOwn.never, fun _ _ => rfl, Sc.kind⟩
      · rw [un] at f
        unfold runDf at f
        rw [if_pos hl] at f
        exact ⟨_, S, ι, ⟨rs, env_start ra h1⟩, fin_def (as := as) rs f⟩
    · rw [un]
      unfold runDf
      rw [if_neg hl]
/-- the law itself, with room for m calls -/
theorem law_fn {ds : List Df} (h : ∀ d ∈ ds, DOk P w K mg base ds d) {m : Nat} {d : Df} {a : Addr} {fd : FuncData} {qual : Str} {params : Arguments} {body : List Stmt} {sc : Scope} {N ps : List Str} (F : FunD K d.name qual params body sc [] [] a fd) (Sc : FnScope N ps sc)
    (e : look ds d.name = some d) (h1 : d.ns = N.length) (h2 : d.np = ps.length)
    (dv : ∀ (n : Nat) (c : CallF), (∀ f d', look ds f = some d' → CallOk P w K mg base n c f d'.np) → ∀ X : Cx, Cxt ⟨P, w, K, mg, base⟩ X W0 N sc (fun _ => true) n → PSs X body (rdS X.K W0 (d.body c))) :
    FnOk P w K mg base CX0 (m + 1) a fd ps (spC K d.np (callN ds (m + 1) d.name)) := by
  have ih := all_ok h m
  have un : ∀ as S, callN ds (m + 1) d.name as S = runDf d (callN ds m) as S := fun as S => by
    show (match look ds d.name with
      | some d => runDf d (callN ds m) as S
      | none => .bad) = _
    rw [e]
  refine F.ok Sc (fun vs H Q E ⟨S, ι, as, hl, rs, ra, f⟩ => ?_) (fun cdv A outer s H vs Q E hr ⟨S, ι, as, hl, rs, ra, f⟩ => ?_)
  · rw [← ra.length, hl, h2]
  · refine ⟨rdS K W0 (d.body (callN ds m)), PSs.nox ?_, ?_⟩
    · exact dv m (callN ds m) ih _ ⟨rfl, rfl, rfl, rfl, rfl, rfl, rfl, Sc.nd, rfl, hr, PassesOwn.never, fun _ _ => rfl, Sc.kind⟩
    · rw [un] at f
      unfold runDf at f
      rw [if_pos hl] at f
      exact ⟨_, S, ι, ⟨rs, env_start ra h1⟩, fin_def (as := as) rs f⟩
end

/-! ### the law's end -/
theorem law_spec {K : PySem.W.Frag} {c : CallF} {f : Str} (hlaw : ∀ ns : List Int, ns.length ≤ 63 → ∃ S', c f [.scr ns] [] = .ok (.bl true) S') (H : Hp) (b : Addr) (ns : List Int) (hl : ns.length ≤ 63) (hS : SqL K H b (ns.map V.int)) {E : XK} :
    spC K 1 (c f) [.ref b] H (fun v _ => v = .bl true) E := by
  obtain ⟨S', e⟩ := hlaw ns hl
  refine ⟨[], ⟨[], []⟩, [.scr ns], rfl, ⟨rfl, List.nodup_nil, fun n o a e => by simp at e, fun a m => absurd m (by simp)⟩, .cons (.scr ?_) .nil, ?_⟩
  · rcases hS with h | h
    · exact .inl ⟨h, ⟨by simp, by simp⟩⟩
    · exact .inr h
  · rw [e]
    intro ι' H' x _ _ g
    cases g
    rfl
end TW
/-! TW.Dict: dicts that are never changed: written ones, comprehensions over their keys. -/
namespace TW
open PySem PySem.Spec PyProof.Rows L2

section
variable {en : En} {X : Cx} {W : Wish} {N : List Str} {sc : Scope} {fb : Str → Bool} {n : Nat} {pos : Pos}
theorem e_dict0 : PE X (.Dict [] [] pos) (rdE X.K W (eC (.dct []))) :=
  PE.weak pe_dnewK fun σ H Q ⟨ρ, S, ι, st, f⟩ => fun p hp => f ι _ _ (st.st.new hp) (.new st.st hp) (.dct (.inl upd_same) (st.st.notin hp) .nil)
/-- {'k': i} -/
theorem e_dict1 {x : Str} {i : Int} {j k : Nat} {p1 p2 : Pos} : PE X (.Dict [some (.Constant (.str x) j p1)] [.Constant (.int i) k p2] pos) (rdE X.K W (eC (.dct [(.str x, .int i)]))) := by
  refine PE.weak (pe_disp (pps_cons (pe_str (x := x)) (pe_int (i := i)) pps_nil) rfl rfl (fun z => by cases z) (by simp)) fun σ H Q ⟨ρ, S, ι, st, f⟩ => ?_
  intro p hp
  refine ⟨upd_same, [(.inr x, .int i)], rfl, by simp, ?_⟩
  rw [upd_upd]
  exact f ι _ _ (st.st.new hp) (.new st.st hp) (.dct (.inl upd_same) (st.st.notin hp) (.cons (k := .inr x) (.int i) .nil))

/-! ### a dict is locked while its keys are walked -/
def lk (H : Hp) (d : Addr) (od : Obj) (ps : List (Key × V)) : Hp := upd H d (.frz od (.dK ps))
section
variable {K : PySem.W.Frag} {ι : Pl} {H H' : Hp} {d : Addr} {ps : List (Key × V)}
/-- the same but for a dict that is locked, or not, at d -/
structure Lk (d : Addr) (ps : List (Key × V)) (H H' : Hp) : Prop where
  ne : ∀ a, a ≠ d → H' a = H a
  l : Rd H d (.dK ps)
  r : Rd H' d (.dK ps)
theorem Lk.symm (h : Lk d ps H H') : Lk d ps H' H := ⟨fun a n => (h.ne a n).symm, h.r, h.l⟩
theorem Lk.at (h : Lk d ps H H') {a : Addr} {o : HO} (e : H a = some o) (n : ∀ ps, o ≠ .dK ps) (n2 : ∀ ob ps, o ≠ .frz ob (.dK ps)) : H' a = some o := by
  by_cases z : a = d
  · subst z
    rcases h.l with h | ⟨ob, h⟩
    · rw [h] at e; cases e; exact absurd rfl (n _)
    · rw [h] at e; cases e; exact absurd rfl (n2 _ _)
  · rw [h.ne a z]; exact e
theorem Lk.rdT (h : Lk d ps H H') {a : Addr} {xs : List V} (e : SqT K H a xs) : SqT K H' a xs := by
  rcases e with (e | ⟨ob, e⟩) | e
  · exact .inl (.inl (h.at e (fun _ z => nomatch z) fun _ _ z => nomatch z))
  · exact .inl (.inr ⟨ob, h.at e (fun _ z => nomatch z) fun _ _ z => by cases z⟩)
  · exact .inr e
theorem Lk.rdD (h : Lk d ps H H') {a : Addr} {qs : List (Key × V)} (e : Rd H a (.dK qs)) : Rd H' a (.dK qs) := by
  by_cases z : a = d
  · subst z
    have e2 : qs = ps := by
      rcases e with e | ⟨ob, e⟩ <;> rcases h.l with h | ⟨ob', h⟩ <;> rw [e] at h <;> cases h <;> rfl
    rw [e2]; exact h.r
  · rcases e with e | ⟨ob, e⟩
    · exact .inl (by rw [h.ne a z]; exact e)
    · exact .inr ⟨ob, by rw [h.ne a z]; exact e⟩
mutual
theorem VR.lk (h : Lk d ps H H') : ∀ (v : Val) (x : V), VR K ι H v x → VR K ι H' v x
  | .non, _, r => by cases r; exact .non
  | .bl b, _, r => by cases r; exact .bl b
  | .int i, _, r => by cases r; exact .int i
  | .str s, _, r => by cases r; exact .str s
  | .tup vs, _, r => by
    cases r with
    | tup e r => exact .tup (h.rdT e) (VRs.lk h vs _ r)
  | .lst vs, _, r => by
    cases r with
    | lst e n r => exact .lst (h.at e (fun _ z => nomatch z) fun _ _ z => nomatch z) n (VRs.lk h vs _ r)
  | .dct kvs, _, r => by
    cases r with
    | dct e n r => exact .dct (h.rdD e) n (VRp.lk h kvs _ r)
  | .ref n, _, r => by
    cases r with
    | ref e => exact .ref e
  | .exc _ _, _, r => by cases r
  | .scr _, _, r => by
    cases r with
    | scr e =>
      refine .scr ?_
      rcases e with ⟨e | ⟨ob, e⟩, n⟩ | e
      · exact .inl ⟨.inl (h.at e (fun _ z => nomatch z) fun _ _ z => nomatch z), n⟩
      · exact .inl ⟨.inr ⟨ob, h.at e (fun _ z => nomatch z) fun _ _ z => by cases z⟩, n⟩
      · exact .inr e
theorem VRs.lk (h : Lk d ps H H') : ∀ (vs : List Val) (xs : List V), VRs K ι H vs xs → VRs K ι H' vs xs
  | [], _, r => by cases r; exact .nil
  | v :: vs, _, r => by
    cases r with
    | cons e t => exact .cons (VR.lk h v _ e) (VRs.lk h vs _ t)
theorem VRp.lk (h : Lk d ps H H') : ∀ (vs : List (Val × Val)) (xs : List (Key × V)), VRp K ι H vs xs → VRp K ι H' vs xs
  | [], _, r => by cases r; exact .nil
  | (v, w) :: vs, _, r => by
    cases r with
    | cons e t => exact .cons (VR.lk h w _ e) (VRp.lk h vs _ t)
end
theorem RelS.lk {S : Sto} (r : RelS K S ι H) (h : Lk d ps H H') : RelS K S ι H' :=
  ⟨r.len, r.nd, fun n o a e1 e2 => by
    cases r.ob n o a e1 e2 with
    | lst e q b => exact .lst (h.at e (fun _ z => nomatch z) fun _ _ z => nomatch z) (VRs.lk h _ _ q) b, fun a ha => ⟨(r.bn a ha).1, by
    obtain ⟨_, xs, e⟩ := r.bn a ha
    exact ⟨xs, h.at e (fun _ z => nomatch z) fun _ _ z => nomatch z⟩⟩⟩
theorem EnvR.lk {ρ : Env} {σ : L2.St} (r : EnvR K ι H ρ σ) (h : Lk d ps H H') : EnvR K ι H' ρ σ :=
  ⟨r.len, fun i v e => let ⟨x, h1, h2⟩ := r.at_ i v e; ⟨x, h1, VR.lk h v x h2⟩⟩
end
theorem compL_ne {g : Tg} {t : Ts} {e : Ex} {ρ : Env} {er : Er} {S' : Sto} : ∀ (xs acc : List Val) (S : Sto), compL finL g t e ρ xs acc S ≠ .er er S'
  | [], acc, S => by simp [compL, finL]
  | x :: xs, acc, S => by
    unfold compL
    split
    · unfold compK
      cases t _ S with
      | ok c S1 =>
        simp only [bnx_ok]
        split
        · cases e _ S1 with
          | ok v S2 =>
            simp only [bnx_ok]
            split
            · exact compL_ne xs _ _
            · simp
          | er _ _ => simp
          | bad => simp
        · exact compL_ne xs _ _
      | er _ _ => simp
      | bad => simp
    · simp
/-- what is walked: the keys of the dict in slot i -/
def iKeysV (i : Nat) : TW.It := fun ρ S => match ρ[i]? with
  | some (some (.dct kvs)) => .ok (.row (kvs.map (·.1))) S
  | _ => .bad
def rdK (K : PySem.W.Frag) (W : Wish) (i : Nat) : TI := fun σ H R => ∃ ρ S ι kvs d o ps, Sta K ρ S ι σ H ∧ ρ[i]? = some (some (.dct kvs)) ∧ σ[i]? = some (some (.ref d)) ∧ H d = some (.frz o (.dK ps)) ∧ ι.out d ∧ VRp K ι H kvs ps ∧
  Fin K W (SrcR K) (.ok (.row (kvs.map (·.1))) S) ι H R
theorem VRp.keys {K : PySem.W.Frag} {ι : Pl} {H : Hp} : ∀ {kvs : List (Val × Val)} {ps : List (Key × V)}, VRp K ι H kvs ps → kvs.map (·.1) = ps.map fun p => keyVal p.1
  | _, _, .nil => rfl
  | _, _, .cons _ t => by rw [List.map_cons, List.map_cons, VRp.keys t]
theorem row_keys {K : PySem.W.Frag} {ι : Pl} {H : Hp} {d : Addr} {o : Obj} {kvs : List (Val × Val)} {ps : List (Key × V)} (h : H d = some (.frz o (.dK ps))) (n : ι.out d) (r : VRp K ι H kvs ps) : SrcR K ι H (.row (kvs.map (·.1))) (Itk d o ps) := by
  rw [r.keys]
  refine .row fun ι2 H2 e i => ⟨fun hi => ⟨(e.keep d _ n h).2, by simpa using hi⟩, fun v hv => ?_⟩
  rw [List.getElem?_map] at hv
  cases hp : ps[i]? with
  | none => rw [hp] at hv; cases hv
  | some p =>
    rw [hp] at hv
    cases hv
    refine ⟨⟨(e.keep d _ n h).2, (List.getElem?_eq_some_iff.mp hp).1⟩, fun x H3 ⟨e3, k, w, e4, e5⟩ => ⟨.inl e3, ?_⟩⟩
    rw [hp] at e4
    cases e4
    subst e5
    cases k with
    | inl i => exact .int i
    | inr x => exact .str x
theorem i_keys (C : Cxt en X W N sc fb n) {tg : Expr} {i : Nat} {x : Str} (h : varB N sc i x = true) : PI X tg (.Name x pos) (rdK X.K W i) := by
  obtain ⟨h1, h2, h3, h4⟩ := C.var h
  refine PI.weak (pi_keys (pe_var h1 h2 h3 h4)) fun σ H R ⟨ρ, S, ι, kvs, d, o, ps, st, e1, e2, e3, n, r, f⟩ => ?_
  exact ⟨_, e2, d, o, rfl, .inl ⟨ps, e3, f ι H _ st.st .refl (row_keys e3 n r)⟩⟩
theorem e_compD (C : Cxt en X W N sc fb n) {elt tg : Expr} {scope : Scope} {own : List (Str × Nat)} {is : List Nat} {g : Tg} {i : Nat} {x : Str} {p : Pos} {ts : Ts} {mb : Ex} {ifs : List Expr} (h : varB N sc i x = true) (ok : BlkOk N sc scope own) (his : ∀ i ∈ is, i ∈ own.map (·.2))
    (hg : ∀ Y : Cx, Cxt en Y W0 N (relS scope sc) (fun x => scope.names.lookup x == some .cell) n → PG Y tg (rdG Y.K is g) ∧ PTs Y ifs (rdT Y.K W0 ts) ∧ PE Y elt (rdE Y.K W0 mb))
    (hs : ∀ y, foldedSetIterable (.Name x p) X.env y = pure y) : PE X (.ListComp elt [⟨tg, .Name x p, ifs, 0⟩] scope pos) (rdE X.K W (eComp (iKeysV i) (own.map (·.2)) g ts mb)) := by
  have ok' : BlkOk X.N X.env.scope scope own := by rw [C.hN, C.hs]; exact ok
  have base := pe_lc (pos := pos) (g := rdG X.K is g) (tt := rdT X.K W0 ts) (te := rdE X.K W0 mb) C.calm (by rw [C.hN]; exact C.nd) (i_keys C (pos := p) (tg := tg) h) ok' (fun s H Cl cl fp => (hg (X.blk s H scope (compEnvC scope cl Cl X.env) fp) (C.blk s H scope Cl cl fp ok.kind)).1) (fun s H Cl cl fp => (hg (X.blk s H scope (compEnvC scope cl Cl X.env) fp) (C.blk s H scope Cl cl fp ok.kind)).2.1) (fun s H Cl cl fp => (hg (X.blk s H scope (compEnvC scope cl Cl X.env) fp) (C.blk s H scope Cl cl fp ok.kind)).2.2) hs
  refine PE.weak (PE.or (pe_lock base) base) fun σ H Q ⟨ρ, S, ι, st, f⟩ => ?_
  cases hi : ρ[i]? with
  | none => simp only [eCompK, iKeysV, hi] at f; exact f.elim
  | some o =>
    cases o with
    | none => simp only [eCompK, iKeysV, hi] at f; exact f.elim
    | some v =>
      cases v with
      | dct kvs =>
        have f' : Fin X.K W (VR X.K) (compL finL g ts mb (TW.wipe ρ (own.map (·.2))) (kvs.map (·.1)) [] S) ι H Q := by simpa only [eCompK, iKeysV, hi, bnd_ok] using f
        obtain ⟨y, ey, ry⟩ := st.en.at_ i _ hi
        cases ry with
        | @dct d _ ps hd n r =>
          rcases hd with hd | ⟨od, hd⟩
          · refine .inl ⟨d, .dK ps, hd, trivial, fun od => ?_⟩
            have L : Lk d ps H (upd H d (.frz od (.dK ps))) := ⟨fun a z => upd_ne z, .inl hd, .inr ⟨od, upd_same⟩⟩
            have st' : Sta X.K ρ S ι σ (upd H d (.frz od (.dK ps))) := ⟨st.st.lk L, st.en.lk L⟩
            refine rd_comp0 (it := fun _ _ => .ok (.row (kvs.map (·.1))) S) (fin := finL) (W := W) finL_ok his st' ?_ _ fun R hR => ⟨ρ, S, ι, kvs, d, od, ps, st', hi, ey, upd_same, n, VRp.lk L _ _ r, hR⟩
            show Fin X.K W (VR X.K) (compL finL g ts mb (TW.wipe ρ (own.map (·.2))) (kvs.map (·.1)) [] S) ι _ _
            refine Fin.x (fun e S' => compL_ne _ _ _) (fun e => by rw [e] at f'; exact f'.elim) fun w S' ι' H' z ew r1 e1 g1 => ?_
            rw [ew] at f'
            have hd' : H' d = some (.frz od (.dK ps)) := (e1.keep d _ n upd_same).2
            have L' : Lk d ps H' (upd H' d (.dK ps)) := ⟨fun a z => upd_ne z, .inr ⟨od, hd'⟩, .inl upd_same⟩
            refine ⟨hd', f' ι' _ z (r1.lk L') ⟨⟨e1.pre, fun a o na ha => ?_⟩, e1.ban, fun a m => ?_⟩ (VR.lk L' _ _ g1)⟩
            · by_cases z : a = d
              · subst z
                rw [hd] at ha
                cases ha
                exact ⟨(e1.keep a _ n upd_same).1, upd_same⟩
              · rw [upd_ne z]
                exact e1.keep a o na (by rw [upd_ne z]; exact ha)
            · have nz : a ≠ d := fun z => n.2 (z ▸ m)
              rw [upd_ne nz, e1.keepb a m, upd_ne nz]
          · exact .inr (rd_comp0 (it := fun _ _ => .ok (.row (kvs.map (·.1))) S) (fin := finL) (W := W) (g := g) (ts := ts) (mb := mb) finL_ok his st (show Fin X.K W (VR X.K) (eCompK finL (fun _ _ => .ok (.row (kvs.map (·.1))) S) (own.map (·.2)) g ts mb ρ S) ι H Q from f') _ fun R hR => ⟨ρ, S, ι, kvs, d, od, ps, st, hi, ey, hd, n, r, hR⟩)
      | _ => simp only [eCompK, iKeysV, hi] at f; exact f.elim
end
end TW
/-! TW.Comp2: list comprehensions of two clauses. -/
namespace TW
open PySem PySem.Spec PyProof.Rows L2

section
variable {en : En} {X : Cx} {W : Wish} {N : List Str} {sc : Scope} {fb : Str → Bool} {n : Nat} {pos : Pos} {ts ts1 : Ts} {mb : Ex} {ifs ifs1 : List Expr}
theorem EnvR.unext {K : PySem.W.Frag} {ι ι' : Pl} {H H' : Hp} {ρ : Env} {σ : L2.St} (r : EnvR K ι H ρ σ) (o : Off ι H) (e : Ext0 ι H ι' H') : EnvR K ι' H' ρ σ := r.ext o e
theorem rd_comp2 {fin : List Val → Sto → Res Val} (hfin : FinOk X.K W fin) {it it1 : TW.It} {own is is1 : List Nat} {g g1 : Tg} (his : ∀ i ∈ is, i ∈ own) {σ : L2.St} {H : Hp} {Q : VK} (h : rdE X.K W (eComp2 fin it own g ts it1 is1 g1 ts1 mb) σ H Q) :
    tLc2 (rdI X.K W it) (rdG X.K is g) (rdT X.K W0 ts) (rdI X.K W0 it1) (rdG X.K is1 g1) (rdT X.K W0 ts1) (rdE X.K W0 mb) own is1 σ H Q := by
  obtain ⟨ρ, S, ι, st, f⟩ := h
  refine ⟨ρ, S, ι, st, f.step fun src S1 ι1 H1 J _ r1 e1 g1' f1 => ?_⟩
  intro D hD
  have en : EnvR X.K (ι1.ban D) (upd H1 D (.lst [])) (TW.wipe ρ own) (L2.wipe σ own) := ((st.en.ext st.st.off e1.toExt0).wipe own).ext r1.off (Ext0.ban hD)
  have i0' : In1 ι1 H1 D (ι1.ban D) (upd H1 D (.lst [])) := In1.start r1 hD
  cases g1' with
  | @cell i0 p hp => exact f1.elim
  | @row vs J hJ =>
    refine ⟨fun i k H => k = vs.length - i ∧ i ≤ vs.length ∧ ∃ S ι acc xs, RelS X.K S ι H ∧ EnvR X.K ι H (TW.wipe ρ own) (L2.wipe σ own) ∧ In1 ι1 H1 D ι H ∧ H D = some (.lst xs) ∧ VRs X.K ι H acc xs ∧ Fin X.K W (VR X.K) (comp2L fin g ts it1 is1 g1 ts1 mb (TW.wipe ρ own) (vs.drop i) acc S) ι1 H1 Q,
      ⟨_, rfl, Nat.zero_le _, S1, _, [], [], r1.ban hD, en, i0', upd_same, .nil, f1⟩, ?_⟩
    rintro i k H2 ⟨rfl, hi, S2, ι2, acc, xs, r2, en2, i2, hD2, ra, f2⟩
    by_cases hlt : i < vs.length
    · rw [List.drop_eq_getElem_cons hlt] at f2
      have hv : vs[i]? = some vs[i] := List.getElem?_eq_getElem hlt
      obtain ⟨go, yl⟩ := (hJ ι2 H2 i2.e0 i).2 _ hv
      refine .inr ⟨go, fun H' => i + 1 ≤ vs.length ∧ ∃ S ι acc xs, RelS X.K S ι H' ∧ EnvR X.K ι H' (TW.wipe ρ own) (L2.wipe σ own) ∧ In1 ι1 H1 D ι H' ∧ H' D = some (.lst xs) ∧ VRs X.K ι H' acc xs ∧ Fin X.K W (VR X.K) (comp2L fin g ts it1 is1 g1 ts1 mb (TW.wipe ρ own) (vs.drop (i + 1)) acc S) ι1 H1 Q,
        fun H' ⟨h, q⟩ => ⟨vs.length - (i + 1), by omega, rfl, h, q⟩, fun x H3 y3 => ?_⟩
      obtain ⟨lat, rx⟩ := yl x H3 y3
      have le := lat.ext r2
      have r3 := lat.rel r2
      have i3 := i2.ext le
      have en3 := en2.ext r2.off le.toExt0
      have hD3 : H3 D = some (.lst xs) := (le.keepb D i2.mem).trans hD2
      have ra3 := ra.ext r2.off le.toExt0
      unfold comp2L at f2
      split at f2
      · rename_i ρ' eg
        refine ⟨_, S2, ι2, _, ⟨r3, en3⟩, rx, ρ', eg, fun σ' s' sm => ⟨by rw [sm own his, wipe_wipe σ own own fun _ h => h], ρ', S2, ι2, s', Fin.stepx f2 fun c S4 ι4 H4 x4 _ r4 e4 g4 f4 => ?_⟩⟩
        have hD4 : H4 D = some (.lst xs) := (e4.keepb D i3.mem).trans hD3
        have i4 := i3.ext e4
        have ra4 := ra3.ext r3.off e4.toExt0
        have en4 := en3.ext r3.off e4.toExt0
        cases g4
        cases c with
        | false =>
          rw [if_neg Bool.false_ne_true] at f4 ⊢
          exact ⟨hlt, S4, ι4, acc, xs, r4, en4, i4, hD4, ra4, f4⟩
        | true =>
          rw [if_pos rfl] at f4 ⊢
          refine ⟨ρ', S4, ι4, s'.to r4 e4, Fin.stepx f4 fun src S5 ι5 H5 J1 _ r5 e5 g5 f5 => ?_⟩
          have hD5 : H5 D = some (.lst xs) := (e5.keepb D i4.mem).trans hD4
          have i5 := i4.ext e5
          have ra5 := ra4.ext r4.off e5.toExt0
          have en5 := en4.ext r4.off e5.toExt0
          have enI : EnvR X.K ι5 H5 (TW.wipe ρ' is1) (L2.wipe σ' is1) := ((s'.en.ext r3.off e4.toExt0).ext r4.off e5.toExt0).wipe is1
          cases g5 with
          | @cell i1 p1 hp1 => exact f5.elim
          | @row ws J1 hJ1 =>
            refine ⟨fun j k H => k = ws.length - j ∧ j ≤ ws.length ∧ ∃ S ι acc xs, RelS X.K S ι H ∧ EnvR X.K ι H (TW.wipe ρ own) (L2.wipe σ own) ∧ EnvR X.K ι H (TW.wipe ρ' is1) (L2.wipe σ' is1) ∧ In1 ι1 H1 D ι H ∧ Ext0 ι5 H5 ι H ∧ H D = some (.lst xs) ∧ VRs X.K ι H acc xs ∧
                Fin X.K W (VR X.K) (comp1L g1 ts1 mb (TW.wipe ρ' is1) (comp2L fin g ts it1 is1 g1 ts1 mb (TW.wipe ρ own) (vs.drop (i + 1))) (ws.drop j) acc S) ι1 H1 Q,
              ⟨_, rfl, Nat.zero_le _, S5, ι5, acc, xs, r5, en5, enI, i5, ⟨List.prefix_refl _, fun a o n h => ⟨n, h⟩⟩, hD5, ra5, f5⟩, ?_⟩
            rintro j k H6 ⟨rfl, hj, S6, ι6, acc6, xs6, r6, en6, enI6, i6, e6, hD6, ra6, f6⟩
            by_cases hlj : j < ws.length
            · rw [List.drop_eq_getElem_cons hlj] at f6
              have hw : ws[j]? = some ws[j] := List.getElem?_eq_getElem hlj
              obtain ⟨go1, yl1⟩ := (hJ1 ι6 H6 e6 j).2 _ hw
              refine .inr ⟨go1, fun H => j + 1 ≤ ws.length ∧ ∃ S ι acc xs, RelS X.K S ι H ∧ EnvR X.K ι H (TW.wipe ρ own) (L2.wipe σ own) ∧ EnvR X.K ι H (TW.wipe ρ' is1) (L2.wipe σ' is1) ∧ In1 ι1 H1 D ι H ∧ Ext0 ι5 H5 ι H ∧ H D = some (.lst xs) ∧ VRs X.K ι H acc xs ∧
                Fin X.K W (VR X.K) (comp1L g1 ts1 mb (TW.wipe ρ' is1) (comp2L fin g ts it1 is1 g1 ts1 mb (TW.wipe ρ own) (vs.drop (i + 1))) (ws.drop (j + 1)) acc S) ι1 H1 Q,
                fun H' ⟨h, q⟩ => ⟨ws.length - (j + 1), by omega, rfl, h, q⟩, fun x7 H7 y7 => ?_⟩
              obtain ⟨lat7, rx7⟩ := yl1 x7 H7 y7
              have le7 := lat7.ext r6
              have r7 := lat7.rel r6
              have i7 := i6.ext le7
              have en7 := en6.ext r6.off le7.toExt0
              have enI7 := enI6.ext r6.off le7.toExt0
              have hD7 : H7 D = some (.lst xs6) := (le7.keepb D i6.mem).trans hD6
              have ra7 := ra6.ext r6.off le7.toExt0
              unfold comp1L at f6
              split at f6
              · rename_i ρ7 eg7
                refine ⟨_, S6, ι6, _, ⟨r7, enI7⟩, rx7, ρ7, eg7, fun σ7 s7 sm7 => ⟨by rw [sm7 is1 fun _ h => h, wipe_wipe σ' is1 is1 fun _ h => h], comp_turn s7 i7 hD7 ra7 f6 fun acc' S8 ι8 H8 xs8 r8 i8 e8 hD8 ra8 f8 => ⟨hlj, S8, ι8, acc', xs8, r8, en7.ext r7.off e8, enI7.ext r7.off e8, i8, (e6.trans le7.toExt0).trans e8, hD8, ra8, f8⟩⟩⟩
              · exact f6.elim
            · have e : j = ws.length := by omega
              subst e
              rw [List.drop_length] at f6
              exact .inl ⟨(hJ1 ι6 H6 e6 _).1 (Nat.le_refl _), hlt, S6, ι6, acc6, xs6, r6, en6, i6, hD6, ra6, f6⟩
      · exact f2.elim
    · have e : i = vs.length := by omega
      subst e
      rw [List.drop_length] at f2
      refine .inl ⟨(hJ ι2 H2 i2.e0 _).1 (Nat.le_refl _), ?_⟩
      exact hfin acc S2 ι1 ι2 H1 H2 D xs Q r2 i2 hD2 ra f2
theorem e_comp2 (C : Cxt en X W N sc fb n) {fin : List Val → Sto → Res Val} (hfin : FinOk X.K W fin) {elt tg iter tg1 iter1 : Expr} {scope : Scope} {own : List (Str × Nat)} {it it1 : TW.It} {is is1 : List Nat} {g g1 : Tg} (hi : PI X tg iter (rdI X.K W it)) (ok : BlkOk N sc scope own) (his : ∀ i ∈ is, i ∈ own.map (·.2)) (his1 : ∀ i ∈ is1, i ∈ own.map (·.2))
    (hg : ∀ Y : Cx, Cxt en Y W0 N (relS scope sc) (fun x => scope.names.lookup x == some .cell) n → PG Y tg (rdG Y.K is g) ∧ PTs Y ifs (rdT Y.K W0 ts) ∧ PI Y tg1 iter1 (rdI Y.K W0 it1) ∧ PG Y tg1 (rdG Y.K is1 g1) ∧ PTs Y ifs1 (rdT Y.K W0 ts1) ∧ PE Y elt (rdE Y.K W0 mb))
    (hs : ∀ x, foldedSetIterable iter X.env x = pure x) (hs1 : ∀ env x, foldedSetIterable iter1 env x = pure x) : PE X (.ListComp elt [⟨tg, iter, ifs, 0⟩, ⟨tg1, iter1, ifs1, 0⟩] scope pos) (rdE X.K W (eComp2 fin it (own.map (·.2)) g ts it1 is1 g1 ts1 mb)) := by
  have ok' : BlkOk X.N X.env.scope scope own := by rw [C.hN, C.hs]; exact ok
  have all := fun (s : Shared) (H : Hp) (Cl : Addr) (cl : List (Str × Addr)) (fp : List Addr) => hg (X.blk s H scope (compEnvC scope cl Cl X.env) fp) (C.blk s H scope Cl cl fp ok.kind)
  exact PE.weak (pe_lc2 (g := rdG X.K is g) (tt := rdT X.K W0 ts) (wi1 := rdI X.K W0 it1) (g1 := rdG X.K is1 g1) (tt1 := rdT X.K W0 ts1) (te := rdE X.K W0 mb) C.calm (by rw [C.hN]; exact C.nd) hi ok' his1 (fun s H Cl cl fp => (all s H Cl cl fp).1) (fun s H Cl cl fp => (all s H Cl cl fp).2.1) (fun s H Cl cl fp => (all s H Cl cl fp).2.2.1) (fun s H Cl cl fp => (all s H Cl cl fp).2.2.2.1)
    (fun s H Cl cl fp => (all s H Cl cl fp).2.2.2.2.1) (fun s H Cl cl fp => (all s H Cl cl fp).2.2.2.2.2) hs hs1) fun σ H Q h => rd_comp2 hfin his h
end
end TW
/-! TW.Set: how many distinct items a list has. -/
namespace TW
open PySem PySem.Spec PyProof.Rows L2

theorem dedup_eq (ns : List Int) : firstMet (fun i => ns.getD i 0) ns.length = distinct ns := by
  unfold firstMet distinct
  have e : (List.range ns.length).map (fun i => ns.getD i 0) = ns := by
    apply List.ext_getElem
    · simp
    · intro i h1 h2
      simp at h1
      simp [h1]
  rw [e]
  have f : ∀ (l acc : List Int), l.foldl step_dedup acc = l.foldl addNew acc := by
    intro l
    induction l with
    | nil => intro acc; rfl
    | cons a l ih =>
      intro acc
      rw [List.foldl_cons, List.foldl_cons, ih]
      congr 1
      unfold step_dedup addNew
      simp
  exact f ns []
section
variable {en : En} {X : Cx} {W : Wish} {N : List Str} {sc : Scope} {fb : Str → Bool} {n : Nat} {a : Expr} {ma : Ex}
theorem e_lenSet (C : Cxt en X W N sc fb n) {p p2 q pos : Pos} (hm : en.mg "len" = none) (hg : gloB sc "len" = true) (hm2 : en.mg "set" = none) (hg2 : gloB sc "set" = true) (ha : PE X a (rdE X.K W ma))
    (na : starEach [a] X.env = (false, eval a X.env) :: starEach [] X.env := by rfl) : PE X (.Call (.Name "len" p) [.Call (.Name "set" p2) [a] [] q] [] pos) (rdE X.K W (eUn lenSetV ma)) := by
  refine ⟨fun pins s σ H Q I ⟨ρ, S, ι, st, f⟩ => ?_⟩
  refine Call_ (ld_blt I (C.glo hg).1 (C.free hm) boot_len ?_)
  refine callWith_builtin1 (args_cons ?_ rfl) rfl rfl
  refine Call_ (ld_blt I (C.glo hg2).1 (C.free hm2) boot_set ?_)
  refine callWith_type1 (args_cons (thn (ha.run pins s σ H (fun x H1 => ∃ (l : Addr) (ns : List Int), x = .ref l ∧ H1 l = some (.lst (ns.map V.int)) ∧ ns.length ≤ 4000 ∧ Q (.int ((distinct ns).length : Nat)) H1) I ⟨ρ, S, ι, st, f.step fun v S1 ι1 H1 x _ r1 e1 g1 f1 => ?_⟩) fun v s1 ⟨x, H1, I1, r1, l, ns, ex, hq, hl, q1⟩ => args_nil ?_) na) na rfl
  · unfold lenSetV at f1
    split at f1
    · rename_i xs e
      obtain ⟨l, zs, rfl, h1, rr⟩ := asL_at r1 g1 e
      split at f1
      · rename_i ns e2
        split at f1
        · rename_i hz
          rw [ints_at rr e2] at h1
          exact ⟨l, ns, rfl, h1, hz, f1.int r1⟩
        · exact f1.elim
      · exact f1.elim
    · exact f1.elim
  · subst ex
    cases r1
    obtain ⟨its, r, pl, hz⟩ := I1.list (.of hq)
    have hlen : its.toArray.size = ns.length := by rw [List.size_toArray, ← r.length, List.length_map]
    have hd : (distinct ns).length ≤ ns.length := by rw [← dedup_eq]; exact firstMet_length_le _ _
    refine call_set_list (I1.ok.hd C.calm) pl.isList (by simpa using intsAre_of r) (by rw [hlen]; unfold scanBound; omega) fun h' tk hS hk => ?_
    refine args_nil ?_
    rw [hlen, dedup_eq] at hS
    obtain ⟨o, es, ep, t, ho, hex, hdt, _, _, _, hf, hn⟩ := hS
    have I2 : Inv X pins σ H1 { s1 with heap := h', toks := tk } := I1.kept fun b o e => hk b o (Heap.lt_size e) e
    exact call_len_set ho hex hdt hf (by rw [hn] <;> omega) ⟨.int (distinct ns).length, H1, I2.tok _, ⟨_, by rw [hn]⟩, q1⟩
end
end TW
/-! TW.Rng: tuple(range(..)), list(range(..)). -/
namespace TW
open PySem PySem.Spec PyProof.Rows L2
theorem rgV_vals {K : PySem.W.Frag} {ι : Pl} {H : Hp} {a b : Int} {n : Nat} (h : (b - a).toNat = n) : VRs K ι H (rowI a n) (rgV a b) := by
  subst h
  have := scr_vals (K := K) (ι := ι) (H := H) ((List.range (b - a).toNat).map fun i => (a + (i : Nat) : Int))
  simpa [rowI, rgV, List.map_map, Function.comp_def] using this
section
variable {en : En} {X : Cx} {W : Wish} {N : List Str} {sc : Scope} {fb : Str → Bool} {n : Nat} {a b : Expr} {ma mb : Ex}
theorem e_rng1T (C : Cxt en X W N sc fb n) {p p2 q pos : Pos} (hm : en.mg "range" = none) (hg : gloB sc "range" = true) (hm2 : en.mg "tuple" = none) (hg2 : gloB sc "tuple" = true) (ha : PE X a (rdE X.K W ma))
    (na : starEach [a] X.env = (false, eval a X.env) :: starEach [] X.env := by rfl)
    (nb : starEach [.Call (.Name "range" p) [a] [] pos] X.env = (false, eval (.Call (.Name "range" p) [a] [] pos) X.env) :: starEach [] X.env := by rfl) : PE X (.Call (.Name "tuple" p2) [.Call (.Name "range" p) [a] [] pos] [] q) (rdE X.K W (eRng1 .tuple ma)) := by
  refine PE.weak (pe_tupRg C.calm (C.glo hg2).1 (C.free hm2) (prg_1 (C.glo hg).1 (C.free hm) ha na) nb) fun σ H Q ⟨ρ, S, ι, st, f⟩ => ⟨ρ, S, ι, st, f.step fun v S1 ι1 H1 x _ r1 e1 g1 f1 => ?_⟩
  split at f1
  · cases g1
    split at f1
    · rename_i i hz
      exact ⟨_, rfl, ⟨by omega, by omega, by omega, by omega, by omega⟩, f1.newT r1 (rgV_vals (by omega))⟩
    · exact f1.elim
  · exact f1.elim
theorem e_rng1L (C : Cxt en X W N sc fb n) {p p2 q pos : Pos} (hm : en.mg "range" = none) (hg : gloB sc "range" = true) (hm2 : en.mg "list" = none) (hg2 : gloB sc "list" = true) (ha : PE X a (rdE X.K W ma))
    (na : starEach [a] X.env = (false, eval a X.env) :: starEach [] X.env := by rfl)
    (nb : starEach [.Call (.Name "range" p) [a] [] pos] X.env = (false, eval (.Call (.Name "range" p) [a] [] pos) X.env) :: starEach [] X.env := by rfl) : PE X (.Call (.Name "list" p2) [.Call (.Name "range" p) [a] [] pos] [] q) (rdE X.K W (eRng1 .list ma)) := by
  refine PE.weak (pe_listRg C.calm (C.glo hg2).1 (C.free hm2) (prg_1 (C.glo hg).1 (C.free hm) ha na) nb) fun σ H Q ⟨ρ, S, ι, st, f⟩ => ⟨ρ, S, ι, st, f.step fun v S1 ι1 H1 x _ r1 e1 g1 f1 => ?_⟩
  split at f1
  · cases g1
    split at f1
    · rename_i i hz
      exact ⟨_, rfl, ⟨by omega, by omega, by omega, by omega, by omega⟩, f1.newL r1 (rgV_vals (by omega))⟩
    · exact f1.elim
  · exact f1.elim
theorem e_rng2T (C : Cxt en X W N sc fb n) {p p2 q pos : Pos} (hm : en.mg "range" = none) (hg : gloB sc "range" = true) (hm2 : en.mg "tuple" = none) (hg2 : gloB sc "tuple" = true) (ha : PE X a (rdE X.K W ma)) (hb : PE X b (rdE X.K W mb))
    (na : starEach [a, b] X.env = (false, eval a X.env) :: starEach [b] X.env := by rfl)
    (na2 : starEach [b] X.env = (false, eval b X.env) :: starEach [] X.env := by rfl) (na3 : (backTo pos (starEach [b] X.env)).any (·.1) = false := by rfl)
    (nb : starEach [.Call (.Name "range" p) [a, b] [] pos] X.env = (false, eval (.Call (.Name "range" p) [a, b] [] pos) X.env) :: starEach [] X.env := by rfl) : PE X (.Call (.Name "tuple" p2) [.Call (.Name "range" p) [a, b] [] pos] [] q) (rdE X.K W (eRng2 .tuple ma mb)) := by
  refine PE.weak (pe_tupRg C.calm (C.glo hg2).1 (C.free hm2) (prg_2 (C.glo hg).1 (C.free hm) ha hb na na2 na3) nb) fun σ H Q ⟨ρ, S, ι, st, f⟩ => ⟨ρ, S, ι, st, f.step fun v S1 ι1 H1 x _ r1 e1 g1 f1 => ⟨ρ, S1, ι1, st.to r1 e1, f1.step fun w S2 ι2 H2 y _ r2 e2 g2 f2 => ?_⟩⟩
  split at f2
  · cases g1; cases g2
    split at f2
    · rename_i i j hz
      exact ⟨_, _, rfl, rfl, ⟨by omega, by omega, by omega, by omega, by omega⟩, f2.newT r2 (rgV_vals rfl)⟩
    · exact f2.elim
  · exact f2.elim
theorem e_rng2L (C : Cxt en X W N sc fb n) {p p2 q pos : Pos} (hm : en.mg "range" = none) (hg : gloB sc "range" = true) (hm2 : en.mg "list" = none) (hg2 : gloB sc "list" = true) (ha : PE X a (rdE X.K W ma)) (hb : PE X b (rdE X.K W mb))
    (na : starEach [a, b] X.env = (false, eval a X.env) :: starEach [b] X.env := by rfl)
    (na2 : starEach [b] X.env = (false, eval b X.env) :: starEach [] X.env := by rfl) (na3 : (backTo pos (starEach [b] X.env)).any (·.1) = false := by rfl)
    (nb : starEach [.Call (.Name "range" p) [a, b] [] pos] X.env = (false, eval (.Call (.Name "range" p) [a, b] [] pos) X.env) :: starEach [] X.env := by rfl) : PE X (.Call (.Name "list" p2) [.Call (.Name "range" p) [a, b] [] pos] [] q) (rdE X.K W (eRng2 .list ma mb)) := by
  refine PE.weak (pe_listRg C.calm (C.glo hg2).1 (C.free hm2) (prg_2 (C.glo hg).1 (C.free hm) ha hb na na2 na3) nb) fun σ H Q ⟨ρ, S, ι, st, f⟩ => ⟨ρ, S, ι, st, f.step fun v S1 ι1 H1 x _ r1 e1 g1 f1 => ⟨ρ, S1, ι1, st.to r1 e1, f1.step fun w S2 ι2 H2 y _ r2 e2 g2 f2 => ?_⟩⟩
  split at f2
  · cases g1; cases g2
    split at f2
    · rename_i i j hz
      exact ⟨_, _, rfl, rfl, ⟨by omega, by omega, by omega, by omega, by omega⟩, f2.newL r2 (rgV_vals rfl)⟩
    · exact f2.elim
  · exact f2.elim
end
end TW
/-! TW.Boot: what the built-in names stand for; short forms for derivations. -/
namespace TW
open PySem PySem.Spec PyProof.Rows L2
theorem bt_len : bootBuiltins "len" = some (.builtin "len") := by decide +kernel
theorem bt_all : bootBuiltins "all" = some (.builtin "all") := by decide +kernel
theorem bt_any : bootBuiltins "any" = some (.builtin "any") := by decide +kernel
theorem bt_sum : bootBuiltins "sum" = some (.builtin "sum") := by decide +kernel
theorem bt_abs : bootBuiltins "abs" = some (.builtin "abs") := by decide +kernel
theorem bt_max : bootBuiltins "max" = some (.builtin "max") := by decide +kernel
theorem bt_min : bootBuiltins "min" = some (.builtin "min") := by decide +kernel
theorem bt_sorted : bootBuiltins "sorted" = some (.builtin "sorted") := by decide +kernel
theorem bt_int : bootBuiltins "int" = some (.type "int") := by decide +kernel
theorem bt_bool : bootBuiltins "bool" = some (.type "bool") := by decide +kernel
theorem bt_str : bootBuiltins "str" = some (.type "str") := by decide +kernel
theorem bt_list : bootBuiltins "list" = some (.type "list") := by decide +kernel
theorem bt_tuple : bootBuiltins "tuple" = some (.type "tuple") := by decide +kernel
theorem bt_dict : bootBuiltins "dict" = some (.type "dict") := by decide +kernel
section
variable {en : En} {X : Cx} {W : Wish} {N : List Str} {sc : Scope} {fb : Str → Bool} {n : Nat}
theorem Cxt.sw (C : Cxt en X W N sc fb n) {elt : Expr} {gs : List Comprehension} {scope : Scope} {pos py : Pos} {y : Str} {l : Nat} (h : kindB sc y .local = false) : swapsWith (.ListComp elt gs scope pos) (some (.Name y py)) l X.env = pure false := by
  refine sw_false ?_
  rw [C.hs]
  exact h
theorem ip_mulI : PIp X .Mult (rd2 X.K W mulI) := by
  intro pins s σ H x y v u Q I rx ry ⟨S, ι, a, b, rs, ra, rb, g⟩
  unfold mulI at g
  split at g
  · cases ra; cases rb
    split at g
    · rename_i hz
      exact iop_mul pins s σ H _ _ v u Q I rx ry ⟨_, _, rfl, rfl, by simpa [mulOk, CMul] using hz, g.int rs⟩
    · exact g.elim
  · exact g.elim
end
/-- each def is called as it is computed, with room for n calls -/
abbrev Calls (en : En) (ds : List Df) (n : Nat) (c : CallF) : Prop := ∀ f d, look ds f = some d → CallOk en.P en.w en.K en.mg en.base n c f d.np
theorem gc_int {K : PySem.W.Frag} {mg : Str → Option Value} {x : Str} {i : Int} (h : ∃ t, mg x = some (.int i t)) : GC K mg x (.int i) := by
  obtain ⟨t, h⟩ := h
  exact ⟨_, .int i, h, ⟨t, rfl⟩, fun _ _ => .int i⟩
theorem gc_str {K : PySem.W.Frag} {mg : Str → Option Value} {x z : Str} (h : ∃ t, mg x = some (.str z t)) : GC K mg x (.str z) := by
  obtain ⟨t, h⟩ := h
  exact ⟨_, .str z, h, ⟨t, rfl⟩, fun _ _ => .str z⟩
end TW
/-! TW.Run: rules by which simp runs what was computed; what holds at the end (no heap, no program). -/
namespace TW
open PySem

/-! ### what holds of a result -/
def Res.sat {α : Type} (r : Res α) (P : α → Sto → Prop) : Prop := match r with
  | .ok a S => P a S
  | _ => False
structure Post where
  nx : Env → Sto → Prop := fun _ _ => False
  rt : Val → Sto → Prop := fun _ _ => False
  bk : Env → Sto → Prop := fun _ _ => False
  ct : Env → Sto → Prop := fun _ _ => False
def SR.sat (r : SR) (D : Post) : Prop := match r with
  | .nx ρ S => D.nx ρ S
  | .rt v S => D.rt v S
  | .bk ρ S => D.bk ρ S
  | .ct ρ S => D.ct ρ S
  | _ => False
section
variable {α β : Type} {P Q : α → Sto → Prop} {D D' : Post} {ρ : Env} {S : Sto}
@[simp] theorem sat_ok (a : α) : (Res.ok a S).sat P = P a S := nr rfl
@[simp] theorem sat_bad : (Res.bad : Res α).sat P = False := nr rfl
@[simp] theorem sat_er (e : Er) : (Res.er e S : Res α).sat P = False := nr rfl
@[simp] theorem sat_nx : (SR.nx ρ S).sat D = D.nx ρ S := nr rfl
@[simp] theorem sat_rt (v : Val) : (SR.rt v S).sat D = D.rt v S := nr rfl
@[simp] theorem sat_bk : (SR.bk ρ S).sat D = D.bk ρ S := nr rfl
@[simp] theorem sat_ct : (SR.ct ρ S).sat D = D.ct ρ S := nr rfl
@[simp] theorem sat_sbad : SR.bad.sat D = False := nr rfl
@[simp] theorem sat_ser (e : Er) : (SR.er e S).sat D = False := nr rfl
theorem Res.sat.mono {r : Res α} (h : r.sat P) (f : ∀ a S, P a S → Q a S) : r.sat Q := by
  cases r with
  | ok a S => exact f _ _ h
  | er e S => exact h
  | bad => exact h
theorem SR.sat.mono {r : SR} (h : r.sat D) (f1 : ∀ ρ S, D.nx ρ S → D'.nx ρ S) (f2 : ∀ ρ S, D.rt ρ S → D'.rt ρ S) (f3 : ∀ ρ S, D.bk ρ S → D'.bk ρ S) (f4 : ∀ ρ S, D.ct ρ S → D'.ct ρ S) : r.sat D' := by
  cases r with
  | nx ρ S => exact f1 _ _ h
  | rt v S => exact f2 _ _ h
  | bk ρ S => exact f3 _ _ h
  | ct ρ S => exact f4 _ _ h
  | er e S => exact h
  | bad => exact h
theorem Res.sat.eq {r : Res α} (h : r.sat P) : ∃ a S, r = .ok a S ∧ P a S := by
  cases r with
  | ok a S => exact ⟨a, S, rfl, h⟩
  | er e S => exact h.elim
  | bad => exact h.elim
theorem Res.sat.of_eq {r : Res α} {a : α} {S : Sto} (e : r = .ok a S) (h : P a S) : r.sat P := by rw [e]; exact h
@[simp] theorem sat_bnd (r : Res α) (f : α → Sto → Res β) (R : β → Sto → Prop) : (bnd r f).sat R = r.sat fun a S => (f a S).sat R := by cases r <;> rfl
@[simp] theorem sat_bnx (r : Res α) (f : α → Sto → Res β) (R : β → Sto → Prop) : (bnx r f).sat R = r.sat fun a S => (f a S).sat R := by cases r <;> rfl
@[simp] theorem sat_sb (r : Res α) (f : α → Sto → SR) : (sb r f).sat D = r.sat fun a S => (f a S).sat D := by cases r <;> rfl
@[simp] theorem sat_thn (r : SR) (b : Stm) : (sThen r b).sat D = r.sat { D with nx := fun ρ S => (b ρ S).sat D } := by cases r <;> rfl
@[simp] theorem sat_turn (r : SR) (g : Env → Sto → SR) : (turnK r g).sat D = r.sat { nx := fun ρ S => (g ρ S).sat D, ct := fun ρ S => (g ρ S).sat D, bk := D.nx, rt := D.rt } := by cases r <;> rfl
@[simp] theorem sat_ite (c : Prop) [Decidable c] (x y : Res α) : (if c then x else y).sat P = if c then x.sat P else y.sat P := by split <;> rfl
@[simp] theorem sat_site (c : Prop) [Decidable c] (x y : SR) : (if c then x else y).sat D = if c then x.sat D else y.sat D := by split <;> rfl
theorem sat_fin (keep : Bool) (k : Nat) (r : SR) (R : Val → Sto → Prop) : (finish keep k r).sat R = r.sat { nx := fun _ S => R .non (S.take k), rt := fun v S => (finV keep k v S).sat R } := by
  cases r with
  | er e S =>
    show Res.sat (if _ then _ else _) _ = _
    rw [sat_ite]
    split <;> rfl
  | _ => rfl
end

/-! ### values with no store place -/
mutual
theorem und_mono : ∀ (v : Val) (j k : Nat), j ≤ k → v.und j = true → v.und k = true
  | .non, _, _, _, _ => rfl | .bl _, _, _, _, _ => rfl | .int _, _, _, _, _ => rfl | .str _, _, _, _, _ => rfl | .scr _, _, _, _, _ => rfl
  | .tup xs, j, k, h, e => unds_mono2 xs j k h e
  | .lst xs, j, k, h, e => unds_mono2 xs j k h e
  | .dct xs, j, k, h, e => undp_mono2 xs j k h e
  | .ref n, j, k, h, e => by simp only [Val.und, decide_eq_true_eq] at e ⊢; omega
  | .exc _ a, j, k, h, e => und_mono a j k h e
theorem unds_mono2 : ∀ (v : List Val) (j k : Nat), j ≤ k → Val.unds j v = true → Val.unds k v = true
  | [], _, _, _, _ => rfl
  | x :: xs, j, k, h, e => by
    simp only [Val.unds, Bool.and_eq_true] at e ⊢
    exact ⟨und_mono x j k h e.1, unds_mono2 xs j k h e.2⟩
theorem undp_mono2 : ∀ (v : List (Val × Val)) (j k : Nat), j ≤ k → Val.undp j v = true → Val.undp k v = true
  | [], _, _, _, _ => rfl
  | (x, y) :: xs, j, k, h, e => by
    simp only [Val.undp, Bool.and_eq_true] at e ⊢
    exact ⟨und_mono x j k h e.1, und_mono y j k h e.2.1, undp_mono2 xs j k h e.2.2⟩
end
mutual
theorem und_dat : ∀ (v : Val), v.dat = true → v.und 0 = true
  | .non, _ => rfl | .bl _, _ => rfl | .int _, _ => rfl | .str _, _ => rfl
  | .tup xs, e => unds_dat xs e
  | .lst xs, e => unds_dat xs e
theorem unds_dat : ∀ (v : List Val), Val.dats v = true → Val.unds 0 v = true
  | [], _ => rfl
  | x :: xs, e => by
    simp only [Val.dats, Val.unds, Bool.and_eq_true] at e ⊢
    exact ⟨und_dat x e.1, unds_dat xs e.2⟩
end
theorem und_dat' {v : Val} {k : Nat} (h : v.dat = true) : v.und k = true := und_mono v 0 k (Nat.zero_le _) (und_dat v h)
theorem finV_und {v : Val} {k : Nat} {S : Sto} (h : v.und k = true) : finV false k v S = .ok v (S.take k) := by
  have e : thaw k v S = v := by
    unfold thaw
    split
    · rename_i n
      have hn : n < k := by simpa [Val.und] using h
      rw [if_neg (by omega)]
    · rfl
  unfold finV
  rw [e]
  simp [h]
theorem finV_dat {v : Val} {k : Nat} {S : Sto} (h : v.dat = true) : finV false k v S = .ok v (S.take k) := finV_und (und_dat' h)
@[simp] theorem finV_bl {b : Bool} {k : Nat} {S : Sto} : finV false k (.bl b) S = .ok (.bl b) (S.take k) := finV_und rfl
@[simp] theorem finV_int {b : Int} {k : Nat} {S : Sto} : finV false k (.int b) S = .ok (.int b) (S.take k) := finV_und rfl
@[simp] theorem finV_str {b : Str} {k : Nat} {S : Sto} : finV false k (.str b) S = .ok (.str b) (S.take k) := finV_und rfl
@[simp] theorem finV_non {k : Nat} {S : Sto} : finV false k .non S = .ok .non (S.take k) := finV_und rfl
@[simp] theorem finV_keep {v : Val} {k : Nat} {S : Sto} : finV true k v S = .ok v S := by simp [finV]
@[simp] theorem finish_nx {b : Bool} {k : Nat} {ρ : Env} {S : Sto} : finish b k (.nx ρ S) = .ok .non (S.take k) := nr rfl
@[simp] theorem finish_rt {b : Bool} {k : Nat} {v : Val} {S : Sto} : finish b k (.rt v S) = finV b k v S := nr rfl

/-! ### turning the crank -/
section
variable (ρ : Env) (S : Sto)
@[simp] theorem r_var (i : Nat) : eVar i ρ S = match ρ[i]? with
  | some (some v) => .ok v S
  | _ => .bad := nr rfl
@[simp] theorem r_C (v : Val) : eC v ρ S = .ok v S := nr rfl
@[simp] theorem r_bin (f : Op2) (a b : Ex) : eBin f a b ρ S = bnd (a ρ S) fun x S => bnd (b ρ S) fun y S => f x y S := nr rfl
@[simp] theorem r_un (f : Val → Sto → Res Val) (a : Ex) : eUn f a ρ S = bnd (a ρ S) fun x S => f x S := nr rfl
@[simp] theorem r_chain (f g : Op2) (a b c : Ex) : eChain f g a b c ρ S = bnd (a ρ S) fun x S => bnd (b ρ S) fun y S => bnd (f x y S) fun k S => match k with
  | .bl true => bnd (c ρ S) fun z S => g y z S
  | .bl false => .ok (.bl false) S
  | _ => .bad := nr rfl
@[simp] theorem r_nil : esNil ρ S = .ok [] S := nr rfl
@[simp] theorem r_cons (a : Ex) (r : Es) : esCons a r ρ S = bnd (a ρ S) fun x S => bnd (r ρ S) fun xs S => .ok (x :: xs) S := nr rfl
@[simp] theorem r_tup (es : Es) : eTup es ρ S = bnd (es ρ S) fun xs S => if xs.length ≤ sizeLine then .ok (.tup xs) S else .bad := nr rfl
@[simp] theorem r_lst (es : Es) : eLst es ρ S = bnd (es ρ S) fun xs S => if xs.length ≤ sizeLine then .ok (.lst xs) S else .bad := nr rfl
@[simp] theorem r_fn (f : Fn) (es : Es) : eFn f es ρ S = bnd (es ρ S) fun xs S => f xs S := nr rfl
@[simp] theorem r_call (c : CallF) (f : Str) (es : Es) : eCall c f es ρ S = bnd (es ρ S) fun xs S => c f xs S := nr rfl
@[simp] theorem r_is (a : Ex) (t : Ty) : eIs a t ρ S = bnd (a ρ S) fun x S => bnd (isB x t S) fun b S => .ok (.bl b) S := nr rfl
@[simp] theorem r_ptN : ptNone ρ S = .ok none S := nr rfl
@[simp] theorem r_ptS (a : Ex) : ptSome a ρ S = bnd (a ρ S) fun x S => match x with
  | .int i => .ok (some i) S
  | _ => .bad := nr rfl
@[simp] theorem r_sl (a : Ex) (lo hi : Pt) : eSl a lo hi ρ S = bnd (a ρ S) fun x S => bnd (lo ρ S) fun l S => bnd (hi ρ S) fun h S => slV x l h S := nr rfl
@[simp] theorem r_tVal (a : Ex) : tVal a ρ S = bnd (a ρ S) fun x S => match x with
  | .bl b => .ok b S
  | _ => .bad := nr rfl
@[simp] theorem r_tAnd (a b : Ts) : tAnd a b ρ S = bnd (a ρ S) fun x S => if x then b ρ S else .ok false S := nr rfl
@[simp] theorem r_tOr (a b : Ts) : tOr a b ρ S = bnd (a ρ S) fun x S => if x then .ok true S else b ρ S := nr rfl
@[simp] theorem r_tNot (a : Ts) : tNot a ρ S = bnd (a ρ S) fun x S => .ok (!x) S := nr rfl
@[simp] theorem r_eAnd (a b : Ex) : eAnd a b ρ S = bnd (a ρ S) fun x S => match x with
  | .bl true => b ρ S
  | .bl false => .ok (.bl false) S
  | _ => .bad := nr rfl
@[simp] theorem r_eOr (a b : Ex) : eOr a b ρ S = bnd (a ρ S) fun x S => match x with
  | .bl true => .ok (.bl true) S
  | .bl false => b ρ S
  | _ => .bad := nr rfl
@[simp] theorem r_eNot (a : Ex) : eNot a ρ S = bnd (a ρ S) fun x S => match x with
  | .bl b => .ok (.bl (!b)) S
  | _ => .bad := nr rfl
@[simp] theorem r_eIf (t : Ts) (a b : Ex) : eIf t a b ρ S = bnd (t ρ S) fun c S => if c then a ρ S else b ρ S := nr rfl
@[simp] theorem r_new (m : Ex) : eNew m ρ S = bnd (m ρ S) pushV := nr rfl
@[simp] theorem r_push (xs : List Val) : pushV (.lst xs) S = .ok (.ref S.length) (S ++ [.lst xs]) := nr rfl
@[simp] theorem r_M (ck : Val → Sto → Bool) (f : Mt) (a : Ex) (es : Es) : eM ck f a es ρ S = bnd (a ρ S) fun x S => if ck x S then bnd (es ρ S) fun ys S => f x ys S else .bad := nr rfl
@[simp] theorem r_tYes : tYes ρ S = .ok true S := nr rfl
@[simp] theorem r_iSeq (a : Ex) : iSeq a ρ S = bnd (a ρ S) fun x S => match x with
  | .tup xs => .ok (.row xs) S
  | .lst xs => .ok (.row xs) S
  | .ref n => (match S[n]? with
    | some (.lst _) => .ok (.cell n) S
    | _ => .bad)
  | _ => .bad := nr rfl
@[simp] theorem r_iRng1 (a : Ex) : iRng1 a ρ S = bnd (a ρ S) fun x S => match x with
  | .int j => if -(2 ^ 62) ≤ j ∧ j < 2 ^ 62 then .ok (.row (rowI 0 j.toNat)) S else .bad
  | _ => .bad := nr rfl
@[simp] theorem r_iRng2 (a b : Ex) : iRng2 a b ρ S = bnd (a ρ S) fun x S => bnd (b ρ S) fun y S => match x, y with
  | .int i, .int j => if -(2 ^ 62) ≤ i ∧ i < 2 ^ 62 ∧ -(2 ^ 62) ≤ j ∧ j < 2 ^ 62 then .ok (.row (rowI i (j - i).toNat)) S else .bad
  | _, _ => .bad := nr rfl
@[simp] theorem r_eRng1 (t : Ty) (a : Ex) : eRng1 t a ρ S = bnd (a ρ S) fun x S => match x with
  | .int j => if -10000 ≤ j ∧ j ≤ 10000 then rngT t (rowI 0 j.toNat) S else .bad
  | _ => .bad := nr rfl
@[simp] theorem r_eRng2 (t : Ty) (a b : Ex) : eRng2 t a b ρ S = bnd (a ρ S) fun x S => bnd (b ρ S) fun y S => match x, y with
  | .int i, .int j => if -10000 ≤ i ∧ i ≤ 10000 ∧ -10000 ≤ j ∧ j ≤ 10000 then rngT t (rowI i (j - i).toNat) S else .bad
  | _, _ => .bad := nr rfl
@[simp] theorem r_rngT (xs : List Val) : rngT .tuple xs S = .ok (.tup xs) S := nr rfl
@[simp] theorem r_rngL (xs : List Val) : rngT .list xs S = .ok (.lst xs) S := nr rfl
@[simp] theorem r_next : sNext ρ S = .nx ρ S := nr rfl
@[simp] theorem r_break : sBreak ρ S = .bk ρ S := nr rfl
@[simp] theorem r_cont : sCont ρ S = .ct ρ S := nr rfl
@[simp] theorem r_seq (a b : Stm) : sSeq a b ρ S = sThen (a ρ S) b := nr rfl
@[simp] theorem r_ret (a : Ex) : sRet a ρ S = sb (a ρ S) fun v S => .rt v S := nr rfl
@[simp] theorem r_retN : sRetN ρ S = .rt .non S := nr rfl
@[simp] theorem r_expr (a : Ex) : sExpr a ρ S = sb (a ρ S) fun _ S => .nx ρ S := nr rfl
@[simp] theorem r_if (t : Ts) (a b : Stm) : sIf t a b ρ S = sb (t ρ S) fun c S => if c then a ρ S else b ρ S := nr rfl
@[simp] theorem r_set (i : Nat) (a : Ex) : sSet i a ρ S = sb (a ρ S) fun v S => .nx (ρ.set i (some v)) S := nr rfl
@[simp] theorem r_sets (is : List Nat) (a : Ex) : sSets is a ρ S = sb (a ρ S) fun v S => match v with
  | .tup xs => (match sets ρ is xs with
    | some ρ' => .nx ρ' S
    | none => .bad)
  | _ => .bad := nr rfl
@[simp] theorem r_put (o i a : Ex) : sPut o i a ρ S = sb (a ρ S) fun v S => sb (o ρ S) fun x S => sb (i ρ S) fun k S => match setAt x k v S with
  | some S' => .nx ρ S'
  | none => .bad := nr rfl
@[simp] theorem r_aug (i : Nat) (f : Op2) (a : Ex) : sAug i f a ρ S = match ρ[i]? with
  | some (some x) => sb (a ρ S) fun y S => sb (f x y S) fun z S => .nx (ρ.set i (some z)) S
  | _ => .bad := nr rfl
@[simp] theorem r_for (it : It) (g : Tg) (b : Stm) : sFor it g b ρ S = sb (it ρ S) fun src S => match src with
  | .row xs => forL g b xs ρ S
  | .cell n => forAt g b n 100000 0 ρ S := nr rfl
@[simp] theorem r_compK (fin : List Val → Sto → Res Val) (it : It) (own : List Nat) (g : Tg) (t : Ts) (e : Ex) : eCompK fin it own g t e ρ S = bnd (it ρ S) fun src S => match src with
  | .row xs => compL fin g t e (wipe ρ own) xs [] S
  | .cell n => compAt fin g t e (wipe ρ own) n 100000 0 [] S := nr rfl
@[simp] theorem r_comp2 (fin : List Val → Sto → Res Val) (it : It) (own : List Nat) (g : Tg) (t : Ts) (it1 : It) (is1 : List Nat) (g1 : Tg) (t1 : Ts) (e : Ex) : eComp2 fin it own g t it1 is1 g1 t1 e ρ S = bnd (it ρ S) fun src S => match src with
  | .row xs => comp2L fin g t it1 is1 g1 t1 e (wipe ρ own) xs [] S
  | .cell _ => .bad := nr rfl
@[simp] theorem r_finL (acc : List Val) : finL acc S = .ok (.lst acc) S := nr rfl
@[simp] theorem r_finN (acc : List Val) : finN acc S = .ok (.ref S.length) (S ++ [.lst acc]) := nr rfl
@[simp] theorem r_gName (i : Nat) (v : Val) : gName i v ρ = some (ρ.set i (some v)) := nr rfl
@[simp] theorem r_gTup (is : List Nat) (xs : List Val) : gTup is (.tup xs) ρ = sets ρ is xs := nr rfl
@[simp] theorem r_sets0 : sets ρ [] [] = some ρ := nr rfl
@[simp] theorem r_sets1 (i : Nat) (is : List Nat) (v : Val) (vs : List Val) : sets ρ (i :: is) (v :: vs) = sets (ρ.set i (some v)) is vs := nr rfl
@[simp] theorem r_wipe0 : wipe ρ [] = ρ := nr rfl
@[simp] theorem r_wipe1 (v : Nat) (vs : List Nat) : wipe ρ (v :: vs) = (wipe ρ vs).set v none := nr rfl
end
/-! ### values -/
section
variable (S : Sto) (i j : Int)
@[simp] theorem v_addI : addV (.int i) (.int j) S = .ok (.int (i + j)) S := nr rfl
@[simp] theorem v_subI : subV (.int i) (.int j) S = .ok (.int (i - j)) S := nr rfl
@[simp] theorem v_mulI : mulV (.int i) (.int j) S = if mulOk i j then .ok (.int (i * j)) S else .bad := nr rfl
@[simp] theorem v_fdiv : fdivV (.int i) (.int j) S = if j ≠ 0 ∧ j.natAbs < 1073741824 then .ok (.int (i.fdiv j)) S else .bad := nr rfl
@[simp] theorem v_mod : modV (.int i) (.int j) S = if j ≠ 0 then .ok (.int (i.fmod j)) S else .bad := nr rfl
@[simp] theorem v_neg : negV (.int i) S = .ok (.int (-i)) S := nr rfl
@[simp] theorem v_addT (xs ys : List Val) : addV (.tup xs) (.tup ys) S = if xs.length + ys.length ≤ sizeLine then .ok (.tup (xs ++ ys)) S else .bad := nr rfl
@[simp] theorem v_addL (xs ys : List Val) : addV (.lst xs) (.lst ys) S = if xs.length + ys.length ≤ sizeLine then .ok (.lst (xs ++ ys)) S else .bad := nr rfl
@[simp] theorem v_addS (a b : Str) : addV (.str a) (.str b) S = if a.length + b.length ≤ sizeLine then .ok (.str (a ++ b)) S else .bad := nr rfl
@[simp] theorem v_mulT (xs : List Val) : mulV (.tup xs) (.int i) S = if 1 ≤ xs.length ∧ xs.length ≤ 1000 ∧ 0 ≤ i ∧ i ≤ 1000 then .ok (.tup (List.replicate i.toNat xs).flatten) S else .bad := nr rfl
@[simp] theorem v_eqI : eqV (.int i) (.int j) S = .ok (.bl (i == j)) S := by simp [eqV, eqB, flat, Val.dat, Val.depth, Val.eqv]
@[simp] theorem v_neI : neV (.int i) (.int j) S = .ok (.bl (!(i == j))) S := by simp [neV, eqB, flat, Val.dat, Val.depth, Val.eqv]
@[simp] theorem v_eqB (a b : Bool) : eqV (.bl a) (.bl b) S = .ok (.bl (a == b)) S := by simp [eqV, eqB, flat, Val.dat, Val.depth, Val.eqv]
@[simp] theorem v_neB (a b : Bool) : neV (.bl a) (.bl b) S = .ok (.bl (!(a == b))) S := by simp [neV, eqB, flat, Val.dat, Val.depth, Val.eqv]
@[simp] theorem v_eqS (a b : Str) : eqV (.str a) (.str b) S = .ok (.bl (a == b)) S := nr rfl
@[simp] theorem v_neS (a b : Str) : neV (.str a) (.str b) S = .ok (.bl (!(a == b))) S := nr rfl
theorem v_eqD {x y : Val} (hx : x.dat = true) (hy : y.dat = true) (hd : min x.depth y.depth ≤ 150) : eqV x y S = .ok (.bl (x.eqv y)) S := by
  have fx : ∀ {x : Val}, x.dat = true → flat x S = x := fun {x} h => by cases x <;> first | rfl | simp [Val.dat] at h
  unfold eqV eqB
  split
  · rfl
  · simp [fx hx, fx hy, hx, hy, hd]
@[simp] theorem v_lt : ltV (.int i) (.int j) S = .ok (.bl (decide (i < j))) S := nr rfl
@[simp] theorem v_le : leV (.int i) (.int j) S = .ok (.bl (decide (i ≤ j))) S := nr rfl
@[simp] theorem v_gt : gtV (.int i) (.int j) S = .ok (.bl (decide (j < i))) S := nr rfl
@[simp] theorem v_ge : geV (.int i) (.int j) S = .ok (.bl (decide (j ≤ i))) S := nr rfl
@[simp] theorem v_isN (x : Val) : isNonV x .non S = .ok (.bl x.isNon) S := nr rfl
@[simp] theorem v_notN (x : Val) : notNonV x .non S = .ok (.bl (!x.isNon)) S := nr rfl
@[simp] theorem v_int : intV [.int i] S = .ok (.int i) S := nr rfl
@[simp] theorem v_intB (b : Bool) : intV [.bl b] S = .ok (.int (if b then 1 else 0)) S := nr rfl
@[simp] theorem v_abs : absV [.int i] S = .ok (.int (if i < 0 then -i else i)) S := nr rfl
@[simp] theorem v_max2 : max2V [.int i, .int j] S = .ok (.int (if j > i then j else i)) S := nr rfl
@[simp] theorem v_min2 : min2V [.int i, .int j] S = .ok (.int (if j < i then j else i)) S := nr rfl
@[simp] theorem v_listS (ns : List Int) : listV [.scr ns] S = .ok (.lst (ns.map .int)) S := nr rfl
@[simp] theorem v_listT (xs : List Val) : listV [.tup xs] S = .ok (.lst xs) S := nr rfl
@[simp] theorem v_listL (xs : List Val) : listV [.lst xs] S = .ok (.lst xs) S := nr rfl
@[simp] theorem v_tupT (xs : List Val) : tupleV [.tup xs] S = .ok (.tup xs) S := nr rfl
@[simp] theorem v_tupL (xs : List Val) : tupleV [.lst xs] S = .ok (.tup xs) S := nr rfl
@[simp] theorem v_tupR (n : Nat) : tupleV [.ref n] S = match S[n]? with
  | some (.lst xs) => .ok (.tup xs) S
  | _ => .bad := by
  show (match (match S[n]? with
      | some (.lst xs) => some xs
      | _ => none) with
    | some xs => Res.ok (Val.tup xs) S
    | none => Res.bad) = _
  generalize S[n]? = o
  cases o with
  | none => rfl
  | some o => cases o <;> rfl
@[simp] theorem v_listR (n : Nat) : listV [.ref n] S = match S[n]? with
  | some (.lst xs) => .ok (.lst xs) S
  | _ => .bad := by
  show (match (match S[n]? with
      | some (.lst xs) => some xs
      | _ => none) with
    | some xs => Res.ok (Val.lst xs) S
    | none => Res.bad) = _
  generalize S[n]? = o
  cases o with
  | none => rfl
  | some o => cases o <;> rfl
@[simp] theorem v_slS (ns : List Int) (lo hi : Option Int) : slV (.scr ns) lo hi S = .ok (.lst (cut (ns.map .int) lo hi)) S := nr rfl
@[simp] theorem v_slT (xs : List Val) (lo hi : Option Int) : slV (.tup xs) lo hi S = .ok (.tup (cut xs lo hi)) S := nr rfl
@[simp] theorem v_slL (xs : List Val) (lo hi : Option Int) : slV (.lst xs) lo hi S = .ok (.lst (cut xs lo hi)) S := nr rfl
@[simp] theorem v_ixT (xs : List Val) : ixV (.tup xs) (.int i) S = match L2.atI xs i with
  | some v => .ok v S
  | none => .bad := nr rfl
@[simp] theorem v_ixL (xs : List Val) : ixV (.lst xs) (.int i) S = match L2.atI xs i with
  | some v => .ok v S
  | none => .bad := nr rfl
@[simp] theorem v_ixR (n : Nat) : ixV (.ref n) (.int i) S = match S[n]? with
  | some (.lst xs) => (match L2.atI xs i with
    | some v => .ok v S
    | none => .bad)
  | _ => .bad := by
  show (match (match S[n]? with
      | some (.lst xs) => some xs
      | _ => none) with
    | some xs => (match L2.atI xs i with
      | some v => Res.ok v S
      | none => Res.bad)
    | none => Res.bad) = _
  generalize S[n]? = o
  cases o with
  | none => rfl
  | some o => cases o <;> rfl
@[simp] theorem v_lenT (xs : List Val) : lenF [.tup xs] S = .ok (.int xs.length) S := nr rfl
@[simp] theorem v_lenL (xs : List Val) : lenF [.lst xs] S = .ok (.int xs.length) S := nr rfl
@[simp] theorem v_lenR (n : Nat) : lenF [.ref n] S = match S[n]? with
  | some (.lst xs) => .ok (.int xs.length) S
  | some (.dct xs) => .ok (.int xs.length) S
  | _ => .bad := nr rfl
@[simp] theorem v_ckL (n : Nat) : ckL (.ref n) S = match S[n]? with
  | some (.lst _) => true
  | _ => false := nr rfl
@[simp] theorem v_app (n : Nat) (y : Val) : appM (.ref n) [y] S = match S[n]? with
  | some (.lst xs) => if y.und n && decide (xs.length < sizeLine) then .ok .non (S.set n (.lst (xs ++ [y]))) else .bad
  | _ => .bad := nr rfl
@[simp] theorem v_popAt (n : Nat) : popAtM (.ref n) [.int i] S = match S[n]? with
  | some (.lst xs) => (match L2.ixN xs.length i with
    | some k => (match xs[k]? with
      | some z => if -(2 ^ 62) < i ∧ i < 2 ^ 62 then .ok z (S.set n (.lst (xs.eraseIdx k))) else .bad
      | none => .bad)
    | none => .bad)
  | _ => .bad := nr rfl
@[simp] theorem v_setAt (n : Nat) (k : Int) (v : Val) : setAt (.ref n) (.int k) v S = match S[n]? with
  | some (.lst xs) => (match L2.ixN xs.length k with
    | some j => if v.und n then some (S.set n (.lst (xs.set j v))) else none
    | none => none)
  | _ => none := nr rfl
end
@[simp] theorem und_int (i : Int) (k : Nat) : (Val.int i).und k = true := nr rfl
@[simp] theorem und_bl (i : Bool) (k : Nat) : (Val.bl i).und k = true := nr rfl
@[simp] theorem und_str (i : Str) (k : Nat) : (Val.str i).und k = true := nr rfl
@[simp] theorem und_non (k : Nat) : Val.non.und k = true := nr rfl
@[simp] theorem und_tup (xs : List Val) (k : Nat) : (Val.tup xs).und k = Val.unds k xs := nr rfl
@[simp] theorem und_lst (xs : List Val) (k : Nat) : (Val.lst xs).und k = Val.unds k xs := nr rfl
@[simp] theorem und_ref (n k : Nat) : (Val.ref n).und k = decide (n < k) := nr rfl
@[simp] theorem unds_nil (k : Nat) : Val.unds k [] = true := nr rfl
@[simp] theorem unds_cons (x : Val) (xs : List Val) (k : Nat) : Val.unds k (x :: xs) = (x.und k && Val.unds k xs) := nr rfl
theorem atI_pos {α : Type} {xs : List α} {i : Int} (h : 0 ≤ i) : L2.atI xs i = xs[i.toNat]? := by
  unfold L2.atI L2.ixN
  rw [if_pos h]
  split
  · rfl
  · rename_i z
    rw [Option.bind_none, List.getElem?_eq_none (by omega)]
@[simp] theorem atI_lit {α : Type} {xs : List α} (n : Nat) : L2.atI xs (OfNat.ofNat n) = xs[n]? := by
  show L2.atI xs (n : Int) = _
  rw [atI_pos (by omega)]
  simp
@[simp] theorem atI_0 {α : Type} {xs : List α} : L2.atI xs 0 = xs[0]? := atI_lit 0
@[simp] theorem atI_1 {α : Type} {xs : List α} : L2.atI xs 1 = xs[1]? := atI_lit 1
@[simp] theorem atI_nat {α : Type} {xs : List α} (n : Nat) : L2.atI xs (n : Int) = xs[n]? := by
  rw [atI_pos (by omega)]
  simp
@[simp] theorem atI_2 {α : Type} {xs : List α} : L2.atI xs 2 = xs[2]? := atI_lit 2
@[simp] theorem atI_3 {α : Type} {xs : List α} : L2.atI xs 3 = xs[3]? := atI_lit 3
@[simp] theorem atI_4 {α : Type} {xs : List α} : L2.atI xs 4 = xs[4]? := atI_lit 4
@[simp] theorem atI_5 {α : Type} {xs : List α} : L2.atI xs 5 = xs[5]? := atI_lit 5
@[simp] theorem atI_6 {α : Type} {xs : List α} : L2.atI xs 6 = xs[6]? := atI_lit 6
@[simp] theorem atI_7 {α : Type} {xs : List α} : L2.atI xs 7 = xs[7]? := atI_lit 7
@[simp] theorem atI_8 {α : Type} {xs : List α} : L2.atI xs 8 = xs[8]? := atI_lit 8
@[simp] theorem atI_9 {α : Type} {xs : List α} : L2.atI xs 9 = xs[9]? := atI_lit 9
@[simp] theorem atI_10 {α : Type} {xs : List α} : L2.atI xs 10 = xs[10]? := atI_lit 10
@[simp] theorem atI_11 {α : Type} {xs : List α} : L2.atI xs 11 = xs[11]? := atI_lit 11
@[simp] theorem atI_12 {α : Type} {xs : List α} : L2.atI xs 12 = xs[12]? := atI_lit 12
@[simp] theorem ixN_0 (n : Nat) : L2.ixN n 0 = if 0 < n then some 0 else none := by
  unfold L2.ixN
  by_cases h : 0 < n
  · rw [if_pos (by decide), if_pos (by omega), if_pos h]; rfl
  · rw [if_pos (by decide), if_neg (by omega), if_neg h]
@[simp] theorem ixN_1 (n : Nat) : L2.ixN n 1 = if 1 < n then some 1 else none := by
  unfold L2.ixN
  by_cases h : 1 < n
  · rw [if_pos (by decide), if_pos (by omega), if_pos h]; rfl
  · rw [if_pos (by decide), if_neg (by omega), if_neg h]
@[simp] theorem ixN_2 (n : Nat) : L2.ixN n 2 = if 2 < n then some 2 else none := by
  unfold L2.ixN
  by_cases h : 2 < n
  · rw [if_pos (by decide), if_pos (by omega), if_pos h]; rfl
  · rw [if_pos (by decide), if_neg (by omega), if_neg h]
@[simp] theorem ixN_3 (n : Nat) : L2.ixN n 3 = if 3 < n then some 3 else none := by
  unfold L2.ixN
  by_cases h : 3 < n
  · rw [if_pos (by decide), if_pos (by omega), if_pos h]; rfl
  · rw [if_pos (by decide), if_neg (by omega), if_neg h]
@[simp] theorem ixN_4 (n : Nat) : L2.ixN n 4 = if 4 < n then some 4 else none := by
  unfold L2.ixN
  by_cases h : 4 < n
  · rw [if_pos (by decide), if_pos (by omega), if_pos h]; rfl
  · rw [if_pos (by decide), if_neg (by omega), if_neg h]
@[simp] theorem ixN_5 (n : Nat) : L2.ixN n 5 = if 5 < n then some 5 else none := by
  unfold L2.ixN
  by_cases h : 5 < n
  · rw [if_pos (by decide), if_pos (by omega), if_pos h]; rfl
  · rw [if_pos (by decide), if_neg (by omega), if_neg h]
@[simp] theorem ixN_6 (n : Nat) : L2.ixN n 6 = if 6 < n then some 6 else none := by
  unfold L2.ixN
  by_cases h : 6 < n
  · rw [if_pos (by decide), if_pos (by omega), if_pos h]; rfl
  · rw [if_pos (by decide), if_neg (by omega), if_neg h]
@[simp] theorem ixN_7 (n : Nat) : L2.ixN n 7 = if 7 < n then some 7 else none := by
  unfold L2.ixN
  by_cases h : 7 < n
  · rw [if_pos (by decide), if_pos (by omega), if_pos h]; rfl
  · rw [if_pos (by decide), if_neg (by omega), if_neg h]
@[simp] theorem ixN_8 (n : Nat) : L2.ixN n 8 = if 8 < n then some 8 else none := by
  unfold L2.ixN
  by_cases h : 8 < n
  · rw [if_pos (by decide), if_pos (by omega), if_pos h]; rfl
  · rw [if_pos (by decide), if_neg (by omega), if_neg h]
@[simp] theorem ixN_9 (n : Nat) : L2.ixN n 9 = if 9 < n then some 9 else none := by
  unfold L2.ixN
  by_cases h : 9 < n
  · rw [if_pos (by decide), if_pos (by omega), if_pos h]; rfl
  · rw [if_pos (by decide), if_neg (by omega), if_neg h]
@[simp] theorem ixN_10 (n : Nat) : L2.ixN n 10 = if 10 < n then some 10 else none := by
  unfold L2.ixN
  by_cases h : 10 < n
  · rw [if_pos (by decide), if_pos (by omega), if_pos h]; rfl
  · rw [if_pos (by decide), if_neg (by omega), if_neg h]
@[simp] theorem ixN_11 (n : Nat) : L2.ixN n 11 = if 11 < n then some 11 else none := by
  unfold L2.ixN
  by_cases h : 11 < n
  · rw [if_pos (by decide), if_pos (by omega), if_pos h]; rfl
  · rw [if_pos (by decide), if_neg (by omega), if_neg h]
@[simp] theorem ixN_12 (n : Nat) : L2.ixN n 12 = if 12 < n then some 12 else none := by
  unfold L2.ixN
  by_cases h : 12 < n
  · rw [if_pos (by decide), if_pos (by omega), if_pos h]; rfl
  · rw [if_pos (by decide), if_neg (by omega), if_neg h]
theorem ixN_nat {n k : Nat} (h : k < n) : L2.ixN n (k : Int) = some k := by
  unfold L2.ixN
  rw [if_pos (by omega), if_pos (by omega)]
  simp

/-! ### what a value is -/
def Val.isT (x : Val) (t : Ty) : Bool := match x, t with
  | .int _, .int => true | .bl _, .int => true | .bl _, .bool => true | .str _, .str => true | .tup _, .tuple => true | .lst _, .list => true | .dct _, .dict => true
  | _, _ => false
def Val.plain : Val → Bool
  | .ref _ => false | .exc _ _ => false | .scr _ => false | _ => true
@[simp] theorem isB_plain {x : Val} (t : Ty) (S : Sto) (h : x.plain = true) : isB x t S = .ok (x.isT t) S := by
  cases x <;> first | (cases t <;> rfl) | simp [Val.plain] at h
theorem plain_dat {v : Val} (h : v.dat = true) : v.plain = true := by cases v <;> first | rfl | simp [Val.dat] at h

/-! ### loops -/
section
variable {g : Tg} {b : Stm} {D : Post}
theorem forL_sat (I : List Val → Env → Sto → Prop) (h0 : ∀ ρ S, I [] ρ S → D.nx ρ S)
    (h : ∀ x xs ρ S, I (x :: xs) ρ S → ∃ ρ', g x ρ = some ρ' ∧ (b ρ' S).sat { nx := I xs, ct := I xs, bk := D.nx, rt := D.rt }) : ∀ (xs : List Val) (ρ : Env) (S : Sto), I xs ρ S → (forL g b xs ρ S).sat D
  | [], ρ, S, i => h0 ρ S i
  | x :: xs, ρ, S, i => by
    obtain ⟨ρ', e, s⟩ := h x xs ρ S i
    show SR.sat (match g x ρ with
      | some ρ' => turnK (b ρ' S) fun ρ S => forL g b xs ρ S
      | none => .bad) D
    rw [e]
    show SR.sat (turnK _ _) D
    rw [sat_turn]
    exact s.mono (fun ρ S i => forL_sat I h0 h xs ρ S i) (fun _ _ z => z) (fun _ _ z => z) (fun ρ S i => forL_sat I h0 h xs ρ S i)
theorem whileF_sat {t : Ts} (I : Nat → Env → Sto → Prop)
    (h : ∀ n ρ S, I n ρ S → (t ρ S).sat fun c S => if c then ∃ m, n = m + 1 ∧ (b ρ S).sat { nx := I m, ct := I m, bk := D.nx, rt := D.rt } else D.nx ρ S) : ∀ (f n : Nat) (ρ : Env) (S : Sto), n < f → I n ρ S → (whileF t b f ρ S).sat D
  | 0, _, _, _, hf, _ => by omega
  | f + 1, n, ρ, S, hf, i => by
    show SR.sat (sb (t ρ S) fun c S => if c then turnK (b ρ S) (whileF t b f) else .nx ρ S) D
    rw [sat_sb]
    refine (h n ρ S i).mono fun c S' q => ?_
    rw [sat_site]
    split
    · rename_i hc
      rw [if_pos hc] at q
      obtain ⟨m, rfl, q⟩ := q
      rw [sat_turn]
      exact q.mono (fun ρ S i => whileF_sat I h f m ρ S (by omega) i) (fun _ _ z => z) (fun _ _ z => z) (fun ρ S i => whileF_sat I h f m ρ S (by omega) i)
    · rename_i hc
      rw [if_neg hc] at q
      exact q
theorem while_sat {t : Ts} (I : Nat → Env → Sto → Prop) {n : Nat} {ρ : Env} {S : Sto} (i : I n ρ S) (hn : n < 100000)
    (h : ∀ n ρ S, I n ρ S → (t ρ S).sat fun c S => if c then ∃ m, n = m + 1 ∧ (b ρ S).sat { nx := I m, ct := I m, bk := D.nx, rt := D.rt } else D.nx ρ S) : (sWhile t b ρ S).sat D := whileF_sat I h _ n ρ S hn i
end
section
variable {fin : List Val → Sto → Res Val} {g : Tg} {t : Ts} {e : Ex} {ρ : Env}
/-- a comprehension that leaves the store -/
theorem compL_map {S : Sto} (p : Val → Bool) (f : Val → Val) : ∀ (xs acc : List Val), (∀ x ∈ xs, ∃ ρ', g x ρ = some ρ' ∧ t ρ' S = .ok (p x) S ∧ (p x = true → e ρ' S = .ok (f x) S)) → acc.length + xs.length ≤ sizeLine →
    compL fin g t e ρ xs acc S = fin (acc ++ (xs.filter p).map f) S
  | [], acc, _, _ => by simp [compL]
  | x :: xs, acc, h, hs => by
    obtain ⟨ρ', e1, e2, e3⟩ := h x (.head _)
    rw [List.length_cons] at hs
    show (match g x ρ with
      | some ρ' => compK acc t e ρ' S (compL fin g t e ρ xs)
      | none => .bad) = _
    rw [e1]
    show compK acc t e ρ' S (compL fin g t e ρ xs) = _
    unfold compK
    rw [e2, bnx_ok]
    cases hp : p x with
    | false =>
      rw [List.filter_cons_of_neg (by simp [hp])]
      exact compL_map p f xs acc (fun y m => h y (.tail _ m)) (by omega)
    | true =>
      rw [if_pos rfl, e3 hp, bnx_ok, if_pos (by omega), List.filter_cons_of_pos hp, List.map_cons]
      rw [compL_map p f xs (acc ++ [f x]) (fun y m => h y (.tail _ m)) (by simp; omega)]
      simp
theorem compL_all {S : Sto} (f : Val → Val) (xs acc : List Val) (h : ∀ x ∈ xs, ∃ ρ', g x ρ = some ρ' ∧ t ρ' S = .ok true S ∧ e ρ' S = .ok (f x) S) (hs : acc.length + xs.length ≤ sizeLine) :
    compL fin g t e ρ xs acc S = fin (acc ++ xs.map f) S := by
  have := compL_map (fin := fin) (fun _ => true) f xs acc (fun x m => by obtain ⟨ρ', a, b, c⟩ := h x m; exact ⟨ρ', a, b, fun _ => c⟩) hs
  rw [this, List.filter_eq_self.mpr fun _ _ => rfl]
theorem compL_sat {R : Val → Sto → Prop} (I : List Val → List Val → Sto → Prop) (h0 : ∀ acc S, I [] acc S → (fin acc S).sat R)
    (h : ∀ x xs acc S, I (x :: xs) acc S → ∃ ρ', g x ρ = some ρ' ∧ (t ρ' S).sat fun c S => if c then (e ρ' S).sat fun v S => acc.length < sizeLine ∧ I xs (acc ++ [v]) S else I xs acc S) :
    ∀ (xs acc : List Val) (S : Sto), I xs acc S → (compL fin g t e ρ xs acc S).sat R
  | [], acc, S, i => h0 acc S i
  | x :: xs, acc, S, i => by
    obtain ⟨ρ', e1, s⟩ := h x xs acc S i
    show Res.sat (match g x ρ with
      | some ρ' => compK acc t e ρ' S (compL fin g t e ρ xs)
      | none => .bad) R
    rw [e1]
    show Res.sat (compK acc t e ρ' S (compL fin g t e ρ xs)) R
    unfold compK
    rw [sat_bnx]
    refine s.mono fun c S1 q => ?_
    rw [sat_ite]
    split
    · rename_i hc
      rw [if_pos hc] at q
      rw [sat_bnx]
      refine q.mono fun v S2 q => ?_
      rw [if_pos q.1]
      exact compL_sat I h0 h xs _ S2 q.2
    · rename_i hc
      rw [if_neg hc] at q
      exact compL_sat I h0 h xs acc S1 q
end
end TW
/-! TW.Data: plain facts of data. -/
namespace TW
open PySem
mutual
/-- no row in it is longer than L -/
def Val.small (L : Nat) : Val → Bool
  | .str x => decide (x.length ≤ L)
  | .tup xs => decide (xs.length ≤ L) && Val.smalls L xs
  | .lst xs => decide (xs.length ≤ L) && Val.smalls L xs
  | .non => true | .bl _ => true | .int _ => true | .dct _ => true | .ref _ => true | .exc _ _ => true | .scr _ => true
def Val.smalls (L : Nat) : List Val → Bool
  | [] => true
  | x :: xs => x.small L && Val.smalls L xs
end
theorem dats_iff {xs : List Val} : Val.dats xs = true ↔ ∀ x ∈ xs, x.dat = true := by
  induction xs with
  | nil => simp [Val.dats]
  | cons x xs ih => simp [Val.dats, ih]
theorem smalls_iff {L : Nat} {xs : List Val} : Val.smalls L xs = true ↔ ∀ x ∈ xs, x.small L = true := by
  induction xs with
  | nil => simp [Val.smalls]
  | cons x xs ih => simp [Val.smalls, ih]
theorem depths_iff {d : Nat} {xs : List Val} : Val.depths xs ≤ d ↔ ∀ x ∈ xs, x.depth ≤ d := by
  induction xs with
  | nil => simp [Val.depths]
  | cons x xs ih => simp [Val.depths, ih, Nat.max_le]
mutual
theorem eqv_refl : ∀ (v : Val), v.dat = true → v.eqv v = true
  | .non, _ => rfl
  | .bl b, _ => by simp [Val.eqv]
  | .int b, _ => by simp [Val.eqv]
  | .str b, _ => by simp [Val.eqv]
  | .tup xs, h => eqvs_refl xs h
  | .lst xs, h => eqvs_refl xs h
theorem eqvs_refl : ∀ (v : List Val), Val.dats v = true → Val.eqvs v v = true
  | [], _ => rfl
  | x :: xs, h => by
    simp only [Val.dats, Bool.and_eq_true] at h
    simp only [Val.eqvs, Bool.and_eq_true]
    exact ⟨eqv_refl x h.1, eqvs_refl xs h.2⟩
end
/-- data, no row in it longer than L, no deeper than d -/
structure Gd (L d : Nat) (v : Val) : Prop where
  dat : v.dat = true
  small : v.small L = true
  depth : v.depth ≤ d
section
variable {L L' d d' : Nat}
theorem small_mono : ∀ (v : Val), L ≤ L' → v.small L = true → v.small L' = true := fun v hl => by
  refine Val.rec (motive_1 := fun v => v.small L = true → v.small L' = true) (motive_2 := fun vs => Val.smalls L vs = true → Val.smalls L' vs = true) (motive_3 := fun _ => True) (motive_4 := fun _ => True)
    (fun _ => rfl) (fun _ _ => rfl) (fun _ _ => rfl) (fun _ h => ?_) (fun _ ih h => ?_) (fun _ ih h => ?_) (fun _ _ _ => rfl) (fun _ _ => rfl) (fun _ _ _ _ => rfl) (fun _ _ => rfl) (fun _ => rfl) (fun _ _ i1 i2 h => ?_) trivial (fun _ _ _ _ => trivial) (fun _ _ _ _ => trivial) v
  · simp only [Val.small, decide_eq_true_eq] at h ⊢; omega
  · simp only [Val.small, Bool.and_eq_true, decide_eq_true_eq] at h ⊢; exact ⟨by omega, ih h.2⟩
  · simp only [Val.small, Bool.and_eq_true, decide_eq_true_eq] at h ⊢; exact ⟨by omega, ih h.2⟩
  · simp only [Val.smalls, Bool.and_eq_true] at h ⊢; exact ⟨i1 h.1, i2 h.2⟩
theorem Gd.mono {v : Val} (h : Gd L d v) (hl : L ≤ L') (hd : d ≤ d') : Gd L' d' v := ⟨h.dat, small_mono v hl h.small, Nat.le_trans h.depth hd⟩
theorem Gd.tup {xs : List Val} (h : ∀ x ∈ xs, Gd L d x) (hl : xs.length ≤ L) : Gd L (d + 1) (.tup xs) :=
  ⟨dats_iff.mpr fun x m => (h x m).dat, by simp only [Val.small, Bool.and_eq_true, decide_eq_true_eq]; exact ⟨hl, smalls_iff.mpr fun x m => (h x m).small⟩, by simp only [Val.depth]; exact Nat.succ_le_succ (depths_iff.mpr fun x m => (h x m).depth)⟩
theorem Gd.lst {xs : List Val} (h : ∀ x ∈ xs, Gd L d x) (hl : xs.length ≤ L) : Gd L (d + 1) (.lst xs) :=
  ⟨dats_iff.mpr fun x m => (h x m).dat, by simp only [Val.small, Bool.and_eq_true, decide_eq_true_eq]; exact ⟨hl, smalls_iff.mpr fun x m => (h x m).small⟩, by simp only [Val.depth]; exact Nat.succ_le_succ (depths_iff.mpr fun x m => (h x m).depth)⟩
theorem Gd.ofTup {xs : List Val} (h : Gd L d (.tup xs)) : xs.length ≤ L ∧ 1 ≤ d ∧ ∀ x ∈ xs, Gd L (d - 1) x := by
  obtain ⟨h1, h2, h3⟩ := h
  simp only [Val.dat, Val.small, Val.depth, Bool.and_eq_true, decide_eq_true_eq] at h1 h2 h3
  exact ⟨h2.1, by omega, fun x m => ⟨dats_iff.mp h1 x m, smalls_iff.mp h2.2 x m, (depths_iff (d := d - 1)).mp (by omega) x m⟩⟩
theorem Gd.ofLst {xs : List Val} (h : Gd L d (.lst xs)) : xs.length ≤ L ∧ 1 ≤ d ∧ ∀ x ∈ xs, Gd L (d - 1) x := by
  obtain ⟨h1, h2, h3⟩ := h
  simp only [Val.dat, Val.small, Val.depth, Bool.and_eq_true, decide_eq_true_eq] at h1 h2 h3
  exact ⟨h2.1, by omega, fun x m => ⟨dats_iff.mp h1 x m, smalls_iff.mp h2.2 x m, (depths_iff (d := d - 1)).mp (by omega) x m⟩⟩
theorem Gd.int (i : Int) : Gd L d (.int i) := ⟨rfl, rfl, Nat.zero_le _⟩
theorem Gd.bl (i : Bool) : Gd L d (.bl i) := ⟨rfl, rfl, Nat.zero_le _⟩
theorem Gd.non : Gd L d .non := ⟨rfl, rfl, Nat.zero_le _⟩
theorem Gd.str {x : Str} (h : x.length ≤ L) (hx : x.cps.all (· < 0x110000) = true) : Gd L d (.str x) := ⟨hx, by simpa [Val.small] using h, Nat.zero_le _⟩
end
@[simp] theorem pl_non : Val.non.plain = true := nr rfl
@[simp] theorem pl_bl (b : Bool) : (Val.bl b).plain = true := nr rfl
@[simp] theorem pl_int (b : Int) : (Val.int b).plain = true := nr rfl
@[simp] theorem pl_str (b : Str) : (Val.str b).plain = true := nr rfl
@[simp] theorem pl_tup (b : List Val) : (Val.tup b).plain = true := nr rfl
@[simp] theorem pl_lst (b : List Val) : (Val.lst b).plain = true := nr rfl
@[simp] theorem pl_dct (b : List (Val × Val)) : (Val.dct b).plain = true := nr rfl
@[simp] theorem isT_non (t : Ty) : Val.non.isT t = false := by cases t <;> rfl
@[simp] theorem isT_ref (b : Nat) (t : Ty) : (Val.ref b).isT t = false := by cases t <;> rfl
@[simp] theorem isT_exc (b : Str) (a : Val) (t : Ty) : (Val.exc b a).isT t = false := by cases t <;> rfl
@[simp] theorem isT_scr (b : List Int) (t : Ty) : (Val.scr b).isT t = false := by cases t <;> rfl
@[simp] theorem isT_bl (b : Bool) (t : Ty) : (Val.bl b).isT t = match t with
  | .int => true | .bool => true | _ => false := by cases t <;> rfl
@[simp] theorem isT_int (b : Int) (t : Ty) : (Val.int b).isT t = match t with
  | .int => true | _ => false := by cases t <;> rfl
@[simp] theorem isT_str (b : Str) (t : Ty) : (Val.str b).isT t = match t with
  | .str => true | _ => false := by cases t <;> rfl
@[simp] theorem isT_tup (b : List Val) (t : Ty) : (Val.tup b).isT t = match t with
  | .tuple => true | _ => false := by cases t <;> rfl
@[simp] theorem isT_lst (b : List Val) (t : Ty) : (Val.lst b).isT t = match t with
  | .list => true | _ => false := by cases t <;> rfl
@[simp] theorem isT_dct (b : List (Val × Val)) (t : Ty) : (Val.dct b).isT t = match t with
  | .dict => true | _ => false := by cases t <;> rfl
@[simp] theorem isN_non  : Val.non.isNon = true := nr rfl
@[simp] theorem isN_bl (b : Bool) : (Val.bl b).isNon = false := nr rfl
@[simp] theorem isN_int (b : Int) : (Val.int b).isNon = false := nr rfl
@[simp] theorem isN_str (b : Str) : (Val.str b).isNon = false := nr rfl
@[simp] theorem isN_tup (b : List Val) : (Val.tup b).isNon = false := nr rfl
@[simp] theorem isN_lst (b : List Val) : (Val.lst b).isNon = false := nr rfl
@[simp] theorem isN_dct (b : List (Val × Val)) : (Val.dct b).isNon = false := nr rfl
@[simp] theorem isN_ref (b : Nat) : (Val.ref b).isNon = false := nr rfl
theorem mem_rowI {lo : Int} {n : Nat} {x : Val} (h : x ∈ rowI lo n) : ∃ i : Nat, i < n ∧ x = .int (lo + i) := by
  unfold rowI at h
  rw [List.mem_map] at h
  obtain ⟨i, hi, rfl⟩ := h
  exact ⟨i, by simpa using hi, rfl⟩
@[simp] theorem rowI_length (lo : Int) (n : Nat) : (rowI lo n).length = n := by simp [rowI]
theorem compL_ex {fin : List Val → Sto → Res Val} {g : Tg} {t : Ts} {e : Ex} {ρ : Env} {S : Sto} (Q : Val → Prop) : ∀ (xs acc : List Val), (∀ x ∈ xs, ∃ ρ', g x ρ = some ρ' ∧ t ρ' S = .ok true S ∧ ∃ w, Q w ∧ e ρ' S = .ok w S) → acc.length + xs.length ≤ sizeLine → (∀ w ∈ acc, Q w) →
    ∃ ws, ws.length = acc.length + xs.length ∧ (∀ w ∈ ws, Q w) ∧ compL fin g t e ρ xs acc S = fin ws S
  | [], acc, _, _, ha => ⟨acc, by simp, ha, rfl⟩
  | x :: xs, acc, h, hs, ha => by
    obtain ⟨ρ', e1, e2, w, q, e3⟩ := h x (.head _)
    rw [List.length_cons] at hs
    obtain ⟨ws, l, a, b⟩ := compL_ex Q xs (acc ++ [w]) (fun y m => h y (.tail _ m)) (by simp; omega) (fun z m => by
      rcases List.mem_append.mp m with m | m
      · exact ha z m
      · rw [List.mem_singleton.mp m]; exact q)
    refine ⟨ws, by rw [l]; simp; omega, a, ?_⟩
    show (match g x ρ with
      | some ρ' => compK acc t e ρ' S (compL fin g t e ρ xs)
      | none => .bad) = _
    rw [e1]
    show compK acc t e ρ' S (compL fin g t e ρ xs) = _
    unfold compK
    rw [e2, bnx_ok, if_pos rfl, e3, bnx_ok, if_pos (by omega)]
    exact b
/-- filtered, within the same store -/
theorem compL_fil {fin : List Val → Sto → Res Val} {g : Tg} {t : Ts} {e : Ex} {ρ : Env} {S : Sto} (p : Val → Bool) (xs : List Val) (h : ∀ x ∈ xs, ∃ ρ', g x ρ = some ρ' ∧ t ρ' S = .ok (p x) S ∧ e ρ' S = .ok x S) (hs : xs.length ≤ sizeLine) :
    compL fin g t e ρ xs [] S = fin (xs.filter p) S := by
  rw [compL_map p (fun x => x) xs [] (fun x m => by obtain ⟨ρ', a, b, c⟩ := h x m; exact ⟨ρ', a, b, fun _ => c⟩) (by simpa using hs)]
  simp
/-! ### parts, places, stores -/
theorem cut_mem {α : Type} {xs : List α} {lo hi : Option Int} {x : α} (h : x ∈ cut xs lo hi) : x ∈ xs := List.mem_of_mem_drop (List.mem_of_mem_take h)
theorem cut_length {α : Type} (xs : List α) (lo hi : Option Int) : (cut xs lo hi).length ≤ xs.length := by
  unfold cut
  rw [List.length_take, List.length_drop]
  omega
theorem cut_to {α : Type} (xs : List α) {k : Nat} (h : k ≤ xs.length) : cut xs none (some (k : Int)) = xs.take k := by
  unfold cut HT.sIx
  simp
  split
  · omega
  · rw [Nat.min_eq_left h, Nat.min_eq_left h]
theorem cut_from {α : Type} (xs : List α) {k : Nat} (h : k ≤ xs.length) : cut xs (some (k : Int)) none = xs.drop k := by
  unfold cut HT.sIx
  simp
  split
  · omega
  · rw [Nat.min_eq_left h, List.take_of_length_le (by simp)]
theorem cut_from1 {α : Type} (xs : List α) {k : Nat} (h : k + 1 ≤ xs.length) : cut xs (some ((k : Int) + 1)) none = xs.drop (k + 1) := by
  rw [show ((k : Int) + 1) = ((k + 1 : Nat) : Int) from by omega]
  exact cut_from xs h
theorem dat_swap {xs : List Val} {L d i j : Nat} {x y : Val} (h : ∀ x ∈ xs, Gd L d x) (hx : Gd L d x) (hy : Gd L d y) : ∀ z ∈ (xs.set i x).set j y, Gd L d z := by
  intro z m
  rcases List.mem_or_eq_of_mem_set m with m | rfl
  · rcases List.mem_or_eq_of_mem_set m with m | rfl
    · exact h z m
    · exact hx
  · exact hy
@[simp] theorem set_last (T : Sto) (x y : Ob) : (T ++ [x]).set T.length y = T ++ [y] := by
  rw [List.set_append_right _ _ (Nat.le_refl _)]
  simp
@[simp] theorem take_last (T : Sto) (x : Ob) : (T ++ [x]).take T.length = T := List.take_left
@[simp] theorem get_last (T : Sto) (x : Ob) : (T ++ [x])[T.length]? = some x := by simp
theorem get_of {α : Type} {xs : List α} {d : Nat} (h : d < xs.length) : ∃ x, x ∈ xs ∧ xs[d]? = some x := ⟨_, List.getElem_mem h, List.getElem?_eq_getElem h⟩
theorem fin_dat {v : Val} {k : Nat} {S : Sto} {P : Val → Sto → Prop} (h : v.dat = true) (q : P v (S.take k)) : (finV false k v S).sat P := by
  rw [finV_dat h]
  exact q
theorem fin_und {v : Val} {k : Nat} {S : Sto} {P : Val → Sto → Prop} (h : v.und k = true) (q : P v (S.take k)) : (finV false k v S).sat P := by
  rw [finV_und h]
  exact q
@[simp] theorem v_slStr (z : Str) (lo hi : Option Int) (S : Sto) : slV (.str z) lo hi S = if z.length ≤ sizeLine then .ok (.str ⟨(cut z.cps.toList lo hi).toArray⟩) S else .bad := nr rfl
theorem Gd.slice {L d : Nat} {z : Str} (h : Gd L d (.str z)) (lo hi : Option Int) : Gd L d (.str ⟨(cut z.cps.toList lo hi).toArray⟩) := by
  have h1 := h.dat
  have h2 := h.small
  simp only [Val.dat, Val.small, decide_eq_true_eq] at h1 h2
  refine .str ?_ ?_
  · have := cut_length z.cps.toList lo hi
    show (cut z.cps.toList lo hi).toArray.size ≤ L
    have e : z.length = z.cps.toList.length := by simp [Str.length]
    simp at this ⊢
    simp [Str.length] at h2
    omega
  · simp at h1 ⊢
    intro x hx
    have := cut_mem hx
    rw [Array.mem_toList_iff] at this
    obtain ⟨i, hi, rfl⟩ := Array.getElem_of_mem this
    exact h1 i hi
theorem Gd.addS {L d : Nat} {x y : Str} (h : Gd L d (.str x)) (h2 : Gd 1 d (.str y)) : Gd (L + 1) d (.str (x ++ y)) := by
  have a1 := h.dat
  have a2 := h.small
  have b1 := h2.dat
  have b2 := h2.small
  simp only [Val.dat, Val.small, decide_eq_true_eq] at a1 a2 b1 b2
  have e : (x ++ y).cps = x.cps ++ y.cps := rfl
  refine .str ?_ ?_
  · show (x ++ y).cps.size ≤ _
    rw [e, Array.size_append]
    simp [Str.length] at a2 b2
    omega
  · rw [e]
    simp at a1 b1 ⊢
    exact ⟨a1, b1⟩
end TW
namespace TL
open PySem PySem.Spec PyProof.Rows L2 TW
def k_MOST_STACKS : Val := .int 6
def b_is_integer (c : CallF) : Stm := sRet (eAnd (eIs (eVar 0) .int) (eNot (eIs (eVar 0) .bool)))
def b_is_stack (c : CallF) : Stm := sSeq (sIf (tOr (tNot (tVal (eIs (eVar 0) .tuple))) (tVal (eBin gtV (eFn lenF (esCons (eVar 0) (esNil))) (eVar 1)))) (sRet (eC (.bl false))) (sNext)) (sRet (eFn allV (esCons (eCompK finL (iSeq (eVar 0)) [2] (gName 2) (tYes) (eAnd (eCall c "is_integer" (esCons (eVar 2) (esNil))) (eBin geV (eVar 2) (eC (.int 1))))) (esNil))))
def b_is_yard (c : CallF) : Stm := sSeq (sIf (tOr (tNot (tVal (eIs (eVar 0) .tuple))) (tNot (tVal (eChain leV leV (eC (.int 1)) (eFn lenF (esCons (eVar 0) (esNil))) (eC k_MOST_STACKS))))) (sRet (eC (.bl false))) (sNext)) (sSeq (sIf (tNot (tVal (eFn allV (esCons (eCompK finL (iSeq (eVar 0)) [3] (gName 3) (tYes) (eCall c "is_stack" (esCons (eVar 3) (esCons (eVar 1) (esNil))))) (esNil))))) (sRet (eC (.bl false))) (sNext)) (sSeq (sSet 2 (eCall c "boxes_in" (esCons (eVar 0) (esNil)))) (sRet (eBin eqV (eUn lenSetV (eVar 2)) (eFn lenF (esCons (eVar 2) (esNil)))))))
def b_boxes_in (c : CallF) : Stm := sRet (eComp2 finL (iSeq (eVar 0)) [1, 2] (gName 1) (tYes) (iSeq (eVar 1)) [2] (gName 2) (tYes) (eVar 2))
def b__law_copied (c : CallF) : Stm := sSeq (sIf (tVal (eIs (eVar 0) .list)) (sRet (eCompK finL (iSeq (eVar 0)) [1] (gName 1) (tYes) (eCall c "_law_copied" (esCons (eVar 1) (esNil))))) (sNext)) (sSeq (sIf (tVal (eIs (eVar 0) .tuple)) (sRet (eFn tupleV (esCons (eCompK finL (iSeq (eVar 0)) [1] (gName 1) (tYes) (eCall c "_law_copied" (esCons (eVar 1) (esNil)))) (esNil)))) (sNext)) (sSeq (sIf (tVal (eIs (eVar 0) .dict)) (sRet (eComp (iKeysV 0) [2] (gName 2) (tYes) (eTup (esCons (eVar 2) (esCons (eCall c "_law_copied" (esCons (eBin ixV (eVar 0) (eVar 2)) (esNil))) (esNil)))))) (sNext)) (sRet (eVar 0))))
def b__law_kept_is_yard (c : CallF) : Stm := sSeq (sSet 2 (eCall c "_law_copied" (esCons (eLst (esCons (eVar 0) (esCons (eVar 1) (esNil)))) (esNil)))) (sSeq (sSet 3 (eCall c "is_yard" (esCons (eVar 0) (esCons (eVar 1) (esNil))))) (sRet (eIf (tVal (eBin eqV (eCall c "_law_copied" (esCons (eLst (esCons (eVar 0) (esCons (eVar 1) (esNil)))) (esNil))) (eVar 2))) (eVar 3) (eC (.str "changed")))))
def b__law_is_integer (c : CallF) : Stm := sRet (eAnd (eIs (eVar 0) .int) (eNot (eIs (eVar 0) .bool)))
def b__law_same (c : CallF) : Stm := sSeq (sIf (tOr (tVal (eIs (eVar 1) .tuple)) (tVal (eIs (eVar 1) .list))) (sSeq (sIf (tOr (tVal (eBin neV (eIs (eVar 1) .tuple) (eIs (eVar 0) .tuple))) (tOr (tVal (eBin neV (eIs (eVar 1) .list) (eIs (eVar 0) .list))) (tVal (eBin neV (eFn lenF (esCons (eVar 0) (esNil))) (eFn lenF (esCons (eVar 1) (esNil))))))) (sRet (eC (.bl false))) (sNext)) (sRet (eBin eqV (eFn lenF (esCons (eCompK finL (iRng1 (eFn lenF (esCons (eVar 1) (esNil)))) [2] (gName 2) (tNot (tVal (eCall c "_law_same" (esCons (eBin ixV (eVar 0) (eVar 2)) (esCons (eBin ixV (eVar 1) (eVar 2)) (esNil)))))) (eVar 2)) (esNil))) (eC (.int 0))))) (sNext)) (sSeq (sIf (tVal (eBin isNonV (eVar 1) (eC .non))) (sRet (eBin isNonV (eVar 0) (eC .non))) (sNext)) (sSeq (sIf (tOr (tVal (eIs (eVar 1) .bool)) (tVal (eIs (eVar 0) .bool))) (sRet (eAnd (eIs (eVar 1) .bool) (eAnd (eIs (eVar 0) .bool) (eBin eqV (eVar 0) (eVar 1))))) (sNext)) (sSeq (sIf (tVal (eIs (eVar 1) .int)) (sRet (eAnd (eIs (eVar 0) .int) (eBin eqV (eVar 0) (eVar 1)))) (sNext)) (sRet (eAnd (eIs (eVar 0) .str) (eAnd (eIs (eVar 1) .str) (eBin eqV (eVar 0) (eVar 1))))))))
def b__law_pool (c : CallF) : Stm := sSeq (sSet 1 (eC (.int 7))) (sSeq (sFor (iSeq (eSl (eVar 0) (ptNone) (ptSome (eC (.int 63))))) (gName 2) (sSet 1 (eBin modV (eFn intV (esCons (eBin addV (eBin mulV (eVar 1) (eC (.int 31))) (eVar 2)) (esNil))) (eC (.int 1000003))))) (sRet (eNew (eLst (esCons (eFn listV (esCons (eVar 0) (esNil))) (esCons (eC (.int 0)) (esCons (eC (.int 0)) (esCons (eC (.int 0)) (esCons (eVar 1) (esNil))))))))))
def b__law_spread (c : CallF) : Stm := sSeq (sSet 1 (eBin modV (eFn intV (esCons (eVar 0) (esNil))) (eC (.int 2147483647)))) (sSeq (sSet 2 (eC (.int 1))) (sSeq (sFor (iRng1 (eC (.int 4))) (gName 3) (sSeq (sSet 1 (eBin modV (eFn intV (esCons (eBin addV (eBin addV (eBin mulV (eVar 1) (eC (.int 48271))) (eC (.int 12345))) (eVar 3)) (esNil))) (eC (.int 2147483647)))) (sSet 2 (eBin addV (eBin mulV (eVar 2) (eC (.int 2147483647))) (eVar 1))))) (sRet (eVar 2))))
def b__law_draw (c : CallF) : Stm := sSeq (sIf (tAnd (tVal (eBin leV (eBin ixV (eVar 0) (eC (.int 2))) (eC (.int 0)))) (tVal (eBin ltV (eBin ixV (eVar 0) (eC (.int 1))) (eFn lenF (esCons (eBin ixV (eVar 0) (eC (.int 0))) (esNil)))))) (sSeq (sSet 2 (eBin ixV (eBin ixV (eVar 0) (eC (.int 0))) (eBin ixV (eVar 0) (eC (.int 1))))) (sSeq (sPut (eVar 0) (eC (.int 1)) (eBin addV (eBin ixV (eVar 0) (eC (.int 1))) (eC (.int 1)))) (sSeq (sPut (eVar 0) (eC (.int 2)) (eVar 2)) (sIf (tVal (eBin ltV (eVar 2) (eC (.int 1000000000000000000)))) (sPut (eVar 0) (eC (.int 2)) (eCall c "_law_spread" (esCons (eVar 2) (esNil)))) (sNext))))) (sNext)) (sSeq (sPut (eVar 0) (eC (.int 3)) (eBin addV (eBin ixV (eVar 0) (eC (.int 3))) (eC (.int 1)))) (sSeq (sIf (tVal (eBin leV (eBin ixV (eVar 0) (eC (.int 2))) (eC (.int 0)))) (sSeq (sSet 3 (eBin modV (eFn intV (esCons (eBin addV (eBin addV (eBin mulV (eBin ixV (eVar 0) (eC (.int 4))) (eC (.int 48271))) (eBin mulV (eBin ixV (eVar 0) (eC (.int 3))) (eC (.int 69621)))) (eC (.int 1))) (esNil))) (eC (.int 2147483647)))) (sSeq (sSet 3 (eBin modV (eFn intV (esCons (eBin addV (eBin mulV (eVar 3) (eC (.int 16807))) (eBin ixV (eVar 0) (eC (.int 3)))) (esNil))) (eC (.int 2147483629)))) (sRet (eBin modV (eBin fdivV (eVar 3) (eC (.int 5))) (eVar 1))))) (sNext)) (sSeq (sSet 4 (eBin modV (eFn intV (esCons (eBin ixV (eVar 0) (eC (.int 2))) (esNil))) (eVar 1))) (sSeq (sPut (eVar 0) (eC (.int 2)) (eBin fdivV (eBin ixV (eVar 0) (eC (.int 2))) (eVar 1))) (sRet (eVar 4))))))
def b__law_pick (c : CallF) : Stm := sRet (eBin ixV (eVar 1) (eCall c "_law_draw" (esCons (eVar 0) (esCons (eFn lenF (esCons (eVar 1) (esNil))) (esNil)))))
def b__law_bent (c : CallF) : Stm := sSeq (sIf (tAnd (tVal (eIs (eVar 1) .tuple)) (tAnd (tVal (eBin gtV (eFn lenF (esCons (eVar 1) (esNil))) (eC (.int 0)))) (tVal (eBin gtV (eCall c "_law_draw" (esCons (eVar 0) (esCons (eC (.int 4)) (esNil)))) (eC (.int 0)))))) (sSeq (sSet 2 (eCall c "_law_draw" (esCons (eVar 0) (esCons (eFn lenF (esCons (eVar 1) (esNil))) (esNil))))) (sRet (eBin addV (eBin addV (eSl (eVar 1) (ptNone) (ptSome (eVar 2))) (eTup (esCons (eCall c "_law_bent" (esCons (eVar 0) (esCons (eBin ixV (eVar 1) (eVar 2)) (esNil)))) (esNil)))) (eSl (eVar 1) (ptSome (eBin addV (eVar 2) (eC (.int 1)))) (ptNone))))) (sNext)) (sSeq (sSet 3 (eCall c "_law_draw" (esCons (eVar 0) (esCons (eC (.int 9)) (esNil))))) (sSeq (sIf (tVal (eBin eqV (eVar 3) (eC (.int 0)))) (sRet (eBin ixV (eTup (esCons (eC (.str "x")) (esCons (eC (.bl true)) (esCons (eTup (esNil)) (esCons (eC (.int 0)) (esCons (eUn negV (eC (.int 1))) (esCons (eC .non) (esCons (eC (.bl false)) (esCons (eLst (esNil)) (esCons (eC (.str "in")) (esCons (eC (.int 1)) (esNil)))))))))))) (eCall c "_law_draw" (esCons (eVar 0) (esCons (eC (.int 10)) (esNil)))))) (sNext)) (sSeq (sIf (tVal (eCall c "_law_is_integer" (esCons (eVar 1) (esNil)))) (sRet (eBin addV (eVar 1) (eBin ixV (eTup (esCons (eC (.int 1)) (esCons (eUn negV (eC (.int 1))) (esCons (eC (.int 2)) (esCons (eC (.int 0)) (esNil)))))) (eCall c "_law_draw" (esCons (eVar 0) (esCons (eC (.int 4)) (esNil))))))) (sNext)) (sSeq (sIf (tVal (eIs (eVar 1) .str)) (sRet (eBin ixV (eTup (esCons (eBin addV (eVar 1) (eC (.str "a"))) (esCons (eSl (eVar 1) (ptSome (eC (.int 1))) (ptNone)) (esCons (eBin addV (eVar 1) (eC (.str "A"))) (esCons (eBin addV (eVar 1) (eC (.str " "))) (esCons (eSl (eVar 1) (ptNone) (ptSome (eC (.int 1)))) (esNil))))))) (eCall c "_law_draw" (esCons (eVar 0) (esCons (eC (.int 5)) (esNil)))))) (sNext)) (sSeq (sIf (tOr (tNot (tVal (eIs (eVar 1) .tuple))) (tVal (eBin eqV (eFn lenF (esCons (eVar 1) (esNil))) (eC (.int 0))))) (sRet (eIf (tVal (eBin ltV (eVar 3) (eC (.int 5)))) (eTup (esCons (eVar 1) (esCons (eC (.int 0)) (esNil)))) (eTup (esNil)))) (sNext)) (sSeq (sSet 2 (eCall c "_law_draw" (esCons (eVar 0) (esCons (eFn lenF (esCons (eVar 1) (esNil))) (esNil))))) (sSeq (sIf (tVal (eBin ltV (eVar 3) (eC (.int 3)))) (sRet (eBin addV (eSl (eVar 1) (ptNone) (ptSome (eVar 2))) (eSl (eVar 1) (ptSome (eBin addV (eVar 2) (eC (.int 1)))) (ptNone)))) (sNext)) (sSeq (sIf (tVal (eBin ltV (eVar 3) (eC (.int 5)))) (sRet (eBin addV (eBin addV (eSl (eVar 1) (ptNone) (ptSome (eVar 2))) (eTup (esCons (eBin ixV (eVar 1) (eVar 2)) (esNil)))) (eSl (eVar 1) (ptSome (eVar 2)) (ptNone)))) (sNext)) (sSeq (sIf (tVal (eBin eqV (eVar 3) (eC (.int 5)))) (sRet (eFn listV (esCons (eVar 1) (esNil)))) (sNext)) (sSeq (sSet 4 (eCall c "_law_draw" (esCons (eVar 0) (esCons (eFn lenF (esCons (eVar 1) (esNil))) (esNil))))) (sSeq (sSet 5 (eFn listN (esCons (eVar 1) (esNil)))) (sSeq (sPut (eVar 5) (eVar 2) (eBin ixV (eVar 1) (eVar 4))) (sSeq (sPut (eVar 5) (eVar 4) (eBin ixV (eVar 1) (eVar 2))) (sRet (eFn tupleV (esCons (eVar 5) (esNil)))))))))))))))))
def b__law_booled (c : CallF) : Stm := sSeq (sIf (tVal (eIs (eVar 0) .tuple)) (sRet (eFn tupleV (esCons (eCompK finL (iSeq (eVar 0)) [1] (gName 1) (tYes) (eCall c "_law_booled" (esCons (eVar 1) (esNil)))) (esNil)))) (sNext)) (sRet (eIf (tAnd (tVal (eCall c "_law_is_integer" (esCons (eVar 0) (esNil)))) (tVal (eBin inV (eVar 0) (eTup (esCons (eC (.int 0)) (esCons (eC (.int 1)) (esNil))))))) (eBin eqV (eVar 0) (eC (.int 1))) (eVar 0)))
def b__law_listed (c : CallF) : Stm := sSeq (sIf (tNot (tVal (eIs (eVar 0) .tuple))) (sRet (eVar 0)) (sNext)) (sSeq (sIf (tVal (eBin eqV (eVar 1) (eC (.int 0)))) (sRet (eFn listV (esCons (eVar 0) (esNil)))) (sNext)) (sRet (eFn tupleV (esCons (eCompK finL (iSeq (eVar 0)) [2] (gName 2) (tYes) (eCall c "_law_listed" (esCons (eVar 2) (esCons (eBin subV (eVar 1) (eC (.int 1))) (esNil))))) (esNil)))))
def b__law_odd_values (c : CallF) : Stm := sSeq (sSet 0 (eTup (esNil))) (sSeq (sFor (iRng1 (eC (.int 90))) (gName 1) (sSet 0 (eTup (esCons (eVar 0) (esNil))))) (sRet (eLst (esCons (eVar 0) (esCons (eTup (esCons (eC (.str "plan")) (esCons (eVar 0) (esCons (eVar 0) (esNil))))) (esCons (eC .non) (esCons (eC (.int 0)) (esCons (eC (.int 1)) (esCons (eC (.bl true)) (esCons (eC (.bl false)) (esCons (eC (.str "")) (esCons (eC (.str "x")) (esCons (eTup (esNil)) (esCons (eLst (esNil)) (esCons (eC (.dct [])) (esCons (eTup (esCons (eTup (esNil)) (esNil))) (esCons (eTup (esCons (eTup (esNil)) (esCons (eTup (esNil)) (esNil)))) (esCons (eTup (esCons (eC (.int 0)) (esNil))) (esCons (eTup (esCons (eC (.int 1)) (esCons (eC (.int 2)) (esNil)))) (esCons (eTup (esCons (eC (.str "x")) (esNil))) (esCons (eTup (esCons (eLst (esNil)) (esNil))) (esCons (eC (.dct [(.str "a", .int 1)])) (esCons (eTup (esCons (eC .non) (esNil))) (esCons (eTup (esCons (eTup (esCons (eTup (esNil)) (esNil))) (esNil))) (esCons (eUn negV (eC (.int 1))) (esNil))))))))))))))))))))))))))
def b__law_yard (c : CallF) : Stm := sSeq (sSet 4 (eCall c "_law_draw" (esCons (eVar 0) (esCons (eBin addV (eVar 1) (eC (.int 1))) (esNil))))) (sSeq (sSet 5 (eNew (eLst (esNil)))) (sSeq (sSet 6 (eC (.int 0))) (sSeq (sFor (iRng1 (eVar 4)) (gName 7) (sSeq (sSet 6 (eBin addV (eBin addV (eVar 6) (eC (.int 1))) (eCall c "_law_draw" (esCons (eVar 0) (esCons (eBin ixV (eTup (esCons (eC (.int 1)) (esCons (eC (.int 3)) (esNil)))) (eCall c "_law_draw" (esCons (eVar 0) (esCons (eC (.int 2)) (esNil))))) (esNil)))))) (sExpr (eM ckL appM (eVar 5) (esCons (eVar 6) (esNil)))))) (sSeq (sSet 8 (eCompK finL (iRng1 (eVar 2)) [7] (gName 7) (tYes) (eNew (eLst (esNil))))) (sSeq (sWhile (tAnd (tVal (eBin gtV (eFn lenF (esCons (eVar 5) (esNil))) (eC (.int 0)))) (tVal (eBin gtV (eFn lenF (esCons (eCompK finL (iSeq (eVar 8)) [11] (gName 11) (tVal (eBin ltV (eFn lenF (esCons (eVar 11) (esNil))) (eVar 3))) (eVar 11)) (esNil))) (eC (.int 0))))) (sSeq (sSet 9 (eM ckL popAtM (eVar 5) (esCons (eCall c "_law_draw" (esCons (eVar 0) (esCons (eFn lenF (esCons (eVar 5) (esNil))) (esNil)))) (esNil)))) (sSeq (sSet 10 (eCompK finL (iSeq (eVar 8)) [11] (gName 11) (tVal (eBin ltV (eFn lenF (esCons (eVar 11) (esNil))) (eVar 3))) (eVar 11))) (sSeq (sSet 11 (eCall c "_law_pick" (esCons (eVar 0) (esCons (eVar 10) (esNil))))) (sExpr (eM ckL appM (eVar 11) (esCons (eVar 9) (esNil)))))))) (sRet (eFn tupleV (esCons (eCompK finL (iSeq (eVar 8)) [11] (gName 11) (tYes) (eFn tupleV (esCons (eVar 11) (esNil)))) (esNil)))))))))
def b__law_is_yard (c : CallF) : Stm := sSeq (sIf (tOr (tNot (tVal (eIs (eVar 0) .tuple))) (tOr (tVal (eBin ltV (eFn lenF (esCons (eVar 0) (esNil))) (eC (.int 1)))) (tVal (eBin gtV (eFn lenF (esCons (eVar 0) (esNil))) (eC (.int 6)))))) (sRet (eC (.bl false))) (sNext)) (sSeq (sSet 2 (eNew (eLst (esNil)))) (sSeq (sFor (iSeq (eVar 0)) (gName 3) (sSeq (sIf (tOr (tNot (tVal (eIs (eVar 3) .tuple))) (tVal (eBin gtV (eFn lenF (esCons (eVar 3) (esNil))) (eVar 1)))) (sRet (eC (.bl false))) (sNext)) (sFor (iSeq (eVar 3)) (gName 4) (sSeq (sIf (tOr (tNot (tVal (eCall c "_law_is_integer" (esCons (eVar 4) (esNil))))) (tOr (tVal (eBin ltV (eVar 4) (eC (.int 1)))) (tVal (eBin inV (eVar 4) (eVar 2))))) (sRet (eC (.bl false))) (sNext)) (sExpr (eM ckL appM (eVar 2) (esCons (eVar 4) (esNil)))))))) (sRet (eC (.bl true)))))
def b_law (c : CallF) : Stm := sSeq (sSet 1 (eCall c "_law_pool" (esCons (eVar 0) (esNil)))) (sSeq (sSet 2 (eBin addV (eC (.int 1)) (eCall c "_law_draw" (esCons (eVar 1) (esCons (eC (.int 9)) (esNil)))))) (sSeq (sSet 3 (eCall c "_law_yard" (esCons (eVar 1) (esCons (eC (.int 14)) (esCons (eBin addV (eC (.int 1)) (eCall c "_law_draw" (esCons (eVar 1) (esCons (eC (.int 6)) (esNil))))) (esCons (eVar 2) (esNil))))))) (sSeq (sSet 4 (eTup (esCons (eRng2 .tuple (eC (.int 1)) (eBin addV (eVar 2) (eC (.int 1)))) (esNil)))) (sSeq (sSet 5 (eLst (esCons (eVar 3) (esCons (eFn listV (esCons (eVar 3) (esNil))) (esCons (eCall c "_law_listed" (esCons (eVar 3) (esCons (eC (.int 1)) (esNil)))) (esCons (eCall c "_law_booled" (esCons (eVar 3) (esNil))) (esCons (eVar 4) (esCons (eTup (esCons (eBin addV (eBin ixV (eVar 4) (eC (.int 0))) (eTup (esCons (eBin addV (eVar 2) (eC (.int 1))) (esNil)))) (esNil))) (esCons (eTup (esNil)) (esCons (eBin mulV (eTup (esCons (eTup (esNil)) (esNil))) (eC (.int 6))) (esCons (eBin mulV (eTup (esCons (eTup (esNil)) (esNil))) (eC (.int 7))) (esCons (eTup (esCons (eTup (esCons (eC (.int 1)) (esNil))) (esCons (eTup (esCons (eC (.int 1)) (esNil))) (esNil)))) (esCons (eTup (esCons (eTup (esCons (eC (.int 2)) (esCons (eC (.int 2)) (esNil)))) (esNil))) (esCons (eTup (esCons (eTup (esCons (eC (.int 0)) (esNil))) (esNil))) (esCons (eTup (esCons (eTup (esCons (eUn negV (eC (.int 1))) (esNil))) (esNil))) (esNil)))))))))))))))) (sSeq (sSet 5 (eBin addV (eVar 5) (eLst (esCons (eTup (esCons (eTup (esCons (eC (.int 1)) (esCons (eC (.int 2)) (esNil)))) (esCons (eLst (esCons (eC (.int 3)) (esNil))) (esNil)))) (esCons (eTup (esCons (eTup (esCons (eC (.bl true)) (esNil))) (esNil))) (esCons (eBin addV (eVar 3) (eTup (esCons (eTup (esNil)) (esNil)))) (esCons (eTup (esCons (eTup (esCons (eBin powV (eC (.int 10)) (eC (.int 12))) (esNil))) (esNil))) (esCons (eTup (esCons (eC (.str "12")) (esNil))) (esCons (eTup (esCons (eC (.int 1)) (esCons (eC (.int 2)) (esNil)))) (esNil)))))))))) (sSeq (sFor (iSeq (eBin addV (eBin addV (eVar 5) (eCall c "_law_odd_values" esNil)) (eCompK finL (iRng1 (eC (.int 12))) [9] (gName 9) (tYes) (eCall c "_law_bent" (esCons (eVar 1) (esCons (eVar 3) (esNil))))))) (gName 6) (sFor (iSeq (eTup (esCons (eVar 2) (esCons (eC (.int 1)) (esCons (eC (.int 9)) (esNil)))))) (gName 7) (sSeq (sSet 8 (eCall c "_law_is_yard" (esCons (eVar 6) (esCons (eVar 7) (esNil))))) (sIf (tNot (tVal (eCall c "_law_same" (esCons (eCall c "_law_kept_is_yard" (esCons (eVar 6) (esCons (eVar 7) (esNil)))) (esCons (eVar 8) (esNil)))))) (sRet (eC (.bl false))) (sNext))))) (sRet (eC (.bl true)))))))))
def D_is_integer : Df := ⟨"is_integer", 1, 1, false, b_is_integer⟩
def D_is_stack : Df := ⟨"is_stack", 2, 3, false, b_is_stack⟩
def D_is_yard : Df := ⟨"is_yard", 2, 4, false, b_is_yard⟩
def D_boxes_in : Df := ⟨"boxes_in", 1, 3, false, b_boxes_in⟩
def D__law_copied : Df := ⟨"_law_copied", 1, 3, false, b__law_copied⟩
def D__law_kept_is_yard : Df := ⟨"_law_kept_is_yard", 2, 4, false, b__law_kept_is_yard⟩
def D__law_is_integer : Df := ⟨"_law_is_integer", 1, 1, false, b__law_is_integer⟩
def D__law_same : Df := ⟨"_law_same", 2, 3, false, b__law_same⟩
def D__law_pool : Df := ⟨"_law_pool", 1, 3, true, b__law_pool⟩
def D__law_spread : Df := ⟨"_law_spread", 1, 4, false, b__law_spread⟩
def D__law_draw : Df := ⟨"_law_draw", 2, 5, false, b__law_draw⟩
def D__law_pick : Df := ⟨"_law_pick", 2, 2, false, b__law_pick⟩
def D__law_bent : Df := ⟨"_law_bent", 2, 6, false, b__law_bent⟩
def D__law_booled : Df := ⟨"_law_booled", 1, 2, false, b__law_booled⟩
def D__law_listed : Df := ⟨"_law_listed", 2, 3, false, b__law_listed⟩
def D__law_odd_values : Df := ⟨"_law_odd_values", 0, 2, false, b__law_odd_values⟩
def D__law_yard : Df := ⟨"_law_yard", 4, 12, false, b__law_yard⟩
def D__law_is_yard : Df := ⟨"_law_is_yard", 2, 5, false, b__law_is_yard⟩
def D_law : Df := ⟨"law", 1, 10, false, b_law⟩
def defs : List Df := [D_is_integer, D_is_stack, D_is_yard, D_boxes_in, D__law_copied, D__law_kept_is_yard, D__law_is_integer, D__law_same, D__law_pool, D__law_spread, D__law_draw, D__law_pick, D__law_bent, D__law_booled, D__law_listed, D__law_odd_values, D__law_yard, D__law_is_yard, D_law]
theorem lk_is_integer : look defs "is_integer" = some D_is_integer := rfl
theorem lk_is_stack : look defs "is_stack" = some D_is_stack := rfl
theorem lk_is_yard : look defs "is_yard" = some D_is_yard := rfl
theorem lk_boxes_in : look defs "boxes_in" = some D_boxes_in := rfl
theorem lk__law_copied : look defs "_law_copied" = some D__law_copied := rfl
theorem lk__law_kept_is_yard : look defs "_law_kept_is_yard" = some D__law_kept_is_yard := rfl
theorem lk__law_is_integer : look defs "_law_is_integer" = some D__law_is_integer := rfl
theorem lk__law_same : look defs "_law_same" = some D__law_same := rfl
theorem lk__law_pool : look defs "_law_pool" = some D__law_pool := rfl
theorem lk__law_spread : look defs "_law_spread" = some D__law_spread := rfl
theorem lk__law_draw : look defs "_law_draw" = some D__law_draw := rfl
theorem lk__law_pick : look defs "_law_pick" = some D__law_pick := rfl
theorem lk__law_bent : look defs "_law_bent" = some D__law_bent := rfl
theorem lk__law_booled : look defs "_law_booled" = some D__law_booled := rfl
theorem lk__law_listed : look defs "_law_listed" = some D__law_listed := rfl
theorem lk__law_odd_values : look defs "_law_odd_values" = some D__law_odd_values := rfl
theorem lk__law_yard : look defs "_law_yard" = some D__law_yard := rfl
theorem lk__law_is_yard : look defs "_law_is_yard" = some D__law_is_yard := rfl
theorem lk_law : look defs "law" = some D_law := rfl
theorem cn_is_integer (n : Nat) (v0 : Val) (S : Sto) : callN defs (n + 1) "is_integer" [v0] S = finish false S.length (b_is_integer (callN defs n) [some v0] S) := by
  show (match look defs "is_integer" with | some d => runDf d (callN defs n) _ S | none => .bad) = _
  rw [lk_is_integer]; rfl
theorem cn_is_stack (n : Nat) (v0 v1 : Val) (S : Sto) : callN defs (n + 1) "is_stack" [v0, v1] S = finish false S.length (b_is_stack (callN defs n) [some v0, some v1, none] S) := by
  show (match look defs "is_stack" with | some d => runDf d (callN defs n) _ S | none => .bad) = _
  rw [lk_is_stack]; rfl
theorem cn_is_yard (n : Nat) (v0 v1 : Val) (S : Sto) : callN defs (n + 1) "is_yard" [v0, v1] S = finish false S.length (b_is_yard (callN defs n) [some v0, some v1, none, none] S) := by
  show (match look defs "is_yard" with | some d => runDf d (callN defs n) _ S | none => .bad) = _
  rw [lk_is_yard]; rfl
theorem cn_boxes_in (n : Nat) (v0 : Val) (S : Sto) : callN defs (n + 1) "boxes_in" [v0] S = finish false S.length (b_boxes_in (callN defs n) [some v0, none, none] S) := by
  show (match look defs "boxes_in" with | some d => runDf d (callN defs n) _ S | none => .bad) = _
  rw [lk_boxes_in]; rfl
theorem cn__law_copied (n : Nat) (v0 : Val) (S : Sto) : callN defs (n + 1) "_law_copied" [v0] S = finish false S.length (b__law_copied (callN defs n) [some v0, none, none] S) := by
  show (match look defs "_law_copied" with | some d => runDf d (callN defs n) _ S | none => .bad) = _
  rw [lk__law_copied]; rfl
theorem cn__law_kept_is_yard (n : Nat) (v0 v1 : Val) (S : Sto) : callN defs (n + 1) "_law_kept_is_yard" [v0, v1] S = finish false S.length (b__law_kept_is_yard (callN defs n) [some v0, some v1, none, none] S) := by
  show (match look defs "_law_kept_is_yard" with | some d => runDf d (callN defs n) _ S | none => .bad) = _
  rw [lk__law_kept_is_yard]; rfl
theorem cn__law_is_integer (n : Nat) (v0 : Val) (S : Sto) : callN defs (n + 1) "_law_is_integer" [v0] S = finish false S.length (b__law_is_integer (callN defs n) [some v0] S) := by
  show (match look defs "_law_is_integer" with | some d => runDf d (callN defs n) _ S | none => .bad) = _
  rw [lk__law_is_integer]; rfl
theorem cn__law_same (n : Nat) (v0 v1 : Val) (S : Sto) : callN defs (n + 1) "_law_same" [v0, v1] S = finish false S.length (b__law_same (callN defs n) [some v0, some v1, none] S) := by
  show (match look defs "_law_same" with | some d => runDf d (callN defs n) _ S | none => .bad) = _
  rw [lk__law_same]; rfl
theorem cn__law_pool (n : Nat) (v0 : Val) (S : Sto) : callN defs (n + 1) "_law_pool" [v0] S = finish true S.length (b__law_pool (callN defs n) [some v0, none, none] S) := by
  show (match look defs "_law_pool" with | some d => runDf d (callN defs n) _ S | none => .bad) = _
  rw [lk__law_pool]; rfl
theorem cn__law_spread (n : Nat) (v0 : Val) (S : Sto) : callN defs (n + 1) "_law_spread" [v0] S = finish false S.length (b__law_spread (callN defs n) [some v0, none, none, none] S) := by
  show (match look defs "_law_spread" with | some d => runDf d (callN defs n) _ S | none => .bad) = _
  rw [lk__law_spread]; rfl
theorem cn__law_draw (n : Nat) (v0 v1 : Val) (S : Sto) : callN defs (n + 1) "_law_draw" [v0, v1] S = finish false S.length (b__law_draw (callN defs n) [some v0, some v1, none, none, none] S) := by
  show (match look defs "_law_draw" with | some d => runDf d (callN defs n) _ S | none => .bad) = _
  rw [lk__law_draw]; rfl
theorem cn__law_pick (n : Nat) (v0 v1 : Val) (S : Sto) : callN defs (n + 1) "_law_pick" [v0, v1] S = finish false S.length (b__law_pick (callN defs n) [some v0, some v1] S) := by
  show (match look defs "_law_pick" with | some d => runDf d (callN defs n) _ S | none => .bad) = _
  rw [lk__law_pick]; rfl
theorem cn__law_bent (n : Nat) (v0 v1 : Val) (S : Sto) : callN defs (n + 1) "_law_bent" [v0, v1] S = finish false S.length (b__law_bent (callN defs n) [some v0, some v1, none, none, none, none] S) := by
  show (match look defs "_law_bent" with | some d => runDf d (callN defs n) _ S | none => .bad) = _
  rw [lk__law_bent]; rfl
theorem cn__law_booled (n : Nat) (v0 : Val) (S : Sto) : callN defs (n + 1) "_law_booled" [v0] S = finish false S.length (b__law_booled (callN defs n) [some v0, none] S) := by
  show (match look defs "_law_booled" with | some d => runDf d (callN defs n) _ S | none => .bad) = _
  rw [lk__law_booled]; rfl
theorem cn__law_listed (n : Nat) (v0 v1 : Val) (S : Sto) : callN defs (n + 1) "_law_listed" [v0, v1] S = finish false S.length (b__law_listed (callN defs n) [some v0, some v1, none] S) := by
  show (match look defs "_law_listed" with | some d => runDf d (callN defs n) _ S | none => .bad) = _
  rw [lk__law_listed]; rfl
theorem cn__law_odd_values (n : Nat) (S : Sto) : callN defs (n + 1) "_law_odd_values" [] S = finish false S.length (b__law_odd_values (callN defs n) [none, none] S) := by
  show (match look defs "_law_odd_values" with | some d => runDf d (callN defs n) _ S | none => .bad) = _
  rw [lk__law_odd_values]; rfl
theorem cn__law_yard (n : Nat) (v0 v1 v2 v3 : Val) (S : Sto) : callN defs (n + 1) "_law_yard" [v0, v1, v2, v3] S = finish false S.length (b__law_yard (callN defs n) [some v0, some v1, some v2, some v3, none, none, none, none, none, none, none, none] S) := by
  show (match look defs "_law_yard" with | some d => runDf d (callN defs n) _ S | none => .bad) = _
  rw [lk__law_yard]; rfl
theorem cn__law_is_yard (n : Nat) (v0 v1 : Val) (S : Sto) : callN defs (n + 1) "_law_is_yard" [v0, v1] S = finish false S.length (b__law_is_yard (callN defs n) [some v0, some v1, none, none, none] S) := by
  show (match look defs "_law_is_yard" with | some d => runDf d (callN defs n) _ S | none => .bad) = _
  rw [lk__law_is_yard]; rfl
theorem cn_law (n : Nat) (v0 : Val) (S : Sto) : callN defs (n + 1) "law" [v0] S = finish false S.length (b_law (callN defs n) [some v0, none, none, none, none, none, none, none, none, none] S) := by
  show (match look defs "law" with | some d => runDf d (callN defs n) _ S | none => .bad) = _
  rw [lk_law]; rfl
def topAt (i : Nat) : Stmt := PySem.Challenge.pw_tidewarden_k23_yards_told.main.body.getD i (.Pass ⟨0, 0, 0, 0⟩)
abbrev s_is_integer : Stmt := topAt 1
abbrev s_is_stack : Stmt := topAt 4
abbrev s_is_yard : Stmt := topAt 5
abbrev s_boxes_in : Stmt := topAt 6
abbrev s__law_copied : Stmt := topAt 8
abbrev s__law_kept_is_yard : Stmt := topAt 9
abbrev s__law_is_integer : Stmt := topAt 10
abbrev s__law_same : Stmt := topAt 11
abbrev s__law_pool : Stmt := topAt 12
abbrev s__law_spread : Stmt := topAt 13
abbrev s__law_draw : Stmt := topAt 14
abbrev s__law_pick : Stmt := topAt 15
abbrev s__law_bent : Stmt := topAt 16
abbrev s__law_booled : Stmt := topAt 17
abbrev s__law_listed : Stmt := topAt 18
abbrev s__law_odd_values : Stmt := topAt 19
abbrev s__law_yard : Stmt := topAt 20
abbrev s__law_is_yard : Stmt := topAt 21
abbrev s_law : Stmt := topAt 22
structure Fx (en : En) : Prop where
  f_all : en.mg "all" = none
  f_bool : en.mg "bool" = none
  f_dict : en.mg "dict" = none
  f_int : en.mg "int" = none
  f_isinstance : en.mg "isinstance" = none
  f_len : en.mg "len" = none
  f_list : en.mg "list" = none
  f_range : en.mg "range" = none
  f_set : en.mg "set" = none
  f_str : en.mg "str" = none
  f_tuple : en.mg "tuple" = none
  g_MOST_STACKS : GC en.K en.mg "MOST_STACKS" k_MOST_STACKS
section
variable {en : En} {n : Nat} {c : CallF} {X : Cx}
theorem sc_is_integer : FnScope ["value"] ["value"] (defScope s_is_integer) := ⟨rfl, rfl, rfl, by decide +kernel, rfl, by decide +kernel, by decide +kernel⟩
theorem dv_is_integer (T : Fx en) (k : Calls en defs n c) (C : Cxt en X W0 ["value"] (defScope s_is_integer) (fun _ => true) n) : PSs X (defBody s_is_integer) (rdS X.K W0 (b_is_integer c)) :=
  (s_one (s_ret (e_and (e_is C .int T.f_isinstance (by decide +kernel) T.f_int (by decide +kernel) bt_int (e_var C (i := 0) (by decide +kernel))) (e_one (e_not (e_is C .bool T.f_isinstance (by decide +kernel) T.f_bool (by decide +kernel) bt_bool (e_var C (i := 0) (by decide +kernel))))))))
theorem sc_is_stack : FnScope ["value", "height", "box"] ["value", "height"] (defScope s_is_stack) := ⟨rfl, rfl, rfl, by decide +kernel, rfl, by decide +kernel, by decide +kernel⟩
theorem dv_is_stack (T : Fx en) (k : Calls en defs n c) (C : Cxt en X W0 ["value", "height", "box"] (defScope s_is_stack) (fun _ => true) n) : PSs X (defBody s_is_stack) (rdS X.K W0 (b_is_stack c)) :=
  (s_cons (s_if (PW.pt (w_or (t_not (t_val (e_is C .tuple T.f_isinstance (by decide +kernel) T.f_tuple (by decide +kernel) bt_tuple (e_var C (i := 0) (by decide +kernel))) (fun _ => rfl))) (w_or1 (t_cmp o_gt (e_fnB C o_len T.f_len (by decide +kernel) bt_len (a_cons (e_var C (i := 0) (by decide +kernel)) a_nil)) (e_var C (i := 1) (by decide +kernel)) (nomark _))))) (s_one (s_ret e_bl)) s_nil) (s_one (s_ret (e_fnB C (o_all C.calm) T.f_all (by decide +kernel) bt_all (a_cons (e_comp C finL_ok (own := [("box", 2)]) (i_seq (e_var C (i := 0) (by decide +kernel))) (blkOk_by (by decide +kernel)) (by decide) (fun Y1 C1 => ⟨(g_name C1 (i := 2) (by decide +kernel)), ts_nil, (e_and (e_call C1 (k _ _ lk_is_integer) (by decide +kernel) (a_cons (e_var C1 (i := 2) (by decide +kernel)) a_nil)) (e_one (e_cmp o_ge (e_var C1 (i := 2) (by decide +kernel)) e_int (nomark _))))⟩) (fun _ => rfl)) a_nil)))))
theorem sc_is_yard : FnScope ["value", "height", "boxes", "stack"] ["value", "height"] (defScope s_is_yard) := ⟨rfl, rfl, rfl, by decide +kernel, rfl, by decide +kernel, by decide +kernel⟩
theorem dv_is_yard (T : Fx en) (k : Calls en defs n c) (C : Cxt en X W0 ["value", "height", "boxes", "stack"] (defScope s_is_yard) (fun _ => true) n) : PSs X (defBody s_is_yard) (rdS X.K W0 (b_is_yard c)) :=
  (s_cons (s_if (PW.pt (w_or (t_not (t_val (e_is C .tuple T.f_isinstance (by decide +kernel) T.f_tuple (by decide +kernel) bt_tuple (e_var C (i := 0) (by decide +kernel))) (fun _ => rfl))) (w_or1 (t_not (t_chain o_le o_le e_int (e_fnB C o_len T.f_len (by decide +kernel) bt_len (a_cons (e_var C (i := 0) (by decide +kernel)) a_nil)) (e_glob C T.g_MOST_STACKS (by decide +kernel)) (by with_unfolding_all rfl)))))) (s_one (s_ret e_bl)) s_nil) (s_cons (s_if (t_not (t_val (e_fnB C (o_all C.calm) T.f_all (by decide +kernel) bt_all (a_cons (e_comp C finL_ok (own := [("stack", 3)]) (i_seq (e_var C (i := 0) (by decide +kernel))) (blkOk_by (by decide +kernel)) (by decide) (fun Y1 C1 => ⟨(g_name C1 (i := 3) (by decide +kernel)), ts_nil, (e_call C1 (k _ _ lk_is_stack) (by decide +kernel) (a_cons (e_var C1 (i := 3) (by decide +kernel)) (a_cons (e_var C1 (i := 1) (by decide +kernel)) a_nil)))⟩) (fun _ => rfl)) a_nil)) (fun _ => rfl))) (s_one (s_ret e_bl)) s_nil) (s_cons (s_set C (i := 2) (by decide +kernel) (e_call C (k _ _ lk_boxes_in) (by decide +kernel) (a_cons (e_var C (i := 0) (by decide +kernel)) a_nil)) rfl) (s_one (s_ret (e_cmp (o_eq C.hu) (e_lenSet C T.f_len (by decide +kernel) T.f_set (by decide +kernel) (e_var C (i := 2) (by decide +kernel))) (e_fnB C o_len T.f_len (by decide +kernel) bt_len (a_cons (e_var C (i := 2) (by decide +kernel)) a_nil)) (nomark _)))))))
theorem sc_boxes_in : FnScope ["yard", "stack", "box"] ["yard"] (defScope s_boxes_in) := ⟨rfl, rfl, rfl, by decide +kernel, rfl, by decide +kernel, by decide +kernel⟩
theorem dv_boxes_in (T : Fx en) (k : Calls en defs n c) (C : Cxt en X W0 ["yard", "stack", "box"] (defScope s_boxes_in) (fun _ => true) n) : PSs X (defBody s_boxes_in) (rdS X.K W0 (b_boxes_in c)) :=
  (s_one (s_ret (e_comp2 C finL_ok (own := [("stack", 1), ("box", 2)]) (i_seq (e_var C (i := 0) (by decide +kernel))) (blkOk_by (by decide +kernel)) (by decide) (by decide) (fun Y1 C1 => ⟨(g_name C1 (i := 1) (by decide +kernel)), ts_nil, (i_seq (e_var C1 (i := 1) (by decide +kernel))), (g_name C1 (i := 2) (by decide +kernel)), ts_nil, (e_var C1 (i := 2) (by decide +kernel))⟩) (fun _ => rfl) (fun _ _ => rfl))))
theorem sc__law_copied : FnScope ["value", "one", "key"] ["value"] (defScope s__law_copied) := ⟨rfl, rfl, rfl, by decide +kernel, rfl, by decide +kernel, by decide +kernel⟩
theorem dv__law_copied (T : Fx en) (k : Calls en defs n c) (C : Cxt en X W0 ["value", "one", "key"] (defScope s__law_copied) (fun _ => true) n) : PSs X (defBody s__law_copied) (rdS X.K W0 (b__law_copied c)) :=
  (s_cons (s_if (t_val (e_is C .list T.f_isinstance (by decide +kernel) T.f_list (by decide +kernel) bt_list (e_var C (i := 0) (by decide +kernel))) (fun _ => rfl)) (s_one (s_ret (e_comp C finL_ok (own := [("one", 1)]) (i_seq (e_var C (i := 0) (by decide +kernel))) (blkOk_by (by decide +kernel)) (by decide) (fun Y1 C1 => ⟨(g_name C1 (i := 1) (by decide +kernel)), ts_nil, (e_call C1 (k _ _ lk__law_copied) (by decide +kernel) (a_cons (e_var C1 (i := 1) (by decide +kernel)) a_nil))⟩) (fun _ => rfl)))) s_nil) (s_cons (s_if (t_val (e_is C .tuple T.f_isinstance (by decide +kernel) T.f_tuple (by decide +kernel) bt_tuple (e_var C (i := 0) (by decide +kernel))) (fun _ => rfl)) (s_one (s_ret (e_fnT C o_tuple T.f_tuple (by decide +kernel) bt_tuple (a_cons (e_comp C finL_ok (own := [("one", 1)]) (i_seq (e_var C (i := 0) (by decide +kernel))) (blkOk_by (by decide +kernel)) (by decide) (fun Y1 C1 => ⟨(g_name C1 (i := 1) (by decide +kernel)), ts_nil, (e_call C1 (k _ _ lk__law_copied) (by decide +kernel) (a_cons (e_var C1 (i := 1) (by decide +kernel)) a_nil))⟩) (fun _ => rfl)) a_nil)))) s_nil) (s_cons (s_if (t_val (e_is C .dict T.f_isinstance (by decide +kernel) T.f_dict (by decide +kernel) bt_dict (e_var C (i := 0) (by decide +kernel))) (fun _ => rfl)) (s_one (s_ret (e_compD C (i := 0) (own := [("key", 2)]) (by decide +kernel) (blkOk_by (by decide +kernel)) (by decide) (fun Y1 C1 => ⟨(g_name C1 (i := 2) (by decide +kernel)), ts_nil, (e_tup (a_cons (e_var C1 (i := 2) (by decide +kernel)) (a_cons (e_call C1 (k _ _ lk__law_copied) (by decide +kernel) (a_cons (e_ix C1 (e_var C1 (i := 0) (by decide +kernel)) (e_var C1 (i := 2) (by decide +kernel)) (fun _ _ => rfl)) a_nil)) a_nil)))⟩) (fun _ => rfl)))) s_nil) (s_one (s_ret (e_var C (i := 0) (by decide +kernel)))))))
theorem sc__law_kept_is_yard : FnScope ["value0", "value1", "before", "found"] ["value0", "value1"] (defScope s__law_kept_is_yard) := ⟨rfl, rfl, rfl, by decide +kernel, rfl, by decide +kernel, by decide +kernel⟩
theorem dv__law_kept_is_yard (T : Fx en) (k : Calls en defs n c) (C : Cxt en X W0 ["value0", "value1", "before", "found"] (defScope s__law_kept_is_yard) (fun _ => true) n) : PSs X (defBody s__law_kept_is_yard) (rdS X.K W0 (b__law_kept_is_yard c)) :=
  (s_cons (s_set C (i := 2) (by decide +kernel) (e_call C (k _ _ lk__law_copied) (by decide +kernel) (a_cons (e_lst (a_cons (e_var C (i := 0) (by decide +kernel)) (a_cons (e_var C (i := 1) (by decide +kernel)) a_nil))) a_nil)) rfl) (s_cons (s_set C (i := 3) (by decide +kernel) (e_call C (k _ _ lk_is_yard) (by decide +kernel) (a_cons (e_var C (i := 0) (by decide +kernel)) (a_cons (e_var C (i := 1) (by decide +kernel)) a_nil))) rfl) (s_one (s_ret (e_if (t_cmp (o_eq C.hu) (e_call C (k _ _ lk__law_copied) (by decide +kernel) (a_cons (e_lst (a_cons (e_var C (i := 0) (by decide +kernel)) (a_cons (e_var C (i := 1) (by decide +kernel)) a_nil))) a_nil)) (e_var C (i := 2) (by decide +kernel)) (nomark _)) (e_var C (i := 3) (by decide +kernel)) e_str)))))
theorem sc__law_is_integer : FnScope ["actual"] ["actual"] (defScope s__law_is_integer) := ⟨rfl, rfl, rfl, by decide +kernel, rfl, by decide +kernel, by decide +kernel⟩
theorem dv__law_is_integer (T : Fx en) (k : Calls en defs n c) (C : Cxt en X W0 ["actual"] (defScope s__law_is_integer) (fun _ => true) n) : PSs X (defBody s__law_is_integer) (rdS X.K W0 (b__law_is_integer c)) :=
  (s_one (s_ret (e_and (e_is C .int T.f_isinstance (by decide +kernel) T.f_int (by decide +kernel) bt_int (e_var C (i := 0) (by decide +kernel))) (e_one (e_not (e_is C .bool T.f_isinstance (by decide +kernel) T.f_bool (by decide +kernel) bt_bool (e_var C (i := 0) (by decide +kernel))))))))
theorem sc__law_same : FnScope ["actual", "due", "k"] ["actual", "due"] (defScope s__law_same) := ⟨rfl, rfl, rfl, by decide +kernel, rfl, by decide +kernel, by decide +kernel⟩
theorem dv__law_same (T : Fx en) (k : Calls en defs n c) (C : Cxt en X W0 ["actual", "due", "k"] (defScope s__law_same) (fun _ => true) n) : PSs X (defBody s__law_same) (rdS X.K W0 (b__law_same c)) :=
  (s_cons (s_if (PW.pt (w_or (t_val (e_is C .tuple T.f_isinstance (by decide +kernel) T.f_tuple (by decide +kernel) bt_tuple (e_var C (i := 1) (by decide +kernel))) (fun _ => rfl)) (w_or1 (t_val (e_is C .list T.f_isinstance (by decide +kernel) T.f_list (by decide +kernel) bt_list (e_var C (i := 1) (by decide +kernel))) (fun _ => rfl))))) (s_cons (s_if (PW.pt (w_or (t_cmp (o_ne C.hu) (e_is C .tuple T.f_isinstance (by decide +kernel) T.f_tuple (by decide +kernel) bt_tuple (e_var C (i := 1) (by decide +kernel))) (e_is C .tuple T.f_isinstance (by decide +kernel) T.f_tuple (by decide +kernel) bt_tuple (e_var C (i := 0) (by decide +kernel))) (nomark _)) (w_or (t_cmp (o_ne C.hu) (e_is C .list T.f_isinstance (by decide +kernel) T.f_list (by decide +kernel) bt_list (e_var C (i := 1) (by decide +kernel))) (e_is C .list T.f_isinstance (by decide +kernel) T.f_list (by decide +kernel) bt_list (e_var C (i := 0) (by decide +kernel))) (nomark _)) (w_or1 (t_cmp (o_ne C.hu) (e_fnB C o_len T.f_len (by decide +kernel) bt_len (a_cons (e_var C (i := 0) (by decide +kernel)) a_nil)) (e_fnB C o_len T.f_len (by decide +kernel) bt_len (a_cons (e_var C (i := 1) (by decide +kernel)) a_nil)) (nomark _)))))) (s_one (s_ret e_bl)) s_nil) (s_one (s_ret (e_cmp (o_eq C.hu) (e_fnB C o_len T.f_len (by decide +kernel) bt_len (a_cons (e_comp C finL_ok (own := [("k", 2)]) (i_rng1 C T.f_range (by decide +kernel) (e_fnB C o_len T.f_len (by decide +kernel) bt_len (a_cons (e_var C (i := 1) (by decide +kernel)) a_nil))) (blkOk_by (by decide +kernel)) (by decide) (fun Y1 C1 => ⟨(g_name C1 (i := 2) (by decide +kernel)), (ts_one (t_not (t_val (e_call C1 (k _ _ lk__law_same) (by decide +kernel) (a_cons (e_ix C1 (e_var C1 (i := 0) (by decide +kernel)) (e_var C1 (i := 2) (by decide +kernel)) (fun _ _ => rfl)) (a_cons (e_ix C1 (e_var C1 (i := 1) (by decide +kernel)) (e_var C1 (i := 2) (by decide +kernel)) (fun _ _ => rfl)) a_nil))) (fun _ => rfl)))), (e_var C1 (i := 2) (by decide +kernel))⟩) (fun _ => rfl)) a_nil)) e_int (nomark _))))) s_nil) (s_cons (s_if (t_cmp o_isN (e_var C (i := 1) (by decide +kernel)) e_non (nomark _)) (s_one (s_ret (e_cmp o_isN (e_var C (i := 0) (by decide +kernel)) e_non (nomark _)))) s_nil) (s_cons (s_if (PW.pt (w_or (t_val (e_is C .bool T.f_isinstance (by decide +kernel) T.f_bool (by decide +kernel) bt_bool (e_var C (i := 1) (by decide +kernel))) (fun _ => rfl)) (w_or1 (t_val (e_is C .bool T.f_isinstance (by decide +kernel) T.f_bool (by decide +kernel) bt_bool (e_var C (i := 0) (by decide +kernel))) (fun _ => rfl))))) (s_one (s_ret (e_and (e_is C .bool T.f_isinstance (by decide +kernel) T.f_bool (by decide +kernel) bt_bool (e_var C (i := 1) (by decide +kernel))) (e_and (e_is C .bool T.f_isinstance (by decide +kernel) T.f_bool (by decide +kernel) bt_bool (e_var C (i := 0) (by decide +kernel))) (e_one (e_cmp (o_eq C.hu) (e_var C (i := 0) (by decide +kernel)) (e_var C (i := 1) (by decide +kernel)) (nomark _))))))) s_nil) (s_cons (s_if (t_val (e_is C .int T.f_isinstance (by decide +kernel) T.f_int (by decide +kernel) bt_int (e_var C (i := 1) (by decide +kernel))) (fun _ => rfl)) (s_one (s_ret (e_and (e_is C .int T.f_isinstance (by decide +kernel) T.f_int (by decide +kernel) bt_int (e_var C (i := 0) (by decide +kernel))) (e_one (e_cmp (o_eq C.hu) (e_var C (i := 0) (by decide +kernel)) (e_var C (i := 1) (by decide +kernel)) (nomark _)))))) s_nil) (s_one (s_ret (e_and (e_is C .str T.f_isinstance (by decide +kernel) T.f_str (by decide +kernel) bt_str (e_var C (i := 0) (by decide +kernel))) (e_and (e_is C .str T.f_isinstance (by decide +kernel) T.f_str (by decide +kernel) bt_str (e_var C (i := 1) (by decide +kernel))) (e_one (e_cmp (o_eq C.hu) (e_var C (i := 0) (by decide +kernel)) (e_var C (i := 1) (by decide +kernel)) (nomark _)))))))))))
theorem sc__law_pool : FnScope ["script", "salt", "cell"] ["script"] (defScope s__law_pool) := ⟨rfl, rfl, rfl, by decide +kernel, rfl, by decide +kernel, by decide +kernel⟩
theorem dv__law_pool (T : Fx en) (k : Calls en defs n c) (C : Cxt en X W0 ["script", "salt", "cell"] (defScope s__law_pool) (fun _ => true) n) : PSs X (defBody s__law_pool) (rdS X.K W0 (b__law_pool c)) :=
  (s_cons (s_set C (i := 1) (by decide +kernel) e_int rfl) (s_cons (s_for C (i_seq (e_sl (e_var C (i := 0) (by decide +kernel)) p_none (p_some e_int))) (g_name C (i := 2) (by decide +kernel)) (s_one (s_set C (i := 1) (by decide +kernel) (e_bin o_mod (e_fnT C o_int T.f_int (by decide +kernel) bt_int (a_cons (e_bin o_add (e_bin o_mul (e_var C (i := 1) (by decide +kernel)) e_int) (e_var C (i := 2) (by decide +kernel))) a_nil)) e_int) rfl)) (fun _ => rfl)) (s_one (s_ret (e_newL (a_cons (e_fnT C o_list T.f_list (by decide +kernel) bt_list (a_cons (e_var C (i := 0) (by decide +kernel)) a_nil)) (a_cons e_int (a_cons e_int (a_cons e_int (a_cons (e_var C (i := 1) (by decide +kernel)) a_nil))))))))))
theorem sc__law_spread : FnScope ["cell", "mixed", "total", "k"] ["cell"] (defScope s__law_spread) := ⟨rfl, rfl, rfl, by decide +kernel, rfl, by decide +kernel, by decide +kernel⟩
theorem dv__law_spread (T : Fx en) (k : Calls en defs n c) (C : Cxt en X W0 ["cell", "mixed", "total", "k"] (defScope s__law_spread) (fun _ => true) n) : PSs X (defBody s__law_spread) (rdS X.K W0 (b__law_spread c)) :=
  (s_cons (s_set C (i := 1) (by decide +kernel) (e_bin o_mod (e_fnT C o_int T.f_int (by decide +kernel) bt_int (a_cons (e_var C (i := 0) (by decide +kernel)) a_nil)) e_int) rfl) (s_cons (s_set C (i := 2) (by decide +kernel) e_int rfl) (s_cons (s_for C (i_rng1 C T.f_range (by decide +kernel) e_int) (g_name C (i := 3) (by decide +kernel)) (s_cons (s_set C (i := 1) (by decide +kernel) (e_bin o_mod (e_fnT C o_int T.f_int (by decide +kernel) bt_int (a_cons (e_bin o_add (e_bin o_add (e_bin o_mul (e_var C (i := 1) (by decide +kernel)) e_int) e_int) (e_var C (i := 3) (by decide +kernel))) a_nil)) e_int) rfl) (s_one (s_set C (i := 2) (by decide +kernel) (e_bin o_add (e_bin o_mul (e_var C (i := 2) (by decide +kernel)) e_int) (e_var C (i := 1) (by decide +kernel))) rfl))) (fun _ => rfl)) (s_one (s_ret (e_var C (i := 2) (by decide +kernel)))))))
theorem sc__law_draw : FnScope ["pool", "many", "cell", "mixed", "value"] ["pool", "many"] (defScope s__law_draw) := ⟨rfl, rfl, rfl, by decide +kernel, rfl, by decide +kernel, by decide +kernel⟩
theorem dv__law_draw (T : Fx en) (k : Calls en defs n c) (C : Cxt en X W0 ["pool", "many", "cell", "mixed", "value"] (defScope s__law_draw) (fun _ => true) n) : PSs X (defBody s__law_draw) (rdS X.K W0 (b__law_draw c)) :=
  (s_cons (s_if (PW.pt (w_and (t_cmp o_le (e_ix C (e_var C (i := 0) (by decide +kernel)) e_int (fun _ _ => rfl)) e_int (nomark _)) (w_and1 (t_cmp o_lt (e_ix C (e_var C (i := 0) (by decide +kernel)) e_int (fun _ _ => rfl)) (e_fnB C o_len T.f_len (by decide +kernel) bt_len (a_cons (e_ix C (e_var C (i := 0) (by decide +kernel)) e_int (fun _ _ => rfl)) a_nil)) (nomark _))))) (s_cons (s_set C (i := 2) (by decide +kernel) (e_ix C (e_ix C (e_var C (i := 0) (by decide +kernel)) e_int (fun _ _ => rfl)) (e_ix C (e_var C (i := 0) (by decide +kernel)) e_int (fun _ _ => rfl)) (fun _ _ => rfl)) rfl) (s_cons (s_put (e_var C (i := 0) (by decide +kernel)) e_int (e_bin o_add (e_ix C (e_var C (i := 0) (by decide +kernel)) e_int (fun _ _ => rfl)) e_int) (by intro _; rfl) rfl rfl rfl) (s_cons (s_put (e_var C (i := 0) (by decide +kernel)) e_int (e_var C (i := 2) (by decide +kernel)) (by intro _; rfl) rfl rfl rfl) (s_one (s_if (t_cmp o_lt (e_var C (i := 2) (by decide +kernel)) e_int (nomark _)) (s_one (s_put (e_var C (i := 0) (by decide +kernel)) e_int (e_call C (k _ _ lk__law_spread) (by decide +kernel) (a_cons (e_var C (i := 2) (by decide +kernel)) a_nil)) (by intro _; rfl) rfl rfl rfl)) s_nil))))) s_nil) (s_cons (s_put (e_var C (i := 0) (by decide +kernel)) e_int (e_bin o_add (e_ix C (e_var C (i := 0) (by decide +kernel)) e_int (fun _ _ => rfl)) e_int) (by intro _; rfl) rfl rfl rfl) (s_cons (s_if (t_cmp o_le (e_ix C (e_var C (i := 0) (by decide +kernel)) e_int (fun _ _ => rfl)) e_int (nomark _)) (s_cons (s_set C (i := 3) (by decide +kernel) (e_bin o_mod (e_fnT C o_int T.f_int (by decide +kernel) bt_int (a_cons (e_bin o_add (e_bin o_add (e_bin o_mul (e_ix C (e_var C (i := 0) (by decide +kernel)) e_int (fun _ _ => rfl)) e_int) (e_bin o_mul (e_ix C (e_var C (i := 0) (by decide +kernel)) e_int (fun _ _ => rfl)) e_int)) e_int) a_nil)) e_int) rfl) (s_cons (s_set C (i := 3) (by decide +kernel) (e_bin o_mod (e_fnT C o_int T.f_int (by decide +kernel) bt_int (a_cons (e_bin o_add (e_bin o_mul (e_var C (i := 3) (by decide +kernel)) e_int) (e_ix C (e_var C (i := 0) (by decide +kernel)) e_int (fun _ _ => rfl))) a_nil)) e_int) rfl) (s_one (s_ret (e_bin o_mod (e_bin o_fdiv (e_var C (i := 3) (by decide +kernel)) e_int) (e_var C (i := 1) (by decide +kernel))))))) s_nil) (s_cons (s_set C (i := 4) (by decide +kernel) (e_bin o_mod (e_fnT C o_int T.f_int (by decide +kernel) bt_int (a_cons (e_ix C (e_var C (i := 0) (by decide +kernel)) e_int (fun _ _ => rfl)) a_nil)) (e_var C (i := 1) (by decide +kernel))) rfl) (s_cons (s_put (e_var C (i := 0) (by decide +kernel)) e_int (e_bin o_fdiv (e_ix C (e_var C (i := 0) (by decide +kernel)) e_int (fun _ _ => rfl)) (e_var C (i := 1) (by decide +kernel))) (by intro _; rfl) rfl rfl rfl) (s_one (s_ret (e_var C (i := 4) (by decide +kernel)))))))))
theorem sc__law_pick : FnScope ["pool", "items"] ["pool", "items"] (defScope s__law_pick) := ⟨rfl, rfl, rfl, by decide +kernel, rfl, by decide +kernel, by decide +kernel⟩
theorem dv__law_pick (T : Fx en) (k : Calls en defs n c) (C : Cxt en X W0 ["pool", "items"] (defScope s__law_pick) (fun _ => true) n) : PSs X (defBody s__law_pick) (rdS X.K W0 (b__law_pick c)) :=
  (s_one (s_ret (e_ix C (e_var C (i := 1) (by decide +kernel)) (e_call C (k _ _ lk__law_draw) (by decide +kernel) (a_cons (e_var C (i := 0) (by decide +kernel)) (a_cons (e_fnB C o_len T.f_len (by decide +kernel) bt_len (a_cons (e_var C (i := 1) (by decide +kernel)) a_nil)) a_nil))) (fun _ _ => rfl))))
theorem sc__law_bent : FnScope ["pool", "value", "at", "turn", "other", "items"] ["pool", "value"] (defScope s__law_bent) := ⟨rfl, rfl, rfl, by decide +kernel, rfl, by decide +kernel, by decide +kernel⟩
theorem dv__law_bent (T : Fx en) (k : Calls en defs n c) (C : Cxt en X W0 ["pool", "value", "at", "turn", "other", "items"] (defScope s__law_bent) (fun _ => true) n) : PSs X (defBody s__law_bent) (rdS X.K W0 (b__law_bent c)) :=
  (s_cons (s_if (PW.pt (w_and (t_val (e_is C .tuple T.f_isinstance (by decide +kernel) T.f_tuple (by decide +kernel) bt_tuple (e_var C (i := 1) (by decide +kernel))) (fun _ => rfl)) (w_and (t_cmp o_gt (e_fnB C o_len T.f_len (by decide +kernel) bt_len (a_cons (e_var C (i := 1) (by decide +kernel)) a_nil)) e_int (nomark _)) (w_and1 (t_cmp o_gt (e_call C (k _ _ lk__law_draw) (by decide +kernel) (a_cons (e_var C (i := 0) (by decide +kernel)) (a_cons e_int a_nil))) e_int (nomark _)))))) (s_cons (s_set C (i := 2) (by decide +kernel) (e_call C (k _ _ lk__law_draw) (by decide +kernel) (a_cons (e_var C (i := 0) (by decide +kernel)) (a_cons (e_fnB C o_len T.f_len (by decide +kernel) bt_len (a_cons (e_var C (i := 1) (by decide +kernel)) a_nil)) a_nil))) rfl) (s_one (s_ret (e_bin o_add (e_bin o_add (e_sl (e_var C (i := 1) (by decide +kernel)) p_none (p_some (e_var C (i := 2) (by decide +kernel)))) (e_tup (a_cons (e_call C (k _ _ lk__law_bent) (by decide +kernel) (a_cons (e_var C (i := 0) (by decide +kernel)) (a_cons (e_ix C (e_var C (i := 1) (by decide +kernel)) (e_var C (i := 2) (by decide +kernel)) (fun _ _ => rfl)) a_nil))) a_nil))) (e_sl (e_var C (i := 1) (by decide +kernel)) (p_some (e_bin o_add (e_var C (i := 2) (by decide +kernel)) e_int)) p_none))))) s_nil) (s_cons (s_set C (i := 3) (by decide +kernel) (e_call C (k _ _ lk__law_draw) (by decide +kernel) (a_cons (e_var C (i := 0) (by decide +kernel)) (a_cons e_int a_nil))) rfl) (s_cons (s_if (t_cmp (o_eq C.hu) (e_var C (i := 3) (by decide +kernel)) e_int (nomark _)) (s_one (s_ret (e_ix C (e_tup (a_cons e_str (a_cons e_bl (a_cons (e_tup a_nil) (a_cons e_int (a_cons (e_un o_neg e_int) (a_cons e_non (a_cons e_bl (a_cons (e_lst a_nil) (a_cons e_str (a_cons e_int a_nil))))))))))) (e_call C (k _ _ lk__law_draw) (by decide +kernel) (a_cons (e_var C (i := 0) (by decide +kernel)) (a_cons e_int a_nil))) (fun _ _ => rfl)))) s_nil) (s_cons (s_if (t_val (e_call C (k _ _ lk__law_is_integer) (by decide +kernel) (a_cons (e_var C (i := 1) (by decide +kernel)) a_nil)) (fun _ => rfl)) (s_one (s_ret (e_bin o_add (e_var C (i := 1) (by decide +kernel)) (e_ix C (e_tup (a_cons e_int (a_cons (e_un o_neg e_int) (a_cons e_int (a_cons e_int a_nil))))) (e_call C (k _ _ lk__law_draw) (by decide +kernel) (a_cons (e_var C (i := 0) (by decide +kernel)) (a_cons e_int a_nil))) (fun _ _ => rfl))))) s_nil) (s_cons (s_if (t_val (e_is C .str T.f_isinstance (by decide +kernel) T.f_str (by decide +kernel) bt_str (e_var C (i := 1) (by decide +kernel))) (fun _ => rfl)) (s_one (s_ret (e_ix C (e_tup (a_cons (e_bin o_add (e_var C (i := 1) (by decide +kernel)) e_str) (a_cons (e_sl (e_var C (i := 1) (by decide +kernel)) (p_some e_int) p_none) (a_cons (e_bin o_add (e_var C (i := 1) (by decide +kernel)) e_str) (a_cons (e_bin o_add (e_var C (i := 1) (by decide +kernel)) e_str) (a_cons (e_sl (e_var C (i := 1) (by decide +kernel)) p_none (p_some e_int)) a_nil)))))) (e_call C (k _ _ lk__law_draw) (by decide +kernel) (a_cons (e_var C (i := 0) (by decide +kernel)) (a_cons e_int a_nil))) (fun _ _ => rfl)))) s_nil) (s_cons (s_if (PW.pt (w_or (t_not (t_val (e_is C .tuple T.f_isinstance (by decide +kernel) T.f_tuple (by decide +kernel) bt_tuple (e_var C (i := 1) (by decide +kernel))) (fun _ => rfl))) (w_or1 (t_cmp (o_eq C.hu) (e_fnB C o_len T.f_len (by decide +kernel) bt_len (a_cons (e_var C (i := 1) (by decide +kernel)) a_nil)) e_int (nomark _))))) (s_one (s_ret (e_if (t_cmp o_lt (e_var C (i := 3) (by decide +kernel)) e_int (nomark _)) (e_tup (a_cons (e_var C (i := 1) (by decide +kernel)) (a_cons e_int a_nil))) (e_tup a_nil)))) s_nil) (s_cons (s_set C (i := 2) (by decide +kernel) (e_call C (k _ _ lk__law_draw) (by decide +kernel) (a_cons (e_var C (i := 0) (by decide +kernel)) (a_cons (e_fnB C o_len T.f_len (by decide +kernel) bt_len (a_cons (e_var C (i := 1) (by decide +kernel)) a_nil)) a_nil))) rfl) (s_cons (s_if (t_cmp o_lt (e_var C (i := 3) (by decide +kernel)) e_int (nomark _)) (s_one (s_ret (e_bin o_add (e_sl (e_var C (i := 1) (by decide +kernel)) p_none (p_some (e_var C (i := 2) (by decide +kernel)))) (e_sl (e_var C (i := 1) (by decide +kernel)) (p_some (e_bin o_add (e_var C (i := 2) (by decide +kernel)) e_int)) p_none)))) s_nil) (s_cons (s_if (t_cmp o_lt (e_var C (i := 3) (by decide +kernel)) e_int (nomark _)) (s_one (s_ret (e_bin o_add (e_bin o_add (e_sl (e_var C (i := 1) (by decide +kernel)) p_none (p_some (e_var C (i := 2) (by decide +kernel)))) (e_tup (a_cons (e_ix C (e_var C (i := 1) (by decide +kernel)) (e_var C (i := 2) (by decide +kernel)) (fun _ _ => rfl)) a_nil))) (e_sl (e_var C (i := 1) (by decide +kernel)) (p_some (e_var C (i := 2) (by decide +kernel))) p_none)))) s_nil) (s_cons (s_if (t_cmp (o_eq C.hu) (e_var C (i := 3) (by decide +kernel)) e_int (nomark _)) (s_one (s_ret (e_fnT C o_list T.f_list (by decide +kernel) bt_list (a_cons (e_var C (i := 1) (by decide +kernel)) a_nil)))) s_nil) (s_cons (s_set C (i := 4) (by decide +kernel) (e_call C (k _ _ lk__law_draw) (by decide +kernel) (a_cons (e_var C (i := 0) (by decide +kernel)) (a_cons (e_fnB C o_len T.f_len (by decide +kernel) bt_len (a_cons (e_var C (i := 1) (by decide +kernel)) a_nil)) a_nil))) rfl) (s_cons (s_set C (i := 5) (by decide +kernel) (e_fnT C o_listN T.f_list (by decide +kernel) bt_list (a_cons (e_var C (i := 1) (by decide +kernel)) a_nil)) rfl) (s_cons (s_put (e_var C (i := 5) (by decide +kernel)) (e_var C (i := 2) (by decide +kernel)) (e_ix C (e_var C (i := 1) (by decide +kernel)) (e_var C (i := 4) (by decide +kernel)) (fun _ _ => rfl)) (by intro _; rfl) rfl rfl rfl) (s_cons (s_put (e_var C (i := 5) (by decide +kernel)) (e_var C (i := 4) (by decide +kernel)) (e_ix C (e_var C (i := 1) (by decide +kernel)) (e_var C (i := 2) (by decide +kernel)) (fun _ _ => rfl)) (by intro _; rfl) rfl rfl rfl) (s_one (s_ret (e_fnT C o_tuple T.f_tuple (by decide +kernel) bt_tuple (a_cons (e_var C (i := 5) (by decide +kernel)) a_nil))))))))))))))))))
theorem sc__law_booled : FnScope ["value", "one"] ["value"] (defScope s__law_booled) := ⟨rfl, rfl, rfl, by decide +kernel, rfl, by decide +kernel, by decide +kernel⟩
theorem dv__law_booled (T : Fx en) (k : Calls en defs n c) (C : Cxt en X W0 ["value", "one"] (defScope s__law_booled) (fun _ => true) n) : PSs X (defBody s__law_booled) (rdS X.K W0 (b__law_booled c)) :=
  (s_cons (s_if (t_val (e_is C .tuple T.f_isinstance (by decide +kernel) T.f_tuple (by decide +kernel) bt_tuple (e_var C (i := 0) (by decide +kernel))) (fun _ => rfl)) (s_one (s_ret (e_fnT C o_tuple T.f_tuple (by decide +kernel) bt_tuple (a_cons (e_comp C finL_ok (own := [("one", 1)]) (i_seq (e_var C (i := 0) (by decide +kernel))) (blkOk_by (by decide +kernel)) (by decide) (fun Y1 C1 => ⟨(g_name C1 (i := 1) (by decide +kernel)), ts_nil, (e_call C1 (k _ _ lk__law_booled) (by decide +kernel) (a_cons (e_var C1 (i := 1) (by decide +kernel)) a_nil))⟩) (fun _ => rfl)) a_nil)))) s_nil) (s_one (s_ret (e_if (PW.pt (w_and (t_val (e_call C (k _ _ lk__law_is_integer) (by decide +kernel) (a_cons (e_var C (i := 0) (by decide +kernel)) a_nil)) (fun _ => rfl)) (w_and1 (t_cmp (o_in C.hu) (e_var C (i := 0) (by decide +kernel)) (e_tup (a_cons e_int (a_cons e_int a_nil))) (by rfl))))) (e_cmp (o_eq C.hu) (e_var C (i := 0) (by decide +kernel)) e_int (nomark _)) (e_var C (i := 0) (by decide +kernel))))))
theorem sc__law_listed : FnScope ["value", "deep", "one"] ["value", "deep"] (defScope s__law_listed) := ⟨rfl, rfl, rfl, by decide +kernel, rfl, by decide +kernel, by decide +kernel⟩
theorem dv__law_listed (T : Fx en) (k : Calls en defs n c) (C : Cxt en X W0 ["value", "deep", "one"] (defScope s__law_listed) (fun _ => true) n) : PSs X (defBody s__law_listed) (rdS X.K W0 (b__law_listed c)) :=
  (s_cons (s_if (t_not (t_val (e_is C .tuple T.f_isinstance (by decide +kernel) T.f_tuple (by decide +kernel) bt_tuple (e_var C (i := 0) (by decide +kernel))) (fun _ => rfl))) (s_one (s_ret (e_var C (i := 0) (by decide +kernel)))) s_nil) (s_cons (s_if (t_cmp (o_eq C.hu) (e_var C (i := 1) (by decide +kernel)) e_int (nomark _)) (s_one (s_ret (e_fnT C o_list T.f_list (by decide +kernel) bt_list (a_cons (e_var C (i := 0) (by decide +kernel)) a_nil)))) s_nil) (s_one (s_ret (e_fnT C o_tuple T.f_tuple (by decide +kernel) bt_tuple (a_cons (e_comp C finL_ok (own := [("one", 2)]) (i_seq (e_var C (i := 0) (by decide +kernel))) (blkOk_by (by decide +kernel)) (by decide) (fun Y1 C1 => ⟨(g_name C1 (i := 2) (by decide +kernel)), ts_nil, (e_call C1 (k _ _ lk__law_listed) (by decide +kernel) (a_cons (e_var C1 (i := 2) (by decide +kernel)) (a_cons (e_bin o_sub (e_var C1 (i := 1) (by decide +kernel)) e_int) a_nil)))⟩) (fun _ => rfl)) a_nil))))))
theorem sc__law_odd_values : FnScope ["deep", "k"] [] (defScope s__law_odd_values) := ⟨rfl, rfl, rfl, by decide +kernel, rfl, by decide +kernel, by decide +kernel⟩
theorem dv__law_odd_values (T : Fx en) (k : Calls en defs n c) (C : Cxt en X W0 ["deep", "k"] (defScope s__law_odd_values) (fun _ => true) n) : PSs X (defBody s__law_odd_values) (rdS X.K W0 (b__law_odd_values c)) :=
  (s_cons (s_set C (i := 0) (by decide +kernel) (e_tup a_nil) rfl) (s_cons (s_for C (i_rng1 C T.f_range (by decide +kernel) e_int) (g_name C (i := 1) (by decide +kernel)) (s_one (s_set C (i := 0) (by decide +kernel) (e_tup (a_cons (e_var C (i := 0) (by decide +kernel)) a_nil)) rfl)) (fun _ => rfl)) (s_one (s_ret (e_lst (a_cons (e_var C (i := 0) (by decide +kernel)) (a_cons (e_tup (a_cons e_str (a_cons (e_var C (i := 0) (by decide +kernel)) (a_cons (e_var C (i := 0) (by decide +kernel)) a_nil)))) (a_cons e_non (a_cons e_int (a_cons e_int (a_cons e_bl (a_cons e_bl (a_cons e_str (a_cons e_str (a_cons (e_tup a_nil) (a_cons (e_lst a_nil) (a_cons e_dict0 (a_cons (e_tup (a_cons (e_tup a_nil) a_nil)) (a_cons (e_tup (a_cons (e_tup a_nil) (a_cons (e_tup a_nil) a_nil))) (a_cons (e_tup (a_cons e_int a_nil)) (a_cons (e_tup (a_cons e_int (a_cons e_int a_nil))) (a_cons (e_tup (a_cons e_str a_nil)) (a_cons (e_tup (a_cons (e_lst a_nil) a_nil)) (a_cons e_dict1 (a_cons (e_tup (a_cons e_non a_nil)) (a_cons (e_tup (a_cons (e_tup (a_cons (e_tup a_nil) a_nil)) a_nil)) (a_cons (e_un o_neg e_int) a_nil)))))))))))))))))))))))))))
theorem sc__law_yard : FnScope ["pool", "most", "stacks", "height", "many", "numbers", "at", "k", "rows", "box", "open_rows", "row"] ["pool", "most", "stacks", "height"] (defScope s__law_yard) := ⟨rfl, rfl, rfl, by decide +kernel, rfl, by decide +kernel, by decide +kernel⟩
theorem dv__law_yard (T : Fx en) (k : Calls en defs n c) (C : Cxt en X W0 ["pool", "most", "stacks", "height", "many", "numbers", "at", "k", "rows", "box", "open_rows", "row"] (defScope s__law_yard) (fun _ => true) n) : PSs X (defBody s__law_yard) (rdS X.K W0 (b__law_yard c)) :=
  (s_cons (s_set C (i := 4) (by decide +kernel) (e_call C (k _ _ lk__law_draw) (by decide +kernel) (a_cons (e_var C (i := 0) (by decide +kernel)) (a_cons (e_bin o_add (e_var C (i := 1) (by decide +kernel)) e_int) a_nil))) rfl) (s_cons (s_set C (i := 5) (by decide +kernel) (e_newL a_nil) rfl) (s_cons (s_set C (i := 6) (by decide +kernel) e_int rfl) (s_cons (s_for C (i_rng1 C T.f_range (by decide +kernel) (e_var C (i := 4) (by decide +kernel))) (g_name C (i := 7) (by decide +kernel)) (s_cons (s_set C (i := 6) (by decide +kernel) (e_bin o_add (e_bin o_add (e_var C (i := 6) (by decide +kernel)) e_int) (e_call C (k _ _ lk__law_draw) (by decide +kernel) (a_cons (e_var C (i := 0) (by decide +kernel)) (a_cons (e_ix C (e_tup (a_cons e_int (a_cons e_int a_nil))) (e_call C (k _ _ lk__law_draw) (by decide +kernel) (a_cons (e_var C (i := 0) (by decide +kernel)) (a_cons e_int a_nil))) (fun _ _ => rfl)) a_nil)))) rfl) (s_one (s_expr (e_m PySem.F.plainAttrs_list PySem.F.slot_list_append PySem.F.type_list_append o_app ckL_ty (e_var C (i := 5) (by decide +kernel)) (a_cons (e_var C (i := 6) (by decide +kernel)) a_nil))))) (fun _ => rfl)) (s_cons (s_setComp C finL_ok (own := [("k", 7)]) (i := 8) rfl (by decide +kernel) (i_rng1 C T.f_range (by decide +kernel) (e_var C (i := 2) (by decide +kernel))) (blkOk_by (by decide +kernel)) (by decide) (fun Y1 C1 => ⟨(g_name C1 (i := 7) (by decide +kernel)), ts_nil, (e_newL a_nil)⟩) (fun _ => rfl) rfl (by decide +kernel)) (s_cons (s_while C (PW.pt (w_and (t_cmp o_gt (e_fnB C o_len T.f_len (by decide +kernel) bt_len (a_cons (e_var C (i := 5) (by decide +kernel)) a_nil)) e_int (nomark _)) (w_and1 (t_cmp o_gt (e_fnB C o_len T.f_len (by decide +kernel) bt_len (a_cons (e_comp C finL_ok (own := [("row", 11)]) (i_seq (e_var C (i := 8) (by decide +kernel))) (blkOk_by (by decide +kernel)) (by decide) (fun Y1 C1 => ⟨(g_name C1 (i := 11) (by decide +kernel)), (ts_one (t_cmp o_lt (e_fnB C1 o_len T.f_len (by decide +kernel) bt_len (a_cons (e_var C1 (i := 11) (by decide +kernel)) a_nil)) (e_var C1 (i := 3) (by decide +kernel)) (nomark _))), (e_var C1 (i := 11) (by decide +kernel))⟩) (fun _ => rfl)) a_nil)) e_int (nomark _))))) (s_cons (s_set C (i := 9) (by decide +kernel) (e_m PySem.F.plainAttrs_list PySem.F.slot_list_pop PySem.F.type_list_pop o_popAt ckL_ty (e_var C (i := 5) (by decide +kernel)) (a_cons (e_call C (k _ _ lk__law_draw) (by decide +kernel) (a_cons (e_var C (i := 0) (by decide +kernel)) (a_cons (e_fnB C o_len T.f_len (by decide +kernel) bt_len (a_cons (e_var C (i := 5) (by decide +kernel)) a_nil)) a_nil))) a_nil)) rfl) (s_cons (s_setComp C finL_ok (own := [("row", 11)]) (i := 10) rfl (by decide +kernel) (i_seq (e_var C (i := 8) (by decide +kernel))) (blkOk_by (by decide +kernel)) (by decide) (fun Y1 C1 => ⟨(g_name C1 (i := 11) (by decide +kernel)), (ts_one (t_cmp o_lt (e_fnB C1 o_len T.f_len (by decide +kernel) bt_len (a_cons (e_var C1 (i := 11) (by decide +kernel)) a_nil)) (e_var C1 (i := 3) (by decide +kernel)) (nomark _))), (e_var C1 (i := 11) (by decide +kernel))⟩) (fun _ => rfl) rfl (by decide +kernel)) (s_cons (s_set C (i := 11) (by decide +kernel) (e_call C (k _ _ lk__law_pick) (by decide +kernel) (a_cons (e_var C (i := 0) (by decide +kernel)) (a_cons (e_var C (i := 10) (by decide +kernel)) a_nil))) rfl) (s_one (s_expr (e_m PySem.F.plainAttrs_list PySem.F.slot_list_append PySem.F.type_list_append o_app ckL_ty (e_var C (i := 11) (by decide +kernel)) (a_cons (e_var C (i := 9) (by decide +kernel)) a_nil)))))))) (s_one (s_ret (e_fnT C o_tuple T.f_tuple (by decide +kernel) bt_tuple (a_cons (e_comp C finL_ok (own := [("row", 11)]) (i_seq (e_var C (i := 8) (by decide +kernel))) (blkOk_by (by decide +kernel)) (by decide) (fun Y1 C1 => ⟨(g_name C1 (i := 11) (by decide +kernel)), ts_nil, (e_fnT C1 o_tuple T.f_tuple (by decide +kernel) bt_tuple (a_cons (e_var C1 (i := 11) (by decide +kernel)) a_nil))⟩) (fun _ => rfl)) a_nil))))))))))
theorem sc__law_is_yard : FnScope ["value", "height", "seen", "stack", "box"] ["value", "height"] (defScope s__law_is_yard) := ⟨rfl, rfl, rfl, by decide +kernel, rfl, by decide +kernel, by decide +kernel⟩
theorem dv__law_is_yard (T : Fx en) (k : Calls en defs n c) (C : Cxt en X W0 ["value", "height", "seen", "stack", "box"] (defScope s__law_is_yard) (fun _ => true) n) : PSs X (defBody s__law_is_yard) (rdS X.K W0 (b__law_is_yard c)) :=
  (s_cons (s_if (PW.pt (w_or (t_not (t_val (e_is C .tuple T.f_isinstance (by decide +kernel) T.f_tuple (by decide +kernel) bt_tuple (e_var C (i := 0) (by decide +kernel))) (fun _ => rfl))) (w_or (t_cmp o_lt (e_fnB C o_len T.f_len (by decide +kernel) bt_len (a_cons (e_var C (i := 0) (by decide +kernel)) a_nil)) e_int (nomark _)) (w_or1 (t_cmp o_gt (e_fnB C o_len T.f_len (by decide +kernel) bt_len (a_cons (e_var C (i := 0) (by decide +kernel)) a_nil)) e_int (nomark _)))))) (s_one (s_ret e_bl)) s_nil) (s_cons (s_set C (i := 2) (by decide +kernel) (e_newL a_nil) rfl) (s_cons (s_for C (i_seq (e_var C (i := 0) (by decide +kernel))) (g_name C (i := 3) (by decide +kernel)) (s_cons (s_if (PW.pt (w_or (t_not (t_val (e_is C .tuple T.f_isinstance (by decide +kernel) T.f_tuple (by decide +kernel) bt_tuple (e_var C (i := 3) (by decide +kernel))) (fun _ => rfl))) (w_or1 (t_cmp o_gt (e_fnB C o_len T.f_len (by decide +kernel) bt_len (a_cons (e_var C (i := 3) (by decide +kernel)) a_nil)) (e_var C (i := 1) (by decide +kernel)) (nomark _))))) (s_one (s_ret e_bl)) s_nil) (s_one (s_for C (i_seq (e_var C (i := 3) (by decide +kernel))) (g_name C (i := 4) (by decide +kernel)) (s_cons (s_if (PW.pt (w_or (t_not (t_val (e_call C (k _ _ lk__law_is_integer) (by decide +kernel) (a_cons (e_var C (i := 4) (by decide +kernel)) a_nil)) (fun _ => rfl))) (w_or (t_cmp o_lt (e_var C (i := 4) (by decide +kernel)) e_int (nomark _)) (w_or1 (t_cmp (o_in C.hu) (e_var C (i := 4) (by decide +kernel)) (e_var C (i := 2) (by decide +kernel)) (by rfl)))))) (s_one (s_ret e_bl)) s_nil) (s_one (s_expr (e_m PySem.F.plainAttrs_list PySem.F.slot_list_append PySem.F.type_list_append o_app ckL_ty (e_var C (i := 2) (by decide +kernel)) (a_cons (e_var C (i := 4) (by decide +kernel)) a_nil))))) (fun _ => rfl)))) (fun _ => rfl)) (s_one (s_ret e_bl)))))
theorem sc_law : FnScope ["script", "pool", "height", "yard", "tall", "tried", "value", "high", "due", "k"] ["script"] (defScope s_law) := ⟨rfl, rfl, rfl, by decide +kernel, rfl, by decide +kernel, by decide +kernel⟩
theorem dv_law (T : Fx en) (k : Calls en defs n c) (C : Cxt en X W0 ["script", "pool", "height", "yard", "tall", "tried", "value", "high", "due", "k"] (defScope s_law) (fun _ => true) n) : PSs X (defBody s_law) (rdS X.K W0 (b_law c)) :=
  (s_cons (s_set C (i := 1) (by decide +kernel) (e_call C (k _ _ lk__law_pool) (by decide +kernel) (a_cons (e_var C (i := 0) (by decide +kernel)) a_nil)) rfl) (s_cons (s_set C (i := 2) (by decide +kernel) (e_bin o_add e_int (e_call C (k _ _ lk__law_draw) (by decide +kernel) (a_cons (e_var C (i := 1) (by decide +kernel)) (a_cons e_int a_nil)))) rfl) (s_cons (s_set C (i := 3) (by decide +kernel) (e_call C (k _ _ lk__law_yard) (by decide +kernel) (a_cons (e_var C (i := 1) (by decide +kernel)) (a_cons e_int (a_cons (e_bin o_add e_int (e_call C (k _ _ lk__law_draw) (by decide +kernel) (a_cons (e_var C (i := 1) (by decide +kernel)) (a_cons e_int a_nil)))) (a_cons (e_var C (i := 2) (by decide +kernel)) a_nil))))) rfl) (s_cons (s_set C (i := 4) (by decide +kernel) (e_tup (a_cons (e_rng2T C T.f_range (by decide +kernel) T.f_tuple (by decide +kernel) e_int (e_bin o_add (e_var C (i := 2) (by decide +kernel)) e_int)) a_nil)) rfl) (s_cons (s_set C (i := 5) (by decide +kernel) (e_lst (a_cons (e_var C (i := 3) (by decide +kernel)) (a_cons (e_fnT C o_list T.f_list (by decide +kernel) bt_list (a_cons (e_var C (i := 3) (by decide +kernel)) a_nil)) (a_cons (e_call C (k _ _ lk__law_listed) (by decide +kernel) (a_cons (e_var C (i := 3) (by decide +kernel)) (a_cons e_int a_nil))) (a_cons (e_call C (k _ _ lk__law_booled) (by decide +kernel) (a_cons (e_var C (i := 3) (by decide +kernel)) a_nil)) (a_cons (e_var C (i := 4) (by decide +kernel)) (a_cons (e_tup (a_cons (e_bin o_add (e_ix C (e_var C (i := 4) (by decide +kernel)) e_int (fun _ _ => rfl)) (e_tup (a_cons (e_bin o_add (e_var C (i := 2) (by decide +kernel)) e_int) a_nil))) a_nil)) (a_cons (e_tup a_nil) (a_cons (e_bin o_mul (e_tup (a_cons (e_tup a_nil) a_nil)) e_int) (a_cons (e_bin o_mul (e_tup (a_cons (e_tup a_nil) a_nil)) e_int) (a_cons (e_tup (a_cons (e_tup (a_cons e_int a_nil)) (a_cons (e_tup (a_cons e_int a_nil)) a_nil))) (a_cons (e_tup (a_cons (e_tup (a_cons e_int (a_cons e_int a_nil))) a_nil)) (a_cons (e_tup (a_cons (e_tup (a_cons e_int a_nil)) a_nil)) (a_cons (e_tup (a_cons (e_tup (a_cons (e_un o_neg e_int) a_nil)) a_nil)) a_nil)))))))))))))) rfl) (s_cons (s_set C (i := 5) (by decide +kernel) (e_bin o_add (e_var C (i := 5) (by decide +kernel)) (e_lst (a_cons (e_tup (a_cons (e_tup (a_cons e_int (a_cons e_int a_nil))) (a_cons (e_lst (a_cons e_int a_nil)) a_nil))) (a_cons (e_tup (a_cons (e_tup (a_cons e_bl a_nil)) a_nil)) (a_cons (e_bin o_add (e_var C (i := 3) (by decide +kernel)) (e_tup (a_cons (e_tup a_nil) a_nil))) (a_cons (e_tup (a_cons (e_tup (a_cons (e_bin o_pow e_int e_int) a_nil)) a_nil)) (a_cons (e_tup (a_cons e_str a_nil)) (a_cons (e_tup (a_cons e_int (a_cons e_int a_nil))) a_nil)))))))) rfl) (s_cons (s_for C (i_seq (e_bin o_add (e_bin o_add (e_var C (i := 5) (by decide +kernel)) (e_call0 C (k _ _ lk__law_odd_values) (by decide +kernel))) (e_comp C finL_ok (own := [("k", 9)]) (i_rng1 C T.f_range (by decide +kernel) e_int) (blkOk_by (by decide +kernel)) (by decide) (fun Y1 C1 => ⟨(g_name C1 (i := 9) (by decide +kernel)), ts_nil, (e_call C1 (k _ _ lk__law_bent) (by decide +kernel) (a_cons (e_var C1 (i := 1) (by decide +kernel)) (a_cons (e_var C1 (i := 3) (by decide +kernel)) a_nil)))⟩) (fun _ => rfl)))) (g_name C (i := 6) (by decide +kernel)) (s_one (s_for C (i_seq (e_tup (a_cons (e_var C (i := 2) (by decide +kernel)) (a_cons e_int (a_cons e_int a_nil))))) (g_name C (i := 7) (by decide +kernel)) (s_cons (s_set C (i := 8) (by decide +kernel) (e_call C (k _ _ lk__law_is_yard) (by decide +kernel) (a_cons (e_var C (i := 6) (by decide +kernel)) (a_cons (e_var C (i := 7) (by decide +kernel)) a_nil))) rfl) (s_one (s_if (t_not (t_val (e_call C (k _ _ lk__law_same) (by decide +kernel) (a_cons (e_call C (k _ _ lk__law_kept_is_yard) (by decide +kernel) (a_cons (e_var C (i := 6) (by decide +kernel)) (a_cons (e_var C (i := 7) (by decide +kernel)) a_nil))) (a_cons (e_var C (i := 8) (by decide +kernel)) a_nil))) (fun _ => rfl))) (s_one (s_ret e_bl)) s_nil))) (fun _ => rfl))) (fun _ => rfl)) (s_one (s_ret e_bl)))))))))
end
def e_is_integer : He.DefD := ⟨("is_integer", none), "is_integer", "is_integer", defArgs s_is_integer, defBody s_is_integer, defScope s_is_integer, [], []⟩
def e_is_stack : He.DefD := ⟨("is_stack", none), "is_stack", "is_stack", defArgs s_is_stack, defBody s_is_stack, defScope s_is_stack, [], []⟩
def e_is_yard : He.DefD := ⟨("is_yard", none), "is_yard", "is_yard", defArgs s_is_yard, defBody s_is_yard, defScope s_is_yard, [], []⟩
def e_boxes_in : He.DefD := ⟨("boxes_in", none), "boxes_in", "boxes_in", defArgs s_boxes_in, defBody s_boxes_in, defScope s_boxes_in, [], []⟩
def e__law_copied : He.DefD := ⟨("_law_copied", none), "_law_copied", "_law_copied", defArgs s__law_copied, defBody s__law_copied, defScope s__law_copied, [], []⟩
def e__law_kept_is_yard : He.DefD := ⟨("_law_kept_is_yard", none), "_law_kept_is_yard", "_law_kept_is_yard", defArgs s__law_kept_is_yard, defBody s__law_kept_is_yard, defScope s__law_kept_is_yard, [], []⟩
def e__law_is_integer : He.DefD := ⟨("_law_is_integer", none), "_law_is_integer", "_law_is_integer", defArgs s__law_is_integer, defBody s__law_is_integer, defScope s__law_is_integer, [], []⟩
def e__law_same : He.DefD := ⟨("_law_same", none), "_law_same", "_law_same", defArgs s__law_same, defBody s__law_same, defScope s__law_same, [], []⟩
def e__law_pool : He.DefD := ⟨("_law_pool", none), "_law_pool", "_law_pool", defArgs s__law_pool, defBody s__law_pool, defScope s__law_pool, [], []⟩
def e__law_spread : He.DefD := ⟨("_law_spread", none), "_law_spread", "_law_spread", defArgs s__law_spread, defBody s__law_spread, defScope s__law_spread, [], []⟩
def e__law_draw : He.DefD := ⟨("_law_draw", none), "_law_draw", "_law_draw", defArgs s__law_draw, defBody s__law_draw, defScope s__law_draw, [], []⟩
def e__law_pick : He.DefD := ⟨("_law_pick", none), "_law_pick", "_law_pick", defArgs s__law_pick, defBody s__law_pick, defScope s__law_pick, [], []⟩
def e__law_bent : He.DefD := ⟨("_law_bent", none), "_law_bent", "_law_bent", defArgs s__law_bent, defBody s__law_bent, defScope s__law_bent, [], []⟩
def e__law_booled : He.DefD := ⟨("_law_booled", none), "_law_booled", "_law_booled", defArgs s__law_booled, defBody s__law_booled, defScope s__law_booled, [], []⟩
def e__law_listed : He.DefD := ⟨("_law_listed", none), "_law_listed", "_law_listed", defArgs s__law_listed, defBody s__law_listed, defScope s__law_listed, [], []⟩
def e__law_odd_values : He.DefD := ⟨("_law_odd_values", none), "_law_odd_values", "_law_odd_values", defArgs s__law_odd_values, defBody s__law_odd_values, defScope s__law_odd_values, [], []⟩
def e__law_yard : He.DefD := ⟨("_law_yard", none), "_law_yard", "_law_yard", defArgs s__law_yard, defBody s__law_yard, defScope s__law_yard, [], []⟩
def e__law_is_yard : He.DefD := ⟨("_law_is_yard", none), "_law_is_yard", "_law_is_yard", defArgs s__law_is_yard, defBody s__law_is_yard, defScope s__law_is_yard, [], []⟩
def e_law : He.DefD := ⟨("law", none), "law", "law", defArgs s_law, defBody s_law, defScope s_law, [], []⟩
def fns : List He.DefD := [e_is_integer, e_is_stack, e_is_yard, e_boxes_in, e__law_copied, e__law_kept_is_yard, e__law_is_integer, e__law_same, e__law_pool, e__law_spread, e__law_draw, e__law_pick, e__law_bent, e__law_booled, e__law_listed, e__law_odd_values, e__law_yard, e__law_is_yard, e_law]
def fcs : List He.Fa := [.glo "is_integer", .glo "is_stack", .glo "is_yard", .glo "boxes_in", .glo "_law_copied", .glo "_law_kept_is_yard", .glo "_law_is_integer", .glo "_law_same", .glo "_law_pool", .glo "_law_spread", .glo "_law_draw", .glo "_law_pick", .glo "_law_bent", .glo "_law_booled", .glo "_law_listed", .glo "_law_odd_values", .glo "_law_yard", .glo "_law_is_yard", .glo "law", .free "all", .free "bool", .free "dict", .free "int", .free "isinstance", .free "len", .free "list", .free "range", .free "set", .free "str", .free "tuple", .int "MOST_STACKS" 6]
def loose0 : List Str := ["is_integer", "is_stack", "is_yard", "boxes_in", "_law_copied", "_law_kept_is_yard", "_law_is_integer", "_law_same", "_law_pool", "_law_spread", "_law_draw", "_law_pick", "_law_bent", "_law_booled", "_law_listed", "_law_odd_values", "_law_yard", "_law_is_yard", "MOST_STACKS"]
def looseN : List Str := loose0
abbrev R0 : PySem.W.OpenRow := PySem.W.OpenLaw.row PySem.Challenge.rw_tidewarden_k23_yards_told
abbrev hk0 : PySem.W.Hook := He.hookD 4 fcs fns
def ob0 (s : PySem.W.SharedT) : He.AlD := He.obsDG 4 fcs fns (HandSHeadRun.getT s)
theorem ob0_eq (s : PySem.W.SharedT) : ob0 s = hk0.obs s.abs := He.obsDG_eq (HandSHeadRun.getT_eq s)
theorem run0 (w : World) : HandSHeadRun.RunEq R0 (PySem.W.view R0.prog [22]) hk0 ob0 6000 looseN w := by
  intro os
  kernel_rfl
theorem facts0 {P : Program} {w : World} {K : PySem.W.Frag} {h base : Heap} {mg : Str → Option Value} (X : K.In h) (G : h.Ns mainGlobals mg) (c : He.SaysD fcs fns K) : Fx ⟨P, w, K, mg, base⟩ :=
  ⟨He.free_ok X G (c.fact 19 (f := .free "all") rfl),
   He.free_ok X G (c.fact 20 (f := .free "bool") rfl),
   He.free_ok X G (c.fact 21 (f := .free "dict") rfl),
   He.free_ok X G (c.fact 22 (f := .free "int") rfl),
   He.free_ok X G (c.fact 23 (f := .free "isinstance") rfl),
   He.free_ok X G (c.fact 24 (f := .free "len") rfl),
   He.free_ok X G (c.fact 25 (f := .free "list") rfl),
   He.free_ok X G (c.fact 26 (f := .free "range") rfl),
   He.free_ok X G (c.fact 27 (f := .free "set") rfl),
   He.free_ok X G (c.fact 28 (f := .free "str") rfl),
   He.free_ok X G (c.fact 29 (f := .free "tuple") rfl),
   gc_int (He.int_ok X G (c.fact 30 (f := .int "MOST_STACKS" 6) rfl))⟩
section
variable {P : Program} {w : World} {K : PySem.W.Frag} {h base : Heap} {mg : Str → Option Value}
theorem ok_is_integer (X : K.In h) (G : h.Ns mainGlobals mg) (c : He.SaysD fcs fns K) : DOk P w K mg base defs D_is_integer := by
  obtain ⟨fd, F⟩ := c.def_ 0 (d := e_is_integer) rfl
  exact ⟨⟨_, fd, _, _, _, _, ["value"], ["value"], F, He.glo_ok X G (c.fact 0 (f := .glo "is_integer") rfl), FunD.bindsN (ps := ["value"]) F (fun _ _ _ _ _ _ us hl => match us, hl with | [_], _ => rfl), sc_is_integer, rfl, rfl, fun n c k X C => dv_is_integer (facts0 ‹_› ‹_› ‹_›) k C⟩⟩
theorem ok_is_stack (X : K.In h) (G : h.Ns mainGlobals mg) (c : He.SaysD fcs fns K) : DOk P w K mg base defs D_is_stack := by
  obtain ⟨fd, F⟩ := c.def_ 1 (d := e_is_stack) rfl
  exact ⟨⟨_, fd, _, _, _, _, ["value", "height", "box"], ["value", "height"], F, He.glo_ok X G (c.fact 1 (f := .glo "is_stack") rfl), FunD.bindsN (ps := ["value", "height"]) F (fun _ _ _ _ _ _ us hl => match us, hl with | [_, _], _ => rfl), sc_is_stack, rfl, rfl, fun n c k X C => dv_is_stack (facts0 ‹_› ‹_› ‹_›) k C⟩⟩
theorem ok_is_yard (X : K.In h) (G : h.Ns mainGlobals mg) (c : He.SaysD fcs fns K) : DOk P w K mg base defs D_is_yard := by
  obtain ⟨fd, F⟩ := c.def_ 2 (d := e_is_yard) rfl
  exact ⟨⟨_, fd, _, _, _, _, ["value", "height", "boxes", "stack"], ["value", "height"], F, He.glo_ok X G (c.fact 2 (f := .glo "is_yard") rfl), FunD.bindsN (ps := ["value", "height"]) F (fun _ _ _ _ _ _ us hl => match us, hl with | [_, _], _ => rfl), sc_is_yard, rfl, rfl, fun n c k X C => dv_is_yard (facts0 ‹_› ‹_› ‹_›) k C⟩⟩
theorem ok_boxes_in (X : K.In h) (G : h.Ns mainGlobals mg) (c : He.SaysD fcs fns K) : DOk P w K mg base defs D_boxes_in := by
  obtain ⟨fd, F⟩ := c.def_ 3 (d := e_boxes_in) rfl
  exact ⟨⟨_, fd, _, _, _, _, ["yard", "stack", "box"], ["yard"], F, He.glo_ok X G (c.fact 3 (f := .glo "boxes_in") rfl), FunD.bindsN (ps := ["yard"]) F (fun _ _ _ _ _ _ us hl => match us, hl with | [_], _ => rfl), sc_boxes_in, rfl, rfl, fun n c k X C => dv_boxes_in (facts0 ‹_› ‹_› ‹_›) k C⟩⟩
theorem ok__law_copied (X : K.In h) (G : h.Ns mainGlobals mg) (c : He.SaysD fcs fns K) : DOk P w K mg base defs D__law_copied := by
  obtain ⟨fd, F⟩ := c.def_ 4 (d := e__law_copied) rfl
  exact ⟨⟨_, fd, _, _, _, _, ["value", "one", "key"], ["value"], F, He.glo_ok X G (c.fact 4 (f := .glo "_law_copied") rfl), FunD.bindsN (ps := ["value"]) F (fun _ _ _ _ _ _ us hl => match us, hl with | [_], _ => rfl), sc__law_copied, rfl, rfl, fun n c k X C => dv__law_copied (facts0 ‹_› ‹_› ‹_›) k C⟩⟩
theorem ok__law_kept_is_yard (X : K.In h) (G : h.Ns mainGlobals mg) (c : He.SaysD fcs fns K) : DOk P w K mg base defs D__law_kept_is_yard := by
  obtain ⟨fd, F⟩ := c.def_ 5 (d := e__law_kept_is_yard) rfl
  exact ⟨⟨_, fd, _, _, _, _, ["value0", "value1", "before", "found"], ["value0", "value1"], F, He.glo_ok X G (c.fact 5 (f := .glo "_law_kept_is_yard") rfl), FunD.bindsN (ps := ["value0", "value1"]) F (fun _ _ _ _ _ _ us hl => match us, hl with | [_, _], _ => rfl), sc__law_kept_is_yard, rfl, rfl, fun n c k X C => dv__law_kept_is_yard (facts0 ‹_› ‹_› ‹_›) k C⟩⟩
theorem ok__law_is_integer (X : K.In h) (G : h.Ns mainGlobals mg) (c : He.SaysD fcs fns K) : DOk P w K mg base defs D__law_is_integer := by
  obtain ⟨fd, F⟩ := c.def_ 6 (d := e__law_is_integer) rfl
  exact ⟨⟨_, fd, _, _, _, _, ["actual"], ["actual"], F, He.glo_ok X G (c.fact 6 (f := .glo "_law_is_integer") rfl), FunD.bindsN (ps := ["actual"]) F (fun _ _ _ _ _ _ us hl => match us, hl with | [_], _ => rfl), sc__law_is_integer, rfl, rfl, fun n c k X C => dv__law_is_integer (facts0 ‹_› ‹_› ‹_›) k C⟩⟩
theorem ok__law_same (X : K.In h) (G : h.Ns mainGlobals mg) (c : He.SaysD fcs fns K) : DOk P w K mg base defs D__law_same := by
  obtain ⟨fd, F⟩ := c.def_ 7 (d := e__law_same) rfl
  exact ⟨⟨_, fd, _, _, _, _, ["actual", "due", "k"], ["actual", "due"], F, He.glo_ok X G (c.fact 7 (f := .glo "_law_same") rfl), FunD.bindsN (ps := ["actual", "due"]) F (fun _ _ _ _ _ _ us hl => match us, hl with | [_, _], _ => rfl), sc__law_same, rfl, rfl, fun n c k X C => dv__law_same (facts0 ‹_› ‹_› ‹_›) k C⟩⟩
theorem ok__law_pool (X : K.In h) (G : h.Ns mainGlobals mg) (c : He.SaysD fcs fns K) : DOk P w K mg base defs D__law_pool := by
  obtain ⟨fd, F⟩ := c.def_ 8 (d := e__law_pool) rfl
  exact ⟨⟨_, fd, _, _, _, _, ["script", "salt", "cell"], ["script"], F, He.glo_ok X G (c.fact 8 (f := .glo "_law_pool") rfl), FunD.bindsN (ps := ["script"]) F (fun _ _ _ _ _ _ us hl => match us, hl with | [_], _ => rfl), sc__law_pool, rfl, rfl, fun n c k X C => dv__law_pool (facts0 ‹_› ‹_› ‹_›) k C⟩⟩
theorem ok__law_spread (X : K.In h) (G : h.Ns mainGlobals mg) (c : He.SaysD fcs fns K) : DOk P w K mg base defs D__law_spread := by
  obtain ⟨fd, F⟩ := c.def_ 9 (d := e__law_spread) rfl
  exact ⟨⟨_, fd, _, _, _, _, ["cell", "mixed", "total", "k"], ["cell"], F, He.glo_ok X G (c.fact 9 (f := .glo "_law_spread") rfl), FunD.bindsN (ps := ["cell"]) F (fun _ _ _ _ _ _ us hl => match us, hl with | [_], _ => rfl), sc__law_spread, rfl, rfl, fun n c k X C => dv__law_spread (facts0 ‹_› ‹_› ‹_›) k C⟩⟩
theorem ok__law_draw (X : K.In h) (G : h.Ns mainGlobals mg) (c : He.SaysD fcs fns K) : DOk P w K mg base defs D__law_draw := by
  obtain ⟨fd, F⟩ := c.def_ 10 (d := e__law_draw) rfl
  exact ⟨⟨_, fd, _, _, _, _, ["pool", "many", "cell", "mixed", "value"], ["pool", "many"], F, He.glo_ok X G (c.fact 10 (f := .glo "_law_draw") rfl), FunD.bindsN (ps := ["pool", "many"]) F (fun _ _ _ _ _ _ us hl => match us, hl with | [_, _], _ => rfl), sc__law_draw, rfl, rfl, fun n c k X C => dv__law_draw (facts0 ‹_› ‹_› ‹_›) k C⟩⟩
theorem ok__law_pick (X : K.In h) (G : h.Ns mainGlobals mg) (c : He.SaysD fcs fns K) : DOk P w K mg base defs D__law_pick := by
  obtain ⟨fd, F⟩ := c.def_ 11 (d := e__law_pick) rfl
  exact ⟨⟨_, fd, _, _, _, _, ["pool", "items"], ["pool", "items"], F, He.glo_ok X G (c.fact 11 (f := .glo "_law_pick") rfl), FunD.bindsN (ps := ["pool", "items"]) F (fun _ _ _ _ _ _ us hl => match us, hl with | [_, _], _ => rfl), sc__law_pick, rfl, rfl, fun n c k X C => dv__law_pick (facts0 ‹_› ‹_› ‹_›) k C⟩⟩
theorem ok__law_bent (X : K.In h) (G : h.Ns mainGlobals mg) (c : He.SaysD fcs fns K) : DOk P w K mg base defs D__law_bent := by
  obtain ⟨fd, F⟩ := c.def_ 12 (d := e__law_bent) rfl
  exact ⟨⟨_, fd, _, _, _, _, ["pool", "value", "at", "turn", "other", "items"], ["pool", "value"], F, He.glo_ok X G (c.fact 12 (f := .glo "_law_bent") rfl), FunD.bindsN (ps := ["pool", "value"]) F (fun _ _ _ _ _ _ us hl => match us, hl with | [_, _], _ => rfl), sc__law_bent, rfl, rfl, fun n c k X C => dv__law_bent (facts0 ‹_› ‹_› ‹_›) k C⟩⟩
theorem ok__law_booled (X : K.In h) (G : h.Ns mainGlobals mg) (c : He.SaysD fcs fns K) : DOk P w K mg base defs D__law_booled := by
  obtain ⟨fd, F⟩ := c.def_ 13 (d := e__law_booled) rfl
  exact ⟨⟨_, fd, _, _, _, _, ["value", "one"], ["value"], F, He.glo_ok X G (c.fact 13 (f := .glo "_law_booled") rfl), FunD.bindsN (ps := ["value"]) F (fun _ _ _ _ _ _ us hl => match us, hl with | [_], _ => rfl), sc__law_booled, rfl, rfl, fun n c k X C => dv__law_booled (facts0 ‹_› ‹_› ‹_›) k C⟩⟩
theorem ok__law_listed (X : K.In h) (G : h.Ns mainGlobals mg) (c : He.SaysD fcs fns K) : DOk P w K mg base defs D__law_listed := by
  obtain ⟨fd, F⟩ := c.def_ 14 (d := e__law_listed) rfl
  exact ⟨⟨_, fd, _, _, _, _, ["value", "deep", "one"], ["value", "deep"], F, He.glo_ok X G (c.fact 14 (f := .glo "_law_listed") rfl), FunD.bindsN (ps := ["value", "deep"]) F (fun _ _ _ _ _ _ us hl => match us, hl with | [_, _], _ => rfl), sc__law_listed, rfl, rfl, fun n c k X C => dv__law_listed (facts0 ‹_› ‹_› ‹_›) k C⟩⟩
theorem ok__law_odd_values (X : K.In h) (G : h.Ns mainGlobals mg) (c : He.SaysD fcs fns K) : DOk P w K mg base defs D__law_odd_values := by
  obtain ⟨fd, F⟩ := c.def_ 15 (d := e__law_odd_values) rfl
  exact ⟨⟨_, fd, _, _, _, _, ["deep", "k"], [], F, He.glo_ok X G (c.fact 15 (f := .glo "_law_odd_values") rfl), FunD.bindsN (ps := []) F (fun _ _ _ _ _ _ us hl => match us, hl with | [], _ => rfl), sc__law_odd_values, rfl, rfl, fun n c k X C => dv__law_odd_values (facts0 ‹_› ‹_› ‹_›) k C⟩⟩
theorem ok__law_yard (X : K.In h) (G : h.Ns mainGlobals mg) (c : He.SaysD fcs fns K) : DOk P w K mg base defs D__law_yard := by
  obtain ⟨fd, F⟩ := c.def_ 16 (d := e__law_yard) rfl
  exact ⟨⟨_, fd, _, _, _, _, ["pool", "most", "stacks", "height", "many", "numbers", "at", "k", "rows", "box", "open_rows", "row"], ["pool", "most", "stacks", "height"], F, He.glo_ok X G (c.fact 16 (f := .glo "_law_yard") rfl), FunD.bindsN (ps := ["pool", "most", "stacks", "height"]) F (fun _ _ _ _ _ _ us hl => match us, hl with | [_, _, _, _], _ => rfl), sc__law_yard, rfl, rfl, fun n c k X C => dv__law_yard (facts0 ‹_› ‹_› ‹_›) k C⟩⟩
theorem ok__law_is_yard (X : K.In h) (G : h.Ns mainGlobals mg) (c : He.SaysD fcs fns K) : DOk P w K mg base defs D__law_is_yard := by
  obtain ⟨fd, F⟩ := c.def_ 17 (d := e__law_is_yard) rfl
  exact ⟨⟨_, fd, _, _, _, _, ["value", "height", "seen", "stack", "box"], ["value", "height"], F, He.glo_ok X G (c.fact 17 (f := .glo "_law_is_yard") rfl), FunD.bindsN (ps := ["value", "height"]) F (fun _ _ _ _ _ _ us hl => match us, hl with | [_, _], _ => rfl), sc__law_is_yard, rfl, rfl, fun n c k X C => dv__law_is_yard (facts0 ‹_› ‹_› ‹_›) k C⟩⟩
theorem ok_law (X : K.In h) (G : h.Ns mainGlobals mg) (c : He.SaysD fcs fns K) : DOk P w K mg base defs D_law := by
  obtain ⟨fd, F⟩ := c.def_ 18 (d := e_law) rfl
  exact ⟨⟨_, fd, _, _, _, _, ["script", "pool", "height", "yard", "tall", "tried", "value", "high", "due", "k"], ["script"], F, He.glo_ok X G (c.fact 18 (f := .glo "law") rfl), FunD.bindsN (ps := ["script"]) F (fun _ _ _ _ _ _ us hl => match us, hl with | [_], _ => rfl), sc_law, rfl, rfl, fun n c k X C => dv_law (facts0 ‹_› ‹_› ‹_›) k C⟩⟩
theorem oks (X : K.In h) (G : h.Ns mainGlobals mg) (c : He.SaysD fcs fns K) : ∀ d ∈ defs, DOk P w K mg base defs d := by
  intro d hd
  simp only [defs, List.mem_cons, List.mem_nil_iff, or_false] at hd
  rcases hd with rfl | rfl | rfl | rfl | rfl | rfl | rfl | rfl | rfl | rfl | rfl | rfl | rfl | rfl | rfl | rfl | rfl | rfl | rfl
  · exact ok_is_integer X G c
  · exact ok_is_stack X G c
  · exact ok_is_yard X G c
  · exact ok_boxes_in X G c
  · exact ok__law_copied X G c
  · exact ok__law_kept_is_yard X G c
  · exact ok__law_is_integer X G c
  · exact ok__law_same X G c
  · exact ok__law_pool X G c
  · exact ok__law_spread X G c
  · exact ok__law_draw X G c
  · exact ok__law_pick X G c
  · exact ok__law_bent X G c
  · exact ok__law_booled X G c
  · exact ok__law_listed X G c
  · exact ok__law_odd_values X G c
  · exact ok__law_yard X G c
  · exact ok__law_is_yard X G c
  · exact ok_law X G c
end
def fuel : Nat := 130
theorem lawFn {P : Program} {w : World} {K : PySem.W.Frag} {h : Heap} {mg : Str → Option Value} {f : Addr} (X : K.In h) (G : h.Ns mainGlobals mg) (hfa : mg ("law" : Str) = some (.ref f)) (c : He.SaysD fcs fns K) :
    ∃ fd : FuncData, (∀ (s : Shared) (v : Value), BindsTo s fd ⟨[v], []⟩ [("script", v)]) ∧ ∀ base : Heap, K.In base → base.Ns mainGlobals mg → FnOk P w K mg base CX0 fuel f fd ["script"] (spC K 1 (callN defs fuel "law")) := by
  obtain ⟨fd, F⟩ := c.def_ 18 (d := e_law) rfl
  have e := hfa.symm.trans (He.glo_ok X G (c.fact 18 (f := .glo "law") rfl))
  cases e
  refine ⟨fd, fun s v => FunD.bindsA (ps := ["script"]) F (fun _ _ _ _ _ _ us hl => match us, hl with | [_], _ => rfl) s [v] rfl, fun base hb Gb => ?_⟩
  exact law_fn (m := 129) (d := D_law) (oks (base := base) hb Gb c) F sc_law lk_law rfl rfl fun n c0 k X C => dv_law (facts0 hb Gb c) k C
end TL
namespace TL
open PySem TW
/-! ### drawing from the script -/
def PoolOb (o : Ob) : Prop := ∃ (cells : List Int) (p c n s : Int), 0 ≤ p ∧ o = .lst [.lst (cells.map .int), .int p, .int c, .int n, .int s]
theorem mulOk_lit {i j : Int} (h : -(2 ^ 64) < j ∧ j < 2 ^ 64) : mulOk i j = true := by
  unfold mulOk
  simp only [Bool.or_eq_true, Bool.and_eq_true, decide_eq_true_eq]
  exact .inr h
theorem spread_eq (n : Nat) (cell : Int) (S : Sto) : ∃ t : Int, callN defs (n + 1) "_law_spread" [.int cell] S = .ok (.int t) S := by
  have h : (callN defs (n + 1) "_law_spread" [.int cell] S).sat fun v S' => ∃ t : Int, v = .int t ∧ S' = S := by
    rw [cn__law_spread, sat_fin]
    simp [b__law_spread, rowI]
    refine forL_sat (fun xs ρ S' => S' = S ∧ ∃ (m t : Int) (k : Option Val), ρ = [some (.int cell), some (.int m), some (.int t), k] ∧ ∀ x ∈ xs, ∃ i : Int, x = .int i) ?_ ?_ _ _ _ ?_
    · rintro ρ S' ⟨rfl, m, t, k, rfl, -⟩
      simp
    · rintro x xs ρ S' ⟨rfl, m, t, k, rfl, hx⟩
      obtain ⟨i, rfl⟩ := hx _ (.head _)
      refine ⟨_, rfl, ?_⟩
      simp [mulOk_lit]
      exact fun x hx' => hx x (.tail _ hx')
    · refine ⟨rfl, _, _, _, rfl, ?_⟩
      intro x hx
      simp at hx
      obtain ⟨a, _, rfl⟩ := hx
      exact ⟨_, rfl⟩
  obtain ⟨v, S', e, t, rfl, rfl⟩ := h.eq
  exact ⟨t, e⟩
theorem pool_sat (n : Nat) (ns : List Int) {P : Val → Sto → Prop} (h : ∀ o, PoolOb o → P (.ref 0) [o]) : (callN defs (n + 1) "_law_pool" [.scr ns] []).sat P := by
  rw [cn__law_pool, sat_fin]
  simp [b__law_pool]
  refine forL_sat (fun xs ρ S => S = [] ∧ ∃ (s : Int) (k : Option Val), ρ = [some (.scr ns), some (.int s), k] ∧ ∀ x ∈ xs, ∃ i : Int, x = .int i) ?_ ?_ _ _ _ ?_
  · rintro ρ S ⟨rfl, s, k, rfl, -⟩
    simp [sizeLine]
    exact h _ ⟨ns, 0, 0, 0, s, by omega, rfl⟩
  · rintro x xs ρ S ⟨rfl, s, k, rfl, hx⟩
    obtain ⟨i, rfl⟩ := hx _ (.head _)
    refine ⟨_, rfl, ?_⟩
    simp [mulOk_lit]
    exact fun x hx' => hx x (.tail _ hx')
  · refine ⟨rfl, _, _, rfl, ?_⟩
    intro x hx
    have := List.mem_of_mem_drop (List.mem_of_mem_take hx)
    simp at this
    obtain ⟨a, _, rfl⟩ := this
    exact ⟨_, rfl⟩
theorem draw_sat (n : Nat) (m : Int) (o : Ob) (T : Sto) (ho : PoolOb o) (h0 : 0 < m) (h1 : m < 1073741824) {P : Val → Sto → Prop} (h : ∀ (d : Nat) (o' : Ob), PoolOb o' → (d : Int) < m → P (.int d) (o' :: T)) :
    (callN defs (n + 2) "_law_draw" [.ref 0, .int m] (o :: T)).sat P := by
  obtain ⟨cells, p, c, k, s, hp, rfl⟩ := ho
  have hm1 : ¬ m = 0 := by omega
  have hm2 : m.natAbs < 1073741824 := by omega
  have fin : ∀ (i q c' k' s' : Int), 0 ≤ q → P (.int (i.fmod m)) (.lst [.lst (cells.map .int), .int q, .int c', .int k', .int s'] :: T) := fun i q c' k' s' hq =>
    by
      have a := Int.fmod_nonneg_of_pos i h0
      have b := Int.fmod_lt_of_pos i h0
      have := h (i.fmod m).toNat _ ⟨cells, q, c', k', s', hq, rfl⟩ (by omega)
      rwa [Int.toNat_of_nonneg a] at this
  rw [cn__law_draw, sat_fin]
  simp [b__law_draw, hm1, hm2, mulOk_lit, ixN_nat]
  split
  · split
    · rename_i hc hl
      have e : L2.atI (cells.map Val.int) p = some (.int (cells.getD p.toNat 0)) := by
        rw [atI_pos hp, List.getElem?_map, List.getD_eq_getElem?_getD]
        rw [List.getElem?_eq_getElem (by omega)]
        rfl
      generalize cells.getD p.toNat 0 = x at e
      simp [e]
      split
      · obtain ⟨t, e2⟩ := spread_eq n x (.lst [.lst (cells.map .int), .int (p + 1), .int x, .int k, .int s] :: T)
        simp [e2, hm1, hm2, mulOk_lit]
        split <;> exact fin _ _ _ _ _ (by omega)
      · simp [hm1, hm2, mulOk_lit]
        split <;> exact fin _ _ _ _ _ (by omega)
    · exact fin _ _ _ _ _ hp
  · exact fin _ _ _ _ _ hp
theorem pick_sat (n : Nat) (xs : List Val) (o : Ob) (T : Sto) (ho : PoolOb o) (h0 : 0 < xs.length) (h1 : xs.length < 1073741824) {P : Val → Sto → Prop} (h : ∀ x o', PoolOb o' → x ∈ xs → P x (o' :: T)) (hd : ∀ x ∈ xs, x.und (T.length + 1) = true) :
    (callN defs (n + 3) "_law_pick" [.ref 0, .lst xs] (o :: T)).sat P := by
  rw [cn__law_pick, sat_fin]
  simp [b__law_pick]
  refine draw_sat n _ _ _ ho (by omega) (by omega) fun d o' ho' d1 => ?_
  obtain ⟨x, hx, e⟩ := get_of (xs := xs) (d := d) (by omega)
  simp [e]
  refine fin_und (hd x hx) ?_
  simp
  exact h _ _ ho' hx
theorem pickT_sat (n : Nat) (xs : List Val) (o : Ob) (T : Sto) (ho : PoolOb o) (h0 : 0 < xs.length) (h1 : xs.length < 1073741824) {P : Val → Sto → Prop} (h : ∀ x o', PoolOb o' → x ∈ xs → P x (o' :: T)) (hd : ∀ x ∈ xs, x.und (T.length + 1) = true) :
    (callN defs (n + 3) "_law_pick" [.ref 0, .tup xs] (o :: T)).sat P := by
  rw [cn__law_pick, sat_fin]
  simp [b__law_pick]
  refine draw_sat n _ _ _ ho (by omega) (by omega) fun d o' ho' d1 => ?_
  obtain ⟨x, hx, e⟩ := get_of (xs := xs) (d := d) (by omega)
  simp [e]
  refine fin_und (hd x hx) ?_
  simp
  exact h _ _ ho' hx
end TL
namespace TL
open PySem TW
theorem copied_eq : ∀ (n : Nat) (v : Val) (S : Sto), Gd sizeLine (n - 1) v → 1 ≤ n → callN defs n "_law_copied" [v] S = .ok v S
  | 0, _, _, _, h => by omega
  | n + 1, v, S, h, _ => by
    rw [cn__law_copied]
    cases v with
    | tup xs =>
      obtain ⟨h1, h2, h3⟩ := h.ofTup
      simp [b__law_copied]
      rw [compL_all (fun x => x) xs [] ?h7 (by simpa using h1)]
      · simp [finV_dat h.dat]
      · intro x m
        refine ⟨_, rfl, by simp, ?_⟩
        simp
        exact copied_eq n x S (h3 x m) (by simp at h2; omega)
    | lst xs =>
      obtain ⟨h1, h2, h3⟩ := h.ofLst
      simp [b__law_copied]
      rw [compL_all (fun x => x) xs [] ?h8 (by simpa using h1)]
      · simp [finV_dat h.dat]
      · intro x m
        refine ⟨_, rfl, by simp, ?_⟩
        simp
        exact copied_eq n x S (h3 x m) (by simp at h2; omega)
    | dct kvs => exact absurd h.dat (by simp [Val.dat])
    | ref k => exact absurd h.dat (by simp [Val.dat])
    | exc k a => exact absurd h.dat (by simp [Val.dat])
    | scr k => exact absurd h.dat (by simp [Val.dat])
    | non => simp [b__law_copied]
    | bl b => simp [b__law_copied]
    | int i => simp [b__law_copied]
    | str s => simp [b__law_copied]
theorem same_refl : ∀ (n : Nat) (v : Val) (S : Sto), Gd (2 ^ 24) (n - 1) v → 1 ≤ n → callN defs n "_law_same" [v, v] S = .ok (.bl true) S
  | 0, _, _, _, h => by omega
  | n + 1, v, S, h, _ => by
    rw [cn__law_same]
    cases v with
    | tup xs =>
      obtain ⟨h1, h2, h3⟩ := h.ofTup
      have hl : (xs.length : Int) < 4611686018427387904 := by omega
      have hl2 : (-4611686018427387904 : Int) ≤ xs.length := by omega
      simp [b__law_same, hl, hl2]
      rw [compL_map (fun _ => false) (fun x => x) _ [] ?h7 (by simp [sizeLine]; omega)]
      · simp
      · intro x m
        refine ⟨_, rfl, ?_, fun z => by cases z⟩
        obtain ⟨i, hi, rfl⟩ := mem_rowI m
        simp [List.getElem?_eq_getElem hi]
        rw [same_refl n _ S (h3 _ (List.getElem_mem hi)) (by simp at h2; omega)]
        simp
    | lst xs =>
      obtain ⟨h1, h2, h3⟩ := h.ofLst
      have hl : (xs.length : Int) < 4611686018427387904 := by omega
      have hl2 : (-4611686018427387904 : Int) ≤ xs.length := by omega
      simp [b__law_same, hl, hl2]
      rw [compL_map (fun _ => false) (fun x => x) _ [] ?h8 (by simp [sizeLine]; omega)]
      · simp
      · intro x m
        refine ⟨_, rfl, ?_, fun z => by cases z⟩
        obtain ⟨i, hi, rfl⟩ := mem_rowI m
        simp [List.getElem?_eq_getElem hi]
        rw [same_refl n _ S (h3 _ (List.getElem_mem hi)) (by simp at h2; omega)]
        simp
    | dct kvs => exact absurd h.dat (by simp [Val.dat])
    | ref k => exact absurd h.dat (by simp [Val.dat])
    | exc k a => exact absurd h.dat (by simp [Val.dat])
    | scr k => exact absurd h.dat (by simp [Val.dat])
    | non => simp [b__law_same]
    | bl b => simp [b__law_same]
    | int i => simp [b__law_same]
    | str s => simp [b__law_same]
end TL
namespace TL
open PySem TW
theorem lawint_eq (n : Nat) (v : Val) (S : Sto) (h : v.plain = true) : callN defs (n + 1) "_law_is_integer" [v] S = .ok (.bl (match v with | .int _ => true | _ => false)) S := by
  rw [cn__law_is_integer]
  cases v <;> simp [Val.plain] at h <;> simp [b__law_is_integer]
theorem bent_sat (L : Nat) (hL : 2 ≤ L) (hL2 : L ≤ 1000000) : ∀ (d n : Nat) (v : Val) (o : Ob) (T : Sto) (P : Val → Sto → Prop), PoolOb o → Gd L d v → d + 4 ≤ n → (∀ w o', PoolOb o' → Gd (L + 1) (d + 1) w → P w (o' :: T)) →
    (callN defs n "_law_bent" [.ref 0, v] (o :: T)).sat P := by
    intro d
    refine Nat.strongRecOn d fun d ih => ?_
    intro n v o T P ho hv hn h
    obtain ⟨n, rfl⟩ : ∃ m, n = m + 3 := ⟨n - 3, by omega⟩
    have out : ∀ (w : Val) (o' : Ob) (S : Sto), PoolOb o' → Gd (L + 1) (d + 1) w → S.take (T.length + 1) = o' :: T → (finV false (T.length + 1) w S).sat P := fun w o' S ho' hw e => by
      rw [finV_dat hw.dat, sat_ok, e]
      exact h w o' ho' hw
    have hz : sizeLine = 16777216 := rfl
    have hx : Gd 1 (d + 1) (.str "x") := .str (by decide +kernel) (by decide +kernel)
    have hin : Gd 2 (d + 1) (.str "in") := .str (by decide +kernel) (by decide +kernel)
    have pair : Gd (L + 1) (d + 1) (.tup [v, .int 0]) := .tup (fun x m => by
      simp at m
      rcases m with rfl | rfl
      · exact hv.mono (by omega) (by omega)
      · exact .int _) (by simp; omega)
    have nil : Gd (L + 1) (d + 1) (.tup []) := .tup (by simp) (by simp)
    have nilL : Gd (L + 1) (d + 1) (.lst []) := .lst (by simp) (by simp)
    have zero : ∀ o1, PoolOb o1 → (callN defs (n + 2) "_law_draw" [.ref 0, .int 10] (o1 :: T)).sat fun a S =>
        (ixV (.tup [.str "x", .bl true, .tup [], .int 0, .int (-1), .non, .bl false, .lst [], .str "in", .int 1]) a S).sat fun v S => (finV false (T.length + 1) v S).sat P := fun o1 ho1 => by
      refine draw_sat n _ _ _ ho1 (by omega) (by omega) fun t o2 ho2 d2 => ?_
      obtain ⟨x, hm, e⟩ := get_of (xs := ([.str "x", .bl true, .tup [], .int 0, .int (-1), .non, .bl false, .lst [], .str "in", .int 1] : List Val)) (d := t) (by simp; omega)
      simp [e]
      refine out _ _ _ ho2 ?_ (by simp)
      simp at hm
      rcases hm with rfl | rfl | rfl | rfl | rfl | rfl | rfl | rfl | rfl | rfl
      · exact hx.mono (by omega) (Nat.le_refl _)
      · exact .bl _
      · exact nil
      · exact .int _
      · exact .int _
      · exact .non
      · exact .bl _
      · exact nilL
      · exact hin.mono (by omega) (Nat.le_refl _)
      · exact .int _
    rw [cn__law_bent, sat_fin]
    cases v with
    | tup xs =>
      obtain ⟨h1, h2, h3⟩ := hv.ofTup
      have up : ∀ x ∈ xs, Gd (L + 1) d x := fun x m => (h3 x m).mono (by omega) (by omega)
      simp [b__law_bent, hz]
      by_cases hp : 0 < xs.length
      · rw [if_pos hp]
        refine draw_sat (n := n) _ _ _ ho (by omega) (by omega) fun t o1 ho1 d1 => ?_
        simp
        split
        · refine draw_sat (n := n) _ _ _ ho1 (by omega) (by omega) fun k o2 ho2 d2 => ?_
          have dk : k < xs.length := by omega
          obtain ⟨x, hm, e⟩ := get_of dk
          simp [e]
          refine ih (d - 1) (by omega) (n + 2) x o2 T _ ho2 (h3 x hm) (by omega) fun w o3 ho3 hw => ?_
          rw [cut_to xs (by omega), cut_from1 xs (by omega)]
          have e1 : (xs.take k).length = k := by rw [List.length_take]; omega
          have e2 : (xs.drop (k + 1)).length = xs.length - (k + 1) := by rw [List.length_drop]
          refine ⟨by omega, by omega, out _ _ _ ho3 (.tup (fun z m => ?_) (by rw [List.length_append, List.length_cons]; omega)) (by simp)⟩
          rw [List.mem_append, List.mem_cons] at m
          rcases m with m | rfl | m
          · exact up z (List.mem_of_mem_take m)
          · exact hw.mono (Nat.le_refl _) (by omega)
          · exact up z (List.mem_of_mem_drop m)
        · refine draw_sat (n := n) _ _ _ ho1 (by omega) (by omega) fun u o2 ho2 d2 => ?_
          simp
          split
          · exact zero o2 ho2
          · rw [lawint_eq _ _ _ rfl]
            have hne : xs ≠ [] := by intro e; rw [e] at hp; simp at hp
            simp [hne]
            refine draw_sat (n := n) _ _ _ ho2 (by omega) (by omega) fun k o3 ho3 d3 => ?_
            have dk : k < xs.length := by omega
            obtain ⟨x, hm, e⟩ := get_of dk
            have e1 : (xs.take k).length = k := by rw [List.length_take]; omega
            have e2 : (xs.drop (k + 1)).length = xs.length - (k + 1) := by rw [List.length_drop]
            have e3 : (xs.drop k).length = xs.length - k := by rw [List.length_drop]
            simp [e]
            rw [cut_to xs (by omega), cut_from1 xs (by omega), cut_from xs (by omega)]
            split
            · refine ⟨by omega, out _ _ _ ho3 (.tup (fun z m => ?_) (by rw [List.length_append]; omega)) (by simp)⟩
              rw [List.mem_append] at m
              rcases m with m | m
              · exact up z (List.mem_of_mem_take m)
              · exact up z (List.mem_of_mem_drop m)
            · split
              · refine ⟨by omega, by omega, out _ _ _ ho3 (.tup (fun z m => ?_) (by rw [List.length_append, List.length_cons]; omega)) (by simp)⟩
                rw [List.mem_append, List.mem_cons] at m
                rcases m with m | rfl | m
                · exact up z (List.mem_of_mem_take m)
                · exact up _ hm
                · exact up z (List.mem_of_mem_drop m)
              · split
                · exact out _ _ _ ho3 (.lst up (by omega)) (by simp)
                · refine draw_sat (n := n) _ _ _ ho3 (by omega) (by omega) fun j o4 ho4 d4 => ?_
                  have dj : j < xs.length := by omega
                  obtain ⟨y, hy, e'⟩ := get_of dj
                  simp [e, e', ixN_nat dk, ixN_nat dj, und_dat' (h3 x hm).dat, und_dat' (h3 y hy).dat, listN]
                  exact out _ _ _ ho4 (.tup (dat_swap up (up _ hy) (up _ hm)) (by simp; omega)) (by simp)
      · rw [if_neg hp]
        obtain rfl : xs = [] := List.length_eq_zero_iff.mp (by omega)
        refine draw_sat (n := n) _ _ _ ho (by omega) (by omega) fun t o1 ho1 d1 => ?_
        simp
        split
        · exact zero o1 ho1
        · rw [lawint_eq _ _ _ rfl]
          simp
          split
          · exact out _ _ _ ho1 pair (by simp)
          · exact out _ _ _ ho1 nil (by simp)
    | lst xs =>
      simp [b__law_bent, hz]
      refine draw_sat (n := n) _ _ _ ho (by omega) (by omega) fun t o1 ho1 d1 => ?_
      simp
      split
      · exact zero o1 ho1
      · rw [lawint_eq _ _ _ rfl]
        simp
        split
        · exact out _ _ _ ho1 pair (by simp)
        · exact out _ _ _ ho1 nil (by simp)
    | dct kvs => exact absurd hv.dat (by simp [Val.dat])
    | ref k => exact absurd hv.dat (by simp [Val.dat])
    | exc k a => exact absurd hv.dat (by simp [Val.dat])
    | scr k => exact absurd hv.dat (by simp [Val.dat])
    | non =>
      simp [b__law_bent, hz]
      refine draw_sat (n := n) _ _ _ ho (by omega) (by omega) fun t o1 ho1 d1 => ?_
      simp
      split
      · exact zero o1 ho1
      · rw [lawint_eq _ _ _ rfl]
        simp
        split
        · exact out _ _ _ ho1 pair (by simp)
        · exact out _ _ _ ho1 nil (by simp)
    | bl b =>
      simp [b__law_bent, hz]
      refine draw_sat (n := n) _ _ _ ho (by omega) (by omega) fun t o1 ho1 d1 => ?_
      simp
      split
      · exact zero o1 ho1
      · rw [lawint_eq _ _ _ rfl]
        simp
        split
        · exact out _ _ _ ho1 pair (by simp)
        · exact out _ _ _ ho1 nil (by simp)
    | int i =>
      simp [b__law_bent, hz]
      refine draw_sat (n := n) _ _ _ ho (by omega) (by omega) fun t o1 ho1 d1 => ?_
      simp
      split
      · exact zero o1 ho1
      · rw [lawint_eq _ _ _ rfl]
        simp
        refine draw_sat (n := n) _ _ _ ho1 (by omega) (by omega) fun u o2 ho2 d2 => ?_
        obtain ⟨x, hm, e⟩ := get_of (xs := [Val.int 1, .int (-1), .int 2, .int 0]) (d := u) (by simp; omega)
        simp [e]
        simp at hm
        rcases hm with rfl | rfl | rfl | rfl <;> exact out _ _ _ ho2 (.int _) (by simp)
    | str s =>
      have hs : s.length ≤ L := by simpa [Val.small] using hv.small
      have e1 : (Str.ofString "a").length = 1 := by decide +kernel
      have e2 : (Str.ofString "A").length = 1 := by decide +kernel
      have e3 : (Str.ofString " ").length = 1 := by decide +kernel
      have g1 : s.length + 1 ≤ 16777216 := by omega
      have g2 : s.length ≤ 16777216 := by omega
      simp [b__law_bent, hz]
      refine draw_sat (n := n) _ _ _ ho (by omega) (by omega) fun t o1 ho1 d1 => ?_
      simp
      split
      · exact zero o1 ho1
      · rw [lawint_eq _ _ _ rfl]
        simp [e1, e2, e3, g1, g2]
        refine draw_sat (n := n) _ _ _ ho1 (by omega) (by omega) fun u o2 ho2 d2 => ?_
        obtain ⟨x, hm, e⟩ := get_of (xs := [Val.str (s ++ "a"), .str ⟨(cut s.cps.toList (some 1) none).toArray⟩, .str (s ++ "A"), .str (s ++ " "), .str ⟨(cut s.cps.toList none (some 1)).toArray⟩]) (d := u) (by simp; omega)
        simp [e]
        refine out _ _ _ ho2 ?_ (by simp)
        simp at hm
        rcases hm with rfl | rfl | rfl | rfl | rfl
        · exact (hv.addS (.str (by decide +kernel) (by decide +kernel))).mono (Nat.le_refl _) (by omega)
        · exact (hv.slice _ _).mono (by omega) (by omega)
        · exact (hv.addS (.str (by decide +kernel) (by decide +kernel))).mono (Nat.le_refl _) (by omega)
        · exact (hv.addS (.str (by decide +kernel) (by decide +kernel))).mono (Nat.le_refl _) (by omega)
        · exact (hv.slice _ _).mono (by omega) (by omega)
end TL
namespace TL
open PySem TW
def OddV (v : Val) : Prop := Gd 10 95 v ∨ v = .dct [] ∨ v = .dct [(.str "a", .int 1)]
theorem OddV.und {v : Val} (h : OddV v) (k : Nat) : v.und k = true := by
  rcases h with h | rfl | rfl
  · exact und_dat' h.dat
  · rfl
  · rfl
theorem odd_sat (n : Nat) (S : Sto) {P : Val → Sto → Prop} (h : ∀ xs, xs.length = 22 → (∀ x ∈ xs, OddV x) → P (.lst xs) S) : (callN defs (n + 1) "_law_odd_values" [] S).sat P := by
  have hz : sizeLine = 16777216 := rfl
  rw [cn__law_odd_values, sat_fin]
  simp [b__law_odd_values, hz]
  refine forL_sat (fun xs ρ S' => S' = S ∧ xs.length ≤ 90 ∧ ∃ (v : Val) (k : Option Val), ρ = [some v, k] ∧ Gd 3 (91 - xs.length) v) ?_ ?_ _ _ _ ?_
  · rintro ρ S' ⟨rfl, -, v, k, rfl, hv⟩
    simp at hv ⊢
    have hp : ∀ x ∈ ([v, .tup [.str "plan", v, v], .non, .int 0, .int 1, .bl true, .bl false, .str "", .str "x", .tup [], .lst [], .dct [], .tup [.tup []], .tup [.tup [], .tup []], .tup [.int 0], .tup [.int 1, .int 2],
        .tup [.str "x"], .tup [.lst []], .dct [(.str "a", .int 1)], .tup [.non], .tup [.tup [.tup []]], .int (-1)] : List Val), OddV x := by
      have s1 : Gd 10 2 (.str "x") := .str (by decide +kernel) (by decide +kernel)
      have s2 : Gd 10 91 (.str "plan") := .str (by decide +kernel) (by decide +kernel)
      have s3 : Gd 10 91 (.str "") := .str (by decide +kernel) (by decide +kernel)
      have t0 : ∀ d, Gd 10 (d + 1) (.tup []) := fun d => .tup (by simp) (by simp)
      have l0 : ∀ d, Gd 10 (d + 1) (.lst []) := fun d => .lst (by simp) (by simp)
      intro x hx
      simp at hx
      rcases hx with rfl | rfl | rfl | rfl | rfl | rfl | rfl | rfl | rfl | rfl | rfl | rfl | rfl | rfl | rfl | rfl | rfl | rfl | rfl | rfl | rfl | rfl
      · exact .inl (hv.mono (by omega) (by omega))
      · refine .inl ((Gd.tup (L := 10) (d := 91) (fun x m => ?_) (by simp)).mono (by omega) (by omega))
        simp at m
        rcases m with rfl | rfl
        · exact s2
        · exact hv.mono (by omega) (by omega)
      · exact .inl .non
      · exact .inl (.int _)
      · exact .inl (.int _)
      · exact .inl (.bl _)
      · exact .inl (.bl _)
      · exact .inl (s3.mono (by omega) (by omega))
      · exact .inl (s1.mono (by omega) (by omega))
      · exact .inl (t0 _)
      · exact .inl (l0 _)
      · exact .inr (.inl rfl)
      · exact .inl (.tup (d := 94) (fun x m => by simp at m; subst m; exact t0 _) (by simp))
      · exact .inl (.tup (d := 94) (fun x m => by simp at m; subst m; exact t0 _) (by simp))
      · exact .inl (.tup (d := 94) (fun x m => by simp at m; subst m; exact .int _) (by simp))
      · exact .inl (.tup (d := 94) (fun x m => by simp at m; rcases m with rfl | rfl <;> exact .int _) (by simp))
      · exact .inl (.tup (d := 94) (fun x m => by simp at m; subst m; exact s1.mono (by omega) (by omega)) (by simp))
      · exact .inl (.tup (d := 94) (fun x m => by simp at m; subst m; exact l0 _) (by simp))
      · exact .inr (.inr rfl)
      · exact .inl (.tup (d := 94) (fun x m => by simp at m; subst m; exact .non) (by simp))
      · refine .inl (.tup (d := 94) (fun x m => ?_) (by simp))
        simp at m
        subst m
        exact .tup (d := 93) (fun x m => by simp at m; subst m; exact t0 _) (by simp)
      · exact .inl (.int _)
    refine fin_und ?_ ?_
    · rw [und_lst, unds_iff]
      exact fun x m => (hp x m).und _
    · simp
      exact h _ rfl hp
  · rintro x xs ρ S' ⟨rfl, hl, v, k, rfl, hv⟩
    refine ⟨_, rfl, ?_⟩
    simp at hl hv ⊢
    refine ⟨by omega, ?_⟩
    have : 91 - xs.length = 90 - xs.length + 1 := by omega
    rw [this]
    exact ⟨by omega, .tup (by simp; exact hv) (by simp)⟩
  · exact ⟨rfl, by simp, _, _, rfl, .tup (by simp) (by simp)⟩
theorem copied_odd (n : Nat) (v : Val) (S : Sto) (h : OddV v) (hn : 97 ≤ n) : ∃ c, Gd 10 95 c ∧ callN defs n "_law_copied" [v] S = .ok c S := by
  have hz : sizeLine = 16777216 := rfl
  rcases h with h | rfl | rfl
  · exact ⟨v, h, copied_eq n v S (h.mono (by omega) (by omega)) (by omega)⟩
  · refine ⟨.lst [], .lst (by simp) (by simp), ?_⟩
    obtain ⟨n, rfl⟩ : ∃ m, n = m + 1 := ⟨n - 1, by omega⟩
    rw [cn__law_copied]
    simp [b__law_copied, iKeysV, compL]
    exact finV_und rfl |>.trans (by simp)
  · refine ⟨.lst [.tup [.str "a", .int 1]], .lst (d := 94) (fun x m => ?_) (by simp), ?_⟩
    · simp at m
      subst m
      refine .tup (d := 93) (fun x m => ?_) (by simp)
      simp at m
      rcases m with rfl | rfl
      · exact .str (by decide +kernel) (by decide +kernel)
      · exact .int _
    · obtain ⟨n, rfl⟩ : ∃ m, n = m + 2 := ⟨n - 2, by omega⟩
      rw [cn__law_copied]
      have e : ixV (.dct [(.str "a", .int 1)]) (.str "a") S = .ok (.int 1) S := by
        simp [ixV, isD, dixV, keyOf, dGet]
      have e2 : callN defs (n + 1) "_law_copied" [.int 1] S = .ok (.int 1) S := copied_eq _ _ _ (.int _) (by omega)
      simp [b__law_copied, iKeysV, compL, compK, e, e2, hz]
      exact finV_und rfl |>.trans (by simp)
theorem booled_ex (L : Nat) (hL : L ≤ 1000000) : ∀ (d n : Nat) (v : Val) (S : Sto), Gd L d v → d + 2 ≤ n → ∃ w, Gd L d w ∧ callN defs n "_law_booled" [v] S = .ok w S := by
  intro d
  refine Nat.strongRecOn d fun d ih => ?_
  intro n v S hv hn
  have hz : sizeLine = 16777216 := rfl
  obtain ⟨n, rfl⟩ : ∃ m, n = m + 2 := ⟨n - 2, by omega⟩
  rw [cn__law_booled]
  cases v with
  | tup xs =>
    obtain ⟨h1, h2, h3⟩ := hv.ofTup
    obtain ⟨ws, l, a, b⟩ := compL_ex (fin := finL) (g := gName 1) (t := tYes) (e := eCall (callN defs (n + 1)) "_law_booled" (esCons (eVar 1) esNil)) (ρ := [some (.tup xs), none]) (S := S) (Gd L (d - 1)) xs []
      (fun x m => by
        refine ⟨_, rfl, by simp, ?_⟩
        simp
        exact ih (d - 1) (by omega) (n + 1) x S (h3 x m) (by omega)) (by simp [hz]; omega) (by simp)
    have g : Gd L d (.tup ws) := (Gd.tup a (by simp at l; omega)).mono (Nat.le_refl _) (by omega)
    refine ⟨.tup ws, g, ?_⟩
    simp [b__law_booled]
    rw [b]
    simp [finV_dat g.dat]
  | int i =>
    simp [b__law_booled]
    rw [lawint_eq _ _ _ rfl]
    simp [hz, inV, inB, asQ, Val.dat, Val.dats, Val.depths, Val.depth, Val.eqv]
    by_cases hi : 0 = i ∨ 1 = i
    · rw [if_pos hi]
      exact ⟨.bl (i == 1), .bl _, by simp⟩
    · rw [if_neg hi]
      exact ⟨.int i, .int _, by simp⟩
  | lst xs =>
    refine ⟨_, hv, ?_⟩
    simp [b__law_booled]
    rw [lawint_eq _ _ _ rfl]
    simp [finV_dat hv.dat]
  | non =>
    refine ⟨_, hv, ?_⟩
    simp [b__law_booled]
    rw [lawint_eq _ _ _ rfl]
    simp
  | bl b =>
    refine ⟨_, hv, ?_⟩
    simp [b__law_booled]
    rw [lawint_eq _ _ _ rfl]
    simp
  | str s =>
    refine ⟨_, hv, ?_⟩
    simp [b__law_booled]
    rw [lawint_eq _ _ _ rfl]
    simp
  | dct kvs => exact absurd hv.dat (by simp [Val.dat])
  | ref k => exact absurd hv.dat (by simp [Val.dat])
  | exc k a => exact absurd hv.dat (by simp [Val.dat])
  | scr k => exact absurd hv.dat (by simp [Val.dat])
theorem listed_ex (L : Nat) (hL : L ≤ 1000000) : ∀ (d n : Nat) (v : Val) (k : Int) (S : Sto), Gd L d v → d + 2 ≤ n → ∃ w, Gd L d w ∧ callN defs n "_law_listed" [v, .int k] S = .ok w S := by
  intro d
  refine Nat.strongRecOn d fun d ih => ?_
  intro n v k S hv hn
  have hz : sizeLine = 16777216 := rfl
  obtain ⟨n, rfl⟩ : ∃ m, n = m + 2 := ⟨n - 2, by omega⟩
  rw [cn__law_listed]
  cases v with
  | tup xs =>
    obtain ⟨h1, h2, h3⟩ := hv.ofTup
    by_cases hk : k = 0
    · subst hk
      have g : Gd L d (.lst xs) := (Gd.lst h3 h1).mono (Nat.le_refl _) (by omega)
      exact ⟨_, g, by simp [b__law_listed, finV_dat g.dat]⟩
    obtain ⟨ws, l, a, b⟩ := compL_ex (fin := finL) (g := gName 2) (t := tYes) (e := eCall (callN defs (n + 1)) "_law_listed" (esCons (eVar 2) (esCons (eBin subV (eVar 1) (eC (.int 1))) esNil))) (ρ := [some (.tup xs), some (.int k), none]) (S := S) (Gd L (d - 1)) xs []
      (fun x m => by
        refine ⟨_, rfl, by simp, ?_⟩
        simp
        exact ih (d - 1) (by omega) (n + 1) x (k - 1) S (h3 x m) (by omega)) (by simp [hz]; omega) (by simp)
    have g : Gd L d (.tup ws) := (Gd.tup a (by simp at l; omega)).mono (Nat.le_refl _) (by omega)
    refine ⟨.tup ws, g, ?_⟩
    simp [b__law_listed, hk]
    rw [b]
    simp [finV_dat g.dat]
  | int i => exact ⟨_, hv, by simp [b__law_listed]⟩
  | lst xs => exact ⟨_, hv, by simp [b__law_listed, finV_dat hv.dat]⟩
  | non => exact ⟨_, hv, by simp [b__law_listed]⟩
  | bl b => exact ⟨_, hv, by simp [b__law_listed]⟩
  | str s => exact ⟨_, hv, by simp [b__law_listed]⟩
  | dct kvs => exact absurd hv.dat (by simp [Val.dat])
  | ref k => exact absurd hv.dat (by simp [Val.dat])
  | exc k a => exact absurd hv.dat (by simp [Val.dat])
  | scr k => exact absurd hv.dat (by simp [Val.dat])
end TL
namespace TL
open PySem TW
/-- a row of ints in the store, with at most k items -/
def RowOb (k : Nat) (r : Ob) : Prop := ∃ ns : List Int, r = .lst (ns.map .int) ∧ ns.length ≤ k
def opens (S : Sto) (h : Int) (x : Val) : Bool := match x with
  | .ref k => (match S[k]? with
    | some (.lst xs) => decide ((xs.length : Int) < h)
    | _ => false)
  | _ => false
def refs (k n : Nat) : List Val := (List.range n).map fun i => .ref (k + i)
theorem mem_refs {k n : Nat} {x : Val} (h : x ∈ refs k n) : ∃ i, i < n ∧ x = .ref (k + i) := by
  unfold refs at h
  rw [List.mem_map] at h
  obtain ⟨i, hi, rfl⟩ := h
  exact ⟨i, by simpa using hi, rfl⟩
theorem map_eraseIdx {α β : Type} (f : α → β) : ∀ (xs : List α) (i : Nat), (xs.map f).eraseIdx i = (xs.eraseIdx i).map f
  | [], i => by simp
  | x :: xs, 0 => by simp
  | x :: xs, i + 1 => by simp [map_eraseIdx f xs i]
theorem refs_succ (k n : Nat) : refs k n ++ [.ref (k + n)] = refs k (n + 1) := by simp [refs, List.range_succ]
@[simp] theorem refs_length (k n : Nat) : (refs k n).length = n := by simp [refs]
def yE (st h many a : Int) (kk r8 r9 r10 r11 : Option Val) : TW.Env := [some (.ref 0), some (.int 14), some (.int st), some (.int h), some (.int many), some (.ref 1), some (.int a), kk, r8, r9, r10, r11]
def yI1 (st h many : Int) (xs : List Val) (ρ : TW.Env) (S : Sto) : Prop := ∃ (o' : Ob) (a : Int) (kk : Option Val) (ns : List Int), PoolOb o' ∧ S = [o', .lst (ns.map .int)] ∧ ns.length + xs.length ≤ 14 ∧ ρ = yE st h many a kk none none none none
def yI2 (o' : Ob) (ns : List Int) (st : Int) (rest acc : List Val) (S : Sto) : Prop := S = o' :: .lst (ns.map .int) :: List.replicate acc.length (.lst []) ∧ acc = refs 2 acc.length ∧ acc.length + rest.length = st.toNat
def yI3 (st h many a : Int) (kk : Option Val) (k m : Nat) (ρ : TW.Env) (S : Sto) : Prop := ∃ (o' : Ob) (ns : List Int) (R : List Ob) (bx op rw_ : Option Val), PoolOb o' ∧ S = o' :: .lst (ns.map .int) :: R ∧ R.length = k ∧ ns.length = m ∧ m ≤ 14 ∧ (∀ r ∈ R, RowOb (14 - ns.length) r) ∧
        ρ = yE st h many a kk (some (.lst (refs 2 k))) bx op rw_
theorem opens_eq {o' nl : Ob} {R : List Ob} {k m i : Nat} {h : Int} (hr : ∀ r ∈ R, RowOb m r) (hR : R.length = k) (hi : i < k) : ∃ ns : List Int, R[i]? = some (.lst (ns.map .int)) ∧ ns.length ≤ m ∧ lenF [.ref (2 + i)] (o' :: nl :: R) = .ok (.int ns.length) (o' :: nl :: R) ∧
    opens (o' :: nl :: R) h (.ref (2 + i)) = decide ((ns.length : Int) < h) ∧ (o' :: nl :: R)[2 + i]? = some (.lst (ns.map .int)) := by
  obtain ⟨r, hm, e⟩ := get_of (xs := R) (d := i) (by omega)
  obtain ⟨ns, rfl, hn⟩ := hr r hm
  have e2 : (o' :: nl :: R)[2 + i]? = some (.lst (ns.map .int)) := by
    rw [show 2 + i = i + 1 + 1 from by omega]
    simpa using e
  exact ⟨ns, e, hn, by simp [e2], by simp [opens, e2], e2⟩
theorem opens_same {o' nl o2 nl2 : Ob} {R : List Ob} {k m : Nat} {h : Int} (hr : ∀ r ∈ R, RowOb m r) (hR : R.length = k) : (refs 2 k).filter (opens (o' :: nl :: R) h) = (refs 2 k).filter (opens (o2 :: nl2 :: R) h) := by
  refine List.filter_congr fun x mx => ?_
  obtain ⟨i, hi, rfl⟩ := mem_refs mx
  obtain ⟨ns, e, -, -, e1, -⟩ := opens_eq (o' := o') (nl := nl) (h := h) hr hR hi
  obtain ⟨ns', e', -, -, e1', -⟩ := opens_eq (o' := o2) (nl := nl2) (h := h) hr hR hi
  rw [e] at e'
  have : (ns.map Val.int).length = (ns'.map Val.int).length := by
    injection e' with e'
    injection e' with e'
    rw [e']
  rw [e1, e1']
  simp at this
  rw [this]
theorem fil_eq {o' nl : Ob} {R : List Ob} {k m : Nat} {h : Int} {c0 c1 c2 c4 c5 c6 c7 c8 c9 c10 : Option Val} (hr : ∀ r ∈ R, RowOb m r) (hR : R.length = k) (hk : k ≤ 1000) :
    compL finL (gName 11) (tVal (eBin ltV (eFn lenF (esCons (eVar 11) esNil)) (eVar 3))) (eVar 11) [c0, c1, c2, some (.int h), c4, c5, c6, c7, c8, c9, c10, none] (refs 2 k) [] (o' :: nl :: R) = .ok (.lst ((refs 2 k).filter (opens (o' :: nl :: R) h))) (o' :: nl :: R) := by
  have hz : sizeLine = 16777216 := rfl
  rw [compL_fil (opens (o' :: nl :: R) h) _ ?_ (by simp [hz]; omega)]
  · rfl
  · intro x m
    obtain ⟨i, hi, rfl⟩ := mem_refs m
    obtain ⟨ns, -, -, e1, e2, -⟩ := opens_eq (o' := o') (nl := nl) (h := h) hr hR hi
    refine ⟨_, rfl, ?_, ?_⟩
    · simp only [r_tVal, r_bin, r_fn, r_cons, r_nil, r_var, bnd_ok, List.set, List.getElem?_cons_succ, List.getElem?_cons_zero, e1, e2, v_lt]
    · simp
theorem tups_eq {o' nl : Ob} {R : List Ob} {k m : Nat} {c0 c1 c2 c3 c4 c5 c6 c7 c8 c9 c10 : Option Val} (hr : ∀ r ∈ R, RowOb m r) (hm : m ≤ 14) (hR : R.length = k) (hk : k ≤ 14) :
    ∃ w, Gd 14 2 (.tup w) ∧ compL finL (gName 11) tYes (eFn tupleV (esCons (eVar 11) esNil)) [c0, c1, c2, c3, c4, c5, c6, c7, c8, c9, c10, none] (refs 2 k) [] (o' :: nl :: R) = .ok (.lst w) (o' :: nl :: R) := by
  have hz : sizeLine = 16777216 := rfl
  obtain ⟨ws, l, a, b⟩ := compL_ex (fin := finL) (g := gName 11) (t := tYes) (e := eFn tupleV (esCons (eVar 11) esNil)) (ρ := [c0, c1, c2, c3, c4, c5, c6, c7, c8, c9, c10, none]) (S := o' :: nl :: R) (Gd 14 1) (refs 2 k) []
    (fun x mx => by
      obtain ⟨i, hi, rfl⟩ := mem_refs mx
      obtain ⟨ns, -, e4, -, -, e2⟩ := opens_eq (o' := o') (nl := nl) (h := 0) hr hR hi
      refine ⟨_, rfl, by simp, .tup (ns.map .int), .tup (d := 0) (fun z mz => ?_) (by simp; omega), by simp [e2]⟩
      simp at mz
      obtain ⟨j, -, rfl⟩ := mz
      exact .int _) (by simp [hz]; omega) (by simp)
  exact ⟨ws, .tup (d := 1) a (by simp at l; omega), by rw [b]; rfl⟩
theorem yard_sat (n : Nat) (st h : Int) (o : Ob) (ho : PoolOb o) (h0 : 1 ≤ st) (h1 : st ≤ 6) {P : Val → Sto → Prop} (hP : ∀ v o', PoolOb o' → Gd 14 2 v → (∃ xs, v = .tup xs) → P v [o']) :
    (callN defs (n + 5) "_law_yard" [.ref 0, .int 14, .int st, .int h] [o]).sat P := by
  have hz : sizeLine = 16777216 := rfl
  rw [cn__law_yard, sat_fin]
  simp [b__law_yard, hz]
  refine draw_sat (n + 2) _ _ _ ho (by omega) (by omega) fun many o1 ho1 d1 => ?_
  simp
  refine ⟨by omega, ?_⟩
  refine forL_sat (yI1 st h many) ?_ ?_ _ _ _ ?_
  · rintro ρ S ⟨o', a, kk, ns, ho', rfl, hl, rfl⟩
    simp [yE] at hl ⊢
    refine ⟨by omega, ?_⟩
    refine compL_sat (yI2 o' ns st) ?_ ?_ _ _ _ ?_
    · rintro acc S ⟨rfl, e, e2⟩
      rw [e]
      generalize acc.length = k at *
      simp at e2
      simp
      refine while_sat (n := ns.length) (yI3 st h many a kk k) ?_ ?_ ?_
      · refine ⟨o', ns, _, none, none, none, ho', rfl, by simp, rfl, hl, ?_, rfl⟩
        intro r hr
        rw [List.eq_of_mem_replicate hr]
        exact ⟨[], rfl, by simp⟩
      · omega
      · rintro m ρ S ⟨o', ns, R, bx, op, rw_, ho', rfl, hR, hm, hm14, hr, rfl⟩
        have stop : ∀ bx op : Option Val, (compL finL (gName 11) tYes (eFn tupleV (esCons (eVar 11) esNil)) [some (Val.ref 0), some (Val.int 14), some (Val.int st), some (Val.int h), some (Val.int ↑many),
                      some (Val.ref 1), some (Val.int a), kk, some (Val.lst (refs 2 k)), bx, op, none] (refs 2 k) [] (o' :: Ob.lst (List.map Val.int ns) :: R)).sat fun a S => (tupleV [a] S).sat fun v S => (finV false 1 v S).sat P := fun bx op => by
          obtain ⟨w, g, e⟩ := tups_eq (o' := o') (nl := .lst (ns.map .int)) (c0 := some (.ref 0)) (c1 := some (.int 14)) (c2 := some (.int st)) (c3 := some (.int h)) (c4 := some (.int many)) (c5 := some (.ref 1)) (c6 := some (.int a)) (c7 := kk) (c8 := some (.lst (refs 2 k))) (c9 := bx) (c10 := op) hr (by omega) hR (by omega)
          rw [e]
          simp
          refine fin_dat g.dat ?_
          simp
          exact hP _ _ ho' g ⟨_, rfl⟩
        simp [yE]
        by_cases hn : 0 < ns.length
        · rw [if_pos hn, fil_eq hr hR (by omega)]
          simp
          by_cases hf : 0 < ((refs 2 k).filter (opens (o' :: .lst (ns.map .int) :: R) h)).length
          · rw [if_pos (by simpa using hf)]
            refine ⟨m - 1, by omega, ?_⟩
            refine draw_sat (n + 2) _ _ _ ho' (by omega) (by omega) fun d o2 ho2 d2 => ?_
            obtain ⟨b, eb⟩ : ∃ b, ns[d]? = some b := ⟨_, List.getElem?_eq_getElem (by omega)⟩
            have e1 : L2.ixN ns.length (d : Int) = some d := ixN_nat (by omega)
            have e2 : -4611686018427387904 < (d : Int) ∧ (d : Int) < 4611686018427387904 := by omega
            simp [e1, eb, e2]
            have el : (ns.eraseIdx d).length = ns.length - 1 := by rw [List.length_eraseIdx]; rw [if_pos (by omega)]
            rw [show (ns.map Val.int).eraseIdx d = (ns.eraseIdx d).map Val.int from map_eraseIdx _ _ _]
            rw [fil_eq hr hR (by omega)]
            rw [opens_same (o2 := o') (nl2 := .lst (ns.map .int)) hr hR]
            simp
            have hlen : ((refs 2 k).filter (opens (o' :: .lst (ns.map .int) :: R) h)).length ≤ k := Nat.le_trans (List.length_filter_le _ _) (by simp)
            refine pick_sat (n + 1) _ _ _ ho2 hf (by omega) (fun x o3 ho3 hx => ?_) (fun x hx => ?_)
            · obtain ⟨i, hi, rfl⟩ := mem_refs ((List.mem_filter.mp hx).1)
              obtain ⟨r, er, hrl, -, -, -⟩ := opens_eq (o' := o') (nl := .lst (ns.map .int)) (h := h) hr hR hi
              have e3 : (o3 :: Ob.lst ((ns.eraseIdx d).map .int) :: R)[2 + i]? = some (.lst (r.map .int)) := by
                rw [show 2 + i = i + 1 + 1 from by omega]
                simpa using er
              have e4 : (o3 :: Ob.lst ((ns.eraseIdx d).map .int) :: R).set (2 + i) (.lst (r.map .int ++ [.int b])) = o3 :: Ob.lst ((ns.eraseIdx d).map .int) :: R.set i (.lst (r.map .int ++ [.int b])) := by
                rw [show 2 + i = i + 1 + 1 from by omega]
                rfl
              simp [e3, hz, e4]
              refine ⟨by omega, o3, ns.eraseIdx d, _, _, _, _, ho3, rfl, by simpa using hR, by omega, by omega, fun z mz => ?_, rfl⟩
              rcases List.mem_or_eq_of_mem_set mz with mz | rfl
              · obtain ⟨q, rfl, hq⟩ := hr z mz
                exact ⟨q, rfl, by omega⟩
              · exact ⟨r ++ [b], by simp, by simp; omega⟩
            · obtain ⟨i, hi, rfl⟩ := mem_refs ((List.mem_filter.mp hx).1)
              simp
              omega
          · rw [if_neg (by simpa using hf)]
            exact stop _ _
        · rw [if_neg hn]
          exact stop _ _
    · rintro x xs acc S ⟨rfl, e, e2⟩
      refine ⟨_, rfl, ?_⟩
      simp at e2
      simp [hz]
      refine ⟨by omega, ?_, ?_, ?_⟩
      · rw [List.length_append, List.length_singleton, List.replicate_succ']
      · rw [List.length_append, List.length_singleton, ← refs_succ, ← e]
        simp
        omega
      · simp
        omega
    · refine ⟨rfl, rfl, by simp⟩
  · rintro x xs ρ S ⟨o', a, kk, ns, ho', rfl, hl, rfl⟩
    refine ⟨_, rfl, ?_⟩
    simp [hz, yE] at hl ⊢
    refine draw_sat (n + 2) _ _ _ ho' (by omega) (by omega) fun d o2 ho2 d2 => ?_
    obtain ⟨x, hm, e⟩ := get_of (xs := [Val.int 1, .int 3]) (d := d) (by simp; omega)
    simp [e]
    have : ∃ m : Int, x = .int m ∧ 0 < m ∧ m < 4 := by
      simp at hm
      rcases hm with rfl | rfl
      · exact ⟨_, rfl, by omega, by omega⟩
      · exact ⟨_, rfl, by omega, by omega⟩
    obtain ⟨m, rfl, m0, m1⟩ := this
    refine draw_sat (n + 2) _ _ _ ho2 (by omega) (by omega) fun d3 o3 ho3 d3' => ?_
    simp
    refine ⟨by omega, o3, _, _, ns ++ [a + 1 + d3], ho3, by simp, by simp; omega, rfl⟩
  · exact ⟨o1, 0, none, [], ho1, rfl, by simp; omega, rfl⟩
end TL
namespace TL
open PySem TW
/-! ### what a yard is -/
def boxOk : Val → Bool
  | .int i => decide (1 ≤ i)
  | _ => false
def stackOk (h : Int) : Val → Bool
  | .tup bs => decide ((bs.length : Int) ≤ h) && bs.all boxOk
  | _ => false
def itemsOf : Val → List Val
  | .tup bs => bs
  | _ => []
def intOf : Val → Int
  | .int i => i
  | _ => 0
def boxesOf (st : List Val) : List Int := (st.flatMap itemsOf).map intOf
def yardOk (v : Val) (h : Int) : Bool := match v with
  | .tup st => decide (1 ≤ st.length) && (decide (st.length ≤ 6) && (st.all (stackOk h) && decide (boxesOf st).Nodup))
  | _ => false
theorem isint_eq (n : Nat) (v : Val) (S : Sto) (h : v.plain = true) : callN defs (n + 1) "is_integer" [v] S = .ok (.bl (match v with | .int _ => true | _ => false)) S := by
  rw [cn_is_integer]
  cases v <;> simp [Val.plain] at h <;> simp [b_is_integer]
theorem distinct_len : ∀ (ns acc : List Int), acc.length ≤ (ns.foldl addNew acc).length ∧ (ns.foldl addNew acc).length ≤ acc.length + ns.length ∧ ((ns.foldl addNew acc).length = acc.length + ns.length ↔ ns.Nodup ∧ ∀ n ∈ ns, n ∉ acc)
  | [], acc => by simp
  | n :: ns, acc => by
    rw [List.foldl_cons]
    obtain ⟨h1, h2, h3⟩ := distinct_len ns (addNew acc n)
    by_cases hn : n ∈ acc
    · have e : addNew acc n = acc := by simp [addNew, hn]
      rw [e] at h1 h2 h3 ⊢
      refine ⟨h1, by rw [List.length_cons]; omega, ⟨fun z => by rw [List.length_cons] at z; omega, fun z => absurd hn (z.2 n (.head _))⟩⟩
    · have e : addNew acc n = acc ++ [n] := by simp [addNew, hn]
      have el : (acc ++ [n]).length = acc.length + 1 := by simp
      rw [e] at h1 h2 h3 ⊢
      rw [el] at h1 h2 h3
      refine ⟨by omega, by rw [List.length_cons]; omega, ?_⟩
      rw [List.length_cons, show acc.length + (ns.length + 1) = acc.length + 1 + ns.length from by omega, h3, List.nodup_cons]
      constructor
      · rintro ⟨a, b⟩
        refine ⟨⟨fun m => (b n m) (by simp), a⟩, fun x m => ?_⟩
        rcases List.mem_cons.mp m with rfl | m
        · exact hn
        · exact fun z => b x m (by simp [z])
      · rintro ⟨⟨a, b⟩, c⟩
        refine ⟨b, fun x m z => ?_⟩
        rcases List.mem_append.mp z with z | z
        · exact c x (.tail _ m) z
        · rw [List.mem_singleton.mp z] at m
          exact a m
theorem distinct_iff (ns : List Int) : (distinct ns).length = ns.length ↔ ns.Nodup := by
  obtain ⟨-, -, h⟩ := distinct_len ns []
  simpa [distinct] using h
theorem stack_eq (n : Nat) (v : Val) (h : Int) (S : Sto) (hv : Gd 1000000 200 v) : callN defs (n + 2) "is_stack" [v, .int h] S = .ok (.bl (stackOk h v)) S := by
  have hz : sizeLine = 16777216 := rfl
  rw [cn_is_stack]
  cases v with
  | tup xs =>
    obtain ⟨h1, h2, h3⟩ := hv.ofTup
    simp [b_is_stack, stackOk]
    by_cases hl : h < xs.length
    · have : ¬ (xs.length : Int) ≤ h := by omega
      simp [hl, this]
    · have : (xs.length : Int) ≤ h := by omega
      simp [hl, this]
      rw [compL_all (fun x => .bl (boxOk x)) xs [] ?h (by simp [hz]; omega)]
      · have e : ∀ ys : List Val, bools (ys.map fun x => Val.bl (boxOk x)) = some (ys.map boxOk) := fun ys => by
          induction ys with
          | nil => rfl
          | cons y ys ih => simp [bools, ih]
        simp [allV, asL, e]
      · intro x m
        refine ⟨_, rfl, by simp, ?_⟩
        simp
        rw [isint_eq _ _ _ (plain_dat (h3 x m).dat)]
        have := (h3 x m).dat
        cases x <;> simp [Val.dat] at this <;> simp [boxOk]
  | dct kvs => exact absurd hv.dat (by simp [Val.dat])
  | ref k => exact absurd hv.dat (by simp [Val.dat])
  | exc k a => exact absurd hv.dat (by simp [Val.dat])
  | scr k => exact absurd hv.dat (by simp [Val.dat])
  | non => simp [b_is_stack, stackOk]
  | bl b => simp [b_is_stack, stackOk]
  | int i => simp [b_is_stack, stackOk]
  | lst xs => simp [b_is_stack, stackOk]
  | str s => simp [b_is_stack, stackOk]
def TriV (v : Val) : Prop := Gd 1000000 110 v ∨ v = .dct [] ∨ v = .dct [(.str "a", .int 1)]
theorem OddV.tri {v : Val} (h : OddV v) : TriV v := h.imp (fun h => h.mono (by omega) (by omega)) id
theorem comp1_all {g : Tg} {e : Ex} {ρ : TW.Env} {go : List Val → Sto → Res Val} {S : Sto} : ∀ (xs acc : List Val), (∀ x ∈ xs, ∃ ρ', g x ρ = some ρ' ∧ e ρ' S = .ok x S) → acc.length + xs.length ≤ sizeLine → comp1L g tYes e ρ go xs acc S = go (acc ++ xs) S
  | [], acc, _, _ => by simp [comp1L]
  | x :: xs, acc, h, hs => by
    obtain ⟨ρ', e1, e2⟩ := h x (.head _)
    rw [List.length_cons] at hs
    show (match g x ρ with
      | some ρ' => compK acc tYes e ρ' S (comp1L g tYes e ρ go xs)
      | none => .bad) = _
    rw [e1]
    show compK acc tYes e ρ' S (comp1L g tYes e ρ go xs) = _
    unfold compK
    rw [r_tYes, bnx_ok, if_pos rfl, e2, bnx_ok, if_pos (by omega), comp1_all xs _ (fun y m => h y (.tail _ m)) (by simp; omega)]
    simp
theorem boxes_len {h : Int} (hh : h ≤ 9) : ∀ (st : List Val), st.all (stackOk h) = true → (st.flatMap itemsOf).length ≤ 9 * st.length
  | [], _ => by simp
  | x :: st, a => by
    simp only [List.all_cons, Bool.and_eq_true] at a
    have ih := boxes_len hh st a.2
    have b := a.1
    cases x <;> simp [stackOk] at b
    simp [itemsOf] at ih ⊢
    omega
theorem boxes_ints {h : Int} : ∀ (st : List Val), st.all (stackOk h) = true → st.flatMap itemsOf = (boxesOf st).map .int
  | [], _ => by simp [boxesOf]
  | x :: st, a => by
    simp only [List.all_cons, Bool.and_eq_true] at a
    have ih := boxes_ints st a.2
    have b := a.1
    cases x <;> simp [stackOk] at b
    rename_i bs
    have e : ∀ (bs : List Val), (∀ x ∈ bs, boxOk x = true) → bs.map (fun x => Val.int (intOf x)) = bs := fun bs => by
      induction bs with
      | nil => simp
      | cons y bs ih =>
        intro hb
        have hy := hb y (.head _)
        rw [List.map_cons, ih fun x m => hb x (.tail _ m)]
        cases y <;> simp [boxOk] at hy <;> rfl
    unfold boxesOf at ih ⊢
    rw [List.flatMap_cons, List.map_append, List.map_append, ← ih]
    show bs ++ _ = (bs.map intOf).map Val.int ++ _
    rw [List.map_map]
    rw [show List.map (Val.int ∘ intOf) bs = bs from e bs b.2]
theorem comp2_boxes {v : Val} {S : Sto} : ∀ (st acc : List Val), (∀ x ∈ st, ∃ bs, x = .tup bs) → acc.length + (st.flatMap itemsOf).length ≤ sizeLine →
    comp2L finL (gName 1) tYes (iSeq (eVar 1)) [2] (gName 2) tYes (eVar 2) [some v, none, none] st acc S = .ok (.lst (acc ++ st.flatMap itemsOf)) S
  | [], acc, _, _ => by simp [comp2L]
  | x :: st, acc, h, hs => by
    obtain ⟨bs, rfl⟩ := h x (.head _)
    simp [itemsOf] at hs
    simp [comp2L, itemsOf]
    rw [comp1_all bs acc ?h1 (by omega)]
    · rw [comp2_boxes st _ (fun x m => h x (.tail _ m)) ?h2]
      · simp
      · simp [itemsOf]
        omega
    · intro x m
      exact ⟨_, rfl, by simp⟩
theorem ints_of (ns : List Int) : toInts (ns.map Val.int) = some ns := by
  induction ns with
  | nil => rfl
  | cons n ns ih => simp [toInts, ih]
theorem stack_tup {h : Int} {x : Val} (e : stackOk h x = true) : ∃ bs, x = .tup bs := by
  cases x <;> simp [stackOk] at e
  exact ⟨_, rfl⟩
theorem isyard_eq (n : Nat) (v : Val) (h : Int) (S : Sto) (hv : TriV v) (hh : h ≤ 9) : callN defs (n + 4) "is_yard" [v, .int h] S = .ok (.bl (yardOk v h)) S := by
  have hz : sizeLine = 16777216 := rfl
  rw [cn_is_yard]
  have no : ∀ x : Val, x.plain = true → x.isT .tuple = false → yardOk x h = false ∧ finish false S.length (b_is_yard (callN defs (n + 3)) [some x, some (.int h), none, none] S) = .ok (.bl false) S := fun x hx ht => by
    constructor
    · cases x <;> first | rfl | simp at ht
    · simp [b_is_yard, hx, ht]
  have no' : ∀ x : Val, x.plain = true → x.isT .tuple = false → finish false S.length (b_is_yard (callN defs (n + 3)) [some x, some (.int h), none, none] S) = .ok (.bl (yardOk x h)) S := fun x hx ht => by rw [(no x hx ht).2, (no x hx ht).1]
  rcases hv with hv | rfl | rfl
  · cases v with
    | tup xs =>
      obtain ⟨h1, h2, h3⟩ := hv.ofTup
      simp [b_is_yard, yardOk, k_MOST_STACKS]
      by_cases l1 : 1 ≤ xs.length
      · by_cases l2 : xs.length ≤ 6
        · have l1' : (1 : Int) ≤ xs.length := by omega
          have l2' : (xs.length : Int) ≤ 6 := by omega
          simp [l1, l2, l1', l2']
          rw [compL_all (fun x => .bl (stackOk h x)) xs [] ?h (by simp [hz]; omega)]
          · have e : ∀ ys : List Val, bools (ys.map fun x => Val.bl (stackOk h x)) = some (ys.map (stackOk h)) := fun ys => by
              induction ys with
              | nil => rfl
              | cons y ys ih => simp [bools, ih]
            simp [allV, asL, e]
            by_cases ok : xs.all (stackOk h) = true
            · have ok' : ∀ x ∈ xs, stackOk h x = true := List.all_eq_true.mp ok
              have l3 := boxes_len hh xs ok
              have e4 : callN defs (n + 3) "boxes_in" [.tup xs] S = .ok (.lst ((boxesOf xs).map .int)) S := by
                rw [cn_boxes_in]
                simp [b_boxes_in]
                rw [comp2_boxes xs [] (fun x m => stack_tup (ok' x m)) (by simp only [hz, List.length_nil]; omega)]
                rw [List.nil_append, boxes_ints xs ok]
                simp
                rw [finV_und]
                · simp
                · rw [und_lst, unds_iff]
                  intro x m
                  rw [List.mem_map] at m
                  obtain ⟨i, -, rfl⟩ := m
                  rfl
              have l4 : (boxesOf xs).length ≤ 4000 := by
                have := congrArg List.length (boxes_ints xs ok)
                rw [List.length_map] at this
                omega
              have bad : ¬ ∃ x, x ∈ xs ∧ stackOk h x = false := fun ⟨x, m, z⟩ => by rw [ok' x m] at z; cases z
              rw [if_neg bad, ok]
              simp [e4, lenSetV, asL, ints_of, l4]
              have := distinct_iff (boxesOf xs)
              by_cases nd : (boxesOf xs).Nodup
              · rw [decide_eq_true nd, beq_iff_eq, this.mpr nd]
              · rw [decide_eq_false nd, beq_eq_false_iff_ne]
                intro z
                exact nd (this.mp (by omega))
            · have bad : ∃ x, x ∈ xs ∧ stackOk h x = false := by simpa using ok
              rw [if_pos bad]
              simp [ok]
          · intro x m
            refine ⟨_, rfl, by simp, ?_⟩
            simp
            exact stack_eq _ _ _ _ ((h3 x m).mono (by omega) (by omega))
        · have l2' : ¬ (xs.length : Int) ≤ 6 := by omega
          have l1' : (1 : Int) ≤ xs.length := by omega
          simp [l2, l2', l1']
      · have l1' : ¬ (1 : Int) ≤ xs.length := by omega
        simp [l1, l1']
    | dct kvs => exact absurd hv.dat (by simp [Val.dat])
    | ref k => exact absurd hv.dat (by simp [Val.dat])
    | exc k a => exact absurd hv.dat (by simp [Val.dat])
    | scr k => exact absurd hv.dat (by simp [Val.dat])
    | non => exact no' _ rfl rfl
    | bl b => exact no' _ rfl rfl
    | int i => exact no' _ rfl rfl
    | lst xs => exact no' _ rfl rfl
    | str s => exact no' _ rfl rfl
  · exact no' _ rfl rfl
  · exact no' _ rfl rfl
end TL
namespace TL
open PySem TW
def bI (v : Val) (h : Int) (S : Sto) (rest : List Val) (ρ : TW.Env) (S' : Sto) : Prop := ∃ (seen : List Int) (k1 k2 : Option Val), S' = S ++ [.lst (seen.map .int)] ∧ ρ = [some v, some (.int h), some (.ref S.length), k1, k2] ∧ seen.Nodup ∧
  seen.length + 10 * rest.length ≤ 60 ∧ (∀ x ∈ rest, Gd 1000000 109 x) ∧ yardOk v h = (rest.all (stackOk h) && decide (seen ++ boxesOf rest).Nodup)
def bJ (v : Val) (h : Int) (S : Sto) (rest : List Val) (k1 : Option Val) (bs : List Val) (ρ : TW.Env) (S' : Sto) : Prop := ∃ (seen : List Int) (k2 : Option Val), S' = S ++ [.lst (seen.map .int)] ∧ ρ = [some v, some (.int h), some (.ref S.length), k1, k2] ∧ seen.Nodup ∧
  seen.length + bs.length + 10 * rest.length ≤ 60 ∧ (∀ x ∈ rest, Gd 1000000 109 x) ∧ (∀ x ∈ bs, Gd 1000000 108 x) ∧
  yardOk v h = (bs.all boxOk && rest.all (stackOk h) && decide (seen ++ (bs.map intOf ++ boxesOf rest)).Nodup)
theorem boxesOf_cons (bs : List Val) (st : List Val) : boxesOf (.tup bs :: st) = bs.map intOf ++ boxesOf st := by simp [boxesOf, itemsOf]
theorem any_int (i : Int) (seen : List Int) : (seen.map Val.int).any (fun z => z.eqv (.int i)) = decide (i ∈ seen) := by
  induction seen with
  | nil => simp
  | cons s seen ih =>
    rw [List.map_cons, List.any_cons, ih]
    by_cases e : s = i
    · subst e
      simp [Val.eqv]
    · have e' : ¬ i = s := fun z => e z.symm
      simp [Val.eqv, e, e']
theorem dats_int (seen : List Int) : Val.dats (seen.map Val.int) = true := dats_iff.mpr fun x m => by
  rw [List.mem_map] at m
  obtain ⟨i, -, rfl⟩ := m
  rfl
theorem depths_int (seen : List Int) : Val.depths (seen.map Val.int) = 0 := Nat.le_zero.mp (depths_iff.mpr fun x m => by
  rw [List.mem_map] at m
  obtain ⟨i, -, rfl⟩ := m
  exact Nat.le_refl _)
theorem lawyard_eq (n : Nat) (v : Val) (h : Int) (S : Sto) (hv : TriV v) (hh : h ≤ 9) : callN defs (n + 4) "_law_is_yard" [v, .int h] S = .ok (.bl (yardOk v h)) S := by
  have hz : sizeLine = 16777216 := rfl
  have main : (callN defs (n + 4) "_law_is_yard" [v, .int h] S).sat fun w S' => w = .bl (yardOk v h) ∧ S' = S := by
    rw [cn__law_is_yard, sat_fin]
    have no : ∀ x : Val, x.plain = true → x.isT .tuple = false → yardOk x h = false := fun x hx ht => by cases x <;> first | rfl | simp at ht
    have no' : ∀ x : Val, x.plain = true → x.isT .tuple = false → (b__law_is_yard (callN defs (n + 3)) [some x, some (.int h), none, none, none] S).sat { nx := fun _ S' => Val.non = .bl (yardOk x h) ∧ S'.take S.length = S, rt := fun w S' => (finV false S.length w S').sat fun w S' => w = .bl (yardOk x h) ∧ S' = S } := fun x hx ht => by
      rw [no x hx ht]
      simp [b__law_is_yard, hx, ht]
    rcases hv with hv | rfl | rfl
    · cases v with
      | tup xs =>
        obtain ⟨h1, h2, h3⟩ := hv.ofTup
        by_cases l1 : 1 ≤ xs.length
        · by_cases l2 : xs.length ≤ 6
          · have l1' : ¬ (xs.length : Int) < 1 := by omega
            have l2' : ¬ (6 : Int) < xs.length := by omega
            simp [b__law_is_yard, hz, l1', l2']
            refine forL_sat (bI (.tup xs) h S) ?_ ?_ _ _ _ ?_
            · rintro ρ S' ⟨seen, k1, k2, rfl, rfl, nd, hl, hg, e⟩
              simp [boxesOf, nd] at e
              simp [e]
            · rintro x rest ρ S' ⟨seen, k1, k2, rfl, rfl, nd, hl, hg, e⟩
              refine ⟨_, rfl, ?_⟩
              have hx := hg x (.head _)
              have hg' : ∀ x ∈ rest, Gd 1000000 109 x := fun y m => hg y (.tail _ m)
              rw [List.length_cons] at hl
              by_cases ht : x.isT .tuple = true
              · cases x <;> simp [Val.isT] at ht
                rename_i bs
                obtain ⟨g1, g2, g3⟩ := hx.ofTup
                by_cases lh : h < bs.length
                · have e1 : stackOk h (.tup bs) = false := by
                    have : ¬ (bs.length : Int) ≤ h := by omega
                    simp [stackOk, this]
                  simp [e1] at e
                  simp [lh, e]
                · have lh' : (bs.length : Int) ≤ h := by omega
                  simp [lh]
                  refine forL_sat (bJ (.tup xs) h S rest (some (.tup bs))) ?_ ?_ _ _ _ ?_
                  · rintro ρ S' ⟨seen, k2, rfl, rfl, nd, hl, hg, hb, e⟩
                    exact ⟨seen, _, _, rfl, rfl, nd, by simp at hl; omega, hg, by simpa using e⟩
                  · rintro b bs' ρ S' ⟨seen, k2, rfl, rfl, nd, hl, hg, hb, e⟩
                    refine ⟨_, rfl, ?_⟩
                    rw [List.length_cons] at hl
                    have hbd := hb b (.head _)
                    simp
                    rw [lawint_eq _ _ _ (plain_dat hbd.dat)]
                    by_cases hi : boxOk b = true
                    · cases b <;> simp [boxOk] at hi
                      rename_i i
                      have hi' : ¬ i < 1 := by omega
                      have ein : inV (.int i) (.ref S.length) (S ++ [.lst (seen.map .int)]) = .ok (.bl (decide (i ∈ seen))) (S ++ [.lst (seen.map .int)]) := by
                        have e1 : inB (.int i) (.ref S.length) (S ++ [.lst (seen.map .int)]) = .ok (decide (i ∈ seen)) (S ++ [.lst (seen.map .int)]) := by
                          unfold inB
                          simp only [asQ, asL, get_last]
                          rw [if_pos (by simp [Val.dat, dats_int, depths_int]), any_int]
                        simp [inV, e1]
                      simp [hi', ein]
                      by_cases hm : i ∈ seen
                      · have e2 : ¬ (seen ++ (List.map intOf (.int i :: bs') ++ boxesOf rest)).Nodup := fun z => by
                          have := (List.nodup_append.mp z).2.2 i hm i (by simp [intOf])
                          exact this rfl
                        rw [decide_eq_false e2] at e
                        simp at e
                        simp [hm, e]
                      · simp [hm]
                        refine ⟨by omega, seen ++ [i], some (.int i), by simp, rfl, ?_, by simp; omega, hg, fun y m => hb y (.tail _ m), ?_⟩
                        · rw [List.nodup_append]
                          exact ⟨nd, by simp, fun a ha b hb => by simp at hb; subst hb; exact fun z => hm (z ▸ ha)⟩
                        · rw [e]
                          simp [boxOk, hi, intOf]
                    · have e1 : boxOk b = false := by simpa using hi
                      simp [e1] at e
                      cases b with
                      | int i =>
                        simp [boxOk] at hi
                        have hi' : i < 1 := by omega
                        simp [hi', e]
                      | _ => simp [e]
                  · refine ⟨seen, k2, rfl, rfl, nd, by omega, hg', g3, ?_⟩
                    rw [e]
                    simp [stackOk, lh', boxesOf_cons]
              · have ht' : x.isT .tuple = false := by simpa using ht
                have e1 : stackOk h x = false := by cases x <;> first | rfl | simp at ht'
                simp [e1] at e
                simp [plain_dat hx.dat, ht', e]
            · exact ⟨[], none, none, rfl, rfl, by simp, by simp; omega, h3, by simp [yardOk, l1, l2]⟩
          · have l2' : (6 : Int) < xs.length := by omega
            have e : yardOk (.tup xs) h = false := by simp [yardOk, l2]
            by_cases l3 : (xs.length : Int) < 1
            · omega
            · simp [b__law_is_yard, e, l2', l3]
        · have l1' : (xs.length : Int) < 1 := by omega
          have e : yardOk (.tup xs) h = false := by simp [yardOk, l1]
          simp [b__law_is_yard, e, l1']
      | dct kvs => exact absurd hv.dat (by simp [Val.dat])
      | ref k => exact absurd hv.dat (by simp [Val.dat])
      | exc k a => exact absurd hv.dat (by simp [Val.dat])
      | scr k => exact absurd hv.dat (by simp [Val.dat])
      | non => exact no' _ rfl rfl
      | bl b => exact no' _ rfl rfl
      | int i => exact no' _ rfl rfl
      | lst xs => exact no' _ rfl rfl
      | str s => exact no' _ rfl rfl
    · exact no' _ rfl rfl
    · exact no' _ rfl rfl
  obtain ⟨w, S', e, rfl, rfl⟩ := main.eq
  exact e
end TL
namespace TL
open PySem TW
theorem copied_tri (n : Nat) (v : Val) (S : Sto) (h : TriV v) (hn : 112 ≤ n) : ∃ c, Gd 1000000 110 c ∧ callN defs n "_law_copied" [v] S = .ok c S := by
  have hz : sizeLine = 16777216 := rfl
  rcases h with h | h
  · exact ⟨v, h, copied_eq n v S (h.mono (by omega) (by omega)) (by omega)⟩
  · obtain ⟨c, hc, e⟩ := copied_odd n v S (.inr h) (by omega)
    exact ⟨c, hc.mono (by omega) (by omega), e⟩
theorem kept_eq (n : Nat) (v : Val) (h : Int) (S : Sto) (hv : TriV v) (hh : h ≤ 9) (hn : 112 ≤ n) : callN defs (n + 2) "_law_kept_is_yard" [v, .int h] S = .ok (.bl (yardOk v h)) S := by
  have hz : sizeLine = 16777216 := rfl
  obtain ⟨c, hc, e⟩ := copied_tri n v S hv hn
  have e2 : callN defs n "_law_copied" [.int h] S = .ok (.int h) S := copied_eq n _ S (.int _) (by omega)
  have g : Gd 1000000 111 (.lst [c, .int h]) := .lst (fun x m => by
    simp at m
    rcases m with rfl | rfl
    · exact hc
    · exact .int _) (by simp)
  have e3 : callN defs (n + 1) "_law_copied" [.lst [v, .int h]] S = .ok (.lst [c, .int h]) S := by
    rw [cn__law_copied]
    simp [b__law_copied, compL, compK, e, e2, hz, finV_dat g.dat]
  have e4 : callN defs (n + 1) "is_yard" [v, .int h] S = .ok (.bl (yardOk v h)) S := by
    obtain ⟨m, rfl⟩ : ∃ m, n = m + 3 := ⟨n - 3, by omega⟩
    exact isyard_eq m v h S hv hh
  have e5 : eqV (.lst [c, .int h]) (.lst [c, .int h]) S = .ok (.bl true) S := by
    have := g.depth
    rw [v_eqD S g.dat g.dat (by omega), eqv_refl _ g.dat]
  rw [cn__law_kept_is_yard]
  simp [b__law_kept_is_yard, hz, e3, e4, e5]
theorem lawone (n : Nat) (v : Val) (h : Int) (S : Sto) (hv : TriV v) (hh : h ≤ 9) (hn : 114 ≤ n) : callN defs n "_law_is_yard" [v, .int h] S = .ok (.bl (yardOk v h)) S ∧ callN defs n "_law_kept_is_yard" [v, .int h] S = .ok (.bl (yardOk v h)) S ∧
    callN defs n "_law_same" [.bl (yardOk v h), .bl (yardOk v h)] S = .ok (.bl true) S := by
  obtain ⟨m, rfl⟩ : ∃ m, n = m + 4 := ⟨n - 4, by omega⟩
  exact ⟨lawyard_eq m v h S hv hh, kept_eq (m + 2) v h S hv hh (by omega), same_refl _ _ _ (.bl _) (by omega)⟩
def lE (q0 q1 q3 q4 q5 : Option Val) (h : Int) (q6 q7 q8 : Option Val) : TW.Env := [q0, q1, some (.int h), q3, q4, q5, q6, q7, q8, none]
def lI (q0 q1 q3 q4 q5 : Option Val) (h : Int) (rest : List Val) (ρ : TW.Env) (S : Sto) : Prop := ∃ q6 q7 q8, ρ = lE q0 q1 q3 q4 q5 h q6 q7 q8 ∧ ∀ x ∈ rest, TriV x
def lB (rest acc : List Val) (S : Sto) : Prop := ∃ o, PoolOb o ∧ S = [o] ∧ (∀ w ∈ acc, Gd 15 3 w) ∧ acc.length + rest.length = 12
theorem tup_tri {xs : List Val} (h : ∀ x ∈ xs, Gd 1000 100 x) (hl : xs.length ≤ 1000) : TriV (.tup xs) := .inl ((Gd.tup h hl).mono (by omega) (by omega))
theorem hlaw (ns : List Int) (hn : ns.length ≤ 63) : ∃ S', callN defs fuel "law" [.scr ns] [] = .ok (.bl true) S' := by
  have hz : sizeLine = 16777216 := rfl
  suffices main : (callN defs fuel "law" [.scr ns] []).sat fun v _ => v = .bl true by
    obtain ⟨v, S', e, rfl⟩ := main.eq
    exact ⟨S', e⟩
  show (callN defs (129 + 1) "law" [.scr ns] []).sat _
  rw [cn_law, sat_fin]
  simp [b_law, hz]
  refine pool_sat 128 ns fun o1 h1 => ?_
  refine draw_sat 127 _ _ _ h1 (by omega) (by omega) fun d o2 h2 hd => ?_
  simp
  refine draw_sat 127 _ _ _ h2 (by omega) (by omega) fun t o3 h3 ht => ?_
  simp
  refine yard_sat 124 (1 + t) (1 + d) o3 h3 (by omega) (by omega) fun v o4 h4 gv hv => ?_
  obtain ⟨xs, rfl⟩ := hv
  obtain ⟨g1, g2, g3⟩ := gv.ofTup
  obtain ⟨a1, ga1, e1⟩ := listed_ex 14 (by omega) 2 129 (.tup xs) 1 [o4] gv (by omega)
  obtain ⟨a2, ga2, e2⟩ := booled_ex 14 (by omega) 2 129 (.tup xs) [o4] gv (by omega)
  refine ⟨by omega, ?_⟩
  simp [e1, e2]
  refine ⟨by omega, by omega, ?_⟩
  simp [powV]
  refine odd_sat 128 [o4] fun od lo ho => ?_
  simp [lo, hz]
  refine compL_sat lB ?_ ?_ _ _ _ ?_
  · rintro acc S ⟨o5, h5, rfl, hw, hl⟩
    simp at hl
    simp [hl, lo]
    refine ⟨by rw [hz]; omega, ?_⟩
    refine forL_sat (lI _ _ _ _ _ (1 + d)) ?_ ?_ _ _ _ ⟨_, _, _, rfl, ?_⟩
    · rintro ρ S ⟨q6, q7, q8, rfl, -⟩
      simp [lE]
    · rintro x rest ρ S ⟨q6, q7, q8, rfl, hx⟩
      refine ⟨_, rfl, ?_⟩
      have tx := hx x (.head _)
      obtain ⟨b1, b2, b3⟩ := lawone 129 x (1 + d) S tx (by omega) (by omega)
      obtain ⟨c1, c2, c3⟩ := lawone 129 x 1 S tx (by omega) (by omega)
      obtain ⟨d1, d2, d3⟩ := lawone 129 x 9 S tx (by omega) (by omega)
      simp [lE, hz, forL, b1, b2, b3, c1, c2, c3, d1, d2, d3]
      exact ⟨_, _, _, rfl, fun y m => hx y (.tail _ m)⟩
    · have it : ∀ i : Int, Gd 1000 100 (.int i) := fun i => .int i
      have small : ∀ ys : List Val, (∀ y ∈ ys, ∃ i, y = Val.int i) → ys.length ≤ 100 → Gd 1000 100 (.tup ys) := fun ys h hl => ((Gd.tup (L := 1000) (d := 0) (fun y m => by
        obtain ⟨i, rfl⟩ := h y m
        exact .int i) (by omega)).mono (Nat.le_refl _) (by omega))
      have row : ∀ y ∈ rowI 1 (1 + (d : Int)).toNat, ∃ i, y = Val.int i := fun y m => by
        obtain ⟨i, -, rfl⟩ := mem_rowI m
        exact ⟨_, rfl⟩
      intro x m
      simp only [List.mem_append, List.mem_cons] at m
      have cl : ∀ v : Val, (v.dat && (v.small 1000 && decide (v.depth ≤ 100))) = true → TriV v := fun v h => by
        simp only [Bool.and_eq_true, decide_eq_true_eq] at h
        exact .inl ((Gd.mk h.1 h.2.1 h.2.2).mono (by omega) (by omega))
      rcases m with rfl | rfl | rfl | rfl | rfl | rfl | rfl | rfl | rfl | rfl | rfl | rfl | rfl | rfl | rfl | rfl | rfl | rfl | rfl | m | m
      · exact .inl (gv.mono (by omega) (by omega))
      · exact .inl ((Gd.lst g3 g1).mono (by omega) (by omega))
      · exact .inl (ga1.mono (by omega) (by omega))
      · exact .inl (ga2.mono (by omega) (by omega))
      · refine tup_tri (fun y my => ?_) (by simp)
        rw [List.mem_singleton.mp my]
        exact small _ row (by simp; omega)
      · refine tup_tri (fun y my => ?_) (by simp)
        rw [List.mem_singleton.mp my]
        refine small _ (fun z mz => ?_) (by simp; omega)
        rcases List.mem_append.mp mz with mz | mz
        · exact row z mz
        · exact ⟨_, List.mem_singleton.mp mz⟩
      · exact cl _ (by decide +kernel)
      · exact cl _ (by decide +kernel)
      · exact cl _ (by decide +kernel)
      · exact cl _ (by decide +kernel)
      · exact cl _ (by decide +kernel)
      · exact cl _ (by decide +kernel)
      · exact cl _ (by decide +kernel)
      · exact cl _ (by decide +kernel)
      · exact cl _ (by decide +kernel)
      · refine tup_tri (fun y my => ?_) (by simp; omega)
        rcases List.mem_append.mp my with my | my
        · exact (g3 y my).mono (by omega) (by omega)
        · rw [List.mem_singleton.mp my]
          exact (Gd.tup (L := 1000) (d := 0) (by simp) (by simp)).mono (by omega) (by omega)
      · exact cl _ (by decide +kernel)
      · exact cl _ (by decide +kernel)
      · exact cl _ (by decide +kernel)
      · exact (ho x m).tri
      · exact .inl ((hw x m).mono (by omega) (by omega))
  · rintro x rest acc S ⟨o5, h5, rfl, hw, hl⟩
    refine ⟨_, rfl, ?_⟩
    simp
    refine bent_sat 14 (by omega) (by omega) 2 129 (.tup xs) o5 [] _ h5 gv (by omega) fun w o6 h6 gw => ?_
    rw [List.length_cons] at hl
    refine ⟨by omega, o6, h6, rfl, fun z mz => ?_, by simp; omega⟩
    rcases List.mem_append.mp mz with mz | mz
    · exact hw z mz
    · rw [List.mem_singleton.mp mz]; exact gw
  · exact ⟨o4, h4, rfl, by simp, by simp⟩
end TL
open PySem PySem.W PySem.Calls PyProof.Rows
theorem PySem.Challenge.cw_tidewarden_k23_yards_told_holds : PySem.Challenge.rw_tidewarden_k23_yards_told.Holds := by
  w_on; o_law
  refine HandSHeadRun.head_any (r := OpenLaw.row PySem.Challenge.rw_tidewarden_k23_yards_told) (q := view (OpenLaw.row PySem.Challenge.rw_tidewarden_k23_yards_told).prog [22]) (H := TL.hk0) (ob := TL.ob0) (M := 6000) (loose := TL.looseN) (d := HandSHeadRun.topDef (OpenLaw.row PySem.Challenge.rw_tidewarden_k23_yards_told).prog 22) (kwd := []) TL.ob0_eq
    (by kernel_rfl) (fun s => by kernel_rfl) TL.run0 (by kernel_rfl) (by kernel_rfl) (by kernel_rfl) (by rfl) (by first | assumption | decide +kernel) (by decide +kernel) ⟨rfl, rfl, rfl, rfl, rfl, by decide +kernel⟩ ?hw ?hc
  case hw => w_witness2
  case hc =>
    refine L2.walk_ofE (l := PySem.Challenge.rw_tidewarden_k23_yards_told) (n := 63) (k := TL.fuel) (x := "script") (CX := L2.CX0) rfl (by decide) (by kernel_rfl) ⟨rfl, by decide, by decide⟩ ?F (fun _ _ _ _ z => z)
    intro w mg fa h Y G hmg0
    obtain ⟨K, KX, c⟩ := Y
    have hmg : mg ("law" : PySem.Str) = some (.ref fa) := by
      have e : (HandSHeadRun.topDef (OpenLaw.row PySem.Challenge.rw_tidewarden_k23_yards_told).prog 22).name = ("law" : PySem.Str) := by kernel_rfl
      rw [← e]
      exact hmg0
    obtain ⟨fd, hb, hF⟩ := TL.lawFn (P := (PySem.Challenge.rw_tidewarden_k23_yards_told).prog) (w := w) KX G hmg c
    exact ⟨K, fd, _, KX, hb, fun H a ns hl _ hS => TW.law_spec TL.hlaw H a ns hl hS, hF⟩
