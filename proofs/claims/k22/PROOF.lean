import PyProof.Rows.All
import HandS.ForMost
import HandS.TupAny
import HandS.Flow
import HandS.Deep
import HandS.Style
import HandS.Conv
import HandS.Zip
import HandS.Rev
import HandS.RaiseMore
import HandS.IsInst
import HandS.DictComp
import HandS.More
import HandS.Star
import HandS.TupLe
import HandS.Wide
import KE.SortData
import PyProof.Rows.ReprR
import PyProof.EnumMake
import KE.GoesMore
import HandS.Words
import HandS.Defaults
import HandS.HeadEnd
import HandS.TupMul
import HandS.Head0
import HandS.Head1
import HandS.Head2
import HandS.HeadHook1
import HandS.HeadHook2
import PyProof.FitsInt
import HandS.Text
import PySem.Challenge.RW_eachgame_k22_piles_and_moves_that_win
set_option Elab.async false
set_option linter.all false
set_option maxRecDepth 100000
set_option maxHeartbeats 0
/-! G1: a small semantics of our own: values, a heap of things that change, results, and one combinator for each construct. -/
namespace G
open PySem (Str PyData)

/-- a value: tuples as trees; ref n is the n-th thing of the heap; scr is the script; kt a tuple of the module's -/
inductive P where
  | non
  | bl (b : Bool)
  | int (i : Int)
  | str (x : Str)
  | tup (ps : List P)
  | scr (ps : List P)
  | kt (ps : List P)
  | ref (n : Nat)

/-- a thing that may change -/
inductive O where
  | lst (ps : List P)
  | dK (kvs : List (L2.Key × P))
  | dT (kvs : List (List L2.Key × P))
  /-- a dict that is walked -/
  | lk (kvs : List (L2.Key × P))

abbrev Hm := List O

inductive R (α : Type) where
  | ok (a : α) (m : Hm)
  | exc (c : String) (v : P) (m : Hm)
  | bad

def M (α : Type) : Type := Hm → R α

section
variable {α β : Type}
def ret (a : α) : M α := fun m => .ok a m
def bad : M α := fun _ => .bad
def bnd (x : M α) (f : α → M β) : M β := fun m => match x m with
  | .ok a m' => f a m'
  | .exc c v m' => .exc c v m'
  | .bad => .bad
/-- go on if b -/
def when_ (b : Bool) (x : M α) : M α := fun m => match b with
  | true => x m
  | false => .bad
def opt (o : Option α) : M α := fun m => match o with
  | some a => .ok a m
  | none => .bad
def getO (n : Nat) (f : O → M α) : M α := fun m => match m[n]? with
  | some o => f o m
  | none => .bad
def putO (n : Nat) (o : O) : M Unit := fun m => .ok () (m.set n o)
def newO (o : O) : M P := fun m => .ok (.ref m.length) (m ++ [o])
theorem bnd_assoc {γ : Type} (x : M α) (f : α → M β) (g : β → M γ) : bnd (bnd x f) g = bnd x fun a => bnd (f a) g := by
  funext m
  unfold bnd
  cases x m <;> rfl
theorem bnd_ret (a : α) (f : α → M β) : bnd (ret a) f = f a := rfl
end

abbrev SZ : Nat := 16777216
abbrev Env := List (Option P)
abbrev D := Env → M P
abbrev A := Env → M (List P)
abbrev T := Env → M Bool
abbrev LD := Env → M (List P)

/-! ### values as the library's data -/
def mapO {α β : Type} (g : α → Option β) : List α → Option (List β)
  | [] => some []
  | p :: ps => match g p with
    | some d => match mapO g ps with
      | some ds => some (d :: ds)
      | none => none
    | none => none
/-- the datum of a value, to a depth -/
def dat (m : Hm) : Nat → P → Option PyData
  | 0, .non => some .none
  | 0, .bl b => some (.bool b)
  | 0, .int i => some (.int i)
  | 0, .str x => some (.str x)
  | 0, _ => none
  | _ + 1, .non => some .none
  | _ + 1, .bl b => some (.bool b)
  | _ + 1, .int i => some (.int i)
  | _ + 1, .str x => some (.str x)
  | f + 1, .tup ps => (mapO (dat m f) ps).map .tuple
  | f + 1, .scr ps => (mapO (dat m f) ps).map .list
  | f + 1, .kt ps => (mapO (dat m f) ps).map .tuple
  | f + 1, .ref n => match m[n]? with
    | some (.lst ps) => (mapO (dat m f) ps).map .list
    | _ => none
def DD : Nat := 60
/-- x as a datum -/
def asD (x : P) : M PyData := fun m => match dat m DD x with
  | some d => .ok d m
  | none => .bad
def allD (xs : List P) : M (List PyData) := fun m => match mapO (dat m DD) xs with
  | some ds => .ok ds m
  | none => .bad

/-! ### expressions -/
def dVar (i : Nat) : D := fun ρ m => match ρ[i]? with
  | some (some p) => .ok p m
  | _ => .bad
def dC (p : P) : D := fun _ m => .ok p m
def aNil : A := fun _ m => .ok [] m
def aCons (d : D) (a : A) : A := fun ρ => bnd (d ρ) fun x => bnd (a ρ) fun xs => ret (x :: xs)
/-- *e in an argument list -/
def aStar (d : D) (a : A) : A := fun ρ => bnd (d ρ) fun x => match x with
  | .tup ps => bnd (a ρ) fun xs => ret (ps ++ xs)
  | .ref n => getO n fun o => match o with
    | .lst ps => bnd (a ρ) fun xs => ret (ps ++ xs)
    | _ => bad
  | _ => bad
def dOp (f : P → P → M P) (a b : D) : D := fun ρ => bnd (a ρ) fun x => bnd (b ρ) fun y => f x y
def dUn (f : P → M P) (a : D) : D := fun ρ => bnd (a ρ) f
def dTup (a : A) : D := fun ρ => bnd (a ρ) fun ps => when_ (decide (ps.length ≤ SZ)) (ret (.tup ps))
/-- a list that no one holds yet -/
def lLst (a : A) : LD := fun ρ => bnd (a ρ) fun ps => when_ (decide (ps.length ≤ SZ)) (ret ps)
def dNew (l : LD) : D := fun ρ => bnd (l ρ) fun ps => newO (.lst ps)
def dIf (c : T) (a b : D) : D := fun ρ => bnd (c ρ) fun k => match k with
  | true => a ρ
  | false => b ρ
def dCall (call : List P → M P) (a : A) : D := fun ρ => bnd (a ρ) call

/-! ### tests -/
def asB (x : P) : M Bool := match x with
  | .bl b => ret b
  | _ => bad
def tVal (d : D) : T := fun ρ => bnd (d ρ) asB
/-- truth of any value -/
def truth (x : P) : M Bool := match x with
  | .non => ret false
  | .bl b => ret b
  | .int i => ret (i != 0)
  | .tup ps => ret (!ps.isEmpty)
  | _ => bad
def tTru (d : D) : T := fun ρ => bnd (d ρ) truth
def tAnd (a b : T) : T := fun ρ => bnd (a ρ) fun k => match k with
  | true => b ρ
  | false => ret false
def tOr (a b : T) : T := fun ρ => bnd (a ρ) fun k => match k with
  | true => ret true
  | false => b ρ
def tNot (a : T) : T := fun ρ => bnd (a ρ) fun k => ret (!k)
def dB (t : T) : D := fun ρ => bnd (t ρ) fun k => ret (.bl k)
/-- a and b, a or b as values: the operands are truth values -/
def dAnd (a b : D) : D := fun ρ => bnd (a ρ) fun x => match x with
  | .bl true => b ρ
  | .bl false => ret (.bl false)
  | _ => bad
def dOr (a b : D) : D := fun ρ => bnd (a ρ) fun x => match x with
  | .bl true => ret (.bl true)
  | .bl false => b ρ
  | _ => bad
def uNot (x : P) : M P := match x with
  | .bl b => ret (.bl (!b))
  | _ => bad
/-- a op b op' c -/
def dChain (f g : P → P → M P) (a b c : D) : D := fun ρ => bnd (a ρ) fun x => bnd (b ρ) fun y => bnd (f x y) fun z => match z with
  | .bl true => bnd (c ρ) fun w => g y w
  | .bl false => ret (.bl false)
  | _ => bad

/-! ### operators by values -/
def i2 (c : Int → Int → Bool) (f : Int → Int → P) (x y : P) : M P := match x with
  | .int i => match y with
    | .int j => when_ (c i j) (ret (f i j))
    | _ => bad
  | _ => bad
def oAdd (x y : P) : M P := match x with
  | .int i => match y with
    | .int j => ret (.int (i + j))
    | _ => bad
  | .tup ps => match y with
    | .tup qs => when_ (decide (ps.length + qs.length ≤ SZ)) (ret (.tup (ps ++ qs)))
    | _ => bad
  | .str a => match y with
    | .str b => when_ (decide (a.length + b.length ≤ SZ)) (ret (.str (a ++ b)))
    | _ => bad
  | .ref n => match y with
    | .ref k => getO n fun o => match o with
      | .lst ps => getO k fun o' => match o' with
        | .lst qs => when_ (decide (ps.length + qs.length ≤ SZ)) (newO (.lst (ps ++ qs)))
        | _ => bad
      | _ => bad
    | _ => bad
  | _ => bad
def yes2 (_ _ : Int) : Bool := true
def oSub : P → P → M P := i2 yes2 fun i j => .int (i - j)
def cMul (i j : Int) : Bool := (decide (-(18446744073709551616) < i) && decide (i < 18446744073709551616)) || (decide (-(18446744073709551616) < j) && decide (j < 18446744073709551616))
def oMul (x y : P) : M P := match x with
  | .int i => match y with
    | .int j => when_ (cMul i j) (ret (.int (i * j)))
    | _ => bad
  | .ref n => match y with
    | .int k => getO n fun o => match o with
      | .lst ps => when_ (decide (-(9223372036854775808) ≤ k) && decide (k < 9223372036854775808) && decide (ps.length * k.toNat ≤ SZ)) (newO (.lst (List.replicate k.toNat ps).flatten))
      | _ => bad
    | _ => bad
  | _ => bad
def oDiv : P → P → M P := i2 (fun _ j => decide (0 < j) && decide (j < 18446744073709551616)) fun i j => .int (i / j)
def oMod : P → P → M P := i2 (fun _ j => decide (0 < j)) fun i j => .int (i % j)
def cPow (i j : Int) : Bool := decide (0 ≤ j) && decide (j ≤ 1000000) && decide (i.natAbs < 18446744073709551616)
def oPow : P → P → M P := i2 cPow fun i j => .int (i ^ j.toNat)
def oShl : P → P → M P := i2 cPow fun i j => .int (i * 2 ^ j.toNat)
def oShr : P → P → M P := i2 (fun _ j => decide (0 ≤ j)) fun i j => .int (i / 2 ^ j.toNat)
def oAnd : P → P → M P := i2 yes2 fun i j => .int (PySem.Builtin.bitAnd i j)
def oOr : P → P → M P := i2 yes2 fun i j => .int (PySem.Builtin.bitOr i j)
def oXor : P → P → M P := i2 yes2 fun i j => .int (PySem.Builtin.bitXor i j)
def uNeg (x : P) : M P := match x with
  | .int i => ret (.int (-i))
  | _ => bad
/-- == of two scalars -/
def scalP : P → P → Option Bool
  | .int i, .int j => some (decide (i = j))
  | .str a, .str b => some (decide (a = b))
  | .bl a, .bl b => some (decide (a = b))
  | .non, .non => some true
  | _, _ => none
/-- ==, != -/
def eqD (neg : Bool) (x y : P) : M P := bnd (asD x) fun d => bnd (asD y) fun e => when_ (PySem.SeqAt.shaped d && PySem.SeqAt.shaped e) (ret (.bl (PyData.eqv d e != neg)))
def oEq (x y : P) : M P := match scalP x y with
  | some b => ret (.bl b)
  | none => eqD false x y
def oNe (x y : P) : M P := match scalP x y with
  | some b => ret (.bl !b)
  | none => eqD true x y
def oLt (x y : P) : M P := match x with
  | .int i => match y with
    | .int j => ret (.bl (decide (i < j)))
    | _ => bad
  | .str a => match y with
    | .str b => ret (.bl (decide (a.cps.toList < b.cps.toList)))
    | _ => bad
  | .tup _ => bnd (asD x) fun d => bnd (asD y) fun e => when_ (PySem.W.alike d e) (ret (.bl (PySem.W.dataLt d e)))
  | _ => bad
def oGt (x y : P) : M P := match x with
  | .int i => match y with
    | .int j => ret (.bl (decide (j < i)))
    | _ => bad
  | _ => bad
def oLe (x y : P) : M P := match x with
  | .int i => match y with
    | .int j => ret (.bl (decide (i ≤ j)))
    | _ => bad
  | .str a => match y with
    | .str b => ret (.bl (!decide (b.cps.toList < a.cps.toList)))
    | _ => bad
  | _ => bad
def oGe (x y : P) : M P := match x with
  | .int i => match y with
    | .int j => ret (.bl (decide (j ≤ i)))
    | _ => bad
  | _ => bad
def isNon : P → Bool
  | .non => true
  | _ => false
def uIsN (x : P) : M P := ret (.bl (isNon x))
def uNotN (x : P) : M P := ret (.bl (!isNon x))

/-! ### dicts -/
def keyOf : P → Option L2.Key
  | .int i => some (.inl i)
  | .str x => some (.inr x)
  | _ => none
def tkeyOf : P → Option (List L2.Key)
  | .tup ps => mapO keyOf ps
  | _ => none
section
variable {κ : Type} [DecidableEq κ]
def vGet (kvs : List (κ × P)) (k : κ) : Option P := (kvs.find? fun kv => decide (kv.1 = k)).map (·.2)
def vPut (kvs : List (κ × P)) (k : κ) (v : P) : List (κ × P) :=
  match kvs.any fun kv => decide (kv.1 = k) with
  | true => kvs.map fun kv => if kv.1 = k then (kv.1, v) else kv
  | false => kvs ++ [(k, v)]
end
/-- the value at a key, in a thing that is a dict -/
def dLook (n : Nat) (k : P) : M (Option P) := fun m => match m[n]? with
  | some (.dK kvs) => match keyOf k with
    | some q => .ok (vGet kvs q) m
    | none => match kvs with
      | [] => match tkeyOf k with
        | some _ => .ok none (m.set n (.dT []))
        | none => .bad
      | _ => .bad
  | some (.dT kvs) => match tkeyOf k with
    | some q => .ok (vGet kvs q) m
    | none => .bad
  | _ => .bad
def dStore (n : Nat) (k v : P) : M Unit := fun m => match m[n]? with
  | some (.dK kvs) => match keyOf k with
    | some q => match decide (kvs.length < SZ) with
      | true => .ok () (m.set n (.dK (vPut kvs q v)))
      | false => .bad
    | none => match kvs with
      | [] => match tkeyOf k with
        | some q => .ok () (m.set n (.dT [(q, v)]))
        | none => .bad
      | _ => .bad
  | some (.dT kvs) => match tkeyOf k with
    | some q => match decide (kvs.length < SZ) with
      | true => .ok () (m.set n (.dT (vPut kvs q v)))
      | false => .bad
    | none => .bad
  | _ => .bad
/-- x in y, a tuple -/
def inT (x y : P) : M Bool := bnd (asD x) fun d => bnd (asD y) fun e => match e with
  | .tuple ds => when_ (PySem.SeqAt.shaped d && PySem.SeqAt.shaped e) (ret (ds.any fun z => PyData.eqv z d))
  | _ => bad
/-- x in y -/
def inP (x y : P) : M Bool := match y with
  | .ref n => getO n fun o => match o with
    | .lst _ => bnd (asD x) fun d => bnd (asD y) fun e => match e with
      | .list ds => when_ (PySem.SeqAt.shaped d && PySem.SeqAt.shaped e) (ret (ds.any fun z => PyData.eqv z d))
      | _ => bad
    | .dK _ => bnd (dLook n x) fun o => ret o.isSome
    | .dT _ => bnd (dLook n x) fun o => ret o.isSome
    | _ => bad
  | .tup _ => inT x y
  | .kt _ => inT x y
  | _ => bad
def oIn (x y : P) : M P := bnd (inP x y) fun b => ret (.bl b)
def oNotIn (x y : P) : M P := bnd (inP x y) fun b => ret (.bl (!b))

/-! ### subscripts, slices -/
def oIx (x y : P) : M P := match x with
  | .tup ps => match y with
    | .int i => opt (L2.atI ps i)
    | _ => bad
  | .scr ps => match y with
    | .int i => opt (L2.atI ps i)
    | _ => bad
  | .ref n => getO n fun o => match o with
    | .lst ps => match y with
      | .int i => opt (L2.atI ps i)
      | _ => bad
    | .dK _ => bnd (dLook n y) opt
    | .dT _ => bnd (dLook n y) opt
    | _ => bad
  | _ => bad
def cutP (xs : List P) (lo hi : Option Int) : List P := (xs.drop (HT.sIx xs.length 0 lo)).take (HT.sIx xs.length xs.length hi - HT.sIx xs.length 0 lo)
/-- a part of a slice -/
abbrev OD := Env → M (Option Int)
def pNone : OD := fun _ => ret none
def pSome (d : D) : OD := fun ρ => bnd (d ρ) fun x => match x with
  | .int i => ret (some i)
  | _ => bad
def slP (x : P) (l h : Option Int) : M P := match x with
  | .tup ps => ret (.tup (cutP ps l h))
  | .ref n => getO n fun o => match o with
    | .lst ps => newO (.lst (cutP ps l h))
    | _ => bad
  | _ => bad
def dSl (e : D) (lo hi : OD) : D := fun ρ => bnd (e ρ) fun x => bnd (lo ρ) fun l => bnd (hi ρ) fun h => slP x l h
/-- xs[::-1] of a list -/
def dRev (e : D) : D := fun ρ => bnd (e ρ) fun x => match x with
  | .ref n => getO n fun o => match o with
    | .lst ps => newO (.lst ps.reverse)
    | _ => bad
  | _ => bad
/-- .. of a list that no one holds -/
def lRev (l : LD) : LD := fun ρ => bnd (l ρ) fun ps => ret ps.reverse

/-! ### built-in functions -/
def one (f : P → M P) (xs : List P) : M P := match xs with
  | [x] => f x
  | _ => bad
def two (f : P → P → M P) (xs : List P) : M P := match xs with
  | [x, y] => f x y
  | _ => bad
/-- the items of a list or tuple -/
def items (x : P) : M (List P) := match x with
  | .tup ps => ret ps
  | .scr ps => ret ps
  | .kt ps => ret ps
  | .ref n => getO n fun o => match o with
    | .lst ps => ret ps
    | _ => bad
  | _ => bad
def lItems (d : D) : LD := fun ρ => bnd (d ρ) items
def intsOf : List P → Option (List Int)
  | [] => some []
  | .int i :: r => match intsOf r with
    | some l => some (i :: l)
    | none => none
  | _ :: _ => none
def bls : List P → Option (List Bool)
  | [] => some []
  | .bl b :: r => match bls r with
    | some l => some (b :: l)
    | none => none
  | _ :: _ => none
def bLen (x : P) : M P := match x with
  | .str z => when_ (decide (z.length ≤ SZ)) (ret (.int z.length))
  | .tup ps => ret (.int ps.length)
  | .scr ps => ret (.int ps.length)
  | .ref n => getO n fun o => match o with
    | .lst ps => ret (.int ps.length)
    | .dK kvs => ret (.int kvs.length)
    | _ => bad
  | _ => bad
def bAbs (x : P) : M P := match x with
  | .int i => ret (.int (if i < 0 then -i else i))
  | _ => bad
def bInt (x : P) : M P := match x with
  | .int i => ret (.int i)
  | .bl b => ret (.int (if b then 1 else 0))
  | _ => bad
def bMax2 (x y : P) : M P := match x with
  | .int i => match y with
    | .int j => ret (.int (if j > i then j else i))
    | _ => bad
  | _ => bad
def bMin2 (x y : P) : M P := match x with
  | .int i => match y with
    | .int j => ret (.int (if j < i then j else i))
    | _ => bad
  | _ => bad
def iMax (i : Int) (l : List Int) : Int := l.foldl (fun a b => if b > a then b else a) i
def iMin (i : Int) (l : List Int) : Int := l.foldl (fun a b => if b < a then b else a) i
/-- by the items: sum, max, min, any, all -/
def nSum (ps : List P) : M P := bnd (opt (intsOf ps)) fun l => ret (.int l.sum)
def nMax (ps : List P) : M P := bnd (opt (intsOf ps)) fun l => match l with
  | i :: r => ret (.int (iMax i r))
  | [] => bad
def nMin (ps : List P) : M P := bnd (opt (intsOf ps)) fun l => match l with
  | i :: r => ret (.int (iMin i r))
  | [] => bad
def nAny (ps : List P) : M P := bnd (opt (bls ps)) fun l => ret (.bl (l.any id))
def nAll (ps : List P) : M P := bnd (opt (bls ps)) fun l => ret (.bl (l.all id))
def bTup (x : P) : M P := match x with
  | .tup ps => ret (.tup ps)
  | .scr ps => ret (.tup ps)
  | .ref n => getO n fun o => match o with
    | .lst ps => ret (.tup ps)
    | _ => bad
  | _ => bad
def nTup (ps : List P) : M P := ret (.tup ps)
def nLen (ps : List P) : M P := ret (.int ps.length)
/-- a built-in over a list that no one holds -/
def dL (f : List P → M P) (l : LD) : D := fun ρ => bnd (l ρ) f
/-- tuple(x), list(x) of any -/
def allAlike (ds : List PyData) : Bool := ds.all fun d => ds.all fun e => PySem.W.alike d e
def isTup1 : PyData → Bool
  | .tuple (_ :: _) => true
  | _ => false
def isOther : PyData → Bool
  | .none => false
  | .tuple _ => false
  | _ => true
/-- sorting by merging, at most n times down -/
def mg {α : Type} (le : α → α → Bool) : Nat → List α → List α → List α
  | 0, _, _ => []
  | _ + 1, [], ys => ys
  | _ + 1, x :: xs, [] => x :: xs
  | n + 1, x :: xs, y :: ys => match le x y with
    | true => x :: mg le n xs (y :: ys)
    | false => y :: mg le n (x :: xs) ys
def ms {α : Type} (le : α → α → Bool) : Nat → List α → List α
  | 0, _ => []
  | _ + 1, [] => []
  | _ + 1, [a] => [a]
  | n + 1, a :: b :: xs => mg le ((a :: b :: xs).length + 1) (ms le n ((a :: b :: xs).take (((a :: b :: xs).length + 1) / 2))) (ms le n ((a :: b :: xs).drop (((a :: b :: xs).length + 1) / 2)))
def sortP (ps : List P) : M (List P) := fun m => match mapO (fun p => (dat m DD p).map fun d => (p, d)) ps with
  | some qs => match allAlike (qs.map (·.2)) && ((qs.map (·.2)).all isTup1 || (qs.map (·.2)).all isOther) with
    | true => .ok ((ms (fun a b => !PySem.W.dataLt b.2 a.2) (qs.length + 1) qs).map (·.1)) m
    | false => .bad
  | none => .bad
def bRepr (x : P) : M P := bnd (asD x) fun d => when_ (d.showable && decide (d.shown.length ≤ SZ)) (ret (.str d.shown))
/-- repr of a list that no one holds -/
def nRepr (ps : List P) : M P := bnd (allD ps) fun ds => when_ ((PyData.list ds).showable && decide ((PyData.list ds).shown.length ≤ SZ)) (ret (.str (PyData.list ds).shown))
/-- a built-in over the items of a value -/
def dV (f : List P → M P) (d : D) : D := fun ρ => bnd (d ρ) fun x => bnd (items x) f
def lV (f : List P → M (List P)) (d : D) : LD := fun ρ => bnd (d ρ) fun x => bnd (items x) f
/-- .. of a list that no one holds, again such a one -/
def lThen (f : List P → M (List P)) (l : LD) : LD := fun ρ => bnd (l ρ) f
def lId (ps : List P) : M (List P) := ret ps
/-- == of two such lists and values -/
def nEqL (neg : Bool) (x : P) (ps : List P) : M P := bnd (asD x) fun d => bnd (allD ps) fun es => when_ (PySem.SeqAt.shaped d && PySem.SeqAt.shaped (.list es)) (ret (.bl (if neg then !PyData.eqv d (.list es) else PyData.eqv d (.list es))))

/-! ### methods -/
/-- x is a list, a dict -/
def chkL (x : P) : M Unit := match x with
  | .ref n => getO n fun o => match o with
    | .lst _ => ret ()
    | _ => bad
  | _ => bad
def dMeth0 (chk : P → M Unit) (f : P → M P) (o : D) : D := fun ρ => bnd (o ρ) fun x => bnd (chk x) fun _ => f x
def dMeth1 (chk : P → M Unit) (f : P → P → M P) (o a : D) : D := fun ρ => bnd (o ρ) fun x => bnd (chk x) fun _ => bnd (a ρ) fun y => f x y
/-- .. with a list that no one holds -/
def dMethL (chk : P → M Unit) (f : P → List P → M P) (o : D) (l : LD) : D := fun ρ => bnd (o ρ) fun x => bnd (chk x) fun _ => bnd (l ρ) fun ys => f x ys
def mAppend (x y : P) : M P := match x with
  | .ref n => getO n fun o => match o with
    | .lst ps => when_ (decide (ps.length < SZ)) (bnd (putO n (.lst (ps ++ [y]))) fun _ => ret .non)
    | _ => bad
  | _ => bad
/-- xs.extend(l), l a list that no one holds -/
def mExtend (x : P) (qs : List P) : M P := match x with
  | .ref n => getO n fun o => match o with
    | .lst ps => when_ (decide (ps.length + qs.length ≤ SZ)) (bnd (putO n (.lst (ps ++ qs))) fun _ => ret .non)
    | _ => bad
  | _ => bad
def mPop (x : P) : M P := match x with
  | .ref n => getO n fun o => match o with
    | .lst ps => match ps[ps.length - 1]? with
      | some y => bnd (putO n (.lst ps.dropLast)) fun _ => ret y
      | none => bad
    | _ => bad
  | _ => bad
def mPopAt (x y : P) : M P := match x with
  | .ref n => match y with
    | .int i => getO n fun o => match o with
      | .lst ps => match L2.ixN ps.length i with
        | some k => match ps[k]? with
          | some z => when_ (decide (-(9223372036854775808) ≤ i) && decide (i < 9223372036854775808)) (bnd (putO n (.lst (ps.eraseIdx k))) fun _ => ret z)
          | none => bad
        | none => bad
      | _ => bad
    | _ => bad
  | _ => bad

/-! ### what is walked -/
inductive Src where
  | seq (ps : List P)
  | lst (n : Nat)
  | enumL (n : Nat)
  | zipL (n k : Nat)
/-- two side by side -/
def pair2 : Option P → Option P → Option P
  | some p, some q => some (.tup [p, q])
  | _, _ => none
/-- none: not a list any more; some none: at its end -/
def Src.at : Src → Nat → Hm → Option (Option P)
  | .seq ps, i, _ => some ps[i]?
  | .lst n, i, m => match m[n]? with
    | some (.lst ps) => some ps[i]?
    | _ => none
  | .enumL n, i, m => match m[n]? with
    | some (.lst ps) => some (ps[i]?.map fun p => .tup [.int (i : Nat), p])
    | _ => none
  | .zipL n k, i, m => match m[n]? with
    | some (.lst ps) => match m[k]? with
      | some (.lst qs) => some (pair2 ps[i]? qs[i]?)
      | _ => none
    | _ => none
def Src.len : Src → Hm → Nat
  | .seq ps, _ => ps.length
  | .lst n, m => match m[n]? with
    | some (.lst ps) => ps.length
    | _ => 0
  | .enumL n, m => match m[n]? with
    | some (.lst ps) => ps.length
    | _ => 0
  | .zipL n k, m => match m[n]? with
    | some (.lst ps) => match m[k]? with
      | some (.lst qs) => min ps.length qs.length
      | _ => 0
    | _ => 0
abbrev SD := Env → M Src
def sOf (d : D) : SD := fun ρ => bnd (d ρ) fun x => match x with
  | .tup ps => ret (.seq ps)
  | .scr ps => ret (.seq ps)
  | .kt ps => ret (.seq ps)
  | .ref n => getO n fun o => match o with
    | .lst _ => ret (.lst n)
    | _ => bad
  | _ => bad
def sOfL (l : LD) : SD := fun ρ => bnd (l ρ) fun ps => ret (.seq ps)
def numbered (i : Nat) : List P → List P
  | [] => []
  | p :: ps => .tup [.int (i : Nat), p] :: numbered (i + 1) ps
def sEnum (d : D) : SD := fun ρ => bnd (d ρ) fun x => match x with
  | .tup ps => ret (.seq (numbered 0 ps))
  | .ref n => getO n fun o => match o with
    | .lst _ => ret (.enumL n)
    | _ => bad
  | _ => bad
def rangeP (a b : Int) : List P := (List.range (b - a).toNat).map fun (i : Nat) => .int (a + i)
def small62 (i : Int) : Bool := decide (-(4611686018427387904) ≤ i) && decide (i < 4611686018427387904)
def sRange1 (d : D) : SD := fun ρ => bnd (d ρ) fun x => match x with
  | .int j => when_ (small62 j) (ret (.seq (rangeP 0 j)))
  | _ => bad
def sRange2 (a b : D) : SD := fun ρ => bnd (a ρ) fun x => bnd (b ρ) fun y => match x with
  | .int i => match y with
    | .int j => when_ (small62 i && small62 j) (ret (.seq (rangeP i j)))
    | _ => bad
  | _ => bad
/-- targets -/
abbrev GD := P → Env → M Env
def gName (i : Nat) : GD := fun p ρ => ret (ρ.set i (some p))
abbrev GsD := List P → Env → M Env
def gNil : GsD := fun ps ρ => match ps with
  | [] => ret ρ
  | _ => bad
def gCons (g : GD) (gs : GsD) : GsD := fun ps ρ => match ps with
  | p :: r => bnd (g p ρ) fun ρ' => gs r ρ'
  | [] => bad
/-- n names out of a tuple -/
def gTup (n : Nat) (gs : GsD) : GD := fun p ρ => match p with
  | .tup ps => when_ (decide (ps.length = n)) (gs ps ρ)
  | _ => bad
def wipeE (ρ : Env) : List Nat → Env
  | [] => ρ
  | v :: vs => (wipeE ρ vs).set v none
/-- the turns of a comprehension: src's items from the i-th on, at most f of them, acc what is made so far; own: the slots that are its own -/
def compL (g : GD) (t : T) (e : D) (ρ : Env) (src : Src) : Nat → Nat → List P → M (List P)
  | 0, i, acc => fun m => match src.at i m with
    | none => .bad
    | some none => .ok acc m
    | some (some _) => .bad
  | f + 1, i, acc => fun m => match src.at i m with
    | none => .bad
    | some none => .ok acc m
    | some (some p) => bnd (g p ρ) (fun ρ' => bnd (t ρ') fun k => match k with
      | true => bnd (e ρ') fun y => when_ (decide (acc.length < SZ)) (compL g t e ρ src f (i + 1) (acc ++ [y]))
      | false => compL g t e ρ src f (i + 1) acc) m
/-- what raises within a comprehension is not covered -/
def noX {α : Type} (x : M α) : M α := fun m => match x m with
  | .ok a m' => .ok a m'
  | .exc _ _ _ => .bad
  | .bad => .bad
def tYes : T := fun _ => ret true
def lComp (src : SD) (g : GD) (t : T) (e : D) (own : List Nat) : LD := fun ρ => bnd (src ρ) fun s => noX fun m => compL g t e (wipeE ρ own) s (s.len m) 0 [] m

/-! ### statements -/
inductive Fl where
  | nx | bk | ct
  | rt (p : P)
inductive RS where
  | ok (f : Fl) (ρ : Env) (m : Hm)
  | exc (c : String) (v : P) (ρ : Env) (m : Hm)
  | bad
abbrev DS := Env → Hm → RS
/-- an expression's result, then k -/
def thn {α : Type} (x : M α) (ρ : Env) (k : α → Hm → RS) (m : Hm) : RS := match x m with
  | .ok a m' => k a m'
  | .exc c v m' => .exc c v ρ m'
  | .bad => .bad
def sNx : DS := fun ρ m => .ok .nx ρ m
def sBk : DS := fun ρ m => .ok .bk ρ m
def sCt : DS := fun ρ m => .ok .ct ρ m
def sSeq (s t : DS) : DS := fun ρ m => match s ρ m with
  | .ok .nx ρ' m' => t ρ' m'
  | r => r
def sExpr (d : D) : DS := fun ρ => thn (d ρ) ρ fun _ m => .ok .nx ρ m
def sRet (d : D) : DS := fun ρ => thn (d ρ) ρ fun p m => .ok (.rt p) ρ m
def sAsg (d : D) (g : GD) : DS := fun ρ => thn (d ρ) ρ fun p m => thn (g p ρ) ρ (fun ρ' m' => .ok .nx ρ' m') m
def sSet (i : Nat) (d : D) : DS := sAsg d (gName i)
/-- a, b = x, y; three of them -/
def sPar2 (i j : Nat) (a : A) : DS := fun ρ => thn (a ρ) ρ fun ps m => match ps with
  | [p, q] => .ok .nx ((ρ.set i (some p)).set j (some q)) m
  | _ => .bad
def sPar3 (i j l : Nat) (a : A) : DS := fun ρ => thn (a ρ) ρ fun ps m => match ps with
  | [p, q, r] => .ok .nx (((ρ.set i (some p)).set j (some q)).set l (some r)) m
  | _ => .bad
def sIf (c : T) (s t : DS) : DS := fun ρ => thn (c ρ) ρ fun k m => match k with
  | true => s ρ m
  | false => t ρ m
/-- o[i] = v -/
def setP (x y z : P) : M Unit := match x with
  | .ref n => getO n fun ob => match ob with
    | .lst ps => match y with
      | .int j => match L2.ixN ps.length j with
        | some k => putO n (.lst (ps.set k z))
        | none => bad
      | _ => bad
    | _ => dStore n y z
  | _ => bad
def sPut (o i v : D) : DS := fun ρ => thn (bnd (v ρ) fun z => bnd (o ρ) fun x => bnd (i ρ) fun y => setP x y z) ρ fun _ m => .ok .nx ρ m
/-- a loop: at most N turns -/
def sWhile (c : T) (s : DS) : Nat → DS
  | 0 => fun _ _ => .bad
  | N + 1 => fun ρ => thn (c ρ) ρ fun k m => match k with
    | false => .ok .nx ρ m
    | true => match s ρ m with
      | .ok .nx ρ' m' => sWhile c s N ρ' m'
      | .ok .ct ρ' m' => sWhile c s N ρ' m'
      | .ok .bk ρ' m' => .ok .nx ρ' m'
      | r => r
def forL (src : Src) (g : GD) (s : DS) : Nat → Nat → DS
  | 0, i => fun ρ m => match src.at i m with
    | none => .bad
    | some none => .ok .nx ρ m
    | some (some _) => .bad
  | f + 1, i => fun ρ m => match src.at i m with
    | none => .bad
    | some none => .ok .nx ρ m
    | some (some p) => thn (g p ρ) ρ (fun ρ1 m1 => match s ρ1 m1 with
      | .ok .nx ρ' m' => forL src g s f (i + 1) ρ' m'
      | .ok .ct ρ' m' => forL src g s f (i + 1) ρ' m'
      | .ok .bk ρ' m' => .ok .nx ρ' m'
      | r => r) m
def sFor (src : SD) (g : GD) (s : DS) : DS := fun ρ => thn (src ρ) ρ fun sr m => forL sr g s (sr.len m) 0 ρ m

/-! ### defs -/
/-- what a body makes of its arguments: N slots -/
def fnOf (n N : Nat) (s : DS) (args : List P) : M P := fun m => match decide (args.length = n) with
  | true => match s (args.map some ++ List.replicate (N - n) none) m with
    | .ok .nx _ m' => .ok .non m'
    | .ok (.rt p) _ m' => .ok p m'
    | .ok .bk _ _ => .bad
    | .ok .ct _ _ => .bad
    | .exc c v _ m' => .exc c v m'
    | .bad => .bad
  | false => .bad
end G

/-! G2: what the small semantics says of the hand layer's heaps. -/
namespace G
open PySem PySem.Spec L2

/-- a tuple, a list of the written part -/
def KT (K : PySem.W.Frag) (a : Addr) (xs : List V) : Prop := ∃ (o : Obj) (its : Array Value) (n : Nat), K.lookup a = some o ∧ o.cls = .type "tuple" ∧ o.data = .seq its n ∧ its.size ≤ sizeLine ∧ Vals xs its.toList
def KL (K : PySem.W.Frag) (a : Addr) (xs : List V) : Prop := ∃ (o : Obj) (its : Array Value) (n : Nat), K.lookup a = some o ∧ o.cls = .type "list" ∧ o.dict = none ∧ o.data = .seq its n ∧ its.size ≤ sizeLine ∧ Vals xs its.toList

mutual
/-- the value v of the abstract heap H is p; L: where the things of our heap stand -/
inductive Is (K : PySem.W.Frag) (L : List Addr) (H : Hp) : V → P → Prop
  | non : Is K L H .non .non
  | bl (b : Bool) : Is K L H (.bl b) (.bl b)
  | int (i : Int) : Is K L H (.int i) (.int i)
  | str (x : Str) : Is K L H (.str x) (.str x)
  | tup {a : Addr} {vs : List V} {ps : List P} : H a = some (.tup vs) → IsAll K L H vs ps → Is K L H (.ref a) (.tup ps)
  | kt {a : Addr} {vs : List V} {ps : List P} : KT K a vs → IsAll K L H vs ps → Is K L H (.ref a) (.kt ps)
  | scr {a : Addr} {vs : List V} {ps : List P} : ((∃ ob, H a = some (.frz ob (.lst vs))) ∨ KL K a vs) → IsAll K L H vs ps → Is K L H (.ref a) (.scr ps)
  | ref {a : Addr} {n : Nat} : L[n]? = some a → Is K L H (.ref a) (.ref n)
inductive IsAll (K : PySem.W.Frag) (L : List Addr) (H : Hp) : List V → List P → Prop
  | nil : IsAll K L H [] []
  | cons {v : V} {vs : List V} {p : P} {ps : List P} : Is K L H v p → IsAll K L H vs ps → IsAll K L H (v :: vs) (p :: ps)
end
def KvIs {κ : Type} (K : PySem.W.Frag) (L : List Addr) (H : Hp) : List (κ × V) → List (κ × P) → Prop := Paired fun p q => p.1 = q.1 ∧ Is K L H p.2 q.2
def ObjIs (K : PySem.W.Frag) (L : List Addr) (H : Hp) (a : Addr) : O → Prop
  | .lst ps => ∃ vs, H a = some (.lst vs) ∧ IsAll K L H vs ps
  | .dK kvs => ∃ ws, H a = some (.dK ws) ∧ KvIs K L H ws kvs
  | .dT kvs => ∃ ws, H a = some (.dT ws) ∧ KvIs K L H ws kvs
  | .lk kvs => ∃ ob ws, H a = some (.frz ob (.dK ws)) ∧ KvIs K L H ws kvs
/-- our heap m stands at L in H -/
structure Rep (K : PySem.W.Frag) (L : List Addr) (H : Hp) (m : Hm) : Prop where
  nd : L.Nodup
  len : L.length = m.length
  obj : ∀ (i : Nat) (a : Addr) (o : O), L[i]? = some a → m[i]? = some o → ObjIs K L H a o
/-- from one state to a later one: new things, the old ones that are not ours as they were -/
structure Ext (L : List Addr) (H : Hp) (L' : List Addr) (H' : Hp) : Prop where
  pre : ∃ N, L' = L ++ N ∧ ∀ a ∈ N, H a = none
  keep : ∀ a o, H a = some o → a ∉ L → H' a = some o
  grow : ∀ a, H a ≠ none → H' a ≠ none
theorem Ext.refl (L : List Addr) (H : Hp) : Ext L H L H := ⟨⟨[], by simp⟩, fun _ _ h _ => h, fun _ h => h⟩
theorem Ext.trans {L L1 L2 : List Addr} {H H1 H2 : Hp} (a : Ext L H L1 H1) (b : Ext L1 H1 L2 H2) : Ext L H L2 H2 := by
  obtain ⟨N, e, f⟩ := a.pre
  obtain ⟨N', e', f'⟩ := b.pre
  have fr : ∀ c ∈ N', H c = none := fun c hc => by
    cases q : H c with
    | none => rfl
    | some o => exact absurd (f' c hc) (a.grow c (by rw [q]; simp))
  refine ⟨⟨N ++ N', by rw [e', e, List.append_assoc], fun c hc => ?_⟩, fun c o h n => ?_, fun c h => b.grow c (a.grow c h)⟩
  · rcases List.mem_append.mp hc with hc | hc
    · exact f c hc
    · exact fr c hc
  · refine b.keep c o (a.keep c o h n) fun hc => ?_
    rw [e] at hc
    rcases List.mem_append.mp hc with hc | hc
    · exact n hc
    · rw [f c hc] at h; cases h
theorem Ext.get {L L' : List Addr} {H H' : Hp} (e : Ext L H L' H') {n : Nat} {a : Addr} (h : L[n]? = some a) : L'[n]? = some a := by
  obtain ⟨N, e, _⟩ := e.pre
  rw [e, List.getElem?_append_left (List.getElem?_eq_some_iff.mp h).1]
  exact h
theorem Rep.at {K : PySem.W.Frag} {L : List Addr} {H : Hp} {m : Hm} (r : Rep K L H m) {a : Addr} (h : a ∈ L) : ∃ (i : Nat) (o : O), L[i]? = some a ∧ m[i]? = some o ∧ ObjIs K L H a o := by
  obtain ⟨i, hi, e⟩ := List.getElem_of_mem h
  have h1 : L[i]? = some a := by rw [List.getElem?_eq_getElem hi, e]
  have h2 : i < m.length := by rw [← r.len]; exact hi
  exact ⟨i, m[i], h1, by rw [List.getElem?_eq_getElem h2], r.obj i a _ h1 (by rw [List.getElem?_eq_getElem h2])⟩
/-- what stands where ours stands -/
def Ours : HO → Prop
  | .lst _ => True
  | .dK _ => True
  | .dT _ => True
  | .frz _ (.dK _) => True
  | _ => False
theorem Rep.ours {K : PySem.W.Frag} {L : List Addr} {H : Hp} {m : Hm} (r : Rep K L H m) {a : Addr} (h : a ∈ L) : ∃ u, H a = some u ∧ Ours u := by
  obtain ⟨i, o, _, _, q⟩ := r.at h
  cases o with
  | lst ps => obtain ⟨vs, e, _⟩ := q; exact ⟨_, e, trivial⟩
  | dK ps => obtain ⟨vs, e, _⟩ := q; exact ⟨_, e, trivial⟩
  | dT ps => obtain ⟨vs, e, _⟩ := q; exact ⟨_, e, trivial⟩
  | lk ps => obtain ⟨ob, vs, e, _⟩ := q; exact ⟨_, e, trivial⟩
theorem Rep.notIn {K : PySem.W.Frag} {L : List Addr} {H : Hp} {m : Hm} (r : Rep K L H m) {a : Addr} {u : HO} (h : H a = some u) (n : ¬ Ours u) : a ∉ L := fun hm => by
  obtain ⟨w, e, o⟩ := r.ours hm
  rw [h] at e; cases e; exact n o
theorem Rep.new {K : PySem.W.Frag} {L : List Addr} {H : Hp} {m : Hm} (r : Rep K L H m) {a : Addr} (h : H a = none) : a ∉ L := fun hm => by
  obtain ⟨w, e, o⟩ := r.ours hm
  rw [h] at e; cases e

section
variable {K : PySem.W.Frag} {L L' : List Addr} {H H' : Hp} {m : Hm}
/-- what does not change stays -/
structure Stay (L : List Addr) (H : Hp) (L' : List Addr) (H' : Hp) : Prop where
  fix : ∀ a u, H a = some u → ¬ Ours u → H' a = some u
  ix : ∀ (n : Nat) (a : Addr), L[n]? = some a → L'[n]? = some a
theorem Ext.stay (e : Ext L H L' H') (r : Rep K L H m) : Stay L H L' H' := ⟨fun a u h n => e.keep a u h (r.notIn h n), fun _ _ h => e.get h⟩
theorem Stay.sqT (e : Stay L H L' H') {a : Addr} {vs : List V} (h : SqT K H a vs) : SqT K H' a vs := by
  rcases h with (h | ⟨o, h⟩) | h
  · exact .inl (.inl (e.fix _ _ h id))
  · exact .inl (.inr ⟨o, e.fix _ _ h id⟩)
  · exact .inr h
mutual
theorem Is.stay (e : Stay L H L' H') : ∀ (p : P) (v : V), Is K L H v p → Is K L' H' v p
  | .non, _, h => by cases h; exact .non
  | .bl _, _, h => by cases h; exact .bl _
  | .int _, _, h => by cases h; exact .int _
  | .str _, _, h => by cases h; exact .str _
  | .tup ps, _, h => by
    cases h with
    | tup h1 h2 => exact .tup (e.fix _ _ h1 id) (IsAll.stay e ps _ h2)
  | .kt ps, _, h => by
    cases h with
    | kt h1 h2 => exact .kt h1 (IsAll.stay e ps _ h2)
  | .scr ps, _, h => by
    cases h with
    | scr h1 h2 =>
      refine .scr ?_ (IsAll.stay e ps _ h2)
      rcases h1 with ⟨ob, h1⟩ | h1
      · exact .inl ⟨ob, e.fix _ _ h1 id⟩
      · exact .inr h1
  | .ref n, _, h => by
    cases h with
    | ref h => exact .ref (e.ix _ _ h)
theorem IsAll.stay (e : Stay L H L' H') : ∀ (ps : List P) (vs : List V), IsAll K L H vs ps → IsAll K L' H' vs ps
  | [], _, h => by cases h; exact .nil
  | p :: ps, _, h => by
    cases h with
    | cons h1 h2 => exact .cons (Is.stay e p _ h1) (IsAll.stay e ps _ h2)
end
theorem sqT_mono (r : Rep K L H m) (e : Ext L H L' H') {a : Addr} {vs : List V} (h : SqT K H a vs) : SqT K H' a vs := (e.stay r).sqT h
theorem Is.mono (r : Rep K L H m) (e : Ext L H L' H') (p : P) (v : V) (h : Is K L H v p) : Is K L' H' v p := h.stay (e.stay r)
theorem IsAll.mono (r : Rep K L H m) (e : Ext L H L' H') (p : List P) (v : List V) (h : IsAll K L H v p) : IsAll K L' H' v p := h.stay (e.stay r)
theorem KvIs.stay {κ : Type} (e : Stay L H L' H') : ∀ {ws : List (κ × V)} {kvs : List (κ × P)}, KvIs K L H ws kvs → KvIs K L' H' ws kvs
  | _, _, .nil => .nil
  | _, _, .cons ⟨h1, h2⟩ t => .cons ⟨h1, h2.stay e⟩ (KvIs.stay e t)
theorem ObjIs.stay (e : Stay L H L' H') {a : Addr} (he : H' a = H a) : ∀ {o : O}, ObjIs K L H a o → ObjIs K L' H' a o
  | .lst _, ⟨vs, h1, h2⟩ => ⟨vs, he.trans h1, h2.stay e⟩
  | .dK _, ⟨vs, h1, h2⟩ => ⟨vs, he.trans h1, KvIs.stay e h2⟩
  | .dT _, ⟨vs, h1, h2⟩ => ⟨vs, he.trans h1, KvIs.stay e h2⟩
  | .lk _, ⟨ob, vs, h1, h2⟩ => ⟨ob, vs, he.trans h1, KvIs.stay e h2⟩
theorem KvIs.mono {κ : Type} (r : Rep K L H m) (e : Ext L H L' H') : ∀ {ws : List (κ × V)} {kvs : List (κ × P)}, KvIs K L H ws kvs → KvIs K L' H' ws kvs
  | _, _, .nil => .nil
  | _, _, .cons ⟨h1, h2⟩ t => .cons ⟨h1, Is.mono r e _ _ h2⟩ (KvIs.mono r e t)

theorem IsAll.length : ∀ {vs : List V} {ps : List P}, IsAll K L H vs ps → vs.length = ps.length
  | _, _, .nil => rfl
  | _, _, .cons _ t => by rw [List.length_cons, List.length_cons, IsAll.length t]
theorem IsAll.get : ∀ {vs : List V} {ps : List P} {i : Nat} {p : P}, IsAll K L H vs ps → ps[i]? = some p → ∃ v, vs[i]? = some v ∧ Is K L H v p
  | _, _, _, _, .nil, e => by simp at e
  | _, _, 0, _, .cons r _, e => by simp at e; subst e; exact ⟨_, rfl, r⟩
  | _, _, i + 1, p, .cons _ t, e => by
    obtain ⟨v, h1, h2⟩ := IsAll.get (i := i) (p := p) t (by simpa using e)
    exact ⟨v, by simpa using h1, h2⟩
theorem IsAll.getV : ∀ {vs : List V} {ps : List P} {i : Nat} {v : V}, IsAll K L H vs ps → vs[i]? = some v → ∃ p, ps[i]? = some p ∧ Is K L H v p
  | _, _, _, _, .nil, e => by simp at e
  | _, _, 0, _, .cons r _, e => by simp at e; subst e; exact ⟨_, rfl, r⟩
  | _, _, i + 1, p, .cons _ t, e => by
    obtain ⟨v, h1, h2⟩ := IsAll.getV (i := i) t (by simpa using e)
    exact ⟨v, by simpa using h1, h2⟩
theorem IsAll.append : ∀ {vs ws : List V} {ps qs : List P}, IsAll K L H vs ps → IsAll K L H ws qs → IsAll K L H (vs ++ ws) (ps ++ qs)
  | _, _, _, _, .nil, s => s
  | _, _, _, _, .cons r t, s => .cons r (IsAll.append t s)
theorem IsAll.take : ∀ {vs : List V} {ps : List P} (n : Nat), IsAll K L H vs ps → IsAll K L H (vs.take n) (ps.take n)
  | _, _, 0, _ => .nil
  | _, _, _ + 1, .nil => .nil
  | _, _, n + 1, .cons r t => .cons r (IsAll.take n t)
theorem IsAll.drop : ∀ {vs : List V} {ps : List P} (n : Nat), IsAll K L H vs ps → IsAll K L H (vs.drop n) (ps.drop n)
  | _, _, 0, r => r
  | _, _, _ + 1, .nil => .nil
  | _, _, n + 1, .cons r t => IsAll.drop n t
theorem IsAll.reverse : ∀ {vs : List V} {ps : List P}, IsAll K L H vs ps → IsAll K L H vs.reverse ps.reverse
  | _, _, .nil => .nil
  | _, _, .cons r t => by
    rw [List.reverse_cons, List.reverse_cons]
    exact (IsAll.reverse t).append (.cons r .nil)
theorem IsAll.dropLast : ∀ {vs : List V} {ps : List P}, IsAll K L H vs ps → IsAll K L H vs.dropLast ps.dropLast
  | _, _, .nil => .nil
  | _, _, .cons r .nil => .nil
  | _, _, .cons r (.cons q t) => .cons r (IsAll.dropLast (.cons q t))
theorem IsAll.eraseIdx : ∀ {vs : List V} {ps : List P} (n : Nat), IsAll K L H vs ps → IsAll K L H (vs.eraseIdx n) (ps.eraseIdx n)
  | _, _, _, .nil => .nil
  | _, _, 0, .cons r t => t
  | _, _, n + 1, .cons r t => .cons r (IsAll.eraseIdx n t)
theorem IsAll.set : ∀ {vs : List V} {ps : List P} {v : V} {p : P} (n : Nat), Is K L H v p → IsAll K L H vs ps → IsAll K L H (vs.set n v) (ps.set n p)
  | _, _, _, _, _, _, .nil => .nil
  | _, _, _, _, 0, q, .cons r t => .cons q t
  | _, _, _, _, n + 1, q, .cons r t => .cons r (IsAll.set n q t)
theorem IsAll.replicate {vs : List V} {ps : List P} (h : IsAll K L H vs ps) : ∀ n : Nat, IsAll K L H (List.replicate n vs).flatten (List.replicate n ps).flatten
  | 0 => .nil
  | n + 1 => by
    rw [List.replicate_succ, List.replicate_succ, List.flatten_cons, List.flatten_cons]
    exact h.append (IsAll.replicate h n)
end

/-- an exception as the layer tells it (class, field) -/
def ExIs (K : PySem.W.Frag) (L : List Addr) (H : Hp) (c : String) (x : P) (cls : Value) (d : Option Addr) : Prop := False
abbrev WX := Option (Value → Option Addr → St → Hp → Prop)

section
variable {α β : Type} (K : PySem.W.Frag) (W : WX) (σ : St)
/-- from L, H a result leads to F -/
def Go (L : List Addr) (H : Hp) (r : R α) (F : α → Hm → List Addr → Hp → Prop) : Prop := match r with
  | .ok a m => ∀ L' H', Ext L H L' H' → Rep K L' H' m → F a m L' H'
  | .exc c x m => match W with
    | none => False
    | some w => ∀ L' H' cls d, Ext L H L' H' → Rep K L' H' m → ExIs K L' H' c x cls d → w cls d σ H'
  | .bad => False
end
section
variable {α β : Type} {K : PySem.W.Frag} {W : WX} {σ : St} {L L' : List Addr} {H H' : Hp} {m : Hm}
theorem Go.mono {r : R α} {F : α → Hm → List Addr → Hp → Prop} (g : Go K W σ L H r F) (e : Ext L H L' H') : Go K W σ L' H' r F := by
  cases r with
  | ok a m => exact fun L2 H2 e2 r2 => g L2 H2 (e.trans e2) r2
  | exc c x m =>
    cases W with
    | none => exact g
    | some w => exact fun L2 H2 cls d e2 r2 => g L2 H2 cls d (e.trans e2) r2
  | bad => exact g
theorem Go.imp {r : R α} {F F' : α → Hm → List Addr → Hp → Prop} (g : Go K W σ L H r F) (h : ∀ a m' L' H', r = .ok a m' → Ext L H L' H' → Rep K L' H' m' → F a m' L' H' → F' a m' L' H') : Go K W σ L H r F' := by
  cases r with
  | ok a m => exact fun L2 H2 e2 r2 => h _ _ _ _ rfl e2 r2 (g L2 H2 e2 r2)
  | exc c x m => exact g
  | bad => exact g
theorem Go.bnd {x : M α} {f : α → M β} {F : β → Hm → List Addr → Hp → Prop} (g : Go K W σ L H (bnd x f m) F) : Go K W σ L H (x m) fun a m1 L1 H1 => Go K W σ L1 H1 (f a m1) F := by
  unfold G.bnd at g
  cases e : x m with
  | ok a m1 =>
    rw [e] at g
    exact fun L1 H1 e1 r1 => Go.mono g e1
  | exc c v m1 => rw [e] at g; exact g
  | bad => rw [e] at g; exact g
theorem Go.ret {a : α} {F : α → Hm → List Addr → Hp → Prop} (g : Go K W σ L H (ret a m) F) (r : Rep K L H m) : F a m L H := g L H (Ext.refl L H) r
theorem Go.when_ {b : Bool} {x : M α} {F : α → Hm → List Addr → Hp → Prop} (g : Go K W σ L H (when_ b x m) F) : b = true ∧ Go K W σ L H (x m) F := by
  unfold G.when_ at g
  cases b with
  | true => exact ⟨rfl, g⟩
  | false => exact False.elim g
theorem Go.opt {o : Option α} {F : α → Hm → List Addr → Hp → Prop} (g : Go K W σ L H (opt o m) F) (r : Rep K L H m) : ∃ a, o = some a ∧ F a m L H := by
  cases o with
  | some a => exact ⟨a, rfl, g L H (Ext.refl L H) r⟩
  | none => exact False.elim g
theorem Go.getO {n : Nat} {f : O → M α} {F : α → Hm → List Addr → Hp → Prop} (g : Go K W σ L H (getO n f m) F) : ∃ o, m[n]? = some o ∧ Go K W σ L H (f o m) F := by
  unfold G.getO at g
  cases e : m[n]? with
  | some o => rw [e] at g; exact ⟨o, rfl, g⟩
  | none => rw [e] at g; exact False.elim g
end

/-- the slots are ρ -/
structure EnvIs (K : PySem.W.Frag) (L : List Addr) (H : Hp) (σ : St) (ρ : Env) : Prop where
  len : σ.length = ρ.length
  at_ : ∀ (i : Nat) (p : P), ρ[i]? = some (some p) → ∃ v, σ[i]? = some (some v) ∧ Is K L H v p
theorem EnvIs.mono {K : PySem.W.Frag} {L L' : List Addr} {H H' : Hp} {m : Hm} {σ : St} {ρ : Env} (h : EnvIs K L H σ ρ) (r : Rep K L H m) (e : Ext L H L' H') : EnvIs K L' H' σ ρ :=
  ⟨h.len, fun i p q => let ⟨v, h1, h2⟩ := h.at_ i p q; ⟨v, h1, Is.mono r e _ _ h2⟩⟩
theorem EnvIs.set {K : PySem.W.Frag} {L : List Addr} {H : Hp} {σ : St} {ρ : Env} {v : V} {p : P} (h : EnvIs K L H σ ρ) (i : Nat) (q : Is K L H v p) : EnvIs K L H (σ.set i (some v)) (ρ.set i (some p)) := by
  refine ⟨by rw [List.length_set, List.length_set]; exact h.len, fun j r e => ?_⟩
  by_cases hij : i = j
  · subst hij
    by_cases hl : i < ρ.length
    · rw [List.getElem?_set_self hl] at e
      cases e
      exact ⟨v, List.getElem?_set_self (by rw [h.len]; exact hl), q⟩
    · rw [List.getElem?_eq_none (by simpa using hl)] at e; cases e
  · rw [List.getElem?_set_ne hij] at e
    obtain ⟨w, h1, h2⟩ := h.at_ j r e
    exact ⟨w, by rw [List.getElem?_set_ne hij]; exact h1, h2⟩

/-! ### readings -/
def lift (K : PySem.W.Frag) (W : WX) (d : D) : TE := fun σ H Q => ∃ L m ρ, Rep K L H m ∧ EnvIs K L H σ ρ ∧ Go K W σ L H (d ρ m) fun p _ L' H' => ∀ v, Is K L' H' v p → Q v H'
def liftT (K : PySem.W.Frag) (W : WX) (d : T) : TT := fun σ H Q => ∃ L m ρ, Rep K L H m ∧ EnvIs K L H σ ρ ∧ Go K W σ L H (d ρ m) fun b _ L' H' => Q b H'
def liftA (K : PySem.W.Frag) (W : WX) (d : A) : TA := fun σ H Q => ∃ L m ρ, Rep K L H m ∧ EnvIs K L H σ ρ ∧ Go K W σ L H (d ρ m) fun ps _ L' H' => ∀ vs, IsAll K L' H' vs ps → Q vs H'
/-- a list that is not ours (yet) -/
def liftL (K : PySem.W.Frag) (W : WX) (d : LD) : TE := fun σ H Q => ∃ L m ρ, Rep K L H m ∧ EnvIs K L H σ ρ ∧ Go K W σ L H (d ρ m) fun ps _ L' H' => ∀ a vs, H a = none → H' a = some (.lst vs) → a ∉ L' → IsAll K L' H' vs ps → Q (.ref a) H'
def liftS (K : PySem.W.Frag) (W : WX) (d : DS) : TS := fun D σ H => ∃ L m ρ, Rep K L H m ∧ EnvIs K L H σ ρ ∧ match d ρ m with
  | .ok f ρ' m' => ∀ σ' L' H', Ext L H L' H' → Rep K L' H' m' → EnvIs K L' H' σ' ρ' → match f with
    | .nx => D.nx σ' H'
    | .bk => D.bk σ' H'
    | .ct => D.ct σ' H'
    | .rt p => ∀ v, Is K L' H' v p → D.rt v H'
  | .exc c x ρ' m' => match W with
    | none => False
    | some w => ∀ σ' L' H' cls e, Ext L H L' H' → Rep K L' H' m' → EnvIs K L' H' σ' ρ' → ExIs K L' H' c x cls e → w cls e σ' H'
  | .bad => False
def PDE (X : Cx) (W : WX) (e : Expr) (d : D) : Prop := PE X e (lift X.K W d)
def PDT (X : Cx) (W : WX) (e : Expr) (d : T) : Prop := PT X e (liftT X.K W d)
def PDA (X : Cx) (W : WX) (e : List Expr) (d : A) : Prop := PA X e (liftA X.K W d)
def PDL (X : Cx) (W : WX) (e : Expr) (d : LD) : Prop := PE X e (liftL X.K W d)
def PDS (X : Cx) (W : WX) (s : Stmt) (d : DS) : Prop := PS X s (liftS X.K W d)
def PDSs (X : Cx) (W : WX) (s : List Stmt) (d : DS) : Prop := PSs X s (liftS X.K W d)
theorem pe_weak {X : Cx} {e : Expr} {t t' : TE} (h : PE X e t) (w : ∀ σ H Q, t' σ H Q → t σ H Q) : PE X e t' := ⟨fun pins s σ H Q I q => h.run pins s σ H Q I (w σ H Q q)⟩
theorem pt_weak {X : Cx} {e : Expr} {t t' : TT} (h : PT X e t) (w : ∀ σ H Q, t' σ H Q → t σ H Q) : PT X e t' := ⟨fun pins s σ H Q I q => h.run pins s σ H Q I (w σ H Q q)⟩
theorem pa_weak {X : Cx} {e : List Expr} {t t' : TA} (h : PA X e t) (w : ∀ σ H Q, t' σ H Q → t σ H Q) : PA X e t' := ⟨fun pos pins s σ H Q I q => h.run pos pins s σ H Q I (w σ H Q q)⟩
theorem ps_weak {X : Cx} {e : Stmt} {t t' : TS} (h : PS X e t) (w : ∀ D σ H, t' D σ H → t D σ H) : PS X e t' := ⟨fun pins s σ H D I q => h.run pins s σ H D I (w D σ H q)⟩
theorem pss_weak {X : Cx} {e : List Stmt} {t t' : TS} (h : PSs X e t) (w : ∀ D σ H, t' D σ H → t D σ H) : PSs X e t' := ⟨fun pins s σ H D I q => h.run pins s σ H D I (w D σ H q)⟩

section
variable {α β : Type} {K : PySem.W.Frag} {W : WX} {σ : St} {L L' : List Addr} {H H' : Hp} {m : Hm} {ρ : Env}
/-- the first part of a row of parts -/
theorem lift_bnd {d : D} {f : P → M β} {F : β → Hm → List Addr → Hp → Prop} (r : Rep K L H m) (e : EnvIs K L H σ ρ) (g : Go K W σ L H (bnd (d ρ) f m) F) {Q : VK}
    (h : ∀ x p m1 L1 H1, Ext L H L1 H1 → Rep K L1 H1 m1 → EnvIs K L1 H1 σ ρ → Is K L1 H1 x p → Go K W σ L1 H1 (f p m1) F → Q x H1) : lift K W d σ H Q :=
  ⟨L, m, ρ, r, e, g.bnd.imp fun a m' L' H' _ x r' g' v hv => h v a m' L' H' x r' (e.mono r x) hv g'⟩
theorem liftT_bnd {d : T} {f : Bool → M β} {F : β → Hm → List Addr → Hp → Prop} (r : Rep K L H m) (e : EnvIs K L H σ ρ) (g : Go K W σ L H (bnd (d ρ) f m) F) {Q : Bool → Hp → Prop}
    (h : ∀ b m1 L1 H1, Ext L H L1 H1 → Rep K L1 H1 m1 → EnvIs K L1 H1 σ ρ → Go K W σ L1 H1 (f b m1) F → Q b H1) : liftT K W d σ H Q :=
  ⟨L, m, ρ, r, e, g.bnd.imp fun a m' L' H' _ x r' g' => h a m' L' H' x r' (e.mono r x) g'⟩
theorem liftA_bnd {d : A} {f : List P → M β} {F : β → Hm → List Addr → Hp → Prop} (r : Rep K L H m) (e : EnvIs K L H σ ρ) (g : Go K W σ L H (bnd (d ρ) f m) F) {Q : List V → Hp → Prop}
    (h : ∀ xs ps m1 L1 H1, Ext L H L1 H1 → Rep K L1 H1 m1 → EnvIs K L1 H1 σ ρ → IsAll K L1 H1 xs ps → Go K W σ L1 H1 (f ps m1) F → Q xs H1) : liftA K W d σ H Q :=
  ⟨L, m, ρ, r, e, g.bnd.imp fun a m' L' H' _ x r' g' v hv => h v a m' L' H' x r' (e.mono r x) hv g'⟩
theorem liftL_bnd {d : LD} {f : List P → M β} {F : β → Hm → List Addr → Hp → Prop} (r : Rep K L H m) (e : EnvIs K L H σ ρ) (g : Go K W σ L H (bnd (d ρ) f m) F) {Q : VK}
    (h : ∀ a vs ps m1 L1 H1, Ext L H L1 H1 → Rep K L1 H1 m1 → EnvIs K L1 H1 σ ρ → H a = none → H1 a = some (.lst vs) → a ∉ L1 → IsAll K L1 H1 vs ps → Go K W σ L H (f ps m1) F → Q (.ref a) H1) : liftL K W d σ H Q := by
  refine ⟨L, m, ρ, r, e, ?_⟩
  unfold G.bnd at g
  cases q : d ρ m with
  | ok ps m1 =>
    rw [q] at g
    exact fun L1 H1 x r1 a vs h0 h1 h2 h3 => h a vs ps m1 L1 H1 x r1 (e.mono r x) h0 h1 h2 h3 g
  | exc c x m1 => rw [q] at g; exact g
  | bad => rw [q] at g; exact g

/-- a new thing that is not ours -/
theorem ext_new {a : Addr} {o : HO} (h : H a = none) : Ext L H L (upd H a o) :=
  ⟨⟨[], by simp⟩, fun b u e _ => by rw [upd_ne (ne_of_none e h)]; exact e, fun b e => by
    by_cases hb : b = a
    · subst hb; rw [upd_same]; simp
    · rw [upd_ne hb]; exact e⟩
theorem stay_new {a : Addr} {o : HO} (h : H a = none) : Stay L H L (upd H a o) := ⟨fun b u e _ => by rw [upd_ne (ne_of_none e h)]; exact e, fun _ _ h => h⟩
theorem Rep.mono_new (r : Rep K L H m) {a : Addr} {o : HO} (h : H a = none) : Rep K L (upd H a o) m :=
  ⟨r.nd, r.len, fun i b u h1 h2 => (r.obj i b u h1 h2).stay (stay_new h) (upd_ne fun z => r.new h (z ▸ List.mem_of_getElem? h1))⟩
theorem stay_link (L : List Addr) (H : Hp) (a : Addr) : Stay L H (L ++ [a]) H := ⟨fun _ _ h _ => h, fun n b h => by rw [List.getElem?_append_left (List.getElem?_eq_some_iff.mp h).1]; exact h⟩
/-- a thing that stands becomes ours -/
theorem Rep.link (r : Rep K L H m) {a : Addr} {o : O} (n : a ∉ L) (h : ObjIs K L H a o) : Rep K (L ++ [a]) H (m ++ [o]) := by
  refine ⟨List.nodup_append.mpr ⟨r.nd, by simp, fun x hx y hy e => n (by rw [List.mem_singleton.mp hy] at e; exact e ▸ hx)⟩, by simp [r.len], fun i b u h1 h2 => ?_⟩
  by_cases hi : i < L.length
  · rw [List.getElem?_append_left hi] at h1
    rw [List.getElem?_append_left (by rw [← r.len]; exact hi)] at h2
    exact (r.obj i b u h1 h2).stay (stay_link L H a) rfl
  · rw [List.getElem?_append_right (by omega)] at h1
    rw [List.getElem?_append_right (by rw [← r.len]; omega)] at h2
    have e1 : i - L.length = 0 := by
      have := (List.getElem?_eq_some_iff.mp h1).1
      simp at this; omega
    rw [e1] at h1; rw [← r.len, e1] at h2
    simp at h1 h2; subst h1 h2
    exact h.stay (stay_link L H _) rfl
/-- .. seen from a state in which it was not there -/
theorem Ext.link {L0 : List Addr} {H0 : Hp} (e : Ext L0 H0 L H) {a : Addr} (h : H0 a = none) : Ext L0 H0 (L ++ [a]) H := by
  obtain ⟨N, e1, f⟩ := e.pre
  refine ⟨⟨N ++ [a], by rw [e1, List.append_assoc], fun c hc => ?_⟩, e.keep, e.grow⟩
  rcases List.mem_append.mp hc with hc | hc
  · exact f c hc
  · rw [List.mem_singleton.mp hc]; exact h
/-- one of ours is written -/
theorem ext_put {n : Nat} {a : Addr} {o : HO} (h : L[n]? = some a) : Ext L H L (upd H a o) :=
  ⟨⟨[], by simp⟩, fun b u e hb => by
    have hne : b ≠ a := fun z => hb (by rw [z]; exact List.mem_of_getElem? h)
    rw [upd_ne hne]; exact e, fun b e => by
    by_cases hb : b = a
    · subst hb; rw [upd_same]; simp
    · rw [upd_ne hb]; exact e⟩
theorem Rep.put (r : Rep K L H m) {n : Nat} {a : Addr} {u : HO} {o : O} (h : L[n]? = some a) (hu : Ours u) (ho : ObjIs K L (upd H a u) a o) : Rep K L (upd H a u) (m.set n o) := by
  refine ⟨r.nd, by simp [r.len], fun i b w h1 h2 => ?_⟩
  have st : Stay L H L (upd H a u) := (ext_put h).stay r
  by_cases hi : n = i
  · subst hi
    rw [h] at h1; cases h1
    have hl : n < m.length := by rw [← r.len]; exact (List.getElem?_eq_some_iff.mp h).1
    rw [List.getElem?_set_self hl] at h2; cases h2
    exact ho
  · rw [List.getElem?_set_ne hi] at h2
    refine (r.obj i b w h1 h2).stay st (upd_ne fun z => hi ?_)
    subst z
    have l1 := (List.getElem?_eq_some_iff.mp h).1
    have l2 := (List.getElem?_eq_some_iff.mp h1).1
    exact (List.getElem_inj r.nd).mp (((List.getElem?_eq_some_iff.mp h).2).trans ((List.getElem?_eq_some_iff.mp h1).2).symm)
theorem Rep.lst (r : Rep K L H m) {n : Nat} {a : Addr} {ps : List P} (h : L[n]? = some a) (hm : m[n]? = some (.lst ps)) : ∃ vs, H a = some (.lst vs) ∧ IsAll K L H vs ps := r.obj n a _ h hm
end
end G

/-! G3: expressions: for each combinator, that the model does what it says. -/
namespace G
open PySem PySem.Spec L2

structure Cok (X : Cx) : Prop where
  calm : X.calm = true
  nd : X.N.Nodup
  hu : X.A.units + 150 < cLine
  hg : X.A.guards = some []

section
variable {X : Cx} {W : WX} {a b c e i o : Expr} {es : List Expr} {pos p1 p2 : Pos}
theorem pd_var {i : Nat} {x : Str} (hN : X.N[i]? = some x := by rfl) (hv : Vis X.env.scope x := by first | exact Or.inl rfl | exact Or.inr (Or.inl rfl) | exact Or.inr (Or.inr rfl)) (hd : (x == ("__debug__" : Str)) = false := by decide)
    (hcd : (x == ("__classdict__" : Str)) = false := by decide) : PDE X W (.Name x pos) (dVar i) := pe_weak (pe_var hN hv hd hcd) fun σ H Q ⟨L, m, ρ, r, e, g⟩ => by
  unfold dVar at g
  split at g
  · rename_i p h
    obtain ⟨v, h1, h2⟩ := e.at_ i p h
    exact ⟨v, h1, g L H (Ext.refl L H) r v h2⟩
  · exact False.elim g
theorem pd_c {v : V} {p : P} (h : PE X e (tC v)) (hp : ∀ L H, Is X.K L H v p) : PDE X W e (dC p) := pe_weak h fun σ H Q ⟨L, m, ρ, r, e, g⟩ => g L H (Ext.refl L H) r v (hp L H)
theorem pd_int {i : Int} {j} : PDE X W (.Constant (.int i) j pos) (dC (.int i)) := pd_c pe_int fun _ _ => .int i
theorem pd_bl {b : Bool} {j} : PDE X W (.Constant (.bool b) j pos) (dC (.bl b)) := pd_c pe_bl fun _ _ => .bl b
theorem pd_non {j} : PDE X W (.Constant .none j pos) (dC .non) := pd_c pe_non fun _ _ => .non
theorem pd_str {x : Str} {j} : PDE X W (.Constant (.str x) j pos) (dC (.str x)) := pd_c pe_str fun _ _ => .str x

/-! ### operators -/
def rOf (K : PySem.W.Frag) (W : WX) (f : P → P → M P) : R2 := fun x y H Q => ∃ (L : List Addr) (m : Hm) (σ : L2.St) (p q : P), Rep K L H m ∧ Is K L H x p ∧ Is K L H y q ∧ Go K W σ L H (f p q m) fun z _ L' H' => ∀ v, Is K L' H' v z → Q v H'
def rOf1 (K : PySem.W.Frag) (W : WX) (f : P → M P) : V → Hp → VK → Prop := fun x H Q => ∃ (L : List Addr) (m : Hm) (σ : L2.St) (p : P), Rep K L H m ∧ Is K L H x p ∧ Go K W σ L H (f p m) fun z _ L' H' => ∀ v, Is K L' H' v z → Q v H'
def OpS (X : Cx) (W : WX) (g : Value → Value → Sem Value) (f : P → P → M P) : Prop := OpR X g (rOf X.K W f)
theorem lift2 {K : PySem.W.Frag} {f : P → P → M P} {da db : D} {σ : L2.St} {H : Hp} {Q : VK} (h : lift K W (dOp f da db) σ H Q) : tOp (rOf K W f) (lift K W da) (lift K W db) σ H Q := by
  obtain ⟨L, m, ρ, r, e, g⟩ := h
  exact lift_bnd r e g fun x p m1 L1 H1 x1 r1 e1 i1 g1 => lift_bnd r1 e1 g1 fun y q m2 L2 H2 x2 r2 e2 i2 g2 => ⟨L2, m2, σ, p, q, r2, i1.mono r1 x2, i2, g2⟩
theorem lift1 {K : PySem.W.Frag} {f : P → M P} {da : D} {σ : L2.St} {H : Hp} {Q : VK} (h : lift K W (dUn f da) σ H Q) : lift K W da σ H fun x H1 => rOf1 K W f x H1 Q := by
  obtain ⟨L, m, ρ, r, e, g⟩ := h
  exact lift_bnd r e g fun x p m1 L1 H1 x1 r1 e1 i1 g1 => ⟨L1, m1, σ, p, r1, i1, g1⟩
theorem pd_op {op : Operator} {f : P → P → M P} {da db : D} (ho : OpS X W (binaryOp op) f) (ha : PDE X W a da) (hb : PDE X W b db) : PDE X W (.BinOp a op b pos) (dOp f da db) :=
  pe_weak (pe_op ho ha hb) fun _ _ _ h => lift2 h
theorem pd_cmp {op : CmpOp} {f : P → P → M P} {da db : D} (ho : OpS X W (compareOp op) f) (ha : PDE X W a da) (hb : PDE X W b db) (hm : behindInMarks op b = false := by first | exact nobehind _ (by decide) (by decide) | rfl) : PDE X W (.Compare a [op] [b] pos) (dOp f da db) :=
  pe_weak (pe_cmpR ho ha hb hm) fun _ _ _ h => lift2 h
theorem pd_un {op : UnaryOp} {f : P → M P} {da : D} (ho : UnR X (unaryOp op) (rOf1 X.K W f)) (ha : PDE X W a da) : PDE X W (.UnaryOp op a pos) (dUn f da) :=
  pe_weak (pe_un ho ha) fun _ _ _ h => lift1 h
theorem pd_isN {da : D} {j} (ha : PDE X W a da) : PDE X W (.Compare a [.Is] [.Constant .none j p1] pos) (dUn uIsN da) := by
  refine pe_weak (pe_cmp (pc_isN ha)) fun σ H Q h => ?_
  obtain ⟨L, m, ρ, r, e, g⟩ := h
  refine lift_bnd r e g fun x p m1 L1 H1 x1 r1 e1 i1 g1 => ?_
  have q := g1.ret r1
  have hx : decide (x = V.non) = isNon p := by cases i1 <;> rfl
  rw [hx]
  exact q _ (.bl _)
theorem pd_notN {da : D} {j} (ha : PDE X W a da) : PDE X W (.Compare a [.IsNot] [.Constant .none j p1] pos) (dUn uNotN da) := by
  refine pe_weak (pe_cmp (pc_notN ha)) fun σ H Q h => ?_
  obtain ⟨L, m, ρ, r, e, g⟩ := h
  refine lift_bnd r e g fun x p m1 L1 H1 x1 r1 e1 i1 g1 => ?_
  have q := g1.ret r1
  have hx : decide (x = V.non) = isNon p := by cases i1 <;> rfl
  rw [hx]
  exact q _ (.bl _)

/-! ### tests -/
theorem Is.non_iff {K : PySem.W.Frag} {L : List Addr} {H : Hp} {x : V} {p : P} (h : Is K L H x p) : decide (x = V.non) = isNon p := by cases h <;> rfl
theorem pt_isN {da : D} {j} (ha : PDE X W a da) : PDT X W (.Compare a [.Is] [.Constant .none j p1] pos) (tVal (dUn uIsN da)) := by
  refine pt_weak (pt_cmp (pc_isN ha)) fun σ H Q ⟨L, m, ρ, r, e, g⟩ => ?_
  unfold tVal dUn at g
  rw [bnd_assoc] at g
  refine lift_bnd r e g fun x p m1 L1 H1 x1 r1 e1 i1 g1 => ⟨_, rfl, ?_⟩
  rw [i1.non_iff]
  exact Go.ret (a := isNon p) g1 r1
theorem pt_notN {da : D} {j} (ha : PDE X W a da) : PDT X W (.Compare a [.IsNot] [.Constant .none j p1] pos) (tVal (dUn uNotN da)) := by
  refine pt_weak (pt_cmp (pc_notN ha)) fun σ H Q ⟨L, m, ρ, r, e, g⟩ => ?_
  unfold tVal dUn at g
  rw [bnd_assoc] at g
  refine lift_bnd r e g fun x p m1 L1 H1 x1 r1 e1 i1 g1 => ⟨_, rfl, ?_⟩
  rw [i1.non_iff]
  exact Go.ret (a := !isNon p) g1 r1
/-- what a value's use as a truth value asks -/
theorem go_asB {K : PySem.W.Frag} {L : List Addr} {H : Hp} {m : Hm} {σ : L2.St} {x : V} {p : P} {Q : Bool → Hp → Prop} (r : Rep K L H m) (h : Is K L H x p) (g : Go K W σ L H (asB p m) fun b _ L' H' => Q b H') : ∃ k, x = .bl k ∧ Q k H := by
  cases h with
  | bl b => exact ⟨b, rfl, Go.ret (a := b) g r⟩
  | _ => exact False.elim g
theorem pt_cmpG {op : CmpOp} {f : P → P → M P} {da db : D} (ho : OpS X W (compareOp op) f) (ha : PDE X W a da) (hb : PDE X W b db) (hm : behindInMarks op b = false := by first | exact nobehind _ (by decide) (by decide) | rfl) : PDT X W (.Compare a [op] [b] pos) (tVal (dOp f da db)) := by
  refine pt_weak (pt_cmpR ho ha hb hm) fun σ H Q ⟨L, m, ρ, r, e, g⟩ => ?_
  unfold tVal dOp at g
  simp only [bnd_assoc] at g
  refine lift_bnd r e g fun x p m1 L1 H1 x1 r1 e1 i1 g1 => lift_bnd r1 e1 g1 fun y q m2 L2 H2 x2 r2 e2 i2 g2 => ⟨L2, m2, σ, p, q, r2, i1.mono r1 x2, i2, ?_⟩
  exact g2.bnd.imp fun z m3 L3 H3 _ x3 r3 g3 v hv => go_asB r3 hv g3
theorem TruV_of {K : PySem.W.Frag} {L : List Addr} {H : Hp} {m : Hm} {σ : L2.St} {x : V} {p : P} {Q : Bool → Hp → Prop} (r : Rep K L H m) (h : Is K L H x p) (g : Go K W σ L H (truth p m) fun b _ L' H' => Q b H') : ∃ k, TruV K x H k ∧ Q k H := by
  cases h with
  | non => exact ⟨false, rfl, Go.ret (a := false) g r⟩
  | bl b => exact ⟨b, rfl, Go.ret (a := b) g r⟩
  | int i => exact ⟨_, rfl, Go.ret (a := i != 0) g r⟩
  | @tup a vs ps h1 h2 =>
    refine ⟨!ps.isEmpty, .inr (.inl ⟨vs, .inl (.inl h1), ?_⟩), Go.ret (a := !ps.isEmpty) g r⟩
    have := h2.length
    cases vs <;> cases ps <;> simp_all
  | _ => exact False.elim g
theorem pt_any {da : D} (ha : PDE X W a da) (he : ∀ whole, isTrue a X.env whole = (do let v ← whole; standAt a.pos; holding [v] (truthy v)) := by intro _; rfl) : PDT X W a (tTru da) := by
  refine pt_weak (t := fun σ H Q => lift X.K W da σ H fun x H1 => ∃ k, TruV X.K x H1 k ∧ Q k H1) ⟨fun pins s σ H Q I h => ?_⟩ fun σ H Q ⟨L, m, ρ, r, e, g⟩ => ?_
  · exact PyProof.Rows.isTrue_plain (L2.thn (ha.run pins s σ H _ I h) fun v s1 ⟨x, H1, I1, r1, q1⟩ => tru_ok pins s1 σ H1 x v Q I1 r1 q1) (he _)
  · exact lift_bnd r e g fun x p m1 L1 H1 x1 r1 e1 i1 g1 => TruV_of r1 i1 g1
def PDW (X : Cx) (W : WX) (e : Expr) (d : T) : Prop := PW X e (liftT X.K W d)
theorem pw_weak {e : Expr} {t t' : TT} (h : PW X e t) (w : ∀ σ H Q, t' σ H Q → t σ H Q) : PW X e t' := ⟨fun wh pins s σ H Q I q => h.run wh pins s σ H Q I (w σ H Q q)⟩
theorem PDW.pt {d : T} (h : PDW X W e d) : PDT X W e d := PW.pt h
theorem pw_and1G {d : T} (h : PDT X W a d) : PDW X W (.BoolOp .And [a] pos) d := pw_and1 h
theorem pw_or1G {d : T} (h : PDT X W a d) : PDW X W (.BoolOp .Or [a] pos) d := pw_or1 h
theorem pw_andG {d d' : T} (h : PDT X W a d) (h' : PDW X W (.BoolOp .And (b :: es) pos) d') : PDW X W (.BoolOp .And (a :: b :: es) pos) (tAnd d d') := by
  refine pw_weak (pw_and h h') fun σ H Q ⟨L, m, ρ, r, e, g⟩ => ?_
  refine liftT_bnd r e g fun k m1 L1 H1 x1 r1 e1 g1 => ?_
  cases k with
  | true => exact ⟨L1, m1, ρ, r1, e1, g1⟩
  | false => exact Go.ret (a := false) g1 r1
theorem pw_orG {d d' : T} (h : PDT X W a d) (h' : PDW X W (.BoolOp .Or (b :: es) pos) d') : PDW X W (.BoolOp .Or (a :: b :: es) pos) (tOr d d') := by
  refine pw_weak (pw_or h h') fun σ H Q ⟨L, m, ρ, r, e, g⟩ => ?_
  refine liftT_bnd r e g fun k m1 L1 H1 x1 r1 e1 g1 => ?_
  cases k with
  | true => exact Go.ret (a := true) g1 r1
  | false => exact ⟨L1, m1, ρ, r1, e1, g1⟩
theorem pt_notG {d : T} (h : PDT X W a d) : PDT X W (.UnaryOp .Not a pos) (tNot d) := by
  refine pt_weak (pt_not h) fun σ H Q ⟨L, m, ρ, r, e, g⟩ => ?_
  exact liftT_bnd r e g fun k m1 L1 H1 x1 r1 e1 g1 => Go.ret (a := !k) g1 r1
theorem pd_if {t : T} {da db : D} (hc : PDT X W c t) (ha : PDE X W a da) (hb : PDE X W b db) : PDE X W (.IfExp c a b pos) (dIf t da db) := by
  refine pe_weak (pe_ifExp hc ha hb) fun σ H Q ⟨L, m, ρ, r, e, g⟩ => ?_
  refine liftT_bnd r e g fun k m1 L1 H1 x1 r1 e1 g1 => ?_
  cases k with
  | true => exact ⟨L1, m1, ρ, r1, e1, g1⟩
  | false => exact ⟨L1, m1, ρ, r1, e1, g1⟩

/-! ### and, or, not as values -/
theorem pd_one {op} {d : D} (h : PDE X W a d) : PDE X W (.BoolOp op [a] pos) d := pe_one h
theorem pd_and {da db : D} (ha : PDE X W a da) (hb : PDE X W (.BoolOp .And (b :: es) pos) db) : PDE X W (.BoolOp .And (a :: b :: es) pos) (dAnd da db) := by
  refine pe_weak (pe_and ha hb) fun σ H Q ⟨L, m, ρ, r, e, g⟩ => ?_
  refine lift_bnd r e g fun x p m1 L1 H1 x1 r1 e1 i1 g1 => ?_
  cases i1 with
  | bl k =>
    refine ⟨k, rfl, ?_⟩
    cases k with
    | true => exact ⟨L1, m1, ρ, r1, e1, g1⟩
    | false => exact Go.ret (a := P.bl false) g1 r1 _ (.bl _)
  | _ => exact False.elim g1
theorem pd_or {da db : D} (ha : PDE X W a da) (hb : PDE X W (.BoolOp .Or (b :: es) pos) db) : PDE X W (.BoolOp .Or (a :: b :: es) pos) (dOr da db) := by
  refine pe_weak (pe_or ha hb) fun σ H Q ⟨L, m, ρ, r, e, g⟩ => ?_
  refine lift_bnd r e g fun x p m1 L1 H1 x1 r1 e1 i1 g1 => ?_
  cases i1 with
  | bl k =>
    refine ⟨k, rfl, ?_⟩
    cases k with
    | false => exact ⟨L1, m1, ρ, r1, e1, g1⟩
    | true => exact Go.ret (a := P.bl true) g1 r1 _ (.bl _)
  | _ => exact False.elim g1
theorem pd_not {da : D} (ha : PDE X W a da) : PDE X W (.UnaryOp .Not a pos) (dUn uNot da) := by
  refine pe_weak (pe_not ha) fun σ H Q ⟨L, m, ρ, r, e, g⟩ => ?_
  refine lift_bnd r e g fun x p m1 L1 H1 x1 r1 e1 i1 g1 => ?_
  cases i1 with
  | bl k => exact ⟨k, rfl, Go.ret (a := P.bl (!k)) g1 r1 _ (.bl _)⟩
  | _ => exact False.elim g1
theorem pd_chain {op op' : CmpOp} {f f' : P → P → M P} {da db dc : D} (ho : OpS X W (compareOp op) f) (ho' : OpS X W (compareOp op') f') (ha : PDE X W a da) (hb : PDE X W b db) (hc : PDE X W c dc)
    (hm : lastMarks [op, op'] [b, c] = false := by with_unfolding_all rfl) : PDE X W (.Compare a [op, op'] [b, c] pos) (dChain f f' da db dc) := by
  refine pe_weak (pe_chain ho ho' ha hb hc hm) fun σ H Q ⟨L, m, ρ, r, e, g⟩ => ?_
  refine lift_bnd r e g fun x p m1 L1 H1 x1 r1 e1 i1 g1 => lift_bnd r1 e1 g1 fun y q m2 L2 H2 x2 r2 e2 i2 g2 => ⟨L2, m2, σ, p, q, r2, i1.mono r1 x2, i2, g2.bnd.imp fun z m3 L3 H3 _ x3 r3 g3 v hv => ?_⟩
  cases hv with
  | bl k =>
    refine ⟨k, rfl, ?_⟩
    cases k with
    | true => exact lift_bnd r3 (e2.mono r2 x3) g3 fun w qw m4 L4 H4 x4 r4 e4 i4 g4 => ⟨L4, m4, σ, q, qw, r4, (i2.mono r2 x3).mono r3 x4, i4, g4⟩
    | false => exact Go.ret (a := P.bl false) g3 r3 _ (.bl _)
  | _ => exact False.elim g3
theorem pt_chainG {op op' : CmpOp} {f f' : P → P → M P} {da db dc : D} (ho : OpS X W (compareOp op) f) (ho' : OpS X W (compareOp op') f') (ha : PDE X W a da) (hb : PDE X W b db) (hc : PDE X W c dc)
    (hm : lastMarks [op, op'] [b, c] = false := by with_unfolding_all rfl) : PDT X W (.Compare a [op, op'] [b, c] pos) (tVal (dChain f f' da db dc)) := by
  refine pt_weak (pt_chain ho ho' ha hb hc hm) fun σ H Q ⟨L, m, ρ, r, e, g⟩ => ?_
  unfold tVal dChain at g
  simp only [bnd_assoc] at g
  refine lift_bnd r e g fun x p m1 L1 H1 x1 r1 e1 i1 g1 => lift_bnd r1 e1 g1 fun y q m2 L2 H2 x2 r2 e2 i2 g2 => ⟨L2, m2, σ, p, q, r2, i1.mono r1 x2, i2, g2.bnd.imp fun z m3 L3 H3 _ x3 r3 g3 v hv => ?_⟩
  cases hv with
  | bl k =>
    refine ⟨k, rfl, ?_⟩
    cases k with
    | true =>
      have g3' : Go X.K W σ L3 H3 (bnd (bnd (dc ρ) fun w => f' q w) asB m3) _ := g3
      rw [bnd_assoc] at g3'
      exact lift_bnd r3 (e2.mono r2 x3) g3' fun w qw m4 L4 H4 x4 r4 e4 i4 g4 => ⟨L4, m4, σ, q, qw, r4, (i2.mono r2 x3).mono r3 x4, i4, g4.bnd.imp fun z m5 L5 H5 _ x5 r5 g5 v hv => go_asB r5 hv g5⟩
    | false => exact ⟨false, rfl, Go.ret (a := false) g3 r3⟩
  | _ => exact False.elim g3

/-! ### argument lists and displays -/
theorem pda_nil : PDA X W [] aNil := pa_weak pa_nil fun σ H Q ⟨L, m, ρ, r, e, g⟩ => g L H (Ext.refl L H) r [] .nil
theorem pda_cons {d : D} {t : A} (ha : PDE X W e d) (hr : PDA X W es t) (hs : starEach (e :: es) X.env = (false, eval e X.env) :: starEach es X.env := by rfl) : PDA X W (e :: es) (aCons d t) := by
  refine pa_weak (pa_cons ha hr hs) fun σ H Q ⟨L, m, ρ, r, e, g⟩ => ?_
  exact lift_bnd r e g fun x p m1 L1 H1 x1 r1 e1 i1 g1 => liftA_bnd r1 e1 g1 fun xs ps m2 L2 H2 x2 r2 e2 i2 g2 => Go.ret (a := p :: ps) g2 r2 _ (.cons (i1.mono r1 x2) i2)
theorem pd_tup {t : A} {k : Nat} (h : PDA X W es t) : PDE X W (.Tuple es k pos) (dTup t) := by
  refine pe_weak (pe_tup h) fun σ H Q ⟨L, m, ρ, r, e, g⟩ => ?_
  refine liftA_bnd r e g fun xs ps m1 L1 H1 x1 r1 e1 i1 g1 => ?_
  obtain ⟨b, g2⟩ := g1.when_
  refine ⟨by rw [i1.length]; exact of_decide_eq_true b, fun p hp => ?_⟩
  exact g2 L1 (upd H1 p (.tup xs)) (ext_new hp) (r1.mono_new hp) _ (.tup upd_same (i1.stay (stay_new hp)))
theorem pdl_lst {t : A} (h : PDA X W es t) : PDL X W (.List es pos) (lLst t) := by
  refine pe_weak (pe_lst h) fun σ H Q ⟨L, m, ρ, r, e, g⟩ => ?_
  refine ⟨L, m, ρ, r, e, g.bnd.imp fun ps m1 L1 H1 _ x1 r1 g1 vs i1 => ?_⟩
  obtain ⟨b, g2⟩ := g1.when_
  refine ⟨by rw [i1.length]; exact of_decide_eq_true b, fun p hp => ?_⟩
  refine g2 L1 (upd H1 p (.lst vs)) (ext_new hp) (r1.mono_new hp) p vs ?_ upd_same (r1.new hp) (i1.stay (stay_new hp))
  cases q : H p with
  | none => rfl
  | some u => exact absurd hp (x1.grow p (by rw [q]; simp))
/-- a new list becomes ours -/
theorem pd_new {l : LD} (h : PDL X W e l) : PDE X W e (dNew l) := by
  refine pe_weak h fun σ H Q ⟨L, m, ρ, r, e, g⟩ => ?_
  refine liftL_bnd r e g fun a vs ps m1 L1 H1 x1 r1 e1 h0 h1 h2 h3 g1 => ?_
  exact g1 (L1 ++ [a]) H1 (x1.link h0) (r1.link h2 ⟨vs, h1, h3⟩) _ (.ref (by rw [← r1.len]; simp))
end
end G

/-! G4: operators by values. -/
namespace G
open PySem PySem.Spec L2
section
variable {X : Cx} {W : WX}
theorem op_i2 {g : Value → Value → Sem Value} {c : Int → Int → Bool} {f : Int → Int → P} {fv : Int → Int → V} {C : Int → Int → Prop} (ho : OpR X g (rI C fv)) (hc : ∀ i j, c i j = true → C i j) (hf : ∀ L H i j, Is X.K L H (fv i j) (f i j)) : OpS X W g (i2 c f) := by
  intro pins s σ H x y v u Q I rx ry ⟨L, m, σ', p, q, r, ip, iq, gg⟩
  cases ip with
  | int i =>
    cases iq with
    | int j =>
      have gg : Go X.K W σ' L H (when_ (c i j) (ret (f i j)) m) _ := gg
      obtain ⟨b, g2⟩ := gg.when_
      exact ho pins s σ H _ _ v u Q I rx ry ⟨i, j, rfl, rfl, hc i j b, Go.ret (a := f i j) g2 r _ (hf L H i j)⟩
    | _ => exact False.elim gg
  | _ => exact False.elim gg
theorem rI_of {g : Value → Value → Sem Value} {f : Int → Int → V} (h : OpR X g (rI0 f)) : OpR X g (rI (fun _ _ => True) f) := by
  intro pins s σ H x y v u Q I rx ry ⟨i, j, e1, e2, _, q⟩
  exact h pins s σ H x y v u Q I rx ry ⟨i, j, e1, e2, q⟩
theorem ob_sub : OpS X W (binaryOp .Sub) oSub := op_i2 (rI_of op_sub) (fun _ _ _ => trivial) fun _ _ _ _ => .int _
theorem ob_mod : OpS X W (binaryOp .Mod) oMod := op_i2 op_mod (fun _ _ h => of_decide_eq_true h) fun _ _ _ _ => .int _
theorem cDiv_ok {j : Int} (h : (decide (0 < j) && decide (j < 18446744073709551616)) = true) : 0 < j ∧ j.natAbs.log2 < 9000 := by
  simp only [Bool.and_eq_true, decide_eq_true_eq] at h
  refine ⟨h.1, ?_⟩
  have h1 : j.natAbs ≠ 0 := by omega
  have h2 : j.natAbs < 2 ^ 64 := by omega
  have := (Nat.log2_lt h1).mpr h2
  omega
theorem ob_div : OpS X W (binaryOp .FloorDiv) oDiv := op_i2 op_fdivW (fun _ _ h => cDiv_ok h) fun _ _ _ _ => .int _
theorem cPow_ok {i j : Int} (h : cPow i j = true) : CPow i j := by simpa [cPow, CPow, and_assoc] using h
theorem ob_pow : OpS X W (binaryOp .Pow) oPow := op_i2 op_pow (fun _ _ h => cPow_ok h) fun _ _ _ _ => .int _
theorem ob_shl : OpS X W (binaryOp .LShift) oShl := op_i2 op_shl (fun _ _ h => cPow_ok h) fun _ _ _ _ => .int _
theorem ob_shr : OpS X W (binaryOp .RShift) oShr := op_i2 op_shr (fun _ _ h => of_decide_eq_true h) fun _ _ _ _ => .int _
theorem ob_and : OpS X W (binaryOp .BitAnd) oAnd := op_i2 (rI_of op_and) (fun _ _ _ => trivial) fun _ _ _ _ => .int _
theorem ob_or : OpS X W (binaryOp .BitOr) oOr := op_i2 (rI_of op_or) (fun _ _ _ => trivial) fun _ _ _ _ => .int _
theorem ob_xor : OpS X W (binaryOp .BitXor) oXor := op_i2 (rI_of op_xor) (fun _ _ _ => trivial) fun _ _ _ _ => .int _
theorem un_negG : UnR X (unaryOp .USub) (rOf1 X.K W uNeg) := by
  intro pins s σ H x v Q I rx ⟨L, m, σ', p, r, ip, gg⟩
  cases ip with
  | int i => exact un_neg pins s σ H _ v Q I rx ⟨i, rfl, Go.ret (a := P.int (-i)) gg r _ (.int _)⟩
  | _ => exact False.elim gg
/-- a new list becomes ours, seen from where it was not there -/
theorem go_new {K : PySem.W.Frag} {L : List Addr} {H : Hp} {m : Hm} {σ : L2.St} {ps : List P} {vs : List V} {Q : VK} (r : Rep K L H m) (h : IsAll K L H vs ps) (g : Go K W σ L H (newO (.lst ps) m) fun z _ L' H' => ∀ v, Is K L' H' v z → Q v H') :
    ∀ p, H p = none → Q (.ref p) (upd H p (.lst vs)) := fun p hp => by
  refine g (L ++ [p]) (upd H p (.lst vs)) ((ext_new hp).link hp) ((r.mono_new hp).link (r.new hp) ⟨vs, upd_same, h.stay (stay_new hp)⟩) _ (.ref ?_)
  rw [← r.len]; simp
theorem go_tup {K : PySem.W.Frag} {L : List Addr} {H : Hp} {m : Hm} {σ : L2.St} {ps : List P} {vs : List V} {Q : VK} (r : Rep K L H m) (h : IsAll K L H vs ps) (g : Go K W σ L H (ret (.tup ps) m) fun z _ L' H' => ∀ v, Is K L' H' v z → Q v H') :
    ∀ p, H p = none → Q (.ref p) (upd H p (.tup vs)) := fun p hp =>
  g L (upd H p (.tup vs)) (ext_new hp) (r.mono_new hp) _ (.tup upd_same (h.stay (stay_new hp)))
theorem ob_add : OpS X W (binaryOp .Add) oAdd := by
  intro pins s σ H x y v u Q I rx ry ⟨L, m, σ', p, q, r, ip, iq, gg⟩
  cases ip with
  | int i =>
    cases iq with
    | int j => exact op_add pins s σ H _ _ v u Q I rx ry ⟨i, j, rfl, rfl, Go.ret (a := P.int (i + j)) gg r _ (.int _)⟩
    | _ => exact False.elim gg
  | str a =>
    cases iq with
    | str b =>
      have gg : Go X.K W σ' L H (when_ (decide (a.length + b.length ≤ SZ)) (ret (P.str (a ++ b))) m) _ := gg
      obtain ⟨b1, g2⟩ := gg.when_
      exact op_add_str pins s σ H _ _ v u Q I rx ry ⟨a, b, rfl, rfl, of_decide_eq_true b1, Go.ret (a := P.str (a ++ b)) g2 r _ (.str _)⟩
    | _ => exact False.elim gg
  | @tup a vs ps h1 h2 =>
    cases iq with
    | @tup b ws qs k1 k2 =>
      have gg : Go X.K W σ' L H (when_ (decide (ps.length + qs.length ≤ SZ)) (ret (P.tup (ps ++ qs))) m) _ := gg
      obtain ⟨b1, g2⟩ := gg.when_
      have b1 := of_decide_eq_true b1
      refine op_catA pins s σ H _ _ v u Q I rx ry ⟨a, b, vs, ws, rfl, rfl, .inl (.inl h1), .inl (.inl k1), by rw [h2.length, k2.length]; exact b1, fun e => ?_, fun _ e => ?_, fun _ _ => go_tup r (h2.append k2) g2⟩
      · subst e
        cases h2
        exact Go.ret (a := P.tup qs) g2 r _ (.tup k1 k2)
      · subst e
        cases k2
        rw [List.append_nil] at g2
        exact Go.ret (a := P.tup ps) g2 r _ (.tup h1 h2)
    | _ => exact False.elim gg
  | @ref a n h =>
    cases iq with
    | @ref b k h' =>
      obtain ⟨o, e1, gg⟩ := Go.getO gg
      cases o with
      | lst ps =>
        obtain ⟨o', e2, gg⟩ := Go.getO gg
        cases o' with
        | lst qs =>
          obtain ⟨b1, g2⟩ := Go.when_ gg
          have b1 := of_decide_eq_true b1
          obtain ⟨vs, h1, h2⟩ := r.lst h e1
          obtain ⟨ws, k1, k2⟩ := r.lst h' e2
          exact op_cat pins s σ H _ _ v u Q I rx ry ⟨a, b, vs, ws, rfl, rfl, h1, k1, by rw [h2.length, k2.length]; exact b1, go_new r (h2.append k2) g2⟩
        | _ => exact False.elim gg
      | _ => exact False.elim gg
    | _ => exact False.elim gg
  | _ => exact False.elim gg
theorem cMul_ok {i j : Int} (h : cMul i j = true) : CMul i j := by
  simp only [cMul, Bool.or_eq_true, Bool.and_eq_true, decide_eq_true_eq] at h
  exact h
theorem ob_mul : OpS X W (binaryOp .Mult) oMul := by
  intro pins s σ H x y v u Q I rx ry ⟨L, m, σ', p, q, r, ip, iq, gg⟩
  cases ip with
  | int i =>
    cases iq with
    | int j =>
      have gg : Go X.K W σ' L H (when_ (cMul i j) (ret (P.int (i * j))) m) _ := gg
      obtain ⟨b, g2⟩ := gg.when_
      exact op_mul pins s σ H _ _ v u Q I rx ry ⟨i, j, rfl, rfl, cMul_ok b, Go.ret (a := P.int (i * j)) g2 r _ (.int _)⟩
    | _ => exact False.elim gg
  | @ref a n h =>
    cases iq with
    | int k =>
      obtain ⟨o, e1, gg⟩ := Go.getO gg
      cases o with
      | lst ps =>
        obtain ⟨b1, g2⟩ := Go.when_ gg
        simp only [Bool.and_eq_true, decide_eq_true_eq] at b1
        obtain ⟨vs, h1, h2⟩ := r.lst h e1
        exact op_rep pins s σ H _ _ v u Q I rx ry ⟨a, k, vs, rfl, rfl, h1, b1.1.1, b1.1.2, by rw [h2.length]; exact b1.2, go_new r (h2.replicate _) g2⟩
      | _ => exact False.elim gg
    | _ => exact False.elim gg
  | _ => exact False.elim gg

/-! ### as data -/
theorem SqL_of_frz {K : PySem.W.Frag} {H : Hp} {a : Addr} {vs : List V} (h : (∃ ob, H a = some (.frz ob (.lst vs))) ∨ KL K a vs) : SqL K H a vs := by
  rcases h with ⟨ob, h⟩ | h
  · exact .inl (.inr ⟨ob, h⟩)
  · exact .inr h
theorem Dp_all {K : PySem.W.Frag} {L : List Addr} {H : Hp} {m : Hm} {f : Nat} (ih : ∀ p d v, dat m f p = some d → Is K L H v p → Dp K H v d) : ∀ (ps : List P) (ds : List PyData) (vs : List V), mapO (dat m f) ps = some ds → IsAll K L H vs ps → DpAll K H vs ds
  | [], ds, vs, h, i => by cases i; cases h; exact .nil
  | p :: ps, ds, vs, h, i => by
    cases i with
    | cons i1 i2 =>
      unfold mapO at h
      split at h
      · rename_i d hd
        split at h
        · rename_i es he
          cases h
          exact .cons (ih p d _ hd i1) (Dp_all ih ps es _ he i2)
        · cases h
      · cases h
theorem Dp_of {K : PySem.W.Frag} {L : List Addr} {H : Hp} {m : Hm} (r : Rep K L H m) : ∀ (f : Nat) (p : P) (d : PyData) (v : V), dat m f p = some d → Is K L H v p → Dp K H v d
  | 0, p, d, v, h, i => by
    cases i <;> first
      | (cases h; constructor)
      | (cases h)
  | f + 1, p, d, v, h, i => by
    have ih := Dp_of r f
    cases i with
    | non => cases h; exact .non
    | bl b => cases h; exact .bl b
    | int i => cases h; exact .int i
    | str x => cases h; exact .str x
    | tup h1 h2 =>
      obtain ⟨ds, e1, rfl⟩ := Option.map_eq_some_iff.mp (show (mapO (dat m f) _).map PyData.tuple = some d from h)
      exact .tup (.inl (.inl h1)) (Dp_all ih _ _ _ e1 h2)
    | kt h1 h2 =>
      obtain ⟨ds, e1, rfl⟩ := Option.map_eq_some_iff.mp (show (mapO (dat m f) _).map PyData.tuple = some d from h)
      exact .tup (.inr h1) (Dp_all ih _ _ _ e1 h2)
    | scr h1 h2 =>
      obtain ⟨ds, e1, rfl⟩ := Option.map_eq_some_iff.mp (show (mapO (dat m f) _).map PyData.list = some d from h)
      exact .lst (SqL_of_frz h1) (Dp_all ih _ _ _ e1 h2)
    | @ref a n h1 =>
      unfold dat at h
      split at h
      · rename_i ps e
        obtain ⟨ds, e1, rfl⟩ := Option.map_eq_some_iff.mp h
        obtain ⟨vs, k1, k2⟩ := r.lst h1 e
        exact .lst (.of k1) (Dp_all ih _ _ _ e1 k2)
      · cases h
theorem Go.asD {K : PySem.W.Frag} {L : List Addr} {H : Hp} {m : Hm} {σ : L2.St} {p : P} {β : Type} {f : PyData → M β} {F : β → Hm → List Addr → Hp → Prop} (r : Rep K L H m) (g : Go K W σ L H (G.bnd (G.asD p) f m) F) :
    ∃ d, dat m DD p = some d ∧ Go K W σ L H (f d m) F := by
  unfold G.bnd G.asD at g
  split at g
  · rename_i d m' e
    split at e
    · rename_i d' h
      cases e
      exact ⟨_, h, g⟩
    · cases e
  · rename_i e
    split at e <;> cases e
  · exact False.elim g
theorem scal_is {K : PySem.W.Frag} {L : List Addr} {H : Hp} {x y : V} {p q : P} {b : Bool} (e : scalP p q = some b) (i : Is K L H x p) (j : Is K L H y q) : scal x y = true ∧ decide (x = y) = b := by
  cases i <;> cases j <;> cases e <;> refine ⟨rfl, ?_⟩ <;> simp
theorem ob_eq (ok : Cok X) : OpS X W (compareOp .Eq) oEq := by
  intro pins s σ H x y v u Q I rx ry ⟨L, m, σ', p, q, r, ip, iq, gg⟩
  unfold oEq at gg
  cases hs : scalP p q with
  | some b =>
    simp only [hs] at gg
    obtain ⟨h1, h2⟩ := scal_is hs ip iq
    exact op_eq pins s σ H _ _ v u Q I rx ry ⟨h1, by rw [h2]; exact Go.ret (a := P.bl b) gg r _ (.bl _)⟩
  | none =>
    simp only [hs] at gg
    obtain ⟨d, e1, gg⟩ := Go.asD r gg
    obtain ⟨e, e2, gg⟩ := Go.asD r gg
    obtain ⟨b, g2⟩ := gg.when_
    simp only [Bool.and_eq_true] at b
    exact op_eqD (by have := ok.hu; omega) pins s σ H _ _ v u Q I rx ry ⟨d, e, Dp_of r _ _ _ _ e1 ip, Dp_of r _ _ _ _ e2 iq, b.1, b.2, by
      have k := Go.ret (a := P.bl (PyData.eqv d e != false)) g2 r _ (.bl _)
      rw [Bool.bne_false] at k
      exact k⟩
theorem ob_ne (ok : Cok X) : OpS X W (compareOp .NotEq) oNe := by
  intro pins s σ H x y v u Q I rx ry ⟨L, m, σ', p, q, r, ip, iq, gg⟩
  unfold oNe at gg
  cases hs : scalP p q with
  | some b =>
    simp only [hs] at gg
    obtain ⟨h1, h2⟩ := scal_is hs ip iq
    exact op_ne pins s σ H _ _ v u Q I rx ry ⟨h1, by rw [h2]; exact Go.ret (a := P.bl (!b)) gg r _ (.bl _)⟩
  | none =>
    simp only [hs] at gg
    obtain ⟨d, e1, gg⟩ := Go.asD r gg
    obtain ⟨e, e2, gg⟩ := Go.asD r gg
    obtain ⟨b, g2⟩ := gg.when_
    simp only [Bool.and_eq_true] at b
    exact op_neD (by have := ok.hu; omega) pins s σ H _ _ v u Q I rx ry ⟨d, e, Dp_of r _ _ _ _ e1 ip, Dp_of r _ _ _ _ e2 iq, b.1, b.2, by
      have k := Go.ret (a := P.bl (PyData.eqv d e != true)) g2 r _ (.bl _)
      rw [Bool.bne_true] at k
      exact k⟩
end
end G

/-! G5: dicts, in, order, subscripts, slices. -/
namespace G
open PySem PySem.Spec L2
/-! ### dicts -/
section
variable {κ : Type} [DecidableEq κ] {K : PySem.W.Frag} {L : List Addr} {H : Hp}
theorem KvIs.get {ws : List (κ × V)} {kvs : List (κ × P)} (h : KvIs K L H ws kvs) (k : κ) : (valV ws k = none ∧ vGet kvs k = none) ∨ ∃ v p, valV ws k = some v ∧ vGet kvs k = some p ∧ Is K L H v p := by
  unfold KvIs at h
  induction h with
  | nil => exact .inl ⟨rfl, rfl⟩
  | @cons x y xs ys r t ih =>
    obtain ⟨e, i⟩ := r
    by_cases hk : x.1 = k
    · refine .inr ⟨x.2, y.2, ?_, ?_, i⟩
      · simp [valV, List.find?_cons, hk]
      · simp [vGet, List.find?_cons, ← e, hk]
    · have e1 : valV (x :: xs) k = valV xs k := by simp [valV, List.find?_cons, hk]
      have e2 : vGet (y :: ys) k = vGet ys k := by simp [vGet, List.find?_cons, ← e, hk]
      rw [e1, e2]; exact ih
theorem KvIs.any {ws : List (κ × V)} {kvs : List (κ × P)} (h : KvIs K L H ws kvs) (k : κ) : (ws.any fun kv => decide (kv.1 = k)) = (kvs.any fun kv => decide (kv.1 = k)) := by
  unfold KvIs at h
  induction h with
  | nil => rfl
  | @cons x y xs ys r t ih => rw [List.any_cons, List.any_cons, ih, r.1]
theorem KvIs.snoc {ws : List (κ × V)} {kvs : List (κ × P)} (h : KvIs K L H ws kvs) {k : κ} {v : V} {p : P} (i : Is K L H v p) : KvIs K L H (ws ++ [(k, v)]) (kvs ++ [(k, p)]) := by
  unfold KvIs at h
  induction h with
  | nil => exact .cons ⟨rfl, i⟩ .nil
  | cons r t ih => exact .cons r ih
theorem KvIs.map {ws : List (κ × V)} {kvs : List (κ × P)} (h : KvIs K L H ws kvs) {k : κ} {v : V} {p : P} (i : Is K L H v p) : KvIs K L H (ws.map fun kv => if kv.1 = k then (kv.1, v) else kv) (kvs.map fun kv => if kv.1 = k then (kv.1, p) else kv) := by
  unfold KvIs at h
  induction h with
  | nil => exact .nil
  | @cons x y xs ys r t ih =>
    rw [List.map_cons, List.map_cons]
    refine .cons ?_ ih
    by_cases hk : x.1 = k
    · rw [if_pos hk, if_pos (r.1 ▸ hk)]; exact ⟨r.1, i⟩
    · rw [if_neg hk, if_neg (r.1 ▸ hk)]; exact r
theorem KvIs.put {ws : List (κ × V)} {kvs : List (κ × P)} (h : KvIs K L H ws kvs) (k : κ) {v : V} {p : P} (i : Is K L H v p) : KvIs K L H (putK ws k v) (vPut kvs k p) := by
  unfold putK vPut
  rw [h.any k]
  split
  · rename_i e; rw [e]; exact h.map i
  · rename_i e
    have e' := Bool.eq_false_iff.mpr e
    rw [e']; exact h.snoc i
theorem KvIs.length {ws : List (κ × V)} {kvs : List (κ × P)} (h : KvIs K L H ws kvs) : ws.length = kvs.length := Paired.length h
theorem keyOf_is {v : V} {p : P} {k : Key} (i : Is K L H v p) (e : keyOf p = some k) : v = kV k := by
  cases i <;> first | (cases e; rfl) | cases e
theorem keysOf_is : ∀ {ps : List P} {vs : List V} {ks : List Key}, IsAll K L H vs ps → mapO keyOf ps = some ks → vs = ks.map kV
  | [], _, _, .nil, e => by cases e; rfl
  | p :: ps, _, ks, .cons i1 i2, e => by
    unfold mapO at e
    split at e
    · rename_i k hk
      split at e
      · rename_i l hl
        cases e
        rw [List.map_cons, keyOf_is i1 hk, keysOf_is i2 hl]
      · cases e
    · cases e
theorem tkeyOf_is {v : V} {p : P} {k : List Key} (i : Is K L H v p) (e : tkeyOf p = some k) : ∃ b, v = .ref b ∧ H b = some (.tup (k.map kV)) := by
  cases i with
  | @tup a vs ps h1 h2 => exact ⟨a, rfl, by rw [h1, keysOf_is h2 e]⟩
  | _ => cases e
end
section
variable {X : Cx} {W : WX} {pins : List (Addr × Obj)} {σ : L2.St} {H : Hp} {s : Shared} {L : List Addr} {m : Hm}
/-- an empty dict may be either -/
theorem inv_dT (I : Inv X pins σ H s) {a : Addr} (h : H a = some (.dK [])) : Inv X pins σ (upd H a (.dT [])) s := by
  obtain ⟨z, hs, vs, rel, o, es, ep, ho, hx, hd, hk⟩ := (show ObjOk X.prog X.w H s.heap a (.dK []) from I.hok a _ h)
  cases rel
  have := I.write (h' := s.heap) (t' := s.toks) (x := a) (e := a) (o := .dT []) (by rw [h]; trivial) (.inl rfl) (fun b u _ q => q) ⟨_, ho⟩ ⟨Nat.zero_le _, hs, [], .nil, o, es, ep, ho, hx, hd, (by
    have q := hk.2.1
    generalize es.toList = l at q ⊢
    cases q; rfl), by simp⟩
  exact this
theorem Rep.dT (r : Rep X.K L H m) {n : Nat} {a : Addr} (h : L[n]? = some a) (hm : m[n]? = some (.dK [])) : Rep X.K L (upd H a (.dT [])) (m.set n (.dT [])) :=
  r.put h trivial ⟨[], upd_same, .nil⟩
/-- a look into a dict: the value's place in the abstract heap, perhaps told anew -/
theorem look_dict {n : Nat} {a : Addr} {y : V} {k : P} {β : Type} {f : Option P → M β} {F : β → Hm → List Addr → Hp → Prop} {σ' : L2.St} (I : Inv X pins σ H s) (r : Rep X.K L H m) (h : L[n]? = some a) (iy : Is X.K L H y k) (g : Go X.K W σ' L H (bnd (dLook n k) f m) F) :
    ∃ (H' : Hp) (m' : Hm) (o : Option V) (q : Option P), Inv X pins σ H' s ∧ Ext L H L H' ∧ Rep X.K L H' m' ∧ DGet H' a y o ∧ ((o = none ∧ q = none) ∨ ∃ v p, o = some v ∧ q = some p ∧ Is X.K L H' v p) ∧ Go X.K W σ' L H' (f q m') F := by
  unfold G.bnd dLook at g
  cases hm : m[n]? with
  | none => rw [hm] at g; exact False.elim g
  | some ob =>
    rw [hm] at g
    have ro := r.obj n a ob h hm
    cases ob with
    | dK kvs =>
      obtain ⟨ws, e, kv⟩ := ro
      cases hk : keyOf k with
      | some q =>
        simp only [hk] at g
        obtain rfl := keyOf_is iy hk
        refine ⟨H, m, valV ws q, vGet kvs q, I, Ext.refl L H, r, DGet.k e, ?_, g⟩
        rcases kv.get q with ⟨h1, h2⟩ | ⟨v, p, h1, h2, h3⟩
        · exact .inl ⟨h1, h2⟩
        · exact .inr ⟨v, p, h1, h2, h3⟩
      | none =>
        simp only [hk] at g
        cases kvs with
        | cons c cs => exact False.elim g
        | nil =>
          cases kv
          cases ht : tkeyOf k with
          | none => simp only [ht] at g; exact False.elim g
          | some q =>
            simp only [ht] at g
            obtain ⟨b, rfl, hb⟩ := tkeyOf_is iy ht
            have hba : b ≠ a := ne_of hb e (by intro z; cases z)
            exact ⟨upd H a (.dT []), m.set n (.dT []), none, none, inv_dT I e, ext_put h, r.dT h hm, DGet.t (kvs := []) (k := q) upd_same (by rw [upd_ne hba]; exact hb), .inl ⟨rfl, rfl⟩, Go.mono g (ext_put h)⟩
    | dT kvs =>
      obtain ⟨ws, e, kv⟩ := ro
      cases ht : tkeyOf k with
      | none => simp only [ht] at g; exact False.elim g
      | some q =>
        simp only [ht] at g
        obtain ⟨b, rfl, hb⟩ := tkeyOf_is iy ht
        refine ⟨H, m, valV ws q, vGet kvs q, I, Ext.refl L H, r, DGet.t e hb, ?_, g⟩
        rcases kv.get q with ⟨h1, h2⟩ | ⟨v, p, h1, h2, h3⟩
        · exact .inl ⟨h1, h2⟩
        · exact .inr ⟨v, p, h1, h2, h3⟩
    | lst ps => exact False.elim g
    | lk ps => exact False.elim g
theorem inT_ok {x : P} {tup : P} (ok : Cok X) {y z : V} {u w : Value} {F : Bool → Hm → List Addr → Hp → Prop} {σ' : L2.St} (I : Inv X pins σ H s) (r : Rep X.K L H m) (iz : Is X.K L H z x) (iy : Is X.K L H y tup) (rz : RelV z w) (ry : RelV y u)
    (g : Go X.K W σ' L H (inT x tup m) F) : ∃ b, F b m L H ∧ (∀ Q E, Q (Value.bool b) s → wpAny (model X.prog X.w) X.A (compareOp .In w u) Q E s) ∧ (∀ Q E, Q (Value.bool (!b)) s → wpAny (model X.prog X.w) X.A (compareOp .NotIn w u) Q E s) := by
  unfold inT at g
  obtain ⟨d, e1, g⟩ := Go.asD r g
  obtain ⟨e, e2, g⟩ := Go.asD r g
  cases e with
  | tuple ds =>
    obtain ⟨b, g2⟩ := Go.when_ g
    simp only [Bool.and_eq_true] at b
    obtain ⟨as, r1⟩ := Dp.reads I d z w (Dp_of r _ _ _ _ e1 iz) rz
    obtain ⟨bs, r2⟩ := Dp.reads I (.tuple ds) y u (Dp_of r _ _ _ _ e2 iy) ry
    have hu := ok.hu
    have c1 := SeqAt.canLay_of_shaped b.2
    have c2 := SeqAt.canLay_of_shaped b.1
    exact ⟨_, Go.ret g2 r, fun Q E q => SeqAt.in_tuple_reads r2 r1 c1 c2 (PyProof.Rows.room_in_shaped b.1 (by omega)) q, fun Q E q => SeqAt.notIn_tuple_reads r2 r1 c1 c2 (PyProof.Rows.room_in_shaped b.1 (by omega)) q⟩
  | _ => exact False.elim g
theorem datL_depth {m : Hm} {f : Nat} (ih : ∀ p d, dat m f p = some d → d.depth ≤ f) : ∀ (ps : List P) (ds : List PyData), mapO (dat m f) ps = some ds → PyData.depthAll ds ≤ f
  | [], ds, h => by cases h; exact Nat.zero_le _
  | p :: ps, ds, h => by
    unfold mapO at h
    split at h
    · rename_i d hd
      split at h
      · rename_i es he
        cases h
        have h1 := ih p d hd
        have h2 := datL_depth ih ps es he
        show max d.depth (PyData.depthAll es) ≤ f
        omega
      · cases h
    · cases h
theorem dat_depth {m : Hm} : ∀ (f : Nat) (p : P) (d : PyData), dat m f p = some d → d.depth ≤ f
  | 0, p, d, h => by cases p <;> first | (cases h; exact Nat.le_refl _) | cases h
  | f + 1, p, d, h => by
    have ih := dat_depth (m := m) f
    have fin : ∀ {ps : List P} {g : List PyData → PyData}, (∀ ds, (g ds).depth = PyData.depthAll ds + 1) → (mapO (dat m f) ps).map g = some d → d.depth ≤ f + 1 := fun {ps g} hg h => by
      obtain ⟨ds, e1, rfl⟩ := Option.map_eq_some_iff.mp h
      have := datL_depth ih _ _ e1
      rw [hg]; omega
    cases p with
    | non => cases h; exact Nat.zero_le _
    | bl b => cases h; exact Nat.zero_le _
    | int i => cases h; exact Nat.zero_le _
    | str x => cases h; exact Nat.zero_le _
    | tup ps => exact fin (g := PyData.tuple) (fun _ => rfl) h
    | kt ps => exact fin (g := PyData.tuple) (fun _ => rfl) h
    | scr ps => exact fin (g := PyData.list) (fun _ => rfl) h
    | ref n =>
      unfold dat at h
      split at h
      · exact fin (g := PyData.list) (fun _ => rfl) h
      · cases h
theorem in_ok {x y : P} (ok : Cok X) {b z : V} {u w : Value} {F : Bool → Hm → List Addr → Hp → Prop} {σ' : L2.St} (I : Inv X pins σ H s) (r : Rep X.K L H m) (iz : Is X.K L H z x) (iy : Is X.K L H b y) (rz : RelV z w) (ry : RelV b u)
    (g : Go X.K W σ' L H (inP x y m) F) : ∃ k H' m', Ext L H L H' ∧ Rep X.K L H' m' ∧ F k m' L H' ∧
      (∀ Q E, (∀ s', Inv X pins σ H' s' → Q (Value.bool k) s') → wpAny (model X.prog X.w) X.A (compareOp .In w u) Q E s) ∧ (∀ Q E, (∀ s', Inv X pins σ H' s' → Q (Value.bool (!k)) s') → wpAny (model X.prog X.w) X.A (compareOp .NotIn w u) Q E s) := by
  have hu := ok.hu
  cases iy with
  | @tup a vs ps h1 h2 =>
    obtain ⟨k, f, q1, q2⟩ := inT_ok ok I r iz (.tup h1 h2) rz ry g
    exact ⟨k, H, m, Ext.refl L H, r, f, fun Q E q => q1 Q E (q s I), fun Q E q => q2 Q E (q s I)⟩
  | @kt a vs ps h1 h2 =>
    obtain ⟨k, f, q1, q2⟩ := inT_ok ok I r iz (.kt h1 h2) rz ry g
    exact ⟨k, H, m, Ext.refl L H, r, f, fun Q E q => q1 Q E (q s I), fun Q E q => q2 Q E (q s I)⟩
  | @ref a n h =>
    obtain rfl : u = Value.ref a := ry
    obtain ⟨o, e1, g⟩ := Go.getO g
    have dict : Go X.K W σ' L H (bnd (dLook n x) (fun o => ret o.isSome) m) F → ∃ k H' m', Ext L H L H' ∧ Rep X.K L H' m' ∧ F k m' L H' ∧
      (∀ Q E, (∀ s', Inv X pins σ H' s' → Q (Value.bool k) s') → wpAny (model X.prog X.w) X.A (compareOp .In w (Value.ref a)) Q E s) ∧ (∀ Q E, (∀ s', Inv X pins σ H' s' → Q (Value.bool (!k)) s') → wpAny (model X.prog X.w) X.A (compareOp .NotIn w (Value.ref a)) Q E s) := fun g => by
      obtain ⟨H', m', o, q, I', x', r', dg, rel, g'⟩ := look_dict I r h iz g
      have e : o.isSome = q.isSome := by
        rcases rel with ⟨h1, h2⟩ | ⟨v, p, h1, h2, _⟩ <;> rw [h1, h2] <;> rfl
      refine ⟨q.isSome, H', m', x', r', Go.ret g' r', fun Q E k => ?_, fun Q E k => ?_⟩
      · exact d_in (by omega) I' dg rz fun s' I2 => by rw [e]; exact k s' I2
      · exact d_notIn (by omega) I' dg rz fun s' I2 => by rw [e]; exact k s' I2
    cases o with
    | lst ps =>
      obtain ⟨d, e2, g⟩ := Go.asD r g
      obtain ⟨e, e3, g⟩ := Go.asD r g
      cases e with
      | list ds =>
        obtain ⟨k, g2⟩ := Go.when_ g
        simp only [Bool.and_eq_true] at k
        obtain ⟨as, r1⟩ := Dp.reads I d z w (Dp_of r _ _ _ _ e2 iz) rz
        obtain ⟨bs, r2⟩ := Dp.reads I (.list ds) _ _ (Dp_of r _ _ _ _ e3 (.ref h)) (show RelV (V.ref a) (Value.ref a) from rfl)
        have c1 := SeqAt.canLay_of_shaped k.2
        have c2 := SeqAt.canLay_of_shaped k.1
        exact ⟨_, H, m, Ext.refl L H, r, Go.ret g2 r, fun Q E q => SeqAt.in_list_reads r2 r1 c1 c2 (PyProof.Rows.room_in_shaped k.1 (by omega)) (q s I), fun Q E q => SeqAt.notIn_list_reads r2 r1 c1 c2 (PyProof.Rows.room_in_shaped k.1 (by omega)) (q s I)⟩
      | _ => exact False.elim g
    | dK kvs => exact dict g
    | dT kvs => exact dict g
    | lk kvs => exact False.elim g
  | _ => exact False.elim g
theorem ob_in (ok : Cok X) : OpS X W (compareOp .In) oIn := by
  intro pins s σ H x y v u Q I rx ry ⟨L, m, σ', p, q, r, ip, iq, gg⟩
  obtain ⟨k, H', m', x', r', f, q1, _⟩ := in_ok ok I r ip iq rx ry (Go.bnd gg)
  exact q1 _ _ fun s' I' => ⟨.bl k, H', I', rfl, Go.ret (a := P.bl k) f r' _ (.bl k)⟩
theorem ob_notIn (ok : Cok X) : OpS X W (compareOp .NotIn) oNotIn := by
  intro pins s σ H x y v u Q I rx ry ⟨L, m, σ', p, q, r, ip, iq, gg⟩
  obtain ⟨k, H', m', x', r', f, _, q2⟩ := in_ok ok I r ip iq rx ry (Go.bnd gg)
  exact q2 _ _ fun s' I' => ⟨.bl (!k), H', I', rfl, Go.ret (a := P.bl (!k)) f r' _ (.bl _)⟩

/-! ### order -/
theorem ob_lt (ok : Cok X) : OpS X W (compareOp .Lt) oLt := by
  intro pins s σ H x y v u Q I rx ry ⟨L, m, σ', p, q, r, ip, iq, gg⟩
  have hu := ok.hu
  cases ip with
  | int i =>
    cases iq with
    | int j => exact op_lt pins s σ H _ _ v u Q I rx ry ⟨i, j, rfl, rfl, Go.ret (a := P.bl (decide (i < j))) gg r _ (.bl _)⟩
    | _ => exact False.elim gg
  | str a =>
    cases iq with
    | str b => exact op_lt_str pins s σ H _ _ v u Q I rx ry ⟨a, b, rfl, rfl, Go.ret (a := P.bl (decide (a.cps.toList < b.cps.toList))) gg r _ (.bl _)⟩
    | _ => exact False.elim gg
  | @tup a vs ps h1 h2 =>
    obtain ⟨d, e1, gg⟩ := Go.asD r gg
    obtain ⟨e, e2, gg⟩ := Go.asD r gg
    obtain ⟨b, g2⟩ := Go.when_ gg
    obtain ⟨as, r1⟩ := Dp.reads I d _ _ (Dp_of r _ _ _ _ e1 (.tup h1 h2)) rx
    obtain ⟨bs, r2⟩ := Dp.reads I e _ _ (Dp_of r _ _ _ _ e2 iq) ry
    have hd : d.depth ≤ 60 := dat_depth _ _ _ e1
    exact PySem.W.rcLt_alike d e X.A s _ _ _ _ r1 r2 b (fun z => by subst z; cases r1; cases rx) (by omega) _ _ _ _ ⟨.bl _, H, I, rfl, Go.ret (a := P.bl (PySem.W.dataLt d e)) g2 r _ (.bl _)⟩
  | _ => exact False.elim gg
theorem ob_le : OpS X W (compareOp .LtE) oLe := by
  intro pins s σ H x y v u Q I rx ry ⟨L, m, σ', p, q, r, ip, iq, gg⟩
  cases ip with
  | int i =>
    cases iq with
    | int j => exact op_le pins s σ H _ _ v u Q I rx ry ⟨i, j, rfl, rfl, Go.ret (a := P.bl (decide (i ≤ j))) gg r _ (.bl _)⟩
    | _ => exact False.elim gg
  | str a =>
    cases iq with
    | str b => exact op_le_str pins s σ H _ _ v u Q I rx ry ⟨a, b, rfl, rfl, Go.ret (a := P.bl (!decide (b.cps.toList < a.cps.toList))) gg r _ (.bl _)⟩
    | _ => exact False.elim gg
  | _ => exact False.elim gg
theorem ob_gt : OpS X W (compareOp .Gt) oGt := by
  intro pins s σ H x y v u Q I rx ry ⟨L, m, σ', p, q, r, ip, iq, gg⟩
  cases ip with
  | int i =>
    cases iq with
    | int j => exact op_gt pins s σ H _ _ v u Q I rx ry ⟨i, j, rfl, rfl, Go.ret (a := P.bl (decide (j < i))) gg r _ (.bl _)⟩
    | _ => exact False.elim gg
  | _ => exact False.elim gg
theorem ob_ge : OpS X W (compareOp .GtE) oGe := by
  intro pins s σ H x y v u Q I rx ry ⟨L, m, σ', p, q, r, ip, iq, gg⟩
  cases ip with
  | int i =>
    cases iq with
    | int j => exact op_ge pins s σ H _ _ v u Q I rx ry ⟨i, j, rfl, rfl, Go.ret (a := P.bl (decide (j ≤ i))) gg r _ (.bl _)⟩
    | _ => exact False.elim gg
  | _ => exact False.elim gg

/-! ### subscripts -/
theorem IsAll.atI {K : PySem.W.Frag} {vs : List V} {ps : List P} (h : IsAll K L H vs ps) {i : Int} {p : P} (e : L2.atI ps i = some p) : ∃ v, L2.atI vs i = some v ∧ Is K L H v p := by
  unfold L2.atI at e ⊢
  rw [h.length]
  cases q : ixN ps.length i with
  | none => rw [q] at e; cases e
  | some j =>
    rw [q] at e
    exact h.get (i := j) e
theorem ix_all (ok : Cok X) : IxR X (rOf X.K W oIx) := by
  intro value slice pins s σ H x y v u Q I rx ry ⟨L, m, σ', p, q, r, ip, iq, gg⟩ hs
  cases ip with
  | @tup a vs ps h1 h2 =>
    cases iq with
    | int i =>
      obtain ⟨z, e, f⟩ := Go.opt (o := L2.atI ps i) gg r
      obtain ⟨w, e1, i1⟩ := h2.atI e
      exact ix_tup value slice pins s σ H _ _ v u Q I rx ry ⟨a, vs, i, w, rfl, rfl, .inl (.inl h1), e1, f _ i1⟩ hs
    | _ => exact False.elim gg
  | @scr a vs ps h1 h2 =>
    cases iq with
    | int i =>
      obtain ⟨z, e, f⟩ := Go.opt (o := L2.atI ps i) gg r
      obtain ⟨w, e1, i1⟩ := h2.atI e
      exact ix_list value slice pins s σ H _ _ v u Q I rx ry ⟨a, vs, i, w, rfl, rfl, SqL_of_frz h1, e1, f _ i1⟩ hs
    | _ => exact False.elim gg
  | @ref a n h =>
    obtain rfl : v = Value.ref a := rx
    obtain ⟨o, e1, gg⟩ := Go.getO gg
    have dict : Go X.K W σ' L H (bnd (dLook n q) opt m) (fun z _ L' H' => ∀ v, Is X.K L' H' v z → Q v H') → wpAny (model X.prog X.w) X.A (PyProof.Rows.subscriptTail value slice (Value.ref a) u) (EP X pins σ Q) X.xe s := fun g => by
      obtain ⟨H', m', o, z, I', x', r', dg, rel, g'⟩ := look_dict I r h iq g
      obtain ⟨p', e, f⟩ := Go.opt g' r'
      subst e
      rcases rel with ⟨_, h2⟩ | ⟨w, p, h1, h2, h3⟩
      · cases h2
      · cases h2
        subst h1
        have ht := dict_typeIs I' dg
        unfold PyProof.Rows.subscriptTail
        refine wpAny_bind ?_
        rw [getitemInPython_of_ne ht.not_modules]
        refine wpAny_bind (wpAny_specialOf ht PySem.F.slot_dict_getitem.lookup ?_)
        have fin : wpAny (model X.prog X.w) X.A (subscripted slice false (Value.ref a) u) (fun r s₃ => wpAny (model X.prog X.w) X.A (letTemporaryGo value (Value.ref a) r >>= fun _ => pure r) (EP X pins σ Q) X.xe s₃) X.xe s := by
          rw [hs]
          exact wpAny_operating (d_getItem (by have := ok.hu; omega) I' dg ry fun w' s' I2 rw' => wpAny_bind (wpAny_letTemporaryGo (wpAny_pure ⟨w, H', I2, rw', f _ h3⟩)))
        first
          | exact wpAny_pure (wpAny_bind fin)
          | exact wpAny_bind (wpAny_pure (wpAny_bind fin))
          | exact wpAny_bind fin
    cases o with
    | lst ps =>
      cases iq with
      | int i =>
        obtain ⟨z, e, f⟩ := Go.opt (o := L2.atI ps i) gg r
        obtain ⟨vs, k1, k2⟩ := r.lst h e1
        obtain ⟨w, e1, i1⟩ := k2.atI e
        exact ix_list value slice pins s σ H _ _ _ u Q I (show RelV (V.ref a) (Value.ref a) from rfl) ry ⟨a, vs, i, w, rfl, rfl, .of k1, e1, f _ i1⟩ hs
      | _ => exact False.elim gg
    | dK kvs => exact dict gg
    | dT kvs => exact dict gg
    | lk kvs => exact False.elim gg
  | _ => exact False.elim gg
theorem pd_ix (ok : Cok X) {a b : Expr} {da db : D} {pos : Pos} (ha : PDE X W a da) (hb : PDE X W b db) (hs : PlainIx b := by intro _ _; rfl) : PDE X W (.Subscript a b pos) (dOp oIx da db) :=
  pe_weak (pe_ix (ix_all ok) ha hb hs) fun _ _ _ h => lift2 h

/-! ### slices -/
def liftO (K : PySem.W.Frag) (W : WX) (d : OD) : TO := fun σ H Q => ∃ L m ρ, Rep K L H m ∧ EnvIs K L H σ ρ ∧ Go K W σ L H (d ρ m) fun o _ L' H' => Q o H'
def PDO (X : Cx) (W : WX) (e : Option Expr) (d : OD) : Prop := PO X e (liftO X.K W d)
theorem po_weak {e : Option Expr} {t t' : TO} (h : PO X e t) (w : ∀ σ H Q, t' σ H Q → t σ H Q) : PO X e t' := ⟨fun pins s σ H Q I q => h.run pins s σ H Q I (w σ H Q q)⟩
theorem pdo_none : PDO X W none pNone := po_weak po_none fun σ H Q ⟨L, m, ρ, r, e, g⟩ => Go.ret (a := none) g r
theorem pdo_some {e : Expr} {d : D} (h : PDE X W e d) : PDO X W (some e) (pSome d) := by
  refine po_weak (po_some h) fun σ H Q ⟨L, m, ρ, r, e, g⟩ => ?_
  refine lift_bnd r e g fun x p m1 L1 H1 x1 r1 e1 i1 g1 => ?_
  cases i1 with
  | int i => exact ⟨i, rfl, Go.ret (a := some i) g1 r1⟩
  | _ => exact False.elim g1
theorem IsAll.cut {K : PySem.W.Frag} {vs : List V} {ps : List P} (h : IsAll K L H vs ps) (lo hi : Option Int) : IsAll K L H (cutV vs lo hi) (cutP ps lo hi) := by
  unfold cutV cutP
  rw [h.length]
  exact (h.drop _).take _
theorem cutP_all {ps : List P} {lo hi : Option Int} (h : HT.sIx ps.length 0 lo = 0 ∧ HT.sIx ps.length ps.length hi = ps.length) : cutP ps lo hi = ps := by
  unfold cutP
  rw [h.1, h.2]; simp
def slV (K : PySem.W.Frag) (W : WX) : V → Option Int → Option Int → Hp → VK → Prop := fun x l h H Q => ∃ (L : List Addr) (m : Hm) (σ : L2.St) (p : P), Rep K L H m ∧ Is K L H x p ∧ Go K W σ L H (slP p l h m) fun z _ L' H' => ∀ v, Is K L' H' v z → Q v H'
theorem sl_all : SlR X (slV X.K W) := by
  intro pins s σ H x v vl vu lo hi sl Q I rx hs pl pu ⟨L, m, σ', p, r, ip, g⟩
  cases ip with
  | @tup a vs ps h1 h2 =>
    refine sl_tupA pins s σ H _ v vl vu lo hi sl Q I rx hs pl pu ⟨a, vs, rfl, .inl (.inl h1), fun e => ?_, fun e => go_tup r (h2.cut lo hi) g⟩
    rw [h2.length] at e
    have g : Go X.K W σ' L H (ret (P.tup (cutP ps lo hi)) m) _ := g
    rw [cutP_all e] at g
    exact Go.ret (a := P.tup ps) g r _ (.tup h1 h2)
  | @ref a n h =>
    obtain ⟨o, e1, g⟩ := Go.getO g
    cases o with
    | lst ps =>
      obtain ⟨vs, k1, k2⟩ := r.lst h e1
      exact sl_list pins s σ H _ v vl vu lo hi sl Q I rx hs pl pu ⟨a, vs, rfl, .of k1, go_new r (k2.cut lo hi) g⟩
    | _ => exact False.elim g
  | _ => exact False.elim g
theorem pd_sl {e : Expr} {lo hi : Option Expr} {d : D} {dl dh : OD} {pos p2 : Pos} (he : PDE X W e d) (hl : PDO X W lo dl) (hh : PDO X W hi dh) : PDE X W (.Subscript e (.Slice lo hi none p2) pos) (dSl d dl dh) := by
  refine pe_weak (pe_slice (sl_all (W := W)) he hl hh) fun σ H Q ⟨L, m, ρ, r, e, g⟩ => ?_
  refine lift_bnd r e g fun x p m1 L1 H1 x1 r1 e1 i1 g1 => ?_
  refine ⟨L1, m1, ρ, r1, e1, g1.bnd.imp fun l m2 L2 H2 _ x2 r2 g2 => ?_⟩
  refine ⟨L2, m2, ρ, r2, e1.mono r1 x2, g2.bnd.imp fun h m3 L3 H3 _ x3 r3 g3 => ?_⟩
  exact ⟨L3, m3, σ, p, r3, (i1.mono r1 x2).mono r2 x3, g3⟩
theorem pd_rev {e : Expr} {d : D} {k : Nat} {pos p1 p2 p3 : Pos} (he : PDE X W e d) : PDE X W (.Subscript e (.Slice none none (some (.UnaryOp .USub (.Constant (.int 1) k p1) p2)) p3) pos) (dRev d) := by
  refine pe_weak (pe_revL he) fun σ H Q ⟨L, m, ρ, r, e, g⟩ => ?_
  refine lift_bnd r e g fun x p m1 L1 H1 x1 r1 e1 i1 g1 => ?_
  cases i1 with
  | @ref a n h =>
    obtain ⟨o, e2, g2⟩ := Go.getO g1
    cases o with
    | lst ps =>
      obtain ⟨vs, k1, k2⟩ := r1.lst h e2
      exact ⟨a, vs, rfl, .of k1, go_new r1 k2.reverse g2⟩
    | _ => exact False.elim g2
  | _ => exact False.elim g1
theorem pdl_rev {e : Expr} {d : LD} {k : Nat} {pos p1 p2 p3 : Pos} (he : PDL X W e d) : PDL X W (.Subscript e (.Slice none none (some (.UnaryOp .USub (.Constant (.int 1) k p1) p2)) p3) pos) (lRev d) := by
  refine pe_weak (pe_revL he) fun σ H Q ⟨L, m, ρ, r, e, g⟩ => ?_
  refine liftL_bnd r e g fun a vs ps m1 L1 H1 x1 r1 e1 h0 h1 h2 h3 g1 => ?_
  refine ⟨a, vs, rfl, .of h1, fun p hp => ?_⟩
  have hn : H p = none := by
    cases q : H p with
    | none => rfl
    | some u => exact absurd hp (x1.grow p (by rw [q]; simp))
  exact g1 L1 (upd H1 p (.lst vs.reverse)) (x1.trans (ext_new hp)) (r1.mono_new hp) p _ hn upd_same (r1.new hp) (h3.reverse.stay (stay_new hp))
end
end G

/-! G6: built-in functions, methods. -/
namespace G
open PySem PySem.Spec L2
section
variable {X : Cx} {W : WX} {a b c e i o : Expr} {es : List Expr} {pos p1 p2 : Pos}
/-- a built-in of values -/
def cOf (K : PySem.W.Frag) (W : WX) (f : List P → M P) : List V → Hp → VK → Prop := fun xs H Q => ∃ (L : List Addr) (m : Hm) (σ : L2.St) (ps : List P), Rep K L H m ∧ IsAll K L H xs ps ∧ Go K W σ L H (f ps m) fun z _ L' H' => ∀ v, Is K L' H' v z → Q v H'
theorem liftC {K : PySem.W.Frag} {f : List P → M P} {da : A} {σ : L2.St} {H : Hp} {Q : VK} (h : lift K W (dCall f da) σ H Q) : tCB (cOf K W f) (liftA K W da) σ H Q := by
  obtain ⟨L, m, ρ, r, e, g⟩ := h
  exact liftA_bnd r e g fun xs ps m1 L1 H1 x1 r1 e1 i1 g1 => ⟨L1, m1, σ, ps, r1, i1, g1⟩
theorem pd_callB {f : List P → M P} {da : A} {x : Str} {id : String} (hc : CallR X (.builtin id) (cOf X.K W f)) (hm : X.mg x = none) (ha : PDA X W (e :: es) da) (hg : Gl X x := by rfl) (hv : bootBuiltins x = some (.builtin id) := by decide +kernel) (hn : x ≠ "__name__" := by decide) (hdb : (x == ("__debug__" : Str)) = false := by decide)
    (he : starEach (e :: es) X.env = (false, eval e X.env) :: starEach es X.env := by rfl) (hpl : (backTo pos (starEach es X.env)).any (·.1) = false := by rfl) : PDE X W (.Call (.Name x p1) (e :: es) [] pos) (dCall f da) :=
  pe_weak (pe_callB hc hg hm hv ha hn hdb he hpl) fun _ _ _ h => liftC h
theorem pd_callTy {f : List P → M P} {da : A} {x : Str} {id : String} (hc : CallR X (.type id) (cOf X.K W f)) (hm : X.mg x = none) (ha : PDA X W (e :: es) da) (hg : Gl X x := by rfl) (hv : bootBuiltins x = some (.type id) := by decide +kernel) (hn : x ≠ "__name__" := by decide) (hdb : (x == ("__debug__" : Str)) = false := by decide)
    (he : starEach (e :: es) X.env = (false, eval e X.env) :: starEach es X.env := by rfl) (hpl : (backTo pos (starEach es X.env)).any (·.1) = false := by rfl) : PDE X W (.Call (.Name x p1) (e :: es) [] pos) (dCall f da) :=
  pe_weak (pe_callTy hc hg hm hv ha hn hdb he hpl) fun _ _ _ h => liftC h
theorem IsAll.one {K : PySem.W.Frag} {L : List Addr} {H : Hp} {xs : List V} {p : P} (h : IsAll K L H xs [p]) : ∃ v, xs = [v] ∧ Is K L H v p := by
  cases h with
  | cons h1 h2 => cases h2; exact ⟨_, rfl, h1⟩
theorem IsAll.two {K : PySem.W.Frag} {L : List Addr} {H : Hp} {xs : List V} {p q : P} (h : IsAll K L H xs [p, q]) : ∃ v w, xs = [v, w] ∧ Is K L H v p ∧ Is K L H w q := by
  cases h with
  | cons h1 h2 => cases h2 with
    | cons h3 h4 => cases h4; exact ⟨_, _, rfl, h1, h3⟩
/-- one argument -/
theorem call1 {f : P → M P} {T : Value} (h : ∀ (pins : List (Addr × Obj)) (s : Shared) (σ : L2.St) (H : Hp) (v : V) (us : List Value) (Q : VK) (L : List Addr) (m : Hm) (σ' : L2.St) (p : P), Inv X pins σ H s → Vals [v] us → Rep X.K L H m → Is X.K L H v p → Go X.K W σ' L H (f p m) (fun z _ L' H' => ∀ v, Is X.K L' H' v z → Q v H') → wpAny (model X.prog X.w) X.A (call T us) (EP X pins σ Q) X.xe s) : CallR X T (cOf X.K W (one f)) := by
  intro pins s σ H xs us Q I rv ⟨L, m, σ', ps, r, i, g⟩
  cases ps with
  | nil => exact False.elim g
  | cons p ps =>
    cases ps with
    | nil =>
      obtain ⟨v, rfl, iv⟩ := i.one
      exact h pins s σ H v us Q L m σ' p I rv r iv g
    | cons _ _ => exact False.elim g
theorem call2 {f : P → P → M P} {T : Value} (h : ∀ (pins : List (Addr × Obj)) (s : Shared) (σ : L2.St) (H : Hp) (v w : V) (us : List Value) (Q : VK) (L : List Addr) (m : Hm) (σ' : L2.St) (p q : P), Inv X pins σ H s → Vals [v, w] us → Rep X.K L H m → Is X.K L H v p → Is X.K L H w q → Go X.K W σ' L H (f p q m) (fun z _ L' H' => ∀ v, Is X.K L' H' v z → Q v H') → wpAny (model X.prog X.w) X.A (call T us) (EP X pins σ Q) X.xe s) : CallR X T (cOf X.K W (two f)) := by
  intro pins s σ H xs us Q I rv ⟨L, m, σ', ps, r, i, g⟩
  cases ps with
  | nil => exact False.elim g
  | cons p ps =>
    cases ps with
    | nil => exact False.elim g
    | cons q ps =>
      cases ps with
      | nil =>
        obtain ⟨v, w, rfl, iv, iw⟩ := i.two
        exact h pins s σ H v w us Q L m σ' p q I rv r iv iw g
      | cons _ _ => exact False.elim g
theorem cb_abs : CallR X (.builtin "abs") (cOf X.K W (one bAbs)) := call1 fun pins s σ H v us Q L m σ' p I rv r i g => by
  cases i with
  | int i => exact call_abs pins s σ H _ us Q I rv ⟨i, rfl, Go.ret (a := P.int (if i < 0 then -i else i)) g r _ (.int _)⟩
  | _ => exact False.elim g
theorem cb_int : CallR X (.type "int") (cOf X.K W (one bInt)) := call1 fun pins s σ H v us Q L m σ' p I rv r i g => by
  cases i with
  | int i => exact call_int1 pins s σ H _ us Q I rv (.inl ⟨i, rfl, Go.ret (a := P.int i) g r _ (.int _)⟩)
  | bl b => exact call_int1 pins s σ H _ us Q I rv (.inr ⟨b, rfl, Go.ret (a := P.int (if b then 1 else 0)) g r _ (.int _)⟩)
  | _ => exact False.elim g
theorem cb_max2 (ok : Cok X) : CallR X (.builtin "max") (cOf X.K W (two bMax2)) := call2 fun pins s σ H v w us Q L m σ' p q I rv r i j g => by
  cases i with
  | int i =>
    cases j with
    | int j => exact call_max2 ok.calm pins s σ H _ us Q I rv ⟨i, j, rfl, Go.ret (a := P.int (if j > i then j else i)) g r _ (.int _)⟩
    | _ => exact False.elim g
  | _ => exact False.elim g
theorem cb_min2 (ok : Cok X) : CallR X (.builtin "min") (cOf X.K W (two bMin2)) := call2 fun pins s σ H v w us Q L m σ' p q I rv r i j g => by
  cases i with
  | int i =>
    cases j with
    | int j => exact call_min2 ok.calm pins s σ H _ us Q I rv ⟨i, j, rfl, Go.ret (a := P.int (if j < i then j else i)) g r _ (.int _)⟩
    | _ => exact False.elim g
  | _ => exact False.elim g
theorem cb_len : CallR X (.builtin "len") (cOf X.K W (one bLen)) := call1 fun pins s σ H v us Q L m σ' p I rv r i g => by
  cases i with
  | str z =>
    have g : Go X.K W σ' L H (when_ (decide (z.length ≤ SZ)) (ret (P.int z.length)) m) _ := g
    obtain ⟨b, g2⟩ := g.when_
    exact call_len pins s σ H _ us Q I rv ⟨_, z.length, rfl, ⟨of_decide_eq_true b, rfl⟩, Go.ret (a := P.int z.length) g2 r _ (.int _)⟩
  | @tup a vs ps h1 h2 => exact call_len pins s σ H _ us Q I rv ⟨_, vs.length, rfl, .inr ⟨vs, .inl (.inl h1), rfl⟩, by rw [h2.length]; exact Go.ret (a := P.int ps.length) g r _ (.int _)⟩
  | @scr a vs ps h1 h2 => exact call_len pins s σ H _ us Q I rv ⟨_, vs.length, rfl, .inl ⟨vs, SqL_of_frz h1, rfl⟩, by rw [h2.length]; exact Go.ret (a := P.int ps.length) g r _ (.int _)⟩
  | @ref a n h =>
    obtain ⟨ob, e1, g⟩ := Go.getO g
    cases ob with
    | lst ps =>
      obtain ⟨vs, k1, k2⟩ := r.lst h e1
      exact call_len pins s σ H _ us Q I rv ⟨_, vs.length, rfl, .inl ⟨vs, .of k1, rfl⟩, by rw [k2.length]; exact Go.ret (a := P.int ps.length) g r _ (.int _)⟩
    | dK kvs =>
      obtain ⟨ws, k1, k2⟩ := r.obj n a _ h e1
      exact call_lenD pins s σ H _ us Q I rv ⟨a, ws, rfl, k1, by rw [k2.length]; exact Go.ret (a := P.int kvs.length) g r _ (.int _)⟩
    | _ => exact False.elim g
  | _ => exact False.elim g

/-! ### over the items of a list or tuple -/
/-- v is a list or tuple of ps -/
def SeqV (K : PySem.W.Frag) (L : List Addr) (H : Hp) (v : V) (ps : List P) : Prop := ∃ a vs, v = .ref a ∧ (SqL K H a vs ∨ SqT K H a vs) ∧ IsAll K L H vs ps
def SeqL (K : PySem.W.Frag) (L : List Addr) (H : Hp) (v : V) (ps : List P) : Prop := ∃ a vs, v = .ref a ∧ SqL K H a vs ∧ IsAll K L H vs ps
def nOf (K : PySem.W.Frag) (W : WX) (S : PySem.W.Frag → List Addr → Hp → V → List P → Prop) (f : List P → M P) : List V → Hp → VK → Prop := fun xs H Q => ∃ (L : List Addr) (m : Hm) (σ : L2.St) (v : V) (ps : List P), xs = [v] ∧ Rep K L H m ∧ S K L H v ps ∧ Go K W σ L H (f ps m) fun z _ L' H' => ∀ v, Is K L' H' v z → Q v H'
theorem KT.sq {K : PySem.W.Frag} {H : Hp} {a : Addr} {vs : List V} (h : KT K a vs) : SqT K H a vs := .inr h
/-- the items of a value -/
theorem Go.items {K : PySem.W.Frag} {L : List Addr} {H : Hp} {m : Hm} {σ : L2.St} {p : P} {v : V} {β : Type} {f : List P → M β} {F : β → Hm → List Addr → Hp → Prop} (r : Rep K L H m) (i : Is K L H v p) (g : Go K W σ L H (G.bnd (G.items p) f m) F) :
    ∃ ps, SeqV K L H v ps ∧ Go K W σ L H (f ps m) F := by
  cases i with
  | @tup a vs ps h1 h2 => exact ⟨ps, ⟨a, vs, rfl, .inr (.inl (.inl h1)), h2⟩, g⟩
  | @kt a vs ps h1 h2 => exact ⟨ps, ⟨a, vs, rfl, .inr h1.sq, h2⟩, g⟩
  | @scr a vs ps h1 h2 => exact ⟨ps, ⟨a, vs, rfl, .inl (SqL_of_frz h1), h2⟩, g⟩
  | @ref a n h =>
    obtain ⟨ob, e1, g⟩ := Go.getO (show Go K W σ L H (G.getO n (fun o => G.bnd ((fun o => match o with
      | .lst ps => G.ret ps
      | _ => bad) o) f) m) F from by
        unfold G.items G.bnd G.getO at g
        unfold G.bnd G.getO
        cases e : m[n]? with
        | none => simp only [e] at g; exact False.elim g
        | some o => simp only [e] at g ⊢; exact g)
    cases ob with
    | lst ps =>
      obtain ⟨vs, k1, k2⟩ := r.lst h e1
      exact ⟨ps, ⟨a, vs, rfl, .inl (.of k1), k2⟩, g⟩
    | _ => exact False.elim g
  | _ => exact False.elim g
theorem SeqL.seq {K : PySem.W.Frag} {L : List Addr} {H : Hp} {v : V} {ps : List P} (h : SeqL K L H v ps) : SeqV K L H v ps := let ⟨a, vs, e, h1, h2⟩ := h; ⟨a, vs, e, .inl h1, h2⟩
theorem nOf.toL {X : Cx} {T : Value} {f : List P → M P} (h : CallR X T (nOf X.K W SeqV f)) : CallR X T (nOf X.K W SeqL f) := by
  intro pins s σ H xs us Q I rv ⟨L, m, σ', v, ps, e, r, i, g⟩
  exact h pins s σ H xs us Q I rv ⟨L, m, σ', v, ps, e, r, i.seq, g⟩
/-- f of a list that no one holds; of a value -/
theorem pd_nL {f : List P → M P} {l : LD} {x : Str} {T : Value} (hc : CallR X T (nOf X.K W SeqL f)) (hT : (∃ id, T = .builtin id) ∨ ∃ id, T = .type id) (hm : X.mg x = none) (hl : PDL X W e l) (hg : Gl X x := by rfl) (hv : bootBuiltins x = some T := by decide +kernel) (hn : x ≠ "__name__" := by decide) (hdb : (x == ("__debug__" : Str)) = false := by decide)
    (he : starEach [e] X.env = (false, eval e X.env) :: starEach [] X.env := by rfl) : PDE X W (.Call (.Name x p1) [e] [] pos) (dL f l) := by
  have w : ∀ σ H Q, lift X.K W (dL f l) σ H Q → tCB (nOf X.K W SeqL f) (tCons (liftL X.K W l) tNil) σ H Q := fun σ H Q ⟨L, m, ρ, r, e, g⟩ => show liftL X.K W l σ H (fun x H1 => nOf X.K W SeqL f [x] H1 Q) from
    liftL_bnd r e g fun a vs ps m1 L1 H1 x1 r1 e1 h0 h1 h2 h3 g1 => ⟨L1, m1, σ, _, ps, rfl, r1, ⟨a, vs, rfl, .of h1, h3⟩, g1.mono x1⟩
  rcases hT with ⟨id, rfl⟩ | ⟨id, rfl⟩
  · exact pe_weak (pe_callB hc hg hm hv (pa_cons hl pa_nil he) hn hdb he rfl) w
  · exact pe_weak (pe_callTy hc hg hm hv (pa_cons hl pa_nil he) hn hdb he rfl) w
theorem pd_nV {f : List P → M P} {d : D} {x : Str} {T : Value} (hc : CallR X T (nOf X.K W SeqV f)) (hT : (∃ id, T = .builtin id) ∨ ∃ id, T = .type id) (hm : X.mg x = none) (hl : PDE X W e d) (hg : Gl X x := by rfl) (hv : bootBuiltins x = some T := by decide +kernel) (hn : x ≠ "__name__" := by decide) (hdb : (x == ("__debug__" : Str)) = false := by decide)
    (he : starEach [e] X.env = (false, eval e X.env) :: starEach [] X.env := by rfl) : PDE X W (.Call (.Name x p1) [e] [] pos) (dV f d) := by
  have w : ∀ σ H Q, lift X.K W (dV f d) σ H Q → tCB (nOf X.K W SeqV f) (tCons (lift X.K W d) tNil) σ H Q := fun σ H Q ⟨L, m, ρ, r, e, g⟩ => show lift X.K W d σ H (fun x H1 => nOf X.K W SeqV f [x] H1 Q) from
    lift_bnd r e g fun x p m1 L1 H1 x1 r1 e1 i1 g1 => by
      obtain ⟨ps, sv, g2⟩ := Go.items r1 i1 g1
      exact ⟨L1, m1, σ, _, ps, rfl, r1, sv, g2⟩
  rcases hT with ⟨id, rfl⟩ | ⟨id, rfl⟩
  · exact pe_weak (pe_callB hc hg hm hv (pa_cons hl pa_nil he) hn hdb he rfl) w
  · exact pe_weak (pe_callTy hc hg hm hv (pa_cons hl pa_nil he) hn hdb he rfl) w
theorem ints_is {K : PySem.W.Frag} {L : List Addr} {H : Hp} : ∀ {ps : List P} {vs : List V} {l : List Int}, IsAll K L H vs ps → intsOf ps = some l → vs = l.map V.int
  | [], _, _, .nil, e => by cases e; rfl
  | .int i :: ps, _, l, .cons h1 h2, e => by
    unfold intsOf at e
    split at e
    · rename_i l' hl
      cases e; cases h1
      rw [List.map_cons, ints_is h2 hl]
    · cases e
theorem bls_is {K : PySem.W.Frag} {L : List Addr} {H : Hp} : ∀ {ps : List P} {vs : List V} {l : List Bool}, IsAll K L H vs ps → bls ps = some l → vs = l.map V.bl
  | [], _, _, .nil, e => by cases e; rfl
  | .bl i :: ps, _, l, .cons h1 h2, e => by
    unfold bls at e
    split at e
    · rename_i l' hl
      cases e; cases h1
      rw [List.map_cons, bls_is h2 hl]
    · cases e
theorem Go.optB {α β : Type} {K : PySem.W.Frag} {L : List Addr} {H : Hp} {m : Hm} {σ : L2.St} {o : Option α} {f : α → M β} {F : β → Hm → List Addr → Hp → Prop} (g : Go K W σ L H (G.bnd (G.opt o) f m) F) : ∃ a, o = some a ∧ Go K W σ L H (f a m) F := by
  cases o with
  | some a => exact ⟨a, rfl, g⟩
  | none => exact False.elim g
theorem cn_sum (ok : Cok X) : CallR X (.builtin "sum") (nOf X.K W SeqL nSum) := by
  intro pins s σ H xs us Q I rv ⟨L, m, σ', v, ps, e, r, ⟨a, vs, ev, h1, h2⟩, g⟩
  subst e ev
  obtain ⟨l, e, g⟩ := Go.optB g
  obtain rfl := ints_is h2 e
  exact cr_sum ok.calm pins s σ H _ us Q I rv ⟨a, l, rfl, h1, Go.ret (a := P.int l.sum) g r _ (.int _)⟩
theorem cn_any (ok : Cok X) : CallR X (.builtin "any") (nOf X.K W SeqL nAny) := by
  intro pins s σ H xs us Q I rv ⟨L, m, σ', v, ps, e, r, ⟨a, vs, ev, h1, h2⟩, g⟩
  subst e ev
  obtain ⟨l, e, g⟩ := Go.optB g
  obtain rfl := bls_is h2 e
  exact cr_any ok.calm pins s σ H _ us Q I rv ⟨a, l, rfl, h1, Go.ret (a := P.bl (l.any id)) g r _ (.bl _)⟩
theorem cn_all (ok : Cok X) : CallR X (.builtin "all") (nOf X.K W SeqL nAll) := by
  intro pins s σ H xs us Q I rv ⟨L, m, σ', v, ps, e, r, ⟨a, vs, ev, h1, h2⟩, g⟩
  subst e ev
  obtain ⟨l, e, g⟩ := Go.optB g
  obtain rfl := bls_is h2 e
  exact cr_all ok.calm pins s σ H _ us Q I rv ⟨a, l, rfl, h1, Go.ret (a := P.bl (l.all id)) g r _ (.bl _)⟩
theorem iMax_ge : ∀ (l : List Int) (i : Int), i ≤ iMax i l ∧ ∀ j ∈ l, j ≤ iMax i l
  | [], i => ⟨Int.le_refl i, fun _ h => nomatch h⟩
  | x :: l, i => by
    have ih := iMax_ge l (if x > i then x else i)
    have e : iMax i (x :: l) = iMax (if x > i then x else i) l := rfl
    rw [e]
    refine ⟨?_, fun j hj => ?_⟩
    · refine Int.le_trans ?_ ih.1
      split <;> omega
    · rcases List.mem_cons.mp hj with rfl | hj
      · refine Int.le_trans ?_ ih.1
        split <;> omega
      · exact ih.2 j hj
theorem iMax_mem : ∀ (l : List Int) (i : Int), iMax i l ∈ i :: l
  | [], i => List.mem_cons_self
  | x :: l, i => by
    have ih := iMax_mem l (if x > i then x else i)
    have e : iMax i (x :: l) = iMax (if x > i then x else i) l := rfl
    rw [e]
    rcases List.mem_cons.mp ih with h | h
    · rw [h]
      split
      · exact List.mem_cons_of_mem _ List.mem_cons_self
      · exact List.mem_cons_self
    · exact List.mem_cons_of_mem _ (List.mem_cons_of_mem _ h)
theorem iMin_le : ∀ (l : List Int) (i : Int), iMin i l ≤ i ∧ ∀ j ∈ l, iMin i l ≤ j
  | [], i => ⟨Int.le_refl i, fun _ h => nomatch h⟩
  | x :: l, i => by
    have ih := iMin_le l (if x < i then x else i)
    have e : iMin i (x :: l) = iMin (if x < i then x else i) l := rfl
    rw [e]
    refine ⟨?_, fun j hj => ?_⟩
    · refine Int.le_trans ih.1 ?_
      split <;> omega
    · rcases List.mem_cons.mp hj with rfl | hj
      · refine Int.le_trans ih.1 ?_
        split <;> omega
      · exact ih.2 j hj
theorem iMin_mem : ∀ (l : List Int) (i : Int), iMin i l ∈ i :: l
  | [], i => List.mem_cons_self
  | x :: l, i => by
    have ih := iMin_mem l (if x < i then x else i)
    have e : iMin i (x :: l) = iMin (if x < i then x else i) l := rfl
    rw [e]
    rcases List.mem_cons.mp ih with h | h
    · rw [h]
      split
      · exact List.mem_cons_of_mem _ List.mem_cons_self
      · exact List.mem_cons_self
    · exact List.mem_cons_of_mem _ (List.mem_cons_of_mem _ h)
theorem cn_max (ok : Cok X) : CallR X (.builtin "max") (nOf X.K W SeqL nMax) := by
  intro pins s σ H xs us Q I rv ⟨L, m, σ', v, ps, e, r, ⟨a, vs, ev, h1, h2⟩, g⟩
  subst e ev
  obtain ⟨l, e, g⟩ := Go.optB g
  obtain rfl := ints_is h2 e
  cases l with
  | nil => exact False.elim g
  | cons i l =>
    refine cr_max ok.calm pins s σ H _ us Q I rv ⟨a, i :: l, rfl, h1, Nat.succ_pos _, fun k hk hle => ?_⟩
    have e : k = iMax i l := by
      have g1 := iMax_ge l i
      have h3 : k ≤ iMax i l := by
        rcases List.mem_cons.mp hk with rfl | h
        · exact g1.1
        · exact g1.2 k h
      exact Int.le_antisymm h3 (hle _ (iMax_mem l i))
    rw [e]
    exact Go.ret (a := P.int (iMax i l)) g r _ (.int _)
theorem cn_min (ok : Cok X) : CallR X (.builtin "min") (nOf X.K W SeqL nMin) := by
  intro pins s σ H xs us Q I rv ⟨L, m, σ', v, ps, e, r, ⟨a, vs, ev, h1, h2⟩, g⟩
  subst e ev
  obtain ⟨l, e, g⟩ := Go.optB g
  obtain rfl := ints_is h2 e
  cases l with
  | nil => exact False.elim g
  | cons i l =>
    refine cr_min ok.calm pins s σ H _ us Q I rv ⟨a, i :: l, rfl, h1, Nat.succ_pos _, fun k hk hle => ?_⟩
    have e : k = iMin i l := by
      have g1 := iMin_le l i
      have h3 : iMin i l ≤ k := by
        rcases List.mem_cons.mp hk with rfl | h
        · exact g1.1
        · exact g1.2 k h
      exact Int.le_antisymm (hle _ (iMin_mem l i)) h3
    rw [e]
    exact Go.ret (a := P.int (iMin i l)) g r _ (.int _)
theorem cn_len : CallR X (.builtin "len") (nOf X.K W SeqV nLen) := by
  intro pins s σ H xs us Q I rv ⟨L, m, σ', v, ps, e, r, ⟨a, vs, ev, h1, h2⟩, g⟩
  subst e ev
  exact call_len_seq pins s σ H _ us Q I rv ⟨a, vs, rfl, h1, by rw [h2.length]; exact Go.ret (a := P.int ps.length) g r _ (.int _)⟩
theorem cn_tup : CallR X (.type "tuple") (nOf X.K W SeqL nTup) := by
  intro pins s σ H xs us Q I rv ⟨L, m, σ', v, ps, e, r, ⟨a, vs, ev, h1, h2⟩, g⟩
  subst e ev
  exact call_tuple_of pins s σ H _ us Q I rv ⟨a, vs, rfl, .inl ⟨h1, go_tup r h2 g⟩⟩
/-- tuple(x), x any -/
theorem cb_tup : CallR X (.type "tuple") (cOf X.K W (one bTup)) := call1 fun pins s σ H v us Q L m σ' p I rv r i g => by
  cases i with
  | @tup a vs ps h1 h2 => exact call_tuple_of pins s σ H _ us Q I rv ⟨a, vs, rfl, .inr ⟨.inl (.inl h1), Go.ret (a := P.tup ps) g r _ (.tup h1 h2)⟩⟩
  | @scr a vs ps h1 h2 => exact call_tuple_of pins s σ H _ us Q I rv ⟨a, vs, rfl, .inl ⟨SqL_of_frz h1, go_tup r h2 g⟩⟩
  | @ref a n h =>
    obtain ⟨ob, e1, g⟩ := Go.getO g
    cases ob with
    | lst ps =>
      obtain ⟨vs, k1, k2⟩ := r.lst h e1
      exact call_tuple_of pins s σ H _ us Q I rv ⟨a, vs, rfl, .inl ⟨.of k1, go_tup r k2 g⟩⟩
    | _ => exact False.elim g
  | _ => exact False.elim g
end
end G

/-! G7: sorted, list(..), repr, methods of lists. -/
namespace G
section
open PySem PySem.Calls PyProof.Rows PySem.W
variable {prog : Program} {w : World} {A : Around} {E : Value → Shared → Prop} {s : Shared}
theorem collectT {l : Addr} {vs : List Value} {Q : List Value → Shared → Prop} (hl : IsTup s.heap l vs.toArray) (h : Q vs { s with heap := (s.heap.push (seqObj "list" #[] 0)).update s.heap.objs.size (Obj.mapSeq (· ++ vs.toArray)) }) (hsz : vs.length ≤ sizeLine) :
    wpAny (model prog w) A (collect (.ref l)) Q E s := by
  obtain ⟨o, ho, hc, n, hd⟩ := id hl
  unfold collect
  refine wpAny_bind (wpAny_runValue (codeAny_builtin entry_proto_collect' (show wpAny _ _ (do again (.builtin "list.__iadd__" ⟨[← newList [], .ref l], []⟩)) _ _ s from wpAny_bind (wpAny_newList (wpAny_pure ⟨Code.quiet_builtin _ (by decide +kernel), codeAny_builtin entry_list_iadd' ?_⟩)))))
  show wpAny _ _ (Builtin.List.listExtendWith (.ref s.heap.objs.size) (.ref l) (.ref s.heap.objs.size)) _ _ { s with heap := s.heap.push (seqObj "list" #[] 0) }
  unfold Builtin.List.listExtendWith
  have ho' := Heap.get?_push_of_some (seqObj "list" #[] 0) ho
  have ht : (Value.type "tuple" == Value.type "tuple") = true := by rfl
  refine wpAny_bind (wpAny_typeOf (T := "tuple") ⟨o, ho', hc⟩ ?_)
  rw [if_pos (by rw [ht]; simp)]
  refine wpAny_bind (listItems_at ho' hd (wpAny_bind (listItems_at (xs := #[]) (n := 0) (Heap.get?_push_size _ rfl) rfl ?_)))
  rw [if_neg (by simp)]
  refine wpAny_bind (listUpdate_at (xs := #[]) (n := 0) (Heap.get?_push_size _ rfl) rfl (wpAny_pure ?_) (Nat.zero_le _) (by simp only [Array.size_append, List.size_toArray, List.length_nil]; omega))
  refine wpAny_bind (wpAny_load (get?_update_seq (Heap.get?_push_size _ rfl) _) ?_)
  have e : ((#[] : Array Value) ++ vs.toArray).toList = vs := by simp
  show wpAny _ _ (pure ((#[] : Array Value) ++ vs.toArray).toList) Q E _
  rw [e]
  exact wpAny_pure h
/-- sorted of a tuple -/
theorem sortedT {l : Addr} {vs : List Value} {κ : PyProof.Rows.KeyKind} {Q : Value → Shared → Prop} (hl : IsTup s.heap l vs.toArray) (S : SortsAt prog w A.in1.in1 { s with heap := sortingHeap (copyHeap s.heap vs) (s.heap.objs.size + 1) vs } κ vs) (hL : vs.length ≤ sizeLine)
    (h : Q (.ref (s.heap.objs.size + 1)) { s with heap := sortedAll s.heap vs (sortVals κ false vs vs).toArray }) : wpAny (model prog w) A (call (.builtin "sorted") [.ref l]) Q E s := by
  refine call_function_entry_kw kind_sorted plain_sorted entry_sorted (args_sorted1 _) ?_
  unfold Builtin.«sorted»
  refine wpAny_bind (m := checkCount "sorted" 1 1 _) (wpAny_pure (wpAny_bind (collectT hl (wpAny_bind (wpAny_newList ?_ hL)) hL)))
  show wpAny _ _ _ _ _ { s with heap := copyHeap s.heap vs }
  have hsz : ((s.heap.push (seqObj "list" #[] 0)).update s.heap.objs.size (Obj.mapSeq (· ++ vs.toArray))).objs.size = s.heap.objs.size + 1 := by rw [Heap.size_update, PyProof.Rows.size_push']
  rw [hsz]
  refine wpAny_bind (wpAny_holding (wpAny_call_entry_kw slot_list_sort ⟨_, copyHeap_at s.heap vs, rfl⟩ entry_list_sort ?_ (args_list_sort _)))
  refine wpAny_mono (list_sort_vals (s := { s with heap := copyHeap s.heap vs }) (P := fun f s' => f = .done (.ret .none) ∧ Q (.ref (s.heap.objs.size + 1)) s') (copyHeap_at s.heap vs) S hL ⟨rfl, h⟩) (fun f s' hf => ?_) fun _ _ e => e
  obtain ⟨rfl, hq⟩ := hf
  exact ⟨_, rfl, wpAny_pure ⟨_, rfl, hq⟩⟩
theorem sorted_dataT {β : Type} {R : Value → β → Prop} {enc : β → PyData} {bs : List β} {vs : List Value} {l : Addr} {Q : Value → Shared → Prop} (hl : IsTup s.heap l vs.toArray) (e : EachIs R vs bs) (er : EachIs (fun v b => ∃ as, Reads s.heap v (enc b) as) vs bs) (hal : AllAlike (bs.map enc)) (hk : Sortable (bs.map enc)) (hL : bs.length ≤ sizeLine)
    (hu : ∀ b, b ∈ bs → A.units + 2 + (enc b).depth < cLine) (h : ∀ out, out.length = bs.length → EachIs R out (bs.mergeSort (dataLe false enc)) → Q (.ref (s.heap.objs.size + 1)) { s with heap := sortedAll s.heap vs (List.toArray out) }) :
    wpAny (model prog w) A (call (.builtin "sorted") [.ref l]) Q E s := by
  have er' : EachIs (fun v b => ∃ as, Reads (sortingHeap (copyHeap s.heap vs) (s.heap.objs.size + 1) vs) v (enc b) as) vs bs := er.mono fun _ _ ⟨as, r⟩ => ⟨as, PyProof.Rows.Reads.keeps (fun _ _ => sorting_copy_old) r⟩
  exact sortedT hl (SortsAt.data (each_map (R := fun v d => ∃ as, Reads (sortingHeap (copyHeap s.heap vs) (s.heap.objs.size + 1) vs) v d as) enc er') hal hk (bound_map hu)) (by rw [e.length]; exact hL)
    (h _ (by rw [sortVals_length false rfl]; exact e.length) (sortVals_data false e er' hal))
end
open PySem PySem.Spec L2
section
variable {X : Cx} {W : WX} {a b c e i o : Expr} {es : List Expr} {pos p1 p2 : Pos}
def nOfL (K : PySem.W.Frag) (W : WX) (S : PySem.W.Frag → List Addr → Hp → V → List P → Prop) (f : List P → M (List P)) : List V → Hp → VK → Prop := fun xs H Q => ∃ (L : List Addr) (m : Hm) (σ : L2.St) (v : V) (ps : List P), xs = [v] ∧ Rep K L H m ∧ S K L H v ps ∧ Go K W σ L H (f ps m) fun qs _ L' H' => ∀ a vs, H a = none → H' a = some (.lst vs) → a ∉ L' → IsAll K L' H' vs qs → Q (.ref a) H'
theorem nOfL.toL {X : Cx} {T : Value} {f : List P → M (List P)} (h : CallR X T (nOfL X.K W SeqV f)) : CallR X T (nOfL X.K W SeqL f) := by
  intro pins s σ H xs us Q I rv ⟨L, m, σ', v, ps, e, r, i, g⟩
  exact h pins s σ H xs us Q I rv ⟨L, m, σ', v, ps, e, r, i.seq, g⟩
theorem grow_none {L L' : List Addr} {H H' : Hp} (x : Ext L H L' H') {a : Addr} (h : H' a = none) : H a = none := by
  cases q : H a with
  | none => rfl
  | some u => exact absurd h (x.grow a (by rw [q]; simp))
theorem pdl_nL {f : List P → M (List P)} {l : LD} {x : Str} {T : Value} (hc : CallR X T (nOfL X.K W SeqL f)) (hT : (∃ id, T = .builtin id) ∨ ∃ id, T = .type id) (hm : X.mg x = none) (hl : PDL X W e l) (hg : Gl X x := by rfl) (hv : bootBuiltins x = some T := by decide +kernel) (hn : x ≠ "__name__" := by decide) (hdb : (x == ("__debug__" : Str)) = false := by decide)
    (he : starEach [e] X.env = (false, eval e X.env) :: starEach [] X.env := by rfl) : PDL X W (.Call (.Name x p1) [e] [] pos) (lThen f l) := by
  have w : ∀ σ H Q, liftL X.K W (lThen f l) σ H Q → tCB (nOfL X.K W SeqL f) (tCons (liftL X.K W l) tNil) σ H Q := fun σ H Q ⟨L, m, ρ, r, e, g⟩ => show liftL X.K W l σ H (fun x H1 => nOfL X.K W SeqL f [x] H1 Q) from
    liftL_bnd r e g fun a vs ps m1 L1 H1 x1 r1 e1 h0 h1 h2 h3 g1 => ⟨L1, m1, σ, _, ps, rfl, r1, ⟨a, vs, rfl, .of h1, h3⟩, (g1.mono x1).imp fun qs m2 L2 H2 _ x2 r2 k a vs h4 => k a vs (grow_none x1 h4)⟩
  rcases hT with ⟨id, rfl⟩ | ⟨id, rfl⟩
  · exact pe_weak (pe_callB hc hg hm hv (pa_cons hl pa_nil he) hn hdb he rfl) w
  · exact pe_weak (pe_callTy hc hg hm hv (pa_cons hl pa_nil he) hn hdb he rfl) w
theorem pdl_nV {f : List P → M (List P)} {d : D} {x : Str} {T : Value} (hc : CallR X T (nOfL X.K W SeqV f)) (hT : (∃ id, T = .builtin id) ∨ ∃ id, T = .type id) (hm : X.mg x = none) (hl : PDE X W e d) (hg : Gl X x := by rfl) (hv : bootBuiltins x = some T := by decide +kernel) (hn : x ≠ "__name__" := by decide) (hdb : (x == ("__debug__" : Str)) = false := by decide)
    (he : starEach [e] X.env = (false, eval e X.env) :: starEach [] X.env := by rfl) : PDL X W (.Call (.Name x p1) [e] [] pos) (lV f d) := by
  have w : ∀ σ H Q, liftL X.K W (lV f d) σ H Q → tCB (nOfL X.K W SeqV f) (tCons (lift X.K W d) tNil) σ H Q := fun σ H Q ⟨L, m, ρ, r, e, g⟩ => show lift X.K W d σ H (fun x H1 => nOfL X.K W SeqV f [x] H1 Q) from
    lift_bnd r e g fun x p m1 L1 H1 x1 r1 e1 i1 g1 => by
      obtain ⟨ps, sv, g2⟩ := Go.items r1 i1 g1
      exact ⟨L1, m1, σ, _, ps, rfl, r1, sv, g2.imp fun qs m2 L2 H2 _ x2 r2 k a vs h4 => k a vs (grow_none x1 h4)⟩
  rcases hT with ⟨id, rfl⟩ | ⟨id, rfl⟩
  · exact pe_weak (pe_callB hc hg hm hv (pa_cons hl pa_nil he) hn hdb he rfl) w
  · exact pe_weak (pe_callTy hc hg hm hv (pa_cons hl pa_nil he) hn hdb he rfl) w
theorem go_newL {K : PySem.W.Frag} {L : List Addr} {H : Hp} {m : Hm} {σ : L2.St} {ps : List P} {vs : List V} {Q : VK} (r : Rep K L H m) (h : IsAll K L H vs ps) (g : Go K W σ L H (ret ps m) fun qs _ L' H' => ∀ a vs, H a = none → H' a = some (.lst vs) → a ∉ L' → IsAll K L' H' vs qs → Q (.ref a) H') :
    ∀ p, H p = none → Q (.ref p) (upd H p (.lst vs)) := fun p hp => g L (upd H p (.lst vs)) (ext_new hp) (r.mono_new hp) p vs hp upd_same (r.new hp) (h.stay (stay_new hp))
theorem cl_list : CallR X (.type "list") (nOfL X.K W SeqV lId) := by
  intro pins s σ H xs us Q I rv ⟨L, m, σ', v, ps, e, r, ⟨a, vs, ev, h1, h2⟩, g⟩
  subst e ev
  exact call_list_of pins s σ H _ us Q I rv ⟨a, vs, rfl, h1, go_newL r h2 g⟩

/-! ### sorted -/
theorem mapO_some {α β : Type} {g : α → Option β} : ∀ {l : List α} {r : List β}, mapO g l = some r → PySem.W.EachIs (fun a b => g a = some b) l r
  | [], _, e => by cases e; exact .nil
  | a :: l, r, e => by
    unfold mapO at e
    split at e
    · rename_i b hb
      split at e
      · rename_i bs hbs
        cases e
        exact .cons hb (mapO_some hbs)
      · cases e
    · cases e
theorem each_back {K : PySem.W.Frag} {L : List Addr} {H : Hp} {R : Value → P × PyData → Prop} (hR : ∀ u b, R u b → ∃ v, RelV v u ∧ Is K L H v b.1) : ∀ {us : List Value} {bs : List (P × PyData)}, PySem.W.EachIs R us bs → ∃ vs, Vals vs us ∧ IsAll K L H vs (bs.map (·.1))
  | _, _, .nil => ⟨[], .nil, .nil⟩
  | _, _, .cons h t => by
    obtain ⟨v, h1, h2⟩ := hR _ _ h
    obtain ⟨vs, h3, h4⟩ := each_back hR t
    exact ⟨v :: vs, .cons h1 h3, .cons h2 h4⟩
theorem each_fwd {K : PySem.W.Frag} {L : List Addr} {H : Hp} {m : Hm} : ∀ {vs : List V} {us : List Value} {ps : List P} {bs : List (P × PyData)}, Vals vs us → IsAll K L H vs ps → PySem.W.EachIs (fun p b => ((dat m DD p).map fun d => (p, d)) = some b) ps bs →
    PySem.W.EachIs (fun u b => ∃ v, RelV v u ∧ Is K L H v b.1 ∧ dat m DD b.1 = some b.2) us bs
  | _, _, _, _, .nil, .nil, .nil => .nil
  | _, _, _, _, .cons r t, .cons i j, .cons h k => by
    refine .cons ?_ (each_fwd t j k)
    obtain ⟨d, e, rfl⟩ := Option.map_eq_some_iff.mp h
    exact ⟨_, r, i, e⟩
theorem each_right {α β : Type} {R : α → β → Prop} : ∀ {as : List α} {bs : List β}, PySem.W.EachIs R as bs → ∀ b, b ∈ bs → ∃ a, a ∈ as ∧ R a b
  | _, _, .nil, _, h => nomatch h
  | _, _, .cons h t, b, hb => by
    rcases List.mem_cons.mp hb with rfl | hb
    · exact ⟨_, List.mem_cons_self, h⟩
    · obtain ⟨a, h1, h2⟩ := each_right t b hb
      exact ⟨a, List.mem_cons_of_mem _ h1, h2⟩
theorem mg_eq {α : Type} (le : α → α → Bool) : ∀ (n : Nat) (xs ys : List α), xs.length + ys.length < n → mg le n xs ys = xs.merge ys le
  | 0, _, _, h => absurd h (by omega)
  | _ + 1, [], ys, _ => by rw [List.nil_merge]; rfl
  | _ + 1, x :: xs, [], _ => by rw [List.merge_right]; rfl
  | n + 1, x :: xs, y :: ys, h => by
    have h : xs.length + 1 + (ys.length + 1) < n + 1 := h
    unfold mg List.merge
    cases e : le x y with
    | true => simp only [if_true]; rw [mg_eq le n xs (y :: ys) (by simp; omega)]
    | false => simp only [Bool.false_eq_true, if_false]; rw [mg_eq le n (x :: xs) ys (by simp; omega)]
theorem ms_eq {α : Type} (le : α → α → Bool) : ∀ (n : Nat) (l : List α), l.length < n → ms le n l = l.mergeSort le
  | 0, _, h => absurd h (by omega)
  | _ + 1, [], _ => by rw [List.mergeSort_nil]; rfl
  | _ + 1, [a], _ => by rw [List.mergeSort_singleton]; rfl
  | n + 1, a :: b :: xs, h => by
    have h : xs.length + 1 + 1 < n + 1 := h
    rw [List.mergeSort]
    have e : ((a :: b :: xs).length + 1) / 2 = (xs.length + 1 + 1 + 1) / 2 := rfl
    have e1 : ms le n ((a :: b :: xs).take ((xs.length + 1 + 1 + 1) / 2)) = ((a :: b :: xs).take ((xs.length + 1 + 1 + 1) / 2)).mergeSort le := ms_eq le n _ (by rw [List.length_take]; simp only [List.length_cons]; omega)
    have e2 : ms le n ((a :: b :: xs).drop ((xs.length + 1 + 1 + 1) / 2)) = ((a :: b :: xs).drop ((xs.length + 1 + 1 + 1) / 2)).mergeSort le := ms_eq le n _ (by rw [List.length_drop]; simp only [List.length_cons]; omega)
    show mg le (xs.length + 1 + 1 + 1) (ms le n ((a :: b :: xs).take ((xs.length + 1 + 1 + 1) / 2))) (ms le n ((a :: b :: xs).drop ((xs.length + 1 + 1 + 1) / 2))) = _
    rw [e1, e2, mg_eq _ _ _ _ (by rw [List.length_mergeSort, List.length_mergeSort, List.length_take, List.length_drop]; simp only [List.length_cons]; omega)]
    simp only [List.MergeSort.Internal.splitInTwo, List.splitAt_eq, List.length_cons]
theorem cl_sorted (ok : Cok X) : CallR X (.builtin "sorted") (nOfL X.K W SeqV sortP) := by
  intro pins s σ H xs us Q I rv ⟨L, m, σ', v, ps, e, r, ⟨a, vs, ev, h1, h2⟩, g⟩
  subst e ev
  cases rv with
  | cons ru t =>
  cases t
  obtain rfl := ru
  unfold sortP at g
  cases hq : mapO (fun p => (dat m DD p).map fun d => (p, d)) ps with
  | none => rw [hq] at g; exact False.elim g
  | some qs =>
    rw [hq] at g
    simp only at g
    cases hb : (allAlike (qs.map (·.2)) && ((qs.map (·.2)).all isTup1 || (qs.map (·.2)).all isOther)) with
    | false => rw [hb] at g; exact False.elim g
    | true =>
      rw [hb] at g
      rw [Bool.and_eq_true, Bool.or_eq_true] at hb
      have fin : ∀ (its : List Value), Vals vs its → vs.length ≤ sizeLine → (PyProof.Rows.IsTup s.heap a its.toArray ∨ s.heap.IsList a its.toArray) → wpAny (model X.prog X.w) X.A (call (.builtin "sorted") [.ref a]) (EP X pins σ Q) X.xe s := by
        intro its rv hz hl
        have ef := each_fwd rv h2 (mapO_some hq)
        have al : PySem.W.AllAlike (qs.map (·.2)) := fun d hd d' hd' => List.all_eq_true.mp (List.all_eq_true.mp hb.1 d hd) d' hd'
        have so : PySem.W.Sortable (qs.map (·.2)) := by
          rcases hb.2 with h | h
          · refine .inl fun d hd => ?_
            have := List.all_eq_true.mp h d hd
            cases d with
            | tuple l => cases l with
              | nil => cases this
              | cons x l => exact ⟨x, l, rfl⟩
            | _ => cases this
          · refine .inr fun d hd => ?_
            have := List.all_eq_true.mp h d hd
            exact ⟨fun z => (by subst z; cases this), fun l z => (by subst z; cases this)⟩
        have rd : PySem.W.EachIs (fun u b => ∃ as, Reads s.heap u b.2 as) its qs := ef.mono fun u b ⟨v, h3, h4, h5⟩ => Dp.reads I b.2 v u (Dp_of r _ _ _ _ h5 h4) h3
        have dp : ∀ b, b ∈ qs → X.A.units + 2 + b.2.depth < cLine := fun b hm => by
          obtain ⟨u, hu, v, _, _, h5⟩ := each_right ef b hm
          have := dat_depth _ _ _ h5
          have := ok.hu
          have : DD = 60 := rfl
          omega
        have hlen : qs.length ≤ sizeLine := by
          have e1 := ef.length
          have e2 := rv.length
          omega
        have close : ∀ out : List Value, out.length = qs.length → PySem.W.EachIs (fun u b => ∃ v, RelV v u ∧ Is X.K L H v b.1 ∧ dat m DD b.1 = some b.2) out (qs.mergeSort (PySem.W.dataLe false fun b => b.2)) →
            EP X pins σ Q (.ref (s.heap.objs.size + 1)) { s with heap := PyProof.Rows.sortedAll s.heap its (List.toArray out) } := by
          intro out ho he
          obtain ⟨ws, w1, w2⟩ := each_back (fun u b ⟨v, h3, h4, _⟩ => ⟨v, h3, h4⟩) he
          obtain ⟨c, hc⟩ := PyProof.Rows.sortedAll_at s.heap its out.toArray
          have hp : H (s.heap.objs.size + 1) = none := I.hok.fresh (Nat.le_succ _)
          have hlen2 : ws.length ≤ sizeLine := by
            have e1 := w1.length
            omega
          refine ⟨.ref (s.heap.objs.size + 1), upd H (s.heap.objs.size + 1) (.lst ws), I.laid (t' := s.toks) (fun b o e => PyProof.Rows.sortedAll_old e) (Nat.le_succ _) ⟨hlen2, out, c, w1, hc⟩, rfl, ?_⟩
          rw [PySem.W.dataLe_eq] at w2
          rw [ms_eq _ _ _ (Nat.lt_succ_self _)] at g
          exact go_newL (ps := (qs.mergeSort fun a b => !PySem.W.dataLt b.2 a.2).map (·.1)) r w2 g _ hp
        rcases hl with hl | hl
        · exact sorted_dataT hl ef rd al so hlen dp close
        · exact PySem.W.sorted_data hl ef rd al so hlen dp close
      rcases h1 with h1 | h1
      · obtain ⟨its, rv, hl, hz⟩ := I.list h1
        exact fin its rv hz (.inr hl.isList)
      · obtain ⟨its, rv, hl, hz⟩ := I.tuple h1
        exact fin its rv hz (.inl hl)
end
end G

/-! G8: repr; methods of lists. -/
namespace G
open PySem PySem.Spec L2
theorem datL_noDict {m : Hm} {f : Nat} (ih : ∀ p d, dat m f p = some d → d.hasDict = false) : ∀ (ps : List P) (ds : List PyData), mapO (dat m f) ps = some ds → PyData.hasDictAll ds = false
  | [], ds, h => by cases h; rfl
  | p :: ps, ds, h => by
    unfold mapO at h
    split at h
    · rename_i d hd
      split at h
      · rename_i es he
        cases h
        rw [PyData.hasDictAll, ih p d hd, datL_noDict ih ps es he]
        rfl
      · cases h
    · cases h
theorem dat_noDict {m : Hm} : ∀ (f : Nat) (p : P) (d : PyData), dat m f p = some d → d.hasDict = false
  | 0, p, d, h => by cases p <;> first | (cases h; rfl) | cases h
  | f + 1, p, d, h => by
    have ih := dat_noDict (m := m) f
    have fin : ∀ {ps : List P} {g : List PyData → PyData}, (∀ ds, (g ds).hasDict = PyData.hasDictAll ds) → (mapO (dat m f) ps).map g = some d → d.hasDict = false := fun {ps g} hg h => by
      obtain ⟨ds, e1, rfl⟩ := Option.map_eq_some_iff.mp h
      rw [hg, datL_noDict ih _ _ e1]
    cases p with
    | non => cases h; rfl
    | bl b => cases h; rfl
    | int i => cases h; rfl
    | str x => cases h; rfl
    | tup ps => exact fin (g := PyData.tuple) (fun _ => by rw [PyData.hasDict]) h
    | kt ps => exact fin (g := PyData.tuple) (fun _ => by rw [PyData.hasDict]) h
    | scr ps => exact fin (g := PyData.list) (fun _ => by rw [PyData.hasDict]) h
    | ref n =>
      unfold dat at h
      split at h
      · exact fin (g := PyData.list) (fun _ => by rw [PyData.hasDict]) h
      · cases h
section
variable {X : Cx} {W : WX} {a b c e i o : Expr} {es : List Expr} {pos p1 p2 : Pos} {pins : List (Addr × Obj)} {s : Shared} {σ : L2.St} {H : Hp} {Q : VK}
theorem repr_data (ok : Cok X) (I : Inv X pins σ H s) {v : V} {u : Value} {d : PyData} (rv : RelV v u) (h : Dp X.K H v d) (hd : d.depth ≤ 61) (hn : d.hasDict = false) (hs : d.showable = true) (hz : d.shown.length ≤ sizeLine) (q : Q (.str d.shown) H) :
    wpAny (model X.prog X.w) X.A (call (.builtin "repr") [u]) (EP X pins σ Q) X.xe s := by
  obtain ⟨as, r⟩ := Dp.reads I d v u h rv
  have fin : ∀ (t : Nat) (tk : Tok), EP X pins σ Q (.str d.shown tk) { s with toks := t } := fun t tk => ⟨.str d.shown, H, I.tok t, ⟨_, rfl⟩, q⟩
  cases r with
  | none =>
    have e : PyData.none.shown = ("None" : Str) := by simp only [PyData.shown]
    exact PySem.P.repr_of_none (e ▸ fin _ _)
  | bool b =>
    have e : (PyData.bool b).shown = (if b then "True" else "False" : Str) := by simp only [PyData.shown]
    exact PySem.P.repr_of_bool (e ▸ fin _ _)
  | int i t =>
    have e : (PyData.int i).shown = ((toString i : String) : Str) := by simp only [PyData.shown]
    exact PySem.P.repr_of_int (by simpa [PyData.showable] using hs) (e ▸ fin _ _)
  | str x t =>
    have e : (PyData.str x).shown = reprText x := by simp only [PyData.shown]
    exact PySem.P.repr_of_str (e ▸ fin _ _) (by rw [← e]; exact hz)
  | list h1 h2 h3 h4 =>
    have := ok.hu
    exact repr_of_reads' (.list h1 h2 h3 h4) hs (PyData.noDict_hsm hn) ok.hg (by omega) (fun _ _ e => e) (fun h' u tk hk => ⟨.str _, H, I.kept hk, ⟨_, rfl⟩, q⟩) hz
  | tuple h1 h2 h3 h4 =>
    have := ok.hu
    exact repr_of_reads' (.tuple h1 h2 h3 h4) hs (PyData.noDict_hsm hn) ok.hg (by omega) (fun _ _ e => e) (fun h' u tk hk => ⟨.str _, H, I.kept hk, ⟨_, rfl⟩, q⟩) hz
  | dict h1 h2 h3 h4 h5 => exact absurd hn (by rw [PyData.hasDict]; simp)
theorem cb_repr (ok : Cok X) : CallR X (.builtin "repr") (cOf X.K W (one bRepr)) := call1 fun pins s σ H v us Q L m σ' p I rv r i g => by
  obtain ⟨d, e1, g⟩ := Go.asD r g
  obtain ⟨b, g2⟩ := Go.when_ g
  rw [Bool.and_eq_true] at b
  cases rv with
  | cons ru t =>
    cases t
    have := dat_depth _ _ _ e1
    exact repr_data ok I ru (Dp_of r _ _ _ _ e1 i) (by have : DD = 60 := rfl; omega) (dat_noDict _ _ _ e1) b.1 (of_decide_eq_true b.2) (Go.ret (a := P.str d.shown) g2 r _ (.str _))
theorem Go.allD {K : PySem.W.Frag} {L : List Addr} {H : Hp} {m : Hm} {σ : L2.St} {ps : List P} {β : Type} {f : List PyData → M β} {F : β → Hm → List Addr → Hp → Prop} (g : Go K W σ L H (G.bnd (G.allD ps) f m) F) :
    ∃ ds, mapO (dat m DD) ps = some ds ∧ Go K W σ L H (f ds m) F := by
  unfold G.bnd G.allD at g
  cases e : mapO (dat m DD) ps with
  | none => rw [e] at g; exact False.elim g
  | some ds => rw [e] at g; exact ⟨ds, rfl, g⟩
theorem cn_repr (ok : Cok X) : CallR X (.builtin "repr") (nOf X.K W SeqL nRepr) := by
  intro pins s σ H xs us Q I rv ⟨L, m, σ', v, ps, e, r, ⟨a, vs, ev, h1, h2⟩, g⟩
  subst e ev
  obtain ⟨ds, e1, g⟩ := Go.allD g
  obtain ⟨b, g2⟩ := Go.when_ g
  rw [Bool.and_eq_true] at b
  cases rv with
  | cons ru t =>
    cases t
    have hd := datL_depth (fun p d h => dat_depth _ p d h) _ _ e1
    exact repr_data ok I ru (.lst h1 (Dp_all (Dp_of r DD) _ _ _ e1 h2)) (by show PyData.depthAll ds + 1 ≤ 61; have : DD = 60 := rfl; omega) (by rw [PyData.hasDict]; exact datL_noDict (fun p d h => dat_noDict _ p d h) _ _ e1) b.1 (of_decide_eq_true b.2) (Go.ret (a := P.str (PyData.list ds).shown) g2 r _ (.str _))

/-! ### methods of lists -/
theorem go_chkL {K : PySem.W.Frag} {L : List Addr} {H : Hp} {m : Hm} {σ : L2.St} {p : P} {v : V} {β : Type} {f : Unit → M β} {F : β → Hm → List Addr → Hp → Prop} (r : Rep K L H m) (i : Is K L H v p) (g : Go K W σ L H (bnd (chkL p) f m) F) :
    tyV K "list" v H ∧ Go K W σ L H (f () m) F := by
  cases i with
  | @ref a n h =>
    unfold chkL getO bnd at g
    cases e : m[n]? with
    | none => simp only [e] at g; exact False.elim g
    | some o =>
      simp only [e] at g
      cases o with
      | lst ps =>
        obtain ⟨vs, k1, k2⟩ := r.lst h e
        exact ⟨.inl ⟨rfl, vs, .of k1⟩, g⟩
      | _ => exact False.elim g
  | _ => exact False.elim g
theorem pd_append {o e : Expr} {d de : D} {apos cpos : Pos} (ho : PDE X W o d) (he : PDE X W e de) (hst : starEach [e] X.env = (false, eval e X.env) :: starEach [] X.env := by rfl) (hbase : attributeBase o "append" X.env (eval o X.env) = eval o X.env := by rfl)
    (hfew : ((backTo cpos (starEach [e] X.env)).all (fun x => !x.1) && (backToKw cpos (keywordEach [] X.env)).all (fun x => x.1.isSome) && decide ([e].length + ([] : List Keyword).length + (if ([] : List Keyword).isEmpty then 0 else 1) < 30)) = true := by rfl) (hpl : (backTo cpos (starEach [] X.env)).any (·.1) = false := by rfl) (hline : (apos.endLine == cpos.line) = true := by rfl) :
    PDE X W (.Call (.Attribute o "append" apos) [e] [] cpos) (dMeth1 chkL mAppend d de) := by
  refine pe_weak (pe_bm PySem.F.plainAttrs_list PySem.F.slot_list_append PySem.F.type_list_append mt_append ho (pa_cons he pa_nil hst) hbase hfew hline hst hpl) fun σ H Q ⟨L, m, ρ, r, e, g⟩ => ?_
  refine lift_bnd r e g fun x p m1 L1 H1 x1 r1 e1 i1 g1 => ?_
  obtain ⟨ty, g1⟩ := go_chkL r1 i1 g1
  refine ⟨ty, show lift X.K W de σ H1 (fun y H2 => rAppend x [y] H2 Q) from lift_bnd r1 e1 g1 fun y q m2 L2 H2 x2 r2 e2 i2 g2 => ?_⟩
  have i1 := i1.mono r1 x2
  cases i1 with
  | @ref a n h =>
    obtain ⟨ob, e3, g3⟩ := Go.getO g2
    cases ob with
    | lst ps =>
      obtain ⟨b, g4⟩ := Go.when_ g3
      obtain ⟨vs, k1, k2⟩ := r2.lst h e3
      refine ⟨a, vs, y, rfl, rfl, k1, by rw [k2.length]; exact of_decide_eq_true b, ?_⟩
      have st : Ext L2 H2 L2 (upd H2 a (.lst (vs ++ [y]))) := ext_put h
      exact g4 L2 _ st (r2.put h trivial ⟨_, upd_same, (k2.append (.cons i2 .nil)).stay (st.stay r2)⟩) _ .non
    | _ => exact False.elim g3
  | _ => exact False.elim g2
theorem pd_extendL {o e : Expr} {d : D} {l : LD} {apos cpos : Pos} (ho : PDE X W o d) (he : PDL X W e l) (hst : starEach [e] X.env = (false, eval e X.env) :: starEach [] X.env := by rfl) (hbase : attributeBase o "extend" X.env (eval o X.env) = eval o X.env := by rfl)
    (hfew : ((backTo cpos (starEach [e] X.env)).all (fun x => !x.1) && (backToKw cpos (keywordEach [] X.env)).all (fun x => x.1.isSome) && decide ([e].length + ([] : List Keyword).length + (if ([] : List Keyword).isEmpty then 0 else 1) < 30)) = true := by rfl) (hpl : (backTo cpos (starEach [] X.env)).any (·.1) = false := by rfl) (hline : (apos.endLine == cpos.line) = true := by rfl) :
    PDE X W (.Call (.Attribute o "extend" apos) [e] [] cpos) (dMethL chkL mExtend d l) := by
  refine pe_weak (pe_bm PySem.F.plainAttrs_list PySem.F.slot_list_extend PySem.F.type_list_extend mt_extend ho (pa_cons he pa_nil hst) hbase hfew hline hst hpl) fun σ H Q ⟨L, m, ρ, r, e, g⟩ => ?_
  refine lift_bnd r e g fun x p m1 L1 H1 x1 r1 e1 i1 g1 => ?_
  obtain ⟨ty, g1⟩ := go_chkL r1 i1 g1
  refine ⟨ty, show liftL X.K W l σ H1 (fun y H2 => rExtend x [y] H2 Q) from liftL_bnd r1 e1 g1 fun c ws qs m2 L2 H2 x2 r2 e2 h0 h1 h2 h3 g2 => ?_⟩
  have i1 := i1.mono r1 x2
  have g2 := g2.mono x2
  cases i1 with
  | @ref a n h =>
    obtain ⟨ob, e3, g3⟩ := Go.getO g2
    cases ob with
    | lst ps =>
      obtain ⟨b, g4⟩ := Go.when_ g3
      obtain ⟨vs, k1, k2⟩ := r2.lst h e3
      refine ⟨a, c, vs, ws, rfl, rfl, k1, h1, by rw [k2.length, h3.length]; exact of_decide_eq_true b, ?_⟩
      have st : Ext L2 H2 L2 (upd H2 a (.lst (vs ++ ws))) := ext_put h
      exact g4 L2 _ st (r2.put h trivial ⟨_, upd_same, (k2.append h3).stay (st.stay r2)⟩) _ .non
    | _ => exact False.elim g3
  | _ => exact False.elim g2
theorem pd_pop {o : Expr} {d : D} {apos cpos : Pos} (ho : PDE X W o d) (hbase : attributeBase o "pop" X.env (eval o X.env) = eval o X.env := by rfl) (hline : (apos.endLine == cpos.line) = true := by rfl) :
    PDE X W (.Call (.Attribute o "pop" apos) [] [] cpos) (dMeth0 chkL mPop d) := by
  refine pe_weak (pe_bm0 PySem.F.plainAttrs_list PySem.F.slot_list_pop PySem.F.type_list_pop mt_pop ho hbase hline) fun σ H Q ⟨L, m, ρ, r, e, g⟩ => ?_
  refine lift_bnd r e g fun x p m1 L1 H1 x1 r1 e1 i1 g1 => ?_
  obtain ⟨ty, g2⟩ := go_chkL r1 i1 g1
  refine ⟨ty, ?_⟩
  cases i1 with
  | @ref a n h =>
    obtain ⟨ob, e3, g3⟩ := Go.getO g2
    cases ob with
    | lst ps =>
      obtain ⟨vs, k1, k2⟩ := r1.lst h e3
      cases e4 : ps[ps.length - 1]? with
      | none => simp only [e4] at g3; exact False.elim g3
      | some y =>
        simp only [e4] at g3
        obtain ⟨w, h5, h6⟩ := k2.get e4
        refine ⟨a, vs, w, rfl, rfl, k1, by rw [k2.length]; exact h5, ?_⟩
        have st : Ext L1 H1 L1 (upd H1 a (.lst vs.dropLast)) := ext_put h
        exact g3 L1 _ st (r1.put h trivial ⟨_, upd_same, k2.dropLast.stay (st.stay r1)⟩) _ (h6.stay (st.stay r1))
    | _ => exact False.elim g3
  | _ => exact False.elim g2
theorem pd_popAt {o e : Expr} {d de : D} {apos cpos : Pos} (ho : PDE X W o d) (he : PDE X W e de) (hst : starEach [e] X.env = (false, eval e X.env) :: starEach [] X.env := by rfl) (hbase : attributeBase o "pop" X.env (eval o X.env) = eval o X.env := by rfl)
    (hfew : ((backTo cpos (starEach [e] X.env)).all (fun x => !x.1) && (backToKw cpos (keywordEach [] X.env)).all (fun x => x.1.isSome) && decide ([e].length + ([] : List Keyword).length + (if ([] : List Keyword).isEmpty then 0 else 1) < 30)) = true := by rfl) (hpl : (backTo cpos (starEach [] X.env)).any (·.1) = false := by rfl) (hline : (apos.endLine == cpos.line) = true := by rfl) :
    PDE X W (.Call (.Attribute o "pop" apos) [e] [] cpos) (dMeth1 chkL mPopAt d de) := by
  refine pe_weak (pe_bm PySem.F.plainAttrs_list PySem.F.slot_list_pop PySem.F.type_list_pop mt_popAt ho (pa_cons he pa_nil hst) hbase hfew hline hst hpl) fun σ H Q ⟨L, m, ρ, r, e, g⟩ => ?_
  refine lift_bnd r e g fun x p m1 L1 H1 x1 r1 e1 i1 g1 => ?_
  obtain ⟨ty, g1⟩ := go_chkL r1 i1 g1
  refine ⟨ty, show lift X.K W de σ H1 (fun y H2 => rPopAt x [y] H2 Q) from lift_bnd r1 e1 g1 fun y q m2 L2 H2 x2 r2 e2 i2 g2 => ?_⟩
  have i1 := i1.mono r1 x2
  cases i1 with
  | @ref a n h =>
    cases i2 with
    | int j =>
      obtain ⟨ob, e3, g3⟩ := Go.getO g2
      cases ob with
      | lst ps =>
        obtain ⟨vs, k1, k2⟩ := r2.lst h e3
        cases e4 : ixN ps.length j with
        | none => simp only [e4] at g3; exact False.elim g3
        | some k =>
          simp only [e4] at g3
          cases e5 : ps[k]? with
          | none => simp only [e5] at g3; exact False.elim g3
          | some z =>
            simp only [e5] at g3
            obtain ⟨b, g4⟩ := Go.when_ g3
            rw [Bool.and_eq_true] at b
            obtain ⟨w, h5, h6⟩ := k2.get e5
            refine ⟨a, vs, j, k, w, rfl, rfl, k1, of_decide_eq_true b.1, of_decide_eq_true b.2, by rw [k2.length]; exact (ixN_seq e4).1, h5, ?_⟩
            have st : Ext L2 H2 L2 (upd H2 a (.lst (vs.eraseIdx k))) := ext_put h
            exact g4 L2 _ st (r2.put h trivial ⟨_, upd_same, (k2.eraseIdx k).stay (st.stay r2)⟩) _ (h6.stay (st.stay r2))
      | _ => exact False.elim g3
    | _ => exact False.elim g2
  | _ => exact False.elim g2
end
end G

/-! G9: what is walked, targets, comprehensions. -/
namespace G
open PySem PySem.Spec L2
abbrev WF : WX := none
theorem noX_bnd {α β : Type} (x : M α) (f : α → M β) : noX (bnd x f) = bnd (noX x) fun a => noX (f a) := by
  funext m
  show (match (match x m with
    | .ok a m' => f a m'
    | .exc c v m' => .exc c v m'
    | .bad => .bad : R β) with
    | .ok a m' => R.ok a m'
    | .exc _ _ _ => .bad
    | .bad => .bad) = (match (match x m with
    | .ok a m' => R.ok a m'
    | .exc _ _ _ => .bad
    | .bad => .bad : R α) with
    | .ok a m' => noX (f a) m'
    | .exc c v m' => .exc c v m'
    | .bad => .bad)
  cases x m <;> rfl
theorem Go.noX {α : Type} {K : PySem.W.Frag} {W W' : WX} {σ σ' : L2.St} {L : List Addr} {H : Hp} {m : Hm} {x : M α} {F : α → Hm → List Addr → Hp → Prop} (g : Go K W σ L H (noX x m) F) : Go K W' σ' L H (x m) F := by
  unfold G.noX at g
  cases e : x m with
  | ok a m' => rw [e] at g; exact g
  | exc c v m' => rw [e] at g; exact False.elim g
  | bad => rw [e] at g; exact False.elim g

/-! ### what is walked -/
/-- the iterator J gives what src gives -/
def SrcIs (K : PySem.W.Frag) (L0 : List Addr) (H0 : Hp) (J : It) (src : Src) : Prop := ∀ (L : List Addr) (H : Hp) (m : Hm), Ext L0 H0 L H → Rep K L H m → ∀ i o, src.at i m = some o → match o with
  | none => J.stop i H
  | some p => J.go i H ∧ ∀ x H', J.yld i H x H' → Ext L H L H' ∧ Rep K L H' m ∧ Is K L H' x p
def liftI (K : PySem.W.Frag) (W : WX) (s : SD) : TI := fun σ H R => ∃ L m ρ, Rep K L H m ∧ EnvIs K L H σ ρ ∧ Go K W σ L H (s ρ m) fun src _ L' H' => ∀ J, SrcIs K L' H' J src → R J H'
def PDI (X : Cx) (W : WX) (tg iter : Expr) (s : SD) : Prop := PI X tg iter (liftI X.K W s)
theorem pi_weak {X : Cx} {tg iter : Expr} {t t' : TI} (h : PI X tg iter t) (w : ∀ σ H R, t' σ H R → t σ H R) : PI X tg iter t' := ⟨fun pins s σ H R I q => h.run pins s σ H R I (w σ H R q)⟩
section
variable {K : PySem.W.Frag} {L : List Addr} {H : Hp} {m : Hm}
/-- the items of an unchanging thing -/
theorem src_tup {a : Addr} {vs : List V} {ps : List P} (r : Rep K L H m) (h : SqT K H a vs) (i : IsAll K L H vs ps) : SrcIs K L H (Itt K a) (.seq ps) := by
  intro L' H' m' x r' j o ho
  have st := x.stay r
  have h' := st.sqT h
  have i' := i.stay st
  cases (show some ps[j]? = some o from ho)
  cases e : ps[j]? with
  | none => exact ⟨vs, h', by rw [i.length]; exact List.getElem?_eq_none_iff.mp e⟩
  | some p =>
    obtain ⟨v, e1, e2⟩ := i'.get e
    exact ⟨⟨vs, v, h', e1⟩, fun x1 H1 ⟨eH, q⟩ => by
      subst eH
      have := (q vs h').symm.trans e1
      cases this
      exact ⟨Ext.refl _ _, r', e2⟩⟩
theorem src_scr {a : Addr} {vs : List V} {ps : List P} (r : Rep K L H m) (h : (∃ ob, H a = some (.frz ob (.lst vs))) ∨ KL K a vs) (i : IsAll K L H vs ps) : SrcIs K L H (Itl K a) (.seq ps) := by
  intro L' H' m' x r' j o ho
  have st := x.stay r
  have h' : SqL K H' a vs := SqL_of_frz (h.imp (fun ⟨ob, e⟩ => ⟨ob, st.fix _ _ e id⟩) id)
  have i' := i.stay st
  cases (show some ps[j]? = some o from ho)
  cases e : ps[j]? with
  | none => exact ⟨vs, h', by rw [i.length]; exact List.getElem?_eq_none_iff.mp e⟩
  | some p =>
    obtain ⟨v, e1, e2⟩ := i'.get e
    exact ⟨⟨vs, v, h', e1⟩, fun x1 H1 ⟨eH, q⟩ => by
      subst eH
      have := (q vs h').symm.trans e1
      cases this
      exact ⟨Ext.refl _ _, r', e2⟩⟩
/-- .. of a list that no one holds -/
theorem src_own {a : Addr} {vs : List V} {ps : List P} (r : Rep K L H m) (h : H a = some (.lst vs)) (n : a ∉ L) (i : IsAll K L H vs ps) : SrcIs K L H (Itl K a) (.seq ps) := by
  intro L' H' m' x r' j o ho
  have st := x.stay r
  have h' : SqL K H' a vs := .of (x.keep _ _ h n)
  have i' := i.stay st
  cases (show some ps[j]? = some o from ho)
  cases e : ps[j]? with
  | none => exact ⟨vs, h', by rw [i.length]; exact List.getElem?_eq_none_iff.mp e⟩
  | some p =>
    obtain ⟨v, e1, e2⟩ := i'.get e
    exact ⟨⟨vs, v, h', e1⟩, fun x1 H1 ⟨eH, q⟩ => by
      subst eH
      have := (q vs h').symm.trans e1
      cases this
      exact ⟨Ext.refl _ _, r', e2⟩⟩
/-- the items of a list of ours -/
theorem src_lst {a : Addr} {n : Nat} (h : L[n]? = some a) : SrcIs K L H (Itl K a) (.lst n) := by
  intro L' H' m' x r' j o ho
  have ho : (match m'[n]? with
    | some (.lst ps) => some ps[j]?
    | _ => none) = some o := ho
  split at ho
  · rename_i ps e
    cases ho
    obtain ⟨vs, k1, k2⟩ := r'.lst (x.get h) e
    cases e1 : ps[j]? with
    | none => exact ⟨vs, .of k1, by rw [k2.length]; exact List.getElem?_eq_none_iff.mp e1⟩
    | some p =>
      obtain ⟨v, e2, e3⟩ := k2.get e1
      exact ⟨⟨vs, v, .of k1, e2⟩, fun x1 H1 ⟨eH, q⟩ => by
        subst eH
        have := (q vs (.of k1)).symm.trans e2
        cases this
        exact ⟨Ext.refl _ _, r', e3⟩⟩
  · cases ho
theorem numbered_get : ∀ (ps : List P) (k j : Nat), (numbered k ps)[j]? = ps[j]?.map fun p => .tup [.int ((k + j : Nat) : Int), p]
  | [], _, _ => by simp [numbered]
  | p :: ps, k, 0 => by simp [numbered]
  | p :: ps, k, j + 1 => by
    show (numbered (k + 1) ps)[j]? = _
    rw [numbered_get ps (k + 1) j, List.getElem?_cons_succ]
    have : k + 1 + j = k + (j + 1) := by omega
    rw [this]
theorem ext_newR (r : Rep K L H m) {a : Addr} {i : Int} {v : V} {p : P} (h : H a = none) (q : Is K L H v p) : Ext L H L (upd H a (.tup [.int i, v])) ∧ Rep K L (upd H a (.tup [.int i, v])) m ∧ Is K L (upd H a (.tup [.int i, v])) (.ref a) (.tup [.int i, p]) :=
  ⟨ext_new h, r.mono_new h, .tup upd_same (.cons (.int i) (.cons (q.stay (stay_new h)) .nil))⟩
theorem src_enumL {a : Addr} {n : Nat} (h : L[n]? = some a) : SrcIs K L H (Ite K a) (.enumL n) := by
  intro L' H' m' x r' j o ho
  have ho : (match m'[n]? with
    | some (.lst ps) => some (ps[j]?.map fun p => .tup [.int (j : Nat), p])
    | _ => none) = some o := ho
  split at ho
  · rename_i ps e
    cases ho
    obtain ⟨vs, k1, k2⟩ := r'.lst (x.get h) e
    cases e1 : ps[j]? with
    | none => exact ⟨vs, .of k1, by rw [k2.length]; exact List.getElem?_eq_none_iff.mp e1⟩
    | some p =>
      obtain ⟨v, e2, e3⟩ := k2.get e1
      exact ⟨⟨vs, v, .of k1, e2⟩, fun x1 H1 ⟨T, y, e4, hT, eH, q⟩ => by
        subst eH e4
        have := (q vs (.of k1)).symm.trans e2
        cases this
        exact ext_newR r' hT e3⟩
  · cases ho
theorem src_rng {a : Int} {k : Nat} (e : L = L) : SrcIs K L H (Itr a k) (.seq ((List.range k).map fun (i : Nat) => .int (a + i))) := by
  intro L' H' m' x r' j o ho
  cases (show some _ = some o from ho)
  by_cases hj : j < k
  · have e : ((List.range k).map fun (i : Nat) => P.int (a + i))[j]? = some (.int (a + j)) := by simp [hj]
    rw [e]
    exact ⟨hj, fun x1 H1 ⟨eH, q⟩ => by subst eH q; exact ⟨Ext.refl _ _, r', .int _⟩⟩
  · have e : ((List.range k).map fun (i : Nat) => P.int (a + i))[j]? = none := by simp; omega
    rw [e]
    exact Nat.le_of_not_lt hj
end
section
variable {X : Cx} {W : WX} {tg e : Expr} {p1 pos : Pos}
theorem pi_of {te : TE} (h : PE X e te) : PI X tg e (fun σ H R => te σ H fun v H1 => ∃ a, v = .ref a ∧ (((∃ xs, SqL X.K H1 a xs) ∧ R (Itl X.K a) H1) ∨ ((∃ xs, SqT X.K H1 a xs) ∧ R (Itt X.K a) H1))) := by
  refine ⟨fun pins s σ H R I q => L2.thn (h.run pins s σ H _ I q) fun v s1 ⟨x, H1, I1, r1, a, ex, q1⟩ => ?_⟩
  subst ex; cases r1
  have new : ∀ b, b ∈ [s1.heap.objs.size] → FpOk X pins H1 b := fun b hb => by
    rw [List.mem_singleton.mp hb]
    exact I1.fpOk (Nat.le_refl _) (I1.hok.fresh (Nat.le_refl _))
  rcases q1 with ⟨⟨xs, hq⟩, q⟩ | ⟨⟨xs, hq⟩, q⟩
  · obtain ⟨its, rv, p, hz⟩ := I1.list hq
    exact wpAny_pyIter_list p.isList ⟨_, [s1.heap.objs.size], _, _, H1, rfl, I1.kept (t' := s1.toks) fun b o e => Heap.get?_push_of_some _ e, turn_list a _, ⟨_, Heap.get?_push_size _ rfl, rfl, rfl⟩, new, q⟩
  · obtain ⟨its, rv, p, hz⟩ := I1.tuple hq
    exact wpAny_pyIter_tuple (show s1.heap.IsTuple a its.toArray from p) ⟨_, [s1.heap.objs.size], _, _, H1, rfl, I1.kept (t' := s1.toks) fun b o e => Heap.get?_push_of_some _ e, turn_tuple a _, ⟨_, Heap.get?_push_size _ rfl, rfl, rfl⟩, new, q⟩
theorem pdi_of {d : D} (h : PDE X W e d) : PDI X W tg e (sOf d) := by
  refine pi_weak (pi_of h) fun σ H R ⟨L, m, ρ, r, e, g⟩ => ?_
  refine lift_bnd r e g fun x p m1 L1 H1 x1 r1 e1 i1 g1 => ?_
  cases i1 with
  | @tup a vs ps h1 h2 => exact ⟨a, rfl, .inr ⟨⟨vs, .inl (.inl h1)⟩, Go.ret (a := Src.seq ps) g1 r1 _ (src_tup r1 (.inl (.inl h1)) h2)⟩⟩
  | @kt a vs ps h1 h2 => exact ⟨a, rfl, .inr ⟨⟨vs, h1.sq⟩, Go.ret (a := Src.seq ps) g1 r1 _ (src_tup r1 h1.sq h2)⟩⟩
  | @scr a vs ps h1 h2 => exact ⟨a, rfl, .inl ⟨⟨vs, SqL_of_frz h1⟩, Go.ret (a := Src.seq ps) g1 r1 _ (src_scr r1 h1 h2)⟩⟩
  | @ref a n h =>
    obtain ⟨o, e2, g2⟩ := Go.getO g1
    cases o with
    | lst ps =>
      obtain ⟨vs, k1, k2⟩ := r1.lst h e2
      exact ⟨a, rfl, .inl ⟨⟨vs, .of k1⟩, Go.ret (a := Src.lst n) g2 r1 _ (src_lst h)⟩⟩
    | _ => exact False.elim g2
  | _ => exact False.elim g1
theorem pdi_ofL {l : LD} (h : PDL X W e l) : PDI X W tg e (sOfL l) := by
  refine pi_weak (pi_of h) fun σ H R ⟨L, m, ρ, r, e, g⟩ => ?_
  refine liftL_bnd r e g fun a vs ps m1 L1 H1 x1 r1 e1 h0 h1 h2 h3 g1 => ?_
  exact ⟨a, rfl, .inl ⟨⟨vs, .of h1⟩, Go.ret (a := Src.seq ps) (g1.mono x1) r1 _ (src_own r1 h1 h2 h3)⟩⟩
theorem small62_ok {i : Int} (h : small62 i = true) : -(2 ^ 62) ≤ i ∧ i < 2 ^ 62 := by
  unfold small62 at h
  rw [Bool.and_eq_true] at h
  exact ⟨of_decide_eq_true h.1, of_decide_eq_true h.2⟩
theorem pdi_range1 {d : D} (hm : X.mg "range" = none) (h : PDE X W e d) (hg : Gl X "range" := by rfl) (hs : starEach [e] X.env = [(false, eval e X.env)] := by rfl) : PDI X W tg (.Call (.Name "range" p1) [e] [] pos) (sRange1 d) := by
  refine pi_weak (pi_range1 hg hm (pa_cons h pa_nil hs) hs) fun σ H R ⟨L, m, ρ, r, e, g⟩ => show lift X.K W d σ H (fun x H1 => ∃ j : Int, [x] = [V.int j] ∧ -(2 ^ 62) ≤ j ∧ j < 2 ^ 62 ∧ R (Itr 0 j.toNat) H1) from ?_
  refine lift_bnd r e g fun x p m1 L1 H1 x1 r1 e1 i1 g1 => ?_
  cases i1 with
  | int j =>
    obtain ⟨b, g2⟩ := Go.when_ (x := ret (Src.seq (rangeP 0 j))) g1
    obtain ⟨b1, b2⟩ := small62_ok b
    have e : (j - 0).toNat = j.toNat := by rw [Int.sub_zero]
    refine ⟨j, rfl, b1, b2, Go.ret (a := Src.seq (rangeP 0 j)) g2 r1 _ ?_⟩
    unfold rangeP
    rw [e]
    exact src_rng rfl
  | _ => exact False.elim g1
theorem pdi_range2 {e' : Expr} {d d' : D} (hm : X.mg "range" = none) (h : PDE X W e d) (h' : PDE X W e' d') (hg : Gl X "range" := by rfl) (hs : starEach [e, e'] X.env = [(false, eval e X.env), (false, eval e' X.env)] := by rfl) (hs2 : starEach [e'] X.env = [(false, eval e' X.env)] := by rfl) : PDI X W tg (.Call (.Name "range" p1) [e, e'] [] pos) (sRange2 d d') := by
  refine pi_weak (pi_range2 hg hm (pa_cons h (pa_cons h' pa_nil hs2) (by rw [hs, hs2])) hs hs2) fun σ H R ⟨L, m, ρ, r, e, g⟩ => show lift X.K W d σ H (fun x H1 => lift X.K W d' σ H1 fun y H2 => ∃ i j : Int, [x, y] = [V.int i, V.int j] ∧ (-(2 ^ 62) ≤ i ∧ i < 2 ^ 62 ∧ -(2 ^ 62) ≤ j ∧ j < 2 ^ 62) ∧ R (Itr i (j - i).toNat) H2) from ?_
  refine lift_bnd r e g fun x p m1 L1 H1 x1 r1 e1 i1 g1 => lift_bnd r1 e1 g1 fun y q m2 L2 H2 x2 r2 e2 i2 g2 => ?_
  cases i1 with
  | int i =>
    cases i2 with
    | int j =>
      obtain ⟨b, g3⟩ := Go.when_ (x := ret (Src.seq (rangeP i j))) g2
      rw [Bool.and_eq_true] at b
      obtain ⟨b1, b2⟩ := small62_ok b.1
      obtain ⟨b3, b4⟩ := small62_ok b.2
      exact ⟨i, j, rfl, ⟨b1, b2, b3, b4⟩, Go.ret (a := Src.seq (rangeP i j)) g3 r2 _ (src_rng rfl)⟩
    | _ => exact False.elim g2
  | _ => exact False.elim g2
end

/-! ### targets -/
def liftG (K : PySem.W.Frag) (vs : List Nat) (g : GD) : TG := fun v σ H Q => ∃ L m ρ p, Rep K L H m ∧ EnvIs K L H σ ρ ∧ Is K L H v p ∧ match g p ρ m with
  | .ok ρ' m' => ∀ σ' L' H', Ext L H L' H' → Rep K L' H' m' → EnvIs K L' H' σ' ρ' → σ'.length = σ.length → (∀ k, k ∉ vs → σ'[k]? = σ[k]?) → Q σ' H'
  | _ => False
def liftGs (K : PySem.W.Frag) (vs : List Nat) (g : GsD) : TGs := fun xs σ H Q => ∃ L m ρ ps, Rep K L H m ∧ EnvIs K L H σ ρ ∧ IsAll K L H xs ps ∧ match g ps ρ m with
  | .ok ρ' m' => ∀ σ' L' H', Ext L H L' H' → Rep K L' H' m' → EnvIs K L' H' σ' ρ' → σ'.length = σ.length → (∀ k, k ∉ vs → σ'[k]? = σ[k]?) → Q σ' H'
  | _ => False
def PDG (X : Cx) (tg : Expr) (vs : List Nat) (g : GD) : Prop := PG X tg (liftG X.K vs g)
def PDGs (X : Cx) (tgs : List Expr) (vs : List Nat) (g : GsD) : Prop := PGs X tgs (liftGs X.K vs g)
section
variable {X : Cx} {W : WX} {tg e : Expr} {es : List Expr} {p1 pos : Pos}
theorem pg_weak {t t' : TG} (h : PG X tg t) (w : ∀ v σ H Q, t' v σ H Q → t v σ H Q) : PG X tg t' := ⟨fun pins s σ H v u Q I r q => h.run pins s σ H v u Q I r (w v σ H Q q)⟩
theorem pgs_weak {t t' : TGs} (h : PGs X es t) (w : ∀ v σ H Q, t' v σ H Q → t v σ H Q) : PGs X es t' := ⟨fun pins s σ H v u Q I r q => h.run pins s σ H v u Q I r (w v σ H Q q)⟩
theorem pdg_name (ok : Cok X) {i : Nat} {x : Str} (hi : X.N[i]? = some x := by rfl) (hx : Loc X.env.scope x := by first | exact Or.inl rfl | exact Or.inr rfl) (hf : X.fn x = true ∨ X.env.scope.names.lookup x = some .local := by first | exact .inl rfl | exact .inr rfl) : PDG X (.Name x pos) [i] (gName i) := by
  refine pg_weak (pg_name ok.nd hi hx hf) fun v σ H Q ⟨L, m, ρ, p, r, e, i1, g⟩ => ?_
  exact g (σ.set i (some v)) L H (Ext.refl L H) r (e.set i i1) (by simp) fun k hk => by
    rw [List.getElem?_set_ne fun z => hk (by simp [z])]
theorem pdgs_nil : PDGs X [] [] gNil := by
  refine pgs_weak pgs_nil fun xs σ H Q ⟨L, m, ρ, ps, r, e, i, g⟩ => ?_
  cases i with
  | nil => exact ⟨rfl, g σ L H (Ext.refl L H) r e rfl fun _ _ => rfl⟩
  | cons _ _ => exact False.elim g
theorem pdgs_cons {vs vs' : List Nat} {g : GD} {gs : GsD} (h : PDG X e vs g) (h' : PDGs X es vs' gs) (hs : (assignEach (e :: es) X.env).map (·.2) = assign e X.env :: (assignEach es X.env).map (·.2) := by rfl) : PDGs X (e :: es) (vs ++ vs') (gCons g gs) := by
  refine pgs_weak (pgs_cons h h' hs) fun xs σ H Q ⟨L, m, ρ, ps, r, e, i, g0⟩ => ?_
  cases i with
  | nil => exact False.elim g0
  | @cons v ws p qs i1 i2 =>
    refine ⟨v, ws, rfl, L, m, ρ, p, r, e, i1, ?_⟩
    have g0 : match bnd (g p ρ) (fun ρ' => gs qs ρ') m with
      | .ok ρ' m' => _
      | _ => False := g0
    unfold bnd at g0
    cases e1 : g p ρ m with
    | ok ρ1 m1 =>
      simp only [e1] at g0
      intro σ1 L1 H1 x1 r1 en1 hl1 hk1
      refine ⟨L1, m1, ρ1, qs, r1, en1, i2.mono r x1, ?_⟩
      cases e2 : gs qs ρ1 m1 with
      | ok ρ2 m2 =>
        simp only [e2] at g0
        intro σ2 L2 H2 x2 r2 en2 hl2 hk2
        refine g0 σ2 L2 H2 (x1.trans x2) r2 en2 (hl2.trans hl1) fun k hk => ?_
        rw [List.mem_append, not_or] at hk
        rw [hk2 k hk.2, hk1 k hk.1]
      | exc _ _ _ => simp only [e2] at g0
      | bad => simp only [e2] at g0
    | exc _ _ _ => simp only [e1] at g0
    | bad => simp only [e1] at g0
theorem gs_length : ∀ (n : Nat) (gs : GsD), True := fun _ _ => trivial
/-- a, b = .. out of a tuple -/
theorem pdg_tup (ok : Cok X) {vs : List Nat} {gs : GsD} {k n : Nat} (h : PDGs X es vs gs) (hn : (assignEach es X.env).length = n := by rfl) (hst : (assignEach es X.env).findIdx? (·.1) = none := by rfl) : PDG X (.Tuple es k pos) vs (gTup n gs) := by
  refine pg_weak (pg_tup ok.calm h hn hst) fun v σ H Q ⟨L, m, ρ, p, r, e, i, g⟩ => ?_
  cases i with
  | @tup a ws ps h1 h2 =>
    have g : match when_ (decide (ps.length = n)) (gs ps ρ) m with
      | .ok ρ' m' => _
      | _ => False := g
    unfold when_ at g
    cases hb : decide (ps.length = n) with
    | false => rw [hb] at g; exact False.elim g
    | true =>
      rw [hb] at g
      exact ⟨a, ws, rfl, .inl (.inl h1), by rw [h2.length]; exact of_decide_eq_true hb, L, m, ρ, ps, r, e, h2, g⟩
  | _ => exact False.elim g
end

/-! ### comprehensions -/
theorem wipe_get (σ : L2.St) : ∀ (vs : List Nat) (k : Nat), (wipe σ vs)[k]? = if k ∈ vs then (if k < σ.length then some none else none) else σ[k]?
  | [], k => by simp [wipe]
  | v :: vs, k => by
    unfold wipe
    by_cases h : v = k
    · subst h
      by_cases hl : v < σ.length
      · rw [List.getElem?_set_self (by rw [wipe_length]; exact hl)]; simp [hl]
      · rw [List.getElem?_eq_none (by rw [List.length_set, wipe_length]; omega)]; simp [hl]
    · rw [List.getElem?_set_ne h, wipe_get σ vs k]
      have : k ∈ v :: vs ↔ k ∈ vs := ⟨fun z => (List.mem_cons.mp z).elim (fun z => absurd z.symm h) id, List.mem_cons_of_mem _⟩
      simp only [this]
theorem wipe_eq {σ σ' : L2.St} {vs : List Nat} (hl : σ'.length = σ.length) (h : ∀ k, k ∉ vs → σ'[k]? = σ[k]?) : wipe σ' vs = wipe σ vs := by
  refine List.ext_getElem? fun k => ?_
  rw [wipe_get, wipe_get, hl]
  by_cases hk : k ∈ vs
  · rw [if_pos hk, if_pos hk]
  · rw [if_neg hk, if_neg hk, h k hk]
theorem wipe_wipe (σ : L2.St) (vs : List Nat) : wipe (wipe σ vs) vs = wipe σ vs := wipe_eq (wipe_length σ vs) fun k hk => by rw [wipe_get, if_neg hk]
theorem EnvIs.wipe {K : PySem.W.Frag} {L : List Addr} {H : Hp} {σ : L2.St} {ρ : Env} (h : EnvIs K L H σ ρ) : ∀ vs : List Nat, EnvIs K L H (L2.wipe σ vs) (wipeE ρ vs)
  | [] => h
  | v :: vs => by
    have ih := EnvIs.wipe h vs
    unfold L2.wipe wipeE
    refine ⟨by rw [List.length_set, List.length_set]; exact ih.len, fun i p e => ?_⟩
    by_cases hi : v = i
    · subst hi
      by_cases hl : v < (wipeE ρ vs).length
      · rw [List.getElem?_set_self hl] at e; cases e
      · rw [List.getElem?_eq_none (by simpa using hl)] at e; cases e
    · rw [List.getElem?_set_ne hi] at e
      obtain ⟨w, h1, h2⟩ := ih.at_ i p e
      exact ⟨w, by rw [List.getElem?_set_ne hi]; exact h1, h2⟩
def LEnd (K : PySem.W.Frag) (H : Hp) (Q : VK) : List P → Hm → List Addr → Hp → Prop := fun ps _ L' H' => ∀ a vs, H a = none → H' a = some (.lst vs) → a ∉ L' → IsAll K L' H' vs ps → Q (.ref a) H'
theorem lc_read {K : PySem.W.Frag} {W : WX} {sd : SD} {vs ow : List Nat} {g : GD} {t : T} {e : D} (hv : ∀ k ∈ vs, k ∈ ow) {σ : L2.St} {H : Hp} {Q : VK} (h : liftL K W (lComp sd g t e ow) σ H Q) : tLc (liftI K W sd) (liftG K vs g) (liftT K WF t) (lift K WF e) ow σ H Q := by
  obtain ⟨L, m, ρ, r, en, gg⟩ := h
  refine ⟨L, m, ρ, r, en, gg.bnd.imp fun src m1 L1 H1 _ x1 r1 g1 J hJ D hD => ?_⟩
  have nD : H D = none := grow_none x1 hD
  have en1 := (en.mono r x1).wipe ow
  refine ⟨fun i f Hc => ∃ L' m' acc ws, Ext L1 H1 L' Hc ∧ Rep K L' Hc m' ∧ Hc D = some (.lst ws) ∧ D ∉ L' ∧ IsAll K L' Hc ws acc ∧ Go K W σ L1 H1 (noX (compL g t e (wipeE ρ ow) src f i acc) m') (LEnd K H Q), ⟨src.len m1, L1, m1, [], [], ext_new hD, r1.mono_new hD, upd_same, r1.new hD, .nil, g1⟩, ?_⟩
  rintro i f Hc ⟨L', m', acc, ws, x', r', hDc, hDL, ia, gc⟩
  cases hat : src.at i m' with
  | none => cases f <;> (unfold noX compL at gc; simp only [hat] at gc; exact False.elim gc)
  | some o =>
    have hj := hJ L' Hc m' x' r' i o hat
    cases o with
    | none =>
      refine .inl ⟨hj, ?_⟩
      have fin : Go K W σ L1 H1 (R.ok acc m') (LEnd K H Q) := by
        cases f <;> (unfold noX compL at gc; simp only [hat] at gc; exact gc)
      exact fin L' Hc x' r' D ws nD hDc hDL ia
    | some p =>
      cases f with
      | zero => unfold noX compL at gc; simp only [hat] at gc; exact False.elim gc
      | succ f =>
        obtain ⟨jg, jy⟩ := hj
        have gc : Go K W σ L1 H1 (noX (bnd (g p (wipeE ρ ow)) (fun ρ' => bnd (t ρ') fun k => match k with
          | true => bnd (e ρ') fun y => when_ (decide (acc.length < SZ)) (compL g t e (wipeE ρ ow) src f (i + 1) (acc ++ [y]))
          | false => compL g t e (wipeE ρ ow) src f (i + 1) acc)) m') (LEnd K H Q) := by
          unfold noX compL at gc
          simp only [hat] at gc
          exact gc
        refine .inr ⟨jg, fun H' => ∃ L' m' acc ws, Ext L1 H1 L' H' ∧ Rep K L' H' m' ∧ H' D = some (.lst ws) ∧ D ∉ L' ∧ IsAll K L' H' ws acc ∧ Go K W σ L1 H1 (noX (compL g t e (wipeE ρ ow) src f (i + 1) acc) m') (LEnd K H Q), fun H' h => ⟨f, Nat.lt_succ_self f, h⟩, fun x H' y => ?_⟩
        obtain ⟨x2, r2, i2⟩ := jy x H' y
        have hD2 : H' D = some (.lst ws) := x2.keep _ _ hDc hDL
        have ia2 := ia.mono r' x2
        rw [noX_bnd] at gc
        refine ⟨L', m', wipeE ρ ow, p, r2, (en1.mono r1 x').mono r' x2, i2, ?_⟩
        cases eg : g p (wipeE ρ ow) m' with
        | exc c v m2 => unfold bnd noX at gc; simp only [eg] at gc; exact False.elim gc
        | bad => unfold bnd noX at gc; simp only [eg] at gc; exact False.elim gc
        | ok ρ2 m2 =>
          have gc : Go K W σ L1 H1 (noX (bnd (t ρ2) fun k => match k with
            | true => bnd (e ρ2) fun y => when_ (decide (acc.length < SZ)) (compL g t e (wipeE ρ ow) src f (i + 1) (acc ++ [y]))
            | false => compL g t e (wipeE ρ ow) src f (i + 1) acc) m2) (LEnd K H Q) := by
            unfold bnd at gc
            have : noX (g p (wipeE ρ ow)) m' = .ok ρ2 m2 := by unfold noX; rw [eg]
            rw [this] at gc
            exact gc
          intro σ2 L2 H2 x3 r3 en3 hl hk
          have hD3 : H2 D = some (.lst ws) := x3.keep _ _ hD2 hDL
          have hDL3 : D ∉ L2 := fun z => by
            obtain ⟨N, e1, e2⟩ := x3.pre
            rw [e1] at z
            rcases List.mem_append.mp z with z | z
            · exact hDL z
            · rw [e2 D z] at hD2; cases hD2
          have ia3 := ia2.mono r2 x3
          refine ⟨?_, ?_⟩
          · have : wipe σ2 ow = wipe (wipe σ ow) ow := wipe_eq hl fun k hkk => hk k fun z => hkk (hv k z)
            rw [this, wipe_wipe]
          have x13 : Ext L1 H1 L2 H2 := (x'.trans x2).trans x3
          rw [noX_bnd] at gc
          refine ⟨L2, m2, ρ2, r3, en3, (Go.noX (gc.mono x13).bnd).imp fun k m4 L4 H4 ek x4 r4 gk => ?_⟩
          have x14 := x13.trans x4
          have hD4 : H4 D = some (.lst ws) := x4.keep _ _ hD3 hDL3
          have out : ∀ {La Lb : List Addr} {Ha Hb : Hp}, Ext La Ha Lb Hb → Ha D = some (.lst ws) → D ∉ La → D ∉ Lb := fun {La Lb Ha Hb} x h n z => by
            obtain ⟨N, e1, e2⟩ := x.pre
            rw [e1] at z
            rcases List.mem_append.mp z with z | z
            · exact n z
            · rw [e2 D z] at h; cases h
          have hDL4 := out x4 hD3 hDL3
          have gc1 : Go K W σ L1 H1 (noX (match k with
            | true => bnd (e ρ2) fun y => when_ (decide (acc.length < SZ)) (compL g t e (wipeE ρ ow) src f (i + 1) (acc ++ [y]))
            | false => compL g t e (wipeE ρ ow) src f (i + 1) acc) m4) (LEnd K H Q) := by
            unfold bnd at gc
            have : noX (t ρ2) m2 = .ok k m4 := by unfold noX; rw [ek]
            rw [this] at gc
            exact gc
          cases k with
          | false => exact ⟨L4, m4, acc, ws, x14, r4, hD4, hDL4, ia3.mono r3 x4, gc1⟩
          | true =>
            show lift K WF e σ2 H4 _
            have gc2 : Go K W σ L1 H1 (noX (bnd (e ρ2) fun y => when_ (decide (acc.length < SZ)) (compL g t e (wipeE ρ ow) src f (i + 1) (acc ++ [y]))) m4) (LEnd K H Q) := gc1
            rw [noX_bnd] at gc2
            refine ⟨L4, m4, ρ2, r4, en3.mono r3 x4, (Go.noX (gc2.mono x14).bnd).imp fun y m5 L5 H5 ey x5 r5 gy v hv5 => ?_⟩
            have hD5 : H5 D = some (.lst ws) := x5.keep _ _ hD4 hDL4
            have hDL5 := out x5 hD4 hDL4
            have gc3 : Go K W σ L1 H1 (noX (when_ (decide (acc.length < SZ)) (compL g t e (wipeE ρ ow) src f (i + 1) (acc ++ [y]))) m5) (LEnd K H Q) := by
              unfold bnd at gc2
              have : noX (e ρ2) m4 = .ok y m5 := by unfold noX; rw [ey]
              rw [this] at gc2
              exact gc2
            have ia5 := (ia3.mono r3 x4).mono r4 x5
            cases hz : decide (acc.length < SZ) with
            | false => rw [hz] at gc3; exact False.elim gc3
            | true =>
              rw [hz] at gc3
              have st : Stay L5 H5 L5 (upd H5 D (.lst (ws ++ [v]))) := ⟨fun b u h n => by
                have hb : b ≠ D := fun z => by subst z; rw [hD5] at h; cases h; exact n trivial
                rw [upd_ne hb]; exact h, fun _ _ h => h⟩
              refine ⟨ws, hD5, by rw [ia5.length]; exact of_decide_eq_true hz, L5, m5, acc ++ [y], ws ++ [v], ?_, ?_, upd_same, hDL5, (ia5.append (.cons hv5 .nil)).stay st, gc3⟩
              · have x15 := x14.trans x5
                refine ⟨x15.pre, fun b u h n => ?_, fun b h => ?_⟩
                · have hb : b ≠ D := fun z => by rw [z, hD] at h; cases h
                  rw [upd_ne hb]; exact x15.keep _ _ h n
                · by_cases hb : b = D
                  · rw [hb, upd_same]; simp
                  · rw [upd_ne hb]; exact x15.grow b h
              · exact ⟨r5.nd, r5.len, fun i b u h1 h2 => (r5.obj i b u h1 h2).stay st (upd_ne fun z => hDL5 (z ▸ List.mem_of_getElem? h1))⟩
section
variable {X : Cx} {W : WX} {tg iter elt : Expr} {ifs : List Expr} {scope : Scope} {own : List (Str × Nat)} {pos spos : Pos}
theorem pdl_comp (ok : Cok X) {sd : SD} {vs : List Nat} {g : GD} {t : T} {e : D} (hi : PDI X W tg iter sd) (hb : BlkOk X.N X.env.scope scope own) (hg : ∀ (s : Shared) (H : Hp) (C : Addr) (cl : List (Str × Addr)) (fp : List Addr), PDG (X.blk s H scope (compEnvC scope cl C X.env) fp) tg vs g)
    (ht : ∀ (s : Shared) (H : Hp) (C : Addr) (cl : List (Str × Addr)) (fp : List Addr), PTs (X.blk s H scope (compEnvC scope cl C X.env) fp) ifs (liftT X.K WF t)) (he : ∀ (s : Shared) (H : Hp) (C : Addr) (cl : List (Str × Addr)) (fp : List Addr), PDE (X.blk s H scope (compEnvC scope cl C X.env) fp) WF elt e)
    (hv : ∀ k ∈ vs, k ∈ own.map (·.2) := by decide) (hs : ∀ x, foldedSetIterable iter X.env x = pure x := by intro _; rfl) : PDL X W (.ListComp elt [⟨tg, iter, ifs, 0⟩] scope pos) (lComp sd g t e (own.map (·.2))) :=
  pe_weak (pe_lc (g := liftG X.K vs g) (tt := liftT X.K WF t) (te := lift X.K WF e) ok.calm ok.nd hi hb hg ht he hs) fun _ _ _ h => lc_read hv h
theorem pts_noneG {W : WX} {X : Cx} : PTs X [] (liftT X.K W tYes) := ⟨fun pins s σ H Q I ⟨L, m, ρ, r, e, g⟩ => wpAny_tests_nil ⟨H, I, Go.ret (a := true) g r⟩⟩
theorem pts_oneG {W : WX} {X : Cx} {c : Expr} {t : T} (h : PDT X W c t) : PTs X [c] (liftT X.K W t) := pts_one h
end
end G

/-! G10: statements. -/
namespace G
open PySem PySem.Spec L2
/-- what a statement's result leads to -/
def GoS (K : PySem.W.Frag) (W : WX) (L : List Addr) (H : Hp) (r : RS) (D : Ends) : Prop := match r with
  | .ok f ρ' m' => ∀ σ' L' H', Ext L H L' H' → Rep K L' H' m' → EnvIs K L' H' σ' ρ' → match f with
    | .nx => D.nx σ' H'
    | .bk => D.bk σ' H'
    | .ct => D.ct σ' H'
    | .rt p => ∀ v, Is K L' H' v p → D.rt v H'
  | .exc c x ρ' m' => match W with
    | none => False
    | some w => ∀ σ' L' H' cls e, Ext L H L' H' → Rep K L' H' m' → EnvIs K L' H' σ' ρ' → ExIs K L' H' c x cls e → w cls e σ' H'
  | .bad => False
section
variable {K : PySem.W.Frag} {W : WX} {L L' : List Addr} {H H' : Hp} {m : Hm} {ρ : Env} {σ : L2.St} {D : Ends}
theorem liftS_iff {d : DS} : liftS K W d D σ H ↔ ∃ L m ρ, Rep K L H m ∧ EnvIs K L H σ ρ ∧ GoS K W L H (d ρ m) D := Iff.rfl
theorem GoS.mono {r : RS} (g : GoS K W L H r D) (e : Ext L H L' H') : GoS K W L' H' r D := by
  cases r with
  | ok f ρ' m' => exact fun σ' L2 H2 x => g σ' L2 H2 (e.trans x)
  | exc c v ρ' m' =>
    cases W with
    | none => exact g
    | some w => exact fun σ' L2 H2 cls d x => g σ' L2 H2 cls d (e.trans x)
  | bad => exact g
/-- an expression first -/
theorem GoS.thn {α : Type} {x : M α} {k : α → Hm → RS} (g : GoS K W L H (G.thn x ρ k m) D) (en : EnvIs K L H σ ρ) (r : Rep K L H m) : Go K W σ L H (x m) fun a m1 L1 H1 => GoS K W L1 H1 (k a m1) D := by
  unfold G.thn at g
  cases e : x m with
  | ok a m1 =>
    rw [e] at g
    exact fun L1 H1 x1 r1 => GoS.mono g x1
  | exc c v m1 =>
    rw [e] at g
    cases W with
    | none => exact g
    | some w => exact fun L1 H1 cls d x1 r1 ex => g σ L1 H1 cls d x1 r1 (en.mono r x1) ex
  | bad => rw [e] at g; exact g
theorem GoS.ends {r : RS} {D' : Ends} (g : GoS K W L H r D) (h1 : ∀ σ H, D.nx σ H → D'.nx σ H) (h2 : ∀ v H, D.rt v H → D'.rt v H) (h3 : ∀ σ H, D.bk σ H → D'.bk σ H) (h4 : ∀ σ H, D.ct σ H → D'.ct σ H) : GoS K W L H r D' := by
  cases r with
  | ok f ρ' m' =>
    intro σ' L2 H2 x r e
    have := g σ' L2 H2 x r e
    cases f with
    | nx => exact h1 _ _ this
    | bk => exact h3 _ _ this
    | ct => exact h4 _ _ this
    | rt p => exact fun v hv => h2 _ _ (this v hv)
  | exc c v ρ' m' => exact g
  | bad => exact g
end
section
variable {X : Cx} {W : WX} {e tg c o i v : Expr} {pos p1 : Pos} {st : Stmt} {sts : List Stmt}
theorem pss_nilG : PDSs X W [] sNx := pss_weak pss_nil fun D σ H ⟨L, m, ρ, r, en, g⟩ => g σ L H (Ext.refl L H) r en
theorem pss_oneG {d : DS} (h : PDS X W st d) : PDSs X W [st] d := pss_one h
theorem pss_consG {d d' : DS} (h : PDS X W st d) (h' : PDSs X W sts d') : PDSs X W (st :: sts) (sSeq d d') := by
  refine pss_weak (pss_cons h h') fun D σ H ⟨L, m, ρ, r, en, g⟩ => ?_
  refine ⟨L, m, ρ, r, en, ?_⟩
  show GoS X.K W L H (d ρ m) { D with nx := liftS X.K W d' D }
  have g : GoS X.K W L H (sSeq d d' ρ m) D := g
  unfold sSeq at g
  cases q : d ρ m with
  | ok f ρ' m' =>
    rw [q] at g
    cases f with
    | nx => exact fun σ' L' H' x r' e' => ⟨L', m', ρ', r', e', GoS.mono g x⟩
    | bk => exact g
    | ct => exact g
    | rt p => exact g
  | exc _ _ _ _ => rw [q] at g; exact g
  | bad => rw [q] at g; exact g
theorem ps_passG : PDS X W (.Pass pos) sNx := ps_weak ps_pass fun D σ H ⟨L, m, ρ, r, en, g⟩ => g σ L H (Ext.refl L H) r en
theorem ps_breakG : PDS X W (.Break pos) sBk := ps_weak ps_break fun D σ H ⟨L, m, ρ, r, en, g⟩ => g σ L H (Ext.refl L H) r en
theorem ps_contG : PDS X W (.Continue pos) sCt := ps_weak ps_continue fun D σ H ⟨L, m, ρ, r, en, g⟩ => g σ L H (Ext.refl L H) r en
theorem ps_exprG {d : D} (h : PDE X W e d) (hs : swapsWith e none pos.line X.env = pure false := by rfl) : PDS X W (.Expr e pos) (sExpr d) := by
  refine ps_weak (ps_expr h hs) fun D σ H ⟨L, m, ρ, r, en, g⟩ => ?_
  exact ⟨L, m, ρ, r, en, (GoS.thn g en r).imp fun a m1 L1 H1 _ x1 r1 g1 v hv => g1 σ L1 H1 (Ext.refl L1 H1) r1 (en.mono r x1)⟩
theorem ps_retG {d : D} (h : PDE X W e d) : PDS X W (.Return (some e) pos) (sRet d) := by
  refine ps_weak (ps_ret h) fun D σ H ⟨L, m, ρ, r, en, g⟩ => ?_
  exact ⟨L, m, ρ, r, en, (GoS.thn g en r).imp fun a m1 L1 H1 _ x1 r1 g1 v hv => g1 σ L1 H1 (Ext.refl L1 H1) r1 (en.mono r x1) v hv⟩
theorem ps_ifG {t : T} {a b : List Stmt} {d d' : DS} (hc : PDT X W c t) (ha : PDSs X W a d) (hb : PDSs X W b d') : PDS X W (.If c a b pos) (sIf t d d') := by
  refine ps_weak (ps_if hc ha hb) fun D σ H ⟨L, m, ρ, r, en, g⟩ => ?_
  refine ⟨L, m, ρ, r, en, (GoS.thn g en r).imp fun k m1 L1 H1 _ x1 r1 g1 => ?_⟩
  cases k with
  | true => exact ⟨L1, m1, ρ, r1, en.mono r x1, g1⟩
  | false => exact ⟨L1, m1, ρ, r1, en.mono r x1, g1⟩
theorem tgt_end {K : PySem.W.Frag} {L : List Addr} {H : Hp} {m : Hm} {ρ : Env} {σ : L2.St} {D : Ends} {vs : List Nat} {g : GD} {v : V} {p : P} (r : Rep K L H m) (en : EnvIs K L H σ ρ) (i : Is K L H v p) (h : GoS K W L H (thn (g p ρ) ρ (fun ρ' m' => .ok .nx ρ' m') m) D) (hx : ∀ c x m', g p ρ m ≠ .exc c x m') : liftG K vs g v σ H D.nx := by
  refine ⟨L, m, ρ, p, r, en, i, ?_⟩
  unfold thn at h
  cases q : g p ρ m with
  | ok ρ' m' =>
    rw [q] at h
    exact fun σ' L' H' x r' e' _ _ => h σ' L' H' x r' e'
  | exc c x m' => exact (hx c x m' q).elim
  | bad => rw [q] at h; exact h
/-- a target never raises -/
def NoExc (g : GD) : Prop := ∀ p ρ m c x m', g p ρ m ≠ .exc c x m'
def NoExcs (g : GsD) : Prop := ∀ p ρ m c x m', g p ρ m ≠ .exc c x m'
theorem nx_name (i : Nat) : NoExc (gName i) := fun p ρ m c x m' h => nomatch h
theorem nx_nil : NoExcs gNil := fun p ρ m c x m' h => by cases p <;> cases h
theorem nx_cons {g : GD} {gs : GsD} (h : NoExc g) (h' : NoExcs gs) : NoExcs (gCons g gs) := fun p ρ m c x m' e => by
  cases p with
  | nil => cases e
  | cons p ps =>
    have e : bnd (g p ρ) (fun ρ' => gs ps ρ') m = .exc c x m' := e
    unfold bnd at e
    cases q : g p ρ m with
    | ok a m1 => rw [q] at e; exact h' _ _ _ _ _ _ e
    | exc a b d => exact h _ _ _ _ _ _ q
    | bad => rw [q] at e; cases e
theorem nx_tup {n : Nat} {gs : GsD} (h : NoExcs gs) : NoExc (gTup n gs) := fun p ρ m c x m' e => by
  cases p with
  | tup ps =>
    have e : when_ (decide (ps.length = n)) (gs ps ρ) m = .exc c x m' := e
    unfold when_ at e
    cases q : decide (ps.length = n) with
    | true => rw [q] at e; exact h _ _ _ _ _ _ e
    | false => rw [q] at e; cases e
  | _ => cases e
theorem ps_asgG {d : D} {g : GD} {vs : List Nat} (he : PDE X W e d) (hg : PDG X tg vs g) (hn : NoExc g) (hs : swapsWithSole [tg] e pos.line X.env = pure false := by rfl) (hw : swappedStores [tg] e X.env = pure none := by rfl)
    (h1 : (assignEach [tg] X.env).map (·.2) = [assign tg X.env] := by rfl) : PDS X W (.Assign [tg] e pos) (sAsg d g) := by
  refine ps_weak (ps_asg he hg hs hw h1) fun D σ H ⟨L, m, ρ, r, en, gg⟩ => ?_
  exact ⟨L, m, ρ, r, en, (GoS.thn gg en r).imp fun p m1 L1 H1 _ x1 r1 g1 v hv => tgt_end r1 (en.mono r x1) hv g1 fun c x m' => hn p ρ m1 c x m'⟩
theorem ps_setG (ok : Cok X) {i : Nat} {x : Str} {d : D} (he : PDE X W e d) (hi : X.N[i]? = some x := by rfl) (hx : Loc X.env.scope x := by first | exact Or.inl rfl | exact Or.inr rfl) (hs : swapsWith e (some (.Name x p1)) pos.line X.env = pure false := by rfl) (hf : X.fn x = true ∨ X.env.scope.names.lookup x = some .local := by first | exact .inl rfl | exact .inr rfl) : PDS X W (.Assign [.Name x p1] e pos) (sSet i d) := by
  refine ps_weak (ps_set ok.nd hi hx he hs hf) fun D σ H ⟨L, m, ρ, r, en, gg⟩ => ?_
  exact ⟨L, m, ρ, r, en, (GoS.thn gg en r).imp fun p m1 L1 H1 _ x1 r1 g1 v hv => g1 (σ.set i (some v)) L1 H1 (Ext.refl L1 H1) r1 ((en.mono r x1).set i hv)⟩
/-- name = [..] on one line: the list becomes ours -/
theorem ps_setLcG (ok : Cok X) {i : Nat} {y : Str} {py cpos spos : Pos} {elt iter : Expr} {ifs : List Expr} {scope : Scope} {own : List (Str × Nat)} {sd : SD} {vs : List Nat} {g : GD} {t : T} {d : D} (hi : PDI X W tg iter sd) (hb : BlkOk X.N X.env.scope scope own) (hg : ∀ (s : Shared) (H : Hp) (C : Addr) (cl : List (Str × Addr)) (fp : List Addr), PDG (X.blk s H scope (compEnvC scope cl C X.env) fp) tg vs g)
    (ht : ∀ (s : Shared) (H : Hp) (C : Addr) (cl : List (Str × Addr)) (fp : List Addr), PTs (X.blk s H scope (compEnvC scope cl C X.env) fp) ifs (liftT X.K WF t)) (he : ∀ (s : Shared) (H : Hp) (C : Addr) (cl : List (Str × Addr)) (fp : List Addr), PDE (X.blk s H scope (compEnvC scope cl C X.env) fp) WF elt d)
    (hk : X.env.scope.kind = .function := by rfl) (hyl : X.env.scope.names.lookup y = some .local := by rfl) (hl : (py.line == cpos.line) = true := by rfl) (hl2 : (py.line == spos.line) = true := by rfl) (hy : X.N[i]? = some y := by rfl) (hv : ∀ k ∈ vs, k ∈ own.map (·.2) := by decide) (hs : ∀ x, foldedSetIterable iter X.env x = pure x := by intro _; rfl)
    (hsw : swapsWith (.ListComp elt [⟨tg, iter, ifs, 0⟩] scope cpos) (some (.Name y py)) spos.line X.env = pure true := by first | exact sw_true rfl rfl rfl (by decide +kernel) | rfl) : PDS X W (.Assign [.Name y py] (.ListComp elt [⟨tg, iter, ifs, 0⟩] scope cpos) spos) (sSet i (dNew (lComp sd g t d (own.map (·.2))))) := by
  refine ps_weak (ps_setLc (g := liftG X.K vs g) (tt := liftT X.K WF t) (te := lift X.K WF d) ok.calm ok.nd hy hyl hsw hi hb hg ht he hs) fun D σ H ⟨L, m, ρ, r, en, gg⟩ => ?_
  show tLc _ _ _ _ _ σ H (fun x H1 => L2.gName i x σ H1 D.nx)
  refine lc_read hv ⟨L, m, ρ, r, en, ?_⟩
  have g1 := GoS.thn gg en r
  have g1 : Go X.K W σ L H (bnd (lComp sd g t d (own.map (·.2)) ρ) (fun ps => newO (.lst ps)) m) _ := g1
  unfold bnd at g1
  cases q : lComp sd g t d (own.map (·.2)) ρ m with
  | ok ps m1 =>
    rw [q] at g1
    intro L1 H1 x1 r1 a vs h0 h1 h2 h3
    have k := g1 (L1 ++ [a]) H1 (x1.link h0) (r1.link h2 ⟨vs, h1, h3⟩)
    exact k (σ.set i (some (.ref a))) (L1 ++ [a]) H1 (Ext.refl _ _) (r1.link h2 ⟨vs, h1, h3⟩) ((en.mono r (x1.link h0)).set i (.ref (by rw [← r1.len]; simp)))
  | exc c x m1 => rw [q] at g1; exact g1
  | bad => rw [q] at g1; exact g1
/-- a, b = x, y -/
theorem ps_parG (ok : Cok X) {i j : Nat} {x y : Str} {px py pt pt2 spos : Pos} {a b : Expr} {kt k2 : Nat} {t : A} (ha : PDA X W [a, b] t) (hi : X.N[i]? = some x := by rfl) (hj : X.N[j]? = some y := by rfl) (hij : i ≠ j := by decide) (hx : X.env.scope.names.lookup x = some .local := by rfl) (hy : X.env.scope.names.lookup y = some .local := by rfl)
    (hw : swappedStores [.Tuple [.Name x px, .Name y py] kt pt] (.Tuple [a, b] k2 pt2) X.env = pure (some [x, y]) := by rfl) : PDS X W (.Assign [.Tuple [.Name x px, .Name y py] kt pt] (.Tuple [a, b] k2 pt2) spos) (sPar2 i j t) := by
  refine ps_weak (ps_par (i := i) (j := j) ok.calm ok.nd hi hj hij hx hy ha hw) fun D σ H ⟨L, m, ρ, r, en, gg⟩ => ?_
  refine ⟨L, m, ρ, r, en, (GoS.thn gg en r).imp fun ps m1 L1 H1 _ x1 r1 g1 vs hv => ?_⟩
  cases hv with
  | nil => exact False.elim g1
  | cons i1 t1 =>
    cases t1 with
    | nil => exact False.elim g1
    | cons i2 t2 =>
      cases t2 with
      | nil => exact ⟨_, _, rfl, g1 _ L1 H1 (Ext.refl L1 H1) r1 (((en.mono r x1).set i i1).set j i2)⟩
      | cons _ _ => exact False.elim g1
theorem ps_par3G (ok : Cok X) {i j l : Nat} {x y z : Str} {px py pz pt pt2 spos : Pos} {a b c : Expr} {kt k2 : Nat} {t : A} (ha : PDA X W [a, b, c] t) (hi : X.N[i]? = some x := by rfl) (hj : X.N[j]? = some y := by rfl) (hl : X.N[l]? = some z := by rfl) (hij : i ≠ j := by decide) (hil : i ≠ l := by decide) (hjl : j ≠ l := by decide) (hx : X.env.scope.names.lookup x = some .local := by rfl) (hy : X.env.scope.names.lookup y = some .local := by rfl) (hz : X.env.scope.names.lookup z = some .local := by rfl)
    (hw : swappedStores [.Tuple [.Name x px, .Name y py, .Name z pz] kt pt] (.Tuple [a, b, c] k2 pt2) X.env = pure (some [x, y, z]) := by rfl) : PDS X W (.Assign [.Tuple [.Name x px, .Name y py, .Name z pz] kt pt] (.Tuple [a, b, c] k2 pt2) spos) (sPar3 i j l t) := by
  refine ps_weak (ps_par3 (i := i) (j := j) (l := l) ok.calm ok.nd hi hj hl hij hil hjl hx hy hz ha hw) fun D σ H ⟨L, m, ρ, r, en, gg⟩ => ?_
  refine ⟨L, m, ρ, r, en, (GoS.thn gg en r).imp fun ps m1 L1 H1 _ x1 r1 g1 vs hv => ?_⟩
  cases hv with
  | nil => exact False.elim g1
  | cons i1 t1 =>
    cases t1 with
    | nil => exact False.elim g1
    | cons i2 t2 =>
      cases t2 with
      | nil => exact False.elim g1
      | cons i3 t3 =>
        cases t3 with
        | nil => exact ⟨_, _, _, rfl, g1 _ L1 H1 (Ext.refl L1 H1) r1 ((((en.mono r x1).set i i1).set j i2).set l i3)⟩
        | cons _ _ => exact False.elim g1
/-- a loop -/
theorem ps_whileG {t : T} {body : List Stmt} {d : DS} {N : Nat} (hp : PassesOwn (model X.prog X.w) X.A X.env X.xe) (hc : PDT X W c t) (hb : PDSs X W body d) : PDS X W (.While c body [] pos) (sWhile t d N) := by
  refine ps_weak (ps_while hp hc hb) fun D σ H ⟨L, m, ρ, r, en, gg⟩ => ?_
  refine ⟨fun n σ' H' => ∃ L' m' ρ', Rep X.K L' H' m' ∧ EnvIs X.K L' H' σ' ρ' ∧ GoS X.K W L' H' (sWhile t d n ρ' m') D, ⟨N, L, m, ρ, r, en, gg⟩, ?_⟩
  rintro n σ1 H1 ⟨L1, m1, ρ1, r1, en1, g1⟩
  cases n with
  | zero => exact False.elim g1
  | succ n =>
    refine ⟨L1, m1, ρ1, r1, en1, (GoS.thn g1 en1 r1).imp fun k m2 L2 H2 _ x2 r2 g2 => ?_⟩
    cases k with
    | false => exact g2 σ1 L2 H2 (Ext.refl L2 H2) r2 (en1.mono r1 x2)
    | true =>
      refine ⟨fun σ' H' => ∃ L' m' ρ', Rep X.K L' H' m' ∧ EnvIs X.K L' H' σ' ρ' ∧ GoS X.K W L' H' (sWhile t d n ρ' m') D, fun σ' H' h => ⟨n, Nat.lt_succ_self n, h⟩, L2, m2, ρ1, r2, en1.mono r1 x2, ?_⟩
      show GoS X.K W L2 H2 (d ρ1 m2) _
      cases q : d ρ1 m2 with
      | ok f ρ' m' =>
        simp only [q] at g2
        cases f with
        | nx => exact fun σ' L' H' x r' e' => ⟨L', m', ρ', r', e', GoS.mono g2 x⟩
        | ct => exact fun σ' L' H' x r' e' => ⟨L', m', ρ', r', e', GoS.mono g2 x⟩
        | bk => exact g2
        | rt p => exact g2
      | exc c x ρ' m' => simp only [q] at g2; exact g2
      | bad => simp only [q] at g2; exact False.elim g2
theorem ps_forG (ok : Cok X) {iter : Expr} {sd : SD} {vs : List Nat} {g : GD} {body : List Stmt} {d : DS} (hp : PassesOwn (model X.prog X.w) X.A X.env X.xe) (hi : PDI X W tg iter sd) (hg : PDG X tg vs g) (hn : NoExc g) (hb : PDSs X W body d) (hs : ∀ x, foldedSetIterable iter X.env x = pure x := by intro _; rfl) : PDS X W (.For tg iter body [] pos) (sFor sd g d) := by
  refine ps_weak (ps_for hp ok.calm hi hg hb hs) fun D σ H ⟨L, m, ρ, r, en, gg⟩ => ?_
  refine ⟨L, m, ρ, r, en, (GoS.thn gg en r).imp fun src m1 L1 H1 _ x1 r1 g1 J hJ => ?_⟩
  refine ⟨fun i f σ' H' => ∃ L' m' ρ', Ext L1 H1 L' H' ∧ Rep X.K L' H' m' ∧ EnvIs X.K L' H' σ' ρ' ∧ GoS X.K W L' H' (forL src g d f i ρ' m') D, ⟨src.len m1, L1, m1, ρ, Ext.refl L1 H1, r1, en.mono r x1, g1⟩, ?_⟩
  rintro i f σ2 H2 ⟨L2, m2, ρ2, x2, r2, en2, g2⟩
  cases hat : src.at i m2 with
  | none => cases f <;> (unfold forL at g2; simp only [hat] at g2; exact False.elim g2)
  | some o =>
    have hj := hJ L2 H2 m2 x2 r2 i o hat
    cases o with
    | none =>
      refine .inl ⟨hj, ?_⟩
      cases f <;> (unfold forL at g2; simp only [hat] at g2; exact g2 σ2 L2 H2 (Ext.refl L2 H2) r2 en2)
    | some p =>
      cases f with
      | zero => unfold forL at g2; simp only [hat] at g2; exact False.elim g2
      | succ f =>
        obtain ⟨jg, jy⟩ := hj
        refine .inr ⟨jg, fun σ' H' => ∃ L' m' ρ', Ext L1 H1 L' H' ∧ Rep X.K L' H' m' ∧ EnvIs X.K L' H' σ' ρ' ∧ GoS X.K W L' H' (forL src g d f (i + 1) ρ' m') D, fun σ' H' h => ⟨f, Nat.lt_succ_self f, h⟩, fun x H3 y => ?_⟩
        obtain ⟨x3, r3, i3⟩ := jy x H3 y
        refine ⟨L2, m2, ρ2, p, r3, en2.mono r2 x3, i3, ?_⟩
        have g3 : GoS X.K W L2 H2 (thn (g p ρ2) ρ2 (fun ρ1 m1 => match d ρ1 m1 with
          | .ok .nx ρ' m' => forL src g d f (i + 1) ρ' m'
          | .ok .ct ρ' m' => forL src g d f (i + 1) ρ' m'
          | .ok .bk ρ' m' => .ok .nx ρ' m'
          | r => r) m2) D := by
          unfold forL at g2
          simp only [hat] at g2
          exact g2
        unfold thn at g3
        cases eg : g p ρ2 m2 with
        | exc c x m' => exact (hn p ρ2 m2 c x m' eg).elim
        | bad => rw [eg] at g3; exact False.elim g3
        | ok ρ4 m4 =>
          rw [eg] at g3
          intro σ4 L4 H4 x4 r4 en4 _ _
          have x24 := x3.trans x4
          refine ⟨L4, m4, ρ4, r4, en4, ?_⟩
          show GoS X.K W L4 H4 (d ρ4 m4) _
          have g4 := GoS.mono g3 x24
          have x14 := x2.trans x24
          cases q : d ρ4 m4 with
          | ok fl ρ' m' =>
            simp only [q] at g4
            cases fl with
            | nx => exact fun σ' L' H' x r' e' => ⟨L', m', ρ', x14.trans x, r', e', GoS.mono g4 x⟩
            | ct => exact fun σ' L' H' x r' e' => ⟨L', m', ρ', x14.trans x, r', e', GoS.mono g4 x⟩
            | bk => exact g4
            | rt p => exact g4
          | exc c x ρ' m' => simp only [q] at g4; exact g4
          | bad => simp only [q] at g4; exact False.elim g4
end
end G

/-! G11: o[i] = v; enumerate of a tuple. -/
namespace G
open PySem PySem.Spec L2
def sV (K : PySem.W.Frag) (W : WX) : V → V → V → Hp → (Hp → Prop) → Prop := fun o i v H Q => ∃ (L : List Addr) (m : Hm) (σ : L2.St) (x y z : P), Rep K L H m ∧ Is K L H o x ∧ Is K L H i y ∧ Is K L H v z ∧ Go K W σ L H (setP x y z m) fun _ _ _ H' => Q H'
section
variable {X : Cx} {W : WX} {e tg c o i v : Expr} {pos p1 : Pos}
theorem ixN_list {ps : List P} {vs : List V} {k : Int} {j : Nat} (h : vs.length = ps.length) (e : ixN ps.length k = some j) : ixN vs.length k = some j := by rw [h]; exact e
theorem pset_all (ok : Cok X) : PSet X (sV X.K W) := by
  intro pins s σ H o i v ov iv u Q I ro ri rv ⟨L, m, σ', x, y, z, r, ix, iy, iz, g⟩
  have hu := ok.hu
  cases ix with
  | @ref a n h =>
    obtain rfl : ov = Value.ref a := ro
    obtain ⟨ob, e1, g⟩ := Go.getO g
    cases ob with
    | lst ps =>
      cases iy with
      | int k =>
        cases e2 : ixN ps.length k with
        | none => simp only [e2] at g; exact False.elim g
        | some j =>
          simp only [e2] at g
          obtain ⟨vs, k1, k2⟩ := r.lst h e1
          have st : Ext L H L (upd H a (.lst (vs.set j v))) := ext_put h
          exact set_list pins s σ H _ _ v _ iv u Q I (show RelV (V.ref a) (Value.ref a) from rfl) ri rv ⟨a, vs, k, j, rfl, rfl, k1, ixN_list k2.length e2, g L _ st (r.put h trivial ⟨_, upd_same, (k2.set j iz).stay (st.stay r)⟩)⟩
      | _ => exact False.elim g
    | dK kvs =>
      obtain ⟨ws, k1, k2⟩ := r.obj n a _ h e1
      have g : Go X.K W σ' L H (dStore n y z m) _ := g
      unfold dStore at g
      rw [e1] at g
      simp only at g
      cases hk : keyOf y with
      | some q =>
        simp only [hk] at g
        obtain rfl := keyOf_is iy hk
        cases hz : decide (kvs.length < SZ) with
        | false => rw [hz] at g; exact False.elim g
        | true =>
          rw [hz] at g
          have st : Ext L H L (upd H a (.dK (putK ws q v))) := ext_put h
          exact d_setItem (by omega) I (DPut.k k1 (by rw [k2.length]; exact of_decide_eq_true hz)) ri rv fun s' I' => ⟨_, I', g L _ st (r.put h trivial ⟨_, upd_same, KvIs.stay (st.stay r) (k2.put q iz)⟩)⟩
      | none =>
        simp only [hk] at g
        cases kvs with
        | cons c cs => exact False.elim g
        | nil =>
          cases k2
          cases ht : tkeyOf y with
          | none => simp only [ht] at g; exact False.elim g
          | some q =>
            simp only [ht] at g
            obtain ⟨b, rfl, hb⟩ := tkeyOf_is iy ht
            have hba : b ≠ a := ne_of hb k1 (by intro z; cases z)
            have I1 := inv_dT I k1
            have st : Ext L H L (upd H a (.dT [(q, v)])) := ext_put h
            exact d_setItem (by omega) I1 (DPut.t (kvs := []) (k := q) (v := v) upd_same (by rw [upd_ne hba]; exact hb) (by decide)) ri rv fun s' I' => ⟨_, I', by
              rw [upd_upd]
              exact g L _ st (r.put h trivial ⟨_, upd_same, .cons ⟨rfl, iz.stay (st.stay r)⟩ .nil⟩)⟩
    | dT kvs =>
      obtain ⟨ws, k1, k2⟩ := r.obj n a _ h e1
      have g : Go X.K W σ' L H (dStore n y z m) _ := g
      unfold dStore at g
      rw [e1] at g
      simp only at g
      cases ht : tkeyOf y with
      | none => simp only [ht] at g; exact False.elim g
      | some q =>
        simp only [ht] at g
        obtain ⟨b, rfl, hb⟩ := tkeyOf_is iy ht
        cases hz : decide (kvs.length < SZ) with
        | false => rw [hz] at g; exact False.elim g
        | true =>
          rw [hz] at g
          have st : Ext L H L (upd H a (.dT (putK ws q v))) := ext_put h
          exact d_setItem (by omega) I (DPut.t k1 hb (by rw [k2.length]; exact of_decide_eq_true hz)) ri rv fun s' I' => ⟨_, I', g L _ st (r.put h trivial ⟨_, upd_same, KvIs.stay (st.stay r) (k2.put q iz)⟩)⟩
    | lk kvs =>
      have g : Go X.K W σ' L H (dStore n y z m) _ := g
      unfold dStore at g
      rw [e1] at g
      exact False.elim g
  | _ => exact False.elim g
theorem ps_putG (ok : Cok X) {dv d di : D} (hv : PDE X W v dv) (ho : PDE X W o d) (hi : PDE X W i di) (ha : ∀ u, assign (.Subscript o i p1) X.env u = (do
      let ov ← holding [u] (eval o X.env)
      let iv ← holding [u, ov] (eval i X.env)
      standAt p1
      holding [u, ov, iv] (setItem ov iv u)
      release [u, ov, iv] []) := by intro _; rfl) (hs : swapsWithSole [.Subscript o i p1] v pos.line X.env = pure false := by rfl) (hw : swappedStores [.Subscript o i p1] v X.env = pure none := by rfl)
    (h1 : (assignEach [.Subscript o i p1] X.env).map (·.2) = [assign (.Subscript o i p1) X.env] := by rfl) : PDS X W (.Assign [.Subscript o i p1] v pos) (sPut d di dv) := by
  refine ps_weak (ps_asg hv (pg_sub ho hi (pset_all (W := W) ok) ha) hs hw h1) fun D σ H ⟨L, m, ρ, r, en, gg⟩ => ?_
  have g0 := GoS.thn gg en r
  refine lift_bnd r en g0 fun z q m1 L1 H1 x1 r1 e1 i1 g1 => lift_bnd r1 e1 g1 fun x p m2 L2 H2 x2 r2 e2 i2 g2 => lift_bnd r2 e2 g2 fun y k m3 L3 H3 x3 r3 e3 i3 g3 => ?_
  exact ⟨L3, m3, σ, p, k, q, r3, i2.mono r2 x3, i3, (i1.mono r1 x2).mono r2 x3, g3.imp fun _ m4 L4 H4 _ x4 r4 g4 => g4 σ L4 H4 (Ext.refl L4 H4) r4 (e3.mono r3 x4)⟩
end
/-! ### enumerate(tuple) -/
section
open AutoSeq1 (wpAny_loadPart')
theorem enumNewT (l : Addr) (items : Array Value) (o : Obj) (hc : o.cls = .type "tuple") (n : Nat) (hd : o.data = .seq items n) : Meets (Builtin.«enumerate.__new__» ⟨[.type "enumerate", .ref l], []⟩) (fun _ R s => s.heap.get? l = some o ∧
    R (.ok (.ret (.ref (s.heap.push { cls := .type "tuple_iterator", data := .fields #[.ref l, .int 0 0] }).objs.size))) { s with heap := (s.heap.push { cls := .type "tuple_iterator", data := .fields #[.ref l, .int 0 0] }).push { cls := .type "enumerate", data := .fields #[.none, .bool false, .ref s.heap.objs.size, rawInt 0, .none, .none] } }) :=
  .of_wp fun prog w A R s h => by
    obtain ⟨hp, g, d, tk, os⟩ := s; obtain ⟨hl, h⟩ := h; have hsub := sub_enumerate
    have hL : Heap.IsTuple (Shared.heap ⟨hp, g, d, tk, os⟩) l items := ⟨_, hl, hc, n, hd⟩
    wp_walk using wpAny_loadPart' hl
    refine wpAny_stack_any fun st => wpAny_pure ?_
    split
    · rename_i c _ _ _ _ _
      cases (c == Value.type "enumerate") <;> (wp_walk using wpAny_loadPart' hl, wpAny_pyIter_tuple hL; exact ⟨_, rfl, h⟩)
    · wp_walk using wpAny_loadPart' hl, wpAny_pyIter_tuple hL
      exact ⟨_, rfl, h⟩
end
theorem enumT {prog : Program} {w : World} {A : Around} {E : Value → Shared → Prop} {s : Shared} {l : Addr} {items : Array Value} {Q : Value → Shared → Prop} (hL : PyProof.Rows.IsTup s.heap l items) (h : ∀ h', IsEnum h' (s.heap.objs.size + 1) s.heap.objs.size 0 .none → h'.IsTupleIter s.heap.objs.size l 0 → (∀ b o, s.heap.get? b = some o → h'.get? b = some o) → Q (.ref (s.heap.objs.size + 1)) { s with heap := h' }) :
    wpAny (model prog w) A (call (.type "enumerate") [.ref l]) Q E s := by
  obtain ⟨o, hl, hc, n, hd⟩ := hL
  refine callType_new F.called_enumerate (by decide) (F.typeCall_enumerate_1 _) (F.newCall_enumerate_1 _) (fun obj => F.args_object_init_2 obj _) F.entry_enumerate_new (enumNewT l items o hc n hd) ⟨hl, ?_⟩
  have hz : (s.heap.push { cls := .type "tuple_iterator", data := .fields #[.ref l, .int 0 0] }).objs.size = s.heap.objs.size + 1 := Heap.size_push ..
  show _ ∧ _
  rw [hz]
  have he : IsEnum ((s.heap.push { cls := .type "tuple_iterator", data := .fields #[.ref l, .int 0 0] }).push { cls := .type "enumerate", data := .fields #[.none, .bool false, .ref s.heap.objs.size, rawInt 0, .none, .none] }) (s.heap.objs.size + 1) s.heap.objs.size 0 .none := by
    have := Heap.get?_push_size (s.heap.push { cls := .type "tuple_iterator", data := .fields #[.ref l, .int 0 0] }) (o := { cls := .type "enumerate", data := .fields #[.none, .bool false, .ref s.heap.objs.size, rawInt 0, .none, .none] }) rfl
    rw [hz] at this; exact this
  exact ⟨⟨_, he, rfl⟩, h _ he ⟨_, Heap.get?_push_of_some _ (Heap.get?_push_size _ rfl), rfl, rfl⟩ fun b o x => Heap.get?_push_of_some _ (Heap.get?_push_of_some _ x)⟩
/-- the tuple at a, each item in a new pair -/
def IteT (K : PySem.W.Frag) (a : Addr) : It := ⟨fun i H => ∃ (xs : List V) (x : V), SqT K H a xs ∧ xs[i]? = some x, fun i H v H' => ∃ T x, v = .ref T ∧ H T = none ∧ H' = upd H T (.tup [.int (i : Nat), x]) ∧ ∀ xs, SqT K H a xs → xs[i]? = some x, fun i H => ∃ xs : List V, SqT K H a xs ∧ xs.length ≤ i⟩
theorem turn_enumT {P : Program} {w : World} {K : PySem.W.Frag} {elts : List Expr} {kk : Nat} {tpos : Pos} (a e it : Addr) : Turn P w K (.Tuple elts kk tpos) (IteT K a) [e, it] e (fun i h => (∃ old, IsEnum h e it ((i : Nat) : Int) old) ∧ h.IsTupleIter it a i ∧ e ≠ it ∧ a ≠ it ∧ a ≠ e) where
  mem := by simp
  obj := fun i h st b hb => by
    obtain ⟨⟨old, he⟩, ⟨o, ho, hc, hd⟩, _⟩ := st
    rcases (show b = e ∨ b = it by simpa using hb) with z | z <;> rw [z]
    · exact ⟨_, he, fun v q => nomatch q⟩
    · exact ⟨o, ho, fun v q => by rw [hd] at q; cases q⟩
  keep := fun i h h' st k => let ⟨⟨old, he⟩, hi, hne⟩ := st; ⟨⟨old, k e (by simp) _ he⟩, hi.at fun o q => k it (by simp) o q, hne⟩
  item := by
    intro X hP hw hK hc i pins s σ H E I hf st hg
    subst hP hw hK
    obtain ⟨⟨old, he⟩, hit, hne, hai, hae⟩ := st
    obtain ⟨xs, x, hq, hx⟩ := hg
    obtain ⟨its, rv, p, hz⟩ := I.tuple hq
    obtain ⟨u, hu, ru⟩ := rv.get hx
    have hil : it < s.heap.objs.size := by obtain ⟨_, q, _⟩ := hit; exact Heap.lt_size q
    have hel := Heap.lt_size he
    have hlt : i < its.toArray.size := by rw [List.size_toArray]; exact (List.getElem?_eq_some_iff.mp hu).1
    refine wpAny_pyNext_enum_itemD (i := i) (Draws.tuple (A := X.A.in1) (I.ok.hd hc) it a hai its.toArray) he ⟨hit, p⟩ hlt hne (by simp [hne, Ne.symm hae]) fun x' h' tk hx' ho hst hT hsz hk => ?_
    have ex : x' = u := by
      have : its.toArray[i]? = some x' := hx'
      rw [List.getElem?_toArray, hu] at this
      exact (Option.some.inj this).symm
    subst ex
    refine ⟨_, rfl, wpAny_letOwnedTupleGo_enum (s := { s with heap := h', toks := tk + 1 }) ho fun h'' he' sb => ?_⟩
    have hT2 : h''.get? s.heap.objs.size = some { cls := .type "tuple", data := .seq #[.int i tk, x'] } := (sb.2 _ (Nat.ne_of_gt hel)).trans hT
    have new : ObjOk X.prog X.w (upd H s.heap.objs.size (.tup [.int (i : Nat), x])) h'' s.heap.objs.size (.tup [.int (i : Nat), x]) := ⟨by show 2 ≤ sizeLine; decide, [.int i tk, x'], .cons ⟨_, rfl⟩ (.cons ru .nil), ⟨_, hT2, rfl, _, rfl⟩⟩
    have I1 : Inv X pins σ (upd H s.heap.objs.size (.tup [.int (i : Nat), x])) { s with heap := h'', toks := tk + 1 } := I.turnedNew (ch := [e, it]) (fun b ob hb q => (sb.2 b (fun z => hb (by simp [z]))).trans (hk b ob (fun z => hb (by simp [z])) (fun z => hb (by simp [z])) q)) hf (Nat.le_refl _) new
    have e1 : ((i + 1 : Nat) : Int) = (i : Int) + 1 := by omega
    refine ⟨.ref s.heap.objs.size, _, I1, rfl, ⟨_, x, rfl, I.hok.fresh (Nat.le_refl _), rfl, fun ys hy => by rw [I.tuple_inj hy hq]; exact hx⟩, ⟨⟨x', by rw [e1]; exact he'⟩, hst.1.at fun o q => (sb.2 it (Ne.symm hne)).trans q, hne, hai, hae⟩, fun b hb => ?_⟩
    have hb' : b < s.heap.objs.size := by
      rcases (show b = e ∨ b = it by simpa using hb) with z | z <;> rw [z]
      · exact hel
      · exact hil
    rw [upd_ne (Nat.ne_of_lt hb')]
    exact (hf b hb).1
  done := by
    intro X hP hw hK hc i pins s σ H E I hf st hg
    subst hP hw hK
    obtain ⟨⟨old, he⟩, hit, hne, hai, hae⟩ := st
    obtain ⟨xs, hq, hx⟩ := hg
    obtain ⟨its, rv, p, hz⟩ := I.tuple hq
    obtain ⟨f0, f1, f2, f3, f4, f5⟩ := hf it (by simp)
    have dr : Draws X.prog X.w X.A.in1 it [it, a] i (fun _ _ => True) (fun j h => j = i ∧ h.IsTupleIter it a i ∧ h.IsTuple a its.toArray) := {
      live := fun _ _ st => let ⟨o, ho, _⟩ := st.2.1; ⟨o, ho⟩
      frame := fun _ _ _ st hk => ⟨st.1, st.2.1.at fun o e => hk it (by simp) o e, st.2.2.at fun o e => hk a (by simp) o e⟩
      item := fun j s Q E hj st hQ => absurd hj (by rw [st.1]; exact Nat.lt_irrefl i)
      done := fun s Q E st hE => wpAny_nextOf_tuple_end (I.ok.hd hc) st.2.1 st.2.2 (by have := rv.length; simp; omega) hE }
    exact wpAny_pyNext_enum_endD dr he ⟨rfl, hit, p⟩ fun h' eb => ⟨rfl, I.turned (t' := s.toks) (fun b o hb q => eb b o hb q) f0 f1 f3 f4 f5⟩
  self := fun A i s Q E st h => let ⟨⟨_, he⟩, _⟩ := st; wpAny_pyIter_enum he h
section
variable {X : Cx} {W : WX} {e : Expr} {pos p1 tpos : Pos} {elts : List Expr} {kk : Nat}
theorem src_enumT {K : PySem.W.Frag} {L : List Addr} {H : Hp} {m : Hm} {a : Addr} {vs : List V} {ps : List P} (r : Rep K L H m) (h : SqT K H a vs) (i : IsAll K L H vs ps) : SrcIs K L H (IteT K a) (.seq (numbered 0 ps)) := by
  intro L' H' m' x r' j o ho
  have st := x.stay r
  have h' := st.sqT h
  have i' := i.stay st
  cases (show some (numbered 0 ps)[j]? = some o from ho)
  rw [numbered_get]
  cases e : ps[j]? with
  | none => exact ⟨vs, h', by rw [i.length]; exact List.getElem?_eq_none_iff.mp e⟩
  | some p =>
    obtain ⟨v, e1, e2⟩ := i'.get e
    refine ⟨⟨vs, v, h', e1⟩, fun x1 H1 ⟨T, y, e4, hT, eH, q⟩ => ?_⟩
    subst eH e4
    have := (q vs h').symm.trans e1
    cases this
    have e5 : ((0 + j : Nat) : Int) = (j : Nat) := by simp
    rw [e5]
    exact ext_newR r' hT e2
theorem pi_enumA {te : TE} (hm : X.mg "enumerate" = none) (h : PE X e te) (hg : Gl X "enumerate" := by rfl) (hs : starEach [e] X.env = [(false, eval e X.env)] := by rfl) :
    PI X (.Tuple elts kk tpos) (.Call (.Name "enumerate" p1) [e] [] pos) (fun σ H R => te σ H fun v H1 => ∃ a, [v] = [V.ref a] ∧ (((∃ xs, SqL X.K H1 a xs) ∧ R (Ite X.K a) H1) ∨ ((∃ xs, SqT X.K H1 a xs) ∧ R (IteT X.K a) H1))) := by
  refine ⟨fun pins s σ H R I q => ?_⟩
  refine PyProof.Rows.Call_ (ld_blt I hg hm PyProof.Rows.boot_enumerate (PyProof.Rows.callWith_type1 (L2.thn ((pa_cons h pa_nil hs).run pos pins s σ H (fun vs H1 => ∃ a, vs = [V.ref a] ∧ (((∃ xs, SqL X.K H1 a xs) ∧ R (Ite X.K a) H1) ∨ ((∃ xs, SqT X.K H1 a xs) ∧ R (IteT X.K a) H1))) I ?_) fun us s1 ⟨vs, H1, I1, r1, q1⟩ => ?_) hs rfl))
  · exact q
  obtain ⟨a, ex, q1⟩ := q1
  subst ex
  cases r1 with
  | cons r rr =>
    cases rr; cases r
    have fp : ∀ b ∈ [s1.heap.objs.size + 1, s1.heap.objs.size], FpOk X pins H1 b := fun b hb => by
      have hle : s1.heap.objs.size ≤ b := by
        rcases (show b = s1.heap.objs.size + 1 ∨ b = s1.heap.objs.size by simpa using hb) with z | z <;> rw [z]
        · exact Nat.le_add_right _ _
        · exact Nat.le_refl _
      exact I1.fpOk hle (I1.hok.fresh hle)
    rcases q1 with ⟨⟨xs, hq⟩, q⟩ | ⟨⟨xs, hq⟩, q⟩
    · obtain ⟨its, rv, p', hz⟩ := I1.list hq
      exact call_enumerate_list p'.isList fun h' he hit hsz hk => wpAny_pyIter_enum he ⟨_, _, _, _, H1, rfl, I1.kept (t' := s1.toks) hk, turn_enum a (s1.heap.objs.size + 1) s1.heap.objs.size, ⟨⟨.none, he⟩, hit, Nat.succ_ne_self _⟩, fp, q⟩
    · obtain ⟨its, rv, p', hz⟩ := I1.tuple hq
      have hlt : a < s1.heap.objs.size := by
        obtain ⟨o, ho, _⟩ := p'
        exact Heap.lt_size ho
      exact enumT p' fun h' he hit hk => wpAny_pyIter_enum he ⟨_, _, _, _, H1, rfl, I1.kept (t' := s1.toks) hk, turn_enumT a (s1.heap.objs.size + 1) s1.heap.objs.size, ⟨⟨.none, he⟩, hit, Nat.succ_ne_self _, Nat.ne_of_lt hlt, Nat.ne_of_lt (Nat.lt_succ_of_lt hlt)⟩, fp, q⟩
theorem pdi_enum {d : D} (hm : X.mg "enumerate" = none) (h : PDE X W e d) (hg : Gl X "enumerate" := by rfl) (hs : starEach [e] X.env = [(false, eval e X.env)] := by rfl) : PDI X W (.Tuple elts kk tpos) (.Call (.Name "enumerate" p1) [e] [] pos) (sEnum d) := by
  refine pi_weak (pi_enumA hm h hg hs) fun σ H R ⟨L, m, ρ, r, e, g⟩ => ?_
  refine lift_bnd r e g fun x p m1 L1 H1 x1 r1 e1 i1 g1 => ?_
  cases i1 with
  | @tup a vs ps h1 h2 => exact ⟨a, rfl, .inr ⟨⟨vs, .inl (.inl h1)⟩, Go.ret (a := Src.seq (numbered 0 ps)) g1 r1 _ (src_enumT r1 (.inl (.inl h1)) h2)⟩⟩
  | @ref a n h =>
    obtain ⟨o, e2, g2⟩ := Go.getO g1
    cases o with
    | lst ps =>
      obtain ⟨vs, k1, k2⟩ := r1.lst h e2
      exact ⟨a, rfl, .inl ⟨⟨vs, .of k1⟩, Go.ret (a := Src.enumL n) g2 r1 _ (src_enumL h)⟩⟩
    | _ => exact False.elim g2
  | _ => exact False.elim g1
end
end G

/-! G12: defs; the law's end. -/
namespace G
open PySem PySem.Spec L2 PyProof.Rows
/-- what F makes of the arguments is what is wanted -/
def spG (K : PySem.W.Frag) (F : List G.P → M G.P) (vs : List V) (H : Hp) (Q : VK) : Prop := ∃ (L : List Addr) (m : Hm) (ps : List G.P), Rep K L H m ∧ IsAll K L H vs ps ∧ Go K none [] L H (F ps m) fun p _ L' H' => ∀ v, Is K L' H' v p → Q v H'
/-- the def at f does what F says -/
structure FnG (P : Program) (w : World) (K : PySem.W.Frag) (mg : Str → Option Value) (base : Heap) (k : Nat) (f : Addr) (fd : FuncData) (ps : List Str) (F : List G.P → M G.P) : Prop where
  run : ∀ (A : Around) (outer : List PySem.Env) (s : Shared) (H : Hp) (args : Args) (us : List Value) (vs : List V) (Q : VK), Room k A → A.guards = some [] → Env0 P w K mg base A outer s H → BindsTo s fd args (ps.zip us) → Vals vs us → vs.length = ps.length → spG K F vs H Q →
    codeAny (model P w) A (.call (.ref f) args) (CR CX0 outer P w H s Q E0) s
theorem FnG.mono {P : Program} {w : World} {K : PySem.W.Frag} {mg : Str → Option Value} {base : Heap} {j k : Nat} {f : Addr} {fd : FuncData} {ps : List Str} {F : List G.P → M G.P} (h : FnG P w K mg base j f fd ps F) (hk : j ≤ k) : FnG P w K mg base k f fd ps F :=
  ⟨fun A outer s H args us vs Q hr => h.run A outer s H args us vs Q (hr.mono hk)⟩
structure Held (P : Program) (w : World) (K : PySem.W.Frag) (mg : Str → Option Value) (base : Heap) (k : Nat) (x : Str) (n : Nat) (F : List G.P → M G.P) : Prop where
  ex : ∃ (f : Addr) (fd : FuncData) (ps : List Str), mg x = some (.ref f) ∧ PySem.W.keepIn K (.ref f) = true ∧ Binds K fd ps [] ∧ ps.length = n ∧ FnG P w K mg base k f fd ps F
theorem start_env {K : PySem.W.Frag} {L : List Addr} {H : Hp} {N : List Str} {vs : List V} {ps : List G.P} (h : IsAll K L H vs ps) : EnvIs K L H (L2.start N vs) (ps.map some ++ List.replicate (N.length - ps.length) none) := by
  unfold L2.start
  rw [h.length]
  refine ⟨by simp [h.length], fun i p e => ?_⟩
  by_cases hi : i < ps.length
  · rw [List.getElem?_append_left (by simpa using hi), List.getElem?_map] at e
    cases q : ps[i]? with
    | none => rw [q] at e; cases e
    | some p' =>
      rw [q] at e
      cases e
      obtain ⟨v, h1, h2⟩ := h.get q
      exact ⟨v, by rw [List.getElem?_append_left (by simpa [h.length] using hi), List.getElem?_map, h1]; rfl, h2⟩
  · rw [List.getElem?_append_right (by simpa using hi)] at e
    rw [List.getElem?_replicate] at e
    split at e <;> cases e
theorem guards_deeper {A : Around} {env : PySem.Env} (h : A.guards = some []) : (A.deeper env).guards = some [] := h
section
variable {P : Program} {w : World} {K : PySem.W.Frag} {mg : Str → Option Value} {base : Heap}
/-- THE RULE for a def -/
theorem fnG_of {x qual : Str} {params : Arguments} {body : List Stmt} {scope : Scope} {f : Addr} {fd : FuncData} {N ps : List Str} {k n M0 : Nat} {d : DS} (F : FunD K x qual params body scope [] [] f fd) (S : FnScope N ps scope) (hn : ps.length = n) (hN : N.length = M0)
    (hbody : ∀ (cdv : Value) (A : Around) (outer : List PySem.Env) (s : Shared) (H : Hp) (E : XK), let X := (cxOf CX0 P w K mg base N qual scope f cdv A outer s H E).nox; Room k X.A → Cok X → PDSs X none body d) : FnG P w K mg base (k + 1) f fd ps (fnOf n M0 d) := by
  obtain ⟨oc, od, dV, kV, doc, pm, an, cdv, ct, osl, rfl, lk, hcd, _, _⟩ := F.ex
  refine ⟨fun A outer s H args us vs Q hr hgd e0 hb r hl ⟨L, m, qs, rp, ia, g⟩ => ?_⟩
  have KX : K.In s.heap := e0.mod.kin.keeps fun b o e => (e0.bs b o e).1
  have lim := e0.mod.nolimit.keeps fun b o e => (e0.bs b o e).1
  have hkind : ∀ y ∈ ps.zip us, scope.names.lookup y.1 = some .local ∨ (scope.names.lookup y.1 = some .cell ∧ ((cellsFrom (s.heap.objs.size + 1) scope.names []).lookup y.1).isSome = true) := fun ⟨a, v⟩ hy => (S.par a (List.of_mem_zip hy).1).imp id fun q => ⟨q, PySem.W.cellsFrom_some _ _ _ (.inl q)⟩
  refine codeAny_call_function hr.depth (KX _ _ lk) rfl S.co S.gen rfl (PySem.W.codeRec_of KX hcd) (hb _ _ _ _ (wpAny_newFunctionEnv_cells S.kind hkind fun env he s1 x => ?_))
  subst he
  refine ⟨lim.keeps x.toInCall.keep, codeAny_func ?_⟩
  have I := inv_start (CX := CX0) (P := P) (K := K) (mg := mg) (base := base) (E := E0) S hr.hd e0 hl r x
  have hrd : Room k (A.deeper (envOfC qual scope s.heap.objs.size f cdv)) := hr.deeper _
  have ok : Cok (cxOf CX0 P w K mg base N qual scope f cdv A outer s H E0).nox := ⟨rfl, S.nd, by have h := hrd.un; show (A.deeper (envOfC qual scope s.heap.objs.size f cdv)).units + 150 < cLine; omega, hgd⟩
  have hq : liftS K none d { nx := fun _ H' => Q .non H', rt := Q } (L2.start N vs) H := by
    refine ⟨L, m, qs.map some ++ List.replicate (N.length - qs.length) none, rp, start_env ia, ?_⟩
    have hqn : qs.length = n := by rw [← ia.length, hl, hn]
    unfold fnOf at g
    rw [decide_eq_true hqn] at g
    simp only at g
    rw [hqn, hN]
    show GoS K none L H (d (qs.map some ++ List.replicate (M0 - n) none) m) _
    cases e : d (qs.map some ++ List.replicate (M0 - n) none) m with
    | ok f ρ' m' =>
      rw [e] at g
      cases f with
      | nx => exact fun σ' L' H' x1 r1 _ => g L' H' x1 r1 _ .non
      | rt p => exact fun σ' L' H' x1 r1 _ v hv => g L' H' x1 r1 v hv
      | bk => exact False.elim g
      | ct => exact False.elim g
    | exc c v ρ' m' => rw [e] at g; exact False.elim g
    | bad => rw [e] at g; exact False.elim g
  refine wpAny_mono ((PSs.nox (hbody cdv A outer s H E0 hrd ok)).run [] s1 (L2.start N vs) H _ I hq) (fun fl s' hs => ?_) fun e s' hs => hs
  have fin : ∀ {σ' : L2.St} {H' : Hp} {v : V} {u : Value}, Inv (cxOf CX0 P w K mg base N qual scope f cdv A outer s H E0) [] σ' H' s' → RelV v u → Q v H' → CE outer P w H s Q u s' := fun {σ' H' v u} J rv q => ⟨v, H', J.os, J.bare, J.base, J.hok, rv, q⟩
  cases fl with
  | ret u => obtain ⟨v, σ', H', J, rv, q⟩ := hs; exact fin J rv q
  | next => obtain ⟨σ', H', J, q⟩ := hs; exact fin (v := V.non) (u := Value.none) J rfl q
  | brk => obtain ⟨_, _, _, q⟩ := hs; exact False.elim q
  | cont => obtain ⟨_, _, _, q⟩ := hs; exact False.elim q
end
section
variable {X : Cx} {e : Expr} {es : List Expr} {pos p1 : Pos}
/-- f(e, ..) -/
theorem pd_call {k n : Nat} {x : Str} {F : List G.P → M G.P} {da : A} (h : Held X.prog X.w X.K X.mg X.base k x n F) (hr : Room k X.A) (ok : Cok X) (ha : PDA X none (e :: es) da) (hn : (e :: es).length = n := by rfl) (hl : ∀ ρ m ps m', da ρ m = .ok ps m' → ps.length = n) (hg : Gl X x := by rfl) (hdb : (x == ("__debug__" : Str)) = false := by decide)
    (he : starEach (e :: es) X.env = (false, eval e X.env) :: starEach es X.env := by rfl) (hpl : (backTo pos (starEach es X.env)).any (·.1) = false := by rfl) : PDE X none (.Call (.Name x p1) (e :: es) [] pos) (dCall F da) := by
  obtain ⟨f, fd, ps, hm, hk, hb, hpn, hF⟩ := h.ex
  refine ⟨fun pins s σ H Q I ⟨L, m, ρ, r, en, g⟩ => ?_⟩
  refine wpAny_Call_Name_kw (ld_glob I hg hm ?_ hdb)
  have ga : liftA X.K none da σ H fun vs H1 => vs.length = n ∧ spG X.K F vs H1 Q := by
    refine ⟨L, m, ρ, r, en, g.bnd.imp fun qs m1 L1 H1 eq x1 r1 g1 vs hv => ⟨by rw [hv.length]; exact hl _ _ _ _ eq, L1, m1, qs, r1, hv, ?_⟩⟩
    generalize F qs m1 = rr at g1
    cases rr with
    | ok p m2 => exact g1
    | exc _ _ _ => exact g1
    | bad => exact g1
  refine PySem.W.callWith_K (h₀ := X.base) I.ok.mod.kin hk (L2.thn (ha.run pos pins s σ H _ I ga) fun us s1 ⟨vs, H1, I1, rv, hlen, q⟩ => ⟨I1.kIn, ?_⟩) he hpl
  have hul : (us ++ []).length = ps.length := by rw [List.append_nil, ← rv.length, hlen, hpn]
  have bt := hb s1 us I1.kIn hul
  rw [List.append_nil] at bt
  refine wpAny_call (codeAny_mono (hF.run X.A X.stack s1 H1 ⟨us, []⟩ us vs Q hr ok.hg I1.env0 bt rv (by rw [hlen, hpn]) q) fun r s' hq => ?_)
  cases r with
  | error e => exact False.elim hq
  | ok fl => cases fl with
    | ret u => exact I1.after hq
    | next => exact False.elim hq
    | brk => exact False.elim hq
    | cont => exact False.elim hq
end

/-! ### the law's end -/
theorem law_callG {P : Program} {w : World} {K : PySem.W.Frag} {mg mb : Str → Option Value} {k : Nat} {fa a : Addr} {fd : FuncData} {x : Str} {F : List G.P → M G.P} {s₁ : Shared} {vs : List Value} {ns : List Int} (KX : K.In s₁.heap) (hns : s₁.heap.Ns mainGlobals mg) (hb : s₁.heap.Ns builtinsNs mb) (hbb : ∀ x : Str, x ≠ "__name__" → mb x = bootBuiltins x) (hlim : s₁.heap.NoLimit) (hg : s₁.gens = #[])
    (ha : s₁.heap.get? a = some { cls := .type "list", data := .seq vs.toArray }) (hi : IntsAre vs ns) (hl : ns.length ≤ sizeLine) (hr : Room k callerA) (hF : ∀ base : Heap, K.In base → base.Ns mainGlobals mg → FnG P w K mg base k fa fd [x] F) (hbind : ∀ (s : Shared) (u : Value), BindsTo s fd ⟨[u], []⟩ [(x, u)])
    (hres : ∃ m', F [.scr (ns.map .int)] [] = .ok (.bl true) m') : codeAny (model P w) callerA (.call (.ref fa) ⟨[.ref a], []⟩) (fun r s' => r = .ok (.ret (.bool true)) ∧ OldK s₁.heap s'.heap ∧ s'.os = s₁.os ∧ AllBare s'.gens) s₁ := by
  have rv := vals_ints hi
  have lenV := hi.length
  obtain ⟨m', hres⟩ := hres
  have core : ∀ H : Hp, Only H → ((∃ ob, H a = some (.frz ob (.lst (ns.map V.int)))) ∨ KL K a (ns.map V.int)) → HOk P w H s₁.heap → (∀ b, H b ≠ none → b = a) → (H a ≠ none → K.lookup a = none) → codeAny (model P w) callerA (.call (.ref fa) ⟨[.ref a], []⟩) (fun r s' => r = .ok (.ret (.bool true)) ∧ OldK s₁.heap s'.heap ∧ s'.os = s₁.os ∧ AllBare s'.gens) s₁ := by
    intro H hO hS hok hA hK
    have noA : ∀ {b : Addr} {o : Obj} {es : Array DictEntry} {ep : Nat}, s₁.heap.get? b = some o → o.data = .dict es ep → H b = none := fun {b o es ep} e d => by
      cases q : H b with
      | none => rfl
      | some u =>
        obtain rfl : b = a := hA b (by rw [q]; simp)
        rw [ha] at e; cases e
        have d' : Data.seq vs.toArray _ = Data.dict es ep := d
        cases d'
    have nsK : ∀ {b : Addr} {m : Str → Option Value}, s₁.heap.Ns b m → (hidT s₁.heap H).Ns b m := fun {b m} ⟨o, es, ep, e, d, r⟩ => ⟨o, es, ep, hidT_get e (noA e d), d, r⟩
    have hKb : K.In (hidT s₁.heap H) := fun b o e => hidT_get (KX b o e) (by
      cases q : H b with
      | none => rfl
      | some u =>
        obtain rfl : b = a := hA b (by rw [q]; simp)
        rw [hK (by rw [q]; simp)] at e; cases e)
    have hM : Mod K mg (hidT s₁.heap H) := ⟨hKb, nsK hns, ⟨mb, nsK hb, hbb⟩, let ⟨mc, h1, h2⟩ := hlim; ⟨mc, nsK h1, h2⟩⟩
    have e0 : Env0 P w K mg (hidT s₁.heap H) callerA [] s₁ H := ⟨rfl, hM, fun b o e => of_hidT e, Nat.le_of_eq (hidT_size _ _), trivial, fun b hb => absurd (show b ∈ ([] : List Addr) from hb) (by simp), hok, .of_eq hg⟩
    have ia : ∀ l : List Int, IsAll K [] H (l.map V.int) (l.map G.P.int) := fun l => by
      induction l with
      | nil => exact .nil
      | cons i l ih => exact .cons (.int i) ih
    have sp : spG K F [.ref a] H (fun v _ => v = .bl true) := by
      refine ⟨[], [], [.scr (ns.map .int)], ⟨List.nodup_nil, rfl, fun i b o h => by simp at h⟩, .cons (.scr hS (ia ns)) .nil, ?_⟩
      rw [hres]
      exact fun L' H' _ _ v hv => by cases hv; rfl
    refine codeAny_mono ((hF _ hKb (nsK hns)).run callerA [] s₁ H ⟨[.ref a], []⟩ [.ref a] [.ref a] _ hr rfl e0 (hbind s₁ (.ref a)) (.cons rfl .nil) rfl sp) fun r s' h => ?_
    cases r with
    | error e => exact False.elim h
    | ok fl =>
      cases fl with
      | next => exact False.elim h
      | brk => exact False.elim h
      | cont => exact False.elim h
      | ret u =>
        obtain ⟨v, H', os, bare, un, hok', r', q⟩ := h
        obtain rfl : v = .bl true := q
        obtain rfl : u = Value.bool true := r'
        refine ⟨rfl, OldK.of_keep fun b o e => ?_, os, bare⟩
        cases q : H b with
        | none => exact un.keep b o e q (fun z => absurd (show b ∈ ([] : List Addr) from z) (by simp)) (by simp)
        | some u =>
          rcases hO b with z | ⟨ob, xs, z⟩
          · rw [q] at z; cases z
          · obtain ⟨e1, _⟩ := hok b _ z
            obtain ⟨e2, _⟩ := hok' b _ (un.frzs b ob _ z)
            rw [e] at e1; cases e1
            exact e2
  cases hk : K.lookup a with
  | some o =>
    have e := KX a o hk
    rw [ha] at e; cases e
    refine core (fun _ => none) (fun _ => .inl rfl) (.inr ⟨_, vs.toArray, _, hk, rfl, rfl, rfl, by rw [List.size_toArray, lenV]; exact hl, by simpa using rv⟩) (fun b u z => nomatch z) (fun b z => absurd rfl z) fun z => absurd rfl z
  | none =>
    have hc : ∀ (b : Addr) (u : HO), (if b = a then some (HO.frz { cls := .type "list", data := .seq vs.toArray } (.lst (ns.map V.int))) else none) = some u → b = a ∧ u = .frz { cls := .type "list", data := .seq vs.toArray } (.lst (ns.map V.int)) := fun b u z => by
      by_cases hb : b = a
      · rw [if_pos hb] at z; exact ⟨hb, (Option.some.inj z).symm⟩
      · rw [if_neg hb] at z; cases z
    refine core (fun b => if b = a then some (.frz { cls := .type "list", data := .seq vs.toArray } (.lst (ns.map V.int))) else none) (fun b => ?_) (.inl ⟨_, if_pos rfl⟩) (fun b u z => ?_) (fun b z => ?_) fun _ => hk
    · by_cases hb : b = a
      · exact .inr ⟨_, _, if_pos hb⟩
      · exact .inl (if_neg hb)
    · obtain ⟨rfl, rfl⟩ := hc b u z
      exact ⟨ha, by rw [List.length_map]; exact hl, vs, _, rv, ha⟩
    · by_cases hb : b = a
      · exact hb
      · exact absurd (if_neg hb) z
/-- a law -/
theorem walkG {l : PySem.W.OpenLaw} {n k : Nat} {q : Program} {loose : List Str} {XP : (Str → Option Value) → Heap → Prop} {YP : World → Heap → Prop} {d : DefRec} {x : Str} {F : List G.P → M G.P} (hn : l.most = some n) (hn2 : n ≤ sizeLine) (hdf : d.params.defaults = []) (hr : Room k callerA)
    (hF : ∀ (w : World) (mg : Str → Option Value) (fa : Addr) (h : Heap), YP w h → h.Ns mainGlobals mg → mg d.name = some (.ref fa) → ∃ (K : PySem.W.Frag) (fd : FuncData), K.In h ∧ (∀ (s : Shared) (u : Value), BindsTo s fd ⟨[u], []⟩ [(x, u)]) ∧ ∀ base : Heap, K.In base → base.Ns mainGlobals mg → FnG l.prog w K mg base k fa fd [x] F)
    (hres : ∀ ns : List Int, ns.length ≤ n → ∃ m', F [.scr (ns.map .int)] [] = .ok (.bl true) m') : PySem.W.WalkO q loose XP YP l.row.toRowW d [] (fun f vs => PySem.call f vs) := by
  refine Att.attach_call hn hdf fun w s₀ s₁ mg mb fa o pm cd doc a vs ns GG Y ho hd hcd hmg hobj hints hlen hg => ?_
  obtain ⟨K, fd, KX, hb, hFF⟩ := hF w mg fa _ Y GG.T.g hmg
  exact law_callG KX GG.T.g GG.T.b GG.T.builtins GG.T.nolimit hg hobj hints (Nat.le_trans hlen hn2) hr hFF hb (hres ns hlen)
end G

/-! G13: displays of dicts, starred items, more of the built-ins. -/
namespace G
open PySem PySem.Spec L2
theorem Cok.blk {X : Cx} (ok : Cok X) {s : Shared} {H : Hp} {sc : Scope} {ce : PySem.Env} {fp : List Addr} : Cok (X.blk s H sc ce fp) := ⟨ok.calm, ok.nd, ok.hu, ok.hg⟩
/-- so many arguments -/
def ALen (a : A) (n : Nat) : Prop := ∀ ρ m ps m', a ρ m = .ok ps m' → ps.length = n
theorem al_nil : ALen aNil 0 := fun ρ m ps m' h => by cases h; rfl
theorem al_cons {d : D} {a : A} {n : Nat} (h : ALen a n) : ALen (aCons d a) (n + 1) := fun ρ m ps m' e => by
  unfold aCons bnd at e
  cases q : d ρ m with
  | ok x m1 =>
    simp only [q] at e
    cases q2 : a ρ m1 with
    | ok xs m2 =>
      simp only [q2] at e
      cases e
      rw [List.length_cons, h _ _ _ _ q2]
    | exc _ _ _ => simp only [q2] at e; cases e
    | bad => simp only [q2] at e; cases e
  | exc _ _ _ => simp only [q] at e; cases e
  | bad => simp only [q] at e; cases e
theorem Held.mono {P : Program} {w : World} {K : PySem.W.Frag} {mg : Str → Option Value} {base : Heap} {j k : Nat} {x : Str} {n : Nat} {F : List G.P → M G.P} (h : Held P w K mg base j x n F) (hk : j ≤ k) : Held P w K mg base k x n F :=
  let ⟨f, fd, ps, a, b, c, d, e⟩ := h.ex
  ⟨f, fd, ps, a, b, c, d, e.mono hk⟩

/-! ### displays of dicts -/
abbrev KA := Env → M (List (P × P))
def kNil : KA := fun _ m => .ok [] m
def kCons (dk dv : D) (r : KA) : KA := fun ρ => bnd (dk ρ) fun x => bnd (dv ρ) fun y => bnd (r ρ) fun xs => ret ((x, y) :: xs)
def keyed (p : P × P) : Option (Key × P) := (keyOf p.1).map fun k => (k, p.2)
def putsP (kvs : List (Key × P)) : List (Key × P) := kvs.foldl (fun acc kv => vPut acc kv.1 kv.2) []
def dDict (a : KA) : D := fun ρ => bnd (a ρ) fun ps => bnd (opt (mapO keyed ps)) fun kvs => when_ (decide (kvs.length ≤ 15)) (newO (.dK (putsP kvs)))
def PIs (K : PySem.W.Frag) (L : List Addr) (H : Hp) : List (V × V) → List (P × P) → Prop := Paired fun a b => Is K L H a.1 b.1 ∧ Is K L H a.2 b.2
theorem PIs.mono {K : PySem.W.Frag} {L L' : List Addr} {H H' : Hp} {m : Hm} {as : List (V × V)} {bs : List (P × P)} (r : Rep K L H m) (x : Ext L H L' H') (h : PIs K L H as bs) : PIs K L' H' as bs := by
  unfold PIs at h ⊢
  induction h with
  | nil => exact .nil
  | cons h t ih => exact .cons ⟨h.1.mono r x, h.2.mono r x⟩ ih
def liftKA (K : PySem.W.Frag) (W : WX) (a : KA) (σ : L2.St) (H : Hp) (Q : List (V × V) → Hp → Prop) : Prop := ∃ (L : List Addr) (m : Hm) (ρ : Env), Rep K L H m ∧ EnvIs K L H σ ρ ∧ Go K W σ L H (a ρ m) fun ps m' L' H' => ∀ vs, PIs K L' H' vs ps → Q vs H'
def PDK (X : Cx) (W : WX) (pos : Pos) (ks : List (Option Expr)) (vs : List Expr) (a : KA) : Prop := ∃ trs, PPs X pos ks vs trs ∧ ∀ σ H Q, liftKA X.K W a σ H Q → tPairs trs σ H Q
section
variable {X : Cx} {W : WX} {k v : Expr} {ks : List (Option Expr)} {vs es : List Expr} {pos p1 : Pos}
theorem pdk_nil : PDK X W pos [] [] kNil := ⟨[], pps_nil, fun σ H Q ⟨L, m, ρ, r, e, g⟩ => g L H (Ext.refl L H) r [] .nil⟩
theorem pdk_cons {dk dv : D} {a : KA} (hk : PDE X W k dk) (hv : PDE X W v dv) (hr : PDK X W pos ks vs a) : PDK X W pos (some k :: ks) (v :: vs) (kCons dk dv a) := by
  obtain ⟨trs, h, w⟩ := hr
  refine ⟨_, pps_cons hk hv h, fun σ H Q ⟨L, m, ρ, r, e, g⟩ => ?_⟩
  refine lift_bnd r e g fun x p m1 L1 H1 x1 r1 e1 i1 g1 => lift_bnd r1 e1 g1 fun y q m2 L2 H2 x2 r2 e2 i2 g2 => w σ H2 _ ⟨L2, m2, ρ, r2, e2, g2.bnd.imp fun qs m3 L3 H3 _ x3 r3 g3 us hu => ?_⟩
  exact Go.ret (a := (p, q) :: qs) g3 r3 _ (.cons ⟨(i1.mono r1 x2).mono r2 x3, i2.mono r2 x3⟩ hu)
theorem keyed_is {K : PySem.W.Frag} {L : List Addr} {H : Hp} : ∀ {ps : List (P × P)} {us : List (V × V)} {kvs : List (Key × P)}, PIs K L H us ps → mapO keyed ps = some kvs → ∃ ws : List (Key × V), us = ws.map (fun kv => (kV kv.1, kv.2)) ∧ KvIs K L H ws kvs
  | [], _, kvs, h, e => by
    cases h
    cases e
    exact ⟨[], rfl, .nil⟩
  | p :: ps, _, kvs, h, e => by
    cases h with
    | @cons a _ as _ h1 h2 =>
      unfold mapO at e
      cases q : keyed p with
      | none => rw [q] at e; cases e
      | some kv =>
        rw [q] at e
        cases q2 : mapO keyed ps with
        | none => rw [q2] at e; cases e
        | some kvs' =>
          rw [q2] at e
          cases e
          obtain ⟨ws, e1, e2⟩ := keyed_is h2 q2
          unfold keyed at q
          cases q3 : keyOf p.1 with
          | none => rw [q3] at q; cases q
          | some k =>
            rw [q3] at q
            cases q
            have e3 := keyOf_is h1.1 q3
            refine ⟨(k, a.2) :: ws, ?_, .cons ⟨rfl, h1.2⟩ e2⟩
            rw [List.map_cons, ← e1]
            show a :: as = (kV k, a.2) :: as
            rw [← e3]
theorem puts_is {K : PySem.W.Frag} {L : List Addr} {H : Hp} {ws : List (Key × V)} {kvs : List (Key × P)} (h : KvIs K L H ws kvs) : ∀ {w0 : List (Key × V)} {k0 : List (Key × P)}, KvIs K L H w0 k0 → KvIs K L H (ws.foldl (fun acc kv => putK acc kv.1 kv.2) w0) (kvs.foldl (fun acc kv => vPut acc kv.1 kv.2) k0) := by
  unfold KvIs at h
  induction h with
  | nil => exact fun h => h
  | @cons p q ps qs h t ih =>
    intro w0 k0 h0
    have e := KvIs.put h0 p.1 h.2
    rw [List.foldl_cons, List.foldl_cons, ← h.1]
    exact ih e
theorem pd_dict {a : KA} (h : PDK X W pos ks vs a) (hall : ks.all (·.isSome) = true := by rfl) (hl : ks.length = vs.length := by rfl) (h0 : ks ≠ [] := by exact List.cons_ne_nil _ _) (h15 : ks.length ≤ 15 := by decide) : PDE X W (.Dict ks vs pos) (dDict a) := by
  obtain ⟨trs, hp, w⟩ := h
  refine pe_weak (pe_disp hp hall hl h0 h15) fun σ H Q ⟨L, m, ρ, r, e, g⟩ p hn => w σ _ _ ⟨L, m, ρ, r.mono_new hn, e.mono r (ext_new hn), ?_⟩
  unfold dDict bnd at g
  cases q : a ρ m with
  | exc c x m1 =>
    simp only [q] at g
    cases W with
    | none => exact False.elim g
    | some w0 => exact fun L' H' cls d x1 r1 i => False.elim i
  | bad => simp only [q] at g; exact False.elim g
  | ok ps m1 =>
    simp only [q] at g
    intro L1 H1 x1 r1 us hu
    have np : p ∉ L := r.new hn
    have hp1 : H1 p = some (.dK []) := x1.keep p _ upd_same np
    have np1 : p ∉ L1 := fun z => by
      obtain ⟨N, e1, f⟩ := x1.pre
      rw [e1] at z
      rcases List.mem_append.mp z with z | z
      · exact np z
      · have := f p z
        rw [upd_same] at this
        cases this
    cases q2 : mapO keyed ps with
    | none => unfold opt at g; simp only [q2] at g; exact False.elim g
    | some kvs =>
      unfold opt at g
      simp only [q2] at g
      obtain ⟨b, g2⟩ := Go.when_ g
      obtain ⟨ws, e1, e2⟩ := keyed_is hu q2
      have hlen : ws.length = kvs.length := e2.length
      refine ⟨hp1, ws, e1, by rw [hlen]; exact of_decide_eq_true b, ?_⟩
      have x2 : Ext L H L1 H1 := (ext_new hn).trans x1
      have x3 : Ext L H (L1 ++ [p]) (upd H1 p (.dK (mergeK [] ws))) := by
        obtain ⟨N, e3, f⟩ := x2.pre
        refine ⟨⟨N ++ [p], by rw [e3, List.append_assoc], fun c hc => ?_⟩, fun c o hc nc => ?_, fun c hc => ?_⟩
        · rcases List.mem_append.mp hc with hc | hc
          · exact f c hc
          · rw [List.mem_singleton.mp hc]; exact hn
        · rw [upd_ne (ne_of_none hc hn)]; exact x2.keep c o hc nc
        · by_cases hb : c = p
          · subst hb; rw [upd_same]; simp
          · rw [upd_ne hb]; exact x2.grow c hc
      have st : Stay L1 H1 L1 (upd H1 p (.dK (mergeK [] ws))) := ⟨fun b u e n => by
        by_cases hb : b = p
        · subst hb
          rw [hp1] at e
          cases e
          exact absurd trivial n
        · rw [upd_ne hb]; exact e, fun _ _ h => h⟩
      have r2 : Rep X.K L1 (upd H1 p (.dK (mergeK [] ws))) m1 := ⟨r1.nd, r1.len, fun i b u h1 h2 => (r1.obj i b u h1 h2).stay st (upd_ne fun z => np1 (z ▸ List.mem_of_getElem? h1))⟩
      have hk : KvIs X.K L1 (upd H1 p (.dK (mergeK [] ws))) (mergeK [] ws) (putsP kvs) := puts_is (KvIs.stay st e2) .nil
      exact g2 _ _ x3 (r2.link np1 ⟨_, upd_same, hk⟩) _ (.ref (by rw [← r1.len]; simp))
theorem pd_dnew : PDE X W (.Dict [] [] pos) (fun _ => newO (.dK [])) := by
  refine pe_weak pe_dnewK fun σ H Q ⟨L, m, ρ, r, e, g⟩ p hn => ?_
  have g : Go X.K W σ L H (newO (.dK []) m) _ := g
  have np : p ∉ L := r.new hn
  exact g (L ++ [p]) (upd H p (.dK [])) ((ext_new hn).link hn) ((r.mono_new hn).link np ⟨[], upd_same, .nil⟩) _ (.ref (by rw [← r.len]; simp))

/-! ### starred items -/
theorem pda_star {e : Expr} {d : D} {t : A} (ha : PDE X W e d) (hr : PDA X W es t) (hs : starEach (.Starred e p1 :: es) X.env = (true, eval e X.env) :: starEach es X.env := by rfl) : PDA X W (.Starred e p1 :: es) (aStar d t) := by
  refine pa_weak (StX.pa_star ha hr hs) fun σ H Q ⟨L, m, ρ, r, en, g⟩ => ?_
  refine lift_bnd r en g fun x p m1 L1 H1 x1 r1 e1 i1 g1 => ?_
  cases i1 with
  | @tup a vs ps h1 h2 => exact ⟨a, vs, rfl, .inl (.inl (.inl h1)), liftA_bnd r1 e1 g1 fun xs qs m2 L2 H2 x2 r2 e2 i2 g2 => Go.ret (a := ps ++ qs) g2 r2 _ ((h2.mono r1 x2).append i2)⟩
  | @ref a n h =>
    obtain ⟨ob, k1, g1⟩ := Go.getO g1
    cases ob with
    | lst ps =>
      obtain ⟨vs, k2, k3⟩ := r1.lst h k1
      exact ⟨a, vs, rfl, .inr (.of k2), liftA_bnd r1 e1 g1 fun xs qs m2 L2 H2 x2 r2 e2 i2 g2 => Go.ret (a := ps ++ qs) g2 r2 _ ((k3.mono r1 x2).append i2)⟩
    | _ => exact False.elim g1
  | _ => exact False.elim g1

/-! ### built-ins over a list -/
def itemsR (x : P) : M (List P) := match x with
  | .scr ps => ret ps
  | .ref n => getO n fun o => match o with
    | .lst ps => ret ps
    | _ => bad
  | _ => bad
def dR (f : List P → M P) (d : D) : D := fun ρ => bnd (d ρ) fun x => bnd (itemsR x) f
theorem Go.itemsR {K : PySem.W.Frag} {L : List Addr} {H : Hp} {m : Hm} {σ : L2.St} {p : P} {v : V} {β : Type} {f : List P → M β} {F : β → Hm → List Addr → Hp → Prop} (r : Rep K L H m) (i : Is K L H v p) (g : Go K W σ L H (G.bnd (G.itemsR p) f m) F) :
    ∃ ps, SeqL K L H v ps ∧ Go K W σ L H (f ps m) F := by
  cases i with
  | @scr a vs ps h1 h2 => exact ⟨ps, ⟨a, vs, rfl, SqL_of_frz h1, h2⟩, g⟩
  | @ref a n h =>
    obtain ⟨ob, e1, g⟩ := Go.getO (show Go K W σ L H (G.getO n (fun o => G.bnd ((fun o => match o with
      | .lst ps => G.ret ps
      | _ => bad) o) f) m) F from by
        unfold G.itemsR G.bnd G.getO at g
        unfold G.bnd G.getO
        cases e : m[n]? with
        | none => simp only [e] at g; exact False.elim g
        | some o => simp only [e] at g ⊢; exact g)
    cases ob with
    | lst ps =>
      obtain ⟨vs, k1, k2⟩ := r.lst h e1
      exact ⟨ps, ⟨a, vs, rfl, .of k1, k2⟩, g⟩
    | _ => exact False.elim g
  | _ => exact False.elim g
theorem pd_nR {e : Expr} {f : List P → M P} {d : D} {x : Str} {T : Value} (hc : CallR X T (nOf X.K W SeqL f)) (hT : (∃ id, T = .builtin id) ∨ ∃ id, T = .type id) (hm : X.mg x = none) (hl : PDE X W e d) (hg : Gl X x := by rfl) (hv : bootBuiltins x = some T := by decide +kernel) (hn : x ≠ "__name__" := by decide) (hdb : (x == ("__debug__" : Str)) = false := by decide)
    (he : starEach [e] X.env = (false, eval e X.env) :: starEach [] X.env := by rfl) : PDE X W (.Call (.Name x p1) [e] [] pos) (dR f d) := by
  have w : ∀ σ H Q, lift X.K W (dR f d) σ H Q → tCB (nOf X.K W SeqL f) (tCons (lift X.K W d) tNil) σ H Q := fun σ H Q ⟨L, m, ρ, r, e, g⟩ => show lift X.K W d σ H (fun x H1 => nOf X.K W SeqL f [x] H1 Q) from
    lift_bnd r e g fun x p m1 L1 H1 x1 r1 e1 i1 g1 => by
      obtain ⟨ps, sv, g2⟩ := Go.itemsR r1 i1 g1
      exact ⟨L1, m1, σ, _, ps, rfl, r1, sv, g2⟩
  rcases hT with ⟨id, rfl⟩ | ⟨id, rfl⟩
  · exact pe_weak (pe_callB hc hg hm hv (pa_cons hl pa_nil he) hn hdb he rfl) w
  · exact pe_weak (pe_callTy hc hg hm hv (pa_cons hl pa_nil he) hn hdb he rfl) w

/-! ### a tuple some times over -/
theorem tuple_mul1 (l : Addr) (items : Array Value) (n : Nat) (dd : Option Addr) (sl : Array (Option Value)) (u : Tok) :
    Meets (Builtin.«tuple.__mul__» ⟨[.ref l, .int 1 u], []⟩) (fun _ R s => s.heap.get? l = some { cls := .type "tuple", dict := dd, data := .seq items n, slots := sl } ∧ R (.ok (.ret (Value.ref l))) s) :=
  .of_wp fun prog w A R s h => by
    obtain ⟨hp, g, d, tk, os⟩ := s
    obtain ⟨hl, h⟩ := h
    have f1 := AutoSeq1.idx_int
    have c1 : (items.isEmpty || (1 : Int) == 1) = true := by simp
    wp_walk using wpAny_loadPart' hl
    repeat (first
      | (refine wpAny_ite_true (decide_eq_true (by rw [c1])) ?_; wp_walk using wpAny_loadPart' hl)
      | (refine wpAny_ite_false (decide_eq_false (by decide)) ?_; wp_walk using wpAny_loadPart' hl))
    exact ⟨_, rfl, h⟩
def oMulT (x y : P) : M P := match x with
  | .tup ps => match y with
    | .int k => when_ (!ps.isEmpty && decide (1 ≤ k) && decide (k ≤ 1000) && decide (ps.length ≤ 1000)) (ret (.tup (List.replicate k.toNat ps).flatten))
    | _ => bad
  | _ => bad
theorem op_rep1 : OpR X (binaryOp .Mult) (fun x y H Q => ∃ l xs, x = .ref l ∧ y = .int 1 ∧ SqT X.K H l xs ∧ xs ≠ [] ∧ Q (.ref l) H) := by
  intro pins s σ H x y v u Q I rx ry h
  obtain ⟨l, xs, rfl, rfl, hT, hne, q⟩ := h
  cases rx
  obtain ⟨t, rfl⟩ := ry
  obtain ⟨its, r, ⟨⟨cls, dd, data, sl⟩, ho, hc, n, hd⟩, hs⟩ := I.tuple hT
  simp only at hc hd
  subst hc hd
  exact wpAny_binaryOp_repeat_ref (T := "tuple") (U := "int") (by decide) ⟨_, ho, rfl⟩ (fun s' => typeIs_int s' 1 t) noFill_tuple_mul F.fills_int_mul F.slot_int_rmul repeat_tuple F.slot_int_index.lookup
    (PySem.call_meets F.slot_int_rmul (typeIs_int s 1 t) F.entry_int_rmul (F.args_int_rmul_2 _ _) (int_rmul_tuple 1 t l its.toArray n dd sl)
      ⟨ho, rfl, ⟨_, ho, rfl⟩, PySem.call_meets F.slot_tuple_mul ⟨_, ho, rfl⟩ F.entry_tuple_mul (F.args_tuple_mul_2 _ _) (tuple_mul1 l its.toArray n dd sl t) ⟨ho, ⟨.ref l, H, I, rfl, q⟩⟩⟩)
theorem ob_mulT : OpS X W (binaryOp .Mult) oMulT := by
  intro pins s σ H x y v u Q I rx ry ⟨L, m, σ', p, q, r, ip, iq, gg⟩
  cases ip with
  | @tup a vs ps h1 h2 =>
    cases iq with
    | int k =>
      obtain ⟨b, g2⟩ := Go.when_ gg
      simp only [Bool.and_eq_true, decide_eq_true_eq, Bool.not_eq_true', List.isEmpty_eq_false_iff] at b
      have hv : vs ≠ [] := fun e => b.1.1.1 (by have := h2.length; rw [e] at this; exact List.eq_nil_of_length_eq_zero this.symm)
      by_cases hk : k = 1
      · subst hk
        refine op_rep1 pins s σ H _ _ v u Q I rx ry ⟨a, vs, rfl, rfl, .of h1, hv, ?_⟩
        have e : (List.replicate (1 : Int).toNat ps).flatten = ps := by simp
        rw [e] at g2
        exact Go.ret (a := P.tup ps) g2 r _ (.tup h1 h2)
      · exact op_repT pins s σ H _ _ v u Q I rx ry ⟨a, k, vs, rfl, rfl, .of h1, hv, by omega, b.1.2, by rw [h2.length]; exact b.2, fun p hp => g2 L (upd H p (.tup (List.replicate k.toNat vs).flatten)) (ext_new hp) (r.mono_new hp) _ (.tup upd_same ((h2.replicate _).stay (stay_new hp)))⟩
    | _ => exact False.elim gg
  | _ => exact False.elim gg
end
end G

/-! G14: list(range(..)), tuple(range(..)). -/
namespace G
open PySem PySem.Spec L2
/-- turns of a while loop: more than any of ours -/
def FU : Nat := 1000000
theorem pd_glo {X : Cx} {W : WX} {x : Str} {i : Int} {pos : Pos} (h : ∃ t, X.mg x = some (.int i t)) (hg : Gl X x := by rfl) (hd : (x == ("__debug__" : Str)) = false := by decide) : PDE X W (.Name x pos) (dC (.int i)) := by
  obtain ⟨t, h⟩ := h
  exact pd_c (v := V.int i) (pe_glob hg h ⟨t, rfl⟩ hd) fun _ _ => .int i
abbrev RD := Env → M (Int × Int)
def asI (x : P) : M Int := match x with
  | .int i => ret i
  | _ => bad
def rg1 (d : D) : RD := fun ρ => bnd (d ρ) fun x => bnd (asI x) fun j => ret (0, j)
def rg2 (a b : D) : RD := fun ρ => bnd (a ρ) fun x => bnd (b ρ) fun y => bnd (asI x) fun i => bnd (asI y) fun j => ret (i, j)
def rgOk (a b : Int) : Bool := small62 a && small62 b && decide ((b - a).toNat ≤ SZ)
def lRg (r : RD) : LD := fun ρ => bnd (r ρ) fun ab => when_ (rgOk ab.1 ab.2) (ret (rangeP ab.1 ab.2))
def dTupRg (r : RD) : D := fun ρ => bnd (r ρ) fun ab => when_ (rgOk ab.1 ab.2) (ret (.tup (rangeP ab.1 ab.2)))
def liftR (K : PySem.W.Frag) (W : WX) (r : RD) (σ : L2.St) (H : Hp) (Q : Int → Int → Hp → Prop) : Prop := ∃ (L : List Addr) (m : Hm) (ρ : Env), Rep K L H m ∧ EnvIs K L H σ ρ ∧ Go K W σ L H (r ρ m) fun ab _ L' H' => Q ab.1 ab.2 H'
def PDR (X : Cx) (W : WX) (e : Expr) (r : RD) : Prop := PRg X e (liftR X.K W r)
theorem Go.asI {K : PySem.W.Frag} {W : WX} {L : List Addr} {H : Hp} {m : Hm} {σ : L2.St} {p : P} {v : V} {β : Type} {f : Int → M β} {F : β → Hm → List Addr → Hp → Prop} (i : Is K L H v p) (g : Go K W σ L H (G.bnd (G.asI p) f m) F) : ∃ n, p = .int n ∧ v = .int n ∧ Go K W σ L H (f n m) F := by
  cases i with
  | int n => exact ⟨n, rfl, rfl, g⟩
  | _ => exact False.elim g
section
variable {X : Cx} {W : WX} {e a b : Expr} {pos p : Pos}
theorem pdr_1 {d : D} (hm : X.mg "range" = none) (h : PDE X W a d) (hg : Gl X "range" := by rfl) (na : starEach [a] X.env = (false, eval a X.env) :: starEach [] X.env := by rfl) : PDR X W (.Call (.Name "range" p) [a] [] pos) (rg1 d) := by
  intro pins s σ H Q I ⟨L, m, ρ, r, en, g⟩
  refine prg_1 hg hm h na pins s σ H Q I ?_
  refine lift_bnd r en g fun x p m1 L1 H1 x1 r1 e1 i1 g1 => ?_
  obtain ⟨n, rfl, rfl, g2⟩ := Go.asI i1 g1
  exact ⟨n, rfl, Go.ret (a := ((0 : Int), n)) g2 r1⟩
theorem pdr_2 {d d' : D} (hm : X.mg "range" = none) (h : PDE X W a d) (h' : PDE X W b d') (hg : Gl X "range" := by rfl) (na : starEach [a, b] X.env = (false, eval a X.env) :: starEach [b] X.env := by rfl)
    (nb : starEach [b] X.env = (false, eval b X.env) :: starEach [] X.env := by rfl) (hp : (backTo pos (starEach [b] X.env)).any (·.1) = false := by rfl) : PDR X W (.Call (.Name "range" p) [a, b] [] pos) (rg2 d d') := by
  intro pins s σ H Q I ⟨L, m, ρ, r, en, g⟩
  refine prg_2 hg hm h h' na nb hp pins s σ H Q I ?_
  refine lift_bnd r en g fun x p m1 L1 H1 x1 r1 e1 i1 g1 => lift_bnd r1 e1 g1 fun y q m2 L2 H2 x2 r2 e2 i2 g2 => ?_
  obtain ⟨n, rfl, rfl, g3⟩ := Go.asI (i1.mono r1 x2) g2
  obtain ⟨k, rfl, rfl, g4⟩ := Go.asI i2 g3
  exact ⟨n, k, rfl, rfl, Go.ret (a := (n, k)) g4 r2⟩
theorem rgOk_ok {a b : Int} (h : rgOk a b = true) : RgOk a b := by
  simp only [rgOk, small62, SZ, Bool.and_eq_true, decide_eq_true_eq] at h
  refine ⟨by omega, by omega, by omega, by omega, by omega⟩
theorem rgV_is {K : PySem.W.Frag} {L : List Addr} {H : Hp} (a b : Int) : IsAll K L H (rgV a b) (rangeP a b) := by
  unfold rgV rangeP
  generalize (b - a).toNat = n
  have k : ∀ l : List Nat, IsAll K L H (l.map fun (i : Nat) => V.int (a + i)) (l.map fun (i : Nat) => P.int (a + i)) := fun l => by
    induction l with
    | nil => exact .nil
    | cons i l ih => exact .cons (.int _) ih
  exact k _
theorem pdl_listRg (ok : Cok X) {r : RD} (hm : X.mg "list" = none) (h : PDR X W e r) (hg : Gl X "list" := by rfl) (na : starEach [e] X.env = (false, eval e X.env) :: starEach [] X.env := by rfl) : PDL X W (.Call (.Name "list" p) [e] [] pos) (lRg r) := by
  refine pe_weak (pe_listRg ok.calm hg hm h na) fun σ H Q ⟨L, m, ρ, r, en, g⟩ => ⟨L, m, ρ, r, en, g.bnd.imp fun ab m1 L1 H1 _ x1 r1 g1 => ?_⟩
  obtain ⟨b, g2⟩ := g1.when_
  exact ⟨rgOk_ok b, fun q hq => g2 L1 (upd H1 q (.lst (rgV ab.1 ab.2))) (ext_new hq) (r1.mono_new hq) q _ (grow_none x1 hq) upd_same (r1.new hq) (rgV_is _ _)⟩
theorem pd_tupRg (ok : Cok X) {r : RD} (hm : X.mg "tuple" = none) (h : PDR X W e r) (hg : Gl X "tuple" := by rfl) (na : starEach [e] X.env = (false, eval e X.env) :: starEach [] X.env := by rfl) : PDE X W (.Call (.Name "tuple" p) [e] [] pos) (dTupRg r) := by
  refine pe_weak (pe_tupRg ok.calm hg hm h na) fun σ H Q ⟨L, m, ρ, r, en, g⟩ => ⟨L, m, ρ, r, en, g.bnd.imp fun ab m1 L1 H1 _ x1 r1 g1 => ?_⟩
  obtain ⟨b, g2⟩ := g1.when_
  exact ⟨rgOk_ok b, fun q hq => g2 L1 (upd H1 q (.tup (rgV ab.1 ab.2))) (ext_new hq) (r1.mono_new hq) _ (.tup upd_same (rgV_is _ _))⟩
end
end G

/-! G15: zip of two. -/
namespace G
open PySem PySem.Spec L2 RZ
def zipP : List P → List P → List P
  | p :: ps, q :: qs => .tup [p, q] :: zipP ps qs
  | _, _ => []
theorem zipP_get : ∀ (ps qs : List P) (i : Nat), (zipP ps qs)[i]? = pair2 ps[i]? qs[i]?
  | [], _, i => by cases i <;> rfl
  | _ :: _, [], i => by
    have : ([] : List P)[i]? = none := by cases i <;> rfl
    rw [this]
    show ([] : List P)[i]? = _
    rw [this]
    unfold pair2
    split <;> simp_all
  | p :: ps, q :: qs, 0 => rfl
  | p :: ps, q :: qs, i + 1 => by
    show (zipP ps qs)[i]? = _
    rw [zipP_get ps qs i]
    rfl
def sZip (a : A) : SD := fun ρ => bnd (a ρ) fun ps => match ps with
  | [.tup ps, .tup qs] => ret (.seq (zipP ps qs))
  | [.ref n, .ref k] => getO n fun o => match o with
    | .lst _ => getO k fun o' => match o' with
      | .lst _ => ret (.zipL n k)
      | _ => bad
    | _ => bad
  | _ => bad
theorem ext_newZ {K : PySem.W.Frag} {L : List Addr} {H : Hp} {m : Hm} (r : Rep K L H m) {a : Addr} {v w : V} {p q : P} (h : H a = none) (i : Is K L H v p) (j : Is K L H w q) : Ext L H L (upd H a (.tup [v, w])) ∧ Rep K L (upd H a (.tup [v, w])) m ∧ Is K L (upd H a (.tup [v, w])) (.ref a) (.tup [p, q]) :=
  ⟨ext_new h, r.mono_new h, .tup upd_same (.cons (i.stay (stay_new h)) (.cons (j.stay (stay_new h)) .nil))⟩
theorem src_zipT {K : PySem.W.Frag} {L : List Addr} {H : Hp} {m : Hm} {a b : Addr} {vs ws : List V} {ps qs : List P} (r : Rep K L H m) (h : SqT K H a vs) (i : IsAll K L H vs ps) (h2 : SqT K H b ws) (i2 : IsAll K L H ws qs) : SrcIs K L H (ItzT K a b) (.seq (zipP ps qs)) := by
  intro L' H' m' x r' j o ho
  have st := x.stay r
  have a1 := st.sqT h
  have a2 := st.sqT h2
  have j1 := i.stay st
  have j2 := i2.stay st
  cases (show some (zipP ps qs)[j]? = some o from ho)
  rw [zipP_get]
  cases e : ps[j]? with
  | none =>
    have : pair2 none qs[j]? = none := by unfold pair2; split <;> simp_all
    rw [this]
    exact ⟨vs, ws, a1, a2, .inl (by rw [i.length]; exact List.getElem?_eq_none_iff.mp e)⟩
  | some p =>
    cases e2 : qs[j]? with
    | none => exact ⟨vs, ws, a1, a2, .inr (by rw [i2.length]; exact List.getElem?_eq_none_iff.mp e2)⟩
    | some q =>
      obtain ⟨v, c1, c2⟩ := j1.get e
      obtain ⟨w, d1, d2⟩ := j2.get e2
      refine ⟨⟨vs, ws, v, w, a1, a2, c1, d1⟩, fun x1 H1 ⟨T, y, z, e4, hT, eH, q1, q2⟩ => ?_⟩
      subst eH e4
      have k1 := (q1 vs a1).symm.trans c1
      have k2 := (q2 ws a2).symm.trans d1
      cases k1
      cases k2
      exact ext_newZ r' hT c2 d2
theorem src_zipL {K : PySem.W.Frag} {L : List Addr} {H : Hp} {a b : Addr} {n k : Nat} (h : L[n]? = some a) (h2 : L[k]? = some b) : SrcIs K L H (Itz K a b) (.zipL n k) := by
  intro L' H' m' x r' j o ho
  have g1 := x.get h
  have g2 := x.get h2
  cases e1 : m'[n]? with
  | none => simp only [Src.at, e1] at ho; cases ho
  | some o1 =>
    cases e2 : m'[k]? with
    | none => simp only [Src.at, e1, e2] at ho; cases o1 <;> cases ho
    | some o2 =>
      cases o1 with
      | lst ps =>
        cases o2 with
        | lst qs =>
          have ho : some (pair2 ps[j]? qs[j]?) = some o := by simp only [Src.at, e1, e2] at ho; exact ho
          cases ho
          obtain ⟨vs, k1, k2⟩ := r'.lst g1 e1
          obtain ⟨ws, l1, l2⟩ := r'.lst g2 e2
          cases c : ps[j]? with
          | none =>
            have : pair2 none qs[j]? = none := by unfold pair2; split <;> simp_all
            rw [this]
            exact ⟨vs, ws, .of k1, .of l1, .inl (by rw [k2.length]; exact List.getElem?_eq_none_iff.mp c)⟩
          | some p =>
            cases d : qs[j]? with
            | none => exact ⟨vs, ws, .of k1, .of l1, .inr (by rw [l2.length]; exact List.getElem?_eq_none_iff.mp d)⟩
            | some q =>
              obtain ⟨v, c1, c2⟩ := k2.get c
              obtain ⟨w, d1, d2⟩ := l2.get d
              refine ⟨⟨vs, ws, v, w, .of k1, .of l1, c1, d1⟩, fun x1 H1 ⟨T, y, z, e4, hT, eH, q1, q2⟩ => ?_⟩
              subst eH e4
              have k1 := (q1 vs (.of k1)).symm.trans c1
              have k2 := (q2 ws (.of l1)).symm.trans d1
              cases k1
              cases k2
              exact ext_newZ r' hT c2 d2
        | _ => simp only [Src.at, e1, e2] at ho; cases ho
      | _ => simp only [Src.at, e1] at ho; cases ho
section
variable {X : Cx} {W : WX} {e e2 : Expr} {elts : List Expr} {kk : Nat} {pos p1 tpos : Pos}
theorem pdi_zip {a : A} (hm : X.mg "zip" = none) (ha : PDA X W [e, e2] a) (hg : Gl X "zip" := by rfl) (hs : starEach [e, e2] X.env = (false, eval e X.env) :: starEach [e2] X.env := by rfl) (hpl : (backTo pos (starEach [e2] X.env)).any (·.1) = false := by rfl) : PDI X W (.Tuple elts kk tpos) (.Call (.Name "zip" p1) [e, e2] [] pos) (sZip a) := by
  refine pi_weak (pi_zipA hg hm ha hs hpl) fun σ H R ⟨L, m, ρ, r, e, g⟩ => ?_
  refine liftA_bnd r e g fun xs ps m1 L1 H1 x1 r1 e1 i1 g1 => ?_
  cases i1 with
  | nil => exact False.elim g1
  | cons i1 t1 =>
    cases t1 with
    | nil => cases i1 <;> exact False.elim g1
    | cons i2 t2 =>
      cases t2 with
      | cons _ _ => cases i1 <;> cases i2 <;> exact False.elim g1
      | nil =>
        cases i1 with
        | @tup a vs ps h1 h2 =>
          cases i2 with
          | @tup b ws qs k1 k2 => exact ⟨a, b, vs, ws, rfl, .inr ⟨.of h1, .of k1, Go.ret (a := Src.seq (zipP ps qs)) g1 r1 _ (src_zipT r1 (.of h1) h2 (.of k1) k2)⟩⟩
          | _ => exact False.elim g1
        | @ref a n h =>
          cases i2 with
          | @ref b k h' =>
            obtain ⟨o, q1, g2⟩ := Go.getO g1
            cases o with
            | lst ps =>
              obtain ⟨o', q2, g3⟩ := Go.getO g2
              cases o' with
              | lst qs =>
                obtain ⟨vs, k1, k2⟩ := r1.lst h q1
                obtain ⟨ws, l1, l2⟩ := r1.lst h' q2
                exact ⟨a, b, vs, ws, rfl, .inl ⟨.of k1, .of l1, Go.ret (a := Src.zipL n k) g3 r1 _ (src_zipL h h')⟩⟩
              | _ => exact False.elim g3
            | _ => exact False.elim g2
          | _ => exact False.elim g1
        | _ => cases i2 <;> exact False.elim g1
end
end G

namespace K_k22
open PySem (Str)
open G
def D_least_missing : DS :=
    (sSeq (sSet 1 (dC (.int 0)))
    (sSeq (sWhile (tVal (dOp oIn (dVar 1) (dVar 0))) (sSet 1 (dOp oAdd (dVar 1) (dC (.int 1)))) FU)
    (sRet (dVar 1))))
@[irreducible] def F_least_missing : List P → M P := fnOf 1 2 (D_least_missing )
def D_sum_of_piles : DS :=
    (sSeq (sSet 1 (dC (.int 0)))
    (sSeq (sFor (sOf (dVar 0)) (gName 2) (sSet 1 (dOp oXor (dVar 1) (dVar 2))))
    (sRet (dVar 1))))
@[irreducible] def F_sum_of_piles : List P → M P := fnOf 1 3 (D_sum_of_piles )
def D_first_wins_piles (c_sum_of_piles : List P → M P) : DS :=
    (sRet (dOp oNe (dCall c_sum_of_piles (aCons (dVar 0) aNil)) (dC (.int 0))))
@[irreducible] def F_first_wins_piles : List P → M P := fnOf 1 1 (D_first_wins_piles F_sum_of_piles)
def D_pile_moves_that_win (c_sum_of_piles : List P → M P) : DS :=
    (sSeq (sSet 1 (dCall c_sum_of_piles (aCons (dVar 0) aNil)))
    (sRet (dL nTup (lComp (sEnum (dVar 0)) (gTup 2 (gCons (gName 2) (gCons (gName 3) gNil))) (tVal (dOp oLt (dOp oXor (dVar 3) (dVar 1)) (dVar 3))) (dTup (aCons (dVar 2) (aCons (dOp oXor (dVar 3) (dVar 1)) aNil))) [2, 3]))))
@[irreducible] def F_pile_moves_that_win : List P → M P := fnOf 1 4 (D_pile_moves_that_win F_sum_of_piles)
def D_pile_game : DS :=
    (sSeq (sSet 1 (dNew (lLst aNil)))
    (sSeq (sFor (sRange1 (dOp oAdd (dVar 0) (dC (.int 1)))) (gName 2) (sSeq (sSet 3 (dL nTup (lV sortP (dVar 1))))
    (sSet 1 (dNew (lLst (aStar (dVar 1) (aCons (dTup (aCons (dVar 3) (aCons (dVar 3) aNil))) aNil)))))))
    (sRet (dOp oIx (dVar 1) (dVar 0)))))
@[irreducible] def F_pile_game : List P → M P := fnOf 1 4 (D_pile_game )
def D__law_open_cells : DS :=
    (sSeq (sSet 1 (dC (.int 11)))
    (sSeq (sFor (sOf (dVar 0)) (gName 2) (sSet 1 (dOp oMod (dCall (one bInt) (aCons (dOp oAdd (dOp oAdd (dOp oMul (dVar 1) (dC (.int 69069))) (dOp oMul (dVar 2) (dC (.int 31)))) (dC (.int 5))) aNil)) (dC (.int 2147483629)))))
    (sSeq (sSet 3 (dNew (lComp (sOf (dVar 0)) (gName 2) tYes (dCall (one bAbs) (aCons (dVar 2) aNil)) [2])))
    (sRet (dDict (kCons (dC (.str "cells")) (dRev (dVar 3)) (kCons (dC (.str "left")) (dC (.int 1)) (kCons (dC (.str "mixed")) (dVar 1) (kCons (dC (.str "turn")) (dC (.int 0)) kNil)))))))))
@[irreducible] def F__law_open_cells : List P → M P := fnOf 1 4 (D__law_open_cells )
def D__law_pick : DS :=
    (sSeq (sIf (tVal (dOp oLt (dVar 1) (dC (.int 2)))) (sRet (dC (.int 0))) sNx)
    (sSeq (sSet 2 (dOp oIx (dVar 0) (dC (.str "cells"))))
    (sSeq (sWhile (tAnd (tVal (dOp oLt (dOp oIx (dVar 0) (dC (.str "left"))) (dC (.int 2)))) (tVal (dOp oGt (dCall (one bLen) (aCons (dVar 2) aNil)) (dC (.int 0))))) (sPut (dVar 0) (dC (.str "left")) (dMeth0 chkL mPop (dVar 2))) FU)
    (sSeq (sSet 3 (dOp oIx (dVar 0) (dC (.str "left"))))
    (sSeq (sIf (tVal (dOp oGt (dVar 3) (dC (.int 1)))) (sSeq (sPut (dVar 0) (dC (.str "left")) (dOp oDiv (dVar 3) (dVar 1)))
    (sRet (dOp oMod (dCall (one bInt) (aCons (dVar 3) aNil)) (dVar 1)))) sNx)
    (sSeq (sPut (dVar 0) (dC (.str "turn")) (dOp oAdd (dOp oIx (dVar 0) (dC (.str "turn"))) (dC (.int 1))))
    (sSeq (sSet 4 (dOp oIx (dVar 0) (dC (.str "turn"))))
    (sSeq (sSet 5 (dOp oMod (dCall (one bInt) (aCons (dOp oAdd (dOp oIx (dVar 0) (dC (.str "mixed"))) (dOp oMul (dVar 4) (dC (.int 104729)))) aNil)) (dC (.int 998244353))))
    (sSeq (sSet 5 (dOp oMod (dCall (one bInt) (aCons (dOp oAdd (dOp oMul (dVar 5) (dVar 5)) (dOp oMul (dVar 4) (dC (.int 17)))) aNil)) (dC (.int 2147483647))))
    (sRet (dOp oMod (dCall (one bInt) (aCons (dOp oDiv (dVar 5) (dC (.int 16))) aNil)) (dVar 1))))))))))))
@[irreducible] def F__law_pick : List P → M P := fnOf 2 6 (D__law_pick )
def D__law_of (c__law_pick : List P → M P) : DS :=
    (sRet (dOp oIx (dVar 1) (dCall c__law_pick (aCons (dVar 0) (aCons (dCall (one bLen) (aCons (dVar 1) aNil)) aNil)))))
@[irreducible] def F__law_of : List P → M P := fnOf 2 2 (D__law_of F__law_pick)
def D__law_mex : DS :=
    (sSeq (sSet 1 (dC (.int 0)))
    (sSeq (sWhile (tVal (dOp oIn (dVar 1) (dVar 0))) (sSet 1 (dOp oAdd (dVar 1) (dC (.int 1)))) FU)
    (sRet (dVar 1))))
@[irreducible] def F__law_mex : List P → M P := fnOf 1 2 (D__law_mex )
def D__law_xor : DS :=
    (sSeq (sAsg (dTup (aCons (dC (.int 0)) (aCons (dC (.int 1)) aNil))) (gTup 2 (gCons (gName 1) (gCons (gName 2) gNil))))
    (sSeq (sWhile (tVal (dOp oLe (dVar 2) (dR nMax (dOp oAdd (dNew (lV lId (dVar 0))) (dNew (lLst (aCons (dC (.int 0)) aNil))))))) (sSeq (sSet 1 (dOp oAdd (dVar 1) (dOp oMul (dVar 2) (dOp oMod (dCall (one bInt) (aCons (dL nLen (lComp (sOf (dVar 0)) (gName 3) (tVal (dOp oEq (dOp oMod (dCall (one bInt) (aCons (dOp oDiv (dVar 3) (dVar 2)) aNil)) (dC (.int 2))) (dC (.int 1)))) (dC (.int 1)) [3])) aNil)) (dC (.int 2))))))
    (sSet 2 (dOp oMul (dC (.int 2)) (dVar 2)))) FU)
    (sRet (dVar 1))))
@[irreducible] def F__law_xor : List P → M P := fnOf 1 4 (D__law_xor )
def D__law_game : DS :=
    (sSeq (sSet 2 (dNew (lLst aNil)))
    (sSeq (sFor (sOf (dTup (aCons (dVar 0) (aCons (dVar 1) aNil)))) (gName 3) (sSeq (sSet 4 (dNew (lV sortP (dVar 3))))
    (sExpr (dMeth1 chkL mAppend (dVar 2) (dL nTup (lComp (sEnum (dVar 4)) (gTup 2 (gCons (gName 5) (gCons (gName 6) gNil))) (tOr (tVal (dOp oEq (dVar 5) (dC (.int 0)))) (tVal (dOp oNe (dVar 6) (dOp oIx (dVar 4) (dOp oSub (dVar 5) (dC (.int 1))))))) (dVar 6) [5, 6]))))))
    (sRet (dTup (aCons (dOp oIx (dVar 2) (dC (.int 0))) (aCons (dOp oIx (dVar 2) (dC (.int 1))) aNil))))))
@[irreducible] def F__law_game : List P → M P := fnOf 2 7 (D__law_game )
def D__law_pile (c__law_game c__law_pile : List P → M P) : DS :=
    (sSeq (sSet 1 (dNew (lComp (sRange1 (dVar 0)) (gName 2) tYes (dCall c__law_pile (aCons (dVar 2) aNil)) [2])))
    (sRet (dCall c__law_game (aCons (dVar 1) (aCons (dVar 1) aNil)))))
def R__law_pile : Nat → List P → M P
  | 0 => fun _ => bad
  | n + 1 => fnOf 1 3 (D__law_pile F__law_game (R__law_pile n))
@[irreducible] def F__law_pile (n : Nat) : List P → M P := R__law_pile n
theorem F__law_pile_0 : F__law_pile 0 = fun _ => bad := by unfold F__law_pile; rfl
theorem F__law_pile_s (n : Nat) : F__law_pile (n + 1) = fnOf 1 3 (D__law_pile F__law_game (F__law_pile n)) := by unfold F__law_pile; rfl
def D__law_wins (c__law_wins : List P → M P) : DS :=
    (sSeq (sIf (tVal (dOp oNotIn (dVar 1) (dVar 0))) (sSeq (sPut (dVar 0) (dVar 1) (dC (.bl false)))
    (sFor (sRange1 (dCall (one bLen) (aCons (dVar 1) aNil))) (gName 2) (sSeq (sSet 3 (dNew (lComp (sRange1 (dOp oIx (dVar 1) (dVar 2))) (gName 4) tYes (dL nTup (lV sortP (dOp oAdd (dOp oAdd (dSl (dVar 1) pNone (pSome (dVar 2))) (dTup (aCons (dVar 4) aNil))) (dSl (dVar 1) (pSome (dOp oAdd (dVar 2) (dC (.int 1)))) pNone)))) [4])))
    (sPut (dVar 0) (dVar 1) (dOr (dOp oIx (dVar 0) (dVar 1)) (dUn uNot (dL nAll (lComp (sOf (dVar 3)) (gName 5) tYes (dCall c__law_wins (aCons (dVar 0) (aCons (dVar 5) aNil))) [5])))))))) sNx)
    (sRet (dOp oIx (dVar 0) (dVar 1))))
def R__law_wins : Nat → List P → M P
  | 0 => fun _ => bad
  | n + 1 => fnOf 2 6 (D__law_wins (R__law_wins n))
@[irreducible] def F__law_wins (n : Nat) : List P → M P := R__law_wins n
theorem F__law_wins_0 : F__law_wins 0 = fun _ => bad := by unfold F__law_wins; rfl
theorem F__law_wins_s (n : Nat) : F__law_wins (n + 1) = fnOf 2 6 (D__law_wins (F__law_wins n)) := by unfold F__law_wins; rfl
def D_law (c_least_missing c_sum_of_piles c_first_wins_piles c_pile_moves_that_win c_pile_game c__law_open_cells c__law_pick c__law_of c__law_mex c__law_xor c__law_pile c__law_wins : List P → M P) : DS :=
    (sSeq (sSet 1 (dCall c__law_open_cells (aCons (dVar 0) aNil)))
    (sSeq (sFor (sRange1 (dC (.int 4))) (gName 2) (sSeq (sSet 4 (dCall c__law_of (aCons (dVar 1) (aCons (dNew (lLst (aCons (dC (.int 4)) (aCons (dC (.int 9)) (aCons (dC (.int 1000)) (aCons (dOp oPow (dC (.int 10)) (dC (.int 9))) aNil)))))) aNil))))
    (sSeq (sSet 5 (dL nTup (lComp (sRange1 (dCall c__law_pick (aCons (dVar 1) (aCons (dOp oIx (dNew (lLst (aCons (dC (.int 4)) (aCons (dC (.int 6)) (aCons (dC (.int 11)) aNil))))) (dCall (two bMin2) (aCons (dVar 2) (aCons (dC (.int 2)) aNil)))) aNil)))) (gName 15) tYes (dCall c__law_pick (aCons (dVar 1) (aCons (dOp oAdd (dVar 4) (dC (.int 1))) aNil))) [15])))
    (sSeq (sSet 5 (dIf (tAnd (tVal (dOp oEq (dCall c__law_pick (aCons (dVar 1) (aCons (dC (.int 3)) aNil))) (dC (.int 0)))) (tVal (dOp oLt (dCall (one bLen) (aCons (dVar 5) aNil)) (dC (.int 10))))) (dOp oAdd (dVar 5) (dTup (aCons (dCall c__law_xor (aCons (dVar 5) aNil)) aNil))) (dVar 5)))
    (sSeq (sSet 5 (dIf (tVal (dOp oLe (dR nMax (dOp oAdd (dNew (lV lId (dVar 5))) (dNew (lLst (aCons (dC (.int 0)) aNil))))) (dOp oPow (dC (.int 10)) (dC (.int 9))))) (dVar 5) (dSl (dVar 5) pNone (pSome (dUn uNeg (dC (.int 1)))))))
    (sSeq (sPar3 9 10 11 (aCons (dCall c__law_xor (aCons (dVar 5) aNil)) (aCons (dNew (lLst aNil)) (aCons (dCall (one bRepr) (aCons (dVar 5) aNil)) aNil))))
    (sSeq (sFor (sEnum (dVar 5)) (gTup 2 (gCons (gName 12) (gCons (gName 13) gNil))) (sSeq (sSet 14 (dCall c__law_xor (aCons (dOp oAdd (dSl (dVar 5) pNone (pSome (dVar 12))) (dSl (dVar 5) (pSome (dOp oAdd (dVar 12) (dC (.int 1)))) pNone)) aNil)))
    (sSet 10 (dOp oAdd (dVar 10) (dOp oMul (dNew (lLst (aCons (dTup (aCons (dVar 12) (aCons (dVar 14) aNil))) aNil))) (dCall (one bInt) (aCons (dOp oLt (dVar 14) (dVar 13)) aNil)))))))
    (sSeq (sSet 6 (dNew (lLst (aCons (dCall c_sum_of_piles (aCons (dVar 5) aNil)) (aCons (dCall c_first_wins_piles (aCons (dVar 5) aNil)) (aCons (dCall c_pile_moves_that_win (aCons (dVar 5) aNil)) aNil))))))
    (sSeq (sIf (tOr (tVal (dOp oNe (dCall (one bRepr) (aCons (dVar 6) aNil)) (dL nRepr (lLst (aCons (dVar 9) (aCons (dOp oNe (dVar 9) (dC (.int 0))) (aCons (dCall (one bTup) (aCons (dVar 10) aNil)) aNil))))))) (tVal (dOp oNe (dCall (one bRepr) (aCons (dVar 5) aNil)) (dVar 11)))) (sRet (dC (.bl false))) sNx)
    (sSeq (sIf (tAnd (tVal (dOp oNe (dVar 9) (dC (.int 0)))) (tVal (dOp oEq (dOp oMod (dCall (one bInt) (aCons (dCall (one bLen) (aCons (dVar 10) aNil)) aNil)) (dC (.int 2))) (dC (.int 0))))) (sRet (dC (.bl false))) sNx)
    (sSeq (sSet 7 (dL nTup (lThen sortP (lComp (sRange1 (dCall c__law_pick (aCons (dVar 1) (aCons (dC (.int 4)) aNil)))) (gName 15) tYes (dCall c__law_pick (aCons (dVar 1) (aCons (dC (.int 5)) aNil))) [15]))))
    (sSeq (sIf (tVal (dOp oNe (dCall (one bRepr) (aCons (dCall c_first_wins_piles (aCons (dVar 7) aNil)) aNil)) (dCall (one bRepr) (aCons (dCall c__law_wins (aCons (fun _ => newO (.dK [])) (aCons (dVar 7) aNil))) aNil)))) (sRet (dC (.bl false))) sNx)
    (sSeq (sSet 8 (dL nTup (lComp (sRange1 (dCall c__law_pick (aCons (dVar 1) (aCons (dC (.int 9)) aNil)))) (gName 15) tYes (dCall c__law_pick (aCons (dVar 1) (aCons (dC (.int 7)) aNil))) [15])))
    (sIf (tVal (dOp oNe (dCall (one bRepr) (aCons (dCall c_least_missing (aCons (dVar 8) aNil)) aNil)) (dCall (one bRepr) (aCons (dCall c__law_mex (aCons (dVar 8) aNil)) aNil)))) (sRet (dC (.bl false))) sNx))))))))))))))
    (sSeq (sSet 3 (dCall c__law_pick (aCons (dVar 1) (aCons (dC (.int 7)) aNil))))
    (sRet (dAnd (dOp oEq (dCall (one bRepr) (aCons (dCall c_pile_game (aCons (dVar 3) aNil)) aNil)) (dCall (one bRepr) (aCons (dCall c__law_pile (aCons (dVar 3) aNil)) aNil))) (dOp oEq (dCall c_pile_moves_that_win (aCons (dTup (aCons (dC (.int 3)) (aCons (dC (.int 4)) (aCons (dC (.int 5)) aNil)))) aNil)) (dTup (aCons (dTup (aCons (dC (.int 0)) (aCons (dC (.int 1)) aNil))) aNil))))))))
@[irreducible] def F_law : List P → M P := fnOf 1 16 (D_law F_least_missing F_sum_of_piles F_first_wins_piles F_pile_moves_that_win F_pile_game F__law_open_cells F__law_pick F__law_of F__law_mex F__law_xor (F__law_pile 40) (F__law_wins 40))
end K_k22

namespace K_k22
open PySem PySem.Spec PyProof.Rows L2 G
def top (i : Nat) : Stmt := PySem.Challenge.pw_eachgame_k22_piles_and_moves_that_win.main.body.getD i (.Pass ⟨0, 0, 0, 0⟩)
abbrev FnP (K : PySem.W.Frag) (x : Str) (st : Stmt) (f : Addr) (fd : FuncData) : Prop := FunD K x x (defArgs st) (defBody st) (defScope st) [] [] f fd
abbrev t_least_missing : Stmt := top 1
abbrev t_sum_of_piles : Stmt := top 2
abbrev t_first_wins_piles : Stmt := top 3
abbrev t_pile_moves_that_win : Stmt := top 4
abbrev t_pile_game : Stmt := top 5
abbrev t__law_open_cells : Stmt := top 7
abbrev t__law_pick : Stmt := top 8
abbrev t__law_of : Stmt := top 9
abbrev t__law_mex : Stmt := top 10
abbrev t__law_xor : Stmt := top 11
abbrev t__law_game : Stmt := top 12
abbrev t__law_pile : Stmt := top 13
abbrev t__law_wins : Stmt := top 14
abbrev t_law : Stmt := top 15
section
variable {Pr : Program} {w : World} {K : PySem.W.Frag} {mg : Str → Option Value} {base : Heap} {f : Addr} {fd : FuncData}
theorem sc_least_missing : FnScope ["numbers", "found"] ["numbers"] (defScope t_least_missing) := ⟨rfl, rfl, rfl, by decide +kernel, rfl, by decide +kernel, by decide +kernel⟩
theorem sc_sum_of_piles : FnScope ["piles", "found", "pile"] ["piles"] (defScope t_sum_of_piles) := ⟨rfl, rfl, rfl, by decide +kernel, rfl, by decide +kernel, by decide +kernel⟩
theorem sc_first_wins_piles : FnScope ["piles"] ["piles"] (defScope t_first_wins_piles) := ⟨rfl, rfl, rfl, by decide +kernel, rfl, by decide +kernel, by decide +kernel⟩
theorem sc_pile_moves_that_win : FnScope ["piles", "whole", "i", "pile"] ["piles"] (defScope t_pile_moves_that_win) := ⟨rfl, rfl, rfl, by decide +kernel, rfl, by decide +kernel, by decide +kernel⟩
theorem sc_pile_game : FnScope ["n", "found", "m", "some"] ["n"] (defScope t_pile_game) := ⟨rfl, rfl, rfl, by decide +kernel, rfl, by decide +kernel, by decide +kernel⟩
theorem sc__law_open_cells : FnScope ["script", "stirred", "cell", "cells"] ["script"] (defScope t__law_open_cells) := ⟨rfl, rfl, rfl, by decide +kernel, rfl, by decide +kernel, by decide +kernel⟩
theorem sc__law_pick : FnScope ["source", "most", "cells", "others", "lap", "stirred"] ["source", "most"] (defScope t__law_pick) := ⟨rfl, rfl, rfl, by decide +kernel, rfl, by decide +kernel, by decide +kernel⟩
theorem sc__law_of : FnScope ["source", "some"] ["source", "some"] (defScope t__law_of) := ⟨rfl, rfl, rfl, by decide +kernel, rfl, by decide +kernel, by decide +kernel⟩
theorem sc__law_mex : FnScope ["numbers", "found"] ["numbers"] (defScope t__law_mex) := ⟨rfl, rfl, rfl, by decide +kernel, rfl, by decide +kernel, by decide +kernel⟩
theorem sc__law_xor : FnScope ["numbers", "found", "part", "one"] ["numbers"] (defScope t__law_xor) := ⟨rfl, rfl, rfl, by decide +kernel, rfl, by decide +kernel, by decide +kernel⟩
theorem sc__law_game : FnScope ["lefts", "rights", "rows", "some", "row", "j", "one"] ["lefts", "rights"] (defScope t__law_game) := ⟨rfl, rfl, rfl, by decide +kernel, rfl, by decide +kernel, by decide +kernel⟩
theorem sc__law_pile : FnScope ["n", "some", "m"] ["n"] (defScope t__law_pile) := ⟨rfl, rfl, rfl, by decide +kernel, rfl, by decide +kernel, by decide +kernel⟩
theorem sc__law_wins : FnScope ["known", "piles", "i", "late", "m", "one"] ["known", "piles"] (defScope t__law_wins) := ⟨rfl, rfl, rfl, by decide +kernel, rfl, by decide +kernel, by decide +kernel⟩
theorem sc_law : FnScope ["script", "source", "lap", "n", "most", "piles", "told", "few", "numbers", "whole", "moves", "shown", "i", "pile", "rest", "turn"] ["script"] (defScope t_law) := ⟨rfl, rfl, rfl, by decide +kernel, rfl, by decide +kernel, by decide +kernel⟩
theorem ok_least_missing (P_least_missing : FnP K "least_missing" t_least_missing f fd) : FnG Pr w K mg base 1 f fd ["numbers"] F_least_missing := by
  rw [F_least_missing]
  refine fnG_of P_least_missing sc_least_missing rfl rfl fun cdv A outer s H E => ?_
  intro X hr ok
  exact (pss_consG (ps_setG ok (i := 1) pd_int)
    (pss_consG (ps_whileG PassesOwn.never (pt_cmpG (ob_in ok) (pd_var (i := 1)) (pd_var (i := 0))) (pss_oneG (ps_setG ok (i := 1) (pd_op ob_add (pd_var (i := 1)) pd_int))))
    (pss_oneG (ps_retG (pd_var (i := 1))))))
theorem ok_sum_of_piles (P_sum_of_piles : FnP K "sum_of_piles" t_sum_of_piles f fd) : FnG Pr w K mg base 1 f fd ["piles"] F_sum_of_piles := by
  rw [F_sum_of_piles]
  refine fnG_of P_sum_of_piles sc_sum_of_piles rfl rfl fun cdv A outer s H E => ?_
  intro X hr ok
  exact (pss_consG (ps_setG ok (i := 1) pd_int)
    (pss_consG (ps_forG ok PassesOwn.never (pdi_of (pd_var (i := 0))) (pdg_name ok (i := 2)) (nx_name 2) (pss_oneG (ps_setG ok (i := 1) (pd_op ob_xor (pd_var (i := 1)) (pd_var (i := 2))))))
    (pss_oneG (ps_retG (pd_var (i := 1))))))
theorem ok_first_wins_piles (P_first_wins_piles : FnP K "first_wins_piles" t_first_wins_piles f fd) (h_sum_of_piles : Held Pr w K mg base 1 "sum_of_piles" 1 F_sum_of_piles) : FnG Pr w K mg base 2 f fd ["piles"] F_first_wins_piles := by
  have h_sum_of_piles := h_sum_of_piles.mono (k := 1) (by decide)
  rw [F_first_wins_piles]
  refine fnG_of P_first_wins_piles sc_first_wins_piles rfl rfl fun cdv A outer s H E => ?_
  intro X hr ok
  exact (pss_oneG (ps_retG (pd_cmp (ob_ne ok) (pd_call h_sum_of_piles hr ok (pda_cons (pd_var (i := 0)) pda_nil) rfl (al_cons al_nil)) pd_int)))
theorem ok_pile_moves_that_win (P_pile_moves_that_win : FnP K "pile_moves_that_win" t_pile_moves_that_win f fd) (m_enumerate : mg "enumerate" = none) (m_tuple : mg "tuple" = none) (h_sum_of_piles : Held Pr w K mg base 1 "sum_of_piles" 1 F_sum_of_piles) : FnG Pr w K mg base 2 f fd ["piles"] F_pile_moves_that_win := by
  have h_sum_of_piles := h_sum_of_piles.mono (k := 1) (by decide)
  rw [F_pile_moves_that_win]
  refine fnG_of P_pile_moves_that_win sc_pile_moves_that_win rfl rfl fun cdv A outer s H E => ?_
  intro X hr ok
  exact (pss_consG (ps_setG ok (i := 1) (pd_call h_sum_of_piles hr ok (pda_cons (pd_var (i := 0)) pda_nil) rfl (al_cons al_nil)))
    (pss_oneG (ps_retG (pd_nL cn_tup (.inr ⟨_, rfl⟩) m_tuple (pdl_comp ok (pdi_enum m_enumerate (pd_var (i := 0))) (blkOk_by (own := [("i", 2), ("pile", 3)]) (by kernel_rfl)) (fun _ _ _ _ _ => (pdg_tup ok.blk (pdgs_cons (pdg_name ok.blk (i := 2)) (pdgs_cons (pdg_name ok.blk (i := 3)) pdgs_nil)))) (fun _ _ _ _ _ => (pts_oneG (pt_cmpG (ob_lt ok.blk) (pd_op ob_xor (pd_var (i := 3)) (pd_var (i := 1))) (pd_var (i := 3))))) (fun _ _ _ _ _ => (pd_tup (pda_cons (pd_var (i := 2)) (pda_cons (pd_op ob_xor (pd_var (i := 3)) (pd_var (i := 1))) pda_nil)))))))))
theorem ok_pile_game (P_pile_game : FnP K "pile_game" t_pile_game f fd) (m_range : mg "range" = none) (m_sorted : mg "sorted" = none) (m_tuple : mg "tuple" = none) : FnG Pr w K mg base 1 f fd ["n"] F_pile_game := by
  rw [F_pile_game]
  refine fnG_of P_pile_game sc_pile_game rfl rfl fun cdv A outer s H E => ?_
  intro X hr ok
  exact (pss_consG (ps_setG ok (i := 1) (pd_new (pdl_lst pda_nil)))
    (pss_consG (ps_forG ok PassesOwn.never (pdi_range1 m_range (pd_op ob_add (pd_var (i := 0)) pd_int)) (pdg_name ok (i := 2)) (nx_name 2) (pss_consG (ps_setG ok (i := 3) (pd_nL cn_tup (.inr ⟨_, rfl⟩) m_tuple (pdl_nV (cl_sorted ok) (.inl ⟨_, rfl⟩) m_sorted (pd_var (i := 1)))))
    (pss_oneG (ps_setG ok (i := 1) (pd_new (pdl_lst (pda_star (pd_var (i := 1)) (pda_cons (pd_tup (pda_cons (pd_var (i := 3)) (pda_cons (pd_var (i := 3)) pda_nil))) pda_nil))))))))
    (pss_oneG (ps_retG (pd_ix ok (pd_var (i := 1)) (pd_var (i := 0)))))))
theorem ok__law_open_cells (P__law_open_cells : FnP K "_law_open_cells" t__law_open_cells f fd) (m_abs : mg "abs" = none) (m_int : mg "int" = none) : FnG Pr w K mg base 1 f fd ["script"] F__law_open_cells := by
  rw [F__law_open_cells]
  refine fnG_of P__law_open_cells sc__law_open_cells rfl rfl fun cdv A outer s H E => ?_
  intro X hr ok
  exact (pss_consG (ps_setG ok (i := 1) pd_int)
    (pss_consG (ps_forG ok PassesOwn.never (pdi_of (pd_var (i := 0))) (pdg_name ok (i := 2)) (nx_name 2) (pss_oneG (ps_setG ok (i := 1) (pd_op ob_mod (pd_callTy cb_int m_int (pda_cons (pd_op ob_add (pd_op ob_add (pd_op ob_mul (pd_var (i := 1)) pd_int) (pd_op ob_mul (pd_var (i := 2)) pd_int)) pd_int) pda_nil)) pd_int))))
    (pss_consG (ps_setLcG ok (i := 3) (pdi_of (pd_var (i := 0))) (blkOk_by (own := [("cell", 2)]) (by kernel_rfl)) (fun _ _ _ _ _ => (pdg_name ok.blk (i := 2))) (fun _ _ _ _ _ => pts_noneG) (fun _ _ _ _ _ => (pd_callB cb_abs m_abs (pda_cons (pd_var (i := 2)) pda_nil))))
    (pss_oneG (ps_retG (pd_dict (pdk_cons pd_str (pd_rev (pd_var (i := 3))) (pdk_cons pd_str pd_int (pdk_cons pd_str (pd_var (i := 1)) (pdk_cons pd_str pd_int pdk_nil))))))))))
theorem ok__law_pick (P__law_pick : FnP K "_law_pick" t__law_pick f fd) (m_int : mg "int" = none) (m_len : mg "len" = none) : FnG Pr w K mg base 1 f fd ["source", "most"] F__law_pick := by
  rw [F__law_pick]
  refine fnG_of P__law_pick sc__law_pick rfl rfl fun cdv A outer s H E => ?_
  intro X hr ok
  exact (pss_consG (ps_ifG (pt_cmpG (ob_lt ok) (pd_var (i := 1)) pd_int) (pss_oneG (ps_retG pd_int)) pss_nilG)
    (pss_consG (ps_setG ok (i := 2) (pd_ix ok (pd_var (i := 0)) pd_str))
    (pss_consG (ps_whileG PassesOwn.never (PDW.pt (pw_andG (pt_cmpG (ob_lt ok) (pd_ix ok (pd_var (i := 0)) pd_str) pd_int) (pw_and1G (pt_cmpG ob_gt (pd_callB cb_len m_len (pda_cons (pd_var (i := 2)) pda_nil)) pd_int)))) (pss_oneG (ps_putG ok (pd_pop (pd_var (i := 2))) (pd_var (i := 0)) pd_str)))
    (pss_consG (ps_setG ok (i := 3) (pd_ix ok (pd_var (i := 0)) pd_str))
    (pss_consG (ps_ifG (pt_cmpG ob_gt (pd_var (i := 3)) pd_int) (pss_consG (ps_putG ok (pd_op ob_div (pd_var (i := 3)) (pd_var (i := 1))) (pd_var (i := 0)) pd_str)
    (pss_oneG (ps_retG (pd_op ob_mod (pd_callTy cb_int m_int (pda_cons (pd_var (i := 3)) pda_nil)) (pd_var (i := 1)))))) pss_nilG)
    (pss_consG (ps_putG ok (pd_op ob_add (pd_ix ok (pd_var (i := 0)) pd_str) pd_int) (pd_var (i := 0)) pd_str)
    (pss_consG (ps_setG ok (i := 4) (pd_ix ok (pd_var (i := 0)) pd_str))
    (pss_consG (ps_setG ok (i := 5) (pd_op ob_mod (pd_callTy cb_int m_int (pda_cons (pd_op ob_add (pd_ix ok (pd_var (i := 0)) pd_str) (pd_op ob_mul (pd_var (i := 4)) pd_int)) pda_nil)) pd_int))
    (pss_consG (ps_setG ok (i := 5) (pd_op ob_mod (pd_callTy cb_int m_int (pda_cons (pd_op ob_add (pd_op ob_mul (pd_var (i := 5)) (pd_var (i := 5))) (pd_op ob_mul (pd_var (i := 4)) pd_int)) pda_nil)) pd_int))
    (pss_oneG (ps_retG (pd_op ob_mod (pd_callTy cb_int m_int (pda_cons (pd_op ob_div (pd_var (i := 5)) pd_int) pda_nil)) (pd_var (i := 1))))))))))))))
theorem ok__law_of (P__law_of : FnP K "_law_of" t__law_of f fd) (m_len : mg "len" = none) (h__law_pick : Held Pr w K mg base 1 "_law_pick" 2 F__law_pick) : FnG Pr w K mg base 2 f fd ["source", "some"] F__law_of := by
  have h__law_pick := h__law_pick.mono (k := 1) (by decide)
  rw [F__law_of]
  refine fnG_of P__law_of sc__law_of rfl rfl fun cdv A outer s H E => ?_
  intro X hr ok
  exact (pss_oneG (ps_retG (pd_ix ok (pd_var (i := 1)) (pd_call h__law_pick hr ok (pda_cons (pd_var (i := 0)) (pda_cons (pd_callB cb_len m_len (pda_cons (pd_var (i := 1)) pda_nil)) pda_nil)) rfl (al_cons (al_cons al_nil))))))
theorem ok__law_mex (P__law_mex : FnP K "_law_mex" t__law_mex f fd) : FnG Pr w K mg base 1 f fd ["numbers"] F__law_mex := by
  rw [F__law_mex]
  refine fnG_of P__law_mex sc__law_mex rfl rfl fun cdv A outer s H E => ?_
  intro X hr ok
  exact (pss_consG (ps_setG ok (i := 1) pd_int)
    (pss_consG (ps_whileG PassesOwn.never (pt_cmpG (ob_in ok) (pd_var (i := 1)) (pd_var (i := 0))) (pss_oneG (ps_setG ok (i := 1) (pd_op ob_add (pd_var (i := 1)) pd_int))))
    (pss_oneG (ps_retG (pd_var (i := 1))))))
theorem ok__law_xor (P__law_xor : FnP K "_law_xor" t__law_xor f fd) (m_int : mg "int" = none) (m_len : mg "len" = none) (m_list : mg "list" = none) (m_max : mg "max" = none) : FnG Pr w K mg base 1 f fd ["numbers"] F__law_xor := by
  rw [F__law_xor]
  refine fnG_of P__law_xor sc__law_xor rfl rfl fun cdv A outer s H E => ?_
  intro X hr ok
  exact (pss_consG (ps_asgG (pd_tup (pda_cons pd_int (pda_cons pd_int pda_nil))) (pdg_tup ok (pdgs_cons (pdg_name ok (i := 1)) (pdgs_cons (pdg_name ok (i := 2)) pdgs_nil))) (nx_tup (nx_cons (nx_name 1) (nx_cons (nx_name 2) nx_nil))))
    (pss_consG (ps_whileG PassesOwn.never (pt_cmpG ob_le (pd_var (i := 2)) (pd_nR (cn_max ok) (.inl ⟨_, rfl⟩) m_max (pd_op ob_add (pd_new (pdl_nV cl_list (.inr ⟨_, rfl⟩) m_list (pd_var (i := 0)))) (pd_new (pdl_lst (pda_cons pd_int pda_nil)))))) (pss_consG (ps_setG ok (i := 1) (pd_op ob_add (pd_var (i := 1)) (pd_op ob_mul (pd_var (i := 2)) (pd_op ob_mod (pd_callTy cb_int m_int (pda_cons (pd_nL (nOf.toL cn_len) (.inl ⟨_, rfl⟩) m_len (pdl_comp ok (pdi_of (pd_var (i := 0))) (blkOk_by (own := [("one", 3)]) (by kernel_rfl)) (fun _ _ _ _ _ => (pdg_name ok.blk (i := 3))) (fun _ _ _ _ _ => (pts_oneG (pt_cmpG (ob_eq ok.blk) (pd_op ob_mod (pd_callTy cb_int m_int (pda_cons (pd_op ob_div (pd_var (i := 3)) (pd_var (i := 2))) pda_nil)) pd_int) pd_int))) (fun _ _ _ _ _ => pd_int))) pda_nil)) pd_int))))
    (pss_oneG (ps_setG ok (i := 2) (pd_op ob_mul pd_int (pd_var (i := 2)))))))
    (pss_oneG (ps_retG (pd_var (i := 1))))))
theorem ok__law_game (P__law_game : FnP K "_law_game" t__law_game f fd) (m_enumerate : mg "enumerate" = none) (m_sorted : mg "sorted" = none) (m_tuple : mg "tuple" = none) : FnG Pr w K mg base 1 f fd ["lefts", "rights"] F__law_game := by
  rw [F__law_game]
  refine fnG_of P__law_game sc__law_game rfl rfl fun cdv A outer s H E => ?_
  intro X hr ok
  exact (pss_consG (ps_setG ok (i := 2) (pd_new (pdl_lst pda_nil)))
    (pss_consG (ps_forG ok PassesOwn.never (pdi_of (pd_tup (pda_cons (pd_var (i := 0)) (pda_cons (pd_var (i := 1)) pda_nil)))) (pdg_name ok (i := 3)) (nx_name 3) (pss_consG (ps_setG ok (i := 4) (pd_new (pdl_nV (cl_sorted ok) (.inl ⟨_, rfl⟩) m_sorted (pd_var (i := 3)))))
    (pss_oneG (ps_exprG (pd_append (pd_var (i := 2)) (pd_nL cn_tup (.inr ⟨_, rfl⟩) m_tuple (pdl_comp ok (pdi_enum m_enumerate (pd_var (i := 4))) (blkOk_by (own := [("j", 5), ("one", 6)]) (by kernel_rfl)) (fun _ _ _ _ _ => (pdg_tup ok.blk (pdgs_cons (pdg_name ok.blk (i := 5)) (pdgs_cons (pdg_name ok.blk (i := 6)) pdgs_nil)))) (fun _ _ _ _ _ => (pts_oneG (PDW.pt (pw_orG (pt_cmpG (ob_eq ok.blk) (pd_var (i := 5)) pd_int) (pw_or1G (pt_cmpG (ob_ne ok.blk) (pd_var (i := 6)) (pd_ix ok.blk (pd_var (i := 4)) (pd_op ob_sub (pd_var (i := 5)) pd_int)))))))) (fun _ _ _ _ _ => (pd_var (i := 6))))))))))
    (pss_oneG (ps_retG (pd_tup (pda_cons (pd_ix ok (pd_var (i := 2)) pd_int) (pda_cons (pd_ix ok (pd_var (i := 2)) pd_int) pda_nil)))))))
theorem ok__law_pile {f__law_pile : Addr} {fd__law_pile : FuncData} (P__law_pile : FnP K "_law_pile" t__law_pile f__law_pile fd__law_pile) (g__law_pile : mg "_law_pile" = some (.ref f__law_pile)) (m_range : mg "range" = none) (h__law_game : Held Pr w K mg base 1 "_law_game" 2 F__law_game) : ∀ n : Nat, FnG Pr w K mg base (1 + n) f__law_pile fd__law_pile ["n"] (F__law_pile n)
  | 0 => (by rw [F__law_pile_0]; exact ⟨fun _ _ _ _ _ _ _ _ _ _ _ _ _ _ ⟨_, _, _, _, _, g⟩ => False.elim g⟩)
  | n + 1 => by
    have ih := ok__law_pile P__law_pile g__law_pile m_range h__law_game n
    have i__law_pile := ih
    have h__law_pile : Held Pr w K mg base (1 + n) "_law_pile" 1 (F__law_pile n) := ⟨_, _, ["n"], g__law_pile, P__law_pile.kp, P__law_pile.bindsN fun _ _ _ _ _ _ us hl => match us, hl with | [_], _ => rfl, rfl, i__law_pile⟩
    have h__law_game := h__law_game.mono (k := 1 + n) (Nat.le_trans (by decide) (Nat.le_add_right 1 n))
    · rw [F__law_pile_s]
      refine fnG_of P__law_pile sc__law_pile rfl rfl fun cdv A outer s H E => ?_
      intro X hr ok
      exact (pss_consG (ps_setLcG ok (i := 1) (pdi_range1 m_range (pd_var (i := 0))) (blkOk_by (own := [("m", 2)]) (by kernel_rfl)) (fun _ _ _ _ _ => (pdg_name ok.blk (i := 2))) (fun _ _ _ _ _ => pts_noneG) (fun _ _ _ _ _ => (pd_call h__law_pile hr ok.blk (pda_cons (pd_var (i := 2)) pda_nil) rfl (al_cons al_nil))))
    (pss_oneG (ps_retG (pd_call h__law_game hr ok (pda_cons (pd_var (i := 1)) (pda_cons (pd_var (i := 1)) pda_nil)) rfl (al_cons (al_cons al_nil))))))
theorem ok__law_wins {f__law_wins : Addr} {fd__law_wins : FuncData} (P__law_wins : FnP K "_law_wins" t__law_wins f__law_wins fd__law_wins) (g__law_wins : mg "_law_wins" = some (.ref f__law_wins)) (m_all : mg "all" = none) (m_len : mg "len" = none) (m_range : mg "range" = none) (m_sorted : mg "sorted" = none) (m_tuple : mg "tuple" = none) : ∀ n : Nat, FnG Pr w K mg base (0 + n) f__law_wins fd__law_wins ["known", "piles"] (F__law_wins n)
  | 0 => (by rw [F__law_wins_0]; exact ⟨fun _ _ _ _ _ _ _ _ _ _ _ _ _ _ ⟨_, _, _, _, _, g⟩ => False.elim g⟩)
  | n + 1 => by
    have ih := ok__law_wins P__law_wins g__law_wins m_all m_len m_range m_sorted m_tuple n
    have i__law_wins := ih
    have h__law_wins : Held Pr w K mg base (0 + n) "_law_wins" 2 (F__law_wins n) := ⟨_, _, ["known", "piles"], g__law_wins, P__law_wins.kp, P__law_wins.bindsN fun _ _ _ _ _ _ us hl => match us, hl with | [_, _], _ => rfl, rfl, i__law_wins⟩
    · rw [F__law_wins_s]
      refine fnG_of P__law_wins sc__law_wins rfl rfl fun cdv A outer s H E => ?_
      intro X hr ok
      exact (pss_consG (ps_ifG (pt_cmpG (ob_notIn ok) (pd_var (i := 1)) (pd_var (i := 0))) (pss_consG (ps_putG ok pd_bl (pd_var (i := 0)) (pd_var (i := 1)))
    (pss_oneG (ps_forG ok PassesOwn.never (pdi_range1 m_range (pd_callB cb_len m_len (pda_cons (pd_var (i := 1)) pda_nil))) (pdg_name ok (i := 2)) (nx_name 2) (pss_consG (ps_setLcG ok (i := 3) (pdi_range1 m_range (pd_ix ok (pd_var (i := 1)) (pd_var (i := 2)))) (blkOk_by (own := [("m", 4)]) (by kernel_rfl)) (fun _ _ _ _ _ => (pdg_name ok.blk (i := 4))) (fun _ _ _ _ _ => pts_noneG) (fun _ _ _ _ _ => (pd_nL cn_tup (.inr ⟨_, rfl⟩) m_tuple (pdl_nV (cl_sorted ok.blk) (.inl ⟨_, rfl⟩) m_sorted (pd_op ob_add (pd_op ob_add (pd_sl (pd_var (i := 1)) pdo_none (pdo_some (pd_var (i := 2)))) (pd_tup (pda_cons (pd_var (i := 4)) pda_nil))) (pd_sl (pd_var (i := 1)) (pdo_some (pd_op ob_add (pd_var (i := 2)) pd_int)) pdo_none))))))
    (pss_oneG (ps_putG ok (pd_or (pd_ix ok (pd_var (i := 0)) (pd_var (i := 1))) (pd_one (pd_not (pd_nL (cn_all ok) (.inl ⟨_, rfl⟩) m_all (pdl_comp ok (pdi_of (pd_var (i := 3))) (blkOk_by (own := [("one", 5)]) (by kernel_rfl)) (fun _ _ _ _ _ => (pdg_name ok.blk (i := 5))) (fun _ _ _ _ _ => pts_noneG) (fun _ _ _ _ _ => (pd_call h__law_wins hr ok.blk (pda_cons (pd_var (i := 0)) (pda_cons (pd_var (i := 5)) pda_nil)) rfl (al_cons (al_cons al_nil))))))))) (pd_var (i := 0)) (pd_var (i := 1)))))))) pss_nilG)
    (pss_oneG (ps_retG (pd_ix ok (pd_var (i := 0)) (pd_var (i := 1))))))
theorem ok_law (P_law : FnP K "law" t_law f fd) (m_enumerate : mg "enumerate" = none) (m_int : mg "int" = none) (m_len : mg "len" = none) (m_list : mg "list" = none) (m_max : mg "max" = none) (m_min : mg "min" = none) (m_range : mg "range" = none) (m_repr : mg "repr" = none) (m_sorted : mg "sorted" = none) (m_tuple : mg "tuple" = none) (h_least_missing : Held Pr w K mg base 1 "least_missing" 1 F_least_missing) (h_sum_of_piles : Held Pr w K mg base 1 "sum_of_piles" 1 F_sum_of_piles) (h_first_wins_piles : Held Pr w K mg base 2 "first_wins_piles" 1 F_first_wins_piles) (h_pile_moves_that_win : Held Pr w K mg base 2 "pile_moves_that_win" 1 F_pile_moves_that_win) (h_pile_game : Held Pr w K mg base 1 "pile_game" 1 F_pile_game) (h__law_open_cells : Held Pr w K mg base 1 "_law_open_cells" 1 F__law_open_cells) (h__law_pick : Held Pr w K mg base 1 "_law_pick" 2 F__law_pick) (h__law_of : Held Pr w K mg base 2 "_law_of" 2 F__law_of) (h__law_mex : Held Pr w K mg base 1 "_law_mex" 1 F__law_mex) (h__law_xor : Held Pr w K mg base 1 "_law_xor" 1 F__law_xor) (h__law_pile : Held Pr w K mg base 41 "_law_pile" 1 (F__law_pile 40)) (h__law_wins : Held Pr w K mg base 40 "_law_wins" 2 (F__law_wins 40)) : FnG Pr w K mg base 42 f fd ["script"] F_law := by
  have h_least_missing := h_least_missing.mono (k := 41) (by decide)
  have h_sum_of_piles := h_sum_of_piles.mono (k := 41) (by decide)
  have h_first_wins_piles := h_first_wins_piles.mono (k := 41) (by decide)
  have h_pile_moves_that_win := h_pile_moves_that_win.mono (k := 41) (by decide)
  have h_pile_game := h_pile_game.mono (k := 41) (by decide)
  have h__law_open_cells := h__law_open_cells.mono (k := 41) (by decide)
  have h__law_pick := h__law_pick.mono (k := 41) (by decide)
  have h__law_of := h__law_of.mono (k := 41) (by decide)
  have h__law_mex := h__law_mex.mono (k := 41) (by decide)
  have h__law_xor := h__law_xor.mono (k := 41) (by decide)
  have h__law_pile := h__law_pile.mono (k := 41) (by decide)
  have h__law_wins := h__law_wins.mono (k := 41) (by decide)
  rw [F_law]
  refine fnG_of P_law sc_law rfl rfl fun cdv A outer s H E => ?_
  intro X hr ok
  exact (pss_consG (ps_setG ok (i := 1) (pd_call h__law_open_cells hr ok (pda_cons (pd_var (i := 0)) pda_nil) rfl (al_cons al_nil)))
    (pss_consG (ps_forG ok PassesOwn.never (pdi_range1 m_range pd_int) (pdg_name ok (i := 2)) (nx_name 2) (pss_consG (ps_setG ok (i := 4) (pd_call h__law_of hr ok (pda_cons (pd_var (i := 1)) (pda_cons (pd_new (pdl_lst (pda_cons pd_int (pda_cons pd_int (pda_cons pd_int (pda_cons (pd_op ob_pow pd_int pd_int) pda_nil)))))) pda_nil)) rfl (al_cons (al_cons al_nil))))
    (pss_consG (ps_setG ok (i := 5) (pd_nL cn_tup (.inr ⟨_, rfl⟩) m_tuple (pdl_comp ok (pdi_range1 m_range (pd_call h__law_pick hr ok (pda_cons (pd_var (i := 1)) (pda_cons (pd_ix ok (pd_new (pdl_lst (pda_cons pd_int (pda_cons pd_int (pda_cons pd_int pda_nil))))) (pd_callB (cb_min2 ok) m_min (pda_cons (pd_var (i := 2)) (pda_cons pd_int pda_nil)))) pda_nil)) rfl (al_cons (al_cons al_nil)))) (blkOk_by (own := [("turn", 15)]) (by kernel_rfl)) (fun _ _ _ _ _ => (pdg_name ok.blk (i := 15))) (fun _ _ _ _ _ => pts_noneG) (fun _ _ _ _ _ => (pd_call h__law_pick hr ok.blk (pda_cons (pd_var (i := 1)) (pda_cons (pd_op ob_add (pd_var (i := 4)) pd_int) pda_nil)) rfl (al_cons (al_cons al_nil)))))))
    (pss_consG (ps_setG ok (i := 5) (pd_if (PDW.pt (pw_andG (pt_cmpG (ob_eq ok) (pd_call h__law_pick hr ok (pda_cons (pd_var (i := 1)) (pda_cons pd_int pda_nil)) rfl (al_cons (al_cons al_nil))) pd_int) (pw_and1G (pt_cmpG (ob_lt ok) (pd_callB cb_len m_len (pda_cons (pd_var (i := 5)) pda_nil)) pd_int)))) (pd_op ob_add (pd_var (i := 5)) (pd_tup (pda_cons (pd_call h__law_xor hr ok (pda_cons (pd_var (i := 5)) pda_nil) rfl (al_cons al_nil)) pda_nil))) (pd_var (i := 5))))
    (pss_consG (ps_setG ok (i := 5) (pd_if (pt_cmpG ob_le (pd_nR (cn_max ok) (.inl ⟨_, rfl⟩) m_max (pd_op ob_add (pd_new (pdl_nV cl_list (.inr ⟨_, rfl⟩) m_list (pd_var (i := 5)))) (pd_new (pdl_lst (pda_cons pd_int pda_nil))))) (pd_op ob_pow pd_int pd_int)) (pd_var (i := 5)) (pd_sl (pd_var (i := 5)) pdo_none (pdo_some (pd_un un_negG pd_int)))))
    (pss_consG (ps_par3G ok (i := 9) (j := 10) (l := 11) (pda_cons (pd_call h__law_xor hr ok (pda_cons (pd_var (i := 5)) pda_nil) rfl (al_cons al_nil)) (pda_cons (pd_new (pdl_lst pda_nil)) (pda_cons (pd_callB (cb_repr ok) m_repr (pda_cons (pd_var (i := 5)) pda_nil)) pda_nil))))
    (pss_consG (ps_forG ok PassesOwn.never (pdi_enum m_enumerate (pd_var (i := 5))) (pdg_tup ok (pdgs_cons (pdg_name ok (i := 12)) (pdgs_cons (pdg_name ok (i := 13)) pdgs_nil))) (nx_tup (nx_cons (nx_name 12) (nx_cons (nx_name 13) nx_nil))) (pss_consG (ps_setG ok (i := 14) (pd_call h__law_xor hr ok (pda_cons (pd_op ob_add (pd_sl (pd_var (i := 5)) pdo_none (pdo_some (pd_var (i := 12)))) (pd_sl (pd_var (i := 5)) (pdo_some (pd_op ob_add (pd_var (i := 12)) pd_int)) pdo_none)) pda_nil) rfl (al_cons al_nil)))
    (pss_oneG (ps_setG ok (i := 10) (pd_op ob_add (pd_var (i := 10)) (pd_op ob_mul (pd_new (pdl_lst (pda_cons (pd_tup (pda_cons (pd_var (i := 12)) (pda_cons (pd_var (i := 14)) pda_nil))) pda_nil))) (pd_callTy cb_int m_int (pda_cons (pd_cmp (ob_lt ok) (pd_var (i := 14)) (pd_var (i := 13))) pda_nil))))))))
    (pss_consG (ps_setG ok (i := 6) (pd_new (pdl_lst (pda_cons (pd_call h_sum_of_piles hr ok (pda_cons (pd_var (i := 5)) pda_nil) rfl (al_cons al_nil)) (pda_cons (pd_call h_first_wins_piles hr ok (pda_cons (pd_var (i := 5)) pda_nil) rfl (al_cons al_nil)) (pda_cons (pd_call h_pile_moves_that_win hr ok (pda_cons (pd_var (i := 5)) pda_nil) rfl (al_cons al_nil)) pda_nil))))))
    (pss_consG (ps_ifG (PDW.pt (pw_orG (pt_cmpG (ob_ne ok) (pd_callB (cb_repr ok) m_repr (pda_cons (pd_var (i := 6)) pda_nil)) (pd_nL (cn_repr ok) (.inl ⟨_, rfl⟩) m_repr (pdl_lst (pda_cons (pd_var (i := 9)) (pda_cons (pd_cmp (ob_ne ok) (pd_var (i := 9)) pd_int) (pda_cons (pd_callTy cb_tup m_tuple (pda_cons (pd_var (i := 10)) pda_nil)) pda_nil)))))) (pw_or1G (pt_cmpG (ob_ne ok) (pd_callB (cb_repr ok) m_repr (pda_cons (pd_var (i := 5)) pda_nil)) (pd_var (i := 11)))))) (pss_oneG (ps_retG pd_bl)) pss_nilG)
    (pss_consG (ps_ifG (PDW.pt (pw_andG (pt_cmpG (ob_ne ok) (pd_var (i := 9)) pd_int) (pw_and1G (pt_cmpG (ob_eq ok) (pd_op ob_mod (pd_callTy cb_int m_int (pda_cons (pd_callB cb_len m_len (pda_cons (pd_var (i := 10)) pda_nil)) pda_nil)) pd_int) pd_int)))) (pss_oneG (ps_retG pd_bl)) pss_nilG)
    (pss_consG (ps_setG ok (i := 7) (pd_nL cn_tup (.inr ⟨_, rfl⟩) m_tuple (pdl_nL (nOfL.toL (cl_sorted ok)) (.inl ⟨_, rfl⟩) m_sorted (pdl_comp ok (pdi_range1 m_range (pd_call h__law_pick hr ok (pda_cons (pd_var (i := 1)) (pda_cons pd_int pda_nil)) rfl (al_cons (al_cons al_nil)))) (blkOk_by (own := [("turn", 15)]) (by kernel_rfl)) (fun _ _ _ _ _ => (pdg_name ok.blk (i := 15))) (fun _ _ _ _ _ => pts_noneG) (fun _ _ _ _ _ => (pd_call h__law_pick hr ok.blk (pda_cons (pd_var (i := 1)) (pda_cons pd_int pda_nil)) rfl (al_cons (al_cons al_nil))))))))
    (pss_consG (ps_ifG (pt_cmpG (ob_ne ok) (pd_callB (cb_repr ok) m_repr (pda_cons (pd_call h_first_wins_piles hr ok (pda_cons (pd_var (i := 7)) pda_nil) rfl (al_cons al_nil)) pda_nil)) (pd_callB (cb_repr ok) m_repr (pda_cons (pd_call h__law_wins hr ok (pda_cons pd_dnew (pda_cons (pd_var (i := 7)) pda_nil)) rfl (al_cons (al_cons al_nil))) pda_nil))) (pss_oneG (ps_retG pd_bl)) pss_nilG)
    (pss_consG (ps_setG ok (i := 8) (pd_nL cn_tup (.inr ⟨_, rfl⟩) m_tuple (pdl_comp ok (pdi_range1 m_range (pd_call h__law_pick hr ok (pda_cons (pd_var (i := 1)) (pda_cons pd_int pda_nil)) rfl (al_cons (al_cons al_nil)))) (blkOk_by (own := [("turn", 15)]) (by kernel_rfl)) (fun _ _ _ _ _ => (pdg_name ok.blk (i := 15))) (fun _ _ _ _ _ => pts_noneG) (fun _ _ _ _ _ => (pd_call h__law_pick hr ok.blk (pda_cons (pd_var (i := 1)) (pda_cons pd_int pda_nil)) rfl (al_cons (al_cons al_nil)))))))
    (pss_oneG (ps_ifG (pt_cmpG (ob_ne ok) (pd_callB (cb_repr ok) m_repr (pda_cons (pd_call h_least_missing hr ok (pda_cons (pd_var (i := 8)) pda_nil) rfl (al_cons al_nil)) pda_nil)) (pd_callB (cb_repr ok) m_repr (pda_cons (pd_call h__law_mex hr ok (pda_cons (pd_var (i := 8)) pda_nil) rfl (al_cons al_nil)) pda_nil))) (pss_oneG (ps_retG pd_bl)) pss_nilG)))))))))))))))
    (pss_consG (ps_setG ok (i := 3) (pd_call h__law_pick hr ok (pda_cons (pd_var (i := 1)) (pda_cons pd_int pda_nil)) rfl (al_cons (al_cons al_nil))))
    (pss_oneG (ps_retG (pd_and (pd_cmp (ob_eq ok) (pd_callB (cb_repr ok) m_repr (pda_cons (pd_call h_pile_game hr ok (pda_cons (pd_var (i := 3)) pda_nil) rfl (al_cons al_nil)) pda_nil)) (pd_callB (cb_repr ok) m_repr (pda_cons (pd_call h__law_pile hr ok (pda_cons (pd_var (i := 3)) pda_nil) rfl (al_cons al_nil)) pda_nil))) (pd_one (pd_cmp (ob_eq ok) (pd_call h_pile_moves_that_win hr ok (pda_cons (pd_tup (pda_cons pd_int (pda_cons pd_int (pda_cons pd_int pda_nil)))) pda_nil) rfl (al_cons al_nil)) (pd_tup (pda_cons (pd_tup (pda_cons pd_int (pda_cons pd_int pda_nil))) pda_nil))))))))))
end
def d_least_missing : He.DefD := ⟨("least_missing", none), "least_missing", "least_missing", defArgs t_least_missing, defBody t_least_missing, defScope t_least_missing, [], []⟩
def d_sum_of_piles : He.DefD := ⟨("sum_of_piles", none), "sum_of_piles", "sum_of_piles", defArgs t_sum_of_piles, defBody t_sum_of_piles, defScope t_sum_of_piles, [], []⟩
def d_first_wins_piles : He.DefD := ⟨("first_wins_piles", none), "first_wins_piles", "first_wins_piles", defArgs t_first_wins_piles, defBody t_first_wins_piles, defScope t_first_wins_piles, [], []⟩
def d_pile_moves_that_win : He.DefD := ⟨("pile_moves_that_win", none), "pile_moves_that_win", "pile_moves_that_win", defArgs t_pile_moves_that_win, defBody t_pile_moves_that_win, defScope t_pile_moves_that_win, [], []⟩
def d_pile_game : He.DefD := ⟨("pile_game", none), "pile_game", "pile_game", defArgs t_pile_game, defBody t_pile_game, defScope t_pile_game, [], []⟩
def d__law_open_cells : He.DefD := ⟨("_law_open_cells", none), "_law_open_cells", "_law_open_cells", defArgs t__law_open_cells, defBody t__law_open_cells, defScope t__law_open_cells, [], []⟩
def d__law_pick : He.DefD := ⟨("_law_pick", none), "_law_pick", "_law_pick", defArgs t__law_pick, defBody t__law_pick, defScope t__law_pick, [], []⟩
def d__law_of : He.DefD := ⟨("_law_of", none), "_law_of", "_law_of", defArgs t__law_of, defBody t__law_of, defScope t__law_of, [], []⟩
def d__law_mex : He.DefD := ⟨("_law_mex", none), "_law_mex", "_law_mex", defArgs t__law_mex, defBody t__law_mex, defScope t__law_mex, [], []⟩
def d__law_xor : He.DefD := ⟨("_law_xor", none), "_law_xor", "_law_xor", defArgs t__law_xor, defBody t__law_xor, defScope t__law_xor, [], []⟩
def d__law_game : He.DefD := ⟨("_law_game", none), "_law_game", "_law_game", defArgs t__law_game, defBody t__law_game, defScope t__law_game, [], []⟩
def d__law_pile : He.DefD := ⟨("_law_pile", none), "_law_pile", "_law_pile", defArgs t__law_pile, defBody t__law_pile, defScope t__law_pile, [], []⟩
def d__law_wins : He.DefD := ⟨("_law_wins", none), "_law_wins", "_law_wins", defArgs t__law_wins, defBody t__law_wins, defScope t__law_wins, [], []⟩
def d_law : He.DefD := ⟨("law", none), "law", "law", defArgs t_law, defBody t_law, defScope t_law, [], []⟩
def fnl : List He.DefD := [d_least_missing, d_sum_of_piles, d_first_wins_piles, d_pile_moves_that_win, d_pile_game, d__law_open_cells, d__law_pick, d__law_of, d__law_mex, d__law_xor, d__law_game, d__law_pile, d__law_wins, d_law]
def fal : List He.Fa := [.glo "least_missing", .glo "sum_of_piles", .glo "first_wins_piles", .glo "pile_moves_that_win", .glo "pile_game", .glo "_law_open_cells", .glo "_law_pick", .glo "_law_of", .glo "_law_mex", .glo "_law_xor", .glo "_law_game", .glo "_law_pile", .glo "_law_wins", .glo "law", .free "abs", .free "all", .free "enumerate", .free "int", .free "len", .free "list", .free "max", .free "min", .free "range", .free "repr", .free "sorted", .free "tuple"]
abbrev Rw : PySem.W.OpenRow := PySem.W.OpenLaw.row PySem.Challenge.rw_eachgame_k22_piles_and_moves_that_win
abbrev hk : PySem.W.Hook := He.hookD 4 fal fnl
def ob (s : PySem.W.SharedT) : He.AlD := He.obsDG 4 fal fnl (HandSHeadRun.getT s)
theorem ob_eq (s : PySem.W.SharedT) : ob s = hk.obs s.abs := He.obsDG_eq (HandSHeadRun.getT_eq s)
def loose : List Str := ["least_missing", "sum_of_piles", "first_wins_piles", "pile_moves_that_win", "pile_game", "_law_open_cells", "_law_pick", "_law_of", "_law_mex", "_law_xor", "_law_game", "_law_pile", "_law_wins"]
theorem run (w : World) : HandSHeadRun.RunEq Rw (PySem.W.view Rw.prog [15]) hk ob 4000 loose w := by
  intro os
  kernel_rfl
theorem facts {Pr : Program} {w : World} {K : PySem.W.Frag} {h : Heap} {mg : Str → Option Value} {f : Addr} (X : K.In h) (G : h.Ns mainGlobals mg) (hfa : mg ("law" : Str) = some (.ref f)) (c : He.SaysD fal fnl K) :
    ∃ fd : FuncData, (∀ (s : Shared) (v : Value), BindsTo s fd ⟨[v], []⟩ [("script", v)]) ∧ ∀ base : Heap, K.In base → base.Ns mainGlobals mg → FnG Pr w K mg base 42 f fd ["script"] F_law := by
  obtain ⟨fd_least_missing, P_least_missing⟩ := c.def_ 0 (d := d_least_missing) rfl
  obtain ⟨fd_sum_of_piles, P_sum_of_piles⟩ := c.def_ 1 (d := d_sum_of_piles) rfl
  obtain ⟨fd_first_wins_piles, P_first_wins_piles⟩ := c.def_ 2 (d := d_first_wins_piles) rfl
  obtain ⟨fd_pile_moves_that_win, P_pile_moves_that_win⟩ := c.def_ 3 (d := d_pile_moves_that_win) rfl
  obtain ⟨fd_pile_game, P_pile_game⟩ := c.def_ 4 (d := d_pile_game) rfl
  obtain ⟨fd__law_open_cells, P__law_open_cells⟩ := c.def_ 5 (d := d__law_open_cells) rfl
  obtain ⟨fd__law_pick, P__law_pick⟩ := c.def_ 6 (d := d__law_pick) rfl
  obtain ⟨fd__law_of, P__law_of⟩ := c.def_ 7 (d := d__law_of) rfl
  obtain ⟨fd__law_mex, P__law_mex⟩ := c.def_ 8 (d := d__law_mex) rfl
  obtain ⟨fd__law_xor, P__law_xor⟩ := c.def_ 9 (d := d__law_xor) rfl
  obtain ⟨fd__law_game, P__law_game⟩ := c.def_ 10 (d := d__law_game) rfl
  obtain ⟨fd__law_pile, P__law_pile⟩ := c.def_ 11 (d := d__law_pile) rfl
  obtain ⟨fd__law_wins, P__law_wins⟩ := c.def_ 12 (d := d__law_wins) rfl
  obtain ⟨fd_law, P_law⟩ := c.def_ 13 (d := d_law) rfl
  have g_least_missing := He.glo_ok X G (c.fact 0 (f := .glo "least_missing") rfl)
  have g_sum_of_piles := He.glo_ok X G (c.fact 1 (f := .glo "sum_of_piles") rfl)
  have g_first_wins_piles := He.glo_ok X G (c.fact 2 (f := .glo "first_wins_piles") rfl)
  have g_pile_moves_that_win := He.glo_ok X G (c.fact 3 (f := .glo "pile_moves_that_win") rfl)
  have g_pile_game := He.glo_ok X G (c.fact 4 (f := .glo "pile_game") rfl)
  have g__law_open_cells := He.glo_ok X G (c.fact 5 (f := .glo "_law_open_cells") rfl)
  have g__law_pick := He.glo_ok X G (c.fact 6 (f := .glo "_law_pick") rfl)
  have g__law_of := He.glo_ok X G (c.fact 7 (f := .glo "_law_of") rfl)
  have g__law_mex := He.glo_ok X G (c.fact 8 (f := .glo "_law_mex") rfl)
  have g__law_xor := He.glo_ok X G (c.fact 9 (f := .glo "_law_xor") rfl)
  have g__law_game := He.glo_ok X G (c.fact 10 (f := .glo "_law_game") rfl)
  have g__law_pile := He.glo_ok X G (c.fact 11 (f := .glo "_law_pile") rfl)
  have g__law_wins := He.glo_ok X G (c.fact 12 (f := .glo "_law_wins") rfl)
  have g_law := He.glo_ok X G (c.fact 13 (f := .glo "law") rfl)
  have m_abs := He.free_ok X G (c.fact 14 (f := .free "abs") rfl)
  have m_all := He.free_ok X G (c.fact 15 (f := .free "all") rfl)
  have m_enumerate := He.free_ok X G (c.fact 16 (f := .free "enumerate") rfl)
  have m_int := He.free_ok X G (c.fact 17 (f := .free "int") rfl)
  have m_len := He.free_ok X G (c.fact 18 (f := .free "len") rfl)
  have m_list := He.free_ok X G (c.fact 19 (f := .free "list") rfl)
  have m_max := He.free_ok X G (c.fact 20 (f := .free "max") rfl)
  have m_min := He.free_ok X G (c.fact 21 (f := .free "min") rfl)
  have m_range := He.free_ok X G (c.fact 22 (f := .free "range") rfl)
  have m_repr := He.free_ok X G (c.fact 23 (f := .free "repr") rfl)
  have m_sorted := He.free_ok X G (c.fact 24 (f := .free "sorted") rfl)
  have m_tuple := He.free_ok X G (c.fact 25 (f := .free "tuple") rfl)
  have e := hfa.symm.trans g_law
  cases e
  have b := FunD.bindsA (ps := ["script"]) P_law fun _ _ _ _ _ _ us hl => match us, hl with | [_], _ => rfl
  refine ⟨fd_law, fun s v => b s [v] rfl, fun base _ _ => ?_⟩
  have h_least_missing : Held Pr w K mg base 1 "least_missing" 1 F_least_missing := ⟨_, _, ["numbers"], g_least_missing, P_least_missing.kp, P_least_missing.bindsN fun _ _ _ _ _ _ us hl => match us, hl with | [_], _ => rfl, rfl, (ok_least_missing P_least_missing )⟩
  have h_sum_of_piles : Held Pr w K mg base 1 "sum_of_piles" 1 F_sum_of_piles := ⟨_, _, ["piles"], g_sum_of_piles, P_sum_of_piles.kp, P_sum_of_piles.bindsN fun _ _ _ _ _ _ us hl => match us, hl with | [_], _ => rfl, rfl, (ok_sum_of_piles P_sum_of_piles )⟩
  have h_first_wins_piles : Held Pr w K mg base 2 "first_wins_piles" 1 F_first_wins_piles := ⟨_, _, ["piles"], g_first_wins_piles, P_first_wins_piles.kp, P_first_wins_piles.bindsN fun _ _ _ _ _ _ us hl => match us, hl with | [_], _ => rfl, rfl, (ok_first_wins_piles P_first_wins_piles h_sum_of_piles)⟩
  have h_pile_moves_that_win : Held Pr w K mg base 2 "pile_moves_that_win" 1 F_pile_moves_that_win := ⟨_, _, ["piles"], g_pile_moves_that_win, P_pile_moves_that_win.kp, P_pile_moves_that_win.bindsN fun _ _ _ _ _ _ us hl => match us, hl with | [_], _ => rfl, rfl, (ok_pile_moves_that_win P_pile_moves_that_win m_enumerate m_tuple h_sum_of_piles)⟩
  have h_pile_game : Held Pr w K mg base 1 "pile_game" 1 F_pile_game := ⟨_, _, ["n"], g_pile_game, P_pile_game.kp, P_pile_game.bindsN fun _ _ _ _ _ _ us hl => match us, hl with | [_], _ => rfl, rfl, (ok_pile_game P_pile_game m_range m_sorted m_tuple)⟩
  have h__law_open_cells : Held Pr w K mg base 1 "_law_open_cells" 1 F__law_open_cells := ⟨_, _, ["script"], g__law_open_cells, P__law_open_cells.kp, P__law_open_cells.bindsN fun _ _ _ _ _ _ us hl => match us, hl with | [_], _ => rfl, rfl, (ok__law_open_cells P__law_open_cells m_abs m_int)⟩
  have h__law_pick : Held Pr w K mg base 1 "_law_pick" 2 F__law_pick := ⟨_, _, ["source", "most"], g__law_pick, P__law_pick.kp, P__law_pick.bindsN fun _ _ _ _ _ _ us hl => match us, hl with | [_, _], _ => rfl, rfl, (ok__law_pick P__law_pick m_int m_len)⟩
  have h__law_of : Held Pr w K mg base 2 "_law_of" 2 F__law_of := ⟨_, _, ["source", "some"], g__law_of, P__law_of.kp, P__law_of.bindsN fun _ _ _ _ _ _ us hl => match us, hl with | [_, _], _ => rfl, rfl, (ok__law_of P__law_of m_len h__law_pick)⟩
  have h__law_mex : Held Pr w K mg base 1 "_law_mex" 1 F__law_mex := ⟨_, _, ["numbers"], g__law_mex, P__law_mex.kp, P__law_mex.bindsN fun _ _ _ _ _ _ us hl => match us, hl with | [_], _ => rfl, rfl, (ok__law_mex P__law_mex )⟩
  have h__law_xor : Held Pr w K mg base 1 "_law_xor" 1 F__law_xor := ⟨_, _, ["numbers"], g__law_xor, P__law_xor.kp, P__law_xor.bindsN fun _ _ _ _ _ _ us hl => match us, hl with | [_], _ => rfl, rfl, (ok__law_xor P__law_xor m_int m_len m_list m_max)⟩
  have h__law_game : Held Pr w K mg base 1 "_law_game" 2 F__law_game := ⟨_, _, ["lefts", "rights"], g__law_game, P__law_game.kp, P__law_game.bindsN fun _ _ _ _ _ _ us hl => match us, hl with | [_, _], _ => rfl, rfl, (ok__law_game P__law_game m_enumerate m_sorted m_tuple)⟩
  have h__law_pile : Held Pr w K mg base 41 "_law_pile" 1 (F__law_pile 40) := ⟨_, _, ["n"], g__law_pile, P__law_pile.kp, P__law_pile.bindsN fun _ _ _ _ _ _ us hl => match us, hl with | [_], _ => rfl, rfl, ((ok__law_pile P__law_pile g__law_pile m_range h__law_game 40) : FnG Pr w K mg base 41 _ fd__law_pile ["n"] (F__law_pile 40))⟩
  have h__law_wins : Held Pr w K mg base 40 "_law_wins" 2 (F__law_wins 40) := ⟨_, _, ["known", "piles"], g__law_wins, P__law_wins.kp, P__law_wins.bindsN fun _ _ _ _ _ _ us hl => match us, hl with | [_, _], _ => rfl, rfl, ((ok__law_wins P__law_wins g__law_wins m_all m_len m_range m_sorted m_tuple 40) : FnG Pr w K mg base 40 _ fd__law_wins ["known", "piles"] (F__law_wins 40))⟩
  exact ok_law P_law m_enumerate m_int m_len m_list m_max m_min m_range m_repr m_sorted m_tuple h_least_missing h_sum_of_piles h_first_wins_piles h_pile_moves_that_win h_pile_game h__law_open_cells h__law_pick h__law_of h__law_mex h__law_xor h__law_pile h__law_wins
end K_k22

/-! Q1: how the combinators' results are told: what holds of them, step by step. -/
namespace G
open PySem (Str PyData)
section
variable {α β : Type}
/-- the result is a value of which Q holds -/
def Ok (r : R α) (Q : α → Hm → Prop) : Prop := match r with
  | .ok a m => Q a m
  | _ => False
def OkS (r : RS) (Q : Fl → Env → Hm → Prop) : Prop := match r with
  | .ok f ρ m => Q f ρ m
  | _ => False
theorem Ok.mono {r : R α} {Q Q' : α → Hm → Prop} (h : Ok r Q) (w : ∀ a m, Q a m → Q' a m) : Ok r Q' := by
  cases r with
  | ok a m => exact w a m h
  | exc _ _ _ => exact h
  | bad => exact h
theorem OkS.mono {r : RS} {Q Q' : Fl → Env → Hm → Prop} (h : OkS r Q) (w : ∀ f ρ m, Q f ρ m → Q' f ρ m) : OkS r Q' := by
  cases r with
  | ok f ρ m => exact w f ρ m h
  | exc _ _ _ _ => exact h
  | bad => exact h
theorem Ok.ex {r : R α} {Q : α → Hm → Prop} (h : Ok r Q) : ∃ a m, r = .ok a m ∧ Q a m := by
  cases r with
  | ok a m => exact ⟨a, m, rfl, h⟩
  | exc _ _ _ => exact False.elim h
  | bad => exact False.elim h
theorem Ok.and {r : R α} {Q Q' : α → Hm → Prop} (h : Ok r Q) (h' : Ok r Q') : Ok r fun a m => Q a m ∧ Q' a m := by
  cases r with
  | ok a m => exact ⟨h, h'⟩
  | exc _ _ _ => exact h
  | bad => exact h
theorem ok_ok (a : α) (m : Hm) (Q : α → Hm → Prop) : Ok (.ok a m) Q = Q a m := rfl
theorem ok_ret (a : α) (m : Hm) (Q : α → Hm → Prop) : Ok (ret a m) Q = Q a m := rfl
theorem ok_bad (m : Hm) (Q : α → Hm → Prop) : Ok (bad m) Q = False := rfl
theorem ok_bnd (x : M α) (f : α → M β) (m : Hm) (Q : β → Hm → Prop) : Ok (bnd x f m) Q = Ok (x m) fun a m' => Ok (f a m') Q := by
  unfold bnd
  cases x m <;> rfl
theorem ok_when (b : Bool) (x : M α) (m : Hm) (Q : α → Hm → Prop) : Ok (when_ b x m) Q = (b = true ∧ Ok (x m) Q) := by
  cases b
  · exact propext ⟨fun h => False.elim h, fun h => absurd h.1 (by simp)⟩
  · exact propext ⟨fun h => ⟨rfl, h⟩, fun h => h.2⟩
theorem ok_opt (o : Option α) (m : Hm) (Q : α → Hm → Prop) : Ok (opt o m) Q = ∃ a, o = some a ∧ Q a m := by
  cases o with
  | none => exact propext ⟨fun h => False.elim h, fun ⟨a, h, _⟩ => (nomatch h)⟩
  | some a => exact propext ⟨fun h => ⟨a, rfl, h⟩, fun ⟨b, h, q⟩ => by cases h; exact q⟩
theorem ok_getO (n : Nat) (f : O → M α) (m : Hm) (Q : α → Hm → Prop) : Ok (getO n f m) Q = ∃ o, m[n]? = some o ∧ Ok (f o m) Q := by
  unfold getO
  cases m[n]? with
  | none => exact propext ⟨fun h => False.elim h, fun ⟨a, h, _⟩ => (nomatch h)⟩
  | some a => exact propext ⟨fun h => ⟨a, rfl, h⟩, fun ⟨b, h, q⟩ => by cases h; exact q⟩
theorem ok_putO (n : Nat) (o : O) (m : Hm) (Q : Unit → Hm → Prop) : Ok (putO n o m) Q = Q () (m.set n o) := rfl
theorem ok_newO (o : O) (m : Hm) (Q : P → Hm → Prop) : Ok (newO o m) Q = Q (.ref m.length) (m ++ [o]) := rfl
theorem ok_congr {r r' : R α} (Q : α → Hm → Prop) (h : r = r') : Ok r Q = Ok r' Q := by rw [h]
end

/-! ### expressions -/
section
variable {ρ : Env} {m : Hm} {Q : P → Hm → Prop} {QB : Bool → Hm → Prop} {QL : List P → Hm → Prop}
theorem ok_dVar (i : Nat) : Ok (dVar i ρ m) Q = match ρ[i]? with
    | some (some p) => Q p m
    | _ => False := by
  unfold dVar
  rcases ρ[i]? with _ | _ | p <;> rfl
theorem ok_dC (p : P) : Ok (dC p ρ m) Q = Q p m := rfl
theorem ok_aNil : Ok (aNil ρ m) QL = QL [] m := rfl
theorem ok_aCons (d : D) (a : A) : Ok (aCons d a ρ m) QL = Ok (d ρ m) fun x m1 => Ok (a ρ m1) fun xs m2 => QL (x :: xs) m2 := by
  unfold aCons
  rw [ok_bnd]
  congr 1
  funext x m1
  rw [ok_bnd]
  rfl
theorem ok_dOp (f : P → P → M P) (a b : D) : Ok (dOp f a b ρ m) Q = Ok (a ρ m) fun x m1 => Ok (b ρ m1) fun y m2 => Ok (f x y m2) Q := by
  unfold dOp
  rw [ok_bnd]
  congr 1
  funext x m1
  rw [ok_bnd]
theorem ok_dUn (f : P → M P) (a : D) : Ok (dUn f a ρ m) Q = Ok (a ρ m) fun x m1 => Ok (f x m1) Q := by
  unfold dUn
  rw [ok_bnd]
theorem ok_dTup (a : A) : Ok (dTup a ρ m) Q = Ok (a ρ m) fun ps m1 => ps.length ≤ SZ ∧ Q (.tup ps) m1 := by
  unfold dTup
  rw [ok_bnd]
  congr 1
  funext x m1
  rw [ok_when, decide_eq_true_eq]
  rfl
theorem ok_lLst (a : A) : Ok (lLst a ρ m) QL = Ok (a ρ m) fun ps m1 => ps.length ≤ SZ ∧ QL ps m1 := by
  unfold lLst
  rw [ok_bnd]
  congr 1
  funext x m1
  rw [ok_when, decide_eq_true_eq]
  rfl
theorem ok_dNew (l : LD) : Ok (dNew l ρ m) Q = Ok (l ρ m) fun ps m1 => Q (.ref m1.length) (m1 ++ [.lst ps]) := by
  unfold dNew
  rw [ok_bnd]
  rfl
theorem ok_dIf (c : T) (a b : D) : Ok (dIf c a b ρ m) Q = Ok (c ρ m) fun k m1 => (k = true → Ok (a ρ m1) Q) ∧ (k = false → Ok (b ρ m1) Q) := by
  unfold dIf
  rw [ok_bnd]
  congr 1
  funext k m1
  cases k
  · exact propext ⟨fun h => ⟨fun e => (nomatch e), fun _ => h⟩, fun h => h.2 rfl⟩
  · exact propext ⟨fun h => ⟨fun _ => h, fun e => (nomatch e)⟩, fun h => h.1 rfl⟩
theorem ok_dCall (call : List P → M P) (a : A) : Ok (dCall call a ρ m) Q = Ok (a ρ m) fun ps m1 => Ok (call ps m1) Q := by
  unfold dCall
  rw [ok_bnd]
theorem ok_tVal (d : D) : Ok (tVal d ρ m) QB = Ok (d ρ m) fun x m1 => Ok (asB x m1) QB := by
  unfold tVal
  rw [ok_bnd]
theorem ok_asB (b : Bool) : Ok (asB (.bl b) m) QB = QB b m := rfl
theorem ok_tTru (d : D) : Ok (tTru d ρ m) QB = Ok (d ρ m) fun x m1 => Ok (truth x m1) QB := by
  unfold tTru
  rw [ok_bnd]
theorem ok_truth_bl (b : Bool) : Ok (truth (.bl b) m) QB = QB b m := rfl
theorem ok_truth_int (i : Int) : Ok (truth (.int i) m) QB = QB (i != 0) m := rfl
theorem ok_truth_non : Ok (truth .non m) QB = QB false m := rfl
theorem ok_truth_tup (ps : List P) : Ok (truth (.tup ps) m) QB = QB (!ps.isEmpty) m := rfl
theorem ok_tYes : Ok (tYes ρ m) QB = QB true m := rfl
theorem ok_tAnd (a b : T) : Ok (tAnd a b ρ m) QB = Ok (a ρ m) fun k m1 => (k = true → Ok (b ρ m1) QB) ∧ (k = false → QB false m1) := by
  unfold tAnd
  rw [ok_bnd]
  congr 1
  funext k m1
  cases k
  · exact propext ⟨fun h => ⟨fun e => (nomatch e), fun _ => h⟩, fun h => h.2 rfl⟩
  · exact propext ⟨fun h => ⟨fun _ => h, fun e => (nomatch e)⟩, fun h => h.1 rfl⟩
theorem ok_tOr (a b : T) : Ok (tOr a b ρ m) QB = Ok (a ρ m) fun k m1 => (k = true → QB true m1) ∧ (k = false → Ok (b ρ m1) QB) := by
  unfold tOr
  rw [ok_bnd]
  congr 1
  funext k m1
  cases k
  · exact propext ⟨fun h => ⟨fun e => (nomatch e), fun _ => h⟩, fun h => h.2 rfl⟩
  · exact propext ⟨fun h => ⟨fun _ => h, fun e => (nomatch e)⟩, fun h => h.1 rfl⟩
theorem ok_tNot (a : T) : Ok (tNot a ρ m) QB = Ok (a ρ m) fun k m1 => QB (!k) m1 := by
  unfold tNot
  rw [ok_bnd]
  rfl
theorem ok_dAnd (a b : D) : Ok (dAnd a b ρ m) Q = Ok (a ρ m) fun x m1 => Ok (asB x m1) fun k m2 => (k = true → Ok (b ρ m2) Q) ∧ (k = false → Q (.bl false) m2) := by
  unfold dAnd
  rw [ok_bnd]
  congr 1
  funext x m1
  cases x with
  | bl k =>
    cases k
    · exact propext ⟨fun h => ⟨fun e => (nomatch e), fun _ => h⟩, fun h => h.2 rfl⟩
    · exact propext ⟨fun h => ⟨fun _ => h, fun e => (nomatch e)⟩, fun h => h.1 rfl⟩
  | _ => rfl
theorem ok_dOr (a b : D) : Ok (dOr a b ρ m) Q = Ok (a ρ m) fun x m1 => Ok (asB x m1) fun k m2 => (k = true → Q (.bl true) m2) ∧ (k = false → Ok (b ρ m2) Q) := by
  unfold dOr
  rw [ok_bnd]
  congr 1
  funext x m1
  cases x with
  | bl k =>
    cases k
    · exact propext ⟨fun h => ⟨fun e => (nomatch e), fun _ => h⟩, fun h => h.2 rfl⟩
    · exact propext ⟨fun h => ⟨fun _ => h, fun e => (nomatch e)⟩, fun h => h.1 rfl⟩
  | _ => rfl
theorem ok_uNot (b : Bool) : Ok (uNot (.bl b) m) Q = Q (.bl (!b)) m := rfl
theorem ok_dChain (f g : P → P → M P) (a b c : D) : Ok (dChain f g a b c ρ m) Q = Ok (a ρ m) fun x m1 => Ok (b ρ m1) fun y m2 => Ok (f x y m2) fun z m3 => Ok (asB z m3) fun k m4 => (k = true → Ok (c ρ m4) fun w m5 => Ok (g y w m5) Q) ∧ (k = false → Q (.bl false) m4) := by
  unfold dChain
  rw [ok_bnd]
  congr 1
  funext x m1
  rw [ok_bnd]
  congr 1
  funext y m2
  rw [ok_bnd]
  congr 1
  funext z m3
  cases z with
  | bl k =>
    cases k
    · exact propext ⟨fun h => ⟨fun e => (nomatch e), fun _ => h⟩, fun h => h.2 rfl⟩
    · refine propext ⟨fun h => ⟨fun _ => ?_, fun e => (nomatch e)⟩, fun h => ?_⟩
      · have h : Ok (bnd (c ρ) (fun w => g y w) m3) Q := h
        rw [ok_bnd] at h
        exact h
      · show Ok (bnd (c ρ) (fun w => g y w) m3) Q
        rw [ok_bnd]
        exact h.1 rfl
  | _ => rfl

/-! ### operators of ints, texts, tuples -/
variable (i j : Int)
theorem ok_add_int : Ok (oAdd (.int i) (.int j) m) Q = Q (.int (i + j)) m := rfl
theorem ok_add_tup (ps qs : List P) : Ok (oAdd (.tup ps) (.tup qs) m) Q = (ps.length + qs.length ≤ SZ ∧ Q (.tup (ps ++ qs)) m) := by
  show Ok (when_ _ _ m) Q = _
  rw [ok_when, decide_eq_true_eq]
  rfl
theorem ok_add_str (a b : Str) : Ok (oAdd (.str a) (.str b) m) Q = (a.length + b.length ≤ SZ ∧ Q (.str (a ++ b)) m) := by
  show Ok (when_ _ _ m) Q = _
  rw [ok_when, decide_eq_true_eq]
  rfl
theorem ok_add_ref (n k : Nat) : oAdd (.ref n) (.ref k) = getO n fun o => match o with
      | .lst ps => getO k fun o' => match o' with
        | .lst qs => when_ (decide (ps.length + qs.length ≤ SZ)) (newO (.lst (ps ++ qs)))
        | _ => bad
      | _ => bad := rfl
theorem ok_sub : Ok (oSub (.int i) (.int j) m) Q = Q (.int (i - j)) m := rfl
theorem ok_mul : Ok (oMul (.int i) (.int j) m) Q = (cMul i j = true ∧ Q (.int (i * j)) m) := by
  show Ok (when_ _ _ m) Q = _
  rw [ok_when]
  rfl
theorem cMul_left {i j : Int} (h : i.natAbs < 18446744073709551616) : cMul i j = true := by
  simp only [cMul, Bool.or_eq_true, Bool.and_eq_true, decide_eq_true_eq]
  omega
theorem cMul_right {i j : Int} (h : j.natAbs < 18446744073709551616) : cMul i j = true := by
  simp only [cMul, Bool.or_eq_true, Bool.and_eq_true, decide_eq_true_eq]
  omega
theorem ok_mul_lst (n : Nat) (k : Int) : oMul (.ref n) (.int k) = getO n fun o => match o with
      | .lst ps => when_ (decide (-(9223372036854775808) ≤ k) && decide (k < 9223372036854775808) && decide (ps.length * k.toNat ≤ SZ)) (newO (.lst (List.replicate k.toNat ps).flatten))
      | _ => bad := rfl
theorem ok_mulT (ps : List P) (k : Int) : Ok (oMulT (.tup ps) (.int k) m) Q = ((ps ≠ [] ∧ 1 ≤ k ∧ k ≤ 1000 ∧ ps.length ≤ 1000) ∧ Q (.tup (List.replicate k.toNat ps).flatten) m) := by
  show Ok (when_ _ _ m) Q = _
  rw [ok_when]
  simp only [Bool.and_eq_true, decide_eq_true_eq, Bool.not_eq_true', List.isEmpty_eq_false_iff, and_assoc]
  rfl
theorem ok_div : Ok (oDiv (.int i) (.int j) m) Q = ((0 < j ∧ j < 18446744073709551616) ∧ Q (.int (i / j)) m) := by
  show Ok (when_ _ _ m) Q = _
  rw [ok_when, Bool.and_eq_true, decide_eq_true_eq, decide_eq_true_eq]
  rfl
theorem ok_mod : Ok (oMod (.int i) (.int j) m) Q = (0 < j ∧ Q (.int (i % j)) m) := by
  show Ok (when_ _ _ m) Q = _
  rw [ok_when, decide_eq_true_eq]
  rfl
theorem cPow_eq : (cPow i j = true) = (0 ≤ j ∧ j ≤ 1000000 ∧ i.natAbs < 18446744073709551616) := by
  simp only [cPow, Bool.and_eq_true, decide_eq_true_eq, and_assoc]
theorem ok_pow : Ok (oPow (.int i) (.int j) m) Q = ((0 ≤ j ∧ j ≤ 1000000 ∧ i.natAbs < 18446744073709551616) ∧ Q (.int (i ^ j.toNat)) m) := by
  show Ok (when_ _ _ m) Q = _
  rw [ok_when, cPow_eq]
  rfl
theorem ok_shl : Ok (oShl (.int i) (.int j) m) Q = ((0 ≤ j ∧ j ≤ 1000000 ∧ i.natAbs < 18446744073709551616) ∧ Q (.int (i * 2 ^ j.toNat)) m) := by
  show Ok (when_ _ _ m) Q = _
  rw [ok_when, cPow_eq]
  rfl
theorem ok_shr : Ok (oShr (.int i) (.int j) m) Q = (0 ≤ j ∧ Q (.int (i / 2 ^ j.toNat)) m) := by
  show Ok (when_ _ _ m) Q = _
  rw [ok_when, decide_eq_true_eq]
  rfl
theorem ok_band : Ok (oAnd (.int i) (.int j) m) Q = Q (.int (PySem.Builtin.bitAnd i j)) m := rfl
theorem ok_bor : Ok (oOr (.int i) (.int j) m) Q = Q (.int (PySem.Builtin.bitOr i j)) m := rfl
theorem ok_xor : Ok (oXor (.int i) (.int j) m) Q = Q (.int (PySem.Builtin.bitXor i j)) m := rfl
theorem ok_neg : Ok (uNeg (.int i) m) Q = Q (.int (-i)) m := rfl
theorem ok_lt : Ok (oLt (.int i) (.int j) m) Q = Q (.bl (decide (i < j))) m := rfl
theorem ok_le : Ok (oLe (.int i) (.int j) m) Q = Q (.bl (decide (i ≤ j))) m := rfl
theorem ok_gt : Ok (oGt (.int i) (.int j) m) Q = Q (.bl (decide (j < i))) m := rfl
theorem ok_ge : Ok (oGe (.int i) (.int j) m) Q = Q (.bl (decide (j ≤ i))) m := rfl
theorem ok_asD (x : P) (QD : PyData → Hm → Prop) : Ok (asD x m) QD = match dat m DD x with
    | some d => QD d m
    | none => False := by
  unfold asD
  split <;> simp_all [ok_ok, Ok]
theorem ok_eqD (neg : Bool) (x y : P) : Ok (eqD neg x y m) Q = ∃ d, dat m DD x = some d ∧ ∃ e, dat m DD y = some e ∧ (PySem.SeqAt.shaped d && PySem.SeqAt.shaped e) = true ∧ Q (.bl (PyData.eqv d e != neg)) m := by
  unfold eqD
  rw [ok_bnd, ok_asD]
  cases dat m DD x with
  | none => exact propext ⟨fun h => False.elim h, fun ⟨d, h, _⟩ => (nomatch h)⟩
  | some d =>
    show Ok (bnd _ _ m) Q = _
    rw [ok_bnd, ok_asD]
    cases dat m DD y with
    | none => exact propext ⟨fun h => False.elim h, fun ⟨d, _, e, h, _⟩ => (nomatch h)⟩
    | some e =>
      show Ok (when_ _ _ m) Q = _
      rw [ok_when, ok_ret]
      exact propext ⟨fun h => ⟨d, rfl, e, rfl, h⟩, fun ⟨d', h1, e', h2, h⟩ => by cases h1; cases h2; exact h⟩
theorem ok_eq_int (i j : Int) : oEq (.int i) (.int j) = ret (.bl (decide (i = j))) := rfl
theorem ok_eq_str (i j : Str) : oEq (.str i) (.str j) = ret (.bl (decide (i = j))) := rfl
theorem ok_eq_bl (i j : Bool) : oEq (.bl i) (.bl j) = ret (.bl (decide (i = j))) := rfl
theorem ok_eq_non : oEq .non .non = ret (.bl true) := rfl
theorem ok_eq_tup (ps : List P) (q : P) : oEq (.tup ps) q = eqD false (.tup ps) q := by cases q <;> rfl
theorem ok_eq_ref (n : Nat) (q : P) : oEq (.ref n) q = eqD false (.ref n) q := by cases q <;> rfl
theorem ok_eq_it (i : Int) (q : List P) : oEq (.int i) (.tup q) = eqD false (.int i) (.tup q) := rfl
theorem ok_eq_in (i : Int) : oEq (.int i) .non = eqD false (.int i) .non := rfl
theorem ok_eq_nt (q : List P) : oEq .non (.tup q) = eqD false .non (.tup q) := rfl
theorem ok_eq_ni (q : Int) : oEq .non (.int q) = eqD false .non (.int q) := rfl
theorem ok_ne_int (i j : Int) : oNe (.int i) (.int j) = ret (.bl !(decide (i = j))) := rfl
theorem ok_ne_str (i j : Str) : oNe (.str i) (.str j) = ret (.bl !(decide (i = j))) := rfl
theorem ok_ne_bl (i j : Bool) : oNe (.bl i) (.bl j) = ret (.bl !(decide (i = j))) := rfl
theorem ok_ne_non : oNe .non .non = ret (.bl false) := rfl
theorem ok_ne_tup (ps : List P) (q : P) : oNe (.tup ps) q = eqD true (.tup ps) q := by cases q <;> rfl
theorem ok_ne_ref (n : Nat) (q : P) : oNe (.ref n) q = eqD true (.ref n) q := by cases q <;> rfl
theorem ok_ne_it (i : Int) (q : List P) : oNe (.int i) (.tup q) = eqD true (.int i) (.tup q) := rfl
theorem ok_ne_in (i : Int) : oNe (.int i) .non = eqD true (.int i) .non := rfl
theorem ok_ne_nt (q : List P) : oNe .non (.tup q) = eqD true .non (.tup q) := rfl
theorem ok_ne_ni (q : Int) : oNe .non (.int q) = eqD true .non (.int q) := rfl
theorem ok_isN (x : P) : Ok (uIsN x m) Q = Q (.bl (isNon x)) m := rfl
theorem ok_notN (x : P) : Ok (uNotN x m) Q = Q (.bl (!isNon x)) m := rfl

/-! ### subscripts, slices -/
theorem ok_ix_tup (ps : List P) (i : Int) : oIx (.tup ps) (.int i) = opt (L2.atI ps i) := rfl
theorem ok_ix_scr (ps : List P) (i : Int) : oIx (.scr ps) (.int i) = opt (L2.atI ps i) := rfl
theorem ok_ix_ref (n : Nat) (y : P) : oIx (.ref n) y = getO n fun o => match o with
    | .lst ps => match y with
      | .int i => opt (L2.atI ps i)
      | _ => bad
    | .dK _ => bnd (dLook n y) opt
    | .dT _ => bnd (dLook n y) opt
    | _ => bad := rfl
theorem ok_pNone (QO : Option Int → Hm → Prop) : Ok (pNone ρ m) QO = QO none m := rfl
theorem ok_pSome (d : D) (QO : Option Int → Hm → Prop) : Ok (pSome d ρ m) QO = Ok (d ρ m) fun x m1 => match x with
    | .int i => QO (some i) m1
    | _ => False := by
  unfold pSome
  rw [ok_bnd]
  congr 1
  funext x m1
  cases x <;> rfl
theorem ok_dSl (e : D) (lo hi : OD) : Ok (dSl e lo hi ρ m) Q = Ok (e ρ m) fun x m1 => Ok (lo ρ m1) fun l m2 => Ok (hi ρ m2) fun h m3 => Ok (slP x l h m3) Q := by
  unfold dSl
  rw [ok_bnd]
  congr 1
  funext x m1
  rw [ok_bnd]
  congr 1
  funext l m2
  rw [ok_bnd]
theorem ok_sl_tup (ps : List P) (l h : Option Int) : Ok (slP (.tup ps) l h m) Q = Q (.tup (cutP ps l h)) m := rfl
theorem ok_sl_ref (n : Nat) (l h : Option Int) : slP (.ref n) l h = getO n fun o => match o with
    | .lst ps => newO (.lst (cutP ps l h))
    | _ => bad := rfl
def revO (x : P) : M P := match x with
  | .ref n => getO n fun o => match o with
    | .lst ps => newO (.lst ps.reverse)
    | _ => bad
  | _ => bad
theorem ok_dRev (e : D) : Ok (dRev e ρ m) Q = Ok (e ρ m) fun x m1 => Ok (revO x m1) Q := by
  unfold dRev
  rw [ok_bnd]
  rfl
theorem ok_rev_ref (n : Nat) : revO (.ref n) = getO n fun o => match o with
    | .lst ps => newO (.lst ps.reverse)
    | _ => bad := rfl
theorem ok_lRev (l : LD) : Ok (lRev l ρ m) QL = Ok (l ρ m) fun ps m1 => QL ps.reverse m1 := by
  unfold lRev
  rw [ok_bnd]
  rfl

/-! ### built-ins -/
theorem ok_one (f : P → M P) (x : P) : Ok (one f [x] m) Q = Ok (f x m) Q := rfl
theorem ok_two (f : P → P → M P) (x y : P) : Ok (two f [x, y] m) Q = Ok (f x y m) Q := rfl
theorem ok_abs (i : Int) : Ok (bAbs (.int i) m) Q = Q (.int (if i < 0 then -i else i)) m := rfl
theorem ok_bint (i : Int) : Ok (bInt (.int i) m) Q = Q (.int i) m := rfl
theorem ok_bint_bl (b : Bool) : Ok (bInt (.bl b) m) Q = Q (.int (if b then 1 else 0)) m := rfl
theorem ok_max2 (i j : Int) : Ok (bMax2 (.int i) (.int j) m) Q = Q (.int (if j > i then j else i)) m := rfl
theorem ok_min2 (i j : Int) : Ok (bMin2 (.int i) (.int j) m) Q = Q (.int (if j < i then j else i)) m := rfl
theorem ok_len_tup (ps : List P) : Ok (bLen (.tup ps) m) Q = Q (.int ps.length) m := rfl
theorem ok_len_scr (ps : List P) : Ok (bLen (.scr ps) m) Q = Q (.int ps.length) m := rfl
theorem ok_len_str (z : Str) : Ok (bLen (.str z) m) Q = (z.length ≤ SZ ∧ Q (.int z.length) m) := by
  show Ok (when_ _ _ m) Q = _
  rw [ok_when, decide_eq_true_eq]
  rfl
theorem ok_len_ref (n : Nat) : bLen (.ref n) = getO n fun o => match o with
    | .lst ps => ret (.int ps.length)
    | .dK kvs => ret (.int kvs.length)
    | _ => bad := rfl
theorem ok_btup_tup (ps : List P) : Ok (bTup (.tup ps) m) Q = Q (.tup ps) m := rfl
theorem ok_btup_scr (ps : List P) : Ok (bTup (.scr ps) m) Q = Q (.tup ps) m := rfl
theorem ok_btup_ref (n : Nat) : bTup (.ref n) = getO n fun o => match o with
    | .lst ps => ret (.tup ps)
    | _ => bad := rfl
theorem ok_dL (f : List P → M P) (l : LD) : Ok (dL f l ρ m) Q = Ok (l ρ m) fun ps m1 => Ok (f ps m1) Q := by
  unfold dL
  rw [ok_bnd]
theorem ok_lThen (f : List P → M (List P)) (l : LD) : Ok (lThen f l ρ m) QL = Ok (l ρ m) fun ps m1 => Ok (f ps m1) QL := by
  unfold lThen
  rw [ok_bnd]
theorem ok_dV (f : List P → M P) (d : D) : Ok (dV f d ρ m) Q = Ok (d ρ m) fun x m1 => Ok (items x m1) fun ps m2 => Ok (f ps m2) Q := by
  unfold dV
  rw [ok_bnd]
  congr 1
  funext x m1
  rw [ok_bnd]
theorem ok_lV (f : List P → M (List P)) (d : D) : Ok (lV f d ρ m) QL = Ok (d ρ m) fun x m1 => Ok (items x m1) fun ps m2 => Ok (f ps m2) QL := by
  unfold lV
  rw [ok_bnd]
  congr 1
  funext x m1
  rw [ok_bnd]
theorem ok_dR (f : List P → M P) (d : D) : Ok (dR f d ρ m) Q = Ok (d ρ m) fun x m1 => Ok (itemsR x m1) fun ps m2 => Ok (f ps m2) Q := by
  unfold dR
  rw [ok_bnd]
  congr 1
  funext x m1
  rw [ok_bnd]
theorem ok_items_tup (ps : List P) : Ok (items (.tup ps) m) QL = QL ps m := rfl
theorem ok_items_scr (ps : List P) : Ok (items (.scr ps) m) QL = QL ps m := rfl
theorem ok_items_ref (n : Nat) : items (.ref n) = getO n fun o => match o with
    | .lst ps => ret ps
    | _ => bad := rfl
theorem ok_itemsR_scr (ps : List P) : Ok (itemsR (.scr ps) m) QL = QL ps m := rfl
theorem ok_itemsR_ref (n : Nat) : itemsR (.ref n) = getO n fun o => match o with
    | .lst ps => ret ps
    | _ => bad := rfl
theorem ok_lId (ps : List P) : Ok (lId ps m) QL = QL ps m := rfl
theorem ok_nTup (ps : List P) : Ok (nTup ps m) Q = Q (.tup ps) m := rfl
theorem ok_nLen (ps : List P) : Ok (nLen ps m) Q = Q (.int ps.length) m := rfl
theorem intsOf_map (l : List Int) : intsOf (l.map .int) = some l := by
  induction l with
  | nil => rfl
  | cons i l ih => show (match intsOf (l.map .int) with | some l => some (i :: l) | none => none) = _; rw [ih]
theorem bls_map (l : List Bool) : bls (l.map .bl) = some l := by
  induction l with
  | nil => rfl
  | cons i l ih => show (match bls (l.map .bl) with | some l => some (i :: l) | none => none) = _; rw [ih]
theorem ok_nSum (l : List Int) : Ok (nSum (l.map .int) m) Q = Q (.int l.sum) m := by
  unfold nSum
  rw [ok_bnd, intsOf_map]
  rfl
theorem ok_nMax (l : List Int) (h : l ≠ []) : Ok (nMax (l.map .int) m) Q = Q (.int (iMax l.head! l.tail)) m := by
  unfold nMax
  rw [ok_bnd, intsOf_map]
  cases l with
  | nil => exact absurd rfl h
  | cons i r => rfl
theorem ok_nMin (l : List Int) (h : l ≠ []) : Ok (nMin (l.map .int) m) Q = Q (.int (iMin l.head! l.tail)) m := by
  unfold nMin
  rw [ok_bnd, intsOf_map]
  cases l with
  | nil => exact absurd rfl h
  | cons i r => rfl
theorem ok_nAny (l : List Bool) : Ok (nAny (l.map .bl) m) Q = Q (.bl (l.any id)) m := by
  unfold nAny
  rw [ok_bnd, bls_map]
  rfl
theorem ok_nAll (l : List Bool) : Ok (nAll (l.map .bl) m) Q = Q (.bl (l.all id)) m := by
  unfold nAll
  rw [ok_bnd, bls_map]
  rfl
theorem ok_rg1 (d : D) (QR : Int × Int → Hm → Prop) : Ok (rg1 d ρ m) QR = Ok (d ρ m) fun x m1 => Ok (asI x m1) fun j m2 => QR (0, j) m2 := by
  unfold rg1
  rw [ok_bnd]
  congr 1
  funext x m1
  rw [ok_bnd]
  rfl
theorem ok_asI (i : Int) (QI : Int → Hm → Prop) : Ok (asI (.int i) m) QI = QI i m := rfl
theorem ok_rg2 (a b : D) (QR : Int × Int → Hm → Prop) : Ok (rg2 a b ρ m) QR = Ok (a ρ m) fun x m1 => Ok (b ρ m1) fun y m2 => Ok (asI x m2) fun i m3 => Ok (asI y m3) fun j m4 => QR (i, j) m4 := by
  unfold rg2
  rw [ok_bnd]
  congr 1
  funext x m1
  rw [ok_bnd]
  congr 1
  funext y m2
  rw [ok_bnd]
  congr 1
  funext i m3
  rw [ok_bnd]
  rfl
theorem ok_lRg (r : RD) : Ok (lRg r ρ m) QL = Ok (r ρ m) fun ab m1 => rgOk ab.1 ab.2 = true ∧ QL (rangeP ab.1 ab.2) m1 := by
  unfold lRg
  rw [ok_bnd]
  congr 1
  funext x m1
  rw [ok_when]
  rfl
theorem ok_dTupRg (r : RD) : Ok (dTupRg r ρ m) Q = Ok (r ρ m) fun ab m1 => rgOk ab.1 ab.2 = true ∧ Q (.tup (rangeP ab.1 ab.2)) m1 := by
  unfold dTupRg
  rw [ok_bnd]
  congr 1
  funext x m1
  rw [ok_when]
  rfl

/-! ### methods -/
theorem ok_meth0 (chk : P → M Unit) (f : P → M P) (o : D) : Ok (dMeth0 chk f o ρ m) Q = Ok (o ρ m) fun x m1 => Ok (chk x m1) fun _ m2 => Ok (f x m2) Q := by
  unfold dMeth0
  rw [ok_bnd]
  congr 1
  funext x m1
  rw [ok_bnd]
theorem ok_meth1 (chk : P → M Unit) (f : P → P → M P) (o a : D) : Ok (dMeth1 chk f o a ρ m) Q = Ok (o ρ m) fun x m1 => Ok (chk x m1) fun _ m2 => Ok (a ρ m2) fun y m3 => Ok (f x y m3) Q := by
  unfold dMeth1
  rw [ok_bnd]
  congr 1
  funext x m1
  rw [ok_bnd]
  congr 1
  funext _ m2
  rw [ok_bnd]
theorem ok_methL (chk : P → M Unit) (f : P → List P → M P) (o : D) (l : LD) : Ok (dMethL chk f o l ρ m) Q = Ok (o ρ m) fun x m1 => Ok (chk x m1) fun _ m2 => Ok (l ρ m2) fun y m3 => Ok (f x y m3) Q := by
  unfold dMethL
  rw [ok_bnd]
  congr 1
  funext x m1
  rw [ok_bnd]
  congr 1
  funext _ m2
  rw [ok_bnd]
theorem ok_chkL (n : Nat) : chkL (.ref n) = getO n fun o => match o with
    | .lst _ => ret ()
    | _ => bad := rfl
theorem ok_append (n : Nat) (y : P) : mAppend (.ref n) y = getO n fun o => match o with
    | .lst ps => when_ (decide (ps.length < SZ)) (bnd (putO n (.lst (ps ++ [y]))) fun _ => ret .non)
    | _ => bad := rfl
theorem ok_extend (n : Nat) (qs : List P) : mExtend (.ref n) qs = getO n fun o => match o with
    | .lst ps => when_ (decide (ps.length + qs.length ≤ SZ)) (bnd (putO n (.lst (ps ++ qs))) fun _ => ret .non)
    | _ => bad := rfl
def popO (n : Nat) (ps : List P) : M P := match ps[ps.length - 1]? with
  | some y => bnd (putO n (.lst ps.dropLast)) fun _ => ret y
  | none => bad
theorem ok_pop (n : Nat) : mPop (.ref n) = getO n fun o => match o with
    | .lst ps => popO n ps
    | _ => bad := rfl
theorem ok_popO (n : Nat) (ps : List P) : Ok (popO n ps m) Q = ∃ y, ps[ps.length - 1]? = some y ∧ Q y (m.set n (.lst ps.dropLast)) := by
  unfold popO
  cases ps[ps.length - 1]? with
  | none => exact propext ⟨fun h => False.elim h, fun ⟨a, h, _⟩ => (nomatch h)⟩
  | some a => exact propext ⟨fun h => ⟨a, rfl, h⟩, fun ⟨b, h, q⟩ => by cases h; exact q⟩
/-! ### sources, targets, statements -/
variable {QE : Env → Hm → Prop} {QS : Src → Hm → Prop} {QF : Fl → Env → Hm → Prop}
def srcOf (x : P) : M Src := match x with
  | .tup ps => ret (.seq ps)
  | .scr ps => ret (.seq ps)
  | .kt ps => ret (.seq ps)
  | .ref n => getO n fun o => match o with
    | .lst _ => ret (.lst n)
    | _ => bad
  | _ => bad
theorem ok_sOf (d : D) : Ok (sOf d ρ m) QS = Ok (d ρ m) fun x m1 => Ok (srcOf x m1) QS := by
  unfold sOf
  rw [ok_bnd]
  rfl
theorem ok_srcOf_tup (ps : List P) : srcOf (.tup ps) = ret (.seq ps) := rfl
theorem ok_srcOf_scr (ps : List P) : srcOf (.scr ps) = ret (.seq ps) := rfl
theorem ok_srcOf_kt (ps : List P) : srcOf (.kt ps) = ret (.seq ps) := rfl
theorem ok_srcOf_ref (n : Nat) : srcOf (.ref n) = getO n fun o => match o with
    | .lst _ => ret (.lst n)
    | _ => bad := rfl
theorem ok_sOfL (l : LD) : Ok (sOfL l ρ m) QS = Ok (l ρ m) fun ps m1 => QS (.seq ps) m1 := by
  unfold sOfL
  rw [ok_bnd]
  rfl
def enumOf (x : P) : M Src := match x with
  | .tup ps => ret (.seq (numbered 0 ps))
  | .ref n => getO n fun o => match o with
    | .lst _ => ret (.enumL n)
    | _ => bad
  | _ => bad
theorem ok_sEnum (d : D) : Ok (sEnum d ρ m) QS = Ok (d ρ m) fun x m1 => Ok (enumOf x m1) QS := by
  unfold sEnum
  rw [ok_bnd]
  rfl
theorem ok_enumOf_tup (ps : List P) : enumOf (.tup ps) = ret (.seq (numbered 0 ps)) := rfl
theorem ok_enumOf_ref (n : Nat) : enumOf (.ref n) = getO n fun o => match o with
    | .lst _ => ret (.enumL n)
    | _ => bad := rfl
theorem ok_sRange1 (d : D) : Ok (sRange1 d ρ m) QS = Ok (d ρ m) fun x m1 => Ok (asI x m1) fun j m2 => small62 j = true ∧ QS (.seq (rangeP 0 j)) m2 := by
  unfold sRange1
  rw [ok_bnd]
  congr 1
  funext x m1
  cases x with
  | int j => show Ok (when_ _ _ m1) QS = _; rw [ok_when]; rfl
  | _ => rfl
theorem ok_sRange2 (a b : D) : Ok (sRange2 a b ρ m) QS = Ok (a ρ m) fun x m1 => Ok (b ρ m1) fun y m2 => Ok (asI x m2) fun i m3 => Ok (asI y m3) fun j m4 => (small62 i && small62 j) = true ∧ QS (.seq (rangeP i j)) m4 := by
  unfold sRange2
  rw [ok_bnd]
  congr 1
  funext x m1
  rw [ok_bnd]
  congr 1
  funext y m2
  cases x with
  | int i =>
    cases y with
    | int j => show Ok (when_ _ _ m2) QS = _; rw [ok_when]; rfl
    | _ => rfl
  | _ => rfl
theorem ok_gName (i : Nat) (p : P) : Ok (gName i p ρ m) QE = QE (ρ.set i (some p)) m := rfl
theorem ok_gNil : Ok (gNil [] ρ m) QE = QE ρ m := rfl
theorem ok_gCons (g : GD) (gs : GsD) (p : P) (r : List P) : Ok (gCons g gs (p :: r) ρ m) QE = Ok (g p ρ m) fun ρ' m' => Ok (gs r ρ' m') QE := by
  show Ok (bnd _ _ m) QE = _
  rw [ok_bnd]
theorem ok_gTup (n : Nat) (gs : GsD) (ps : List P) : Ok (gTup n gs (.tup ps) ρ m) QE = (ps.length = n ∧ Ok (gs ps ρ m) QE) := by
  show Ok (when_ _ _ m) QE = _
  rw [ok_when, decide_eq_true_eq]
theorem oks_ok (f : Fl) : OkS (.ok f ρ m) QF = QF f ρ m := rfl
theorem oks_thn {α : Type} (x : M α) (k : α → Hm → RS) : OkS (thn x ρ k m) QF = Ok (x m) fun a m1 => OkS (k a m1) QF := by
  unfold thn
  cases x m <;> rfl
theorem oks_nx : OkS (sNx ρ m) QF = QF .nx ρ m := rfl
theorem oks_bk : OkS (sBk ρ m) QF = QF .bk ρ m := rfl
theorem oks_ct : OkS (sCt ρ m) QF = QF .ct ρ m := rfl
theorem oks_seq (s t : DS) : OkS (sSeq s t ρ m) QF = OkS (s ρ m) fun f ρ' m' => match f with
    | .nx => OkS (t ρ' m') QF
    | f => QF f ρ' m' := by
  unfold sSeq
  cases s ρ m with
  | ok f ρ' m' => cases f <;> rfl
  | _ => rfl
theorem oks_expr (d : D) : OkS (sExpr d ρ m) QF = Ok (d ρ m) fun _ m1 => QF .nx ρ m1 := by
  unfold sExpr
  rw [oks_thn]
  rfl
theorem oks_ret (d : D) : OkS (sRet d ρ m) QF = Ok (d ρ m) fun p m1 => QF (.rt p) ρ m1 := by
  unfold sRet
  rw [oks_thn]
  rfl
theorem oks_asg (d : D) (g : GD) : OkS (sAsg d g ρ m) QF = Ok (d ρ m) fun p m1 => Ok (g p ρ m1) fun ρ' m2 => QF .nx ρ' m2 := by
  unfold sAsg
  rw [oks_thn]
  congr 1
  funext p m1
  rw [oks_thn]
  rfl
theorem oks_set (i : Nat) (d : D) : OkS (sSet i d ρ m) QF = Ok (d ρ m) fun p m1 => QF .nx (ρ.set i (some p)) m1 := by
  unfold sSet
  rw [oks_asg]
  rfl
theorem oks_par2 (i j : Nat) (a : A) : OkS (sPar2 i j a ρ m) QF = Ok (a ρ m) fun ps m1 => match ps with
    | [p, q] => QF .nx ((ρ.set i (some p)).set j (some q)) m1
    | _ => False := by
  unfold sPar2
  rw [oks_thn]
  congr 1
  funext ps m1
  rcases ps with _ | ⟨p, _ | ⟨q, _ | ⟨r, t⟩⟩⟩ <;> rfl
theorem oks_par3 (i j l : Nat) (a : A) : OkS (sPar3 i j l a ρ m) QF = Ok (a ρ m) fun ps m1 => match ps with
    | [p, q, r] => QF .nx (((ρ.set i (some p)).set j (some q)).set l (some r)) m1
    | _ => False := by
  unfold sPar3
  rw [oks_thn]
  congr 1
  funext ps m1
  rcases ps with _ | ⟨p, _ | ⟨q, _ | ⟨r, _ | ⟨u, t⟩⟩⟩⟩ <;> rfl
theorem oks_if (c : T) (s t : DS) : OkS (sIf c s t ρ m) QF = Ok (c ρ m) fun k m1 => (k = true → OkS (s ρ m1) QF) ∧ (k = false → OkS (t ρ m1) QF) := by
  unfold sIf
  rw [oks_thn]
  congr 1
  funext k m1
  cases k
  · exact propext ⟨fun h => ⟨fun e => (nomatch e), fun _ => h⟩, fun h => h.2 rfl⟩
  · exact propext ⟨fun h => ⟨fun _ => h, fun e => (nomatch e)⟩, fun h => h.1 rfl⟩
theorem oks_put (o i v : D) : OkS (sPut o i v ρ m) QF = Ok (v ρ m) fun z m1 => Ok (o ρ m1) fun x m2 => Ok (i ρ m2) fun y m3 => Ok (setP x y z m3) fun _ m4 => QF .nx ρ m4 := by
  unfold sPut
  rw [oks_thn, ok_bnd]
  congr 1
  funext z m1
  rw [ok_bnd]
  congr 1
  funext x m2
  rw [ok_bnd]
  rfl
def putL (n : Nat) (ps : List P) (o : Option Nat) (z : P) : M Unit := match o with
  | some k => putO n (.lst (ps.set k z))
  | none => bad
theorem ok_setP (n : Nat) (y z : P) : setP (.ref n) y z = getO n fun o => match o with
    | .lst ps => match y with
      | .int j => putL n ps (L2.ixN ps.length j) z
      | _ => bad
    | _ => dStore n y z := rfl
theorem ok_putL (n : Nat) (ps : List P) (o : Option Nat) (z : P) (QU : Unit → Hm → Prop) : Ok (putL n ps o z m) QU = ∃ k, o = some k ∧ QU () (m.set n (.lst (ps.set k z))) := by
  unfold putL
  cases o with
  | none => exact propext ⟨fun h => False.elim h, fun ⟨a, h, _⟩ => (nomatch h)⟩
  | some a => exact propext ⟨fun h => ⟨a, rfl, h⟩, fun ⟨b, h, q⟩ => by cases h; exact q⟩
theorem ok_fnOf (n N : Nat) (s : DS) (args : List P) : Ok (fnOf n N s args m) Q = (args.length = n ∧ OkS (s (args.map some ++ List.replicate (N - n) none) m) fun f _ m' => match f with
    | .nx => Q .non m'
    | .rt p => Q p m'
    | _ => False) := by
  unfold fnOf
  by_cases h : args.length = n
  · rw [decide_eq_true h]
    simp only [h, true_and]
    cases s (args.map some ++ List.replicate (N - n) none) m with
    | ok f ρ' m' => cases f <;> rfl
    | _ => rfl
  · rw [decide_eq_false h]
    exact propext ⟨fun e => False.elim e, fun e => absurd e.1 h⟩
theorem ok_dDict (a : KA) : Ok (dDict a ρ m) Q = Ok (a ρ m) fun ps m1 => ∃ kvs, mapO keyed ps = some kvs ∧ kvs.length ≤ 15 ∧ Q (.ref m1.length) (m1 ++ [.dK (putsP kvs)]) := by
  unfold dDict
  rw [ok_bnd]
  congr 1
  funext ps m1
  rw [ok_bnd, ok_opt]
  congr 1
  funext kvs
  congr 1
  show Ok (when_ _ _ m1) Q = _
  rw [ok_when, decide_eq_true_eq]
  rfl
theorem ok_kNil (QK : List (P × P) → Hm → Prop) : Ok (kNil ρ m) QK = QK [] m := rfl
theorem ok_kCons (dk dv : D) (r : KA) (QK : List (P × P) → Hm → Prop) : Ok (kCons dk dv r ρ m) QK = Ok (dk ρ m) fun x m1 => Ok (dv ρ m1) fun y m2 => Ok (r ρ m2) fun xs m3 => QK ((x, y) :: xs) m3 := by
  unfold kCons
  rw [ok_bnd]
  congr 1
  funext x m1
  rw [ok_bnd]
  congr 1
  funext y m2
  rw [ok_bnd]
  rfl
def starO (a : A) (ρ : Env) (x : P) : M (List P) := match x with
  | .tup ps => bnd (a ρ) fun xs => ret (ps ++ xs)
  | .ref n => getO n fun o => match o with
    | .lst ps => bnd (a ρ) fun xs => ret (ps ++ xs)
    | _ => bad
  | _ => bad
theorem ok_aStar (d : D) (a : A) : Ok (aStar d a ρ m) QL = Ok (d ρ m) fun x m1 => Ok (starO a ρ x m1) QL := by
  unfold aStar
  rw [ok_bnd]
  rfl
theorem ok_star_tup (a : A) (ps : List P) : starO a ρ (.tup ps) = bnd (a ρ) fun xs => ret (ps ++ xs) := rfl
theorem ok_star_ref (a : A) (n : Nat) : starO a ρ (.ref n) = getO n fun o => match o with
    | .lst ps => bnd (a ρ) fun xs => ret (ps ++ xs)
    | _ => bad := rfl
/-! ### loops -/
theorem oks_for (src : SD) (g : GD) (s : DS) : OkS (sFor src g s ρ m) QF = Ok (src ρ m) fun sr m1 => OkS (forL sr g s (sr.len m1) 0 ρ m1) QF := by
  unfold sFor
  rw [oks_thn]
theorem forL_inv {src : Src} {g : GD} {s : DS} (I : Nat → Env → Hm → Prop) (len : Nat)
    (hat : ∀ i ρ m, i ≤ len → I i ρ m → (i < len → ∃ p, src.at i m = some (some p) ∧ Ok (g p ρ m) fun ρ1 m1 => OkS (s ρ1 m1) fun f ρ' m' => match f with
      | .nx => I (i + 1) ρ' m'
      | .ct => I (i + 1) ρ' m'
      | .bk => QF .nx ρ' m'
      | .rt p => QF (.rt p) ρ' m') ∧ (i = len → src.at i m = some none ∧ QF .nx ρ m)) :
    ∀ (f i : Nat) (ρ : Env) (m : Hm), i + f = len → I i ρ m → OkS (forL src g s f i ρ m) QF
  | 0, i, ρ, m, e, h => by
    have k := (hat i ρ m (by omega) h).2 (by omega)
    unfold forL
    rw [k.1]
    exact k.2
  | f + 1, i, ρ, m, e, h => by
    obtain ⟨p, k1, k2⟩ := (hat i ρ m (by omega) h).1 (by omega)
    unfold forL
    rw [k1]
    show OkS (thn (g p ρ) ρ _ m) QF
    rw [oks_thn]
    refine k2.mono fun ρ1 m1 h1 => ?_
    cases q : s ρ1 m1 with
    | ok fl ρ' m' =>
      rw [q] at h1
      cases fl with
      | nx => exact forL_inv I len hat f (i + 1) ρ' m' (by omega) h1
      | ct => exact forL_inv I len hat f (i + 1) ρ' m' (by omega) h1
      | bk => exact h1
      | rt p => exact h1
    | exc _ _ _ _ => rw [q] at h1; exact h1
    | bad => rw [q] at h1; exact h1
/-- over unchanging items -/
theorem for_seq {α : Type} {enc : α → P} {as : List α} {ps : List P} {g : GD} {s : DS} (he : ps = as.map enc) (I : List α → Env → Hm → Prop) (h0 : I [] ρ m)
    (hs : ∀ done a rest ρ m, as = done ++ a :: rest → I done ρ m → Ok (g (enc a) ρ m) fun ρ1 m1 => OkS (s ρ1 m1) fun f ρ' m' => match f with
      | .nx => I (done ++ [a]) ρ' m'
      | .ct => I (done ++ [a]) ρ' m'
      | .bk => QF .nx ρ' m'
      | .rt p => QF (.rt p) ρ' m')
    (hend : ∀ ρ m, I as ρ m → QF .nx ρ m) : OkS (forL (.seq ps) g s ((Src.seq ps).len m) 0 ρ m) QF := by
  subst he
  refine forL_inv (fun i ρ m => I (as.take i) ρ m) as.length (fun i ρ m hi h => ⟨fun hl => ?_, fun e => ?_⟩) _ 0 ρ m (by simp [Src.len]) (by simpa using h0)
  · refine ⟨enc as[i], by simp [Src.at, hl], ?_⟩
    have e : as = as.take i ++ as[i] :: as.drop (i + 1) := by
      rw [← List.drop_eq_getElem_cons hl, List.take_append_drop]
    have e2 : as.take (i + 1) = as.take i ++ [as[i]] := by
      rw [List.take_succ, List.getElem?_eq_getElem hl]; rfl
    rw [e2]
    exact hs _ _ _ ρ m e h
  · subst e
    exact ⟨by simp [Src.at], hend ρ m (by simpa using h)⟩
theorem while_inv {c : T} {s : DS} (I : Nat → Env → Hm → Prop)
    (hs : ∀ k ρ m, I k ρ m → Ok (c ρ m) fun b m1 => (b = true → OkS (s ρ m1) fun f ρ' m' => match f with
      | .nx => ∃ k', k' < k ∧ I k' ρ' m'
      | .ct => ∃ k', k' < k ∧ I k' ρ' m'
      | .bk => QF .nx ρ' m'
      | .rt p => QF (.rt p) ρ' m') ∧ (b = false → QF .nx ρ m1)) :
    ∀ (N k : Nat) (ρ : Env) (m : Hm), k < N → I k ρ m → OkS (sWhile c s N ρ m) QF
  | 0, k, ρ, m, e, h => absurd e (by omega)
  | N + 1, k, ρ, m, e, h => by
    unfold sWhile
    rw [oks_thn]
    refine (hs k ρ m h).mono fun b m1 hb => ?_
    cases b with
    | false => exact hb.2 rfl
    | true =>
      have h1 := hb.1 rfl
      show OkS (match s ρ m1 with
      | .ok .nx ρ' m' => sWhile c s N ρ' m'
      | .ok .ct ρ' m' => sWhile c s N ρ' m'
      | .ok .bk ρ' m' => .ok .nx ρ' m'
      | r => r) QF
      cases q : s ρ m1 with
      | ok fl ρ' m' =>
        rw [q] at h1
        cases fl with
        | nx => obtain ⟨k', hk, h2⟩ := h1; exact while_inv I hs N k' ρ' m' (by omega) h2
        | ct => obtain ⟨k', hk, h2⟩ := h1; exact while_inv I hs N k' ρ' m' (by omega) h2
        | bk => exact h1
        | rt p => exact h1
      | exc _ _ _ _ => rw [q] at h1; exact h1
      | bad => rw [q] at h1; exact h1
theorem compL_inv {src : Src} {g : GD} {t : T} {e : D} {ρ0 : Env} (I : Nat → List P → Hm → Prop) (len : Nat)
    (hat : ∀ i acc m, i ≤ len → I i acc m → (i < len → ∃ p, src.at i m = some (some p) ∧ Ok (g p ρ0 m) fun ρ1 m1 => Ok (t ρ1 m1) fun k m2 => (k = true → Ok (e ρ1 m2) fun y m3 => acc.length < SZ ∧ I (i + 1) (acc ++ [y]) m3) ∧ (k = false → I (i + 1) acc m2)) ∧ (i = len → src.at i m = some none ∧ QL acc m)) :
    ∀ (f i : Nat) (acc : List P) (m : Hm), i + f = len → I i acc m → Ok (compL g t e ρ0 src f i acc m) QL
  | 0, i, acc, m, h0, h => by
    have k := (hat i acc m (by omega) h).2 (by omega)
    unfold compL
    rw [k.1]
    exact k.2
  | f + 1, i, acc, m, h0, h => by
    obtain ⟨p, k1, k2⟩ := (hat i acc m (by omega) h).1 (by omega)
    unfold compL
    rw [k1]
    show Ok (bnd (g p ρ0) _ m) QL
    rw [ok_bnd]
    refine k2.mono fun ρ1 m1 h1 => ?_
    rw [ok_bnd]
    refine h1.mono fun k m2 h2 => ?_
    cases k with
    | true =>
      show Ok (bnd (e ρ1) _ m2) QL
      rw [ok_bnd]
      refine (h2.1 rfl).mono fun y m3 h3 => ?_
      rw [ok_when, decide_eq_true_eq]
      exact ⟨h3.1, compL_inv I len hat f (i + 1) _ m3 (by omega) h3.2⟩
    | false => exact compL_inv I len hat f (i + 1) _ m2 (by omega) (h2.2 rfl)
theorem ok_noX {α : Type} (x : M α) (QA : α → Hm → Prop) : Ok (noX x m) QA = Ok (x m) QA := by
  unfold noX
  cases x m <;> rfl
theorem ok_comp (src : SD) (g : GD) (t : T) (e : D) (own : List Nat) : Ok (lComp src g t e own ρ m) QL = Ok (src ρ m) fun s m1 => Ok (compL g t e (wipeE ρ own) s (s.len m1) 0 [] m1) QL := by
  unfold lComp
  rw [ok_bnd]
  congr 1
  funext s m1
  exact ok_noX (m := m1) (fun m => compL g t e (wipeE ρ own) s (s.len m) 0 [] m) QL
/-- a comprehension over unchanging items -/
theorem comp_seq {α : Type} {enc : α → P} {as : List α} {ps : List P} {g : GD} {t : T} {e : D} {ρ0 : Env} (he : ps = as.map enc) (hz : as.length ≤ SZ) (I : List α → List P → Hm → Prop) (h0 : I [] [] m)
    (hs : ∀ done a rest acc m, as = done ++ a :: rest → acc.length ≤ done.length → I done acc m → Ok (g (enc a) ρ0 m) fun ρ1 m1 => Ok (t ρ1 m1) fun k m2 => (k = true → Ok (e ρ1 m2) fun y m3 => I (done ++ [a]) (acc ++ [y]) m3) ∧ (k = false → I (done ++ [a]) acc m2))
    (hend : ∀ acc m, acc.length ≤ as.length → I as acc m → QL acc m) : Ok (compL g t e ρ0 (.seq ps) ((Src.seq ps).len m) 0 [] m) QL := by
  subst he
  refine compL_inv (fun i acc m => acc.length ≤ i ∧ I (as.take i) acc m) as.length (fun i acc m hi h => ⟨fun hl => ?_, fun e => ?_⟩) _ 0 [] m (by simp [Src.len]) (by simpa using h0)
  · refine ⟨enc as[i], by simp [Src.at, hl], ?_⟩
    have e : as = as.take i ++ as[i] :: as.drop (i + 1) := by
      rw [← List.drop_eq_getElem_cons hl, List.take_append_drop]
    have e2 : as.take (i + 1) = as.take i ++ [as[i]] := by
      rw [List.take_succ, List.getElem?_eq_getElem hl]; rfl
    rw [e2]
    have hlen : (as.take i).length = i := by rw [List.length_take]; omega
    refine (hs _ _ _ acc m e (by rw [hlen]; exact h.1) h.2).mono fun ρ1 m1 h1 => h1.mono fun k m2 h2 => ⟨fun hk => (h2.1 hk).mono fun y m3 h3 => ⟨by have := h.1; omega, by rw [List.length_append]; have := h.1; simp; omega, h3⟩, fun hk => ⟨by have := h.1; omega, h2.2 hk⟩⟩
  · subst e
    exact ⟨by simp [Src.at], hend acc m h.1 (by simpa using h.2)⟩
end

/-! ### frames -/
/-- from m to m': new things, the old ones but those at S as they were -/
def Fr (S : List Nat) (m m' : Hm) : Prop := m.length ≤ m'.length ∧ ∀ (i : Nat) (o : O), i ∉ S → m[i]? = some o → m'[i]? = some o
theorem Fr.refl (S : List Nat) (m : Hm) : Fr S m m := ⟨Nat.le_refl _, fun _ _ _ h => h⟩
theorem Fr.trans {S : List Nat} {m m1 m2 : Hm} (a : Fr S m m1) (b : Fr S m1 m2) : Fr S m m2 := ⟨Nat.le_trans a.1 b.1, fun i o n h => b.2 i o n (a.2 i o n h)⟩
theorem Fr.sub {S S' : List Nat} {m m1 : Hm} (a : Fr S m m1) (h : ∀ s ∈ S, s ∈ S' ∨ m.length ≤ s) : Fr S' m m1 := ⟨a.1, fun i o n e => a.2 i o (fun hi => by
  rcases h i hi with h | h
  · exact n h
  · have := (List.getElem?_eq_some_iff.mp e).1; omega) e⟩
theorem Fr.new (S : List Nat) (m : Hm) (o : O) : Fr S m (m ++ [o]) := ⟨by simp, fun i u _ h => by rw [List.getElem?_append_left (List.getElem?_eq_some_iff.mp h).1]; exact h⟩
theorem Fr.set {S : List Nat} {m : Hm} {n : Nat} {o : O} (h : n ∈ S) : Fr S m (m.set n o) := ⟨by simp, fun i u hi e => by
  rw [List.getElem?_set_ne (fun (z : n = i) => hi (by rw [← z]; exact h))]; exact e⟩
theorem Fr.get {S : List Nat} {m m' : Hm} (a : Fr S m m') {i : Nat} {o : O} (h : m[i]? = some o) (n : i ∉ S := by simp) : m'[i]? = some o := a.2 i o n h
theorem new_get (m : Hm) (o : O) : (m ++ [o])[m.length]? = some o := by simp
theorem set_get {m : Hm} {n : Nat} {o u : O} (h : m[n]? = some u) : (m.set n o)[n]? = some o := by
  rw [List.getElem?_set_self (List.getElem?_eq_some_iff.mp h).1]
theorem lt_of_get {m : Hm} {n : Nat} {o : O} (h : m[n]? = some o) : n < m.length := (List.getElem?_eq_some_iff.mp h).1
end G

/-! Q2: data, drawn numbers. -/
namespace G
open PySem (Str PyData)
theorem scal_int (i j : Int) : scalP (.int i) (.int j) = some (decide (i = j)) := rfl
theorem scal_str (i j : Str) : scalP (.str i) (.str j) = some (decide (i = j)) := rfl
theorem scal_bl (i j : Bool) : scalP (.bl i) (.bl j) = some (decide (i = j)) := rfl
theorem scal_non : scalP .non .non = some true := rfl
theorem scal_tup (ps : List P) (q : P) : scalP (.tup ps) q = none := by cases q <;> rfl
theorem scal_ref (n : Nat) (q : P) : scalP (.ref n) q = none := by cases q <;> rfl
/-! ### data -/
theorem dat_int (m : Hm) (f : Nat) (i : Int) : dat m f (.int i) = some (.int i) := by cases f <;> rfl
theorem dat_str (m : Hm) (f : Nat) (i : Str) : dat m f (.str i) = some (.str i) := by cases f <;> rfl
theorem dat_bl (m : Hm) (f : Nat) (i : Bool) : dat m f (.bl i) = some (.bool i) := by cases f <;> rfl
theorem dat_non (m : Hm) (f : Nat) : dat m f .non = some .none := by cases f <;> rfl
theorem dat_tup (m : Hm) (f : Nat) (ps : List P) : dat m (f + 1) (.tup ps) = (mapO (dat m f) ps).map .tuple := rfl
/-! ### dicts by their keys -/
/-- a dict's value at a key; what it becomes -/
def lookO (n : Nat) (k : P) (o : O) : M (Option P) := match o with
  | .dK kvs => match keyOf k with
    | some q => ret (vGet kvs q)
    | none => match kvs with
      | [] => match tkeyOf k with
        | some _ => bnd (putO n (.dT [])) fun _ => ret none
        | none => bad
      | _ => bad
  | .dT kvs => match tkeyOf k with
    | some q => ret (vGet kvs q)
    | none => bad
  | _ => bad
def storeO (n : Nat) (k v : P) (o : O) : M Unit := match o with
  | .dK kvs => match keyOf k with
    | some q => when_ (decide (kvs.length < SZ)) (putO n (.dK (vPut kvs q v)))
    | none => match kvs with
      | [] => match tkeyOf k with
        | some q => putO n (.dT [(q, v)])
        | none => bad
      | _ => bad
  | .dT kvs => match tkeyOf k with
    | some q => when_ (decide (kvs.length < SZ)) (putO n (.dT (vPut kvs q v)))
    | none => bad
  | _ => bad
theorem ok_look (n : Nat) (k : P) : dLook n k = getO n (lookO n k) := by
  funext m
  unfold dLook getO lookO
  rcases m[n]? with _ | o
  · rfl
  · cases o with
    | dK kvs =>
      dsimp only
      cases keyOf k with
      | some q => rfl
      | none =>
        cases kvs with
        | nil => dsimp only; cases tkeyOf k <;> rfl
        | cons _ _ => rfl
    | dT kvs => dsimp only; cases tkeyOf k <;> rfl
    | _ => rfl
theorem ok_store (n : Nat) (k v : P) : dStore n k v = getO n (storeO n k v) := by
  funext m
  unfold dStore getO storeO when_
  rcases m[n]? with _ | o
  · rfl
  · cases o with
    | dK kvs =>
      dsimp only
      cases keyOf k with
      | some q => dsimp only; cases decide (kvs.length < SZ) <;> rfl
      | none =>
        cases kvs with
        | nil => dsimp only; cases tkeyOf k <;> rfl
        | cons _ _ => rfl
    | dT kvs =>
      dsimp only
      cases tkeyOf k with
      | some q => dsimp only; cases decide (kvs.length < SZ) <;> rfl
      | none => rfl
    | _ => rfl
theorem ok_lookO_int (n : Nat) (i : Int) (kvs : List (L2.Key × P)) : lookO n (.int i) (.dK kvs) = ret (vGet kvs (.inl i)) := rfl
theorem ok_lookO_str (n : Nat) (i : Str) (kvs : List (L2.Key × P)) : lookO n (.str i) (.dK kvs) = ret (vGet kvs (.inr i)) := rfl
theorem ok_storeO_int (n : Nat) (i : Int) (v : P) (kvs : List (L2.Key × P)) : storeO n (.int i) v (.dK kvs) = when_ (decide (kvs.length < SZ)) (putO n (.dK (vPut kvs (.inl i) v))) := rfl
theorem ok_storeO_str (n : Nat) (i : Str) (v : P) (kvs : List (L2.Key × P)) : storeO n (.str i) v (.dK kvs) = when_ (decide (kvs.length < SZ)) (putO n (.dK (vPut kvs (.inr i) v))) := rfl
theorem key_int (i : Int) : keyOf (.int i) = some (.inl i) := rfl
theorem key_str (x : Str) : keyOf (.str x) = some (.inr x) := rfl
theorem key_tup (ps : List P) : keyOf (.tup ps) = none := rfl
theorem in_tup (x : P) (ps : List P) : inP x (.tup ps) = inT x (.tup ps) := rfl
theorem ok_in (x y : P) (m : Hm) (Q : P → Hm → Prop) : Ok (oIn x y m) Q = Ok (inP x y m) fun b m' => Q (.bl b) m' := by
  unfold oIn
  rw [ok_bnd]
  rfl
theorem ok_notIn (x y : P) (m : Hm) (Q : P → Hm → Prop) : Ok (oNotIn x y m) Q = Ok (inP x y m) fun b m' => Q (.bl (!b)) m' := by
  unfold oNotIn
  rw [ok_bnd]
  rfl
/-! ### the source of drawn numbers -/
abbrev srcD (c : Nat) (l x t : Int) : List (L2.Key × P) := [(.inr "cells", .ref c), (.inr "left", .int l), (.inr "mixed", .int x), (.inr "turn", .int t)]
theorem src_cells (c : Nat) (l x t : Int) : vGet (srcD c l x t) (.inr "cells") = some (.ref c) := rfl
theorem src_left (c : Nat) (l x t : Int) : vGet (srcD c l x t) (.inr "left") = some (.int l) := rfl
theorem src_mixed (c : Nat) (l x t : Int) : vGet (srcD c l x t) (.inr "mixed") = some (.int x) := rfl
theorem src_turn (c : Nat) (l x t : Int) : vGet (srcD c l x t) (.inr "turn") = some (.int t) := rfl
theorem put_left (c : Nat) (l x t : Int) (y : Int) : vPut (srcD c l x t) (.inr "left") (.int y) = srcD c y x t := rfl
theorem put_mixed (c : Nat) (l x t : Int) (y : Int) : vPut (srcD c l x t) (.inr "mixed") (.int y) = srcD c l y t := rfl
theorem put_turn (c : Nat) (l x t : Int) (y : Int) : vPut (srcD c l x t) (.inr "turn") (.int y) = srcD c l x y := rfl
/-- at n a source stands, its cells at c -/
structure IsSrc (m : Hm) (n c : Nat) : Prop where
  ne : n ≠ c
  at_ : ∃ (l x t : Int) (cs : List Int), m[n]? = some (.dK (srcD c l x t)) ∧ m[c]? = some (.lst (cs.map .int)) ∧ cs.length ≤ 63
theorem IsSrc.fr {S : List Nat} {m m' : Hm} {n c : Nat} (h : IsSrc m n c) (f : Fr S m m') (hn : n ∉ S := by simp) (hc : c ∉ S := by simp) : IsSrc m' n c := by
  obtain ⟨ne, l, x, t, cs, h1, h2, hz⟩ := h
  exact ⟨ne, l, x, t, cs, f.get h1 hn, f.get h2 hc, hz⟩
/-- a number below k is drawn (0 if k < 2) -/
def Drawn (n c : Nat) (k : Int) (m : Hm) (p : P) (m' : Hm) : Prop := ∃ r : Int, p = .int r ∧ 0 ≤ r ∧ (r < k ∨ r = 0) ∧ IsSrc m' n c ∧ Fr [n, c] m m' ∧ m'.length = m.length
def D_pickB : DS :=
    (sSeq (sIf (tVal (dOp oLt (dVar 1) (dC (.int 2)))) (sRet (dC (.int 0))) sNx)
    (sSeq (sSet 2 (dOp oIx (dVar 0) (dC (.str "cells"))))
    (sSeq (sWhile (tAnd (tVal (dOp oLt (dOp oIx (dVar 0) (dC (.str "left"))) (dC (.int 2)))) (tVal (dOp oGt (dCall (one bLen) (aCons (dVar 2) aNil)) (dC (.int 0))))) (sPut (dVar 0) (dC (.str "left")) (dMeth0 chkL mPop (dVar 2))) FU)
    (sSeq (sSet 3 (dOp oIx (dVar 0) (dC (.str "left"))))
    (sSeq (sIf (tVal (dOp oGt (dVar 3) (dC (.int 1)))) (sSeq (sPut (dVar 0) (dC (.str "left")) (dOp oDiv (dVar 3) (dVar 1)))
    (sRet (dOp oMod (dCall (one bInt) (aCons (dVar 3) aNil)) (dVar 1)))) sNx)
    (sSeq (sPut (dVar 0) (dC (.str "turn")) (dOp oAdd (dOp oIx (dVar 0) (dC (.str "turn"))) (dC (.int 1))))
    (sSeq (sSet 4 (dOp oIx (dVar 0) (dC (.str "turn"))))
    (sSeq (sSet 5 (dOp oMod (dCall (one bInt) (aCons (dOp oAdd (dOp oIx (dVar 0) (dC (.str "mixed"))) (dOp oMul (dVar 4) (dC (.int 104729)))) aNil)) (dC (.int 998244353))))
    (sSeq (sSet 5 (dOp oMod (dCall (one bInt) (aCons (dOp oAdd (dOp oMul (dVar 5) (dVar 5)) (dOp oMul (dVar 4) (dC (.int 17)))) aNil)) (dC (.int 2147483647))))
    (sRet (dOp oMod (dCall (one bInt) (aCons (dOp oDiv (dVar 5) (dC (.int 16))) aNil)) (dVar 1))))))))))))
def F_pickB : List P → M P := fnOf 2 6 (D_pickB )
def D_pickA : DS :=
    (sSeq (sWhile (tAnd (tVal (dOp oGt (dVar 1) (dC (.int 1)))) (tAnd (tVal (dOp oLt (dOp oIx (dVar 0) (dC (.str "left"))) (dC (.int 2)))) (tVal (dOp oGt (dCall (one bLen) (aCons (dOp oIx (dVar 0) (dC (.str "cells"))) aNil)) (dC (.int 0)))))) (sPut (dVar 0) (dC (.str "left")) (dMeth0 chkL mPop (dOp oIx (dVar 0) (dC (.str "cells"))))) FU)
    (sSeq (sSet 2 (dOp oIx (dVar 0) (dC (.str "left"))))
    (sSeq (sIf (tOr (tVal (dOp oLt (dVar 1) (dC (.int 2)))) (tVal (dOp oGt (dVar 2) (dC (.int 1))))) (sSeq (sPut (dVar 0) (dC (.str "left")) (dOp oDiv (dVar 2) (dCall (two bMax2) (aCons (dC (.int 1)) (aCons (dVar 1) aNil)))))
    (sRet (dOp oMod (dCall (one bInt) (aCons (dVar 2) aNil)) (dCall (two bMax2) (aCons (dC (.int 1)) (aCons (dVar 1) aNil)))))) sNx)
    (sSeq (sPut (dVar 0) (dC (.str "turn")) (dOp oAdd (dOp oIx (dVar 0) (dC (.str "turn"))) (dC (.int 1))))
    (sSeq (sSet 3 (dOp oMod (dCall (one bInt) (aCons (dOp oAdd (dOp oIx (dVar 0) (dC (.str "mixed"))) (dOp oMul (dOp oIx (dVar 0) (dC (.str "turn"))) (dC (.int 104729)))) aNil)) (dC (.int 998244353))))
    (sSeq (sSet 3 (dOp oMod (dCall (one bInt) (aCons (dOp oAdd (dOp oMul (dVar 3) (dVar 3)) (dOp oMul (dOp oIx (dVar 0) (dC (.str "turn"))) (dC (.int 17)))) aNil)) (dC (.int 2147483647))))
    (sSeq (sPut (dVar 0) (dC (.str "mixed")) (dVar 3))
    (sRet (dOp oMod (dCall (one bInt) (aCons (dOp oDiv (dVar 3) (dC (.int 16))) aNil)) (dVar 1))))))))))
def F_pickA : List P → M P := fnOf 2 4 (D_pickA )
def D_of (c__law_pick : List P → M P) : DS :=
    (sRet (dOp oIx (dVar 1) (dCall c__law_pick (aCons (dVar 0) (aCons (dCall (one bLen) (aCons (dVar 1) aNil)) aNil)))))
def F_of (c__law_pick : List P → M P) : List P → M P := fnOf 2 2 (D_of c__law_pick)
def D_srcB : DS :=
    (sSeq (sSet 1 (dC (.int 11)))
    (sSeq (sFor (sOf (dVar 0)) (gName 2) (sSet 1 (dOp oMod (dCall (one bInt) (aCons (dOp oAdd (dOp oAdd (dOp oMul (dVar 1) (dC (.int 69069))) (dOp oMul (dVar 2) (dC (.int 31)))) (dC (.int 5))) aNil)) (dC (.int 2147483629)))))
    (sSeq (sSet 3 (dNew (lComp (sOf (dVar 0)) (gName 2) tYes (dCall (one bAbs) (aCons (dVar 2) aNil)) [2])))
    (sRet (dDict (kCons (dC (.str "cells")) (dRev (dVar 3)) (kCons (dC (.str "left")) (dC (.int 1)) (kCons (dC (.str "mixed")) (dVar 1) (kCons (dC (.str "turn")) (dC (.int 0)) kNil)))))))))
def F_srcB : List P → M P := fnOf 1 4 (D_srcB )
def D_srcA : DS :=
    (sSeq (sSet 1 (dC (.int 11)))
    (sSeq (sFor (sOf (dVar 0)) (gName 2) (sSet 1 (dOp oMod (dCall (one bInt) (aCons (dOp oAdd (dOp oAdd (dOp oMul (dVar 1) (dC (.int 69069))) (dOp oMul (dVar 2) (dC (.int 31)))) (dC (.int 5))) aNil)) (dC (.int 2147483629)))))
    (sRet (dDict (kCons (dC (.str "cells")) (dNew (lRev (lComp (sOf (dVar 0)) (gName 2) tYes (dCall (one bAbs) (aCons (dVar 2) aNil)) [2]))) (kCons (dC (.str "left")) (dC (.int 1)) (kCons (dC (.str "mixed")) (dVar 1) (kCons (dC (.str "turn")) (dC (.int 0)) kNil))))))))
def F_srcA : List P → M P := fnOf 1 3 (D_srcA )
theorem last_int (cs : List Int) (h : 0 < cs.length) : (cs.map P.int)[cs.length - 1]? = some (.int (cs.getLast (List.length_pos_iff.mp h))) := by
  rw [List.getElem?_map, List.getLast_eq_getElem, List.getElem?_eq_getElem (by omega)]
  rfl
/-- a source, told whole -/
structure SrcAt (m : Hm) (n c : Nat) (l x t : Int) (cs : List Int) : Prop where
  ne : n ≠ c
  h1 : m[n]? = some (.dK (srcD c l x t))
  h2 : m[c]? = some (.lst (cs.map .int))
  hz : cs.length ≤ 63
theorem SrcAt.is {m : Hm} {n c : Nat} {l x t : Int} {cs : List Int} (h : SrcAt m n c l x t cs) : IsSrc m n c := ⟨h.ne, l, x, t, cs, h.h1, h.h2, h.hz⟩
theorem SrcAt.put {m : Hm} {n c : Nat} {l x t : Int} {cs : List Int} (h : SrcAt m n c l x t cs) (l' x' t' : Int) : SrcAt (m.set n (.dK (srcD c l' x' t'))) n c l' x' t' cs :=
  ⟨h.ne, set_get h.h1, by rw [List.getElem?_set_ne h.ne]; exact h.h2, h.hz⟩
theorem Fr.set2 {m m' : Hm} {n c : Nat} {o : O} (f : Fr [n, c] m m') : Fr [n, c] m (m'.set n o) := f.trans (Fr.set (by simp))
theorem SrcAt.pop {m : Hm} {n c : Nat} {l x t : Int} {cs : List Int} (h : SrcAt m n c l x t cs) : SrcAt (m.set c (.lst (List.map P.int cs).dropLast)) n c l x t cs.dropLast :=
  ⟨h.ne, by rw [List.getElem?_set_ne h.ne.symm]; exact h.h1, by rw [set_get h.h2, List.map_dropLast], by have := h.hz; simp; omega⟩
theorem Fr.setc {m m' : Hm} {n c : Nat} {o : O} (f : Fr [n, c] m m') : Fr [n, c] m (m'.set c o) := f.trans (Fr.set (by simp))
theorem szp : (4 : Nat) < SZ := by decide
theorem em_nn (a : Int) {k : Int} (h : 0 < k) : 0 ≤ a % k := Int.emod_nonneg _ (by omega)
theorem em_lt (a : Int) {k : Int} (h : 0 < k) : a % k < k := Int.emod_lt_of_pos _ h
theorem sq_ok {a k : Int} (h : 0 < k) (h' : k < 18446744073709551616) : cMul (a % k) (a % k) = true := cMul_left (by have := em_nn a h; have := em_lt a h; omega)
theorem pickB_ok {m : Hm} {n c : Nat} {k : Int} (h : IsSrc m n c) (hk : k < 18446744073709551616) : Ok (F_pickB [.ref n, .int k] m) (Drawn n c k m) := by
  obtain ⟨ne, l, x, t, cs, h1, h2, hz⟩ := h
  unfold F_pickB D_pickB
  simp only [ok_ok, ok_ret, ok_bnd, ok_when, ok_opt, ok_getO, ok_putO, ok_newO, ok_dVar, ok_dC, ok_aNil, ok_aCons, ok_dOp, ok_dUn, ok_dTup, ok_lLst, ok_dNew, ok_dIf, ok_dCall, ok_tVal, ok_asB, ok_tTru, ok_truth_bl, ok_truth_int, ok_truth_non, ok_truth_tup, ok_tYes, ok_tAnd, ok_tOr, ok_tNot, ok_dAnd, ok_dOr, ok_uNot, ok_dChain, ok_add_int, ok_add_tup, ok_add_str, ok_add_ref, ok_sub, ok_mul, ok_mul_lst, ok_mulT, ok_div, ok_mod, ok_pow, ok_shl, ok_shr, ok_band, ok_bor, ok_xor, ok_neg, ok_lt, ok_le, ok_gt, ok_ge, ok_asD, ok_eqD, ok_eq_int, ok_eq_str, ok_eq_bl, ok_eq_non, ok_eq_tup, ok_eq_ref, ok_eq_it, ok_eq_in, ok_eq_nt, ok_eq_ni, ok_ne_int, ok_ne_str, ok_ne_bl, ok_ne_non, ok_ne_tup, ok_ne_ref, ok_ne_it, ok_ne_in, ok_ne_nt, ok_ne_ni, ok_isN, ok_notN, ok_ix_tup, ok_ix_scr, ok_ix_ref, ok_pNone, ok_pSome, ok_dSl, ok_sl_tup, ok_sl_ref, ok_dRev, ok_rev_ref, ok_lRev, ok_one, ok_two, ok_abs, ok_bint, ok_bint_bl, ok_max2, ok_min2, ok_len_tup, ok_len_scr, ok_len_str, ok_len_ref, ok_btup_tup, ok_btup_scr, ok_btup_ref, ok_dL, ok_lThen, ok_dV, ok_lV, ok_dR, ok_items_tup, ok_items_scr, ok_items_ref, ok_itemsR_scr, ok_itemsR_ref, ok_lId, ok_nTup, ok_nLen, ok_nSum, ok_nAny, ok_nAll, ok_rg1, ok_asI, ok_rg2, ok_lRg, ok_dTupRg, ok_meth0, ok_meth1, ok_methL, ok_chkL, ok_append, ok_extend, ok_pop, ok_popO, ok_sOf, ok_srcOf_tup, ok_srcOf_scr, ok_srcOf_kt, ok_srcOf_ref, ok_sOfL, ok_sEnum, ok_enumOf_tup, ok_enumOf_ref, ok_sRange1, ok_sRange2, ok_gName, ok_gNil, ok_gCons, ok_gTup, oks_ok, oks_thn, oks_nx, oks_bk, oks_ct, oks_seq, oks_expr, oks_ret, oks_asg, oks_set, oks_par2, oks_par3, oks_if, oks_put, ok_setP, ok_putL, ok_fnOf, ok_dDict, ok_kNil, ok_kCons, ok_aStar, ok_star_tup, ok_star_ref, oks_for, ok_comp, scal_int, scal_str, scal_bl, scal_non, scal_tup, scal_ref, dat_int, dat_str, dat_bl, dat_non, dat_tup, ok_look, ok_store, ok_lookO_int, ok_lookO_str, ok_storeO_int, ok_storeO_str, ok_in, ok_notIn, List.getElem?_cons_zero, List.getElem?_cons_succ, List.set_cons_zero, List.set_cons_succ, List.length_cons, List.length_nil, List.map_cons, List.map_nil, List.replicate_succ, List.replicate_zero, List.cons_append, List.nil_append, Nat.reduceSub, Nat.reduceAdd, Nat.zero_add, true_and, and_true, decide_eq_true_eq, decide_eq_false_iff_not, Bool.not_eq_true', Bool.not_eq_false', forall_const, Bool.false_eq_true, Bool.true_eq_false, false_implies, true_implies, reduceCtorEq, Bool.not_true, Bool.not_false, wipeE, reduceIte, and_self, Option.some.injEq, exists_eq_left', exists_eq_left, List.getElem?_nil, List.length_map]
  refine ⟨fun h0 => ⟨0, rfl, by omega, by omega, ⟨ne, l, x, t, cs, h1, h2, hz⟩, Fr.refl _ _, rfl⟩, fun h0 => ?_⟩
  simp only [ok_ok, ok_ret, ok_bnd, ok_when, ok_opt, ok_getO, ok_putO, ok_newO, ok_dVar, ok_dC, ok_aNil, ok_aCons, ok_dOp, ok_dUn, ok_dTup, ok_lLst, ok_dNew, ok_dIf, ok_dCall, ok_tVal, ok_asB, ok_tTru, ok_truth_bl, ok_truth_int, ok_truth_non, ok_truth_tup, ok_tYes, ok_tAnd, ok_tOr, ok_tNot, ok_dAnd, ok_dOr, ok_uNot, ok_dChain, ok_add_int, ok_add_tup, ok_add_str, ok_add_ref, ok_sub, ok_mul, ok_mul_lst, ok_mulT, ok_div, ok_mod, ok_pow, ok_shl, ok_shr, ok_band, ok_bor, ok_xor, ok_neg, ok_lt, ok_le, ok_gt, ok_ge, ok_asD, ok_eqD, ok_eq_int, ok_eq_str, ok_eq_bl, ok_eq_non, ok_eq_tup, ok_eq_ref, ok_eq_it, ok_eq_in, ok_eq_nt, ok_eq_ni, ok_ne_int, ok_ne_str, ok_ne_bl, ok_ne_non, ok_ne_tup, ok_ne_ref, ok_ne_it, ok_ne_in, ok_ne_nt, ok_ne_ni, ok_isN, ok_notN, ok_ix_tup, ok_ix_scr, ok_ix_ref, ok_pNone, ok_pSome, ok_dSl, ok_sl_tup, ok_sl_ref, ok_dRev, ok_rev_ref, ok_lRev, ok_one, ok_two, ok_abs, ok_bint, ok_bint_bl, ok_max2, ok_min2, ok_len_tup, ok_len_scr, ok_len_str, ok_len_ref, ok_btup_tup, ok_btup_scr, ok_btup_ref, ok_dL, ok_lThen, ok_dV, ok_lV, ok_dR, ok_items_tup, ok_items_scr, ok_items_ref, ok_itemsR_scr, ok_itemsR_ref, ok_lId, ok_nTup, ok_nLen, ok_nSum, ok_nAny, ok_nAll, ok_rg1, ok_asI, ok_rg2, ok_lRg, ok_dTupRg, ok_meth0, ok_meth1, ok_methL, ok_chkL, ok_append, ok_extend, ok_pop, ok_popO, ok_sOf, ok_srcOf_tup, ok_srcOf_scr, ok_srcOf_kt, ok_srcOf_ref, ok_sOfL, ok_sEnum, ok_enumOf_tup, ok_enumOf_ref, ok_sRange1, ok_sRange2, ok_gName, ok_gNil, ok_gCons, ok_gTup, oks_ok, oks_thn, oks_nx, oks_bk, oks_ct, oks_seq, oks_expr, oks_ret, oks_asg, oks_set, oks_par2, oks_par3, oks_if, oks_put, ok_setP, ok_putL, ok_fnOf, ok_dDict, ok_kNil, ok_kCons, ok_aStar, ok_star_tup, ok_star_ref, oks_for, ok_comp, scal_int, scal_str, scal_bl, scal_non, scal_tup, scal_ref, dat_int, dat_str, dat_bl, dat_non, dat_tup, ok_look, ok_store, ok_lookO_int, ok_lookO_str, ok_storeO_int, ok_storeO_str, ok_in, ok_notIn, List.getElem?_cons_zero, List.getElem?_cons_succ, List.set_cons_zero, List.set_cons_succ, List.length_cons, List.length_nil, List.map_cons, List.map_nil, List.replicate_succ, List.replicate_zero, List.cons_append, List.nil_append, Nat.reduceSub, Nat.reduceAdd, Nat.zero_add, true_and, and_true, decide_eq_true_eq, decide_eq_false_iff_not, Bool.not_eq_true', Bool.not_eq_false', forall_const, Bool.false_eq_true, Bool.true_eq_false, false_implies, true_implies, reduceCtorEq, Bool.not_true, Bool.not_false, wipeE, reduceIte, and_self, Option.some.injEq, exists_eq_left', exists_eq_left, List.getElem?_nil, List.length_map, h1, key_str, src_cells]
  refine (while_inv (QF := fun f ρ m' => f = .nx ∧ ρ = [some (.ref n), some (.int k), some (.ref c), none, none, none] ∧ Fr [n, c] m m' ∧ m'.length = m.length ∧ ∃ l cs, SrcAt m' n c l x t cs) (fun j ρ m' => ρ = [some (.ref n), some (.int k), some (.ref c), none, none, none] ∧ Fr [n, c] m m' ∧ m'.length = m.length ∧ ∃ l cs, j = cs.length ∧ SrcAt m' n c l x t cs) ?_ FU cs.length _ _ ?_ ?_).mono ?_
  · rintro j ρ m' ⟨rfl, fr, hl, l, cs, rfl, S⟩
    simp only [ok_ok, ok_ret, ok_bnd, ok_when, ok_opt, ok_getO, ok_putO, ok_newO, ok_dVar, ok_dC, ok_aNil, ok_aCons, ok_dOp, ok_dUn, ok_dTup, ok_lLst, ok_dNew, ok_dIf, ok_dCall, ok_tVal, ok_asB, ok_tTru, ok_truth_bl, ok_truth_int, ok_truth_non, ok_truth_tup, ok_tYes, ok_tAnd, ok_tOr, ok_tNot, ok_dAnd, ok_dOr, ok_uNot, ok_dChain, ok_add_int, ok_add_tup, ok_add_str, ok_add_ref, ok_sub, ok_mul, ok_mul_lst, ok_mulT, ok_div, ok_mod, ok_pow, ok_shl, ok_shr, ok_band, ok_bor, ok_xor, ok_neg, ok_lt, ok_le, ok_gt, ok_ge, ok_asD, ok_eqD, ok_eq_int, ok_eq_str, ok_eq_bl, ok_eq_non, ok_eq_tup, ok_eq_ref, ok_eq_it, ok_eq_in, ok_eq_nt, ok_eq_ni, ok_ne_int, ok_ne_str, ok_ne_bl, ok_ne_non, ok_ne_tup, ok_ne_ref, ok_ne_it, ok_ne_in, ok_ne_nt, ok_ne_ni, ok_isN, ok_notN, ok_ix_tup, ok_ix_scr, ok_ix_ref, ok_pNone, ok_pSome, ok_dSl, ok_sl_tup, ok_sl_ref, ok_dRev, ok_rev_ref, ok_lRev, ok_one, ok_two, ok_abs, ok_bint, ok_bint_bl, ok_max2, ok_min2, ok_len_tup, ok_len_scr, ok_len_str, ok_len_ref, ok_btup_tup, ok_btup_scr, ok_btup_ref, ok_dL, ok_lThen, ok_dV, ok_lV, ok_dR, ok_items_tup, ok_items_scr, ok_items_ref, ok_itemsR_scr, ok_itemsR_ref, ok_lId, ok_nTup, ok_nLen, ok_nSum, ok_nAny, ok_nAll, ok_rg1, ok_asI, ok_rg2, ok_lRg, ok_dTupRg, ok_meth0, ok_meth1, ok_methL, ok_chkL, ok_append, ok_extend, ok_pop, ok_popO, ok_sOf, ok_srcOf_tup, ok_srcOf_scr, ok_srcOf_kt, ok_srcOf_ref, ok_sOfL, ok_sEnum, ok_enumOf_tup, ok_enumOf_ref, ok_sRange1, ok_sRange2, ok_gName, ok_gNil, ok_gCons, ok_gTup, oks_ok, oks_thn, oks_nx, oks_bk, oks_ct, oks_seq, oks_expr, oks_ret, oks_asg, oks_set, oks_par2, oks_par3, oks_if, oks_put, ok_setP, ok_putL, ok_fnOf, ok_dDict, ok_kNil, ok_kCons, ok_aStar, ok_star_tup, ok_star_ref, oks_for, ok_comp, scal_int, scal_str, scal_bl, scal_non, scal_tup, scal_ref, dat_int, dat_str, dat_bl, dat_non, dat_tup, ok_look, ok_store, ok_lookO_int, ok_lookO_str, ok_storeO_int, ok_storeO_str, ok_in, ok_notIn, List.getElem?_cons_zero, List.getElem?_cons_succ, List.set_cons_zero, List.set_cons_succ, List.length_cons, List.length_nil, List.map_cons, List.map_nil, List.replicate_succ, List.replicate_zero, List.cons_append, List.nil_append, Nat.reduceSub, Nat.reduceAdd, Nat.zero_add, true_and, and_true, decide_eq_true_eq, decide_eq_false_iff_not, Bool.not_eq_true', Bool.not_eq_false', forall_const, Bool.false_eq_true, Bool.true_eq_false, false_implies, true_implies, reduceCtorEq, Bool.not_true, Bool.not_false, wipeE, reduceIte, and_self, Option.some.injEq, exists_eq_left', exists_eq_left, List.getElem?_nil, List.length_map, S.h1, S.h2, src_left]
    have fin : Fr [n, c] m m' ∧ List.length m' = List.length m ∧ ∃ l cs, SrcAt m' n c l x t cs := ⟨fr, hl, l, cs, S⟩
    refine ⟨fun _ => ⟨fun hp => ?_, fun _ => fin⟩, fun _ => fin⟩
    have hp : 0 < cs.length := by omega
    refine ⟨_, last_int cs hp, ?_⟩
    simp only [ok_ok, ok_ret, ok_bnd, ok_when, ok_opt, ok_getO, ok_putO, ok_newO, ok_dVar, ok_dC, ok_aNil, ok_aCons, ok_dOp, ok_dUn, ok_dTup, ok_lLst, ok_dNew, ok_dIf, ok_dCall, ok_tVal, ok_asB, ok_tTru, ok_truth_bl, ok_truth_int, ok_truth_non, ok_truth_tup, ok_tYes, ok_tAnd, ok_tOr, ok_tNot, ok_dAnd, ok_dOr, ok_uNot, ok_dChain, ok_add_int, ok_add_tup, ok_add_str, ok_add_ref, ok_sub, ok_mul, ok_mul_lst, ok_mulT, ok_div, ok_mod, ok_pow, ok_shl, ok_shr, ok_band, ok_bor, ok_xor, ok_neg, ok_lt, ok_le, ok_gt, ok_ge, ok_asD, ok_eqD, ok_eq_int, ok_eq_str, ok_eq_bl, ok_eq_non, ok_eq_tup, ok_eq_ref, ok_eq_it, ok_eq_in, ok_eq_nt, ok_eq_ni, ok_ne_int, ok_ne_str, ok_ne_bl, ok_ne_non, ok_ne_tup, ok_ne_ref, ok_ne_it, ok_ne_in, ok_ne_nt, ok_ne_ni, ok_isN, ok_notN, ok_ix_tup, ok_ix_scr, ok_ix_ref, ok_pNone, ok_pSome, ok_dSl, ok_sl_tup, ok_sl_ref, ok_dRev, ok_rev_ref, ok_lRev, ok_one, ok_two, ok_abs, ok_bint, ok_bint_bl, ok_max2, ok_min2, ok_len_tup, ok_len_scr, ok_len_str, ok_len_ref, ok_btup_tup, ok_btup_scr, ok_btup_ref, ok_dL, ok_lThen, ok_dV, ok_lV, ok_dR, ok_items_tup, ok_items_scr, ok_items_ref, ok_itemsR_scr, ok_itemsR_ref, ok_lId, ok_nTup, ok_nLen, ok_nSum, ok_nAny, ok_nAll, ok_rg1, ok_asI, ok_rg2, ok_lRg, ok_dTupRg, ok_meth0, ok_meth1, ok_methL, ok_chkL, ok_append, ok_extend, ok_pop, ok_popO, ok_sOf, ok_srcOf_tup, ok_srcOf_scr, ok_srcOf_kt, ok_srcOf_ref, ok_sOfL, ok_sEnum, ok_enumOf_tup, ok_enumOf_ref, ok_sRange1, ok_sRange2, ok_gName, ok_gNil, ok_gCons, ok_gTup, oks_ok, oks_thn, oks_nx, oks_bk, oks_ct, oks_seq, oks_expr, oks_ret, oks_asg, oks_set, oks_par2, oks_par3, oks_if, oks_put, ok_setP, ok_putL, ok_fnOf, ok_dDict, ok_kNil, ok_kCons, ok_aStar, ok_star_tup, ok_star_ref, oks_for, ok_comp, scal_int, scal_str, scal_bl, scal_non, scal_tup, scal_ref, dat_int, dat_str, dat_bl, dat_non, dat_tup, ok_look, ok_store, ok_lookO_int, ok_lookO_str, ok_storeO_int, ok_storeO_str, ok_in, ok_notIn, List.getElem?_cons_zero, List.getElem?_cons_succ, List.set_cons_zero, List.set_cons_succ, List.length_cons, List.length_nil, List.map_cons, List.map_nil, List.replicate_succ, List.replicate_zero, List.cons_append, List.nil_append, Nat.reduceSub, Nat.reduceAdd, Nat.zero_add, true_and, and_true, decide_eq_true_eq, decide_eq_false_iff_not, Bool.not_eq_true', Bool.not_eq_false', forall_const, Bool.false_eq_true, Bool.true_eq_false, false_implies, true_implies, reduceCtorEq, Bool.not_true, Bool.not_false, wipeE, reduceIte, and_self, Option.some.injEq, exists_eq_left', exists_eq_left, List.getElem?_nil, List.length_map, S.pop.h1, put_left]
    exact ⟨szp, cs.length - 1, by omega, fr.setc.set2, by simpa using hl, _, cs.dropLast, by simp, S.pop.put _ _ _⟩
  · exact Nat.lt_of_le_of_lt hz (by decide)
  · exact ⟨rfl, Fr.refl _ _, rfl, l, cs, rfl, ne, h1, h2, hz⟩
  · rintro f ρ m' ⟨rfl, rfl, fr, hl, l, cs, S⟩
    simp only [ok_ok, ok_ret, ok_bnd, ok_when, ok_opt, ok_getO, ok_putO, ok_newO, ok_dVar, ok_dC, ok_aNil, ok_aCons, ok_dOp, ok_dUn, ok_dTup, ok_lLst, ok_dNew, ok_dIf, ok_dCall, ok_tVal, ok_asB, ok_tTru, ok_truth_bl, ok_truth_int, ok_truth_non, ok_truth_tup, ok_tYes, ok_tAnd, ok_tOr, ok_tNot, ok_dAnd, ok_dOr, ok_uNot, ok_dChain, ok_add_int, ok_add_tup, ok_add_str, ok_add_ref, ok_sub, ok_mul, ok_mul_lst, ok_mulT, ok_div, ok_mod, ok_pow, ok_shl, ok_shr, ok_band, ok_bor, ok_xor, ok_neg, ok_lt, ok_le, ok_gt, ok_ge, ok_asD, ok_eqD, ok_eq_int, ok_eq_str, ok_eq_bl, ok_eq_non, ok_eq_tup, ok_eq_ref, ok_eq_it, ok_eq_in, ok_eq_nt, ok_eq_ni, ok_ne_int, ok_ne_str, ok_ne_bl, ok_ne_non, ok_ne_tup, ok_ne_ref, ok_ne_it, ok_ne_in, ok_ne_nt, ok_ne_ni, ok_isN, ok_notN, ok_ix_tup, ok_ix_scr, ok_ix_ref, ok_pNone, ok_pSome, ok_dSl, ok_sl_tup, ok_sl_ref, ok_dRev, ok_rev_ref, ok_lRev, ok_one, ok_two, ok_abs, ok_bint, ok_bint_bl, ok_max2, ok_min2, ok_len_tup, ok_len_scr, ok_len_str, ok_len_ref, ok_btup_tup, ok_btup_scr, ok_btup_ref, ok_dL, ok_lThen, ok_dV, ok_lV, ok_dR, ok_items_tup, ok_items_scr, ok_items_ref, ok_itemsR_scr, ok_itemsR_ref, ok_lId, ok_nTup, ok_nLen, ok_nSum, ok_nAny, ok_nAll, ok_rg1, ok_asI, ok_rg2, ok_lRg, ok_dTupRg, ok_meth0, ok_meth1, ok_methL, ok_chkL, ok_append, ok_extend, ok_pop, ok_popO, ok_sOf, ok_srcOf_tup, ok_srcOf_scr, ok_srcOf_kt, ok_srcOf_ref, ok_sOfL, ok_sEnum, ok_enumOf_tup, ok_enumOf_ref, ok_sRange1, ok_sRange2, ok_gName, ok_gNil, ok_gCons, ok_gTup, oks_ok, oks_thn, oks_nx, oks_bk, oks_ct, oks_seq, oks_expr, oks_ret, oks_asg, oks_set, oks_par2, oks_par3, oks_if, oks_put, ok_setP, ok_putL, ok_fnOf, ok_dDict, ok_kNil, ok_kCons, ok_aStar, ok_star_tup, ok_star_ref, oks_for, ok_comp, scal_int, scal_str, scal_bl, scal_non, scal_tup, scal_ref, dat_int, dat_str, dat_bl, dat_non, dat_tup, ok_look, ok_store, ok_lookO_int, ok_lookO_str, ok_storeO_int, ok_storeO_str, ok_in, ok_notIn, List.getElem?_cons_zero, List.getElem?_cons_succ, List.set_cons_zero, List.set_cons_succ, List.length_cons, List.length_nil, List.map_cons, List.map_nil, List.replicate_succ, List.replicate_zero, List.cons_append, List.nil_append, Nat.reduceSub, Nat.reduceAdd, Nat.zero_add, true_and, and_true, decide_eq_true_eq, decide_eq_false_iff_not, Bool.not_eq_true', Bool.not_eq_false', forall_const, Bool.false_eq_true, Bool.true_eq_false, false_implies, true_implies, reduceCtorEq, Bool.not_true, Bool.not_false, wipeE, reduceIte, and_self, Option.some.injEq, exists_eq_left', exists_eq_left, List.getElem?_nil, List.length_map, S.h1, src_left, src_turn, put_left, put_turn, (S.put _ _ _).h1, src_mixed]
    refine ⟨fun h1 => ⟨⟨by omega, hk⟩, szp, by omega, _, rfl, em_nn _ (by omega), .inl (em_lt _ (by omega)), (S.put _ _ _).is, fr.set2, by simpa using hl⟩, fun h1 => ⟨szp, cMul_right (by decide), by omega, sq_ok (by decide) (by decide), cMul_right (by decide), by decide, by decide, by omega, _, rfl, em_nn _ (by omega), .inl (em_lt _ (by omega)), (S.put _ _ _).is, fr.set2, by simpa using hl⟩⟩
theorem pickA_ok {m : Hm} {n c : Nat} {k : Int} (h : IsSrc m n c) (hk : k < 18446744073709551616) : Ok (F_pickA [.ref n, .int k] m) (Drawn n c k m) := by
  obtain ⟨ne, l, x, t, cs, h1, h2, hz⟩ := h
  unfold F_pickA D_pickA
  simp only [ok_ok, ok_ret, ok_bnd, ok_when, ok_opt, ok_getO, ok_putO, ok_newO, ok_dVar, ok_dC, ok_aNil, ok_aCons, ok_dOp, ok_dUn, ok_dTup, ok_lLst, ok_dNew, ok_dIf, ok_dCall, ok_tVal, ok_asB, ok_tTru, ok_truth_bl, ok_truth_int, ok_truth_non, ok_truth_tup, ok_tYes, ok_tAnd, ok_tOr, ok_tNot, ok_dAnd, ok_dOr, ok_uNot, ok_dChain, ok_add_int, ok_add_tup, ok_add_str, ok_add_ref, ok_sub, ok_mul, ok_mul_lst, ok_mulT, ok_div, ok_mod, ok_pow, ok_shl, ok_shr, ok_band, ok_bor, ok_xor, ok_neg, ok_lt, ok_le, ok_gt, ok_ge, ok_asD, ok_eqD, ok_eq_int, ok_eq_str, ok_eq_bl, ok_eq_non, ok_eq_tup, ok_eq_ref, ok_eq_it, ok_eq_in, ok_eq_nt, ok_eq_ni, ok_ne_int, ok_ne_str, ok_ne_bl, ok_ne_non, ok_ne_tup, ok_ne_ref, ok_ne_it, ok_ne_in, ok_ne_nt, ok_ne_ni, ok_isN, ok_notN, ok_ix_tup, ok_ix_scr, ok_ix_ref, ok_pNone, ok_pSome, ok_dSl, ok_sl_tup, ok_sl_ref, ok_dRev, ok_rev_ref, ok_lRev, ok_one, ok_two, ok_abs, ok_bint, ok_bint_bl, ok_max2, ok_min2, ok_len_tup, ok_len_scr, ok_len_str, ok_len_ref, ok_btup_tup, ok_btup_scr, ok_btup_ref, ok_dL, ok_lThen, ok_dV, ok_lV, ok_dR, ok_items_tup, ok_items_scr, ok_items_ref, ok_itemsR_scr, ok_itemsR_ref, ok_lId, ok_nTup, ok_nLen, ok_nSum, ok_nAny, ok_nAll, ok_rg1, ok_asI, ok_rg2, ok_lRg, ok_dTupRg, ok_meth0, ok_meth1, ok_methL, ok_chkL, ok_append, ok_extend, ok_pop, ok_popO, ok_sOf, ok_srcOf_tup, ok_srcOf_scr, ok_srcOf_kt, ok_srcOf_ref, ok_sOfL, ok_sEnum, ok_enumOf_tup, ok_enumOf_ref, ok_sRange1, ok_sRange2, ok_gName, ok_gNil, ok_gCons, ok_gTup, oks_ok, oks_thn, oks_nx, oks_bk, oks_ct, oks_seq, oks_expr, oks_ret, oks_asg, oks_set, oks_par2, oks_par3, oks_if, oks_put, ok_setP, ok_putL, ok_fnOf, ok_dDict, ok_kNil, ok_kCons, ok_aStar, ok_star_tup, ok_star_ref, oks_for, ok_comp, scal_int, scal_str, scal_bl, scal_non, scal_tup, scal_ref, dat_int, dat_str, dat_bl, dat_non, dat_tup, ok_look, ok_store, ok_lookO_int, ok_lookO_str, ok_storeO_int, ok_storeO_str, ok_in, ok_notIn, List.getElem?_cons_zero, List.getElem?_cons_succ, List.set_cons_zero, List.set_cons_succ, List.length_cons, List.length_nil, List.map_cons, List.map_nil, List.replicate_succ, List.replicate_zero, List.cons_append, List.nil_append, Nat.reduceSub, Nat.reduceAdd, Nat.zero_add, true_and, and_true, decide_eq_true_eq, decide_eq_false_iff_not, Bool.not_eq_true', Bool.not_eq_false', forall_const, Bool.false_eq_true, Bool.true_eq_false, false_implies, true_implies, reduceCtorEq, Bool.not_true, Bool.not_false, wipeE, reduceIte, and_self, Option.some.injEq, exists_eq_left', exists_eq_left, List.getElem?_nil, List.length_map]
  refine (while_inv (QF := fun f ρ m' => f = .nx ∧ ρ = [some (.ref n), some (.int k), none, none] ∧ Fr [n, c] m m' ∧ m'.length = m.length ∧ ∃ l cs, SrcAt m' n c l x t cs) (fun j ρ m' => ρ = [some (.ref n), some (.int k), none, none] ∧ Fr [n, c] m m' ∧ m'.length = m.length ∧ ∃ l cs, j = cs.length ∧ SrcAt m' n c l x t cs) ?_ FU cs.length _ _ ?_ ?_).mono ?_
  · rintro j ρ m' ⟨rfl, fr, hl, l, cs, rfl, S⟩
    simp only [ok_ok, ok_ret, ok_bnd, ok_when, ok_opt, ok_getO, ok_putO, ok_newO, ok_dVar, ok_dC, ok_aNil, ok_aCons, ok_dOp, ok_dUn, ok_dTup, ok_lLst, ok_dNew, ok_dIf, ok_dCall, ok_tVal, ok_asB, ok_tTru, ok_truth_bl, ok_truth_int, ok_truth_non, ok_truth_tup, ok_tYes, ok_tAnd, ok_tOr, ok_tNot, ok_dAnd, ok_dOr, ok_uNot, ok_dChain, ok_add_int, ok_add_tup, ok_add_str, ok_add_ref, ok_sub, ok_mul, ok_mul_lst, ok_mulT, ok_div, ok_mod, ok_pow, ok_shl, ok_shr, ok_band, ok_bor, ok_xor, ok_neg, ok_lt, ok_le, ok_gt, ok_ge, ok_asD, ok_eqD, ok_eq_int, ok_eq_str, ok_eq_bl, ok_eq_non, ok_eq_tup, ok_eq_ref, ok_eq_it, ok_eq_in, ok_eq_nt, ok_eq_ni, ok_ne_int, ok_ne_str, ok_ne_bl, ok_ne_non, ok_ne_tup, ok_ne_ref, ok_ne_it, ok_ne_in, ok_ne_nt, ok_ne_ni, ok_isN, ok_notN, ok_ix_tup, ok_ix_scr, ok_ix_ref, ok_pNone, ok_pSome, ok_dSl, ok_sl_tup, ok_sl_ref, ok_dRev, ok_rev_ref, ok_lRev, ok_one, ok_two, ok_abs, ok_bint, ok_bint_bl, ok_max2, ok_min2, ok_len_tup, ok_len_scr, ok_len_str, ok_len_ref, ok_btup_tup, ok_btup_scr, ok_btup_ref, ok_dL, ok_lThen, ok_dV, ok_lV, ok_dR, ok_items_tup, ok_items_scr, ok_items_ref, ok_itemsR_scr, ok_itemsR_ref, ok_lId, ok_nTup, ok_nLen, ok_nSum, ok_nAny, ok_nAll, ok_rg1, ok_asI, ok_rg2, ok_lRg, ok_dTupRg, ok_meth0, ok_meth1, ok_methL, ok_chkL, ok_append, ok_extend, ok_pop, ok_popO, ok_sOf, ok_srcOf_tup, ok_srcOf_scr, ok_srcOf_kt, ok_srcOf_ref, ok_sOfL, ok_sEnum, ok_enumOf_tup, ok_enumOf_ref, ok_sRange1, ok_sRange2, ok_gName, ok_gNil, ok_gCons, ok_gTup, oks_ok, oks_thn, oks_nx, oks_bk, oks_ct, oks_seq, oks_expr, oks_ret, oks_asg, oks_set, oks_par2, oks_par3, oks_if, oks_put, ok_setP, ok_putL, ok_fnOf, ok_dDict, ok_kNil, ok_kCons, ok_aStar, ok_star_tup, ok_star_ref, oks_for, ok_comp, scal_int, scal_str, scal_bl, scal_non, scal_tup, scal_ref, dat_int, dat_str, dat_bl, dat_non, dat_tup, ok_look, ok_store, ok_lookO_int, ok_lookO_str, ok_storeO_int, ok_storeO_str, ok_in, ok_notIn, List.getElem?_cons_zero, List.getElem?_cons_succ, List.set_cons_zero, List.set_cons_succ, List.length_cons, List.length_nil, List.map_cons, List.map_nil, List.replicate_succ, List.replicate_zero, List.cons_append, List.nil_append, Nat.reduceSub, Nat.reduceAdd, Nat.zero_add, true_and, and_true, decide_eq_true_eq, decide_eq_false_iff_not, Bool.not_eq_true', Bool.not_eq_false', forall_const, Bool.false_eq_true, Bool.true_eq_false, false_implies, true_implies, reduceCtorEq, Bool.not_true, Bool.not_false, wipeE, reduceIte, and_self, Option.some.injEq, exists_eq_left', exists_eq_left, List.getElem?_nil, List.length_map, S.h1, S.h2, src_left, src_cells]
    have fin : Fr [n, c] m m' ∧ List.length m' = List.length m ∧ ∃ l cs, SrcAt m' n c l x t cs := ⟨fr, hl, l, cs, S⟩
    refine ⟨fun _ => ⟨fun _ => ⟨fun hp => ?_, fun _ => fin⟩, fun _ => fin⟩, fun _ => fin⟩
    have hp : 0 < cs.length := by omega
    refine ⟨_, last_int cs hp, ?_⟩
    simp only [ok_ok, ok_ret, ok_bnd, ok_when, ok_opt, ok_getO, ok_putO, ok_newO, ok_dVar, ok_dC, ok_aNil, ok_aCons, ok_dOp, ok_dUn, ok_dTup, ok_lLst, ok_dNew, ok_dIf, ok_dCall, ok_tVal, ok_asB, ok_tTru, ok_truth_bl, ok_truth_int, ok_truth_non, ok_truth_tup, ok_tYes, ok_tAnd, ok_tOr, ok_tNot, ok_dAnd, ok_dOr, ok_uNot, ok_dChain, ok_add_int, ok_add_tup, ok_add_str, ok_add_ref, ok_sub, ok_mul, ok_mul_lst, ok_mulT, ok_div, ok_mod, ok_pow, ok_shl, ok_shr, ok_band, ok_bor, ok_xor, ok_neg, ok_lt, ok_le, ok_gt, ok_ge, ok_asD, ok_eqD, ok_eq_int, ok_eq_str, ok_eq_bl, ok_eq_non, ok_eq_tup, ok_eq_ref, ok_eq_it, ok_eq_in, ok_eq_nt, ok_eq_ni, ok_ne_int, ok_ne_str, ok_ne_bl, ok_ne_non, ok_ne_tup, ok_ne_ref, ok_ne_it, ok_ne_in, ok_ne_nt, ok_ne_ni, ok_isN, ok_notN, ok_ix_tup, ok_ix_scr, ok_ix_ref, ok_pNone, ok_pSome, ok_dSl, ok_sl_tup, ok_sl_ref, ok_dRev, ok_rev_ref, ok_lRev, ok_one, ok_two, ok_abs, ok_bint, ok_bint_bl, ok_max2, ok_min2, ok_len_tup, ok_len_scr, ok_len_str, ok_len_ref, ok_btup_tup, ok_btup_scr, ok_btup_ref, ok_dL, ok_lThen, ok_dV, ok_lV, ok_dR, ok_items_tup, ok_items_scr, ok_items_ref, ok_itemsR_scr, ok_itemsR_ref, ok_lId, ok_nTup, ok_nLen, ok_nSum, ok_nAny, ok_nAll, ok_rg1, ok_asI, ok_rg2, ok_lRg, ok_dTupRg, ok_meth0, ok_meth1, ok_methL, ok_chkL, ok_append, ok_extend, ok_pop, ok_popO, ok_sOf, ok_srcOf_tup, ok_srcOf_scr, ok_srcOf_kt, ok_srcOf_ref, ok_sOfL, ok_sEnum, ok_enumOf_tup, ok_enumOf_ref, ok_sRange1, ok_sRange2, ok_gName, ok_gNil, ok_gCons, ok_gTup, oks_ok, oks_thn, oks_nx, oks_bk, oks_ct, oks_seq, oks_expr, oks_ret, oks_asg, oks_set, oks_par2, oks_par3, oks_if, oks_put, ok_setP, ok_putL, ok_fnOf, ok_dDict, ok_kNil, ok_kCons, ok_aStar, ok_star_tup, ok_star_ref, oks_for, ok_comp, scal_int, scal_str, scal_bl, scal_non, scal_tup, scal_ref, dat_int, dat_str, dat_bl, dat_non, dat_tup, ok_look, ok_store, ok_lookO_int, ok_lookO_str, ok_storeO_int, ok_storeO_str, ok_in, ok_notIn, List.getElem?_cons_zero, List.getElem?_cons_succ, List.set_cons_zero, List.set_cons_succ, List.length_cons, List.length_nil, List.map_cons, List.map_nil, List.replicate_succ, List.replicate_zero, List.cons_append, List.nil_append, Nat.reduceSub, Nat.reduceAdd, Nat.zero_add, true_and, and_true, decide_eq_true_eq, decide_eq_false_iff_not, Bool.not_eq_true', Bool.not_eq_false', forall_const, Bool.false_eq_true, Bool.true_eq_false, false_implies, true_implies, reduceCtorEq, Bool.not_true, Bool.not_false, wipeE, reduceIte, and_self, Option.some.injEq, exists_eq_left', exists_eq_left, List.getElem?_nil, List.length_map, S.pop.h1, put_left]
    exact ⟨szp, cs.length - 1, by omega, fr.setc.set2, by simpa using hl, _, cs.dropLast, by simp, S.pop.put _ _ _⟩
  · exact Nat.lt_of_le_of_lt hz (by decide)
  · exact ⟨rfl, Fr.refl _ _, rfl, l, cs, rfl, ne, h1, h2, hz⟩
  · rintro f ρ m' ⟨rfl, rfl, fr, hl, l, cs, S⟩
    simp only [ok_ok, ok_ret, ok_bnd, ok_when, ok_opt, ok_getO, ok_putO, ok_newO, ok_dVar, ok_dC, ok_aNil, ok_aCons, ok_dOp, ok_dUn, ok_dTup, ok_lLst, ok_dNew, ok_dIf, ok_dCall, ok_tVal, ok_asB, ok_tTru, ok_truth_bl, ok_truth_int, ok_truth_non, ok_truth_tup, ok_tYes, ok_tAnd, ok_tOr, ok_tNot, ok_dAnd, ok_dOr, ok_uNot, ok_dChain, ok_add_int, ok_add_tup, ok_add_str, ok_add_ref, ok_sub, ok_mul, ok_mul_lst, ok_mulT, ok_div, ok_mod, ok_pow, ok_shl, ok_shr, ok_band, ok_bor, ok_xor, ok_neg, ok_lt, ok_le, ok_gt, ok_ge, ok_asD, ok_eqD, ok_eq_int, ok_eq_str, ok_eq_bl, ok_eq_non, ok_eq_tup, ok_eq_ref, ok_eq_it, ok_eq_in, ok_eq_nt, ok_eq_ni, ok_ne_int, ok_ne_str, ok_ne_bl, ok_ne_non, ok_ne_tup, ok_ne_ref, ok_ne_it, ok_ne_in, ok_ne_nt, ok_ne_ni, ok_isN, ok_notN, ok_ix_tup, ok_ix_scr, ok_ix_ref, ok_pNone, ok_pSome, ok_dSl, ok_sl_tup, ok_sl_ref, ok_dRev, ok_rev_ref, ok_lRev, ok_one, ok_two, ok_abs, ok_bint, ok_bint_bl, ok_max2, ok_min2, ok_len_tup, ok_len_scr, ok_len_str, ok_len_ref, ok_btup_tup, ok_btup_scr, ok_btup_ref, ok_dL, ok_lThen, ok_dV, ok_lV, ok_dR, ok_items_tup, ok_items_scr, ok_items_ref, ok_itemsR_scr, ok_itemsR_ref, ok_lId, ok_nTup, ok_nLen, ok_nSum, ok_nAny, ok_nAll, ok_rg1, ok_asI, ok_rg2, ok_lRg, ok_dTupRg, ok_meth0, ok_meth1, ok_methL, ok_chkL, ok_append, ok_extend, ok_pop, ok_popO, ok_sOf, ok_srcOf_tup, ok_srcOf_scr, ok_srcOf_kt, ok_srcOf_ref, ok_sOfL, ok_sEnum, ok_enumOf_tup, ok_enumOf_ref, ok_sRange1, ok_sRange2, ok_gName, ok_gNil, ok_gCons, ok_gTup, oks_ok, oks_thn, oks_nx, oks_bk, oks_ct, oks_seq, oks_expr, oks_ret, oks_asg, oks_set, oks_par2, oks_par3, oks_if, oks_put, ok_setP, ok_putL, ok_fnOf, ok_dDict, ok_kNil, ok_kCons, ok_aStar, ok_star_tup, ok_star_ref, oks_for, ok_comp, scal_int, scal_str, scal_bl, scal_non, scal_tup, scal_ref, dat_int, dat_str, dat_bl, dat_non, dat_tup, ok_look, ok_store, ok_lookO_int, ok_lookO_str, ok_storeO_int, ok_storeO_str, ok_in, ok_notIn, List.getElem?_cons_zero, List.getElem?_cons_succ, List.set_cons_zero, List.set_cons_succ, List.length_cons, List.length_nil, List.map_cons, List.map_nil, List.replicate_succ, List.replicate_zero, List.cons_append, List.nil_append, Nat.reduceSub, Nat.reduceAdd, Nat.zero_add, true_and, and_true, decide_eq_true_eq, decide_eq_false_iff_not, Bool.not_eq_true', Bool.not_eq_false', forall_const, Bool.false_eq_true, Bool.true_eq_false, false_implies, true_implies, reduceCtorEq, Bool.not_true, Bool.not_false, wipeE, reduceIte, and_self, Option.some.injEq, exists_eq_left', exists_eq_left, List.getElem?_nil, List.length_map, S.h1, src_left, src_turn, put_left, put_turn, put_mixed, (S.put _ _ _).h1, ((S.put _ _ _).put _ _ _).h1, src_mixed]
    have hm : ∀ a : Int, 0 ≤ a % (if k > 1 then k else 1) ∧ (a % (if k > 1 then k else 1) < k ∨ a % (if k > 1 then k else 1) = 0) := fun a => by
      split
      · exact ⟨em_nn _ (by omega), .inl (em_lt _ (by omega))⟩
      · rw [Int.emod_one]; omega
    have hk1 : 0 < (if k > 1 then k else 1) := by split <;> omega
    have hk2 : (if k > 1 then k else 1) < 18446744073709551616 := by split <;> omega
    have e1 : ∀ y : Int, Drawn n c k m (.int (l % (if k > 1 then k else 1))) (m'.set n (.dK (srcD c y x t))) := fun y => ⟨_, rfl, (hm _).1, (hm _).2, (S.put _ _ _).is, fr.set2, by simpa using hl⟩
    refine ⟨fun _ => ⟨⟨hk1, hk2⟩, szp, hk1, e1 _⟩, fun h0 => ⟨fun h1 => ⟨⟨hk1, hk2⟩, szp, hk1, e1 _⟩, fun h1 => ⟨szp, cMul_right (by decide), by decide, sq_ok (by decide) (by decide), cMul_right (by decide), by decide, szp, by decide, by omega, _, rfl, em_nn _ (by omega), .inl (em_lt _ (by omega)), ((S.put _ _ _).put _ _ _).is, fr.set2.set2, by simpa using hl⟩⟩⟩
/-! ### indices -/
theorem atI_nat {α : Type} (xs : List α) (i : Nat) (h : i < xs.length) : L2.atI xs (i : Int) = some xs[i] := by
  unfold L2.atI L2.ixN
  rw [if_pos (by omega), if_pos (by omega)]
  simp [h]
theorem atI_pos {α : Type} (xs : List α) (i : Int) (h0 : 0 ≤ i) (h : i < xs.length) : ∃ x, xs[i.toNat]? = some x ∧ L2.atI xs i = some x ∧ x ∈ xs := by
  obtain ⟨n, rfl⟩ := Int.eq_ofNat_of_zero_le h0
  have hn : n < xs.length := by omega
  exact ⟨xs[n], by simp [hn], atI_nat xs n hn, List.getElem_mem hn⟩
theorem atI_last {α : Type} (xs : List α) (h : xs ≠ []) : L2.atI xs (-1) = some (xs.getLast h) := by
  have hl := List.length_pos_iff.mpr h
  unfold L2.atI L2.ixN
  rw [if_neg (by omega), if_pos (by omega)]
  have e : ((-1 : Int) + (xs.length : Int)).toNat = xs.length - 1 := by omega
  rw [e, List.getLast_eq_getElem]
  simp [hl]
theorem mapO_map {α β γ : Type} (f : α → β) (g : β → Option γ) (h : α → γ) (l : List α) (H : ∀ a ∈ l, g (f a) = some (h a)) : mapO g (l.map f) = some (l.map h) := by
  induction l with
  | nil => rfl
  | cons a l ih =>
    show (match g (f a) with | some d => _ | none => none) = _
    rw [H a (by simp), ih fun b hb => H b (by simp [hb])]
    rfl
/-- pick's promise -/
def Pick (pk : List P → M P) : Prop := ∀ (m : Hm) (n c : Nat) (k : Int), IsSrc m n c → k < 18446744073709551616 → Ok (pk [.ref n, .int k] m) (Drawn n c k m)
theorem pickB_pk : Pick F_pickB := fun _ _ _ _ h hk => pickB_ok h hk
theorem pickA_pk : Pick F_pickA := fun _ _ _ _ h hk => pickA_ok h hk
/-- one of some drawn -/
theorem of_lst {pk : List P → M P} (hp : Pick pk) {m : Hm} {n c j : Nat} {ps : List P} (h : IsSrc m n c) (hj : m[j]? = some (.lst ps)) (h0 : ps ≠ []) (hz : ps.length ≤ SZ) (hcj : j ≠ c) :
    Ok (F_of pk [.ref n, .ref j] m) fun p m' => p ∈ ps ∧ IsSrc m' n c ∧ Fr [n, c] m m' ∧ m'.length = m.length := by
  obtain ⟨ne, l, x, t, cs, h1, h2, hc⟩ := id h
  unfold F_of D_of
  simp only [ok_ok, ok_ret, ok_bnd, ok_when, ok_opt, ok_getO, ok_putO, ok_newO, ok_dVar, ok_dC, ok_aNil, ok_aCons, ok_dOp, ok_dUn, ok_dTup, ok_lLst, ok_dNew, ok_dIf, ok_dCall, ok_tVal, ok_asB, ok_tTru, ok_truth_bl, ok_truth_int, ok_truth_non, ok_truth_tup, ok_tYes, ok_tAnd, ok_tOr, ok_tNot, ok_dAnd, ok_dOr, ok_uNot, ok_dChain, ok_add_int, ok_add_tup, ok_add_str, ok_add_ref, ok_sub, ok_mul, ok_mul_lst, ok_mulT, ok_div, ok_mod, ok_pow, ok_shl, ok_shr, ok_band, ok_bor, ok_xor, ok_neg, ok_lt, ok_le, ok_gt, ok_ge, ok_asD, ok_eqD, ok_eq_int, ok_eq_str, ok_eq_bl, ok_eq_non, ok_eq_tup, ok_eq_ref, ok_eq_it, ok_eq_in, ok_eq_nt, ok_eq_ni, ok_ne_int, ok_ne_str, ok_ne_bl, ok_ne_non, ok_ne_tup, ok_ne_ref, ok_ne_it, ok_ne_in, ok_ne_nt, ok_ne_ni, ok_isN, ok_notN, ok_ix_tup, ok_ix_scr, ok_ix_ref, ok_pNone, ok_pSome, ok_dSl, ok_sl_tup, ok_sl_ref, ok_dRev, ok_rev_ref, ok_lRev, ok_one, ok_two, ok_abs, ok_bint, ok_bint_bl, ok_max2, ok_min2, ok_len_tup, ok_len_scr, ok_len_str, ok_len_ref, ok_btup_tup, ok_btup_scr, ok_btup_ref, ok_dL, ok_lThen, ok_dV, ok_lV, ok_dR, ok_items_tup, ok_items_scr, ok_items_ref, ok_itemsR_scr, ok_itemsR_ref, ok_lId, ok_nTup, ok_nLen, ok_nSum, ok_nAny, ok_nAll, ok_rg1, ok_asI, ok_rg2, ok_lRg, ok_dTupRg, ok_meth0, ok_meth1, ok_methL, ok_chkL, ok_append, ok_extend, ok_pop, ok_popO, ok_sOf, ok_srcOf_tup, ok_srcOf_scr, ok_srcOf_kt, ok_srcOf_ref, ok_sOfL, ok_sEnum, ok_enumOf_tup, ok_enumOf_ref, ok_sRange1, ok_sRange2, ok_gName, ok_gNil, ok_gCons, ok_gTup, oks_ok, oks_thn, oks_nx, oks_bk, oks_ct, oks_seq, oks_expr, oks_ret, oks_asg, oks_set, oks_par2, oks_par3, oks_if, oks_put, ok_setP, ok_putL, ok_fnOf, ok_dDict, ok_kNil, ok_kCons, ok_aStar, ok_star_tup, ok_star_ref, oks_for, ok_comp, scal_int, scal_str, scal_bl, scal_non, scal_tup, scal_ref, dat_int, dat_str, dat_bl, dat_non, dat_tup, ok_look, ok_store, ok_lookO_int, ok_lookO_str, ok_storeO_int, ok_storeO_str, ok_in, ok_notIn, List.getElem?_cons_zero, List.getElem?_cons_succ, List.set_cons_zero, List.set_cons_succ, List.length_cons, List.length_nil, List.map_cons, List.map_nil, List.replicate_succ, List.replicate_zero, List.cons_append, List.nil_append, Nat.reduceSub, Nat.reduceAdd, Nat.zero_add, true_and, and_true, decide_eq_true_eq, decide_eq_false_iff_not, Bool.not_eq_true', Bool.not_eq_false', forall_const, Bool.false_eq_true, Bool.true_eq_false, false_implies, true_implies, reduceCtorEq, Bool.not_true, Bool.not_false, wipeE, reduceIte, and_self, Option.some.injEq, exists_eq_left', exists_eq_left, List.getElem?_nil, List.length_map, hj]
  have hl := List.length_pos_iff.mpr h0
  have hz' : ps.length ≤ 16777216 := hz
  have hnj : j ≠ n := fun z => by subst z; rw [h1] at hj; cases hj
  refine (hp m n c _ h (by omega)).mono fun p m' ⟨r, e, h0, hr, is, fr, hl'⟩ => ?_
  subst e
  obtain ⟨x, e1, e2, e3⟩ := atI_pos ps r h0 (by omega)
  have e4 : m'[j]? = some (.lst ps) := fr.get hj (by simp; omega)
  simp only [ok_ok, ok_ret, ok_bnd, ok_when, ok_opt, ok_getO, ok_putO, ok_newO, ok_dVar, ok_dC, ok_aNil, ok_aCons, ok_dOp, ok_dUn, ok_dTup, ok_lLst, ok_dNew, ok_dIf, ok_dCall, ok_tVal, ok_asB, ok_tTru, ok_truth_bl, ok_truth_int, ok_truth_non, ok_truth_tup, ok_tYes, ok_tAnd, ok_tOr, ok_tNot, ok_dAnd, ok_dOr, ok_uNot, ok_dChain, ok_add_int, ok_add_tup, ok_add_str, ok_add_ref, ok_sub, ok_mul, ok_mul_lst, ok_mulT, ok_div, ok_mod, ok_pow, ok_shl, ok_shr, ok_band, ok_bor, ok_xor, ok_neg, ok_lt, ok_le, ok_gt, ok_ge, ok_asD, ok_eqD, ok_eq_int, ok_eq_str, ok_eq_bl, ok_eq_non, ok_eq_tup, ok_eq_ref, ok_eq_it, ok_eq_in, ok_eq_nt, ok_eq_ni, ok_ne_int, ok_ne_str, ok_ne_bl, ok_ne_non, ok_ne_tup, ok_ne_ref, ok_ne_it, ok_ne_in, ok_ne_nt, ok_ne_ni, ok_isN, ok_notN, ok_ix_tup, ok_ix_scr, ok_ix_ref, ok_pNone, ok_pSome, ok_dSl, ok_sl_tup, ok_sl_ref, ok_dRev, ok_rev_ref, ok_lRev, ok_one, ok_two, ok_abs, ok_bint, ok_bint_bl, ok_max2, ok_min2, ok_len_tup, ok_len_scr, ok_len_str, ok_len_ref, ok_btup_tup, ok_btup_scr, ok_btup_ref, ok_dL, ok_lThen, ok_dV, ok_lV, ok_dR, ok_items_tup, ok_items_scr, ok_items_ref, ok_itemsR_scr, ok_itemsR_ref, ok_lId, ok_nTup, ok_nLen, ok_nSum, ok_nAny, ok_nAll, ok_rg1, ok_asI, ok_rg2, ok_lRg, ok_dTupRg, ok_meth0, ok_meth1, ok_methL, ok_chkL, ok_append, ok_extend, ok_pop, ok_popO, ok_sOf, ok_srcOf_tup, ok_srcOf_scr, ok_srcOf_kt, ok_srcOf_ref, ok_sOfL, ok_sEnum, ok_enumOf_tup, ok_enumOf_ref, ok_sRange1, ok_sRange2, ok_gName, ok_gNil, ok_gCons, ok_gTup, oks_ok, oks_thn, oks_nx, oks_bk, oks_ct, oks_seq, oks_expr, oks_ret, oks_asg, oks_set, oks_par2, oks_par3, oks_if, oks_put, ok_setP, ok_putL, ok_fnOf, ok_dDict, ok_kNil, ok_kCons, ok_aStar, ok_star_tup, ok_star_ref, oks_for, ok_comp, scal_int, scal_str, scal_bl, scal_non, scal_tup, scal_ref, dat_int, dat_str, dat_bl, dat_non, dat_tup, ok_look, ok_store, ok_lookO_int, ok_lookO_str, ok_storeO_int, ok_storeO_str, ok_in, ok_notIn, List.getElem?_cons_zero, List.getElem?_cons_succ, List.set_cons_zero, List.set_cons_succ, List.length_cons, List.length_nil, List.map_cons, List.map_nil, List.replicate_succ, List.replicate_zero, List.cons_append, List.nil_append, Nat.reduceSub, Nat.reduceAdd, Nat.zero_add, true_and, and_true, decide_eq_true_eq, decide_eq_false_iff_not, Bool.not_eq_true', Bool.not_eq_false', forall_const, Bool.false_eq_true, Bool.true_eq_false, false_implies, true_implies, reduceCtorEq, Bool.not_true, Bool.not_false, wipeE, reduceIte, and_self, Option.some.injEq, exists_eq_left', exists_eq_left, List.getElem?_nil, List.length_map, e4, e2]
  exact ⟨e3, is, fr, hl'⟩
theorem of_tup {pk : List P → M P} (hp : Pick pk) {m : Hm} {n c : Nat} {ps : List P} (h : IsSrc m n c) (h0 : ps ≠ []) (hz : ps.length ≤ SZ) :
    Ok (F_of pk [.ref n, .tup ps] m) fun p m' => p ∈ ps ∧ IsSrc m' n c ∧ Fr [n, c] m m' ∧ m'.length = m.length := by
  unfold F_of D_of
  simp only [ok_ok, ok_ret, ok_bnd, ok_when, ok_opt, ok_getO, ok_putO, ok_newO, ok_dVar, ok_dC, ok_aNil, ok_aCons, ok_dOp, ok_dUn, ok_dTup, ok_lLst, ok_dNew, ok_dIf, ok_dCall, ok_tVal, ok_asB, ok_tTru, ok_truth_bl, ok_truth_int, ok_truth_non, ok_truth_tup, ok_tYes, ok_tAnd, ok_tOr, ok_tNot, ok_dAnd, ok_dOr, ok_uNot, ok_dChain, ok_add_int, ok_add_tup, ok_add_str, ok_add_ref, ok_sub, ok_mul, ok_mul_lst, ok_mulT, ok_div, ok_mod, ok_pow, ok_shl, ok_shr, ok_band, ok_bor, ok_xor, ok_neg, ok_lt, ok_le, ok_gt, ok_ge, ok_asD, ok_eqD, ok_eq_int, ok_eq_str, ok_eq_bl, ok_eq_non, ok_eq_tup, ok_eq_ref, ok_eq_it, ok_eq_in, ok_eq_nt, ok_eq_ni, ok_ne_int, ok_ne_str, ok_ne_bl, ok_ne_non, ok_ne_tup, ok_ne_ref, ok_ne_it, ok_ne_in, ok_ne_nt, ok_ne_ni, ok_isN, ok_notN, ok_ix_tup, ok_ix_scr, ok_ix_ref, ok_pNone, ok_pSome, ok_dSl, ok_sl_tup, ok_sl_ref, ok_dRev, ok_rev_ref, ok_lRev, ok_one, ok_two, ok_abs, ok_bint, ok_bint_bl, ok_max2, ok_min2, ok_len_tup, ok_len_scr, ok_len_str, ok_len_ref, ok_btup_tup, ok_btup_scr, ok_btup_ref, ok_dL, ok_lThen, ok_dV, ok_lV, ok_dR, ok_items_tup, ok_items_scr, ok_items_ref, ok_itemsR_scr, ok_itemsR_ref, ok_lId, ok_nTup, ok_nLen, ok_nSum, ok_nAny, ok_nAll, ok_rg1, ok_asI, ok_rg2, ok_lRg, ok_dTupRg, ok_meth0, ok_meth1, ok_methL, ok_chkL, ok_append, ok_extend, ok_pop, ok_popO, ok_sOf, ok_srcOf_tup, ok_srcOf_scr, ok_srcOf_kt, ok_srcOf_ref, ok_sOfL, ok_sEnum, ok_enumOf_tup, ok_enumOf_ref, ok_sRange1, ok_sRange2, ok_gName, ok_gNil, ok_gCons, ok_gTup, oks_ok, oks_thn, oks_nx, oks_bk, oks_ct, oks_seq, oks_expr, oks_ret, oks_asg, oks_set, oks_par2, oks_par3, oks_if, oks_put, ok_setP, ok_putL, ok_fnOf, ok_dDict, ok_kNil, ok_kCons, ok_aStar, ok_star_tup, ok_star_ref, oks_for, ok_comp, scal_int, scal_str, scal_bl, scal_non, scal_tup, scal_ref, dat_int, dat_str, dat_bl, dat_non, dat_tup, ok_look, ok_store, ok_lookO_int, ok_lookO_str, ok_storeO_int, ok_storeO_str, ok_in, ok_notIn, List.getElem?_cons_zero, List.getElem?_cons_succ, List.set_cons_zero, List.set_cons_succ, List.length_cons, List.length_nil, List.map_cons, List.map_nil, List.replicate_succ, List.replicate_zero, List.cons_append, List.nil_append, Nat.reduceSub, Nat.reduceAdd, Nat.zero_add, true_and, and_true, decide_eq_true_eq, decide_eq_false_iff_not, Bool.not_eq_true', Bool.not_eq_false', forall_const, Bool.false_eq_true, Bool.true_eq_false, false_implies, true_implies, reduceCtorEq, Bool.not_true, Bool.not_false, wipeE, reduceIte, and_self, Option.some.injEq, exists_eq_left', exists_eq_left, List.getElem?_nil, List.length_map]
  have hl := List.length_pos_iff.mpr h0
  have hz' : ps.length ≤ 16777216 := hz
  refine (hp m n c _ h (by omega)).mono fun p m' ⟨r, e, h0, hr, is, fr, hl'⟩ => ?_
  subst e
  obtain ⟨x, e1, e2, e3⟩ := atI_pos ps r h0 (by omega)
  simp only [ok_ok, ok_ret, ok_bnd, ok_when, ok_opt, ok_getO, ok_putO, ok_newO, ok_dVar, ok_dC, ok_aNil, ok_aCons, ok_dOp, ok_dUn, ok_dTup, ok_lLst, ok_dNew, ok_dIf, ok_dCall, ok_tVal, ok_asB, ok_tTru, ok_truth_bl, ok_truth_int, ok_truth_non, ok_truth_tup, ok_tYes, ok_tAnd, ok_tOr, ok_tNot, ok_dAnd, ok_dOr, ok_uNot, ok_dChain, ok_add_int, ok_add_tup, ok_add_str, ok_add_ref, ok_sub, ok_mul, ok_mul_lst, ok_mulT, ok_div, ok_mod, ok_pow, ok_shl, ok_shr, ok_band, ok_bor, ok_xor, ok_neg, ok_lt, ok_le, ok_gt, ok_ge, ok_asD, ok_eqD, ok_eq_int, ok_eq_str, ok_eq_bl, ok_eq_non, ok_eq_tup, ok_eq_ref, ok_eq_it, ok_eq_in, ok_eq_nt, ok_eq_ni, ok_ne_int, ok_ne_str, ok_ne_bl, ok_ne_non, ok_ne_tup, ok_ne_ref, ok_ne_it, ok_ne_in, ok_ne_nt, ok_ne_ni, ok_isN, ok_notN, ok_ix_tup, ok_ix_scr, ok_ix_ref, ok_pNone, ok_pSome, ok_dSl, ok_sl_tup, ok_sl_ref, ok_dRev, ok_rev_ref, ok_lRev, ok_one, ok_two, ok_abs, ok_bint, ok_bint_bl, ok_max2, ok_min2, ok_len_tup, ok_len_scr, ok_len_str, ok_len_ref, ok_btup_tup, ok_btup_scr, ok_btup_ref, ok_dL, ok_lThen, ok_dV, ok_lV, ok_dR, ok_items_tup, ok_items_scr, ok_items_ref, ok_itemsR_scr, ok_itemsR_ref, ok_lId, ok_nTup, ok_nLen, ok_nSum, ok_nAny, ok_nAll, ok_rg1, ok_asI, ok_rg2, ok_lRg, ok_dTupRg, ok_meth0, ok_meth1, ok_methL, ok_chkL, ok_append, ok_extend, ok_pop, ok_popO, ok_sOf, ok_srcOf_tup, ok_srcOf_scr, ok_srcOf_kt, ok_srcOf_ref, ok_sOfL, ok_sEnum, ok_enumOf_tup, ok_enumOf_ref, ok_sRange1, ok_sRange2, ok_gName, ok_gNil, ok_gCons, ok_gTup, oks_ok, oks_thn, oks_nx, oks_bk, oks_ct, oks_seq, oks_expr, oks_ret, oks_asg, oks_set, oks_par2, oks_par3, oks_if, oks_put, ok_setP, ok_putL, ok_fnOf, ok_dDict, ok_kNil, ok_kCons, ok_aStar, ok_star_tup, ok_star_ref, oks_for, ok_comp, scal_int, scal_str, scal_bl, scal_non, scal_tup, scal_ref, dat_int, dat_str, dat_bl, dat_non, dat_tup, ok_look, ok_store, ok_lookO_int, ok_lookO_str, ok_storeO_int, ok_storeO_str, ok_in, ok_notIn, List.getElem?_cons_zero, List.getElem?_cons_succ, List.set_cons_zero, List.set_cons_succ, List.length_cons, List.length_nil, List.map_cons, List.map_nil, List.replicate_succ, List.replicate_zero, List.cons_append, List.nil_append, Nat.reduceSub, Nat.reduceAdd, Nat.zero_add, true_and, and_true, decide_eq_true_eq, decide_eq_false_iff_not, Bool.not_eq_true', Bool.not_eq_false', forall_const, Bool.false_eq_true, Bool.true_eq_false, false_implies, true_implies, reduceCtorEq, Bool.not_true, Bool.not_false, wipeE, reduceIte, and_self, Option.some.injEq, exists_eq_left', exists_eq_left, List.getElem?_nil, List.length_map, e2]
  exact ⟨e3, is, fr, hl'⟩
theorem puts_src (c : Nat) (l x t : Int) : putsP (srcD c l x t) = srcD c l x t := rfl
/-- a source is made -/
theorem srcB_ok (ns : List Int) (hn : ns.length ≤ 63) (m : Hm) : Ok (F_srcB [.scr (ns.map .int)] m) fun p m' => ∃ n c, p = .ref n ∧ IsSrc m' n c ∧ Fr [] m m' ∧ m.length ≤ n ∧ m.length ≤ c := by
  unfold F_srcB D_srcB
  simp only [ok_ok, ok_ret, ok_bnd, ok_when, ok_opt, ok_getO, ok_putO, ok_newO, ok_dVar, ok_dC, ok_aNil, ok_aCons, ok_dOp, ok_dUn, ok_dTup, ok_lLst, ok_dNew, ok_dIf, ok_dCall, ok_tVal, ok_asB, ok_tTru, ok_truth_bl, ok_truth_int, ok_truth_non, ok_truth_tup, ok_tYes, ok_tAnd, ok_tOr, ok_tNot, ok_dAnd, ok_dOr, ok_uNot, ok_dChain, ok_add_int, ok_add_tup, ok_add_str, ok_add_ref, ok_sub, ok_mul, ok_mul_lst, ok_mulT, ok_div, ok_mod, ok_pow, ok_shl, ok_shr, ok_band, ok_bor, ok_xor, ok_neg, ok_lt, ok_le, ok_gt, ok_ge, ok_asD, ok_eqD, ok_eq_int, ok_eq_str, ok_eq_bl, ok_eq_non, ok_eq_tup, ok_eq_ref, ok_eq_it, ok_eq_in, ok_eq_nt, ok_eq_ni, ok_ne_int, ok_ne_str, ok_ne_bl, ok_ne_non, ok_ne_tup, ok_ne_ref, ok_ne_it, ok_ne_in, ok_ne_nt, ok_ne_ni, ok_isN, ok_notN, ok_ix_tup, ok_ix_scr, ok_ix_ref, ok_pNone, ok_pSome, ok_dSl, ok_sl_tup, ok_sl_ref, ok_dRev, ok_rev_ref, ok_lRev, ok_one, ok_two, ok_abs, ok_bint, ok_bint_bl, ok_max2, ok_min2, ok_len_tup, ok_len_scr, ok_len_str, ok_len_ref, ok_btup_tup, ok_btup_scr, ok_btup_ref, ok_dL, ok_lThen, ok_dV, ok_lV, ok_dR, ok_items_tup, ok_items_scr, ok_items_ref, ok_itemsR_scr, ok_itemsR_ref, ok_lId, ok_nTup, ok_nLen, ok_nSum, ok_nAny, ok_nAll, ok_rg1, ok_asI, ok_rg2, ok_lRg, ok_dTupRg, ok_meth0, ok_meth1, ok_methL, ok_chkL, ok_append, ok_extend, ok_pop, ok_popO, ok_sOf, ok_srcOf_tup, ok_srcOf_scr, ok_srcOf_kt, ok_srcOf_ref, ok_sOfL, ok_sEnum, ok_enumOf_tup, ok_enumOf_ref, ok_sRange1, ok_sRange2, ok_gName, ok_gNil, ok_gCons, ok_gTup, oks_ok, oks_thn, oks_nx, oks_bk, oks_ct, oks_seq, oks_expr, oks_ret, oks_asg, oks_set, oks_par2, oks_par3, oks_if, oks_put, ok_setP, ok_putL, ok_fnOf, ok_dDict, ok_kNil, ok_kCons, ok_aStar, ok_star_tup, ok_star_ref, oks_for, ok_comp, scal_int, scal_str, scal_bl, scal_non, scal_tup, scal_ref, dat_int, dat_str, dat_bl, dat_non, dat_tup, ok_look, ok_store, ok_lookO_int, ok_lookO_str, ok_storeO_int, ok_storeO_str, ok_in, ok_notIn, List.getElem?_cons_zero, List.getElem?_cons_succ, List.set_cons_zero, List.set_cons_succ, List.length_cons, List.length_nil, List.map_cons, List.map_nil, List.replicate_succ, List.replicate_zero, List.cons_append, List.nil_append, Nat.reduceSub, Nat.reduceAdd, Nat.zero_add, true_and, and_true, decide_eq_true_eq, decide_eq_false_iff_not, Bool.not_eq_true', Bool.not_eq_false', forall_const, Bool.false_eq_true, Bool.true_eq_false, false_implies, true_implies, reduceCtorEq, Bool.not_true, Bool.not_false, wipeE, reduceIte, and_self, Option.some.injEq, exists_eq_left', exists_eq_left, List.getElem?_nil, List.length_map]
  refine (for_seq (QF := fun f ρ m' => f = .nx ∧ m' = m ∧ ∃ x p, ρ = [some (.scr (ns.map .int)), some (.int x), p, none]) (enc := P.int) rfl (fun _ ρ m' => m' = m ∧ ∃ x p, ρ = [some (.scr (ns.map .int)), some (.int x), p, none]) ?_ ?_ ?_).mono ?_
  · exact ⟨rfl, _, _, rfl⟩
  · rintro done a rest ρ m' e ⟨rfl, x, p, rfl⟩
    simp only [ok_ok, ok_ret, ok_bnd, ok_when, ok_opt, ok_getO, ok_putO, ok_newO, ok_dVar, ok_dC, ok_aNil, ok_aCons, ok_dOp, ok_dUn, ok_dTup, ok_lLst, ok_dNew, ok_dIf, ok_dCall, ok_tVal, ok_asB, ok_tTru, ok_truth_bl, ok_truth_int, ok_truth_non, ok_truth_tup, ok_tYes, ok_tAnd, ok_tOr, ok_tNot, ok_dAnd, ok_dOr, ok_uNot, ok_dChain, ok_add_int, ok_add_tup, ok_add_str, ok_add_ref, ok_sub, ok_mul, ok_mul_lst, ok_mulT, ok_div, ok_mod, ok_pow, ok_shl, ok_shr, ok_band, ok_bor, ok_xor, ok_neg, ok_lt, ok_le, ok_gt, ok_ge, ok_asD, ok_eqD, ok_eq_int, ok_eq_str, ok_eq_bl, ok_eq_non, ok_eq_tup, ok_eq_ref, ok_eq_it, ok_eq_in, ok_eq_nt, ok_eq_ni, ok_ne_int, ok_ne_str, ok_ne_bl, ok_ne_non, ok_ne_tup, ok_ne_ref, ok_ne_it, ok_ne_in, ok_ne_nt, ok_ne_ni, ok_isN, ok_notN, ok_ix_tup, ok_ix_scr, ok_ix_ref, ok_pNone, ok_pSome, ok_dSl, ok_sl_tup, ok_sl_ref, ok_dRev, ok_rev_ref, ok_lRev, ok_one, ok_two, ok_abs, ok_bint, ok_bint_bl, ok_max2, ok_min2, ok_len_tup, ok_len_scr, ok_len_str, ok_len_ref, ok_btup_tup, ok_btup_scr, ok_btup_ref, ok_dL, ok_lThen, ok_dV, ok_lV, ok_dR, ok_items_tup, ok_items_scr, ok_items_ref, ok_itemsR_scr, ok_itemsR_ref, ok_lId, ok_nTup, ok_nLen, ok_nSum, ok_nAny, ok_nAll, ok_rg1, ok_asI, ok_rg2, ok_lRg, ok_dTupRg, ok_meth0, ok_meth1, ok_methL, ok_chkL, ok_append, ok_extend, ok_pop, ok_popO, ok_sOf, ok_srcOf_tup, ok_srcOf_scr, ok_srcOf_kt, ok_srcOf_ref, ok_sOfL, ok_sEnum, ok_enumOf_tup, ok_enumOf_ref, ok_sRange1, ok_sRange2, ok_gName, ok_gNil, ok_gCons, ok_gTup, oks_ok, oks_thn, oks_nx, oks_bk, oks_ct, oks_seq, oks_expr, oks_ret, oks_asg, oks_set, oks_par2, oks_par3, oks_if, oks_put, ok_setP, ok_putL, ok_fnOf, ok_dDict, ok_kNil, ok_kCons, ok_aStar, ok_star_tup, ok_star_ref, oks_for, ok_comp, scal_int, scal_str, scal_bl, scal_non, scal_tup, scal_ref, dat_int, dat_str, dat_bl, dat_non, dat_tup, ok_look, ok_store, ok_lookO_int, ok_lookO_str, ok_storeO_int, ok_storeO_str, ok_in, ok_notIn, List.getElem?_cons_zero, List.getElem?_cons_succ, List.set_cons_zero, List.set_cons_succ, List.length_cons, List.length_nil, List.map_cons, List.map_nil, List.replicate_succ, List.replicate_zero, List.cons_append, List.nil_append, Nat.reduceSub, Nat.reduceAdd, Nat.zero_add, true_and, and_true, decide_eq_true_eq, decide_eq_false_iff_not, Bool.not_eq_true', Bool.not_eq_false', forall_const, Bool.false_eq_true, Bool.true_eq_false, false_implies, true_implies, reduceCtorEq, Bool.not_true, Bool.not_false, wipeE, reduceIte, and_self, Option.some.injEq, exists_eq_left', exists_eq_left, List.getElem?_nil, List.length_map]
    exact ⟨cMul_right (by decide), cMul_right (by decide), by decide, _, _, rfl⟩
  · rintro ρ m' ⟨rfl, x, p, rfl⟩
    exact ⟨rfl, rfl, x, p, rfl⟩
  · rintro f ρ m' ⟨rfl, rfl, x, p, rfl⟩
    simp only [ok_ok, ok_ret, ok_bnd, ok_when, ok_opt, ok_getO, ok_putO, ok_newO, ok_dVar, ok_dC, ok_aNil, ok_aCons, ok_dOp, ok_dUn, ok_dTup, ok_lLst, ok_dNew, ok_dIf, ok_dCall, ok_tVal, ok_asB, ok_tTru, ok_truth_bl, ok_truth_int, ok_truth_non, ok_truth_tup, ok_tYes, ok_tAnd, ok_tOr, ok_tNot, ok_dAnd, ok_dOr, ok_uNot, ok_dChain, ok_add_int, ok_add_tup, ok_add_str, ok_add_ref, ok_sub, ok_mul, ok_mul_lst, ok_mulT, ok_div, ok_mod, ok_pow, ok_shl, ok_shr, ok_band, ok_bor, ok_xor, ok_neg, ok_lt, ok_le, ok_gt, ok_ge, ok_asD, ok_eqD, ok_eq_int, ok_eq_str, ok_eq_bl, ok_eq_non, ok_eq_tup, ok_eq_ref, ok_eq_it, ok_eq_in, ok_eq_nt, ok_eq_ni, ok_ne_int, ok_ne_str, ok_ne_bl, ok_ne_non, ok_ne_tup, ok_ne_ref, ok_ne_it, ok_ne_in, ok_ne_nt, ok_ne_ni, ok_isN, ok_notN, ok_ix_tup, ok_ix_scr, ok_ix_ref, ok_pNone, ok_pSome, ok_dSl, ok_sl_tup, ok_sl_ref, ok_dRev, ok_rev_ref, ok_lRev, ok_one, ok_two, ok_abs, ok_bint, ok_bint_bl, ok_max2, ok_min2, ok_len_tup, ok_len_scr, ok_len_str, ok_len_ref, ok_btup_tup, ok_btup_scr, ok_btup_ref, ok_dL, ok_lThen, ok_dV, ok_lV, ok_dR, ok_items_tup, ok_items_scr, ok_items_ref, ok_itemsR_scr, ok_itemsR_ref, ok_lId, ok_nTup, ok_nLen, ok_nSum, ok_nAny, ok_nAll, ok_rg1, ok_asI, ok_rg2, ok_lRg, ok_dTupRg, ok_meth0, ok_meth1, ok_methL, ok_chkL, ok_append, ok_extend, ok_pop, ok_popO, ok_sOf, ok_srcOf_tup, ok_srcOf_scr, ok_srcOf_kt, ok_srcOf_ref, ok_sOfL, ok_sEnum, ok_enumOf_tup, ok_enumOf_ref, ok_sRange1, ok_sRange2, ok_gName, ok_gNil, ok_gCons, ok_gTup, oks_ok, oks_thn, oks_nx, oks_bk, oks_ct, oks_seq, oks_expr, oks_ret, oks_asg, oks_set, oks_par2, oks_par3, oks_if, oks_put, ok_setP, ok_putL, ok_fnOf, ok_dDict, ok_kNil, ok_kCons, ok_aStar, ok_star_tup, ok_star_ref, oks_for, ok_comp, scal_int, scal_str, scal_bl, scal_non, scal_tup, scal_ref, dat_int, dat_str, dat_bl, dat_non, dat_tup, ok_look, ok_store, ok_lookO_int, ok_lookO_str, ok_storeO_int, ok_storeO_str, ok_in, ok_notIn, List.getElem?_cons_zero, List.getElem?_cons_succ, List.set_cons_zero, List.set_cons_succ, List.length_cons, List.length_nil, List.map_cons, List.map_nil, List.replicate_succ, List.replicate_zero, List.cons_append, List.nil_append, Nat.reduceSub, Nat.reduceAdd, Nat.zero_add, true_and, and_true, decide_eq_true_eq, decide_eq_false_iff_not, Bool.not_eq_true', Bool.not_eq_false', forall_const, Bool.false_eq_true, Bool.true_eq_false, false_implies, true_implies, reduceCtorEq, Bool.not_true, Bool.not_false, wipeE, reduceIte, and_self, Option.some.injEq, exists_eq_left', exists_eq_left, List.getElem?_nil, List.length_map]
    refine comp_seq (enc := P.int) rfl (by have : (16777216 : Nat) = SZ := rfl; omega) (fun done acc m1 => m1 = m' ∧ acc = (done.map fun i => P.int (if i < 0 then -i else i))) ⟨rfl, rfl⟩ ?_ ?_
    · rintro done a rest acc m1 e _ ⟨rfl, rfl⟩
      simp only [ok_ok, ok_ret, ok_bnd, ok_when, ok_opt, ok_getO, ok_putO, ok_newO, ok_dVar, ok_dC, ok_aNil, ok_aCons, ok_dOp, ok_dUn, ok_dTup, ok_lLst, ok_dNew, ok_dIf, ok_dCall, ok_tVal, ok_asB, ok_tTru, ok_truth_bl, ok_truth_int, ok_truth_non, ok_truth_tup, ok_tYes, ok_tAnd, ok_tOr, ok_tNot, ok_dAnd, ok_dOr, ok_uNot, ok_dChain, ok_add_int, ok_add_tup, ok_add_str, ok_add_ref, ok_sub, ok_mul, ok_mul_lst, ok_mulT, ok_div, ok_mod, ok_pow, ok_shl, ok_shr, ok_band, ok_bor, ok_xor, ok_neg, ok_lt, ok_le, ok_gt, ok_ge, ok_asD, ok_eqD, ok_eq_int, ok_eq_str, ok_eq_bl, ok_eq_non, ok_eq_tup, ok_eq_ref, ok_eq_it, ok_eq_in, ok_eq_nt, ok_eq_ni, ok_ne_int, ok_ne_str, ok_ne_bl, ok_ne_non, ok_ne_tup, ok_ne_ref, ok_ne_it, ok_ne_in, ok_ne_nt, ok_ne_ni, ok_isN, ok_notN, ok_ix_tup, ok_ix_scr, ok_ix_ref, ok_pNone, ok_pSome, ok_dSl, ok_sl_tup, ok_sl_ref, ok_dRev, ok_rev_ref, ok_lRev, ok_one, ok_two, ok_abs, ok_bint, ok_bint_bl, ok_max2, ok_min2, ok_len_tup, ok_len_scr, ok_len_str, ok_len_ref, ok_btup_tup, ok_btup_scr, ok_btup_ref, ok_dL, ok_lThen, ok_dV, ok_lV, ok_dR, ok_items_tup, ok_items_scr, ok_items_ref, ok_itemsR_scr, ok_itemsR_ref, ok_lId, ok_nTup, ok_nLen, ok_nSum, ok_nAny, ok_nAll, ok_rg1, ok_asI, ok_rg2, ok_lRg, ok_dTupRg, ok_meth0, ok_meth1, ok_methL, ok_chkL, ok_append, ok_extend, ok_pop, ok_popO, ok_sOf, ok_srcOf_tup, ok_srcOf_scr, ok_srcOf_kt, ok_srcOf_ref, ok_sOfL, ok_sEnum, ok_enumOf_tup, ok_enumOf_ref, ok_sRange1, ok_sRange2, ok_gName, ok_gNil, ok_gCons, ok_gTup, oks_ok, oks_thn, oks_nx, oks_bk, oks_ct, oks_seq, oks_expr, oks_ret, oks_asg, oks_set, oks_par2, oks_par3, oks_if, oks_put, ok_setP, ok_putL, ok_fnOf, ok_dDict, ok_kNil, ok_kCons, ok_aStar, ok_star_tup, ok_star_ref, oks_for, ok_comp, scal_int, scal_str, scal_bl, scal_non, scal_tup, scal_ref, dat_int, dat_str, dat_bl, dat_non, dat_tup, ok_look, ok_store, ok_lookO_int, ok_lookO_str, ok_storeO_int, ok_storeO_str, ok_in, ok_notIn, List.getElem?_cons_zero, List.getElem?_cons_succ, List.set_cons_zero, List.set_cons_succ, List.length_cons, List.length_nil, List.map_cons, List.map_nil, List.replicate_succ, List.replicate_zero, List.cons_append, List.nil_append, Nat.reduceSub, Nat.reduceAdd, Nat.zero_add, true_and, and_true, decide_eq_true_eq, decide_eq_false_iff_not, Bool.not_eq_true', Bool.not_eq_false', forall_const, Bool.false_eq_true, Bool.true_eq_false, false_implies, true_implies, reduceCtorEq, Bool.not_true, Bool.not_false, wipeE, reduceIte, and_self, Option.some.injEq, exists_eq_left', exists_eq_left, List.getElem?_nil, List.length_map]
      simp
    · rintro acc m1 _ ⟨rfl, rfl⟩
      simp only [ok_ok, ok_ret, ok_bnd, ok_when, ok_opt, ok_getO, ok_putO, ok_newO, ok_dVar, ok_dC, ok_aNil, ok_aCons, ok_dOp, ok_dUn, ok_dTup, ok_lLst, ok_dNew, ok_dIf, ok_dCall, ok_tVal, ok_asB, ok_tTru, ok_truth_bl, ok_truth_int, ok_truth_non, ok_truth_tup, ok_tYes, ok_tAnd, ok_tOr, ok_tNot, ok_dAnd, ok_dOr, ok_uNot, ok_dChain, ok_add_int, ok_add_tup, ok_add_str, ok_add_ref, ok_sub, ok_mul, ok_mul_lst, ok_mulT, ok_div, ok_mod, ok_pow, ok_shl, ok_shr, ok_band, ok_bor, ok_xor, ok_neg, ok_lt, ok_le, ok_gt, ok_ge, ok_asD, ok_eqD, ok_eq_int, ok_eq_str, ok_eq_bl, ok_eq_non, ok_eq_tup, ok_eq_ref, ok_eq_it, ok_eq_in, ok_eq_nt, ok_eq_ni, ok_ne_int, ok_ne_str, ok_ne_bl, ok_ne_non, ok_ne_tup, ok_ne_ref, ok_ne_it, ok_ne_in, ok_ne_nt, ok_ne_ni, ok_isN, ok_notN, ok_ix_tup, ok_ix_scr, ok_ix_ref, ok_pNone, ok_pSome, ok_dSl, ok_sl_tup, ok_sl_ref, ok_dRev, ok_rev_ref, ok_lRev, ok_one, ok_two, ok_abs, ok_bint, ok_bint_bl, ok_max2, ok_min2, ok_len_tup, ok_len_scr, ok_len_str, ok_len_ref, ok_btup_tup, ok_btup_scr, ok_btup_ref, ok_dL, ok_lThen, ok_dV, ok_lV, ok_dR, ok_items_tup, ok_items_scr, ok_items_ref, ok_itemsR_scr, ok_itemsR_ref, ok_lId, ok_nTup, ok_nLen, ok_nSum, ok_nAny, ok_nAll, ok_rg1, ok_asI, ok_rg2, ok_lRg, ok_dTupRg, ok_meth0, ok_meth1, ok_methL, ok_chkL, ok_append, ok_extend, ok_pop, ok_popO, ok_sOf, ok_srcOf_tup, ok_srcOf_scr, ok_srcOf_kt, ok_srcOf_ref, ok_sOfL, ok_sEnum, ok_enumOf_tup, ok_enumOf_ref, ok_sRange1, ok_sRange2, ok_gName, ok_gNil, ok_gCons, ok_gTup, oks_ok, oks_thn, oks_nx, oks_bk, oks_ct, oks_seq, oks_expr, oks_ret, oks_asg, oks_set, oks_par2, oks_par3, oks_if, oks_put, ok_setP, ok_putL, ok_fnOf, ok_dDict, ok_kNil, ok_kCons, ok_aStar, ok_star_tup, ok_star_ref, oks_for, ok_comp, scal_int, scal_str, scal_bl, scal_non, scal_tup, scal_ref, dat_int, dat_str, dat_bl, dat_non, dat_tup, ok_look, ok_store, ok_lookO_int, ok_lookO_str, ok_storeO_int, ok_storeO_str, ok_in, ok_notIn, List.getElem?_cons_zero, List.getElem?_cons_succ, List.set_cons_zero, List.set_cons_succ, List.length_cons, List.length_nil, List.map_cons, List.map_nil, List.replicate_succ, List.replicate_zero, List.cons_append, List.nil_append, Nat.reduceSub, Nat.reduceAdd, Nat.zero_add, true_and, and_true, decide_eq_true_eq, decide_eq_false_iff_not, Bool.not_eq_true', Bool.not_eq_false', forall_const, Bool.false_eq_true, Bool.true_eq_false, false_implies, true_implies, reduceCtorEq, Bool.not_true, Bool.not_false, wipeE, reduceIte, and_self, Option.some.injEq, exists_eq_left', exists_eq_left, List.getElem?_nil, List.length_map, new_get]
      refine ⟨srcD _ 1 x 0, rfl, (by show 4 ≤ 15; omega), _, m1.length + 1, rfl, ⟨by simp, 1, x, 0, (ns.map fun i => if i < 0 then -i else i).reverse, ?_, ?_, by simpa using hn⟩, ((Fr.new _ _ _).trans (Fr.new _ _ _)).trans (Fr.new _ _ _), by simp, by simp⟩
      · rw [new_get, puts_src]
        simp
      · rw [List.getElem?_append_left (by simp)]
        have e : m1.length + 1 = (m1 ++ [O.lst (List.map (fun i => P.int (if i < 0 then -i else i)) ns)]).length := by simp
        rw [e, new_get]
        simp [Function.comp_def]
theorem srcA_ok (ns : List Int) (hn : ns.length ≤ 63) (m : Hm) : Ok (F_srcA [.scr (ns.map .int)] m) fun p m' => ∃ n c, p = .ref n ∧ IsSrc m' n c ∧ Fr [] m m' ∧ m.length ≤ n ∧ m.length ≤ c := by
  unfold F_srcA D_srcA
  simp only [ok_ok, ok_ret, ok_bnd, ok_when, ok_opt, ok_getO, ok_putO, ok_newO, ok_dVar, ok_dC, ok_aNil, ok_aCons, ok_dOp, ok_dUn, ok_dTup, ok_lLst, ok_dNew, ok_dIf, ok_dCall, ok_tVal, ok_asB, ok_tTru, ok_truth_bl, ok_truth_int, ok_truth_non, ok_truth_tup, ok_tYes, ok_tAnd, ok_tOr, ok_tNot, ok_dAnd, ok_dOr, ok_uNot, ok_dChain, ok_add_int, ok_add_tup, ok_add_str, ok_add_ref, ok_sub, ok_mul, ok_mul_lst, ok_mulT, ok_div, ok_mod, ok_pow, ok_shl, ok_shr, ok_band, ok_bor, ok_xor, ok_neg, ok_lt, ok_le, ok_gt, ok_ge, ok_asD, ok_eqD, ok_eq_int, ok_eq_str, ok_eq_bl, ok_eq_non, ok_eq_tup, ok_eq_ref, ok_eq_it, ok_eq_in, ok_eq_nt, ok_eq_ni, ok_ne_int, ok_ne_str, ok_ne_bl, ok_ne_non, ok_ne_tup, ok_ne_ref, ok_ne_it, ok_ne_in, ok_ne_nt, ok_ne_ni, ok_isN, ok_notN, ok_ix_tup, ok_ix_scr, ok_ix_ref, ok_pNone, ok_pSome, ok_dSl, ok_sl_tup, ok_sl_ref, ok_dRev, ok_rev_ref, ok_lRev, ok_one, ok_two, ok_abs, ok_bint, ok_bint_bl, ok_max2, ok_min2, ok_len_tup, ok_len_scr, ok_len_str, ok_len_ref, ok_btup_tup, ok_btup_scr, ok_btup_ref, ok_dL, ok_lThen, ok_dV, ok_lV, ok_dR, ok_items_tup, ok_items_scr, ok_items_ref, ok_itemsR_scr, ok_itemsR_ref, ok_lId, ok_nTup, ok_nLen, ok_nSum, ok_nAny, ok_nAll, ok_rg1, ok_asI, ok_rg2, ok_lRg, ok_dTupRg, ok_meth0, ok_meth1, ok_methL, ok_chkL, ok_append, ok_extend, ok_pop, ok_popO, ok_sOf, ok_srcOf_tup, ok_srcOf_scr, ok_srcOf_kt, ok_srcOf_ref, ok_sOfL, ok_sEnum, ok_enumOf_tup, ok_enumOf_ref, ok_sRange1, ok_sRange2, ok_gName, ok_gNil, ok_gCons, ok_gTup, oks_ok, oks_thn, oks_nx, oks_bk, oks_ct, oks_seq, oks_expr, oks_ret, oks_asg, oks_set, oks_par2, oks_par3, oks_if, oks_put, ok_setP, ok_putL, ok_fnOf, ok_dDict, ok_kNil, ok_kCons, ok_aStar, ok_star_tup, ok_star_ref, oks_for, ok_comp, scal_int, scal_str, scal_bl, scal_non, scal_tup, scal_ref, dat_int, dat_str, dat_bl, dat_non, dat_tup, ok_look, ok_store, ok_lookO_int, ok_lookO_str, ok_storeO_int, ok_storeO_str, ok_in, ok_notIn, List.getElem?_cons_zero, List.getElem?_cons_succ, List.set_cons_zero, List.set_cons_succ, List.length_cons, List.length_nil, List.map_cons, List.map_nil, List.replicate_succ, List.replicate_zero, List.cons_append, List.nil_append, Nat.reduceSub, Nat.reduceAdd, Nat.zero_add, true_and, and_true, decide_eq_true_eq, decide_eq_false_iff_not, Bool.not_eq_true', Bool.not_eq_false', forall_const, Bool.false_eq_true, Bool.true_eq_false, false_implies, true_implies, reduceCtorEq, Bool.not_true, Bool.not_false, wipeE, reduceIte, and_self, Option.some.injEq, exists_eq_left', exists_eq_left, List.getElem?_nil, List.length_map]
  refine (for_seq (QF := fun f ρ m' => f = .nx ∧ m' = m ∧ ∃ x p, ρ = [some (.scr (ns.map .int)), some (.int x), p]) (enc := P.int) rfl (fun _ ρ m' => m' = m ∧ ∃ x p, ρ = [some (.scr (ns.map .int)), some (.int x), p]) ?_ ?_ ?_).mono ?_
  · exact ⟨rfl, _, _, rfl⟩
  · rintro done a rest ρ m' e ⟨rfl, x, p, rfl⟩
    simp only [ok_ok, ok_ret, ok_bnd, ok_when, ok_opt, ok_getO, ok_putO, ok_newO, ok_dVar, ok_dC, ok_aNil, ok_aCons, ok_dOp, ok_dUn, ok_dTup, ok_lLst, ok_dNew, ok_dIf, ok_dCall, ok_tVal, ok_asB, ok_tTru, ok_truth_bl, ok_truth_int, ok_truth_non, ok_truth_tup, ok_tYes, ok_tAnd, ok_tOr, ok_tNot, ok_dAnd, ok_dOr, ok_uNot, ok_dChain, ok_add_int, ok_add_tup, ok_add_str, ok_add_ref, ok_sub, ok_mul, ok_mul_lst, ok_mulT, ok_div, ok_mod, ok_pow, ok_shl, ok_shr, ok_band, ok_bor, ok_xor, ok_neg, ok_lt, ok_le, ok_gt, ok_ge, ok_asD, ok_eqD, ok_eq_int, ok_eq_str, ok_eq_bl, ok_eq_non, ok_eq_tup, ok_eq_ref, ok_eq_it, ok_eq_in, ok_eq_nt, ok_eq_ni, ok_ne_int, ok_ne_str, ok_ne_bl, ok_ne_non, ok_ne_tup, ok_ne_ref, ok_ne_it, ok_ne_in, ok_ne_nt, ok_ne_ni, ok_isN, ok_notN, ok_ix_tup, ok_ix_scr, ok_ix_ref, ok_pNone, ok_pSome, ok_dSl, ok_sl_tup, ok_sl_ref, ok_dRev, ok_rev_ref, ok_lRev, ok_one, ok_two, ok_abs, ok_bint, ok_bint_bl, ok_max2, ok_min2, ok_len_tup, ok_len_scr, ok_len_str, ok_len_ref, ok_btup_tup, ok_btup_scr, ok_btup_ref, ok_dL, ok_lThen, ok_dV, ok_lV, ok_dR, ok_items_tup, ok_items_scr, ok_items_ref, ok_itemsR_scr, ok_itemsR_ref, ok_lId, ok_nTup, ok_nLen, ok_nSum, ok_nAny, ok_nAll, ok_rg1, ok_asI, ok_rg2, ok_lRg, ok_dTupRg, ok_meth0, ok_meth1, ok_methL, ok_chkL, ok_append, ok_extend, ok_pop, ok_popO, ok_sOf, ok_srcOf_tup, ok_srcOf_scr, ok_srcOf_kt, ok_srcOf_ref, ok_sOfL, ok_sEnum, ok_enumOf_tup, ok_enumOf_ref, ok_sRange1, ok_sRange2, ok_gName, ok_gNil, ok_gCons, ok_gTup, oks_ok, oks_thn, oks_nx, oks_bk, oks_ct, oks_seq, oks_expr, oks_ret, oks_asg, oks_set, oks_par2, oks_par3, oks_if, oks_put, ok_setP, ok_putL, ok_fnOf, ok_dDict, ok_kNil, ok_kCons, ok_aStar, ok_star_tup, ok_star_ref, oks_for, ok_comp, scal_int, scal_str, scal_bl, scal_non, scal_tup, scal_ref, dat_int, dat_str, dat_bl, dat_non, dat_tup, ok_look, ok_store, ok_lookO_int, ok_lookO_str, ok_storeO_int, ok_storeO_str, ok_in, ok_notIn, List.getElem?_cons_zero, List.getElem?_cons_succ, List.set_cons_zero, List.set_cons_succ, List.length_cons, List.length_nil, List.map_cons, List.map_nil, List.replicate_succ, List.replicate_zero, List.cons_append, List.nil_append, Nat.reduceSub, Nat.reduceAdd, Nat.zero_add, true_and, and_true, decide_eq_true_eq, decide_eq_false_iff_not, Bool.not_eq_true', Bool.not_eq_false', forall_const, Bool.false_eq_true, Bool.true_eq_false, false_implies, true_implies, reduceCtorEq, Bool.not_true, Bool.not_false, wipeE, reduceIte, and_self, Option.some.injEq, exists_eq_left', exists_eq_left, List.getElem?_nil, List.length_map]
    exact ⟨cMul_right (by decide), cMul_right (by decide), by decide, _, _, rfl⟩
  · rintro ρ m' ⟨rfl, x, p, rfl⟩
    exact ⟨rfl, rfl, x, p, rfl⟩
  · rintro f ρ m' ⟨rfl, rfl, x, p, rfl⟩
    simp only [ok_ok, ok_ret, ok_bnd, ok_when, ok_opt, ok_getO, ok_putO, ok_newO, ok_dVar, ok_dC, ok_aNil, ok_aCons, ok_dOp, ok_dUn, ok_dTup, ok_lLst, ok_dNew, ok_dIf, ok_dCall, ok_tVal, ok_asB, ok_tTru, ok_truth_bl, ok_truth_int, ok_truth_non, ok_truth_tup, ok_tYes, ok_tAnd, ok_tOr, ok_tNot, ok_dAnd, ok_dOr, ok_uNot, ok_dChain, ok_add_int, ok_add_tup, ok_add_str, ok_add_ref, ok_sub, ok_mul, ok_mul_lst, ok_mulT, ok_div, ok_mod, ok_pow, ok_shl, ok_shr, ok_band, ok_bor, ok_xor, ok_neg, ok_lt, ok_le, ok_gt, ok_ge, ok_asD, ok_eqD, ok_eq_int, ok_eq_str, ok_eq_bl, ok_eq_non, ok_eq_tup, ok_eq_ref, ok_eq_it, ok_eq_in, ok_eq_nt, ok_eq_ni, ok_ne_int, ok_ne_str, ok_ne_bl, ok_ne_non, ok_ne_tup, ok_ne_ref, ok_ne_it, ok_ne_in, ok_ne_nt, ok_ne_ni, ok_isN, ok_notN, ok_ix_tup, ok_ix_scr, ok_ix_ref, ok_pNone, ok_pSome, ok_dSl, ok_sl_tup, ok_sl_ref, ok_dRev, ok_rev_ref, ok_lRev, ok_one, ok_two, ok_abs, ok_bint, ok_bint_bl, ok_max2, ok_min2, ok_len_tup, ok_len_scr, ok_len_str, ok_len_ref, ok_btup_tup, ok_btup_scr, ok_btup_ref, ok_dL, ok_lThen, ok_dV, ok_lV, ok_dR, ok_items_tup, ok_items_scr, ok_items_ref, ok_itemsR_scr, ok_itemsR_ref, ok_lId, ok_nTup, ok_nLen, ok_nSum, ok_nAny, ok_nAll, ok_rg1, ok_asI, ok_rg2, ok_lRg, ok_dTupRg, ok_meth0, ok_meth1, ok_methL, ok_chkL, ok_append, ok_extend, ok_pop, ok_popO, ok_sOf, ok_srcOf_tup, ok_srcOf_scr, ok_srcOf_kt, ok_srcOf_ref, ok_sOfL, ok_sEnum, ok_enumOf_tup, ok_enumOf_ref, ok_sRange1, ok_sRange2, ok_gName, ok_gNil, ok_gCons, ok_gTup, oks_ok, oks_thn, oks_nx, oks_bk, oks_ct, oks_seq, oks_expr, oks_ret, oks_asg, oks_set, oks_par2, oks_par3, oks_if, oks_put, ok_setP, ok_putL, ok_fnOf, ok_dDict, ok_kNil, ok_kCons, ok_aStar, ok_star_tup, ok_star_ref, oks_for, ok_comp, scal_int, scal_str, scal_bl, scal_non, scal_tup, scal_ref, dat_int, dat_str, dat_bl, dat_non, dat_tup, ok_look, ok_store, ok_lookO_int, ok_lookO_str, ok_storeO_int, ok_storeO_str, ok_in, ok_notIn, List.getElem?_cons_zero, List.getElem?_cons_succ, List.set_cons_zero, List.set_cons_succ, List.length_cons, List.length_nil, List.map_cons, List.map_nil, List.replicate_succ, List.replicate_zero, List.cons_append, List.nil_append, Nat.reduceSub, Nat.reduceAdd, Nat.zero_add, true_and, and_true, decide_eq_true_eq, decide_eq_false_iff_not, Bool.not_eq_true', Bool.not_eq_false', forall_const, Bool.false_eq_true, Bool.true_eq_false, false_implies, true_implies, reduceCtorEq, Bool.not_true, Bool.not_false, wipeE, reduceIte, and_self, Option.some.injEq, exists_eq_left', exists_eq_left, List.getElem?_nil, List.length_map]
    refine comp_seq (enc := P.int) rfl (by have : (16777216 : Nat) = SZ := rfl; omega) (fun done acc m1 => m1 = m' ∧ acc = (done.map fun i => P.int (if i < 0 then -i else i))) ⟨rfl, rfl⟩ ?_ ?_
    · rintro done a rest acc m1 e _ ⟨rfl, rfl⟩
      simp only [ok_ok, ok_ret, ok_bnd, ok_when, ok_opt, ok_getO, ok_putO, ok_newO, ok_dVar, ok_dC, ok_aNil, ok_aCons, ok_dOp, ok_dUn, ok_dTup, ok_lLst, ok_dNew, ok_dIf, ok_dCall, ok_tVal, ok_asB, ok_tTru, ok_truth_bl, ok_truth_int, ok_truth_non, ok_truth_tup, ok_tYes, ok_tAnd, ok_tOr, ok_tNot, ok_dAnd, ok_dOr, ok_uNot, ok_dChain, ok_add_int, ok_add_tup, ok_add_str, ok_add_ref, ok_sub, ok_mul, ok_mul_lst, ok_mulT, ok_div, ok_mod, ok_pow, ok_shl, ok_shr, ok_band, ok_bor, ok_xor, ok_neg, ok_lt, ok_le, ok_gt, ok_ge, ok_asD, ok_eqD, ok_eq_int, ok_eq_str, ok_eq_bl, ok_eq_non, ok_eq_tup, ok_eq_ref, ok_eq_it, ok_eq_in, ok_eq_nt, ok_eq_ni, ok_ne_int, ok_ne_str, ok_ne_bl, ok_ne_non, ok_ne_tup, ok_ne_ref, ok_ne_it, ok_ne_in, ok_ne_nt, ok_ne_ni, ok_isN, ok_notN, ok_ix_tup, ok_ix_scr, ok_ix_ref, ok_pNone, ok_pSome, ok_dSl, ok_sl_tup, ok_sl_ref, ok_dRev, ok_rev_ref, ok_lRev, ok_one, ok_two, ok_abs, ok_bint, ok_bint_bl, ok_max2, ok_min2, ok_len_tup, ok_len_scr, ok_len_str, ok_len_ref, ok_btup_tup, ok_btup_scr, ok_btup_ref, ok_dL, ok_lThen, ok_dV, ok_lV, ok_dR, ok_items_tup, ok_items_scr, ok_items_ref, ok_itemsR_scr, ok_itemsR_ref, ok_lId, ok_nTup, ok_nLen, ok_nSum, ok_nAny, ok_nAll, ok_rg1, ok_asI, ok_rg2, ok_lRg, ok_dTupRg, ok_meth0, ok_meth1, ok_methL, ok_chkL, ok_append, ok_extend, ok_pop, ok_popO, ok_sOf, ok_srcOf_tup, ok_srcOf_scr, ok_srcOf_kt, ok_srcOf_ref, ok_sOfL, ok_sEnum, ok_enumOf_tup, ok_enumOf_ref, ok_sRange1, ok_sRange2, ok_gName, ok_gNil, ok_gCons, ok_gTup, oks_ok, oks_thn, oks_nx, oks_bk, oks_ct, oks_seq, oks_expr, oks_ret, oks_asg, oks_set, oks_par2, oks_par3, oks_if, oks_put, ok_setP, ok_putL, ok_fnOf, ok_dDict, ok_kNil, ok_kCons, ok_aStar, ok_star_tup, ok_star_ref, oks_for, ok_comp, scal_int, scal_str, scal_bl, scal_non, scal_tup, scal_ref, dat_int, dat_str, dat_bl, dat_non, dat_tup, ok_look, ok_store, ok_lookO_int, ok_lookO_str, ok_storeO_int, ok_storeO_str, ok_in, ok_notIn, List.getElem?_cons_zero, List.getElem?_cons_succ, List.set_cons_zero, List.set_cons_succ, List.length_cons, List.length_nil, List.map_cons, List.map_nil, List.replicate_succ, List.replicate_zero, List.cons_append, List.nil_append, Nat.reduceSub, Nat.reduceAdd, Nat.zero_add, true_and, and_true, decide_eq_true_eq, decide_eq_false_iff_not, Bool.not_eq_true', Bool.not_eq_false', forall_const, Bool.false_eq_true, Bool.true_eq_false, false_implies, true_implies, reduceCtorEq, Bool.not_true, Bool.not_false, wipeE, reduceIte, and_self, Option.some.injEq, exists_eq_left', exists_eq_left, List.getElem?_nil, List.length_map]
      simp
    · rintro acc m1 _ ⟨rfl, rfl⟩
      refine ⟨srcD _ 1 x 0, rfl, (by show 4 ≤ 15; omega), _, m1.length, rfl, ⟨by simp, 1, x, 0, (ns.map fun i => if i < 0 then -i else i).reverse, ?_, ?_, by simpa using hn⟩, (Fr.new _ _ _).trans (Fr.new _ _ _), by simp, by simp⟩
      · rw [new_get, puts_src]
      · rw [List.getElem?_append_left (by simp), new_get]
        simp [Function.comp_def]
end G

/-! Q3: how long a datum's text is; repr. -/
namespace G
open PySem (Str PyData)
open PySem
mutual
def wgt : PyData → Nat
  | .none => 4
  | .bool _ => 5
  | .int i => i.natAbs.log2 + 2
  | .str x => (reprText x).length
  | .list xs => wgtAll xs + 3
  | .tuple xs => wgtAll xs + 3
  | .dict kvs => (PyData.dict kvs).shown.length
def wgtAll : List PyData → Nat
  | [] => 0
  | x :: xs => wgt x + 2 + wgtAll xs
end
theorem textFrom_le : ∀ (ts : List Str) (k : Nat) (acc : Str), (textFrom k acc ts).length ≤ acc.length + piled ts
  | [], k, acc => Nat.le_add_right _ _
  | t :: r, k, acc => by
    have h := textFrom_le r (k + 1) (acc ++ (if k > 0 then ", " else "" : String) ++ t)
    have e : (acc ++ (if k > 0 then ", " else "" : String) ++ t).length = acc.length + (if k > 0 then 2 else 0) + t.length := by
      rw [strLen_append, strLen_append]
      split <;> rfl
    rw [e] at h
    have e2 : piled (t :: r) = t.length + 2 + piled r := by simp [piled]
    show (textFrom (k + 1) _ r).length ≤ _
    rw [e2]
    have e3 : (if k > 0 then 2 else 0 : Nat) ≤ 2 := by split <;> omega
    omega
theorem listText_le (ts : List Str) : (listText ts).length ≤ piled ts + 3 := by
  unfold listText
  rw [strLen_append]
  have h := textFrom_le ts 0 "["
  have e : (("[" : String) : Str).length = 1 := rfl
  have e2 : (("]" : String) : Str).length = 1 := rfl
  omega
theorem tupleText_le (ts : List Str) : (tupleText ts).length ≤ piled ts + 3 := by
  unfold tupleText
  rw [strLen_append, strLen_append]
  have e : (("(" : String) : Str).length = 1 := rfl
  have e2 : ((if ts.length == 1 then ",)" else ")" : String) : Str).length ≤ 2 := by split <;> decide
  by_cases h : ts = []
  · subst h
    have e3 : (Str.join ", " []).length = 0 := rfl
    omega
  · have := join_length_add ts h
    omega
mutual
theorem shown_le : ∀ d : PyData, d.shown.length ≤ wgt d
  | .none => by simp only [PyData.shown, wgt]; decide
  | .bool b => by cases b <;> (simp only [PyData.shown, wgt]; decide)
  | .int i => by
    simp only [PyData.shown, wgt]
    have h := int_text_length_le (a := i) (k := i.natAbs.log2 + 1) (by omega) (by omega)
    show (Str.ofString (toString i)).length ≤ _
    rw [ofString_length]
    exact h
  | .str x => by simp only [PyData.shown, wgt]; exact Nat.le_refl _
  | .list xs => by
    simp only [PyData.shown, wgt]
    have := listText_le (PyData.shownAll xs)
    have := shownAll_le xs
    omega
  | .tuple xs => by
    simp only [PyData.shown, wgt]
    have := tupleText_le (PyData.shownAll xs)
    have := shownAll_le xs
    omega
  | .dict kvs => by simp only [wgt]; exact Nat.le_refl _
theorem shownAll_le : ∀ ds : List PyData, piled (PyData.shownAll ds) ≤ wgtAll ds
  | [] => Nat.le_refl _
  | d :: ds => by
    have h1 := shown_le d
    have h2 := shownAll_le ds
    simp only [PyData.shownAll, wgtAll]
    have e2 : piled (d.shown :: PyData.shownAll ds) = d.shown.length + 2 + piled (PyData.shownAll ds) := by simp [piled]
    omega
end
/-- x is a datum of a text that is not too long -/
structure Shows (m : Hm) (x : P) (d : PyData) : Prop where
  dat : dat m DD x = some d
  sh : d.showable = true
  wt : wgt d ≤ SZ
section
variable {m : Hm} {Q : P → Hm → Prop}
theorem ok_repr {x : P} {d : PyData} (h : Shows m x d) : Ok (bRepr x m) Q = Q (.str d.shown) m := by
  unfold bRepr
  rw [ok_bnd, ok_asD, h.dat]
  show Ok (when_ _ _ m) Q = _
  rw [ok_when, h.sh, decide_eq_true (Nat.le_trans (shown_le d) h.wt)]
  simp only [Bool.true_and, true_and]
  rfl
theorem ok_nRepr {ps : List P} {ds : List PyData} (h : mapO (G.dat m DD) ps = some ds) (hs : PyData.showableAll ds = true) (hw : wgtAll ds + 3 ≤ SZ) : Ok (nRepr ps m) Q = Q (.str (PyData.list ds).shown) m := by
  unfold nRepr
  rw [ok_bnd]
  have e : Ok (allD ps m) = fun Q => Q ds m := by
    funext Q
    unfold allD
    rw [h]
    rfl
  rw [e]
  show Ok (when_ _ _ m) Q = _
  have h1 : (PyData.list ds).showable = true := by simp only [PyData.showable]; exact hs
  have h2 : (PyData.list ds).shown.length ≤ SZ := Nat.le_trans (shown_le _) (by simp only [wgt]; exact hw)
  rw [ok_when, h1, decide_eq_true h2]
  simp only [Bool.true_and, true_and]
  rfl
end
theorem log2_small {n k : Nat} (h : n < 2 ^ (k + 1)) : n.log2 ≤ k := by
  by_cases h0 : n = 0
  · subst h0; rw [Nat.log2_zero]; omega
  · have := (Nat.log2_lt h0).mpr h; omega
/-- ints below 2^64 -/
theorem shw_int {i : Int} (h : i.natAbs < 18446744073709551616) : (PyData.int i).showable = true ∧ wgt (.int i) ≤ 65 := by
  have := log2_small (n := i.natAbs) (k := 63) h
  simp only [PyData.showable, wgt, decide_eq_true_eq]
  omega
theorem wgtAll_le {ds : List PyData} {B : Nat} (h : ∀ d ∈ ds, wgt d ≤ B) : wgtAll ds ≤ ds.length * (B + 2) := by
  induction ds with
  | nil => simp [wgtAll]
  | cons d ds ih =>
    have h1 := h d (by simp)
    have h2 := ih fun x hx => h x (by simp [hx])
    simp only [wgtAll, List.length_cons, Nat.add_mul]
    omega
theorem showAll {ds : List PyData} (h : ∀ d ∈ ds, d.showable = true) : PyData.showableAll ds = true := by
  induction ds with
  | nil => simp [PyData.showableAll]
  | cons d ds ih =>
    simp only [PyData.showableAll, Bool.and_eq_true]
    exact ⟨h d (by simp), ih fun x hx => h x (by simp [hx])⟩
/-- a tuple's datum, its text -/
theorem Shows.int {m : Hm} {i : Int} (h : i.natAbs < 18446744073709551616) : Shows m (.int i) (.int i) := ⟨dat_int _ _ _, (shw_int h).1, Nat.le_trans (shw_int h).2 (by decide)⟩
theorem Shows.str {m : Hm} {x : Str} (h : (reprText x).length ≤ SZ) : Shows m (.str x) (.str x) := ⟨dat_str _ _ _, by simp only [PyData.showable], by simp only [wgt]; exact h⟩
theorem Shows.bl {m : Hm} {b : Bool} : Shows m (.bl b) (.bool b) := ⟨dat_bl _ _ _, by simp only [PyData.showable], by simp only [wgt]; decide⟩
theorem Shows.non {m : Hm} : Shows m .non .none := ⟨dat_non _ _, by simp only [PyData.showable], by simp only [wgt]; decide⟩
end G

/-! Q4: whole numbers, xor, ranges. -/
namespace G
open PySem (Str PyData)
abbrev nI (n : Nat) : P := .int (n : Int)
theorem bxN (a b : Nat) : PySem.Builtin.bitXor (a : Int) (b : Int) = ((a ^^^ b : Nat) : Int) := by
  rw [Bits.bitXor_pp (by omega) (by omega)]
  simp
theorem bxN0 (b : Nat) : PySem.Builtin.bitXor 0 (b : Int) = (b : Int) := by
  have := bxN 0 b
  simpa using this
def xorN (l : List Nat) : Nat := l.foldl (· ^^^ ·) 0
theorem foldl_xor (l : List Nat) : ∀ a : Nat, l.foldl (· ^^^ ·) a = a ^^^ l.foldl (· ^^^ ·) 0 := by
  induction l with
  | nil => intro a; simp
  | cons b l ih =>
    intro a
    rw [List.foldl_cons, List.foldl_cons, ih (a ^^^ b), ih (0 ^^^ b), Nat.zero_xor, Nat.xor_assoc]
theorem xorN_nil : xorN [] = 0 := rfl
theorem xorN_cons (a : Nat) (l : List Nat) : xorN (a :: l) = a ^^^ xorN l := by
  unfold xorN
  rw [List.foldl_cons, foldl_xor, Nat.zero_xor]
theorem xorN_append (l r : List Nat) : xorN (l ++ r) = xorN l ^^^ xorN r := by
  induction l with
  | nil => simp [xorN_nil]
  | cons a l ih => rw [List.cons_append, xorN_cons, ih, xorN_cons, Nat.xor_assoc]
theorem xorN_snoc (l : List Nat) (a : Nat) : xorN (l ++ [a]) = xorN l ^^^ a := by rw [xorN_append, xorN_cons, xorN_nil, Nat.xor_zero]
theorem xorN_lt {l : List Nat} {k : Nat} (h : ∀ a ∈ l, a < 2 ^ k) : xorN l < 2 ^ k := by
  induction l with
  | nil => rw [xorN_nil]; exact Nat.two_pow_pos k
  | cons a l ih =>
    rw [xorN_cons]
    exact Nat.xor_lt_two_pow (h a (by simp)) (ih fun b hb => h b (by simp [hb]))
theorem rangeP_nat (a b : Nat) : rangeP (a : Int) (b : Int) = (List.range (b - a)).map fun i => nI (a + i) := by
  unfold rangeP
  have e : ((b : Int) - (a : Int)).toNat = b - a := by omega
  rw [e]
  rfl
theorem rangeP_zero (b : Int) : rangeP 0 b = (List.range b.toNat).map nI := by
  unfold rangeP
  simp
theorem small62_nat {n : Nat} (h : n < 4611686018427387904) : small62 (n : Int) = true := by
  simp only [small62, Bool.and_eq_true, decide_eq_true_eq]
  omega
theorem mod_two_succ (x i : Nat) : x % 2 ^ (i + 1) = x % 2 ^ i + 2 ^ i * (x.testBit i).toNat := by
  rw [Nat.mod_pow_succ, Nat.testBit_eq_decide_div_mod_eq]
  congr 2
  by_cases h : x / 2 ^ i % 2 = 1
  · rw [decide_eq_true h, h]; rfl
  · rw [decide_eq_false h]; show _ = 0; omega
/-- the number of those of a property -/
theorem bit_xorN (l : List Nat) (k : Nat) : (xorN l).testBit k = decide ((l.filter fun a => a.testBit k).length % 2 = 1) := by
  induction l with
  | nil => simp [xorN_nil]
  | cons a l ih =>
    rw [xorN_cons, Nat.testBit_xor, ih, List.filter_cons]
    cases h : a.testBit k with
    | true =>
      simp only [if_true, List.length_cons]
      by_cases h2 : (l.filter fun a => a.testBit k).length % 2 = 1
      · rw [decide_eq_true h2, decide_eq_false (by omega)]; rfl
      · rw [decide_eq_false h2, decide_eq_true (by omega)]; rfl
    | false => simp
theorem gN1 (m : Hm) (a b : O) : (m ++ [a] ++ [b])[m.length]? = some a := by simp
theorem gN2 (m : Hm) (a b c : O) : (m ++ [a] ++ [b] ++ [c])[m.length]? = some a := by simp
theorem gN3 (m : Hm) (a b c d : O) : (m ++ [a] ++ [b] ++ [c] ++ [d])[m.length]? = some a := by simp
/-- the greatest, 0 if there is none -/
def maxN (l : List Nat) : Nat := l.foldr max 0
theorem le_maxN {l : List Nat} {a : Nat} (h : a ∈ l) : a ≤ maxN l := by
  induction l with
  | nil => simp at h
  | cons b l ih =>
    show a ≤ max b (maxN l)
    rcases List.mem_cons.mp h with rfl | h
    · omega
    · have := ih h; omega
theorem maxN_lt {l : List Nat} {k : Nat} (h : ∀ a ∈ l, a < k) (hk : 0 < k) : maxN l < k := by
  induction l with
  | nil => exact hk
  | cons b l ih =>
    show max b (maxN l) < k
    have := h b (by simp)
    have := ih fun a ha => h a (by simp [ha])
    omega
theorem maxN_mem (l : List Nat) : maxN l ∈ l ∨ maxN l = 0 := by
  induction l with
  | nil => exact .inr rfl
  | cons b l ih =>
    show max b (maxN l) ∈ b :: l ∨ max b (maxN l) = 0
    by_cases h : maxN l ≤ b
    · rw [Nat.max_eq_left h]; exact .inl (by simp)
    · rw [Nat.max_eq_right (by omega)]
      rcases ih with ih | ih
      · exact .inl (by simp [ih])
      · omega
theorem iMax_nat (l : List Nat) : ∀ a : Nat, iMax (a : Int) (l.map (fun (n : Nat) => (n : Int))) = ((max a (maxN l) : Nat) : Int) := by
  induction l with
  | nil => intro a; simp [iMax, maxN]
  | cons b l ih =>
    intro a
    have e : iMax (a : Int) ((b :: l).map fun (n : Nat) => (n : Int)) = iMax ((max a b : Nat) : Int) (l.map fun (n : Nat) => (n : Int)) := by
      show iMax (if (b : Int) > (a : Int) then (b : Int) else (a : Int)) _ = _
      congr 1
      split <;> omega
    rw [e, ih]
    show ((max (max a b) (maxN l) : Nat) : Int) = ((max a (max b (maxN l)) : Nat) : Int)
    omega
theorem ok_nMaxN0 (l : List Nat) (m : Hm) (Q : P → Hm → Prop) : Ok (nMax (l.map nI ++ [.int 0]) m) Q = Q (nI (maxN l)) m := by
  have e : l.map nI ++ [P.int 0] = ((l ++ [0]).map fun (n : Nat) => (n : Int)).map P.int := by simp
  rw [e, ok_nMax _ (by simp)]
  cases l with
  | nil => rfl
  | cons a l =>
    show Q (.int (iMax (a : Int) ((l ++ [0]).map fun (n : Nat) => (n : Int)))) m = Q (.int ((max a (maxN l) : Nat) : Int)) m
    have : maxN (l ++ [0]) = maxN l := by
      unfold maxN
      rw [List.foldr_append]
      rfl
    rw [iMax_nat, this]
theorem ok_nMaxN (l : List Nat) (h : l ≠ []) (m : Hm) (Q : P → Hm → Prop) : Ok (nMax (l.map nI) m) Q = Q (nI (maxN l)) m := by
  have e : l.map nI = (l.map fun (n : Nat) => (n : Int)).map P.int := by simp
  rw [e, ok_nMax _ (by simpa using h)]
  cases l with
  | nil => exact absurd rfl h
  | cons a l =>
    show Q (.int (iMax (a : Int) (l.map fun (n : Nat) => (n : Int)))) m = Q (.int ((max a (maxN l) : Nat) : Int)) m
    rw [iMax_nat]
mutual
/-- the same datum -/
def sameD : PyData → PyData → Bool
  | .none, .none => true
  | .bool a, .bool b => a == b
  | .int i, .int j => decide (i = j)
  | .str x, .str y => decide (x = y)
  | .list xs, .list ys => sameL xs ys
  | .tuple xs, .tuple ys => sameL xs ys
  | _, _ => false
def sameL : List PyData → List PyData → Bool
  | [], [] => true
  | x :: xs, y :: ys => sameD x y && sameL xs ys
  | _, _ => false
end
mutual
theorem sameD_eq : ∀ (d e : PyData), sameD d e = true → d = e
  | .none, e, h => by cases e <;> simp_all [sameD]
  | .bool b, e, h => by cases e <;> simp_all [sameD]
  | .int i, e, h => by cases e <;> simp_all [sameD]
  | .str i, e, h => by cases e <;> simp_all [sameD]
  | .list xs, e, h => by
    cases e with
    | list ys => rw [sameL_eq xs ys (by simpa [sameD] using h)]
    | _ => simp [sameD] at h
  | .tuple xs, e, h => by
    cases e with
    | tuple ys => rw [sameL_eq xs ys (by simpa [sameD] using h)]
    | _ => simp [sameD] at h
  | .dict _, e, h => by cases e <;> simp_all [sameD]
theorem sameL_eq : ∀ (xs ys : List PyData), sameL xs ys = true → xs = ys
  | [], [], _ => rfl
  | x :: xs, y :: ys, h => by
    simp only [sameL, Bool.and_eq_true] at h
    rw [sameD_eq x y h.1, sameL_eq xs ys h.2]
  | [], _ :: _, h => by simp [sameL] at h
  | _ :: _, [], h => by simp [sameL] at h
end
end G

/-! S1: what runs from one heap runs alike behind another one: all references moved. -/
namespace G
open PySem (Str PyData)
mutual
def sP (k : Nat) : P → P
  | .non => .non
  | .bl b => .bl b
  | .int i => .int i
  | .str x => .str x
  | .tup ps => .tup (sPs k ps)
  | .scr ps => .scr (sPs k ps)
  | .kt ps => .kt (sPs k ps)
  | .ref n => .ref (k + n)
def sPs (k : Nat) : List P → List P
  | [] => []
  | p :: ps => sP k p :: sPs k ps
end
theorem sPs_eq (k : Nat) : ∀ ps : List P, sPs k ps = ps.map (sP k)
  | [] => by simp [sPs]
  | p :: ps => by simp [sPs, sPs_eq k ps]
def sKv {κ : Type} (k : Nat) (kvs : List (κ × P)) : List (κ × P) := kvs.map fun kv => (kv.1, sP k kv.2)
def sO (k : Nat) : O → O
  | .lst ps => .lst (sPs k ps)
  | .dK kvs => .dK (sKv k kvs)
  | .dT kvs => .dT (sKv k kvs)
  | .lk kvs => .lk (sKv k kvs)
def sE (k : Nat) (ρ : Env) : Env := ρ.map (Option.map (sP k))
/-- the heap h behind m -/
def sH (m h : Hm) : Hm := m ++ h.map (sO m.length)
def sR {α : Type} (m : Hm) (f : α → α) : R α → R α
  | .ok a h => .ok (f a) (sH m h)
  | .exc c v h => .exc c (sP m.length v) (sH m h)
  | .bad => .bad
/-- x' does behind m what x does -/
def Sf {α : Type} (m : Hm) (f : α → α) (x' x : M α) : Prop := ∀ h, x' (sH m h) = sR m f (x h)
section
variable {α β : Type} {m : Hm}
theorem sf_bnd {x' x : M α} {f : α → α} {g' g : α → M β} {e : β → β} (h : Sf m f x' x) (h2 : ∀ a, Sf m e (g' (f a)) (g a)) : Sf m e (bnd x' g') (bnd x g) := fun h0 => by
  unfold bnd
  rw [h h0]
  cases x h0 with
  | ok a h1 => exact h2 a h1
  | exc c v h1 => rfl
  | bad => rfl
theorem sf_ret {f : α → α} {a' a : α} (h : a' = f a) : Sf m f (ret a') (ret a) := fun h0 => by rw [h]; rfl
theorem sf_bad {f : α → α} : Sf m f (bad : M α) bad := fun h0 => rfl
theorem sf_when {f : α → α} {b' b : Bool} {x' x : M α} (hb : b' = b) (h : Sf m f x' x) : Sf m f (when_ b' x') (when_ b x) := fun h0 => by
  rw [hb]
  cases b
  · rfl
  · exact h h0
theorem sf_opt {f : α → α} {o' o : Option α} (h : o' = o.map f) : Sf m f (opt o') (opt o) := fun h0 => by
  rw [h]
  cases o <;> rfl
theorem sH_get (m h : Hm) (n : Nat) : (sH m h)[m.length + n]? = (h[n]?).map (sO m.length) := by
  unfold sH
  rw [List.getElem?_append_right (by omega), List.getElem?_map]
  simp
theorem sf_getO {f : α → α} {n : Nat} {g' g : O → M α} (h : ∀ o, Sf m f (g' (sO m.length o)) (g o)) : Sf m f (getO (m.length + n) g') (getO n g) := fun h0 => by
  unfold getO
  rw [sH_get]
  cases e : h0[n]? with
  | none => rfl
  | some o => exact h o h0
theorem sH_set (m h : Hm) (n : Nat) (o : O) : (sH m h).set (m.length + n) (sO m.length o) = sH m (h.set n o) := by
  unfold sH
  rw [List.set_append_right _ _ (by omega), List.map_set]
  simp
theorem sf_putO {n : Nat} {o' o : O} (h : o' = sO m.length o) : Sf m id (putO (m.length + n) o') (putO n o) := fun h0 => by
  unfold putO
  rw [h]
  show R.ok () _ = R.ok () _
  rw [sH_set]
theorem sf_newO {o' o : O} (h : o' = sO m.length o) : Sf m (sP m.length) (newO o') (newO o) := fun h0 => by
  unfold newO
  rw [h]
  show R.ok _ _ = R.ok _ _
  unfold sH sP
  rw [List.length_append, List.length_map, List.map_append, List.append_assoc]
  rfl
end
/-- a def, an expression, .. that does so -/
def SC (c : List P → M P) : Prop := ∀ m ps, Sf m (sP m.length) (c (sPs m.length ps)) (c ps)
def SD_ (d : D) : Prop := ∀ m ρ, Sf m (sP m.length) (d (sE m.length ρ)) (d ρ)
def SA (d : A) : Prop := ∀ m ρ, Sf m (sPs m.length) (d (sE m.length ρ)) (d ρ)
def ST (d : T) : Prop := ∀ m ρ, Sf m id (d (sE m.length ρ)) (d ρ)
def S1_ (f : P → M P) : Prop := ∀ m x, Sf m (sP m.length) (f (sP m.length x)) (f x)
def S2_ (f : P → P → M P) : Prop := ∀ m x y, Sf m (sP m.length) (f (sP m.length x) (sP m.length y)) (f x y)
def SN (f : List P → M P) : Prop := SC f
def SL1 (f : List P → M (List P)) : Prop := ∀ m ps, Sf m (sPs m.length) (f (sPs m.length ps)) (f ps)
theorem ss_var (i : Nat) : SD_ (dVar i) := fun m ρ h => by
  unfold dVar sE
  rw [List.getElem?_map]
  rcases ρ[i]? with _ | _ | p <;> rfl
theorem ss_c {p : P} (h : ∀ k, sP k p = p := by intro k; simp only [sP, sPs]) : SD_ (dC p) := fun m ρ h0 => by
  show R.ok p _ = R.ok (sP _ p) _
  rw [h]
theorem ss_nil : SA aNil := fun m ρ h => by show R.ok [] _ = R.ok (sPs _ []) _; simp only [sPs]
theorem ss_cons {d : D} {a : A} (h : SD_ d) (h2 : SA a) : SA (aCons d a) := fun m ρ => sf_bnd (h m ρ) fun x => sf_bnd (h2 m ρ) fun xs => sf_ret (by simp only [sPs])
theorem sPs_append (k : Nat) (ps qs : List P) : sPs k (ps ++ qs) = sPs k ps ++ sPs k qs := by rw [sPs_eq, sPs_eq, sPs_eq, List.map_append]
theorem sPs_length (k : Nat) (ps : List P) : (sPs k ps).length = ps.length := by rw [sPs_eq, List.length_map]
theorem ss_star {d : D} {a : A} (h : SD_ d) (h2 : SA a) : SA (aStar d a) := fun m ρ => sf_bnd (h m ρ) fun x => by
  cases x with
  | tup ps => simp only [sP]; exact sf_bnd (h2 m ρ) fun xs => sf_ret (sPs_append _ _ _).symm
  | ref n =>
    simp only [sP]
    refine sf_getO fun o => ?_
    cases o with
    | lst ps => exact sf_bnd (h2 m ρ) fun xs => sf_ret (sPs_append _ _ _).symm
    | _ => exact sf_bad
  | _ => simp only [sP]; exact sf_bad
theorem ss_op {f : P → P → M P} {a b : D} (hf : S2_ f) (h : SD_ a) (h2 : SD_ b) : SD_ (dOp f a b) := fun m ρ => sf_bnd (h m ρ) fun x => sf_bnd (h2 m ρ) fun y => hf m x y
theorem ss_un {f : P → M P} {a : D} (hf : S1_ f) (h : SD_ a) : SD_ (dUn f a) := fun m ρ => sf_bnd (h m ρ) fun x => hf m x
theorem ss_tup {a : A} (h : SA a) : SD_ (dTup a) := fun m ρ => sf_bnd (h m ρ) fun ps => sf_when (by rw [sPs_length]) (sf_ret (by simp only [sP]))
theorem ss_lst {a : A} (h : SA a) : SA (lLst a) := fun m ρ => sf_bnd (h m ρ) fun ps => sf_when (by rw [sPs_length]) (sf_ret rfl)
theorem ss_new {l : LD} (h : SA l) : SD_ (dNew l) := fun m ρ => sf_bnd (h m ρ) fun ps => sf_newO rfl
theorem ss_if {c : T} {a b : D} (hc : ST c) (h : SD_ a) (h2 : SD_ b) : SD_ (dIf c a b) := fun m ρ => sf_bnd (hc m ρ) fun k => by
  cases k
  · exact h2 m ρ
  · exact h m ρ
theorem ss_call {c : List P → M P} {a : A} (hc : SC c) (h : SA a) : SD_ (dCall c a) := fun m ρ => sf_bnd (h m ρ) fun ps => hc m ps
theorem sf_asB (m : Hm) (x : P) : Sf m id (asB (sP m.length x)) (asB x) := by
  cases x with
  | bl b => simp only [sP]; exact sf_ret rfl
  | _ => simp only [sP]; exact sf_bad
theorem ss_val {d : D} (h : SD_ d) : ST (tVal d) := fun m ρ => sf_bnd (h m ρ) fun x => sf_asB m x
theorem sf_truth (m : Hm) (x : P) : Sf m id (truth (sP m.length x)) (truth x) := by
  cases x with
  | tup ps => simp only [sP]; exact sf_ret (by cases ps <;> simp [sPs])
  | ref n => simp only [sP]; exact sf_bad
  | scr n => simp only [sP]; exact sf_bad
  | kt n => simp only [sP]; exact sf_bad
  | str n => simp only [sP]; exact sf_bad
  | _ => simp only [sP]; exact sf_ret rfl
theorem ss_tru {d : D} (h : SD_ d) : ST (tTru d) := fun m ρ => sf_bnd (h m ρ) fun x => sf_truth m x
theorem ss_and {a b : T} (h : ST a) (h2 : ST b) : ST (tAnd a b) := fun m ρ => sf_bnd (h m ρ) fun k => by
  cases k
  · exact sf_ret rfl
  · exact h2 m ρ
theorem ss_or {a b : T} (h : ST a) (h2 : ST b) : ST (tOr a b) := fun m ρ => sf_bnd (h m ρ) fun k => by
  cases k
  · exact h2 m ρ
  · exact sf_ret rfl
theorem ss_not {a : T} (h : ST a) : ST (tNot a) := fun m ρ => sf_bnd (h m ρ) fun k => sf_ret rfl
theorem ss_yes : ST tYes := fun m ρ => sf_ret rfl
theorem ss_dAnd {a b : D} (h : SD_ a) (h2 : SD_ b) : SD_ (dAnd a b) := fun m ρ => sf_bnd (h m ρ) fun x => by
  cases x with
  | bl k =>
    simp only [sP]
    cases k
    · exact sf_ret (by simp only [sP])
    · exact h2 m ρ
  | _ => simp only [sP]; exact sf_bad
theorem ss_dOr {a b : D} (h : SD_ a) (h2 : SD_ b) : SD_ (dOr a b) := fun m ρ => sf_bnd (h m ρ) fun x => by
  cases x with
  | bl k =>
    simp only [sP]
    cases k
    · exact h2 m ρ
    · exact sf_ret (by simp only [sP])
  | _ => simp only [sP]; exact sf_bad
theorem ss_chain {f g : P → P → M P} {a b c : D} (hf : S2_ f) (hg : S2_ g) (ha : SD_ a) (hb : SD_ b) (hc : SD_ c) : SD_ (dChain f g a b c) := fun m ρ => sf_bnd (ha m ρ) fun x => sf_bnd (hb m ρ) fun y => sf_bnd (hf m x y) fun z => by
  cases z with
  | bl k =>
    simp only [sP]
    cases k
    · exact sf_ret (by simp only [sP])
    · exact sf_bnd (hc m ρ) fun w => hg m y w
  | _ => simp only [sP]; exact sf_bad

/-! ### operators -/
theorem s1_not : S1_ uNot := fun m x => by
  cases x with
  | bl b => simp only [sP]; exact sf_ret (by simp only [sP])
  | _ => simp only [sP]; exact sf_bad
theorem s1_neg : S1_ uNeg := fun m x => by
  cases x with
  | int b => simp only [sP]; exact sf_ret (by simp only [sP])
  | _ => simp only [sP]; exact sf_bad
theorem s1_isN : S1_ uIsN := fun m x => by cases x <;> (simp only [sP]; exact sf_ret (by simp only [sP, isNon]))
theorem s1_notN : S1_ uNotN := fun m x => by cases x <;> (simp only [sP]; exact sf_ret (by simp only [sP, isNon]))
theorem s2_i2 {c : Int → Int → Bool} {f : Int → Int → P} (h : ∀ k i j, sP k (f i j) = f i j := by intro k i j; simp only [sP]) : S2_ (i2 c f) := fun m x y => by
  cases x with
  | int i =>
    cases y with
    | int j => simp only [sP]; exact sf_when rfl (sf_ret (h _ _ _).symm)
    | _ => simp only [sP]; exact sf_bad
  | _ => simp only [sP]; exact sf_bad
theorem s2_sub : S2_ oSub := s2_i2
theorem s2_div : S2_ oDiv := s2_i2
theorem s2_mod : S2_ oMod := s2_i2
theorem s2_pow : S2_ oPow := s2_i2
theorem s2_shl : S2_ oShl := s2_i2
theorem s2_shr : S2_ oShr := s2_i2
theorem s2_band : S2_ oAnd := s2_i2
theorem s2_bor : S2_ oOr := s2_i2
theorem s2_xor : S2_ oXor := s2_i2
theorem s2_add : S2_ oAdd := fun m x y => by
  cases x with
  | int i =>
    cases y with
    | int j => simp only [sP]; exact sf_ret (by simp only [sP])
    | _ => simp only [sP]; exact sf_bad
  | tup ps =>
    cases y with
    | tup qs => simp only [sP]; exact sf_when (by rw [sPs_length, sPs_length]) (sf_ret (by simp only [sP, sPs_append]))
    | _ => simp only [sP]; exact sf_bad
  | str a =>
    cases y with
    | str b => simp only [sP]; exact sf_when rfl (sf_ret (by simp only [sP]))
    | _ => simp only [sP]; exact sf_bad
  | ref n =>
    cases y with
    | ref k =>
      simp only [sP]
      refine sf_getO fun o => ?_
      cases o with
      | lst ps =>
        refine sf_getO fun o' => ?_
        cases o' with
        | lst qs => exact sf_when (by rw [sPs_length, sPs_length]) (sf_newO (by simp only [sO, sPs_append]))
        | _ => exact sf_bad
      | _ => exact sf_bad
    | _ => simp only [sP]; exact sf_bad
  | _ => simp only [sP]; exact sf_bad
theorem sPs_rep (k : Nat) (ps : List P) (n : Nat) : sPs k (List.replicate n ps).flatten = (List.replicate n (sPs k ps)).flatten := by
  simp only [sPs_eq, List.map_flatten, List.map_replicate]
theorem s2_mul : S2_ oMul := fun m x y => by
  cases x with
  | int i =>
    cases y with
    | int j => simp only [sP]; exact sf_when rfl (sf_ret (by simp only [sP]))
    | _ => simp only [sP]; exact sf_bad
  | ref n =>
    cases y with
    | int k =>
      simp only [sP]
      refine sf_getO fun o => ?_
      cases o with
      | lst ps => exact sf_when (by rw [sPs_length]) (sf_newO (by simp only [sO, sPs_rep]))
      | _ => exact sf_bad
    | _ => simp only [sP]; exact sf_bad
  | _ => simp only [sP]; exact sf_bad
theorem s2_mulT : S2_ oMulT := fun m x y => by
  cases x with
  | tup ps =>
    cases y with
    | int k => simp only [sP]; exact sf_when (by rw [sPs_length]; cases ps <;> simp [sPs]) (sf_ret (by simp only [sP, sPs_rep]))
    | _ => simp only [sP]; exact sf_bad
  | _ => simp only [sP]; exact sf_bad
/-! ### data -/
theorem mapO_congr {α β γ : Type} {f : α → Option β} {g : γ → Option β} {e : γ → α} : ∀ {l : List γ}, (∀ a ∈ l, f (e a) = g a) → mapO f (l.map e) = mapO g l
  | [], _ => rfl
  | a :: l, h => by
    show (match f (e a) with | some d => _ | none => none) = (match g a with | some d => _ | none => none)
    rw [h a (by simp), mapO_congr fun b hb => h b (by simp [hb])]
theorem dat_shift (m h : Hm) : ∀ (f : Nat) (x : P), dat (sH m h) f (sP m.length x) = dat h f x
  | 0, x => by cases x <;> simp only [sP] <;> rfl
  | f + 1, x => by
    have ih := dat_shift m h f
    have all : ∀ ps : List P, mapO (dat (sH m h) f) (sPs m.length ps) = mapO (dat h f) ps := fun ps => by rw [sPs_eq]; exact mapO_congr fun a _ => ih a
    cases x with
    | tup ps => simp only [sP]; show (mapO _ _).map _ = _; rw [all]; rfl
    | scr ps => simp only [sP]; show (mapO _ _).map _ = _; rw [all]; rfl
    | kt ps => simp only [sP]; show (mapO _ _).map _ = _; rw [all]; rfl
    | ref n =>
      simp only [sP]
      show (match (sH m h)[m.length + n]? with | some (.lst ps) => (mapO (dat (sH m h) f) ps).map PyData.list | _ => none) = (match h[n]? with | some (.lst ps) => (mapO (dat h f) ps).map PyData.list | _ => none)
      rw [sH_get]
      rcases h[n]? with _ | o
      · rfl
      · cases o with
        | lst ps => show (mapO _ (sPs m.length ps)).map _ = _; rw [all]
        | _ => rfl
    | _ => simp only [sP]; rfl
theorem sf_asD (m : Hm) (x : P) : Sf m id (asD (sP m.length x)) (asD x) := fun h => by
  unfold asD
  rw [dat_shift]
  cases dat h DD x <;> rfl
theorem sf_allD (m : Hm) (ps : List P) : Sf m id (allD (sPs m.length ps)) (allD ps) := fun h => by
  unfold allD
  have all : mapO (dat (sH m h) DD) (sPs m.length ps) = mapO (dat h DD) ps := by rw [sPs_eq]; exact mapO_congr fun a _ => dat_shift m h DD a
  rw [all]
  cases mapO (dat h DD) ps <;> rfl
theorem scal_shift (k : Nat) (x y : P) : scalP (sP k x) (sP k y) = scalP x y := by
  cases x <;> cases y <;> simp only [sP] <;> rfl
theorem sf_eqD (m : Hm) (neg : Bool) (x y : P) : Sf m (sP m.length) (eqD neg (sP m.length x) (sP m.length y)) (eqD neg x y) :=
  sf_bnd (sf_asD m x) fun d => sf_bnd (sf_asD m y) fun e => sf_when rfl (sf_ret (by simp only [sP, id]))
theorem s2_eq : S2_ oEq := fun m x y => by
  unfold oEq
  rw [scal_shift]
  cases scalP x y with
  | some b => exact sf_ret (by simp only [sP])
  | none => exact sf_eqD m false x y
theorem s2_ne : S2_ oNe := fun m x y => by
  unfold oNe
  rw [scal_shift]
  cases scalP x y with
  | some b => exact sf_ret (by simp only [sP])
  | none => exact sf_eqD m true x y
theorem s2_gt : S2_ oGt := fun m x y => by
  cases x with
  | int i =>
    cases y with
    | int j => simp only [sP]; exact sf_ret (by simp only [sP])
    | _ => simp only [sP]; exact sf_bad
  | _ => simp only [sP]; exact sf_bad
theorem s2_ge : S2_ oGe := fun m x y => by
  cases x with
  | int i =>
    cases y with
    | int j => simp only [sP]; exact sf_ret (by simp only [sP])
    | _ => simp only [sP]; exact sf_bad
  | _ => simp only [sP]; exact sf_bad
theorem s2_le : S2_ oLe := fun m x y => by
  cases x with
  | int i =>
    cases y with
    | int j => simp only [sP]; exact sf_ret (by simp only [sP])
    | _ => simp only [sP]; exact sf_bad
  | str i =>
    cases y with
    | str j => simp only [sP]; exact sf_ret (by simp only [sP])
    | _ => simp only [sP]; exact sf_bad
  | _ => simp only [sP]; exact sf_bad
theorem s2_lt : S2_ oLt := fun m x y => by
  cases x with
  | int i =>
    cases y with
    | int j => simp only [sP]; exact sf_ret (by simp only [sP])
    | _ => simp only [sP]; exact sf_bad
  | str i =>
    cases y with
    | str j => simp only [sP]; exact sf_ret (by simp only [sP])
    | _ => simp only [sP]; exact sf_bad
  | tup ps =>
    have e : sP m.length (.tup ps) = .tup (sPs m.length ps) := by simp only [sP]
    have k : Sf m (sP m.length) (bnd (asD (sP m.length (.tup ps))) fun d => bnd (asD (sP m.length y)) fun e => when_ (PySem.W.alike d e) (ret (.bl (PySem.W.dataLt d e)))) (bnd (asD (.tup ps)) fun d => bnd (asD y) fun e => when_ (PySem.W.alike d e) (ret (.bl (PySem.W.dataLt d e)))) :=
      sf_bnd (sf_asD m _) fun d => sf_bnd (sf_asD m y) fun e => sf_when rfl (sf_ret (by simp only [sP, id]))
    rw [e] at k ⊢
    exact k
  | _ => simp only [sP]; exact sf_bad
/-! ### dicts -/
section
variable {κ : Type} [DecidableEq κ]
theorem vGet_shift (k : Nat) (kvs : List (κ × P)) (q : κ) : vGet (sKv k kvs) q = (vGet kvs q).map (sP k) := by
  unfold vGet sKv
  induction kvs with
  | nil => rfl
  | cons kv kvs ih =>
    rw [List.map_cons, List.find?_cons, List.find?_cons]
    cases decide (kv.1 = q) with
    | true => rfl
    | false => exact ih
theorem any_shift (k : Nat) (kvs : List (κ × P)) (q : κ) : ((sKv k kvs).any fun kv => decide (kv.1 = q)) = (kvs.any fun kv => decide (kv.1 = q)) := by
  unfold sKv
  rw [List.any_map]
  rfl
theorem vPut_shift (k : Nat) (kvs : List (κ × P)) (q : κ) (v : P) : vPut (sKv k kvs) q (sP k v) = sKv k (vPut kvs q v) := by
  unfold vPut
  rw [any_shift]
  cases kvs.any fun kv => decide (kv.1 = q) with
  | true =>
    show (sKv k kvs).map _ = sKv k (kvs.map _)
    unfold sKv
    rw [List.map_map, List.map_map]
    congr 1
    funext kv
    show (if kv.1 = q then (kv.1, sP k v) else (kv.1, sP k kv.2)) = _
    by_cases h : kv.1 = q
    · rw [if_pos h]; show _ = ((if kv.1 = q then (kv.1, v) else kv).1, sP k (if kv.1 = q then (kv.1, v) else kv).2); rw [if_pos h]
    · rw [if_neg h]; show _ = ((if kv.1 = q then (kv.1, v) else kv).1, sP k (if kv.1 = q then (kv.1, v) else kv).2); rw [if_neg h]
  | false =>
    show sKv k kvs ++ [(q, sP k v)] = sKv k (kvs ++ [(q, v)])
    unfold sKv
    rw [List.map_append]
    rfl
end
theorem key_shift (k : Nat) (x : P) : keyOf (sP k x) = keyOf x := by cases x <;> first | (simp only [sP]; done) | (simp only [sP]; rfl)
theorem tkey_shift (k : Nat) (x : P) : tkeyOf (sP k x) = tkeyOf x := by
  cases x with
  | tup ps => simp only [sP]; show mapO keyOf (sPs k ps) = mapO keyOf ps; rw [sPs_eq]; exact mapO_congr fun a _ => key_shift k a
  | _ => first | (simp only [sP]; done) | (simp only [sP]; rfl)
theorem sKv_len {κ : Type} (k : Nat) (kvs : List (κ × P)) : (sKv k kvs).length = kvs.length := by unfold sKv; rw [List.length_map]
theorem sf_lookO (m : Hm) (n : Nat) (x : P) (o : O) : Sf m (Option.map (sP m.length)) (lookO (m.length + n) (sP m.length x) (sO m.length o)) (lookO n x o) := by
  cases o with
  | dK kvs =>
    unfold lookO sO
    dsimp only
    rw [key_shift]
    cases keyOf x with
    | some q => exact sf_ret (vGet_shift _ _ _)
    | none =>
      dsimp only
      cases kvs with
      | cons _ _ => exact sf_bad
      | nil =>
        show Sf m _ (match tkeyOf (sP m.length x) with | some _ => _ | none => bad) _
        rw [tkey_shift]
        dsimp only
        cases tkeyOf x with
        | some q => exact sf_bnd (f := id) (sf_putO rfl) fun _ => sf_ret rfl
        | none => exact sf_bad
  | dT kvs =>
    unfold lookO sO
    dsimp only
    rw [tkey_shift]
    cases tkeyOf x with
    | some q => exact sf_ret (vGet_shift _ _ _)
    | none => exact sf_bad
  | lst _ => exact sf_bad
  | lk _ => exact sf_bad
theorem sf_look (m : Hm) (n : Nat) (x : P) : Sf m (Option.map (sP m.length)) (dLook (m.length + n) (sP m.length x)) (dLook n x) := by
  rw [ok_look, ok_look]
  exact sf_getO fun o => sf_lookO m n x o
theorem sf_store (m : Hm) (n : Nat) (x v : P) : Sf m id (dStore (m.length + n) (sP m.length x) (sP m.length v)) (dStore n x v) := by
  rw [ok_store, ok_store]
  refine sf_getO fun o => ?_
  cases o with
  | dK kvs =>
    unfold storeO sO
    dsimp only
    rw [key_shift]
    cases keyOf x with
    | some q => exact sf_when (by rw [sKv_len]) (sf_putO (by rw [vPut_shift]; rfl))
    | none =>
      dsimp only
      cases kvs with
      | cons _ _ => exact sf_bad
      | nil =>
        show Sf m _ (match tkeyOf (sP m.length x) with | some q => _ | none => bad) _
        rw [tkey_shift]
        dsimp only
        cases tkeyOf x with
        | some q => exact sf_putO rfl
        | none => exact sf_bad
  | dT kvs =>
    unfold storeO sO
    dsimp only
    rw [tkey_shift]
    cases tkeyOf x with
    | some q => exact sf_when (by rw [sKv_len]) (sf_putO (by rw [vPut_shift]; rfl))
    | none => exact sf_bad
  | lst _ => exact sf_bad
  | lk _ => exact sf_bad
theorem sf_inT (m : Hm) (x y : P) : Sf m id (inT (sP m.length x) (sP m.length y)) (inT x y) := sf_bnd (sf_asD m x) fun d => sf_bnd (sf_asD m y) fun e => by
  simp only [id]
  cases e with
  | tuple ds => exact sf_when rfl (sf_ret rfl)
  | _ => exact sf_bad
theorem sf_inP (m : Hm) (x y : P) : Sf m id (inP (sP m.length x) (sP m.length y)) (inP x y) := by
  have T := sf_inT m x y
  cases y with
  | ref n =>
    simp only [sP]
    refine sf_getO fun o => ?_
    cases o with
    | lst ps =>
      have e : sP m.length (.ref n) = .ref (m.length + n) := by simp only [sP]
      exact sf_bnd (sf_asD m x) fun d => sf_bnd (by rw [← e]; exact sf_asD m (.ref n)) fun e => by
        simp only [id]
        cases e with
        | list ds => exact sf_when rfl (sf_ret rfl)
        | _ => exact sf_bad
    | dK kvs => exact sf_bnd (sf_look m n x) fun o => sf_ret (by cases o <;> rfl)
    | dT kvs => exact sf_bnd (sf_look m n x) fun o => sf_ret (by cases o <;> rfl)
    | lk kvs => exact sf_bad
  | tup ps => simp only [sP] at T ⊢; exact T
  | kt ps => simp only [sP] at T ⊢; exact T
  | _ => simp only [sP]; exact sf_bad
theorem s2_in : S2_ oIn := fun m x y => sf_bnd (sf_inP m x y) fun b => sf_ret (by simp only [sP, id])
theorem s2_notIn : S2_ oNotIn := fun m x y => sf_bnd (sf_inP m x y) fun b => sf_ret (by simp only [sP, id])
/-! ### subscripts -/
theorem atI_shift (k : Nat) (ps : List P) (i : Int) : L2.atI (sPs k ps) i = (L2.atI ps i).map (sP k) := by
  unfold L2.atI
  rw [sPs_length]
  cases L2.ixN ps.length i with
  | none => rfl
  | some j => show (sPs k ps)[j]? = _; rw [sPs_eq, List.getElem?_map]; rfl
theorem s2_ix : S2_ oIx := fun m x y => by
  cases x with
  | tup ps =>
    cases y with
    | int i => simp only [sP]; exact sf_opt (atI_shift _ _ _)
    | _ => simp only [sP]; exact sf_bad
  | scr ps =>
    cases y with
    | int i => simp only [sP]; exact sf_opt (atI_shift _ _ _)
    | _ => simp only [sP]; exact sf_bad
  | ref n =>
    have L := sf_look m n y
    have e : sP m.length (.ref n) = .ref (m.length + n) := by simp only [sP]
    rw [e]
    refine sf_getO fun o => ?_
    cases o with
    | lst ps =>
      cases y with
      | int i => simp only [sP]; exact sf_opt (atI_shift _ _ _)
      | _ => simp only [sP]; exact sf_bad
    | dK kvs => exact sf_bnd L fun o => sf_opt rfl
    | dT kvs => exact sf_bnd L fun o => sf_opt rfl
    | lk kvs => exact sf_bad
  | _ => simp only [sP]; exact sf_bad
theorem cutP_shift (k : Nat) (ps : List P) (l h : Option Int) : cutP (sPs k ps) l h = sPs k (cutP ps l h) := by
  unfold cutP
  rw [sPs_length, sPs_eq, sPs_eq, List.map_take, List.map_drop]
def SOD (d : OD) : Prop := ∀ m ρ, Sf m id (d (sE m.length ρ)) (d ρ)
theorem ss_none : SOD pNone := fun m ρ => sf_ret rfl
theorem ss_some {d : D} (h : SD_ d) : SOD (pSome d) := fun m ρ => sf_bnd (h m ρ) fun x => by
  cases x with
  | int i => simp only [sP]; exact sf_ret rfl
  | _ => simp only [sP]; exact sf_bad
theorem ss_sl {e : D} {lo hi : OD} (h : SD_ e) (h1 : SOD lo) (h2 : SOD hi) : SD_ (dSl e lo hi) := fun m ρ => sf_bnd (h m ρ) fun x => sf_bnd (h1 m ρ) fun l => sf_bnd (h2 m ρ) fun hh => by
  cases x with
  | tup ps => simp only [sP]; exact sf_ret (by simp only [sP, id, cutP_shift])
  | ref n =>
    simp only [sP]
    refine sf_getO fun o => ?_
    cases o with
    | lst ps => exact sf_newO (by simp only [sO, id, cutP_shift])
    | _ => exact sf_bad
  | _ => simp only [sP]; exact sf_bad
theorem sPs_rev (k : Nat) (ps : List P) : (sPs k ps).reverse = sPs k ps.reverse := by rw [sPs_eq, sPs_eq, List.map_reverse]
theorem ss_rev {e : D} (h : SD_ e) : SD_ (dRev e) := fun m ρ => sf_bnd (h m ρ) fun x => by
  cases x with
  | ref n =>
    simp only [sP]
    refine sf_getO fun o => ?_
    cases o with
    | lst ps => exact sf_newO (by simp only [sO, sPs_rev])
    | _ => exact sf_bad
  | _ => simp only [sP]; exact sf_bad
theorem ss_lrev {l : LD} (h : SA l) : SA (lRev l) := fun m ρ => sf_bnd (h m ρ) fun ps => sf_ret (sPs_rev _ _)
/-! ### built-ins -/
theorem sc_one {f : P → M P} (h : S1_ f) : SC (one f) := fun m ps => by
  rcases ps with _ | ⟨p, _ | ⟨q, r⟩⟩
  · simp only [sPs]; exact sf_bad
  · simp only [sPs]; exact h m p
  · simp only [sPs]; exact sf_bad
theorem sc_two {f : P → P → M P} (h : S2_ f) : SC (two f) := fun m ps => by
  rcases ps with _ | ⟨p, _ | ⟨q, _ | ⟨r, t⟩⟩⟩
  · simp only [sPs]; exact sf_bad
  · simp only [sPs]; exact sf_bad
  · simp only [sPs]; exact h m p q
  · simp only [sPs]; exact sf_bad
theorem s1_abs : S1_ bAbs := fun m x => by
  cases x with
  | int i => simp only [sP]; exact sf_ret (by simp only [sP])
  | _ => simp only [sP]; exact sf_bad
theorem s1_int : S1_ bInt := fun m x => by
  cases x with
  | int i => simp only [sP]; exact sf_ret (by simp only [sP])
  | bl i => simp only [sP]; exact sf_ret (by simp only [sP])
  | _ => simp only [sP]; exact sf_bad
theorem s2_max : S2_ bMax2 := fun m x y => by
  cases x with
  | int i =>
    cases y with
    | int j => simp only [sP]; exact sf_ret (by simp only [sP])
    | _ => simp only [sP]; exact sf_bad
  | _ => simp only [sP]; exact sf_bad
theorem s2_min : S2_ bMin2 := fun m x y => by
  cases x with
  | int i =>
    cases y with
    | int j => simp only [sP]; exact sf_ret (by simp only [sP])
    | _ => simp only [sP]; exact sf_bad
  | _ => simp only [sP]; exact sf_bad
theorem s1_len : S1_ bLen := fun m x => by
  cases x with
  | str z => simp only [sP]; exact sf_when rfl (sf_ret (by simp only [sP]))
  | tup ps => simp only [sP]; exact sf_ret (by simp only [sP, sPs_length])
  | scr ps => simp only [sP]; exact sf_ret (by simp only [sP, sPs_length])
  | ref n =>
    simp only [sP]
    refine sf_getO fun o => ?_
    cases o with
    | lst ps => exact sf_ret (by simp only [sP, sPs_length])
    | dK kvs => exact sf_ret (by simp only [sP, sKv_len])
    | _ => exact sf_bad
  | _ => simp only [sP]; exact sf_bad
theorem s1_tup : S1_ bTup := fun m x => by
  cases x with
  | tup ps => simp only [sP]; exact sf_ret (by simp only [sP])
  | scr ps => simp only [sP]; exact sf_ret (by simp only [sP])
  | ref n =>
    simp only [sP]
    refine sf_getO fun o => ?_
    cases o with
    | lst ps => exact sf_ret (by simp only [sP])
    | _ => exact sf_bad
  | _ => simp only [sP]; exact sf_bad
theorem sf_items (m : Hm) (x : P) : Sf m (sPs m.length) (items (sP m.length x)) (items x) := by
  cases x with
  | tup ps => simp only [sP]; exact sf_ret rfl
  | scr ps => simp only [sP]; exact sf_ret rfl
  | kt ps => simp only [sP]; exact sf_ret rfl
  | ref n =>
    simp only [sP]
    refine sf_getO fun o => ?_
    cases o with
    | lst ps => exact sf_ret rfl
    | _ => exact sf_bad
  | _ => simp only [sP]; exact sf_bad
theorem sf_itemsR (m : Hm) (x : P) : Sf m (sPs m.length) (itemsR (sP m.length x)) (itemsR x) := by
  cases x with
  | scr ps => simp only [sP]; exact sf_ret rfl
  | ref n =>
    simp only [sP]
    refine sf_getO fun o => ?_
    cases o with
    | lst ps => exact sf_ret rfl
    | _ => exact sf_bad
  | _ => simp only [sP]; exact sf_bad
theorem ss_dL {f : List P → M P} {l : LD} (hf : SC f) (h : SA l) : SD_ (dL f l) := fun m ρ => sf_bnd (h m ρ) fun ps => hf m ps
theorem ss_lThen {f : List P → M (List P)} {l : LD} (hf : SL1 f) (h : SA l) : SA (lThen f l) := fun m ρ => sf_bnd (h m ρ) fun ps => hf m ps
theorem ss_dV {f : List P → M P} {l : D} (hf : SC f) (h : SD_ l) : SD_ (dV f l) := fun m ρ => sf_bnd (h m ρ) fun x => sf_bnd (sf_items m x) fun ps => hf m ps
theorem ss_lV {f : List P → M (List P)} {l : D} (hf : SL1 f) (h : SD_ l) : SA (lV f l) := fun m ρ => sf_bnd (h m ρ) fun x => sf_bnd (sf_items m x) fun ps => hf m ps
theorem ss_dR {f : List P → M P} {l : D} (hf : SC f) (h : SD_ l) : SD_ (dR f l) := fun m ρ => sf_bnd (h m ρ) fun x => sf_bnd (sf_itemsR m x) fun ps => hf m ps
theorem ints_shift (k : Nat) : ∀ ps : List P, intsOf (sPs k ps) = intsOf ps
  | [] => by simp only [sPs]
  | p :: ps => by
    simp only [sPs]
    cases p with
    | int i => simp only [sP]; show (match intsOf (sPs k ps) with | some l => some (i :: l) | none => none) = (match intsOf ps with | some l => some (i :: l) | none => none); rw [ints_shift k ps]
    | _ => simp only [sP]; rfl
theorem bls_shift (k : Nat) : ∀ ps : List P, bls (sPs k ps) = bls ps
  | [] => by simp only [sPs]
  | p :: ps => by
    simp only [sPs]
    cases p with
    | bl i => simp only [sP]; show (match bls (sPs k ps) with | some l => some (i :: l) | none => none) = (match bls ps with | some l => some (i :: l) | none => none); rw [bls_shift k ps]
    | _ => simp only [sP]; rfl
theorem sc_sum : SC nSum := fun m ps => by
  unfold nSum
  rw [ints_shift]
  exact sf_bnd (f := id) (sf_opt (by simp)) fun l => sf_ret (by simp only [sP, id])
theorem sc_max : SC nMax := fun m ps => by
  unfold nMax
  rw [ints_shift]
  refine sf_bnd (f := id) (sf_opt (by simp)) fun l => ?_
  simp only [id]
  cases l with
  | nil => exact sf_bad
  | cons i r => exact sf_ret (by simp only [sP])
theorem sc_min : SC nMin := fun m ps => by
  unfold nMin
  rw [ints_shift]
  refine sf_bnd (f := id) (sf_opt (by simp)) fun l => ?_
  simp only [id]
  cases l with
  | nil => exact sf_bad
  | cons i r => exact sf_ret (by simp only [sP])
theorem sc_any : SC nAny := fun m ps => by
  unfold nAny
  rw [bls_shift]
  exact sf_bnd (f := id) (sf_opt (by simp)) fun l => sf_ret (by simp only [sP, id])
theorem sc_all : SC nAll := fun m ps => by
  unfold nAll
  rw [bls_shift]
  exact sf_bnd (f := id) (sf_opt (by simp)) fun l => sf_ret (by simp only [sP, id])
theorem sc_tup : SC nTup := fun m ps => sf_ret (by simp only [sP])
theorem sc_len : SC nLen := fun m ps => sf_ret (by simp only [sP, sPs_length])
theorem s1_repr : S1_ bRepr := fun m x => sf_bnd (sf_asD m x) fun d => sf_when rfl (sf_ret (by simp only [sP, id]))
theorem sc_repr : SC nRepr := fun m x => sf_bnd (sf_allD m x) fun d => sf_when rfl (sf_ret (by simp only [sP, id]))
theorem sl_id : SL1 lId := fun m ps => sf_ret rfl
theorem mg_map {α β : Type} {le : α → α → Bool} {le' : β → β → Bool} {f : α → β} (h : ∀ a b, le' (f a) (f b) = le a b) : ∀ (n : Nat) (xs ys : List α), mg le' n (xs.map f) (ys.map f) = (mg le n xs ys).map f
  | 0, _, _ => rfl
  | _ + 1, [], ys => rfl
  | _ + 1, x :: xs, [] => rfl
  | n + 1, x :: xs, y :: ys => by
    rw [List.map_cons, List.map_cons]
    unfold mg
    rw [h]
    cases le x y with
    | true =>
      have e := mg_map h n xs (y :: ys)
      rw [List.map_cons] at e
      simp only [e, List.map_cons]
    | false =>
      have e := mg_map h n (x :: xs) ys
      rw [List.map_cons] at e
      simp only [e, List.map_cons]
theorem ms_map {α β : Type} {le : α → α → Bool} {le' : β → β → Bool} {f : α → β} (h : ∀ a b, le' (f a) (f b) = le a b) : ∀ (n : Nat) (l : List α), ms le' n (l.map f) = (ms le n l).map f
  | 0, _ => rfl
  | _ + 1, [] => rfl
  | _ + 1, [a] => rfl
  | n + 1, a :: b :: xs => by
    have e1 : ms le' n (((a :: b :: xs).map f).take ((((a :: b :: xs).map f).length + 1) / 2)) = (ms le n ((a :: b :: xs).take (((a :: b :: xs).length + 1) / 2))).map f := by rw [List.length_map, ← List.map_take, ms_map h n]
    have e2 : ms le' n (((a :: b :: xs).map f).drop ((((a :: b :: xs).map f).length + 1) / 2)) = (ms le n ((a :: b :: xs).drop (((a :: b :: xs).length + 1) / 2))).map f := by rw [List.length_map, ← List.map_drop, ms_map h n]
    show mg le' (((a :: b :: xs).map f).length + 1) (ms le' n (((a :: b :: xs).map f).take ((((a :: b :: xs).map f).length + 1) / 2))) (ms le' n (((a :: b :: xs).map f).drop ((((a :: b :: xs).map f).length + 1) / 2))) = (mg le ((a :: b :: xs).length + 1) (ms le n ((a :: b :: xs).take (((a :: b :: xs).length + 1) / 2))) (ms le n ((a :: b :: xs).drop (((a :: b :: xs).length + 1) / 2)))).map f
    rw [e1, e2, mg_map h, List.length_map]
theorem mapO_pair {m h : Hm} : ∀ ps : List P, mapO (fun p => (dat (sH m h) DD p).map fun d => (p, d)) (sPs m.length ps) = (mapO (fun p => (dat h DD p).map fun d => (p, d)) ps).map fun l => l.map fun q => (sP m.length q.1, q.2)
  | [] => by simp only [sPs]; rfl
  | p :: ps => by
    simp only [sPs]
    unfold mapO
    rw [dat_shift, mapO_pair ps]
    cases dat h DD p with
    | none => rfl
    | some d => cases mapO (fun p => (dat h DD p).map fun d => (p, d)) ps <;> rfl
theorem sl_sort : SL1 sortP := fun m ps h => by
  unfold sortP
  rw [mapO_pair]
  cases mapO (fun p => (dat h DD p).map fun d => (p, d)) ps with
  | none => rfl
  | some qs =>
    have e : (qs.map fun q => (sP m.length q.1, q.2)).map (·.2) = qs.map (·.2) := by rw [List.map_map]; rfl
    show (match allAlike ((qs.map fun q => (sP m.length q.1, q.2)).map (·.2)) && _ with | true => _ | false => _) = _
    simp only [e]
    cases allAlike (qs.map (·.2)) && ((qs.map (·.2)).all isTup1 || (qs.map (·.2)).all isOther) with
    | false => rfl
    | true =>
      show R.ok _ _ = R.ok _ _
      rw [ms_map (le := fun a b => !PySem.W.dataLt b.2 a.2) fun a b => rfl, List.length_map, List.map_map, sPs_eq, List.map_map]
      rfl
/-! ### methods -/
theorem ss_meth0 {chk : P → M Unit} {f : P → M P} {o : D} (hc : ∀ m x, Sf m id (chk (sP m.length x)) (chk x)) (hf : S1_ f) (h : SD_ o) : SD_ (dMeth0 chk f o) := fun m ρ => sf_bnd (h m ρ) fun x => sf_bnd (hc m x) fun _ => hf m x
theorem ss_meth1 {chk : P → M Unit} {f : P → P → M P} {o a : D} (hc : ∀ m x, Sf m id (chk (sP m.length x)) (chk x)) (hf : S2_ f) (h : SD_ o) (h2 : SD_ a) : SD_ (dMeth1 chk f o a) := fun m ρ => sf_bnd (h m ρ) fun x => sf_bnd (hc m x) fun _ => sf_bnd (h2 m ρ) fun y => hf m x y
theorem ss_methL {chk : P → M Unit} {f : P → List P → M P} {o : D} {l : LD} (hc : ∀ m x, Sf m id (chk (sP m.length x)) (chk x)) (hf : ∀ m x ps, Sf m (sP m.length) (f (sP m.length x) (sPs m.length ps)) (f x ps)) (h : SD_ o) (h2 : SA l) : SD_ (dMethL chk f o l) := fun m ρ => sf_bnd (h m ρ) fun x => sf_bnd (hc m x) fun _ => sf_bnd (h2 m ρ) fun y => hf m x y
theorem sf_chkL (m : Hm) (x : P) : Sf m id (chkL (sP m.length x)) (chkL x) := by
  cases x with
  | ref n =>
    simp only [sP]
    refine sf_getO fun o => ?_
    cases o with
    | lst ps => exact sf_ret rfl
    | _ => exact sf_bad
  | _ => simp only [sP]; exact sf_bad
theorem s2_append : S2_ mAppend := fun m x y => by
  cases x with
  | ref n =>
    simp only [sP]
    refine sf_getO fun o => ?_
    cases o with
    | lst ps => exact sf_when (by rw [sPs_length]) (sf_bnd (sf_putO (by simp only [sO, sPs_append, sPs])) fun _ => sf_ret (by simp only [sP]))
    | _ => exact sf_bad
  | _ => simp only [sP]; exact sf_bad
theorem sx_extend (m : Hm) (x : P) (qs : List P) : Sf m (sP m.length) (mExtend (sP m.length x) (sPs m.length qs)) (mExtend x qs) := by
  cases x with
  | ref n =>
    simp only [sP]
    refine sf_getO fun o => ?_
    cases o with
    | lst ps => exact sf_when (by rw [sPs_length, sPs_length]) (sf_bnd (sf_putO (by simp only [sO, sPs_append])) fun _ => sf_ret (by simp only [sP]))
    | _ => exact sf_bad
  | _ => simp only [sP]; exact sf_bad
theorem s1_pop : S1_ mPop := fun m x => by
  cases x with
  | ref n =>
    simp only [sP]
    refine sf_getO fun o => ?_
    cases o with
    | lst ps =>
      show Sf m _ (match (sPs m.length ps)[(sPs m.length ps).length - 1]? with | some y => _ | none => bad) _
      rw [sPs_length, sPs_eq, List.getElem?_map]
      dsimp only
      cases ps[ps.length - 1]? with
      | some y => exact sf_bnd (sf_putO (by simp only [sO, sPs_eq, List.map_dropLast])) fun _ => sf_ret rfl
      | none => exact sf_bad
    | _ => exact sf_bad
  | _ => simp only [sP]; exact sf_bad
theorem erase_map {α β : Type} (f : α → β) : ∀ (l : List α) (k : Nat), (l.map f).eraseIdx k = (l.eraseIdx k).map f
  | [], _ => rfl
  | _ :: _, 0 => rfl
  | a :: l, k + 1 => by
    show f a :: (l.map f).eraseIdx k = f a :: (l.eraseIdx k).map f
    rw [erase_map f l k]
theorem s2_popAt : S2_ mPopAt := fun m x y => by
  cases x with
  | ref n =>
    cases y with
    | int i =>
      simp only [sP]
      refine sf_getO fun o => ?_
      cases o with
      | lst ps =>
        show Sf m _ (match L2.ixN (sPs m.length ps).length i with | some k => _ | none => bad) _
        rw [sPs_length]
        dsimp only
        cases L2.ixN ps.length i with
        | none => exact sf_bad
        | some k =>
          show Sf m _ (match (sPs m.length ps)[k]? with | some z => _ | none => bad) _
          rw [sPs_eq, List.getElem?_map]
          dsimp only
          cases ps[k]? with
          | some y => exact sf_when rfl (sf_bnd (sf_putO (by simp only [sO, sPs_eq, erase_map])) fun _ => sf_ret rfl)
          | none => exact sf_bad
      | _ => exact sf_bad
    | _ => simp only [sP]; exact sf_bad
  | _ => simp only [sP]; exact sf_bad
/-! ### sources, targets -/
def sSrc (k : Nat) : Src → Src
  | .seq ps => .seq (sPs k ps)
  | .lst n => .lst (k + n)
  | .enumL n => .enumL (k + n)
  | .zipL n j => .zipL (k + n) (k + j)
def SSrc (s : SD) : Prop := ∀ m ρ, Sf m (sSrc m.length) (s (sE m.length ρ)) (s ρ)
theorem at_shift (m h : Hm) (s : Src) (i : Nat) : (sSrc m.length s).at i (sH m h) = (s.at i h).map (Option.map (sP m.length)) := by
  cases s with
  | seq ps => show some (sPs m.length ps)[i]? = _; rw [sPs_eq, List.getElem?_map]; rfl
  | lst n =>
    show (match (sH m h)[m.length + n]? with | some (.lst ps) => some ps[i]? | _ => none) = _
    rw [sH_get]
    simp only [Src.at]
    rcases h[n]? with _ | o
    · rfl
    · cases o with
      | lst ps => show some (sPs m.length ps)[i]? = _; rw [sPs_eq, List.getElem?_map]; rfl
      | _ => rfl
  | enumL n =>
    show (match (sH m h)[m.length + n]? with | some (.lst ps) => some (ps[i]?.map fun p => P.tup [.int (i : Nat), p]) | _ => none) = _
    rw [sH_get]
    simp only [Src.at]
    rcases h[n]? with _ | o
    · rfl
    · cases o with
      | lst ps =>
        show some ((sPs m.length ps)[i]?.map _) = some ((ps[i]?.map _).map _)
        rw [sPs_eq, List.getElem?_map]
        cases ps[i]? with
        | none => rfl
        | some p => simp only [Option.map, sP, sPs]
      | _ => rfl
  | zipL n j =>
    show (match (sH m h)[m.length + n]? with | some (.lst ps) => (match (sH m h)[m.length + j]? with | some (.lst qs) => some (pair2 ps[i]? qs[i]?) | _ => none) | _ => none) = _
    rw [sH_get, sH_get]
    simp only [Src.at]
    rcases h[n]? with _ | o
    · rfl
    · cases o with
      | lst ps =>
        dsimp only
        rcases h[j]? with _ | o'
        · rfl
        · cases o' with
          | lst qs =>
            show some (pair2 (sPs m.length ps)[i]? (sPs m.length qs)[i]?) = some ((pair2 ps[i]? qs[i]?).map _)
            rw [sPs_eq, sPs_eq, List.getElem?_map, List.getElem?_map]
            cases ps[i]? with
            | none => unfold pair2; rfl
            | some p =>
              cases qs[i]? with
              | none => unfold pair2; rfl
              | some q => simp only [Option.map, pair2, sP, sPs]
          | _ => rfl
      | _ => rfl
theorem len_shift (m h : Hm) (s : Src) : (sSrc m.length s).len (sH m h) = s.len h := by
  cases s with
  | seq ps => exact sPs_length _ _
  | lst n =>
    show (match (sH m h)[m.length + n]? with | some (.lst ps) => ps.length | _ => 0) = _
    rw [sH_get]
    simp only [Src.len]
    rcases h[n]? with _ | o
    · rfl
    · cases o with
      | lst ps => exact sPs_length _ _
      | _ => rfl
  | enumL n =>
    show (match (sH m h)[m.length + n]? with | some (.lst ps) => ps.length | _ => 0) = _
    rw [sH_get]
    simp only [Src.len]
    rcases h[n]? with _ | o
    · rfl
    · cases o with
      | lst ps => exact sPs_length _ _
      | _ => rfl
  | zipL n j =>
    show (match (sH m h)[m.length + n]? with | some (.lst ps) => (match (sH m h)[m.length + j]? with | some (.lst qs) => min ps.length qs.length | _ => 0) | _ => 0) = _
    rw [sH_get, sH_get]
    simp only [Src.len]
    rcases h[n]? with _ | o
    · rfl
    · cases o with
      | lst ps =>
        dsimp only
        rcases h[j]? with _ | o'
        · rfl
        · cases o' with
          | lst qs => show min (sPs m.length ps).length (sPs m.length qs).length = _; rw [sPs_length, sPs_length]
          | _ => rfl
      | _ => rfl
theorem ss_of {d : D} (h : SD_ d) : SSrc (sOf d) := fun m ρ => sf_bnd (h m ρ) fun x => by
  cases x with
  | tup ps => simp only [sP]; exact sf_ret rfl
  | scr ps => simp only [sP]; exact sf_ret rfl
  | kt ps => simp only [sP]; exact sf_ret rfl
  | ref n =>
    simp only [sP]
    refine sf_getO fun o => ?_
    cases o with
    | lst ps => exact sf_ret rfl
    | _ => exact sf_bad
  | _ => simp only [sP]; exact sf_bad
theorem ss_ofL {l : LD} (h : SA l) : SSrc (sOfL l) := fun m ρ => sf_bnd (h m ρ) fun ps => sf_ret rfl
theorem numbered_shift (k : Nat) : ∀ (ps : List P) (i : Nat), numbered i (sPs k ps) = sPs k (numbered i ps)
  | [], _ => by simp only [sPs, numbered]
  | p :: ps, i => by simp only [sPs, numbered, sP, numbered_shift k ps]
theorem ss_enum {d : D} (h : SD_ d) : SSrc (sEnum d) := fun m ρ => sf_bnd (h m ρ) fun x => by
  cases x with
  | tup ps => simp only [sP]; exact sf_ret (by rw [numbered_shift]; rfl)
  | ref n =>
    simp only [sP]
    refine sf_getO fun o => ?_
    cases o with
    | lst ps => exact sf_ret rfl
    | _ => exact sf_bad
  | _ => simp only [sP]; exact sf_bad
theorem zip_shift (k : Nat) : ∀ ps qs : List P, zipP (sPs k ps) (sPs k qs) = sPs k (zipP ps qs)
  | [], _ => by simp only [sPs, zipP]
  | _ :: _, [] => by simp only [sPs, zipP]
  | p :: ps, q :: qs => by simp only [sPs, zipP, sP, zip_shift k ps qs]
theorem ss_zip {a : A} (h : SA a) : SSrc (sZip a) := fun m ρ => sf_bnd (h m ρ) fun ps => by
  rcases ps with _ | ⟨p, _ | ⟨q, _ | ⟨r, t⟩⟩⟩
  · simp only [sPs]; exact sf_bad
  · simp only [sPs]; cases p <;> (simp only [sP]; exact sf_bad)
  · simp only [sPs]
    cases p with
    | tup ps =>
      cases q with
      | tup qs => simp only [sP]; exact sf_ret (by rw [zip_shift]; rfl)
      | _ => simp only [sP]; exact sf_bad
    | ref n =>
      cases q with
      | ref k =>
        simp only [sP]
        refine sf_getO fun o => ?_
        cases o with
        | lst ps =>
          refine sf_getO fun o' => ?_
          cases o' with
          | lst qs => exact sf_ret rfl
          | _ => exact sf_bad
        | _ => exact sf_bad
      | _ => simp only [sP]; exact sf_bad
    | _ => cases q <;> (simp only [sP]; exact sf_bad)
  · simp only [sPs]; cases p <;> cases q <;> (simp only [sP]; exact sf_bad)
theorem rangeP_shift (k : Nat) (a b : Int) : sPs k (rangeP a b) = rangeP a b := by
  unfold rangeP
  rw [sPs_eq, List.map_map]
  rfl
theorem ss_range1 {d : D} (h : SD_ d) : SSrc (sRange1 d) := fun m ρ => sf_bnd (h m ρ) fun x => by
  cases x with
  | int i => simp only [sP]; exact sf_when rfl (sf_ret (by simp only [sSrc, rangeP_shift]))
  | _ => simp only [sP]; exact sf_bad
theorem ss_range2 {d d' : D} (h : SD_ d) (h' : SD_ d') : SSrc (sRange2 d d') := fun m ρ => sf_bnd (h m ρ) fun x => sf_bnd (h' m ρ) fun y => by
  cases x with
  | int i =>
    cases y with
    | int j => simp only [sP]; exact sf_when rfl (sf_ret (by simp only [sSrc, rangeP_shift]))
    | _ => simp only [sP]; exact sf_bad
  | _ => simp only [sP]; exact sf_bad
def SRD (r : RD) : Prop := ∀ m ρ, Sf m id (r (sE m.length ρ)) (r ρ)
theorem sf_asI (m : Hm) (x : P) : Sf m id (asI (sP m.length x)) (asI x) := by
  cases x with
  | int i => simp only [sP]; exact sf_ret rfl
  | _ => simp only [sP]; exact sf_bad
theorem ss_rg1 {d : D} (h : SD_ d) : SRD (rg1 d) := fun m ρ => sf_bnd (h m ρ) fun x => sf_bnd (sf_asI m x) fun j => sf_ret rfl
theorem ss_rg2 {d d' : D} (h : SD_ d) (h' : SD_ d') : SRD (rg2 d d') := fun m ρ => sf_bnd (h m ρ) fun x => sf_bnd (h' m ρ) fun y => sf_bnd (sf_asI m x) fun i => sf_bnd (sf_asI m y) fun j => sf_ret rfl
theorem ss_lRg {r : RD} (h : SRD r) : SA (lRg r) := fun m ρ => sf_bnd (h m ρ) fun ab => sf_when rfl (sf_ret (rangeP_shift _ _ _).symm)
theorem ss_tupRg {r : RD} (h : SRD r) : SD_ (dTupRg r) := fun m ρ => sf_bnd (h m ρ) fun ab => sf_when rfl (sf_ret (by simp only [sP, rangeP_shift, id]))
def SG (g : GD) : Prop := ∀ m p ρ, Sf m (sE m.length) (g (sP m.length p) (sE m.length ρ)) (g p ρ)
def SGs (g : GsD) : Prop := ∀ m ps ρ, Sf m (sE m.length) (g (sPs m.length ps) (sE m.length ρ)) (g ps ρ)
theorem sE_set (k : Nat) (ρ : Env) (i : Nat) (p : P) : (sE k ρ).set i (some (sP k p)) = sE k (ρ.set i (some p)) := by
  unfold sE
  rw [List.map_set]
  rfl
theorem sg_name (i : Nat) : SG (gName i) := fun m p ρ => sf_ret (sE_set _ _ _ _)
theorem sg_nil : SGs gNil := fun m ps ρ => by
  cases ps with
  | nil => simp only [sPs]; exact sf_ret rfl
  | cons _ _ => simp only [sPs]; exact sf_bad
theorem sg_cons {g : GD} {gs : GsD} (h : SG g) (h2 : SGs gs) : SGs (gCons g gs) := fun m ps ρ => by
  cases ps with
  | nil => simp only [sPs]; exact sf_bad
  | cons p ps => simp only [sPs]; exact sf_bnd (h m p ρ) fun ρ' => h2 m ps ρ'
theorem sg_tup {n : Nat} {gs : GsD} (h : SGs gs) : SG (gTup n gs) := fun m p ρ => by
  cases p with
  | tup ps => simp only [sP]; exact sf_when (by rw [sPs_length]) (h m ps ρ)
  | _ => simp only [sP]; exact sf_bad
theorem wipe_shift (k : Nat) (ρ : Env) : ∀ vs : List Nat, wipeE (sE k ρ) vs = sE k (wipeE ρ vs)
  | [] => rfl
  | v :: vs => by
    show (wipeE (sE k ρ) vs).set v none = sE k ((wipeE ρ vs).set v none)
    rw [wipe_shift k ρ vs]
    unfold sE
    rw [List.map_set]
    rfl
theorem sf_compL {g : GD} {t : T} {e : D} (hg : SG g) (ht : ST t) (he : SD_ e) (m : Hm) (ρ : Env) (s : Src) : ∀ (f i : Nat) (acc : List P), Sf m (sPs m.length) (compL g t e (sE m.length ρ) (sSrc m.length s) f i (sPs m.length acc)) (compL g t e ρ s f i acc)
  | 0, i, acc => fun h => by
    unfold compL
    rw [at_shift]
    rcases s.at i h with _ | _ | p <;> rfl
  | f + 1, i, acc => fun h => by
    unfold compL
    rw [at_shift]
    rcases s.at i h with _ | _ | p
    · rfl
    · rfl
    · exact sf_bnd (hg m p ρ) (fun ρ' => sf_bnd (ht m ρ') fun k => by
        cases k with
        | false => exact sf_compL hg ht he m ρ s f (i + 1) acc
        | true => exact sf_bnd (he m ρ') fun y => sf_when (by rw [sPs_length]) (by
            have e := sf_compL hg ht he m ρ s f (i + 1) (acc ++ [y])
            rw [sPs_append] at e
            simp only [sPs] at e
            exact e)) h
theorem sf_noX {α : Type} {m : Hm} {f : α → α} {x' x : M α} (h : Sf m f x' x) : Sf m f (noX x') (noX x) := fun h0 => by
  unfold noX
  rw [h h0]
  cases x h0 <;> rfl
theorem ss_comp {src : SD} {g : GD} {t : T} {e : D} {own : List Nat} (hs : SSrc src) (hg : SG g) (ht : ST t) (he : SD_ e) : SA (lComp src g t e own) := fun m ρ => sf_bnd (hs m ρ) fun s => sf_noX fun h => by
  show compL g t e (wipeE (sE m.length ρ) own) (sSrc m.length s) ((sSrc m.length s).len (sH m h)) 0 [] (sH m h) = sR m _ (compL g t e (wipeE ρ own) s (s.len h) 0 [] h)
  rw [wipe_shift, len_shift]
  have e := sf_compL hg ht he m (wipeE ρ own) s (s.len h) 0 [] h
  simp only [sPs] at e
  exact e
/-! ### statements -/
def sFl (k : Nat) : Fl → Fl
  | .nx => .nx
  | .bk => .bk
  | .ct => .ct
  | .rt p => .rt (sP k p)
def sRS (m : Hm) : RS → RS
  | .ok f ρ h => .ok (sFl m.length f) (sE m.length ρ) (sH m h)
  | .exc c v ρ h => .exc c (sP m.length v) (sE m.length ρ) (sH m h)
  | .bad => .bad
def SS (s : DS) : Prop := ∀ m ρ h, s (sE m.length ρ) (sH m h) = sRS m (s ρ h)
theorem sf_thn {α : Type} {m : Hm} {f : α → α} {x' x : M α} {ρ : Env} {k' k : α → Hm → RS} (hx : Sf m f x' x) (hk : ∀ a h, k' (f a) (sH m h) = sRS m (k a h)) (h : Hm) : thn x' (sE m.length ρ) k' (sH m h) = sRS m (thn x ρ k h) := by
  unfold thn
  rw [hx h]
  cases x h with
  | ok a h1 => exact hk a h1
  | exc _ _ _ => rfl
  | bad => rfl
theorem ss_nx : SS sNx := fun _ _ _ => rfl
theorem ss_bk : SS sBk := fun _ _ _ => rfl
theorem ss_ct : SS sCt := fun _ _ _ => rfl
theorem ss_seq {s t : DS} (h : SS s) (h2 : SS t) : SS (sSeq s t) := fun m ρ h0 => by
  unfold sSeq
  rw [h m ρ h0]
  cases s ρ h0 with
  | ok f ρ' h1 =>
    cases f with
    | nx => exact h2 m ρ' h1
    | _ => rfl
  | exc _ _ _ _ => rfl
  | bad => rfl
theorem ss_expr {d : D} (h : SD_ d) : SS (sExpr d) := fun m ρ => sf_thn (h m ρ) fun a h => rfl
theorem ss_ret {d : D} (h : SD_ d) : SS (sRet d) := fun m ρ => sf_thn (h m ρ) fun a h => rfl
theorem ss_asg {d : D} {g : GD} (h : SD_ d) (hg : SG g) : SS (sAsg d g) := fun m ρ => sf_thn (h m ρ) fun a h => sf_thn (hg m a ρ) (fun ρ' h' => rfl) h
theorem ss_set (i : Nat) {d : D} (h : SD_ d) : SS (sSet i d) := ss_asg h (sg_name i)
theorem ss_par2 (i j : Nat) {a : A} (h : SA a) : SS (sPar2 i j a) := fun m ρ => sf_thn (h m ρ) fun ps h => by
  rcases ps with _ | ⟨p, _ | ⟨q, _ | ⟨r, t⟩⟩⟩ <;> simp only [sPs] <;> first | rfl | (show RS.ok _ _ _ = RS.ok _ _ _; rw [sE_set, sE_set]; rfl)
theorem ss_par3 (i j l : Nat) {a : A} (h : SA a) : SS (sPar3 i j l a) := fun m ρ => sf_thn (h m ρ) fun ps h => by
  rcases ps with _ | ⟨p, _ | ⟨q, _ | ⟨r, _ | ⟨u, t⟩⟩⟩⟩ <;> simp only [sPs] <;> first | rfl | (show RS.ok _ _ _ = RS.ok _ _ _; rw [sE_set, sE_set, sE_set]; rfl)
theorem ss_ifS {c : T} {s t : DS} (hc : ST c) (h : SS s) (h2 : SS t) : SS (sIf c s t) := fun m ρ => sf_thn (hc m ρ) fun k h0 => by
  cases k
  · exact h2 m ρ h0
  · exact h m ρ h0
theorem sf_setP (m : Hm) (x y z : P) : Sf m id (setP (sP m.length x) (sP m.length y) (sP m.length z)) (setP x y z) := by
  cases x with
  | ref n =>
    have L := sf_store m n y z
    have e : sP m.length (.ref n) = .ref (m.length + n) := by simp only [sP]
    rw [e]
    refine sf_getO fun o => ?_
    cases o with
    | lst ps =>
      cases y with
      | int j =>
        simp only [sP]
        show Sf m id (match L2.ixN (sPs m.length ps).length j with | some k => _ | none => bad) _
        rw [sPs_length]
        cases L2.ixN ps.length j with
        | some k => exact sf_putO (by simp only [sO, sPs_eq, List.map_set])
        | none => exact sf_bad
      | _ => simp only [sP]; exact sf_bad
    | _ => exact L
  | _ => simp only [sP]; exact sf_bad
theorem ss_put {o i v : D} (ho : SD_ o) (hi : SD_ i) (hv : SD_ v) : SS (sPut o i v) := fun m ρ => sf_thn (sf_bnd (hv m ρ) fun z => sf_bnd (ho m ρ) fun x => sf_bnd (hi m ρ) fun y => sf_setP m x y z) fun _ h => rfl
theorem ss_while {c : T} {s : DS} (hc : ST c) (hs : SS s) : ∀ N : Nat, SS (sWhile c s N)
  | 0 => fun _ _ _ => rfl
  | N + 1 => fun m ρ => by
    unfold sWhile
    refine sf_thn (hc m ρ) fun k h => ?_
    cases k with
    | false => rfl
    | true =>
      show (match s (sE m.length ρ) (sH m h) with
      | .ok .nx ρ' m' => sWhile c s N ρ' m'
      | .ok .ct ρ' m' => sWhile c s N ρ' m'
      | .ok .bk ρ' m' => .ok .nx ρ' m'
      | r => r) = _
      rw [hs m ρ h]
      cases s ρ h with
      | ok f ρ' h' =>
        cases f with
        | nx => exact ss_while hc hs N m ρ' h'
        | ct => exact ss_while hc hs N m ρ' h'
        | _ => rfl
      | _ => rfl
theorem ss_forL {g : GD} {s : DS} (hg : SG g) (hs : SS s) (m : Hm) (src : Src) : ∀ (f i : Nat) (ρ : Env) (h : Hm), forL (sSrc m.length src) g s f i (sE m.length ρ) (sH m h) = sRS m (forL src g s f i ρ h)
  | 0, i, ρ, h => by
    unfold forL
    rw [at_shift]
    rcases src.at i h with _ | _ | p <;> rfl
  | f + 1, i, ρ, h => by
    unfold forL
    rw [at_shift]
    rcases src.at i h with _ | _ | p
    · rfl
    · rfl
    · refine sf_thn (hg m p ρ) (fun ρ1 h1 => ?_) h
      rw [hs m ρ1 h1]
      cases s ρ1 h1 with
      | ok fl ρ' h' =>
        cases fl with
        | nx => exact ss_forL hg hs m src f (i + 1) ρ' h'
        | ct => exact ss_forL hg hs m src f (i + 1) ρ' h'
        | _ => rfl
      | _ => rfl
theorem ss_for {src : SD} {g : GD} {s : DS} (h : SSrc src) (hg : SG g) (hs : SS s) : SS (sFor src g s) := fun m ρ => sf_thn (h m ρ) fun sr h0 => by
  rw [len_shift]
  exact ss_forL hg hs m sr (sr.len h0) 0 ρ h0
theorem sc_fn {n N : Nat} {s : DS} (h : SS s) : SC (fnOf n N s) := fun m args h0 => by
  unfold fnOf
  rw [sPs_length]
  cases decide (args.length = n) with
  | false => rfl
  | true =>
    have e : (sPs m.length args).map some ++ List.replicate (N - n) none = sE m.length (args.map some ++ List.replicate (N - n) none) := by
      unfold sE
      rw [sPs_eq, List.map_append, List.map_map, List.map_map, List.map_replicate]
      rfl
    dsimp only
    rw [e, h]
    cases s (args.map some ++ List.replicate (N - n) none) h0 with
    | ok f ρ' h' => cases f <;> first | rfl | (show R.ok _ _ = R.ok (sP _ _) _; simp only [sP])
    | _ => rfl
theorem sc_bad : SC (fun _ => bad) := fun m ps => sf_bad
theorem ss_dnew : SD_ (fun _ => newO (.dK [])) := fun m ρ => sf_newO rfl
/-! ### displays of dicts -/
def SK (a : KA) : Prop := ∀ m ρ, Sf m (List.map fun p => (sP m.length p.1, sP m.length p.2)) (a (sE m.length ρ)) (a ρ)
theorem sk_nil : SK kNil := fun m ρ => sf_ret rfl
theorem sk_cons {dk dv : D} {a : KA} (h1 : SD_ dk) (h2 : SD_ dv) (h : SK a) : SK (kCons dk dv a) := fun m ρ => sf_bnd (h1 m ρ) fun x => sf_bnd (h2 m ρ) fun y => sf_bnd (h m ρ) fun xs => sf_ret rfl
theorem puts_shift (k : Nat) (kvs : List (L2.Key × P)) : ∀ acc : List (L2.Key × P), (sKv k kvs).foldl (fun acc kv => vPut acc kv.1 kv.2) (sKv k acc) = sKv k (kvs.foldl (fun acc kv => vPut acc kv.1 kv.2) acc) := by
  induction kvs with
  | nil => intro acc; rfl
  | cons kv kvs ih =>
    intro acc
    show (sKv k kvs).foldl _ (vPut (sKv k acc) kv.1 (sP k kv.2)) = sKv k (kvs.foldl _ (vPut acc kv.1 kv.2))
    rw [vPut_shift, ih]
theorem keyed_shift (k : Nat) : ∀ ps : List (P × P), mapO keyed (ps.map fun p => (sP k p.1, sP k p.2)) = (mapO keyed ps).map (sKv k)
  | [] => rfl
  | p :: ps => by
    rw [List.map_cons]
    unfold mapO
    rw [keyed_shift k ps]
    have e : keyed (sP k p.1, sP k p.2) = (keyed p).map fun kv => (kv.1, sP k kv.2) := by
      unfold keyed
      rw [key_shift]
      cases keyOf p.1 <;> rfl
    rw [e]
    cases keyed p with
    | none => rfl
    | some q => cases mapO keyed ps <;> rfl
theorem ss_dict {a : KA} (h : SK a) : SD_ (dDict a) := fun m ρ => sf_bnd (h m ρ) fun ps => by
  rw [keyed_shift]
  exact sf_bnd (f := sKv m.length) (sf_opt rfl) fun kvs => sf_when (by rw [sKv_len]) (sf_newO (by
    show O.dK (putsP (sKv m.length kvs)) = O.dK (sKv m.length (putsP kvs))
    unfold putsP
    have := puts_shift m.length kvs []
    rw [show sKv m.length ([] : List (L2.Key × P)) = [] from rfl] at this
    rw [this]))
/-- what a closed run says of every heap -/
theorem SC.run {c : List P → M P} (hc : SC c) {ps : List P} {h h' : Hm} {p : P} (e : c ps h = .ok p h') (m : Hm) : c (sPs m.length ps) (sH m h) = .ok (sP m.length p) (sH m h') := by
  rw [hc m ps h, e]
  rfl
end G

namespace K_k22
open PySem (Str)
open G
theorem sD_least_missing : SS (D_least_missing ) := (ss_seq (ss_set 1 ss_c) (ss_seq (ss_while (ss_val (ss_op s2_in (ss_var 1) (ss_var 0))) (ss_set 1 (ss_op s2_add (ss_var 1) ss_c)) FU) (ss_ret (ss_var 1))))
theorem sF_least_missing : SC F_least_missing := by rw [F_least_missing]; exact sc_fn (sD_least_missing )
theorem sD_sum_of_piles : SS (D_sum_of_piles ) := (ss_seq (ss_set 1 ss_c) (ss_seq (ss_for (ss_of (ss_var 0)) (sg_name 2) (ss_set 1 (ss_op s2_xor (ss_var 1) (ss_var 2)))) (ss_ret (ss_var 1))))
theorem sF_sum_of_piles : SC F_sum_of_piles := by rw [F_sum_of_piles]; exact sc_fn (sD_sum_of_piles )
theorem sD_first_wins_piles {c_sum_of_piles : List P → M P} (h_sum_of_piles : SC c_sum_of_piles) : SS (D_first_wins_piles c_sum_of_piles) := (ss_ret (ss_op s2_ne (ss_call h_sum_of_piles (ss_cons (ss_var 0) ss_nil)) ss_c))
theorem sF_first_wins_piles : SC F_first_wins_piles := by rw [F_first_wins_piles]; exact sc_fn (sD_first_wins_piles sF_sum_of_piles)
theorem sD_pile_moves_that_win {c_sum_of_piles : List P → M P} (h_sum_of_piles : SC c_sum_of_piles) : SS (D_pile_moves_that_win c_sum_of_piles) := (ss_seq (ss_set 1 (ss_call h_sum_of_piles (ss_cons (ss_var 0) ss_nil))) (ss_ret (ss_dL sc_tup (ss_comp (ss_enum (ss_var 0)) (sg_tup (sg_cons (sg_name 2) (sg_cons (sg_name 3) sg_nil))) (ss_val (ss_op s2_lt (ss_op s2_xor (ss_var 3) (ss_var 1)) (ss_var 3))) (ss_tup (ss_cons (ss_var 2) (ss_cons (ss_op s2_xor (ss_var 3) (ss_var 1)) ss_nil)))))))
theorem sF_pile_moves_that_win : SC F_pile_moves_that_win := by rw [F_pile_moves_that_win]; exact sc_fn (sD_pile_moves_that_win sF_sum_of_piles)
theorem sD_pile_game : SS (D_pile_game ) := (ss_seq (ss_set 1 (ss_new (ss_lst ss_nil))) (ss_seq (ss_for (ss_range1 (ss_op s2_add (ss_var 0) ss_c)) (sg_name 2) (ss_seq (ss_set 3 (ss_dL sc_tup (ss_lV sl_sort (ss_var 1)))) (ss_set 1 (ss_new (ss_lst (ss_star (ss_var 1) (ss_cons (ss_tup (ss_cons (ss_var 3) (ss_cons (ss_var 3) ss_nil))) ss_nil))))))) (ss_ret (ss_op s2_ix (ss_var 1) (ss_var 0)))))
theorem sF_pile_game : SC F_pile_game := by rw [F_pile_game]; exact sc_fn (sD_pile_game )
theorem sD__law_open_cells : SS (D__law_open_cells ) := (ss_seq (ss_set 1 ss_c) (ss_seq (ss_for (ss_of (ss_var 0)) (sg_name 2) (ss_set 1 (ss_op s2_mod (ss_call (sc_one s1_int) (ss_cons (ss_op s2_add (ss_op s2_add (ss_op s2_mul (ss_var 1) ss_c) (ss_op s2_mul (ss_var 2) ss_c)) ss_c) ss_nil)) ss_c))) (ss_seq (ss_set 3 (ss_new (ss_comp (ss_of (ss_var 0)) (sg_name 2) ss_yes (ss_call (sc_one s1_abs) (ss_cons (ss_var 2) ss_nil))))) (ss_ret (ss_dict (sk_cons ss_c (ss_rev (ss_var 3)) (sk_cons ss_c ss_c (sk_cons ss_c (ss_var 1) (sk_cons ss_c ss_c sk_nil)))))))))
theorem sF__law_open_cells : SC F__law_open_cells := by rw [F__law_open_cells]; exact sc_fn (sD__law_open_cells )
theorem sD__law_pick : SS (D__law_pick ) := (ss_seq (ss_ifS (ss_val (ss_op s2_lt (ss_var 1) ss_c)) (ss_ret ss_c) ss_nx) (ss_seq (ss_set 2 (ss_op s2_ix (ss_var 0) ss_c)) (ss_seq (ss_while (ss_and (ss_val (ss_op s2_lt (ss_op s2_ix (ss_var 0) ss_c) ss_c)) (ss_val (ss_op s2_gt (ss_call (sc_one s1_len) (ss_cons (ss_var 2) ss_nil)) ss_c))) (ss_put (ss_var 0) ss_c (ss_meth0 sf_chkL s1_pop (ss_var 2))) FU) (ss_seq (ss_set 3 (ss_op s2_ix (ss_var 0) ss_c)) (ss_seq (ss_ifS (ss_val (ss_op s2_gt (ss_var 3) ss_c)) (ss_seq (ss_put (ss_var 0) ss_c (ss_op s2_div (ss_var 3) (ss_var 1))) (ss_ret (ss_op s2_mod (ss_call (sc_one s1_int) (ss_cons (ss_var 3) ss_nil)) (ss_var 1)))) ss_nx) (ss_seq (ss_put (ss_var 0) ss_c (ss_op s2_add (ss_op s2_ix (ss_var 0) ss_c) ss_c)) (ss_seq (ss_set 4 (ss_op s2_ix (ss_var 0) ss_c)) (ss_seq (ss_set 5 (ss_op s2_mod (ss_call (sc_one s1_int) (ss_cons (ss_op s2_add (ss_op s2_ix (ss_var 0) ss_c) (ss_op s2_mul (ss_var 4) ss_c)) ss_nil)) ss_c)) (ss_seq (ss_set 5 (ss_op s2_mod (ss_call (sc_one s1_int) (ss_cons (ss_op s2_add (ss_op s2_mul (ss_var 5) (ss_var 5)) (ss_op s2_mul (ss_var 4) ss_c)) ss_nil)) ss_c)) (ss_ret (ss_op s2_mod (ss_call (sc_one s1_int) (ss_cons (ss_op s2_div (ss_var 5) ss_c) ss_nil)) (ss_var 1))))))))))))
theorem sF__law_pick : SC F__law_pick := by rw [F__law_pick]; exact sc_fn (sD__law_pick )
theorem sD__law_of {c__law_pick : List P → M P} (h__law_pick : SC c__law_pick) : SS (D__law_of c__law_pick) := (ss_ret (ss_op s2_ix (ss_var 1) (ss_call h__law_pick (ss_cons (ss_var 0) (ss_cons (ss_call (sc_one s1_len) (ss_cons (ss_var 1) ss_nil)) ss_nil)))))
theorem sF__law_of : SC F__law_of := by rw [F__law_of]; exact sc_fn (sD__law_of sF__law_pick)
theorem sD__law_mex : SS (D__law_mex ) := (ss_seq (ss_set 1 ss_c) (ss_seq (ss_while (ss_val (ss_op s2_in (ss_var 1) (ss_var 0))) (ss_set 1 (ss_op s2_add (ss_var 1) ss_c)) FU) (ss_ret (ss_var 1))))
theorem sF__law_mex : SC F__law_mex := by rw [F__law_mex]; exact sc_fn (sD__law_mex )
theorem sD__law_xor : SS (D__law_xor ) := (ss_seq (ss_asg (ss_tup (ss_cons ss_c (ss_cons ss_c ss_nil))) (sg_tup (sg_cons (sg_name 1) (sg_cons (sg_name 2) sg_nil)))) (ss_seq (ss_while (ss_val (ss_op s2_le (ss_var 2) (ss_dR sc_max (ss_op s2_add (ss_new (ss_lV sl_id (ss_var 0))) (ss_new (ss_lst (ss_cons ss_c ss_nil))))))) (ss_seq (ss_set 1 (ss_op s2_add (ss_var 1) (ss_op s2_mul (ss_var 2) (ss_op s2_mod (ss_call (sc_one s1_int) (ss_cons (ss_dL sc_len (ss_comp (ss_of (ss_var 0)) (sg_name 3) (ss_val (ss_op s2_eq (ss_op s2_mod (ss_call (sc_one s1_int) (ss_cons (ss_op s2_div (ss_var 3) (ss_var 2)) ss_nil)) ss_c) ss_c)) ss_c)) ss_nil)) ss_c)))) (ss_set 2 (ss_op s2_mul ss_c (ss_var 2)))) FU) (ss_ret (ss_var 1))))
theorem sF__law_xor : SC F__law_xor := by rw [F__law_xor]; exact sc_fn (sD__law_xor )
theorem sD__law_game : SS (D__law_game ) := (ss_seq (ss_set 2 (ss_new (ss_lst ss_nil))) (ss_seq (ss_for (ss_of (ss_tup (ss_cons (ss_var 0) (ss_cons (ss_var 1) ss_nil)))) (sg_name 3) (ss_seq (ss_set 4 (ss_new (ss_lV sl_sort (ss_var 3)))) (ss_expr (ss_meth1 sf_chkL s2_append (ss_var 2) (ss_dL sc_tup (ss_comp (ss_enum (ss_var 4)) (sg_tup (sg_cons (sg_name 5) (sg_cons (sg_name 6) sg_nil))) (ss_or (ss_val (ss_op s2_eq (ss_var 5) ss_c)) (ss_val (ss_op s2_ne (ss_var 6) (ss_op s2_ix (ss_var 4) (ss_op s2_sub (ss_var 5) ss_c))))) (ss_var 6))))))) (ss_ret (ss_tup (ss_cons (ss_op s2_ix (ss_var 2) ss_c) (ss_cons (ss_op s2_ix (ss_var 2) ss_c) ss_nil))))))
theorem sF__law_game : SC F__law_game := by rw [F__law_game]; exact sc_fn (sD__law_game )
theorem sD__law_pile {c__law_game : List P → M P} (h__law_game : SC c__law_game) {c__law_pile : List P → M P} (h__law_pile : SC c__law_pile) : SS (D__law_pile c__law_game c__law_pile) := (ss_seq (ss_set 1 (ss_new (ss_comp (ss_range1 (ss_var 0)) (sg_name 2) ss_yes (ss_call h__law_pile (ss_cons (ss_var 2) ss_nil))))) (ss_ret (ss_call h__law_game (ss_cons (ss_var 1) (ss_cons (ss_var 1) ss_nil)))))
theorem sF__law_pile : ∀ n : Nat, SC (F__law_pile n)
  | 0 => by rw [F__law_pile_0]; exact sc_bad
  | n + 1 => by rw [F__law_pile_s]; exact sc_fn (sD__law_pile sF__law_game (sF__law_pile n))
theorem sD__law_wins {c__law_wins : List P → M P} (h__law_wins : SC c__law_wins) : SS (D__law_wins c__law_wins) := (ss_seq (ss_ifS (ss_val (ss_op s2_notIn (ss_var 1) (ss_var 0))) (ss_seq (ss_put (ss_var 0) (ss_var 1) ss_c) (ss_for (ss_range1 (ss_call (sc_one s1_len) (ss_cons (ss_var 1) ss_nil))) (sg_name 2) (ss_seq (ss_set 3 (ss_new (ss_comp (ss_range1 (ss_op s2_ix (ss_var 1) (ss_var 2))) (sg_name 4) ss_yes (ss_dL sc_tup (ss_lV sl_sort (ss_op s2_add (ss_op s2_add (ss_sl (ss_var 1) ss_none (ss_some (ss_var 2))) (ss_tup (ss_cons (ss_var 4) ss_nil))) (ss_sl (ss_var 1) (ss_some (ss_op s2_add (ss_var 2) ss_c)) ss_none))))))) (ss_put (ss_var 0) (ss_var 1) (ss_dOr (ss_op s2_ix (ss_var 0) (ss_var 1)) (ss_un s1_not (ss_dL sc_all (ss_comp (ss_of (ss_var 3)) (sg_name 5) ss_yes (ss_call h__law_wins (ss_cons (ss_var 0) (ss_cons (ss_var 5) ss_nil))))))))))) ss_nx) (ss_ret (ss_op s2_ix (ss_var 0) (ss_var 1))))
theorem sF__law_wins : ∀ n : Nat, SC (F__law_wins n)
  | 0 => by rw [F__law_wins_0]; exact sc_bad
  | n + 1 => by rw [F__law_wins_s]; exact sc_fn (sD__law_wins (sF__law_wins n))
theorem sD_law {c_least_missing : List P → M P} (h_least_missing : SC c_least_missing) {c_sum_of_piles : List P → M P} (h_sum_of_piles : SC c_sum_of_piles) {c_first_wins_piles : List P → M P} (h_first_wins_piles : SC c_first_wins_piles) {c_pile_moves_that_win : List P → M P} (h_pile_moves_that_win : SC c_pile_moves_that_win) {c_pile_game : List P → M P} (h_pile_game : SC c_pile_game) {c__law_open_cells : List P → M P} (h__law_open_cells : SC c__law_open_cells) {c__law_pick : List P → M P} (h__law_pick : SC c__law_pick) {c__law_of : List P → M P} (h__law_of : SC c__law_of) {c__law_mex : List P → M P} (h__law_mex : SC c__law_mex) {c__law_xor : List P → M P} (h__law_xor : SC c__law_xor) {c__law_pile : List P → M P} (h__law_pile : SC c__law_pile) {c__law_wins : List P → M P} (h__law_wins : SC c__law_wins) : SS (D_law c_least_missing c_sum_of_piles c_first_wins_piles c_pile_moves_that_win c_pile_game c__law_open_cells c__law_pick c__law_of c__law_mex c__law_xor c__law_pile c__law_wins) := (ss_seq (ss_set 1 (ss_call h__law_open_cells (ss_cons (ss_var 0) ss_nil))) (ss_seq (ss_for (ss_range1 ss_c) (sg_name 2) (ss_seq (ss_set 4 (ss_call h__law_of (ss_cons (ss_var 1) (ss_cons (ss_new (ss_lst (ss_cons ss_c (ss_cons ss_c (ss_cons ss_c (ss_cons (ss_op s2_pow ss_c ss_c) ss_nil)))))) ss_nil)))) (ss_seq (ss_set 5 (ss_dL sc_tup (ss_comp (ss_range1 (ss_call h__law_pick (ss_cons (ss_var 1) (ss_cons (ss_op s2_ix (ss_new (ss_lst (ss_cons ss_c (ss_cons ss_c (ss_cons ss_c ss_nil))))) (ss_call (sc_two s2_min) (ss_cons (ss_var 2) (ss_cons ss_c ss_nil)))) ss_nil)))) (sg_name 15) ss_yes (ss_call h__law_pick (ss_cons (ss_var 1) (ss_cons (ss_op s2_add (ss_var 4) ss_c) ss_nil)))))) (ss_seq (ss_set 5 (ss_if (ss_and (ss_val (ss_op s2_eq (ss_call h__law_pick (ss_cons (ss_var 1) (ss_cons ss_c ss_nil))) ss_c)) (ss_val (ss_op s2_lt (ss_call (sc_one s1_len) (ss_cons (ss_var 5) ss_nil)) ss_c))) (ss_op s2_add (ss_var 5) (ss_tup (ss_cons (ss_call h__law_xor (ss_cons (ss_var 5) ss_nil)) ss_nil))) (ss_var 5))) (ss_seq (ss_set 5 (ss_if (ss_val (ss_op s2_le (ss_dR sc_max (ss_op s2_add (ss_new (ss_lV sl_id (ss_var 5))) (ss_new (ss_lst (ss_cons ss_c ss_nil))))) (ss_op s2_pow ss_c ss_c))) (ss_var 5) (ss_sl (ss_var 5) ss_none (ss_some (ss_un s1_neg ss_c))))) (ss_seq (ss_par3 9 10 11 (ss_cons (ss_call h__law_xor (ss_cons (ss_var 5) ss_nil)) (ss_cons (ss_new (ss_lst ss_nil)) (ss_cons (ss_call (sc_one s1_repr) (ss_cons (ss_var 5) ss_nil)) ss_nil)))) (ss_seq (ss_for (ss_enum (ss_var 5)) (sg_tup (sg_cons (sg_name 12) (sg_cons (sg_name 13) sg_nil))) (ss_seq (ss_set 14 (ss_call h__law_xor (ss_cons (ss_op s2_add (ss_sl (ss_var 5) ss_none (ss_some (ss_var 12))) (ss_sl (ss_var 5) (ss_some (ss_op s2_add (ss_var 12) ss_c)) ss_none)) ss_nil))) (ss_set 10 (ss_op s2_add (ss_var 10) (ss_op s2_mul (ss_new (ss_lst (ss_cons (ss_tup (ss_cons (ss_var 12) (ss_cons (ss_var 14) ss_nil))) ss_nil))) (ss_call (sc_one s1_int) (ss_cons (ss_op s2_lt (ss_var 14) (ss_var 13)) ss_nil))))))) (ss_seq (ss_set 6 (ss_new (ss_lst (ss_cons (ss_call h_sum_of_piles (ss_cons (ss_var 5) ss_nil)) (ss_cons (ss_call h_first_wins_piles (ss_cons (ss_var 5) ss_nil)) (ss_cons (ss_call h_pile_moves_that_win (ss_cons (ss_var 5) ss_nil)) ss_nil)))))) (ss_seq (ss_ifS (ss_or (ss_val (ss_op s2_ne (ss_call (sc_one s1_repr) (ss_cons (ss_var 6) ss_nil)) (ss_dL sc_repr (ss_lst (ss_cons (ss_var 9) (ss_cons (ss_op s2_ne (ss_var 9) ss_c) (ss_cons (ss_call (sc_one s1_tup) (ss_cons (ss_var 10) ss_nil)) ss_nil))))))) (ss_val (ss_op s2_ne (ss_call (sc_one s1_repr) (ss_cons (ss_var 5) ss_nil)) (ss_var 11)))) (ss_ret ss_c) ss_nx) (ss_seq (ss_ifS (ss_and (ss_val (ss_op s2_ne (ss_var 9) ss_c)) (ss_val (ss_op s2_eq (ss_op s2_mod (ss_call (sc_one s1_int) (ss_cons (ss_call (sc_one s1_len) (ss_cons (ss_var 10) ss_nil)) ss_nil)) ss_c) ss_c))) (ss_ret ss_c) ss_nx) (ss_seq (ss_set 7 (ss_dL sc_tup (ss_lThen sl_sort (ss_comp (ss_range1 (ss_call h__law_pick (ss_cons (ss_var 1) (ss_cons ss_c ss_nil)))) (sg_name 15) ss_yes (ss_call h__law_pick (ss_cons (ss_var 1) (ss_cons ss_c ss_nil))))))) (ss_seq (ss_ifS (ss_val (ss_op s2_ne (ss_call (sc_one s1_repr) (ss_cons (ss_call h_first_wins_piles (ss_cons (ss_var 7) ss_nil)) ss_nil)) (ss_call (sc_one s1_repr) (ss_cons (ss_call h__law_wins (ss_cons ss_dnew (ss_cons (ss_var 7) ss_nil))) ss_nil)))) (ss_ret ss_c) ss_nx) (ss_seq (ss_set 8 (ss_dL sc_tup (ss_comp (ss_range1 (ss_call h__law_pick (ss_cons (ss_var 1) (ss_cons ss_c ss_nil)))) (sg_name 15) ss_yes (ss_call h__law_pick (ss_cons (ss_var 1) (ss_cons ss_c ss_nil)))))) (ss_ifS (ss_val (ss_op s2_ne (ss_call (sc_one s1_repr) (ss_cons (ss_call h_least_missing (ss_cons (ss_var 8) ss_nil)) ss_nil)) (ss_call (sc_one s1_repr) (ss_cons (ss_call h__law_mex (ss_cons (ss_var 8) ss_nil)) ss_nil)))) (ss_ret ss_c) ss_nx)))))))))))))) (ss_seq (ss_set 3 (ss_call h__law_pick (ss_cons (ss_var 1) (ss_cons ss_c ss_nil)))) (ss_ret (ss_dAnd (ss_op s2_eq (ss_call (sc_one s1_repr) (ss_cons (ss_call h_pile_game (ss_cons (ss_var 3) ss_nil)) ss_nil)) (ss_call (sc_one s1_repr) (ss_cons (ss_call h__law_pile (ss_cons (ss_var 3) ss_nil)) ss_nil))) (ss_op s2_eq (ss_call h_pile_moves_that_win (ss_cons (ss_tup (ss_cons ss_c (ss_cons ss_c (ss_cons ss_c ss_nil)))) ss_nil)) (ss_tup (ss_cons (ss_tup (ss_cons ss_c (ss_cons ss_c ss_nil))) ss_nil))))))))
theorem sF_law : SC F_law := by rw [F_law]; exact sc_fn (sD_law sF_least_missing sF_sum_of_piles sF_first_wins_piles sF_pile_moves_that_win sF_pile_game sF__law_open_cells sF__law_pick sF__law_of sF__law_mex sF__law_xor (sF__law_pile 40) (sF__law_wins 40))
end K_k22

/-! Q5: membership, closed runs. -/
namespace G
open PySem (Str PyData)
theorem dat_ints (m : Hm) (f : Nat) (l : List Int) : mapO (dat m f) (l.map .int) = some (l.map .int) := by
  induction l with
  | nil => rfl
  | cons i l ih =>
    rw [List.map_cons]
    unfold mapO
    rw [dat_int, ih]
    rfl
theorem canLay_ints (l : List Int) : PyData.canLayAll0 (l.map PyData.int) = true := by
  induction l with
  | nil => simp [PyData.canLayAll0]
  | cons i l ih => simp [PyData.canLayAll0, PyData.canLay0, ih]
theorem depth_ints (l : List Int) : PyData.depthAll (l.map PyData.int) ≤ 0 := by
  induction l with
  | nil => simp [PyData.depthAll]
  | cons i l ih => simp only [List.map_cons, PyData.depthAll, PyData.depth]; omega
theorem shaped_int (i : Int) : PySem.SeqAt.shaped (.int i) = true := by simp [PySem.SeqAt.shaped, PyData.canLay0, PyData.depth]
theorem shaped_ints (l : List Int) : PySem.SeqAt.shaped (.tuple (l.map .int)) = true ∧ PySem.SeqAt.shaped (.list (l.map .int)) = true := by
  have := depth_ints l
  simp only [PySem.SeqAt.shaped, PyData.canLay0, PyData.depth, canLay_ints, Bool.true_and, decide_eq_true_eq]
  exact ⟨decide_eq_true (by omega), decide_eq_true (by omega)⟩
theorem any_ints (x : Int) (l : List Int) : ((l.map PyData.int).any fun z => PyData.eqv z (.int x)) = decide (x ∈ l) := by
  induction l with
  | nil => simp
  | cons i l ih =>
    rw [List.map_cons, List.any_cons, ih]
    simp only [PyData.eqv, List.mem_cons]
    by_cases h : x = i
    · subst h; simp
    · have h' : ¬ i = x := fun e => h e.symm
      simp [h, h']
theorem dat_tupI (m : Hm) (l : List Int) : dat m DD (.tup (l.map .int)) = some (.tuple (l.map .int)) := by
  show (mapO (dat m 59) (l.map P.int)).map PyData.tuple = _
  rw [dat_ints]
  rfl
section
variable {m : Hm} {Q : P → Hm → Prop} {QB : Bool → Hm → Prop}
theorem ok_inT_int (x : Int) (l : List Int) : Ok (inP (.int x) (.tup (l.map .int)) m) QB = QB (decide (x ∈ l)) m := by
  rw [in_tup]
  unfold inT
  rw [ok_bnd, ok_asD, dat_int]
  show Ok (bnd _ _ m) QB = _
  rw [ok_bnd, ok_asD, dat_tupI]
  show Ok (when_ _ _ m) QB = _
  rw [ok_when, shaped_int, (shaped_ints l).1, ok_ret, any_ints]
  simp
theorem ok_inT_N (x : Nat) (l : List Nat) : Ok (inP (nI x) (.tup (l.map nI)) m) QB = QB (decide (x ∈ l)) m := by
  have e : l.map nI = (l.map fun (n : Nat) => (n : Int)).map P.int := by simp
  rw [e, ok_inT_int]
  congr 1
  simp [Int.natCast_inj]
theorem ok_inL_int {n : Nat} (x : Int) (l : List Int) (h : m[n]? = some (.lst (l.map .int))) : Ok (inP (.int x) (.ref n) m) QB = QB (decide (x ∈ l)) m := by
  show Ok (getO n _ m) QB = _
  rw [ok_getO, h]
  simp only [Option.some.injEq, exists_eq_left']
  rw [ok_bnd, ok_asD, dat_int]
  show Ok (bnd _ _ m) QB = _
  have e : dat m DD (.ref n) = some (.list (l.map .int)) := by
    show (match m[n]? with | some (.lst ps) => (mapO (dat m 59) ps).map PyData.list | _ => none) = _
    rw [h]
    dsimp only
    rw [dat_ints]
    rfl
  rw [ok_bnd, ok_asD, e]
  show Ok (when_ _ _ m) QB = _
  rw [ok_when, shaped_int, (shaped_ints l).2, ok_ret, any_ints]
  simp
theorem ok_inL_N {n : Nat} (x : Nat) (l : List Nat) (h : m[n]? = some (.lst (l.map nI))) : Ok (inP (nI x) (.ref n) m) QB = QB (decide (x ∈ l)) m := by
  have e : l.map nI = (l.map fun (n : Nat) => (n : Int)).map P.int := by simp
  rw [e] at h
  rw [ok_inL_int _ _ h]
  congr 1
  simp [Int.natCast_inj]
end
/-! ### closed runs -/
theorem sH_nil (m : Hm) : sH m [] = m := by simp [sH]
theorem Fr.sH (m h : Hm) : Fr [] m (sH m h) := ⟨by simp [G.sH], fun i o _ e => by unfold G.sH; rw [List.getElem?_append_left (lt_of_get e)]; exact e⟩
def datO (r : R P) : Option PyData := match r with
  | .ok p m => dat m DD p
  | _ => none
/-- a run from the empty heap tells its datum in any heap -/
theorem SC.dat {c : List P → M P} (hc : SC c) {ps : List P} {d : PyData} (e : datO (c ps []) = some d) (m : Hm) (hp : sPs m.length ps = ps := by simp [sPs, sP]) : Ok (c ps m) fun p m' => G.dat m' DD p = some d ∧ Fr [] m m' := by
  have k := hc m ps []
  rw [sH_nil, hp] at k
  rw [k]
  cases q : c ps [] with
  | ok p h =>
    rw [q] at e
    exact ⟨by rw [← e]; exact dat_shift m h DD p, Fr.sH m h⟩
  | exc _ _ _ => rw [q] at e; cases e
  | bad => rw [q] at e; cases e
/-- .. from a heap of one new thing -/
theorem SC.dat1 {c : List P → M P} (hc : SC c) {ps ps' : List P} {o : O} {d : PyData} (e : datO (c ps [o]) = some d) (m : Hm) (hp : sPs m.length ps = ps') (ho : sO m.length o = o := by rfl) : Ok (c ps' (m ++ [o])) fun p m' => G.dat m' DD p = some d ∧ Fr [] m m' := by
  have k := hc m ps [o]
  have eh : sH m [o] = m ++ [o] := by simp [sH, ho]
  rw [eh, hp] at k
  rw [k]
  cases q : c ps [o] with
  | ok p h =>
    rw [q] at e
    exact ⟨by rw [← e]; exact dat_shift m h DD p, Fr.sH m h⟩
  | exc _ _ _ => rw [q] at e; cases e
  | bad => rw [q] at e; cases e
theorem sPs_nats (k : Nat) (l : List Nat) : sPs k (l.map nI) = l.map nI := by
  rw [sPs_eq, List.map_map]
  congr 1
/-! ### drawn lists -/
theorem draws {ρ0 : Env} {i : Nat} {e : D} {ps : List P} {n c : Nat} {K : Int} {m : Hm} (is : IsSrc m n c) (hz : ps.length ≤ SZ) (he : ∀ p m, IsSrc m n c → Ok (e (ρ0.set i (some p)) m) (Drawn n c K m)) :
    Ok (compL (gName i) tYes e ρ0 (.seq ps) ((Src.seq ps).len m) 0 [] m) fun acc m' => ∃ l : List Nat, acc = l.map nI ∧ l.length = ps.length ∧ (∀ a ∈ l, a = 0 ∨ (a : Int) < K) ∧ IsSrc m' n c ∧ Fr [n, c] m m' ∧ m'.length = m.length := by
  refine comp_seq (enc := fun p : P => p) (as := ps) (by simp) hz (fun done acc m' => ∃ l : List Nat, acc = l.map nI ∧ l.length = done.length ∧ (∀ a ∈ l, a = 0 ∨ (a : Int) < K) ∧ IsSrc m' n c ∧ Fr [n, c] m m' ∧ m'.length = m.length) ⟨[], rfl, rfl, by simp, is, Fr.refl _ _, rfl⟩ ?_ ?_
  · rintro done p rest acc m1 e1 _ ⟨l, rfl, hl, hk, is1, fr, hm⟩
    rw [ok_gName, ok_tYes]
    refine ⟨fun _ => (he p m1 is1).mono ?_, fun h => (nomatch h)⟩
    rintro y m2 ⟨r, rfl, h0, hr, is2, fr2, hm2⟩
    obtain ⟨a, rfl⟩ := Int.eq_ofNat_of_zero_le h0
    refine ⟨l ++ [a], by simp, by simp [hl], fun b hb => ?_, is2, fr.trans fr2, by omega⟩
    rcases List.mem_append.mp hb with hb | hb
    · exact hk b hb
    · rw [List.mem_singleton.mp hb]; omega
  · rintro acc m1 _ h
    exact h
theorem cut_take (l : List Nat) (i : Nat) (h : i ≤ l.length) : cutP (l.map nI) none (some (i : Int)) = (l.take i).map nI := by
  unfold cutP
  have e1 : HT.sIx (l.map nI).length 0 none = 0 := rfl
  have e2 : HT.sIx (l.map nI).length (l.map nI).length (some (i : Int)) = i := by
    show (if (i : Int) < 0 then ((i : Int) + ((l.map nI).length : Int)).toNat else min (i : Int).toNat (l.map nI).length) = i
    rw [if_neg (by omega), List.length_map]
    simp; omega
  rw [e1, e2, List.drop_zero, Nat.sub_zero, List.map_take]
theorem cut_drop (l : List Nat) (i : Nat) (h : i ≤ l.length) : cutP (l.map nI) (some (i : Int)) none = (l.drop i).map nI := by
  unfold cutP
  have e1 : HT.sIx (l.map nI).length 0 (some (i : Int)) = i := by
    show (if (i : Int) < 0 then ((i : Int) + ((l.map nI).length : Int)).toNat else min (i : Int).toNat (l.map nI).length) = i
    rw [if_neg (by omega), List.length_map]
    simp; omega
  have e2 : HT.sIx (l.map nI).length (l.map nI).length none = l.length := by
    show (l.map nI).length = _
    rw [List.length_map]
  rw [e1, e2, ← List.map_drop, List.take_of_length_le (by simp)]
theorem cut_last (ps : List P) : cutP ps none (some (-1)) = ps.dropLast := by
  unfold cutP
  have e1 : HT.sIx ps.length 0 none = 0 := rfl
  have e2 : HT.sIx ps.length ps.length (some (-1)) = ps.length - 1 := by
    show (if (-1 : Int) < 0 then ((-1 : Int) + (ps.length : Int)).toNat else min (-1 : Int).toNat ps.length) = _
    rw [if_pos (by omega)]
    omega
  rw [e1, e2, List.drop_zero, Nat.sub_zero, List.dropLast_eq_take]
/-! ### pairs -/
abbrev pI (p : Nat × Nat) : P := .tup [nI p.1, nI p.2]
abbrev pD (p : Nat × Nat) : PyData := .tuple [.int (p.1 : Int), .int (p.2 : Int)]
theorem dat_pI (m : Hm) (f : Nat) (p : Nat × Nat) : dat m (f + 1) (pI p) = some (pD p) := by
  show (mapO (dat m f) [nI p.1, nI p.2]).map PyData.tuple = _
  simp only [mapO, dat_int]
  rfl
theorem dat_pIs (m : Hm) (f : Nat) (l : List (Nat × Nat)) : mapO (dat m (f + 1)) (l.map pI) = some (l.map pD) := mapO_map pI (dat m (f + 1)) pD l fun a _ => dat_pI m f a
/-- one statement, then the rest -/
theorem seq_cut {s t : DS} {ρ : Env} {m : Hm} {Q : Fl → Env → Hm → Prop} (J : Env → Hm → Prop) (h : OkS (s ρ m) fun f ρ' m' => f = .nx ∧ J ρ' m') (h2 : ∀ ρ' m', J ρ' m' → OkS (t ρ' m') Q) : OkS (sSeq s t ρ m) Q := by
  rw [oks_seq]
  refine h.mono ?_
  rintro f ρ' m' ⟨rfl, j⟩
  exact h2 ρ' m' j
abbrev dI (a : Nat) : PyData := .int (a : Int)
theorem dat_nats (m : Hm) (f : Nat) (l : List Nat) : mapO (dat m f) (l.map nI) = some (l.map dI) := mapO_map nI (dat m f) dI l fun a _ => dat_int m f a
theorem nats_small {l : List Nat} (h : ∀ a ∈ l, a < 18446744073709551616) : PyData.showableAll (l.map dI) = true ∧ wgtAll (l.map dI) ≤ l.length * 67 := by
  refine ⟨showAll fun d hd => ?_, ?_⟩
  · obtain ⟨a, ha, rfl⟩ := List.mem_map.mp hd
    exact (shw_int (by have := h a ha; omega)).1
  · have := wgtAll_le (ds := l.map dI) (B := 65) fun d hd => by
      obtain ⟨a, ha, rfl⟩ := List.mem_map.mp hd
      exact (shw_int (by have := h a ha; omega)).2
    rw [List.length_map] at this
    exact this
theorem shows_nats {m : Hm} {l : List Nat} (h : ∀ a ∈ l, a < 18446744073709551616) (hl : l.length ≤ 100000) : Shows m (.tup (l.map nI)) (.tuple (l.map dI)) := by
  refine ⟨?_, ?_, ?_⟩
  · show (mapO (dat m 59) (l.map nI)).map PyData.tuple = _
    rw [dat_nats]
    rfl
  · simp only [PyData.showable]; exact (nats_small h).1
  · simp only [wgt, SZ]
    have := (nats_small h).2
    omega
theorem pairs_small {l : List (Nat × Nat)} (h : ∀ p ∈ l, p.1 < 18446744073709551616 ∧ p.2 < 18446744073709551616) : PyData.showableAll (l.map pD) = true ∧ wgtAll (l.map pD) ≤ l.length * 139 := by
  have one : ∀ p ∈ l, (pD p).showable = true ∧ wgt (pD p) ≤ 137 := fun p hp => by
    obtain ⟨h1, h2⟩ := h p hp
    have a1 := shw_int (i := (p.1 : Int)) (by omega)
    have a2 := shw_int (i := (p.2 : Int)) (by omega)
    simp only [PyData.showable, PyData.showableAll, wgt, wgtAll] at a1 a2 ⊢
    simp only [a1.1, a2.1, Bool.true_and, true_and]
    omega
  refine ⟨showAll fun d hd => ?_, ?_⟩
  · obtain ⟨a, ha, rfl⟩ := List.mem_map.mp hd
    exact (one a ha).1
  · have := wgtAll_le (ds := l.map pD) (B := 137) fun d hd => by
      obtain ⟨a, ha, rfl⟩ := List.mem_map.mp hd
      exact (one a ha).2
    rw [List.length_map] at this
    exact this
theorem dat_lst {m : Hm} {f t : Nat} {ps : List P} {ds : List PyData} (h : m[t]? = some (.lst ps)) (e : mapO (dat m f) ps = some ds) : dat m (f + 1) (.ref t) = some (.list ds) := by
  show (match m[t]? with | some (.lst ps) => (mapO (dat m f) ps).map PyData.list | _ => none) = _
  rw [h]
  dsimp only
  rw [e]
  rfl
theorem dat_pTup (m : Hm) (f : Nat) (l : List (Nat × Nat)) : dat m (f + 2) (.tup (l.map pI)) = some (.tuple (l.map pD)) := by
  show (mapO (dat m (f + 1)) (l.map pI)).map PyData.tuple = _
  rw [dat_pIs]
  rfl
/-! ### sorting whole numbers -/
def sortN (l : List Nat) : List Nat := ms (fun a b => !decide (b < a)) (l.length + 1) l
theorem sortN_eq (l : List Nat) : sortN l = l.mergeSort fun a b => !decide (b < a) := ms_eq _ _ _ (Nat.lt_succ_self _)
theorem sortN_perm (l : List Nat) : (sortN l).Perm l := by rw [sortN_eq]; exact List.mergeSort_perm _ _
theorem ok_sortN (l : List Nat) (m : Hm) (Q : List P → Hm → Prop) : Ok (sortP (l.map nI) m) Q = Q ((sortN l).map nI) m := by
  unfold sortP
  have e1 : mapO (fun p => (dat m DD p).map fun d => (p, d)) (l.map nI) = some (l.map fun a => (nI a, dI a)) := mapO_map nI _ (fun a => (nI a, dI a)) l fun a _ => by
    show (dat m DD (nI a)).map _ = _
    rw [dat_int]
    rfl
  rw [e1]
  have e2 : (l.map fun a => (nI a, dI a)).map (·.2) = l.map dI := by rw [List.map_map]; rfl
  have e3 : allAlike (l.map dI) = true := by
    unfold allAlike
    refine List.all_eq_true.mpr fun d hd => List.all_eq_true.mpr fun e he => ?_
    obtain ⟨a, _, rfl⟩ := List.mem_map.mp hd
    obtain ⟨b, _, rfl⟩ := List.mem_map.mp he
    simp [PySem.W.alike]
  have e4 : (l.map dI).all isOther = true := by
    refine List.all_eq_true.mpr fun d hd => ?_
    obtain ⟨a, _, rfl⟩ := List.mem_map.mp hd
    rfl
  simp only [e2, e3, e4, Bool.or_true, Bool.true_and]
  rw [ms_map (le := fun a b : Nat => !decide (b < a)) (fun a b => by
    show (!PySem.W.dataLt (.int (b : Int)) (.int (a : Int))) = _
    rw [PySem.W.dataLt_int]
    congr 1
    simp), List.length_map, List.map_map]
  rfl
theorem lt_of_bits {x y i : Nat} (hx : x.testBit i = false) (hy : y.testBit i = true) (h : ∀ j, i < j → x.testBit j = y.testBit j) : x < y := by
  have e : x / 2 ^ (i + 1) = y / 2 ^ (i + 1) := Nat.eq_of_testBit_eq fun j => by
    rw [Nat.testBit_div_two_pow, Nat.testBit_div_two_pow]
    exact h _ (by omega)
  have ex := mod_two_succ x i
  have ey := mod_two_succ y i
  rw [hx] at ex
  rw [hy] at ey
  have h1 := Nat.div_add_mod x (2 ^ (i + 1))
  have h2 := Nat.div_add_mod y (2 ^ (i + 1))
  have h3 : x % 2 ^ i < 2 ^ i := Nat.mod_lt _ (Nat.two_pow_pos i)
  simp only [Bool.toNat_false, Bool.toNat_true, Nat.mul_zero, Nat.mul_one, Nat.add_zero] at ex ey
  rw [e] at h1
  omega
end G

namespace K_k22
open G
open PySem (Str PyData)
theorem pk : Pick F__law_pick := by
  have e : F__law_pick = F_pickB := by unfold F__law_pick D__law_pick F_pickB D_pickB; rfl
  rw [e]
  exact pickB_pk
theorem sum_ok (l : List Nat) (m : Hm) : Ok (F_sum_of_piles [.tup (l.map nI)] m) fun p m' => p = nI (xorN l) ∧ m' = m := by
  unfold F_sum_of_piles D_sum_of_piles
  simp only [ok_ok, ok_ret, ok_bnd, ok_when, ok_opt, ok_getO, ok_putO, ok_newO, ok_dVar, ok_dC, ok_aNil, ok_aCons, ok_dOp, ok_dUn, ok_dTup, ok_lLst, ok_dNew, ok_dIf, ok_dCall, ok_tVal, ok_asB, ok_tTru, ok_truth_bl, ok_truth_int, ok_truth_non, ok_truth_tup, ok_tYes, ok_tAnd, ok_tOr, ok_tNot, ok_dAnd, ok_dOr, ok_uNot, ok_dChain, ok_add_int, ok_add_tup, ok_add_str, ok_add_ref, ok_sub, ok_mul, ok_mul_lst, ok_mulT, ok_div, ok_mod, ok_pow, ok_shl, ok_shr, ok_band, ok_bor, ok_xor, ok_neg, ok_lt, ok_le, ok_gt, ok_ge, ok_asD, ok_eqD, ok_eq_int, ok_eq_str, ok_eq_bl, ok_eq_non, ok_eq_tup, ok_eq_ref, ok_eq_it, ok_eq_in, ok_eq_nt, ok_eq_ni, ok_ne_int, ok_ne_str, ok_ne_bl, ok_ne_non, ok_ne_tup, ok_ne_ref, ok_ne_it, ok_ne_in, ok_ne_nt, ok_ne_ni, ok_isN, ok_notN, ok_ix_tup, ok_ix_scr, ok_ix_ref, ok_pNone, ok_pSome, ok_dSl, ok_sl_tup, ok_sl_ref, ok_dRev, ok_rev_ref, ok_lRev, ok_one, ok_two, ok_abs, ok_bint, ok_bint_bl, ok_max2, ok_min2, ok_len_tup, ok_len_scr, ok_len_str, ok_len_ref, ok_btup_tup, ok_btup_scr, ok_btup_ref, ok_dL, ok_lThen, ok_dV, ok_lV, ok_dR, ok_items_tup, ok_items_scr, ok_items_ref, ok_itemsR_scr, ok_itemsR_ref, ok_lId, ok_nTup, ok_nLen, ok_nSum, ok_nAny, ok_nAll, ok_rg1, ok_asI, ok_rg2, ok_lRg, ok_dTupRg, ok_meth0, ok_meth1, ok_methL, ok_chkL, ok_append, ok_extend, ok_pop, ok_popO, ok_sOf, ok_srcOf_tup, ok_srcOf_scr, ok_srcOf_kt, ok_srcOf_ref, ok_sOfL, ok_sEnum, ok_enumOf_tup, ok_enumOf_ref, ok_sRange1, ok_sRange2, ok_gName, ok_gNil, ok_gCons, ok_gTup, oks_ok, oks_thn, oks_nx, oks_bk, oks_ct, oks_seq, oks_expr, oks_ret, oks_asg, oks_set, oks_par2, oks_par3, oks_if, oks_put, ok_setP, ok_putL, ok_fnOf, ok_dDict, ok_kNil, ok_kCons, ok_aStar, ok_star_tup, ok_star_ref, oks_for, ok_comp, scal_int, scal_str, scal_bl, scal_non, scal_tup, scal_ref, dat_int, dat_str, dat_bl, dat_non, dat_tup, ok_look, ok_store, ok_lookO_int, ok_lookO_str, ok_storeO_int, ok_storeO_str, ok_in, ok_notIn, List.getElem?_cons_zero, List.getElem?_cons_succ, List.set_cons_zero, List.set_cons_succ, List.length_cons, List.length_nil, List.map_cons, List.map_nil, List.replicate_succ, List.replicate_zero, List.cons_append, List.nil_append, Nat.reduceSub, Nat.reduceAdd, Nat.zero_add, true_and, and_true, decide_eq_true_eq, decide_eq_false_iff_not, Bool.not_eq_true', Bool.not_eq_false', forall_const, Bool.false_eq_true, Bool.true_eq_false, false_implies, true_implies, reduceCtorEq, Bool.not_true, Bool.not_false, wipeE, reduceIte, and_self, Option.some.injEq, exists_eq_left', exists_eq_left, List.getElem?_nil, List.length_map, not_true_eq_false, not_false_eq_true, SZ, Nat.reduceLeDiff, Nat.reduceLT, Int.reduceLT, Int.reduceLE, Int.reduceAdd, Int.reduceSub, Int.reduceMul, Int.reduceNeg, Int.reducePow, Int.reduceToNat, Nat.reducePow, and_true, true_and, Nat.reduceMul, new_get, gN1, gN2, gN3]
  refine for_seq (enc := nI) rfl (fun done ρ m' => m' = m ∧ ∃ x, ρ = [some (.tup (l.map nI)), some (nI (xorN done)), x]) ⟨rfl, _, rfl⟩ ?_ ?_
  · rintro done a rest ρ m' e ⟨rfl, x, rfl⟩
    simp only [ok_ok, ok_ret, ok_bnd, ok_when, ok_opt, ok_getO, ok_putO, ok_newO, ok_dVar, ok_dC, ok_aNil, ok_aCons, ok_dOp, ok_dUn, ok_dTup, ok_lLst, ok_dNew, ok_dIf, ok_dCall, ok_tVal, ok_asB, ok_tTru, ok_truth_bl, ok_truth_int, ok_truth_non, ok_truth_tup, ok_tYes, ok_tAnd, ok_tOr, ok_tNot, ok_dAnd, ok_dOr, ok_uNot, ok_dChain, ok_add_int, ok_add_tup, ok_add_str, ok_add_ref, ok_sub, ok_mul, ok_mul_lst, ok_mulT, ok_div, ok_mod, ok_pow, ok_shl, ok_shr, ok_band, ok_bor, ok_xor, ok_neg, ok_lt, ok_le, ok_gt, ok_ge, ok_asD, ok_eqD, ok_eq_int, ok_eq_str, ok_eq_bl, ok_eq_non, ok_eq_tup, ok_eq_ref, ok_eq_it, ok_eq_in, ok_eq_nt, ok_eq_ni, ok_ne_int, ok_ne_str, ok_ne_bl, ok_ne_non, ok_ne_tup, ok_ne_ref, ok_ne_it, ok_ne_in, ok_ne_nt, ok_ne_ni, ok_isN, ok_notN, ok_ix_tup, ok_ix_scr, ok_ix_ref, ok_pNone, ok_pSome, ok_dSl, ok_sl_tup, ok_sl_ref, ok_dRev, ok_rev_ref, ok_lRev, ok_one, ok_two, ok_abs, ok_bint, ok_bint_bl, ok_max2, ok_min2, ok_len_tup, ok_len_scr, ok_len_str, ok_len_ref, ok_btup_tup, ok_btup_scr, ok_btup_ref, ok_dL, ok_lThen, ok_dV, ok_lV, ok_dR, ok_items_tup, ok_items_scr, ok_items_ref, ok_itemsR_scr, ok_itemsR_ref, ok_lId, ok_nTup, ok_nLen, ok_nSum, ok_nAny, ok_nAll, ok_rg1, ok_asI, ok_rg2, ok_lRg, ok_dTupRg, ok_meth0, ok_meth1, ok_methL, ok_chkL, ok_append, ok_extend, ok_pop, ok_popO, ok_sOf, ok_srcOf_tup, ok_srcOf_scr, ok_srcOf_kt, ok_srcOf_ref, ok_sOfL, ok_sEnum, ok_enumOf_tup, ok_enumOf_ref, ok_sRange1, ok_sRange2, ok_gName, ok_gNil, ok_gCons, ok_gTup, oks_ok, oks_thn, oks_nx, oks_bk, oks_ct, oks_seq, oks_expr, oks_ret, oks_asg, oks_set, oks_par2, oks_par3, oks_if, oks_put, ok_setP, ok_putL, ok_fnOf, ok_dDict, ok_kNil, ok_kCons, ok_aStar, ok_star_tup, ok_star_ref, oks_for, ok_comp, scal_int, scal_str, scal_bl, scal_non, scal_tup, scal_ref, dat_int, dat_str, dat_bl, dat_non, dat_tup, ok_look, ok_store, ok_lookO_int, ok_lookO_str, ok_storeO_int, ok_storeO_str, ok_in, ok_notIn, List.getElem?_cons_zero, List.getElem?_cons_succ, List.set_cons_zero, List.set_cons_succ, List.length_cons, List.length_nil, List.map_cons, List.map_nil, List.replicate_succ, List.replicate_zero, List.cons_append, List.nil_append, Nat.reduceSub, Nat.reduceAdd, Nat.zero_add, true_and, and_true, decide_eq_true_eq, decide_eq_false_iff_not, Bool.not_eq_true', Bool.not_eq_false', forall_const, Bool.false_eq_true, Bool.true_eq_false, false_implies, true_implies, reduceCtorEq, Bool.not_true, Bool.not_false, wipeE, reduceIte, and_self, Option.some.injEq, exists_eq_left', exists_eq_left, List.getElem?_nil, List.length_map, not_true_eq_false, not_false_eq_true, SZ, Nat.reduceLeDiff, Nat.reduceLT, Int.reduceLT, Int.reduceLE, Int.reduceAdd, Int.reduceSub, Int.reduceMul, Int.reduceNeg, Int.reducePow, Int.reduceToNat, Nat.reducePow, and_true, true_and, Nat.reduceMul, new_get, gN1, gN2, gN3, bxN, xorN_snoc]
    exact ⟨_, rfl⟩
  · rintro ρ m' ⟨rfl, x, rfl⟩
    simp only [ok_ok, ok_ret, ok_bnd, ok_when, ok_opt, ok_getO, ok_putO, ok_newO, ok_dVar, ok_dC, ok_aNil, ok_aCons, ok_dOp, ok_dUn, ok_dTup, ok_lLst, ok_dNew, ok_dIf, ok_dCall, ok_tVal, ok_asB, ok_tTru, ok_truth_bl, ok_truth_int, ok_truth_non, ok_truth_tup, ok_tYes, ok_tAnd, ok_tOr, ok_tNot, ok_dAnd, ok_dOr, ok_uNot, ok_dChain, ok_add_int, ok_add_tup, ok_add_str, ok_add_ref, ok_sub, ok_mul, ok_mul_lst, ok_mulT, ok_div, ok_mod, ok_pow, ok_shl, ok_shr, ok_band, ok_bor, ok_xor, ok_neg, ok_lt, ok_le, ok_gt, ok_ge, ok_asD, ok_eqD, ok_eq_int, ok_eq_str, ok_eq_bl, ok_eq_non, ok_eq_tup, ok_eq_ref, ok_eq_it, ok_eq_in, ok_eq_nt, ok_eq_ni, ok_ne_int, ok_ne_str, ok_ne_bl, ok_ne_non, ok_ne_tup, ok_ne_ref, ok_ne_it, ok_ne_in, ok_ne_nt, ok_ne_ni, ok_isN, ok_notN, ok_ix_tup, ok_ix_scr, ok_ix_ref, ok_pNone, ok_pSome, ok_dSl, ok_sl_tup, ok_sl_ref, ok_dRev, ok_rev_ref, ok_lRev, ok_one, ok_two, ok_abs, ok_bint, ok_bint_bl, ok_max2, ok_min2, ok_len_tup, ok_len_scr, ok_len_str, ok_len_ref, ok_btup_tup, ok_btup_scr, ok_btup_ref, ok_dL, ok_lThen, ok_dV, ok_lV, ok_dR, ok_items_tup, ok_items_scr, ok_items_ref, ok_itemsR_scr, ok_itemsR_ref, ok_lId, ok_nTup, ok_nLen, ok_nSum, ok_nAny, ok_nAll, ok_rg1, ok_asI, ok_rg2, ok_lRg, ok_dTupRg, ok_meth0, ok_meth1, ok_methL, ok_chkL, ok_append, ok_extend, ok_pop, ok_popO, ok_sOf, ok_srcOf_tup, ok_srcOf_scr, ok_srcOf_kt, ok_srcOf_ref, ok_sOfL, ok_sEnum, ok_enumOf_tup, ok_enumOf_ref, ok_sRange1, ok_sRange2, ok_gName, ok_gNil, ok_gCons, ok_gTup, oks_ok, oks_thn, oks_nx, oks_bk, oks_ct, oks_seq, oks_expr, oks_ret, oks_asg, oks_set, oks_par2, oks_par3, oks_if, oks_put, ok_setP, ok_putL, ok_fnOf, ok_dDict, ok_kNil, ok_kCons, ok_aStar, ok_star_tup, ok_star_ref, oks_for, ok_comp, scal_int, scal_str, scal_bl, scal_non, scal_tup, scal_ref, dat_int, dat_str, dat_bl, dat_non, dat_tup, ok_look, ok_store, ok_lookO_int, ok_lookO_str, ok_storeO_int, ok_storeO_str, ok_in, ok_notIn, List.getElem?_cons_zero, List.getElem?_cons_succ, List.set_cons_zero, List.set_cons_succ, List.length_cons, List.length_nil, List.map_cons, List.map_nil, List.replicate_succ, List.replicate_zero, List.cons_append, List.nil_append, Nat.reduceSub, Nat.reduceAdd, Nat.zero_add, true_and, and_true, decide_eq_true_eq, decide_eq_false_iff_not, Bool.not_eq_true', Bool.not_eq_false', forall_const, Bool.false_eq_true, Bool.true_eq_false, false_implies, true_implies, reduceCtorEq, Bool.not_true, Bool.not_false, wipeE, reduceIte, and_self, Option.some.injEq, exists_eq_left', exists_eq_left, List.getElem?_nil, List.length_map, not_true_eq_false, not_false_eq_true, SZ, Nat.reduceLeDiff, Nat.reduceLT, Int.reduceLT, Int.reduceLE, Int.reduceAdd, Int.reduceSub, Int.reduceMul, Int.reduceNeg, Int.reducePow, Int.reduceToNat, Nat.reducePow, and_true, true_and, Nat.reduceMul, new_get, gN1, gN2, gN3]
theorem first_ok (l : List Nat) (m : Hm) : Ok (F_first_wins_piles [.tup (l.map nI)] m) fun p m' => p = .bl (decide (xorN l ≠ 0)) ∧ m' = m := by
  unfold F_first_wins_piles D_first_wins_piles
  simp only [ok_ok, ok_ret, ok_bnd, ok_when, ok_opt, ok_getO, ok_putO, ok_newO, ok_dVar, ok_dC, ok_aNil, ok_aCons, ok_dOp, ok_dUn, ok_dTup, ok_lLst, ok_dNew, ok_dIf, ok_dCall, ok_tVal, ok_asB, ok_tTru, ok_truth_bl, ok_truth_int, ok_truth_non, ok_truth_tup, ok_tYes, ok_tAnd, ok_tOr, ok_tNot, ok_dAnd, ok_dOr, ok_uNot, ok_dChain, ok_add_int, ok_add_tup, ok_add_str, ok_add_ref, ok_sub, ok_mul, ok_mul_lst, ok_mulT, ok_div, ok_mod, ok_pow, ok_shl, ok_shr, ok_band, ok_bor, ok_xor, ok_neg, ok_lt, ok_le, ok_gt, ok_ge, ok_asD, ok_eqD, ok_eq_int, ok_eq_str, ok_eq_bl, ok_eq_non, ok_eq_tup, ok_eq_ref, ok_eq_it, ok_eq_in, ok_eq_nt, ok_eq_ni, ok_ne_int, ok_ne_str, ok_ne_bl, ok_ne_non, ok_ne_tup, ok_ne_ref, ok_ne_it, ok_ne_in, ok_ne_nt, ok_ne_ni, ok_isN, ok_notN, ok_ix_tup, ok_ix_scr, ok_ix_ref, ok_pNone, ok_pSome, ok_dSl, ok_sl_tup, ok_sl_ref, ok_dRev, ok_rev_ref, ok_lRev, ok_one, ok_two, ok_abs, ok_bint, ok_bint_bl, ok_max2, ok_min2, ok_len_tup, ok_len_scr, ok_len_str, ok_len_ref, ok_btup_tup, ok_btup_scr, ok_btup_ref, ok_dL, ok_lThen, ok_dV, ok_lV, ok_dR, ok_items_tup, ok_items_scr, ok_items_ref, ok_itemsR_scr, ok_itemsR_ref, ok_lId, ok_nTup, ok_nLen, ok_nSum, ok_nAny, ok_nAll, ok_rg1, ok_asI, ok_rg2, ok_lRg, ok_dTupRg, ok_meth0, ok_meth1, ok_methL, ok_chkL, ok_append, ok_extend, ok_pop, ok_popO, ok_sOf, ok_srcOf_tup, ok_srcOf_scr, ok_srcOf_kt, ok_srcOf_ref, ok_sOfL, ok_sEnum, ok_enumOf_tup, ok_enumOf_ref, ok_sRange1, ok_sRange2, ok_gName, ok_gNil, ok_gCons, ok_gTup, oks_ok, oks_thn, oks_nx, oks_bk, oks_ct, oks_seq, oks_expr, oks_ret, oks_asg, oks_set, oks_par2, oks_par3, oks_if, oks_put, ok_setP, ok_putL, ok_fnOf, ok_dDict, ok_kNil, ok_kCons, ok_aStar, ok_star_tup, ok_star_ref, oks_for, ok_comp, scal_int, scal_str, scal_bl, scal_non, scal_tup, scal_ref, dat_int, dat_str, dat_bl, dat_non, dat_tup, ok_look, ok_store, ok_lookO_int, ok_lookO_str, ok_storeO_int, ok_storeO_str, ok_in, ok_notIn, List.getElem?_cons_zero, List.getElem?_cons_succ, List.set_cons_zero, List.set_cons_succ, List.length_cons, List.length_nil, List.map_cons, List.map_nil, List.replicate_succ, List.replicate_zero, List.cons_append, List.nil_append, Nat.reduceSub, Nat.reduceAdd, Nat.zero_add, true_and, and_true, decide_eq_true_eq, decide_eq_false_iff_not, Bool.not_eq_true', Bool.not_eq_false', forall_const, Bool.false_eq_true, Bool.true_eq_false, false_implies, true_implies, reduceCtorEq, Bool.not_true, Bool.not_false, wipeE, reduceIte, and_self, Option.some.injEq, exists_eq_left', exists_eq_left, List.getElem?_nil, List.length_map, not_true_eq_false, not_false_eq_true, SZ, Nat.reduceLeDiff, Nat.reduceLT, Int.reduceLT, Int.reduceLE, Int.reduceAdd, Int.reduceSub, Int.reduceMul, Int.reduceNeg, Int.reducePow, Int.reduceToNat, Nat.reducePow, and_true, true_and, Nat.reduceMul, new_get, gN1, gN2, gN3]
  refine (sum_ok l m).mono ?_
  rintro p m' ⟨rfl, rfl⟩
  simp only [ok_ok, ok_ret, ok_bnd, ok_when, ok_opt, ok_getO, ok_putO, ok_newO, ok_dVar, ok_dC, ok_aNil, ok_aCons, ok_dOp, ok_dUn, ok_dTup, ok_lLst, ok_dNew, ok_dIf, ok_dCall, ok_tVal, ok_asB, ok_tTru, ok_truth_bl, ok_truth_int, ok_truth_non, ok_truth_tup, ok_tYes, ok_tAnd, ok_tOr, ok_tNot, ok_dAnd, ok_dOr, ok_uNot, ok_dChain, ok_add_int, ok_add_tup, ok_add_str, ok_add_ref, ok_sub, ok_mul, ok_mul_lst, ok_mulT, ok_div, ok_mod, ok_pow, ok_shl, ok_shr, ok_band, ok_bor, ok_xor, ok_neg, ok_lt, ok_le, ok_gt, ok_ge, ok_asD, ok_eqD, ok_eq_int, ok_eq_str, ok_eq_bl, ok_eq_non, ok_eq_tup, ok_eq_ref, ok_eq_it, ok_eq_in, ok_eq_nt, ok_eq_ni, ok_ne_int, ok_ne_str, ok_ne_bl, ok_ne_non, ok_ne_tup, ok_ne_ref, ok_ne_it, ok_ne_in, ok_ne_nt, ok_ne_ni, ok_isN, ok_notN, ok_ix_tup, ok_ix_scr, ok_ix_ref, ok_pNone, ok_pSome, ok_dSl, ok_sl_tup, ok_sl_ref, ok_dRev, ok_rev_ref, ok_lRev, ok_one, ok_two, ok_abs, ok_bint, ok_bint_bl, ok_max2, ok_min2, ok_len_tup, ok_len_scr, ok_len_str, ok_len_ref, ok_btup_tup, ok_btup_scr, ok_btup_ref, ok_dL, ok_lThen, ok_dV, ok_lV, ok_dR, ok_items_tup, ok_items_scr, ok_items_ref, ok_itemsR_scr, ok_itemsR_ref, ok_lId, ok_nTup, ok_nLen, ok_nSum, ok_nAny, ok_nAll, ok_rg1, ok_asI, ok_rg2, ok_lRg, ok_dTupRg, ok_meth0, ok_meth1, ok_methL, ok_chkL, ok_append, ok_extend, ok_pop, ok_popO, ok_sOf, ok_srcOf_tup, ok_srcOf_scr, ok_srcOf_kt, ok_srcOf_ref, ok_sOfL, ok_sEnum, ok_enumOf_tup, ok_enumOf_ref, ok_sRange1, ok_sRange2, ok_gName, ok_gNil, ok_gCons, ok_gTup, oks_ok, oks_thn, oks_nx, oks_bk, oks_ct, oks_seq, oks_expr, oks_ret, oks_asg, oks_set, oks_par2, oks_par3, oks_if, oks_put, ok_setP, ok_putL, ok_fnOf, ok_dDict, ok_kNil, ok_kCons, ok_aStar, ok_star_tup, ok_star_ref, oks_for, ok_comp, scal_int, scal_str, scal_bl, scal_non, scal_tup, scal_ref, dat_int, dat_str, dat_bl, dat_non, dat_tup, ok_look, ok_store, ok_lookO_int, ok_lookO_str, ok_storeO_int, ok_storeO_str, ok_in, ok_notIn, List.getElem?_cons_zero, List.getElem?_cons_succ, List.set_cons_zero, List.set_cons_succ, List.length_cons, List.length_nil, List.map_cons, List.map_nil, List.replicate_succ, List.replicate_zero, List.cons_append, List.nil_append, Nat.reduceSub, Nat.reduceAdd, Nat.zero_add, true_and, and_true, decide_eq_true_eq, decide_eq_false_iff_not, Bool.not_eq_true', Bool.not_eq_false', forall_const, Bool.false_eq_true, Bool.true_eq_false, false_implies, true_implies, reduceCtorEq, Bool.not_true, Bool.not_false, wipeE, reduceIte, and_self, Option.some.injEq, exists_eq_left', exists_eq_left, List.getElem?_nil, List.length_map, not_true_eq_false, not_false_eq_true, SZ, Nat.reduceLeDiff, Nat.reduceLT, Int.reduceLT, Int.reduceLE, Int.reduceAdd, Int.reduceSub, Int.reduceMul, Int.reduceNeg, Int.reducePow, Int.reduceToNat, Nat.reducePow, and_true, true_and, Nat.reduceMul, new_get, gN1, gN2, gN3]
  by_cases h : xorN l = 0 <;> simp [h]
def mvN (w : Nat) : Nat × Nat → Option (Nat × Nat) := fun ip => if ip.2 ^^^ w < ip.2 then some (ip.1, ip.2 ^^^ w) else none
def moveL (w : Nat) (l : List (Nat × Nat)) : List P := (l.filterMap (mvN w)).map pI
def enumN (l : List Nat) : List (Nat × Nat) := (l.zipIdx).map fun p => (p.2, p.1)
theorem numbered_eq (l : List Nat) : ∀ k : Nat, numbered k (l.map nI) = ((l.zipIdx k).map fun p => (p.2, p.1)).map fun ip => P.tup [nI ip.1, nI ip.2] := by
  induction l with
  | nil => intro k; rfl
  | cons a l ih => intro k; rw [List.map_cons, numbered, ih (k + 1)]; rfl
theorem moves_ok (l : List Nat) (hl : l.length ≤ SZ) (m : Hm) : Ok (F_pile_moves_that_win [.tup (l.map nI)] m) fun p m' => p = .tup (moveL (xorN l) (enumN l)) ∧ m' = m := by
  unfold F_pile_moves_that_win D_pile_moves_that_win
  simp only [ok_ok, ok_ret, ok_bnd, ok_when, ok_opt, ok_getO, ok_putO, ok_newO, ok_dVar, ok_dC, ok_aNil, ok_aCons, ok_dOp, ok_dUn, ok_dTup, ok_lLst, ok_dNew, ok_dIf, ok_dCall, ok_tVal, ok_asB, ok_tTru, ok_truth_bl, ok_truth_int, ok_truth_non, ok_truth_tup, ok_tYes, ok_tAnd, ok_tOr, ok_tNot, ok_dAnd, ok_dOr, ok_uNot, ok_dChain, ok_add_int, ok_add_tup, ok_add_str, ok_add_ref, ok_sub, ok_mul, ok_mul_lst, ok_mulT, ok_div, ok_mod, ok_pow, ok_shl, ok_shr, ok_band, ok_bor, ok_xor, ok_neg, ok_lt, ok_le, ok_gt, ok_ge, ok_asD, ok_eqD, ok_eq_int, ok_eq_str, ok_eq_bl, ok_eq_non, ok_eq_tup, ok_eq_ref, ok_eq_it, ok_eq_in, ok_eq_nt, ok_eq_ni, ok_ne_int, ok_ne_str, ok_ne_bl, ok_ne_non, ok_ne_tup, ok_ne_ref, ok_ne_it, ok_ne_in, ok_ne_nt, ok_ne_ni, ok_isN, ok_notN, ok_ix_tup, ok_ix_scr, ok_ix_ref, ok_pNone, ok_pSome, ok_dSl, ok_sl_tup, ok_sl_ref, ok_dRev, ok_rev_ref, ok_lRev, ok_one, ok_two, ok_abs, ok_bint, ok_bint_bl, ok_max2, ok_min2, ok_len_tup, ok_len_scr, ok_len_str, ok_len_ref, ok_btup_tup, ok_btup_scr, ok_btup_ref, ok_dL, ok_lThen, ok_dV, ok_lV, ok_dR, ok_items_tup, ok_items_scr, ok_items_ref, ok_itemsR_scr, ok_itemsR_ref, ok_lId, ok_nTup, ok_nLen, ok_nSum, ok_nAny, ok_nAll, ok_rg1, ok_asI, ok_rg2, ok_lRg, ok_dTupRg, ok_meth0, ok_meth1, ok_methL, ok_chkL, ok_append, ok_extend, ok_pop, ok_popO, ok_sOf, ok_srcOf_tup, ok_srcOf_scr, ok_srcOf_kt, ok_srcOf_ref, ok_sOfL, ok_sEnum, ok_enumOf_tup, ok_enumOf_ref, ok_sRange1, ok_sRange2, ok_gName, ok_gNil, ok_gCons, ok_gTup, oks_ok, oks_thn, oks_nx, oks_bk, oks_ct, oks_seq, oks_expr, oks_ret, oks_asg, oks_set, oks_par2, oks_par3, oks_if, oks_put, ok_setP, ok_putL, ok_fnOf, ok_dDict, ok_kNil, ok_kCons, ok_aStar, ok_star_tup, ok_star_ref, oks_for, ok_comp, scal_int, scal_str, scal_bl, scal_non, scal_tup, scal_ref, dat_int, dat_str, dat_bl, dat_non, dat_tup, ok_look, ok_store, ok_lookO_int, ok_lookO_str, ok_storeO_int, ok_storeO_str, ok_in, ok_notIn, List.getElem?_cons_zero, List.getElem?_cons_succ, List.set_cons_zero, List.set_cons_succ, List.length_cons, List.length_nil, List.map_cons, List.map_nil, List.replicate_succ, List.replicate_zero, List.cons_append, List.nil_append, Nat.reduceSub, Nat.reduceAdd, Nat.zero_add, true_and, and_true, decide_eq_true_eq, decide_eq_false_iff_not, Bool.not_eq_true', Bool.not_eq_false', forall_const, Bool.false_eq_true, Bool.true_eq_false, false_implies, true_implies, reduceCtorEq, Bool.not_true, Bool.not_false, wipeE, reduceIte, and_self, Option.some.injEq, exists_eq_left', exists_eq_left, List.getElem?_nil, List.length_map, not_true_eq_false, not_false_eq_true, SZ, Nat.reduceLeDiff, Nat.reduceLT, Int.reduceLT, Int.reduceLE, Int.reduceAdd, Int.reduceSub, Int.reduceMul, Int.reduceNeg, Int.reducePow, Int.reduceToNat, Nat.reducePow, and_true, true_and, Nat.reduceMul, new_get, gN1, gN2, gN3]
  refine (sum_ok l m).mono ?_
  rintro p m' ⟨rfl, rfl⟩
  refine comp_seq (enc := fun ip : Nat × Nat => P.tup [nI ip.1, nI ip.2]) (as := enumN l) (numbered_eq l 0) (by simpa [enumN] using hl) (fun done acc m1 => m1 = m' ∧ acc = moveL (xorN l) done) ⟨rfl, rfl⟩ ?_ ?_
  · rintro done ⟨i, a⟩ rest acc m1 e _ ⟨rfl, rfl⟩
    simp only [ok_ok, ok_ret, ok_bnd, ok_when, ok_opt, ok_getO, ok_putO, ok_newO, ok_dVar, ok_dC, ok_aNil, ok_aCons, ok_dOp, ok_dUn, ok_dTup, ok_lLst, ok_dNew, ok_dIf, ok_dCall, ok_tVal, ok_asB, ok_tTru, ok_truth_bl, ok_truth_int, ok_truth_non, ok_truth_tup, ok_tYes, ok_tAnd, ok_tOr, ok_tNot, ok_dAnd, ok_dOr, ok_uNot, ok_dChain, ok_add_int, ok_add_tup, ok_add_str, ok_add_ref, ok_sub, ok_mul, ok_mul_lst, ok_mulT, ok_div, ok_mod, ok_pow, ok_shl, ok_shr, ok_band, ok_bor, ok_xor, ok_neg, ok_lt, ok_le, ok_gt, ok_ge, ok_asD, ok_eqD, ok_eq_int, ok_eq_str, ok_eq_bl, ok_eq_non, ok_eq_tup, ok_eq_ref, ok_eq_it, ok_eq_in, ok_eq_nt, ok_eq_ni, ok_ne_int, ok_ne_str, ok_ne_bl, ok_ne_non, ok_ne_tup, ok_ne_ref, ok_ne_it, ok_ne_in, ok_ne_nt, ok_ne_ni, ok_isN, ok_notN, ok_ix_tup, ok_ix_scr, ok_ix_ref, ok_pNone, ok_pSome, ok_dSl, ok_sl_tup, ok_sl_ref, ok_dRev, ok_rev_ref, ok_lRev, ok_one, ok_two, ok_abs, ok_bint, ok_bint_bl, ok_max2, ok_min2, ok_len_tup, ok_len_scr, ok_len_str, ok_len_ref, ok_btup_tup, ok_btup_scr, ok_btup_ref, ok_dL, ok_lThen, ok_dV, ok_lV, ok_dR, ok_items_tup, ok_items_scr, ok_items_ref, ok_itemsR_scr, ok_itemsR_ref, ok_lId, ok_nTup, ok_nLen, ok_nSum, ok_nAny, ok_nAll, ok_rg1, ok_asI, ok_rg2, ok_lRg, ok_dTupRg, ok_meth0, ok_meth1, ok_methL, ok_chkL, ok_append, ok_extend, ok_pop, ok_popO, ok_sOf, ok_srcOf_tup, ok_srcOf_scr, ok_srcOf_kt, ok_srcOf_ref, ok_sOfL, ok_sEnum, ok_enumOf_tup, ok_enumOf_ref, ok_sRange1, ok_sRange2, ok_gName, ok_gNil, ok_gCons, ok_gTup, oks_ok, oks_thn, oks_nx, oks_bk, oks_ct, oks_seq, oks_expr, oks_ret, oks_asg, oks_set, oks_par2, oks_par3, oks_if, oks_put, ok_setP, ok_putL, ok_fnOf, ok_dDict, ok_kNil, ok_kCons, ok_aStar, ok_star_tup, ok_star_ref, oks_for, ok_comp, scal_int, scal_str, scal_bl, scal_non, scal_tup, scal_ref, dat_int, dat_str, dat_bl, dat_non, dat_tup, ok_look, ok_store, ok_lookO_int, ok_lookO_str, ok_storeO_int, ok_storeO_str, ok_in, ok_notIn, List.getElem?_cons_zero, List.getElem?_cons_succ, List.set_cons_zero, List.set_cons_succ, List.length_cons, List.length_nil, List.map_cons, List.map_nil, List.replicate_succ, List.replicate_zero, List.cons_append, List.nil_append, Nat.reduceSub, Nat.reduceAdd, Nat.zero_add, true_and, and_true, decide_eq_true_eq, decide_eq_false_iff_not, Bool.not_eq_true', Bool.not_eq_false', forall_const, Bool.false_eq_true, Bool.true_eq_false, false_implies, true_implies, reduceCtorEq, Bool.not_true, Bool.not_false, wipeE, reduceIte, and_self, Option.some.injEq, exists_eq_left', exists_eq_left, List.getElem?_nil, List.length_map, not_true_eq_false, not_false_eq_true, SZ, Nat.reduceLeDiff, Nat.reduceLT, Int.reduceLT, Int.reduceLE, Int.reduceAdd, Int.reduceSub, Int.reduceMul, Int.reduceNeg, Int.reducePow, Int.reduceToNat, Nat.reducePow, and_true, true_and, Nat.reduceMul, new_get, gN1, gN2, gN3, bxN]
    refine ⟨fun h => ?_, fun h => ?_⟩
    · have h : a ^^^ xorN l < a := by omega
      simp [moveL, mvN, h]
    · have h : ¬ a ^^^ xorN l < a := by omega
      simp [moveL, mvN, h]
  · rintro acc m1 _ ⟨rfl, rfl⟩
    simp only [ok_ok, ok_ret, ok_bnd, ok_when, ok_opt, ok_getO, ok_putO, ok_newO, ok_dVar, ok_dC, ok_aNil, ok_aCons, ok_dOp, ok_dUn, ok_dTup, ok_lLst, ok_dNew, ok_dIf, ok_dCall, ok_tVal, ok_asB, ok_tTru, ok_truth_bl, ok_truth_int, ok_truth_non, ok_truth_tup, ok_tYes, ok_tAnd, ok_tOr, ok_tNot, ok_dAnd, ok_dOr, ok_uNot, ok_dChain, ok_add_int, ok_add_tup, ok_add_str, ok_add_ref, ok_sub, ok_mul, ok_mul_lst, ok_mulT, ok_div, ok_mod, ok_pow, ok_shl, ok_shr, ok_band, ok_bor, ok_xor, ok_neg, ok_lt, ok_le, ok_gt, ok_ge, ok_asD, ok_eqD, ok_eq_int, ok_eq_str, ok_eq_bl, ok_eq_non, ok_eq_tup, ok_eq_ref, ok_eq_it, ok_eq_in, ok_eq_nt, ok_eq_ni, ok_ne_int, ok_ne_str, ok_ne_bl, ok_ne_non, ok_ne_tup, ok_ne_ref, ok_ne_it, ok_ne_in, ok_ne_nt, ok_ne_ni, ok_isN, ok_notN, ok_ix_tup, ok_ix_scr, ok_ix_ref, ok_pNone, ok_pSome, ok_dSl, ok_sl_tup, ok_sl_ref, ok_dRev, ok_rev_ref, ok_lRev, ok_one, ok_two, ok_abs, ok_bint, ok_bint_bl, ok_max2, ok_min2, ok_len_tup, ok_len_scr, ok_len_str, ok_len_ref, ok_btup_tup, ok_btup_scr, ok_btup_ref, ok_dL, ok_lThen, ok_dV, ok_lV, ok_dR, ok_items_tup, ok_items_scr, ok_items_ref, ok_itemsR_scr, ok_itemsR_ref, ok_lId, ok_nTup, ok_nLen, ok_nSum, ok_nAny, ok_nAll, ok_rg1, ok_asI, ok_rg2, ok_lRg, ok_dTupRg, ok_meth0, ok_meth1, ok_methL, ok_chkL, ok_append, ok_extend, ok_pop, ok_popO, ok_sOf, ok_srcOf_tup, ok_srcOf_scr, ok_srcOf_kt, ok_srcOf_ref, ok_sOfL, ok_sEnum, ok_enumOf_tup, ok_enumOf_ref, ok_sRange1, ok_sRange2, ok_gName, ok_gNil, ok_gCons, ok_gTup, oks_ok, oks_thn, oks_nx, oks_bk, oks_ct, oks_seq, oks_expr, oks_ret, oks_asg, oks_set, oks_par2, oks_par3, oks_if, oks_put, ok_setP, ok_putL, ok_fnOf, ok_dDict, ok_kNil, ok_kCons, ok_aStar, ok_star_tup, ok_star_ref, oks_for, ok_comp, scal_int, scal_str, scal_bl, scal_non, scal_tup, scal_ref, dat_int, dat_str, dat_bl, dat_non, dat_tup, ok_look, ok_store, ok_lookO_int, ok_lookO_str, ok_storeO_int, ok_storeO_str, ok_in, ok_notIn, List.getElem?_cons_zero, List.getElem?_cons_succ, List.set_cons_zero, List.set_cons_succ, List.length_cons, List.length_nil, List.map_cons, List.map_nil, List.replicate_succ, List.replicate_zero, List.cons_append, List.nil_append, Nat.reduceSub, Nat.reduceAdd, Nat.zero_add, true_and, and_true, decide_eq_true_eq, decide_eq_false_iff_not, Bool.not_eq_true', Bool.not_eq_false', forall_const, Bool.false_eq_true, Bool.true_eq_false, false_implies, true_implies, reduceCtorEq, Bool.not_true, Bool.not_false, wipeE, reduceIte, and_self, Option.some.injEq, exists_eq_left', exists_eq_left, List.getElem?_nil, List.length_map, not_true_eq_false, not_false_eq_true, SZ, Nat.reduceLeDiff, Nat.reduceLT, Int.reduceLT, Int.reduceLE, Int.reduceAdd, Int.reduceSub, Int.reduceMul, Int.reduceNeg, Int.reducePow, Int.reduceToNat, Nat.reducePow, and_true, true_and, Nat.reduceMul, new_get, gN1, gN2, gN3]
theorem xor_ok (l : List Nat) (hb : ∀ a ∈ l, a < 2 ^ 40) (hl : l.length ≤ 100) (m : Hm) : Ok (F__law_xor [.tup (l.map nI)] m) fun p m' => p = nI (xorN l) ∧ Fr [] m m' := by
  unfold F__law_xor D__law_xor
  simp only [ok_ok, ok_ret, ok_bnd, ok_when, ok_opt, ok_getO, ok_putO, ok_newO, ok_dVar, ok_dC, ok_aNil, ok_aCons, ok_dOp, ok_dUn, ok_dTup, ok_lLst, ok_dNew, ok_dIf, ok_dCall, ok_tVal, ok_asB, ok_tTru, ok_truth_bl, ok_truth_int, ok_truth_non, ok_truth_tup, ok_tYes, ok_tAnd, ok_tOr, ok_tNot, ok_dAnd, ok_dOr, ok_uNot, ok_dChain, ok_add_int, ok_add_tup, ok_add_str, ok_add_ref, ok_sub, ok_mul, ok_mul_lst, ok_mulT, ok_div, ok_mod, ok_pow, ok_shl, ok_shr, ok_band, ok_bor, ok_xor, ok_neg, ok_lt, ok_le, ok_gt, ok_ge, ok_asD, ok_eqD, ok_eq_int, ok_eq_str, ok_eq_bl, ok_eq_non, ok_eq_tup, ok_eq_ref, ok_eq_it, ok_eq_in, ok_eq_nt, ok_eq_ni, ok_ne_int, ok_ne_str, ok_ne_bl, ok_ne_non, ok_ne_tup, ok_ne_ref, ok_ne_it, ok_ne_in, ok_ne_nt, ok_ne_ni, ok_isN, ok_notN, ok_ix_tup, ok_ix_scr, ok_ix_ref, ok_pNone, ok_pSome, ok_dSl, ok_sl_tup, ok_sl_ref, ok_dRev, ok_rev_ref, ok_lRev, ok_one, ok_two, ok_abs, ok_bint, ok_bint_bl, ok_max2, ok_min2, ok_len_tup, ok_len_scr, ok_len_str, ok_len_ref, ok_btup_tup, ok_btup_scr, ok_btup_ref, ok_dL, ok_lThen, ok_dV, ok_lV, ok_dR, ok_items_tup, ok_items_scr, ok_items_ref, ok_itemsR_scr, ok_itemsR_ref, ok_lId, ok_nTup, ok_nLen, ok_nSum, ok_nAny, ok_nAll, ok_rg1, ok_asI, ok_rg2, ok_lRg, ok_dTupRg, ok_meth0, ok_meth1, ok_methL, ok_chkL, ok_append, ok_extend, ok_pop, ok_popO, ok_sOf, ok_srcOf_tup, ok_srcOf_scr, ok_srcOf_kt, ok_srcOf_ref, ok_sOfL, ok_sEnum, ok_enumOf_tup, ok_enumOf_ref, ok_sRange1, ok_sRange2, ok_gName, ok_gNil, ok_gCons, ok_gTup, oks_ok, oks_thn, oks_nx, oks_bk, oks_ct, oks_seq, oks_expr, oks_ret, oks_asg, oks_set, oks_par2, oks_par3, oks_if, oks_put, ok_setP, ok_putL, ok_fnOf, ok_dDict, ok_kNil, ok_kCons, ok_aStar, ok_star_tup, ok_star_ref, oks_for, ok_comp, scal_int, scal_str, scal_bl, scal_non, scal_tup, scal_ref, dat_int, dat_str, dat_bl, dat_non, dat_tup, ok_look, ok_store, ok_lookO_int, ok_lookO_str, ok_storeO_int, ok_storeO_str, ok_in, ok_notIn, List.getElem?_cons_zero, List.getElem?_cons_succ, List.set_cons_zero, List.set_cons_succ, List.length_cons, List.length_nil, List.map_cons, List.map_nil, List.replicate_succ, List.replicate_zero, List.cons_append, List.nil_append, Nat.reduceSub, Nat.reduceAdd, Nat.zero_add, true_and, and_true, decide_eq_true_eq, decide_eq_false_iff_not, Bool.not_eq_true', Bool.not_eq_false', forall_const, Bool.false_eq_true, Bool.true_eq_false, false_implies, true_implies, reduceCtorEq, Bool.not_true, Bool.not_false, wipeE, reduceIte, and_self, Option.some.injEq, exists_eq_left', exists_eq_left, List.getElem?_nil, List.length_map, not_true_eq_false, not_false_eq_true, SZ, Nat.reduceLeDiff, Nat.reduceLT, Int.reduceLT, Int.reduceLE, Int.reduceAdd, Int.reduceSub, Int.reduceMul, Int.reduceNeg, Int.reducePow, Int.reduceToNat, Nat.reducePow, and_true, true_and, Nat.reduceMul, new_get, gN1, gN2, gN3]
  refine (while_inv (QF := fun f ρ m' => f = .nx ∧ Fr [] m m' ∧ ∃ x y, ρ = [some (.tup (l.map nI)), some (nI (xorN l)), x, y]) (fun k ρ m' => Fr [] m m' ∧ ∃ j y, k + j = 41 ∧ ρ = [some (.tup (l.map nI)), some (nI (xorN l % 2 ^ j)), some (nI (2 ^ j)), y]) ?_ FU 41 _ _ (by decide) ?_).mono ?_
  · rintro k ρ m' ⟨fr, j, y, hk, rfl⟩
    simp only [ok_ok, ok_ret, ok_bnd, ok_when, ok_opt, ok_getO, ok_putO, ok_newO, ok_dVar, ok_dC, ok_aNil, ok_aCons, ok_dOp, ok_dUn, ok_dTup, ok_lLst, ok_dNew, ok_dIf, ok_dCall, ok_tVal, ok_asB, ok_tTru, ok_truth_bl, ok_truth_int, ok_truth_non, ok_truth_tup, ok_tYes, ok_tAnd, ok_tOr, ok_tNot, ok_dAnd, ok_dOr, ok_uNot, ok_dChain, ok_add_int, ok_add_tup, ok_add_str, ok_add_ref, ok_sub, ok_mul, ok_mul_lst, ok_mulT, ok_div, ok_mod, ok_pow, ok_shl, ok_shr, ok_band, ok_bor, ok_xor, ok_neg, ok_lt, ok_le, ok_gt, ok_ge, ok_asD, ok_eqD, ok_eq_int, ok_eq_str, ok_eq_bl, ok_eq_non, ok_eq_tup, ok_eq_ref, ok_eq_it, ok_eq_in, ok_eq_nt, ok_eq_ni, ok_ne_int, ok_ne_str, ok_ne_bl, ok_ne_non, ok_ne_tup, ok_ne_ref, ok_ne_it, ok_ne_in, ok_ne_nt, ok_ne_ni, ok_isN, ok_notN, ok_ix_tup, ok_ix_scr, ok_ix_ref, ok_pNone, ok_pSome, ok_dSl, ok_sl_tup, ok_sl_ref, ok_dRev, ok_rev_ref, ok_lRev, ok_one, ok_two, ok_abs, ok_bint, ok_bint_bl, ok_max2, ok_min2, ok_len_tup, ok_len_scr, ok_len_str, ok_len_ref, ok_btup_tup, ok_btup_scr, ok_btup_ref, ok_dL, ok_lThen, ok_dV, ok_lV, ok_dR, ok_items_tup, ok_items_scr, ok_items_ref, ok_itemsR_scr, ok_itemsR_ref, ok_lId, ok_nTup, ok_nLen, ok_nSum, ok_nAny, ok_nAll, ok_rg1, ok_asI, ok_rg2, ok_lRg, ok_dTupRg, ok_meth0, ok_meth1, ok_methL, ok_chkL, ok_append, ok_extend, ok_pop, ok_popO, ok_sOf, ok_srcOf_tup, ok_srcOf_scr, ok_srcOf_kt, ok_srcOf_ref, ok_sOfL, ok_sEnum, ok_enumOf_tup, ok_enumOf_ref, ok_sRange1, ok_sRange2, ok_gName, ok_gNil, ok_gCons, ok_gTup, oks_ok, oks_thn, oks_nx, oks_bk, oks_ct, oks_seq, oks_expr, oks_ret, oks_asg, oks_set, oks_par2, oks_par3, oks_if, oks_put, ok_setP, ok_putL, ok_fnOf, ok_dDict, ok_kNil, ok_kCons, ok_aStar, ok_star_tup, ok_star_ref, oks_for, ok_comp, scal_int, scal_str, scal_bl, scal_non, scal_tup, scal_ref, dat_int, dat_str, dat_bl, dat_non, dat_tup, ok_look, ok_store, ok_lookO_int, ok_lookO_str, ok_storeO_int, ok_storeO_str, ok_in, ok_notIn, List.getElem?_cons_zero, List.getElem?_cons_succ, List.set_cons_zero, List.set_cons_succ, List.length_cons, List.length_nil, List.map_cons, List.map_nil, List.replicate_succ, List.replicate_zero, List.cons_append, List.nil_append, Nat.reduceSub, Nat.reduceAdd, Nat.zero_add, true_and, and_true, decide_eq_true_eq, decide_eq_false_iff_not, Bool.not_eq_true', Bool.not_eq_false', forall_const, Bool.false_eq_true, Bool.true_eq_false, false_implies, true_implies, reduceCtorEq, Bool.not_true, Bool.not_false, wipeE, reduceIte, and_self, Option.some.injEq, exists_eq_left', exists_eq_left, List.getElem?_nil, List.length_map, not_true_eq_false, not_false_eq_true, SZ, Nat.reduceLeDiff, Nat.reduceLT, Int.reduceLT, Int.reduceLE, Int.reduceAdd, Int.reduceSub, Int.reduceMul, Int.reduceNeg, Int.reducePow, Int.reduceToNat, Nat.reducePow, and_true, true_and, Nat.reduceMul, new_get, gN1, gN2, gN3, ok_nMaxN0]
    have hm : maxN l < 2 ^ 40 := maxN_lt hb (by decide)
    have hfr : Fr [] m (m' ++ [O.lst (List.map nI l)] ++ [O.lst [P.int 0]] ++ [O.lst (List.map nI l ++ [P.int 0])]) := ((fr.trans (Fr.new _ _ _)).trans (Fr.new _ _ _)).trans (Fr.new _ _ _)
    refine ⟨by omega, fun hle => ?_, fun hgt => ⟨hfr, some (nI (2 ^ j)), y, ?_⟩⟩
    · have hle : 2 ^ j ≤ maxN l := by omega
      have hj : j < 40 := (Nat.pow_lt_pow_iff_right (by decide)).mp (Nat.lt_of_le_of_lt hle hm)
      have hp : (2 : Nat) ^ j < 2 ^ 40 := Nat.pow_lt_pow_right (by decide) hj
      have hp0 : 0 < (2 : Nat) ^ j := Nat.two_pow_pos j
      refine comp_seq (enc := nI) rfl (by show l.length ≤ 16777216; omega) (fun done acc m1 => Fr [] m m1 ∧ acc = (done.filter fun a => a.testBit j).map fun _ => P.int 1) ⟨hfr, rfl⟩ ?_ ?_
      · rintro done a rest acc m1 e _ ⟨fr1, rfl⟩
        simp only [ok_ok, ok_ret, ok_bnd, ok_when, ok_opt, ok_getO, ok_putO, ok_newO, ok_dVar, ok_dC, ok_aNil, ok_aCons, ok_dOp, ok_dUn, ok_dTup, ok_lLst, ok_dNew, ok_dIf, ok_dCall, ok_tVal, ok_asB, ok_tTru, ok_truth_bl, ok_truth_int, ok_truth_non, ok_truth_tup, ok_tYes, ok_tAnd, ok_tOr, ok_tNot, ok_dAnd, ok_dOr, ok_uNot, ok_dChain, ok_add_int, ok_add_tup, ok_add_str, ok_add_ref, ok_sub, ok_mul, ok_mul_lst, ok_mulT, ok_div, ok_mod, ok_pow, ok_shl, ok_shr, ok_band, ok_bor, ok_xor, ok_neg, ok_lt, ok_le, ok_gt, ok_ge, ok_asD, ok_eqD, ok_eq_int, ok_eq_str, ok_eq_bl, ok_eq_non, ok_eq_tup, ok_eq_ref, ok_eq_it, ok_eq_in, ok_eq_nt, ok_eq_ni, ok_ne_int, ok_ne_str, ok_ne_bl, ok_ne_non, ok_ne_tup, ok_ne_ref, ok_ne_it, ok_ne_in, ok_ne_nt, ok_ne_ni, ok_isN, ok_notN, ok_ix_tup, ok_ix_scr, ok_ix_ref, ok_pNone, ok_pSome, ok_dSl, ok_sl_tup, ok_sl_ref, ok_dRev, ok_rev_ref, ok_lRev, ok_one, ok_two, ok_abs, ok_bint, ok_bint_bl, ok_max2, ok_min2, ok_len_tup, ok_len_scr, ok_len_str, ok_len_ref, ok_btup_tup, ok_btup_scr, ok_btup_ref, ok_dL, ok_lThen, ok_dV, ok_lV, ok_dR, ok_items_tup, ok_items_scr, ok_items_ref, ok_itemsR_scr, ok_itemsR_ref, ok_lId, ok_nTup, ok_nLen, ok_nSum, ok_nAny, ok_nAll, ok_rg1, ok_asI, ok_rg2, ok_lRg, ok_dTupRg, ok_meth0, ok_meth1, ok_methL, ok_chkL, ok_append, ok_extend, ok_pop, ok_popO, ok_sOf, ok_srcOf_tup, ok_srcOf_scr, ok_srcOf_kt, ok_srcOf_ref, ok_sOfL, ok_sEnum, ok_enumOf_tup, ok_enumOf_ref, ok_sRange1, ok_sRange2, ok_gName, ok_gNil, ok_gCons, ok_gTup, oks_ok, oks_thn, oks_nx, oks_bk, oks_ct, oks_seq, oks_expr, oks_ret, oks_asg, oks_set, oks_par2, oks_par3, oks_if, oks_put, ok_setP, ok_putL, ok_fnOf, ok_dDict, ok_kNil, ok_kCons, ok_aStar, ok_star_tup, ok_star_ref, oks_for, ok_comp, scal_int, scal_str, scal_bl, scal_non, scal_tup, scal_ref, dat_int, dat_str, dat_bl, dat_non, dat_tup, ok_look, ok_store, ok_lookO_int, ok_lookO_str, ok_storeO_int, ok_storeO_str, ok_in, ok_notIn, List.getElem?_cons_zero, List.getElem?_cons_succ, List.set_cons_zero, List.set_cons_succ, List.length_cons, List.length_nil, List.map_cons, List.map_nil, List.replicate_succ, List.replicate_zero, List.cons_append, List.nil_append, Nat.reduceSub, Nat.reduceAdd, Nat.zero_add, true_and, and_true, decide_eq_true_eq, decide_eq_false_iff_not, Bool.not_eq_true', Bool.not_eq_false', forall_const, Bool.false_eq_true, Bool.true_eq_false, false_implies, true_implies, reduceCtorEq, Bool.not_true, Bool.not_false, wipeE, reduceIte, and_self, Option.some.injEq, exists_eq_left', exists_eq_left, List.getElem?_nil, List.length_map, not_true_eq_false, not_false_eq_true, SZ, Nat.reduceLeDiff, Nat.reduceLT, Int.reduceLT, Int.reduceLE, Int.reduceAdd, Int.reduceSub, Int.reduceMul, Int.reduceNeg, Int.reducePow, Int.reduceToNat, Nat.reducePow, and_true, true_and, Nat.reduceMul, new_get, gN1, gN2, gN3]
        have hb : ((a : Int) / ((2 ^ j : Nat) : Int) % 2 = 1) ↔ a.testBit j = true := by
          rw [Nat.testBit_eq_decide_div_mod_eq, decide_eq_true_eq]
          omega
        refine ⟨⟨by omega, by omega⟩, fun h => ⟨fr1, ?_⟩, fun h => ⟨fr1, ?_⟩⟩
        · rw [List.filter_append, List.map_append]
          simp [hb.mp h]
        · rw [List.filter_append, List.map_append]
          simp [show a.testBit j = false from by simpa using fun z => h (hb.mpr z)]
      · rintro acc m1 _ ⟨fr1, rfl⟩
        refine ⟨cMul_left (by omega), cMul_left (by decide), k - 1, by omega, fr1, j + 1, y, by omega, ?_⟩
        rw [List.length_map, mod_two_succ, bit_xorN, Nat.pow_succ]
        have e1 : (((l.filter fun a => a.testBit j).length : Nat) : Int) % 2 = (((decide ((l.filter fun a => a.testBit j).length % 2 = 1)).toNat : Nat) : Int) := by
          by_cases h : (l.filter fun a => a.testBit j).length % 2 = 1
          · rw [decide_eq_true h]; show _ = (1 : Int); omega
          · rw [decide_eq_false h]; show _ = (0 : Int); omega
        rw [e1]
        simp only [nI, Int.natCast_add, Int.natCast_mul, Int.mul_comm]
        rfl
    · have : xorN l < 2 ^ j := xorN_lt fun a ha => by have := le_maxN ha; omega
      rw [Nat.mod_eq_of_lt this]
  · exact ⟨Fr.refl _ _, 0, none, rfl, by simp [Nat.mod_one]⟩
  · rintro f ρ m' ⟨rfl, fr, x, y, rfl⟩
    simp only [ok_ok, ok_ret, ok_bnd, ok_when, ok_opt, ok_getO, ok_putO, ok_newO, ok_dVar, ok_dC, ok_aNil, ok_aCons, ok_dOp, ok_dUn, ok_dTup, ok_lLst, ok_dNew, ok_dIf, ok_dCall, ok_tVal, ok_asB, ok_tTru, ok_truth_bl, ok_truth_int, ok_truth_non, ok_truth_tup, ok_tYes, ok_tAnd, ok_tOr, ok_tNot, ok_dAnd, ok_dOr, ok_uNot, ok_dChain, ok_add_int, ok_add_tup, ok_add_str, ok_add_ref, ok_sub, ok_mul, ok_mul_lst, ok_mulT, ok_div, ok_mod, ok_pow, ok_shl, ok_shr, ok_band, ok_bor, ok_xor, ok_neg, ok_lt, ok_le, ok_gt, ok_ge, ok_asD, ok_eqD, ok_eq_int, ok_eq_str, ok_eq_bl, ok_eq_non, ok_eq_tup, ok_eq_ref, ok_eq_it, ok_eq_in, ok_eq_nt, ok_eq_ni, ok_ne_int, ok_ne_str, ok_ne_bl, ok_ne_non, ok_ne_tup, ok_ne_ref, ok_ne_it, ok_ne_in, ok_ne_nt, ok_ne_ni, ok_isN, ok_notN, ok_ix_tup, ok_ix_scr, ok_ix_ref, ok_pNone, ok_pSome, ok_dSl, ok_sl_tup, ok_sl_ref, ok_dRev, ok_rev_ref, ok_lRev, ok_one, ok_two, ok_abs, ok_bint, ok_bint_bl, ok_max2, ok_min2, ok_len_tup, ok_len_scr, ok_len_str, ok_len_ref, ok_btup_tup, ok_btup_scr, ok_btup_ref, ok_dL, ok_lThen, ok_dV, ok_lV, ok_dR, ok_items_tup, ok_items_scr, ok_items_ref, ok_itemsR_scr, ok_itemsR_ref, ok_lId, ok_nTup, ok_nLen, ok_nSum, ok_nAny, ok_nAll, ok_rg1, ok_asI, ok_rg2, ok_lRg, ok_dTupRg, ok_meth0, ok_meth1, ok_methL, ok_chkL, ok_append, ok_extend, ok_pop, ok_popO, ok_sOf, ok_srcOf_tup, ok_srcOf_scr, ok_srcOf_kt, ok_srcOf_ref, ok_sOfL, ok_sEnum, ok_enumOf_tup, ok_enumOf_ref, ok_sRange1, ok_sRange2, ok_gName, ok_gNil, ok_gCons, ok_gTup, oks_ok, oks_thn, oks_nx, oks_bk, oks_ct, oks_seq, oks_expr, oks_ret, oks_asg, oks_set, oks_par2, oks_par3, oks_if, oks_put, ok_setP, ok_putL, ok_fnOf, ok_dDict, ok_kNil, ok_kCons, ok_aStar, ok_star_tup, ok_star_ref, oks_for, ok_comp, scal_int, scal_str, scal_bl, scal_non, scal_tup, scal_ref, dat_int, dat_str, dat_bl, dat_non, dat_tup, ok_look, ok_store, ok_lookO_int, ok_lookO_str, ok_storeO_int, ok_storeO_str, ok_in, ok_notIn, List.getElem?_cons_zero, List.getElem?_cons_succ, List.set_cons_zero, List.set_cons_succ, List.length_cons, List.length_nil, List.map_cons, List.map_nil, List.replicate_succ, List.replicate_zero, List.cons_append, List.nil_append, Nat.reduceSub, Nat.reduceAdd, Nat.zero_add, true_and, and_true, decide_eq_true_eq, decide_eq_false_iff_not, Bool.not_eq_true', Bool.not_eq_false', forall_const, Bool.false_eq_true, Bool.true_eq_false, false_implies, true_implies, reduceCtorEq, Bool.not_true, Bool.not_false, wipeE, reduceIte, and_self, Option.some.injEq, exists_eq_left', exists_eq_left, List.getElem?_nil, List.length_map, not_true_eq_false, not_false_eq_true, SZ, Nat.reduceLeDiff, Nat.reduceLT, Int.reduceLT, Int.reduceLE, Int.reduceAdd, Int.reduceSub, Int.reduceMul, Int.reduceNeg, Int.reducePow, Int.reduceToNat, Nat.reducePow, and_true, true_and, Nat.reduceMul, new_get, gN1, gN2, gN3]
    exact fr
theorem mex_ok (l : List Nat) (B : Nat) (hB : B ≤ 1000) (h : ∀ a ∈ l, a < B) (m : Hm) : Ok (F_least_missing [.tup (l.map nI)] m) fun p m' => (∃ x : Nat, p = nI x ∧ x ≤ B) ∧ m' = m := by
  unfold F_least_missing D_least_missing
  simp only [ok_ok, ok_ret, ok_bnd, ok_when, ok_opt, ok_getO, ok_putO, ok_newO, ok_dVar, ok_dC, ok_aNil, ok_aCons, ok_dOp, ok_dUn, ok_dTup, ok_lLst, ok_dNew, ok_dIf, ok_dCall, ok_tVal, ok_asB, ok_tTru, ok_truth_bl, ok_truth_int, ok_truth_non, ok_truth_tup, ok_tYes, ok_tAnd, ok_tOr, ok_tNot, ok_dAnd, ok_dOr, ok_uNot, ok_dChain, ok_add_int, ok_add_tup, ok_add_str, ok_add_ref, ok_sub, ok_mul, ok_mul_lst, ok_mulT, ok_div, ok_mod, ok_pow, ok_shl, ok_shr, ok_band, ok_bor, ok_xor, ok_neg, ok_lt, ok_le, ok_gt, ok_ge, ok_asD, ok_eqD, ok_eq_int, ok_eq_str, ok_eq_bl, ok_eq_non, ok_eq_tup, ok_eq_ref, ok_eq_it, ok_eq_in, ok_eq_nt, ok_eq_ni, ok_ne_int, ok_ne_str, ok_ne_bl, ok_ne_non, ok_ne_tup, ok_ne_ref, ok_ne_it, ok_ne_in, ok_ne_nt, ok_ne_ni, ok_isN, ok_notN, ok_ix_tup, ok_ix_scr, ok_ix_ref, ok_pNone, ok_pSome, ok_dSl, ok_sl_tup, ok_sl_ref, ok_dRev, ok_rev_ref, ok_lRev, ok_one, ok_two, ok_abs, ok_bint, ok_bint_bl, ok_max2, ok_min2, ok_len_tup, ok_len_scr, ok_len_str, ok_len_ref, ok_btup_tup, ok_btup_scr, ok_btup_ref, ok_dL, ok_lThen, ok_dV, ok_lV, ok_dR, ok_items_tup, ok_items_scr, ok_items_ref, ok_itemsR_scr, ok_itemsR_ref, ok_lId, ok_nTup, ok_nLen, ok_nSum, ok_nAny, ok_nAll, ok_rg1, ok_asI, ok_rg2, ok_lRg, ok_dTupRg, ok_meth0, ok_meth1, ok_methL, ok_chkL, ok_append, ok_extend, ok_pop, ok_popO, ok_sOf, ok_srcOf_tup, ok_srcOf_scr, ok_srcOf_kt, ok_srcOf_ref, ok_sOfL, ok_sEnum, ok_enumOf_tup, ok_enumOf_ref, ok_sRange1, ok_sRange2, ok_gName, ok_gNil, ok_gCons, ok_gTup, oks_ok, oks_thn, oks_nx, oks_bk, oks_ct, oks_seq, oks_expr, oks_ret, oks_asg, oks_set, oks_par2, oks_par3, oks_if, oks_put, ok_setP, ok_putL, ok_fnOf, ok_dDict, ok_kNil, ok_kCons, ok_aStar, ok_star_tup, ok_star_ref, oks_for, ok_comp, scal_int, scal_str, scal_bl, scal_non, scal_tup, scal_ref, dat_int, dat_str, dat_bl, dat_non, dat_tup, ok_look, ok_store, ok_lookO_int, ok_lookO_str, ok_storeO_int, ok_storeO_str, ok_in, ok_notIn, List.getElem?_cons_zero, List.getElem?_cons_succ, List.set_cons_zero, List.set_cons_succ, List.length_cons, List.length_nil, List.map_cons, List.map_nil, List.replicate_succ, List.replicate_zero, List.cons_append, List.nil_append, Nat.reduceSub, Nat.reduceAdd, Nat.zero_add, true_and, and_true, decide_eq_true_eq, decide_eq_false_iff_not, Bool.not_eq_true', Bool.not_eq_false', forall_const, Bool.false_eq_true, Bool.true_eq_false, false_implies, true_implies, reduceCtorEq, Bool.not_true, Bool.not_false, wipeE, reduceIte, and_self, Option.some.injEq, exists_eq_left', exists_eq_left, List.getElem?_nil, List.length_map, not_true_eq_false, not_false_eq_true, SZ, Nat.reduceLeDiff, Nat.reduceLT, Int.reduceLT, Int.reduceLE, Int.reduceAdd, Int.reduceSub, Int.reduceMul, Int.reduceNeg, Int.reducePow, Int.reduceToNat, Nat.reducePow, and_true, true_and, Nat.reduceMul, new_get, gN1, gN2, gN3]
  refine (while_inv (QF := fun f ρ m' => f = .nx ∧ m' = m ∧ ∃ x : Nat, x ≤ B ∧ ρ = [some (.tup (l.map nI)), some (nI x)]) (fun k ρ m' => m' = m ∧ ∃ x : Nat, k + x = B ∧ ρ = [some (.tup (l.map nI)), some (nI x)]) ?_ FU B _ _ (Nat.lt_of_le_of_lt hB (by decide)) ?_).mono ?_
  · rintro k ρ m' ⟨rfl, x, hk, rfl⟩
    simp only [ok_ok, ok_ret, ok_bnd, ok_when, ok_opt, ok_getO, ok_putO, ok_newO, ok_dVar, ok_dC, ok_aNil, ok_aCons, ok_dOp, ok_dUn, ok_dTup, ok_lLst, ok_dNew, ok_dIf, ok_dCall, ok_tVal, ok_asB, ok_tTru, ok_truth_bl, ok_truth_int, ok_truth_non, ok_truth_tup, ok_tYes, ok_tAnd, ok_tOr, ok_tNot, ok_dAnd, ok_dOr, ok_uNot, ok_dChain, ok_add_int, ok_add_tup, ok_add_str, ok_add_ref, ok_sub, ok_mul, ok_mul_lst, ok_mulT, ok_div, ok_mod, ok_pow, ok_shl, ok_shr, ok_band, ok_bor, ok_xor, ok_neg, ok_lt, ok_le, ok_gt, ok_ge, ok_asD, ok_eqD, ok_eq_int, ok_eq_str, ok_eq_bl, ok_eq_non, ok_eq_tup, ok_eq_ref, ok_eq_it, ok_eq_in, ok_eq_nt, ok_eq_ni, ok_ne_int, ok_ne_str, ok_ne_bl, ok_ne_non, ok_ne_tup, ok_ne_ref, ok_ne_it, ok_ne_in, ok_ne_nt, ok_ne_ni, ok_isN, ok_notN, ok_ix_tup, ok_ix_scr, ok_ix_ref, ok_pNone, ok_pSome, ok_dSl, ok_sl_tup, ok_sl_ref, ok_dRev, ok_rev_ref, ok_lRev, ok_one, ok_two, ok_abs, ok_bint, ok_bint_bl, ok_max2, ok_min2, ok_len_tup, ok_len_scr, ok_len_str, ok_len_ref, ok_btup_tup, ok_btup_scr, ok_btup_ref, ok_dL, ok_lThen, ok_dV, ok_lV, ok_dR, ok_items_tup, ok_items_scr, ok_items_ref, ok_itemsR_scr, ok_itemsR_ref, ok_lId, ok_nTup, ok_nLen, ok_nSum, ok_nAny, ok_nAll, ok_rg1, ok_asI, ok_rg2, ok_lRg, ok_dTupRg, ok_meth0, ok_meth1, ok_methL, ok_chkL, ok_append, ok_extend, ok_pop, ok_popO, ok_sOf, ok_srcOf_tup, ok_srcOf_scr, ok_srcOf_kt, ok_srcOf_ref, ok_sOfL, ok_sEnum, ok_enumOf_tup, ok_enumOf_ref, ok_sRange1, ok_sRange2, ok_gName, ok_gNil, ok_gCons, ok_gTup, oks_ok, oks_thn, oks_nx, oks_bk, oks_ct, oks_seq, oks_expr, oks_ret, oks_asg, oks_set, oks_par2, oks_par3, oks_if, oks_put, ok_setP, ok_putL, ok_fnOf, ok_dDict, ok_kNil, ok_kCons, ok_aStar, ok_star_tup, ok_star_ref, oks_for, ok_comp, scal_int, scal_str, scal_bl, scal_non, scal_tup, scal_ref, dat_int, dat_str, dat_bl, dat_non, dat_tup, ok_look, ok_store, ok_lookO_int, ok_lookO_str, ok_storeO_int, ok_storeO_str, ok_in, ok_notIn, List.getElem?_cons_zero, List.getElem?_cons_succ, List.set_cons_zero, List.set_cons_succ, List.length_cons, List.length_nil, List.map_cons, List.map_nil, List.replicate_succ, List.replicate_zero, List.cons_append, List.nil_append, Nat.reduceSub, Nat.reduceAdd, Nat.zero_add, true_and, and_true, decide_eq_true_eq, decide_eq_false_iff_not, Bool.not_eq_true', Bool.not_eq_false', forall_const, Bool.false_eq_true, Bool.true_eq_false, false_implies, true_implies, reduceCtorEq, Bool.not_true, Bool.not_false, wipeE, reduceIte, and_self, Option.some.injEq, exists_eq_left', exists_eq_left, List.getElem?_nil, List.length_map, not_true_eq_false, not_false_eq_true, SZ, Nat.reduceLeDiff, Nat.reduceLT, Int.reduceLT, Int.reduceLE, Int.reduceAdd, Int.reduceSub, Int.reduceMul, Int.reduceNeg, Int.reducePow, Int.reduceToNat, Nat.reducePow, and_true, true_and, Nat.reduceMul, new_get, gN1, gN2, gN3, ok_inT_N]
    refine ⟨fun hx => ?_, fun hx => ⟨x, by omega, rfl⟩⟩
    have := h x hx
    exact ⟨k - 1, by omega, x + 1, by omega, rfl⟩
  · exact ⟨rfl, 0, rfl, rfl⟩
  · rintro f ρ m' ⟨rfl, rfl, x, hx, rfl⟩
    simp only [ok_ok, ok_ret, ok_bnd, ok_when, ok_opt, ok_getO, ok_putO, ok_newO, ok_dVar, ok_dC, ok_aNil, ok_aCons, ok_dOp, ok_dUn, ok_dTup, ok_lLst, ok_dNew, ok_dIf, ok_dCall, ok_tVal, ok_asB, ok_tTru, ok_truth_bl, ok_truth_int, ok_truth_non, ok_truth_tup, ok_tYes, ok_tAnd, ok_tOr, ok_tNot, ok_dAnd, ok_dOr, ok_uNot, ok_dChain, ok_add_int, ok_add_tup, ok_add_str, ok_add_ref, ok_sub, ok_mul, ok_mul_lst, ok_mulT, ok_div, ok_mod, ok_pow, ok_shl, ok_shr, ok_band, ok_bor, ok_xor, ok_neg, ok_lt, ok_le, ok_gt, ok_ge, ok_asD, ok_eqD, ok_eq_int, ok_eq_str, ok_eq_bl, ok_eq_non, ok_eq_tup, ok_eq_ref, ok_eq_it, ok_eq_in, ok_eq_nt, ok_eq_ni, ok_ne_int, ok_ne_str, ok_ne_bl, ok_ne_non, ok_ne_tup, ok_ne_ref, ok_ne_it, ok_ne_in, ok_ne_nt, ok_ne_ni, ok_isN, ok_notN, ok_ix_tup, ok_ix_scr, ok_ix_ref, ok_pNone, ok_pSome, ok_dSl, ok_sl_tup, ok_sl_ref, ok_dRev, ok_rev_ref, ok_lRev, ok_one, ok_two, ok_abs, ok_bint, ok_bint_bl, ok_max2, ok_min2, ok_len_tup, ok_len_scr, ok_len_str, ok_len_ref, ok_btup_tup, ok_btup_scr, ok_btup_ref, ok_dL, ok_lThen, ok_dV, ok_lV, ok_dR, ok_items_tup, ok_items_scr, ok_items_ref, ok_itemsR_scr, ok_itemsR_ref, ok_lId, ok_nTup, ok_nLen, ok_nSum, ok_nAny, ok_nAll, ok_rg1, ok_asI, ok_rg2, ok_lRg, ok_dTupRg, ok_meth0, ok_meth1, ok_methL, ok_chkL, ok_append, ok_extend, ok_pop, ok_popO, ok_sOf, ok_srcOf_tup, ok_srcOf_scr, ok_srcOf_kt, ok_srcOf_ref, ok_sOfL, ok_sEnum, ok_enumOf_tup, ok_enumOf_ref, ok_sRange1, ok_sRange2, ok_gName, ok_gNil, ok_gCons, ok_gTup, oks_ok, oks_thn, oks_nx, oks_bk, oks_ct, oks_seq, oks_expr, oks_ret, oks_asg, oks_set, oks_par2, oks_par3, oks_if, oks_put, ok_setP, ok_putL, ok_fnOf, ok_dDict, ok_kNil, ok_kCons, ok_aStar, ok_star_tup, ok_star_ref, oks_for, ok_comp, scal_int, scal_str, scal_bl, scal_non, scal_tup, scal_ref, dat_int, dat_str, dat_bl, dat_non, dat_tup, ok_look, ok_store, ok_lookO_int, ok_lookO_str, ok_storeO_int, ok_storeO_str, ok_in, ok_notIn, List.getElem?_cons_zero, List.getElem?_cons_succ, List.set_cons_zero, List.set_cons_succ, List.length_cons, List.length_nil, List.map_cons, List.map_nil, List.replicate_succ, List.replicate_zero, List.cons_append, List.nil_append, Nat.reduceSub, Nat.reduceAdd, Nat.zero_add, true_and, and_true, decide_eq_true_eq, decide_eq_false_iff_not, Bool.not_eq_true', Bool.not_eq_false', forall_const, Bool.false_eq_true, Bool.true_eq_false, false_implies, true_implies, reduceCtorEq, Bool.not_true, Bool.not_false, wipeE, reduceIte, and_self, Option.some.injEq, exists_eq_left', exists_eq_left, List.getElem?_nil, List.length_map, not_true_eq_false, not_false_eq_true, SZ, Nat.reduceLeDiff, Nat.reduceLT, Int.reduceLT, Int.reduceLE, Int.reduceAdd, Int.reduceSub, Int.reduceMul, Int.reduceNeg, Int.reducePow, Int.reduceToNat, Nat.reducePow, and_true, true_and, Nat.reduceMul, new_get, gN1, gN2, gN3]
    exact ⟨x, rfl, hx⟩
theorem mex_same : F__law_mex = F_least_missing := by unfold F__law_mex D__law_mex F_least_missing D_least_missing; rfl
/-- small piles, gone through -/
def few : List (List Nat) := [[]] ++ (List.range 5).flatMap (fun a => [[a]] ++ (List.range 5).flatMap fun b => if a ≤ b then [[a, b]] ++ (List.range 5).flatMap fun c => if b ≤ c then [[a, b, c]] else [] else [])
def isD (r : R P) (d : PyData) : Bool := match datO r with | some e => sameD e d | none => false
theorem isD_ok {r : R P} {d : PyData} (h : isD r d = true) : datO r = some d := by
  unfold isD at h
  cases e : datO r with
  | none => rw [e] at h; cases h
  | some x => rw [e] at h; rw [sameD_eq x d h]
theorem few_sort {l : List Nat} (h : ∀ a ∈ l, a < 5) (hl : l.length ≤ 3) : sortN l ∈ few := by
  have h1 : ∀ a, a < 5 → sortN [a] ∈ few := by decide
  have h2 : ∀ a, a < 5 → ∀ b, b < 5 → sortN [a, b] ∈ few := by decide
  have h3 : ∀ a, a < 5 → ∀ b, b < 5 → ∀ c, c < 5 → sortN [a, b, c] ∈ few := by decide +kernel
  match l, hl, h with
  | [], _, _ => exact (by decide : sortN [] ∈ few)
  | [a], _, h => exact h1 a (h a (by simp))
  | [a, b], _, h => exact h2 a (h a (by simp)) b (h b (by simp))
  | [a, b, c], _, h => exact h3 a (h a (by simp)) b (h b (by simp)) c (h c (by simp))
theorem few_all : few.all (fun l => isD (F__law_wins 40 [.ref 0, .tup (l.map nI)] [.dK []]) (.bool (decide (xorN l ≠ 0)))) = true := by decide +kernel
theorem few_ok {l : List Nat} (h : l ∈ few) (m : Hm) : Ok (F__law_wins 40 [.ref m.length, .tup (l.map nI)] (m ++ [.dK []])) fun p m' => dat m' DD p = some (.bool (decide (xorN l ≠ 0))) ∧ Fr [] m m' := by
  have e := isD_ok (List.all_eq_true.mp few_all l h)
  exact SC.dat1 (sF__law_wins 40) e m (by simp only [sPs, sP, sPs_nats]; rfl)
def gameD (n : Nat) : Option PyData := datO (F__law_pile 40 [nI n] [])
theorem games_all : (List.range 7).all (fun n => match datO (F_pile_game [nI n] []), gameD n with
  | some d, some e => sameD d e && Nat.ble (wgt e) SZ && e.showable
  | _, _ => false) = true := by decide +kernel
theorem games_ok (n : Nat) (h : n < 7) : ∃ d, datO (F_pile_game [nI n] []) = some d ∧ gameD n = some d ∧ wgt d ≤ SZ ∧ d.showable = true := by
  have k := List.all_eq_true.mp games_all n (List.mem_range.mpr h)
  cases e1 : datO (F_pile_game [nI n] []) with
  | none => rw [e1] at k; cases k
  | some d =>
    rw [e1] at k
    cases e2 : gameD n with
    | none => rw [e2] at k; cases k
    | some e =>
      rw [e2] at k
      simp only [Bool.and_eq_true] at k
      obtain rfl := sameD_eq d e k.1.1
      exact ⟨d, rfl, rfl, Nat.le_of_ble_eq_true k.1.2, k.2⟩
theorem pile_ok (n : Nat) (h : n < 7) : ∃ d, wgt d ≤ SZ ∧ d.showable = true ∧ (∀ m, Ok (F_pile_game [nI n] m) fun p m' => dat m' DD p = some d ∧ Fr [] m m') ∧ ∀ m, Ok (F__law_pile 40 [nI n] m) fun p m' => dat m' DD p = some d ∧ Fr [] m m' := by
  obtain ⟨d, h1, h2, h3, h4⟩ := games_ok n h
  have h2' : datO (F__law_pile 40 [nI n] []) = some d := h2
  have hp : ∀ m : Hm, sPs m.length [nI n] = [nI n] := fun m => by simp only [sPs, sP]
  exact ⟨d, h3, h4, fun m => SC.dat (c := F_pile_game) (ps := [nI n]) sF_pile_game h1 m (hp m), fun m => SC.dat (c := F__law_pile 40) (ps := [nI n]) (sF__law_pile 40) h2' m (hp m)⟩
theorem moveL_len (w : Nat) (l : List (Nat × Nat)) : (moveL w l).length ≤ l.length := by
  unfold moveL
  rw [List.length_map]
  exact List.length_filterMap_le _ _
theorem moveL_app (w : Nat) (l r : List (Nat × Nat)) : moveL w (l ++ r) = moveL w l ++ moveL w r := by
  unfold moveL
  rw [List.filterMap_append, List.map_append]
theorem enumN_len (l : List Nat) : (enumN l).length = l.length := by simp [enumN]
theorem enum_split {l : List Nat} {done rest : List (Nat × Nat)} {i a : Nat} (h : enumN l = done ++ (i, a) :: rest) : i < l.length ∧ l = l.take i ++ a :: l.drop (i + 1) := by
  have e : (enumN l)[done.length]? = some (i, a) := by rw [h]; simp
  unfold enumN at e
  rw [List.getElem?_map, List.getElem?_zipIdx] at e
  cases q : l[done.length]? with
  | none => rw [q] at e; cases e
  | some b =>
    rw [q] at e
    simp at e
    obtain ⟨rfl, rfl⟩ := e
    have hl := (List.getElem?_eq_some_iff.mp q).1
    refine ⟨hl, ?_⟩
    have e2 := (List.getElem?_eq_some_iff.mp q).2
    rw [← e2, ← List.drop_eq_getElem_cons hl, List.take_append_drop]
theorem xor_rest {l : List Nat} {i a : Nat} (h : l = l.take i ++ a :: l.drop (i + 1)) : xorN (l.take i ++ l.drop (i + 1)) = a ^^^ xorN l := by
  have e : xorN l = xorN (l.take i) ^^^ (a ^^^ xorN (l.drop (i + 1))) := by
    conv => lhs; rw [h]
    rw [xorN_append, xorN_cons]
  rw [xorN_append, e, ← Nat.xor_assoc (xorN (l.take i)) a, Nat.xor_comm (xorN (l.take i)) a, Nat.xor_assoc a, ← Nat.xor_assoc a a, Nat.xor_self, Nat.zero_xor]
abbrev mvs (l : List Nat) : List (Nat × Nat) := (enumN l).filterMap (mvN (xorN l))
abbrev toldD (l : List Nat) : List PyData := [dI (xorN l), .bool (decide (xorN l ≠ 0)), .tuple ((mvs l).map pD)]
theorem told_dat (m : Hm) (f : Nat) (l : List Nat) : mapO (dat m (f + 2)) [nI (xorN l), .bl (decide (xorN l ≠ 0)), .tup (moveL (xorN l) (enumN l))] = some (toldD l) := by
  have e : dat m (f + 2) (.tup (moveL (xorN l) (enumN l))) = some (.tuple ((mvs l).map pD)) := dat_pTup m f (mvs l)
  simp only [mapO, dat_int, dat_bl, e]
theorem mvs_bound {l : List Nat} (h : ∀ a ∈ l, a < 2 ^ 30) (hl : l.length ≤ 11) : ∀ p ∈ mvs l, p.1 < 18446744073709551616 ∧ p.2 < 18446744073709551616 := fun p hp => by
  obtain ⟨⟨i, a⟩, h1, h2⟩ := List.mem_filterMap.mp hp
  obtain ⟨s, t, e⟩ := List.append_of_mem h1
  obtain ⟨hi, hs⟩ := enum_split e
  unfold mvN at h2
  split at h2
  · cases h2
    have ha : a ∈ l := by rw [hs]; simp
    have := h a ha
    rename_i hlt
    dsimp only at hlt ⊢
    omega
  · cases h2
theorem mvs_len (l : List Nat) : (mvs l).length ≤ l.length := Nat.le_trans (List.length_filterMap_le _ _) (Nat.le_of_eq (enumN_len l))
theorem told_small {l : List Nat} (h : ∀ a ∈ l, a < 2 ^ 30) (hl : l.length ≤ 11) : PyData.showableAll (toldD l) = true ∧ wgtAll (toldD l) + 3 ≤ SZ := by
  have hx := xorN_lt h
  have h1 := shw_int (i := ((xorN l : Nat) : Int)) (by omega)
  have h2 := pairs_small (mvs_bound h hl)
  have h3 := mvs_len l
  simp only [PyData.showableAll, PyData.showable, wgt, wgtAll, SZ] at h1 h2 ⊢
  simp only [h1.1, h2.1, Bool.true_and, Bool.and_true, true_and]
  omega
theorem top_bit {k w a : Nat} (hw : w < 2 ^ (k + 1)) (hk : w.testBit k = true) : a ^^^ w < a ↔ a.testBit k = true := by
  have high : ∀ j, k < j → w.testBit j = false := fun j hj => Nat.testBit_lt_two_pow (Nat.lt_of_lt_of_le hw (Nat.pow_le_pow_right (by decide) hj))
  constructor
  · intro h
    cases ha : a.testBit k with
    | true => rfl
    | false =>
      have : a < a ^^^ w := lt_of_bits ha (by rw [Nat.testBit_xor, ha, hk]; rfl) fun j hj => by rw [Nat.testBit_xor, high j hj, Bool.xor_false]
      omega
  · intro ha
    exact lt_of_bits (by rw [Nat.testBit_xor, ha, hk]; rfl) ha fun j hj => by rw [Nat.testBit_xor, high j hj, Bool.xor_false]
theorem mvs_count (w k : Nat) (h : ∀ a : Nat, a ^^^ w < a ↔ a.testBit k = true) : ∀ (l : List Nat) (i : Nat), ((((l.zipIdx i).map fun p => (p.2, p.1)).filterMap (mvN w)).length = (l.filter fun a => a.testBit k).length)
  | [], _ => rfl
  | a :: l, i => by
    rw [List.zipIdx_cons, List.map_cons, List.filterMap_cons, List.filter_cons]
    have ih := mvs_count w k h l (i + 1)
    by_cases ha : a.testBit k = true
    · have hlt := (h a).mpr ha
      simp only [mvN, hlt, if_true, ha, List.length_cons]
      rw [← ih]
    · have hlt : ¬ a ^^^ w < a := fun z => ha ((h a).mp z)
      have ha' : a.testBit k = false := by simpa using ha
      simp only [mvN, hlt, if_false, ha', Bool.false_eq_true]
      exact ih
/-- the number of moves that win is odd -/
theorem mvs_odd {l : List Nat} (h : xorN l ≠ 0) : (mvs l).length % 2 = 1 := by
  have hk : (xorN l).testBit (xorN l).log2 = true := Nat.testBit_log2 h
  have hw : xorN l < 2 ^ ((xorN l).log2 + 1) := Nat.lt_log2_self
  have e := mvs_count (xorN l) (xorN l).log2 (fun a => top_bit hw hk) l 0
  have e2 : (mvs l).length = (l.filter fun a => a.testBit (xorN l).log2).length := e
  rw [e2]
  have := bit_xorN l (xorN l).log2
  rw [hk] at this
  exact of_decide_eq_true this.symm
end K_k22

namespace K_k22
open G
open PySem (Str PyData)
theorem src_ok (ns : List Int) (hn : ns.length ≤ 63) (m : Hm) : Ok (F__law_open_cells [.scr (ns.map .int)] m) fun p m' => ∃ n c, p = .ref n ∧ IsSrc m' n c ∧ Fr [] m m' ∧ m.length ≤ n ∧ m.length ≤ c := by
  have e : F__law_open_cells = F_srcB := by unfold F__law_open_cells D__law_open_cells F_srcB D_srcB; rfl
  rw [e]
  exact srcB_ok ns hn m
theorem of_eq : F__law_of = F_of F__law_pick := by unfold F__law_of D__law_of F_of D_of; rfl

theorem idx_ok (lap : Nat) (h : lap < 4) : ∃ q : Nat, q ≤ 11 ∧ L2.atI [P.int 4, .int 6, .int 11] (if (2 : Int) < (lap : Int) then 2 else (lap : Int)) = some (nI q) := by
  match lap, h with
  | 0, _ => exact ⟨4, by decide, rfl⟩
  | 1, _ => exact ⟨6, by decide, rfl⟩
  | 2, _ => exact ⟨11, by decide, rfl⟩
  | 3, _ => exact ⟨11, by decide, rfl⟩
theorem res (ns : List Int) (h : ns.length ≤ 63) : ∃ m', F_law [.scr (ns.map .int)] [] = .ok (.bl true) m' := by
  have k : Ok (F_law [.scr (ns.map .int)] []) fun p _ => p = .bl true := by
    unfold F_law D_law
    simp only [ok_ok, ok_ret, ok_bnd, ok_when, ok_opt, ok_getO, ok_putO, ok_newO, ok_dVar, ok_dC, ok_aNil, ok_aCons, ok_dOp, ok_dUn, ok_dTup, ok_lLst, ok_dNew, ok_dIf, ok_dCall, ok_tVal, ok_asB, ok_tTru, ok_truth_bl, ok_truth_int, ok_truth_non, ok_truth_tup, ok_tYes, ok_tAnd, ok_tOr, ok_tNot, ok_dAnd, ok_dOr, ok_uNot, ok_dChain, ok_add_int, ok_add_tup, ok_add_str, ok_add_ref, ok_sub, ok_mul, ok_mul_lst, ok_mulT, ok_div, ok_mod, ok_pow, ok_shl, ok_shr, ok_band, ok_bor, ok_xor, ok_neg, ok_lt, ok_le, ok_gt, ok_ge, ok_asD, ok_eqD, ok_eq_int, ok_eq_str, ok_eq_bl, ok_eq_non, ok_eq_tup, ok_eq_ref, ok_eq_it, ok_eq_in, ok_eq_nt, ok_eq_ni, ok_ne_int, ok_ne_str, ok_ne_bl, ok_ne_non, ok_ne_tup, ok_ne_ref, ok_ne_it, ok_ne_in, ok_ne_nt, ok_ne_ni, ok_isN, ok_notN, ok_ix_tup, ok_ix_scr, ok_ix_ref, ok_pNone, ok_pSome, ok_dSl, ok_sl_tup, ok_sl_ref, ok_dRev, ok_rev_ref, ok_lRev, ok_one, ok_two, ok_abs, ok_bint, ok_bint_bl, ok_max2, ok_min2, ok_len_tup, ok_len_scr, ok_len_str, ok_len_ref, ok_btup_tup, ok_btup_scr, ok_btup_ref, ok_dL, ok_lThen, ok_dV, ok_lV, ok_dR, ok_items_tup, ok_items_scr, ok_items_ref, ok_itemsR_scr, ok_itemsR_ref, ok_lId, ok_nTup, ok_nLen, ok_nSum, ok_nAny, ok_nAll, ok_rg1, ok_asI, ok_rg2, ok_lRg, ok_dTupRg, ok_meth0, ok_meth1, ok_methL, ok_chkL, ok_append, ok_extend, ok_pop, ok_popO, ok_sOf, ok_srcOf_tup, ok_srcOf_scr, ok_srcOf_kt, ok_srcOf_ref, ok_sOfL, ok_sEnum, ok_enumOf_tup, ok_enumOf_ref, ok_sRange1, ok_sRange2, ok_gName, ok_gNil, ok_gCons, ok_gTup, oks_ok, oks_thn, oks_nx, oks_bk, oks_ct, oks_seq, oks_expr, oks_ret, oks_asg, oks_set, oks_par2, oks_par3, oks_if, oks_put, ok_setP, ok_putL, ok_fnOf, ok_dDict, ok_kNil, ok_kCons, ok_aStar, ok_star_tup, ok_star_ref, oks_for, ok_comp, scal_int, scal_str, scal_bl, scal_non, scal_tup, scal_ref, dat_int, dat_str, dat_bl, dat_non, dat_tup, ok_look, ok_store, ok_lookO_int, ok_lookO_str, ok_storeO_int, ok_storeO_str, ok_in, ok_notIn, List.getElem?_cons_zero, List.getElem?_cons_succ, List.set_cons_zero, List.set_cons_succ, List.length_cons, List.length_nil, List.map_cons, List.map_nil, List.replicate_succ, List.replicate_zero, List.cons_append, List.nil_append, Nat.reduceSub, Nat.reduceAdd, Nat.zero_add, true_and, and_true, decide_eq_true_eq, decide_eq_false_iff_not, Bool.not_eq_true', Bool.not_eq_false', forall_const, Bool.false_eq_true, Bool.true_eq_false, false_implies, true_implies, reduceCtorEq, Bool.not_true, Bool.not_false, wipeE, reduceIte, and_self, Option.some.injEq, exists_eq_left', exists_eq_left, List.getElem?_nil, List.length_map, not_true_eq_false, not_false_eq_true, SZ, Nat.reduceLeDiff, Nat.reduceLT, Int.reduceLT, Int.reduceLE, Int.reduceAdd, Int.reduceSub, Int.reduceMul, Int.reduceNeg, Int.reducePow, Int.reduceToNat, Nat.reducePow, and_true, true_and, Nat.reduceMul, new_get, gN1, gN2, gN3]
    refine (src_ok ns h []).mono ?_
    rintro p m0 ⟨n, c, rfl, is, -, -, -⟩
    refine ⟨by decide, ?_⟩
    refine (for_seq (QF := fun f ρ m' => f = .nx ∧ IsSrc m' n c ∧ ∃ a2 a3 a4 a5 a6 a7 a8 a9 a10 a11 a12 a13 a14 a15, ρ = [some (.scr (ns.map .int)), some (.ref n), a2, a3, a4, a5, a6, a7, a8, a9, a10, a11, a12, a13, a14, a15]) (rangeP_zero 4) (fun _ ρ m' => IsSrc m' n c ∧ ∃ a2 a3 a4 a5 a6 a7 a8 a9 a10 a11 a12 a13 a14 a15, ρ = [some (.scr (ns.map .int)), some (.ref n), a2, a3, a4, a5, a6, a7, a8, a9, a10, a11, a12, a13, a14, a15]) ?_ ?_ ?_).mono ?_
    · exact ⟨is, _, _, _, _, _, _, _, _, _, _, _, _, _, _, rfl⟩
    · rintro done lap rest ρ m1 e ⟨is, a2, a3, a4, a5, a6, a7, a8, a9, a10, a11, a12, a13, a14, a15, rfl⟩
      have hlap : lap < 4 := by
        have : lap ∈ List.range (Int.toNat 4) := by rw [e]; simp
        simpa using this
      rw [ok_gName, of_eq]
      simp only [List.set_cons_zero, List.set_cons_succ]
      refine OkS.mono (Q := fun f ρ' m' => f = .nx ∧ IsSrc m' n c ∧ ∃ a2 a3 a4 a5 a6 a7 a8 a9 a10 a11 a12 a13 a14 a15, ρ' = [some (.scr (ns.map .int)), some (.ref n), a2, a3, a4, a5, a6, a7, a8, a9, a10, a11, a12, a13, a14, a15]) ?_ (by
        rintro f ρ' m' ⟨rfl, x⟩
        exact x)
      refine seq_cut (fun ρ m => IsSrc m n c ∧ ∃ most : Nat, most ≤ 1000000000 ∧ ∃ a3 a5 a6 a7 a8 a9 a10 a11 a12 a13 a14 a15, ρ = [some (.scr (ns.map .int)), some (.ref n), some (nI lap), a3, some (nI most), a5, a6, a7, a8, a9, a10, a11, a12, a13, a14, a15]) ?_ ?_
      · simp only [ok_ok, ok_ret, ok_bnd, ok_when, ok_opt, ok_getO, ok_putO, ok_newO, ok_dVar, ok_dC, ok_aNil, ok_aCons, ok_dOp, ok_dUn, ok_dTup, ok_lLst, ok_dNew, ok_dIf, ok_dCall, ok_tVal, ok_asB, ok_tTru, ok_truth_bl, ok_truth_int, ok_truth_non, ok_truth_tup, ok_tYes, ok_tAnd, ok_tOr, ok_tNot, ok_dAnd, ok_dOr, ok_uNot, ok_dChain, ok_add_int, ok_add_tup, ok_add_str, ok_add_ref, ok_sub, ok_mul, ok_mul_lst, ok_mulT, ok_div, ok_mod, ok_pow, ok_shl, ok_shr, ok_band, ok_bor, ok_xor, ok_neg, ok_lt, ok_le, ok_gt, ok_ge, ok_asD, ok_eqD, ok_eq_int, ok_eq_str, ok_eq_bl, ok_eq_non, ok_eq_tup, ok_eq_ref, ok_eq_it, ok_eq_in, ok_eq_nt, ok_eq_ni, ok_ne_int, ok_ne_str, ok_ne_bl, ok_ne_non, ok_ne_tup, ok_ne_ref, ok_ne_it, ok_ne_in, ok_ne_nt, ok_ne_ni, ok_isN, ok_notN, ok_ix_tup, ok_ix_scr, ok_ix_ref, ok_pNone, ok_pSome, ok_dSl, ok_sl_tup, ok_sl_ref, ok_dRev, ok_rev_ref, ok_lRev, ok_one, ok_two, ok_abs, ok_bint, ok_bint_bl, ok_max2, ok_min2, ok_len_tup, ok_len_scr, ok_len_str, ok_len_ref, ok_btup_tup, ok_btup_scr, ok_btup_ref, ok_dL, ok_lThen, ok_dV, ok_lV, ok_dR, ok_items_tup, ok_items_scr, ok_items_ref, ok_itemsR_scr, ok_itemsR_ref, ok_lId, ok_nTup, ok_nLen, ok_nSum, ok_nAny, ok_nAll, ok_rg1, ok_asI, ok_rg2, ok_lRg, ok_dTupRg, ok_meth0, ok_meth1, ok_methL, ok_chkL, ok_append, ok_extend, ok_pop, ok_popO, ok_sOf, ok_srcOf_tup, ok_srcOf_scr, ok_srcOf_kt, ok_srcOf_ref, ok_sOfL, ok_sEnum, ok_enumOf_tup, ok_enumOf_ref, ok_sRange1, ok_sRange2, ok_gName, ok_gNil, ok_gCons, ok_gTup, oks_ok, oks_thn, oks_nx, oks_bk, oks_ct, oks_expr, oks_ret, oks_asg, oks_set, oks_par2, oks_par3, oks_if, oks_put, ok_setP, ok_putL, ok_fnOf, ok_dDict, ok_kNil, ok_kCons, ok_aStar, ok_star_tup, ok_star_ref, oks_for, ok_comp, scal_int, scal_str, scal_bl, scal_non, scal_tup, scal_ref, dat_int, dat_str, dat_bl, dat_non, dat_tup, ok_look, ok_store, ok_lookO_int, ok_lookO_str, ok_storeO_int, ok_storeO_str, ok_in, ok_notIn, List.getElem?_cons_zero, List.getElem?_cons_succ, List.set_cons_zero, List.set_cons_succ, List.length_cons, List.length_nil, List.map_cons, List.map_nil, List.replicate_succ, List.replicate_zero, List.cons_append, List.nil_append, Nat.reduceSub, Nat.reduceAdd, Nat.zero_add, true_and, and_true, decide_eq_true_eq, decide_eq_false_iff_not, Bool.not_eq_true', Bool.not_eq_false', forall_const, Bool.false_eq_true, Bool.true_eq_false, false_implies, true_implies, reduceCtorEq, Bool.not_true, Bool.not_false, wipeE, reduceIte, and_self, Option.some.injEq, exists_eq_left', exists_eq_left, List.getElem?_nil, List.length_map, not_true_eq_false, not_false_eq_true, SZ, Nat.reduceLeDiff, Nat.reduceLT, Int.reduceLT, Int.reduceLE, Int.reduceAdd, Int.reduceSub, Int.reduceMul, Int.reduceNeg, Int.reducePow, Int.reduceToNat, Nat.reducePow, and_true, true_and, Nat.reduceMul, new_get, gN1, gN2, gN3]
        refine ⟨by decide, ?_⟩
        refine (of_lst pk (is.fr (Fr.new [] m1 (.lst [P.int 4, .int 9, .int 1000, .int 1000000000]))) (new_get _ _) (by simp) (by decide) ?_).mono ?_
        · obtain ⟨_, l, x, t, cs, h1, h2, hz⟩ := is
          have := lt_of_get h2
          omega
        · rintro p m2 ⟨hp, is2, fr2, hl2⟩
          simp only [List.mem_cons, List.not_mem_nil, or_false] at hp
          rcases hp with rfl | rfl | rfl | rfl
          · exact ⟨is2, 4, by decide, _, _, _, _, _, _, _, _, _, _, _, _, rfl⟩
          · exact ⟨is2, 9, by decide, _, _, _, _, _, _, _, _, _, _, _, _, rfl⟩
          · exact ⟨is2, 1000, by decide, _, _, _, _, _, _, _, _, _, _, _, _, rfl⟩
          · exact ⟨is2, 1000000000, by decide, _, _, _, _, _, _, _, _, _, _, _, _, rfl⟩
      · rintro ρ' m2 ⟨is, most, hmost, a3, a5, a6, a7, a8, a9, a10, a11, a12, a13, a14, a15, rfl⟩
        refine seq_cut (fun ρ m => IsSrc m n c ∧ ∃ l : List Nat, (∀ a ∈ l, a ≤ 1000000000) ∧ l.length ≤ 11 ∧ ∃ a2 a3 a4 a6 a7 a8 a9 a10 a11 a12 a13 a14 a15, ρ = [some (.scr (ns.map .int)), some (.ref n), a2, a3, a4, some (.tup (l.map nI)), a6, a7, a8, a9, a10, a11, a12, a13, a14, a15]) ?_ ?_
        · simp only [ok_ok, ok_ret, ok_bnd, ok_when, ok_opt, ok_getO, ok_putO, ok_newO, ok_dVar, ok_dC, ok_aNil, ok_aCons, ok_dOp, ok_dUn, ok_dTup, ok_lLst, ok_dNew, ok_dIf, ok_dCall, ok_tVal, ok_asB, ok_tTru, ok_truth_bl, ok_truth_int, ok_truth_non, ok_truth_tup, ok_tYes, ok_tAnd, ok_tOr, ok_tNot, ok_dAnd, ok_dOr, ok_uNot, ok_dChain, ok_add_int, ok_add_tup, ok_add_str, ok_add_ref, ok_sub, ok_mul, ok_mul_lst, ok_mulT, ok_div, ok_mod, ok_pow, ok_shl, ok_shr, ok_band, ok_bor, ok_xor, ok_neg, ok_lt, ok_le, ok_gt, ok_ge, ok_asD, ok_eqD, ok_eq_int, ok_eq_str, ok_eq_bl, ok_eq_non, ok_eq_tup, ok_eq_ref, ok_eq_it, ok_eq_in, ok_eq_nt, ok_eq_ni, ok_ne_int, ok_ne_str, ok_ne_bl, ok_ne_non, ok_ne_tup, ok_ne_ref, ok_ne_it, ok_ne_in, ok_ne_nt, ok_ne_ni, ok_isN, ok_notN, ok_ix_tup, ok_ix_scr, ok_ix_ref, ok_pNone, ok_pSome, ok_dSl, ok_sl_tup, ok_sl_ref, ok_dRev, ok_rev_ref, ok_lRev, ok_one, ok_two, ok_abs, ok_bint, ok_bint_bl, ok_max2, ok_min2, ok_len_tup, ok_len_scr, ok_len_str, ok_len_ref, ok_btup_tup, ok_btup_scr, ok_btup_ref, ok_dL, ok_lThen, ok_dV, ok_lV, ok_dR, ok_items_tup, ok_items_scr, ok_items_ref, ok_itemsR_scr, ok_itemsR_ref, ok_lId, ok_nTup, ok_nLen, ok_nSum, ok_nAny, ok_nAll, ok_rg1, ok_asI, ok_rg2, ok_lRg, ok_dTupRg, ok_meth0, ok_meth1, ok_methL, ok_chkL, ok_append, ok_extend, ok_pop, ok_popO, ok_sOf, ok_srcOf_tup, ok_srcOf_scr, ok_srcOf_kt, ok_srcOf_ref, ok_sOfL, ok_sEnum, ok_enumOf_tup, ok_enumOf_ref, ok_sRange1, ok_sRange2, ok_gName, ok_gNil, ok_gCons, ok_gTup, oks_ok, oks_thn, oks_nx, oks_bk, oks_ct, oks_expr, oks_ret, oks_asg, oks_set, oks_par2, oks_par3, oks_if, oks_put, ok_setP, ok_putL, ok_fnOf, ok_dDict, ok_kNil, ok_kCons, ok_aStar, ok_star_tup, ok_star_ref, oks_for, ok_comp, scal_int, scal_str, scal_bl, scal_non, scal_tup, scal_ref, dat_int, dat_str, dat_bl, dat_non, dat_tup, ok_look, ok_store, ok_lookO_int, ok_lookO_str, ok_storeO_int, ok_storeO_str, ok_in, ok_notIn, List.getElem?_cons_zero, List.getElem?_cons_succ, List.set_cons_zero, List.set_cons_succ, List.length_cons, List.length_nil, List.map_cons, List.map_nil, List.replicate_succ, List.replicate_zero, List.cons_append, List.nil_append, Nat.reduceSub, Nat.reduceAdd, Nat.zero_add, true_and, and_true, decide_eq_true_eq, decide_eq_false_iff_not, Bool.not_eq_true', Bool.not_eq_false', forall_const, Bool.false_eq_true, Bool.true_eq_false, false_implies, true_implies, reduceCtorEq, Bool.not_true, Bool.not_false, wipeE, reduceIte, and_self, Option.some.injEq, exists_eq_left', exists_eq_left, List.getElem?_nil, List.length_map, not_true_eq_false, not_false_eq_true, SZ, Nat.reduceLeDiff, Nat.reduceLT, Int.reduceLT, Int.reduceLE, Int.reduceAdd, Int.reduceSub, Int.reduceMul, Int.reduceNeg, Int.reducePow, Int.reduceToNat, Nat.reducePow, and_true, true_and, Nat.reduceMul, new_get, gN1, gN2, gN3]
          obtain ⟨q, hq, e⟩ := idx_ok lap hlap
          simp only [ok_ok, ok_ret, ok_bnd, ok_when, ok_opt, ok_getO, ok_putO, ok_newO, ok_dVar, ok_dC, ok_aNil, ok_aCons, ok_dOp, ok_dUn, ok_dTup, ok_lLst, ok_dNew, ok_dIf, ok_dCall, ok_tVal, ok_asB, ok_tTru, ok_truth_bl, ok_truth_int, ok_truth_non, ok_truth_tup, ok_tYes, ok_tAnd, ok_tOr, ok_tNot, ok_dAnd, ok_dOr, ok_uNot, ok_dChain, ok_add_int, ok_add_tup, ok_add_str, ok_add_ref, ok_sub, ok_mul, ok_mul_lst, ok_mulT, ok_div, ok_mod, ok_pow, ok_shl, ok_shr, ok_band, ok_bor, ok_xor, ok_neg, ok_lt, ok_le, ok_gt, ok_ge, ok_asD, ok_eqD, ok_eq_int, ok_eq_str, ok_eq_bl, ok_eq_non, ok_eq_tup, ok_eq_ref, ok_eq_it, ok_eq_in, ok_eq_nt, ok_eq_ni, ok_ne_int, ok_ne_str, ok_ne_bl, ok_ne_non, ok_ne_tup, ok_ne_ref, ok_ne_it, ok_ne_in, ok_ne_nt, ok_ne_ni, ok_isN, ok_notN, ok_ix_tup, ok_ix_scr, ok_ix_ref, ok_pNone, ok_pSome, ok_dSl, ok_sl_tup, ok_sl_ref, ok_dRev, ok_rev_ref, ok_lRev, ok_one, ok_two, ok_abs, ok_bint, ok_bint_bl, ok_max2, ok_min2, ok_len_tup, ok_len_scr, ok_len_str, ok_len_ref, ok_btup_tup, ok_btup_scr, ok_btup_ref, ok_dL, ok_lThen, ok_dV, ok_lV, ok_dR, ok_items_tup, ok_items_scr, ok_items_ref, ok_itemsR_scr, ok_itemsR_ref, ok_lId, ok_nTup, ok_nLen, ok_nSum, ok_nAny, ok_nAll, ok_rg1, ok_asI, ok_rg2, ok_lRg, ok_dTupRg, ok_meth0, ok_meth1, ok_methL, ok_chkL, ok_append, ok_extend, ok_pop, ok_popO, ok_sOf, ok_srcOf_tup, ok_srcOf_scr, ok_srcOf_kt, ok_srcOf_ref, ok_sOfL, ok_sEnum, ok_enumOf_tup, ok_enumOf_ref, ok_sRange1, ok_sRange2, ok_gName, ok_gNil, ok_gCons, ok_gTup, oks_ok, oks_thn, oks_nx, oks_bk, oks_ct, oks_expr, oks_ret, oks_asg, oks_set, oks_par2, oks_par3, oks_if, oks_put, ok_setP, ok_putL, ok_fnOf, ok_dDict, ok_kNil, ok_kCons, ok_aStar, ok_star_tup, ok_star_ref, oks_for, ok_comp, scal_int, scal_str, scal_bl, scal_non, scal_tup, scal_ref, dat_int, dat_str, dat_bl, dat_non, dat_tup, ok_look, ok_store, ok_lookO_int, ok_lookO_str, ok_storeO_int, ok_storeO_str, ok_in, ok_notIn, List.getElem?_cons_zero, List.getElem?_cons_succ, List.set_cons_zero, List.set_cons_succ, List.length_cons, List.length_nil, List.map_cons, List.map_nil, List.replicate_succ, List.replicate_zero, List.cons_append, List.nil_append, Nat.reduceSub, Nat.reduceAdd, Nat.zero_add, true_and, and_true, decide_eq_true_eq, decide_eq_false_iff_not, Bool.not_eq_true', Bool.not_eq_false', forall_const, Bool.false_eq_true, Bool.true_eq_false, false_implies, true_implies, reduceCtorEq, Bool.not_true, Bool.not_false, wipeE, reduceIte, and_self, Option.some.injEq, exists_eq_left', exists_eq_left, List.getElem?_nil, List.length_map, not_true_eq_false, not_false_eq_true, SZ, Nat.reduceLeDiff, Nat.reduceLT, Int.reduceLT, Int.reduceLE, Int.reduceAdd, Int.reduceSub, Int.reduceMul, Int.reduceNeg, Int.reducePow, Int.reduceToNat, Nat.reducePow, and_true, true_and, Nat.reduceMul, new_get, gN1, gN2, gN3, e]
          refine (pk _ _ _ _ (is.fr (Fr.new [] m2 _)) (by omega)).mono ?_
          rintro p m3 ⟨r, rfl, h0, hr, is3, fr3, hl3⟩
          simp only [ok_ok, ok_ret, ok_bnd, ok_when, ok_opt, ok_getO, ok_putO, ok_newO, ok_dVar, ok_dC, ok_aNil, ok_aCons, ok_dOp, ok_dUn, ok_dTup, ok_lLst, ok_dNew, ok_dIf, ok_dCall, ok_tVal, ok_asB, ok_tTru, ok_truth_bl, ok_truth_int, ok_truth_non, ok_truth_tup, ok_tYes, ok_tAnd, ok_tOr, ok_tNot, ok_dAnd, ok_dOr, ok_uNot, ok_dChain, ok_add_int, ok_add_tup, ok_add_str, ok_add_ref, ok_sub, ok_mul, ok_mul_lst, ok_mulT, ok_div, ok_mod, ok_pow, ok_shl, ok_shr, ok_band, ok_bor, ok_xor, ok_neg, ok_lt, ok_le, ok_gt, ok_ge, ok_asD, ok_eqD, ok_eq_int, ok_eq_str, ok_eq_bl, ok_eq_non, ok_eq_tup, ok_eq_ref, ok_eq_it, ok_eq_in, ok_eq_nt, ok_eq_ni, ok_ne_int, ok_ne_str, ok_ne_bl, ok_ne_non, ok_ne_tup, ok_ne_ref, ok_ne_it, ok_ne_in, ok_ne_nt, ok_ne_ni, ok_isN, ok_notN, ok_ix_tup, ok_ix_scr, ok_ix_ref, ok_pNone, ok_pSome, ok_dSl, ok_sl_tup, ok_sl_ref, ok_dRev, ok_rev_ref, ok_lRev, ok_one, ok_two, ok_abs, ok_bint, ok_bint_bl, ok_max2, ok_min2, ok_len_tup, ok_len_scr, ok_len_str, ok_len_ref, ok_btup_tup, ok_btup_scr, ok_btup_ref, ok_dL, ok_lThen, ok_dV, ok_lV, ok_dR, ok_items_tup, ok_items_scr, ok_items_ref, ok_itemsR_scr, ok_itemsR_ref, ok_lId, ok_nTup, ok_nLen, ok_nSum, ok_nAny, ok_nAll, ok_rg1, ok_asI, ok_rg2, ok_lRg, ok_dTupRg, ok_meth0, ok_meth1, ok_methL, ok_chkL, ok_append, ok_extend, ok_pop, ok_popO, ok_sOf, ok_srcOf_tup, ok_srcOf_scr, ok_srcOf_kt, ok_srcOf_ref, ok_sOfL, ok_sEnum, ok_enumOf_tup, ok_enumOf_ref, ok_sRange1, ok_sRange2, ok_gName, ok_gNil, ok_gCons, ok_gTup, oks_ok, oks_thn, oks_nx, oks_bk, oks_ct, oks_expr, oks_ret, oks_asg, oks_set, oks_par2, oks_par3, oks_if, oks_put, ok_setP, ok_putL, ok_fnOf, ok_dDict, ok_kNil, ok_kCons, ok_aStar, ok_star_tup, ok_star_ref, oks_for, ok_comp, scal_int, scal_str, scal_bl, scal_non, scal_tup, scal_ref, dat_int, dat_str, dat_bl, dat_non, dat_tup, ok_look, ok_store, ok_lookO_int, ok_lookO_str, ok_storeO_int, ok_storeO_str, ok_in, ok_notIn, List.getElem?_cons_zero, List.getElem?_cons_succ, List.set_cons_zero, List.set_cons_succ, List.length_cons, List.length_nil, List.map_cons, List.map_nil, List.replicate_succ, List.replicate_zero, List.cons_append, List.nil_append, Nat.reduceSub, Nat.reduceAdd, Nat.zero_add, true_and, and_true, decide_eq_true_eq, decide_eq_false_iff_not, Bool.not_eq_true', Bool.not_eq_false', forall_const, Bool.false_eq_true, Bool.true_eq_false, false_implies, true_implies, reduceCtorEq, Bool.not_true, Bool.not_false, wipeE, reduceIte, and_self, Option.some.injEq, exists_eq_left', exists_eq_left, List.getElem?_nil, List.length_map, not_true_eq_false, not_false_eq_true, SZ, Nat.reduceLeDiff, Nat.reduceLT, Int.reduceLT, Int.reduceLE, Int.reduceAdd, Int.reduceSub, Int.reduceMul, Int.reduceNeg, Int.reducePow, Int.reduceToNat, Nat.reducePow, and_true, true_and, Nat.reduceMul, new_get, gN1, gN2, gN3]
          refine ⟨by simp only [small62, Bool.and_eq_true, decide_eq_true_eq]; omega, ?_⟩
          refine (draws (K := (most : Int) + 1) is3 (by simp [rangeP]; omega) fun p m is => ?_).mono ?_
          · simp only [ok_ok, ok_ret, ok_bnd, ok_when, ok_opt, ok_getO, ok_putO, ok_newO, ok_dVar, ok_dC, ok_aNil, ok_aCons, ok_dOp, ok_dUn, ok_dTup, ok_lLst, ok_dNew, ok_dIf, ok_dCall, ok_tVal, ok_asB, ok_tTru, ok_truth_bl, ok_truth_int, ok_truth_non, ok_truth_tup, ok_tYes, ok_tAnd, ok_tOr, ok_tNot, ok_dAnd, ok_dOr, ok_uNot, ok_dChain, ok_add_int, ok_add_tup, ok_add_str, ok_add_ref, ok_sub, ok_mul, ok_mul_lst, ok_mulT, ok_div, ok_mod, ok_pow, ok_shl, ok_shr, ok_band, ok_bor, ok_xor, ok_neg, ok_lt, ok_le, ok_gt, ok_ge, ok_asD, ok_eqD, ok_eq_int, ok_eq_str, ok_eq_bl, ok_eq_non, ok_eq_tup, ok_eq_ref, ok_eq_it, ok_eq_in, ok_eq_nt, ok_eq_ni, ok_ne_int, ok_ne_str, ok_ne_bl, ok_ne_non, ok_ne_tup, ok_ne_ref, ok_ne_it, ok_ne_in, ok_ne_nt, ok_ne_ni, ok_isN, ok_notN, ok_ix_tup, ok_ix_scr, ok_ix_ref, ok_pNone, ok_pSome, ok_dSl, ok_sl_tup, ok_sl_ref, ok_dRev, ok_rev_ref, ok_lRev, ok_one, ok_two, ok_abs, ok_bint, ok_bint_bl, ok_max2, ok_min2, ok_len_tup, ok_len_scr, ok_len_str, ok_len_ref, ok_btup_tup, ok_btup_scr, ok_btup_ref, ok_dL, ok_lThen, ok_dV, ok_lV, ok_dR, ok_items_tup, ok_items_scr, ok_items_ref, ok_itemsR_scr, ok_itemsR_ref, ok_lId, ok_nTup, ok_nLen, ok_nSum, ok_nAny, ok_nAll, ok_rg1, ok_asI, ok_rg2, ok_lRg, ok_dTupRg, ok_meth0, ok_meth1, ok_methL, ok_chkL, ok_append, ok_extend, ok_pop, ok_popO, ok_sOf, ok_srcOf_tup, ok_srcOf_scr, ok_srcOf_kt, ok_srcOf_ref, ok_sOfL, ok_sEnum, ok_enumOf_tup, ok_enumOf_ref, ok_sRange1, ok_sRange2, ok_gName, ok_gNil, ok_gCons, ok_gTup, oks_ok, oks_thn, oks_nx, oks_bk, oks_ct, oks_expr, oks_ret, oks_asg, oks_set, oks_par2, oks_par3, oks_if, oks_put, ok_setP, ok_putL, ok_fnOf, ok_dDict, ok_kNil, ok_kCons, ok_aStar, ok_star_tup, ok_star_ref, oks_for, ok_comp, scal_int, scal_str, scal_bl, scal_non, scal_tup, scal_ref, dat_int, dat_str, dat_bl, dat_non, dat_tup, ok_look, ok_store, ok_lookO_int, ok_lookO_str, ok_storeO_int, ok_storeO_str, ok_in, ok_notIn, List.getElem?_cons_zero, List.getElem?_cons_succ, List.set_cons_zero, List.set_cons_succ, List.length_cons, List.length_nil, List.map_cons, List.map_nil, List.replicate_succ, List.replicate_zero, List.cons_append, List.nil_append, Nat.reduceSub, Nat.reduceAdd, Nat.zero_add, true_and, and_true, decide_eq_true_eq, decide_eq_false_iff_not, Bool.not_eq_true', Bool.not_eq_false', forall_const, Bool.false_eq_true, Bool.true_eq_false, false_implies, true_implies, reduceCtorEq, Bool.not_true, Bool.not_false, wipeE, reduceIte, and_self, Option.some.injEq, exists_eq_left', exists_eq_left, List.getElem?_nil, List.length_map, not_true_eq_false, not_false_eq_true, SZ, Nat.reduceLeDiff, Nat.reduceLT, Int.reduceLT, Int.reduceLE, Int.reduceAdd, Int.reduceSub, Int.reduceMul, Int.reduceNeg, Int.reducePow, Int.reduceToNat, Nat.reducePow, and_true, true_and, Nat.reduceMul, new_get, gN1, gN2, gN3]
            exact pk _ _ _ _ is (by omega)
          · rintro acc m4 ⟨l, rfl, hl, hk, is4, fr4, hl4⟩
            have hlen : (rangeP 0 r).length = r.toNat := by simp [rangeP]
            exact ⟨is4, l, fun a ha => by have := hk a ha; omega, by omega, _, _, _, _, _, _, _, _, _, _, _, _, _, rfl⟩
        · rintro ρ' m3 ⟨is, l0, hl0, hn0, a2, a3, a4, a6, a7, a8, a9, a10, a11, a12, a13, a14, a15, rfl⟩
          refine seq_cut (fun ρ m => IsSrc m n c ∧ ∃ l : List Nat, (∀ a ∈ l, a < 2 ^ 30) ∧ l.length ≤ 11 ∧ ∃ a2 a3 a4 a6 a7 a8 a9 a10 a11 a12 a13 a14 a15, ρ = [some (.scr (ns.map .int)), some (.ref n), a2, a3, a4, some (.tup (l.map nI)), a6, a7, a8, a9, a10, a11, a12, a13, a14, a15]) ?_ ?_
          · simp only [ok_ok, ok_ret, ok_bnd, ok_when, ok_opt, ok_getO, ok_putO, ok_newO, ok_dVar, ok_dC, ok_aNil, ok_aCons, ok_dOp, ok_dUn, ok_dTup, ok_lLst, ok_dNew, ok_dIf, ok_dCall, ok_tVal, ok_asB, ok_tTru, ok_truth_bl, ok_truth_int, ok_truth_non, ok_truth_tup, ok_tYes, ok_tAnd, ok_tOr, ok_tNot, ok_dAnd, ok_dOr, ok_uNot, ok_dChain, ok_add_int, ok_add_tup, ok_add_str, ok_add_ref, ok_sub, ok_mul, ok_mul_lst, ok_mulT, ok_div, ok_mod, ok_pow, ok_shl, ok_shr, ok_band, ok_bor, ok_xor, ok_neg, ok_lt, ok_le, ok_gt, ok_ge, ok_asD, ok_eqD, ok_eq_int, ok_eq_str, ok_eq_bl, ok_eq_non, ok_eq_tup, ok_eq_ref, ok_eq_it, ok_eq_in, ok_eq_nt, ok_eq_ni, ok_ne_int, ok_ne_str, ok_ne_bl, ok_ne_non, ok_ne_tup, ok_ne_ref, ok_ne_it, ok_ne_in, ok_ne_nt, ok_ne_ni, ok_isN, ok_notN, ok_ix_tup, ok_ix_scr, ok_ix_ref, ok_pNone, ok_pSome, ok_dSl, ok_sl_tup, ok_sl_ref, ok_dRev, ok_rev_ref, ok_lRev, ok_one, ok_two, ok_abs, ok_bint, ok_bint_bl, ok_max2, ok_min2, ok_len_tup, ok_len_scr, ok_len_str, ok_len_ref, ok_btup_tup, ok_btup_scr, ok_btup_ref, ok_dL, ok_lThen, ok_dV, ok_lV, ok_dR, ok_items_tup, ok_items_scr, ok_items_ref, ok_itemsR_scr, ok_itemsR_ref, ok_lId, ok_nTup, ok_nLen, ok_nSum, ok_nAny, ok_nAll, ok_rg1, ok_asI, ok_rg2, ok_lRg, ok_dTupRg, ok_meth0, ok_meth1, ok_methL, ok_chkL, ok_append, ok_extend, ok_pop, ok_popO, ok_sOf, ok_srcOf_tup, ok_srcOf_scr, ok_srcOf_kt, ok_srcOf_ref, ok_sOfL, ok_sEnum, ok_enumOf_tup, ok_enumOf_ref, ok_sRange1, ok_sRange2, ok_gName, ok_gNil, ok_gCons, ok_gTup, oks_ok, oks_thn, oks_nx, oks_bk, oks_ct, oks_expr, oks_ret, oks_asg, oks_set, oks_par2, oks_par3, oks_if, oks_put, ok_setP, ok_putL, ok_fnOf, ok_dDict, ok_kNil, ok_kCons, ok_aStar, ok_star_tup, ok_star_ref, oks_for, ok_comp, scal_int, scal_str, scal_bl, scal_non, scal_tup, scal_ref, dat_int, dat_str, dat_bl, dat_non, dat_tup, ok_look, ok_store, ok_lookO_int, ok_lookO_str, ok_storeO_int, ok_storeO_str, ok_in, ok_notIn, List.getElem?_cons_zero, List.getElem?_cons_succ, List.set_cons_zero, List.set_cons_succ, List.length_cons, List.length_nil, List.map_cons, List.map_nil, List.replicate_succ, List.replicate_zero, List.cons_append, List.nil_append, Nat.reduceSub, Nat.reduceAdd, Nat.zero_add, true_and, and_true, decide_eq_true_eq, decide_eq_false_iff_not, Bool.not_eq_true', Bool.not_eq_false', forall_const, Bool.false_eq_true, Bool.true_eq_false, false_implies, true_implies, reduceCtorEq, Bool.not_true, Bool.not_false, wipeE, reduceIte, and_self, Option.some.injEq, exists_eq_left', exists_eq_left, List.getElem?_nil, List.length_map, not_true_eq_false, not_false_eq_true, SZ, Nat.reduceLeDiff, Nat.reduceLT, Int.reduceLT, Int.reduceLE, Int.reduceAdd, Int.reduceSub, Int.reduceMul, Int.reduceNeg, Int.reducePow, Int.reduceToNat, Nat.reducePow, and_true, true_and, Nat.reduceMul, new_get, gN1, gN2, gN3]
            have hb : ∀ a ∈ l0, a < 2 ^ 30 := fun a ha => by have := hl0 a ha; omega
            have hb2 : ∀ a ∈ l0, a < 2 ^ 40 := fun a ha => by have := hl0 a ha; omega
            refine (pk _ _ _ _ is (by decide)).mono ?_
            rintro p m4 ⟨r, rfl, h0, hr, is4, fr4, hl4⟩
            simp only [ok_ok, ok_ret, ok_bnd, ok_when, ok_opt, ok_getO, ok_putO, ok_newO, ok_dVar, ok_dC, ok_aNil, ok_aCons, ok_dOp, ok_dUn, ok_dTup, ok_lLst, ok_dNew, ok_dIf, ok_dCall, ok_tVal, ok_asB, ok_tTru, ok_truth_bl, ok_truth_int, ok_truth_non, ok_truth_tup, ok_tYes, ok_tAnd, ok_tOr, ok_tNot, ok_dAnd, ok_dOr, ok_uNot, ok_dChain, ok_add_int, ok_add_tup, ok_add_str, ok_add_ref, ok_sub, ok_mul, ok_mul_lst, ok_mulT, ok_div, ok_mod, ok_pow, ok_shl, ok_shr, ok_band, ok_bor, ok_xor, ok_neg, ok_lt, ok_le, ok_gt, ok_ge, ok_asD, ok_eqD, ok_eq_int, ok_eq_str, ok_eq_bl, ok_eq_non, ok_eq_tup, ok_eq_ref, ok_eq_it, ok_eq_in, ok_eq_nt, ok_eq_ni, ok_ne_int, ok_ne_str, ok_ne_bl, ok_ne_non, ok_ne_tup, ok_ne_ref, ok_ne_it, ok_ne_in, ok_ne_nt, ok_ne_ni, ok_isN, ok_notN, ok_ix_tup, ok_ix_scr, ok_ix_ref, ok_pNone, ok_pSome, ok_dSl, ok_sl_tup, ok_sl_ref, ok_dRev, ok_rev_ref, ok_lRev, ok_one, ok_two, ok_abs, ok_bint, ok_bint_bl, ok_max2, ok_min2, ok_len_tup, ok_len_scr, ok_len_str, ok_len_ref, ok_btup_tup, ok_btup_scr, ok_btup_ref, ok_dL, ok_lThen, ok_dV, ok_lV, ok_dR, ok_items_tup, ok_items_scr, ok_items_ref, ok_itemsR_scr, ok_itemsR_ref, ok_lId, ok_nTup, ok_nLen, ok_nSum, ok_nAny, ok_nAll, ok_rg1, ok_asI, ok_rg2, ok_lRg, ok_dTupRg, ok_meth0, ok_meth1, ok_methL, ok_chkL, ok_append, ok_extend, ok_pop, ok_popO, ok_sOf, ok_srcOf_tup, ok_srcOf_scr, ok_srcOf_kt, ok_srcOf_ref, ok_sOfL, ok_sEnum, ok_enumOf_tup, ok_enumOf_ref, ok_sRange1, ok_sRange2, ok_gName, ok_gNil, ok_gCons, ok_gTup, oks_ok, oks_thn, oks_nx, oks_bk, oks_ct, oks_expr, oks_ret, oks_asg, oks_set, oks_par2, oks_par3, oks_if, oks_put, ok_setP, ok_putL, ok_fnOf, ok_dDict, ok_kNil, ok_kCons, ok_aStar, ok_star_tup, ok_star_ref, oks_for, ok_comp, scal_int, scal_str, scal_bl, scal_non, scal_tup, scal_ref, dat_int, dat_str, dat_bl, dat_non, dat_tup, ok_look, ok_store, ok_lookO_int, ok_lookO_str, ok_storeO_int, ok_storeO_str, ok_in, ok_notIn, List.getElem?_cons_zero, List.getElem?_cons_succ, List.set_cons_zero, List.set_cons_succ, List.length_cons, List.length_nil, List.map_cons, List.map_nil, List.replicate_succ, List.replicate_zero, List.cons_append, List.nil_append, Nat.reduceSub, Nat.reduceAdd, Nat.zero_add, true_and, and_true, decide_eq_true_eq, decide_eq_false_iff_not, Bool.not_eq_true', Bool.not_eq_false', forall_const, Bool.false_eq_true, Bool.true_eq_false, false_implies, true_implies, reduceCtorEq, Bool.not_true, Bool.not_false, wipeE, reduceIte, and_self, Option.some.injEq, exists_eq_left', exists_eq_left, List.getElem?_nil, List.length_map, not_true_eq_false, not_false_eq_true, SZ, Nat.reduceLeDiff, Nat.reduceLT, Int.reduceLT, Int.reduceLE, Int.reduceAdd, Int.reduceSub, Int.reduceMul, Int.reduceNeg, Int.reducePow, Int.reduceToNat, Nat.reducePow, and_true, true_and, Nat.reduceMul, new_get, gN1, gN2, gN3]
            refine ⟨fun _ => ⟨fun hlt => ?_, fun _ => ⟨is4, l0, hb, hn0, _, _, _, _, _, _, _, _, _, _, _, _, _, rfl⟩⟩, fun _ => ⟨is4, l0, hb, hn0, _, _, _, _, _, _, _, _, _, _, _, _, _, rfl⟩⟩
            refine (xor_ok l0 hb2 (by omega) m4).mono ?_
            rintro p m5 ⟨rfl, fr5⟩
            refine ⟨by omega, is4.fr fr5, l0 ++ [xorN l0], fun a ha => ?_, by simp; omega, _, _, _, _, _, _, _, _, _, _, _, _, _, by rw [List.map_append]; rfl⟩
            rcases List.mem_append.mp ha with ha | ha
            · exact hb a ha
            · rw [List.mem_singleton.mp ha]; exact xorN_lt hb
          · rintro ρ' m4 ⟨is, l1, hl1, hn1, a2, a3, a4, a6, a7, a8, a9, a10, a11, a12, a13, a14, a15, rfl⟩
            refine seq_cut (fun ρ m => IsSrc m n c ∧ ∃ l : List Nat, (∀ a ∈ l, a < 2 ^ 30) ∧ l.length ≤ 11 ∧ ∃ a2 a3 a4 a6 a7 a8 a9 a10 a11 a12 a13 a14 a15, ρ = [some (.scr (ns.map .int)), some (.ref n), a2, a3, a4, some (.tup (l.map nI)), a6, a7, a8, a9, a10, a11, a12, a13, a14, a15]) ?_ ?_
            · simp only [ok_ok, ok_ret, ok_bnd, ok_when, ok_opt, ok_getO, ok_putO, ok_newO, ok_dVar, ok_dC, ok_aNil, ok_aCons, ok_dOp, ok_dUn, ok_dTup, ok_lLst, ok_dNew, ok_dIf, ok_dCall, ok_tVal, ok_asB, ok_tTru, ok_truth_bl, ok_truth_int, ok_truth_non, ok_truth_tup, ok_tYes, ok_tAnd, ok_tOr, ok_tNot, ok_dAnd, ok_dOr, ok_uNot, ok_dChain, ok_add_int, ok_add_tup, ok_add_str, ok_add_ref, ok_sub, ok_mul, ok_mul_lst, ok_mulT, ok_div, ok_mod, ok_pow, ok_shl, ok_shr, ok_band, ok_bor, ok_xor, ok_neg, ok_lt, ok_le, ok_gt, ok_ge, ok_asD, ok_eqD, ok_eq_int, ok_eq_str, ok_eq_bl, ok_eq_non, ok_eq_tup, ok_eq_ref, ok_eq_it, ok_eq_in, ok_eq_nt, ok_eq_ni, ok_ne_int, ok_ne_str, ok_ne_bl, ok_ne_non, ok_ne_tup, ok_ne_ref, ok_ne_it, ok_ne_in, ok_ne_nt, ok_ne_ni, ok_isN, ok_notN, ok_ix_tup, ok_ix_scr, ok_ix_ref, ok_pNone, ok_pSome, ok_dSl, ok_sl_tup, ok_sl_ref, ok_dRev, ok_rev_ref, ok_lRev, ok_one, ok_two, ok_abs, ok_bint, ok_bint_bl, ok_max2, ok_min2, ok_len_tup, ok_len_scr, ok_len_str, ok_len_ref, ok_btup_tup, ok_btup_scr, ok_btup_ref, ok_dL, ok_lThen, ok_dV, ok_lV, ok_dR, ok_items_tup, ok_items_scr, ok_items_ref, ok_itemsR_scr, ok_itemsR_ref, ok_lId, ok_nTup, ok_nLen, ok_nSum, ok_nAny, ok_nAll, ok_rg1, ok_asI, ok_rg2, ok_lRg, ok_dTupRg, ok_meth0, ok_meth1, ok_methL, ok_chkL, ok_append, ok_extend, ok_pop, ok_popO, ok_sOf, ok_srcOf_tup, ok_srcOf_scr, ok_srcOf_kt, ok_srcOf_ref, ok_sOfL, ok_sEnum, ok_enumOf_tup, ok_enumOf_ref, ok_sRange1, ok_sRange2, ok_gName, ok_gNil, ok_gCons, ok_gTup, oks_ok, oks_thn, oks_nx, oks_bk, oks_ct, oks_expr, oks_ret, oks_asg, oks_set, oks_par2, oks_par3, oks_if, oks_put, ok_setP, ok_putL, ok_fnOf, ok_dDict, ok_kNil, ok_kCons, ok_aStar, ok_star_tup, ok_star_ref, oks_for, ok_comp, scal_int, scal_str, scal_bl, scal_non, scal_tup, scal_ref, dat_int, dat_str, dat_bl, dat_non, dat_tup, ok_look, ok_store, ok_lookO_int, ok_lookO_str, ok_storeO_int, ok_storeO_str, ok_in, ok_notIn, List.getElem?_cons_zero, List.getElem?_cons_succ, List.set_cons_zero, List.set_cons_succ, List.length_cons, List.length_nil, List.map_cons, List.map_nil, List.replicate_succ, List.replicate_zero, List.cons_append, List.nil_append, Nat.reduceSub, Nat.reduceAdd, Nat.zero_add, true_and, and_true, decide_eq_true_eq, decide_eq_false_iff_not, Bool.not_eq_true', Bool.not_eq_false', forall_const, Bool.false_eq_true, Bool.true_eq_false, false_implies, true_implies, reduceCtorEq, Bool.not_true, Bool.not_false, wipeE, reduceIte, and_self, Option.some.injEq, exists_eq_left', exists_eq_left, List.getElem?_nil, List.length_map, not_true_eq_false, not_false_eq_true, SZ, Nat.reduceLeDiff, Nat.reduceLT, Int.reduceLT, Int.reduceLE, Int.reduceAdd, Int.reduceSub, Int.reduceMul, Int.reduceNeg, Int.reducePow, Int.reduceToNat, Nat.reducePow, and_true, true_and, Nat.reduceMul, new_get, gN1, gN2, gN3, ok_nMaxN0]
              have fr : Fr [] m4 (m4 ++ [O.lst (List.map nI l1)] ++ [O.lst [P.int 0]] ++ [O.lst (List.map nI l1 ++ [P.int 0])]) := ((Fr.new _ _ _).trans (Fr.new _ _ _)).trans (Fr.new _ _ _)
              refine ⟨by omega, by decide, fun _ => ⟨is.fr fr, l1, hl1, hn1, _, _, _, _, _, _, _, _, _, _, _, _, _, rfl⟩, fun _ => ⟨is.fr fr, l1.dropLast, fun a ha => hl1 a (List.dropLast_subset _ ha), by simp; omega, _, _, _, _, _, _, _, _, _, _, _, _, _, by rw [cut_last, List.map_dropLast]⟩⟩
            · rintro ρ' m5 ⟨is, l, hl, hn, a2, a3, a4, a6, a7, a8, a9, a10, a11, a12, a13, a14, a15, rfl⟩
              have hb2 : ∀ a ∈ l, a < 2 ^ 40 := fun a ha => by have := hl a ha; omega
              have hb64 : ∀ a ∈ l, a < 18446744073709551616 := fun a ha => by have := hl a ha; omega
              have sh : ∀ m, Shows m (.tup (l.map nI)) (.tuple (l.map dI)) := fun m => shows_nats hb64 (by omega)
              refine seq_cut (fun ρ m => IsSrc m n c ∧ ∃ k, m[k]? = some (.lst []) ∧ ∃ a2 a3 a4 a6 a7 a8 a12 a13 a14 a15, ρ = [some (.scr (ns.map .int)), some (.ref n), a2, a3, a4, some (.tup (l.map nI)), a6, a7, a8, some (nI (xorN l)), some (.ref k), some (.str (PyData.tuple (l.map dI)).shown), a12, a13, a14, a15]) ?_ ?_
              · simp only [ok_ok, ok_ret, ok_bnd, ok_when, ok_opt, ok_getO, ok_putO, ok_newO, ok_dVar, ok_dC, ok_aNil, ok_aCons, ok_dOp, ok_dUn, ok_dTup, ok_lLst, ok_dNew, ok_dIf, ok_dCall, ok_tVal, ok_asB, ok_tTru, ok_truth_bl, ok_truth_int, ok_truth_non, ok_truth_tup, ok_tYes, ok_tAnd, ok_tOr, ok_tNot, ok_dAnd, ok_dOr, ok_uNot, ok_dChain, ok_add_int, ok_add_tup, ok_add_str, ok_add_ref, ok_sub, ok_mul, ok_mul_lst, ok_mulT, ok_div, ok_mod, ok_pow, ok_shl, ok_shr, ok_band, ok_bor, ok_xor, ok_neg, ok_lt, ok_le, ok_gt, ok_ge, ok_asD, ok_eqD, ok_eq_int, ok_eq_str, ok_eq_bl, ok_eq_non, ok_eq_tup, ok_eq_ref, ok_eq_it, ok_eq_in, ok_eq_nt, ok_eq_ni, ok_ne_int, ok_ne_str, ok_ne_bl, ok_ne_non, ok_ne_tup, ok_ne_ref, ok_ne_it, ok_ne_in, ok_ne_nt, ok_ne_ni, ok_isN, ok_notN, ok_ix_tup, ok_ix_scr, ok_ix_ref, ok_pNone, ok_pSome, ok_dSl, ok_sl_tup, ok_sl_ref, ok_dRev, ok_rev_ref, ok_lRev, ok_one, ok_two, ok_abs, ok_bint, ok_bint_bl, ok_max2, ok_min2, ok_len_tup, ok_len_scr, ok_len_str, ok_len_ref, ok_btup_tup, ok_btup_scr, ok_btup_ref, ok_dL, ok_lThen, ok_dV, ok_lV, ok_dR, ok_items_tup, ok_items_scr, ok_items_ref, ok_itemsR_scr, ok_itemsR_ref, ok_lId, ok_nTup, ok_nLen, ok_nSum, ok_nAny, ok_nAll, ok_rg1, ok_asI, ok_rg2, ok_lRg, ok_dTupRg, ok_meth0, ok_meth1, ok_methL, ok_chkL, ok_append, ok_extend, ok_pop, ok_popO, ok_sOf, ok_srcOf_tup, ok_srcOf_scr, ok_srcOf_kt, ok_srcOf_ref, ok_sOfL, ok_sEnum, ok_enumOf_tup, ok_enumOf_ref, ok_sRange1, ok_sRange2, ok_gName, ok_gNil, ok_gCons, ok_gTup, oks_ok, oks_thn, oks_nx, oks_bk, oks_ct, oks_expr, oks_ret, oks_asg, oks_set, oks_par2, oks_par3, oks_if, oks_put, ok_setP, ok_putL, ok_fnOf, ok_dDict, ok_kNil, ok_kCons, ok_aStar, ok_star_tup, ok_star_ref, oks_for, ok_comp, scal_int, scal_str, scal_bl, scal_non, scal_tup, scal_ref, dat_int, dat_str, dat_bl, dat_non, dat_tup, ok_look, ok_store, ok_lookO_int, ok_lookO_str, ok_storeO_int, ok_storeO_str, ok_in, ok_notIn, List.getElem?_cons_zero, List.getElem?_cons_succ, List.set_cons_zero, List.set_cons_succ, List.length_cons, List.length_nil, List.map_cons, List.map_nil, List.replicate_succ, List.replicate_zero, List.cons_append, List.nil_append, Nat.reduceSub, Nat.reduceAdd, Nat.zero_add, true_and, and_true, decide_eq_true_eq, decide_eq_false_iff_not, Bool.not_eq_true', Bool.not_eq_false', forall_const, Bool.false_eq_true, Bool.true_eq_false, false_implies, true_implies, reduceCtorEq, Bool.not_true, Bool.not_false, wipeE, reduceIte, and_self, Option.some.injEq, exists_eq_left', exists_eq_left, List.getElem?_nil, List.length_map, not_true_eq_false, not_false_eq_true, SZ, Nat.reduceLeDiff, Nat.reduceLT, Int.reduceLT, Int.reduceLE, Int.reduceAdd, Int.reduceSub, Int.reduceMul, Int.reduceNeg, Int.reducePow, Int.reduceToNat, Nat.reducePow, and_true, true_and, Nat.reduceMul, new_get, gN1, gN2, gN3]
                refine (xor_ok l hb2 (by omega) m5).mono ?_
                rintro p m6 ⟨rfl, fr6⟩
                rw [ok_repr (sh _)]
                exact ⟨is.fr (fr6.trans (Fr.new _ _ _)), m6.length, new_get _ _, _, _, _, _, _, _, _, _, _, _, rfl⟩
              · rintro ρ' m6 ⟨is, k, hk, a2, a3, a4, a6, a7, a8, a12, a13, a14, a15, rfl⟩
                refine seq_cut (fun ρ m => IsSrc m n c ∧ ∃ k, m[k]? = some (.lst (moveL (xorN l) (enumN l))) ∧ ∃ a2 a3 a4 a6 a7 a8 a12 a13 a14 a15, ρ = [some (.scr (ns.map .int)), some (.ref n), a2, a3, a4, some (.tup (l.map nI)), a6, a7, a8, some (nI (xorN l)), some (.ref k), some (.str (PyData.tuple (l.map dI)).shown), a12, a13, a14, a15]) ?_ ?_
                · simp only [ok_ok, ok_ret, ok_bnd, ok_when, ok_opt, ok_getO, ok_putO, ok_newO, ok_dVar, ok_dC, ok_aNil, ok_aCons, ok_dOp, ok_dUn, ok_dTup, ok_lLst, ok_dNew, ok_dIf, ok_dCall, ok_tVal, ok_asB, ok_tTru, ok_truth_bl, ok_truth_int, ok_truth_non, ok_truth_tup, ok_tYes, ok_tAnd, ok_tOr, ok_tNot, ok_dAnd, ok_dOr, ok_uNot, ok_dChain, ok_add_int, ok_add_tup, ok_add_str, ok_add_ref, ok_sub, ok_mul, ok_mul_lst, ok_mulT, ok_div, ok_mod, ok_pow, ok_shl, ok_shr, ok_band, ok_bor, ok_xor, ok_neg, ok_lt, ok_le, ok_gt, ok_ge, ok_asD, ok_eqD, ok_eq_int, ok_eq_str, ok_eq_bl, ok_eq_non, ok_eq_tup, ok_eq_ref, ok_eq_it, ok_eq_in, ok_eq_nt, ok_eq_ni, ok_ne_int, ok_ne_str, ok_ne_bl, ok_ne_non, ok_ne_tup, ok_ne_ref, ok_ne_it, ok_ne_in, ok_ne_nt, ok_ne_ni, ok_isN, ok_notN, ok_ix_tup, ok_ix_scr, ok_ix_ref, ok_pNone, ok_pSome, ok_dSl, ok_sl_tup, ok_sl_ref, ok_dRev, ok_rev_ref, ok_lRev, ok_one, ok_two, ok_abs, ok_bint, ok_bint_bl, ok_max2, ok_min2, ok_len_tup, ok_len_scr, ok_len_str, ok_len_ref, ok_btup_tup, ok_btup_scr, ok_btup_ref, ok_dL, ok_lThen, ok_dV, ok_lV, ok_dR, ok_items_tup, ok_items_scr, ok_items_ref, ok_itemsR_scr, ok_itemsR_ref, ok_lId, ok_nTup, ok_nLen, ok_nSum, ok_nAny, ok_nAll, ok_rg1, ok_asI, ok_rg2, ok_lRg, ok_dTupRg, ok_meth0, ok_meth1, ok_methL, ok_chkL, ok_append, ok_extend, ok_pop, ok_popO, ok_sOf, ok_srcOf_tup, ok_srcOf_scr, ok_srcOf_kt, ok_srcOf_ref, ok_sOfL, ok_sEnum, ok_enumOf_tup, ok_enumOf_ref, ok_sRange1, ok_sRange2, ok_gName, ok_gNil, ok_gCons, ok_gTup, oks_ok, oks_thn, oks_nx, oks_bk, oks_ct, oks_expr, oks_ret, oks_asg, oks_set, oks_par2, oks_par3, oks_if, oks_put, ok_setP, ok_putL, ok_fnOf, ok_dDict, ok_kNil, ok_kCons, ok_aStar, ok_star_tup, ok_star_ref, oks_for, ok_comp, scal_int, scal_str, scal_bl, scal_non, scal_tup, scal_ref, dat_int, dat_str, dat_bl, dat_non, dat_tup, ok_look, ok_store, ok_lookO_int, ok_lookO_str, ok_storeO_int, ok_storeO_str, ok_in, ok_notIn, List.getElem?_cons_zero, List.getElem?_cons_succ, List.set_cons_zero, List.set_cons_succ, List.length_cons, List.length_nil, List.map_cons, List.map_nil, List.replicate_succ, List.replicate_zero, List.cons_append, List.nil_append, Nat.reduceSub, Nat.reduceAdd, Nat.zero_add, true_and, and_true, decide_eq_true_eq, decide_eq_false_iff_not, Bool.not_eq_true', Bool.not_eq_false', forall_const, Bool.false_eq_true, Bool.true_eq_false, false_implies, true_implies, reduceCtorEq, Bool.not_true, Bool.not_false, wipeE, reduceIte, and_self, Option.some.injEq, exists_eq_left', exists_eq_left, List.getElem?_nil, List.length_map, not_true_eq_false, not_false_eq_true, SZ, Nat.reduceLeDiff, Nat.reduceLT, Int.reduceLT, Int.reduceLE, Int.reduceAdd, Int.reduceSub, Int.reduceMul, Int.reduceNeg, Int.reducePow, Int.reduceToNat, Nat.reducePow, and_true, true_and, Nat.reduceMul, new_get, gN1, gN2, gN3]
                  refine for_seq (numbered_eq l 0) (fun done ρ m => IsSrc m n c ∧ ∃ k, m[k]? = some (.lst (moveL (xorN l) done)) ∧ ∃ a2 a3 a4 a6 a7 a8 a12 a13 a14 a15, ρ = [some (.scr (ns.map .int)), some (.ref n), a2, a3, a4, some (.tup (l.map nI)), a6, a7, a8, some (nI (xorN l)), some (.ref k), some (.str (PyData.tuple (l.map dI)).shown), a12, a13, a14, a15]) ?_ ?_ ?_
                  · exact ⟨is, k, hk, _, _, _, _, _, _, _, _, _, _, rfl⟩
                  · rintro done ⟨i, a⟩ rest ρ m7 e ⟨is, k, hk, a2, a3, a4, a6, a7, a8, a12, a13, a14, a15, rfl⟩
                    simp only [ok_ok, ok_ret, ok_bnd, ok_when, ok_opt, ok_getO, ok_putO, ok_newO, ok_dVar, ok_dC, ok_aNil, ok_aCons, ok_dOp, ok_dUn, ok_dTup, ok_lLst, ok_dNew, ok_dIf, ok_dCall, ok_tVal, ok_asB, ok_tTru, ok_truth_bl, ok_truth_int, ok_truth_non, ok_truth_tup, ok_tYes, ok_tAnd, ok_tOr, ok_tNot, ok_dAnd, ok_dOr, ok_uNot, ok_dChain, ok_add_int, ok_add_tup, ok_add_str, ok_add_ref, ok_sub, ok_mul, ok_mul_lst, ok_mulT, ok_div, ok_mod, ok_pow, ok_shl, ok_shr, ok_band, ok_bor, ok_xor, ok_neg, ok_lt, ok_le, ok_gt, ok_ge, ok_asD, ok_eqD, ok_eq_int, ok_eq_str, ok_eq_bl, ok_eq_non, ok_eq_tup, ok_eq_ref, ok_eq_it, ok_eq_in, ok_eq_nt, ok_eq_ni, ok_ne_int, ok_ne_str, ok_ne_bl, ok_ne_non, ok_ne_tup, ok_ne_ref, ok_ne_it, ok_ne_in, ok_ne_nt, ok_ne_ni, ok_isN, ok_notN, ok_ix_tup, ok_ix_scr, ok_ix_ref, ok_pNone, ok_pSome, ok_dSl, ok_sl_tup, ok_sl_ref, ok_dRev, ok_rev_ref, ok_lRev, ok_one, ok_two, ok_abs, ok_bint, ok_bint_bl, ok_max2, ok_min2, ok_len_tup, ok_len_scr, ok_len_str, ok_len_ref, ok_btup_tup, ok_btup_scr, ok_btup_ref, ok_dL, ok_lThen, ok_dV, ok_lV, ok_dR, ok_items_tup, ok_items_scr, ok_items_ref, ok_itemsR_scr, ok_itemsR_ref, ok_lId, ok_nTup, ok_nLen, ok_nSum, ok_nAny, ok_nAll, ok_rg1, ok_asI, ok_rg2, ok_lRg, ok_dTupRg, ok_meth0, ok_meth1, ok_methL, ok_chkL, ok_append, ok_extend, ok_pop, ok_popO, ok_sOf, ok_srcOf_tup, ok_srcOf_scr, ok_srcOf_kt, ok_srcOf_ref, ok_sOfL, ok_sEnum, ok_enumOf_tup, ok_enumOf_ref, ok_sRange1, ok_sRange2, ok_gName, ok_gNil, ok_gCons, ok_gTup, oks_ok, oks_thn, oks_nx, oks_bk, oks_ct, oks_seq, oks_expr, oks_ret, oks_asg, oks_set, oks_par2, oks_par3, oks_if, oks_put, ok_setP, ok_putL, ok_fnOf, ok_dDict, ok_kNil, ok_kCons, ok_aStar, ok_star_tup, ok_star_ref, oks_for, ok_comp, scal_int, scal_str, scal_bl, scal_non, scal_tup, scal_ref, dat_int, dat_str, dat_bl, dat_non, dat_tup, ok_look, ok_store, ok_lookO_int, ok_lookO_str, ok_storeO_int, ok_storeO_str, ok_in, ok_notIn, List.getElem?_cons_zero, List.getElem?_cons_succ, List.set_cons_zero, List.set_cons_succ, List.length_cons, List.length_nil, List.map_cons, List.map_nil, List.replicate_succ, List.replicate_zero, List.cons_append, List.nil_append, Nat.reduceSub, Nat.reduceAdd, Nat.zero_add, true_and, and_true, decide_eq_true_eq, decide_eq_false_iff_not, Bool.not_eq_true', Bool.not_eq_false', forall_const, Bool.false_eq_true, Bool.true_eq_false, false_implies, true_implies, reduceCtorEq, Bool.not_true, Bool.not_false, wipeE, reduceIte, and_self, Option.some.injEq, exists_eq_left', exists_eq_left, List.getElem?_nil, List.length_map, not_true_eq_false, not_false_eq_true, SZ, Nat.reduceLeDiff, Nat.reduceLT, Int.reduceLT, Int.reduceLE, Int.reduceAdd, Int.reduceSub, Int.reduceMul, Int.reduceNeg, Int.reducePow, Int.reduceToNat, Nat.reducePow, and_true, true_and, Nat.reduceMul, new_get, gN1, gN2, gN3]
                    obtain ⟨hi, hs⟩ := enum_split e
                    have ei : ((i : Int) + 1) = ((i + 1 : Nat) : Int) := by omega
                    rw [ei, cut_take l i (by omega), cut_drop l (i + 1) (by omega), ← List.map_append]
                    refine ⟨by simp; omega, ?_⟩
                    refine (xor_ok _ (fun b hb => ?_) (by simp; omega) m7).mono ?_
                    · rcases List.mem_append.mp hb with hb | hb
                      · exact hb2 b (List.mem_of_mem_take hb)
                      · exact hb2 b (List.mem_of_mem_drop hb)
                    · rintro p m8 ⟨rfl, fr8⟩
                      rw [xor_rest hs]
                      simp only [ok_ok, ok_ret, ok_bnd, ok_when, ok_opt, ok_getO, ok_putO, ok_newO, ok_dVar, ok_dC, ok_aNil, ok_aCons, ok_dOp, ok_dUn, ok_dTup, ok_lLst, ok_dNew, ok_dIf, ok_dCall, ok_tVal, ok_asB, ok_tTru, ok_truth_bl, ok_truth_int, ok_truth_non, ok_truth_tup, ok_tYes, ok_tAnd, ok_tOr, ok_tNot, ok_dAnd, ok_dOr, ok_uNot, ok_dChain, ok_add_int, ok_add_tup, ok_add_str, ok_add_ref, ok_sub, ok_mul, ok_mul_lst, ok_mulT, ok_div, ok_mod, ok_pow, ok_shl, ok_shr, ok_band, ok_bor, ok_xor, ok_neg, ok_lt, ok_le, ok_gt, ok_ge, ok_asD, ok_eqD, ok_eq_int, ok_eq_str, ok_eq_bl, ok_eq_non, ok_eq_tup, ok_eq_ref, ok_eq_it, ok_eq_in, ok_eq_nt, ok_eq_ni, ok_ne_int, ok_ne_str, ok_ne_bl, ok_ne_non, ok_ne_tup, ok_ne_ref, ok_ne_it, ok_ne_in, ok_ne_nt, ok_ne_ni, ok_isN, ok_notN, ok_ix_tup, ok_ix_scr, ok_ix_ref, ok_pNone, ok_pSome, ok_dSl, ok_sl_tup, ok_sl_ref, ok_dRev, ok_rev_ref, ok_lRev, ok_one, ok_two, ok_abs, ok_bint, ok_bint_bl, ok_max2, ok_min2, ok_len_tup, ok_len_scr, ok_len_str, ok_len_ref, ok_btup_tup, ok_btup_scr, ok_btup_ref, ok_dL, ok_lThen, ok_dV, ok_lV, ok_dR, ok_items_tup, ok_items_scr, ok_items_ref, ok_itemsR_scr, ok_itemsR_ref, ok_lId, ok_nTup, ok_nLen, ok_nSum, ok_nAny, ok_nAll, ok_rg1, ok_asI, ok_rg2, ok_lRg, ok_dTupRg, ok_meth0, ok_meth1, ok_methL, ok_chkL, ok_append, ok_extend, ok_pop, ok_popO, ok_sOf, ok_srcOf_tup, ok_srcOf_scr, ok_srcOf_kt, ok_srcOf_ref, ok_sOfL, ok_sEnum, ok_enumOf_tup, ok_enumOf_ref, ok_sRange1, ok_sRange2, ok_gName, ok_gNil, ok_gCons, ok_gTup, oks_ok, oks_thn, oks_nx, oks_bk, oks_ct, oks_seq, oks_expr, oks_ret, oks_asg, oks_set, oks_par2, oks_par3, oks_if, oks_put, ok_setP, ok_putL, ok_fnOf, ok_dDict, ok_kNil, ok_kCons, ok_aStar, ok_star_tup, ok_star_ref, oks_for, ok_comp, scal_int, scal_str, scal_bl, scal_non, scal_tup, scal_ref, dat_int, dat_str, dat_bl, dat_non, dat_tup, ok_look, ok_store, ok_lookO_int, ok_lookO_str, ok_storeO_int, ok_storeO_str, ok_in, ok_notIn, List.getElem?_cons_zero, List.getElem?_cons_succ, List.set_cons_zero, List.set_cons_succ, List.length_cons, List.length_nil, List.map_cons, List.map_nil, List.replicate_succ, List.replicate_zero, List.cons_append, List.nil_append, Nat.reduceSub, Nat.reduceAdd, Nat.zero_add, true_and, and_true, decide_eq_true_eq, decide_eq_false_iff_not, Bool.not_eq_true', Bool.not_eq_false', forall_const, Bool.false_eq_true, Bool.true_eq_false, false_implies, true_implies, reduceCtorEq, Bool.not_true, Bool.not_false, wipeE, reduceIte, and_self, Option.some.injEq, exists_eq_left', exists_eq_left, List.getElem?_nil, List.length_map, not_true_eq_false, not_false_eq_true, SZ, Nat.reduceLeDiff, Nat.reduceLT, Int.reduceLT, Int.reduceLE, Int.reduceAdd, Int.reduceSub, Int.reduceMul, Int.reduceNeg, Int.reducePow, Int.reduceToNat, Nat.reducePow, and_true, true_and, Nat.reduceMul, new_get, gN1, gN2, gN3]
                      have hk8 := fr8.get hk
                      have hk9 := (Fr.new [] m8 (.lst [pI (i, a ^^^ xorN l)])).get hk8
                      have is9 := is.fr (fr8.trans (Fr.new [] m8 (.lst [pI (i, a ^^^ xorN l)])))
                      generalize hq : (if ((a ^^^ xorN l : Nat) : Int) < (a : Int) then (1 : Int) else 0) = q
                      have hq1 : q = 0 ∨ q = 1 := by split at hq <;> omega
                      have hL : (List.replicate q.toNat [pI (i, a ^^^ xorN l)]).flatten = moveL (xorN l) [(i, a)] := by
                        by_cases hlt : a ^^^ xorN l < a
                        · rw [if_pos (by omega)] at hq
                          subst hq
                          simp [moveL, mvN, hlt]
                        · rw [if_neg (by omega)] at hq
                          subst hq
                          simp [moveL, mvN, hlt]
                      rw [hL]
                      have hk10 := (Fr.new [] _ (.lst (moveL (xorN l) [(i, a)]))).get hk9
                      have is10 := is9.fr (Fr.new [] _ (.lst (moveL (xorN l) [(i, a)])))
                      simp only [ok_ok, ok_ret, ok_bnd, ok_when, ok_opt, ok_getO, ok_putO, ok_newO, ok_dVar, ok_dC, ok_aNil, ok_aCons, ok_dOp, ok_dUn, ok_dTup, ok_lLst, ok_dNew, ok_dIf, ok_dCall, ok_tVal, ok_asB, ok_tTru, ok_truth_bl, ok_truth_int, ok_truth_non, ok_truth_tup, ok_tYes, ok_tAnd, ok_tOr, ok_tNot, ok_dAnd, ok_dOr, ok_uNot, ok_dChain, ok_add_int, ok_add_tup, ok_add_str, ok_add_ref, ok_sub, ok_mul, ok_mul_lst, ok_mulT, ok_div, ok_mod, ok_pow, ok_shl, ok_shr, ok_band, ok_bor, ok_xor, ok_neg, ok_lt, ok_le, ok_gt, ok_ge, ok_asD, ok_eqD, ok_eq_int, ok_eq_str, ok_eq_bl, ok_eq_non, ok_eq_tup, ok_eq_ref, ok_eq_it, ok_eq_in, ok_eq_nt, ok_eq_ni, ok_ne_int, ok_ne_str, ok_ne_bl, ok_ne_non, ok_ne_tup, ok_ne_ref, ok_ne_it, ok_ne_in, ok_ne_nt, ok_ne_ni, ok_isN, ok_notN, ok_ix_tup, ok_ix_scr, ok_ix_ref, ok_pNone, ok_pSome, ok_dSl, ok_sl_tup, ok_sl_ref, ok_dRev, ok_rev_ref, ok_lRev, ok_one, ok_two, ok_abs, ok_bint, ok_bint_bl, ok_max2, ok_min2, ok_len_tup, ok_len_scr, ok_len_str, ok_len_ref, ok_btup_tup, ok_btup_scr, ok_btup_ref, ok_dL, ok_lThen, ok_dV, ok_lV, ok_dR, ok_items_tup, ok_items_scr, ok_items_ref, ok_itemsR_scr, ok_itemsR_ref, ok_lId, ok_nTup, ok_nLen, ok_nSum, ok_nAny, ok_nAll, ok_rg1, ok_asI, ok_rg2, ok_lRg, ok_dTupRg, ok_meth0, ok_meth1, ok_methL, ok_chkL, ok_append, ok_extend, ok_pop, ok_popO, ok_sOf, ok_srcOf_tup, ok_srcOf_scr, ok_srcOf_kt, ok_srcOf_ref, ok_sOfL, ok_sEnum, ok_enumOf_tup, ok_enumOf_ref, ok_sRange1, ok_sRange2, ok_gName, ok_gNil, ok_gCons, ok_gTup, oks_ok, oks_thn, oks_nx, oks_bk, oks_ct, oks_seq, oks_expr, oks_ret, oks_asg, oks_set, oks_par2, oks_par3, oks_if, oks_put, ok_setP, ok_putL, ok_fnOf, ok_dDict, ok_kNil, ok_kCons, ok_aStar, ok_star_tup, ok_star_ref, oks_for, ok_comp, scal_int, scal_str, scal_bl, scal_non, scal_tup, scal_ref, dat_int, dat_str, dat_bl, dat_non, dat_tup, ok_look, ok_store, ok_lookO_int, ok_lookO_str, ok_storeO_int, ok_storeO_str, ok_in, ok_notIn, List.getElem?_cons_zero, List.getElem?_cons_succ, List.set_cons_zero, List.set_cons_succ, List.length_cons, List.length_nil, List.map_cons, List.map_nil, List.replicate_succ, List.replicate_zero, List.cons_append, List.nil_append, Nat.reduceSub, Nat.reduceAdd, Nat.zero_add, true_and, and_true, decide_eq_true_eq, decide_eq_false_iff_not, Bool.not_eq_true', Bool.not_eq_false', forall_const, Bool.false_eq_true, Bool.true_eq_false, false_implies, true_implies, reduceCtorEq, Bool.not_true, Bool.not_false, wipeE, reduceIte, and_self, Option.some.injEq, exists_eq_left', exists_eq_left, List.getElem?_nil, List.length_map, not_true_eq_false, not_false_eq_true, SZ, Nat.reduceLeDiff, Nat.reduceLT, Int.reduceLT, Int.reduceLE, Int.reduceAdd, Int.reduceSub, Int.reduceMul, Int.reduceNeg, Int.reducePow, Int.reduceToNat, Nat.reducePow, and_true, true_and, Nat.reduceMul, new_get, gN1, gN2, gN3, hk10]
                      have hd : done.length ≤ 11 := by
                        have := congrArg List.length e
                        simp at this
                        omega
                      have hm1 := moveL_len (xorN l) done
                      have hm2 := moveL_len (xorN l) [(i, a)]
                      refine ⟨?_, by simp at hm2; omega, is10.fr (Fr.new [] _ _), _, ?_, _, _, _, _, _, _, _, _, _, _, rfl⟩
                      · simp only [Bool.and_eq_true, decide_eq_true_eq]
                        omega
                      · rw [new_get, moveL_app]
                  · rintro ρ m7 ⟨is, k, hk, a2, a3, a4, a6, a7, a8, a12, a13, a14, a15, rfl⟩
                    exact ⟨rfl, is, k, hk, _, _, _, _, _, _, _, _, _, _, rfl⟩
                · rintro ρ' m7 ⟨is, k, hk, a2, a3, a4, a6, a7, a8, a12, a13, a14, a15, rfl⟩
                  refine seq_cut (fun ρ m => IsSrc m n c ∧ m[k]? = some (.lst (moveL (xorN l) (enumN l))) ∧ (∃ t, m[t]? = some (.lst [nI (xorN l), .bl (decide (xorN l ≠ 0)), .tup (moveL (xorN l) (enumN l))]) ∧ ∃ a2 a3 a4 a7 a8 a12 a13 a14 a15, ρ = [some (.scr (ns.map .int)), some (.ref n), a2, a3, a4, some (.tup (l.map nI)), some (.ref t), a7, a8, some (nI (xorN l)), some (.ref k), some (.str (PyData.tuple (l.map dI)).shown), a12, a13, a14, a15])) ?_ ?_
                  · simp only [ok_ok, ok_ret, ok_bnd, ok_when, ok_opt, ok_getO, ok_putO, ok_newO, ok_dVar, ok_dC, ok_aNil, ok_aCons, ok_dOp, ok_dUn, ok_dTup, ok_lLst, ok_dNew, ok_dIf, ok_dCall, ok_tVal, ok_asB, ok_tTru, ok_truth_bl, ok_truth_int, ok_truth_non, ok_truth_tup, ok_tYes, ok_tAnd, ok_tOr, ok_tNot, ok_dAnd, ok_dOr, ok_uNot, ok_dChain, ok_add_int, ok_add_tup, ok_add_str, ok_add_ref, ok_sub, ok_mul, ok_mul_lst, ok_mulT, ok_div, ok_mod, ok_pow, ok_shl, ok_shr, ok_band, ok_bor, ok_xor, ok_neg, ok_lt, ok_le, ok_gt, ok_ge, ok_asD, ok_eqD, ok_eq_int, ok_eq_str, ok_eq_bl, ok_eq_non, ok_eq_tup, ok_eq_ref, ok_eq_it, ok_eq_in, ok_eq_nt, ok_eq_ni, ok_ne_int, ok_ne_str, ok_ne_bl, ok_ne_non, ok_ne_tup, ok_ne_ref, ok_ne_it, ok_ne_in, ok_ne_nt, ok_ne_ni, ok_isN, ok_notN, ok_ix_tup, ok_ix_scr, ok_ix_ref, ok_pNone, ok_pSome, ok_dSl, ok_sl_tup, ok_sl_ref, ok_dRev, ok_rev_ref, ok_lRev, ok_one, ok_two, ok_abs, ok_bint, ok_bint_bl, ok_max2, ok_min2, ok_len_tup, ok_len_scr, ok_len_str, ok_len_ref, ok_btup_tup, ok_btup_scr, ok_btup_ref, ok_dL, ok_lThen, ok_dV, ok_lV, ok_dR, ok_items_tup, ok_items_scr, ok_items_ref, ok_itemsR_scr, ok_itemsR_ref, ok_lId, ok_nTup, ok_nLen, ok_nSum, ok_nAny, ok_nAll, ok_rg1, ok_asI, ok_rg2, ok_lRg, ok_dTupRg, ok_meth0, ok_meth1, ok_methL, ok_chkL, ok_append, ok_extend, ok_pop, ok_popO, ok_sOf, ok_srcOf_tup, ok_srcOf_scr, ok_srcOf_kt, ok_srcOf_ref, ok_sOfL, ok_sEnum, ok_enumOf_tup, ok_enumOf_ref, ok_sRange1, ok_sRange2, ok_gName, ok_gNil, ok_gCons, ok_gTup, oks_ok, oks_thn, oks_nx, oks_bk, oks_ct, oks_expr, oks_ret, oks_asg, oks_set, oks_par2, oks_par3, oks_if, oks_put, ok_setP, ok_putL, ok_fnOf, ok_dDict, ok_kNil, ok_kCons, ok_aStar, ok_star_tup, ok_star_ref, oks_for, ok_comp, scal_int, scal_str, scal_bl, scal_non, scal_tup, scal_ref, dat_int, dat_str, dat_bl, dat_non, dat_tup, ok_look, ok_store, ok_lookO_int, ok_lookO_str, ok_storeO_int, ok_storeO_str, ok_in, ok_notIn, List.getElem?_cons_zero, List.getElem?_cons_succ, List.set_cons_zero, List.set_cons_succ, List.length_cons, List.length_nil, List.map_cons, List.map_nil, List.replicate_succ, List.replicate_zero, List.cons_append, List.nil_append, Nat.reduceSub, Nat.reduceAdd, Nat.zero_add, true_and, and_true, decide_eq_true_eq, decide_eq_false_iff_not, Bool.not_eq_true', Bool.not_eq_false', forall_const, Bool.false_eq_true, Bool.true_eq_false, false_implies, true_implies, reduceCtorEq, Bool.not_true, Bool.not_false, wipeE, reduceIte, and_self, Option.some.injEq, exists_eq_left', exists_eq_left, List.getElem?_nil, List.length_map, not_true_eq_false, not_false_eq_true, SZ, Nat.reduceLeDiff, Nat.reduceLT, Int.reduceLT, Int.reduceLE, Int.reduceAdd, Int.reduceSub, Int.reduceMul, Int.reduceNeg, Int.reducePow, Int.reduceToNat, Nat.reducePow, and_true, true_and, Nat.reduceMul, new_get, gN1, gN2, gN3]
                    refine (sum_ok l m7).mono ?_
                    rintro p m8 ⟨rfl, rfl⟩
                    refine (first_ok l m8).mono ?_
                    rintro p m9 ⟨rfl, rfl⟩
                    refine (moves_ok l (by simp only [SZ]; omega) m9).mono ?_
                    rintro p m10 ⟨rfl, rfl⟩
                    exact ⟨is.fr (Fr.new [] _ _), (Fr.new [] _ _).get hk, _, new_get _ _, _, _, _, _, _, _, _, _, _, rfl⟩
                  · rintro ρ' m8 ⟨is, hk, t, ht, a2, a3, a4, a7, a8, a12, a13, a14, a15, rfl⟩
                    refine seq_cut (fun ρ m => IsSrc m n c ∧ m[k]? = some (.lst (moveL (xorN l) (enumN l))) ∧ ∃ a2 a3 a4 a6 a7 a8 a11 a12 a13 a14 a15, ρ = [some (.scr (ns.map .int)), some (.ref n), a2, a3, a4, some (.tup (l.map nI)), a6, a7, a8, some (nI (xorN l)), some (.ref k), a11, a12, a13, a14, a15]) ?_ ?_
                    · have hb : (!decide (((xorN l : Nat) : Int) = 0)) = decide (xorN l ≠ 0) := by
                        by_cases h0 : xorN l = 0 <;> simp [h0]
                      have S : Shows m8 (.ref t) (.list (toldD l)) := ⟨dat_lst ht (told_dat m8 57 l), by simp only [PyData.showable]; exact (told_small hl hn).1, by simp only [wgt]; exact (told_small hl hn).2⟩
                      simp only [ok_ok, ok_ret, ok_bnd, ok_when, ok_opt, ok_getO, ok_putO, ok_newO, ok_dVar, ok_dC, ok_aNil, ok_aCons, ok_dOp, ok_dUn, ok_dTup, ok_lLst, ok_dNew, ok_dIf, ok_dCall, ok_tVal, ok_asB, ok_tTru, ok_truth_bl, ok_truth_int, ok_truth_non, ok_truth_tup, ok_tYes, ok_tAnd, ok_tOr, ok_tNot, ok_dAnd, ok_dOr, ok_uNot, ok_dChain, ok_add_int, ok_add_tup, ok_add_str, ok_add_ref, ok_sub, ok_mul, ok_mul_lst, ok_mulT, ok_div, ok_mod, ok_pow, ok_shl, ok_shr, ok_band, ok_bor, ok_xor, ok_neg, ok_lt, ok_le, ok_gt, ok_ge, ok_asD, ok_eqD, ok_eq_int, ok_eq_str, ok_eq_bl, ok_eq_non, ok_eq_tup, ok_eq_ref, ok_eq_it, ok_eq_in, ok_eq_nt, ok_eq_ni, ok_ne_int, ok_ne_str, ok_ne_bl, ok_ne_non, ok_ne_tup, ok_ne_ref, ok_ne_it, ok_ne_in, ok_ne_nt, ok_ne_ni, ok_isN, ok_notN, ok_ix_tup, ok_ix_scr, ok_ix_ref, ok_pNone, ok_pSome, ok_dSl, ok_sl_tup, ok_sl_ref, ok_dRev, ok_rev_ref, ok_lRev, ok_one, ok_two, ok_abs, ok_bint, ok_bint_bl, ok_max2, ok_min2, ok_len_tup, ok_len_scr, ok_len_str, ok_len_ref, ok_btup_tup, ok_btup_scr, ok_btup_ref, ok_dL, ok_lThen, ok_dV, ok_lV, ok_dR, ok_items_tup, ok_items_scr, ok_items_ref, ok_itemsR_scr, ok_itemsR_ref, ok_lId, ok_nTup, ok_nLen, ok_nSum, ok_nAny, ok_nAll, ok_rg1, ok_asI, ok_rg2, ok_lRg, ok_dTupRg, ok_meth0, ok_meth1, ok_methL, ok_chkL, ok_append, ok_extend, ok_pop, ok_popO, ok_sOf, ok_srcOf_tup, ok_srcOf_scr, ok_srcOf_kt, ok_srcOf_ref, ok_sOfL, ok_sEnum, ok_enumOf_tup, ok_enumOf_ref, ok_sRange1, ok_sRange2, ok_gName, ok_gNil, ok_gCons, ok_gTup, oks_ok, oks_thn, oks_nx, oks_bk, oks_ct, oks_expr, oks_ret, oks_asg, oks_set, oks_par2, oks_par3, oks_if, oks_put, ok_setP, ok_putL, ok_fnOf, ok_dDict, ok_kNil, ok_kCons, ok_aStar, ok_star_tup, ok_star_ref, oks_for, ok_comp, scal_int, scal_str, scal_bl, scal_non, scal_tup, scal_ref, dat_int, dat_str, dat_bl, dat_non, dat_tup, ok_look, ok_store, ok_lookO_int, ok_lookO_str, ok_storeO_int, ok_storeO_str, ok_in, ok_notIn, List.getElem?_cons_zero, List.getElem?_cons_succ, List.set_cons_zero, List.set_cons_succ, List.length_cons, List.length_nil, List.map_cons, List.map_nil, List.replicate_succ, List.replicate_zero, List.cons_append, List.nil_append, Nat.reduceSub, Nat.reduceAdd, Nat.zero_add, true_and, and_true, decide_eq_true_eq, decide_eq_false_iff_not, Bool.not_eq_true', Bool.not_eq_false', forall_const, Bool.false_eq_true, Bool.true_eq_false, false_implies, true_implies, reduceCtorEq, Bool.not_true, Bool.not_false, wipeE, reduceIte, and_self, Option.some.injEq, exists_eq_left', exists_eq_left, List.getElem?_nil, List.length_map, not_true_eq_false, not_false_eq_true, SZ, Nat.reduceLeDiff, Nat.reduceLT, Int.reduceLT, Int.reduceLE, Int.reduceAdd, Int.reduceSub, Int.reduceMul, Int.reduceNeg, Int.reducePow, Int.reduceToNat, Nat.reducePow, and_true, true_and, Nat.reduceMul, new_get, gN1, gN2, gN3, hk, ok_repr S, hb, ok_nRepr (told_dat m8 58 l) (told_small hl hn).1 (told_small hl hn).2, ok_repr (sh m8)]
                      exact ⟨is, _, _, _, _, _, _, _, _, _, _, _, rfl⟩
                    · rintro ρ' m9 ⟨is, hk, a2, a3, a4, a6, a7, a8, a11, a12, a13, a14, a15, rfl⟩
                      refine seq_cut (fun ρ m => IsSrc m n c ∧ ∃ a2 a3 a4 a5 a6 a7 a8 a9 a10 a11 a12 a13 a14 a15, ρ = [some (.scr (ns.map .int)), some (.ref n), a2, a3, a4, a5, a6, a7, a8, a9, a10, a11, a12, a13, a14, a15]) ?_ ?_
                      · simp only [ok_ok, ok_ret, ok_bnd, ok_when, ok_opt, ok_getO, ok_putO, ok_newO, ok_dVar, ok_dC, ok_aNil, ok_aCons, ok_dOp, ok_dUn, ok_dTup, ok_lLst, ok_dNew, ok_dIf, ok_dCall, ok_tVal, ok_asB, ok_tTru, ok_truth_bl, ok_truth_int, ok_truth_non, ok_truth_tup, ok_tYes, ok_tAnd, ok_tOr, ok_tNot, ok_dAnd, ok_dOr, ok_uNot, ok_dChain, ok_add_int, ok_add_tup, ok_add_str, ok_add_ref, ok_sub, ok_mul, ok_mul_lst, ok_mulT, ok_div, ok_mod, ok_pow, ok_shl, ok_shr, ok_band, ok_bor, ok_xor, ok_neg, ok_lt, ok_le, ok_gt, ok_ge, ok_asD, ok_eqD, ok_eq_int, ok_eq_str, ok_eq_bl, ok_eq_non, ok_eq_tup, ok_eq_ref, ok_eq_it, ok_eq_in, ok_eq_nt, ok_eq_ni, ok_ne_int, ok_ne_str, ok_ne_bl, ok_ne_non, ok_ne_tup, ok_ne_ref, ok_ne_it, ok_ne_in, ok_ne_nt, ok_ne_ni, ok_isN, ok_notN, ok_ix_tup, ok_ix_scr, ok_ix_ref, ok_pNone, ok_pSome, ok_dSl, ok_sl_tup, ok_sl_ref, ok_dRev, ok_rev_ref, ok_lRev, ok_one, ok_two, ok_abs, ok_bint, ok_bint_bl, ok_max2, ok_min2, ok_len_tup, ok_len_scr, ok_len_str, ok_len_ref, ok_btup_tup, ok_btup_scr, ok_btup_ref, ok_dL, ok_lThen, ok_dV, ok_lV, ok_dR, ok_items_tup, ok_items_scr, ok_items_ref, ok_itemsR_scr, ok_itemsR_ref, ok_lId, ok_nTup, ok_nLen, ok_nSum, ok_nAny, ok_nAll, ok_rg1, ok_asI, ok_rg2, ok_lRg, ok_dTupRg, ok_meth0, ok_meth1, ok_methL, ok_chkL, ok_append, ok_extend, ok_pop, ok_popO, ok_sOf, ok_srcOf_tup, ok_srcOf_scr, ok_srcOf_kt, ok_srcOf_ref, ok_sOfL, ok_sEnum, ok_enumOf_tup, ok_enumOf_ref, ok_sRange1, ok_sRange2, ok_gName, ok_gNil, ok_gCons, ok_gTup, oks_ok, oks_thn, oks_nx, oks_bk, oks_ct, oks_expr, oks_ret, oks_asg, oks_set, oks_par2, oks_par3, oks_if, oks_put, ok_setP, ok_putL, ok_fnOf, ok_dDict, ok_kNil, ok_kCons, ok_aStar, ok_star_tup, ok_star_ref, oks_for, ok_comp, scal_int, scal_str, scal_bl, scal_non, scal_tup, scal_ref, dat_int, dat_str, dat_bl, dat_non, dat_tup, ok_look, ok_store, ok_lookO_int, ok_lookO_str, ok_storeO_int, ok_storeO_str, ok_in, ok_notIn, List.getElem?_cons_zero, List.getElem?_cons_succ, List.set_cons_zero, List.set_cons_succ, List.length_cons, List.length_nil, List.map_cons, List.map_nil, List.replicate_succ, List.replicate_zero, List.cons_append, List.nil_append, Nat.reduceSub, Nat.reduceAdd, Nat.zero_add, true_and, and_true, decide_eq_true_eq, decide_eq_false_iff_not, Bool.not_eq_true', Bool.not_eq_false', forall_const, Bool.false_eq_true, Bool.true_eq_false, false_implies, true_implies, reduceCtorEq, Bool.not_true, Bool.not_false, wipeE, reduceIte, and_self, Option.some.injEq, exists_eq_left', exists_eq_left, List.getElem?_nil, List.length_map, not_true_eq_false, not_false_eq_true, SZ, Nat.reduceLeDiff, Nat.reduceLT, Int.reduceLT, Int.reduceLE, Int.reduceAdd, Int.reduceSub, Int.reduceMul, Int.reduceNeg, Int.reducePow, Int.reduceToNat, Nat.reducePow, and_true, true_and, Nat.reduceMul, new_get, gN1, gN2, gN3, hk]
                        refine ⟨fun h0 => ⟨fun h1 => ?_, fun h1 => ⟨is, _, _, _, _, _, _, _, _, _, _, _, _, _, _, rfl⟩⟩, fun h0 => ⟨is, _, _, _, _, _, _, _, _, _, _, _, _, _, _, rfl⟩⟩
                        have h2 := mvs_odd (l := l) (by omega)
                        have h3 : (moveL (xorN l) (enumN l)).length = (mvs l).length := by simp [moveL]
                        omega
                      · rintro ρ' m10 ⟨is, a2, a3, a4, a5, a6, a7, a8, a9, a10, a11, a12, a13, a14, a15, rfl⟩
                        refine seq_cut (fun ρ m => IsSrc m n c ∧ ∃ l ∈ few, ∃ a2 a3 a4 a5 a6 a8 a9 a10 a11 a12 a13 a14 a15, ρ = [some (.scr (ns.map .int)), some (.ref n), a2, a3, a4, a5, a6, some (.tup (l.map nI)), a8, a9, a10, a11, a12, a13, a14, a15]) ?_ ?_
                        · simp only [ok_ok, ok_ret, ok_bnd, ok_when, ok_opt, ok_getO, ok_putO, ok_newO, ok_dVar, ok_dC, ok_aNil, ok_aCons, ok_dOp, ok_dUn, ok_dTup, ok_lLst, ok_dNew, ok_dIf, ok_dCall, ok_tVal, ok_asB, ok_tTru, ok_truth_bl, ok_truth_int, ok_truth_non, ok_truth_tup, ok_tYes, ok_tAnd, ok_tOr, ok_tNot, ok_dAnd, ok_dOr, ok_uNot, ok_dChain, ok_add_int, ok_add_tup, ok_add_str, ok_add_ref, ok_sub, ok_mul, ok_mul_lst, ok_mulT, ok_div, ok_mod, ok_pow, ok_shl, ok_shr, ok_band, ok_bor, ok_xor, ok_neg, ok_lt, ok_le, ok_gt, ok_ge, ok_asD, ok_eqD, ok_eq_int, ok_eq_str, ok_eq_bl, ok_eq_non, ok_eq_tup, ok_eq_ref, ok_eq_it, ok_eq_in, ok_eq_nt, ok_eq_ni, ok_ne_int, ok_ne_str, ok_ne_bl, ok_ne_non, ok_ne_tup, ok_ne_ref, ok_ne_it, ok_ne_in, ok_ne_nt, ok_ne_ni, ok_isN, ok_notN, ok_ix_tup, ok_ix_scr, ok_ix_ref, ok_pNone, ok_pSome, ok_dSl, ok_sl_tup, ok_sl_ref, ok_dRev, ok_rev_ref, ok_lRev, ok_one, ok_two, ok_abs, ok_bint, ok_bint_bl, ok_max2, ok_min2, ok_len_tup, ok_len_scr, ok_len_str, ok_len_ref, ok_btup_tup, ok_btup_scr, ok_btup_ref, ok_dL, ok_lThen, ok_dV, ok_lV, ok_dR, ok_items_tup, ok_items_scr, ok_items_ref, ok_itemsR_scr, ok_itemsR_ref, ok_lId, ok_nTup, ok_nLen, ok_nSum, ok_nAny, ok_nAll, ok_rg1, ok_asI, ok_rg2, ok_lRg, ok_dTupRg, ok_meth0, ok_meth1, ok_methL, ok_chkL, ok_append, ok_extend, ok_pop, ok_popO, ok_sOf, ok_srcOf_tup, ok_srcOf_scr, ok_srcOf_kt, ok_srcOf_ref, ok_sOfL, ok_sEnum, ok_enumOf_tup, ok_enumOf_ref, ok_sRange1, ok_sRange2, ok_gName, ok_gNil, ok_gCons, ok_gTup, oks_ok, oks_thn, oks_nx, oks_bk, oks_ct, oks_expr, oks_ret, oks_asg, oks_set, oks_par2, oks_par3, oks_if, oks_put, ok_setP, ok_putL, ok_fnOf, ok_dDict, ok_kNil, ok_kCons, ok_aStar, ok_star_tup, ok_star_ref, oks_for, ok_comp, scal_int, scal_str, scal_bl, scal_non, scal_tup, scal_ref, dat_int, dat_str, dat_bl, dat_non, dat_tup, ok_look, ok_store, ok_lookO_int, ok_lookO_str, ok_storeO_int, ok_storeO_str, ok_in, ok_notIn, List.getElem?_cons_zero, List.getElem?_cons_succ, List.set_cons_zero, List.set_cons_succ, List.length_cons, List.length_nil, List.map_cons, List.map_nil, List.replicate_succ, List.replicate_zero, List.cons_append, List.nil_append, Nat.reduceSub, Nat.reduceAdd, Nat.zero_add, true_and, and_true, decide_eq_true_eq, decide_eq_false_iff_not, Bool.not_eq_true', Bool.not_eq_false', forall_const, Bool.false_eq_true, Bool.true_eq_false, false_implies, true_implies, reduceCtorEq, Bool.not_true, Bool.not_false, wipeE, reduceIte, and_self, Option.some.injEq, exists_eq_left', exists_eq_left, List.getElem?_nil, List.length_map, not_true_eq_false, not_false_eq_true, SZ, Nat.reduceLeDiff, Nat.reduceLT, Int.reduceLT, Int.reduceLE, Int.reduceAdd, Int.reduceSub, Int.reduceMul, Int.reduceNeg, Int.reducePow, Int.reduceToNat, Nat.reducePow, and_true, true_and, Nat.reduceMul, new_get, gN1, gN2, gN3]
                          refine (pk _ _ _ _ is (by decide)).mono ?_
                          rintro p m11 ⟨r, rfl, h0, hr, is, fr, hl⟩
                          simp only [ok_ok, ok_ret, ok_bnd, ok_when, ok_opt, ok_getO, ok_putO, ok_newO, ok_dVar, ok_dC, ok_aNil, ok_aCons, ok_dOp, ok_dUn, ok_dTup, ok_lLst, ok_dNew, ok_dIf, ok_dCall, ok_tVal, ok_asB, ok_tTru, ok_truth_bl, ok_truth_int, ok_truth_non, ok_truth_tup, ok_tYes, ok_tAnd, ok_tOr, ok_tNot, ok_dAnd, ok_dOr, ok_uNot, ok_dChain, ok_add_int, ok_add_tup, ok_add_str, ok_add_ref, ok_sub, ok_mul, ok_mul_lst, ok_mulT, ok_div, ok_mod, ok_pow, ok_shl, ok_shr, ok_band, ok_bor, ok_xor, ok_neg, ok_lt, ok_le, ok_gt, ok_ge, ok_asD, ok_eqD, ok_eq_int, ok_eq_str, ok_eq_bl, ok_eq_non, ok_eq_tup, ok_eq_ref, ok_eq_it, ok_eq_in, ok_eq_nt, ok_eq_ni, ok_ne_int, ok_ne_str, ok_ne_bl, ok_ne_non, ok_ne_tup, ok_ne_ref, ok_ne_it, ok_ne_in, ok_ne_nt, ok_ne_ni, ok_isN, ok_notN, ok_ix_tup, ok_ix_scr, ok_ix_ref, ok_pNone, ok_pSome, ok_dSl, ok_sl_tup, ok_sl_ref, ok_dRev, ok_rev_ref, ok_lRev, ok_one, ok_two, ok_abs, ok_bint, ok_bint_bl, ok_max2, ok_min2, ok_len_tup, ok_len_scr, ok_len_str, ok_len_ref, ok_btup_tup, ok_btup_scr, ok_btup_ref, ok_dL, ok_lThen, ok_dV, ok_lV, ok_dR, ok_items_tup, ok_items_scr, ok_items_ref, ok_itemsR_scr, ok_itemsR_ref, ok_lId, ok_nTup, ok_nLen, ok_nSum, ok_nAny, ok_nAll, ok_rg1, ok_asI, ok_rg2, ok_lRg, ok_dTupRg, ok_meth0, ok_meth1, ok_methL, ok_chkL, ok_append, ok_extend, ok_pop, ok_popO, ok_sOf, ok_srcOf_tup, ok_srcOf_scr, ok_srcOf_kt, ok_srcOf_ref, ok_sOfL, ok_sEnum, ok_enumOf_tup, ok_enumOf_ref, ok_sRange1, ok_sRange2, ok_gName, ok_gNil, ok_gCons, ok_gTup, oks_ok, oks_thn, oks_nx, oks_bk, oks_ct, oks_expr, oks_ret, oks_asg, oks_set, oks_par2, oks_par3, oks_if, oks_put, ok_setP, ok_putL, ok_fnOf, ok_dDict, ok_kNil, ok_kCons, ok_aStar, ok_star_tup, ok_star_ref, oks_for, ok_comp, scal_int, scal_str, scal_bl, scal_non, scal_tup, scal_ref, dat_int, dat_str, dat_bl, dat_non, dat_tup, ok_look, ok_store, ok_lookO_int, ok_lookO_str, ok_storeO_int, ok_storeO_str, ok_in, ok_notIn, List.getElem?_cons_zero, List.getElem?_cons_succ, List.set_cons_zero, List.set_cons_succ, List.length_cons, List.length_nil, List.map_cons, List.map_nil, List.replicate_succ, List.replicate_zero, List.cons_append, List.nil_append, Nat.reduceSub, Nat.reduceAdd, Nat.zero_add, true_and, and_true, decide_eq_true_eq, decide_eq_false_iff_not, Bool.not_eq_true', Bool.not_eq_false', forall_const, Bool.false_eq_true, Bool.true_eq_false, false_implies, true_implies, reduceCtorEq, Bool.not_true, Bool.not_false, wipeE, reduceIte, and_self, Option.some.injEq, exists_eq_left', exists_eq_left, List.getElem?_nil, List.length_map, not_true_eq_false, not_false_eq_true, SZ, Nat.reduceLeDiff, Nat.reduceLT, Int.reduceLT, Int.reduceLE, Int.reduceAdd, Int.reduceSub, Int.reduceMul, Int.reduceNeg, Int.reducePow, Int.reduceToNat, Nat.reducePow, and_true, true_and, Nat.reduceMul, new_get, gN1, gN2, gN3]
                          refine ⟨by simp only [small62, Bool.and_eq_true, decide_eq_true_eq]; omega, ?_⟩
                          refine (draws (K := 5) is (by simp [rangeP]; omega) fun p m is => ?_).mono ?_
                          · simp only [ok_ok, ok_ret, ok_bnd, ok_when, ok_opt, ok_getO, ok_putO, ok_newO, ok_dVar, ok_dC, ok_aNil, ok_aCons, ok_dOp, ok_dUn, ok_dTup, ok_lLst, ok_dNew, ok_dIf, ok_dCall, ok_tVal, ok_asB, ok_tTru, ok_truth_bl, ok_truth_int, ok_truth_non, ok_truth_tup, ok_tYes, ok_tAnd, ok_tOr, ok_tNot, ok_dAnd, ok_dOr, ok_uNot, ok_dChain, ok_add_int, ok_add_tup, ok_add_str, ok_add_ref, ok_sub, ok_mul, ok_mul_lst, ok_mulT, ok_div, ok_mod, ok_pow, ok_shl, ok_shr, ok_band, ok_bor, ok_xor, ok_neg, ok_lt, ok_le, ok_gt, ok_ge, ok_asD, ok_eqD, ok_eq_int, ok_eq_str, ok_eq_bl, ok_eq_non, ok_eq_tup, ok_eq_ref, ok_eq_it, ok_eq_in, ok_eq_nt, ok_eq_ni, ok_ne_int, ok_ne_str, ok_ne_bl, ok_ne_non, ok_ne_tup, ok_ne_ref, ok_ne_it, ok_ne_in, ok_ne_nt, ok_ne_ni, ok_isN, ok_notN, ok_ix_tup, ok_ix_scr, ok_ix_ref, ok_pNone, ok_pSome, ok_dSl, ok_sl_tup, ok_sl_ref, ok_dRev, ok_rev_ref, ok_lRev, ok_one, ok_two, ok_abs, ok_bint, ok_bint_bl, ok_max2, ok_min2, ok_len_tup, ok_len_scr, ok_len_str, ok_len_ref, ok_btup_tup, ok_btup_scr, ok_btup_ref, ok_dL, ok_lThen, ok_dV, ok_lV, ok_dR, ok_items_tup, ok_items_scr, ok_items_ref, ok_itemsR_scr, ok_itemsR_ref, ok_lId, ok_nTup, ok_nLen, ok_nSum, ok_nAny, ok_nAll, ok_rg1, ok_asI, ok_rg2, ok_lRg, ok_dTupRg, ok_meth0, ok_meth1, ok_methL, ok_chkL, ok_append, ok_extend, ok_pop, ok_popO, ok_sOf, ok_srcOf_tup, ok_srcOf_scr, ok_srcOf_kt, ok_srcOf_ref, ok_sOfL, ok_sEnum, ok_enumOf_tup, ok_enumOf_ref, ok_sRange1, ok_sRange2, ok_gName, ok_gNil, ok_gCons, ok_gTup, oks_ok, oks_thn, oks_nx, oks_bk, oks_ct, oks_expr, oks_ret, oks_asg, oks_set, oks_par2, oks_par3, oks_if, oks_put, ok_setP, ok_putL, ok_fnOf, ok_dDict, ok_kNil, ok_kCons, ok_aStar, ok_star_tup, ok_star_ref, oks_for, ok_comp, scal_int, scal_str, scal_bl, scal_non, scal_tup, scal_ref, dat_int, dat_str, dat_bl, dat_non, dat_tup, ok_look, ok_store, ok_lookO_int, ok_lookO_str, ok_storeO_int, ok_storeO_str, ok_in, ok_notIn, List.getElem?_cons_zero, List.getElem?_cons_succ, List.set_cons_zero, List.set_cons_succ, List.length_cons, List.length_nil, List.map_cons, List.map_nil, List.replicate_succ, List.replicate_zero, List.cons_append, List.nil_append, Nat.reduceSub, Nat.reduceAdd, Nat.zero_add, true_and, and_true, decide_eq_true_eq, decide_eq_false_iff_not, Bool.not_eq_true', Bool.not_eq_false', forall_const, Bool.false_eq_true, Bool.true_eq_false, false_implies, true_implies, reduceCtorEq, Bool.not_true, Bool.not_false, wipeE, reduceIte, and_self, Option.some.injEq, exists_eq_left', exists_eq_left, List.getElem?_nil, List.length_map, not_true_eq_false, not_false_eq_true, SZ, Nat.reduceLeDiff, Nat.reduceLT, Int.reduceLT, Int.reduceLE, Int.reduceAdd, Int.reduceSub, Int.reduceMul, Int.reduceNeg, Int.reducePow, Int.reduceToNat, Nat.reducePow, and_true, true_and, Nat.reduceMul, new_get, gN1, gN2, gN3]
                            exact pk _ _ _ _ is (by omega)
                          · rintro acc m12 ⟨l, rfl, hl, hk, is4, fr4, hl4⟩
                            have hlen : (rangeP 0 r).length = r.toNat := by simp [rangeP]
                            rw [ok_sortN]
                            exact ⟨is4, sortN l, few_sort (fun a ha => by have := hk a ha; omega) (by omega), _, _, _, _, _, _, _, _, _, _, _, _, _, rfl⟩
                        · rintro ρ' m11 ⟨is, l, hf, a2, a3, a4, a5, a6, a8, a9, a10, a11, a12, a13, a14, a15, rfl⟩
                          refine seq_cut (fun ρ m => IsSrc m n c ∧ ∃ a2 a3 a4 a5 a6 a7 a8 a9 a10 a11 a12 a13 a14 a15, ρ = [some (.scr (ns.map .int)), some (.ref n), a2, a3, a4, a5, a6, a7, a8, a9, a10, a11, a12, a13, a14, a15]) ?_ ?_
                          · simp only [ok_ok, ok_ret, ok_bnd, ok_when, ok_opt, ok_getO, ok_putO, ok_newO, ok_dVar, ok_dC, ok_aNil, ok_aCons, ok_dOp, ok_dUn, ok_dTup, ok_lLst, ok_dNew, ok_dIf, ok_dCall, ok_tVal, ok_asB, ok_tTru, ok_truth_bl, ok_truth_int, ok_truth_non, ok_truth_tup, ok_tYes, ok_tAnd, ok_tOr, ok_tNot, ok_dAnd, ok_dOr, ok_uNot, ok_dChain, ok_add_int, ok_add_tup, ok_add_str, ok_add_ref, ok_sub, ok_mul, ok_mul_lst, ok_mulT, ok_div, ok_mod, ok_pow, ok_shl, ok_shr, ok_band, ok_bor, ok_xor, ok_neg, ok_lt, ok_le, ok_gt, ok_ge, ok_asD, ok_eqD, ok_eq_int, ok_eq_str, ok_eq_bl, ok_eq_non, ok_eq_tup, ok_eq_ref, ok_eq_it, ok_eq_in, ok_eq_nt, ok_eq_ni, ok_ne_int, ok_ne_str, ok_ne_bl, ok_ne_non, ok_ne_tup, ok_ne_ref, ok_ne_it, ok_ne_in, ok_ne_nt, ok_ne_ni, ok_isN, ok_notN, ok_ix_tup, ok_ix_scr, ok_ix_ref, ok_pNone, ok_pSome, ok_dSl, ok_sl_tup, ok_sl_ref, ok_dRev, ok_rev_ref, ok_lRev, ok_one, ok_two, ok_abs, ok_bint, ok_bint_bl, ok_max2, ok_min2, ok_len_tup, ok_len_scr, ok_len_str, ok_len_ref, ok_btup_tup, ok_btup_scr, ok_btup_ref, ok_dL, ok_lThen, ok_dV, ok_lV, ok_dR, ok_items_tup, ok_items_scr, ok_items_ref, ok_itemsR_scr, ok_itemsR_ref, ok_lId, ok_nTup, ok_nLen, ok_nSum, ok_nAny, ok_nAll, ok_rg1, ok_asI, ok_rg2, ok_lRg, ok_dTupRg, ok_meth0, ok_meth1, ok_methL, ok_chkL, ok_append, ok_extend, ok_pop, ok_popO, ok_sOf, ok_srcOf_tup, ok_srcOf_scr, ok_srcOf_kt, ok_srcOf_ref, ok_sOfL, ok_sEnum, ok_enumOf_tup, ok_enumOf_ref, ok_sRange1, ok_sRange2, ok_gName, ok_gNil, ok_gCons, ok_gTup, oks_ok, oks_thn, oks_nx, oks_bk, oks_ct, oks_expr, oks_ret, oks_asg, oks_set, oks_par2, oks_par3, oks_if, oks_put, ok_setP, ok_putL, ok_fnOf, ok_dDict, ok_kNil, ok_kCons, ok_aStar, ok_star_tup, ok_star_ref, oks_for, ok_comp, scal_int, scal_str, scal_bl, scal_non, scal_tup, scal_ref, dat_int, dat_str, dat_bl, dat_non, dat_tup, ok_look, ok_store, ok_lookO_int, ok_lookO_str, ok_storeO_int, ok_storeO_str, ok_in, ok_notIn, List.getElem?_cons_zero, List.getElem?_cons_succ, List.set_cons_zero, List.set_cons_succ, List.length_cons, List.length_nil, List.map_cons, List.map_nil, List.replicate_succ, List.replicate_zero, List.cons_append, List.nil_append, Nat.reduceSub, Nat.reduceAdd, Nat.zero_add, true_and, and_true, decide_eq_true_eq, decide_eq_false_iff_not, Bool.not_eq_true', Bool.not_eq_false', forall_const, Bool.false_eq_true, Bool.true_eq_false, false_implies, true_implies, reduceCtorEq, Bool.not_true, Bool.not_false, wipeE, reduceIte, and_self, Option.some.injEq, exists_eq_left', exists_eq_left, List.getElem?_nil, List.length_map, not_true_eq_false, not_false_eq_true, SZ, Nat.reduceLeDiff, Nat.reduceLT, Int.reduceLT, Int.reduceLE, Int.reduceAdd, Int.reduceSub, Int.reduceMul, Int.reduceNeg, Int.reducePow, Int.reduceToNat, Nat.reducePow, and_true, true_and, Nat.reduceMul, new_get, gN1, gN2, gN3]
                            refine (first_ok l m11).mono ?_
                            rintro p m12 ⟨rfl, rfl⟩
                            rw [ok_repr Shows.bl]
                            refine (few_ok hf m12).mono ?_
                            rintro p m13 ⟨e1, fr⟩
                            rw [ok_repr ⟨e1, by simp only [PyData.showable], by simp only [wgt]; decide⟩]
                            simp only [ok_ok, ok_ret, ok_bnd, ok_when, ok_opt, ok_getO, ok_putO, ok_newO, ok_dVar, ok_dC, ok_aNil, ok_aCons, ok_dOp, ok_dUn, ok_dTup, ok_lLst, ok_dNew, ok_dIf, ok_dCall, ok_tVal, ok_asB, ok_tTru, ok_truth_bl, ok_truth_int, ok_truth_non, ok_truth_tup, ok_tYes, ok_tAnd, ok_tOr, ok_tNot, ok_dAnd, ok_dOr, ok_uNot, ok_dChain, ok_add_int, ok_add_tup, ok_add_str, ok_add_ref, ok_sub, ok_mul, ok_mul_lst, ok_mulT, ok_div, ok_mod, ok_pow, ok_shl, ok_shr, ok_band, ok_bor, ok_xor, ok_neg, ok_lt, ok_le, ok_gt, ok_ge, ok_asD, ok_eqD, ok_eq_int, ok_eq_str, ok_eq_bl, ok_eq_non, ok_eq_tup, ok_eq_ref, ok_eq_it, ok_eq_in, ok_eq_nt, ok_eq_ni, ok_ne_int, ok_ne_str, ok_ne_bl, ok_ne_non, ok_ne_tup, ok_ne_ref, ok_ne_it, ok_ne_in, ok_ne_nt, ok_ne_ni, ok_isN, ok_notN, ok_ix_tup, ok_ix_scr, ok_ix_ref, ok_pNone, ok_pSome, ok_dSl, ok_sl_tup, ok_sl_ref, ok_dRev, ok_rev_ref, ok_lRev, ok_one, ok_two, ok_abs, ok_bint, ok_bint_bl, ok_max2, ok_min2, ok_len_tup, ok_len_scr, ok_len_str, ok_len_ref, ok_btup_tup, ok_btup_scr, ok_btup_ref, ok_dL, ok_lThen, ok_dV, ok_lV, ok_dR, ok_items_tup, ok_items_scr, ok_items_ref, ok_itemsR_scr, ok_itemsR_ref, ok_lId, ok_nTup, ok_nLen, ok_nSum, ok_nAny, ok_nAll, ok_rg1, ok_asI, ok_rg2, ok_lRg, ok_dTupRg, ok_meth0, ok_meth1, ok_methL, ok_chkL, ok_append, ok_extend, ok_pop, ok_popO, ok_sOf, ok_srcOf_tup, ok_srcOf_scr, ok_srcOf_kt, ok_srcOf_ref, ok_sOfL, ok_sEnum, ok_enumOf_tup, ok_enumOf_ref, ok_sRange1, ok_sRange2, ok_gName, ok_gNil, ok_gCons, ok_gTup, oks_ok, oks_thn, oks_nx, oks_bk, oks_ct, oks_seq, oks_expr, oks_ret, oks_asg, oks_set, oks_par2, oks_par3, oks_if, oks_put, ok_setP, ok_putL, ok_fnOf, ok_dDict, ok_kNil, ok_kCons, ok_aStar, ok_star_tup, ok_star_ref, oks_for, ok_comp, scal_int, scal_str, scal_bl, scal_non, scal_tup, scal_ref, dat_int, dat_str, dat_bl, dat_non, dat_tup, ok_look, ok_store, ok_lookO_int, ok_lookO_str, ok_storeO_int, ok_storeO_str, ok_in, ok_notIn, List.getElem?_cons_zero, List.getElem?_cons_succ, List.set_cons_zero, List.set_cons_succ, List.length_cons, List.length_nil, List.map_cons, List.map_nil, List.replicate_succ, List.replicate_zero, List.cons_append, List.nil_append, Nat.reduceSub, Nat.reduceAdd, Nat.zero_add, true_and, and_true, decide_eq_true_eq, decide_eq_false_iff_not, Bool.not_eq_true', Bool.not_eq_false', forall_const, Bool.false_eq_true, Bool.true_eq_false, false_implies, true_implies, reduceCtorEq, Bool.not_true, Bool.not_false, wipeE, reduceIte, and_self, Option.some.injEq, exists_eq_left', exists_eq_left, List.getElem?_nil, List.length_map, not_true_eq_false, not_false_eq_true, SZ, Nat.reduceLeDiff, Nat.reduceLT, Int.reduceLT, Int.reduceLE, Int.reduceAdd, Int.reduceSub, Int.reduceMul, Int.reduceNeg, Int.reducePow, Int.reduceToNat, Nat.reducePow, and_true, true_and, Nat.reduceMul, new_get, gN1, gN2, gN3]
                            exact ⟨is.fr fr, _, _, _, _, _, _, _, _, _, _, _, _, _, _, rfl⟩
                          · rintro ρ' m12 ⟨is, a2, a3, a4, a5, a6, a7, a8, a9, a10, a11, a12, a13, a14, a15, rfl⟩
                            refine seq_cut (fun ρ m => IsSrc m n c ∧ ∃ l : List Nat, (∀ a ∈ l, a < 7) ∧ ∃ a2 a3 a4 a5 a6 a7 a9 a10 a11 a12 a13 a14 a15, ρ = [some (.scr (ns.map .int)), some (.ref n), a2, a3, a4, a5, a6, a7, some (.tup (l.map nI)), a9, a10, a11, a12, a13, a14, a15]) ?_ ?_
                            · simp only [ok_ok, ok_ret, ok_bnd, ok_when, ok_opt, ok_getO, ok_putO, ok_newO, ok_dVar, ok_dC, ok_aNil, ok_aCons, ok_dOp, ok_dUn, ok_dTup, ok_lLst, ok_dNew, ok_dIf, ok_dCall, ok_tVal, ok_asB, ok_tTru, ok_truth_bl, ok_truth_int, ok_truth_non, ok_truth_tup, ok_tYes, ok_tAnd, ok_tOr, ok_tNot, ok_dAnd, ok_dOr, ok_uNot, ok_dChain, ok_add_int, ok_add_tup, ok_add_str, ok_add_ref, ok_sub, ok_mul, ok_mul_lst, ok_mulT, ok_div, ok_mod, ok_pow, ok_shl, ok_shr, ok_band, ok_bor, ok_xor, ok_neg, ok_lt, ok_le, ok_gt, ok_ge, ok_asD, ok_eqD, ok_eq_int, ok_eq_str, ok_eq_bl, ok_eq_non, ok_eq_tup, ok_eq_ref, ok_eq_it, ok_eq_in, ok_eq_nt, ok_eq_ni, ok_ne_int, ok_ne_str, ok_ne_bl, ok_ne_non, ok_ne_tup, ok_ne_ref, ok_ne_it, ok_ne_in, ok_ne_nt, ok_ne_ni, ok_isN, ok_notN, ok_ix_tup, ok_ix_scr, ok_ix_ref, ok_pNone, ok_pSome, ok_dSl, ok_sl_tup, ok_sl_ref, ok_dRev, ok_rev_ref, ok_lRev, ok_one, ok_two, ok_abs, ok_bint, ok_bint_bl, ok_max2, ok_min2, ok_len_tup, ok_len_scr, ok_len_str, ok_len_ref, ok_btup_tup, ok_btup_scr, ok_btup_ref, ok_dL, ok_lThen, ok_dV, ok_lV, ok_dR, ok_items_tup, ok_items_scr, ok_items_ref, ok_itemsR_scr, ok_itemsR_ref, ok_lId, ok_nTup, ok_nLen, ok_nSum, ok_nAny, ok_nAll, ok_rg1, ok_asI, ok_rg2, ok_lRg, ok_dTupRg, ok_meth0, ok_meth1, ok_methL, ok_chkL, ok_append, ok_extend, ok_pop, ok_popO, ok_sOf, ok_srcOf_tup, ok_srcOf_scr, ok_srcOf_kt, ok_srcOf_ref, ok_sOfL, ok_sEnum, ok_enumOf_tup, ok_enumOf_ref, ok_sRange1, ok_sRange2, ok_gName, ok_gNil, ok_gCons, ok_gTup, oks_ok, oks_thn, oks_nx, oks_bk, oks_ct, oks_expr, oks_ret, oks_asg, oks_set, oks_par2, oks_par3, oks_if, oks_put, ok_setP, ok_putL, ok_fnOf, ok_dDict, ok_kNil, ok_kCons, ok_aStar, ok_star_tup, ok_star_ref, oks_for, ok_comp, scal_int, scal_str, scal_bl, scal_non, scal_tup, scal_ref, dat_int, dat_str, dat_bl, dat_non, dat_tup, ok_look, ok_store, ok_lookO_int, ok_lookO_str, ok_storeO_int, ok_storeO_str, ok_in, ok_notIn, List.getElem?_cons_zero, List.getElem?_cons_succ, List.set_cons_zero, List.set_cons_succ, List.length_cons, List.length_nil, List.map_cons, List.map_nil, List.replicate_succ, List.replicate_zero, List.cons_append, List.nil_append, Nat.reduceSub, Nat.reduceAdd, Nat.zero_add, true_and, and_true, decide_eq_true_eq, decide_eq_false_iff_not, Bool.not_eq_true', Bool.not_eq_false', forall_const, Bool.false_eq_true, Bool.true_eq_false, false_implies, true_implies, reduceCtorEq, Bool.not_true, Bool.not_false, wipeE, reduceIte, and_self, Option.some.injEq, exists_eq_left', exists_eq_left, List.getElem?_nil, List.length_map, not_true_eq_false, not_false_eq_true, SZ, Nat.reduceLeDiff, Nat.reduceLT, Int.reduceLT, Int.reduceLE, Int.reduceAdd, Int.reduceSub, Int.reduceMul, Int.reduceNeg, Int.reducePow, Int.reduceToNat, Nat.reducePow, and_true, true_and, Nat.reduceMul, new_get, gN1, gN2, gN3]
                              refine (pk _ _ _ _ is (by decide)).mono ?_
                              rintro p m13 ⟨r, rfl, h0, hr, is, fr, hl⟩
                              simp only [ok_ok, ok_ret, ok_bnd, ok_when, ok_opt, ok_getO, ok_putO, ok_newO, ok_dVar, ok_dC, ok_aNil, ok_aCons, ok_dOp, ok_dUn, ok_dTup, ok_lLst, ok_dNew, ok_dIf, ok_dCall, ok_tVal, ok_asB, ok_tTru, ok_truth_bl, ok_truth_int, ok_truth_non, ok_truth_tup, ok_tYes, ok_tAnd, ok_tOr, ok_tNot, ok_dAnd, ok_dOr, ok_uNot, ok_dChain, ok_add_int, ok_add_tup, ok_add_str, ok_add_ref, ok_sub, ok_mul, ok_mul_lst, ok_mulT, ok_div, ok_mod, ok_pow, ok_shl, ok_shr, ok_band, ok_bor, ok_xor, ok_neg, ok_lt, ok_le, ok_gt, ok_ge, ok_asD, ok_eqD, ok_eq_int, ok_eq_str, ok_eq_bl, ok_eq_non, ok_eq_tup, ok_eq_ref, ok_eq_it, ok_eq_in, ok_eq_nt, ok_eq_ni, ok_ne_int, ok_ne_str, ok_ne_bl, ok_ne_non, ok_ne_tup, ok_ne_ref, ok_ne_it, ok_ne_in, ok_ne_nt, ok_ne_ni, ok_isN, ok_notN, ok_ix_tup, ok_ix_scr, ok_ix_ref, ok_pNone, ok_pSome, ok_dSl, ok_sl_tup, ok_sl_ref, ok_dRev, ok_rev_ref, ok_lRev, ok_one, ok_two, ok_abs, ok_bint, ok_bint_bl, ok_max2, ok_min2, ok_len_tup, ok_len_scr, ok_len_str, ok_len_ref, ok_btup_tup, ok_btup_scr, ok_btup_ref, ok_dL, ok_lThen, ok_dV, ok_lV, ok_dR, ok_items_tup, ok_items_scr, ok_items_ref, ok_itemsR_scr, ok_itemsR_ref, ok_lId, ok_nTup, ok_nLen, ok_nSum, ok_nAny, ok_nAll, ok_rg1, ok_asI, ok_rg2, ok_lRg, ok_dTupRg, ok_meth0, ok_meth1, ok_methL, ok_chkL, ok_append, ok_extend, ok_pop, ok_popO, ok_sOf, ok_srcOf_tup, ok_srcOf_scr, ok_srcOf_kt, ok_srcOf_ref, ok_sOfL, ok_sEnum, ok_enumOf_tup, ok_enumOf_ref, ok_sRange1, ok_sRange2, ok_gName, ok_gNil, ok_gCons, ok_gTup, oks_ok, oks_thn, oks_nx, oks_bk, oks_ct, oks_expr, oks_ret, oks_asg, oks_set, oks_par2, oks_par3, oks_if, oks_put, ok_setP, ok_putL, ok_fnOf, ok_dDict, ok_kNil, ok_kCons, ok_aStar, ok_star_tup, ok_star_ref, oks_for, ok_comp, scal_int, scal_str, scal_bl, scal_non, scal_tup, scal_ref, dat_int, dat_str, dat_bl, dat_non, dat_tup, ok_look, ok_store, ok_lookO_int, ok_lookO_str, ok_storeO_int, ok_storeO_str, ok_in, ok_notIn, List.getElem?_cons_zero, List.getElem?_cons_succ, List.set_cons_zero, List.set_cons_succ, List.length_cons, List.length_nil, List.map_cons, List.map_nil, List.replicate_succ, List.replicate_zero, List.cons_append, List.nil_append, Nat.reduceSub, Nat.reduceAdd, Nat.zero_add, true_and, and_true, decide_eq_true_eq, decide_eq_false_iff_not, Bool.not_eq_true', Bool.not_eq_false', forall_const, Bool.false_eq_true, Bool.true_eq_false, false_implies, true_implies, reduceCtorEq, Bool.not_true, Bool.not_false, wipeE, reduceIte, and_self, Option.some.injEq, exists_eq_left', exists_eq_left, List.getElem?_nil, List.length_map, not_true_eq_false, not_false_eq_true, SZ, Nat.reduceLeDiff, Nat.reduceLT, Int.reduceLT, Int.reduceLE, Int.reduceAdd, Int.reduceSub, Int.reduceMul, Int.reduceNeg, Int.reducePow, Int.reduceToNat, Nat.reducePow, and_true, true_and, Nat.reduceMul, new_get, gN1, gN2, gN3]
                              refine ⟨by simp only [small62, Bool.and_eq_true, decide_eq_true_eq]; omega, ?_⟩
                              refine (draws (K := 7) is (by simp [rangeP]; omega) fun p m is => ?_).mono ?_
                              · simp only [ok_ok, ok_ret, ok_bnd, ok_when, ok_opt, ok_getO, ok_putO, ok_newO, ok_dVar, ok_dC, ok_aNil, ok_aCons, ok_dOp, ok_dUn, ok_dTup, ok_lLst, ok_dNew, ok_dIf, ok_dCall, ok_tVal, ok_asB, ok_tTru, ok_truth_bl, ok_truth_int, ok_truth_non, ok_truth_tup, ok_tYes, ok_tAnd, ok_tOr, ok_tNot, ok_dAnd, ok_dOr, ok_uNot, ok_dChain, ok_add_int, ok_add_tup, ok_add_str, ok_add_ref, ok_sub, ok_mul, ok_mul_lst, ok_mulT, ok_div, ok_mod, ok_pow, ok_shl, ok_shr, ok_band, ok_bor, ok_xor, ok_neg, ok_lt, ok_le, ok_gt, ok_ge, ok_asD, ok_eqD, ok_eq_int, ok_eq_str, ok_eq_bl, ok_eq_non, ok_eq_tup, ok_eq_ref, ok_eq_it, ok_eq_in, ok_eq_nt, ok_eq_ni, ok_ne_int, ok_ne_str, ok_ne_bl, ok_ne_non, ok_ne_tup, ok_ne_ref, ok_ne_it, ok_ne_in, ok_ne_nt, ok_ne_ni, ok_isN, ok_notN, ok_ix_tup, ok_ix_scr, ok_ix_ref, ok_pNone, ok_pSome, ok_dSl, ok_sl_tup, ok_sl_ref, ok_dRev, ok_rev_ref, ok_lRev, ok_one, ok_two, ok_abs, ok_bint, ok_bint_bl, ok_max2, ok_min2, ok_len_tup, ok_len_scr, ok_len_str, ok_len_ref, ok_btup_tup, ok_btup_scr, ok_btup_ref, ok_dL, ok_lThen, ok_dV, ok_lV, ok_dR, ok_items_tup, ok_items_scr, ok_items_ref, ok_itemsR_scr, ok_itemsR_ref, ok_lId, ok_nTup, ok_nLen, ok_nSum, ok_nAny, ok_nAll, ok_rg1, ok_asI, ok_rg2, ok_lRg, ok_dTupRg, ok_meth0, ok_meth1, ok_methL, ok_chkL, ok_append, ok_extend, ok_pop, ok_popO, ok_sOf, ok_srcOf_tup, ok_srcOf_scr, ok_srcOf_kt, ok_srcOf_ref, ok_sOfL, ok_sEnum, ok_enumOf_tup, ok_enumOf_ref, ok_sRange1, ok_sRange2, ok_gName, ok_gNil, ok_gCons, ok_gTup, oks_ok, oks_thn, oks_nx, oks_bk, oks_ct, oks_expr, oks_ret, oks_asg, oks_set, oks_par2, oks_par3, oks_if, oks_put, ok_setP, ok_putL, ok_fnOf, ok_dDict, ok_kNil, ok_kCons, ok_aStar, ok_star_tup, ok_star_ref, oks_for, ok_comp, scal_int, scal_str, scal_bl, scal_non, scal_tup, scal_ref, dat_int, dat_str, dat_bl, dat_non, dat_tup, ok_look, ok_store, ok_lookO_int, ok_lookO_str, ok_storeO_int, ok_storeO_str, ok_in, ok_notIn, List.getElem?_cons_zero, List.getElem?_cons_succ, List.set_cons_zero, List.set_cons_succ, List.length_cons, List.length_nil, List.map_cons, List.map_nil, List.replicate_succ, List.replicate_zero, List.cons_append, List.nil_append, Nat.reduceSub, Nat.reduceAdd, Nat.zero_add, true_and, and_true, decide_eq_true_eq, decide_eq_false_iff_not, Bool.not_eq_true', Bool.not_eq_false', forall_const, Bool.false_eq_true, Bool.true_eq_false, false_implies, true_implies, reduceCtorEq, Bool.not_true, Bool.not_false, wipeE, reduceIte, and_self, Option.some.injEq, exists_eq_left', exists_eq_left, List.getElem?_nil, List.length_map, not_true_eq_false, not_false_eq_true, SZ, Nat.reduceLeDiff, Nat.reduceLT, Int.reduceLT, Int.reduceLE, Int.reduceAdd, Int.reduceSub, Int.reduceMul, Int.reduceNeg, Int.reducePow, Int.reduceToNat, Nat.reducePow, and_true, true_and, Nat.reduceMul, new_get, gN1, gN2, gN3]
                                exact pk _ _ _ _ is (by omega)
                              · rintro acc m14 ⟨l, rfl, hl, hk, is4, fr4, hl4⟩
                                exact ⟨is4, l, fun a ha => by have := hk a ha; omega, _, _, _, _, _, _, _, _, _, _, _, _, _, rfl⟩
                            · rintro ρ' m13 ⟨is, l, hl, a2, a3, a4, a5, a6, a7, a9, a10, a11, a12, a13, a14, a15, rfl⟩
                              obtain ⟨p, m14, e, ⟨x, rfl, hx⟩, rfl⟩ := (mex_ok l 7 (by decide) hl m13).ex
                              simp only [ok_ok, ok_ret, ok_bnd, ok_when, ok_opt, ok_getO, ok_putO, ok_newO, ok_dVar, ok_dC, ok_aNil, ok_aCons, ok_dOp, ok_dUn, ok_dTup, ok_lLst, ok_dNew, ok_dIf, ok_dCall, ok_tVal, ok_asB, ok_tTru, ok_truth_bl, ok_truth_int, ok_truth_non, ok_truth_tup, ok_tYes, ok_tAnd, ok_tOr, ok_tNot, ok_dAnd, ok_dOr, ok_uNot, ok_dChain, ok_add_int, ok_add_tup, ok_add_str, ok_add_ref, ok_sub, ok_mul, ok_mul_lst, ok_mulT, ok_div, ok_mod, ok_pow, ok_shl, ok_shr, ok_band, ok_bor, ok_xor, ok_neg, ok_lt, ok_le, ok_gt, ok_ge, ok_asD, ok_eqD, ok_eq_int, ok_eq_str, ok_eq_bl, ok_eq_non, ok_eq_tup, ok_eq_ref, ok_eq_it, ok_eq_in, ok_eq_nt, ok_eq_ni, ok_ne_int, ok_ne_str, ok_ne_bl, ok_ne_non, ok_ne_tup, ok_ne_ref, ok_ne_it, ok_ne_in, ok_ne_nt, ok_ne_ni, ok_isN, ok_notN, ok_ix_tup, ok_ix_scr, ok_ix_ref, ok_pNone, ok_pSome, ok_dSl, ok_sl_tup, ok_sl_ref, ok_dRev, ok_rev_ref, ok_lRev, ok_one, ok_two, ok_abs, ok_bint, ok_bint_bl, ok_max2, ok_min2, ok_len_tup, ok_len_scr, ok_len_str, ok_len_ref, ok_btup_tup, ok_btup_scr, ok_btup_ref, ok_dL, ok_lThen, ok_dV, ok_lV, ok_dR, ok_items_tup, ok_items_scr, ok_items_ref, ok_itemsR_scr, ok_itemsR_ref, ok_lId, ok_nTup, ok_nLen, ok_nSum, ok_nAny, ok_nAll, ok_rg1, ok_asI, ok_rg2, ok_lRg, ok_dTupRg, ok_meth0, ok_meth1, ok_methL, ok_chkL, ok_append, ok_extend, ok_pop, ok_popO, ok_sOf, ok_srcOf_tup, ok_srcOf_scr, ok_srcOf_kt, ok_srcOf_ref, ok_sOfL, ok_sEnum, ok_enumOf_tup, ok_enumOf_ref, ok_sRange1, ok_sRange2, ok_gName, ok_gNil, ok_gCons, ok_gTup, oks_ok, oks_thn, oks_nx, oks_bk, oks_ct, oks_expr, oks_ret, oks_asg, oks_set, oks_par2, oks_par3, oks_if, oks_put, ok_setP, ok_putL, ok_fnOf, ok_dDict, ok_kNil, ok_kCons, ok_aStar, ok_star_tup, ok_star_ref, oks_for, ok_comp, scal_int, scal_str, scal_bl, scal_non, scal_tup, scal_ref, dat_int, dat_str, dat_bl, dat_non, dat_tup, ok_look, ok_store, ok_lookO_int, ok_lookO_str, ok_storeO_int, ok_storeO_str, ok_in, ok_notIn, List.getElem?_cons_zero, List.getElem?_cons_succ, List.set_cons_zero, List.set_cons_succ, List.length_cons, List.length_nil, List.map_cons, List.map_nil, List.replicate_succ, List.replicate_zero, List.cons_append, List.nil_append, Nat.reduceSub, Nat.reduceAdd, Nat.zero_add, true_and, and_true, decide_eq_true_eq, decide_eq_false_iff_not, Bool.not_eq_true', Bool.not_eq_false', forall_const, Bool.false_eq_true, Bool.true_eq_false, false_implies, true_implies, reduceCtorEq, Bool.not_true, Bool.not_false, wipeE, reduceIte, and_self, Option.some.injEq, exists_eq_left', exists_eq_left, List.getElem?_nil, List.length_map, not_true_eq_false, not_false_eq_true, SZ, Nat.reduceLeDiff, Nat.reduceLT, Int.reduceLT, Int.reduceLE, Int.reduceAdd, Int.reduceSub, Int.reduceMul, Int.reduceNeg, Int.reducePow, Int.reduceToNat, Nat.reducePow, and_true, true_and, Nat.reduceMul, new_get, gN1, gN2, gN3, mex_same, e, ok_repr (Shows.int (m := m14) (i := (x : Int)) (by omega))]
                              exact ⟨is, _, _, _, _, _, _, _, _, _, _, _, _, _, _, rfl⟩
    · rintro ρ m' ⟨is, a2, a3, a4, a5, a6, a7, a8, a9, a10, a11, a12, a13, a14, a15, rfl⟩
      exact ⟨rfl, is, _, _, _, _, _, _, _, _, _, _, _, _, _, _, rfl⟩
    · rintro f ρ m' ⟨rfl, is, a2, a3, a4, a5, a6, a7, a8, a9, a10, a11, a12, a13, a14, a15, rfl⟩
      simp only [ok_ok, ok_ret, ok_bnd, ok_when, ok_opt, ok_getO, ok_putO, ok_newO, ok_dVar, ok_dC, ok_aNil, ok_aCons, ok_dOp, ok_dUn, ok_dTup, ok_lLst, ok_dNew, ok_dIf, ok_dCall, ok_tVal, ok_asB, ok_tTru, ok_truth_bl, ok_truth_int, ok_truth_non, ok_truth_tup, ok_tYes, ok_tAnd, ok_tOr, ok_tNot, ok_dAnd, ok_dOr, ok_uNot, ok_dChain, ok_add_int, ok_add_tup, ok_add_str, ok_add_ref, ok_sub, ok_mul, ok_mul_lst, ok_mulT, ok_div, ok_mod, ok_pow, ok_shl, ok_shr, ok_band, ok_bor, ok_xor, ok_neg, ok_lt, ok_le, ok_gt, ok_ge, ok_asD, ok_eqD, ok_eq_int, ok_eq_str, ok_eq_bl, ok_eq_non, ok_eq_tup, ok_eq_ref, ok_eq_it, ok_eq_in, ok_eq_nt, ok_eq_ni, ok_ne_int, ok_ne_str, ok_ne_bl, ok_ne_non, ok_ne_tup, ok_ne_ref, ok_ne_it, ok_ne_in, ok_ne_nt, ok_ne_ni, ok_isN, ok_notN, ok_ix_tup, ok_ix_scr, ok_ix_ref, ok_pNone, ok_pSome, ok_dSl, ok_sl_tup, ok_sl_ref, ok_dRev, ok_rev_ref, ok_lRev, ok_one, ok_two, ok_abs, ok_bint, ok_bint_bl, ok_max2, ok_min2, ok_len_tup, ok_len_scr, ok_len_str, ok_len_ref, ok_btup_tup, ok_btup_scr, ok_btup_ref, ok_dL, ok_lThen, ok_dV, ok_lV, ok_dR, ok_items_tup, ok_items_scr, ok_items_ref, ok_itemsR_scr, ok_itemsR_ref, ok_lId, ok_nTup, ok_nLen, ok_nSum, ok_nAny, ok_nAll, ok_rg1, ok_asI, ok_rg2, ok_lRg, ok_dTupRg, ok_meth0, ok_meth1, ok_methL, ok_chkL, ok_append, ok_extend, ok_pop, ok_popO, ok_sOf, ok_srcOf_tup, ok_srcOf_scr, ok_srcOf_kt, ok_srcOf_ref, ok_sOfL, ok_sEnum, ok_enumOf_tup, ok_enumOf_ref, ok_sRange1, ok_sRange2, ok_gName, ok_gNil, ok_gCons, ok_gTup, oks_ok, oks_thn, oks_nx, oks_bk, oks_ct, oks_seq, oks_expr, oks_ret, oks_asg, oks_set, oks_par2, oks_par3, oks_if, oks_put, ok_setP, ok_putL, ok_fnOf, ok_dDict, ok_kNil, ok_kCons, ok_aStar, ok_star_tup, ok_star_ref, oks_for, ok_comp, scal_int, scal_str, scal_bl, scal_non, scal_tup, scal_ref, dat_int, dat_str, dat_bl, dat_non, dat_tup, ok_look, ok_store, ok_lookO_int, ok_lookO_str, ok_storeO_int, ok_storeO_str, ok_in, ok_notIn, List.getElem?_cons_zero, List.getElem?_cons_succ, List.set_cons_zero, List.set_cons_succ, List.length_cons, List.length_nil, List.map_cons, List.map_nil, List.replicate_succ, List.replicate_zero, List.cons_append, List.nil_append, Nat.reduceSub, Nat.reduceAdd, Nat.zero_add, true_and, and_true, decide_eq_true_eq, decide_eq_false_iff_not, Bool.not_eq_true', Bool.not_eq_false', forall_const, Bool.false_eq_true, Bool.true_eq_false, false_implies, true_implies, reduceCtorEq, Bool.not_true, Bool.not_false, wipeE, reduceIte, and_self, Option.some.injEq, exists_eq_left', exists_eq_left, List.getElem?_nil, List.length_map, not_true_eq_false, not_false_eq_true, SZ, Nat.reduceLeDiff, Nat.reduceLT, Int.reduceLT, Int.reduceLE, Int.reduceAdd, Int.reduceSub, Int.reduceMul, Int.reduceNeg, Int.reducePow, Int.reduceToNat, Nat.reducePow, and_true, true_and, Nat.reduceMul, new_get, gN1, gN2, gN3]
      refine (pk _ _ _ _ is (by decide)).mono ?_
      rintro p m2 ⟨r, rfl, h0, hr, is2, fr2, hl2⟩
      obtain ⟨r, rfl⟩ := Int.eq_ofNat_of_zero_le h0
      obtain ⟨d, d1, d2, d3, d4⟩ := pile_ok r (by omega)
      refine (d3 m2).mono ?_
      rintro p m3 ⟨e1, fr3⟩
      rw [ok_repr ⟨e1, d2, d1⟩]
      refine (d4 m3).mono ?_
      rintro p m4 ⟨e2, fr4⟩
      rw [ok_repr ⟨e2, d2, d1⟩]
      simp only [ok_ok, ok_ret, ok_bnd, ok_when, ok_opt, ok_getO, ok_putO, ok_newO, ok_dVar, ok_dC, ok_aNil, ok_aCons, ok_dOp, ok_dUn, ok_dTup, ok_lLst, ok_dNew, ok_dIf, ok_dCall, ok_tVal, ok_asB, ok_tTru, ok_truth_bl, ok_truth_int, ok_truth_non, ok_truth_tup, ok_tYes, ok_tAnd, ok_tOr, ok_tNot, ok_dAnd, ok_dOr, ok_uNot, ok_dChain, ok_add_int, ok_add_tup, ok_add_str, ok_add_ref, ok_sub, ok_mul, ok_mul_lst, ok_mulT, ok_div, ok_mod, ok_pow, ok_shl, ok_shr, ok_band, ok_bor, ok_xor, ok_neg, ok_lt, ok_le, ok_gt, ok_ge, ok_asD, ok_eqD, ok_eq_int, ok_eq_str, ok_eq_bl, ok_eq_non, ok_eq_tup, ok_eq_ref, ok_eq_it, ok_eq_in, ok_eq_nt, ok_eq_ni, ok_ne_int, ok_ne_str, ok_ne_bl, ok_ne_non, ok_ne_tup, ok_ne_ref, ok_ne_it, ok_ne_in, ok_ne_nt, ok_ne_ni, ok_isN, ok_notN, ok_ix_tup, ok_ix_scr, ok_ix_ref, ok_pNone, ok_pSome, ok_dSl, ok_sl_tup, ok_sl_ref, ok_dRev, ok_rev_ref, ok_lRev, ok_one, ok_two, ok_abs, ok_bint, ok_bint_bl, ok_max2, ok_min2, ok_len_tup, ok_len_scr, ok_len_str, ok_len_ref, ok_btup_tup, ok_btup_scr, ok_btup_ref, ok_dL, ok_lThen, ok_dV, ok_lV, ok_dR, ok_items_tup, ok_items_scr, ok_items_ref, ok_itemsR_scr, ok_itemsR_ref, ok_lId, ok_nTup, ok_nLen, ok_nSum, ok_nAny, ok_nAll, ok_rg1, ok_asI, ok_rg2, ok_lRg, ok_dTupRg, ok_meth0, ok_meth1, ok_methL, ok_chkL, ok_append, ok_extend, ok_pop, ok_popO, ok_sOf, ok_srcOf_tup, ok_srcOf_scr, ok_srcOf_kt, ok_srcOf_ref, ok_sOfL, ok_sEnum, ok_enumOf_tup, ok_enumOf_ref, ok_sRange1, ok_sRange2, ok_gName, ok_gNil, ok_gCons, ok_gTup, oks_ok, oks_thn, oks_nx, oks_bk, oks_ct, oks_seq, oks_expr, oks_ret, oks_asg, oks_set, oks_par2, oks_par3, oks_if, oks_put, ok_setP, ok_putL, ok_fnOf, ok_dDict, ok_kNil, ok_kCons, ok_aStar, ok_star_tup, ok_star_ref, oks_for, ok_comp, scal_int, scal_str, scal_bl, scal_non, scal_tup, scal_ref, dat_int, dat_str, dat_bl, dat_non, dat_tup, ok_look, ok_store, ok_lookO_int, ok_lookO_str, ok_storeO_int, ok_storeO_str, ok_in, ok_notIn, List.getElem?_cons_zero, List.getElem?_cons_succ, List.set_cons_zero, List.set_cons_succ, List.length_cons, List.length_nil, List.map_cons, List.map_nil, List.replicate_succ, List.replicate_zero, List.cons_append, List.nil_append, Nat.reduceSub, Nat.reduceAdd, Nat.zero_add, true_and, and_true, decide_eq_true_eq, decide_eq_false_iff_not, Bool.not_eq_true', Bool.not_eq_false', forall_const, Bool.false_eq_true, Bool.true_eq_false, false_implies, true_implies, reduceCtorEq, Bool.not_true, Bool.not_false, wipeE, reduceIte, and_self, Option.some.injEq, exists_eq_left', exists_eq_left, List.getElem?_nil, List.length_map, not_true_eq_false, not_false_eq_true, SZ, Nat.reduceLeDiff, Nat.reduceLT, Int.reduceLT, Int.reduceLE, Int.reduceAdd, Int.reduceSub, Int.reduceMul, Int.reduceNeg, Int.reducePow, Int.reduceToNat, Nat.reducePow, and_true, true_and, Nat.reduceMul, new_get, gN1, gN2, gN3]
      have e3 : [P.int 3, .int 4, .int 5] = [3, 4, 5].map nI := rfl
      rw [e3]
      refine (moves_ok [3, 4, 5] (by decide) m4).mono ?_
      rintro p m5 ⟨rfl, rfl⟩
      rw [show moveL (xorN [3, 4, 5]) (enumN [3, 4, 5]) = [pI (0, 1)] from rfl]
      simp only [ok_ok, ok_ret, ok_bnd, ok_when, ok_opt, ok_getO, ok_putO, ok_newO, ok_dVar, ok_dC, ok_aNil, ok_aCons, ok_dOp, ok_dUn, ok_dTup, ok_lLst, ok_dNew, ok_dIf, ok_dCall, ok_tVal, ok_asB, ok_tTru, ok_truth_bl, ok_truth_int, ok_truth_non, ok_truth_tup, ok_tYes, ok_tAnd, ok_tOr, ok_tNot, ok_dAnd, ok_dOr, ok_uNot, ok_dChain, ok_add_int, ok_add_tup, ok_add_str, ok_add_ref, ok_sub, ok_mul, ok_mul_lst, ok_mulT, ok_div, ok_mod, ok_pow, ok_shl, ok_shr, ok_band, ok_bor, ok_xor, ok_neg, ok_lt, ok_le, ok_gt, ok_ge, ok_asD, ok_eqD, ok_eq_int, ok_eq_str, ok_eq_bl, ok_eq_non, ok_eq_tup, ok_eq_ref, ok_eq_it, ok_eq_in, ok_eq_nt, ok_eq_ni, ok_ne_int, ok_ne_str, ok_ne_bl, ok_ne_non, ok_ne_tup, ok_ne_ref, ok_ne_it, ok_ne_in, ok_ne_nt, ok_ne_ni, ok_isN, ok_notN, ok_ix_tup, ok_ix_scr, ok_ix_ref, ok_pNone, ok_pSome, ok_dSl, ok_sl_tup, ok_sl_ref, ok_dRev, ok_rev_ref, ok_lRev, ok_one, ok_two, ok_abs, ok_bint, ok_bint_bl, ok_max2, ok_min2, ok_len_tup, ok_len_scr, ok_len_str, ok_len_ref, ok_btup_tup, ok_btup_scr, ok_btup_ref, ok_dL, ok_lThen, ok_dV, ok_lV, ok_dR, ok_items_tup, ok_items_scr, ok_items_ref, ok_itemsR_scr, ok_itemsR_ref, ok_lId, ok_nTup, ok_nLen, ok_nSum, ok_nAny, ok_nAll, ok_rg1, ok_asI, ok_rg2, ok_lRg, ok_dTupRg, ok_meth0, ok_meth1, ok_methL, ok_chkL, ok_append, ok_extend, ok_pop, ok_popO, ok_sOf, ok_srcOf_tup, ok_srcOf_scr, ok_srcOf_kt, ok_srcOf_ref, ok_sOfL, ok_sEnum, ok_enumOf_tup, ok_enumOf_ref, ok_sRange1, ok_sRange2, ok_gName, ok_gNil, ok_gCons, ok_gTup, oks_ok, oks_thn, oks_nx, oks_bk, oks_ct, oks_seq, oks_expr, oks_ret, oks_asg, oks_set, oks_par2, oks_par3, oks_if, oks_put, ok_setP, ok_putL, ok_fnOf, ok_dDict, ok_kNil, ok_kCons, ok_aStar, ok_star_tup, ok_star_ref, oks_for, ok_comp, scal_int, scal_str, scal_bl, scal_non, scal_tup, scal_ref, dat_int, dat_str, dat_bl, dat_non, dat_tup, ok_look, ok_store, ok_lookO_int, ok_lookO_str, ok_storeO_int, ok_storeO_str, ok_in, ok_notIn, List.getElem?_cons_zero, List.getElem?_cons_succ, List.set_cons_zero, List.set_cons_succ, List.length_cons, List.length_nil, List.map_cons, List.map_nil, List.replicate_succ, List.replicate_zero, List.cons_append, List.nil_append, Nat.reduceSub, Nat.reduceAdd, Nat.zero_add, true_and, and_true, decide_eq_true_eq, decide_eq_false_iff_not, Bool.not_eq_true', Bool.not_eq_false', forall_const, Bool.false_eq_true, Bool.true_eq_false, false_implies, true_implies, reduceCtorEq, Bool.not_true, Bool.not_false, wipeE, reduceIte, and_self, Option.some.injEq, exists_eq_left', exists_eq_left, List.getElem?_nil, List.length_map, not_true_eq_false, not_false_eq_true, SZ, Nat.reduceLeDiff, Nat.reduceLT, Int.reduceLT, Int.reduceLE, Int.reduceAdd, Int.reduceSub, Int.reduceMul, Int.reduceNeg, Int.reducePow, Int.reduceToNat, Nat.reducePow, and_true, true_and, Nat.reduceMul, new_get, gN1, gN2, gN3]
      exact ⟨_, rfl, _, rfl, by decide, rfl⟩
  obtain ⟨p, m', e, rfl⟩ := k.ex
  exact ⟨m', e⟩
end K_k22

open PySem PySem.W PySem.Calls PyProof.Rows
theorem PySem.Challenge.cw_eachgame_k22_piles_and_moves_that_win_holds : PySem.Challenge.rw_eachgame_k22_piles_and_moves_that_win.Holds := by
  w_on; o_law
  refine HandSHeadRun.head_any (r := OpenLaw.row PySem.Challenge.rw_eachgame_k22_piles_and_moves_that_win) (q := view (OpenLaw.row PySem.Challenge.rw_eachgame_k22_piles_and_moves_that_win).prog [15]) (H := K_k22.hk) (ob := K_k22.ob) (M := 4000) (loose := K_k22.loose) (d := HandSHeadRun.topDef (OpenLaw.row PySem.Challenge.rw_eachgame_k22_piles_and_moves_that_win).prog 15) (kwd := []) K_k22.ob_eq
    (by kernel_rfl) (fun s => by kernel_rfl) K_k22.run (by kernel_rfl) (by kernel_rfl) (by kernel_rfl) (by rfl) (by first | assumption | decide +kernel) (by decide +kernel) ⟨rfl, rfl, rfl, rfl, rfl, by decide +kernel⟩ ?hw ?hc
  case hw => w_witness2
  case hc =>
    refine G.walkG (l := PySem.Challenge.rw_eachgame_k22_piles_and_moves_that_win) (n := 63) (k := 42) (x := "script") (F := K_k22.F_law) rfl (by decide) (by kernel_rfl) ⟨rfl, by decide, by decide⟩ ?F K_k22.res
    intro w mg fa h Y G hmg0
    obtain ⟨K, KX, c⟩ := Y
    have hmg : mg ("law" : PySem.Str) = some (.ref fa) := by
      have e : (HandSHeadRun.topDef (OpenLaw.row PySem.Challenge.rw_eachgame_k22_piles_and_moves_that_win).prog 15).name = ("law" : PySem.Str) := by kernel_rfl
      rw [← e]
      exact hmg0
    obtain ⟨fd, hb, hF⟩ := K_k22.facts (Pr := (PySem.Challenge.rw_eachgame_k22_piles_and_moves_that_win).prog) (w := w) KX G hmg c
    exact ⟨K, fd, KX, hb, hF⟩
