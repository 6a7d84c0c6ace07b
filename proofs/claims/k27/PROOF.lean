import PyProof.Rows.All
import HandS.ForMost
import HandS.TupAny
import HandS.Flow
import HandS.Deep
import HandS.Style
import HandS.Conv
import HandS.Zip
import HandS.Rev
import HandS.RaiseMore
import HandS.IsInst
import HandS.DictComp
import HandS.More
import HandS.Star
import HandS.TupLe
import HandS.Wide
import KE.SortData
import PyProof.Rows.ReprR
import PyProof.EnumMake
import KE.GoesMore
import HandS.Words
import HandS.Defaults
import HandS.HeadEnd
import HandS.TupMul
import KE.DatumOrd
import HandS.Head0
import HandS.Head1
import HandS.Head2
import HandS.HeadHook1
import HandS.HeadHook2
import PyProof.FitsInt
import HandS.Text
import PySem.Challenge.RW_eachgame_k27_whole_worths_and_who_wins
set_option Elab.async false
set_option linter.all false
set_option maxRecDepth 100000
set_option maxHeartbeats 0
/-! G1: a small semantics of our own: values, a heap of things that change, results, and one combinator for each construct. -/
namespace G
open PySem (Str PyData)

/-- a value: tuples as trees; ref n is the n-th thing of the heap; scr is the script; kt a tuple of the module's -/
inductive P where
  | non
  | bl (b : Bool)
  | int (i : Int)
  | str (x : Str)
  | tup (ps : List P)
  | scr (ps : List P)
  | kt (ps : List P)
  | ref (n : Nat)

/-- a thing that may change -/
inductive O where
  | lst (ps : List P)
  | dK (kvs : List (L2.Key × P))
  | dT (kvs : List (List L2.Key × P))
  /-- a dict that is walked -/
  | lk (kvs : List (L2.Key × P))

abbrev Hm := List O

inductive R (α : Type) where
  | ok (a : α) (m : Hm)
  | exc (c : String) (v : P) (m : Hm)
  | bad

def M (α : Type) : Type := Hm → R α

section
variable {α β : Type}
def ret (a : α) : M α := fun m => .ok a m
def bad : M α := fun _ => .bad
def bnd (x : M α) (f : α → M β) : M β := fun m => match x m with
  | .ok a m' => f a m'
  | .exc c v m' => .exc c v m'
  | .bad => .bad
/-- go on if b -/
def when_ (b : Bool) (x : M α) : M α := fun m => match b with
  | true => x m
  | false => .bad
def opt (o : Option α) : M α := fun m => match o with
  | some a => .ok a m
  | none => .bad
def getO (n : Nat) (f : O → M α) : M α := fun m => match m[n]? with
  | some o => f o m
  | none => .bad
def putO (n : Nat) (o : O) : M Unit := fun m => .ok () (m.set n o)
def newO (o : O) : M P := fun m => .ok (.ref m.length) (m ++ [o])
theorem bnd_assoc {γ : Type} (x : M α) (f : α → M β) (g : β → M γ) : bnd (bnd x f) g = bnd x fun a => bnd (f a) g := by
  funext m
  unfold bnd
  cases x m <;> rfl
theorem bnd_ret (a : α) (f : α → M β) : bnd (ret a) f = f a := rfl
end

abbrev SZ : Nat := 16777216
abbrev Env := List (Option P)
abbrev D := Env → M P
abbrev A := Env → M (List P)
abbrev T := Env → M Bool
abbrev LD := Env → M (List P)

/-! ### values as the library's data -/
def mapO {α β : Type} (g : α → Option β) : List α → Option (List β)
  | [] => some []
  | p :: ps => match g p with
    | some d => match mapO g ps with
      | some ds => some (d :: ds)
      | none => none
    | none => none
/-- the datum of a value, to a depth -/
def dat (m : Hm) : Nat → P → Option PyData
  | 0, .non => some .none
  | 0, .bl b => some (.bool b)
  | 0, .int i => some (.int i)
  | 0, .str x => some (.str x)
  | 0, _ => none
  | _ + 1, .non => some .none
  | _ + 1, .bl b => some (.bool b)
  | _ + 1, .int i => some (.int i)
  | _ + 1, .str x => some (.str x)
  | f + 1, .tup ps => (mapO (dat m f) ps).map .tuple
  | f + 1, .scr ps => (mapO (dat m f) ps).map .list
  | f + 1, .kt ps => (mapO (dat m f) ps).map .tuple
  | f + 1, .ref n => match m[n]? with
    | some (.lst ps) => (mapO (dat m f) ps).map .list
    | _ => none
def DD : Nat := 60
/-- x as a datum -/
def asD (x : P) : M PyData := fun m => match dat m DD x with
  | some d => .ok d m
  | none => .bad
def allD (xs : List P) : M (List PyData) := fun m => match mapO (dat m DD) xs with
  | some ds => .ok ds m
  | none => .bad

/-! ### expressions -/
def dVar (i : Nat) : D := fun ρ m => match ρ[i]? with
  | some (some p) => .ok p m
  | _ => .bad
def dC (p : P) : D := fun _ m => .ok p m
def aNil : A := fun _ m => .ok [] m
def aCons (d : D) (a : A) : A := fun ρ => bnd (d ρ) fun x => bnd (a ρ) fun xs => ret (x :: xs)
/-- *e in an argument list -/
def aStar (d : D) (a : A) : A := fun ρ => bnd (d ρ) fun x => match x with
  | .tup ps => bnd (a ρ) fun xs => ret (ps ++ xs)
  | .ref n => getO n fun o => match o with
    | .lst ps => bnd (a ρ) fun xs => ret (ps ++ xs)
    | _ => bad
  | _ => bad
def dOp (f : P → P → M P) (a b : D) : D := fun ρ => bnd (a ρ) fun x => bnd (b ρ) fun y => f x y
def dUn (f : P → M P) (a : D) : D := fun ρ => bnd (a ρ) f
def dTup (a : A) : D := fun ρ => bnd (a ρ) fun ps => when_ (decide (ps.length ≤ SZ)) (ret (.tup ps))
/-- a list that no one holds yet -/
def lLst (a : A) : LD := fun ρ => bnd (a ρ) fun ps => when_ (decide (ps.length ≤ SZ)) (ret ps)
def dNew (l : LD) : D := fun ρ => bnd (l ρ) fun ps => newO (.lst ps)
def dIf (c : T) (a b : D) : D := fun ρ => bnd (c ρ) fun k => match k with
  | true => a ρ
  | false => b ρ
def dCall (call : List P → M P) (a : A) : D := fun ρ => bnd (a ρ) call

/-! ### tests -/
def asB (x : P) : M Bool := match x with
  | .bl b => ret b
  | _ => bad
def tVal (d : D) : T := fun ρ => bnd (d ρ) asB
/-- truth of any value -/
def truth (x : P) : M Bool := match x with
  | .non => ret false
  | .bl b => ret b
  | .int i => ret (i != 0)
  | .tup ps => ret (!ps.isEmpty)
  | _ => bad
def tTru (d : D) : T := fun ρ => bnd (d ρ) truth
def tAnd (a b : T) : T := fun ρ => bnd (a ρ) fun k => match k with
  | true => b ρ
  | false => ret false
def tOr (a b : T) : T := fun ρ => bnd (a ρ) fun k => match k with
  | true => ret true
  | false => b ρ
def tNot (a : T) : T := fun ρ => bnd (a ρ) fun k => ret (!k)
def dB (t : T) : D := fun ρ => bnd (t ρ) fun k => ret (.bl k)
/-- a and b, a or b as values: the operands are truth values -/
def dAnd (a b : D) : D := fun ρ => bnd (a ρ) fun x => match x with
  | .bl true => b ρ
  | .bl false => ret (.bl false)
  | _ => bad
def dOr (a b : D) : D := fun ρ => bnd (a ρ) fun x => match x with
  | .bl true => ret (.bl true)
  | .bl false => b ρ
  | _ => bad
def uNot (x : P) : M P := match x with
  | .bl b => ret (.bl (!b))
  | _ => bad
/-- a op b op' c -/
def dChain (f g : P → P → M P) (a b c : D) : D := fun ρ => bnd (a ρ) fun x => bnd (b ρ) fun y => bnd (f x y) fun z => match z with
  | .bl true => bnd (c ρ) fun w => g y w
  | .bl false => ret (.bl false)
  | _ => bad

/-! ### operators by values -/
def i2 (c : Int → Int → Bool) (f : Int → Int → P) (x y : P) : M P := match x with
  | .int i => match y with
    | .int j => when_ (c i j) (ret (f i j))
    | _ => bad
  | _ => bad
def oAdd (x y : P) : M P := match x with
  | .int i => match y with
    | .int j => ret (.int (i + j))
    | _ => bad
  | .tup ps => match y with
    | .tup qs => when_ (decide (ps.length + qs.length ≤ SZ)) (ret (.tup (ps ++ qs)))
    | _ => bad
  | .str a => match y with
    | .str b => when_ (decide (a.length + b.length ≤ SZ)) (ret (.str (a ++ b)))
    | _ => bad
  | .ref n => match y with
    | .ref k => getO n fun o => match o with
      | .lst ps => getO k fun o' => match o' with
        | .lst qs => when_ (decide (ps.length + qs.length ≤ SZ)) (newO (.lst (ps ++ qs)))
        | _ => bad
      | _ => bad
    | _ => bad
  | _ => bad
def yes2 (_ _ : Int) : Bool := true
def oSub : P → P → M P := i2 yes2 fun i j => .int (i - j)
def cMul (i j : Int) : Bool := (decide (-(18446744073709551616) < i) && decide (i < 18446744073709551616)) || (decide (-(18446744073709551616) < j) && decide (j < 18446744073709551616))
def oMul (x y : P) : M P := match x with
  | .int i => match y with
    | .int j => when_ (cMul i j) (ret (.int (i * j)))
    | _ => bad
  | .ref n => match y with
    | .int k => getO n fun o => match o with
      | .lst ps => when_ (decide (-(9223372036854775808) ≤ k) && decide (k < 9223372036854775808) && decide (ps.length * k.toNat ≤ SZ)) (newO (.lst (List.replicate k.toNat ps).flatten))
      | _ => bad
    | _ => bad
  | _ => bad
def oDiv : P → P → M P := i2 (fun _ j => decide (0 < j) && decide (j < 18446744073709551616)) fun i j => .int (i / j)
def oMod : P → P → M P := i2 (fun _ j => decide (0 < j)) fun i j => .int (i % j)
def cPow (i j : Int) : Bool := decide (0 ≤ j) && decide (j ≤ 1000000) && decide (i.natAbs < 18446744073709551616)
def oPow : P → P → M P := i2 cPow fun i j => .int (i ^ j.toNat)
def oShl : P → P → M P := i2 cPow fun i j => .int (i * 2 ^ j.toNat)
def oShr : P → P → M P := i2 (fun _ j => decide (0 ≤ j)) fun i j => .int (i / 2 ^ j.toNat)
def oAnd : P → P → M P := i2 yes2 fun i j => .int (PySem.Builtin.bitAnd i j)
def oOr : P → P → M P := i2 yes2 fun i j => .int (PySem.Builtin.bitOr i j)
def oXor : P → P → M P := i2 yes2 fun i j => .int (PySem.Builtin.bitXor i j)
def uNeg (x : P) : M P := match x with
  | .int i => ret (.int (-i))
  | _ => bad
/-- == of two scalars -/
def scalP : P → P → Option Bool
  | .int i, .int j => some (decide (i = j))
  | .str a, .str b => some (decide (a = b))
  | .bl a, .bl b => some (decide (a = b))
  | .non, .non => some true
  | _, _ => none
/-- ==, != -/
def eqD (neg : Bool) (x y : P) : M P := bnd (asD x) fun d => bnd (asD y) fun e => when_ (PySem.SeqAt.shaped d && PySem.SeqAt.shaped e) (ret (.bl (PyData.eqv d e != neg)))
def oEq (x y : P) : M P := match scalP x y with
  | some b => ret (.bl b)
  | none => eqD false x y
def oNe (x y : P) : M P := match scalP x y with
  | some b => ret (.bl !b)
  | none => eqD true x y
def oLt (x y : P) : M P := match x with
  | .int i => match y with
    | .int j => ret (.bl (decide (i < j)))
    | _ => bad
  | .str a => match y with
    | .str b => ret (.bl (decide (a.cps.toList < b.cps.toList)))
    | _ => bad
  | .tup _ => bnd (asD x) fun d => bnd (asD y) fun e => when_ (PySem.W.alike d e) (ret (.bl (PySem.W.dataLt d e)))
  | _ => bad
def oGt (x y : P) : M P := match x with
  | .int i => match y with
    | .int j => ret (.bl (decide (j < i)))
    | _ => bad
  | _ => bad
def oLe (x y : P) : M P := match x with
  | .int i => match y with
    | .int j => ret (.bl (decide (i ≤ j)))
    | _ => bad
  | .str a => match y with
    | .str b => ret (.bl (!decide (b.cps.toList < a.cps.toList)))
    | _ => bad
  | _ => bad
def oGe (x y : P) : M P := match x with
  | .int i => match y with
    | .int j => ret (.bl (decide (j ≤ i)))
    | _ => bad
  | _ => bad
def isNon : P → Bool
  | .non => true
  | _ => false
def uIsN (x : P) : M P := ret (.bl (isNon x))
def uNotN (x : P) : M P := ret (.bl (!isNon x))

/-! ### dicts -/
def keyOf : P → Option L2.Key
  | .int i => some (.inl i)
  | .str x => some (.inr x)
  | _ => none
def tkeyOf : P → Option (List L2.Key)
  | .tup ps => mapO keyOf ps
  | _ => none
section
variable {κ : Type} [DecidableEq κ]
def vGet (kvs : List (κ × P)) (k : κ) : Option P := (kvs.find? fun kv => decide (kv.1 = k)).map (·.2)
def vPut (kvs : List (κ × P)) (k : κ) (v : P) : List (κ × P) :=
  match kvs.any fun kv => decide (kv.1 = k) with
  | true => kvs.map fun kv => if kv.1 = k then (kv.1, v) else kv
  | false => kvs ++ [(k, v)]
end
/-- the value at a key, in a thing that is a dict -/
def dLook (n : Nat) (k : P) : M (Option P) := fun m => match m[n]? with
  | some (.dK kvs) => match keyOf k with
    | some q => .ok (vGet kvs q) m
    | none => match kvs with
      | [] => match tkeyOf k with
        | some _ => .ok none (m.set n (.dT []))
        | none => .bad
      | _ => .bad
  | some (.dT kvs) => match tkeyOf k with
    | some q => .ok (vGet kvs q) m
    | none => .bad
  | _ => .bad
def dStore (n : Nat) (k v : P) : M Unit := fun m => match m[n]? with
  | some (.dK kvs) => match keyOf k with
    | some q => match decide (kvs.length < SZ) with
      | true => .ok () (m.set n (.dK (vPut kvs q v)))
      | false => .bad
    | none => match kvs with
      | [] => match tkeyOf k with
        | some q => .ok () (m.set n (.dT [(q, v)]))
        | none => .bad
      | _ => .bad
  | some (.dT kvs) => match tkeyOf k with
    | some q => match decide (kvs.length < SZ) with
      | true => .ok () (m.set n (.dT (vPut kvs q v)))
      | false => .bad
    | none => .bad
  | _ => .bad
/-- x in y, a tuple -/
def inT (x y : P) : M Bool := bnd (asD x) fun d => bnd (asD y) fun e => match e with
  | .tuple ds => when_ (PySem.SeqAt.shaped d && PySem.SeqAt.shaped e) (ret (ds.any fun z => PyData.eqv z d))
  | _ => bad
/-- x in y -/
def inP (x y : P) : M Bool := match y with
  | .ref n => getO n fun o => match o with
    | .lst _ => bnd (asD x) fun d => bnd (asD y) fun e => match e with
      | .list ds => when_ (PySem.SeqAt.shaped d && PySem.SeqAt.shaped e) (ret (ds.any fun z => PyData.eqv z d))
      | _ => bad
    | .dK _ => bnd (dLook n x) fun o => ret o.isSome
    | .dT _ => bnd (dLook n x) fun o => ret o.isSome
    | _ => bad
  | .tup _ => inT x y
  | .kt _ => inT x y
  | _ => bad
def oIn (x y : P) : M P := bnd (inP x y) fun b => ret (.bl b)
def oNotIn (x y : P) : M P := bnd (inP x y) fun b => ret (.bl (!b))

/-! ### subscripts, slices -/
def oIx (x y : P) : M P := match x with
  | .tup ps => match y with
    | .int i => opt (L2.atI ps i)
    | _ => bad
  | .scr ps => match y with
    | .int i => opt (L2.atI ps i)
    | _ => bad
  | .ref n => getO n fun o => match o with
    | .lst ps => match y with
      | .int i => opt (L2.atI ps i)
      | _ => bad
    | .dK _ => bnd (dLook n y) opt
    | .dT _ => bnd (dLook n y) opt
    | _ => bad
  | _ => bad
def cutP (xs : List P) (lo hi : Option Int) : List P := (xs.drop (HT.sIx xs.length 0 lo)).take (HT.sIx xs.length xs.length hi - HT.sIx xs.length 0 lo)
/-- a part of a slice -/
abbrev OD := Env → M (Option Int)
def pNone : OD := fun _ => ret none
def pSome (d : D) : OD := fun ρ => bnd (d ρ) fun x => match x with
  | .int i => ret (some i)
  | _ => bad
def slP (x : P) (l h : Option Int) : M P := match x with
  | .tup ps => ret (.tup (cutP ps l h))
  | .ref n => getO n fun o => match o with
    | .lst ps => newO (.lst (cutP ps l h))
    | _ => bad
  | _ => bad
def dSl (e : D) (lo hi : OD) : D := fun ρ => bnd (e ρ) fun x => bnd (lo ρ) fun l => bnd (hi ρ) fun h => slP x l h
/-- xs[::-1] of a list -/
def dRev (e : D) : D := fun ρ => bnd (e ρ) fun x => match x with
  | .ref n => getO n fun o => match o with
    | .lst ps => newO (.lst ps.reverse)
    | _ => bad
  | _ => bad
/-- .. of a list that no one holds -/
def lRev (l : LD) : LD := fun ρ => bnd (l ρ) fun ps => ret ps.reverse

/-! ### built-in functions -/
def one (f : P → M P) (xs : List P) : M P := match xs with
  | [x] => f x
  | _ => bad
def two (f : P → P → M P) (xs : List P) : M P := match xs with
  | [x, y] => f x y
  | _ => bad
/-- the items of a list or tuple -/
def items (x : P) : M (List P) := match x with
  | .tup ps => ret ps
  | .scr ps => ret ps
  | .kt ps => ret ps
  | .ref n => getO n fun o => match o with
    | .lst ps => ret ps
    | _ => bad
  | _ => bad
def lItems (d : D) : LD := fun ρ => bnd (d ρ) items
def intsOf : List P → Option (List Int)
  | [] => some []
  | .int i :: r => match intsOf r with
    | some l => some (i :: l)
    | none => none
  | _ :: _ => none
def bls : List P → Option (List Bool)
  | [] => some []
  | .bl b :: r => match bls r with
    | some l => some (b :: l)
    | none => none
  | _ :: _ => none
def bLen (x : P) : M P := match x with
  | .str z => when_ (decide (z.length ≤ SZ)) (ret (.int z.length))
  | .tup ps => ret (.int ps.length)
  | .scr ps => ret (.int ps.length)
  | .ref n => getO n fun o => match o with
    | .lst ps => ret (.int ps.length)
    | .dK kvs => ret (.int kvs.length)
    | _ => bad
  | _ => bad
def bAbs (x : P) : M P := match x with
  | .int i => ret (.int (if i < 0 then -i else i))
  | _ => bad
def bInt (x : P) : M P := match x with
  | .int i => ret (.int i)
  | .bl b => ret (.int (if b then 1 else 0))
  | _ => bad
def bMax2 (x y : P) : M P := match x with
  | .int i => match y with
    | .int j => ret (.int (if j > i then j else i))
    | _ => bad
  | _ => bad
def bMin2 (x y : P) : M P := match x with
  | .int i => match y with
    | .int j => ret (.int (if j < i then j else i))
    | _ => bad
  | _ => bad
def iMax (i : Int) (l : List Int) : Int := l.foldl (fun a b => if b > a then b else a) i
def iMin (i : Int) (l : List Int) : Int := l.foldl (fun a b => if b < a then b else a) i
/-- by the items: sum, max, min, any, all -/
def nSum (ps : List P) : M P := bnd (opt (intsOf ps)) fun l => ret (.int l.sum)
def nMax (ps : List P) : M P := bnd (opt (intsOf ps)) fun l => match l with
  | i :: r => ret (.int (iMax i r))
  | [] => bad
def nMin (ps : List P) : M P := bnd (opt (intsOf ps)) fun l => match l with
  | i :: r => ret (.int (iMin i r))
  | [] => bad
def nAny (ps : List P) : M P := bnd (opt (bls ps)) fun l => ret (.bl (l.any id))
def nAll (ps : List P) : M P := bnd (opt (bls ps)) fun l => ret (.bl (l.all id))
def bTup (x : P) : M P := match x with
  | .tup ps => ret (.tup ps)
  | .scr ps => ret (.tup ps)
  | .ref n => getO n fun o => match o with
    | .lst ps => ret (.tup ps)
    | _ => bad
  | _ => bad
def nTup (ps : List P) : M P := ret (.tup ps)
def nLen (ps : List P) : M P := ret (.int ps.length)
/-- a built-in over a list that no one holds -/
def dL (f : List P → M P) (l : LD) : D := fun ρ => bnd (l ρ) f
/-- tuple(x), list(x) of any -/
def allAlike (ds : List PyData) : Bool := ds.all fun d => ds.all fun e => PySem.W.alike d e
def isTup1 : PyData → Bool
  | .tuple (_ :: _) => true
  | _ => false
def isOther : PyData → Bool
  | .none => false
  | .tuple _ => false
  | _ => true
/-- sorting by merging, at most n times down -/
def mg {α : Type} (le : α → α → Bool) : Nat → List α → List α → List α
  | 0, _, _ => []
  | _ + 1, [], ys => ys
  | _ + 1, x :: xs, [] => x :: xs
  | n + 1, x :: xs, y :: ys => match le x y with
    | true => x :: mg le n xs (y :: ys)
    | false => y :: mg le n (x :: xs) ys
def ms {α : Type} (le : α → α → Bool) : Nat → List α → List α
  | 0, _ => []
  | _ + 1, [] => []
  | _ + 1, [a] => [a]
  | n + 1, a :: b :: xs => mg le ((a :: b :: xs).length + 1) (ms le n ((a :: b :: xs).take (((a :: b :: xs).length + 1) / 2))) (ms le n ((a :: b :: xs).drop (((a :: b :: xs).length + 1) / 2)))
def sortP (ps : List P) : M (List P) := fun m => match mapO (fun p => (dat m DD p).map fun d => (p, d)) ps with
  | some qs => match allAlike (qs.map (·.2)) && ((qs.map (·.2)).all isTup1 || (qs.map (·.2)).all isOther) with
    | true => .ok ((ms (fun a b => !PySem.W.dataLt b.2 a.2) (qs.length + 1) qs).map (·.1)) m
    | false => .bad
  | none => .bad
def bRepr (x : P) : M P := bnd (asD x) fun d => when_ (d.showable && decide (d.shown.length ≤ SZ)) (ret (.str d.shown))
/-- repr of a list that no one holds -/
def nRepr (ps : List P) : M P := bnd (allD ps) fun ds => when_ ((PyData.list ds).showable && decide ((PyData.list ds).shown.length ≤ SZ)) (ret (.str (PyData.list ds).shown))
/-- a built-in over the items of a value -/
def dV (f : List P → M P) (d : D) : D := fun ρ => bnd (d ρ) fun x => bnd (items x) f
def lV (f : List P → M (List P)) (d : D) : LD := fun ρ => bnd (d ρ) fun x => bnd (items x) f
/-- .. of a list that no one holds, again such a one -/
def lThen (f : List P → M (List P)) (l : LD) : LD := fun ρ => bnd (l ρ) f
def lId (ps : List P) : M (List P) := ret ps
/-- == of two such lists and values -/
def nEqL (neg : Bool) (x : P) (ps : List P) : M P := bnd (asD x) fun d => bnd (allD ps) fun es => when_ (PySem.SeqAt.shaped d && PySem.SeqAt.shaped (.list es)) (ret (.bl (if neg then !PyData.eqv d (.list es) else PyData.eqv d (.list es))))

/-! ### methods -/
/-- x is a list, a dict -/
def chkL (x : P) : M Unit := match x with
  | .ref n => getO n fun o => match o with
    | .lst _ => ret ()
    | _ => bad
  | _ => bad
def dMeth0 (chk : P → M Unit) (f : P → M P) (o : D) : D := fun ρ => bnd (o ρ) fun x => bnd (chk x) fun _ => f x
def dMeth1 (chk : P → M Unit) (f : P → P → M P) (o a : D) : D := fun ρ => bnd (o ρ) fun x => bnd (chk x) fun _ => bnd (a ρ) fun y => f x y
/-- .. with a list that no one holds -/
def dMethL (chk : P → M Unit) (f : P → List P → M P) (o : D) (l : LD) : D := fun ρ => bnd (o ρ) fun x => bnd (chk x) fun _ => bnd (l ρ) fun ys => f x ys
def mAppend (x y : P) : M P := match x with
  | .ref n => getO n fun o => match o with
    | .lst ps => when_ (decide (ps.length < SZ)) (bnd (putO n (.lst (ps ++ [y]))) fun _ => ret .non)
    | _ => bad
  | _ => bad
/-- xs.extend(l), l a list that no one holds -/
def mExtend (x : P) (qs : List P) : M P := match x with
  | .ref n => getO n fun o => match o with
    | .lst ps => when_ (decide (ps.length + qs.length ≤ SZ)) (bnd (putO n (.lst (ps ++ qs))) fun _ => ret .non)
    | _ => bad
  | _ => bad
def mPop (x : P) : M P := match x with
  | .ref n => getO n fun o => match o with
    | .lst ps => match ps[ps.length - 1]? with
      | some y => bnd (putO n (.lst ps.dropLast)) fun _ => ret y
      | none => bad
    | _ => bad
  | _ => bad
def mPopAt (x y : P) : M P := match x with
  | .ref n => match y with
    | .int i => getO n fun o => match o with
      | .lst ps => match L2.ixN ps.length i with
        | some k => match ps[k]? with
          | some z => when_ (decide (-(9223372036854775808) ≤ i) && decide (i < 9223372036854775808)) (bnd (putO n (.lst (ps.eraseIdx k))) fun _ => ret z)
          | none => bad
        | none => bad
      | _ => bad
    | _ => bad
  | _ => bad

/-! ### what is walked -/
inductive Src where
  | seq (ps : List P)
  | lst (n : Nat)
  | enumL (n : Nat)
  | zipL (n k : Nat)
/-- two side by side -/
def pair2 : Option P → Option P → Option P
  | some p, some q => some (.tup [p, q])
  | _, _ => none
/-- none: not a list any more; some none: at its end -/
def Src.at : Src → Nat → Hm → Option (Option P)
  | .seq ps, i, _ => some ps[i]?
  | .lst n, i, m => match m[n]? with
    | some (.lst ps) => some ps[i]?
    | _ => none
  | .enumL n, i, m => match m[n]? with
    | some (.lst ps) => some (ps[i]?.map fun p => .tup [.int (i : Nat), p])
    | _ => none
  | .zipL n k, i, m => match m[n]? with
    | some (.lst ps) => match m[k]? with
      | some (.lst qs) => some (pair2 ps[i]? qs[i]?)
      | _ => none
    | _ => none
def Src.len : Src → Hm → Nat
  | .seq ps, _ => ps.length
  | .lst n, m => match m[n]? with
    | some (.lst ps) => ps.length
    | _ => 0
  | .enumL n, m => match m[n]? with
    | some (.lst ps) => ps.length
    | _ => 0
  | .zipL n k, m => match m[n]? with
    | some (.lst ps) => match m[k]? with
      | some (.lst qs) => min ps.length qs.length
      | _ => 0
    | _ => 0
abbrev SD := Env → M Src
def sOf (d : D) : SD := fun ρ => bnd (d ρ) fun x => match x with
  | .tup ps => ret (.seq ps)
  | .scr ps => ret (.seq ps)
  | .kt ps => ret (.seq ps)
  | .ref n => getO n fun o => match o with
    | .lst _ => ret (.lst n)
    | _ => bad
  | _ => bad
def sOfL (l : LD) : SD := fun ρ => bnd (l ρ) fun ps => ret (.seq ps)
def numbered (i : Nat) : List P → List P
  | [] => []
  | p :: ps => .tup [.int (i : Nat), p] :: numbered (i + 1) ps
def sEnum (d : D) : SD := fun ρ => bnd (d ρ) fun x => match x with
  | .tup ps => ret (.seq (numbered 0 ps))
  | .ref n => getO n fun o => match o with
    | .lst _ => ret (.enumL n)
    | _ => bad
  | _ => bad
def rangeP (a b : Int) : List P := (List.range (b - a).toNat).map fun (i : Nat) => .int (a + i)
def small62 (i : Int) : Bool := decide (-(4611686018427387904) ≤ i) && decide (i < 4611686018427387904)
def sRange1 (d : D) : SD := fun ρ => bnd (d ρ) fun x => match x with
  | .int j => when_ (small62 j) (ret (.seq (rangeP 0 j)))
  | _ => bad
def sRange2 (a b : D) : SD := fun ρ => bnd (a ρ) fun x => bnd (b ρ) fun y => match x with
  | .int i => match y with
    | .int j => when_ (small62 i && small62 j) (ret (.seq (rangeP i j)))
    | _ => bad
  | _ => bad
/-- targets -/
abbrev GD := P → Env → M Env
def gName (i : Nat) : GD := fun p ρ => ret (ρ.set i (some p))
abbrev GsD := List P → Env → M Env
def gNil : GsD := fun ps ρ => match ps with
  | [] => ret ρ
  | _ => bad
def gCons (g : GD) (gs : GsD) : GsD := fun ps ρ => match ps with
  | p :: r => bnd (g p ρ) fun ρ' => gs r ρ'
  | [] => bad
/-- n names out of a tuple -/
def gTup (n : Nat) (gs : GsD) : GD := fun p ρ => match p with
  | .tup ps => when_ (decide (ps.length = n)) (gs ps ρ)
  | _ => bad
def wipeE (ρ : Env) : List Nat → Env
  | [] => ρ
  | v :: vs => (wipeE ρ vs).set v none
/-- the turns of a comprehension: src's items from the i-th on, at most f of them, acc what is made so far; own: the slots that are its own -/
def compL (g : GD) (t : T) (e : D) (ρ : Env) (src : Src) : Nat → Nat → List P → M (List P)
  | 0, i, acc => fun m => match src.at i m with
    | none => .bad
    | some none => .ok acc m
    | some (some _) => .bad
  | f + 1, i, acc => fun m => match src.at i m with
    | none => .bad
    | some none => .ok acc m
    | some (some p) => bnd (g p ρ) (fun ρ' => bnd (t ρ') fun k => match k with
      | true => bnd (e ρ') fun y => when_ (decide (acc.length < SZ)) (compL g t e ρ src f (i + 1) (acc ++ [y]))
      | false => compL g t e ρ src f (i + 1) acc) m
/-- what raises within a comprehension is not covered -/
def noX {α : Type} (x : M α) : M α := fun m => match x m with
  | .ok a m' => .ok a m'
  | .exc _ _ _ => .bad
  | .bad => .bad
def tYes : T := fun _ => ret true
def lComp (src : SD) (g : GD) (t : T) (e : D) (own : List Nat) : LD := fun ρ => bnd (src ρ) fun s => noX fun m => compL g t e (wipeE ρ own) s (s.len m) 0 [] m

/-! ### statements -/
inductive Fl where
  | nx | bk | ct
  | rt (p : P)
inductive RS where
  | ok (f : Fl) (ρ : Env) (m : Hm)
  | exc (c : String) (v : P) (ρ : Env) (m : Hm)
  | bad
abbrev DS := Env → Hm → RS
/-- an expression's result, then k -/
def thn {α : Type} (x : M α) (ρ : Env) (k : α → Hm → RS) (m : Hm) : RS := match x m with
  | .ok a m' => k a m'
  | .exc c v m' => .exc c v ρ m'
  | .bad => .bad
def sNx : DS := fun ρ m => .ok .nx ρ m
def sBk : DS := fun ρ m => .ok .bk ρ m
def sCt : DS := fun ρ m => .ok .ct ρ m
def sSeq (s t : DS) : DS := fun ρ m => match s ρ m with
  | .ok .nx ρ' m' => t ρ' m'
  | r => r
def sExpr (d : D) : DS := fun ρ => thn (d ρ) ρ fun _ m => .ok .nx ρ m
def sRet (d : D) : DS := fun ρ => thn (d ρ) ρ fun p m => .ok (.rt p) ρ m
def sAsg (d : D) (g : GD) : DS := fun ρ => thn (d ρ) ρ fun p m => thn (g p ρ) ρ (fun ρ' m' => .ok .nx ρ' m') m
def sSet (i : Nat) (d : D) : DS := sAsg d (gName i)
/-- a, b = x, y; three of them -/
def sPar2 (i j : Nat) (a : A) : DS := fun ρ => thn (a ρ) ρ fun ps m => match ps with
  | [p, q] => .ok .nx ((ρ.set i (some p)).set j (some q)) m
  | _ => .bad
def sPar3 (i j l : Nat) (a : A) : DS := fun ρ => thn (a ρ) ρ fun ps m => match ps with
  | [p, q, r] => .ok .nx (((ρ.set i (some p)).set j (some q)).set l (some r)) m
  | _ => .bad
def sIf (c : T) (s t : DS) : DS := fun ρ => thn (c ρ) ρ fun k m => match k with
  | true => s ρ m
  | false => t ρ m
/-- o[i] = v -/
def setP (x y z : P) : M Unit := match x with
  | .ref n => getO n fun ob => match ob with
    | .lst ps => match y with
      | .int j => match L2.ixN ps.length j with
        | some k => putO n (.lst (ps.set k z))
        | none => bad
      | _ => bad
    | _ => dStore n y z
  | _ => bad
def sPut (o i v : D) : DS := fun ρ => thn (bnd (v ρ) fun z => bnd (o ρ) fun x => bnd (i ρ) fun y => setP x y z) ρ fun _ m => .ok .nx ρ m
/-- a loop: at most N turns -/
def sWhile (c : T) (s : DS) : Nat → DS
  | 0 => fun _ _ => .bad
  | N + 1 => fun ρ => thn (c ρ) ρ fun k m => match k with
    | false => .ok .nx ρ m
    | true => match s ρ m with
      | .ok .nx ρ' m' => sWhile c s N ρ' m'
      | .ok .ct ρ' m' => sWhile c s N ρ' m'
      | .ok .bk ρ' m' => .ok .nx ρ' m'
      | r => r
def forL (src : Src) (g : GD) (s : DS) : Nat → Nat → DS
  | 0, i => fun ρ m => match src.at i m with
    | none => .bad
    | some none => .ok .nx ρ m
    | some (some _) => .bad
  | f + 1, i => fun ρ m => match src.at i m with
    | none => .bad
    | some none => .ok .nx ρ m
    | some (some p) => thn (g p ρ) ρ (fun ρ1 m1 => match s ρ1 m1 with
      | .ok .nx ρ' m' => forL src g s f (i + 1) ρ' m'
      | .ok .ct ρ' m' => forL src g s f (i + 1) ρ' m'
      | .ok .bk ρ' m' => .ok .nx ρ' m'
      | r => r) m
def sFor (src : SD) (g : GD) (s : DS) : DS := fun ρ => thn (src ρ) ρ fun sr m => forL sr g s (sr.len m) 0 ρ m

/-! ### defs -/
/-- what a body makes of its arguments: N slots -/
def fnOf (n N : Nat) (s : DS) (args : List P) : M P := fun m => match decide (args.length = n) with
  | true => match s (args.map some ++ List.replicate (N - n) none) m with
    | .ok .nx _ m' => .ok .non m'
    | .ok (.rt p) _ m' => .ok p m'
    | .ok .bk _ _ => .bad
    | .ok .ct _ _ => .bad
    | .exc c v _ m' => .exc c v m'
    | .bad => .bad
  | false => .bad
end G

/-! G2: what the small semantics says of the hand layer's heaps. -/
namespace G
open PySem PySem.Spec L2

/-- a tuple, a list of the written part -/
def KT (K : PySem.W.Frag) (a : Addr) (xs : List V) : Prop := ∃ (o : Obj) (its : Array Value) (n : Nat), K.lookup a = some o ∧ o.cls = .type "tuple" ∧ o.data = .seq its n ∧ its.size ≤ sizeLine ∧ Vals xs its.toList
def KL (K : PySem.W.Frag) (a : Addr) (xs : List V) : Prop := ∃ (o : Obj) (its : Array Value) (n : Nat), K.lookup a = some o ∧ o.cls = .type "list" ∧ o.dict = none ∧ o.data = .seq its n ∧ its.size ≤ sizeLine ∧ Vals xs its.toList

mutual
/-- the value v of the abstract heap H is p; L: where the things of our heap stand -/
inductive Is (K : PySem.W.Frag) (L : List Addr) (H : Hp) : V → P → Prop
  | non : Is K L H .non .non
  | bl (b : Bool) : Is K L H (.bl b) (.bl b)
  | int (i : Int) : Is K L H (.int i) (.int i)
  | str (x : Str) : Is K L H (.str x) (.str x)
  | tup {a : Addr} {vs : List V} {ps : List P} : H a = some (.tup vs) → IsAll K L H vs ps → Is K L H (.ref a) (.tup ps)
  | kt {a : Addr} {vs : List V} {ps : List P} : KT K a vs → IsAll K L H vs ps → Is K L H (.ref a) (.kt ps)
  | scr {a : Addr} {vs : List V} {ps : List P} : ((∃ ob, H a = some (.frz ob (.lst vs))) ∨ KL K a vs) → IsAll K L H vs ps → Is K L H (.ref a) (.scr ps)
  | ref {a : Addr} {n : Nat} : L[n]? = some a → Is K L H (.ref a) (.ref n)
inductive IsAll (K : PySem.W.Frag) (L : List Addr) (H : Hp) : List V → List P → Prop
  | nil : IsAll K L H [] []
  | cons {v : V} {vs : List V} {p : P} {ps : List P} : Is K L H v p → IsAll K L H vs ps → IsAll K L H (v :: vs) (p :: ps)
end
def KvIs {κ : Type} (K : PySem.W.Frag) (L : List Addr) (H : Hp) : List (κ × V) → List (κ × P) → Prop := Paired fun p q => p.1 = q.1 ∧ Is K L H p.2 q.2
def ObjIs (K : PySem.W.Frag) (L : List Addr) (H : Hp) (a : Addr) : O → Prop
  | .lst ps => ∃ vs, H a = some (.lst vs) ∧ IsAll K L H vs ps
  | .dK kvs => ∃ ws, H a = some (.dK ws) ∧ KvIs K L H ws kvs
  | .dT kvs => ∃ ws, H a = some (.dT ws) ∧ KvIs K L H ws kvs
  | .lk kvs => ∃ ob ws, H a = some (.frz ob (.dK ws)) ∧ KvIs K L H ws kvs
/-- our heap m stands at L in H -/
structure Rep (K : PySem.W.Frag) (L : List Addr) (H : Hp) (m : Hm) : Prop where
  nd : L.Nodup
  len : L.length = m.length
  obj : ∀ (i : Nat) (a : Addr) (o : O), L[i]? = some a → m[i]? = some o → ObjIs K L H a o
/-- from one state to a later one: new things, the old ones that are not ours as they were -/
structure Ext (L : List Addr) (H : Hp) (L' : List Addr) (H' : Hp) : Prop where
  pre : ∃ N, L' = L ++ N ∧ ∀ a ∈ N, H a = none
  keep : ∀ a o, H a = some o → a ∉ L → H' a = some o
  grow : ∀ a, H a ≠ none → H' a ≠ none
theorem Ext.refl (L : List Addr) (H : Hp) : Ext L H L H := ⟨⟨[], by simp⟩, fun _ _ h _ => h, fun _ h => h⟩
theorem Ext.trans {L L1 L2 : List Addr} {H H1 H2 : Hp} (a : Ext L H L1 H1) (b : Ext L1 H1 L2 H2) : Ext L H L2 H2 := by
  obtain ⟨N, e, f⟩ := a.pre
  obtain ⟨N', e', f'⟩ := b.pre
  have fr : ∀ c ∈ N', H c = none := fun c hc => by
    cases q : H c with
    | none => rfl
    | some o => exact absurd (f' c hc) (a.grow c (by rw [q]; simp))
  refine ⟨⟨N ++ N', by rw [e', e, List.append_assoc], fun c hc => ?_⟩, fun c o h n => ?_, fun c h => b.grow c (a.grow c h)⟩
  · rcases List.mem_append.mp hc with hc | hc
    · exact f c hc
    · exact fr c hc
  · refine b.keep c o (a.keep c o h n) fun hc => ?_
    rw [e] at hc
    rcases List.mem_append.mp hc with hc | hc
    · exact n hc
    · rw [f c hc] at h; cases h
theorem Ext.get {L L' : List Addr} {H H' : Hp} (e : Ext L H L' H') {n : Nat} {a : Addr} (h : L[n]? = some a) : L'[n]? = some a := by
  obtain ⟨N, e, _⟩ := e.pre
  rw [e, List.getElem?_append_left (List.getElem?_eq_some_iff.mp h).1]
  exact h
theorem Rep.at {K : PySem.W.Frag} {L : List Addr} {H : Hp} {m : Hm} (r : Rep K L H m) {a : Addr} (h : a ∈ L) : ∃ (i : Nat) (o : O), L[i]? = some a ∧ m[i]? = some o ∧ ObjIs K L H a o := by
  obtain ⟨i, hi, e⟩ := List.getElem_of_mem h
  have h1 : L[i]? = some a := by rw [List.getElem?_eq_getElem hi, e]
  have h2 : i < m.length := by rw [← r.len]; exact hi
  exact ⟨i, m[i], h1, by rw [List.getElem?_eq_getElem h2], r.obj i a _ h1 (by rw [List.getElem?_eq_getElem h2])⟩
/-- what stands where ours stands -/
def Ours : HO → Prop
  | .lst _ => True
  | .dK _ => True
  | .dT _ => True
  | .frz _ (.dK _) => True
  | _ => False
theorem Rep.ours {K : PySem.W.Frag} {L : List Addr} {H : Hp} {m : Hm} (r : Rep K L H m) {a : Addr} (h : a ∈ L) : ∃ u, H a = some u ∧ Ours u := by
  obtain ⟨i, o, _, _, q⟩ := r.at h
  cases o with
  | lst ps => obtain ⟨vs, e, _⟩ := q; exact ⟨_, e, trivial⟩
  | dK ps => obtain ⟨vs, e, _⟩ := q; exact ⟨_, e, trivial⟩
  | dT ps => obtain ⟨vs, e, _⟩ := q; exact ⟨_, e, trivial⟩
  | lk ps => obtain ⟨ob, vs, e, _⟩ := q; exact ⟨_, e, trivial⟩
theorem Rep.notIn {K : PySem.W.Frag} {L : List Addr} {H : Hp} {m : Hm} (r : Rep K L H m) {a : Addr} {u : HO} (h : H a = some u) (n : ¬ Ours u) : a ∉ L := fun hm => by
  obtain ⟨w, e, o⟩ := r.ours hm
  rw [h] at e; cases e; exact n o
theorem Rep.new {K : PySem.W.Frag} {L : List Addr} {H : Hp} {m : Hm} (r : Rep K L H m) {a : Addr} (h : H a = none) : a ∉ L := fun hm => by
  obtain ⟨w, e, o⟩ := r.ours hm
  rw [h] at e; cases e

section
variable {K : PySem.W.Frag} {L L' : List Addr} {H H' : Hp} {m : Hm}
/-- what does not change stays -/
structure Stay (L : List Addr) (H : Hp) (L' : List Addr) (H' : Hp) : Prop where
  fix : ∀ a u, H a = some u → ¬ Ours u → H' a = some u
  ix : ∀ (n : Nat) (a : Addr), L[n]? = some a → L'[n]? = some a
theorem Ext.stay (e : Ext L H L' H') (r : Rep K L H m) : Stay L H L' H' := ⟨fun a u h n => e.keep a u h (r.notIn h n), fun _ _ h => e.get h⟩
theorem Stay.sqT (e : Stay L H L' H') {a : Addr} {vs : List V} (h : SqT K H a vs) : SqT K H' a vs := by
  rcases h with (h | ⟨o, h⟩) | h
  · exact .inl (.inl (e.fix _ _ h id))
  · exact .inl (.inr ⟨o, e.fix _ _ h id⟩)
  · exact .inr h
mutual
theorem Is.stay (e : Stay L H L' H') : ∀ (p : P) (v : V), Is K L H v p → Is K L' H' v p
  | .non, _, h => by cases h; exact .non
  | .bl _, _, h => by cases h; exact .bl _
  | .int _, _, h => by cases h; exact .int _
  | .str _, _, h => by cases h; exact .str _
  | .tup ps, _, h => by
    cases h with
    | tup h1 h2 => exact .tup (e.fix _ _ h1 id) (IsAll.stay e ps _ h2)
  | .kt ps, _, h => by
    cases h with
    | kt h1 h2 => exact .kt h1 (IsAll.stay e ps _ h2)
  | .scr ps, _, h => by
    cases h with
    | scr h1 h2 =>
      refine .scr ?_ (IsAll.stay e ps _ h2)
      rcases h1 with ⟨ob, h1⟩ | h1
      · exact .inl ⟨ob, e.fix _ _ h1 id⟩
      · exact .inr h1
  | .ref n, _, h => by
    cases h with
    | ref h => exact .ref (e.ix _ _ h)
theorem IsAll.stay (e : Stay L H L' H') : ∀ (ps : List P) (vs : List V), IsAll K L H vs ps → IsAll K L' H' vs ps
  | [], _, h => by cases h; exact .nil
  | p :: ps, _, h => by
    cases h with
    | cons h1 h2 => exact .cons (Is.stay e p _ h1) (IsAll.stay e ps _ h2)
end
theorem sqT_mono (r : Rep K L H m) (e : Ext L H L' H') {a : Addr} {vs : List V} (h : SqT K H a vs) : SqT K H' a vs := (e.stay r).sqT h
theorem Is.mono (r : Rep K L H m) (e : Ext L H L' H') (p : P) (v : V) (h : Is K L H v p) : Is K L' H' v p := h.stay (e.stay r)
theorem IsAll.mono (r : Rep K L H m) (e : Ext L H L' H') (p : List P) (v : List V) (h : IsAll K L H v p) : IsAll K L' H' v p := h.stay (e.stay r)
theorem KvIs.stay {κ : Type} (e : Stay L H L' H') : ∀ {ws : List (κ × V)} {kvs : List (κ × P)}, KvIs K L H ws kvs → KvIs K L' H' ws kvs
  | _, _, .nil => .nil
  | _, _, .cons ⟨h1, h2⟩ t => .cons ⟨h1, h2.stay e⟩ (KvIs.stay e t)
theorem ObjIs.stay (e : Stay L H L' H') {a : Addr} (he : H' a = H a) : ∀ {o : O}, ObjIs K L H a o → ObjIs K L' H' a o
  | .lst _, ⟨vs, h1, h2⟩ => ⟨vs, he.trans h1, h2.stay e⟩
  | .dK _, ⟨vs, h1, h2⟩ => ⟨vs, he.trans h1, KvIs.stay e h2⟩
  | .dT _, ⟨vs, h1, h2⟩ => ⟨vs, he.trans h1, KvIs.stay e h2⟩
  | .lk _, ⟨ob, vs, h1, h2⟩ => ⟨ob, vs, he.trans h1, KvIs.stay e h2⟩
theorem KvIs.mono {κ : Type} (r : Rep K L H m) (e : Ext L H L' H') : ∀ {ws : List (κ × V)} {kvs : List (κ × P)}, KvIs K L H ws kvs → KvIs K L' H' ws kvs
  | _, _, .nil => .nil
  | _, _, .cons ⟨h1, h2⟩ t => .cons ⟨h1, Is.mono r e _ _ h2⟩ (KvIs.mono r e t)

theorem IsAll.length : ∀ {vs : List V} {ps : List P}, IsAll K L H vs ps → vs.length = ps.length
  | _, _, .nil => rfl
  | _, _, .cons _ t => by rw [List.length_cons, List.length_cons, IsAll.length t]
theorem IsAll.get : ∀ {vs : List V} {ps : List P} {i : Nat} {p : P}, IsAll K L H vs ps → ps[i]? = some p → ∃ v, vs[i]? = some v ∧ Is K L H v p
  | _, _, _, _, .nil, e => by simp at e
  | _, _, 0, _, .cons r _, e => by simp at e; subst e; exact ⟨_, rfl, r⟩
  | _, _, i + 1, p, .cons _ t, e => by
    obtain ⟨v, h1, h2⟩ := IsAll.get (i := i) (p := p) t (by simpa using e)
    exact ⟨v, by simpa using h1, h2⟩
theorem IsAll.getV : ∀ {vs : List V} {ps : List P} {i : Nat} {v : V}, IsAll K L H vs ps → vs[i]? = some v → ∃ p, ps[i]? = some p ∧ Is K L H v p
  | _, _, _, _, .nil, e => by simp at e
  | _, _, 0, _, .cons r _, e => by simp at e; subst e; exact ⟨_, rfl, r⟩
  | _, _, i + 1, p, .cons _ t, e => by
    obtain ⟨v, h1, h2⟩ := IsAll.getV (i := i) t (by simpa using e)
    exact ⟨v, by simpa using h1, h2⟩
theorem IsAll.append : ∀ {vs ws : List V} {ps qs : List P}, IsAll K L H vs ps → IsAll K L H ws qs → IsAll K L H (vs ++ ws) (ps ++ qs)
  | _, _, _, _, .nil, s => s
  | _, _, _, _, .cons r t, s => .cons r (IsAll.append t s)
theorem IsAll.take : ∀ {vs : List V} {ps : List P} (n : Nat), IsAll K L H vs ps → IsAll K L H (vs.take n) (ps.take n)
  | _, _, 0, _ => .nil
  | _, _, _ + 1, .nil => .nil
  | _, _, n + 1, .cons r t => .cons r (IsAll.take n t)
theorem IsAll.drop : ∀ {vs : List V} {ps : List P} (n : Nat), IsAll K L H vs ps → IsAll K L H (vs.drop n) (ps.drop n)
  | _, _, 0, r => r
  | _, _, _ + 1, .nil => .nil
  | _, _, n + 1, .cons r t => IsAll.drop n t
theorem IsAll.reverse : ∀ {vs : List V} {ps : List P}, IsAll K L H vs ps → IsAll K L H vs.reverse ps.reverse
  | _, _, .nil => .nil
  | _, _, .cons r t => by
    rw [List.reverse_cons, List.reverse_cons]
    exact (IsAll.reverse t).append (.cons r .nil)
theorem IsAll.dropLast : ∀ {vs : List V} {ps : List P}, IsAll K L H vs ps → IsAll K L H vs.dropLast ps.dropLast
  | _, _, .nil => .nil
  | _, _, .cons r .nil => .nil
  | _, _, .cons r (.cons q t) => .cons r (IsAll.dropLast (.cons q t))
theorem IsAll.eraseIdx : ∀ {vs : List V} {ps : List P} (n : Nat), IsAll K L H vs ps → IsAll K L H (vs.eraseIdx n) (ps.eraseIdx n)
  | _, _, _, .nil => .nil
  | _, _, 0, .cons r t => t
  | _, _, n + 1, .cons r t => .cons r (IsAll.eraseIdx n t)
theorem IsAll.set : ∀ {vs : List V} {ps : List P} {v : V} {p : P} (n : Nat), Is K L H v p → IsAll K L H vs ps → IsAll K L H (vs.set n v) (ps.set n p)
  | _, _, _, _, _, _, .nil => .nil
  | _, _, _, _, 0, q, .cons r t => .cons q t
  | _, _, _, _, n + 1, q, .cons r t => .cons r (IsAll.set n q t)
theorem IsAll.replicate {vs : List V} {ps : List P} (h : IsAll K L H vs ps) : ∀ n : Nat, IsAll K L H (List.replicate n vs).flatten (List.replicate n ps).flatten
  | 0 => .nil
  | n + 1 => by
    rw [List.replicate_succ, List.replicate_succ, List.flatten_cons, List.flatten_cons]
    exact h.append (IsAll.replicate h n)
end

/-- an exception as the layer tells it (class, field) -/
def ExIs (K : PySem.W.Frag) (L : List Addr) (H : Hp) (c : String) (x : P) (cls : Value) (d : Option Addr) : Prop := False
abbrev WX := Option (Value → Option Addr → St → Hp → Prop)

section
variable {α β : Type} (K : PySem.W.Frag) (W : WX) (σ : St)
/-- from L, H a result leads to F -/
def Go (L : List Addr) (H : Hp) (r : R α) (F : α → Hm → List Addr → Hp → Prop) : Prop := match r with
  | .ok a m => ∀ L' H', Ext L H L' H' → Rep K L' H' m → F a m L' H'
  | .exc c x m => match W with
    | none => False
    | some w => ∀ L' H' cls d, Ext L H L' H' → Rep K L' H' m → ExIs K L' H' c x cls d → w cls d σ H'
  | .bad => False
end
section
variable {α β : Type} {K : PySem.W.Frag} {W : WX} {σ : St} {L L' : List Addr} {H H' : Hp} {m : Hm}
theorem Go.mono {r : R α} {F : α → Hm → List Addr → Hp → Prop} (g : Go K W σ L H r F) (e : Ext L H L' H') : Go K W σ L' H' r F := by
  cases r with
  | ok a m => exact fun L2 H2 e2 r2 => g L2 H2 (e.trans e2) r2
  | exc c x m =>
    cases W with
    | none => exact g
    | some w => exact fun L2 H2 cls d e2 r2 => g L2 H2 cls d (e.trans e2) r2
  | bad => exact g
theorem Go.imp {r : R α} {F F' : α → Hm → List Addr → Hp → Prop} (g : Go K W σ L H r F) (h : ∀ a m' L' H', r = .ok a m' → Ext L H L' H' → Rep K L' H' m' → F a m' L' H' → F' a m' L' H') : Go K W σ L H r F' := by
  cases r with
  | ok a m => exact fun L2 H2 e2 r2 => h _ _ _ _ rfl e2 r2 (g L2 H2 e2 r2)
  | exc c x m => exact g
  | bad => exact g
theorem Go.bnd {x : M α} {f : α → M β} {F : β → Hm → List Addr → Hp → Prop} (g : Go K W σ L H (bnd x f m) F) : Go K W σ L H (x m) fun a m1 L1 H1 => Go K W σ L1 H1 (f a m1) F := by
  unfold G.bnd at g
  cases e : x m with
  | ok a m1 =>
    rw [e] at g
    exact fun L1 H1 e1 r1 => Go.mono g e1
  | exc c v m1 => rw [e] at g; exact g
  | bad => rw [e] at g; exact g
theorem Go.ret {a : α} {F : α → Hm → List Addr → Hp → Prop} (g : Go K W σ L H (ret a m) F) (r : Rep K L H m) : F a m L H := g L H (Ext.refl L H) r
theorem Go.when_ {b : Bool} {x : M α} {F : α → Hm → List Addr → Hp → Prop} (g : Go K W σ L H (when_ b x m) F) : b = true ∧ Go K W σ L H (x m) F := by
  unfold G.when_ at g
  cases b with
  | true => exact ⟨rfl, g⟩
  | false => exact False.elim g
theorem Go.opt {o : Option α} {F : α → Hm → List Addr → Hp → Prop} (g : Go K W σ L H (opt o m) F) (r : Rep K L H m) : ∃ a, o = some a ∧ F a m L H := by
  cases o with
  | some a => exact ⟨a, rfl, g L H (Ext.refl L H) r⟩
  | none => exact False.elim g
theorem Go.getO {n : Nat} {f : O → M α} {F : α → Hm → List Addr → Hp → Prop} (g : Go K W σ L H (getO n f m) F) : ∃ o, m[n]? = some o ∧ Go K W σ L H (f o m) F := by
  unfold G.getO at g
  cases e : m[n]? with
  | some o => rw [e] at g; exact ⟨o, rfl, g⟩
  | none => rw [e] at g; exact False.elim g
end

/-- the slots are ρ -/
structure EnvIs (K : PySem.W.Frag) (L : List Addr) (H : Hp) (σ : St) (ρ : Env) : Prop where
  len : σ.length = ρ.length
  at_ : ∀ (i : Nat) (p : P), ρ[i]? = some (some p) → ∃ v, σ[i]? = some (some v) ∧ Is K L H v p
theorem EnvIs.mono {K : PySem.W.Frag} {L L' : List Addr} {H H' : Hp} {m : Hm} {σ : St} {ρ : Env} (h : EnvIs K L H σ ρ) (r : Rep K L H m) (e : Ext L H L' H') : EnvIs K L' H' σ ρ :=
  ⟨h.len, fun i p q => let ⟨v, h1, h2⟩ := h.at_ i p q; ⟨v, h1, Is.mono r e _ _ h2⟩⟩
theorem EnvIs.set {K : PySem.W.Frag} {L : List Addr} {H : Hp} {σ : St} {ρ : Env} {v : V} {p : P} (h : EnvIs K L H σ ρ) (i : Nat) (q : Is K L H v p) : EnvIs K L H (σ.set i (some v)) (ρ.set i (some p)) := by
  refine ⟨by rw [List.length_set, List.length_set]; exact h.len, fun j r e => ?_⟩
  by_cases hij : i = j
  · subst hij
    by_cases hl : i < ρ.length
    · rw [List.getElem?_set_self hl] at e
      cases e
      exact ⟨v, List.getElem?_set_self (by rw [h.len]; exact hl), q⟩
    · rw [List.getElem?_eq_none (by simpa using hl)] at e; cases e
  · rw [List.getElem?_set_ne hij] at e
    obtain ⟨w, h1, h2⟩ := h.at_ j r e
    exact ⟨w, by rw [List.getElem?_set_ne hij]; exact h1, h2⟩

/-! ### readings -/
def lift (K : PySem.W.Frag) (W : WX) (d : D) : TE := fun σ H Q => ∃ L m ρ, Rep K L H m ∧ EnvIs K L H σ ρ ∧ Go K W σ L H (d ρ m) fun p _ L' H' => ∀ v, Is K L' H' v p → Q v H'
def liftT (K : PySem.W.Frag) (W : WX) (d : T) : TT := fun σ H Q => ∃ L m ρ, Rep K L H m ∧ EnvIs K L H σ ρ ∧ Go K W σ L H (d ρ m) fun b _ L' H' => Q b H'
def liftA (K : PySem.W.Frag) (W : WX) (d : A) : TA := fun σ H Q => ∃ L m ρ, Rep K L H m ∧ EnvIs K L H σ ρ ∧ Go K W σ L H (d ρ m) fun ps _ L' H' => ∀ vs, IsAll K L' H' vs ps → Q vs H'
/-- a list that is not ours (yet) -/
def liftL (K : PySem.W.Frag) (W : WX) (d : LD) : TE := fun σ H Q => ∃ L m ρ, Rep K L H m ∧ EnvIs K L H σ ρ ∧ Go K W σ L H (d ρ m) fun ps _ L' H' => ∀ a vs, H a = none → H' a = some (.lst vs) → a ∉ L' → IsAll K L' H' vs ps → Q (.ref a) H'
def liftS (K : PySem.W.Frag) (W : WX) (d : DS) : TS := fun D σ H => ∃ L m ρ, Rep K L H m ∧ EnvIs K L H σ ρ ∧ match d ρ m with
  | .ok f ρ' m' => ∀ σ' L' H', Ext L H L' H' → Rep K L' H' m' → EnvIs K L' H' σ' ρ' → match f with
    | .nx => D.nx σ' H'
    | .bk => D.bk σ' H'
    | .ct => D.ct σ' H'
    | .rt p => ∀ v, Is K L' H' v p → D.rt v H'
  | .exc c x ρ' m' => match W with
    | none => False
    | some w => ∀ σ' L' H' cls e, Ext L H L' H' → Rep K L' H' m' → EnvIs K L' H' σ' ρ' → ExIs K L' H' c x cls e → w cls e σ' H'
  | .bad => False
def PDE (X : Cx) (W : WX) (e : Expr) (d : D) : Prop := PE X e (lift X.K W d)
def PDT (X : Cx) (W : WX) (e : Expr) (d : T) : Prop := PT X e (liftT X.K W d)
def PDA (X : Cx) (W : WX) (e : List Expr) (d : A) : Prop := PA X e (liftA X.K W d)
def PDL (X : Cx) (W : WX) (e : Expr) (d : LD) : Prop := PE X e (liftL X.K W d)
def PDS (X : Cx) (W : WX) (s : Stmt) (d : DS) : Prop := PS X s (liftS X.K W d)
def PDSs (X : Cx) (W : WX) (s : List Stmt) (d : DS) : Prop := PSs X s (liftS X.K W d)
theorem pe_weak {X : Cx} {e : Expr} {t t' : TE} (h : PE X e t) (w : ∀ σ H Q, t' σ H Q → t σ H Q) : PE X e t' := ⟨fun pins s σ H Q I q => h.run pins s σ H Q I (w σ H Q q)⟩
theorem pt_weak {X : Cx} {e : Expr} {t t' : TT} (h : PT X e t) (w : ∀ σ H Q, t' σ H Q → t σ H Q) : PT X e t' := ⟨fun pins s σ H Q I q => h.run pins s σ H Q I (w σ H Q q)⟩
theorem pa_weak {X : Cx} {e : List Expr} {t t' : TA} (h : PA X e t) (w : ∀ σ H Q, t' σ H Q → t σ H Q) : PA X e t' := ⟨fun pos pins s σ H Q I q => h.run pos pins s σ H Q I (w σ H Q q)⟩
theorem ps_weak {X : Cx} {e : Stmt} {t t' : TS} (h : PS X e t) (w : ∀ D σ H, t' D σ H → t D σ H) : PS X e t' := ⟨fun pins s σ H D I q => h.run pins s σ H D I (w D σ H q)⟩
theorem pss_weak {X : Cx} {e : List Stmt} {t t' : TS} (h : PSs X e t) (w : ∀ D σ H, t' D σ H → t D σ H) : PSs X e t' := ⟨fun pins s σ H D I q => h.run pins s σ H D I (w D σ H q)⟩

section
variable {α β : Type} {K : PySem.W.Frag} {W : WX} {σ : St} {L L' : List Addr} {H H' : Hp} {m : Hm} {ρ : Env}
/-- the first part of a row of parts -/
theorem lift_bnd {d : D} {f : P → M β} {F : β → Hm → List Addr → Hp → Prop} (r : Rep K L H m) (e : EnvIs K L H σ ρ) (g : Go K W σ L H (bnd (d ρ) f m) F) {Q : VK}
    (h : ∀ x p m1 L1 H1, Ext L H L1 H1 → Rep K L1 H1 m1 → EnvIs K L1 H1 σ ρ → Is K L1 H1 x p → Go K W σ L1 H1 (f p m1) F → Q x H1) : lift K W d σ H Q :=
  ⟨L, m, ρ, r, e, g.bnd.imp fun a m' L' H' _ x r' g' v hv => h v a m' L' H' x r' (e.mono r x) hv g'⟩
theorem liftT_bnd {d : T} {f : Bool → M β} {F : β → Hm → List Addr → Hp → Prop} (r : Rep K L H m) (e : EnvIs K L H σ ρ) (g : Go K W σ L H (bnd (d ρ) f m) F) {Q : Bool → Hp → Prop}
    (h : ∀ b m1 L1 H1, Ext L H L1 H1 → Rep K L1 H1 m1 → EnvIs K L1 H1 σ ρ → Go K W σ L1 H1 (f b m1) F → Q b H1) : liftT K W d σ H Q :=
  ⟨L, m, ρ, r, e, g.bnd.imp fun a m' L' H' _ x r' g' => h a m' L' H' x r' (e.mono r x) g'⟩
theorem liftA_bnd {d : A} {f : List P → M β} {F : β → Hm → List Addr → Hp → Prop} (r : Rep K L H m) (e : EnvIs K L H σ ρ) (g : Go K W σ L H (bnd (d ρ) f m) F) {Q : List V → Hp → Prop}
    (h : ∀ xs ps m1 L1 H1, Ext L H L1 H1 → Rep K L1 H1 m1 → EnvIs K L1 H1 σ ρ → IsAll K L1 H1 xs ps → Go K W σ L1 H1 (f ps m1) F → Q xs H1) : liftA K W d σ H Q :=
  ⟨L, m, ρ, r, e, g.bnd.imp fun a m' L' H' _ x r' g' v hv => h v a m' L' H' x r' (e.mono r x) hv g'⟩
theorem liftL_bnd {d : LD} {f : List P → M β} {F : β → Hm → List Addr → Hp → Prop} (r : Rep K L H m) (e : EnvIs K L H σ ρ) (g : Go K W σ L H (bnd (d ρ) f m) F) {Q : VK}
    (h : ∀ a vs ps m1 L1 H1, Ext L H L1 H1 → Rep K L1 H1 m1 → EnvIs K L1 H1 σ ρ → H a = none → H1 a = some (.lst vs) → a ∉ L1 → IsAll K L1 H1 vs ps → Go K W σ L H (f ps m1) F → Q (.ref a) H1) : liftL K W d σ H Q := by
  refine ⟨L, m, ρ, r, e, ?_⟩
  unfold G.bnd at g
  cases q : d ρ m with
  | ok ps m1 =>
    rw [q] at g
    exact fun L1 H1 x r1 a vs h0 h1 h2 h3 => h a vs ps m1 L1 H1 x r1 (e.mono r x) h0 h1 h2 h3 g
  | exc c x m1 => rw [q] at g; exact g
  | bad => rw [q] at g; exact g

/-- a new thing that is not ours -/
theorem ext_new {a : Addr} {o : HO} (h : H a = none) : Ext L H L (upd H a o) :=
  ⟨⟨[], by simp⟩, fun b u e _ => by rw [upd_ne (ne_of_none e h)]; exact e, fun b e => by
    by_cases hb : b = a
    · subst hb; rw [upd_same]; simp
    · rw [upd_ne hb]; exact e⟩
theorem stay_new {a : Addr} {o : HO} (h : H a = none) : Stay L H L (upd H a o) := ⟨fun b u e _ => by rw [upd_ne (ne_of_none e h)]; exact e, fun _ _ h => h⟩
theorem Rep.mono_new (r : Rep K L H m) {a : Addr} {o : HO} (h : H a = none) : Rep K L (upd H a o) m :=
  ⟨r.nd, r.len, fun i b u h1 h2 => (r.obj i b u h1 h2).stay (stay_new h) (upd_ne fun z => r.new h (z ▸ List.mem_of_getElem? h1))⟩
theorem stay_link (L : List Addr) (H : Hp) (a : Addr) : Stay L H (L ++ [a]) H := ⟨fun _ _ h _ => h, fun n b h => by rw [List.getElem?_append_left (List.getElem?_eq_some_iff.mp h).1]; exact h⟩
/-- a thing that stands becomes ours -/
theorem Rep.link (r : Rep K L H m) {a : Addr} {o : O} (n : a ∉ L) (h : ObjIs K L H a o) : Rep K (L ++ [a]) H (m ++ [o]) := by
  refine ⟨List.nodup_append.mpr ⟨r.nd, by simp, fun x hx y hy e => n (by rw [List.mem_singleton.mp hy] at e; exact e ▸ hx)⟩, by simp [r.len], fun i b u h1 h2 => ?_⟩
  by_cases hi : i < L.length
  · rw [List.getElem?_append_left hi] at h1
    rw [List.getElem?_append_left (by rw [← r.len]; exact hi)] at h2
    exact (r.obj i b u h1 h2).stay (stay_link L H a) rfl
  · rw [List.getElem?_append_right (by omega)] at h1
    rw [List.getElem?_append_right (by rw [← r.len]; omega)] at h2
    have e1 : i - L.length = 0 := by
      have := (List.getElem?_eq_some_iff.mp h1).1
      simp at this; omega
    rw [e1] at h1; rw [← r.len, e1] at h2
    simp at h1 h2; subst h1 h2
    exact h.stay (stay_link L H _) rfl
/-- .. seen from a state in which it was not there -/
theorem Ext.link {L0 : List Addr} {H0 : Hp} (e : Ext L0 H0 L H) {a : Addr} (h : H0 a = none) : Ext L0 H0 (L ++ [a]) H := by
  obtain ⟨N, e1, f⟩ := e.pre
  refine ⟨⟨N ++ [a], by rw [e1, List.append_assoc], fun c hc => ?_⟩, e.keep, e.grow⟩
  rcases List.mem_append.mp hc with hc | hc
  · exact f c hc
  · rw [List.mem_singleton.mp hc]; exact h
/-- one of ours is written -/
theorem ext_put {n : Nat} {a : Addr} {o : HO} (h : L[n]? = some a) : Ext L H L (upd H a o) :=
  ⟨⟨[], by simp⟩, fun b u e hb => by
    have hne : b ≠ a := fun z => hb (by rw [z]; exact List.mem_of_getElem? h)
    rw [upd_ne hne]; exact e, fun b e => by
    by_cases hb : b = a
    · subst hb; rw [upd_same]; simp
    · rw [upd_ne hb]; exact e⟩
theorem Rep.put (r : Rep K L H m) {n : Nat} {a : Addr} {u : HO} {o : O} (h : L[n]? = some a) (hu : Ours u) (ho : ObjIs K L (upd H a u) a o) : Rep K L (upd H a u) (m.set n o) := by
  refine ⟨r.nd, by simp [r.len], fun i b w h1 h2 => ?_⟩
  have st : Stay L H L (upd H a u) := (ext_put h).stay r
  by_cases hi : n = i
  · subst hi
    rw [h] at h1; cases h1
    have hl : n < m.length := by rw [← r.len]; exact (List.getElem?_eq_some_iff.mp h).1
    rw [List.getElem?_set_self hl] at h2; cases h2
    exact ho
  · rw [List.getElem?_set_ne hi] at h2
    refine (r.obj i b w h1 h2).stay st (upd_ne fun z => hi ?_)
    subst z
    have l1 := (List.getElem?_eq_some_iff.mp h).1
    have l2 := (List.getElem?_eq_some_iff.mp h1).1
    exact (List.getElem_inj r.nd).mp (((List.getElem?_eq_some_iff.mp h).2).trans ((List.getElem?_eq_some_iff.mp h1).2).symm)
theorem Rep.lst (r : Rep K L H m) {n : Nat} {a : Addr} {ps : List P} (h : L[n]? = some a) (hm : m[n]? = some (.lst ps)) : ∃ vs, H a = some (.lst vs) ∧ IsAll K L H vs ps := r.obj n a _ h hm
end
end G

/-! G3: expressions: for each combinator, that the model does what it says. -/
namespace G
open PySem PySem.Spec L2

structure Cok (X : Cx) : Prop where
  calm : X.calm = true
  nd : X.N.Nodup
  hu : X.A.units + 150 < cLine
  hg : X.A.guards = some []

section
variable {X : Cx} {W : WX} {a b c e i o : Expr} {es : List Expr} {pos p1 p2 : Pos}
theorem pd_var {i : Nat} {x : Str} (hN : X.N[i]? = some x := by rfl) (hv : Vis X.env.scope x := by first | exact Or.inl rfl | exact Or.inr (Or.inl rfl) | exact Or.inr (Or.inr rfl)) (hd : (x == ("__debug__" : Str)) = false := by decide)
    (hcd : (x == ("__classdict__" : Str)) = false := by decide) : PDE X W (.Name x pos) (dVar i) := pe_weak (pe_var hN hv hd hcd) fun σ H Q ⟨L, m, ρ, r, e, g⟩ => by
  unfold dVar at g
  split at g
  · rename_i p h
    obtain ⟨v, h1, h2⟩ := e.at_ i p h
    exact ⟨v, h1, g L H (Ext.refl L H) r v h2⟩
  · exact False.elim g
theorem pd_c {v : V} {p : P} (h : PE X e (tC v)) (hp : ∀ L H, Is X.K L H v p) : PDE X W e (dC p) := pe_weak h fun σ H Q ⟨L, m, ρ, r, e, g⟩ => g L H (Ext.refl L H) r v (hp L H)
theorem pd_int {i : Int} {j} : PDE X W (.Constant (.int i) j pos) (dC (.int i)) := pd_c pe_int fun _ _ => .int i
theorem pd_bl {b : Bool} {j} : PDE X W (.Constant (.bool b) j pos) (dC (.bl b)) := pd_c pe_bl fun _ _ => .bl b
theorem pd_non {j} : PDE X W (.Constant .none j pos) (dC .non) := pd_c pe_non fun _ _ => .non
theorem pd_str {x : Str} {j} : PDE X W (.Constant (.str x) j pos) (dC (.str x)) := pd_c pe_str fun _ _ => .str x

/-! ### operators -/
def rOf (K : PySem.W.Frag) (W : WX) (f : P → P → M P) : R2 := fun x y H Q => ∃ (L : List Addr) (m : Hm) (σ : L2.St) (p q : P), Rep K L H m ∧ Is K L H x p ∧ Is K L H y q ∧ Go K W σ L H (f p q m) fun z _ L' H' => ∀ v, Is K L' H' v z → Q v H'
def rOf1 (K : PySem.W.Frag) (W : WX) (f : P → M P) : V → Hp → VK → Prop := fun x H Q => ∃ (L : List Addr) (m : Hm) (σ : L2.St) (p : P), Rep K L H m ∧ Is K L H x p ∧ Go K W σ L H (f p m) fun z _ L' H' => ∀ v, Is K L' H' v z → Q v H'
def OpS (X : Cx) (W : WX) (g : Value → Value → Sem Value) (f : P → P → M P) : Prop := OpR X g (rOf X.K W f)
theorem lift2 {K : PySem.W.Frag} {f : P → P → M P} {da db : D} {σ : L2.St} {H : Hp} {Q : VK} (h : lift K W (dOp f da db) σ H Q) : tOp (rOf K W f) (lift K W da) (lift K W db) σ H Q := by
  obtain ⟨L, m, ρ, r, e, g⟩ := h
  exact lift_bnd r e g fun x p m1 L1 H1 x1 r1 e1 i1 g1 => lift_bnd r1 e1 g1 fun y q m2 L2 H2 x2 r2 e2 i2 g2 => ⟨L2, m2, σ, p, q, r2, i1.mono r1 x2, i2, g2⟩
theorem lift1 {K : PySem.W.Frag} {f : P → M P} {da : D} {σ : L2.St} {H : Hp} {Q : VK} (h : lift K W (dUn f da) σ H Q) : lift K W da σ H fun x H1 => rOf1 K W f x H1 Q := by
  obtain ⟨L, m, ρ, r, e, g⟩ := h
  exact lift_bnd r e g fun x p m1 L1 H1 x1 r1 e1 i1 g1 => ⟨L1, m1, σ, p, r1, i1, g1⟩
theorem pd_op {op : Operator} {f : P → P → M P} {da db : D} (ho : OpS X W (binaryOp op) f) (ha : PDE X W a da) (hb : PDE X W b db) : PDE X W (.BinOp a op b pos) (dOp f da db) :=
  pe_weak (pe_op ho ha hb) fun _ _ _ h => lift2 h
theorem pd_cmp {op : CmpOp} {f : P → P → M P} {da db : D} (ho : OpS X W (compareOp op) f) (ha : PDE X W a da) (hb : PDE X W b db) (hm : behindInMarks op b = false := by first | exact nobehind _ (by decide) (by decide) | rfl) : PDE X W (.Compare a [op] [b] pos) (dOp f da db) :=
  pe_weak (pe_cmpR ho ha hb hm) fun _ _ _ h => lift2 h
theorem pd_un {op : UnaryOp} {f : P → M P} {da : D} (ho : UnR X (unaryOp op) (rOf1 X.K W f)) (ha : PDE X W a da) : PDE X W (.UnaryOp op a pos) (dUn f da) :=
  pe_weak (pe_un ho ha) fun _ _ _ h => lift1 h
theorem pd_isN {da : D} {j} (ha : PDE X W a da) : PDE X W (.Compare a [.Is] [.Constant .none j p1] pos) (dUn uIsN da) := by
  refine pe_weak (pe_cmp (pc_isN ha)) fun σ H Q h => ?_
  obtain ⟨L, m, ρ, r, e, g⟩ := h
  refine lift_bnd r e g fun x p m1 L1 H1 x1 r1 e1 i1 g1 => ?_
  have q := g1.ret r1
  have hx : decide (x = V.non) = isNon p := by cases i1 <;> rfl
  rw [hx]
  exact q _ (.bl _)
theorem pd_notN {da : D} {j} (ha : PDE X W a da) : PDE X W (.Compare a [.IsNot] [.Constant .none j p1] pos) (dUn uNotN da) := by
  refine pe_weak (pe_cmp (pc_notN ha)) fun σ H Q h => ?_
  obtain ⟨L, m, ρ, r, e, g⟩ := h
  refine lift_bnd r e g fun x p m1 L1 H1 x1 r1 e1 i1 g1 => ?_
  have q := g1.ret r1
  have hx : decide (x = V.non) = isNon p := by cases i1 <;> rfl
  rw [hx]
  exact q _ (.bl _)

/-! ### tests -/
theorem Is.non_iff {K : PySem.W.Frag} {L : List Addr} {H : Hp} {x : V} {p : P} (h : Is K L H x p) : decide (x = V.non) = isNon p := by cases h <;> rfl
theorem pt_isN {da : D} {j} (ha : PDE X W a da) : PDT X W (.Compare a [.Is] [.Constant .none j p1] pos) (tVal (dUn uIsN da)) := by
  refine pt_weak (pt_cmp (pc_isN ha)) fun σ H Q ⟨L, m, ρ, r, e, g⟩ => ?_
  unfold tVal dUn at g
  rw [bnd_assoc] at g
  refine lift_bnd r e g fun x p m1 L1 H1 x1 r1 e1 i1 g1 => ⟨_, rfl, ?_⟩
  rw [i1.non_iff]
  exact Go.ret (a := isNon p) g1 r1
theorem pt_notN {da : D} {j} (ha : PDE X W a da) : PDT X W (.Compare a [.IsNot] [.Constant .none j p1] pos) (tVal (dUn uNotN da)) := by
  refine pt_weak (pt_cmp (pc_notN ha)) fun σ H Q ⟨L, m, ρ, r, e, g⟩ => ?_
  unfold tVal dUn at g
  rw [bnd_assoc] at g
  refine lift_bnd r e g fun x p m1 L1 H1 x1 r1 e1 i1 g1 => ⟨_, rfl, ?_⟩
  rw [i1.non_iff]
  exact Go.ret (a := !isNon p) g1 r1
/-- what a value's use as a truth value asks -/
theorem go_asB {K : PySem.W.Frag} {L : List Addr} {H : Hp} {m : Hm} {σ : L2.St} {x : V} {p : P} {Q : Bool → Hp → Prop} (r : Rep K L H m) (h : Is K L H x p) (g : Go K W σ L H (asB p m) fun b _ L' H' => Q b H') : ∃ k, x = .bl k ∧ Q k H := by
  cases h with
  | bl b => exact ⟨b, rfl, Go.ret (a := b) g r⟩
  | _ => exact False.elim g
theorem pt_cmpG {op : CmpOp} {f : P → P → M P} {da db : D} (ho : OpS X W (compareOp op) f) (ha : PDE X W a da) (hb : PDE X W b db) (hm : behindInMarks op b = false := by first | exact nobehind _ (by decide) (by decide) | rfl) : PDT X W (.Compare a [op] [b] pos) (tVal (dOp f da db)) := by
  refine pt_weak (pt_cmpR ho ha hb hm) fun σ H Q ⟨L, m, ρ, r, e, g⟩ => ?_
  unfold tVal dOp at g
  simp only [bnd_assoc] at g
  refine lift_bnd r e g fun x p m1 L1 H1 x1 r1 e1 i1 g1 => lift_bnd r1 e1 g1 fun y q m2 L2 H2 x2 r2 e2 i2 g2 => ⟨L2, m2, σ, p, q, r2, i1.mono r1 x2, i2, ?_⟩
  exact g2.bnd.imp fun z m3 L3 H3 _ x3 r3 g3 v hv => go_asB r3 hv g3
theorem TruV_of {K : PySem.W.Frag} {L : List Addr} {H : Hp} {m : Hm} {σ : L2.St} {x : V} {p : P} {Q : Bool → Hp → Prop} (r : Rep K L H m) (h : Is K L H x p) (g : Go K W σ L H (truth p m) fun b _ L' H' => Q b H') : ∃ k, TruV K x H k ∧ Q k H := by
  cases h with
  | non => exact ⟨false, rfl, Go.ret (a := false) g r⟩
  | bl b => exact ⟨b, rfl, Go.ret (a := b) g r⟩
  | int i => exact ⟨_, rfl, Go.ret (a := i != 0) g r⟩
  | @tup a vs ps h1 h2 =>
    refine ⟨!ps.isEmpty, .inr (.inl ⟨vs, .inl (.inl h1), ?_⟩), Go.ret (a := !ps.isEmpty) g r⟩
    have := h2.length
    cases vs <;> cases ps <;> simp_all
  | _ => exact False.elim g
theorem pt_any {da : D} (ha : PDE X W a da) (he : ∀ whole, isTrue a X.env whole = (do let v ← whole; standAt a.pos; holding [v] (truthy v)) := by intro _; rfl) : PDT X W a (tTru da) := by
  refine pt_weak (t := fun σ H Q => lift X.K W da σ H fun x H1 => ∃ k, TruV X.K x H1 k ∧ Q k H1) ⟨fun pins s σ H Q I h => ?_⟩ fun σ H Q ⟨L, m, ρ, r, e, g⟩ => ?_
  · exact PyProof.Rows.isTrue_plain (L2.thn (ha.run pins s σ H _ I h) fun v s1 ⟨x, H1, I1, r1, q1⟩ => tru_ok pins s1 σ H1 x v Q I1 r1 q1) (he _)
  · exact lift_bnd r e g fun x p m1 L1 H1 x1 r1 e1 i1 g1 => TruV_of r1 i1 g1
def PDW (X : Cx) (W : WX) (e : Expr) (d : T) : Prop := PW X e (liftT X.K W d)
theorem pw_weak {e : Expr} {t t' : TT} (h : PW X e t) (w : ∀ σ H Q, t' σ H Q → t σ H Q) : PW X e t' := ⟨fun wh pins s σ H Q I q => h.run wh pins s σ H Q I (w σ H Q q)⟩
theorem PDW.pt {d : T} (h : PDW X W e d) : PDT X W e d := PW.pt h
theorem pw_and1G {d : T} (h : PDT X W a d) : PDW X W (.BoolOp .And [a] pos) d := pw_and1 h
theorem pw_or1G {d : T} (h : PDT X W a d) : PDW X W (.BoolOp .Or [a] pos) d := pw_or1 h
theorem pw_andG {d d' : T} (h : PDT X W a d) (h' : PDW X W (.BoolOp .And (b :: es) pos) d') : PDW X W (.BoolOp .And (a :: b :: es) pos) (tAnd d d') := by
  refine pw_weak (pw_and h h') fun σ H Q ⟨L, m, ρ, r, e, g⟩ => ?_
  refine liftT_bnd r e g fun k m1 L1 H1 x1 r1 e1 g1 => ?_
  cases k with
  | true => exact ⟨L1, m1, ρ, r1, e1, g1⟩
  | false => exact Go.ret (a := false) g1 r1
theorem pw_orG {d d' : T} (h : PDT X W a d) (h' : PDW X W (.BoolOp .Or (b :: es) pos) d') : PDW X W (.BoolOp .Or (a :: b :: es) pos) (tOr d d') := by
  refine pw_weak (pw_or h h') fun σ H Q ⟨L, m, ρ, r, e, g⟩ => ?_
  refine liftT_bnd r e g fun k m1 L1 H1 x1 r1 e1 g1 => ?_
  cases k with
  | true => exact Go.ret (a := true) g1 r1
  | false => exact ⟨L1, m1, ρ, r1, e1, g1⟩
theorem pt_notG {d : T} (h : PDT X W a d) : PDT X W (.UnaryOp .Not a pos) (tNot d) := by
  refine pt_weak (pt_not h) fun σ H Q ⟨L, m, ρ, r, e, g⟩ => ?_
  exact liftT_bnd r e g fun k m1 L1 H1 x1 r1 e1 g1 => Go.ret (a := !k) g1 r1
theorem pd_if {t : T} {da db : D} (hc : PDT X W c t) (ha : PDE X W a da) (hb : PDE X W b db) : PDE X W (.IfExp c a b pos) (dIf t da db) := by
  refine pe_weak (pe_ifExp hc ha hb) fun σ H Q ⟨L, m, ρ, r, e, g⟩ => ?_
  refine liftT_bnd r e g fun k m1 L1 H1 x1 r1 e1 g1 => ?_
  cases k with
  | true => exact ⟨L1, m1, ρ, r1, e1, g1⟩
  | false => exact ⟨L1, m1, ρ, r1, e1, g1⟩

/-! ### and, or, not as values -/
theorem pd_one {op} {d : D} (h : PDE X W a d) : PDE X W (.BoolOp op [a] pos) d := pe_one h
theorem pd_and {da db : D} (ha : PDE X W a da) (hb : PDE X W (.BoolOp .And (b :: es) pos) db) : PDE X W (.BoolOp .And (a :: b :: es) pos) (dAnd da db) := by
  refine pe_weak (pe_and ha hb) fun σ H Q ⟨L, m, ρ, r, e, g⟩ => ?_
  refine lift_bnd r e g fun x p m1 L1 H1 x1 r1 e1 i1 g1 => ?_
  cases i1 with
  | bl k =>
    refine ⟨k, rfl, ?_⟩
    cases k with
    | true => exact ⟨L1, m1, ρ, r1, e1, g1⟩
    | false => exact Go.ret (a := P.bl false) g1 r1 _ (.bl _)
  | _ => exact False.elim g1
theorem pd_or {da db : D} (ha : PDE X W a da) (hb : PDE X W (.BoolOp .Or (b :: es) pos) db) : PDE X W (.BoolOp .Or (a :: b :: es) pos) (dOr da db) := by
  refine pe_weak (pe_or ha hb) fun σ H Q ⟨L, m, ρ, r, e, g⟩ => ?_
  refine lift_bnd r e g fun x p m1 L1 H1 x1 r1 e1 i1 g1 => ?_
  cases i1 with
  | bl k =>
    refine ⟨k, rfl, ?_⟩
    cases k with
    | false => exact ⟨L1, m1, ρ, r1, e1, g1⟩
    | true => exact Go.ret (a := P.bl true) g1 r1 _ (.bl _)
  | _ => exact False.elim g1
theorem pd_not {da : D} (ha : PDE X W a da) : PDE X W (.UnaryOp .Not a pos) (dUn uNot da) := by
  refine pe_weak (pe_not ha) fun σ H Q ⟨L, m, ρ, r, e, g⟩ => ?_
  refine lift_bnd r e g fun x p m1 L1 H1 x1 r1 e1 i1 g1 => ?_
  cases i1 with
  | bl k => exact ⟨k, rfl, Go.ret (a := P.bl (!k)) g1 r1 _ (.bl _)⟩
  | _ => exact False.elim g1
theorem pd_chain {op op' : CmpOp} {f f' : P → P → M P} {da db dc : D} (ho : OpS X W (compareOp op) f) (ho' : OpS X W (compareOp op') f') (ha : PDE X W a da) (hb : PDE X W b db) (hc : PDE X W c dc)
    (hm : lastMarks [op, op'] [b, c] = false := by with_unfolding_all rfl) : PDE X W (.Compare a [op, op'] [b, c] pos) (dChain f f' da db dc) := by
  refine pe_weak (pe_chain ho ho' ha hb hc hm) fun σ H Q ⟨L, m, ρ, r, e, g⟩ => ?_
  refine lift_bnd r e g fun x p m1 L1 H1 x1 r1 e1 i1 g1 => lift_bnd r1 e1 g1 fun y q m2 L2 H2 x2 r2 e2 i2 g2 => ⟨L2, m2, σ, p, q, r2, i1.mono r1 x2, i2, g2.bnd.imp fun z m3 L3 H3 _ x3 r3 g3 v hv => ?_⟩
  cases hv with
  | bl k =>
    refine ⟨k, rfl, ?_⟩
    cases k with
    | true => exact lift_bnd r3 (e2.mono r2 x3) g3 fun w qw m4 L4 H4 x4 r4 e4 i4 g4 => ⟨L4, m4, σ, q, qw, r4, (i2.mono r2 x3).mono r3 x4, i4, g4⟩
    | false => exact Go.ret (a := P.bl false) g3 r3 _ (.bl _)
  | _ => exact False.elim g3
theorem pt_chainG {op op' : CmpOp} {f f' : P → P → M P} {da db dc : D} (ho : OpS X W (compareOp op) f) (ho' : OpS X W (compareOp op') f') (ha : PDE X W a da) (hb : PDE X W b db) (hc : PDE X W c dc)
    (hm : lastMarks [op, op'] [b, c] = false := by with_unfolding_all rfl) : PDT X W (.Compare a [op, op'] [b, c] pos) (tVal (dChain f f' da db dc)) := by
  refine pt_weak (pt_chain ho ho' ha hb hc hm) fun σ H Q ⟨L, m, ρ, r, e, g⟩ => ?_
  unfold tVal dChain at g
  simp only [bnd_assoc] at g
  refine lift_bnd r e g fun x p m1 L1 H1 x1 r1 e1 i1 g1 => lift_bnd r1 e1 g1 fun y q m2 L2 H2 x2 r2 e2 i2 g2 => ⟨L2, m2, σ, p, q, r2, i1.mono r1 x2, i2, g2.bnd.imp fun z m3 L3 H3 _ x3 r3 g3 v hv => ?_⟩
  cases hv with
  | bl k =>
    refine ⟨k, rfl, ?_⟩
    cases k with
    | true =>
      have g3' : Go X.K W σ L3 H3 (bnd (bnd (dc ρ) fun w => f' q w) asB m3) _ := g3
      rw [bnd_assoc] at g3'
      exact lift_bnd r3 (e2.mono r2 x3) g3' fun w qw m4 L4 H4 x4 r4 e4 i4 g4 => ⟨L4, m4, σ, q, qw, r4, (i2.mono r2 x3).mono r3 x4, i4, g4.bnd.imp fun z m5 L5 H5 _ x5 r5 g5 v hv => go_asB r5 hv g5⟩
    | false => exact ⟨false, rfl, Go.ret (a := false) g3 r3⟩
  | _ => exact False.elim g3

/-! ### argument lists and displays -/
theorem pda_nil : PDA X W [] aNil := pa_weak pa_nil fun σ H Q ⟨L, m, ρ, r, e, g⟩ => g L H (Ext.refl L H) r [] .nil
theorem pda_cons {d : D} {t : A} (ha : PDE X W e d) (hr : PDA X W es t) (hs : starEach (e :: es) X.env = (false, eval e X.env) :: starEach es X.env := by rfl) : PDA X W (e :: es) (aCons d t) := by
  refine pa_weak (pa_cons ha hr hs) fun σ H Q ⟨L, m, ρ, r, e, g⟩ => ?_
  exact lift_bnd r e g fun x p m1 L1 H1 x1 r1 e1 i1 g1 => liftA_bnd r1 e1 g1 fun xs ps m2 L2 H2 x2 r2 e2 i2 g2 => Go.ret (a := p :: ps) g2 r2 _ (.cons (i1.mono r1 x2) i2)
theorem pd_tup {t : A} {k : Nat} (h : PDA X W es t) : PDE X W (.Tuple es k pos) (dTup t) := by
  refine pe_weak (pe_tup h) fun σ H Q ⟨L, m, ρ, r, e, g⟩ => ?_
  refine liftA_bnd r e g fun xs ps m1 L1 H1 x1 r1 e1 i1 g1 => ?_
  obtain ⟨b, g2⟩ := g1.when_
  refine ⟨by rw [i1.length]; exact of_decide_eq_true b, fun p hp => ?_⟩
  exact g2 L1 (upd H1 p (.tup xs)) (ext_new hp) (r1.mono_new hp) _ (.tup upd_same (i1.stay (stay_new hp)))
theorem pdl_lst {t : A} (h : PDA X W es t) : PDL X W (.List es pos) (lLst t) := by
  refine pe_weak (pe_lst h) fun σ H Q ⟨L, m, ρ, r, e, g⟩ => ?_
  refine ⟨L, m, ρ, r, e, g.bnd.imp fun ps m1 L1 H1 _ x1 r1 g1 vs i1 => ?_⟩
  obtain ⟨b, g2⟩ := g1.when_
  refine ⟨by rw [i1.length]; exact of_decide_eq_true b, fun p hp => ?_⟩
  refine g2 L1 (upd H1 p (.lst vs)) (ext_new hp) (r1.mono_new hp) p vs ?_ upd_same (r1.new hp) (i1.stay (stay_new hp))
  cases q : H p with
  | none => rfl
  | some u => exact absurd hp (x1.grow p (by rw [q]; simp))
/-- a new list becomes ours -/
theorem pd_new {l : LD} (h : PDL X W e l) : PDE X W e (dNew l) := by
  refine pe_weak h fun σ H Q ⟨L, m, ρ, r, e, g⟩ => ?_
  refine liftL_bnd r e g fun a vs ps m1 L1 H1 x1 r1 e1 h0 h1 h2 h3 g1 => ?_
  exact g1 (L1 ++ [a]) H1 (x1.link h0) (r1.link h2 ⟨vs, h1, h3⟩) _ (.ref (by rw [← r1.len]; simp))
end
end G

/-! G4: operators by values. -/
namespace G
open PySem PySem.Spec L2
section
variable {X : Cx} {W : WX}
theorem op_i2 {g : Value → Value → Sem Value} {c : Int → Int → Bool} {f : Int → Int → P} {fv : Int → Int → V} {C : Int → Int → Prop} (ho : OpR X g (rI C fv)) (hc : ∀ i j, c i j = true → C i j) (hf : ∀ L H i j, Is X.K L H (fv i j) (f i j)) : OpS X W g (i2 c f) := by
  intro pins s σ H x y v u Q I rx ry ⟨L, m, σ', p, q, r, ip, iq, gg⟩
  cases ip with
  | int i =>
    cases iq with
    | int j =>
      have gg : Go X.K W σ' L H (when_ (c i j) (ret (f i j)) m) _ := gg
      obtain ⟨b, g2⟩ := gg.when_
      exact ho pins s σ H _ _ v u Q I rx ry ⟨i, j, rfl, rfl, hc i j b, Go.ret (a := f i j) g2 r _ (hf L H i j)⟩
    | _ => exact False.elim gg
  | _ => exact False.elim gg
theorem rI_of {g : Value → Value → Sem Value} {f : Int → Int → V} (h : OpR X g (rI0 f)) : OpR X g (rI (fun _ _ => True) f) := by
  intro pins s σ H x y v u Q I rx ry ⟨i, j, e1, e2, _, q⟩
  exact h pins s σ H x y v u Q I rx ry ⟨i, j, e1, e2, q⟩
theorem ob_sub : OpS X W (binaryOp .Sub) oSub := op_i2 (rI_of op_sub) (fun _ _ _ => trivial) fun _ _ _ _ => .int _
theorem ob_mod : OpS X W (binaryOp .Mod) oMod := op_i2 op_mod (fun _ _ h => of_decide_eq_true h) fun _ _ _ _ => .int _
theorem cDiv_ok {j : Int} (h : (decide (0 < j) && decide (j < 18446744073709551616)) = true) : 0 < j ∧ j.natAbs.log2 < 9000 := by
  simp only [Bool.and_eq_true, decide_eq_true_eq] at h
  refine ⟨h.1, ?_⟩
  have h1 : j.natAbs ≠ 0 := by omega
  have h2 : j.natAbs < 2 ^ 64 := by omega
  have := (Nat.log2_lt h1).mpr h2
  omega
theorem ob_div : OpS X W (binaryOp .FloorDiv) oDiv := op_i2 op_fdivW (fun _ _ h => cDiv_ok h) fun _ _ _ _ => .int _
theorem cPow_ok {i j : Int} (h : cPow i j = true) : CPow i j := by simpa [cPow, CPow, and_assoc] using h
theorem ob_pow : OpS X W (binaryOp .Pow) oPow := op_i2 op_pow (fun _ _ h => cPow_ok h) fun _ _ _ _ => .int _
theorem ob_shl : OpS X W (binaryOp .LShift) oShl := op_i2 op_shl (fun _ _ h => cPow_ok h) fun _ _ _ _ => .int _
theorem ob_shr : OpS X W (binaryOp .RShift) oShr := op_i2 op_shr (fun _ _ h => of_decide_eq_true h) fun _ _ _ _ => .int _
theorem ob_and : OpS X W (binaryOp .BitAnd) oAnd := op_i2 (rI_of op_and) (fun _ _ _ => trivial) fun _ _ _ _ => .int _
theorem ob_or : OpS X W (binaryOp .BitOr) oOr := op_i2 (rI_of op_or) (fun _ _ _ => trivial) fun _ _ _ _ => .int _
theorem ob_xor : OpS X W (binaryOp .BitXor) oXor := op_i2 (rI_of op_xor) (fun _ _ _ => trivial) fun _ _ _ _ => .int _
theorem un_negG : UnR X (unaryOp .USub) (rOf1 X.K W uNeg) := by
  intro pins s σ H x v Q I rx ⟨L, m, σ', p, r, ip, gg⟩
  cases ip with
  | int i => exact un_neg pins s σ H _ v Q I rx ⟨i, rfl, Go.ret (a := P.int (-i)) gg r _ (.int _)⟩
  | _ => exact False.elim gg
/-- a new list becomes ours, seen from where it was not there -/
theorem go_new {K : PySem.W.Frag} {L : List Addr} {H : Hp} {m : Hm} {σ : L2.St} {ps : List P} {vs : List V} {Q : VK} (r : Rep K L H m) (h : IsAll K L H vs ps) (g : Go K W σ L H (newO (.lst ps) m) fun z _ L' H' => ∀ v, Is K L' H' v z → Q v H') :
    ∀ p, H p = none → Q (.ref p) (upd H p (.lst vs)) := fun p hp => by
  refine g (L ++ [p]) (upd H p (.lst vs)) ((ext_new hp).link hp) ((r.mono_new hp).link (r.new hp) ⟨vs, upd_same, h.stay (stay_new hp)⟩) _ (.ref ?_)
  rw [← r.len]; simp
theorem go_tup {K : PySem.W.Frag} {L : List Addr} {H : Hp} {m : Hm} {σ : L2.St} {ps : List P} {vs : List V} {Q : VK} (r : Rep K L H m) (h : IsAll K L H vs ps) (g : Go K W σ L H (ret (.tup ps) m) fun z _ L' H' => ∀ v, Is K L' H' v z → Q v H') :
    ∀ p, H p = none → Q (.ref p) (upd H p (.tup vs)) := fun p hp =>
  g L (upd H p (.tup vs)) (ext_new hp) (r.mono_new hp) _ (.tup upd_same (h.stay (stay_new hp)))
theorem ob_add : OpS X W (binaryOp .Add) oAdd := by
  intro pins s σ H x y v u Q I rx ry ⟨L, m, σ', p, q, r, ip, iq, gg⟩
  cases ip with
  | int i =>
    cases iq with
    | int j => exact op_add pins s σ H _ _ v u Q I rx ry ⟨i, j, rfl, rfl, Go.ret (a := P.int (i + j)) gg r _ (.int _)⟩
    | _ => exact False.elim gg
  | str a =>
    cases iq with
    | str b =>
      have gg : Go X.K W σ' L H (when_ (decide (a.length + b.length ≤ SZ)) (ret (P.str (a ++ b))) m) _ := gg
      obtain ⟨b1, g2⟩ := gg.when_
      exact op_add_str pins s σ H _ _ v u Q I rx ry ⟨a, b, rfl, rfl, of_decide_eq_true b1, Go.ret (a := P.str (a ++ b)) g2 r _ (.str _)⟩
    | _ => exact False.elim gg
  | @tup a vs ps h1 h2 =>
    cases iq with
    | @tup b ws qs k1 k2 =>
      have gg : Go X.K W σ' L H (when_ (decide (ps.length + qs.length ≤ SZ)) (ret (P.tup (ps ++ qs))) m) _ := gg
      obtain ⟨b1, g2⟩ := gg.when_
      have b1 := of_decide_eq_true b1
      refine op_catA pins s σ H _ _ v u Q I rx ry ⟨a, b, vs, ws, rfl, rfl, .inl (.inl h1), .inl (.inl k1), by rw [h2.length, k2.length]; exact b1, fun e => ?_, fun _ e => ?_, fun _ _ => go_tup r (h2.append k2) g2⟩
      · subst e
        cases h2
        exact Go.ret (a := P.tup qs) g2 r _ (.tup k1 k2)
      · subst e
        cases k2
        rw [List.append_nil] at g2
        exact Go.ret (a := P.tup ps) g2 r _ (.tup h1 h2)
    | _ => exact False.elim gg
  | @ref a n h =>
    cases iq with
    | @ref b k h' =>
      obtain ⟨o, e1, gg⟩ := Go.getO gg
      cases o with
      | lst ps =>
        obtain ⟨o', e2, gg⟩ := Go.getO gg
        cases o' with
        | lst qs =>
          obtain ⟨b1, g2⟩ := Go.when_ gg
          have b1 := of_decide_eq_true b1
          obtain ⟨vs, h1, h2⟩ := r.lst h e1
          obtain ⟨ws, k1, k2⟩ := r.lst h' e2
          exact op_cat pins s σ H _ _ v u Q I rx ry ⟨a, b, vs, ws, rfl, rfl, h1, k1, by rw [h2.length, k2.length]; exact b1, go_new r (h2.append k2) g2⟩
        | _ => exact False.elim gg
      | _ => exact False.elim gg
    | _ => exact False.elim gg
  | _ => exact False.elim gg
theorem cMul_ok {i j : Int} (h : cMul i j = true) : CMul i j := by
  simp only [cMul, Bool.or_eq_true, Bool.and_eq_true, decide_eq_true_eq] at h
  exact h
theorem ob_mul : OpS X W (binaryOp .Mult) oMul := by
  intro pins s σ H x y v u Q I rx ry ⟨L, m, σ', p, q, r, ip, iq, gg⟩
  cases ip with
  | int i =>
    cases iq with
    | int j =>
      have gg : Go X.K W σ' L H (when_ (cMul i j) (ret (P.int (i * j))) m) _ := gg
      obtain ⟨b, g2⟩ := gg.when_
      exact op_mul pins s σ H _ _ v u Q I rx ry ⟨i, j, rfl, rfl, cMul_ok b, Go.ret (a := P.int (i * j)) g2 r _ (.int _)⟩
    | _ => exact False.elim gg
  | @ref a n h =>
    cases iq with
    | int k =>
      obtain ⟨o, e1, gg⟩ := Go.getO gg
      cases o with
      | lst ps =>
        obtain ⟨b1, g2⟩ := Go.when_ gg
        simp only [Bool.and_eq_true, decide_eq_true_eq] at b1
        obtain ⟨vs, h1, h2⟩ := r.lst h e1
        exact op_rep pins s σ H _ _ v u Q I rx ry ⟨a, k, vs, rfl, rfl, h1, b1.1.1, b1.1.2, by rw [h2.length]; exact b1.2, go_new r (h2.replicate _) g2⟩
      | _ => exact False.elim gg
    | _ => exact False.elim gg
  | _ => exact False.elim gg

/-! ### as data -/
theorem SqL_of_frz {K : PySem.W.Frag} {H : Hp} {a : Addr} {vs : List V} (h : (∃ ob, H a = some (.frz ob (.lst vs))) ∨ KL K a vs) : SqL K H a vs := by
  rcases h with ⟨ob, h⟩ | h
  · exact .inl (.inr ⟨ob, h⟩)
  · exact .inr h
theorem Dp_all {K : PySem.W.Frag} {L : List Addr} {H : Hp} {m : Hm} {f : Nat} (ih : ∀ p d v, dat m f p = some d → Is K L H v p → Dp K H v d) : ∀ (ps : List P) (ds : List PyData) (vs : List V), mapO (dat m f) ps = some ds → IsAll K L H vs ps → DpAll K H vs ds
  | [], ds, vs, h, i => by cases i; cases h; exact .nil
  | p :: ps, ds, vs, h, i => by
    cases i with
    | cons i1 i2 =>
      unfold mapO at h
      split at h
      · rename_i d hd
        split at h
        · rename_i es he
          cases h
          exact .cons (ih p d _ hd i1) (Dp_all ih ps es _ he i2)
        · cases h
      · cases h
theorem Dp_of {K : PySem.W.Frag} {L : List Addr} {H : Hp} {m : Hm} (r : Rep K L H m) : ∀ (f : Nat) (p : P) (d : PyData) (v : V), dat m f p = some d → Is K L H v p → Dp K H v d
  | 0, p, d, v, h, i => by
    cases i <;> first
      | (cases h; constructor)
      | (cases h)
  | f + 1, p, d, v, h, i => by
    have ih := Dp_of r f
    cases i with
    | non => cases h; exact .non
    | bl b => cases h; exact .bl b
    | int i => cases h; exact .int i
    | str x => cases h; exact .str x
    | tup h1 h2 =>
      obtain ⟨ds, e1, rfl⟩ := Option.map_eq_some_iff.mp (show (mapO (dat m f) _).map PyData.tuple = some d from h)
      exact .tup (.inl (.inl h1)) (Dp_all ih _ _ _ e1 h2)
    | kt h1 h2 =>
      obtain ⟨ds, e1, rfl⟩ := Option.map_eq_some_iff.mp (show (mapO (dat m f) _).map PyData.tuple = some d from h)
      exact .tup (.inr h1) (Dp_all ih _ _ _ e1 h2)
    | scr h1 h2 =>
      obtain ⟨ds, e1, rfl⟩ := Option.map_eq_some_iff.mp (show (mapO (dat m f) _).map PyData.list = some d from h)
      exact .lst (SqL_of_frz h1) (Dp_all ih _ _ _ e1 h2)
    | @ref a n h1 =>
      unfold dat at h
      split at h
      · rename_i ps e
        obtain ⟨ds, e1, rfl⟩ := Option.map_eq_some_iff.mp h
        obtain ⟨vs, k1, k2⟩ := r.lst h1 e
        exact .lst (.of k1) (Dp_all ih _ _ _ e1 k2)
      · cases h
theorem Go.asD {K : PySem.W.Frag} {L : List Addr} {H : Hp} {m : Hm} {σ : L2.St} {p : P} {β : Type} {f : PyData → M β} {F : β → Hm → List Addr → Hp → Prop} (r : Rep K L H m) (g : Go K W σ L H (G.bnd (G.asD p) f m) F) :
    ∃ d, dat m DD p = some d ∧ Go K W σ L H (f d m) F := by
  unfold G.bnd G.asD at g
  split at g
  · rename_i d m' e
    split at e
    · rename_i d' h
      cases e
      exact ⟨_, h, g⟩
    · cases e
  · rename_i e
    split at e <;> cases e
  · exact False.elim g
theorem scal_is {K : PySem.W.Frag} {L : List Addr} {H : Hp} {x y : V} {p q : P} {b : Bool} (e : scalP p q = some b) (i : Is K L H x p) (j : Is K L H y q) : scal x y = true ∧ decide (x = y) = b := by
  cases i <;> cases j <;> cases e <;> refine ⟨rfl, ?_⟩ <;> simp
theorem ob_eq (ok : Cok X) : OpS X W (compareOp .Eq) oEq := by
  intro pins s σ H x y v u Q I rx ry ⟨L, m, σ', p, q, r, ip, iq, gg⟩
  unfold oEq at gg
  cases hs : scalP p q with
  | some b =>
    simp only [hs] at gg
    obtain ⟨h1, h2⟩ := scal_is hs ip iq
    exact op_eq pins s σ H _ _ v u Q I rx ry ⟨h1, by rw [h2]; exact Go.ret (a := P.bl b) gg r _ (.bl _)⟩
  | none =>
    simp only [hs] at gg
    obtain ⟨d, e1, gg⟩ := Go.asD r gg
    obtain ⟨e, e2, gg⟩ := Go.asD r gg
    obtain ⟨b, g2⟩ := gg.when_
    simp only [Bool.and_eq_true] at b
    exact op_eqD (by have := ok.hu; omega) pins s σ H _ _ v u Q I rx ry ⟨d, e, Dp_of r _ _ _ _ e1 ip, Dp_of r _ _ _ _ e2 iq, b.1, b.2, by
      have k := Go.ret (a := P.bl (PyData.eqv d e != false)) g2 r _ (.bl _)
      rw [Bool.bne_false] at k
      exact k⟩
theorem ob_ne (ok : Cok X) : OpS X W (compareOp .NotEq) oNe := by
  intro pins s σ H x y v u Q I rx ry ⟨L, m, σ', p, q, r, ip, iq, gg⟩
  unfold oNe at gg
  cases hs : scalP p q with
  | some b =>
    simp only [hs] at gg
    obtain ⟨h1, h2⟩ := scal_is hs ip iq
    exact op_ne pins s σ H _ _ v u Q I rx ry ⟨h1, by rw [h2]; exact Go.ret (a := P.bl (!b)) gg r _ (.bl _)⟩
  | none =>
    simp only [hs] at gg
    obtain ⟨d, e1, gg⟩ := Go.asD r gg
    obtain ⟨e, e2, gg⟩ := Go.asD r gg
    obtain ⟨b, g2⟩ := gg.when_
    simp only [Bool.and_eq_true] at b
    exact op_neD (by have := ok.hu; omega) pins s σ H _ _ v u Q I rx ry ⟨d, e, Dp_of r _ _ _ _ e1 ip, Dp_of r _ _ _ _ e2 iq, b.1, b.2, by
      have k := Go.ret (a := P.bl (PyData.eqv d e != true)) g2 r _ (.bl _)
      rw [Bool.bne_true] at k
      exact k⟩
end
end G

/-! G5: dicts, in, order, subscripts, slices. -/
namespace G
open PySem PySem.Spec L2
/-! ### dicts -/
section
variable {κ : Type} [DecidableEq κ] {K : PySem.W.Frag} {L : List Addr} {H : Hp}
theorem KvIs.get {ws : List (κ × V)} {kvs : List (κ × P)} (h : KvIs K L H ws kvs) (k : κ) : (valV ws k = none ∧ vGet kvs k = none) ∨ ∃ v p, valV ws k = some v ∧ vGet kvs k = some p ∧ Is K L H v p := by
  unfold KvIs at h
  induction h with
  | nil => exact .inl ⟨rfl, rfl⟩
  | @cons x y xs ys r t ih =>
    obtain ⟨e, i⟩ := r
    by_cases hk : x.1 = k
    · refine .inr ⟨x.2, y.2, ?_, ?_, i⟩
      · simp [valV, List.find?_cons, hk]
      · simp [vGet, List.find?_cons, ← e, hk]
    · have e1 : valV (x :: xs) k = valV xs k := by simp [valV, List.find?_cons, hk]
      have e2 : vGet (y :: ys) k = vGet ys k := by simp [vGet, List.find?_cons, ← e, hk]
      rw [e1, e2]; exact ih
theorem KvIs.any {ws : List (κ × V)} {kvs : List (κ × P)} (h : KvIs K L H ws kvs) (k : κ) : (ws.any fun kv => decide (kv.1 = k)) = (kvs.any fun kv => decide (kv.1 = k)) := by
  unfold KvIs at h
  induction h with
  | nil => rfl
  | @cons x y xs ys r t ih => rw [List.any_cons, List.any_cons, ih, r.1]
theorem KvIs.snoc {ws : List (κ × V)} {kvs : List (κ × P)} (h : KvIs K L H ws kvs) {k : κ} {v : V} {p : P} (i : Is K L H v p) : KvIs K L H (ws ++ [(k, v)]) (kvs ++ [(k, p)]) := by
  unfold KvIs at h
  induction h with
  | nil => exact .cons ⟨rfl, i⟩ .nil
  | cons r t ih => exact .cons r ih
theorem KvIs.map {ws : List (κ × V)} {kvs : List (κ × P)} (h : KvIs K L H ws kvs) {k : κ} {v : V} {p : P} (i : Is K L H v p) : KvIs K L H (ws.map fun kv => if kv.1 = k then (kv.1, v) else kv) (kvs.map fun kv => if kv.1 = k then (kv.1, p) else kv) := by
  unfold KvIs at h
  induction h with
  | nil => exact .nil
  | @cons x y xs ys r t ih =>
    rw [List.map_cons, List.map_cons]
    refine .cons ?_ ih
    by_cases hk : x.1 = k
    · rw [if_pos hk, if_pos (r.1 ▸ hk)]; exact ⟨r.1, i⟩
    · rw [if_neg hk, if_neg (r.1 ▸ hk)]; exact r
theorem KvIs.put {ws : List (κ × V)} {kvs : List (κ × P)} (h : KvIs K L H ws kvs) (k : κ) {v : V} {p : P} (i : Is K L H v p) : KvIs K L H (putK ws k v) (vPut kvs k p) := by
  unfold putK vPut
  rw [h.any k]
  split
  · rename_i e; rw [e]; exact h.map i
  · rename_i e
    have e' := Bool.eq_false_iff.mpr e
    rw [e']; exact h.snoc i
theorem KvIs.length {ws : List (κ × V)} {kvs : List (κ × P)} (h : KvIs K L H ws kvs) : ws.length = kvs.length := Paired.length h
theorem keyOf_is {v : V} {p : P} {k : Key} (i : Is K L H v p) (e : keyOf p = some k) : v = kV k := by
  cases i <;> first | (cases e; rfl) | cases e
theorem keysOf_is : ∀ {ps : List P} {vs : List V} {ks : List Key}, IsAll K L H vs ps → mapO keyOf ps = some ks → vs = ks.map kV
  | [], _, _, .nil, e => by cases e; rfl
  | p :: ps, _, ks, .cons i1 i2, e => by
    unfold mapO at e
    split at e
    · rename_i k hk
      split at e
      · rename_i l hl
        cases e
        rw [List.map_cons, keyOf_is i1 hk, keysOf_is i2 hl]
      · cases e
    · cases e
theorem tkeyOf_is {v : V} {p : P} {k : List Key} (i : Is K L H v p) (e : tkeyOf p = some k) : ∃ b, v = .ref b ∧ H b = some (.tup (k.map kV)) := by
  cases i with
  | @tup a vs ps h1 h2 => exact ⟨a, rfl, by rw [h1, keysOf_is h2 e]⟩
  | _ => cases e
end
section
variable {X : Cx} {W : WX} {pins : List (Addr × Obj)} {σ : L2.St} {H : Hp} {s : Shared} {L : List Addr} {m : Hm}
/-- an empty dict may be either -/
theorem inv_dT (I : Inv X pins σ H s) {a : Addr} (h : H a = some (.dK [])) : Inv X pins σ (upd H a (.dT [])) s := by
  obtain ⟨z, hs, vs, rel, o, es, ep, ho, hx, hd, hk⟩ := (show ObjOk X.prog X.w H s.heap a (.dK []) from I.hok a _ h)
  cases rel
  have := I.write (h' := s.heap) (t' := s.toks) (x := a) (e := a) (o := .dT []) (by rw [h]; trivial) (.inl rfl) (fun b u _ q => q) ⟨_, ho⟩ ⟨Nat.zero_le _, hs, [], .nil, o, es, ep, ho, hx, hd, (by
    have q := hk.2.1
    generalize es.toList = l at q ⊢
    cases q; rfl), by simp⟩
  exact this
theorem Rep.dT (r : Rep X.K L H m) {n : Nat} {a : Addr} (h : L[n]? = some a) (hm : m[n]? = some (.dK [])) : Rep X.K L (upd H a (.dT [])) (m.set n (.dT [])) :=
  r.put h trivial ⟨[], upd_same, .nil⟩
/-- a look into a dict: the value's place in the abstract heap, perhaps told anew -/
theorem look_dict {n : Nat} {a : Addr} {y : V} {k : P} {β : Type} {f : Option P → M β} {F : β → Hm → List Addr → Hp → Prop} {σ' : L2.St} (I : Inv X pins σ H s) (r : Rep X.K L H m) (h : L[n]? = some a) (iy : Is X.K L H y k) (g : Go X.K W σ' L H (bnd (dLook n k) f m) F) :
    ∃ (H' : Hp) (m' : Hm) (o : Option V) (q : Option P), Inv X pins σ H' s ∧ Ext L H L H' ∧ Rep X.K L H' m' ∧ DGet H' a y o ∧ ((o = none ∧ q = none) ∨ ∃ v p, o = some v ∧ q = some p ∧ Is X.K L H' v p) ∧ Go X.K W σ' L H' (f q m') F := by
  unfold G.bnd dLook at g
  cases hm : m[n]? with
  | none => rw [hm] at g; exact False.elim g
  | some ob =>
    rw [hm] at g
    have ro := r.obj n a ob h hm
    cases ob with
    | dK kvs =>
      obtain ⟨ws, e, kv⟩ := ro
      cases hk : keyOf k with
      | some q =>
        simp only [hk] at g
        obtain rfl := keyOf_is iy hk
        refine ⟨H, m, valV ws q, vGet kvs q, I, Ext.refl L H, r, DGet.k e, ?_, g⟩
        rcases kv.get q with ⟨h1, h2⟩ | ⟨v, p, h1, h2, h3⟩
        · exact .inl ⟨h1, h2⟩
        · exact .inr ⟨v, p, h1, h2, h3⟩
      | none =>
        simp only [hk] at g
        cases kvs with
        | cons c cs => exact False.elim g
        | nil =>
          cases kv
          cases ht : tkeyOf k with
          | none => simp only [ht] at g; exact False.elim g
          | some q =>
            simp only [ht] at g
            obtain ⟨b, rfl, hb⟩ := tkeyOf_is iy ht
            have hba : b ≠ a := ne_of hb e (by intro z; cases z)
            exact ⟨upd H a (.dT []), m.set n (.dT []), none, none, inv_dT I e, ext_put h, r.dT h hm, DGet.t (kvs := []) (k := q) upd_same (by rw [upd_ne hba]; exact hb), .inl ⟨rfl, rfl⟩, Go.mono g (ext_put h)⟩
    | dT kvs =>
      obtain ⟨ws, e, kv⟩ := ro
      cases ht : tkeyOf k with
      | none => simp only [ht] at g; exact False.elim g
      | some q =>
        simp only [ht] at g
        obtain ⟨b, rfl, hb⟩ := tkeyOf_is iy ht
        refine ⟨H, m, valV ws q, vGet kvs q, I, Ext.refl L H, r, DGet.t e hb, ?_, g⟩
        rcases kv.get q with ⟨h1, h2⟩ | ⟨v, p, h1, h2, h3⟩
        · exact .inl ⟨h1, h2⟩
        · exact .inr ⟨v, p, h1, h2, h3⟩
    | lst ps => exact False.elim g
    | lk ps => exact False.elim g
theorem inT_ok {x : P} {tup : P} (ok : Cok X) {y z : V} {u w : Value} {F : Bool → Hm → List Addr → Hp → Prop} {σ' : L2.St} (I : Inv X pins σ H s) (r : Rep X.K L H m) (iz : Is X.K L H z x) (iy : Is X.K L H y tup) (rz : RelV z w) (ry : RelV y u)
    (g : Go X.K W σ' L H (inT x tup m) F) : ∃ b, F b m L H ∧ (∀ Q E, Q (Value.bool b) s → wpAny (model X.prog X.w) X.A (compareOp .In w u) Q E s) ∧ (∀ Q E, Q (Value.bool (!b)) s → wpAny (model X.prog X.w) X.A (compareOp .NotIn w u) Q E s) := by
  unfold inT at g
  obtain ⟨d, e1, g⟩ := Go.asD r g
  obtain ⟨e, e2, g⟩ := Go.asD r g
  cases e with
  | tuple ds =>
    obtain ⟨b, g2⟩ := Go.when_ g
    simp only [Bool.and_eq_true] at b
    obtain ⟨as, r1⟩ := Dp.reads I d z w (Dp_of r _ _ _ _ e1 iz) rz
    obtain ⟨bs, r2⟩ := Dp.reads I (.tuple ds) y u (Dp_of r _ _ _ _ e2 iy) ry
    have hu := ok.hu
    have c1 := SeqAt.canLay_of_shaped b.2
    have c2 := SeqAt.canLay_of_shaped b.1
    exact ⟨_, Go.ret g2 r, fun Q E q => SeqAt.in_tuple_reads r2 r1 c1 c2 (PyProof.Rows.room_in_shaped b.1 (by omega)) q, fun Q E q => SeqAt.notIn_tuple_reads r2 r1 c1 c2 (PyProof.Rows.room_in_shaped b.1 (by omega)) q⟩
  | _ => exact False.elim g
theorem datL_depth {m : Hm} {f : Nat} (ih : ∀ p d, dat m f p = some d → d.depth ≤ f) : ∀ (ps : List P) (ds : List PyData), mapO (dat m f) ps = some ds → PyData.depthAll ds ≤ f
  | [], ds, h => by cases h; exact Nat.zero_le _
  | p :: ps, ds, h => by
    unfold mapO at h
    split at h
    · rename_i d hd
      split at h
      · rename_i es he
        cases h
        have h1 := ih p d hd
        have h2 := datL_depth ih ps es he
        show max d.depth (PyData.depthAll es) ≤ f
        omega
      · cases h
    · cases h
theorem dat_depth {m : Hm} : ∀ (f : Nat) (p : P) (d : PyData), dat m f p = some d → d.depth ≤ f
  | 0, p, d, h => by cases p <;> first | (cases h; exact Nat.le_refl _) | cases h
  | f + 1, p, d, h => by
    have ih := dat_depth (m := m) f
    have fin : ∀ {ps : List P} {g : List PyData → PyData}, (∀ ds, (g ds).depth = PyData.depthAll ds + 1) → (mapO (dat m f) ps).map g = some d → d.depth ≤ f + 1 := fun {ps g} hg h => by
      obtain ⟨ds, e1, rfl⟩ := Option.map_eq_some_iff.mp h
      have := datL_depth ih _ _ e1
      rw [hg]; omega
    cases p with
    | non => cases h; exact Nat.zero_le _
    | bl b => cases h; exact Nat.zero_le _
    | int i => cases h; exact Nat.zero_le _
    | str x => cases h; exact Nat.zero_le _
    | tup ps => exact fin (g := PyData.tuple) (fun _ => rfl) h
    | kt ps => exact fin (g := PyData.tuple) (fun _ => rfl) h
    | scr ps => exact fin (g := PyData.list) (fun _ => rfl) h
    | ref n =>
      unfold dat at h
      split at h
      · exact fin (g := PyData.list) (fun _ => rfl) h
      · cases h
theorem in_ok {x y : P} (ok : Cok X) {b z : V} {u w : Value} {F : Bool → Hm → List Addr → Hp → Prop} {σ' : L2.St} (I : Inv X pins σ H s) (r : Rep X.K L H m) (iz : Is X.K L H z x) (iy : Is X.K L H b y) (rz : RelV z w) (ry : RelV b u)
    (g : Go X.K W σ' L H (inP x y m) F) : ∃ k H' m', Ext L H L H' ∧ Rep X.K L H' m' ∧ F k m' L H' ∧
      (∀ Q E, (∀ s', Inv X pins σ H' s' → Q (Value.bool k) s') → wpAny (model X.prog X.w) X.A (compareOp .In w u) Q E s) ∧ (∀ Q E, (∀ s', Inv X pins σ H' s' → Q (Value.bool (!k)) s') → wpAny (model X.prog X.w) X.A (compareOp .NotIn w u) Q E s) := by
  have hu := ok.hu
  cases iy with
  | @tup a vs ps h1 h2 =>
    obtain ⟨k, f, q1, q2⟩ := inT_ok ok I r iz (.tup h1 h2) rz ry g
    exact ⟨k, H, m, Ext.refl L H, r, f, fun Q E q => q1 Q E (q s I), fun Q E q => q2 Q E (q s I)⟩
  | @kt a vs ps h1 h2 =>
    obtain ⟨k, f, q1, q2⟩ := inT_ok ok I r iz (.kt h1 h2) rz ry g
    exact ⟨k, H, m, Ext.refl L H, r, f, fun Q E q => q1 Q E (q s I), fun Q E q => q2 Q E (q s I)⟩
  | @ref a n h =>
    obtain rfl : u = Value.ref a := ry
    obtain ⟨o, e1, g⟩ := Go.getO g
    have dict : Go X.K W σ' L H (bnd (dLook n x) (fun o => ret o.isSome) m) F → ∃ k H' m', Ext L H L H' ∧ Rep X.K L H' m' ∧ F k m' L H' ∧
      (∀ Q E, (∀ s', Inv X pins σ H' s' → Q (Value.bool k) s') → wpAny (model X.prog X.w) X.A (compareOp .In w (Value.ref a)) Q E s) ∧ (∀ Q E, (∀ s', Inv X pins σ H' s' → Q (Value.bool (!k)) s') → wpAny (model X.prog X.w) X.A (compareOp .NotIn w (Value.ref a)) Q E s) := fun g => by
      obtain ⟨H', m', o, q, I', x', r', dg, rel, g'⟩ := look_dict I r h iz g
      have e : o.isSome = q.isSome := by
        rcases rel with ⟨h1, h2⟩ | ⟨v, p, h1, h2, _⟩ <;> rw [h1, h2] <;> rfl
      refine ⟨q.isSome, H', m', x', r', Go.ret g' r', fun Q E k => ?_, fun Q E k => ?_⟩
      · exact d_in (by omega) I' dg rz fun s' I2 => by rw [e]; exact k s' I2
      · exact d_notIn (by omega) I' dg rz fun s' I2 => by rw [e]; exact k s' I2
    cases o with
    | lst ps =>
      obtain ⟨d, e2, g⟩ := Go.asD r g
      obtain ⟨e, e3, g⟩ := Go.asD r g
      cases e with
      | list ds =>
        obtain ⟨k, g2⟩ := Go.when_ g
        simp only [Bool.and_eq_true] at k
        obtain ⟨as, r1⟩ := Dp.reads I d z w (Dp_of r _ _ _ _ e2 iz) rz
        obtain ⟨bs, r2⟩ := Dp.reads I (.list ds) _ _ (Dp_of r _ _ _ _ e3 (.ref h)) (show RelV (V.ref a) (Value.ref a) from rfl)
        have c1 := SeqAt.canLay_of_shaped k.2
        have c2 := SeqAt.canLay_of_shaped k.1
        exact ⟨_, H, m, Ext.refl L H, r, Go.ret g2 r, fun Q E q => SeqAt.in_list_reads r2 r1 c1 c2 (PyProof.Rows.room_in_shaped k.1 (by omega)) (q s I), fun Q E q => SeqAt.notIn_list_reads r2 r1 c1 c2 (PyProof.Rows.room_in_shaped k.1 (by omega)) (q s I)⟩
      | _ => exact False.elim g
    | dK kvs => exact dict g
    | dT kvs => exact dict g
    | lk kvs => exact False.elim g
  | _ => exact False.elim g
theorem ob_in (ok : Cok X) : OpS X W (compareOp .In) oIn := by
  intro pins s σ H x y v u Q I rx ry ⟨L, m, σ', p, q, r, ip, iq, gg⟩
  obtain ⟨k, H', m', x', r', f, q1, _⟩ := in_ok ok I r ip iq rx ry (Go.bnd gg)
  exact q1 _ _ fun s' I' => ⟨.bl k, H', I', rfl, Go.ret (a := P.bl k) f r' _ (.bl k)⟩
theorem ob_notIn (ok : Cok X) : OpS X W (compareOp .NotIn) oNotIn := by
  intro pins s σ H x y v u Q I rx ry ⟨L, m, σ', p, q, r, ip, iq, gg⟩
  obtain ⟨k, H', m', x', r', f, _, q2⟩ := in_ok ok I r ip iq rx ry (Go.bnd gg)
  exact q2 _ _ fun s' I' => ⟨.bl (!k), H', I', rfl, Go.ret (a := P.bl (!k)) f r' _ (.bl _)⟩

/-! ### order -/
theorem ob_lt (ok : Cok X) : OpS X W (compareOp .Lt) oLt := by
  intro pins s σ H x y v u Q I rx ry ⟨L, m, σ', p, q, r, ip, iq, gg⟩
  have hu := ok.hu
  cases ip with
  | int i =>
    cases iq with
    | int j => exact op_lt pins s σ H _ _ v u Q I rx ry ⟨i, j, rfl, rfl, Go.ret (a := P.bl (decide (i < j))) gg r _ (.bl _)⟩
    | _ => exact False.elim gg
  | str a =>
    cases iq with
    | str b => exact op_lt_str pins s σ H _ _ v u Q I rx ry ⟨a, b, rfl, rfl, Go.ret (a := P.bl (decide (a.cps.toList < b.cps.toList))) gg r _ (.bl _)⟩
    | _ => exact False.elim gg
  | @tup a vs ps h1 h2 =>
    obtain ⟨d, e1, gg⟩ := Go.asD r gg
    obtain ⟨e, e2, gg⟩ := Go.asD r gg
    obtain ⟨b, g2⟩ := Go.when_ gg
    obtain ⟨as, r1⟩ := Dp.reads I d _ _ (Dp_of r _ _ _ _ e1 (.tup h1 h2)) rx
    obtain ⟨bs, r2⟩ := Dp.reads I e _ _ (Dp_of r _ _ _ _ e2 iq) ry
    have hd : d.depth ≤ 60 := dat_depth _ _ _ e1
    exact PySem.W.rcLt_alike d e X.A s _ _ _ _ r1 r2 b (fun z => by subst z; cases r1; cases rx) (by omega) _ _ _ _ ⟨.bl _, H, I, rfl, Go.ret (a := P.bl (PySem.W.dataLt d e)) g2 r _ (.bl _)⟩
  | _ => exact False.elim gg
theorem ob_le : OpS X W (compareOp .LtE) oLe := by
  intro pins s σ H x y v u Q I rx ry ⟨L, m, σ', p, q, r, ip, iq, gg⟩
  cases ip with
  | int i =>
    cases iq with
    | int j => exact op_le pins s σ H _ _ v u Q I rx ry ⟨i, j, rfl, rfl, Go.ret (a := P.bl (decide (i ≤ j))) gg r _ (.bl _)⟩
    | _ => exact False.elim gg
  | str a =>
    cases iq with
    | str b => exact op_le_str pins s σ H _ _ v u Q I rx ry ⟨a, b, rfl, rfl, Go.ret (a := P.bl (!decide (b.cps.toList < a.cps.toList))) gg r _ (.bl _)⟩
    | _ => exact False.elim gg
  | _ => exact False.elim gg
theorem ob_gt : OpS X W (compareOp .Gt) oGt := by
  intro pins s σ H x y v u Q I rx ry ⟨L, m, σ', p, q, r, ip, iq, gg⟩
  cases ip with
  | int i =>
    cases iq with
    | int j => exact op_gt pins s σ H _ _ v u Q I rx ry ⟨i, j, rfl, rfl, Go.ret (a := P.bl (decide (j < i))) gg r _ (.bl _)⟩
    | _ => exact False.elim gg
  | _ => exact False.elim gg
theorem ob_ge : OpS X W (compareOp .GtE) oGe := by
  intro pins s σ H x y v u Q I rx ry ⟨L, m, σ', p, q, r, ip, iq, gg⟩
  cases ip with
  | int i =>
    cases iq with
    | int j => exact op_ge pins s σ H _ _ v u Q I rx ry ⟨i, j, rfl, rfl, Go.ret (a := P.bl (decide (j ≤ i))) gg r _ (.bl _)⟩
    | _ => exact False.elim gg
  | _ => exact False.elim gg

/-! ### subscripts -/
theorem IsAll.atI {K : PySem.W.Frag} {vs : List V} {ps : List P} (h : IsAll K L H vs ps) {i : Int} {p : P} (e : L2.atI ps i = some p) : ∃ v, L2.atI vs i = some v ∧ Is K L H v p := by
  unfold L2.atI at e ⊢
  rw [h.length]
  cases q : ixN ps.length i with
  | none => rw [q] at e; cases e
  | some j =>
    rw [q] at e
    exact h.get (i := j) e
theorem ix_all (ok : Cok X) : IxR X (rOf X.K W oIx) := by
  intro value slice pins s σ H x y v u Q I rx ry ⟨L, m, σ', p, q, r, ip, iq, gg⟩ hs
  cases ip with
  | @tup a vs ps h1 h2 =>
    cases iq with
    | int i =>
      obtain ⟨z, e, f⟩ := Go.opt (o := L2.atI ps i) gg r
      obtain ⟨w, e1, i1⟩ := h2.atI e
      exact ix_tup value slice pins s σ H _ _ v u Q I rx ry ⟨a, vs, i, w, rfl, rfl, .inl (.inl h1), e1, f _ i1⟩ hs
    | _ => exact False.elim gg
  | @scr a vs ps h1 h2 =>
    cases iq with
    | int i =>
      obtain ⟨z, e, f⟩ := Go.opt (o := L2.atI ps i) gg r
      obtain ⟨w, e1, i1⟩ := h2.atI e
      exact ix_list value slice pins s σ H _ _ v u Q I rx ry ⟨a, vs, i, w, rfl, rfl, SqL_of_frz h1, e1, f _ i1⟩ hs
    | _ => exact False.elim gg
  | @ref a n h =>
    obtain rfl : v = Value.ref a := rx
    obtain ⟨o, e1, gg⟩ := Go.getO gg
    have dict : Go X.K W σ' L H (bnd (dLook n q) opt m) (fun z _ L' H' => ∀ v, Is X.K L' H' v z → Q v H') → wpAny (model X.prog X.w) X.A (PyProof.Rows.subscriptTail value slice (Value.ref a) u) (EP X pins σ Q) X.xe s := fun g => by
      obtain ⟨H', m', o, z, I', x', r', dg, rel, g'⟩ := look_dict I r h iq g
      obtain ⟨p', e, f⟩ := Go.opt g' r'
      subst e
      rcases rel with ⟨_, h2⟩ | ⟨w, p, h1, h2, h3⟩
      · cases h2
      · cases h2
        subst h1
        have ht := dict_typeIs I' dg
        unfold PyProof.Rows.subscriptTail
        refine wpAny_bind ?_
        rw [getitemInPython_of_ne ht.not_modules]
        refine wpAny_bind (wpAny_specialOf ht PySem.F.slot_dict_getitem.lookup ?_)
        have fin : wpAny (model X.prog X.w) X.A (subscripted slice false (Value.ref a) u) (fun r s₃ => wpAny (model X.prog X.w) X.A (letTemporaryGo value (Value.ref a) r >>= fun _ => pure r) (EP X pins σ Q) X.xe s₃) X.xe s := by
          rw [hs]
          exact wpAny_operating (d_getItem (by have := ok.hu; omega) I' dg ry fun w' s' I2 rw' => wpAny_bind (wpAny_letTemporaryGo (wpAny_pure ⟨w, H', I2, rw', f _ h3⟩)))
        first
          | exact wpAny_pure (wpAny_bind fin)
          | exact wpAny_bind (wpAny_pure (wpAny_bind fin))
          | exact wpAny_bind fin
    cases o with
    | lst ps =>
      cases iq with
      | int i =>
        obtain ⟨z, e, f⟩ := Go.opt (o := L2.atI ps i) gg r
        obtain ⟨vs, k1, k2⟩ := r.lst h e1
        obtain ⟨w, e1, i1⟩ := k2.atI e
        exact ix_list value slice pins s σ H _ _ _ u Q I (show RelV (V.ref a) (Value.ref a) from rfl) ry ⟨a, vs, i, w, rfl, rfl, .of k1, e1, f _ i1⟩ hs
      | _ => exact False.elim gg
    | dK kvs => exact dict gg
    | dT kvs => exact dict gg
    | lk kvs => exact False.elim gg
  | _ => exact False.elim gg
theorem pd_ix (ok : Cok X) {a b : Expr} {da db : D} {pos : Pos} (ha : PDE X W a da) (hb : PDE X W b db) (hs : PlainIx b := by intro _ _; rfl) : PDE X W (.Subscript a b pos) (dOp oIx da db) :=
  pe_weak (pe_ix (ix_all ok) ha hb hs) fun _ _ _ h => lift2 h

/-! ### slices -/
def liftO (K : PySem.W.Frag) (W : WX) (d : OD) : TO := fun σ H Q => ∃ L m ρ, Rep K L H m ∧ EnvIs K L H σ ρ ∧ Go K W σ L H (d ρ m) fun o _ L' H' => Q o H'
def PDO (X : Cx) (W : WX) (e : Option Expr) (d : OD) : Prop := PO X e (liftO X.K W d)
theorem po_weak {e : Option Expr} {t t' : TO} (h : PO X e t) (w : ∀ σ H Q, t' σ H Q → t σ H Q) : PO X e t' := ⟨fun pins s σ H Q I q => h.run pins s σ H Q I (w σ H Q q)⟩
theorem pdo_none : PDO X W none pNone := po_weak po_none fun σ H Q ⟨L, m, ρ, r, e, g⟩ => Go.ret (a := none) g r
theorem pdo_some {e : Expr} {d : D} (h : PDE X W e d) : PDO X W (some e) (pSome d) := by
  refine po_weak (po_some h) fun σ H Q ⟨L, m, ρ, r, e, g⟩ => ?_
  refine lift_bnd r e g fun x p m1 L1 H1 x1 r1 e1 i1 g1 => ?_
  cases i1 with
  | int i => exact ⟨i, rfl, Go.ret (a := some i) g1 r1⟩
  | _ => exact False.elim g1
theorem IsAll.cut {K : PySem.W.Frag} {vs : List V} {ps : List P} (h : IsAll K L H vs ps) (lo hi : Option Int) : IsAll K L H (cutV vs lo hi) (cutP ps lo hi) := by
  unfold cutV cutP
  rw [h.length]
  exact (h.drop _).take _
theorem cutP_all {ps : List P} {lo hi : Option Int} (h : HT.sIx ps.length 0 lo = 0 ∧ HT.sIx ps.length ps.length hi = ps.length) : cutP ps lo hi = ps := by
  unfold cutP
  rw [h.1, h.2]; simp
def slV (K : PySem.W.Frag) (W : WX) : V → Option Int → Option Int → Hp → VK → Prop := fun x l h H Q => ∃ (L : List Addr) (m : Hm) (σ : L2.St) (p : P), Rep K L H m ∧ Is K L H x p ∧ Go K W σ L H (slP p l h m) fun z _ L' H' => ∀ v, Is K L' H' v z → Q v H'
theorem sl_all : SlR X (slV X.K W) := by
  intro pins s σ H x v vl vu lo hi sl Q I rx hs pl pu ⟨L, m, σ', p, r, ip, g⟩
  cases ip with
  | @tup a vs ps h1 h2 =>
    refine sl_tupA pins s σ H _ v vl vu lo hi sl Q I rx hs pl pu ⟨a, vs, rfl, .inl (.inl h1), fun e => ?_, fun e => go_tup r (h2.cut lo hi) g⟩
    rw [h2.length] at e
    have g : Go X.K W σ' L H (ret (P.tup (cutP ps lo hi)) m) _ := g
    rw [cutP_all e] at g
    exact Go.ret (a := P.tup ps) g r _ (.tup h1 h2)
  | @ref a n h =>
    obtain ⟨o, e1, g⟩ := Go.getO g
    cases o with
    | lst ps =>
      obtain ⟨vs, k1, k2⟩ := r.lst h e1
      exact sl_list pins s σ H _ v vl vu lo hi sl Q I rx hs pl pu ⟨a, vs, rfl, .of k1, go_new r (k2.cut lo hi) g⟩
    | _ => exact False.elim g
  | _ => exact False.elim g
theorem pd_sl {e : Expr} {lo hi : Option Expr} {d : D} {dl dh : OD} {pos p2 : Pos} (he : PDE X W e d) (hl : PDO X W lo dl) (hh : PDO X W hi dh) : PDE X W (.Subscript e (.Slice lo hi none p2) pos) (dSl d dl dh) := by
  refine pe_weak (pe_slice (sl_all (W := W)) he hl hh) fun σ H Q ⟨L, m, ρ, r, e, g⟩ => ?_
  refine lift_bnd r e g fun x p m1 L1 H1 x1 r1 e1 i1 g1 => ?_
  refine ⟨L1, m1, ρ, r1, e1, g1.bnd.imp fun l m2 L2 H2 _ x2 r2 g2 => ?_⟩
  refine ⟨L2, m2, ρ, r2, e1.mono r1 x2, g2.bnd.imp fun h m3 L3 H3 _ x3 r3 g3 => ?_⟩
  exact ⟨L3, m3, σ, p, r3, (i1.mono r1 x2).mono r2 x3, g3⟩
theorem pd_rev {e : Expr} {d : D} {k : Nat} {pos p1 p2 p3 : Pos} (he : PDE X W e d) : PDE X W (.Subscript e (.Slice none none (some (.UnaryOp .USub (.Constant (.int 1) k p1) p2)) p3) pos) (dRev d) := by
  refine pe_weak (pe_revL he) fun σ H Q ⟨L, m, ρ, r, e, g⟩ => ?_
  refine lift_bnd r e g fun x p m1 L1 H1 x1 r1 e1 i1 g1 => ?_
  cases i1 with
  | @ref a n h =>
    obtain ⟨o, e2, g2⟩ := Go.getO g1
    cases o with
    | lst ps =>
      obtain ⟨vs, k1, k2⟩ := r1.lst h e2
      exact ⟨a, vs, rfl, .of k1, go_new r1 k2.reverse g2⟩
    | _ => exact False.elim g2
  | _ => exact False.elim g1
theorem pdl_rev {e : Expr} {d : LD} {k : Nat} {pos p1 p2 p3 : Pos} (he : PDL X W e d) : PDL X W (.Subscript e (.Slice none none (some (.UnaryOp .USub (.Constant (.int 1) k p1) p2)) p3) pos) (lRev d) := by
  refine pe_weak (pe_revL he) fun σ H Q ⟨L, m, ρ, r, e, g⟩ => ?_
  refine liftL_bnd r e g fun a vs ps m1 L1 H1 x1 r1 e1 h0 h1 h2 h3 g1 => ?_
  refine ⟨a, vs, rfl, .of h1, fun p hp => ?_⟩
  have hn : H p = none := by
    cases q : H p with
    | none => rfl
    | some u => exact absurd hp (x1.grow p (by rw [q]; simp))
  exact g1 L1 (upd H1 p (.lst vs.reverse)) (x1.trans (ext_new hp)) (r1.mono_new hp) p _ hn upd_same (r1.new hp) (h3.reverse.stay (stay_new hp))
end
end G

/-! G6: built-in functions, methods. -/
namespace G
open PySem PySem.Spec L2
section
variable {X : Cx} {W : WX} {a b c e i o : Expr} {es : List Expr} {pos p1 p2 : Pos}
/-- a built-in of values -/
def cOf (K : PySem.W.Frag) (W : WX) (f : List P → M P) : List V → Hp → VK → Prop := fun xs H Q => ∃ (L : List Addr) (m : Hm) (σ : L2.St) (ps : List P), Rep K L H m ∧ IsAll K L H xs ps ∧ Go K W σ L H (f ps m) fun z _ L' H' => ∀ v, Is K L' H' v z → Q v H'
theorem liftC {K : PySem.W.Frag} {f : List P → M P} {da : A} {σ : L2.St} {H : Hp} {Q : VK} (h : lift K W (dCall f da) σ H Q) : tCB (cOf K W f) (liftA K W da) σ H Q := by
  obtain ⟨L, m, ρ, r, e, g⟩ := h
  exact liftA_bnd r e g fun xs ps m1 L1 H1 x1 r1 e1 i1 g1 => ⟨L1, m1, σ, ps, r1, i1, g1⟩
theorem pd_callB {f : List P → M P} {da : A} {x : Str} {id : String} (hc : CallR X (.builtin id) (cOf X.K W f)) (hm : X.mg x = none) (ha : PDA X W (e :: es) da) (hg : Gl X x := by rfl) (hv : bootBuiltins x = some (.builtin id) := by decide +kernel) (hn : x ≠ "__name__" := by decide) (hdb : (x == ("__debug__" : Str)) = false := by decide)
    (he : starEach (e :: es) X.env = (false, eval e X.env) :: starEach es X.env := by rfl) (hpl : (backTo pos (starEach es X.env)).any (·.1) = false := by rfl) : PDE X W (.Call (.Name x p1) (e :: es) [] pos) (dCall f da) :=
  pe_weak (pe_callB hc hg hm hv ha hn hdb he hpl) fun _ _ _ h => liftC h
theorem pd_callTy {f : List P → M P} {da : A} {x : Str} {id : String} (hc : CallR X (.type id) (cOf X.K W f)) (hm : X.mg x = none) (ha : PDA X W (e :: es) da) (hg : Gl X x := by rfl) (hv : bootBuiltins x = some (.type id) := by decide +kernel) (hn : x ≠ "__name__" := by decide) (hdb : (x == ("__debug__" : Str)) = false := by decide)
    (he : starEach (e :: es) X.env = (false, eval e X.env) :: starEach es X.env := by rfl) (hpl : (backTo pos (starEach es X.env)).any (·.1) = false := by rfl) : PDE X W (.Call (.Name x p1) (e :: es) [] pos) (dCall f da) :=
  pe_weak (pe_callTy hc hg hm hv ha hn hdb he hpl) fun _ _ _ h => liftC h
theorem IsAll.one {K : PySem.W.Frag} {L : List Addr} {H : Hp} {xs : List V} {p : P} (h : IsAll K L H xs [p]) : ∃ v, xs = [v] ∧ Is K L H v p := by
  cases h with
  | cons h1 h2 => cases h2; exact ⟨_, rfl, h1⟩
theorem IsAll.two {K : PySem.W.Frag} {L : List Addr} {H : Hp} {xs : List V} {p q : P} (h : IsAll K L H xs [p, q]) : ∃ v w, xs = [v, w] ∧ Is K L H v p ∧ Is K L H w q := by
  cases h with
  | cons h1 h2 => cases h2 with
    | cons h3 h4 => cases h4; exact ⟨_, _, rfl, h1, h3⟩
/-- one argument -/
theorem call1 {f : P → M P} {T : Value} (h : ∀ (pins : List (Addr × Obj)) (s : Shared) (σ : L2.St) (H : Hp) (v : V) (us : List Value) (Q : VK) (L : List Addr) (m : Hm) (σ' : L2.St) (p : P), Inv X pins σ H s → Vals [v] us → Rep X.K L H m → Is X.K L H v p → Go X.K W σ' L H (f p m) (fun z _ L' H' => ∀ v, Is X.K L' H' v z → Q v H') → wpAny (model X.prog X.w) X.A (call T us) (EP X pins σ Q) X.xe s) : CallR X T (cOf X.K W (one f)) := by
  intro pins s σ H xs us Q I rv ⟨L, m, σ', ps, r, i, g⟩
  cases ps with
  | nil => exact False.elim g
  | cons p ps =>
    cases ps with
    | nil =>
      obtain ⟨v, rfl, iv⟩ := i.one
      exact h pins s σ H v us Q L m σ' p I rv r iv g
    | cons _ _ => exact False.elim g
theorem call2 {f : P → P → M P} {T : Value} (h : ∀ (pins : List (Addr × Obj)) (s : Shared) (σ : L2.St) (H : Hp) (v w : V) (us : List Value) (Q : VK) (L : List Addr) (m : Hm) (σ' : L2.St) (p q : P), Inv X pins σ H s → Vals [v, w] us → Rep X.K L H m → Is X.K L H v p → Is X.K L H w q → Go X.K W σ' L H (f p q m) (fun z _ L' H' => ∀ v, Is X.K L' H' v z → Q v H') → wpAny (model X.prog X.w) X.A (call T us) (EP X pins σ Q) X.xe s) : CallR X T (cOf X.K W (two f)) := by
  intro pins s σ H xs us Q I rv ⟨L, m, σ', ps, r, i, g⟩
  cases ps with
  | nil => exact False.elim g
  | cons p ps =>
    cases ps with
    | nil => exact False.elim g
    | cons q ps =>
      cases ps with
      | nil =>
        obtain ⟨v, w, rfl, iv, iw⟩ := i.two
        exact h pins s σ H v w us Q L m σ' p q I rv r iv iw g
      | cons _ _ => exact False.elim g
theorem cb_abs : CallR X (.builtin "abs") (cOf X.K W (one bAbs)) := call1 fun pins s σ H v us Q L m σ' p I rv r i g => by
  cases i with
  | int i => exact call_abs pins s σ H _ us Q I rv ⟨i, rfl, Go.ret (a := P.int (if i < 0 then -i else i)) g r _ (.int _)⟩
  | _ => exact False.elim g
theorem cb_int : CallR X (.type "int") (cOf X.K W (one bInt)) := call1 fun pins s σ H v us Q L m σ' p I rv r i g => by
  cases i with
  | int i => exact call_int1 pins s σ H _ us Q I rv (.inl ⟨i, rfl, Go.ret (a := P.int i) g r _ (.int _)⟩)
  | bl b => exact call_int1 pins s σ H _ us Q I rv (.inr ⟨b, rfl, Go.ret (a := P.int (if b then 1 else 0)) g r _ (.int _)⟩)
  | _ => exact False.elim g
theorem cb_max2 (ok : Cok X) : CallR X (.builtin "max") (cOf X.K W (two bMax2)) := call2 fun pins s σ H v w us Q L m σ' p q I rv r i j g => by
  cases i with
  | int i =>
    cases j with
    | int j => exact call_max2 ok.calm pins s σ H _ us Q I rv ⟨i, j, rfl, Go.ret (a := P.int (if j > i then j else i)) g r _ (.int _)⟩
    | _ => exact False.elim g
  | _ => exact False.elim g
theorem cb_min2 (ok : Cok X) : CallR X (.builtin "min") (cOf X.K W (two bMin2)) := call2 fun pins s σ H v w us Q L m σ' p q I rv r i j g => by
  cases i with
  | int i =>
    cases j with
    | int j => exact call_min2 ok.calm pins s σ H _ us Q I rv ⟨i, j, rfl, Go.ret (a := P.int (if j < i then j else i)) g r _ (.int _)⟩
    | _ => exact False.elim g
  | _ => exact False.elim g
theorem cb_len : CallR X (.builtin "len") (cOf X.K W (one bLen)) := call1 fun pins s σ H v us Q L m σ' p I rv r i g => by
  cases i with
  | str z =>
    have g : Go X.K W σ' L H (when_ (decide (z.length ≤ SZ)) (ret (P.int z.length)) m) _ := g
    obtain ⟨b, g2⟩ := g.when_
    exact call_len pins s σ H _ us Q I rv ⟨_, z.length, rfl, ⟨of_decide_eq_true b, rfl⟩, Go.ret (a := P.int z.length) g2 r _ (.int _)⟩
  | @tup a vs ps h1 h2 => exact call_len pins s σ H _ us Q I rv ⟨_, vs.length, rfl, .inr ⟨vs, .inl (.inl h1), rfl⟩, by rw [h2.length]; exact Go.ret (a := P.int ps.length) g r _ (.int _)⟩
  | @scr a vs ps h1 h2 => exact call_len pins s σ H _ us Q I rv ⟨_, vs.length, rfl, .inl ⟨vs, SqL_of_frz h1, rfl⟩, by rw [h2.length]; exact Go.ret (a := P.int ps.length) g r _ (.int _)⟩
  | @ref a n h =>
    obtain ⟨ob, e1, g⟩ := Go.getO g
    cases ob with
    | lst ps =>
      obtain ⟨vs, k1, k2⟩ := r.lst h e1
      exact call_len pins s σ H _ us Q I rv ⟨_, vs.length, rfl, .inl ⟨vs, .of k1, rfl⟩, by rw [k2.length]; exact Go.ret (a := P.int ps.length) g r _ (.int _)⟩
    | dK kvs =>
      obtain ⟨ws, k1, k2⟩ := r.obj n a _ h e1
      exact call_lenD pins s σ H _ us Q I rv ⟨a, ws, rfl, k1, by rw [k2.length]; exact Go.ret (a := P.int kvs.length) g r _ (.int _)⟩
    | _ => exact False.elim g
  | _ => exact False.elim g

/-! ### over the items of a list or tuple -/
/-- v is a list or tuple of ps -/
def SeqV (K : PySem.W.Frag) (L : List Addr) (H : Hp) (v : V) (ps : List P) : Prop := ∃ a vs, v = .ref a ∧ (SqL K H a vs ∨ SqT K H a vs) ∧ IsAll K L H vs ps
def SeqL (K : PySem.W.Frag) (L : List Addr) (H : Hp) (v : V) (ps : List P) : Prop := ∃ a vs, v = .ref a ∧ SqL K H a vs ∧ IsAll K L H vs ps
def nOf (K : PySem.W.Frag) (W : WX) (S : PySem.W.Frag → List Addr → Hp → V → List P → Prop) (f : List P → M P) : List V → Hp → VK → Prop := fun xs H Q => ∃ (L : List Addr) (m : Hm) (σ : L2.St) (v : V) (ps : List P), xs = [v] ∧ Rep K L H m ∧ S K L H v ps ∧ Go K W σ L H (f ps m) fun z _ L' H' => ∀ v, Is K L' H' v z → Q v H'
theorem KT.sq {K : PySem.W.Frag} {H : Hp} {a : Addr} {vs : List V} (h : KT K a vs) : SqT K H a vs := .inr h
/-- the items of a value -/
theorem Go.items {K : PySem.W.Frag} {L : List Addr} {H : Hp} {m : Hm} {σ : L2.St} {p : P} {v : V} {β : Type} {f : List P → M β} {F : β → Hm → List Addr → Hp → Prop} (r : Rep K L H m) (i : Is K L H v p) (g : Go K W σ L H (G.bnd (G.items p) f m) F) :
    ∃ ps, SeqV K L H v ps ∧ Go K W σ L H (f ps m) F := by
  cases i with
  | @tup a vs ps h1 h2 => exact ⟨ps, ⟨a, vs, rfl, .inr (.inl (.inl h1)), h2⟩, g⟩
  | @kt a vs ps h1 h2 => exact ⟨ps, ⟨a, vs, rfl, .inr h1.sq, h2⟩, g⟩
  | @scr a vs ps h1 h2 => exact ⟨ps, ⟨a, vs, rfl, .inl (SqL_of_frz h1), h2⟩, g⟩
  | @ref a n h =>
    obtain ⟨ob, e1, g⟩ := Go.getO (show Go K W σ L H (G.getO n (fun o => G.bnd ((fun o => match o with
      | .lst ps => G.ret ps
      | _ => bad) o) f) m) F from by
        unfold G.items G.bnd G.getO at g
        unfold G.bnd G.getO
        cases e : m[n]? with
        | none => simp only [e] at g; exact False.elim g
        | some o => simp only [e] at g ⊢; exact g)
    cases ob with
    | lst ps =>
      obtain ⟨vs, k1, k2⟩ := r.lst h e1
      exact ⟨ps, ⟨a, vs, rfl, .inl (.of k1), k2⟩, g⟩
    | _ => exact False.elim g
  | _ => exact False.elim g
theorem SeqL.seq {K : PySem.W.Frag} {L : List Addr} {H : Hp} {v : V} {ps : List P} (h : SeqL K L H v ps) : SeqV K L H v ps := let ⟨a, vs, e, h1, h2⟩ := h; ⟨a, vs, e, .inl h1, h2⟩
theorem nOf.toL {X : Cx} {T : Value} {f : List P → M P} (h : CallR X T (nOf X.K W SeqV f)) : CallR X T (nOf X.K W SeqL f) := by
  intro pins s σ H xs us Q I rv ⟨L, m, σ', v, ps, e, r, i, g⟩
  exact h pins s σ H xs us Q I rv ⟨L, m, σ', v, ps, e, r, i.seq, g⟩
/-- f of a list that no one holds; of a value -/
theorem pd_nL {f : List P → M P} {l : LD} {x : Str} {T : Value} (hc : CallR X T (nOf X.K W SeqL f)) (hT : (∃ id, T = .builtin id) ∨ ∃ id, T = .type id) (hm : X.mg x = none) (hl : PDL X W e l) (hg : Gl X x := by rfl) (hv : bootBuiltins x = some T := by decide +kernel) (hn : x ≠ "__name__" := by decide) (hdb : (x == ("__debug__" : Str)) = false := by decide)
    (he : starEach [e] X.env = (false, eval e X.env) :: starEach [] X.env := by rfl) : PDE X W (.Call (.Name x p1) [e] [] pos) (dL f l) := by
  have w : ∀ σ H Q, lift X.K W (dL f l) σ H Q → tCB (nOf X.K W SeqL f) (tCons (liftL X.K W l) tNil) σ H Q := fun σ H Q ⟨L, m, ρ, r, e, g⟩ => show liftL X.K W l σ H (fun x H1 => nOf X.K W SeqL f [x] H1 Q) from
    liftL_bnd r e g fun a vs ps m1 L1 H1 x1 r1 e1 h0 h1 h2 h3 g1 => ⟨L1, m1, σ, _, ps, rfl, r1, ⟨a, vs, rfl, .of h1, h3⟩, g1.mono x1⟩
  rcases hT with ⟨id, rfl⟩ | ⟨id, rfl⟩
  · exact pe_weak (pe_callB hc hg hm hv (pa_cons hl pa_nil he) hn hdb he rfl) w
  · exact pe_weak (pe_callTy hc hg hm hv (pa_cons hl pa_nil he) hn hdb he rfl) w
theorem pd_nV {f : List P → M P} {d : D} {x : Str} {T : Value} (hc : CallR X T (nOf X.K W SeqV f)) (hT : (∃ id, T = .builtin id) ∨ ∃ id, T = .type id) (hm : X.mg x = none) (hl : PDE X W e d) (hg : Gl X x := by rfl) (hv : bootBuiltins x = some T := by decide +kernel) (hn : x ≠ "__name__" := by decide) (hdb : (x == ("__debug__" : Str)) = false := by decide)
    (he : starEach [e] X.env = (false, eval e X.env) :: starEach [] X.env := by rfl) : PDE X W (.Call (.Name x p1) [e] [] pos) (dV f d) := by
  have w : ∀ σ H Q, lift X.K W (dV f d) σ H Q → tCB (nOf X.K W SeqV f) (tCons (lift X.K W d) tNil) σ H Q := fun σ H Q ⟨L, m, ρ, r, e, g⟩ => show lift X.K W d σ H (fun x H1 => nOf X.K W SeqV f [x] H1 Q) from
    lift_bnd r e g fun x p m1 L1 H1 x1 r1 e1 i1 g1 => by
      obtain ⟨ps, sv, g2⟩ := Go.items r1 i1 g1
      exact ⟨L1, m1, σ, _, ps, rfl, r1, sv, g2⟩
  rcases hT with ⟨id, rfl⟩ | ⟨id, rfl⟩
  · exact pe_weak (pe_callB hc hg hm hv (pa_cons hl pa_nil he) hn hdb he rfl) w
  · exact pe_weak (pe_callTy hc hg hm hv (pa_cons hl pa_nil he) hn hdb he rfl) w
theorem ints_is {K : PySem.W.Frag} {L : List Addr} {H : Hp} : ∀ {ps : List P} {vs : List V} {l : List Int}, IsAll K L H vs ps → intsOf ps = some l → vs = l.map V.int
  | [], _, _, .nil, e => by cases e; rfl
  | .int i :: ps, _, l, .cons h1 h2, e => by
    unfold intsOf at e
    split at e
    · rename_i l' hl
      cases e; cases h1
      rw [List.map_cons, ints_is h2 hl]
    · cases e
theorem bls_is {K : PySem.W.Frag} {L : List Addr} {H : Hp} : ∀ {ps : List P} {vs : List V} {l : List Bool}, IsAll K L H vs ps → bls ps = some l → vs = l.map V.bl
  | [], _, _, .nil, e => by cases e; rfl
  | .bl i :: ps, _, l, .cons h1 h2, e => by
    unfold bls at e
    split at e
    · rename_i l' hl
      cases e; cases h1
      rw [List.map_cons, bls_is h2 hl]
    · cases e
theorem Go.optB {α β : Type} {K : PySem.W.Frag} {L : List Addr} {H : Hp} {m : Hm} {σ : L2.St} {o : Option α} {f : α → M β} {F : β → Hm → List Addr → Hp → Prop} (g : Go K W σ L H (G.bnd (G.opt o) f m) F) : ∃ a, o = some a ∧ Go K W σ L H (f a m) F := by
  cases o with
  | some a => exact ⟨a, rfl, g⟩
  | none => exact False.elim g
theorem cn_sum (ok : Cok X) : CallR X (.builtin "sum") (nOf X.K W SeqL nSum) := by
  intro pins s σ H xs us Q I rv ⟨L, m, σ', v, ps, e, r, ⟨a, vs, ev, h1, h2⟩, g⟩
  subst e ev
  obtain ⟨l, e, g⟩ := Go.optB g
  obtain rfl := ints_is h2 e
  exact cr_sum ok.calm pins s σ H _ us Q I rv ⟨a, l, rfl, h1, Go.ret (a := P.int l.sum) g r _ (.int _)⟩
theorem cn_any (ok : Cok X) : CallR X (.builtin "any") (nOf X.K W SeqL nAny) := by
  intro pins s σ H xs us Q I rv ⟨L, m, σ', v, ps, e, r, ⟨a, vs, ev, h1, h2⟩, g⟩
  subst e ev
  obtain ⟨l, e, g⟩ := Go.optB g
  obtain rfl := bls_is h2 e
  exact cr_any ok.calm pins s σ H _ us Q I rv ⟨a, l, rfl, h1, Go.ret (a := P.bl (l.any id)) g r _ (.bl _)⟩
theorem cn_all (ok : Cok X) : CallR X (.builtin "all") (nOf X.K W SeqL nAll) := by
  intro pins s σ H xs us Q I rv ⟨L, m, σ', v, ps, e, r, ⟨a, vs, ev, h1, h2⟩, g⟩
  subst e ev
  obtain ⟨l, e, g⟩ := Go.optB g
  obtain rfl := bls_is h2 e
  exact cr_all ok.calm pins s σ H _ us Q I rv ⟨a, l, rfl, h1, Go.ret (a := P.bl (l.all id)) g r _ (.bl _)⟩
theorem iMax_ge : ∀ (l : List Int) (i : Int), i ≤ iMax i l ∧ ∀ j ∈ l, j ≤ iMax i l
  | [], i => ⟨Int.le_refl i, fun _ h => nomatch h⟩
  | x :: l, i => by
    have ih := iMax_ge l (if x > i then x else i)
    have e : iMax i (x :: l) = iMax (if x > i then x else i) l := rfl
    rw [e]
    refine ⟨?_, fun j hj => ?_⟩
    · refine Int.le_trans ?_ ih.1
      split <;> omega
    · rcases List.mem_cons.mp hj with rfl | hj
      · refine Int.le_trans ?_ ih.1
        split <;> omega
      · exact ih.2 j hj
theorem iMax_mem : ∀ (l : List Int) (i : Int), iMax i l ∈ i :: l
  | [], i => List.mem_cons_self
  | x :: l, i => by
    have ih := iMax_mem l (if x > i then x else i)
    have e : iMax i (x :: l) = iMax (if x > i then x else i) l := rfl
    rw [e]
    rcases List.mem_cons.mp ih with h | h
    · rw [h]
      split
      · exact List.mem_cons_of_mem _ List.mem_cons_self
      · exact List.mem_cons_self
    · exact List.mem_cons_of_mem _ (List.mem_cons_of_mem _ h)
theorem iMin_le : ∀ (l : List Int) (i : Int), iMin i l ≤ i ∧ ∀ j ∈ l, iMin i l ≤ j
  | [], i => ⟨Int.le_refl i, fun _ h => nomatch h⟩
  | x :: l, i => by
    have ih := iMin_le l (if x < i then x else i)
    have e : iMin i (x :: l) = iMin (if x < i then x else i) l := rfl
    rw [e]
    refine ⟨?_, fun j hj => ?_⟩
    · refine Int.le_trans ih.1 ?_
      split <;> omega
    · rcases List.mem_cons.mp hj with rfl | hj
      · refine Int.le_trans ih.1 ?_
        split <;> omega
      · exact ih.2 j hj
theorem iMin_mem : ∀ (l : List Int) (i : Int), iMin i l ∈ i :: l
  | [], i => List.mem_cons_self
  | x :: l, i => by
    have ih := iMin_mem l (if x < i then x else i)
    have e : iMin i (x :: l) = iMin (if x < i then x else i) l := rfl
    rw [e]
    rcases List.mem_cons.mp ih with h | h
    · rw [h]
      split
      · exact List.mem_cons_of_mem _ List.mem_cons_self
      · exact List.mem_cons_self
    · exact List.mem_cons_of_mem _ (List.mem_cons_of_mem _ h)
theorem cn_max (ok : Cok X) : CallR X (.builtin "max") (nOf X.K W SeqL nMax) := by
  intro pins s σ H xs us Q I rv ⟨L, m, σ', v, ps, e, r, ⟨a, vs, ev, h1, h2⟩, g⟩
  subst e ev
  obtain ⟨l, e, g⟩ := Go.optB g
  obtain rfl := ints_is h2 e
  cases l with
  | nil => exact False.elim g
  | cons i l =>
    refine cr_max ok.calm pins s σ H _ us Q I rv ⟨a, i :: l, rfl, h1, Nat.succ_pos _, fun k hk hle => ?_⟩
    have e : k = iMax i l := by
      have g1 := iMax_ge l i
      have h3 : k ≤ iMax i l := by
        rcases List.mem_cons.mp hk with rfl | h
        · exact g1.1
        · exact g1.2 k h
      exact Int.le_antisymm h3 (hle _ (iMax_mem l i))
    rw [e]
    exact Go.ret (a := P.int (iMax i l)) g r _ (.int _)
theorem cn_min (ok : Cok X) : CallR X (.builtin "min") (nOf X.K W SeqL nMin) := by
  intro pins s σ H xs us Q I rv ⟨L, m, σ', v, ps, e, r, ⟨a, vs, ev, h1, h2⟩, g⟩
  subst e ev
  obtain ⟨l, e, g⟩ := Go.optB g
  obtain rfl := ints_is h2 e
  cases l with
  | nil => exact False.elim g
  | cons i l =>
    refine cr_min ok.calm pins s σ H _ us Q I rv ⟨a, i :: l, rfl, h1, Nat.succ_pos _, fun k hk hle => ?_⟩
    have e : k = iMin i l := by
      have g1 := iMin_le l i
      have h3 : iMin i l ≤ k := by
        rcases List.mem_cons.mp hk with rfl | h
        · exact g1.1
        · exact g1.2 k h
      exact Int.le_antisymm (hle _ (iMin_mem l i)) h3
    rw [e]
    exact Go.ret (a := P.int (iMin i l)) g r _ (.int _)
theorem cn_len : CallR X (.builtin "len") (nOf X.K W SeqV nLen) := by
  intro pins s σ H xs us Q I rv ⟨L, m, σ', v, ps, e, r, ⟨a, vs, ev, h1, h2⟩, g⟩
  subst e ev
  exact call_len_seq pins s σ H _ us Q I rv ⟨a, vs, rfl, h1, by rw [h2.length]; exact Go.ret (a := P.int ps.length) g r _ (.int _)⟩
theorem cn_tup : CallR X (.type "tuple") (nOf X.K W SeqL nTup) := by
  intro pins s σ H xs us Q I rv ⟨L, m, σ', v, ps, e, r, ⟨a, vs, ev, h1, h2⟩, g⟩
  subst e ev
  exact call_tuple_of pins s σ H _ us Q I rv ⟨a, vs, rfl, .inl ⟨h1, go_tup r h2 g⟩⟩
/-- tuple(x), x any -/
theorem cb_tup : CallR X (.type "tuple") (cOf X.K W (one bTup)) := call1 fun pins s σ H v us Q L m σ' p I rv r i g => by
  cases i with
  | @tup a vs ps h1 h2 => exact call_tuple_of pins s σ H _ us Q I rv ⟨a, vs, rfl, .inr ⟨.inl (.inl h1), Go.ret (a := P.tup ps) g r _ (.tup h1 h2)⟩⟩
  | @scr a vs ps h1 h2 => exact call_tuple_of pins s σ H _ us Q I rv ⟨a, vs, rfl, .inl ⟨SqL_of_frz h1, go_tup r h2 g⟩⟩
  | @ref a n h =>
    obtain ⟨ob, e1, g⟩ := Go.getO g
    cases ob with
    | lst ps =>
      obtain ⟨vs, k1, k2⟩ := r.lst h e1
      exact call_tuple_of pins s σ H _ us Q I rv ⟨a, vs, rfl, .inl ⟨.of k1, go_tup r k2 g⟩⟩
    | _ => exact False.elim g
  | _ => exact False.elim g
end
end G

/-! G7: sorted, list(..), repr, methods of lists. -/
namespace G
section
open PySem PySem.Calls PyProof.Rows PySem.W
variable {prog : Program} {w : World} {A : Around} {E : Value → Shared → Prop} {s : Shared}
theorem collectT {l : Addr} {vs : List Value} {Q : List Value → Shared → Prop} (hl : IsTup s.heap l vs.toArray) (h : Q vs { s with heap := (s.heap.push (seqObj "list" #[] 0)).update s.heap.objs.size (Obj.mapSeq (· ++ vs.toArray)) }) (hsz : vs.length ≤ sizeLine) :
    wpAny (model prog w) A (collect (.ref l)) Q E s := by
  obtain ⟨o, ho, hc, n, hd⟩ := id hl
  unfold collect
  refine wpAny_bind (wpAny_runValue (codeAny_builtin entry_proto_collect' (show wpAny _ _ (do again (.builtin "list.__iadd__" ⟨[← newList [], .ref l], []⟩)) _ _ s from wpAny_bind (wpAny_newList (wpAny_pure ⟨Code.quiet_builtin _ (by decide +kernel), codeAny_builtin entry_list_iadd' ?_⟩)))))
  show wpAny _ _ (Builtin.List.listExtendWith (.ref s.heap.objs.size) (.ref l) (.ref s.heap.objs.size)) _ _ { s with heap := s.heap.push (seqObj "list" #[] 0) }
  unfold Builtin.List.listExtendWith
  have ho' := Heap.get?_push_of_some (seqObj "list" #[] 0) ho
  have ht : (Value.type "tuple" == Value.type "tuple") = true := by rfl
  refine wpAny_bind (wpAny_typeOf (T := "tuple") ⟨o, ho', hc⟩ ?_)
  rw [if_pos (by rw [ht]; simp)]
  refine wpAny_bind (listItems_at ho' hd (wpAny_bind (listItems_at (xs := #[]) (n := 0) (Heap.get?_push_size _ rfl) rfl ?_)))
  rw [if_neg (by simp)]
  refine wpAny_bind (listUpdate_at (xs := #[]) (n := 0) (Heap.get?_push_size _ rfl) rfl (wpAny_pure ?_) (Nat.zero_le _) (by simp only [Array.size_append, List.size_toArray, List.length_nil]; omega))
  refine wpAny_bind (wpAny_load (get?_update_seq (Heap.get?_push_size _ rfl) _) ?_)
  have e : ((#[] : Array Value) ++ vs.toArray).toList = vs := by simp
  show wpAny _ _ (pure ((#[] : Array Value) ++ vs.toArray).toList) Q E _
  rw [e]
  exact wpAny_pure h
/-- sorted of a tuple -/
theorem sortedT {l : Addr} {vs : List Value} {κ : PyProof.Rows.KeyKind} {Q : Value → Shared → Prop} (hl : IsTup s.heap l vs.toArray) (S : SortsAt prog w A.in1.in1 { s with heap := sortingHeap (copyHeap s.heap vs) (s.heap.objs.size + 1) vs } κ vs) (hL : vs.length ≤ sizeLine)
    (h : Q (.ref (s.heap.objs.size + 1)) { s with heap := sortedAll s.heap vs (sortVals κ false vs vs).toArray }) : wpAny (model prog w) A (call (.builtin "sorted") [.ref l]) Q E s := by
  refine call_function_entry_kw kind_sorted plain_sorted entry_sorted (args_sorted1 _) ?_
  unfold Builtin.«sorted»
  refine wpAny_bind (m := checkCount "sorted" 1 1 _) (wpAny_pure (wpAny_bind (collectT hl (wpAny_bind (wpAny_newList ?_ hL)) hL)))
  show wpAny _ _ _ _ _ { s with heap := copyHeap s.heap vs }
  have hsz : ((s.heap.push (seqObj "list" #[] 0)).update s.heap.objs.size (Obj.mapSeq (· ++ vs.toArray))).objs.size = s.heap.objs.size + 1 := by rw [Heap.size_update, PyProof.Rows.size_push']
  rw [hsz]
  refine wpAny_bind (wpAny_holding (wpAny_call_entry_kw slot_list_sort ⟨_, copyHeap_at s.heap vs, rfl⟩ entry_list_sort ?_ (args_list_sort _)))
  refine wpAny_mono (list_sort_vals (s := { s with heap := copyHeap s.heap vs }) (P := fun f s' => f = .done (.ret .none) ∧ Q (.ref (s.heap.objs.size + 1)) s') (copyHeap_at s.heap vs) S hL ⟨rfl, h⟩) (fun f s' hf => ?_) fun _ _ e => e
  obtain ⟨rfl, hq⟩ := hf
  exact ⟨_, rfl, wpAny_pure ⟨_, rfl, hq⟩⟩
theorem sorted_dataT {β : Type} {R : Value → β → Prop} {enc : β → PyData} {bs : List β} {vs : List Value} {l : Addr} {Q : Value → Shared → Prop} (hl : IsTup s.heap l vs.toArray) (e : EachIs R vs bs) (er : EachIs (fun v b => ∃ as, Reads s.heap v (enc b) as) vs bs) (hal : AllAlike (bs.map enc)) (hk : Sortable (bs.map enc)) (hL : bs.length ≤ sizeLine)
    (hu : ∀ b, b ∈ bs → A.units + 2 + (enc b).depth < cLine) (h : ∀ out, out.length = bs.length → EachIs R out (bs.mergeSort (dataLe false enc)) → Q (.ref (s.heap.objs.size + 1)) { s with heap := sortedAll s.heap vs (List.toArray out) }) :
    wpAny (model prog w) A (call (.builtin "sorted") [.ref l]) Q E s := by
  have er' : EachIs (fun v b => ∃ as, Reads (sortingHeap (copyHeap s.heap vs) (s.heap.objs.size + 1) vs) v (enc b) as) vs bs := er.mono fun _ _ ⟨as, r⟩ => ⟨as, PyProof.Rows.Reads.keeps (fun _ _ => sorting_copy_old) r⟩
  exact sortedT hl (SortsAt.data (each_map (R := fun v d => ∃ as, Reads (sortingHeap (copyHeap s.heap vs) (s.heap.objs.size + 1) vs) v d as) enc er') hal hk (bound_map hu)) (by rw [e.length]; exact hL)
    (h _ (by rw [sortVals_length false rfl]; exact e.length) (sortVals_data false e er' hal))
end
open PySem PySem.Spec L2
section
variable {X : Cx} {W : WX} {a b c e i o : Expr} {es : List Expr} {pos p1 p2 : Pos}
def nOfL (K : PySem.W.Frag) (W : WX) (S : PySem.W.Frag → List Addr → Hp → V → List P → Prop) (f : List P → M (List P)) : List V → Hp → VK → Prop := fun xs H Q => ∃ (L : List Addr) (m : Hm) (σ : L2.St) (v : V) (ps : List P), xs = [v] ∧ Rep K L H m ∧ S K L H v ps ∧ Go K W σ L H (f ps m) fun qs _ L' H' => ∀ a vs, H a = none → H' a = some (.lst vs) → a ∉ L' → IsAll K L' H' vs qs → Q (.ref a) H'
theorem nOfL.toL {X : Cx} {T : Value} {f : List P → M (List P)} (h : CallR X T (nOfL X.K W SeqV f)) : CallR X T (nOfL X.K W SeqL f) := by
  intro pins s σ H xs us Q I rv ⟨L, m, σ', v, ps, e, r, i, g⟩
  exact h pins s σ H xs us Q I rv ⟨L, m, σ', v, ps, e, r, i.seq, g⟩
theorem grow_none {L L' : List Addr} {H H' : Hp} (x : Ext L H L' H') {a : Addr} (h : H' a = none) : H a = none := by
  cases q : H a with
  | none => rfl
  | some u => exact absurd h (x.grow a (by rw [q]; simp))
theorem pdl_nL {f : List P → M (List P)} {l : LD} {x : Str} {T : Value} (hc : CallR X T (nOfL X.K W SeqL f)) (hT : (∃ id, T = .builtin id) ∨ ∃ id, T = .type id) (hm : X.mg x = none) (hl : PDL X W e l) (hg : Gl X x := by rfl) (hv : bootBuiltins x = some T := by decide +kernel) (hn : x ≠ "__name__" := by decide) (hdb : (x == ("__debug__" : Str)) = false := by decide)
    (he : starEach [e] X.env = (false, eval e X.env) :: starEach [] X.env := by rfl) : PDL X W (.Call (.Name x p1) [e] [] pos) (lThen f l) := by
  have w : ∀ σ H Q, liftL X.K W (lThen f l) σ H Q → tCB (nOfL X.K W SeqL f) (tCons (liftL X.K W l) tNil) σ H Q := fun σ H Q ⟨L, m, ρ, r, e, g⟩ => show liftL X.K W l σ H (fun x H1 => nOfL X.K W SeqL f [x] H1 Q) from
    liftL_bnd r e g fun a vs ps m1 L1 H1 x1 r1 e1 h0 h1 h2 h3 g1 => ⟨L1, m1, σ, _, ps, rfl, r1, ⟨a, vs, rfl, .of h1, h3⟩, (g1.mono x1).imp fun qs m2 L2 H2 _ x2 r2 k a vs h4 => k a vs (grow_none x1 h4)⟩
  rcases hT with ⟨id, rfl⟩ | ⟨id, rfl⟩
  · exact pe_weak (pe_callB hc hg hm hv (pa_cons hl pa_nil he) hn hdb he rfl) w
  · exact pe_weak (pe_callTy hc hg hm hv (pa_cons hl pa_nil he) hn hdb he rfl) w
theorem pdl_nV {f : List P → M (List P)} {d : D} {x : Str} {T : Value} (hc : CallR X T (nOfL X.K W SeqV f)) (hT : (∃ id, T = .builtin id) ∨ ∃ id, T = .type id) (hm : X.mg x = none) (hl : PDE X W e d) (hg : Gl X x := by rfl) (hv : bootBuiltins x = some T := by decide +kernel) (hn : x ≠ "__name__" := by decide) (hdb : (x == ("__debug__" : Str)) = false := by decide)
    (he : starEach [e] X.env = (false, eval e X.env) :: starEach [] X.env := by rfl) : PDL X W (.Call (.Name x p1) [e] [] pos) (lV f d) := by
  have w : ∀ σ H Q, liftL X.K W (lV f d) σ H Q → tCB (nOfL X.K W SeqV f) (tCons (lift X.K W d) tNil) σ H Q := fun σ H Q ⟨L, m, ρ, r, e, g⟩ => show lift X.K W d σ H (fun x H1 => nOfL X.K W SeqV f [x] H1 Q) from
    lift_bnd r e g fun x p m1 L1 H1 x1 r1 e1 i1 g1 => by
      obtain ⟨ps, sv, g2⟩ := Go.items r1 i1 g1
      exact ⟨L1, m1, σ, _, ps, rfl, r1, sv, g2.imp fun qs m2 L2 H2 _ x2 r2 k a vs h4 => k a vs (grow_none x1 h4)⟩
  rcases hT with ⟨id, rfl⟩ | ⟨id, rfl⟩
  · exact pe_weak (pe_callB hc hg hm hv (pa_cons hl pa_nil he) hn hdb he rfl) w
  · exact pe_weak (pe_callTy hc hg hm hv (pa_cons hl pa_nil he) hn hdb he rfl) w
theorem go_newL {K : PySem.W.Frag} {L : List Addr} {H : Hp} {m : Hm} {σ : L2.St} {ps : List P} {vs : List V} {Q : VK} (r : Rep K L H m) (h : IsAll K L H vs ps) (g : Go K W σ L H (ret ps m) fun qs _ L' H' => ∀ a vs, H a = none → H' a = some (.lst vs) → a ∉ L' → IsAll K L' H' vs qs → Q (.ref a) H') :
    ∀ p, H p = none → Q (.ref p) (upd H p (.lst vs)) := fun p hp => g L (upd H p (.lst vs)) (ext_new hp) (r.mono_new hp) p vs hp upd_same (r.new hp) (h.stay (stay_new hp))
theorem cl_list : CallR X (.type "list") (nOfL X.K W SeqV lId) := by
  intro pins s σ H xs us Q I rv ⟨L, m, σ', v, ps, e, r, ⟨a, vs, ev, h1, h2⟩, g⟩
  subst e ev
  exact call_list_of pins s σ H _ us Q I rv ⟨a, vs, rfl, h1, go_newL r h2 g⟩

/-! ### sorted -/
theorem mapO_some {α β : Type} {g : α → Option β} : ∀ {l : List α} {r : List β}, mapO g l = some r → PySem.W.EachIs (fun a b => g a = some b) l r
  | [], _, e => by cases e; exact .nil
  | a :: l, r, e => by
    unfold mapO at e
    split at e
    · rename_i b hb
      split at e
      · rename_i bs hbs
        cases e
        exact .cons hb (mapO_some hbs)
      · cases e
    · cases e
theorem each_back {K : PySem.W.Frag} {L : List Addr} {H : Hp} {R : Value → P × PyData → Prop} (hR : ∀ u b, R u b → ∃ v, RelV v u ∧ Is K L H v b.1) : ∀ {us : List Value} {bs : List (P × PyData)}, PySem.W.EachIs R us bs → ∃ vs, Vals vs us ∧ IsAll K L H vs (bs.map (·.1))
  | _, _, .nil => ⟨[], .nil, .nil⟩
  | _, _, .cons h t => by
    obtain ⟨v, h1, h2⟩ := hR _ _ h
    obtain ⟨vs, h3, h4⟩ := each_back hR t
    exact ⟨v :: vs, .cons h1 h3, .cons h2 h4⟩
theorem each_fwd {K : PySem.W.Frag} {L : List Addr} {H : Hp} {m : Hm} : ∀ {vs : List V} {us : List Value} {ps : List P} {bs : List (P × PyData)}, Vals vs us → IsAll K L H vs ps → PySem.W.EachIs (fun p b => ((dat m DD p).map fun d => (p, d)) = some b) ps bs →
    PySem.W.EachIs (fun u b => ∃ v, RelV v u ∧ Is K L H v b.1 ∧ dat m DD b.1 = some b.2) us bs
  | _, _, _, _, .nil, .nil, .nil => .nil
  | _, _, _, _, .cons r t, .cons i j, .cons h k => by
    refine .cons ?_ (each_fwd t j k)
    obtain ⟨d, e, rfl⟩ := Option.map_eq_some_iff.mp h
    exact ⟨_, r, i, e⟩
theorem each_right {α β : Type} {R : α → β → Prop} : ∀ {as : List α} {bs : List β}, PySem.W.EachIs R as bs → ∀ b, b ∈ bs → ∃ a, a ∈ as ∧ R a b
  | _, _, .nil, _, h => nomatch h
  | _, _, .cons h t, b, hb => by
    rcases List.mem_cons.mp hb with rfl | hb
    · exact ⟨_, List.mem_cons_self, h⟩
    · obtain ⟨a, h1, h2⟩ := each_right t b hb
      exact ⟨a, List.mem_cons_of_mem _ h1, h2⟩
theorem mg_eq {α : Type} (le : α → α → Bool) : ∀ (n : Nat) (xs ys : List α), xs.length + ys.length < n → mg le n xs ys = xs.merge ys le
  | 0, _, _, h => absurd h (by omega)
  | _ + 1, [], ys, _ => by rw [List.nil_merge]; rfl
  | _ + 1, x :: xs, [], _ => by rw [List.merge_right]; rfl
  | n + 1, x :: xs, y :: ys, h => by
    have h : xs.length + 1 + (ys.length + 1) < n + 1 := h
    unfold mg List.merge
    cases e : le x y with
    | true => simp only [if_true]; rw [mg_eq le n xs (y :: ys) (by simp; omega)]
    | false => simp only [Bool.false_eq_true, if_false]; rw [mg_eq le n (x :: xs) ys (by simp; omega)]
theorem ms_eq {α : Type} (le : α → α → Bool) : ∀ (n : Nat) (l : List α), l.length < n → ms le n l = l.mergeSort le
  | 0, _, h => absurd h (by omega)
  | _ + 1, [], _ => by rw [List.mergeSort_nil]; rfl
  | _ + 1, [a], _ => by rw [List.mergeSort_singleton]; rfl
  | n + 1, a :: b :: xs, h => by
    have h : xs.length + 1 + 1 < n + 1 := h
    rw [List.mergeSort]
    have e : ((a :: b :: xs).length + 1) / 2 = (xs.length + 1 + 1 + 1) / 2 := rfl
    have e1 : ms le n ((a :: b :: xs).take ((xs.length + 1 + 1 + 1) / 2)) = ((a :: b :: xs).take ((xs.length + 1 + 1 + 1) / 2)).mergeSort le := ms_eq le n _ (by rw [List.length_take]; simp only [List.length_cons]; omega)
    have e2 : ms le n ((a :: b :: xs).drop ((xs.length + 1 + 1 + 1) / 2)) = ((a :: b :: xs).drop ((xs.length + 1 + 1 + 1) / 2)).mergeSort le := ms_eq le n _ (by rw [List.length_drop]; simp only [List.length_cons]; omega)
    show mg le (xs.length + 1 + 1 + 1) (ms le n ((a :: b :: xs).take ((xs.length + 1 + 1 + 1) / 2))) (ms le n ((a :: b :: xs).drop ((xs.length + 1 + 1 + 1) / 2))) = _
    rw [e1, e2, mg_eq _ _ _ _ (by rw [List.length_mergeSort, List.length_mergeSort, List.length_take, List.length_drop]; simp only [List.length_cons]; omega)]
    simp only [List.MergeSort.Internal.splitInTwo, List.splitAt_eq, List.length_cons]
theorem cl_sorted (ok : Cok X) : CallR X (.builtin "sorted") (nOfL X.K W SeqV sortP) := by
  intro pins s σ H xs us Q I rv ⟨L, m, σ', v, ps, e, r, ⟨a, vs, ev, h1, h2⟩, g⟩
  subst e ev
  cases rv with
  | cons ru t =>
  cases t
  obtain rfl := ru
  unfold sortP at g
  cases hq : mapO (fun p => (dat m DD p).map fun d => (p, d)) ps with
  | none => rw [hq] at g; exact False.elim g
  | some qs =>
    rw [hq] at g
    simp only at g
    cases hb : (allAlike (qs.map (·.2)) && ((qs.map (·.2)).all isTup1 || (qs.map (·.2)).all isOther)) with
    | false => rw [hb] at g; exact False.elim g
    | true =>
      rw [hb] at g
      rw [Bool.and_eq_true, Bool.or_eq_true] at hb
      have fin : ∀ (its : List Value), Vals vs its → vs.length ≤ sizeLine → (PyProof.Rows.IsTup s.heap a its.toArray ∨ s.heap.IsList a its.toArray) → wpAny (model X.prog X.w) X.A (call (.builtin "sorted") [.ref a]) (EP X pins σ Q) X.xe s := by
        intro its rv hz hl
        have ef := each_fwd rv h2 (mapO_some hq)
        have al : PySem.W.AllAlike (qs.map (·.2)) := fun d hd d' hd' => List.all_eq_true.mp (List.all_eq_true.mp hb.1 d hd) d' hd'
        have so : PySem.W.Sortable (qs.map (·.2)) := by
          rcases hb.2 with h | h
          · refine .inl fun d hd => ?_
            have := List.all_eq_true.mp h d hd
            cases d with
            | tuple l => cases l with
              | nil => cases this
              | cons x l => exact ⟨x, l, rfl⟩
            | _ => cases this
          · refine .inr fun d hd => ?_
            have := List.all_eq_true.mp h d hd
            exact ⟨fun z => (by subst z; cases this), fun l z => (by subst z; cases this)⟩
        have rd : PySem.W.EachIs (fun u b => ∃ as, Reads s.heap u b.2 as) its qs := ef.mono fun u b ⟨v, h3, h4, h5⟩ => Dp.reads I b.2 v u (Dp_of r _ _ _ _ h5 h4) h3
        have dp : ∀ b, b ∈ qs → X.A.units + 2 + b.2.depth < cLine := fun b hm => by
          obtain ⟨u, hu, v, _, _, h5⟩ := each_right ef b hm
          have := dat_depth _ _ _ h5
          have := ok.hu
          have : DD = 60 := rfl
          omega
        have hlen : qs.length ≤ sizeLine := by
          have e1 := ef.length
          have e2 := rv.length
          omega
        have close : ∀ out : List Value, out.length = qs.length → PySem.W.EachIs (fun u b => ∃ v, RelV v u ∧ Is X.K L H v b.1 ∧ dat m DD b.1 = some b.2) out (qs.mergeSort (PySem.W.dataLe false fun b => b.2)) →
            EP X pins σ Q (.ref (s.heap.objs.size + 1)) { s with heap := PyProof.Rows.sortedAll s.heap its (List.toArray out) } := by
          intro out ho he
          obtain ⟨ws, w1, w2⟩ := each_back (fun u b ⟨v, h3, h4, _⟩ => ⟨v, h3, h4⟩) he
          obtain ⟨c, hc⟩ := PyProof.Rows.sortedAll_at s.heap its out.toArray
          have hp : H (s.heap.objs.size + 1) = none := I.hok.fresh (Nat.le_succ _)
          have hlen2 : ws.length ≤ sizeLine := by
            have e1 := w1.length
            omega
          refine ⟨.ref (s.heap.objs.size + 1), upd H (s.heap.objs.size + 1) (.lst ws), I.laid (t' := s.toks) (fun b o e => PyProof.Rows.sortedAll_old e) (Nat.le_succ _) ⟨hlen2, out, c, w1, hc⟩, rfl, ?_⟩
          rw [PySem.W.dataLe_eq] at w2
          rw [ms_eq _ _ _ (Nat.lt_succ_self _)] at g
          exact go_newL (ps := (qs.mergeSort fun a b => !PySem.W.dataLt b.2 a.2).map (·.1)) r w2 g _ hp
        rcases hl with hl | hl
        · exact sorted_dataT hl ef rd al so hlen dp close
        · exact PySem.W.sorted_data hl ef rd al so hlen dp close
      rcases h1 with h1 | h1
      · obtain ⟨its, rv, hl, hz⟩ := I.list h1
        exact fin its rv hz (.inr hl.isList)
      · obtain ⟨its, rv, hl, hz⟩ := I.tuple h1
        exact fin its rv hz (.inl hl)
end
end G

/-! G8: repr; methods of lists. -/
namespace G
open PySem PySem.Spec L2
theorem datL_noDict {m : Hm} {f : Nat} (ih : ∀ p d, dat m f p = some d → d.hasDict = false) : ∀ (ps : List P) (ds : List PyData), mapO (dat m f) ps = some ds → PyData.hasDictAll ds = false
  | [], ds, h => by cases h; rfl
  | p :: ps, ds, h => by
    unfold mapO at h
    split at h
    · rename_i d hd
      split at h
      · rename_i es he
        cases h
        rw [PyData.hasDictAll, ih p d hd, datL_noDict ih ps es he]
        rfl
      · cases h
    · cases h
theorem dat_noDict {m : Hm} : ∀ (f : Nat) (p : P) (d : PyData), dat m f p = some d → d.hasDict = false
  | 0, p, d, h => by cases p <;> first | (cases h; rfl) | cases h
  | f + 1, p, d, h => by
    have ih := dat_noDict (m := m) f
    have fin : ∀ {ps : List P} {g : List PyData → PyData}, (∀ ds, (g ds).hasDict = PyData.hasDictAll ds) → (mapO (dat m f) ps).map g = some d → d.hasDict = false := fun {ps g} hg h => by
      obtain ⟨ds, e1, rfl⟩ := Option.map_eq_some_iff.mp h
      rw [hg, datL_noDict ih _ _ e1]
    cases p with
    | non => cases h; rfl
    | bl b => cases h; rfl
    | int i => cases h; rfl
    | str x => cases h; rfl
    | tup ps => exact fin (g := PyData.tuple) (fun _ => by rw [PyData.hasDict]) h
    | kt ps => exact fin (g := PyData.tuple) (fun _ => by rw [PyData.hasDict]) h
    | scr ps => exact fin (g := PyData.list) (fun _ => by rw [PyData.hasDict]) h
    | ref n =>
      unfold dat at h
      split at h
      · exact fin (g := PyData.list) (fun _ => by rw [PyData.hasDict]) h
      · cases h
section
variable {X : Cx} {W : WX} {a b c e i o : Expr} {es : List Expr} {pos p1 p2 : Pos} {pins : List (Addr × Obj)} {s : Shared} {σ : L2.St} {H : Hp} {Q : VK}
theorem repr_data (ok : Cok X) (I : Inv X pins σ H s) {v : V} {u : Value} {d : PyData} (rv : RelV v u) (h : Dp X.K H v d) (hd : d.depth ≤ 61) (hn : d.hasDict = false) (hs : d.showable = true) (hz : d.shown.length ≤ sizeLine) (q : Q (.str d.shown) H) :
    wpAny (model X.prog X.w) X.A (call (.builtin "repr") [u]) (EP X pins σ Q) X.xe s := by
  obtain ⟨as, r⟩ := Dp.reads I d v u h rv
  have fin : ∀ (t : Nat) (tk : Tok), EP X pins σ Q (.str d.shown tk) { s with toks := t } := fun t tk => ⟨.str d.shown, H, I.tok t, ⟨_, rfl⟩, q⟩
  cases r with
  | none =>
    have e : PyData.none.shown = ("None" : Str) := by simp only [PyData.shown]
    exact PySem.P.repr_of_none (e ▸ fin _ _)
  | bool b =>
    have e : (PyData.bool b).shown = (if b then "True" else "False" : Str) := by simp only [PyData.shown]
    exact PySem.P.repr_of_bool (e ▸ fin _ _)
  | int i t =>
    have e : (PyData.int i).shown = ((toString i : String) : Str) := by simp only [PyData.shown]
    exact PySem.P.repr_of_int (by simpa [PyData.showable] using hs) (e ▸ fin _ _)
  | str x t =>
    have e : (PyData.str x).shown = reprText x := by simp only [PyData.shown]
    exact PySem.P.repr_of_str (e ▸ fin _ _) (by rw [← e]; exact hz)
  | list h1 h2 h3 h4 =>
    have := ok.hu
    exact repr_of_reads' (.list h1 h2 h3 h4) hs (PyData.noDict_hsm hn) ok.hg (by omega) (fun _ _ e => e) (fun h' u tk hk => ⟨.str _, H, I.kept hk, ⟨_, rfl⟩, q⟩) hz
  | tuple h1 h2 h3 h4 =>
    have := ok.hu
    exact repr_of_reads' (.tuple h1 h2 h3 h4) hs (PyData.noDict_hsm hn) ok.hg (by omega) (fun _ _ e => e) (fun h' u tk hk => ⟨.str _, H, I.kept hk, ⟨_, rfl⟩, q⟩) hz
  | dict h1 h2 h3 h4 h5 => exact absurd hn (by rw [PyData.hasDict]; simp)
theorem cb_repr (ok : Cok X) : CallR X (.builtin "repr") (cOf X.K W (one bRepr)) := call1 fun pins s σ H v us Q L m σ' p I rv r i g => by
  obtain ⟨d, e1, g⟩ := Go.asD r g
  obtain ⟨b, g2⟩ := Go.when_ g
  rw [Bool.and_eq_true] at b
  cases rv with
  | cons ru t =>
    cases t
    have := dat_depth _ _ _ e1
    exact repr_data ok I ru (Dp_of r _ _ _ _ e1 i) (by have : DD = 60 := rfl; omega) (dat_noDict _ _ _ e1) b.1 (of_decide_eq_true b.2) (Go.ret (a := P.str d.shown) g2 r _ (.str _))
theorem Go.allD {K : PySem.W.Frag} {L : List Addr} {H : Hp} {m : Hm} {σ : L2.St} {ps : List P} {β : Type} {f : List PyData → M β} {F : β → Hm → List Addr → Hp → Prop} (g : Go K W σ L H (G.bnd (G.allD ps) f m) F) :
    ∃ ds, mapO (dat m DD) ps = some ds ∧ Go K W σ L H (f ds m) F := by
  unfold G.bnd G.allD at g
  cases e : mapO (dat m DD) ps with
  | none => rw [e] at g; exact False.elim g
  | some ds => rw [e] at g; exact ⟨ds, rfl, g⟩
theorem cn_repr (ok : Cok X) : CallR X (.builtin "repr") (nOf X.K W SeqL nRepr) := by
  intro pins s σ H xs us Q I rv ⟨L, m, σ', v, ps, e, r, ⟨a, vs, ev, h1, h2⟩, g⟩
  subst e ev
  obtain ⟨ds, e1, g⟩ := Go.allD g
  obtain ⟨b, g2⟩ := Go.when_ g
  rw [Bool.and_eq_true] at b
  cases rv with
  | cons ru t =>
    cases t
    have hd := datL_depth (fun p d h => dat_depth _ p d h) _ _ e1
    exact repr_data ok I ru (.lst h1 (Dp_all (Dp_of r DD) _ _ _ e1 h2)) (by show PyData.depthAll ds + 1 ≤ 61; have : DD = 60 := rfl; omega) (by rw [PyData.hasDict]; exact datL_noDict (fun p d h => dat_noDict _ p d h) _ _ e1) b.1 (of_decide_eq_true b.2) (Go.ret (a := P.str (PyData.list ds).shown) g2 r _ (.str _))

/-! ### methods of lists -/
theorem go_chkL {K : PySem.W.Frag} {L : List Addr} {H : Hp} {m : Hm} {σ : L2.St} {p : P} {v : V} {β : Type} {f : Unit → M β} {F : β → Hm → List Addr → Hp → Prop} (r : Rep K L H m) (i : Is K L H v p) (g : Go K W σ L H (bnd (chkL p) f m) F) :
    tyV K "list" v H ∧ Go K W σ L H (f () m) F := by
  cases i with
  | @ref a n h =>
    unfold chkL getO bnd at g
    cases e : m[n]? with
    | none => simp only [e] at g; exact False.elim g
    | some o =>
      simp only [e] at g
      cases o with
      | lst ps =>
        obtain ⟨vs, k1, k2⟩ := r.lst h e
        exact ⟨.inl ⟨rfl, vs, .of k1⟩, g⟩
      | _ => exact False.elim g
  | _ => exact False.elim g
theorem pd_append {o e : Expr} {d de : D} {apos cpos : Pos} (ho : PDE X W o d) (he : PDE X W e de) (hst : starEach [e] X.env = (false, eval e X.env) :: starEach [] X.env := by rfl) (hbase : attributeBase o "append" X.env (eval o X.env) = eval o X.env := by rfl)
    (hfew : ((backTo cpos (starEach [e] X.env)).all (fun x => !x.1) && (backToKw cpos (keywordEach [] X.env)).all (fun x => x.1.isSome) && decide ([e].length + ([] : List Keyword).length + (if ([] : List Keyword).isEmpty then 0 else 1) < 30)) = true := by rfl) (hpl : (backTo cpos (starEach [] X.env)).any (·.1) = false := by rfl) (hline : (apos.endLine == cpos.line) = true := by rfl) :
    PDE X W (.Call (.Attribute o "append" apos) [e] [] cpos) (dMeth1 chkL mAppend d de) := by
  refine pe_weak (pe_bm PySem.F.plainAttrs_list PySem.F.slot_list_append PySem.F.type_list_append mt_append ho (pa_cons he pa_nil hst) hbase hfew hline hst hpl) fun σ H Q ⟨L, m, ρ, r, e, g⟩ => ?_
  refine lift_bnd r e g fun x p m1 L1 H1 x1 r1 e1 i1 g1 => ?_
  obtain ⟨ty, g1⟩ := go_chkL r1 i1 g1
  refine ⟨ty, show lift X.K W de σ H1 (fun y H2 => rAppend x [y] H2 Q) from lift_bnd r1 e1 g1 fun y q m2 L2 H2 x2 r2 e2 i2 g2 => ?_⟩
  have i1 := i1.mono r1 x2
  cases i1 with
  | @ref a n h =>
    obtain ⟨ob, e3, g3⟩ := Go.getO g2
    cases ob with
    | lst ps =>
      obtain ⟨b, g4⟩ := Go.when_ g3
      obtain ⟨vs, k1, k2⟩ := r2.lst h e3
      refine ⟨a, vs, y, rfl, rfl, k1, by rw [k2.length]; exact of_decide_eq_true b, ?_⟩
      have st : Ext L2 H2 L2 (upd H2 a (.lst (vs ++ [y]))) := ext_put h
      exact g4 L2 _ st (r2.put h trivial ⟨_, upd_same, (k2.append (.cons i2 .nil)).stay (st.stay r2)⟩) _ .non
    | _ => exact False.elim g3
  | _ => exact False.elim g2
theorem pd_extendL {o e : Expr} {d : D} {l : LD} {apos cpos : Pos} (ho : PDE X W o d) (he : PDL X W e l) (hst : starEach [e] X.env = (false, eval e X.env) :: starEach [] X.env := by rfl) (hbase : attributeBase o "extend" X.env (eval o X.env) = eval o X.env := by rfl)
    (hfew : ((backTo cpos (starEach [e] X.env)).all (fun x => !x.1) && (backToKw cpos (keywordEach [] X.env)).all (fun x => x.1.isSome) && decide ([e].length + ([] : List Keyword).length + (if ([] : List Keyword).isEmpty then 0 else 1) < 30)) = true := by rfl) (hpl : (backTo cpos (starEach [] X.env)).any (·.1) = false := by rfl) (hline : (apos.endLine == cpos.line) = true := by rfl) :
    PDE X W (.Call (.Attribute o "extend" apos) [e] [] cpos) (dMethL chkL mExtend d l) := by
  refine pe_weak (pe_bm PySem.F.plainAttrs_list PySem.F.slot_list_extend PySem.F.type_list_extend mt_extend ho (pa_cons he pa_nil hst) hbase hfew hline hst hpl) fun σ H Q ⟨L, m, ρ, r, e, g⟩ => ?_
  refine lift_bnd r e g fun x p m1 L1 H1 x1 r1 e1 i1 g1 => ?_
  obtain ⟨ty, g1⟩ := go_chkL r1 i1 g1
  refine ⟨ty, show liftL X.K W l σ H1 (fun y H2 => rExtend x [y] H2 Q) from liftL_bnd r1 e1 g1 fun c ws qs m2 L2 H2 x2 r2 e2 h0 h1 h2 h3 g2 => ?_⟩
  have i1 := i1.mono r1 x2
  have g2 := g2.mono x2
  cases i1 with
  | @ref a n h =>
    obtain ⟨ob, e3, g3⟩ := Go.getO g2
    cases ob with
    | lst ps =>
      obtain ⟨b, g4⟩ := Go.when_ g3
      obtain ⟨vs, k1, k2⟩ := r2.lst h e3
      refine ⟨a, c, vs, ws, rfl, rfl, k1, h1, by rw [k2.length, h3.length]; exact of_decide_eq_true b, ?_⟩
      have st : Ext L2 H2 L2 (upd H2 a (.lst (vs ++ ws))) := ext_put h
      exact g4 L2 _ st (r2.put h trivial ⟨_, upd_same, (k2.append h3).stay (st.stay r2)⟩) _ .non
    | _ => exact False.elim g3
  | _ => exact False.elim g2
theorem pd_pop {o : Expr} {d : D} {apos cpos : Pos} (ho : PDE X W o d) (hbase : attributeBase o "pop" X.env (eval o X.env) = eval o X.env := by rfl) (hline : (apos.endLine == cpos.line) = true := by rfl) :
    PDE X W (.Call (.Attribute o "pop" apos) [] [] cpos) (dMeth0 chkL mPop d) := by
  refine pe_weak (pe_bm0 PySem.F.plainAttrs_list PySem.F.slot_list_pop PySem.F.type_list_pop mt_pop ho hbase hline) fun σ H Q ⟨L, m, ρ, r, e, g⟩ => ?_
  refine lift_bnd r e g fun x p m1 L1 H1 x1 r1 e1 i1 g1 => ?_
  obtain ⟨ty, g2⟩ := go_chkL r1 i1 g1
  refine ⟨ty, ?_⟩
  cases i1 with
  | @ref a n h =>
    obtain ⟨ob, e3, g3⟩ := Go.getO g2
    cases ob with
    | lst ps =>
      obtain ⟨vs, k1, k2⟩ := r1.lst h e3
      cases e4 : ps[ps.length - 1]? with
      | none => simp only [e4] at g3; exact False.elim g3
      | some y =>
        simp only [e4] at g3
        obtain ⟨w, h5, h6⟩ := k2.get e4
        refine ⟨a, vs, w, rfl, rfl, k1, by rw [k2.length]; exact h5, ?_⟩
        have st : Ext L1 H1 L1 (upd H1 a (.lst vs.dropLast)) := ext_put h
        exact g3 L1 _ st (r1.put h trivial ⟨_, upd_same, k2.dropLast.stay (st.stay r1)⟩) _ (h6.stay (st.stay r1))
    | _ => exact False.elim g3
  | _ => exact False.elim g2
theorem pd_popAt {o e : Expr} {d de : D} {apos cpos : Pos} (ho : PDE X W o d) (he : PDE X W e de) (hst : starEach [e] X.env = (false, eval e X.env) :: starEach [] X.env := by rfl) (hbase : attributeBase o "pop" X.env (eval o X.env) = eval o X.env := by rfl)
    (hfew : ((backTo cpos (starEach [e] X.env)).all (fun x => !x.1) && (backToKw cpos (keywordEach [] X.env)).all (fun x => x.1.isSome) && decide ([e].length + ([] : List Keyword).length + (if ([] : List Keyword).isEmpty then 0 else 1) < 30)) = true := by rfl) (hpl : (backTo cpos (starEach [] X.env)).any (·.1) = false := by rfl) (hline : (apos.endLine == cpos.line) = true := by rfl) :
    PDE X W (.Call (.Attribute o "pop" apos) [e] [] cpos) (dMeth1 chkL mPopAt d de) := by
  refine pe_weak (pe_bm PySem.F.plainAttrs_list PySem.F.slot_list_pop PySem.F.type_list_pop mt_popAt ho (pa_cons he pa_nil hst) hbase hfew hline hst hpl) fun σ H Q ⟨L, m, ρ, r, e, g⟩ => ?_
  refine lift_bnd r e g fun x p m1 L1 H1 x1 r1 e1 i1 g1 => ?_
  obtain ⟨ty, g1⟩ := go_chkL r1 i1 g1
  refine ⟨ty, show lift X.K W de σ H1 (fun y H2 => rPopAt x [y] H2 Q) from lift_bnd r1 e1 g1 fun y q m2 L2 H2 x2 r2 e2 i2 g2 => ?_⟩
  have i1 := i1.mono r1 x2
  cases i1 with
  | @ref a n h =>
    cases i2 with
    | int j =>
      obtain ⟨ob, e3, g3⟩ := Go.getO g2
      cases ob with
      | lst ps =>
        obtain ⟨vs, k1, k2⟩ := r2.lst h e3
        cases e4 : ixN ps.length j with
        | none => simp only [e4] at g3; exact False.elim g3
        | some k =>
          simp only [e4] at g3
          cases e5 : ps[k]? with
          | none => simp only [e5] at g3; exact False.elim g3
          | some z =>
            simp only [e5] at g3
            obtain ⟨b, g4⟩ := Go.when_ g3
            rw [Bool.and_eq_true] at b
            obtain ⟨w, h5, h6⟩ := k2.get e5
            refine ⟨a, vs, j, k, w, rfl, rfl, k1, of_decide_eq_true b.1, of_decide_eq_true b.2, by rw [k2.length]; exact (ixN_seq e4).1, h5, ?_⟩
            have st : Ext L2 H2 L2 (upd H2 a (.lst (vs.eraseIdx k))) := ext_put h
            exact g4 L2 _ st (r2.put h trivial ⟨_, upd_same, (k2.eraseIdx k).stay (st.stay r2)⟩) _ (h6.stay (st.stay r2))
      | _ => exact False.elim g3
    | _ => exact False.elim g2
  | _ => exact False.elim g2
end
end G

/-! G9: what is walked, targets, comprehensions. -/
namespace G
open PySem PySem.Spec L2
abbrev WF : WX := none
theorem noX_bnd {α β : Type} (x : M α) (f : α → M β) : noX (bnd x f) = bnd (noX x) fun a => noX (f a) := by
  funext m
  show (match (match x m with
    | .ok a m' => f a m'
    | .exc c v m' => .exc c v m'
    | .bad => .bad : R β) with
    | .ok a m' => R.ok a m'
    | .exc _ _ _ => .bad
    | .bad => .bad) = (match (match x m with
    | .ok a m' => R.ok a m'
    | .exc _ _ _ => .bad
    | .bad => .bad : R α) with
    | .ok a m' => noX (f a) m'
    | .exc c v m' => .exc c v m'
    | .bad => .bad)
  cases x m <;> rfl
theorem Go.noX {α : Type} {K : PySem.W.Frag} {W W' : WX} {σ σ' : L2.St} {L : List Addr} {H : Hp} {m : Hm} {x : M α} {F : α → Hm → List Addr → Hp → Prop} (g : Go K W σ L H (noX x m) F) : Go K W' σ' L H (x m) F := by
  unfold G.noX at g
  cases e : x m with
  | ok a m' => rw [e] at g; exact g
  | exc c v m' => rw [e] at g; exact False.elim g
  | bad => rw [e] at g; exact False.elim g

/-! ### what is walked -/
/-- the iterator J gives what src gives -/
def SrcIs (K : PySem.W.Frag) (L0 : List Addr) (H0 : Hp) (J : It) (src : Src) : Prop := ∀ (L : List Addr) (H : Hp) (m : Hm), Ext L0 H0 L H → Rep K L H m → ∀ i o, src.at i m = some o → match o with
  | none => J.stop i H
  | some p => J.go i H ∧ ∀ x H', J.yld i H x H' → Ext L H L H' ∧ Rep K L H' m ∧ Is K L H' x p
def liftI (K : PySem.W.Frag) (W : WX) (s : SD) : TI := fun σ H R => ∃ L m ρ, Rep K L H m ∧ EnvIs K L H σ ρ ∧ Go K W σ L H (s ρ m) fun src _ L' H' => ∀ J, SrcIs K L' H' J src → R J H'
def PDI (X : Cx) (W : WX) (tg iter : Expr) (s : SD) : Prop := PI X tg iter (liftI X.K W s)
theorem pi_weak {X : Cx} {tg iter : Expr} {t t' : TI} (h : PI X tg iter t) (w : ∀ σ H R, t' σ H R → t σ H R) : PI X tg iter t' := ⟨fun pins s σ H R I q => h.run pins s σ H R I (w σ H R q)⟩
section
variable {K : PySem.W.Frag} {L : List Addr} {H : Hp} {m : Hm}
/-- the items of an unchanging thing -/
theorem src_tup {a : Addr} {vs : List V} {ps : List P} (r : Rep K L H m) (h : SqT K H a vs) (i : IsAll K L H vs ps) : SrcIs K L H (Itt K a) (.seq ps) := by
  intro L' H' m' x r' j o ho
  have st := x.stay r
  have h' := st.sqT h
  have i' := i.stay st
  cases (show some ps[j]? = some o from ho)
  cases e : ps[j]? with
  | none => exact ⟨vs, h', by rw [i.length]; exact List.getElem?_eq_none_iff.mp e⟩
  | some p =>
    obtain ⟨v, e1, e2⟩ := i'.get e
    exact ⟨⟨vs, v, h', e1⟩, fun x1 H1 ⟨eH, q⟩ => by
      subst eH
      have := (q vs h').symm.trans e1
      cases this
      exact ⟨Ext.refl _ _, r', e2⟩⟩
theorem src_scr {a : Addr} {vs : List V} {ps : List P} (r : Rep K L H m) (h : (∃ ob, H a = some (.frz ob (.lst vs))) ∨ KL K a vs) (i : IsAll K L H vs ps) : SrcIs K L H (Itl K a) (.seq ps) := by
  intro L' H' m' x r' j o ho
  have st := x.stay r
  have h' : SqL K H' a vs := SqL_of_frz (h.imp (fun ⟨ob, e⟩ => ⟨ob, st.fix _ _ e id⟩) id)
  have i' := i.stay st
  cases (show some ps[j]? = some o from ho)
  cases e : ps[j]? with
  | none => exact ⟨vs, h', by rw [i.length]; exact List.getElem?_eq_none_iff.mp e⟩
  | some p =>
    obtain ⟨v, e1, e2⟩ := i'.get e
    exact ⟨⟨vs, v, h', e1⟩, fun x1 H1 ⟨eH, q⟩ => by
      subst eH
      have := (q vs h').symm.trans e1
      cases this
      exact ⟨Ext.refl _ _, r', e2⟩⟩
/-- .. of a list that no one holds -/
theorem src_own {a : Addr} {vs : List V} {ps : List P} (r : Rep K L H m) (h : H a = some (.lst vs)) (n : a ∉ L) (i : IsAll K L H vs ps) : SrcIs K L H (Itl K a) (.seq ps) := by
  intro L' H' m' x r' j o ho
  have st := x.stay r
  have h' : SqL K H' a vs := .of (x.keep _ _ h n)
  have i' := i.stay st
  cases (show some ps[j]? = some o from ho)
  cases e : ps[j]? with
  | none => exact ⟨vs, h', by rw [i.length]; exact List.getElem?_eq_none_iff.mp e⟩
  | some p =>
    obtain ⟨v, e1, e2⟩ := i'.get e
    exact ⟨⟨vs, v, h', e1⟩, fun x1 H1 ⟨eH, q⟩ => by
      subst eH
      have := (q vs h').symm.trans e1
      cases this
      exact ⟨Ext.refl _ _, r', e2⟩⟩
/-- the items of a list of ours -/
theorem src_lst {a : Addr} {n : Nat} (h : L[n]? = some a) : SrcIs K L H (Itl K a) (.lst n) := by
  intro L' H' m' x r' j o ho
  have ho : (match m'[n]? with
    | some (.lst ps) => some ps[j]?
    | _ => none) = some o := ho
  split at ho
  · rename_i ps e
    cases ho
    obtain ⟨vs, k1, k2⟩ := r'.lst (x.get h) e
    cases e1 : ps[j]? with
    | none => exact ⟨vs, .of k1, by rw [k2.length]; exact List.getElem?_eq_none_iff.mp e1⟩
    | some p =>
      obtain ⟨v, e2, e3⟩ := k2.get e1
      exact ⟨⟨vs, v, .of k1, e2⟩, fun x1 H1 ⟨eH, q⟩ => by
        subst eH
        have := (q vs (.of k1)).symm.trans e2
        cases this
        exact ⟨Ext.refl _ _, r', e3⟩⟩
  · cases ho
theorem numbered_get : ∀ (ps : List P) (k j : Nat), (numbered k ps)[j]? = ps[j]?.map fun p => .tup [.int ((k + j : Nat) : Int), p]
  | [], _, _ => by simp [numbered]
  | p :: ps, k, 0 => by simp [numbered]
  | p :: ps, k, j + 1 => by
    show (numbered (k + 1) ps)[j]? = _
    rw [numbered_get ps (k + 1) j, List.getElem?_cons_succ]
    have : k + 1 + j = k + (j + 1) := by omega
    rw [this]
theorem ext_newR (r : Rep K L H m) {a : Addr} {i : Int} {v : V} {p : P} (h : H a = none) (q : Is K L H v p) : Ext L H L (upd H a (.tup [.int i, v])) ∧ Rep K L (upd H a (.tup [.int i, v])) m ∧ Is K L (upd H a (.tup [.int i, v])) (.ref a) (.tup [.int i, p]) :=
  ⟨ext_new h, r.mono_new h, .tup upd_same (.cons (.int i) (.cons (q.stay (stay_new h)) .nil))⟩
theorem src_enumL {a : Addr} {n : Nat} (h : L[n]? = some a) : SrcIs K L H (Ite K a) (.enumL n) := by
  intro L' H' m' x r' j o ho
  have ho : (match m'[n]? with
    | some (.lst ps) => some (ps[j]?.map fun p => .tup [.int (j : Nat), p])
    | _ => none) = some o := ho
  split at ho
  · rename_i ps e
    cases ho
    obtain ⟨vs, k1, k2⟩ := r'.lst (x.get h) e
    cases e1 : ps[j]? with
    | none => exact ⟨vs, .of k1, by rw [k2.length]; exact List.getElem?_eq_none_iff.mp e1⟩
    | some p =>
      obtain ⟨v, e2, e3⟩ := k2.get e1
      exact ⟨⟨vs, v, .of k1, e2⟩, fun x1 H1 ⟨T, y, e4, hT, eH, q⟩ => by
        subst eH e4
        have := (q vs (.of k1)).symm.trans e2
        cases this
        exact ext_newR r' hT e3⟩
  · cases ho
theorem src_rng {a : Int} {k : Nat} (e : L = L) : SrcIs K L H (Itr a k) (.seq ((List.range k).map fun (i : Nat) => .int (a + i))) := by
  intro L' H' m' x r' j o ho
  cases (show some _ = some o from ho)
  by_cases hj : j < k
  · have e : ((List.range k).map fun (i : Nat) => P.int (a + i))[j]? = some (.int (a + j)) := by simp [hj]
    rw [e]
    exact ⟨hj, fun x1 H1 ⟨eH, q⟩ => by subst eH q; exact ⟨Ext.refl _ _, r', .int _⟩⟩
  · have e : ((List.range k).map fun (i : Nat) => P.int (a + i))[j]? = none := by simp; omega
    rw [e]
    exact Nat.le_of_not_lt hj
end
section
variable {X : Cx} {W : WX} {tg e : Expr} {p1 pos : Pos}
theorem pi_of {te : TE} (h : PE X e te) : PI X tg e (fun σ H R => te σ H fun v H1 => ∃ a, v = .ref a ∧ (((∃ xs, SqL X.K H1 a xs) ∧ R (Itl X.K a) H1) ∨ ((∃ xs, SqT X.K H1 a xs) ∧ R (Itt X.K a) H1))) := by
  refine ⟨fun pins s σ H R I q => L2.thn (h.run pins s σ H _ I q) fun v s1 ⟨x, H1, I1, r1, a, ex, q1⟩ => ?_⟩
  subst ex; cases r1
  have new : ∀ b, b ∈ [s1.heap.objs.size] → FpOk X pins H1 b := fun b hb => by
    rw [List.mem_singleton.mp hb]
    exact I1.fpOk (Nat.le_refl _) (I1.hok.fresh (Nat.le_refl _))
  rcases q1 with ⟨⟨xs, hq⟩, q⟩ | ⟨⟨xs, hq⟩, q⟩
  · obtain ⟨its, rv, p, hz⟩ := I1.list hq
    exact wpAny_pyIter_list p.isList ⟨_, [s1.heap.objs.size], _, _, H1, rfl, I1.kept (t' := s1.toks) fun b o e => Heap.get?_push_of_some _ e, turn_list a _, ⟨_, Heap.get?_push_size _ rfl, rfl, rfl⟩, new, q⟩
  · obtain ⟨its, rv, p, hz⟩ := I1.tuple hq
    exact wpAny_pyIter_tuple (show s1.heap.IsTuple a its.toArray from p) ⟨_, [s1.heap.objs.size], _, _, H1, rfl, I1.kept (t' := s1.toks) fun b o e => Heap.get?_push_of_some _ e, turn_tuple a _, ⟨_, Heap.get?_push_size _ rfl, rfl, rfl⟩, new, q⟩
theorem pdi_of {d : D} (h : PDE X W e d) : PDI X W tg e (sOf d) := by
  refine pi_weak (pi_of h) fun σ H R ⟨L, m, ρ, r, e, g⟩ => ?_
  refine lift_bnd r e g fun x p m1 L1 H1 x1 r1 e1 i1 g1 => ?_
  cases i1 with
  | @tup a vs ps h1 h2 => exact ⟨a, rfl, .inr ⟨⟨vs, .inl (.inl h1)⟩, Go.ret (a := Src.seq ps) g1 r1 _ (src_tup r1 (.inl (.inl h1)) h2)⟩⟩
  | @kt a vs ps h1 h2 => exact ⟨a, rfl, .inr ⟨⟨vs, h1.sq⟩, Go.ret (a := Src.seq ps) g1 r1 _ (src_tup r1 h1.sq h2)⟩⟩
  | @scr a vs ps h1 h2 => exact ⟨a, rfl, .inl ⟨⟨vs, SqL_of_frz h1⟩, Go.ret (a := Src.seq ps) g1 r1 _ (src_scr r1 h1 h2)⟩⟩
  | @ref a n h =>
    obtain ⟨o, e2, g2⟩ := Go.getO g1
    cases o with
    | lst ps =>
      obtain ⟨vs, k1, k2⟩ := r1.lst h e2
      exact ⟨a, rfl, .inl ⟨⟨vs, .of k1⟩, Go.ret (a := Src.lst n) g2 r1 _ (src_lst h)⟩⟩
    | _ => exact False.elim g2
  | _ => exact False.elim g1
theorem pdi_ofL {l : LD} (h : PDL X W e l) : PDI X W tg e (sOfL l) := by
  refine pi_weak (pi_of h) fun σ H R ⟨L, m, ρ, r, e, g⟩ => ?_
  refine liftL_bnd r e g fun a vs ps m1 L1 H1 x1 r1 e1 h0 h1 h2 h3 g1 => ?_
  exact ⟨a, rfl, .inl ⟨⟨vs, .of h1⟩, Go.ret (a := Src.seq ps) (g1.mono x1) r1 _ (src_own r1 h1 h2 h3)⟩⟩
theorem small62_ok {i : Int} (h : small62 i = true) : -(2 ^ 62) ≤ i ∧ i < 2 ^ 62 := by
  unfold small62 at h
  rw [Bool.and_eq_true] at h
  exact ⟨of_decide_eq_true h.1, of_decide_eq_true h.2⟩
theorem pdi_range1 {d : D} (hm : X.mg "range" = none) (h : PDE X W e d) (hg : Gl X "range" := by rfl) (hs : starEach [e] X.env = [(false, eval e X.env)] := by rfl) : PDI X W tg (.Call (.Name "range" p1) [e] [] pos) (sRange1 d) := by
  refine pi_weak (pi_range1 hg hm (pa_cons h pa_nil hs) hs) fun σ H R ⟨L, m, ρ, r, e, g⟩ => show lift X.K W d σ H (fun x H1 => ∃ j : Int, [x] = [V.int j] ∧ -(2 ^ 62) ≤ j ∧ j < 2 ^ 62 ∧ R (Itr 0 j.toNat) H1) from ?_
  refine lift_bnd r e g fun x p m1 L1 H1 x1 r1 e1 i1 g1 => ?_
  cases i1 with
  | int j =>
    obtain ⟨b, g2⟩ := Go.when_ (x := ret (Src.seq (rangeP 0 j))) g1
    obtain ⟨b1, b2⟩ := small62_ok b
    have e : (j - 0).toNat = j.toNat := by rw [Int.sub_zero]
    refine ⟨j, rfl, b1, b2, Go.ret (a := Src.seq (rangeP 0 j)) g2 r1 _ ?_⟩
    unfold rangeP
    rw [e]
    exact src_rng rfl
  | _ => exact False.elim g1
theorem pdi_range2 {e' : Expr} {d d' : D} (hm : X.mg "range" = none) (h : PDE X W e d) (h' : PDE X W e' d') (hg : Gl X "range" := by rfl) (hs : starEach [e, e'] X.env = [(false, eval e X.env), (false, eval e' X.env)] := by rfl) (hs2 : starEach [e'] X.env = [(false, eval e' X.env)] := by rfl) : PDI X W tg (.Call (.Name "range" p1) [e, e'] [] pos) (sRange2 d d') := by
  refine pi_weak (pi_range2 hg hm (pa_cons h (pa_cons h' pa_nil hs2) (by rw [hs, hs2])) hs hs2) fun σ H R ⟨L, m, ρ, r, e, g⟩ => show lift X.K W d σ H (fun x H1 => lift X.K W d' σ H1 fun y H2 => ∃ i j : Int, [x, y] = [V.int i, V.int j] ∧ (-(2 ^ 62) ≤ i ∧ i < 2 ^ 62 ∧ -(2 ^ 62) ≤ j ∧ j < 2 ^ 62) ∧ R (Itr i (j - i).toNat) H2) from ?_
  refine lift_bnd r e g fun x p m1 L1 H1 x1 r1 e1 i1 g1 => lift_bnd r1 e1 g1 fun y q m2 L2 H2 x2 r2 e2 i2 g2 => ?_
  cases i1 with
  | int i =>
    cases i2 with
    | int j =>
      obtain ⟨b, g3⟩ := Go.when_ (x := ret (Src.seq (rangeP i j))) g2
      rw [Bool.and_eq_true] at b
      obtain ⟨b1, b2⟩ := small62_ok b.1
      obtain ⟨b3, b4⟩ := small62_ok b.2
      exact ⟨i, j, rfl, ⟨b1, b2, b3, b4⟩, Go.ret (a := Src.seq (rangeP i j)) g3 r2 _ (src_rng rfl)⟩
    | _ => exact False.elim g2
  | _ => exact False.elim g2
end

/-! ### targets -/
def liftG (K : PySem.W.Frag) (vs : List Nat) (g : GD) : TG := fun v σ H Q => ∃ L m ρ p, Rep K L H m ∧ EnvIs K L H σ ρ ∧ Is K L H v p ∧ match g p ρ m with
  | .ok ρ' m' => ∀ σ' L' H', Ext L H L' H' → Rep K L' H' m' → EnvIs K L' H' σ' ρ' → σ'.length = σ.length → (∀ k, k ∉ vs → σ'[k]? = σ[k]?) → Q σ' H'
  | _ => False
def liftGs (K : PySem.W.Frag) (vs : List Nat) (g : GsD) : TGs := fun xs σ H Q => ∃ L m ρ ps, Rep K L H m ∧ EnvIs K L H σ ρ ∧ IsAll K L H xs ps ∧ match g ps ρ m with
  | .ok ρ' m' => ∀ σ' L' H', Ext L H L' H' → Rep K L' H' m' → EnvIs K L' H' σ' ρ' → σ'.length = σ.length → (∀ k, k ∉ vs → σ'[k]? = σ[k]?) → Q σ' H'
  | _ => False
def PDG (X : Cx) (tg : Expr) (vs : List Nat) (g : GD) : Prop := PG X tg (liftG X.K vs g)
def PDGs (X : Cx) (tgs : List Expr) (vs : List Nat) (g : GsD) : Prop := PGs X tgs (liftGs X.K vs g)
section
variable {X : Cx} {W : WX} {tg e : Expr} {es : List Expr} {p1 pos : Pos}
theorem pg_weak {t t' : TG} (h : PG X tg t) (w : ∀ v σ H Q, t' v σ H Q → t v σ H Q) : PG X tg t' := ⟨fun pins s σ H v u Q I r q => h.run pins s σ H v u Q I r (w v σ H Q q)⟩
theorem pgs_weak {t t' : TGs} (h : PGs X es t) (w : ∀ v σ H Q, t' v σ H Q → t v σ H Q) : PGs X es t' := ⟨fun pins s σ H v u Q I r q => h.run pins s σ H v u Q I r (w v σ H Q q)⟩
theorem pdg_name (ok : Cok X) {i : Nat} {x : Str} (hi : X.N[i]? = some x := by rfl) (hx : Loc X.env.scope x := by first | exact Or.inl rfl | exact Or.inr rfl) (hf : X.fn x = true ∨ X.env.scope.names.lookup x = some .local := by first | exact .inl rfl | exact .inr rfl) : PDG X (.Name x pos) [i] (gName i) := by
  refine pg_weak (pg_name ok.nd hi hx hf) fun v σ H Q ⟨L, m, ρ, p, r, e, i1, g⟩ => ?_
  exact g (σ.set i (some v)) L H (Ext.refl L H) r (e.set i i1) (by simp) fun k hk => by
    rw [List.getElem?_set_ne fun z => hk (by simp [z])]
theorem pdgs_nil : PDGs X [] [] gNil := by
  refine pgs_weak pgs_nil fun xs σ H Q ⟨L, m, ρ, ps, r, e, i, g⟩ => ?_
  cases i with
  | nil => exact ⟨rfl, g σ L H (Ext.refl L H) r e rfl fun _ _ => rfl⟩
  | cons _ _ => exact False.elim g
theorem pdgs_cons {vs vs' : List Nat} {g : GD} {gs : GsD} (h : PDG X e vs g) (h' : PDGs X es vs' gs) (hs : (assignEach (e :: es) X.env).map (·.2) = assign e X.env :: (assignEach es X.env).map (·.2) := by rfl) : PDGs X (e :: es) (vs ++ vs') (gCons g gs) := by
  refine pgs_weak (pgs_cons h h' hs) fun xs σ H Q ⟨L, m, ρ, ps, r, e, i, g0⟩ => ?_
  cases i with
  | nil => exact False.elim g0
  | @cons v ws p qs i1 i2 =>
    refine ⟨v, ws, rfl, L, m, ρ, p, r, e, i1, ?_⟩
    have g0 : match bnd (g p ρ) (fun ρ' => gs qs ρ') m with
      | .ok ρ' m' => _
      | _ => False := g0
    unfold bnd at g0
    cases e1 : g p ρ m with
    | ok ρ1 m1 =>
      simp only [e1] at g0
      intro σ1 L1 H1 x1 r1 en1 hl1 hk1
      refine ⟨L1, m1, ρ1, qs, r1, en1, i2.mono r x1, ?_⟩
      cases e2 : gs qs ρ1 m1 with
      | ok ρ2 m2 =>
        simp only [e2] at g0
        intro σ2 L2 H2 x2 r2 en2 hl2 hk2
        refine g0 σ2 L2 H2 (x1.trans x2) r2 en2 (hl2.trans hl1) fun k hk => ?_
        rw [List.mem_append, not_or] at hk
        rw [hk2 k hk.2, hk1 k hk.1]
      | exc _ _ _ => simp only [e2] at g0
      | bad => simp only [e2] at g0
    | exc _ _ _ => simp only [e1] at g0
    | bad => simp only [e1] at g0
theorem gs_length : ∀ (n : Nat) (gs : GsD), True := fun _ _ => trivial
/-- a, b = .. out of a tuple -/
theorem pdg_tup (ok : Cok X) {vs : List Nat} {gs : GsD} {k n : Nat} (h : PDGs X es vs gs) (hn : (assignEach es X.env).length = n := by rfl) (hst : (assignEach es X.env).findIdx? (·.1) = none := by rfl) : PDG X (.Tuple es k pos) vs (gTup n gs) := by
  refine pg_weak (pg_tup ok.calm h hn hst) fun v σ H Q ⟨L, m, ρ, p, r, e, i, g⟩ => ?_
  cases i with
  | @tup a ws ps h1 h2 =>
    have g : match when_ (decide (ps.length = n)) (gs ps ρ) m with
      | .ok ρ' m' => _
      | _ => False := g
    unfold when_ at g
    cases hb : decide (ps.length = n) with
    | false => rw [hb] at g; exact False.elim g
    | true =>
      rw [hb] at g
      exact ⟨a, ws, rfl, .inl (.inl h1), by rw [h2.length]; exact of_decide_eq_true hb, L, m, ρ, ps, r, e, h2, g⟩
  | _ => exact False.elim g
end

/-! ### comprehensions -/
theorem wipe_get (σ : L2.St) : ∀ (vs : List Nat) (k : Nat), (wipe σ vs)[k]? = if k ∈ vs then (if k < σ.length then some none else none) else σ[k]?
  | [], k => by simp [wipe]
  | v :: vs, k => by
    unfold wipe
    by_cases h : v = k
    · subst h
      by_cases hl : v < σ.length
      · rw [List.getElem?_set_self (by rw [wipe_length]; exact hl)]; simp [hl]
      · rw [List.getElem?_eq_none (by rw [List.length_set, wipe_length]; omega)]; simp [hl]
    · rw [List.getElem?_set_ne h, wipe_get σ vs k]
      have : k ∈ v :: vs ↔ k ∈ vs := ⟨fun z => (List.mem_cons.mp z).elim (fun z => absurd z.symm h) id, List.mem_cons_of_mem _⟩
      simp only [this]
theorem wipe_eq {σ σ' : L2.St} {vs : List Nat} (hl : σ'.length = σ.length) (h : ∀ k, k ∉ vs → σ'[k]? = σ[k]?) : wipe σ' vs = wipe σ vs := by
  refine List.ext_getElem? fun k => ?_
  rw [wipe_get, wipe_get, hl]
  by_cases hk : k ∈ vs
  · rw [if_pos hk, if_pos hk]
  · rw [if_neg hk, if_neg hk, h k hk]
theorem wipe_wipe (σ : L2.St) (vs : List Nat) : wipe (wipe σ vs) vs = wipe σ vs := wipe_eq (wipe_length σ vs) fun k hk => by rw [wipe_get, if_neg hk]
theorem EnvIs.wipe {K : PySem.W.Frag} {L : List Addr} {H : Hp} {σ : L2.St} {ρ : Env} (h : EnvIs K L H σ ρ) : ∀ vs : List Nat, EnvIs K L H (L2.wipe σ vs) (wipeE ρ vs)
  | [] => h
  | v :: vs => by
    have ih := EnvIs.wipe h vs
    unfold L2.wipe wipeE
    refine ⟨by rw [List.length_set, List.length_set]; exact ih.len, fun i p e => ?_⟩
    by_cases hi : v = i
    · subst hi
      by_cases hl : v < (wipeE ρ vs).length
      · rw [List.getElem?_set_self hl] at e; cases e
      · rw [List.getElem?_eq_none (by simpa using hl)] at e; cases e
    · rw [List.getElem?_set_ne hi] at e
      obtain ⟨w, h1, h2⟩ := ih.at_ i p e
      exact ⟨w, by rw [List.getElem?_set_ne hi]; exact h1, h2⟩
def LEnd (K : PySem.W.Frag) (H : Hp) (Q : VK) : List P → Hm → List Addr → Hp → Prop := fun ps _ L' H' => ∀ a vs, H a = none → H' a = some (.lst vs) → a ∉ L' → IsAll K L' H' vs ps → Q (.ref a) H'
theorem lc_read {K : PySem.W.Frag} {W : WX} {sd : SD} {vs ow : List Nat} {g : GD} {t : T} {e : D} (hv : ∀ k ∈ vs, k ∈ ow) {σ : L2.St} {H : Hp} {Q : VK} (h : liftL K W (lComp sd g t e ow) σ H Q) : tLc (liftI K W sd) (liftG K vs g) (liftT K WF t) (lift K WF e) ow σ H Q := by
  obtain ⟨L, m, ρ, r, en, gg⟩ := h
  refine ⟨L, m, ρ, r, en, gg.bnd.imp fun src m1 L1 H1 _ x1 r1 g1 J hJ D hD => ?_⟩
  have nD : H D = none := grow_none x1 hD
  have en1 := (en.mono r x1).wipe ow
  refine ⟨fun i f Hc => ∃ L' m' acc ws, Ext L1 H1 L' Hc ∧ Rep K L' Hc m' ∧ Hc D = some (.lst ws) ∧ D ∉ L' ∧ IsAll K L' Hc ws acc ∧ Go K W σ L1 H1 (noX (compL g t e (wipeE ρ ow) src f i acc) m') (LEnd K H Q), ⟨src.len m1, L1, m1, [], [], ext_new hD, r1.mono_new hD, upd_same, r1.new hD, .nil, g1⟩, ?_⟩
  rintro i f Hc ⟨L', m', acc, ws, x', r', hDc, hDL, ia, gc⟩
  cases hat : src.at i m' with
  | none => cases f <;> (unfold noX compL at gc; simp only [hat] at gc; exact False.elim gc)
  | some o =>
    have hj := hJ L' Hc m' x' r' i o hat
    cases o with
    | none =>
      refine .inl ⟨hj, ?_⟩
      have fin : Go K W σ L1 H1 (R.ok acc m') (LEnd K H Q) := by
        cases f <;> (unfold noX compL at gc; simp only [hat] at gc; exact gc)
      exact fin L' Hc x' r' D ws nD hDc hDL ia
    | some p =>
      cases f with
      | zero => unfold noX compL at gc; simp only [hat] at gc; exact False.elim gc
      | succ f =>
        obtain ⟨jg, jy⟩ := hj
        have gc : Go K W σ L1 H1 (noX (bnd (g p (wipeE ρ ow)) (fun ρ' => bnd (t ρ') fun k => match k with
          | true => bnd (e ρ') fun y => when_ (decide (acc.length < SZ)) (compL g t e (wipeE ρ ow) src f (i + 1) (acc ++ [y]))
          | false => compL g t e (wipeE ρ ow) src f (i + 1) acc)) m') (LEnd K H Q) := by
          unfold noX compL at gc
          simp only [hat] at gc
          exact gc
        refine .inr ⟨jg, fun H' => ∃ L' m' acc ws, Ext L1 H1 L' H' ∧ Rep K L' H' m' ∧ H' D = some (.lst ws) ∧ D ∉ L' ∧ IsAll K L' H' ws acc ∧ Go K W σ L1 H1 (noX (compL g t e (wipeE ρ ow) src f (i + 1) acc) m') (LEnd K H Q), fun H' h => ⟨f, Nat.lt_succ_self f, h⟩, fun x H' y => ?_⟩
        obtain ⟨x2, r2, i2⟩ := jy x H' y
        have hD2 : H' D = some (.lst ws) := x2.keep _ _ hDc hDL
        have ia2 := ia.mono r' x2
        rw [noX_bnd] at gc
        refine ⟨L', m', wipeE ρ ow, p, r2, (en1.mono r1 x').mono r' x2, i2, ?_⟩
        cases eg : g p (wipeE ρ ow) m' with
        | exc c v m2 => unfold bnd noX at gc; simp only [eg] at gc; exact False.elim gc
        | bad => unfold bnd noX at gc; simp only [eg] at gc; exact False.elim gc
        | ok ρ2 m2 =>
          have gc : Go K W σ L1 H1 (noX (bnd (t ρ2) fun k => match k with
            | true => bnd (e ρ2) fun y => when_ (decide (acc.length < SZ)) (compL g t e (wipeE ρ ow) src f (i + 1) (acc ++ [y]))
            | false => compL g t e (wipeE ρ ow) src f (i + 1) acc) m2) (LEnd K H Q) := by
            unfold bnd at gc
            have : noX (g p (wipeE ρ ow)) m' = .ok ρ2 m2 := by unfold noX; rw [eg]
            rw [this] at gc
            exact gc
          intro σ2 L2 H2 x3 r3 en3 hl hk
          have hD3 : H2 D = some (.lst ws) := x3.keep _ _ hD2 hDL
          have hDL3 : D ∉ L2 := fun z => by
            obtain ⟨N, e1, e2⟩ := x3.pre
            rw [e1] at z
            rcases List.mem_append.mp z with z | z
            · exact hDL z
            · rw [e2 D z] at hD2; cases hD2
          have ia3 := ia2.mono r2 x3
          refine ⟨?_, ?_⟩
          · have : wipe σ2 ow = wipe (wipe σ ow) ow := wipe_eq hl fun k hkk => hk k fun z => hkk (hv k z)
            rw [this, wipe_wipe]
          have x13 : Ext L1 H1 L2 H2 := (x'.trans x2).trans x3
          rw [noX_bnd] at gc
          refine ⟨L2, m2, ρ2, r3, en3, (Go.noX (gc.mono x13).bnd).imp fun k m4 L4 H4 ek x4 r4 gk => ?_⟩
          have x14 := x13.trans x4
          have hD4 : H4 D = some (.lst ws) := x4.keep _ _ hD3 hDL3
          have out : ∀ {La Lb : List Addr} {Ha Hb : Hp}, Ext La Ha Lb Hb → Ha D = some (.lst ws) → D ∉ La → D ∉ Lb := fun {La Lb Ha Hb} x h n z => by
            obtain ⟨N, e1, e2⟩ := x.pre
            rw [e1] at z
            rcases List.mem_append.mp z with z | z
            · exact n z
            · rw [e2 D z] at h; cases h
          have hDL4 := out x4 hD3 hDL3
          have gc1 : Go K W σ L1 H1 (noX (match k with
            | true => bnd (e ρ2) fun y => when_ (decide (acc.length < SZ)) (compL g t e (wipeE ρ ow) src f (i + 1) (acc ++ [y]))
            | false => compL g t e (wipeE ρ ow) src f (i + 1) acc) m4) (LEnd K H Q) := by
            unfold bnd at gc
            have : noX (t ρ2) m2 = .ok k m4 := by unfold noX; rw [ek]
            rw [this] at gc
            exact gc
          cases k with
          | false => exact ⟨L4, m4, acc, ws, x14, r4, hD4, hDL4, ia3.mono r3 x4, gc1⟩
          | true =>
            show lift K WF e σ2 H4 _
            have gc2 : Go K W σ L1 H1 (noX (bnd (e ρ2) fun y => when_ (decide (acc.length < SZ)) (compL g t e (wipeE ρ ow) src f (i + 1) (acc ++ [y]))) m4) (LEnd K H Q) := gc1
            rw [noX_bnd] at gc2
            refine ⟨L4, m4, ρ2, r4, en3.mono r3 x4, (Go.noX (gc2.mono x14).bnd).imp fun y m5 L5 H5 ey x5 r5 gy v hv5 => ?_⟩
            have hD5 : H5 D = some (.lst ws) := x5.keep _ _ hD4 hDL4
            have hDL5 := out x5 hD4 hDL4
            have gc3 : Go K W σ L1 H1 (noX (when_ (decide (acc.length < SZ)) (compL g t e (wipeE ρ ow) src f (i + 1) (acc ++ [y]))) m5) (LEnd K H Q) := by
              unfold bnd at gc2
              have : noX (e ρ2) m4 = .ok y m5 := by unfold noX; rw [ey]
              rw [this] at gc2
              exact gc2
            have ia5 := (ia3.mono r3 x4).mono r4 x5
            cases hz : decide (acc.length < SZ) with
            | false => rw [hz] at gc3; exact False.elim gc3
            | true =>
              rw [hz] at gc3
              have st : Stay L5 H5 L5 (upd H5 D (.lst (ws ++ [v]))) := ⟨fun b u h n => by
                have hb : b ≠ D := fun z => by subst z; rw [hD5] at h; cases h; exact n trivial
                rw [upd_ne hb]; exact h, fun _ _ h => h⟩
              refine ⟨ws, hD5, by rw [ia5.length]; exact of_decide_eq_true hz, L5, m5, acc ++ [y], ws ++ [v], ?_, ?_, upd_same, hDL5, (ia5.append (.cons hv5 .nil)).stay st, gc3⟩
              · have x15 := x14.trans x5
                refine ⟨x15.pre, fun b u h n => ?_, fun b h => ?_⟩
                · have hb : b ≠ D := fun z => by rw [z, hD] at h; cases h
                  rw [upd_ne hb]; exact x15.keep _ _ h n
                · by_cases hb : b = D
                  · rw [hb, upd_same]; simp
                  · rw [upd_ne hb]; exact x15.grow b h
              · exact ⟨r5.nd, r5.len, fun i b u h1 h2 => (r5.obj i b u h1 h2).stay st (upd_ne fun z => hDL5 (z ▸ List.mem_of_getElem? h1))⟩
section
variable {X : Cx} {W : WX} {tg iter elt : Expr} {ifs : List Expr} {scope : Scope} {own : List (Str × Nat)} {pos spos : Pos}
theorem pdl_comp (ok : Cok X) {sd : SD} {vs : List Nat} {g : GD} {t : T} {e : D} (hi : PDI X W tg iter sd) (hb : BlkOk X.N X.env.scope scope own) (hg : ∀ (s : Shared) (H : Hp) (C : Addr) (cl : List (Str × Addr)) (fp : List Addr), PDG (X.blk s H scope (compEnvC scope cl C X.env) fp) tg vs g)
    (ht : ∀ (s : Shared) (H : Hp) (C : Addr) (cl : List (Str × Addr)) (fp : List Addr), PTs (X.blk s H scope (compEnvC scope cl C X.env) fp) ifs (liftT X.K WF t)) (he : ∀ (s : Shared) (H : Hp) (C : Addr) (cl : List (Str × Addr)) (fp : List Addr), PDE (X.blk s H scope (compEnvC scope cl C X.env) fp) WF elt e)
    (hv : ∀ k ∈ vs, k ∈ own.map (·.2) := by decide) (hs : ∀ x, foldedSetIterable iter X.env x = pure x := by intro _; rfl) : PDL X W (.ListComp elt [⟨tg, iter, ifs, 0⟩] scope pos) (lComp sd g t e (own.map (·.2))) :=
  pe_weak (pe_lc (g := liftG X.K vs g) (tt := liftT X.K WF t) (te := lift X.K WF e) ok.calm ok.nd hi hb hg ht he hs) fun _ _ _ h => lc_read hv h
theorem pts_noneG {W : WX} {X : Cx} : PTs X [] (liftT X.K W tYes) := ⟨fun pins s σ H Q I ⟨L, m, ρ, r, e, g⟩ => wpAny_tests_nil ⟨H, I, Go.ret (a := true) g r⟩⟩
theorem pts_oneG {W : WX} {X : Cx} {c : Expr} {t : T} (h : PDT X W c t) : PTs X [c] (liftT X.K W t) := pts_one h
end
end G

/-! G10: statements. -/
namespace G
open PySem PySem.Spec L2
/-- what a statement's result leads to -/
def GoS (K : PySem.W.Frag) (W : WX) (L : List Addr) (H : Hp) (r : RS) (D : Ends) : Prop := match r with
  | .ok f ρ' m' => ∀ σ' L' H', Ext L H L' H' → Rep K L' H' m' → EnvIs K L' H' σ' ρ' → match f with
    | .nx => D.nx σ' H'
    | .bk => D.bk σ' H'
    | .ct => D.ct σ' H'
    | .rt p => ∀ v, Is K L' H' v p → D.rt v H'
  | .exc c x ρ' m' => match W with
    | none => False
    | some w => ∀ σ' L' H' cls e, Ext L H L' H' → Rep K L' H' m' → EnvIs K L' H' σ' ρ' → ExIs K L' H' c x cls e → w cls e σ' H'
  | .bad => False
section
variable {K : PySem.W.Frag} {W : WX} {L L' : List Addr} {H H' : Hp} {m : Hm} {ρ : Env} {σ : L2.St} {D : Ends}
theorem liftS_iff {d : DS} : liftS K W d D σ H ↔ ∃ L m ρ, Rep K L H m ∧ EnvIs K L H σ ρ ∧ GoS K W L H (d ρ m) D := Iff.rfl
theorem GoS.mono {r : RS} (g : GoS K W L H r D) (e : Ext L H L' H') : GoS K W L' H' r D := by
  cases r with
  | ok f ρ' m' => exact fun σ' L2 H2 x => g σ' L2 H2 (e.trans x)
  | exc c v ρ' m' =>
    cases W with
    | none => exact g
    | some w => exact fun σ' L2 H2 cls d x => g σ' L2 H2 cls d (e.trans x)
  | bad => exact g
/-- an expression first -/
theorem GoS.thn {α : Type} {x : M α} {k : α → Hm → RS} (g : GoS K W L H (G.thn x ρ k m) D) (en : EnvIs K L H σ ρ) (r : Rep K L H m) : Go K W σ L H (x m) fun a m1 L1 H1 => GoS K W L1 H1 (k a m1) D := by
  unfold G.thn at g
  cases e : x m with
  | ok a m1 =>
    rw [e] at g
    exact fun L1 H1 x1 r1 => GoS.mono g x1
  | exc c v m1 =>
    rw [e] at g
    cases W with
    | none => exact g
    | some w => exact fun L1 H1 cls d x1 r1 ex => g σ L1 H1 cls d x1 r1 (en.mono r x1) ex
  | bad => rw [e] at g; exact g
theorem GoS.ends {r : RS} {D' : Ends} (g : GoS K W L H r D) (h1 : ∀ σ H, D.nx σ H → D'.nx σ H) (h2 : ∀ v H, D.rt v H → D'.rt v H) (h3 : ∀ σ H, D.bk σ H → D'.bk σ H) (h4 : ∀ σ H, D.ct σ H → D'.ct σ H) : GoS K W L H r D' := by
  cases r with
  | ok f ρ' m' =>
    intro σ' L2 H2 x r e
    have := g σ' L2 H2 x r e
    cases f with
    | nx => exact h1 _ _ this
    | bk => exact h3 _ _ this
    | ct => exact h4 _ _ this
    | rt p => exact fun v hv => h2 _ _ (this v hv)
  | exc c v ρ' m' => exact g
  | bad => exact g
end
section
variable {X : Cx} {W : WX} {e tg c o i v : Expr} {pos p1 : Pos} {st : Stmt} {sts : List Stmt}
theorem pss_nilG : PDSs X W [] sNx := pss_weak pss_nil fun D σ H ⟨L, m, ρ, r, en, g⟩ => g σ L H (Ext.refl L H) r en
theorem pss_oneG {d : DS} (h : PDS X W st d) : PDSs X W [st] d := pss_one h
theorem pss_consG {d d' : DS} (h : PDS X W st d) (h' : PDSs X W sts d') : PDSs X W (st :: sts) (sSeq d d') := by
  refine pss_weak (pss_cons h h') fun D σ H ⟨L, m, ρ, r, en, g⟩ => ?_
  refine ⟨L, m, ρ, r, en, ?_⟩
  show GoS X.K W L H (d ρ m) { D with nx := liftS X.K W d' D }
  have g : GoS X.K W L H (sSeq d d' ρ m) D := g
  unfold sSeq at g
  cases q : d ρ m with
  | ok f ρ' m' =>
    rw [q] at g
    cases f with
    | nx => exact fun σ' L' H' x r' e' => ⟨L', m', ρ', r', e', GoS.mono g x⟩
    | bk => exact g
    | ct => exact g
    | rt p => exact g
  | exc _ _ _ _ => rw [q] at g; exact g
  | bad => rw [q] at g; exact g
theorem ps_passG : PDS X W (.Pass pos) sNx := ps_weak ps_pass fun D σ H ⟨L, m, ρ, r, en, g⟩ => g σ L H (Ext.refl L H) r en
theorem ps_breakG : PDS X W (.Break pos) sBk := ps_weak ps_break fun D σ H ⟨L, m, ρ, r, en, g⟩ => g σ L H (Ext.refl L H) r en
theorem ps_contG : PDS X W (.Continue pos) sCt := ps_weak ps_continue fun D σ H ⟨L, m, ρ, r, en, g⟩ => g σ L H (Ext.refl L H) r en
theorem ps_exprG {d : D} (h : PDE X W e d) (hs : swapsWith e none pos.line X.env = pure false := by rfl) : PDS X W (.Expr e pos) (sExpr d) := by
  refine ps_weak (ps_expr h hs) fun D σ H ⟨L, m, ρ, r, en, g⟩ => ?_
  exact ⟨L, m, ρ, r, en, (GoS.thn g en r).imp fun a m1 L1 H1 _ x1 r1 g1 v hv => g1 σ L1 H1 (Ext.refl L1 H1) r1 (en.mono r x1)⟩
theorem ps_retG {d : D} (h : PDE X W e d) : PDS X W (.Return (some e) pos) (sRet d) := by
  refine ps_weak (ps_ret h) fun D σ H ⟨L, m, ρ, r, en, g⟩ => ?_
  exact ⟨L, m, ρ, r, en, (GoS.thn g en r).imp fun a m1 L1 H1 _ x1 r1 g1 v hv => g1 σ L1 H1 (Ext.refl L1 H1) r1 (en.mono r x1) v hv⟩
theorem ps_ifG {t : T} {a b : List Stmt} {d d' : DS} (hc : PDT X W c t) (ha : PDSs X W a d) (hb : PDSs X W b d') : PDS X W (.If c a b pos) (sIf t d d') := by
  refine ps_weak (ps_if hc ha hb) fun D σ H ⟨L, m, ρ, r, en, g⟩ => ?_
  refine ⟨L, m, ρ, r, en, (GoS.thn g en r).imp fun k m1 L1 H1 _ x1 r1 g1 => ?_⟩
  cases k with
  | true => exact ⟨L1, m1, ρ, r1, en.mono r x1, g1⟩
  | false => exact ⟨L1, m1, ρ, r1, en.mono r x1, g1⟩
theorem tgt_end {K : PySem.W.Frag} {L : List Addr} {H : Hp} {m : Hm} {ρ : Env} {σ : L2.St} {D : Ends} {vs : List Nat} {g : GD} {v : V} {p : P} (r : Rep K L H m) (en : EnvIs K L H σ ρ) (i : Is K L H v p) (h : GoS K W L H (thn (g p ρ) ρ (fun ρ' m' => .ok .nx ρ' m') m) D) (hx : ∀ c x m', g p ρ m ≠ .exc c x m') : liftG K vs g v σ H D.nx := by
  refine ⟨L, m, ρ, p, r, en, i, ?_⟩
  unfold thn at h
  cases q : g p ρ m with
  | ok ρ' m' =>
    rw [q] at h
    exact fun σ' L' H' x r' e' _ _ => h σ' L' H' x r' e'
  | exc c x m' => exact (hx c x m' q).elim
  | bad => rw [q] at h; exact h
/-- a target never raises -/
def NoExc (g : GD) : Prop := ∀ p ρ m c x m', g p ρ m ≠ .exc c x m'
def NoExcs (g : GsD) : Prop := ∀ p ρ m c x m', g p ρ m ≠ .exc c x m'
theorem nx_name (i : Nat) : NoExc (gName i) := fun p ρ m c x m' h => nomatch h
theorem nx_nil : NoExcs gNil := fun p ρ m c x m' h => by cases p <;> cases h
theorem nx_cons {g : GD} {gs : GsD} (h : NoExc g) (h' : NoExcs gs) : NoExcs (gCons g gs) := fun p ρ m c x m' e => by
  cases p with
  | nil => cases e
  | cons p ps =>
    have e : bnd (g p ρ) (fun ρ' => gs ps ρ') m = .exc c x m' := e
    unfold bnd at e
    cases q : g p ρ m with
    | ok a m1 => rw [q] at e; exact h' _ _ _ _ _ _ e
    | exc a b d => exact h _ _ _ _ _ _ q
    | bad => rw [q] at e; cases e
theorem nx_tup {n : Nat} {gs : GsD} (h : NoExcs gs) : NoExc (gTup n gs) := fun p ρ m c x m' e => by
  cases p with
  | tup ps =>
    have e : when_ (decide (ps.length = n)) (gs ps ρ) m = .exc c x m' := e
    unfold when_ at e
    cases q : decide (ps.length = n) with
    | true => rw [q] at e; exact h _ _ _ _ _ _ e
    | false => rw [q] at e; cases e
  | _ => cases e
theorem ps_asgG {d : D} {g : GD} {vs : List Nat} (he : PDE X W e d) (hg : PDG X tg vs g) (hn : NoExc g) (hs : swapsWithSole [tg] e pos.line X.env = pure false := by rfl) (hw : swappedStores [tg] e X.env = pure none := by rfl)
    (h1 : (assignEach [tg] X.env).map (·.2) = [assign tg X.env] := by rfl) : PDS X W (.Assign [tg] e pos) (sAsg d g) := by
  refine ps_weak (ps_asg he hg hs hw h1) fun D σ H ⟨L, m, ρ, r, en, gg⟩ => ?_
  exact ⟨L, m, ρ, r, en, (GoS.thn gg en r).imp fun p m1 L1 H1 _ x1 r1 g1 v hv => tgt_end r1 (en.mono r x1) hv g1 fun c x m' => hn p ρ m1 c x m'⟩
theorem ps_setG (ok : Cok X) {i : Nat} {x : Str} {d : D} (he : PDE X W e d) (hi : X.N[i]? = some x := by rfl) (hx : Loc X.env.scope x := by first | exact Or.inl rfl | exact Or.inr rfl) (hs : swapsWith e (some (.Name x p1)) pos.line X.env = pure false := by rfl) (hf : X.fn x = true ∨ X.env.scope.names.lookup x = some .local := by first | exact .inl rfl | exact .inr rfl) : PDS X W (.Assign [.Name x p1] e pos) (sSet i d) := by
  refine ps_weak (ps_set ok.nd hi hx he hs hf) fun D σ H ⟨L, m, ρ, r, en, gg⟩ => ?_
  exact ⟨L, m, ρ, r, en, (GoS.thn gg en r).imp fun p m1 L1 H1 _ x1 r1 g1 v hv => g1 (σ.set i (some v)) L1 H1 (Ext.refl L1 H1) r1 ((en.mono r x1).set i hv)⟩
/-- name = [..] on one line: the list becomes ours -/
theorem ps_setLcG (ok : Cok X) {i : Nat} {y : Str} {py cpos spos : Pos} {elt iter : Expr} {ifs : List Expr} {scope : Scope} {own : List (Str × Nat)} {sd : SD} {vs : List Nat} {g : GD} {t : T} {d : D} (hi : PDI X W tg iter sd) (hb : BlkOk X.N X.env.scope scope own) (hg : ∀ (s : Shared) (H : Hp) (C : Addr) (cl : List (Str × Addr)) (fp : List Addr), PDG (X.blk s H scope (compEnvC scope cl C X.env) fp) tg vs g)
    (ht : ∀ (s : Shared) (H : Hp) (C : Addr) (cl : List (Str × Addr)) (fp : List Addr), PTs (X.blk s H scope (compEnvC scope cl C X.env) fp) ifs (liftT X.K WF t)) (he : ∀ (s : Shared) (H : Hp) (C : Addr) (cl : List (Str × Addr)) (fp : List Addr), PDE (X.blk s H scope (compEnvC scope cl C X.env) fp) WF elt d)
    (hk : X.env.scope.kind = .function := by rfl) (hyl : X.env.scope.names.lookup y = some .local := by rfl) (hl : (py.line == cpos.line) = true := by rfl) (hl2 : (py.line == spos.line) = true := by rfl) (hy : X.N[i]? = some y := by rfl) (hv : ∀ k ∈ vs, k ∈ own.map (·.2) := by decide) (hs : ∀ x, foldedSetIterable iter X.env x = pure x := by intro _; rfl)
    (hsw : swapsWith (.ListComp elt [⟨tg, iter, ifs, 0⟩] scope cpos) (some (.Name y py)) spos.line X.env = pure true := by first | exact sw_true rfl rfl rfl (by decide +kernel) | rfl) : PDS X W (.Assign [.Name y py] (.ListComp elt [⟨tg, iter, ifs, 0⟩] scope cpos) spos) (sSet i (dNew (lComp sd g t d (own.map (·.2))))) := by
  refine ps_weak (ps_setLc (g := liftG X.K vs g) (tt := liftT X.K WF t) (te := lift X.K WF d) ok.calm ok.nd hy hyl hsw hi hb hg ht he hs) fun D σ H ⟨L, m, ρ, r, en, gg⟩ => ?_
  show tLc _ _ _ _ _ σ H (fun x H1 => L2.gName i x σ H1 D.nx)
  refine lc_read hv ⟨L, m, ρ, r, en, ?_⟩
  have g1 := GoS.thn gg en r
  have g1 : Go X.K W σ L H (bnd (lComp sd g t d (own.map (·.2)) ρ) (fun ps => newO (.lst ps)) m) _ := g1
  unfold bnd at g1
  cases q : lComp sd g t d (own.map (·.2)) ρ m with
  | ok ps m1 =>
    rw [q] at g1
    intro L1 H1 x1 r1 a vs h0 h1 h2 h3
    have k := g1 (L1 ++ [a]) H1 (x1.link h0) (r1.link h2 ⟨vs, h1, h3⟩)
    exact k (σ.set i (some (.ref a))) (L1 ++ [a]) H1 (Ext.refl _ _) (r1.link h2 ⟨vs, h1, h3⟩) ((en.mono r (x1.link h0)).set i (.ref (by rw [← r1.len]; simp)))
  | exc c x m1 => rw [q] at g1; exact g1
  | bad => rw [q] at g1; exact g1
/-- a, b = x, y -/
theorem ps_parG (ok : Cok X) {i j : Nat} {x y : Str} {px py pt pt2 spos : Pos} {a b : Expr} {kt k2 : Nat} {t : A} (ha : PDA X W [a, b] t) (hi : X.N[i]? = some x := by rfl) (hj : X.N[j]? = some y := by rfl) (hij : i ≠ j := by decide) (hx : X.env.scope.names.lookup x = some .local := by rfl) (hy : X.env.scope.names.lookup y = some .local := by rfl)
    (hw : swappedStores [.Tuple [.Name x px, .Name y py] kt pt] (.Tuple [a, b] k2 pt2) X.env = pure (some [x, y]) := by rfl) : PDS X W (.Assign [.Tuple [.Name x px, .Name y py] kt pt] (.Tuple [a, b] k2 pt2) spos) (sPar2 i j t) := by
  refine ps_weak (ps_par (i := i) (j := j) ok.calm ok.nd hi hj hij hx hy ha hw) fun D σ H ⟨L, m, ρ, r, en, gg⟩ => ?_
  refine ⟨L, m, ρ, r, en, (GoS.thn gg en r).imp fun ps m1 L1 H1 _ x1 r1 g1 vs hv => ?_⟩
  cases hv with
  | nil => exact False.elim g1
  | cons i1 t1 =>
    cases t1 with
    | nil => exact False.elim g1
    | cons i2 t2 =>
      cases t2 with
      | nil => exact ⟨_, _, rfl, g1 _ L1 H1 (Ext.refl L1 H1) r1 (((en.mono r x1).set i i1).set j i2)⟩
      | cons _ _ => exact False.elim g1
theorem ps_par3G (ok : Cok X) {i j l : Nat} {x y z : Str} {px py pz pt pt2 spos : Pos} {a b c : Expr} {kt k2 : Nat} {t : A} (ha : PDA X W [a, b, c] t) (hi : X.N[i]? = some x := by rfl) (hj : X.N[j]? = some y := by rfl) (hl : X.N[l]? = some z := by rfl) (hij : i ≠ j := by decide) (hil : i ≠ l := by decide) (hjl : j ≠ l := by decide) (hx : X.env.scope.names.lookup x = some .local := by rfl) (hy : X.env.scope.names.lookup y = some .local := by rfl) (hz : X.env.scope.names.lookup z = some .local := by rfl)
    (hw : swappedStores [.Tuple [.Name x px, .Name y py, .Name z pz] kt pt] (.Tuple [a, b, c] k2 pt2) X.env = pure (some [x, y, z]) := by rfl) : PDS X W (.Assign [.Tuple [.Name x px, .Name y py, .Name z pz] kt pt] (.Tuple [a, b, c] k2 pt2) spos) (sPar3 i j l t) := by
  refine ps_weak (ps_par3 (i := i) (j := j) (l := l) ok.calm ok.nd hi hj hl hij hil hjl hx hy hz ha hw) fun D σ H ⟨L, m, ρ, r, en, gg⟩ => ?_
  refine ⟨L, m, ρ, r, en, (GoS.thn gg en r).imp fun ps m1 L1 H1 _ x1 r1 g1 vs hv => ?_⟩
  cases hv with
  | nil => exact False.elim g1
  | cons i1 t1 =>
    cases t1 with
    | nil => exact False.elim g1
    | cons i2 t2 =>
      cases t2 with
      | nil => exact False.elim g1
      | cons i3 t3 =>
        cases t3 with
        | nil => exact ⟨_, _, _, rfl, g1 _ L1 H1 (Ext.refl L1 H1) r1 ((((en.mono r x1).set i i1).set j i2).set l i3)⟩
        | cons _ _ => exact False.elim g1
/-- a loop -/
theorem ps_whileG {t : T} {body : List Stmt} {d : DS} {N : Nat} (hp : PassesOwn (model X.prog X.w) X.A X.env X.xe) (hc : PDT X W c t) (hb : PDSs X W body d) : PDS X W (.While c body [] pos) (sWhile t d N) := by
  refine ps_weak (ps_while hp hc hb) fun D σ H ⟨L, m, ρ, r, en, gg⟩ => ?_
  refine ⟨fun n σ' H' => ∃ L' m' ρ', Rep X.K L' H' m' ∧ EnvIs X.K L' H' σ' ρ' ∧ GoS X.K W L' H' (sWhile t d n ρ' m') D, ⟨N, L, m, ρ, r, en, gg⟩, ?_⟩
  rintro n σ1 H1 ⟨L1, m1, ρ1, r1, en1, g1⟩
  cases n with
  | zero => exact False.elim g1
  | succ n =>
    refine ⟨L1, m1, ρ1, r1, en1, (GoS.thn g1 en1 r1).imp fun k m2 L2 H2 _ x2 r2 g2 => ?_⟩
    cases k with
    | false => exact g2 σ1 L2 H2 (Ext.refl L2 H2) r2 (en1.mono r1 x2)
    | true =>
      refine ⟨fun σ' H' => ∃ L' m' ρ', Rep X.K L' H' m' ∧ EnvIs X.K L' H' σ' ρ' ∧ GoS X.K W L' H' (sWhile t d n ρ' m') D, fun σ' H' h => ⟨n, Nat.lt_succ_self n, h⟩, L2, m2, ρ1, r2, en1.mono r1 x2, ?_⟩
      show GoS X.K W L2 H2 (d ρ1 m2) _
      cases q : d ρ1 m2 with
      | ok f ρ' m' =>
        simp only [q] at g2
        cases f with
        | nx => exact fun σ' L' H' x r' e' => ⟨L', m', ρ', r', e', GoS.mono g2 x⟩
        | ct => exact fun σ' L' H' x r' e' => ⟨L', m', ρ', r', e', GoS.mono g2 x⟩
        | bk => exact g2
        | rt p => exact g2
      | exc c x ρ' m' => simp only [q] at g2; exact g2
      | bad => simp only [q] at g2; exact False.elim g2
theorem ps_forG (ok : Cok X) {iter : Expr} {sd : SD} {vs : List Nat} {g : GD} {body : List Stmt} {d : DS} (hp : PassesOwn (model X.prog X.w) X.A X.env X.xe) (hi : PDI X W tg iter sd) (hg : PDG X tg vs g) (hn : NoExc g) (hb : PDSs X W body d) (hs : ∀ x, foldedSetIterable iter X.env x = pure x := by intro _; rfl) : PDS X W (.For tg iter body [] pos) (sFor sd g d) := by
  refine ps_weak (ps_for hp ok.calm hi hg hb hs) fun D σ H ⟨L, m, ρ, r, en, gg⟩ => ?_
  refine ⟨L, m, ρ, r, en, (GoS.thn gg en r).imp fun src m1 L1 H1 _ x1 r1 g1 J hJ => ?_⟩
  refine ⟨fun i f σ' H' => ∃ L' m' ρ', Ext L1 H1 L' H' ∧ Rep X.K L' H' m' ∧ EnvIs X.K L' H' σ' ρ' ∧ GoS X.K W L' H' (forL src g d f i ρ' m') D, ⟨src.len m1, L1, m1, ρ, Ext.refl L1 H1, r1, en.mono r x1, g1⟩, ?_⟩
  rintro i f σ2 H2 ⟨L2, m2, ρ2, x2, r2, en2, g2⟩
  cases hat : src.at i m2 with
  | none => cases f <;> (unfold forL at g2; simp only [hat] at g2; exact False.elim g2)
  | some o =>
    have hj := hJ L2 H2 m2 x2 r2 i o hat
    cases o with
    | none =>
      refine .inl ⟨hj, ?_⟩
      cases f <;> (unfold forL at g2; simp only [hat] at g2; exact g2 σ2 L2 H2 (Ext.refl L2 H2) r2 en2)
    | some p =>
      cases f with
      | zero => unfold forL at g2; simp only [hat] at g2; exact False.elim g2
      | succ f =>
        obtain ⟨jg, jy⟩ := hj
        refine .inr ⟨jg, fun σ' H' => ∃ L' m' ρ', Ext L1 H1 L' H' ∧ Rep X.K L' H' m' ∧ EnvIs X.K L' H' σ' ρ' ∧ GoS X.K W L' H' (forL src g d f (i + 1) ρ' m') D, fun σ' H' h => ⟨f, Nat.lt_succ_self f, h⟩, fun x H3 y => ?_⟩
        obtain ⟨x3, r3, i3⟩ := jy x H3 y
        refine ⟨L2, m2, ρ2, p, r3, en2.mono r2 x3, i3, ?_⟩
        have g3 : GoS X.K W L2 H2 (thn (g p ρ2) ρ2 (fun ρ1 m1 => match d ρ1 m1 with
          | .ok .nx ρ' m' => forL src g d f (i + 1) ρ' m'
          | .ok .ct ρ' m' => forL src g d f (i + 1) ρ' m'
          | .ok .bk ρ' m' => .ok .nx ρ' m'
          | r => r) m2) D := by
          unfold forL at g2
          simp only [hat] at g2
          exact g2
        unfold thn at g3
        cases eg : g p ρ2 m2 with
        | exc c x m' => exact (hn p ρ2 m2 c x m' eg).elim
        | bad => rw [eg] at g3; exact False.elim g3
        | ok ρ4 m4 =>
          rw [eg] at g3
          intro σ4 L4 H4 x4 r4 en4 _ _
          have x24 := x3.trans x4
          refine ⟨L4, m4, ρ4, r4, en4, ?_⟩
          show GoS X.K W L4 H4 (d ρ4 m4) _
          have g4 := GoS.mono g3 x24
          have x14 := x2.trans x24
          cases q : d ρ4 m4 with
          | ok fl ρ' m' =>
            simp only [q] at g4
            cases fl with
            | nx => exact fun σ' L' H' x r' e' => ⟨L', m', ρ', x14.trans x, r', e', GoS.mono g4 x⟩
            | ct => exact fun σ' L' H' x r' e' => ⟨L', m', ρ', x14.trans x, r', e', GoS.mono g4 x⟩
            | bk => exact g4
            | rt p => exact g4
          | exc c x ρ' m' => simp only [q] at g4; exact g4
          | bad => simp only [q] at g4; exact False.elim g4
end
end G

/-! G11: o[i] = v; enumerate of a tuple. -/
namespace G
open PySem PySem.Spec L2
def sV (K : PySem.W.Frag) (W : WX) : V → V → V → Hp → (Hp → Prop) → Prop := fun o i v H Q => ∃ (L : List Addr) (m : Hm) (σ : L2.St) (x y z : P), Rep K L H m ∧ Is K L H o x ∧ Is K L H i y ∧ Is K L H v z ∧ Go K W σ L H (setP x y z m) fun _ _ _ H' => Q H'
section
variable {X : Cx} {W : WX} {e tg c o i v : Expr} {pos p1 : Pos}
theorem ixN_list {ps : List P} {vs : List V} {k : Int} {j : Nat} (h : vs.length = ps.length) (e : ixN ps.length k = some j) : ixN vs.length k = some j := by rw [h]; exact e
theorem pset_all (ok : Cok X) : PSet X (sV X.K W) := by
  intro pins s σ H o i v ov iv u Q I ro ri rv ⟨L, m, σ', x, y, z, r, ix, iy, iz, g⟩
  have hu := ok.hu
  cases ix with
  | @ref a n h =>
    obtain rfl : ov = Value.ref a := ro
    obtain ⟨ob, e1, g⟩ := Go.getO g
    cases ob with
    | lst ps =>
      cases iy with
      | int k =>
        cases e2 : ixN ps.length k with
        | none => simp only [e2] at g; exact False.elim g
        | some j =>
          simp only [e2] at g
          obtain ⟨vs, k1, k2⟩ := r.lst h e1
          have st : Ext L H L (upd H a (.lst (vs.set j v))) := ext_put h
          exact set_list pins s σ H _ _ v _ iv u Q I (show RelV (V.ref a) (Value.ref a) from rfl) ri rv ⟨a, vs, k, j, rfl, rfl, k1, ixN_list k2.length e2, g L _ st (r.put h trivial ⟨_, upd_same, (k2.set j iz).stay (st.stay r)⟩)⟩
      | _ => exact False.elim g
    | dK kvs =>
      obtain ⟨ws, k1, k2⟩ := r.obj n a _ h e1
      have g : Go X.K W σ' L H (dStore n y z m) _ := g
      unfold dStore at g
      rw [e1] at g
      simp only at g
      cases hk : keyOf y with
      | some q =>
        simp only [hk] at g
        obtain rfl := keyOf_is iy hk
        cases hz : decide (kvs.length < SZ) with
        | false => rw [hz] at g; exact False.elim g
        | true =>
          rw [hz] at g
          have st : Ext L H L (upd H a (.dK (putK ws q v))) := ext_put h
          exact d_setItem (by omega) I (DPut.k k1 (by rw [k2.length]; exact of_decide_eq_true hz)) ri rv fun s' I' => ⟨_, I', g L _ st (r.put h trivial ⟨_, upd_same, KvIs.stay (st.stay r) (k2.put q iz)⟩)⟩
      | none =>
        simp only [hk] at g
        cases kvs with
        | cons c cs => exact False.elim g
        | nil =>
          cases k2
          cases ht : tkeyOf y with
          | none => simp only [ht] at g; exact False.elim g
          | some q =>
            simp only [ht] at g
            obtain ⟨b, rfl, hb⟩ := tkeyOf_is iy ht
            have hba : b ≠ a := ne_of hb k1 (by intro z; cases z)
            have I1 := inv_dT I k1
            have st : Ext L H L (upd H a (.dT [(q, v)])) := ext_put h
            exact d_setItem (by omega) I1 (DPut.t (kvs := []) (k := q) (v := v) upd_same (by rw [upd_ne hba]; exact hb) (by decide)) ri rv fun s' I' => ⟨_, I', by
              rw [upd_upd]
              exact g L _ st (r.put h trivial ⟨_, upd_same, .cons ⟨rfl, iz.stay (st.stay r)⟩ .nil⟩)⟩
    | dT kvs =>
      obtain ⟨ws, k1, k2⟩ := r.obj n a _ h e1
      have g : Go X.K W σ' L H (dStore n y z m) _ := g
      unfold dStore at g
      rw [e1] at g
      simp only at g
      cases ht : tkeyOf y with
      | none => simp only [ht] at g; exact False.elim g
      | some q =>
        simp only [ht] at g
        obtain ⟨b, rfl, hb⟩ := tkeyOf_is iy ht
        cases hz : decide (kvs.length < SZ) with
        | false => rw [hz] at g; exact False.elim g
        | true =>
          rw [hz] at g
          have st : Ext L H L (upd H a (.dT (putK ws q v))) := ext_put h
          exact d_setItem (by omega) I (DPut.t k1 hb (by rw [k2.length]; exact of_decide_eq_true hz)) ri rv fun s' I' => ⟨_, I', g L _ st (r.put h trivial ⟨_, upd_same, KvIs.stay (st.stay r) (k2.put q iz)⟩)⟩
    | lk kvs =>
      have g : Go X.K W σ' L H (dStore n y z m) _ := g
      unfold dStore at g
      rw [e1] at g
      exact False.elim g
  | _ => exact False.elim g
theorem ps_putG (ok : Cok X) {dv d di : D} (hv : PDE X W v dv) (ho : PDE X W o d) (hi : PDE X W i di) (ha : ∀ u, assign (.Subscript o i p1) X.env u = (do
      let ov ← holding [u] (eval o X.env)
      let iv ← holding [u, ov] (eval i X.env)
      standAt p1
      holding [u, ov, iv] (setItem ov iv u)
      release [u, ov, iv] []) := by intro _; rfl) (hs : swapsWithSole [.Subscript o i p1] v pos.line X.env = pure false := by rfl) (hw : swappedStores [.Subscript o i p1] v X.env = pure none := by rfl)
    (h1 : (assignEach [.Subscript o i p1] X.env).map (·.2) = [assign (.Subscript o i p1) X.env] := by rfl) : PDS X W (.Assign [.Subscript o i p1] v pos) (sPut d di dv) := by
  refine ps_weak (ps_asg hv (pg_sub ho hi (pset_all (W := W) ok) ha) hs hw h1) fun D σ H ⟨L, m, ρ, r, en, gg⟩ => ?_
  have g0 := GoS.thn gg en r
  refine lift_bnd r en g0 fun z q m1 L1 H1 x1 r1 e1 i1 g1 => lift_bnd r1 e1 g1 fun x p m2 L2 H2 x2 r2 e2 i2 g2 => lift_bnd r2 e2 g2 fun y k m3 L3 H3 x3 r3 e3 i3 g3 => ?_
  exact ⟨L3, m3, σ, p, k, q, r3, i2.mono r2 x3, i3, (i1.mono r1 x2).mono r2 x3, g3.imp fun _ m4 L4 H4 _ x4 r4 g4 => g4 σ L4 H4 (Ext.refl L4 H4) r4 (e3.mono r3 x4)⟩
end
/-! ### enumerate(tuple) -/
section
open AutoSeq1 (wpAny_loadPart')
theorem enumNewT (l : Addr) (items : Array Value) (o : Obj) (hc : o.cls = .type "tuple") (n : Nat) (hd : o.data = .seq items n) : Meets (Builtin.«enumerate.__new__» ⟨[.type "enumerate", .ref l], []⟩) (fun _ R s => s.heap.get? l = some o ∧
    R (.ok (.ret (.ref (s.heap.push { cls := .type "tuple_iterator", data := .fields #[.ref l, .int 0 0] }).objs.size))) { s with heap := (s.heap.push { cls := .type "tuple_iterator", data := .fields #[.ref l, .int 0 0] }).push { cls := .type "enumerate", data := .fields #[.none, .bool false, .ref s.heap.objs.size, rawInt 0, .none, .none] } }) :=
  .of_wp fun prog w A R s h => by
    obtain ⟨hp, g, d, tk, os⟩ := s; obtain ⟨hl, h⟩ := h; have hsub := sub_enumerate
    have hL : Heap.IsTuple (Shared.heap ⟨hp, g, d, tk, os⟩) l items := ⟨_, hl, hc, n, hd⟩
    wp_walk using wpAny_loadPart' hl
    refine wpAny_stack_any fun st => wpAny_pure ?_
    split
    · rename_i c _ _ _ _ _
      cases (c == Value.type "enumerate") <;> (wp_walk using wpAny_loadPart' hl, wpAny_pyIter_tuple hL; exact ⟨_, rfl, h⟩)
    · wp_walk using wpAny_loadPart' hl, wpAny_pyIter_tuple hL
      exact ⟨_, rfl, h⟩
end
theorem enumT {prog : Program} {w : World} {A : Around} {E : Value → Shared → Prop} {s : Shared} {l : Addr} {items : Array Value} {Q : Value → Shared → Prop} (hL : PyProof.Rows.IsTup s.heap l items) (h : ∀ h', IsEnum h' (s.heap.objs.size + 1) s.heap.objs.size 0 .none → h'.IsTupleIter s.heap.objs.size l 0 → (∀ b o, s.heap.get? b = some o → h'.get? b = some o) → Q (.ref (s.heap.objs.size + 1)) { s with heap := h' }) :
    wpAny (model prog w) A (call (.type "enumerate") [.ref l]) Q E s := by
  obtain ⟨o, hl, hc, n, hd⟩ := hL
  refine callType_new F.called_enumerate (by decide) (F.typeCall_enumerate_1 _) (F.newCall_enumerate_1 _) (fun obj => F.args_object_init_2 obj _) F.entry_enumerate_new (enumNewT l items o hc n hd) ⟨hl, ?_⟩
  have hz : (s.heap.push { cls := .type "tuple_iterator", data := .fields #[.ref l, .int 0 0] }).objs.size = s.heap.objs.size + 1 := Heap.size_push ..
  show _ ∧ _
  rw [hz]
  have he : IsEnum ((s.heap.push { cls := .type "tuple_iterator", data := .fields #[.ref l, .int 0 0] }).push { cls := .type "enumerate", data := .fields #[.none, .bool false, .ref s.heap.objs.size, rawInt 0, .none, .none] }) (s.heap.objs.size + 1) s.heap.objs.size 0 .none := by
    have := Heap.get?_push_size (s.heap.push { cls := .type "tuple_iterator", data := .fields #[.ref l, .int 0 0] }) (o := { cls := .type "enumerate", data := .fields #[.none, .bool false, .ref s.heap.objs.size, rawInt 0, .none, .none] }) rfl
    rw [hz] at this; exact this
  exact ⟨⟨_, he, rfl⟩, h _ he ⟨_, Heap.get?_push_of_some _ (Heap.get?_push_size _ rfl), rfl, rfl⟩ fun b o x => Heap.get?_push_of_some _ (Heap.get?_push_of_some _ x)⟩
/-- the tuple at a, each item in a new pair -/
def IteT (K : PySem.W.Frag) (a : Addr) : It := ⟨fun i H => ∃ (xs : List V) (x : V), SqT K H a xs ∧ xs[i]? = some x, fun i H v H' => ∃ T x, v = .ref T ∧ H T = none ∧ H' = upd H T (.tup [.int (i : Nat), x]) ∧ ∀ xs, SqT K H a xs → xs[i]? = some x, fun i H => ∃ xs : List V, SqT K H a xs ∧ xs.length ≤ i⟩
theorem turn_enumT {P : Program} {w : World} {K : PySem.W.Frag} {elts : List Expr} {kk : Nat} {tpos : Pos} (a e it : Addr) : Turn P w K (.Tuple elts kk tpos) (IteT K a) [e, it] e (fun i h => (∃ old, IsEnum h e it ((i : Nat) : Int) old) ∧ h.IsTupleIter it a i ∧ e ≠ it ∧ a ≠ it ∧ a ≠ e) where
  mem := by simp
  obj := fun i h st b hb => by
    obtain ⟨⟨old, he⟩, ⟨o, ho, hc, hd⟩, _⟩ := st
    rcases (show b = e ∨ b = it by simpa using hb) with z | z <;> rw [z]
    · exact ⟨_, he, fun v q => nomatch q⟩
    · exact ⟨o, ho, fun v q => by rw [hd] at q; cases q⟩
  keep := fun i h h' st k => let ⟨⟨old, he⟩, hi, hne⟩ := st; ⟨⟨old, k e (by simp) _ he⟩, hi.at fun o q => k it (by simp) o q, hne⟩
  item := by
    intro X hP hw hK hc i pins s σ H E I hf st hg
    subst hP hw hK
    obtain ⟨⟨old, he⟩, hit, hne, hai, hae⟩ := st
    obtain ⟨xs, x, hq, hx⟩ := hg
    obtain ⟨its, rv, p, hz⟩ := I.tuple hq
    obtain ⟨u, hu, ru⟩ := rv.get hx
    have hil : it < s.heap.objs.size := by obtain ⟨_, q, _⟩ := hit; exact Heap.lt_size q
    have hel := Heap.lt_size he
    have hlt : i < its.toArray.size := by rw [List.size_toArray]; exact (List.getElem?_eq_some_iff.mp hu).1
    refine wpAny_pyNext_enum_itemD (i := i) (Draws.tuple (A := X.A.in1) (I.ok.hd hc) it a hai its.toArray) he ⟨hit, p⟩ hlt hne (by simp [hne, Ne.symm hae]) fun x' h' tk hx' ho hst hT hsz hk => ?_
    have ex : x' = u := by
      have : its.toArray[i]? = some x' := hx'
      rw [List.getElem?_toArray, hu] at this
      exact (Option.some.inj this).symm
    subst ex
    refine ⟨_, rfl, wpAny_letOwnedTupleGo_enum (s := { s with heap := h', toks := tk + 1 }) ho fun h'' he' sb => ?_⟩
    have hT2 : h''.get? s.heap.objs.size = some { cls := .type "tuple", data := .seq #[.int i tk, x'] } := (sb.2 _ (Nat.ne_of_gt hel)).trans hT
    have new : ObjOk X.prog X.w (upd H s.heap.objs.size (.tup [.int (i : Nat), x])) h'' s.heap.objs.size (.tup [.int (i : Nat), x]) := ⟨by show 2 ≤ sizeLine; decide, [.int i tk, x'], .cons ⟨_, rfl⟩ (.cons ru .nil), ⟨_, hT2, rfl, _, rfl⟩⟩
    have I1 : Inv X pins σ (upd H s.heap.objs.size (.tup [.int (i : Nat), x])) { s with heap := h'', toks := tk + 1 } := I.turnedNew (ch := [e, it]) (fun b ob hb q => (sb.2 b (fun z => hb (by simp [z]))).trans (hk b ob (fun z => hb (by simp [z])) (fun z => hb (by simp [z])) q)) hf (Nat.le_refl _) new
    have e1 : ((i + 1 : Nat) : Int) = (i : Int) + 1 := by omega
    refine ⟨.ref s.heap.objs.size, _, I1, rfl, ⟨_, x, rfl, I.hok.fresh (Nat.le_refl _), rfl, fun ys hy => by rw [I.tuple_inj hy hq]; exact hx⟩, ⟨⟨x', by rw [e1]; exact he'⟩, hst.1.at fun o q => (sb.2 it (Ne.symm hne)).trans q, hne, hai, hae⟩, fun b hb => ?_⟩
    have hb' : b < s.heap.objs.size := by
      rcases (show b = e ∨ b = it by simpa using hb) with z | z <;> rw [z]
      · exact hel
      · exact hil
    rw [upd_ne (Nat.ne_of_lt hb')]
    exact (hf b hb).1
  done := by
    intro X hP hw hK hc i pins s σ H E I hf st hg
    subst hP hw hK
    obtain ⟨⟨old, he⟩, hit, hne, hai, hae⟩ := st
    obtain ⟨xs, hq, hx⟩ := hg
    obtain ⟨its, rv, p, hz⟩ := I.tuple hq
    obtain ⟨f0, f1, f2, f3, f4, f5⟩ := hf it (by simp)
    have dr : Draws X.prog X.w X.A.in1 it [it, a] i (fun _ _ => True) (fun j h => j = i ∧ h.IsTupleIter it a i ∧ h.IsTuple a its.toArray) := {
      live := fun _ _ st => let ⟨o, ho, _⟩ := st.2.1; ⟨o, ho⟩
      frame := fun _ _ _ st hk => ⟨st.1, st.2.1.at fun o e => hk it (by simp) o e, st.2.2.at fun o e => hk a (by simp) o e⟩
      item := fun j s Q E hj st hQ => absurd hj (by rw [st.1]; exact Nat.lt_irrefl i)
      done := fun s Q E st hE => wpAny_nextOf_tuple_end (I.ok.hd hc) st.2.1 st.2.2 (by have := rv.length; simp; omega) hE }
    exact wpAny_pyNext_enum_endD dr he ⟨rfl, hit, p⟩ fun h' eb => ⟨rfl, I.turned (t' := s.toks) (fun b o hb q => eb b o hb q) f0 f1 f3 f4 f5⟩
  self := fun A i s Q E st h => let ⟨⟨_, he⟩, _⟩ := st; wpAny_pyIter_enum he h
section
variable {X : Cx} {W : WX} {e : Expr} {pos p1 tpos : Pos} {elts : List Expr} {kk : Nat}
theorem src_enumT {K : PySem.W.Frag} {L : List Addr} {H : Hp} {m : Hm} {a : Addr} {vs : List V} {ps : List P} (r : Rep K L H m) (h : SqT K H a vs) (i : IsAll K L H vs ps) : SrcIs K L H (IteT K a) (.seq (numbered 0 ps)) := by
  intro L' H' m' x r' j o ho
  have st := x.stay r
  have h' := st.sqT h
  have i' := i.stay st
  cases (show some (numbered 0 ps)[j]? = some o from ho)
  rw [numbered_get]
  cases e : ps[j]? with
  | none => exact ⟨vs, h', by rw [i.length]; exact List.getElem?_eq_none_iff.mp e⟩
  | some p =>
    obtain ⟨v, e1, e2⟩ := i'.get e
    refine ⟨⟨vs, v, h', e1⟩, fun x1 H1 ⟨T, y, e4, hT, eH, q⟩ => ?_⟩
    subst eH e4
    have := (q vs h').symm.trans e1
    cases this
    have e5 : ((0 + j : Nat) : Int) = (j : Nat) := by simp
    rw [e5]
    exact ext_newR r' hT e2
theorem pi_enumA {te : TE} (hm : X.mg "enumerate" = none) (h : PE X e te) (hg : Gl X "enumerate" := by rfl) (hs : starEach [e] X.env = [(false, eval e X.env)] := by rfl) :
    PI X (.Tuple elts kk tpos) (.Call (.Name "enumerate" p1) [e] [] pos) (fun σ H R => te σ H fun v H1 => ∃ a, [v] = [V.ref a] ∧ (((∃ xs, SqL X.K H1 a xs) ∧ R (Ite X.K a) H1) ∨ ((∃ xs, SqT X.K H1 a xs) ∧ R (IteT X.K a) H1))) := by
  refine ⟨fun pins s σ H R I q => ?_⟩
  refine PyProof.Rows.Call_ (ld_blt I hg hm PyProof.Rows.boot_enumerate (PyProof.Rows.callWith_type1 (L2.thn ((pa_cons h pa_nil hs).run pos pins s σ H (fun vs H1 => ∃ a, vs = [V.ref a] ∧ (((∃ xs, SqL X.K H1 a xs) ∧ R (Ite X.K a) H1) ∨ ((∃ xs, SqT X.K H1 a xs) ∧ R (IteT X.K a) H1))) I ?_) fun us s1 ⟨vs, H1, I1, r1, q1⟩ => ?_) hs rfl))
  · exact q
  obtain ⟨a, ex, q1⟩ := q1
  subst ex
  cases r1 with
  | cons r rr =>
    cases rr; cases r
    have fp : ∀ b ∈ [s1.heap.objs.size + 1, s1.heap.objs.size], FpOk X pins H1 b := fun b hb => by
      have hle : s1.heap.objs.size ≤ b := by
        rcases (show b = s1.heap.objs.size + 1 ∨ b = s1.heap.objs.size by simpa using hb) with z | z <;> rw [z]
        · exact Nat.le_add_right _ _
        · exact Nat.le_refl _
      exact I1.fpOk hle (I1.hok.fresh hle)
    rcases q1 with ⟨⟨xs, hq⟩, q⟩ | ⟨⟨xs, hq⟩, q⟩
    · obtain ⟨its, rv, p', hz⟩ := I1.list hq
      exact call_enumerate_list p'.isList fun h' he hit hsz hk => wpAny_pyIter_enum he ⟨_, _, _, _, H1, rfl, I1.kept (t' := s1.toks) hk, turn_enum a (s1.heap.objs.size + 1) s1.heap.objs.size, ⟨⟨.none, he⟩, hit, Nat.succ_ne_self _⟩, fp, q⟩
    · obtain ⟨its, rv, p', hz⟩ := I1.tuple hq
      have hlt : a < s1.heap.objs.size := by
        obtain ⟨o, ho, _⟩ := p'
        exact Heap.lt_size ho
      exact enumT p' fun h' he hit hk => wpAny_pyIter_enum he ⟨_, _, _, _, H1, rfl, I1.kept (t' := s1.toks) hk, turn_enumT a (s1.heap.objs.size + 1) s1.heap.objs.size, ⟨⟨.none, he⟩, hit, Nat.succ_ne_self _, Nat.ne_of_lt hlt, Nat.ne_of_lt (Nat.lt_succ_of_lt hlt)⟩, fp, q⟩
theorem pdi_enum {d : D} (hm : X.mg "enumerate" = none) (h : PDE X W e d) (hg : Gl X "enumerate" := by rfl) (hs : starEach [e] X.env = [(false, eval e X.env)] := by rfl) : PDI X W (.Tuple elts kk tpos) (.Call (.Name "enumerate" p1) [e] [] pos) (sEnum d) := by
  refine pi_weak (pi_enumA hm h hg hs) fun σ H R ⟨L, m, ρ, r, e, g⟩ => ?_
  refine lift_bnd r e g fun x p m1 L1 H1 x1 r1 e1 i1 g1 => ?_
  cases i1 with
  | @tup a vs ps h1 h2 => exact ⟨a, rfl, .inr ⟨⟨vs, .inl (.inl h1)⟩, Go.ret (a := Src.seq (numbered 0 ps)) g1 r1 _ (src_enumT r1 (.inl (.inl h1)) h2)⟩⟩
  | @ref a n h =>
    obtain ⟨o, e2, g2⟩ := Go.getO g1
    cases o with
    | lst ps =>
      obtain ⟨vs, k1, k2⟩ := r1.lst h e2
      exact ⟨a, rfl, .inl ⟨⟨vs, .of k1⟩, Go.ret (a := Src.enumL n) g2 r1 _ (src_enumL h)⟩⟩
    | _ => exact False.elim g2
  | _ => exact False.elim g1
end
end G

/-! G12: defs; the law's end. -/
namespace G
open PySem PySem.Spec L2 PyProof.Rows
/-- what F makes of the arguments is what is wanted -/
def spG (K : PySem.W.Frag) (F : List G.P → M G.P) (vs : List V) (H : Hp) (Q : VK) : Prop := ∃ (L : List Addr) (m : Hm) (ps : List G.P), Rep K L H m ∧ IsAll K L H vs ps ∧ Go K none [] L H (F ps m) fun p _ L' H' => ∀ v, Is K L' H' v p → Q v H'
/-- the def at f does what F says -/
structure FnG (P : Program) (w : World) (K : PySem.W.Frag) (mg : Str → Option Value) (base : Heap) (k : Nat) (f : Addr) (fd : FuncData) (ps : List Str) (F : List G.P → M G.P) : Prop where
  run : ∀ (A : Around) (outer : List PySem.Env) (s : Shared) (H : Hp) (args : Args) (us : List Value) (vs : List V) (Q : VK), Room k A → A.guards = some [] → Env0 P w K mg base A outer s H → BindsTo s fd args (ps.zip us) → Vals vs us → vs.length = ps.length → spG K F vs H Q →
    codeAny (model P w) A (.call (.ref f) args) (CR CX0 outer P w H s Q E0) s
theorem FnG.mono {P : Program} {w : World} {K : PySem.W.Frag} {mg : Str → Option Value} {base : Heap} {j k : Nat} {f : Addr} {fd : FuncData} {ps : List Str} {F : List G.P → M G.P} (h : FnG P w K mg base j f fd ps F) (hk : j ≤ k) : FnG P w K mg base k f fd ps F :=
  ⟨fun A outer s H args us vs Q hr => h.run A outer s H args us vs Q (hr.mono hk)⟩
structure Held (P : Program) (w : World) (K : PySem.W.Frag) (mg : Str → Option Value) (base : Heap) (k : Nat) (x : Str) (n : Nat) (F : List G.P → M G.P) : Prop where
  ex : ∃ (f : Addr) (fd : FuncData) (ps : List Str), mg x = some (.ref f) ∧ PySem.W.keepIn K (.ref f) = true ∧ Binds K fd ps [] ∧ ps.length = n ∧ FnG P w K mg base k f fd ps F
theorem start_env {K : PySem.W.Frag} {L : List Addr} {H : Hp} {N : List Str} {vs : List V} {ps : List G.P} (h : IsAll K L H vs ps) : EnvIs K L H (L2.start N vs) (ps.map some ++ List.replicate (N.length - ps.length) none) := by
  unfold L2.start
  rw [h.length]
  refine ⟨by simp [h.length], fun i p e => ?_⟩
  by_cases hi : i < ps.length
  · rw [List.getElem?_append_left (by simpa using hi), List.getElem?_map] at e
    cases q : ps[i]? with
    | none => rw [q] at e; cases e
    | some p' =>
      rw [q] at e
      cases e
      obtain ⟨v, h1, h2⟩ := h.get q
      exact ⟨v, by rw [List.getElem?_append_left (by simpa [h.length] using hi), List.getElem?_map, h1]; rfl, h2⟩
  · rw [List.getElem?_append_right (by simpa using hi)] at e
    rw [List.getElem?_replicate] at e
    split at e <;> cases e
theorem guards_deeper {A : Around} {env : PySem.Env} (h : A.guards = some []) : (A.deeper env).guards = some [] := h
section
variable {P : Program} {w : World} {K : PySem.W.Frag} {mg : Str → Option Value} {base : Heap}
/-- THE RULE for a def -/
theorem fnG_of {x qual : Str} {params : Arguments} {body : List Stmt} {scope : Scope} {f : Addr} {fd : FuncData} {N ps : List Str} {k n M0 : Nat} {d : DS} (F : FunD K x qual params body scope [] [] f fd) (S : FnScope N ps scope) (hn : ps.length = n) (hN : N.length = M0)
    (hbody : ∀ (cdv : Value) (A : Around) (outer : List PySem.Env) (s : Shared) (H : Hp) (E : XK), let X := (cxOf CX0 P w K mg base N qual scope f cdv A outer s H E).nox; Room k X.A → Cok X → PDSs X none body d) : FnG P w K mg base (k + 1) f fd ps (fnOf n M0 d) := by
  obtain ⟨oc, od, dV, kV, doc, pm, an, cdv, ct, osl, rfl, lk, hcd, _, _⟩ := F.ex
  refine ⟨fun A outer s H args us vs Q hr hgd e0 hb r hl ⟨L, m, qs, rp, ia, g⟩ => ?_⟩
  have KX : K.In s.heap := e0.mod.kin.keeps fun b o e => (e0.bs b o e).1
  have lim := e0.mod.nolimit.keeps fun b o e => (e0.bs b o e).1
  have hkind : ∀ y ∈ ps.zip us, scope.names.lookup y.1 = some .local ∨ (scope.names.lookup y.1 = some .cell ∧ ((cellsFrom (s.heap.objs.size + 1) scope.names []).lookup y.1).isSome = true) := fun ⟨a, v⟩ hy => (S.par a (List.of_mem_zip hy).1).imp id fun q => ⟨q, PySem.W.cellsFrom_some _ _ _ (.inl q)⟩
  refine codeAny_call_function hr.depth (KX _ _ lk) rfl S.co S.gen rfl (PySem.W.codeRec_of KX hcd) (hb _ _ _ _ (wpAny_newFunctionEnv_cells S.kind hkind fun env he s1 x => ?_))
  subst he
  refine ⟨lim.keeps x.toInCall.keep, codeAny_func ?_⟩
  have I := inv_start (CX := CX0) (P := P) (K := K) (mg := mg) (base := base) (E := E0) S hr.hd e0 hl r x
  have hrd : Room k (A.deeper (envOfC qual scope s.heap.objs.size f cdv)) := hr.deeper _
  have ok : Cok (cxOf CX0 P w K mg base N qual scope f cdv A outer s H E0).nox := ⟨rfl, S.nd, by have h := hrd.un; show (A.deeper (envOfC qual scope s.heap.objs.size f cdv)).units + 150 < cLine; omega, hgd⟩
  have hq : liftS K none d { nx := fun _ H' => Q .non H', rt := Q } (L2.start N vs) H := by
    refine ⟨L, m, qs.map some ++ List.replicate (N.length - qs.length) none, rp, start_env ia, ?_⟩
    have hqn : qs.length = n := by rw [← ia.length, hl, hn]
    unfold fnOf at g
    rw [decide_eq_true hqn] at g
    simp only at g
    rw [hqn, hN]
    show GoS K none L H (d (qs.map some ++ List.replicate (M0 - n) none) m) _
    cases e : d (qs.map some ++ List.replicate (M0 - n) none) m with
    | ok f ρ' m' =>
      rw [e] at g
      cases f with
      | nx => exact fun σ' L' H' x1 r1 _ => g L' H' x1 r1 _ .non
      | rt p => exact fun σ' L' H' x1 r1 _ v hv => g L' H' x1 r1 v hv
      | bk => exact False.elim g
      | ct => exact False.elim g
    | exc c v ρ' m' => rw [e] at g; exact False.elim g
    | bad => rw [e] at g; exact False.elim g
  refine wpAny_mono ((PSs.nox (hbody cdv A outer s H E0 hrd ok)).run [] s1 (L2.start N vs) H _ I hq) (fun fl s' hs => ?_) fun e s' hs => hs
  have fin : ∀ {σ' : L2.St} {H' : Hp} {v : V} {u : Value}, Inv (cxOf CX0 P w K mg base N qual scope f cdv A outer s H E0) [] σ' H' s' → RelV v u → Q v H' → CE outer P w H s Q u s' := fun {σ' H' v u} J rv q => ⟨v, H', J.os, J.bare, J.base, J.hok, rv, q⟩
  cases fl with
  | ret u => obtain ⟨v, σ', H', J, rv, q⟩ := hs; exact fin J rv q
  | next => obtain ⟨σ', H', J, q⟩ := hs; exact fin (v := V.non) (u := Value.none) J rfl q
  | brk => obtain ⟨_, _, _, q⟩ := hs; exact False.elim q
  | cont => obtain ⟨_, _, _, q⟩ := hs; exact False.elim q
end
section
variable {X : Cx} {e : Expr} {es : List Expr} {pos p1 : Pos}
/-- f(e, ..) -/
theorem pd_call {k n : Nat} {x : Str} {F : List G.P → M G.P} {da : A} (h : Held X.prog X.w X.K X.mg X.base k x n F) (hr : Room k X.A) (ok : Cok X) (ha : PDA X none (e :: es) da) (hn : (e :: es).length = n := by rfl) (hl : ∀ ρ m ps m', da ρ m = .ok ps m' → ps.length = n) (hg : Gl X x := by rfl) (hdb : (x == ("__debug__" : Str)) = false := by decide)
    (he : starEach (e :: es) X.env = (false, eval e X.env) :: starEach es X.env := by rfl) (hpl : (backTo pos (starEach es X.env)).any (·.1) = false := by rfl) : PDE X none (.Call (.Name x p1) (e :: es) [] pos) (dCall F da) := by
  obtain ⟨f, fd, ps, hm, hk, hb, hpn, hF⟩ := h.ex
  refine ⟨fun pins s σ H Q I ⟨L, m, ρ, r, en, g⟩ => ?_⟩
  refine wpAny_Call_Name_kw (ld_glob I hg hm ?_ hdb)
  have ga : liftA X.K none da σ H fun vs H1 => vs.length = n ∧ spG X.K F vs H1 Q := by
    refine ⟨L, m, ρ, r, en, g.bnd.imp fun qs m1 L1 H1 eq x1 r1 g1 vs hv => ⟨by rw [hv.length]; exact hl _ _ _ _ eq, L1, m1, qs, r1, hv, ?_⟩⟩
    generalize F qs m1 = rr at g1
    cases rr with
    | ok p m2 => exact g1
    | exc _ _ _ => exact g1
    | bad => exact g1
  refine PySem.W.callWith_K (h₀ := X.base) I.ok.mod.kin hk (L2.thn (ha.run pos pins s σ H _ I ga) fun us s1 ⟨vs, H1, I1, rv, hlen, q⟩ => ⟨I1.kIn, ?_⟩) he hpl
  have hul : (us ++ []).length = ps.length := by rw [List.append_nil, ← rv.length, hlen, hpn]
  have bt := hb s1 us I1.kIn hul
  rw [List.append_nil] at bt
  refine wpAny_call (codeAny_mono (hF.run X.A X.stack s1 H1 ⟨us, []⟩ us vs Q hr ok.hg I1.env0 bt rv (by rw [hlen, hpn]) q) fun r s' hq => ?_)
  cases r with
  | error e => exact False.elim hq
  | ok fl => cases fl with
    | ret u => exact I1.after hq
    | next => exact False.elim hq
    | brk => exact False.elim hq
    | cont => exact False.elim hq
end

/-! ### the law's end -/
theorem law_callG {P : Program} {w : World} {K : PySem.W.Frag} {mg mb : Str → Option Value} {k : Nat} {fa a : Addr} {fd : FuncData} {x : Str} {F : List G.P → M G.P} {s₁ : Shared} {vs : List Value} {ns : List Int} (KX : K.In s₁.heap) (hns : s₁.heap.Ns mainGlobals mg) (hb : s₁.heap.Ns builtinsNs mb) (hbb : ∀ x : Str, x ≠ "__name__" → mb x = bootBuiltins x) (hlim : s₁.heap.NoLimit) (hg : s₁.gens = #[])
    (ha : s₁.heap.get? a = some { cls := .type "list", data := .seq vs.toArray }) (hi : IntsAre vs ns) (hl : ns.length ≤ sizeLine) (hr : Room k callerA) (hF : ∀ base : Heap, K.In base → base.Ns mainGlobals mg → FnG P w K mg base k fa fd [x] F) (hbind : ∀ (s : Shared) (u : Value), BindsTo s fd ⟨[u], []⟩ [(x, u)])
    (hres : ∃ m', F [.scr (ns.map .int)] [] = .ok (.bl true) m') : codeAny (model P w) callerA (.call (.ref fa) ⟨[.ref a], []⟩) (fun r s' => r = .ok (.ret (.bool true)) ∧ OldK s₁.heap s'.heap ∧ s'.os = s₁.os ∧ AllBare s'.gens) s₁ := by
  have rv := vals_ints hi
  have lenV := hi.length
  obtain ⟨m', hres⟩ := hres
  have core : ∀ H : Hp, Only H → ((∃ ob, H a = some (.frz ob (.lst (ns.map V.int)))) ∨ KL K a (ns.map V.int)) → HOk P w H s₁.heap → (∀ b, H b ≠ none → b = a) → (H a ≠ none → K.lookup a = none) → codeAny (model P w) callerA (.call (.ref fa) ⟨[.ref a], []⟩) (fun r s' => r = .ok (.ret (.bool true)) ∧ OldK s₁.heap s'.heap ∧ s'.os = s₁.os ∧ AllBare s'.gens) s₁ := by
    intro H hO hS hok hA hK
    have noA : ∀ {b : Addr} {o : Obj} {es : Array DictEntry} {ep : Nat}, s₁.heap.get? b = some o → o.data = .dict es ep → H b = none := fun {b o es ep} e d => by
      cases q : H b with
      | none => rfl
      | some u =>
        obtain rfl : b = a := hA b (by rw [q]; simp)
        rw [ha] at e; cases e
        have d' : Data.seq vs.toArray _ = Data.dict es ep := d
        cases d'
    have nsK : ∀ {b : Addr} {m : Str → Option Value}, s₁.heap.Ns b m → (hidT s₁.heap H).Ns b m := fun {b m} ⟨o, es, ep, e, d, r⟩ => ⟨o, es, ep, hidT_get e (noA e d), d, r⟩
    have hKb : K.In (hidT s₁.heap H) := fun b o e => hidT_get (KX b o e) (by
      cases q : H b with
      | none => rfl
      | some u =>
        obtain rfl : b = a := hA b (by rw [q]; simp)
        rw [hK (by rw [q]; simp)] at e; cases e)
    have hM : Mod K mg (hidT s₁.heap H) := ⟨hKb, nsK hns, ⟨mb, nsK hb, hbb⟩, let ⟨mc, h1, h2⟩ := hlim; ⟨mc, nsK h1, h2⟩⟩
    have e0 : Env0 P w K mg (hidT s₁.heap H) callerA [] s₁ H := ⟨rfl, hM, fun b o e => of_hidT e, Nat.le_of_eq (hidT_size _ _), trivial, fun b hb => absurd (show b ∈ ([] : List Addr) from hb) (by simp), hok, .of_eq hg⟩
    have ia : ∀ l : List Int, IsAll K [] H (l.map V.int) (l.map G.P.int) := fun l => by
      induction l with
      | nil => exact .nil
      | cons i l ih => exact .cons (.int i) ih
    have sp : spG K F [.ref a] H (fun v _ => v = .bl true) := by
      refine ⟨[], [], [.scr (ns.map .int)], ⟨List.nodup_nil, rfl, fun i b o h => by simp at h⟩, .cons (.scr hS (ia ns)) .nil, ?_⟩
      rw [hres]
      exact fun L' H' _ _ v hv => by cases hv; rfl
    refine codeAny_mono ((hF _ hKb (nsK hns)).run callerA [] s₁ H ⟨[.ref a], []⟩ [.ref a] [.ref a] _ hr rfl e0 (hbind s₁ (.ref a)) (.cons rfl .nil) rfl sp) fun r s' h => ?_
    cases r with
    | error e => exact False.elim h
    | ok fl =>
      cases fl with
      | next => exact False.elim h
      | brk => exact False.elim h
      | cont => exact False.elim h
      | ret u =>
        obtain ⟨v, H', os, bare, un, hok', r', q⟩ := h
        obtain rfl : v = .bl true := q
        obtain rfl : u = Value.bool true := r'
        refine ⟨rfl, OldK.of_keep fun b o e => ?_, os, bare⟩
        cases q : H b with
        | none => exact un.keep b o e q (fun z => absurd (show b ∈ ([] : List Addr) from z) (by simp)) (by simp)
        | some u =>
          rcases hO b with z | ⟨ob, xs, z⟩
          · rw [q] at z; cases z
          · obtain ⟨e1, _⟩ := hok b _ z
            obtain ⟨e2, _⟩ := hok' b _ (un.frzs b ob _ z)
            rw [e] at e1; cases e1
            exact e2
  cases hk : K.lookup a with
  | some o =>
    have e := KX a o hk
    rw [ha] at e; cases e
    refine core (fun _ => none) (fun _ => .inl rfl) (.inr ⟨_, vs.toArray, _, hk, rfl, rfl, rfl, by rw [List.size_toArray, lenV]; exact hl, by simpa using rv⟩) (fun b u z => nomatch z) (fun b z => absurd rfl z) fun z => absurd rfl z
  | none =>
    have hc : ∀ (b : Addr) (u : HO), (if b = a then some (HO.frz { cls := .type "list", data := .seq vs.toArray } (.lst (ns.map V.int))) else none) = some u → b = a ∧ u = .frz { cls := .type "list", data := .seq vs.toArray } (.lst (ns.map V.int)) := fun b u z => by
      by_cases hb : b = a
      · rw [if_pos hb] at z; exact ⟨hb, (Option.some.inj z).symm⟩
      · rw [if_neg hb] at z; cases z
    refine core (fun b => if b = a then some (.frz { cls := .type "list", data := .seq vs.toArray } (.lst (ns.map V.int))) else none) (fun b => ?_) (.inl ⟨_, if_pos rfl⟩) (fun b u z => ?_) (fun b z => ?_) fun _ => hk
    · by_cases hb : b = a
      · exact .inr ⟨_, _, if_pos hb⟩
      · exact .inl (if_neg hb)
    · obtain ⟨rfl, rfl⟩ := hc b u z
      exact ⟨ha, by rw [List.length_map]; exact hl, vs, _, rv, ha⟩
    · by_cases hb : b = a
      · exact hb
      · exact absurd (if_neg hb) z
/-- a law -/
theorem walkG {l : PySem.W.OpenLaw} {n k : Nat} {q : Program} {loose : List Str} {XP : (Str → Option Value) → Heap → Prop} {YP : World → Heap → Prop} {d : DefRec} {x : Str} {F : List G.P → M G.P} (hn : l.most = some n) (hn2 : n ≤ sizeLine) (hdf : d.params.defaults = []) (hr : Room k callerA)
    (hF : ∀ (w : World) (mg : Str → Option Value) (fa : Addr) (h : Heap), YP w h → h.Ns mainGlobals mg → mg d.name = some (.ref fa) → ∃ (K : PySem.W.Frag) (fd : FuncData), K.In h ∧ (∀ (s : Shared) (u : Value), BindsTo s fd ⟨[u], []⟩ [(x, u)]) ∧ ∀ base : Heap, K.In base → base.Ns mainGlobals mg → FnG l.prog w K mg base k fa fd [x] F)
    (hres : ∀ ns : List Int, ns.length ≤ n → ∃ m', F [.scr (ns.map .int)] [] = .ok (.bl true) m') : PySem.W.WalkO q loose XP YP l.row.toRowW d [] (fun f vs => PySem.call f vs) := by
  refine Att.attach_call hn hdf fun w s₀ s₁ mg mb fa o pm cd doc a vs ns GG Y ho hd hcd hmg hobj hints hlen hg => ?_
  obtain ⟨K, fd, KX, hb, hFF⟩ := hF w mg fa _ Y GG.T.g hmg
  exact law_callG KX GG.T.g GG.T.b GG.T.builtins GG.T.nolimit hg hobj hints (Nat.le_trans hlen hn2) hr hFF hb (hres ns hlen)
end G

/-! G13: displays of dicts, starred items, more of the built-ins. -/
namespace G
open PySem PySem.Spec L2
theorem Cok.blk {X : Cx} (ok : Cok X) {s : Shared} {H : Hp} {sc : Scope} {ce : PySem.Env} {fp : List Addr} : Cok (X.blk s H sc ce fp) := ⟨ok.calm, ok.nd, ok.hu, ok.hg⟩
/-- so many arguments -/
def ALen (a : A) (n : Nat) : Prop := ∀ ρ m ps m', a ρ m = .ok ps m' → ps.length = n
theorem al_nil : ALen aNil 0 := fun ρ m ps m' h => by cases h; rfl
theorem al_cons {d : D} {a : A} {n : Nat} (h : ALen a n) : ALen (aCons d a) (n + 1) := fun ρ m ps m' e => by
  unfold aCons bnd at e
  cases q : d ρ m with
  | ok x m1 =>
    simp only [q] at e
    cases q2 : a ρ m1 with
    | ok xs m2 =>
      simp only [q2] at e
      cases e
      rw [List.length_cons, h _ _ _ _ q2]
    | exc _ _ _ => simp only [q2] at e; cases e
    | bad => simp only [q2] at e; cases e
  | exc _ _ _ => simp only [q] at e; cases e
  | bad => simp only [q] at e; cases e
theorem Held.mono {P : Program} {w : World} {K : PySem.W.Frag} {mg : Str → Option Value} {base : Heap} {j k : Nat} {x : Str} {n : Nat} {F : List G.P → M G.P} (h : Held P w K mg base j x n F) (hk : j ≤ k) : Held P w K mg base k x n F :=
  let ⟨f, fd, ps, a, b, c, d, e⟩ := h.ex
  ⟨f, fd, ps, a, b, c, d, e.mono hk⟩

/-! ### displays of dicts -/
abbrev KA := Env → M (List (P × P))
def kNil : KA := fun _ m => .ok [] m
def kCons (dk dv : D) (r : KA) : KA := fun ρ => bnd (dk ρ) fun x => bnd (dv ρ) fun y => bnd (r ρ) fun xs => ret ((x, y) :: xs)
def keyed (p : P × P) : Option (Key × P) := (keyOf p.1).map fun k => (k, p.2)
def putsP (kvs : List (Key × P)) : List (Key × P) := kvs.foldl (fun acc kv => vPut acc kv.1 kv.2) []
def dDict (a : KA) : D := fun ρ => bnd (a ρ) fun ps => bnd (opt (mapO keyed ps)) fun kvs => when_ (decide (kvs.length ≤ 15)) (newO (.dK (putsP kvs)))
def PIs (K : PySem.W.Frag) (L : List Addr) (H : Hp) : List (V × V) → List (P × P) → Prop := Paired fun a b => Is K L H a.1 b.1 ∧ Is K L H a.2 b.2
theorem PIs.mono {K : PySem.W.Frag} {L L' : List Addr} {H H' : Hp} {m : Hm} {as : List (V × V)} {bs : List (P × P)} (r : Rep K L H m) (x : Ext L H L' H') (h : PIs K L H as bs) : PIs K L' H' as bs := by
  unfold PIs at h ⊢
  induction h with
  | nil => exact .nil
  | cons h t ih => exact .cons ⟨h.1.mono r x, h.2.mono r x⟩ ih
def liftKA (K : PySem.W.Frag) (W : WX) (a : KA) (σ : L2.St) (H : Hp) (Q : List (V × V) → Hp → Prop) : Prop := ∃ (L : List Addr) (m : Hm) (ρ : Env), Rep K L H m ∧ EnvIs K L H σ ρ ∧ Go K W σ L H (a ρ m) fun ps m' L' H' => ∀ vs, PIs K L' H' vs ps → Q vs H'
def PDK (X : Cx) (W : WX) (pos : Pos) (ks : List (Option Expr)) (vs : List Expr) (a : KA) : Prop := ∃ trs, PPs X pos ks vs trs ∧ ∀ σ H Q, liftKA X.K W a σ H Q → tPairs trs σ H Q
section
variable {X : Cx} {W : WX} {k v : Expr} {ks : List (Option Expr)} {vs es : List Expr} {pos p1 : Pos}
theorem pdk_nil : PDK X W pos [] [] kNil := ⟨[], pps_nil, fun σ H Q ⟨L, m, ρ, r, e, g⟩ => g L H (Ext.refl L H) r [] .nil⟩
theorem pdk_cons {dk dv : D} {a : KA} (hk : PDE X W k dk) (hv : PDE X W v dv) (hr : PDK X W pos ks vs a) : PDK X W pos (some k :: ks) (v :: vs) (kCons dk dv a) := by
  obtain ⟨trs, h, w⟩ := hr
  refine ⟨_, pps_cons hk hv h, fun σ H Q ⟨L, m, ρ, r, e, g⟩ => ?_⟩
  refine lift_bnd r e g fun x p m1 L1 H1 x1 r1 e1 i1 g1 => lift_bnd r1 e1 g1 fun y q m2 L2 H2 x2 r2 e2 i2 g2 => w σ H2 _ ⟨L2, m2, ρ, r2, e2, g2.bnd.imp fun qs m3 L3 H3 _ x3 r3 g3 us hu => ?_⟩
  exact Go.ret (a := (p, q) :: qs) g3 r3 _ (.cons ⟨(i1.mono r1 x2).mono r2 x3, i2.mono r2 x3⟩ hu)
theorem keyed_is {K : PySem.W.Frag} {L : List Addr} {H : Hp} : ∀ {ps : List (P × P)} {us : List (V × V)} {kvs : List (Key × P)}, PIs K L H us ps → mapO keyed ps = some kvs → ∃ ws : List (Key × V), us = ws.map (fun kv => (kV kv.1, kv.2)) ∧ KvIs K L H ws kvs
  | [], _, kvs, h, e => by
    cases h
    cases e
    exact ⟨[], rfl, .nil⟩
  | p :: ps, _, kvs, h, e => by
    cases h with
    | @cons a _ as _ h1 h2 =>
      unfold mapO at e
      cases q : keyed p with
      | none => rw [q] at e; cases e
      | some kv =>
        rw [q] at e
        cases q2 : mapO keyed ps with
        | none => rw [q2] at e; cases e
        | some kvs' =>
          rw [q2] at e
          cases e
          obtain ⟨ws, e1, e2⟩ := keyed_is h2 q2
          unfold keyed at q
          cases q3 : keyOf p.1 with
          | none => rw [q3] at q; cases q
          | some k =>
            rw [q3] at q
            cases q
            have e3 := keyOf_is h1.1 q3
            refine ⟨(k, a.2) :: ws, ?_, .cons ⟨rfl, h1.2⟩ e2⟩
            rw [List.map_cons, ← e1]
            show a :: as = (kV k, a.2) :: as
            rw [← e3]
theorem puts_is {K : PySem.W.Frag} {L : List Addr} {H : Hp} {ws : List (Key × V)} {kvs : List (Key × P)} (h : KvIs K L H ws kvs) : ∀ {w0 : List (Key × V)} {k0 : List (Key × P)}, KvIs K L H w0 k0 → KvIs K L H (ws.foldl (fun acc kv => putK acc kv.1 kv.2) w0) (kvs.foldl (fun acc kv => vPut acc kv.1 kv.2) k0) := by
  unfold KvIs at h
  induction h with
  | nil => exact fun h => h
  | @cons p q ps qs h t ih =>
    intro w0 k0 h0
    have e := KvIs.put h0 p.1 h.2
    rw [List.foldl_cons, List.foldl_cons, ← h.1]
    exact ih e
theorem pd_dict {a : KA} (h : PDK X W pos ks vs a) (hall : ks.all (·.isSome) = true := by rfl) (hl : ks.length = vs.length := by rfl) (h0 : ks ≠ [] := by exact List.cons_ne_nil _ _) (h15 : ks.length ≤ 15 := by decide) : PDE X W (.Dict ks vs pos) (dDict a) := by
  obtain ⟨trs, hp, w⟩ := h
  refine pe_weak (pe_disp hp hall hl h0 h15) fun σ H Q ⟨L, m, ρ, r, e, g⟩ p hn => w σ _ _ ⟨L, m, ρ, r.mono_new hn, e.mono r (ext_new hn), ?_⟩
  unfold dDict bnd at g
  cases q : a ρ m with
  | exc c x m1 =>
    simp only [q] at g
    cases W with
    | none => exact False.elim g
    | some w0 => exact fun L' H' cls d x1 r1 i => False.elim i
  | bad => simp only [q] at g; exact False.elim g
  | ok ps m1 =>
    simp only [q] at g
    intro L1 H1 x1 r1 us hu
    have np : p ∉ L := r.new hn
    have hp1 : H1 p = some (.dK []) := x1.keep p _ upd_same np
    have np1 : p ∉ L1 := fun z => by
      obtain ⟨N, e1, f⟩ := x1.pre
      rw [e1] at z
      rcases List.mem_append.mp z with z | z
      · exact np z
      · have := f p z
        rw [upd_same] at this
        cases this
    cases q2 : mapO keyed ps with
    | none => unfold opt at g; simp only [q2] at g; exact False.elim g
    | some kvs =>
      unfold opt at g
      simp only [q2] at g
      obtain ⟨b, g2⟩ := Go.when_ g
      obtain ⟨ws, e1, e2⟩ := keyed_is hu q2
      have hlen : ws.length = kvs.length := e2.length
      refine ⟨hp1, ws, e1, by rw [hlen]; exact of_decide_eq_true b, ?_⟩
      have x2 : Ext L H L1 H1 := (ext_new hn).trans x1
      have x3 : Ext L H (L1 ++ [p]) (upd H1 p (.dK (mergeK [] ws))) := by
        obtain ⟨N, e3, f⟩ := x2.pre
        refine ⟨⟨N ++ [p], by rw [e3, List.append_assoc], fun c hc => ?_⟩, fun c o hc nc => ?_, fun c hc => ?_⟩
        · rcases List.mem_append.mp hc with hc | hc
          · exact f c hc
          · rw [List.mem_singleton.mp hc]; exact hn
        · rw [upd_ne (ne_of_none hc hn)]; exact x2.keep c o hc nc
        · by_cases hb : c = p
          · subst hb; rw [upd_same]; simp
          · rw [upd_ne hb]; exact x2.grow c hc
      have st : Stay L1 H1 L1 (upd H1 p (.dK (mergeK [] ws))) := ⟨fun b u e n => by
        by_cases hb : b = p
        · subst hb
          rw [hp1] at e
          cases e
          exact absurd trivial n
        · rw [upd_ne hb]; exact e, fun _ _ h => h⟩
      have r2 : Rep X.K L1 (upd H1 p (.dK (mergeK [] ws))) m1 := ⟨r1.nd, r1.len, fun i b u h1 h2 => (r1.obj i b u h1 h2).stay st (upd_ne fun z => np1 (z ▸ List.mem_of_getElem? h1))⟩
      have hk : KvIs X.K L1 (upd H1 p (.dK (mergeK [] ws))) (mergeK [] ws) (putsP kvs) := puts_is (KvIs.stay st e2) .nil
      exact g2 _ _ x3 (r2.link np1 ⟨_, upd_same, hk⟩) _ (.ref (by rw [← r1.len]; simp))
theorem pd_dnew : PDE X W (.Dict [] [] pos) (fun _ => newO (.dK [])) := by
  refine pe_weak pe_dnewK fun σ H Q ⟨L, m, ρ, r, e, g⟩ p hn => ?_
  have g : Go X.K W σ L H (newO (.dK []) m) _ := g
  have np : p ∉ L := r.new hn
  exact g (L ++ [p]) (upd H p (.dK [])) ((ext_new hn).link hn) ((r.mono_new hn).link np ⟨[], upd_same, .nil⟩) _ (.ref (by rw [← r.len]; simp))

/-! ### starred items -/
theorem pda_star {e : Expr} {d : D} {t : A} (ha : PDE X W e d) (hr : PDA X W es t) (hs : starEach (.Starred e p1 :: es) X.env = (true, eval e X.env) :: starEach es X.env := by rfl) : PDA X W (.Starred e p1 :: es) (aStar d t) := by
  refine pa_weak (StX.pa_star ha hr hs) fun σ H Q ⟨L, m, ρ, r, en, g⟩ => ?_
  refine lift_bnd r en g fun x p m1 L1 H1 x1 r1 e1 i1 g1 => ?_
  cases i1 with
  | @tup a vs ps h1 h2 => exact ⟨a, vs, rfl, .inl (.inl (.inl h1)), liftA_bnd r1 e1 g1 fun xs qs m2 L2 H2 x2 r2 e2 i2 g2 => Go.ret (a := ps ++ qs) g2 r2 _ ((h2.mono r1 x2).append i2)⟩
  | @ref a n h =>
    obtain ⟨ob, k1, g1⟩ := Go.getO g1
    cases ob with
    | lst ps =>
      obtain ⟨vs, k2, k3⟩ := r1.lst h k1
      exact ⟨a, vs, rfl, .inr (.of k2), liftA_bnd r1 e1 g1 fun xs qs m2 L2 H2 x2 r2 e2 i2 g2 => Go.ret (a := ps ++ qs) g2 r2 _ ((k3.mono r1 x2).append i2)⟩
    | _ => exact False.elim g1
  | _ => exact False.elim g1

/-! ### built-ins over a list -/
def itemsR (x : P) : M (List P) := match x with
  | .scr ps => ret ps
  | .ref n => getO n fun o => match o with
    | .lst ps => ret ps
    | _ => bad
  | _ => bad
def dR (f : List P → M P) (d : D) : D := fun ρ => bnd (d ρ) fun x => bnd (itemsR x) f
theorem Go.itemsR {K : PySem.W.Frag} {L : List Addr} {H : Hp} {m : Hm} {σ : L2.St} {p : P} {v : V} {β : Type} {f : List P → M β} {F : β → Hm → List Addr → Hp → Prop} (r : Rep K L H m) (i : Is K L H v p) (g : Go K W σ L H (G.bnd (G.itemsR p) f m) F) :
    ∃ ps, SeqL K L H v ps ∧ Go K W σ L H (f ps m) F := by
  cases i with
  | @scr a vs ps h1 h2 => exact ⟨ps, ⟨a, vs, rfl, SqL_of_frz h1, h2⟩, g⟩
  | @ref a n h =>
    obtain ⟨ob, e1, g⟩ := Go.getO (show Go K W σ L H (G.getO n (fun o => G.bnd ((fun o => match o with
      | .lst ps => G.ret ps
      | _ => bad) o) f) m) F from by
        unfold G.itemsR G.bnd G.getO at g
        unfold G.bnd G.getO
        cases e : m[n]? with
        | none => simp only [e] at g; exact False.elim g
        | some o => simp only [e] at g ⊢; exact g)
    cases ob with
    | lst ps =>
      obtain ⟨vs, k1, k2⟩ := r.lst h e1
      exact ⟨ps, ⟨a, vs, rfl, .of k1, k2⟩, g⟩
    | _ => exact False.elim g
  | _ => exact False.elim g
theorem pd_nR {e : Expr} {f : List P → M P} {d : D} {x : Str} {T : Value} (hc : CallR X T (nOf X.K W SeqL f)) (hT : (∃ id, T = .builtin id) ∨ ∃ id, T = .type id) (hm : X.mg x = none) (hl : PDE X W e d) (hg : Gl X x := by rfl) (hv : bootBuiltins x = some T := by decide +kernel) (hn : x ≠ "__name__" := by decide) (hdb : (x == ("__debug__" : Str)) = false := by decide)
    (he : starEach [e] X.env = (false, eval e X.env) :: starEach [] X.env := by rfl) : PDE X W (.Call (.Name x p1) [e] [] pos) (dR f d) := by
  have w : ∀ σ H Q, lift X.K W (dR f d) σ H Q → tCB (nOf X.K W SeqL f) (tCons (lift X.K W d) tNil) σ H Q := fun σ H Q ⟨L, m, ρ, r, e, g⟩ => show lift X.K W d σ H (fun x H1 => nOf X.K W SeqL f [x] H1 Q) from
    lift_bnd r e g fun x p m1 L1 H1 x1 r1 e1 i1 g1 => by
      obtain ⟨ps, sv, g2⟩ := Go.itemsR r1 i1 g1
      exact ⟨L1, m1, σ, _, ps, rfl, r1, sv, g2⟩
  rcases hT with ⟨id, rfl⟩ | ⟨id, rfl⟩
  · exact pe_weak (pe_callB hc hg hm hv (pa_cons hl pa_nil he) hn hdb he rfl) w
  · exact pe_weak (pe_callTy hc hg hm hv (pa_cons hl pa_nil he) hn hdb he rfl) w

/-! ### a tuple some times over -/
theorem tuple_mul1 (l : Addr) (items : Array Value) (n : Nat) (dd : Option Addr) (sl : Array (Option Value)) (u : Tok) :
    Meets (Builtin.«tuple.__mul__» ⟨[.ref l, .int 1 u], []⟩) (fun _ R s => s.heap.get? l = some { cls := .type "tuple", dict := dd, data := .seq items n, slots := sl } ∧ R (.ok (.ret (Value.ref l))) s) :=
  .of_wp fun prog w A R s h => by
    obtain ⟨hp, g, d, tk, os⟩ := s
    obtain ⟨hl, h⟩ := h
    have f1 := AutoSeq1.idx_int
    have c1 : (items.isEmpty || (1 : Int) == 1) = true := by simp
    wp_walk using wpAny_loadPart' hl
    repeat (first
      | (refine wpAny_ite_true (decide_eq_true (by rw [c1])) ?_; wp_walk using wpAny_loadPart' hl)
      | (refine wpAny_ite_false (decide_eq_false (by decide)) ?_; wp_walk using wpAny_loadPart' hl))
    exact ⟨_, rfl, h⟩
def oMulT (x y : P) : M P := match x with
  | .tup ps => match y with
    | .int k => when_ (!ps.isEmpty && decide (1 ≤ k) && decide (k ≤ 1000) && decide (ps.length ≤ 1000)) (ret (.tup (List.replicate k.toNat ps).flatten))
    | _ => bad
  | _ => bad
theorem op_rep1 : OpR X (binaryOp .Mult) (fun x y H Q => ∃ l xs, x = .ref l ∧ y = .int 1 ∧ SqT X.K H l xs ∧ xs ≠ [] ∧ Q (.ref l) H) := by
  intro pins s σ H x y v u Q I rx ry h
  obtain ⟨l, xs, rfl, rfl, hT, hne, q⟩ := h
  cases rx
  obtain ⟨t, rfl⟩ := ry
  obtain ⟨its, r, ⟨⟨cls, dd, data, sl⟩, ho, hc, n, hd⟩, hs⟩ := I.tuple hT
  simp only at hc hd
  subst hc hd
  exact wpAny_binaryOp_repeat_ref (T := "tuple") (U := "int") (by decide) ⟨_, ho, rfl⟩ (fun s' => typeIs_int s' 1 t) noFill_tuple_mul F.fills_int_mul F.slot_int_rmul repeat_tuple F.slot_int_index.lookup
    (PySem.call_meets F.slot_int_rmul (typeIs_int s 1 t) F.entry_int_rmul (F.args_int_rmul_2 _ _) (int_rmul_tuple 1 t l its.toArray n dd sl)
      ⟨ho, rfl, ⟨_, ho, rfl⟩, PySem.call_meets F.slot_tuple_mul ⟨_, ho, rfl⟩ F.entry_tuple_mul (F.args_tuple_mul_2 _ _) (tuple_mul1 l its.toArray n dd sl t) ⟨ho, ⟨.ref l, H, I, rfl, q⟩⟩⟩)
theorem ob_mulT : OpS X W (binaryOp .Mult) oMulT := by
  intro pins s σ H x y v u Q I rx ry ⟨L, m, σ', p, q, r, ip, iq, gg⟩
  cases ip with
  | @tup a vs ps h1 h2 =>
    cases iq with
    | int k =>
      obtain ⟨b, g2⟩ := Go.when_ gg
      simp only [Bool.and_eq_true, decide_eq_true_eq, Bool.not_eq_true', List.isEmpty_eq_false_iff] at b
      have hv : vs ≠ [] := fun e => b.1.1.1 (by have := h2.length; rw [e] at this; exact List.eq_nil_of_length_eq_zero this.symm)
      by_cases hk : k = 1
      · subst hk
        refine op_rep1 pins s σ H _ _ v u Q I rx ry ⟨a, vs, rfl, rfl, .of h1, hv, ?_⟩
        have e : (List.replicate (1 : Int).toNat ps).flatten = ps := by simp
        rw [e] at g2
        exact Go.ret (a := P.tup ps) g2 r _ (.tup h1 h2)
      · exact op_repT pins s σ H _ _ v u Q I rx ry ⟨a, k, vs, rfl, rfl, .of h1, hv, by omega, b.1.2, by rw [h2.length]; exact b.2, fun p hp => g2 L (upd H p (.tup (List.replicate k.toNat vs).flatten)) (ext_new hp) (r.mono_new hp) _ (.tup upd_same ((h2.replicate _).stay (stay_new hp)))⟩
    | _ => exact False.elim gg
  | _ => exact False.elim gg
end
end G

/-! G14: list(range(..)), tuple(range(..)). -/
namespace G
open PySem PySem.Spec L2
/-- turns of a while loop: more than any of ours -/
def FU : Nat := 1000000
theorem pd_glo {X : Cx} {W : WX} {x : Str} {i : Int} {pos : Pos} (h : ∃ t, X.mg x = some (.int i t)) (hg : Gl X x := by rfl) (hd : (x == ("__debug__" : Str)) = false := by decide) : PDE X W (.Name x pos) (dC (.int i)) := by
  obtain ⟨t, h⟩ := h
  exact pd_c (v := V.int i) (pe_glob hg h ⟨t, rfl⟩ hd) fun _ _ => .int i
abbrev RD := Env → M (Int × Int)
def asI (x : P) : M Int := match x with
  | .int i => ret i
  | _ => bad
def rg1 (d : D) : RD := fun ρ => bnd (d ρ) fun x => bnd (asI x) fun j => ret (0, j)
def rg2 (a b : D) : RD := fun ρ => bnd (a ρ) fun x => bnd (b ρ) fun y => bnd (asI x) fun i => bnd (asI y) fun j => ret (i, j)
def rgOk (a b : Int) : Bool := small62 a && small62 b && decide ((b - a).toNat ≤ SZ)
def lRg (r : RD) : LD := fun ρ => bnd (r ρ) fun ab => when_ (rgOk ab.1 ab.2) (ret (rangeP ab.1 ab.2))
def dTupRg (r : RD) : D := fun ρ => bnd (r ρ) fun ab => when_ (rgOk ab.1 ab.2) (ret (.tup (rangeP ab.1 ab.2)))
def liftR (K : PySem.W.Frag) (W : WX) (r : RD) (σ : L2.St) (H : Hp) (Q : Int → Int → Hp → Prop) : Prop := ∃ (L : List Addr) (m : Hm) (ρ : Env), Rep K L H m ∧ EnvIs K L H σ ρ ∧ Go K W σ L H (r ρ m) fun ab _ L' H' => Q ab.1 ab.2 H'
def PDR (X : Cx) (W : WX) (e : Expr) (r : RD) : Prop := PRg X e (liftR X.K W r)
theorem Go.asI {K : PySem.W.Frag} {W : WX} {L : List Addr} {H : Hp} {m : Hm} {σ : L2.St} {p : P} {v : V} {β : Type} {f : Int → M β} {F : β → Hm → List Addr → Hp → Prop} (i : Is K L H v p) (g : Go K W σ L H (G.bnd (G.asI p) f m) F) : ∃ n, p = .int n ∧ v = .int n ∧ Go K W σ L H (f n m) F := by
  cases i with
  | int n => exact ⟨n, rfl, rfl, g⟩
  | _ => exact False.elim g
section
variable {X : Cx} {W : WX} {e a b : Expr} {pos p : Pos}
theorem pdr_1 {d : D} (hm : X.mg "range" = none) (h : PDE X W a d) (hg : Gl X "range" := by rfl) (na : starEach [a] X.env = (false, eval a X.env) :: starEach [] X.env := by rfl) : PDR X W (.Call (.Name "range" p) [a] [] pos) (rg1 d) := by
  intro pins s σ H Q I ⟨L, m, ρ, r, en, g⟩
  refine prg_1 hg hm h na pins s σ H Q I ?_
  refine lift_bnd r en g fun x p m1 L1 H1 x1 r1 e1 i1 g1 => ?_
  obtain ⟨n, rfl, rfl, g2⟩ := Go.asI i1 g1
  exact ⟨n, rfl, Go.ret (a := ((0 : Int), n)) g2 r1⟩
theorem pdr_2 {d d' : D} (hm : X.mg "range" = none) (h : PDE X W a d) (h' : PDE X W b d') (hg : Gl X "range" := by rfl) (na : starEach [a, b] X.env = (false, eval a X.env) :: starEach [b] X.env := by rfl)
    (nb : starEach [b] X.env = (false, eval b X.env) :: starEach [] X.env := by rfl) (hp : (backTo pos (starEach [b] X.env)).any (·.1) = false := by rfl) : PDR X W (.Call (.Name "range" p) [a, b] [] pos) (rg2 d d') := by
  intro pins s σ H Q I ⟨L, m, ρ, r, en, g⟩
  refine prg_2 hg hm h h' na nb hp pins s σ H Q I ?_
  refine lift_bnd r en g fun x p m1 L1 H1 x1 r1 e1 i1 g1 => lift_bnd r1 e1 g1 fun y q m2 L2 H2 x2 r2 e2 i2 g2 => ?_
  obtain ⟨n, rfl, rfl, g3⟩ := Go.asI (i1.mono r1 x2) g2
  obtain ⟨k, rfl, rfl, g4⟩ := Go.asI i2 g3
  exact ⟨n, k, rfl, rfl, Go.ret (a := (n, k)) g4 r2⟩
theorem rgOk_ok {a b : Int} (h : rgOk a b = true) : RgOk a b := by
  simp only [rgOk, small62, SZ, Bool.and_eq_true, decide_eq_true_eq] at h
  refine ⟨by omega, by omega, by omega, by omega, by omega⟩
theorem rgV_is {K : PySem.W.Frag} {L : List Addr} {H : Hp} (a b : Int) : IsAll K L H (rgV a b) (rangeP a b) := by
  unfold rgV rangeP
  generalize (b - a).toNat = n
  have k : ∀ l : List Nat, IsAll K L H (l.map fun (i : Nat) => V.int (a + i)) (l.map fun (i : Nat) => P.int (a + i)) := fun l => by
    induction l with
    | nil => exact .nil
    | cons i l ih => exact .cons (.int _) ih
  exact k _
theorem pdl_listRg (ok : Cok X) {r : RD} (hm : X.mg "list" = none) (h : PDR X W e r) (hg : Gl X "list" := by rfl) (na : starEach [e] X.env = (false, eval e X.env) :: starEach [] X.env := by rfl) : PDL X W (.Call (.Name "list" p) [e] [] pos) (lRg r) := by
  refine pe_weak (pe_listRg ok.calm hg hm h na) fun σ H Q ⟨L, m, ρ, r, en, g⟩ => ⟨L, m, ρ, r, en, g.bnd.imp fun ab m1 L1 H1 _ x1 r1 g1 => ?_⟩
  obtain ⟨b, g2⟩ := g1.when_
  exact ⟨rgOk_ok b, fun q hq => g2 L1 (upd H1 q (.lst (rgV ab.1 ab.2))) (ext_new hq) (r1.mono_new hq) q _ (grow_none x1 hq) upd_same (r1.new hq) (rgV_is _ _)⟩
theorem pd_tupRg (ok : Cok X) {r : RD} (hm : X.mg "tuple" = none) (h : PDR X W e r) (hg : Gl X "tuple" := by rfl) (na : starEach [e] X.env = (false, eval e X.env) :: starEach [] X.env := by rfl) : PDE X W (.Call (.Name "tuple" p) [e] [] pos) (dTupRg r) := by
  refine pe_weak (pe_tupRg ok.calm hg hm h na) fun σ H Q ⟨L, m, ρ, r, en, g⟩ => ⟨L, m, ρ, r, en, g.bnd.imp fun ab m1 L1 H1 _ x1 r1 g1 => ?_⟩
  obtain ⟨b, g2⟩ := g1.when_
  exact ⟨rgOk_ok b, fun q hq => g2 L1 (upd H1 q (.tup (rgV ab.1 ab.2))) (ext_new hq) (r1.mono_new hq) _ (.tup upd_same (rgV_is _ _))⟩
end
end G

/-! G15: zip of two. -/
namespace G
open PySem PySem.Spec L2 RZ
def zipP : List P → List P → List P
  | p :: ps, q :: qs => .tup [p, q] :: zipP ps qs
  | _, _ => []
theorem zipP_get : ∀ (ps qs : List P) (i : Nat), (zipP ps qs)[i]? = pair2 ps[i]? qs[i]?
  | [], _, i => by cases i <;> rfl
  | _ :: _, [], i => by
    have : ([] : List P)[i]? = none := by cases i <;> rfl
    rw [this]
    show ([] : List P)[i]? = _
    rw [this]
    unfold pair2
    split <;> simp_all
  | p :: ps, q :: qs, 0 => rfl
  | p :: ps, q :: qs, i + 1 => by
    show (zipP ps qs)[i]? = _
    rw [zipP_get ps qs i]
    rfl
def sZip (a : A) : SD := fun ρ => bnd (a ρ) fun ps => match ps with
  | [.tup ps, .tup qs] => ret (.seq (zipP ps qs))
  | [.ref n, .ref k] => getO n fun o => match o with
    | .lst _ => getO k fun o' => match o' with
      | .lst _ => ret (.zipL n k)
      | _ => bad
    | _ => bad
  | _ => bad
theorem ext_newZ {K : PySem.W.Frag} {L : List Addr} {H : Hp} {m : Hm} (r : Rep K L H m) {a : Addr} {v w : V} {p q : P} (h : H a = none) (i : Is K L H v p) (j : Is K L H w q) : Ext L H L (upd H a (.tup [v, w])) ∧ Rep K L (upd H a (.tup [v, w])) m ∧ Is K L (upd H a (.tup [v, w])) (.ref a) (.tup [p, q]) :=
  ⟨ext_new h, r.mono_new h, .tup upd_same (.cons (i.stay (stay_new h)) (.cons (j.stay (stay_new h)) .nil))⟩
theorem src_zipT {K : PySem.W.Frag} {L : List Addr} {H : Hp} {m : Hm} {a b : Addr} {vs ws : List V} {ps qs : List P} (r : Rep K L H m) (h : SqT K H a vs) (i : IsAll K L H vs ps) (h2 : SqT K H b ws) (i2 : IsAll K L H ws qs) : SrcIs K L H (ItzT K a b) (.seq (zipP ps qs)) := by
  intro L' H' m' x r' j o ho
  have st := x.stay r
  have a1 := st.sqT h
  have a2 := st.sqT h2
  have j1 := i.stay st
  have j2 := i2.stay st
  cases (show some (zipP ps qs)[j]? = some o from ho)
  rw [zipP_get]
  cases e : ps[j]? with
  | none =>
    have : pair2 none qs[j]? = none := by unfold pair2; split <;> simp_all
    rw [this]
    exact ⟨vs, ws, a1, a2, .inl (by rw [i.length]; exact List.getElem?_eq_none_iff.mp e)⟩
  | some p =>
    cases e2 : qs[j]? with
    | none => exact ⟨vs, ws, a1, a2, .inr (by rw [i2.length]; exact List.getElem?_eq_none_iff.mp e2)⟩
    | some q =>
      obtain ⟨v, c1, c2⟩ := j1.get e
      obtain ⟨w, d1, d2⟩ := j2.get e2
      refine ⟨⟨vs, ws, v, w, a1, a2, c1, d1⟩, fun x1 H1 ⟨T, y, z, e4, hT, eH, q1, q2⟩ => ?_⟩
      subst eH e4
      have k1 := (q1 vs a1).symm.trans c1
      have k2 := (q2 ws a2).symm.trans d1
      cases k1
      cases k2
      exact ext_newZ r' hT c2 d2
theorem src_zipL {K : PySem.W.Frag} {L : List Addr} {H : Hp} {a b : Addr} {n k : Nat} (h : L[n]? = some a) (h2 : L[k]? = some b) : SrcIs K L H (Itz K a b) (.zipL n k) := by
  intro L' H' m' x r' j o ho
  have g1 := x.get h
  have g2 := x.get h2
  cases e1 : m'[n]? with
  | none => simp only [Src.at, e1] at ho; cases ho
  | some o1 =>
    cases e2 : m'[k]? with
    | none => simp only [Src.at, e1, e2] at ho; cases o1 <;> cases ho
    | some o2 =>
      cases o1 with
      | lst ps =>
        cases o2 with
        | lst qs =>
          have ho : some (pair2 ps[j]? qs[j]?) = some o := by simp only [Src.at, e1, e2] at ho; exact ho
          cases ho
          obtain ⟨vs, k1, k2⟩ := r'.lst g1 e1
          obtain ⟨ws, l1, l2⟩ := r'.lst g2 e2
          cases c : ps[j]? with
          | none =>
            have : pair2 none qs[j]? = none := by unfold pair2; split <;> simp_all
            rw [this]
            exact ⟨vs, ws, .of k1, .of l1, .inl (by rw [k2.length]; exact List.getElem?_eq_none_iff.mp c)⟩
          | some p =>
            cases d : qs[j]? with
            | none => exact ⟨vs, ws, .of k1, .of l1, .inr (by rw [l2.length]; exact List.getElem?_eq_none_iff.mp d)⟩
            | some q =>
              obtain ⟨v, c1, c2⟩ := k2.get c
              obtain ⟨w, d1, d2⟩ := l2.get d
              refine ⟨⟨vs, ws, v, w, .of k1, .of l1, c1, d1⟩, fun x1 H1 ⟨T, y, z, e4, hT, eH, q1, q2⟩ => ?_⟩
              subst eH e4
              have k1 := (q1 vs (.of k1)).symm.trans c1
              have k2 := (q2 ws (.of l1)).symm.trans d1
              cases k1
              cases k2
              exact ext_newZ r' hT c2 d2
        | _ => simp only [Src.at, e1, e2] at ho; cases ho
      | _ => simp only [Src.at, e1] at ho; cases ho
section
variable {X : Cx} {W : WX} {e e2 : Expr} {elts : List Expr} {kk : Nat} {pos p1 tpos : Pos}
theorem pdi_zip {a : A} (hm : X.mg "zip" = none) (ha : PDA X W [e, e2] a) (hg : Gl X "zip" := by rfl) (hs : starEach [e, e2] X.env = (false, eval e X.env) :: starEach [e2] X.env := by rfl) (hpl : (backTo pos (starEach [e2] X.env)).any (·.1) = false := by rfl) : PDI X W (.Tuple elts kk tpos) (.Call (.Name "zip" p1) [e, e2] [] pos) (sZip a) := by
  refine pi_weak (pi_zipA hg hm ha hs hpl) fun σ H R ⟨L, m, ρ, r, e, g⟩ => ?_
  refine liftA_bnd r e g fun xs ps m1 L1 H1 x1 r1 e1 i1 g1 => ?_
  cases i1 with
  | nil => exact False.elim g1
  | cons i1 t1 =>
    cases t1 with
    | nil => cases i1 <;> exact False.elim g1
    | cons i2 t2 =>
      cases t2 with
      | cons _ _ => cases i1 <;> cases i2 <;> exact False.elim g1
      | nil =>
        cases i1 with
        | @tup a vs ps h1 h2 =>
          cases i2 with
          | @tup b ws qs k1 k2 => exact ⟨a, b, vs, ws, rfl, .inr ⟨.of h1, .of k1, Go.ret (a := Src.seq (zipP ps qs)) g1 r1 _ (src_zipT r1 (.of h1) h2 (.of k1) k2)⟩⟩
          | _ => exact False.elim g1
        | @ref a n h =>
          cases i2 with
          | @ref b k h' =>
            obtain ⟨o, q1, g2⟩ := Go.getO g1
            cases o with
            | lst ps =>
              obtain ⟨o', q2, g3⟩ := Go.getO g2
              cases o' with
              | lst qs =>
                obtain ⟨vs, k1, k2⟩ := r1.lst h q1
                obtain ⟨ws, l1, l2⟩ := r1.lst h' q2
                exact ⟨a, b, vs, ws, rfl, .inl ⟨.of k1, .of l1, Go.ret (a := Src.zipL n k) g3 r1 _ (src_zipL h h')⟩⟩
              | _ => exact False.elim g3
            | _ => exact False.elim g2
          | _ => exact False.elim g1
        | _ => cases i2 <;> exact False.elim g1
end
end G

/-! G16: isinstance. -/
namespace G
open PySem PySem.Spec L2
/-- the name of a thing's type -/
def kindO : O → String
  | .lst _ => "list"
  | _ => "dict"
def kindP (x : P) : M String := match x with
  | .non => ret "NoneType"
  | .bl _ => ret "bool"
  | .int _ => ret "int"
  | .str _ => ret "str"
  | .tup _ => ret "tuple"
  | .kt _ => ret "tuple"
  | .scr _ => ret "list"
  | .ref n => getO n fun o => ret (kindO o)
def isK (T k : String) : Bool := decide (k = T) || (decide (k = "bool") && decide (T = "int"))
/-- isinstance(x, T) -/
def uIsi (T : String) (x : P) : M P := bnd (kindP x) fun k => ret (.bl (isK T k))
def KitOk (T : String) : Prop := ∀ k ∈ ["NoneType", "bool", "int", "str", "tuple", "list", "dict"], kitB k T = some (isK T k)
section
variable {X : Cx} {W : WX} {e : Expr} {pos p1 p2 : Pos}
theorem tyx_of {K : PySem.W.Frag} {L : List Addr} {H : Hp} {m : Hm} {σ : L2.St} {p : P} {v : V} {F : P → Hm → List Addr → Hp → Prop} {T : String} (hk : KitOk T) (r : Rep K L H m) (i : Is K L H v p) (g : Go K W σ L H (uIsi T p m) F) :
    ∃ (t : Value) (b : Bool), TyX K H v t ∧ PySem.W.kitOne K t (.type T) = some b ∧ F (.bl b) m L H := by
  have fin : ∀ k ∈ ["NoneType", "bool", "int", "str", "tuple", "list", "dict"], TyX K H v (.type k) → Go K W σ L H (ret (P.bl (isK T k)) m) F → ∃ (t : Value) (b : Bool), TyX K H v t ∧ PySem.W.kitOne K t (.type T) = some b ∧ F (.bl b) m L H := fun k hm ty g => ⟨_, _, ty, kit_ty (hk k hm), Go.ret g r⟩
  cases i with
  | non => exact fin "NoneType" (by decide) (.base .non) g
  | bl b => exact fin "bool" (by decide) (.base (.bl b)) g
  | int j => exact fin "int" (by decide) (.base (.int j)) g
  | str x => exact fin "str" (by decide) (.base (.str x)) g
  | @tup a vs ps h1 h2 => exact fin "tuple" (by decide) (.base (.tup h1)) g
  | @kt a vs ps h1 h2 => obtain ⟨o, its, n, h3, h4, _⟩ := h1; exact fin "tuple" (by decide) (.kTuple h3 h4) g
  | @scr a vs ps h1 h2 =>
    rcases h1 with ⟨ob, h1⟩ | ⟨o, its, n, h3, h4, _⟩
    · exact fin "list" (by decide) (.base (.frz h1)) g
    · exact fin "list" (by decide) (.kList h3 h4) g
  | @ref a n h =>
    have g : Go K W σ L H (G.bnd (G.getO n fun o => ret (kindO o)) (fun k => ret (P.bl (isK T k))) m) F := g
    unfold G.bnd G.getO at g
    cases em : m[n]? with
    | none => rw [em] at g; exact False.elim g
    | some o =>
      rw [em] at g
      have ob := r.obj n a o h em
      cases o with
      | lst ps => obtain ⟨vs, k1, _⟩ := ob; exact fin "list" (by decide) (.base (.lst k1)) g
      | dK kvs => obtain ⟨vs, k1, _⟩ := ob; exact fin "dict" (by decide) (.base (.dK k1)) g
      | dT kvs => obtain ⟨vs, k1, _⟩ := ob; exact fin "dict" (by decide) (.base (.dT k1)) g
      | lk kvs => obtain ⟨o, vs, k1, _⟩ := ob; exact fin "dict" (by decide) (.fDict k1) g
theorem pd_isi {T : String} {x : Str} {d : D} (hk : KitOk T) (hm : X.mg "isinstance" = none) (hT : X.mg x = none) (hl : PDE X W e d) (hg : Gl X "isinstance" := by rfl) (hgT : Gl X x := by rfl) (hv : bootBuiltins "isinstance" = some (.builtin "isinstance") := by decide +kernel) (hvT : bootBuiltins x = some (.type T) := by decide +kernel) (hn : x ≠ "__name__" := by decide) (hdb : (x == ("__debug__" : Str)) = false := by decide)
    (he : starEach [e, .Name x p2] X.env = (false, eval e X.env) :: starEach [.Name x p2] X.env := by rfl) (he2 : starEach [.Name x p2] X.env = (false, eval (.Name x p2) X.env) :: starEach [] X.env := by rfl) (hpl : (backTo pos (starEach [Expr.Name x p2] X.env)).any (·.1) = false := by rfl) :
    PDE X W (.Call (.Name "isinstance" p1) [e, .Name x p2] [] pos) (dUn (uIsi T) d) := by
  have hc : PE X (.Name x p2) (tC (.ty T)) := pe_bltn hgT hT hvT rfl hn hdb
  refine pe_weak (pe_callB call_isi hg hm hv (pa_cons hl (pa_cons hc pa_nil he2) he) (by decide) (by decide) he hpl) fun σ H Q ⟨L, m, ρ, r, en, g⟩ => ?_
  show lift X.K W d σ H (fun v H1 => rIsi X.K [v, .ty T] H1 Q)
  refine lift_bnd r en g fun v p m1 L1 H1 x1 r1 e1 i1 g1 => ?_
  obtain ⟨t, b, h1, h2, h3⟩ := tyx_of hk r1 i1 g1
  exact ⟨v, .ty T, t, .type T, b, rfl, .ty T, h1, h2, h3 _ (.bl b)⟩
end
theorem kit_tuple : KitOk "tuple" := by unfold KitOk; decide +kernel
theorem kit_int : KitOk "int" := by unfold KitOk; decide +kernel
theorem kit_bool : KitOk "bool" := by unfold KitOk; decide +kernel
theorem kit_str : KitOk "str" := by unfold KitOk; decide +kernel
theorem kit_list : KitOk "list" := by unfold KitOk; decide +kernel
theorem kit_dict : KitOk "dict" := by unfold KitOk; decide +kernel
/-! ### max, min of lists and tuples -/
theorem maxOf_int (i : Int) (l : List Int) : PySem.W.maxOf i l = iMax i l := by
  unfold PySem.W.maxOf iMax
  congr 1
  funext a b
  show (if decide (a < b) = true then b else a) = _
  by_cases h : a < b
  · rw [if_pos (decide_eq_true h), if_pos h]
  · rw [if_neg (by simpa using h), if_neg h]
theorem minOf_int (i : Int) (l : List Int) : PySem.W.minOf i l = iMin i l := by
  unfold PySem.W.minOf iMin
  congr 1
  funext a b
  show (if decide (b < a) = true then b else a) = _
  by_cases h : b < a
  · rw [if_pos (decide_eq_true h), if_pos h]
  · rw [if_neg (by simpa using h), if_neg h]
theorem hold_ints {h : Heap} : ∀ {l : List Int} {its : List Value}, Vals (l.map V.int) its → PySem.W.HoldAll h its l
  | [], its, r => by cases r; exact ⟨_, .nil⟩
  | i :: l, its, r => by
    cases r with
    | cons r1 r2 =>
      obtain ⟨t, rfl⟩ := r1
      obtain ⟨as, k⟩ := hold_ints (h := h) r2
      exact ⟨_, .cons (.int i t) k⟩
section
variable {X : Cx} {W : WX}
theorem cn_maxV (ok : Cok X) : CallR X (.builtin "max") (nOf X.K W SeqV nMax) := by
  intro pins s σ H xs us Q I rv ⟨L, m, σ', v, ps, e, r, ⟨a, vs, ev, h1, h2⟩, g⟩
  rcases h1 with h1 | h1
  · exact cn_max ok pins s σ H xs us Q I rv ⟨L, m, σ', v, ps, e, r, ⟨a, vs, ev, h1, h2⟩, g⟩
  · subst e ev
    obtain ⟨l, e, g⟩ := Go.optB g
    obtain rfl := ints_is h2 e
    cases l with
    | nil => exact False.elim g
    | cons i l =>
      obtain ⟨its, rw_, hl, hz⟩ := I.tuple h1
      rw [Vals.ref1 rv]
      refine PySem.W.max_tuple_datum (α := Int) (x := i) (xs := l) (I.ok.hd ok.calm) hl (hold_ints rw_) ?_ fun j v h' tk _ hv hk => ?_
      · have := ok.hu
        have : PySem.W.Datum.depth Int = 0 := rfl
        omega
      · obtain ⟨as, hv⟩ := hv
        rw [maxOf_int] at hv
        cases hv with
        | int _ t => exact ⟨.int _, H, I.kept hk, ⟨_, rfl⟩, Go.ret (a := P.int (iMax i l)) g r _ (.int _)⟩
theorem cn_minV (ok : Cok X) : CallR X (.builtin "min") (nOf X.K W SeqV nMin) := by
  intro pins s σ H xs us Q I rv ⟨L, m, σ', v, ps, e, r, ⟨a, vs, ev, h1, h2⟩, g⟩
  rcases h1 with h1 | h1
  · exact cn_min ok pins s σ H xs us Q I rv ⟨L, m, σ', v, ps, e, r, ⟨a, vs, ev, h1, h2⟩, g⟩
  · subst e ev
    obtain ⟨l, e, g⟩ := Go.optB g
    obtain rfl := ints_is h2 e
    cases l with
    | nil => exact False.elim g
    | cons i l =>
      obtain ⟨its, rw_, hl, hz⟩ := I.tuple h1
      rw [Vals.ref1 rv]
      refine PySem.W.min_tuple_datum (α := Int) (x := i) (xs := l) (I.ok.hd ok.calm) hl (hold_ints rw_) ?_ fun j v h' tk _ hv hk => ?_
      · have := ok.hu
        have : PySem.W.Datum.depth Int = 0 := rfl
        omega
      · obtain ⟨as, hv⟩ := hv
        rw [minOf_int] at hv
        cases hv with
        | int _ t => exact ⟨.int _, H, I.kept hk, ⟨_, rfl⟩, Go.ret (a := P.int (iMin i l)) g r _ (.int _)⟩
end
end G

namespace K_k27
open PySem (Str)
open G
def D_lefts : DS :=
    (sSeq (sSet 2 (dNew (lLst aNil)))
    (sSeq (sFor (sEnum (dVar 0)) (gTup 2 (gCons (gName 3) (gCons (gName 4) gNil))) (sSeq (sSet 5 (dOp oAdd (dVar 3) (dC (.int 1))))
    (sSeq (sIf (tAnd (tTru (dOp oAnd (dVar 4) (dC (.int 1)))) (tVal (dOp oEq (dVar 1) (dVar 5)))) (sExpr (dMeth1 chkL mAppend (dVar 2) (dTup (aCons (dVar 5) (aCons (dTup aNil) aNil))))) sNx)
    (sSeq (sIf (tAnd (tTru (dOp oAnd (dVar 4) (dC (.int 2)))) (tVal (dOp oGt (dVar 1) (dVar 5)))) (sExpr (dMeth1 chkL mAppend (dVar 2) (dTup (aCons (dVar 5) (aCons (dTup (aCons (dOp oSub (dVar 1) (dVar 5)) aNil)) aNil))))) sNx)
    (sIf (tTru (dOp oAnd (dVar 4) (dC (.int 4)))) (sExpr (dMethL chkL mExtend (dVar 2) (lComp (sRange2 (dC (.int 1)) (dOp oAdd (dOp oDiv (dOp oSub (dVar 1) (dVar 5)) (dC (.int 2))) (dC (.int 1)))) (gName 6) tYes (dTup (aCons (dVar 5) (aCons (dTup (aCons (dVar 6) (aCons (dOp oSub (dOp oSub (dVar 1) (dVar 5)) (dVar 6)) aNil))) aNil))) [6]))) sNx)))))
    (sRet (dL nTup (lV sortP (dVar 2))))))
@[irreducible] def F_lefts : List P → M P := fnOf 2 7 (D_lefts )
def D_added : DS :=
    (sSeq (sSet 1 (dC (.int 0)))
    (sSeq (sFor (sOf (dVar 0)) (gName 2) (sSet 1 (dOp oXor (dVar 1) (dVar 2))))
    (sRet (dVar 1))))
@[irreducible] def F_added : List P → M P := fnOf 1 3 (D_added )
def D_least_missing : DS :=
    (sSeq (sSet 1 (dNew (lV sortP (dVar 0))))
    (sSeq (sSet 2 (dC (.int 0)))
    (sSeq (sFor (sOf (dVar 1)) (gName 3) (sIf (tVal (dOp oEq (dVar 3) (dVar 2))) (sSet 2 (dOp oAdd (dVar 2) (dC (.int 1)))) sNx))
    (sRet (dVar 2)))))
@[irreducible] def F_least_missing : List P → M P := fnOf 1 4 (D_least_missing )
def D_worths (c_lefts c_added c_least_missing : List P → M P) : DS :=
    (sSeq (sSet 2 (dNew (lLst aNil)))
    (sSeq (sFor (sRange1 (dOp oAdd (dVar 1) (dC (.int 1)))) (gName 3) (sExpr (dMeth1 chkL mAppend (dVar 2) (dCall c_least_missing (aCons (dNew (lComp (sOf (dCall c_lefts (aCons (dVar 0) (aCons (dVar 3) aNil)))) (gTup 2 (gCons (gName 4) (gCons (gName 5) gNil))) tYes (dCall c_added (aCons (dNew (lComp (sOf (dVar 5)) (gName 6) tYes (dOp oIx (dVar 2) (dVar 6)) [6])) aNil)) [4, 5])) aNil)))))
    (sRet (dCall (one bTup) (aCons (dVar 2) aNil)))))
@[irreducible] def F_worths : List P → M P := fnOf 2 7 (D_worths F_lefts F_added F_least_missing)
def D_moves (c_lefts : List P → M P) : DS :=
    (sSeq (sSet 2 (dNew (lLst aNil)))
    (sSeq (sFor (sEnum (dVar 1)) (gTup 2 (gCons (gName 3) (gCons (gName 4) gNil))) (sExpr (dMethL chkL mExtend (dVar 2) (lComp (sOf (dCall c_lefts (aCons (dVar 0) (aCons (dVar 4) aNil)))) (gTup 2 (gCons (gName 5) (gCons (gName 6) gNil))) tYes (dTup (aCons (dVar 3) (aCons (dVar 5) (aCons (dVar 6) aNil)))) [5, 6]))))
    (sRet (dCall (one bTup) (aCons (dVar 2) aNil)))))
@[irreducible] def F_moves : List P → M P := fnOf 2 7 (D_moves F_lefts)
def D_first_wins (c_added c_worths : List P → M P) : DS :=
    (sSeq (sSet 2 (dCall c_worths (aCons (dVar 0) (aCons (dV nMax (dOp oAdd (dVar 1) (dTup (aCons (dC (.int 0)) aNil)))) aNil))))
    (sRet (dOp oNe (dCall c_added (aCons (dNew (lComp (sOf (dVar 1)) (gName 3) tYes (dOp oIx (dVar 2) (dVar 3)) [3])) aNil)) (dC (.int 0)))))
@[irreducible] def F_first_wins : List P → M P := fnOf 2 4 (D_first_wins F_added F_worths)
def D_winning_moves (c_added c_worths c_moves : List P → M P) : DS :=
    (sSeq (sSet 2 (dCall c_worths (aCons (dVar 0) (aCons (dV nMax (dOp oAdd (dVar 1) (dTup (aCons (dC (.int 0)) aNil)))) aNil))))
    (sSeq (sSet 3 (dCall c_added (aCons (dNew (lComp (sOf (dVar 1)) (gName 8) tYes (dOp oIx (dVar 2) (dVar 8)) [8])) aNil)))
    (sSeq (sSet 4 (dNew (lLst aNil)))
    (sSeq (sFor (sOf (dCall c_moves (aCons (dVar 0) (aCons (dVar 1) aNil)))) (gTup 3 (gCons (gName 5) (gCons (gName 6) (gCons (gName 7) gNil)))) (sIf (tVal (dOp oEq (dOp oXor (dOp oXor (dVar 3) (dOp oIx (dVar 2) (dOp oIx (dVar 1) (dVar 5)))) (dCall c_added (aCons (dNew (lComp (sOf (dVar 7)) (gName 9) tYes (dOp oIx (dVar 2) (dVar 9)) [9])) aNil))) (dC (.int 0)))) (sExpr (dMeth1 chkL mAppend (dVar 4) (dTup (aCons (dVar 5) (aCons (dVar 6) (aCons (dVar 7) aNil)))))) sNx))
    (sRet (dCall (one bTup) (aCons (dVar 4) aNil)))))))
@[irreducible] def F_winning_moves : List P → M P := fnOf 2 10 (D_winning_moves F_added F_worths F_moves)
def D__law_open_cells : DS :=
    (sSeq (sSet 1 (dC (.int 11)))
    (sSeq (sFor (sOf (dVar 0)) (gName 2) (sSet 1 (dOp oMod (dCall (one bInt) (aCons (dOp oAdd (dOp oAdd (dOp oMul (dVar 1) (dC (.int 69069))) (dOp oMul (dVar 2) (dC (.int 31)))) (dC (.int 5))) aNil)) (dC (.int 2147483629)))))
    (sSeq (sSet 3 (dNew (lComp (sOf (dVar 0)) (gName 2) tYes (dCall (one bAbs) (aCons (dVar 2) aNil)) [2])))
    (sRet (dDict (kCons (dC (.str "cells")) (dRev (dVar 3)) (kCons (dC (.str "left")) (dC (.int 1)) (kCons (dC (.str "mixed")) (dVar 1) (kCons (dC (.str "turn")) (dC (.int 0)) kNil)))))))))
@[irreducible] def F__law_open_cells : List P → M P := fnOf 1 4 (D__law_open_cells )
def D__law_pick : DS :=
    (sSeq (sIf (tVal (dOp oLt (dVar 1) (dC (.int 2)))) (sRet (dC (.int 0))) sNx)
    (sSeq (sSet 2 (dOp oIx (dVar 0) (dC (.str "cells"))))
    (sSeq (sWhile (tAnd (tVal (dOp oLt (dOp oIx (dVar 0) (dC (.str "left"))) (dC (.int 2)))) (tVal (dOp oGt (dCall (one bLen) (aCons (dVar 2) aNil)) (dC (.int 0))))) (sPut (dVar 0) (dC (.str "left")) (dMeth0 chkL mPop (dVar 2))) FU)
    (sSeq (sSet 3 (dOp oIx (dVar 0) (dC (.str "left"))))
    (sSeq (sIf (tVal (dOp oGt (dVar 3) (dC (.int 1)))) (sSeq (sPut (dVar 0) (dC (.str "left")) (dOp oDiv (dVar 3) (dVar 1)))
    (sRet (dOp oMod (dCall (one bInt) (aCons (dVar 3) aNil)) (dVar 1)))) sNx)
    (sSeq (sPut (dVar 0) (dC (.str "turn")) (dOp oAdd (dOp oIx (dVar 0) (dC (.str "turn"))) (dC (.int 1))))
    (sSeq (sSet 4 (dOp oIx (dVar 0) (dC (.str "turn"))))
    (sSeq (sSet 5 (dOp oMod (dCall (one bInt) (aCons (dOp oAdd (dOp oIx (dVar 0) (dC (.str "mixed"))) (dOp oMul (dVar 4) (dC (.int 104729)))) aNil)) (dC (.int 998244353))))
    (sSeq (sSet 5 (dOp oMod (dCall (one bInt) (aCons (dOp oAdd (dOp oMul (dVar 5) (dVar 5)) (dOp oMul (dVar 4) (dC (.int 17)))) aNil)) (dC (.int 2147483647))))
    (sRet (dOp oMod (dCall (one bInt) (aCons (dOp oDiv (dVar 5) (dC (.int 16))) aNil)) (dVar 1))))))))))))
@[irreducible] def F__law_pick : List P → M P := fnOf 2 6 (D__law_pick )
def D__law_draw_code (c__law_pick : List P → M P) : DS :=
    (sSeq (sSet 1 (dOp oAdd (dC (.int 1)) (dCall c__law_pick (aCons (dVar 0) (aCons (dC (.int 5)) aNil)))))
    (sSeq (sSet 2 (dCall c__law_pick (aCons (dVar 0) (aCons (dC (.int 3)) aNil))))
    (sSeq (sSet 3 (dNew (lComp (sRange1 (dVar 1)) (gName 4) tYes (dIf (tVal (dOp oEq (dVar 2) (dC (.int 0)))) (dCall c__law_pick (aCons (dVar 0) (aCons (dC (.int 4)) aNil))) (dCall c__law_pick (aCons (dVar 0) (aCons (dC (.int 8)) aNil)))) [4])))
    (sSeq (sPut (dVar 3) (dUn uNeg (dC (.int 1))) (dIf (tVal (dOp oGt (dOp oIx (dVar 3) (dUn uNeg (dC (.int 1)))) (dC (.int 0)))) (dOp oIx (dVar 3) (dUn uNeg (dC (.int 1)))) (dOp oAdd (dC (.int 1)) (dCall c__law_pick (aCons (dVar 0) (aCons (dC (.int 7)) aNil))))))
    (sRet (dCall (one bTup) (aCons (dVar 3) aNil)))))))
@[irreducible] def F__law_draw_code : List P → M P := fnOf 1 5 (D__law_draw_code F__law_pick)
def D__law_lefts : DS :=
    (sSeq (sSet 2 (dNew (lLst aNil)))
    (sSeq (sFor (sRange2 (dC (.int 1)) (dOp oAdd (dCall (two bMin2) (aCons (dVar 1) (aCons (dCall (one bLen) (aCons (dVar 0) aNil)) aNil))) (dC (.int 1)))) (gName 3) (sSeq (sAsg (dTup (aCons (dOp oIx (dVar 0) (dOp oSub (dVar 3) (dC (.int 1)))) (aCons (dOp oSub (dVar 1) (dVar 3)) aNil))) (gTup 2 (gCons (gName 4) (gCons (gName 5) gNil))))
    (sSeq (sIf (tAnd (tVal (dOp oEq (dOp oMod (dVar 4) (dC (.int 2))) (dC (.int 1)))) (tVal (dOp oEq (dVar 5) (dC (.int 0))))) (sSet 2 (dOp oAdd (dVar 2) (dNew (lLst (aCons (dTup (aCons (dVar 3) (aCons (dTup aNil) aNil))) aNil))))) sNx)
    (sSeq (sIf (tAnd (tVal (dOp oEq (dOp oMod (dOp oDiv (dVar 4) (dC (.int 2))) (dC (.int 2))) (dC (.int 1)))) (tVal (dOp oGt (dVar 5) (dC (.int 0))))) (sSet 2 (dOp oAdd (dVar 2) (dNew (lLst (aCons (dTup (aCons (dVar 3) (aCons (dTup (aCons (dVar 5) aNil)) aNil))) aNil))))) sNx)
    (sIf (tVal (dOp oEq (dOp oDiv (dVar 4) (dC (.int 4))) (dC (.int 1)))) (sSet 2 (dOp oAdd (dVar 2) (dNew (lComp (sRange2 (dC (.int 1)) (dVar 5)) (gName 6) (tVal (dOp oLe (dVar 6) (dOp oSub (dVar 5) (dVar 6)))) (dTup (aCons (dVar 3) (aCons (dTup (aCons (dVar 6) (aCons (dOp oSub (dVar 5) (dVar 6)) aNil))) aNil))) [6])))) sNx)))))
    (sRet (dNew (lV sortP (dVar 2))))))
@[irreducible] def F__law_lefts : List P → M P := fnOf 2 7 (D__law_lefts )
def D__law_added : DS :=
    (sSeq (sSet 1 (dC (.int 0)))
    (sSeq (sFor (sRange1 (dC (.int 12))) (gName 2) (sSet 1 (dOp oAdd (dVar 1) (dOp oMul (dOp oShl (dC (.int 1)) (dVar 2)) (dOp oMod (dL nSum (lComp (sOf (dVar 0)) (gName 3) tYes (dOp oMod (dOp oDiv (dVar 3) (dOp oShl (dC (.int 1)) (dVar 2))) (dC (.int 2))) [3])) (dC (.int 2)))))))
    (sRet (dVar 1))))
@[irreducible] def F__law_added : List P → M P := fnOf 1 4 (D__law_added )
def D__law_worths (c__law_lefts c__law_added : List P → M P) : DS :=
    (sSeq (sSet 2 (dNew (lLst aNil)))
    (sSeq (sFor (sRange1 (dOp oAdd (dVar 1) (dC (.int 1)))) (gName 3) (sSeq (sPar2 4 5 (aCons (dNew (lComp (sOf (dCall c__law_lefts (aCons (dVar 0) (aCons (dVar 3) aNil)))) (gTup 2 (gCons (gName 6) (gCons (gName 7) gNil))) tYes (dCall c__law_added (aCons (dNew (lComp (sOf (dVar 7)) (gName 8) tYes (dOp oIx (dVar 2) (dVar 8)) [8])) aNil)) [6, 7])) (aCons (dC (.int 0)) aNil)))
    (sSeq (sWhile (tVal (dOp oIn (dVar 5) (dVar 4))) (sSet 5 (dOp oAdd (dVar 5) (dC (.int 1)))) FU)
    (sExpr (dMeth1 chkL mAppend (dVar 2) (dVar 5))))))
    (sRet (dVar 2))))
@[irreducible] def F__law_worths : List P → M P := fnOf 2 9 (D__law_worths F__law_lefts F__law_added)
def D__law_wins (c__law_lefts c__law_wins : List P → M P) : DS :=
    (sSeq (sSet 1 (dL nTup (lThen sortP (lComp (sOf (dVar 1)) (gName 5) (tVal (dOp oGt (dVar 5) (dC (.int 0)))) (dVar 5) [5]))))
    (sSeq (sIf (tVal (dOp oNotIn (dVar 1) (dVar 2))) (sSeq (sSet 3 (dNew (lLst aNil)))
    (sSeq (sFor (sEnum (dVar 1)) (gTup 2 (gCons (gName 4) (gCons (gName 5) gNil))) (sSet 3 (dOp oAdd (dVar 3) (dNew (lComp (sOf (dCall c__law_lefts (aCons (dVar 0) (aCons (dVar 5) aNil)))) (gTup 2 (gCons (gName 7) (gCons (gName 8) gNil))) tYes (dOp oAdd (dOp oAdd (dSl (dVar 1) pNone (pSome (dVar 4))) (dVar 8)) (dSl (dVar 1) (pSome (dOp oAdd (dVar 4) (dC (.int 1)))) pNone)) [7, 8])))))
    (sPut (dVar 2) (dVar 1) (dL nAny (lComp (sOf (dVar 3)) (gName 6) tYes (dUn uNot (dCall c__law_wins (aCons (dVar 0) (aCons (dVar 6) (aCons (dVar 2) aNil))))) [6]))))) sNx)
    (sRet (dOp oIx (dVar 2) (dVar 1)))))
def R__law_wins : Nat → List P → M P
  | 0 => fun _ => bad
  | n + 1 => fnOf 3 9 (D__law_wins F__law_lefts (R__law_wins n))
@[irreducible] def F__law_wins (n : Nat) : List P → M P := R__law_wins n
theorem F__law_wins_0 : F__law_wins 0 = fun _ => bad := by unfold F__law_wins; rfl
theorem F__law_wins_s (n : Nat) : F__law_wins (n + 1) = fnOf 3 9 (D__law_wins F__law_lefts (F__law_wins n)) := by unfold F__law_wins; rfl
def D_law (c_lefts c_worths c_moves c_first_wins c_winning_moves c__law_open_cells c__law_pick c__law_draw_code c__law_lefts c__law_added c__law_worths c__law_wins : List P → M P) : DS :=
    (sSeq (sSet 1 (dCall c__law_open_cells (aCons (dVar 0) aNil)))
    (sSeq (sSet 2 (dCall c__law_draw_code (aCons (dVar 1) aNil)))
    (sSeq (sSet 3 (dCall c__law_pick (aCons (dVar 1) (aCons (dC (.int 41)) aNil))))
    (sSeq (sSet 4 (dCall c__law_worths (aCons (dVar 2) (aCons (dCall (two bMax2) (aCons (dVar 3) (aCons (dC (.int 24)) aNil))) aNil))))
    (sSeq (sIf (tVal (dOp oNe (dCall (one bRepr) (aCons (dCall c_worths (aCons (dVar 2) (aCons (dVar 3) aNil))) aNil)) (dCall (one bRepr) (aCons (dCall (one bTup) (aCons (dSl (dVar 4) pNone (pSome (dOp oAdd (dVar 3) (dC (.int 1))))) aNil)) aNil)))) (sRet (dC (.bl false))) sNx)
    (sSeq (sFor (sOf (dTup (aCons (dC (.int 0)) (aCons (dC (.int 1)) (aCons (dCall c__law_pick (aCons (dVar 1) (aCons (dC (.int 25)) aNil))) (aCons (dCall c__law_pick (aCons (dVar 1) (aCons (dC (.int 25)) aNil))) aNil)))))) (gName 5) (sIf (tVal (dOp oNe (dCall (one bRepr) (aCons (dCall c_lefts (aCons (dVar 2) (aCons (dVar 5) aNil))) aNil)) (dCall (one bRepr) (aCons (dCall (one bTup) (aCons (dCall c__law_lefts (aCons (dVar 2) (aCons (dVar 5) aNil))) aNil)) aNil)))) (sRet (dC (.bl false))) sNx))
    (sSeq (sFor (sRange1 (dC (.int 3))) (gName 6) (sSeq (sSet 8 (dL nTup (lComp (sRange1 (dCall c__law_pick (aCons (dVar 1) (aCons (dC (.int 5)) aNil)))) (gName 13) tYes (dCall c__law_pick (aCons (dVar 1) (aCons (dC (.int 13)) aNil))) [13])))
    (sSeq (sPar3 9 10 11 (aCons (dCall c__law_added (aCons (dNew (lComp (sOf (dVar 8)) (gName 5) tYes (dOp oIx (dVar 4) (dVar 5)) [5])) aNil)) (aCons (dNew (lLst aNil)) (aCons (dNew (lLst aNil)) aNil))))
    (sSeq (sFor (sEnum (dVar 8)) (gTup 2 (gCons (gName 12) (gCons (gName 5) gNil))) (sSet 10 (dOp oAdd (dVar 10) (dNew (lComp (sOf (dCall c__law_lefts (aCons (dVar 2) (aCons (dVar 5) aNil)))) (gTup 2 (gCons (gName 13) (gCons (gName 14) gNil))) tYes (dTup (aCons (dVar 12) (aCons (dVar 13) (aCons (dVar 14) aNil)))) [13, 14])))))
    (sSeq (sFor (sOf (dVar 10)) (gTup 3 (gCons (gName 12) (gCons (gName 13) (gCons (gName 14) gNil)))) (sSeq (sSet 15 (dNew (lComp (sEnum (dVar 8)) (gTup 2 (gCons (gName 16) (gCons (gName 5) gNil))) (tVal (dOp oNe (dVar 16) (dVar 12))) (dOp oIx (dVar 4) (dVar 5)) [16, 5])))
    (sSet 11 (dOp oAdd (dVar 11) (dOp oMul (dNew (lLst (aCons (dTup (aCons (dVar 12) (aCons (dVar 13) (aCons (dVar 14) aNil)))) aNil))) (dCall (one bInt) (aCons (dOp oEq (dCall c__law_added (aCons (dOp oAdd (dVar 15) (dNew (lComp (sOf (dVar 14)) (gName 17) tYes (dOp oIx (dVar 4) (dVar 17)) [17]))) aNil)) (dC (.int 0))) aNil)))))))
    (sSeq (sIf (tOr (tVal (dOp oNe (dCall (one bRepr) (aCons (dCall c_moves (aCons (dVar 2) (aCons (dVar 8) aNil))) aNil)) (dCall (one bRepr) (aCons (dCall (one bTup) (aCons (dVar 10) aNil)) aNil)))) (tVal (dOp oNe (dCall (one bRepr) (aCons (dCall c_winning_moves (aCons (dVar 2) (aCons (dVar 8) aNil))) aNil)) (dCall (one bRepr) (aCons (dCall (one bTup) (aCons (dVar 11) aNil)) aNil))))) (sRet (dC (.bl false))) sNx)
    (sIf (tVal (dOp oNe (dCall (one bRepr) (aCons (dCall c_first_wins (aCons (dVar 2) (aCons (dVar 8) aNil))) aNil)) (dCall (one bRepr) (aCons (dOp oNe (dVar 9) (dC (.int 0))) aNil)))) (sRet (dC (.bl false))) sNx)))))))
    (sSeq (sSet 7 (dL nTup (lComp (sRange1 (dC (.int 3))) (gName 13) tYes (dCall c__law_pick (aCons (dVar 1) (aCons (dC (.int 6)) aNil))) [13])))
    (sRet (dOp oEq (dCall c_first_wins (aCons (dVar 2) (aCons (dVar 7) aNil))) (dCall c__law_wins (aCons (dVar 2) (aCons (dVar 7) (aCons (fun _ => newO (.dK [])) aNil))))))))))))))
@[irreducible] def F_law : List P → M P := fnOf 1 18 (D_law F_lefts F_worths F_moves F_first_wins F_winning_moves F__law_open_cells F__law_pick F__law_draw_code F__law_lefts F__law_added F__law_worths (F__law_wins 40))
end K_k27

namespace K_k27
open PySem PySem.Spec PyProof.Rows L2 G
def top (i : Nat) : Stmt := PySem.Challenge.pw_eachgame_k27_whole_worths_and_who_wins.main.body.getD i (.Pass ⟨0, 0, 0, 0⟩)
abbrev FnP (K : PySem.W.Frag) (x : Str) (st : Stmt) (f : Addr) (fd : FuncData) : Prop := FunD K x x (defArgs st) (defBody st) (defScope st) [] [] f fd
abbrev t_lefts : Stmt := top 1
abbrev t_added : Stmt := top 2
abbrev t_least_missing : Stmt := top 3
abbrev t_worths : Stmt := top 4
abbrev t_moves : Stmt := top 5
abbrev t_first_wins : Stmt := top 6
abbrev t_winning_moves : Stmt := top 7
abbrev t__law_open_cells : Stmt := top 9
abbrev t__law_pick : Stmt := top 10
abbrev t__law_draw_code : Stmt := top 11
abbrev t__law_lefts : Stmt := top 12
abbrev t__law_added : Stmt := top 13
abbrev t__law_worths : Stmt := top 14
abbrev t__law_wins : Stmt := top 15
abbrev t_law : Stmt := top 16
section
variable {Pr : Program} {w : World} {K : PySem.W.Frag} {mg : Str → Option Value} {base : Heap} {f : Addr} {fd : FuncData}
theorem sc_lefts : FnScope ["code", "n", "found", "i", "digit", "k", "a"] ["code", "n"] (defScope t_lefts) := ⟨rfl, rfl, rfl, by decide +kernel, rfl, by decide +kernel, by decide +kernel⟩
theorem sc_added : FnScope ["numbers", "found", "number"] ["numbers"] (defScope t_added) := ⟨rfl, rfl, rfl, by decide +kernel, rfl, by decide +kernel, by decide +kernel⟩
theorem sc_least_missing : FnScope ["numbers", "row", "found", "number"] ["numbers"] (defScope t_least_missing) := ⟨rfl, rfl, rfl, by decide +kernel, rfl, by decide +kernel, by decide +kernel⟩
theorem sc_worths : FnScope ["code", "most", "found", "n", "k", "left", "a"] ["code", "most"] (defScope t_worths) := ⟨rfl, rfl, rfl, by decide +kernel, rfl, by decide +kernel, by decide +kernel⟩
theorem sc_moves : FnScope ["code", "piles", "found", "i", "n", "k", "left"] ["code", "piles"] (defScope t_moves) := ⟨rfl, rfl, rfl, by decide +kernel, rfl, by decide +kernel, by decide +kernel⟩
theorem sc_first_wins : FnScope ["code", "piles", "table", "n"] ["code", "piles"] (defScope t_first_wins) := ⟨rfl, rfl, rfl, by decide +kernel, rfl, by decide +kernel, by decide +kernel⟩
theorem sc_winning_moves : FnScope ["code", "piles", "table", "whole", "found", "i", "k", "left", "n", "a"] ["code", "piles"] (defScope t_winning_moves) := ⟨rfl, rfl, rfl, by decide +kernel, rfl, by decide +kernel, by decide +kernel⟩
theorem sc__law_open_cells : FnScope ["script", "stirred", "cell", "cells"] ["script"] (defScope t__law_open_cells) := ⟨rfl, rfl, rfl, by decide +kernel, rfl, by decide +kernel, by decide +kernel⟩
theorem sc__law_pick : FnScope ["source", "most", "cells", "others", "lap", "stirred"] ["source", "most"] (defScope t__law_pick) := ⟨rfl, rfl, rfl, by decide +kernel, rfl, by decide +kernel, by decide +kernel⟩
theorem sc__law_draw_code : FnScope ["source", "many", "road", "digits", "k"] ["source"] (defScope t__law_draw_code) := ⟨rfl, rfl, rfl, by decide +kernel, rfl, by decide +kernel, by decide +kernel⟩
theorem sc__law_lefts : FnScope ["code", "n", "found", "k", "digit", "rest", "a"] ["code", "n"] (defScope t__law_lefts) := ⟨rfl, rfl, rfl, by decide +kernel, rfl, by decide +kernel, by decide +kernel⟩
theorem sc__law_added : FnScope ["numbers", "found", "k", "number"] ["numbers"] (defScope t__law_added) := ⟨rfl, rfl, rfl, by decide +kernel, rfl, by decide +kernel, by decide +kernel⟩
theorem sc__law_worths : FnScope ["code", "most", "found", "n", "row", "late", "k", "left", "a"] ["code", "most"] (defScope t__law_worths) := ⟨rfl, rfl, rfl, by decide +kernel, rfl, by decide +kernel, by decide +kernel⟩
theorem sc__law_wins : FnScope ["code", "piles", "known", "late", "i", "n", "one", "k", "left"] ["code", "piles", "known"] (defScope t__law_wins) := ⟨rfl, rfl, rfl, by decide +kernel, rfl, by decide +kernel, by decide +kernel⟩
theorem sc_law : FnScope ["script", "source", "code", "most", "table", "n", "lap", "small", "piles", "whole", "due", "good", "i", "k", "left", "others", "j", "a"] ["script"] (defScope t_law) := ⟨rfl, rfl, rfl, by decide +kernel, rfl, by decide +kernel, by decide +kernel⟩
theorem ok_lefts (P_lefts : FnP K "lefts" t_lefts f fd) (m_enumerate : mg "enumerate" = none) (m_range : mg "range" = none) (m_sorted : mg "sorted" = none) (m_tuple : mg "tuple" = none) : FnG Pr w K mg base 1 f fd ["code", "n"] F_lefts := by
  rw [F_lefts]
  refine fnG_of P_lefts sc_lefts rfl rfl fun cdv A outer s H E => ?_
  intro X hr ok
  exact (pss_consG (ps_setG ok (i := 2) (pd_new (pdl_lst pda_nil)))
    (pss_consG (ps_forG ok PassesOwn.never (pdi_enum m_enumerate (pd_var (i := 0))) (pdg_tup ok (pdgs_cons (pdg_name ok (i := 3)) (pdgs_cons (pdg_name ok (i := 4)) pdgs_nil))) (nx_tup (nx_cons (nx_name 3) (nx_cons (nx_name 4) nx_nil))) (pss_consG (ps_setG ok (i := 5) (pd_op ob_add (pd_var (i := 3)) pd_int))
    (pss_consG (ps_ifG (PDW.pt (pw_andG (pt_any (pd_op ob_and (pd_var (i := 4)) pd_int)) (pw_and1G (pt_cmpG (ob_eq ok) (pd_var (i := 1)) (pd_var (i := 5)))))) (pss_oneG (ps_exprG (pd_append (pd_var (i := 2)) (pd_tup (pda_cons (pd_var (i := 5)) (pda_cons (pd_tup pda_nil) pda_nil)))))) pss_nilG)
    (pss_consG (ps_ifG (PDW.pt (pw_andG (pt_any (pd_op ob_and (pd_var (i := 4)) pd_int)) (pw_and1G (pt_cmpG ob_gt (pd_var (i := 1)) (pd_var (i := 5)))))) (pss_oneG (ps_exprG (pd_append (pd_var (i := 2)) (pd_tup (pda_cons (pd_var (i := 5)) (pda_cons (pd_tup (pda_cons (pd_op ob_sub (pd_var (i := 1)) (pd_var (i := 5))) pda_nil)) pda_nil)))))) pss_nilG)
    (pss_oneG (ps_ifG (pt_any (pd_op ob_and (pd_var (i := 4)) pd_int)) (pss_oneG (ps_exprG (pd_extendL (pd_var (i := 2)) (pdl_comp ok (pdi_range2 m_range pd_int (pd_op ob_add (pd_op ob_div (pd_op ob_sub (pd_var (i := 1)) (pd_var (i := 5))) pd_int) pd_int)) (blkOk_by (own := [("a", 6)]) (by kernel_rfl)) (fun _ _ _ _ _ => (pdg_name ok.blk (i := 6))) (fun _ _ _ _ _ => pts_noneG) (fun _ _ _ _ _ => (pd_tup (pda_cons (pd_var (i := 5)) (pda_cons (pd_tup (pda_cons (pd_var (i := 6)) (pda_cons (pd_op ob_sub (pd_op ob_sub (pd_var (i := 1)) (pd_var (i := 5))) (pd_var (i := 6))) pda_nil))) pda_nil)))))))) pss_nilG))))))
    (pss_oneG (ps_retG (pd_nL cn_tup (.inr ⟨_, rfl⟩) m_tuple (pdl_nV (cl_sorted ok) (.inl ⟨_, rfl⟩) m_sorted (pd_var (i := 2))))))))
theorem ok_added (P_added : FnP K "added" t_added f fd) : FnG Pr w K mg base 1 f fd ["numbers"] F_added := by
  rw [F_added]
  refine fnG_of P_added sc_added rfl rfl fun cdv A outer s H E => ?_
  intro X hr ok
  exact (pss_consG (ps_setG ok (i := 1) pd_int)
    (pss_consG (ps_forG ok PassesOwn.never (pdi_of (pd_var (i := 0))) (pdg_name ok (i := 2)) (nx_name 2) (pss_oneG (ps_setG ok (i := 1) (pd_op ob_xor (pd_var (i := 1)) (pd_var (i := 2))))))
    (pss_oneG (ps_retG (pd_var (i := 1))))))
theorem ok_least_missing (P_least_missing : FnP K "least_missing" t_least_missing f fd) (m_sorted : mg "sorted" = none) : FnG Pr w K mg base 1 f fd ["numbers"] F_least_missing := by
  rw [F_least_missing]
  refine fnG_of P_least_missing sc_least_missing rfl rfl fun cdv A outer s H E => ?_
  intro X hr ok
  exact (pss_consG (ps_setG ok (i := 1) (pd_new (pdl_nV (cl_sorted ok) (.inl ⟨_, rfl⟩) m_sorted (pd_var (i := 0)))))
    (pss_consG (ps_setG ok (i := 2) pd_int)
    (pss_consG (ps_forG ok PassesOwn.never (pdi_of (pd_var (i := 1))) (pdg_name ok (i := 3)) (nx_name 3) (pss_oneG (ps_ifG (pt_cmpG (ob_eq ok) (pd_var (i := 3)) (pd_var (i := 2))) (pss_oneG (ps_setG ok (i := 2) (pd_op ob_add (pd_var (i := 2)) pd_int))) pss_nilG)))
    (pss_oneG (ps_retG (pd_var (i := 2)))))))
theorem ok_worths (P_worths : FnP K "worths" t_worths f fd) (m_range : mg "range" = none) (m_tuple : mg "tuple" = none) (h_lefts : Held Pr w K mg base 1 "lefts" 2 F_lefts) (h_added : Held Pr w K mg base 1 "added" 1 F_added) (h_least_missing : Held Pr w K mg base 1 "least_missing" 1 F_least_missing) : FnG Pr w K mg base 2 f fd ["code", "most"] F_worths := by
  have h_lefts := h_lefts.mono (k := 1) (by decide)
  have h_added := h_added.mono (k := 1) (by decide)
  have h_least_missing := h_least_missing.mono (k := 1) (by decide)
  rw [F_worths]
  refine fnG_of P_worths sc_worths rfl rfl fun cdv A outer s H E => ?_
  intro X hr ok
  exact (pss_consG (ps_setG ok (i := 2) (pd_new (pdl_lst pda_nil)))
    (pss_consG (ps_forG ok PassesOwn.never (pdi_range1 m_range (pd_op ob_add (pd_var (i := 1)) pd_int)) (pdg_name ok (i := 3)) (nx_name 3) (pss_oneG (ps_exprG (pd_append (pd_var (i := 2)) (pd_call h_least_missing hr ok (pda_cons (pd_new (pdl_comp ok (pdi_of (pd_call h_lefts hr ok (pda_cons (pd_var (i := 0)) (pda_cons (pd_var (i := 3)) pda_nil)) rfl (al_cons (al_cons al_nil)))) (blkOk_by (own := [("k", 4), ("left", 5)]) (by kernel_rfl)) (fun _ _ _ _ _ => (pdg_tup ok.blk (pdgs_cons (pdg_name ok.blk (i := 4)) (pdgs_cons (pdg_name ok.blk (i := 5)) pdgs_nil)))) (fun _ _ _ _ _ => pts_noneG) (fun _ _ _ _ _ => (pd_call h_added hr ok.blk (pda_cons (pd_new (pdl_comp ok.blk (pdi_of (pd_var (i := 5))) (blkOk_by (own := [("a", 6)]) (by kernel_rfl)) (fun _ _ _ _ _ => (pdg_name ok.blk.blk (i := 6))) (fun _ _ _ _ _ => pts_noneG) (fun _ _ _ _ _ => (pd_ix ok.blk.blk (pd_var (i := 2)) (pd_var (i := 6)))))) pda_nil) rfl (al_cons al_nil))))) pda_nil) rfl (al_cons al_nil))))))
    (pss_oneG (ps_retG (pd_callTy cb_tup m_tuple (pda_cons (pd_var (i := 2)) pda_nil))))))
theorem ok_moves (P_moves : FnP K "moves" t_moves f fd) (m_enumerate : mg "enumerate" = none) (m_tuple : mg "tuple" = none) (h_lefts : Held Pr w K mg base 1 "lefts" 2 F_lefts) : FnG Pr w K mg base 2 f fd ["code", "piles"] F_moves := by
  have h_lefts := h_lefts.mono (k := 1) (by decide)
  rw [F_moves]
  refine fnG_of P_moves sc_moves rfl rfl fun cdv A outer s H E => ?_
  intro X hr ok
  exact (pss_consG (ps_setG ok (i := 2) (pd_new (pdl_lst pda_nil)))
    (pss_consG (ps_forG ok PassesOwn.never (pdi_enum m_enumerate (pd_var (i := 1))) (pdg_tup ok (pdgs_cons (pdg_name ok (i := 3)) (pdgs_cons (pdg_name ok (i := 4)) pdgs_nil))) (nx_tup (nx_cons (nx_name 3) (nx_cons (nx_name 4) nx_nil))) (pss_oneG (ps_exprG (pd_extendL (pd_var (i := 2)) (pdl_comp ok (pdi_of (pd_call h_lefts hr ok (pda_cons (pd_var (i := 0)) (pda_cons (pd_var (i := 4)) pda_nil)) rfl (al_cons (al_cons al_nil)))) (blkOk_by (own := [("k", 5), ("left", 6)]) (by kernel_rfl)) (fun _ _ _ _ _ => (pdg_tup ok.blk (pdgs_cons (pdg_name ok.blk (i := 5)) (pdgs_cons (pdg_name ok.blk (i := 6)) pdgs_nil)))) (fun _ _ _ _ _ => pts_noneG) (fun _ _ _ _ _ => (pd_tup (pda_cons (pd_var (i := 3)) (pda_cons (pd_var (i := 5)) (pda_cons (pd_var (i := 6)) pda_nil))))))))))
    (pss_oneG (ps_retG (pd_callTy cb_tup m_tuple (pda_cons (pd_var (i := 2)) pda_nil))))))
theorem ok_first_wins (P_first_wins : FnP K "first_wins" t_first_wins f fd) (m_max : mg "max" = none) (h_added : Held Pr w K mg base 1 "added" 1 F_added) (h_worths : Held Pr w K mg base 2 "worths" 2 F_worths) : FnG Pr w K mg base 3 f fd ["code", "piles"] F_first_wins := by
  have h_added := h_added.mono (k := 2) (by decide)
  have h_worths := h_worths.mono (k := 2) (by decide)
  rw [F_first_wins]
  refine fnG_of P_first_wins sc_first_wins rfl rfl fun cdv A outer s H E => ?_
  intro X hr ok
  exact (pss_consG (ps_setG ok (i := 2) (pd_call h_worths hr ok (pda_cons (pd_var (i := 0)) (pda_cons (pd_nV (cn_maxV ok) (.inl ⟨_, rfl⟩) m_max (pd_op ob_add (pd_var (i := 1)) (pd_tup (pda_cons pd_int pda_nil)))) pda_nil)) rfl (al_cons (al_cons al_nil))))
    (pss_oneG (ps_retG (pd_cmp (ob_ne ok) (pd_call h_added hr ok (pda_cons (pd_new (pdl_comp ok (pdi_of (pd_var (i := 1))) (blkOk_by (own := [("n", 3)]) (by kernel_rfl)) (fun _ _ _ _ _ => (pdg_name ok.blk (i := 3))) (fun _ _ _ _ _ => pts_noneG) (fun _ _ _ _ _ => (pd_ix ok.blk (pd_var (i := 2)) (pd_var (i := 3)))))) pda_nil) rfl (al_cons al_nil)) pd_int))))
theorem ok_winning_moves (P_winning_moves : FnP K "winning_moves" t_winning_moves f fd) (m_max : mg "max" = none) (m_tuple : mg "tuple" = none) (h_added : Held Pr w K mg base 1 "added" 1 F_added) (h_worths : Held Pr w K mg base 2 "worths" 2 F_worths) (h_moves : Held Pr w K mg base 2 "moves" 2 F_moves) : FnG Pr w K mg base 3 f fd ["code", "piles"] F_winning_moves := by
  have h_added := h_added.mono (k := 2) (by decide)
  have h_worths := h_worths.mono (k := 2) (by decide)
  have h_moves := h_moves.mono (k := 2) (by decide)
  rw [F_winning_moves]
  refine fnG_of P_winning_moves sc_winning_moves rfl rfl fun cdv A outer s H E => ?_
  intro X hr ok
  exact (pss_consG (ps_setG ok (i := 2) (pd_call h_worths hr ok (pda_cons (pd_var (i := 0)) (pda_cons (pd_nV (cn_maxV ok) (.inl ⟨_, rfl⟩) m_max (pd_op ob_add (pd_var (i := 1)) (pd_tup (pda_cons pd_int pda_nil)))) pda_nil)) rfl (al_cons (al_cons al_nil))))
    (pss_consG (ps_setG ok (i := 3) (pd_call h_added hr ok (pda_cons (pd_new (pdl_comp ok (pdi_of (pd_var (i := 1))) (blkOk_by (own := [("n", 8)]) (by kernel_rfl)) (fun _ _ _ _ _ => (pdg_name ok.blk (i := 8))) (fun _ _ _ _ _ => pts_noneG) (fun _ _ _ _ _ => (pd_ix ok.blk (pd_var (i := 2)) (pd_var (i := 8)))))) pda_nil) rfl (al_cons al_nil)))
    (pss_consG (ps_setG ok (i := 4) (pd_new (pdl_lst pda_nil)))
    (pss_consG (ps_forG ok PassesOwn.never (pdi_of (pd_call h_moves hr ok (pda_cons (pd_var (i := 0)) (pda_cons (pd_var (i := 1)) pda_nil)) rfl (al_cons (al_cons al_nil)))) (pdg_tup ok (pdgs_cons (pdg_name ok (i := 5)) (pdgs_cons (pdg_name ok (i := 6)) (pdgs_cons (pdg_name ok (i := 7)) pdgs_nil)))) (nx_tup (nx_cons (nx_name 5) (nx_cons (nx_name 6) (nx_cons (nx_name 7) nx_nil)))) (pss_oneG (ps_ifG (pt_cmpG (ob_eq ok) (pd_op ob_xor (pd_op ob_xor (pd_var (i := 3)) (pd_ix ok (pd_var (i := 2)) (pd_ix ok (pd_var (i := 1)) (pd_var (i := 5))))) (pd_call h_added hr ok (pda_cons (pd_new (pdl_comp ok (pdi_of (pd_var (i := 7))) (blkOk_by (own := [("a", 9)]) (by kernel_rfl)) (fun _ _ _ _ _ => (pdg_name ok.blk (i := 9))) (fun _ _ _ _ _ => pts_noneG) (fun _ _ _ _ _ => (pd_ix ok.blk (pd_var (i := 2)) (pd_var (i := 9)))))) pda_nil) rfl (al_cons al_nil))) pd_int) (pss_oneG (ps_exprG (pd_append (pd_var (i := 4)) (pd_tup (pda_cons (pd_var (i := 5)) (pda_cons (pd_var (i := 6)) (pda_cons (pd_var (i := 7)) pda_nil))))))) pss_nilG)))
    (pss_oneG (ps_retG (pd_callTy cb_tup m_tuple (pda_cons (pd_var (i := 4)) pda_nil))))))))
theorem ok__law_open_cells (P__law_open_cells : FnP K "_law_open_cells" t__law_open_cells f fd) (m_abs : mg "abs" = none) (m_int : mg "int" = none) : FnG Pr w K mg base 1 f fd ["script"] F__law_open_cells := by
  rw [F__law_open_cells]
  refine fnG_of P__law_open_cells sc__law_open_cells rfl rfl fun cdv A outer s H E => ?_
  intro X hr ok
  exact (pss_consG (ps_setG ok (i := 1) pd_int)
    (pss_consG (ps_forG ok PassesOwn.never (pdi_of (pd_var (i := 0))) (pdg_name ok (i := 2)) (nx_name 2) (pss_oneG (ps_setG ok (i := 1) (pd_op ob_mod (pd_callTy cb_int m_int (pda_cons (pd_op ob_add (pd_op ob_add (pd_op ob_mul (pd_var (i := 1)) pd_int) (pd_op ob_mul (pd_var (i := 2)) pd_int)) pd_int) pda_nil)) pd_int))))
    (pss_consG (ps_setLcG ok (i := 3) (pdi_of (pd_var (i := 0))) (blkOk_by (own := [("cell", 2)]) (by kernel_rfl)) (fun _ _ _ _ _ => (pdg_name ok.blk (i := 2))) (fun _ _ _ _ _ => pts_noneG) (fun _ _ _ _ _ => (pd_callB cb_abs m_abs (pda_cons (pd_var (i := 2)) pda_nil))))
    (pss_oneG (ps_retG (pd_dict (pdk_cons pd_str (pd_rev (pd_var (i := 3))) (pdk_cons pd_str pd_int (pdk_cons pd_str (pd_var (i := 1)) (pdk_cons pd_str pd_int pdk_nil))))))))))
theorem ok__law_pick (P__law_pick : FnP K "_law_pick" t__law_pick f fd) (m_int : mg "int" = none) (m_len : mg "len" = none) : FnG Pr w K mg base 1 f fd ["source", "most"] F__law_pick := by
  rw [F__law_pick]
  refine fnG_of P__law_pick sc__law_pick rfl rfl fun cdv A outer s H E => ?_
  intro X hr ok
  exact (pss_consG (ps_ifG (pt_cmpG (ob_lt ok) (pd_var (i := 1)) pd_int) (pss_oneG (ps_retG pd_int)) pss_nilG)
    (pss_consG (ps_setG ok (i := 2) (pd_ix ok (pd_var (i := 0)) pd_str))
    (pss_consG (ps_whileG PassesOwn.never (PDW.pt (pw_andG (pt_cmpG (ob_lt ok) (pd_ix ok (pd_var (i := 0)) pd_str) pd_int) (pw_and1G (pt_cmpG ob_gt (pd_callB cb_len m_len (pda_cons (pd_var (i := 2)) pda_nil)) pd_int)))) (pss_oneG (ps_putG ok (pd_pop (pd_var (i := 2))) (pd_var (i := 0)) pd_str)))
    (pss_consG (ps_setG ok (i := 3) (pd_ix ok (pd_var (i := 0)) pd_str))
    (pss_consG (ps_ifG (pt_cmpG ob_gt (pd_var (i := 3)) pd_int) (pss_consG (ps_putG ok (pd_op ob_div (pd_var (i := 3)) (pd_var (i := 1))) (pd_var (i := 0)) pd_str)
    (pss_oneG (ps_retG (pd_op ob_mod (pd_callTy cb_int m_int (pda_cons (pd_var (i := 3)) pda_nil)) (pd_var (i := 1)))))) pss_nilG)
    (pss_consG (ps_putG ok (pd_op ob_add (pd_ix ok (pd_var (i := 0)) pd_str) pd_int) (pd_var (i := 0)) pd_str)
    (pss_consG (ps_setG ok (i := 4) (pd_ix ok (pd_var (i := 0)) pd_str))
    (pss_consG (ps_setG ok (i := 5) (pd_op ob_mod (pd_callTy cb_int m_int (pda_cons (pd_op ob_add (pd_ix ok (pd_var (i := 0)) pd_str) (pd_op ob_mul (pd_var (i := 4)) pd_int)) pda_nil)) pd_int))
    (pss_consG (ps_setG ok (i := 5) (pd_op ob_mod (pd_callTy cb_int m_int (pda_cons (pd_op ob_add (pd_op ob_mul (pd_var (i := 5)) (pd_var (i := 5))) (pd_op ob_mul (pd_var (i := 4)) pd_int)) pda_nil)) pd_int))
    (pss_oneG (ps_retG (pd_op ob_mod (pd_callTy cb_int m_int (pda_cons (pd_op ob_div (pd_var (i := 5)) pd_int) pda_nil)) (pd_var (i := 1))))))))))))))
theorem ok__law_draw_code (P__law_draw_code : FnP K "_law_draw_code" t__law_draw_code f fd) (m_range : mg "range" = none) (m_tuple : mg "tuple" = none) (h__law_pick : Held Pr w K mg base 1 "_law_pick" 2 F__law_pick) : FnG Pr w K mg base 2 f fd ["source"] F__law_draw_code := by
  have h__law_pick := h__law_pick.mono (k := 1) (by decide)
  rw [F__law_draw_code]
  refine fnG_of P__law_draw_code sc__law_draw_code rfl rfl fun cdv A outer s H E => ?_
  intro X hr ok
  exact (pss_consG (ps_setG ok (i := 1) (pd_op ob_add pd_int (pd_call h__law_pick hr ok (pda_cons (pd_var (i := 0)) (pda_cons pd_int pda_nil)) rfl (al_cons (al_cons al_nil)))))
    (pss_consG (ps_setG ok (i := 2) (pd_call h__law_pick hr ok (pda_cons (pd_var (i := 0)) (pda_cons pd_int pda_nil)) rfl (al_cons (al_cons al_nil))))
    (pss_consG (ps_setLcG ok (i := 3) (pdi_range1 m_range (pd_var (i := 1))) (blkOk_by (own := [("k", 4)]) (by kernel_rfl)) (fun _ _ _ _ _ => (pdg_name ok.blk (i := 4))) (fun _ _ _ _ _ => pts_noneG) (fun _ _ _ _ _ => (pd_if (pt_cmpG (ob_eq ok.blk) (pd_var (i := 2)) pd_int) (pd_call h__law_pick hr ok.blk (pda_cons (pd_var (i := 0)) (pda_cons pd_int pda_nil)) rfl (al_cons (al_cons al_nil))) (pd_call h__law_pick hr ok.blk (pda_cons (pd_var (i := 0)) (pda_cons pd_int pda_nil)) rfl (al_cons (al_cons al_nil))))))
    (pss_consG (ps_putG ok (pd_if (pt_cmpG ob_gt (pd_ix ok (pd_var (i := 3)) (pd_un un_negG pd_int)) pd_int) (pd_ix ok (pd_var (i := 3)) (pd_un un_negG pd_int)) (pd_op ob_add pd_int (pd_call h__law_pick hr ok (pda_cons (pd_var (i := 0)) (pda_cons pd_int pda_nil)) rfl (al_cons (al_cons al_nil))))) (pd_var (i := 3)) (pd_un un_negG pd_int))
    (pss_oneG (ps_retG (pd_callTy cb_tup m_tuple (pda_cons (pd_var (i := 3)) pda_nil))))))))
theorem ok__law_lefts (P__law_lefts : FnP K "_law_lefts" t__law_lefts f fd) (m_len : mg "len" = none) (m_min : mg "min" = none) (m_range : mg "range" = none) (m_sorted : mg "sorted" = none) : FnG Pr w K mg base 1 f fd ["code", "n"] F__law_lefts := by
  rw [F__law_lefts]
  refine fnG_of P__law_lefts sc__law_lefts rfl rfl fun cdv A outer s H E => ?_
  intro X hr ok
  exact (pss_consG (ps_setG ok (i := 2) (pd_new (pdl_lst pda_nil)))
    (pss_consG (ps_forG ok PassesOwn.never (pdi_range2 m_range pd_int (pd_op ob_add (pd_callB (cb_min2 ok) m_min (pda_cons (pd_var (i := 1)) (pda_cons (pd_callB cb_len m_len (pda_cons (pd_var (i := 0)) pda_nil)) pda_nil))) pd_int)) (pdg_name ok (i := 3)) (nx_name 3) (pss_consG (ps_asgG (pd_tup (pda_cons (pd_ix ok (pd_var (i := 0)) (pd_op ob_sub (pd_var (i := 3)) pd_int)) (pda_cons (pd_op ob_sub (pd_var (i := 1)) (pd_var (i := 3))) pda_nil))) (pdg_tup ok (pdgs_cons (pdg_name ok (i := 4)) (pdgs_cons (pdg_name ok (i := 5)) pdgs_nil))) (nx_tup (nx_cons (nx_name 4) (nx_cons (nx_name 5) nx_nil))))
    (pss_consG (ps_ifG (PDW.pt (pw_andG (pt_cmpG (ob_eq ok) (pd_op ob_mod (pd_var (i := 4)) pd_int) pd_int) (pw_and1G (pt_cmpG (ob_eq ok) (pd_var (i := 5)) pd_int)))) (pss_oneG (ps_setG ok (i := 2) (pd_op ob_add (pd_var (i := 2)) (pd_new (pdl_lst (pda_cons (pd_tup (pda_cons (pd_var (i := 3)) (pda_cons (pd_tup pda_nil) pda_nil))) pda_nil)))))) pss_nilG)
    (pss_consG (ps_ifG (PDW.pt (pw_andG (pt_cmpG (ob_eq ok) (pd_op ob_mod (pd_op ob_div (pd_var (i := 4)) pd_int) pd_int) pd_int) (pw_and1G (pt_cmpG ob_gt (pd_var (i := 5)) pd_int)))) (pss_oneG (ps_setG ok (i := 2) (pd_op ob_add (pd_var (i := 2)) (pd_new (pdl_lst (pda_cons (pd_tup (pda_cons (pd_var (i := 3)) (pda_cons (pd_tup (pda_cons (pd_var (i := 5)) pda_nil)) pda_nil))) pda_nil)))))) pss_nilG)
    (pss_oneG (ps_ifG (pt_cmpG (ob_eq ok) (pd_op ob_div (pd_var (i := 4)) pd_int) pd_int) (pss_oneG (ps_setG ok (i := 2) (pd_op ob_add (pd_var (i := 2)) (pd_new (pdl_comp ok (pdi_range2 m_range pd_int (pd_var (i := 5))) (blkOk_by (own := [("a", 6)]) (by kernel_rfl)) (fun _ _ _ _ _ => (pdg_name ok.blk (i := 6))) (fun _ _ _ _ _ => (pts_oneG (pt_cmpG ob_le (pd_var (i := 6)) (pd_op ob_sub (pd_var (i := 5)) (pd_var (i := 6)))))) (fun _ _ _ _ _ => (pd_tup (pda_cons (pd_var (i := 3)) (pda_cons (pd_tup (pda_cons (pd_var (i := 6)) (pda_cons (pd_op ob_sub (pd_var (i := 5)) (pd_var (i := 6))) pda_nil))) pda_nil))))))))) pss_nilG))))))
    (pss_oneG (ps_retG (pd_new (pdl_nV (cl_sorted ok) (.inl ⟨_, rfl⟩) m_sorted (pd_var (i := 2))))))))
theorem ok__law_added (P__law_added : FnP K "_law_added" t__law_added f fd) (m_range : mg "range" = none) (m_sum : mg "sum" = none) : FnG Pr w K mg base 1 f fd ["numbers"] F__law_added := by
  rw [F__law_added]
  refine fnG_of P__law_added sc__law_added rfl rfl fun cdv A outer s H E => ?_
  intro X hr ok
  exact (pss_consG (ps_setG ok (i := 1) pd_int)
    (pss_consG (ps_forG ok PassesOwn.never (pdi_range1 m_range pd_int) (pdg_name ok (i := 2)) (nx_name 2) (pss_oneG (ps_setG ok (i := 1) (pd_op ob_add (pd_var (i := 1)) (pd_op ob_mul (pd_op ob_shl pd_int (pd_var (i := 2))) (pd_op ob_mod (pd_nL (cn_sum ok) (.inl ⟨_, rfl⟩) m_sum (pdl_comp ok (pdi_of (pd_var (i := 0))) (blkOk_by (own := [("number", 3)]) (by kernel_rfl)) (fun _ _ _ _ _ => (pdg_name ok.blk (i := 3))) (fun _ _ _ _ _ => pts_noneG) (fun _ _ _ _ _ => (pd_op ob_mod (pd_op ob_div (pd_var (i := 3)) (pd_op ob_shl pd_int (pd_var (i := 2)))) pd_int)))) pd_int))))))
    (pss_oneG (ps_retG (pd_var (i := 1))))))
theorem ok__law_worths (P__law_worths : FnP K "_law_worths" t__law_worths f fd) (m_range : mg "range" = none) (h__law_lefts : Held Pr w K mg base 1 "_law_lefts" 2 F__law_lefts) (h__law_added : Held Pr w K mg base 1 "_law_added" 1 F__law_added) : FnG Pr w K mg base 2 f fd ["code", "most"] F__law_worths := by
  have h__law_lefts := h__law_lefts.mono (k := 1) (by decide)
  have h__law_added := h__law_added.mono (k := 1) (by decide)
  rw [F__law_worths]
  refine fnG_of P__law_worths sc__law_worths rfl rfl fun cdv A outer s H E => ?_
  intro X hr ok
  exact (pss_consG (ps_setG ok (i := 2) (pd_new (pdl_lst pda_nil)))
    (pss_consG (ps_forG ok PassesOwn.never (pdi_range1 m_range (pd_op ob_add (pd_var (i := 1)) pd_int)) (pdg_name ok (i := 3)) (nx_name 3) (pss_consG (ps_parG ok (i := 4) (j := 5) (pda_cons (pd_new (pdl_comp ok (pdi_of (pd_call h__law_lefts hr ok (pda_cons (pd_var (i := 0)) (pda_cons (pd_var (i := 3)) pda_nil)) rfl (al_cons (al_cons al_nil)))) (blkOk_by (own := [("k", 6), ("left", 7)]) (by kernel_rfl)) (fun _ _ _ _ _ => (pdg_tup ok.blk (pdgs_cons (pdg_name ok.blk (i := 6)) (pdgs_cons (pdg_name ok.blk (i := 7)) pdgs_nil)))) (fun _ _ _ _ _ => pts_noneG) (fun _ _ _ _ _ => (pd_call h__law_added hr ok.blk (pda_cons (pd_new (pdl_comp ok.blk (pdi_of (pd_var (i := 7))) (blkOk_by (own := [("a", 8)]) (by kernel_rfl)) (fun _ _ _ _ _ => (pdg_name ok.blk.blk (i := 8))) (fun _ _ _ _ _ => pts_noneG) (fun _ _ _ _ _ => (pd_ix ok.blk.blk (pd_var (i := 2)) (pd_var (i := 8)))))) pda_nil) rfl (al_cons al_nil))))) (pda_cons pd_int pda_nil)))
    (pss_consG (ps_whileG PassesOwn.never (pt_cmpG (ob_in ok) (pd_var (i := 5)) (pd_var (i := 4))) (pss_oneG (ps_setG ok (i := 5) (pd_op ob_add (pd_var (i := 5)) pd_int))))
    (pss_oneG (ps_exprG (pd_append (pd_var (i := 2)) (pd_var (i := 5))))))))
    (pss_oneG (ps_retG (pd_var (i := 2))))))
theorem ok__law_wins {f__law_wins : Addr} {fd__law_wins : FuncData} (P__law_wins : FnP K "_law_wins" t__law_wins f__law_wins fd__law_wins) (g__law_wins : mg "_law_wins" = some (.ref f__law_wins)) (m_any : mg "any" = none) (m_enumerate : mg "enumerate" = none) (m_sorted : mg "sorted" = none) (m_tuple : mg "tuple" = none) (h__law_lefts : Held Pr w K mg base 1 "_law_lefts" 2 F__law_lefts) : ∀ n : Nat, FnG Pr w K mg base (1 + n) f__law_wins fd__law_wins ["code", "piles", "known"] (F__law_wins n)
  | 0 => (by rw [F__law_wins_0]; exact ⟨fun _ _ _ _ _ _ _ _ _ _ _ _ _ _ ⟨_, _, _, _, _, g⟩ => False.elim g⟩)
  | n + 1 => by
    have ih := ok__law_wins P__law_wins g__law_wins m_any m_enumerate m_sorted m_tuple h__law_lefts n
    have i__law_wins := ih
    have h__law_wins : Held Pr w K mg base (1 + n) "_law_wins" 3 (F__law_wins n) := ⟨_, _, ["code", "piles", "known"], g__law_wins, P__law_wins.kp, P__law_wins.bindsN fun _ _ _ _ _ _ us hl => match us, hl with | [_, _, _], _ => rfl, rfl, i__law_wins⟩
    have h__law_lefts := h__law_lefts.mono (k := 1 + n) (Nat.le_trans (by decide) (Nat.le_add_right 1 n))
    · rw [F__law_wins_s]
      refine fnG_of P__law_wins sc__law_wins rfl rfl fun cdv A outer s H E => ?_
      intro X hr ok
      exact (pss_consG (ps_setG ok (i := 1) (pd_nL cn_tup (.inr ⟨_, rfl⟩) m_tuple (pdl_nL (nOfL.toL (cl_sorted ok)) (.inl ⟨_, rfl⟩) m_sorted (pdl_comp ok (pdi_of (pd_var (i := 1))) (blkOk_by (own := [("n", 5)]) (by kernel_rfl)) (fun _ _ _ _ _ => (pdg_name ok.blk (i := 5))) (fun _ _ _ _ _ => (pts_oneG (pt_cmpG ob_gt (pd_var (i := 5)) pd_int))) (fun _ _ _ _ _ => (pd_var (i := 5)))))))
    (pss_consG (ps_ifG (pt_cmpG (ob_notIn ok) (pd_var (i := 1)) (pd_var (i := 2))) (pss_consG (ps_setG ok (i := 3) (pd_new (pdl_lst pda_nil)))
    (pss_consG (ps_forG ok PassesOwn.never (pdi_enum m_enumerate (pd_var (i := 1))) (pdg_tup ok (pdgs_cons (pdg_name ok (i := 4)) (pdgs_cons (pdg_name ok (i := 5)) pdgs_nil))) (nx_tup (nx_cons (nx_name 4) (nx_cons (nx_name 5) nx_nil))) (pss_oneG (ps_setG ok (i := 3) (pd_op ob_add (pd_var (i := 3)) (pd_new (pdl_comp ok (pdi_of (pd_call h__law_lefts hr ok (pda_cons (pd_var (i := 0)) (pda_cons (pd_var (i := 5)) pda_nil)) rfl (al_cons (al_cons al_nil)))) (blkOk_by (own := [("k", 7), ("left", 8)]) (by kernel_rfl)) (fun _ _ _ _ _ => (pdg_tup ok.blk (pdgs_cons (pdg_name ok.blk (i := 7)) (pdgs_cons (pdg_name ok.blk (i := 8)) pdgs_nil)))) (fun _ _ _ _ _ => pts_noneG) (fun _ _ _ _ _ => (pd_op ob_add (pd_op ob_add (pd_sl (pd_var (i := 1)) pdo_none (pdo_some (pd_var (i := 4)))) (pd_var (i := 8))) (pd_sl (pd_var (i := 1)) (pdo_some (pd_op ob_add (pd_var (i := 4)) pd_int)) pdo_none)))))))))
    (pss_oneG (ps_putG ok (pd_nL (cn_any ok) (.inl ⟨_, rfl⟩) m_any (pdl_comp ok (pdi_of (pd_var (i := 3))) (blkOk_by (own := [("one", 6)]) (by kernel_rfl)) (fun _ _ _ _ _ => (pdg_name ok.blk (i := 6))) (fun _ _ _ _ _ => pts_noneG) (fun _ _ _ _ _ => (pd_not (pd_call h__law_wins hr ok.blk (pda_cons (pd_var (i := 0)) (pda_cons (pd_var (i := 6)) (pda_cons (pd_var (i := 2)) pda_nil))) rfl (al_cons (al_cons (al_cons al_nil)))))))) (pd_var (i := 2)) (pd_var (i := 1)))))) pss_nilG)
    (pss_oneG (ps_retG (pd_ix ok (pd_var (i := 2)) (pd_var (i := 1)))))))
theorem ok_law (P_law : FnP K "law" t_law f fd) (m_enumerate : mg "enumerate" = none) (m_int : mg "int" = none) (m_max : mg "max" = none) (m_range : mg "range" = none) (m_repr : mg "repr" = none) (m_tuple : mg "tuple" = none) (h_lefts : Held Pr w K mg base 1 "lefts" 2 F_lefts) (h_worths : Held Pr w K mg base 2 "worths" 2 F_worths) (h_moves : Held Pr w K mg base 2 "moves" 2 F_moves) (h_first_wins : Held Pr w K mg base 3 "first_wins" 2 F_first_wins) (h_winning_moves : Held Pr w K mg base 3 "winning_moves" 2 F_winning_moves) (h__law_open_cells : Held Pr w K mg base 1 "_law_open_cells" 1 F__law_open_cells) (h__law_pick : Held Pr w K mg base 1 "_law_pick" 2 F__law_pick) (h__law_draw_code : Held Pr w K mg base 2 "_law_draw_code" 1 F__law_draw_code) (h__law_lefts : Held Pr w K mg base 1 "_law_lefts" 2 F__law_lefts) (h__law_added : Held Pr w K mg base 1 "_law_added" 1 F__law_added) (h__law_worths : Held Pr w K mg base 2 "_law_worths" 2 F__law_worths) (h__law_wins : Held Pr w K mg base 41 "_law_wins" 3 (F__law_wins 40)) : FnG Pr w K mg base 42 f fd ["script"] F_law := by
  have h_lefts := h_lefts.mono (k := 41) (by decide)
  have h_worths := h_worths.mono (k := 41) (by decide)
  have h_moves := h_moves.mono (k := 41) (by decide)
  have h_first_wins := h_first_wins.mono (k := 41) (by decide)
  have h_winning_moves := h_winning_moves.mono (k := 41) (by decide)
  have h__law_open_cells := h__law_open_cells.mono (k := 41) (by decide)
  have h__law_pick := h__law_pick.mono (k := 41) (by decide)
  have h__law_draw_code := h__law_draw_code.mono (k := 41) (by decide)
  have h__law_lefts := h__law_lefts.mono (k := 41) (by decide)
  have h__law_added := h__law_added.mono (k := 41) (by decide)
  have h__law_worths := h__law_worths.mono (k := 41) (by decide)
  have h__law_wins := h__law_wins.mono (k := 41) (by decide)
  rw [F_law]
  refine fnG_of P_law sc_law rfl rfl fun cdv A outer s H E => ?_
  intro X hr ok
  exact (pss_consG (ps_setG ok (i := 1) (pd_call h__law_open_cells hr ok (pda_cons (pd_var (i := 0)) pda_nil) rfl (al_cons al_nil)))
    (pss_consG (ps_setG ok (i := 2) (pd_call h__law_draw_code hr ok (pda_cons (pd_var (i := 1)) pda_nil) rfl (al_cons al_nil)))
    (pss_consG (ps_setG ok (i := 3) (pd_call h__law_pick hr ok (pda_cons (pd_var (i := 1)) (pda_cons pd_int pda_nil)) rfl (al_cons (al_cons al_nil))))
    (pss_consG (ps_setG ok (i := 4) (pd_call h__law_worths hr ok (pda_cons (pd_var (i := 2)) (pda_cons (pd_callB (cb_max2 ok) m_max (pda_cons (pd_var (i := 3)) (pda_cons pd_int pda_nil))) pda_nil)) rfl (al_cons (al_cons al_nil))))
    (pss_consG (ps_ifG (pt_cmpG (ob_ne ok) (pd_callB (cb_repr ok) m_repr (pda_cons (pd_call h_worths hr ok (pda_cons (pd_var (i := 2)) (pda_cons (pd_var (i := 3)) pda_nil)) rfl (al_cons (al_cons al_nil))) pda_nil)) (pd_callB (cb_repr ok) m_repr (pda_cons (pd_callTy cb_tup m_tuple (pda_cons (pd_sl (pd_var (i := 4)) pdo_none (pdo_some (pd_op ob_add (pd_var (i := 3)) pd_int))) pda_nil)) pda_nil))) (pss_oneG (ps_retG pd_bl)) pss_nilG)
    (pss_consG (ps_forG ok PassesOwn.never (pdi_of (pd_tup (pda_cons pd_int (pda_cons pd_int (pda_cons (pd_call h__law_pick hr ok (pda_cons (pd_var (i := 1)) (pda_cons pd_int pda_nil)) rfl (al_cons (al_cons al_nil))) (pda_cons (pd_call h__law_pick hr ok (pda_cons (pd_var (i := 1)) (pda_cons pd_int pda_nil)) rfl (al_cons (al_cons al_nil))) pda_nil)))))) (pdg_name ok (i := 5)) (nx_name 5) (pss_oneG (ps_ifG (pt_cmpG (ob_ne ok) (pd_callB (cb_repr ok) m_repr (pda_cons (pd_call h_lefts hr ok (pda_cons (pd_var (i := 2)) (pda_cons (pd_var (i := 5)) pda_nil)) rfl (al_cons (al_cons al_nil))) pda_nil)) (pd_callB (cb_repr ok) m_repr (pda_cons (pd_callTy cb_tup m_tuple (pda_cons (pd_call h__law_lefts hr ok (pda_cons (pd_var (i := 2)) (pda_cons (pd_var (i := 5)) pda_nil)) rfl (al_cons (al_cons al_nil))) pda_nil)) pda_nil))) (pss_oneG (ps_retG pd_bl)) pss_nilG)))
    (pss_consG (ps_forG ok PassesOwn.never (pdi_range1 m_range pd_int) (pdg_name ok (i := 6)) (nx_name 6) (pss_consG (ps_setG ok (i := 8) (pd_nL cn_tup (.inr ⟨_, rfl⟩) m_tuple (pdl_comp ok (pdi_range1 m_range (pd_call h__law_pick hr ok (pda_cons (pd_var (i := 1)) (pda_cons pd_int pda_nil)) rfl (al_cons (al_cons al_nil)))) (blkOk_by (own := [("k", 13)]) (by kernel_rfl)) (fun _ _ _ _ _ => (pdg_name ok.blk (i := 13))) (fun _ _ _ _ _ => pts_noneG) (fun _ _ _ _ _ => (pd_call h__law_pick hr ok.blk (pda_cons (pd_var (i := 1)) (pda_cons pd_int pda_nil)) rfl (al_cons (al_cons al_nil)))))))
    (pss_consG (ps_par3G ok (i := 9) (j := 10) (l := 11) (pda_cons (pd_call h__law_added hr ok (pda_cons (pd_new (pdl_comp ok (pdi_of (pd_var (i := 8))) (blkOk_by (own := [("n", 5)]) (by kernel_rfl)) (fun _ _ _ _ _ => (pdg_name ok.blk (i := 5))) (fun _ _ _ _ _ => pts_noneG) (fun _ _ _ _ _ => (pd_ix ok.blk (pd_var (i := 4)) (pd_var (i := 5)))))) pda_nil) rfl (al_cons al_nil)) (pda_cons (pd_new (pdl_lst pda_nil)) (pda_cons (pd_new (pdl_lst pda_nil)) pda_nil))))
    (pss_consG (ps_forG ok PassesOwn.never (pdi_enum m_enumerate (pd_var (i := 8))) (pdg_tup ok (pdgs_cons (pdg_name ok (i := 12)) (pdgs_cons (pdg_name ok (i := 5)) pdgs_nil))) (nx_tup (nx_cons (nx_name 12) (nx_cons (nx_name 5) nx_nil))) (pss_oneG (ps_setG ok (i := 10) (pd_op ob_add (pd_var (i := 10)) (pd_new (pdl_comp ok (pdi_of (pd_call h__law_lefts hr ok (pda_cons (pd_var (i := 2)) (pda_cons (pd_var (i := 5)) pda_nil)) rfl (al_cons (al_cons al_nil)))) (blkOk_by (own := [("k", 13), ("left", 14)]) (by kernel_rfl)) (fun _ _ _ _ _ => (pdg_tup ok.blk (pdgs_cons (pdg_name ok.blk (i := 13)) (pdgs_cons (pdg_name ok.blk (i := 14)) pdgs_nil)))) (fun _ _ _ _ _ => pts_noneG) (fun _ _ _ _ _ => (pd_tup (pda_cons (pd_var (i := 12)) (pda_cons (pd_var (i := 13)) (pda_cons (pd_var (i := 14)) pda_nil)))))))))))
    (pss_consG (ps_forG ok PassesOwn.never (pdi_of (pd_var (i := 10))) (pdg_tup ok (pdgs_cons (pdg_name ok (i := 12)) (pdgs_cons (pdg_name ok (i := 13)) (pdgs_cons (pdg_name ok (i := 14)) pdgs_nil)))) (nx_tup (nx_cons (nx_name 12) (nx_cons (nx_name 13) (nx_cons (nx_name 14) nx_nil)))) (pss_consG (ps_setLcG ok (i := 15) (pdi_enum m_enumerate (pd_var (i := 8))) (blkOk_by (own := [("j", 16), ("n", 5)]) (by kernel_rfl)) (fun _ _ _ _ _ => (pdg_tup ok.blk (pdgs_cons (pdg_name ok.blk (i := 16)) (pdgs_cons (pdg_name ok.blk (i := 5)) pdgs_nil)))) (fun _ _ _ _ _ => (pts_oneG (pt_cmpG (ob_ne ok.blk) (pd_var (i := 16)) (pd_var (i := 12))))) (fun _ _ _ _ _ => (pd_ix ok.blk (pd_var (i := 4)) (pd_var (i := 5)))))
    (pss_oneG (ps_setG ok (i := 11) (pd_op ob_add (pd_var (i := 11)) (pd_op ob_mul (pd_new (pdl_lst (pda_cons (pd_tup (pda_cons (pd_var (i := 12)) (pda_cons (pd_var (i := 13)) (pda_cons (pd_var (i := 14)) pda_nil)))) pda_nil))) (pd_callTy cb_int m_int (pda_cons (pd_cmp (ob_eq ok) (pd_call h__law_added hr ok (pda_cons (pd_op ob_add (pd_var (i := 15)) (pd_new (pdl_comp ok (pdi_of (pd_var (i := 14))) (blkOk_by (own := [("a", 17)]) (by kernel_rfl)) (fun _ _ _ _ _ => (pdg_name ok.blk (i := 17))) (fun _ _ _ _ _ => pts_noneG) (fun _ _ _ _ _ => (pd_ix ok.blk (pd_var (i := 4)) (pd_var (i := 17))))))) pda_nil) rfl (al_cons al_nil)) pd_int) pda_nil))))))))
    (pss_consG (ps_ifG (PDW.pt (pw_orG (pt_cmpG (ob_ne ok) (pd_callB (cb_repr ok) m_repr (pda_cons (pd_call h_moves hr ok (pda_cons (pd_var (i := 2)) (pda_cons (pd_var (i := 8)) pda_nil)) rfl (al_cons (al_cons al_nil))) pda_nil)) (pd_callB (cb_repr ok) m_repr (pda_cons (pd_callTy cb_tup m_tuple (pda_cons (pd_var (i := 10)) pda_nil)) pda_nil))) (pw_or1G (pt_cmpG (ob_ne ok) (pd_callB (cb_repr ok) m_repr (pda_cons (pd_call h_winning_moves hr ok (pda_cons (pd_var (i := 2)) (pda_cons (pd_var (i := 8)) pda_nil)) rfl (al_cons (al_cons al_nil))) pda_nil)) (pd_callB (cb_repr ok) m_repr (pda_cons (pd_callTy cb_tup m_tuple (pda_cons (pd_var (i := 11)) pda_nil)) pda_nil)))))) (pss_oneG (ps_retG pd_bl)) pss_nilG)
    (pss_oneG (ps_ifG (pt_cmpG (ob_ne ok) (pd_callB (cb_repr ok) m_repr (pda_cons (pd_call h_first_wins hr ok (pda_cons (pd_var (i := 2)) (pda_cons (pd_var (i := 8)) pda_nil)) rfl (al_cons (al_cons al_nil))) pda_nil)) (pd_callB (cb_repr ok) m_repr (pda_cons (pd_cmp (ob_ne ok) (pd_var (i := 9)) pd_int) pda_nil))) (pss_oneG (ps_retG pd_bl)) pss_nilG))))))))
    (pss_consG (ps_setG ok (i := 7) (pd_nL cn_tup (.inr ⟨_, rfl⟩) m_tuple (pdl_comp ok (pdi_range1 m_range pd_int) (blkOk_by (own := [("k", 13)]) (by kernel_rfl)) (fun _ _ _ _ _ => (pdg_name ok.blk (i := 13))) (fun _ _ _ _ _ => pts_noneG) (fun _ _ _ _ _ => (pd_call h__law_pick hr ok.blk (pda_cons (pd_var (i := 1)) (pda_cons pd_int pda_nil)) rfl (al_cons (al_cons al_nil)))))))
    (pss_oneG (ps_retG (pd_cmp (ob_eq ok) (pd_call h_first_wins hr ok (pda_cons (pd_var (i := 2)) (pda_cons (pd_var (i := 7)) pda_nil)) rfl (al_cons (al_cons al_nil))) (pd_call h__law_wins hr ok (pda_cons (pd_var (i := 2)) (pda_cons (pd_var (i := 7)) (pda_cons pd_dnew pda_nil))) rfl (al_cons (al_cons (al_cons al_nil)))))))))))))))
end
def d_lefts : He.DefD := ⟨("lefts", none), "lefts", "lefts", defArgs t_lefts, defBody t_lefts, defScope t_lefts, [], []⟩
def d_added : He.DefD := ⟨("added", none), "added", "added", defArgs t_added, defBody t_added, defScope t_added, [], []⟩
def d_least_missing : He.DefD := ⟨("least_missing", none), "least_missing", "least_missing", defArgs t_least_missing, defBody t_least_missing, defScope t_least_missing, [], []⟩
def d_worths : He.DefD := ⟨("worths", none), "worths", "worths", defArgs t_worths, defBody t_worths, defScope t_worths, [], []⟩
def d_moves : He.DefD := ⟨("moves", none), "moves", "moves", defArgs t_moves, defBody t_moves, defScope t_moves, [], []⟩
def d_first_wins : He.DefD := ⟨("first_wins", none), "first_wins", "first_wins", defArgs t_first_wins, defBody t_first_wins, defScope t_first_wins, [], []⟩
def d_winning_moves : He.DefD := ⟨("winning_moves", none), "winning_moves", "winning_moves", defArgs t_winning_moves, defBody t_winning_moves, defScope t_winning_moves, [], []⟩
def d__law_open_cells : He.DefD := ⟨("_law_open_cells", none), "_law_open_cells", "_law_open_cells", defArgs t__law_open_cells, defBody t__law_open_cells, defScope t__law_open_cells, [], []⟩
def d__law_pick : He.DefD := ⟨("_law_pick", none), "_law_pick", "_law_pick", defArgs t__law_pick, defBody t__law_pick, defScope t__law_pick, [], []⟩
def d__law_draw_code : He.DefD := ⟨("_law_draw_code", none), "_law_draw_code", "_law_draw_code", defArgs t__law_draw_code, defBody t__law_draw_code, defScope t__law_draw_code, [], []⟩
def d__law_lefts : He.DefD := ⟨("_law_lefts", none), "_law_lefts", "_law_lefts", defArgs t__law_lefts, defBody t__law_lefts, defScope t__law_lefts, [], []⟩
def d__law_added : He.DefD := ⟨("_law_added", none), "_law_added", "_law_added", defArgs t__law_added, defBody t__law_added, defScope t__law_added, [], []⟩
def d__law_worths : He.DefD := ⟨("_law_worths", none), "_law_worths", "_law_worths", defArgs t__law_worths, defBody t__law_worths, defScope t__law_worths, [], []⟩
def d__law_wins : He.DefD := ⟨("_law_wins", none), "_law_wins", "_law_wins", defArgs t__law_wins, defBody t__law_wins, defScope t__law_wins, [], []⟩
def d_law : He.DefD := ⟨("law", none), "law", "law", defArgs t_law, defBody t_law, defScope t_law, [], []⟩
def fnl : List He.DefD := [d_lefts, d_added, d_least_missing, d_worths, d_moves, d_first_wins, d_winning_moves, d__law_open_cells, d__law_pick, d__law_draw_code, d__law_lefts, d__law_added, d__law_worths, d__law_wins, d_law]
def fal : List He.Fa := [.glo "lefts", .glo "added", .glo "least_missing", .glo "worths", .glo "moves", .glo "first_wins", .glo "winning_moves", .glo "_law_open_cells", .glo "_law_pick", .glo "_law_draw_code", .glo "_law_lefts", .glo "_law_added", .glo "_law_worths", .glo "_law_wins", .glo "law", .free "abs", .free "any", .free "enumerate", .free "int", .free "len", .free "max", .free "min", .free "range", .free "repr", .free "sorted", .free "sum", .free "tuple"]
abbrev Rw : PySem.W.OpenRow := PySem.W.OpenLaw.row PySem.Challenge.rw_eachgame_k27_whole_worths_and_who_wins
abbrev hk : PySem.W.Hook := He.hookD 4 fal fnl
def ob (s : PySem.W.SharedT) : He.AlD := He.obsDG 4 fal fnl (HandSHeadRun.getT s)
theorem ob_eq (s : PySem.W.SharedT) : ob s = hk.obs s.abs := He.obsDG_eq (HandSHeadRun.getT_eq s)
def loose : List Str := ["lefts", "added", "least_missing", "worths", "moves", "first_wins", "winning_moves", "_law_open_cells", "_law_pick", "_law_draw_code", "_law_lefts", "_law_added", "_law_worths", "_law_wins"]
theorem run (w : World) : HandSHeadRun.RunEq Rw (PySem.W.view Rw.prog [16]) hk ob 4000 loose w := by
  intro os
  kernel_rfl
theorem facts {Pr : Program} {w : World} {K : PySem.W.Frag} {h : Heap} {mg : Str → Option Value} {f : Addr} (X : K.In h) (G : h.Ns mainGlobals mg) (hfa : mg ("law" : Str) = some (.ref f)) (c : He.SaysD fal fnl K) :
    ∃ fd : FuncData, (∀ (s : Shared) (v : Value), BindsTo s fd ⟨[v], []⟩ [("script", v)]) ∧ ∀ base : Heap, K.In base → base.Ns mainGlobals mg → FnG Pr w K mg base 42 f fd ["script"] F_law := by
  obtain ⟨fd_lefts, P_lefts⟩ := c.def_ 0 (d := d_lefts) rfl
  obtain ⟨fd_added, P_added⟩ := c.def_ 1 (d := d_added) rfl
  obtain ⟨fd_least_missing, P_least_missing⟩ := c.def_ 2 (d := d_least_missing) rfl
  obtain ⟨fd_worths, P_worths⟩ := c.def_ 3 (d := d_worths) rfl
  obtain ⟨fd_moves, P_moves⟩ := c.def_ 4 (d := d_moves) rfl
  obtain ⟨fd_first_wins, P_first_wins⟩ := c.def_ 5 (d := d_first_wins) rfl
  obtain ⟨fd_winning_moves, P_winning_moves⟩ := c.def_ 6 (d := d_winning_moves) rfl
  obtain ⟨fd__law_open_cells, P__law_open_cells⟩ := c.def_ 7 (d := d__law_open_cells) rfl
  obtain ⟨fd__law_pick, P__law_pick⟩ := c.def_ 8 (d := d__law_pick) rfl
  obtain ⟨fd__law_draw_code, P__law_draw_code⟩ := c.def_ 9 (d := d__law_draw_code) rfl
  obtain ⟨fd__law_lefts, P__law_lefts⟩ := c.def_ 10 (d := d__law_lefts) rfl
  obtain ⟨fd__law_added, P__law_added⟩ := c.def_ 11 (d := d__law_added) rfl
  obtain ⟨fd__law_worths, P__law_worths⟩ := c.def_ 12 (d := d__law_worths) rfl
  obtain ⟨fd__law_wins, P__law_wins⟩ := c.def_ 13 (d := d__law_wins) rfl
  obtain ⟨fd_law, P_law⟩ := c.def_ 14 (d := d_law) rfl
  have g_lefts := He.glo_ok X G (c.fact 0 (f := .glo "lefts") rfl)
  have g_added := He.glo_ok X G (c.fact 1 (f := .glo "added") rfl)
  have g_least_missing := He.glo_ok X G (c.fact 2 (f := .glo "least_missing") rfl)
  have g_worths := He.glo_ok X G (c.fact 3 (f := .glo "worths") rfl)
  have g_moves := He.glo_ok X G (c.fact 4 (f := .glo "moves") rfl)
  have g_first_wins := He.glo_ok X G (c.fact 5 (f := .glo "first_wins") rfl)
  have g_winning_moves := He.glo_ok X G (c.fact 6 (f := .glo "winning_moves") rfl)
  have g__law_open_cells := He.glo_ok X G (c.fact 7 (f := .glo "_law_open_cells") rfl)
  have g__law_pick := He.glo_ok X G (c.fact 8 (f := .glo "_law_pick") rfl)
  have g__law_draw_code := He.glo_ok X G (c.fact 9 (f := .glo "_law_draw_code") rfl)
  have g__law_lefts := He.glo_ok X G (c.fact 10 (f := .glo "_law_lefts") rfl)
  have g__law_added := He.glo_ok X G (c.fact 11 (f := .glo "_law_added") rfl)
  have g__law_worths := He.glo_ok X G (c.fact 12 (f := .glo "_law_worths") rfl)
  have g__law_wins := He.glo_ok X G (c.fact 13 (f := .glo "_law_wins") rfl)
  have g_law := He.glo_ok X G (c.fact 14 (f := .glo "law") rfl)
  have m_abs := He.free_ok X G (c.fact 15 (f := .free "abs") rfl)
  have m_any := He.free_ok X G (c.fact 16 (f := .free "any") rfl)
  have m_enumerate := He.free_ok X G (c.fact 17 (f := .free "enumerate") rfl)
  have m_int := He.free_ok X G (c.fact 18 (f := .free "int") rfl)
  have m_len := He.free_ok X G (c.fact 19 (f := .free "len") rfl)
  have m_max := He.free_ok X G (c.fact 20 (f := .free "max") rfl)
  have m_min := He.free_ok X G (c.fact 21 (f := .free "min") rfl)
  have m_range := He.free_ok X G (c.fact 22 (f := .free "range") rfl)
  have m_repr := He.free_ok X G (c.fact 23 (f := .free "repr") rfl)
  have m_sorted := He.free_ok X G (c.fact 24 (f := .free "sorted") rfl)
  have m_sum := He.free_ok X G (c.fact 25 (f := .free "sum") rfl)
  have m_tuple := He.free_ok X G (c.fact 26 (f := .free "tuple") rfl)
  have e := hfa.symm.trans g_law
  cases e
  have b := FunD.bindsA (ps := ["script"]) P_law fun _ _ _ _ _ _ us hl => match us, hl with | [_], _ => rfl
  refine ⟨fd_law, fun s v => b s [v] rfl, fun base _ _ => ?_⟩
  have h_lefts : Held Pr w K mg base 1 "lefts" 2 F_lefts := ⟨_, _, ["code", "n"], g_lefts, P_lefts.kp, P_lefts.bindsN fun _ _ _ _ _ _ us hl => match us, hl with | [_, _], _ => rfl, rfl, (ok_lefts P_lefts m_enumerate m_range m_sorted m_tuple)⟩
  have h_added : Held Pr w K mg base 1 "added" 1 F_added := ⟨_, _, ["numbers"], g_added, P_added.kp, P_added.bindsN fun _ _ _ _ _ _ us hl => match us, hl with | [_], _ => rfl, rfl, (ok_added P_added )⟩
  have h_least_missing : Held Pr w K mg base 1 "least_missing" 1 F_least_missing := ⟨_, _, ["numbers"], g_least_missing, P_least_missing.kp, P_least_missing.bindsN fun _ _ _ _ _ _ us hl => match us, hl with | [_], _ => rfl, rfl, (ok_least_missing P_least_missing m_sorted)⟩
  have h_worths : Held Pr w K mg base 2 "worths" 2 F_worths := ⟨_, _, ["code", "most"], g_worths, P_worths.kp, P_worths.bindsN fun _ _ _ _ _ _ us hl => match us, hl with | [_, _], _ => rfl, rfl, (ok_worths P_worths m_range m_tuple h_lefts h_added h_least_missing)⟩
  have h_moves : Held Pr w K mg base 2 "moves" 2 F_moves := ⟨_, _, ["code", "piles"], g_moves, P_moves.kp, P_moves.bindsN fun _ _ _ _ _ _ us hl => match us, hl with | [_, _], _ => rfl, rfl, (ok_moves P_moves m_enumerate m_tuple h_lefts)⟩
  have h_first_wins : Held Pr w K mg base 3 "first_wins" 2 F_first_wins := ⟨_, _, ["code", "piles"], g_first_wins, P_first_wins.kp, P_first_wins.bindsN fun _ _ _ _ _ _ us hl => match us, hl with | [_, _], _ => rfl, rfl, (ok_first_wins P_first_wins m_max h_added h_worths)⟩
  have h_winning_moves : Held Pr w K mg base 3 "winning_moves" 2 F_winning_moves := ⟨_, _, ["code", "piles"], g_winning_moves, P_winning_moves.kp, P_winning_moves.bindsN fun _ _ _ _ _ _ us hl => match us, hl with | [_, _], _ => rfl, rfl, (ok_winning_moves P_winning_moves m_max m_tuple h_added h_worths h_moves)⟩
  have h__law_open_cells : Held Pr w K mg base 1 "_law_open_cells" 1 F__law_open_cells := ⟨_, _, ["script"], g__law_open_cells, P__law_open_cells.kp, P__law_open_cells.bindsN fun _ _ _ _ _ _ us hl => match us, hl with | [_], _ => rfl, rfl, (ok__law_open_cells P__law_open_cells m_abs m_int)⟩
  have h__law_pick : Held Pr w K mg base 1 "_law_pick" 2 F__law_pick := ⟨_, _, ["source", "most"], g__law_pick, P__law_pick.kp, P__law_pick.bindsN fun _ _ _ _ _ _ us hl => match us, hl with | [_, _], _ => rfl, rfl, (ok__law_pick P__law_pick m_int m_len)⟩
  have h__law_draw_code : Held Pr w K mg base 2 "_law_draw_code" 1 F__law_draw_code := ⟨_, _, ["source"], g__law_draw_code, P__law_draw_code.kp, P__law_draw_code.bindsN fun _ _ _ _ _ _ us hl => match us, hl with | [_], _ => rfl, rfl, (ok__law_draw_code P__law_draw_code m_range m_tuple h__law_pick)⟩
  have h__law_lefts : Held Pr w K mg base 1 "_law_lefts" 2 F__law_lefts := ⟨_, _, ["code", "n"], g__law_lefts, P__law_lefts.kp, P__law_lefts.bindsN fun _ _ _ _ _ _ us hl => match us, hl with | [_, _], _ => rfl, rfl, (ok__law_lefts P__law_lefts m_len m_min m_range m_sorted)⟩
  have h__law_added : Held Pr w K mg base 1 "_law_added" 1 F__law_added := ⟨_, _, ["numbers"], g__law_added, P__law_added.kp, P__law_added.bindsN fun _ _ _ _ _ _ us hl => match us, hl with | [_], _ => rfl, rfl, (ok__law_added P__law_added m_range m_sum)⟩
  have h__law_worths : Held Pr w K mg base 2 "_law_worths" 2 F__law_worths := ⟨_, _, ["code", "most"], g__law_worths, P__law_worths.kp, P__law_worths.bindsN fun _ _ _ _ _ _ us hl => match us, hl with | [_, _], _ => rfl, rfl, (ok__law_worths P__law_worths m_range h__law_lefts h__law_added)⟩
  have h__law_wins : Held Pr w K mg base 41 "_law_wins" 3 (F__law_wins 40) := ⟨_, _, ["code", "piles", "known"], g__law_wins, P__law_wins.kp, P__law_wins.bindsN fun _ _ _ _ _ _ us hl => match us, hl with | [_, _, _], _ => rfl, rfl, ((ok__law_wins P__law_wins g__law_wins m_any m_enumerate m_sorted m_tuple h__law_lefts 40) : FnG Pr w K mg base 41 _ fd__law_wins ["code", "piles", "known"] (F__law_wins 40))⟩
  exact ok_law P_law m_enumerate m_int m_max m_range m_repr m_tuple h_lefts h_worths h_moves h_first_wins h_winning_moves h__law_open_cells h__law_pick h__law_draw_code h__law_lefts h__law_added h__law_worths h__law_wins
end K_k27

/-! Q1: how the combinators' results are told: what holds of them, step by step. -/
namespace G
open PySem (Str PyData)
section
variable {α β : Type}
/-- the result is a value of which Q holds -/
def Ok (r : R α) (Q : α → Hm → Prop) : Prop := match r with
  | .ok a m => Q a m
  | _ => False
def OkS (r : RS) (Q : Fl → Env → Hm → Prop) : Prop := match r with
  | .ok f ρ m => Q f ρ m
  | _ => False
theorem Ok.mono {r : R α} {Q Q' : α → Hm → Prop} (h : Ok r Q) (w : ∀ a m, Q a m → Q' a m) : Ok r Q' := by
  cases r with
  | ok a m => exact w a m h
  | exc _ _ _ => exact h
  | bad => exact h
theorem OkS.mono {r : RS} {Q Q' : Fl → Env → Hm → Prop} (h : OkS r Q) (w : ∀ f ρ m, Q f ρ m → Q' f ρ m) : OkS r Q' := by
  cases r with
  | ok f ρ m => exact w f ρ m h
  | exc _ _ _ _ => exact h
  | bad => exact h
theorem Ok.ex {r : R α} {Q : α → Hm → Prop} (h : Ok r Q) : ∃ a m, r = .ok a m ∧ Q a m := by
  cases r with
  | ok a m => exact ⟨a, m, rfl, h⟩
  | exc _ _ _ => exact False.elim h
  | bad => exact False.elim h
theorem Ok.and {r : R α} {Q Q' : α → Hm → Prop} (h : Ok r Q) (h' : Ok r Q') : Ok r fun a m => Q a m ∧ Q' a m := by
  cases r with
  | ok a m => exact ⟨h, h'⟩
  | exc _ _ _ => exact h
  | bad => exact h
theorem ok_ok (a : α) (m : Hm) (Q : α → Hm → Prop) : Ok (.ok a m) Q = Q a m := rfl
theorem ok_ret (a : α) (m : Hm) (Q : α → Hm → Prop) : Ok (ret a m) Q = Q a m := rfl
theorem ok_bad (m : Hm) (Q : α → Hm → Prop) : Ok (bad m) Q = False := rfl
theorem ok_bnd (x : M α) (f : α → M β) (m : Hm) (Q : β → Hm → Prop) : Ok (bnd x f m) Q = Ok (x m) fun a m' => Ok (f a m') Q := by
  unfold bnd
  cases x m <;> rfl
theorem ok_when (b : Bool) (x : M α) (m : Hm) (Q : α → Hm → Prop) : Ok (when_ b x m) Q = (b = true ∧ Ok (x m) Q) := by
  cases b
  · exact propext ⟨fun h => False.elim h, fun h => absurd h.1 (by simp)⟩
  · exact propext ⟨fun h => ⟨rfl, h⟩, fun h => h.2⟩
theorem ok_opt (o : Option α) (m : Hm) (Q : α → Hm → Prop) : Ok (opt o m) Q = ∃ a, o = some a ∧ Q a m := by
  cases o with
  | none => exact propext ⟨fun h => False.elim h, fun ⟨a, h, _⟩ => (nomatch h)⟩
  | some a => exact propext ⟨fun h => ⟨a, rfl, h⟩, fun ⟨b, h, q⟩ => by cases h; exact q⟩
theorem ok_getO (n : Nat) (f : O → M α) (m : Hm) (Q : α → Hm → Prop) : Ok (getO n f m) Q = ∃ o, m[n]? = some o ∧ Ok (f o m) Q := by
  unfold getO
  cases m[n]? with
  | none => exact propext ⟨fun h => False.elim h, fun ⟨a, h, _⟩ => (nomatch h)⟩
  | some a => exact propext ⟨fun h => ⟨a, rfl, h⟩, fun ⟨b, h, q⟩ => by cases h; exact q⟩
theorem ok_putO (n : Nat) (o : O) (m : Hm) (Q : Unit → Hm → Prop) : Ok (putO n o m) Q = Q () (m.set n o) := rfl
theorem ok_newO (o : O) (m : Hm) (Q : P → Hm → Prop) : Ok (newO o m) Q = Q (.ref m.length) (m ++ [o]) := rfl
theorem ok_congr {r r' : R α} (Q : α → Hm → Prop) (h : r = r') : Ok r Q = Ok r' Q := by rw [h]
end

/-! ### expressions -/
section
variable {ρ : Env} {m : Hm} {Q : P → Hm → Prop} {QB : Bool → Hm → Prop} {QL : List P → Hm → Prop}
theorem ok_dVar (i : Nat) : Ok (dVar i ρ m) Q = match ρ[i]? with
    | some (some p) => Q p m
    | _ => False := by
  unfold dVar
  rcases ρ[i]? with _ | _ | p <;> rfl
theorem ok_dC (p : P) : Ok (dC p ρ m) Q = Q p m := rfl
theorem ok_aNil : Ok (aNil ρ m) QL = QL [] m := rfl
theorem ok_aCons (d : D) (a : A) : Ok (aCons d a ρ m) QL = Ok (d ρ m) fun x m1 => Ok (a ρ m1) fun xs m2 => QL (x :: xs) m2 := by
  unfold aCons
  rw [ok_bnd]
  congr 1
  funext x m1
  rw [ok_bnd]
  rfl
theorem ok_dOp (f : P → P → M P) (a b : D) : Ok (dOp f a b ρ m) Q = Ok (a ρ m) fun x m1 => Ok (b ρ m1) fun y m2 => Ok (f x y m2) Q := by
  unfold dOp
  rw [ok_bnd]
  congr 1
  funext x m1
  rw [ok_bnd]
theorem ok_dUn (f : P → M P) (a : D) : Ok (dUn f a ρ m) Q = Ok (a ρ m) fun x m1 => Ok (f x m1) Q := by
  unfold dUn
  rw [ok_bnd]
theorem ok_dTup (a : A) : Ok (dTup a ρ m) Q = Ok (a ρ m) fun ps m1 => ps.length ≤ SZ ∧ Q (.tup ps) m1 := by
  unfold dTup
  rw [ok_bnd]
  congr 1
  funext x m1
  rw [ok_when, decide_eq_true_eq]
  rfl
theorem ok_lLst (a : A) : Ok (lLst a ρ m) QL = Ok (a ρ m) fun ps m1 => ps.length ≤ SZ ∧ QL ps m1 := by
  unfold lLst
  rw [ok_bnd]
  congr 1
  funext x m1
  rw [ok_when, decide_eq_true_eq]
  rfl
theorem ok_dNew (l : LD) : Ok (dNew l ρ m) Q = Ok (l ρ m) fun ps m1 => Q (.ref m1.length) (m1 ++ [.lst ps]) := by
  unfold dNew
  rw [ok_bnd]
  rfl
theorem ok_dIf (c : T) (a b : D) : Ok (dIf c a b ρ m) Q = Ok (c ρ m) fun k m1 => (k = true → Ok (a ρ m1) Q) ∧ (k = false → Ok (b ρ m1) Q) := by
  unfold dIf
  rw [ok_bnd]
  congr 1
  funext k m1
  cases k
  · exact propext ⟨fun h => ⟨fun e => (nomatch e), fun _ => h⟩, fun h => h.2 rfl⟩
  · exact propext ⟨fun h => ⟨fun _ => h, fun e => (nomatch e)⟩, fun h => h.1 rfl⟩
theorem ok_dCall (call : List P → M P) (a : A) : Ok (dCall call a ρ m) Q = Ok (a ρ m) fun ps m1 => Ok (call ps m1) Q := by
  unfold dCall
  rw [ok_bnd]
theorem ok_tVal (d : D) : Ok (tVal d ρ m) QB = Ok (d ρ m) fun x m1 => Ok (asB x m1) QB := by
  unfold tVal
  rw [ok_bnd]
theorem ok_asB (b : Bool) : Ok (asB (.bl b) m) QB = QB b m := rfl
theorem ok_tTru (d : D) : Ok (tTru d ρ m) QB = Ok (d ρ m) fun x m1 => Ok (truth x m1) QB := by
  unfold tTru
  rw [ok_bnd]
theorem ok_truth_bl (b : Bool) : Ok (truth (.bl b) m) QB = QB b m := rfl
theorem ok_truth_int (i : Int) : Ok (truth (.int i) m) QB = QB (i != 0) m := rfl
theorem ok_truth_non : Ok (truth .non m) QB = QB false m := rfl
theorem ok_truth_tup (ps : List P) : Ok (truth (.tup ps) m) QB = QB (!ps.isEmpty) m := rfl
theorem ok_tYes : Ok (tYes ρ m) QB = QB true m := rfl
theorem ok_tAnd (a b : T) : Ok (tAnd a b ρ m) QB = Ok (a ρ m) fun k m1 => (k = true → Ok (b ρ m1) QB) ∧ (k = false → QB false m1) := by
  unfold tAnd
  rw [ok_bnd]
  congr 1
  funext k m1
  cases k
  · exact propext ⟨fun h => ⟨fun e => (nomatch e), fun _ => h⟩, fun h => h.2 rfl⟩
  · exact propext ⟨fun h => ⟨fun _ => h, fun e => (nomatch e)⟩, fun h => h.1 rfl⟩
theorem ok_tOr (a b : T) : Ok (tOr a b ρ m) QB = Ok (a ρ m) fun k m1 => (k = true → QB true m1) ∧ (k = false → Ok (b ρ m1) QB) := by
  unfold tOr
  rw [ok_bnd]
  congr 1
  funext k m1
  cases k
  · exact propext ⟨fun h => ⟨fun e => (nomatch e), fun _ => h⟩, fun h => h.2 rfl⟩
  · exact propext ⟨fun h => ⟨fun _ => h, fun e => (nomatch e)⟩, fun h => h.1 rfl⟩
theorem ok_tNot (a : T) : Ok (tNot a ρ m) QB = Ok (a ρ m) fun k m1 => QB (!k) m1 := by
  unfold tNot
  rw [ok_bnd]
  rfl
theorem ok_dAnd (a b : D) : Ok (dAnd a b ρ m) Q = Ok (a ρ m) fun x m1 => Ok (asB x m1) fun k m2 => (k = true → Ok (b ρ m2) Q) ∧ (k = false → Q (.bl false) m2) := by
  unfold dAnd
  rw [ok_bnd]
  congr 1
  funext x m1
  cases x with
  | bl k =>
    cases k
    · exact propext ⟨fun h => ⟨fun e => (nomatch e), fun _ => h⟩, fun h => h.2 rfl⟩
    · exact propext ⟨fun h => ⟨fun _ => h, fun e => (nomatch e)⟩, fun h => h.1 rfl⟩
  | _ => rfl
theorem ok_dOr (a b : D) : Ok (dOr a b ρ m) Q = Ok (a ρ m) fun x m1 => Ok (asB x m1) fun k m2 => (k = true → Q (.bl true) m2) ∧ (k = false → Ok (b ρ m2) Q) := by
  unfold dOr
  rw [ok_bnd]
  congr 1
  funext x m1
  cases x with
  | bl k =>
    cases k
    · exact propext ⟨fun h => ⟨fun e => (nomatch e), fun _ => h⟩, fun h => h.2 rfl⟩
    · exact propext ⟨fun h => ⟨fun _ => h, fun e => (nomatch e)⟩, fun h => h.1 rfl⟩
  | _ => rfl
theorem ok_uNot (b : Bool) : Ok (uNot (.bl b) m) Q = Q (.bl (!b)) m := rfl
theorem ok_dChain (f g : P → P → M P) (a b c : D) : Ok (dChain f g a b c ρ m) Q = Ok (a ρ m) fun x m1 => Ok (b ρ m1) fun y m2 => Ok (f x y m2) fun z m3 => Ok (asB z m3) fun k m4 => (k = true → Ok (c ρ m4) fun w m5 => Ok (g y w m5) Q) ∧ (k = false → Q (.bl false) m4) := by
  unfold dChain
  rw [ok_bnd]
  congr 1
  funext x m1
  rw [ok_bnd]
  congr 1
  funext y m2
  rw [ok_bnd]
  congr 1
  funext z m3
  cases z with
  | bl k =>
    cases k
    · exact propext ⟨fun h => ⟨fun e => (nomatch e), fun _ => h⟩, fun h => h.2 rfl⟩
    · refine propext ⟨fun h => ⟨fun _ => ?_, fun e => (nomatch e)⟩, fun h => ?_⟩
      · have h : Ok (bnd (c ρ) (fun w => g y w) m3) Q := h
        rw [ok_bnd] at h
        exact h
      · show Ok (bnd (c ρ) (fun w => g y w) m3) Q
        rw [ok_bnd]
        exact h.1 rfl
  | _ => rfl

/-! ### operators of ints, texts, tuples -/
variable (i j : Int)
theorem ok_add_int : Ok (oAdd (.int i) (.int j) m) Q = Q (.int (i + j)) m := rfl
theorem ok_add_tup (ps qs : List P) : Ok (oAdd (.tup ps) (.tup qs) m) Q = (ps.length + qs.length ≤ SZ ∧ Q (.tup (ps ++ qs)) m) := by
  show Ok (when_ _ _ m) Q = _
  rw [ok_when, decide_eq_true_eq]
  rfl
theorem ok_add_str (a b : Str) : Ok (oAdd (.str a) (.str b) m) Q = (a.length + b.length ≤ SZ ∧ Q (.str (a ++ b)) m) := by
  show Ok (when_ _ _ m) Q = _
  rw [ok_when, decide_eq_true_eq]
  rfl
theorem ok_add_ref (n k : Nat) : oAdd (.ref n) (.ref k) = getO n fun o => match o with
      | .lst ps => getO k fun o' => match o' with
        | .lst qs => when_ (decide (ps.length + qs.length ≤ SZ)) (newO (.lst (ps ++ qs)))
        | _ => bad
      | _ => bad := rfl
theorem ok_sub : Ok (oSub (.int i) (.int j) m) Q = Q (.int (i - j)) m := rfl
theorem ok_mul : Ok (oMul (.int i) (.int j) m) Q = (cMul i j = true ∧ Q (.int (i * j)) m) := by
  show Ok (when_ _ _ m) Q = _
  rw [ok_when]
  rfl
theorem cMul_left {i j : Int} (h : i.natAbs < 18446744073709551616) : cMul i j = true := by
  simp only [cMul, Bool.or_eq_true, Bool.and_eq_true, decide_eq_true_eq]
  omega
theorem cMul_right {i j : Int} (h : j.natAbs < 18446744073709551616) : cMul i j = true := by
  simp only [cMul, Bool.or_eq_true, Bool.and_eq_true, decide_eq_true_eq]
  omega
theorem ok_mul_lst (n : Nat) (k : Int) : oMul (.ref n) (.int k) = getO n fun o => match o with
      | .lst ps => when_ (decide (-(9223372036854775808) ≤ k) && decide (k < 9223372036854775808) && decide (ps.length * k.toNat ≤ SZ)) (newO (.lst (List.replicate k.toNat ps).flatten))
      | _ => bad := rfl
theorem ok_mulT (ps : List P) (k : Int) : Ok (oMulT (.tup ps) (.int k) m) Q = ((ps ≠ [] ∧ 1 ≤ k ∧ k ≤ 1000 ∧ ps.length ≤ 1000) ∧ Q (.tup (List.replicate k.toNat ps).flatten) m) := by
  show Ok (when_ _ _ m) Q = _
  rw [ok_when]
  simp only [Bool.and_eq_true, decide_eq_true_eq, Bool.not_eq_true', List.isEmpty_eq_false_iff, and_assoc]
  rfl
theorem ok_div : Ok (oDiv (.int i) (.int j) m) Q = ((0 < j ∧ j < 18446744073709551616) ∧ Q (.int (i / j)) m) := by
  show Ok (when_ _ _ m) Q = _
  rw [ok_when, Bool.and_eq_true, decide_eq_true_eq, decide_eq_true_eq]
  rfl
theorem ok_mod : Ok (oMod (.int i) (.int j) m) Q = (0 < j ∧ Q (.int (i % j)) m) := by
  show Ok (when_ _ _ m) Q = _
  rw [ok_when, decide_eq_true_eq]
  rfl
theorem cPow_eq : (cPow i j = true) = (0 ≤ j ∧ j ≤ 1000000 ∧ i.natAbs < 18446744073709551616) := by
  simp only [cPow, Bool.and_eq_true, decide_eq_true_eq, and_assoc]
theorem ok_pow : Ok (oPow (.int i) (.int j) m) Q = ((0 ≤ j ∧ j ≤ 1000000 ∧ i.natAbs < 18446744073709551616) ∧ Q (.int (i ^ j.toNat)) m) := by
  show Ok (when_ _ _ m) Q = _
  rw [ok_when, cPow_eq]
  rfl
theorem ok_shl : Ok (oShl (.int i) (.int j) m) Q = ((0 ≤ j ∧ j ≤ 1000000 ∧ i.natAbs < 18446744073709551616) ∧ Q (.int (i * 2 ^ j.toNat)) m) := by
  show Ok (when_ _ _ m) Q = _
  rw [ok_when, cPow_eq]
  rfl
theorem ok_shr : Ok (oShr (.int i) (.int j) m) Q = (0 ≤ j ∧ Q (.int (i / 2 ^ j.toNat)) m) := by
  show Ok (when_ _ _ m) Q = _
  rw [ok_when, decide_eq_true_eq]
  rfl
theorem ok_band : Ok (oAnd (.int i) (.int j) m) Q = Q (.int (PySem.Builtin.bitAnd i j)) m := rfl
theorem ok_bor : Ok (oOr (.int i) (.int j) m) Q = Q (.int (PySem.Builtin.bitOr i j)) m := rfl
theorem ok_xor : Ok (oXor (.int i) (.int j) m) Q = Q (.int (PySem.Builtin.bitXor i j)) m := rfl
theorem ok_neg : Ok (uNeg (.int i) m) Q = Q (.int (-i)) m := rfl
theorem ok_lt : Ok (oLt (.int i) (.int j) m) Q = Q (.bl (decide (i < j))) m := rfl
theorem ok_le : Ok (oLe (.int i) (.int j) m) Q = Q (.bl (decide (i ≤ j))) m := rfl
theorem ok_gt : Ok (oGt (.int i) (.int j) m) Q = Q (.bl (decide (j < i))) m := rfl
theorem ok_ge : Ok (oGe (.int i) (.int j) m) Q = Q (.bl (decide (j ≤ i))) m := rfl
theorem ok_asD (x : P) (QD : PyData → Hm → Prop) : Ok (asD x m) QD = match dat m DD x with
    | some d => QD d m
    | none => False := by
  unfold asD
  split <;> simp_all [ok_ok, Ok]
theorem ok_eqD (neg : Bool) (x y : P) : Ok (eqD neg x y m) Q = ∃ d, dat m DD x = some d ∧ ∃ e, dat m DD y = some e ∧ (PySem.SeqAt.shaped d && PySem.SeqAt.shaped e) = true ∧ Q (.bl (PyData.eqv d e != neg)) m := by
  unfold eqD
  rw [ok_bnd, ok_asD]
  cases dat m DD x with
  | none => exact propext ⟨fun h => False.elim h, fun ⟨d, h, _⟩ => (nomatch h)⟩
  | some d =>
    show Ok (bnd _ _ m) Q = _
    rw [ok_bnd, ok_asD]
    cases dat m DD y with
    | none => exact propext ⟨fun h => False.elim h, fun ⟨d, _, e, h, _⟩ => (nomatch h)⟩
    | some e =>
      show Ok (when_ _ _ m) Q = _
      rw [ok_when, ok_ret]
      exact propext ⟨fun h => ⟨d, rfl, e, rfl, h⟩, fun ⟨d', h1, e', h2, h⟩ => by cases h1; cases h2; exact h⟩
theorem ok_eq_int (i j : Int) : oEq (.int i) (.int j) = ret (.bl (decide (i = j))) := rfl
theorem ok_eq_str (i j : Str) : oEq (.str i) (.str j) = ret (.bl (decide (i = j))) := rfl
theorem ok_eq_bl (i j : Bool) : oEq (.bl i) (.bl j) = ret (.bl (decide (i = j))) := rfl
theorem ok_eq_non : oEq .non .non = ret (.bl true) := rfl
theorem ok_eq_tup (ps : List P) (q : P) : oEq (.tup ps) q = eqD false (.tup ps) q := by cases q <;> rfl
theorem ok_eq_ref (n : Nat) (q : P) : oEq (.ref n) q = eqD false (.ref n) q := by cases q <;> rfl
theorem ok_eq_it (i : Int) (q : List P) : oEq (.int i) (.tup q) = eqD false (.int i) (.tup q) := rfl
theorem ok_eq_in (i : Int) : oEq (.int i) .non = eqD false (.int i) .non := rfl
theorem ok_eq_nt (q : List P) : oEq .non (.tup q) = eqD false .non (.tup q) := rfl
theorem ok_eq_ni (q : Int) : oEq .non (.int q) = eqD false .non (.int q) := rfl
theorem ok_ne_int (i j : Int) : oNe (.int i) (.int j) = ret (.bl !(decide (i = j))) := rfl
theorem ok_ne_str (i j : Str) : oNe (.str i) (.str j) = ret (.bl !(decide (i = j))) := rfl
theorem ok_ne_bl (i j : Bool) : oNe (.bl i) (.bl j) = ret (.bl !(decide (i = j))) := rfl
theorem ok_ne_non : oNe .non .non = ret (.bl false) := rfl
theorem ok_ne_tup (ps : List P) (q : P) : oNe (.tup ps) q = eqD true (.tup ps) q := by cases q <;> rfl
theorem ok_ne_ref (n : Nat) (q : P) : oNe (.ref n) q = eqD true (.ref n) q := by cases q <;> rfl
theorem ok_ne_it (i : Int) (q : List P) : oNe (.int i) (.tup q) = eqD true (.int i) (.tup q) := rfl
theorem ok_ne_in (i : Int) : oNe (.int i) .non = eqD true (.int i) .non := rfl
theorem ok_ne_nt (q : List P) : oNe .non (.tup q) = eqD true .non (.tup q) := rfl
theorem ok_ne_ni (q : Int) : oNe .non (.int q) = eqD true .non (.int q) := rfl
theorem ok_isN (x : P) : Ok (uIsN x m) Q = Q (.bl (isNon x)) m := rfl
theorem ok_notN (x : P) : Ok (uNotN x m) Q = Q (.bl (!isNon x)) m := rfl

/-! ### subscripts, slices -/
theorem ok_ix_tup (ps : List P) (i : Int) : oIx (.tup ps) (.int i) = opt (L2.atI ps i) := rfl
theorem ok_ix_scr (ps : List P) (i : Int) : oIx (.scr ps) (.int i) = opt (L2.atI ps i) := rfl
theorem ok_ix_ref (n : Nat) (y : P) : oIx (.ref n) y = getO n fun o => match o with
    | .lst ps => match y with
      | .int i => opt (L2.atI ps i)
      | _ => bad
    | .dK _ => bnd (dLook n y) opt
    | .dT _ => bnd (dLook n y) opt
    | _ => bad := rfl
theorem ok_pNone (QO : Option Int → Hm → Prop) : Ok (pNone ρ m) QO = QO none m := rfl
theorem ok_pSome (d : D) (QO : Option Int → Hm → Prop) : Ok (pSome d ρ m) QO = Ok (d ρ m) fun x m1 => match x with
    | .int i => QO (some i) m1
    | _ => False := by
  unfold pSome
  rw [ok_bnd]
  congr 1
  funext x m1
  cases x <;> rfl
theorem ok_dSl (e : D) (lo hi : OD) : Ok (dSl e lo hi ρ m) Q = Ok (e ρ m) fun x m1 => Ok (lo ρ m1) fun l m2 => Ok (hi ρ m2) fun h m3 => Ok (slP x l h m3) Q := by
  unfold dSl
  rw [ok_bnd]
  congr 1
  funext x m1
  rw [ok_bnd]
  congr 1
  funext l m2
  rw [ok_bnd]
theorem ok_sl_tup (ps : List P) (l h : Option Int) : Ok (slP (.tup ps) l h m) Q = Q (.tup (cutP ps l h)) m := rfl
theorem ok_sl_ref (n : Nat) (l h : Option Int) : slP (.ref n) l h = getO n fun o => match o with
    | .lst ps => newO (.lst (cutP ps l h))
    | _ => bad := rfl
def revO (x : P) : M P := match x with
  | .ref n => getO n fun o => match o with
    | .lst ps => newO (.lst ps.reverse)
    | _ => bad
  | _ => bad
theorem ok_dRev (e : D) : Ok (dRev e ρ m) Q = Ok (e ρ m) fun x m1 => Ok (revO x m1) Q := by
  unfold dRev
  rw [ok_bnd]
  rfl
theorem ok_rev_ref (n : Nat) : revO (.ref n) = getO n fun o => match o with
    | .lst ps => newO (.lst ps.reverse)
    | _ => bad := rfl
theorem ok_lRev (l : LD) : Ok (lRev l ρ m) QL = Ok (l ρ m) fun ps m1 => QL ps.reverse m1 := by
  unfold lRev
  rw [ok_bnd]
  rfl

/-! ### built-ins -/
theorem ok_one (f : P → M P) (x : P) : Ok (one f [x] m) Q = Ok (f x m) Q := rfl
theorem ok_two (f : P → P → M P) (x y : P) : Ok (two f [x, y] m) Q = Ok (f x y m) Q := rfl
theorem ok_abs (i : Int) : Ok (bAbs (.int i) m) Q = Q (.int (if i < 0 then -i else i)) m := rfl
theorem ok_bint (i : Int) : Ok (bInt (.int i) m) Q = Q (.int i) m := rfl
theorem ok_bint_bl (b : Bool) : Ok (bInt (.bl b) m) Q = Q (.int (if b then 1 else 0)) m := rfl
theorem ok_max2 (i j : Int) : Ok (bMax2 (.int i) (.int j) m) Q = Q (.int (if j > i then j else i)) m := rfl
theorem ok_min2 (i j : Int) : Ok (bMin2 (.int i) (.int j) m) Q = Q (.int (if j < i then j else i)) m := rfl
theorem ok_len_tup (ps : List P) : Ok (bLen (.tup ps) m) Q = Q (.int ps.length) m := rfl
theorem ok_len_scr (ps : List P) : Ok (bLen (.scr ps) m) Q = Q (.int ps.length) m := rfl
theorem ok_len_str (z : Str) : Ok (bLen (.str z) m) Q = (z.length ≤ SZ ∧ Q (.int z.length) m) := by
  show Ok (when_ _ _ m) Q = _
  rw [ok_when, decide_eq_true_eq]
  rfl
theorem ok_len_ref (n : Nat) : bLen (.ref n) = getO n fun o => match o with
    | .lst ps => ret (.int ps.length)
    | .dK kvs => ret (.int kvs.length)
    | _ => bad := rfl
theorem ok_btup_tup (ps : List P) : Ok (bTup (.tup ps) m) Q = Q (.tup ps) m := rfl
theorem ok_btup_scr (ps : List P) : Ok (bTup (.scr ps) m) Q = Q (.tup ps) m := rfl
theorem ok_btup_ref (n : Nat) : bTup (.ref n) = getO n fun o => match o with
    | .lst ps => ret (.tup ps)
    | _ => bad := rfl
theorem ok_dL (f : List P → M P) (l : LD) : Ok (dL f l ρ m) Q = Ok (l ρ m) fun ps m1 => Ok (f ps m1) Q := by
  unfold dL
  rw [ok_bnd]
theorem ok_lThen (f : List P → M (List P)) (l : LD) : Ok (lThen f l ρ m) QL = Ok (l ρ m) fun ps m1 => Ok (f ps m1) QL := by
  unfold lThen
  rw [ok_bnd]
theorem ok_dV (f : List P → M P) (d : D) : Ok (dV f d ρ m) Q = Ok (d ρ m) fun x m1 => Ok (items x m1) fun ps m2 => Ok (f ps m2) Q := by
  unfold dV
  rw [ok_bnd]
  congr 1
  funext x m1
  rw [ok_bnd]
theorem ok_lV (f : List P → M (List P)) (d : D) : Ok (lV f d ρ m) QL = Ok (d ρ m) fun x m1 => Ok (items x m1) fun ps m2 => Ok (f ps m2) QL := by
  unfold lV
  rw [ok_bnd]
  congr 1
  funext x m1
  rw [ok_bnd]
theorem ok_dR (f : List P → M P) (d : D) : Ok (dR f d ρ m) Q = Ok (d ρ m) fun x m1 => Ok (itemsR x m1) fun ps m2 => Ok (f ps m2) Q := by
  unfold dR
  rw [ok_bnd]
  congr 1
  funext x m1
  rw [ok_bnd]
theorem ok_items_tup (ps : List P) : Ok (items (.tup ps) m) QL = QL ps m := rfl
theorem ok_items_scr (ps : List P) : Ok (items (.scr ps) m) QL = QL ps m := rfl
theorem ok_items_ref (n : Nat) : items (.ref n) = getO n fun o => match o with
    | .lst ps => ret ps
    | _ => bad := rfl
theorem ok_itemsR_scr (ps : List P) : Ok (itemsR (.scr ps) m) QL = QL ps m := rfl
theorem ok_itemsR_ref (n : Nat) : itemsR (.ref n) = getO n fun o => match o with
    | .lst ps => ret ps
    | _ => bad := rfl
theorem ok_lId (ps : List P) : Ok (lId ps m) QL = QL ps m := rfl
theorem ok_nTup (ps : List P) : Ok (nTup ps m) Q = Q (.tup ps) m := rfl
theorem ok_nLen (ps : List P) : Ok (nLen ps m) Q = Q (.int ps.length) m := rfl
theorem intsOf_map (l : List Int) : intsOf (l.map .int) = some l := by
  induction l with
  | nil => rfl
  | cons i l ih => show (match intsOf (l.map .int) with | some l => some (i :: l) | none => none) = _; rw [ih]
theorem bls_map (l : List Bool) : bls (l.map .bl) = some l := by
  induction l with
  | nil => rfl
  | cons i l ih => show (match bls (l.map .bl) with | some l => some (i :: l) | none => none) = _; rw [ih]
theorem ok_nSum (l : List Int) : Ok (nSum (l.map .int) m) Q = Q (.int l.sum) m := by
  unfold nSum
  rw [ok_bnd, intsOf_map]
  rfl
theorem ok_nMax (l : List Int) (h : l ≠ []) : Ok (nMax (l.map .int) m) Q = Q (.int (iMax l.head! l.tail)) m := by
  unfold nMax
  rw [ok_bnd, intsOf_map]
  cases l with
  | nil => exact absurd rfl h
  | cons i r => rfl
theorem ok_nMin (l : List Int) (h : l ≠ []) : Ok (nMin (l.map .int) m) Q = Q (.int (iMin l.head! l.tail)) m := by
  unfold nMin
  rw [ok_bnd, intsOf_map]
  cases l with
  | nil => exact absurd rfl h
  | cons i r => rfl
theorem ok_nAny (l : List Bool) : Ok (nAny (l.map .bl) m) Q = Q (.bl (l.any id)) m := by
  unfold nAny
  rw [ok_bnd, bls_map]
  rfl
theorem ok_nAll (l : List Bool) : Ok (nAll (l.map .bl) m) Q = Q (.bl (l.all id)) m := by
  unfold nAll
  rw [ok_bnd, bls_map]
  rfl
theorem ok_rg1 (d : D) (QR : Int × Int → Hm → Prop) : Ok (rg1 d ρ m) QR = Ok (d ρ m) fun x m1 => Ok (asI x m1) fun j m2 => QR (0, j) m2 := by
  unfold rg1
  rw [ok_bnd]
  congr 1
  funext x m1
  rw [ok_bnd]
  rfl
theorem ok_asI (i : Int) (QI : Int → Hm → Prop) : Ok (asI (.int i) m) QI = QI i m := rfl
theorem ok_rg2 (a b : D) (QR : Int × Int → Hm → Prop) : Ok (rg2 a b ρ m) QR = Ok (a ρ m) fun x m1 => Ok (b ρ m1) fun y m2 => Ok (asI x m2) fun i m3 => Ok (asI y m3) fun j m4 => QR (i, j) m4 := by
  unfold rg2
  rw [ok_bnd]
  congr 1
  funext x m1
  rw [ok_bnd]
  congr 1
  funext y m2
  rw [ok_bnd]
  congr 1
  funext i m3
  rw [ok_bnd]
  rfl
theorem ok_lRg (r : RD) : Ok (lRg r ρ m) QL = Ok (r ρ m) fun ab m1 => rgOk ab.1 ab.2 = true ∧ QL (rangeP ab.1 ab.2) m1 := by
  unfold lRg
  rw [ok_bnd]
  congr 1
  funext x m1
  rw [ok_when]
  rfl
theorem ok_dTupRg (r : RD) : Ok (dTupRg r ρ m) Q = Ok (r ρ m) fun ab m1 => rgOk ab.1 ab.2 = true ∧ Q (.tup (rangeP ab.1 ab.2)) m1 := by
  unfold dTupRg
  rw [ok_bnd]
  congr 1
  funext x m1
  rw [ok_when]
  rfl

/-! ### methods -/
theorem ok_meth0 (chk : P → M Unit) (f : P → M P) (o : D) : Ok (dMeth0 chk f o ρ m) Q = Ok (o ρ m) fun x m1 => Ok (chk x m1) fun _ m2 => Ok (f x m2) Q := by
  unfold dMeth0
  rw [ok_bnd]
  congr 1
  funext x m1
  rw [ok_bnd]
theorem ok_meth1 (chk : P → M Unit) (f : P → P → M P) (o a : D) : Ok (dMeth1 chk f o a ρ m) Q = Ok (o ρ m) fun x m1 => Ok (chk x m1) fun _ m2 => Ok (a ρ m2) fun y m3 => Ok (f x y m3) Q := by
  unfold dMeth1
  rw [ok_bnd]
  congr 1
  funext x m1
  rw [ok_bnd]
  congr 1
  funext _ m2
  rw [ok_bnd]
theorem ok_methL (chk : P → M Unit) (f : P → List P → M P) (o : D) (l : LD) : Ok (dMethL chk f o l ρ m) Q = Ok (o ρ m) fun x m1 => Ok (chk x m1) fun _ m2 => Ok (l ρ m2) fun y m3 => Ok (f x y m3) Q := by
  unfold dMethL
  rw [ok_bnd]
  congr 1
  funext x m1
  rw [ok_bnd]
  congr 1
  funext _ m2
  rw [ok_bnd]
theorem ok_chkL (n : Nat) : chkL (.ref n) = getO n fun o => match o with
    | .lst _ => ret ()
    | _ => bad := rfl
theorem ok_append (n : Nat) (y : P) : mAppend (.ref n) y = getO n fun o => match o with
    | .lst ps => when_ (decide (ps.length < SZ)) (bnd (putO n (.lst (ps ++ [y]))) fun _ => ret .non)
    | _ => bad := rfl
theorem ok_extend (n : Nat) (qs : List P) : mExtend (.ref n) qs = getO n fun o => match o with
    | .lst ps => when_ (decide (ps.length + qs.length ≤ SZ)) (bnd (putO n (.lst (ps ++ qs))) fun _ => ret .non)
    | _ => bad := rfl
def popO (n : Nat) (ps : List P) : M P := match ps[ps.length - 1]? with
  | some y => bnd (putO n (.lst ps.dropLast)) fun _ => ret y
  | none => bad
theorem ok_pop (n : Nat) : mPop (.ref n) = getO n fun o => match o with
    | .lst ps => popO n ps
    | _ => bad := rfl
theorem ok_popO (n : Nat) (ps : List P) : Ok (popO n ps m) Q = ∃ y, ps[ps.length - 1]? = some y ∧ Q y (m.set n (.lst ps.dropLast)) := by
  unfold popO
  cases ps[ps.length - 1]? with
  | none => exact propext ⟨fun h => False.elim h, fun ⟨a, h, _⟩ => (nomatch h)⟩
  | some a => exact propext ⟨fun h => ⟨a, rfl, h⟩, fun ⟨b, h, q⟩ => by cases h; exact q⟩
/-! ### sources, targets, statements -/
variable {QE : Env → Hm → Prop} {QS : Src → Hm → Prop} {QF : Fl → Env → Hm → Prop}
def srcOf (x : P) : M Src := match x with
  | .tup ps => ret (.seq ps)
  | .scr ps => ret (.seq ps)
  | .kt ps => ret (.seq ps)
  | .ref n => getO n fun o => match o with
    | .lst _ => ret (.lst n)
    | _ => bad
  | _ => bad
theorem ok_sOf (d : D) : Ok (sOf d ρ m) QS = Ok (d ρ m) fun x m1 => Ok (srcOf x m1) QS := by
  unfold sOf
  rw [ok_bnd]
  rfl
theorem ok_srcOf_tup (ps : List P) : srcOf (.tup ps) = ret (.seq ps) := rfl
theorem ok_srcOf_scr (ps : List P) : srcOf (.scr ps) = ret (.seq ps) := rfl
theorem ok_srcOf_kt (ps : List P) : srcOf (.kt ps) = ret (.seq ps) := rfl
theorem ok_srcOf_ref (n : Nat) : srcOf (.ref n) = getO n fun o => match o with
    | .lst _ => ret (.lst n)
    | _ => bad := rfl
theorem ok_sOfL (l : LD) : Ok (sOfL l ρ m) QS = Ok (l ρ m) fun ps m1 => QS (.seq ps) m1 := by
  unfold sOfL
  rw [ok_bnd]
  rfl
def enumOf (x : P) : M Src := match x with
  | .tup ps => ret (.seq (numbered 0 ps))
  | .ref n => getO n fun o => match o with
    | .lst _ => ret (.enumL n)
    | _ => bad
  | _ => bad
theorem ok_sEnum (d : D) : Ok (sEnum d ρ m) QS = Ok (d ρ m) fun x m1 => Ok (enumOf x m1) QS := by
  unfold sEnum
  rw [ok_bnd]
  rfl
theorem ok_enumOf_tup (ps : List P) : enumOf (.tup ps) = ret (.seq (numbered 0 ps)) := rfl
theorem ok_enumOf_ref (n : Nat) : enumOf (.ref n) = getO n fun o => match o with
    | .lst _ => ret (.enumL n)
    | _ => bad := rfl
theorem ok_sRange1 (d : D) : Ok (sRange1 d ρ m) QS = Ok (d ρ m) fun x m1 => Ok (asI x m1) fun j m2 => small62 j = true ∧ QS (.seq (rangeP 0 j)) m2 := by
  unfold sRange1
  rw [ok_bnd]
  congr 1
  funext x m1
  cases x with
  | int j => show Ok (when_ _ _ m1) QS = _; rw [ok_when]; rfl
  | _ => rfl
theorem ok_sRange2 (a b : D) : Ok (sRange2 a b ρ m) QS = Ok (a ρ m) fun x m1 => Ok (b ρ m1) fun y m2 => Ok (asI x m2) fun i m3 => Ok (asI y m3) fun j m4 => (small62 i && small62 j) = true ∧ QS (.seq (rangeP i j)) m4 := by
  unfold sRange2
  rw [ok_bnd]
  congr 1
  funext x m1
  rw [ok_bnd]
  congr 1
  funext y m2
  cases x with
  | int i =>
    cases y with
    | int j => show Ok (when_ _ _ m2) QS = _; rw [ok_when]; rfl
    | _ => rfl
  | _ => rfl
theorem ok_gName (i : Nat) (p : P) : Ok (gName i p ρ m) QE = QE (ρ.set i (some p)) m := rfl
theorem ok_gNil : Ok (gNil [] ρ m) QE = QE ρ m := rfl
theorem ok_gCons (g : GD) (gs : GsD) (p : P) (r : List P) : Ok (gCons g gs (p :: r) ρ m) QE = Ok (g p ρ m) fun ρ' m' => Ok (gs r ρ' m') QE := by
  show Ok (bnd _ _ m) QE = _
  rw [ok_bnd]
theorem ok_gTup (n : Nat) (gs : GsD) (ps : List P) : Ok (gTup n gs (.tup ps) ρ m) QE = (ps.length = n ∧ Ok (gs ps ρ m) QE) := by
  show Ok (when_ _ _ m) QE = _
  rw [ok_when, decide_eq_true_eq]
theorem oks_ok (f : Fl) : OkS (.ok f ρ m) QF = QF f ρ m := rfl
theorem oks_thn {α : Type} (x : M α) (k : α → Hm → RS) : OkS (thn x ρ k m) QF = Ok (x m) fun a m1 => OkS (k a m1) QF := by
  unfold thn
  cases x m <;> rfl
theorem oks_nx : OkS (sNx ρ m) QF = QF .nx ρ m := rfl
theorem oks_bk : OkS (sBk ρ m) QF = QF .bk ρ m := rfl
theorem oks_ct : OkS (sCt ρ m) QF = QF .ct ρ m := rfl
theorem oks_seq (s t : DS) : OkS (sSeq s t ρ m) QF = OkS (s ρ m) fun f ρ' m' => match f with
    | .nx => OkS (t ρ' m') QF
    | f => QF f ρ' m' := by
  unfold sSeq
  cases s ρ m with
  | ok f ρ' m' => cases f <;> rfl
  | _ => rfl
theorem oks_expr (d : D) : OkS (sExpr d ρ m) QF = Ok (d ρ m) fun _ m1 => QF .nx ρ m1 := by
  unfold sExpr
  rw [oks_thn]
  rfl
theorem oks_ret (d : D) : OkS (sRet d ρ m) QF = Ok (d ρ m) fun p m1 => QF (.rt p) ρ m1 := by
  unfold sRet
  rw [oks_thn]
  rfl
theorem oks_asg (d : D) (g : GD) : OkS (sAsg d g ρ m) QF = Ok (d ρ m) fun p m1 => Ok (g p ρ m1) fun ρ' m2 => QF .nx ρ' m2 := by
  unfold sAsg
  rw [oks_thn]
  congr 1
  funext p m1
  rw [oks_thn]
  rfl
theorem oks_set (i : Nat) (d : D) : OkS (sSet i d ρ m) QF = Ok (d ρ m) fun p m1 => QF .nx (ρ.set i (some p)) m1 := by
  unfold sSet
  rw [oks_asg]
  rfl
theorem oks_par2 (i j : Nat) (a : A) : OkS (sPar2 i j a ρ m) QF = Ok (a ρ m) fun ps m1 => match ps with
    | [p, q] => QF .nx ((ρ.set i (some p)).set j (some q)) m1
    | _ => False := by
  unfold sPar2
  rw [oks_thn]
  congr 1
  funext ps m1
  rcases ps with _ | ⟨p, _ | ⟨q, _ | ⟨r, t⟩⟩⟩ <;> rfl
theorem oks_par3 (i j l : Nat) (a : A) : OkS (sPar3 i j l a ρ m) QF = Ok (a ρ m) fun ps m1 => match ps with
    | [p, q, r] => QF .nx (((ρ.set i (some p)).set j (some q)).set l (some r)) m1
    | _ => False := by
  unfold sPar3
  rw [oks_thn]
  congr 1
  funext ps m1
  rcases ps with _ | ⟨p, _ | ⟨q, _ | ⟨r, _ | ⟨u, t⟩⟩⟩⟩ <;> rfl
theorem oks_if (c : T) (s t : DS) : OkS (sIf c s t ρ m) QF = Ok (c ρ m) fun k m1 => (k = true → OkS (s ρ m1) QF) ∧ (k = false → OkS (t ρ m1) QF) := by
  unfold sIf
  rw [oks_thn]
  congr 1
  funext k m1
  cases k
  · exact propext ⟨fun h => ⟨fun e => (nomatch e), fun _ => h⟩, fun h => h.2 rfl⟩
  · exact propext ⟨fun h => ⟨fun _ => h, fun e => (nomatch e)⟩, fun h => h.1 rfl⟩
theorem oks_put (o i v : D) : OkS (sPut o i v ρ m) QF = Ok (v ρ m) fun z m1 => Ok (o ρ m1) fun x m2 => Ok (i ρ m2) fun y m3 => Ok (setP x y z m3) fun _ m4 => QF .nx ρ m4 := by
  unfold sPut
  rw [oks_thn, ok_bnd]
  congr 1
  funext z m1
  rw [ok_bnd]
  congr 1
  funext x m2
  rw [ok_bnd]
  rfl
def putL (n : Nat) (ps : List P) (o : Option Nat) (z : P) : M Unit := match o with
  | some k => putO n (.lst (ps.set k z))
  | none => bad
theorem ok_setP (n : Nat) (y z : P) : setP (.ref n) y z = getO n fun o => match o with
    | .lst ps => match y with
      | .int j => putL n ps (L2.ixN ps.length j) z
      | _ => bad
    | _ => dStore n y z := rfl
theorem ok_putL (n : Nat) (ps : List P) (o : Option Nat) (z : P) (QU : Unit → Hm → Prop) : Ok (putL n ps o z m) QU = ∃ k, o = some k ∧ QU () (m.set n (.lst (ps.set k z))) := by
  unfold putL
  cases o with
  | none => exact propext ⟨fun h => False.elim h, fun ⟨a, h, _⟩ => (nomatch h)⟩
  | some a => exact propext ⟨fun h => ⟨a, rfl, h⟩, fun ⟨b, h, q⟩ => by cases h; exact q⟩
theorem ok_fnOf (n N : Nat) (s : DS) (args : List P) : Ok (fnOf n N s args m) Q = (args.length = n ∧ OkS (s (args.map some ++ List.replicate (N - n) none) m) fun f _ m' => match f with
    | .nx => Q .non m'
    | .rt p => Q p m'
    | _ => False) := by
  unfold fnOf
  by_cases h : args.length = n
  · rw [decide_eq_true h]
    simp only [h, true_and]
    cases s (args.map some ++ List.replicate (N - n) none) m with
    | ok f ρ' m' => cases f <;> rfl
    | _ => rfl
  · rw [decide_eq_false h]
    exact propext ⟨fun e => False.elim e, fun e => absurd e.1 h⟩
theorem ok_dDict (a : KA) : Ok (dDict a ρ m) Q = Ok (a ρ m) fun ps m1 => ∃ kvs, mapO keyed ps = some kvs ∧ kvs.length ≤ 15 ∧ Q (.ref m1.length) (m1 ++ [.dK (putsP kvs)]) := by
  unfold dDict
  rw [ok_bnd]
  congr 1
  funext ps m1
  rw [ok_bnd, ok_opt]
  congr 1
  funext kvs
  congr 1
  show Ok (when_ _ _ m1) Q = _
  rw [ok_when, decide_eq_true_eq]
  rfl
theorem ok_kNil (QK : List (P × P) → Hm → Prop) : Ok (kNil ρ m) QK = QK [] m := rfl
theorem ok_kCons (dk dv : D) (r : KA) (QK : List (P × P) → Hm → Prop) : Ok (kCons dk dv r ρ m) QK = Ok (dk ρ m) fun x m1 => Ok (dv ρ m1) fun y m2 => Ok (r ρ m2) fun xs m3 => QK ((x, y) :: xs) m3 := by
  unfold kCons
  rw [ok_bnd]
  congr 1
  funext x m1
  rw [ok_bnd]
  congr 1
  funext y m2
  rw [ok_bnd]
  rfl
def starO (a : A) (ρ : Env) (x : P) : M (List P) := match x with
  | .tup ps => bnd (a ρ) fun xs => ret (ps ++ xs)
  | .ref n => getO n fun o => match o with
    | .lst ps => bnd (a ρ) fun xs => ret (ps ++ xs)
    | _ => bad
  | _ => bad
theorem ok_aStar (d : D) (a : A) : Ok (aStar d a ρ m) QL = Ok (d ρ m) fun x m1 => Ok (starO a ρ x m1) QL := by
  unfold aStar
  rw [ok_bnd]
  rfl
theorem ok_star_tup (a : A) (ps : List P) : starO a ρ (.tup ps) = bnd (a ρ) fun xs => ret (ps ++ xs) := rfl
theorem ok_star_ref (a : A) (n : Nat) : starO a ρ (.ref n) = getO n fun o => match o with
    | .lst ps => bnd (a ρ) fun xs => ret (ps ++ xs)
    | _ => bad := rfl
/-! ### loops -/
theorem oks_for (src : SD) (g : GD) (s : DS) : OkS (sFor src g s ρ m) QF = Ok (src ρ m) fun sr m1 => OkS (forL sr g s (sr.len m1) 0 ρ m1) QF := by
  unfold sFor
  rw [oks_thn]
theorem forL_inv {src : Src} {g : GD} {s : DS} (I : Nat → Env → Hm → Prop) (len : Nat)
    (hat : ∀ i ρ m, i ≤ len → I i ρ m → (i < len → ∃ p, src.at i m = some (some p) ∧ Ok (g p ρ m) fun ρ1 m1 => OkS (s ρ1 m1) fun f ρ' m' => match f with
      | .nx => I (i + 1) ρ' m'
      | .ct => I (i + 1) ρ' m'
      | .bk => QF .nx ρ' m'
      | .rt p => QF (.rt p) ρ' m') ∧ (i = len → src.at i m = some none ∧ QF .nx ρ m)) :
    ∀ (f i : Nat) (ρ : Env) (m : Hm), i + f = len → I i ρ m → OkS (forL src g s f i ρ m) QF
  | 0, i, ρ, m, e, h => by
    have k := (hat i ρ m (by omega) h).2 (by omega)
    unfold forL
    rw [k.1]
    exact k.2
  | f + 1, i, ρ, m, e, h => by
    obtain ⟨p, k1, k2⟩ := (hat i ρ m (by omega) h).1 (by omega)
    unfold forL
    rw [k1]
    show OkS (thn (g p ρ) ρ _ m) QF
    rw [oks_thn]
    refine k2.mono fun ρ1 m1 h1 => ?_
    cases q : s ρ1 m1 with
    | ok fl ρ' m' =>
      rw [q] at h1
      cases fl with
      | nx => exact forL_inv I len hat f (i + 1) ρ' m' (by omega) h1
      | ct => exact forL_inv I len hat f (i + 1) ρ' m' (by omega) h1
      | bk => exact h1
      | rt p => exact h1
    | exc _ _ _ _ => rw [q] at h1; exact h1
    | bad => rw [q] at h1; exact h1
/-- over unchanging items -/
theorem for_seq {α : Type} {enc : α → P} {as : List α} {ps : List P} {g : GD} {s : DS} (he : ps = as.map enc) (I : List α → Env → Hm → Prop) (h0 : I [] ρ m)
    (hs : ∀ done a rest ρ m, as = done ++ a :: rest → I done ρ m → Ok (g (enc a) ρ m) fun ρ1 m1 => OkS (s ρ1 m1) fun f ρ' m' => match f with
      | .nx => I (done ++ [a]) ρ' m'
      | .ct => I (done ++ [a]) ρ' m'
      | .bk => QF .nx ρ' m'
      | .rt p => QF (.rt p) ρ' m')
    (hend : ∀ ρ m, I as ρ m → QF .nx ρ m) : OkS (forL (.seq ps) g s ((Src.seq ps).len m) 0 ρ m) QF := by
  subst he
  refine forL_inv (fun i ρ m => I (as.take i) ρ m) as.length (fun i ρ m hi h => ⟨fun hl => ?_, fun e => ?_⟩) _ 0 ρ m (by simp [Src.len]) (by simpa using h0)
  · refine ⟨enc as[i], by simp [Src.at, hl], ?_⟩
    have e : as = as.take i ++ as[i] :: as.drop (i + 1) := by
      rw [← List.drop_eq_getElem_cons hl, List.take_append_drop]
    have e2 : as.take (i + 1) = as.take i ++ [as[i]] := by
      rw [List.take_succ, List.getElem?_eq_getElem hl]; rfl
    rw [e2]
    exact hs _ _ _ ρ m e h
  · subst e
    exact ⟨by simp [Src.at], hend ρ m (by simpa using h)⟩
theorem while_inv {c : T} {s : DS} (I : Nat → Env → Hm → Prop)
    (hs : ∀ k ρ m, I k ρ m → Ok (c ρ m) fun b m1 => (b = true → OkS (s ρ m1) fun f ρ' m' => match f with
      | .nx => ∃ k', k' < k ∧ I k' ρ' m'
      | .ct => ∃ k', k' < k ∧ I k' ρ' m'
      | .bk => QF .nx ρ' m'
      | .rt p => QF (.rt p) ρ' m') ∧ (b = false → QF .nx ρ m1)) :
    ∀ (N k : Nat) (ρ : Env) (m : Hm), k < N → I k ρ m → OkS (sWhile c s N ρ m) QF
  | 0, k, ρ, m, e, h => absurd e (by omega)
  | N + 1, k, ρ, m, e, h => by
    unfold sWhile
    rw [oks_thn]
    refine (hs k ρ m h).mono fun b m1 hb => ?_
    cases b with
    | false => exact hb.2 rfl
    | true =>
      have h1 := hb.1 rfl
      show OkS (match s ρ m1 with
      | .ok .nx ρ' m' => sWhile c s N ρ' m'
      | .ok .ct ρ' m' => sWhile c s N ρ' m'
      | .ok .bk ρ' m' => .ok .nx ρ' m'
      | r => r) QF
      cases q : s ρ m1 with
      | ok fl ρ' m' =>
        rw [q] at h1
        cases fl with
        | nx => obtain ⟨k', hk, h2⟩ := h1; exact while_inv I hs N k' ρ' m' (by omega) h2
        | ct => obtain ⟨k', hk, h2⟩ := h1; exact while_inv I hs N k' ρ' m' (by omega) h2
        | bk => exact h1
        | rt p => exact h1
      | exc _ _ _ _ => rw [q] at h1; exact h1
      | bad => rw [q] at h1; exact h1
theorem compL_inv {src : Src} {g : GD} {t : T} {e : D} {ρ0 : Env} (I : Nat → List P → Hm → Prop) (len : Nat)
    (hat : ∀ i acc m, i ≤ len → I i acc m → (i < len → ∃ p, src.at i m = some (some p) ∧ Ok (g p ρ0 m) fun ρ1 m1 => Ok (t ρ1 m1) fun k m2 => (k = true → Ok (e ρ1 m2) fun y m3 => acc.length < SZ ∧ I (i + 1) (acc ++ [y]) m3) ∧ (k = false → I (i + 1) acc m2)) ∧ (i = len → src.at i m = some none ∧ QL acc m)) :
    ∀ (f i : Nat) (acc : List P) (m : Hm), i + f = len → I i acc m → Ok (compL g t e ρ0 src f i acc m) QL
  | 0, i, acc, m, h0, h => by
    have k := (hat i acc m (by omega) h).2 (by omega)
    unfold compL
    rw [k.1]
    exact k.2
  | f + 1, i, acc, m, h0, h => by
    obtain ⟨p, k1, k2⟩ := (hat i acc m (by omega) h).1 (by omega)
    unfold compL
    rw [k1]
    show Ok (bnd (g p ρ0) _ m) QL
    rw [ok_bnd]
    refine k2.mono fun ρ1 m1 h1 => ?_
    rw [ok_bnd]
    refine h1.mono fun k m2 h2 => ?_
    cases k with
    | true =>
      show Ok (bnd (e ρ1) _ m2) QL
      rw [ok_bnd]
      refine (h2.1 rfl).mono fun y m3 h3 => ?_
      rw [ok_when, decide_eq_true_eq]
      exact ⟨h3.1, compL_inv I len hat f (i + 1) _ m3 (by omega) h3.2⟩
    | false => exact compL_inv I len hat f (i + 1) _ m2 (by omega) (h2.2 rfl)
theorem ok_noX {α : Type} (x : M α) (QA : α → Hm → Prop) : Ok (noX x m) QA = Ok (x m) QA := by
  unfold noX
  cases x m <;> rfl
theorem ok_comp (src : SD) (g : GD) (t : T) (e : D) (own : List Nat) : Ok (lComp src g t e own ρ m) QL = Ok (src ρ m) fun s m1 => Ok (compL g t e (wipeE ρ own) s (s.len m1) 0 [] m1) QL := by
  unfold lComp
  rw [ok_bnd]
  congr 1
  funext s m1
  exact ok_noX (m := m1) (fun m => compL g t e (wipeE ρ own) s (s.len m) 0 [] m) QL
/-- a comprehension over unchanging items -/
theorem comp_seq {α : Type} {enc : α → P} {as : List α} {ps : List P} {g : GD} {t : T} {e : D} {ρ0 : Env} (he : ps = as.map enc) (hz : as.length ≤ SZ) (I : List α → List P → Hm → Prop) (h0 : I [] [] m)
    (hs : ∀ done a rest acc m, as = done ++ a :: rest → acc.length ≤ done.length → I done acc m → Ok (g (enc a) ρ0 m) fun ρ1 m1 => Ok (t ρ1 m1) fun k m2 => (k = true → Ok (e ρ1 m2) fun y m3 => I (done ++ [a]) (acc ++ [y]) m3) ∧ (k = false → I (done ++ [a]) acc m2))
    (hend : ∀ acc m, acc.length ≤ as.length → I as acc m → QL acc m) : Ok (compL g t e ρ0 (.seq ps) ((Src.seq ps).len m) 0 [] m) QL := by
  subst he
  refine compL_inv (fun i acc m => acc.length ≤ i ∧ I (as.take i) acc m) as.length (fun i acc m hi h => ⟨fun hl => ?_, fun e => ?_⟩) _ 0 [] m (by simp [Src.len]) (by simpa using h0)
  · refine ⟨enc as[i], by simp [Src.at, hl], ?_⟩
    have e : as = as.take i ++ as[i] :: as.drop (i + 1) := by
      rw [← List.drop_eq_getElem_cons hl, List.take_append_drop]
    have e2 : as.take (i + 1) = as.take i ++ [as[i]] := by
      rw [List.take_succ, List.getElem?_eq_getElem hl]; rfl
    rw [e2]
    have hlen : (as.take i).length = i := by rw [List.length_take]; omega
    refine (hs _ _ _ acc m e (by rw [hlen]; exact h.1) h.2).mono fun ρ1 m1 h1 => h1.mono fun k m2 h2 => ⟨fun hk => (h2.1 hk).mono fun y m3 h3 => ⟨by have := h.1; omega, by rw [List.length_append]; have := h.1; simp; omega, h3⟩, fun hk => ⟨by have := h.1; omega, h2.2 hk⟩⟩
  · subst e
    exact ⟨by simp [Src.at], hend acc m h.1 (by simpa using h.2)⟩
end

/-! ### frames -/
/-- from m to m': new things, the old ones but those at S as they were -/
def Fr (S : List Nat) (m m' : Hm) : Prop := m.length ≤ m'.length ∧ ∀ (i : Nat) (o : O), i ∉ S → m[i]? = some o → m'[i]? = some o
theorem Fr.refl (S : List Nat) (m : Hm) : Fr S m m := ⟨Nat.le_refl _, fun _ _ _ h => h⟩
theorem Fr.trans {S : List Nat} {m m1 m2 : Hm} (a : Fr S m m1) (b : Fr S m1 m2) : Fr S m m2 := ⟨Nat.le_trans a.1 b.1, fun i o n h => b.2 i o n (a.2 i o n h)⟩
theorem Fr.sub {S S' : List Nat} {m m1 : Hm} (a : Fr S m m1) (h : ∀ s ∈ S, s ∈ S' ∨ m.length ≤ s) : Fr S' m m1 := ⟨a.1, fun i o n e => a.2 i o (fun hi => by
  rcases h i hi with h | h
  · exact n h
  · have := (List.getElem?_eq_some_iff.mp e).1; omega) e⟩
theorem Fr.new (S : List Nat) (m : Hm) (o : O) : Fr S m (m ++ [o]) := ⟨by simp, fun i u _ h => by rw [List.getElem?_append_left (List.getElem?_eq_some_iff.mp h).1]; exact h⟩
theorem Fr.set {S : List Nat} {m : Hm} {n : Nat} {o : O} (h : n ∈ S) : Fr S m (m.set n o) := ⟨by simp, fun i u hi e => by
  rw [List.getElem?_set_ne (fun (z : n = i) => hi (by rw [← z]; exact h))]; exact e⟩
theorem Fr.get {S : List Nat} {m m' : Hm} (a : Fr S m m') {i : Nat} {o : O} (h : m[i]? = some o) (n : i ∉ S := by simp) : m'[i]? = some o := a.2 i o n h
theorem new_get (m : Hm) (o : O) : (m ++ [o])[m.length]? = some o := by simp
theorem set_get {m : Hm} {n : Nat} {o u : O} (h : m[n]? = some u) : (m.set n o)[n]? = some o := by
  rw [List.getElem?_set_self (List.getElem?_eq_some_iff.mp h).1]
theorem lt_of_get {m : Hm} {n : Nat} {o : O} (h : m[n]? = some o) : n < m.length := (List.getElem?_eq_some_iff.mp h).1
end G

/-! Q2: data, drawn numbers. -/
namespace G
open PySem (Str PyData)
theorem scal_int (i j : Int) : scalP (.int i) (.int j) = some (decide (i = j)) := rfl
theorem scal_str (i j : Str) : scalP (.str i) (.str j) = some (decide (i = j)) := rfl
theorem scal_bl (i j : Bool) : scalP (.bl i) (.bl j) = some (decide (i = j)) := rfl
theorem scal_non : scalP .non .non = some true := rfl
theorem scal_tup (ps : List P) (q : P) : scalP (.tup ps) q = none := by cases q <;> rfl
theorem scal_ref (n : Nat) (q : P) : scalP (.ref n) q = none := by cases q <;> rfl
/-! ### data -/
theorem dat_int (m : Hm) (f : Nat) (i : Int) : dat m f (.int i) = some (.int i) := by cases f <;> rfl
theorem dat_str (m : Hm) (f : Nat) (i : Str) : dat m f (.str i) = some (.str i) := by cases f <;> rfl
theorem dat_bl (m : Hm) (f : Nat) (i : Bool) : dat m f (.bl i) = some (.bool i) := by cases f <;> rfl
theorem dat_non (m : Hm) (f : Nat) : dat m f .non = some .none := by cases f <;> rfl
theorem dat_tup (m : Hm) (f : Nat) (ps : List P) : dat m (f + 1) (.tup ps) = (mapO (dat m f) ps).map .tuple := rfl
/-! ### dicts by their keys -/
/-- a dict's value at a key; what it becomes -/
def lookO (n : Nat) (k : P) (o : O) : M (Option P) := match o with
  | .dK kvs => match keyOf k with
    | some q => ret (vGet kvs q)
    | none => match kvs with
      | [] => match tkeyOf k with
        | some _ => bnd (putO n (.dT [])) fun _ => ret none
        | none => bad
      | _ => bad
  | .dT kvs => match tkeyOf k with
    | some q => ret (vGet kvs q)
    | none => bad
  | _ => bad
def storeO (n : Nat) (k v : P) (o : O) : M Unit := match o with
  | .dK kvs => match keyOf k with
    | some q => when_ (decide (kvs.length < SZ)) (putO n (.dK (vPut kvs q v)))
    | none => match kvs with
      | [] => match tkeyOf k with
        | some q => putO n (.dT [(q, v)])
        | none => bad
      | _ => bad
  | .dT kvs => match tkeyOf k with
    | some q => when_ (decide (kvs.length < SZ)) (putO n (.dT (vPut kvs q v)))
    | none => bad
  | _ => bad
theorem ok_look (n : Nat) (k : P) : dLook n k = getO n (lookO n k) := by
  funext m
  unfold dLook getO lookO
  rcases m[n]? with _ | o
  · rfl
  · cases o with
    | dK kvs =>
      dsimp only
      cases keyOf k with
      | some q => rfl
      | none =>
        cases kvs with
        | nil => dsimp only; cases tkeyOf k <;> rfl
        | cons _ _ => rfl
    | dT kvs => dsimp only; cases tkeyOf k <;> rfl
    | _ => rfl
theorem ok_store (n : Nat) (k v : P) : dStore n k v = getO n (storeO n k v) := by
  funext m
  unfold dStore getO storeO when_
  rcases m[n]? with _ | o
  · rfl
  · cases o with
    | dK kvs =>
      dsimp only
      cases keyOf k with
      | some q => dsimp only; cases decide (kvs.length < SZ) <;> rfl
      | none =>
        cases kvs with
        | nil => dsimp only; cases tkeyOf k <;> rfl
        | cons _ _ => rfl
    | dT kvs =>
      dsimp only
      cases tkeyOf k with
      | some q => dsimp only; cases decide (kvs.length < SZ) <;> rfl
      | none => rfl
    | _ => rfl
theorem ok_lookO_int (n : Nat) (i : Int) (kvs : List (L2.Key × P)) : lookO n (.int i) (.dK kvs) = ret (vGet kvs (.inl i)) := rfl
theorem ok_lookO_str (n : Nat) (i : Str) (kvs : List (L2.Key × P)) : lookO n (.str i) (.dK kvs) = ret (vGet kvs (.inr i)) := rfl
theorem ok_storeO_int (n : Nat) (i : Int) (v : P) (kvs : List (L2.Key × P)) : storeO n (.int i) v (.dK kvs) = when_ (decide (kvs.length < SZ)) (putO n (.dK (vPut kvs (.inl i) v))) := rfl
theorem ok_storeO_str (n : Nat) (i : Str) (v : P) (kvs : List (L2.Key × P)) : storeO n (.str i) v (.dK kvs) = when_ (decide (kvs.length < SZ)) (putO n (.dK (vPut kvs (.inr i) v))) := rfl
theorem key_int (i : Int) : keyOf (.int i) = some (.inl i) := rfl
theorem key_str (x : Str) : keyOf (.str x) = some (.inr x) := rfl
theorem key_tup (ps : List P) : keyOf (.tup ps) = none := rfl
theorem in_tup (x : P) (ps : List P) : inP x (.tup ps) = inT x (.tup ps) := rfl
theorem ok_in (x y : P) (m : Hm) (Q : P → Hm → Prop) : Ok (oIn x y m) Q = Ok (inP x y m) fun b m' => Q (.bl b) m' := by
  unfold oIn
  rw [ok_bnd]
  rfl
theorem ok_notIn (x y : P) (m : Hm) (Q : P → Hm → Prop) : Ok (oNotIn x y m) Q = Ok (inP x y m) fun b m' => Q (.bl (!b)) m' := by
  unfold oNotIn
  rw [ok_bnd]
  rfl
/-! ### the source of drawn numbers -/
abbrev srcD (c : Nat) (l x t : Int) : List (L2.Key × P) := [(.inr "cells", .ref c), (.inr "left", .int l), (.inr "mixed", .int x), (.inr "turn", .int t)]
theorem src_cells (c : Nat) (l x t : Int) : vGet (srcD c l x t) (.inr "cells") = some (.ref c) := rfl
theorem src_left (c : Nat) (l x t : Int) : vGet (srcD c l x t) (.inr "left") = some (.int l) := rfl
theorem src_mixed (c : Nat) (l x t : Int) : vGet (srcD c l x t) (.inr "mixed") = some (.int x) := rfl
theorem src_turn (c : Nat) (l x t : Int) : vGet (srcD c l x t) (.inr "turn") = some (.int t) := rfl
theorem put_left (c : Nat) (l x t : Int) (y : Int) : vPut (srcD c l x t) (.inr "left") (.int y) = srcD c y x t := rfl
theorem put_mixed (c : Nat) (l x t : Int) (y : Int) : vPut (srcD c l x t) (.inr "mixed") (.int y) = srcD c l y t := rfl
theorem put_turn (c : Nat) (l x t : Int) (y : Int) : vPut (srcD c l x t) (.inr "turn") (.int y) = srcD c l x y := rfl
/-- at n a source stands, its cells at c -/
structure IsSrc (m : Hm) (n c : Nat) : Prop where
  ne : n ≠ c
  at_ : ∃ (l x t : Int) (cs : List Int), m[n]? = some (.dK (srcD c l x t)) ∧ m[c]? = some (.lst (cs.map .int)) ∧ cs.length ≤ 63
theorem IsSrc.fr {S : List Nat} {m m' : Hm} {n c : Nat} (h : IsSrc m n c) (f : Fr S m m') (hn : n ∉ S := by simp) (hc : c ∉ S := by simp) : IsSrc m' n c := by
  obtain ⟨ne, l, x, t, cs, h1, h2, hz⟩ := h
  exact ⟨ne, l, x, t, cs, f.get h1 hn, f.get h2 hc, hz⟩
/-- a number below k is drawn (0 if k < 2) -/
def Drawn (n c : Nat) (k : Int) (m : Hm) (p : P) (m' : Hm) : Prop := ∃ r : Int, p = .int r ∧ 0 ≤ r ∧ (r < k ∨ r = 0) ∧ IsSrc m' n c ∧ Fr [n, c] m m' ∧ m'.length = m.length
def D_pickB : DS :=
    (sSeq (sIf (tVal (dOp oLt (dVar 1) (dC (.int 2)))) (sRet (dC (.int 0))) sNx)
    (sSeq (sSet 2 (dOp oIx (dVar 0) (dC (.str "cells"))))
    (sSeq (sWhile (tAnd (tVal (dOp oLt (dOp oIx (dVar 0) (dC (.str "left"))) (dC (.int 2)))) (tVal (dOp oGt (dCall (one bLen) (aCons (dVar 2) aNil)) (dC (.int 0))))) (sPut (dVar 0) (dC (.str "left")) (dMeth0 chkL mPop (dVar 2))) FU)
    (sSeq (sSet 3 (dOp oIx (dVar 0) (dC (.str "left"))))
    (sSeq (sIf (tVal (dOp oGt (dVar 3) (dC (.int 1)))) (sSeq (sPut (dVar 0) (dC (.str "left")) (dOp oDiv (dVar 3) (dVar 1)))
    (sRet (dOp oMod (dCall (one bInt) (aCons (dVar 3) aNil)) (dVar 1)))) sNx)
    (sSeq (sPut (dVar 0) (dC (.str "turn")) (dOp oAdd (dOp oIx (dVar 0) (dC (.str "turn"))) (dC (.int 1))))
    (sSeq (sSet 4 (dOp oIx (dVar 0) (dC (.str "turn"))))
    (sSeq (sSet 5 (dOp oMod (dCall (one bInt) (aCons (dOp oAdd (dOp oIx (dVar 0) (dC (.str "mixed"))) (dOp oMul (dVar 4) (dC (.int 104729)))) aNil)) (dC (.int 998244353))))
    (sSeq (sSet 5 (dOp oMod (dCall (one bInt) (aCons (dOp oAdd (dOp oMul (dVar 5) (dVar 5)) (dOp oMul (dVar 4) (dC (.int 17)))) aNil)) (dC (.int 2147483647))))
    (sRet (dOp oMod (dCall (one bInt) (aCons (dOp oDiv (dVar 5) (dC (.int 16))) aNil)) (dVar 1))))))))))))
def F_pickB : List P → M P := fnOf 2 6 (D_pickB )
def D_pickA : DS :=
    (sSeq (sWhile (tAnd (tVal (dOp oGt (dVar 1) (dC (.int 1)))) (tAnd (tVal (dOp oLt (dOp oIx (dVar 0) (dC (.str "left"))) (dC (.int 2)))) (tVal (dOp oGt (dCall (one bLen) (aCons (dOp oIx (dVar 0) (dC (.str "cells"))) aNil)) (dC (.int 0)))))) (sPut (dVar 0) (dC (.str "left")) (dMeth0 chkL mPop (dOp oIx (dVar 0) (dC (.str "cells"))))) FU)
    (sSeq (sSet 2 (dOp oIx (dVar 0) (dC (.str "left"))))
    (sSeq (sIf (tOr (tVal (dOp oLt (dVar 1) (dC (.int 2)))) (tVal (dOp oGt (dVar 2) (dC (.int 1))))) (sSeq (sPut (dVar 0) (dC (.str "left")) (dOp oDiv (dVar 2) (dCall (two bMax2) (aCons (dC (.int 1)) (aCons (dVar 1) aNil)))))
    (sRet (dOp oMod (dCall (one bInt) (aCons (dVar 2) aNil)) (dCall (two bMax2) (aCons (dC (.int 1)) (aCons (dVar 1) aNil)))))) sNx)
    (sSeq (sPut (dVar 0) (dC (.str "turn")) (dOp oAdd (dOp oIx (dVar 0) (dC (.str "turn"))) (dC (.int 1))))
    (sSeq (sSet 3 (dOp oMod (dCall (one bInt) (aCons (dOp oAdd (dOp oIx (dVar 0) (dC (.str "mixed"))) (dOp oMul (dOp oIx (dVar 0) (dC (.str "turn"))) (dC (.int 104729)))) aNil)) (dC (.int 998244353))))
    (sSeq (sSet 3 (dOp oMod (dCall (one bInt) (aCons (dOp oAdd (dOp oMul (dVar 3) (dVar 3)) (dOp oMul (dOp oIx (dVar 0) (dC (.str "turn"))) (dC (.int 17)))) aNil)) (dC (.int 2147483647))))
    (sSeq (sPut (dVar 0) (dC (.str "mixed")) (dVar 3))
    (sRet (dOp oMod (dCall (one bInt) (aCons (dOp oDiv (dVar 3) (dC (.int 16))) aNil)) (dVar 1))))))))))
def F_pickA : List P → M P := fnOf 2 4 (D_pickA )
def D_of (c__law_pick : List P → M P) : DS :=
    (sRet (dOp oIx (dVar 1) (dCall c__law_pick (aCons (dVar 0) (aCons (dCall (one bLen) (aCons (dVar 1) aNil)) aNil)))))
def F_of (c__law_pick : List P → M P) : List P → M P := fnOf 2 2 (D_of c__law_pick)
def D_srcB : DS :=
    (sSeq (sSet 1 (dC (.int 11)))
    (sSeq (sFor (sOf (dVar 0)) (gName 2) (sSet 1 (dOp oMod (dCall (one bInt) (aCons (dOp oAdd (dOp oAdd (dOp oMul (dVar 1) (dC (.int 69069))) (dOp oMul (dVar 2) (dC (.int 31)))) (dC (.int 5))) aNil)) (dC (.int 2147483629)))))
    (sSeq (sSet 3 (dNew (lComp (sOf (dVar 0)) (gName 2) tYes (dCall (one bAbs) (aCons (dVar 2) aNil)) [2])))
    (sRet (dDict (kCons (dC (.str "cells")) (dRev (dVar 3)) (kCons (dC (.str "left")) (dC (.int 1)) (kCons (dC (.str "mixed")) (dVar 1) (kCons (dC (.str "turn")) (dC (.int 0)) kNil)))))))))
def F_srcB : List P → M P := fnOf 1 4 (D_srcB )
def D_srcA : DS :=
    (sSeq (sSet 1 (dC (.int 11)))
    (sSeq (sFor (sOf (dVar 0)) (gName 2) (sSet 1 (dOp oMod (dCall (one bInt) (aCons (dOp oAdd (dOp oAdd (dOp oMul (dVar 1) (dC (.int 69069))) (dOp oMul (dVar 2) (dC (.int 31)))) (dC (.int 5))) aNil)) (dC (.int 2147483629)))))
    (sRet (dDict (kCons (dC (.str "cells")) (dNew (lRev (lComp (sOf (dVar 0)) (gName 2) tYes (dCall (one bAbs) (aCons (dVar 2) aNil)) [2]))) (kCons (dC (.str "left")) (dC (.int 1)) (kCons (dC (.str "mixed")) (dVar 1) (kCons (dC (.str "turn")) (dC (.int 0)) kNil))))))))
def F_srcA : List P → M P := fnOf 1 3 (D_srcA )
theorem last_int (cs : List Int) (h : 0 < cs.length) : (cs.map P.int)[cs.length - 1]? = some (.int (cs.getLast (List.length_pos_iff.mp h))) := by
  rw [List.getElem?_map, List.getLast_eq_getElem, List.getElem?_eq_getElem (by omega)]
  rfl
/-- a source, told whole -/
structure SrcAt (m : Hm) (n c : Nat) (l x t : Int) (cs : List Int) : Prop where
  ne : n ≠ c
  h1 : m[n]? = some (.dK (srcD c l x t))
  h2 : m[c]? = some (.lst (cs.map .int))
  hz : cs.length ≤ 63
theorem SrcAt.is {m : Hm} {n c : Nat} {l x t : Int} {cs : List Int} (h : SrcAt m n c l x t cs) : IsSrc m n c := ⟨h.ne, l, x, t, cs, h.h1, h.h2, h.hz⟩
theorem SrcAt.put {m : Hm} {n c : Nat} {l x t : Int} {cs : List Int} (h : SrcAt m n c l x t cs) (l' x' t' : Int) : SrcAt (m.set n (.dK (srcD c l' x' t'))) n c l' x' t' cs :=
  ⟨h.ne, set_get h.h1, by rw [List.getElem?_set_ne h.ne]; exact h.h2, h.hz⟩
theorem Fr.set2 {m m' : Hm} {n c : Nat} {o : O} (f : Fr [n, c] m m') : Fr [n, c] m (m'.set n o) := f.trans (Fr.set (by simp))
theorem SrcAt.pop {m : Hm} {n c : Nat} {l x t : Int} {cs : List Int} (h : SrcAt m n c l x t cs) : SrcAt (m.set c (.lst (List.map P.int cs).dropLast)) n c l x t cs.dropLast :=
  ⟨h.ne, by rw [List.getElem?_set_ne h.ne.symm]; exact h.h1, by rw [set_get h.h2, List.map_dropLast], by have := h.hz; simp; omega⟩
theorem Fr.setc {m m' : Hm} {n c : Nat} {o : O} (f : Fr [n, c] m m') : Fr [n, c] m (m'.set c o) := f.trans (Fr.set (by simp))
theorem szp : (4 : Nat) < SZ := by decide
theorem em_nn (a : Int) {k : Int} (h : 0 < k) : 0 ≤ a % k := Int.emod_nonneg _ (by omega)
theorem em_lt (a : Int) {k : Int} (h : 0 < k) : a % k < k := Int.emod_lt_of_pos _ h
theorem sq_ok {a k : Int} (h : 0 < k) (h' : k < 18446744073709551616) : cMul (a % k) (a % k) = true := cMul_left (by have := em_nn a h; have := em_lt a h; omega)
theorem pickB_ok {m : Hm} {n c : Nat} {k : Int} (h : IsSrc m n c) (hk : k < 18446744073709551616) : Ok (F_pickB [.ref n, .int k] m) (Drawn n c k m) := by
  obtain ⟨ne, l, x, t, cs, h1, h2, hz⟩ := h
  unfold F_pickB D_pickB
  simp only [ok_ok, ok_ret, ok_bnd, ok_when, ok_opt, ok_getO, ok_putO, ok_newO, ok_dVar, ok_dC, ok_aNil, ok_aCons, ok_dOp, ok_dUn, ok_dTup, ok_lLst, ok_dNew, ok_dIf, ok_dCall, ok_tVal, ok_asB, ok_tTru, ok_truth_bl, ok_truth_int, ok_truth_non, ok_truth_tup, ok_tYes, ok_tAnd, ok_tOr, ok_tNot, ok_dAnd, ok_dOr, ok_uNot, ok_dChain, ok_add_int, ok_add_tup, ok_add_str, ok_add_ref, ok_sub, ok_mul, ok_mul_lst, ok_mulT, ok_div, ok_mod, ok_pow, ok_shl, ok_shr, ok_band, ok_bor, ok_xor, ok_neg, ok_lt, ok_le, ok_gt, ok_ge, ok_asD, ok_eqD, ok_eq_int, ok_eq_str, ok_eq_bl, ok_eq_non, ok_eq_tup, ok_eq_ref, ok_eq_it, ok_eq_in, ok_eq_nt, ok_eq_ni, ok_ne_int, ok_ne_str, ok_ne_bl, ok_ne_non, ok_ne_tup, ok_ne_ref, ok_ne_it, ok_ne_in, ok_ne_nt, ok_ne_ni, ok_isN, ok_notN, ok_ix_tup, ok_ix_scr, ok_ix_ref, ok_pNone, ok_pSome, ok_dSl, ok_sl_tup, ok_sl_ref, ok_dRev, ok_rev_ref, ok_lRev, ok_one, ok_two, ok_abs, ok_bint, ok_bint_bl, ok_max2, ok_min2, ok_len_tup, ok_len_scr, ok_len_str, ok_len_ref, ok_btup_tup, ok_btup_scr, ok_btup_ref, ok_dL, ok_lThen, ok_dV, ok_lV, ok_dR, ok_items_tup, ok_items_scr, ok_items_ref, ok_itemsR_scr, ok_itemsR_ref, ok_lId, ok_nTup, ok_nLen, ok_nSum, ok_nAny, ok_nAll, ok_rg1, ok_asI, ok_rg2, ok_lRg, ok_dTupRg, ok_meth0, ok_meth1, ok_methL, ok_chkL, ok_append, ok_extend, ok_pop, ok_popO, ok_sOf, ok_srcOf_tup, ok_srcOf_scr, ok_srcOf_kt, ok_srcOf_ref, ok_sOfL, ok_sEnum, ok_enumOf_tup, ok_enumOf_ref, ok_sRange1, ok_sRange2, ok_gName, ok_gNil, ok_gCons, ok_gTup, oks_ok, oks_thn, oks_nx, oks_bk, oks_ct, oks_seq, oks_expr, oks_ret, oks_asg, oks_set, oks_par2, oks_par3, oks_if, oks_put, ok_setP, ok_putL, ok_fnOf, ok_dDict, ok_kNil, ok_kCons, ok_aStar, ok_star_tup, ok_star_ref, oks_for, ok_comp, scal_int, scal_str, scal_bl, scal_non, scal_tup, scal_ref, dat_int, dat_str, dat_bl, dat_non, dat_tup, ok_look, ok_store, ok_lookO_int, ok_lookO_str, ok_storeO_int, ok_storeO_str, ok_in, ok_notIn, List.getElem?_cons_zero, List.getElem?_cons_succ, List.set_cons_zero, List.set_cons_succ, List.length_cons, List.length_nil, List.map_cons, List.map_nil, List.replicate_succ, List.replicate_zero, List.cons_append, List.nil_append, Nat.reduceSub, Nat.reduceAdd, Nat.zero_add, true_and, and_true, decide_eq_true_eq, decide_eq_false_iff_not, Bool.not_eq_true', Bool.not_eq_false', forall_const, Bool.false_eq_true, Bool.true_eq_false, false_implies, true_implies, reduceCtorEq, Bool.not_true, Bool.not_false, wipeE, reduceIte, and_self, Option.some.injEq, exists_eq_left', exists_eq_left, List.getElem?_nil, List.length_map]
  refine ⟨fun h0 => ⟨0, rfl, by omega, by omega, ⟨ne, l, x, t, cs, h1, h2, hz⟩, Fr.refl _ _, rfl⟩, fun h0 => ?_⟩
  simp only [ok_ok, ok_ret, ok_bnd, ok_when, ok_opt, ok_getO, ok_putO, ok_newO, ok_dVar, ok_dC, ok_aNil, ok_aCons, ok_dOp, ok_dUn, ok_dTup, ok_lLst, ok_dNew, ok_dIf, ok_dCall, ok_tVal, ok_asB, ok_tTru, ok_truth_bl, ok_truth_int, ok_truth_non, ok_truth_tup, ok_tYes, ok_tAnd, ok_tOr, ok_tNot, ok_dAnd, ok_dOr, ok_uNot, ok_dChain, ok_add_int, ok_add_tup, ok_add_str, ok_add_ref, ok_sub, ok_mul, ok_mul_lst, ok_mulT, ok_div, ok_mod, ok_pow, ok_shl, ok_shr, ok_band, ok_bor, ok_xor, ok_neg, ok_lt, ok_le, ok_gt, ok_ge, ok_asD, ok_eqD, ok_eq_int, ok_eq_str, ok_eq_bl, ok_eq_non, ok_eq_tup, ok_eq_ref, ok_eq_it, ok_eq_in, ok_eq_nt, ok_eq_ni, ok_ne_int, ok_ne_str, ok_ne_bl, ok_ne_non, ok_ne_tup, ok_ne_ref, ok_ne_it, ok_ne_in, ok_ne_nt, ok_ne_ni, ok_isN, ok_notN, ok_ix_tup, ok_ix_scr, ok_ix_ref, ok_pNone, ok_pSome, ok_dSl, ok_sl_tup, ok_sl_ref, ok_dRev, ok_rev_ref, ok_lRev, ok_one, ok_two, ok_abs, ok_bint, ok_bint_bl, ok_max2, ok_min2, ok_len_tup, ok_len_scr, ok_len_str, ok_len_ref, ok_btup_tup, ok_btup_scr, ok_btup_ref, ok_dL, ok_lThen, ok_dV, ok_lV, ok_dR, ok_items_tup, ok_items_scr, ok_items_ref, ok_itemsR_scr, ok_itemsR_ref, ok_lId, ok_nTup, ok_nLen, ok_nSum, ok_nAny, ok_nAll, ok_rg1, ok_asI, ok_rg2, ok_lRg, ok_dTupRg, ok_meth0, ok_meth1, ok_methL, ok_chkL, ok_append, ok_extend, ok_pop, ok_popO, ok_sOf, ok_srcOf_tup, ok_srcOf_scr, ok_srcOf_kt, ok_srcOf_ref, ok_sOfL, ok_sEnum, ok_enumOf_tup, ok_enumOf_ref, ok_sRange1, ok_sRange2, ok_gName, ok_gNil, ok_gCons, ok_gTup, oks_ok, oks_thn, oks_nx, oks_bk, oks_ct, oks_seq, oks_expr, oks_ret, oks_asg, oks_set, oks_par2, oks_par3, oks_if, oks_put, ok_setP, ok_putL, ok_fnOf, ok_dDict, ok_kNil, ok_kCons, ok_aStar, ok_star_tup, ok_star_ref, oks_for, ok_comp, scal_int, scal_str, scal_bl, scal_non, scal_tup, scal_ref, dat_int, dat_str, dat_bl, dat_non, dat_tup, ok_look, ok_store, ok_lookO_int, ok_lookO_str, ok_storeO_int, ok_storeO_str, ok_in, ok_notIn, List.getElem?_cons_zero, List.getElem?_cons_succ, List.set_cons_zero, List.set_cons_succ, List.length_cons, List.length_nil, List.map_cons, List.map_nil, List.replicate_succ, List.replicate_zero, List.cons_append, List.nil_append, Nat.reduceSub, Nat.reduceAdd, Nat.zero_add, true_and, and_true, decide_eq_true_eq, decide_eq_false_iff_not, Bool.not_eq_true', Bool.not_eq_false', forall_const, Bool.false_eq_true, Bool.true_eq_false, false_implies, true_implies, reduceCtorEq, Bool.not_true, Bool.not_false, wipeE, reduceIte, and_self, Option.some.injEq, exists_eq_left', exists_eq_left, List.getElem?_nil, List.length_map, h1, key_str, src_cells]
  refine (while_inv (QF := fun f ρ m' => f = .nx ∧ ρ = [some (.ref n), some (.int k), some (.ref c), none, none, none] ∧ Fr [n, c] m m' ∧ m'.length = m.length ∧ ∃ l cs, SrcAt m' n c l x t cs) (fun j ρ m' => ρ = [some (.ref n), some (.int k), some (.ref c), none, none, none] ∧ Fr [n, c] m m' ∧ m'.length = m.length ∧ ∃ l cs, j = cs.length ∧ SrcAt m' n c l x t cs) ?_ FU cs.length _ _ ?_ ?_).mono ?_
  · rintro j ρ m' ⟨rfl, fr, hl, l, cs, rfl, S⟩
    simp only [ok_ok, ok_ret, ok_bnd, ok_when, ok_opt, ok_getO, ok_putO, ok_newO, ok_dVar, ok_dC, ok_aNil, ok_aCons, ok_dOp, ok_dUn, ok_dTup, ok_lLst, ok_dNew, ok_dIf, ok_dCall, ok_tVal, ok_asB, ok_tTru, ok_truth_bl, ok_truth_int, ok_truth_non, ok_truth_tup, ok_tYes, ok_tAnd, ok_tOr, ok_tNot, ok_dAnd, ok_dOr, ok_uNot, ok_dChain, ok_add_int, ok_add_tup, ok_add_str, ok_add_ref, ok_sub, ok_mul, ok_mul_lst, ok_mulT, ok_div, ok_mod, ok_pow, ok_shl, ok_shr, ok_band, ok_bor, ok_xor, ok_neg, ok_lt, ok_le, ok_gt, ok_ge, ok_asD, ok_eqD, ok_eq_int, ok_eq_str, ok_eq_bl, ok_eq_non, ok_eq_tup, ok_eq_ref, ok_eq_it, ok_eq_in, ok_eq_nt, ok_eq_ni, ok_ne_int, ok_ne_str, ok_ne_bl, ok_ne_non, ok_ne_tup, ok_ne_ref, ok_ne_it, ok_ne_in, ok_ne_nt, ok_ne_ni, ok_isN, ok_notN, ok_ix_tup, ok_ix_scr, ok_ix_ref, ok_pNone, ok_pSome, ok_dSl, ok_sl_tup, ok_sl_ref, ok_dRev, ok_rev_ref, ok_lRev, ok_one, ok_two, ok_abs, ok_bint, ok_bint_bl, ok_max2, ok_min2, ok_len_tup, ok_len_scr, ok_len_str, ok_len_ref, ok_btup_tup, ok_btup_scr, ok_btup_ref, ok_dL, ok_lThen, ok_dV, ok_lV, ok_dR, ok_items_tup, ok_items_scr, ok_items_ref, ok_itemsR_scr, ok_itemsR_ref, ok_lId, ok_nTup, ok_nLen, ok_nSum, ok_nAny, ok_nAll, ok_rg1, ok_asI, ok_rg2, ok_lRg, ok_dTupRg, ok_meth0, ok_meth1, ok_methL, ok_chkL, ok_append, ok_extend, ok_pop, ok_popO, ok_sOf, ok_srcOf_tup, ok_srcOf_scr, ok_srcOf_kt, ok_srcOf_ref, ok_sOfL, ok_sEnum, ok_enumOf_tup, ok_enumOf_ref, ok_sRange1, ok_sRange2, ok_gName, ok_gNil, ok_gCons, ok_gTup, oks_ok, oks_thn, oks_nx, oks_bk, oks_ct, oks_seq, oks_expr, oks_ret, oks_asg, oks_set, oks_par2, oks_par3, oks_if, oks_put, ok_setP, ok_putL, ok_fnOf, ok_dDict, ok_kNil, ok_kCons, ok_aStar, ok_star_tup, ok_star_ref, oks_for, ok_comp, scal_int, scal_str, scal_bl, scal_non, scal_tup, scal_ref, dat_int, dat_str, dat_bl, dat_non, dat_tup, ok_look, ok_store, ok_lookO_int, ok_lookO_str, ok_storeO_int, ok_storeO_str, ok_in, ok_notIn, List.getElem?_cons_zero, List.getElem?_cons_succ, List.set_cons_zero, List.set_cons_succ, List.length_cons, List.length_nil, List.map_cons, List.map_nil, List.replicate_succ, List.replicate_zero, List.cons_append, List.nil_append, Nat.reduceSub, Nat.reduceAdd, Nat.zero_add, true_and, and_true, decide_eq_true_eq, decide_eq_false_iff_not, Bool.not_eq_true', Bool.not_eq_false', forall_const, Bool.false_eq_true, Bool.true_eq_false, false_implies, true_implies, reduceCtorEq, Bool.not_true, Bool.not_false, wipeE, reduceIte, and_self, Option.some.injEq, exists_eq_left', exists_eq_left, List.getElem?_nil, List.length_map, S.h1, S.h2, src_left]
    have fin : Fr [n, c] m m' ∧ List.length m' = List.length m ∧ ∃ l cs, SrcAt m' n c l x t cs := ⟨fr, hl, l, cs, S⟩
    refine ⟨fun _ => ⟨fun hp => ?_, fun _ => fin⟩, fun _ => fin⟩
    have hp : 0 < cs.length := by omega
    refine ⟨_, last_int cs hp, ?_⟩
    simp only [ok_ok, ok_ret, ok_bnd, ok_when, ok_opt, ok_getO, ok_putO, ok_newO, ok_dVar, ok_dC, ok_aNil, ok_aCons, ok_dOp, ok_dUn, ok_dTup, ok_lLst, ok_dNew, ok_dIf, ok_dCall, ok_tVal, ok_asB, ok_tTru, ok_truth_bl, ok_truth_int, ok_truth_non, ok_truth_tup, ok_tYes, ok_tAnd, ok_tOr, ok_tNot, ok_dAnd, ok_dOr, ok_uNot, ok_dChain, ok_add_int, ok_add_tup, ok_add_str, ok_add_ref, ok_sub, ok_mul, ok_mul_lst, ok_mulT, ok_div, ok_mod, ok_pow, ok_shl, ok_shr, ok_band, ok_bor, ok_xor, ok_neg, ok_lt, ok_le, ok_gt, ok_ge, ok_asD, ok_eqD, ok_eq_int, ok_eq_str, ok_eq_bl, ok_eq_non, ok_eq_tup, ok_eq_ref, ok_eq_it, ok_eq_in, ok_eq_nt, ok_eq_ni, ok_ne_int, ok_ne_str, ok_ne_bl, ok_ne_non, ok_ne_tup, ok_ne_ref, ok_ne_it, ok_ne_in, ok_ne_nt, ok_ne_ni, ok_isN, ok_notN, ok_ix_tup, ok_ix_scr, ok_ix_ref, ok_pNone, ok_pSome, ok_dSl, ok_sl_tup, ok_sl_ref, ok_dRev, ok_rev_ref, ok_lRev, ok_one, ok_two, ok_abs, ok_bint, ok_bint_bl, ok_max2, ok_min2, ok_len_tup, ok_len_scr, ok_len_str, ok_len_ref, ok_btup_tup, ok_btup_scr, ok_btup_ref, ok_dL, ok_lThen, ok_dV, ok_lV, ok_dR, ok_items_tup, ok_items_scr, ok_items_ref, ok_itemsR_scr, ok_itemsR_ref, ok_lId, ok_nTup, ok_nLen, ok_nSum, ok_nAny, ok_nAll, ok_rg1, ok_asI, ok_rg2, ok_lRg, ok_dTupRg, ok_meth0, ok_meth1, ok_methL, ok_chkL, ok_append, ok_extend, ok_pop, ok_popO, ok_sOf, ok_srcOf_tup, ok_srcOf_scr, ok_srcOf_kt, ok_srcOf_ref, ok_sOfL, ok_sEnum, ok_enumOf_tup, ok_enumOf_ref, ok_sRange1, ok_sRange2, ok_gName, ok_gNil, ok_gCons, ok_gTup, oks_ok, oks_thn, oks_nx, oks_bk, oks_ct, oks_seq, oks_expr, oks_ret, oks_asg, oks_set, oks_par2, oks_par3, oks_if, oks_put, ok_setP, ok_putL, ok_fnOf, ok_dDict, ok_kNil, ok_kCons, ok_aStar, ok_star_tup, ok_star_ref, oks_for, ok_comp, scal_int, scal_str, scal_bl, scal_non, scal_tup, scal_ref, dat_int, dat_str, dat_bl, dat_non, dat_tup, ok_look, ok_store, ok_lookO_int, ok_lookO_str, ok_storeO_int, ok_storeO_str, ok_in, ok_notIn, List.getElem?_cons_zero, List.getElem?_cons_succ, List.set_cons_zero, List.set_cons_succ, List.length_cons, List.length_nil, List.map_cons, List.map_nil, List.replicate_succ, List.replicate_zero, List.cons_append, List.nil_append, Nat.reduceSub, Nat.reduceAdd, Nat.zero_add, true_and, and_true, decide_eq_true_eq, decide_eq_false_iff_not, Bool.not_eq_true', Bool.not_eq_false', forall_const, Bool.false_eq_true, Bool.true_eq_false, false_implies, true_implies, reduceCtorEq, Bool.not_true, Bool.not_false, wipeE, reduceIte, and_self, Option.some.injEq, exists_eq_left', exists_eq_left, List.getElem?_nil, List.length_map, S.pop.h1, put_left]
    exact ⟨szp, cs.length - 1, by omega, fr.setc.set2, by simpa using hl, _, cs.dropLast, by simp, S.pop.put _ _ _⟩
  · exact Nat.lt_of_le_of_lt hz (by decide)
  · exact ⟨rfl, Fr.refl _ _, rfl, l, cs, rfl, ne, h1, h2, hz⟩
  · rintro f ρ m' ⟨rfl, rfl, fr, hl, l, cs, S⟩
    simp only [ok_ok, ok_ret, ok_bnd, ok_when, ok_opt, ok_getO, ok_putO, ok_newO, ok_dVar, ok_dC, ok_aNil, ok_aCons, ok_dOp, ok_dUn, ok_dTup, ok_lLst, ok_dNew, ok_dIf, ok_dCall, ok_tVal, ok_asB, ok_tTru, ok_truth_bl, ok_truth_int, ok_truth_non, ok_truth_tup, ok_tYes, ok_tAnd, ok_tOr, ok_tNot, ok_dAnd, ok_dOr, ok_uNot, ok_dChain, ok_add_int, ok_add_tup, ok_add_str, ok_add_ref, ok_sub, ok_mul, ok_mul_lst, ok_mulT, ok_div, ok_mod, ok_pow, ok_shl, ok_shr, ok_band, ok_bor, ok_xor, ok_neg, ok_lt, ok_le, ok_gt, ok_ge, ok_asD, ok_eqD, ok_eq_int, ok_eq_str, ok_eq_bl, ok_eq_non, ok_eq_tup, ok_eq_ref, ok_eq_it, ok_eq_in, ok_eq_nt, ok_eq_ni, ok_ne_int, ok_ne_str, ok_ne_bl, ok_ne_non, ok_ne_tup, ok_ne_ref, ok_ne_it, ok_ne_in, ok_ne_nt, ok_ne_ni, ok_isN, ok_notN, ok_ix_tup, ok_ix_scr, ok_ix_ref, ok_pNone, ok_pSome, ok_dSl, ok_sl_tup, ok_sl_ref, ok_dRev, ok_rev_ref, ok_lRev, ok_one, ok_two, ok_abs, ok_bint, ok_bint_bl, ok_max2, ok_min2, ok_len_tup, ok_len_scr, ok_len_str, ok_len_ref, ok_btup_tup, ok_btup_scr, ok_btup_ref, ok_dL, ok_lThen, ok_dV, ok_lV, ok_dR, ok_items_tup, ok_items_scr, ok_items_ref, ok_itemsR_scr, ok_itemsR_ref, ok_lId, ok_nTup, ok_nLen, ok_nSum, ok_nAny, ok_nAll, ok_rg1, ok_asI, ok_rg2, ok_lRg, ok_dTupRg, ok_meth0, ok_meth1, ok_methL, ok_chkL, ok_append, ok_extend, ok_pop, ok_popO, ok_sOf, ok_srcOf_tup, ok_srcOf_scr, ok_srcOf_kt, ok_srcOf_ref, ok_sOfL, ok_sEnum, ok_enumOf_tup, ok_enumOf_ref, ok_sRange1, ok_sRange2, ok_gName, ok_gNil, ok_gCons, ok_gTup, oks_ok, oks_thn, oks_nx, oks_bk, oks_ct, oks_seq, oks_expr, oks_ret, oks_asg, oks_set, oks_par2, oks_par3, oks_if, oks_put, ok_setP, ok_putL, ok_fnOf, ok_dDict, ok_kNil, ok_kCons, ok_aStar, ok_star_tup, ok_star_ref, oks_for, ok_comp, scal_int, scal_str, scal_bl, scal_non, scal_tup, scal_ref, dat_int, dat_str, dat_bl, dat_non, dat_tup, ok_look, ok_store, ok_lookO_int, ok_lookO_str, ok_storeO_int, ok_storeO_str, ok_in, ok_notIn, List.getElem?_cons_zero, List.getElem?_cons_succ, List.set_cons_zero, List.set_cons_succ, List.length_cons, List.length_nil, List.map_cons, List.map_nil, List.replicate_succ, List.replicate_zero, List.cons_append, List.nil_append, Nat.reduceSub, Nat.reduceAdd, Nat.zero_add, true_and, and_true, decide_eq_true_eq, decide_eq_false_iff_not, Bool.not_eq_true', Bool.not_eq_false', forall_const, Bool.false_eq_true, Bool.true_eq_false, false_implies, true_implies, reduceCtorEq, Bool.not_true, Bool.not_false, wipeE, reduceIte, and_self, Option.some.injEq, exists_eq_left', exists_eq_left, List.getElem?_nil, List.length_map, S.h1, src_left, src_turn, put_left, put_turn, (S.put _ _ _).h1, src_mixed]
    refine ⟨fun h1 => ⟨⟨by omega, hk⟩, szp, by omega, _, rfl, em_nn _ (by omega), .inl (em_lt _ (by omega)), (S.put _ _ _).is, fr.set2, by simpa using hl⟩, fun h1 => ⟨szp, cMul_right (by decide), by omega, sq_ok (by decide) (by decide), cMul_right (by decide), by decide, by decide, by omega, _, rfl, em_nn _ (by omega), .inl (em_lt _ (by omega)), (S.put _ _ _).is, fr.set2, by simpa using hl⟩⟩
theorem pickA_ok {m : Hm} {n c : Nat} {k : Int} (h : IsSrc m n c) (hk : k < 18446744073709551616) : Ok (F_pickA [.ref n, .int k] m) (Drawn n c k m) := by
  obtain ⟨ne, l, x, t, cs, h1, h2, hz⟩ := h
  unfold F_pickA D_pickA
  simp only [ok_ok, ok_ret, ok_bnd, ok_when, ok_opt, ok_getO, ok_putO, ok_newO, ok_dVar, ok_dC, ok_aNil, ok_aCons, ok_dOp, ok_dUn, ok_dTup, ok_lLst, ok_dNew, ok_dIf, ok_dCall, ok_tVal, ok_asB, ok_tTru, ok_truth_bl, ok_truth_int, ok_truth_non, ok_truth_tup, ok_tYes, ok_tAnd, ok_tOr, ok_tNot, ok_dAnd, ok_dOr, ok_uNot, ok_dChain, ok_add_int, ok_add_tup, ok_add_str, ok_add_ref, ok_sub, ok_mul, ok_mul_lst, ok_mulT, ok_div, ok_mod, ok_pow, ok_shl, ok_shr, ok_band, ok_bor, ok_xor, ok_neg, ok_lt, ok_le, ok_gt, ok_ge, ok_asD, ok_eqD, ok_eq_int, ok_eq_str, ok_eq_bl, ok_eq_non, ok_eq_tup, ok_eq_ref, ok_eq_it, ok_eq_in, ok_eq_nt, ok_eq_ni, ok_ne_int, ok_ne_str, ok_ne_bl, ok_ne_non, ok_ne_tup, ok_ne_ref, ok_ne_it, ok_ne_in, ok_ne_nt, ok_ne_ni, ok_isN, ok_notN, ok_ix_tup, ok_ix_scr, ok_ix_ref, ok_pNone, ok_pSome, ok_dSl, ok_sl_tup, ok_sl_ref, ok_dRev, ok_rev_ref, ok_lRev, ok_one, ok_two, ok_abs, ok_bint, ok_bint_bl, ok_max2, ok_min2, ok_len_tup, ok_len_scr, ok_len_str, ok_len_ref, ok_btup_tup, ok_btup_scr, ok_btup_ref, ok_dL, ok_lThen, ok_dV, ok_lV, ok_dR, ok_items_tup, ok_items_scr, ok_items_ref, ok_itemsR_scr, ok_itemsR_ref, ok_lId, ok_nTup, ok_nLen, ok_nSum, ok_nAny, ok_nAll, ok_rg1, ok_asI, ok_rg2, ok_lRg, ok_dTupRg, ok_meth0, ok_meth1, ok_methL, ok_chkL, ok_append, ok_extend, ok_pop, ok_popO, ok_sOf, ok_srcOf_tup, ok_srcOf_scr, ok_srcOf_kt, ok_srcOf_ref, ok_sOfL, ok_sEnum, ok_enumOf_tup, ok_enumOf_ref, ok_sRange1, ok_sRange2, ok_gName, ok_gNil, ok_gCons, ok_gTup, oks_ok, oks_thn, oks_nx, oks_bk, oks_ct, oks_seq, oks_expr, oks_ret, oks_asg, oks_set, oks_par2, oks_par3, oks_if, oks_put, ok_setP, ok_putL, ok_fnOf, ok_dDict, ok_kNil, ok_kCons, ok_aStar, ok_star_tup, ok_star_ref, oks_for, ok_comp, scal_int, scal_str, scal_bl, scal_non, scal_tup, scal_ref, dat_int, dat_str, dat_bl, dat_non, dat_tup, ok_look, ok_store, ok_lookO_int, ok_lookO_str, ok_storeO_int, ok_storeO_str, ok_in, ok_notIn, List.getElem?_cons_zero, List.getElem?_cons_succ, List.set_cons_zero, List.set_cons_succ, List.length_cons, List.length_nil, List.map_cons, List.map_nil, List.replicate_succ, List.replicate_zero, List.cons_append, List.nil_append, Nat.reduceSub, Nat.reduceAdd, Nat.zero_add, true_and, and_true, decide_eq_true_eq, decide_eq_false_iff_not, Bool.not_eq_true', Bool.not_eq_false', forall_const, Bool.false_eq_true, Bool.true_eq_false, false_implies, true_implies, reduceCtorEq, Bool.not_true, Bool.not_false, wipeE, reduceIte, and_self, Option.some.injEq, exists_eq_left', exists_eq_left, List.getElem?_nil, List.length_map]
  refine (while_inv (QF := fun f ρ m' => f = .nx ∧ ρ = [some (.ref n), some (.int k), none, none] ∧ Fr [n, c] m m' ∧ m'.length = m.length ∧ ∃ l cs, SrcAt m' n c l x t cs) (fun j ρ m' => ρ = [some (.ref n), some (.int k), none, none] ∧ Fr [n, c] m m' ∧ m'.length = m.length ∧ ∃ l cs, j = cs.length ∧ SrcAt m' n c l x t cs) ?_ FU cs.length _ _ ?_ ?_).mono ?_
  · rintro j ρ m' ⟨rfl, fr, hl, l, cs, rfl, S⟩
    simp only [ok_ok, ok_ret, ok_bnd, ok_when, ok_opt, ok_getO, ok_putO, ok_newO, ok_dVar, ok_dC, ok_aNil, ok_aCons, ok_dOp, ok_dUn, ok_dTup, ok_lLst, ok_dNew, ok_dIf, ok_dCall, ok_tVal, ok_asB, ok_tTru, ok_truth_bl, ok_truth_int, ok_truth_non, ok_truth_tup, ok_tYes, ok_tAnd, ok_tOr, ok_tNot, ok_dAnd, ok_dOr, ok_uNot, ok_dChain, ok_add_int, ok_add_tup, ok_add_str, ok_add_ref, ok_sub, ok_mul, ok_mul_lst, ok_mulT, ok_div, ok_mod, ok_pow, ok_shl, ok_shr, ok_band, ok_bor, ok_xor, ok_neg, ok_lt, ok_le, ok_gt, ok_ge, ok_asD, ok_eqD, ok_eq_int, ok_eq_str, ok_eq_bl, ok_eq_non, ok_eq_tup, ok_eq_ref, ok_eq_it, ok_eq_in, ok_eq_nt, ok_eq_ni, ok_ne_int, ok_ne_str, ok_ne_bl, ok_ne_non, ok_ne_tup, ok_ne_ref, ok_ne_it, ok_ne_in, ok_ne_nt, ok_ne_ni, ok_isN, ok_notN, ok_ix_tup, ok_ix_scr, ok_ix_ref, ok_pNone, ok_pSome, ok_dSl, ok_sl_tup, ok_sl_ref, ok_dRev, ok_rev_ref, ok_lRev, ok_one, ok_two, ok_abs, ok_bint, ok_bint_bl, ok_max2, ok_min2, ok_len_tup, ok_len_scr, ok_len_str, ok_len_ref, ok_btup_tup, ok_btup_scr, ok_btup_ref, ok_dL, ok_lThen, ok_dV, ok_lV, ok_dR, ok_items_tup, ok_items_scr, ok_items_ref, ok_itemsR_scr, ok_itemsR_ref, ok_lId, ok_nTup, ok_nLen, ok_nSum, ok_nAny, ok_nAll, ok_rg1, ok_asI, ok_rg2, ok_lRg, ok_dTupRg, ok_meth0, ok_meth1, ok_methL, ok_chkL, ok_append, ok_extend, ok_pop, ok_popO, ok_sOf, ok_srcOf_tup, ok_srcOf_scr, ok_srcOf_kt, ok_srcOf_ref, ok_sOfL, ok_sEnum, ok_enumOf_tup, ok_enumOf_ref, ok_sRange1, ok_sRange2, ok_gName, ok_gNil, ok_gCons, ok_gTup, oks_ok, oks_thn, oks_nx, oks_bk, oks_ct, oks_seq, oks_expr, oks_ret, oks_asg, oks_set, oks_par2, oks_par3, oks_if, oks_put, ok_setP, ok_putL, ok_fnOf, ok_dDict, ok_kNil, ok_kCons, ok_aStar, ok_star_tup, ok_star_ref, oks_for, ok_comp, scal_int, scal_str, scal_bl, scal_non, scal_tup, scal_ref, dat_int, dat_str, dat_bl, dat_non, dat_tup, ok_look, ok_store, ok_lookO_int, ok_lookO_str, ok_storeO_int, ok_storeO_str, ok_in, ok_notIn, List.getElem?_cons_zero, List.getElem?_cons_succ, List.set_cons_zero, List.set_cons_succ, List.length_cons, List.length_nil, List.map_cons, List.map_nil, List.replicate_succ, List.replicate_zero, List.cons_append, List.nil_append, Nat.reduceSub, Nat.reduceAdd, Nat.zero_add, true_and, and_true, decide_eq_true_eq, decide_eq_false_iff_not, Bool.not_eq_true', Bool.not_eq_false', forall_const, Bool.false_eq_true, Bool.true_eq_false, false_implies, true_implies, reduceCtorEq, Bool.not_true, Bool.not_false, wipeE, reduceIte, and_self, Option.some.injEq, exists_eq_left', exists_eq_left, List.getElem?_nil, List.length_map, S.h1, S.h2, src_left, src_cells]
    have fin : Fr [n, c] m m' ∧ List.length m' = List.length m ∧ ∃ l cs, SrcAt m' n c l x t cs := ⟨fr, hl, l, cs, S⟩
    refine ⟨fun _ => ⟨fun _ => ⟨fun hp => ?_, fun _ => fin⟩, fun _ => fin⟩, fun _ => fin⟩
    have hp : 0 < cs.length := by omega
    refine ⟨_, last_int cs hp, ?_⟩
    simp only [ok_ok, ok_ret, ok_bnd, ok_when, ok_opt, ok_getO, ok_putO, ok_newO, ok_dVar, ok_dC, ok_aNil, ok_aCons, ok_dOp, ok_dUn, ok_dTup, ok_lLst, ok_dNew, ok_dIf, ok_dCall, ok_tVal, ok_asB, ok_tTru, ok_truth_bl, ok_truth_int, ok_truth_non, ok_truth_tup, ok_tYes, ok_tAnd, ok_tOr, ok_tNot, ok_dAnd, ok_dOr, ok_uNot, ok_dChain, ok_add_int, ok_add_tup, ok_add_str, ok_add_ref, ok_sub, ok_mul, ok_mul_lst, ok_mulT, ok_div, ok_mod, ok_pow, ok_shl, ok_shr, ok_band, ok_bor, ok_xor, ok_neg, ok_lt, ok_le, ok_gt, ok_ge, ok_asD, ok_eqD, ok_eq_int, ok_eq_str, ok_eq_bl, ok_eq_non, ok_eq_tup, ok_eq_ref, ok_eq_it, ok_eq_in, ok_eq_nt, ok_eq_ni, ok_ne_int, ok_ne_str, ok_ne_bl, ok_ne_non, ok_ne_tup, ok_ne_ref, ok_ne_it, ok_ne_in, ok_ne_nt, ok_ne_ni, ok_isN, ok_notN, ok_ix_tup, ok_ix_scr, ok_ix_ref, ok_pNone, ok_pSome, ok_dSl, ok_sl_tup, ok_sl_ref, ok_dRev, ok_rev_ref, ok_lRev, ok_one, ok_two, ok_abs, ok_bint, ok_bint_bl, ok_max2, ok_min2, ok_len_tup, ok_len_scr, ok_len_str, ok_len_ref, ok_btup_tup, ok_btup_scr, ok_btup_ref, ok_dL, ok_lThen, ok_dV, ok_lV, ok_dR, ok_items_tup, ok_items_scr, ok_items_ref, ok_itemsR_scr, ok_itemsR_ref, ok_lId, ok_nTup, ok_nLen, ok_nSum, ok_nAny, ok_nAll, ok_rg1, ok_asI, ok_rg2, ok_lRg, ok_dTupRg, ok_meth0, ok_meth1, ok_methL, ok_chkL, ok_append, ok_extend, ok_pop, ok_popO, ok_sOf, ok_srcOf_tup, ok_srcOf_scr, ok_srcOf_kt, ok_srcOf_ref, ok_sOfL, ok_sEnum, ok_enumOf_tup, ok_enumOf_ref, ok_sRange1, ok_sRange2, ok_gName, ok_gNil, ok_gCons, ok_gTup, oks_ok, oks_thn, oks_nx, oks_bk, oks_ct, oks_seq, oks_expr, oks_ret, oks_asg, oks_set, oks_par2, oks_par3, oks_if, oks_put, ok_setP, ok_putL, ok_fnOf, ok_dDict, ok_kNil, ok_kCons, ok_aStar, ok_star_tup, ok_star_ref, oks_for, ok_comp, scal_int, scal_str, scal_bl, scal_non, scal_tup, scal_ref, dat_int, dat_str, dat_bl, dat_non, dat_tup, ok_look, ok_store, ok_lookO_int, ok_lookO_str, ok_storeO_int, ok_storeO_str, ok_in, ok_notIn, List.getElem?_cons_zero, List.getElem?_cons_succ, List.set_cons_zero, List.set_cons_succ, List.length_cons, List.length_nil, List.map_cons, List.map_nil, List.replicate_succ, List.replicate_zero, List.cons_append, List.nil_append, Nat.reduceSub, Nat.reduceAdd, Nat.zero_add, true_and, and_true, decide_eq_true_eq, decide_eq_false_iff_not, Bool.not_eq_true', Bool.not_eq_false', forall_const, Bool.false_eq_true, Bool.true_eq_false, false_implies, true_implies, reduceCtorEq, Bool.not_true, Bool.not_false, wipeE, reduceIte, and_self, Option.some.injEq, exists_eq_left', exists_eq_left, List.getElem?_nil, List.length_map, S.pop.h1, put_left]
    exact ⟨szp, cs.length - 1, by omega, fr.setc.set2, by simpa using hl, _, cs.dropLast, by simp, S.pop.put _ _ _⟩
  · exact Nat.lt_of_le_of_lt hz (by decide)
  · exact ⟨rfl, Fr.refl _ _, rfl, l, cs, rfl, ne, h1, h2, hz⟩
  · rintro f ρ m' ⟨rfl, rfl, fr, hl, l, cs, S⟩
    simp only [ok_ok, ok_ret, ok_bnd, ok_when, ok_opt, ok_getO, ok_putO, ok_newO, ok_dVar, ok_dC, ok_aNil, ok_aCons, ok_dOp, ok_dUn, ok_dTup, ok_lLst, ok_dNew, ok_dIf, ok_dCall, ok_tVal, ok_asB, ok_tTru, ok_truth_bl, ok_truth_int, ok_truth_non, ok_truth_tup, ok_tYes, ok_tAnd, ok_tOr, ok_tNot, ok_dAnd, ok_dOr, ok_uNot, ok_dChain, ok_add_int, ok_add_tup, ok_add_str, ok_add_ref, ok_sub, ok_mul, ok_mul_lst, ok_mulT, ok_div, ok_mod, ok_pow, ok_shl, ok_shr, ok_band, ok_bor, ok_xor, ok_neg, ok_lt, ok_le, ok_gt, ok_ge, ok_asD, ok_eqD, ok_eq_int, ok_eq_str, ok_eq_bl, ok_eq_non, ok_eq_tup, ok_eq_ref, ok_eq_it, ok_eq_in, ok_eq_nt, ok_eq_ni, ok_ne_int, ok_ne_str, ok_ne_bl, ok_ne_non, ok_ne_tup, ok_ne_ref, ok_ne_it, ok_ne_in, ok_ne_nt, ok_ne_ni, ok_isN, ok_notN, ok_ix_tup, ok_ix_scr, ok_ix_ref, ok_pNone, ok_pSome, ok_dSl, ok_sl_tup, ok_sl_ref, ok_dRev, ok_rev_ref, ok_lRev, ok_one, ok_two, ok_abs, ok_bint, ok_bint_bl, ok_max2, ok_min2, ok_len_tup, ok_len_scr, ok_len_str, ok_len_ref, ok_btup_tup, ok_btup_scr, ok_btup_ref, ok_dL, ok_lThen, ok_dV, ok_lV, ok_dR, ok_items_tup, ok_items_scr, ok_items_ref, ok_itemsR_scr, ok_itemsR_ref, ok_lId, ok_nTup, ok_nLen, ok_nSum, ok_nAny, ok_nAll, ok_rg1, ok_asI, ok_rg2, ok_lRg, ok_dTupRg, ok_meth0, ok_meth1, ok_methL, ok_chkL, ok_append, ok_extend, ok_pop, ok_popO, ok_sOf, ok_srcOf_tup, ok_srcOf_scr, ok_srcOf_kt, ok_srcOf_ref, ok_sOfL, ok_sEnum, ok_enumOf_tup, ok_enumOf_ref, ok_sRange1, ok_sRange2, ok_gName, ok_gNil, ok_gCons, ok_gTup, oks_ok, oks_thn, oks_nx, oks_bk, oks_ct, oks_seq, oks_expr, oks_ret, oks_asg, oks_set, oks_par2, oks_par3, oks_if, oks_put, ok_setP, ok_putL, ok_fnOf, ok_dDict, ok_kNil, ok_kCons, ok_aStar, ok_star_tup, ok_star_ref, oks_for, ok_comp, scal_int, scal_str, scal_bl, scal_non, scal_tup, scal_ref, dat_int, dat_str, dat_bl, dat_non, dat_tup, ok_look, ok_store, ok_lookO_int, ok_lookO_str, ok_storeO_int, ok_storeO_str, ok_in, ok_notIn, List.getElem?_cons_zero, List.getElem?_cons_succ, List.set_cons_zero, List.set_cons_succ, List.length_cons, List.length_nil, List.map_cons, List.map_nil, List.replicate_succ, List.replicate_zero, List.cons_append, List.nil_append, Nat.reduceSub, Nat.reduceAdd, Nat.zero_add, true_and, and_true, decide_eq_true_eq, decide_eq_false_iff_not, Bool.not_eq_true', Bool.not_eq_false', forall_const, Bool.false_eq_true, Bool.true_eq_false, false_implies, true_implies, reduceCtorEq, Bool.not_true, Bool.not_false, wipeE, reduceIte, and_self, Option.some.injEq, exists_eq_left', exists_eq_left, List.getElem?_nil, List.length_map, S.h1, src_left, src_turn, put_left, put_turn, put_mixed, (S.put _ _ _).h1, ((S.put _ _ _).put _ _ _).h1, src_mixed]
    have hm : ∀ a : Int, 0 ≤ a % (if k > 1 then k else 1) ∧ (a % (if k > 1 then k else 1) < k ∨ a % (if k > 1 then k else 1) = 0) := fun a => by
      split
      · exact ⟨em_nn _ (by omega), .inl (em_lt _ (by omega))⟩
      · rw [Int.emod_one]; omega
    have hk1 : 0 < (if k > 1 then k else 1) := by split <;> omega
    have hk2 : (if k > 1 then k else 1) < 18446744073709551616 := by split <;> omega
    have e1 : ∀ y : Int, Drawn n c k m (.int (l % (if k > 1 then k else 1))) (m'.set n (.dK (srcD c y x t))) := fun y => ⟨_, rfl, (hm _).1, (hm _).2, (S.put _ _ _).is, fr.set2, by simpa using hl⟩
    refine ⟨fun _ => ⟨⟨hk1, hk2⟩, szp, hk1, e1 _⟩, fun h0 => ⟨fun h1 => ⟨⟨hk1, hk2⟩, szp, hk1, e1 _⟩, fun h1 => ⟨szp, cMul_right (by decide), by decide, sq_ok (by decide) (by decide), cMul_right (by decide), by decide, szp, by decide, by omega, _, rfl, em_nn _ (by omega), .inl (em_lt _ (by omega)), ((S.put _ _ _).put _ _ _).is, fr.set2.set2, by simpa using hl⟩⟩⟩
/-! ### indices -/
theorem atI_nat {α : Type} (xs : List α) (i : Nat) (h : i < xs.length) : L2.atI xs (i : Int) = some xs[i] := by
  unfold L2.atI L2.ixN
  rw [if_pos (by omega), if_pos (by omega)]
  simp [h]
theorem atI_pos {α : Type} (xs : List α) (i : Int) (h0 : 0 ≤ i) (h : i < xs.length) : ∃ x, xs[i.toNat]? = some x ∧ L2.atI xs i = some x ∧ x ∈ xs := by
  obtain ⟨n, rfl⟩ := Int.eq_ofNat_of_zero_le h0
  have hn : n < xs.length := by omega
  exact ⟨xs[n], by simp [hn], atI_nat xs n hn, List.getElem_mem hn⟩
theorem atI_last {α : Type} (xs : List α) (h : xs ≠ []) : L2.atI xs (-1) = some (xs.getLast h) := by
  have hl := List.length_pos_iff.mpr h
  unfold L2.atI L2.ixN
  rw [if_neg (by omega), if_pos (by omega)]
  have e : ((-1 : Int) + (xs.length : Int)).toNat = xs.length - 1 := by omega
  rw [e, List.getLast_eq_getElem]
  simp [hl]
theorem mapO_map {α β γ : Type} (f : α → β) (g : β → Option γ) (h : α → γ) (l : List α) (H : ∀ a ∈ l, g (f a) = some (h a)) : mapO g (l.map f) = some (l.map h) := by
  induction l with
  | nil => rfl
  | cons a l ih =>
    show (match g (f a) with | some d => _ | none => none) = _
    rw [H a (by simp), ih fun b hb => H b (by simp [hb])]
    rfl
/-- pick's promise -/
def Pick (pk : List P → M P) : Prop := ∀ (m : Hm) (n c : Nat) (k : Int), IsSrc m n c → k < 18446744073709551616 → Ok (pk [.ref n, .int k] m) (Drawn n c k m)
theorem pickB_pk : Pick F_pickB := fun _ _ _ _ h hk => pickB_ok h hk
theorem pickA_pk : Pick F_pickA := fun _ _ _ _ h hk => pickA_ok h hk
/-- one of some drawn -/
theorem of_lst {pk : List P → M P} (hp : Pick pk) {m : Hm} {n c j : Nat} {ps : List P} (h : IsSrc m n c) (hj : m[j]? = some (.lst ps)) (h0 : ps ≠ []) (hz : ps.length ≤ SZ) (hcj : j ≠ c) :
    Ok (F_of pk [.ref n, .ref j] m) fun p m' => p ∈ ps ∧ IsSrc m' n c ∧ Fr [n, c] m m' ∧ m'.length = m.length := by
  obtain ⟨ne, l, x, t, cs, h1, h2, hc⟩ := id h
  unfold F_of D_of
  simp only [ok_ok, ok_ret, ok_bnd, ok_when, ok_opt, ok_getO, ok_putO, ok_newO, ok_dVar, ok_dC, ok_aNil, ok_aCons, ok_dOp, ok_dUn, ok_dTup, ok_lLst, ok_dNew, ok_dIf, ok_dCall, ok_tVal, ok_asB, ok_tTru, ok_truth_bl, ok_truth_int, ok_truth_non, ok_truth_tup, ok_tYes, ok_tAnd, ok_tOr, ok_tNot, ok_dAnd, ok_dOr, ok_uNot, ok_dChain, ok_add_int, ok_add_tup, ok_add_str, ok_add_ref, ok_sub, ok_mul, ok_mul_lst, ok_mulT, ok_div, ok_mod, ok_pow, ok_shl, ok_shr, ok_band, ok_bor, ok_xor, ok_neg, ok_lt, ok_le, ok_gt, ok_ge, ok_asD, ok_eqD, ok_eq_int, ok_eq_str, ok_eq_bl, ok_eq_non, ok_eq_tup, ok_eq_ref, ok_eq_it, ok_eq_in, ok_eq_nt, ok_eq_ni, ok_ne_int, ok_ne_str, ok_ne_bl, ok_ne_non, ok_ne_tup, ok_ne_ref, ok_ne_it, ok_ne_in, ok_ne_nt, ok_ne_ni, ok_isN, ok_notN, ok_ix_tup, ok_ix_scr, ok_ix_ref, ok_pNone, ok_pSome, ok_dSl, ok_sl_tup, ok_sl_ref, ok_dRev, ok_rev_ref, ok_lRev, ok_one, ok_two, ok_abs, ok_bint, ok_bint_bl, ok_max2, ok_min2, ok_len_tup, ok_len_scr, ok_len_str, ok_len_ref, ok_btup_tup, ok_btup_scr, ok_btup_ref, ok_dL, ok_lThen, ok_dV, ok_lV, ok_dR, ok_items_tup, ok_items_scr, ok_items_ref, ok_itemsR_scr, ok_itemsR_ref, ok_lId, ok_nTup, ok_nLen, ok_nSum, ok_nAny, ok_nAll, ok_rg1, ok_asI, ok_rg2, ok_lRg, ok_dTupRg, ok_meth0, ok_meth1, ok_methL, ok_chkL, ok_append, ok_extend, ok_pop, ok_popO, ok_sOf, ok_srcOf_tup, ok_srcOf_scr, ok_srcOf_kt, ok_srcOf_ref, ok_sOfL, ok_sEnum, ok_enumOf_tup, ok_enumOf_ref, ok_sRange1, ok_sRange2, ok_gName, ok_gNil, ok_gCons, ok_gTup, oks_ok, oks_thn, oks_nx, oks_bk, oks_ct, oks_seq, oks_expr, oks_ret, oks_asg, oks_set, oks_par2, oks_par3, oks_if, oks_put, ok_setP, ok_putL, ok_fnOf, ok_dDict, ok_kNil, ok_kCons, ok_aStar, ok_star_tup, ok_star_ref, oks_for, ok_comp, scal_int, scal_str, scal_bl, scal_non, scal_tup, scal_ref, dat_int, dat_str, dat_bl, dat_non, dat_tup, ok_look, ok_store, ok_lookO_int, ok_lookO_str, ok_storeO_int, ok_storeO_str, ok_in, ok_notIn, List.getElem?_cons_zero, List.getElem?_cons_succ, List.set_cons_zero, List.set_cons_succ, List.length_cons, List.length_nil, List.map_cons, List.map_nil, List.replicate_succ, List.replicate_zero, List.cons_append, List.nil_append, Nat.reduceSub, Nat.reduceAdd, Nat.zero_add, true_and, and_true, decide_eq_true_eq, decide_eq_false_iff_not, Bool.not_eq_true', Bool.not_eq_false', forall_const, Bool.false_eq_true, Bool.true_eq_false, false_implies, true_implies, reduceCtorEq, Bool.not_true, Bool.not_false, wipeE, reduceIte, and_self, Option.some.injEq, exists_eq_left', exists_eq_left, List.getElem?_nil, List.length_map, hj]
  have hl := List.length_pos_iff.mpr h0
  have hz' : ps.length ≤ 16777216 := hz
  have hnj : j ≠ n := fun z => by subst z; rw [h1] at hj; cases hj
  refine (hp m n c _ h (by omega)).mono fun p m' ⟨r, e, h0, hr, is, fr, hl'⟩ => ?_
  subst e
  obtain ⟨x, e1, e2, e3⟩ := atI_pos ps r h0 (by omega)
  have e4 : m'[j]? = some (.lst ps) := fr.get hj (by simp; omega)
  simp only [ok_ok, ok_ret, ok_bnd, ok_when, ok_opt, ok_getO, ok_putO, ok_newO, ok_dVar, ok_dC, ok_aNil, ok_aCons, ok_dOp, ok_dUn, ok_dTup, ok_lLst, ok_dNew, ok_dIf, ok_dCall, ok_tVal, ok_asB, ok_tTru, ok_truth_bl, ok_truth_int, ok_truth_non, ok_truth_tup, ok_tYes, ok_tAnd, ok_tOr, ok_tNot, ok_dAnd, ok_dOr, ok_uNot, ok_dChain, ok_add_int, ok_add_tup, ok_add_str, ok_add_ref, ok_sub, ok_mul, ok_mul_lst, ok_mulT, ok_div, ok_mod, ok_pow, ok_shl, ok_shr, ok_band, ok_bor, ok_xor, ok_neg, ok_lt, ok_le, ok_gt, ok_ge, ok_asD, ok_eqD, ok_eq_int, ok_eq_str, ok_eq_bl, ok_eq_non, ok_eq_tup, ok_eq_ref, ok_eq_it, ok_eq_in, ok_eq_nt, ok_eq_ni, ok_ne_int, ok_ne_str, ok_ne_bl, ok_ne_non, ok_ne_tup, ok_ne_ref, ok_ne_it, ok_ne_in, ok_ne_nt, ok_ne_ni, ok_isN, ok_notN, ok_ix_tup, ok_ix_scr, ok_ix_ref, ok_pNone, ok_pSome, ok_dSl, ok_sl_tup, ok_sl_ref, ok_dRev, ok_rev_ref, ok_lRev, ok_one, ok_two, ok_abs, ok_bint, ok_bint_bl, ok_max2, ok_min2, ok_len_tup, ok_len_scr, ok_len_str, ok_len_ref, ok_btup_tup, ok_btup_scr, ok_btup_ref, ok_dL, ok_lThen, ok_dV, ok_lV, ok_dR, ok_items_tup, ok_items_scr, ok_items_ref, ok_itemsR_scr, ok_itemsR_ref, ok_lId, ok_nTup, ok_nLen, ok_nSum, ok_nAny, ok_nAll, ok_rg1, ok_asI, ok_rg2, ok_lRg, ok_dTupRg, ok_meth0, ok_meth1, ok_methL, ok_chkL, ok_append, ok_extend, ok_pop, ok_popO, ok_sOf, ok_srcOf_tup, ok_srcOf_scr, ok_srcOf_kt, ok_srcOf_ref, ok_sOfL, ok_sEnum, ok_enumOf_tup, ok_enumOf_ref, ok_sRange1, ok_sRange2, ok_gName, ok_gNil, ok_gCons, ok_gTup, oks_ok, oks_thn, oks_nx, oks_bk, oks_ct, oks_seq, oks_expr, oks_ret, oks_asg, oks_set, oks_par2, oks_par3, oks_if, oks_put, ok_setP, ok_putL, ok_fnOf, ok_dDict, ok_kNil, ok_kCons, ok_aStar, ok_star_tup, ok_star_ref, oks_for, ok_comp, scal_int, scal_str, scal_bl, scal_non, scal_tup, scal_ref, dat_int, dat_str, dat_bl, dat_non, dat_tup, ok_look, ok_store, ok_lookO_int, ok_lookO_str, ok_storeO_int, ok_storeO_str, ok_in, ok_notIn, List.getElem?_cons_zero, List.getElem?_cons_succ, List.set_cons_zero, List.set_cons_succ, List.length_cons, List.length_nil, List.map_cons, List.map_nil, List.replicate_succ, List.replicate_zero, List.cons_append, List.nil_append, Nat.reduceSub, Nat.reduceAdd, Nat.zero_add, true_and, and_true, decide_eq_true_eq, decide_eq_false_iff_not, Bool.not_eq_true', Bool.not_eq_false', forall_const, Bool.false_eq_true, Bool.true_eq_false, false_implies, true_implies, reduceCtorEq, Bool.not_true, Bool.not_false, wipeE, reduceIte, and_self, Option.some.injEq, exists_eq_left', exists_eq_left, List.getElem?_nil, List.length_map, e4, e2]
  exact ⟨e3, is, fr, hl'⟩
theorem of_tup {pk : List P → M P} (hp : Pick pk) {m : Hm} {n c : Nat} {ps : List P} (h : IsSrc m n c) (h0 : ps ≠ []) (hz : ps.length ≤ SZ) :
    Ok (F_of pk [.ref n, .tup ps] m) fun p m' => p ∈ ps ∧ IsSrc m' n c ∧ Fr [n, c] m m' ∧ m'.length = m.length := by
  unfold F_of D_of
  simp only [ok_ok, ok_ret, ok_bnd, ok_when, ok_opt, ok_getO, ok_putO, ok_newO, ok_dVar, ok_dC, ok_aNil, ok_aCons, ok_dOp, ok_dUn, ok_dTup, ok_lLst, ok_dNew, ok_dIf, ok_dCall, ok_tVal, ok_asB, ok_tTru, ok_truth_bl, ok_truth_int, ok_truth_non, ok_truth_tup, ok_tYes, ok_tAnd, ok_tOr, ok_tNot, ok_dAnd, ok_dOr, ok_uNot, ok_dChain, ok_add_int, ok_add_tup, ok_add_str, ok_add_ref, ok_sub, ok_mul, ok_mul_lst, ok_mulT, ok_div, ok_mod, ok_pow, ok_shl, ok_shr, ok_band, ok_bor, ok_xor, ok_neg, ok_lt, ok_le, ok_gt, ok_ge, ok_asD, ok_eqD, ok_eq_int, ok_eq_str, ok_eq_bl, ok_eq_non, ok_eq_tup, ok_eq_ref, ok_eq_it, ok_eq_in, ok_eq_nt, ok_eq_ni, ok_ne_int, ok_ne_str, ok_ne_bl, ok_ne_non, ok_ne_tup, ok_ne_ref, ok_ne_it, ok_ne_in, ok_ne_nt, ok_ne_ni, ok_isN, ok_notN, ok_ix_tup, ok_ix_scr, ok_ix_ref, ok_pNone, ok_pSome, ok_dSl, ok_sl_tup, ok_sl_ref, ok_dRev, ok_rev_ref, ok_lRev, ok_one, ok_two, ok_abs, ok_bint, ok_bint_bl, ok_max2, ok_min2, ok_len_tup, ok_len_scr, ok_len_str, ok_len_ref, ok_btup_tup, ok_btup_scr, ok_btup_ref, ok_dL, ok_lThen, ok_dV, ok_lV, ok_dR, ok_items_tup, ok_items_scr, ok_items_ref, ok_itemsR_scr, ok_itemsR_ref, ok_lId, ok_nTup, ok_nLen, ok_nSum, ok_nAny, ok_nAll, ok_rg1, ok_asI, ok_rg2, ok_lRg, ok_dTupRg, ok_meth0, ok_meth1, ok_methL, ok_chkL, ok_append, ok_extend, ok_pop, ok_popO, ok_sOf, ok_srcOf_tup, ok_srcOf_scr, ok_srcOf_kt, ok_srcOf_ref, ok_sOfL, ok_sEnum, ok_enumOf_tup, ok_enumOf_ref, ok_sRange1, ok_sRange2, ok_gName, ok_gNil, ok_gCons, ok_gTup, oks_ok, oks_thn, oks_nx, oks_bk, oks_ct, oks_seq, oks_expr, oks_ret, oks_asg, oks_set, oks_par2, oks_par3, oks_if, oks_put, ok_setP, ok_putL, ok_fnOf, ok_dDict, ok_kNil, ok_kCons, ok_aStar, ok_star_tup, ok_star_ref, oks_for, ok_comp, scal_int, scal_str, scal_bl, scal_non, scal_tup, scal_ref, dat_int, dat_str, dat_bl, dat_non, dat_tup, ok_look, ok_store, ok_lookO_int, ok_lookO_str, ok_storeO_int, ok_storeO_str, ok_in, ok_notIn, List.getElem?_cons_zero, List.getElem?_cons_succ, List.set_cons_zero, List.set_cons_succ, List.length_cons, List.length_nil, List.map_cons, List.map_nil, List.replicate_succ, List.replicate_zero, List.cons_append, List.nil_append, Nat.reduceSub, Nat.reduceAdd, Nat.zero_add, true_and, and_true, decide_eq_true_eq, decide_eq_false_iff_not, Bool.not_eq_true', Bool.not_eq_false', forall_const, Bool.false_eq_true, Bool.true_eq_false, false_implies, true_implies, reduceCtorEq, Bool.not_true, Bool.not_false, wipeE, reduceIte, and_self, Option.some.injEq, exists_eq_left', exists_eq_left, List.getElem?_nil, List.length_map]
  have hl := List.length_pos_iff.mpr h0
  have hz' : ps.length ≤ 16777216 := hz
  refine (hp m n c _ h (by omega)).mono fun p m' ⟨r, e, h0, hr, is, fr, hl'⟩ => ?_
  subst e
  obtain ⟨x, e1, e2, e3⟩ := atI_pos ps r h0 (by omega)
  simp only [ok_ok, ok_ret, ok_bnd, ok_when, ok_opt, ok_getO, ok_putO, ok_newO, ok_dVar, ok_dC, ok_aNil, ok_aCons, ok_dOp, ok_dUn, ok_dTup, ok_lLst, ok_dNew, ok_dIf, ok_dCall, ok_tVal, ok_asB, ok_tTru, ok_truth_bl, ok_truth_int, ok_truth_non, ok_truth_tup, ok_tYes, ok_tAnd, ok_tOr, ok_tNot, ok_dAnd, ok_dOr, ok_uNot, ok_dChain, ok_add_int, ok_add_tup, ok_add_str, ok_add_ref, ok_sub, ok_mul, ok_mul_lst, ok_mulT, ok_div, ok_mod, ok_pow, ok_shl, ok_shr, ok_band, ok_bor, ok_xor, ok_neg, ok_lt, ok_le, ok_gt, ok_ge, ok_asD, ok_eqD, ok_eq_int, ok_eq_str, ok_eq_bl, ok_eq_non, ok_eq_tup, ok_eq_ref, ok_eq_it, ok_eq_in, ok_eq_nt, ok_eq_ni, ok_ne_int, ok_ne_str, ok_ne_bl, ok_ne_non, ok_ne_tup, ok_ne_ref, ok_ne_it, ok_ne_in, ok_ne_nt, ok_ne_ni, ok_isN, ok_notN, ok_ix_tup, ok_ix_scr, ok_ix_ref, ok_pNone, ok_pSome, ok_dSl, ok_sl_tup, ok_sl_ref, ok_dRev, ok_rev_ref, ok_lRev, ok_one, ok_two, ok_abs, ok_bint, ok_bint_bl, ok_max2, ok_min2, ok_len_tup, ok_len_scr, ok_len_str, ok_len_ref, ok_btup_tup, ok_btup_scr, ok_btup_ref, ok_dL, ok_lThen, ok_dV, ok_lV, ok_dR, ok_items_tup, ok_items_scr, ok_items_ref, ok_itemsR_scr, ok_itemsR_ref, ok_lId, ok_nTup, ok_nLen, ok_nSum, ok_nAny, ok_nAll, ok_rg1, ok_asI, ok_rg2, ok_lRg, ok_dTupRg, ok_meth0, ok_meth1, ok_methL, ok_chkL, ok_append, ok_extend, ok_pop, ok_popO, ok_sOf, ok_srcOf_tup, ok_srcOf_scr, ok_srcOf_kt, ok_srcOf_ref, ok_sOfL, ok_sEnum, ok_enumOf_tup, ok_enumOf_ref, ok_sRange1, ok_sRange2, ok_gName, ok_gNil, ok_gCons, ok_gTup, oks_ok, oks_thn, oks_nx, oks_bk, oks_ct, oks_seq, oks_expr, oks_ret, oks_asg, oks_set, oks_par2, oks_par3, oks_if, oks_put, ok_setP, ok_putL, ok_fnOf, ok_dDict, ok_kNil, ok_kCons, ok_aStar, ok_star_tup, ok_star_ref, oks_for, ok_comp, scal_int, scal_str, scal_bl, scal_non, scal_tup, scal_ref, dat_int, dat_str, dat_bl, dat_non, dat_tup, ok_look, ok_store, ok_lookO_int, ok_lookO_str, ok_storeO_int, ok_storeO_str, ok_in, ok_notIn, List.getElem?_cons_zero, List.getElem?_cons_succ, List.set_cons_zero, List.set_cons_succ, List.length_cons, List.length_nil, List.map_cons, List.map_nil, List.replicate_succ, List.replicate_zero, List.cons_append, List.nil_append, Nat.reduceSub, Nat.reduceAdd, Nat.zero_add, true_and, and_true, decide_eq_true_eq, decide_eq_false_iff_not, Bool.not_eq_true', Bool.not_eq_false', forall_const, Bool.false_eq_true, Bool.true_eq_false, false_implies, true_implies, reduceCtorEq, Bool.not_true, Bool.not_false, wipeE, reduceIte, and_self, Option.some.injEq, exists_eq_left', exists_eq_left, List.getElem?_nil, List.length_map, e2]
  exact ⟨e3, is, fr, hl'⟩
theorem puts_src (c : Nat) (l x t : Int) : putsP (srcD c l x t) = srcD c l x t := rfl
/-- a source is made -/
theorem srcB_ok (ns : List Int) (hn : ns.length ≤ 63) (m : Hm) : Ok (F_srcB [.scr (ns.map .int)] m) fun p m' => ∃ n c, p = .ref n ∧ IsSrc m' n c ∧ Fr [] m m' ∧ m.length ≤ n ∧ m.length ≤ c := by
  unfold F_srcB D_srcB
  simp only [ok_ok, ok_ret, ok_bnd, ok_when, ok_opt, ok_getO, ok_putO, ok_newO, ok_dVar, ok_dC, ok_aNil, ok_aCons, ok_dOp, ok_dUn, ok_dTup, ok_lLst, ok_dNew, ok_dIf, ok_dCall, ok_tVal, ok_asB, ok_tTru, ok_truth_bl, ok_truth_int, ok_truth_non, ok_truth_tup, ok_tYes, ok_tAnd, ok_tOr, ok_tNot, ok_dAnd, ok_dOr, ok_uNot, ok_dChain, ok_add_int, ok_add_tup, ok_add_str, ok_add_ref, ok_sub, ok_mul, ok_mul_lst, ok_mulT, ok_div, ok_mod, ok_pow, ok_shl, ok_shr, ok_band, ok_bor, ok_xor, ok_neg, ok_lt, ok_le, ok_gt, ok_ge, ok_asD, ok_eqD, ok_eq_int, ok_eq_str, ok_eq_bl, ok_eq_non, ok_eq_tup, ok_eq_ref, ok_eq_it, ok_eq_in, ok_eq_nt, ok_eq_ni, ok_ne_int, ok_ne_str, ok_ne_bl, ok_ne_non, ok_ne_tup, ok_ne_ref, ok_ne_it, ok_ne_in, ok_ne_nt, ok_ne_ni, ok_isN, ok_notN, ok_ix_tup, ok_ix_scr, ok_ix_ref, ok_pNone, ok_pSome, ok_dSl, ok_sl_tup, ok_sl_ref, ok_dRev, ok_rev_ref, ok_lRev, ok_one, ok_two, ok_abs, ok_bint, ok_bint_bl, ok_max2, ok_min2, ok_len_tup, ok_len_scr, ok_len_str, ok_len_ref, ok_btup_tup, ok_btup_scr, ok_btup_ref, ok_dL, ok_lThen, ok_dV, ok_lV, ok_dR, ok_items_tup, ok_items_scr, ok_items_ref, ok_itemsR_scr, ok_itemsR_ref, ok_lId, ok_nTup, ok_nLen, ok_nSum, ok_nAny, ok_nAll, ok_rg1, ok_asI, ok_rg2, ok_lRg, ok_dTupRg, ok_meth0, ok_meth1, ok_methL, ok_chkL, ok_append, ok_extend, ok_pop, ok_popO, ok_sOf, ok_srcOf_tup, ok_srcOf_scr, ok_srcOf_kt, ok_srcOf_ref, ok_sOfL, ok_sEnum, ok_enumOf_tup, ok_enumOf_ref, ok_sRange1, ok_sRange2, ok_gName, ok_gNil, ok_gCons, ok_gTup, oks_ok, oks_thn, oks_nx, oks_bk, oks_ct, oks_seq, oks_expr, oks_ret, oks_asg, oks_set, oks_par2, oks_par3, oks_if, oks_put, ok_setP, ok_putL, ok_fnOf, ok_dDict, ok_kNil, ok_kCons, ok_aStar, ok_star_tup, ok_star_ref, oks_for, ok_comp, scal_int, scal_str, scal_bl, scal_non, scal_tup, scal_ref, dat_int, dat_str, dat_bl, dat_non, dat_tup, ok_look, ok_store, ok_lookO_int, ok_lookO_str, ok_storeO_int, ok_storeO_str, ok_in, ok_notIn, List.getElem?_cons_zero, List.getElem?_cons_succ, List.set_cons_zero, List.set_cons_succ, List.length_cons, List.length_nil, List.map_cons, List.map_nil, List.replicate_succ, List.replicate_zero, List.cons_append, List.nil_append, Nat.reduceSub, Nat.reduceAdd, Nat.zero_add, true_and, and_true, decide_eq_true_eq, decide_eq_false_iff_not, Bool.not_eq_true', Bool.not_eq_false', forall_const, Bool.false_eq_true, Bool.true_eq_false, false_implies, true_implies, reduceCtorEq, Bool.not_true, Bool.not_false, wipeE, reduceIte, and_self, Option.some.injEq, exists_eq_left', exists_eq_left, List.getElem?_nil, List.length_map]
  refine (for_seq (QF := fun f ρ m' => f = .nx ∧ m' = m ∧ ∃ x p, ρ = [some (.scr (ns.map .int)), some (.int x), p, none]) (enc := P.int) rfl (fun _ ρ m' => m' = m ∧ ∃ x p, ρ = [some (.scr (ns.map .int)), some (.int x), p, none]) ?_ ?_ ?_).mono ?_
  · exact ⟨rfl, _, _, rfl⟩
  · rintro done a rest ρ m' e ⟨rfl, x, p, rfl⟩
    simp only [ok_ok, ok_ret, ok_bnd, ok_when, ok_opt, ok_getO, ok_putO, ok_newO, ok_dVar, ok_dC, ok_aNil, ok_aCons, ok_dOp, ok_dUn, ok_dTup, ok_lLst, ok_dNew, ok_dIf, ok_dCall, ok_tVal, ok_asB, ok_tTru, ok_truth_bl, ok_truth_int, ok_truth_non, ok_truth_tup, ok_tYes, ok_tAnd, ok_tOr, ok_tNot, ok_dAnd, ok_dOr, ok_uNot, ok_dChain, ok_add_int, ok_add_tup, ok_add_str, ok_add_ref, ok_sub, ok_mul, ok_mul_lst, ok_mulT, ok_div, ok_mod, ok_pow, ok_shl, ok_shr, ok_band, ok_bor, ok_xor, ok_neg, ok_lt, ok_le, ok_gt, ok_ge, ok_asD, ok_eqD, ok_eq_int, ok_eq_str, ok_eq_bl, ok_eq_non, ok_eq_tup, ok_eq_ref, ok_eq_it, ok_eq_in, ok_eq_nt, ok_eq_ni, ok_ne_int, ok_ne_str, ok_ne_bl, ok_ne_non, ok_ne_tup, ok_ne_ref, ok_ne_it, ok_ne_in, ok_ne_nt, ok_ne_ni, ok_isN, ok_notN, ok_ix_tup, ok_ix_scr, ok_ix_ref, ok_pNone, ok_pSome, ok_dSl, ok_sl_tup, ok_sl_ref, ok_dRev, ok_rev_ref, ok_lRev, ok_one, ok_two, ok_abs, ok_bint, ok_bint_bl, ok_max2, ok_min2, ok_len_tup, ok_len_scr, ok_len_str, ok_len_ref, ok_btup_tup, ok_btup_scr, ok_btup_ref, ok_dL, ok_lThen, ok_dV, ok_lV, ok_dR, ok_items_tup, ok_items_scr, ok_items_ref, ok_itemsR_scr, ok_itemsR_ref, ok_lId, ok_nTup, ok_nLen, ok_nSum, ok_nAny, ok_nAll, ok_rg1, ok_asI, ok_rg2, ok_lRg, ok_dTupRg, ok_meth0, ok_meth1, ok_methL, ok_chkL, ok_append, ok_extend, ok_pop, ok_popO, ok_sOf, ok_srcOf_tup, ok_srcOf_scr, ok_srcOf_kt, ok_srcOf_ref, ok_sOfL, ok_sEnum, ok_enumOf_tup, ok_enumOf_ref, ok_sRange1, ok_sRange2, ok_gName, ok_gNil, ok_gCons, ok_gTup, oks_ok, oks_thn, oks_nx, oks_bk, oks_ct, oks_seq, oks_expr, oks_ret, oks_asg, oks_set, oks_par2, oks_par3, oks_if, oks_put, ok_setP, ok_putL, ok_fnOf, ok_dDict, ok_kNil, ok_kCons, ok_aStar, ok_star_tup, ok_star_ref, oks_for, ok_comp, scal_int, scal_str, scal_bl, scal_non, scal_tup, scal_ref, dat_int, dat_str, dat_bl, dat_non, dat_tup, ok_look, ok_store, ok_lookO_int, ok_lookO_str, ok_storeO_int, ok_storeO_str, ok_in, ok_notIn, List.getElem?_cons_zero, List.getElem?_cons_succ, List.set_cons_zero, List.set_cons_succ, List.length_cons, List.length_nil, List.map_cons, List.map_nil, List.replicate_succ, List.replicate_zero, List.cons_append, List.nil_append, Nat.reduceSub, Nat.reduceAdd, Nat.zero_add, true_and, and_true, decide_eq_true_eq, decide_eq_false_iff_not, Bool.not_eq_true', Bool.not_eq_false', forall_const, Bool.false_eq_true, Bool.true_eq_false, false_implies, true_implies, reduceCtorEq, Bool.not_true, Bool.not_false, wipeE, reduceIte, and_self, Option.some.injEq, exists_eq_left', exists_eq_left, List.getElem?_nil, List.length_map]
    exact ⟨cMul_right (by decide), cMul_right (by decide), by decide, _, _, rfl⟩
  · rintro ρ m' ⟨rfl, x, p, rfl⟩
    exact ⟨rfl, rfl, x, p, rfl⟩
  · rintro f ρ m' ⟨rfl, rfl, x, p, rfl⟩
    simp only [ok_ok, ok_ret, ok_bnd, ok_when, ok_opt, ok_getO, ok_putO, ok_newO, ok_dVar, ok_dC, ok_aNil, ok_aCons, ok_dOp, ok_dUn, ok_dTup, ok_lLst, ok_dNew, ok_dIf, ok_dCall, ok_tVal, ok_asB, ok_tTru, ok_truth_bl, ok_truth_int, ok_truth_non, ok_truth_tup, ok_tYes, ok_tAnd, ok_tOr, ok_tNot, ok_dAnd, ok_dOr, ok_uNot, ok_dChain, ok_add_int, ok_add_tup, ok_add_str, ok_add_ref, ok_sub, ok_mul, ok_mul_lst, ok_mulT, ok_div, ok_mod, ok_pow, ok_shl, ok_shr, ok_band, ok_bor, ok_xor, ok_neg, ok_lt, ok_le, ok_gt, ok_ge, ok_asD, ok_eqD, ok_eq_int, ok_eq_str, ok_eq_bl, ok_eq_non, ok_eq_tup, ok_eq_ref, ok_eq_it, ok_eq_in, ok_eq_nt, ok_eq_ni, ok_ne_int, ok_ne_str, ok_ne_bl, ok_ne_non, ok_ne_tup, ok_ne_ref, ok_ne_it, ok_ne_in, ok_ne_nt, ok_ne_ni, ok_isN, ok_notN, ok_ix_tup, ok_ix_scr, ok_ix_ref, ok_pNone, ok_pSome, ok_dSl, ok_sl_tup, ok_sl_ref, ok_dRev, ok_rev_ref, ok_lRev, ok_one, ok_two, ok_abs, ok_bint, ok_bint_bl, ok_max2, ok_min2, ok_len_tup, ok_len_scr, ok_len_str, ok_len_ref, ok_btup_tup, ok_btup_scr, ok_btup_ref, ok_dL, ok_lThen, ok_dV, ok_lV, ok_dR, ok_items_tup, ok_items_scr, ok_items_ref, ok_itemsR_scr, ok_itemsR_ref, ok_lId, ok_nTup, ok_nLen, ok_nSum, ok_nAny, ok_nAll, ok_rg1, ok_asI, ok_rg2, ok_lRg, ok_dTupRg, ok_meth0, ok_meth1, ok_methL, ok_chkL, ok_append, ok_extend, ok_pop, ok_popO, ok_sOf, ok_srcOf_tup, ok_srcOf_scr, ok_srcOf_kt, ok_srcOf_ref, ok_sOfL, ok_sEnum, ok_enumOf_tup, ok_enumOf_ref, ok_sRange1, ok_sRange2, ok_gName, ok_gNil, ok_gCons, ok_gTup, oks_ok, oks_thn, oks_nx, oks_bk, oks_ct, oks_seq, oks_expr, oks_ret, oks_asg, oks_set, oks_par2, oks_par3, oks_if, oks_put, ok_setP, ok_putL, ok_fnOf, ok_dDict, ok_kNil, ok_kCons, ok_aStar, ok_star_tup, ok_star_ref, oks_for, ok_comp, scal_int, scal_str, scal_bl, scal_non, scal_tup, scal_ref, dat_int, dat_str, dat_bl, dat_non, dat_tup, ok_look, ok_store, ok_lookO_int, ok_lookO_str, ok_storeO_int, ok_storeO_str, ok_in, ok_notIn, List.getElem?_cons_zero, List.getElem?_cons_succ, List.set_cons_zero, List.set_cons_succ, List.length_cons, List.length_nil, List.map_cons, List.map_nil, List.replicate_succ, List.replicate_zero, List.cons_append, List.nil_append, Nat.reduceSub, Nat.reduceAdd, Nat.zero_add, true_and, and_true, decide_eq_true_eq, decide_eq_false_iff_not, Bool.not_eq_true', Bool.not_eq_false', forall_const, Bool.false_eq_true, Bool.true_eq_false, false_implies, true_implies, reduceCtorEq, Bool.not_true, Bool.not_false, wipeE, reduceIte, and_self, Option.some.injEq, exists_eq_left', exists_eq_left, List.getElem?_nil, List.length_map]
    refine comp_seq (enc := P.int) rfl (by have : (16777216 : Nat) = SZ := rfl; omega) (fun done acc m1 => m1 = m' ∧ acc = (done.map fun i => P.int (if i < 0 then -i else i))) ⟨rfl, rfl⟩ ?_ ?_
    · rintro done a rest acc m1 e _ ⟨rfl, rfl⟩
      simp only [ok_ok, ok_ret, ok_bnd, ok_when, ok_opt, ok_getO, ok_putO, ok_newO, ok_dVar, ok_dC, ok_aNil, ok_aCons, ok_dOp, ok_dUn, ok_dTup, ok_lLst, ok_dNew, ok_dIf, ok_dCall, ok_tVal, ok_asB, ok_tTru, ok_truth_bl, ok_truth_int, ok_truth_non, ok_truth_tup, ok_tYes, ok_tAnd, ok_tOr, ok_tNot, ok_dAnd, ok_dOr, ok_uNot, ok_dChain, ok_add_int, ok_add_tup, ok_add_str, ok_add_ref, ok_sub, ok_mul, ok_mul_lst, ok_mulT, ok_div, ok_mod, ok_pow, ok_shl, ok_shr, ok_band, ok_bor, ok_xor, ok_neg, ok_lt, ok_le, ok_gt, ok_ge, ok_asD, ok_eqD, ok_eq_int, ok_eq_str, ok_eq_bl, ok_eq_non, ok_eq_tup, ok_eq_ref, ok_eq_it, ok_eq_in, ok_eq_nt, ok_eq_ni, ok_ne_int, ok_ne_str, ok_ne_bl, ok_ne_non, ok_ne_tup, ok_ne_ref, ok_ne_it, ok_ne_in, ok_ne_nt, ok_ne_ni, ok_isN, ok_notN, ok_ix_tup, ok_ix_scr, ok_ix_ref, ok_pNone, ok_pSome, ok_dSl, ok_sl_tup, ok_sl_ref, ok_dRev, ok_rev_ref, ok_lRev, ok_one, ok_two, ok_abs, ok_bint, ok_bint_bl, ok_max2, ok_min2, ok_len_tup, ok_len_scr, ok_len_str, ok_len_ref, ok_btup_tup, ok_btup_scr, ok_btup_ref, ok_dL, ok_lThen, ok_dV, ok_lV, ok_dR, ok_items_tup, ok_items_scr, ok_items_ref, ok_itemsR_scr, ok_itemsR_ref, ok_lId, ok_nTup, ok_nLen, ok_nSum, ok_nAny, ok_nAll, ok_rg1, ok_asI, ok_rg2, ok_lRg, ok_dTupRg, ok_meth0, ok_meth1, ok_methL, ok_chkL, ok_append, ok_extend, ok_pop, ok_popO, ok_sOf, ok_srcOf_tup, ok_srcOf_scr, ok_srcOf_kt, ok_srcOf_ref, ok_sOfL, ok_sEnum, ok_enumOf_tup, ok_enumOf_ref, ok_sRange1, ok_sRange2, ok_gName, ok_gNil, ok_gCons, ok_gTup, oks_ok, oks_thn, oks_nx, oks_bk, oks_ct, oks_seq, oks_expr, oks_ret, oks_asg, oks_set, oks_par2, oks_par3, oks_if, oks_put, ok_setP, ok_putL, ok_fnOf, ok_dDict, ok_kNil, ok_kCons, ok_aStar, ok_star_tup, ok_star_ref, oks_for, ok_comp, scal_int, scal_str, scal_bl, scal_non, scal_tup, scal_ref, dat_int, dat_str, dat_bl, dat_non, dat_tup, ok_look, ok_store, ok_lookO_int, ok_lookO_str, ok_storeO_int, ok_storeO_str, ok_in, ok_notIn, List.getElem?_cons_zero, List.getElem?_cons_succ, List.set_cons_zero, List.set_cons_succ, List.length_cons, List.length_nil, List.map_cons, List.map_nil, List.replicate_succ, List.replicate_zero, List.cons_append, List.nil_append, Nat.reduceSub, Nat.reduceAdd, Nat.zero_add, true_and, and_true, decide_eq_true_eq, decide_eq_false_iff_not, Bool.not_eq_true', Bool.not_eq_false', forall_const, Bool.false_eq_true, Bool.true_eq_false, false_implies, true_implies, reduceCtorEq, Bool.not_true, Bool.not_false, wipeE, reduceIte, and_self, Option.some.injEq, exists_eq_left', exists_eq_left, List.getElem?_nil, List.length_map]
      simp
    · rintro acc m1 _ ⟨rfl, rfl⟩
      simp only [ok_ok, ok_ret, ok_bnd, ok_when, ok_opt, ok_getO, ok_putO, ok_newO, ok_dVar, ok_dC, ok_aNil, ok_aCons, ok_dOp, ok_dUn, ok_dTup, ok_lLst, ok_dNew, ok_dIf, ok_dCall, ok_tVal, ok_asB, ok_tTru, ok_truth_bl, ok_truth_int, ok_truth_non, ok_truth_tup, ok_tYes, ok_tAnd, ok_tOr, ok_tNot, ok_dAnd, ok_dOr, ok_uNot, ok_dChain, ok_add_int, ok_add_tup, ok_add_str, ok_add_ref, ok_sub, ok_mul, ok_mul_lst, ok_mulT, ok_div, ok_mod, ok_pow, ok_shl, ok_shr, ok_band, ok_bor, ok_xor, ok_neg, ok_lt, ok_le, ok_gt, ok_ge, ok_asD, ok_eqD, ok_eq_int, ok_eq_str, ok_eq_bl, ok_eq_non, ok_eq_tup, ok_eq_ref, ok_eq_it, ok_eq_in, ok_eq_nt, ok_eq_ni, ok_ne_int, ok_ne_str, ok_ne_bl, ok_ne_non, ok_ne_tup, ok_ne_ref, ok_ne_it, ok_ne_in, ok_ne_nt, ok_ne_ni, ok_isN, ok_notN, ok_ix_tup, ok_ix_scr, ok_ix_ref, ok_pNone, ok_pSome, ok_dSl, ok_sl_tup, ok_sl_ref, ok_dRev, ok_rev_ref, ok_lRev, ok_one, ok_two, ok_abs, ok_bint, ok_bint_bl, ok_max2, ok_min2, ok_len_tup, ok_len_scr, ok_len_str, ok_len_ref, ok_btup_tup, ok_btup_scr, ok_btup_ref, ok_dL, ok_lThen, ok_dV, ok_lV, ok_dR, ok_items_tup, ok_items_scr, ok_items_ref, ok_itemsR_scr, ok_itemsR_ref, ok_lId, ok_nTup, ok_nLen, ok_nSum, ok_nAny, ok_nAll, ok_rg1, ok_asI, ok_rg2, ok_lRg, ok_dTupRg, ok_meth0, ok_meth1, ok_methL, ok_chkL, ok_append, ok_extend, ok_pop, ok_popO, ok_sOf, ok_srcOf_tup, ok_srcOf_scr, ok_srcOf_kt, ok_srcOf_ref, ok_sOfL, ok_sEnum, ok_enumOf_tup, ok_enumOf_ref, ok_sRange1, ok_sRange2, ok_gName, ok_gNil, ok_gCons, ok_gTup, oks_ok, oks_thn, oks_nx, oks_bk, oks_ct, oks_seq, oks_expr, oks_ret, oks_asg, oks_set, oks_par2, oks_par3, oks_if, oks_put, ok_setP, ok_putL, ok_fnOf, ok_dDict, ok_kNil, ok_kCons, ok_aStar, ok_star_tup, ok_star_ref, oks_for, ok_comp, scal_int, scal_str, scal_bl, scal_non, scal_tup, scal_ref, dat_int, dat_str, dat_bl, dat_non, dat_tup, ok_look, ok_store, ok_lookO_int, ok_lookO_str, ok_storeO_int, ok_storeO_str, ok_in, ok_notIn, List.getElem?_cons_zero, List.getElem?_cons_succ, List.set_cons_zero, List.set_cons_succ, List.length_cons, List.length_nil, List.map_cons, List.map_nil, List.replicate_succ, List.replicate_zero, List.cons_append, List.nil_append, Nat.reduceSub, Nat.reduceAdd, Nat.zero_add, true_and, and_true, decide_eq_true_eq, decide_eq_false_iff_not, Bool.not_eq_true', Bool.not_eq_false', forall_const, Bool.false_eq_true, Bool.true_eq_false, false_implies, true_implies, reduceCtorEq, Bool.not_true, Bool.not_false, wipeE, reduceIte, and_self, Option.some.injEq, exists_eq_left', exists_eq_left, List.getElem?_nil, List.length_map, new_get]
      refine ⟨srcD _ 1 x 0, rfl, (by show 4 ≤ 15; omega), _, m1.length + 1, rfl, ⟨by simp, 1, x, 0, (ns.map fun i => if i < 0 then -i else i).reverse, ?_, ?_, by simpa using hn⟩, ((Fr.new _ _ _).trans (Fr.new _ _ _)).trans (Fr.new _ _ _), by simp, by simp⟩
      · rw [new_get, puts_src]
        simp
      · rw [List.getElem?_append_left (by simp)]
        have e : m1.length + 1 = (m1 ++ [O.lst (List.map (fun i => P.int (if i < 0 then -i else i)) ns)]).length := by simp
        rw [e, new_get]
        simp [Function.comp_def]
theorem srcA_ok (ns : List Int) (hn : ns.length ≤ 63) (m : Hm) : Ok (F_srcA [.scr (ns.map .int)] m) fun p m' => ∃ n c, p = .ref n ∧ IsSrc m' n c ∧ Fr [] m m' ∧ m.length ≤ n ∧ m.length ≤ c := by
  unfold F_srcA D_srcA
  simp only [ok_ok, ok_ret, ok_bnd, ok_when, ok_opt, ok_getO, ok_putO, ok_newO, ok_dVar, ok_dC, ok_aNil, ok_aCons, ok_dOp, ok_dUn, ok_dTup, ok_lLst, ok_dNew, ok_dIf, ok_dCall, ok_tVal, ok_asB, ok_tTru, ok_truth_bl, ok_truth_int, ok_truth_non, ok_truth_tup, ok_tYes, ok_tAnd, ok_tOr, ok_tNot, ok_dAnd, ok_dOr, ok_uNot, ok_dChain, ok_add_int, ok_add_tup, ok_add_str, ok_add_ref, ok_sub, ok_mul, ok_mul_lst, ok_mulT, ok_div, ok_mod, ok_pow, ok_shl, ok_shr, ok_band, ok_bor, ok_xor, ok_neg, ok_lt, ok_le, ok_gt, ok_ge, ok_asD, ok_eqD, ok_eq_int, ok_eq_str, ok_eq_bl, ok_eq_non, ok_eq_tup, ok_eq_ref, ok_eq_it, ok_eq_in, ok_eq_nt, ok_eq_ni, ok_ne_int, ok_ne_str, ok_ne_bl, ok_ne_non, ok_ne_tup, ok_ne_ref, ok_ne_it, ok_ne_in, ok_ne_nt, ok_ne_ni, ok_isN, ok_notN, ok_ix_tup, ok_ix_scr, ok_ix_ref, ok_pNone, ok_pSome, ok_dSl, ok_sl_tup, ok_sl_ref, ok_dRev, ok_rev_ref, ok_lRev, ok_one, ok_two, ok_abs, ok_bint, ok_bint_bl, ok_max2, ok_min2, ok_len_tup, ok_len_scr, ok_len_str, ok_len_ref, ok_btup_tup, ok_btup_scr, ok_btup_ref, ok_dL, ok_lThen, ok_dV, ok_lV, ok_dR, ok_items_tup, ok_items_scr, ok_items_ref, ok_itemsR_scr, ok_itemsR_ref, ok_lId, ok_nTup, ok_nLen, ok_nSum, ok_nAny, ok_nAll, ok_rg1, ok_asI, ok_rg2, ok_lRg, ok_dTupRg, ok_meth0, ok_meth1, ok_methL, ok_chkL, ok_append, ok_extend, ok_pop, ok_popO, ok_sOf, ok_srcOf_tup, ok_srcOf_scr, ok_srcOf_kt, ok_srcOf_ref, ok_sOfL, ok_sEnum, ok_enumOf_tup, ok_enumOf_ref, ok_sRange1, ok_sRange2, ok_gName, ok_gNil, ok_gCons, ok_gTup, oks_ok, oks_thn, oks_nx, oks_bk, oks_ct, oks_seq, oks_expr, oks_ret, oks_asg, oks_set, oks_par2, oks_par3, oks_if, oks_put, ok_setP, ok_putL, ok_fnOf, ok_dDict, ok_kNil, ok_kCons, ok_aStar, ok_star_tup, ok_star_ref, oks_for, ok_comp, scal_int, scal_str, scal_bl, scal_non, scal_tup, scal_ref, dat_int, dat_str, dat_bl, dat_non, dat_tup, ok_look, ok_store, ok_lookO_int, ok_lookO_str, ok_storeO_int, ok_storeO_str, ok_in, ok_notIn, List.getElem?_cons_zero, List.getElem?_cons_succ, List.set_cons_zero, List.set_cons_succ, List.length_cons, List.length_nil, List.map_cons, List.map_nil, List.replicate_succ, List.replicate_zero, List.cons_append, List.nil_append, Nat.reduceSub, Nat.reduceAdd, Nat.zero_add, true_and, and_true, decide_eq_true_eq, decide_eq_false_iff_not, Bool.not_eq_true', Bool.not_eq_false', forall_const, Bool.false_eq_true, Bool.true_eq_false, false_implies, true_implies, reduceCtorEq, Bool.not_true, Bool.not_false, wipeE, reduceIte, and_self, Option.some.injEq, exists_eq_left', exists_eq_left, List.getElem?_nil, List.length_map]
  refine (for_seq (QF := fun f ρ m' => f = .nx ∧ m' = m ∧ ∃ x p, ρ = [some (.scr (ns.map .int)), some (.int x), p]) (enc := P.int) rfl (fun _ ρ m' => m' = m ∧ ∃ x p, ρ = [some (.scr (ns.map .int)), some (.int x), p]) ?_ ?_ ?_).mono ?_
  · exact ⟨rfl, _, _, rfl⟩
  · rintro done a rest ρ m' e ⟨rfl, x, p, rfl⟩
    simp only [ok_ok, ok_ret, ok_bnd, ok_when, ok_opt, ok_getO, ok_putO, ok_newO, ok_dVar, ok_dC, ok_aNil, ok_aCons, ok_dOp, ok_dUn, ok_dTup, ok_lLst, ok_dNew, ok_dIf, ok_dCall, ok_tVal, ok_asB, ok_tTru, ok_truth_bl, ok_truth_int, ok_truth_non, ok_truth_tup, ok_tYes, ok_tAnd, ok_tOr, ok_tNot, ok_dAnd, ok_dOr, ok_uNot, ok_dChain, ok_add_int, ok_add_tup, ok_add_str, ok_add_ref, ok_sub, ok_mul, ok_mul_lst, ok_mulT, ok_div, ok_mod, ok_pow, ok_shl, ok_shr, ok_band, ok_bor, ok_xor, ok_neg, ok_lt, ok_le, ok_gt, ok_ge, ok_asD, ok_eqD, ok_eq_int, ok_eq_str, ok_eq_bl, ok_eq_non, ok_eq_tup, ok_eq_ref, ok_eq_it, ok_eq_in, ok_eq_nt, ok_eq_ni, ok_ne_int, ok_ne_str, ok_ne_bl, ok_ne_non, ok_ne_tup, ok_ne_ref, ok_ne_it, ok_ne_in, ok_ne_nt, ok_ne_ni, ok_isN, ok_notN, ok_ix_tup, ok_ix_scr, ok_ix_ref, ok_pNone, ok_pSome, ok_dSl, ok_sl_tup, ok_sl_ref, ok_dRev, ok_rev_ref, ok_lRev, ok_one, ok_two, ok_abs, ok_bint, ok_bint_bl, ok_max2, ok_min2, ok_len_tup, ok_len_scr, ok_len_str, ok_len_ref, ok_btup_tup, ok_btup_scr, ok_btup_ref, ok_dL, ok_lThen, ok_dV, ok_lV, ok_dR, ok_items_tup, ok_items_scr, ok_items_ref, ok_itemsR_scr, ok_itemsR_ref, ok_lId, ok_nTup, ok_nLen, ok_nSum, ok_nAny, ok_nAll, ok_rg1, ok_asI, ok_rg2, ok_lRg, ok_dTupRg, ok_meth0, ok_meth1, ok_methL, ok_chkL, ok_append, ok_extend, ok_pop, ok_popO, ok_sOf, ok_srcOf_tup, ok_srcOf_scr, ok_srcOf_kt, ok_srcOf_ref, ok_sOfL, ok_sEnum, ok_enumOf_tup, ok_enumOf_ref, ok_sRange1, ok_sRange2, ok_gName, ok_gNil, ok_gCons, ok_gTup, oks_ok, oks_thn, oks_nx, oks_bk, oks_ct, oks_seq, oks_expr, oks_ret, oks_asg, oks_set, oks_par2, oks_par3, oks_if, oks_put, ok_setP, ok_putL, ok_fnOf, ok_dDict, ok_kNil, ok_kCons, ok_aStar, ok_star_tup, ok_star_ref, oks_for, ok_comp, scal_int, scal_str, scal_bl, scal_non, scal_tup, scal_ref, dat_int, dat_str, dat_bl, dat_non, dat_tup, ok_look, ok_store, ok_lookO_int, ok_lookO_str, ok_storeO_int, ok_storeO_str, ok_in, ok_notIn, List.getElem?_cons_zero, List.getElem?_cons_succ, List.set_cons_zero, List.set_cons_succ, List.length_cons, List.length_nil, List.map_cons, List.map_nil, List.replicate_succ, List.replicate_zero, List.cons_append, List.nil_append, Nat.reduceSub, Nat.reduceAdd, Nat.zero_add, true_and, and_true, decide_eq_true_eq, decide_eq_false_iff_not, Bool.not_eq_true', Bool.not_eq_false', forall_const, Bool.false_eq_true, Bool.true_eq_false, false_implies, true_implies, reduceCtorEq, Bool.not_true, Bool.not_false, wipeE, reduceIte, and_self, Option.some.injEq, exists_eq_left', exists_eq_left, List.getElem?_nil, List.length_map]
    exact ⟨cMul_right (by decide), cMul_right (by decide), by decide, _, _, rfl⟩
  · rintro ρ m' ⟨rfl, x, p, rfl⟩
    exact ⟨rfl, rfl, x, p, rfl⟩
  · rintro f ρ m' ⟨rfl, rfl, x, p, rfl⟩
    simp only [ok_ok, ok_ret, ok_bnd, ok_when, ok_opt, ok_getO, ok_putO, ok_newO, ok_dVar, ok_dC, ok_aNil, ok_aCons, ok_dOp, ok_dUn, ok_dTup, ok_lLst, ok_dNew, ok_dIf, ok_dCall, ok_tVal, ok_asB, ok_tTru, ok_truth_bl, ok_truth_int, ok_truth_non, ok_truth_tup, ok_tYes, ok_tAnd, ok_tOr, ok_tNot, ok_dAnd, ok_dOr, ok_uNot, ok_dChain, ok_add_int, ok_add_tup, ok_add_str, ok_add_ref, ok_sub, ok_mul, ok_mul_lst, ok_mulT, ok_div, ok_mod, ok_pow, ok_shl, ok_shr, ok_band, ok_bor, ok_xor, ok_neg, ok_lt, ok_le, ok_gt, ok_ge, ok_asD, ok_eqD, ok_eq_int, ok_eq_str, ok_eq_bl, ok_eq_non, ok_eq_tup, ok_eq_ref, ok_eq_it, ok_eq_in, ok_eq_nt, ok_eq_ni, ok_ne_int, ok_ne_str, ok_ne_bl, ok_ne_non, ok_ne_tup, ok_ne_ref, ok_ne_it, ok_ne_in, ok_ne_nt, ok_ne_ni, ok_isN, ok_notN, ok_ix_tup, ok_ix_scr, ok_ix_ref, ok_pNone, ok_pSome, ok_dSl, ok_sl_tup, ok_sl_ref, ok_dRev, ok_rev_ref, ok_lRev, ok_one, ok_two, ok_abs, ok_bint, ok_bint_bl, ok_max2, ok_min2, ok_len_tup, ok_len_scr, ok_len_str, ok_len_ref, ok_btup_tup, ok_btup_scr, ok_btup_ref, ok_dL, ok_lThen, ok_dV, ok_lV, ok_dR, ok_items_tup, ok_items_scr, ok_items_ref, ok_itemsR_scr, ok_itemsR_ref, ok_lId, ok_nTup, ok_nLen, ok_nSum, ok_nAny, ok_nAll, ok_rg1, ok_asI, ok_rg2, ok_lRg, ok_dTupRg, ok_meth0, ok_meth1, ok_methL, ok_chkL, ok_append, ok_extend, ok_pop, ok_popO, ok_sOf, ok_srcOf_tup, ok_srcOf_scr, ok_srcOf_kt, ok_srcOf_ref, ok_sOfL, ok_sEnum, ok_enumOf_tup, ok_enumOf_ref, ok_sRange1, ok_sRange2, ok_gName, ok_gNil, ok_gCons, ok_gTup, oks_ok, oks_thn, oks_nx, oks_bk, oks_ct, oks_seq, oks_expr, oks_ret, oks_asg, oks_set, oks_par2, oks_par3, oks_if, oks_put, ok_setP, ok_putL, ok_fnOf, ok_dDict, ok_kNil, ok_kCons, ok_aStar, ok_star_tup, ok_star_ref, oks_for, ok_comp, scal_int, scal_str, scal_bl, scal_non, scal_tup, scal_ref, dat_int, dat_str, dat_bl, dat_non, dat_tup, ok_look, ok_store, ok_lookO_int, ok_lookO_str, ok_storeO_int, ok_storeO_str, ok_in, ok_notIn, List.getElem?_cons_zero, List.getElem?_cons_succ, List.set_cons_zero, List.set_cons_succ, List.length_cons, List.length_nil, List.map_cons, List.map_nil, List.replicate_succ, List.replicate_zero, List.cons_append, List.nil_append, Nat.reduceSub, Nat.reduceAdd, Nat.zero_add, true_and, and_true, decide_eq_true_eq, decide_eq_false_iff_not, Bool.not_eq_true', Bool.not_eq_false', forall_const, Bool.false_eq_true, Bool.true_eq_false, false_implies, true_implies, reduceCtorEq, Bool.not_true, Bool.not_false, wipeE, reduceIte, and_self, Option.some.injEq, exists_eq_left', exists_eq_left, List.getElem?_nil, List.length_map]
    refine comp_seq (enc := P.int) rfl (by have : (16777216 : Nat) = SZ := rfl; omega) (fun done acc m1 => m1 = m' ∧ acc = (done.map fun i => P.int (if i < 0 then -i else i))) ⟨rfl, rfl⟩ ?_ ?_
    · rintro done a rest acc m1 e _ ⟨rfl, rfl⟩
      simp only [ok_ok, ok_ret, ok_bnd, ok_when, ok_opt, ok_getO, ok_putO, ok_newO, ok_dVar, ok_dC, ok_aNil, ok_aCons, ok_dOp, ok_dUn, ok_dTup, ok_lLst, ok_dNew, ok_dIf, ok_dCall, ok_tVal, ok_asB, ok_tTru, ok_truth_bl, ok_truth_int, ok_truth_non, ok_truth_tup, ok_tYes, ok_tAnd, ok_tOr, ok_tNot, ok_dAnd, ok_dOr, ok_uNot, ok_dChain, ok_add_int, ok_add_tup, ok_add_str, ok_add_ref, ok_sub, ok_mul, ok_mul_lst, ok_mulT, ok_div, ok_mod, ok_pow, ok_shl, ok_shr, ok_band, ok_bor, ok_xor, ok_neg, ok_lt, ok_le, ok_gt, ok_ge, ok_asD, ok_eqD, ok_eq_int, ok_eq_str, ok_eq_bl, ok_eq_non, ok_eq_tup, ok_eq_ref, ok_eq_it, ok_eq_in, ok_eq_nt, ok_eq_ni, ok_ne_int, ok_ne_str, ok_ne_bl, ok_ne_non, ok_ne_tup, ok_ne_ref, ok_ne_it, ok_ne_in, ok_ne_nt, ok_ne_ni, ok_isN, ok_notN, ok_ix_tup, ok_ix_scr, ok_ix_ref, ok_pNone, ok_pSome, ok_dSl, ok_sl_tup, ok_sl_ref, ok_dRev, ok_rev_ref, ok_lRev, ok_one, ok_two, ok_abs, ok_bint, ok_bint_bl, ok_max2, ok_min2, ok_len_tup, ok_len_scr, ok_len_str, ok_len_ref, ok_btup_tup, ok_btup_scr, ok_btup_ref, ok_dL, ok_lThen, ok_dV, ok_lV, ok_dR, ok_items_tup, ok_items_scr, ok_items_ref, ok_itemsR_scr, ok_itemsR_ref, ok_lId, ok_nTup, ok_nLen, ok_nSum, ok_nAny, ok_nAll, ok_rg1, ok_asI, ok_rg2, ok_lRg, ok_dTupRg, ok_meth0, ok_meth1, ok_methL, ok_chkL, ok_append, ok_extend, ok_pop, ok_popO, ok_sOf, ok_srcOf_tup, ok_srcOf_scr, ok_srcOf_kt, ok_srcOf_ref, ok_sOfL, ok_sEnum, ok_enumOf_tup, ok_enumOf_ref, ok_sRange1, ok_sRange2, ok_gName, ok_gNil, ok_gCons, ok_gTup, oks_ok, oks_thn, oks_nx, oks_bk, oks_ct, oks_seq, oks_expr, oks_ret, oks_asg, oks_set, oks_par2, oks_par3, oks_if, oks_put, ok_setP, ok_putL, ok_fnOf, ok_dDict, ok_kNil, ok_kCons, ok_aStar, ok_star_tup, ok_star_ref, oks_for, ok_comp, scal_int, scal_str, scal_bl, scal_non, scal_tup, scal_ref, dat_int, dat_str, dat_bl, dat_non, dat_tup, ok_look, ok_store, ok_lookO_int, ok_lookO_str, ok_storeO_int, ok_storeO_str, ok_in, ok_notIn, List.getElem?_cons_zero, List.getElem?_cons_succ, List.set_cons_zero, List.set_cons_succ, List.length_cons, List.length_nil, List.map_cons, List.map_nil, List.replicate_succ, List.replicate_zero, List.cons_append, List.nil_append, Nat.reduceSub, Nat.reduceAdd, Nat.zero_add, true_and, and_true, decide_eq_true_eq, decide_eq_false_iff_not, Bool.not_eq_true', Bool.not_eq_false', forall_const, Bool.false_eq_true, Bool.true_eq_false, false_implies, true_implies, reduceCtorEq, Bool.not_true, Bool.not_false, wipeE, reduceIte, and_self, Option.some.injEq, exists_eq_left', exists_eq_left, List.getElem?_nil, List.length_map]
      simp
    · rintro acc m1 _ ⟨rfl, rfl⟩
      refine ⟨srcD _ 1 x 0, rfl, (by show 4 ≤ 15; omega), _, m1.length, rfl, ⟨by simp, 1, x, 0, (ns.map fun i => if i < 0 then -i else i).reverse, ?_, ?_, by simpa using hn⟩, (Fr.new _ _ _).trans (Fr.new _ _ _), by simp, by simp⟩
      · rw [new_get, puts_src]
      · rw [List.getElem?_append_left (by simp), new_get]
        simp [Function.comp_def]
end G

/-! Q3: how long a datum's text is; repr. -/
namespace G
open PySem (Str PyData)
open PySem
mutual
def wgt : PyData → Nat
  | .none => 4
  | .bool _ => 5
  | .int i => i.natAbs.log2 + 2
  | .str x => (reprText x).length
  | .list xs => wgtAll xs + 3
  | .tuple xs => wgtAll xs + 3
  | .dict kvs => (PyData.dict kvs).shown.length
def wgtAll : List PyData → Nat
  | [] => 0
  | x :: xs => wgt x + 2 + wgtAll xs
end
theorem textFrom_le : ∀ (ts : List Str) (k : Nat) (acc : Str), (textFrom k acc ts).length ≤ acc.length + piled ts
  | [], k, acc => Nat.le_add_right _ _
  | t :: r, k, acc => by
    have h := textFrom_le r (k + 1) (acc ++ (if k > 0 then ", " else "" : String) ++ t)
    have e : (acc ++ (if k > 0 then ", " else "" : String) ++ t).length = acc.length + (if k > 0 then 2 else 0) + t.length := by
      rw [strLen_append, strLen_append]
      split <;> rfl
    rw [e] at h
    have e2 : piled (t :: r) = t.length + 2 + piled r := by simp [piled]
    show (textFrom (k + 1) _ r).length ≤ _
    rw [e2]
    have e3 : (if k > 0 then 2 else 0 : Nat) ≤ 2 := by split <;> omega
    omega
theorem listText_le (ts : List Str) : (listText ts).length ≤ piled ts + 3 := by
  unfold listText
  rw [strLen_append]
  have h := textFrom_le ts 0 "["
  have e : (("[" : String) : Str).length = 1 := rfl
  have e2 : (("]" : String) : Str).length = 1 := rfl
  omega
theorem tupleText_le (ts : List Str) : (tupleText ts).length ≤ piled ts + 3 := by
  unfold tupleText
  rw [strLen_append, strLen_append]
  have e : (("(" : String) : Str).length = 1 := rfl
  have e2 : ((if ts.length == 1 then ",)" else ")" : String) : Str).length ≤ 2 := by split <;> decide
  by_cases h : ts = []
  · subst h
    have e3 : (Str.join ", " []).length = 0 := rfl
    omega
  · have := join_length_add ts h
    omega
mutual
theorem shown_le : ∀ d : PyData, d.shown.length ≤ wgt d
  | .none => by simp only [PyData.shown, wgt]; decide
  | .bool b => by cases b <;> (simp only [PyData.shown, wgt]; decide)
  | .int i => by
    simp only [PyData.shown, wgt]
    have h := int_text_length_le (a := i) (k := i.natAbs.log2 + 1) (by omega) (by omega)
    show (Str.ofString (toString i)).length ≤ _
    rw [ofString_length]
    exact h
  | .str x => by simp only [PyData.shown, wgt]; exact Nat.le_refl _
  | .list xs => by
    simp only [PyData.shown, wgt]
    have := listText_le (PyData.shownAll xs)
    have := shownAll_le xs
    omega
  | .tuple xs => by
    simp only [PyData.shown, wgt]
    have := tupleText_le (PyData.shownAll xs)
    have := shownAll_le xs
    omega
  | .dict kvs => by simp only [wgt]; exact Nat.le_refl _
theorem shownAll_le : ∀ ds : List PyData, piled (PyData.shownAll ds) ≤ wgtAll ds
  | [] => Nat.le_refl _
  | d :: ds => by
    have h1 := shown_le d
    have h2 := shownAll_le ds
    simp only [PyData.shownAll, wgtAll]
    have e2 : piled (d.shown :: PyData.shownAll ds) = d.shown.length + 2 + piled (PyData.shownAll ds) := by simp [piled]
    omega
end
/-- x is a datum of a text that is not too long -/
structure Shows (m : Hm) (x : P) (d : PyData) : Prop where
  dat : dat m DD x = some d
  sh : d.showable = true
  wt : wgt d ≤ SZ
section
variable {m : Hm} {Q : P → Hm → Prop}
theorem ok_repr {x : P} {d : PyData} (h : Shows m x d) : Ok (bRepr x m) Q = Q (.str d.shown) m := by
  unfold bRepr
  rw [ok_bnd, ok_asD, h.dat]
  show Ok (when_ _ _ m) Q = _
  rw [ok_when, h.sh, decide_eq_true (Nat.le_trans (shown_le d) h.wt)]
  simp only [Bool.true_and, true_and]
  rfl
theorem ok_nRepr {ps : List P} {ds : List PyData} (h : mapO (G.dat m DD) ps = some ds) (hs : PyData.showableAll ds = true) (hw : wgtAll ds + 3 ≤ SZ) : Ok (nRepr ps m) Q = Q (.str (PyData.list ds).shown) m := by
  unfold nRepr
  rw [ok_bnd]
  have e : Ok (allD ps m) = fun Q => Q ds m := by
    funext Q
    unfold allD
    rw [h]
    rfl
  rw [e]
  show Ok (when_ _ _ m) Q = _
  have h1 : (PyData.list ds).showable = true := by simp only [PyData.showable]; exact hs
  have h2 : (PyData.list ds).shown.length ≤ SZ := Nat.le_trans (shown_le _) (by simp only [wgt]; exact hw)
  rw [ok_when, h1, decide_eq_true h2]
  simp only [Bool.true_and, true_and]
  rfl
end
theorem log2_small {n k : Nat} (h : n < 2 ^ (k + 1)) : n.log2 ≤ k := by
  by_cases h0 : n = 0
  · subst h0; rw [Nat.log2_zero]; omega
  · have := (Nat.log2_lt h0).mpr h; omega
/-- ints below 2^64 -/
theorem shw_int {i : Int} (h : i.natAbs < 18446744073709551616) : (PyData.int i).showable = true ∧ wgt (.int i) ≤ 65 := by
  have := log2_small (n := i.natAbs) (k := 63) h
  simp only [PyData.showable, wgt, decide_eq_true_eq]
  omega
theorem wgtAll_le {ds : List PyData} {B : Nat} (h : ∀ d ∈ ds, wgt d ≤ B) : wgtAll ds ≤ ds.length * (B + 2) := by
  induction ds with
  | nil => simp [wgtAll]
  | cons d ds ih =>
    have h1 := h d (by simp)
    have h2 := ih fun x hx => h x (by simp [hx])
    simp only [wgtAll, List.length_cons, Nat.add_mul]
    omega
theorem showAll {ds : List PyData} (h : ∀ d ∈ ds, d.showable = true) : PyData.showableAll ds = true := by
  induction ds with
  | nil => simp [PyData.showableAll]
  | cons d ds ih =>
    simp only [PyData.showableAll, Bool.and_eq_true]
    exact ⟨h d (by simp), ih fun x hx => h x (by simp [hx])⟩
/-- a tuple's datum, its text -/
theorem Shows.int {m : Hm} {i : Int} (h : i.natAbs < 18446744073709551616) : Shows m (.int i) (.int i) := ⟨dat_int _ _ _, (shw_int h).1, Nat.le_trans (shw_int h).2 (by decide)⟩
theorem Shows.str {m : Hm} {x : Str} (h : (reprText x).length ≤ SZ) : Shows m (.str x) (.str x) := ⟨dat_str _ _ _, by simp only [PyData.showable], by simp only [wgt]; exact h⟩
theorem Shows.bl {m : Hm} {b : Bool} : Shows m (.bl b) (.bool b) := ⟨dat_bl _ _ _, by simp only [PyData.showable], by simp only [wgt]; decide⟩
theorem Shows.non {m : Hm} : Shows m .non .none := ⟨dat_non _ _, by simp only [PyData.showable], by simp only [wgt]; decide⟩
end G

/-! Q4: whole numbers, xor, ranges. -/
namespace G
open PySem (Str PyData)
abbrev nI (n : Nat) : P := .int (n : Int)
theorem bxN (a b : Nat) : PySem.Builtin.bitXor (a : Int) (b : Int) = ((a ^^^ b : Nat) : Int) := by
  rw [Bits.bitXor_pp (by omega) (by omega)]
  simp
theorem bxN0 (b : Nat) : PySem.Builtin.bitXor 0 (b : Int) = (b : Int) := by
  have := bxN 0 b
  simpa using this
def xorN (l : List Nat) : Nat := l.foldl (· ^^^ ·) 0
theorem foldl_xor (l : List Nat) : ∀ a : Nat, l.foldl (· ^^^ ·) a = a ^^^ l.foldl (· ^^^ ·) 0 := by
  induction l with
  | nil => intro a; simp
  | cons b l ih =>
    intro a
    rw [List.foldl_cons, List.foldl_cons, ih (a ^^^ b), ih (0 ^^^ b), Nat.zero_xor, Nat.xor_assoc]
theorem xorN_nil : xorN [] = 0 := rfl
theorem xorN_cons (a : Nat) (l : List Nat) : xorN (a :: l) = a ^^^ xorN l := by
  unfold xorN
  rw [List.foldl_cons, foldl_xor, Nat.zero_xor]
theorem xorN_append (l r : List Nat) : xorN (l ++ r) = xorN l ^^^ xorN r := by
  induction l with
  | nil => simp [xorN_nil]
  | cons a l ih => rw [List.cons_append, xorN_cons, ih, xorN_cons, Nat.xor_assoc]
theorem xorN_snoc (l : List Nat) (a : Nat) : xorN (l ++ [a]) = xorN l ^^^ a := by rw [xorN_append, xorN_cons, xorN_nil, Nat.xor_zero]
theorem xorN_lt {l : List Nat} {k : Nat} (h : ∀ a ∈ l, a < 2 ^ k) : xorN l < 2 ^ k := by
  induction l with
  | nil => rw [xorN_nil]; exact Nat.two_pow_pos k
  | cons a l ih =>
    rw [xorN_cons]
    exact Nat.xor_lt_two_pow (h a (by simp)) (ih fun b hb => h b (by simp [hb]))
theorem rangeP_nat (a b : Nat) : rangeP (a : Int) (b : Int) = (List.range (b - a)).map fun i => nI (a + i) := by
  unfold rangeP
  have e : ((b : Int) - (a : Int)).toNat = b - a := by omega
  rw [e]
  rfl
theorem rangeP_zero (b : Int) : rangeP 0 b = (List.range b.toNat).map nI := by
  unfold rangeP
  simp
theorem small62_nat {n : Nat} (h : n < 4611686018427387904) : small62 (n : Int) = true := by
  simp only [small62, Bool.and_eq_true, decide_eq_true_eq]
  omega
theorem mod_two_succ (x i : Nat) : x % 2 ^ (i + 1) = x % 2 ^ i + 2 ^ i * (x.testBit i).toNat := by
  rw [Nat.mod_pow_succ, Nat.testBit_eq_decide_div_mod_eq]
  congr 2
  by_cases h : x / 2 ^ i % 2 = 1
  · rw [decide_eq_true h, h]; rfl
  · rw [decide_eq_false h]; show _ = 0; omega
/-- the number of those of a property -/
theorem bit_xorN (l : List Nat) (k : Nat) : (xorN l).testBit k = decide ((l.filter fun a => a.testBit k).length % 2 = 1) := by
  induction l with
  | nil => simp [xorN_nil]
  | cons a l ih =>
    rw [xorN_cons, Nat.testBit_xor, ih, List.filter_cons]
    cases h : a.testBit k with
    | true =>
      simp only [if_true, List.length_cons]
      by_cases h2 : (l.filter fun a => a.testBit k).length % 2 = 1
      · rw [decide_eq_true h2, decide_eq_false (by omega)]; rfl
      · rw [decide_eq_false h2, decide_eq_true (by omega)]; rfl
    | false => simp
theorem gN1 (m : Hm) (a b : O) : (m ++ [a] ++ [b])[m.length]? = some a := by simp
theorem gN2 (m : Hm) (a b c : O) : (m ++ [a] ++ [b] ++ [c])[m.length]? = some a := by simp
theorem gN3 (m : Hm) (a b c d : O) : (m ++ [a] ++ [b] ++ [c] ++ [d])[m.length]? = some a := by simp
/-- the greatest, 0 if there is none -/
def maxN (l : List Nat) : Nat := l.foldr max 0
theorem le_maxN {l : List Nat} {a : Nat} (h : a ∈ l) : a ≤ maxN l := by
  induction l with
  | nil => simp at h
  | cons b l ih =>
    show a ≤ max b (maxN l)
    rcases List.mem_cons.mp h with rfl | h
    · omega
    · have := ih h; omega
theorem maxN_lt {l : List Nat} {k : Nat} (h : ∀ a ∈ l, a < k) (hk : 0 < k) : maxN l < k := by
  induction l with
  | nil => exact hk
  | cons b l ih =>
    show max b (maxN l) < k
    have := h b (by simp)
    have := ih fun a ha => h a (by simp [ha])
    omega
theorem maxN_mem (l : List Nat) : maxN l ∈ l ∨ maxN l = 0 := by
  induction l with
  | nil => exact .inr rfl
  | cons b l ih =>
    show max b (maxN l) ∈ b :: l ∨ max b (maxN l) = 0
    by_cases h : maxN l ≤ b
    · rw [Nat.max_eq_left h]; exact .inl (by simp)
    · rw [Nat.max_eq_right (by omega)]
      rcases ih with ih | ih
      · exact .inl (by simp [ih])
      · omega
theorem iMax_nat (l : List Nat) : ∀ a : Nat, iMax (a : Int) (l.map (fun (n : Nat) => (n : Int))) = ((max a (maxN l) : Nat) : Int) := by
  induction l with
  | nil => intro a; simp [iMax, maxN]
  | cons b l ih =>
    intro a
    have e : iMax (a : Int) ((b :: l).map fun (n : Nat) => (n : Int)) = iMax ((max a b : Nat) : Int) (l.map fun (n : Nat) => (n : Int)) := by
      show iMax (if (b : Int) > (a : Int) then (b : Int) else (a : Int)) _ = _
      congr 1
      split <;> omega
    rw [e, ih]
    show ((max (max a b) (maxN l) : Nat) : Int) = ((max a (max b (maxN l)) : Nat) : Int)
    omega
theorem ok_nMaxN0 (l : List Nat) (m : Hm) (Q : P → Hm → Prop) : Ok (nMax (l.map nI ++ [.int 0]) m) Q = Q (nI (maxN l)) m := by
  have e : l.map nI ++ [P.int 0] = ((l ++ [0]).map fun (n : Nat) => (n : Int)).map P.int := by simp
  rw [e, ok_nMax _ (by simp)]
  cases l with
  | nil => rfl
  | cons a l =>
    show Q (.int (iMax (a : Int) ((l ++ [0]).map fun (n : Nat) => (n : Int)))) m = Q (.int ((max a (maxN l) : Nat) : Int)) m
    have : maxN (l ++ [0]) = maxN l := by
      unfold maxN
      rw [List.foldr_append]
      rfl
    rw [iMax_nat, this]
theorem ok_nMaxN (l : List Nat) (h : l ≠ []) (m : Hm) (Q : P → Hm → Prop) : Ok (nMax (l.map nI) m) Q = Q (nI (maxN l)) m := by
  have e : l.map nI = (l.map fun (n : Nat) => (n : Int)).map P.int := by simp
  rw [e, ok_nMax _ (by simpa using h)]
  cases l with
  | nil => exact absurd rfl h
  | cons a l =>
    show Q (.int (iMax (a : Int) (l.map fun (n : Nat) => (n : Int)))) m = Q (.int ((max a (maxN l) : Nat) : Int)) m
    rw [iMax_nat]
mutual
/-- the same datum -/
def sameD : PyData → PyData → Bool
  | .none, .none => true
  | .bool a, .bool b => a == b
  | .int i, .int j => decide (i = j)
  | .str x, .str y => decide (x = y)
  | .list xs, .list ys => sameL xs ys
  | .tuple xs, .tuple ys => sameL xs ys
  | _, _ => false
def sameL : List PyData → List PyData → Bool
  | [], [] => true
  | x :: xs, y :: ys => sameD x y && sameL xs ys
  | _, _ => false
end
mutual
theorem sameD_eq : ∀ (d e : PyData), sameD d e = true → d = e
  | .none, e, h => by cases e <;> simp_all [sameD]
  | .bool b, e, h => by cases e <;> simp_all [sameD]
  | .int i, e, h => by cases e <;> simp_all [sameD]
  | .str i, e, h => by cases e <;> simp_all [sameD]
  | .list xs, e, h => by
    cases e with
    | list ys => rw [sameL_eq xs ys (by simpa [sameD] using h)]
    | _ => simp [sameD] at h
  | .tuple xs, e, h => by
    cases e with
    | tuple ys => rw [sameL_eq xs ys (by simpa [sameD] using h)]
    | _ => simp [sameD] at h
  | .dict _, e, h => by cases e <;> simp_all [sameD]
theorem sameL_eq : ∀ (xs ys : List PyData), sameL xs ys = true → xs = ys
  | [], [], _ => rfl
  | x :: xs, y :: ys, h => by
    simp only [sameL, Bool.and_eq_true] at h
    rw [sameD_eq x y h.1, sameL_eq xs ys h.2]
  | [], _ :: _, h => by simp [sameL] at h
  | _ :: _, [], h => by simp [sameL] at h
end
end G

/-! V1: a second semantics without a heap: values that nobody changes any more (Wv), values that one name alone holds (Uv). -/
namespace G
open PySem (Str PyData)
inductive Wv where
  | non
  | bl (b : Bool)
  | int (i : Int)
  | str (x : Str)
  | tup (ws : List Wv)
  | scr (ws : List Wv)
  | kt (ws : List Wv)
  | lst (ws : List Wv)
inductive Uv where
  | w (x : Wv)
  | lst (ws : List Wv)
  | dK (kvs : List (L2.Key × Wv))
  | dT (kvs : List (List L2.Key × Wv))
  /-- a source of drawn numbers: its cells stand just ahead of it, the last one first -/
  | src (cells : List Int) (left mixed turn : Int)
abbrev UEnv := List (Option Uv)
abbrev Zs := Nat → Prop
mutual
/-- p is w, the lists in it at Z -/
def PRep (Z : Zs) (m : Hm) : Wv → P → Prop
  | .non, p => p = .non
  | .bl b, p => p = .bl b
  | .int i, p => p = .int i
  | .str x, p => p = .str x
  | .tup ws, p => ∃ ps, p = .tup ps ∧ PReps Z m ws ps
  | .scr ws, p => ∃ ps, p = .scr ps ∧ PReps Z m ws ps
  | .kt ws, p => ∃ ps, p = .kt ps ∧ PReps Z m ws ps
  | .lst ws, p => ∃ n ps, p = .ref n ∧ Z n ∧ m[n]? = some (.lst ps) ∧ PReps Z m ws ps
def PReps (Z : Zs) (m : Hm) : List Wv → List P → Prop
  | [], ps => ps = []
  | w :: ws, ps => ∃ p qs, ps = p :: qs ∧ PRep Z m w p ∧ PReps Z m ws qs
end
/-- what stood at Z stands there -/
structure Keep (Z : Zs) (m : Hm) (Z' : Zs) (m' : Hm) : Prop where
  zin : ∀ k, Z k → Z' k
  same : ∀ k, Z k → m'[k]? = m[k]?
theorem Keep.refl (Z : Zs) (m : Hm) : Keep Z m Z m := ⟨fun _ h => h, fun _ _ => rfl⟩
theorem Keep.trans {Z Z1 Z2 : Zs} {m m1 m2 : Hm} (a : Keep Z m Z1 m1) (b : Keep Z1 m1 Z2 m2) : Keep Z m Z2 m2 := ⟨fun k h => b.zin k (a.zin k h), fun k h => (b.same k (a.zin k h)).trans (a.same k h)⟩
section
variable {Z Z' : Zs} {m m' : Hm}
mutual
theorem PRep.keep (K : Keep Z m Z' m') : ∀ {w : Wv} {p : P}, PRep Z m w p → PRep Z' m' w p
  | .non, p, h => h
  | .bl b, p, h => h
  | .int i, p, h => h
  | .str x, p, h => h
  | .tup ws, p, h => by
    simp only [PRep] at h ⊢
    obtain ⟨ps, e, h⟩ := h
    exact ⟨ps, e, PReps.keep K h⟩
  | .scr ws, p, h => by
    simp only [PRep] at h ⊢
    obtain ⟨ps, e, h⟩ := h
    exact ⟨ps, e, PReps.keep K h⟩
  | .kt ws, p, h => by
    simp only [PRep] at h ⊢
    obtain ⟨ps, e, h⟩ := h
    exact ⟨ps, e, PReps.keep K h⟩
  | .lst ws, p, h => by
    simp only [PRep] at h ⊢
    obtain ⟨n, ps, e, z, g, h⟩ := h
    exact ⟨n, ps, e, K.zin n z, (K.same n z).trans g, PReps.keep K h⟩
theorem PReps.keep (K : Keep Z m Z' m') : ∀ {ws : List Wv} {ps : List P}, PReps Z m ws ps → PReps Z' m' ws ps
  | [], ps, h => by simpa only [PReps] using h
  | w :: ws, ps, h => by
    simp only [PReps] at h ⊢
    obtain ⟨p, qs, e, h1, h2⟩ := h
    exact ⟨p, qs, e, PRep.keep K h1, PReps.keep K h2⟩
end
theorem preps_nil {ps : List P} : PReps Z m [] ps ↔ ps = [] := by simp only [PReps]
theorem preps_cons {w : Wv} {ws : List Wv} {p : P} {ps : List P} : PReps Z m (w :: ws) (p :: ps) ↔ PRep Z m w p ∧ PReps Z m ws ps := by
  simp only [PReps]
  constructor
  · rintro ⟨q, qs, e, h⟩
    cases e
    exact h
  · intro h
    exact ⟨p, ps, rfl, h⟩
theorem preps_cons_nil {w : Wv} {ws : List Wv} : ¬ PReps Z m (w :: ws) [] := by
  simp only [PReps]
  rintro ⟨q, qs, e, h⟩
  cases e
theorem PReps.len : ∀ {ws : List Wv} {ps : List P}, PReps Z m ws ps → ps.length = ws.length
  | [], ps, h => by rw [preps_nil.mp h]; rfl
  | w :: ws, [], h => absurd h preps_cons_nil
  | w :: ws, p :: ps, h => by simp [PReps.len (preps_cons.mp h).2]
theorem PReps.get : ∀ {ws : List Wv} {ps : List P} (i : Nat), PReps Z m ws ps → match ws[i]? with
    | some w => ∃ p, ps[i]? = some p ∧ PRep Z m w p
    | none => ps[i]? = none
  | [], ps, i, h => by rw [preps_nil.mp h]; simp
  | w :: ws, [], i, h => absurd h preps_cons_nil
  | w :: ws, p :: ps, 0, h => ⟨p, rfl, (preps_cons.mp h).1⟩
  | w :: ws, p :: ps, i + 1, h => by
    have := PReps.get i (preps_cons.mp h).2
    simpa using this
theorem PReps.append : ∀ {ws vs : List Wv} {ps qs : List P}, PReps Z m ws ps → PReps Z m vs qs → PReps Z m (ws ++ vs) (ps ++ qs)
  | [], vs, ps, qs, h, h2 => by rw [preps_nil.mp h]; exact h2
  | w :: ws, vs, [], qs, h, h2 => absurd h preps_cons_nil
  | w :: ws, vs, p :: ps, qs, h, h2 => by
    rw [List.cons_append, List.cons_append, preps_cons]
    exact ⟨(preps_cons.mp h).1, (preps_cons.mp h).2.append h2⟩
theorem PReps.of_get : ∀ {ws : List Wv} {ps : List P}, ps.length = ws.length → (∀ (i : Nat) (w : Wv) (p : P), ws[i]? = some w → ps[i]? = some p → PRep Z m w p) → PReps Z m ws ps
  | [], ps, h, g => by rw [preps_nil]; simpa using h
  | w :: ws, [], h, g => by simp at h
  | w :: ws, p :: ps, h, g => preps_cons.mpr ⟨g 0 w p rfl rfl, PReps.of_get (by simpa using h) fun i w p h1 h2 => g (i + 1) w p (by simpa using h1) (by simpa using h2)⟩
theorem PReps.at_ {ws : List Wv} {ps : List P} {i : Nat} {w : Wv} {p : P} (h : PReps Z m ws ps) (h1 : ws[i]? = some w) (h2 : ps[i]? = some p) : PRep Z m w p := by
  have := h.get i
  rw [h1] at this
  obtain ⟨q, e, r⟩ := this
  rw [h2] at e
  cases e
  exact r
theorem PReps.get_some {ws : List Wv} {ps : List P} {i : Nat} {w : Wv} (h : PReps Z m ws ps) (h1 : ws[i]? = some w) : ∃ p, ps[i]? = some p ∧ PRep Z m w p := by
  have := h.get i
  rwa [h1] at this
/-- sublists by indices -/
theorem PReps.take {ws : List Wv} {ps : List P} (h : PReps Z m ws ps) (n : Nat) : PReps Z m (ws.take n) (ps.take n) :=
  .of_get (by simp [h.len]) fun i w p h1 h2 => by
    rw [List.getElem?_take] at h1 h2
    split at h1
    · rename_i hi; rw [if_pos hi] at h2; exact h.at_ h1 h2
    · cases h1
theorem PReps.drop {ws : List Wv} {ps : List P} (h : PReps Z m ws ps) (n : Nat) : PReps Z m (ws.drop n) (ps.drop n) :=
  .of_get (by simp [h.len]) fun i w p h1 h2 => by
    rw [List.getElem?_drop] at h1 h2
    exact h.at_ h1 h2
theorem PReps.reverse {ws : List Wv} {ps : List P} (h : PReps Z m ws ps) : PReps Z m ws.reverse ps.reverse :=
  .of_get (by simp [h.len]) fun i w p h1 h2 => by
    have a := (List.getElem?_eq_some_iff.mp h1).1
    rw [List.getElem?_reverse (by simpa using a)] at h1
    rw [List.getElem?_reverse (by simpa [h.len] using a)] at h2
    rw [h.len] at h2
    exact h.at_ h1 h2
theorem PReps.set {ws : List Wv} {ps : List P} (h : PReps Z m ws ps) (i : Nat) {w : Wv} {p : P} (q : PRep Z m w p) : PReps Z m (ws.set i w) (ps.set i p) :=
  .of_get (by simp [h.len]) fun j v r h1 h2 => by
    rw [List.getElem?_set] at h1 h2
    split at h1
    · rename_i hi
      rw [if_pos hi] at h2
      split at h1
      · split at h2
        · cases h1; cases h2; exact q
        · cases h2
      · cases h1
    · rename_i hi
      rw [if_neg hi] at h2
      exact h.at_ h1 h2
theorem PReps.eraseIdx {ws : List Wv} {ps : List P} (h : PReps Z m ws ps) (i : Nat) : PReps Z m (ws.eraseIdx i) (ps.eraseIdx i) :=
  .of_get (by rw [List.length_eraseIdx, List.length_eraseIdx, h.len]) fun j w p h1 h2 => by
    rw [List.getElem?_eraseIdx] at h1 h2
    split at h1
    · rename_i hi; rw [if_pos hi] at h2; exact h.at_ h1 h2
    · rename_i hi; rw [if_neg hi] at h2; exact h.at_ h1 h2
theorem PReps.flatten_rep {ws : List Wv} {ps : List P} (h : PReps Z m ws ps) : ∀ n : Nat, PReps Z m (List.replicate n ws).flatten (List.replicate n ps).flatten
  | 0 => by simp [preps_nil]
  | n + 1 => by rw [List.replicate_succ, List.replicate_succ, List.flatten_cons, List.flatten_cons]; exact h.append (h.flatten_rep n)
theorem PReps.snoc {ws : List Wv} {ps : List P} {w : Wv} {p : P} (h : PReps Z m ws ps) (q : PRep Z m w p) : PReps Z m (ws ++ [w]) (ps ++ [p]) := h.append (preps_cons.mpr ⟨q, preps_nil.mpr rfl⟩)
end
/-- a dict's pairs -/
def KReps {κ : Type} (Z : Zs) (m : Hm) (kvs : List (κ × Wv)) (kps : List (κ × P)) : Prop := kps.map (·.1) = kvs.map (·.1) ∧ PReps Z m (kvs.map (·.2)) (kps.map (·.2))
theorem KReps.keep {κ : Type} {Z Z' : Zs} {m m' : Hm} (K : Keep Z m Z' m') {kvs : List (κ × Wv)} {kps : List (κ × P)} (h : KReps Z m kvs kps) : KReps Z' m' kvs kps := ⟨h.1, h.2.keep K⟩
/-- the cells that are a value's own -/
def fp : Uv → P → List Nat
  | .lst _, .ref n => [n]
  | .dK _, .ref n => [n]
  | .dT _, .ref n => [n]
  | .src _ _ _ _, .ref n => [n, n - 1]
  | _, _ => []
/-- p is v -/
def URep (Z : Zs) (m : Hm) : Uv → P → Prop
  | .w x, p => PRep Z m x p
  | .lst ws, p => ∃ n ps, p = .ref n ∧ ¬ Z n ∧ m[n]? = some (.lst ps) ∧ PReps Z m ws ps
  | .dK kvs, p => ∃ n kps, p = .ref n ∧ ¬ Z n ∧ m[n]? = some (.dK kps) ∧ KReps Z m kvs kps
  | .dT kvs, p => ∃ n kps, p = .ref n ∧ ¬ Z n ∧ (m[n]? = some (.dT kps) ∨ (kvs = [] ∧ m[n]? = some (.dK []))) ∧ KReps Z m kvs kps
  | .src cs l x t, p => ∃ c, p = .ref (c + 1) ∧ ¬ Z (c + 1) ∧ ¬ Z c ∧ m[c + 1]? = some (.dK (srcD c l x t)) ∧ m[c]? = some (.lst (cs.reverse.map .int))
theorem URep.fp_get {Z : Zs} {m : Hm} {v : Uv} {p : P} (h : URep Z m v p) {k : Nat} (hk : k ∈ fp v p) : (∃ o, m[k]? = some o) ∧ ¬ Z k := by
  cases v with
  | w x => simp [fp] at hk
  | lst ws => obtain ⟨n, ps, rfl, z, g, _⟩ := h; simp [fp] at hk; subst hk; exact ⟨⟨_, g⟩, z⟩
  | dK kvs => obtain ⟨n, ps, rfl, z, g, _⟩ := h; simp [fp] at hk; subst hk; exact ⟨⟨_, g⟩, z⟩
  | dT kvs =>
    obtain ⟨n, ps, rfl, z, g, _⟩ := h; simp [fp] at hk; subst hk
    rcases g with g | ⟨_, g⟩
    · exact ⟨⟨_, g⟩, z⟩
    · exact ⟨⟨_, g⟩, z⟩
  | src cs l x t =>
    obtain ⟨c, rfl, z, z2, g, g2⟩ := h
    simp [fp] at hk
    rcases hk with rfl | rfl
    · exact ⟨⟨_, g⟩, z⟩
    · exact ⟨⟨_, g2⟩, z2⟩
theorem URep.fp_lt {Z : Zs} {m : Hm} {v : Uv} {p : P} (h : URep Z m v p) {k : Nat} (hk : k ∈ fp v p) : k < m.length := by
  obtain ⟨⟨o, g⟩, _⟩ := h.fp_get hk
  exact (List.getElem?_eq_some_iff.mp g).1
theorem URep.keep {Z Z' : Zs} {m m' : Hm} (K : Keep Z m Z' m') {v : Uv} {p : P} (h : URep Z m v p) (hf : ∀ k, k ∈ fp v p → ¬ Z' k ∧ m'[k]? = m[k]?) : URep Z' m' v p := by
  cases v with
  | w x => exact PRep.keep K h
  | lst ws =>
    obtain ⟨n, ps, rfl, z, g, h⟩ := h
    obtain ⟨a, b⟩ := hf n (by simp [fp])
    exact ⟨n, ps, rfl, a, b.trans g, h.keep K⟩
  | dK kvs =>
    obtain ⟨n, ps, rfl, z, g, h⟩ := h
    obtain ⟨a, b⟩ := hf n (by simp [fp])
    exact ⟨n, ps, rfl, a, by rw [b]; exact g, h.keep K⟩
  | dT kvs =>
    obtain ⟨n, ps, rfl, z, g, h⟩ := h
    obtain ⟨a, b⟩ := hf n (by simp [fp])
    exact ⟨n, ps, rfl, a, by rw [b]; exact g, h.keep K⟩
  | src cs l x t =>
    obtain ⟨c, rfl, z, z2, g, g2⟩ := h
    obtain ⟨a, b⟩ := hf (c + 1) (by simp [fp])
    obtain ⟨a2, b2⟩ := hf c (by simp [fp])
    exact ⟨c, rfl, a, a2, b.trans g, b2.trans g2⟩
/-- the cells that the names own -/
def own (ρ : Env) (σ : UEnv) (k : Nat) : Prop := ∃ (i : Nat) (v : Uv) (p : P), σ[i]? = some (some v) ∧ ρ[i]? = some (some p) ∧ k ∈ fp v p
/-- the names hold σ -/
structure EE (Z : Zs) (m : Hm) (ρ : Env) (σ : UEnv) : Prop where
  len : σ.length = ρ.length
  zlt : ∀ k, Z k → k < m.length
  rep : ∀ (i : Nat) (v : Uv), σ[i]? = some (some v) → ∃ p, ρ[i]? = some (some p) ∧ URep Z m v p
  sep : ∀ (i j : Nat) (v w : Uv) (p q : P) (k : Nat), σ[i]? = some (some v) → ρ[i]? = some (some p) → σ[j]? = some (some w) → ρ[j]? = some (some q) → k ∈ fp v p → k ∈ fp w q → i = j
theorem EE.own_get {Z : Zs} {m : Hm} {ρ : Env} {σ : UEnv} (h : EE Z m ρ σ) {k : Nat} (hk : own ρ σ k) : ¬ Z k ∧ k < m.length := by
  obtain ⟨i, v, p, h1, h2, h3⟩ := hk
  obtain ⟨q, e, r⟩ := h.rep i v h1
  rw [h2] at e
  cases e
  exact ⟨(r.fp_get h3).2, r.fp_lt h3⟩
/-- from m to m': but what A tells stands as it stood -/
structure Step (Z : Zs) (m : Hm) (A : Nat → Prop) (Z' : Zs) (m' : Hm) (A' : Nat → Prop) : Prop where
  le : m.length ≤ m'.length
  keep : ∀ k, k < m.length → ¬ A k → m'[k]? = m[k]?
  zin : ∀ k, Z k → Z' k
  zout : ∀ k, Z' k → Z k ∨ A k ∨ m.length ≤ k
  aout : ∀ k, A' k → A k ∨ m.length ≤ k
theorem Step.refl (Z : Zs) (m : Hm) (A : Nat → Prop) : Step Z m A Z m A := ⟨Nat.le_refl _, fun _ _ _ => rfl, fun _ h => h, fun _ h => .inl h, fun _ h => .inl h⟩
theorem Step.trans {Z Z1 Z2 : Zs} {m m1 m2 : Hm} {A A1 A2 : Nat → Prop} (a : Step Z m A Z1 m1 A1) (b : Step Z1 m1 A1 Z2 m2 A2) : Step Z m A Z2 m2 A2 where
  le := Nat.le_trans a.le b.le
  keep k hk n := by
    have n1 : ¬ A1 k := fun h => by rcases a.aout k h with h | h; exact n h; omega
    have := a.le
    rw [b.keep k (by omega) n1, a.keep k hk n]
  zin k h := b.zin k (a.zin k h)
  zout k h := by
    have := a.le
    rcases b.zout k h with h | h | h
    · exact a.zout k h
    · rcases a.aout k h with h | h
      · exact .inr (.inl h)
      · exact .inr (.inr h)
    · exact .inr (.inr (by omega))
  aout k h := by
    have := a.le
    rcases b.aout k h with h | h
    · exact a.aout k h
    · exact .inr (by omega)
theorem Step.sub {Z Z' : Zs} {m m' : Hm} {A A' B B' : Nat → Prop} (a : Step Z m A Z' m' A') (h : ∀ k, A k → B k) (h' : ∀ k, B' k → A' k ∨ B k ∨ m.length ≤ k) : Step Z m B Z' m' B' where
  le := a.le
  keep k hk n := a.keep k hk fun x => n (h k x)
  zin := a.zin
  zout k x := by rcases a.zout k x with y | y | y <;> simp_all
  aout k x := by
    rcases h' k x with y | y
    · rcases a.aout k y with y | y
      · exact .inl (h k y)
      · exact .inr y
    · exact y
theorem Step.kk {Z Z' : Zs} {m m' : Hm} {A A' : Nat → Prop} (a : Step Z m A Z' m' A') (h : ∀ k, Z k → k < m.length ∧ ¬ A k) : Keep Z m Z' m' := ⟨a.zin, fun k z => a.keep k (h k z).1 (h k z).2⟩
theorem EE.kk {Z Z' : Zs} {m m' : Hm} {ρ : Env} {σ : UEnv} {A' : Nat → Prop} (h : EE Z m ρ σ) (a : Step Z m (own ρ σ) Z' m' A') : Keep Z m Z' m' := a.kk fun k z => ⟨h.zlt k z, fun o => (h.own_get o).1 z⟩
/-- results -/
inductive VRes (α : Type) where
  | ok (a : α) (σ : UEnv)
  | exc (c : String) (x : Wv) (σ : UEnv)
  | bad
abbrev UM (α : Type) := UEnv → VRes α
def ubnd {α β : Type} (r : VRes α) (f : α → UM β) : VRes β := match r with
  | .ok a σ => f a σ
  | .exc c x σ => .exc c x σ
  | .bad => .bad
theorem ubnd_ok {α β : Type} (a : α) (σ : UEnv) (f : α → UM β) : ubnd (.ok a σ) f = f a σ := rfl
section
variable {α β γ δ : Type}
/-- what is had of a result: Rp what it is, Fp its own cells -/
def SimR (Rp : Zs → Hm → Env → α → β → Prop) (Fp : α → β → Nat → Prop) (Z : Zs) (m : Hm) (A : Nat → Prop) (ρ : Env) (r : R β) (s : VRes α) : Prop := match s with
  | .ok v σ' => ∃ p m' Z', r = .ok p m' ∧ EE Z' m' ρ σ' ∧ Rp Z' m' ρ v p ∧ (∀ k, Fp v p k → ¬ own ρ σ' k ∧ ¬ Z' k ∧ k < m'.length) ∧ Step Z m A Z' m' (fun k => own ρ σ' k ∨ Fp v p k)
  | .exc c x σ' => ∃ p m' Z', r = .exc c p m' ∧ EE Z' m' ρ σ' ∧ PRep Z' m' x p ∧ Step Z m A Z' m' (own ρ σ')
  | .bad => True
def Sim (Rp : Zs → Hm → Env → α → β → Prop) (Fp : α → β → Nat → Prop) (x : Env → M β) (y : UM α) : Prop := ∀ Z m ρ σ, EE Z m ρ σ → SimR Rp Fp Z m (own ρ σ) ρ (x ρ m) (y σ)
/-- what holds stays so -/
def Sta (Rp : Zs → Hm → Env → α → β → Prop) (Fp : α → β → Nat → Prop) : Prop := ∀ Z m Z' m' ρ v p, Keep Z m Z' m' → (∀ k, Fp v p k → ¬ Z' k ∧ m'[k]? = m[k]?) → Rp Z m ρ v p → Rp Z' m' ρ v p
theorem SimR.mono {Rp : Zs → Hm → Env → α → β → Prop} {Fp : α → β → Nat → Prop} {Z Z1 : Zs} {m m1 : Hm} {A A1 : Nat → Prop} {ρ : Env} {r : R β} {s : VRes α} (h : SimR Rp Fp Z1 m1 A1 ρ r s) (a : Step Z m A Z1 m1 A1) : SimR Rp Fp Z m A ρ r s := by
  cases s with
  | ok v σ' =>
    obtain ⟨p, m', Z', h1, h2, h3, h4, h5⟩ := h
    exact ⟨p, m', Z', h1, h2, h3, h4, a.trans h5⟩
  | exc c x σ' =>
    obtain ⟨p, m', Z', h1, h2, h3, h5⟩ := h
    exact ⟨p, m', Z', h1, h2, h3, a.trans h5⟩
  | bad => trivial
/-- one behind the other -/
theorem SimR.bnd {Rp : Zs → Hm → Env → α → β → Prop} {Fp : α → β → Nat → Prop} {Rq : Zs → Hm → Env → γ → δ → Prop} {Fq : γ → δ → Nat → Prop} {Z : Zs} {m : Hm} {A : Nat → Prop} {ρ : Env} {x : M β} {s : VRes α} {f : β → M δ} {g : α → UM γ}
    (h : SimR Rp Fp Z m A ρ (x m) s)
    (k : ∀ v p Z m σ, EE Z m ρ σ → Rp Z m ρ v p → (∀ k, Fp v p k → ¬ own ρ σ k ∧ ¬ Z k ∧ k < m.length) → SimR Rq Fq Z m (fun k => own ρ σ k ∨ Fp v p k) ρ (f p m) (g v σ)) :
    SimR Rq Fq Z m A ρ (bnd x f m) (ubnd s g) := by
  unfold G.bnd
  cases s with
  | ok v σ' =>
    obtain ⟨p, m', Z', h1, h2, h3, h4, h5⟩ := h
    rw [h1]
    exact (k v p Z' m' σ' h2 h3 h4).mono h5
  | exc c x σ' =>
    obtain ⟨p, m', Z', h1, h2, h3, h5⟩ := h
    rw [h1]
    exact ⟨p, m', Z', rfl, h2, h3, h5⟩
  | bad => trivial
/-- .. while cells C are held besides -/
theorem SimR.frame {Rp : Zs → Hm → Env → α → β → Prop} {Fp : α → β → Nat → Prop} {Z : Zs} {m : Hm} {ρ : Env} {σ : UEnv} {C : Nat → Prop} {r : R β} {s : VRes α} (e : EE Z m ρ σ) (hC : ∀ k, C k → ¬ own ρ σ k ∧ ¬ Z k ∧ k < m.length) (h : SimR Rp Fp Z m (own ρ σ) ρ r s) :
    SimR (fun Z' m' ρ v p => Rp Z' m' ρ v p ∧ Keep Z m Z' m' ∧ (∀ k, C k → m'[k]? = m[k]? ∧ ¬ Z' k ∧ k < m'.length) ∧ ∀ k, Fp v p k → ¬ C k) (fun v p k => Fp v p k ∨ C k) Z m (fun k => own ρ σ k ∨ C k) ρ r s := by
  cases s with
  | ok v σ' =>
    obtain ⟨p, m', Z', h1, h2, h3, h4, h5⟩ := h
    have hc : ∀ k, C k → m'[k]? = m[k]? ∧ ¬ Z' k ∧ k < m'.length := fun k c => by
      obtain ⟨a, b, d⟩ := hC k c
      have := h5.le
      refine ⟨h5.keep k d a, fun z => ?_, by omega⟩
      rcases h5.zout k z with y | y | y
      · exact b y
      · exact a y
      · omega
    refine ⟨p, m', Z', h1, h2, ⟨h3, e.kk h5, hc, fun k f c => ?_⟩, fun k f => ?_, ?_⟩
    · obtain ⟨a, b, d⟩ := hC k c
      rcases h5.aout k (.inr f) with y | y
      · exact a y
      · omega
    · rcases f with f | c
      · exact h4 k f
      · refine ⟨fun o => ?_, (hc k c).2⟩
        obtain ⟨a, b, d⟩ := hC k c
        rcases h5.aout k (.inl o) with y | y
        · exact a y
        · omega
    · exact h5.sub (fun k x => .inl x) fun k x => by
        rcases x with x | x | x
        · exact .inl (.inl x)
        · exact .inl (.inr x)
        · exact .inr (.inl (.inr x))
  | exc c x σ' =>
    obtain ⟨p, m', Z', h1, h2, h3, h5⟩ := h
    exact ⟨p, m', Z', h1, h2, h3, h5.sub (fun k x => .inl x) fun k x => .inl x⟩
  | bad => trivial
theorem SimR.imp {Rp : Zs → Hm → Env → α → β → Prop} {Fp : α → β → Nat → Prop} {Rq : Zs → Hm → Env → α → β → Prop} {Fq : α → β → Nat → Prop} {Z : Zs} {m : Hm} {A : Nat → Prop} {ρ : Env} {r : R β} {s : VRes α} (h : SimR Rp Fp Z m A ρ r s) (k : ∀ Z' m' v p, Rp Z' m' ρ v p → Rq Z' m' ρ v p) (f : ∀ v p k, Fq v p k → Fp v p k) : SimR Rq Fq Z m A ρ r s := by
  cases s with
  | ok v σ' =>
    obtain ⟨p, m', Z', h1, h2, h3, h4, h5⟩ := h
    exact ⟨p, m', Z', h1, h2, k _ _ _ _ h3, fun k x => h4 k (f _ _ _ x), h5.sub (fun _ x => x) fun k x => by
      rcases x with x | x
      · exact .inl (.inl x)
      · exact .inl (.inr (f _ _ _ x))⟩
  | exc c x σ' => exact h
  | bad => trivial
end
end G

/-! V2: expressions. -/
namespace G
open PySem (Str PyData)
section
variable {α β : Type} {Z : Zs} {m : Hm} {A : Nat → Prop} {ρ : Env} {σ : UEnv}
theorem SimR.ret {Rp : Zs → Hm → Env → α → β → Prop} {Fp : α → β → Nat → Prop} {v : α} {p : β} (e : EE Z m ρ σ) (h : Rp Z m ρ v p) (f : ∀ k, Fp v p k → ¬ own ρ σ k ∧ ¬ Z k ∧ k < m.length ∧ A k) (ha : ∀ k, own ρ σ k → A k) : SimR Rp Fp Z m A ρ (G.ret p m) (.ok v σ) :=
  ⟨p, m, Z, rfl, e, h, fun k x => ⟨(f k x).1, (f k x).2.1, (f k x).2.2.1⟩, Nat.le_refl _, fun _ _ _ => rfl, fun _ z => z, fun _ z => .inl z, fun k x => by
    rcases x with x | x
    · exact .inl (ha k x)
    · exact .inl (f k x).2.2.2⟩
theorem SimR.bad {Rp : Zs → Hm → Env → α → β → Prop} {Fp : α → β → Nat → Prop} {r : R β} : SimR Rp Fp Z m A ρ r .bad := trivial
end
/-- what of the old things is known still -/
theorem Keep.of_step {Z Z' : Zs} {m m' : Hm} {ρ : Env} {σ : UEnv} {A' : Nat → Prop} (h : EE Z m ρ σ) (a : Step Z m (own ρ σ) Z' m' A') : Keep Z m Z' m' := h.kk a
abbrev uD := UEnv → VRes Uv
abbrev uT := UEnv → VRes Bool
abbrev uL := UEnv → VRes (List Wv)
inductive Arg where
  | u (v : Uv)
  | i (j : Nat)
abbrev Opd := UEnv → VRes Arg
abbrev uA := UEnv → VRes (List Arg)
def RD_ (Z : Zs) (m : Hm) (_ : Env) (v : Uv) (p : P) : Prop := URep Z m v p
def FD_ (v : Uv) (p : P) (k : Nat) : Prop := k ∈ fp v p
def RT_ (_ : Zs) (_ : Hm) (_ : Env) (b c : Bool) : Prop := b = c
def F0_ {α β : Type} (_ : α) (_ : β) (_ : Nat) : Prop := False
def RL_ (Z : Zs) (m : Hm) (_ : Env) (ws : List Wv) (ps : List P) : Prop := PReps Z m ws ps
abbrev SimD (d : D) (d' : uD) : Prop := Sim RD_ FD_ d d'
abbrev SimT (t : T) (t' : uT) : Prop := Sim RT_ F0_ t t'
abbrev SimL (l : LD) (l' : uL) : Prop := Sim RL_ F0_ l l'
structure ARep (Z : Zs) (m : Hm) (ρ : Env) (as : List Arg) (ps : List P) : Prop where
  len : ps.length = as.length
  u : ∀ (i : Nat) (v : Uv) (p : P), as[i]? = some (.u v) → ps[i]? = some p → URep Z m v p
  i : ∀ (i j : Nat) (p : P), as[i]? = some (.i j) → ps[i]? = some p → ρ[j]? = some (some p)
  sep : ∀ (i j : Nat) (v w : Uv) (p q : P) (k : Nat), as[i]? = some (.u v) → ps[i]? = some p → as[j]? = some (.u w) → ps[j]? = some q → k ∈ fp v p → k ∈ fp w q → i = j
def FA (as : List Arg) (ps : List P) (k : Nat) : Prop := ∃ (i : Nat) (v : Uv) (p : P), as[i]? = some (.u v) ∧ ps[i]? = some p ∧ k ∈ fp v p
abbrev SimA (a : A) (a' : uA) : Prop := Sim ARep FA a a'
/-- one operand -/
def AR1 (Z : Zs) (m : Hm) (ρ : Env) (x : Arg) (p : P) : Prop := match x with
  | .u v => URep Z m v p
  | .i j => ρ[j]? = some (some p)
def FA1 (x : Arg) (p : P) (k : Nat) : Prop := match x with
  | .u v => k ∈ fp v p
  | .i _ => False
abbrev SimO (d : D) (o : Opd) : Prop := Sim AR1 FA1 d o
def oV (i : Nat) : Opd := fun σ => match σ[i]? with
  | some (some _) => .ok (.i i) σ
  | _ => .bad
def oD (e : uD) : Opd := fun σ => ubnd (e σ) fun v σ' => .ok (.u v) σ'
def uaNil : uA := fun σ => .ok [] σ
def uaCons (o : Opd) (a : uA) : uA := fun σ => ubnd (o σ) fun x σ1 => ubnd (a σ1) fun xs σ2 => .ok (x :: xs) σ2
theorem simO_v (i : Nat) : SimO (dVar i) (oV i) := fun Z m ρ σ e => by
  unfold oV dVar
  rcases h : σ[i]? with _ | _ | v
  · exact SimR.bad
  · exact SimR.bad
  · obtain ⟨p, hp, r⟩ := e.rep i v h
    simp only [hp]
    exact SimR.ret (v := Arg.i i) e hp (fun k x => False.elim x) fun k x => x
theorem simO_d {d : D} {d' : uD} (h : SimD d d') : SimO d (oD d') := fun Z m ρ σ e => by
  have h1 := h Z m ρ σ e
  unfold oD
  cases q : d' σ with
  | ok v σ' => rw [q] at h1; exact h1
  | exc c x σ' => rw [q] at h1; exact h1
  | bad => exact trivial
theorem simA_nil : SimA aNil uaNil := fun Z m ρ σ e => SimR.ret (v := ([] : List Arg)) (p := ([] : List P)) e ⟨rfl, by simp, by simp, by simp⟩ (fun k ⟨i, v, p, h, _⟩ => by simp at h) fun k x => x
theorem AR1.sta {Z Z' : Zs} {m m' : Hm} {ρ : Env} {x : Arg} {p : P} (K : Keep Z m Z' m') (f : ∀ k, FA1 x p k → ¬ Z' k ∧ m'[k]? = m[k]?) (h : AR1 Z m ρ x p) : AR1 Z' m' ρ x p := by
  cases x with
  | u v => exact URep.keep K h f
  | i j => exact h
theorem ARep.cons {Z : Zs} {m : Hm} {ρ : Env} {x : Arg} {p : P} {as : List Arg} {ps : List P} (h : AR1 Z m ρ x p) (t : ARep Z m ρ as ps) (s : ∀ k, FA as ps k → ¬ FA1 x p k) : ARep Z m ρ (x :: as) (p :: ps) where
  len := by simp [t.len]
  u i v q h1 h2 := by
    cases i with
    | zero => cases h1; cases h2; exact h
    | succ i => exact t.u i v q (by simpa using h1) (by simpa using h2)
  i i j q h1 h2 := by
    cases i with
    | zero => cases h1; cases h2; exact h
    | succ i => exact t.i i j q (by simpa using h1) (by simpa using h2)
  sep i j v w p1 q1 k h1 h2 h3 h4 h5 h6 := by
    cases i with
    | zero =>
      cases j with
      | zero => rfl
      | succ j => cases h1; cases h2; exact absurd h5 (s k ⟨j, w, q1, by simpa using h3, by simpa using h4, h6⟩)
    | succ i =>
      cases j with
      | zero => cases h3; cases h4; exact absurd h6 (s k ⟨i, v, p1, by simpa using h1, by simpa using h2, h5⟩)
      | succ j => rw [t.sep i j v w p1 q1 k (by simpa using h1) (by simpa using h2) (by simpa using h3) (by simpa using h4) h5 h6]
theorem FA_cons {x : Arg} {p : P} {as : List Arg} {ps : List P} {k : Nat} (h : FA (x :: as) (p :: ps) k) : FA1 x p k ∨ FA as ps k := by
  obtain ⟨i, v, q, h1, h2, h3⟩ := h
  cases i with
  | zero => cases h1; cases h2; exact .inl h3
  | succ i => exact .inr ⟨i, v, q, by simpa using h1, by simpa using h2, h3⟩
theorem simA_cons {d : D} {o : Opd} {a : A} {a' : uA} (h : SimO d o) (h2 : SimA a a') : SimA (aCons d a) (uaCons o a') := fun Z m ρ σ e => by
  unfold aCons uaCons
  refine (h Z m ρ σ e).bnd fun x p Z m σ e r f => ?_
  refine ((h2 Z m ρ σ e).frame e f).bnd fun as ps Z1 m1 σ1 e1 ⟨r1, K, c, s⟩ f1 => ?_
  refine SimR.ret e1 (ARep.cons (r.sta K fun k x => ⟨(c k x).2.1, (c k x).1⟩) r1 s) (fun k hx => ?_) fun k x => .inl x
  have : FA as ps k ∨ FA1 x p k := (FA_cons hx).symm
  obtain ⟨a, b, d⟩ := f1 k this
  exact ⟨a, b, d, .inr this⟩
/-- what the operands are now -/
def rsv (σ : UEnv) : Arg → Option Uv
  | .u v => some v
  | .i j => (σ[j]?).join
def rsvs (σ : UEnv) : List Arg → Option (List Uv)
  | [] => some []
  | a :: as => match rsv σ a with
    | some v => match rsvs σ as with
      | some vs => some (v :: vs)
      | none => none
    | none => none
theorem rsvs_len {σ : UEnv} : ∀ {as : List Arg} {vs : List Uv}, rsvs σ as = some vs → vs.length = as.length
  | [], vs, h => by cases h; rfl
  | a :: as, vs, h => by
    unfold rsvs at h
    split at h
    · split at h
      · rename_i h2
        cases h
        simp [rsvs_len h2]
      · cases h
    · cases h
theorem rsvs_get {σ : UEnv} : ∀ {as : List Arg} {vs : List Uv} (i : Nat) (v : Uv), rsvs σ as = some vs → vs[i]? = some v → ∃ a, as[i]? = some a ∧ rsv σ a = some v
  | [], vs, i, v, h, g => by cases h; simp at g
  | a :: as, vs, i, v, h, g => by
    unfold rsvs at h
    split at h
    · rename_i h1
      split at h
      · rename_i h2
        cases h
        cases i with
        | zero => cases g; exact ⟨a, rfl, h1⟩
        | succ i => obtain ⟨b, q1, q2⟩ := rsvs_get i v h2 (by simpa using g); exact ⟨b, by simpa using q1, q2⟩
      · cases h
    · cases h
structure URs (Z : Zs) (m : Hm) (vs : List Uv) (ps : List P) : Prop where
  len : ps.length = vs.length
  rep : ∀ (i : Nat) (v : Uv) (p : P), vs[i]? = some v → ps[i]? = some p → URep Z m v p
def cells (vs : List Uv) (ps : List P) (k : Nat) : Prop := ∃ (i : Nat) (v : Uv) (p : P), vs[i]? = some v ∧ ps[i]? = some p ∧ k ∈ fp v p
theorem join_some {σ : UEnv} {j : Nat} {v : Uv} (h : (σ[j]?).join = some v) : σ[j]? = some (some v) := by
  rcases q : σ[j]? with _ | _ | w
  · rw [q] at h; cases h
  · rw [q] at h; cases h
  · rw [q] at h; cases h; rfl
theorem ARep.rsv {Z : Zs} {m : Hm} {ρ : Env} {σ : UEnv} {as : List Arg} {ps : List P} {vs : List Uv} (e : EE Z m ρ σ) (r : ARep Z m ρ as ps) (h : rsvs σ as = some vs) : URs Z m vs ps := by
  refine ⟨by rw [r.len, rsvs_len h], fun i v p h1 h2 => ?_⟩
  obtain ⟨a, g1, g2⟩ := rsvs_get i v h h1
  cases a with
  | u w => cases g2; exact r.u i _ p g1 h2
  | i j =>
    have hj := r.i i j p g1 h2
    obtain ⟨q, e1, e2⟩ := e.rep j v (join_some g2)
    rw [hj] at e1
    cases e1
    exact e2
theorem ARep.cells {Z : Zs} {m : Hm} {ρ : Env} {σ : UEnv} {as : List Arg} {ps : List P} {vs : List Uv} {k : Nat} (r : ARep Z m ρ as ps) (h : rsvs σ as = some vs) (hk : cells vs ps k) : own ρ σ k ∨ FA as ps k := by
  obtain ⟨i, v, p, h1, h2, h3⟩ := hk
  obtain ⟨a, g1, g2⟩ := rsvs_get i v h h1
  cases a with
  | u w => cases g2; exact .inr ⟨i, _, p, g1, h2, h3⟩
  | i j => exact .inl ⟨j, v, p, join_some g2, r.i i j p g1 h2, h3⟩
/-- a built-in: f' tells what f makes -/
def BSim (f : List P → M P) (f' : List Uv → Option Uv) : Prop := ∀ (Z : Zs) (m : Hm) (vs : List Uv) (ps : List P) (r : Uv), (∀ k, Z k → k < m.length) → URs Z m vs ps → f' vs = some r →
  ∃ p m', f ps m = .ok p m' ∧ m.length ≤ m'.length ∧ (∀ k, k < m.length → ¬ cells vs ps k → m'[k]? = m[k]?) ∧ URs Z m' vs ps ∧ URep Z m' r p ∧ (∀ k, k ∈ fp r p → m.length ≤ k)
/-- nothing old is changed -/
theorem BSim.of {f : List P → M P} {f' : List Uv → Option Uv} (h : ∀ (Z : Zs) (m : Hm) (vs : List Uv) (ps : List P) (r : Uv), (∀ k, Z k → k < m.length) → URs Z m vs ps → f' vs = some r → ∃ p os, f ps m = .ok p (m ++ os) ∧ URep Z (m ++ os) r p ∧ (∀ k, k ∈ fp r p → m.length ≤ k)) : BSim f f' := fun Z m vs ps r hz u e => by
  obtain ⟨p, os, h1, h2, h3⟩ := h Z m vs ps r hz u e
  have hs : ∀ k, k < m.length → (m ++ os)[k]? = m[k]? := fun k hk => List.getElem?_append_left hk
  refine ⟨p, m ++ os, h1, by simp, fun k hk _ => hs k hk, ⟨u.len, fun i v q a b => ?_⟩, h2, h3⟩
  have r := u.rep i v q a b
  exact r.keep ⟨fun _ z => z, fun k z => hs k (hz k z)⟩ fun k x => ⟨(r.fp_get x).2, hs k (r.fp_lt x)⟩
theorem BSim.pure {f : List P → M P} {f' : List Uv → Option Uv} (h : ∀ (Z : Zs) (m : Hm) (vs : List Uv) (ps : List P) (r : Uv), URs Z m vs ps → f' vs = some r → ∃ p x, f ps m = .ok p m ∧ r = .w x ∧ PRep Z m x p) : BSim f f' := .of fun Z m vs ps r hz u e => by
  obtain ⟨p, x, h1, rfl, h2⟩ := h Z m vs ps r u e
  exact ⟨p, [], by simpa using h1, by simpa [URep] using h2, by simp [fp]⟩
def uB (f' : List Uv → Option Uv) (a' : uA) : uD := fun σ => ubnd (a' σ) fun as σ1 => match rsvs σ1 as with
  | some vs => match f' vs with
    | some r => .ok r σ1
    | none => .bad
  | none => .bad
theorem EE.keep {Z Z' : Zs} {m m' : Hm} {ρ : Env} {σ : UEnv} (e : EE Z m ρ σ) (K : Keep Z m Z' m') (z : ∀ k, Z' k → k < m'.length) (h : ∀ k, own ρ σ k → m'[k]? = m[k]? ∧ ¬ Z' k) : EE Z' m' ρ σ where
  len := e.len
  zlt := z
  rep i v hi := by
    obtain ⟨p, h1, h2⟩ := e.rep i v hi
    exact ⟨p, h1, h2.keep K fun k hk => ⟨(h k ⟨i, v, p, hi, h1, hk⟩).2, (h k ⟨i, v, p, hi, h1, hk⟩).1⟩⟩
  sep := e.sep
theorem SimR.new {Z : Zs} {m m' : Hm} {A C : Nat → Prop} {ρ : Env} {σ : UEnv} {v : Uv} {p : P} (e : EE Z m ρ σ) (e' : EE Z m' ρ σ) (hl : m.length ≤ m'.length) (hs : ∀ k, k < m.length → ¬ C k → m'[k]? = m[k]?) (hC : ∀ k, C k → A k) (hr : URep Z m' v p) (hf : ∀ k, k ∈ fp v p → m.length ≤ k) (ha : ∀ k, own ρ σ k → A k) : SimR RD_ FD_ Z m A ρ (.ok p m') (.ok v σ) := by
  refine ⟨p, m', Z, rfl, e', hr, fun k x => ⟨fun o => ?_, (hr.fp_get x).2, hr.fp_lt x⟩, hl, fun k h n => hs k h fun c => n (hC k c), fun _ z => z, fun _ z => .inl z, fun k x => ?_⟩
  · have := (e.own_get o).2
    have := hf k x
    omega
  · rcases x with x | x
    · exact .inl (ha k x)
    · exact .inr (hf k x)
theorem FA.not_own {P0 : Nat → Prop} {as : List Arg} {ps : List P} (h : ∀ k, FA as ps k → ¬ P0 k) {k : Nat} (o : P0 k) : ¬ FA as ps k := fun x => h k x o
theorem simD_B {f : List P → M P} {f' : List Uv → Option Uv} {a : A} {a' : uA} (hf : BSim f f') (h : SimA a a') : SimD (dCall f a) (uB f' a') := fun Z m ρ σ e => by
  unfold dCall uB
  refine (h Z m ρ σ e).bnd fun as ps Z m σ e r g => ?_
  cases q : rsvs σ as with
  | none => exact SimR.bad
  | some vs =>
    dsimp only
    cases q2 : f' vs with
    | none => exact SimR.bad
    | some w =>
      obtain ⟨p, m', h1, h2, h3, h4, h5, h6⟩ := hf Z m vs ps w e.zlt (r.rsv e q) q2
      rw [h1]
      have K : Keep Z m Z m' := ⟨fun _ z => z, fun k z => h3 k (e.zlt k z) fun c => by
        rcases r.cells q c with o | o
        · exact (e.own_get o).1 z
        · exact (g k o).2.1 z⟩
      refine SimR.new (C := cells vs ps) e ⟨e.len, fun k z => by have := e.zlt k z; omega, fun i v hi => ?_, e.sep⟩ h2 h3 (fun k c => r.cells q c) h5 h6 fun k x => .inl x
      obtain ⟨p0, e1, e2⟩ := e.rep i v hi
      refine ⟨p0, e1, ?_⟩
      by_cases hc : ∃ k, k ∈ fp v p0 ∧ cells vs ps k
      · obtain ⟨k, k1, l, u, p1, c1, c2, c3⟩ := hc
        obtain ⟨b, g1, g2⟩ := rsvs_get l u q c1
        cases b with
        | u w' => cases g2; exact absurd ⟨i, v, p0, hi, e1, k1⟩ (g k ⟨l, _, p1, g1, c2, c3⟩).1
        | i j =>
          have hj := r.i l j p1 g1 c2
          have := e.sep i j v u p0 p1 k hi e1 (join_some g2) hj k1 c3
          subst this
          have e3 := join_some g2
          rw [hi] at e3
          cases e3
          rw [e1] at hj
          cases hj
          exact h4.rep l v p0 c1 c2
      · refine e2.keep K fun k hk => ⟨(e2.fp_get hk).2, h3 k (e2.fp_lt hk) fun c => hc ⟨k, hk, c⟩⟩
/-! ### names -/
def uVar (i : Nat) : uD := fun σ => match σ[i]? with
  | some (some (.w x)) => .ok (.w x) σ
  | _ => .bad
/-- the name is not used any more -/
def uMov (i : Nat) : uD := fun σ => match σ[i]? with
  | some (some v) => .ok v (σ.set i none)
  | _ => .bad
/-- no one changes it from here on -/
def frz : Uv → Option Wv
  | .w x => some x
  | .lst ws => some (.lst ws)
  | _ => none
def uFz (i : Nat) : uD := fun σ => match σ[i]? with
  | some (some v) => match frz v with
    | some x => .ok (.w x) (σ.set i (some (.w x)))
    | none => .bad
  | _ => .bad
def uC (x : Wv) : uD := fun σ => .ok (.w x) σ
theorem own_set_none {ρ : Env} {σ : UEnv} {i k : Nat} (h : own ρ (σ.set i none) k) : ∃ (j : Nat) (v : Uv) (p : P), j ≠ i ∧ σ[j]? = some (some v) ∧ ρ[j]? = some (some p) ∧ k ∈ fp v p := by
  obtain ⟨j, v, p, h1, h2, h3⟩ := h
  rw [List.getElem?_set] at h1
  split at h1
  · split at h1 <;> cases h1
  · rename_i hij
    exact ⟨j, v, p, fun z => hij z.symm, h1, h2, h3⟩
theorem EE.drop {Z : Zs} {m : Hm} {ρ : Env} {σ : UEnv} (e : EE Z m ρ σ) (i : Nat) : EE Z m ρ (σ.set i none) where
  len := by rw [List.length_set]; exact e.len
  zlt := e.zlt
  rep j v h := by
    rw [List.getElem?_set] at h
    split at h
    · split at h <;> cases h
    · exact e.rep j v h
  sep i1 j v w p q k h1 h2 h3 h4 := by
    rw [List.getElem?_set] at h1 h3
    split at h1
    · split at h1 <;> cases h1
    · split at h3
      · split at h3 <;> cases h3
      · exact e.sep i1 j v w p q k h1 h2 h3 h4
theorem simD_mov (i : Nat) : SimD (dVar i) (uMov i) := fun Z m ρ σ e => by
  unfold uMov dVar
  rcases h : σ[i]? with _ | _ | v
  · exact SimR.bad
  · exact SimR.bad
  · obtain ⟨p, hp, r⟩ := e.rep i v h
    simp only [hp]
    refine ⟨p, m, Z, rfl, e.drop i, r, fun k x => ⟨fun o => ?_, (r.fp_get x).2, r.fp_lt x⟩, Nat.le_refl _, fun _ _ _ => rfl, fun _ z => z, fun _ z => .inl z, fun k x => ?_⟩
    · obtain ⟨j, w, q, hj, h1, h2, h3⟩ := own_set_none o
      exact hj (e.sep j i w v q p k h1 h2 h hp h3 x)
    · rcases x with x | x
      · obtain ⟨j, w, q, hj, h1, h2, h3⟩ := own_set_none x
        exact .inl ⟨j, w, q, h1, h2, h3⟩
      · exact .inl ⟨i, v, p, h, hp, x⟩
theorem simD_var (i : Nat) : SimD (dVar i) (uVar i) := fun Z m ρ σ e => by
  unfold uVar dVar
  rcases h : σ[i]? with _ | _ | v
  · exact SimR.bad
  · exact SimR.bad
  · obtain ⟨p, hp, r⟩ := e.rep i v h
    cases v with
    | w x =>
      simp only [hp]
      exact SimR.ret (v := Uv.w x) e r (fun k x => by simp [FD_, fp] at x) fun k x => x
    | _ => exact SimR.bad
def WPlain : Wv → P → Prop := fun x p => ∀ Z m, PRep Z m x p
theorem simD_c {x : Wv} {p : P} (h : WPlain x p) : SimD (dC p) (uC x) := fun Z m ρ σ e => SimR.ret (v := Uv.w x) e (h Z m) (fun k x => by simp [FD_, fp] at x) fun k x => x
/-- freezing: the cells of v become Z -/
theorem frz_rep {Z : Zs} {m : Hm} {v : Uv} {p : P} {x : Wv} (hz : ∀ k, Z k → k < m.length) (r : URep Z m v p) (h : frz v = some x) : ∃ Z', Keep Z m Z' m ∧ PRep Z' m x p ∧ (∀ k, Z' k ↔ Z k ∨ k ∈ fp v p) := by
  cases v with
  | w y => cases h; exact ⟨Z, Keep.refl _ _, r, by simp [fp]⟩
  | lst ws =>
    cases h
    obtain ⟨n, ps, rfl, z, g, r⟩ := r
    have K : Keep Z m (fun k => Z k ∨ k ∈ fp (.lst ws) (.ref n)) m := ⟨fun k z => .inl z, fun _ _ => rfl⟩
    exact ⟨_, K, by simp only [PRep]; exact ⟨n, ps, rfl, .inr (by simp [fp]), g, r.keep K⟩, fun k => Iff.rfl⟩
  | _ => cases h
theorem EE.freeze {Z Z' : Zs} {m : Hm} {ρ : Env} {σ : UEnv} {i : Nat} {v : Uv} {p : P} {x : Wv} (e : EE Z m ρ σ) (h : σ[i]? = some (some v)) (hp : ρ[i]? = some (some p)) (K : Keep Z m Z' m) (r : PRep Z' m x p) (hz : ∀ k, Z' k ↔ Z k ∨ k ∈ fp v p) (hv : URep Z m v p) : EE Z' m ρ (σ.set i (some (.w x))) where
  len := by rw [List.length_set]; exact e.len
  zlt k z := by
    rcases (hz k).mp z with z | z
    · exact e.zlt k z
    · exact hv.fp_lt z
  rep j w hj := by
    rw [List.getElem?_set] at hj
    split at hj
    · rename_i hij
      subst hij
      split at hj
      · cases hj; exact ⟨p, hp, r⟩
      · cases hj
    · rename_i hij
      obtain ⟨q, h1, h2⟩ := e.rep j w hj
      refine ⟨q, h1, h2.keep K fun k hk => ⟨fun z => ?_, rfl⟩⟩
      rcases (hz k).mp z with z | z
      · exact (h2.fp_get hk).2 z
      · exact hij (e.sep i j v w p q k h hp hj h1 z hk)
  sep i1 j v1 w p1 q k h1 h2 h3 h4 h5 h6 := by
    rw [List.getElem?_set] at h1 h3
    split at h1
    · split at h1
      · cases h1; simp [fp] at h5
      · cases h1
    · split at h3
      · split at h3
        · cases h3; simp [fp] at h6
        · cases h3
      · exact e.sep i1 j v1 w p1 q k h1 h2 h3 h4 h5 h6
theorem own_set_w {ρ : Env} {σ : UEnv} {i k : Nat} {x : Wv} (h : own ρ (σ.set i (some (.w x))) k) : own ρ σ k := by
  obtain ⟨j, v, p, h1, h2, h3⟩ := h
  rw [List.getElem?_set] at h1
  split at h1
  · split at h1
    · cases h1; simp [fp] at h3
    · cases h1
  · exact ⟨j, v, p, h1, h2, h3⟩
theorem simD_fz (i : Nat) : SimD (dVar i) (uFz i) := fun Z m ρ σ e => by
  unfold uFz dVar
  rcases h : σ[i]? with _ | _ | v
  · exact SimR.bad
  · exact SimR.bad
  · obtain ⟨p, hp, r⟩ := e.rep i v h
    dsimp only
    cases hx : frz v with
    | none => exact SimR.bad
    | some x =>
      simp only [hp]
      obtain ⟨Z', K, rx, hz⟩ := frz_rep e.zlt r hx
      refine ⟨p, m, Z', rfl, e.freeze h hp K rx hz r, rx, fun k x => by simp [FD_, fp] at x, Nat.le_refl _, fun _ _ _ => rfl, K.zin, fun k z => ?_, fun k o => ?_⟩
      · rcases (hz k).mp z with z | z
        · exact .inl z
        · exact .inr (.inl ⟨i, v, p, h, hp, z⟩)
      · rcases o with o | o
        · exact .inl (own_set_w o)
        · simp [FD_, fp] at o
/-- a value of which no one changes anything any more -/
def uZ (d : uD) : UEnv → VRes Wv := fun σ => ubnd (d σ) fun v σ' => match frz v with
  | some x => .ok x σ'
  | none => .bad
def RW_ (Z : Zs) (m : Hm) (_ : Env) (x : Wv) (p : P) : Prop := PRep Z m x p
abbrev SimW (d : D) (d' : UEnv → VRes Wv) : Prop := Sim RW_ F0_ d d'
theorem simW_z {d : D} {d' : uD} (h : SimD d d') : SimW d (uZ d') := fun Z m ρ σ e => by
  have h1 := h Z m ρ σ e
  unfold uZ
  cases q : d' σ with
  | ok v σ' =>
    rw [q] at h1
    obtain ⟨p, m', Z', h1, h2, h3, h4, h5⟩ := h1
    unfold ubnd
    dsimp only
    cases hx : frz v with
    | none => exact SimR.bad
    | some x =>
      obtain ⟨Z2, K, rx, hz⟩ := frz_rep h2.zlt h3 hx
      have zl : ∀ k, Z2 k → k < m'.length := fun k z => by
        rcases (hz k).mp z with z | z
        · exact h2.zlt k z
        · exact h3.fp_lt z
      refine ⟨p, m', Z2, h1, h2.keep K zl fun k o => ⟨rfl, fun z => ?_⟩, rx, fun k x => False.elim x, h5.le, h5.keep, fun k z => K.zin k (h5.zin k z), fun k z => ?_, fun k o => ?_⟩
      · rcases (hz k).mp z with z | z
        · exact (h2.own_get o).1 z
        · exact (h4 k z).1 o
      · rcases (hz k).mp z with z | z
        · exact h5.zout k z
        · exact .inr (h5.aout k (.inr z))
      · rcases o with o | o
        · exact h5.aout k (.inl o)
        · exact False.elim o
  | exc c x σ' => rw [q] at h1; exact h1
  | bad => exact trivial
/-- .. as such a value -/
def uFr (d : uD) : uD := fun σ => ubnd (uZ d σ) fun x σ1 => .ok (.w x) σ1
theorem simD_fr {d : D} {d' : uD} (h : SimD d d') : SimD d (uFr d') := fun Z m ρ σ e => by
  have k := simW_z h Z m ρ σ e
  unfold uFr
  cases q : uZ d' σ with
  | ok x σ' =>
    rw [q] at k
    obtain ⟨p, m', Z', h1, h2, h3, h4, h5⟩ := k
    exact ⟨p, m', Z', h1, h2, h3, fun k x => by simp [FD_, fp] at x, h5.sub (fun _ x => x) fun k x => by
      rcases x with x | x
      · exact .inl (.inl x)
      · simp [FD_, fp] at x⟩
  | exc c x σ' => rw [q] at k; exact k
  | bad => exact trivial
end G

/-! V3: more expressions. -/
namespace G
open PySem (Str PyData)
section
variable {Z : Zs} {m : Hm} {ρ : Env} {σ : UEnv}
theorem getO_ok {α : Type} {n : Nat} {o : O} {f : O → M α} (h : m[n]? = some o) : getO n f m = f o m := by unfold getO; rw [h]
/-! ### operators by operands -/
theorem dOp_eq (f : P → P → M P) (a b : D) : dOp f a b = dCall (two f) (aCons a (aCons b aNil)) := by
  funext ρ
  unfold dOp dCall aCons aNil
  simp only [bnd_assoc]
  congr 1
theorem dUn_eq (f : P → M P) (a : D) : dUn f a = dCall (one f) (aCons a aNil) := by
  funext ρ
  unfold dUn dCall aCons aNil
  simp only [bnd_assoc]
  congr 1
theorem dV_eq (f : List P → M P) (a : D) : dV f a = dCall (one fun x => bnd (items x) f) (aCons a aNil) := by
  funext ρ
  unfold dV dCall aCons aNil
  simp only [bnd_assoc]
  congr 1
theorem dR_eq (f : List P → M P) (a : D) : dR f a = dCall (one fun x => bnd (itemsR x) f) (aCons a aNil) := by
  funext ρ
  unfold dR dCall aCons aNil
  simp only [bnd_assoc]
  congr 1
def revP (x : P) : M P := match x with
  | .ref n => getO n fun o => match o with
    | .lst ps => newO (.lst ps.reverse)
    | _ => bad
  | _ => bad
theorem dRev_eq (a : D) : dRev a = dCall (one revP) (aCons a aNil) := by
  funext ρ
  unfold dRev dCall aCons aNil
  simp only [bnd_assoc]
  congr 1
def uOp (f' : List Uv → Option Uv) (a b : Opd) : uD := uB f' (uaCons a (uaCons b uaNil))
def uUn (f' : List Uv → Option Uv) (a : Opd) : uD := uB f' (uaCons a uaNil)
theorem simD_op {f : P → P → M P} {f' : List Uv → Option Uv} {a b : D} {a' b' : Opd} (hf : BSim (two f) f') (h : SimO a a') (h2 : SimO b b') : SimD (dOp f a b) (uOp f' a' b') := by
  rw [dOp_eq]
  exact simD_B hf (simA_cons h (simA_cons h2 simA_nil))
theorem simD_un {f : P → M P} {f' : List Uv → Option Uv} {a : D} {a' : Opd} (hf : BSim (one f) f') (h : SimO a a') : SimD (dUn f a) (uUn f' a') := by
  rw [dUn_eq]
  exact simD_B hf (simA_cons h simA_nil)
theorem simD_rev {a : D} {a' : Opd} {f' : List Uv → Option Uv} (hf : BSim (one revP) f') (h : SimO a a') : SimD (dRev a) (uUn f' a') := by
  rw [dRev_eq]
  exact simD_B hf (simA_cons h simA_nil)
/-- the items of a value -/
def itU : Uv → Option (List Wv)
  | .w (.tup ws) => some ws
  | .w (.scr ws) => some ws
  | .w (.kt ws) => some ws
  | .w (.lst ws) => some ws
  | .lst ws => some ws
  | _ => none
/-- .. of a list, the script -/
def itR : Uv → Option (List Wv)
  | .w (.scr ws) => some ws
  | .w (.lst ws) => some ws
  | .lst ws => some ws
  | _ => none
theorem itU_ok {v : Uv} {p : P} {ws : List Wv} (r : URep Z m v p) (h : itU v = some ws) : ∃ ps, items p m = .ok ps m ∧ PReps Z m ws ps := by
  cases v with
  | w x =>
    cases x with
    | tup vs => cases h; simp only [URep, PRep] at r; obtain ⟨ps, rfl, r⟩ := r; exact ⟨ps, rfl, r⟩
    | scr vs => cases h; simp only [URep, PRep] at r; obtain ⟨ps, rfl, r⟩ := r; exact ⟨ps, rfl, r⟩
    | kt vs => cases h; simp only [URep, PRep] at r; obtain ⟨ps, rfl, r⟩ := r; exact ⟨ps, rfl, r⟩
    | lst vs => cases h; simp only [URep, PRep] at r; obtain ⟨n, ps, rfl, z, g, r⟩ := r; exact ⟨ps, (getO_ok g).trans rfl, r⟩
    | _ => cases h
  | lst vs => cases h; simp only [URep] at r; obtain ⟨n, ps, rfl, z, g, r⟩ := r; exact ⟨ps, (getO_ok g).trans rfl, r⟩
  | _ => cases h
theorem itR_ok {v : Uv} {p : P} {ws : List Wv} (r : URep Z m v p) (h : itR v = some ws) : ∃ ps, itemsR p m = .ok ps m ∧ PReps Z m ws ps := by
  cases v with
  | w x =>
    cases x with
    | scr vs => cases h; simp only [URep, PRep] at r; obtain ⟨ps, rfl, r⟩ := r; exact ⟨ps, rfl, r⟩
    | lst vs => cases h; simp only [URep, PRep] at r; obtain ⟨n, ps, rfl, z, g, r⟩ := r; exact ⟨ps, (getO_ok g).trans rfl, r⟩
    | _ => cases h
  | lst vs => cases h; simp only [URep] at r; obtain ⟨n, ps, rfl, z, g, r⟩ := r; exact ⟨ps, (getO_ok g).trans rfl, r⟩
  | _ => cases h
/-- a built-in over items -/
def NSim (f : List P → M P) (f' : List Wv → Option Uv) : Prop := ∀ (Z : Zs) (m : Hm) (ws : List Wv) (ps : List P) (r : Uv), PReps Z m ws ps → f' ws = some r →
  ∃ p os, f ps m = .ok p (m ++ os) ∧ URep Z (m ++ os) r p ∧ (∀ k, k ∈ fp r p → m.length ≤ k)
theorem NSim.pure {f : List P → M P} {f' : List Wv → Option Uv} (h : ∀ (Z : Zs) (m : Hm) (ws : List Wv) (ps : List P) (r : Uv), PReps Z m ws ps → f' ws = some r → ∃ p x, f ps m = .ok p m ∧ r = .w x ∧ PRep Z m x p) : NSim f f' := fun Z m ws ps r u e => by
  obtain ⟨p, x, h1, rfl, h2⟩ := h Z m ws ps r u e
  exact ⟨p, [], by simpa using h1, by simpa [URep] using h2, by simp [fp]⟩
theorem URs.one {v : Uv} {ps : List P} (h : URs Z m [v] ps) : ∃ p, ps = [p] ∧ URep Z m v p := by
  have := h.len
  match ps, this with
  | [p], _ => exact ⟨p, rfl, h.rep 0 v p rfl rfl⟩
theorem URs.two {v w : Uv} {ps : List P} (h : URs Z m [v, w] ps) : ∃ p q, ps = [p, q] ∧ URep Z m v p ∧ URep Z m w q := by
  have := h.len
  match ps, this with
  | [p, q], _ => exact ⟨p, q, rfl, h.rep 0 v p rfl rfl, h.rep 1 w q rfl rfl⟩
theorem URs.three {v w u : Uv} {ps : List P} (h : URs Z m [v, w, u] ps) : ∃ p q r, ps = [p, q, r] ∧ URep Z m v p ∧ URep Z m w q ∧ URep Z m u r := by
  have := h.len
  match ps, this with
  | [p, q, r], _ => exact ⟨p, q, r, rfl, h.rep 0 v p rfl rfl, h.rep 1 w q rfl rfl, h.rep 2 u r rfl rfl⟩
def b1 (g : Uv → Option Uv) : List Uv → Option Uv
  | [v] => g v
  | _ => none
def b2 (g : Uv → Uv → Option Uv) : List Uv → Option Uv
  | [v, w] => g v w
  | _ => none
def b3 (g : Uv → Uv → Uv → Option Uv) : List Uv → Option Uv
  | [v, w, u] => g v w u
  | _ => none
theorem BSim.one {f : P → M P} {g : Uv → Option Uv} (h : ∀ (Z : Zs) (m : Hm) (v : Uv) (p : P) (r : Uv), (∀ k, Z k → k < m.length) → URep Z m v p → g v = some r → ∃ q os, f p m = .ok q (m ++ os) ∧ URep Z (m ++ os) r q ∧ (∀ k, k ∈ fp r q → m.length ≤ k)) : BSim (one f) (b1 g) := .of fun Z m vs ps r hz u e => by
  match vs, e with
  | [v], e =>
    obtain ⟨p, rfl, hp⟩ := u.one
    exact h Z m v p r hz hp e
theorem BSim.one' {f : P → M P} {g : Uv → Option Uv} (h : ∀ (Z : Zs) (m : Hm) (v : Uv) (p : P) (r : Uv), URep Z m v p → g v = some r → ∃ q x, f p m = .ok q m ∧ r = .w x ∧ PRep Z m x q) : BSim (G.one f) (b1 g) := .one fun Z m v p r _ u e => by
  obtain ⟨p, x, h1, rfl, h2⟩ := h Z m v p r u e
  exact ⟨p, [], by simpa using h1, by simpa [URep] using h2, by simp [fp]⟩
theorem BSim.two {f : P → P → M P} {g : Uv → Uv → Option Uv} (h : ∀ (Z : Zs) (m : Hm) (v w : Uv) (p q : P) (r : Uv), (∀ k, Z k → k < m.length) → URep Z m v p → URep Z m w q → g v w = some r → ∃ s os, f p q m = .ok s (m ++ os) ∧ URep Z (m ++ os) r s ∧ (∀ k, k ∈ fp r s → m.length ≤ k)) : BSim (two f) (b2 g) := .of fun Z m vs ps r hz u e => by
  match vs, e with
  | [v, w], e =>
    obtain ⟨p, q, rfl, hp, hq⟩ := u.two
    exact h Z m v w p q r hz hp hq e
theorem BSim.two' {f : P → P → M P} {g : Uv → Uv → Option Uv} (h : ∀ (Z : Zs) (m : Hm) (v w : Uv) (p q : P) (r : Uv), URep Z m v p → URep Z m w q → g v w = some r → ∃ s x, f p q m = .ok s m ∧ r = .w x ∧ PRep Z m x s) : BSim (G.two f) (b2 g) := .two fun Z m v w p q r _ u u2 e => by
  obtain ⟨p, x, h1, rfl, h2⟩ := h Z m v w p q r u u2 e
  exact ⟨p, [], by simpa using h1, by simpa [URep] using h2, by simp [fp]⟩
def overU (f' : List Wv → Option Uv) : List Uv → Option Uv := b1 fun v => (itU v).bind f'
def overR (f' : List Wv → Option Uv) : List Uv → Option Uv := b1 fun v => (itR v).bind f'
theorem simD_V {f : List P → M P} {f' : List Wv → Option Uv} {d : D} {o : Opd} (hf : NSim f f') (h : SimO d o) : SimD (dV f d) (uUn (overU f') o) := by
  rw [dV_eq]
  refine simD_B (BSim.one fun Z m v p r hz u e => ?_) (simA_cons h simA_nil)
  cases q : itU v with
  | none => rw [q] at e; cases e
  | some ws =>
    rw [q] at e
    obtain ⟨ps, h1, h2⟩ := itU_ok u q
    obtain ⟨s, os, k1, k2, k3⟩ := hf Z m ws ps r h2 e
    exact ⟨s, os, by unfold bnd; rw [h1]; exact k1, k2, k3⟩
theorem simD_R {f : List P → M P} {f' : List Wv → Option Uv} {d : D} {o : Opd} (hf : NSim f f') (h : SimO d o) : SimD (dR f d) (uUn (overR f') o) := by
  rw [dR_eq]
  refine simD_B (BSim.one fun Z m v p r hz u e => ?_) (simA_cons h simA_nil)
  cases q : itR v with
  | none => rw [q] at e; cases e
  | some ws =>
    rw [q] at e
    obtain ⟨ps, h1, h2⟩ := itR_ok u q
    obtain ⟨s, os, k1, k2, k3⟩ := hf Z m ws ps r h2 e
    exact ⟨s, os, by unfold bnd; rw [h1]; exact k1, k2, k3⟩
/-! ### lists that no one holds -/
theorem simL_nil : SimL aNil (fun σ => .ok [] σ) := fun Z m ρ σ e => SimR.ret (v := ([] : List Wv)) (p := ([] : List P)) e (preps_nil.mpr rfl) (fun k x => False.elim x) fun k x => x
def lCons (d : uD) (a : uL) : uL := fun σ => ubnd (uZ d σ) fun x σ1 => ubnd (a σ1) fun xs σ2 => .ok (x :: xs) σ2
def lNil : uL := fun σ => .ok [] σ
theorem simL_cons {d : D} {d' : uD} {a : A} {a' : uL} (h : SimD d d') (h2 : SimL a a') : SimL (aCons d a) (lCons d' a') := fun Z m ρ σ e => by
  unfold aCons lCons
  refine (simW_z h Z m ρ σ e).bnd fun x p Z m σ e r f => ?_
  refine ((h2 Z m ρ σ e).frame (C := fun _ => False) e fun k x => False.elim x).bnd fun xs ps Z1 m1 σ1 e1 ⟨r1, K, c, s⟩ f1 => ?_
  exact SimR.ret e1 (preps_cons.mpr ⟨PRep.keep K r, r1⟩) (fun k x => False.elim x) fun k x => .inl x
/-- reading a value where it stands -/
def uRd (o : Opd) : uD := fun σ => ubnd (o σ) fun x σ1 => match rsv σ1 x with
  | some v => .ok v σ1
  | none => .bad
theorem simO_rd {d : D} {o : Opd} (h : SimO d o) : Sim RD_ F0_ d (uRd o) := fun Z m ρ σ e => by
  have h1 := h Z m ρ σ e
  unfold uRd
  cases q : o σ with
  | ok x σ' =>
    rw [q] at h1
    obtain ⟨p, m', Z', h1, h2, h3, h4, h5⟩ := h1
    unfold ubnd
    dsimp only
    cases x with
    | u v => exact ⟨p, m', Z', h1, h2, h3, fun k x => False.elim x, h5.sub (fun _ x => x) fun k x => by rcases x with x | x; exact .inl (.inl x); exact False.elim x⟩
    | i j =>
      cases hv : (σ'[j]?).join with
      | none => rw [show rsv σ' (.i j) = none from hv]; exact SimR.bad
      | some v =>
        rw [show rsv σ' (.i j) = some v from hv]
        obtain ⟨q, e1, e2⟩ := h2.rep j v (join_some hv)
        have h3 : ρ[j]? = some (some p) := h3
        rw [h3] at e1
        cases e1
        exact ⟨p, m', Z', h1, h2, e2, fun k x => False.elim x, h5.sub (fun _ x => x) fun k x => by rcases x with x | x; exact .inl (.inl x); exact False.elim x⟩
  | exc c x σ' => rw [q] at h1; exact h1
  | bad => exact trivial
/-- the items of a list or tuple that stand there now, as such that nobody changes -/
def frzU : Uv → Option (List Wv) := itU
def lStar (o : Opd) (a : uL) : uL := fun σ => ubnd (uRd o σ) fun v σ1 => match itU v with
  | some ws => ubnd (a σ1) fun xs σ2 => .ok (ws ++ xs) σ2
  | none => .bad
def starU : Uv → Option (List Wv)
  | .w (.tup ws) => some ws
  | .w (.lst ws) => some ws
  | .lst ws => some ws
  | _ => none
def uLst (a : uL) : uL := fun σ => ubnd (a σ) fun ws σ1 => match decide (ws.length ≤ SZ) with
  | true => .ok ws σ1
  | false => .bad
theorem when_true {α : Type} (x : M α) (m : Hm) : when_ true x m = x m := rfl
theorem simL_lst {a : A} {a' : uL} (h : SimL a a') : SimL (lLst a) (uLst a') := fun Z m ρ σ e => by
  unfold lLst uLst
  refine (h Z m ρ σ e).bnd fun ws ps Z m σ e r f => ?_
  cases q : decide (ws.length ≤ SZ) with
  | false => exact SimR.bad
  | true =>
    rw [r.len, q]
    exact SimR.ret e r (fun k x => False.elim x) fun k x => .inl x
def uTup (a : uL) : uD := fun σ => ubnd (a σ) fun ws σ1 => match decide (ws.length ≤ SZ) with
  | true => .ok (.w (.tup ws)) σ1
  | false => .bad
theorem simD_tup {a : A} {a' : uL} (h : SimL a a') : SimD (dTup a) (uTup a') := fun Z m ρ σ e => by
  unfold dTup uTup
  refine (h Z m ρ σ e).bnd fun ws ps Z m σ e r f => ?_
  cases q : decide (ws.length ≤ SZ) with
  | false => exact SimR.bad
  | true =>
    rw [r.len, q]
    exact SimR.ret (v := Uv.w (.tup ws)) e (by simp only [RD_, URep, PRep]; exact ⟨ps, rfl, r⟩) (fun k x => by simp [FD_, fp] at x) fun k x => .inl x
theorem simR_alloc {o : O} {v : Uv} {AA : Nat → Prop} (e : EE Z m ρ σ) (hr : URep Z (m ++ [o]) v (.ref m.length)) (hf : ∀ k, k ∈ fp v (.ref m.length) → m.length ≤ k) (ha : ∀ k, own ρ σ k → AA k) : SimR RD_ FD_ Z m AA ρ (newO o m) (.ok v σ) := by
  have hs : ∀ k, k < m.length → (m ++ [o])[k]? = m[k]? := fun k hk => List.getElem?_append_left hk
  have K : Keep Z m Z (m ++ [o]) := ⟨fun _ z => z, fun k z => hs k (e.zlt k z)⟩
  exact SimR.new (C := fun _ => False) e (e.keep K (fun k z => by have := e.zlt k z; simp; omega) fun k o' => ⟨hs k (e.own_get o').2, (e.own_get o').1⟩) (by simp) (fun k hk _ => hs k hk) (fun k x => False.elim x) hr hf ha
def uNew (l : uL) : uD := fun σ => ubnd (l σ) fun ws σ1 => .ok (.lst ws) σ1
theorem lst_new {ws : List Wv} {ps : List P} (hz : ∀ k, Z k → k < m.length) (r : PReps Z m ws ps) : URep Z (m ++ [.lst ps]) (.lst ws) (.ref m.length) := by
  have hs : ∀ k, k < m.length → (m ++ [O.lst ps])[k]? = m[k]? := fun k hk => List.getElem?_append_left hk
  exact ⟨m.length, ps, rfl, fun z => Nat.lt_irrefl _ (hz _ z), new_get _ _, r.keep ⟨fun _ z => z, fun k z => hs k (hz k z)⟩⟩
theorem simD_new {l : LD} {l' : uL} (h : SimL l l') : SimD (dNew l) (uNew l') := fun Z m ρ σ e => by
  unfold dNew uNew
  refine (h Z m ρ σ e).bnd fun ws ps Z m σ e r f => ?_
  exact simR_alloc e (lst_new e.zlt r) (fun k x => by simp [fp] at x; omega) fun k x => .inl x
def uL1 (f' : List Wv → Option Uv) (l : uL) : uD := fun σ => ubnd (l σ) fun ws σ1 => match f' ws with
  | some r => .ok r σ1
  | none => .bad
theorem simD_L {f : List P → M P} {f' : List Wv → Option Uv} {l : LD} {l' : uL} (hf : NSim f f') (h : SimL l l') : SimD (dL f l) (uL1 f' l') := fun Z m ρ σ e => by
  unfold dL uL1
  refine (h Z m ρ σ e).bnd fun ws ps Z m σ e r f => ?_
  cases q : f' ws with
  | none => exact SimR.bad
  | some v =>
    obtain ⟨p, os, h1, h2, h3⟩ := hf Z m ws ps v r q
    rw [h1]
    have hs : ∀ k, k < m.length → (m ++ os)[k]? = m[k]? := fun k hk => List.getElem?_append_left hk
    have K : Keep Z m Z (m ++ os) := ⟨fun _ z => z, fun k z => hs k (e.zlt k z)⟩
    exact SimR.new (C := fun _ => False) e (e.keep K (fun k z => by have := e.zlt k z; simp; omega) fun k o' => ⟨hs k (e.own_get o').2, (e.own_get o').1⟩) (by simp) (fun k hk _ => hs k hk) (fun k x => False.elim x) h2 h3 fun k x => .inl x
/-- a built-in that makes a list -/
def LSim (f : List P → M (List P)) (f' : List Wv → Option (List Wv)) : Prop := ∀ (Z : Zs) (m : Hm) (ws : List Wv) (ps : List P) (r : List Wv), PReps Z m ws ps → f' ws = some r → ∃ qs, f ps m = .ok qs m ∧ PReps Z m r qs
def uLT (f' : List Wv → Option (List Wv)) (l : uL) : uL := fun σ => ubnd (l σ) fun ws σ1 => match f' ws with
  | some r => .ok r σ1
  | none => .bad
theorem simL_then {f : List P → M (List P)} {f' : List Wv → Option (List Wv)} {l : LD} {l' : uL} (hf : LSim f f') (h : SimL l l') : SimL (lThen f l) (uLT f' l') := fun Z m ρ σ e => by
  unfold lThen uLT
  refine (h Z m ρ σ e).bnd fun ws ps Z m σ e r f => ?_
  cases q : f' ws with
  | none => exact SimR.bad
  | some v =>
    obtain ⟨qs, h1, h2⟩ := hf Z m ws ps v r q
    rw [h1]
    exact SimR.ret e h2 (fun k x => False.elim x) fun k x => .inl x
def uLV (f' : List Wv → Option (List Wv)) (o : Opd) : uL := fun σ => ubnd (uRd o σ) fun v σ1 => match itU v with
  | some ws => match f' ws with
    | some r => .ok r σ1
    | none => .bad
  | none => .bad
theorem simL_V {f : List P → M (List P)} {f' : List Wv → Option (List Wv)} {d : D} {o : Opd} (hf : LSim f f') (h : SimO d o) : SimL (lV f d) (uLV f' o) := fun Z m ρ σ e => by
  unfold lV uLV
  refine (simO_rd h Z m ρ σ e).bnd fun v p Z m σ e r f => ?_
  cases q : itU v with
  | none => exact SimR.bad
  | some ws =>
    dsimp only
    cases q2 : f' ws with
    | none => exact SimR.bad
    | some w =>
      obtain ⟨ps, h1, h2⟩ := itU_ok r q
      obtain ⟨qs, h3, h4⟩ := hf Z m ws ps w h2 q2
      unfold bnd
      rw [h1]
      dsimp only
      rw [h3]
      exact SimR.ret e h4 (fun k x => False.elim x) fun k x => .inl x
theorem simL_star {d : D} {o : Opd} {a : A} {a' : uL} (h : SimO d o) (h2 : SimL a a') : SimL (aStar d a) (fun σ => ubnd (uRd o σ) fun v σ1 => match starU v with
  | some ws => ubnd (a' σ1) fun xs σ2 => .ok (ws ++ xs) σ2
  | none => .bad) := fun Z m ρ σ e => by
  unfold aStar
  refine (simO_rd h Z m ρ σ e).bnd fun v p Z m σ e r f => ?_
  have go : ∀ (ws : List Wv) (ps : List P), PReps Z m ws ps → SimR RL_ F0_ Z m (fun k => own ρ σ k ∨ F0_ v p k) ρ (bnd (a ρ) (fun xs => G.ret (ps ++ xs)) m) (ubnd (a' σ) fun xs σ2 => .ok (ws ++ xs) σ2) := fun ws ps r => by
    refine ((h2 Z m ρ σ e).frame (C := fun _ => False) e fun k x => False.elim x).bnd fun xs qs Z1 m1 σ1 e1 ⟨r1, K, c, s⟩ f1 => ?_
    exact SimR.ret e1 ((r.keep K).append r1) (fun k x => False.elim x) fun k x => .inl x
  cases v with
  | w x =>
    cases x with
    | tup vs => simp only [RD_, URep, PRep] at r; obtain ⟨ps, rfl, r⟩ := r; exact go vs ps r
    | lst vs =>
      simp only [RD_, URep, PRep] at r
      obtain ⟨n, ps, rfl, z, g, r⟩ := r
      dsimp only [starU]
      rw [getO_ok g]
      exact go vs ps r
    | _ => exact SimR.bad
  | lst vs =>
    simp only [RD_, URep] at r
    obtain ⟨n, ps, rfl, z, g, r⟩ := r
    dsimp only [starU]
    rw [getO_ok g]
    exact go vs ps r
  | _ => exact SimR.bad
def uStar (o : Opd) (a' : uL) : uL := fun σ => ubnd (uRd o σ) fun v σ1 => match starU v with
  | some ws => ubnd (a' σ1) fun xs σ2 => .ok (ws ++ xs) σ2
  | none => .bad
def uLRev (l : uL) : uL := fun σ => ubnd (l σ) fun ws σ1 => .ok ws.reverse σ1
theorem simL_rev {l : LD} {l' : uL} (h : SimL l l') : SimL (lRev l) (uLRev l') := fun Z m ρ σ e => by
  unfold lRev uLRev
  refine (h Z m ρ σ e).bnd fun ws ps Z m σ e r f => ?_
  exact SimR.ret e (PReps.reverse r) (fun k x => False.elim x) fun k x => .inl x
/-! ### tests -/
def blU : Uv → Option Bool
  | .w (.bl b) => some b
  | _ => none
def truU : Uv → Option Bool
  | .w .non => some false
  | .w (.bl b) => some b
  | .w (.int i) => some (i != 0)
  | .w (.tup ws) => some (!ws.isEmpty)
  | _ => none
theorem blU_ok {v : Uv} {p : P} {b : Bool} (r : URep Z m v p) (h : blU v = some b) : p = .bl b := by
  unfold blU at h
  split at h
  · cases h; simpa only [URep, PRep] using r
  · cases h
def uVal (d : uD) : uT := fun σ => ubnd (d σ) fun v σ1 => match blU v with
  | some b => .ok b σ1
  | none => .bad
theorem SimR.retT {AA : Nat → Prop} {b : Bool} (e : EE Z m ρ σ) (ha : ∀ k, own ρ σ k → AA k) : SimR RT_ F0_ Z m AA ρ (G.ret b m) (.ok b σ) := SimR.ret e rfl (fun k x => False.elim x) ha
theorem simT_val {d : D} {d' : uD} (h : SimD d d') : SimT (tVal d) (uVal d') := fun Z m ρ σ e => by
  unfold tVal uVal
  refine (h Z m ρ σ e).bnd fun v p Z m σ e r f => ?_
  cases q : blU v with
  | none => exact SimR.bad
  | some b =>
    rw [blU_ok r q]
    exact SimR.retT e fun k x => .inl x
def uTru (o : Opd) : uT := fun σ => ubnd (uRd o σ) fun v σ1 => match truU v with
  | some b => .ok b σ1
  | none => .bad
theorem truU_ok {v : Uv} {p : P} {b : Bool} (r : URep Z m v p) (h : truU v = some b) : truth p m = .ok b m := by
  unfold truU at h
  split at h
  · cases h; simp only [URep, PRep] at r; subst r; rfl
  · cases h; simp only [URep, PRep] at r; subst r; rfl
  · cases h; simp only [URep, PRep] at r; subst r; rfl
  · cases h
    simp only [URep, PRep] at r
    obtain ⟨ps, rfl, r⟩ := r
    have := r.len
    unfold truth
    rename_i ws
    cases ws <;> cases ps <;> simp_all [G.ret]
  · cases h
theorem simT_tru {d : D} {o : Opd} (h : SimO d o) : SimT (tTru d) (uTru o) := fun Z m ρ σ e => by
  unfold tTru uTru
  refine (simO_rd h Z m ρ σ e).bnd fun v p Z m σ e r f => ?_
  cases q : truU v with
  | none => exact SimR.bad
  | some b =>
    rw [truU_ok r q]
    exact SimR.retT e fun k x => .inl x
def utAnd (a b : uT) : uT := fun σ => ubnd (a σ) fun k σ1 => match k with
  | true => b σ1
  | false => .ok false σ1
def utOr (a b : uT) : uT := fun σ => ubnd (a σ) fun k σ1 => match k with
  | true => .ok true σ1
  | false => b σ1
def utNot (a : uT) : uT := fun σ => ubnd (a σ) fun k σ1 => .ok (!k) σ1
def utYes : uT := fun σ => .ok true σ
theorem Sim.at_ {α β : Type} {Rp : Zs → Hm → Env → α → β → Prop} {Fp : α → β → Nat → Prop} {x : Env → M β} {y : UM α} {AA : Nat → Prop} (h : Sim Rp Fp x y) (e : EE Z m ρ σ) (ha : ∀ k, own ρ σ k → AA k) : SimR Rp Fp Z m AA ρ (x ρ m) (y σ) :=
  (h Z m ρ σ e).mono ⟨Nat.le_refl _, fun _ _ _ => rfl, fun _ z => z, fun _ z => .inl z, fun k o => .inl (ha k o)⟩
theorem simT_and {a b : T} {a' b' : uT} (h : SimT a a') (h2 : SimT b b') : SimT (tAnd a b) (utAnd a' b') := fun Z m ρ σ e => by
  unfold tAnd utAnd
  refine (h Z m ρ σ e).bnd fun k p Z m σ e r f => ?_
  cases (show k = p from r)
  cases k
  · exact SimR.retT e fun k x => .inl x
  · exact h2.at_ e fun k x => .inl x
theorem simT_or {a b : T} {a' b' : uT} (h : SimT a a') (h2 : SimT b b') : SimT (tOr a b) (utOr a' b') := fun Z m ρ σ e => by
  unfold tOr utOr
  refine (h Z m ρ σ e).bnd fun k p Z m σ e r f => ?_
  cases (show k = p from r)
  cases k
  · exact h2.at_ e fun k x => .inl x
  · exact SimR.retT e fun k x => .inl x
theorem simT_not {a : T} {a' : uT} (h : SimT a a') : SimT (tNot a) (utNot a') := fun Z m ρ σ e => by
  unfold tNot utNot
  refine (h Z m ρ σ e).bnd fun k p Z m σ e r f => ?_
  cases (show k = p from r)
  exact SimR.retT e fun k x => .inl x
theorem simT_yes : SimT tYes utYes := fun Z m ρ σ e => SimR.retT e fun k x => x
def uIf (c : uT) (a b : uD) : uD := fun σ => ubnd (c σ) fun k σ1 => match k with
  | true => a σ1
  | false => b σ1
theorem simD_if {c : T} {c' : uT} {a b : D} {a' b' : uD} (hc : SimT c c') (h : SimD a a') (h2 : SimD b b') : SimD (dIf c a b) (uIf c' a' b') := fun Z m ρ σ e => by
  unfold dIf uIf
  refine (hc Z m ρ σ e).bnd fun k p Z m σ e r f => ?_
  cases (show k = p from r)
  cases k
  · exact h2.at_ e fun k x => .inl x
  · exact h.at_ e fun k x => .inl x
theorem SimR.retW {AA : Nat → Prop} {x : Wv} {p : P} (e : EE Z m ρ σ) (r : PRep Z m x p) (ha : ∀ k, own ρ σ k → AA k) : SimR RD_ FD_ Z m AA ρ (G.ret p m) (.ok (.w x) σ) := SimR.ret (v := Uv.w x) e r (fun k x => by simp [FD_, fp] at x) ha
def uAnd (a b : uD) : uD := fun σ => ubnd (a σ) fun v σ1 => match blU v with
  | some true => b σ1
  | some false => .ok (.w (.bl false)) σ1
  | none => .bad
def uOr (a b : uD) : uD := fun σ => ubnd (a σ) fun v σ1 => match blU v with
  | some true => .ok (.w (.bl true)) σ1
  | some false => b σ1
  | none => .bad
theorem simD_and {a b : D} {a' b' : uD} (h : SimD a a') (h2 : SimD b b') : SimD (dAnd a b) (uAnd a' b') := fun Z m ρ σ e => by
  unfold dAnd uAnd
  refine (h Z m ρ σ e).bnd fun v p Z m σ e r f => ?_
  cases q : blU v with
  | none => exact SimR.bad
  | some k =>
    rw [blU_ok r q]
    cases k
    · exact SimR.retW e (by simp [PRep]) fun k x => .inl x
    · exact h2.at_ e fun k x => .inl x
theorem simD_or {a b : D} {a' b' : uD} (h : SimD a a') (h2 : SimD b b') : SimD (dOr a b) (uOr a' b') := fun Z m ρ σ e => by
  unfold dOr uOr
  refine (h Z m ρ σ e).bnd fun v p Z m σ e r f => ?_
  cases q : blU v with
  | none => exact SimR.bad
  | some k =>
    rw [blU_ok r q]
    cases k
    · exact h2.at_ e fun k x => .inl x
    · exact SimR.retW e (by simp [PRep]) fun k x => .inl x
/-- a op b op' c: b is read where it stands twice -/
def uChain (f' g' : List Uv → Option Uv) (a b c : Opd) : uD := fun σ => ubnd (uaCons a (uaCons b uaNil) σ) fun xs σ1 => match rsvs σ1 xs with
  | some vs => match (f' vs).bind blU with
    | some true => ubnd (c σ1) fun y σ2 => match rsvs σ2 (xs.drop 1 ++ [y]) with
      | some ws => match g' ws with
        | some r => .ok r σ2
        | none => .bad
      | none => .bad
    | some false => .ok (.w (.bl false)) σ1
    | none => .bad
  | none => .bad
end
end G

/-! V4: chains, slices, dicts, methods, calls. -/
namespace G
open PySem (Str PyData)
section
variable {Z : Zs} {m : Hm} {ρ : Env} {σ : UEnv}
theorem dChain_eq (f g : P → P → M P) (a b c : D) : dChain f g a b c = fun ρ => bnd (aCons a (aCons b aNil) ρ) fun xs => match xs with
    | [x, y] => bnd (f x y) fun z => match z with
      | .bl true => bnd (c ρ) fun w => g y w
      | .bl false => ret (.bl false)
      | _ => bad
    | _ => bad := by
  funext ρ
  unfold dChain aCons aNil
  simp only [bnd_assoc]
  congr 1
theorem ARep.two {as : List Arg} {p q : P} (r : ARep Z m ρ as [p, q]) : ∃ x y, as = [x, y] := by
  have := r.len
  match as, this with
  | [x, y], _ => exact ⟨x, y, rfl⟩
theorem ARep.ex2 {as : List Arg} {ps : List P} {vs : List Uv} (r : ARep Z m ρ as ps) (h : rsvs σ as = some vs) (hl : vs.length = 2) : ∃ p q, ps = [p, q] := by
  have h1 := r.len
  have h2 := rsvs_len h
  match ps, (by omega : ps.length = 2) with
  | [p, q], _ => exact ⟨p, q, rfl⟩
/-- a op b op' c -/
def uCh (f' g' : Uv → Uv → Option Uv) (a b c : Opd) : uD := fun σ => ubnd (uaCons a (uaCons b uaNil) σ) fun xs σ1 => match rsvs σ1 xs with
  | some [v, w] => match (f' v w).bind blU with
    | some true => ubnd (uRd c σ1) fun u σ2 => match rsvs σ2 xs with
      | some [_, w2] => match g' w2 u with
        | some r => .ok r σ2
        | none => .bad
      | _ => .bad
    | some false => .ok (.w (.bl false)) σ1
    | none => .bad
  | _ => .bad
/-- a comparison: nothing is changed -/
def CSim (f : P → P → M P) (f' : Uv → Uv → Option Uv) : Prop := ∀ (Z : Zs) (m : Hm) (v w : Uv) (p q : P) (r : Uv), URep Z m v p → URep Z m w q → f' v w = some r → ∃ s x, f p q m = .ok s m ∧ r = .w x ∧ PRep Z m x s
theorem CSim.b {f : P → P → M P} {f' : Uv → Uv → Option Uv} (h : CSim f f') : BSim (two f) (b2 f') := .two' h
theorem simD_chain {f g : P → P → M P} {f' g' : Uv → Uv → Option Uv} {a b c : D} {a' b' c' : Opd} (hf : CSim f f') (hg : CSim g g') (ha : SimO a a') (hb : SimO b b') (hc : SimO c c') : SimD (dChain f g a b c) (uCh f' g' a' b' c') := fun Z m ρ σ e => by
  rw [dChain_eq]
  unfold uCh
  refine (simA_cons ha (simA_cons hb simA_nil) Z m ρ σ e).bnd fun xs ps Z m σ e r F => ?_
  cases hv : rsvs σ xs with
  | none => exact SimR.bad
  | some vs =>
   match vs, hv with
   | [], hv => exact SimR.bad
   | [_], hv => exact SimR.bad
   | _ :: _ :: _ :: _, hv => exact SimR.bad
   | [v, w], hv =>
    obtain ⟨p, q, rfl⟩ := r.ex2 hv rfl
    dsimp only
    have u := r.rsv e hv
    have hp := u.rep 0 v p rfl rfl
    have hq := u.rep 1 w q rfl rfl
    show SimR RD_ FD_ Z m _ ρ (bnd (f p q) _ m) _
    cases hz : f' v w with
    | none => exact SimR.bad
    | some z =>
      obtain ⟨s, x, h1, rfl, h2⟩ := hf Z m v w p q z hp hq hz
      unfold bnd
      rw [h1]
      dsimp only [Option.bind_some]
      cases x with
      | bl k =>
        simp only [PRep] at h2
        subst h2
        cases k
        · exact SimR.retW e (by simp [PRep]) fun k x => .inl x
        · show SimR RD_ FD_ Z m _ ρ (bnd (c ρ) (fun w => g q w) m) _
          refine ((simO_rd hc Z m ρ σ e).frame (C := FA xs [p, q]) e F).bnd fun u p2 Z1 m1 σ1 e1 ⟨r1, K, C, S⟩ f1 => ?_
          have rr : ARep Z1 m1 ρ xs [p, q] := ⟨r.len, fun i v p h1 h2 => (r.u i v p h1 h2).keep K fun k hk => ⟨(C k ⟨i, v, p, h1, h2, hk⟩).2.1, (C k ⟨i, v, p, h1, h2, hk⟩).1⟩, r.i, r.sep⟩
          split
          · rename_i v3 w2 hv2
            have hq2 := (rr.rsv e1 hv2).rep 1 w2 q rfl rfl
            cases hg2 : g' w2 u with
            | none => exact SimR.bad
            | some z2 =>
              obtain ⟨s2, x2, k1, rfl, k2⟩ := hg Z1 m1 w2 u q p2 z2 hq2 r1 hg2
              rw [k1]
              exact SimR.retW e1 k2 fun k x => .inl x
          · exact SimR.bad
      | _ => exact SimR.bad
/-! ### slices -/
def intU : Uv → Option Int
  | .w (.int i) => some i
  | _ => none
theorem intU_ok {v : Uv} {p : P} {i : Int} (r : URep Z m v p) (h : intU v = some i) : p = .int i := by
  unfold intU at h
  split at h
  · cases h; simpa only [URep, PRep] using r
  · cases h
abbrev uO := UEnv → VRes (Option Int)
def uoN : uO := fun σ => .ok none σ
def uoS (o : Opd) : uO := fun σ => ubnd (uRd o σ) fun v σ1 => match intU v with
  | some i => .ok (some i) σ1
  | none => .bad
abbrev SimI {α : Type} (d : Env → M α) (d' : UM α) : Prop := Sim (fun _ _ _ (a b : α) => a = b) F0_ d d'
theorem simI_none : SimI pNone uoN := fun Z m ρ σ e => SimR.ret e rfl (fun k x => False.elim x) fun k x => x
theorem simI_some {d : D} {o : Opd} (h : SimO d o) : SimI (pSome d) (uoS o) := fun Z m ρ σ e => by
  unfold pSome uoS
  refine (simO_rd h Z m ρ σ e).bnd fun v p Z m σ e r f => ?_
  cases q : intU v with
  | none => exact SimR.bad
  | some i =>
    rw [intU_ok r q]
    exact SimR.ret e rfl (fun k x => False.elim x) fun k x => .inl x
def cutW (xs : List Wv) (lo hi : Option Int) : List Wv := (xs.drop (HT.sIx xs.length 0 lo)).take (HT.sIx xs.length xs.length hi - HT.sIx xs.length 0 lo)
def slU (v : Uv) (l h : Option Int) : Option Uv := match v with
  | .w (.tup ws) => some (.w (.tup (cutW ws l h)))
  | .w (.lst ws) => some (.lst (cutW ws l h))
  | .lst ws => some (.lst (cutW ws l h))
  | _ => none
theorem cut_rep {ws : List Wv} {ps : List P} (r : PReps Z m ws ps) (l h : Option Int) : PReps Z m (cutW ws l h) (cutP ps l h) := by
  unfold cutW cutP
  rw [r.len]
  exact (r.drop _).take _
def uSl (x : Opd) (lo hi : uO) : uD := fun σ => ubnd (x σ) fun a σ1 => ubnd (lo σ1) fun l σ2 => ubnd (hi σ2) fun h σ3 => match (rsv σ3 a).bind fun v => slU v l h with
  | some r => .ok r σ3
  | none => .bad
theorem AR1.rsv {a : Arg} {p : P} {v : Uv} (e : EE Z m ρ σ) (h : AR1 Z m ρ a p) (q : rsv σ a = some v) : URep Z m v p := by
  cases a with
  | u w => cases q; exact h
  | i j =>
    have q : (σ[j]?).join = some v := q
    obtain ⟨q1, e1, e2⟩ := e.rep j v (join_some q)
    have h : ρ[j]? = some (some p) := h
    rw [h] at e1
    cases e1
    exact e2
theorem simD_sl {d : D} {x : Opd} {lo hi : OD} {lo' hi' : uO} (h : SimO d x) (hl : SimI lo lo') (hh : SimI hi hi') : SimD (dSl d lo hi) (uSl x lo' hi') := fun Z m ρ σ e => by
  unfold dSl uSl
  refine (h Z m ρ σ e).bnd fun a p Z m σ e r F => ?_
  refine ((hl Z m ρ σ e).frame e F).bnd fun l l2 Z1 m1 σ1 e1 ⟨r1, K1, C1, S1⟩ f1 => ?_
  subst r1
  refine ((hh Z1 m1 ρ σ1 e1).frame (C := FA1 a p) e1 fun k x => f1 k (.inr x)).bnd (fun h h2 Z2 m2 σ2 e2 ⟨r2, K2, C2, S2⟩ f2 => ?_) |>.mono ⟨Nat.le_refl _, fun _ _ _ => rfl, fun _ z => z, fun _ z => .inl z, fun k o => .inl (by rcases o with o | o; exact .inl o; exact .inr (.inr o))⟩
  subst r2
  have rr := (r.sta K1 fun k x => ⟨(C1 k x).2.1, (C1 k x).1⟩).sta K2 fun k x => ⟨(C2 k x).2.1, (C2 k x).1⟩
  cases q : G.rsv σ2 a with
  | none => exact SimR.bad
  | some v =>
    have u := rr.rsv e2 q
    dsimp only [Option.bind_some]
    cases v with
    | w x =>
      cases x with
      | tup ws =>
        simp only [URep, PRep] at u
        obtain ⟨ps, rfl, u⟩ := u
        exact SimR.retW e2 (by simp only [PRep]; exact ⟨_, rfl, cut_rep u _ _⟩) fun k x => .inl x
      | lst ws =>
        simp only [URep, PRep] at u
        obtain ⟨n, ps, rfl, z, g, u⟩ := u
        show SimR RD_ FD_ _ _ _ _ (getO n _ m2) _
        rw [getO_ok g]
        exact simR_alloc e2 (lst_new e2.zlt (cut_rep u _ _)) (fun k x => by simp [fp] at x; omega) fun k x => .inl x
      | _ => exact SimR.bad
    | lst ws =>
      simp only [URep] at u
      obtain ⟨n, ps, rfl, z, g, u⟩ := u
      show SimR RD_ FD_ _ _ _ _ (getO n _ m2) _
      rw [getO_ok g]
      exact simR_alloc e2 (lst_new e2.zlt (cut_rep u _ _)) (fun k x => by simp [fp] at x; omega) fun k x => .inl x
    | _ => exact SimR.bad
/-! ### ranges -/
/-- a number of at most such a size: told so that what is not known is not gone into -/
def smK (K : Nat) (i : Int) : Bool := Nat.ble i.natAbs K
theorem smK_iff {K : Nat} {i : Int} : smK K i = true ↔ i.natAbs ≤ K := by unfold smK; exact ⟨Nat.le_of_ble_eq_true, Nat.ble_eq_true_of_le⟩
theorem smK_small {i : Int} (h : smK 1000000000 i = true) : small62 i = true := by
  have := smK_iff.mp h
  simp only [small62, Bool.and_eq_true, decide_eq_true_eq]
  omega
def rgV (a b : Int) : Bool := smK 1000000000 a && smK 1000000000 b && Nat.ble (b - a).toNat 16777216
theorem rgV_ok {a b : Int} (h : rgV a b = true) : rgOk a b = true := by
  unfold rgV at h
  simp only [Bool.and_eq_true] at h
  unfold rgOk
  rw [smK_small h.1.1, smK_small h.1.2]
  have := Nat.le_of_ble_eq_true h.2
  simp only [Bool.true_and, decide_eq_true_eq]
  exact this
abbrev uR := UEnv → VRes (Int × Int)
def uRg1 (o : Opd) : uR := fun σ => ubnd (uRd o σ) fun v σ1 => match intU v with
  | some j => .ok (0, j) σ1
  | none => .bad
def uRg2 (a b : Opd) : uR := fun σ => ubnd (uRd a σ) fun v σ1 => match intU v with
  | some i => ubnd (uRd b σ1) fun w σ2 => match intU w with
    | some j => .ok (i, j) σ2
    | none => .bad
  | none => .bad
theorem simI_rg1 {d : D} {o : Opd} (h : SimO d o) : SimI (rg1 d) (uRg1 o) := fun Z m ρ σ e => by
  unfold rg1 uRg1
  refine (simO_rd h Z m ρ σ e).bnd fun v p Z m σ e r f => ?_
  cases q : intU v with
  | none => exact SimR.bad
  | some i =>
    rw [intU_ok r q]
    exact SimR.ret (p := ((0 : Int), i)) e rfl (fun k x => False.elim x) fun k x => .inl x
theorem simI_rg2 {d d2 : D} {o o2 : Opd} (h : SimO d o) (h2 : SimO d2 o2) : SimI (rg2 d d2) (uRg2 o o2) := fun Z m ρ σ e => by
  unfold rg2 uRg2
  refine (simO_rd h Z m ρ σ e).bnd fun v p Z m σ e r f => ?_
  cases q : intU v with
  | none => exact SimR.bad
  | some i =>
    rw [intU_ok r q]
    dsimp only
    refine ((simO_rd h2 Z m ρ σ e).mono ⟨Nat.le_refl _, fun _ _ _ => rfl, fun _ z => z, fun _ z => .inl z, fun k o => .inl (.inl o)⟩).bnd fun w p2 Z m σ e r f => ?_
    cases q2 : intU w with
    | none => exact SimR.bad
    | some j =>
      rw [intU_ok r q2]
      exact SimR.ret (p := (i, j)) e rfl (fun k x => False.elim x) fun k x => .inl x
def rangeW (a b : Int) : List Wv := (List.range (b - a).toNat).map fun (i : Nat) => .int (a + i)
theorem range_rep (a b : Int) : PReps Z m (rangeW a b) (rangeP a b) := by
  unfold rangeW rangeP
  exact .of_get (by simp) fun i w p h1 h2 => by
    rw [List.getElem?_map] at h1 h2
    cases q : (List.range (b - a).toNat)[i]? with
    | none => rw [q] at h1; cases h1
    | some n => rw [q] at h1 h2; cases h1; cases h2; simp [PRep]
def uLRg (r : uR) : uL := fun σ => ubnd (r σ) fun ab σ1 => match rgV ab.1 ab.2 with
  | true => .ok (rangeW ab.1 ab.2) σ1
  | false => .bad
def uTRg (r : uR) : uD := fun σ => ubnd (r σ) fun ab σ1 => match rgV ab.1 ab.2 with
  | true => .ok (.w (.tup (rangeW ab.1 ab.2))) σ1
  | false => .bad
theorem simL_rg {r : RD} {r' : uR} (h : SimI r r') : SimL (lRg r) (uLRg r') := fun Z m ρ σ e => by
  unfold lRg uLRg
  refine (h Z m ρ σ e).bnd fun ab p Z m σ e r f => ?_
  subst r
  cases q : rgV ab.1 ab.2 with
  | false => exact SimR.bad
  | true => rw [rgV_ok q]; exact SimR.ret e (range_rep _ _) (fun k x => False.elim x) fun k x => .inl x
theorem simD_tupRg {r : RD} {r' : uR} (h : SimI r r') : SimD (dTupRg r) (uTRg r') := fun Z m ρ σ e => by
  unfold dTupRg uTRg
  refine (h Z m ρ σ e).bnd fun ab p Z m σ e r f => ?_
  subst r
  cases q : rgV ab.1 ab.2 with
  | false => exact SimR.bad
  | true => rw [rgV_ok q]; exact SimR.retW e (by simp only [PRep]; exact ⟨_, rfl, range_rep _ _⟩) fun k x => .inl x
/-! ### dicts -/
def keyW : Wv → Option L2.Key
  | .int i => some (.inl i)
  | .str x => some (.inr x)
  | _ => none
def tkeyW : Wv → Option (List L2.Key)
  | .tup ws => mapO keyW ws
  | _ => none
theorem keyW_ok {x : Wv} {p : P} {k : L2.Key} (r : PRep Z m x p) (h : keyW x = some k) : keyOf p = some k := by
  cases x with
  | int i => cases h; simp only [PRep] at r; subst r; rfl
  | str i => cases h; simp only [PRep] at r; subst r; rfl
  | _ => cases h
theorem keysW_ok : ∀ {ws : List Wv} {ps : List P} {ks : List L2.Key}, PReps Z m ws ps → mapO keyW ws = some ks → mapO keyOf ps = some ks
  | [], ps, ks, r, h => by rw [preps_nil.mp r]; exact h
  | w :: ws, [], ks, r, h => absurd r preps_cons_nil
  | w :: ws, p :: ps, ks, r, h => by
    obtain ⟨r1, r2⟩ := preps_cons.mp r
    unfold mapO at h ⊢
    cases q : keyW w with
    | none => rw [q] at h; cases h
    | some k =>
      rw [q] at h
      rw [keyW_ok r1 q]
      dsimp only at h ⊢
      cases q2 : mapO keyW ws with
      | none => rw [q2] at h; cases h
      | some ks' => rw [q2] at h; rw [keysW_ok r2 q2]; exact h
theorem tkeyW_ok {x : Wv} {p : P} {ks : List L2.Key} (r : PRep Z m x p) (h : tkeyW x = some ks) : tkeyOf p = some ks ∧ keyOf p = none := by
  cases x with
  | tup ws => simp only [PRep] at r; obtain ⟨ps, rfl, r⟩ := r; exact ⟨keysW_ok r h, rfl⟩
  | _ => cases h
section
variable {κ : Type} [DecidableEq κ]
def wGet (kvs : List (κ × Wv)) (k : κ) : Option Wv := (kvs.find? fun kv => decide (kv.1 = k)).map (·.2)
def wPut (kvs : List (κ × Wv)) (k : κ) (v : Wv) : List (κ × Wv) :=
  match kvs.any fun kv => decide (kv.1 = k) with
  | true => kvs.map fun kv => if kv.1 = k then (kv.1, v) else kv
  | false => kvs ++ [(k, v)]
theorem KReps.nil {kps : List (κ × P)} (h : KReps Z m [] kps) : kps = [] := by
  have := h.1
  simpa using this
theorem KReps.uncons {kv : κ × Wv} {kvs : List (κ × Wv)} {kps : List (κ × P)} (h : KReps Z m (kv :: kvs) kps) : ∃ p r, kps = (kv.1, p) :: r ∧ PRep Z m kv.2 p ∧ KReps Z m kvs r := by
  obtain ⟨h1, h2⟩ := h
  match kps, h1, h2 with
  | [], h1, _ => cases h1
  | (k, p) :: r, h1, h2 =>
    simp only [List.map_cons, List.cons.injEq] at h1
    obtain ⟨rfl, h1⟩ := h1
    have h2 := preps_cons.mp h2
    exact ⟨p, r, rfl, h2.1, h1, h2.2⟩
theorem KReps.cons {k : κ} {w : Wv} {p : P} {kvs : List (κ × Wv)} {kps : List (κ × P)} (h : PRep Z m w p) (t : KReps Z m kvs kps) : KReps Z m ((k, w) :: kvs) ((k, p) :: kps) := ⟨by simp [t.1], preps_cons.mpr ⟨h, t.2⟩⟩
theorem KReps.get : ∀ {kvs : List (κ × Wv)} {kps : List (κ × P)} (k : κ), KReps Z m kvs kps → match wGet kvs k with
    | some w => ∃ p, vGet kps k = some p ∧ PRep Z m w p
    | none => vGet kps k = none
  | [], kps, k, h => by rw [h.nil]; rfl
  | kv :: kvs, kps, k, h => by
    obtain ⟨p, r, rfl, h1, h2⟩ := h.uncons
    have ih := KReps.get k h2
    unfold wGet vGet at ih ⊢
    simp only [List.find?_cons]
    cases hk : decide (kv.1 = k) with
    | true => exact ⟨p, rfl, h1⟩
    | false => exact ih
theorem KReps.map : ∀ {kvs : List (κ × Wv)} {kps : List (κ × P)} {k : κ} {w : Wv} {p : P}, KReps Z m kvs kps → PRep Z m w p → KReps Z m (kvs.map fun kv => if kv.1 = k then (kv.1, w) else kv) (kps.map fun kv => if kv.1 = k then (kv.1, p) else kv)
  | [], kps, k, w, p, h, r => by rw [h.nil]; exact ⟨rfl, preps_nil.mpr rfl⟩
  | kv :: kvs, kps, k, w, p, h, r => by
    obtain ⟨q, s, rfl, h1, h2⟩ := h.uncons
    have ih := KReps.map (k := k) h2 r
    rw [List.map_cons, List.map_cons]
    by_cases hk : kv.1 = k
    · rw [if_pos hk, if_pos hk]; exact ih.cons r
    · rw [if_neg hk, if_neg hk]; exact ih.cons h1
theorem KReps.any : ∀ {kvs : List (κ × Wv)} {kps : List (κ × P)} (k : κ), KReps Z m kvs kps → (kps.any fun kv => decide (kv.1 = k)) = kvs.any fun kv => decide (kv.1 = k)
  | [], kps, k, h => by rw [h.nil]; rfl
  | kv :: kvs, kps, k, h => by
    obtain ⟨q, s, rfl, h1, h2⟩ := h.uncons
    simp only [List.any_cons, h2.any k]
theorem KReps.snoc : ∀ {kvs : List (κ × Wv)} {kps : List (κ × P)} {k : κ} {w : Wv} {p : P}, KReps Z m kvs kps → PRep Z m w p → KReps Z m (kvs ++ [(k, w)]) (kps ++ [(k, p)]) := fun h r => ⟨by simp [h.1], by simpa using h.2.snoc r⟩
theorem KReps.put {kvs : List (κ × Wv)} {kps : List (κ × P)} {k : κ} {w : Wv} {p : P} (h : KReps Z m kvs kps) (r : PRep Z m w p) : KReps Z m (wPut kvs k w) (vPut kps k p) := by
  unfold wPut vPut
  rw [h.any]
  cases kvs.any fun kv => decide (kv.1 = k) with
  | true => exact h.map r
  | false => exact h.snoc r
theorem KReps.len {kvs : List (κ × Wv)} {kps : List (κ × P)} (h : KReps Z m kvs kps) : kps.length = kvs.length := by
  have := congrArg List.length h.1
  simpa using this
end
/-- a dict's value at a key -/
def lookU (v : Uv) (x : Wv) : Option (Option Wv) := match v with
  | .dK kvs => (keyW x).map (wGet kvs)
  | .dT kvs => (tkeyW x).map (wGet kvs)
  | _ => none
def ORep (Z : Zs) (m : Hm) (o : Option Wv) (o' : Option P) : Prop := match o with
  | some w => ∃ z, o' = some z ∧ PRep Z m w z
  | none => o' = none
/-- what a dict tells, perhaps by becoming one of the other kind -/
theorem look_ok {v : Uv} {x : Wv} {p q : P} {o : Option Wv} (u : URep Z m v p) (r : PRep Z m x q) (h : lookU v x = some o) : ∃ n o' m', p = .ref n ∧ dLook n q m = .ok o' m' ∧ ORep Z m o o' ∧ m'.length = m.length ∧ (∀ k, k ≠ n → m'[k]? = m[k]?) ∧ (m' = m ∨ (m' = m.set n (.dT []) ∧ v = .dT [])) := by
  cases v with
  | dK kvs =>
    unfold lookU at h
    cases hk : keyW x with
    | none => rw [hk] at h; cases h
    | some k =>
      rw [hk] at h
      cases h
      obtain ⟨n, kps, rfl, z, g, u⟩ := u
      refine ⟨n, vGet kps k, m, rfl, ?_, ?_, rfl, fun _ _ => rfl, .inl rfl⟩
      · unfold dLook
        rw [g]
        dsimp only
        rw [keyW_ok r hk]
      · have := u.get k
        exact this
  | dT kvs =>
    unfold lookU at h
    cases hk : tkeyW x with
    | none => rw [hk] at h; cases h
    | some k =>
      rw [hk] at h
      cases h
      obtain ⟨n, kps, rfl, z, g, u⟩ := u
      obtain ⟨t1, t2⟩ := tkeyW_ok r hk
      rcases g with g | ⟨rfl, g⟩
      · refine ⟨n, vGet kps k, m, rfl, ?_, ?_, rfl, fun _ _ => rfl, .inl rfl⟩
        · unfold dLook
          rw [g]
          dsimp only
          rw [t1]
        · have := u.get k
          exact this
      · refine ⟨n, none, m.set n (.dT []), rfl, ?_, rfl, by simp, fun k hk => by rw [List.getElem?_set_ne (Ne.symm hk)], .inr ⟨rfl, rfl⟩⟩
        unfold dLook
        rw [g]
        dsimp only
        rw [t2]
        dsimp only
        rw [t1]
  | _ => cases h
end
end G

/-! V5: built-in operators. -/
namespace G
open PySem (Str PyData)
section
variable {Z : Zs} {m : Hm} {ρ : Env} {σ : UEnv}
/-! ### data -/
mutual
def wdat : Nat → Wv → Option PyData
  | _, .non => some .none
  | _, .bl b => some (.bool b)
  | _, .int i => some (.int i)
  | _, .str x => some (.str x)
  | 0, .tup _ => none
  | 0, .scr _ => none
  | 0, .kt _ => none
  | 0, .lst _ => none
  | f + 1, .tup ws => (wdats f ws).map .tuple
  | f + 1, .scr ws => (wdats f ws).map .list
  | f + 1, .kt ws => (wdats f ws).map .tuple
  | f + 1, .lst ws => (wdats f ws).map .list
def wdats : Nat → List Wv → Option (List PyData)
  | _, [] => some []
  | f, w :: ws => match wdat f w with
    | some d => match wdats f ws with
      | some ds => some (d :: ds)
      | none => none
    | none => none
end
mutual
theorem wdat_eq : ∀ (f : Nat) {x : Wv} {p : P}, PRep Z m x p → dat m f p = wdat f x
  | f, .non, p, h => by simp only [PRep] at h; subst h; cases f <;> simp only [dat, wdat]
  | f, .bl b, p, h => by simp only [PRep] at h; subst h; cases f <;> simp only [dat, wdat]
  | f, .int i, p, h => by simp only [PRep] at h; subst h; cases f <;> simp only [dat, wdat]
  | f, .str x, p, h => by simp only [PRep] at h; subst h; cases f <;> simp only [dat, wdat]
  | 0, .tup ws, p, h => by simp only [PRep] at h; obtain ⟨ps, rfl, h⟩ := h; simp only [dat, wdat]
  | 0, .scr ws, p, h => by simp only [PRep] at h; obtain ⟨ps, rfl, h⟩ := h; simp only [dat, wdat]
  | 0, .kt ws, p, h => by simp only [PRep] at h; obtain ⟨ps, rfl, h⟩ := h; simp only [dat, wdat]
  | 0, .lst ws, p, h => by simp only [PRep] at h; obtain ⟨n, ps, rfl, z, g, h⟩ := h; simp only [dat, wdat]
  | f + 1, .tup ws, p, h => by simp only [PRep] at h; obtain ⟨ps, rfl, h⟩ := h; simp only [dat, wdat, wdats_eq f h]
  | f + 1, .scr ws, p, h => by simp only [PRep] at h; obtain ⟨ps, rfl, h⟩ := h; simp only [dat, wdat, wdats_eq f h]
  | f + 1, .kt ws, p, h => by simp only [PRep] at h; obtain ⟨ps, rfl, h⟩ := h; simp only [dat, wdat, wdats_eq f h]
  | f + 1, .lst ws, p, h => by simp only [PRep] at h; obtain ⟨n, ps, rfl, z, g, h⟩ := h; simp only [dat, wdat, g, wdats_eq f h]
theorem wdats_eq : ∀ (f : Nat) {ws : List Wv} {ps : List P}, PReps Z m ws ps → mapO (dat m f) ps = wdats f ws
  | f, [], ps, h => by rw [preps_nil.mp h]; simp only [mapO, wdats]
  | f, w :: ws, [], h => absurd h preps_cons_nil
  | f, w :: ws, p :: ps, h => by
    obtain ⟨h1, h2⟩ := preps_cons.mp h
    simp only [mapO, wdats, wdat_eq f h1, wdats_eq f h2]
    cases wdat f w with
    | none => rfl
    | some d => cases wdats f ws <;> rfl
end
/-- the datum of a value -/
def udat : Uv → Option PyData
  | .w x => wdat DD x
  | .lst ws => wdat DD (.lst ws)
  | _ => none
theorem udat_ok {v : Uv} {p : P} {d : PyData} (u : URep Z m v p) (h : udat v = some d) : dat m DD p = some d := by
  cases v with
  | w x => rw [wdat_eq DD u]; exact h
  | lst ws =>
    obtain ⟨n, ps, rfl, z, g, u⟩ := u
    have h : wdat DD (.lst ws) = some d := h
    simp only [DD, wdat] at h
    simp only [DD, dat, g, wdats_eq 59 u]
    exact h
  | _ => cases h
theorem asD_ok {v : Uv} {p : P} {d : PyData} (u : URep Z m v p) (h : udat v = some d) : asD p m = .ok d m := by
  unfold asD
  rw [udat_ok u h]
def kindB : Wv → Nat
  | .non => 0
  | .bl _ => 1
  | .int _ => 2
  | .str _ => 3
  | _ => 4
def eqD_ (neg : Bool) (v w : Uv) : Option Uv := match udat v with
  | some d => match udat w with
    | some e => match PySem.SeqAt.shaped d && PySem.SeqAt.shaped e with
      | true => some (.w (.bl (PyData.eqv d e != neg)))
      | false => none
    | none => none
  | none => none
def eqU (neg : Bool) (v w : Uv) : Option Uv := match v, w with
  | .w (.int i), .w (.int j) => some (.w (.bl (decide (i = j) != neg)))
  | .w (.str i), .w (.str j) => some (.w (.bl (decide (i = j) != neg)))
  | .w (.bl i), .w (.bl j) => some (.w (.bl (decide (i = j) != neg)))
  | .w .non, .w .non => some (.w (.bl (true != neg)))
  | v, w => eqD_ neg v w
theorem eqD_ok {neg : Bool} {v w r : Uv} {p q : P} (u : URep Z m v p) (u2 : URep Z m w q) (h : eqD_ neg v w = some r) : ∃ s x, eqD neg p q m = .ok s m ∧ r = .w x ∧ PRep Z m x s := by
  unfold eqD_ at h
  cases h1 : udat v with
  | none => rw [h1] at h; cases h
  | some d =>
    rw [h1] at h
    dsimp only at h
    cases h2 : udat w with
    | none => rw [h2] at h; cases h
    | some e =>
      rw [h2] at h
      dsimp only at h
      cases h3 : PySem.SeqAt.shaped d && PySem.SeqAt.shaped e with
      | false => rw [h3] at h; cases h
      | true =>
        rw [h3] at h
        cases h
        refine ⟨.bl (PyData.eqv d e != neg), _, ?_, rfl, by simp only [PRep]⟩
        unfold eqD bnd
        rw [asD_ok u h1]
        dsimp only
        rw [asD_ok u2 h2]
        dsimp only
        rw [h3]
        rfl
theorem eqP_gen {neg : Bool} {p q : P} (h : scalP p q = none) : (if neg then oNe p q else oEq p q) = eqD neg p q := by
  cases neg
  · simp only [Bool.false_eq_true, if_false]; unfold oEq; rw [h]
  · simp only [if_true]; unfold oNe; rw [h]
theorem eqP_sc {neg : Bool} {p q : P} {b : Bool} (h : scalP p q = some b) : (if neg then oNe p q else oEq p q) m = .ok (.bl (b != neg)) m := by
  cases neg
  · simp only [Bool.false_eq_true, if_false]; unfold oEq; rw [h]; simp [G.ret]
  · simp only [if_true]; unfold oNe; rw [h]; simp [G.ret]
theorem scal_none {v w : Uv} {p q : P} (u : URep Z m v p) (u2 : URep Z m w q) (h : ∀ b, scalP p q = some b → False) : scalP p q = none := by
  cases h2 : scalP p q with
  | none => rfl
  | some b => exact absurd h2 (h b)
theorem cs_eqN (neg : Bool) : CSim (fun p q => if neg then oNe p q else oEq p q) (eqU neg) := fun Z m v w p q r u u2 h => by
  have gen : eqD_ neg v w = some r → scalP p q = none → ∃ s x, (if neg then oNe p q else oEq p q) m = .ok s m ∧ r = .w x ∧ PRep Z m x s := fun h1 h2 => by
    rw [eqP_gen h2]
    exact eqD_ok u u2 h1
  unfold eqU at h
  split at h
  · cases h; simp only [URep, PRep] at u u2; subst u u2; exact ⟨_, _, eqP_sc rfl, rfl, by simp only [PRep]⟩
  · cases h; simp only [URep, PRep] at u u2; subst u u2; exact ⟨_, _, eqP_sc rfl, rfl, by simp only [PRep]⟩
  · cases h; simp only [URep, PRep] at u u2; subst u u2; exact ⟨_, _, eqP_sc rfl, rfl, by simp only [PRep]⟩
  · cases h; simp only [URep, PRep] at u u2; subst u u2; exact ⟨_, _, eqP_sc rfl, rfl, by simp only [PRep]⟩
  · rename_i n1 n2 n3 n4
    refine gen h ?_
    cases hs : scalP p q with
    | none => rfl
    | some b =>
      exfalso
      unfold scalP at hs
      have inv : ∀ {v : Uv} {p : P}, URep Z m v p → (∀ i, p = .int i → v = .w (.int i)) ∧ (∀ i, p = .str i → v = .w (.str i)) ∧ (∀ i, p = .bl i → v = .w (.bl i)) ∧ (p = .non → v = .w .non) := fun {v p} u => by
        cases v with
        | w x => cases x <;> simp only [URep, PRep] at u <;> (try obtain ⟨_, rfl, _⟩ := u) <;> (try obtain ⟨_, _, rfl, _⟩ := u) <;> simp_all
        | lst _ => obtain ⟨n, ps, rfl, _⟩ := u; simp
        | dK _ => obtain ⟨n, ps, rfl, _⟩ := u; simp
        | dT _ => obtain ⟨n, ps, rfl, _⟩ := u; simp
        | src _ _ _ _ => obtain ⟨n, rfl, _⟩ := u; simp
      split at hs
      · exact n1 _ _ ((inv u).1 _ rfl) ((inv u2).1 _ rfl)
      · exact n2 _ _ ((inv u).2.1 _ rfl) ((inv u2).2.1 _ rfl)
      · exact n3 _ _ ((inv u).2.2.1 _ rfl) ((inv u2).2.2.1 _ rfl)
      · exact n4 ((inv u).2.2.2 rfl) ((inv u2).2.2.2 rfl)
      · cases hs
theorem cs_eq : CSim oEq (eqU false) := cs_eqN false
theorem cs_ne : CSim oNe (eqU true) := cs_eqN true
/-! ### numbers -/
def i2U (c : Int → Int → Bool) (f : Int → Int → Wv) (v w : Uv) : Option Uv := match v, w with
  | .w (.int i), .w (.int j) => match c i j with
    | true => some (.w (f i j))
    | false => none
  | _, _ => none
theorem cs_i2c {c c' : Int → Int → Bool} {f : Int → Int → P} {f' : Int → Int → Wv} (hc' : ∀ i j, c' i j = true → c i j = true) (hf : ∀ i j, WPlain (f' i j) (f i j)) : CSim (i2 c f) (i2U c' f') := fun Z m v w p q r u u2 h => by
  unfold i2U at h
  split at h
  · simp only [URep, PRep] at u u2
    subst u u2
    rename_i i j
    cases hc : c' i j with
    | false => rw [hc] at h; cases h
    | true =>
      rw [hc] at h
      cases h
      refine ⟨f i j, _, ?_, rfl, hf i j Z m⟩
      show when_ (c i j) _ m = _
      rw [hc' i j hc]
      rfl
  · cases h
theorem cs_i2 {c : Int → Int → Bool} {f : Int → Int → P} {f' : Int → Int → Wv} (hf : ∀ i j, WPlain (f' i j) (f i j)) : CSim (i2 c f) (i2U c f') := cs_i2c (fun _ _ h => h) hf
/-- a number from 0 on, at most such -/
def upK (K : Nat) (i : Int) : Bool := match i with
  | .ofNat n => Nat.ble n K
  | _ => false
theorem upK_iff {K : Nat} {i : Int} : upK K i = true ↔ 0 ≤ i ∧ i ≤ K := by
  unfold upK
  cases i with
  | ofNat n => exact ⟨fun h => ⟨by simp, by have := Nat.le_of_ble_eq_true h; simp; omega⟩, fun h => Nat.ble_eq_true_of_le (by have := h.2; simp at this; omega)⟩
  | negSucc n => exact ⟨fun h => (nomatch h), fun h => by omega⟩
def cPowV (i j : Int) : Bool := upK 1000000 j && smK 18446744073709551615 i
theorem cPowV_ok (i j : Int) (h : cPowV i j = true) : cPow i j = true := by
  simp only [cPowV, Bool.and_eq_true, upK_iff, smK_iff] at h
  simp only [cPow, Bool.and_eq_true, decide_eq_true_eq]
  omega
def cMulV (i j : Int) : Bool := smK 18446744073709551615 i || smK 18446744073709551615 j
theorem cMulV_ok {i j : Int} (h : cMulV i j = true) : cMul i j = true := by
  simp only [cMulV, Bool.or_eq_true, smK_iff] at h
  simp only [cMul, Bool.or_eq_true, Bool.and_eq_true, decide_eq_true_eq]
  omega
def cDivV (_ j : Int) : Bool := decide (0 < j) && smK 18446744073709551615 j
theorem cDivV_ok (i j : Int) (h : cDivV i j = true) : (decide (0 < j) && decide (j < 18446744073709551616)) = true := by
  simp only [cDivV, Bool.and_eq_true, smK_iff, decide_eq_true_eq] at h
  simp only [Bool.and_eq_true, decide_eq_true_eq]
  omega
def intW (f : Int → Int → Int) (i j : Int) : Wv := .int (f i j)
theorem plain_int (i : Int) : WPlain (.int i) (.int i) := fun Z m => by simp only [PRep]
theorem plain_bl (i : Bool) : WPlain (.bl i) (.bl i) := fun Z m => by simp only [PRep]
theorem plain_str (i : Str) : WPlain (.str i) (.str i) := fun Z m => by simp only [PRep]
theorem plain_non : WPlain .non .non := fun Z m => by simp only [PRep]
def subU := i2U yes2 fun i j => .int (i - j)
def divU := i2U cDivV fun i j => .int (i / j)
def modU := i2U (fun _ j => decide (0 < j)) fun i j => .int (i % j)
def powU := i2U cPowV fun i j => .int (i ^ j.toNat)
def shlU := i2U cPowV fun i j => .int (i * 2 ^ j.toNat)
def shrU := i2U (fun _ j => decide (0 ≤ j)) fun i j => .int (i / 2 ^ j.toNat)
def bandU := i2U yes2 fun i j => .int (PySem.Builtin.bitAnd i j)
def borU := i2U yes2 fun i j => .int (PySem.Builtin.bitOr i j)
def bxorU := i2U yes2 fun i j => .int (PySem.Builtin.bitXor i j)
theorem cs_sub : CSim oSub subU := cs_i2 fun i j => plain_int _
theorem cs_div : CSim oDiv divU := cs_i2c cDivV_ok fun i j => plain_int _
theorem cs_mod : CSim oMod modU := cs_i2 fun i j => plain_int _
theorem cs_pow : CSim oPow powU := cs_i2c cPowV_ok fun i j => plain_int _
theorem cs_shl : CSim oShl shlU := cs_i2c cPowV_ok fun i j => plain_int _
theorem cs_shr : CSim oShr shrU := cs_i2 fun i j => plain_int _
theorem cs_band : CSim oAnd bandU := cs_i2 fun i j => plain_int _
theorem cs_bor : CSim oOr borU := cs_i2 fun i j => plain_int _
theorem cs_bxor : CSim oXor bxorU := cs_i2 fun i j => plain_int _
def tupsU : Uv → Option (List Wv)
  | .w (.tup ws) => some ws
  | _ => none
def lstsU : Uv → Option (List Wv)
  | .w (.lst ws) => some ws
  | .lst ws => some ws
  | _ => none
theorem lstsU_ok {v : Uv} {p : P} {ws : List Wv} (u : URep Z m v p) (h : lstsU v = some ws) : ∃ n ps, p = .ref n ∧ m[n]? = some (.lst ps) ∧ PReps Z m ws ps := by
  unfold lstsU at h
  split at h
  · cases h; simp only [URep, PRep] at u; obtain ⟨n, ps, rfl, z, g, u⟩ := u; exact ⟨n, ps, rfl, g, u⟩
  · cases h; simp only [URep] at u; obtain ⟨n, ps, rfl, z, g, u⟩ := u; exact ⟨n, ps, rfl, g, u⟩
  · cases h
def addU (v w : Uv) : Option Uv := match v, w with
  | .w (.int i), .w (.int j) => some (.w (.int (i + j)))
  | .w (.str a), .w (.str b) => match decide (a.length + b.length ≤ SZ) with
    | true => some (.w (.str (a ++ b)))
    | false => none
  | .w (.tup a), .w (.tup b) => match decide (a.length + b.length ≤ SZ) with
    | true => some (.w (.tup (a ++ b)))
    | false => none
  | v, w => match lstsU v with
    | some a => match lstsU w with
      | some b => match decide (a.length + b.length ≤ SZ) with
        | true => some (.lst (a ++ b))
        | false => none
      | none => none
    | none => none
theorem bs_add : BSim (two oAdd) (b2 addU) := .two fun Z m v w p q r hz u u2 h => by
  have pur : ∀ {x : Wv} {s : P}, oAdd p q m = .ok s m → r = .w x → PRep Z m x s → ∃ s os, oAdd p q m = .ok s (m ++ os) ∧ URep Z (m ++ os) r s ∧ (∀ k, k ∈ fp r s → m.length ≤ k) := fun {x s} h1 h2 h3 => by
    subst h2
    exact ⟨s, [], by simpa using h1, by simpa [URep] using h3, by simp [fp]⟩
  unfold addU at h
  split at h
  · cases h; simp only [URep, PRep] at u u2; subst u u2; exact pur rfl rfl (by simp only [PRep])
  · simp only [URep, PRep] at u u2
    subst u u2
    rename_i a b
    cases hd : decide (a.length + b.length ≤ SZ) with
    | false => rw [hd] at h; cases h
    | true => rw [hd] at h; cases h; exact pur (by show when_ (decide _) _ m = _; rw [hd]; rfl) rfl (by simp only [PRep])
  · simp only [URep, PRep] at u u2
    obtain ⟨ps, rfl, u⟩ := u
    obtain ⟨qs, rfl, u2⟩ := u2
    rename_i a b
    cases hd : decide (a.length + b.length ≤ SZ) with
    | false => rw [hd] at h; cases h
    | true => rw [hd] at h; cases h; exact pur (by show when_ (decide _) _ m = _; rw [u.len, u2.len, hd]; rfl) rfl (by simp only [PRep]; exact ⟨_, rfl, u.append u2⟩)
  · cases h1 : lstsU v with
    | none => rw [h1] at h; cases h
    | some a =>
      rw [h1] at h
      cases h2 : lstsU w with
      | none => rw [h2] at h; cases h
      | some b =>
        rw [h2] at h
        dsimp only at h
        cases hd : decide (a.length + b.length ≤ SZ) with
        | false => rw [hd] at h; cases h
        | true =>
          rw [hd] at h
          cases h
          obtain ⟨n, ps, rfl, g, r1⟩ := lstsU_ok u h1
          obtain ⟨k, qs, rfl, g2, r2⟩ := lstsU_ok u2 h2
          refine ⟨.ref m.length, [.lst (ps ++ qs)], ?_, lst_new hz (r1.append r2), fun k x => by simp [fp] at x; omega⟩
          rw [ok_add_ref, getO_ok g]
          refine (getO_ok g2).trans ?_
          show when_ _ _ m = _
          rw [r1.len, r2.len, hd]
          rfl
def mulU (v w : Uv) : Option Uv := match v, w with
  | .w (.int i), .w (.int j) => match cMulV i j with
    | true => some (.w (.int (i * j)))
    | false => none
  | v, .w (.int k) => match lstsU v with
    | some a => match smK 9223372036854775807 k && Nat.ble (a.length * k.toNat) 16777216 with
      | true => some (.lst (List.replicate k.toNat a).flatten)
      | false => none
    | none => none
  | _, _ => none
theorem bs_mul : BSim (two oMul) (b2 mulU) := .two fun Z m v w p q r hz u u2 h => by
  unfold mulU at h
  split at h
  · simp only [URep, PRep] at u u2
    subst u u2
    rename_i i j
    cases hd : cMulV i j with
    | false => rw [hd] at h; cases h
    | true => rw [hd] at h; cases h; exact ⟨.int (i * j), [], by show when_ (cMul i j) _ m = _; rw [cMulV_ok hd]; simp [when_true, G.ret], by simp only [URep, PRep], by simp [fp]⟩
  · cases h1 : lstsU v with
    | none => rw [h1] at h; cases h
    | some a =>
      rw [h1] at h
      dsimp only at h
      rename_i k _
      cases hd : smK 9223372036854775807 k && Nat.ble (a.length * k.toNat) 16777216 with
      | false => rw [hd] at h; cases h
      | true =>
        rw [hd] at h
        cases h
        have hd : (decide (-(9223372036854775808) ≤ k) && decide (k < 9223372036854775808) && decide (a.length * k.toNat ≤ SZ)) = true := by
          simp only [Bool.and_eq_true, smK_iff] at hd
          have h2 := Nat.le_of_ble_eq_true hd.2
          simp only [Bool.and_eq_true, decide_eq_true_eq]
          exact ⟨⟨by omega, by omega⟩, h2⟩
        simp only [URep, PRep] at u2
        subst u2
        obtain ⟨n, ps, rfl, g, r1⟩ := lstsU_ok u h1
        refine ⟨.ref m.length, [.lst (List.replicate k.toNat ps).flatten], ?_, lst_new hz (r1.flatten_rep _), fun k x => by simp [fp] at x; omega⟩
        rw [ok_mul_lst, getO_ok g]
        show when_ _ _ m = _
        rw [r1.len, hd]
        rfl
  · cases h
def mulTU (v w : Uv) : Option Uv := match v, w with
  | .w (.tup a), .w (.int k) => match !a.isEmpty && decide (1 ≤ k) && decide (k ≤ 1000) && decide (a.length ≤ 1000) with
    | true => some (.w (.tup (List.replicate k.toNat a).flatten))
    | false => none
  | _, _ => none
theorem PReps.emp {ws : List Wv} {ps : List P} (r : PReps Z m ws ps) : ps.isEmpty = ws.isEmpty := by
  have := r.len
  cases ws <;> cases ps <;> simp_all
theorem cs_mulT : CSim oMulT mulTU := fun Z m v w p q r u u2 h => by
  unfold mulTU at h
  split at h
  · simp only [URep, PRep] at u u2
    obtain ⟨ps, rfl, u⟩ := u
    subst u2
    rename_i a k
    cases hd : !a.isEmpty && decide (1 ≤ k) && decide (k ≤ 1000) && decide (a.length ≤ 1000) with
    | false => rw [hd] at h; cases h
    | true =>
      rw [hd] at h
      cases h
      refine ⟨.tup (List.replicate k.toNat ps).flatten, _, ?_, rfl, by simp only [PRep]; exact ⟨_, rfl, u.flatten_rep k.toNat⟩⟩
      show when_ _ _ m = _
      rw [u.emp, u.len, hd]
      rfl
  · cases h
end
end G

/-! V6: comparisons, membership, indices, built-in functions. -/
namespace G
open PySem (Str PyData)
section
variable {Z : Zs} {m : Hm} {ρ : Env} {σ : UEnv}
def ltD_ (v w : Uv) : Option Uv := match udat v with
  | some d => match udat w with
    | some e => match PySem.W.alike d e with
      | true => some (.w (.bl (PySem.W.dataLt d e)))
      | false => none
    | none => none
  | none => none
def ltU (v w : Uv) : Option Uv := match v, w with
  | .w (.int i), .w (.int j) => some (.w (.bl (decide (i < j))))
  | .w (.str a), .w (.str b) => some (.w (.bl (decide (a.cps.toList < b.cps.toList))))
  | .w (.tup a), w => ltD_ (.w (.tup a)) w
  | _, _ => none
theorem cs_lt : CSim oLt ltU := fun Z m v w p q r u u2 h => by
  unfold ltU at h
  split at h
  · cases h; simp only [URep, PRep] at u u2; subst u u2; exact ⟨_, _, rfl, rfl, by simp only [PRep]⟩
  · cases h; simp only [URep, PRep] at u u2; subst u u2; exact ⟨_, _, rfl, rfl, by simp only [PRep]⟩
  · rename_i a
    unfold ltD_ at h
    cases h1 : udat (.w (.tup a)) with
    | none => rw [h1] at h; cases h
    | some d =>
      rw [h1] at h
      dsimp only at h
      cases h2 : udat w with
      | none => rw [h2] at h; cases h
      | some e =>
        rw [h2] at h
        dsimp only at h
        cases h3 : PySem.W.alike d e with
        | false => rw [h3] at h; cases h
        | true =>
          rw [h3] at h
          cases h
          refine ⟨.bl (PySem.W.dataLt d e), _, ?_, rfl, by simp only [PRep]⟩
          have e1 := asD_ok u h1
          simp only [URep, PRep] at u
          obtain ⟨ps, rfl, u⟩ := u
          show bnd (asD (.tup ps)) _ m = _
          unfold bnd
          rw [e1]
          dsimp only
          rw [asD_ok u2 h2]
          dsimp only
          rw [h3]
          rfl
  · cases h
def leU (v w : Uv) : Option Uv := match v, w with
  | .w (.int i), .w (.int j) => some (.w (.bl (decide (i ≤ j))))
  | .w (.str a), .w (.str b) => some (.w (.bl (!decide (b.cps.toList < a.cps.toList))))
  | _, _ => none
def gtU (v w : Uv) : Option Uv := match v, w with
  | .w (.int i), .w (.int j) => some (.w (.bl (decide (j < i))))
  | _, _ => none
def geU (v w : Uv) : Option Uv := match v, w with
  | .w (.int i), .w (.int j) => some (.w (.bl (decide (j ≤ i))))
  | _, _ => none
theorem cs_le : CSim oLe leU := fun Z m v w p q r u u2 h => by
  unfold leU at h
  split at h
  · cases h; simp only [URep, PRep] at u u2; subst u u2; exact ⟨_, _, rfl, rfl, by simp only [PRep]⟩
  · cases h; simp only [URep, PRep] at u u2; subst u u2; exact ⟨_, _, rfl, rfl, by simp only [PRep]⟩
  · cases h
theorem cs_gt : CSim oGt gtU := fun Z m v w p q r u u2 h => by
  unfold gtU at h
  split at h
  · cases h; simp only [URep, PRep] at u u2; subst u u2; exact ⟨_, _, rfl, rfl, by simp only [PRep]⟩
  · cases h
theorem cs_ge : CSim oGe geU := fun Z m v w p q r u u2 h => by
  unfold geU at h
  split at h
  · cases h; simp only [URep, PRep] at u u2; subst u u2; exact ⟨_, _, rfl, rfl, by simp only [PRep]⟩
  · cases h
def negU : Uv → Option Uv
  | .w (.int i) => some (.w (.int (-i)))
  | _ => none
def notU : Uv → Option Uv
  | .w (.bl b) => some (.w (.bl (!b)))
  | _ => none
def isNonU : Uv → Bool
  | .w .non => true
  | _ => false
def isNU (v : Uv) : Option Uv := some (.w (.bl (isNonU v)))
def notNU (v : Uv) : Option Uv := some (.w (.bl (!isNonU v)))
theorem bs_neg : BSim (one uNeg) (b1 negU) := .one' fun Z m v p r u h => by
  unfold negU at h
  split at h
  · cases h; simp only [URep, PRep] at u; subst u; exact ⟨_, _, rfl, rfl, by simp only [PRep]⟩
  · cases h
theorem bs_not : BSim (one uNot) (b1 notU) := .one' fun Z m v p r u h => by
  unfold notU at h
  split at h
  · cases h; simp only [URep, PRep] at u; subst u; exact ⟨_, _, rfl, rfl, by simp only [PRep]⟩
  · cases h
theorem isNon_ok {v : Uv} {p : P} (u : URep Z m v p) : isNon p = isNonU v := by
  cases v with
  | w x => cases x <;> simp only [URep, PRep] at u <;> (try obtain ⟨_, rfl, _⟩ := u) <;> (try obtain ⟨_, _, rfl, _⟩ := u) <;> (try subst u) <;> rfl
  | lst _ => obtain ⟨n, ps, rfl, _⟩ := u; rfl
  | dK _ => obtain ⟨n, ps, rfl, _⟩ := u; rfl
  | dT _ => obtain ⟨n, ps, rfl, _⟩ := u; rfl
  | src _ _ _ _ => obtain ⟨n, rfl, _⟩ := u; rfl
theorem bs_isN : BSim (one uIsN) (b1 isNU) := .one' fun Z m v p r u h => by
  cases h
  exact ⟨_, _, rfl, rfl, by simp only [PRep, isNon_ok u]⟩
theorem bs_notN : BSim (one uNotN) (b1 notNU) := .one' fun Z m v p r u h => by
  cases h
  exact ⟨_, _, rfl, rfl, by simp only [PRep, isNon_ok u]⟩
/-! ### membership -/
def seqD : PyData → Option (List PyData)
  | .tuple ds => some ds
  | .list ds => some ds
  | _ => none
/-- x in a list, a tuple -/
def memD (v w : Uv) : Option Bool := match udat v with
  | some d => match udat w with
    | some e => match PySem.SeqAt.shaped d && PySem.SeqAt.shaped e with
      | true => (seqD e).map fun ds => ds.any fun z => PyData.eqv z d
      | false => none
    | none => none
  | none => none
def memU (v w : Uv) : Option Bool := match w with
  | .w (.tup _) => memD v w
  | .w (.kt _) => memD v w
  | .w (.lst _) => memD v w
  | .lst _ => memD v w
  | .dK _ => match v with
    | .w x => (lookU w x).map Option.isSome
    | _ => none
  | .dT _ => match v with
    | .w x => (lookU w x).map Option.isSome
    | _ => none
  | _ => none
theorem memD_ok {v w : Uv} {p q : P} {b : Bool} (u : URep Z m v p) (u2 : URep Z m w q) (h : memD v w = some b) : ∃ d e ds, asD p m = .ok d m ∧ asD q m = .ok e m ∧ (PySem.SeqAt.shaped d && PySem.SeqAt.shaped e) = true ∧ udat w = some e ∧ seqD e = some ds ∧ b = ds.any fun z => PyData.eqv z d := by
  unfold memD at h
  cases h1 : udat v with
  | none => rw [h1] at h; cases h
  | some d =>
    rw [h1] at h
    dsimp only at h
    cases h2 : udat w with
    | none => rw [h2] at h; cases h
    | some e =>
      rw [h2] at h
      dsimp only at h
      cases h3 : PySem.SeqAt.shaped d && PySem.SeqAt.shaped e with
      | false => rw [h3] at h; cases h
      | true =>
        rw [h3] at h
        dsimp only at h
        cases h4 : seqD e with
        | none => rw [h4] at h; cases h
        | some ds => rw [h4] at h; cases h; exact ⟨d, e, ds, asD_ok u h1, asD_ok u2 h2, h3, rfl, h4, rfl⟩
theorem inT_u {p q : P} {d : PyData} {ds : List PyData} (h1 : asD p m = .ok d m) (h2 : asD q m = .ok (.tuple ds) m) (h3 : (PySem.SeqAt.shaped d && PySem.SeqAt.shaped (.tuple ds)) = true) : inT p q m = .ok (ds.any fun z => PyData.eqv z d) m := by
  unfold inT bnd
  rw [h1]
  dsimp only
  rw [h2]
  dsimp only
  rw [h3]
  rfl
theorem map_tuple {o : Option (List PyData)} {e : PyData} (h : o.map PyData.tuple = some e) : ∃ ds, e = .tuple ds := by
  cases o with
  | none => cases h
  | some ds => cases h; exact ⟨ds, rfl⟩
theorem map_list {o : Option (List PyData)} {e : PyData} (h : o.map PyData.list = some e) : ∃ ds, e = .list ds := by
  cases o with
  | none => cases h
  | some ds => cases h; exact ⟨ds, rfl⟩
theorem inP_seq {v w : Uv} {p q : P} {b : Bool} (u : URep Z m v p) (u2 : URep Z m w q) (h : memU v w = some b) (hk : ∀ kvs, w ≠ .dK kvs) (ht : ∀ kvs, w ≠ .dT kvs) : inP p q m = .ok b m := by
  have tupc : ∀ qs, q = .tup qs ∨ q = .kt qs → memD v w = some b → (∀ e, udat w = some e → ∃ ds, e = .tuple ds) → inP p q m = .ok b m := fun qs hq hm he => by
    obtain ⟨d, e, ds, a1, a2, a3, a4, a5, rfl⟩ := memD_ok u u2 hm
    obtain ⟨ds', rfl⟩ := he e a4
    cases a5
    rcases hq with rfl | rfl
    · exact inT_u a1 a2 a3
    · exact inT_u a1 a2 a3
  have lstc : ∀ n qs, q = .ref n → m[n]? = some (.lst qs) → memD v w = some b → (∀ e, udat w = some e → ∃ ds, e = .list ds) → inP p q m = .ok b m := fun n qs hq hg hm he => by
    obtain ⟨d, e, ds, a1, a2, a3, a4, a5, rfl⟩ := memD_ok u u2 hm
    obtain ⟨ds', rfl⟩ := he e a4
    cases a5
    subst hq
    show getO n _ m = _
    rw [getO_ok hg]
    show bnd (asD p) _ m = _
    unfold bnd
    rw [a1]
    dsimp only
    rw [a2]
    dsimp only
    rw [a3]
    rfl
  cases w with
  | w x =>
    cases x with
    | tup ws => simp only [URep, PRep] at u2; obtain ⟨qs, e, _⟩ := id u2; exact tupc qs (.inl e) h fun e he => by simp only [udat, DD, wdat] at he; exact map_tuple he
    | kt ws => simp only [URep, PRep] at u2; obtain ⟨qs, e, _⟩ := id u2; exact tupc qs (.inr e) h fun e he => by simp only [udat, DD, wdat] at he; exact map_tuple he
    | lst ws => simp only [URep, PRep] at u2; obtain ⟨n, qs, e, z, g, _⟩ := id u2; exact lstc n qs e g h fun e he => by simp only [udat, DD, wdat] at he; exact map_list he
    | _ => cases h
  | lst ws => obtain ⟨n, qs, e, z, g, _⟩ := id u2; exact lstc n qs e g h fun e he => by simp only [udat, DD, wdat] at he; exact map_list he
  | dK kvs => exact absurd rfl (hk kvs)
  | dT kvs => exact absurd rfl (ht kvs)
  | src _ _ _ _ => cases h
/-- the cells of two -/
theorem cells_two {v w : Uv} {p q : P} {k : Nat} (h : k ∈ fp w q) : cells [v, w] [p, q] k := ⟨1, w, q, rfl, rfl, h⟩
theorem URs.mk2 {v w : Uv} {p q : P} (h : URep Z m v p) (h2 : URep Z m w q) : URs Z m [v, w] [p, q] := ⟨rfl, fun i x y a b => by
  match i with
  | 0 => cases a; cases b; exact h
  | 1 => cases a; cases b; exact h2
  | i + 2 => simp at a⟩
/-- a dict is asked -/
theorem look_sim {v : Uv} {x : Wv} {p q : P} {o : Option Wv} (hz : ∀ k, Z k → k < m.length) (u2 : URep Z m v q) (r : PRep Z m x p) (h : lookU v x = some o) : ∃ n o' m', q = .ref n ∧ dLook n p m = .ok o' m' ∧ ORep Z m' o o' ∧ m.length ≤ m'.length ∧ (∀ k, k < m.length → ¬ cells [.w x, v] [p, q] k → m'[k]? = m[k]?) ∧ URs Z m' [.w x, v] [p, q] := by
  obtain ⟨n, o', m', rfl, h1, h2, h3, h4, h5⟩ := look_ok u2 r h
  have hn : n ∈ fp v (.ref n) := by
    cases v with
    | dK _ => simp [fp]
    | dT _ => simp [fp]
    | _ => cases h
  have nz := (u2.fp_get hn).2
  have K : Keep Z m Z m' := ⟨fun _ z => z, fun k z => h4 k fun e => nz (e ▸ z)⟩
  have ho : ORep Z m' o o' := by
    cases o with
    | none => exact h2
    | some w => obtain ⟨z, a, b⟩ := h2; exact ⟨z, a, PRep.keep K b⟩
  refine ⟨n, o', m', rfl, h1, ho, by omega, fun k hk hc => h4 k fun e => hc (by subst e; exact cells_two hn), URs.mk2 (show PRep Z m' x p from PRep.keep K r) ?_⟩
  rcases h5 with rfl | ⟨rfl, rfl⟩
  · exact u2
  · obtain ⟨n2, kps, e, z, g, kr⟩ := u2
    cases e
    rw [kr.nil] at g kr
    refine ⟨n, [], rfl, z, .inl (set_get (u := m[n]'(?_)) ?_), kr.keep K⟩
    · rcases g with g | ⟨_, g⟩ <;> exact (List.getElem?_eq_some_iff.mp g).1
    · simp
theorem bs_in_gen {f : P → P → M P} {fn : Bool → Bool} (hf : ∀ x y, f x y = bnd (inP x y) fun b => ret (.bl (fn b))) : BSim (two f) (b2 fun v w => (memU v w).map fun b => .w (.bl (fn b))) := fun Z m vs ps r hz u e => by
  match vs, e, u with
  | [v, w], e, u =>
    obtain ⟨p, q, rfl, u1, u2⟩ := u.two
    have e : (memU v w).map (fun b => Uv.w (.bl (fn b))) = some r := e
    cases hm : memU v w with
    | none => rw [hm] at e; cases e
    | some b =>
      rw [hm] at e
      cases e
      have dic : ∀ (h : (∃ x, v = .w x ∧ (lookU w x).map Option.isSome = some b)) (hw : ∀ n, q = .ref n → ∃ o, m[n]? = some o ∧ ((∃ kvs, o = .dK kvs) ∨ ∃ kvs, o = .dT kvs)), ∃ s m', two f [p, q] m = .ok s m' ∧ m.length ≤ m'.length ∧ (∀ k, k < m.length → ¬ cells [v, w] [p, q] k → m'[k]? = m[k]?) ∧ URs Z m' [v, w] [p, q] ∧ URep Z m' (.w (.bl (fn b))) s ∧ (∀ k, k ∈ fp (.w (.bl (fn b))) s → m.length ≤ k) := by
        rintro ⟨x, rfl, hl⟩ hw
        cases hl2 : lookU w x with
        | none => rw [hl2] at hl; cases hl
        | some o =>
          rw [hl2] at hl
          cases hl
          obtain ⟨n, o', m', rfl, h1, h2, h3, h4, h5⟩ := look_sim hz u2 u1 hl2
          obtain ⟨ob, g, ho⟩ := hw n rfl
          have hb : inP p (.ref n) m = .ok o.isSome m' := by
            show getO n _ m = _
            rw [getO_ok g]
            have e2 : o'.isSome = o.isSome := by
              cases o with
              | none => rw [show o' = none from h2]; rfl
              | some w => obtain ⟨z, rfl, _⟩ := h2; rfl
            rcases ho with ⟨kvs, rfl⟩ | ⟨kvs, rfl⟩
            · show bnd (dLook n p) _ m = _
              unfold bnd; rw [h1, ← e2]; rfl
            · show bnd (dLook n p) _ m = _
              unfold bnd; rw [h1, ← e2]; rfl
          refine ⟨.bl (fn o.isSome), m', ?_, h3, h4, h5, by simp only [URep, PRep], by simp [fp]⟩
          show f p (.ref n) m = _
          rw [hf]
          unfold bnd
          rw [hb]
          rfl
      cases w with
      | dK kvs =>
        refine dic ?_ fun n e => ?_
        · unfold memU at hm
          cases v with
          | w x => exact ⟨x, rfl, hm⟩
          | _ => cases hm
        · obtain ⟨n', kps, e', _, g, _⟩ := u2
          rw [e] at e'; cases e'
          exact ⟨_, g, .inl ⟨_, rfl⟩⟩
      | dT kvs =>
        refine dic ?_ fun n e => ?_
        · unfold memU at hm
          cases v with
          | w x => exact ⟨x, rfl, hm⟩
          | _ => cases hm
        · obtain ⟨n', kps, e', _, g, _⟩ := u2
          rw [e] at e'; cases e'
          rcases g with g | ⟨_, g⟩
          · exact ⟨_, g, .inr ⟨_, rfl⟩⟩
          · exact ⟨_, g, .inl ⟨_, rfl⟩⟩
      | _ =>
        have hb := inP_seq u1 u2 hm (by intro _ z; cases z) (by intro _ z; cases z)
        refine ⟨.bl (fn b), m, ?_, Nat.le_refl _, fun _ _ _ => rfl, u, by simp only [URep, PRep], by simp [fp]⟩
        show f p q m = _
        rw [hf]
        unfold bnd
        rw [hb]
        rfl
def inU (v w : Uv) : Option Uv := (memU v w).map fun b => .w (.bl b)
def ninU (v w : Uv) : Option Uv := (memU v w).map fun b => .w (.bl (!b))
theorem bs_in : BSim (two oIn) (b2 inU) := bs_in_gen (fn := fun b => b) fun x y => rfl
theorem bs_notIn : BSim (two oNotIn) (b2 ninU) := bs_in_gen (fn := fun b => !b) fun x y => rfl
/-! ### indices -/
def ixU (v w : Uv) : Option Uv := match v with
  | .w (.tup ws) => (intU w).bind fun i => (L2.atI ws i).map .w
  | .w (.scr ws) => (intU w).bind fun i => (L2.atI ws i).map .w
  | .w (.lst ws) => (intU w).bind fun i => (L2.atI ws i).map .w
  | .lst ws => (intU w).bind fun i => (L2.atI ws i).map .w
  | .dK kvs => match w with
    | .w x => (lookU v x).bind fun o => o.map .w
    | _ => none
  | .dT kvs => match w with
    | .w x => (lookU v x).bind fun o => o.map .w
    | _ => none
  | _ => none
theorem atI_rep {ws : List Wv} {ps : List P} {i : Int} {w : Wv} (r : PReps Z m ws ps) (h : L2.atI ws i = some w) : ∃ p, L2.atI ps i = some p ∧ PRep Z m w p := by
  unfold L2.atI at h ⊢
  rw [r.len]
  cases q : L2.ixN ws.length i with
  | none => rw [q] at h; cases h
  | some k => rw [q] at h; exact r.get_some h
theorem bs_ix : BSim (two oIx) (b2 ixU) := fun Z m vs ps r hz u e => by
  match vs, e, u with
  | [v, w], e, u =>
    obtain ⟨p, q, rfl, u1, u2⟩ := u.two
    have e : ixU v w = some r := e
    have seq : ∀ (ws : List Wv) (qs : List P), PReps Z m ws qs → (intU w).bind (fun i => (L2.atI ws i).map Uv.w) = some r → (∀ i, oIx p (.int i) m = opt (L2.atI qs i) m) → ∃ s m', two oIx [p, q] m = .ok s m' ∧ m.length ≤ m'.length ∧ (∀ k, k < m.length → ¬ cells [v, w] [p, q] k → m'[k]? = m[k]?) ∧ URs Z m' [v, w] [p, q] ∧ URep Z m' r s ∧ (∀ k, k ∈ fp r s → m.length ≤ k) := fun ws qs rr h ho => by
      cases hi : intU w with
      | none => rw [hi] at h; cases h
      | some i =>
        rw [hi] at h
        have e2 := intU_ok u2 hi
        subst e2
        have h : (L2.atI ws i).map Uv.w = some r := h
        cases ha : L2.atI ws i with
        | none => rw [ha] at h; cases h
        | some x =>
          rw [ha] at h
          cases h
          obtain ⟨s, h1, h2⟩ := atI_rep rr ha
          refine ⟨s, m, ?_, Nat.le_refl _, fun _ _ _ => rfl, u, h2, by simp [fp]⟩
          show oIx p (.int i) m = _
          rw [ho, h1]
          rfl
    have dic : ∀ (h : (∃ x, w = .w x ∧ ((lookU v x).bind fun o => o.map Uv.w) = some r)) (hw : ∀ n, p = .ref n → ∃ o, m[n]? = some o ∧ ((∃ kvs, o = .dK kvs) ∨ ∃ kvs, o = .dT kvs)), ∃ s m', two oIx [p, q] m = .ok s m' ∧ m.length ≤ m'.length ∧ (∀ k, k < m.length → ¬ cells [v, w] [p, q] k → m'[k]? = m[k]?) ∧ URs Z m' [v, w] [p, q] ∧ URep Z m' r s ∧ (∀ k, k ∈ fp r s → m.length ≤ k) := by
      rintro ⟨x, rfl, hl⟩ hw
      cases hl2 : lookU v x with
      | none => rw [hl2] at hl; cases hl
      | some o =>
        rw [hl2] at hl
        cases o with
        | none => cases hl
        | some y =>
          cases hl
          obtain ⟨n, o', m', rfl, h1, ⟨z, rfl, h2⟩, h3, h4, h5⟩ := look_sim hz u1 u2 hl2
          obtain ⟨ob, g, ho⟩ := hw n rfl
          refine ⟨z, m', ?_, h3, fun k hk hc => h4 k hk fun c => hc ?_, URs.mk2 (h5.rep 1 v (.ref n) rfl rfl) (h5.rep 0 _ q rfl rfl), h2, by simp [fp]⟩
          · show getO n _ m = _
            rw [getO_ok g]
            rcases ho with ⟨kvs, rfl⟩ | ⟨kvs, rfl⟩
            · show bnd (dLook n q) opt m = _
              unfold bnd; rw [h1]; rfl
            · show bnd (dLook n q) opt m = _
              unfold bnd; rw [h1]; rfl
          · obtain ⟨i, a, b, c1, c2, c3⟩ := c
            match i, c1, c2, c3 with
            | 0, c1, c2, c3 => exact ⟨1, a, b, c1, c2, c3⟩
            | 1, c1, c2, c3 => exact ⟨0, a, b, c1, c2, c3⟩
    cases v with
    | w x =>
      cases x with
      | tup ws => simp only [URep, PRep] at u1; obtain ⟨qs, rfl, u1⟩ := u1; exact seq ws qs u1 e fun i => rfl
      | scr ws => simp only [URep, PRep] at u1; obtain ⟨qs, rfl, u1⟩ := u1; exact seq ws qs u1 e fun i => rfl
      | lst ws => simp only [URep, PRep] at u1; obtain ⟨n, qs, rfl, z, g, u1⟩ := u1; exact seq ws qs u1 e fun i => getO_ok g
      | _ => cases e
    | lst ws => obtain ⟨n, qs, rfl, z, g, u1⟩ := u1; exact seq ws qs u1 e fun i => getO_ok g
    | dK kvs =>
      refine dic ?_ fun n e => ?_
      · unfold ixU at e
        cases w with
        | w x => exact ⟨x, rfl, e⟩
        | _ => cases e
      · obtain ⟨n', kps, e', _, g, _⟩ := u1
        rw [e] at e'; cases e'
        exact ⟨_, g, .inl ⟨_, rfl⟩⟩
    | dT kvs =>
      refine dic ?_ fun n e => ?_
      · unfold ixU at e
        cases w with
        | w x => exact ⟨x, rfl, e⟩
        | _ => cases e
      · obtain ⟨n', kps, e', _, g, _⟩ := u1
        rw [e] at e'; cases e'
        rcases g with g | ⟨_, g⟩
        · exact ⟨_, g, .inr ⟨_, rfl⟩⟩
        · exact ⟨_, g, .inl ⟨_, rfl⟩⟩
    | _ => cases e
end
end G

/-! V7: built-in functions. -/
namespace G
open PySem (Str PyData)
section
variable {Z : Zs} {m : Hm} {ρ : Env} {σ : UEnv}
def lenU : Uv → Option Uv
  | .w (.str z) => match decide (z.length ≤ SZ) with
    | true => some (.w (.int z.length))
    | false => none
  | .w (.tup ws) => some (.w (.int ws.length))
  | .w (.scr ws) => some (.w (.int ws.length))
  | .w (.lst ws) => some (.w (.int ws.length))
  | .lst ws => some (.w (.int ws.length))
  | .dK kvs => some (.w (.int kvs.length))
  | _ => none
theorem bs_len : BSim (one bLen) (b1 lenU) := .one' fun Z m v p r u h => by
  cases v with
  | w x =>
    cases x with
    | str z =>
      simp only [URep, PRep] at u
      subst u
      unfold lenU at h
      dsimp only at h
      cases hd : decide (z.length ≤ SZ) with
      | false => rw [hd] at h; cases h
      | true =>
        rw [hd] at h
        cases h
        exact ⟨.int z.length, _, by show when_ (decide _) _ m = _; rw [hd]; rfl, rfl, by simp only [PRep]⟩
    | tup ws => cases h; simp only [URep, PRep] at u; obtain ⟨ps, rfl, u⟩ := u; exact ⟨.int ps.length, _, rfl, rfl, by simp only [PRep, u.len]⟩
    | scr ws => cases h; simp only [URep, PRep] at u; obtain ⟨ps, rfl, u⟩ := u; exact ⟨.int ps.length, _, rfl, rfl, by simp only [PRep, u.len]⟩
    | lst ws => cases h; simp only [URep, PRep] at u; obtain ⟨n, ps, rfl, z, g, u⟩ := u; exact ⟨.int ps.length, _, getO_ok g, rfl, by simp only [PRep, u.len]⟩
    | _ => cases h
  | lst ws => cases h; obtain ⟨n, ps, rfl, z, g, u⟩ := u; exact ⟨.int ps.length, _, getO_ok g, rfl, by simp only [PRep, u.len]⟩
  | dK kvs => cases h; obtain ⟨n, ps, rfl, z, g, u⟩ := u; exact ⟨.int ps.length, _, getO_ok g, rfl, by simp only [PRep, u.len]⟩
  | _ => cases h
def absU : Uv → Option Uv
  | .w (.int i) => some (.w (.int (if i < 0 then -i else i)))
  | _ => none
def intB : Uv → Option Uv
  | .w (.int i) => some (.w (.int i))
  | .w (.bl b) => some (.w (.int (if b then 1 else 0)))
  | _ => none
theorem bs_abs : BSim (one bAbs) (b1 absU) := .one' fun Z m v p r u h => by
  unfold absU at h
  split at h
  · cases h; simp only [URep, PRep] at u; subst u; exact ⟨_, _, rfl, rfl, by simp only [PRep]⟩
  · cases h
theorem bs_int : BSim (one bInt) (b1 intB) := .one' fun Z m v p r u h => by
  unfold intB at h
  split at h
  · cases h; simp only [URep, PRep] at u; subst u; exact ⟨_, _, rfl, rfl, by simp only [PRep]⟩
  · cases h; simp only [URep, PRep] at u; subst u; exact ⟨_, _, rfl, rfl, by simp only [PRep]⟩
  · cases h
def max2U (v w : Uv) : Option Uv := match v, w with
  | .w (.int i), .w (.int j) => some (.w (.int (if j > i then j else i)))
  | _, _ => none
def min2U (v w : Uv) : Option Uv := match v, w with
  | .w (.int i), .w (.int j) => some (.w (.int (if j < i then j else i)))
  | _, _ => none
theorem cs_max2 : CSim bMax2 max2U := fun Z m v w p q r u u2 h => by
  unfold max2U at h
  split at h
  · cases h; simp only [URep, PRep] at u u2; subst u u2; exact ⟨_, _, rfl, rfl, by simp only [PRep]⟩
  · cases h
theorem cs_min2 : CSim bMin2 min2U := fun Z m v w p q r u u2 h => by
  unfold min2U at h
  split at h
  · cases h; simp only [URep, PRep] at u u2; subst u u2; exact ⟨_, _, rfl, rfl, by simp only [PRep]⟩
  · cases h
def tupU : Uv → Option Uv
  | .w (.tup ws) => some (.w (.tup ws))
  | .w (.scr ws) => some (.w (.tup ws))
  | .w (.lst ws) => some (.w (.tup ws))
  | .lst ws => some (.w (.tup ws))
  | _ => none
theorem bs_tup : BSim (one bTup) (b1 tupU) := .one' fun Z m v p r u h => by
  cases v with
  | w x =>
    cases x with
    | tup ws => cases h; simp only [URep, PRep] at u; obtain ⟨ps, rfl, u⟩ := u; exact ⟨.tup ps, _, rfl, rfl, by simp only [PRep]; exact ⟨ps, rfl, u⟩⟩
    | scr ws => cases h; simp only [URep, PRep] at u; obtain ⟨ps, rfl, u⟩ := u; exact ⟨.tup ps, _, rfl, rfl, by simp only [PRep]; exact ⟨ps, rfl, u⟩⟩
    | lst ws => cases h; simp only [URep, PRep] at u; obtain ⟨n, ps, rfl, z, g, u⟩ := u; exact ⟨.tup ps, _, getO_ok g, rfl, by simp only [PRep]; exact ⟨ps, rfl, u⟩⟩
    | _ => cases h
  | lst ws => cases h; obtain ⟨n, ps, rfl, z, g, u⟩ := u; exact ⟨.tup ps, _, getO_ok g, rfl, by simp only [PRep]; exact ⟨ps, rfl, u⟩⟩
  | _ => cases h
def shwD (d : PyData) : Option Uv := match d.showable && decide (d.shown.length ≤ SZ) with
  | true => some (.w (.str d.shown))
  | false => none
def reprU (v : Uv) : Option Uv := (udat v).bind shwD
theorem bs_repr : BSim (one bRepr) (b1 reprU) := .one' fun Z m v p r u h => by
  unfold reprU at h
  cases h1 : udat v with
  | none => rw [h1] at h; cases h
  | some d =>
    rw [h1] at h
    unfold shwD at h
    dsimp only [Option.bind_some] at h
    cases h2 : d.showable && decide (d.shown.length ≤ SZ) with
    | false => rw [h2] at h; cases h
    | true =>
      rw [h2] at h
      cases h
      refine ⟨.str d.shown, _, ?_, rfl, by simp only [PRep]⟩
      unfold bRepr bnd
      rw [asD_ok u h1]
      dsimp only
      rw [h2]
      rfl
def revU : Uv → Option Uv
  | .w (.lst ws) => some (.lst ws.reverse)
  | .lst ws => some (.lst ws.reverse)
  | _ => none
theorem bs_rev : BSim (one revP) (b1 revU) := .one fun Z m v p r hz u h => by
  cases v with
  | w x =>
    cases x with
    | lst ws => cases h; simp only [URep, PRep] at u; obtain ⟨n, ps, rfl, z, g, u⟩ := u; exact ⟨.ref m.length, [.lst ps.reverse], getO_ok g, lst_new hz u.reverse, fun k x => by simp [fp] at x; omega⟩
    | _ => cases h
  | lst ws => cases h; obtain ⟨n, ps, rfl, z, g, u⟩ := u; exact ⟨.ref m.length, [.lst ps.reverse], getO_ok g, lst_new hz u.reverse, fun k x => by simp [fp] at x; omega⟩
  | _ => cases h
/-! ### over items -/
def intsW : List Wv → Option (List Int)
  | [] => some []
  | .int i :: r => match intsW r with
    | some l => some (i :: l)
    | none => none
  | _ :: _ => none
def blsW : List Wv → Option (List Bool)
  | [] => some []
  | .bl i :: r => match blsW r with
    | some l => some (i :: l)
    | none => none
  | _ :: _ => none
theorem intsW_ok : ∀ {ws : List Wv} {ps : List P} {l : List Int}, PReps Z m ws ps → intsW ws = some l → intsOf ps = some l
  | [], ps, l, r, h => by rw [preps_nil.mp r]; exact h
  | w :: ws, [], l, r, h => absurd r preps_cons_nil
  | w :: ws, p :: ps, l, r, h => by
    obtain ⟨r1, r2⟩ := preps_cons.mp r
    cases w with
    | int i =>
      simp only [PRep] at r1
      subst r1
      unfold intsW at h
      unfold intsOf
      cases q : intsW ws with
      | none => rw [q] at h; cases h
      | some l' => rw [q] at h; rw [intsW_ok r2 q]; exact h
    | _ => cases h
theorem blsW_ok : ∀ {ws : List Wv} {ps : List P} {l : List Bool}, PReps Z m ws ps → blsW ws = some l → bls ps = some l
  | [], ps, l, r, h => by rw [preps_nil.mp r]; exact h
  | w :: ws, [], l, r, h => absurd r preps_cons_nil
  | w :: ws, p :: ps, l, r, h => by
    obtain ⟨r1, r2⟩ := preps_cons.mp r
    cases w with
    | bl i =>
      simp only [PRep] at r1
      subst r1
      unfold blsW at h
      unfold bls
      cases q : blsW ws with
      | none => rw [q] at h; cases h
      | some l' => rw [q] at h; rw [blsW_ok r2 q]; exact h
    | _ => cases h
def sumW (ws : List Wv) : Option Uv := (intsW ws).map fun l => .w (.int l.sum)
def maxW (ws : List Wv) : Option Uv := (intsW ws).bind fun l => match l with
  | i :: r => some (.w (.int (iMax i r)))
  | [] => none
def minW (ws : List Wv) : Option Uv := (intsW ws).bind fun l => match l with
  | i :: r => some (.w (.int (iMin i r)))
  | [] => none
def anyW (ws : List Wv) : Option Uv := (blsW ws).map fun l => .w (.bl (l.any id))
def allW (ws : List Wv) : Option Uv := (blsW ws).map fun l => .w (.bl (l.all id))
def tupW (ws : List Wv) : Option Uv := some (.w (.tup ws))
def lenW (ws : List Wv) : Option Uv := some (.w (.int ws.length))
theorem ns_sum : NSim nSum sumW := .pure fun Z m ws ps r u h => by
  unfold sumW at h
  cases q : intsW ws with
  | none => rw [q] at h; cases h
  | some l => rw [q] at h; cases h; exact ⟨.int l.sum, _, by unfold nSum; rw [intsW_ok u q]; rfl, rfl, by simp only [PRep]⟩
theorem ns_max : NSim nMax maxW := .pure fun Z m ws ps r u h => by
  unfold maxW at h
  cases q : intsW ws with
  | none => rw [q] at h; cases h
  | some l =>
    rw [q] at h
    cases l with
    | nil => cases h
    | cons i l => cases h; exact ⟨.int (iMax i l), _, by unfold nMax; rw [intsW_ok u q]; rfl, rfl, by simp only [PRep]⟩
theorem ns_min : NSim nMin minW := .pure fun Z m ws ps r u h => by
  unfold minW at h
  cases q : intsW ws with
  | none => rw [q] at h; cases h
  | some l =>
    rw [q] at h
    cases l with
    | nil => cases h
    | cons i l => cases h; exact ⟨.int (iMin i l), _, by unfold nMin; rw [intsW_ok u q]; rfl, rfl, by simp only [PRep]⟩
theorem ns_any : NSim nAny anyW := .pure fun Z m ws ps r u h => by
  unfold anyW at h
  cases q : blsW ws with
  | none => rw [q] at h; cases h
  | some l => rw [q] at h; cases h; exact ⟨.bl (l.any id), _, by unfold nAny; rw [blsW_ok u q]; rfl, rfl, by simp only [PRep]⟩
theorem ns_all : NSim nAll allW := .pure fun Z m ws ps r u h => by
  unfold allW at h
  cases q : blsW ws with
  | none => rw [q] at h; cases h
  | some l => rw [q] at h; cases h; exact ⟨.bl (l.all id), _, by unfold nAll; rw [blsW_ok u q]; rfl, rfl, by simp only [PRep]⟩
theorem ns_tup : NSim nTup tupW := .pure fun Z m ws ps r u h => by
  cases h
  exact ⟨.tup ps, _, rfl, rfl, by simp only [PRep]; exact ⟨ps, rfl, u⟩⟩
theorem ns_len : NSim nLen lenW := .pure fun Z m ws ps r u h => by
  cases h
  exact ⟨.int ps.length, _, rfl, rfl, by simp only [PRep, u.len]⟩
def reprW (ws : List Wv) : Option Uv := (wdats DD ws).bind fun ds => shwD (.list ds)
theorem ns_repr : NSim nRepr reprW := .pure fun Z m ws ps r u h => by
  unfold reprW at h
  cases q : wdats DD ws with
  | none => rw [q] at h; cases h
  | some ds =>
    rw [q] at h
    unfold shwD at h
    dsimp only [Option.bind_some] at h
    cases h2 : (PyData.list ds).showable && decide ((PyData.list ds).shown.length ≤ SZ) with
    | false => rw [h2] at h; cases h
    | true =>
      rw [h2] at h
      cases h
      refine ⟨.str (PyData.list ds).shown, _, ?_, rfl, by simp only [PRep]⟩
      unfold nRepr bnd allD
      rw [wdats_eq DD u, q]
      dsimp only
      rw [h2]
      rfl
def idW (ws : List Wv) : Option (List Wv) := some ws
theorem ls_id : LSim lId idW := fun Z m ws ps r u h => by
  cases h
  exact ⟨ps, rfl, u⟩
/-! ### sorting -/
theorem mg_map {α β : Type} (f : α → β) (le : β → β → Bool) : ∀ (n : Nat) (xs ys : List α), mg le n (xs.map f) (ys.map f) = (mg (fun a b => le (f a) (f b)) n xs ys).map f
  | 0, _, _ => rfl
  | n + 1, [], ys => rfl
  | n + 1, x :: xs, [] => rfl
  | n + 1, x :: xs, y :: ys => by
    simp only [List.map_cons, mg]
    cases le (f x) (f y) with
    | true => have := mg_map f le n xs (y :: ys); simp only [List.map_cons] at this; simp only [List.map_cons, this]
    | false => have := mg_map f le n (x :: xs) ys; simp only [List.map_cons] at this; simp only [List.map_cons, this]
theorem ms_map {α β : Type} (f : α → β) (le : β → β → Bool) : ∀ (n : Nat) (xs : List α), ms le n (xs.map f) = (ms (fun a b => le (f a) (f b)) n xs).map f
  | 0, _ => rfl
  | n + 1, [] => rfl
  | n + 1, [a] => rfl
  | n + 1, a :: b :: xs => by
    have h1 := ms_map f le n ((a :: b :: xs).take (((a :: b :: xs).length + 1) / 2))
    have h2 := ms_map f le n ((a :: b :: xs).drop (((a :: b :: xs).length + 1) / 2))
    simp only [List.map_cons, ms]
    have e : f a :: f b :: xs.map f = (a :: b :: xs).map f := rfl
    rw [e, ← List.map_take, ← List.map_drop, List.length_map, h1, h2, mg_map]
def keysW : List Wv → Option (List (Wv × PyData))
  | [] => some []
  | w :: ws => match wdat DD w with
    | some d => match keysW ws with
      | some r => some ((w, d) :: r)
      | none => none
    | none => none
def sortW (ws : List Wv) : Option (List Wv) := match keysW ws with
  | some qs => match allAlike (qs.map (·.2)) && ((qs.map (·.2)).all isTup1 || (qs.map (·.2)).all isOther) with
    | true => some ((ms (fun a b => !PySem.W.dataLt b.2 a.2) (qs.length + 1) qs).map (·.1))
    | false => none
  | none => none
/-- the three side by side -/
theorem keys_tri : ∀ {ws : List Wv} {ps : List P} {qs : List (Wv × PyData)}, PReps Z m ws ps → keysW ws = some qs → ∃ ts : List (Wv × P × PyData), qs = ts.map (fun t => (t.1, t.2.2)) ∧ ps = ts.map (·.2.1) ∧ mapO (fun p => (dat m DD p).map fun d => (p, d)) ps = some (ts.map (·.2)) ∧ ∀ t ∈ ts, PRep Z m t.1 t.2.1
  | [], ps, qs, r, h => by rw [preps_nil.mp r]; cases h; exact ⟨[], rfl, rfl, rfl, by simp⟩
  | w :: ws, [], qs, r, h => absurd r preps_cons_nil
  | w :: ws, p :: ps, qs, r, h => by
    obtain ⟨r1, r2⟩ := preps_cons.mp r
    unfold keysW at h
    cases h1 : wdat DD w with
    | none => rw [h1] at h; cases h
    | some d =>
      rw [h1] at h
      dsimp only at h
      cases h2 : keysW ws with
      | none => rw [h2] at h; cases h
      | some qs' =>
        rw [h2] at h
        cases h
        obtain ⟨ts, e1, e2, e3, e4⟩ := keys_tri r2 h2
        refine ⟨(w, p, d) :: ts, by rw [e1]; rfl, by rw [e2]; rfl, ?_, fun t ht => ?_⟩
        · unfold mapO
          rw [wdat_eq DD r1, h1]
          dsimp only [Option.map_some]
          rw [e3]
          rfl
        · rcases List.mem_cons.mp ht with rfl | ht
          · exact r1
          · exact e4 t ht
theorem PReps.of_tri {α : Type} (f : α → Wv) (g : α → P) : ∀ {ts : List α}, (∀ t ∈ ts, PRep Z m (f t) (g t)) → PReps Z m (ts.map f) (ts.map g)
  | [], _ => preps_nil.mpr rfl
  | t :: ts, h => preps_cons.mpr ⟨h t (by simp), PReps.of_tri f g fun u hu => h u (by simp [hu])⟩
theorem ms_mem {α : Type} (le : α → α → Bool) (xs : List α) {n : Nat} (h : xs.length < n) {t : α} (ht : t ∈ ms le n xs) : t ∈ xs := by
  rw [ms_eq le n xs h] at ht
  exact (List.mergeSort_perm xs le).mem_iff.mp ht
theorem ls_sort : LSim sortP sortW := fun Z m ws ps r u h => by
  unfold sortW at h
  cases h1 : keysW ws with
  | none => rw [h1] at h; cases h
  | some qs =>
    rw [h1] at h
    dsimp only at h
    cases h2 : allAlike (qs.map (·.2)) && ((qs.map (·.2)).all isTup1 || (qs.map (·.2)).all isOther) with
    | false => rw [h2] at h; cases h
    | true =>
      rw [h2] at h
      cases h
      obtain ⟨ts, rfl, rfl, e3, e4⟩ := keys_tri u h1
      have e5 : List.map (·.2) (ts.map fun t => (t.1, t.2.2)) = List.map (·.2) (ts.map (·.2)) := by simp [List.map_map, Function.comp_def]
      rw [e5] at h2
      refine ⟨(ms (fun a b => !PySem.W.dataLt b.2 a.2) ((ts.map (·.2)).length + 1) (ts.map (·.2))).map (·.1), ?_, ?_⟩
      · unfold sortP
        rw [e3]
        dsimp only
        rw [h2]
      · rw [ms_map, ms_map]
        simp only [List.length_map, List.map_map]
        exact PReps.of_tri (fun t : Wv × P × PyData => t.1) (fun t => t.2.1) fun t ht => e4 t (ms_mem _ _ (Nat.lt_succ_self _) ht)
/-! ### isinstance -/
def kindU : Uv → Option String
  | .w .non => some "NoneType"
  | .w (.bl _) => some "bool"
  | .w (.int _) => some "int"
  | .w (.str _) => some "str"
  | .w (.tup _) => some "tuple"
  | .w (.kt _) => some "tuple"
  | .w (.scr _) => some "list"
  | .w (.lst _) => some "list"
  | .lst _ => some "list"
  | .dK _ => some "dict"
  | .dT _ => some "dict"
  | .src _ _ _ _ => none
theorem kindU_ok {v : Uv} {p : P} {k : String} (u : URep Z m v p) (h : kindU v = some k) : kindP p m = .ok k m := by
  cases v with
  | w x =>
    cases x <;> simp only [URep, PRep] at u <;> cases h <;> (try obtain ⟨_, rfl, _⟩ := u) <;> (try subst u) <;> (try rfl)
    obtain ⟨n, ps, rfl, z, g, u⟩ := u
    exact (getO_ok g).trans rfl
  | lst ws => cases h; obtain ⟨n, ps, rfl, z, g, u⟩ := u; exact (getO_ok g).trans rfl
  | dK kvs => cases h; obtain ⟨n, ps, rfl, z, g, u⟩ := u; exact (getO_ok g).trans rfl
  | dT kvs =>
    cases h
    obtain ⟨n, ps, rfl, z, g, u⟩ := u
    rcases g with g | ⟨_, g⟩ <;> exact (getO_ok g).trans rfl
  | src _ _ _ _ => cases h
def isiU (T : String) (v : Uv) : Option Uv := (kindU v).map fun k => .w (.bl (isK T k))
theorem bs_isi (T : String) : BSim (one (uIsi T)) (b1 (isiU T)) := .one' fun Z m v p r u h => by
  unfold isiU at h
  cases q : kindU v with
  | none => rw [q] at h; cases h
  | some k =>
    rw [q] at h
    cases h
    refine ⟨.bl (isK T k), _, ?_, rfl, by simp only [PRep]⟩
    unfold uIsi bnd
    rw [kindU_ok u q]
    rfl
end
end G

/-! V8: methods, dicts made, calls. -/
namespace G
open PySem (Str PyData)
section
variable {Z : Zs} {m : Hm} {ρ : Env} {σ : UEnv}
/-- the name i's thing is changed -/
theorem EE.put {m' : Hm} {i : Nat} {v v' : Uv} {p : P} (e : EE Z m ρ σ) (hi : σ[i]? = some (some v)) (hp : ρ[i]? = some (some p)) (hl : m.length ≤ m'.length) (hs : ∀ k, k < m.length → k ∉ fp v p → m'[k]? = m[k]?) (hr : URep Z m' v' p) (hf : ∀ k, k ∈ fp v' p → k ∈ fp v p ∨ m.length ≤ k) :
    EE Z m' ρ (σ.set i (some v')) ∧ Step Z m (own ρ σ) Z m' (own ρ (σ.set i (some v'))) := by
  obtain ⟨p', hp', hv⟩ := e.rep i v hi
  rw [hp] at hp'
  cases hp'
  have K : Keep Z m Z m' := ⟨fun _ z => z, fun k z => hs k (e.zlt k z) fun x => (hv.fp_get x).2 z⟩
  have old : ∀ (j : Nat) (w : Uv) (q : P), j ≠ i → σ[j]? = some (some w) → ρ[j]? = some (some q) → ∀ k, k ∈ fp w q → k ∉ fp v p ∧ k < m.length ∧ ¬ Z k := fun j w q hj h1 h2 k hk => by
    obtain ⟨q', e1, e2⟩ := e.rep j w h1
    rw [h2] at e1
    cases e1
    exact ⟨fun x => hj (e.sep j i w v q p k h1 h2 hi hp hk x), e2.fp_lt hk, (e2.fp_get hk).2⟩
  have ge : ∀ (j : Nat) (w : Uv), (σ.set i (some v'))[j]? = some (some w) → (j = i ∧ w = v') ∨ (j ≠ i ∧ σ[j]? = some (some w)) := fun j w h => by
    rw [List.getElem?_set] at h
    split at h
    · rename_i hij
      split at h
      · cases h; exact .inl ⟨hij.symm, rfl⟩
      · cases h
    · rename_i hij
      exact .inr ⟨fun z => hij z.symm, h⟩
  refine ⟨⟨by rw [List.length_set]; exact e.len, fun k z => by have := e.zlt k z; omega, fun j w h => ?_, fun i1 j1 w1 w2 q1 q2 k h1 h2 h3 h4 h5 h6 => ?_⟩, hl, fun k hk n => hs k hk fun x => n ⟨i, v, p, hi, hp, x⟩, fun _ z => z, fun _ z => .inl z, fun k o => ?_⟩
  · rcases ge j w h with ⟨rfl, rfl⟩ | ⟨hj, h⟩
    · exact ⟨p, hp, hr⟩
    · obtain ⟨q, e1, e2⟩ := e.rep j w h
      exact ⟨q, e1, e2.keep K fun k hk => ⟨(e2.fp_get hk).2, hs k (old j w q hj h e1 k hk).2.1 (old j w q hj h e1 k hk).1⟩⟩
  · rcases ge i1 w1 h1 with ⟨rfl, rfl⟩ | ⟨ha, hq1⟩
    · rcases ge j1 w2 h3 with ⟨rfl, rfl⟩ | ⟨hb, h3⟩
      · rfl
      · rw [hp] at h2
        cases h2
        have := old j1 w2 q2 hb h3 h4 k h6
        rcases hf k h5 with x | x
        · exact absurd x this.1
        · omega
    · have h1' := hq1
      rcases ge j1 w2 h3 with ⟨rfl, rfl⟩ | ⟨hb, h3⟩
      · rw [hp] at h4
        cases h4
        have := old i1 w1 q1 ha h1' h2 k h5
        rcases hf k h6 with x | x
        · exact absurd x this.1
        · omega
      · exact e.sep i1 j1 w1 w2 q1 q2 k hq1 h2 h3 h4 h5 h6
  · obtain ⟨j, w, q, h1, h2, h3⟩ := o
    rcases ge j w h1 with ⟨rfl, rfl⟩ | ⟨hb, h1⟩
    · rw [hp] at h2
      cases h2
      rcases hf k h3 with x | x
      · exact .inl ⟨j, v, p, hi, hp, x⟩
      · exact .inr x
    · exact .inl ⟨j, w, q, h1, h2, h3⟩
/-- the list that the name i holds -/
def lstAt (σ : UEnv) (i : Nat) : Option (List Wv) := match σ[i]? with
  | some (some (.lst ws)) => some ws
  | _ => none
theorem lstAt_ok {i : Nat} {ws : List Wv} (e : EE Z m ρ σ) (h : lstAt σ i = some ws) : σ[i]? = some (some (.lst ws)) ∧ ∃ n ps, ρ[i]? = some (some (.ref n)) ∧ ¬ Z n ∧ m[n]? = some (.lst ps) ∧ PReps Z m ws ps := by
  unfold lstAt at h
  split at h
  · rename_i h1
    cases h
    obtain ⟨p, h2, n, ps, rfl, z, g, r⟩ := e.rep i _ h1
    exact ⟨h1, n, ps, h2, z, g, r⟩
  · cases h
theorem put_lst {i n : Nat} {ws vs : List Wv} {ps qs : List P} (e : EE Z m ρ σ) (hi : σ[i]? = some (some (.lst ws))) (hp : ρ[i]? = some (some (.ref n))) (z : ¬ Z n) (g : m[n]? = some (.lst ps)) (r : PReps Z m vs qs) :
    EE Z (m.set n (.lst qs)) ρ (σ.set i (some (.lst vs))) ∧ Step Z m (own ρ σ) Z (m.set n (.lst qs)) (own ρ (σ.set i (some (.lst vs)))) ∧ Keep Z m Z (m.set n (.lst qs)) := by
  have K : Keep Z m Z (m.set n (.lst qs)) := ⟨fun _ z => z, fun k hz => List.getElem?_set_ne (fun (x : n = k) => z (x ▸ hz))⟩
  obtain ⟨a, b⟩ := e.put (v' := .lst vs) (m' := m.set n (.lst qs)) hi hp (by simp) (fun k hk x => List.getElem?_set_ne (fun (y : n = k) => x (by simp [fp, y]))) ⟨n, qs, rfl, z, set_get g, r.keep K⟩ fun k x => .inl (by simpa [fp] using x)
  exact ⟨a, b, K⟩
theorem SimR.putW {m' : Hm} {σ' : UEnv} {AA : Nat → Prop} {x : Wv} {p : P} (e : EE Z m' ρ σ') (s : Step Z m (own ρ σ) Z m' (own ρ σ')) (r : PRep Z m' x p) (ha : ∀ k, own ρ σ k → AA k) : SimR RD_ FD_ Z m AA ρ (.ok p m') (.ok (.w x) σ') :=
  ⟨p, m', Z, rfl, e, r, fun k x => by simp [FD_, fp] at x, s.sub ha fun k x => by
    rcases x with x | x
    · exact .inl x
    · simp [FD_, fp] at x⟩
theorem chkL_ok {n : Nat} {ps : List P} (g : m[n]? = some (.lst ps)) : chkL (.ref n) m = .ok () m := (getO_ok g).trans rfl
def uApp (i : Nat) (d : uD) : uD := fun σ => match lstAt σ i with
  | some _ => ubnd (uZ d σ) fun x σ1 => match lstAt σ1 i with
    | some ws => match decide (ws.length < SZ) with
      | true => .ok (.w .non) (σ1.set i (some (.lst (ws ++ [x]))))
      | false => .bad
    | none => .bad
  | none => .bad
theorem dVar_eq {i : Nat} {p : P} (h : ρ[i]? = some (some p)) : dVar i ρ m = .ok p m := by unfold dVar; rw [h]
theorem simD_app (i : Nat) {d : D} {d' : uD} (h : SimD d d') : SimD (dMeth1 chkL mAppend (dVar i) d) (uApp i d') := fun Z m ρ σ e => by
  unfold uApp dMeth1
  cases q : lstAt σ i with
  | none => exact SimR.bad
  | some ws0 =>
    obtain ⟨hi, n, ps, hp, z, g, r⟩ := lstAt_ok e q
    have e1 : bnd (dVar i ρ) (fun x => bnd (chkL x) fun _ => bnd (d ρ) fun y => mAppend x y) m = bnd (d ρ) (fun y => mAppend (.ref n) y) m := by
      unfold bnd
      rw [dVar_eq hp]
      dsimp only
      rw [chkL_ok g]
    rw [e1]
    refine (simW_z h Z m ρ σ e).bnd fun x p Z m σ e r f => ?_
    cases q : lstAt σ i with
    | none => exact SimR.bad
    | some ws =>
      obtain ⟨hi, n', ps, hp', z, g, r1⟩ := lstAt_ok e q
      rw [hp] at hp'
      cases hp'
      dsimp only
      cases hd : decide (ws.length < SZ) with
      | false => exact SimR.bad
      | true =>
        show SimR RD_ FD_ Z m _ ρ (getO n _ m) _
        rw [getO_ok g]
        show SimR RD_ FD_ Z m _ ρ (when_ (decide (ps.length < SZ)) _ m) _
        rw [r1.len, hd]
        obtain ⟨a, b, K⟩ := put_lst e hi hp z g (r1.snoc r)
        exact SimR.putW a b (by simp only [PRep]) fun k x => .inl x
def uPop (i : Nat) : uD := fun σ => match lstAt σ i with
  | some ws => match ws[ws.length - 1]? with
    | some x => .ok (.w x) (σ.set i (some (.lst ws.dropLast)))
    | none => .bad
  | none => .bad
theorem PReps.dropLast {ws : List Wv} {ps : List P} (h : PReps Z m ws ps) : PReps Z m ws.dropLast ps.dropLast := by
  rw [List.dropLast_eq_take, List.dropLast_eq_take, h.len]
  exact h.take _
theorem simD_pop (i : Nat) : SimD (dMeth0 chkL mPop (dVar i)) (uPop i) := fun Z m ρ σ e => by
  unfold uPop dMeth0
  cases q : lstAt σ i with
  | none => exact SimR.bad
  | some ws =>
    obtain ⟨hi, n, ps, hp, z, g, r⟩ := lstAt_ok e q
    dsimp only
    cases q2 : ws[ws.length - 1]? with
    | none => exact SimR.bad
    | some x =>
      obtain ⟨p, h1, h2⟩ := r.get_some q2
      obtain ⟨a, b, K⟩ := put_lst e hi hp z g r.dropLast
      have e1 : bnd (dVar i ρ) (fun x => bnd (chkL x) fun _ => mPop x) m = .ok p (m.set n (.lst ps.dropLast)) := by
        unfold bnd
        rw [dVar_eq hp]
        dsimp only
        rw [chkL_ok g]
        dsimp only
        refine (getO_ok g).trans ?_
        dsimp only
        rw [r.len, h1]
        rfl
      rw [e1]
      exact SimR.putW a b (PRep.keep K h2) fun k x => x
def uPopAt (i : Nat) (o : Opd) : uD := fun σ => match lstAt σ i with
  | some _ => ubnd (uRd o σ) fun v σ1 => match intU v with
    | some j => match lstAt σ1 i with
      | some ws => match L2.ixN ws.length j with
        | some k => match ws[k]? with
          | some x => match smK 9223372036854775807 j with
            | true => .ok (.w x) (σ1.set i (some (.lst (ws.eraseIdx k))))
            | false => .bad
          | none => .bad
        | none => .bad
      | none => .bad
    | none => .bad
  | none => .bad
theorem simD_popAt (i : Nat) {d : D} {o : Opd} (h : SimO d o) : SimD (dMeth1 chkL mPopAt (dVar i) d) (uPopAt i o) := fun Z m ρ σ e => by
  unfold uPopAt dMeth1
  cases q : lstAt σ i with
  | none => exact SimR.bad
  | some ws0 =>
    obtain ⟨hi, n, ps, hp, z, g, r⟩ := lstAt_ok e q
    have e1 : bnd (dVar i ρ) (fun x => bnd (chkL x) fun _ => bnd (d ρ) fun y => mPopAt x y) m = bnd (d ρ) (fun y => mPopAt (.ref n) y) m := by
      unfold bnd
      rw [dVar_eq hp]
      dsimp only
      rw [chkL_ok g]
    rw [e1]
    refine (simO_rd h Z m ρ σ e).bnd fun v p Z m σ e r f => ?_
    cases hj : intU v with
    | none => exact SimR.bad
    | some j =>
      have := intU_ok r hj
      subst this
      dsimp only
      cases q : lstAt σ i with
      | none => exact SimR.bad
      | some ws =>
        obtain ⟨hi, n', ps, hp', z, g, r1⟩ := lstAt_ok e q
        rw [hp] at hp'
        cases hp'
        dsimp only
        cases hk : L2.ixN ws.length j with
        | none => exact SimR.bad
        | some k =>
          dsimp only
          cases hx : ws[k]? with
          | none => exact SimR.bad
          | some x =>
            dsimp only
            cases hd : smK 9223372036854775807 j with
            | false => exact SimR.bad
            | true =>
              have hd : (decide (-(9223372036854775808) ≤ j) && decide (j < 9223372036854775808)) = true := by
                have := smK_iff.mp hd
                simp only [Bool.and_eq_true, decide_eq_true_eq]
                omega
              obtain ⟨p, h1, h2⟩ := r1.get_some hx
              have e2 : mPopAt (.ref n) (.int j) m = .ok p (m.set n (.lst (ps.eraseIdx k))) := by
                refine (getO_ok g).trans ?_
                dsimp only
                rw [r1.len, hk]
                dsimp only
                rw [h1]
                dsimp only
                rw [hd]
                rfl
              rw [e2]
              obtain ⟨a, b, K⟩ := put_lst e hi hp z g (r1.eraseIdx k)
              exact SimR.putW a b (PRep.keep K h2) fun k x => .inl x
def uExt (i : Nat) (l : uL) : uD := fun σ => match lstAt σ i with
  | some _ => ubnd (l σ) fun xs σ1 => match lstAt σ1 i with
    | some ws => match decide (ws.length + xs.length ≤ SZ) with
      | true => .ok (.w .non) (σ1.set i (some (.lst (ws ++ xs))))
      | false => .bad
    | none => .bad
  | none => .bad
theorem simD_ext (i : Nat) {l : LD} {l' : uL} (h : SimL l l') : SimD (dMethL chkL mExtend (dVar i) l) (uExt i l') := fun Z m ρ σ e => by
  unfold uExt dMethL
  cases q : lstAt σ i with
  | none => exact SimR.bad
  | some ws0 =>
    obtain ⟨hi, n, ps, hp, z, g, r⟩ := lstAt_ok e q
    have e1 : bnd (dVar i ρ) (fun x => bnd (chkL x) fun _ => bnd (l ρ) fun y => mExtend x y) m = bnd (l ρ) (fun y => mExtend (.ref n) y) m := by
      unfold bnd
      rw [dVar_eq hp]
      dsimp only
      rw [chkL_ok g]
    rw [e1]
    refine (h Z m ρ σ e).bnd fun xs qs Z m σ e r f => ?_
    cases q : lstAt σ i with
    | none => exact SimR.bad
    | some ws =>
      obtain ⟨hi, n', ps, hp', z, g, r1⟩ := lstAt_ok e q
      rw [hp] at hp'
      cases hp'
      dsimp only
      cases hd : decide (ws.length + xs.length ≤ SZ) with
      | false => exact SimR.bad
      | true =>
        show SimR RD_ FD_ Z m _ ρ (getO n _ m) _
        rw [getO_ok g]
        show SimR RD_ FD_ Z m _ ρ (when_ (decide (ps.length + qs.length ≤ SZ)) _ m) _
        have r2 : PReps Z m xs qs := r
        rw [r1.len, r2.len, hd]
        obtain ⟨a, b, K⟩ := put_lst e hi hp z g (r1.append r2)
        exact SimR.putW a b (by simp only [PRep]) fun k x => .inl x
/-! ### dicts made -/
def uDnew : uD := fun σ => .ok (.dK []) σ
def uDnewT : uD := fun σ => .ok (.dT []) σ
theorem simD_dnew : SimD (fun _ => newO (.dK [])) uDnew := fun Z m ρ σ e =>
  simR_alloc e ⟨m.length, [], rfl, fun z => Nat.lt_irrefl _ (e.zlt _ z), new_get _ _, rfl, preps_nil.mpr rfl⟩ (fun k x => by simp [fp] at x; omega) fun k x => x
theorem simD_dnewT : SimD (fun _ => newO (.dK [])) uDnewT := fun Z m ρ σ e =>
  simR_alloc e ⟨m.length, [], rfl, fun z => Nat.lt_irrefl _ (e.zlt _ z), .inr ⟨rfl, new_get _ _⟩, rfl, preps_nil.mpr rfl⟩ (fun k x => by simp [fp] at x; omega) fun k x => x
def RK_ (Z : Zs) (m : Hm) (_ : Env) (ws : List (Wv × Wv)) (ps : List (P × P)) : Prop := PReps Z m (ws.map (·.1)) (ps.map (·.1)) ∧ PReps Z m (ws.map (·.2)) (ps.map (·.2))
abbrev uK := UEnv → VRes (List (Wv × Wv))
abbrev SimK (a : KA) (a' : uK) : Prop := Sim RK_ F0_ a a'
def ukNil : uK := fun σ => .ok [] σ
def ukCons (dk dv : uD) (r : uK) : uK := fun σ => ubnd (uZ dk σ) fun x σ1 => ubnd (uZ dv σ1) fun y σ2 => ubnd (r σ2) fun xs σ3 => .ok ((x, y) :: xs) σ3
theorem simK_nil : SimK kNil ukNil := fun Z m ρ σ e => SimR.ret (v := ([] : List (Wv × Wv))) (p := ([] : List (P × P))) e ⟨preps_nil.mpr rfl, preps_nil.mpr rfl⟩ (fun k x => False.elim x) fun k x => x
theorem simK_cons {dk dv : D} {r : KA} {dk' dv' : uD} {r' : uK} (h : SimD dk dk') (h2 : SimD dv dv') (h3 : SimK r r') : SimK (kCons dk dv r) (ukCons dk' dv' r') := fun Z m ρ σ e => by
  unfold kCons ukCons
  refine (simW_z h Z m ρ σ e).bnd fun x p Z m σ e r f => ?_
  refine ((simW_z h2 Z m ρ σ e).frame (C := fun _ => False) e fun k x => False.elim x).bnd (fun y q Z1 m1 σ1 e1 ⟨r1, K, c, s⟩ f1 => ?_) |>.mono ⟨Nat.le_refl _, fun _ _ _ => rfl, fun _ z => z, fun _ z => .inl z, fun k o => by rcases o with o | o; exact .inl (.inl o); exact .inl (.inr o)⟩
  refine ((h3 Z1 m1 ρ σ1 e1).frame (C := fun _ => False) e1 fun k x => False.elim x).bnd (fun xs ps Z2 m2 σ2 e2 ⟨r2, K2, c2, s2⟩ f2 => ?_) |>.mono ⟨Nat.le_refl _, fun _ _ _ => rfl, fun _ z => z, fun _ z => .inl z, fun k o => by rcases o with o | o; exact .inl (.inl o); exact .inl (.inr (.inr o))⟩
  exact SimR.ret e2 ⟨preps_cons.mpr ⟨PRep.keep K2 (PRep.keep K r), r2.1⟩, preps_cons.mpr ⟨PRep.keep K2 r1, r2.2⟩⟩ (fun k x => False.elim x) fun k x => .inl x
def keyedW (p : Wv × Wv) : Option (L2.Key × Wv) := (keyW p.1).map fun k => (k, p.2)
def putsW (kvs : List (L2.Key × Wv)) : List (L2.Key × Wv) := kvs.foldl (fun acc kv => wPut acc kv.1 kv.2) []
def uDict (a : uK) : uD := fun σ => ubnd (a σ) fun ps σ1 => match mapO keyedW ps with
  | some kvs => match decide (kvs.length ≤ 15) with
    | true => .ok (.dK (putsW kvs)) σ1
    | false => .bad
  | none => .bad
theorem keyed_ok : ∀ {ws : List (Wv × Wv)} {ps : List (P × P)} {kvs : List (L2.Key × Wv)}, PReps Z m (ws.map (·.1)) (ps.map (·.1)) → PReps Z m (ws.map (·.2)) (ps.map (·.2)) → mapO keyedW ws = some kvs → ∃ kps, mapO keyed ps = some kps ∧ KReps Z m kvs kps
  | [], [], kvs, r, r2, h => by cases h; exact ⟨[], rfl, rfl, preps_nil.mpr rfl⟩
  | [], p :: ps, kvs, r, r2, h => by have := r.len; simp at this
  | w :: ws, [], kvs, r, r2, h => by have := r.len; simp at this
  | (k, w) :: ws, (q, p) :: ps, kvs, r, r2, h => by
    obtain ⟨a1, a2⟩ := preps_cons.mp r
    obtain ⟨b1, b2⟩ := preps_cons.mp r2
    unfold mapO at h
    unfold mapO
    cases h1 : keyW k with
    | none => simp only [keyedW, h1, Option.map_none] at h; cases h
    | some x =>
      simp only [keyedW, h1, Option.map_some] at h
      cases h2 : mapO keyedW ws with
      | none => rw [h2] at h; cases h
      | some l =>
        rw [h2] at h
        cases h
        obtain ⟨kps, c1, c2⟩ := keyed_ok a2 b2 h2
        refine ⟨(x, p) :: kps, ?_, c2.cons b1⟩
        simp only [keyed, keyW_ok a1 h1, Option.map_some, c1]
theorem puts_rep : ∀ {kvs : List (L2.Key × Wv)} {kps : List (L2.Key × P)} {a : List (L2.Key × Wv)} {b : List (L2.Key × P)}, KReps Z m kvs kps → KReps Z m a b → KReps Z m (kvs.foldl (fun acc kv => wPut acc kv.1 kv.2) a) (kps.foldl (fun acc kv => vPut acc kv.1 kv.2) b)
  | [], kps, a, b, h, h2 => by rw [h.nil]; exact h2
  | kv :: kvs, kps, a, b, h, h2 => by
    obtain ⟨p, r, rfl, k1, k2⟩ := h.uncons
    exact puts_rep (kvs := kvs) (kps := r) k2 (h2.put k1)
theorem simD_dict {a : KA} {a' : uK} (h : SimK a a') : SimD (dDict a) (uDict a') := fun Z m ρ σ e => by
  unfold dDict uDict
  refine (h Z m ρ σ e).bnd fun ws ps Z m σ e r f => ?_
  cases q : mapO keyedW ws with
  | none => exact SimR.bad
  | some kvs =>
    dsimp only
    cases hd : decide (kvs.length ≤ 15) with
    | false => exact SimR.bad
    | true =>
      obtain ⟨kps, c1, c2⟩ := keyed_ok r.1 r.2 q
      have e1 : bnd (opt (mapO keyed ps)) (fun kvs => when_ (decide (kvs.length ≤ 15)) (newO (.dK (putsP kvs)))) m = newO (.dK (putsP kps)) m := by
        unfold bnd opt
        rw [c1]
        dsimp only
        rw [c2.len, hd]
        rfl
      rw [e1]
      have K : Keep Z m Z (m ++ [O.dK (putsP kps)]) := ⟨fun _ z => z, fun k z => List.getElem?_append_left (e.zlt k z)⟩
      exact simR_alloc e ⟨m.length, _, rfl, fun z => Nat.lt_irrefl _ (e.zlt _ z), new_get _ _, (puts_rep c2 ⟨rfl, preps_nil.mpr rfl⟩).keep K⟩ (fun k x => by simp [fp] at x; omega) fun k x => .inl x
/-! ### calls -/
inductive FRes where
  | ok (v : Uv) (vs : List Uv)
  | exc (c : String) (x : Wv) (vs : List Uv)
  | bad
/-- what is had of a def's result -/
def FnR (F : List P → M P) (Z : Zs) (m : Hm) (ps : List P) (vs : List Uv) (s : FRes) : Prop := match s with
  | .ok v vs' => ∃ p m' Z', F ps m = .ok p m' ∧ EE Z' m' (ps.map some) (vs'.map some) ∧ URep Z' m' v p ∧ (∀ k, k ∈ fp v p → ¬ own (ps.map some) (vs'.map some) k) ∧ Step Z m (own (ps.map some) (vs.map some)) Z' m' (fun k => own (ps.map some) (vs'.map some) k ∨ k ∈ fp v p)
  | .exc c x vs' => ∃ p m' Z', F ps m = .exc c p m' ∧ EE Z' m' (ps.map some) (vs'.map some) ∧ PRep Z' m' x p ∧ Step Z m (own (ps.map some) (vs.map some)) Z' m' (own (ps.map some) (vs'.map some))
  | .bad => True
theorem FnR.bad {F : List P → M P} {Z : Zs} {m : Hm} {ps : List P} {vs : List Uv} : FnR F Z m ps vs .bad := trivial
/-- a def: f' tells what F makes -/
def SimFn (F : List P → M P) (f' : List Uv → FRes) : Prop := ∀ (Z : Zs) (m : Hm) (ps : List P) (vs : List Uv), EE Z m (ps.map some) (vs.map some) → FnR F Z m ps vs (f' vs)
/-- what the operands' names hold afterwards -/
def wb : List Arg → List Uv → UEnv → UEnv
  | .i j :: as, v :: vs, σ => wb as vs (σ.set j (some v))
  | .u _ :: as, _ :: vs, σ => wb as vs σ
  | _, _, σ => σ
def uCall (f' : List Uv → FRes) (a' : uA) : uD := fun σ => ubnd (a' σ) fun as σ1 => match rsvs σ1 as with
  | some vs => match f' vs with
    | .ok r vs' => .ok r (wb as vs' σ1)
    | .exc c x vs' => .exc c x (wb as vs' σ1)
    | .bad => .bad
  | none => .bad
def slots : List Arg → List Nat
  | [] => []
  | .i j :: as => j :: slots as
  | .u _ :: as => slots as
theorem slots_mem : ∀ {as : List Arg} {j : Nat}, j ∈ slots as ↔ ∃ l : Nat, as[l]? = some (.i j)
  | [], j => by simp [slots]
  | .i k :: as, j => by
    simp only [slots, List.mem_cons, slots_mem (as := as)]
    constructor
    · rintro (rfl | ⟨l, h⟩)
      · exact ⟨0, rfl⟩
      · exact ⟨l + 1, h⟩
    · rintro ⟨l, h⟩
      cases l with
      | zero => cases h; exact .inl rfl
      | succ l => exact .inr ⟨l, by simpa using h⟩
  | .u v :: as, j => by
    simp only [slots, slots_mem (as := as)]
    constructor
    · rintro ⟨l, h⟩
      exact ⟨l + 1, h⟩
    · rintro ⟨l, h⟩
      cases l with
      | zero => cases h
      | succ l => exact ⟨l, by simpa using h⟩
theorem slots_inj : ∀ {as : List Arg} {i l j : Nat}, (slots as).Nodup → as[i]? = some (.i j) → as[l]? = some (.i j) → i = l
  | [], i, l, j, n, h1, h2 => by simp at h1
  | .i k :: as, i, l, j, n, h1, h2 => by
    simp only [slots, List.nodup_cons] at n
    cases i with
    | zero =>
      cases h1
      cases l with
      | zero => rfl
      | succ l => exact absurd (slots_mem.mpr ⟨l, by simpa using h2⟩) n.1
    | succ i =>
      cases l with
      | zero => cases h2; exact absurd (slots_mem.mpr ⟨i, by simpa using h1⟩) n.1
      | succ l => rw [slots_inj (i := i) (l := l) n.2 (by simpa using h1) (by simpa using h2)]
  | .u v :: as, i, l, j, n, h1, h2 => by
    simp only [slots] at n
    cases i with
    | zero => cases h1
    | succ i =>
      cases l with
      | zero => cases h2
      | succ l => rw [slots_inj (i := i) (l := l) n (by simpa using h1) (by simpa using h2)]
theorem wb_len : ∀ {as : List Arg} {vs : List Uv} {σ : UEnv}, (wb as vs σ).length = σ.length
  | [], vs, σ => rfl
  | .i j :: as, [], σ => rfl
  | .u v :: as, [], σ => rfl
  | .i j :: as, v :: vs, σ => by rw [wb, wb_len, List.length_set]
  | .u _ :: as, v :: vs, σ => by rw [wb, wb_len]
theorem wb_get : ∀ {as : List Arg} {vs : List Uv} {σ : UEnv} {t : Nat} {v : Uv}, as.length = vs.length → (slots as).Nodup → (wb as vs σ)[t]? = some (some v) → (∃ l : Nat, as[l]? = some (.i t) ∧ vs[l]? = some v) ∨ (t ∉ slots as ∧ σ[t]? = some (some v))
  | [], vs, σ, t, v, hl, n, h => by
    cases vs with
    | nil => exact .inr ⟨by simp [slots], h⟩
    | cons _ _ => simp at hl
  | .i j :: as, [], σ, t, v, hl, n, h => by simp at hl
  | .u _ :: as, [], σ, t, v, hl, n, h => by simp at hl
  | .i j :: as, w :: vs, σ, t, v, hl, n, h => by
    simp only [slots, List.nodup_cons] at n
    rw [wb] at h
    rcases wb_get (by simpa using hl) n.2 h with ⟨l, h1, h2⟩ | ⟨h1, h2⟩
    · exact .inl ⟨l + 1, by simpa using h1, by simpa using h2⟩
    · rw [List.getElem?_set] at h2
      split at h2
      · rename_i e
        split at h2
        · cases h2; exact .inl ⟨0, by rw [e]; rfl, rfl⟩
        · cases h2
      · rename_i e
        refine .inr ⟨?_, h2⟩
        simp only [slots, List.mem_cons, not_or]
        exact ⟨fun x => e x.symm, h1⟩
  | .u _ :: as, w :: vs, σ, t, v, hl, n, h => by
    simp only [slots] at n
    rw [wb] at h
    rcases wb_get (by simpa using hl) n h with ⟨l, h1, h2⟩ | ⟨h1, h2⟩
    · exact .inl ⟨l + 1, by simpa using h1, by simpa using h2⟩
    · exact .inr ⟨by simpa [slots] using h1, h2⟩
/-- the operands' names -/
def Slots (a' : uA) (L : List Nat) : Prop := ∀ σ as σ', a' σ = .ok as σ' → slots as = L
theorem sl_nil : Slots uaNil [] := fun σ as σ' h => by cases h; rfl
theorem sl_v {i : Nat} {a' : uA} {L : List Nat} (h : Slots a' L) : Slots (uaCons (oV i) a') (i :: L) := fun σ as σ' e => by
  unfold uaCons oV at e
  split at e
  · unfold ubnd at e
    dsimp only at e
    cases q : a' σ with
    | ok xs σ1 => rw [q] at e; cases e; rw [slots, h _ _ _ q]
    | exc _ _ _ => rw [q] at e; cases e
    | bad => rw [q] at e; cases e
  · cases e
theorem sl_d {d : uD} {a' : uA} {L : List Nat} (h : Slots a' L) : Slots (uaCons (oD d) a') L := fun σ as σ' e => by
  unfold uaCons oD ubnd at e
  cases q0 : d σ with
  | ok v σ0 =>
    rw [q0] at e
    dsimp only at e
    cases q : a' σ0 with
    | ok xs σ1 => rw [q] at e; cases e; rw [slots, h _ _ _ q]
    | exc _ _ _ => rw [q] at e; cases e
    | bad => rw [q] at e; cases e
  | exc _ _ _ => rw [q0] at e; cases e
  | bad => rw [q0] at e; cases e
theorem map_some_get {α : Type} {l : List α} {i : Nat} {a : α} : (l.map some)[i]? = some (some a) ↔ l[i]? = some a := by
  rw [List.getElem?_map]
  cases l[i]? <;> simp
/-- the arguments as names of the def's own -/
theorem args_ee {as : List Arg} {ps : List P} {vs : List Uv} (e : EE Z m ρ σ) (r : ARep Z m ρ as ps) (f : ∀ k, FA as ps k → ¬ own ρ σ k ∧ ¬ Z k ∧ k < m.length) (h : rsvs σ as = some vs) (n : (slots as).Nodup) : EE Z m (ps.map some) (vs.map some) where
  len := by rw [List.length_map, List.length_map, r.len, rsvs_len h]
  zlt := e.zlt
  rep i v hi := by
    have u := r.rsv e h
    rw [map_some_get] at hi
    have hl := (List.getElem?_eq_some_iff.mp hi).1
    obtain ⟨p, hp⟩ : ∃ p, ps[i]? = some p := ⟨_, List.getElem?_eq_getElem (by rw [u.len]; exact hl)⟩
    exact ⟨p, by rw [map_some_get]; exact hp, u.rep i v _ hi hp⟩
  sep i j v w p q k h1 h2 h3 h4 h5 h6 := by
    rw [map_some_get] at h1 h2 h3 h4
    obtain ⟨a, a1, a2⟩ := rsvs_get i v h h1
    obtain ⟨b, b1, b2⟩ := rsvs_get j w h h3
    cases a with
    | u x =>
      cases a2
      cases b with
      | u y => cases b2; exact r.sep i j _ _ p q k a1 h2 b1 h4 h5 h6
      | i y => exact absurd ⟨y, w, q, join_some b2, r.i j y q b1 h4, h6⟩ (f k ⟨i, _, p, a1, h2, h5⟩).1
    | i x =>
      cases b with
      | u y => cases b2; exact absurd ⟨x, v, p, join_some a2, r.i i x p a1 h2, h5⟩ (f k ⟨j, _, q, b1, h4, h6⟩).1
      | i y =>
        have := e.sep x y v w p q k (join_some a2) (r.i i x p a1 h2) (join_some b2) (r.i j y q b1 h4) h5 h6
        subst this
        exact slots_inj n a1 b1
theorem own_args {as : List Arg} {ps : List P} {vs : List Uv} {k : Nat} (r : ARep Z m ρ as ps) (h : rsvs σ as = some vs) (o : own (ps.map some) (vs.map some) k) : own ρ σ k ∨ FA as ps k := by
  obtain ⟨i, v, p, h1, h2, h3⟩ := o
  rw [map_some_get] at h1 h2
  exact r.cells h ⟨i, v, p, h1, h2, h3⟩
/-- back in the caller -/
theorem back_ee {Z' : Zs} {m' : Hm} {A' : Nat → Prop} {as : List Arg} {ps : List P} {vs vs' : List Uv} (e : EE Z m ρ σ) (r : ARep Z m ρ as ps) (f : ∀ k, FA as ps k → ¬ own ρ σ k ∧ ¬ Z k ∧ k < m.length) (h : rsvs σ as = some vs) (n : (slots as).Nodup) (e' : EE Z' m' (ps.map some) (vs'.map some)) (s : Step Z m (own (ps.map some) (vs.map some)) Z' m' A') (ha : ∀ k, own (ps.map some) (vs'.map some) k → A' k) :
    EE Z' m' ρ (wb as vs' σ) ∧ (∀ k, own ρ (wb as vs' σ) k → own (ps.map some) (vs'.map some) k ∨ (own ρ σ k ∧ ¬ own (ps.map some) (vs.map some) k)) := by
  have hl : as.length = vs'.length := by
    have := e'.len
    rw [List.length_map, List.length_map] at this
    rw [this, r.len]
  have K : Keep Z m Z' m' := s.kk fun k z => ⟨e.zlt k z, fun o => by
    rcases own_args r h o with o | o
    · exact (e.own_get o).1 z
    · exact (f k o).2.1 z⟩
  -- a name that is no operand
  have old : ∀ (t : Nat) (v : Uv) (p : P) (k : Nat), t ∉ slots as → σ[t]? = some (some v) → ρ[t]? = some (some p) → k ∈ fp v p → ¬ own (ps.map some) (vs.map some) k := fun t v p k ht h1 h2 h3 o => by
    obtain ⟨i, w, q, g1, g2, g3⟩ := o
    rw [map_some_get] at g1 g2
    obtain ⟨a, a1, a2⟩ := rsvs_get i w h g1
    cases a with
    | u x => cases a2; exact (f k ⟨i, _, q, a1, g2, g3⟩).1 ⟨t, v, p, h1, h2, h3⟩
    | i x =>
      have := e.sep t x v w p q k h1 h2 (join_some a2) (r.i i x q a1 g2) h3 g3
      subst this
      exact ht (slots_mem.mpr ⟨i, a1⟩)
  have slot : ∀ (t : Nat) (v : Uv), (wb as vs' σ)[t]? = some (some v) → (∃ (l : Nat) (p : P), as[l]? = some (.i t) ∧ vs'[l]? = some v ∧ ps[l]? = some p ∧ ρ[t]? = some (some p)) ∨ (t ∉ slots as ∧ σ[t]? = some (some v)) := fun t v ht => by
    rcases wb_get hl n ht with ⟨l, h1, h2⟩ | h1
    · have hlt := (List.getElem?_eq_some_iff.mp h2).1
      obtain ⟨p, hp⟩ : ∃ p, ps[l]? = some p := ⟨_, List.getElem?_eq_getElem (by rw [r.len, hl]; exact hlt)⟩
      exact .inl ⟨l, p, h1, h2, hp, r.i l t _ h1 hp⟩
    · exact .inr h1
  have keep : ∀ (t : Nat) (v : Uv) (p : P) (k : Nat), t ∉ slots as → σ[t]? = some (some v) → ρ[t]? = some (some p) → URep Z m v p → k ∈ fp v p → m'[k]? = m[k]? ∧ ¬ Z' k ∧ ¬ A' k := fun t v p k ht h1 h2 hu h3 => by
    have no := old t v p k ht h1 h2 h3
    have lt := hu.fp_lt h3
    have nz := (hu.fp_get h3).2
    refine ⟨s.keep k lt no, fun z => ?_, fun a => ?_⟩
    · rcases s.zout k z with x | x | x
      · exact nz x
      · exact no x
      · omega
    · rcases s.aout k a with x | x
      · exact no x
      · omega
  refine ⟨⟨by rw [wb_len]; exact e.len, e'.zlt, fun t v ht => ?_, fun t1 t2 v w p q k h1 h2 h3 h4 h5 h6 => ?_⟩, fun k o => ?_⟩
  · rcases slot t v ht with ⟨l, p, h1, h2, h3, h4⟩ | ⟨h1, h2⟩
    · obtain ⟨p', g1, g2⟩ := e'.rep l v (by rw [map_some_get]; exact h2)
      rw [map_some_get, h3] at g1
      cases g1
      exact ⟨p, h4, g2⟩
    · obtain ⟨p, g1, g2⟩ := e.rep t v h2
      exact ⟨p, g1, g2.keep K fun k hk => ⟨(keep t v p k h1 h2 g1 g2 hk).2.1, (keep t v p k h1 h2 g1 g2 hk).1⟩⟩
  · rcases slot t1 v h1 with ⟨l, p', a1, a2, a3, a4⟩ | ⟨a1, a2⟩
    · rw [h2] at a4
      cases a4
      have o1 : own (ps.map some) (vs'.map some) k := ⟨l, v, p, by rw [map_some_get]; exact a2, by rw [map_some_get]; exact a3, h5⟩
      rcases slot t2 w h3 with ⟨l2, q', b1, b2, b3, b4⟩ | ⟨b1, b2⟩
      · rw [h4] at b4
        cases b4
        have := e'.sep l l2 v w p q k (by rw [map_some_get]; exact a2) (by rw [map_some_get]; exact a3) (by rw [map_some_get]; exact b2) (by rw [map_some_get]; exact b3) h5 h6
        subst this
        rw [a1] at b1
        cases b1
        rfl
      · obtain ⟨q', g1, g2⟩ := e.rep t2 w b2
        rw [h4] at g1
        cases g1
        exact absurd (ha k o1) (keep t2 w q k b1 b2 h4 g2 h6).2.2
    · obtain ⟨p', g1, g2⟩ := e.rep t1 v a2
      rw [h2] at g1
      cases g1
      rcases slot t2 w h3 with ⟨l2, q', b1, b2, b3, b4⟩ | ⟨b1, b2⟩
      · rw [h4] at b4
        cases b4
        have o2 : own (ps.map some) (vs'.map some) k := ⟨l2, w, q, by rw [map_some_get]; exact b2, by rw [map_some_get]; exact b3, h6⟩
        exact absurd (ha k o2) (keep t1 v p k a1 a2 h2 g2 h5).2.2
      · exact e.sep t1 t2 v w p q k a2 h2 b2 h4 h5 h6
  · obtain ⟨t, v, p, h1, h2, h3⟩ := o
    rcases slot t v h1 with ⟨l, p', a1, a2, a3, a4⟩ | ⟨a1, a2⟩
    · rw [h2] at a4
      cases a4
      exact .inl ⟨l, v, p, by rw [map_some_get]; exact a2, by rw [map_some_get]; exact a3, h3⟩
    · exact .inr ⟨⟨t, v, p, a2, h2, h3⟩, old t v p k a1 a2 h2 h3⟩
theorem simD_call {F : List P → M P} {f' : List Uv → FRes} {a : A} {a' : uA} {L : List Nat} (hf : SimFn F f') (hs : Slots a' L) (hn : L.Nodup) (h : SimA a a') : SimD (dCall F a) (uCall f' a') := fun Z m ρ σ e => by
  unfold dCall uCall
  have h0 := h Z m ρ σ e
  cases qa : a' σ with
  | bad => exact SimR.bad
  | exc c x σ' =>
    rw [qa] at h0
    obtain ⟨p, m', Z', h1, h2, h3, h5⟩ := h0
    unfold bnd
    rw [h1]
    exact ⟨p, m', Z', rfl, h2, h3, h5⟩
  | ok as σ1 =>
    have hsl : (slots as).Nodup := by rw [hs _ _ _ qa]; exact hn
    rw [qa] at h0
    obtain ⟨ps, m1, Z1, h1, e1, r, f, s1⟩ := h0
    unfold bnd ubnd
    rw [h1]
    dsimp only
    cases q : rsvs σ1 as with
    | none => exact SimR.bad
    | some vs =>
      dsimp only
      have ea := args_ee e1 r f q hsl
      have hF := hf Z1 m1 ps vs ea
      have toA : ∀ k, own (ps.map some) (vs.map some) k → own ρ σ1 k ∨ FA as ps k := fun k o => own_args r q o
      cases qf : f' vs with
      | bad => exact SimR.bad
      | ok v vs' =>
        rw [qf] at hF
        obtain ⟨p, m2, Z2, k1, k2, k3, k4, k5⟩ := hF
        dsimp only
        rw [k1]
        obtain ⟨b1, b2⟩ := back_ee e1 r f q hsl k2 k5 fun k o => .inl o
        refine ⟨p, m2, Z2, rfl, b1, k3, fun k x => ⟨fun o => ?_, (k3.fp_get x).2, k3.fp_lt x⟩, s1.trans (k5.sub toA fun k x => ?_)⟩
        · rcases b2 k o with o | ⟨o, n⟩
          · exact k4 k x o
          · rcases k5.aout k (.inr x) with y | y
            · exact n y
            · have := (e1.own_get o).2
              omega
        · rcases x with x | x
          · rcases b2 k x with o | ⟨o, n⟩
            · exact .inl (.inl o)
            · exact .inr (.inl (.inl o))
          · exact .inl (.inr x)
      | exc c x vs' =>
        rw [qf] at hF
        obtain ⟨p, m2, Z2, k1, k2, k3, k5⟩ := hF
        dsimp only
        rw [k1]
        obtain ⟨b1, b2⟩ := back_ee e1 r f q hsl k2 k5 fun k o => o
        refine ⟨p, m2, Z2, rfl, b1, k3, s1.trans (k5.sub toA fun k x => ?_)⟩
        rcases b2 k x with o | ⟨o, n⟩
        · exact .inl o
        · exact .inr (.inl (.inl o))
end
end G

/-! V9: what is walked, comprehensions. -/
namespace G
open PySem (Str PyData)
section
variable {Z : Zs} {m : Hm} {ρ : Env} {σ : UEnv}
/-- what is walked: the items ws, whatever happens meanwhile -/
def SrcRep (Z : Zs) (m : Hm) (_ : Env) (ws : List Wv) (sr : Src) : Prop := ∀ Z' m', Keep Z m Z' m' → ∃ ps, PReps Z' m' ws ps ∧ (∀ i, sr.at i m' = some ps[i]?) ∧ sr.len m' = ps.length
abbrev SimSrc (s : SD) (s' : uL) : Prop := Sim SrcRep F0_ s s'
theorem SrcRep.seq {ws : List Wv} {ps : List P} (r : PReps Z m ws ps) : SrcRep Z m ρ ws (.seq ps) := fun Z' m' K => ⟨ps, r.keep K, fun i => rfl, rfl⟩
theorem SrcRep.lst {ws : List Wv} {ps : List P} {n : Nat} (r : PReps Z m ws ps) (z : Z n) (g : m[n]? = some (.lst ps)) : SrcRep Z m ρ ws (.lst n) := fun Z' m' K => by
  have g' := (K.same n z).trans g
  exact ⟨ps, r.keep K, fun i => by simp only [Src.at, g'], by simp only [Src.len, g']⟩
def itW : Wv → Option (List Wv)
  | .tup ws => some ws
  | .scr ws => some ws
  | .kt ws => some ws
  | .lst ws => some ws
  | _ => none
def usOf (d : uD) : uL := fun σ => ubnd (uZ d σ) fun x σ1 => match itW x with
  | some ws => .ok ws σ1
  | none => .bad
theorem simSrc_of {d : D} {d' : uD} (h : SimD d d') : SimSrc (sOf d) (usOf d') := fun Z m ρ σ e => by
  unfold sOf usOf
  refine (simW_z h Z m ρ σ e).bnd fun x p Z m σ e r f => ?_
  have fin : ∀ (ws : List Wv) (s : Src), SrcRep Z m ρ ws s → SimR SrcRep F0_ Z m (fun k => own ρ σ k ∨ F0_ x p k) ρ (G.ret s m) (.ok ws σ) := fun ws s h => SimR.ret e h (fun k x => False.elim x) fun k x => .inl x
  cases x with
  | tup ws => simp only [RW_, PRep] at r; obtain ⟨ps, rfl, r⟩ := r; exact fin ws (.seq ps) (.seq r)
  | scr ws => simp only [RW_, PRep] at r; obtain ⟨ps, rfl, r⟩ := r; exact fin ws (.seq ps) (.seq r)
  | kt ws => simp only [RW_, PRep] at r; obtain ⟨ps, rfl, r⟩ := r; exact fin ws (.seq ps) (.seq r)
  | lst ws =>
    simp only [RW_, PRep] at r
    obtain ⟨n, ps, rfl, z, g, r⟩ := r
    show SimR _ _ _ _ _ _ (getO n _ m) _
    rw [getO_ok g]
    exact fin ws (.lst n) (.lst r z g)
  | _ => exact SimR.bad
theorem simSrc_ofL {l : LD} {l' : uL} (h : SimL l l') : SimSrc (sOfL l) l' := fun Z m ρ σ e => by
  have e1 : l' σ = ubnd (l' σ) fun ws σ1 => .ok ws σ1 := by cases l' σ <;> rfl
  rw [e1]
  unfold sOfL
  refine (h Z m ρ σ e).bnd fun ws ps Z m σ e r f => ?_
  exact SimR.ret e (SrcRep.seq r) (fun k x => False.elim x) fun k x => .inl x
def numW (i : Nat) : List Wv → List Wv
  | [] => []
  | w :: ws => .tup [.int (i : Nat), w] :: numW (i + 1) ws
theorem numW_rep : ∀ {ws : List Wv} {ps : List P} (i : Nat), PReps Z m ws ps → PReps Z m (numW i ws) (numbered i ps)
  | [], ps, i, r => by rw [preps_nil.mp r]; exact preps_nil.mpr rfl
  | w :: ws, [], i, r => absurd r preps_cons_nil
  | w :: ws, p :: ps, i, r => by
    obtain ⟨r1, r2⟩ := preps_cons.mp r
    exact preps_cons.mpr ⟨by simp only [PRep]; exact ⟨[.int (i : Nat), p], rfl, preps_cons.mpr ⟨by simp only [PRep], preps_cons.mpr ⟨r1, preps_nil.mpr rfl⟩⟩⟩, numW_rep (i + 1) r2⟩
theorem numbd_get : ∀ (ps : List P) (k i : Nat), (numbered k ps)[i]? = ps[i]?.map fun p => .tup [.int ((k + i : Nat) : Int), p]
  | [], k, i => by simp [numbered]
  | p :: ps, k, 0 => rfl
  | p :: ps, k, i + 1 => by
    show (numbered (k + 1) ps)[i]? = _
    rw [numbd_get ps (k + 1) i]
    have : k + 1 + i = k + (i + 1) := by omega
    rw [this]
    rfl
theorem numbd_len : ∀ (ps : List P) (k : Nat), (numbered k ps).length = ps.length
  | [], k => rfl
  | p :: ps, k => by rw [numbered, List.length_cons, numbd_len ps, List.length_cons]
def usEnum (d : uD) : uL := fun σ => ubnd (uZ d σ) fun x σ1 => match x with
  | .tup ws => .ok (numW 0 ws) σ1
  | .lst ws => .ok (numW 0 ws) σ1
  | _ => .bad
theorem simSrc_enum {d : D} {d' : uD} (h : SimD d d') : SimSrc (sEnum d) (usEnum d') := fun Z m ρ σ e => by
  unfold sEnum usEnum
  refine (simW_z h Z m ρ σ e).bnd fun x p Z m σ e r f => ?_
  cases x with
  | tup ws => simp only [RW_, PRep] at r; obtain ⟨ps, rfl, r⟩ := r; exact SimR.ret e (.seq (numW_rep 0 r)) (fun k x => False.elim x) fun k x => .inl x
  | lst ws =>
    simp only [RW_, PRep] at r
    obtain ⟨n, ps, rfl, z, g, r⟩ := r
    show SimR _ _ _ _ _ _ (getO n _ m) _
    rw [getO_ok g]
    refine SimR.ret e (fun Z' m' K => ?_) (fun k x => False.elim x) fun k x => .inl x
    have g' := (K.same n z).trans g
    refine ⟨numbered 0 ps, (numW_rep 0 r).keep K, fun i => ?_, by simp only [Src.len, g', numbd_len]⟩
    simp only [Src.at, g', numbd_get, Nat.zero_add]
  | _ => exact SimR.bad
def zipW : List Wv → List Wv → List Wv
  | p :: ps, q :: qs => .tup [p, q] :: zipW ps qs
  | _, _ => []
theorem zipW_rep : ∀ {ws vs : List Wv} {ps qs : List P}, PReps Z m ws ps → PReps Z m vs qs → PReps Z m (zipW ws vs) (zipP ps qs)
  | [], vs, ps, qs, r, r2 => by rw [preps_nil.mp r]; exact preps_nil.mpr rfl
  | w :: ws, vs, [], qs, r, r2 => absurd r preps_cons_nil
  | w :: ws, [], p :: ps, qs, r, r2 => by rw [preps_nil.mp r2]; exact preps_nil.mpr rfl
  | w :: ws, v :: vs, p :: ps, [], r, r2 => absurd r2 preps_cons_nil
  | w :: ws, v :: vs, p :: ps, q :: qs, r, r2 => by
    obtain ⟨a1, a2⟩ := preps_cons.mp r
    obtain ⟨b1, b2⟩ := preps_cons.mp r2
    exact preps_cons.mpr ⟨by simp only [PRep]; exact ⟨[p, q], rfl, preps_cons.mpr ⟨a1, preps_cons.mpr ⟨b1, preps_nil.mpr rfl⟩⟩⟩, zipW_rep a2 b2⟩
def zip2 (xs : List Wv) : Option (List Wv) := match xs with
  | [.tup ws, .tup vs] => some (zipW ws vs)
  | [.lst ws, .lst vs] => some (zipW ws vs)
  | _ => none
theorem zip2_some {xs zs : List Wv} (h : zip2 xs = some zs) : ∃ ws vs, zs = zipW ws vs ∧ (xs = [.tup ws, .tup vs] ∨ xs = [.lst ws, .lst vs]) := by
  unfold zip2 at h
  split at h
  · cases h; exact ⟨_, _, rfl, .inl rfl⟩
  · cases h; exact ⟨_, _, rfl, .inr rfl⟩
  · cases h
theorem PReps.uncons {w : Wv} {ws : List Wv} {ps : List P} (r : PReps Z m (w :: ws) ps) : ∃ p qs, ps = p :: qs ∧ PRep Z m w p ∧ PReps Z m ws qs := by
  simpa only [PReps] using r
def usZip (a : uL) : uL := fun σ => ubnd (a σ) fun xs σ1 => match zip2 xs with
  | some zs => .ok zs σ1
  | none => .bad
theorem zipP_len : ∀ ps qs : List P, (zipP ps qs).length = min ps.length qs.length
  | [], qs => by simp [zipP]
  | p :: ps, [] => by simp [zipP]
  | p :: ps, q :: qs => by simp [zipP, zipP_len ps qs]
theorem simSrc_zip {a : A} {a' : uL} (h : SimL a a') : SimSrc (sZip a) (usZip a') := fun Z m ρ σ e => by
  unfold sZip usZip
  refine (h Z m ρ σ e).bnd fun xs ps Z m σ e r f => ?_
  have r : PReps Z m xs ps := r
  cases q : zip2 xs with
  | none => exact SimR.bad
  | some zs =>
    obtain ⟨ws, vs, rfl, rfl | rfl⟩ := zip2_some q
    · obtain ⟨p1, r', rfl, r1, r4⟩ := r.uncons
      obtain ⟨p2, r'', rfl, r2, r3⟩ := r4.uncons
      rw [preps_nil.mp r3]
      simp only [PRep] at r1 r2
      obtain ⟨ps, rfl, r1⟩ := r1
      obtain ⟨qs, rfl, r2⟩ := r2
      exact SimR.ret e (.seq (zipW_rep r1 r2)) (fun k x => False.elim x) fun k x => .inl x
    · obtain ⟨p1, r', rfl, r1, r4⟩ := r.uncons
      obtain ⟨p2, r'', rfl, r2, r3⟩ := r4.uncons
      rw [preps_nil.mp r3]
      simp only [PRep] at r1 r2
      obtain ⟨n, ps, rfl, z, g, r1⟩ := r1
      obtain ⟨k, qs, rfl, z2, g2, r2⟩ := r2
      show SimR _ _ _ _ _ _ (getO n _ m) _
      rw [getO_ok g]
      show SimR _ _ _ _ _ _ (getO k _ m) _
      rw [getO_ok g2]
      refine SimR.ret e (fun Z' m' K => ?_) (fun k x => False.elim x) fun k x => .inl x
      have g' := (K.same n z).trans g
      have g2' := (K.same k z2).trans g2
      refine ⟨zipP ps qs, (zipW_rep r1 r2).keep K, fun i => ?_, by simp only [Src.len, g', g2', zipP_len]⟩
      simp only [Src.at, g', g2', zipP_get]
def usR1 (o : Opd) : uL := fun σ => ubnd (uRd o σ) fun v σ1 => match intU v with
  | some j => match smK 1000000000 j with
    | true => .ok (rangeW 0 j) σ1
    | false => .bad
  | none => .bad
def usR2 (a b : Opd) : uL := fun σ => ubnd (uRd a σ) fun v σ1 => match intU v with
  | some i => ubnd (uRd b σ1) fun w σ2 => match intU w with
    | some j => match smK 1000000000 i && smK 1000000000 j with
      | true => .ok (rangeW i j) σ2
      | false => .bad
    | none => .bad
  | none => .bad
theorem simSrc_r1 {d : D} {o : Opd} (h : SimO d o) : SimSrc (sRange1 d) (usR1 o) := fun Z m ρ σ e => by
  unfold sRange1 usR1
  refine (simO_rd h Z m ρ σ e).bnd fun v p Z m σ e r f => ?_
  cases q : intU v with
  | none => exact SimR.bad
  | some j =>
    have := intU_ok r q
    subst this
    dsimp only
    cases hd : smK 1000000000 j with
    | false => exact SimR.bad
    | true =>
      show SimR SrcRep F0_ Z m _ ρ (when_ (small62 j) _ m) _
      rw [smK_small hd]
      exact SimR.ret e (.seq (range_rep _ _)) (fun k x => False.elim x) fun k x => .inl x
theorem simSrc_r2 {d d2 : D} {o o2 : Opd} (h : SimO d o) (h2 : SimO d2 o2) : SimSrc (sRange2 d d2) (usR2 o o2) := fun Z m ρ σ e => by
  unfold sRange2 usR2
  refine (simO_rd h Z m ρ σ e).bnd fun v p Z m σ e r f => ?_
  cases q : intU v with
  | none => exact SimR.bad
  | some i =>
    have := intU_ok r q
    subst this
    dsimp only
    refine ((simO_rd h2 Z m ρ σ e).mono ⟨Nat.le_refl _, fun _ _ _ => rfl, fun _ z => z, fun _ z => .inl z, fun k o => .inl (.inl o)⟩).bnd fun w p2 Z m σ e r f => ?_
    cases q2 : intU w with
    | none => exact SimR.bad
    | some j =>
      have := intU_ok r q2
      subst this
      dsimp only
      cases hd : smK 1000000000 i && smK 1000000000 j with
      | false => exact SimR.bad
      | true =>
        simp only [Bool.and_eq_true] at hd
        show SimR SrcRep F0_ Z m _ ρ (when_ (small62 i && small62 j) _ m) _
        rw [smK_small hd.1, smK_small hd.2]
        exact SimR.ret e (.seq (range_rep _ _)) (fun k x => False.elim x) fun k x => .inl x
/-! ### targets -/
abbrev uG := Wv → UEnv → Option UEnv
abbrev uGs := List Wv → UEnv → Option UEnv
structure GRes (Z : Zs) (m : Hm) (ρ : Env) (σ : UEnv) (W : List Nat) (ρ' : Env) (σ' : UEnv) : Prop where
  ee : EE Z m ρ' σ'
  ow : ∀ k, own ρ' σ' k → own ρ σ k
  oth : ∀ j : Nat, j ∉ W → ρ'[j]? = ρ[j]?
  len : ρ'.length = ρ.length
def SimG (W : List Nat) (g : GD) (g' : uG) : Prop := ∀ Z m ρ σ x p σ', EE Z m ρ σ → PRep Z m x p → g' x σ = some σ' → ∃ ρ', g p ρ m = .ok ρ' m ∧ GRes Z m ρ σ W ρ' σ'
def SimGs (W : List Nat) (g : GsD) (g' : uGs) : Prop := ∀ Z m ρ σ xs ps σ', EE Z m ρ σ → PReps Z m xs ps → g' xs σ = some σ' → ∃ ρ', g ps ρ m = .ok ρ' m ∧ GRes Z m ρ σ W ρ' σ'
/-- a name is given something new -/
theorem EE.asg {i : Nat} {v : Uv} {p : P} (e : EE Z m ρ σ) (r : URep Z m v p) (f : ∀ k, k ∈ fp v p → ¬ own ρ σ k) : EE Z m (ρ.set i (some p)) (σ.set i (some v)) ∧ ∀ k, own (ρ.set i (some p)) (σ.set i (some v)) k → own ρ σ k ∨ k ∈ fp v p := by
  have ge : ∀ (j : Nat) (w : Uv), (σ.set i (some v))[j]? = some (some w) → (j = i ∧ w = v ∧ (ρ.set i (some p))[j]? = some (some p)) ∨ (j ≠ i ∧ σ[j]? = some (some w) ∧ (ρ.set i (some p))[j]? = ρ[j]?) := fun j w h => by
    rw [List.getElem?_set] at h
    split at h
    · rename_i hij
      subst hij
      split at h
      · rename_i hl
        cases h
        exact .inl ⟨rfl, rfl, List.getElem?_set_self (by rw [← e.len]; exact hl)⟩
      · cases h
    · rename_i hij
      exact .inr ⟨fun z => hij z.symm, h, List.getElem?_set_ne hij⟩
  refine ⟨⟨by rw [List.length_set, List.length_set]; exact e.len, e.zlt, fun j w h => ?_, fun i1 j1 w1 w2 q1 q2 k h1 h2 h3 h4 h5 h6 => ?_⟩, fun k o => ?_⟩
  · rcases ge j w h with ⟨rfl, rfl, h2⟩ | ⟨_, h1, h2⟩
    · exact ⟨p, h2, r⟩
    · obtain ⟨q, a, b⟩ := e.rep j w h1
      exact ⟨q, h2.trans a, b⟩
  · rcases ge i1 w1 h1 with ⟨rfl, rfl, g1⟩ | ⟨ha, a1, g1⟩
    · rcases ge j1 w2 h3 with ⟨rfl, rfl, g2⟩ | ⟨hb, b1, g2⟩
      · rfl
      · rw [h2] at g1
        cases g1
        rw [g2] at h4
        exact absurd ⟨j1, w2, q2, b1, h4, h6⟩ (f k h5)
    · rcases ge j1 w2 h3 with ⟨rfl, rfl, g2⟩ | ⟨hb, b1, g2⟩
      · rw [h4] at g2
        cases g2
        rw [g1] at h2
        exact absurd ⟨i1, w1, q1, a1, h2, h5⟩ (f k h6)
      · rw [g1] at h2
        rw [g2] at h4
        exact e.sep i1 j1 w1 w2 q1 q2 k a1 h2 b1 h4 h5 h6
  · obtain ⟨j, w, q, h1, h2, h3⟩ := o
    rcases ge j w h1 with ⟨rfl, rfl, g1⟩ | ⟨ha, a1, g1⟩
    · rw [h2] at g1
      cases g1
      exact .inr h3
    · rw [g1] at h2
      exact .inl ⟨j, w, q, a1, h2, h3⟩
def ugName (i : Nat) : uG := fun x σ => some (σ.set i (some (.w x)))
theorem simG_name (i : Nat) : SimG [i] (gName i) (ugName i) := fun Z m ρ σ x p σ' e r h => by
  cases h
  obtain ⟨a, b⟩ := e.asg (i := i) (v := .w x) (p := p) r fun k x => by simp [fp] at x
  exact ⟨_, rfl, a, fun k o => (b k o).resolve_right (by simp [fp]), fun j hj => List.getElem?_set_ne (fun z => hj (by simp [z])), by simp⟩
def ugNil : uGs := fun xs σ => match xs with
  | [] => some σ
  | _ => none
def ugCons (g : uG) (gs : uGs) : uGs := fun xs σ => match xs with
  | x :: r => (g x σ).bind fun σ1 => gs r σ1
  | [] => none
theorem simGs_nil : SimGs [] gNil ugNil := fun Z m ρ σ xs ps σ' e r h => by
  cases xs with
  | nil => cases h; rw [preps_nil.mp r]; exact ⟨ρ, rfl, e, fun k o => o, fun j _ => rfl, rfl⟩
  | cons x xs => cases h
theorem simGs_cons {W V : List Nat} {g : GD} {g' : uG} {gs : GsD} {gs' : uGs} (h : SimG W g g') (h2 : SimGs V gs gs') : SimGs (W ++ V) (gCons g gs) (ugCons g' gs') := fun Z m ρ σ xs ps σ' e r q => by
  cases xs with
  | nil => cases q
  | cons x xs =>
    match ps, r with
    | [], r => exact absurd r preps_cons_nil
    | p :: ps, r =>
      obtain ⟨r1, r2⟩ := preps_cons.mp r
      unfold ugCons at q
      dsimp only at q
      cases q1 : g' x σ with
      | none => rw [q1] at q; cases q
      | some σ1 =>
        rw [q1] at q
        obtain ⟨ρ1, a1, a2⟩ := h Z m ρ σ x p σ1 e r1 q1
        obtain ⟨ρ2, b1, b2⟩ := h2 Z m ρ1 σ1 xs ps σ' a2.ee r2 q
        refine ⟨ρ2, ?_, b2.ee, fun k o => a2.ow k (b2.ow k o), fun j hj => ?_, b2.len.trans a2.len⟩
        · show bnd (g p ρ) _ m = _
          unfold bnd
          rw [a1]
          exact b1
        · simp only [List.mem_append, not_or] at hj
          rw [b2.oth j hj.2, a2.oth j hj.1]
def ugTup (n : Nat) (gs : uGs) : uG := fun x σ => match x with
  | .tup ws => match decide (ws.length = n) with
    | true => gs ws σ
    | false => none
  | _ => none
theorem simG_tup {W : List Nat} {n : Nat} {gs : GsD} {gs' : uGs} (h : SimGs W gs gs') : SimG W (gTup n gs) (ugTup n gs') := fun Z m ρ σ x p σ' e r q => by
  cases x with
  | tup ws =>
    simp only [PRep] at r
    obtain ⟨ps, rfl, r⟩ := r
    unfold ugTup at q
    dsimp only at q
    cases hd : decide (ws.length = n) with
    | false => rw [hd] at q; cases q
    | true =>
      rw [hd] at q
      obtain ⟨ρ', a, b⟩ := h Z m ρ σ ws ps σ' e r q
      refine ⟨ρ', ?_, b⟩
      show when_ (decide (ps.length = n)) _ m = _
      rw [r.len, hd]
      exact a
  | _ => cases q
/-! ### comprehensions -/
def wipeU (σ : UEnv) : List Nat → UEnv
  | [] => σ
  | v :: vs => (wipeU σ vs).set v none
theorem wipeU_get : ∀ {vs : List Nat} {j : Nat} {v : Uv}, (wipeU σ vs)[j]? = some (some v) → j ∉ vs ∧ σ[j]? = some (some v)
  | [], j, v, h => ⟨by simp, h⟩
  | w :: vs, j, v, h => by
    rw [wipeU, List.getElem?_set] at h
    split at h
    · split at h <;> cases h
    · rename_i e
      obtain ⟨a, b⟩ := wipeU_get h
      exact ⟨by simp only [List.mem_cons, not_or]; exact ⟨fun x => e x.symm, a⟩, b⟩
theorem wipeE_get : ∀ {vs : List Nat} {j : Nat}, j ∉ vs → (wipeE ρ vs)[j]? = ρ[j]?
  | [], j, h => rfl
  | w :: vs, j, h => by
    simp only [List.mem_cons, not_or] at h
    rw [wipeE, List.getElem?_set_ne (Ne.symm h.1), wipeE_get h.2]
theorem wipeU_len : ∀ {vs : List Nat}, (wipeU σ vs).length = σ.length
  | [] => rfl
  | w :: vs => by rw [wipeU, List.length_set, wipeU_len]
theorem wipeE_len : ∀ {vs : List Nat}, (wipeE ρ vs).length = ρ.length
  | [] => rfl
  | w :: vs => by rw [wipeE, List.length_set, wipeE_len]
/-- fewer names are looked at, other names hold other things -/
theorem EE.to {ρ' : Env} {σ' : UEnv} (e : EE Z m ρ σ) (hl : σ'.length = ρ'.length) (h : ∀ (j : Nat) (v : Uv), σ'[j]? = some (some v) → σ[j]? = some (some v) ∧ ρ'[j]? = ρ[j]?) : EE Z m ρ' σ' ∧ ∀ k, own ρ' σ' k → own ρ σ k := by
  refine ⟨⟨hl, e.zlt, fun j v hj => ?_, fun i j v w p q k h1 h2 h3 h4 h5 h6 => ?_⟩, fun k ⟨j, v, p, h1, h2, h3⟩ => ?_⟩
  · obtain ⟨a, b⟩ := h j v hj
    obtain ⟨p, c, d⟩ := e.rep j v a
    exact ⟨p, b.trans c, d⟩
  · obtain ⟨a, b⟩ := h i v h1
    obtain ⟨c, d⟩ := h j w h3
    exact e.sep i j v w p q k a (b ▸ h2) c (d ▸ h4) h5 h6
  · obtain ⟨a, b⟩ := h j v h1
    exact ⟨j, v, p, a, b ▸ h2, h3⟩
def uCompL (g : uG) (t : uT) (e : uD) (ow : List Nat) : List Wv → List Wv → UEnv → VRes (List Wv)
  | [], acc, σ => .ok acc σ
  | x :: xs, acc, σ => match g x σ with
    | some σ1 => match t σ1 with
      | .ok true σ2 => match uZ e σ2 with
        | .ok y σ3 => match decide (acc.length < SZ) with
          | true => uCompL g t e ow xs (acc ++ [y]) (wipeU σ3 ow)
          | false => .bad
        | _ => .bad
      | .ok false σ2 => uCompL g t e ow xs acc (wipeU σ2 ow)
      | _ => .bad
    | none => .bad
def uComp (src : uL) (g : uG) (t : uT) (e : uD) (ow : List Nat) : uL := fun σ => ubnd (src σ) fun ws σ1 => uCompL g t e ow ws [] (wipeU σ1 ow)
theorem comp_sim {W ow : List Nat} {g : GD} {g' : uG} {t : T} {t' : uT} {e : D} {e' : uD} (hg : SimG W g g') (hW : ∀ j ∈ W, j ∈ ow) (ht : SimT t t') (he : SimD e e') (ρ : Env) (src : Src) : ∀ (f i : Nat) (ws acc : List Wv) (qs : List P) (Z : Zs) (m : Hm) (σ : UEnv), EE Z m ρ σ → PReps Z m acc qs →
    (∀ Z' m', Keep Z m Z' m' → ∃ ps : List P, PReps Z' m' ws (ps.drop i) ∧ (∀ j, src.at j m' = some ps[j]?) ∧ i + f = ps.length) → SimR RL_ F0_ Z m (own ρ σ) ρ (compL g t e ρ src f i qs m) (uCompL g' t' e' ow ws acc σ)
  | 0, i, ws, acc, qs, Z, m, σ, E0, ra, hs => by
    obtain ⟨ps, h1, h2, h3⟩ := hs Z m (Keep.refl _ _)
    have : ps.drop i = [] := by rw [List.drop_eq_nil_iff]; omega
    rw [this] at h1
    have hw := h1.len
    have : ws = [] := by cases ws with | nil => rfl | cons _ _ => simp at hw
    subst this
    unfold compL uCompL
    rw [h2, List.getElem?_eq_none (by omega)]
    exact SimR.ret E0 ra (fun k x => False.elim x) fun k x => x
  | f + 1, i, ws, acc, qs, Z, m, σ, E0, ra, hs => by
    obtain ⟨ps, h1, h2, h3⟩ := hs Z m (Keep.refl _ _)
    obtain ⟨p, hp⟩ : ∃ p, ps[i]? = some p := ⟨_, List.getElem?_eq_getElem (by omega)⟩
    have hd : ps.drop i = p :: ps.drop (i + 1) := by
      rw [List.drop_eq_getElem_cons (by omega)]
      rw [List.getElem?_eq_getElem (by omega)] at hp
      cases hp
      rfl
    rw [hd] at h1
    match ws, h1 with
    | [], h1 => have := h1.len; simp at this
    | x :: xs, h1 =>
      obtain ⟨rx, _⟩ := preps_cons.mp h1
      unfold compL uCompL
      rw [h2, hp]
      dsimp only
      cases qg : g' x σ with
      | none => exact SimR.bad
      | some σ1 =>
        obtain ⟨ρ1, g1, g2⟩ := hg Z m ρ σ x p σ1 E0 rx qg
        dsimp only
        unfold bnd
        rw [g1]
        show SimR RL_ F0_ Z m (own ρ σ) ρ (bnd (t ρ1) _ m) _
        -- the rest, from a later state
        have rest : ∀ (acc : List Wv) (qs : List P) (Z2 : Zs) (m2 : Hm) (σ2 : UEnv), EE Z2 m2 ρ1 σ2 → PReps Z2 m2 acc qs → Keep Z m Z2 m2 → SimR RL_ F0_ Z2 m2 (own ρ1 σ2) ρ (compL g t e ρ src f (i + 1) qs m2) (uCompL g' t' e' ow xs acc (wipeU σ2 ow)) := fun acc qs Z2 m2 σ2 e2 r2 K2 => by
          obtain ⟨a, b⟩ := e2.to (ρ' := ρ) (σ' := wipeU σ2 ow) (by rw [wipeU_len, e2.len, g2.len]) fun j v h => by
            obtain ⟨a, b⟩ := wipeU_get h
            exact ⟨b, (g2.oth j fun z => a (hW j z)).symm⟩
          refine (comp_sim hg hW ht he ρ src f (i + 1) xs acc qs Z2 m2 _ a r2 fun Z' m' K => ?_).mono ⟨Nat.le_refl _, fun _ _ _ => rfl, fun _ z => z, fun _ z => .inl z, fun k o => .inl (b k o)⟩
          obtain ⟨ps', c1, c2, c3⟩ := hs Z' m' (K2.trans K)
          have hd' : ps'.drop i = ps'[i]'(by omega) :: ps'.drop (i + 1) := List.drop_eq_getElem_cons (by omega)
          rw [hd'] at c1
          exact ⟨ps', (preps_cons.mp c1).2, c2, by omega⟩
        have S1 : Step Z m (own ρ σ) Z m (own ρ1 σ1) := ⟨Nat.le_refl _, fun _ _ _ => rfl, fun _ z => z, fun _ z => .inl z, fun k o => .inl (g2.ow k o)⟩
        have h1 := ht Z m ρ1 σ1 g2.ee
        cases qt : t' σ1 with
        | ok k σ2 =>
          rw [qt] at h1
          obtain ⟨b, m2, Z2, k1, k2, k3, k4, k5⟩ := h1
          have k3 : k = b := k3
          subst k3
          have S2 : Step Z m (own ρ σ) Z2 m2 (own ρ1 σ2) := S1.trans (k5.sub (fun _ x => x) fun k x => .inl (.inl x))
          have K2 := g2.ee.kk k5
          unfold bnd
          rw [k1]
          dsimp only
          cases k with
          | false => exact (rest acc qs Z2 m2 σ2 k2 (PReps.keep K2 ra) K2).mono S2
          | true =>
            have h2 := simW_z he Z2 m2 ρ1 σ2 k2
            dsimp only
            cases qe : uZ e' σ2 with
            | ok y σ3 =>
              rw [qe] at h2
              obtain ⟨q, m3, Z3, l1, l2, l3, l4, l5⟩ := h2
              have S3 : Step Z m (own ρ σ) Z3 m3 (own ρ1 σ3) := S2.trans (l5.sub (fun _ x => x) fun k x => .inl (.inl x))
              have K3 := k2.kk l5
              dsimp only
              cases hd : decide (acc.length < SZ) with
              | false => exact SimR.bad
              | true =>
                show SimR RL_ F0_ Z m (own ρ σ) ρ (bnd (e ρ1) _ m2) _
                unfold bnd
                rw [l1]
                show SimR RL_ F0_ Z m (own ρ σ) ρ (when_ (decide (qs.length < SZ)) _ m3) _
                rw [ra.len, hd]
                exact (rest (acc ++ [y]) (qs ++ [q]) Z3 m3 σ3 l2 ((PReps.keep K3 (PReps.keep K2 ra)).snoc l3) (K2.trans K3)).mono S3
            | exc c x σ' => exact SimR.bad
            | bad => exact SimR.bad
        | exc c x σ' => exact SimR.bad
        | bad => exact SimR.bad
/-- comprehensions raise nothing -/
theorem comp_noX {g : uG} {t : uT} {e : uD} {ow : List Nat} : ∀ (ws acc : List Wv) (σ : UEnv) (c : String) (x : Wv) (σ' : UEnv), uCompL g t e ow ws acc σ ≠ .exc c x σ'
  | [], acc, σ, c, x, σ', h => by unfold uCompL at h; cases h
  | w :: ws, acc, σ, c, x, σ', h => by
    unfold uCompL at h
    split at h
    · split at h
      · split at h
        · split at h
          · exact comp_noX ws _ _ c x σ' h
          · cases h
        · cases h
      · exact comp_noX ws _ _ c x σ' h
      · cases h
    · cases h
theorem noX_ok {α : Type} {x : M α} {a : α} {m' : Hm} (h : x m = .ok a m') : noX x m = .ok a m' := by unfold noX; rw [h]
theorem simL_comp {W ow : List Nat} {src : SD} {src' : uL} {g : GD} {g' : uG} {t : T} {t' : uT} {e : D} {e' : uD} (hs : SimSrc src src') (hg : SimG W g g') (hW : ∀ j ∈ W, j ∈ ow) (ht : SimT t t') (he : SimD e e') : SimL (lComp src g t e ow) (uComp src' g' t' e' ow) := fun Z m ρ σ E0 => by
  unfold lComp uComp
  refine (hs Z m ρ σ E0).bnd fun ws sr Z m σ E1 r f => ?_
  obtain ⟨a, b⟩ := E1.to (ρ' := wipeE ρ ow) (σ' := wipeU σ ow) (by rw [wipeU_len, wipeE_len, E1.len]) fun j v h => by
    obtain ⟨a, b⟩ := wipeU_get h
    exact ⟨b, wipeE_get a⟩
  have r : SrcRep Z m ρ ws sr := r
  have k := comp_sim hg hW ht he (wipeE ρ ow) sr (sr.len m) 0 ws [] [] Z m (wipeU σ ow) a (preps_nil.mpr rfl) fun Z' m' K => by
    obtain ⟨ps, c1, c2, c3⟩ := r Z' m' K
    obtain ⟨ps0, d1, d2, d3⟩ := r Z m (Keep.refl _ _)
    exact ⟨ps, c1, c2, by rw [Nat.zero_add, d3, d1.len, c1.len]⟩
  cases q : uCompL g' t' e' ow ws [] (wipeU σ ow) with
  | ok acc σ' =>
    rw [q] at k
    obtain ⟨qs, m', Z', k1, k2, k3, k4, k5⟩ := k
    have hw : ∀ (j : Nat) (v : Uv), σ'[j]? = some (some v) → j ∉ ow := fun j v hj hin => by
      obtain ⟨p, a1, a2⟩ := k2.rep j v hj
      have wn : ∀ {vs : List Nat}, j ∈ vs → ∀ p, (wipeE ρ vs)[j]? ≠ some (some p) := by
        intro vs
        induction vs with
        | nil => intro h; simp at h
        | cons w vs ih =>
          intro h p hp
          rw [wipeE, List.getElem?_set] at hp
          split at hp
          · split at hp <;> cases hp
          · rename_i ne
            rcases List.mem_cons.mp h with rfl | h
            · exact ne rfl
            · exact ih h p hp
      exact wn hin p a1
    obtain ⟨b1, b2⟩ := k2.to (ρ' := ρ) (σ' := σ') (by rw [k2.len, wipeE_len]) fun j v hj => ⟨hj, (wipeE_get (hw j v hj)).symm⟩
    refine ⟨qs, m', Z', ?_, b1, k3, fun k x => False.elim x, k5.sub (fun k x => .inl (b k x)) fun k x => ?_⟩
    · exact noX_ok (x := fun m => compL g t e (wipeE ρ ow) sr (sr.len m) 0 [] m) k1
    · rcases x with x | x
      · exact .inl (.inl (b2 k x))
      · exact False.elim x
  | exc c x σ' => exact absurd q (comp_noX _ _ _ _ _ _)
  | bad => exact SimR.bad
end
end G

/-! V10: statements, defs. -/
namespace G
open PySem (Str PyData)
inductive UFl where
  | nx | bk | ct
  | rt (v : Uv)
inductive URS where
  | ok (f : UFl) (σ : UEnv)
  | exc (c : String) (x : Wv) (σ : UEnv)
  | bad
abbrev uS := UEnv → URS
def FlR (Z : Zs) (m : Hm) : UFl → Fl → Prop
  | .nx, f => f = .nx
  | .bk, f => f = .bk
  | .ct, f => f = .ct
  | .rt v, f => ∃ p, f = .rt p ∧ URep Z m v p
def FlF : UFl → Fl → Nat → Prop
  | .rt v, .rt p, k => k ∈ fp v p
  | _, _, _ => False
section
variable {Z : Zs} {m : Hm} {ρ : Env} {σ : UEnv}
/-- what is had of a statement's result -/
def SimRS (W : List Nat) (Z : Zs) (m : Hm) (A : Nat → Prop) (ρ : Env) (r : RS) (s : URS) : Prop := match s with
  | .ok f' σ' => ∃ f ρ' m' Z', r = .ok f ρ' m' ∧ EE Z' m' ρ' σ' ∧ FlR Z' m' f' f ∧ (∀ k, FlF f' f k → ¬ own ρ' σ' k) ∧ Step Z m A Z' m' (fun k => own ρ' σ' k ∨ FlF f' f k) ∧ (∀ j : Nat, j ∉ W → ρ'[j]? = ρ[j]?) ∧ ρ'.length = ρ.length
  | .exc c x σ' => ∃ p ρ' m' Z', r = .exc c p ρ' m' ∧ EE Z' m' ρ' σ' ∧ PRep Z' m' x p ∧ Step Z m A Z' m' (own ρ' σ') ∧ (∀ j : Nat, j ∉ W → ρ'[j]? = ρ[j]?) ∧ ρ'.length = ρ.length
  | .bad => True
def SimS (W : List Nat) (s : DS) (s' : uS) : Prop := ∀ Z m ρ σ, EE Z m ρ σ → SimRS W Z m (own ρ σ) ρ (s ρ m) (s' σ)
theorem SimRS.bad {W : List Nat} {A : Nat → Prop} {r : RS} : SimRS W Z m A ρ r .bad := trivial
theorem SimRS.ok {W : List Nat} {A : Nat → Prop} {f : Fl} {f' : UFl} {ρ' : Env} {σ' : UEnv} (e : EE Z m ρ' σ') (hf : FlR Z m f' f) (hn : ∀ k, ¬ FlF f' f k) (ha : ∀ k, own ρ' σ' k → A k) (ho : ∀ j : Nat, j ∉ W → ρ'[j]? = ρ[j]?) (hl : ρ'.length = ρ.length) : SimRS W Z m A ρ (.ok f ρ' m) (.ok f' σ') :=
  ⟨f, ρ', m, Z, rfl, e, hf, fun k x => absurd x (hn k), ⟨Nat.le_refl _, fun _ _ _ => rfl, fun _ z => z, fun _ z => .inl z, fun k x => by
    rcases x with x | x
    · exact .inl (ha k x)
    · exact absurd x (hn k)⟩, ho, hl⟩
/-- after a step, from a later environment -/
theorem SimRS.mono {W W' : List Nat} {Z1 : Zs} {m1 : Hm} {A A1 : Nat → Prop} {ρ1 : Env} {r : RS} {s : URS} (h : SimRS W Z1 m1 A1 ρ1 r s) (a : Step Z m A Z1 m1 A1) (ho : ∀ j : Nat, j ∉ W' → j ∉ W ∧ ρ1[j]? = ρ[j]?) (hl : ρ1.length = ρ.length) : SimRS W' Z m A ρ r s := by
  cases s with
  | ok f' σ' =>
    obtain ⟨f, ρ', m', Z', h1, h2, h3, h4, h5, h6, h7⟩ := h
    exact ⟨f, ρ', m', Z', h1, h2, h3, h4, a.trans h5, fun j hj => (h6 j (ho j hj).1).trans (ho j hj).2, h7.trans hl⟩
  | exc c x σ' =>
    obtain ⟨p, ρ', m', Z', h1, h2, h3, h5, h6, h7⟩ := h
    exact ⟨p, ρ', m', Z', h1, h2, h3, a.trans h5, fun j hj => (h6 j (ho j hj).1).trans (ho j hj).2, h7.trans hl⟩
  | bad => trivial
def uthn {α : Type} (r : VRes α) (k : α → UEnv → URS) : URS := match r with
  | .ok a σ => k a σ
  | .exc c x σ => .exc c x σ
  | .bad => .bad
theorem sim_thn {α β : Type} {W : List Nat} {Rp : Zs → Hm → Env → α → β → Prop} {Fp : α → β → Nat → Prop} {A : Nat → Prop} {x : M β} {y : VRes α} {k : β → Hm → RS} {k' : α → UEnv → URS} (h : SimR Rp Fp Z m A ρ (x m) y)
    (hk : ∀ v p Z m σ, EE Z m ρ σ → Rp Z m ρ v p → (∀ k, Fp v p k → ¬ own ρ σ k ∧ ¬ Z k ∧ k < m.length) → SimRS W Z m (fun k => own ρ σ k ∨ Fp v p k) ρ (k p m) (k' v σ)) : SimRS W Z m A ρ (thn x ρ k m) (uthn y k') := by
  unfold thn
  cases y with
  | ok v σ' =>
    obtain ⟨p, m', Z', h1, h2, h3, h4, h5⟩ := h
    rw [h1]
    exact (hk v p Z' m' σ' h2 h3 h4).mono h5 (fun j hj => ⟨hj, rfl⟩) rfl
  | exc c x σ' =>
    obtain ⟨p, m', Z', h1, h2, h3, h5⟩ := h
    rw [h1]
    exact ⟨p, ρ, m', Z', rfl, h2, h3, h5, fun _ _ => rfl, rfl⟩
  | bad => exact trivial
def uNx : uS := fun σ => .ok .nx σ
def uBk : uS := fun σ => .ok .bk σ
def uCt : uS := fun σ => .ok .ct σ
theorem simS_nx : SimS [] sNx uNx := fun Z m ρ σ e => SimRS.ok e rfl (fun k x => x) (fun k x => x) (fun _ _ => rfl) rfl
theorem simS_bk : SimS [] sBk uBk := fun Z m ρ σ e => SimRS.ok (f' := .bk) e rfl (fun k x => x) (fun k x => x) (fun _ _ => rfl) rfl
theorem simS_ct : SimS [] sCt uCt := fun Z m ρ σ e => SimRS.ok (f' := .ct) e rfl (fun k x => x) (fun k x => x) (fun _ _ => rfl) rfl
def uSeq (s t : uS) : uS := fun σ => match s σ with
  | .ok .nx σ' => t σ'
  | r => r
theorem FlR.nx_iff {f : Fl} (h : FlR Z m .nx f) : f = .nx := h
theorem simS_seq {W V : List Nat} {s t : DS} {s' t' : uS} (h : SimS W s s') (h2 : SimS V t t') : SimS (W ++ V) (sSeq s t) (uSeq s' t') := fun Z m ρ σ e => by
  have k := h Z m ρ σ e
  unfold sSeq uSeq
  cases q : s' σ with
  | ok f' σ' =>
    rw [q] at k
    obtain ⟨f, ρ', m', Z', h1, e', h3, h4, h5, h6, h7⟩ := k
    rw [h1]
    cases f' with
    | nx =>
      cases (show f = .nx from h3)
      exact (h2 Z' m' ρ' σ' e').mono (h5.sub (fun _ x => x) fun k x => .inl (.inl x)) (fun j hj => by
        simp only [List.mem_append, not_or] at hj
        exact ⟨hj.2, h6 j hj.1⟩) h7
    | bk =>
      cases (show f = .bk from h3)
      exact ⟨.bk, ρ', m', Z', rfl, e', rfl, h4, h5, fun j hj => h6 j fun x => hj (List.mem_append_left _ x), h7⟩
    | ct =>
      cases (show f = .ct from h3)
      exact ⟨.ct, ρ', m', Z', rfl, e', rfl, h4, h5, fun j hj => h6 j fun x => hj (List.mem_append_left _ x), h7⟩
    | rt v =>
      obtain ⟨p, rfl, h3⟩ := h3
      exact ⟨.rt p, ρ', m', Z', rfl, e', ⟨p, rfl, h3⟩, h4, h5, fun j hj => h6 j fun x => hj (List.mem_append_left _ x), h7⟩
  | exc c x σ' =>
    rw [q] at k
    obtain ⟨p, ρ', m', Z', h1, e', h3, h5, h6, h7⟩ := k
    rw [h1]
    exact ⟨p, ρ', m', Z', rfl, e', h3, h5, fun j hj => h6 j fun x => hj (List.mem_append_left _ x), h7⟩
  | bad => exact trivial
/-- some names are not used any more -/
def uDr (s : uS) (L : List Nat) : uS := fun σ => match s σ with
  | .ok f σ' => .ok f (wipeU σ' L)
  | r => r
theorem simS_dr {W : List Nat} {s : DS} {s' : uS} {L : List Nat} (h : SimS W s s') : SimS W s (uDr s' L) := fun Z m ρ σ e => by
  have k := h Z m ρ σ e
  unfold uDr
  cases q : s' σ with
  | ok f' σ' =>
    rw [q] at k
    obtain ⟨f, ρ', m', Z', h1, e', h3, h4, h5, h6, h7⟩ := k
    obtain ⟨a, b⟩ := e'.to (ρ' := ρ') (σ' := wipeU σ' L) (by rw [wipeU_len, e'.len]) fun j v h => ⟨(wipeU_get h).2, rfl⟩
    refine ⟨f, ρ', m', Z', h1, a, h3, fun k x o => h4 k x (b k o), h5.sub (fun _ x => x) fun k x => ?_, h6, h7⟩
    rcases x with x | x
    · exact .inl (.inl (b k x))
    · exact .inl (.inr x)
  | exc c x σ' => rw [q] at k; exact k
  | bad => exact trivial
def uExpr (d : uD) : uS := fun σ => uthn (d σ) fun _ σ1 => .ok .nx σ1
theorem simS_expr {d : D} {d' : uD} (h : SimD d d') : SimS [] (sExpr d) (uExpr d') := fun Z m ρ σ e => by
  unfold sExpr uExpr
  exact sim_thn (h Z m ρ σ e) fun v p Z m σ e r f => SimRS.ok e rfl (fun k x => x) (fun k x => .inl x) (fun _ _ => rfl) rfl
def uRet (d : uD) : uS := fun σ => uthn (d σ) fun v σ1 => .ok (.rt v) σ1
theorem simS_ret {d : D} {d' : uD} (h : SimD d d') : SimS [] (sRet d) (uRet d') := fun Z m ρ σ e => by
  unfold sRet uRet
  exact sim_thn (h Z m ρ σ e) fun v p Z m σ e r f => ⟨.rt p, ρ, m, Z, rfl, e, ⟨p, rfl, r⟩, fun k x => (f k x).1, ⟨Nat.le_refl _, fun _ _ _ => rfl, fun _ z => z, fun _ z => .inl z, fun k x => .inl x⟩, fun _ _ => rfl, rfl⟩
def uSet (i : Nat) (d : uD) : uS := fun σ => uthn (d σ) fun v σ1 => .ok .nx (σ1.set i (some v))
theorem set_oth {i : Nat} {p : P} : ∀ j : Nat, j ∉ [i] → (ρ.set i (some p))[j]? = ρ[j]? := fun j hj => List.getElem?_set_ne fun z => hj (by simp [z])
theorem sSet_eq (i : Nat) (d : D) : sSet i d = fun ρ => thn (d ρ) ρ fun p m => .ok .nx (ρ.set i (some p)) m := rfl
theorem simS_set (i : Nat) {d : D} {d' : uD} (h : SimD d d') : SimS [i] (sSet i d) (uSet i d') := fun Z m ρ σ e => by
  rw [sSet_eq]
  unfold uSet
  refine sim_thn (h Z m ρ σ e) fun v p Z m σ e r f => ?_
  obtain ⟨a, b⟩ := e.asg (i := i) r fun k x => (f k x).1
  exact SimRS.ok a rfl (fun k x => x) b set_oth (by simp)
/-- targets of several names -/
def uAsg (d : uD) (g : uG) : uS := fun σ => uthn (uZ d σ) fun x σ1 => match g x σ1 with
  | some σ2 => .ok .nx σ2
  | none => .bad
theorem simS_asg {W : List Nat} {d : D} {d' : uD} {g : GD} {g' : uG} (h : SimD d d') (hg : SimG W g g') : SimS W (sAsg d g) (uAsg d' g') := fun Z m ρ σ e => by
  unfold sAsg uAsg
  refine sim_thn (simW_z h Z m ρ σ e) fun x p Z m σ e r f => ?_
  cases q : g' x σ with
  | none => exact SimRS.bad
  | some σ2 =>
    obtain ⟨ρ', a, b⟩ := hg Z m ρ σ x p σ2 e r q
    unfold thn
    rw [a]
    exact SimRS.ok b.ee rfl (fun k x => x) (fun k x => .inl (b.ow k x)) b.oth b.len
def two_u : List Arg → Option (Uv × Uv)
  | [.u v, .u w] => some (v, w)
  | _ => none
def three_u : List Arg → Option (Uv × Uv × Uv)
  | [.u v, .u w, .u t] => some (v, w, t)
  | _ => none
theorem two_some {as : List Arg} {x : Uv × Uv} (h : two_u as = some x) : as = [.u x.1, .u x.2] := by
  unfold two_u at h
  split at h
  · cases h; rfl
  · cases h
theorem three_some {as : List Arg} {x : Uv × Uv × Uv} (h : three_u as = some x) : as = [.u x.1, .u x.2.1, .u x.2.2] := by
  unfold three_u at h
  split at h
  · cases h; rfl
  · cases h
theorem ARep.p2 {x y : Arg} {ps : List P} (r : ARep Z m ρ [x, y] ps) : ∃ p q, ps = [p, q] := by
  have hl := r.len
  match ps, hl with
  | [p, q], _ => exact ⟨p, q, rfl⟩
theorem ARep.p3 {x y z : Arg} {ps : List P} (r : ARep Z m ρ [x, y, z] ps) : ∃ p q u, ps = [p, q, u] := by
  have hl := r.len
  match ps, hl with
  | [p, q, u], _ => exact ⟨p, q, u, rfl⟩
/-- a, b = x, y -/
def uPar2 (i j : Nat) (a : uA) : uS := fun σ => uthn (a σ) fun as σ1 => match two_u as with
  | some x => .ok .nx ((σ1.set i (some x.1)).set j (some x.2))
  | none => .bad
theorem simS_par2 (i j : Nat) {a : A} {a' : uA} (h : SimA a a') : SimS [i, j] (sPar2 i j a) (uPar2 i j a') := fun Z m ρ σ e => by
  unfold sPar2 uPar2
  refine sim_thn (h Z m ρ σ e) fun as ps Z m σ e r f => ?_
  cases q : two_u as with
  | none => exact SimRS.bad
  | some x =>
    obtain ⟨v, w⟩ := x
    have := two_some q
    subst this
    obtain ⟨p, q, rfl⟩ := r.p2
    have rv := r.u 0 v p rfl rfl
    have rw_ := r.u 1 w q rfl rfl
    obtain ⟨a1, b1⟩ := e.asg (i := i) rv fun k x => (f k ⟨0, v, p, rfl, rfl, x⟩).1
    obtain ⟨a2, b2⟩ := a1.asg (i := j) rw_ fun k x o => by
      rcases b1 k o with y | y
      · exact (f k ⟨1, w, q, rfl, rfl, x⟩).1 y
      · have := r.sep 0 1 v w p q k rfl rfl rfl rfl y x
        omega
    refine SimRS.ok a2 rfl (fun k x => x) (fun k o => ?_) (fun l hl => ?_) (by simp)
    · rcases b2 k o with o | o
      · rcases b1 k o with o | o
        · exact .inl o
        · exact .inr ⟨0, v, p, rfl, rfl, o⟩
      · exact .inr ⟨1, w, q, rfl, rfl, o⟩
    · simp only [List.mem_cons, List.not_mem_nil, or_false, not_or] at hl
      rw [List.getElem?_set_ne (Ne.symm hl.2), List.getElem?_set_ne (Ne.symm hl.1)]
def uPar3 (i j l : Nat) (a : uA) : uS := fun σ => uthn (a σ) fun as σ1 => match three_u as with
  | some x => .ok .nx (((σ1.set i (some x.1)).set j (some x.2.1)).set l (some x.2.2))
  | none => .bad
theorem simS_par3 (i j l : Nat) {a : A} {a' : uA} (h : SimA a a') : SimS [i, j, l] (sPar3 i j l a) (uPar3 i j l a') := fun Z m ρ σ e => by
  unfold sPar3 uPar3
  refine sim_thn (h Z m ρ σ e) fun as ps Z m σ e r f => ?_
  cases q : three_u as with
  | none => exact SimRS.bad
  | some x =>
    obtain ⟨v, w, t⟩ := x
    have := three_some q
    subst this
    obtain ⟨p, q, u, rfl⟩ := r.p3
    have rv := r.u 0 v p rfl rfl
    have rw_ := r.u 1 w q rfl rfl
    have rt := r.u 2 t u rfl rfl
    obtain ⟨a1, b1⟩ := e.asg (i := i) rv fun k x => (f k ⟨0, v, p, rfl, rfl, x⟩).1
    obtain ⟨a2, b2⟩ := a1.asg (i := j) rw_ fun k x o => by
      rcases b1 k o with y | y
      · exact (f k ⟨1, w, q, rfl, rfl, x⟩).1 y
      · have := r.sep 0 1 v w p q k rfl rfl rfl rfl y x
        omega
    obtain ⟨a3, b3⟩ := a2.asg (i := l) rt fun k x o => by
      rcases b2 k o with y | y
      · rcases b1 k y with y | y
        · exact (f k ⟨2, t, u, rfl, rfl, x⟩).1 y
        · have := r.sep 0 2 v t p u k rfl rfl rfl rfl y x
          omega
      · have := r.sep 1 2 w t q u k rfl rfl rfl rfl y x
        omega
    refine SimRS.ok a3 rfl (fun k x => x) (fun k o => ?_) (fun l hl => ?_) (by simp)
    · rcases b3 k o with o | o
      · rcases b2 k o with o | o
        · rcases b1 k o with o | o
          · exact .inl o
          · exact .inr ⟨0, v, p, rfl, rfl, o⟩
        · exact .inr ⟨1, w, q, rfl, rfl, o⟩
      · exact .inr ⟨2, t, u, rfl, rfl, o⟩
    · simp only [List.mem_cons, List.not_mem_nil, or_false, not_or] at hl
      rw [List.getElem?_set_ne (Ne.symm hl.2.2), List.getElem?_set_ne (Ne.symm hl.2.1), List.getElem?_set_ne (Ne.symm hl.1)]
def uIfS (c : uT) (s t : uS) : uS := fun σ => uthn (c σ) fun k σ1 => match k with
  | true => s σ1
  | false => t σ1
theorem simS_if {W V : List Nat} {c : T} {c' : uT} {s t : DS} {s' t' : uS} (hc : SimT c c') (h : SimS W s s') (h2 : SimS V t t') : SimS (W ++ V) (sIf c s t) (uIfS c' s' t') := fun Z m ρ σ e => by
  unfold sIf uIfS
  refine sim_thn (hc Z m ρ σ e) fun k p Z m σ e r f => ?_
  cases (show k = p from r)
  have st : Step Z m (fun k_1 => own ρ σ k_1 ∨ F0_ k k k_1) Z m (own ρ σ) := ⟨Nat.le_refl _, fun _ _ _ => rfl, fun _ z => z, fun _ z => .inl z, fun k x => .inl (.inl x)⟩
  cases k
  · exact (h2 Z m ρ σ e).mono st (fun j hj => ⟨fun x => hj (List.mem_append_right _ x), rfl⟩) rfl
  · exact (h Z m ρ σ e).mono st (fun j hj => ⟨fun x => hj (List.mem_append_left _ x), rfl⟩) rfl
/-- o[i] = v -/
def putU (v : Uv) (y z : Wv) : Option Uv := match v with
  | .lst ws => match y with
    | .int j => (L2.ixN ws.length j).map fun k => .lst (ws.set k z)
    | _ => none
  | .dK kvs => match keyW y with
    | some k => match decide (kvs.length < SZ) with
      | true => some (.dK (wPut kvs k z))
      | false => none
    | none => none
  | .dT kvs => match tkeyW y with
    | some k => match decide (kvs.length < SZ) with
      | true => some (.dT (wPut kvs k z))
      | false => none
    | none => none
  | _ => none
def uPut (j : Nat) (i v : uD) : uS := fun σ => uthn (uZ v σ) fun z σ1 => match σ1[j]? with
  | some (some _) => uthn (uZ i σ1) fun y σ2 => match (σ2[j]?).join with
    | some u => match putU u y z with
      | some u' => .ok .nx (σ2.set j (some u'))
      | none => .bad
    | none => .bad
  | _ => .bad
theorem wPut_nil {κ : Type} [DecidableEq κ] (k : κ) (z : Wv) : wPut [] k z = [(k, z)] := rfl
theorem setP_ok {u u' : Uv} {y z : Wv} {p q r : P} (hu : URep Z m u p) (hy : PRep Z m y q) (hz : PRep Z m z r) (h : putU u y z = some u') : ∃ n o, p = .ref n ∧ setP p q r m = .ok () (m.set n o) ∧ fp u p = [n] ∧ fp u' p = [n] ∧ URep Z (m.set n o) u' p := by
  cases u with
  | lst ws =>
    obtain ⟨n, ps, rfl, zn, g, rr⟩ := hu
    have K : ∀ o, Keep Z m Z (m.set n o) := fun o => ⟨fun _ z => z, fun k hz => List.getElem?_set_ne (fun (x : n = k) => zn (x ▸ hz))⟩
    cases y with
    | int j =>
      simp only [PRep] at hy
      subst hy
      unfold putU at h
      dsimp only at h
      cases hk : L2.ixN ws.length j with
      | none => rw [hk] at h; cases h
      | some k =>
        rw [hk] at h
        cases h
        refine ⟨n, .lst (ps.set k r), rfl, ?_, rfl, rfl, n, _, rfl, zn, set_get g, (PReps.set rr k hz).keep (K _)⟩
        rw [ok_setP]
        refine (getO_ok g).trans ?_
        dsimp only
        rw [rr.len, hk]
        rfl
    | _ => cases h
  | dK kvs =>
    obtain ⟨n, kps, rfl, zn, g, rr⟩ := hu
    have K : ∀ o, Keep Z m Z (m.set n o) := fun o => ⟨fun _ z => z, fun k hz => List.getElem?_set_ne (fun (x : n = k) => zn (x ▸ hz))⟩
    unfold putU at h
    dsimp only at h
    cases hk : keyW y with
    | none => rw [hk] at h; cases h
    | some k =>
      rw [hk] at h
      dsimp only at h
      cases hd : decide (kvs.length < SZ) with
      | false => rw [hd] at h; cases h
      | true =>
        rw [hd] at h
        cases h
        refine ⟨n, .dK (vPut kps k r), rfl, ?_, rfl, rfl, n, _, rfl, zn, set_get g, (rr.put hz).keep (K _)⟩
        rw [ok_setP]
        refine (getO_ok g).trans ?_
        show dStore n q r m = _
        unfold dStore
        rw [g]
        dsimp only
        rw [keyW_ok hy hk]
        dsimp only
        rw [rr.len, hd]
  | dT kvs =>
    obtain ⟨n, kps, rfl, zn, g, rr⟩ := hu
    have K : ∀ o, Keep Z m Z (m.set n o) := fun o => ⟨fun _ z => z, fun k hz => List.getElem?_set_ne (fun (x : n = k) => zn (x ▸ hz))⟩
    unfold putU at h
    dsimp only at h
    cases hk : tkeyW y with
    | none => rw [hk] at h; cases h
    | some k =>
      rw [hk] at h
      dsimp only at h
      cases hd : decide (kvs.length < SZ) with
      | false => rw [hd] at h; cases h
      | true =>
        rw [hd] at h
        cases h
        obtain ⟨t1, t2⟩ := tkeyW_ok hy hk
        rcases g with g | ⟨rfl, g⟩
        · refine ⟨n, .dT (vPut kps k r), rfl, ?_, rfl, rfl, n, _, rfl, zn, .inl (set_get g), (rr.put hz).keep (K _)⟩
          rw [ok_setP]
          refine (getO_ok g).trans ?_
          show dStore n q r m = _
          unfold dStore
          rw [g]
          dsimp only
          rw [t1]
          dsimp only
          rw [rr.len, hd]
        · have := rr.nil
          subst this
          refine ⟨n, .dT [(k, r)], rfl, ?_, rfl, rfl, n, _, rfl, zn, .inl (set_get g), (rr.put hz).keep (K _)⟩
          rw [ok_setP]
          refine (getO_ok g).trans ?_
          show dStore n q r m = _
          unfold dStore
          rw [g]
          dsimp only
          rw [t2]
          dsimp only
          rw [t1]
  | _ => cases h
theorem simS_put (j : Nat) {i v : D} {i' v' : uD} (hi : SimD i i') (hv : SimD v v') : SimS [] (sPut (dVar j) i v) (uPut j i' v') := fun Z m ρ σ e => by
  have eq : sPut (dVar j) i v ρ m = thn (v ρ) ρ (fun z m => thn (bnd (dVar j ρ) fun x => bnd (i ρ) fun y => setP x y z) ρ (fun _ m => .ok .nx ρ m) m) m := by
    unfold sPut thn bnd
    cases v ρ m <;> rfl
  rw [eq]
  unfold uPut
  refine sim_thn (simW_z hv Z m ρ σ e) fun z r Z m σ e rz f => ?_
  cases h0 : σ[j]? with
  | none => exact SimRS.bad
  | some o =>
    cases o with
    | none => exact SimRS.bad
    | some u0 =>
      obtain ⟨p, hp, ru⟩ := e.rep j u0 h0
      have eq2 : thn (bnd (dVar j ρ) fun x => bnd (i ρ) fun y => setP x y r) ρ (fun _ m => RS.ok .nx ρ m) m = thn (i ρ) ρ (fun y m => thn (setP p y r) ρ (fun _ m => .ok .nx ρ m) m) m := by
        unfold thn bnd
        rw [dVar_eq hp]
        dsimp only
        cases i ρ m <;> rfl
      rw [eq2]
      dsimp only
      have st : Step Z m (fun k => own ρ σ k ∨ F0_ z r k) Z m (own ρ σ) := ⟨Nat.le_refl _, fun _ _ _ => rfl, fun _ z => z, fun _ z => .inl z, fun k x => .inl (.inl x)⟩
      refine SimRS.mono (W := []) (sim_thn ((simW_z hi Z m ρ σ e).frame (C := fun _ => False) e fun k x => False.elim x) fun y q Z1 m1 σ1 e1 ⟨ry, K, c, s⟩ f1 => ?_) (st.sub (fun _ x => x) fun k x => by rcases x with x | x; exact .inl x; exact False.elim x) (fun j hj => ⟨hj, rfl⟩) rfl
      cases hu : (σ1[j]?).join with
      | none => exact SimRS.bad
      | some u =>
        dsimp only
        cases hq : putU u y z with
        | none => exact SimRS.bad
        | some u' =>
          have hj := join_some hu
          obtain ⟨p', hp', ru'⟩ := e1.rep j u hj
          rw [hp] at hp'
          cases hp'
          obtain ⟨n, o, rfl, k1, k2, k3, k4⟩ := setP_ok ru' ry (PRep.keep K rz) hq
          obtain ⟨a, b⟩ := e1.put (m' := m1.set n o) hj hp (by simp) (fun k hk x => List.getElem?_set_ne (fun (y : n = k) => x (by rw [k2, ← y]; simp))) k4 fun k x => .inl (by rw [k3] at x; rw [k2]; exact x)
          unfold thn
          rw [k1]
          exact ⟨.nx, ρ, _, Z1, rfl, a, rfl, fun k x => False.elim x, b.sub (fun k x => .inl x) fun k x => by
            rcases x with x | x
            · exact .inl x
            · exact False.elim x, fun _ _ => rfl, rfl⟩
/-! ### loops -/
def uWhile (c : uT) (s : uS) : Nat → uS
  | 0 => fun _ => .bad
  | N + 1 => fun σ => match c σ with
    | .ok false σ1 => .ok .nx σ1
    | .ok true σ1 => match s σ1 with
      | .ok .nx σ2 => uWhile c s N σ2
      | .ok .ct σ2 => uWhile c s N σ2
      | .ok .bk σ2 => .ok .nx σ2
      | r => r
    | .exc c x σ1 => .exc c x σ1
    | .bad => .bad
theorem simS_while {W : List Nat} {c : T} {c' : uT} {s : DS} {s' : uS} (hc : SimT c c') (hs : SimS W s s') : ∀ N : Nat, SimS W (sWhile c s N) (uWhile c' s' N)
  | 0 => fun Z m ρ σ e => trivial
  | N + 1 => fun Z m ρ σ e => by
    have h1 := hc Z m ρ σ e
    unfold sWhile uWhile thn
    cases q : c' σ with
    | ok k σ1 =>
      rw [q] at h1
      obtain ⟨k', m1, Z1, a1, e1, a3, a4, a5⟩ := h1
      cases (show k = k' from a3)
      rw [a1]
      have st : Step Z m (own ρ σ) Z1 m1 (own ρ σ1) := a5.sub (fun _ x => x) fun k x => .inl (.inl x)
      cases k with
      | false => exact (SimRS.ok (W := W) (f' := .nx) (f := .nx) e1 rfl (fun k x => x) (fun k x => x) (fun _ _ => rfl) rfl).mono st (fun j hj => ⟨hj, rfl⟩) rfl
      | true =>
        have h2 := hs Z1 m1 ρ σ1 e1
        dsimp only
        cases q2 : s' σ1 with
        | ok f' σ2 =>
          rw [q2] at h2
          obtain ⟨f, ρ2, m2, Z2, b1, e2, b3, b4, b5, b6, b7⟩ := h2
          rw [b1]
          have st2 : Step Z m (own ρ σ) Z2 m2 (own ρ2 σ2) := st.trans (b5.sub (fun _ x => x) fun k x => .inl (.inl x))
          cases f' with
          | nx => cases (show f = .nx from b3); exact (simS_while hc hs N Z2 m2 ρ2 σ2 e2).mono st2 (fun j hj => ⟨hj, b6 j hj⟩) b7
          | ct => cases (show f = .ct from b3); exact (simS_while hc hs N Z2 m2 ρ2 σ2 e2).mono st2 (fun j hj => ⟨hj, b6 j hj⟩) b7
          | bk => cases (show f = .bk from b3); exact ⟨.nx, ρ2, m2, Z2, rfl, e2, rfl, fun k x => False.elim x, st2.sub (fun _ x => x) fun k x => by
              rcases x with x | x
              · exact .inl x
              · exact False.elim x, b6, b7⟩
          | rt v =>
            obtain ⟨p, rfl, b3⟩ := b3
            exact ⟨.rt p, ρ2, m2, Z2, rfl, e2, ⟨p, rfl, b3⟩, b4, st.trans b5, b6, b7⟩
        | exc c x σ2 =>
          rw [q2] at h2
          obtain ⟨p, ρ2, m2, Z2, b1, e2, b3, b5, b6, b7⟩ := h2
          rw [b1]
          exact ⟨p, ρ2, m2, Z2, rfl, e2, b3, st.trans b5, b6, b7⟩
        | bad => exact trivial
    | exc cc x σ1 =>
      rw [q] at h1
      obtain ⟨p, m1, Z1, a1, e1, a3, a5⟩ := h1
      rw [a1]
      exact ⟨p, ρ, m1, Z1, rfl, e1, a3, a5, fun _ _ => rfl, rfl⟩
    | bad => exact trivial
def uForL (g : uG) (s : uS) : List Wv → uS
  | [] => fun σ => .ok .nx σ
  | x :: xs => fun σ => match g x σ with
    | some σ1 => match s σ1 with
      | .ok .nx σ2 => uForL g s xs σ2
      | .ok .ct σ2 => uForL g s xs σ2
      | .ok .bk σ2 => .ok .nx σ2
      | r => r
    | none => .bad
theorem for_sim {W V : List Nat} {g : GD} {g' : uG} {s : DS} {s' : uS} (hg : SimG W g g') (hs : SimS V s s') (src : Src) : ∀ (f i : Nat) (ws : List Wv) (Z : Zs) (m : Hm) (ρ : Env) (σ : UEnv), EE Z m ρ σ →
    (∀ Z' m', Keep Z m Z' m' → ∃ ps : List P, PReps Z' m' ws (ps.drop i) ∧ (∀ j, src.at j m' = some ps[j]?) ∧ i + f = ps.length) → SimRS (W ++ V) Z m (own ρ σ) ρ (forL src g s f i ρ m) (uForL g' s' ws σ)
  | 0, i, ws, Z, m, ρ, σ, E0, hS => by
    obtain ⟨ps, h1, h2, h3⟩ := hS Z m (Keep.refl _ _)
    have : ps.drop i = [] := by rw [List.drop_eq_nil_iff]; omega
    rw [this] at h1
    have hw := h1.len
    have : ws = [] := by cases ws with | nil => rfl | cons _ _ => simp at hw
    subst this
    unfold forL uForL
    rw [h2, List.getElem?_eq_none (by omega)]
    exact SimRS.ok E0 rfl (fun k x => x) (fun k x => x) (fun _ _ => rfl) rfl
  | f + 1, i, ws, Z, m, ρ, σ, E0, hS => by
    obtain ⟨ps, h1, h2, h3⟩ := hS Z m (Keep.refl _ _)
    obtain ⟨p, hp⟩ : ∃ p, ps[i]? = some p := ⟨_, List.getElem?_eq_getElem (by omega)⟩
    have hd : ps.drop i = p :: ps.drop (i + 1) := by
      rw [List.drop_eq_getElem_cons (by omega)]
      rw [List.getElem?_eq_getElem (by omega)] at hp
      cases hp
      rfl
    rw [hd] at h1
    match ws, h1 with
    | [], h1 => have := h1.len; simp at this
    | x :: xs, h1 =>
      obtain ⟨rx, _⟩ := preps_cons.mp h1
      unfold forL uForL
      rw [h2, hp]
      dsimp only
      cases qg : g' x σ with
      | none => exact SimRS.bad
      | some σ1 =>
        obtain ⟨ρ1, g1, g2⟩ := hg Z m ρ σ x p σ1 E0 rx qg
        dsimp only
        unfold thn
        rw [g1]
        dsimp only
        have S1 : Step Z m (own ρ σ) Z m (own ρ1 σ1) := ⟨Nat.le_refl _, fun _ _ _ => rfl, fun _ z => z, fun _ z => .inl z, fun k o => .inl (g2.ow k o)⟩
        have k2 := hs Z m ρ1 σ1 g2.ee
        have oth : ∀ ρ2 : Env, (∀ j : Nat, j ∉ V → ρ2[j]? = ρ1[j]?) → ∀ j : Nat, j ∉ W ++ V → ρ2[j]? = ρ[j]? := fun ρ2 h j hj => by
          simp only [List.mem_append, not_or] at hj
          rw [h j hj.2, g2.oth j hj.1]
        cases q2 : s' σ1 with
        | ok f' σ2 =>
          rw [q2] at k2
          obtain ⟨fl, ρ2, m2, Z2, b1, e2, b3, b4, b5, b6, b7⟩ := k2
          rw [b1]
          have st2 : Step Z m (own ρ σ) Z2 m2 (own ρ2 σ2) := S1.trans (b5.sub (fun _ x => x) fun k x => .inl (.inl x))
          have K2 : Keep Z m Z2 m2 := g2.ee.kk (b5.sub (B' := own ρ2 σ2) (fun _ x => x) fun k x => .inl (.inl x))
          have rest : SimRS (W ++ V) Z m (own ρ σ) ρ (forL src g s f (i + 1) ρ2 m2) (uForL g' s' xs σ2) :=
            (for_sim hg hs src f (i + 1) xs Z2 m2 ρ2 σ2 e2 fun Z' m' K => by
              obtain ⟨ps', c1, c2, c3⟩ := hS Z' m' (K2.trans K)
              have hd' : ps'.drop i = ps'[i]'(by omega) :: ps'.drop (i + 1) := List.drop_eq_getElem_cons (by omega)
              rw [hd'] at c1
              exact ⟨ps', (preps_cons.mp c1).2, c2, by omega⟩).mono st2 (fun j hj => ⟨hj, oth ρ2 b6 j hj⟩) (b7.trans g2.len)
          cases f' with
          | nx => cases (show fl = .nx from b3); exact rest
          | ct => cases (show fl = .ct from b3); exact rest
          | bk => cases (show fl = .bk from b3); exact ⟨.nx, ρ2, m2, Z2, rfl, e2, rfl, fun k x => False.elim x, st2.sub (fun _ x => x) fun k x => by
              rcases x with x | x
              · exact .inl x
              · exact False.elim x, oth ρ2 b6, b7.trans g2.len⟩
          | rt v =>
            obtain ⟨p, rfl, b3⟩ := b3
            exact ⟨.rt p, ρ2, m2, Z2, rfl, e2, ⟨p, rfl, b3⟩, b4, S1.trans b5, oth ρ2 b6, b7.trans g2.len⟩
        | exc c x σ2 =>
          rw [q2] at k2
          obtain ⟨p, ρ2, m2, Z2, b1, e2, b3, b5, b6, b7⟩ := k2
          rw [b1]
          exact ⟨p, ρ2, m2, Z2, rfl, e2, b3, S1.trans b5, oth ρ2 b6, b7.trans g2.len⟩
        | bad => exact trivial
def uFor (src : uL) (g : uG) (s : uS) : uS := fun σ => uthn (src σ) fun ws σ1 => uForL g s ws σ1
theorem simS_for {W V : List Nat} {src : SD} {src' : uL} {g : GD} {g' : uG} {s : DS} {s' : uS} (h : SimSrc src src') (hg : SimG W g g') (hs : SimS V s s') : SimS (W ++ V) (sFor src g s) (uFor src' g' s') := fun Z m ρ σ e => by
  unfold sFor uFor
  refine sim_thn (h Z m ρ σ e) fun ws sr Z m σ e r f => ?_
  have r : SrcRep Z m ρ ws sr := r
  have k := for_sim hg hs sr (sr.len m) 0 ws Z m ρ σ e fun Z' m' K => by
    obtain ⟨ps, c1, c2, c3⟩ := r Z' m' K
    obtain ⟨ps0, d1, d2, d3⟩ := r Z m (Keep.refl _ _)
    exact ⟨ps, c1, c2, by rw [Nat.zero_add, d3, d1.len, c1.len]⟩
  exact k.mono ⟨Nat.le_refl _, fun _ _ _ => rfl, fun _ z => z, fun _ z => .inl z, fun k x => .inl (.inl x)⟩ (fun j hj => ⟨hj, rfl⟩) rfl
/-! ### defs -/
/-- the arguments afterwards: those at ms as they are now -/
def outs (ms : List Nat) (σ : UEnv) : Nat → List Uv → Option (List Uv)
  | _, [] => some []
  | j, v :: vs => match (if j ∈ ms then (σ[j]?).join else match v with
      | .w x => some (.w x)
      | _ => none) with
    | some v' => match outs ms σ (j + 1) vs with
      | some r => some (v' :: r)
      | none => none
    | none => none
def uFn (n N : Nat) (ms : List Nat) (s : uS) (vs : List Uv) : FRes := match decide (vs.length = n) with
  | true => match s (vs.map some ++ List.replicate (N - n) none) with
    | .ok .nx σ => match outs ms σ 0 vs with
      | some vs' => .ok (.w .non) vs'
      | none => .bad
    | .ok (.rt v) σ => match outs ms σ 0 vs with
      | some vs' => .ok v vs'
      | none => .bad
    | .ok _ _ => .bad
    | .exc c x σ => match outs ms σ 0 vs with
      | some vs' => .exc c x vs'
      | none => .bad
    | .bad => .bad
  | false => .bad
theorem outs_len {ms : List Nat} {σ : UEnv} : ∀ {j : Nat} {vs vs' : List Uv}, outs ms σ j vs = some vs' → vs'.length = vs.length
  | j, [], vs', h => by cases h; rfl
  | j, v :: vs, vs', h => by
    unfold outs at h
    split at h
    · split at h
      · rename_i h2
        cases h
        simp [outs_len h2]
      · cases h
    · cases h
theorem outs_get {ms : List Nat} {σ : UEnv} : ∀ {j i : Nat} {vs vs' : List Uv} {v' : Uv}, outs ms σ j vs = some vs' → vs'[i]? = some v' → (j + i ∈ ms ∧ σ[j + i]? = some (some v')) ∨ (j + i ∉ ms ∧ ∃ x, v' = .w x ∧ vs[i]? = some (.w x))
  | j, i, [], vs', v', h, g => by cases h; simp at g
  | j, i, v :: vs, vs', v', h, g => by
    unfold outs at h
    split at h
    · rename_i w hw
      split at h
      · rename_i r h2
        cases h
        cases i with
        | zero =>
          cases g
          by_cases hm : j ∈ ms
          · rw [if_pos hm] at hw
            exact .inl ⟨by simpa using hm, join_some hw⟩
          · rw [if_neg hm] at hw
            cases v with
            | w x => cases hw; exact .inr ⟨by simpa using hm, x, rfl, rfl⟩
            | _ => cases hw
        | succ i =>
          have := outs_get (i := i) h2 (by simpa using g)
          rw [show j + (i + 1) = j + 1 + i by omega]
          rcases this with h | ⟨h, x, a, b⟩
          · exact .inl h
          · exact .inr ⟨h, x, a, by simpa using b⟩
      · cases h
    · cases h
theorem simFn_of {n N : Nat} {ms W : List Nat} {s : DS} {s' : uS} (h : SimS W s s') (hm : ∀ j ∈ ms, j ∉ W) : SimFn (fnOf n N s) (uFn n N ms s') := fun Z m ps vs e => by
  have hlen : ps.length = vs.length := by have := e.len; simpa using this.symm
  unfold uFn
  cases hd : decide (vs.length = n) with
  | false => exact FnR.bad
  | true =>
    have hn : vs.length = n := of_decide_eq_true hd
    have e0 : EE Z m (ps.map some ++ List.replicate (N - n) none) (vs.map some ++ List.replicate (N - n) none) ∧ ∀ k, own (ps.map some ++ List.replicate (N - n) none) (vs.map some ++ List.replicate (N - n) none) k → own (ps.map some) (vs.map some) k := by
      refine e.to (by simp [hlen]) fun j v hj => ?_
      by_cases hlt : j < (vs.map some).length
      · rw [List.getElem?_append_left hlt] at hj
        exact ⟨hj, List.getElem?_append_left (by simpa [hlen] using hlt)⟩
      · rw [List.getElem?_append_right (by omega), List.getElem?_replicate] at hj
        split at hj <;> cases hj
    have k := h Z m _ _ e0.1
    have st0 : Step Z m (own (ps.map some) (vs.map some)) Z m (own (ps.map some ++ List.replicate (N - n) none) (vs.map some ++ List.replicate (N - n) none)) := ⟨Nat.le_refl _, fun _ _ _ => rfl, fun _ z => z, fun _ z => .inl z, fun k x => .inl (e0.2 k x)⟩
    have unf : ∀ r, s (ps.map some ++ List.replicate (N - n) none) m = r → fnOf n N s ps m = (match r with
      | .ok .nx _ m' => .ok .non m'
      | .ok (.rt p) _ m' => .ok p m'
      | .ok .bk _ _ => .bad
      | .ok .ct _ _ => .bad
      | .exc c v _ m' => .exc c v m'
      | .bad => .bad) := fun r hr => by
      unfold fnOf
      rw [decide_eq_true (by omega : ps.length = n)]
      dsimp only
      rw [hr]
      try rfl
    -- the arguments afterwards
    have fin : ∀ (σ' : UEnv) (ρ' : Env) (m' : Hm) (Z' : Zs) (A' : Nat → Prop) (vs' : List Uv), EE Z' m' ρ' σ' → Step Z m (own (ps.map some) (vs.map some)) Z' m' A' → (∀ j : Nat, j ∉ W → ρ'[j]? = (ps.map some ++ List.replicate (N - n) none)[j]?) → outs ms σ' 0 vs = some vs' → EE Z' m' (ps.map some) (vs'.map some) ∧ ∀ k, own (ps.map some) (vs'.map some) k → own ρ' σ' k := fun σ' ρ' m' Z' A' vs' e' st ho hv => by
      have K : Keep Z m Z' m' := e.kk st
      have hl := outs_len hv
      have at_ : ∀ (i : Nat) (v : Uv), vs'[i]? = some v → (σ'[i]? = some (some v) ∧ ∀ p, ps[i]? = some p → ρ'[i]? = some (some p)) ∨ (∃ x, v = .w x ∧ vs[i]? = some (.w x)) := fun i v hi => by
        rcases outs_get hv hi with ⟨h1, h2⟩ | ⟨_, x, h1, h2⟩
        · rw [Nat.zero_add] at h1 h2
          refine .inl ⟨h2, fun p hp => ?_⟩
          rw [ho i (hm i h1), List.getElem?_append_left (by rw [List.length_map]; exact (List.getElem?_eq_some_iff.mp hp).1), map_some_get]
          exact hp
        · exact .inr ⟨x, h1, h2⟩
      refine ⟨⟨by simp [hl, hlen], e'.zlt, fun i v hi => ?_, fun i j v w p q k h1 h2 h3 h4 h5 h6 => ?_⟩, fun k ⟨i, v, p, h1, h2, h3⟩ => ?_⟩
      · rw [map_some_get] at hi
        have hlt := (List.getElem?_eq_some_iff.mp hi).1
        obtain ⟨p, hp⟩ : ∃ p, ps[i]? = some p := ⟨_, List.getElem?_eq_getElem (by omega)⟩
        refine ⟨p, by rw [map_some_get]; exact hp, ?_⟩
        rcases at_ i v hi with ⟨a, b⟩ | ⟨x, rfl, b⟩
        · obtain ⟨p', c, d⟩ := e'.rep i v a
          rw [b p hp] at c
          cases c
          exact d
        · obtain ⟨p', c, d⟩ := e.rep i (.w x) (by rw [map_some_get]; exact b)
          rw [map_some_get, hp] at c
          cases c
          exact PRep.keep K d
      · rw [map_some_get] at h1 h2 h3 h4
        rcases at_ i v h1 with ⟨a, b⟩ | ⟨x, rfl, b⟩
        · rcases at_ j w h3 with ⟨c, d⟩ | ⟨y, rfl, d⟩
          · exact e'.sep i j v w p q k a (b p h2) c (d q h4) h5 h6
          · simp [fp] at h6
        · simp [fp] at h5
      · rw [map_some_get] at h1 h2
        rcases at_ i v h1 with ⟨a, b⟩ | ⟨x, rfl, b⟩
        · exact ⟨i, v, p, a, b p h2, h3⟩
        · simp [fp] at h3
    dsimp only
    cases q : s' (vs.map some ++ List.replicate (N - n) none) with
    | ok f' σ' =>
      rw [q] at k
      obtain ⟨f, ρ', m', Z', h1, e', h3, h4, h5, h6, h7⟩ := k
      cases f' with
      | nx =>
        cases (show f = .nx from h3)
        dsimp only
        cases ho : outs ms σ' 0 vs with
        | none => exact FnR.bad
        | some vs' =>
          obtain ⟨a, b⟩ := fin σ' ρ' m' Z' _ vs' e' (st0.trans h5) h6 ho
          refine ⟨.non, m', Z', unf _ h1, a, by simp only [URep, PRep], fun k x => by simp [fp] at x, st0.trans (h5.sub (fun _ x => x) fun k x => ?_)⟩
          rcases x with x | x
          · exact .inl (.inl (b k x))
          · simp [fp] at x
      | rt v =>
        obtain ⟨p, rfl, h3⟩ := h3
        dsimp only
        cases ho : outs ms σ' 0 vs with
        | none => exact FnR.bad
        | some vs' =>
          obtain ⟨a, b⟩ := fin σ' ρ' m' Z' _ vs' e' (st0.trans h5) h6 ho
          refine ⟨p, m', Z', unf _ h1, a, h3, fun k x o => h4 k x (b k o), st0.trans (h5.sub (fun _ x => x) fun k x => ?_)⟩
          rcases x with x | x
          · exact .inl (.inl (b k x))
          · exact .inl (.inr x)
      | bk => exact FnR.bad
      | ct => exact FnR.bad
    | exc c x σ' =>
      rw [q] at k
      obtain ⟨p, ρ', m', Z', h1, e', h3, h5, h6, h7⟩ := k
      dsimp only
      cases ho : outs ms σ' 0 vs with
      | none => exact FnR.bad
      | some vs' =>
        obtain ⟨a, b⟩ := fin σ' ρ' m' Z' _ vs' e' (st0.trans h5) h6 ho
        exact ⟨p, m', Z', unf _ h1, a, h3, st0.trans (h5.sub (fun _ x => x) fun k x => .inl (b k x))⟩
    | bad => exact FnR.bad
theorem simFn_bad {F : List P → M P} : SimFn F (fun _ => .bad) := fun Z m ps vs e => FnR.bad
theorem pints (ns : List Int) : PReps Z m (ns.map .int) (ns.map .int) := .of_get (by simp) fun i w p h1 h2 => by
  rw [List.getElem?_map] at h1 h2
  cases q : ns[i]? with
  | none => rw [q] at h1; cases h1
  | some a => rw [q] at h1 h2; cases h1; cases h2; simp only [PRep]
/-- the law's own end -/
theorem simFn_law {F : List P → M P} {f' : List Uv → FRes} (h : SimFn F f') (ns : List Int) {vs : List Uv} (e : f' [.w (.scr (ns.map .int))] = .ok (.w (.bl true)) vs) : ∃ m', F [.scr (ns.map .int)] [] = .ok (.bl true) m' := by
  have k := h (fun _ => False) [] [.scr (ns.map .int)] [.w (.scr (ns.map .int))] ⟨rfl, fun k x => False.elim x, fun i v hi => by
    cases i with
    | zero => cases hi; exact ⟨_, rfl, by simp only [URep, PRep]; exact ⟨_, rfl, pints ns⟩⟩
    | succ i => simp at hi, fun i j v w p q k h1 h2 h3 h4 h5 h6 => by
    cases i with
    | zero => cases h1; simp [fp] at h5
    | succ i => simp at h1⟩
  rw [e] at k
  obtain ⟨p, m', Z', h1, _, h3, _⟩ := k
  simp only [URep, PRep] at h3
  subst h3
  exact ⟨m', h1⟩
end
end G

/-! V11: the source of drawn numbers. -/
namespace G
open PySem (Str PyData)
def popC : Int → List Int → Int × List Int
  | l, [] => (l, [])
  | l, c :: cs => if l < 2 then popC c cs else (l, c :: cs)
theorem popC_ge (l : Int) (cs : List Int) (h : ¬ l < 2) : popC l cs = (l, cs) := by
  cases cs with
  | nil => rfl
  | cons c cs => unfold popC; rw [if_neg h]
theorem popC_lt (l c : Int) (cs : List Int) (h : l < 2) : popC l (c :: cs) = popC c cs := by
  rw [popC, if_pos h]
def mixA (x t : Int) : Int := ((x + t * 104729) % 998244353 * ((x + t * 104729) % 998244353) + t * 17) % 2147483647
def pickBV : List Uv → FRes
  | [.src cs l x t, .w (.int k)] => match decide (k < 2) with
    | true => .ok (.w (.int 0)) [.src cs l x t, .w (.int k)]
    | false => match decide (cs.length ≤ 63) && smK 18446744073709551615 k with
      | true => match decide (1 < (popC l cs).1) with
        | true => .ok (.w (.int ((popC l cs).1 % k))) [.src (popC l cs).2 ((popC l cs).1 / k) x t, .w (.int k)]
        | false => .ok (.w (.int (mixA x (t + 1) / 16 % k))) [.src (popC l cs).2 (popC l cs).1 x (t + 1), .w (.int k)]
      | false => .bad
  | _ => .bad
def pickAV : List Uv → FRes
  | [.src cs l x t, .w (.int k)] => match decide (cs.length ≤ 63) && smK 18446744073709551615 k with
    | true => match decide (k < 2) with
      | true => .ok (.w (.int 0)) [.src cs l x t, .w (.int k)]
      | false => match decide (1 < (popC l cs).1) with
        | true => .ok (.w (.int ((popC l cs).1 % k))) [.src (popC l cs).2 ((popC l cs).1 / k) x t, .w (.int k)]
        | false => .ok (.w (.int (mixA x (t + 1) / 16 % k))) [.src (popC l cs).2 (popC l cs).1 (mixA x (t + 1)) (t + 1), .w (.int k)]
    | false => .bad
  | _ => .bad
/-- what is had of a pick -/
def Got (n c : Nat) (r l x t : Int) (cs : List Int) (m : Hm) (p : P) (m' : Hm) : Prop := p = .int r ∧ SrcAt m' n c l x t cs.reverse ∧ Fr [n, c] m m' ∧ m'.length = m.length
theorem srcAt_pop {m : Hm} {n c : Nat} {l x t c0 : Int} {cs : List Int} (h : SrcAt m n c l x t (c0 :: cs).reverse) : SrcAt (m.set c (.lst (List.map P.int (c0 :: cs).reverse).dropLast)) n c l x t cs.reverse := by
  have := h.pop
  simpa using this
theorem last_rev (c0 : Int) (cs : List Int) : ((c0 :: cs).reverse.map P.int)[(c0 :: cs).reverse.length - 1]? = some (.int c0) := by simp
theorem popC_len (l : Int) (cs : List Int) : (popC l cs).2.length ≤ cs.length := by
  induction cs generalizing l with
  | nil => simp [popC]
  | cons c cs ih =>
    unfold popC
    split
    · have := ih c; simp; omega
    · simp
theorem pickB_at {m : Hm} {n c : Nat} {k l x t : Int} {cs : List Int} (S : SrcAt m n c l x t cs.reverse) (h2 : ¬ k < 2) (hk : k < 18446744073709551616) : Ok (F_pickB [.ref n, .int k] m) fun p m' => if 1 < (popC l cs).1 then Got n c ((popC l cs).1 % k) ((popC l cs).1 / k) x t (popC l cs).2 m p m' else Got n c (mixA x (t + 1) / 16 % k) (popC l cs).1 x (t + 1) (popC l cs).2 m p m' := by
  have hz := S.hz
  unfold F_pickB D_pickB
  simp only [ok_ok, ok_ret, ok_bnd, ok_when, ok_opt, ok_getO, ok_putO, ok_newO, ok_dVar, ok_dC, ok_aNil, ok_aCons, ok_dOp, ok_dUn, ok_dTup, ok_lLst, ok_dNew, ok_dIf, ok_dCall, ok_tVal, ok_asB, ok_tTru, ok_truth_bl, ok_truth_int, ok_truth_non, ok_truth_tup, ok_tYes, ok_tAnd, ok_tOr, ok_tNot, ok_dAnd, ok_dOr, ok_uNot, ok_dChain, ok_add_int, ok_add_tup, ok_add_str, ok_add_ref, ok_sub, ok_mul, ok_mul_lst, ok_mulT, ok_div, ok_mod, ok_pow, ok_shl, ok_shr, ok_band, ok_bor, ok_xor, ok_neg, ok_lt, ok_le, ok_gt, ok_ge, ok_asD, ok_eqD, ok_eq_int, ok_eq_str, ok_eq_bl, ok_eq_non, ok_eq_tup, ok_eq_ref, ok_eq_it, ok_eq_in, ok_eq_nt, ok_eq_ni, ok_ne_int, ok_ne_str, ok_ne_bl, ok_ne_non, ok_ne_tup, ok_ne_ref, ok_ne_it, ok_ne_in, ok_ne_nt, ok_ne_ni, ok_isN, ok_notN, ok_ix_tup, ok_ix_scr, ok_ix_ref, ok_pNone, ok_pSome, ok_dSl, ok_sl_tup, ok_sl_ref, ok_dRev, ok_rev_ref, ok_lRev, ok_one, ok_two, ok_abs, ok_bint, ok_bint_bl, ok_max2, ok_min2, ok_len_tup, ok_len_scr, ok_len_str, ok_len_ref, ok_btup_tup, ok_btup_scr, ok_btup_ref, ok_dL, ok_lThen, ok_dV, ok_lV, ok_dR, ok_items_tup, ok_items_scr, ok_items_ref, ok_itemsR_scr, ok_itemsR_ref, ok_lId, ok_nTup, ok_nLen, ok_nSum, ok_nAny, ok_nAll, ok_rg1, ok_asI, ok_rg2, ok_lRg, ok_dTupRg, ok_meth0, ok_meth1, ok_methL, ok_chkL, ok_append, ok_extend, ok_pop, ok_popO, ok_sOf, ok_srcOf_tup, ok_srcOf_scr, ok_srcOf_kt, ok_srcOf_ref, ok_sOfL, ok_sEnum, ok_enumOf_tup, ok_enumOf_ref, ok_sRange1, ok_sRange2, ok_gName, ok_gNil, ok_gCons, ok_gTup, oks_ok, oks_thn, oks_nx, oks_bk, oks_ct, oks_seq, oks_expr, oks_ret, oks_asg, oks_set, oks_par2, oks_par3, oks_if, oks_put, ok_setP, ok_putL, ok_fnOf, ok_dDict, ok_kNil, ok_kCons, ok_aStar, ok_star_tup, ok_star_ref, oks_for, ok_comp, scal_int, scal_str, scal_bl, scal_non, scal_tup, scal_ref, dat_int, dat_str, dat_bl, dat_non, dat_tup, ok_look, ok_store, ok_lookO_int, ok_lookO_str, ok_storeO_int, ok_storeO_str, ok_in, ok_notIn, List.getElem?_cons_zero, List.getElem?_cons_succ, List.set_cons_zero, List.set_cons_succ, List.length_cons, List.length_nil, List.map_cons, List.map_nil, List.replicate_succ, List.replicate_zero, List.cons_append, List.nil_append, Nat.reduceSub, Nat.reduceAdd, Nat.zero_add, true_and, and_true, decide_eq_true_eq, decide_eq_false_iff_not, Bool.not_eq_true', Bool.not_eq_false', forall_const, Bool.false_eq_true, Bool.true_eq_false, false_implies, true_implies, reduceCtorEq, Bool.not_true, Bool.not_false, wipeE, reduceIte, and_self, Option.some.injEq, exists_eq_left', exists_eq_left, List.getElem?_nil, List.length_map]
  refine ⟨fun h0 => by omega, fun h0 => ?_⟩
  simp only [ok_ok, ok_ret, ok_bnd, ok_when, ok_opt, ok_getO, ok_putO, ok_newO, ok_dVar, ok_dC, ok_aNil, ok_aCons, ok_dOp, ok_dUn, ok_dTup, ok_lLst, ok_dNew, ok_dIf, ok_dCall, ok_tVal, ok_asB, ok_tTru, ok_truth_bl, ok_truth_int, ok_truth_non, ok_truth_tup, ok_tYes, ok_tAnd, ok_tOr, ok_tNot, ok_dAnd, ok_dOr, ok_uNot, ok_dChain, ok_add_int, ok_add_tup, ok_add_str, ok_add_ref, ok_sub, ok_mul, ok_mul_lst, ok_mulT, ok_div, ok_mod, ok_pow, ok_shl, ok_shr, ok_band, ok_bor, ok_xor, ok_neg, ok_lt, ok_le, ok_gt, ok_ge, ok_asD, ok_eqD, ok_eq_int, ok_eq_str, ok_eq_bl, ok_eq_non, ok_eq_tup, ok_eq_ref, ok_eq_it, ok_eq_in, ok_eq_nt, ok_eq_ni, ok_ne_int, ok_ne_str, ok_ne_bl, ok_ne_non, ok_ne_tup, ok_ne_ref, ok_ne_it, ok_ne_in, ok_ne_nt, ok_ne_ni, ok_isN, ok_notN, ok_ix_tup, ok_ix_scr, ok_ix_ref, ok_pNone, ok_pSome, ok_dSl, ok_sl_tup, ok_sl_ref, ok_dRev, ok_rev_ref, ok_lRev, ok_one, ok_two, ok_abs, ok_bint, ok_bint_bl, ok_max2, ok_min2, ok_len_tup, ok_len_scr, ok_len_str, ok_len_ref, ok_btup_tup, ok_btup_scr, ok_btup_ref, ok_dL, ok_lThen, ok_dV, ok_lV, ok_dR, ok_items_tup, ok_items_scr, ok_items_ref, ok_itemsR_scr, ok_itemsR_ref, ok_lId, ok_nTup, ok_nLen, ok_nSum, ok_nAny, ok_nAll, ok_rg1, ok_asI, ok_rg2, ok_lRg, ok_dTupRg, ok_meth0, ok_meth1, ok_methL, ok_chkL, ok_append, ok_extend, ok_pop, ok_popO, ok_sOf, ok_srcOf_tup, ok_srcOf_scr, ok_srcOf_kt, ok_srcOf_ref, ok_sOfL, ok_sEnum, ok_enumOf_tup, ok_enumOf_ref, ok_sRange1, ok_sRange2, ok_gName, ok_gNil, ok_gCons, ok_gTup, oks_ok, oks_thn, oks_nx, oks_bk, oks_ct, oks_seq, oks_expr, oks_ret, oks_asg, oks_set, oks_par2, oks_par3, oks_if, oks_put, ok_setP, ok_putL, ok_fnOf, ok_dDict, ok_kNil, ok_kCons, ok_aStar, ok_star_tup, ok_star_ref, oks_for, ok_comp, scal_int, scal_str, scal_bl, scal_non, scal_tup, scal_ref, dat_int, dat_str, dat_bl, dat_non, dat_tup, ok_look, ok_store, ok_lookO_int, ok_lookO_str, ok_storeO_int, ok_storeO_str, ok_in, ok_notIn, List.getElem?_cons_zero, List.getElem?_cons_succ, List.set_cons_zero, List.set_cons_succ, List.length_cons, List.length_nil, List.map_cons, List.map_nil, List.replicate_succ, List.replicate_zero, List.cons_append, List.nil_append, Nat.reduceSub, Nat.reduceAdd, Nat.zero_add, true_and, and_true, decide_eq_true_eq, decide_eq_false_iff_not, Bool.not_eq_true', Bool.not_eq_false', forall_const, Bool.false_eq_true, Bool.true_eq_false, false_implies, true_implies, reduceCtorEq, Bool.not_true, Bool.not_false, wipeE, reduceIte, and_self, Option.some.injEq, exists_eq_left', exists_eq_left, List.getElem?_nil, List.length_map, S.h1, key_str, src_cells]
  refine (while_inv (QF := fun f ρ m' => f = .nx ∧ ρ = [some (.ref n), some (.int k), some (.ref c), none, none, none] ∧ Fr [n, c] m m' ∧ m'.length = m.length ∧ SrcAt m' n c (popC l cs).1 x t (popC l cs).2.reverse) (fun j ρ m' => ρ = [some (.ref n), some (.int k), some (.ref c), none, none, none] ∧ Fr [n, c] m m' ∧ m'.length = m.length ∧ ∃ l1 cs1, j = cs1.length ∧ popC l1 cs1 = popC l cs ∧ SrcAt m' n c l1 x t cs1.reverse) ?_ FU cs.length _ _ ?_ ?_).mono ?_
  · rintro j ρ m' ⟨rfl, fr, hl, l1, cs1, rfl, hp, S1⟩
    simp only [ok_ok, ok_ret, ok_bnd, ok_when, ok_opt, ok_getO, ok_putO, ok_newO, ok_dVar, ok_dC, ok_aNil, ok_aCons, ok_dOp, ok_dUn, ok_dTup, ok_lLst, ok_dNew, ok_dIf, ok_dCall, ok_tVal, ok_asB, ok_tTru, ok_truth_bl, ok_truth_int, ok_truth_non, ok_truth_tup, ok_tYes, ok_tAnd, ok_tOr, ok_tNot, ok_dAnd, ok_dOr, ok_uNot, ok_dChain, ok_add_int, ok_add_tup, ok_add_str, ok_add_ref, ok_sub, ok_mul, ok_mul_lst, ok_mulT, ok_div, ok_mod, ok_pow, ok_shl, ok_shr, ok_band, ok_bor, ok_xor, ok_neg, ok_lt, ok_le, ok_gt, ok_ge, ok_asD, ok_eqD, ok_eq_int, ok_eq_str, ok_eq_bl, ok_eq_non, ok_eq_tup, ok_eq_ref, ok_eq_it, ok_eq_in, ok_eq_nt, ok_eq_ni, ok_ne_int, ok_ne_str, ok_ne_bl, ok_ne_non, ok_ne_tup, ok_ne_ref, ok_ne_it, ok_ne_in, ok_ne_nt, ok_ne_ni, ok_isN, ok_notN, ok_ix_tup, ok_ix_scr, ok_ix_ref, ok_pNone, ok_pSome, ok_dSl, ok_sl_tup, ok_sl_ref, ok_dRev, ok_rev_ref, ok_lRev, ok_one, ok_two, ok_abs, ok_bint, ok_bint_bl, ok_max2, ok_min2, ok_len_tup, ok_len_scr, ok_len_str, ok_len_ref, ok_btup_tup, ok_btup_scr, ok_btup_ref, ok_dL, ok_lThen, ok_dV, ok_lV, ok_dR, ok_items_tup, ok_items_scr, ok_items_ref, ok_itemsR_scr, ok_itemsR_ref, ok_lId, ok_nTup, ok_nLen, ok_nSum, ok_nAny, ok_nAll, ok_rg1, ok_asI, ok_rg2, ok_lRg, ok_dTupRg, ok_meth0, ok_meth1, ok_methL, ok_chkL, ok_append, ok_extend, ok_pop, ok_popO, ok_sOf, ok_srcOf_tup, ok_srcOf_scr, ok_srcOf_kt, ok_srcOf_ref, ok_sOfL, ok_sEnum, ok_enumOf_tup, ok_enumOf_ref, ok_sRange1, ok_sRange2, ok_gName, ok_gNil, ok_gCons, ok_gTup, oks_ok, oks_thn, oks_nx, oks_bk, oks_ct, oks_seq, oks_expr, oks_ret, oks_asg, oks_set, oks_par2, oks_par3, oks_if, oks_put, ok_setP, ok_putL, ok_fnOf, ok_dDict, ok_kNil, ok_kCons, ok_aStar, ok_star_tup, ok_star_ref, oks_for, ok_comp, scal_int, scal_str, scal_bl, scal_non, scal_tup, scal_ref, dat_int, dat_str, dat_bl, dat_non, dat_tup, ok_look, ok_store, ok_lookO_int, ok_lookO_str, ok_storeO_int, ok_storeO_str, ok_in, ok_notIn, List.getElem?_cons_zero, List.getElem?_cons_succ, List.set_cons_zero, List.set_cons_succ, List.length_cons, List.length_nil, List.map_cons, List.map_nil, List.replicate_succ, List.replicate_zero, List.cons_append, List.nil_append, Nat.reduceSub, Nat.reduceAdd, Nat.zero_add, true_and, and_true, decide_eq_true_eq, decide_eq_false_iff_not, Bool.not_eq_true', Bool.not_eq_false', forall_const, Bool.false_eq_true, Bool.true_eq_false, false_implies, true_implies, reduceCtorEq, Bool.not_true, Bool.not_false, wipeE, reduceIte, and_self, Option.some.injEq, exists_eq_left', exists_eq_left, List.getElem?_nil, List.length_map, S1.h1, S1.h2, src_left]
    refine ⟨fun hlt => ⟨fun hpos => ?_, fun hpos => ?_⟩, fun hge => ?_⟩
    · cases cs1 with
      | nil => simp at hpos
      | cons c0 cs1 =>
        refine ⟨_, last_rev c0 cs1, ?_⟩
        have S2 := srcAt_pop S1
        simp only [ok_ok, ok_ret, ok_bnd, ok_when, ok_opt, ok_getO, ok_putO, ok_newO, ok_dVar, ok_dC, ok_aNil, ok_aCons, ok_dOp, ok_dUn, ok_dTup, ok_lLst, ok_dNew, ok_dIf, ok_dCall, ok_tVal, ok_asB, ok_tTru, ok_truth_bl, ok_truth_int, ok_truth_non, ok_truth_tup, ok_tYes, ok_tAnd, ok_tOr, ok_tNot, ok_dAnd, ok_dOr, ok_uNot, ok_dChain, ok_add_int, ok_add_tup, ok_add_str, ok_add_ref, ok_sub, ok_mul, ok_mul_lst, ok_mulT, ok_div, ok_mod, ok_pow, ok_shl, ok_shr, ok_band, ok_bor, ok_xor, ok_neg, ok_lt, ok_le, ok_gt, ok_ge, ok_asD, ok_eqD, ok_eq_int, ok_eq_str, ok_eq_bl, ok_eq_non, ok_eq_tup, ok_eq_ref, ok_eq_it, ok_eq_in, ok_eq_nt, ok_eq_ni, ok_ne_int, ok_ne_str, ok_ne_bl, ok_ne_non, ok_ne_tup, ok_ne_ref, ok_ne_it, ok_ne_in, ok_ne_nt, ok_ne_ni, ok_isN, ok_notN, ok_ix_tup, ok_ix_scr, ok_ix_ref, ok_pNone, ok_pSome, ok_dSl, ok_sl_tup, ok_sl_ref, ok_dRev, ok_rev_ref, ok_lRev, ok_one, ok_two, ok_abs, ok_bint, ok_bint_bl, ok_max2, ok_min2, ok_len_tup, ok_len_scr, ok_len_str, ok_len_ref, ok_btup_tup, ok_btup_scr, ok_btup_ref, ok_dL, ok_lThen, ok_dV, ok_lV, ok_dR, ok_items_tup, ok_items_scr, ok_items_ref, ok_itemsR_scr, ok_itemsR_ref, ok_lId, ok_nTup, ok_nLen, ok_nSum, ok_nAny, ok_nAll, ok_rg1, ok_asI, ok_rg2, ok_lRg, ok_dTupRg, ok_meth0, ok_meth1, ok_methL, ok_chkL, ok_append, ok_extend, ok_pop, ok_popO, ok_sOf, ok_srcOf_tup, ok_srcOf_scr, ok_srcOf_kt, ok_srcOf_ref, ok_sOfL, ok_sEnum, ok_enumOf_tup, ok_enumOf_ref, ok_sRange1, ok_sRange2, ok_gName, ok_gNil, ok_gCons, ok_gTup, oks_ok, oks_thn, oks_nx, oks_bk, oks_ct, oks_seq, oks_expr, oks_ret, oks_asg, oks_set, oks_par2, oks_par3, oks_if, oks_put, ok_setP, ok_putL, ok_fnOf, ok_dDict, ok_kNil, ok_kCons, ok_aStar, ok_star_tup, ok_star_ref, oks_for, ok_comp, scal_int, scal_str, scal_bl, scal_non, scal_tup, scal_ref, dat_int, dat_str, dat_bl, dat_non, dat_tup, ok_look, ok_store, ok_lookO_int, ok_lookO_str, ok_storeO_int, ok_storeO_str, ok_in, ok_notIn, List.getElem?_cons_zero, List.getElem?_cons_succ, List.set_cons_zero, List.set_cons_succ, List.length_cons, List.length_nil, List.map_cons, List.map_nil, List.replicate_succ, List.replicate_zero, List.cons_append, List.nil_append, Nat.reduceSub, Nat.reduceAdd, Nat.zero_add, true_and, and_true, decide_eq_true_eq, decide_eq_false_iff_not, Bool.not_eq_true', Bool.not_eq_false', forall_const, Bool.false_eq_true, Bool.true_eq_false, false_implies, true_implies, reduceCtorEq, Bool.not_true, Bool.not_false, wipeE, reduceIte, and_self, Option.some.injEq, exists_eq_left', exists_eq_left, List.getElem?_nil, List.length_map, S2.h1, put_left]
        exact ⟨szp, cs1.length, by simp, fr.setc.set2, by simpa using hl, c0, cs1, rfl, by rw [← hp, popC_lt _ _ _ (by omega)], S2.put _ _ _⟩
    · cases cs1 with
      | nil => rw [← hp]; exact ⟨fr, hl, S1⟩
      | cons c0 cs1 => simp at hpos
    · rw [← hp, popC_ge _ _ (by omega)]
      exact ⟨fr, hl, S1⟩
  · simp at hz
    exact Nat.lt_of_le_of_lt hz (by decide)
  · exact ⟨rfl, Fr.refl _ _, rfl, l, cs, rfl, rfl, S⟩
  · rintro f ρ m' ⟨rfl, rfl, fr, hl, S1⟩
    simp only [ok_ok, ok_ret, ok_bnd, ok_when, ok_opt, ok_getO, ok_putO, ok_newO, ok_dVar, ok_dC, ok_aNil, ok_aCons, ok_dOp, ok_dUn, ok_dTup, ok_lLst, ok_dNew, ok_dIf, ok_dCall, ok_tVal, ok_asB, ok_tTru, ok_truth_bl, ok_truth_int, ok_truth_non, ok_truth_tup, ok_tYes, ok_tAnd, ok_tOr, ok_tNot, ok_dAnd, ok_dOr, ok_uNot, ok_dChain, ok_add_int, ok_add_tup, ok_add_str, ok_add_ref, ok_sub, ok_mul, ok_mul_lst, ok_mulT, ok_div, ok_mod, ok_pow, ok_shl, ok_shr, ok_band, ok_bor, ok_xor, ok_neg, ok_lt, ok_le, ok_gt, ok_ge, ok_asD, ok_eqD, ok_eq_int, ok_eq_str, ok_eq_bl, ok_eq_non, ok_eq_tup, ok_eq_ref, ok_eq_it, ok_eq_in, ok_eq_nt, ok_eq_ni, ok_ne_int, ok_ne_str, ok_ne_bl, ok_ne_non, ok_ne_tup, ok_ne_ref, ok_ne_it, ok_ne_in, ok_ne_nt, ok_ne_ni, ok_isN, ok_notN, ok_ix_tup, ok_ix_scr, ok_ix_ref, ok_pNone, ok_pSome, ok_dSl, ok_sl_tup, ok_sl_ref, ok_dRev, ok_rev_ref, ok_lRev, ok_one, ok_two, ok_abs, ok_bint, ok_bint_bl, ok_max2, ok_min2, ok_len_tup, ok_len_scr, ok_len_str, ok_len_ref, ok_btup_tup, ok_btup_scr, ok_btup_ref, ok_dL, ok_lThen, ok_dV, ok_lV, ok_dR, ok_items_tup, ok_items_scr, ok_items_ref, ok_itemsR_scr, ok_itemsR_ref, ok_lId, ok_nTup, ok_nLen, ok_nSum, ok_nAny, ok_nAll, ok_rg1, ok_asI, ok_rg2, ok_lRg, ok_dTupRg, ok_meth0, ok_meth1, ok_methL, ok_chkL, ok_append, ok_extend, ok_pop, ok_popO, ok_sOf, ok_srcOf_tup, ok_srcOf_scr, ok_srcOf_kt, ok_srcOf_ref, ok_sOfL, ok_sEnum, ok_enumOf_tup, ok_enumOf_ref, ok_sRange1, ok_sRange2, ok_gName, ok_gNil, ok_gCons, ok_gTup, oks_ok, oks_thn, oks_nx, oks_bk, oks_ct, oks_seq, oks_expr, oks_ret, oks_asg, oks_set, oks_par2, oks_par3, oks_if, oks_put, ok_setP, ok_putL, ok_fnOf, ok_dDict, ok_kNil, ok_kCons, ok_aStar, ok_star_tup, ok_star_ref, oks_for, ok_comp, scal_int, scal_str, scal_bl, scal_non, scal_tup, scal_ref, dat_int, dat_str, dat_bl, dat_non, dat_tup, ok_look, ok_store, ok_lookO_int, ok_lookO_str, ok_storeO_int, ok_storeO_str, ok_in, ok_notIn, List.getElem?_cons_zero, List.getElem?_cons_succ, List.set_cons_zero, List.set_cons_succ, List.length_cons, List.length_nil, List.map_cons, List.map_nil, List.replicate_succ, List.replicate_zero, List.cons_append, List.nil_append, Nat.reduceSub, Nat.reduceAdd, Nat.zero_add, true_and, and_true, decide_eq_true_eq, decide_eq_false_iff_not, Bool.not_eq_true', Bool.not_eq_false', forall_const, Bool.false_eq_true, Bool.true_eq_false, false_implies, true_implies, reduceCtorEq, Bool.not_true, Bool.not_false, wipeE, reduceIte, and_self, Option.some.injEq, exists_eq_left', exists_eq_left, List.getElem?_nil, List.length_map, S1.h1, src_left, src_turn, put_left, put_turn, (S1.put _ _ _).h1, src_mixed]
    refine ⟨fun h1 => ⟨⟨by omega, hk⟩, szp, by omega, ?_⟩, fun h1 => ⟨szp, cMul_right (by decide), by omega, sq_ok (by decide) (by decide), cMul_right (by decide), by decide, by decide, by omega, ?_⟩⟩
    · rw [if_pos (by omega)]
      exact ⟨rfl, S1.put _ _ _, fr.set2, by simpa using hl⟩
    · rw [if_neg (by omega)]
      exact ⟨rfl, S1.put _ _ _, fr.set2, by simpa using hl⟩
theorem pickA_at {m : Hm} {n c : Nat} {k l x t : Int} {cs : List Int} (S : SrcAt m n c l x t cs.reverse) (h2 : ¬ k < 2) (hk : k < 18446744073709551616) : Ok (F_pickA [.ref n, .int k] m) fun p m' => if 1 < (popC l cs).1 then Got n c ((popC l cs).1 % k) ((popC l cs).1 / k) x t (popC l cs).2 m p m' else Got n c (mixA x (t + 1) / 16 % k) (popC l cs).1 (mixA x (t + 1)) (t + 1) (popC l cs).2 m p m' := by
  have hz := S.hz
  unfold F_pickA D_pickA
  simp only [ok_ok, ok_ret, ok_bnd, ok_when, ok_opt, ok_getO, ok_putO, ok_newO, ok_dVar, ok_dC, ok_aNil, ok_aCons, ok_dOp, ok_dUn, ok_dTup, ok_lLst, ok_dNew, ok_dIf, ok_dCall, ok_tVal, ok_asB, ok_tTru, ok_truth_bl, ok_truth_int, ok_truth_non, ok_truth_tup, ok_tYes, ok_tAnd, ok_tOr, ok_tNot, ok_dAnd, ok_dOr, ok_uNot, ok_dChain, ok_add_int, ok_add_tup, ok_add_str, ok_add_ref, ok_sub, ok_mul, ok_mul_lst, ok_mulT, ok_div, ok_mod, ok_pow, ok_shl, ok_shr, ok_band, ok_bor, ok_xor, ok_neg, ok_lt, ok_le, ok_gt, ok_ge, ok_asD, ok_eqD, ok_eq_int, ok_eq_str, ok_eq_bl, ok_eq_non, ok_eq_tup, ok_eq_ref, ok_eq_it, ok_eq_in, ok_eq_nt, ok_eq_ni, ok_ne_int, ok_ne_str, ok_ne_bl, ok_ne_non, ok_ne_tup, ok_ne_ref, ok_ne_it, ok_ne_in, ok_ne_nt, ok_ne_ni, ok_isN, ok_notN, ok_ix_tup, ok_ix_scr, ok_ix_ref, ok_pNone, ok_pSome, ok_dSl, ok_sl_tup, ok_sl_ref, ok_dRev, ok_rev_ref, ok_lRev, ok_one, ok_two, ok_abs, ok_bint, ok_bint_bl, ok_max2, ok_min2, ok_len_tup, ok_len_scr, ok_len_str, ok_len_ref, ok_btup_tup, ok_btup_scr, ok_btup_ref, ok_dL, ok_lThen, ok_dV, ok_lV, ok_dR, ok_items_tup, ok_items_scr, ok_items_ref, ok_itemsR_scr, ok_itemsR_ref, ok_lId, ok_nTup, ok_nLen, ok_nSum, ok_nAny, ok_nAll, ok_rg1, ok_asI, ok_rg2, ok_lRg, ok_dTupRg, ok_meth0, ok_meth1, ok_methL, ok_chkL, ok_append, ok_extend, ok_pop, ok_popO, ok_sOf, ok_srcOf_tup, ok_srcOf_scr, ok_srcOf_kt, ok_srcOf_ref, ok_sOfL, ok_sEnum, ok_enumOf_tup, ok_enumOf_ref, ok_sRange1, ok_sRange2, ok_gName, ok_gNil, ok_gCons, ok_gTup, oks_ok, oks_thn, oks_nx, oks_bk, oks_ct, oks_seq, oks_expr, oks_ret, oks_asg, oks_set, oks_par2, oks_par3, oks_if, oks_put, ok_setP, ok_putL, ok_fnOf, ok_dDict, ok_kNil, ok_kCons, ok_aStar, ok_star_tup, ok_star_ref, oks_for, ok_comp, scal_int, scal_str, scal_bl, scal_non, scal_tup, scal_ref, dat_int, dat_str, dat_bl, dat_non, dat_tup, ok_look, ok_store, ok_lookO_int, ok_lookO_str, ok_storeO_int, ok_storeO_str, ok_in, ok_notIn, List.getElem?_cons_zero, List.getElem?_cons_succ, List.set_cons_zero, List.set_cons_succ, List.length_cons, List.length_nil, List.map_cons, List.map_nil, List.replicate_succ, List.replicate_zero, List.cons_append, List.nil_append, Nat.reduceSub, Nat.reduceAdd, Nat.zero_add, true_and, and_true, decide_eq_true_eq, decide_eq_false_iff_not, Bool.not_eq_true', Bool.not_eq_false', forall_const, Bool.false_eq_true, Bool.true_eq_false, false_implies, true_implies, reduceCtorEq, Bool.not_true, Bool.not_false, wipeE, reduceIte, and_self, Option.some.injEq, exists_eq_left', exists_eq_left, List.getElem?_nil, List.length_map]
  refine (while_inv (QF := fun f ρ m' => f = .nx ∧ ρ = [some (.ref n), some (.int k), none, none] ∧ Fr [n, c] m m' ∧ m'.length = m.length ∧ SrcAt m' n c (popC l cs).1 x t (popC l cs).2.reverse) (fun j ρ m' => ρ = [some (.ref n), some (.int k), none, none] ∧ Fr [n, c] m m' ∧ m'.length = m.length ∧ ∃ l1 cs1, j = cs1.length ∧ popC l1 cs1 = popC l cs ∧ SrcAt m' n c l1 x t cs1.reverse) ?_ FU cs.length _ _ ?_ ?_).mono ?_
  · rintro j ρ m' ⟨rfl, fr, hl, l1, cs1, rfl, hp, S1⟩
    simp only [ok_ok, ok_ret, ok_bnd, ok_when, ok_opt, ok_getO, ok_putO, ok_newO, ok_dVar, ok_dC, ok_aNil, ok_aCons, ok_dOp, ok_dUn, ok_dTup, ok_lLst, ok_dNew, ok_dIf, ok_dCall, ok_tVal, ok_asB, ok_tTru, ok_truth_bl, ok_truth_int, ok_truth_non, ok_truth_tup, ok_tYes, ok_tAnd, ok_tOr, ok_tNot, ok_dAnd, ok_dOr, ok_uNot, ok_dChain, ok_add_int, ok_add_tup, ok_add_str, ok_add_ref, ok_sub, ok_mul, ok_mul_lst, ok_mulT, ok_div, ok_mod, ok_pow, ok_shl, ok_shr, ok_band, ok_bor, ok_xor, ok_neg, ok_lt, ok_le, ok_gt, ok_ge, ok_asD, ok_eqD, ok_eq_int, ok_eq_str, ok_eq_bl, ok_eq_non, ok_eq_tup, ok_eq_ref, ok_eq_it, ok_eq_in, ok_eq_nt, ok_eq_ni, ok_ne_int, ok_ne_str, ok_ne_bl, ok_ne_non, ok_ne_tup, ok_ne_ref, ok_ne_it, ok_ne_in, ok_ne_nt, ok_ne_ni, ok_isN, ok_notN, ok_ix_tup, ok_ix_scr, ok_ix_ref, ok_pNone, ok_pSome, ok_dSl, ok_sl_tup, ok_sl_ref, ok_dRev, ok_rev_ref, ok_lRev, ok_one, ok_two, ok_abs, ok_bint, ok_bint_bl, ok_max2, ok_min2, ok_len_tup, ok_len_scr, ok_len_str, ok_len_ref, ok_btup_tup, ok_btup_scr, ok_btup_ref, ok_dL, ok_lThen, ok_dV, ok_lV, ok_dR, ok_items_tup, ok_items_scr, ok_items_ref, ok_itemsR_scr, ok_itemsR_ref, ok_lId, ok_nTup, ok_nLen, ok_nSum, ok_nAny, ok_nAll, ok_rg1, ok_asI, ok_rg2, ok_lRg, ok_dTupRg, ok_meth0, ok_meth1, ok_methL, ok_chkL, ok_append, ok_extend, ok_pop, ok_popO, ok_sOf, ok_srcOf_tup, ok_srcOf_scr, ok_srcOf_kt, ok_srcOf_ref, ok_sOfL, ok_sEnum, ok_enumOf_tup, ok_enumOf_ref, ok_sRange1, ok_sRange2, ok_gName, ok_gNil, ok_gCons, ok_gTup, oks_ok, oks_thn, oks_nx, oks_bk, oks_ct, oks_seq, oks_expr, oks_ret, oks_asg, oks_set, oks_par2, oks_par3, oks_if, oks_put, ok_setP, ok_putL, ok_fnOf, ok_dDict, ok_kNil, ok_kCons, ok_aStar, ok_star_tup, ok_star_ref, oks_for, ok_comp, scal_int, scal_str, scal_bl, scal_non, scal_tup, scal_ref, dat_int, dat_str, dat_bl, dat_non, dat_tup, ok_look, ok_store, ok_lookO_int, ok_lookO_str, ok_storeO_int, ok_storeO_str, ok_in, ok_notIn, List.getElem?_cons_zero, List.getElem?_cons_succ, List.set_cons_zero, List.set_cons_succ, List.length_cons, List.length_nil, List.map_cons, List.map_nil, List.replicate_succ, List.replicate_zero, List.cons_append, List.nil_append, Nat.reduceSub, Nat.reduceAdd, Nat.zero_add, true_and, and_true, decide_eq_true_eq, decide_eq_false_iff_not, Bool.not_eq_true', Bool.not_eq_false', forall_const, Bool.false_eq_true, Bool.true_eq_false, false_implies, true_implies, reduceCtorEq, Bool.not_true, Bool.not_false, wipeE, reduceIte, and_self, Option.some.injEq, exists_eq_left', exists_eq_left, List.getElem?_nil, List.length_map, S1.h1, S1.h2, src_left, src_cells]
    refine ⟨fun _ => ⟨fun hlt => ⟨fun hpos => ?_, fun hpos => ?_⟩, fun hge => ?_⟩, fun h0 => by omega⟩
    · cases cs1 with
      | nil => simp at hpos
      | cons c0 cs1 =>
        refine ⟨_, last_rev c0 cs1, ?_⟩
        have S2 := srcAt_pop S1
        simp only [ok_ok, ok_ret, ok_bnd, ok_when, ok_opt, ok_getO, ok_putO, ok_newO, ok_dVar, ok_dC, ok_aNil, ok_aCons, ok_dOp, ok_dUn, ok_dTup, ok_lLst, ok_dNew, ok_dIf, ok_dCall, ok_tVal, ok_asB, ok_tTru, ok_truth_bl, ok_truth_int, ok_truth_non, ok_truth_tup, ok_tYes, ok_tAnd, ok_tOr, ok_tNot, ok_dAnd, ok_dOr, ok_uNot, ok_dChain, ok_add_int, ok_add_tup, ok_add_str, ok_add_ref, ok_sub, ok_mul, ok_mul_lst, ok_mulT, ok_div, ok_mod, ok_pow, ok_shl, ok_shr, ok_band, ok_bor, ok_xor, ok_neg, ok_lt, ok_le, ok_gt, ok_ge, ok_asD, ok_eqD, ok_eq_int, ok_eq_str, ok_eq_bl, ok_eq_non, ok_eq_tup, ok_eq_ref, ok_eq_it, ok_eq_in, ok_eq_nt, ok_eq_ni, ok_ne_int, ok_ne_str, ok_ne_bl, ok_ne_non, ok_ne_tup, ok_ne_ref, ok_ne_it, ok_ne_in, ok_ne_nt, ok_ne_ni, ok_isN, ok_notN, ok_ix_tup, ok_ix_scr, ok_ix_ref, ok_pNone, ok_pSome, ok_dSl, ok_sl_tup, ok_sl_ref, ok_dRev, ok_rev_ref, ok_lRev, ok_one, ok_two, ok_abs, ok_bint, ok_bint_bl, ok_max2, ok_min2, ok_len_tup, ok_len_scr, ok_len_str, ok_len_ref, ok_btup_tup, ok_btup_scr, ok_btup_ref, ok_dL, ok_lThen, ok_dV, ok_lV, ok_dR, ok_items_tup, ok_items_scr, ok_items_ref, ok_itemsR_scr, ok_itemsR_ref, ok_lId, ok_nTup, ok_nLen, ok_nSum, ok_nAny, ok_nAll, ok_rg1, ok_asI, ok_rg2, ok_lRg, ok_dTupRg, ok_meth0, ok_meth1, ok_methL, ok_chkL, ok_append, ok_extend, ok_pop, ok_popO, ok_sOf, ok_srcOf_tup, ok_srcOf_scr, ok_srcOf_kt, ok_srcOf_ref, ok_sOfL, ok_sEnum, ok_enumOf_tup, ok_enumOf_ref, ok_sRange1, ok_sRange2, ok_gName, ok_gNil, ok_gCons, ok_gTup, oks_ok, oks_thn, oks_nx, oks_bk, oks_ct, oks_seq, oks_expr, oks_ret, oks_asg, oks_set, oks_par2, oks_par3, oks_if, oks_put, ok_setP, ok_putL, ok_fnOf, ok_dDict, ok_kNil, ok_kCons, ok_aStar, ok_star_tup, ok_star_ref, oks_for, ok_comp, scal_int, scal_str, scal_bl, scal_non, scal_tup, scal_ref, dat_int, dat_str, dat_bl, dat_non, dat_tup, ok_look, ok_store, ok_lookO_int, ok_lookO_str, ok_storeO_int, ok_storeO_str, ok_in, ok_notIn, List.getElem?_cons_zero, List.getElem?_cons_succ, List.set_cons_zero, List.set_cons_succ, List.length_cons, List.length_nil, List.map_cons, List.map_nil, List.replicate_succ, List.replicate_zero, List.cons_append, List.nil_append, Nat.reduceSub, Nat.reduceAdd, Nat.zero_add, true_and, and_true, decide_eq_true_eq, decide_eq_false_iff_not, Bool.not_eq_true', Bool.not_eq_false', forall_const, Bool.false_eq_true, Bool.true_eq_false, false_implies, true_implies, reduceCtorEq, Bool.not_true, Bool.not_false, wipeE, reduceIte, and_self, Option.some.injEq, exists_eq_left', exists_eq_left, List.getElem?_nil, List.length_map, S2.h1, put_left]
        exact ⟨szp, cs1.length, by simp, fr.setc.set2, by simpa using hl, c0, cs1, rfl, by rw [← hp, popC_lt _ _ _ (by omega)], S2.put _ _ _⟩
    · cases cs1 with
      | nil => rw [← hp]; exact ⟨fr, hl, S1⟩
      | cons c0 cs1 => simp at hpos
    · rw [← hp, popC_ge _ _ (by omega)]
      exact ⟨fr, hl, S1⟩
  · simp at hz
    exact Nat.lt_of_le_of_lt hz (by decide)
  · exact ⟨rfl, Fr.refl _ _, rfl, l, cs, rfl, rfl, S⟩
  · rintro f ρ m' ⟨rfl, rfl, fr, hl, S1⟩
    simp only [ok_ok, ok_ret, ok_bnd, ok_when, ok_opt, ok_getO, ok_putO, ok_newO, ok_dVar, ok_dC, ok_aNil, ok_aCons, ok_dOp, ok_dUn, ok_dTup, ok_lLst, ok_dNew, ok_dIf, ok_dCall, ok_tVal, ok_asB, ok_tTru, ok_truth_bl, ok_truth_int, ok_truth_non, ok_truth_tup, ok_tYes, ok_tAnd, ok_tOr, ok_tNot, ok_dAnd, ok_dOr, ok_uNot, ok_dChain, ok_add_int, ok_add_tup, ok_add_str, ok_add_ref, ok_sub, ok_mul, ok_mul_lst, ok_mulT, ok_div, ok_mod, ok_pow, ok_shl, ok_shr, ok_band, ok_bor, ok_xor, ok_neg, ok_lt, ok_le, ok_gt, ok_ge, ok_asD, ok_eqD, ok_eq_int, ok_eq_str, ok_eq_bl, ok_eq_non, ok_eq_tup, ok_eq_ref, ok_eq_it, ok_eq_in, ok_eq_nt, ok_eq_ni, ok_ne_int, ok_ne_str, ok_ne_bl, ok_ne_non, ok_ne_tup, ok_ne_ref, ok_ne_it, ok_ne_in, ok_ne_nt, ok_ne_ni, ok_isN, ok_notN, ok_ix_tup, ok_ix_scr, ok_ix_ref, ok_pNone, ok_pSome, ok_dSl, ok_sl_tup, ok_sl_ref, ok_dRev, ok_rev_ref, ok_lRev, ok_one, ok_two, ok_abs, ok_bint, ok_bint_bl, ok_max2, ok_min2, ok_len_tup, ok_len_scr, ok_len_str, ok_len_ref, ok_btup_tup, ok_btup_scr, ok_btup_ref, ok_dL, ok_lThen, ok_dV, ok_lV, ok_dR, ok_items_tup, ok_items_scr, ok_items_ref, ok_itemsR_scr, ok_itemsR_ref, ok_lId, ok_nTup, ok_nLen, ok_nSum, ok_nAny, ok_nAll, ok_rg1, ok_asI, ok_rg2, ok_lRg, ok_dTupRg, ok_meth0, ok_meth1, ok_methL, ok_chkL, ok_append, ok_extend, ok_pop, ok_popO, ok_sOf, ok_srcOf_tup, ok_srcOf_scr, ok_srcOf_kt, ok_srcOf_ref, ok_sOfL, ok_sEnum, ok_enumOf_tup, ok_enumOf_ref, ok_sRange1, ok_sRange2, ok_gName, ok_gNil, ok_gCons, ok_gTup, oks_ok, oks_thn, oks_nx, oks_bk, oks_ct, oks_seq, oks_expr, oks_ret, oks_asg, oks_set, oks_par2, oks_par3, oks_if, oks_put, ok_setP, ok_putL, ok_fnOf, ok_dDict, ok_kNil, ok_kCons, ok_aStar, ok_star_tup, ok_star_ref, oks_for, ok_comp, scal_int, scal_str, scal_bl, scal_non, scal_tup, scal_ref, dat_int, dat_str, dat_bl, dat_non, dat_tup, ok_look, ok_store, ok_lookO_int, ok_lookO_str, ok_storeO_int, ok_storeO_str, ok_in, ok_notIn, List.getElem?_cons_zero, List.getElem?_cons_succ, List.set_cons_zero, List.set_cons_succ, List.length_cons, List.length_nil, List.map_cons, List.map_nil, List.replicate_succ, List.replicate_zero, List.cons_append, List.nil_append, Nat.reduceSub, Nat.reduceAdd, Nat.zero_add, true_and, and_true, decide_eq_true_eq, decide_eq_false_iff_not, Bool.not_eq_true', Bool.not_eq_false', forall_const, Bool.false_eq_true, Bool.true_eq_false, false_implies, true_implies, reduceCtorEq, Bool.not_true, Bool.not_false, wipeE, reduceIte, and_self, Option.some.injEq, exists_eq_left', exists_eq_left, List.getElem?_nil, List.length_map, S1.h1, src_left, src_turn, put_left, put_turn, put_mixed, (S1.put _ _ _).h1, ((S1.put _ _ _).put _ _ _).h1, src_mixed]
    have e1 : (if k > 1 then k else 1) = k := if_pos (by omega)
    rw [e1]
    refine ⟨fun h0 => by omega, fun h0 => ⟨fun h1 => ⟨⟨by omega, hk⟩, szp, by omega, ?_⟩, fun h1 => ⟨szp, cMul_right (by decide), by decide, sq_ok (by decide) (by decide), cMul_right (by decide), by decide, szp, by decide, by omega, ?_⟩⟩⟩
    · rw [if_pos (by omega)]
      exact ⟨rfl, S1.put _ _ _, fr.set2, by simpa using hl⟩
    · rw [if_neg (by omega)]
      exact ⟨rfl, (S1.put _ _ _).put _ _ _, fr.set2.set2, by simpa using hl⟩
/-- if k < 2 nothing is taken -/
theorem pickA_few {m : Hm} {n c : Nat} {k l x t : Int} {cs : List Int} (S : SrcAt m n c l x t cs.reverse) (h2 : k < 2) : Ok (F_pickA [.ref n, .int k] m) fun p m' => Got n c 0 l x t cs m p m' := by
  unfold F_pickA D_pickA
  simp only [ok_ok, ok_ret, ok_bnd, ok_when, ok_opt, ok_getO, ok_putO, ok_newO, ok_dVar, ok_dC, ok_aNil, ok_aCons, ok_dOp, ok_dUn, ok_dTup, ok_lLst, ok_dNew, ok_dIf, ok_dCall, ok_tVal, ok_asB, ok_tTru, ok_truth_bl, ok_truth_int, ok_truth_non, ok_truth_tup, ok_tYes, ok_tAnd, ok_tOr, ok_tNot, ok_dAnd, ok_dOr, ok_uNot, ok_dChain, ok_add_int, ok_add_tup, ok_add_str, ok_add_ref, ok_sub, ok_mul, ok_mul_lst, ok_mulT, ok_div, ok_mod, ok_pow, ok_shl, ok_shr, ok_band, ok_bor, ok_xor, ok_neg, ok_lt, ok_le, ok_gt, ok_ge, ok_asD, ok_eqD, ok_eq_int, ok_eq_str, ok_eq_bl, ok_eq_non, ok_eq_tup, ok_eq_ref, ok_eq_it, ok_eq_in, ok_eq_nt, ok_eq_ni, ok_ne_int, ok_ne_str, ok_ne_bl, ok_ne_non, ok_ne_tup, ok_ne_ref, ok_ne_it, ok_ne_in, ok_ne_nt, ok_ne_ni, ok_isN, ok_notN, ok_ix_tup, ok_ix_scr, ok_ix_ref, ok_pNone, ok_pSome, ok_dSl, ok_sl_tup, ok_sl_ref, ok_dRev, ok_rev_ref, ok_lRev, ok_one, ok_two, ok_abs, ok_bint, ok_bint_bl, ok_max2, ok_min2, ok_len_tup, ok_len_scr, ok_len_str, ok_len_ref, ok_btup_tup, ok_btup_scr, ok_btup_ref, ok_dL, ok_lThen, ok_dV, ok_lV, ok_dR, ok_items_tup, ok_items_scr, ok_items_ref, ok_itemsR_scr, ok_itemsR_ref, ok_lId, ok_nTup, ok_nLen, ok_nSum, ok_nAny, ok_nAll, ok_rg1, ok_asI, ok_rg2, ok_lRg, ok_dTupRg, ok_meth0, ok_meth1, ok_methL, ok_chkL, ok_append, ok_extend, ok_pop, ok_popO, ok_sOf, ok_srcOf_tup, ok_srcOf_scr, ok_srcOf_kt, ok_srcOf_ref, ok_sOfL, ok_sEnum, ok_enumOf_tup, ok_enumOf_ref, ok_sRange1, ok_sRange2, ok_gName, ok_gNil, ok_gCons, ok_gTup, oks_ok, oks_thn, oks_nx, oks_bk, oks_ct, oks_seq, oks_expr, oks_ret, oks_asg, oks_set, oks_par2, oks_par3, oks_if, oks_put, ok_setP, ok_putL, ok_fnOf, ok_dDict, ok_kNil, ok_kCons, ok_aStar, ok_star_tup, ok_star_ref, oks_for, ok_comp, scal_int, scal_str, scal_bl, scal_non, scal_tup, scal_ref, dat_int, dat_str, dat_bl, dat_non, dat_tup, ok_look, ok_store, ok_lookO_int, ok_lookO_str, ok_storeO_int, ok_storeO_str, ok_in, ok_notIn, List.getElem?_cons_zero, List.getElem?_cons_succ, List.set_cons_zero, List.set_cons_succ, List.length_cons, List.length_nil, List.map_cons, List.map_nil, List.replicate_succ, List.replicate_zero, List.cons_append, List.nil_append, Nat.reduceSub, Nat.reduceAdd, Nat.zero_add, true_and, and_true, decide_eq_true_eq, decide_eq_false_iff_not, Bool.not_eq_true', Bool.not_eq_false', forall_const, Bool.false_eq_true, Bool.true_eq_false, false_implies, true_implies, reduceCtorEq, Bool.not_true, Bool.not_false, wipeE, reduceIte, and_self, Option.some.injEq, exists_eq_left', exists_eq_left, List.getElem?_nil, List.length_map]
  refine (while_inv (QF := fun f ρ m' => f = .nx ∧ ρ = [some (.ref n), some (.int k), none, none] ∧ m' = m) (fun j ρ m' => ρ = [some (.ref n), some (.int k), none, none] ∧ m' = m) ?_ FU 0 _ _ (by decide) ⟨rfl, rfl⟩).mono ?_
  · rintro j ρ m' ⟨rfl, rfl⟩
    simp only [ok_ok, ok_ret, ok_bnd, ok_when, ok_opt, ok_getO, ok_putO, ok_newO, ok_dVar, ok_dC, ok_aNil, ok_aCons, ok_dOp, ok_dUn, ok_dTup, ok_lLst, ok_dNew, ok_dIf, ok_dCall, ok_tVal, ok_asB, ok_tTru, ok_truth_bl, ok_truth_int, ok_truth_non, ok_truth_tup, ok_tYes, ok_tAnd, ok_tOr, ok_tNot, ok_dAnd, ok_dOr, ok_uNot, ok_dChain, ok_add_int, ok_add_tup, ok_add_str, ok_add_ref, ok_sub, ok_mul, ok_mul_lst, ok_mulT, ok_div, ok_mod, ok_pow, ok_shl, ok_shr, ok_band, ok_bor, ok_xor, ok_neg, ok_lt, ok_le, ok_gt, ok_ge, ok_asD, ok_eqD, ok_eq_int, ok_eq_str, ok_eq_bl, ok_eq_non, ok_eq_tup, ok_eq_ref, ok_eq_it, ok_eq_in, ok_eq_nt, ok_eq_ni, ok_ne_int, ok_ne_str, ok_ne_bl, ok_ne_non, ok_ne_tup, ok_ne_ref, ok_ne_it, ok_ne_in, ok_ne_nt, ok_ne_ni, ok_isN, ok_notN, ok_ix_tup, ok_ix_scr, ok_ix_ref, ok_pNone, ok_pSome, ok_dSl, ok_sl_tup, ok_sl_ref, ok_dRev, ok_rev_ref, ok_lRev, ok_one, ok_two, ok_abs, ok_bint, ok_bint_bl, ok_max2, ok_min2, ok_len_tup, ok_len_scr, ok_len_str, ok_len_ref, ok_btup_tup, ok_btup_scr, ok_btup_ref, ok_dL, ok_lThen, ok_dV, ok_lV, ok_dR, ok_items_tup, ok_items_scr, ok_items_ref, ok_itemsR_scr, ok_itemsR_ref, ok_lId, ok_nTup, ok_nLen, ok_nSum, ok_nAny, ok_nAll, ok_rg1, ok_asI, ok_rg2, ok_lRg, ok_dTupRg, ok_meth0, ok_meth1, ok_methL, ok_chkL, ok_append, ok_extend, ok_pop, ok_popO, ok_sOf, ok_srcOf_tup, ok_srcOf_scr, ok_srcOf_kt, ok_srcOf_ref, ok_sOfL, ok_sEnum, ok_enumOf_tup, ok_enumOf_ref, ok_sRange1, ok_sRange2, ok_gName, ok_gNil, ok_gCons, ok_gTup, oks_ok, oks_thn, oks_nx, oks_bk, oks_ct, oks_seq, oks_expr, oks_ret, oks_asg, oks_set, oks_par2, oks_par3, oks_if, oks_put, ok_setP, ok_putL, ok_fnOf, ok_dDict, ok_kNil, ok_kCons, ok_aStar, ok_star_tup, ok_star_ref, oks_for, ok_comp, scal_int, scal_str, scal_bl, scal_non, scal_tup, scal_ref, dat_int, dat_str, dat_bl, dat_non, dat_tup, ok_look, ok_store, ok_lookO_int, ok_lookO_str, ok_storeO_int, ok_storeO_str, ok_in, ok_notIn, List.getElem?_cons_zero, List.getElem?_cons_succ, List.set_cons_zero, List.set_cons_succ, List.length_cons, List.length_nil, List.map_cons, List.map_nil, List.replicate_succ, List.replicate_zero, List.cons_append, List.nil_append, Nat.reduceSub, Nat.reduceAdd, Nat.zero_add, true_and, and_true, decide_eq_true_eq, decide_eq_false_iff_not, Bool.not_eq_true', Bool.not_eq_false', forall_const, Bool.false_eq_true, Bool.true_eq_false, false_implies, true_implies, reduceCtorEq, Bool.not_true, Bool.not_false, wipeE, reduceIte, and_self, Option.some.injEq, exists_eq_left', exists_eq_left, List.getElem?_nil, List.length_map]
    exact ⟨fun h0 => by omega, fun _ => True.intro⟩
  · rintro f ρ m' ⟨rfl, rfl, rfl⟩
    simp only [ok_ok, ok_ret, ok_bnd, ok_when, ok_opt, ok_getO, ok_putO, ok_newO, ok_dVar, ok_dC, ok_aNil, ok_aCons, ok_dOp, ok_dUn, ok_dTup, ok_lLst, ok_dNew, ok_dIf, ok_dCall, ok_tVal, ok_asB, ok_tTru, ok_truth_bl, ok_truth_int, ok_truth_non, ok_truth_tup, ok_tYes, ok_tAnd, ok_tOr, ok_tNot, ok_dAnd, ok_dOr, ok_uNot, ok_dChain, ok_add_int, ok_add_tup, ok_add_str, ok_add_ref, ok_sub, ok_mul, ok_mul_lst, ok_mulT, ok_div, ok_mod, ok_pow, ok_shl, ok_shr, ok_band, ok_bor, ok_xor, ok_neg, ok_lt, ok_le, ok_gt, ok_ge, ok_asD, ok_eqD, ok_eq_int, ok_eq_str, ok_eq_bl, ok_eq_non, ok_eq_tup, ok_eq_ref, ok_eq_it, ok_eq_in, ok_eq_nt, ok_eq_ni, ok_ne_int, ok_ne_str, ok_ne_bl, ok_ne_non, ok_ne_tup, ok_ne_ref, ok_ne_it, ok_ne_in, ok_ne_nt, ok_ne_ni, ok_isN, ok_notN, ok_ix_tup, ok_ix_scr, ok_ix_ref, ok_pNone, ok_pSome, ok_dSl, ok_sl_tup, ok_sl_ref, ok_dRev, ok_rev_ref, ok_lRev, ok_one, ok_two, ok_abs, ok_bint, ok_bint_bl, ok_max2, ok_min2, ok_len_tup, ok_len_scr, ok_len_str, ok_len_ref, ok_btup_tup, ok_btup_scr, ok_btup_ref, ok_dL, ok_lThen, ok_dV, ok_lV, ok_dR, ok_items_tup, ok_items_scr, ok_items_ref, ok_itemsR_scr, ok_itemsR_ref, ok_lId, ok_nTup, ok_nLen, ok_nSum, ok_nAny, ok_nAll, ok_rg1, ok_asI, ok_rg2, ok_lRg, ok_dTupRg, ok_meth0, ok_meth1, ok_methL, ok_chkL, ok_append, ok_extend, ok_pop, ok_popO, ok_sOf, ok_srcOf_tup, ok_srcOf_scr, ok_srcOf_kt, ok_srcOf_ref, ok_sOfL, ok_sEnum, ok_enumOf_tup, ok_enumOf_ref, ok_sRange1, ok_sRange2, ok_gName, ok_gNil, ok_gCons, ok_gTup, oks_ok, oks_thn, oks_nx, oks_bk, oks_ct, oks_seq, oks_expr, oks_ret, oks_asg, oks_set, oks_par2, oks_par3, oks_if, oks_put, ok_setP, ok_putL, ok_fnOf, ok_dDict, ok_kNil, ok_kCons, ok_aStar, ok_star_tup, ok_star_ref, oks_for, ok_comp, scal_int, scal_str, scal_bl, scal_non, scal_tup, scal_ref, dat_int, dat_str, dat_bl, dat_non, dat_tup, ok_look, ok_store, ok_lookO_int, ok_lookO_str, ok_storeO_int, ok_storeO_str, ok_in, ok_notIn, List.getElem?_cons_zero, List.getElem?_cons_succ, List.set_cons_zero, List.set_cons_succ, List.length_cons, List.length_nil, List.map_cons, List.map_nil, List.replicate_succ, List.replicate_zero, List.cons_append, List.nil_append, Nat.reduceSub, Nat.reduceAdd, Nat.zero_add, true_and, and_true, decide_eq_true_eq, decide_eq_false_iff_not, Bool.not_eq_true', Bool.not_eq_false', forall_const, Bool.false_eq_true, Bool.true_eq_false, false_implies, true_implies, reduceCtorEq, Bool.not_true, Bool.not_false, wipeE, reduceIte, and_self, Option.some.injEq, exists_eq_left', exists_eq_left, List.getElem?_nil, List.length_map, S.h1, src_left, src_turn, put_left, put_turn, put_mixed, (S.put _ _ _).h1, ((S.put _ _ _).put _ _ _).h1, src_mixed]
    have e1 : (if k > 1 then k else 1) = 1 := if_neg (by omega)
    rw [e1]
    refine ⟨fun h0 => ⟨⟨by decide, by decide⟩, szp, by decide, ?_⟩, fun h0 => by omega⟩
    refine ⟨by rw [Int.emod_one], ?_, Fr.set2 (Fr.refl _ _), by simp⟩
    have := S.put (l / 1) x t
    rwa [Int.ediv_one] at this ⊢
/-- what a def that changes a source alone does -/
theorem src_sim {F : List P → M P} {cs cs' : List Int} {l x t l' x' t' r k : Int} {Z : Zs} {m : Hm} {ps : List P} (e : EE Z m (ps.map some) ([.src cs l x t, .w (.int k)].map some)) (h : ∀ c, SrcAt m (c + 1) c l x t cs.reverse → Ok (F [.ref (c + 1), .int k] m) (Got (c + 1) c r l' x' t' cs' m)) (hz : cs.length ≤ 63) : ∃ p m' Z', F ps m = .ok p m' ∧ EE Z' m' (ps.map some) ([.src cs' l' x' t', .w (.int k)].map some) ∧ URep Z' m' (.w (.int r)) p ∧ (∀ k', k' ∈ fp (.w (.int r)) p → ¬ own (ps.map some) ([.src cs' l' x' t', .w (.int k)].map some) k') ∧ Step Z m (own (ps.map some) ([.src cs l x t, .w (.int k)].map some)) Z' m' (fun k' => own (ps.map some) ([.src cs' l' x' t', .w (.int k)].map some) k' ∨ k' ∈ fp (.w (.int r)) p) := by
  have hl := e.len
  obtain ⟨p, hp, q⟩ := e.rep 0 _ rfl
  obtain ⟨p2, hp2, q2⟩ := e.rep 1 _ rfl
  simp only [URep, PRep] at q2
  subst q2
  obtain ⟨c, rfl, z1, z2, g1, g2⟩ := q
  have hps : ps = [.ref (c + 1), .int k] := by
    match ps, hl with
    | [a, b], _ => cases hp; cases hp2; rfl
  subst hps
  obtain ⟨p, m', e1, rfl, S, fr, hlen⟩ := (h c ⟨by omega, g1, g2, by simpa using hz⟩).ex
  have same : ∀ j, j < m.length → j ≠ c + 1 → j ≠ c → m'[j]? = m[j]? := fun j hj h1 h2 => by
    have := fr.2 j m[j] (by simp [h1, h2]) (by simp [hj])
    rw [this]
    simp [hj]
  obtain ⟨E1, S1⟩ := e.put (i := 0) (v' := .src cs' l' x' t') (m' := m') rfl rfl (by omega) (fun j hj hn => by
    simp only [fp, List.mem_cons, List.not_mem_nil, or_false, not_or, Nat.add_sub_cancel] at hn
    exact same j hj hn.1 hn.2) ⟨c, rfl, z1, z2, S.h1, S.h2⟩ fun j hj => .inl (by simpa [fp] using hj)
  refine ⟨.int r, m', Z, e1, E1, by simp only [URep, PRep], fun k x => by simp [fp] at x, S1.sub (fun _ x => x) fun j x => ?_⟩
  rcases x with x | x
  · exact .inl x
  · simp [fp] at x
theorem sim_pickB : SimFn F_pickB pickBV := fun Z m ps vs e => by
  unfold pickBV
  split
  · rename_i cs l x t k
    cases h2 : decide (k < 2) with
    | true =>
      dsimp only
      have h2 := of_decide_eq_true h2
      obtain ⟨p, hp, q⟩ := e.rep 0 _ rfl
      obtain ⟨p2, hp2, q2⟩ := e.rep 1 _ rfl
      simp only [URep, PRep] at q2
      subst q2
      have hl := e.len
      have hps : ps = [p, .int k] := by
        match ps, hl with
        | [a, b], _ => cases hp; cases hp2; rfl
      subst hps
      refine ⟨.int 0, m, Z, ?_, e, by simp only [URep, PRep], fun k x => by simp [fp] at x, (Step.refl _ _ _).sub (fun _ x => x) fun j x => ?_⟩
      · obtain ⟨q, m', h, rfl, rfl⟩ := (show Ok (F_pickB [p, .int k] m) fun q m' => q = .int 0 ∧ m' = m by
          unfold F_pickB D_pickB
          simp only [ok_ok, ok_ret, ok_bnd, ok_when, ok_opt, ok_getO, ok_putO, ok_newO, ok_dVar, ok_dC, ok_aNil, ok_aCons, ok_dOp, ok_dUn, ok_dTup, ok_lLst, ok_dNew, ok_dIf, ok_dCall, ok_tVal, ok_asB, ok_tTru, ok_truth_bl, ok_truth_int, ok_truth_non, ok_truth_tup, ok_tYes, ok_tAnd, ok_tOr, ok_tNot, ok_dAnd, ok_dOr, ok_uNot, ok_dChain, ok_add_int, ok_add_tup, ok_add_str, ok_add_ref, ok_sub, ok_mul, ok_mul_lst, ok_mulT, ok_div, ok_mod, ok_pow, ok_shl, ok_shr, ok_band, ok_bor, ok_xor, ok_neg, ok_lt, ok_le, ok_gt, ok_ge, ok_asD, ok_eqD, ok_eq_int, ok_eq_str, ok_eq_bl, ok_eq_non, ok_eq_tup, ok_eq_ref, ok_eq_it, ok_eq_in, ok_eq_nt, ok_eq_ni, ok_ne_int, ok_ne_str, ok_ne_bl, ok_ne_non, ok_ne_tup, ok_ne_ref, ok_ne_it, ok_ne_in, ok_ne_nt, ok_ne_ni, ok_isN, ok_notN, ok_ix_tup, ok_ix_scr, ok_ix_ref, ok_pNone, ok_pSome, ok_dSl, ok_sl_tup, ok_sl_ref, ok_dRev, ok_rev_ref, ok_lRev, ok_one, ok_two, ok_abs, ok_bint, ok_bint_bl, ok_max2, ok_min2, ok_len_tup, ok_len_scr, ok_len_str, ok_len_ref, ok_btup_tup, ok_btup_scr, ok_btup_ref, ok_dL, ok_lThen, ok_dV, ok_lV, ok_dR, ok_items_tup, ok_items_scr, ok_items_ref, ok_itemsR_scr, ok_itemsR_ref, ok_lId, ok_nTup, ok_nLen, ok_nSum, ok_nAny, ok_nAll, ok_rg1, ok_asI, ok_rg2, ok_lRg, ok_dTupRg, ok_meth0, ok_meth1, ok_methL, ok_chkL, ok_append, ok_extend, ok_pop, ok_popO, ok_sOf, ok_srcOf_tup, ok_srcOf_scr, ok_srcOf_kt, ok_srcOf_ref, ok_sOfL, ok_sEnum, ok_enumOf_tup, ok_enumOf_ref, ok_sRange1, ok_sRange2, ok_gName, ok_gNil, ok_gCons, ok_gTup, oks_ok, oks_thn, oks_nx, oks_bk, oks_ct, oks_seq, oks_expr, oks_ret, oks_asg, oks_set, oks_par2, oks_par3, oks_if, oks_put, ok_setP, ok_putL, ok_fnOf, ok_dDict, ok_kNil, ok_kCons, ok_aStar, ok_star_tup, ok_star_ref, oks_for, ok_comp, scal_int, scal_str, scal_bl, scal_non, scal_tup, scal_ref, dat_int, dat_str, dat_bl, dat_non, dat_tup, ok_look, ok_store, ok_lookO_int, ok_lookO_str, ok_storeO_int, ok_storeO_str, ok_in, ok_notIn, List.getElem?_cons_zero, List.getElem?_cons_succ, List.set_cons_zero, List.set_cons_succ, List.length_cons, List.length_nil, List.map_cons, List.map_nil, List.replicate_succ, List.replicate_zero, List.cons_append, List.nil_append, Nat.reduceSub, Nat.reduceAdd, Nat.zero_add, true_and, and_true, decide_eq_true_eq, decide_eq_false_iff_not, Bool.not_eq_true', Bool.not_eq_false', forall_const, Bool.false_eq_true, Bool.true_eq_false, false_implies, true_implies, reduceCtorEq, Bool.not_true, Bool.not_false, wipeE, reduceIte, and_self, Option.some.injEq, exists_eq_left', exists_eq_left, List.getElem?_nil, List.length_map]
          exact ⟨fun h0 => True.intro, fun h0 => by omega⟩).ex
        exact h
      · rcases x with x | x
        · exact .inl x
        · simp [fp] at x
    | false =>
      dsimp only
      have h2 := of_decide_eq_false h2
      cases h3 : decide (cs.length ≤ 63) && smK 18446744073709551615 k with
      | false => exact FnR.bad
      | true =>
        simp only [Bool.and_eq_true, decide_eq_true_eq, smK_iff] at h3
        have h3 : cs.length ≤ 63 ∧ k < 18446744073709551616 := ⟨h3.1, by omega⟩
        dsimp only
        by_cases h4 : 1 < (popC l cs).1
        · rw [decide_eq_true h4]
          exact src_sim e (fun c S => (pickB_at S h2 h3.2).mono fun p m' h => by rwa [if_pos h4] at h) h3.1
        · rw [decide_eq_false h4]
          exact src_sim e (fun c S => (pickB_at S h2 h3.2).mono fun p m' h => by rwa [if_neg h4] at h) h3.1
  · exact FnR.bad
theorem sim_pickA : SimFn F_pickA pickAV := fun Z m ps vs e => by
  unfold pickAV
  split
  · rename_i cs l x t k
    cases h3 : decide (cs.length ≤ 63) && smK 18446744073709551615 k with
    | false => exact FnR.bad
    | true =>
      simp only [Bool.and_eq_true, decide_eq_true_eq, smK_iff] at h3
      have h3 : cs.length ≤ 63 ∧ k < 18446744073709551616 := ⟨h3.1, by omega⟩
      dsimp only
      cases h2 : decide (k < 2) with
      | true => exact src_sim e (fun c S => pickA_few S (of_decide_eq_true h2)) h3.1
      | false =>
        have h2 := of_decide_eq_false h2
        dsimp only
        by_cases h4 : 1 < (popC l cs).1
        · rw [decide_eq_true h4]
          exact src_sim e (fun c S => (pickA_at S h2 h3.2).mono fun p m' h => by rwa [if_pos h4] at h) h3.1
        · rw [decide_eq_false h4]
          exact src_sim e (fun c S => (pickA_at S h2 h3.2).mono fun p m' h => by rwa [if_neg h4] at h) h3.1
  · exact FnR.bad
/-! ### a source is made -/
def stir (ns : List Int) : Int := ns.foldl (fun x c => (x * 69069 + c * 31 + 5) % 2147483629) 11
def intsL : List Wv → Option (List Int) := intsW
def srcV : List Uv → FRes
  | [.w (.scr ws)] => match intsW ws with
    | some ns => match decide (ns.length ≤ 63) with
      | true => .ok (.src (ns.map fun i => if i < 0 then -i else i) 1 (stir ns) 0) [.w (.scr ws)]
      | false => .bad
    | none => .bad
  | _ => .bad
theorem intsW_inv : ∀ {ws : List Wv} {l : List Int}, intsW ws = some l → ws = l.map .int
  | [], l, h => by cases h; rfl
  | w :: ws, l, h => by
    cases w with
    | int i =>
      unfold intsW at h
      cases q : intsW ws with
      | none => rw [q] at h; cases h
      | some l' => rw [q] at h; cases h; rw [intsW_inv q]; rfl
    | _ => cases h
theorem preps_ints {Z : Zs} {m : Hm} : ∀ {ns : List Int} {ps : List P}, PReps Z m (ns.map .int) ps → ps = ns.map .int
  | [], ps, h => preps_nil.mp h
  | n :: ns, [], h => absurd h preps_cons_nil
  | n :: ns, p :: ps, h => by
    obtain ⟨a, b⟩ := preps_cons.mp h
    simp only [PRep] at a
    rw [a, preps_ints b]
    rfl
theorem stir_snoc (l : List Int) (a : Int) : stir (l ++ [a]) = (stir l * 69069 + a * 31 + 5) % 2147483629 := by simp [stir]
theorem srcB_at (ns : List Int) (hn : ns.length ≤ 63) (m : Hm) : Ok (F_srcB [.scr (ns.map .int)] m) fun p m' => ∃ os c, p = .ref (c + 1) ∧ m' = m ++ os ∧ m.length ≤ c ∧ SrcAt m' (c + 1) c 1 (stir ns) 0 (ns.map fun i => if i < 0 then -i else i).reverse := by
  unfold F_srcB D_srcB
  simp only [ok_ok, ok_ret, ok_bnd, ok_when, ok_opt, ok_getO, ok_putO, ok_newO, ok_dVar, ok_dC, ok_aNil, ok_aCons, ok_dOp, ok_dUn, ok_dTup, ok_lLst, ok_dNew, ok_dIf, ok_dCall, ok_tVal, ok_asB, ok_tTru, ok_truth_bl, ok_truth_int, ok_truth_non, ok_truth_tup, ok_tYes, ok_tAnd, ok_tOr, ok_tNot, ok_dAnd, ok_dOr, ok_uNot, ok_dChain, ok_add_int, ok_add_tup, ok_add_str, ok_add_ref, ok_sub, ok_mul, ok_mul_lst, ok_mulT, ok_div, ok_mod, ok_pow, ok_shl, ok_shr, ok_band, ok_bor, ok_xor, ok_neg, ok_lt, ok_le, ok_gt, ok_ge, ok_asD, ok_eqD, ok_eq_int, ok_eq_str, ok_eq_bl, ok_eq_non, ok_eq_tup, ok_eq_ref, ok_eq_it, ok_eq_in, ok_eq_nt, ok_eq_ni, ok_ne_int, ok_ne_str, ok_ne_bl, ok_ne_non, ok_ne_tup, ok_ne_ref, ok_ne_it, ok_ne_in, ok_ne_nt, ok_ne_ni, ok_isN, ok_notN, ok_ix_tup, ok_ix_scr, ok_ix_ref, ok_pNone, ok_pSome, ok_dSl, ok_sl_tup, ok_sl_ref, ok_dRev, ok_rev_ref, ok_lRev, ok_one, ok_two, ok_abs, ok_bint, ok_bint_bl, ok_max2, ok_min2, ok_len_tup, ok_len_scr, ok_len_str, ok_len_ref, ok_btup_tup, ok_btup_scr, ok_btup_ref, ok_dL, ok_lThen, ok_dV, ok_lV, ok_dR, ok_items_tup, ok_items_scr, ok_items_ref, ok_itemsR_scr, ok_itemsR_ref, ok_lId, ok_nTup, ok_nLen, ok_nSum, ok_nAny, ok_nAll, ok_rg1, ok_asI, ok_rg2, ok_lRg, ok_dTupRg, ok_meth0, ok_meth1, ok_methL, ok_chkL, ok_append, ok_extend, ok_pop, ok_popO, ok_sOf, ok_srcOf_tup, ok_srcOf_scr, ok_srcOf_kt, ok_srcOf_ref, ok_sOfL, ok_sEnum, ok_enumOf_tup, ok_enumOf_ref, ok_sRange1, ok_sRange2, ok_gName, ok_gNil, ok_gCons, ok_gTup, oks_ok, oks_thn, oks_nx, oks_bk, oks_ct, oks_seq, oks_expr, oks_ret, oks_asg, oks_set, oks_par2, oks_par3, oks_if, oks_put, ok_setP, ok_putL, ok_fnOf, ok_dDict, ok_kNil, ok_kCons, ok_aStar, ok_star_tup, ok_star_ref, oks_for, ok_comp, scal_int, scal_str, scal_bl, scal_non, scal_tup, scal_ref, dat_int, dat_str, dat_bl, dat_non, dat_tup, ok_look, ok_store, ok_lookO_int, ok_lookO_str, ok_storeO_int, ok_storeO_str, ok_in, ok_notIn, List.getElem?_cons_zero, List.getElem?_cons_succ, List.set_cons_zero, List.set_cons_succ, List.length_cons, List.length_nil, List.map_cons, List.map_nil, List.replicate_succ, List.replicate_zero, List.cons_append, List.nil_append, Nat.reduceSub, Nat.reduceAdd, Nat.zero_add, true_and, and_true, decide_eq_true_eq, decide_eq_false_iff_not, Bool.not_eq_true', Bool.not_eq_false', forall_const, Bool.false_eq_true, Bool.true_eq_false, false_implies, true_implies, reduceCtorEq, Bool.not_true, Bool.not_false, wipeE, reduceIte, and_self, Option.some.injEq, exists_eq_left', exists_eq_left, List.getElem?_nil, List.length_map]
  refine (for_seq (QF := fun f ρ m' => f = .nx ∧ m' = m ∧ ∃ p, ρ = [some (.scr (ns.map .int)), some (.int (stir ns)), p, none]) (enc := P.int) rfl (fun done ρ m' => m' = m ∧ ∃ p, ρ = [some (.scr (ns.map .int)), some (.int (stir done)), p, none]) ?_ ?_ ?_).mono ?_
  · exact ⟨rfl, _, rfl⟩
  · rintro done a rest ρ m' e ⟨rfl, p, rfl⟩
    simp only [ok_ok, ok_ret, ok_bnd, ok_when, ok_opt, ok_getO, ok_putO, ok_newO, ok_dVar, ok_dC, ok_aNil, ok_aCons, ok_dOp, ok_dUn, ok_dTup, ok_lLst, ok_dNew, ok_dIf, ok_dCall, ok_tVal, ok_asB, ok_tTru, ok_truth_bl, ok_truth_int, ok_truth_non, ok_truth_tup, ok_tYes, ok_tAnd, ok_tOr, ok_tNot, ok_dAnd, ok_dOr, ok_uNot, ok_dChain, ok_add_int, ok_add_tup, ok_add_str, ok_add_ref, ok_sub, ok_mul, ok_mul_lst, ok_mulT, ok_div, ok_mod, ok_pow, ok_shl, ok_shr, ok_band, ok_bor, ok_xor, ok_neg, ok_lt, ok_le, ok_gt, ok_ge, ok_asD, ok_eqD, ok_eq_int, ok_eq_str, ok_eq_bl, ok_eq_non, ok_eq_tup, ok_eq_ref, ok_eq_it, ok_eq_in, ok_eq_nt, ok_eq_ni, ok_ne_int, ok_ne_str, ok_ne_bl, ok_ne_non, ok_ne_tup, ok_ne_ref, ok_ne_it, ok_ne_in, ok_ne_nt, ok_ne_ni, ok_isN, ok_notN, ok_ix_tup, ok_ix_scr, ok_ix_ref, ok_pNone, ok_pSome, ok_dSl, ok_sl_tup, ok_sl_ref, ok_dRev, ok_rev_ref, ok_lRev, ok_one, ok_two, ok_abs, ok_bint, ok_bint_bl, ok_max2, ok_min2, ok_len_tup, ok_len_scr, ok_len_str, ok_len_ref, ok_btup_tup, ok_btup_scr, ok_btup_ref, ok_dL, ok_lThen, ok_dV, ok_lV, ok_dR, ok_items_tup, ok_items_scr, ok_items_ref, ok_itemsR_scr, ok_itemsR_ref, ok_lId, ok_nTup, ok_nLen, ok_nSum, ok_nAny, ok_nAll, ok_rg1, ok_asI, ok_rg2, ok_lRg, ok_dTupRg, ok_meth0, ok_meth1, ok_methL, ok_chkL, ok_append, ok_extend, ok_pop, ok_popO, ok_sOf, ok_srcOf_tup, ok_srcOf_scr, ok_srcOf_kt, ok_srcOf_ref, ok_sOfL, ok_sEnum, ok_enumOf_tup, ok_enumOf_ref, ok_sRange1, ok_sRange2, ok_gName, ok_gNil, ok_gCons, ok_gTup, oks_ok, oks_thn, oks_nx, oks_bk, oks_ct, oks_seq, oks_expr, oks_ret, oks_asg, oks_set, oks_par2, oks_par3, oks_if, oks_put, ok_setP, ok_putL, ok_fnOf, ok_dDict, ok_kNil, ok_kCons, ok_aStar, ok_star_tup, ok_star_ref, oks_for, ok_comp, scal_int, scal_str, scal_bl, scal_non, scal_tup, scal_ref, dat_int, dat_str, dat_bl, dat_non, dat_tup, ok_look, ok_store, ok_lookO_int, ok_lookO_str, ok_storeO_int, ok_storeO_str, ok_in, ok_notIn, List.getElem?_cons_zero, List.getElem?_cons_succ, List.set_cons_zero, List.set_cons_succ, List.length_cons, List.length_nil, List.map_cons, List.map_nil, List.replicate_succ, List.replicate_zero, List.cons_append, List.nil_append, Nat.reduceSub, Nat.reduceAdd, Nat.zero_add, true_and, and_true, decide_eq_true_eq, decide_eq_false_iff_not, Bool.not_eq_true', Bool.not_eq_false', forall_const, Bool.false_eq_true, Bool.true_eq_false, false_implies, true_implies, reduceCtorEq, Bool.not_true, Bool.not_false, wipeE, reduceIte, and_self, Option.some.injEq, exists_eq_left', exists_eq_left, List.getElem?_nil, List.length_map, stir_snoc]
    exact ⟨cMul_right (by decide), cMul_right (by decide), by decide, _, rfl⟩
  · rintro ρ m' ⟨rfl, p, rfl⟩
    exact ⟨rfl, rfl, p, rfl⟩
  · rintro f ρ m' ⟨rfl, rfl, p, rfl⟩
    simp only [ok_ok, ok_ret, ok_bnd, ok_when, ok_opt, ok_getO, ok_putO, ok_newO, ok_dVar, ok_dC, ok_aNil, ok_aCons, ok_dOp, ok_dUn, ok_dTup, ok_lLst, ok_dNew, ok_dIf, ok_dCall, ok_tVal, ok_asB, ok_tTru, ok_truth_bl, ok_truth_int, ok_truth_non, ok_truth_tup, ok_tYes, ok_tAnd, ok_tOr, ok_tNot, ok_dAnd, ok_dOr, ok_uNot, ok_dChain, ok_add_int, ok_add_tup, ok_add_str, ok_add_ref, ok_sub, ok_mul, ok_mul_lst, ok_mulT, ok_div, ok_mod, ok_pow, ok_shl, ok_shr, ok_band, ok_bor, ok_xor, ok_neg, ok_lt, ok_le, ok_gt, ok_ge, ok_asD, ok_eqD, ok_eq_int, ok_eq_str, ok_eq_bl, ok_eq_non, ok_eq_tup, ok_eq_ref, ok_eq_it, ok_eq_in, ok_eq_nt, ok_eq_ni, ok_ne_int, ok_ne_str, ok_ne_bl, ok_ne_non, ok_ne_tup, ok_ne_ref, ok_ne_it, ok_ne_in, ok_ne_nt, ok_ne_ni, ok_isN, ok_notN, ok_ix_tup, ok_ix_scr, ok_ix_ref, ok_pNone, ok_pSome, ok_dSl, ok_sl_tup, ok_sl_ref, ok_dRev, ok_rev_ref, ok_lRev, ok_one, ok_two, ok_abs, ok_bint, ok_bint_bl, ok_max2, ok_min2, ok_len_tup, ok_len_scr, ok_len_str, ok_len_ref, ok_btup_tup, ok_btup_scr, ok_btup_ref, ok_dL, ok_lThen, ok_dV, ok_lV, ok_dR, ok_items_tup, ok_items_scr, ok_items_ref, ok_itemsR_scr, ok_itemsR_ref, ok_lId, ok_nTup, ok_nLen, ok_nSum, ok_nAny, ok_nAll, ok_rg1, ok_asI, ok_rg2, ok_lRg, ok_dTupRg, ok_meth0, ok_meth1, ok_methL, ok_chkL, ok_append, ok_extend, ok_pop, ok_popO, ok_sOf, ok_srcOf_tup, ok_srcOf_scr, ok_srcOf_kt, ok_srcOf_ref, ok_sOfL, ok_sEnum, ok_enumOf_tup, ok_enumOf_ref, ok_sRange1, ok_sRange2, ok_gName, ok_gNil, ok_gCons, ok_gTup, oks_ok, oks_thn, oks_nx, oks_bk, oks_ct, oks_seq, oks_expr, oks_ret, oks_asg, oks_set, oks_par2, oks_par3, oks_if, oks_put, ok_setP, ok_putL, ok_fnOf, ok_dDict, ok_kNil, ok_kCons, ok_aStar, ok_star_tup, ok_star_ref, oks_for, ok_comp, scal_int, scal_str, scal_bl, scal_non, scal_tup, scal_ref, dat_int, dat_str, dat_bl, dat_non, dat_tup, ok_look, ok_store, ok_lookO_int, ok_lookO_str, ok_storeO_int, ok_storeO_str, ok_in, ok_notIn, List.getElem?_cons_zero, List.getElem?_cons_succ, List.set_cons_zero, List.set_cons_succ, List.length_cons, List.length_nil, List.map_cons, List.map_nil, List.replicate_succ, List.replicate_zero, List.cons_append, List.nil_append, Nat.reduceSub, Nat.reduceAdd, Nat.zero_add, true_and, and_true, decide_eq_true_eq, decide_eq_false_iff_not, Bool.not_eq_true', Bool.not_eq_false', forall_const, Bool.false_eq_true, Bool.true_eq_false, false_implies, true_implies, reduceCtorEq, Bool.not_true, Bool.not_false, wipeE, reduceIte, and_self, Option.some.injEq, exists_eq_left', exists_eq_left, List.getElem?_nil, List.length_map]
    refine comp_seq (enc := P.int) rfl (by have : (16777216 : Nat) = SZ := rfl; omega) (fun done acc m1 => m1 = m' ∧ acc = (done.map fun i => P.int (if i < 0 then -i else i))) ⟨rfl, rfl⟩ ?_ ?_
    · rintro done a rest acc m1 e _ ⟨rfl, rfl⟩
      simp only [ok_ok, ok_ret, ok_bnd, ok_when, ok_opt, ok_getO, ok_putO, ok_newO, ok_dVar, ok_dC, ok_aNil, ok_aCons, ok_dOp, ok_dUn, ok_dTup, ok_lLst, ok_dNew, ok_dIf, ok_dCall, ok_tVal, ok_asB, ok_tTru, ok_truth_bl, ok_truth_int, ok_truth_non, ok_truth_tup, ok_tYes, ok_tAnd, ok_tOr, ok_tNot, ok_dAnd, ok_dOr, ok_uNot, ok_dChain, ok_add_int, ok_add_tup, ok_add_str, ok_add_ref, ok_sub, ok_mul, ok_mul_lst, ok_mulT, ok_div, ok_mod, ok_pow, ok_shl, ok_shr, ok_band, ok_bor, ok_xor, ok_neg, ok_lt, ok_le, ok_gt, ok_ge, ok_asD, ok_eqD, ok_eq_int, ok_eq_str, ok_eq_bl, ok_eq_non, ok_eq_tup, ok_eq_ref, ok_eq_it, ok_eq_in, ok_eq_nt, ok_eq_ni, ok_ne_int, ok_ne_str, ok_ne_bl, ok_ne_non, ok_ne_tup, ok_ne_ref, ok_ne_it, ok_ne_in, ok_ne_nt, ok_ne_ni, ok_isN, ok_notN, ok_ix_tup, ok_ix_scr, ok_ix_ref, ok_pNone, ok_pSome, ok_dSl, ok_sl_tup, ok_sl_ref, ok_dRev, ok_rev_ref, ok_lRev, ok_one, ok_two, ok_abs, ok_bint, ok_bint_bl, ok_max2, ok_min2, ok_len_tup, ok_len_scr, ok_len_str, ok_len_ref, ok_btup_tup, ok_btup_scr, ok_btup_ref, ok_dL, ok_lThen, ok_dV, ok_lV, ok_dR, ok_items_tup, ok_items_scr, ok_items_ref, ok_itemsR_scr, ok_itemsR_ref, ok_lId, ok_nTup, ok_nLen, ok_nSum, ok_nAny, ok_nAll, ok_rg1, ok_asI, ok_rg2, ok_lRg, ok_dTupRg, ok_meth0, ok_meth1, ok_methL, ok_chkL, ok_append, ok_extend, ok_pop, ok_popO, ok_sOf, ok_srcOf_tup, ok_srcOf_scr, ok_srcOf_kt, ok_srcOf_ref, ok_sOfL, ok_sEnum, ok_enumOf_tup, ok_enumOf_ref, ok_sRange1, ok_sRange2, ok_gName, ok_gNil, ok_gCons, ok_gTup, oks_ok, oks_thn, oks_nx, oks_bk, oks_ct, oks_seq, oks_expr, oks_ret, oks_asg, oks_set, oks_par2, oks_par3, oks_if, oks_put, ok_setP, ok_putL, ok_fnOf, ok_dDict, ok_kNil, ok_kCons, ok_aStar, ok_star_tup, ok_star_ref, oks_for, ok_comp, scal_int, scal_str, scal_bl, scal_non, scal_tup, scal_ref, dat_int, dat_str, dat_bl, dat_non, dat_tup, ok_look, ok_store, ok_lookO_int, ok_lookO_str, ok_storeO_int, ok_storeO_str, ok_in, ok_notIn, List.getElem?_cons_zero, List.getElem?_cons_succ, List.set_cons_zero, List.set_cons_succ, List.length_cons, List.length_nil, List.map_cons, List.map_nil, List.replicate_succ, List.replicate_zero, List.cons_append, List.nil_append, Nat.reduceSub, Nat.reduceAdd, Nat.zero_add, true_and, and_true, decide_eq_true_eq, decide_eq_false_iff_not, Bool.not_eq_true', Bool.not_eq_false', forall_const, Bool.false_eq_true, Bool.true_eq_false, false_implies, true_implies, reduceCtorEq, Bool.not_true, Bool.not_false, wipeE, reduceIte, and_self, Option.some.injEq, exists_eq_left', exists_eq_left, List.getElem?_nil, List.length_map]
      simp
    · rintro acc m1 _ ⟨rfl, rfl⟩
      simp only [ok_ok, ok_ret, ok_bnd, ok_when, ok_opt, ok_getO, ok_putO, ok_newO, ok_dVar, ok_dC, ok_aNil, ok_aCons, ok_dOp, ok_dUn, ok_dTup, ok_lLst, ok_dNew, ok_dIf, ok_dCall, ok_tVal, ok_asB, ok_tTru, ok_truth_bl, ok_truth_int, ok_truth_non, ok_truth_tup, ok_tYes, ok_tAnd, ok_tOr, ok_tNot, ok_dAnd, ok_dOr, ok_uNot, ok_dChain, ok_add_int, ok_add_tup, ok_add_str, ok_add_ref, ok_sub, ok_mul, ok_mul_lst, ok_mulT, ok_div, ok_mod, ok_pow, ok_shl, ok_shr, ok_band, ok_bor, ok_xor, ok_neg, ok_lt, ok_le, ok_gt, ok_ge, ok_asD, ok_eqD, ok_eq_int, ok_eq_str, ok_eq_bl, ok_eq_non, ok_eq_tup, ok_eq_ref, ok_eq_it, ok_eq_in, ok_eq_nt, ok_eq_ni, ok_ne_int, ok_ne_str, ok_ne_bl, ok_ne_non, ok_ne_tup, ok_ne_ref, ok_ne_it, ok_ne_in, ok_ne_nt, ok_ne_ni, ok_isN, ok_notN, ok_ix_tup, ok_ix_scr, ok_ix_ref, ok_pNone, ok_pSome, ok_dSl, ok_sl_tup, ok_sl_ref, ok_dRev, ok_rev_ref, ok_lRev, ok_one, ok_two, ok_abs, ok_bint, ok_bint_bl, ok_max2, ok_min2, ok_len_tup, ok_len_scr, ok_len_str, ok_len_ref, ok_btup_tup, ok_btup_scr, ok_btup_ref, ok_dL, ok_lThen, ok_dV, ok_lV, ok_dR, ok_items_tup, ok_items_scr, ok_items_ref, ok_itemsR_scr, ok_itemsR_ref, ok_lId, ok_nTup, ok_nLen, ok_nSum, ok_nAny, ok_nAll, ok_rg1, ok_asI, ok_rg2, ok_lRg, ok_dTupRg, ok_meth0, ok_meth1, ok_methL, ok_chkL, ok_append, ok_extend, ok_pop, ok_popO, ok_sOf, ok_srcOf_tup, ok_srcOf_scr, ok_srcOf_kt, ok_srcOf_ref, ok_sOfL, ok_sEnum, ok_enumOf_tup, ok_enumOf_ref, ok_sRange1, ok_sRange2, ok_gName, ok_gNil, ok_gCons, ok_gTup, oks_ok, oks_thn, oks_nx, oks_bk, oks_ct, oks_seq, oks_expr, oks_ret, oks_asg, oks_set, oks_par2, oks_par3, oks_if, oks_put, ok_setP, ok_putL, ok_fnOf, ok_dDict, ok_kNil, ok_kCons, ok_aStar, ok_star_tup, ok_star_ref, oks_for, ok_comp, scal_int, scal_str, scal_bl, scal_non, scal_tup, scal_ref, dat_int, dat_str, dat_bl, dat_non, dat_tup, ok_look, ok_store, ok_lookO_int, ok_lookO_str, ok_storeO_int, ok_storeO_str, ok_in, ok_notIn, List.getElem?_cons_zero, List.getElem?_cons_succ, List.set_cons_zero, List.set_cons_succ, List.length_cons, List.length_nil, List.map_cons, List.map_nil, List.replicate_succ, List.replicate_zero, List.cons_append, List.nil_append, Nat.reduceSub, Nat.reduceAdd, Nat.zero_add, true_and, and_true, decide_eq_true_eq, decide_eq_false_iff_not, Bool.not_eq_true', Bool.not_eq_false', forall_const, Bool.false_eq_true, Bool.true_eq_false, false_implies, true_implies, reduceCtorEq, Bool.not_true, Bool.not_false, wipeE, reduceIte, and_self, Option.some.injEq, exists_eq_left', exists_eq_left, List.getElem?_nil, List.length_map, new_get]
      refine ⟨srcD (m1.length + 1) 1 (stir ns) 0, by simp [mapO, keyed, keyOf], (by show 4 ≤ 15; omega), [.lst (ns.map fun i => P.int (if i < 0 then -i else i)), .lst (ns.map fun i => P.int (if i < 0 then -i else i)).reverse, .dK (srcD (m1.length + 1) 1 (stir ns) 0)], m1.length + 1, by simp, by simp [puts_src], by simp, ⟨by omega, ?_, ?_, by simpa using hn⟩⟩
      · rw [List.append_assoc, List.append_assoc, List.getElem?_append_right (by omega), show m1.length + 1 + 1 - m1.length = 2 by omega]
        simp [puts_src]
      · rw [List.getElem?_append_left (by simp), List.getElem?_append_right (by simp)]
        simp [Function.comp_def, List.map_reverse]
theorem srcA_at (ns : List Int) (hn : ns.length ≤ 63) (m : Hm) : Ok (F_srcA [.scr (ns.map .int)] m) fun p m' => ∃ os c, p = .ref (c + 1) ∧ m' = m ++ os ∧ m.length ≤ c ∧ SrcAt m' (c + 1) c 1 (stir ns) 0 (ns.map fun i => if i < 0 then -i else i).reverse := by
  unfold F_srcA D_srcA
  simp only [ok_ok, ok_ret, ok_bnd, ok_when, ok_opt, ok_getO, ok_putO, ok_newO, ok_dVar, ok_dC, ok_aNil, ok_aCons, ok_dOp, ok_dUn, ok_dTup, ok_lLst, ok_dNew, ok_dIf, ok_dCall, ok_tVal, ok_asB, ok_tTru, ok_truth_bl, ok_truth_int, ok_truth_non, ok_truth_tup, ok_tYes, ok_tAnd, ok_tOr, ok_tNot, ok_dAnd, ok_dOr, ok_uNot, ok_dChain, ok_add_int, ok_add_tup, ok_add_str, ok_add_ref, ok_sub, ok_mul, ok_mul_lst, ok_mulT, ok_div, ok_mod, ok_pow, ok_shl, ok_shr, ok_band, ok_bor, ok_xor, ok_neg, ok_lt, ok_le, ok_gt, ok_ge, ok_asD, ok_eqD, ok_eq_int, ok_eq_str, ok_eq_bl, ok_eq_non, ok_eq_tup, ok_eq_ref, ok_eq_it, ok_eq_in, ok_eq_nt, ok_eq_ni, ok_ne_int, ok_ne_str, ok_ne_bl, ok_ne_non, ok_ne_tup, ok_ne_ref, ok_ne_it, ok_ne_in, ok_ne_nt, ok_ne_ni, ok_isN, ok_notN, ok_ix_tup, ok_ix_scr, ok_ix_ref, ok_pNone, ok_pSome, ok_dSl, ok_sl_tup, ok_sl_ref, ok_dRev, ok_rev_ref, ok_lRev, ok_one, ok_two, ok_abs, ok_bint, ok_bint_bl, ok_max2, ok_min2, ok_len_tup, ok_len_scr, ok_len_str, ok_len_ref, ok_btup_tup, ok_btup_scr, ok_btup_ref, ok_dL, ok_lThen, ok_dV, ok_lV, ok_dR, ok_items_tup, ok_items_scr, ok_items_ref, ok_itemsR_scr, ok_itemsR_ref, ok_lId, ok_nTup, ok_nLen, ok_nSum, ok_nAny, ok_nAll, ok_rg1, ok_asI, ok_rg2, ok_lRg, ok_dTupRg, ok_meth0, ok_meth1, ok_methL, ok_chkL, ok_append, ok_extend, ok_pop, ok_popO, ok_sOf, ok_srcOf_tup, ok_srcOf_scr, ok_srcOf_kt, ok_srcOf_ref, ok_sOfL, ok_sEnum, ok_enumOf_tup, ok_enumOf_ref, ok_sRange1, ok_sRange2, ok_gName, ok_gNil, ok_gCons, ok_gTup, oks_ok, oks_thn, oks_nx, oks_bk, oks_ct, oks_seq, oks_expr, oks_ret, oks_asg, oks_set, oks_par2, oks_par3, oks_if, oks_put, ok_setP, ok_putL, ok_fnOf, ok_dDict, ok_kNil, ok_kCons, ok_aStar, ok_star_tup, ok_star_ref, oks_for, ok_comp, scal_int, scal_str, scal_bl, scal_non, scal_tup, scal_ref, dat_int, dat_str, dat_bl, dat_non, dat_tup, ok_look, ok_store, ok_lookO_int, ok_lookO_str, ok_storeO_int, ok_storeO_str, ok_in, ok_notIn, List.getElem?_cons_zero, List.getElem?_cons_succ, List.set_cons_zero, List.set_cons_succ, List.length_cons, List.length_nil, List.map_cons, List.map_nil, List.replicate_succ, List.replicate_zero, List.cons_append, List.nil_append, Nat.reduceSub, Nat.reduceAdd, Nat.zero_add, true_and, and_true, decide_eq_true_eq, decide_eq_false_iff_not, Bool.not_eq_true', Bool.not_eq_false', forall_const, Bool.false_eq_true, Bool.true_eq_false, false_implies, true_implies, reduceCtorEq, Bool.not_true, Bool.not_false, wipeE, reduceIte, and_self, Option.some.injEq, exists_eq_left', exists_eq_left, List.getElem?_nil, List.length_map]
  refine (for_seq (QF := fun f ρ m' => f = .nx ∧ m' = m ∧ ∃ p, ρ = [some (.scr (ns.map .int)), some (.int (stir ns)), p]) (enc := P.int) rfl (fun done ρ m' => m' = m ∧ ∃ p, ρ = [some (.scr (ns.map .int)), some (.int (stir done)), p]) ?_ ?_ ?_).mono ?_
  · exact ⟨rfl, _, rfl⟩
  · rintro done a rest ρ m' e ⟨rfl, p, rfl⟩
    simp only [ok_ok, ok_ret, ok_bnd, ok_when, ok_opt, ok_getO, ok_putO, ok_newO, ok_dVar, ok_dC, ok_aNil, ok_aCons, ok_dOp, ok_dUn, ok_dTup, ok_lLst, ok_dNew, ok_dIf, ok_dCall, ok_tVal, ok_asB, ok_tTru, ok_truth_bl, ok_truth_int, ok_truth_non, ok_truth_tup, ok_tYes, ok_tAnd, ok_tOr, ok_tNot, ok_dAnd, ok_dOr, ok_uNot, ok_dChain, ok_add_int, ok_add_tup, ok_add_str, ok_add_ref, ok_sub, ok_mul, ok_mul_lst, ok_mulT, ok_div, ok_mod, ok_pow, ok_shl, ok_shr, ok_band, ok_bor, ok_xor, ok_neg, ok_lt, ok_le, ok_gt, ok_ge, ok_asD, ok_eqD, ok_eq_int, ok_eq_str, ok_eq_bl, ok_eq_non, ok_eq_tup, ok_eq_ref, ok_eq_it, ok_eq_in, ok_eq_nt, ok_eq_ni, ok_ne_int, ok_ne_str, ok_ne_bl, ok_ne_non, ok_ne_tup, ok_ne_ref, ok_ne_it, ok_ne_in, ok_ne_nt, ok_ne_ni, ok_isN, ok_notN, ok_ix_tup, ok_ix_scr, ok_ix_ref, ok_pNone, ok_pSome, ok_dSl, ok_sl_tup, ok_sl_ref, ok_dRev, ok_rev_ref, ok_lRev, ok_one, ok_two, ok_abs, ok_bint, ok_bint_bl, ok_max2, ok_min2, ok_len_tup, ok_len_scr, ok_len_str, ok_len_ref, ok_btup_tup, ok_btup_scr, ok_btup_ref, ok_dL, ok_lThen, ok_dV, ok_lV, ok_dR, ok_items_tup, ok_items_scr, ok_items_ref, ok_itemsR_scr, ok_itemsR_ref, ok_lId, ok_nTup, ok_nLen, ok_nSum, ok_nAny, ok_nAll, ok_rg1, ok_asI, ok_rg2, ok_lRg, ok_dTupRg, ok_meth0, ok_meth1, ok_methL, ok_chkL, ok_append, ok_extend, ok_pop, ok_popO, ok_sOf, ok_srcOf_tup, ok_srcOf_scr, ok_srcOf_kt, ok_srcOf_ref, ok_sOfL, ok_sEnum, ok_enumOf_tup, ok_enumOf_ref, ok_sRange1, ok_sRange2, ok_gName, ok_gNil, ok_gCons, ok_gTup, oks_ok, oks_thn, oks_nx, oks_bk, oks_ct, oks_seq, oks_expr, oks_ret, oks_asg, oks_set, oks_par2, oks_par3, oks_if, oks_put, ok_setP, ok_putL, ok_fnOf, ok_dDict, ok_kNil, ok_kCons, ok_aStar, ok_star_tup, ok_star_ref, oks_for, ok_comp, scal_int, scal_str, scal_bl, scal_non, scal_tup, scal_ref, dat_int, dat_str, dat_bl, dat_non, dat_tup, ok_look, ok_store, ok_lookO_int, ok_lookO_str, ok_storeO_int, ok_storeO_str, ok_in, ok_notIn, List.getElem?_cons_zero, List.getElem?_cons_succ, List.set_cons_zero, List.set_cons_succ, List.length_cons, List.length_nil, List.map_cons, List.map_nil, List.replicate_succ, List.replicate_zero, List.cons_append, List.nil_append, Nat.reduceSub, Nat.reduceAdd, Nat.zero_add, true_and, and_true, decide_eq_true_eq, decide_eq_false_iff_not, Bool.not_eq_true', Bool.not_eq_false', forall_const, Bool.false_eq_true, Bool.true_eq_false, false_implies, true_implies, reduceCtorEq, Bool.not_true, Bool.not_false, wipeE, reduceIte, and_self, Option.some.injEq, exists_eq_left', exists_eq_left, List.getElem?_nil, List.length_map, stir_snoc]
    exact ⟨cMul_right (by decide), cMul_right (by decide), by decide, _, rfl⟩
  · rintro ρ m' ⟨rfl, p, rfl⟩
    exact ⟨rfl, rfl, p, rfl⟩
  · rintro f ρ m' ⟨rfl, rfl, p, rfl⟩
    simp only [ok_ok, ok_ret, ok_bnd, ok_when, ok_opt, ok_getO, ok_putO, ok_newO, ok_dVar, ok_dC, ok_aNil, ok_aCons, ok_dOp, ok_dUn, ok_dTup, ok_lLst, ok_dNew, ok_dIf, ok_dCall, ok_tVal, ok_asB, ok_tTru, ok_truth_bl, ok_truth_int, ok_truth_non, ok_truth_tup, ok_tYes, ok_tAnd, ok_tOr, ok_tNot, ok_dAnd, ok_dOr, ok_uNot, ok_dChain, ok_add_int, ok_add_tup, ok_add_str, ok_add_ref, ok_sub, ok_mul, ok_mul_lst, ok_mulT, ok_div, ok_mod, ok_pow, ok_shl, ok_shr, ok_band, ok_bor, ok_xor, ok_neg, ok_lt, ok_le, ok_gt, ok_ge, ok_asD, ok_eqD, ok_eq_int, ok_eq_str, ok_eq_bl, ok_eq_non, ok_eq_tup, ok_eq_ref, ok_eq_it, ok_eq_in, ok_eq_nt, ok_eq_ni, ok_ne_int, ok_ne_str, ok_ne_bl, ok_ne_non, ok_ne_tup, ok_ne_ref, ok_ne_it, ok_ne_in, ok_ne_nt, ok_ne_ni, ok_isN, ok_notN, ok_ix_tup, ok_ix_scr, ok_ix_ref, ok_pNone, ok_pSome, ok_dSl, ok_sl_tup, ok_sl_ref, ok_dRev, ok_rev_ref, ok_lRev, ok_one, ok_two, ok_abs, ok_bint, ok_bint_bl, ok_max2, ok_min2, ok_len_tup, ok_len_scr, ok_len_str, ok_len_ref, ok_btup_tup, ok_btup_scr, ok_btup_ref, ok_dL, ok_lThen, ok_dV, ok_lV, ok_dR, ok_items_tup, ok_items_scr, ok_items_ref, ok_itemsR_scr, ok_itemsR_ref, ok_lId, ok_nTup, ok_nLen, ok_nSum, ok_nAny, ok_nAll, ok_rg1, ok_asI, ok_rg2, ok_lRg, ok_dTupRg, ok_meth0, ok_meth1, ok_methL, ok_chkL, ok_append, ok_extend, ok_pop, ok_popO, ok_sOf, ok_srcOf_tup, ok_srcOf_scr, ok_srcOf_kt, ok_srcOf_ref, ok_sOfL, ok_sEnum, ok_enumOf_tup, ok_enumOf_ref, ok_sRange1, ok_sRange2, ok_gName, ok_gNil, ok_gCons, ok_gTup, oks_ok, oks_thn, oks_nx, oks_bk, oks_ct, oks_seq, oks_expr, oks_ret, oks_asg, oks_set, oks_par2, oks_par3, oks_if, oks_put, ok_setP, ok_putL, ok_fnOf, ok_dDict, ok_kNil, ok_kCons, ok_aStar, ok_star_tup, ok_star_ref, oks_for, ok_comp, scal_int, scal_str, scal_bl, scal_non, scal_tup, scal_ref, dat_int, dat_str, dat_bl, dat_non, dat_tup, ok_look, ok_store, ok_lookO_int, ok_lookO_str, ok_storeO_int, ok_storeO_str, ok_in, ok_notIn, List.getElem?_cons_zero, List.getElem?_cons_succ, List.set_cons_zero, List.set_cons_succ, List.length_cons, List.length_nil, List.map_cons, List.map_nil, List.replicate_succ, List.replicate_zero, List.cons_append, List.nil_append, Nat.reduceSub, Nat.reduceAdd, Nat.zero_add, true_and, and_true, decide_eq_true_eq, decide_eq_false_iff_not, Bool.not_eq_true', Bool.not_eq_false', forall_const, Bool.false_eq_true, Bool.true_eq_false, false_implies, true_implies, reduceCtorEq, Bool.not_true, Bool.not_false, wipeE, reduceIte, and_self, Option.some.injEq, exists_eq_left', exists_eq_left, List.getElem?_nil, List.length_map]
    refine comp_seq (enc := P.int) rfl (by have : (16777216 : Nat) = SZ := rfl; omega) (fun done acc m1 => m1 = m' ∧ acc = (done.map fun i => P.int (if i < 0 then -i else i))) ⟨rfl, rfl⟩ ?_ ?_
    · rintro done a rest acc m1 e _ ⟨rfl, rfl⟩
      simp only [ok_ok, ok_ret, ok_bnd, ok_when, ok_opt, ok_getO, ok_putO, ok_newO, ok_dVar, ok_dC, ok_aNil, ok_aCons, ok_dOp, ok_dUn, ok_dTup, ok_lLst, ok_dNew, ok_dIf, ok_dCall, ok_tVal, ok_asB, ok_tTru, ok_truth_bl, ok_truth_int, ok_truth_non, ok_truth_tup, ok_tYes, ok_tAnd, ok_tOr, ok_tNot, ok_dAnd, ok_dOr, ok_uNot, ok_dChain, ok_add_int, ok_add_tup, ok_add_str, ok_add_ref, ok_sub, ok_mul, ok_mul_lst, ok_mulT, ok_div, ok_mod, ok_pow, ok_shl, ok_shr, ok_band, ok_bor, ok_xor, ok_neg, ok_lt, ok_le, ok_gt, ok_ge, ok_asD, ok_eqD, ok_eq_int, ok_eq_str, ok_eq_bl, ok_eq_non, ok_eq_tup, ok_eq_ref, ok_eq_it, ok_eq_in, ok_eq_nt, ok_eq_ni, ok_ne_int, ok_ne_str, ok_ne_bl, ok_ne_non, ok_ne_tup, ok_ne_ref, ok_ne_it, ok_ne_in, ok_ne_nt, ok_ne_ni, ok_isN, ok_notN, ok_ix_tup, ok_ix_scr, ok_ix_ref, ok_pNone, ok_pSome, ok_dSl, ok_sl_tup, ok_sl_ref, ok_dRev, ok_rev_ref, ok_lRev, ok_one, ok_two, ok_abs, ok_bint, ok_bint_bl, ok_max2, ok_min2, ok_len_tup, ok_len_scr, ok_len_str, ok_len_ref, ok_btup_tup, ok_btup_scr, ok_btup_ref, ok_dL, ok_lThen, ok_dV, ok_lV, ok_dR, ok_items_tup, ok_items_scr, ok_items_ref, ok_itemsR_scr, ok_itemsR_ref, ok_lId, ok_nTup, ok_nLen, ok_nSum, ok_nAny, ok_nAll, ok_rg1, ok_asI, ok_rg2, ok_lRg, ok_dTupRg, ok_meth0, ok_meth1, ok_methL, ok_chkL, ok_append, ok_extend, ok_pop, ok_popO, ok_sOf, ok_srcOf_tup, ok_srcOf_scr, ok_srcOf_kt, ok_srcOf_ref, ok_sOfL, ok_sEnum, ok_enumOf_tup, ok_enumOf_ref, ok_sRange1, ok_sRange2, ok_gName, ok_gNil, ok_gCons, ok_gTup, oks_ok, oks_thn, oks_nx, oks_bk, oks_ct, oks_seq, oks_expr, oks_ret, oks_asg, oks_set, oks_par2, oks_par3, oks_if, oks_put, ok_setP, ok_putL, ok_fnOf, ok_dDict, ok_kNil, ok_kCons, ok_aStar, ok_star_tup, ok_star_ref, oks_for, ok_comp, scal_int, scal_str, scal_bl, scal_non, scal_tup, scal_ref, dat_int, dat_str, dat_bl, dat_non, dat_tup, ok_look, ok_store, ok_lookO_int, ok_lookO_str, ok_storeO_int, ok_storeO_str, ok_in, ok_notIn, List.getElem?_cons_zero, List.getElem?_cons_succ, List.set_cons_zero, List.set_cons_succ, List.length_cons, List.length_nil, List.map_cons, List.map_nil, List.replicate_succ, List.replicate_zero, List.cons_append, List.nil_append, Nat.reduceSub, Nat.reduceAdd, Nat.zero_add, true_and, and_true, decide_eq_true_eq, decide_eq_false_iff_not, Bool.not_eq_true', Bool.not_eq_false', forall_const, Bool.false_eq_true, Bool.true_eq_false, false_implies, true_implies, reduceCtorEq, Bool.not_true, Bool.not_false, wipeE, reduceIte, and_self, Option.some.injEq, exists_eq_left', exists_eq_left, List.getElem?_nil, List.length_map]
      simp
    · rintro acc m1 _ ⟨rfl, rfl⟩
      refine ⟨srcD m1.length 1 (stir ns) 0, by simp [mapO, keyed, keyOf], (by show 4 ≤ 15; omega), [.lst (ns.map fun i => P.int (if i < 0 then -i else i)).reverse, .dK (srcD m1.length 1 (stir ns) 0)], m1.length, by simp, by simp [puts_src], by simp, ⟨by omega, ?_, ?_, by simpa using hn⟩⟩
      · simp [puts_src, List.getElem?_append_right]
      · rw [List.getElem?_append_left (by simp), List.getElem?_append_right (by simp)]
        simp [Function.comp_def, List.map_reverse]
theorem sim_src {F : List P → M P} (h : ∀ (ns : List Int), ns.length ≤ 63 → ∀ m : Hm, Ok (F [.scr (ns.map .int)] m) fun p m' => ∃ os c, p = .ref (c + 1) ∧ m' = m ++ os ∧ m.length ≤ c ∧ SrcAt m' (c + 1) c 1 (stir ns) 0 (ns.map fun i => if i < 0 then -i else i).reverse) : SimFn F srcV := fun Z m ps vs e => by
  unfold srcV
  split
  · rename_i ws
    cases q : intsW ws with
    | none => exact FnR.bad
    | some ns =>
      have hw := intsW_inv q
      subst hw
      dsimp only
      cases hd : decide (ns.length ≤ 63) with
      | false => exact FnR.bad
      | true =>
        obtain ⟨p, hp, hq⟩ := e.rep 0 _ rfl
        simp only [URep, PRep] at hq
        obtain ⟨qs, rfl, hq⟩ := hq
        have := preps_ints hq
        subst this
        have hl := e.len
        have hps : ps = [.scr (ns.map .int)] := by
          match ps, hl with
          | [a], _ => cases hp; rfl
        subst hps
        obtain ⟨p, m', e1, os, c, rfl, rfl, hc, S⟩ := (h ns (of_decide_eq_true hd) m).ex
        have hs : ∀ k, k < m.length → (m ++ os)[k]? = m[k]? := fun k hk => List.getElem?_append_left hk
        have K : Keep Z m Z (m ++ os) := ⟨fun _ z => z, fun k z => hs k (e.zlt k z)⟩
        have no : ∀ k, ¬ own ([P.scr (ns.map .int)].map some) ([Uv.w (.scr (ns.map .int))].map some) k := fun k ⟨i, v, p, h1, h2, h3⟩ => by
          cases i with
          | zero => cases h1; simp [fp] at h3
          | succ i => simp at h1
        have z1 : ¬ Z (c + 1) := fun z => by have := e.zlt _ z; omega
        have z2 : ¬ Z c := fun z => by have := e.zlt _ z; omega
        refine ⟨.ref (c + 1), m ++ os, Z, e1, e.keep K (fun k z => by have := e.zlt k z; simp; omega) fun k o => absurd o (no k), ⟨c, rfl, z1, z2, S.h1, S.h2⟩, fun k _ => no k, by simp, fun k hk _ => hs k hk, fun _ z => z, fun _ z => .inl z, fun k x => ?_⟩
        rcases x with x | x
        · exact absurd x (no k)
        · simp [fp] at x
          omega
  · exact FnR.bad
theorem sim_srcB : SimFn F_srcB srcV := sim_src srcB_at
theorem sim_srcA : SimFn F_srcA srcV := sim_src srcA_at
end G

namespace K_k27
open PySem (Str)
open G
def V_lefts : uS :=
    (uSeq (uSet 2 (uNew (uLst lNil)))
    (uSeq (uDr (uFor (usEnum (uVar 0)) (ugTup 2 (ugCons (ugName 3) (ugCons (ugName 4) ugNil))) (uDr (uSeq (uDr (uSet 5 (uFr (uOp (b2 addU) (oV 3) (oD (uC (.int 1)))))) [3])
    (uSeq (uIfS (utAnd (uTru (oD (uOp (b2 bandU) (oV 4) (oD (uC (.int 1)))))) (uVal (uOp (b2 (eqU false)) (oV 1) (oV 5)))) (uExpr (uApp 2 (uTup (lCons (uVar 5) (lCons (uTup lNil) lNil))))) uNx)
    (uSeq (uIfS (utAnd (uTru (oD (uOp (b2 bandU) (oV 4) (oD (uC (.int 2)))))) (uVal (uOp (b2 gtU) (oV 1) (oV 5)))) (uExpr (uApp 2 (uTup (lCons (uVar 5) (lCons (uTup (lCons (uOp (b2 subU) (oV 1) (oV 5)) lNil)) lNil))))) uNx)
    (uDr (uIfS (uTru (oD (uOp (b2 bandU) (oV 4) (oD (uC (.int 4)))))) (uDr (uExpr (uExt 2 (uComp (usR2 (oD (uC (.int 1))) (oD (uOp (b2 addU) (oD (uOp (b2 divU) (oD (uOp (b2 subU) (oV 1) (oV 5))) (oD (uC (.int 2))))) (oD (uC (.int 1)))))) (ugName 6) utYes (uTup (lCons (uVar 5) (lCons (uTup (lCons (uVar 6) (lCons (uOp (b2 subU) (oD (uOp (b2 subU) (oV 1) (oV 5))) (oV 6)) lNil))) lNil))) [6]))) [5]) uNx) [4, 5])))) [3, 4, 5])) [0, 1, 3, 4, 5])
    (uRet (uL1 tupW (uLV sortW (oV 2))))))
theorem sv_lefts : SimS ([2] ++ ((([3] ++ ([4] ++ [])) ++ ([5] ++ (([] ++ []) ++ (([] ++ []) ++ ([] ++ []))))) ++ [])) (D_lefts ) (V_lefts ) :=
    (simS_seq (simS_set 2 (simD_new (simL_lst simL_nil)))
    (simS_seq (simS_dr (L := [0, 1, 3, 4, 5]) (simS_for (simSrc_enum (simD_var 0)) (simG_tup (simGs_cons (simG_name 3) (simGs_cons (simG_name 4) simGs_nil))) (simS_dr (L := [3, 4, 5]) (simS_seq (simS_dr (L := [3]) (simS_set 5 (simD_fr (simD_op bs_add (simO_v 3) (simO_d (simD_c (plain_int _)))))))
    (simS_seq (simS_if (simT_and (simT_tru (simO_d (simD_op cs_band.b (simO_v 4) (simO_d (simD_c (plain_int _)))))) (simT_val (simD_op cs_eq.b (simO_v 1) (simO_v 5)))) (simS_expr (simD_app 2 (simD_tup (simL_cons (simD_var 5) (simL_cons (simD_tup simL_nil) simL_nil))))) simS_nx)
    (simS_seq (simS_if (simT_and (simT_tru (simO_d (simD_op cs_band.b (simO_v 4) (simO_d (simD_c (plain_int _)))))) (simT_val (simD_op cs_gt.b (simO_v 1) (simO_v 5)))) (simS_expr (simD_app 2 (simD_tup (simL_cons (simD_var 5) (simL_cons (simD_tup (simL_cons (simD_op cs_sub.b (simO_v 1) (simO_v 5)) simL_nil)) simL_nil))))) simS_nx)
    (simS_dr (L := [4, 5]) (simS_if (simT_tru (simO_d (simD_op cs_band.b (simO_v 4) (simO_d (simD_c (plain_int _)))))) (simS_dr (L := [5]) (simS_expr (simD_ext 2 (simL_comp (simSrc_r2 (simO_d (simD_c (plain_int _))) (simO_d (simD_op bs_add (simO_d (simD_op cs_div.b (simO_d (simD_op cs_sub.b (simO_v 1) (simO_v 5))) (simO_d (simD_c (plain_int _))))) (simO_d (simD_c (plain_int _)))))) (simG_name 6) (by decide) simT_yes (simD_tup (simL_cons (simD_var 5) (simL_cons (simD_tup (simL_cons (simD_var 6) (simL_cons (simD_op cs_sub.b (simO_d (simD_op cs_sub.b (simO_v 1) (simO_v 5))) (simO_v 6)) simL_nil))) simL_nil))))))) simS_nx))))))))
    (simS_ret (simD_L ns_tup (simL_V ls_sort (simO_v 2))))))
@[irreducible] def U_lefts : List Uv → FRes := uFn 2 7 [] (V_lefts )
theorem su_lefts : SimFn F_lefts U_lefts := by rw [F_lefts, U_lefts]; exact simFn_of (sv_lefts ) (by decide)
def V_added : uS :=
    (uSeq (uSet 1 (uC (.int 0)))
    (uSeq (uDr (uFor (usOf (uVar 0)) (ugName 2) (uDr (uDr (uSet 1 (uOp (b2 bxorU) (oV 1) (oV 2))) [2]) [2])) [0, 2])
    (uRet (uMov 1))))
theorem sv_added : SimS ([1] ++ (([2] ++ [1]) ++ [])) (D_added ) (V_added ) :=
    (simS_seq (simS_set 1 (simD_c (plain_int _)))
    (simS_seq (simS_dr (L := [0, 2]) (simS_for (simSrc_of (simD_var 0)) (simG_name 2) (simS_dr (L := [2]) (simS_dr (L := [2]) (simS_set 1 (simD_op cs_bxor.b (simO_v 1) (simO_v 2)))))))
    (simS_ret (simD_mov 1))))
@[irreducible] def U_added : List Uv → FRes := uFn 1 3 [] (V_added )
theorem su_added : SimFn F_added U_added := by rw [F_added, U_added]; exact simFn_of (sv_added ) (by decide)
def V_least_missing : uS :=
    (uSeq (uDr (uSet 1 (uFr (uNew (uLV sortW (oV 0))))) [0])
    (uSeq (uSet 2 (uC (.int 0)))
    (uSeq (uDr (uFor (usOf (uVar 1)) (ugName 3) (uDr (uDr (uIfS (uVal (uOp (b2 (eqU false)) (oV 3) (oV 2))) (uSet 2 (uFr (uOp (b2 addU) (oV 2) (oD (uC (.int 1)))))) uNx) [3]) [3])) [1, 3])
    (uRet (uMov 2)))))
theorem sv_least_missing : SimS ([1] ++ ([2] ++ (([3] ++ ([2] ++ [])) ++ []))) (D_least_missing ) (V_least_missing ) :=
    (simS_seq (simS_dr (L := [0]) (simS_set 1 (simD_fr (simD_new (simL_V ls_sort (simO_v 0))))))
    (simS_seq (simS_set 2 (simD_c (plain_int _)))
    (simS_seq (simS_dr (L := [1, 3]) (simS_for (simSrc_of (simD_var 1)) (simG_name 3) (simS_dr (L := [3]) (simS_dr (L := [3]) (simS_if (simT_val (simD_op cs_eq.b (simO_v 3) (simO_v 2))) (simS_set 2 (simD_fr (simD_op bs_add (simO_v 2) (simO_d (simD_c (plain_int _)))))) simS_nx)))))
    (simS_ret (simD_mov 2)))))
@[irreducible] def U_least_missing : List Uv → FRes := uFn 1 4 [] (V_least_missing )
theorem su_least_missing : SimFn F_least_missing U_least_missing := by rw [F_least_missing, U_least_missing]; exact simFn_of (sv_least_missing ) (by decide)
def V_worths (c_lefts c_added c_least_missing : List Uv → FRes) : uS :=
    (uSeq (uSet 2 (uNew (uLst lNil)))
    (uSeq (uDr (uFor (usR1 (oD (uOp (b2 addU) (oV 1) (oD (uC (.int 1)))))) (ugName 3) (uDr (uDr (uExpr (uApp 2 (uCall c_least_missing (uaCons (oD (uFr (uNew (uComp (usOf (uCall c_lefts (uaCons (oD (uVar 0)) (uaCons (oD (uVar 3)) uaNil)))) (ugTup 2 (ugCons (ugName 4) (ugCons (ugName 5) ugNil))) utYes (uCall c_added (uaCons (oD (uFr (uNew (uComp (usOf (uVar 5)) (ugName 6) utYes (uOp (b2 ixU) (oV 2) (oV 6)) [6])))) uaNil)) [4, 5])))) uaNil)))) [3]) [3])) [0, 1, 3])
    (uRet (uB (b1 tupU) (uaCons (oV 2) uaNil)))))
theorem sv_worths {d_lefts : List P → M P} {c_lefts : List Uv → FRes} (h_lefts : SimFn d_lefts c_lefts) {d_added : List P → M P} {c_added : List Uv → FRes} (h_added : SimFn d_added c_added) {d_least_missing : List P → M P} {c_least_missing : List Uv → FRes} (h_least_missing : SimFn d_least_missing c_least_missing) : SimS ([2] ++ (([3] ++ []) ++ [])) (D_worths d_lefts d_added d_least_missing) (V_worths c_lefts c_added c_least_missing) :=
    (simS_seq (simS_set 2 (simD_new (simL_lst simL_nil)))
    (simS_seq (simS_dr (L := [0, 1, 3]) (simS_for (simSrc_r1 (simO_d (simD_op bs_add (simO_v 1) (simO_d (simD_c (plain_int _)))))) (simG_name 3) (simS_dr (L := [3]) (simS_dr (L := [3]) (simS_expr (simD_app 2 (simD_call h_least_missing (sl_d sl_nil) (by decide) (simA_cons (simO_d (simD_fr (simD_new (simL_comp (simSrc_of (simD_call h_lefts (sl_d (sl_d sl_nil)) (by decide) (simA_cons (simO_d (simD_var 0)) (simA_cons (simO_d (simD_var 3)) simA_nil)))) (simG_tup (simGs_cons (simG_name 4) (simGs_cons (simG_name 5) simGs_nil))) (by decide) simT_yes (simD_call h_added (sl_d sl_nil) (by decide) (simA_cons (simO_d (simD_fr (simD_new (simL_comp (simSrc_of (simD_var 5)) (simG_name 6) (by decide) simT_yes (simD_op bs_ix (simO_v 2) (simO_v 6)))))) simA_nil)))))) simA_nil))))))))
    (simS_ret (simD_B bs_tup (simA_cons (simO_v 2) simA_nil)))))
@[irreducible] def U_worths : List Uv → FRes := uFn 2 7 [] (V_worths U_lefts U_added U_least_missing)
theorem su_worths : SimFn F_worths U_worths := by rw [F_worths, U_worths]; exact simFn_of (sv_worths su_lefts su_added su_least_missing) (by decide)
def V_moves (c_lefts : List Uv → FRes) : uS :=
    (uSeq (uSet 2 (uNew (uLst lNil)))
    (uSeq (uDr (uFor (usEnum (uVar 1)) (ugTup 2 (ugCons (ugName 3) (ugCons (ugName 4) ugNil))) (uDr (uDr (uExpr (uExt 2 (uComp (usOf (uCall c_lefts (uaCons (oD (uVar 0)) (uaCons (oD (uVar 4)) uaNil)))) (ugTup 2 (ugCons (ugName 5) (ugCons (ugName 6) ugNil))) utYes (uTup (lCons (uVar 3) (lCons (uVar 5) (lCons (uVar 6) lNil)))) [5, 6]))) [3, 4]) [3, 4])) [0, 1, 3, 4])
    (uRet (uB (b1 tupU) (uaCons (oV 2) uaNil)))))
theorem sv_moves {d_lefts : List P → M P} {c_lefts : List Uv → FRes} (h_lefts : SimFn d_lefts c_lefts) : SimS ([2] ++ ((([3] ++ ([4] ++ [])) ++ []) ++ [])) (D_moves d_lefts) (V_moves c_lefts) :=
    (simS_seq (simS_set 2 (simD_new (simL_lst simL_nil)))
    (simS_seq (simS_dr (L := [0, 1, 3, 4]) (simS_for (simSrc_enum (simD_var 1)) (simG_tup (simGs_cons (simG_name 3) (simGs_cons (simG_name 4) simGs_nil))) (simS_dr (L := [3, 4]) (simS_dr (L := [3, 4]) (simS_expr (simD_ext 2 (simL_comp (simSrc_of (simD_call h_lefts (sl_d (sl_d sl_nil)) (by decide) (simA_cons (simO_d (simD_var 0)) (simA_cons (simO_d (simD_var 4)) simA_nil)))) (simG_tup (simGs_cons (simG_name 5) (simGs_cons (simG_name 6) simGs_nil))) (by decide) simT_yes (simD_tup (simL_cons (simD_var 3) (simL_cons (simD_var 5) (simL_cons (simD_var 6) simL_nil)))))))))))
    (simS_ret (simD_B bs_tup (simA_cons (simO_v 2) simA_nil)))))
@[irreducible] def U_moves : List Uv → FRes := uFn 2 7 [] (V_moves U_lefts)
theorem su_moves : SimFn F_moves U_moves := by rw [F_moves, U_moves]; exact simFn_of (sv_moves su_lefts) (by decide)
def V_first_wins (c_added c_worths : List Uv → FRes) : uS :=
    (uSeq (uDr (uSet 2 (uFr (uCall c_worths (uaCons (oD (uVar 0)) (uaCons (oD (uUn (overU maxW) (oD (uOp (b2 addU) (oV 1) (oD (uTup (lCons (uC (.int 0)) lNil))))))) uaNil))))) [0])
    (uRet (uOp (b2 (eqU true)) (oD (uCall c_added (uaCons (oD (uFr (uNew (uComp (usOf (uVar 1)) (ugName 3) utYes (uOp (b2 ixU) (oV 2) (oV 3)) [3])))) uaNil))) (oD (uC (.int 0))))))
theorem sv_first_wins {d_added : List P → M P} {c_added : List Uv → FRes} (h_added : SimFn d_added c_added) {d_worths : List P → M P} {c_worths : List Uv → FRes} (h_worths : SimFn d_worths c_worths) : SimS ([2] ++ []) (D_first_wins d_added d_worths) (V_first_wins c_added c_worths) :=
    (simS_seq (simS_dr (L := [0]) (simS_set 2 (simD_fr (simD_call h_worths (sl_d (sl_d sl_nil)) (by decide) (simA_cons (simO_d (simD_var 0)) (simA_cons (simO_d (simD_V ns_max (simO_d (simD_op bs_add (simO_v 1) (simO_d (simD_tup (simL_cons (simD_c (plain_int _)) simL_nil))))))) simA_nil))))))
    (simS_ret (simD_op cs_ne.b (simO_d (simD_call h_added (sl_d sl_nil) (by decide) (simA_cons (simO_d (simD_fr (simD_new (simL_comp (simSrc_of (simD_var 1)) (simG_name 3) (by decide) simT_yes (simD_op bs_ix (simO_v 2) (simO_v 3)))))) simA_nil))) (simO_d (simD_c (plain_int _))))))
@[irreducible] def U_first_wins : List Uv → FRes := uFn 2 4 [] (V_first_wins U_added U_worths)
theorem su_first_wins : SimFn F_first_wins U_first_wins := by rw [F_first_wins, U_first_wins]; exact simFn_of (sv_first_wins su_added su_worths) (by decide)
def V_winning_moves (c_added c_worths c_moves : List Uv → FRes) : uS :=
    (uSeq (uSet 2 (uFr (uCall c_worths (uaCons (oD (uVar 0)) (uaCons (oD (uUn (overU maxW) (oD (uOp (b2 addU) (oV 1) (oD (uTup (lCons (uC (.int 0)) lNil))))))) uaNil)))))
    (uSeq (uSet 3 (uFr (uCall c_added (uaCons (oD (uFr (uNew (uComp (usOf (uVar 1)) (ugName 8) utYes (uOp (b2 ixU) (oV 2) (oV 8)) [8])))) uaNil))))
    (uSeq (uSet 4 (uNew (uLst lNil)))
    (uSeq (uDr (uFor (usOf (uCall c_moves (uaCons (oD (uVar 0)) (uaCons (oD (uVar 1)) uaNil)))) (ugTup 3 (ugCons (ugName 5) (ugCons (ugName 6) (ugCons (ugName 7) ugNil)))) (uDr (uDr (uIfS (uVal (uOp (b2 (eqU false)) (oD (uOp (b2 bxorU) (oD (uOp (b2 bxorU) (oV 3) (oD (uOp (b2 ixU) (oV 2) (oD (uOp (b2 ixU) (oV 1) (oV 5))))))) (oD (uCall c_added (uaCons (oD (uFr (uNew (uComp (usOf (uVar 7)) (ugName 9) utYes (uOp (b2 ixU) (oV 2) (oV 9)) [9])))) uaNil))))) (oD (uC (.int 0))))) (uDr (uExpr (uApp 4 (uTup (lCons (uVar 5) (lCons (uVar 6) (lCons (uVar 7) lNil)))))) [5, 6, 7]) uNx) [5, 6, 7]) [5, 6, 7])) [0, 1, 2, 3, 5, 6, 7])
    (uRet (uB (b1 tupU) (uaCons (oV 4) uaNil)))))))
theorem sv_winning_moves {d_added : List P → M P} {c_added : List Uv → FRes} (h_added : SimFn d_added c_added) {d_worths : List P → M P} {c_worths : List Uv → FRes} (h_worths : SimFn d_worths c_worths) {d_moves : List P → M P} {c_moves : List Uv → FRes} (h_moves : SimFn d_moves c_moves) : SimS ([2] ++ ([3] ++ ([4] ++ ((([5] ++ ([6] ++ ([7] ++ []))) ++ ([] ++ [])) ++ [])))) (D_winning_moves d_added d_worths d_moves) (V_winning_moves c_added c_worths c_moves) :=
    (simS_seq (simS_set 2 (simD_fr (simD_call h_worths (sl_d (sl_d sl_nil)) (by decide) (simA_cons (simO_d (simD_var 0)) (simA_cons (simO_d (simD_V ns_max (simO_d (simD_op bs_add (simO_v 1) (simO_d (simD_tup (simL_cons (simD_c (plain_int _)) simL_nil))))))) simA_nil)))))
    (simS_seq (simS_set 3 (simD_fr (simD_call h_added (sl_d sl_nil) (by decide) (simA_cons (simO_d (simD_fr (simD_new (simL_comp (simSrc_of (simD_var 1)) (simG_name 8) (by decide) simT_yes (simD_op bs_ix (simO_v 2) (simO_v 8)))))) simA_nil))))
    (simS_seq (simS_set 4 (simD_new (simL_lst simL_nil)))
    (simS_seq (simS_dr (L := [0, 1, 2, 3, 5, 6, 7]) (simS_for (simSrc_of (simD_call h_moves (sl_d (sl_d sl_nil)) (by decide) (simA_cons (simO_d (simD_var 0)) (simA_cons (simO_d (simD_var 1)) simA_nil)))) (simG_tup (simGs_cons (simG_name 5) (simGs_cons (simG_name 6) (simGs_cons (simG_name 7) simGs_nil)))) (simS_dr (L := [5, 6, 7]) (simS_dr (L := [5, 6, 7]) (simS_if (simT_val (simD_op cs_eq.b (simO_d (simD_op cs_bxor.b (simO_d (simD_op cs_bxor.b (simO_v 3) (simO_d (simD_op bs_ix (simO_v 2) (simO_d (simD_op bs_ix (simO_v 1) (simO_v 5))))))) (simO_d (simD_call h_added (sl_d sl_nil) (by decide) (simA_cons (simO_d (simD_fr (simD_new (simL_comp (simSrc_of (simD_var 7)) (simG_name 9) (by decide) simT_yes (simD_op bs_ix (simO_v 2) (simO_v 9)))))) simA_nil))))) (simO_d (simD_c (plain_int _))))) (simS_dr (L := [5, 6, 7]) (simS_expr (simD_app 4 (simD_tup (simL_cons (simD_var 5) (simL_cons (simD_var 6) (simL_cons (simD_var 7) simL_nil))))))) simS_nx)))))
    (simS_ret (simD_B bs_tup (simA_cons (simO_v 4) simA_nil)))))))
@[irreducible] def U_winning_moves : List Uv → FRes := uFn 2 10 [] (V_winning_moves U_added U_worths U_moves)
theorem su_winning_moves : SimFn F_winning_moves U_winning_moves := by rw [F_winning_moves, U_winning_moves]; exact simFn_of (sv_winning_moves su_added su_worths su_moves) (by decide)
abbrev U__law_open_cells : List Uv → FRes := srcV
theorem su__law_open_cells : SimFn F__law_open_cells U__law_open_cells := by
  have e : F__law_open_cells = F_srcB := by unfold F__law_open_cells D__law_open_cells F_srcB D_srcB; rfl
  rw [e]; exact sim_srcB
abbrev U__law_pick : List Uv → FRes := pickBV
theorem su__law_pick : SimFn F__law_pick U__law_pick := by
  have e : F__law_pick = F_pickB := by unfold F__law_pick D__law_pick F_pickB D_pickB; rfl
  rw [e]; exact sim_pickB
def V__law_draw_code (c__law_pick : List Uv → FRes) : uS :=
    (uSeq (uSet 1 (uFr (uOp (b2 addU) (oD (uC (.int 1))) (oD (uCall c__law_pick (uaCons (oV 0) (uaCons (oD (uC (.int 5))) uaNil)))))))
    (uSeq (uSet 2 (uFr (uCall c__law_pick (uaCons (oV 0) (uaCons (oD (uC (.int 3))) uaNil)))))
    (uSeq (uDr (uSet 3 (uNew (uComp (usR1 (oV 1)) (ugName 4) utYes (uIf (uVal (uOp (b2 (eqU false)) (oV 2) (oD (uC (.int 0))))) (uCall c__law_pick (uaCons (oV 0) (uaCons (oD (uC (.int 4))) uaNil))) (uCall c__law_pick (uaCons (oV 0) (uaCons (oD (uC (.int 8))) uaNil)))) [4]))) [1, 2])
    (uSeq (uPut 3 (uUn (b1 negU) (oD (uC (.int 1)))) (uIf (uVal (uOp (b2 gtU) (oD (uOp (b2 ixU) (oV 3) (oD (uUn (b1 negU) (oD (uC (.int 1))))))) (oD (uC (.int 0))))) (uOp (b2 ixU) (oV 3) (oD (uUn (b1 negU) (oD (uC (.int 1)))))) (uOp (b2 addU) (oD (uC (.int 1))) (oD (uCall c__law_pick (uaCons (oV 0) (uaCons (oD (uC (.int 7))) uaNil)))))))
    (uRet (uB (b1 tupU) (uaCons (oV 3) uaNil)))))))
theorem sv__law_draw_code {d__law_pick : List P → M P} {c__law_pick : List Uv → FRes} (h__law_pick : SimFn d__law_pick c__law_pick) : SimS ([1] ++ ([2] ++ ([3] ++ ([] ++ [])))) (D__law_draw_code d__law_pick) (V__law_draw_code c__law_pick) :=
    (simS_seq (simS_set 1 (simD_fr (simD_op bs_add (simO_d (simD_c (plain_int _))) (simO_d (simD_call h__law_pick (sl_v (sl_d sl_nil)) (by decide) (simA_cons (simO_v 0) (simA_cons (simO_d (simD_c (plain_int _))) simA_nil)))))))
    (simS_seq (simS_set 2 (simD_fr (simD_call h__law_pick (sl_v (sl_d sl_nil)) (by decide) (simA_cons (simO_v 0) (simA_cons (simO_d (simD_c (plain_int _))) simA_nil)))))
    (simS_seq (simS_dr (L := [1, 2]) (simS_set 3 (simD_new (simL_comp (simSrc_r1 (simO_v 1)) (simG_name 4) (by decide) simT_yes (simD_if (simT_val (simD_op cs_eq.b (simO_v 2) (simO_d (simD_c (plain_int _))))) (simD_call h__law_pick (sl_v (sl_d sl_nil)) (by decide) (simA_cons (simO_v 0) (simA_cons (simO_d (simD_c (plain_int _))) simA_nil))) (simD_call h__law_pick (sl_v (sl_d sl_nil)) (by decide) (simA_cons (simO_v 0) (simA_cons (simO_d (simD_c (plain_int _))) simA_nil))))))))
    (simS_seq (simS_put 3 (simD_un bs_neg (simO_d (simD_c (plain_int _)))) (simD_if (simT_val (simD_op cs_gt.b (simO_d (simD_op bs_ix (simO_v 3) (simO_d (simD_un bs_neg (simO_d (simD_c (plain_int _))))))) (simO_d (simD_c (plain_int _))))) (simD_op bs_ix (simO_v 3) (simO_d (simD_un bs_neg (simO_d (simD_c (plain_int _)))))) (simD_op bs_add (simO_d (simD_c (plain_int _))) (simO_d (simD_call h__law_pick (sl_v (sl_d sl_nil)) (by decide) (simA_cons (simO_v 0) (simA_cons (simO_d (simD_c (plain_int _))) simA_nil)))))))
    (simS_ret (simD_B bs_tup (simA_cons (simO_v 3) simA_nil)))))))
@[irreducible] def U__law_draw_code : List Uv → FRes := uFn 1 5 [0] (V__law_draw_code U__law_pick)
theorem su__law_draw_code : SimFn F__law_draw_code U__law_draw_code := by rw [F__law_draw_code, U__law_draw_code]; exact simFn_of (sv__law_draw_code su__law_pick) (by decide)
def V__law_lefts : uS :=
    (uSeq (uSet 2 (uFr (uNew (uLst lNil))))
    (uSeq (uDr (uFor (usR2 (oD (uC (.int 1))) (oD (uOp (b2 addU) (oD (uB (b2 min2U) (uaCons (oV 1) (uaCons (oD (uB (b1 lenU) (uaCons (oV 0) uaNil))) uaNil)))) (oD (uC (.int 1)))))) (ugName 3) (uDr (uSeq (uAsg (uTup (lCons (uOp (b2 ixU) (oV 0) (oD (uOp (b2 subU) (oV 3) (oD (uC (.int 1)))))) (lCons (uOp (b2 subU) (oV 1) (oV 3)) lNil))) (ugTup 2 (ugCons (ugName 4) (ugCons (ugName 5) ugNil))))
    (uSeq (uIfS (utAnd (uVal (uOp (b2 (eqU false)) (oD (uOp (b2 modU) (oV 4) (oD (uC (.int 2))))) (oD (uC (.int 1))))) (uVal (uOp (b2 (eqU false)) (oV 5) (oD (uC (.int 0)))))) (uSet 2 (uFr (uOp (b2 addU) (oV 2) (oD (uNew (uLst (lCons (uTup (lCons (uVar 3) (lCons (uTup lNil) lNil))) lNil))))))) uNx)
    (uSeq (uIfS (utAnd (uVal (uOp (b2 (eqU false)) (oD (uOp (b2 modU) (oD (uOp (b2 divU) (oV 4) (oD (uC (.int 2))))) (oD (uC (.int 2))))) (oD (uC (.int 1))))) (uVal (uOp (b2 gtU) (oV 5) (oD (uC (.int 0)))))) (uSet 2 (uFr (uOp (b2 addU) (oV 2) (oD (uNew (uLst (lCons (uTup (lCons (uVar 3) (lCons (uTup (lCons (uVar 5) lNil)) lNil))) lNil))))))) uNx)
    (uDr (uIfS (uVal (uOp (b2 (eqU false)) (oD (uOp (b2 divU) (oV 4) (oD (uC (.int 4))))) (oD (uC (.int 1))))) (uDr (uSet 2 (uFr (uOp (b2 addU) (oV 2) (oD (uNew (uComp (usR2 (oD (uC (.int 1))) (oV 5)) (ugName 6) (uVal (uOp (b2 leU) (oV 6) (oD (uOp (b2 subU) (oV 5) (oV 6))))) (uTup (lCons (uVar 3) (lCons (uTup (lCons (uVar 6) (lCons (uOp (b2 subU) (oV 5) (oV 6)) lNil))) lNil))) [6])))))) [3, 5]) uNx) [3, 4, 5])))) [3, 4, 5])) [0, 1, 3, 4, 5])
    (uRet (uNew (uLV sortW (oV 2))))))
theorem sv__law_lefts : SimS ([2] ++ (([3] ++ (([4] ++ ([5] ++ [])) ++ (([2] ++ []) ++ (([2] ++ []) ++ ([2] ++ []))))) ++ [])) (D__law_lefts ) (V__law_lefts ) :=
    (simS_seq (simS_set 2 (simD_fr (simD_new (simL_lst simL_nil))))
    (simS_seq (simS_dr (L := [0, 1, 3, 4, 5]) (simS_for (simSrc_r2 (simO_d (simD_c (plain_int _))) (simO_d (simD_op bs_add (simO_d (simD_B cs_min2.b (simA_cons (simO_v 1) (simA_cons (simO_d (simD_B bs_len (simA_cons (simO_v 0) simA_nil))) simA_nil)))) (simO_d (simD_c (plain_int _)))))) (simG_name 3) (simS_dr (L := [3, 4, 5]) (simS_seq (simS_asg (simD_tup (simL_cons (simD_op bs_ix (simO_v 0) (simO_d (simD_op cs_sub.b (simO_v 3) (simO_d (simD_c (plain_int _)))))) (simL_cons (simD_op cs_sub.b (simO_v 1) (simO_v 3)) simL_nil))) (simG_tup (simGs_cons (simG_name 4) (simGs_cons (simG_name 5) simGs_nil))))
    (simS_seq (simS_if (simT_and (simT_val (simD_op cs_eq.b (simO_d (simD_op cs_mod.b (simO_v 4) (simO_d (simD_c (plain_int _))))) (simO_d (simD_c (plain_int _))))) (simT_val (simD_op cs_eq.b (simO_v 5) (simO_d (simD_c (plain_int _)))))) (simS_set 2 (simD_fr (simD_op bs_add (simO_v 2) (simO_d (simD_new (simL_lst (simL_cons (simD_tup (simL_cons (simD_var 3) (simL_cons (simD_tup simL_nil) simL_nil))) simL_nil))))))) simS_nx)
    (simS_seq (simS_if (simT_and (simT_val (simD_op cs_eq.b (simO_d (simD_op cs_mod.b (simO_d (simD_op cs_div.b (simO_v 4) (simO_d (simD_c (plain_int _))))) (simO_d (simD_c (plain_int _))))) (simO_d (simD_c (plain_int _))))) (simT_val (simD_op cs_gt.b (simO_v 5) (simO_d (simD_c (plain_int _)))))) (simS_set 2 (simD_fr (simD_op bs_add (simO_v 2) (simO_d (simD_new (simL_lst (simL_cons (simD_tup (simL_cons (simD_var 3) (simL_cons (simD_tup (simL_cons (simD_var 5) simL_nil)) simL_nil))) simL_nil))))))) simS_nx)
    (simS_dr (L := [3, 4, 5]) (simS_if (simT_val (simD_op cs_eq.b (simO_d (simD_op cs_div.b (simO_v 4) (simO_d (simD_c (plain_int _))))) (simO_d (simD_c (plain_int _))))) (simS_dr (L := [3, 5]) (simS_set 2 (simD_fr (simD_op bs_add (simO_v 2) (simO_d (simD_new (simL_comp (simSrc_r2 (simO_d (simD_c (plain_int _))) (simO_v 5)) (simG_name 6) (by decide) (simT_val (simD_op cs_le.b (simO_v 6) (simO_d (simD_op cs_sub.b (simO_v 5) (simO_v 6))))) (simD_tup (simL_cons (simD_var 3) (simL_cons (simD_tup (simL_cons (simD_var 6) (simL_cons (simD_op cs_sub.b (simO_v 5) (simO_v 6)) simL_nil))) simL_nil)))))))))) simS_nx))))))))
    (simS_ret (simD_new (simL_V ls_sort (simO_v 2))))))
@[irreducible] def U__law_lefts : List Uv → FRes := uFn 2 7 [] (V__law_lefts )
theorem su__law_lefts : SimFn F__law_lefts U__law_lefts := by rw [F__law_lefts, U__law_lefts]; exact simFn_of (sv__law_lefts ) (by decide)
def V__law_added : uS :=
    (uSeq (uSet 1 (uC (.int 0)))
    (uSeq (uDr (uFor (usR1 (oD (uC (.int 12)))) (ugName 2) (uDr (uDr (uSet 1 (uFr (uOp (b2 addU) (oV 1) (oD (uOp (b2 mulU) (oD (uOp (b2 shlU) (oD (uC (.int 1))) (oV 2))) (oD (uOp (b2 modU) (oD (uL1 sumW (uComp (usOf (uVar 0)) (ugName 3) utYes (uOp (b2 modU) (oD (uOp (b2 divU) (oV 3) (oD (uOp (b2 shlU) (oD (uC (.int 1))) (oV 2))))) (oD (uC (.int 2)))) [3]))) (oD (uC (.int 2)))))))))) [2]) [2])) [0, 2])
    (uRet (uMov 1))))
theorem sv__law_added : SimS ([1] ++ (([2] ++ [1]) ++ [])) (D__law_added ) (V__law_added ) :=
    (simS_seq (simS_set 1 (simD_c (plain_int _)))
    (simS_seq (simS_dr (L := [0, 2]) (simS_for (simSrc_r1 (simO_d (simD_c (plain_int _)))) (simG_name 2) (simS_dr (L := [2]) (simS_dr (L := [2]) (simS_set 1 (simD_fr (simD_op bs_add (simO_v 1) (simO_d (simD_op bs_mul (simO_d (simD_op cs_shl.b (simO_d (simD_c (plain_int _))) (simO_v 2))) (simO_d (simD_op cs_mod.b (simO_d (simD_L ns_sum (simL_comp (simSrc_of (simD_var 0)) (simG_name 3) (by decide) simT_yes (simD_op cs_mod.b (simO_d (simD_op cs_div.b (simO_v 3) (simO_d (simD_op cs_shl.b (simO_d (simD_c (plain_int _))) (simO_v 2))))) (simO_d (simD_c (plain_int _))))))) (simO_d (simD_c (plain_int _))))))))))))))
    (simS_ret (simD_mov 1))))
@[irreducible] def U__law_added : List Uv → FRes := uFn 1 4 [] (V__law_added )
theorem su__law_added : SimFn F__law_added U__law_added := by rw [F__law_added, U__law_added]; exact simFn_of (sv__law_added ) (by decide)
def V__law_worths (c__law_lefts c__law_added : List Uv → FRes) : uS :=
    (uSeq (uSet 2 (uNew (uLst lNil)))
    (uSeq (uDr (uFor (usR1 (oD (uOp (b2 addU) (oV 1) (oD (uC (.int 1)))))) (ugName 3) (uDr (uSeq (uDr (uPar2 4 5 (uaCons (oD (uFr (uNew (uComp (usOf (uCall c__law_lefts (uaCons (oD (uVar 0)) (uaCons (oD (uVar 3)) uaNil)))) (ugTup 2 (ugCons (ugName 6) (ugCons (ugName 7) ugNil))) utYes (uCall c__law_added (uaCons (oD (uFr (uNew (uComp (usOf (uVar 7)) (ugName 8) utYes (uOp (b2 ixU) (oV 2) (oV 8)) [8])))) uaNil)) [6, 7])))) (uaCons (oD (uC (.int 0))) uaNil))) [3])
    (uSeq (uDr (uWhile (uVal (uOp (b2 inU) (oV 5) (oV 4))) (uSet 5 (uFr (uOp (b2 addU) (oV 5) (oD (uC (.int 1)))))) FU) [4])
    (uDr (uExpr (uApp 2 (uVar 5))) [5]))) [3, 4, 5])) [0, 1, 3, 4, 5])
    (uRet (uMov 2))))
theorem sv__law_worths {d__law_lefts : List P → M P} {c__law_lefts : List Uv → FRes} (h__law_lefts : SimFn d__law_lefts c__law_lefts) {d__law_added : List P → M P} {c__law_added : List Uv → FRes} (h__law_added : SimFn d__law_added c__law_added) : SimS ([2] ++ (([3] ++ ([4, 5] ++ ([5] ++ []))) ++ [])) (D__law_worths d__law_lefts d__law_added) (V__law_worths c__law_lefts c__law_added) :=
    (simS_seq (simS_set 2 (simD_new (simL_lst simL_nil)))
    (simS_seq (simS_dr (L := [0, 1, 3, 4, 5]) (simS_for (simSrc_r1 (simO_d (simD_op bs_add (simO_v 1) (simO_d (simD_c (plain_int _)))))) (simG_name 3) (simS_dr (L := [3, 4, 5]) (simS_seq (simS_dr (L := [3]) (simS_par2 4 5 (simA_cons (simO_d (simD_fr (simD_new (simL_comp (simSrc_of (simD_call h__law_lefts (sl_d (sl_d sl_nil)) (by decide) (simA_cons (simO_d (simD_var 0)) (simA_cons (simO_d (simD_var 3)) simA_nil)))) (simG_tup (simGs_cons (simG_name 6) (simGs_cons (simG_name 7) simGs_nil))) (by decide) simT_yes (simD_call h__law_added (sl_d sl_nil) (by decide) (simA_cons (simO_d (simD_fr (simD_new (simL_comp (simSrc_of (simD_var 7)) (simG_name 8) (by decide) simT_yes (simD_op bs_ix (simO_v 2) (simO_v 8)))))) simA_nil)))))) (simA_cons (simO_d (simD_c (plain_int _))) simA_nil))))
    (simS_seq (simS_dr (L := [4]) (simS_while (simT_val (simD_op bs_in (simO_v 5) (simO_v 4))) (simS_set 5 (simD_fr (simD_op bs_add (simO_v 5) (simO_d (simD_c (plain_int _)))))) FU))
    (simS_dr (L := [5]) (simS_expr (simD_app 2 (simD_var 5)))))))))
    (simS_ret (simD_mov 2))))
@[irreducible] def U__law_worths : List Uv → FRes := uFn 2 9 [] (V__law_worths U__law_lefts U__law_added)
theorem su__law_worths : SimFn F__law_worths U__law_worths := by rw [F__law_worths, U__law_worths]; exact simFn_of (sv__law_worths su__law_lefts su__law_added) (by decide)
def V__law_wins (c__law_lefts c__law_wins : List Uv → FRes) : uS :=
    (uSeq (uSet 1 (uL1 tupW (uLT sortW (uComp (usOf (uVar 1)) (ugName 5) (uVal (uOp (b2 gtU) (oV 5) (oD (uC (.int 0))))) (uVar 5) [5]))))
    (uSeq (uDr (uIfS (uVal (uOp (b2 ninU) (oV 1) (oV 2))) (uSeq (uSet 3 (uFr (uNew (uLst lNil))))
    (uSeq (uDr (uFor (usEnum (uVar 1)) (ugTup 2 (ugCons (ugName 4) (ugCons (ugName 5) ugNil))) (uDr (uDr (uSet 3 (uFr (uOp (b2 addU) (oV 3) (oD (uNew (uComp (usOf (uCall c__law_lefts (uaCons (oD (uVar 0)) (uaCons (oD (uVar 5)) uaNil)))) (ugTup 2 (ugCons (ugName 7) (ugCons (ugName 8) ugNil))) utYes (uOp (b2 addU) (oD (uOp (b2 addU) (oD (uSl (oV 1) uoN (uoS (oV 4)))) (oV 8))) (oD (uSl (oV 1) (uoS (oD (uOp (b2 addU) (oV 4) (oD (uC (.int 1)))))) uoN))) [7, 8])))))) [4, 5]) [4, 5])) [4, 5])
    (uDr (uPut 2 (uVar 1) (uL1 anyW (uComp (usOf (uVar 3)) (ugName 6) utYes (uUn (b1 notU) (oD (uCall c__law_wins (uaCons (oD (uVar 0)) (uaCons (oD (uVar 6)) (uaCons (oV 2) uaNil)))))) [6]))) [0, 3]))) uNx) [0, 3, 4, 5])
    (uRet (uOp (b2 ixU) (oV 2) (oV 1)))))
theorem sv__law_wins {d__law_lefts : List P → M P} {c__law_lefts : List Uv → FRes} (h__law_lefts : SimFn d__law_lefts c__law_lefts) {d__law_wins : List P → M P} {c__law_wins : List Uv → FRes} (h__law_wins : SimFn d__law_wins c__law_wins) : SimS ([1] ++ ((([3] ++ ((([4] ++ ([5] ++ [])) ++ [3]) ++ [])) ++ []) ++ [])) (D__law_wins d__law_lefts d__law_wins) (V__law_wins c__law_lefts c__law_wins) :=
    (simS_seq (simS_set 1 (simD_L ns_tup (simL_then ls_sort (simL_comp (simSrc_of (simD_var 1)) (simG_name 5) (by decide) (simT_val (simD_op cs_gt.b (simO_v 5) (simO_d (simD_c (plain_int _))))) (simD_var 5)))))
    (simS_seq (simS_dr (L := [0, 3, 4, 5]) (simS_if (simT_val (simD_op bs_notIn (simO_v 1) (simO_v 2))) (simS_seq (simS_set 3 (simD_fr (simD_new (simL_lst simL_nil))))
    (simS_seq (simS_dr (L := [4, 5]) (simS_for (simSrc_enum (simD_var 1)) (simG_tup (simGs_cons (simG_name 4) (simGs_cons (simG_name 5) simGs_nil))) (simS_dr (L := [4, 5]) (simS_dr (L := [4, 5]) (simS_set 3 (simD_fr (simD_op bs_add (simO_v 3) (simO_d (simD_new (simL_comp (simSrc_of (simD_call h__law_lefts (sl_d (sl_d sl_nil)) (by decide) (simA_cons (simO_d (simD_var 0)) (simA_cons (simO_d (simD_var 5)) simA_nil)))) (simG_tup (simGs_cons (simG_name 7) (simGs_cons (simG_name 8) simGs_nil))) (by decide) simT_yes (simD_op bs_add (simO_d (simD_op bs_add (simO_d (simD_sl (simO_v 1) simI_none (simI_some (simO_v 4)))) (simO_v 8))) (simO_d (simD_sl (simO_v 1) (simI_some (simO_d (simD_op bs_add (simO_v 4) (simO_d (simD_c (plain_int _)))))) simI_none)))))))))))))
    (simS_dr (L := [0, 3]) (simS_put 2 (simD_var 1) (simD_L ns_any (simL_comp (simSrc_of (simD_var 3)) (simG_name 6) (by decide) simT_yes (simD_un bs_not (simO_d (simD_call h__law_wins (sl_d (sl_d (sl_v sl_nil))) (by decide) (simA_cons (simO_d (simD_var 0)) (simA_cons (simO_d (simD_var 6)) (simA_cons (simO_v 2) simA_nil)))))))))))) simS_nx))
    (simS_ret (simD_op bs_ix (simO_v 2) (simO_v 1)))))
def RU__law_wins : Nat → List Uv → FRes
  | 0 => fun _ => .bad
  | n + 1 => uFn 3 9 [2] (V__law_wins U__law_lefts (RU__law_wins n))
@[irreducible] def U__law_wins (n : Nat) : List Uv → FRes := RU__law_wins n
theorem U__law_wins_0 : U__law_wins 0 = fun _ => .bad := by unfold U__law_wins; rfl
theorem U__law_wins_s (n : Nat) : U__law_wins (n + 1) = uFn 3 9 [2] (V__law_wins U__law_lefts (U__law_wins n)) := by unfold U__law_wins; rfl
theorem su__law_wins : ∀ n : Nat, SimFn (F__law_wins n) (U__law_wins n)
  | 0 => by rw [F__law_wins_0, U__law_wins_0]; exact simFn_bad
  | n + 1 => by rw [F__law_wins_s, U__law_wins_s]; exact simFn_of (sv__law_wins su__law_lefts (su__law_wins n)) (by decide)
def V_law (c_lefts c_worths c_moves c_first_wins c_winning_moves c__law_open_cells c__law_pick c__law_draw_code c__law_lefts c__law_added c__law_worths c__law_wins : List Uv → FRes) : uS :=
    (uSeq (uDr (uSet 1 (uCall c__law_open_cells (uaCons (oD (uVar 0)) uaNil))) [0])
    (uSeq (uSet 2 (uFr (uCall c__law_draw_code (uaCons (oV 1) uaNil))))
    (uSeq (uSet 3 (uFr (uCall c__law_pick (uaCons (oV 1) (uaCons (oD (uC (.int 41))) uaNil)))))
    (uSeq (uSet 4 (uFr (uCall c__law_worths (uaCons (oD (uVar 2)) (uaCons (oD (uB (b2 max2U) (uaCons (oV 3) (uaCons (oD (uC (.int 24))) uaNil)))) uaNil)))))
    (uSeq (uDr (uIfS (uVal (uOp (b2 (eqU true)) (oD (uB (b1 reprU) (uaCons (oD (uCall c_worths (uaCons (oD (uVar 2)) (uaCons (oD (uVar 3)) uaNil)))) uaNil))) (oD (uB (b1 reprU) (uaCons (oD (uB (b1 tupU) (uaCons (oD (uSl (oV 4) uoN (uoS (oD (uOp (b2 addU) (oV 3) (oD (uC (.int 1)))))))) uaNil))) uaNil))))) (uRet (uC (.bl false))) uNx) [3])
    (uSeq (uDr (uFor (usOf (uTup (lCons (uC (.int 0)) (lCons (uC (.int 1)) (lCons (uCall c__law_pick (uaCons (oV 1) (uaCons (oD (uC (.int 25))) uaNil))) (lCons (uCall c__law_pick (uaCons (oV 1) (uaCons (oD (uC (.int 25))) uaNil))) lNil)))))) (ugName 5) (uDr (uDr (uIfS (uVal (uOp (b2 (eqU true)) (oD (uB (b1 reprU) (uaCons (oD (uCall c_lefts (uaCons (oD (uVar 2)) (uaCons (oD (uVar 5)) uaNil)))) uaNil))) (oD (uB (b1 reprU) (uaCons (oD (uB (b1 tupU) (uaCons (oD (uCall c__law_lefts (uaCons (oD (uVar 2)) (uaCons (oD (uVar 5)) uaNil)))) uaNil))) uaNil))))) (uRet (uC (.bl false))) uNx) [5]) [5])) [5])
    (uSeq (uDr (uFor (usR1 (oD (uC (.int 3)))) (ugName 6) (uDr (uSeq (uSet 8 (uL1 tupW (uComp (usR1 (oD (uCall c__law_pick (uaCons (oV 1) (uaCons (oD (uC (.int 5))) uaNil))))) (ugName 13) utYes (uCall c__law_pick (uaCons (oV 1) (uaCons (oD (uC (.int 13))) uaNil))) [13])))
    (uSeq (uPar3 9 10 11 (uaCons (oD (uFr (uCall c__law_added (uaCons (oD (uFr (uNew (uComp (usOf (uVar 8)) (ugName 5) utYes (uOp (b2 ixU) (oV 4) (oV 5)) [5])))) uaNil)))) (uaCons (oD (uFr (uNew (uLst lNil)))) (uaCons (oD (uFr (uNew (uLst lNil)))) uaNil))))
    (uSeq (uDr (uFor (usEnum (uVar 8)) (ugTup 2 (ugCons (ugName 12) (ugCons (ugName 5) ugNil))) (uDr (uDr (uSet 10 (uFr (uOp (b2 addU) (oV 10) (oD (uNew (uComp (usOf (uCall c__law_lefts (uaCons (oD (uVar 2)) (uaCons (oD (uVar 5)) uaNil)))) (ugTup 2 (ugCons (ugName 13) (ugCons (ugName 14) ugNil))) utYes (uTup (lCons (uVar 12) (lCons (uVar 13) (lCons (uVar 14) lNil)))) [13, 14])))))) [5, 12]) [5, 12])) [5, 12])
    (uSeq (uDr (uFor (usOf (uVar 10)) (ugTup 3 (ugCons (ugName 12) (ugCons (ugName 13) (ugCons (ugName 14) ugNil)))) (uDr (uSeq (uSet 15 (uFr (uNew (uComp (usEnum (uVar 8)) (ugTup 2 (ugCons (ugName 16) (ugCons (ugName 5) ugNil))) (uVal (uOp (b2 (eqU true)) (oV 16) (oV 12))) (uOp (b2 ixU) (oV 4) (oV 5)) [16, 5]))))
    (uDr (uSet 11 (uFr (uOp (b2 addU) (oV 11) (oD (uOp (b2 mulU) (oD (uNew (uLst (lCons (uTup (lCons (uVar 12) (lCons (uVar 13) (lCons (uVar 14) lNil)))) lNil)))) (oD (uB (b1 intB) (uaCons (oD (uOp (b2 (eqU false)) (oD (uCall c__law_added (uaCons (oD (uFr (uOp (b2 addU) (oV 15) (oD (uNew (uComp (usOf (uVar 14)) (ugName 17) utYes (uOp (b2 ixU) (oV 4) (oV 17)) [17])))))) uaNil))) (oD (uC (.int 0))))) uaNil)))))))) [12, 13, 14, 15])) [12, 13, 14, 15])) [12, 13, 14, 15])
    (uSeq (uDr (uIfS (utOr (uVal (uOp (b2 (eqU true)) (oD (uB (b1 reprU) (uaCons (oD (uCall c_moves (uaCons (oD (uVar 2)) (uaCons (oD (uVar 8)) uaNil)))) uaNil))) (oD (uB (b1 reprU) (uaCons (oD (uB (b1 tupU) (uaCons (oV 10) uaNil))) uaNil))))) (uVal (uOp (b2 (eqU true)) (oD (uB (b1 reprU) (uaCons (oD (uCall c_winning_moves (uaCons (oD (uVar 2)) (uaCons (oD (uVar 8)) uaNil)))) uaNil))) (oD (uB (b1 reprU) (uaCons (oD (uB (b1 tupU) (uaCons (oV 11) uaNil))) uaNil)))))) (uRet (uC (.bl false))) uNx) [10, 11])
    (uDr (uIfS (uVal (uOp (b2 (eqU true)) (oD (uB (b1 reprU) (uaCons (oD (uCall c_first_wins (uaCons (oD (uVar 2)) (uaCons (oD (uVar 8)) uaNil)))) uaNil))) (oD (uB (b1 reprU) (uaCons (oD (uOp (b2 (eqU true)) (oV 9) (oD (uC (.int 0))))) uaNil))))) (uRet (uC (.bl false))) uNx) [8, 9])))))) [5, 6, 8, 9, 10, 11, 12, 13, 14, 15])) [4, 5, 6, 8, 9, 10, 11, 12, 13, 14, 15])
    (uSeq (uDr (uSet 7 (uL1 tupW (uComp (usR1 (oD (uC (.int 3)))) (ugName 13) utYes (uCall c__law_pick (uaCons (oV 1) (uaCons (oD (uC (.int 6))) uaNil))) [13]))) [1])
    (uRet (uOp (b2 (eqU false)) (oD (uCall c_first_wins (uaCons (oD (uVar 2)) (uaCons (oD (uVar 7)) uaNil)))) (oD (uCall c__law_wins (uaCons (oD (uVar 2)) (uaCons (oD (uVar 7)) (uaCons (oD uDnewT) uaNil)))))))))))))))
theorem sv_law {d_lefts : List P → M P} {c_lefts : List Uv → FRes} (h_lefts : SimFn d_lefts c_lefts) {d_worths : List P → M P} {c_worths : List Uv → FRes} (h_worths : SimFn d_worths c_worths) {d_moves : List P → M P} {c_moves : List Uv → FRes} (h_moves : SimFn d_moves c_moves) {d_first_wins : List P → M P} {c_first_wins : List Uv → FRes} (h_first_wins : SimFn d_first_wins c_first_wins) {d_winning_moves : List P → M P} {c_winning_moves : List Uv → FRes} (h_winning_moves : SimFn d_winning_moves c_winning_moves) {d__law_open_cells : List P → M P} {c__law_open_cells : List Uv → FRes} (h__law_open_cells : SimFn d__law_open_cells c__law_open_cells) {d__law_pick : List P → M P} {c__law_pick : List Uv → FRes} (h__law_pick : SimFn d__law_pick c__law_pick) {d__law_draw_code : List P → M P} {c__law_draw_code : List Uv → FRes} (h__law_draw_code : SimFn d__law_draw_code c__law_draw_code) {d__law_lefts : List P → M P} {c__law_lefts : List Uv → FRes} (h__law_lefts : SimFn d__law_lefts c__law_lefts) {d__law_added : List P → M P} {c__law_added : List Uv → FRes} (h__law_added : SimFn d__law_added c__law_added) {d__law_worths : List P → M P} {c__law_worths : List Uv → FRes} (h__law_worths : SimFn d__law_worths c__law_worths) {d__law_wins : List P → M P} {c__law_wins : List Uv → FRes} (h__law_wins : SimFn d__law_wins c__law_wins) : SimS ([1] ++ ([2] ++ ([3] ++ ([4] ++ (([] ++ []) ++ (([5] ++ ([] ++ [])) ++ (([6] ++ ([8] ++ ([9, 10, 11] ++ ((([12] ++ ([5] ++ [])) ++ [10]) ++ ((([12] ++ ([13] ++ ([14] ++ []))) ++ ([15] ++ [11])) ++ (([] ++ []) ++ ([] ++ []))))))) ++ ([7] ++ [])))))))) (D_law d_lefts d_worths d_moves d_first_wins d_winning_moves d__law_open_cells d__law_pick d__law_draw_code d__law_lefts d__law_added d__law_worths d__law_wins) (V_law c_lefts c_worths c_moves c_first_wins c_winning_moves c__law_open_cells c__law_pick c__law_draw_code c__law_lefts c__law_added c__law_worths c__law_wins) :=
    (simS_seq (simS_dr (L := [0]) (simS_set 1 (simD_call h__law_open_cells (sl_d sl_nil) (by decide) (simA_cons (simO_d (simD_var 0)) simA_nil))))
    (simS_seq (simS_set 2 (simD_fr (simD_call h__law_draw_code (sl_v sl_nil) (by decide) (simA_cons (simO_v 1) simA_nil))))
    (simS_seq (simS_set 3 (simD_fr (simD_call h__law_pick (sl_v (sl_d sl_nil)) (by decide) (simA_cons (simO_v 1) (simA_cons (simO_d (simD_c (plain_int _))) simA_nil)))))
    (simS_seq (simS_set 4 (simD_fr (simD_call h__law_worths (sl_d (sl_d sl_nil)) (by decide) (simA_cons (simO_d (simD_var 2)) (simA_cons (simO_d (simD_B cs_max2.b (simA_cons (simO_v 3) (simA_cons (simO_d (simD_c (plain_int _))) simA_nil)))) simA_nil)))))
    (simS_seq (simS_dr (L := [3]) (simS_if (simT_val (simD_op cs_ne.b (simO_d (simD_B bs_repr (simA_cons (simO_d (simD_call h_worths (sl_d (sl_d sl_nil)) (by decide) (simA_cons (simO_d (simD_var 2)) (simA_cons (simO_d (simD_var 3)) simA_nil)))) simA_nil))) (simO_d (simD_B bs_repr (simA_cons (simO_d (simD_B bs_tup (simA_cons (simO_d (simD_sl (simO_v 4) simI_none (simI_some (simO_d (simD_op bs_add (simO_v 3) (simO_d (simD_c (plain_int _)))))))) simA_nil))) simA_nil))))) (simS_ret (simD_c (plain_bl _))) simS_nx))
    (simS_seq (simS_dr (L := [5]) (simS_for (simSrc_of (simD_tup (simL_cons (simD_c (plain_int _)) (simL_cons (simD_c (plain_int _)) (simL_cons (simD_call h__law_pick (sl_v (sl_d sl_nil)) (by decide) (simA_cons (simO_v 1) (simA_cons (simO_d (simD_c (plain_int _))) simA_nil))) (simL_cons (simD_call h__law_pick (sl_v (sl_d sl_nil)) (by decide) (simA_cons (simO_v 1) (simA_cons (simO_d (simD_c (plain_int _))) simA_nil))) simL_nil)))))) (simG_name 5) (simS_dr (L := [5]) (simS_dr (L := [5]) (simS_if (simT_val (simD_op cs_ne.b (simO_d (simD_B bs_repr (simA_cons (simO_d (simD_call h_lefts (sl_d (sl_d sl_nil)) (by decide) (simA_cons (simO_d (simD_var 2)) (simA_cons (simO_d (simD_var 5)) simA_nil)))) simA_nil))) (simO_d (simD_B bs_repr (simA_cons (simO_d (simD_B bs_tup (simA_cons (simO_d (simD_call h__law_lefts (sl_d (sl_d sl_nil)) (by decide) (simA_cons (simO_d (simD_var 2)) (simA_cons (simO_d (simD_var 5)) simA_nil)))) simA_nil))) simA_nil))))) (simS_ret (simD_c (plain_bl _))) simS_nx)))))
    (simS_seq (simS_dr (L := [4, 5, 6, 8, 9, 10, 11, 12, 13, 14, 15]) (simS_for (simSrc_r1 (simO_d (simD_c (plain_int _)))) (simG_name 6) (simS_dr (L := [5, 6, 8, 9, 10, 11, 12, 13, 14, 15]) (simS_seq (simS_set 8 (simD_L ns_tup (simL_comp (simSrc_r1 (simO_d (simD_call h__law_pick (sl_v (sl_d sl_nil)) (by decide) (simA_cons (simO_v 1) (simA_cons (simO_d (simD_c (plain_int _))) simA_nil))))) (simG_name 13) (by decide) simT_yes (simD_call h__law_pick (sl_v (sl_d sl_nil)) (by decide) (simA_cons (simO_v 1) (simA_cons (simO_d (simD_c (plain_int _))) simA_nil))))))
    (simS_seq (simS_par3 9 10 11 (simA_cons (simO_d (simD_fr (simD_call h__law_added (sl_d sl_nil) (by decide) (simA_cons (simO_d (simD_fr (simD_new (simL_comp (simSrc_of (simD_var 8)) (simG_name 5) (by decide) simT_yes (simD_op bs_ix (simO_v 4) (simO_v 5)))))) simA_nil)))) (simA_cons (simO_d (simD_fr (simD_new (simL_lst simL_nil)))) (simA_cons (simO_d (simD_fr (simD_new (simL_lst simL_nil)))) simA_nil))))
    (simS_seq (simS_dr (L := [5, 12]) (simS_for (simSrc_enum (simD_var 8)) (simG_tup (simGs_cons (simG_name 12) (simGs_cons (simG_name 5) simGs_nil))) (simS_dr (L := [5, 12]) (simS_dr (L := [5, 12]) (simS_set 10 (simD_fr (simD_op bs_add (simO_v 10) (simO_d (simD_new (simL_comp (simSrc_of (simD_call h__law_lefts (sl_d (sl_d sl_nil)) (by decide) (simA_cons (simO_d (simD_var 2)) (simA_cons (simO_d (simD_var 5)) simA_nil)))) (simG_tup (simGs_cons (simG_name 13) (simGs_cons (simG_name 14) simGs_nil))) (by decide) simT_yes (simD_tup (simL_cons (simD_var 12) (simL_cons (simD_var 13) (simL_cons (simD_var 14) simL_nil))))))))))))))
    (simS_seq (simS_dr (L := [12, 13, 14, 15]) (simS_for (simSrc_of (simD_var 10)) (simG_tup (simGs_cons (simG_name 12) (simGs_cons (simG_name 13) (simGs_cons (simG_name 14) simGs_nil)))) (simS_dr (L := [12, 13, 14, 15]) (simS_seq (simS_set 15 (simD_fr (simD_new (simL_comp (simSrc_enum (simD_var 8)) (simG_tup (simGs_cons (simG_name 16) (simGs_cons (simG_name 5) simGs_nil))) (by decide) (simT_val (simD_op cs_ne.b (simO_v 16) (simO_v 12))) (simD_op bs_ix (simO_v 4) (simO_v 5))))))
    (simS_dr (L := [12, 13, 14, 15]) (simS_set 11 (simD_fr (simD_op bs_add (simO_v 11) (simO_d (simD_op bs_mul (simO_d (simD_new (simL_lst (simL_cons (simD_tup (simL_cons (simD_var 12) (simL_cons (simD_var 13) (simL_cons (simD_var 14) simL_nil)))) simL_nil)))) (simO_d (simD_B bs_int (simA_cons (simO_d (simD_op cs_eq.b (simO_d (simD_call h__law_added (sl_d sl_nil) (by decide) (simA_cons (simO_d (simD_fr (simD_op bs_add (simO_v 15) (simO_d (simD_new (simL_comp (simSrc_of (simD_var 14)) (simG_name 17) (by decide) simT_yes (simD_op bs_ix (simO_v 4) (simO_v 17)))))))) simA_nil))) (simO_d (simD_c (plain_int _))))) simA_nil)))))))))))))
    (simS_seq (simS_dr (L := [10, 11]) (simS_if (simT_or (simT_val (simD_op cs_ne.b (simO_d (simD_B bs_repr (simA_cons (simO_d (simD_call h_moves (sl_d (sl_d sl_nil)) (by decide) (simA_cons (simO_d (simD_var 2)) (simA_cons (simO_d (simD_var 8)) simA_nil)))) simA_nil))) (simO_d (simD_B bs_repr (simA_cons (simO_d (simD_B bs_tup (simA_cons (simO_v 10) simA_nil))) simA_nil))))) (simT_val (simD_op cs_ne.b (simO_d (simD_B bs_repr (simA_cons (simO_d (simD_call h_winning_moves (sl_d (sl_d sl_nil)) (by decide) (simA_cons (simO_d (simD_var 2)) (simA_cons (simO_d (simD_var 8)) simA_nil)))) simA_nil))) (simO_d (simD_B bs_repr (simA_cons (simO_d (simD_B bs_tup (simA_cons (simO_v 11) simA_nil))) simA_nil)))))) (simS_ret (simD_c (plain_bl _))) simS_nx))
    (simS_dr (L := [8, 9]) (simS_if (simT_val (simD_op cs_ne.b (simO_d (simD_B bs_repr (simA_cons (simO_d (simD_call h_first_wins (sl_d (sl_d sl_nil)) (by decide) (simA_cons (simO_d (simD_var 2)) (simA_cons (simO_d (simD_var 8)) simA_nil)))) simA_nil))) (simO_d (simD_B bs_repr (simA_cons (simO_d (simD_op cs_ne.b (simO_v 9) (simO_d (simD_c (plain_int _))))) simA_nil))))) (simS_ret (simD_c (plain_bl _))) simS_nx))))))))))
    (simS_seq (simS_dr (L := [1]) (simS_set 7 (simD_L ns_tup (simL_comp (simSrc_r1 (simO_d (simD_c (plain_int _)))) (simG_name 13) (by decide) simT_yes (simD_call h__law_pick (sl_v (sl_d sl_nil)) (by decide) (simA_cons (simO_v 1) (simA_cons (simO_d (simD_c (plain_int _))) simA_nil)))))))
    (simS_ret (simD_op cs_eq.b (simO_d (simD_call h_first_wins (sl_d (sl_d sl_nil)) (by decide) (simA_cons (simO_d (simD_var 2)) (simA_cons (simO_d (simD_var 7)) simA_nil)))) (simO_d (simD_call h__law_wins (sl_d (sl_d (sl_d sl_nil))) (by decide) (simA_cons (simO_d (simD_var 2)) (simA_cons (simO_d (simD_var 7)) (simA_cons (simO_d simD_dnewT) simA_nil)))))))))))))))
@[irreducible] def U_law : List Uv → FRes := uFn 1 18 [] (V_law U_lefts U_worths U_moves U_first_wins U_winning_moves U__law_open_cells U__law_pick U__law_draw_code U__law_lefts U__law_added U__law_worths (U__law_wins 40))
theorem su_law : SimFn F_law U_law := by rw [F_law, U_law]; exact simFn_of (sv_law su_lefts su_worths su_moves su_first_wins su_winning_moves su__law_open_cells su__law_pick su__law_draw_code su__law_lefts su__law_added su__law_worths (su__law_wins 40)) (by decide)
end K_k27

/-! X0: the heapless terms, applied. -/
namespace G
open PySem (Str PyData)
theorem a_oV (i : Nat) (σ : UEnv) : oV i σ = (match σ[i]? with
  | some (some _) => .ok (.i i) σ
  | _ => .bad : VRes Arg) := rfl
theorem a_oD (e : uD) (σ : UEnv) : oD e σ = (ubnd (e σ) fun v σ' => .ok (.u v) σ' : VRes Arg) := rfl
theorem a_uaNil (σ : UEnv) : uaNil  σ = (.ok [] σ : VRes (List Arg)) := rfl
theorem a_uaCons (o : Opd) (a : uA) (σ : UEnv) : uaCons o a σ = (ubnd (o σ) fun x σ1 => ubnd (a σ1) fun xs σ2 => .ok (x :: xs) σ2 : VRes (List Arg)) := rfl
theorem a_uB (f' : List Uv → Option Uv) (a' : uA) (σ : UEnv) : uB f' a' σ = (ubnd (a' σ) fun as σ1 => match rsvs σ1 as with
  | some vs => match f' vs with
    | some r => .ok r σ1
    | none => .bad
  | none => .bad : VRes Uv) := rfl
theorem a_uVar (i : Nat) (σ : UEnv) : uVar i σ = (match σ[i]? with
  | some (some (.w x)) => .ok (.w x) σ
  | _ => .bad : VRes Uv) := rfl
theorem a_uMov (i : Nat) (σ : UEnv) : uMov i σ = (match σ[i]? with
  | some (some v) => .ok v (σ.set i none)
  | _ => .bad : VRes Uv) := rfl
theorem a_uFz (i : Nat) (σ : UEnv) : uFz i σ = (match σ[i]? with
  | some (some v) => match frz v with
    | some x => .ok (.w x) (σ.set i (some (.w x)))
    | none => .bad
  | _ => .bad : VRes Uv) := rfl
theorem a_uC (x : Wv) (σ : UEnv) : uC x σ = (.ok (.w x) σ : VRes Uv) := rfl
theorem a_uZ (d : uD) (σ : UEnv) : uZ d σ = (ubnd (d σ) fun v σ' => match frz v with
  | some x => .ok x σ'
  | none => .bad : VRes Wv) := rfl
theorem a_uFr (d : uD) (σ : UEnv) : uFr d σ = (ubnd (uZ d σ) fun x σ1 => .ok (.w x) σ1 : VRes Uv) := rfl
theorem a_lCons (d : uD) (a : uL) (σ : UEnv) : lCons d a σ = (ubnd (uZ d σ) fun x σ1 => ubnd (a σ1) fun xs σ2 => .ok (x :: xs) σ2 : VRes (List Wv)) := rfl
theorem a_lNil (σ : UEnv) : lNil  σ = (.ok [] σ : VRes (List Wv)) := rfl
theorem a_uRd (o : Opd) (σ : UEnv) : uRd o σ = (ubnd (o σ) fun x σ1 => match rsv σ1 x with
  | some v => .ok v σ1
  | none => .bad : VRes Uv) := rfl
theorem a_lStar (o : Opd) (a : uL) (σ : UEnv) : lStar o a σ = (ubnd (uRd o σ) fun v σ1 => match itU v with
  | some ws => ubnd (a σ1) fun xs σ2 => .ok (ws ++ xs) σ2
  | none => .bad : VRes (List Wv)) := rfl
theorem a_uLst (a : uL) (σ : UEnv) : uLst a σ = (ubnd (a σ) fun ws σ1 => match decide (ws.length ≤ SZ) with
  | true => .ok ws σ1
  | false => .bad : VRes (List Wv)) := rfl
theorem a_uTup (a : uL) (σ : UEnv) : uTup a σ = (ubnd (a σ) fun ws σ1 => match decide (ws.length ≤ SZ) with
  | true => .ok (.w (.tup ws)) σ1
  | false => .bad : VRes Uv) := rfl
theorem a_uNew (l : uL) (σ : UEnv) : uNew l σ = (ubnd (l σ) fun ws σ1 => .ok (.lst ws) σ1 : VRes Uv) := rfl
theorem a_uL1 (f' : List Wv → Option Uv) (l : uL) (σ : UEnv) : uL1 f' l σ = (ubnd (l σ) fun ws σ1 => match f' ws with
  | some r => .ok r σ1
  | none => .bad : VRes Uv) := rfl
theorem a_uLT (f' : List Wv → Option (List Wv)) (l : uL) (σ : UEnv) : uLT f' l σ = (ubnd (l σ) fun ws σ1 => match f' ws with
  | some r => .ok r σ1
  | none => .bad : VRes (List Wv)) := rfl
theorem a_uLV (f' : List Wv → Option (List Wv)) (o : Opd) (σ : UEnv) : uLV f' o σ = (ubnd (uRd o σ) fun v σ1 => match itU v with
  | some ws => match f' ws with
    | some r => .ok r σ1
    | none => .bad
  | none => .bad : VRes (List Wv)) := rfl
theorem a_uStar (o : Opd) (a' : uL) (σ : UEnv) : uStar o a' σ = (ubnd (uRd o σ) fun v σ1 => match starU v with
  | some ws => ubnd (a' σ1) fun xs σ2 => .ok (ws ++ xs) σ2
  | none => .bad : VRes (List Wv)) := rfl
theorem a_uLRev (l : uL) (σ : UEnv) : uLRev l σ = (ubnd (l σ) fun ws σ1 => .ok ws.reverse σ1 : VRes (List Wv)) := rfl
theorem a_uVal (d : uD) (σ : UEnv) : uVal d σ = (ubnd (d σ) fun v σ1 => match blU v with
  | some b => .ok b σ1
  | none => .bad : VRes Bool) := rfl
theorem a_uTru (o : Opd) (σ : UEnv) : uTru o σ = (ubnd (uRd o σ) fun v σ1 => match truU v with
  | some b => .ok b σ1
  | none => .bad : VRes Bool) := rfl
theorem a_utAnd (a b : uT) (σ : UEnv) : utAnd a b σ = (ubnd (a σ) fun k σ1 => match k with
  | true => b σ1
  | false => .ok false σ1 : VRes Bool) := rfl
theorem a_utOr (a b : uT) (σ : UEnv) : utOr a b σ = (ubnd (a σ) fun k σ1 => match k with
  | true => .ok true σ1
  | false => b σ1 : VRes Bool) := rfl
theorem a_utNot (a : uT) (σ : UEnv) : utNot a σ = (ubnd (a σ) fun k σ1 => .ok (!k) σ1 : VRes Bool) := rfl
theorem a_utYes (σ : UEnv) : utYes  σ = (.ok true σ : VRes Bool) := rfl
theorem a_uIf (c : uT) (a b : uD) (σ : UEnv) : uIf c a b σ = (ubnd (c σ) fun k σ1 => match k with
  | true => a σ1
  | false => b σ1 : VRes Uv) := rfl
theorem a_uAnd (a b : uD) (σ : UEnv) : uAnd a b σ = (ubnd (a σ) fun v σ1 => match blU v with
  | some true => b σ1
  | some false => .ok (.w (.bl false)) σ1
  | none => .bad : VRes Uv) := rfl
theorem a_uOr (a b : uD) (σ : UEnv) : uOr a b σ = (ubnd (a σ) fun v σ1 => match blU v with
  | some true => .ok (.w (.bl true)) σ1
  | some false => b σ1
  | none => .bad : VRes Uv) := rfl
theorem a_uChain (f' g' : List Uv → Option Uv) (a b c : Opd) (σ : UEnv) : uChain f' g' a b c σ = (ubnd (uaCons a (uaCons b uaNil) σ) fun xs σ1 => match rsvs σ1 xs with
  | some vs => match (f' vs).bind blU with
    | some true => ubnd (c σ1) fun y σ2 => match rsvs σ2 (xs.drop 1 ++ [y]) with
      | some ws => match g' ws with
        | some r => .ok r σ2
        | none => .bad
      | none => .bad
    | some false => .ok (.w (.bl false)) σ1
    | none => .bad
  | none => .bad : VRes Uv) := rfl
theorem a_uCh (f' g' : Uv → Uv → Option Uv) (a b c : Opd) (σ : UEnv) : uCh f' g' a b c σ = (ubnd (uaCons a (uaCons b uaNil) σ) fun xs σ1 => match rsvs σ1 xs with
  | some [v, w] => match (f' v w).bind blU with
    | some true => ubnd (uRd c σ1) fun u σ2 => match rsvs σ2 xs with
      | some [_, w2] => match g' w2 u with
        | some r => .ok r σ2
        | none => .bad
      | _ => .bad
    | some false => .ok (.w (.bl false)) σ1
    | none => .bad
  | _ => .bad : VRes Uv) := rfl
theorem a_uoN (σ : UEnv) : uoN  σ = (.ok none σ : VRes (Option Int)) := rfl
theorem a_uoS (o : Opd) (σ : UEnv) : uoS o σ = (ubnd (uRd o σ) fun v σ1 => match intU v with
  | some i => .ok (some i) σ1
  | none => .bad : VRes (Option Int)) := rfl
theorem a_uSl (x : Opd) (lo hi : uO) (σ : UEnv) : uSl x lo hi σ = (ubnd (x σ) fun a σ1 => ubnd (lo σ1) fun l σ2 => ubnd (hi σ2) fun h σ3 => match (rsv σ3 a).bind fun v => slU v l h with
  | some r => .ok r σ3
  | none => .bad : VRes Uv) := rfl
theorem a_uRg1 (o : Opd) (σ : UEnv) : uRg1 o σ = (ubnd (uRd o σ) fun v σ1 => match intU v with
  | some j => .ok (0, j) σ1
  | none => .bad : VRes (Int × Int)) := rfl
theorem a_uRg2 (a b : Opd) (σ : UEnv) : uRg2 a b σ = (ubnd (uRd a σ) fun v σ1 => match intU v with
  | some i => ubnd (uRd b σ1) fun w σ2 => match intU w with
    | some j => .ok (i, j) σ2
    | none => .bad
  | none => .bad : VRes (Int × Int)) := rfl
theorem a_uLRg (r : uR) (σ : UEnv) : uLRg r σ = (ubnd (r σ) fun ab σ1 => match rgV ab.1 ab.2 with
  | true => .ok (rangeW ab.1 ab.2) σ1
  | false => .bad : VRes (List Wv)) := rfl
theorem a_uTRg (r : uR) (σ : UEnv) : uTRg r σ = (ubnd (r σ) fun ab σ1 => match rgV ab.1 ab.2 with
  | true => .ok (.w (.tup (rangeW ab.1 ab.2))) σ1
  | false => .bad : VRes Uv) := rfl
theorem a_uApp (i : Nat) (d : uD) (σ : UEnv) : uApp i d σ = (match lstAt σ i with
  | some _ => ubnd (uZ d σ) fun x σ1 => match lstAt σ1 i with
    | some ws => match decide (ws.length < SZ) with
      | true => .ok (.w .non) (σ1.set i (some (.lst (ws ++ [x]))))
      | false => .bad
    | none => .bad
  | none => .bad : VRes Uv) := rfl
theorem a_uPop (i : Nat) (σ : UEnv) : uPop i σ = (match lstAt σ i with
  | some ws => match ws[ws.length - 1]? with
    | some x => .ok (.w x) (σ.set i (some (.lst ws.dropLast)))
    | none => .bad
  | none => .bad : VRes Uv) := rfl
theorem a_uPopAt (i : Nat) (o : Opd) (σ : UEnv) : uPopAt i o σ = (match lstAt σ i with
  | some _ => ubnd (uRd o σ) fun v σ1 => match intU v with
    | some j => match lstAt σ1 i with
      | some ws => match L2.ixN ws.length j with
        | some k => match ws[k]? with
          | some x => match smK 9223372036854775807 j with
            | true => .ok (.w x) (σ1.set i (some (.lst (ws.eraseIdx k))))
            | false => .bad
          | none => .bad
        | none => .bad
      | none => .bad
    | none => .bad
  | none => .bad : VRes Uv) := rfl
theorem a_uExt (i : Nat) (l : uL) (σ : UEnv) : uExt i l σ = (match lstAt σ i with
  | some _ => ubnd (l σ) fun xs σ1 => match lstAt σ1 i with
    | some ws => match decide (ws.length + xs.length ≤ SZ) with
      | true => .ok (.w .non) (σ1.set i (some (.lst (ws ++ xs))))
      | false => .bad
    | none => .bad
  | none => .bad : VRes Uv) := rfl
theorem a_uDnew (σ : UEnv) : uDnew  σ = (.ok (.dK []) σ : VRes Uv) := rfl
theorem a_uDnewT (σ : UEnv) : uDnewT  σ = (.ok (.dT []) σ : VRes Uv) := rfl
theorem a_ukNil (σ : UEnv) : ukNil  σ = (.ok [] σ : VRes (List (Wv × Wv))) := rfl
theorem a_ukCons (dk dv : uD) (r : uK) (σ : UEnv) : ukCons dk dv r σ = (ubnd (uZ dk σ) fun x σ1 => ubnd (uZ dv σ1) fun y σ2 => ubnd (r σ2) fun xs σ3 => .ok ((x, y) :: xs) σ3 : VRes (List (Wv × Wv))) := rfl
theorem a_uDict (a : uK) (σ : UEnv) : uDict a σ = (ubnd (a σ) fun ps σ1 => match mapO keyedW ps with
  | some kvs => match decide (kvs.length ≤ 15) with
    | true => .ok (.dK (putsW kvs)) σ1
    | false => .bad
  | none => .bad : VRes Uv) := rfl
theorem a_uCall (f' : List Uv → FRes) (a' : uA) (σ : UEnv) : uCall f' a' σ = (ubnd (a' σ) fun as σ1 => match rsvs σ1 as with
  | some vs => match f' vs with
    | .ok r vs' => .ok r (wb as vs' σ1)
    | .exc c x vs' => .exc c x (wb as vs' σ1)
    | .bad => .bad
  | none => .bad : VRes Uv) := rfl
theorem a_usOf (d : uD) (σ : UEnv) : usOf d σ = (ubnd (uZ d σ) fun x σ1 => match itW x with
  | some ws => .ok ws σ1
  | none => .bad : VRes (List Wv)) := rfl
theorem a_usEnum (d : uD) (σ : UEnv) : usEnum d σ = (ubnd (uZ d σ) fun x σ1 => match x with
  | .tup ws => .ok (numW 0 ws) σ1
  | .lst ws => .ok (numW 0 ws) σ1
  | _ => .bad : VRes (List Wv)) := rfl
theorem a_usZip (a : uL) (σ : UEnv) : usZip a σ = (ubnd (a σ) fun xs σ1 => match zip2 xs with
  | some zs => .ok zs σ1
  | none => .bad : VRes (List Wv)) := rfl
theorem a_usR1 (o : Opd) (σ : UEnv) : usR1 o σ = (ubnd (uRd o σ) fun v σ1 => match intU v with
  | some j => match smK 1000000000 j with
    | true => .ok (rangeW 0 j) σ1
    | false => .bad
  | none => .bad : VRes (List Wv)) := rfl
theorem a_usR2 (a b : Opd) (σ : UEnv) : usR2 a b σ = (ubnd (uRd a σ) fun v σ1 => match intU v with
  | some i => ubnd (uRd b σ1) fun w σ2 => match intU w with
    | some j => match smK 1000000000 i && smK 1000000000 j with
      | true => .ok (rangeW i j) σ2
      | false => .bad
    | none => .bad
  | none => .bad : VRes (List Wv)) := rfl
theorem a_ugName (i : Nat) (x : Wv) (σ : UEnv) : ugName i x σ = (some (σ.set i (some (.w x))) : Option UEnv) := rfl
theorem a_ugNil (xs : List Wv) (σ : UEnv) : ugNil  xs σ = (match xs with
  | [] => some σ
  | _ => none : Option UEnv) := rfl
theorem a_ugCons (g : uG) (gs : uGs) (xs : List Wv) (σ : UEnv) : ugCons g gs xs σ = (match xs with
  | x :: r => (g x σ).bind fun σ1 => gs r σ1
  | [] => none : Option UEnv) := rfl
theorem a_ugTup (n : Nat) (gs : uGs) (x : Wv) (σ : UEnv) : ugTup n gs x σ = (match x with
  | .tup ws => match decide (ws.length = n) with
    | true => gs ws σ
    | false => none
  | _ => none : Option UEnv) := rfl
theorem a_uComp (src : uL) (g : uG) (t : uT) (e : uD) (ow : List Nat) (σ : UEnv) : uComp src g t e ow σ = (ubnd (src σ) fun ws σ1 => uCompL g t e ow ws [] (wipeU σ1 ow) : VRes (List Wv)) := rfl
theorem a_uNx (σ : UEnv) : uNx  σ = (.ok .nx σ : URS) := rfl
theorem a_uBk (σ : UEnv) : uBk  σ = (.ok .bk σ : URS) := rfl
theorem a_uCt (σ : UEnv) : uCt  σ = (.ok .ct σ : URS) := rfl
theorem a_uSeq (s t : uS) (σ : UEnv) : uSeq s t σ = (match s σ with
  | .ok .nx σ' => t σ'
  | r => r : URS) := rfl
theorem a_uDr (s : uS) (L : List Nat) (σ : UEnv) : uDr s L σ = (match s σ with
  | .ok f σ' => .ok f (wipeU σ' L)
  | r => r : URS) := rfl
theorem a_uExpr (d : uD) (σ : UEnv) : uExpr d σ = (uthn (d σ) fun _ σ1 => .ok .nx σ1 : URS) := rfl
theorem a_uRet (d : uD) (σ : UEnv) : uRet d σ = (uthn (d σ) fun v σ1 => .ok (.rt v) σ1 : URS) := rfl
theorem a_uSet (i : Nat) (d : uD) (σ : UEnv) : uSet i d σ = (uthn (d σ) fun v σ1 => .ok .nx (σ1.set i (some v)) : URS) := rfl
theorem a_uAsg (d : uD) (g : uG) (σ : UEnv) : uAsg d g σ = (uthn (uZ d σ) fun x σ1 => match g x σ1 with
  | some σ2 => .ok .nx σ2
  | none => .bad : URS) := rfl
theorem a_uPar2 (i j : Nat) (a : uA) (σ : UEnv) : uPar2 i j a σ = (uthn (a σ) fun as σ1 => match two_u as with
  | some x => .ok .nx ((σ1.set i (some x.1)).set j (some x.2))
  | none => .bad : URS) := rfl
theorem a_uPar3 (i j l : Nat) (a : uA) (σ : UEnv) : uPar3 i j l a σ = (uthn (a σ) fun as σ1 => match three_u as with
  | some x => .ok .nx (((σ1.set i (some x.1)).set j (some x.2.1)).set l (some x.2.2))
  | none => .bad : URS) := rfl
theorem a_uIfS (c : uT) (s t : uS) (σ : UEnv) : uIfS c s t σ = (uthn (c σ) fun k σ1 => match k with
  | true => s σ1
  | false => t σ1 : URS) := rfl
theorem a_uPut (j : Nat) (i v : uD) (σ : UEnv) : uPut j i v σ = (uthn (uZ v σ) fun z σ1 => match σ1[j]? with
  | some (some _) => uthn (uZ i σ1) fun y σ2 => match (σ2[j]?).join with
    | some u => match putU u y z with
      | some u' => .ok .nx (σ2.set j (some u'))
      | none => .bad
    | none => .bad
  | _ => .bad : URS) := rfl
theorem a_uFor (src : uL) (g : uG) (s : uS) (σ : UEnv) : uFor src g s σ = (uthn (src σ) fun ws σ1 => uForL g s ws σ1 : URS) := rfl
end G

/-! X0b: single equations. -/
namespace G
open PySem (Str PyData)
section
variable (a b : List Wv) (i j k : Int)
def addL (a b : List Wv) : Option Uv := match decide (a.length + b.length ≤ SZ) with
  | true => some (.lst (a ++ b))
  | false => none
theorem add_1 : addU (.lst a) (.lst b) = addL a b := rfl
theorem add_2 : addU (.lst a) (.w (.lst b)) = addL a b := rfl
theorem add_3 : addU (.w (.lst a)) (.lst b) = addL a b := rfl
theorem add_4 : addU (.w (.lst a)) (.w (.lst b)) = addL a b := rfl
theorem addL_ok {a b : List Wv} (h : a.length + b.length ≤ SZ) : addL a b = some (.lst (a ++ b)) := by unfold addL; rw [decide_eq_true h]
theorem add_tup {a b : List Wv} (h : a.length + b.length ≤ SZ) : addU (.w (.tup a)) (.w (.tup b)) = some (.w (.tup (a ++ b))) := by unfold addU; dsimp only; rw [decide_eq_true h]
theorem add_int : addU (.w (.int i)) (.w (.int j)) = some (.w (.int (i + j))) := rfl
def mulL (a : List Wv) (k : Int) : Option Uv := match smK 9223372036854775807 k && Nat.ble (a.length * k.toNat) 16777216 with
  | true => some (.lst (List.replicate k.toNat a).flatten)
  | false => none
theorem mul_1 : mulU (.lst a) (.w (.int k)) = mulL a k := rfl
theorem mul_2 : mulU (.w (.lst a)) (.w (.int k)) = mulL a k := rfl
theorem mulL_ok {a : List Wv} {k : Int} (h : k.natAbs ≤ 9223372036854775807) (h3 : a.length * k.toNat ≤ 16777216) : mulL a k = some (.lst (List.replicate k.toNat a).flatten) := by unfold mulL; rw [smK_iff.mpr h, Nat.ble_eq_true_of_le h3]; rfl
theorem mul_int {i j : Int} (h : cMulV i j = true) : mulU (.w (.int i)) (.w (.int j)) = some (.w (.int (i * j))) := by unfold mulU; dsimp only; rw [h]
theorem mul_l {i j : Int} (h : i.natAbs ≤ 18446744073709551615) : mulU (.w (.int i)) (.w (.int j)) = some (.w (.int (i * j))) := mul_int (by unfold cMulV; rw [smK_iff.mpr h]; rfl)
theorem mul_r {i j : Int} (h : j.natAbs ≤ 18446744073709551615) : mulU (.w (.int i)) (.w (.int j)) = some (.w (.int (i * j))) := mul_int (by unfold cMulV; rw [smK_iff.mpr h, Bool.or_true])
theorem sub_int : subU (.w (.int i)) (.w (.int j)) = some (.w (.int (i - j))) := rfl
theorem div_int {i j : Int} (h : 0 < j) (h2 : j.natAbs ≤ 18446744073709551615) : divU (.w (.int i)) (.w (.int j)) = some (.w (.int (i / j))) := by unfold divU i2U cDivV; dsimp only; rw [decide_eq_true h, smK_iff.mpr h2]; rfl
theorem mod_int {i j : Int} (h : 0 < j) : modU (.w (.int i)) (.w (.int j)) = some (.w (.int (i % j))) := by unfold modU i2U; dsimp only; rw [decide_eq_true h]
theorem div_2 : divU (.w (.int i)) (.w (.int 2)) = some (.w (.int (i / 2))) := rfl
theorem mod_2 : modU (.w (.int i)) (.w (.int 2)) = some (.w (.int (i % 2))) := rfl
theorem pow_int {i j : Int} (h : cPowV i j = true) : powU (.w (.int i)) (.w (.int j)) = some (.w (.int (i ^ j.toNat))) := by unfold powU i2U; dsimp only; rw [h]
theorem shl_int {i j : Int} (h : cPowV i j = true) : shlU (.w (.int i)) (.w (.int j)) = some (.w (.int (i * 2 ^ j.toNat))) := by unfold shlU i2U; dsimp only; rw [h]
theorem shr_int {i j : Int} (h : 0 ≤ j) : shrU (.w (.int i)) (.w (.int j)) = some (.w (.int (i / 2 ^ j.toNat))) := by unfold shrU i2U; dsimp only; rw [decide_eq_true h]
theorem band_int : bandU (.w (.int i)) (.w (.int j)) = some (.w (.int (PySem.Builtin.bitAnd i j))) := rfl
theorem bor_int : borU (.w (.int i)) (.w (.int j)) = some (.w (.int (PySem.Builtin.bitOr i j))) := rfl
theorem bxor_int : bxorU (.w (.int i)) (.w (.int j)) = some (.w (.int (PySem.Builtin.bitXor i j))) := rfl
theorem isN_non : isNonU (.w .non) = true := rfl
theorem isN_int : isNonU (.w (.int i)) = false := rfl
theorem isN_bl (x : Bool) : isNonU (.w (.bl x)) = false := rfl
theorem isN_str (x : Str) : isNonU (.w (.str x)) = false := rfl
theorem isN_tup : isNonU (.w (.tup a)) = false := rfl
theorem isN_lst : isNonU (.w (.lst a)) = false := rfl
theorem isN_own : isNonU (.lst a) = false := rfl
theorem mulT_ok {a : List Wv} {k : Int} (h : a ≠ []) (h1 : 1 ≤ k) (h2 : k ≤ 1000) (h3 : a.length ≤ 1000) : mulTU (.w (.tup a)) (.w (.int k)) = some (.w (.tup (List.replicate k.toNat a).flatten)) := by
  unfold mulTU
  dsimp only
  have : (!a.isEmpty) = true := by cases a <;> simp_all
  rw [this, decide_eq_true h1, decide_eq_true h2, decide_eq_true h3]
  rfl
/-- a count of at most SZ -/
theorem leSZ {n : Nat} (h : n ≤ 16777216) : decide (n ≤ SZ) = true := decide_eq_true h
theorem ltSZ {n : Nat} (h : n < 16777216) : decide (n < SZ) = true := decide_eq_true h
theorem two_1 (v u : Uv) : two_u [.u v, .u u] = some (v, u) := rfl
theorem three_1 (v u t : Uv) : three_u [.u v, .u u, .u t] = some (v, u, t) := rfl
theorem zip2_1 : zip2 [.tup a, .tup b] = some (zipW a b) := rfl
theorem zip2_2 : zip2 [.lst a, .lst b] = some (zipW a b) := rfl
end
end G

/-! X0c: the stepping equations. -/
namespace G
open PySem (Str PyData)
theorem gx_itW_1 : ∀ (ws : List G.Wv), G.itW (G.Wv.tup ws) = Option.some ws := by intros; rfl
theorem gx_itW_2 : ∀ (ws : List G.Wv), G.itW (G.Wv.scr ws) = Option.some ws := by intros; rfl
theorem gx_itW_3 : ∀ (ws : List G.Wv), G.itW (G.Wv.kt ws) = Option.some ws := by intros; rfl
theorem gx_itW_4 : ∀ (ws : List G.Wv), G.itW (G.Wv.lst ws) = Option.some ws := by intros; rfl
theorem gx_frz_1 : ∀ (x_1 : G.Wv), G.frz (G.Uv.w x_1) = Option.some x_1 := by intros; rfl
theorem gx_frz_2 : ∀ (ws : List G.Wv), G.frz (G.Uv.lst ws) = Option.some (G.Wv.lst ws) := by intros; rfl
theorem gx_starU_1 : ∀ (ws : List G.Wv), G.starU (G.Uv.w (G.Wv.tup ws)) = Option.some ws := by intros; rfl
theorem gx_starU_2 : ∀ (ws : List G.Wv), G.starU (G.Uv.w (G.Wv.lst ws)) = Option.some ws := by intros; rfl
theorem gx_starU_3 : ∀ (ws : List G.Wv), G.starU (G.Uv.lst ws) = Option.some ws := by intros; rfl
theorem gx_slU_1 : ∀ (l h : Option Int) (ws : List G.Wv),
  G.slU (G.Uv.w (G.Wv.tup ws)) l h = Option.some (G.Uv.w (G.Wv.tup (G.cutW ws l h))) := by intros; rfl
theorem gx_slU_2 : ∀ (l h : Option Int) (ws : List G.Wv),
  G.slU (G.Uv.w (G.Wv.lst ws)) l h = Option.some (G.Uv.lst (G.cutW ws l h)) := by intros; rfl
theorem gx_slU_3 : ∀ (l h : Option Int) (ws : List G.Wv), G.slU (G.Uv.lst ws) l h = Option.some (G.Uv.lst (G.cutW ws l h)) := by intros; rfl
theorem gx_intU_1 : ∀ (i : Int), G.intU (G.Uv.w (G.Wv.int i)) = Option.some i := by intros; rfl
theorem gx_blU_1 : ∀ (b : Bool), G.blU (G.Uv.w (G.Wv.bl b)) = Option.some b := by intros; rfl
theorem gx_truU_1 : G.truU (G.Uv.w G.Wv.non) = Option.some Bool.false := by intros; rfl
theorem gx_truU_2 : ∀ (b : Bool), G.truU (G.Uv.w (G.Wv.bl b)) = Option.some b := by intros; rfl
theorem gx_truU_3 : ∀ (i : Int), G.truU (G.Uv.w (G.Wv.int i)) = Option.some (i != 0) := by intros; rfl
theorem gx_truU_4 : ∀ (ws : List G.Wv), G.truU (G.Uv.w (G.Wv.tup ws)) = Option.some !List.isEmpty ws := by intros; rfl
theorem gx_itU_1 : ∀ (ws : List G.Wv), G.itU (G.Uv.w (G.Wv.tup ws)) = Option.some ws := by intros; rfl
theorem gx_itU_2 : ∀ (ws : List G.Wv), G.itU (G.Uv.w (G.Wv.scr ws)) = Option.some ws := by intros; rfl
theorem gx_itU_3 : ∀ (ws : List G.Wv), G.itU (G.Uv.w (G.Wv.kt ws)) = Option.some ws := by intros; rfl
theorem gx_itU_4 : ∀ (ws : List G.Wv), G.itU (G.Uv.w (G.Wv.lst ws)) = Option.some ws := by intros; rfl
theorem gx_itU_5 : ∀ (ws : List G.Wv), G.itU (G.Uv.lst ws) = Option.some ws := by intros; rfl
theorem gx_itR_1 : ∀ (ws : List G.Wv), G.itR (G.Uv.w (G.Wv.scr ws)) = Option.some ws := by intros; rfl
theorem gx_itR_2 : ∀ (ws : List G.Wv), G.itR (G.Uv.w (G.Wv.lst ws)) = Option.some ws := by intros; rfl
theorem gx_itR_3 : ∀ (ws : List G.Wv), G.itR (G.Uv.lst ws) = Option.some ws := by intros; rfl
theorem gx_eqU_1 : ∀ (neg : Bool) (i j : Int),
  G.eqU neg (G.Uv.w (G.Wv.int i)) (G.Uv.w (G.Wv.int j)) =
    Option.some (G.Uv.w (G.Wv.bl (Decidable.decide (i = j) != neg))) := by intros; rfl
theorem gx_eqU_2 : ∀ (neg : Bool) (i j : PySem.Str),
  G.eqU neg (G.Uv.w (G.Wv.str i)) (G.Uv.w (G.Wv.str j)) =
    Option.some (G.Uv.w (G.Wv.bl (Decidable.decide (i = j) != neg))) := by intros; rfl
theorem gx_eqU_3 : ∀ (neg i j : Bool),
  G.eqU neg (G.Uv.w (G.Wv.bl i)) (G.Uv.w (G.Wv.bl j)) = Option.some (G.Uv.w (G.Wv.bl (Decidable.decide (i = j) != neg))) := by intros; rfl
theorem gx_eqU_4 : ∀ (neg : Bool),
  G.eqU neg (G.Uv.w G.Wv.non) (G.Uv.w G.Wv.non) = Option.some (G.Uv.w (G.Wv.bl (Bool.true != neg))) := by intros; rfl
theorem gx_ltU_1 : ∀ (i j : Int),
  G.ltU (G.Uv.w (G.Wv.int i)) (G.Uv.w (G.Wv.int j)) = Option.some (G.Uv.w (G.Wv.bl (Decidable.decide (i < j)))) := by intros; rfl
theorem gx_ltU_2 : ∀ (a b : PySem.Str),
  G.ltU (G.Uv.w (G.Wv.str a)) (G.Uv.w (G.Wv.str b)) =
    Option.some (G.Uv.w (G.Wv.bl (Decidable.decide (Array.toList (PySem.Str.cps a) < Array.toList (PySem.Str.cps b))))) := by intros; rfl
theorem gx_leU_1 : ∀ (i j : Int),
  G.leU (G.Uv.w (G.Wv.int i)) (G.Uv.w (G.Wv.int j)) = Option.some (G.Uv.w (G.Wv.bl (Decidable.decide (i ≤ j)))) := by intros; rfl
theorem gx_leU_2 : ∀ (a b : PySem.Str),
  G.leU (G.Uv.w (G.Wv.str a)) (G.Uv.w (G.Wv.str b)) =
    Option.some (G.Uv.w (G.Wv.bl !Decidable.decide (Array.toList (PySem.Str.cps b) < Array.toList (PySem.Str.cps a)))) := by intros; rfl
theorem gx_gtU_1 : ∀ (i j : Int),
  G.gtU (G.Uv.w (G.Wv.int i)) (G.Uv.w (G.Wv.int j)) = Option.some (G.Uv.w (G.Wv.bl (Decidable.decide (j < i)))) := by intros; rfl
theorem gx_geU_1 : ∀ (i j : Int),
  G.geU (G.Uv.w (G.Wv.int i)) (G.Uv.w (G.Wv.int j)) = Option.some (G.Uv.w (G.Wv.bl (Decidable.decide (j ≤ i)))) := by intros; rfl
theorem gx_negU_1 : ∀ (i : Int), G.negU (G.Uv.w (G.Wv.int i)) = Option.some (G.Uv.w (G.Wv.int (-i))) := by intros; rfl
theorem gx_notU_1 : ∀ (b : Bool), G.notU (G.Uv.w (G.Wv.bl b)) = Option.some (G.Uv.w (G.Wv.bl !b)) := by intros; rfl
theorem gx_ixU_1 : ∀ (w : G.Uv) (ws : List G.Wv),
  G.ixU (G.Uv.w (G.Wv.tup ws)) w = Option.bind (G.intU w) fun i => Option.map G.Uv.w (L2.atI ws i) := by intros; rfl
theorem gx_ixU_2 : ∀ (w : G.Uv) (ws : List G.Wv),
  G.ixU (G.Uv.w (G.Wv.scr ws)) w = Option.bind (G.intU w) fun i => Option.map G.Uv.w (L2.atI ws i) := by intros; rfl
theorem gx_ixU_3 : ∀ (w : G.Uv) (ws : List G.Wv),
  G.ixU (G.Uv.w (G.Wv.lst ws)) w = Option.bind (G.intU w) fun i => Option.map G.Uv.w (L2.atI ws i) := by intros; rfl
theorem gx_ixU_4 : ∀ (w : G.Uv) (ws : List G.Wv),
  G.ixU (G.Uv.lst ws) w = Option.bind (G.intU w) fun i => Option.map G.Uv.w (L2.atI ws i) := by intros; rfl
theorem gx_ixK (kvs : List (L2.Key × Wv)) (x : Wv) : ixU (.dK kvs) (.w x) = (lookU (.dK kvs) x).bind fun o => o.map .w := rfl
theorem gx_ixT (kvs : List (List L2.Key × Wv)) (x : Wv) : ixU (.dT kvs) (.w x) = (lookU (.dT kvs) x).bind fun o => o.map .w := rfl
theorem gx_lenU_2 : ∀ (ws : List G.Wv), G.lenU (G.Uv.w (G.Wv.tup ws)) = Option.some (G.Uv.w (G.Wv.int ↑(List.length ws))) := by intros; rfl
theorem gx_lenU_3 : ∀ (ws : List G.Wv), G.lenU (G.Uv.w (G.Wv.scr ws)) = Option.some (G.Uv.w (G.Wv.int ↑(List.length ws))) := by intros; rfl
theorem gx_lenU_4 : ∀ (ws : List G.Wv), G.lenU (G.Uv.w (G.Wv.lst ws)) = Option.some (G.Uv.w (G.Wv.int ↑(List.length ws))) := by intros; rfl
theorem gx_lenU_5 : ∀ (ws : List G.Wv), G.lenU (G.Uv.lst ws) = Option.some (G.Uv.w (G.Wv.int ↑(List.length ws))) := by intros; rfl
theorem gx_lenU_6 : ∀ (kvs : List (L2.Key × G.Wv)), G.lenU (G.Uv.dK kvs) = Option.some (G.Uv.w (G.Wv.int ↑(List.length kvs))) := by intros; rfl
theorem gx_absU_1 : ∀ (i : Int), G.absU (G.Uv.w (G.Wv.int i)) = Option.some (G.Uv.w (G.Wv.int (if i < 0 then -i else i))) := by intros; rfl
theorem gx_intB_1 : ∀ (i : Int), G.intB (G.Uv.w (G.Wv.int i)) = Option.some (G.Uv.w (G.Wv.int i)) := by intros; rfl
theorem gx_intB_2 : ∀ (b : Bool),
  G.intB (G.Uv.w (G.Wv.bl b)) = Option.some (G.Uv.w (G.Wv.int (if b = Bool.true then 1 else 0))) := by intros; rfl
theorem gx_max2U_1 : ∀ (i j : Int),
  G.max2U (G.Uv.w (G.Wv.int i)) (G.Uv.w (G.Wv.int j)) = Option.some (G.Uv.w (G.Wv.int (if j > i then j else i))) := by intros; rfl
theorem gx_min2U_1 : ∀ (i j : Int),
  G.min2U (G.Uv.w (G.Wv.int i)) (G.Uv.w (G.Wv.int j)) = Option.some (G.Uv.w (G.Wv.int (if j < i then j else i))) := by intros; rfl
theorem gx_tupU_1 : ∀ (ws : List G.Wv), G.tupU (G.Uv.w (G.Wv.tup ws)) = Option.some (G.Uv.w (G.Wv.tup ws)) := by intros; rfl
theorem gx_tupU_2 : ∀ (ws : List G.Wv), G.tupU (G.Uv.w (G.Wv.scr ws)) = Option.some (G.Uv.w (G.Wv.tup ws)) := by intros; rfl
theorem gx_tupU_3 : ∀ (ws : List G.Wv), G.tupU (G.Uv.w (G.Wv.lst ws)) = Option.some (G.Uv.w (G.Wv.tup ws)) := by intros; rfl
theorem gx_tupU_4 : ∀ (ws : List G.Wv), G.tupU (G.Uv.lst ws) = Option.some (G.Uv.w (G.Wv.tup ws)) := by intros; rfl
theorem gx_revU_1 : ∀ (ws : List G.Wv), G.revU (G.Uv.w (G.Wv.lst ws)) = Option.some (G.Uv.lst (List.reverse ws)) := by intros; rfl
theorem gx_revU_2 : ∀ (ws : List G.Wv), G.revU (G.Uv.lst ws) = Option.some (G.Uv.lst (List.reverse ws)) := by intros; rfl
theorem gx_lstsU_1 : ∀ (ws : List G.Wv), G.lstsU (G.Uv.w (G.Wv.lst ws)) = Option.some ws := by intros; rfl
theorem gx_lstsU_2 : ∀ (ws : List G.Wv), G.lstsU (G.Uv.lst ws) = Option.some ws := by intros; rfl
theorem gx_putU_1 : ∀ (z : G.Wv) (ws : List G.Wv) (j : Int),
  G.putU (G.Uv.lst ws) (G.Wv.int j) z = Option.map (fun k => G.Uv.lst (List.set ws k z)) (L2.ixN (List.length ws) j) := by intros; rfl
theorem gx_uUn_1 : ∀ (f' : List G.Uv → Option G.Uv) (a : G.Opd), G.uUn f' a = G.uB f' (G.uaCons a G.uaNil) := by intros; rfl
theorem gx_uOp_1 : ∀ (f' : List G.Uv → Option G.Uv) (a b : G.Opd), G.uOp f' a b = G.uB f' (G.uaCons a (G.uaCons b G.uaNil)) := by intros; rfl
theorem gx_rsv_1 : ∀ (σ : G.UEnv) (v : G.Uv), G.rsv σ (G.Arg.u v) = Option.some v := by intros; rfl
theorem gx_rsvs_1 : ∀ (σ : G.UEnv), G.rsvs σ [] = Option.some [] := by intros; rfl
theorem gx_wb_1 : ∀ (x : G.UEnv) (j : Nat) (as : List G.Arg) (v : G.Uv) (vs : List G.Uv),
  G.wb (G.Arg.i j :: as) (v :: vs) x = G.wb as vs (List.set x j (Option.some v)) := by intros; rfl
theorem gx_ubnd_1 : ∀ {α β : Type} (f : α → G.UM β) (a : α) (σ : G.UEnv), G.ubnd (G.VRes.ok a σ) f = f a σ := by intros; rfl
theorem gx_uthn_1 : ∀ {α : Type} (k : α → G.UEnv → G.URS) (a : α) (σ : G.UEnv), G.uthn (G.VRes.ok a σ) k = k a σ := by intros; rfl
theorem gx_wipeU_1 : ∀ (σ : G.UEnv), G.wipeU σ [] = σ := by intros; rfl
theorem gx_overU_1 : ∀ (f' : List G.Wv → Option G.Uv), G.overU f' = G.b1 fun v => Option.bind (G.itU v) f' := by intros; rfl
theorem gx_overR_1 : ∀ (f' : List G.Wv → Option G.Uv), G.overR f' = G.b1 fun v => Option.bind (G.itR v) f' := by intros; rfl
theorem gx_b1_1 : ∀ (g : G.Uv → Option G.Uv) (v : G.Uv), G.b1 g [v] = g v := by intros; rfl
theorem gx_b2_1 : ∀ (g : G.Uv → G.Uv → Option G.Uv) (v w : G.Uv), G.b2 g [v, w] = g v w := by intros; rfl
theorem gx_b3_1 : ∀ (g : G.Uv → G.Uv → G.Uv → Option G.Uv) (v w u : G.Uv), G.b3 g [v, w, u] = g v w u := by intros; rfl
theorem gx_isNU_1 : ∀ (v : G.Uv), G.isNU v = Option.some (G.Uv.w (G.Wv.bl (G.isNonU v))) := by intros; rfl
theorem gx_notNU_1 : ∀ (v : G.Uv), G.notNU v = Option.some (G.Uv.w (G.Wv.bl !G.isNonU v)) := by intros; rfl
theorem gx_inU_1 : ∀ (v w : G.Uv), G.inU v w = Option.map (fun b => G.Uv.w (G.Wv.bl b)) (G.memU v w) := by intros; rfl
theorem gx_ninU_1 : ∀ (v w : G.Uv), G.ninU v w = Option.map (fun b => G.Uv.w (G.Wv.bl !b)) (G.memU v w) := by intros; rfl
theorem gx_sumW_1 : ∀ (ws : List G.Wv), G.sumW ws = Option.map (fun l => G.Uv.w (G.Wv.int (List.sum l))) (G.intsW ws) := by intros; rfl
theorem gx_tupW_1 : ∀ (ws : List G.Wv), G.tupW ws = Option.some (G.Uv.w (G.Wv.tup ws)) := by intros; rfl
theorem gx_lenW_1 : ∀ (ws : List G.Wv), G.lenW ws = Option.some (G.Uv.w (G.Wv.int ↑(List.length ws))) := by intros; rfl
theorem gx_idW_1 : ∀ (ws : List G.Wv), G.idW ws = Option.some ws := by intros; rfl
theorem gx_lstAt_1 : ∀ (σ : G.UEnv) (i : Nat),
  G.lstAt σ i =
    match σ[i]? with
    | Option.some (Option.some (G.Uv.lst ws)) => Option.some ws
    | x => Option.none := by intros; rfl
theorem gx_rsv2 (σ : UEnv) (j : Nat) : rsv σ (.i j) = (σ[j]?).join := rfl
theorem gx_rsvs2 (σ : UEnv) (a : Arg) (as : List Arg) : rsvs σ (a :: as) = (match rsv σ a with
    | some v => match rsvs σ as with
      | some vs => some (v :: vs)
      | none => none
    | none => none) := rfl
theorem gx_wb2 (as : List Arg) (u v : Uv) (vs : List Uv) (σ : UEnv) : wb (.u u :: as) (v :: vs) σ = wb as vs σ := rfl
theorem gx_wb3 (vs : List Uv) (σ : UEnv) : wb [] vs σ = σ := by cases vs <;> rfl
theorem gx_ubnd2 {α β : Type} (c : String) (x : Wv) (σ : UEnv) (f : α → UM β) : ubnd (.exc c x σ) f = .exc c x σ := rfl
theorem gx_uthn2 {α : Type} (c : String) (x : Wv) (σ : UEnv) (k : α → UEnv → URS) : uthn (.exc c x σ) k = .exc c x σ := rfl
theorem gx_wipeU2 (σ : UEnv) (v : Nat) (vs : List Nat) : wipeU σ (v :: vs) = (wipeU σ vs).set v none := rfl
theorem gx_putK (kvs : List (L2.Key × Wv)) (y z : Wv) : putU (.dK kvs) y z = (match keyW y with
    | some k => match decide (kvs.length < SZ) with
      | true => some (.dK (wPut kvs k z))
      | false => none
    | none => none) := rfl
theorem gx_putT (kvs : List (List L2.Key × Wv)) (y z : Wv) : putU (.dT kvs) y z = (match tkeyW y with
    | some k => match decide (kvs.length < SZ) with
      | true => some (.dT (wPut kvs k z))
      | false => none
    | none => none) := rfl
theorem gx_g0 {α : Type} (a : α) (l : List α) : (a :: l)[0]? = some a := rfl
theorem gx_g1 {α : Type} (a : α) (l : List α) (i : Nat) : (a :: l)[i + 1]? = l[i]? := rfl
theorem gx_g2 {α : Type} (i : Nat) : ([] : List α)[i]? = none := rfl
theorem gx_s0 {α : Type} (a b : α) (l : List α) : (a :: l).set 0 b = b :: l := rfl
theorem gx_s1 {α : Type} (a b : α) (l : List α) (i : Nat) : (a :: l).set (i + 1) b = a :: l.set i b := rfl
theorem gx_l0 {α : Type} : ([] : List α).length = 0 := rfl
theorem gx_l1 {α : Type} (a : α) (l : List α) : (a :: l).length = l.length + 1 := rfl
theorem gx_l2 {α : Type} (l r : List α) : (l ++ r).length = l.length + r.length := List.length_append
theorem gx_l3 {α β : Type} (f : α → β) (l : List α) : (l.map f).length = l.length := List.length_map f
theorem gx_m0 {α β : Type} (f : α → β) : ([] : List α).map f = [] := rfl
theorem gx_m1 {α β : Type} (f : α → β) (a : α) (l : List α) : (a :: l).map f = f a :: l.map f := rfl
theorem gx_a0 {α : Type} (l : List α) : [] ++ l = l := rfl
theorem gx_a1 {α : Type} (a : α) (l r : List α) : (a :: l) ++ r = a :: (l ++ r) := rfl
theorem gx_r0 {α : Type} (a : α) : List.replicate 0 a = [] := rfl
theorem gx_r1 {α : Type} (a : α) (n : Nat) : List.replicate (n + 1) a = a :: List.replicate n a := rfl
theorem gx_j0 {α : Type} (x : Option α) : (some x).join = x := rfl
theorem gx_j1 {α : Type} : (none : Option (Option α)).join = none := rfl
theorem gx_b0 {α β : Type} (x : α) (f : α → Option β) : (some x).bind f = f x := rfl
theorem gx_b1 {α β : Type} (f : α → Option β) : (none : Option α).bind f = none := rfl
theorem gx_o0 {α β : Type} (x : α) (f : α → β) : (some x).map f = some (f x) := rfl
theorem gx_o1 {α β : Type} (f : α → β) : (none : Option α).map f = none := rfl
theorem gx_i0 {α : Type} (x y : α) : (some x = some y) = (x = y) := by simp
theorem gx_t0 : (!true) = false := rfl
theorem gx_t1 : (!false) = true := rfl
theorem gx_t2 (b : Bool) : (b != b) = false := by cases b <;> rfl
theorem gx_t3 (b : Bool) : (b != false) = b := by cases b <;> rfl
theorem gx_t4 (b : Bool) : (b != true) = !b := by cases b <;> rfl
theorem gx_t5 : decide True = true := rfl
theorem gx_t6 : decide False = false := rfl
theorem gx_t7 : (false = true) = False := by simp
theorem gx_t8 : (true = false) = False := by simp
theorem gx_n0 (n : Nat) : 0 + n = n := Nat.zero_add n
theorem gx_n1 (a b : Nat) : ((a : Int) = (b : Int)) = (a = b) := by simp [Int.natCast_inj]
theorem gx_n2 (a b : Nat) : ((a : Int) < (b : Int)) = (a < b) := by simp
theorem gx_n3 (a b : Nat) : ((a : Int) ≤ (b : Int)) = (a ≤ b) := by simp
theorem gx_d0 {α : Type} (l : List α) : l.drop 0 = l := rfl
theorem gx_d1 {α : Type} (a : α) (l : List α) (n : Nat) : (a :: l).drop (n + 1) = l.drop n := rfl
theorem gx_e0 {α : Type} (x : α) : (x = x) = True := by simp
theorem gx_if1 {α : Sort u} (a b : α) : (if True then a else b) = a := by simp
theorem gx_if0 {α : Sort u} (a b : α) : (if False then a else b) = b := by simp
theorem gx_str (z : Str) : lenU (.w (.str z)) = (match decide (z.length ≤ SZ) with
    | true => some (.w (.int z.length))
    | false => none) := rfl
end G

/-! X1: how the heapless terms run. -/
namespace G
open PySem (Str PyData)
section
variable {σ σ' : UEnv}
theorem useq {s t : uS} {r : URS} (h : s σ = .ok .nx σ') (h2 : t σ' = r) : uSeq s t σ = r := by
  unfold uSeq
  rw [h]
  exact h2
theorem useqE {s t : uS} {Q : URS → Prop} (h : ∃ σ', s σ = .ok .nx σ' ∧ Q (t σ')) : Q (uSeq s t σ) := by
  obtain ⟨σ', h1, h2⟩ := h
  unfold uSeq
  rw [h1]
  exact h2
theorem uFn_ret {n N : Nat} {ms : List Nat} {s : uS} {vs vs' : List Uv} {v : Uv} (hl : vs.length = n) (h : s (vs.map some ++ List.replicate (N - n) none) = .ok (.rt v) σ) (ho : outs ms σ 0 vs = some vs') : uFn n N ms s vs = .ok v vs' := by
  unfold uFn
  rw [decide_eq_true hl]
  dsimp only
  rw [h]
  dsimp only
  rw [ho]
/-- a loop by what holds at its head -/
theorem for_inv {g : uG} {s : uS} (I : UEnv → Prop) : ∀ (ws : List Wv) (σ : UEnv), I σ → (∀ x ∈ ws, ∀ σ, I σ → ∃ σ1 σ', g x σ = some σ1 ∧ s σ1 = .ok .nx σ' ∧ I σ') → ∃ σ', uForL g s ws σ = .ok .nx σ' ∧ I σ'
  | [], σ, h, _ => ⟨σ, rfl, h⟩
  | x :: xs, σ, h, hs => by
    obtain ⟨σ1, σ2, h1, h2, h3⟩ := hs x (by simp) σ h
    obtain ⟨σ', h4, h5⟩ := for_inv I xs σ2 h3 fun y hy => hs y (by simp [hy])
    refine ⟨σ', ?_, h5⟩
    unfold uForL
    rw [h1]
    dsimp only
    rw [h2]
    exact h4
/-- .. and what is done so far -/
theorem for_inv2 {α : Type} {enc : α → Wv} {g : uG} {s : uS} (I : List α → UEnv → Prop) : ∀ (as done : List α) (σ : UEnv), I done σ → (∀ done a rest, as = done ++ a :: rest → True) → (∀ (d : List α) (a : α) (r : List α) (σ : UEnv), done ++ as = d ++ a :: r → I d σ → ∃ σ1 σ', g (enc a) σ = some σ1 ∧ s σ1 = .ok .nx σ' ∧ I (d ++ [a]) σ') → ∃ σ', uForL g s (as.map enc) σ = .ok .nx σ' ∧ I (done ++ as) σ'
  | [], done, σ, h, _, _ => ⟨σ, rfl, by simpa using h⟩
  | a :: as, done, σ, h, q, hs => by
    obtain ⟨σ1, σ2, h1, h2, h3⟩ := hs done a as σ rfl h
    obtain ⟨σ', h4, h5⟩ := for_inv2 I as (done ++ [a]) σ2 h3 (fun _ _ _ _ => trivial) fun d b r σ e => hs d b r σ (by rw [← e]; simp)
    refine ⟨σ', ?_, by simpa using h5⟩
    rw [List.map_cons]
    unfold uForL
    rw [h1]
    dsimp only
    rw [h2]
    exact h4
theorem for_invA {α : Type} {enc : α → Wv} {g : uG} {s : uS} (I : List α → UEnv → Prop) (as : List α) {σ : UEnv} (h : I [] σ) (hs : ∀ (d : List α) (a : α) (r : List α) (σ : UEnv), as = d ++ a :: r → I d σ → ∃ σ1 σ', g (enc a) σ = some σ1 ∧ s σ1 = .ok .nx σ' ∧ I (d ++ [a]) σ') : ∃ σ', uForL g s (as.map enc) σ = .ok .nx σ' ∧ I as σ' := by
  have := for_inv2 (enc := enc) (g := g) (s := s) I as [] σ h (fun _ _ _ _ => trivial) (by simpa using hs)
  simpa using this
/-- a loop that folds: mk tells the names from the state -/
theorem for_fold {α β : Type} {enc : α → Wv} {g : uG} {s : uS} (mk : β → UEnv) (f : β → α → β) : ∀ (as : List α) (b : β), (∀ b, ∀ a ∈ as, ∃ σ1, g (enc a) (mk b) = some σ1 ∧ s σ1 = .ok .nx (mk (f b a))) → uForL g s (as.map enc) (mk b) = .ok .nx (mk (as.foldl f b))
  | [], b, _ => rfl
  | a :: as, b, h => by
    obtain ⟨σ1, h1, h2⟩ := h b a (by simp)
    rw [List.map_cons, List.foldl_cons]
    unfold uForL
    rw [h1]
    dsimp only
    rw [h2]
    exact for_fold mk f as _ fun b a ha => h b a (by simp [ha])
/-- a while by a measure -/
theorem while_ind {c : uT} {s : uS} {Q : UEnv → Prop} (I : Nat → UEnv → Prop) (hs : ∀ k σ, I k σ → (c σ = .ok false σ ∧ Q σ) ∨ (c σ = .ok true σ ∧ ∃ σ', s σ = .ok .nx σ' ∧ ∃ k', k' < k ∧ I k' σ')) : ∀ (N k : Nat) (σ : UEnv), k < N → I k σ → ∃ σ', uWhile c s N σ = .ok .nx σ' ∧ Q σ'
  | 0, k, σ, h, _ => absurd h (by omega)
  | N + 1, k, σ, h, hi => by
    unfold uWhile
    rcases hs k σ hi with ⟨h1, h2⟩ | ⟨h1, σ', h2, k', h3, h4⟩
    · rw [h1]; exact ⟨σ, rfl, h2⟩
    · obtain ⟨σ2, h5, h6⟩ := while_ind I hs N k' σ' (by omega) h4
      refine ⟨σ2, ?_, h6⟩
      rw [h1]
      dsimp only
      rw [h2]
      exact h5
/-- a comprehension that changes nothing -/
theorem comp_pure {α : Type} {enc : α → Wv} {g : uG} {t : uT} {e : uD} {ow : List Nat} (p : α → Bool) (f : α → Wv) : ∀ (as : List α) (acc : List Wv), acc.length + as.length ≤ SZ → (∀ a ∈ as, ∃ σ1 σ2, g (enc a) σ = some σ1 ∧ t σ1 = .ok (p a) σ2 ∧ (p a = true → ∃ σ3, uZ e σ2 = .ok (f a) σ3 ∧ wipeU σ3 ow = σ) ∧ (p a = false → wipeU σ2 ow = σ)) → uCompL g t e ow (as.map enc) acc σ = .ok (acc ++ (as.filter p).map f) σ
  | [], acc, _, _ => by simp [uCompL]
  | a :: as, acc, hz, h => by
    obtain ⟨σ1, σ2, h1, h2, h3, h4⟩ := h a (by simp)
    rw [List.map_cons, uCompL, h1]
    dsimp only
    rw [h2]
    rw [List.length_cons] at hz
    cases hp : p a with
    | true =>
      obtain ⟨σ3, h5, h6⟩ := h3 hp
      dsimp only
      rw [h5]
      dsimp only
      rw [decide_eq_true (by omega : acc.length < SZ), h6]
      dsimp only
      rw [comp_pure p f as (acc ++ [f a]) (by simp; omega) fun b hb => h b (by simp [hb])]
      rw [List.filter_cons, hp]
      simp
    | false =>
      dsimp only
      rw [h4 hp, comp_pure p f as acc (by omega) fun b hb => h b (by simp [hb])]
      rw [List.filter_cons, hp]
      simp
theorem comp_map {α : Type} {enc : α → Wv} {g : uG} {e : uD} {ow : List Nat} (f : α → Wv) (as : List α) (hz : as.length ≤ SZ) (h : ∀ a ∈ as, ∃ σ1, g (enc a) σ = some σ1 ∧ ∃ σ3, uZ e σ1 = .ok (f a) σ3 ∧ wipeU σ3 ow = σ) : uCompL g utYes e ow (as.map enc) [] σ = .ok (as.map f) σ := by
  rw [comp_pure (fun _ => true) f as [] (by simpa using hz) fun a ha => ?_]
  · rw [List.filter_eq_self.mpr (by simp), List.nil_append]
  · obtain ⟨σ1, h1, σ3, h2, h3⟩ := h a ha
    exact ⟨σ1, σ1, h1, rfl, fun _ => ⟨σ3, h2, h3⟩, fun x => by cases x⟩
/-- .. that changes something: by what holds of what is made so far -/
theorem comp_inv {α : Type} {enc : α → Wv} {g : uG} {t : uT} {e : uD} {ow : List Nat} (I : List α → List Wv → UEnv → Prop) : ∀ (as done : List α) (acc : List Wv) (σ : UEnv), acc.length + as.length ≤ SZ → I done acc σ → (∀ (d : List α) (a : α) (r : List α) (acc : List Wv) (σ : UEnv), done ++ as = d ++ a :: r → I d acc σ → ∃ σ1 k σ2, g (enc a) σ = some σ1 ∧ t σ1 = .ok k σ2 ∧ (k = true → ∃ y σ3, uZ e σ2 = .ok y σ3 ∧ I (d ++ [a]) (acc ++ [y]) (wipeU σ3 ow)) ∧ (k = false → I (d ++ [a]) acc (wipeU σ2 ow))) → ∃ r σ', uCompL g t e ow (as.map enc) acc σ = .ok r σ' ∧ I (done ++ as) r σ'
  | [], done, acc, σ, _, h, _ => ⟨acc, σ, rfl, by simpa using h⟩
  | a :: as, done, acc, σ, hz, h, hs => by
    obtain ⟨σ1, k, σ2, h1, h2, h3, h4⟩ := hs done a as acc σ rfl h
    rw [List.map_cons, uCompL, h1]
    dsimp only
    rw [h2]
    rw [List.length_cons] at hz
    have nx : ∀ (acc' : List Wv) (σ' : UEnv), acc'.length + as.length ≤ SZ → I (done ++ [a]) acc' σ' → ∃ r σ2, uCompL g t e ow (as.map enc) acc' σ' = .ok r σ2 ∧ I (done ++ a :: as) r σ2 := fun acc' σ' hz' hi => by
      obtain ⟨r, σ2, c1, c2⟩ := comp_inv I as (done ++ [a]) acc' σ' hz' hi fun d b r acc σ e' => hs d b r acc σ (by rw [← e']; simp)
      exact ⟨r, σ2, c1, by simpa using c2⟩
    cases k with
    | true =>
      obtain ⟨y, σ3, h5, h6⟩ := h3 rfl
      dsimp only
      rw [h5]
      dsimp only
      rw [decide_eq_true (by omega : acc.length < SZ)]
      exact nx _ _ (by simp; omega) h6
    | false => exact nx _ _ (by omega) (h4 rfl)
theorem comp_invA {α : Type} {enc : α → Wv} {g : uG} {t : uT} {e : uD} {ow : List Nat} (I : List α → List Wv → UEnv → Prop) (as : List α) {σ : UEnv} (hz : as.length ≤ SZ) (h : I [] [] σ) (hs : ∀ (d : List α) (a : α) (r : List α) (acc : List Wv) (σ : UEnv), as = d ++ a :: r → I d acc σ → ∃ σ1 k σ2, g (enc a) σ = some σ1 ∧ t σ1 = .ok k σ2 ∧ (k = true → ∃ y σ3, uZ e σ2 = .ok y σ3 ∧ I (d ++ [a]) (acc ++ [y]) (wipeU σ3 ow)) ∧ (k = false → I (d ++ [a]) acc (wipeU σ2 ow))) : ∃ r σ', uCompL g t e ow (as.map enc) [] σ = .ok r σ' ∧ I as r σ' := by
  have := comp_inv (enc := enc) (g := g) (t := t) (e := e) (ow := ow) I as [] [] σ (by simpa using hz) h (by simpa using hs)
  simpa using this
end
/-! ### drawn numbers -/
def okS (s : Uv) : Prop := ∃ cs l x t, s = .src cs l x t ∧ cs.length ≤ 63
theorem pickB_ok' {s : Uv} (h : okS s) {k : Int} (h2 : 2 ≤ k) (hk : k.natAbs ≤ 18446744073709551615) : ∃ (r : Nat) (s' : Uv), pickBV [s, .w (.int k)] = .ok (.w (.int r)) [s', .w (.int k)] ∧ (r : Int) < k ∧ okS s' := by
  obtain ⟨cs, l, x, t, rfl, hz⟩ := h
  have hl : (popC l cs).2.length ≤ 63 := Nat.le_trans (popC_len l cs) hz
  unfold pickBV
  simp only [decide_eq_false (by omega : ¬ k < 2), decide_eq_true hz, smK_iff.mpr hk, Bool.and_self]
  have nn : ∀ a : Int, ∃ r : Nat, a % k = r ∧ (r : Int) < k := fun a => ⟨(a % k).toNat, by have := Int.emod_nonneg a (by omega : k ≠ 0); omega, by have := Int.emod_lt_of_pos a (by omega : 0 < k); have := Int.emod_nonneg a (by omega : k ≠ 0); omega⟩
  cases decide (1 < (popC l cs).1) with
  | true =>
    obtain ⟨r, e, hr⟩ := nn (popC l cs).1
    exact ⟨r, _, by rw [e], hr, _, _, _, _, rfl, hl⟩
  | false =>
    obtain ⟨r, e, hr⟩ := nn (mixA x (t + 1) / 16)
    exact ⟨r, _, by rw [e], hr, _, _, _, _, rfl, hl⟩
theorem pickA_ok' {s : Uv} (h : okS s) {k : Int} (h2 : 2 ≤ k) (hk : k.natAbs ≤ 18446744073709551615) : ∃ (r : Nat) (s' : Uv), pickAV [s, .w (.int k)] = .ok (.w (.int r)) [s', .w (.int k)] ∧ (r : Int) < k ∧ okS s' := by
  obtain ⟨cs, l, x, t, rfl, hz⟩ := h
  have hl : (popC l cs).2.length ≤ 63 := Nat.le_trans (popC_len l cs) hz
  unfold pickAV
  simp only [decide_eq_false (by omega : ¬ k < 2), decide_eq_true hz, smK_iff.mpr hk, Bool.and_self]
  have nn : ∀ a : Int, ∃ r : Nat, a % k = r ∧ (r : Int) < k := fun a => ⟨(a % k).toNat, by have := Int.emod_nonneg a (by omega : k ≠ 0); omega, by have := Int.emod_lt_of_pos a (by omega : 0 < k); have := Int.emod_nonneg a (by omega : k ≠ 0); omega⟩
  cases decide (1 < (popC l cs).1) with
  | true =>
    obtain ⟨r, e, hr⟩ := nn (popC l cs).1
    exact ⟨r, _, by rw [e], hr, _, _, _, _, rfl, hl⟩
  | false =>
    obtain ⟨r, e, hr⟩ := nn (mixA x (t + 1) / 16)
    exact ⟨r, _, by rw [e], hr, _, _, _, _, rfl, hl⟩
/-- .. of few -/
theorem pickB_few {s : Uv} (h : okS s) {k : Int} (h2 : k < 2) : ∃ s' : Uv, pickBV [s, .w (.int k)] = .ok (.w (.int 0)) [s', .w (.int k)] ∧ okS s' := by
  obtain ⟨cs, l, x, t, rfl, hz⟩ := h
  refine ⟨.src cs l x t, ?_, _, _, _, _, rfl, hz⟩
  unfold pickBV
  simp only [decide_eq_true h2]
theorem pickA_few' {s : Uv} (h : okS s) {k : Int} (h2 : k < 2) (hk : k.natAbs ≤ 18446744073709551615) : ∃ s' : Uv, pickAV [s, .w (.int k)] = .ok (.w (.int 0)) [s', .w (.int k)] ∧ okS s' := by
  obtain ⟨cs, l, x, t, rfl, hz⟩ := h
  refine ⟨.src cs l x t, ?_, _, _, _, _, rfl, hz⟩
  unfold pickAV
  simp only [decide_eq_true h2, decide_eq_true hz, smK_iff.mpr hk, Bool.and_self]
/-- a pick, however many -/
def Picks (pk : List Uv → FRes) : Prop := ∀ (s : Uv) (k : Int), okS s → k.natAbs ≤ 18446744073709551615 → ∃ (r : Nat) (s' : Uv), pk [s, .w (.int k)] = .ok (.w (.int r)) [s', .w (.int k)] ∧ ((r : Int) < k ∨ r = 0) ∧ okS s'
theorem picksB : Picks pickBV := fun s k h hk => by
  by_cases h2 : k < 2
  · obtain ⟨s', a, b⟩ := pickB_few h h2; exact ⟨0, s', a, .inr rfl, b⟩
  · obtain ⟨r, s', a, b, c⟩ := pickB_ok' h (by omega) hk; exact ⟨r, s', a, .inl b, c⟩
theorem picksA : Picks pickAV := fun s k h hk => by
  by_cases h2 : k < 2
  · obtain ⟨s', a, b⟩ := pickA_few' h h2 hk; exact ⟨0, s', a, .inr rfl, b⟩
  · obtain ⟨r, s', a, b, c⟩ := pickA_ok' h (by omega) hk; exact ⟨r, s', a, .inl b, c⟩
theorem intsW_ints : ∀ ns : List Int, intsW (ns.map .int) = some ns
  | [] => rfl
  | n :: ns => by rw [List.map_cons, intsW, intsW_ints ns]
theorem src_made {ns : List Int} (h : ns.length ≤ 63) : ∃ s, srcV [.w (.scr (ns.map .int))] = .ok s [.w (.scr (ns.map .int))] ∧ okS s := by
  refine ⟨.src (ns.map fun i => if i < 0 then -i else i) 1 (stir ns) 0, ?_, _, _, _, _, rfl, by simpa using h⟩
  unfold srcV
  simp only [intsW_ints, decide_eq_true h]
/-- l drawn numbers below k -/
theorem comp_draw {g : uG} {e : uD} {ow : List Nat} {k : Int} (mk : Uv → UEnv) (hs : ∀ (s : Uv) (x : Wv), okS s → ∃ σ1, g x (mk s) = some σ1 ∧ ∃ (r : Nat) (s' : Uv) (σ3 : UEnv), uZ e σ1 = .ok (.int r) σ3 ∧ wipeU σ3 ow = mk s' ∧ ((r : Int) < k ∨ r = 0) ∧ okS s') (ws : List Wv) (hz : ws.length ≤ SZ) {s : Uv} (h : okS s) :
    ∃ (l : List Nat) (s' : Uv), uCompL g utYes e ow ws [] (mk s) = .ok (l.map fun (n : Nat) => .int n) (mk s') ∧ l.length = ws.length ∧ (∀ a ∈ l, (a : Int) < k ∨ a = 0) ∧ okS s' := by
  have := comp_invA (enc := fun w : Wv => w) (g := g) (t := utYes) (e := e) (ow := ow) (fun d acc σ => ∃ (l : List Nat) (s' : Uv), σ = mk s' ∧ acc = l.map (fun (n : Nat) => .int n) ∧ l.length = d.length ∧ (∀ a ∈ l, (a : Int) < k ∨ a = 0) ∧ okS s') ws (σ := mk s) hz ⟨[], s, rfl, rfl, rfl, by simp, h⟩ (fun d a r acc σ _ ⟨l, s1, e1, e2, e3, e4, e5⟩ => by
    subst e1 e2
    obtain ⟨σ1, h1, r, s', σ3, h2, h3, h4, h5⟩ := hs s1 a e5
    exact ⟨σ1, true, σ1, h1, rfl, fun _ => ⟨_, σ3, h2, l ++ [r], s', h3, by simp, by simp [e3], fun b hb => by
      rcases List.mem_append.mp hb with hb | hb
      · exact e4 b hb
      · rw [List.mem_singleton.mp hb]; exact h4, h5⟩, fun x => by cases x⟩)
  simp only [List.map_id'] at this
  obtain ⟨r, σ', h1, l, s', rfl, rfl, h2, h3, h4⟩ := this
  exact ⟨l, s', h1, h2, h3, h4⟩
/-! ### running on -/
def Runs (s : uS) (σ : UEnv) (J : UEnv → Prop) : Prop := ∃ σ', s σ = .ok .nx σ' ∧ J σ'
def Rets (s : uS) (σ : UEnv) (v : Uv) (J : UEnv → Prop) : Prop := ∃ σ', s σ = .ok (.rt v) σ' ∧ J σ'
section
variable {σ : UEnv} {J : UEnv → Prop} {s t : uS} {v : Uv}
theorem runs_eq {σ' : UEnv} (h : s σ = .ok .nx σ') (j : J σ') : Runs s σ J := ⟨σ', h, j⟩
theorem rets_eq {σ' : UEnv} (h : s σ = .ok (.rt v) σ') (j : J σ') : Rets s σ v J := ⟨σ', h, j⟩
theorem Runs.mono {J' : UEnv → Prop} (h : Runs s σ J) (w : ∀ σ', J σ' → J' σ') : Runs s σ J' := let ⟨σ', a, b⟩ := h; ⟨σ', a, w σ' b⟩
theorem runs_seq (h : Runs s σ fun σ1 => Runs t σ1 J) : Runs (uSeq s t) σ J := by
  obtain ⟨σ1, h1, σ2, h2, h3⟩ := h
  exact ⟨σ2, useq h1 h2, h3⟩
theorem rets_seq (h : Runs s σ fun σ1 => Rets t σ1 v J) : Rets (uSeq s t) σ v J := by
  obtain ⟨σ1, h1, σ2, h2, h3⟩ := h
  exact ⟨σ2, useq h1 h2, h3⟩
theorem rets_now (h : Rets s σ v J) : Rets (uSeq s t) σ v J := by
  obtain ⟨σ1, h1, h2⟩ := h
  refine ⟨σ1, ?_, h2⟩
  unfold uSeq
  rw [h1]
theorem runs_seq2 {a b : uS} {σ' : UEnv} (h : uSeq a b σ = .ok .nx σ') (h2 : Runs t σ' J) : Runs (uSeq a (uSeq b t)) σ J := by
  obtain ⟨σ2, h3, h4⟩ := h2
  refine ⟨σ2, ?_, h4⟩
  unfold uSeq at h ⊢
  cases q : a σ with
  | ok f σ1 =>
    cases f with
    | nx =>
      rw [q] at h
      dsimp only at h ⊢
      rw [h]
      exact h3
    | _ => rw [q] at h; cases h
  | exc _ _ _ => rw [q] at h; cases h
  | bad => rw [q] at h; cases h
theorem runs_seq3 {a b c : uS} {σ' : UEnv} (h : uSeq a (uSeq b c) σ = .ok .nx σ') (h2 : Runs t σ' J) : Runs (uSeq a (uSeq b (uSeq c t))) σ J := by
  obtain ⟨σ2, h3, h4⟩ := h2
  refine ⟨σ2, ?_, h4⟩
  unfold uSeq at h ⊢
  cases q : a σ with
  | ok f σ1 =>
    cases f with
    | nx =>
      rw [q] at h
      dsimp only at h ⊢
      cases q2 : b σ1 with
      | ok f σ3 =>
        cases f with
        | nx =>
          rw [q2] at h
          dsimp only at h ⊢
          rw [h]
          exact h3
        | _ => rw [q2] at h; cases h
      | exc _ _ _ => rw [q2] at h; cases h
      | bad => rw [q2] at h; cases h
    | _ => rw [q] at h; cases h
  | exc _ _ _ => rw [q] at h; cases h
  | bad => rw [q] at h; cases h
theorem runs_dr {L : List Nat} (h : Runs s σ fun σ' => J (wipeU σ' L)) : Runs (uDr s L) σ J := by
  obtain ⟨σ1, h1, h2⟩ := h
  refine ⟨_, ?_, h2⟩
  unfold uDr
  rw [h1]
theorem rets_dr {L : List Nat} (h : Rets s σ v fun σ' => J (wipeU σ' L)) : Rets (uDr s L) σ v J := by
  obtain ⟨σ1, h1, h2⟩ := h
  refine ⟨_, ?_, h2⟩
  unfold uDr
  rw [h1]
theorem runs_for {src : uL} {g : uG} {ws : List Wv} {σ0 : UEnv} (I : UEnv → Prop) (hsrc : src σ = .ok ws σ0) (h0 : I σ0) (hs : ∀ x ∈ ws, ∀ σ, I σ → ∃ σ1, g x σ = some σ1 ∧ Runs s σ1 I) (hend : ∀ σ, I σ → J σ) : Runs (uFor src g s) σ J := by
  obtain ⟨σ', h1, h2⟩ := for_inv I ws σ0 h0 fun x hx σ hi => by
    obtain ⟨σ1, a, σ', b, c⟩ := hs x hx σ hi
    exact ⟨σ1, σ', a, b, c⟩
  refine ⟨σ', ?_, hend _ h2⟩
  unfold uFor uthn
  rw [hsrc]
  exact h1
theorem runs_forA {α : Type} {enc : α → Wv} {as : List α} {src : uL} {g : uG} {σ0 : UEnv} (I : List α → UEnv → Prop) (hsrc : src σ = .ok (as.map enc) σ0) (h0 : I [] σ0) (hs : ∀ (d : List α) (a : α) (r : List α) (σ : UEnv), as = d ++ a :: r → I d σ → ∃ σ1, g (enc a) σ = some σ1 ∧ Runs s σ1 (I (d ++ [a]))) (hend : ∀ σ, I as σ → J σ) : Runs (uFor src g s) σ J := by
  obtain ⟨σ', h1, h2⟩ := for_invA (enc := enc) (g := g) (s := s) I as h0 fun d a r σ e hi => by
    obtain ⟨σ1, a, σ', b, c⟩ := hs d a r σ e hi
    exact ⟨σ1, σ', a, b, c⟩
  refine ⟨σ', ?_, hend _ h2⟩
  unfold uFor uthn
  rw [hsrc]
  exact h1
theorem runs_fold {α β : Type} {enc : α → Wv} {as : List α} {src : uL} {g : uG} {σ0 : UEnv} (mk : β → UEnv) (f : β → α → β) (b : β) (hsrc : src σ = .ok (as.map enc) σ0) (h0 : σ0 = mk b) (hs : ∀ b, ∀ a ∈ as, ∃ σ1, g (enc a) (mk b) = some σ1 ∧ s σ1 = .ok .nx (mk (f b a))) (hend : J (mk (as.foldl f b))) : Runs (uFor src g s) σ J := by
  refine ⟨_, ?_, hend⟩
  unfold uFor uthn
  rw [hsrc, h0]
  exact for_fold mk f as b hs
theorem runs_while {c : uT} {N : Nat} (I : Nat → UEnv → Prop) (k : Nat) (hk : k < N) (h0 : I k σ) (hs : ∀ k σ, I k σ → (c σ = .ok false σ ∧ J σ) ∨ (c σ = .ok true σ ∧ Runs s σ fun σ' => ∃ k', k' < k ∧ I k' σ')) : Runs (uWhile c s N) σ J := by
  obtain ⟨σ', a, b⟩ := while_ind (c := c) (s := s) (Q := J) I (fun k σ hi => by
    rcases hs k σ hi with h | ⟨h, σ', a, b⟩
    · exact .inl h
    · exact .inr ⟨h, σ', a, b⟩) N k σ hk h0
  exact ⟨σ', a, b⟩
/-- if c: s -/
theorem runs_if {c : uT} {k : Bool} {σ1 : UEnv} (hc : c σ = .ok k σ1) (h : k = true → Runs s σ1 J) (h2 : k = false → Runs t σ1 J) : Runs (uIfS c s t) σ J := by
  cases k with
  | true =>
    obtain ⟨σ', a, b⟩ := h rfl
    refine ⟨σ', ?_, b⟩
    unfold uIfS uthn
    rw [hc]
    exact a
  | false =>
    obtain ⟨σ', a, b⟩ := h2 rfl
    refine ⟨σ', ?_, b⟩
    unfold uIfS uthn
    rw [hc]
    exact a
theorem runs_not {c : uT} {σ1 : UEnv} (hc : c σ = .ok false σ1) (j : J σ1) : Runs (uIfS c s uNx) σ J := by
  refine ⟨σ1, ?_, j⟩
  unfold uIfS uthn
  rw [hc]
  rfl
theorem fn_of_rets {n N : Nat} {ms : List Nat} {vs vs' : List Uv} {v : Uv} (hl : vs.length = n) (h : Rets s (vs.map some ++ List.replicate (N - n) none) v fun σ => outs ms σ 0 vs = some vs') : uFn n N ms s vs = .ok v vs' := by
  obtain ⟨σ', a, b⟩ := h
  exact uFn_ret hl a b
end
end G

/-! X2: values with a Lean type: equal, less, members, sorted, texts. -/
namespace G
open PySem (Str PyData)
class Ec (α : Type) [DecidableEq α] where
  w : α → Wv
  d : α → PyData
  wd : ∀ (a : α) (f : Nat), (d a).depth ≤ f → wdat f (w a) = some (d a)
  eq : ∀ a b : α, PyData.eqv (d a) (d b) = decide (a = b)
  lay : ∀ a : α, (d a).canLay0 = true
class EcO (α : Type) [DecidableEq α] extends Ec α where
  lt : α → α → Bool
  al : ∀ a b : α, PySem.W.alike (d a) (d b) = true
  lt_eq : ∀ a b : α, PySem.W.dataLt (d a) (d b) = lt a b
/-- of a bounded depth -/
class EcB (α : Type) [DecidableEq α] [Ec α] where
  B : Nat
  le : ∀ a : α, (Ec.d a).depth ≤ B
open Ec (w d)
instance : Ec Int where
  w i := .int i
  d i := .int i
  wd a f _ := by cases f <;> rfl
  eq a b := by simp only [PyData.eqv]; rfl
  lay a := by simp only [PyData.canLay0]
instance : EcO Int where
  lt a b := decide (a < b)
  al a b := by show PySem.W.alike (.int a) (.int b) = true; simp only [PySem.W.alike]
  lt_eq a b := PySem.W.dataLt_int a b
instance : EcB Int where
  B := 0
  le a := by show (PyData.int a).depth ≤ 0; simp only [PyData.depth]; omega
instance : Ec Nat where
  w i := .int i
  d i := .int i
  wd a f _ := by cases f <;> rfl
  eq a b := by
    simp only [PyData.eqv]
    by_cases h : a = b
    · subst h; simp
    · simp [h, Int.natCast_inj]
  lay a := by simp only [PyData.canLay0]
instance : EcO Nat where
  lt a b := decide (a < b)
  al a b := by show PySem.W.alike (.int a) (.int b) = true; simp only [PySem.W.alike]
  lt_eq a b := by
    show PySem.W.dataLt (.int a) (.int b) = _
    rw [PySem.W.dataLt_int]
    simp
instance : EcB Nat where
  B := 0
  le a := by show (PyData.int a).depth ≤ 0; simp only [PyData.depth]; omega
section
variable {α β : Type} [DecidableEq α] [DecidableEq β]
theorem wdats_map [Ec α] (f : Nat) : ∀ l : List α, (∀ a ∈ l, (d a).depth ≤ f) → wdats f (l.map w) = some (l.map d)
  | [], _ => by simp only [List.map_nil, wdats]
  | a :: l, h => by
    rw [List.map_cons, wdats, Ec.wd a f (h a (by simp)), wdats_map f l fun b hb => h b (by simp [hb])]
    rfl
theorem depthAll_le {ds : List PyData} {n : Nat} : PyData.depthAll ds ≤ n ↔ ∀ d ∈ ds, d.depth ≤ n := by
  induction ds with
  | nil => simp [PyData.depthAll]
  | cons d ds ih => simp only [PyData.depthAll, Nat.max_le, ih, List.mem_cons, forall_eq_or_imp]
theorem eqvAll_map [Ec α] : ∀ l r : List α, PyData.eqvAll (l.map d) (r.map d) = decide (l = r)
  | [], [] => by simp [PyData.eqvAll]
  | [], _ :: _ => by simp [PyData.eqvAll]
  | _ :: _, [] => by simp [PyData.eqvAll]
  | a :: l, b :: r => by
    simp only [List.map_cons, PyData.eqvAll, Ec.eq, eqvAll_map l r]
    simp [List.cons.injEq]
theorem canLayAll_map [Ec α] : ∀ l : List α, PyData.canLayAll0 (l.map d) = true
  | [] => by simp [PyData.canLayAll0]
  | a :: l => by simp only [List.map_cons, PyData.canLayAll0, Ec.lay, canLayAll_map l, Bool.and_self]
theorem mem_depth [Ec α] {l : List α} {f : Nat} (h : PyData.depthAll (l.map d) ≤ f) : ∀ a ∈ l, (d a).depth ≤ f := fun a ha => depthAll_le.mp h _ (List.mem_map_of_mem ha)
/-- a list of one kind is told as a tuple -/
instance [Ec α] : Ec (List α) where
  w l := .tup (l.map w)
  d l := .tuple (l.map d)
  wd l f h := by
    simp only [PyData.depth] at h
    cases f with
    | zero => omega
    | succ f =>
      simp only [wdat]
      rw [wdats_map f l (mem_depth (by omega))]
      rfl
  eq l r := by simp only [PyData.eqv]; exact eqvAll_map l r
  lay l := by simp only [PyData.canLay0]; exact canLayAll_map l
def lexL (lt : α → α → Bool) : List α → List α → Bool
  | [], [] => false
  | [], _ :: _ => true
  | _ :: _, [] => false
  | x :: xs, y :: ys => if x = y then lexL lt xs ys else lt x y
theorem alikeAll_ec [EcO α] : ∀ xs ys : List α, PySem.W.alikeAll (xs.map d) (ys.map d) = true
  | [], _ => by rw [List.map_nil, PySem.W.alikeAll]
  | _ :: _, [] => by rw [List.map_nil, List.map_cons, PySem.W.alikeAll]
  | x :: xs, y :: ys => by
    rw [List.map_cons, List.map_cons, PySem.W.alikeAll, EcO.al x y, alikeAll_ec xs ys]
    rfl
theorem lex_ec [EcO α] : ∀ xs ys : List α, PyProof.Rows.lexLt PyProof.Rows.itemOrd (PySem.W.keyToksAll (xs.map d)) (PySem.W.keyToksAll (ys.map d)) = lexL EcO.lt xs ys
  | [], [] => PyProof.Rows.lex_irrefl _
  | [], y :: ys => by
    rw [List.map_nil, List.map_cons, PySem.W.toks_all_cons]
    simp only [PySem.W.keyToksAll]
    rw [PyProof.Rows.lex_diff (O := PyProof.Rows.itemOrd) (by simp)]
    rfl
  | x :: xs, [] => by
    rw [List.map_nil, List.map_cons, PySem.W.toks_all_cons]
    simp only [PySem.W.keyToksAll]
    rw [PyProof.Rows.lex_diff (O := PyProof.Rows.itemOrd) (by simp)]
    rfl
  | x :: xs, y :: ys => by
    rw [List.map_cons, List.map_cons, lexL]
    by_cases h : x = y
    · rw [if_pos h, PySem.W.dataLt_all_yes (EcO.al x y) (by rw [Ec.eq, decide_eq_true_eq]; exact h), lex_ec xs ys]
    · rw [if_neg h, PySem.W.dataLt_all_no (EcO.al x y) (by rw [Ec.eq, decide_eq_false_iff_not]; exact h)]
      exact EcO.lt_eq x y
instance [EcO α] : EcO (List α) where
  lt := lexL EcO.lt
  al xs ys := by show PySem.W.alike (.tuple _) (.tuple _) = true; simp only [PySem.W.alike]; exact alikeAll_ec xs ys
  lt_eq xs ys := (PySem.W.dataLt_tuple _ _).trans (lex_ec xs ys)
instance [Ec α] [EcB α] : EcB (List α) where
  B := EcB.B α + 1
  le l := by
    show (PyData.tuple (l.map d)).depth ≤ _
    simp only [PyData.depth]
    have := depthAll_le (ds := l.map (d (α := α))) (n := EcB.B α)
    have := this.mpr fun x hx => by
      obtain ⟨a, _, rfl⟩ := List.mem_map.mp hx
      exact EcB.le a
    omega
/-- pairs are told as tuples of two -/
instance [Ec α] [Ec β] : Ec (α × β) where
  w p := .tup [w p.1, w p.2]
  d p := .tuple [d p.1, d p.2]
  wd p f h := by
    simp only [PyData.depth, PyData.depthAll] at h
    cases f with
    | zero => omega
    | succ f =>
      simp only [wdat, wdats]
      rw [Ec.wd p.1 f (by omega), Ec.wd p.2 f (by omega)]
      rfl
  eq p q := by
    simp only [PyData.eqv, PyData.eqvAll, Ec.eq, Bool.and_true]
    by_cases h : p.1 = q.1 <;> by_cases h2 : p.2 = q.2 <;> simp [h, h2, Prod.ext_iff]
  lay p := by simp only [PyData.canLay0, PyData.canLayAll0, Ec.lay, Bool.and_self]
theorem dataLt_pairE [EcO α] [EcO β] (p q : α × β) : PySem.W.dataLt (.tuple [d p.1, d p.2]) (.tuple [d q.1, d q.2]) = if p.1 = q.1 then EcO.lt p.2 q.2 else EcO.lt p.1 q.1 := by
  refine (PySem.W.dataLt_tuple _ _).trans ?_
  by_cases h : p.1 = q.1
  · rw [if_pos h, PySem.W.dataLt_all_yes (EcO.al p.1 q.1) (by rw [Ec.eq, decide_eq_true_eq]; exact h)]
    by_cases h2 : p.2 = q.2
    · rw [PySem.W.dataLt_all_yes (EcO.al p.2 q.2) (by rw [Ec.eq, decide_eq_true_eq]; exact h2), PyProof.Rows.lex_irrefl, h2]
      exact ((PySem.W.dataLt_self _).symm.trans (EcO.lt_eq q.2 q.2))
    · rw [PySem.W.dataLt_all_no (EcO.al p.2 q.2) (by rw [Ec.eq, decide_eq_false_iff_not]; exact h2)]
      exact EcO.lt_eq p.2 q.2
  · rw [if_neg h, PySem.W.dataLt_all_no (EcO.al p.1 q.1) (by rw [Ec.eq, decide_eq_false_iff_not]; exact h)]
    exact EcO.lt_eq p.1 q.1
instance [EcO α] [EcO β] : EcO (α × β) where
  lt p q := if p.1 = q.1 then EcO.lt p.2 q.2 else EcO.lt p.1 q.1
  al p q := by
    show PySem.W.alike (.tuple [_, _]) (.tuple [_, _]) = true
    simp only [PySem.W.alike, PySem.W.alikeAll, EcO.al, Bool.and_self]
  lt_eq p q := dataLt_pairE p q
instance [Ec α] [Ec β] [EcB α] [EcB β] : EcB (α × β) where
  B := max (EcB.B α) (EcB.B β) + 1
  le p := by
    show (PyData.tuple [d p.1, d p.2]).depth ≤ _
    simp only [PyData.depth, PyData.depthAll]
    have := EcB.le p.1
    have := EcB.le p.2
    omega
/-! ### equal, less -/
theorem eqU_of_D {neg : Bool} {v u r : Uv} (h : eqD_ neg v u = some r) : eqU neg v u = some r := by
  have hs : ∀ {v : Uv} {dd : PyData}, udat v = some dd → True := fun _ => trivial
  unfold eqU
  split
  · unfold eqD_ at h
    simp only [udat, DD, wdat] at h
    split at h
    · cases h; simp only [PyData.eqv]; congr
    · cases h
  · unfold eqD_ at h
    simp only [udat, DD, wdat] at h
    split at h
    · cases h; simp only [PyData.eqv]; congr
    · cases h
  · unfold eqD_ at h
    simp only [udat, DD, wdat] at h
    split at h
    · cases h; simp only [PyData.eqv]; congr
    · cases h
  · unfold eqD_ at h
    simp only [udat, DD, wdat] at h
    split at h
    · cases h; simp only [PyData.eqv]
    · cases h
  · exact h
theorem shaped_ec [Ec α] {a : α} (h : (d a).depth ≤ 60) : PySem.SeqAt.shaped (d a) = true := by
  unfold PySem.SeqAt.shaped
  rw [Ec.lay, decide_eq_true (by omega)]
  rfl
theorem eqU_ec [Ec α] (neg : Bool) (a b : α) (ha : (d a).depth ≤ 60) (hb : (d b).depth ≤ 60) : eqU neg (.w (w a)) (.w (w b)) = some (.w (.bl (decide (a = b) != neg))) := by
  apply eqU_of_D
  unfold eqD_
  simp only [udat, DD]
  rw [Ec.wd a 60 ha, Ec.wd b 60 hb]
  dsimp only
  rw [shaped_ec ha, shaped_ec hb, Ec.eq]
  rfl
theorem eqU_b [Ec α] [EcB α] (neg : Bool) (a b : α) (h : EcB.B α ≤ 60 := by decide) : eqU neg (.w (w a)) (.w (w b)) = some (.w (.bl (decide (a = b) != neg))) := eqU_ec neg a b (Nat.le_trans (EcB.le a) h) (Nat.le_trans (EcB.le b) h)
/-! ### members -/
theorem any_ec [Ec α] (a : α) (l : List α) : ((l.map d).any fun z => PyData.eqv z (d a)) = decide (a ∈ l) := by
  induction l with
  | nil => simp
  | cons b l ih =>
    rw [List.map_cons, List.any_cons, ih, Ec.eq]
    by_cases h : b = a
    · subst h; simp
    · have h' : ¬ a = b := fun e => h e.symm
      simp [h, h']
theorem seq_depth [Ec α] {l : List α} (h : ∀ a ∈ l, (d a).depth ≤ 59) : PyData.depthAll (l.map d) ≤ 59 := depthAll_le.mpr fun x hx => by
  obtain ⟨a, ha, rfl⟩ := List.mem_map.mp hx
  exact h a ha
theorem memD_tup [Ec α] (a : α) (l : List α) (ha : (d a).depth ≤ 60) (hl : ∀ a ∈ l, (d a).depth ≤ 59) : memD (.w (w a)) (.w (.tup (l.map w))) = some (decide (a ∈ l)) := by
  unfold memD
  simp only [udat, DD, wdat]
  rw [Ec.wd a 60 ha, wdats_map 59 l hl]
  dsimp only [Option.map_some]
  have hd := seq_depth hl
  have e : PySem.SeqAt.shaped (.tuple (l.map d)) = true := by
    unfold PySem.SeqAt.shaped
    simp only [PyData.canLay0, canLayAll_map, PyData.depth, Bool.true_and]
    exact decide_eq_true (by omega)
  rw [shaped_ec ha, e]
  simp only [Bool.and_self, seqD, Option.map_some, any_ec]
theorem memD_lst [Ec α] (a : α) (l : List α) (ha : (d a).depth ≤ 60) (hl : ∀ a ∈ l, (d a).depth ≤ 59) (v : Uv) (hv : v = .lst (l.map w) ∨ v = .w (.lst (l.map w))) : memD (.w (w a)) v = some (decide (a ∈ l)) := by
  have hu : udat v = some (.list (l.map d)) := by
    rcases hv with rfl | rfl <;> (simp only [udat, DD, wdat]; rw [wdats_map 59 l hl]; rfl)
  unfold memD
  rw [hu]
  simp only [udat, DD]
  rw [Ec.wd a 60 ha]
  dsimp only
  have hd := seq_depth hl
  have e : PySem.SeqAt.shaped (.list (l.map d)) = true := by
    unfold PySem.SeqAt.shaped
    simp only [PyData.canLay0, canLayAll_map, PyData.depth, Bool.true_and]
    exact decide_eq_true (by omega)
  rw [shaped_ec ha, e]
  simp only [Bool.and_self, seqD, Option.map_some, any_ec]
section
variable [Ec α] [EcB α] (a : α) (l : List α) (h : EcB.B α ≤ 59)
include h
theorem dep59 : ∀ a ∈ l, (d a).depth ≤ 59 := fun a _ => Nat.le_trans (EcB.le a) h
theorem memU_tup : memU (.w (w a)) (.w (.tup (l.map w))) = some (decide (a ∈ l)) := memD_tup a l (by have := EcB.le a; omega) (dep59 l h)
theorem memU_lst : memU (.w (w a)) (.w (.lst (l.map w))) = some (decide (a ∈ l)) := memD_lst a l (by have := EcB.le a; omega) (dep59 l h) _ (.inr rfl)
theorem memU_own : memU (.w (w a)) (.lst (l.map w)) = some (decide (a ∈ l)) := memD_lst a l (by have := EcB.le a; omega) (dep59 l h) _ (.inl rfl)
end
/-! ### sorted -/
def sortE [EcO α] (l : List α) : List α := ms (fun a b => !EcO.lt b a) (l.length + 1) l
theorem sortE_eq [EcO α] (l : List α) : sortE l = l.mergeSort fun a b => !EcO.lt b a := ms_eq _ _ _ (Nat.lt_succ_self _)
theorem sortE_perm [EcO α] (l : List α) : (sortE l).Perm l := by rw [sortE_eq]; exact List.mergeSort_perm _ _
theorem keysW_map [Ec α] : ∀ l : List α, (∀ a ∈ l, (d a).depth ≤ 60) → keysW (l.map w) = some (l.map fun a => (w a, d a))
  | [], _ => rfl
  | a :: l, h => by
    rw [List.map_cons, keysW, show DD = 60 from rfl, Ec.wd a 60 (h a (by simp)), keysW_map l fun b hb => h b (by simp [hb])]
    rfl
theorem sortW_ec [EcO α] (l : List α) (h : ∀ a ∈ l, (d a).depth ≤ 60) (hk : (l.map d).all isTup1 = true ∨ (l.map d).all isOther = true) : sortW (l.map w) = some ((sortE l).map w) := by
  unfold sortW
  rw [keysW_map l h]
  dsimp only
  have e : List.map (·.2) (l.map fun a => (w a, d a)) = l.map d := by simp [List.map_map, Function.comp_def]
  rw [e]
  have ha : allAlike (l.map d) = true := by
    unfold allAlike
    refine List.all_eq_true.mpr fun x hx => List.all_eq_true.mpr fun y hy => ?_
    obtain ⟨a, _, rfl⟩ := List.mem_map.mp hx
    obtain ⟨b, _, rfl⟩ := List.mem_map.mp hy
    exact EcO.al a b
  have hb : ((l.map d).all isTup1 || (l.map d).all isOther) = true := by
    rcases hk with h | h <;> simp [h]
  rw [ha, hb]
  show some (List.map (·.1) (ms (fun a b => !PySem.W.dataLt b.2 a.2) ((l.map fun a => (w a, d a)).length + 1) (l.map fun a => (w a, d a)))) = _
  rw [ms_map]
  simp only [List.length_map, List.map_map, EcO.lt_eq]
  rfl
theorem sortW_nat (l : List Nat) : sortW (l.map w) = some ((sortE l).map w) := sortW_ec l (fun a _ => by have := EcB.le a; show _ ≤ 60; exact Nat.le_trans this (by decide)) (.inr (List.all_eq_true.mpr fun x hx => by
  obtain ⟨a, _, rfl⟩ := List.mem_map.mp hx
  rfl))
theorem sortW_pair [EcO α] [EcO β] [EcB α] [EcB β] (l : List (α × β)) (h : EcB.B (α × β) ≤ 60 := by decide) : sortW (l.map w) = some ((sortE l).map w) := sortW_ec l (fun a _ => Nat.le_trans (EcB.le a) h) (.inl (List.all_eq_true.mpr fun x hx => by
  obtain ⟨a, _, rfl⟩ := List.mem_map.mp hx
  rfl))
/-- lists none of which is empty -/
theorem sortW_lists [EcO α] [EcB α] (l : List (List α)) (hn : ∀ a ∈ l, a ≠ []) (h : EcB.B (List α) ≤ 60 := by decide) : sortW (l.map w) = some ((sortE l).map w) := sortW_ec l (fun a _ => Nat.le_trans (EcB.le a) h) (.inl (List.all_eq_true.mpr fun x hx => by
  obtain ⟨a, ha, rfl⟩ := List.mem_map.mp hx
  cases a with
  | nil => exact absurd rfl (hn _ ha)
  | cons b t => rfl))
/-! ### texts -/
/-- a datum whose text is not too long -/
def Sm (x : PyData) (B : Nat) : Prop := x.showable = true ∧ wgt x ≤ B
theorem shwD_sm {x : PyData} {B : Nat} (h : Sm x B) (hB : B ≤ SZ) : shwD x = some (.w (.str x.shown)) := by
  unfold shwD
  rw [h.1, decide_eq_true (Nat.le_trans (shown_le x) (Nat.le_trans h.2 hB))]
  rfl
theorem Sm.mono {x : PyData} {B C : Nat} (h : Sm x B) (hB : B ≤ C) : Sm x C := ⟨h.1, Nat.le_trans h.2 hB⟩
theorem sm_int {i : Int} (h : i.natAbs < 18446744073709551616) : Sm (.int i) 65 := shw_int h
theorem sm_bl (b : Bool) : Sm (.bool b) 5 := ⟨by simp only [PyData.showable], by simp only [wgt]; omega⟩
theorem sm_non : Sm .none 4 := ⟨by simp only [PyData.showable], by simp only [wgt]; omega⟩
theorem sm_list {ds : List PyData} {B : Nat} (h : ∀ x ∈ ds, Sm x B) : Sm (.list ds) (ds.length * (B + 2) + 3) := ⟨by simp only [PyData.showable]; exact showAll fun x hx => (h x hx).1, by simp only [wgt]; have := wgtAll_le fun x hx => (h x hx).2; omega⟩
theorem sm_tuple {ds : List PyData} {B : Nat} (h : ∀ x ∈ ds, Sm x B) : Sm (.tuple ds) (ds.length * (B + 2) + 3) := ⟨by simp only [PyData.showable]; exact showAll fun x hx => (h x hx).1, by simp only [wgt]; have := wgtAll_le fun x hx => (h x hx).2; omega⟩
theorem reprU_ec [Ec α] (a : α) {B : Nat} (h : (d a).depth ≤ 60) (hs : Sm (d a) B) (hB : B ≤ SZ) : reprU (.w (w a)) = some (.w (.str (d a).shown)) := by
  unfold reprU
  simp only [udat, DD]
  rw [Ec.wd a 60 h]
  exact shwD_sm hs hB
/-- two texts of one value: the test that they differ fails -/
theorem ne_same {x : Str} : eqU true (.w (.str x)) (.w (.str x)) = some (.w (.bl false)) := by simp [eqU]
theorem eq_same {x : Str} : eqU false (.w (.str x)) (.w (.str x)) = some (.w (.bl true)) := by simp [eqU]
end
end G

/-! X3: whole numbers: least missing ones, sums without carrying. -/
namespace G
open Ec (w d)
open PySem (Str PyData)
def mexF (l : List Nat) : Nat → Nat → Nat
  | 0, n => n
  | f + 1, n => if n ∈ l then mexF l f (n + 1) else n
def mexN (l : List Nat) : Nat := mexF l (l.length + 1) 0
theorem below_len : ∀ (n : Nat) (l : List Nat), (∀ m, m < n → m ∈ l) → n ≤ l.length
  | 0, l, _ => Nat.zero_le _
  | n + 1, l, h => by
    have hn := h n (by omega)
    have := below_len n (l.erase n) fun m hm => (List.mem_erase_of_ne (by omega)).mpr (h m (by omega))
    rw [List.length_erase_of_mem hn] at this
    have := List.length_pos_of_mem hn
    omega
theorem mexF_spec (l : List Nat) : ∀ (f n : Nat), (∀ m, m < n → m ∈ l) → l.length < n + f → (∀ m, m < mexF l f n → m ∈ l) ∧ mexF l f n ∉ l
  | 0, n, h, hf => by have := below_len n l h; omega
  | f + 1, n, h, hf => by
    unfold mexF
    by_cases hn : n ∈ l
    · rw [if_pos hn]
      exact mexF_spec l f (n + 1) (fun m hm => by by_cases e : m = n; exact e ▸ hn; exact h m (by omega)) (by omega)
    · rw [if_neg hn]
      exact ⟨h, hn⟩
theorem mexN_spec (l : List Nat) : (∀ m, m < mexN l → m ∈ l) ∧ mexN l ∉ l := mexF_spec l _ 0 (by omega) (by omega)
theorem mexN_le (l : List Nat) : mexN l ≤ l.length := below_len _ l (mexN_spec l).1
theorem mexN_unique {l : List Nat} {n : Nat} (h : ∀ m, m < n → m ∈ l) (h2 : n ∉ l) : n = mexN l := by
  obtain ⟨a, b⟩ := mexN_spec l
  rcases Nat.lt_trichotomy n (mexN l) with h3 | h3 | h3
  · exact absurd (a n h3) h2
  · exact h3
  · exact absurd (h _ h3) b

theorem w_nat (n : Nat) : (w n : Wv) = .int n := rfl
theorem w_list {α : Type} [DecidableEq α] [Ec α] (l : List α) : (w l : Wv) = .tup (l.map w) := rfl
theorem w_pair {α β : Type} [DecidableEq α] [Ec α] [DecidableEq β] [Ec β] (p : α × β) : (w p : Wv) = .tup [w p.1, w p.2] := rfl
theorem memN_lst (l : List Nat) (n : Nat) : memU (.w (.int n)) (.w (.lst (l.map w))) = some (decide (n ∈ l)) := memU_lst n l (by decide)
theorem memN_tup (l : List Nat) (n : Nat) : memU (.w (.int n)) (.w (.tup (l.map w))) = some (decide (n ∈ l)) := memU_tup n l (by decide)
theorem memN_own (l : List Nat) (n : Nat) : memU (.w (.int n)) (.lst (l.map w)) = some (decide (n ∈ l)) := memU_own n l (by decide)
theorem rangeW_nat (n : Nat) : rangeW 0 (n : Int) = (List.range n).map w := by
  unfold rangeW
  simp [w_nat]
theorem rangeW_from (a n : Nat) : rangeW (a : Int) (n : Int) = ((List.range (n - a)).map (a + ·)).map w := by
  unfold rangeW
  rw [show ((n : Int) - (a : Int)).toNat = n - a by omega]
  simp [w_nat, Function.comp_def]
theorem smK_n {K n : Nat} (h : n ≤ K) : smK K (n : Int) = true := smK_iff.mpr (by simpa using h)
theorem usR1_n {o : Opd} {σ σ1 : UEnv} {n : Nat} (h : uRd o σ = .ok (.w (.int n)) σ1) (hn : n ≤ 1000000000) : usR1 o σ = .ok ((List.range n).map w) σ1 := by
  unfold usR1
  rw [h, ubnd_ok]
  simp only [intU.eq_1]
  rw [smK_n hn, rangeW_nat]
theorem usR2_n {a b : Opd} {σ σ1 σ2 : UEnv} {n k : Nat} (h : uRd a σ = .ok (.w (.int n)) σ1) (h2 : uRd b σ1 = .ok (.w (.int k)) σ2) (hn : n ≤ 1000000000) (hk : k ≤ 1000000000) : usR2 a b σ = .ok (((List.range (k - n)).map (n + ·)).map w) σ2 := by
  unfold usR2
  rw [h, ubnd_ok]
  simp only [intU.eq_1]
  rw [h2, ubnd_ok]
  simp only [intU.eq_1]
  rw [smK_n hn, smK_n hk, rangeW_from]
  rfl
theorem rgV_n {n k : Nat} (hn : n ≤ 1000000) (hk : k ≤ 1000000) : rgV (n : Int) (k : Int) = true := by
  unfold rgV
  rw [smK_n (by omega), smK_n (by omega), Nat.ble_eq_true_of_le (by omega)]
  rfl
theorem atI_map {α β : Type} (f : α → β) (l : List α) (i : Int) : L2.atI (l.map f) i = (L2.atI l i).map f := by
  unfold L2.atI
  rw [List.length_map]
  cases L2.ixN l.length i with
  | none => rfl
  | some k => simp
theorem atI_n {α : Type} (l : List α) (i : Nat) (h : i < l.length) : L2.atI l (i : Int) = some l[i] := atI_nat l i h
theorem atI_m1 {α : Type} (l : List α) (h : l ≠ []) : L2.atI l (-1) = some (l.getLast h) := atI_last l h
theorem cutW_map {α : Type} (f : α → Wv) (l : List α) (lo hi : Option Int) : cutW (l.map f) lo hi = ((l.drop (HT.sIx l.length 0 lo)).take (HT.sIx l.length l.length hi - HT.sIx l.length 0 lo)).map f := by
  unfold cutW
  rw [List.length_map, List.map_take, List.map_drop]
theorem cutW_last {α : Type} (f : α → Wv) (l : List α) : cutW (l.map f) none (some (-1)) = l.dropLast.map f := by
  rw [cutW_map]
  have e1 : HT.sIx l.length 0 none = 0 := rfl
  have e2 : HT.sIx l.length l.length (some (-1)) = l.length - 1 := by
    unfold HT.sIx
    dsimp only
    split <;> omega
  rw [e1, e2, List.drop_zero, List.dropLast_eq_take]
  rfl
theorem cutW_take {α : Type} (f : α → Wv) (l : List α) (i : Nat) (h : i ≤ l.length) : cutW (l.map f) none (some (i : Int)) = (l.take i).map f := by
  rw [cutW_map]
  have e1 : HT.sIx l.length 0 none = 0 := rfl
  have e2 : HT.sIx l.length l.length (some (i : Int)) = i := by
    unfold HT.sIx
    dsimp only
    split <;> omega
  rw [e1, e2, List.drop_zero, Nat.sub_zero]
theorem cutW_drop {α : Type} (f : α → Wv) (l : List α) (i : Nat) (h : i ≤ l.length) : cutW (l.map f) (some (i : Int)) none = (l.drop i).map f := by
  rw [cutW_map]
  have e2 : HT.sIx l.length l.length none = l.length := rfl
  have e1 : HT.sIx l.length 0 (some (i : Int)) = i := by
    unfold HT.sIx
    dsimp only
    split <;> omega
  rw [e1, e2, List.take_of_length_le (by simp)]
theorem cutW_drop1 {α : Type} (f : α → Wv) (l : List α) : cutW (l.map f) (some 1) none = (l.drop 1).map f := by
  cases l with
  | nil => rfl
  | cons a l => exact cutW_drop f (a :: l) 1 (by simp)
/-- the k-th number of a range -/
theorem range_split {n k : Nat} {done rest : List Nat} (e : List.range n = done ++ k :: rest) : k = done.length ∧ k < n := by
  have hl : done.length < n := by
    have := congrArg List.length e
    simp at this
    omega
  have := congrArg (fun l : List Nat => l[done.length]?) e
  simp at this
  rw [List.getElem?_range hl] at this
  have : k = done.length := by simpa using this.symm
  omega
theorem usR1_lit {o : Opd} {σ σ1 : UEnv} {k : Int} (h : uRd o σ = .ok (.w (.int k)) σ1) (hk : smK 1000000000 k = true := by decide) : usR1 o σ = .ok (rangeW 0 k) σ1 := by
  unfold usR1
  rw [h, ubnd_ok]
  simp only [intU.eq_1]
  rw [hk]
theorem zipW_map {α β : Type} (f : α → Wv) (g : β → Wv) : ∀ (l : List α) (r : List β), zipW (l.map f) (r.map g) = (l.zip r).map fun p => .tup [f p.1, g p.2]
  | [], r => by simp [zipW]
  | a :: l, [] => by simp [zipW]
  | a :: l, b :: r => by simp [zipW, zipW_map f g l r]
theorem numW_map {α : Type} (f : α → Wv) : ∀ (l : List α) (k : Nat), numW k (l.map f) = (l.zipIdx k).map fun p => .tup [.int (p.2 : Nat), f p.1]
  | [], k => rfl
  | a :: l, k => by rw [List.map_cons, numW, numW_map f l (k + 1)]; rfl
theorem cast1 (k : Nat) : (k : Int) + 1 = ((k + 1 : Nat) : Int) := rfl
theorem cast1' (k : Nat) : 1 + (k : Int) = ((1 + k : Nat) : Int) := by omega
theorem castA (a b : Nat) : (a : Int) + (b : Int) = ((a + b : Nat) : Int) := rfl
theorem intsW_nat : ∀ l : List Nat, intsW (l.map w) = some (l.map fun (n : Nat) => (n : Int))
  | [] => rfl
  | a :: l => by rw [List.map_cons, w_nat, intsW, intsW_nat l]; rfl
theorem maxW_nat (l : List Nat) (h : l ≠ []) : maxW (l.map w) = some (.w (.int (maxN l))) := by
  unfold maxW
  rw [intsW_nat]
  cases l with
  | nil => exact absurd rfl h
  | cons a l =>
    show some (Uv.w (.int (iMax (a : Int) (l.map fun (n : Nat) => (n : Int))))) = _
    rw [iMax_nat]
    rfl
theorem maxN_snoc0 (l : List Nat) : maxN (l ++ [0]) = maxN l := by
  unfold maxN
  induction l with
  | nil => rfl
  | cons a l ih => rw [List.cons_append, List.foldr_cons, ih, List.foldr_cons]
theorem maxW_0 (l : List Nat) : maxW (l.map w ++ [.int 0]) = some (.w (.int (maxN l))) := by
  have e : l.map w ++ [Wv.int 0] = (l ++ [0]).map w := by rw [List.map_append]; rfl
  rw [e, maxW_nat _ (by simp), maxN_snoc0]
theorem bit_int (a j : Nat) : decide ((a : Int) / ((2 ^ j : Nat) : Int) % 2 = 1) = a.testBit j := by
  rw [Nat.testBit_eq_decide_div_mod_eq]
  by_cases h : a / 2 ^ j % 2 = 1
  · rw [decide_eq_true h, decide_eq_true (by omega)]
  · rw [decide_eq_false h, decide_eq_false (by omega)]
theorem xor_step (l : List Nat) (j : Nat) : ((xorN l % 2 ^ j : Nat) : Int) + ((2 ^ j : Nat) : Int) * ((((l.filter fun a => a.testBit j).length : Nat) : Int) % 2) = ((xorN l % 2 ^ (j + 1) : Nat) : Int) := by
  rw [mod_two_succ, bit_xorN]
  have e1 : (((l.filter fun a => a.testBit j).length : Nat) : Int) % 2 = (((decide ((l.filter fun a => a.testBit j).length % 2 = 1)).toNat : Nat) : Int) := by
    by_cases h : (l.filter fun a => a.testBit j).length % 2 = 1
    · rw [decide_eq_true h]; show _ = (1 : Int); omega
    · rw [decide_eq_false h]; show _ = (0 : Int); omega
  rw [e1]
  simp only [Int.natCast_add, Int.natCast_mul]
theorem reprU_lst {α : Type} [DecidableEq α] [Ec α] (l : List α) {B : Nat} (h : ∀ a ∈ l, (Ec.d a).depth ≤ 59) (hs : Sm (.list (l.map Ec.d)) B) (hB : B ≤ SZ) : reprU (.w (.lst (l.map w))) = some (.w (.str (PyData.list (l.map Ec.d)).shown)) := by
  unfold reprU
  simp only [udat, DD, wdat]
  rw [wdats_map 59 l h]
  exact shwD_sm hs hB
theorem reprU_own {α : Type} [DecidableEq α] [Ec α] (l : List α) {B : Nat} (h : ∀ a ∈ l, (Ec.d a).depth ≤ 59) (hs : Sm (.list (l.map Ec.d)) B) (hB : B ≤ SZ) : reprU (.lst (l.map w)) = some (.w (.str (PyData.list (l.map Ec.d)).shown)) := by
  unfold reprU
  simp only [udat, DD, wdat]
  rw [wdats_map 59 l h]
  exact shwD_sm hs hB
theorem sm_nats {l : List Nat} (h : ∀ a ∈ l, a < 18446744073709551616) : Sm (Ec.d l) (l.length * 67 + 3) := by
  have := sm_tuple (ds := l.map Ec.d) (B := 65) fun x hx => by
    obtain ⟨a, ha, rfl⟩ := List.mem_map.mp hx
    exact sm_int (by have := h a ha; omega)
  rw [List.length_map] at this
  exact this
theorem sm_natss {x : List (List Nat)} {k : Nat} (h : ∀ l ∈ x, l.length ≤ k ∧ ∀ a ∈ l, a < 18446744073709551616) : Sm (Ec.d x) (x.length * (k * 67 + 5) + 3) := by
  have := sm_tuple (ds := x.map Ec.d) (B := k * 67 + 3) fun y hy => by
    obtain ⟨l, hl, rfl⟩ := List.mem_map.mp hy
    obtain ⟨h1, h2⟩ := h l hl
    exact (sm_nats h2).mono (by have := Nat.mul_le_mul_right 67 h1; omega)
  rw [List.length_map] at this
  exact this
theorem repr_nats {l : List Nat} (h : ∀ a ∈ l, a < 18446744073709551616) (hl : l.length ≤ 100000) : reprU (.w (w l)) = some (.w (.str (Ec.d l).shown)) := reprU_ec l (Nat.le_trans (EcB.le l) (by decide)) (sm_nats h) (Nat.le_trans (Nat.add_le_add_right (Nat.mul_le_mul_right 67 hl) 3) (by decide))
theorem repr_natss {x : List (List Nat)} (h : ∀ l ∈ x, l.length ≤ 100 ∧ ∀ a ∈ l, a < 18446744073709551616) (hl : x.length ≤ 2000) : reprU (.w (w x)) = some (.w (.str (Ec.d x).shown)) := reprU_ec x (Nat.le_trans (EcB.le x) (by decide)) (sm_natss h) (Nat.le_trans (Nat.add_le_add_right (Nat.mul_le_mul_right _ hl) 3) (by decide))
theorem reprL_natss {x : List (List Nat)} (h : ∀ l ∈ x, l.length ≤ 100 ∧ ∀ a ∈ l, a < 18446744073709551616) (hl : x.length ≤ 2000) : reprU (.w (.lst (x.map w))) = some (.w (.str (PyData.list (x.map Ec.d)).shown)) := by
  have := sm_list (ds := x.map Ec.d) (B := 100 * 67 + 3) fun y hy => by
    obtain ⟨l, hl, rfl⟩ := List.mem_map.mp hy
    obtain ⟨h1, h2⟩ := h l hl
    exact (sm_nats h2).mono (by have := Nat.mul_le_mul_right 67 h1; omega)
  refine reprU_lst x (fun a _ => Nat.le_trans (EcB.le a) (by decide)) this ?_
  rw [List.length_map]
  exact Nat.le_trans (Nat.add_le_add_right (Nat.mul_le_mul_right _ hl) 3) (by decide)
theorem repr_int {i : Int} (h : i.natAbs < 18446744073709551616) : reprU (.w (.int i)) = some (.w (.str (PyData.int i).shown)) := reprU_ec i (Nat.le_trans (EcB.le i) (by decide)) (sm_int h) (by decide)
theorem repr_bl (b : Bool) : reprU (.w (.bl b)) = some (.w (.str (PyData.bool b).shown)) := by
  unfold reprU
  simp only [udat, DD, wdat]
  exact shwD_sm (sm_bl b) (by decide)
theorem flat_rep {α : Type} (a : α) : ∀ n : Nat, (List.replicate n [a]).flatten = List.replicate n a
  | 0 => rfl
  | n + 1 => by rw [List.replicate_succ, List.flatten_cons, flat_rep a n, List.replicate_succ]; rfl
end G

/-! X4: piles: moves to sums without carrying. -/
namespace G
open Ec (w d)
open PySem (Str PyData)
theorem baN (a b : Nat) : PySem.Builtin.bitAnd (a : Int) (b : Int) = ((a &&& b : Nat) : Int) := by
  simp [PySem.Builtin.bitAnd]
theorem usR2_i {a b : Opd} {σ σ1 σ2 : UEnv} {i j : Int} (h : uRd a σ = .ok (.w (.int i)) σ1) (h2 : uRd b σ1 = .ok (.w (.int j)) σ2) (hn : i.natAbs ≤ 1000000000) (hk : j.natAbs ≤ 1000000000) : usR2 a b σ = .ok (rangeW i j) σ2 := by
  unfold usR2
  rw [h, ubnd_ok]
  simp only [intU.eq_1]
  rw [h2, ubnd_ok]
  simp only [intU.eq_1]
  rw [smK_iff.mpr hn, smK_iff.mpr hk]
  rfl
theorem lt_bits {x y i : Nat} (hx : x.testBit i = false) (hy : y.testBit i = true) (h : ∀ j, i < j → x.testBit j = y.testBit j) : x < y := by
  have e : x / 2 ^ (i + 1) = y / 2 ^ (i + 1) := Nat.eq_of_testBit_eq fun j => by
    rw [Nat.testBit_div_two_pow, Nat.testBit_div_two_pow]
    exact h _ (by omega)
  have ex := mod_two_succ x i
  have ey := mod_two_succ y i
  rw [hx] at ex
  rw [hy] at ey
  have h1 := Nat.div_add_mod x (2 ^ (i + 1))
  have h2 := Nat.div_add_mod y (2 ^ (i + 1))
  have h3 : x % 2 ^ i < 2 ^ i := Nat.mod_lt _ (Nat.two_pow_pos i)
  simp only [Bool.toNat_false, Bool.toNat_true, Nat.mul_zero, Nat.mul_one, Nat.add_zero] at ex ey
  rw [e] at h1
  omega
/-- the top part of a sum -/
theorem lt_xor {k s a : Nat} (hw : s < 2 ^ (k + 1)) (hk : s.testBit k = true) (ha : a.testBit k = true) : a ^^^ s < a := by
  have high : ∀ j, k < j → s.testBit j = false := fun j hj => Nat.testBit_lt_two_pow (Nat.lt_of_lt_of_le hw (Nat.pow_le_pow_right (by decide) hj))
  exact lt_bits (by rw [Nat.testBit_xor, ha, hk]; rfl) ha fun j hj => by rw [Nat.testBit_xor, high j hj, Bool.xor_false]
/-- some pile can be made less so that the sum is 0 -/
theorem xor_less {l : List Nat} (h : xorN l ≠ 0) : ∃ a ∈ l, a ^^^ xorN l < a := by
  have hk : (xorN l).testBit (xorN l).log2 = true := Nat.testBit_log2 h
  have hw : xorN l < 2 ^ ((xorN l).log2 + 1) := Nat.lt_log2_self
  have e := bit_xorN l (xorN l).log2
  rw [hk] at e
  have e := of_decide_eq_true e.symm
  cases hf : l.filter fun a => a.testBit (xorN l).log2 with
  | nil => rw [hf] at e; simp at e
  | cons a r =>
    have : a ∈ l.filter fun a => a.testBit (xorN l).log2 := by rw [hf]; simp
    obtain ⟨h1, h2⟩ := List.mem_filter.mp this
    exact ⟨a, h1, lt_xor hw hk h2⟩
theorem xorN_perm {l r : List Nat} (h : l.Perm r) : xorN l = xorN r := by
  induction h with
  | nil => rfl
  | cons x _ ih => rw [xorN_cons, xorN_cons, ih]
  | swap x y l => rw [xorN_cons, xorN_cons, xorN_cons, xorN_cons, ← Nat.xor_assoc, ← Nat.xor_assoc, Nat.xor_comm x y]
  | trans _ _ a b => exact a.trans b
theorem xor_eq_zero {a b : Nat} : a ^^^ b = 0 ↔ a = b := by
  constructor
  · intro h
    have : a ^^^ b ^^^ b = 0 ^^^ b := by rw [h]
    rwa [Nat.xor_assoc, Nat.xor_self, Nat.xor_zero, Nat.zero_xor] at this
  · rintro rfl
    exact Nat.xor_self a
/-- the sum of piles' worths is not 0 just if a move leads to one that is: opts n tells what a pile n may be left as, W n the least number that none of these sums to -/
theorem grundy {opts : Nat → List (List Nat)} {W : Nat → Nat} (hW : ∀ n, W n = mexN ((opts n).map fun o => xorN (o.map W))) (l : List Nat) : xorN (l.map W) ≠ 0 ↔ ∃ (a : List Nat) (n : Nat) (b o : List Nat), l = a ++ n :: b ∧ o ∈ opts n ∧ xorN ((a ++ o ++ b).map W) = 0 := by
  have rest : ∀ (a : List Nat) (n : Nat) (b o : List Nat), xorN ((a ++ o ++ b).map W) = xorN ((a ++ n :: b).map W) ^^^ (W n ^^^ xorN (o.map W)) := fun a n b o => by
    simp only [List.map_append, List.map_cons, xorN_append, xorN_cons]
    generalize xorN (a.map W) = x
    generalize xorN (b.map W) = y
    generalize xorN (o.map W) = z
    generalize W n = t
    apply Nat.eq_of_testBit_eq
    intro i
    simp only [Nat.testBit_xor]
    cases x.testBit i <;> cases y.testBit i <;> cases z.testBit i <;> cases t.testBit i <;> rfl
  constructor
  · intro h
    obtain ⟨v, hv, hlt⟩ := xor_less h
    obtain ⟨n, hn, rfl⟩ := List.mem_map.mp hv
    obtain ⟨a, b, e⟩ := List.append_of_mem hn
    have hm : W n ^^^ xorN (l.map W) ∈ (opts n).map fun o => xorN (o.map W) := (mexN_spec _).1 _ (by rw [← hW]; exact hlt)
    obtain ⟨o, ho, eo⟩ := List.mem_map.mp hm
    refine ⟨a, n, b, o, e, ho, ?_⟩
    rw [rest a n b o, ← e, eo, xor_eq_zero, ← Nat.xor_assoc, Nat.xor_self, Nat.zero_xor]
  · rintro ⟨a, n, b, o, e, ho, h⟩ h0
    rw [rest a n b o, ← e, h0, Nat.zero_xor, xor_eq_zero] at h
    have h2 := (mexN_spec ((opts n).map fun o => xorN (o.map W))).2
    rw [← hW, h] at h2
    exact h2 (List.mem_map.mpr ⟨o, ho, rfl⟩)
theorem mexN_perm {l r : List Nat} (h : ∀ a, a ∈ l ↔ a ∈ r) : mexN l = mexN r :=
  mexN_unique (fun m hm => (h m).mp ((mexN_spec l).1 m hm)) fun z => (mexN_spec l).2 ((h _).mpr z)
end G

namespace K_k27
open G
open G.Ec (w d)
open PySem (Str PyData)
local macro_rules | `(tactic| simp! [$ls,*]) => `(tactic| simp only [a_oV, a_oD, a_uaNil, a_uaCons, a_uB, a_uVar, a_uMov, a_uFz, a_uC, a_uZ, a_uFr, a_lCons, a_lNil, a_uRd, a_lStar, a_uLst, a_uTup, a_uNew, a_uL1, a_uLT, a_uLV, a_uStar, a_uLRev, a_uVal, a_uTru, a_utAnd, a_utOr, a_utNot, a_utYes, a_uIf, a_uAnd, a_uOr, a_uChain, a_uCh, a_uoN, a_uoS, a_uSl, a_uRg1, a_uRg2, a_uLRg, a_uTRg, a_uApp, a_uPop, a_uPopAt, a_uExt, a_uDnew, a_uDnewT, a_ukNil, a_ukCons, a_uDict, a_uCall, a_usOf, a_usEnum, a_usZip, a_ugName, a_ugNil, a_ugCons, a_ugTup, a_uComp, a_uNx, a_uBk, a_uCt, a_uSeq, a_uDr, a_uExpr, a_uRet, a_uSet, a_uAsg, a_uPar2, a_uPar3, a_uIfS, a_uPut, add_1, add_2, add_3, add_4, add_int, mul_1, mul_2, sub_int, div_2, mod_2, band_int, bor_int, bxor_int, isN_non, isN_int, isN_bl, isN_str, isN_tup, isN_lst, isN_own, two_1, three_1, zip2_1, zip2_2, gx_itW_1, gx_itW_2, gx_itW_3, gx_itW_4, gx_frz_1, gx_frz_2, gx_starU_1, gx_starU_2, gx_starU_3, gx_slU_1, gx_slU_2, gx_slU_3, gx_intU_1, gx_blU_1, gx_truU_1, gx_truU_2, gx_truU_3, gx_truU_4, gx_itU_1, gx_itU_2, gx_itU_3, gx_itU_4, gx_itU_5, gx_itR_1, gx_itR_2, gx_itR_3, gx_eqU_1, gx_eqU_2, gx_eqU_3, gx_eqU_4, gx_ltU_1, gx_ltU_2, gx_leU_1, gx_leU_2, gx_gtU_1, gx_geU_1, gx_negU_1, gx_notU_1, gx_ixU_1, gx_ixU_2, gx_ixU_3, gx_ixU_4, gx_ixK, gx_ixT, gx_lenU_2, gx_lenU_3, gx_lenU_4, gx_lenU_5, gx_lenU_6, gx_absU_1, gx_intB_1, gx_intB_2, gx_max2U_1, gx_min2U_1, gx_tupU_1, gx_tupU_2, gx_tupU_3, gx_tupU_4, gx_revU_1, gx_revU_2, gx_lstsU_1, gx_lstsU_2, gx_putU_1, gx_uUn_1, gx_uOp_1, gx_rsv_1, gx_rsvs_1, gx_wb_1, gx_ubnd_1, gx_uthn_1, gx_wipeU_1, gx_overU_1, gx_overR_1, gx_b1_1, gx_b2_1, gx_b3_1, gx_isNU_1, gx_notNU_1, gx_inU_1, gx_ninU_1, gx_sumW_1, gx_tupW_1, gx_lenW_1, gx_idW_1, gx_lstAt_1, gx_rsv2, gx_rsvs2, gx_wb2, gx_wb3, gx_ubnd2, gx_uthn2, gx_wipeU2, gx_putK, gx_putT, gx_g0, gx_g1, gx_g2, gx_s0, gx_s1, gx_l0, gx_l1, gx_l2, gx_l3, gx_m0, gx_m1, gx_a0, gx_a1, gx_r0, gx_r1, gx_j0, gx_j1, gx_b0, gx_b1, gx_o0, gx_o1, gx_i0, gx_t0, gx_t1, gx_t2, gx_t3, gx_t4, gx_t5, gx_t6, gx_t7, gx_t8, gx_n0, gx_n1, gx_n2, gx_n3, gx_d0, gx_d1, gx_e0, gx_if1, gx_if0, gx_str, Nat.reduceSub, Nat.reduceAdd, reduceIte, reduceCtorEq, $ls,*])
/-- what is taken, what is left, by one digit -/
def opt1 (k digit n : Nat) : List (Nat × List Nat) := if digit.testBit 0 && decide (n = k) then [(k, [])] else []
def opt2 (k digit n : Nat) : List (Nat × List Nat) := if digit.testBit 1 && decide (k < n) then [(k, [n - k])] else []
def opt4 (k digit n : Nat) : List (Nat × List Nat) := if digit.testBit 2 then (List.range ((n - k) / 2)).map fun a => (k, [1 + a, n - k - (1 + a)]) else []
def opts (n : Nat) (p : Nat × Nat) : List (Nat × List Nat) := opt1 (p.2 + 1) p.1 n ++ opt2 (p.2 + 1) p.1 n ++ opt4 (p.2 + 1) p.1 n
def leftsU (code : List Nat) (n : Nat) : List (Nat × List Nat) := code.zipIdx.flatMap (opts n)
def leftsN (code : List Nat) (n : Nat) : List (Nat × List Nat) := sortE (leftsU code n)
theorem opts_len (n : Nat) (p : Nat × Nat) : (opts n p).length ≤ 2 + n := by
  unfold opts opt1 opt2 opt4
  simp only [List.length_append]
  split <;> split <;> split <;> simp <;> omega
theorem flat_len (n : Nat) (l : List (Nat × Nat)) : (l.flatMap (opts n)).length ≤ l.length * (2 + n) := by
  induction l with
  | nil => simp
  | cons p l ih =>
    rw [List.flatMap_cons, List.length_append, List.length_cons, Nat.add_mul]
    have := opts_len n p
    omega
theorem bits8 : ∀ dg : Nat, dg < 8 → (PySem.Builtin.bitAnd (dg : Int) 1 != 0) = dg.testBit 0 ∧ (PySem.Builtin.bitAnd (dg : Int) 2 != 0) = dg.testBit 1 ∧ (PySem.Builtin.bitAnd (dg : Int) 4 != 0) = dg.testBit 2 := by decide
theorem half_range (n k : Nat) : rangeW 1 (((n : Int) - (k : Int)) / 2 + 1) = ((List.range ((n - k) / 2)).map (1 + ·)).map w := by
  by_cases h : k ≤ n
  · have e : ((n : Int) - (k : Int)) / 2 + 1 = (((n - k) / 2 + 1 : Nat) : Int) := by omega
    rw [e, show (1 : Int) = ((1 : Nat) : Int) from rfl, rangeW_from]
    simp
  · unfold rangeW
    have e : (((n : Int) - (k : Int)) / 2 + 1 - 1).toNat = 0 := by omega
    have e2 : (n - k) / 2 = 0 := by omega
    rw [e, e2]
    rfl
theorem w_lft (k : Nat) (l : List Nat) : (w (k, l) : Wv) = .tup [.int k, .tup (l.map w)] := rfl
theorem lefts_ok (code : List Nat) (hc : ∀ x ∈ code, x < 8) (hl : code.length ≤ 5) (n : Nat) (hn : n ≤ 100) : U_lefts [.w (w code), .w (.int n)] = .ok (.w (w (leftsN code n))) [.w (w code), .w (.int n)] := by
  have hSZ : SZ = 16777216 := rfl
  rw [U_lefts]
  refine fn_of_rets rfl ?_
  unfold V_lefts
  refine rets_seq (runs_eq (by simp! [leSZ (by omega : 0 ≤ 16777216)]; try rfl) ?_)
  refine rets_seq (runs_dr (runs_forA (enc := fun p : Nat × Nat => .tup [.int p.2, w p.1]) (as := code.zipIdx) (fun done σ => done.length ≤ 5 ∧ σ = [some (.w (w code)), some (.w (.int n)), some (.lst ((done.flatMap (opts n)).map w)), none, none, none, none]) (by simp! [w_list, numW_map]; try rfl) ⟨by simp, rfl⟩ ?_ ?_))
  · rintro done ⟨dg, i⟩ rest σ e ⟨hd, rfl⟩
    have hmem : (dg, i) ∈ code.zipIdx := by rw [e]; simp
    have hdg : dg < 8 := hc dg (by have h := (List.mem_zipIdx hmem).2.2; rw [h]; exact List.getElem_mem _)
    have hi5 : i < 5 := by have h := (List.mem_zipIdx hmem).2.1; omega
    obtain ⟨b0, b1, b2⟩ := bits8 dg hdg
    have hd5 : done.length + 1 ≤ 5 := by
      have := congrArg List.length e
      simp at this
      omega
    have hlen := flat_len n done
    have hlen2 : done.length * (2 + n) ≤ 5 * 102 := Nat.mul_le_mul (by omega) (by omega)
    generalize hL : done.flatMap (opts n) = L at *
    refine ⟨_, (by simp! [w_nat]; try rfl), runs_dr (runs_seq (runs_dr (runs_eq (by simp! [cast1]; try rfl) ?_)))⟩
    -- digit 1
    refine runs_seq (runs_eq (σ' := [some (.w (w code)), some (.w (.int n)), some (.lst ((L ++ opt1 (i + 1) dg n).map w)), none, some (.w (.int dg)), some (.w (.int (i + 1 : Nat))), none]) ?_ ?_)
    · unfold opt1
      by_cases h0 : dg.testBit 0 = true
      · by_cases h1 : n = i + 1
        · simp! [b0, h0, h1, leSZ (by omega : 2 ≤ 16777216), leSZ (by omega : 0 ≤ 16777216), ltSZ (by omega : L.length < 16777216), Bool.and_self, List.map_append, w_lft]
        · simp! [b0, h0, h1, Bool.and_false, List.append_nil]
      · simp! [b0, (by simpa using h0 : dg.testBit 0 = false), Bool.false_and, List.append_nil]
    -- digit 2
    have hl1 : (opt1 (i + 1) dg n).length ≤ 1 := by unfold opt1; split <;> simp
    have hl2 : (opt2 (i + 1) dg n).length ≤ 1 := by unfold opt2; split <;> simp
    refine runs_seq (runs_eq (σ' := [some (.w (w code)), some (.w (.int n)), some (.lst ((L ++ opt1 (i + 1) dg n ++ opt2 (i + 1) dg n).map w)), none, some (.w (.int dg)), some (.w (.int (i + 1 : Nat))), none]) ?_ ?_)
    · unfold opt2
      have hL1 : (L ++ opt1 (i + 1) dg n).length ≤ 1000 := by rw [List.length_append]; omega
      generalize L ++ opt1 (i + 1) dg n = L1 at *
      by_cases h0 : dg.testBit 1 = true
      · by_cases h1 : i + 1 < n
        · simp! [b1, h0, h1, leSZ (by omega : 2 ≤ 16777216), leSZ (by omega : 1 ≤ 16777216), ltSZ (by omega : L1.length < 16777216), Bool.and_self, List.map_append, w_lft, w_nat, (by omega : (n : Int) - ((i + 1 : Nat) : Int) = ((n - (i + 1) : Nat) : Int))]
        · simp! [b1, h0, h1, Bool.and_false, List.append_nil]
      · simp! [b1, (by simpa using h0 : dg.testBit 1 = false), Bool.false_and, List.append_nil]
    -- digit 4
    have hL2 : (L ++ opt1 (i + 1) dg n ++ opt2 (i + 1) dg n).length ≤ 1000 := by rw [List.length_append, List.length_append]; omega
    refine runs_eq (σ' := [some (.w (w code)), some (.w (.int n)), some (.lst ((L ++ opt1 (i + 1) dg n ++ opt2 (i + 1) dg n ++ opt4 (i + 1) dg n).map w)), none, none, none, none]) ?_ ⟨by simp; omega, by simp! [List.flatMap_append, hL, List.flatMap_cons, List.flatMap_nil, List.append_nil, opts, ← List.append_assoc]⟩
    unfold opt4
    generalize L ++ opt1 (i + 1) dg n ++ opt2 (i + 1) dg n = L2 at *
    by_cases h0 : dg.testBit 2 = true
    · simp! [b2, h0]
      rw [usR2_i (i := 1) (j := ((n : Int) - ((i + 1 : Nat) : Int)) / 2 + 1) (by simp! []; try rfl) (by simp! []; try rfl) (by decide) (by omega), half_range]
      simp! []
      rw [List.map_map, comp_map (fun a : Nat => w ((i + 1, [1 + a, n - (i + 1) - (1 + a)]) : Nat × List Nat)) (List.range ((n - (i + 1)) / 2)) (by simp; omega) fun a ha => ?_]
      · simp! [leSZ (by simp; omega : L2.length + (List.range ((n - (i + 1)) / 2)).length ≤ 16777216), List.map_append, List.map_map, Function.comp_def]
      · have := List.mem_range.mp ha
        exact ⟨_, (by simp! [Function.comp_def]; try rfl), _, (by simp! [w_nat, w_lft, leSZ (by omega : 2 ≤ 16777216), (by omega : (n : Int) - ((i + 1 : Nat) : Int) - ((1 + a : Nat) : Int) = ((n - (i + 1) - (1 + a) : Nat) : Int))]; try rfl), (by simp! []; try rfl)⟩
    · simp! [b2, (by simpa using h0 : dg.testBit 2 = false), List.append_nil]
  · rintro σ ⟨_, rfl⟩
    refine rets_eq (σ' := ?s) ?h rfl
    case h =>
      have e := sortW_pair (leftsU code n)
      unfold leftsU at e
      simp! [e, w_list, leftsN, leftsU]
      rfl
theorem filter_lt (m q : Nat) : (List.range m).filter (fun a => decide (a < q)) = List.range (min m q) := by
  induction m with
  | zero => simp
  | succ m ih =>
    rw [List.range_succ, List.filter_append, ih]
    by_cases h : m < q
    · rw [show min (m + 1) q = min m q + 1 by omega, List.range_succ]
      simp [h, show min m q = m by omega]
    · simp [h, show min (m + 1) q = min m q by omega]
theorem law_opt4 (k dg n : Nat) (h : k ≤ n) (ht : dg.testBit 2 = true) : opt4 k dg n = (((List.range (n - k - 1)).map (1 + ·)).filter fun a => decide (a ≤ n - k - a)).map fun a => (k, [a, n - k - a]) := by
  unfold opt4
  rw [if_pos ht, List.filter_map, List.map_map]
  have e : ((fun a => decide (a ≤ n - k - a)) ∘ fun x => 1 + x) = fun a : Nat => decide (1 + a ≤ n - k - (1 + a)) := rfl
  by_cases h1 : n - k = 0
  · rw [h1]; rfl
  · have e2 : (List.range (n - k - 1)).filter (fun a : Nat => decide (1 + a ≤ n - k - (1 + a))) = List.range ((n - k) / 2) := by
      have := filter_lt (n - k - 1) ((n - k) / 2)
      rw [show min (n - k - 1) ((n - k) / 2) = (n - k) / 2 by omega] at this
      rw [← this]
      congr 1
      funext a
      congr 1
      apply propext
      omega
    rw [e, e2]
    rfl
theorem opts_none (n : Nat) (p : Nat × Nat) (h : n < p.2 + 1) : opts n p = [] := by
  unfold opts opt1 opt2 opt4
  rw [decide_eq_false (by omega : ¬ n = p.2 + 1), decide_eq_false (by omega : ¬ p.2 + 1 < n), show (n - (p.2 + 1)) / 2 = 0 by omega]
  simp
theorem zipIdx_range (l : List Nat) : l.zipIdx = (List.range l.length).map fun j => (l.getD j 0, j) := by
  refine List.ext_getElem (by simp) fun i h1 h2 => ?_
  simp at h1
  simp [List.getD, h1]
theorem flat_nil {α β : Type} (l : List α) (f : α → List β) (h : ∀ a ∈ l, f a = []) : l.flatMap f = [] := by
  rw [List.flatMap_eq_nil_iff]
  exact h
theorem leftsU_law (code : List Nat) (n : Nat) : leftsU code n = ((List.range (min n code.length)).map (1 + ·)).flatMap fun k => opts n (code.getD (k - 1) 0, k - 1) := by
  unfold leftsU
  rw [zipIdx_range, List.flatMap_map, List.flatMap_map]
  have e : List.range code.length = List.range (min n code.length) ++ (List.range (code.length - min n code.length)).map (min n code.length + ·) := by
    rw [← List.range_add]
    congr 1
    omega
  conv => lhs; rw [e]
  have hz : ((List.range (code.length - min n code.length)).map (min n code.length + ·)).flatMap (fun a => opts n (code.getD a 0, a)) = [] := flat_nil _ _ fun j hj => by
    obtain ⟨k, _, rfl⟩ := List.mem_map.mp hj
    have hk := List.mem_range.mp ‹k ∈ _›
    exact opts_none _ _ (by simp; omega)
  rw [List.flatMap_append, hz, List.append_nil]
  congr 1
  funext j
  simp
theorem bits8' : ∀ dg : Nat, dg < 8 → decide ((dg : Int) % 2 = 1) = dg.testBit 0 ∧ decide ((dg : Int) / 2 % 2 = 1) = dg.testBit 1 ∧ decide ((dg : Int) / 4 = 1) = dg.testBit 2 := by decide
theorem llefts_ok (code : List Nat) (hc : ∀ x ∈ code, x < 8) (hl : code.length ≤ 5) (n : Nat) (hn : n ≤ 100) : U__law_lefts [.w (w code), .w (.int n)] = .ok (.lst ((leftsN code n).map w)) [.w (w code), .w (.int n)] := by
  have hSZ : SZ = 16777216 := rfl
  rw [U__law_lefts]
  refine fn_of_rets rfl ?_
  unfold V__law_lefts
  refine rets_seq (runs_eq (by simp! [leSZ (by omega : 0 ≤ 16777216)]; try rfl) ?_)
  have hsrc : usR2 (oD (uC (.int 1))) (oD (uOp (b2 addU) (oD (uB (b2 min2U) (uaCons (oV 1) (uaCons (oD (uB (b1 lenU) (uaCons (oV 0) uaNil))) uaNil)))) (oD (uC (.int 1))))) [some (.w (w code)), some (.w (.int n)), some (.w (.lst [])), none, none, none, none] = .ok (((List.range (min n code.length)).map (1 + ·)).map w) [some (.w (w code)), some (.w (.int n)), some (.w (.lst [])), none, none, none, none] := by
    have h2 : uRd (oD (uOp (b2 addU) (oD (uB (b2 min2U) (uaCons (oV 1) (uaCons (oD (uB (b1 lenU) (uaCons (oV 0) uaNil))) uaNil)))) (oD (uC (.int 1))))) [some (.w (w code)), some (.w (.int n)), some (.w (.lst [])), none, none, none, none] = .ok (.w (.int (min n code.length + 1 : Nat))) [some (.w (w code)), some (.w (.int n)), some (.w (.lst [])), none, none, none, none] := by
      simp! [w_list]
      congr 3
      split <;> omega
    have h3 := usR2_i (a := oD (uC (.int 1))) (i := 1) (σ := [some (.w (w code)), some (.w (.int n)), some (.w (.lst [])), none, none, none, none]) (by simp! []; try rfl) h2 (by decide) (by omega)
    rw [show (1 : Int) = ((1 : Nat) : Int) from rfl, rangeW_from] at h3
    rw [show ((1 : Nat) : Int) = (1 : Int) from rfl] at h3
    rw [h3]
    simp
  refine rets_seq (runs_dr (runs_forA (enc := w) (as := (List.range (min n code.length)).map (1 + ·)) (fun done σ => done.length ≤ 5 ∧ σ = [some (.w (w code)), some (.w (.int n)), some (.w (.lst ((done.flatMap fun k => opts n (code.getD (k - 1) 0, k - 1)).map w))), none, none, none, none]) hsrc ⟨by simp, rfl⟩ ?_ ?_))
  · rintro done k rest σ e ⟨hd, rfl⟩
    have hmem : k ∈ (List.range (min n code.length)).map (1 + ·) := by rw [e]; simp
    obtain ⟨j, hj, rfl⟩ := List.mem_map.mp hmem
    have hj := List.mem_range.mp hj
    have hd5 : done.length + 1 ≤ 5 := by
      have := congrArg List.length e
      simp at this
      omega
    have hlen : (done.flatMap fun k => opts n (code.getD (k - 1) 0, k - 1)).length ≤ 1000 := by
      have := flat_len n (done.map fun k => (code.getD (k - 1) 0, k - 1))
      rw [List.flatMap_map, List.length_map] at this
      have : done.length * (2 + n) ≤ 5 * 102 := Nat.mul_le_mul (by omega) (by omega)
      omega
    obtain ⟨dg, hdg⟩ : ∃ dg, code[j]? = some dg := ⟨_, List.getElem?_eq_getElem (by omega)⟩
    have hdg8 : dg < 8 := hc dg (List.mem_of_getElem? hdg)
    have hget : code.getD j 0 = dg := by simp [List.getD, hdg]
    obtain ⟨b0, b1, b2⟩ := bits8' dg hdg8
    have hat : L2.atI (code.map (w : Nat → Wv)) ((1 + j : Nat) - 1 : Int) = some (.int dg) := by
      rw [show (((1 + j : Nat) : Int) - 1) = ((j : Nat) : Int) by omega, atI_map, atI_n code j (by omega)]
      rw [List.getElem?_eq_getElem (by omega)] at hdg
      rw [Option.some.inj hdg]
      rfl
    have hrest : (n : Int) - ((1 + j : Nat) : Int) = ((n - (1 + j) : Nat) : Int) := by omega
    generalize hL : (done.flatMap fun k => opts n (code.getD (k - 1) 0, k - 1)) = L at *
    refine ⟨_, (by simp! [w_nat]; try rfl), runs_dr (runs_seq (runs_eq (by simp! [w_list, hat, hrest, leSZ (by omega : 2 ≤ 16777216)]; try rfl) ?_))⟩
    have hl1 : (opt1 (1 + j) dg n).length ≤ 1 := by unfold opt1; split <;> simp
    have hl2 : (opt2 (1 + j) dg n).length ≤ 1 := by unfold opt2; split <;> simp
    -- digit 1
    refine runs_seq (runs_eq (σ' := [some (.w (w code)), some (.w (.int n)), some (.w (.lst ((L ++ opt1 (1 + j) dg n).map w))), some (.w (.int (1 + j : Nat))), some (.w (.int dg)), some (.w (.int (n - (1 + j) : Nat))), none]) ?_ ?_)
    · unfold opt1
      by_cases h0 : dg.testBit 0 = true
      · by_cases h1 : n = 1 + j
        · simp! [w_list, b0, h0, (by simp; omega : (((n - (1 + j) : Nat) : Int) = 0) = True), decide_eq_true h1, leSZ (by omega : 2 ≤ 16777216), leSZ (by omega : 1 ≤ 16777216), leSZ (by omega : 0 ≤ 16777216), addL_ok (by simp; omega : (L.map (w : Nat × List Nat → Wv)).length + [Wv.tup [Wv.int ((1 + j : Nat) : Int), .tup []]].length ≤ SZ), Bool.and_self, List.map_append, w_lft]
        · simp! [w_list, b0, h0, (by simp; omega : (((n - (1 + j) : Nat) : Int) = 0) = False), decide_eq_false h1, Bool.and_false, List.append_nil]
      · simp! [w_list, b0, (by simpa using h0 : dg.testBit 0 = false), Bool.false_and, List.append_nil]
    refine runs_seq (runs_eq (σ' := [some (.w (w code)), some (.w (.int n)), some (.w (.lst ((L ++ opt1 (1 + j) dg n ++ opt2 (1 + j) dg n).map w))), some (.w (.int (1 + j : Nat))), some (.w (.int dg)), some (.w (.int (n - (1 + j) : Nat))), none]) ?_ ?_)
    · unfold opt2
      have hL1 : (L ++ opt1 (1 + j) dg n).length ≤ 2000 := by rw [List.length_append]; omega
      generalize L ++ opt1 (1 + j) dg n = L1 at *
      by_cases h0 : dg.testBit 1 = true
      · by_cases h1 : 1 + j < n
        · simp! [w_list, div_2, b1, h0, (by simp; omega : (0 < ((n - (1 + j) : Nat) : Int)) = True), decide_eq_true h1, leSZ (by omega : 2 ≤ 16777216), leSZ (by omega : 1 ≤ 16777216), addL_ok (by simp; omega : (L1.map (w : Nat × List Nat → Wv)).length + [Wv.tup [Wv.int ((1 + j : Nat) : Int), .tup [Wv.int ((n - (1 + j) : Nat) : Int)]]].length ≤ SZ), Bool.and_self, List.map_append, w_lft, w_nat]
        · simp! [w_list, div_2, b1, h0, (by simp; omega : (0 < ((n - (1 + j) : Nat) : Int)) = False), decide_eq_false h1, Bool.and_false, List.append_nil]
      · simp! [w_list, div_2, b1, (by simpa using h0 : dg.testBit 1 = false), Bool.false_and, List.append_nil]
    have hL2 : (L ++ opt1 (1 + j) dg n ++ opt2 (1 + j) dg n).length ≤ 2000 := by rw [List.length_append, List.length_append]; omega
    have ho : opts n (code.getD (1 + j - 1) 0, 1 + j - 1) = opt1 (1 + j) dg n ++ opt2 (1 + j) dg n ++ opt4 (1 + j) dg n := by
      rw [show 1 + j - 1 = j by omega, hget]
      unfold opts
      rw [show j + 1 = 1 + j by omega]
    refine runs_eq (σ' := [some (.w (w code)), some (.w (.int n)), some (.w (.lst ((L ++ opt1 (1 + j) dg n ++ opt2 (1 + j) dg n ++ opt4 (1 + j) dg n).map w))), none, none, none, none]) ?_ ⟨by simp; omega, by simp! [List.flatMap_append, hL, List.flatMap_cons, List.flatMap_nil, List.append_nil, ho, ← List.append_assoc]⟩
    generalize L ++ opt1 (1 + j) dg n ++ opt2 (1 + j) dg n = L2 at *
    by_cases h0 : dg.testBit 2 = true
    · rw [law_opt4 (1 + j) dg n (by omega) h0]
      simp! [div_int (by omega : (0 : Int) < 4) (by decide : (4 : Int).natAbs ≤ 18446744073709551615), b2, h0]
      rw [usR2_i (i := 1) (j := ((n - (1 + j) : Nat) : Int)) (by simp! []; try rfl) (by simp! []; try rfl) (by decide) (by omega), show (1 : Int) = ((1 : Nat) : Int) from rfl, rangeW_from]
      simp! []
      rw [comp_pure (enc := w) (fun a : Nat => decide (a ≤ n - (1 + j) - a)) (fun a : Nat => w ((1 + j, [a, n - (1 + j) - a]) : Nat × List Nat)) ((List.range (n - (1 + j) - 1)).map (1 + ·)) [] (by simp; omega) fun a ha => ?_]
      · have hle := List.length_filter_le (fun a : Nat => decide (a ≤ n - (1 + j) - a)) ((List.range (n - (1 + j) - 1)).map (1 + ·))
        simp at hle
        simp! []
        rw [addL_ok (by simp; omega)]
        simp! [List.map_append, List.map_map, Function.comp_def]
      · obtain ⟨c, hc1, rfl⟩ := List.mem_map.mp ha
        have := List.mem_range.mp hc1
        have e5 : ((n - (1 + j) : Nat) : Int) - ((1 + c : Nat) : Int) = ((n - (1 + j) - (1 + c) : Nat) : Int) := by omega
        exact ⟨_, _, (by simp! []; try rfl), (by simp! [w_nat, e5]; try rfl), fun _ => ⟨_, (by simp! [w_nat, w_lft, e5, leSZ (by omega : 2 ≤ 16777216)]; try rfl), (by simp! []; try rfl)⟩, fun _ => (by simp! []; try rfl)⟩
    · unfold opt4
      simp! [div_int (by omega : (0 : Int) < 4) (by decide : (4 : Int).natAbs ≤ 18446744073709551615), b2, (by simpa using h0 : dg.testBit 2 = false), List.append_nil]
  · rintro σ ⟨_, rfl⟩
    refine rets_eq (σ' := ?s) ?h rfl
    case h =>
      have e := sortW_pair (leftsU code n)
      rw [leftsU_law] at e
      simp! [e, leftsN, leftsU_law]
      rfl
end K_k27

/-! X5: texts of any values; tables made one by one; sorted numbers. -/
namespace G
open Ec (w d)
open PySem (Str PyData)
mutual
theorem wdat_mono : ∀ {f g : Nat} {x : Wv} {y : PyData}, wdat f x = some y → f ≤ g → wdat g x = some y
  | f, g, .non, y, h, hg => by simpa only [wdat] using h
  | f, g, .bl b, y, h, hg => by simpa only [wdat] using h
  | f, g, .int b, y, h, hg => by simpa only [wdat] using h
  | f, g, .str b, y, h, hg => by simpa only [wdat] using h
  | 0, g, .tup ws, y, h, hg => by simp only [wdat] at h; cases h
  | 0, g, .scr ws, y, h, hg => by simp only [wdat] at h; cases h
  | 0, g, .kt ws, y, h, hg => by simp only [wdat] at h; cases h
  | 0, g, .lst ws, y, h, hg => by simp only [wdat] at h; cases h
  | f + 1, 0, x, y, h, hg => by omega
  | f + 1, g + 1, .tup ws, y, h, hg => by
    simp only [wdat] at h ⊢
    cases q : wdats f ws with
    | none => rw [q] at h; cases h
    | some ds => rw [wdats_mono q (by omega)]; rw [q] at h; exact h
  | f + 1, g + 1, .scr ws, y, h, hg => by
    simp only [wdat] at h ⊢
    cases q : wdats f ws with
    | none => rw [q] at h; cases h
    | some ds => rw [wdats_mono q (by omega)]; rw [q] at h; exact h
  | f + 1, g + 1, .kt ws, y, h, hg => by
    simp only [wdat] at h ⊢
    cases q : wdats f ws with
    | none => rw [q] at h; cases h
    | some ds => rw [wdats_mono q (by omega)]; rw [q] at h; exact h
  | f + 1, g + 1, .lst ws, y, h, hg => by
    simp only [wdat] at h ⊢
    cases q : wdats f ws with
    | none => rw [q] at h; cases h
    | some ds => rw [wdats_mono q (by omega)]; rw [q] at h; exact h
theorem wdats_mono : ∀ {f g : Nat} {ws : List Wv} {ys : List PyData}, wdats f ws = some ys → f ≤ g → wdats g ws = some ys
  | f, g, [], ys, h, hg => by simpa only [wdats] using h
  | f, g, w :: ws, ys, h, hg => by
    simp only [wdats] at h ⊢
    cases q : wdat f w with
    | none => rw [q] at h; cases h
    | some y =>
      rw [q] at h
      dsimp only at h
      cases q2 : wdats f ws with
      | none => rw [q2] at h; cases h
      | some r => rw [q2] at h; rw [wdat_mono q hg, wdats_mono q2 hg]; exact h
end
/-- x has a text, of such a depth, so long at most -/
def RO (x : Wv) (f B : Nat) : Prop := ∃ y, wdat f x = some y ∧ Sm y B
theorem RO.mono {x : Wv} {f g B C : Nat} (h : RO x f B) (hf : f ≤ g) (hB : B ≤ C) : RO x g C := let ⟨y, a, b⟩ := h; ⟨y, wdat_mono a hf, b.mono hB⟩
theorem RO.int {i : Int} (h : i.natAbs < 18446744073709551616) : RO (.int i) 0 65 := ⟨_, rfl, sm_int h⟩
theorem RO.nat {n : Nat} (h : n < 18446744073709551616) : RO (.int n) 0 65 := RO.int (by omega)
theorem RO.bl (b : Bool) : RO (.bl b) 0 5 := ⟨_, rfl, sm_bl b⟩
theorem RO.non : RO .non 0 4 := ⟨_, rfl, sm_non⟩
theorem ros {f B : Nat} : ∀ {ws : List Wv}, (∀ x ∈ ws, RO x f B) → ∃ ys, wdats f ws = some ys ∧ ys.length = ws.length ∧ ∀ y ∈ ys, Sm y B
  | [], _ => ⟨[], by simp only [wdats], rfl, by simp⟩
  | w :: ws, h => by
    obtain ⟨y, a, b⟩ := h w (by simp)
    obtain ⟨ys, c, e, g⟩ := ros (ws := ws) fun x hx => h x (by simp [hx])
    refine ⟨y :: ys, by simp only [wdats, a, c], by simp [e], fun z hz => ?_⟩
    rcases List.mem_cons.mp hz with rfl | hz
    · exact b
    · exact g z hz
theorem RO.tup {ws : List Wv} {f B : Nat} (h : ∀ x ∈ ws, RO x f B) : RO (.tup ws) (f + 1) (ws.length * (B + 2) + 3) := by
  obtain ⟨ys, a, b, c⟩ := ros h
  exact ⟨.tuple ys, by simp only [wdat, a]; rfl, by rw [← b]; exact sm_tuple c⟩
theorem RO.lst {ws : List Wv} {f B : Nat} (h : ∀ x ∈ ws, RO x f B) : RO (.lst ws) (f + 1) (ws.length * (B + 2) + 3) := by
  obtain ⟨ys, a, b, c⟩ := ros h
  exact ⟨.list ys, by simp only [wdat, a]; rfl, by rw [← b]; exact sm_list c⟩
/-- at most n items -/
theorem RO.tupN {ws : List Wv} {f B n : Nat} (h : ∀ x ∈ ws, RO x f B) (hn : ws.length ≤ n) : RO (.tup ws) (f + 1) (n * (B + 2) + 3) := (RO.tup h).mono (Nat.le_refl _) (Nat.add_le_add_right (Nat.mul_le_mul_right _ hn) 3)
theorem RO.lstN {ws : List Wv} {f B n : Nat} (h : ∀ x ∈ ws, RO x f B) (hn : ws.length ≤ n) : RO (.lst ws) (f + 1) (n * (B + 2) + 3) := (RO.lst h).mono (Nat.le_refl _) (Nat.add_le_add_right (Nat.mul_le_mul_right _ hn) 3)
theorem repr_ro {x : Wv} {f B : Nat} (h : RO x f B) (hf : f ≤ 60) (hB : B ≤ SZ) : ∃ s, reprU (.w x) = some (.w (.str s)) := by
  obtain ⟨y, a, b⟩ := h
  refine ⟨y.shown, ?_⟩
  unfold reprU
  simp only [udat, DD]
  rw [wdat_mono a hf]
  exact shwD_sm b hB
theorem repr_own {ws : List Wv} : reprU (.lst ws) = reprU (.w (.lst ws)) := rfl
theorem RO.nats {l : List Nat} {n : Nat} (h : ∀ a ∈ l, a < 18446744073709551616) (hn : l.length ≤ n) : RO (.tup (l.map w)) 1 (n * 67 + 3) := RO.tupN (f := 0) (B := 65) (fun x hx => by
  obtain ⟨a, ha, rfl⟩ := List.mem_map.mp hx
  exact RO.nat (h a ha)) (by simpa using hn)
/-! ### tables -/
def tab {α : Type} (g : List α → Nat → α) (m : Nat) : List α := (List.range m).foldl (fun f n => f ++ [g f n]) []
theorem tab_succ {α : Type} (g : List α → Nat → α) (m : Nat) : tab g (m + 1) = tab g m ++ [g (tab g m) m] := by
  unfold tab
  rw [List.range_succ, List.foldl_append]
  rfl
theorem tab_len {α : Type} (g : List α → Nat → α) : ∀ m, (tab g m).length = m
  | 0 => rfl
  | m + 1 => by rw [tab_succ, List.length_append, tab_len g m]; rfl
theorem tab_get {α : Type} (g : List α → Nat → α) {i : Nat} : ∀ {m : Nat}, i < m → (tab g m)[i]? = some (g (tab g i) i)
  | 0, h => by omega
  | m + 1, h => by
    rw [tab_succ]
    by_cases hi : i < m
    · rw [List.getElem?_append_left (by rw [tab_len]; exact hi), tab_get g hi]
    · have : i = m := by omega
      subst this
      rw [List.getElem?_append_right (by rw [tab_len]; exact Nat.le_refl _), tab_len]
      simp
theorem tab_take {α : Type} (g : List α → Nat → α) {k m : Nat} (h : k ≤ m) : (tab g m).take k = tab g k := by
  refine List.ext_getElem? fun i => ?_
  rw [List.getElem?_take]
  split
  · rename_i hi
    rw [tab_get g (by omega), tab_get g hi]
  · rename_i hi
    rw [List.getElem?_eq_none (by rw [tab_len]; omega)]
/-! ### sorted numbers -/
theorem sortE_sorted (l : List Nat) : (sortE l).Pairwise (· ≤ ·) := by
  rw [sortE_eq]
  have := List.pairwise_mergeSort (le := fun a b : Nat => !EcO.lt b a) (fun a b c h1 h2 => by
    simp only [EcO.lt, Bool.not_eq_true', decide_eq_false_iff_not] at *
    omega) (fun a b => by
    simp only [EcO.lt, Bool.or_eq_true, Bool.not_eq_true', decide_eq_false_iff_not]
    omega) l
  exact this.imp fun h => by
    simp only [EcO.lt, Bool.not_eq_true', decide_eq_false_iff_not] at h
    omega
/-- the least missing one, by one walk over sorted numbers -/
theorem mex_sorted : ∀ (s : List Nat), s.Pairwise (· ≤ ·) → ∀ (done : List Nat) (f : Nat), (∀ x ∈ done, ∀ y ∈ s, x ≤ y) → (∀ m, m < f → m ∈ done) → f ∉ done → s.foldl (fun f x => if x = f then f + 1 else f) f = mexN (done ++ s)
  | [], _, done, f, _, h1, h2 => by
    rw [List.append_nil]
    exact mexN_unique h1 h2
  | a :: s, hp, done, f, hd, h1, h2 => by
    obtain ⟨ha, hs⟩ := List.pairwise_cons.mp hp
    rw [List.foldl_cons, show done ++ a :: s = (done ++ [a]) ++ s by simp]
    have hd' : ∀ x ∈ done ++ [a], ∀ y ∈ s, x ≤ y := fun x hx y hy => by
      rcases List.mem_append.mp hx with hx | hx
      · exact hd x hx y (by simp [hy])
      · rw [List.mem_singleton.mp hx]; exact ha y hy
    by_cases h : a = f
    · rw [if_pos h]
      refine mex_sorted s hs _ _ hd' (fun m hm => ?_) fun hx => ?_
      · by_cases e : m = f
        · simp [e, h]
        · exact List.mem_append_left _ (h1 m (by omega))
      · rcases List.mem_append.mp hx with hx | hx
        · have := hd _ hx a (by simp); omega
        · have := List.mem_singleton.mp hx; omega
    · rw [if_neg h]
      refine mex_sorted s hs _ _ hd' (fun m hm => List.mem_append_left _ (h1 m hm)) fun hx => ?_
      rcases List.mem_append.mp hx with hx | hx
      · exact h2 hx
      · exact h (List.mem_singleton.mp hx).symm
theorem mex_sortE (l : List Nat) : (sortE l).foldl (fun f x => if x = f then f + 1 else f) 0 = mexN l := by
  rw [mex_sorted _ (sortE_sorted l) [] 0 (by simp) (by omega) (by simp), List.nil_append]
  exact mexN_perm fun a => (sortE_perm l).mem_iff
end G

namespace K_k27
open G
open G.Ec (w d)
open PySem (Str PyData)
local macro_rules | `(tactic| simp! [$ls,*]) => `(tactic| simp only [a_oV, a_oD, a_uaNil, a_uaCons, a_uB, a_uVar, a_uMov, a_uFz, a_uC, a_uZ, a_uFr, a_lCons, a_lNil, a_uRd, a_lStar, a_uLst, a_uTup, a_uNew, a_uL1, a_uLT, a_uLV, a_uStar, a_uLRev, a_uVal, a_uTru, a_utAnd, a_utOr, a_utNot, a_utYes, a_uIf, a_uAnd, a_uOr, a_uChain, a_uCh, a_uoN, a_uoS, a_uSl, a_uRg1, a_uRg2, a_uLRg, a_uTRg, a_uApp, a_uPop, a_uPopAt, a_uExt, a_uDnew, a_uDnewT, a_ukNil, a_ukCons, a_uDict, a_uCall, a_usOf, a_usEnum, a_usZip, a_ugName, a_ugNil, a_ugCons, a_ugTup, a_uComp, a_uNx, a_uBk, a_uCt, a_uSeq, a_uDr, a_uExpr, a_uRet, a_uSet, a_uAsg, a_uPar2, a_uPar3, a_uIfS, a_uPut, add_1, add_2, add_3, add_4, add_int, mul_1, mul_2, sub_int, div_2, mod_2, band_int, bor_int, bxor_int, isN_non, isN_int, isN_bl, isN_str, isN_tup, isN_lst, isN_own, two_1, three_1, zip2_1, zip2_2, gx_itW_1, gx_itW_2, gx_itW_3, gx_itW_4, gx_frz_1, gx_frz_2, gx_starU_1, gx_starU_2, gx_starU_3, gx_slU_1, gx_slU_2, gx_slU_3, gx_intU_1, gx_blU_1, gx_truU_1, gx_truU_2, gx_truU_3, gx_truU_4, gx_itU_1, gx_itU_2, gx_itU_3, gx_itU_4, gx_itU_5, gx_itR_1, gx_itR_2, gx_itR_3, gx_eqU_1, gx_eqU_2, gx_eqU_3, gx_eqU_4, gx_ltU_1, gx_ltU_2, gx_leU_1, gx_leU_2, gx_gtU_1, gx_geU_1, gx_negU_1, gx_notU_1, gx_ixU_1, gx_ixU_2, gx_ixU_3, gx_ixU_4, gx_ixK, gx_ixT, gx_lenU_2, gx_lenU_3, gx_lenU_4, gx_lenU_5, gx_lenU_6, gx_absU_1, gx_intB_1, gx_intB_2, gx_max2U_1, gx_min2U_1, gx_tupU_1, gx_tupU_2, gx_tupU_3, gx_tupU_4, gx_revU_1, gx_revU_2, gx_lstsU_1, gx_lstsU_2, gx_putU_1, gx_uUn_1, gx_uOp_1, gx_rsv_1, gx_rsvs_1, gx_wb_1, gx_ubnd_1, gx_uthn_1, gx_wipeU_1, gx_overU_1, gx_overR_1, gx_b1_1, gx_b2_1, gx_b3_1, gx_isNU_1, gx_notNU_1, gx_inU_1, gx_ninU_1, gx_sumW_1, gx_tupW_1, gx_lenW_1, gx_idW_1, gx_lstAt_1, gx_rsv2, gx_rsvs2, gx_wb2, gx_wb3, gx_ubnd2, gx_uthn2, gx_wipeU2, gx_putK, gx_putT, gx_g0, gx_g1, gx_g2, gx_s0, gx_s1, gx_l0, gx_l1, gx_l2, gx_l3, gx_m0, gx_m1, gx_a0, gx_a1, gx_r0, gx_r1, gx_j0, gx_j1, gx_b0, gx_b1, gx_o0, gx_o1, gx_i0, gx_t0, gx_t1, gx_t2, gx_t3, gx_t4, gx_t5, gx_t6, gx_t7, gx_t8, gx_n0, gx_n1, gx_n2, gx_n3, gx_d0, gx_d1, gx_e0, gx_if1, gx_if0, gx_str, Nat.reduceSub, Nat.reduceAdd, reduceIte, reduceCtorEq, $ls,*])
theorem added_ok (l : List Nat) (v : Wv) (hv : itW v = some (l.map w)) : U_added [.w v] = .ok (.w (.int (xorN l))) [.w v] := by
  rw [U_added]
  refine fn_of_rets rfl ?_
  unfold V_added
  refine rets_seq (runs_eq (by simp! []; try rfl) ?_)
  refine rets_seq (runs_dr (runs_fold (enc := w) (as := l) (fun x : Nat => [some (.w v), some (.w (.int x)), none]) (· ^^^ ·) 0 (by simp! [hv]; try rfl) rfl ?_ ?_))
  · intro b a _
    exact ⟨_, (by simp! []; try rfl), (by simp! [w_nat, bxN]; try rfl)⟩
  · exact rets_eq (by simp! []; try rfl) rfl
theorem mex_ok (l : List Nat) : U_least_missing [.w (.lst (l.map w))] = .ok (.w (.int (mexN l))) [.w (.lst (l.map w))] := by
  rw [U_least_missing]
  refine fn_of_rets rfl ?_
  unfold V_least_missing
  refine rets_seq (runs_dr (runs_eq (by simp! [sortW_nat]; try rfl) ?_))
  refine rets_seq (runs_eq (by simp! []; try rfl) ?_)
  refine rets_seq (runs_dr (runs_fold (enc := w) (as := sortE l) (fun x : Nat => [none, some (.w (.lst ((sortE l).map w))), some (.w (.int x)), none]) (fun f x => if x = f then f + 1 else f) 0 (by simp! []; try rfl) rfl ?_ ?_))
  · intro b a _
    refine ⟨_, (by simp! []; try rfl), ?_⟩
    by_cases h : a = b
    · simp! [w_nat, h, cast1, if_pos]
    · simp! [w_nat, h, if_neg]
  · exact rets_eq (by simp! [mex_sortE]; try rfl) rfl
theorem shl_ok : ∀ j : Nat, j < 12 → shlU (.w (.int 1)) (.w (.int j)) = some (.w (.int (2 ^ j : Nat)))
  | 0, _ => rfl
  | 1, _ => rfl
  | 2, _ => rfl
  | 3, _ => rfl
  | 4, _ => rfl
  | 5, _ => rfl
  | 6, _ => rfl
  | 7, _ => rfl
  | 8, _ => rfl
  | 9, _ => rfl
  | 10, _ => rfl
  | 11, _ => rfl
  | n + 12, h => by omega
theorem bit_mod (a j : Nat) : a / 2 ^ j % 2 = (a.testBit j).toNat := by
  rw [Nat.testBit_eq_decide_div_mod_eq]
  have : a / 2 ^ j % 2 < 2 := Nat.mod_lt _ (by decide)
  by_cases h : a / 2 ^ j % 2 = 1
  · simp [h]
  · rw [decide_eq_false h]; show _ = 0; omega
theorem sum_bits (j : Nat) : ∀ l : List Nat, ((l.map fun a => a / 2 ^ j % 2).map fun n : Nat => (n : Int)).sum = ((l.filter fun a => a.testBit j).length : Nat)
  | [] => rfl
  | a :: l => by
    rw [List.map_cons, List.map_cons, List.sum_cons, sum_bits j l, bit_mod]
    cases h : a.testBit j
    · simp [h]
    · simp [h]; omega
theorem ladded_ok (l : List Nat) (hb : ∀ a ∈ l, a < 4096) (hl : l.length ≤ 1000) : U__law_added [.w (.lst (l.map w))] = .ok (.w (.int (xorN l))) [.w (.lst (l.map w))] := by
  have hSZ : SZ = 16777216 := rfl
  rw [U__law_added]
  refine fn_of_rets rfl ?_
  unfold V__law_added
  refine rets_seq (runs_eq (by simp! []; try rfl) ?_)
  refine rets_seq (runs_dr (runs_forA (enc := w) (as := List.range 12) (fun done σ => σ = [some (.w (.lst (l.map w))), some (.w (.int (xorN l % 2 ^ done.length : Nat))), none, none]) (usR1_n (by simp! []; try rfl) (by omega)) (by simp [Nat.mod_one]) ?_ ?_))
  · rintro done j rest σ e rfl
    obtain ⟨hj, hj12⟩ := range_split e
    rw [← hj]
    refine ⟨_, (by simp! [w_nat]; try rfl), runs_dr (runs_dr (runs_eq (σ' := [some (.w (.lst (l.map w))), some (.w (.int (xorN l % 2 ^ (j + 1) : Nat))), some (.w (.int j)), none]) ?_ (by simp [hj]; rfl)))⟩
    have hp : (2 : Nat) ^ j < 2 ^ 12 := Nat.pow_lt_pow_right (by decide) hj12
    have hp0 : 0 < (2 : Nat) ^ j := Nat.two_pow_pos j
    simp! [shl_ok j hj12]
    rw [comp_map (enc := w) (fun a : Nat => w (a / 2 ^ j % 2)) l (by omega) fun a ha => ?_]
    · simp! []
      rw [show (l.map fun a : Nat => (w (a / 2 ^ j % 2) : Wv)) = (l.map fun a => a / 2 ^ j % 2).map w by rw [List.map_map]; rfl, intsW_nat]
      simp! [sum_bits]
      rw [mul_l (by omega)]
      simp! [xor_step]
    · exact ⟨_, (by simp! []; try rfl), _, (by simp! [w_nat, shl_ok j hj12, div_int (by omega : 0 < ((2 ^ j : Nat) : Int)) (by omega : ((2 ^ j : Nat) : Int).natAbs ≤ 18446744073709551615)]; try rfl), (by simp! []; try rfl)⟩
  · rintro σ rfl
    refine rets_eq (σ' := ?s) ?h rfl
    case h =>
      have : xorN l < 2 ^ 12 := xorN_lt fun a ha => hb a ha
      simp! [List.length_range, Nat.mod_eq_of_lt this]
      rfl
/-! worths -/
def codeV (found : List Nat) (p : Nat × List Nat) : Nat := xorN (p.2.map fun a => found.getD a 0)
def gW (code : List Nat) (found : List Nat) (n : Nat) : Nat := mexN ((leftsN code n).map (codeV found))
def WT (code : List Nat) (m : Nat) : List Nat := tab (gW code) m
def W (code : List Nat) (n : Nat) : Nat := gW code (WT code n) n
theorem lefts_mem {code : List Nat} {n : Nat} {p : Nat × List Nat} (h : p ∈ leftsN code n) : p.2.length ≤ 2 ∧ (∀ a ∈ p.2, a < n) ∧ p.2.sum < n ∧ p.1 ≤ code.length := by
  have h := (sortE_perm _).mem_iff.mp h
  unfold leftsU at h
  obtain ⟨⟨dg, i⟩, hq, h⟩ := List.mem_flatMap.mp h
  have hi := (List.mem_zipIdx hq).2.1
  unfold opts opt1 opt2 opt4 at h
  simp only [List.mem_append] at h
  rcases h with (h | h) | h
  · split at h
    · rename_i hc
      simp at hc
      simp at h
      subst h
      simp
      omega
    · cases h
  · split at h
    · rename_i hc
      simp at hc
      simp at h
      subst h
      simp
      omega
    · cases h
  · split at h
    · obtain ⟨a, ha, rfl⟩ := List.mem_map.mp h
      have ha := List.mem_range.mp ha
      simp
      simp at hi
      omega
    · cases h
theorem leftsN_len (code : List Nat) (n : Nat) : (leftsN code n).length ≤ code.length * (2 + n) := by
  unfold leftsN
  rw [(sortE_perm _).length_eq]
  have := flat_len n code.zipIdx
  simpa [leftsU] using this
theorem gW_le (code found : List Nat) (n : Nat) (hl : code.length ≤ 5) (hn : n ≤ 100) : gW code found n ≤ 510 := by
  have h1 := mexN_le ((leftsN code n).map (codeV found))
  have h2 := leftsN_len code n
  have h3 : code.length * (2 + n) ≤ 5 * 102 := Nat.mul_le_mul hl (by omega)
  rw [List.length_map] at h1
  unfold gW
  omega
theorem WT_get {code : List Nat} {i m : Nat} (h : i < m) : (WT code m).getD i 0 = W code i := by
  unfold WT W
  simp [List.getD, tab_get _ h, WT]
theorem WT_len (code : List Nat) (m : Nat) : (WT code m).length = m := tab_len _ _
theorem WT_at {code : List Nat} {i m : Nat} (h : i < m) : L2.atI ((WT code m).map (w : Nat → Wv)) (i : Int) = some (.int (W code i)) := by
  have hl := WT_len code m
  rw [atI_map, atI_n _ i (by omega)]
  have := WT_get (code := code) h
  rw [List.getD, List.getElem?_eq_getElem (by omega)] at this
  simp at this
  rw [this]
  rfl
theorem W_le (code : List Nat) (n : Nat) (hl : code.length ≤ 5) (hn : n ≤ 100) : W code n ≤ 510 := gW_le code _ n hl hn
theorem codeV_W {code : List Nat} {n : Nat} {p : Nat × List Nat} (m : Nat) (h : p ∈ leftsN code n) (hm : n ≤ m) : codeV (WT code m) p = xorN (p.2.map (W code)) := by
  unfold codeV
  congr 1
  exact List.map_congr_left fun a ha => WT_get (Nat.lt_of_lt_of_le ((lefts_mem h).2.1 a ha) hm)
theorem W_eq (code : List Nat) (n : Nat) : W code n = mexN (((leftsN code n).map (·.2)).map fun o => xorN (o.map (W code))) := by
  unfold W gW
  rw [List.map_map]
  congr 1
  exact List.map_congr_left fun p hp => codeV_W n hp (Nat.le_refl n)
theorem WT_succ (code : List Nat) (m : Nat) : WT code (m + 1) = WT code m ++ [W code m] := tab_succ _ _
theorem worths_ok (code : List Nat) (hc : ∀ x ∈ code, x < 8) (hl : code.length ≤ 5) (n : Nat) (hn : n ≤ 90) : U_worths [.w (w code), .w (.int n)] = .ok (.w (w (WT code (n + 1)))) [.w (w code), .w (.int n)] := by
  have hSZ : SZ = 16777216 := rfl
  rw [U_worths]
  refine fn_of_rets rfl ?_
  unfold V_worths
  refine rets_seq (runs_eq (by simp! [leSZ (by omega : 0 ≤ 16777216)]; try rfl) ?_)
  refine rets_seq (runs_dr (runs_forA (enc := w) (as := List.range (n + 1)) (fun done σ => σ = [some (.w (w code)), some (.w (.int n)), some (.lst ((WT code done.length).map w)), none, none, none, none]) (usR1_n (by simp! [cast1]; try rfl) (by omega)) rfl ?_ ?_))
  · rintro done k rest σ e rfl
    obtain ⟨hk, hkn⟩ := range_split e
    rw [← hk]
    have hlen := WT_len code k
    have hL := leftsN_len code k
    have hL2 : code.length * (2 + k) ≤ 5 * 102 := Nat.mul_le_mul hl (by omega)
    refine ⟨_, (by simp! [w_nat]; try rfl), runs_dr (runs_dr (runs_eq (σ' := [some (.w (w code)), some (.w (.int n)), some (.lst ((WT code (k + 1)).map w)), some (.w (.int k)), none, none, none]) ?_ (by simp [hk]; rfl)))⟩
    simp! [lefts_ok code hc hl k (by omega), w_list (leftsN code k)]
    rw [comp_map (enc := w) (fun p : Nat × List Nat => w (codeV (WT code k) p)) (leftsN code k) (by omega) fun p hp => ?_]
    · simp! []
      rw [show ((leftsN code k).map fun p : Nat × List Nat => (w (codeV (WT code k) p) : Wv)) = ((leftsN code k).map (codeV (WT code k))).map w by rw [List.map_map]; rfl, mex_ok]
      simp! [ltSZ (by omega : (WT code k).length < 16777216), WT_succ, List.map_append, w_nat, W, gW]
    · obtain ⟨h1, h2, -⟩ := lefts_mem hp
      refine ⟨_, (by simp! []; try rfl), ?s, ?h1, ?h2⟩
      case h1 =>
        simp! [w_lft, w_list p.2]
        rw [comp_map (enc := w) (fun a : Nat => w (W code a)) p.2 (by omega) fun a ha => ?_]
        · simp! []
          rw [show (p.2.map fun a : Nat => (w (W code a) : Wv)) = (p.2.map (W code)).map w by rw [List.map_map]; rfl, added_ok _ _ rfl]
          simp! [codeV_W k hp (Nat.le_refl k)]
          rfl
        · exact ⟨_, (by simp! []; try rfl), _, (by simp! [w_nat, WT_at (h2 a ha)]; try rfl), (by simp! []; try rfl)⟩
      case h2 => exact (by simp! []; try rfl)
  · rintro σ rfl
    exact rets_eq (by simp! [w_list (WT code (n + 1)), List.length_range]; try rfl) rfl
theorem lworths_ok (code : List Nat) (hc : ∀ x ∈ code, x < 8) (hl : code.length ≤ 5) (n : Nat) (hn : n ≤ 90) : U__law_worths [.w (w code), .w (.int n)] = .ok (.lst ((WT code (n + 1)).map w)) [.w (w code), .w (.int n)] := by
  have hSZ : SZ = 16777216 := rfl
  rw [U__law_worths]
  refine fn_of_rets rfl ?_
  unfold V__law_worths
  refine rets_seq (runs_eq (by simp! [leSZ (by omega : 0 ≤ 16777216)]; try rfl) ?_)
  refine rets_seq (runs_dr (runs_forA (enc := w) (as := List.range (n + 1)) (fun done σ => σ = [some (.w (w code)), some (.w (.int n)), some (.lst ((WT code done.length).map w)), none, none, none, none, none, none]) (usR1_n (by simp! [cast1]; try rfl) (by omega)) rfl ?_ ?_))
  · rintro done k rest σ e rfl
    obtain ⟨hk, hkn⟩ := range_split e
    rw [← hk]
    have hlen := WT_len code k
    have hL := leftsN_len code k
    have hL2 : code.length * (2 + k) ≤ 5 * 102 := Nat.mul_le_mul hl (by omega)
    generalize hC : (leftsN code k).map (codeV (WT code k)) = C
    have hCl : C.length ≤ 510 := by rw [← hC, List.length_map]; omega
    have hW : W code k = mexN C := by rw [← hC]; rfl
    refine ⟨_, (by simp! [w_nat]; try rfl), runs_dr (runs_seq (runs_dr (runs_eq (σ' := [some (.w (w code)), some (.w (.int n)), some (.lst ((WT code k).map w)), some (.w (.int k)), some (.w (.lst (C.map w))), some (.w (.int 0)), none, none, none]) ?_ ?_)))⟩
    · simp! [llefts_ok code hc hl k (by omega)]
      rw [comp_map (enc := w) (fun p : Nat × List Nat => w (codeV (WT code k) p)) (leftsN code k) (by omega) fun p hp => ?_]
      · simp! []
        rw [show ((leftsN code k).map fun p : Nat × List Nat => (w (codeV (WT code k) p) : Wv)) = ((leftsN code k).map (codeV (WT code k))).map w by rw [List.map_map]; rfl, hC]
        try rfl
      · obtain ⟨h1, h2, -⟩ := lefts_mem hp
        refine ⟨_, (by simp! []; try rfl), ?s, ?h1, ?h2⟩
        case h1 =>
          simp! [w_lft, w_list p.2]
          rw [comp_map (enc := w) (fun a : Nat => w (W code a)) p.2 (by omega) fun a ha => ?_]
          · simp! []
            rw [show (p.2.map fun a : Nat => (w (W code a) : Wv)) = (p.2.map (W code)).map w by rw [List.map_map]; rfl, ladded_ok _ (fun a ha => by
              obtain ⟨b, hb, rfl⟩ := List.mem_map.mp ha
              have := W_le code b hl (by have := h2 b hb; omega)
              omega) (by simp; omega)]
            simp! [codeV_W k hp (Nat.le_refl k)]
            rfl
          · exact ⟨_, (by simp! []; try rfl), _, (by simp! [w_nat, WT_at (h2 a ha)]; try rfl), (by simp! []; try rfl)⟩
        case h2 => exact (by simp! []; try rfl)
    · simp! []
      refine runs_seq (runs_dr (runs_while (fun q σ => ∃ m : Nat, q + m = C.length + 1 ∧ (∀ j, j < m → j ∈ C) ∧ σ = [some (.w (w code)), some (.w (.int n)), some (.lst ((WT code k).map w)), none, some (.w (.lst (C.map w))), some (.w (.int m)), none, none, none]) (C.length + 1) (by show C.length + 1 < 1000000; omega) ⟨0, by omega, by omega, rfl⟩ ?_))
      rintro q σ ⟨m, hq, hb, rfl⟩
      by_cases hm : m ∈ C
      · refine .inr ⟨(by simp! [memN_lst, hm]; try rfl), runs_eq (by simp! [cast1]; try rfl) ⟨q - 1, ?_, m + 1, ?_, ?_, rfl⟩⟩
        · have := below_len m C hb; omega
        · have := below_len m C hb; omega
        · intro j hj
          by_cases e : j = m
          · exact e ▸ hm
          · exact hb j (by omega)
      · refine .inl ⟨(by simp! [memN_lst, hm]; try rfl), ?_⟩
        have e := mexN_unique hb hm
        exact runs_dr (runs_eq (σ' := [some (.w (w code)), some (.w (.int n)), some (.lst ((WT code (k + 1)).map w)), none, none, some (.w (.int m)), none, none, none]) (by simp! [ltSZ (by omega : (WT code k).length < 16777216), WT_succ, List.map_append, w_nat, hW, e]; try rfl) (by simp [hk]; rfl))
  · rintro σ rfl
    exact rets_eq (by simp! [List.length_range]; try rfl) rfl
end K_k27

namespace K_k27
open G
open G.Ec (w d)
open PySem (Str PyData)
local macro_rules | `(tactic| simp! [$ls,*]) => `(tactic| simp only [a_oV, a_oD, a_uaNil, a_uaCons, a_uB, a_uVar, a_uMov, a_uFz, a_uC, a_uZ, a_uFr, a_lCons, a_lNil, a_uRd, a_lStar, a_uLst, a_uTup, a_uNew, a_uL1, a_uLT, a_uLV, a_uStar, a_uLRev, a_uVal, a_uTru, a_utAnd, a_utOr, a_utNot, a_utYes, a_uIf, a_uAnd, a_uOr, a_uChain, a_uCh, a_uoN, a_uoS, a_uSl, a_uRg1, a_uRg2, a_uLRg, a_uTRg, a_uApp, a_uPop, a_uPopAt, a_uExt, a_uDnew, a_uDnewT, a_ukNil, a_ukCons, a_uDict, a_uCall, a_usOf, a_usEnum, a_usZip, a_ugName, a_ugNil, a_ugCons, a_ugTup, a_uComp, a_uNx, a_uBk, a_uCt, a_uSeq, a_uDr, a_uExpr, a_uRet, a_uSet, a_uAsg, a_uPar2, a_uPar3, a_uIfS, a_uPut, add_1, add_2, add_3, add_4, add_int, mul_1, mul_2, sub_int, div_2, mod_2, band_int, bor_int, bxor_int, isN_non, isN_int, isN_bl, isN_str, isN_tup, isN_lst, isN_own, two_1, three_1, zip2_1, zip2_2, gx_itW_1, gx_itW_2, gx_itW_3, gx_itW_4, gx_frz_1, gx_frz_2, gx_starU_1, gx_starU_2, gx_starU_3, gx_slU_1, gx_slU_2, gx_slU_3, gx_intU_1, gx_blU_1, gx_truU_1, gx_truU_2, gx_truU_3, gx_truU_4, gx_itU_1, gx_itU_2, gx_itU_3, gx_itU_4, gx_itU_5, gx_itR_1, gx_itR_2, gx_itR_3, gx_eqU_1, gx_eqU_2, gx_eqU_3, gx_eqU_4, gx_ltU_1, gx_ltU_2, gx_leU_1, gx_leU_2, gx_gtU_1, gx_geU_1, gx_negU_1, gx_notU_1, gx_ixU_1, gx_ixU_2, gx_ixU_3, gx_ixU_4, gx_ixK, gx_ixT, gx_lenU_2, gx_lenU_3, gx_lenU_4, gx_lenU_5, gx_lenU_6, gx_absU_1, gx_intB_1, gx_intB_2, gx_max2U_1, gx_min2U_1, gx_tupU_1, gx_tupU_2, gx_tupU_3, gx_tupU_4, gx_revU_1, gx_revU_2, gx_lstsU_1, gx_lstsU_2, gx_putU_1, gx_uUn_1, gx_uOp_1, gx_rsv_1, gx_rsvs_1, gx_wb_1, gx_ubnd_1, gx_uthn_1, gx_wipeU_1, gx_overU_1, gx_overR_1, gx_b1_1, gx_b2_1, gx_b3_1, gx_isNU_1, gx_notNU_1, gx_inU_1, gx_ninU_1, gx_sumW_1, gx_tupW_1, gx_lenW_1, gx_idW_1, gx_lstAt_1, gx_rsv2, gx_rsvs2, gx_wb2, gx_wb3, gx_ubnd2, gx_uthn2, gx_wipeU2, gx_putK, gx_putT, gx_g0, gx_g1, gx_g2, gx_s0, gx_s1, gx_l0, gx_l1, gx_l2, gx_l3, gx_m0, gx_m1, gx_a0, gx_a1, gx_r0, gx_r1, gx_j0, gx_j1, gx_b0, gx_b1, gx_o0, gx_o1, gx_i0, gx_t0, gx_t1, gx_t2, gx_t3, gx_t4, gx_t5, gx_t6, gx_t7, gx_t8, gx_n0, gx_n1, gx_n2, gx_n3, gx_d0, gx_d1, gx_e0, gx_if1, gx_if0, gx_str, Nat.reduceSub, Nat.reduceAdd, reduceIte, reduceCtorEq, $ls,*])
abbrev Mv := Nat × Nat × List Nat
def e3 (m : Mv) : Wv := .tup [.int m.1, .int m.2.1, .tup (m.2.2.map w)]
def pm (code : List Nat) (q : Nat × Nat) : List Mv := (leftsN code q.1).map fun p => (q.2, p.1, p.2)
def movesU (code piles : List Nat) : List Mv := piles.zipIdx.flatMap (pm code)
theorem pm_len (code : List Nat) (hl : code.length ≤ 5) (q : Nat × Nat) (hq : q.1 ≤ 80) : (pm code q).length ≤ 410 := by
  have h := leftsN_len code q.1
  have h2 : code.length * (2 + q.1) ≤ 5 * 82 := Nat.mul_le_mul hl (by omega)
  unfold pm
  rw [List.length_map]
  omega
theorem pms_len (code : List Nat) (hl : code.length ≤ 5) : ∀ l : List (Nat × Nat), (∀ q ∈ l, q.1 ≤ 80) → (l.flatMap (pm code)).length ≤ l.length * 410
  | [], _ => by simp
  | q :: l, h => by
    have h1 := pm_len code hl q (h q (by simp))
    have h2 := pms_len code hl l fun x hx => h x (by simp [hx])
    rw [List.flatMap_cons, List.length_append, List.length_cons, Nat.add_mul]
    omega
theorem zip_le {piles : List Nat} (hp : ∀ a ∈ piles, a ≤ 80) : ∀ q ∈ piles.zipIdx, q.1 ≤ 80 := fun q hq => hp _ (by have h := (List.mem_zipIdx hq).2.2; rw [h]; exact List.getElem_mem _)
theorem movesU_len {code piles : List Nat} (hl : code.length ≤ 5) (hp : ∀ a ∈ piles, a ≤ 80) : (movesU code piles).length ≤ piles.length * 410 := by
  have := pms_len code hl piles.zipIdx (zip_le hp)
  simpa [movesU] using this
theorem moves_mem {code piles : List Nat} {m : Mv} (h : m ∈ movesU code piles) : ∃ a, piles[m.1]? = some a ∧ (m.2.1, m.2.2) ∈ leftsN code a := by
  obtain ⟨⟨a, i⟩, hq, h⟩ := List.mem_flatMap.mp h
  obtain ⟨p, hp, rfl⟩ := List.mem_map.mp h
  have h := List.mem_zipIdx hq
  simp at h
  refine ⟨a, ?_, hp⟩
  obtain ⟨h1, h2⟩ := h
  rw [List.getElem?_eq_getElem h1, h2]
theorem moves_ok (code : List Nat) (hc : ∀ x ∈ code, x < 8) (hl : code.length ≤ 5) (piles : List Nat) (hp : ∀ a ∈ piles, a ≤ 80) (hn : piles.length ≤ 20) : U_moves [.w (w code), .w (w piles)] = .ok (.w (.tup ((movesU code piles).map e3))) [.w (w code), .w (w piles)] := by
  have hSZ : SZ = 16777216 := rfl
  rw [U_moves]
  refine fn_of_rets rfl ?_
  unfold V_moves
  refine rets_seq (runs_eq (by simp! [leSZ (by omega : 0 ≤ 16777216)]; try rfl) ?_)
  refine rets_seq (runs_dr (runs_forA (enc := fun p : Nat × Nat => .tup [.int p.2, w p.1]) (as := piles.zipIdx) (fun done σ => σ = [some (.w (w code)), some (.w (w piles)), some (.lst ((done.flatMap (pm code)).map e3)), none, none, none, none]) (by simp! [w_list piles, numW_map]; try rfl) rfl ?_ ?_))
  · rintro done ⟨a, i⟩ rest σ e rfl
    have hq := zip_le hp
    have ha : a ≤ 80 := hq (a, i) (by rw [e]; simp)
    have hd : done.length ≤ 20 := by
      have := congrArg List.length e
      simp at this
      omega
    have hlen := pms_len code hl done fun q hx => hq q (by rw [e]; simp [hx])
    have hpm := pm_len code hl (a, i) ha
    have hpm2 : (leftsN code a).length ≤ 410 := by simpa [pm] using hpm
    generalize hL : done.flatMap (pm code) = L at *
    refine ⟨_, (by simp! [w_nat]; try rfl), runs_dr (runs_dr (runs_eq (σ' := [some (.w (w code)), some (.w (w piles)), some (.lst ((L ++ pm code (a, i)).map e3)), some (.w (.int i)), some (.w (.int a)), none, none]) ?_ (by simp [hL]; rfl)))⟩
    simp! [lefts_ok code hc hl a (by omega), w_list (leftsN code a)]
    rw [comp_map (enc := w) (fun p : Nat × List Nat => e3 (i, p.1, p.2)) (leftsN code a) (by omega) fun p hp => ?_]
    · simp! [leSZ (by omega : L.length + (leftsN code a).length ≤ 16777216), pm, List.map_append, List.map_map, Function.comp_def]
    · exact ⟨_, (by simp! [w_lft]; try rfl), _, (by simp! [w_lft, e3, leSZ (by omega : 3 ≤ 16777216)]; try rfl), (by simp! []; try rfl)⟩
  · rintro σ rfl
    exact rets_eq (by simp! [movesU]; try rfl) rfl
theorem max_ok (piles : List Nat) (hn : piles.length ≤ 1000) : (addU (.w (.tup (piles.map w))) (.w (.tup [.int 0]))).bind (fun v => (itU v).bind maxW) = some (.w (.int (maxN piles))) := by
  have hSZ : SZ = 16777216 := rfl
  rw [add_tup (by simp; omega)]
  exact maxW_0 piles
theorem fw_ok (code : List Nat) (hc : ∀ x ∈ code, x < 8) (hl : code.length ≤ 5) (piles : List Nat) (hp : ∀ a ∈ piles, a ≤ 80) (hn : piles.length ≤ 20) : U_first_wins [.w (w code), .w (w piles)] = .ok (.w (.bl (decide (xorN (piles.map (W code)) ≠ 0)))) [.w (w code), .w (w piles)] := by
  have hSZ : SZ = 16777216 := rfl
  have hmx : maxN piles ≤ 80 := by
    have : maxN piles < 81 := maxN_lt (fun a ha => by have := hp a ha; omega) (by decide)
    omega
  rw [U_first_wins]
  refine fn_of_rets rfl ?_
  unfold V_first_wins
  refine rets_seq (runs_dr (runs_eq (σ' := [some (.w (w code)), some (.w (w piles)), some (.w (w (WT code (maxN piles + 1)))), none]) ?_ ?_))
  · simp! [w_list piles, leSZ (by omega : 1 ≤ 16777216)]
    rw [add_tup (by simp only [List.length_map, List.length_cons, List.length_nil]; omega)]
    simp! [maxW_0]
    rw [worths_ok code hc hl (maxN piles) (by omega)]
    rfl
  · refine rets_eq (σ' := ?s) ?h rfl
    case h =>
      simp! [w_list piles]
      rw [comp_map (enc := w) (fun a : Nat => w (W code a)) piles (by omega) fun a ha => ?_]
      · simp! []
        rw [show (piles.map fun a : Nat => (w (W code a) : Wv)) = (piles.map (W code)).map w by rw [List.map_map]; rfl, added_ok _ _ rfl]
        simp! []
        by_cases h : xorN (piles.map (W code)) = 0
        · simp [h]; try rfl
        · simp [h]; try rfl
      · exact ⟨_, (by simp! []; try rfl), _, (by simp! [w_nat, w_list (WT code (maxN piles + 1)), WT_at (Nat.lt_succ_of_le (le_maxN ha))]; try rfl), (by simp! []; try rfl)⟩
def good (code piles : List Nat) (m : Mv) : Bool := decide (xorN (piles.map (W code)) ^^^ W code (piles.getD m.1 0) ^^^ xorN (m.2.2.map (W code)) = 0)
theorem wm_ok (code : List Nat) (hc : ∀ x ∈ code, x < 8) (hl : code.length ≤ 5) (piles : List Nat) (hp : ∀ a ∈ piles, a ≤ 80) (hn : piles.length ≤ 20) : U_winning_moves [.w (w code), .w (w piles)] = .ok (.w (.tup (((movesU code piles).filter (good code piles)).map e3))) [.w (w code), .w (w piles)] := by
  have hSZ : SZ = 16777216 := rfl
  have hmx : maxN piles ≤ 80 := by
    have : maxN piles < 81 := maxN_lt (fun a ha => by have := hp a ha; omega) (by decide)
    omega
  rw [U_winning_moves]
  refine fn_of_rets rfl ?_
  unfold V_winning_moves
  refine rets_seq (runs_eq (σ' := [some (.w (w code)), some (.w (w piles)), some (.w (w (WT code (maxN piles + 1)))), none, none, none, none, none, none, none]) ?_ ?_)
  · simp! [w_list piles, leSZ (by omega : 1 ≤ 16777216)]
    rw [add_tup (by simp only [List.length_map, List.length_cons, List.length_nil]; omega)]
    simp! [maxW_0]
    rw [worths_ok code hc hl (maxN piles) (by omega)]
    rfl
  refine rets_seq (runs_eq (σ' := [some (.w (w code)), some (.w (w piles)), some (.w (w (WT code (maxN piles + 1)))), some (.w (.int (xorN (piles.map (W code))))), none, none, none, none, none, none]) ?_ ?_)
  · simp! [w_list piles]
    rw [comp_map (enc := w) (fun a : Nat => w (W code a)) piles (by omega) fun a ha => ?_]
    · simp! []
      rw [show (piles.map fun a : Nat => (w (W code a) : Wv)) = (piles.map (W code)).map w by rw [List.map_map]; rfl, added_ok _ _ rfl]
      rfl
    · exact ⟨_, (by simp! []; try rfl), _, (by simp! [w_nat, w_list (WT code (maxN piles + 1)), WT_at (Nat.lt_succ_of_le (le_maxN ha))]; try rfl), (by simp! []; try rfl)⟩
  refine rets_seq (runs_eq (by simp! [leSZ (by omega : 0 ≤ 16777216)]; try rfl) ?_)
  have hML := movesU_len hl hp (code := code)
  refine rets_seq (runs_dr (runs_forA (enc := e3) (as := movesU code piles) (fun done σ => σ = [some (.w (w code)), some (.w (w piles)), some (.w (w (WT code (maxN piles + 1)))), some (.w (.int (xorN (piles.map (W code))))), some (.lst ((done.filter (good code piles)).map e3)), none, none, none, none, none]) (by simp! [moves_ok code hc hl piles hp hn]; try rfl) rfl ?_ ?_))
  · rintro done m rest σ e rfl
    obtain ⟨a, h1, h2⟩ := moves_mem (m := m) (by rw [e]; simp)
    obtain ⟨h3, h4, -⟩ := lefts_mem h2
    have hlt : m.1 < piles.length := by
      by_cases h : m.1 < piles.length
      · exact h
      · rw [List.getElem?_eq_none (by omega)] at h1; cases h1
    have hget : piles.getD m.1 0 = a := by simp [List.getD, h1]
    have ha : a ∈ piles := List.mem_of_getElem? h1
    have hat : L2.atI (piles.map (w : Nat → Wv)) (m.1 : Int) = some (.int a) := by
      rw [atI_map, atI_n piles _ hlt]
      rw [List.getElem?_eq_getElem hlt] at h1
      rw [Option.some.inj h1]
      rfl
    have hD : (done.filter (good code piles)).length ≤ 20 * 410 := by
      have h5 := List.length_filter_le (good code piles) done
      have h6 := congrArg List.length e
      rw [List.length_append] at h6
      have h7 : piles.length * 410 ≤ 20 * 410 := Nat.mul_le_mul hn (Nat.le_refl _)
      omega
    refine ⟨_, (by simp! [e3]; try rfl), runs_dr (runs_dr (runs_eq (σ' := [some (.w (w code)), some (.w (w piles)), some (.w (w (WT code (maxN piles + 1)))), some (.w (.int (xorN (piles.map (W code))))), some (.lst (((done ++ [m]).filter (good code piles)).map e3)), if good code piles m = true then none else some (.w (.int m.1)), if good code piles m = true then none else some (.w (.int m.2.1)), if good code piles m = true then none else some (.w (.tup (m.2.2.map w))), none, none]) ?_ (by simp! []; try rfl)))⟩
    rw [List.filter_append, List.map_append]
    generalize done.filter (good code piles) = D at *
    have hc2 : xorN (m.2.2.map (W code)) = xorN (m.2.2.map (W code)) := rfl
    have hcomp : uCompL (ugName 9) utYes (uB (b2 ixU) (uaCons (oV 2) (uaCons (oV 9) uaNil))) [9] (m.2.2.map w) [] [some (.w (w code)), some (.w (.tup (piles.map w))), some (.w (.tup ((WT code (maxN piles + 1)).map w))), some (.w (.int (xorN (piles.map (W code))))), some (.lst (D.map e3)), some (.w (.int m.1)), some (.w (.int m.2.1)), some (.w (.tup (m.2.2.map w))), none, none] = .ok ((m.2.2.map (W code)).map w) [some (.w (w code)), some (.w (.tup (piles.map w))), some (.w (.tup ((WT code (maxN piles + 1)).map w))), some (.w (.int (xorN (piles.map (W code))))), some (.lst (D.map e3)), some (.w (.int m.1)), some (.w (.int m.2.1)), some (.w (.tup (m.2.2.map w))), none, none] := by
      rw [comp_map (enc := w) (fun a : Nat => w (W code a)) m.2.2 (by dsimp only at h3; omega) fun b hb => ?_]
      · rw [List.map_map]; rfl
      · have h5 := h4 b hb
        have h6 := le_maxN ha
        exact ⟨_, (by simp! []; try rfl), _, (by simp! [w_nat, WT_at (by omega : b < maxN piles + 1)]; try rfl), (by simp! []; try rfl)⟩
    simp! [w_list piles, w_list (WT code (maxN piles + 1)), hat, WT_at (Nat.lt_succ_of_le (le_maxN ha)), hcomp, added_ok _ _ (rfl : itW (.lst ((m.2.2.map (W code)).map w)) = _), bxN]
    by_cases hg : good code piles m = true
    · have hg2 := hg
      unfold good at hg2
      rw [hget] at hg2
      have hg3 : (((xorN (piles.map (W code)) ^^^ W code a ^^^ xorN (m.2.2.map (W code)) : Nat) : Int) = 0) = True := by
        have := of_decide_eq_true hg2
        rw [this]; simp
      simp! [hg3, leSZ (by omega : 3 ≤ 16777216), ltSZ (by omega : D.length < 16777216)]
      rw [List.filter_cons, if_pos hg, if_pos hg, if_pos hg, if_pos hg]
      rfl
    · have hg2 := hg
      unfold good at hg2
      rw [hget] at hg2
      have hg3 : (((xorN (piles.map (W code)) ^^^ W code a ^^^ xorN (m.2.2.map (W code)) : Nat) : Int) = 0) = False := by
        simp only [decide_eq_true_eq] at hg2
        simp only [eq_iff_iff, iff_false]
        omega
      simp! [hg3]
      rw [List.filter_cons, if_neg hg, if_neg hg, if_neg hg, if_neg hg]
      simp! [List.filter_nil, List.append_nil]
  · rintro σ rfl
    exact rets_eq (by simp! []; try rfl) rfl
end K_k27

namespace K_k27
open G
open G.Ec (w d)
open PySem (Str PyData)
/-! the law's own way: all positions, kept in a dict -/
def win (code l : List Nat) : Bool := decide (xorN (l.map (W code)) ≠ 0)
def key (l : List Nat) : List L2.Key := l.map fun n : Nat => (.inl (n : Int) : L2.Key)
def encT (code : List Nat) (T : List (List Nat)) : List (List L2.Key × Wv) := T.map fun l => (key l, .bl (win code l))
theorem key_inj {l r : List Nat} : key l = key r ↔ l = r := by
  constructor
  · intro h
    unfold key at h
    have := List.map_inj_right (f := fun n : Nat => (Sum.inl (n : Int) : L2.Key)) (l := l) (l' := r) (fun x y h => by
      have := Sum.inl.inj h
      omega)
    exact this.mp h
  · rintro rfl; rfl
theorem tkey_w (l : List Nat) : tkeyW (.tup (l.map w)) = some (key l) := by
  unfold tkeyW key
  induction l with
  | nil => rfl
  | cons a l ih =>
    simp only [List.map_cons, mapO]
    dsimp only at ih
    rw [ih]
    rfl
theorem get_T (code : List Nat) (l : List Nat) : ∀ T : List (List Nat), wGet (encT code T) (key l) = if l ∈ T then some (.bl (win code l)) else none
  | [] => rfl
  | r :: T => by
    have ih := get_T code l T
    unfold wGet encT at ih ⊢
    rw [List.map_cons, List.find?_cons]
    by_cases h : r = l
    · subst h; simp
    · have : decide (key r = key l) = false := decide_eq_false (fun e => h (key_inj.mp e))
      rw [this]
      dsimp only
      rw [ih]
      have h2 : ¬ l = r := fun e => h e.symm
      simp [h2]
theorem any_T (code : List Nat) (l : List Nat) (T : List (List Nat)) : ((encT code T).any fun kv => decide (kv.1 = key l)) = decide (l ∈ T) := by
  unfold encT
  rw [List.any_map]
  induction T with
  | nil => rfl
  | cons r T ih =>
    rw [List.any_cons, ih]
    simp only [Function.comp, key_inj, List.mem_cons]
    by_cases h : r = l
    · simp [h]
    · have h2 : ¬ l = r := fun e => h e.symm
      simp [h, h2]
theorem put_T (code : List Nat) (l : List Nat) (T : List (List Nat)) : wPut (encT code T) (key l) (.bl (win code l)) = encT code (if l ∈ T then T else T ++ [l]) := by
  unfold wPut
  rw [any_T]
  by_cases h : l ∈ T
  · simp only [h, decide_true, if_true]
    unfold encT
    rw [List.map_map]
    refine List.map_congr_left fun r _ => ?_
    simp only [Function.comp, key_inj]
    split
    · rename_i e; rw [e]
    · rfl
  · simp only [h, decide_false, if_false]
    simp [encT]
def Ls : Nat → Nat → List (List Nat)
  | 0, _ => [[]]
  | f + 1, n => [] :: (List.range n).flatMap fun a => (Ls f (n - 1 - a)).map ((a + 1) :: ·)
theorem Ls_mem : ∀ (f n : Nat) (l : List Nat), (∀ a ∈ l, 0 < a) → l.sum ≤ n → l.length ≤ f → l ∈ Ls f n
  | 0, n, [], _, _, _ => by simp [Ls]
  | 0, n, a :: l, _, _, h => by simp at h
  | f + 1, n, [], _, _, _ => by simp [Ls]
  | f + 1, n, a :: l, h1, h2, h3 => by
    have ha := h1 a (by simp)
    rw [List.sum_cons] at h2
    rw [List.length_cons] at h3
    have ih := Ls_mem f (n - 1 - (a - 1)) l (fun x hx => h1 x (by simp [hx])) (by omega) (by omega)
    unfold Ls
    refine List.mem_cons_of_mem _ (List.mem_flatMap.mpr ⟨a - 1, List.mem_range.mpr (by omega), List.mem_map.mpr ⟨l, ih, ?_⟩⟩)
    rw [show a - 1 + 1 = a by omega]
theorem sum_pow : ∀ n : Nat, ((List.range n).map fun a => 2 ^ (n - 1 - a)).sum + 1 = 2 ^ n
  | 0 => rfl
  | n + 1 => by
    rw [List.range_succ_eq_map, List.map_cons, List.sum_cons, List.map_map]
    have e : ((fun a => 2 ^ (n + 1 - 1 - a)) ∘ Nat.succ) = fun a => 2 ^ (n - 1 - a) := by
      funext a
      simp only [Function.comp]
      congr 1
      omega
    rw [e]
    have := sum_pow n
    rw [show n + 1 - 1 - 0 = n by omega, Nat.pow_succ]
    omega
theorem sum_le {f g : Nat → Nat} (h : ∀ a, f a ≤ g a) : ∀ l : List Nat, (l.map f).sum ≤ (l.map g).sum
  | [] => Nat.le_refl _
  | a :: l => by
    rw [List.map_cons, List.map_cons, List.sum_cons, List.sum_cons]
    exact Nat.add_le_add (h a) (sum_le h l)
theorem Ls_pow : ∀ f n : Nat, (Ls f n).length ≤ 2 ^ n
  | 0, n => Nat.two_pow_pos n
  | f + 1, n => by
    unfold Ls
    rw [List.length_cons, List.length_flatMap, ← sum_pow n]
    exact Nat.add_le_add_right (sum_le (fun a => by rw [List.length_map]; exact Ls_pow f _) _) 1
theorem Ls_len : (Ls 15 15).length ≤ 100000 := Nat.le_trans (Ls_pow 15 15) (by decide)
theorem nodup_len {α : Type} [DecidableEq α] : ∀ (l r : List α), l.Nodup → (∀ a ∈ l, a ∈ r) → l.length ≤ r.length
  | [], r, _, _ => by simp
  | a :: l, r, hn, h => by
    obtain ⟨h1, h2⟩ := List.nodup_cons.mp hn
    have ha := h a (by simp)
    have := nodup_len l (r.erase a) h2 fun b hb => (List.mem_erase_of_ne (fun e : b = a => h1 (e ▸ hb))).mpr (h b (by simp [hb]))
    rw [List.length_erase_of_mem ha] at this
    have h3 : 0 < r.length := List.length_pos_of_mem ha
    rw [List.length_cons]
    omega
theorem len_sum : ∀ {l : List Nat}, (∀ a ∈ l, 0 < a) → l.length ≤ l.sum
  | [], _ => by simp
  | a :: l, h => by
    have h1 := h a (by simp)
    have h2 := len_sum (l := l) fun x hx => h x (by simp [hx])
    rw [List.length_cons, List.sum_cons]
    omega
theorem le_sum {l : List Nat} {a : Nat} (h : a ∈ l) : a ≤ l.sum := by
  induction l with
  | nil => cases h
  | cons b l ih =>
    rw [List.sum_cons]
    rcases List.mem_cons.mp h with rfl | h
    · omega
    · have := ih h; omega
def OKT (T : List (List Nat)) : Prop := T.Nodup ∧ ∀ l ∈ T, (∀ a ∈ l, 0 < a) ∧ l.sum ≤ 15
theorem OKT.len {T : List (List Nat)} (h : OKT T) : T.length ≤ 100000 := Nat.le_trans (nodup_len T (Ls 15 15) h.1 fun l hl => Ls_mem 15 15 l (h.2 l hl).1 (h.2 l hl).2 (Nat.le_trans (len_sum (h.2 l hl).1) (h.2 l hl).2)) Ls_len
theorem OKT.put {T : List (List Nat)} (h : OKT T) {l : List Nat} (h1 : ∀ a ∈ l, 0 < a) (h2 : l.sum ≤ 15) : OKT (if l ∈ T then T else T ++ [l]) := by
  split
  · exact h
  · rename_i hn
    refine ⟨List.nodup_append.mpr ⟨h.1, by simp, fun a ha b hb => ?_⟩, fun r hr => ?_⟩
    · rw [List.mem_singleton.mp hb]
      rintro rfl
      exact hn ha
    · rcases List.mem_append.mp hr with hr | hr
      · exact h.2 r hr
      · rw [List.mem_singleton.mp hr]; exact ⟨h1, h2⟩
/-- the sorted positive piles -/
def posS (l : List Nat) : List Nat := sortE (l.filter fun a => decide (0 < a))
theorem W_0 (code : List Nat) : W code 0 = 0 := by
  have h : leftsN code 0 = [] := by
    cases q : leftsN code 0 with
    | nil => rfl
    | cons p r => exact absurd (lefts_mem (code := code) (n := 0) (p := p) (by rw [q]; simp)).2.2.1 (by omega)
  rw [W_eq, h]
  rfl
theorem filt_xor (code : List Nat) : ∀ l : List Nat, xorN ((l.filter fun a => decide (0 < a)).map (W code)) = xorN (l.map (W code))
  | [] => rfl
  | a :: l => by
    rw [List.filter_cons]
    by_cases h : 0 < a
    · rw [if_pos (by simpa using h), List.map_cons, List.map_cons, xorN_cons, xorN_cons, filt_xor code l]
    · have : a = 0 := by omega
      subst this
      rw [if_neg (by simp), List.map_cons, xorN_cons, W_0, Nat.zero_xor, filt_xor code l]
theorem filt_sum : ∀ l : List Nat, (l.filter fun a => decide (0 < a)).sum = l.sum
  | [] => rfl
  | a :: l => by
    rw [List.filter_cons]
    by_cases h : 0 < a
    · rw [if_pos (by simpa using h), List.sum_cons, List.sum_cons, filt_sum l]
    · rw [if_neg (by simpa using h), List.sum_cons, filt_sum l]; omega
theorem posS_win (code l : List Nat) : win code (posS l) = win code l := by
  unfold win posS
  rw [xorN_perm ((sortE_perm _).map _), filt_xor]
theorem posS_sum (l : List Nat) : (posS l).sum = l.sum := by
  unfold posS
  rw [(sortE_perm _).sum_nat, filt_sum]
theorem posS_pos (l : List Nat) : ∀ a ∈ posS l, 0 < a := fun a ha => by
  have := (List.mem_filter.mp ((sortE_perm _).mem_iff.mp ha)).2
  simpa using this
def aft1 (code s : List Nat) (q : Nat × Nat) : List (List Nat) := (leftsN code q.1).map fun p => s.take q.2 ++ p.2 ++ s.drop (q.2 + 1)
def aft (code s : List Nat) : List (List Nat) := s.zipIdx.flatMap (aft1 code s)
theorem split_at {s : List Nat} {i a : Nat} (h : s[i]? = some a) : s = s.take i ++ a :: s.drop (i + 1) := by
  have hi : i < s.length := by
    by_cases h2 : i < s.length
    · exact h2
    · rw [List.getElem?_eq_none (by omega)] at h; cases h
  rw [List.getElem?_eq_getElem hi] at h
  rw [← Option.some.inj h, List.getElem_cons_drop, List.take_append_drop]
theorem aft_mem {code s x : List Nat} : x ∈ aft code s ↔ ∃ (a : List Nat) (n : Nat) (b : List Nat) (p : Nat × List Nat), s = a ++ n :: b ∧ p ∈ leftsN code n ∧ x = a ++ p.2 ++ b := by
  unfold aft aft1
  rw [List.mem_flatMap]
  constructor
  · rintro ⟨⟨n, i⟩, hq, h⟩
    obtain ⟨p, hp, rfl⟩ := List.mem_map.mp h
    have h := List.mem_zipIdx hq
    simp at h
    obtain ⟨h1, h2⟩ := h
    exact ⟨_, n, _, p, split_at (by rw [List.getElem?_eq_getElem h1, h2]), hp, rfl⟩
  · rintro ⟨a, n, b, p, rfl, hp, rfl⟩
    refine ⟨(n, a.length), ?_, List.mem_map.mpr ⟨p, hp, by simp⟩⟩
    rw [List.mk_mem_zipIdx_iff_getElem?]
    simp
theorem aft_win (code s : List Nat) : ((aft code s).any fun x => !win code x) = win code s := by
  have g := grundy (opts := fun n => (leftsN code n).map (·.2)) (W := W code) (W_eq code) s
  rw [Bool.eq_iff_iff]
  unfold win
  rw [decide_eq_true_eq, g, List.any_eq_true]
  constructor
  · rintro ⟨x, hx, h⟩
    obtain ⟨a, n, b, p, e, hp, rfl⟩ := aft_mem.mp hx
    exact ⟨a, n, b, p.2, e, List.mem_map_of_mem hp, by simpa using h⟩
  · rintro ⟨a, n, b, o, e, ho, h⟩
    obtain ⟨p, hp, rfl⟩ := List.mem_map.mp ho
    exact ⟨_, aft_mem.mpr ⟨a, n, b, p, e, hp, rfl⟩, by simpa using h⟩
theorem aft_sum {code s x : List Nat} (h : x ∈ aft code s) : x.sum < s.sum ∧ x.length ≤ s.length + 1 := by
  obtain ⟨a, n, b, p, rfl, hp, rfl⟩ := aft_mem.mp h
  obtain ⟨h1, h2, h3, -⟩ := lefts_mem hp
  simp only [List.sum_append, List.sum_cons, List.length_append, List.length_cons]
  omega
theorem aft1_len (code s : List Nat) (hl : code.length ≤ 5) (q : Nat × Nat) (hq : q.1 ≤ 80) : (aft1 code s q).length ≤ 410 := by
  have h := leftsN_len code q.1
  have h2 : code.length * (2 + q.1) ≤ 5 * 82 := Nat.mul_le_mul hl (by omega)
  unfold aft1
  rw [List.length_map]
  omega
theorem afts_len (code s : List Nat) (hl : code.length ≤ 5) : ∀ l : List (Nat × Nat), (∀ q ∈ l, q.1 ≤ 80) → (l.flatMap (aft1 code s)).length ≤ l.length * 410
  | [], _ => by simp
  | q :: l, h => by
    have h1 := aft1_len code s hl q (h q (by simp))
    have h2 := afts_len code s hl l fun x hx => h x (by simp [hx])
    rw [List.flatMap_cons, List.length_append, List.length_cons, Nat.add_mul]
    omega
theorem bls_map (f : List Nat → Bool) : ∀ l : List (List Nat), blsW (l.map fun x => .bl (f x)) = some (l.map f)
  | [] => rfl
  | a :: l => by rw [List.map_cons]; unfold blsW; rw [bls_map f l]; rfl
end K_k27

namespace K_k27
open G
open G.Ec (w d)
open PySem (Str PyData)
local macro_rules | `(tactic| simp! [$ls,*]) => `(tactic| simp only [a_oV, a_oD, a_uaNil, a_uaCons, a_uB, a_uVar, a_uMov, a_uFz, a_uC, a_uZ, a_uFr, a_lCons, a_lNil, a_uRd, a_lStar, a_uLst, a_uTup, a_uNew, a_uL1, a_uLT, a_uLV, a_uStar, a_uLRev, a_uVal, a_uTru, a_utAnd, a_utOr, a_utNot, a_utYes, a_uIf, a_uAnd, a_uOr, a_uChain, a_uCh, a_uoN, a_uoS, a_uSl, a_uRg1, a_uRg2, a_uLRg, a_uTRg, a_uApp, a_uPop, a_uPopAt, a_uExt, a_uDnew, a_uDnewT, a_ukNil, a_ukCons, a_uDict, a_uCall, a_usOf, a_usEnum, a_usZip, a_ugName, a_ugNil, a_ugCons, a_ugTup, a_uComp, a_uNx, a_uBk, a_uCt, a_uSeq, a_uDr, a_uExpr, a_uRet, a_uSet, a_uAsg, a_uPar2, a_uPar3, a_uIfS, a_uPut, add_1, add_2, add_3, add_4, add_int, mul_1, mul_2, sub_int, div_2, mod_2, band_int, bor_int, bxor_int, isN_non, isN_int, isN_bl, isN_str, isN_tup, isN_lst, isN_own, two_1, three_1, zip2_1, zip2_2, gx_itW_1, gx_itW_2, gx_itW_3, gx_itW_4, gx_frz_1, gx_frz_2, gx_starU_1, gx_starU_2, gx_starU_3, gx_slU_1, gx_slU_2, gx_slU_3, gx_intU_1, gx_blU_1, gx_truU_1, gx_truU_2, gx_truU_3, gx_truU_4, gx_itU_1, gx_itU_2, gx_itU_3, gx_itU_4, gx_itU_5, gx_itR_1, gx_itR_2, gx_itR_3, gx_eqU_1, gx_eqU_2, gx_eqU_3, gx_eqU_4, gx_ltU_1, gx_ltU_2, gx_leU_1, gx_leU_2, gx_gtU_1, gx_geU_1, gx_negU_1, gx_notU_1, gx_ixU_1, gx_ixU_2, gx_ixU_3, gx_ixU_4, gx_ixK, gx_ixT, gx_lenU_2, gx_lenU_3, gx_lenU_4, gx_lenU_5, gx_lenU_6, gx_absU_1, gx_intB_1, gx_intB_2, gx_max2U_1, gx_min2U_1, gx_tupU_1, gx_tupU_2, gx_tupU_3, gx_tupU_4, gx_revU_1, gx_revU_2, gx_lstsU_1, gx_lstsU_2, gx_putU_1, gx_uUn_1, gx_uOp_1, gx_rsv_1, gx_rsvs_1, gx_wb_1, gx_ubnd_1, gx_uthn_1, gx_wipeU_1, gx_overU_1, gx_overR_1, gx_b1_1, gx_b2_1, gx_b3_1, gx_isNU_1, gx_notNU_1, gx_inU_1, gx_ninU_1, gx_sumW_1, gx_tupW_1, gx_lenW_1, gx_idW_1, gx_lstAt_1, gx_rsv2, gx_rsvs2, gx_wb2, gx_wb3, gx_ubnd2, gx_uthn2, gx_wipeU2, gx_putK, gx_putT, gx_g0, gx_g1, gx_g2, gx_s0, gx_s1, gx_l0, gx_l1, gx_l2, gx_l3, gx_m0, gx_m1, gx_a0, gx_a1, gx_r0, gx_r1, gx_j0, gx_j1, gx_b0, gx_b1, gx_o0, gx_o1, gx_i0, gx_t0, gx_t1, gx_t2, gx_t3, gx_t4, gx_t5, gx_t6, gx_t7, gx_t8, gx_n0, gx_n1, gx_n2, gx_n3, gx_d0, gx_d1, gx_e0, gx_if1, gx_if0, gx_str, Nat.reduceSub, Nat.reduceAdd, reduceIte, reduceCtorEq, $ls,*])
theorem nin_T (code s : List Nat) (T : List (List Nat)) : memU (.w (.tup (s.map w))) (.dT (encT code T)) = some (decide (s ∈ T)) := by
  unfold memU lookU
  dsimp only
  rw [tkey_w, Option.map_some, get_T, Option.map_some]
  split <;> simp [*]
theorem ix_T (code s : List Nat) (T : List (List Nat)) (h : s ∈ T) : lookU (.dT (encT code T)) (.tup (s.map w)) = some (some (.bl (win code s))) := by
  unfold lookU
  dsimp only
  rw [tkey_w, Option.map_some, get_T, if_pos h]
theorem uDr_ok {s : uS} {σ σ1 : UEnv} {L : List Nat} (h : s σ = .ok .nx σ1) : uDr s L σ = .ok .nx (wipeU σ1 L) := by
  unfold uDr
  rw [h]
theorem wins_ok (code : List Nat) (hc : ∀ x ∈ code, x < 8) (hl : code.length ≤ 5) : ∀ (f : Nat) (l : List Nat) (T : List (List Nat)), OKT T → l.sum < f → l.sum ≤ 15 → l.length ≤ 20 → ∃ T', OKT T' ∧ U__law_wins f [.w (w code), .w (w l), .dT (encT code T)] = .ok (.w (.bl (win code l))) [.w (w code), .w (w l), .dT (encT code T')]
  | 0, l, T, hT, h, _, _ => by omega
  | f + 1, l, T, hT, hf, h15, h20 => by
    have hSZ : SZ = 16777216 := rfl
    have hss := posS_sum l
    have hpos := posS_pos l
    have hwin := posS_win code l
    have hsl := len_sum hpos
    have hs1 : sortW ((l.filter fun a => decide (0 < a)).map w) = some ((posS l).map w) := sortW_nat _
    generalize posS l = s at *
    have hs80 : ∀ a ∈ s, a ≤ 80 := fun a ha => by have := le_sum ha; omega
    -- the walk
    have main : ∃ T', OKT T' ∧ s ∈ T' ∧ ∃ σ', (uDr (uIfS (uVal (uOp (b2 ninU) (oV 1) (oV 2))) (uSeq (uSet 3 (uFr (uNew (uLst lNil)))) (uSeq (uDr (uFor (usEnum (uVar 1)) (ugTup 2 (ugCons (ugName 4) (ugCons (ugName 5) ugNil))) (uDr (uDr (uSet 3 (uFr (uOp (b2 addU) (oV 3) (oD (uNew (uComp (usOf (uCall U__law_lefts (uaCons (oD (uVar 0)) (uaCons (oD (uVar 5)) uaNil)))) (ugTup 2 (ugCons (ugName 7) (ugCons (ugName 8) ugNil))) utYes (uOp (b2 addU) (oD (uOp (b2 addU) (oD (uSl (oV 1) uoN (uoS (oV 4)))) (oV 8))) (oD (uSl (oV 1) (uoS (oD (uOp (b2 addU) (oV 4) (oD (uC (.int 1)))))) uoN))) [7, 8])))))) [4, 5]) [4, 5])) [4, 5]) (uDr (uPut 2 (uVar 1) (uL1 anyW (uComp (usOf (uVar 3)) (ugName 6) utYes (uUn (b1 notU) (oD (uCall (U__law_wins f) (uaCons (oD (uVar 0)) (uaCons (oD (uVar 6)) (uaCons (oV 2) uaNil)))))) [6]))) [0, 3]))) uNx) [0, 3, 4, 5]) [some (.w (w code)), some (.w (.tup (s.map w))), some (.dT (encT code T)), none, none, none, none, none, none] = .ok .nx σ' ∧ σ' = [none, some (.w (.tup (s.map w))), some (.dT (encT code T')), none, none, none, none, none, none] := by
      by_cases hin : s ∈ T
      · exact ⟨T, hT, hin, _, (by simp! [nin_T, decide_eq_true hin]; try rfl), rfl⟩
      · suffices H : ∃ T', OKT T' ∧ Runs (uSeq (uSet 3 (uFr (uNew (uLst lNil)))) (uSeq (uDr (uFor (usEnum (uVar 1)) (ugTup 2 (ugCons (ugName 4) (ugCons (ugName 5) ugNil))) (uDr (uDr (uSet 3 (uFr (uOp (b2 addU) (oV 3) (oD (uNew (uComp (usOf (uCall U__law_lefts (uaCons (oD (uVar 0)) (uaCons (oD (uVar 5)) uaNil)))) (ugTup 2 (ugCons (ugName 7) (ugCons (ugName 8) ugNil))) utYes (uOp (b2 addU) (oD (uOp (b2 addU) (oD (uSl (oV 1) uoN (uoS (oV 4)))) (oV 8))) (oD (uSl (oV 1) (uoS (oD (uOp (b2 addU) (oV 4) (oD (uC (.int 1)))))) uoN))) [7, 8])))))) [4, 5]) [4, 5])) [4, 5]) (uDr (uPut 2 (uVar 1) (uL1 anyW (uComp (usOf (uVar 3)) (ugName 6) utYes (uUn (b1 notU) (oD (uCall (U__law_wins f) (uaCons (oD (uVar 0)) (uaCons (oD (uVar 6)) (uaCons (oV 2) uaNil)))))) [6]))) [0, 3]))) [some (.w (w code)), some (.w (.tup (s.map w))), some (.dT (encT code T)), none, none, none, none, none, none] fun σ => σ = [none, some (.w (.tup (s.map w))), some (.dT (encT code (if s ∈ T' then T' else T' ++ [s]))), none, none, none, none, none, none] by
          obtain ⟨T', hT', σ', h1, rfl⟩ := H
          refine ⟨if s ∈ T' then T' else T' ++ [s], hT'.put hpos (by omega), by split <;> simp [*], _, ?_, rfl⟩
          have hcond : uVal (uOp (b2 ninU) (oV 1) (oV 2)) [some (.w (w code)), some (.w (.tup (s.map w))), some (.dT (encT code T)), none, none, none, none, none, none] = .ok true [some (.w (w code)), some (.w (.tup (s.map w))), some (.dT (encT code T)), none, none, none, none, none, none] := (by simp! [nin_T, decide_eq_false hin]; try rfl)
          have hif : uIfS (uVal (uOp (b2 ninU) (oV 1) (oV 2))) (uSeq (uSet 3 (uFr (uNew (uLst lNil)))) (uSeq (uDr (uFor (usEnum (uVar 1)) (ugTup 2 (ugCons (ugName 4) (ugCons (ugName 5) ugNil))) (uDr (uDr (uSet 3 (uFr (uOp (b2 addU) (oV 3) (oD (uNew (uComp (usOf (uCall U__law_lefts (uaCons (oD (uVar 0)) (uaCons (oD (uVar 5)) uaNil)))) (ugTup 2 (ugCons (ugName 7) (ugCons (ugName 8) ugNil))) utYes (uOp (b2 addU) (oD (uOp (b2 addU) (oD (uSl (oV 1) uoN (uoS (oV 4)))) (oV 8))) (oD (uSl (oV 1) (uoS (oD (uOp (b2 addU) (oV 4) (oD (uC (.int 1)))))) uoN))) [7, 8])))))) [4, 5]) [4, 5])) [4, 5]) (uDr (uPut 2 (uVar 1) (uL1 anyW (uComp (usOf (uVar 3)) (ugName 6) utYes (uUn (b1 notU) (oD (uCall (U__law_wins f) (uaCons (oD (uVar 0)) (uaCons (oD (uVar 6)) (uaCons (oV 2) uaNil)))))) [6]))) [0, 3]))) uNx [some (.w (w code)), some (.w (.tup (s.map w))), some (.dT (encT code T)), none, none, none, none, none, none] = .ok .nx [none, some (.w (.tup (s.map w))), some (.dT (encT code (if s ∈ T' then T' else T' ++ [s]))), none, none, none, none, none, none] := by
            unfold uIfS
            rw [hcond]
            exact h1
          exact uDr_ok hif
        -- after
        have hz : s.zipIdx.length ≤ 15 := by simp; omega
        have hA := afts_len code s hl s.zipIdx (zip_le hs80)
        have hA2 : (aft code s).length ≤ 15 * 410 := Nat.le_trans hA (Nat.mul_le_mul hz (Nat.le_refl _))
        -- the calls
        obtain ⟨r, σ', e1, e2, T', hT', e3⟩ := comp_invA (enc := w) (g := ugName 6) (t := utYes) (e := uB (b1 notU) (uaCons (oD (uCall (U__law_wins f) (uaCons (oD (uVar 0)) (uaCons (oD (uVar 6)) (uaCons (oV 2) uaNil))))) uaNil)) (ow := [6]) (fun dn acc σ => acc = dn.map (fun x => .bl (!win code x)) ∧ ∃ T', OKT T' ∧ σ = [some (.w (w code)), some (.w (.tup (s.map w))), some (.dT (encT code T')), some (.w (.lst ((aft code s).map w))), none, none, none, none, none]) (aft code s) (σ := [some (.w (w code)), some (.w (.tup (s.map w))), some (.dT (encT code T)), some (.w (.lst ((aft code s).map w))), none, none, none, none, none]) (by omega) ⟨rfl, T, hT, rfl⟩ (by
          rintro dn x rest acc σ e ⟨rfl, T1, hT1, rfl⟩
          obtain ⟨q1, q2⟩ := aft_sum (code := code) (s := s) (x := x) (by rw [e]; simp)
          obtain ⟨T2, hT2, q3⟩ := wins_ok code hc hl f x T1 hT1 (by omega) (by omega) (by omega)
          refine ⟨_, true, _, (by simp! []; try rfl), (by simp! []; try rfl), fun _ => ⟨_, _, (by simp! [q3]; try rfl), by simp, T2, hT2, (by simp! []; try rfl)⟩, fun h => by cases h⟩)
        subst e2
        subst e3
        refine ⟨T', hT', ?_⟩
        refine runs_seq (runs_eq (by simp! [leSZ (by omega : 0 ≤ 16777216)]; try rfl) ?_)
        refine runs_seq (runs_dr (runs_forA (enc := fun p : Nat × Nat => .tup [.int p.2, w p.1]) (as := s.zipIdx) (fun done σ => σ = [some (.w (w code)), some (.w (.tup (s.map w))), some (.dT (encT code T)), some (.w (.lst ((done.flatMap (aft1 code s)).map w))), none, none, none, none, none]) (by simp! [numW_map]; try rfl) rfl ?_ ?_))
        · rintro done ⟨a, i⟩ rest σ e rfl
          have hq := zip_le hs80
          have ha : a ≤ 80 := hq (a, i) (by rw [e]; simp)
          have hi := (List.mem_zipIdx (by rw [e]; simp : (a, i) ∈ s.zipIdx)).2.1
          have hd : done.length ≤ 15 := by
            have := congrArg List.length e
            simp at this
            omega
          have hlen := afts_len code s hl done fun q hx => hq q (by rw [e]; simp [hx])
          have hpm := aft1_len code s hl (a, i) ha
          have hpm2 : (leftsN code a).length ≤ 410 := by simpa [aft1] using hpm
          generalize hL : done.flatMap (aft1 code s) = L at *
          refine ⟨_, (by simp! [w_nat]; try rfl), runs_dr (runs_dr (runs_eq (σ' := [some (.w (w code)), some (.w (.tup (s.map w))), some (.dT (encT code T)), some (.w (.lst ((L ++ aft1 code s (a, i)).map w))), some (.w (.int i)), some (.w (.int a)), none, none, none]) ?_ (by simp [hL]; rfl)))⟩
          simp! [llefts_ok code hc hl a (by omega)]
          rw [comp_map (enc := w) (fun p : Nat × List Nat => w (s.take i ++ p.2 ++ s.drop (i + 1))) (leftsN code a) (by omega) fun p hp => ?_]
          · simp! []
            rw [addL_ok (by simp only [List.length_map]; omega)]
            simp! [aft1, List.map_append, List.map_map, Function.comp_def]
          · obtain ⟨h1, h2, -⟩ := lefts_mem hp
            refine ⟨_, (by simp! [w_lft]; try rfl), ?s, ?h1, ?h2⟩
            case h1 =>
              have hcut : cutW (s.map (w : Nat → Wv)) (some ((i : Int) + 1)) none = (s.drop (i + 1)).map w := cutW_drop _ s (i + 1) (by omega)
              simp! [w_lft, w_list p.2, cutW_take _ s i (by omega)]
              rw [add_tup (by simp only [List.length_map, List.length_take]; omega)]
              simp! [hcut]
              rw [add_tup (by simp only [List.length_map, List.length_take, List.length_append, List.length_drop]; omega)]
              simp! [w_list (s.take i ++ p.2 ++ s.drop (i + 1)), List.map_append]
              rfl
            case h2 => exact (by simp! []; try rfl)
        · rintro σ rfl
          rw [show s.zipIdx.flatMap (aft1 code s) = aft code s from rfl]
          refine runs_dr (runs_eq (σ' := [some (.w (w code)), some (.w (.tup (s.map w))), some (.dT (encT code (if s ∈ T' then T' else T' ++ [s]))), some (.w (.lst ((aft code s).map w))), none, none, none, none, none]) ?_ (by simp! []; try rfl))
          have h9 := hT'.len
          have h10 : (encT code T').length = T'.length := by unfold encT; rw [List.length_map]
          have hany : anyW ((aft code s).map fun x => .bl (!win code x)) = some (.w (.bl (win code s))) := by
            unfold anyW
            rw [bls_map (fun x => !win code x), Option.map_some, List.any_map]
            rw [show (id ∘ fun x => !win code x) = fun x => !win code x from rfl, aft_win]
          simp! [e1, hany, tkey_w, h10, ltSZ (by omega : T'.length < 16777216), put_T]
    obtain ⟨T', hT', hin, σ', h1, rfl⟩ := main
    refine ⟨T', hT', ?_⟩
    rw [U__law_wins_s]
    refine fn_of_rets rfl ?_
    unfold V__law_wins
    refine rets_seq (runs_eq (σ' := [some (.w (w code)), some (.w (.tup (s.map w))), some (.dT (encT code T)), none, none, none, none, none, none]) ?_ ?_)
    · simp! [w_list l]
      rw [comp_pure (enc := w) (fun a : Nat => decide (0 < a)) w l [] (by simp; omega) fun a ha => ?_]
      · simp! [hs1]
      · exact ⟨_, _, (by simp! []; try rfl), (by simp! [w_nat, (by omega : (0 < (a : Int)) ↔ 0 < a)]; try rfl), fun _ => ⟨_, (by simp! [w_nat]; try rfl), (by simp! []; try rfl)⟩, fun _ => (by simp! []; try rfl)⟩
    refine rets_seq ⟨_, h1, ?_⟩
    exact rets_eq (by simp! [ix_T code s T' hin, hwin]; try rfl) rfl
end K_k27

namespace K_k27
open G
open G.Ec (w d)
open PySem (Str PyData)
local macro_rules | `(tactic| simp! [$ls,*]) => `(tactic| simp only [a_oV, a_oD, a_uaNil, a_uaCons, a_uB, a_uVar, a_uMov, a_uFz, a_uC, a_uZ, a_uFr, a_lCons, a_lNil, a_uRd, a_lStar, a_uLst, a_uTup, a_uNew, a_uL1, a_uLT, a_uLV, a_uStar, a_uLRev, a_uVal, a_uTru, a_utAnd, a_utOr, a_utNot, a_utYes, a_uIf, a_uAnd, a_uOr, a_uChain, a_uCh, a_uoN, a_uoS, a_uSl, a_uRg1, a_uRg2, a_uLRg, a_uTRg, a_uApp, a_uPop, a_uPopAt, a_uExt, a_uDnew, a_uDnewT, a_ukNil, a_ukCons, a_uDict, a_uCall, a_usOf, a_usEnum, a_usZip, a_ugName, a_ugNil, a_ugCons, a_ugTup, a_uComp, a_uNx, a_uBk, a_uCt, a_uSeq, a_uDr, a_uExpr, a_uRet, a_uSet, a_uAsg, a_uPar2, a_uPar3, a_uIfS, a_uPut, add_1, add_2, add_3, add_4, add_int, mul_1, mul_2, sub_int, div_2, mod_2, band_int, bor_int, bxor_int, isN_non, isN_int, isN_bl, isN_str, isN_tup, isN_lst, isN_own, two_1, three_1, zip2_1, zip2_2, gx_itW_1, gx_itW_2, gx_itW_3, gx_itW_4, gx_frz_1, gx_frz_2, gx_starU_1, gx_starU_2, gx_starU_3, gx_slU_1, gx_slU_2, gx_slU_3, gx_intU_1, gx_blU_1, gx_truU_1, gx_truU_2, gx_truU_3, gx_truU_4, gx_itU_1, gx_itU_2, gx_itU_3, gx_itU_4, gx_itU_5, gx_itR_1, gx_itR_2, gx_itR_3, gx_eqU_1, gx_eqU_2, gx_eqU_3, gx_eqU_4, gx_ltU_1, gx_ltU_2, gx_leU_1, gx_leU_2, gx_gtU_1, gx_geU_1, gx_negU_1, gx_notU_1, gx_ixU_1, gx_ixU_2, gx_ixU_3, gx_ixU_4, gx_ixK, gx_ixT, gx_lenU_2, gx_lenU_3, gx_lenU_4, gx_lenU_5, gx_lenU_6, gx_absU_1, gx_intB_1, gx_intB_2, gx_max2U_1, gx_min2U_1, gx_tupU_1, gx_tupU_2, gx_tupU_3, gx_tupU_4, gx_revU_1, gx_revU_2, gx_lstsU_1, gx_lstsU_2, gx_putU_1, gx_uUn_1, gx_uOp_1, gx_rsv_1, gx_rsvs_1, gx_wb_1, gx_ubnd_1, gx_uthn_1, gx_wipeU_1, gx_overU_1, gx_overR_1, gx_b1_1, gx_b2_1, gx_b3_1, gx_isNU_1, gx_notNU_1, gx_inU_1, gx_ninU_1, gx_sumW_1, gx_tupW_1, gx_lenW_1, gx_idW_1, gx_lstAt_1, gx_rsv2, gx_rsvs2, gx_wb2, gx_wb3, gx_ubnd2, gx_uthn2, gx_wipeU2, gx_putK, gx_putT, gx_g0, gx_g1, gx_g2, gx_s0, gx_s1, gx_l0, gx_l1, gx_l2, gx_l3, gx_m0, gx_m1, gx_a0, gx_a1, gx_r0, gx_r1, gx_j0, gx_j1, gx_b0, gx_b1, gx_o0, gx_o1, gx_i0, gx_t0, gx_t1, gx_t2, gx_t3, gx_t4, gx_t5, gx_t6, gx_t7, gx_t8, gx_n0, gx_n1, gx_n2, gx_n3, gx_d0, gx_d1, gx_e0, gx_if1, gx_if0, gx_str, Nat.reduceSub, Nat.reduceAdd, reduceIte, reduceCtorEq, $ls,*])
theorem ixN_last (n : Nat) : L2.ixN (n + 1) (-1) = some n := by
  unfold L2.ixN
  simp
  try omega
theorem set_last {α : Type} (l : List α) (a b : α) : (l ++ [a]).set l.length b = l ++ [b] := by
  rw [List.set_append_right _ _ (Nat.le_refl _), Nat.sub_self]
  rfl
theorem draw_ok {s : Uv} (ok : okS s) : ∃ (code : List Nat) (s' : Uv), U__law_draw_code [s] = .ok (.w (w code)) [s'] ∧ okS s' ∧ code.length ≤ 5 ∧ ∀ x ∈ code, x < 8 := by
  have hSZ : SZ = 16777216 := rfl
  obtain ⟨r1, s1, e1, h1, ok1⟩ := pickB_ok' ok (k := 5) (by decide) (by decide)
  obtain ⟨r2, s2, e2, h2, ok2⟩ := pickB_ok' ok1 (k := 3) (by decide) (by decide)
  have h1 : r1 < 5 := by omega
  obtain ⟨l, s3, D1, D2, D3, ok3⟩ := comp_draw (g := ugName 4) (e := uIf (uVal (uOp (b2 (eqU false)) (oV 2) (oD (uC (.int 0))))) (uCall pickBV (uaCons (oV 0) (uaCons (oD (uC (.int 4))) uaNil))) (uCall pickBV (uaCons (oV 0) (uaCons (oD (uC (.int 8))) uaNil)))) (ow := [4]) (k := 8) (fun s => [some s, some (.w (.int (1 + r1 : Nat))), some (.w (.int r2)), none, none]) (fun s y ok => by
    by_cases h0 : r2 = 0
    · obtain ⟨r, s2, e, hr, ok⟩ := pickB_ok' ok (k := 4) (by decide) (by decide)
      exact ⟨_, (by simp! []; try rfl), r, s2, _, (by simp! [h0, e, (by omega : ((0 : Nat) : Int) = 0)]; try rfl), (by simp! [h0, (by omega : ((0 : Nat) : Int) = 0)]; try rfl), .inl (by omega), ok⟩
    · obtain ⟨r, s2, e, hr, ok⟩ := pickB_ok' ok (k := 8) (by decide) (by decide)
      exact ⟨_, (by simp! []; try rfl), r, s2, _, (by simp! [e, (by simp; omega : ((r2 : Int) = 0) = False)]; try rfl), (by simp! []; try rfl), .inl hr, ok⟩) ((List.range (1 + r1)).map w) (by simp; omega) ok2
  simp only [List.length_map, List.length_range] at D2
  have D3 : ∀ a ∈ l, a < 8 := fun a ha => by have := D3 a ha; omega
  obtain ⟨ini, z, rfl⟩ : ∃ ini z, l = ini ++ [z] := by
    rcases List.eq_nil_or_concat l with h | ⟨a, b, h⟩
    · subst h; simp at D2; omega
    · exact ⟨a, b, by simpa using h⟩
  have hlen : (ini ++ [z]).length = ini.length + 1 := by simp
  have hat : L2.atI ((ini ++ [z]).map (w : Nat → Wv)) (-1) = some (.int z) := by
    rw [atI_map, atI_m1 _ (by simp)]
    simp [w_nat]
  have hz := D3 z (by simp)
  have hset : ∀ b : Nat, putU (.lst ((ini ++ [z]).map (w : Nat → Wv))) (.int (-1)) (.int b) = some (.lst ((ini ++ [b]).map (w : Nat → Wv))) := fun b => by
    rw [gx_putU_1, List.length_map, hlen, ixN_last, Option.map_some]
    have := set_last ini z b
    rw [← this, List.map_set]
    rfl
  have C : uCompL (ugName 4) utYes (uIf (uVal (uOp (b2 (eqU false)) (oV 2) (oD (uC (.int 0))))) (uCall pickBV (uaCons (oV 0) (uaCons (oD (uC (.int 4))) uaNil))) (uCall pickBV (uaCons (oV 0) (uaCons (oD (uC (.int 8))) uaNil)))) [4] ((List.range (1 + r1)).map w) [] [some s2, some (.w (.int (1 + r1 : Nat))), some (.w (.int r2)), none, none] = .ok ((ini ++ [z]).map (w : Nat → Wv)) [some s3, some (.w (.int (1 + r1 : Nat))), some (.w (.int r2)), none, none] := D1
  have fin : ∀ (b : Nat) (s4 : Uv), okS s4 → b < 8 → Runs (uPut 3 (uUn (b1 negU) (oD (uC (.int 1)))) (uIf (uVal (uOp (b2 gtU) (oD (uOp (b2 ixU) (oV 3) (oD (uUn (b1 negU) (oD (uC (.int 1))))))) (oD (uC (.int 0))))) (uOp (b2 ixU) (oV 3) (oD (uUn (b1 negU) (oD (uC (.int 1)))))) (uOp (b2 addU) (oD (uC (.int 1))) (oD (uCall pickBV (uaCons (oV 0) (uaCons (oD (uC (.int 7))) uaNil))))))) [some s3, none, none, some (.lst ((ini ++ [z]).map (w : Nat → Wv))), none] (fun σ => σ = [some s4, none, none, some (.lst ((ini ++ [b]).map (w : Nat → Wv))), none]) → ∃ (code : List Nat) (s' : Uv), U__law_draw_code [s] = .ok (.w (w code)) [s'] ∧ okS s' ∧ code.length ≤ 5 ∧ ∀ x ∈ code, x < 8 := by
    intro b s4 ok4 hb hrun
    refine ⟨ini ++ [b], s4, ?_, ok4, by simp; simp at D2; omega, fun x hx => ?_⟩
    · rw [U__law_draw_code]
      refine fn_of_rets rfl ?_
      unfold V__law_draw_code
      refine rets_seq (runs_eq (σ' := [some s1, some (.w (.int (1 + r1 : Nat))), none, none, none]) (by simp! [e1, cast1']; try rfl) ?_)
      refine rets_seq (runs_eq (by simp! [e2]; try rfl) ?_)
      refine rets_seq (runs_dr (runs_eq (σ' := [some s3, some (.w (.int (1 + r1 : Nat))), some (.w (.int r2)), some (.lst ((ini ++ [z]).map (w : Nat → Wv))), none]) ?_ ?_))
      · rw [a_uSet, a_uNew, a_uComp]
        rw [usR1_n (n := 1 + r1) (by simp! []; try rfl) (by omega)]
        simp only [ubnd_ok]
        exact (congrArg (fun r => uthn (ubnd r fun ws σ1 => VRes.ok (Uv.lst ws) σ1) fun v σ1 => URS.ok UFl.nx (σ1.set 3 (some v))) C).trans rfl
      · simp! []
        refine rets_seq (hrun.mono fun σ e => ?_)
        subst e
        refine rets_eq (σ' := [some s4, none, none, some (.lst ((ini ++ [b]).map (w : Nat → Wv))), none]) ?_ rfl
        simp! [w_list (ini ++ [b])]
        try rfl
    · rcases List.mem_append.mp hx with hx | hx
      · exact D3 x (by simp [hx])
      · rw [List.mem_singleton.mp hx]; exact hb
  by_cases hz0 : 0 < z
  · refine fin z s3 ok3 hz (runs_eq (σ' := [some s3, none, none, some (.lst ((ini ++ [z]).map (w : Nat → Wv))), none]) ?_ rfl)
    simp! [hat, (by simp; omega : ((0 : Int) < (z : Int)) = True), hset z]
  · obtain ⟨r, s4, e4, hr, ok4⟩ := pickB_ok' ok3 (k := 7) (by decide) (by decide)
    refine fin (1 + r) s4 ok4 (by omega) (runs_eq (σ' := [some s4, none, none, some (.lst ((ini ++ [1 + r]).map (w : Nat → Wv))), none]) ?_ rfl)
    simp! [hat, (by simp; omega : ((0 : Int) < (z : Int)) = False), e4, cast1', hset (1 + r)]
end K_k27

namespace K_k27
open G
open G.Ec (w d)
open PySem (Str PyData)
/-! texts -/
theorem ro_left {code : List Nat} (hl : code.length ≤ 5) {n : Nat} (hn : n ≤ 100) {p : Nat × List Nat} (h : p ∈ leftsN code n) : RO (.tup (p.2.map w)) 1 137 ∧ RO (.int p.1) 0 65 := by
  obtain ⟨h1, h2, -, h4⟩ := lefts_mem h
  exact ⟨RO.nats (n := 2) (fun a ha => by have := h2 a ha; omega) h1, RO.nat (by omega)⟩
theorem ro_lefts {code : List Nat} (hl : code.length ≤ 5) {n : Nat} (hn : n ≤ 100) : RO (.tup ((leftsN code n).map w)) 3 200000 := by
  have h1 := leftsN_len code n
  have h2 : code.length * (2 + n) ≤ 5 * 102 := Nat.mul_le_mul hl (by omega)
  refine (RO.tupN (f := 2) (B := 281) (n := 510) (fun x hx => ?_) (by rw [List.length_map]; omega)).mono (by decide) (by decide)
  obtain ⟨p, hp, rfl⟩ := List.mem_map.mp hx
  obtain ⟨a, b⟩ := ro_left hl hn hp
  rw [w_lft]
  exact RO.tupN (f := 1) (B := 137) (n := 2) (fun x hx => by
    simp only [List.mem_cons, List.not_mem_nil, or_false] at hx
    rcases hx with rfl | rfl
    · exact b.mono (by decide) (by decide)
    · exact a) (by simp)
theorem ro_moves {code piles : List Nat} (hl : code.length ≤ 5) (hp : ∀ a ∈ piles, a ≤ 80) (hn : piles.length ≤ 20) {l : List Mv} (hs : ∀ m ∈ l, m ∈ movesU code piles) (hz : l.length ≤ 8200) : RO (.tup (l.map e3)) 3 4000000 := by
  refine (RO.tupN (f := 2) (B := 420) (n := 8200) (fun x hx => ?_) (by rw [List.length_map]; omega)).mono (by decide) (by decide)
  obtain ⟨m, hm, rfl⟩ := List.mem_map.mp hx
  obtain ⟨a, h1, h2⟩ := moves_mem (hs m hm)
  have ha := hp a (List.mem_of_getElem? h1)
  obtain ⟨r1, r2⟩ := ro_left hl (by omega : a ≤ 100) h2
  have hi : m.1 < piles.length := by
    by_cases h : m.1 < piles.length
    · exact h
    · rw [List.getElem?_eq_none (by omega)] at h1; cases h1
  exact RO.tupN (f := 1) (B := 137) (n := 3) (fun x hx => by
    simp only [List.mem_cons, List.not_mem_nil, or_false] at hx
    rcases hx with rfl | rfl | rfl
    · exact (RO.nat (by omega)).mono (by decide) (by decide)
    · exact r2.mono (by decide) (by decide)
    · exact r1) (by simp)
/-! the others' sum -/
theorem oth (f : Nat → Nat) (j : Nat) : ∀ (l : List Nat) (k : Nat), xorN (((l.zipIdx k).filter fun q => decide (q.2 ≠ j)).map fun q => f q.1) = xorN (l.map f) ^^^ (if k ≤ j ∧ j < k + l.length then f (l.getD (j - k) 0) else 0)
  | [], k => by
    have h : ¬ (k ≤ j ∧ j < k + ([] : List Nat).length) := by
      rintro ⟨a, b⟩
      rw [List.length_nil] at b
      omega
    rw [if_neg h, Nat.xor_zero, List.zipIdx_nil, List.filter_nil, List.map_nil, List.map_nil]
  | a :: l, k => by
    have ih := oth f j l (k + 1)
    rw [List.zipIdx_cons, List.filter_cons]
    by_cases h : k = j
    · subst h
      rw [if_neg (by simp), ih, if_neg (by omega), if_pos (by simp), List.map_cons, xorN_cons, Nat.sub_self]
      simp only [List.getD, List.getElem?_cons_zero, Option.getD_some, Nat.xor_zero]
      rw [Nat.xor_comm (f a), Nat.xor_assoc, Nat.xor_self, Nat.xor_zero]
    · rw [if_pos (by simpa using h), List.map_cons, xorN_cons, ih, List.map_cons, xorN_cons, ← Nat.xor_assoc]
      congr 1
      by_cases h2 : k ≤ j ∧ j < k + (a :: l).length
      · have h3 : k + 1 ≤ j ∧ j < k + 1 + l.length := by simp at h2; omega
        rw [if_pos h2, if_pos h3]
        congr 1
        rw [show j - k = (j - (k + 1)) + 1 by omega]
        simp [List.getD]
      · have h3 : ¬ (k + 1 ≤ j ∧ j < k + 1 + l.length) := by simp at h2; omega
        rw [if_neg h2, if_neg h3]
def othN (code piles : List Nat) (j : Nat) : List Nat := (piles.zipIdx.filter fun q => decide (q.2 ≠ j)).map fun q => W code q.1
theorem good_eq (code piles : List Nat) (m : Mv) (h : m.1 < piles.length) : decide (xorN (othN code piles m.1 ++ m.2.2.map (W code)) = 0) = good code piles m := by
  unfold good othN
  rw [xorN_append, oth, if_pos (by omega), Nat.sub_zero]
end K_k27

namespace K_k27
open G
open G.Ec (w d)
open PySem (Str PyData)
local macro_rules | `(tactic| simp! [$ls,*]) => `(tactic| simp only [a_oV, a_oD, a_uaNil, a_uaCons, a_uB, a_uVar, a_uMov, a_uFz, a_uC, a_uZ, a_uFr, a_lCons, a_lNil, a_uRd, a_lStar, a_uLst, a_uTup, a_uNew, a_uL1, a_uLT, a_uLV, a_uStar, a_uLRev, a_uVal, a_uTru, a_utAnd, a_utOr, a_utNot, a_utYes, a_uIf, a_uAnd, a_uOr, a_uChain, a_uCh, a_uoN, a_uoS, a_uSl, a_uRg1, a_uRg2, a_uLRg, a_uTRg, a_uApp, a_uPop, a_uPopAt, a_uExt, a_uDnew, a_uDnewT, a_ukNil, a_ukCons, a_uDict, a_uCall, a_usOf, a_usEnum, a_usZip, a_ugName, a_ugNil, a_ugCons, a_ugTup, a_uComp, a_uNx, a_uBk, a_uCt, a_uSeq, a_uDr, a_uExpr, a_uRet, a_uSet, a_uAsg, a_uPar2, a_uPar3, a_uIfS, a_uPut, add_1, add_2, add_3, add_4, add_int, mul_1, mul_2, sub_int, div_2, mod_2, band_int, bor_int, bxor_int, isN_non, isN_int, isN_bl, isN_str, isN_tup, isN_lst, isN_own, two_1, three_1, zip2_1, zip2_2, gx_itW_1, gx_itW_2, gx_itW_3, gx_itW_4, gx_frz_1, gx_frz_2, gx_starU_1, gx_starU_2, gx_starU_3, gx_slU_1, gx_slU_2, gx_slU_3, gx_intU_1, gx_blU_1, gx_truU_1, gx_truU_2, gx_truU_3, gx_truU_4, gx_itU_1, gx_itU_2, gx_itU_3, gx_itU_4, gx_itU_5, gx_itR_1, gx_itR_2, gx_itR_3, gx_eqU_1, gx_eqU_2, gx_eqU_3, gx_eqU_4, gx_ltU_1, gx_ltU_2, gx_leU_1, gx_leU_2, gx_gtU_1, gx_geU_1, gx_negU_1, gx_notU_1, gx_ixU_1, gx_ixU_2, gx_ixU_3, gx_ixU_4, gx_ixK, gx_ixT, gx_lenU_2, gx_lenU_3, gx_lenU_4, gx_lenU_5, gx_lenU_6, gx_absU_1, gx_intB_1, gx_intB_2, gx_max2U_1, gx_min2U_1, gx_tupU_1, gx_tupU_2, gx_tupU_3, gx_tupU_4, gx_revU_1, gx_revU_2, gx_lstsU_1, gx_lstsU_2, gx_putU_1, gx_uUn_1, gx_uOp_1, gx_rsv_1, gx_rsvs_1, gx_wb_1, gx_ubnd_1, gx_uthn_1, gx_wipeU_1, gx_overU_1, gx_overR_1, gx_b1_1, gx_b2_1, gx_b3_1, gx_isNU_1, gx_notNU_1, gx_inU_1, gx_ninU_1, gx_sumW_1, gx_tupW_1, gx_lenW_1, gx_idW_1, gx_lstAt_1, gx_rsv2, gx_rsvs2, gx_wb2, gx_wb3, gx_ubnd2, gx_uthn2, gx_wipeU2, gx_putK, gx_putT, gx_g0, gx_g1, gx_g2, gx_s0, gx_s1, gx_l0, gx_l1, gx_l2, gx_l3, gx_m0, gx_m1, gx_a0, gx_a1, gx_r0, gx_r1, gx_j0, gx_j1, gx_b0, gx_b1, gx_o0, gx_o1, gx_i0, gx_t0, gx_t1, gx_t2, gx_t3, gx_t4, gx_t5, gx_t6, gx_t7, gx_t8, gx_n0, gx_n1, gx_n2, gx_n3, gx_d0, gx_d1, gx_e0, gx_if1, gx_if0, gx_str, Nat.reduceSub, Nat.reduceAdd, reduceIte, reduceCtorEq, $ls,*])
/-- the names of the law -/
def base (s : Uv) (code : List Nat) (M : Nat) : UEnv := [none, some s, some (.w (w code)), none, some (.w (.lst ((WT code (M + 1)).map w))), none, none, none, none, none, none, none, none, none, none, none, none, none]
theorem tab_at {code : List Nat} {i M : Nat} (h : i ≤ M) : L2.atI ((WT code (M + 1)).map (w : Nat → Wv)) (i : Int) = some (.int (W code i)) := WT_at (Nat.lt_succ_of_le h)
theorem res (ns : List Int) (hn : ns.length ≤ 63) : ∃ vs, U_law [.w (.scr (ns.map .int))] = .ok (.w (.bl true)) vs := by
  have hSZ : SZ = 16777216 := rfl
  obtain ⟨s0, hs, ok0⟩ := src_made hn
  obtain ⟨code, s1, D1, ok1, hl, hc⟩ := draw_ok ok0
  obtain ⟨most, s2, D2, hm, ok2⟩ := pickB_ok' ok1 (k := 41) (by decide) (by decide)
  have hm : most < 41 := by omega
  refine ⟨[.w (.scr (ns.map .int))], ?_⟩
  rw [U_law]
  refine fn_of_rets rfl ?_
  unfold V_law
  refine rets_seq (runs_dr (runs_eq (by simp! [hs]; try rfl) ?_))
  refine rets_seq (runs_eq (by simp! [D1]; try rfl) ?_)
  refine rets_seq (runs_eq (by simp! [D2]; try rfl) ?_)
  obtain ⟨M, hM, hM24, hMm, hM41⟩ : ∃ M : Nat, max2U (.w (.int most)) (.w (.int 24)) = some (.w (.int M)) ∧ 24 ≤ M ∧ most ≤ M ∧ M ≤ 41 := by
    rw [gx_max2U_1]
    by_cases h : (24 : Int) > (most : Int)
    · exact ⟨24, by rw [if_pos h]; rfl, by omega, by omega, by omega⟩
    · exact ⟨most, by rw [if_neg h], by omega, by omega, by omega⟩
  refine rets_seq (runs_eq (σ' := [none, some s2, some (.w (w code)), some (.w (.int most)), some (.w (.lst ((WT code (M + 1)).map w))), none, none, none, none, none, none, none, none, none, none, none, none, none]) (by simp! [hM, lworths_ok code hc hl M (by omega)]; try rfl) ?_)
  have hWT : ∀ k, ∀ a ∈ WT code k, k ≤ 100 → a < 18446744073709551616 := fun k a ha hk => by
    obtain ⟨i, hi, rfl⟩ := List.mem_iff_getElem.mp ha
    have hi2 : i < k := by rw [WT_len] at hi; exact hi
    have e := WT_get (code := code) hi2
    rw [List.getD, List.getElem?_eq_getElem hi] at e
    simp at e
    rw [e]
    have := W_le code i hl (by omega)
    omega
  -- worths
  refine rets_seq (runs_dr (runs_not (σ1 := [none, some s2, some (.w (w code)), some (.w (.int most)), some (.w (.lst ((WT code (M + 1)).map w))), none, none, none, none, none, none, none, none, none, none, none, none, none]) ?_ ?_))
  · have e1 := worths_ok code hc hl most (by omega)
    have e2 := repr_nats (l := WT code (most + 1)) (fun a ha => hWT _ a ha (by omega)) (by rw [WT_len]; omega)
    have e3 : cutW ((WT code (M + 1)).map (w : Nat → Wv)) none (some ((most : Int) + 1)) = (WT code (most + 1)).map w := by
      have := cutW_take (w : Nat → Wv) (WT code (M + 1)) (most + 1) (by rw [WT_len]; omega)
      rw [show ((most : Int) + 1) = ((most + 1 : Nat) : Int) from rfl, this]
      unfold WT
      rw [tab_take _ (by omega)]
    rw [w_list (WT code (most + 1))] at e1 e2
    simp! [e1, e2, e3]
  -- what moves leave
  obtain ⟨q1, s3, E1, hq1, ok3⟩ := pickB_ok' ok2 (k := 25) (by decide) (by decide)
  obtain ⟨q2, s4, E2, hq2, ok4⟩ := pickB_ok' ok3 (k := 25) (by decide) (by decide)
  refine rets_seq (runs_dr (runs_forA (enc := w) (as := [0, 1, q1, q2]) (fun _ σ => σ = base s4 code M) (σ0 := base s4 code M) (by simp! [E1, E2, base, w_nat, leSZ (by omega : 4 ≤ 16777216)]; try rfl) rfl ?_ ?_))
  · rintro dn n r σ e rfl
    have hn : n ≤ 25 := by
      have : n ∈ [0, 1, q1, q2] := by rw [e]; simp
      simp only [List.mem_cons, List.not_mem_nil, or_false] at this
      omega
    obtain ⟨z, hz⟩ := repr_ro (ro_lefts (code := code) hl (by omega : n ≤ 100)) (by decide) (by decide)
    have e1 := lefts_ok code hc hl n (by omega)
    rw [w_list (leftsN code n)] at e1
    refine ⟨_, (by simp! [base, w_nat]; try rfl), runs_dr (runs_dr (runs_not (σ1 := [none, some s4, some (.w (w code)), none, some (.w (.lst ((WT code (M + 1)).map w))), some (.w (.int n)), none, none, none, none, none, none, none, none, none, none, none, none]) ?_ (by simp! [base]; try rfl)))⟩
    simp! [e1, llefts_ok code hc hl n (by omega), hz, ne_same]
  · rintro σ rfl
    -- the rounds
    refine rets_seq (runs_dr (Runs.mono (J := fun σ => ∃ s, okS s ∧ σ = base s code M) (runs_for (fun σ => ∃ s, okS s ∧ σ = base s code M) (usR1_lit (by simp! [base]; try rfl)) ⟨s4, ok4, rfl⟩ ?_ ?_) ?_))
    · rintro x - σ ⟨s, ok, rfl⟩
      refine ⟨_, (by simp! [base]; try rfl), runs_dr ?_⟩
      obtain ⟨cnt, s5, P1, hcnt, ok5⟩ := pickB_ok' ok (k := 5) (by decide) (by decide)
      have hcnt : cnt < 5 := by omega
      obtain ⟨piles, s6, P2, P3, P4, ok6⟩ := comp_draw (g := ugName 13) (e := uCall pickBV (uaCons (oV 1) (uaCons (oD (uC (.int 13))) uaNil))) (ow := [13]) (k := 13) (fun s => [none, some s, some (.w (w code)), none, some (.w (.lst ((WT code (M + 1)).map w))), none, some (.w x), none, none, none, none, none, none, none, none, none, none, none]) (fun s y ok => by
        obtain ⟨r, s2, e, hr, ok⟩ := pickB_ok' ok (k := 13) (by decide) (by decide)
        exact ⟨_, (by simp! []; try rfl), r, s2, _, (by simp! [e]; try rfl), (by simp! []; try rfl), .inl hr, ok⟩) ((List.range cnt).map w) (by simp; omega) ok5
      simp only [List.length_map, List.length_range] at P3
      have hp : ∀ a ∈ piles, a ≤ 12 := fun a ha => by have := P4 a ha; omega
      have hp80 : ∀ a ∈ piles, a ≤ 80 := fun a ha => by have := hp a ha; omega
      -- the piles
      refine runs_seq (runs_eq (σ' := [none, some s6, some (.w (w code)), none, some (.w (.lst ((WT code (M + 1)).map w))), none, some (.w x), none, some (.w (.tup (piles.map w))), none, none, none, none, none, none, none, none, none]) ?_ ?_)
      · simp! [base]
        rw [usR1_n (n := cnt) (by simp! [P1]; try rfl) (by omega)]
        simp! [P2]
        try rfl
      have hpw : ∀ a ∈ piles.map (W code), a < 4096 := fun a ha => by
        obtain ⟨b, hb, rfl⟩ := List.mem_map.mp ha
        have := W_le code b hl (by have := hp b hb; omega)
        omega
      have htot := ladded_ok (piles.map (W code)) hpw (by simp; omega)
      refine runs_seq (runs_eq (σ' := [none, some s6, some (.w (w code)), none, some (.w (.lst ((WT code (M + 1)).map w))), none, some (.w x), none, some (.w (.tup (piles.map w))), some (.w (.int (xorN (piles.map (W code))))), some (.w (.lst [])), some (.w (.lst [])), none, none, none, none, none, none]) ?_ ?_)
      · simp! [leSZ (by omega : 0 ≤ 16777216)]
        rw [comp_map (enc := w) (fun a : Nat => w (W code a)) piles (by omega) fun a ha => ?_]
        · simp! [leSZ (by omega : 0 ≤ 16777216)]
          rw [show (piles.map fun a : Nat => (w (W code a) : Wv)) = (piles.map (W code)).map w by rw [List.map_map]; rfl, htot]
          try rfl
        · exact ⟨_, (by simp! []; try rfl), _, (by simp! [w_nat, tab_at (by have := hp a ha; omega : a ≤ M)]; try rfl), (by simp! []; try rfl)⟩
      -- due
      refine runs_seq (runs_dr (runs_forA (enc := fun p : Nat × Nat => .tup [.int p.2, w p.1]) (as := piles.zipIdx) (fun done σ => σ = [none, some s6, some (.w (w code)), none, some (.w (.lst ((WT code (M + 1)).map w))), none, some (.w x), none, some (.w (.tup (piles.map w))), some (.w (.int (xorN (piles.map (W code))))), some (.w (.lst ((done.flatMap (pm code)).map e3))), some (.w (.lst [])), none, none, none, none, none, none]) (by simp! [numW_map]; try rfl) rfl ?_ ?_))
      · rintro done ⟨a, i⟩ rest σ e rfl
        have hq := zip_le hp80
        have ha : a ≤ 80 := hq (a, i) (by rw [e]; simp)
        have hd : done.length ≤ 20 := by
          have := congrArg List.length e
          simp at this
          omega
        have hlen := pms_len code hl done fun q hx => hq q (by rw [e]; simp [hx])
        have hpm := pm_len code hl (a, i) ha
        have hpm2 : (leftsN code a).length ≤ 410 := by simpa [pm] using hpm
        generalize hL : done.flatMap (pm code) = L at *
        refine ⟨_, (by simp! [w_nat]; try rfl), runs_dr (runs_dr (runs_eq (σ' := [none, some s6, some (.w (w code)), none, some (.w (.lst ((WT code (M + 1)).map w))), some (.w (.int a)), some (.w x), none, some (.w (.tup (piles.map w))), some (.w (.int (xorN (piles.map (W code))))), some (.w (.lst ((L ++ pm code (a, i)).map e3))), some (.w (.lst [])), some (.w (.int i)), none, none, none, none, none]) ?_ (by simp [hL]; rfl)))⟩
        simp! [llefts_ok code hc hl a (by omega)]
        rw [comp_map (enc := w) (fun p : Nat × List Nat => e3 (i, p.1, p.2)) (leftsN code a) (by omega) fun p hp => ?_]
        · simp! []
          rw [addL_ok (by simp only [List.length_map]; omega)]
          simp! [pm, List.map_append, List.map_map, Function.comp_def]
        · exact ⟨_, (by simp! [w_lft]; try rfl), _, (by simp! [w_lft, e3, leSZ (by omega : 3 ≤ 16777216)]; try rfl), (by simp! []; try rfl)⟩
      · rintro σ rfl
        rw [show piles.zipIdx.flatMap (pm code) = movesU code piles from rfl]
        have hML := movesU_len hl hp80 (code := code)
        have hML2 : (movesU code piles).length ≤ 5 * 410 := Nat.le_trans hML (Nat.mul_le_mul (by omega) (Nat.le_refl _))
        -- good
        refine runs_seq (runs_dr (runs_forA (enc := e3) (as := movesU code piles) (fun done σ => σ = [none, some s6, some (.w (w code)), none, some (.w (.lst ((WT code (M + 1)).map w))), none, some (.w x), none, some (.w (.tup (piles.map w))), some (.w (.int (xorN (piles.map (W code))))), some (.w (.lst ((movesU code piles).map e3))), some (.w (.lst ((done.filter (good code piles)).map e3))), none, none, none, none, none, none]) (by simp! []; try rfl) rfl ?_ ?_))
        · rintro done m rest σ e rfl
          obtain ⟨a, h1, h2⟩ := moves_mem (m := m) (by rw [e]; simp)
          obtain ⟨h3, h4, -⟩ := lefts_mem h2
          have hlt : m.1 < piles.length := by
            by_cases h : m.1 < piles.length
            · exact h
            · rw [List.getElem?_eq_none (by omega)] at h1; cases h1
          have ha := hp a (List.mem_of_getElem? h1)
          have hge := good_eq code piles m hlt
          have hD : (done.filter (good code piles)).length ≤ 5 * 410 := by
            have h5 := List.length_filter_le (good code piles) done
            have h6 := congrArg List.length e
            rw [List.length_append] at h6
            omega
          refine ⟨_, (by simp! [e3]; try rfl), runs_dr (runs_seq (runs_eq (σ' := [none, some s6, some (.w (w code)), none, some (.w (.lst ((WT code (M + 1)).map w))), none, some (.w x), none, some (.w (.tup (piles.map w))), some (.w (.int (xorN (piles.map (W code))))), some (.w (.lst ((movesU code piles).map e3))), some (.w (.lst ((done.filter (good code piles)).map e3))), some (.w (.int m.1)), some (.w (.int m.2.1)), some (.w (.tup (m.2.2.map w))), some (.w (.lst ((othN code piles m.1).map w))), none, none]) ?_ ?_))⟩
          · simp! [numW_map]
            rw [comp_pure (enc := fun p : Nat × Nat => .tup [.int p.2, w p.1]) (fun q => decide (q.2 ≠ m.1)) (fun q => w (W code q.1)) piles.zipIdx [] (by simp; omega) fun q hq => ?_]
            · simp! [othN, List.map_map, Function.comp_def]
            · have hq12 : q.1 ≤ 12 := hp _ (by have h := (List.mem_zipIdx hq).2.2; rw [h]; exact List.getElem_mem _)
              exact ⟨_, _, (by simp! []; try rfl), (by simp! [w_nat, ne_eq, decide_not]; try rfl), fun _ => ⟨_, (by simp! [w_nat, tab_at (by omega : q.1 ≤ M)]; try rfl), (by simp! []; try rfl)⟩, fun _ => (by simp! []; try rfl)⟩
          · refine runs_dr (runs_eq (σ' := [none, some s6, some (.w (w code)), none, some (.w (.lst ((WT code (M + 1)).map w))), none, some (.w x), none, some (.w (.tup (piles.map w))), some (.w (.int (xorN (piles.map (W code))))), some (.w (.lst ((movesU code piles).map e3))), some (.w (.lst (((done ++ [m]).filter (good code piles)).map e3))), some (.w (.int m.1)), some (.w (.int m.2.1)), some (.w (.tup (m.2.2.map w))), some (.w (.lst ((othN code piles m.1).map w))), none, none]) ?_ (by simp! []; try rfl))
            rw [List.filter_append, List.map_append]
            generalize done.filter (good code piles) = D at *
            have hol : (othN code piles m.1).length ≤ 5 := by
              unfold othN
              rw [List.length_map]
              have h5 := List.length_filter_le (fun q : Nat × Nat => decide (q.2 ≠ m.1)) piles.zipIdx
              simp at h5
              simp
              omega
            have hob : ∀ b ∈ othN code piles m.1, b < 4096 := fun b hb => by
              unfold othN at hb
              obtain ⟨q, hq, rfl⟩ := List.mem_map.mp hb
              have hq := (List.mem_filter.mp hq).1
              have hq12 : q.1 ≤ 12 := hp _ (by have h := (List.mem_zipIdx hq).2.2; rw [h]; exact List.getElem_mem _)
              have := W_le code q.1 hl (by omega)
              omega
            generalize othN code piles m.1 = O at *
            have hsum := ladded_ok (O ++ m.2.2.map (W code)) (fun b hb => by
              rcases List.mem_append.mp hb with hb | hb
              · exact hob b hb
              · obtain ⟨c, hc1, rfl⟩ := List.mem_map.mp hb
                have h5 : c < a := h4 c hc1
                have := W_le code c hl (by omega)
                omega) (by have h6 : m.2.2.length ≤ 2 := h3; simp; omega)
            simp! [leSZ (by omega : 3 ≤ 16777216), leSZ (by omega : 1 ≤ 16777216)]
            rw [comp_map (enc := w) (fun a : Nat => w (W code a)) m.2.2 (by have h6 : m.2.2.length ≤ 2 := h3; omega) fun b hb => ?_]
            · simp! []
              rw [addL_ok (by have h6 : m.2.2.length ≤ 2 := h3; simp only [List.length_map]; omega)]
              simp! []
              rw [show O.map (w : Nat → Wv) ++ (m.2.2.map fun a : Nat => (w (W code a) : Wv)) = (O ++ m.2.2.map (W code)).map w by rw [List.map_append, List.map_map]; rfl, hsum]
              simp! []
              by_cases hg : good code piles m = true
              · have hg3 : (((xorN (O ++ m.2.2.map (W code)) : Nat) : Int) = 0) = True := by
                  rw [hg] at hge
                  have := of_decide_eq_true hge
                  rw [this]; simp
                simp! [hg3]
                rw [List.filter_cons, if_pos hg]
                have e5 : mulL [Wv.tup [.int m.1, .int m.2.1, .tup (m.2.2.map w)]] 1 = some (.lst [e3 m]) := rfl
                simp! [e5]
                rw [addL_ok (by simp only [List.length_map, List.length_cons, List.length_nil]; omega)]
                try rfl
              · have hg3 : (((xorN (O ++ m.2.2.map (W code)) : Nat) : Int) = 0) = False := by
                  rw [eq_false_of_ne_true hg] at hge
                  have := of_decide_eq_false hge
                  simp only [eq_iff_iff, iff_false]
                  omega
                simp! [hg3]
                rw [List.filter_cons, if_neg hg]
                have e5 : mulL [Wv.tup [.int m.1, .int m.2.1, .tup (m.2.2.map w)]] 0 = some (.lst []) := rfl
                simp! [e5]
                rw [addL_ok (by simp only [List.length_map, List.length_cons, List.length_nil]; omega)]
                try rfl
            · have h5 : b < a := h4 b hb
              exact ⟨_, (by simp! []; try rfl), _, (by simp! [w_nat, tab_at (by omega : b ≤ M)]; try rfl), (by simp! []; try rfl)⟩
        · rintro σ rfl
          obtain ⟨z1, hz1⟩ := repr_ro (ro_moves (code := code) (piles := piles) hl hp80 (by omega) (l := movesU code piles) (fun m h => h) (by omega)) (by decide) (by decide)
          have hGL := List.length_filter_le (good code piles) (movesU code piles)
          obtain ⟨z2, hz2⟩ := repr_ro (ro_moves (code := code) (piles := piles) hl hp80 (by omega) (l := (movesU code piles).filter (good code piles)) (fun m h => (List.mem_filter.mp h).1) (by omega)) (by decide) (by decide)
          have e1 := moves_ok code hc hl piles hp80 (by omega)
          have e2 := wm_ok code hc hl piles hp80 (by omega)
          have e3' := fw_ok code hc hl piles hp80 (by omega)
          rw [w_list piles] at e1 e2 e3'
          refine runs_seq (runs_dr (runs_not (σ1 := [none, some s6, some (.w (w code)), none, some (.w (.lst ((WT code (M + 1)).map w))), none, some (.w x), none, some (.w (.tup (piles.map w))), some (.w (.int (xorN (piles.map (W code))))), some (.w (.lst ((movesU code piles).map e3))), some (.w (.lst (((movesU code piles).filter (good code piles)).map e3))), none, none, none, none, none, none]) ?_ ?_))
          · simp! [e1, e2, hz1, hz2, ne_same]
          · refine runs_dr (runs_not (σ1 := [none, some s6, some (.w (w code)), none, some (.w (.lst ((WT code (M + 1)).map w))), none, some (.w x), none, some (.w (.tup (piles.map w))), some (.w (.int (xorN (piles.map (W code))))), none, none, none, none, none, none, none, none]) ?_ ⟨s6, ok6, (by simp! [base]; try rfl)⟩)
            by_cases h0 : xorN (piles.map (W code)) = 0
            · simp! [e3', repr_bl, h0, ne_same]
              try simp [h0, repr_bl, ne_same]
            · simp! [e3', repr_bl, h0, ne_same]
              try simp [h0, repr_bl, ne_same]
    · rintro σ ⟨s, ok, rfl⟩
      exact ⟨s, ok, rfl⟩
    · rintro σ ⟨s, ok, rfl⟩
      obtain ⟨piles, s6, P2, P3, P4, ok6⟩ := comp_draw (g := ugName 13) (e := uCall pickBV (uaCons (oV 1) (uaCons (oD (uC (.int 6))) uaNil))) (ow := [13]) (k := 6) (fun s => [none, some s, some (.w (w code)), none, none, none, none, none, none, none, none, none, none, none, none, none, none, none]) (fun s y ok => by
        obtain ⟨r, s2, e, hr, ok⟩ := pickB_ok' ok (k := 6) (by decide) (by decide)
        exact ⟨_, (by simp! []; try rfl), r, s2, _, (by simp! [e]; try rfl), (by simp! []; try rfl), .inl hr, ok⟩) ((List.range 3).map w) (by simp; omega) ok
      simp only [List.length_map, List.length_range] at P3
      have hp : ∀ a ∈ piles, a ≤ 5 := fun a ha => by have := P4 a ha; omega
      have hp80 : ∀ a ∈ piles, a ≤ 80 := fun a ha => by have := hp a ha; omega
      have hsum : piles.sum ≤ 15 := by
        match piles, P3 with
        | [a, b, c], _ =>
          have h1 := hp a (by simp)
          have h2 := hp b (by simp)
          have h3 := hp c (by simp)
          simp
          omega
      refine rets_seq (runs_dr (runs_eq (σ' := [none, some s6, some (.w (w code)), none, none, none, none, some (.w (w piles)), none, none, none, none, none, none, none, none, none, none]) ?_ ?_))
      · simp! [base]
        rw [usR1_n (n := 3) (by simp! []; try rfl) (by omega)]
        simp! [P2]
        try rfl
      obtain ⟨T, hT, q⟩ := wins_ok code hc hl 40 piles [] ⟨List.nodup_nil, by simp⟩ (by omega) hsum (by omega)
      have e3' := fw_ok code hc hl piles hp80 (by omega)
      refine rets_eq (σ' := ?s) ?h rfl
      case h =>
        rw [show encT code [] = [] from rfl] at q
        simp! [e3', q, win]
        try rfl
end K_k27

open PySem PySem.W PySem.Calls PyProof.Rows
theorem PySem.Challenge.cw_eachgame_k27_whole_worths_and_who_wins_holds : PySem.Challenge.rw_eachgame_k27_whole_worths_and_who_wins.Holds := by
  w_on; o_law
  refine HandSHeadRun.head_any (r := OpenLaw.row PySem.Challenge.rw_eachgame_k27_whole_worths_and_who_wins) (q := view (OpenLaw.row PySem.Challenge.rw_eachgame_k27_whole_worths_and_who_wins).prog [16]) (H := K_k27.hk) (ob := K_k27.ob) (M := 4000) (loose := K_k27.loose) (d := HandSHeadRun.topDef (OpenLaw.row PySem.Challenge.rw_eachgame_k27_whole_worths_and_who_wins).prog 16) (kwd := []) K_k27.ob_eq
    (by kernel_rfl) (fun s => by kernel_rfl) K_k27.run (by kernel_rfl) (by kernel_rfl) (by kernel_rfl) (by rfl) (by first | assumption | decide +kernel) (by decide +kernel) ⟨rfl, rfl, rfl, rfl, rfl, by decide +kernel⟩ ?hw ?hc
  case hw => w_witness2
  case hc =>
    refine G.walkG (l := PySem.Challenge.rw_eachgame_k27_whole_worths_and_who_wins) (n := 63) (k := 42) (x := "script") (F := K_k27.F_law) rfl (by decide) (by kernel_rfl) ⟨rfl, by decide, by decide⟩ ?F (fun ns hns => G.simFn_law K_k27.su_law ns (K_k27.res ns hns).choose_spec)
    intro w mg fa h Y G hmg0
    obtain ⟨K, KX, c⟩ := Y
    have hmg : mg ("law" : PySem.Str) = some (.ref fa) := by
      have e : (HandSHeadRun.topDef (OpenLaw.row PySem.Challenge.rw_eachgame_k27_whole_worths_and_who_wins).prog 16).name = ("law" : PySem.Str) := by kernel_rfl
      rw [← e]
      exact hmg0
    obtain ⟨fd, hb, hF⟩ := K_k27.facts (Pr := (PySem.Challenge.rw_eachgame_k27_whole_worths_and_who_wins).prog) (w := w) KX G hmg c
    exact ⟨K, fd, KX, hb, hF⟩
