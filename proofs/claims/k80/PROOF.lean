import PyProof.Rows.All
import Wide.All
import OpenK.AllK
import Wide.FinOn
import HandS.ForMost
import HandS.TupAny
import HandS.IsInst
import HandS.DictComp
import HandS.Wide
import KE.SortData
import KE.DataIsa
import KE.DataEq
import KE.DataMinMax
import PySem.Challenge.RW_foliohouse_k80_whole_rows_of_two_readers
set_option Elab.async false
set_option linter.all false
set_option maxRecDepth 100000
set_option maxRecDepth 100000
/-! DLM: the mirror language: what a def computes, over data as trees, its local names in slots. -/
namespace DL
open PySem L2

abbrev Py := PyData

/-- what a local name holds: nothing that is told; a value that no one changes; a list, a dict that this name alone holds -/
inductive C where
  | no
  | val (d : Py)
  | ml (l : List Py)
  | md (l : List (Py × Py))
abbrev Rho := List C
abbrev M (α : Type) := Rho → Option (α × Rho)
inductive Fl where
  | nx | rt (d : Py) | bk | ct
abbrev S := M Fl
abbrev T := Py → M Unit

def calmC : C → Bool
  | .ml _ => false
  | .md _ => false
  | _ => true
variable {α β : Type}
def ret (a : α) : M α := fun ρ => some (a, ρ)
def bnd (m : M α) (f : α → M β) : M β := fun ρ => (m ρ).bind fun p => f p.1 p.2
def lif (o : Option α) : M α := fun ρ => o.bind fun a => some (a, ρ)
def setC (i : Nat) (c : C) : M Unit := fun ρ => some ((), ρ.set i c)

/-! ### names, constants -/
def mC (d : Py) : M Py := ret d
/-- the value of a name; a list that is held so far is from here on a value -/
def useC : C → Option Py
  | .no => none
  | .val d => some d
  | .ml l => some (.list l)
  | .md l => some (.dict l)
def mVar (i : Nat) : M Py := fun ρ => (ρ[i]?.bind useC).bind fun d => some (d, ρ.set i (.val d))
/-- .. looked at, not handed on -/
def mPk (i : Nat) : M Py := fun ρ => (ρ[i]?.bind useC).bind fun d => some (d, ρ)

/-! ### operators -/
def mOp1 (g : Py → Option Py) (a : M Py) : M Py := bnd a fun x => lif (g x)
def mOp2 (g : Py → Py → Option Py) (a b : M Py) : M Py := bnd a fun x => bnd b fun y => lif (g x y)
/-- the left one a name that is looked at -/
def mOpV (g : Py → Py → Option Py) (i : Nat) (b : M Py) : M Py := bnd (mPk i) fun _ => bnd b fun y => bnd (mPk i) fun x => lif (g x y)
def asB : Py → Option Bool
  | .bool b => some b
  | _ => none
def mTest (a : M Py) : M Bool := bnd a fun x => lif (asB x)
def mAnd (a b : M Bool) : M Bool := bnd a fun c => if c = true then b else ret false
def mOr (a b : M Bool) : M Bool := bnd a fun c => if c = true then ret true else b
def mNot (a : M Bool) : M Bool := bnd a fun c => ret (!c)
def mAndV (a b : M Py) : M Py := bnd (mTest a) fun c => if c = true then b else ret (.bool false)
def mOrV (a b : M Py) : M Py := bnd (mTest a) fun c => if c = true then ret (.bool true) else b
def mNotV (a : M Py) : M Py := bnd (mTest a) fun c => ret (.bool (!c))
def mIf (c : M Bool) (a b : M α) : M α := bnd c fun k => if k = true then a else b
/-- a < b < c -/
def mChain (g g' : Py → Py → Option Py) (a b c : M Py) : M Py := bnd a fun x => bnd b fun y => bnd (lif ((g x y).bind asB)) fun k => if k = true then bnd c fun z => lif (g' y z) else ret (.bool false)

/-! ### numbers, texts, tuples -/
def big : Int := 18446744073709551616
def gAdd : Py → Py → Option Py
  | .int a, .int b => some (.int (a + b))
  | .str a, .str b => if a.length + b.length ≤ 16777216 then some (.str (a ++ b)) else none
  | .tuple a, .tuple b => if a.length + b.length ≤ 16777216 then some (.tuple (a ++ b)) else none
  | _, _ => none
def gSub : Py → Py → Option Py
  | .int a, .int b => some (.int (a - b))
  | _, _ => none
def gMul : Py → Py → Option Py
  | .int a, .int b => if (-big < a ∧ a < big) ∨ (-big < b ∧ b < big) then some (.int (a * b)) else none
  | _, _ => none
def gDiv : Py → Py → Option Py
  | .int a, .int b => if 0 < b ∧ b < big then some (.int (a / b)) else none
  | _, _ => none
def gMod : Py → Py → Option Py
  | .int a, .int b => if 0 < b then some (.int (a % b)) else none
  | _, _ => none
def gNeg : Py → Option Py
  | .int a => some (.int (-a))
  | _ => none
def gCmp (p : Int → Int → Bool) : Py → Py → Option Py
  | .int a, .int b => some (.bool (p a b))
  | _, _ => none
def gLt := gCmp fun a b => decide (a < b)
def gLe := gCmp fun a b => decide (a ≤ b)
def gGt := gCmp fun a b => decide (b < a)
def gGe := gCmp fun a b => decide (b ≤ a)
/-- ==, != of data without dicts -/
def okEq (x y : Py) : Bool := x.plain && (y.plain && decide (min x.depth y.depth ≤ 64))
def gEq (x y : Py) : Option Py := if okEq x y = true then some (.bool (PyData.eqv x y)) else none
def gNe (x y : Py) : Option Py := if okEq x y = true then some (.bool (!PyData.eqv x y)) else none
def isNone : Py → Bool
  | .none => true
  | _ => false
def gIsN (x y : Py) : Option Py := if isNone y = true then some (.bool (isNone x)) else none
def gNotN (x y : Py) : Option Py := if isNone y = true then some (.bool (!isNone x)) else none
/-- .. of one sign and a text -/
def gInS : Py → Py → Option Py
  | .str a, .str b => match a.cps.toList with
    | [c] => some (.bool (decide (c ∈ b.cps.toList)))
    | _ => none
  | _, _ => none
def gNotInS : Py → Py → Option Py
  | .str a, .str b => match a.cps.toList with
    | [c] => some (.bool (!decide (c ∈ b.cps.toList)))
    | _ => none
  | _, _ => none
def seqOf : Py → Option (List Py)
  | .list l => some l
  | .tuple l => some l
  | _ => none
def anyEq (x : Py) (l : List Py) : Bool := l.any fun y => PyData.eqv y x
def okIn (x : Py) (l : List Py) : Bool := x.plain && (PyData.plainAll l && decide (min (PyData.depthAll l) x.depth ≤ 64))
def gIn (x y : Py) : Option Py := (seqOf y).bind fun l => if okIn x l = true then some (.bool (anyEq x l)) else none
def gNotIn (x y : Py) : Option Py := (seqOf y).bind fun l => if okIn x l = true then some (.bool (!anyEq x l)) else none
/-- s[i], xs[i], t[i] -/
def gIx : Py → Py → Option Py
  | .list l, .int i => atI l i
  | .tuple l, .int i => atI l i
  | .str s, .int i => if s.length ≤ 16777216 then (atI s.cps.toList i).map fun c => .str ⟨#[c]⟩ else none
  | _, _ => none
def asI : Py → Option Int
  | .int i => some i
  | _ => none
abbrev MO := M (Option Int)
def mNoPart : MO := ret none
def mPart (a : M Py) : MO := bnd a fun x => lif ((asI x).map some)
def cutP (xs : List Py) (lo hi : Option Int) : List Py := (xs.drop (HT.sIx xs.length 0 lo)).take (HT.sIx xs.length xs.length hi - HT.sIx xs.length 0 lo)
def gSl : Py → Option Int → Option Int → Option Py
  | .str s, lo, hi => if s.length ≤ 16777216 then some (.str (cutS s lo hi)) else none
  | .tuple l, lo, hi => some (.tuple (cutP l lo hi))
  | _, _, _ => none
def mSl (a : M Py) (lo hi : MO) : M Py := bnd a fun x => bnd lo fun l => bnd hi fun h => lif (gSl x l h)
/-- xs[lo:hi]: a new list -/
def gSlL : Py → Option Int → Option Int → Option (List Py)
  | .list l, lo, hi => some (cutP l lo hi)
  | _, _, _ => none
def mSlL (a : M Py) (lo hi : MO) : M (List Py) := bnd a fun x => bnd lo fun l => bnd hi fun h => lif (gSlL x l h)
def gLen : Py → Option Py
  | .list l => some (.int l.length)
  | .tuple l => some (.int l.length)
  | .str s => if s.length ≤ 16777216 then some (.int s.length) else none
  | _ => none
/-- int(x) -/
def gInt : Py → Option Py
  | .int i => some (.int i)
  | .bool b => some (.int (if b then 1 else 0))
  | .str s => if s.length ≤ 640 then (PySem.intText? s).map .int else none
  | _ => none

/-! ### arguments, displays -/
def mNil : M (List Py) := ret []
def mCons (a : M Py) (r : M (List Py)) : M (List Py) := bnd a fun x => bnd r fun l => ret (x :: l)
def few (l : List α) : Option (List α) := if l.length ≤ 1000 then some l else none
def mTup (as : M (List Py)) : M Py := bnd as fun l => lif ((few l).map .tuple)
def mLst (as : M (List Py)) : M (List Py) := bnd as fun l => lif (few l)
def mFrz (m : M (List Py)) : M Py := bnd m fun l => ret (.list l)
def mCall (f : List Py → Option Py) (as : M (List Py)) : M Py := bnd as fun l => lif (f l)
/-- a call that is handed the thing in slot i to change it -/
def mHeld (i : Nat) : M Unit := fun ρ => ρ[i]?.bind fun c => if calmC c = false then some ((), ρ) else none
def mCallR (f : C → List Py → Option (Py × C)) (i : Nat) (as : M (List Py)) : M Py := bnd (mHeld i) fun _ => bnd as fun l => fun ρ => (ρ[i]?.bind fun c => f c l).bind fun p => some (p.1, ρ.set i p.2)
def mFn1 (g : Py → Option Py) (a : M Py) : M Py := mOp1 g a
def asL : Py → Option (List Py)
  | .list l => some l
  | _ => none
/-- xs + ys: a new list -/
def mCatL (a b : M Py) : M (List Py) := bnd a fun x => bnd b fun y => lif ((asL x).bind fun l => (asL y).bind fun r => if l.length + r.length ≤ 16777216 then some (l ++ r) else none)
def mListOf (a : M Py) : M (List Py) := bnd a fun x => lif (seqOf x)
def gTupleOf : Py → Option Py := fun x => (seqOf x).map .tuple
def intsOf : List Py → Option (List Int)
  | [] => some []
  | .int i :: r => (intsOf r).map (i :: ·)
  | _ => none
def boolsOf : List Py → Option (List Bool)
  | [] => some []
  | .bool i :: r => (boolsOf r).map (i :: ·)
  | _ => none
def strsOf : List Py → Option (List Str)
  | [] => some []
  | .str i :: r => (strsOf r).map (i :: ·)
  | _ => none
def gSum (x : Py) : Option Py := (asL x).bind fun l => (intsOf l).map fun ns => .int ns.sum
def gAll (x : Py) : Option Py := (asL x).bind fun l => (boolsOf l).map fun bs => .bool (bs.all id)
def gAny (x : Py) : Option Py := (asL x).bind fun l => (boolsOf l).map fun bs => .bool (bs.any id)
def maxI : Int → List Int → Int := fun a l => l.foldl (fun m x => if m < x then x else m) a
def minI : Int → List Int → Int := fun a l => l.foldl (fun m x => if x < m then x else m) a
def gMaxL (x : Py) : Option Py := (asL x).bind fun l => (intsOf l).bind fun ns => match ns with
  | [] => none
  | a :: r => some (.int (maxI a r))
def gMinL (x : Py) : Option Py := (asL x).bind fun l => (intsOf l).bind fun ns => match ns with
  | [] => none
  | a :: r => some (.int (minI a r))
def gMax2 : Py → Py → Option Py
  | .int i, .int j => some (.int (if j > i then j else i))
  | _, _ => none
def gMin2 : Py → Py → Option Py
  | .int i, .int j => some (.int (if j < i then j else i))
  | _, _ => none
def gJoin (s x : Py) : Option Py := match s, x with
  | .str a, .list l => (strsOf l).bind fun ys => if (ys.map (·.length)).sum + ys.length * a.length ≤ 16777216 then some (.str (PySem.Str.join a ys)) else none
  | _, _ => none
/-! ### isinstance, sorted -/
def gIsa (p : Py → Bool) (x : Py) : Option Py := if x.plain = true then some (.bool (p x)) else none
def alikeOk (l : List Py) : Bool := l.all fun d => l.all fun d' => PySem.W.alike d d'
def sortOk (l : List Py) : Bool := (l.all fun d => match d with
    | .tuple (_ :: _) => true
    | _ => false) || (l.all fun d => match d with
    | .tuple _ => false
    | .none => false
    | _ => true)
def sorted (l : List Py) : List Py := l.mergeSort (PySem.W.dataLe false id)
def gSorted (x : Py) : Option (List Py) := (asL x).bind fun l => if alikeOk l = true ∧ sortOk l = true ∧ l.length ≤ 16777216 ∧ PyData.depthAll l ≤ 64 ∧ PyData.plainAll l = true then some (sorted l) else none

/-! ### what a loop goes through -/
abbrev I := M (List Py)
def iSeq (a : M Py) : I := bnd a fun x => lif (seqOf x)
def signs (s : Str) : List Py := s.cps.toList.map fun c => .str ⟨#[c]⟩
def asS : Py → Option Str
  | .str s => some s
  | _ => none
def iStr (a : M Py) : I := bnd a fun x => lif ((asS x).map signs)
def upto (lo : Int) (n : Nat) : List Py := (List.range n).map fun k => .int (lo + (k : Nat))
def small (i : Int) : Bool := decide (-4611686018427387904 ≤ i ∧ i < 4611686018427387904)
def gRange1 : Py → Option (List Py)
  | .int n => if small n = true then some (upto 0 n.toNat) else none
  | _ => none
def iRange1 (a : M Py) : I := bnd a fun x => lif (gRange1 x)
def gRange2 : Py → Py → Option (List Py)
  | .int i, .int j => if small i = true ∧ small j = true then some (upto i (j - i).toNat) else none
  | _, _ => none
def iRange2 (a b : M Py) : I := bnd a fun x => bnd b fun y => lif (gRange2 x y)
def iKeys (a : M Py) : I := bnd a fun x => match x with
  | .dict l => ret (l.map (·.1))
  | _ => lif none

/-! ### comprehensions -/
def wipeC (ρ : Rho) : List Nat → Rho
  | [] => ρ
  | v :: vs => (wipeC ρ vs).set v .no
def backC (ρ0 ρ : Rho) : List Nat → Rho
  | [] => ρ
  | v :: vs => (backC ρ0 ρ vs).set v (ρ0.getD v .no)
def lcGo (t : T) (c : M Bool) (e : M Py) (vs : List Nat) : List Py → M (List Py)
  | [] => ret []
  | x :: xs => fun ρ => ((t x) (wipeC ρ vs)).bind fun p => (c p.2).bind fun q =>
      if q.1 = true then (e q.2).bind fun r => (lcGo t c e vs xs r.2).bind fun z => some (r.1 :: z.1, z.2)
      else lcGo t c e vs xs q.2
def mLc (it : I) (t : T) (c : M Bool) (e : M Py) (vs : List Nat) : M (List Py) := bnd it fun xs => fun ρ =>
  if xs.length < 16777216 ∧ (vs.all fun v => calmC (ρ.getD v .no)) = true then (lcGo t c e vs xs ρ).bind fun z => some (z.1, backC ρ z.2 vs) else none
def mYes : M Bool := ret true

/-! ### targets -/
def tName (i : Nat) : T := fun d => setC i (.val d)
def tsNil : List Py → M Unit
  | [] => ret ()
  | _ => lif none
def tsCons (t : T) (r : List Py → M Unit) : List Py → M Unit
  | [] => lif none
  | d :: ds => bnd (t d) fun _ => r ds
def tTup (n : Nat) (r : List Py → M Unit) : T
  | .tuple l => if l.length = n then r l else lif none
  | _ => lif none

/-! ### statements -/
def sNext : S := ret .nx
def sSeq (a b : S) : S := fun ρ => (a ρ).bind fun p => match p.1 with
  | .nx => b p.2
  | f => some (f, p.2)
def sAsg (m : M Py) (t : T) : S := bnd m fun d => bnd (t d) fun _ => ret .nx
def sAsgL (i : Nat) (m : M (List Py)) : S := bnd m fun l => bnd (setC i (.ml l)) fun _ => ret .nx
def sAsgD (i : Nat) (m : M (List (Py × Py))) : S := bnd m fun l => bnd (setC i (.md l)) fun _ => ret .nx
def sPar (i j : Nat) (a b : M Py) : S := bnd a fun x => bnd b fun y => bnd (setC i (.val x)) fun _ => bnd (setC j (.val y)) fun _ => ret .nx
def sExpr (m : M Py) : S := bnd m fun _ => ret .nx
def sRet (m : M Py) : S := bnd m fun d => ret (.rt d)
def sRetN : S := ret (.rt .none)
def sIf (c : M Bool) (a b : S) : S := bnd c fun k => if k = true then a else b
def sBrk : S := ret .bk
def sCt : S := ret .ct
def sAug (i : Nat) (g : Py → Py → Option Py) (m : M Py) : S := fun ρ => (ρ[i]?.bind fun c => match c with
    | .val x => some x
    | _ => none).bind fun x => (bnd m fun y => bnd (lif (g x y)) fun z => bnd (setC i (.val z)) fun _ => ret .nx) ρ
def asML : C → Option (List Py)
  | .ml l => some l
  | _ => none
def asMD : C → Option (List (Py × Py))
  | .md l => some l
  | _ => none
def mGetL (i : Nat) : M (List Py) := fun ρ => (ρ[i]?.bind asML).bind fun l => some (l, ρ)
def mGetD (i : Nat) : M (List (Py × Py)) := fun ρ => (ρ[i]?.bind asMD).bind fun l => some (l, ρ)
def sApp (i : Nat) (m : M Py) : S := bnd (mGetL i) fun _ => bnd m fun d => bnd (mGetL i) fun l => bnd (lif (if l.length < 16777216 then some () else none)) fun _ => bnd (setC i (.ml (l ++ [d]))) fun _ => ret .nx
def sExt (i : Nat) (m : M Py) : S := bnd (mGetL i) fun _ => bnd m fun d => bnd (mGetL i) fun l => bnd (lif ((asL d).bind fun r => if l.length + r.length ≤ 16777216 then some r else none)) fun r => bnd (setC i (.ml (l ++ r))) fun _ => ret .nx
/-- xs[k] = e -/
def sSetL (i : Nat) (m k : M Py) : S := bnd m fun d => bnd (mGetL i) fun _ => bnd k fun j => bnd (mGetL i) fun l => bnd (lif ((asI j).bind (ixN l.length))) fun n => bnd (setC i (.ml (l.set n d))) fun _ => ret .nx
def forGo (t : T) (b : S) : List Py → S
  | [] => ret .nx
  | x :: xs => fun ρ => (t x ρ).bind fun p => (b p.2).bind fun q => match q.1 with
    | .nx => forGo t b xs q.2
    | .ct => forGo t b xs q.2
    | .bk => some (.nx, q.2)
    | .rt d => some (.rt d, q.2)
def sFor (it : I) (t : T) (b : S) : S := bnd it fun xs => forGo t b xs
def whGo (c : M Bool) (b : S) : Nat → S
  | 0 => lif none
  | n + 1 => fun ρ => (c ρ).bind fun p => if p.1 = true then (b p.2).bind fun q => match q.1 with
      | .nx => whGo c b n q.2
      | .ct => whGo c b n q.2
      | .bk => some (.nx, q.2)
      | .rt d => some (.rt d, q.2)
    else some (.nx, p.2)

/-! ### defs -/
def finP : Fl → Option Py
  | .nx => some .none
  | .rt d => some d
  | _ => none
/-- a def of np parameters and n further names -/
def mDef (np n : Nat) (b : S) (as : List Py) : Option Py := if as.length = np then (b (as.map C.val ++ List.replicate n .no)).bind fun p => finP p.1 else none
/-- a def that changes what is handed to it in place p -/
def mDefR (p np n : Nat) (b : S) (c : C) (as : List Py) : Option (Py × C) := if as.length + 1 = np ∧ p ≤ as.length ∧ calmC c = false then (b (((as.take p).map C.val ++ c :: (as.drop p).map C.val) ++ List.replicate n .no)).bind fun q => (finP q.1).bind fun d => q.2[p]?.bind fun c' => if calmC c' = false then some (d, c') else none else none
/-! ### the law: its pool -/
def saltOf (ns : List Int) : Int := (ns.take 63).foldl (fun s c => (s * 31 + c) % 1000003) 7
def poolD (ns : List Int) : List Py := [.list (ns.map .int), .int 0, .int 0, .int 0, .int (saltOf ns)]
def mLaw (n : Nat) (b : S) (ns : List Int) : Option Py := (b (.no :: .ml (poolD ns) :: List.replicate n .no)).bind fun p => finP p.1
end DL

set_option maxRecDepth 100000
/-! DLR1: what a heap's value stands for; the relation between slots and names; readings of expressions. -/
namespace DL
open PySem L2

/-! ### a value stands for data, in a heap that grows -/
def keyP : Key → Py
  | .inl i => .int i
  | .inr x => .str x
section
variable (K : PySem.W.Frag) (F : Hp)
mutual
inductive Rp : V → Py → Prop
  | non : Rp .non .none
  | bl (b : Bool) : Rp (.bl b) (.bool b)
  | int (i : Int) : Rp (.int i) (.int i)
  | str (x : Str) : Rp (.str x) (.str x)
  | lst {a : Addr} {xs : List V} {ds : List Py} : F a = some (.lst xs) → RpL xs ds → Rp (.ref a) (.list ds)
  | tup {a : Addr} {xs : List V} {ds : List Py} : SqT K F a xs → RpL xs ds → Rp (.ref a) (.tuple ds)
  | dic {a : Addr} {o : HO} {l : List (Py × Py)} : Rd F a o → RpO o l → Rp (.ref a) (.dict l)
inductive RpL : List V → List Py → Prop
  | nil : RpL [] []
  | cons {v : V} {vs : List V} {d : Py} {ds : List Py} : Rp v d → RpL vs ds → RpL (v :: vs) (d :: ds)
inductive RpO : HO → List (Py × Py) → Prop
  | k {kvs : List (Key × V)} {l : List (Py × Py)} : RpK kvs l → RpO (.dK kvs) l
  | t {kvs : List (List Key × V)} {l : List (Py × Py)} : RpT kvs l → RpO (.dT kvs) l
inductive RpK : List (Key × V) → List (Py × Py) → Prop
  | nil : RpK [] []
  | cons {k : Key} {v : V} {d : Py} {kvs : List (Key × V)} {l : List (Py × Py)} : Rp v d → RpK kvs l → RpK ((k, v) :: kvs) ((keyP k, d) :: l)
inductive RpT : List (List Key × V) → List (Py × Py) → Prop
  | nil : RpT [] []
  | cons {k : List Key} {v : V} {d : Py} {kvs : List (List Key × V)} {l : List (Py × Py)} : Rp v d → RpT kvs l → RpT ((k, v) :: kvs) ((.tuple (k.map keyP), d) :: l)
end
end
section
variable {K : PySem.W.Frag} {F F' : Hp}
/-- what is read may be read later -/
def Reach (K : PySem.W.Frag) (F F' : Hp) : Prop := (∀ a xs, F a = some (.lst xs) → F' a = some (.lst xs)) ∧ (∀ a xs, SqT K F a xs → SqT K F' a xs) ∧ ∀ a o l, Rd F a o → RpO K F o l → Rd F' a o
theorem Reach.of (e : Same F F') : Reach K F F' := by
  refine ⟨fun a xs h => e _ _ h, fun a xs h => ?_, fun a o l h _ => ?_⟩
  · rcases h with (h | ⟨o, h⟩) | h
    · exact .inl (.inl (e _ _ h))
    · exact .inl (.inr ⟨o, e _ _ h⟩)
    · exact .inr h
  · rcases h with h | ⟨u, h⟩
    · exact .inl (e _ _ h)
    · exact .inr ⟨u, e _ _ h⟩
theorem Rp.go (e : Reach K F F') {v : V} {d : Py} (h : Rp K F v d) : Rp K F' v d :=
  Rp.rec (motive_1 := fun v d _ => Rp K F' v d) (motive_2 := fun vs ds _ => RpL K F' vs ds) (motive_3 := fun o l _ => RpO K F' o l) (motive_4 := fun k l _ => RpK K F' k l) (motive_5 := fun k l _ => RpT K F' k l)
    .non .bl .int .str (fun s _ i => .lst (e.1 _ _ s) i) (fun s _ i => .tup (e.2.1 _ _ s) i) (fun s r i => .dic (e.2.2 _ _ _ s r) i) .nil (fun _ _ a b => .cons a b) (fun _ i => .k i) (fun _ i => .t i) .nil (fun _ _ a b => .cons a b) .nil (fun _ _ a b => .cons a b) h
theorem RpL.go (e : Reach K F F') : ∀ {vs : List V} {ds : List Py}, RpL K F vs ds → RpL K F' vs ds
  | _, _, .nil => .nil
  | _, _, .cons a b => .cons (a.go e) (RpL.go e b)
theorem RpK.go (e : Reach K F F') : ∀ {vs : List (Key × V)} {ds : List (Py × Py)}, RpK K F vs ds → RpK K F' vs ds
  | _, _, .nil => .nil
  | _, _, .cons a b => .cons (a.go e) (RpK.go e b)
theorem RpT.go (e : Reach K F F') : ∀ {vs : List (List Key × V)} {ds : List (Py × Py)}, RpT K F vs ds → RpT K F' vs ds
  | _, _, .nil => .nil
  | _, _, .cons a b => .cons (a.go e) (RpT.go e b)
theorem RpO.go (e : Reach K F F') {o : HO} {l : List (Py × Py)} : RpO K F o l → RpO K F' o l
  | .k h => .k (h.go e)
  | .t h => .t (h.go e)
theorem Rp.mono (e : Same F F') {v : V} {d : Py} (h : Rp K F v d) : Rp K F' v d := h.go (.of e)
theorem RpL.mono (e : Same F F') {v : List V} {d : List Py} (h : RpL K F v d) : RpL K F' v d := h.go (.of e)
theorem RpO.mono (e : Same F F') {v : HO} {d : List (Py × Py)} (h : RpO K F v d) : RpO K F' v d := h.go (.of e)
theorem RpL.len : ∀ {vs : List V} {ds : List Py}, RpL K F vs ds → vs.length = ds.length
  | _, _, .nil => rfl
  | _, _, .cons _ b => by rw [List.length_cons, List.length_cons, RpL.len b]
theorem RpL.app : ∀ {vs ws : List V} {ds es : List Py}, RpL K F vs ds → RpL K F ws es → RpL K F (vs ++ ws) (ds ++ es)
  | _, _, _, _, .nil, h => h
  | _, _, _, _, .cons a b, h => .cons a (RpL.app b h)
theorem RpL.get : ∀ {vs : List V} {ds : List Py} {i : Nat} {d : Py}, RpL K F vs ds → ds[i]? = some d → ∃ v, vs[i]? = some v ∧ Rp K F v d
  | _, _, _, _, .nil, e => by simp at e
  | _, _, 0, _, .cons a b, e => by simp at e; subst e; exact ⟨_, rfl, a⟩
  | _, _, i + 1, d, .cons a b, e => by
    obtain ⟨v, h1, h2⟩ := RpL.get (i := i) (d := d) b (by simpa using e)
    exact ⟨v, by simpa using h1, h2⟩
theorem RpL.get' : ∀ {vs : List V} {ds : List Py} {i : Nat} {v : V}, RpL K F vs ds → vs[i]? = some v → ∃ d, ds[i]? = some d ∧ Rp K F v d
  | _, _, _, _, .nil, e => by simp at e
  | _, _, 0, _, .cons a b, e => by simp at e; subst e; exact ⟨_, rfl, a⟩
  | _, _, i + 1, d, .cons a b, e => by
    obtain ⟨v, h1, h2⟩ := RpL.get' (i := i) (v := d) b (by simpa using e)
    exact ⟨v, by simpa using h1, h2⟩
theorem RpL.set : ∀ {vs : List V} {ds : List Py} {v : V} {d : Py} (i : Nat), Rp K F v d → RpL K F vs ds → RpL K F (vs.set i v) (ds.set i d)
  | _, _, _, _, _, _, .nil => .nil
  | _, _, _, _, 0, h, .cons a b => .cons h b
  | _, _, _, _, i + 1, h, .cons a b => .cons a (RpL.set i h b)
theorem RpL.drop : ∀ {vs : List V} {ds : List Py} (i : Nat), RpL K F vs ds → RpL K F (vs.drop i) (ds.drop i)
  | _, _, 0, h => h
  | _, _, i + 1, .nil => .nil
  | _, _, i + 1, .cons a b => RpL.drop i b
theorem RpL.take : ∀ {vs : List V} {ds : List Py} (i : Nat), RpL K F vs ds → RpL K F (vs.take i) (ds.take i)
  | _, _, 0, h => .nil
  | _, _, i + 1, .nil => .nil
  | _, _, i + 1, .cons a b => .cons a (RpL.take i b)
theorem RpL.atI {vs : List V} {ds : List Py} {i : Int} {d : Py} (h : RpL K F vs ds) (e : L2.atI ds i = some d) : ∃ v, L2.atI vs i = some v ∧ Rp K F v d := by
  unfold L2.atI at e ⊢
  rw [h.len]
  cases q : ixN ds.length i with
  | none => rw [q] at e; cases e
  | some j =>
    rw [q] at e
    exact h.get e
theorem RpL.rev : ∀ {vs : List V} {ds : List Py}, RpL K F vs ds → RpL K F vs.reverse ds.reverse
  | _, _, .nil => .nil
  | _, _, .cons a b => by
    rw [List.reverse_cons, List.reverse_cons]
    exact RpL.app (RpL.rev b) (.cons a .nil)
theorem RpL.cut {vs : List V} {ds : List Py} (lo hi : Option Int) (h : RpL K F vs ds) : RpL K F (cutV vs lo hi) (cutP ds lo hi) := by
  unfold cutV cutP
  rw [h.len]
  exact (h.drop _).take _
theorem RpL.ofInts : ∀ (ns : List Int), RpL K F (ns.map V.int) (ns.map PyData.int)
  | [] => .nil
  | i :: r => .cons (.int i) (RpL.ofInts r)
theorem RpL.intsOf : ∀ {vs : List V} {ds : List Py} {ns : List Int}, RpL K F vs ds → DL.intsOf ds = some ns → vs = ns.map V.int
  | _, _, _, .nil, e => by
    have e' : some [] = some _ := e
    cases e'
    rfl
  | _, _, _, .cons (d := d) (ds := ds) a b, e => by
    cases d with
    | int i =>
      cases a
      unfold DL.intsOf at e
      obtain ⟨r, h1, h2⟩ := Option.map_eq_some_iff.mp e
      rw [← h2, RpL.intsOf b h1]
      rfl
    | _ => exact nomatch e
theorem RpL.boolsOf : ∀ {vs : List V} {ds : List Py} {ns : List Bool}, RpL K F vs ds → DL.boolsOf ds = some ns → vs = ns.map V.bl
  | _, _, _, .nil, e => by
    have e' : some [] = some _ := e
    cases e'
    rfl
  | _, _, _, .cons (d := d) (ds := ds) a b, e => by
    cases d with
    | bool i =>
      cases a
      unfold DL.boolsOf at e
      obtain ⟨r, h1, h2⟩ := Option.map_eq_some_iff.mp e
      rw [← h2, RpL.boolsOf b h1]
      rfl
    | _ => exact nomatch e
theorem RpL.strsOf : ∀ {vs : List V} {ds : List Py} {ns : List Str}, RpL K F vs ds → DL.strsOf ds = some ns → vs = ns.map V.str
  | _, _, _, .nil, e => by
    have e' : some [] = some _ := e
    cases e'
    rfl
  | _, _, _, .cons (d := d) (ds := ds) a b, e => by
    cases d with
    | str i =>
      cases a
      unfold DL.strsOf at e
      obtain ⟨r, h1, h2⟩ := Option.map_eq_some_iff.mp e
      rw [← h2, RpL.strsOf b h1]
      rfl
    | _ => exact nomatch e
end

/-! ### slots and names -/
/-- what a name alone holds, at a -/
def OwnC (K : PySem.W.Frag) (F H : Hp) (a : Addr) : C → Prop
  | .ml l => F a = none ∧ ∃ vs, H a = some (.lst vs) ∧ RpL K F vs l
  | .md l => F a = none ∧ ∃ o, H a = some o ∧ RpO K F o l
  | _ => False
def SlotOk (K : PySem.W.Frag) (F H : Hp) (o : Option (Option V)) : C → Prop
  | .no => True
  | .val d => ∃ v, o = some (some v) ∧ Rp K F v d
  | c => ∃ a, o = some (some (.ref a)) ∧ OwnC K F H a c
def Own (ρ : Rho) (σ : L2.St) (i : Nat) (a : Addr) : Prop := σ[i]? = some (some (.ref a)) ∧ ∃ c, ρ[i]? = some c ∧ calmC c = false
structure RS (K : PySem.W.Frag) (pn : List Nat) (G : Hp) (pa : Nat → Addr) (F H : Hp) (ρ : Rho) (σ : L2.St) : Prop where
  ex : Same F H
  len : ρ.length = σ.length
  frm : ∀ a o, G a = some o → H a = some o ∧ F a = none
  slot : ∀ (i : Nat) c, ρ[i]? = some c → SlotOk K F H σ[i]? c
  sep : ∀ i j a, i ≠ j → Own ρ σ i a → ¬ Own ρ σ j a
  gsep : ∀ i a, Own ρ σ i a → G a = none
  pin : ∀ i ∈ pn, σ[i]? = some (some (.ref (pa i)))

/-- the heap has grown: what was known is known, what is new was free -/
structure Grow (F H F' H' : Hp) : Prop where
  ff : Same F F'
  hh : Same H H'
  fh : Same F' H'
  new : ∀ a o, F' a = some o → F a = some o ∨ H a = none
theorem Grow.refl {F H : Hp} (e : Same F H) : Grow F H F H := ⟨.refl _, .refl _, e, fun _ _ h => .inl h⟩
theorem Grow.tr {F H F1 H1 F2 H2 : Hp} (a : Grow F H F1 H1) (b : Grow F1 H1 F2 H2) : Grow F H F2 H2 where
  ff := a.ff.trans b.ff
  hh := a.hh.trans b.hh
  fh := b.fh
  new := fun x o h => by
    rcases b.new x o h with q | q
    · exact a.new x o q
    · exact .inr (a.hh.free q)
/-- a new object, known -/
theorem Grow.add {F H : Hp} (e : Same F H) {p : Addr} (hp : H p = none) (o : HO) : Grow F H (upd F p o) (upd H p o) where
  ff := fun b u q => by rw [upd_ne (ne_of_none q (e.free hp))]; exact q
  hh := fun b u q => by rw [upd_ne (ne_of_none q hp)]; exact q
  fh := fun b u q => by
    by_cases hb : b = p
    · rw [hb, upd_same] at q ⊢
      exact q
    · rw [upd_ne hb] at q ⊢
      exact e b u q
  new := fun b u q => by
    by_cases hb : b = p
    · rw [hb]; exact .inr hp
    · rw [upd_ne hb] at q; exact .inl q
/-- a new object, not told -/
theorem Grow.lay {F H : Hp} (e : Same F H) {p : Addr} (hp : H p = none) (o : HO) : Grow F H F (upd H p o) where
  ff := .refl _
  hh := fun b u q => by rw [upd_ne (ne_of_none q hp)]; exact q
  fh := fun b u q => by rw [upd_ne (ne_of_none (e b u q) hp)]; exact e b u q
  new := fun b u q => .inl q
theorem grow_none {F H F' H' : Hp} (g : Grow F H F' H') {a : Addr} {u : HO} (h1 : F a = none) (h2 : H a = some u) : F' a = none := by
  cases q : F' a with
  | none => rfl
  | some o =>
    rcases g.new a o q with z | z
    · rw [h1] at z; cases z
    · rw [h2] at z; cases z
theorem OwnC.grow {K : PySem.W.Frag} {F H F' H' : Hp} (g : Grow F H F' H') {a : Addr} {c : C} (h : OwnC K F H a c) : OwnC K F' H' a c := by
  cases c with
  | no => exact h
  | val d => exact h
  | ml l =>
    obtain ⟨f, vs, q, r⟩ := h
    exact ⟨grow_none g f q, vs, g.hh _ _ q, r.mono g.ff⟩
  | md l =>
    obtain ⟨f, vs, q, r⟩ := h
    exact ⟨grow_none g f q, vs, g.hh _ _ q, r.mono g.ff⟩
theorem SlotOk.grow {K : PySem.W.Frag} {F H F' H' : Hp} (g : Grow F H F' H') {o : Option (Option V)} {c : C} (h : SlotOk K F H o c) : SlotOk K F' H' o c := by
  cases c with
  | no => trivial
  | val d =>
    obtain ⟨v, e, r⟩ := h
    exact ⟨v, e, r.mono g.ff⟩
  | ml l =>
    obtain ⟨a, e, r⟩ := h
    exact ⟨a, e, r.grow g⟩
  | md l =>
    obtain ⟨a, e, r⟩ := h
    exact ⟨a, e, r.grow g⟩
section
variable {K : PySem.W.Frag} {pn : List Nat} {G : Hp} {pa : Nat → Addr} {F H F' H' : Hp} {ρ : Rho} {σ : L2.St}
theorem RS.grow (R : RS K pn G pa F H ρ σ) (g : Grow F H F' H') : RS K pn G pa F' H' ρ σ where
  ex := g.fh
  len := R.len
  frm := fun a o h => ⟨g.hh _ _ (R.frm a o h).1, grow_none g (R.frm a o h).2 (R.frm a o h).1⟩
  slot := fun i c h => (R.slot i c h).grow g
  sep := R.sep
  gsep := R.gsep
  pin := R.pin
theorem own_at (R : RS K pn G pa F H ρ σ) {i : Nat} {c : C} (h : ρ[i]? = some c) (hc : calmC c = false) : ∃ a, σ[i]? = some (some (.ref a)) ∧ OwnC K F H a c ∧ Own ρ σ i a := by
  have s := R.slot i c h
  cases c with
  | no => cases hc
  | val d => cases hc
  | ml l =>
    obtain ⟨a, e, o⟩ := s
    exact ⟨a, e, o, e, _, h, rfl⟩
  | md l =>
    obtain ⟨a, e, o⟩ := s
    exact ⟨a, e, o, e, _, h, rfl⟩
theorem OwnC.at {a : Addr} {c : C} (h : OwnC K F H a c) : F a = none ∧ ∃ o, H a = some o := by
  cases c with
  | no => exact h.elim
  | val d => exact h.elim
  | ml l => exact ⟨h.1, _, h.2.choose_spec.1⟩
  | md l => exact ⟨h.1, _, h.2.choose_spec.1⟩
theorem RS.own (R : RS K pn G pa F H ρ σ) {i : Nat} {a : Addr} (h : Own ρ σ i a) : ∃ c, ρ[i]? = some c ∧ calmC c = false ∧ OwnC K F H a c := by
  obtain ⟨e, c, e2, hc⟩ := h
  obtain ⟨b, e3, o, _⟩ := own_at R e2 hc
  rw [e] at e3
  cases e3
  exact ⟨c, e2, hc, o⟩
/-- an object that no slot holds and that is not told becomes known -/
theorem RS.tell (R : RS K pn G pa F H ρ σ) {a : Addr} {u : HO} (hf : F a = none) (hh : H a = some u) (hg : G a = none) (ho : ∀ i, ¬ Own ρ σ i a) : RS K pn G pa (upd F a u) H ρ σ := by
  have ff : Same F (upd F a u) := fun b v q => by rw [upd_ne (ne_of_none q hf)]; exact q
  refine ⟨fun b v q => ?_, R.len, fun b v q => ⟨(R.frm b v q).1, ?_⟩, fun i c h => ?_, R.sep, R.gsep, R.pin⟩
  · by_cases hb : b = a
    · rw [hb, upd_same] at q
      rw [hb, hh]
      exact q
    · rw [upd_ne hb] at q
      exact R.ex b v q
  · rw [upd_ne (ne_of_none q hg)]
    exact (R.frm b v q).2
  · have s := R.slot i c h
    have nz : ∀ b, σ[i]? = some (some (.ref b)) → calmC c = false → b ≠ a := fun b e hc z => ho i (by rw [← z]; exact ⟨e, c, h, hc⟩)
    cases c with
    | no => trivial
    | val d =>
      obtain ⟨v, e, r⟩ := s
      exact ⟨v, e, r.mono ff⟩
    | ml l =>
      obtain ⟨b, e, f, vs, q, r⟩ := s
      exact ⟨b, e, by rw [upd_ne (nz b e rfl)]; exact f, vs, q, r.mono ff⟩
    | md l =>
      obtain ⟨b, e, f, vs, q, r⟩ := s
      exact ⟨b, e, by rw [upd_ne (nz b e rfl)]; exact f, vs, q, r.mono ff⟩
theorem set_get {α : Type} {l : List α} {i j : Nat} {x y : α} (h : (l.set i x)[j]? = some y) : (j = i ∧ y = x ∧ i < l.length) ∨ (j ≠ i ∧ l[j]? = some y) := by
  by_cases e : j = i
  · subst e
    by_cases hl : j < l.length
    · rw [List.getElem?_set_self hl] at h
      exact .inl ⟨rfl, (Option.some.inj h).symm, hl⟩
    · rw [List.getElem?_eq_none (by rw [List.length_set]; omega)] at h
      cases h
  · rw [List.getElem?_set_ne (Ne.symm e)] at h
    exact .inr ⟨e, h⟩
/-- a name is given a value -/
theorem RS.put (R : RS K pn G pa F H ρ σ) {i : Nat} {v : V} {d : Py} (hi : i ∉ pn) (h : Rp K F v d) : RS K pn G pa F H (ρ.set i (.val d)) (σ.set i (some v)) := by
  have own : ∀ {j a}, Own (ρ.set i (.val d)) (σ.set i (some v)) j a → j ≠ i ∧ Own ρ σ j a := fun {j a} ⟨e, c, e2, hc⟩ => by
    rcases set_get e2 with ⟨_, z, _⟩ | ⟨n, z⟩
    · rw [z] at hc; cases hc
    · rcases set_get e with ⟨y, _⟩ | ⟨_, y⟩
      · exact absurd y n
      · exact ⟨n, y, c, z, hc⟩
  refine ⟨R.ex, by rw [List.length_set, List.length_set]; exact R.len, R.frm, fun j c e => ?_, fun j k a n h1 h2 => R.sep j k a n (own h1).2 (own h2).2, fun j a h1 => R.gsep j a (own h1).2, fun j hj => ?_⟩
  · rcases set_get e with ⟨rfl, rfl, hl⟩ | ⟨n, e⟩
    · exact ⟨v, by rw [List.getElem?_set_self (by rw [← R.len]; exact hl)], h⟩
    · rw [List.getElem?_set_ne (Ne.symm n)]
      exact R.slot j c e
  · rw [List.getElem?_set_ne (fun z => hi (by rw [z]; exact hj))]
    exact R.pin j hj
/-- .. a list or a dict of its own -/
theorem RS.hold (R : RS K pn G pa F H ρ σ) {i : Nat} {a : Addr} {c : C} (hi : i ∉ pn) (hc : calmC c = false) (h : OwnC K F H a c) (hg : G a = none) (ho : ∀ j, ¬ Own ρ σ j a) : RS K pn G pa F H (ρ.set i c) (σ.set i (some (.ref a))) := by
  have own : ∀ {j b}, Own (ρ.set i c) (σ.set i (some (.ref a))) j b → (j = i ∧ b = a) ∨ (j ≠ i ∧ Own ρ σ j b) := fun {j b} ⟨e, c', e2, hc'⟩ => by
    rcases set_get e2 with ⟨z, _, _⟩ | ⟨n, z⟩
    · rcases set_get e with ⟨_, y, _⟩ | ⟨n, _⟩
      · exact .inl ⟨z, by cases y; rfl⟩
      · exact absurd z n
    · rcases set_get e with ⟨y, _⟩ | ⟨_, y⟩
      · exact absurd y n
      · exact .inr ⟨n, y, c', z, hc'⟩
  refine ⟨R.ex, by rw [List.length_set, List.length_set]; exact R.len, R.frm, fun j c' e => ?_, fun j k b n h1 h2 => ?_, fun j b h1 => ?_, fun j hj => ?_⟩
  · rcases set_get e with ⟨rfl, rfl, hl⟩ | ⟨n, e⟩
    · have z : (σ.set j (some (V.ref a)))[j]? = some (some (.ref a)) := List.getElem?_set_self (by rw [← R.len]; exact hl)
      rw [z]
      cases c' with
      | no => cases hc
      | val d => cases hc
      | ml l => exact ⟨a, rfl, h⟩
      | md l => exact ⟨a, rfl, h⟩
    · rw [List.getElem?_set_ne (Ne.symm n)]
      exact R.slot j c' e
  · rcases own h1 with ⟨e1, e2⟩ | ⟨n1, q1⟩
    · rcases own h2 with ⟨e3, _⟩ | ⟨n2, q2⟩
      · exact n (e1.trans e3.symm)
      · rw [e2] at q2; exact ho k q2
    · rcases own h2 with ⟨_, e4⟩ | ⟨n2, q2⟩
      · rw [e4] at q1; exact ho j q1
      · exact R.sep j k b n q1 q2
  · rcases own h1 with ⟨_, e2⟩ | ⟨_, q1⟩
    · rw [e2]; exact hg
    · exact R.gsep j b q1
  · rw [List.getElem?_set_ne (fun z => hi (by rw [z]; exact hj))]
    exact R.pin j hj
/-- a list that a slot holds becomes a value -/
theorem RS.free (R : RS K pn G pa F H ρ σ) {i : Nat} {l : List Py} (e : ρ[i]? = some (.ml l)) : ∃ v F', Same F F' ∧ σ[i]? = some (some v) ∧ Rp K F' v (.list l) ∧ RS K pn G pa F' H (ρ.set i (.val (.list l))) σ := by
  obtain ⟨a, s, ⟨f, vs, q, r⟩, own⟩ := own_at R e rfl
  have ff : Same F (upd F a (.lst vs)) := fun b v z => by rw [upd_ne (ne_of_none z f)]; exact z
  have rp : Rp K (upd F a (.lst vs)) (.ref a) (.list l) := .lst upd_same (r.mono ff)
  refine ⟨.ref a, _, ff, s, rp, ?_⟩
  -- first the slot is given up, then the object told
  have own' : ∀ {j b}, Own (ρ.set i .no) σ j b → j ≠ i ∧ Own ρ σ j b := fun {j b} ⟨e1, c, e2, hc⟩ => by
    rcases set_get e2 with ⟨_, z, _⟩ | ⟨n, z⟩
    · rw [z] at hc; cases hc
    · exact ⟨n, e1, c, z, hc⟩
  have R1 : RS K pn G pa F H (ρ.set i .no) σ := ⟨R.ex, by rw [List.length_set]; exact R.len, R.frm, fun j c e1 => by
      rcases set_get e1 with ⟨_, z, _⟩ | ⟨n, z⟩
      · rw [z]; trivial
      · exact R.slot j c z, fun j k b n h1 h2 => R.sep j k b n (own' h1).2 (own' h2).2, fun j b h1 => R.gsep j b (own' h1).2, R.pin⟩
  have R2 := R1.tell f q (R.gsep i a own) (fun j h => R.sep j i a (own' h).1 (own' h).2 own)
  refine ⟨R2.ex, by rw [List.length_set]; exact R.len, R2.frm, fun j c e1 => ?_, fun j k b n h1 h2 => ?_, fun j b h1 => ?_, R.pin⟩
  · rcases set_get e1 with ⟨y, z, _⟩ | ⟨n, z⟩
    · rw [z, y]; exact ⟨.ref a, s, rp⟩
    · exact R2.slot j c (by rw [List.getElem?_set_ne (Ne.symm n)]; exact z)
  · have t : ∀ {j b}, Own (ρ.set i (.val (.list l))) σ j b → Own ρ σ j b := fun {j b} ⟨e1, c, e2, hc⟩ => by
      rcases set_get e2 with ⟨_, z, _⟩ | ⟨n, z⟩
      · rw [z] at hc; cases hc
      · exact ⟨e1, c, z, hc⟩
    exact R.sep j k b n (t h1) (t h2)
  · obtain ⟨e1, c, e2, hc⟩ := h1
    rcases set_get e2 with ⟨_, z, _⟩ | ⟨n, z⟩
    · rw [z] at hc; cases hc
    · exact R.gsep j b ⟨e1, c, z, hc⟩
/-- .. a dict -/
theorem RS.freeD (R : RS K pn G pa F H ρ σ) {i : Nat} {l : List (Py × Py)} (e : ρ[i]? = some (.md l)) : ∃ v F', Same F F' ∧ σ[i]? = some (some v) ∧ Rp K F' v (.dict l) ∧ RS K pn G pa F' H (ρ.set i (.val (.dict l))) σ := by
  obtain ⟨a, s, ⟨f, vs, q, r⟩, own⟩ := own_at R e rfl
  have ff : Same F (upd F a vs) := fun b v z => by rw [upd_ne (ne_of_none z f)]; exact z
  have rp : Rp K (upd F a vs) (.ref a) (.dict l) := .dic (.inl upd_same) (r.mono ff)
  refine ⟨.ref a, _, ff, s, rp, ?_⟩
  have own' : ∀ {j b}, Own (ρ.set i .no) σ j b → j ≠ i ∧ Own ρ σ j b := fun {j b} ⟨e1, c, e2, hc⟩ => by
    rcases set_get e2 with ⟨_, z, _⟩ | ⟨n, z⟩
    · rw [z] at hc; cases hc
    · exact ⟨n, e1, c, z, hc⟩
  have R1 : RS K pn G pa F H (ρ.set i .no) σ := ⟨R.ex, by rw [List.length_set]; exact R.len, R.frm, fun j c e1 => by
      rcases set_get e1 with ⟨_, z, _⟩ | ⟨n, z⟩
      · rw [z]; trivial
      · exact R.slot j c z, fun j k b n h1 h2 => R.sep j k b n (own' h1).2 (own' h2).2, fun j b h1 => R.gsep j b (own' h1).2, R.pin⟩
  have R2 := R1.tell f q (R.gsep i a own) (fun j h => R.sep j i a (own' h).1 (own' h).2 own)
  refine ⟨R2.ex, by rw [List.length_set]; exact R.len, R2.frm, fun j c e1 => ?_, fun j k b n h1 h2 => ?_, fun j b h1 => ?_, R.pin⟩
  · rcases set_get e1 with ⟨y, z, _⟩ | ⟨n, z⟩
    · rw [z, y]; exact ⟨.ref a, s, rp⟩
    · exact R2.slot j c (by rw [List.getElem?_set_ne (Ne.symm n)]; exact z)
  · have t : ∀ {j b}, Own (ρ.set i (.val (.dict l))) σ j b → Own ρ σ j b := fun {j b} ⟨e1, c, e2, hc⟩ => by
      rcases set_get e2 with ⟨_, z, _⟩ | ⟨n, z⟩
      · rw [z] at hc; cases hc
      · exact ⟨e1, c, z, hc⟩
    exact R.sep j k b n (t h1) (t h2)
  · obtain ⟨e1, c, e2, hc⟩ := h1
    rcases set_get e2 with ⟨_, z, _⟩ | ⟨n, z⟩
    · rw [z] at hc; cases hc
    · exact R.gsep j b ⟨e1, c, z, hc⟩
/-- what a slot holds alone is changed -/
theorem RS.turn (R : RS K pn G pa F H ρ σ) {i : Nat} {a : Addr} {u : HO} {c : C} (own : Own ρ σ i a) (hc : calmC c = false) (h : OwnC K F (upd H a u) a c) : RS K pn G pa F (upd H a u) (ρ.set i c) σ := by
  obtain ⟨c0, e0, hc0, o0⟩ := R.own own
  obtain ⟨f, u0, hu0⟩ := o0.at
  have ne : ∀ j b, Own ρ σ j b → j ≠ i → b ≠ a := fun j b h1 n z => R.sep j i a n (by rw [← z]; exact h1) own
  have own' : ∀ {j b}, Own (ρ.set i c) σ j b → Own ρ σ j b := fun {j b} ⟨e1, c', e2, hc'⟩ => by
    rcases set_get e2 with ⟨y, _, _⟩ | ⟨n, z⟩
    · rw [y] at e1 ⊢; exact ⟨e1, c0, e0, hc0⟩
    · exact ⟨e1, c', z, hc'⟩
  refine ⟨fun b v q => ?_, by rw [List.length_set]; exact R.len, fun b v q => ⟨?_, (R.frm b v q).2⟩, fun j c' e => ?_, fun j k b n h1 h2 => R.sep j k b n (own' h1) (own' h2), fun j b h1 => R.gsep j b (own' h1), R.pin⟩
  · rw [upd_ne (ne_of_none q f)]; exact R.ex b v q
  · rw [upd_ne (ne_of_none q (R.gsep i a own))]; exact (R.frm b v q).1
  · rcases set_get e with ⟨y, z, _⟩ | ⟨n, z⟩
    · rw [y, z, own.1]
      cases c with
      | no => cases hc
      | val d => cases hc
      | ml l => exact ⟨a, rfl, h⟩
      | md l => exact ⟨a, rfl, h⟩
    · have s := R.slot j c' z
      cases c' with
      | no => trivial
      | val d => exact s
      | ml l =>
        obtain ⟨b, e1, f1, vs, q, r⟩ := s
        exact ⟨b, e1, f1, vs, by rw [upd_ne (ne j b ⟨e1, _, z, rfl⟩ n)]; exact q, r⟩
      | md l =>
        obtain ⟨b, e1, f1, vs, q, r⟩ := s
        exact ⟨b, e1, f1, vs, by rw [upd_ne (ne j b ⟨e1, _, z, rfl⟩ n)]; exact q, r⟩
end

/-! ### what is at hand to be looked at: a value, or what a slot holds -/
def Bw (K : PySem.W.Frag) (F H : Hp) (v : V) (d : Py) : Prop :=
  Rp K F v d ∨ ∃ a, v = .ref a ∧ ((∃ l vs, d = .list l ∧ H a = some (.lst vs) ∧ RpL K F vs l) ∨ ∃ l o, d = .dict l ∧ H a = some o ∧ RpO K F o l)
theorem Same.rd {F H : Hp} (e : Same F H) {a : Addr} {o : HO} (h : Rd F a o) : Rd H a o := by
  rcases h with h | ⟨u, h⟩
  · exact .inl (e _ _ h)
  · exact .inr ⟨u, e _ _ h⟩
theorem Same.sqt {K : PySem.W.Frag} {F H : Hp} (e : Same F H) {a : Addr} {xs : List V} (h : SqT K F a xs) : SqT K H a xs := (Reach.of (K := K) e).2.1 a xs h
section
variable {K : PySem.W.Frag} {F H : Hp}
theorem Bw.list (e : Same F H) {v : V} {l : List Py} (h : Bw K F H v (.list l)) : ∃ a vs, v = .ref a ∧ H a = some (.lst vs) ∧ RpL K F vs l := by
  rcases h with h | ⟨a, rfl, ⟨l', vs, el, q, r⟩ | ⟨l', o, el, q, r⟩⟩
  · cases h with
    | lst s r => exact ⟨_, _, rfl, e _ _ s, r⟩
  · cases el
    exact ⟨a, vs, rfl, q, r⟩
  · cases el
theorem Bw.tuple (e : Same F H) {v : V} {l : List Py} (h : Bw K F H v (.tuple l)) : ∃ a vs, v = .ref a ∧ SqT K H a vs ∧ RpL K F vs l := by
  rcases h with h | ⟨a, rfl, ⟨l', vs, el, q, r⟩ | ⟨l', o, el, q, r⟩⟩
  · cases h with
    | tup s r => exact ⟨_, _, rfl, Same.sqt e s, r⟩
  · cases el
  · cases el
theorem Bw.dict (e : Same F H) {v : V} {l : List (Py × Py)} (h : Bw K F H v (.dict l)) : ∃ a o, v = .ref a ∧ Rd H a o ∧ RpO K F o l := by
  rcases h with h | ⟨a, rfl, ⟨l', vs, el, q, r⟩ | ⟨l', o, el, q, r⟩⟩
  · cases h with
    | dic s r => exact ⟨_, _, rfl, Same.rd e s, r⟩
  · cases el
  · cases el
    exact ⟨a, o, rfl, .inl q, r⟩
theorem Bw.seq (e : Same F H) {v : V} {d : Py} {l : List Py} (h : Bw K F H v d) (hs : seqOf d = some l) : ∃ a vs, v = .ref a ∧ (SqL K H a vs ∨ SqT K H a vs) ∧ RpL K F vs l := by
  cases d with
  | list r =>
    cases hs
    obtain ⟨a, vs, h1, h2, h3⟩ := h.list e
    exact ⟨a, vs, h1, .inl (.of h2), h3⟩
  | tuple r =>
    cases hs
    obtain ⟨a, vs, h1, h2, h3⟩ := h.tuple e
    exact ⟨a, vs, h1, .inr h2, h3⟩
  | _ => cases hs
theorem Bw.int {v : V} {i : Int} (h : Bw K F H v (.int i)) : v = .int i := by
  rcases h with h | ⟨a, rfl, ⟨l', vs, el, q, r⟩ | ⟨l', o, el, q, r⟩⟩
  · cases h; rfl
  · cases el
  · cases el
theorem Bw.str {v : V} {i : Str} (h : Bw K F H v (.str i)) : v = .str i := by
  rcases h with h | ⟨a, rfl, ⟨l', vs, el, q, r⟩ | ⟨l', o, el, q, r⟩⟩
  · cases h; rfl
  · cases el
  · cases el
theorem Bw.bool {v : V} {i : Bool} (h : Bw K F H v (.bool i)) : v = .bl i := by
  rcases h with h | ⟨a, rfl, ⟨l', vs, el, q, r⟩ | ⟨l', o, el, q, r⟩⟩
  · cases h; rfl
  · cases el
  · cases el
theorem Rp.int_ {v : V} {i : Int} (h : Rp K F v (.int i)) : v = .int i := by cases h; rfl
theorem Rp.bool_ {v : V} {i : Bool} (h : Rp K F v (.bool i)) : v = .bl i := by cases h; rfl
end
end DL

set_option maxRecDepth 100000
/-! DLR2: the judgements by mirrors, expressions. -/
namespace DL
open PySem L2

/-! ### mirrors that end -/
section
variable {α β : Type}
theorem bnd_some {m : M α} {f : α → M β} {ρ : Rho} {p : β × Rho} (h : bnd m f ρ = some p) : ∃ a ρ1, m ρ = some (a, ρ1) ∧ f a ρ1 = some p := by
  unfold bnd at h
  obtain ⟨⟨a, ρ1⟩, h1, h2⟩ := Option.bind_eq_some_iff.mp h
  exact ⟨a, ρ1, h1, h2⟩
theorem lif_some {o : Option α} {ρ ρ' : Rho} {a : α} (h : lif o ρ = some (a, ρ')) : o = some a ∧ ρ' = ρ := by
  unfold lif at h
  obtain ⟨b, h1, h2⟩ := Option.bind_eq_some_iff.mp h
  cases h2
  exact ⟨h1, rfl⟩
theorem ret_some {a b : α} {ρ ρ' : Rho} (h : ret a ρ = some (b, ρ')) : b = a ∧ ρ' = ρ := by
  cases h
  exact ⟨rfl, rfl⟩
theorem set_self : ∀ {l : List α} {i : Nat} {x : α}, l[i]? = some x → l.set i x = l
  | [], _, _, h => by simp at h
  | a :: l, 0, x, h => by simp at h; rw [h]; rfl
  | a :: l, i + 1, x, h => by
    have := set_self (l := l) (i := i) (x := x) (by simpa using h)
    show a :: l.set i x = a :: l
    rw [this]
end

/-! ### the judgements -/
/-- what is left when a mirror m of α is walked with ω as its worth in the heap -/
def Rdg {α ω : Type} (K : PySem.W.Frag) (pn : List Nat) (W : Hp → Hp → Hp → Rho → L2.St → α → ω → Prop) (m : M α) : L2.St → Hp → (ω → Hp → Prop) → Prop := fun σ H Q =>
  ∃ G pa F ρ a ρ', RS K pn G pa F H ρ σ ∧ m ρ = some (a, ρ') ∧ ∀ w F' H', Same F F' → RS K pn G pa F' H' ρ' σ → W G F' H' ρ' σ a w → Q w H'
/-- a value; looked at; a new list, a new dict; values; a Bool; a part of a slice -/
def wE (K : PySem.W.Frag) : Hp → Hp → Hp → Rho → L2.St → Py → V → Prop := fun _ F _ _ _ d v => Rp K F v d
def wB (K : PySem.W.Frag) : Hp → Hp → Hp → Rho → L2.St → Py → V → Prop := fun _ F H _ _ d v => Bw K F H v d
def wN (K : PySem.W.Frag) (c : α → C) : Hp → Hp → Hp → Rho → L2.St → α → V → Prop := fun G F H ρ σ l v => ∃ a, v = .ref a ∧ OwnC K F H a (c l) ∧ G a = none ∧ ∀ i, ¬ Own ρ σ i a
def wA (K : PySem.W.Frag) : Hp → Hp → Hp → Rho → L2.St → List Py → List V → Prop := fun _ F _ _ _ ds vs => RpL K F vs ds
def wT : Hp → Hp → Hp → Rho → L2.St → Bool → Bool → Prop := fun _ _ _ _ _ a b => a = b
def wO : Hp → Hp → Hp → Rho → L2.St → Option Int → Option Int → Prop := fun _ _ _ _ _ a b => a = b
section
variable (X : Cx) (pn : List Nat)
def DE (e : Expr) (m : M Py) : Prop := PE X e (Rdg X.K pn (wE X.K) m)
def DB (e : Expr) (m : M Py) : Prop := PE X e (Rdg X.K pn (wB X.K) m)
def DLi (e : Expr) (m : M (List Py)) : Prop := PE X e (Rdg X.K pn (wN X.K C.ml) m)
def DDi (e : Expr) (m : M (List (Py × Py))) : Prop := PE X e (Rdg X.K pn (wN X.K C.md) m)
def DT (e : Expr) (m : M Bool) : Prop := PT X e (Rdg X.K pn wT m)
def DW (e : Expr) (m : M Bool) : Prop := PW X e (Rdg X.K pn wT m)
def DA (es : List Expr) (m : M (List Py)) : Prop := PA X es (Rdg X.K pn (wA X.K) m)
def DO (e : Option Expr) (m : MO) : Prop := PO X e (Rdg X.K pn wO m)
end
/-! ### what an operation on values is by data -/
section
variable (K : PySem.W.Frag)
def Op2 (r : R2) (g : Py → Py → Option Py) : Prop := ∀ {F H : Hp} {v u : V} {x y z : Py} {Q : VK}, Same F H → Bw K F H v x → Bw K F H u y → g x y = some z → (∀ w F' H', Grow F H F' H' → Rp K F' w z → Q w H') → r v u H Q
def Op1 (r : V → Hp → VK → Prop) (g : Py → Option Py) : Prop := ∀ {F H : Hp} {v : V} {x z : Py} {Q : VK}, Same F H → Bw K F H v x → g x = some z → (∀ w F' H', Grow F H F' H' → Rp K F' w z → Q w H') → r v H Q
def Op1N {α : Type} (c : α → C) (r : V → Hp → VK → Prop) (g : Py → Option α) : Prop := ∀ {F H : Hp} {v : V} {x : Py} {z : α} {Q : VK}, Same F H → Bw K F H v x → g x = some z → (∀ a F' H', Grow F H F' H' → H a = none → OwnC K F' H' a (c z) → Q (.ref a) H') → r v H Q
end
theorem op_same {K : PySem.W.Frag} {F H : Hp} {w : V} {z : Py} {Q : VK} (e : Same F H) (k : ∀ w F' H', Grow F H F' H' → Rp K F' w z → Q w H') (h : Rp K F w z) : Q w H := k w F H (.refl e) h
theorem fresh_no {K : PySem.W.Frag} {pn : List Nat} {G : Hp} {pa : Nat → Addr} {F H : Hp} {ρ : Rho} {σ : L2.St} (R : RS K pn G pa F H ρ σ) {a : Addr} (h : H a = none) : G a = none ∧ ∀ i, ¬ Own ρ σ i a := by
  refine ⟨?_, fun i o => ?_⟩
  · cases q : G a with
    | none => rfl
    | some u =>
      have := (R.frm a u q).1
      rw [h] at this
      cases this
  · obtain ⟨c, _, _, oc⟩ := R.own o
    obtain ⟨_, u, hu⟩ := oc.at
    rw [h] at hu
    cases hu

section
variable {X : Cx} {pn : List Nat} {e a b c : Expr} {es : List Expr} {pos : Pos} {t t' : TE} {ma mb mc : M Py}
theorem pe_to (h : PE X e t) (k : ∀ σ H Q, t' σ H Q → t σ H Q) : PE X e t' := ⟨fun pins s σ H Q I q => h.run pins s σ H Q I (k σ H Q q)⟩
theorem pt_to {t t' : TT} (h : PT X e t) (k : ∀ σ H Q, t' σ H Q → t σ H Q) : PT X e t' := ⟨fun pins s σ H Q I q => h.run pins s σ H Q I (k σ H Q q)⟩
theorem pw_to {t t' : TT} (h : PW X e t) (k : ∀ σ H Q, t' σ H Q → t σ H Q) : PW X e t' := ⟨fun wh pins s σ H Q I q => h.run wh pins s σ H Q I (k σ H Q q)⟩
theorem pa_to {t t' : TA} (h : PA X es t) (k : ∀ σ H Q, t' σ H Q → t σ H Q) : PA X es t' := ⟨fun pos pins s σ H Q I q => h.run pos pins s σ H Q I (k σ H Q q)⟩
theorem po_to {e : Option Expr} {t t' : TO} (h : PO X e t) (k : ∀ σ H Q, t' σ H Q → t σ H Q) : PO X e t' := ⟨fun pins s σ H Q I q => h.run pins s σ H Q I (k σ H Q q)⟩
/-- a value may be looked at -/
theorem looked {m : M Py} (h : DE X pn e m) : DB X pn e m := pe_to h fun σ H Q ⟨G, pa, F, ρ, x, ρ', R, q, k⟩ => ⟨G, pa, F, ρ, x, ρ', R, q, fun w F' H' s R' p => k w F' H' s R' (.inl p)⟩

/-! ### names, constants -/
theorem d_var (i : Nat) {x : Str} {pos : Pos} (hN : X.N[i]? = some x := by rfl) (hv : Vis X.env.scope x := by first | exact Or.inl rfl | exact Or.inr (Or.inl rfl) | exact Or.inr (Or.inr rfl)) (hd : (x == ("__debug__" : Str)) = false := by decide)
    (hcd : (x == ("__classdict__" : Str)) = false := by decide) : DE X pn (.Name x pos) (mVar i) := pe_to (pe_var hN hv hd hcd) fun σ H Q ⟨G, pa, F, ρ, d, ρ', R, q, k⟩ => by
  unfold mVar at q
  obtain ⟨d', h1, h2⟩ := Option.bind_eq_some_iff.mp q
  obtain ⟨c, h3, h4⟩ := Option.bind_eq_some_iff.mp h1
  cases h2
  cases c with
  | no => cases h4
  | val d =>
    cases h4
    obtain ⟨v, e, r⟩ := R.slot i _ h3
    refine ⟨v, e, k v F H (.refl _) ?_ r⟩
    rw [set_self h3]
    exact R
  | ml l =>
    cases h4
    obtain ⟨v, F', s, e, r, R'⟩ := R.free h3
    exact ⟨v, e, k v F' H s R' r⟩
  | md l =>
    cases h4
    obtain ⟨v, F', s, e, r, R'⟩ := R.freeD h3
    exact ⟨v, e, k v F' H s R' r⟩
theorem peek_ok {K : PySem.W.Frag} {G : Hp} {pa : Nat → Addr} {F H : Hp} {ρ ρ' : Rho} {σ : L2.St} {i : Nat} {d : Py} (R : RS K pn G pa F H ρ σ) (q : mPk i ρ = some (d, ρ')) : ρ' = ρ ∧ ∃ v, σ[i]? = some (some v) ∧ Bw K F H v d := by
  unfold mPk at q
  obtain ⟨d', h1, h2⟩ := Option.bind_eq_some_iff.mp q
  obtain ⟨c, h3, h4⟩ := Option.bind_eq_some_iff.mp h1
  cases h2
  refine ⟨rfl, ?_⟩
  have s := R.slot i c h3
  cases c with
  | no => cases h4
  | val d =>
    cases h4
    obtain ⟨v, e, r⟩ := s
    exact ⟨v, e, .inl r⟩
  | ml l =>
    cases h4
    obtain ⟨b, e, _, vs, q, r⟩ := s
    exact ⟨_, e, .inr ⟨b, rfl, .inl ⟨l, vs, rfl, q, r⟩⟩⟩
  | md l =>
    cases h4
    obtain ⟨b, e, _, vs, q, r⟩ := s
    exact ⟨_, e, .inr ⟨b, rfl, .inr ⟨l, vs, rfl, q, r⟩⟩⟩
/-- a name that is looked at -/
theorem b_var (i : Nat) {x : Str} {pos : Pos} (hN : X.N[i]? = some x := by rfl) (hv : Vis X.env.scope x := by first | exact Or.inl rfl | exact Or.inr (Or.inl rfl) | exact Or.inr (Or.inr rfl)) (hd : (x == ("__debug__" : Str)) = false := by decide)
    (hcd : (x == ("__classdict__" : Str)) = false := by decide) : DB X pn (.Name x pos) (mPk i) := pe_to (pe_var hN hv hd hcd) fun σ H Q ⟨G, pa, F, ρ, d, ρ', R, q, k⟩ => by
  obtain ⟨rfl, v, e, r⟩ := peek_ok R q
  exact ⟨v, e, k v F H (.refl _) R r⟩
theorem con_ok {K : PySem.W.Frag} {d : Py} {v : V} (hv : ∀ F, Rp K F v d) : ∀ σ H Q, Rdg K pn (wE K) (mC d) σ H Q → tC v σ H Q := fun σ H Q ⟨G, pa, F, ρ, d', ρ', R, q, k⟩ => by
  obtain ⟨rfl, rfl⟩ := ret_some q
  exact k v F H (.refl _) R (hv F)
theorem d_int {i j} : DE X pn (.Constant (.int i) j pos) (mC (.int i)) := pe_to pe_int (con_ok fun _ => .int i)
theorem d_str {i j} : DE X pn (.Constant (.str i) j pos) (mC (.str i)) := pe_to pe_str (con_ok fun _ => .str i)
theorem d_bool {i j} : DE X pn (.Constant (.bool i) j pos) (mC (.bool i)) := pe_to pe_bl (con_ok fun _ => .bl i)
theorem d_none {j} : DE X pn (.Constant .none j pos) (mC .none) := pe_to pe_non (con_ok fun _ => .non)
/-- a constant of the module -/
theorem d_glob {x : Str} {u : Value} {v : V} {d : Py} (hg : Gl X x) (hm : X.mg x = some u) (r : RelV v u) (hv : ∀ F, Rp X.K F v d) (hd : (x == ("__debug__" : Str)) = false := by decide) : DE X pn (.Name x pos) (mC d) := pe_to (pe_glob hg hm r hd) (con_ok hv)

/-! ### operators -/
theorem cov2 {K : PySem.W.Frag} {r : R2} {g : Py → Py → Option Py} (hr : Op2 K r g) : ∀ σ H Q, Rdg K pn (wE K) (mOp2 g ma mb) σ H Q → tOp r (Rdg K pn (wE K) ma) (Rdg K pn (wB K) mb) σ H Q := fun σ H Q ⟨G, pa, F, ρ, d, ρ', R, q, k⟩ => by
  obtain ⟨x, ρ1, h1, q⟩ := bnd_some q
  obtain ⟨y, ρ2, h2, q⟩ := bnd_some q
  obtain ⟨h3, rfl⟩ := lif_some q
  refine ⟨G, pa, F, ρ, x, ρ1, R, h1, fun v F1 H1 s1 R1 p1 => ⟨G, pa, F1, ρ1, y, _, R1, h2, fun u F2 H2 s2 R2 p2 => ?_⟩⟩
  exact hr R2.ex (.inl (Rp.mono s2 p1)) p2 h3 fun w F3 H3 g3 p3 => k w F3 H3 (s1.trans (s2.trans g3.ff)) (R2.grow g3) p3
theorem covV {K : PySem.W.Frag} {r : R2} {g : Py → Py → Option Py} (i : Nat) (hr : Op2 K r g) : ∀ σ H Q, Rdg K pn (wE K) (mOpV g i mb) σ H Q → tOp r (tVar i) (Rdg K pn (wE K) mb) σ H Q := fun σ H Q ⟨G, pa, F, ρ, d, ρ', R, q, k⟩ => by
  obtain ⟨x0, ρ0, h0, q⟩ := bnd_some q
  obtain ⟨y, ρ2, h2, q⟩ := bnd_some q
  obtain ⟨x, ρ1, h1, q⟩ := bnd_some q
  obtain ⟨h3, rfl⟩ := lif_some q
  obtain ⟨rfl, v, e, _⟩ := peek_ok R h0
  refine ⟨v, e, G, pa, F, ρ0, y, ρ2, R, h2, fun u F2 H2 s2 R2 p2 => ?_⟩
  obtain ⟨rfl, v', e', b'⟩ := peek_ok R2 h1
  rw [e] at e'
  cases e'
  exact hr R2.ex b' (.inl p2) h3 fun w F3 H3 g3 p3 => k w F3 H3 (s2.trans g3.ff) (R2.grow g3) p3
theorem cov1 {K : PySem.W.Frag} {r : V → Hp → VK → Prop} {g : Py → Option Py} (hr : Op1 K r g) : ∀ σ H Q, Rdg K pn (wE K) (mOp1 g ma) σ H Q → tUn r (Rdg K pn (wB K) ma) σ H Q := fun σ H Q ⟨G, pa, F, ρ, d, ρ', R, q, k⟩ => by
  obtain ⟨x, ρ1, h1, q⟩ := bnd_some q
  obtain ⟨h3, rfl⟩ := lif_some q
  refine ⟨G, pa, F, ρ, x, _, R, h1, fun v F1 H1 s1 R1 p1 => ?_⟩
  exact hr R1.ex p1 h3 fun w F3 H3 g3 p3 => k w F3 H3 (s1.trans g3.ff) (R1.grow g3) p3
/-- binary operators, comparisons as values, subscripts -/
theorem d_op {op : Operator} {r : R2} {g : Py → Py → Option Py} (ho : OpR X (binaryOp op) r) (hr : Op2 X.K r g) (ha : DE X pn a ma) (hb : DB X pn b mb) : DE X pn (.BinOp a op b pos) (mOp2 g ma mb) := pe_to (pe_op ho ha hb) (cov2 hr)
theorem d_opV {op : Operator} {r : R2} {g : Py → Py → Option Py} (i : Nat) (ho : OpR X (binaryOp op) r) (hr : Op2 X.K r g) (ha : PE X a (tVar i)) (hb : DE X pn b mb) : DE X pn (.BinOp a op b pos) (mOpV g i mb) := pe_to (pe_op ho ha hb) (covV i hr)
theorem d_un {op : UnaryOp} {r : V → Hp → VK → Prop} {g : Py → Option Py} (ho : UnR X (unaryOp op) r) (hr : Op1 X.K r g) (ha : DB X pn a ma) : DE X pn (.UnaryOp op a pos) (mOp1 g ma) := pe_to (pe_un ho ha) (cov1 hr)
theorem d_cmp {op : CmpOp} {r : R2} {g : Py → Py → Option Py} (ho : OpR X (compareOp op) r) (hr : Op2 X.K r g) (ha : DE X pn a ma) (hb : DB X pn b mb) (hm : behindInMarks op b = false) : DE X pn (.Compare a [op] [b] pos) (mOp2 g ma mb) := pe_to (pe_cmpR ho ha hb hm) (cov2 hr)
theorem d_cmpV {op : CmpOp} {r : R2} {g : Py → Py → Option Py} (i : Nat) (ho : OpR X (compareOp op) r) (hr : Op2 X.K r g) (ha : PE X a (tVar i)) (hb : DE X pn b mb) (hm : behindInMarks op b = false) : DE X pn (.Compare a [op] [b] pos) (mOpV g i mb) := pe_to (pe_cmpR ho ha hb hm) (covV i hr)
theorem d_ix {r : R2} {g : Py → Py → Option Py} (ho : IxR X r) (hr : Op2 X.K r g) (ha : DE X pn a ma) (hb : DB X pn b mb) (hs : PlainIx b) : DE X pn (.Subscript a b pos) (mOp2 g ma mb) := pe_to (pe_ix ho ha hb hs) (cov2 hr)
theorem d_ixV {r : R2} {g : Py → Py → Option Py} (i : Nat) (ho : IxR X r) (hr : Op2 X.K r g) (ha : PE X a (tVar i)) (hb : DE X pn b mb) (hs : PlainIx b) : DE X pn (.Subscript a b pos) (mOpV g i mb) := pe_to (pe_ix ho ha hb hs) (covV i hr)

/-! ### tests -/
theorem cov_test {K : PySem.W.Frag} {te : TE} {m : M Py} (h : ∀ σ H Q, Rdg K pn (wE K) m σ H Q → te σ H Q) : ∀ σ H Q, Rdg K pn wT (mTest m) σ H Q → tTest te σ H Q := fun σ H Q ⟨G, pa, F, ρ, d, ρ', R, q, k⟩ => by
  obtain ⟨x, ρ1, h1, q⟩ := bnd_some q
  obtain ⟨h3, rfl⟩ := lif_some q
  refine h σ H _ ⟨G, pa, F, ρ, x, _, R, h1, fun v F1 H1 s1 R1 p1 => ?_⟩
  cases x with
  | bool b =>
    cases h3
    cases p1
    exact ⟨_, rfl, k _ F1 H1 s1 R1 rfl⟩
  | _ => cases h3
theorem t_cmp {op : CmpOp} {r : R2} {g : Py → Py → Option Py} (ho : OpR X (compareOp op) r) (hr : Op2 X.K r g) (ha : DE X pn a ma) (hb : DB X pn b mb) (hm : behindInMarks op b = false) : DT X pn (.Compare a [op] [b] pos) (mTest (mOp2 g ma mb)) := pt_to (pt_cmpR ho ha hb hm) (cov_test (cov2 hr))
theorem t_cmpV {op : CmpOp} {r : R2} {g : Py → Py → Option Py} (i : Nat) (ho : OpR X (compareOp op) r) (hr : Op2 X.K r g) (ha : PE X a (tVar i)) (hb : DE X pn b mb) (hm : behindInMarks op b = false) : DT X pn (.Compare a [op] [b] pos) (mTest (mOpV g i mb)) := pt_to (pt_cmpR ho ha hb hm) (cov_test (covV i hr))
/-- a call, a name .. that is a bool -/
theorem t_val {m : M Py} (h : DE X pn e m) (he : ∀ whole, isTrue e X.env whole = (do let v ← whole; standAt e.pos; holding [v] (truthy v)) := by intro _; rfl) : DT X pn e (mTest m) := pt_to (pt_val h he) (cov_test fun _ _ _ h => h)
theorem t_not {m : M Bool} (h : DT X pn a m) : DT X pn (.UnaryOp .Not a pos) (mNot m) := pt_to (pt_not h) fun σ H Q ⟨G, pa, F, ρ, d, ρ', R, q, k⟩ => by
  obtain ⟨x, ρ1, h1, q⟩ := bnd_some q
  obtain ⟨rfl, rfl⟩ := ret_some q
  exact ⟨G, pa, F, ρ, x, _, R, h1, fun v F1 H1 s1 R1 p1 => k _ F1 H1 s1 R1 (by rw [show x = v from p1]; rfl)⟩
theorem w_and1 {m : M Bool} (h : DT X pn a m) : DW X pn (.BoolOp .And [a] pos) m := pw_and1 h
theorem w_or1 {m : M Bool} (h : DT X pn a m) : DW X pn (.BoolOp .Or [a] pos) m := pw_or1 h
variable {rest : List Expr}
theorem w_and {m n : M Bool} (h : DT X pn a m) (hr : DW X pn (.BoolOp .And (b :: rest) pos) n) : DW X pn (.BoolOp .And (a :: b :: rest) pos) (mAnd m n) := pw_to (pw_and h hr) fun σ H Q ⟨G, pa, F, ρ, d, ρ', R, q, k⟩ => by
  obtain ⟨x, ρ1, h1, q⟩ := bnd_some q
  refine ⟨G, pa, F, ρ, x, _, R, h1, fun v F1 H1 s1 R1 p1 => ?_⟩
  have p1 : x = v := p1
  subst p1
  cases x with
  | true =>
    rw [if_pos rfl] at q
    refine iteT ?_
    exact ⟨G, pa, F1, ρ1, d, ρ', R1, q, fun v F2 H2 s2 R2 p2 => k v F2 H2 (s1.trans s2) R2 p2⟩
  | false =>
    rw [if_neg Bool.false_ne_true] at q
    refine iteF ?_
    obtain ⟨rfl, rfl⟩ := ret_some q
    exact k _ F1 H1 s1 R1 rfl
theorem w_or {m n : M Bool} (h : DT X pn a m) (hr : DW X pn (.BoolOp .Or (b :: rest) pos) n) : DW X pn (.BoolOp .Or (a :: b :: rest) pos) (mOr m n) := pw_to (pw_or h hr) fun σ H Q ⟨G, pa, F, ρ, d, ρ', R, q, k⟩ => by
  obtain ⟨x, ρ1, h1, q⟩ := bnd_some q
  refine ⟨G, pa, F, ρ, x, _, R, h1, fun v F1 H1 s1 R1 p1 => ?_⟩
  have p1 : x = v := p1
  subst p1
  cases x with
  | false =>
    rw [if_neg Bool.false_ne_true] at q
    refine iteF ?_
    exact ⟨G, pa, F1, ρ1, d, ρ', R1, q, fun v F2 H2 s2 R2 p2 => k v F2 H2 (s1.trans s2) R2 p2⟩
  | true =>
    rw [if_pos rfl] at q
    refine iteT ?_
    obtain ⟨rfl, rfl⟩ := ret_some q
    exact k _ F1 H1 s1 R1 rfl
theorem t_bool {m : M Bool} (h : DW X pn e m) : DT X pn e m := PW.pt h
/-- .. as values -/
theorem d_one {op} {m : M Py} (h : DE X pn a m) : DE X pn (.BoolOp op [a] pos) m := pe_one h
theorem d_and {m n : M Py} (h : DE X pn a m) (hr : DE X pn (.BoolOp .And (b :: rest) pos) n) : DE X pn (.BoolOp .And (a :: b :: rest) pos) (mAndV m n) := pe_to (pe_and h hr) fun σ H Q ⟨G, pa, F, ρ, d, ρ', R, q, k⟩ => by
  obtain ⟨c, ρ1, h1, q⟩ := bnd_some q
  obtain ⟨x, ρ2, h2, h1⟩ := bnd_some h1
  obtain ⟨h3, rfl⟩ := lif_some h1
  refine ⟨G, pa, F, ρ, x, _, R, h2, fun v F1 H1 s1 R1 p1 => ?_⟩
  cases x with
  | bool b =>
    cases h3
    cases p1
    refine ⟨_, rfl, ?_⟩
    cases c with
    | true =>
      rw [if_pos rfl] at q ⊢
      exact ⟨G, pa, F1, _, d, ρ', R1, q, fun v F2 H2 s2 R2 p2 => k v F2 H2 (s1.trans s2) R2 p2⟩
    | false =>
      rw [if_neg Bool.false_ne_true] at q ⊢
      obtain ⟨rfl, rfl⟩ := ret_some q
      exact k _ F1 H1 s1 R1 (.bl false)
  | _ => cases h3
theorem d_or {m n : M Py} (h : DE X pn a m) (hr : DE X pn (.BoolOp .Or (b :: rest) pos) n) : DE X pn (.BoolOp .Or (a :: b :: rest) pos) (mOrV m n) := pe_to (pe_or h hr) fun σ H Q ⟨G, pa, F, ρ, d, ρ', R, q, k⟩ => by
  obtain ⟨c, ρ1, h1, q⟩ := bnd_some q
  obtain ⟨x, ρ2, h2, h1⟩ := bnd_some h1
  obtain ⟨h3, rfl⟩ := lif_some h1
  refine ⟨G, pa, F, ρ, x, _, R, h2, fun v F1 H1 s1 R1 p1 => ?_⟩
  cases x with
  | bool b =>
    cases h3
    cases p1
    refine ⟨_, rfl, ?_⟩
    cases c with
    | false =>
      rw [if_neg Bool.false_ne_true] at q ⊢
      exact ⟨G, pa, F1, _, d, ρ', R1, q, fun v F2 H2 s2 R2 p2 => k v F2 H2 (s1.trans s2) R2 p2⟩
    | true =>
      rw [if_pos rfl] at q ⊢
      obtain ⟨rfl, rfl⟩ := ret_some q
      exact k _ F1 H1 s1 R1 (.bl true)
  | _ => cases h3
theorem d_not {m : M Py} (h : DE X pn a m) : DE X pn (.UnaryOp .Not a pos) (mNotV m) := pe_to (pe_not h) fun σ H Q ⟨G, pa, F, ρ, d, ρ', R, q, k⟩ => by
  obtain ⟨c, ρ1, h1, q⟩ := bnd_some q
  obtain ⟨x, ρ2, h2, h1⟩ := bnd_some h1
  obtain ⟨h3, rfl⟩ := lif_some h1
  obtain ⟨rfl, rfl⟩ := ret_some q
  refine ⟨G, pa, F, ρ, x, _, R, h2, fun v F1 H1 s1 R1 p1 => ?_⟩
  cases x with
  | bool b =>
    cases h3
    cases p1
    exact ⟨_, rfl, k _ F1 H1 s1 R1 (.bl _)⟩
  | _ => cases h3
/-- a if t else b -/
theorem ifx {α : Type} {W : Hp → Hp → Hp → Rho → L2.St → α → V → Prop} {m : M Bool} {x y : M α} (h : DT X pn c m) (ha : PE X a (Rdg X.K pn W x)) (hb : PE X b (Rdg X.K pn W y)) : PE X (.IfExp c a b pos) (Rdg X.K pn W (mIf m x y)) := pe_to (pe_ifExp h ha hb) fun σ H Q ⟨G, pa, F, ρ, d, ρ', R, q, k⟩ => by
  obtain ⟨z, ρ1, h1, q⟩ := bnd_some q
  refine ⟨G, pa, F, ρ, z, _, R, h1, fun v F1 H1 s1 R1 p1 => ?_⟩
  have p1 : z = v := p1
  subst p1
  cases z with
  | true =>
    rw [if_pos rfl] at q
    refine iteT ?_
    exact ⟨G, pa, F1, ρ1, d, ρ', R1, q, fun v F2 H2 s2 R2 p2 => k v F2 H2 (s1.trans s2) R2 p2⟩
  | false =>
    rw [if_neg Bool.false_ne_true] at q
    refine iteF ?_
    exact ⟨G, pa, F1, ρ1, d, ρ', R1, q, fun v F2 H2 s2 R2 p2 => k v F2 H2 (s1.trans s2) R2 p2⟩
theorem d_if {m : M Bool} (h : DT X pn c m) (ha : DE X pn a ma) (hb : DE X pn b mb) : DE X pn (.IfExp c a b pos) (mIf m ma mb) := ifx h ha hb
theorem l_if {m : M Bool} {x y : M (List Py)} (h : DT X pn c m) (ha : DLi X pn a x) (hb : DLi X pn b y) : DLi X pn (.IfExp c a b pos) (mIf m x y) := ifx h ha hb
theorem covCh {K : PySem.W.Frag} {r r' : R2} {g g' : Py → Py → Option Py} (hr : Op2 K r g) (hr' : Op2 K r' g') : ∀ σ H Q, Rdg K pn (wE K) (mChain g g' ma mb mc) σ H Q → tChain r r' (Rdg K pn (wE K) ma) (Rdg K pn (wE K) mb) (Rdg K pn (wE K) mc) σ H Q := fun σ H Q ⟨G, pa, F, ρ, d, ρ', R, q, k⟩ => by
  obtain ⟨x, ρ1, h1, q⟩ := bnd_some q
  obtain ⟨y, ρ2, h2, q⟩ := bnd_some q
  obtain ⟨z, ρ3, h3, q⟩ := bnd_some q
  obtain ⟨h9, rfl⟩ := lif_some h3
  obtain ⟨u0, h4, h5⟩ := Option.bind_eq_some_iff.mp h9
  refine ⟨G, pa, F, ρ, x, ρ1, R, h1, fun v F1 H1 s1 R1 p1 => ⟨G, pa, F1, ρ1, y, _, R1, h2, fun u F2 H2 s2 R2 p2 => ?_⟩⟩
  refine hr R2.ex (.inl (Rp.mono s2 p1)) (.inl p2) h4 fun w F3 H3 g3 p3 => ?_
  cases u0 with
  | bool b0 =>
    cases h5
    cases p3
    refine ⟨_, rfl, ?_⟩
    cases z with
    | true =>
      rw [if_pos rfl] at q
      refine iteT ?_
      obtain ⟨t, ρ4, h6, q⟩ := bnd_some q
      obtain ⟨h7, rfl⟩ := lif_some q
      refine ⟨G, pa, F3, _, t, _, R2.grow g3, h6, fun w F4 H4 s4 R4 p4 => ?_⟩
      exact hr' R4.ex (.inl (Rp.mono (g3.ff.trans s4) p2)) (.inl p4) h7 fun w F5 H5 g5 p5 => k w F5 H5 (s1.trans (s2.trans (g3.ff.trans (s4.trans g5.ff)))) (R4.grow g5) p5
    | false =>
      rw [if_neg Bool.false_ne_true] at q
      refine iteF ?_
      obtain ⟨rfl, rfl⟩ := ret_some q
      exact k _ F3 H3 (s1.trans (s2.trans g3.ff)) (R2.grow g3) (.bl false)
  | _ => cases h5
theorem d_chain {op op' : CmpOp} {r r' : R2} {g g' : Py → Py → Option Py} (ho : OpR X (compareOp op) r) (hr : Op2 X.K r g) (ho' : OpR X (compareOp op') r') (hr' : Op2 X.K r' g') (ha : DE X pn a ma) (hb : DE X pn b mb) (hc : DE X pn c mc)
    (hm : lastMarks [op, op'] [b, c] = false := by with_unfolding_all rfl) : DE X pn (.Compare a [op, op'] [b, c] pos) (mChain g g' ma mb mc) := pe_to (pe_chain ho ho' ha hb hc hm) (covCh hr hr')
theorem t_chain {op op' : CmpOp} {r r' : R2} {g g' : Py → Py → Option Py} (ho : OpR X (compareOp op) r) (hr : Op2 X.K r g) (ho' : OpR X (compareOp op') r') (hr' : Op2 X.K r' g') (ha : DE X pn a ma) (hb : DE X pn b mb) (hc : DE X pn c mc)
    (hm : lastMarks [op, op'] [b, c] = false := by with_unfolding_all rfl) : DT X pn (.Compare a [op, op'] [b, c] pos) (mTest (mChain g g' ma mb mc)) := pt_to (pt_chain ho ho' ha hb hc hm) (cov_test (covCh hr hr'))

/-! ### arguments, displays, calls -/
theorem a_nil : DA X pn [] mNil := pa_to pa_nil fun σ H Q ⟨G, pa, F, ρ, d, ρ', R, q, k⟩ => by
  obtain ⟨rfl, rfl⟩ := ret_some q
  exact k [] F H (.refl _) R .nil
theorem a_cons {ms : M (List Py)} (ha : DE X pn e ma) (hr : DA X pn es ms) (hs : starEach (e :: es) X.env = (false, eval e X.env) :: starEach es X.env := by rfl) : DA X pn (e :: es) (mCons ma ms) := pa_to (pa_cons ha hr hs) fun σ H Q ⟨G, pa, F, ρ, d, ρ', R, q, k⟩ => by
  obtain ⟨x, ρ1, h1, q⟩ := bnd_some q
  obtain ⟨l, ρ2, h2, q⟩ := bnd_some q
  obtain ⟨rfl, rfl⟩ := ret_some q
  exact ⟨G, pa, F, ρ, x, ρ1, R, h1, fun v F1 H1 s1 R1 p1 => ⟨G, pa, F1, ρ1, l, _, R1, h2, fun vs F2 H2 s2 R2 p2 => k _ F2 H2 (s1.trans s2) R2 (.cons (Rp.mono s2 p1) p2)⟩⟩
theorem few_some {α : Type} {l r : List α} (h : few l = some r) : r = l ∧ l.length ≤ 1000 := by
  unfold few at h
  split at h
  · cases h
    exact ⟨rfl, by assumption⟩
  · cases h
theorem line1000 {n : Nat} (h : n ≤ 1000) : n ≤ sizeLine := Nat.le_of_lt (small1000 h)
theorem d_tup {ms : M (List Py)} {x1} (h : DA X pn es ms) : DE X pn (.Tuple es x1 pos) (mTup ms) := pe_to (pe_tup h) fun σ H Q ⟨G, pa, F, ρ, d, ρ', R, q, k⟩ => by
  obtain ⟨l, ρ1, h1, q⟩ := bnd_some q
  obtain ⟨h2, rfl⟩ := lif_some q
  obtain ⟨r, h3, rfl⟩ := Option.map_eq_some_iff.mp h2
  obtain ⟨rfl, h4⟩ := few_some h3
  refine ⟨G, pa, F, ρ, _, _, R, h1, fun vs F1 H1 s1 R1 p1 => ⟨by rw [RpL.len p1]; exact line1000 h4, fun p hp => ?_⟩⟩
  have g := Grow.add R1.ex hp (.tup vs)
  exact k _ _ _ (s1.trans g.ff) (R1.grow g) (.tup (.of upd_same) (RpL.mono g.ff p1))
/-- a new list that a slot may hold is a value -/
theorem d_frz {m : M (List Py)} (h : DLi X pn e m) : DE X pn e (mFrz m) := pe_to h fun σ H Q ⟨G, pa, F, ρ, d, ρ', R, q, k⟩ => by
  obtain ⟨l, ρ1, h1, q⟩ := bnd_some q
  obtain ⟨rfl, rfl⟩ := ret_some q
  refine ⟨G, pa, F, ρ, _, _, R, h1, fun v F1 H1 s1 R1 p1 => ?_⟩
  obtain ⟨a, rfl, ⟨f, vs, hh, r⟩, g1, g2⟩ := p1
  have ff : Same F1 (upd F1 a (.lst vs)) := fun b u q => by rw [upd_ne (ne_of_none q f)]; exact q
  exact k _ _ H1 (s1.trans ff) (R1.tell f hh g1 g2) (.lst upd_same (RpL.mono ff r))
theorem d_frzD {m : M (List (Py × Py))} (h : DDi X pn e m) : DE X pn e (bnd m fun l => ret (.dict l)) := pe_to h fun σ H Q ⟨G, pa, F, ρ, d, ρ', R, q, k⟩ => by
  obtain ⟨l, ρ1, h1, q⟩ := bnd_some q
  obtain ⟨rfl, rfl⟩ := ret_some q
  refine ⟨G, pa, F, ρ, _, _, R, h1, fun v F1 H1 s1 R1 p1 => ?_⟩
  obtain ⟨a, rfl, ⟨f, u, hh, r⟩, g1, g2⟩ := p1
  have ff : Same F1 (upd F1 a u) := fun b u q => by rw [upd_ne (ne_of_none q f)]; exact q
  exact k _ _ H1 (s1.trans ff) (R1.tell f hh g1 g2) (.dic (.inl upd_same) (RpO.mono ff r))
/-- what is laid new -/
theorem own_new {K : PySem.W.Frag} {F H : Hp} (e : Same F H) {p : Addr} (hp : H p = none) {vs : List V} {l : List Py} (r : RpL K F vs l) : OwnC K F (upd H p (.lst vs)) p (.ml l) := ⟨e.free hp, vs, upd_same, r⟩
theorem n_of {α : Type} {G : Hp} {pa : Nat → Addr} {F H H1 F1 : Hp} {ρ : Rho} {σ : L2.St} {Q : VK} {m : α} {c : α → C} (R : RS X.K pn G pa F H ρ σ) (k : ∀ w F' H', Same F F' → RS X.K pn G pa F' H' ρ σ → wN X.K c G F' H' ρ σ m w → Q w H') {a : Addr}
    (g : Grow F H F1 H1) (h : H a = none) (o : OwnC X.K F1 H1 a (c m)) : Q (.ref a) H1 := k _ _ _ g.ff (R.grow g) ⟨a, rfl, o, (fresh_no R h).1, (fresh_no R h).2⟩
theorem l_lst {ms : M (List Py)} (h : DA X pn es ms) : DLi X pn (.List es pos) (mLst ms) := pe_to (pe_lst h) fun σ H Q ⟨G, pa, F, ρ, d, ρ', R, q, k⟩ => by
  obtain ⟨l, ρ1, h1, q⟩ := bnd_some q
  obtain ⟨h2, rfl⟩ := lif_some q
  obtain ⟨rfl, h4⟩ := few_some h2
  refine ⟨G, pa, F, ρ, _, _, R, h1, fun vs F1 H1 s1 R1 p1 => ⟨by rw [RpL.len p1]; exact line1000 h4, fun p hp => ?_⟩⟩
  exact n_of R1 (fun w F' H' s => k w F' H' (s1.trans s)) (Grow.lay R1.ex hp _) hp (own_new R1.ex hp p1)
/-- an operation on one value that makes a new list or dict -/
theorem cov1N {α : Type} {K : PySem.W.Frag} {c : α → C} {r : V → Hp → VK → Prop} {g : Py → Option α} (hr : Op1N K c r g) : ∀ σ H Q, Rdg K pn (wN K c) (bnd ma fun x => lif (g x)) σ H Q → tUn r (Rdg K pn (wB K) ma) σ H Q := fun σ H Q ⟨G, pa, F, ρ, d, ρ', R, q, k⟩ => by
  obtain ⟨x, ρ1, h1, q⟩ := bnd_some q
  obtain ⟨h3, rfl⟩ := lif_some q
  refine ⟨G, pa, F, ρ, x, _, R, h1, fun v F1 H1 s1 R1 p1 => ?_⟩
  exact hr R1.ex p1 h3 fun a F3 H3 g3 n3 p3 => k _ F3 H3 (s1.trans g3.ff) (R1.grow g3) ⟨a, rfl, p3, (fresh_no R1 n3).1, (fresh_no R1 n3).2⟩

/-! ### calls of built-ins by one value, of a method -/
/-- one argument that is looked at -/
theorem one_arg {ta : TE} (h : PE X e ta) (hs : starEach [e] X.env = [(false, eval e X.env)] := by rfl) : PA X [e] (tCons ta tNil) := pa_cons h pa_nil hs
theorem cb_un {ta : TE} {r : List V → Hp → VK → Prop} {σ : L2.St} {H : Hp} {Q : VK} (h : tUn (fun x H Q => r [x] H Q) ta σ H Q) : tCB r (tCons ta tNil) σ H Q := h
theorem d_call1 {x : Str} {id : String} {p cpos : Pos} {r : List V → Hp → VK → Prop} {g : Py → Option Py} (hc : CallR X (.builtin id) r) (hr : Op1 X.K (fun x H Q => r [x] H Q) g) (hg : Gl X x) (hm : X.mg x = none) (hv : bootBuiltins x = some (.builtin id)) (ha : DB X pn e ma)
    (hs : starEach [e] X.env = [(false, eval e X.env)] := by rfl) (hn : x ≠ "__name__" := by decide) (hdb : (x == ("__debug__" : Str)) = false := by decide) : DE X pn (.Call (.Name x p) [e] [] cpos) (mOp1 g ma) := pe_to (pe_callB hc hg hm hv (one_arg ha hs) hn hdb hs rfl) fun σ H Q h => cb_un (cov1 hr σ H Q h)
theorem d_callT {x : Str} {id : String} {p cpos : Pos} {r : List V → Hp → VK → Prop} {g : Py → Option Py} (hc : CallR X (.type id) r) (hr : Op1 X.K (fun x H Q => r [x] H Q) g) (hg : Gl X x) (hm : X.mg x = none) (hv : bootBuiltins x = some (.type id)) (ha : DB X pn e ma)
    (hs : starEach [e] X.env = [(false, eval e X.env)] := by rfl) (hn : x ≠ "__name__" := by decide) (hdb : (x == ("__debug__" : Str)) = false := by decide) : DE X pn (.Call (.Name x p) [e] [] cpos) (mOp1 g ma) := pe_to (pe_callTy hc hg hm hv (one_arg ha hs) hn hdb hs rfl) fun σ H Q h => cb_un (cov1 hr σ H Q h)
theorem n_call1 {α : Type} {c : α → C} {x : Str} {id : String} {p cpos : Pos} {r : List V → Hp → VK → Prop} {g : Py → Option α} (hc : CallR X (.builtin id) r) (hr : Op1N X.K c (fun x H Q => r [x] H Q) g) (hg : Gl X x) (hm : X.mg x = none) (hv : bootBuiltins x = some (.builtin id)) (ha : DB X pn e ma)
    (hs : starEach [e] X.env = [(false, eval e X.env)] := by rfl) (hn : x ≠ "__name__" := by decide) (hdb : (x == ("__debug__" : Str)) = false := by decide) : PE X (.Call (.Name x p) [e] [] cpos) (Rdg X.K pn (wN X.K c) (bnd ma fun x => lif (g x))) := pe_to (pe_callB hc hg hm hv (one_arg ha hs) hn hdb hs rfl) fun σ H Q h => cb_un (cov1N hr σ H Q h)
theorem n_callT {α : Type} {c : α → C} {x : Str} {id : String} {p cpos : Pos} {r : List V → Hp → VK → Prop} {g : Py → Option α} (hc : CallR X (.type id) r) (hr : Op1N X.K c (fun x H Q => r [x] H Q) g) (hg : Gl X x) (hm : X.mg x = none) (hv : bootBuiltins x = some (.type id)) (ha : DB X pn e ma)
    (hs : starEach [e] X.env = [(false, eval e X.env)] := by rfl) (hn : x ≠ "__name__" := by decide) (hdb : (x == ("__debug__" : Str)) = false := by decide) : PE X (.Call (.Name x p) [e] [] cpos) (Rdg X.K pn (wN X.K c) (bnd ma fun x => lif (g x))) := pe_to (pe_callTy hc hg hm hv (one_arg ha hs) hn hdb hs rfl) fun σ H Q h => cb_un (cov1N hr σ H Q h)
/-- two arguments -/
theorem d_call2 {x : Str} {id : String} {p cpos : Pos} {r : List V → Hp → VK → Prop} {g : Py → Py → Option Py} (hc : CallR X (.builtin id) r) (hr : Op2 X.K (fun x y H Q => r [x, y] H Q) g) (hg : Gl X x) (hm : X.mg x = none) (hv : bootBuiltins x = some (.builtin id)) (ha : DE X pn a ma) (hb : DB X pn b mb)
    (hs : starEach [a, b] X.env = (false, eval a X.env) :: starEach [b] X.env := by rfl) (hs2 : starEach [b] X.env = [(false, eval b X.env)] := by rfl) (hn : x ≠ "__name__" := by decide) (hdb : (x == ("__debug__" : Str)) = false := by decide) : DE X pn (.Call (.Name x p) [a, b] [] cpos) (mOp2 g ma mb) :=
  pe_to (pe_callB hc hg hm hv (pa_cons ha (pa_cons hb pa_nil hs2) hs) hn hdb hs (by rw [hs2]; rfl)) fun σ H Q h => cov2 hr σ H Q h

/-! ### slices -/
theorem o_no : DO X pn none mNoPart := po_to po_none fun σ H Q ⟨G, pa, F, ρ, d, ρ', R, q, k⟩ => by
  obtain ⟨rfl, rfl⟩ := ret_some q
  exact k none F H (.refl _) R rfl
theorem o_some (h : DE X pn e ma) : DO X pn (some e) (mPart ma) := po_to (po_some h) fun σ H Q ⟨G, pa, F, ρ, d, ρ', R, q, k⟩ => by
  obtain ⟨x, ρ1, h1, q⟩ := bnd_some q
  obtain ⟨h2, rfl⟩ := lif_some q
  obtain ⟨i, h3, rfl⟩ := Option.map_eq_some_iff.mp h2
  refine ⟨G, pa, F, ρ, _, _, R, h1, fun v F1 H1 s1 R1 p1 => ?_⟩
  cases x with
  | int j =>
    cases h3
    cases p1
    exact ⟨_, rfl, k _ F1 H1 s1 R1 rfl⟩
  | _ => cases h3
section
variable {lo hi : Option Expr} {ml mh : MO} {p2 : Pos}
def OpS (K : PySem.W.Frag) (r : V → Option Int → Option Int → Hp → VK → Prop) (g : Py → Option Int → Option Int → Option Py) : Prop := ∀ {F H : Hp} {v : V} {x z : Py} {l h : Option Int} {Q : VK}, Same F H → Rp K F v x → g x l h = some z → (∀ w F' H', Grow F H F' H' → Rp K F' w z → Q w H') → r v l h H Q
theorem d_slice {r : V → Option Int → Option Int → Hp → VK → Prop} {g : Py → Option Int → Option Int → Option Py} (hs : SlR X r) (hr : OpS X.K r g) (ha : DE X pn a ma) (hl : DO X pn lo ml) (hh : DO X pn hi mh) :
    DE X pn (.Subscript a (.Slice lo hi none p2) pos) (bnd ma fun x => bnd ml fun l => bnd mh fun h => lif (g x l h)) := pe_to (pe_slice hs ha hl hh) fun σ H Q ⟨G, pa, F, ρ, d, ρ', R, q, k⟩ => by
  obtain ⟨x, ρ1, h1, q⟩ := bnd_some q
  obtain ⟨l, ρ2, h2, q⟩ := bnd_some q
  obtain ⟨h, ρ3, h3, q⟩ := bnd_some q
  obtain ⟨h4, rfl⟩ := lif_some q
  refine ⟨G, pa, F, ρ, x, ρ1, R, h1, fun v F1 H1 s1 R1 p1 => ⟨G, pa, F1, ρ1, l, _, R1, h2, fun u F2 H2 s2 R2 p2 => ⟨G, pa, F2, ρ2, h, _, R2, h3, fun u' F3 H3 s3 R3 p3 => ?_⟩⟩⟩
  cases p2
  cases p3
  exact hr R3.ex (Rp.mono (s2.trans s3) p1) h4 fun w F4 H4 g4 p4 => k w F4 H4 (s1.trans (s2.trans (s3.trans g4.ff))) (R3.grow g4) p4
def OpSN (K : PySem.W.Frag) (r : V → Option Int → Option Int → Hp → VK → Prop) (g : Py → Option Int → Option Int → Option (List Py)) : Prop := ∀ {F H : Hp} {v : V} {x : Py} {z : List Py} {l h : Option Int} {Q : VK}, Same F H → Bw K F H v x → g x l h = some z → (∀ a F' H', Grow F H F' H' → H a = none → OwnC K F' H' a (.ml z) → Q (.ref a) H') → r v l h H Q
theorem l_slice {r : V → Option Int → Option Int → Hp → VK → Prop} {g : Py → Option Int → Option Int → Option (List Py)} (hs : SlR X r) (hr : OpSN X.K r g) (ha : DE X pn a ma) (hl : DO X pn lo ml) (hh : DO X pn hi mh) :
    DLi X pn (.Subscript a (.Slice lo hi none p2) pos) (bnd ma fun x => bnd ml fun l => bnd mh fun h => lif (g x l h)) := pe_to (pe_slice hs ha hl hh) fun σ H Q ⟨G, pa, F, ρ, d, ρ', R, q, k⟩ => by
  obtain ⟨x, ρ1, h1, q⟩ := bnd_some q
  obtain ⟨l, ρ2, h2, q⟩ := bnd_some q
  obtain ⟨h, ρ3, h3, q⟩ := bnd_some q
  obtain ⟨h4, rfl⟩ := lif_some q
  refine ⟨G, pa, F, ρ, x, ρ1, R, h1, fun v F1 H1 s1 R1 p1 => ⟨G, pa, F1, ρ1, l, _, R1, h2, fun u F2 H2 s2 R2 p2 => ⟨G, pa, F2, ρ2, h, _, R2, h3, fun u' F3 H3 s3 R3 p3 => ?_⟩⟩⟩
  cases p2
  cases p3
  exact hr R3.ex (.inl (Rp.mono (s2.trans s3) p1)) h4 fun a F4 H4 g4 n4 p4 => k _ F4 H4 (s1.trans (s2.trans (s3.trans g4.ff))) (R3.grow g4) ⟨a, rfl, p4, (fresh_no R3 n4).1, (fresh_no R3 n4).2⟩
/-- .. of a name that is looked at -/
theorem l_sliceV {r : V → Option Int → Option Int → Hp → VK → Prop} {g : Py → Option Int → Option Int → Option (List Py)} (i : Nat) (hs : SlR X r) (hr : OpSN X.K r g) (ha : PE X a (tVar i)) (hl : DO X pn lo ml) (hh : DO X pn hi mh) :
    DLi X pn (.Subscript a (.Slice lo hi none p2) pos) (bnd (mPk i) fun _ => bnd ml fun l => bnd mh fun h => bnd (mPk i) fun x => lif (g x l h)) := pe_to (pe_slice hs ha hl hh) fun σ H Q ⟨G, pa, F, ρ, d, ρ', R, q, k⟩ => by
  obtain ⟨x0, ρ1, h1, q⟩ := bnd_some q
  obtain ⟨l, ρ2, h2, q⟩ := bnd_some q
  obtain ⟨h, ρ3, h3, q⟩ := bnd_some q
  obtain ⟨x, ρ4, h5, q⟩ := bnd_some q
  obtain ⟨h4, rfl⟩ := lif_some q
  obtain ⟨rfl, v, e, _⟩ := peek_ok R h1
  refine ⟨v, e, ⟨G, pa, F, ρ1, l, _, R, h2, fun u F2 H2 s2 R2 p2 => ⟨G, pa, F2, ρ2, h, _, R2, h3, fun u' F3 H3 s3 R3 p3 => ?_⟩⟩⟩
  cases p2
  cases p3
  obtain ⟨rfl, v', e', b'⟩ := peek_ok R3 h5
  rw [e] at e'
  cases e'
  exact hr R3.ex b' h4 fun a F4 H4 g4 n4 p4 => k _ F4 H4 (s2.trans (s3.trans g4.ff)) (R3.grow g4) ⟨a, rfl, p4, (fresh_no R3 n4).1, (fresh_no R3 n4).2⟩
end
end
end DL

set_option maxRecDepth 100000
/-! DLR3: what the operators, built-ins and methods are by data. -/
namespace DL
open PySem L2 PySem.SeqAt

theorem ite_some {α : Type} {c : Prop} [Decidable c] {a b : α} (h : (if c then some a else none) = some b) : c ∧ a = b := by
  by_cases hc : c
  · rw [if_pos hc] at h
    cases h
    exact ⟨hc, rfl⟩
  · rw [if_neg hc] at h
    cases h
section
variable {K : PySem.W.Frag} {X : Cx}
theorem line24 {n : Nat} (h : n ≤ 16777216) : n ≤ sizeLine := h
theorem bigE : big = 2 ^ 64 := by decide
theorem Bw.rp {F H : Hp} {v : V} {l : List Py} (h : Bw K F H v (.tuple l)) : Rp K F v (.tuple l) := by
  rcases h with h | ⟨_, _, ⟨_, _, z, _⟩ | ⟨_, _, z, _⟩⟩
  · exact h
  · cases z
  · cases z
/-! ### numbers -/
def rAdd3 (K : PySem.W.Frag) : R2 := fun x y H Q => rI0 (fun i j => .int (i + j)) x y H Q ∨ ((∃ i j, x = .str i ∧ y = .str j ∧ i.length + j.length ≤ sizeLine ∧ Q (.str (i ++ j)) H) ∨ rCatA K x y H Q)
theorem op_add3 : OpR X (binaryOp .Add) (rAdd3 X.K) := op_add.or (op_add_str.or op_catA)
theorem o_add : Op2 K (rAdd3 K) gAdd := fun {F H v u x y z Q} e a b h k => by
  cases x with
  | int i =>
    cases y with
    | int j =>
      cases h
      exact .inl ⟨i, j, a.int, b.int, op_same e k (.int _)⟩
    | _ => cases h
  | str i =>
    cases y with
    | str j =>
      obtain ⟨hz, rfl⟩ := ite_some h
      exact .inr (.inl ⟨i, j, a.str, b.str, line24 hz, op_same e k (.str _)⟩)
    | _ => cases h
  | tuple i =>
    cases y with
    | tuple j =>
      obtain ⟨hz, rfl⟩ := ite_some h
      have a0 := a.rp
      have b0 := b.rp
      obtain ⟨p, vs, rfl, h1, r1⟩ := a.tuple e
      obtain ⟨q, ws, rfl, h2, r2⟩ := b.tuple e
      refine .inr (.inr ⟨p, q, vs, ws, rfl, rfl, h1, h2, by rw [r1.len, r2.len]; exact line24 hz, fun hv => ?_, fun _ hw => ?_, fun _ _ c hc => ?_⟩)
      · subst hv
        cases r1
        exact op_same e k b0
      · subst hw
        cases r2
        rw [List.append_nil] at k
        exact op_same e k a0
      · have g := Grow.add e hc (.tup (vs ++ ws))
        exact k _ _ _ g (.tup (.of upd_same) (RpL.app (RpL.mono g.ff r1) (RpL.mono g.ff r2)))
    | _ => cases h
  | _ => cases h
/-- two ints to an int or a bool -/
theorem o_ii {r : R2} {g : Py → Py → Option Py} {c : Int → Int → Prop} {f : Int → Int → V} {f' : Int → Int → Py} (hf : ∀ i j F, Rp K F (f i j) (f' i j)) (hg : ∀ x y z, g x y = some z → ∃ i j, x = .int i ∧ y = .int j ∧ c i j ∧ f' i j = z)
    (hr : ∀ i j H (Q : VK), c i j → Q (f i j) H → r (.int i) (.int j) H Q) : Op2 K r g := fun {F H v u x y z Q} e a b h k => by
  obtain ⟨i, j, rfl, rfl, hc, rfl⟩ := hg x y z h
  rw [a.int, b.int]
  exact hr i j H Q hc (op_same e k (hf i j F))
theorem o_sub : Op2 K (rI0 fun i j => .int (i - j)) gSub := o_ii (c := fun _ _ => True) (f' := fun i j => .int (i - j)) (fun i j F => .int _) (fun x y z h => by
  cases x <;> cases y <;> first | (cases h; exact ⟨_, _, rfl, rfl, trivial, rfl⟩) | cases h) fun i j H Q _ q => ⟨i, j, rfl, rfl, q⟩
theorem o_mul : Op2 K (rI CMul fun i j => .int (i * j)) gMul := o_ii (c := CMul) (f' := fun i j => .int (i * j)) (fun i j F => .int _) (fun x y z h => by
  cases x with
  | int i =>
    cases y with
    | int j =>
      obtain ⟨hc, hz⟩ := ite_some h
      rw [bigE] at hc
      exact ⟨i, j, rfl, rfl, hc, hz⟩
    | _ => cases h
  | _ => cases h) fun i j H Q c q => ⟨i, j, rfl, rfl, c, q⟩
theorem o_div : Op2 K (rI CDivW fun i j => .int (i / j)) gDiv := o_ii (c := CDivW) (f' := fun i j => .int (i / j)) (fun i j F => .int _) (fun x y z h => by
  cases x with
  | int i =>
    cases y with
    | int j =>
      obtain ⟨⟨h0, h1⟩, hz⟩ := ite_some h
      rw [bigE] at h1
      refine ⟨i, j, rfl, rfl, wide_div (i := i) (b := 64) h0 ?_ (by decide) (by decide), hz⟩
      have : (j.natAbs : Int) = j := Int.natAbs_of_nonneg (Int.le_of_lt h0)
      have e2 : ((2 ^ 64 : Nat) : Int) = 2 ^ 64 := by decide
      omega
    | _ => cases h
  | _ => cases h) fun i j H Q c q => ⟨i, j, rfl, rfl, c, q⟩
theorem o_mod : Op2 K (rI (fun _ j => 0 < j) fun i j => .int (i % j)) gMod := o_ii (c := fun _ j => 0 < j) (f' := fun i j => .int (i % j)) (fun i j F => .int _) (fun x y z h => by
  cases x with
  | int i =>
    cases y with
    | int j =>
      obtain ⟨hc, hz⟩ := ite_some h
      exact ⟨i, j, rfl, rfl, hc, hz⟩
    | _ => cases h
  | _ => cases h) fun i j H Q c q => ⟨i, j, rfl, rfl, c, q⟩
theorem o_cmp {p : Int → Int → Bool} {r : R2} (hr : ∀ i j H (Q : VK), Q (.bl (p i j)) H → r (.int i) (.int j) H Q) : Op2 K r (gCmp p) := o_ii (c := fun _ _ => True) (f' := fun i j => .bool (p i j)) (f := fun i j => .bl (p i j)) (fun i j F => .bl _) (fun x y z h => by
  cases x <;> cases y <;> first | (cases h; exact ⟨_, _, rfl, rfl, trivial, rfl⟩) | cases h) fun i j H Q _ q => hr i j H Q q
theorem o_lt : Op2 K (rI0 fun i j => .bl (decide (i < j))) gLt := o_cmp fun i j H Q q => ⟨i, j, rfl, rfl, q⟩
theorem o_le : Op2 K (rI0 fun i j => .bl (decide (i ≤ j))) gLe := o_cmp fun i j H Q q => ⟨i, j, rfl, rfl, q⟩
theorem o_gt : Op2 K (rI0 fun i j => .bl (decide (j < i))) gGt := o_cmp fun i j H Q q => ⟨i, j, rfl, rfl, q⟩
theorem o_ge : Op2 K (rI0 fun i j => .bl (decide (j ≤ i))) gGe := o_cmp fun i j H Q q => ⟨i, j, rfl, rfl, q⟩
theorem o_neg : Op1 K (rU fun i => .int (-i)) gNeg := fun {F H v x z Q} e a h k => by
  cases x with
  | int i =>
    cases h
    exact ⟨i, a.int, op_same e k (.int _)⟩
  | _ => cases h

/-! ### == and in -/
mutual
theorem dp_of {F H : Hp} (e : Same F H) : ∀ (d : Py) (v : V), Rp K F v d → d.plain = true → Dp K H v d
  | .none, _, h, _ => by cases h; exact .non
  | .bool b, _, h, _ => by cases h; exact .bl b
  | .int i, _, h, _ => by cases h; exact .int i
  | .str x, _, h, _ => by cases h; exact .str x
  | .list ds, _, h, p => by
    cases h with
    | lst s r => exact .lst (.of (e _ _ s)) (dpAll_of e ds _ r (by simpa [PyData.plain] using p))
  | .tuple ds, _, h, p => by
    cases h with
    | tup s r => exact .tup (Same.sqt e s) (dpAll_of e ds _ r (by simpa [PyData.plain] using p))
  | .dict _, _, _, p => by simp [PyData.plain] at p
theorem dpAll_of {F H : Hp} (e : Same F H) : ∀ (ds : List Py) (vs : List V), RpL K F vs ds → PyData.plainAll ds = true → DpAll K H vs ds
  | [], _, h, _ => by cases h; exact .nil
  | d :: ds, _, h, p => by
    have p' : d.plain = true ∧ PyData.plainAll ds = true := by simpa [PyData.plainAll] using p
    cases h with
    | cons a b => exact .cons (dp_of e d _ a p'.1) (dpAll_of e ds _ b p'.2)
end
theorem Bw.dp {F H : Hp} (e : Same F H) {v : V} {d : Py} (h : Bw K F H v d) (p : d.plain = true) : Dp K H v d := by
  rcases h with h | ⟨a, rfl, ⟨l, vs, rfl, q, r⟩ | ⟨_, _, rfl, _⟩⟩
  · exact dp_of e d v h p
  · exact .lst (.of q) (dpAll_of e l vs r (by simpa [PyData.plain] using p))
  · simp [PyData.plain] at p
def rEqP (K : PySem.W.Frag) (n : Bool) : R2 := fun x y H Q => ∃ d f, Dp K H x d ∧ Dp K H y f ∧ okEq d f = true ∧ Q (.bl (if n then !PyData.eqv d f else PyData.eqv d f)) H
theorem okEq_of {d f : Py} (h : okEq d f = true) : d.plain = true ∧ f.plain = true ∧ min d.depth f.depth ≤ 64 := by
  simpa [okEq, Bool.and_eq_true, decide_eq_true_eq] using h
theorem op_eqP (hu : X.A.units + 64 < cLine) : OpR X (compareOp .Eq) (rEqP X.K false) := by
  intro pins s σ H x y v u Q I rx ry h
  obtain ⟨d, e, hd, he, ok, q⟩ := h
  obtain ⟨p1, p2, p3⟩ := okEq_of ok
  obtain ⟨as, r1⟩ := Dp.reads I d x v hd rx
  obtain ⟨bs, r2⟩ := Dp.reads I e y u he ry
  exact eq_plain r1 r2 p1 p2 (by omega) ⟨.bl _, H, I, rfl, q⟩
theorem op_neP (hu : X.A.units + 64 < cLine) : OpR X (compareOp .NotEq) (rEqP X.K true) := by
  intro pins s σ H x y v u Q I rx ry h
  obtain ⟨d, e, hd, he, ok, q⟩ := h
  obtain ⟨p1, p2, p3⟩ := okEq_of ok
  obtain ⟨as, r1⟩ := Dp.reads I d x v hd rx
  obtain ⟨bs, r2⟩ := Dp.reads I e y u he ry
  exact ne_plain r1 r2 p1 p2 (by omega) ⟨.bl _, H, I, rfl, q⟩
theorem o_eq : Op2 K (rEqP K false) gEq := fun {F H v u x y z Q} e a b h k => by
  obtain ⟨ok, rfl⟩ := ite_some h
  exact ⟨x, y, a.dp e (okEq_of ok).1, b.dp e (okEq_of ok).2.1, ok, op_same e k (.bl _)⟩
theorem o_ne : Op2 K (rEqP K true) gNe := fun {F H v u x y z Q} e a b h k => by
  obtain ⟨ok, rfl⟩ := ite_some h
  exact ⟨x, y, a.dp e (okEq_of ok).1, b.dp e (okEq_of ok).2.1, ok, op_same e k (.bl _)⟩
theorem okIn_of {d : Py} {l : List Py} (h : okIn d l = true) : d.plain = true ∧ PyData.plainAll l = true ∧ min (PyData.depthAll l) d.depth ≤ 64 := by
  simpa [okIn, Bool.and_eq_true, decide_eq_true_eq] using h
def rInP (K : PySem.W.Frag) (n : Bool) : R2 := fun x y H Q => ∃ d f l, Dp K H x d ∧ Dp K H y f ∧ seqOf f = some l ∧ okIn d l = true ∧ Q (.bl (if n then !anyEq d l else anyEq d l)) H
theorem op_inP (hu : X.A.units + 66 < cLine) : OpR X (compareOp .In) (rInP X.K false) := by
  intro pins s σ H x y v u Q I rx ry h
  obtain ⟨d, f, l, hd, he, hs, ok, q⟩ := h
  obtain ⟨p1, p2, p3⟩ := okIn_of ok
  obtain ⟨as, r1⟩ := Dp.reads I d x v hd rx
  obtain ⟨bs, r2⟩ := Dp.reads I f y u he ry
  cases f with
  | list ds =>
    cases hs
    exact in_list_data r2 r1 p2 p1 (by omega) ⟨.bl _, H, I, rfl, q⟩
  | tuple ds =>
    cases hs
    exact in_tuple_data r2 r1 p2 p1 (by omega) ⟨.bl _, H, I, rfl, q⟩
  | _ => cases hs
theorem op_notInP (hu : X.A.units + 66 < cLine) : OpR X (compareOp .NotIn) (rInP X.K true) := by
  intro pins s σ H x y v u Q I rx ry h
  obtain ⟨d, f, l, hd, he, hs, ok, q⟩ := h
  obtain ⟨p1, p2, p3⟩ := okIn_of ok
  obtain ⟨as, r1⟩ := Dp.reads I d x v hd rx
  obtain ⟨bs, r2⟩ := Dp.reads I f y u he ry
  cases f with
  | list ds =>
    cases hs
    exact notIn_list_data r2 r1 p2 p1 (by omega) ⟨.bl _, H, I, rfl, q⟩
  | tuple ds =>
    cases hs
    exact notIn_tuple_data r2 r1 p2 p1 (by omega) ⟨.bl _, H, I, rfl, q⟩
  | _ => cases hs
theorem seq_plain {f : Py} {l : List Py} (hs : seqOf f = some l) (h : PyData.plainAll l = true) : f.plain = true := by
  cases f with
  | list ds => cases hs; simpa [PyData.plain] using h
  | tuple ds => cases hs; simpa [PyData.plain] using h
  | _ => cases hs
theorem o_in : Op2 K (rInP K false) gIn := fun {F H v u x y z Q} e a b h k => by
  obtain ⟨l, hs, h⟩ := Option.bind_eq_some_iff.mp h
  obtain ⟨ok, rfl⟩ := ite_some h
  exact ⟨x, y, l, a.dp e (okIn_of ok).1, b.dp e (seq_plain hs (okIn_of ok).2.1), hs, ok, op_same e k (.bl _)⟩
theorem o_notIn : Op2 K (rInP K true) gNotIn := fun {F H v u x y z Q} e a b h k => by
  obtain ⟨l, hs, h⟩ := Option.bind_eq_some_iff.mp h
  obtain ⟨ok, rfl⟩ := ite_some h
  exact ⟨x, y, l, a.dp e (okIn_of ok).1, b.dp e (seq_plain hs (okIn_of ok).2.1), hs, ok, op_same e k (.bl _)⟩
theorem one_sign {s : Str} {c : Nat} (h : s.cps.toList = [c]) : s = ⟨#[c]⟩ := PySem.W.str_of_cps h
theorem o_inS : Op2 K (fun x y H Q => ∃ (c : Nat) (z : Str), x = .str ⟨#[c]⟩ ∧ y = .str z ∧ Q (.bl (decide (c ∈ z.cps.toList))) H) gInS := fun {F H v u x y z Q} e a b h k => by
  cases x with
  | str i =>
    cases y with
    | str j =>
      have h : (match i.cps.toList with | [c] => some (PyData.bool (decide (c ∈ j.cps.toList))) | _ => none) = some z := h
      split at h
      · rename_i c hc
        cases h
        exact ⟨c, j, by rw [a.str, one_sign hc], b.str, op_same e k (.bl _)⟩
      · cases h
    | _ => cases h
  | _ => cases h
theorem o_notInS : Op2 K (fun x y H Q => ∃ (c : Nat) (z : Str), x = .str ⟨#[c]⟩ ∧ y = .str z ∧ Q (.bl (!decide (c ∈ z.cps.toList))) H) gNotInS := fun {F H v u x y z Q} e a b h k => by
  cases x with
  | str i =>
    cases y with
    | str j =>
      have h : (match i.cps.toList with | [c] => some (PyData.bool (!decide (c ∈ j.cps.toList))) | _ => none) = some z := h
      split at h
      · rename_i c hc
        cases h
        exact ⟨c, j, by rw [a.str, one_sign hc], b.str, op_same e k (.bl _)⟩
      · cases h
    | _ => cases h
  | _ => cases h
theorem rp_none {F : Hp} {v : V} {x : Py} (h : Rp K F v x) : decide (v = .non) = isNone x := by
  cases h <;> first | rfl | exact decide_eq_false (by intro z; cases z)
theorem bw_none {F H : Hp} {v : V} {x : Py} (h : Bw K F H v x) : decide (v = .non) = isNone x := by
  rcases h with h | ⟨a, rfl, ⟨l, vs, rfl, q, r⟩ | ⟨l, vs, rfl, q, r⟩⟩
  · exact rp_none h
  · exact decide_eq_false (by intro z; cases z)
  · exact decide_eq_false (by intro z; cases z)
theorem o_isN : Op2 K (fun x y H Q => y = .non ∧ Q (.bl (decide (x = .non))) H) gIsN := fun {F H v u x y z Q} e a b h k => by
  obtain ⟨hc, rfl⟩ := ite_some h
  have hy := bw_none b
  rw [hc] at hy
  exact ⟨of_decide_eq_true hy, by rw [bw_none a]; exact op_same e k (.bl _)⟩
theorem o_notN : Op2 K (fun x y H Q => y = .non ∧ Q (.bl (!decide (x = .non))) H) gNotN := fun {F H v u x y z Q} e a b h k => by
  obtain ⟨hc, rfl⟩ := ite_some h
  have hy := bw_none b
  rw [hc] at hy
  exact ⟨of_decide_eq_true hy, by rw [bw_none a]; exact op_same e k (.bl _)⟩

/-! ### subscripts, slices -/
theorem o_ix : Op2 K (rIx K) gIx := fun {F H v u x y z Q} e a b h k => by
  cases y with
  | int i =>
    cases x with
    | list l =>
      obtain ⟨p, vs, rfl, h1, r1⟩ := a.list e
      obtain ⟨w, h2, r2⟩ := r1.atI h
      exact .inl ⟨p, vs, i, w, rfl, b.int, .of h1, h2, op_same e k r2⟩
    | tuple l =>
      obtain ⟨p, vs, rfl, h1, r1⟩ := a.tuple e
      obtain ⟨w, h2, r2⟩ := r1.atI h
      exact .inr (.inl ⟨p, vs, i, w, rfl, b.int, h1, h2, op_same e k r2⟩)
    | str s =>
      have h : (if s.length ≤ 16777216 then (atI s.cps.toList i).map fun c => PyData.str ⟨#[c]⟩ else none) = some z := h
      by_cases hz : s.length ≤ 16777216
      · rw [if_pos hz] at h
        obtain ⟨c, h1, rfl⟩ := Option.map_eq_some_iff.mp h
        exact .inr (.inr ⟨s, i, c, a.str, b.int, line24 hz, h1, op_same e k (.str _)⟩)
      · rw [if_neg hz] at h
        cases h
    | _ => cases h
  | _ => cases x <;> cases h
def rSl2 (K : PySem.W.Frag) : V → Option Int → Option Int → Hp → VK → Prop := fun x lo hi H Q => rSlS x lo hi H Q ∨ rSlA K x lo hi H Q
theorem sl_2 : SlR X (rSl2 X.K) := sl_str.or sl_tupA
theorem cut_all {α : Type} {xs : List α} {lo hi : Option Int} (h : HT.sIx xs.length 0 lo = 0 ∧ HT.sIx xs.length xs.length hi = xs.length) : (xs.drop (HT.sIx xs.length 0 lo)).take (HT.sIx xs.length xs.length hi - HT.sIx xs.length 0 lo) = xs := by
  rw [h.1, h.2]
  simp
theorem o_sl : OpS K (rSl2 K) gSl := fun {F H v x z l h Q} e a hg k => by
  cases x with
  | str s =>
    obtain ⟨hz, rfl⟩ := ite_some hg
    exact .inl ⟨s, Bw.str (F := F) (H := H) (K := K) (.inl a), line24 hz, op_same e k (.str _)⟩
  | tuple t =>
    cases hg
    cases a with
    | @tup _ vs _ s r =>
      refine .inr ⟨_, vs, rfl, Same.sqt e s, fun hw => ?_, fun _ p hp => ?_⟩
      · have e2 : cutP t l h = t := by
          have := cut_all (xs := t) (lo := l) (hi := h) (by rw [← r.len]; exact hw)
          exact this
        rw [e2] at k
        exact op_same e k (.tup s r)
      · have g := Grow.add e hp (.tup (cutV vs l h))
        exact k _ _ _ g (.tup (.of upd_same) (RpL.mono g.ff (r.cut l h)))
  | _ => cases hg
theorem o_slL : OpSN K (rSlL K) gSlL := fun {F H v x z l h Q} e a hg k => by
  cases x with
  | list t =>
    cases hg
    obtain ⟨p, vs, rfl, h1, r1⟩ := a.list e
    exact ⟨p, vs, rfl, .of h1, fun q hq => k q _ _ (Grow.lay e hq _) hq (own_new e hq (r1.cut l h))⟩
  | _ => cases hg

/-! ### built-ins -/
theorem o_len : Op1 K (fun x H Q => ∃ y n, [x] = [y] ∧ LenV K y H n ∧ Q (.int n) H) gLen := fun {F H v x z Q} e a h k => by
  cases x with
  | list l =>
    cases h
    obtain ⟨p, vs, rfl, h1, r1⟩ := a.list e
    refine ⟨_, _, rfl, .inl ⟨vs, .of h1, rfl⟩, ?_⟩
    rw [r1.len]
    exact op_same e k (.int _)
  | tuple l =>
    cases h
    obtain ⟨p, vs, rfl, h1, r1⟩ := a.tuple e
    refine ⟨_, _, rfl, .inr ⟨vs, h1, rfl⟩, ?_⟩
    rw [r1.len]
    exact op_same e k (.int _)
  | str s =>
    obtain ⟨hz, rfl⟩ := ite_some h
    refine ⟨_, s.length, rfl, ?_, op_same e k (.int _)⟩
    rw [a.str]
    exact ⟨line24 hz, rfl⟩
  | _ => cases h
theorem o_int : Op1 K (fun x H Q => ((∃ i, [x] = [.int i] ∧ Q (.int i) H) ∨ ∃ k, [x] = [.bl k] ∧ Q (.int (if k then 1 else 0)) H) ∨ ∃ a n, [x] = [.str a] ∧ PySem.intText? a = some n ∧ a.length ≤ 640 ∧ Q (.int n) H) gInt := fun {F H v x z Q} e a h k => by
  cases x with
  | int i =>
    cases h
    exact .inl (.inl ⟨i, by rw [a.int], op_same e k (.int _)⟩)
  | bool b =>
    cases h
    exact .inl (.inr ⟨b, by rw [a.bool], op_same e k (.int _)⟩)
  | str s =>
    have h : (if s.length ≤ 640 then (PySem.intText? s).map PyData.int else none) = some z := h
    by_cases hz : s.length ≤ 640
    · rw [if_pos hz] at h
      obtain ⟨n, h1, rfl⟩ := Option.map_eq_some_iff.mp h
      exact .inr ⟨s, n, by rw [a.str], h1, hz, op_same e k (.int _)⟩
    · rw [if_neg hz] at h
      cases h
  | _ => cases h
theorem call_int3 : CallR X (.type "int") (fun xs H Q => ((∃ i, xs = [.int i] ∧ Q (.int i) H) ∨ ∃ k, xs = [.bl k] ∧ Q (.int (if k then 1 else 0)) H) ∨ ∃ a n, xs = [.str a] ∧ PySem.intText? a = some n ∧ a.length ≤ 640 ∧ Q (.int n) H) := call_int1.or call_int_str
theorem o_list : Op1N K C.ml (fun x H Q => ∃ p ys, [x] = [.ref p] ∧ (SqL K H p ys ∨ SqT K H p ys) ∧ ∀ l, H l = none → Q (.ref l) (upd H l (.lst ys))) seqOf := fun {F H v x z Q} e a h k => by
  obtain ⟨p, vs, rfl, h1, r1⟩ := a.seq e h
  exact ⟨p, vs, rfl, h1, fun l hl => k l _ _ (Grow.lay e hl _) hl (own_new e hl r1)⟩
theorem o_tuple : Op1 K (fun x H Q => ∃ p ys, [x] = [.ref p] ∧ ((SqL K H p ys ∧ ∀ l, H l = none → Q (.ref l) (upd H l (.tup ys))) ∨ (SqT K H p ys ∧ Q (.ref p) H))) gTupleOf := fun {F H v x z Q} e a h k => by
  obtain ⟨l, hs, rfl⟩ := Option.map_eq_some_iff.mp h
  cases x with
  | list ds =>
    cases hs
    obtain ⟨p, vs, rfl, h1, r1⟩ := a.list e
    refine ⟨p, vs, rfl, .inl ⟨.of h1, fun q hq => ?_⟩⟩
    have g := Grow.add e hq (.tup vs)
    exact k _ _ _ g (.tup (.of upd_same) (RpL.mono g.ff r1))
  | tuple ds =>
    cases hs
    have a0 := a.rp
    obtain ⟨p, vs, rfl, h1, r1⟩ := a.tuple e
    exact ⟨p, vs, rfl, .inr ⟨h1, op_same e k a0⟩⟩
  | _ => cases hs
theorem Bw.asL {F H : Hp} (e : Same F H) {v : V} {x : Py} {l : List Py} (a : Bw K F H v x) (h : asL x = some l) : ∃ p vs, v = .ref p ∧ H p = some (.lst vs) ∧ RpL K F vs l := by
  cases x with
  | list ds =>
    cases h
    exact a.list e
  | _ => cases h
theorem o_sum : Op1 K (fun x H Q => rSum K [x] H Q) gSum := fun {F H v x z Q} e a h k => by
  obtain ⟨l, hl, h⟩ := Option.bind_eq_some_iff.mp h
  obtain ⟨ns, hn, rfl⟩ := Option.map_eq_some_iff.mp h
  obtain ⟨p, vs, rfl, h1, r1⟩ := a.asL e hl
  rw [r1.intsOf hn] at h1
  exact ⟨p, ns, rfl, .of h1, op_same e k (.int _)⟩
theorem o_all : Op1 K (fun x H Q => rAll K [x] H Q) gAll := fun {F H v x z Q} e a h k => by
  obtain ⟨l, hl, h⟩ := Option.bind_eq_some_iff.mp h
  obtain ⟨ns, hn, rfl⟩ := Option.map_eq_some_iff.mp h
  obtain ⟨p, vs, rfl, h1, r1⟩ := a.asL e hl
  rw [r1.boolsOf hn] at h1
  exact ⟨p, ns, rfl, .of h1, op_same e k (.bl _)⟩
theorem o_any : Op1 K (fun x H Q => rAny K [x] H Q) gAny := fun {F H v x z Q} e a h k => by
  obtain ⟨l, hl, h⟩ := Option.bind_eq_some_iff.mp h
  obtain ⟨ns, hn, rfl⟩ := Option.map_eq_some_iff.mp h
  obtain ⟨p, vs, rfl, h1, r1⟩ := a.asL e hl
  rw [r1.boolsOf hn] at h1
  exact ⟨p, ns, rfl, .of h1, op_same e k (.bl _)⟩
theorem maxI_spec : ∀ (l : List Int) (a : Int), maxI a l ∈ a :: l ∧ ∀ y ∈ a :: l, y ≤ maxI a l
  | [], a => ⟨by simp [maxI], by simp [maxI]⟩
  | b :: l, a => by
    obtain ⟨h1, h2⟩ := maxI_spec l (if a < b then b else a)
    have e : maxI a (b :: l) = maxI (if a < b then b else a) l := rfl
    rw [e]
    refine ⟨?_, fun y hy => ?_⟩
    · rcases List.mem_cons.mp h1 with q | q
      · rw [q]; split <;> simp
      · exact List.mem_cons_of_mem _ (List.mem_cons_of_mem _ q)
    · have h0 := h2 (if a < b then b else a) List.mem_cons_self
      rcases List.mem_cons.mp hy with rfl | hy
      · split at h0 <;> split <;> omega
      · rcases List.mem_cons.mp hy with rfl | hy
        · split at h0 <;> split <;> omega
        · exact h2 y (List.mem_cons_of_mem _ hy)
theorem minI_spec : ∀ (l : List Int) (a : Int), minI a l ∈ a :: l ∧ ∀ y ∈ a :: l, minI a l ≤ y
  | [], a => ⟨by simp [minI], by simp [minI]⟩
  | b :: l, a => by
    obtain ⟨h1, h2⟩ := minI_spec l (if b < a then b else a)
    have e : minI a (b :: l) = minI (if b < a then b else a) l := rfl
    rw [e]
    refine ⟨?_, fun y hy => ?_⟩
    · rcases List.mem_cons.mp h1 with q | q
      · rw [q]; split <;> simp
      · exact List.mem_cons_of_mem _ (List.mem_cons_of_mem _ q)
    · have h0 := h2 (if b < a then b else a) List.mem_cons_self
      rcases List.mem_cons.mp hy with rfl | hy
      · split at h0 <;> split <;> omega
      · rcases List.mem_cons.mp hy with rfl | hy
        · split at h0 <;> split <;> omega
        · exact h2 y (List.mem_cons_of_mem _ hy)
theorem o_maxL : Op1 K (fun x H Q => rMax K [x] H Q) gMaxL := fun {F H v x z Q} e a h k => by
  obtain ⟨l, hl, h⟩ := Option.bind_eq_some_iff.mp h
  obtain ⟨ns, hn, h⟩ := Option.bind_eq_some_iff.mp h
  obtain ⟨p, vs, rfl, h1, r1⟩ := a.asL e hl
  rw [r1.intsOf hn] at h1
  cases ns with
  | nil => cases h
  | cons n r =>
    cases h
    refine ⟨p, n :: r, rfl, .of h1, by simp, fun m hm hle => ?_⟩
    obtain ⟨h3, h4⟩ := maxI_spec r n
    rw [show m = maxI n r from Int.le_antisymm (h4 m hm) (hle _ h3)]
    exact op_same e k (.int _)
theorem o_minL : Op1 K (fun x H Q => rMin K [x] H Q) gMinL := fun {F H v x z Q} e a h k => by
  obtain ⟨l, hl, h⟩ := Option.bind_eq_some_iff.mp h
  obtain ⟨ns, hn, h⟩ := Option.bind_eq_some_iff.mp h
  obtain ⟨p, vs, rfl, h1, r1⟩ := a.asL e hl
  rw [r1.intsOf hn] at h1
  cases ns with
  | nil => cases h
  | cons n r =>
    cases h
    refine ⟨p, n :: r, rfl, .of h1, by simp, fun m hm hle => ?_⟩
    obtain ⟨h3, h4⟩ := minI_spec r n
    rw [show m = minI n r from Int.le_antisymm (hle _ h3) (h4 m hm)]
    exact op_same e k (.int _)
theorem o_max2 : Op2 K (fun x y H Q => ∃ i j, [x, y] = [.int i, .int j] ∧ Q (.int (if j > i then j else i)) H) gMax2 := fun {F H v u x y z Q} e a b h k => by
  cases x with
  | int i =>
    cases y with
    | int j =>
      cases h
      exact ⟨i, j, by rw [a.int, b.int], op_same e k (.int _)⟩
    | _ => cases h
  | _ => cases h
theorem o_min2 : Op2 K (fun x y H Q => ∃ i j, [x, y] = [.int i, .int j] ∧ Q (.int (if j < i then j else i)) H) gMin2 := fun {F H v u x y z Q} e a b h k => by
  cases x with
  | int i =>
    cases y with
    | int j =>
      cases h
      exact ⟨i, j, by rw [a.int, b.int], op_same e k (.int _)⟩
    | _ => cases h
  | _ => cases h

/-! ### isinstance -/
def rIsa (K : PySem.W.Frag) (T : String) (p : Py → Bool) : List V → Hp → VK → Prop := fun xs H Q => ∃ x d, xs = [x, .ty T] ∧ Dp K H x d ∧ Q (.bl (p d)) H
theorem call_isa {T : String} {p : Py → Bool} (h : ∀ {s : Shared} {v : Value} {d : Py} {as : List Addr} {E : Value → Shared → Prop} {Q : Value → Shared → Prop}, Reads s.heap v d as → (∀ tk, s.toks ≤ tk → Q (.bool (p d)) { s with toks := tk }) → wpAny (model X.prog X.w) X.A (call (.builtin "isinstance") [v, .type T]) Q E s) :
    CallR X (.builtin "isinstance") (rIsa X.K T p) := by
  intro pins s σ H xs us Q I r q
  obtain ⟨x, d, rfl, hd, q⟩ := q
  obtain ⟨u, w, rfl, r1, r2⟩ := vals2 r
  obtain ⟨as, rd⟩ := Dp.reads I d x u hd r1
  cases r2
  exact h rd fun tk _ => ⟨.bl _, H, I.tok tk, rfl, q⟩
theorem isa_int : CallR X (.builtin "isinstance") (rIsa X.K "int" PyData.isInt) := call_isa fun r h => PySem.W.isinstance_int_data r h
theorem isa_bool : CallR X (.builtin "isinstance") (rIsa X.K "bool" PyData.isBool) := call_isa fun r h => PySem.W.isinstance_bool_data r h
theorem isa_str : CallR X (.builtin "isinstance") (rIsa X.K "str" PyData.isStr) := call_isa fun r h => PySem.W.isinstance_str_data r h
theorem isa_list : CallR X (.builtin "isinstance") (rIsa X.K "list" PyData.isList) := call_isa fun r h => PySem.W.isinstance_list_data r h
theorem isa_tuple : CallR X (.builtin "isinstance") (rIsa X.K "tuple" PyData.isTuple) := call_isa fun r h => PySem.W.isinstance_tuple_data r h
theorem d_isa {pn : List Nat} {e : Expr} {m : M Py} {T : String} {p : Py → Bool} {x : Str} {pp cpos tp : Pos} (hc : CallR X (.builtin "isinstance") (rIsa X.K T p)) (hg : Gl X "isinstance") (hm : X.mg "isinstance" = none) (hg2 : Gl X x) (hm2 : X.mg x = none) (hv : bootBuiltins x = some (.type T)) (ha : DB X pn e m)
    (hs : starEach [e, .Name x tp] X.env = (false, eval e X.env) :: starEach [.Name x tp] X.env := by rfl) (hs2 : starEach [.Name x tp] X.env = [(false, eval (.Name x tp) X.env)] := by rfl) (hn : x ≠ "__name__" := by decide) (hdb : (x == ("__debug__" : Str)) = false := by decide) :
    DE X pn (.Call (.Name "isinstance" pp) [e, .Name x tp] [] cpos) (mOp1 (gIsa p) m) := pe_to (pe_callB hc hg hm (by decide +kernel) (pa_cons ha (pa_cons (pe_bltn (v := .ty T) hg2 hm2 hv rfl hn hdb) pa_nil hs2) hs) (by decide) (by decide) hs (by rw [hs2]; rfl)) fun σ H Q ⟨G, pa, F, ρ, d, ρ', R, q, k⟩ => by
  obtain ⟨y, ρ1, h1, q⟩ := bnd_some q
  obtain ⟨h3, rfl⟩ := lif_some q
  obtain ⟨hp, rfl⟩ := ite_some h3
  refine ⟨G, pa, F, ρ, y, _, R, h1, fun v F1 H1 s1 R1 p1 => ⟨v, y, rfl, Bw.dp R1.ex p1 hp, k _ F1 H1 s1 R1 (.bl _)⟩⟩

/-! ### sorted -/
def rSortP (K : PySem.W.Frag) : List V → Hp → VK → Prop := fun xs H Q => ∃ (a : Addr) (vs : List V) (ds : List Py), xs = [.ref a] ∧ SqL K H a vs ∧ DpAll K H vs ds ∧ alikeOk ds = true ∧ sortOk ds = true ∧ ds.length ≤ 16777216 ∧ PyData.depthAll ds ≤ 64 ∧
  ∀ p (zs : List (Py × V)), H p = none → zs.Perm (ds.zip vs) → zs.map (·.1) = sorted ds → Q (.ref p) (upd H p (.lst (zs.map (·.2))))
theorem dpA_len {H : Hp} : ∀ {vs : List V} {ds : List Py}, DpAll K H vs ds → vs.length = ds.length
  | _, _, .nil => rfl
  | _, _, .cons _ b => by rw [List.length_cons, List.length_cons, dpA_len b]
theorem depth_mem : ∀ {ds : List Py} {d : Py}, d ∈ ds → d.depth ≤ PyData.depthAll ds
  | [], _, h => by simp at h
  | x :: xs, d, h => by
    show d.depth ≤ max x.depth (PyData.depthAll xs)
    rcases List.mem_cons.mp h with rfl | h
    · exact Nat.le_max_left _ _
    · exact Nat.le_trans (depth_mem h) (Nat.le_max_right _ _)
theorem each_of {s : Shared} {pins : List (Addr × Obj)} {σ : L2.St} {H : Hp} (I : Inv X pins σ H s) : ∀ {vs : List V} {ds : List Py} {us : List Value}, DpAll X.K H vs ds → Vals vs us → PySem.W.EachIs (fun v (b : Py × V) => RelV b.2 v) us (ds.zip vs) ∧ PySem.W.EachIs (fun v (b : Py × V) => ∃ as, Reads s.heap v b.1 as) us (ds.zip vs)
  | _, _, _, .nil, .nil => ⟨.nil, .nil⟩
  | _, _, _, .cons a b, .cons r t => by
    obtain ⟨h1, h2⟩ := each_of I b t
    exact ⟨.cons r h1, .cons (Dp.reads I _ _ _ a r) h2⟩
theorem vals_each : ∀ {us : List Value} {zs : List (Py × V)}, PySem.W.EachIs (fun v (b : Py × V) => RelV b.2 v) us zs → Vals (zs.map (·.2)) us
  | _, _, .nil => .nil
  | _, _, .cons a b => .cons a (vals_each b)
theorem zip_fst : ∀ {ds : List Py} {vs : List V}, vs.length = ds.length → (ds.zip vs).map (·.1) = ds := fun h => List.map_fst_zip (Nat.le_of_eq h.symm)
theorem zip_snd : ∀ {ds : List Py} {vs : List V}, vs.length = ds.length → (ds.zip vs).map (·.2) = vs := fun h => List.map_snd_zip (Nat.le_of_eq h)
theorem cr_sortP (hu : X.A.units + 70 < cLine) : CallR X (.builtin "sorted") (rSortP X.K) := by
  intro pins s σ H xs us Q I r h
  obtain ⟨a, vs, ds, rfl, hl, hd, h1, h2, h3, h4, q⟩ := h
  obtain ⟨its, rv, pl, hz⟩ := I.list hl
  rw [Vals.ref1 r]
  have hlen := dpA_len hd
  obtain ⟨e1, e2⟩ := each_of I hd rv
  have em : (ds.zip vs).map (·.1) = ds := zip_fst hlen
  have al : PySem.W.AllAlike ((ds.zip vs).map fun b => b.1) := by
    rw [em]
    intro d hd d' hd'
    have := List.all_eq_true.mp h1 d hd
    exact List.all_eq_true.mp this d' hd'
  have so : PySem.W.Sortable ((ds.zip vs).map fun b => b.1) := by
    rw [em]
    rcases Bool.or_eq_true_iff.mp h2 with z | z
    · refine .inl fun d hd => ?_
      have := List.all_eq_true.mp z d hd
      split at this
      · exact ⟨_, _, rfl⟩
      · cases this
    · refine .inr fun d hd => ?_
      have := List.all_eq_true.mp z d hd
      split at this
      · cases this
      · cases this
      · rename_i n1 n2
        exact ⟨fun z => n2 z, fun xs z => n1 xs z⟩
  have zl : (ds.zip vs).length = ds.length := by rw [List.length_zip]; omega
  refine PySem.W.sorted_data (enc := fun b : Py × V => b.1) pl.isList e1 e2 al so (by rw [zl]; exact h3) (fun b hb => ?_) fun out ho he => ?_
  · have hm : b.1 ∈ ds := by
      rw [← em]
      exact List.mem_map_of_mem hb
    have := depth_mem hm
    omega
  · obtain ⟨ep, he'⟩ := PyProof.Rows.sortedAll_at s.heap its out.toArray
    have hv := vals_each he
    have hlo : ((List.mergeSort (ds.zip vs) (PySem.W.dataLe false fun b : Py × V => b.1)).map (·.2)).length ≤ sizeLine := by
      rw [List.length_map, List.length_mergeSort, zl]
      exact line24 h3
    refine ⟨.ref _, upd H (s.heap.objs.size + 1) (.lst _), I.laid (t' := s.toks) (fun _ _ => PyProof.Rows.sortedAll_old) (Nat.le_succ _) ⟨hlo, out, ep, hv, he'⟩, rfl, q _ _ (I.hok.fresh (Nat.le_succ _)) (List.mergeSort_perm _ _) ?_⟩
    refine (PySem.W.sort_maps (r := PySem.W.dataLe false fun b : Py × V => b.1) (s := PySem.W.dataLe false id) (fun b : Py × V => b.1) (fun a _ b _ => rfl)).trans ?_
    show ((ds.zip vs).map (·.1)).mergeSort (PySem.W.dataLe false id) = sorted ds
    rw [em]
    rfl
theorem rpL_at : ∀ {F : Hp} {zs : List (Py × V)}, (∀ b ∈ zs, Rp K F b.2 b.1) → RpL K F (zs.map (·.2)) (zs.map (·.1))
  | _, [], _ => .nil
  | _, b :: zs, h => .cons (h b List.mem_cons_self) (rpL_at fun c hc => h c (List.mem_cons_of_mem _ hc))
theorem rpL_zip : ∀ {F : Hp} {vs : List V} {ds : List Py}, RpL K F vs ds → ∀ b ∈ ds.zip vs, Rp K F b.2 b.1
  | _, _, _, .nil, b, h => by simp at h
  | _, _, _, .cons a t, b, h => by
    rw [List.zip_cons_cons] at h
    rcases List.mem_cons.mp h with rfl | h
    · exact a
    · exact rpL_zip t b h
theorem o_sorted : Op1N K C.ml (fun x H Q => rSortP K [x] H Q) gSorted := fun {F H v x z Q} e a h k => by
  obtain ⟨l, hl, h⟩ := Option.bind_eq_some_iff.mp h
  obtain ⟨⟨h1, h2, h3, h4, h5⟩, rfl⟩ := ite_some h
  obtain ⟨p, vs, rfl, q1, r1⟩ := a.asL e hl
  refine ⟨p, vs, l, rfl, .of q1, dpAll_of e l vs r1 h5, h1, h2, h3, h4, fun b zs hb pm em => ?_⟩
  refine k b _ _ (Grow.lay e hb _) hb ?_
  rw [← em]
  exact own_new e hb (rpL_at fun c hc => rpL_zip r1 c (pm.mem_iff.mp hc))

/-! ### lists that are joined -/
theorem l_cat {pn : List Nat} {a b : Expr} {pos : Pos} {ma mb : M Py} (ha : DE X pn a ma) (hb : DB X pn b mb) : DLi X pn (.BinOp a .Add b pos) (mCatL ma mb) := pe_to (pe_op op_cat ha hb) fun σ H Q ⟨G, pa, F, ρ, d, ρ', R, q, k⟩ => by
  obtain ⟨x, ρ1, h1, q⟩ := bnd_some q
  obtain ⟨y, ρ2, h2, q⟩ := bnd_some q
  obtain ⟨h3, rfl⟩ := lif_some q
  obtain ⟨l, hl, h3⟩ := Option.bind_eq_some_iff.mp h3
  obtain ⟨r, hr, h3⟩ := Option.bind_eq_some_iff.mp h3
  obtain ⟨hz, rfl⟩ := ite_some h3
  refine ⟨G, pa, F, ρ, x, ρ1, R, h1, fun v F1 H1 s1 R1 p1 => ⟨G, pa, F1, ρ1, y, _, R1, h2, fun u F2 H2 s2 R2 p2 => ?_⟩⟩
  obtain ⟨p, vs, rfl, q1, r1⟩ := Bw.asL R2.ex (.inl (Rp.mono s2 p1)) hl
  obtain ⟨p', ws, rfl, q2, r2⟩ := Bw.asL R2.ex p2 hr
  refine ⟨p, p', vs, ws, rfl, rfl, q1, q2, by rw [r1.len, r2.len]; exact line24 hz, fun c hc => ?_⟩
  exact n_of R2 (fun w F' H' s => k w F' H' (s1.trans (s2.trans s))) (Grow.lay R2.ex hc _) hc (own_new R2.ex hc (r1.app r2))
theorem l_catV {pn : List Nat} {a b : Expr} {pos : Pos} {mb : M Py} (i : Nat) (ha : PE X a (tVar i)) (hb : DE X pn b mb) : DLi X pn (.BinOp a .Add b pos) (bnd (mPk i) fun _ => bnd mb fun y => bnd (mPk i) fun x => lif ((asL x).bind fun l => (asL y).bind fun r => if l.length + r.length ≤ 16777216 then some (l ++ r) else none)) := pe_to (pe_op op_cat ha hb) fun σ H Q ⟨G, pa, F, ρ, d, ρ', R, q, k⟩ => by
  obtain ⟨x0, ρ0, h0, q⟩ := bnd_some q
  obtain ⟨y, ρ2, h2, q⟩ := bnd_some q
  obtain ⟨x, ρ1, h1, q⟩ := bnd_some q
  obtain ⟨h3, rfl⟩ := lif_some q
  obtain ⟨l, hl, h3⟩ := Option.bind_eq_some_iff.mp h3
  obtain ⟨r, hr, h3⟩ := Option.bind_eq_some_iff.mp h3
  obtain ⟨hz, rfl⟩ := ite_some h3
  obtain ⟨rfl, v, e, _⟩ := peek_ok R h0
  refine ⟨v, e, G, pa, F, ρ0, y, ρ2, R, h2, fun u F2 H2 s2 R2 p2 => ?_⟩
  obtain ⟨rfl, v', e', b'⟩ := peek_ok R2 h1
  rw [e] at e'
  cases e'
  obtain ⟨p, vs, rfl, q1, r1⟩ := Bw.asL R2.ex b' hl
  obtain ⟨p', ws, rfl, q2, r2⟩ := Bw.asL R2.ex (.inl p2) hr
  refine ⟨p, p', vs, ws, rfl, rfl, q1, q2, by rw [r1.len, r2.len]; exact line24 hz, fun c hc => ?_⟩
  exact n_of R2 (fun w F' H' s => k w F' H' (s2.trans s)) (Grow.lay R2.ex hc _) hc (own_new R2.ex hc (r1.app r2))
/-- sep.join(xs) -/
theorem d_join {pn : List Nat} {o e : Expr} {apos pos : Pos} {ma mb : M Py} (ha : DE X pn o ma) (hb : DB X pn e mb) (hs : starEach [e] X.env = [(false, eval e X.env)] := by rfl) (hbase : attributeBase o "join" X.env (eval o X.env) = eval o X.env := by rfl) (hline : (apos.endLine == pos.line) = true := by rfl) :
    DE X pn (.Call (.Attribute o "join" apos) [e] [] pos) (mOp2 gJoin ma mb) := pe_to (pe_join ha hb hs hbase hline) fun σ H Q ⟨G, pa, F, ρ, d, ρ', R, q, k⟩ => by
  obtain ⟨x, ρ1, h1, q⟩ := bnd_some q
  obtain ⟨y, ρ2, h2, q⟩ := bnd_some q
  obtain ⟨h3, rfl⟩ := lif_some q
  refine ⟨G, pa, F, ρ, x, ρ1, R, h1, fun v F1 H1 s1 R1 p1 => ?_⟩
  cases x with
  | str s =>
    cases y with
    | list l =>
      have h3 : ((strsOf l).bind fun ys => if (ys.map (·.length)).sum + ys.length * s.length ≤ 16777216 then some (PyData.str (PySem.Str.join s ys)) else none) = some d := h3
      obtain ⟨ys, hy, h3⟩ := Option.bind_eq_some_iff.mp h3
      obtain ⟨hz, rfl⟩ := ite_some h3
      cases p1
      refine ⟨⟨_, rfl⟩, G, pa, F1, ρ1, _, _, R1, h2, fun u F2 H2 s2 R2 p2 => ?_⟩
      obtain ⟨p, vs, rfl, q1, r1⟩ := Bw.list R2.ex p2
      rw [r1.strsOf hy] at q1
      refine ⟨s, p, ys, rfl, rfl, .inl (.of q1), hz, ?_⟩
      rw [TL.join_eq]
      exact k _ F2 H2 (s1.trans s2) R2 (.str _)
    | _ => cases h3
  | _ => cases y <;> cases h3
end
end DL

set_option maxRecDepth 100000
/-! DLR4: targets, statements, loops, comprehensions, defs. -/
namespace DL
open PySem L2

/-! ### targets -/
def Rgt (K : PySem.W.Frag) (pn : List Nat) (t : T) : TG := fun v σ H Q => ∃ G pa F ρ d ρ', RS K pn G pa F H ρ σ ∧ Rp K F v d ∧ t d ρ = some ((), ρ') ∧ ∀ σ', RS K pn G pa F H ρ' σ' → Q σ' H
def Rgs (K : PySem.W.Frag) (pn : List Nat) (t : List Py → M Unit) : TGs := fun vs σ H Q => ∃ G pa F ρ ds ρ', RS K pn G pa F H ρ σ ∧ RpL K F vs ds ∧ t ds ρ = some ((), ρ') ∧ ∀ σ', RS K pn G pa F H ρ' σ' → Q σ' H
def DG (X : Cx) (pn : List Nat) (tg : Expr) (t : T) : Prop := PG X tg (Rgt X.K pn t)
def DGs (X : Cx) (pn : List Nat) (ts : List Expr) (t : List Py → M Unit) : Prop := PGs X ts (Rgs X.K pn t)
section
variable {X : Cx} {pn : List Nat} {e : Expr} {es : List Expr} {pos : Pos}
theorem pg_to {tg : Expr} {t t' : TG} (h : PG X tg t) (k : ∀ v σ H Q, t' v σ H Q → t v σ H Q) : PG X tg t' := ⟨fun pins s σ H v u Q I r q => h.run pins s σ H v u Q I r (k v σ H Q q)⟩
theorem pgs_to {tg : List Expr} {t t' : TGs} (h : PGs X tg t) (k : ∀ v σ H Q, t' v σ H Q → t v σ H Q) : PGs X tg t' := ⟨fun pins s σ H v u Q I r q => h.run pins s σ H v u Q I r (k v σ H Q q)⟩
theorem setC_ok {i : Nat} {c : C} {ρ ρ' : Rho} {u : Unit} (h : setC i c ρ = some (u, ρ')) : ρ' = ρ.set i c := by
  cases h
  rfl
theorem g_name (i : Nat) {x : Str} (hN : X.N.Nodup) (hx : Loc X.env.scope x) (hi : X.N[i]? = some x := by rfl) (hp : i ∉ pn := by decide) (hf : X.fn x = true ∨ X.env.scope.names.lookup x = some .local := by first | exact .inl rfl | exact .inr rfl | assumption) :
    DG X pn (.Name x pos) (tName i) := pg_to (pg_name hN hi hx hf) fun v σ H Q ⟨G, pa, F, ρ, d, ρ', R, r, q, k⟩ => by
  rw [setC_ok q] at k
  exact k _ (R.put hp r)
theorem gs_nil : DGs X pn [] tsNil := pgs_to pgs_nil fun v σ H Q ⟨G, pa, F, ρ, d, ρ', R, r, q, k⟩ => by
  cases r with
  | nil =>
    cases q
    exact ⟨rfl, k _ R⟩
  | cons _ _ => cases q
theorem gs_cons {t : T} {r : List Py → M Unit} (h1 : DG X pn e t) (h2 : DGs X pn es r) (hs : (assignEach (e :: es) X.env).map (·.2) = assign e X.env :: (assignEach es X.env).map (·.2) := by rfl) : DGs X pn (e :: es) (tsCons t r) := pgs_to (pgs_cons h1 h2 hs) fun v σ H Q ⟨G, pa, F, ρ, d, ρ', R, rp, q, k⟩ => by
  cases rp with
  | nil => cases q
  | cons a b =>
    obtain ⟨_, ρ1, q1, q2⟩ := bnd_some (show bnd (t _) (fun _ => r _) ρ = some ((), ρ') from q)
    exact ⟨_, _, rfl, G, pa, F, ρ, _, ρ1, R, a, q1, fun σ1 R1 => ⟨G, pa, F, ρ1, _, _, R1, b, q2, k⟩⟩
theorem g_tup {n : Nat} {kk : Nat} {r : List Py → M Unit} (hc : X.calm = true) (h : DGs X pn es r) (hn : (assignEach es X.env).length = n := by rfl) (hst : (assignEach es X.env).findIdx? (·.1) = none := by rfl) : DG X pn (.Tuple es kk pos) (tTup n r) := by
  refine pg_to (pg_tup hc h hn hst) fun v σ H Q ⟨G, pa, F, ρ, d, ρ', R, rp, q, k⟩ => ?_
  cases d with
  | tuple l =>
    have q : (if l.length = n then r l else lif none) ρ = some ((), ρ') := q
    by_cases hl : l.length = n
    · rw [if_pos hl] at q
      cases rp with
      | tup s rl => exact ⟨_, _, rfl, Same.sqt R.ex s, by rw [rl.len]; exact hl, G, pa, F, ρ, l, ρ', R, rl, q, k⟩
    · rw [if_neg hl] at q
      cases q
  | _ => cases q
end

/-! ### statements -/
def EndOk (K : PySem.W.Frag) (F : Hp) (D : Ends) (σ : L2.St) (H : Hp) : Fl → Prop
  | .nx => D.nx σ H
  | .bk => D.bk σ H
  | .ct => D.ct σ H
  | .rt d => ∀ v, Rp K F v d → D.rt v H
def Rst (K : PySem.W.Frag) (pn : List Nat) (m : S) : TS := fun D σ H => ∃ G pa F ρ fl ρ', RS K pn G pa F H ρ σ ∧ m ρ = some (fl, ρ') ∧ ∀ σ' F' H', Same F F' → RS K pn G pa F' H' ρ' σ' → EndOk K F' D σ' H' fl
def DS (X : Cx) (pn : List Nat) (st : Stmt) (m : S) : Prop := PS X st (Rst X.K pn m)
def DSs (X : Cx) (pn : List Nat) (st : List Stmt) (m : S) : Prop := PSs X st (Rst X.K pn m)
section
variable {X : Cx} {pn : List Nat} {e a b : Expr} {es : List Expr} {pos : Pos} {st : Stmt} {sts : List Stmt} {ma mb : M Py} {m n : S}
theorem ps_to {t t' : TS} (h : PS X st t) (k : ∀ D σ H, t' D σ H → t D σ H) : PS X st t' := ⟨fun pins s σ H D I q => h.run pins s σ H D I (k D σ H q)⟩
theorem pss_to {t t' : TS} (h : PSs X sts t) (k : ∀ D σ H, t' D σ H → t D σ H) : PSs X sts t' := ⟨fun pins s σ H D I q => h.run pins s σ H D I (k D σ H q)⟩
theorem ss_nil : DSs X pn [] sNext := pss_to pss_nil fun D σ H ⟨G, pa, F, ρ, fl, ρ', R, q, k⟩ => by
  obtain ⟨rfl, rfl⟩ := ret_some q
  exact k σ F H (.refl _) R
theorem ss_one (h : DS X pn st m) : DSs X pn [st] m := pss_one h
theorem seq_ok {K : PySem.W.Frag} : ∀ D σ H, Rst K pn (sSeq m n) D σ H → tSeq (Rst K pn m) (Rst K pn n) D σ H := fun D σ H ⟨G, pa, F, ρ, fl, ρ', R, q, k⟩ => by
  obtain ⟨⟨f1, ρ1⟩, h1, h2⟩ := Option.bind_eq_some_iff.mp q
  cases f1 with
  | nx => exact ⟨G, pa, F, ρ, _, ρ1, R, h1, fun σ1 F1 H1 s1 R1 => ⟨G, pa, F1, ρ1, fl, ρ', R1, h2, fun σ2 F2 H2 s2 R2 => k σ2 F2 H2 (s1.trans s2) R2⟩⟩
  | rt d =>
    cases h2
    exact ⟨G, pa, F, ρ, _, ρ1, R, h1, fun σ1 F1 H1 s1 R1 => k σ1 F1 H1 s1 R1⟩
  | bk =>
    cases h2
    exact ⟨G, pa, F, ρ, _, ρ1, R, h1, fun σ1 F1 H1 s1 R1 => k σ1 F1 H1 s1 R1⟩
  | ct =>
    cases h2
    exact ⟨G, pa, F, ρ, _, ρ1, R, h1, fun σ1 F1 H1 s1 R1 => k σ1 F1 H1 s1 R1⟩
theorem ss_cons (h : DS X pn st m) (hr : DSs X pn sts n) : DSs X pn (st :: sts) (sSeq m n) := pss_to (pss_cons h hr) seq_ok
/-- x = e, t[..] = e .. -/
theorem s_asg {tg : Expr} {t : T} (h : DE X pn e ma) (hg : DG X pn tg t) (hs : swapsWithSole [tg] e pos.line X.env = pure false := by rfl) (hw : swappedStores [tg] e X.env = pure none := by rfl) (h1 : (assignEach [tg] X.env).map (·.2) = [assign tg X.env] := by rfl) : DS X pn (.Assign [tg] e pos) (sAsg ma t) := ps_to (ps_asg h hg hs hw h1) fun D σ H ⟨G, pa, F, ρ, fl, ρ', R, q, k⟩ => by
  obtain ⟨d, ρ1, h1, q⟩ := bnd_some q
  obtain ⟨_, ρ2, h2, q⟩ := bnd_some q
  obtain ⟨rfl, rfl⟩ := ret_some q
  exact ⟨G, pa, F, ρ, d, ρ1, R, h1, fun v F1 H1 s1 R1 p1 => ⟨G, pa, F1, ρ1, d, _, R1, p1, h2, fun σ2 R2 => k σ2 F1 H1 s1 R2⟩⟩
theorem put_ok {K : PySem.W.Frag} {i : Nat} {m : M Py} (hi : i ∉ pn) : ∀ D σ H, Rst K pn (sAsg m (tName i)) D σ H → tAsg (Rdg K pn (wE K) m) (gName i) D σ H := fun D σ H ⟨G, pa, F, ρ, fl, ρ', R, q, k⟩ => by
  obtain ⟨d, ρ1, h1, q⟩ := bnd_some q
  obtain ⟨_, ρ2, h2, q⟩ := bnd_some q
  obtain ⟨rfl, rfl⟩ := ret_some q
  rw [setC_ok h2] at k
  exact ⟨G, pa, F, ρ, d, ρ1, R, h1, fun v F1 H1 s1 R1 p1 => k _ F1 H1 s1 (R1.put hi p1)⟩
theorem s_set {i : Nat} {x : Str} {pos' : Pos} (h : DE X pn e ma) (hN : X.N.Nodup) (hx : Loc X.env.scope x) (hi : X.N[i]? = some x := by rfl) (hp : i ∉ pn := by decide) (hf : X.fn x = true ∨ X.env.scope.names.lookup x = some .local := by first | exact .inl rfl | exact .inr rfl | assumption)
    (hs : swapsWith e (some (.Name x pos')) pos.line X.env = pure false := by rfl) : DS X pn (.Assign [.Name x pos'] e pos) (sAsg ma (tName i)) := ps_to (ps_set hN hi hx h hs hf) (put_ok hp)
theorem hold_ok {α : Type} {K : PySem.W.Frag} {i : Nat} {c : α → C} {m : M α} (hc : ∀ l, calmC (c l) = false) (hi : i ∉ pn) : ∀ D σ H, Rst K pn (bnd m fun l => bnd (setC i (c l)) fun _ => ret .nx) D σ H → tAsg (Rdg K pn (wN K c) m) (gName i) D σ H := fun D σ H ⟨G, pa, F, ρ, fl, ρ', R, q, k⟩ => by
  obtain ⟨d, ρ1, h1, q⟩ := bnd_some q
  obtain ⟨_, ρ2, h2, q⟩ := bnd_some q
  obtain ⟨rfl, rfl⟩ := ret_some q
  rw [setC_ok h2] at k
  refine ⟨G, pa, F, ρ, d, ρ1, R, h1, fun v F1 H1 s1 R1 p1 => ?_⟩
  obtain ⟨p, rfl, o, g1, g2⟩ := p1
  exact k _ F1 H1 s1 (R1.hold hi (hc d) o g1 g2)
/-- x = a new list that x alone holds -/
theorem s_asgL {i : Nat} {x : Str} {pos' : Pos} {ml : M (List Py)} (h : DLi X pn e ml) (hN : X.N.Nodup) (hx : Loc X.env.scope x) (hi : X.N[i]? = some x := by rfl) (hp : i ∉ pn := by decide) (hf : X.fn x = true ∨ X.env.scope.names.lookup x = some .local := by first | exact .inl rfl | exact .inr rfl | assumption)
    (hs : swapsWith e (some (.Name x pos')) pos.line X.env = pure false := by rfl) : DS X pn (.Assign [.Name x pos'] e pos) (sAsgL i ml) := ps_to (ps_set hN hi hx h hs hf) (hold_ok (fun _ => rfl) hp)
theorem s_asgD {i : Nat} {x : Str} {pos' : Pos} {ml : M (List (Py × Py))} (h : DDi X pn e ml) (hN : X.N.Nodup) (hx : Loc X.env.scope x) (hi : X.N[i]? = some x := by rfl) (hp : i ∉ pn := by decide) (hf : X.fn x = true ∨ X.env.scope.names.lookup x = some .local := by first | exact .inl rfl | exact .inr rfl | assumption)
    (hs : swapsWith e (some (.Name x pos')) pos.line X.env = pure false := by rfl) : DS X pn (.Assign [.Name x pos'] e pos) (sAsgD i ml) := ps_to (ps_set hN hi hx h hs hf) (hold_ok (fun _ => rfl) hp)
/-- a, b = x, y -/
theorem s_par {i j : Nat} {x y : Str} {px py pt : Pos} {kt k2 pt2} (hc : X.calm = true) (hN : X.N.Nodup) (hx : X.env.scope.names.lookup x = some .local) (hy : X.env.scope.names.lookup y = some .local) (ha : DE X pn a ma) (hb : DE X pn b mb)
    (hi : X.N[i]? = some x := by rfl) (hj : X.N[j]? = some y := by rfl) (hij : i ≠ j := by decide) (hp : i ∉ pn := by decide) (hp2 : j ∉ pn := by decide) (hw : swappedStores [.Tuple [.Name x px, .Name y py] kt pt] (.Tuple [a, b] k2 pt2) X.env = pure (some [x, y]) := by rfl)
    (hs : swapsWithSole [.Tuple [.Name x px, .Name y py] kt pt] (.Tuple [a, b] k2 pt2) pos.line X.env = pure false := by rfl) (h1 : starEach [a, b] X.env = (false, eval a X.env) :: starEach [b] X.env := by rfl) (h2 : starEach [b] X.env = [(false, eval b X.env)] := by rfl) :
    DS X pn (.Assign [.Tuple [.Name x px, .Name y py] kt pt] (.Tuple [a, b] k2 pt2) pos) (sPar i j ma mb) := ps_to (ps_par hc hN hi hj hij hx hy (pa_cons ha (pa_cons hb pa_nil h2) h1) hw hs) fun D σ H ⟨G, pa, F, ρ, fl, ρ', R, q, k⟩ => by
  obtain ⟨d, ρ1, h1, q⟩ := bnd_some q
  obtain ⟨f, ρ2, h2, q⟩ := bnd_some q
  obtain ⟨_, ρ3, h3, q⟩ := bnd_some q
  obtain ⟨_, ρ4, h4, q⟩ := bnd_some q
  obtain ⟨rfl, rfl⟩ := ret_some q
  rw [setC_ok h4, setC_ok h3] at k
  refine ⟨G, pa, F, ρ, d, ρ1, R, h1, fun v F1 H1 s1 R1 p1 => ⟨G, pa, F1, ρ1, f, ρ2, R1, h2, fun u F2 H2 s2 R2 p2 => ⟨v, u, rfl, ?_⟩⟩⟩
  exact k _ F2 H2 (s1.trans s2) ((R2.put hp (Rp.mono s2 p1)).put hp2 p2)
theorem s_expr (h : DE X pn e ma) (hs : swapsWith e none pos.line X.env = pure false := by rfl) : DS X pn (.Expr e pos) (sExpr ma) := ps_to (ps_expr h hs) fun D σ H ⟨G, pa, F, ρ, fl, ρ', R, q, k⟩ => by
  obtain ⟨d, ρ1, h1, q⟩ := bnd_some q
  obtain ⟨rfl, rfl⟩ := ret_some q
  exact ⟨G, pa, F, ρ, d, _, R, h1, fun v F1 H1 s1 R1 p1 => k σ F1 H1 s1 R1⟩
theorem s_ret (h : DE X pn e ma) : DS X pn (.Return (some e) pos) (sRet ma) := ps_to (ps_ret h) fun D σ H ⟨G, pa, F, ρ, fl, ρ', R, q, k⟩ => by
  obtain ⟨d, ρ1, h1, q⟩ := bnd_some q
  obtain ⟨rfl, rfl⟩ := ret_some q
  exact ⟨G, pa, F, ρ, d, _, R, h1, fun v F1 H1 s1 R1 p1 => k σ F1 H1 s1 R1 v p1⟩
theorem s_retN : DS X pn (.Return none pos) sRetN := ps_to ps_retN fun D σ H ⟨G, pa, F, ρ, fl, ρ', R, q, k⟩ => by
  obtain ⟨rfl, rfl⟩ := ret_some q
  exact k σ F H (.refl _) R _ .non
theorem s_pass : DS X pn (.Pass pos) sNext := ps_to ps_pass fun D σ H ⟨G, pa, F, ρ, fl, ρ', R, q, k⟩ => by
  obtain ⟨rfl, rfl⟩ := ret_some q
  exact k σ F H (.refl _) R
theorem s_brk : DS X pn (.Break pos) sBrk := ps_to ps_break fun D σ H ⟨G, pa, F, ρ, fl, ρ', R, q, k⟩ => by
  obtain ⟨rfl, rfl⟩ := ret_some q
  exact k σ F H (.refl _) R
theorem s_ct : DS X pn (.Continue pos) sCt := ps_to ps_continue fun D σ H ⟨G, pa, F, ρ, fl, ρ', R, q, k⟩ => by
  obtain ⟨rfl, rfl⟩ := ret_some q
  exact k σ F H (.refl _) R
theorem s_if {c : Expr} {x y : List Stmt} {mc : M Bool} (h : DT X pn c mc) (ha : DSs X pn x m) (hb : DSs X pn y n) : DS X pn (.If c x y pos) (sIf mc m n) := ps_to (ps_if h ha hb) fun D σ H ⟨G, pa, F, ρ, fl, ρ', R, q, k⟩ => by
  obtain ⟨z, ρ1, h1, q⟩ := bnd_some q
  refine ⟨G, pa, F, ρ, z, _, R, h1, fun v F1 H1 s1 R1 p1 => ?_⟩
  have p1 : z = v := p1
  subst p1
  cases z with
  | true =>
    rw [if_pos rfl] at q
    refine iteT ?_
    exact ⟨G, pa, F1, ρ1, fl, ρ', R1, q, fun σ2 F2 H2 s2 R2 => k σ2 F2 H2 (s1.trans s2) R2⟩
  | false =>
    rw [if_neg Bool.false_ne_true] at q
    refine iteF ?_
    exact ⟨G, pa, F1, ρ1, fl, ρ', R1, q, fun σ2 F2 H2 s2 R2 => k σ2 F2 H2 (s1.trans s2) R2⟩
/-- x += e -/
theorem s_aug {i : Nat} {x : Str} {op : Operator} {ti : R2} {g : Py → Py → Option Py} {pos' : Pos} (ho : OpR X (inplaceOp op) ti) (hr : Op2 X.K ti g) (hN : X.N.Nodup) (hx : Loc X.env.scope x) (h : DE X pn e ma) (hi : X.N[i]? = some x := by rfl) (hp : i ∉ pn := by decide)
    (hf : X.fn x = true ∨ X.env.scope.names.lookup x = some .local := by first | exact .inl rfl | exact .inr rfl | assumption) : DS X pn (.AugAssign (.Name x pos') op e pos) (sAug i g ma) := ps_to (ps_aug hN hi hx h ho hf) fun D σ H ⟨G, pa, F, ρ, fl, ρ', R, q, k⟩ => by
  obtain ⟨x0, h0, q⟩ := Option.bind_eq_some_iff.mp q
  obtain ⟨c, h1, h0⟩ := Option.bind_eq_some_iff.mp h0
  cases c with
  | val d =>
    cases h0
    obtain ⟨v, e1, r1⟩ := R.slot i _ h1
    obtain ⟨y, ρ1, h2, q⟩ := bnd_some q
    obtain ⟨z, ρ2, h3, q⟩ := bnd_some q
    obtain ⟨_, ρ3, h4, q⟩ := bnd_some q
    obtain ⟨rfl, rfl⟩ := ret_some q
    obtain ⟨h5, rfl⟩ := lif_some h3
    rw [setC_ok h4] at k
    refine ⟨v, e1, G, pa, F, ρ, y, _, R, h2, fun u F1 H1 s1 R1 p1 => ?_⟩
    exact hr R1.ex (.inl (Rp.mono s1 r1)) (.inl p1) h5 fun w F2 H2 g2 p2 => k _ F2 H2 (s1.trans g2.ff) ((R1.grow g2).put hp p2)
  | _ => cases h0

/-! ### what a name holds is changed -/
theorem asML_some {c : C} {l : List Py} (h : asML c = some l) : c = .ml l := by
  cases c <;> cases h
  rfl
theorem asMD_some {c : C} {l : List (Py × Py)} (h : asMD c = some l) : c = .md l := by
  cases c <;> cases h
  rfl
/-- the slot's value, known ahead: what stands at it later has its address -/
theorem getL_ok {K : PySem.W.Frag} {G : Hp} {pa : Nat → Addr} {F H : Hp} {ρ ρ' : Rho} {σ : L2.St} {i : Nat} {l : List Py} (R : RS K pn G pa F H ρ σ) (h : mGetL i ρ = some (l, ρ')) : ρ' = ρ ∧ ∃ a vs, σ[i]? = some (some (.ref a)) ∧ H a = some (.lst vs) ∧ RpL K F vs l ∧ F a = none ∧ Own ρ σ i a := by
  obtain ⟨l', hl, q⟩ := Option.bind_eq_some_iff.mp h
  obtain ⟨c, hc, hl⟩ := Option.bind_eq_some_iff.mp hl
  have hc' := asML_some hl
  subst hc'
  cases q
  obtain ⟨a, e, ⟨f, vs, q, r⟩, own⟩ := own_at R hc rfl
  exact ⟨rfl, a, vs, e, q, r, f, own⟩
/-- xs.append(e) -/
theorem s_app {i : Nat} {o : Expr} {apos cpos : Pos} (ho : PE X o (tVar i)) (h : DE X pn e ma) (hbase : attributeBase o "append" X.env (eval o X.env) = eval o X.env := by rfl)
    (hfew : ((backTo cpos (starEach [e] X.env)).all (fun x => !x.1) && (backToKw cpos (keywordEach [] X.env)).all (fun x => x.1.isSome)
      && decide ([e].length + ([] : List Keyword).length + (if ([] : List Keyword).isEmpty then 0 else 1) < 30)) = true := by rfl)
    (hline : (apos.endLine == cpos.line) = true := by rfl) (hs : starEach [e] X.env = [(false, eval e X.env)] := by rfl) (hpl : (backTo cpos (starEach [] X.env)).any (·.1) = false := by rfl)
    (hsw : swapsWith (.Call (.Attribute o "append" apos) [e] [] cpos) none pos.line X.env = pure false := by rfl) : DS X pn (.Expr (.Call (.Attribute o "append" apos) [e] [] cpos) pos) (sApp i ma) :=
  ps_to (ps_expr (pe_bm PySem.F.plainAttrs_list PySem.F.slot_list_append PySem.F.type_list_append mt_append ho (pa_cons h pa_nil hs) hbase hfew hline hs hpl) hsw) fun D σ H ⟨G, pa, F, ρ, fl, ρ', R, q, k⟩ => by
  obtain ⟨l0, ρ0, h0, q⟩ := bnd_some q
  obtain ⟨d, ρ1, h1, q⟩ := bnd_some q
  obtain ⟨l, ρ2, h2, q⟩ := bnd_some q
  obtain ⟨_, ρ3, h3, q⟩ := bnd_some q
  obtain ⟨_, ρ4, h4, q⟩ := bnd_some q
  obtain ⟨rfl, rfl⟩ := ret_some q
  obtain ⟨h5, rfl⟩ := lif_some h3
  have hz := (ite_some h5).1
  rw [setC_ok h4] at k
  obtain ⟨rfl, a, vs0, e0, q0, _⟩ := getL_ok R h0
  refine ⟨_, e0, .inl ⟨rfl, vs0, .of q0⟩, G, pa, F, _, d, ρ1, R, h1, fun v F1 H1 s1 R1 p1 => ?_⟩
  obtain ⟨rfl, a', vs, e1, q1, r1, f1, own⟩ := getL_ok R1 h2
  rw [e0] at e1
  cases e1
  exact ⟨a, vs, v, rfl, rfl, q1, by rw [r1.len]; exact hz, k _ F1 _ s1 (R1.turn own rfl ⟨f1, _, upd_same, r1.app (.cons p1 .nil)⟩)⟩
/-- xs.extend(ys), ys a list -/
theorem s_ext {i : Nat} {o : Expr} {apos cpos : Pos} (ho : PE X o (tVar i)) (h : DB X pn e ma) (hbase : attributeBase o "extend" X.env (eval o X.env) = eval o X.env := by rfl)
    (hfew : ((backTo cpos (starEach [e] X.env)).all (fun x => !x.1) && (backToKw cpos (keywordEach [] X.env)).all (fun x => x.1.isSome)
      && decide ([e].length + ([] : List Keyword).length + (if ([] : List Keyword).isEmpty then 0 else 1) < 30)) = true := by rfl)
    (hline : (apos.endLine == cpos.line) = true := by rfl) (hs : starEach [e] X.env = [(false, eval e X.env)] := by rfl) (hpl : (backTo cpos (starEach [] X.env)).any (·.1) = false := by rfl)
    (hsw : swapsWith (.Call (.Attribute o "extend" apos) [e] [] cpos) none pos.line X.env = pure false := by rfl) : DS X pn (.Expr (.Call (.Attribute o "extend" apos) [e] [] cpos) pos) (sExt i ma) :=
  ps_to (ps_expr (pe_bm PySem.F.plainAttrs_list PySem.F.slot_list_extend PySem.F.type_list_extend mt_extend ho (pa_cons h pa_nil hs) hbase hfew hline hs hpl) hsw) fun D σ H ⟨G, pa, F, ρ, fl, ρ', R, q, k⟩ => by
  obtain ⟨l0, ρ0, h0, q⟩ := bnd_some q
  obtain ⟨d, ρ1, h1, q⟩ := bnd_some q
  obtain ⟨l, ρ2, h2, q⟩ := bnd_some q
  obtain ⟨r, ρ3, h3, q⟩ := bnd_some q
  obtain ⟨_, ρ4, h4, q⟩ := bnd_some q
  obtain ⟨rfl, rfl⟩ := ret_some q
  obtain ⟨h5, rfl⟩ := lif_some h3
  obtain ⟨r', hr, h5⟩ := Option.bind_eq_some_iff.mp h5
  obtain ⟨hz, rfl⟩ := ite_some h5
  rw [setC_ok h4] at k
  obtain ⟨rfl, a, vs0, e0, q0, _⟩ := getL_ok R h0
  refine ⟨_, e0, .inl ⟨rfl, vs0, .of q0⟩, G, pa, F, _, d, ρ1, R, h1, fun v F1 H1 s1 R1 p1 => ?_⟩
  obtain ⟨rfl, a', vs, e1, q1, r1, f1, own⟩ := getL_ok R1 h2
  rw [e0] at e1
  cases e1
  obtain ⟨b, ws, rfl, q2, r2⟩ := Bw.asL R1.ex p1 hr
  exact ⟨a, b, vs, ws, rfl, rfl, q1, q2, by rw [r1.len, r2.len]; exact line24 hz, k _ F1 _ s1 (R1.turn own rfl ⟨f1, _, upd_same, r1.app r2⟩)⟩
/-- xs[j] = e -/
theorem s_setL {i : Nat} {o j : Expr} {tpos : Pos} {mj : M Py} (ho : PE X o (tVar i)) (hj : DE X pn j mj) (h : DE X pn e ma) (hs : swapsWithSole [.Subscript o j tpos] e pos.line X.env = pure false := by rfl) (hw : swappedStores [.Subscript o j tpos] e X.env = pure none := by rfl) (h1 : (assignEach [.Subscript o j tpos] X.env).map (·.2) = [assign (.Subscript o j tpos) X.env] := by rfl)
    (hass : ∀ v, assign (.Subscript o j tpos) X.env v = (do
      let ov ← holding [v] (eval o X.env)
      let iv ← holding [v, ov] (eval j X.env)
      standAt tpos
      holding [v, ov, iv] (setItem ov iv v)
      release [v, ov, iv] []) := by intro _; rfl) : DS X pn (.Assign [.Subscript o j tpos] e pos) (sSetL i ma mj) :=
  ps_to (ps_asg h (pg_sub ho hj set_list hass) hs hw h1) fun D σ H ⟨G, pa, F, ρ, fl, ρ', R, q, k⟩ => by
  obtain ⟨d, ρ1, h1, q⟩ := bnd_some q
  obtain ⟨l0, ρ0, h0, q⟩ := bnd_some q
  obtain ⟨jd, ρ5, h5, q⟩ := bnd_some q
  obtain ⟨l, ρ2, h2, q⟩ := bnd_some q
  obtain ⟨n, ρ3, h3, q⟩ := bnd_some q
  obtain ⟨_, ρ4, h4, q⟩ := bnd_some q
  obtain ⟨rfl, rfl⟩ := ret_some q
  obtain ⟨h6, rfl⟩ := lif_some h3
  obtain ⟨z, hz, h6⟩ := Option.bind_eq_some_iff.mp h6
  rw [setC_ok h4] at k
  refine ⟨G, pa, F, ρ, d, ρ1, R, h1, fun v F1 H1 s1 R1 p1 => ?_⟩
  obtain ⟨rfl, a, vs0, e0, q0, _⟩ := getL_ok R1 h0
  refine ⟨_, e0, G, pa, F1, _, jd, ρ5, R1, h5, fun u F2 H2 s2 R2 p2 => ?_⟩
  obtain ⟨rfl, a', vs, e1, q1, r1, f1, own⟩ := getL_ok R2 h2
  rw [e0] at e1
  cases e1
  cases jd with
  | int z' =>
    cases hz
    cases p2
    exact ⟨a, vs, _, n, rfl, rfl, q1, by rw [r1.len]; exact h6, k _ F2 _ (s1.trans s2) (R2.turn own rfl ⟨f1, _, upd_same, r1.set n (Rp.mono s2 p1)⟩)⟩
  | _ => cases hz

/-! ### what a loop goes through -/
/-- an iterator that gives the data xs one by one, while F and G stand -/
def Serves (K : PySem.W.Frag) (G F0 : Hp) (J : It) (xs : List Py) : Prop := ∀ (i : Nat) (F H : Hp), Same F0 F → Same F H → Same G H → (i = xs.length → J.stop i H) ∧
  ∀ d, xs[i]? = some d → J.go i H ∧ ∀ x H', J.yld i H x H' → ∃ F', Grow F H F' H' ∧ Rp K F' x d
def Rit (K : PySem.W.Frag) (pn : List Nat) (it : I) : TI := fun σ H R => ∃ G pa F ρ xs ρ', RS K pn G pa F H ρ σ ∧ it ρ = some (xs, ρ') ∧ ∀ J F1 H1, Same F F1 → RS K pn G pa F1 H1 ρ' σ → Serves K G F1 J xs → R J H1
def DI (X : Cx) (pn : List Nat) (tg e : Expr) (it : I) : Prop := PI X tg e (Rit X.K pn it)
theorem pi_to {tg : Expr} {t t' : TI} (h : PI X tg e t) (k : ∀ σ H R, t' σ H R → t σ H R) : PI X tg e t' := ⟨fun pins s σ H R I q => h.run pins s σ H R I (k σ H R q)⟩
theorem sqT_inj {K : PySem.W.Frag} {H : Hp} {a : Addr} {xs ys : List V} {R : Prop} (h : SqT K H a xs) : True := trivial
/-- a list that is a value -/
theorem i_list {tg : Expr} (h : DE X pn e ma) : DI X pn tg e (bnd ma fun x => lif (asL x)) := pi_to (pi_list h) fun σ H R' ⟨G, pa, F, ρ, xs, ρ', R, q, k⟩ => by
  obtain ⟨x, ρ1, h1, q⟩ := bnd_some q
  obtain ⟨h2, rfl⟩ := lif_some q
  refine ⟨G, pa, F, ρ, x, _, R, h1, fun v F1 H1 s1 R1 p1 => ?_⟩
  cases x with
  | list l =>
    cases h2
    cases p1 with
    | @lst a vs _ s r =>
      refine ⟨a, rfl, ⟨vs, .of (R1.ex _ _ s)⟩, k _ F1 H1 s1 R1 fun i F2 H2 t1 t2 _ => ?_⟩
      have hH : H2 a = some (.lst vs) := t2 _ _ (t1 _ _ s)
      refine ⟨fun hi => ⟨vs, .of hH, by rw [r.len]; omega⟩, fun d hd => ?_⟩
      obtain ⟨w, hw, rw'⟩ := r.get hd
      refine ⟨⟨vs, w, .of hH, hw⟩, fun x H' y => ?_⟩
      obtain ⟨rfl, y⟩ := y
      have := y vs (.of hH)
      rw [hw] at this
      cases this
      exact ⟨F2, .refl t2, rw'.mono t1⟩
  | _ => cases h2
/-- a tuple -/
theorem i_tup {tg : Expr} (h : DE X pn e ma) : DI X pn tg e (bnd ma fun x => lif (match x with | .tuple l => some l | _ => none)) := pi_to (pi_tup h) fun σ H R' ⟨G, pa, F, ρ, xs, ρ', R, q, k⟩ => by
  obtain ⟨x, ρ1, h1, q⟩ := bnd_some q
  obtain ⟨h2, rfl⟩ := lif_some q
  refine ⟨G, pa, F, ρ, x, _, R, h1, fun v F1 H1 s1 R1 p1 => ?_⟩
  cases x with
  | tuple l =>
    cases h2
    cases p1 with
    | @tup a vs _ s r =>
      refine ⟨a, rfl, ⟨vs, Same.sqt R1.ex s⟩, k _ F1 H1 s1 R1 fun i F2 H2 t1 t2 _ => ?_⟩
      have hH : SqT X.K H2 a vs := Same.sqt t2 (Same.sqt t1 s)
      refine ⟨fun hi => ⟨vs, hH, by rw [r.len]; omega⟩, fun d hd => ?_⟩
      obtain ⟨w, hw, rw'⟩ := r.get hd
      refine ⟨⟨vs, w, hH, hw⟩, fun x H' y => ?_⟩
      obtain ⟨rfl, y⟩ := y
      have := y vs hH
      rw [hw] at this
      cases this
      exact ⟨F2, .refl t2, rw'.mono t1⟩
  | _ => cases h2
theorem upto_get {lo : Int} {n i : Nat} {d : Py} (h : (upto lo n)[i]? = some d) : i < n ∧ d = .int (lo + (i : Nat)) := by
  unfold upto at h
  rw [List.getElem?_map] at h
  obtain ⟨j, hj, rfl⟩ := Option.map_eq_some_iff.mp h
  obtain ⟨hlt, e⟩ := List.getElem?_eq_some_iff.mp hj
  rw [List.length_range] at hlt
  rw [List.getElem_range] at e
  exact ⟨hlt, by rw [e]⟩
theorem serves_range {K : PySem.W.Frag} {G F : Hp} (lo : Int) (n : Nat) : Serves K G F (Itr lo n) (upto lo n) := fun i F2 H2 t1 t2 _ => by
  refine ⟨fun hi => ?_, fun d hd => ?_⟩
  · have : (upto lo n).length = n := by unfold upto; rw [List.length_map, List.length_range]
    rw [this] at hi
    exact Nat.le_of_eq hi.symm
  · obtain ⟨h1, rfl⟩ := upto_get hd
    refine ⟨h1, fun x H' y => ?_⟩
    obtain ⟨rfl, rfl⟩ := y
    exact ⟨F2, .refl t2, .int _⟩
theorem small_of {i : Int} (h : small i = true) : -(2 ^ 62) ≤ i ∧ i < 2 ^ 62 := by
  have := of_decide_eq_true h
  have e : (2 : Int) ^ 62 = 4611686018427387904 := by decide
  omega
theorem i_range1 {tg a : Expr} {p pos : Pos} (h : DE X pn a ma) (hg : Gl X "range") (hm : X.mg "range" = none) (hs : starEach [a] X.env = [(false, eval a X.env)] := by rfl) : DI X pn tg (.Call (.Name "range" p) [a] [] pos) (iRange1 ma) := pi_to (pi_range1 hg hm (pa_cons h pa_nil hs) hs) fun σ H R' ⟨G, pa, F, ρ, xs, ρ', R, q, k⟩ => by
  obtain ⟨x, ρ1, h1, q⟩ := bnd_some q
  obtain ⟨h2, rfl⟩ := lif_some q
  refine ⟨G, pa, F, ρ, x, _, R, h1, fun v F1 H1 s1 R1 p1 => ?_⟩
  cases x with
  | int n =>
    obtain ⟨hz, rfl⟩ := ite_some h2
    cases p1
    exact ⟨n, rfl, (small_of hz).1, (small_of hz).2, k _ F1 H1 s1 R1 (serves_range 0 n.toNat)⟩
  | _ => cases h2
theorem i_range2 {tg a b : Expr} {p pos : Pos} (h : DE X pn a ma) (hb : DE X pn b mb) (hg : Gl X "range") (hm : X.mg "range" = none) (hs : starEach [a, b] X.env = [(false, eval a X.env), (false, eval b X.env)] := by rfl) (hs2 : starEach [b] X.env = [(false, eval b X.env)] := by rfl)
    (hs3 : starEach [a, b] X.env = (false, eval a X.env) :: starEach [b] X.env := by rfl) : DI X pn tg (.Call (.Name "range" p) [a, b] [] pos) (iRange2 ma mb) := pi_to (pi_range2 hg hm (pa_cons h (pa_cons hb pa_nil hs2) hs3) hs hs2) fun σ H R' ⟨G, pa, F, ρ, xs, ρ', R, q, k⟩ => by
  obtain ⟨x, ρ1, h1, q⟩ := bnd_some q
  obtain ⟨y, ρ2, h3, q⟩ := bnd_some q
  obtain ⟨h2, rfl⟩ := lif_some q
  refine ⟨G, pa, F, ρ, x, _, R, h1, fun v F1 H1 s1 R1 p1 => ⟨G, pa, F1, ρ1, y, _, R1, h3, fun u F2 H2 s2 R2 p2 => ?_⟩⟩
  cases x with
  | int i =>
    cases y with
    | int j =>
      obtain ⟨⟨hz, hz2⟩, rfl⟩ := ite_some h2
      cases p1
      cases p2
      exact ⟨i, j, rfl, ⟨(small_of hz).1, (small_of hz).2, (small_of hz2).1, (small_of hz2).2⟩, k _ F2 H2 (s1.trans s2) R2 (serves_range i _)⟩
    | _ => cases h2
  | _ => cases h2
/-- a text, sign by sign -/
theorem i_str {tg : Expr} (h : DB X pn e ma) : DI X pn tg e (iStr ma) := pi_to (pi_str h) fun σ H R' ⟨G, pa, F, ρ, xs, ρ', R, q, k⟩ => by
  obtain ⟨x, ρ1, h1, q⟩ := bnd_some q
  obtain ⟨h2, rfl⟩ := lif_some q
  refine ⟨G, pa, F, ρ, x, _, R, h1, fun v F1 H1 s1 R1 p1 => ?_⟩
  obtain ⟨t, hs, rfl⟩ := Option.map_eq_some_iff.mp h2
  cases x with
  | str t' =>
    cases hs
    refine ⟨t, Bw.str p1, k _ F1 H1 s1 R1 fun i F2 H2 t1 t2 _ => ⟨fun hi => ?_, fun d hd => ?_⟩⟩
    · have : (signs t).length = t.cps.size := by unfold signs; rw [List.length_map, Array.length_toList]
      rw [this] at hi
      exact Nat.le_of_eq hi.symm
    · unfold signs at hd
      rw [List.getElem?_map] at hd
      obtain ⟨c, hc, rfl⟩ := Option.map_eq_some_iff.mp hd
      rw [Array.getElem?_toList] at hc
      refine ⟨(Array.getElem?_eq_some_iff.mp hc).1, fun x H' y => ?_⟩
      obtain ⟨rfl, c', hc', rfl⟩ := y
      rw [hc] at hc'
      cases hc'
      exact ⟨F2, .refl t2, .str _⟩
  | _ => cases hs
/-! ### for, while -/
theorem for_ok {K : PySem.W.Frag} {it : I} {t : T} {m : S} : ∀ D σ H, Rst K pn (sFor it t m) D σ H → tFor (Rit K pn it) (Rgt K pn t) (Rst K pn m) D σ H := fun D σ H ⟨G, pa, F, ρ, fl, ρ', R, q, k⟩ => by
  obtain ⟨xs, ρ1, h1, q⟩ := bnd_some q
  refine ⟨G, pa, F, ρ, xs, ρ1, R, h1, fun J F1 H1 s1 R1 sv => ?_⟩
  refine ⟨fun i n σ2 H2 => i + n = xs.length ∧ ∃ F2 ρ2, Same F1 F2 ∧ RS K pn G pa F2 H2 ρ2 σ2 ∧ forGo t m (xs.drop i) ρ2 = some (fl, ρ'), ⟨xs.length, by omega, F1, ρ1, .refl _, R1, q⟩, ?_⟩
  rintro i n σ2 H2 ⟨hn, F2, ρ2, s2, R2, q2⟩
  obtain ⟨v1, v2⟩ := sv i F2 H2 s2 R2.ex fun a o h => (R2.frm a o h).1
  by_cases hi : i < xs.length
  · rw [List.drop_eq_getElem_cons hi] at q2
    obtain ⟨go, yl⟩ := v2 xs[i] (List.getElem?_eq_getElem hi)
    obtain ⟨⟨_, ρ3⟩, h3, q2⟩ := Option.bind_eq_some_iff.mp q2
    obtain ⟨⟨f4, ρ4⟩, h4, q2⟩ := Option.bind_eq_some_iff.mp q2
    refine .inr ⟨go, fun σ' H' => ∃ F' ρ'', Same F1 F' ∧ RS K pn G pa F' H' ρ'' σ' ∧ forGo t m (xs.drop (i + 1)) ρ'' = some (fl, ρ'), fun σ' H' ⟨F', ρ'', a, b, c⟩ => ⟨n - 1, by omega, by omega, F', ρ'', a, b, c⟩, fun x H' y => ?_⟩
    obtain ⟨F', g, rp⟩ := yl x H' y
    refine ⟨G, pa, F', ρ2, _, ρ3, R2.grow g, rp, h3, fun σ3 R3 => ⟨G, pa, F', ρ3, f4, ρ4, R3, h4, fun σ4 F4 H4 s4 R4 => ?_⟩⟩
    have ss : Same F1 F4 := s2.trans (g.ff.trans s4)
    cases f4 with
    | nx => exact ⟨F4, ρ4, ss, R4, q2⟩
    | ct => exact ⟨F4, ρ4, ss, R4, q2⟩
    | bk =>
      cases q2
      exact k σ4 F4 H4 (s1.trans ss) R4
    | rt d =>
      cases q2
      exact k σ4 F4 H4 (s1.trans ss) R4
  · have e : i = xs.length := by omega
    rw [e, List.drop_length] at q2
    obtain ⟨rfl, rfl⟩ := ret_some q2
    exact .inl ⟨v1 e, k σ2 F2 H2 (s1.trans s2) R2⟩
theorem s_for {tg it' : Expr} {it : I} {t : T} {body : List Stmt} (hp : PassesOwn (model X.prog X.w) X.A X.env X.xe) (hc : X.calm = true) (hi : DI X pn tg it' it) (hg : DG X pn tg t) (hb : DSs X pn body m) (hs : ∀ x, foldedSetIterable it' X.env x = pure x := by intro _; rfl) : DS X pn (.For tg it' body [] pos) (sFor it t m) := ps_to (ps_for hp hc hi hg hb hs) for_ok
theorem wh_ok {K : PySem.W.Frag} {c : M Bool} {m : S} (N : Nat) : ∀ D σ H, Rst K pn (whGo c m N) D σ H → tWhile (Rdg K pn wT c) (Rst K pn m) D σ H := fun D σ H ⟨G, pa, F, ρ, fl, ρ', R, q, k⟩ => by
  refine ⟨fun n σ2 H2 => ∃ F2 ρ2, Same F F2 ∧ RS K pn G pa F2 H2 ρ2 σ2 ∧ whGo c m n ρ2 = some (fl, ρ'), ⟨N, F, ρ, .refl _, R, q⟩, ?_⟩
  rintro n σ2 H2 ⟨F2, ρ2, s2, R2, q2⟩
  cases n with
  | zero => cases q2
  | succ n =>
    obtain ⟨⟨b, ρ3⟩, h3, q2⟩ := Option.bind_eq_some_iff.mp q2
    refine ⟨G, pa, F2, ρ2, b, ρ3, R2, h3, fun w F3 H3 s3 R3 p3 => ?_⟩
    have p3 : b = w := p3
    subst p3
    cases b with
    | true =>
      refine iteT ?_
      rw [if_pos rfl] at q2
      obtain ⟨⟨f4, ρ4⟩, h4, q2⟩ := Option.bind_eq_some_iff.mp q2
      refine ⟨fun σ' H' => ∃ F' ρ'', Same F F' ∧ RS K pn G pa F' H' ρ'' σ' ∧ whGo c m n ρ'' = some (fl, ρ'), fun σ' H' h => ⟨n, Nat.lt_succ_self n, h⟩, G, pa, F3, ρ3, f4, ρ4, R3, h4, fun σ4 F4 H4 s4 R4 => ?_⟩
      have ss : Same F F4 := s2.trans (s3.trans s4)
      cases f4 with
      | nx => exact ⟨F4, ρ4, ss, R4, q2⟩
      | ct => exact ⟨F4, ρ4, ss, R4, q2⟩
      | bk =>
        cases q2
        exact k σ4 F4 H4 ss R4
      | rt d =>
        cases q2
        exact k σ4 F4 H4 ss R4
    | false =>
      refine iteF ?_
      rw [if_neg Bool.false_ne_true] at q2
      cases q2
      exact k σ2 F3 H3 (s2.trans s3) R3
theorem s_while {c : Expr} {mc : M Bool} {body : List Stmt} (N : Nat) (hp : PassesOwn (model X.prog X.w) X.A X.env X.xe) (hc : DT X pn c mc) (hb : DSs X pn body m) : DS X pn (.While c body [] pos) (whGo mc m N) := ps_to (ps_while hp hc hb) (wh_ok N)
/-! ### comprehensions -/
theorem wipe_len (ρ : Rho) : ∀ vs : List Nat, (wipeC ρ vs).length = ρ.length
  | [] => rfl
  | v :: vs => by unfold wipeC; rw [List.length_set, wipe_len ρ vs]
theorem wipe_get {ρ : Rho} {i : Nat} {c : C} : ∀ {vs : List Nat}, (wipeC ρ vs)[i]? = some c → c = .no ∨ (ρ[i]? = some c ∧ i ∉ vs)
  | [], h => .inr ⟨h, by simp⟩
  | v :: vs, h => by
    unfold wipeC at h
    rcases set_get h with ⟨_, e, _⟩ | ⟨n, h⟩
    · exact .inl e
    · rcases wipe_get h with e | ⟨e, m⟩
      · exact .inl e
      · exact .inr ⟨e, by simp only [List.mem_cons, not_or]; exact ⟨n, m⟩⟩
theorem wipeS_get {σ : L2.St} {i : Nat} : ∀ {vs : List Nat}, i ∉ vs → (wipe σ vs)[i]? = σ[i]?
  | [], _ => rfl
  | v :: vs, h => by
    simp only [List.mem_cons, not_or] at h
    unfold wipe
    rw [List.getElem?_set_ne (Ne.symm h.1)]
    exact wipeS_get h.2
section
variable {K : PySem.W.Frag} {G : Hp} {pa : Nat → Addr} {F H : Hp} {ρ : Rho} {σ : L2.St}
/-- what is calm in the slots vs is forgotten -/
theorem RS.wipe (R : RS K pn G pa F H ρ σ) {vs : List Nat} (hv : ∀ v ∈ vs, v ∉ pn) : RS K pn G pa F H (wipeC ρ vs) (L2.wipe σ vs) := by
  have own : ∀ {i a}, Own (wipeC ρ vs) (L2.wipe σ vs) i a → Own ρ σ i a := fun {i a} ⟨e, c, e2, hc⟩ => by
    rcases wipe_get e2 with z | ⟨z, m⟩
    · rw [z] at hc; cases hc
    · rw [wipeS_get m] at e
      exact ⟨e, c, z, hc⟩
  refine ⟨R.ex, by rw [wipe_len, wipe_length]; exact R.len, R.frm, fun i c e => ?_, fun i j a n h1 h2 => R.sep i j a n (own h1) (own h2), fun i a h => R.gsep i a (own h), fun i hi => ?_⟩
  · rcases wipe_get e with z | ⟨z, m⟩
    · rw [z]; trivial
    · rw [wipeS_get m]
      exact R.slot i c z
  · rw [wipeS_get fun m => hv i m hi]
    exact R.pin i hi
theorem back_get {ρ0 ρ : Rho} {i : Nat} {c : C} : ∀ {vs : List Nat}, (backC ρ0 ρ vs)[i]? = some c → (i ∈ vs ∧ c = ρ0.getD i .no) ∨ (i ∉ vs ∧ ρ[i]? = some c)
  | [], h => .inr ⟨by simp, h⟩
  | v :: vs, h => by
    unfold backC at h
    rcases set_get h with ⟨e, e2, _⟩ | ⟨n, h⟩
    · exact .inl ⟨by rw [e]; exact List.mem_cons_self, by rw [e2, e]⟩
    · rcases back_get h with ⟨m, e⟩ | ⟨m, e⟩
      · exact .inl ⟨List.mem_cons_of_mem _ m, e⟩
      · exact .inr ⟨by simp only [List.mem_cons, not_or]; exact ⟨n, m⟩, e⟩
theorem back_len (ρ0 ρ : Rho) : ∀ vs : List Nat, (backC ρ0 ρ vs).length = ρ.length
  | [] => rfl
  | v :: vs => by unfold backC; rw [List.length_set, back_len ρ0 ρ vs]
/-- behind a comprehension the names that it hid are as they were -/
theorem RS.back {F1 H1 : Hp} {ρ1 : Rho} {σ1 : L2.St} {vs : List Nat} (R : RS K pn G pa F H ρ σ) (R1 : RS K pn G pa F1 H1 ρ1 σ1) (s : Same F F1) (hσ : L2.wipe σ1 vs = L2.wipe σ vs) (hc : (vs.all fun v => calmC (ρ.getD v .no)) = true) : RS K pn G pa F1 H1 (backC ρ ρ1 vs) σ := by
  have at' : ∀ {i}, i ∉ vs → σ1[i]? = σ[i]? := fun {i} m => by rw [← wipeS_get (σ := σ1) m, ← wipeS_get (σ := σ) m, hσ]
  have own : ∀ {i a}, Own (backC ρ ρ1 vs) σ i a → Own ρ1 σ1 i a := fun {i a} ⟨e, c, e2, hcc⟩ => by
    rcases back_get e2 with ⟨m, z⟩ | ⟨m, z⟩
    · have := List.all_eq_true.mp hc i m
      rw [← z, hcc] at this
      cases this
    · exact ⟨(at' m).trans e, c, z, hcc⟩
  refine ⟨R1.ex, ?_, R1.frm, fun i c e => ?_, fun i j a n h1 h2 => R1.sep i j a n (own h1) (own h2), fun i a h => R1.gsep i a (own h), R.pin⟩
  · have l1 : (L2.wipe σ1 vs).length = σ1.length := wipe_length _ _
    have l2 : (L2.wipe σ vs).length = σ.length := wipe_length _ _
    rw [back_len, R1.len, ← l1, hσ, l2]
  · rcases back_get e with ⟨m, z⟩ | ⟨m, z⟩
    · have hcm := List.all_eq_true.mp hc i m
      cases hq : ρ[i]? with
      | none =>
        have : ρ.getD i .no = .no := by rw [List.getD_eq_getElem?_getD, hq]; rfl
        rw [z, this]; trivial
      | some c' =>
        have e2 : ρ.getD i .no = c' := by rw [List.getD_eq_getElem?_getD, hq]; rfl
        rw [e2] at hcm z
        have sl := R.slot i c' hq
        rw [z]
        cases c' with
        | no => trivial
        | val d =>
          obtain ⟨v, h1, h2⟩ := sl
          exact ⟨v, h1, h2.mono s⟩
        | ml l => cases hcm
        | md l => cases hcm
    · rw [← at' m]
      exact R1.slot i c z
end
/-- a turn of a comprehension: the target's slots alone change among the names -/
def TgOk (K : PySem.W.Frag) (pn vs : List Nat) (g : TG) (t : T) : Prop := ∀ {v : V} {σ : L2.St} {H : Hp} {Q : L2.St → Hp → Prop} {w : L2.St} {G : Hp} {pa : Nat → Addr} {F : Hp} {ρ ρ' : Rho} {d : Py}, L2.wipe σ vs = w → RS K pn G pa F H ρ σ → Rp K F v d → t d ρ = some ((), ρ') →
  (∀ σ', RS K pn G pa F H ρ' σ' → L2.wipe σ' vs = w → Q σ' H) → g v σ H fun σ2 H2 => L2.wipe σ2 vs = w ∧ Q σ2 H2
def TgsOk (K : PySem.W.Frag) (pn vs : List Nat) (g : TGs) (t : List Py → M Unit) : Prop := ∀ {v : List V} {σ : L2.St} {H : Hp} {Q : L2.St → Hp → Prop} {w : L2.St} {G : Hp} {pa : Nat → Addr} {F : Hp} {ρ ρ' : Rho} {d : List Py}, L2.wipe σ vs = w → RS K pn G pa F H ρ σ → RpL K F v d → t d ρ = some ((), ρ') →
  (∀ σ', RS K pn G pa F H ρ' σ' → L2.wipe σ' vs = w → Q σ' H) → g v σ H fun σ2 H2 => L2.wipe σ2 vs = w ∧ Q σ2 H2
theorem wipe_set (σ : L2.St) (i : Nat) (x : Option V) : ∀ {vs : List Nat}, i ∈ vs → L2.wipe (σ.set i x) vs = L2.wipe σ vs
  | v :: vs, h => by
    unfold L2.wipe
    by_cases hi : i ∈ vs
    · rw [wipe_set σ i x hi]
    · have e : i = v := by
        rcases List.mem_cons.mp h with e | e
        · exact e
        · exact absurd e hi
      subst e
      refine List.ext_getElem? fun j => ?_
      by_cases hj : j = i
      · subst hj
        by_cases hl : j < σ.length
        · rw [List.getElem?_set_self (by rw [wipe_length, List.length_set]; exact hl), List.getElem?_set_self (by rw [wipe_length]; exact hl)]
        · rw [List.getElem?_eq_none (by rw [List.length_set, wipe_length, List.length_set]; omega), List.getElem?_eq_none (by rw [List.length_set, wipe_length]; omega)]
      · rw [List.getElem?_set_ne (Ne.symm hj), List.getElem?_set_ne (Ne.symm hj)]
        by_cases hm : j ∈ vs
        · have w1 : ∀ (τ : L2.St), j < τ.length → (L2.wipe τ vs)[j]? = some none := fun τ hl => by
            cases q : (L2.wipe τ vs)[j]? with
            | none =>
              have := List.getElem?_eq_none_iff.mp q
              rw [wipe_length] at this
              omega
            | some y =>
              cases y with
              | none => rfl
              | some z => exact absurd hm (wipe_some q).2
          by_cases hl : j < σ.length
          · rw [w1 _ (by rw [List.length_set]; exact hl), w1 _ hl]
          · rw [List.getElem?_eq_none (by rw [wipe_length, List.length_set]; omega), List.getElem?_eq_none (by rw [wipe_length]; omega)]
        · rw [wipeS_get hm, wipeS_get hm, List.getElem?_set_ne (Ne.symm hj)]
theorem wipe_wipe (σ : L2.St) : ∀ {vs : List Nat} (us : List Nat), (∀ v ∈ us, v ∈ vs) → L2.wipe (L2.wipe σ us) vs = L2.wipe σ vs
  | _, [], _ => rfl
  | vs, u :: us, h => by
    show L2.wipe ((L2.wipe σ us).set u none) vs = L2.wipe σ vs
    rw [wipe_set _ u none (h u List.mem_cons_self)]
    exact wipe_wipe σ us fun v hv => h v (List.mem_cons_of_mem _ hv)
theorem tg_name {K : PySem.W.Frag} {vs : List Nat} (i : Nat) (hi : i ∈ vs) (hp : i ∉ pn) : TgOk K pn vs (gName i) (tName i) := fun {v σ H Q w G pa F ρ ρ' d} hw R r q k => by
  have hw' : L2.wipe (σ.set i (some v)) vs = w := (wipe_set σ i _ hi).trans hw
  rw [setC_ok q] at k
  exact ⟨hw', k _ (R.put hp r) hw'⟩
theorem tgs_nil {K : PySem.W.Frag} {vs : List Nat} : TgsOk K pn vs gNil tsNil := fun {v σ H Q w G pa F ρ ρ' d} hw R r q k => by
  cases r with
  | nil =>
    cases q
    exact ⟨rfl, hw, k _ R hw⟩
  | cons _ _ => cases q
theorem tgs_cons {K : PySem.W.Frag} {vs : List Nat} {r : List Py → M Unit} {i : Nat} {gs : TGs} (hi : i ∈ vs) (hp : i ∉ pn) (h2 : TgsOk K pn vs gs r) : TgsOk K pn vs (gCons (gName i) gs) (tsCons (tName i) r) := fun {v σ H Q w G pa F ρ ρ' d} hw R rp q k => by
  cases rp with
  | nil => cases q
  | @cons v0 vs0 d0 ds0 a b =>
    obtain ⟨_, ρ1, q1, q2⟩ := bnd_some (show bnd (tName i d0) (fun _ => r ds0) ρ = some ((), ρ') from q)
    refine ⟨_, _, rfl, ?_⟩
    have R1 : RS K pn G pa F H ρ1 (σ.set i (some v0)) := by
      rw [setC_ok q1]
      exact R.put hp a
    exact h2 ((wipe_set σ i _ hi).trans hw) R1 b q2 k
theorem tg_tup {K : PySem.W.Frag} {vs : List Nat} {n : Nat} {r : List Py → M Unit} {gs : TGs} (h : TgsOk K pn vs gs r) : TgOk K pn vs (gTup K n gs) (tTup n r) := fun {v σ H Q w G pa F ρ ρ' d} hw R rp q k => by
  cases d with
  | tuple l =>
    have q : (if l.length = n then r l else lif none) ρ = some ((), ρ') := q
    by_cases hl : l.length = n
    · rw [if_pos hl] at q
      cases rp with
      | tup s rl => exact ⟨_, _, rfl, Same.sqt R.ex s, by rw [rl.len]; exact hl, h hw R rl q k⟩
    · rw [if_neg hl] at q
      cases q
  | _ => cases q
section
variable {K : PySem.W.Frag} {G : Hp} {pa : Nat → Addr} {F H : Hp} {ρ : Rho} {σ : L2.St}
/-- an object that is kept from the slots -/
theorem RS.guard (R : RS K pn G pa F H ρ σ) {a : Addr} {u : HO} (hh : H a = some u) (hf : F a = none) (ho : ∀ i, ¬ Own ρ σ i a) : RS K pn (upd G a u) pa F H ρ σ := by
  refine ⟨R.ex, R.len, fun b v q => ?_, R.slot, R.sep, fun i b h => ?_, R.pin⟩
  · by_cases hb : b = a
    · rw [hb, upd_same] at q
      cases q
      rw [hb]
      exact ⟨hh, hf⟩
    · rw [upd_ne hb] at q
      exact R.frm b v q
  · rw [upd_ne (fun e => ho i (by rw [← e]; exact h))]
    exact R.gsep i b h
theorem RS.unguard {a : Addr} {u : HO} (R : RS K pn (upd G a u) pa F H ρ σ) (hg : G a = none) : RS K pn G pa F H ρ σ ∧ H a = some u ∧ F a = none ∧ ∀ i, ¬ Own ρ σ i a := by
  have h1 := R.frm a u upd_same
  refine ⟨⟨R.ex, R.len, fun b v q => R.frm b v (by rw [upd_ne (ne_of_none q hg)]; exact q), R.slot, R.sep, fun i b h => ?_, R.pin⟩, h1.1, h1.2, fun i h => ?_⟩
  · have := R.gsep i b h
    by_cases hb : b = a
    · rw [hb]; exact hg
    · rw [upd_ne hb] at this; exact this
  · have := R.gsep i a h
    rw [upd_same] at this
    cases this
theorem RS.reguard {a : Addr} {u u' : HO} (R : RS K pn (upd G a u) pa F H ρ σ) : RS K pn (upd G a u') pa F (upd H a u') ρ σ := by
  have h1 := R.frm a u upd_same
  have hno : ∀ i, ¬ Own ρ σ i a := fun i h => by
    have := R.gsep i a h
    rw [upd_same] at this
    cases this
  refine ⟨fun b v q => ?_, R.len, fun b v q => ?_, fun i c e => ?_, R.sep, fun i b h => ?_, R.pin⟩
  · rw [upd_ne (ne_of_none q h1.2)]
    exact R.ex b v q
  · by_cases hb : b = a
    · rw [hb, upd_same] at q ⊢
      exact ⟨q, h1.2⟩
    · rw [upd_ne hb] at q ⊢
      exact R.frm b v (by rw [upd_ne hb]; exact q)
  · have s := R.slot i c e
    have nz : ∀ b, σ[i]? = some (some (.ref b)) → calmC c = false → b ≠ a := fun b e1 hc z => hno i (by rw [← z]; exact ⟨e1, c, e, hc⟩)
    cases c with
    | no => trivial
    | val d => exact s
    | ml l =>
      obtain ⟨b, e1, f, vs, q, r⟩ := s
      exact ⟨b, e1, f, vs, by rw [upd_ne (nz b e1 rfl)]; exact q, r⟩
    | md l =>
      obtain ⟨b, e1, f, vs, q, r⟩ := s
      exact ⟨b, e1, f, vs, by rw [upd_ne (nz b e1 rfl)]; exact q, r⟩
  · have hb : b ≠ a := fun z => hno i (by rw [← z]; exact h)
    have := R.gsep i b h
    rw [upd_ne hb] at this ⊢
    exact this
end
theorem lc_ok {K : PySem.W.Frag} {it : I} {t : T} {c : M Bool} {m : M Py} {g : TG} {vs : List Nat} (hg : TgOk K pn vs g t) (hv : ∀ v ∈ vs, v ∉ pn) : ∀ σ H Q, Rdg K pn (wN K C.ml) (mLc it t c m vs) σ H Q → tLc (Rit K pn it) g (Rdg K pn wT c) (Rdg K pn (wE K) m) vs σ H Q := fun σ H Q ⟨G, pa, F, ρ, zs, ρ', R, q, k⟩ => by
  obtain ⟨xs, ρ1, h1, q⟩ := bnd_some q
  have q : (if xs.length < 16777216 ∧ (vs.all fun v => calmC (ρ1.getD v .no)) = true then (lcGo t c m vs xs ρ1).bind fun z => some (z.1, backC ρ1 z.2 vs) else none) = some (zs, ρ') := q
  by_cases hc : xs.length < 16777216 ∧ (vs.all fun v => calmC (ρ1.getD v .no)) = true
  · rw [if_pos hc] at q
    obtain ⟨⟨zs', ρ2⟩, h2, q⟩ := Option.bind_eq_some_iff.mp q
    cases q
    refine ⟨G, pa, F, ρ, xs, ρ1, R, h1, fun J F1 H1 s1 R1 sv D hD => ?_⟩
    have gD := (fresh_no R1 hD).1
    have fD : F1 D = none := R1.ex.free hD
    have R0 : RS K pn (upd G D (.lst [])) pa F1 (upd H1 D (.lst [])) ρ1 σ := (R1.grow (.lay R1.ex hD _)).guard upd_same fD (fresh_no R1 hD).2
    refine ⟨fun i n H2 => i + n = xs.length ∧ ∃ F2 ρ3 σ3 acc ds rest, Same F1 F2 ∧ RS K pn (upd G D (.lst acc)) pa F2 H2 ρ3 σ3 ∧ L2.wipe σ3 vs = L2.wipe σ vs ∧ RpL K F2 acc ds ∧ lcGo t c m vs (xs.drop i) ρ3 = some (rest, ρ2) ∧ zs' = ds ++ rest ∧ ds.length ≤ i, ⟨xs.length, by omega, F1, ρ1, σ, [], [], zs', .refl _, R0, rfl, .nil, h2, rfl, Nat.le_refl _⟩, ?_⟩
    rintro i n H2 ⟨hn, F2, ρ3, σ3, acc, ds, rest, s2, R2, hσ, rp, q2, ez, hl⟩
    obtain ⟨R2', hD2, fD2, oD2⟩ := R2.unguard gD
    obtain ⟨v1, v2⟩ := sv i F2 H2 s2 R2.ex fun a o h => (R2'.frm a o h).1
    by_cases hi : i < xs.length
    · rw [List.drop_eq_getElem_cons hi] at q2
      obtain ⟨go, yl⟩ := v2 xs[i] (List.getElem?_eq_getElem hi)
      obtain ⟨⟨_, ρ4⟩, h3, q2⟩ := Option.bind_eq_some_iff.mp q2
      obtain ⟨⟨b, ρ5⟩, h4, q2⟩ := Option.bind_eq_some_iff.mp q2
      refine .inr ⟨go, fun H' => ∃ F' ρ'' σ'' acc' ds' rest', Same F1 F' ∧ RS K pn (upd G D (.lst acc')) pa F' H' ρ'' σ'' ∧ L2.wipe σ'' vs = L2.wipe σ vs ∧ RpL K F' acc' ds' ∧ lcGo t c m vs (xs.drop (i + 1)) ρ'' = some (rest', ρ2) ∧ zs' = ds' ++ rest' ∧ ds'.length ≤ i + 1,
        fun H' h => ⟨n - 1, by omega, by omega, h⟩, fun x H' y => ?_⟩
      obtain ⟨F', g', rp'⟩ := yl x H' y
      have R3 := (R2.grow g').wipe hv
      rw [hσ] at R3
      refine hg (wipe_wipe σ vs fun v h => h) R3 rp' h3 fun σ4 R4 hσ4 => ⟨upd G D (.lst acc), pa, F', ρ4, b, ρ5, R4, h4, fun b' F5 H5 s5 R5 p5 => ?_⟩
      have p5 : b = b' := p5
      subst p5
      cases b with
      | true =>
        rw [if_pos rfl] at q2
        obtain ⟨⟨y, ρ6⟩, h6, q2⟩ := Option.bind_eq_some_iff.mp q2
        obtain ⟨⟨rest', ρ7⟩, h7, q2⟩ := Option.bind_eq_some_iff.mp q2
        cases q2
        refine iteT ⟨upd G D (.lst acc), pa, F5, ρ5, y, ρ6, R5, h6, fun v F6 H6 s6 R6 p6 => ?_⟩
        obtain ⟨_, hD6, fD6, _⟩ := R6.unguard gD
        have ss : Same F2 F6 := g'.ff.trans (s5.trans s6)
        have hacc : acc.length = ds.length := rp.len
        refine ⟨acc, hD6, Nat.lt_of_lt_of_le (show acc.length < 16777216 by omega) (Nat.le_refl _), F6, ρ6, σ4, acc ++ [v], ds ++ [y], rest', s2.trans ss, R6.reguard, hσ4, (rp.mono ss).app (.cons p6 .nil), h7, ?_, ?_⟩
        · rw [ez, List.append_assoc]
          rfl
        · rw [List.length_append, List.length_singleton]
          omega
      | false =>
        rw [if_neg Bool.false_ne_true] at q2
        have ss : Same F2 F5 := g'.ff.trans s5
        exact iteF ⟨F5, ρ5, σ4, acc, ds, rest, s2.trans ss, R5, hσ4, rp.mono ss, q2, ez, Nat.le_succ_of_le hl⟩
    · have e : i = xs.length := by omega
      rw [e, List.drop_length] at q2
      obtain ⟨rfl, rfl⟩ := ret_some q2
      rw [List.append_nil] at ez
      subst ez
      have R4 := RS.back (R0.reguard (u' := .lst acc)) R2 s2 hσ hc.2
      obtain ⟨R5, hD5, fD5, oD5⟩ := R4.unguard gD
      exact .inl ⟨v1 e, k _ F2 H2 (s1.trans s2) R5 ⟨D, rfl, ⟨fD5, acc, hD5, rp⟩, gD, oD5⟩⟩
  · rw [if_neg hc] at q
    cases q
/-- [elt for tg in iter if ..] -/
theorem l_lc {elt tg iter : Expr} {ifs : List Expr} {scope : Scope} {own : List (Str × Nat)} {it : I} {t : T} {c : M Bool} {m : M Py} {g : TG} (hc : X.calm = true) (hN : X.N.Nodup) (hi : DI X pn tg iter it) (ok : BlkOk X.N X.env.scope scope own)
    (hg : ∀ (s : Shared) (H : Hp) (C : Addr) (cl : List (Str × Addr)) (fp : List Addr), PG (X.blk s H scope (compEnvC scope cl C X.env) fp) tg g) (ht : ∀ (s : Shared) (H : Hp) (C : Addr) (cl : List (Str × Addr)) (fp : List Addr), PTs (X.blk s H scope (compEnvC scope cl C X.env) fp) ifs (Rdg X.K pn wT c))
    (he : ∀ (s : Shared) (H : Hp) (C : Addr) (cl : List (Str × Addr)) (fp : List Addr), DE (X.blk s H scope (compEnvC scope cl C X.env) fp) pn elt m) (tgo : TgOk X.K pn (own.map (·.2)) g t) (hv : ∀ v ∈ own.map (·.2), v ∉ pn := by decide) (hs : ∀ x, foldedSetIterable iter X.env x = pure x := by intro _; rfl) :
    DLi X pn (.ListComp elt [⟨tg, iter, ifs, 0⟩] scope pos) (mLc it t c m (own.map (·.2))) := pe_to (pe_lc (te := Rdg X.K pn (wE X.K) m) hc hN hi ok hg ht (fun s H C cl fp => he s H C cl fp) hs) (lc_ok tgo hv)
/-- name = [..] on one line -/
theorem lcS {i : Nat} {y : Str} {py : Pos} {elt tg iter : Expr} {ifs : List Expr} {scope : Scope} {own : List (Str × Nat)} {spos : Pos} {it : I} {t : T} {c : M Bool} {mm : M Py} {g : TG} (hc : X.calm = true) (hN : X.N.Nodup) (hyl : X.env.scope.names.lookup y = some .local)
    (hsw : swapsWith (.ListComp elt [⟨tg, iter, ifs, 0⟩] scope pos) (some (.Name y py)) spos.line X.env = pure true) (hi : DI X pn tg iter it) (ok : BlkOk X.N X.env.scope scope own)
    (hg : ∀ (s : Shared) (H : Hp) (C : Addr) (cl : List (Str × Addr)) (fp : List Addr), PG (X.blk s H scope (compEnvC scope cl C X.env) fp) tg g) (ht : ∀ (s : Shared) (H : Hp) (C : Addr) (cl : List (Str × Addr)) (fp : List Addr), PTs (X.blk s H scope (compEnvC scope cl C X.env) fp) ifs (Rdg X.K pn wT c))
    (he : ∀ (s : Shared) (H : Hp) (C : Addr) (cl : List (Str × Addr)) (fp : List Addr), DE (X.blk s H scope (compEnvC scope cl C X.env) fp) pn elt mm) (tgo : TgOk X.K pn (own.map (·.2)) g t) (hy : X.N[i]? = some y := by rfl) (hp : i ∉ pn := by decide) (hv : ∀ v ∈ own.map (·.2), v ∉ pn := by decide) (hs : ∀ x, foldedSetIterable iter X.env x = pure x := by intro _; rfl) :
    DS X pn (.Assign [.Name y py] (.ListComp elt [⟨tg, iter, ifs, 0⟩] scope pos) spos) (sAsgL i (mLc it t c mm (own.map (·.2)))) :=
  ps_to (ps_setLc (te := Rdg X.K pn (wE X.K) mm) hc hN hy hyl hsw hi ok hg ht (fun s H C cl fp => he s H C cl fp) hs) fun D σ H h => lc_ok tgo hv σ H _ (by
    exact hold_ok (pn := pn) (K := X.K) (i := i) (c := C.ml) (fun _ => rfl) hp D σ H h)
theorem lcSF {i : Nat} {y : Str} {py : Pos} {elt tg iter : Expr} {ifs : List Expr} {scope : Scope} {own : List (Str × Nat)} {spos : Pos} {it : I} {t : T} {c : M Bool} {mm : M Py} {g : TG} (hc : X.calm = true) (hN : X.N.Nodup) (hyl : X.env.scope.names.lookup y = some .local)
    (hsw : swapsWith (.ListComp elt [⟨tg, iter, ifs, 0⟩] scope pos) (some (.Name y py)) spos.line X.env = pure true) (hi : DI X pn tg iter it) (ok : BlkOk X.N X.env.scope scope own)
    (hg : ∀ (s : Shared) (H : Hp) (C : Addr) (cl : List (Str × Addr)) (fp : List Addr), PG (X.blk s H scope (compEnvC scope cl C X.env) fp) tg g) (ht : ∀ (s : Shared) (H : Hp) (C : Addr) (cl : List (Str × Addr)) (fp : List Addr), PTs (X.blk s H scope (compEnvC scope cl C X.env) fp) ifs (Rdg X.K pn wT c))
    (he : ∀ (s : Shared) (H : Hp) (C : Addr) (cl : List (Str × Addr)) (fp : List Addr), DE (X.blk s H scope (compEnvC scope cl C X.env) fp) pn elt mm) (tgo : TgOk X.K pn (own.map (·.2)) g t) (hy : X.N[i]? = some y := by rfl) (hp : i ∉ pn := by decide) (hv : ∀ v ∈ own.map (·.2), v ∉ pn := by decide) (hs : ∀ x, foldedSetIterable iter X.env x = pure x := by intro _; rfl) :
    DS X pn (.Assign [.Name y py] (.ListComp elt [⟨tg, iter, ifs, 0⟩] scope pos) spos) (sAsg (mFrz (mLc it t c mm (own.map (·.2)))) (tName i)) :=
  ps_to (ps_setLc (te := Rdg X.K pn (wE X.K) mm) hc hN hy hyl hsw hi ok hg ht (fun s H C cl fp => he s H C cl fp) hs) fun D σ H h => lc_ok tgo hv σ H _ (by
    obtain ⟨G, pa, F, ρ, fl, ρ', R, q, k⟩ := h
    obtain ⟨d, ρ1, h1, q⟩ := bnd_some q
    obtain ⟨_, ρ2, h2, q⟩ := bnd_some q
    obtain ⟨rfl, rfl⟩ := ret_some q
    rw [setC_ok h2] at k
    obtain ⟨l, ρ3, h3, h1⟩ := bnd_some h1
    obtain ⟨rfl, rfl⟩ := ret_some h1
    refine ⟨G, pa, F, ρ, l, _, R, h3, fun v F1 H1 s1 R1 p1 => ?_⟩
    obtain ⟨a, rfl, ⟨f, vs, hh, r⟩, g1, g2⟩ := p1
    have ff : Same F1 (upd F1 a (.lst vs)) := fun b u q => by rw [upd_ne (ne_of_none q f)]; exact q
    exact k _ _ H1 (s1.trans ff) ((R1.tell f hh g1 g2).put hp (.lst upd_same (RpL.mono ff r))))
theorem ts_nil : PTs X [] (Rdg X.K pn wT mYes) := by
  have h : PTs X [] tYes := pts_nil
  refine ⟨fun pins s σ H Q I ⟨G, pa, F, ρ, d, ρ', R, q, k⟩ => h.run pins s σ H Q I ?_⟩
  obtain ⟨rfl, rfl⟩ := ret_some q
  exact k true F H (.refl _) R rfl
theorem ts_one {c : Expr} {mc : M Bool} (h : DT X pn c mc) : PTs X [c] (Rdg X.K pn wT mc) := pts_one h
end
end DL

set_option maxRecDepth 100000
/-! DLR5: defs by their mirrors, calls, the law. -/
namespace DL
open PySem PySem.Spec PyProof.Rows L2

/-- a def's promise by its mirror -/
def spP (K : PySem.W.Frag) (f : List Py → Option Py) : Sp := fun vs H Q _ => ∃ F ds d, Same F H ∧ RpL K F vs ds ∧ f ds = some d ∧ ∀ v F' H', Grow F H F' H' → Rp K F' v d → Q v H'
/-- .. of one that changes what it gets in place p -/
def spR (K : PySem.W.Frag) (p : Nat) (f : C → List Py → Option (Py × C)) : Sp := fun vs H Q _ => ∃ F ds d c c' a, Same F H ∧ p < vs.length ∧ vs[p]? = some (.ref a) ∧ RpL K F (vs.eraseIdx p) ds ∧ OwnC K F H a c ∧ f c ds = some (d, c') ∧
  ∀ v F' H', Same F F' → Same F' H' → (∀ b o, H b = some o → b ≠ a → H' b = some o) → (∀ b o, F' b = some o → F b = some o ∨ H b = none) → OwnC K F' H' a c' → Rp K F' v d → Q v H'
theorem map_val_get {ds : List Py} {n i : Nat} {c : C} (h : (ds.map C.val ++ List.replicate n C.no)[i]? = some c) : (∃ d, ds[i]? = some d ∧ c = .val d) ∨ c = .no := by
  by_cases hi : i < (ds.map C.val).length
  · rw [List.getElem?_append_left hi, List.getElem?_map] at h
    obtain ⟨d, h1, rfl⟩ := Option.map_eq_some_iff.mp h
    exact .inl ⟨d, h1, rfl⟩
  · rw [List.getElem?_append_right (by omega)] at h
    exact .inr (List.eq_of_mem_replicate (List.mem_of_getElem? h))
theorem start_get {N : List Str} {vs : List V} {i : Nat} {v : V} (h : vs[i]? = some v) : (L2.start N vs)[i]? = some (some v) := by
  unfold L2.start
  have hi : i < vs.length := (List.getElem?_eq_some_iff.mp h).1
  rw [List.getElem?_append_left (by rw [List.length_map]; exact hi), List.getElem?_map, h]
  rfl
section
variable {K : PySem.W.Frag} {F H : Hp}
/-- what the callers alone hold -/
def foreign (F H : Hp) : Hp := fun a => match F a with
  | none => H a
  | some _ => none
theorem foreign_frm (F H : Hp) : ∀ a o, foreign F H a = some o → H a = some o ∧ F a = none := fun a o h => by
  unfold foreign at h
  cases q : F a with
  | none => rw [q] at h; exact ⟨h, rfl⟩
  | some u => rw [q] at h; cases h
theorem rs_start {N : List Str} {vs : List V} {ds : List Py} {n : Nat} (e : Same F H) (r : RpL K F vs ds) (hn : ds.length + n = N.length) : RS K [] (foreign F H) (fun _ => 0) F H (ds.map C.val ++ List.replicate n .no) (L2.start N vs) := by
  have own : ∀ {i a}, ¬ Own (ds.map C.val ++ List.replicate n .no) (L2.start N vs) i a := fun {i a} ⟨_, c, e, hc⟩ => by
    rcases map_val_get e with ⟨d, _, rfl⟩ | rfl <;> cases hc
  refine ⟨e, ?_, foreign_frm F H, fun i c h => ?_, fun i j a _ h => absurd h own, fun i a h => absurd h own, fun i h => by simp at h⟩
  · unfold L2.start
    rw [List.length_append, List.length_append, List.length_map, List.length_map, List.length_replicate, List.length_replicate, r.len]
    omega
  · rcases map_val_get h with ⟨d, h1, rfl⟩ | rfl
    · obtain ⟨v, h2, h3⟩ := r.get h1
      exact ⟨v, start_get h2, h3⟩
    · trivial
/-- from a def's end back to the caller -/
theorem grow_back {pn : List Nat} {pa : Nat → Addr} {F' H' : Hp} {ρ : Rho} {σ : L2.St} (e : Same F H) (s : Same F F') (R : RS K pn (foreign F H) pa F' H' ρ σ) : Grow F H F' H' where
  ff := s
  hh := fun b o h => by
    cases q : F b with
    | none => exact (R.frm b o (by unfold foreign; rw [q]; exact h)).1
    | some u =>
      have := e b u q
      rw [h] at this
      cases this
      exact R.ex b _ (s b _ q)
  fh := R.ex
  new := fun b o h => by
    cases q : F b with
    | some u =>
      have := s b u q
      rw [h] at this
      cases this
      exact .inl rfl
    | none =>
      cases q2 : H b with
      | none => exact .inr rfl
      | some u =>
        have := (R.frm b u (by unfold foreign; rw [q]; exact q2)).2
        rw [h] at this
        cases this
end
section
variable {P : Program} {w : World} {K : PySem.W.Frag} {mg : Str → Option Value} {base : Heap}
/-- a def keeps its mirror's promise -/
theorem def_ok {x qual : Str} {st : Stmt} {f : Addr} {fd : FuncData} {N ps : List Str} {k n : Nat} {m : S} (Fu : Fun K x qual st f fd) (S : FnScope N ps (defScope st)) (hn : ps.length + n = N.length)
    (body : ∀ (cdv : Value) (A : Around) (outer : List Env) (s : Shared) (H : Hp) (E : XK), Room k (A.deeper (envOfC qual (defScope st) s.heap.objs.size f cdv)) →
      DSs (cxOf CX0 P w K mg base N qual (defScope st) f cdv A outer s H E).nox [] (defBody st) m) : FnOk P w K mg base CX0 (k + 1) f fd ps (spP K (mDef ps.length n m)) := by
  refine Fu.ok S (fun vs H Q E h => ?_) (fun cdv A outer s H vs Q E hr h => ⟨_, body cdv A outer s H E hr, ?_⟩)
  · obtain ⟨F, ds, d, _, r, hd, _⟩ := h
    rw [r.len]
    exact (ite_of hd).1
  · obtain ⟨F, ds, d, e, r, hd, q⟩ := h
    obtain ⟨hl, hd⟩ := ite_of hd
    obtain ⟨⟨fl, ρ'⟩, h1, h2⟩ := Option.bind_eq_some_iff.mp hd
    refine ⟨foreign F H, fun _ => 0, F, _, fl, ρ', rs_start e r (by rw [hl]; exact hn), h1, fun σ' F' H' s' R' => ?_⟩
    have g := grow_back e s' R'
    cases fl with
    | nx =>
      cases h2
      exact q _ F' H' g .non
    | rt d' =>
      cases h2
      exact fun v p => q v F' H' g p
    | bk => cases h2
    | ct => cases h2
where
  ite_of {α : Type} {c : Prop} [Decidable c] {a : Option α} {b : α} (h : (if c then a else none) = some b) : c ∧ a = some b := by
    by_cases hc : c
    · rw [if_pos hc] at h
      exact ⟨hc, h⟩
    · rw [if_neg hc] at h
      cases h
end
/-! ### calls -/
section
variable {X : Cx} {pn : List Nat} {k : Nat} {f : Addr} {fd : FuncData} {ps : List Str} {fm : List Py → Option Py} {x : Str} {p pos : Pos} {e : Expr} {es : List Expr} {ms : M (List Py)}
theorem d_call (G : FnOk X.prog X.w X.K X.mg X.base CX0 k f fd ps (spP X.K fm)) (hr : Room k X.A) (hg : Gl X x) (hm : X.mg x = some (.ref f)) (hk : PySem.W.keepIn X.K (.ref f) = true) (hb : Binds X.K fd ps []) (ha : DA X pn (e :: es) ms)
    (hdb : (x == ("__debug__" : Str)) = false := by decide) (he : starEach (e :: es) X.env = (false, eval e X.env) :: starEach es X.env := by rfl) (hpl : (backTo pos (starEach es X.env)).any (·.1) = false := by rfl) :
    DE X pn (.Call (.Name x p) (e :: es) [] pos) (mCall fm ms) := pe_to (pe_call (E := E0) G hr hg hm hk hb .nil pass0 ha hdb he hpl) fun σ H Q ⟨G, pa, F, ρ, d, ρ', R, q, k⟩ => by
  obtain ⟨l, ρ1, h1, q⟩ := bnd_some q
  obtain ⟨h2, rfl⟩ := lif_some q
  refine ⟨G, pa, F, ρ, l, _, R, h1, fun vs F1 H1 s1 R1 p1 => ?_⟩
  show spP X.K fm (vs ++ []) H1 Q E0
  rw [List.append_nil]
  exact ⟨F1, l, d, R1.ex, p1, h2, fun v F2 H2 g p2 => k v F2 H2 (s1.trans g.ff) (R1.grow g) p2⟩
theorem d_call0 (G : FnOk X.prog X.w X.K X.mg X.base CX0 k f fd ps (spP X.K fm)) (hr : Room k X.A) (hg : Gl X x) (hm : X.mg x = some (.ref f)) (hk : PySem.W.keepIn X.K (.ref f) = true) (hb : Binds X.K fd ps [])
    (hdb : (x == ("__debug__" : Str)) = false := by decide) : DE X pn (.Call (.Name x p) [] [] pos) (mCall fm mNil) := pe_to (pe_call0 (E := E0) G hr hg hm hk hb .nil pass0 hdb) fun σ H Q ⟨G, pa, F, ρ, d, ρ', R, q, k⟩ => by
  obtain ⟨l, ρ1, h1, q⟩ := bnd_some q
  obtain ⟨rfl, rfl⟩ := ret_some h1
  obtain ⟨h2, rfl⟩ := lif_some q
  exact ⟨F, [], d, R.ex, .nil, h2, fun v F2 H2 g p2 => k v F2 H2 g.ff (R.grow g) p2⟩
/-- an argument list that hands on, at place p, the thing in slot i -/
def Rdr (K : PySem.W.Frag) (pn : List Nat) (p i : Nat) (m : M (List Py)) : TA := fun σ H Q => ∃ G pa F ρ ds ρ' x, RS K pn G pa F H ρ σ ∧ m ρ = some (ds, ρ') ∧ σ[i]? = some (some x) ∧ ∀ vs F' H', Same F F' → RS K pn G pa F' H' ρ' σ → p < vs.length → vs[p]? = some x → RpL K F' (vs.eraseIdx p) ds → Q vs H'
def DAr (X : Cx) (pn : List Nat) (p i : Nat) (es : List Expr) (m : M (List Py)) : Prop := PA X es (Rdr X.K pn p i m)
theorem ar_here {i : Nat} (h : PE X e (tVar i)) (hr : DA X pn es ms) (hs : starEach (e :: es) X.env = (false, eval e X.env) :: starEach es X.env := by rfl) : DAr X pn 0 i (e :: es) ms := pa_to (pa_cons h hr hs) fun σ H Q ⟨G, pa, F, ρ, d, ρ', x, R, q, hx, k⟩ =>
  ⟨x, hx, G, pa, F, ρ, d, ρ', R, q, fun vs F1 H1 s1 R1 p1 => k (x :: vs) F1 H1 s1 R1 (Nat.zero_lt_succ _) rfl p1⟩
theorem ar_next {i q : Nat} {m : M Py} (h : DE X pn e m) (hr : DAr X pn q i es ms) (hs : starEach (e :: es) X.env = (false, eval e X.env) :: starEach es X.env := by rfl) : DAr X pn (q + 1) i (e :: es) (mCons m ms) := pa_to (pa_cons h hr hs) fun σ H Q ⟨G, pa, F, ρ, d, ρ', x, R, q, hx, k⟩ => by
  obtain ⟨y, ρ1, h1, q⟩ := bnd_some q
  obtain ⟨l, ρ2, h2, q⟩ := bnd_some q
  obtain ⟨rfl, rfl⟩ := ret_some q
  exact ⟨G, pa, F, ρ, y, ρ1, R, h1, fun v F1 H1 s1 R1 p1 => ⟨G, pa, F1, ρ1, l, _, x, R1, h2, hx, fun vs F2 H2 s2 R2 hl hv p2 => k (v :: vs) F2 H2 (s1.trans s2) R2 (Nat.succ_lt_succ hl) hv (.cons (Rp.mono s2 p1) p2)⟩⟩
theorem held_ok {K : PySem.W.Frag} {G : Hp} {pa : Nat → Addr} {F H : Hp} {ρ ρ' : Rho} {σ : L2.St} {i : Nat} {u : Unit} (R : RS K pn G pa F H ρ σ) (h : mHeld i ρ = some (u, ρ')) : ρ' = ρ ∧ ∃ a, σ[i]? = some (some (.ref a)) := by
  obtain ⟨c, hc, h⟩ := Option.bind_eq_some_iff.mp h
  obtain ⟨hz, e⟩ := ite_some h
  cases e
  obtain ⟨a, ha, _⟩ := own_at R hc hz
  exact ⟨rfl, a, ha⟩
/-- behind a call that changed what a slot holds -/
theorem RS.callR {K : PySem.W.Frag} {G : Hp} {pa : Nat → Addr} {F H F' H' : Hp} {ρ : Rho} {σ : L2.St} {i : Nat} {a : Addr} {c : C} (R : RS K pn G pa F H ρ σ) (own : Own ρ σ i a) (hc : calmC c = false) (s : Same F F') (t : Same F' H') (kp : ∀ b o, H b = some o → b ≠ a → H' b = some o) (nw : ∀ b o, F' b = some o → F b = some o ∨ H b = none) (h : OwnC K F' H' a c) : RS K pn G pa F' H' (ρ.set i c) σ := by
  obtain ⟨c0, e0, hc0, o0⟩ := R.own own
  obtain ⟨f, u0, hu0⟩ := o0.at
  have ne : ∀ j b, Own ρ σ j b → j ≠ i → b ≠ a := fun j b h1 n z => R.sep j i a n (by rw [← z]; exact h1) own
  have nf : ∀ {b u}, F b = none → H b = some u → F' b = none := fun {b u} h1 h2 => by
    cases q : F' b with
    | none => rfl
    | some o =>
      rcases nw b o q with z | z
      · rw [h1] at z; cases z
      · rw [h2] at z; cases z
  have own' : ∀ {j b}, Own (ρ.set i c) σ j b → Own ρ σ j b := fun {j b} ⟨e1, c', e2, hc'⟩ => by
    rcases set_get e2 with ⟨y, _, _⟩ | ⟨n, z⟩
    · rw [y] at e1 ⊢; exact ⟨e1, c0, e0, hc0⟩
    · exact ⟨e1, c', z, hc'⟩
  refine ⟨t, by rw [List.length_set]; exact R.len, fun b v q => ?_, fun j c' e => ?_, fun j k b n h1 h2 => R.sep j k b n (own' h1) (own' h2), fun j b h1 => R.gsep j b (own' h1), R.pin⟩
  · have hb : b ≠ a := ne_of_none q (R.gsep i a own)
    obtain ⟨h1, h2⟩ := R.frm b v q
    exact ⟨kp b v h1 hb, nf h2 h1⟩
  · rcases set_get e with ⟨y, z, _⟩ | ⟨n, z⟩
    · rw [y, z, own.1]
      cases c with
      | no => cases hc
      | val d => cases hc
      | ml l => exact ⟨a, rfl, h⟩
      | md l => exact ⟨a, rfl, h⟩
    · have sl := R.slot j c' z
      cases c' with
      | no => trivial
      | val d =>
        obtain ⟨v, e1, r⟩ := sl
        exact ⟨v, e1, r.mono s⟩
      | ml l =>
        obtain ⟨b, e1, f1, vs, q, r⟩ := sl
        exact ⟨b, e1, nf f1 q, vs, kp b _ q (ne j b ⟨e1, _, z, rfl⟩ n), r.mono s⟩
      | md l =>
        obtain ⟨b, e1, f1, vs, q, r⟩ := sl
        exact ⟨b, e1, nf f1 q, vs, kp b _ q (ne j b ⟨e1, _, z, rfl⟩ n), r.mono s⟩
theorem d_callR {i q : Nat} {fr : C → List Py → Option (Py × C)} (hfr : ∀ {c ds d c'}, fr c ds = some (d, c') → calmC c = false ∧ calmC c' = false) (G : FnOk X.prog X.w X.K X.mg X.base CX0 k f fd ps (spR X.K q fr)) (hr : Room k X.A) (hg : Gl X x) (hm : X.mg x = some (.ref f)) (hk : PySem.W.keepIn X.K (.ref f) = true) (hb : Binds X.K fd ps []) (ha : DAr X pn q i (e :: es) ms)
    (hdb : (x == ("__debug__" : Str)) = false := by decide) (he : starEach (e :: es) X.env = (false, eval e X.env) :: starEach es X.env := by rfl) (hpl : (backTo pos (starEach es X.env)).any (·.1) = false := by rfl) :
    DE X pn (.Call (.Name x p) (e :: es) [] pos) (mCallR fr i ms) := pe_to (pe_call (E := E0) G hr hg hm hk hb .nil pass0 ha hdb he hpl) fun σ H Q ⟨G, pa, F, ρ, d, ρ', R, q, k⟩ => by
  obtain ⟨_, ρ0, h0, q⟩ := bnd_some q
  obtain ⟨l, ρ1, h1, q⟩ := bnd_some q
  obtain ⟨⟨d', c'⟩, h2, q⟩ := Option.bind_eq_some_iff.mp q
  obtain ⟨c, h3, h2⟩ := Option.bind_eq_some_iff.mp h2
  cases q
  obtain ⟨rfl, a0, ha0⟩ := held_ok R h0
  refine ⟨G, pa, F, _, l, ρ1, _, R, h1, ha0, fun vs F1 H1 s1 R1 hl hv p1 => ?_⟩
  show spR X.K _ fr (vs ++ []) H1 Q E0
  rw [List.append_nil]
  obtain ⟨z1, z2⟩ := hfr h2
  obtain ⟨a, ha, oc, ow⟩ := own_at R1 h3 z1
  rw [ha0] at ha
  cases ha
  exact ⟨F1, l, _, c, _, a0, R1.ex, hl, hv, p1, oc, h2, fun v F2 H2 s2 t2 kp nw o2 p2 => k v F2 H2 (s1.trans s2) (R1.callR ow z2 s2 t2 kp nw o2) p2⟩
end
end DL

set_option maxRecDepth 100000
/-! DLR6: defs that change what they get; the law's frame. -/
namespace DL
open PySem PySem.Spec PyProof.Rows L2
theorem erase_get {α : Type} : ∀ {l : List α} {p i : Nat}, (l.eraseIdx p)[i]? = if i < p then l[i]? else l[i + 1]?
  | [], p, i => by simp
  | a :: l, 0, i => by simp
  | a :: l, p + 1, 0 => by simp
  | a :: l, p + 1, i + 1 => by
    rw [List.eraseIdx_cons_succ, List.getElem?_cons_succ, erase_get]
    by_cases h : i < p
    · rw [if_pos h, if_pos (Nat.succ_lt_succ h), List.getElem?_cons_succ]
    · rw [if_neg h, if_neg (fun z => h (Nat.lt_of_succ_lt_succ z)), List.getElem?_cons_succ]
/-- the slots of a def that gets c in place p -/
def slotsR (p n : Nat) (c : C) (ds : List Py) : Rho := ((ds.take p).map C.val ++ c :: (ds.drop p).map C.val) ++ List.replicate n .no
theorem slotsR_get {p n i : Nat} {c x : C} {ds : List Py} (hp : p ≤ ds.length) (h : (slotsR p n c ds)[i]? = some x) : (i = p ∧ x = c) ∨ x = .no ∨ ∃ d, x = .val d ∧ ((i < p ∧ ds[i]? = some d) ∨ (p < i ∧ ds[i - 1]? = some d)) := by
  unfold slotsR at h
  have lt : ((ds.take p).map C.val).length = p := by rw [List.length_map, List.length_take]; omega
  have l1 : ((ds.take p).map C.val ++ c :: (ds.drop p).map C.val).length = ds.length + 1 := by
    rw [List.length_append, lt, List.length_cons, List.length_map, List.length_drop]; omega
  by_cases h1 : i < ds.length + 1
  · rw [List.getElem?_append_left (by rw [l1]; exact h1)] at h
    by_cases h2 : i < p
    · rw [List.getElem?_append_left (by rw [lt]; exact h2), List.getElem?_map, List.getElem?_take, if_pos h2] at h
      obtain ⟨d, hd, rfl⟩ := Option.map_eq_some_iff.mp h
      exact .inr (.inr ⟨d, rfl, .inl ⟨h2, hd⟩⟩)
    · rw [List.getElem?_append_right (by omega), lt] at h
      by_cases h3 : i = p
      · subst h3
        rw [Nat.sub_self] at h
        exact .inl ⟨rfl, (Option.some.inj h).symm⟩
      · obtain ⟨j, rfl⟩ : ∃ j, i = p + (j + 1) := ⟨i - p - 1, by omega⟩
        rw [Nat.add_sub_cancel_left, List.getElem?_cons_succ, List.getElem?_map, List.getElem?_drop] at h
        obtain ⟨d, hd, rfl⟩ := Option.map_eq_some_iff.mp h
        exact .inr (.inr ⟨d, rfl, .inr ⟨by omega, by rw [show p + (j + 1) - 1 = p + j by omega]; exact hd⟩⟩)
  · rw [List.getElem?_append_right (by omega)] at h
    exact .inr (.inl (List.eq_of_mem_replicate (List.mem_of_getElem? h)))
section
variable {K : PySem.W.Frag} {F H : Hp}
theorem rs_startR {N : List Str} {vs : List V} {ds : List Py} {p n : Nat} {a : Addr} {c : C} (e : Same F H) (hp : p < vs.length) (hv : vs[p]? = some (.ref a)) (r : RpL K F (vs.eraseIdx p) ds) (o : OwnC K F H a c) (hc : calmC c = false) (hn : vs.length + n = N.length) :
    RS K [p] (fun b => if b = a then none else foreign F H b) (fun _ => a) F H (slotsR p n c ds) (L2.start N vs) := by
  have hl : ds.length + 1 = vs.length := by
    have := r.len
    rw [List.length_eraseIdx, if_pos hp] at this
    omega
  have hpl : p ≤ ds.length := by omega
  have own : ∀ {i b}, Own (slotsR p n c ds) (L2.start N vs) i b → i = p ∧ b = a := fun {i b} ⟨e1, x, e2, hx⟩ => by
    rcases slotsR_get hpl e2 with ⟨h1, h2⟩ | rfl | ⟨d, rfl, _⟩
    · subst h1
      rw [start_get hv] at e1
      cases e1
      exact ⟨rfl, rfl⟩
    · cases hx
    · cases hx
  refine ⟨e, ?_, fun b u h => ?_, fun i x h => ?_, fun i j b n h1 h2 => n ((own h1).1.trans (own h2).1.symm), fun i b h1 => ?_, fun i hi => ?_⟩
  · unfold slotsR L2.start
    rw [List.length_append, List.length_append, List.length_append, List.length_map, List.length_map, List.length_cons, List.length_map, List.length_replicate, List.length_replicate, List.length_take, List.length_drop]
    omega
  · by_cases hb : b = a
    · rw [if_pos hb] at h; cases h
    · rw [if_neg hb] at h
      exact foreign_frm F H b u h
  · rcases slotsR_get hpl h with ⟨h1, h2⟩ | rfl | ⟨d, rfl, hd⟩
    · subst h1 h2
      rw [start_get hv]
      cases x with
      | no => cases hc
      | val d => cases hc
      | ml l => exact ⟨a, rfl, o⟩
      | md l => exact ⟨a, rfl, o⟩
    · trivial
    · rcases hd with ⟨h1, hd⟩ | ⟨h1, hd⟩
      · obtain ⟨v, e1, e2⟩ := r.get hd
        rw [erase_get, if_pos h1] at e1
        exact ⟨v, start_get e1, e2⟩
      · obtain ⟨v, e1, e2⟩ := r.get hd
        rw [erase_get, if_neg (by omega), show i - 1 + 1 = i by omega] at e1
        exact ⟨v, start_get e1, e2⟩
  · show (if b = a then none else foreign F H b) = none
    rw [if_pos (own h1).2]
  · rw [List.mem_singleton.mp hi]
    exact start_get hv
end
section
variable {P : Program} {w : World} {K : PySem.W.Frag} {mg : Str → Option Value} {base : Heap}
theorem mDefR_some {p np n : Nat} {m : S} {c : C} {ds : List Py} {q : Py × C} (h : mDefR p np n m c ds = some q) : ds.length + 1 = np ∧ p ≤ ds.length ∧ calmC c = false ∧ calmC q.2 = false ∧ ∃ fl ρ', m (slotsR p n c ds) = some (fl, ρ') ∧ finP fl = some q.1 ∧ ρ'[p]? = some q.2 := by
  unfold mDefR at h
  by_cases hc : ds.length + 1 = np ∧ p ≤ ds.length ∧ calmC c = false
  · rw [if_pos hc] at h
    obtain ⟨⟨fl, ρ'⟩, h1, h⟩ := Option.bind_eq_some_iff.mp h
    obtain ⟨d, h2, h⟩ := Option.bind_eq_some_iff.mp h
    obtain ⟨c', h3, h⟩ := Option.bind_eq_some_iff.mp h
    by_cases hc' : calmC c' = false
    · rw [if_pos hc'] at h
      cases h
      exact ⟨hc.1, hc.2.1, hc.2.2, hc', fl, ρ', h1, h2, h3⟩
    · rw [if_neg hc'] at h
      cases h
  · rw [if_neg hc] at h
    cases h
theorem hfr_of {p np n : Nat} {m : S} {c : C} {ds : List Py} {d : Py} {c' : C} (h : mDefR p np n m c ds = some (d, c')) : calmC c = false ∧ calmC c' = false := ⟨(mDefR_some h).2.2.1, (mDefR_some h).2.2.2.1⟩
/-- a def that changes what it gets in place p -/
theorem def_okR {x qual : Str} {st : Stmt} {f : Addr} {fd : FuncData} {N ps : List Str} {k n p : Nat} {m : S} (Fu : Fun K x qual st f fd) (S : FnScope N ps (defScope st)) (hn : ps.length + n = N.length)
    (body : ∀ (cdv : Value) (A : Around) (outer : List Env) (s : Shared) (H : Hp) (E : XK), Room k (A.deeper (envOfC qual (defScope st) s.heap.objs.size f cdv)) →
      DSs (cxOf CX0 P w K mg base N qual (defScope st) f cdv A outer s H E).nox [p] (defBody st) m) : FnOk P w K mg base CX0 (k + 1) f fd ps (spR K p (mDefR p ps.length n m)) := by
  refine Fu.ok S (fun vs H Q E h => ?_) (fun cdv A outer s H vs Q E hr h => ⟨_, body cdv A outer s H E hr, ?_⟩)
  · obtain ⟨F, ds, d, c, c', a, _, hp, _, r, _, hd, _⟩ := h
    obtain ⟨hl, _⟩ := mDefR_some hd
    have := r.len
    rw [List.length_eraseIdx, if_pos hp] at this
    omega
  · obtain ⟨F, ds, d, c, c', a, e, hp, hv, r, o, hd, q⟩ := h
    obtain ⟨hl, hpl, hc, hc', fl, ρ', h1, h2, h3⟩ := mDefR_some hd
    have hlen := r.len
    rw [List.length_eraseIdx, if_pos hp] at hlen
    obtain ⟨fa, u0, hu0⟩ := o.at
    refine ⟨_, _, F, _, fl, ρ', rs_startR (n := n) e hp hv r o hc (by omega), h1, fun σ' F' H' s' R' => ?_⟩
    have fin : ∀ v, Rp K F' v d → Q v H' := fun v rv => by
      obtain ⟨a', e1, o', _⟩ := own_at R' h3 hc'
      have e2 := R'.pin p (List.mem_singleton.mpr rfl)
      rw [e1] at e2
      cases e2
      obtain ⟨fa', _⟩ := o'.at
      refine q v F' H' s' R'.ex (fun b u hb n => ?_) (fun b u hb => ?_) o' rv
      · cases z : F b with
        | none =>
          refine (R'.frm b u ?_).1
          rw [if_neg n]
          unfold foreign
          rw [z]
          exact hb
        | some u' =>
          have := e b u' z
          rw [hb] at this
          cases this
          exact R'.ex b _ (s' b _ z)
      · cases z : F b with
        | some u' =>
          have := s' b u' z
          rw [hb] at this
          cases this
          exact .inl rfl
        | none =>
          cases z2 : H b with
          | none => exact .inr rfl
          | some u' =>
            by_cases n : b = a
            · rw [n, fa'] at hb; cases hb
            · have := (R'.frm b u' (by rw [if_neg n]; unfold foreign; rw [z]; exact z2)).2
              rw [hb] at this
              cases this
    cases fl with
    | nx =>
      cases h2
      exact fin _ .non
    | rt d' =>
      cases h2
      exact fin
    | bk => cases h2
    | ct => cases h2
end
/-! ### the law -/
def spLaw (K : PySem.W.Frag) : Sp := fun vs H Q _ => ∃ (a : Addr) (ns : List Int), vs = [.ref a] ∧ SqL K H a (ns.map V.int) ∧ ns.length ≤ 63 ∧ ∀ H', Q (.bl true) H'
/-- the pool of a script: a new list, its first item a new list -/
def spPool (K : PySem.W.Frag) : Sp := fun vs H Q _ => ∃ (a : Addr) (ns : List Int), vs = [.ref a] ∧ SqL K H a (ns.map V.int) ∧ ns.length ≤ 63 ∧
  ∀ p q H', Same H H' → H p = none → H q = none → p ≠ q → H' q = some (.lst (ns.map V.int)) → H' p = some (.lst [.ref q, .int 0, .int 0, .int 0, .int (saltOf ns)]) → Q (.ref p) H'
section
variable {P : Program} {w : World} {K : PySem.W.Frag} {mg : Str → Option Value} {base : Heap}
theorem law_ok {x qual : Str} {st s1 : Stmt} {rest : List Stmt} {f : Addr} {fd : FuncData} {N : List Str} {k n : Nat} {m : S} (Fu : Fun K x qual st f fd) (S : FnScope N ["script"] (defScope st)) (hn : n + 2 = N.length) (hb : defBody st = s1 :: rest)
    (body : ∀ (cdv : Value) (A : Around) (outer : List Env) (s : Shared) (H : Hp) (E : XK), Room k (A.deeper (envOfC qual (defScope st) s.heap.objs.size f cdv)) →
      PS (cxOf CX0 P w K mg base N qual (defScope st) f cdv A outer s H E).nox s1 (tAsg (fun σ H Q => ∃ v, σ[0]? = some (some v) ∧ spPool K [v] H Q E0) (gName 1)) ∧
      DSs (cxOf CX0 P w K mg base N qual (defScope st) f cdv A outer s H E).nox [] rest m)
    (math : ∀ ns : List Int, ns.length ≤ 63 → mLaw n m ns = some (.bool true)) : FnOk P w K mg base CX0 (k + 1) f fd ["script"] (spLaw K) := by
  refine Fu.ok S (fun vs H Q E h => ?_) (fun cdv A outer s H vs Q E hr h => ⟨_, (by rw [hb]; exact pss_cons (body cdv A outer s H E hr).1 (body cdv A outer s H E hr).2), ?_⟩)
  · obtain ⟨a, ns, rfl, _⟩ := h
    rfl
  · obtain ⟨a, ns, rfl, hs, hl, q⟩ := h
    have hst : L2.start N [.ref a] = some (.ref a) :: none :: List.replicate n none := by
      unfold L2.start
      rw [List.map_singleton, List.length_singleton, show N.length - 1 = n + 1 by omega]
      rfl
    rw [hst]
    refine ⟨.ref a, rfl, a, ns, rfl, hs, hl, fun p z H' s' fp fz hz ez ep => ?_⟩
    have hm := math ns hl
    obtain ⟨⟨fl, ρ'⟩, h1, h2⟩ := Option.bind_eq_some_iff.mp hm
    let F : Hp := fun b => if b = z then some (.lst (ns.map V.int)) else none
    have fF : ∀ b u, F b = some u → b = z ∧ u = .lst (ns.map V.int) := fun b u e => by
      by_cases hb : b = z
      · exact ⟨hb, by rw [show F b = some (.lst (ns.map V.int)) from if_pos hb] at e; exact (Option.some.inj e).symm⟩
      · rw [show F b = none from if_neg hb] at e
        cases e
    have Fz : F z = some (.lst (ns.map V.int)) := if_pos rfl
    have Fp : F p = none := if_neg hz
    have own : ∀ {i b}, Own (.no :: .ml (poolD ns) :: List.replicate n .no) (some (.ref a) :: some (.ref p) :: List.replicate n none) i b → i = 1 ∧ b = p := fun {i b} ⟨e1, c, e2, hc⟩ => by
      match i, e1, e2 with
      | 0, _, e2 => cases e2; cases hc
      | 1, e1, _ => cases e1; exact ⟨rfl, rfl⟩
      | i + 2, _, e2 =>
        have : c = .no := List.eq_of_mem_replicate (List.mem_of_getElem? (show (List.replicate n C.no)[i]? = some c from e2))
        rw [this] at hc
        cases hc
    have R : RS K [] H (fun _ => 0) F H' (.no :: .ml (poolD ns) :: List.replicate n .no) (some (.ref a) :: some (.ref p) :: List.replicate n none) := by
      refine ⟨fun b u e => ?_, ?_, fun b u e => ⟨s' b u e, ?_⟩, fun i c e => ?_, fun i j b hne h1 h2 => hne ((own h1).1.trans (own h2).1.symm), fun i b h1 => by rw [(own h1).2]; exact fp, fun i h => by simp at h⟩
      · obtain ⟨rfl, rfl⟩ := fF b u e
        exact ez
      · simp
      · exact if_neg (ne_of_none e fz)
      · match i, e with
        | 0, e => cases e; trivial
        | 1, e =>
          cases e
          exact ⟨p, rfl, Fp, _, ep, .cons (.lst Fz (.ofInts ns)) (.cons (.int 0) (.cons (.int 0) (.cons (.int 0) (.cons (.int _) .nil))))⟩
        | i + 2, e =>
          have : c = .no := List.eq_of_mem_replicate (List.mem_of_getElem? (show (List.replicate n C.no)[i]? = some c from e))
          rw [this]
          trivial
    refine ⟨H, fun _ => 0, F, _, fl, ρ', R, h1, fun σ' F2 H2 s2 R2 => ?_⟩
    cases fl with
    | nx => cases h2
    | rt d' =>
      cases h2
      exact fun v rv => by
        cases rv
        exact q H2
    | bk => cases h2
    | ct => cases h2
end
end DL

set_option maxRecDepth 100000
/-! DLR7: words of the printed derivations. -/
namespace DL
open PySem PySem.Spec PyProof.Rows L2
def mNew {α : Type} (g : Py → Option α) (a : M Py) : M α := bnd a fun x => lif (g x)
def iList (a : M Py) : I := bnd a fun x => lif (asL x)
def asT : Py → Option (List Py)
  | .tuple l => some l
  | _ => none
def iTup (a : M Py) : I := bnd a fun x => lif (asT x)
def gAddI : Py → Py → Option Py
  | .int a, .int b => some (.int (a + b))
  | _, _ => none
theorem o_iadd {K : PySem.W.Frag} : Op2 K (rI0 fun i j => .int (i + j)) gAddI := o_ii (c := fun _ _ => True) (f' := fun i j => .int (i + j)) (fun i j F => .int _) (fun x y z h => by
  cases x with
  | int i =>
    cases y with
    | int j => exact ⟨i, j, rfl, rfl, trivial, Option.some.inj h⟩
    | _ => cases h
  | _ => cases h) fun i j H Q _ q => ⟨i, j, rfl, rfl, q⟩
theorem hu66_of {A : Around} {k : Nat} (hr : Room k A) : A.units + 66 < cLine := by have := hr.un; omega
theorem hu70_of {A : Around} {k : Nat} (hr : Room k A) : A.units + 70 < cLine := by have := hr.un; omega
theorem none_okP {P : Program} {w : World} {K : PySem.W.Frag} {mg : Str → Option Value} {base : Heap} {k : Nat} {f : Addr} {fd : FuncData} {ps : List Str} : FnOk P w K mg base CX0 k f fd ps (spP K fun _ => none) := by
  have no : ∀ vs H Q E, ¬ spP K (fun _ => none) vs H Q E := fun vs H Q E h => by
    obtain ⟨_, _, _, _, _, z, _⟩ := h
    cases z
  exact ⟨fun vs H Q E h => absurd h (no vs H Q E), fun A outer s H args us vs Q E _ _ _ _ h => absurd h (no vs H Q E)⟩
theorem none_okR {P : Program} {w : World} {K : PySem.W.Frag} {mg : Str → Option Value} {base : Heap} {k p : Nat} {f : Addr} {fd : FuncData} {ps : List Str} : FnOk P w K mg base CX0 k f fd ps (spR K p fun _ _ => none) := by
  have no : ∀ vs H Q E, ¬ spR K p (fun _ _ => none) vs H Q E := fun vs H Q E h => by
    obtain ⟨_, _, _, _, _, _, _, _, _, _, _, z, _⟩ := h
    cases z
  exact ⟨fun vs H Q E h => absurd h (no vs H Q E), fun A outer s H args us vs Q E _ _ _ _ h => absurd h (no vs H Q E)⟩
theorem blkOk_rfl {N : List Str} {sc scope : Scope} {own : List (Str × Nat)} (h : blkC N sc scope own = true) : BlkOk N sc scope own := blkOk_by h
/-! the pool -/
theorem salt_step (ns : List Int) (i : Nat) {z : Int} (h : ns[i]? = some z) : (ns.take (i + 1)).foldl (fun s c => (s * 31 + c) % 1000003) 7 = ((ns.take i).foldl (fun s c => (s * 31 + c) % 1000003) 7 * 31 + z) % 1000003 := by
  rw [List.take_add_one, h, List.foldl_append]
  rfl
theorem pool_cut {ns : List Int} (h : ns.length ≤ 63) : cutV (ns.map V.int) none (some 63) = ns.map V.int := by
  unfold cutV
  rw [show HT.sIx (ns.map V.int).length (ns.map V.int).length (some 63) = min 63 (ns.map V.int).length from HT.sIx_nat _ _ 63, HT.sIx_none, List.length_map]
  show (List.take (min 63 ns.length - 0) (ns.map V.int)) = _
  exact List.take_of_length_le (by rw [List.length_map]; omega)
end DL

set_option maxRecDepth 100000
/-! DLW: what a mirror answers, step by step (the rules of simp); the words of every law: its pool, its comparison. -/
namespace DL
open PySem L2
variable {α β : Type}
def Ok (m : M α) (ρ : Rho) (Q : α → Rho → Prop) : Prop := ∃ a ρ', m ρ = some (a, ρ') ∧ Q a ρ'
def OkO (o : Option α) (ρ : Rho) (Q : α → Rho → Prop) : Prop := ∃ a, o = some a ∧ Q a ρ
def OkR (o : Option (Py × C)) (i : Nat) (ρ : Rho) (Q : Py → Rho → Prop) : Prop := ∃ d c, o = some (d, c) ∧ Q d (ρ.set i c)
theorem Ok.imp {m : M α} {ρ : Rho} {Q Q' : α → Rho → Prop} (h : Ok m ρ Q) (k : ∀ a ρ', Q a ρ' → Q' a ρ') : Ok m ρ Q' := by
  obtain ⟨a, ρ', e, q⟩ := h
  exact ⟨a, ρ', e, k _ _ q⟩
@[simp] theorem OkO_some {a : α} {ρ : Rho} {Q : α → Rho → Prop} : OkO (some a) ρ Q ↔ Q a ρ := ⟨fun ⟨_, e, q⟩ => by cases e; exact q, fun q => ⟨a, rfl, q⟩⟩
@[simp] theorem OkR_some {d : Py} {c : C} {i : Nat} {ρ : Rho} {Q : Py → Rho → Prop} : OkR (some (d, c)) i ρ Q ↔ Q d (ρ.set i c) := ⟨fun ⟨_, _, e, q⟩ => by cases e; exact q, fun q => ⟨d, c, rfl, q⟩⟩
@[simp] theorem Ok_ret {a : α} {ρ : Rho} {Q : α → Rho → Prop} : Ok (ret a) ρ Q ↔ Q a ρ := ⟨fun ⟨_, _, e, q⟩ => by cases e; exact q, fun q => ⟨a, ρ, rfl, q⟩⟩
theorem Ok_bnd {m : M α} {f : α → M β} {ρ : Rho} {Q : β → Rho → Prop} : Ok (bnd m f) ρ Q ↔ Ok m ρ fun a ρ' => Ok (f a) ρ' Q := by
  constructor
  · rintro ⟨b, ρ2, e, q⟩
    obtain ⟨a, ρ1, h1, h2⟩ := bnd_some e
    exact ⟨a, ρ1, h1, b, ρ2, h2, q⟩
  · rintro ⟨a, ρ1, h1, b, ρ2, h2, q⟩
    exact ⟨b, ρ2, by unfold bnd; rw [h1]; exact h2, q⟩
theorem Ok_lif {o : Option α} {ρ : Rho} {Q : α → Rho → Prop} : Ok (lif o) ρ Q ↔ OkO o ρ Q := by
  cases o with
  | none => exact ⟨fun ⟨_, _, e, _⟩ => (by cases e), fun ⟨_, e, _⟩ => (by cases e)⟩
  | some a => exact ⟨fun ⟨_, _, e, q⟩ => (by cases e; exact ⟨_, rfl, q⟩), fun ⟨_, e, q⟩ => (by cases e; exact ⟨_, _, rfl, q⟩)⟩
theorem Ok_setC {i : Nat} {c : C} {ρ : Rho} {Q : Unit → Rho → Prop} : Ok (setC i c) ρ Q ↔ Q () (ρ.set i c) := ⟨fun ⟨_, _, e, q⟩ => by cases e; exact q, fun q => ⟨(), _, rfl, q⟩⟩
theorem Ok_of {o : Option α} {m : M β} {g : α → β × Rho} {ρ : Rho} {Q : β → Rho → Prop} (h : m ρ = o.bind fun a => some (g a)) : Ok m ρ Q ↔ OkO o ρ fun a _ => Q (g a).1 (g a).2 := by
  unfold Ok OkO
  rw [h]
  cases o with
  | none => exact ⟨fun ⟨_, _, e, _⟩ => absurd e (by simp), fun ⟨_, e, _⟩ => absurd e (by simp)⟩
  | some a => exact ⟨fun ⟨_, _, e, q⟩ => ⟨a, rfl, by rw [Option.bind_some] at e; rw [Option.some.inj e]; exact q⟩, fun ⟨b, e, q⟩ => ⟨_, _, rfl, by rw [Option.some.inj e]; exact q⟩⟩
@[simp] theorem Ok_mC {d : Py} {ρ : Rho} {Q : Py → Rho → Prop} : Ok (mC d) ρ Q ↔ Q d ρ := Ok_ret
/-! names -/
def kVar (c : Option C) (i : Nat) (ρ : Rho) (Q : Py → Rho → Prop) : Prop := OkO (c.bind useC) (ρ) fun d ρ => Q d (ρ.set i (.val d))
@[simp] theorem kVar_val {d : Py} {i : Nat} {ρ : Rho} {Q : Py → Rho → Prop} : kVar (some (.val d)) i ρ Q ↔ Q d (ρ.set i (.val d)) := OkO_some (a := d)
@[simp] theorem kVar_ml {l : List Py} {i : Nat} {ρ : Rho} {Q : Py → Rho → Prop} : kVar (some (.ml l)) i ρ Q ↔ Q (.list l) (ρ.set i (.val (.list l))) := OkO_some (a := PyData.list l)
@[simp] theorem kVar_md {l : List (Py × Py)} {i : Nat} {ρ : Rho} {Q : Py → Rho → Prop} : kVar (some (.md l)) i ρ Q ↔ Q (.dict l) (ρ.set i (.val (.dict l))) := OkO_some (a := PyData.dict l)
@[simp] theorem Ok_mVar {i : Nat} {ρ : Rho} {Q : Py → Rho → Prop} : Ok (mVar i) ρ Q ↔ kVar ρ[i]? i ρ Q := Ok_of (g := fun d => (d, ρ.set i (.val d))) rfl
def kPk (c : Option C) (ρ : Rho) (Q : Py → Rho → Prop) : Prop := OkO (c.bind useC) ρ Q
@[simp] theorem kPk_val {d : Py} {ρ : Rho} {Q : Py → Rho → Prop} : kPk (some (.val d)) ρ Q ↔ Q d ρ := OkO_some (a := d)
@[simp] theorem kPk_ml {l : List Py} {ρ : Rho} {Q : Py → Rho → Prop} : kPk (some (.ml l)) ρ Q ↔ Q (.list l) ρ := OkO_some (a := PyData.list l)
@[simp] theorem kPk_md {l : List (Py × Py)} {ρ : Rho} {Q : Py → Rho → Prop} : kPk (some (.md l)) ρ Q ↔ Q (.dict l) ρ := OkO_some (a := PyData.dict l)
@[simp] theorem Ok_mPk {i : Nat} {ρ : Rho} {Q : Py → Rho → Prop} : Ok (mPk i) ρ Q ↔ kPk ρ[i]? ρ Q := Ok_of (g := fun d => (d, ρ)) rfl
/-! operators: what is left is a word of its own, so that simp goes from left to right -/
def kOp1 (g : α → Option β) (Q : β → Rho → Prop) (x : α) (ρ : Rho) : Prop := OkO (g x) ρ Q
def kOp2a {γ δ : Type} (g : α → β → Option γ) (b : M β) (Q : γ → Rho → Prop) (x : α) (ρ : Rho) : Prop := Ok b ρ fun y ρ => OkO (g x y) ρ Q
def kOp2b {γ : Type} (g : α → β → Option γ) (Q : γ → Rho → Prop) (x : α) (y : β) (ρ : Rho) : Prop := OkO (g x y) ρ Q
section
variable {ρ : Rho} {Q : Py → Rho → Prop} {g g' : Py → Py → Option Py} {a b c : M Py} {x y : Py}
@[simp] theorem Ok_mOp1 {g : Py → Option Py} : Ok (mOp1 g a) ρ Q ↔ Ok a ρ (kOp1 g Q) := by
  unfold mOp1 kOp1; rw [Ok_bnd]; simp only [Ok_lif]
@[simp] theorem kOp1_at {g : α → Option β} {Q : β → Rho → Prop} {x : α} : kOp1 g Q x ρ ↔ OkO (g x) ρ Q := ⟨fun h => h, fun h => h⟩
@[simp] theorem Ok_mOp2 : Ok (mOp2 g a b) ρ Q ↔ Ok a ρ (kOp2a (δ := Unit) g b Q) := by
  unfold mOp2 kOp2a; rw [Ok_bnd]; simp only [Ok_bnd, Ok_lif]
@[simp] theorem kOp2a_at {γ δ : Type} {g : α → β → Option γ} {b : M β} {Q : γ → Rho → Prop} {x : α} : kOp2a (δ := δ) g b Q x ρ ↔ Ok b ρ (kOp2b g Q x) := ⟨fun h => h, fun h => h⟩
@[simp] theorem kOp2b_at {γ : Type} {g : α → β → Option γ} {Q : γ → Rho → Prop} {x : α} {y : β} : kOp2b g Q x y ρ ↔ OkO (g x y) ρ Q := ⟨fun h => h, fun h => h⟩
def kOpV (g : Py → Py → Option Py) (i : Nat) (Q : Py → Rho → Prop) (y : Py) (ρ : Rho) : Prop := kPk ρ[i]? ρ fun x ρ => OkO (g x y) ρ Q
def kVal (g : Py → Option Py) (Q : Py → Rho → Prop) (x : Py) (ρ : Rho) : Prop := OkO (g x) ρ Q
@[simp] theorem Ok_mOpV {i : Nat} {x : Py} (h : (ρ[i]?.bind useC) = some x) : Ok (mOpV g i b) ρ Q ↔ Ok b ρ (kOpV g i Q) := by
  unfold mOpV kOpV; rw [Ok_bnd]; simp only [Ok_bnd, Ok_lif, Ok_mPk]
  unfold kPk
  rw [h, OkO_some]
@[simp] theorem kOpV_at {i : Nat} : kOpV g i Q y ρ ↔ kPk ρ[i]? ρ (kOp1 (fun x => g x y) Q) := ⟨fun h => h, fun h => h⟩
def kTest (Q : Bool → Rho → Prop) (x : Py) (ρ : Rho) : Prop := OkO (asB x) ρ Q
@[simp] theorem Ok_mTest {Q : Bool → Rho → Prop} : Ok (mTest a) ρ Q ↔ Ok a ρ (kTest Q) := by
  unfold mTest kTest; rw [Ok_bnd]; simp only [Ok_lif]
@[simp] theorem kTest_at {Q : Bool → Rho → Prop} {k : Bool} : kTest Q (.bool k) ρ ↔ Q k ρ := OkO_some
def kAnd (b : M Bool) (Q : Bool → Rho → Prop) (k : Bool) (ρ : Rho) : Prop := if k = true then Ok b ρ Q else Q false ρ
def kOr (b : M Bool) (Q : Bool → Rho → Prop) (k : Bool) (ρ : Rho) : Prop := if k = true then Q true ρ else Ok b ρ Q
def kNot (Q : Bool → Rho → Prop) (k : Bool) (ρ : Rho) : Prop := Q (!k) ρ
def kIf (a b : M α) (Q : α → Rho → Prop) (k : Bool) (ρ : Rho) : Prop := if k = true then Ok a ρ Q else Ok b ρ Q
theorem Ok_ite {p : Prop} [Decidable p] {a b : M α} {Q : α → Rho → Prop} : Ok (if p then a else b) ρ Q ↔ if p then Ok a ρ Q else Ok b ρ Q := by
  by_cases h : p <;> simp only [h, if_true, if_false]
section
variable {Q : Bool → Rho → Prop} {a b : M Bool} {k : Bool}
@[simp] theorem Ok_mAnd : Ok (mAnd a b) ρ Q ↔ Ok a ρ (kAnd b Q) := by
  unfold mAnd kAnd; rw [Ok_bnd]; simp only [Ok_ite, Ok_ret]
@[simp] theorem kAnd_at : kAnd b Q k ρ ↔ if k = true then Ok b ρ Q else Q false ρ := ⟨fun h => h, fun h => h⟩
@[simp] theorem Ok_mOr : Ok (mOr a b) ρ Q ↔ Ok a ρ (kOr b Q) := by
  unfold mOr kOr; rw [Ok_bnd]; simp only [Ok_ite, Ok_ret]
@[simp] theorem kOr_at : kOr b Q k ρ ↔ if k = true then Q true ρ else Ok b ρ Q := ⟨fun h => h, fun h => h⟩
@[simp] theorem Ok_mNot : Ok (mNot a) ρ Q ↔ Ok a ρ (kNot Q) := by
  unfold mNot kNot; rw [Ok_bnd]; simp only [Ok_ret]
@[simp] theorem kNot_at : kNot Q k ρ ↔ Q (!k) ρ := ⟨fun h => h, fun h => h⟩
end
@[simp] theorem Ok_mIf {c : M Bool} {a b : M α} {Q : α → Rho → Prop} : Ok (mIf c a b) ρ Q ↔ Ok c ρ (kIf a b Q) := by
  unfold mIf kIf; rw [Ok_bnd]; simp only [Ok_ite]
@[simp] theorem kIf_at {a b : M α} {Q : α → Rho → Prop} {k : Bool} : kIf a b Q k ρ ↔ if k = true then Ok a ρ Q else Ok b ρ Q := ⟨fun h => h, fun h => h⟩
def kAndV (b : M Py) (Q : Py → Rho → Prop) (k : Bool) (ρ : Rho) : Prop := if k = true then Ok b ρ Q else Q (.bool false) ρ
def kOrV (b : M Py) (Q : Py → Rho → Prop) (k : Bool) (ρ : Rho) : Prop := if k = true then Q (.bool true) ρ else Ok b ρ Q
def kNotV (Q : Py → Rho → Prop) (k : Bool) (ρ : Rho) : Prop := Q (.bool (!k)) ρ
@[simp] theorem Ok_mAndV : Ok (mAndV a b) ρ Q ↔ Ok a ρ (kTest (kAndV b Q)) := by
  unfold mAndV kAndV; rw [Ok_bnd, Ok_mTest]; simp only [Ok_ite, Ok_ret]
@[simp] theorem kAndV_at {k : Bool} : kAndV b Q k ρ ↔ if k = true then Ok b ρ Q else Q (.bool false) ρ := ⟨fun h => h, fun h => h⟩
@[simp] theorem Ok_mOrV : Ok (mOrV a b) ρ Q ↔ Ok a ρ (kTest (kOrV b Q)) := by
  unfold mOrV kOrV; rw [Ok_bnd, Ok_mTest]; simp only [Ok_ite, Ok_ret]
@[simp] theorem kOrV_at {k : Bool} : kOrV b Q k ρ ↔ if k = true then Q (.bool true) ρ else Ok b ρ Q := ⟨fun h => h, fun h => h⟩
@[simp] theorem Ok_mNotV : Ok (mNotV a) ρ Q ↔ Ok a ρ (kTest (kNotV Q)) := by
  unfold mNotV kNotV; rw [Ok_bnd, Ok_mTest]; simp only [Ok_ret]
@[simp] theorem kNotV_at {k : Bool} : kNotV Q k ρ ↔ Q (.bool (!k)) ρ := ⟨fun h => h, fun h => h⟩
def kCh1 (g g' : Py → Py → Option Py) (b c : M Py) (Q : Py → Rho → Prop) (x : Py) (ρ : Rho) : Prop := Ok b ρ fun y ρ => OkO ((g x y).bind asB) ρ fun k ρ => if k = true then Ok c ρ fun z ρ => OkO (g' y z) ρ Q else Q (.bool false) ρ
def kCh2 (g g' : Py → Py → Option Py) (c : M Py) (Q : Py → Rho → Prop) (x y : Py) (ρ : Rho) : Prop := OkO ((g x y).bind asB) ρ fun k ρ => if k = true then Ok c ρ fun z ρ => OkO (g' y z) ρ Q else Q (.bool false) ρ
def kCh3 (g' : Py → Py → Option Py) (c : M Py) (Q : Py → Rho → Prop) (y : Py) (k : Bool) (ρ : Rho) : Prop := if k = true then Ok c ρ fun z ρ => OkO (g' y z) ρ Q else Q (.bool false) ρ
@[simp] theorem Ok_mChain : Ok (mChain g g' a b c) ρ Q ↔ Ok a ρ (kCh1 g g' b c Q) := by
  unfold mChain kCh1; rw [Ok_bnd]; simp only [Ok_bnd, Ok_lif, Ok_ite, Ok_ret]
@[simp] theorem kCh1_at : kCh1 g g' b c Q x ρ ↔ Ok b ρ (kCh2 g g' c Q x) := ⟨fun h => h, fun h => h⟩
@[simp] theorem kCh2_at : kCh2 g g' c Q x y ρ ↔ OkO ((g x y).bind asB) ρ (kCh3 g' c Q y) := ⟨fun h => h, fun h => h⟩
@[simp] theorem kCh3_at {k : Bool} : kCh3 g' c Q y k ρ ↔ if k = true then Ok c ρ (kOp2b g' Q y) else Q (.bool false) ρ := ⟨fun h => h, fun h => h⟩
/-! slices -/
def kPart (Q : Option Int → Rho → Prop) (x : Py) (ρ : Rho) : Prop := OkO ((asI x).map some) ρ Q
@[simp] theorem Ok_mNoPart {Q : Option Int → Rho → Prop} : Ok mNoPart ρ Q ↔ Q none ρ := Ok_ret
@[simp] theorem Ok_mPart {Q : Option Int → Rho → Prop} : Ok (mPart a) ρ Q ↔ Ok a ρ (kPart Q) := by
  unfold mPart kPart; rw [Ok_bnd]; simp only [Ok_lif]
@[simp] theorem kPart_at {Q : Option Int → Rho → Prop} {i : Int} : kPart Q (.int i) ρ ↔ Q (some i) ρ := OkO_some
def kSl1 (g : Py → Option Int → Option Int → Option β) (lo hi : MO) (Q : β → Rho → Prop) (x : Py) (ρ : Rho) : Prop := Ok lo ρ fun l ρ => Ok hi ρ fun h ρ => OkO (g x l h) ρ Q
def kSl2 (g : Py → Option Int → Option Int → Option β) (hi : MO) (Q : β → Rho → Prop) (x : Py) (l : Option Int) (ρ : Rho) : Prop := Ok hi ρ fun h ρ => OkO (g x l h) ρ Q
def kSl3 (g : Py → Option Int → Option Int → Option β) (Q : β → Rho → Prop) (x : Py) (l h : Option Int) (ρ : Rho) : Prop := OkO (g x l h) ρ Q
@[simp] theorem Ok_mSl {lo hi : MO} : Ok (mSl a lo hi) ρ Q ↔ Ok a ρ (kSl1 gSl lo hi Q) := by
  unfold mSl kSl1; rw [Ok_bnd]; simp only [Ok_bnd, Ok_lif]
@[simp] theorem Ok_mSlL {lo hi : MO} {Q : List Py → Rho → Prop} : Ok (mSlL a lo hi) ρ Q ↔ Ok a ρ (kSl1 gSlL lo hi Q) := by
  unfold mSlL kSl1; rw [Ok_bnd]; simp only [Ok_bnd, Ok_lif]
section
variable {G : Py → Option Int → Option Int → Option β} {lo hi : MO} {Q : β → Rho → Prop} {l h : Option Int}
@[simp] theorem kSl1_at : kSl1 G lo hi Q x ρ ↔ Ok lo ρ (kSl2 G hi Q x) := ⟨fun h => h, fun h => h⟩
@[simp] theorem kSl2_at : kSl2 G hi Q x l ρ ↔ Ok hi ρ (kSl3 G Q x l) := ⟨fun h => h, fun h => h⟩
@[simp] theorem kSl3_at : kSl3 G Q x l h ρ ↔ OkO (G x l h) ρ Q := ⟨fun h => h, fun h => h⟩
end
/-! arguments, displays -/
variable {as : M (List Py)} {L : List Py → Rho → Prop} {l : List Py}
def kCons1 (r : M (List Py)) (Q : List Py → Rho → Prop) (x : Py) (ρ : Rho) : Prop := Ok r ρ fun l ρ => Q (x :: l) ρ
def kCons2 (Q : List Py → Rho → Prop) (x : Py) (l : List Py) (ρ : Rho) : Prop := Q (x :: l) ρ
@[simp] theorem Ok_mNil : Ok mNil ρ L ↔ L [] ρ := Ok_ret
@[simp] theorem Ok_mCons : Ok (mCons a as) ρ L ↔ Ok a ρ (kCons1 as L) := by
  unfold mCons kCons1; rw [Ok_bnd]; simp only [Ok_bnd, Ok_ret]
@[simp] theorem kCons1_at : kCons1 as L x ρ ↔ Ok as ρ (kCons2 L x) := ⟨fun h => h, fun h => h⟩
@[simp] theorem kCons2_at : kCons2 L x l ρ ↔ L (x :: l) ρ := ⟨fun h => h, fun h => h⟩
def kTup (Q : Py → Rho → Prop) (l : List Py) (ρ : Rho) : Prop := OkO ((few l).map .tuple) ρ Q
@[simp] theorem Ok_mTup : Ok (mTup as) ρ Q ↔ Ok as ρ (kTup Q) := by
  unfold mTup kTup; rw [Ok_bnd]; simp only [Ok_lif]
@[simp] theorem kTup_at : kTup Q l ρ ↔ OkO ((few l).map .tuple) ρ Q := ⟨fun h => h, fun h => h⟩
def kLst (Q : List Py → Rho → Prop) (l : List Py) (ρ : Rho) : Prop := OkO (few l) ρ Q
@[simp] theorem Ok_mLst : Ok (mLst as) ρ L ↔ Ok as ρ (kLst L) := by
  unfold mLst kLst; rw [Ok_bnd]; simp only [Ok_lif]
@[simp] theorem kLst_at : kLst L l ρ ↔ OkO (few l) ρ L := ⟨fun h => h, fun h => h⟩
def kFrz (Q : Py → Rho → Prop) (l : List Py) (ρ : Rho) : Prop := Q (.list l) ρ
@[simp] theorem Ok_mFrz : Ok (mFrz as) ρ Q ↔ Ok as ρ (kFrz Q) := by
  unfold mFrz kFrz; rw [Ok_bnd]; simp only [Ok_ret]
@[simp] theorem kFrz_at : kFrz Q l ρ ↔ Q (.list l) ρ := ⟨fun h => h, fun h => h⟩
def kCall (f : List Py → Option Py) (Q : Py → Rho → Prop) (l : List Py) (ρ : Rho) : Prop := OkO (f l) ρ Q
@[simp] theorem Ok_mCall {f : List Py → Option Py} : Ok (mCall f as) ρ Q ↔ Ok as ρ (kCall f Q) := by
  unfold mCall kCall; rw [Ok_bnd]; simp only [Ok_lif]
@[simp] theorem kCall_at {f : List Py → Option Py} : kCall f Q l ρ ↔ OkO (f l) ρ Q := ⟨fun h => h, fun h => h⟩
def kCallR (f : C → List Py → Option (Py × C)) (i : Nat) (Q : Py → Rho → Prop) (l : List Py) (ρ : Rho) : Prop := OkR (ρ[i]?.bind fun c => f c l) i ρ Q
@[simp] theorem Ok_mCallR {f : C → List Py → Option (Py × C)} {i : Nat} : Ok (mCallR f i as) ρ Q ↔ (ρ[i]?.bind fun c => if calmC c = false then some () else none) = some () ∧ Ok as ρ (kCallR f i Q) := by
  unfold mCallR kCallR; rw [Ok_bnd]
  have h2 : ∀ {P : Rho → Prop}, Ok (mHeld i) ρ (fun _ ρ => P ρ) ↔ (ρ[i]?.bind fun c => if calmC c = false then some () else none) = some () ∧ P ρ := fun {P} => by
    have e : mHeld i ρ = (ρ[i]?.bind fun c => if calmC c = false then some () else none).bind fun u => some (u, ρ) := by
      unfold mHeld
      cases ρ[i]? with
      | none => rfl
      | some c =>
        by_cases hc : calmC c = false
        · show (if calmC c = false then some ((), ρ) else none) = (if calmC c = false then some () else none).bind fun u => some (u, ρ)
          rw [if_pos hc, if_pos hc]; rfl
        · show (if calmC c = false then some ((), ρ) else none) = (if calmC c = false then some () else none).bind fun u => some (u, ρ)
          rw [if_neg hc, if_neg hc]; rfl
    refine (Ok_of (g := fun u => (u, ρ)) e).trans ⟨fun ⟨u, e, q⟩ => ⟨e, q⟩, fun ⟨e, q⟩ => ⟨(), e, q⟩⟩
  rw [h2, Ok_bnd]
  refine and_congr_right fun _ => ?_
  unfold Ok OkR
  constructor
  · rintro ⟨l, ρ1, h, d, ρ2, e, q⟩
    obtain ⟨⟨d', c'⟩, e1, e2⟩ := Option.bind_eq_some_iff.mp e
    cases e2
    exact ⟨l, ρ1, h, d', c', e1, q⟩
  · rintro ⟨l, ρ1, h, d, c, e, q⟩
    exact ⟨l, ρ1, h, d, _, by show (ρ1[i]?.bind fun c => f c l).bind _ = _; rw [e]; rfl, q⟩
def kCallC (c : Option C) (f : C → List Py → Option (Py × C)) (i : Nat) (Q : Py → Rho → Prop) (l : List Py) (ρ : Rho) : Prop := OkR (c.bind fun c => f c l) i ρ Q
@[simp] theorem kCallR_at {f : C → List Py → Option (Py × C)} {i : Nat} : kCallR f i Q l ρ ↔ kCallC ρ[i]? f i Q l ρ := ⟨fun h => h, fun h => h⟩
@[simp] theorem kCallC_at {f : C → List Py → Option (Py × C)} {i : Nat} {c : C} : kCallC (some c) f i Q l ρ ↔ OkR (f c l) i ρ Q := by
  unfold kCallC
  rw [Option.bind_some]
def catO (x y : Py) : Option (List Py) := (asL x).bind fun l => (asL y).bind fun r => if l.length + r.length ≤ 16777216 then some (l ++ r) else none
@[simp] theorem Ok_mCatL : Ok (mCatL a b) ρ L ↔ Ok a ρ (kOp2a (δ := Unit) catO b L) := by
  unfold mCatL kOp2a; rw [Ok_bnd]; simp only [Ok_bnd, Ok_lif]; rfl
@[simp] theorem Ok_mListOf : Ok (mListOf a) ρ L ↔ Ok a ρ (kOp1 seqOf L) := by
  unfold mListOf kOp1; rw [Ok_bnd]; simp only [Ok_lif]
@[simp] theorem Ok_mNew {g : Py → Option α} {Q : α → Rho → Prop} : Ok (mNew g a) ρ Q ↔ Ok a ρ (kOp1 g Q) := by
  unfold mNew kOp1; rw [Ok_bnd]; simp only [Ok_lif]
@[simp] theorem Ok_iList : Ok (iList a) ρ L ↔ Ok a ρ (kOp1 asL L) := by
  unfold iList kOp1; rw [Ok_bnd]; simp only [Ok_lif]
@[simp] theorem Ok_iTup : Ok (iTup a) ρ L ↔ Ok a ρ (kOp1 asT L) := by
  unfold iTup kOp1; rw [Ok_bnd]; simp only [Ok_lif]
@[simp] theorem Ok_iStr : Ok (iStr a) ρ L ↔ Ok a ρ (kOp1 (fun x => (asS x).map signs) L) := by
  unfold iStr kOp1; rw [Ok_bnd]; simp only [Ok_lif]
@[simp] theorem Ok_iRange1 : Ok (iRange1 a) ρ L ↔ Ok a ρ (kOp1 gRange1 L) := by
  unfold iRange1 kOp1; rw [Ok_bnd]; simp only [Ok_lif]
@[simp] theorem Ok_iRange2 : Ok (iRange2 a b) ρ L ↔ Ok a ρ (kOp2a (δ := Unit) gRange2 b L) := by
  unfold iRange2 kOp2a; rw [Ok_bnd]; simp only [Ok_bnd, Ok_lif]
/-! targets -/
variable {U : Unit → Rho → Prop} {t : T} {r : List Py → M Unit}
@[simp] theorem Ok_tName {i : Nat} : Ok (tName i x) ρ U ↔ U () (ρ.set i (.val x)) := Ok_setC
@[simp] theorem Ok_tsNil : Ok (tsNil []) ρ U ↔ U () ρ := Ok_ret
def kTs (r : List Py → M Unit) (l : List Py) (U : Unit → Rho → Prop) (_ : Unit) (ρ : Rho) : Prop := Ok (r l) ρ U
@[simp] theorem Ok_tsCons : Ok (tsCons t r (x :: l)) ρ U ↔ Ok (t x) ρ (kTs r l U) := Ok_bnd (m := t x) (f := fun _ => r l)
@[simp] theorem kTs_at {u : Unit} : kTs r l U u ρ ↔ Ok (r l) ρ U := ⟨fun h => h, fun h => h⟩
@[simp] theorem Ok_tTup {n : Nat} (h : l.length = n) : Ok (tTup n r (.tuple l)) ρ U ↔ Ok (r l) ρ U := by
  show Ok (if l.length = n then r l else lif none) ρ U ↔ _
  rw [if_pos h]
end
/-! statements -/
section
variable {ρ : Rho} {Q : Fl → Rho → Prop} {a b : S} {m : M Py} {x y : Py} {i j : Nat}
@[simp] theorem Ok_sNext : Ok sNext ρ Q ↔ Q .nx ρ := Ok_ret
def kSeq (b : S) (Q : Fl → Rho → Prop) (f : Fl) (ρ : Rho) : Prop := match f with
  | .nx => Ok b ρ Q
  | f => Q f ρ
@[simp] theorem Ok_sSeq : Ok (sSeq a b) ρ Q ↔ Ok a ρ (kSeq b Q) := by
  unfold Ok sSeq
  constructor
  · rintro ⟨f, ρ', e, q⟩
    obtain ⟨⟨f1, ρ1⟩, h1, h2⟩ := Option.bind_eq_some_iff.mp e
    refine ⟨f1, ρ1, h1, ?_⟩
    cases f1 with
    | nx => exact ⟨f, ρ', h2, q⟩
    | rt d => cases h2; exact q
    | bk => cases h2; exact q
    | ct => cases h2; exact q
  · rintro ⟨f1, ρ1, h1, q⟩
    cases f1 with
    | nx =>
      obtain ⟨f, ρ', h2, q⟩ := q
      exact ⟨f, ρ', by rw [h1]; exact h2, q⟩
    | rt d => exact ⟨_, _, by rw [h1]; rfl, q⟩
    | bk => exact ⟨_, _, by rw [h1]; rfl, q⟩
    | ct => exact ⟨_, _, by rw [h1]; rfl, q⟩
@[simp] theorem kSeq_nx : kSeq b Q .nx ρ ↔ Ok b ρ Q := ⟨fun h => h, fun h => h⟩
@[simp] theorem kSeq_rt {d : Py} : kSeq b Q (.rt d) ρ ↔ Q (.rt d) ρ := ⟨fun h => h, fun h => h⟩
@[simp] theorem kSeq_bk : kSeq b Q .bk ρ ↔ Q .bk ρ := ⟨fun h => h, fun h => h⟩
@[simp] theorem kSeq_ct : kSeq b Q .ct ρ ↔ Q .ct ρ := ⟨fun h => h, fun h => h⟩
def kNx (Q : Fl → Rho → Prop) (_ : Unit) (ρ : Rho) : Prop := Q .nx ρ
@[simp] theorem kNx_at {u : Unit} : kNx Q u ρ ↔ Q .nx ρ := ⟨fun h => h, fun h => h⟩
def kAsg (t : T) (Q : Fl → Rho → Prop) (x : Py) (ρ : Rho) : Prop := Ok (t x) ρ (kNx Q)
@[simp] theorem Ok_sAsg {t : T} : Ok (sAsg m t) ρ Q ↔ Ok m ρ (kAsg t Q) := by
  unfold sAsg kAsg kNx; rw [Ok_bnd]; simp only [Ok_bnd, Ok_ret]
@[simp] theorem kAsg_at {t : T} : kAsg t Q x ρ ↔ Ok (t x) ρ (kNx Q) := ⟨fun h => h, fun h => h⟩
def kAsgL (i : Nat) (Q : Fl → Rho → Prop) (l : List Py) (ρ : Rho) : Prop := Q .nx (ρ.set i (.ml l))
@[simp] theorem Ok_sAsgL {m : M (List Py)} : Ok (sAsgL i m) ρ Q ↔ Ok m ρ (kAsgL i Q) := by
  unfold sAsgL kAsgL; rw [Ok_bnd]; simp only [Ok_bnd, Ok_ret, Ok_setC]
@[simp] theorem kAsgL_at {l : List Py} : kAsgL i Q l ρ ↔ Q .nx (ρ.set i (.ml l)) := ⟨fun h => h, fun h => h⟩
def kPar1 (i j : Nat) (b : M Py) (Q : Fl → Rho → Prop) (x : Py) (ρ : Rho) : Prop := Ok b ρ fun y ρ => Q .nx ((ρ.set i (.val x)).set j (.val y))
def kPar2 (i j : Nat) (Q : Fl → Rho → Prop) (x y : Py) (ρ : Rho) : Prop := Q .nx ((ρ.set i (.val x)).set j (.val y))
@[simp] theorem Ok_sPar {a b : M Py} : Ok (sPar i j a b) ρ Q ↔ Ok a ρ (kPar1 i j b Q) := by
  unfold sPar kPar1; rw [Ok_bnd]; simp only [Ok_bnd, Ok_ret, Ok_setC]
@[simp] theorem kPar1_at {b : M Py} : kPar1 i j b Q x ρ ↔ Ok b ρ (kPar2 i j Q x) := ⟨fun h => h, fun h => h⟩
@[simp] theorem kPar2_at : kPar2 i j Q x y ρ ↔ Q .nx ((ρ.set i (.val x)).set j (.val y)) := ⟨fun h => h, fun h => h⟩
def kEx (Q : Fl → Rho → Prop) (_ : Py) (ρ : Rho) : Prop := Q .nx ρ
@[simp] theorem Ok_sExpr : Ok (sExpr m) ρ Q ↔ Ok m ρ (kEx Q) := by
  unfold sExpr kEx; rw [Ok_bnd]; simp only [Ok_ret]
@[simp] theorem kEx_at : kEx Q x ρ ↔ Q .nx ρ := ⟨fun h => h, fun h => h⟩
def kRet (Q : Fl → Rho → Prop) (x : Py) (ρ : Rho) : Prop := Q (.rt x) ρ
@[simp] theorem Ok_sRet : Ok (sRet m) ρ Q ↔ Ok m ρ (kRet Q) := by
  unfold sRet kRet; rw [Ok_bnd]; simp only [Ok_ret]
@[simp] theorem kRet_at : kRet Q x ρ ↔ Q (.rt x) ρ := ⟨fun h => h, fun h => h⟩
@[simp] theorem Ok_sRetN : Ok sRetN ρ Q ↔ Q (.rt .none) ρ := Ok_ret
@[simp] theorem Ok_sBrk : Ok sBrk ρ Q ↔ Q .bk ρ := Ok_ret
@[simp] theorem Ok_sCt : Ok sCt ρ Q ↔ Q .ct ρ := Ok_ret
@[simp] theorem Ok_sIf {c : M Bool} : Ok (sIf c a b) ρ Q ↔ Ok c ρ (kIf a b Q) := by
  unfold sIf kIf; rw [Ok_bnd]; simp only [Ok_ite]
def kAug (i : Nat) (g : Py → Py → Option Py) (Q : Fl → Rho → Prop) (x y : Py) (ρ : Rho) : Prop := OkO (g x y) ρ fun z ρ => Q .nx (ρ.set i (.val z))
def kAug2 (i : Nat) (Q : Fl → Rho → Prop) (z : Py) (ρ : Rho) : Prop := Q .nx (ρ.set i (.val z))
@[simp] theorem Ok_sAug {g : Py → Py → Option Py} (h : ρ[i]? = some (.val x)) : Ok (sAug i g m) ρ Q ↔ Ok m ρ (kAug i g Q x) := by
  have e : Ok (sAug i g m) ρ Q ↔ Ok (bnd m fun y => bnd (lif (g x y)) fun z => bnd (setC i (.val z)) fun _ => ret .nx) ρ Q := by
    unfold Ok sAug
    rw [h]
    rfl
  rw [e, Ok_bnd]
  unfold kAug
  simp only [Ok_bnd, Ok_lif, Ok_ret, Ok_setC]
@[simp] theorem kAug_at {g : Py → Py → Option Py} : kAug i g Q x y ρ ↔ OkO (g x y) ρ (kAug2 i Q) := ⟨fun h => h, fun h => h⟩
@[simp] theorem kAug2_at : kAug2 i Q x ρ ↔ Q .nx (ρ.set i (.val x)) := ⟨fun h => h, fun h => h⟩
theorem Ok_mGetL {Q : List Py → Rho → Prop} : Ok (mGetL i) ρ Q ↔ OkO (ρ[i]?.bind asML) ρ Q := Ok_of (g := fun d => (d, ρ)) rfl
def kApp (i : Nat) (Q : Fl → Rho → Prop) (d : Py) (ρ : Rho) : Prop := OkO (ρ[i]?.bind asML) ρ fun l ρ => OkO (if l.length < 16777216 then some () else none) ρ fun _ ρ => Q .nx (ρ.set i (.ml (l ++ [d])))
@[simp] theorem Ok_sApp {l : List Py} (h : ρ[i]?.bind asML = some l) : Ok (sApp i m) ρ Q ↔ Ok m ρ (kApp i Q) := by
  unfold sApp kApp; rw [Ok_bnd, Ok_mGetL, h, OkO_some, Ok_bnd]; simp only [Ok_bnd, Ok_lif, Ok_ret, Ok_setC, Ok_mGetL]
@[simp] theorem kApp_at {l : List Py} (h : ρ[i]?.bind asML = some l) : kApp i Q x ρ ↔ l.length < 16777216 ∧ Q .nx (ρ.set i (.ml (l ++ [x]))) := by
  unfold kApp
  rw [h, OkO_some]
  by_cases hl : l.length < 16777216
  · rw [if_pos hl, OkO_some]
    exact ⟨fun q => ⟨hl, q⟩, fun q => q.2⟩
  · rw [if_neg hl]
    exact ⟨fun ⟨_, e, _⟩ => (by cases e), fun q => absurd q.1 hl⟩
def extO (l : List Py) (d : Py) : Option (List Py) := (asL d).bind fun r => if l.length + r.length ≤ 16777216 then some r else none
def kExt (i : Nat) (Q : Fl → Rho → Prop) (d : Py) (ρ : Rho) : Prop := OkO (ρ[i]?.bind asML) ρ fun l ρ => OkO (extO l d) ρ fun r ρ => Q .nx (ρ.set i (.ml (l ++ r)))
@[simp] theorem Ok_sExt {l : List Py} (h : ρ[i]?.bind asML = some l) : Ok (sExt i m) ρ Q ↔ Ok m ρ (kExt i Q) := by
  unfold sExt kExt; rw [Ok_bnd, Ok_mGetL, h, OkO_some, Ok_bnd]; simp only [Ok_bnd, Ok_lif, Ok_ret, Ok_setC, Ok_mGetL]; rfl
@[simp] theorem kExt_at {l r : List Py} (h : ρ[i]?.bind asML = some l) : kExt i Q (.list r) ρ ↔ l.length + r.length ≤ 16777216 ∧ Q .nx (ρ.set i (.ml (l ++ r))) := by
  unfold kExt
  rw [h, OkO_some]
  by_cases hl : l.length + r.length ≤ 16777216
  · rw [show extO l (.list r) = some r from if_pos hl, OkO_some]
    exact ⟨fun q => ⟨hl, q⟩, fun q => q.2⟩
  · rw [show extO l (.list r) = none from if_neg hl]
    exact ⟨fun ⟨_, e, _⟩ => (by cases e), fun q => absurd q.1 hl⟩
def kSetL1 (i : Nat) (k : M Py) (Q : Fl → Rho → Prop) (d : Py) (ρ : Rho) : Prop := OkO (ρ[i]?.bind asML) ρ fun _ ρ => Ok k ρ fun j ρ => OkO (ρ[i]?.bind asML) ρ fun l ρ => OkO ((asI j).bind (ixN l.length)) ρ fun n ρ => Q .nx (ρ.set i (.ml (l.set n d)))
def kSetL2 (i : Nat) (Q : Fl → Rho → Prop) (d j : Py) (ρ : Rho) : Prop := OkO (ρ[i]?.bind asML) ρ fun l ρ => OkO ((asI j).bind (ixN l.length)) ρ fun n ρ => Q .nx (ρ.set i (.ml (l.set n d)))
@[simp] theorem Ok_sSetL {k : M Py} : Ok (sSetL i m k) ρ Q ↔ Ok m ρ (kSetL1 i k Q) := by
  unfold sSetL kSetL1; rw [Ok_bnd]; simp only [Ok_bnd, Ok_lif, Ok_ret, Ok_setC, Ok_mGetL]
@[simp] theorem kSetL1_at {k : M Py} {l : List Py} (h : ρ[i]?.bind asML = some l) : kSetL1 i k Q x ρ ↔ Ok k ρ (kSetL2 i Q x) := by
  unfold kSetL1 kSetL2; rw [h, OkO_some]
def kSetL3 (c : Option C) (i : Nat) (Q : Fl → Rho → Prop) (d : Py) (k : Int) (ρ : Rho) : Prop := OkO (c.bind asML) ρ fun l ρ => OkO (ixN l.length k) ρ fun n ρ => Q .nx (ρ.set i (.ml (l.set n d)))
def kSetL4 (i : Nat) (l : List Py) (d : Py) (Q : Fl → Rho → Prop) (n : Nat) (ρ : Rho) : Prop := Q .nx (ρ.set i (.ml (l.set n d)))
@[simp] theorem kSetL2_at {k : Int} : kSetL2 i Q x (.int k) ρ ↔ kSetL3 ρ[i]? i Q x k ρ := ⟨fun h => h, fun h => h⟩
@[simp] theorem kSetL3_at {k : Int} {l : List Py} : kSetL3 (some (.ml l)) i Q x k ρ ↔ OkO (ixN l.length k) ρ (kSetL4 i l x Q) := by
  unfold kSetL3
  rw [show (some (C.ml l)).bind asML = some l from rfl, OkO_some]
  rfl
@[simp] theorem kSetL4_at {l : List Py} {n : Nat} : kSetL4 i l x Q n ρ ↔ Q .nx (ρ.set i (.ml (l.set n x))) := ⟨fun h => h, fun h => h⟩
@[simp] theorem ixN_in {n : Nat} {k : Int} (h0 : 0 ≤ k) (h : k < n) : ixN n k = some k.toNat := by
  unfold ixN
  rw [if_pos h0, if_pos h]
/-! loops -/
def kF1 (t : T) (b : S) (xs : List Py) (Q : Fl → Rho → Prop) (_ : Unit) (ρ : Rho) : Prop := Ok b ρ fun f ρ => match f with
  | .nx => Ok (forGo t b xs) ρ Q
  | .ct => Ok (forGo t b xs) ρ Q
  | .bk => Q .nx ρ
  | .rt d => Q (.rt d) ρ
def kF2 (t : T) (b : S) (xs : List Py) (Q : Fl → Rho → Prop) (f : Fl) (ρ : Rho) : Prop := match f with
  | .nx => Ok (forGo t b xs) ρ Q
  | .ct => Ok (forGo t b xs) ρ Q
  | .bk => Q .nx ρ
  | .rt d => Q (.rt d) ρ
def kFor (t : T) (b : S) (Q : Fl → Rho → Prop) (xs : List Py) (ρ : Rho) : Prop := Ok (forGo t b xs) ρ Q
variable {t : T} {xs : List Py}
@[simp] theorem Ok_sFor {it : I} : Ok (sFor it t b) ρ Q ↔ Ok it ρ (kFor t b Q) := by
  unfold sFor kFor; rw [Ok_bnd]
theorem kFor_at : kFor t b Q xs ρ ↔ Ok (forGo t b xs) ρ Q := ⟨fun h => h, fun h => h⟩
theorem Ok_for_nil : Ok (forGo t b []) ρ Q ↔ Q .nx ρ := Ok_ret
theorem Ok_for_cons : Ok (forGo t b (x :: xs)) ρ Q ↔ Ok (t x) ρ (kF1 t b xs Q) := by
  unfold kF1
  constructor
  · rintro ⟨f, ρ', e, q⟩
    have e : ((t x ρ).bind fun p => (b p.2).bind fun q => match q.1 with
      | .nx => forGo t b xs q.2
      | .ct => forGo t b xs q.2
      | .bk => some (.nx, q.2)
      | .rt d => some (.rt d, q.2)) = some (f, ρ') := e
    obtain ⟨⟨u, ρ1⟩, h1, e⟩ := Option.bind_eq_some_iff.mp e
    obtain ⟨⟨f2, ρ2⟩, h2, e⟩ := Option.bind_eq_some_iff.mp e
    refine ⟨u, ρ1, h1, f2, ρ2, h2, ?_⟩
    cases f2 with
    | nx => exact ⟨f, ρ', e, q⟩
    | ct => exact ⟨f, ρ', e, q⟩
    | bk => cases e; exact q
    | rt d => cases e; exact q
  · rintro ⟨u, ρ1, h1, f2, ρ2, h2, q⟩
    have e : forGo t b (x :: xs) ρ = (b ρ1).bind fun q => match q.1 with
      | .nx => forGo t b xs q.2
      | .ct => forGo t b xs q.2
      | .bk => some (.nx, q.2)
      | .rt d => some (.rt d, q.2) := by
      show ((t x ρ).bind fun p => (b p.2).bind fun q => match q.1 with
        | .nx => forGo t b xs q.2
        | .ct => forGo t b xs q.2
        | .bk => some (.nx, q.2)
        | .rt d => some (.rt d, q.2)) = _
      rw [h1]
      rfl
    rw [h2, Option.bind_some] at e
    unfold Ok
    rw [e]
    cases f2 with
    | nx => exact q
    | ct => exact q
    | bk => exact ⟨_, _, rfl, q⟩
    | rt d => exact ⟨_, _, rfl, q⟩
@[simp] theorem kF1_at {u : Unit} : kF1 t b xs Q u ρ ↔ Ok b ρ (kF2 t b xs Q) := ⟨fun h => h, fun h => h⟩
@[simp] theorem kF2_nx : kF2 t b xs Q .nx ρ ↔ Ok (forGo t b xs) ρ Q := ⟨fun h => h, fun h => h⟩
@[simp] theorem kF2_ct : kF2 t b xs Q .ct ρ ↔ Ok (forGo t b xs) ρ Q := ⟨fun h => h, fun h => h⟩
@[simp] theorem kF2_bk : kF2 t b xs Q .bk ρ ↔ Q .nx ρ := ⟨fun h => h, fun h => h⟩
@[simp] theorem kF2_rt {d : Py} : kF2 t b xs Q (.rt d) ρ ↔ Q (.rt d) ρ := ⟨fun h => h, fun h => h⟩
/-- a loop by an invariant of what is left -/
theorem for_inv (W : List Py → Rho → Prop) (h0 : W xs ρ) (st : ∀ x r ρ, W (x :: r) ρ → Ok (t x) ρ fun _ ρ => Ok b ρ fun f ρ => match f with
    | .nx => W r ρ
    | .ct => W r ρ
    | .bk => Q .nx ρ
    | .rt d => Q (.rt d) ρ) (en : ∀ ρ, W [] ρ → Q .nx ρ) : Ok (forGo t b xs) ρ Q := by
  induction xs generalizing ρ with
  | nil => exact Ok_for_nil.mpr (en ρ h0)
  | cons x r ih =>
    refine Ok_for_cons.mpr ((st x r ρ h0).imp fun _ ρ1 h => h.imp fun f ρ2 h => ?_)
    cases f with
    | nx => exact ih h
    | ct => exact ih h
    | bk => exact h
    | rt d => exact h
theorem wh_inv {c : M Bool} {N : Nat} (W : Nat → Rho → Prop) (h0 : W N ρ) (no : ∀ ρ, ¬ W 0 ρ) (st : ∀ n ρ, W (n + 1) ρ → Ok c ρ fun k ρ => if k = true then Ok b ρ fun f ρ => match f with
    | .nx => W n ρ
    | .ct => W n ρ
    | .bk => Q .nx ρ
    | .rt d => Q (.rt d) ρ else Q .nx ρ) : Ok (whGo c b N) ρ Q := by
  induction N generalizing ρ with
  | zero => exact absurd h0 (no ρ)
  | succ n ih =>
    obtain ⟨k, ρ1, h1, h⟩ := st n ρ h0
    have e : whGo c b (n + 1) ρ = if k = true then (b ρ1).bind fun q => match q.1 with
      | .nx => whGo c b n q.2
      | .ct => whGo c b n q.2
      | .bk => some (.nx, q.2)
      | .rt d => some (.rt d, q.2)
    else some (.nx, ρ1) := by
      show ((c ρ).bind fun p => if p.1 = true then (b p.2).bind fun q => match q.1 with
        | .nx => whGo c b n q.2
        | .ct => whGo c b n q.2
        | .bk => some (.nx, q.2)
        | .rt d => some (.rt d, q.2)
      else some (.nx, p.2)) = _
      rw [h1, Option.bind_some]
    unfold Ok
    rw [e]
    cases k with
    | false => exact ⟨_, _, rfl, h⟩
    | true =>
      obtain ⟨f, ρ2, h2, h⟩ := (show Ok b ρ1 _ from h)
      rw [if_pos rfl, h2, Option.bind_some]
      cases f with
      | nx => exact ih h
      | ct => exact ih h
      | bk => exact ⟨_, _, rfl, h⟩
      | rt d => exact ⟨_, _, rfl, h⟩
end
/-! comprehensions -/
section
variable {ρ : Rho} {t : T} {c : M Bool} {e : M Py} {vs : List Nat}
/-- the items one by one, an invariant of what is left and what is made -/
theorem lc_inv {xs : List Py} {Q : List Py → Rho → Prop} (W : List Py → List Py → Rho → Prop) (st : ∀ x r zs ρ, W (x :: r) zs ρ → Ok (t x) (wipeC ρ vs) fun _ ρ => Ok c ρ fun b ρ => if b = true then Ok e ρ fun y ρ => W r (zs ++ [y]) ρ else W r zs ρ)
    (en : ∀ zs ρ, W [] zs ρ → Q zs ρ) : ∀ {zs : List Py} {ρ : Rho}, W xs zs ρ → Ok (lcGo t c e vs xs) ρ fun ys ρ => Q (zs ++ ys) ρ := by
  induction xs with
  | nil =>
    intro zs ρ h
    exact ⟨[], ρ, rfl, by show Q (zs ++ []) ρ; rw [List.append_nil]; exact en _ _ h⟩
  | cons x r ih =>
    intro zs ρ h
    obtain ⟨_, ρ1, h1, b, ρ2, h2, h3⟩ := st x r zs ρ h
    have ee : lcGo t c e vs (x :: r) ρ = if b = true then (e ρ2).bind fun r' => (lcGo t c e vs r r'.2).bind fun z => some (r'.1 :: z.1, z.2) else lcGo t c e vs r ρ2 := by
      show ((t x (wipeC ρ vs)).bind fun p => (c p.2).bind fun q => if q.1 = true then (e q.2).bind fun r' => (lcGo t c e vs r r'.2).bind fun z => some (r'.1 :: z.1, z.2) else lcGo t c e vs r q.2) = _
      rw [h1, Option.bind_some, h2, Option.bind_some]
    unfold Ok
    rw [ee]
    cases b with
    | true =>
      obtain ⟨y, ρ3, h4, h5⟩ := (show Ok e ρ2 _ from h3)
      obtain ⟨ys, ρ4, h6, q⟩ := ih h5
      rw [if_pos rfl, h4, Option.bind_some, h6, Option.bind_some]
      exact ⟨y :: ys, ρ4, rfl, by rw [List.append_assoc] at q; exact q⟩
    | false =>
      obtain ⟨ys, ρ4, h6, q⟩ := ih h3
      exact ⟨ys, ρ4, h6, q⟩
def kLc (t : T) (c : M Bool) (e : M Py) (vs : List Nat) (Q : List Py → Rho → Prop) (xs : List Py) (ρ : Rho) : Prop :=
  xs.length < 16777216 ∧ (vs.all fun v => calmC (ρ.getD v .no)) = true ∧ Ok (lcGo t c e vs xs) ρ fun ys ρ1 => Q ys (backC ρ ρ1 vs)
@[simp] theorem Ok_mLc {it : I} {Q : List Py → Rho → Prop} : Ok (mLc it t c e vs) ρ Q ↔ Ok it ρ (kLc t c e vs Q) := by
  unfold mLc kLc
  rw [Ok_bnd]
  have h : ∀ xs ρ, Ok (fun ρ => if xs.length < 16777216 ∧ (vs.all fun v => calmC (ρ.getD v .no)) = true then (lcGo t c e vs xs ρ).bind fun z => some (z.1, backC ρ z.2 vs) else none) ρ Q ↔ xs.length < 16777216 ∧ (vs.all fun v => calmC (ρ.getD v .no)) = true ∧ Ok (lcGo t c e vs xs) ρ fun ys ρ1 => Q ys (backC ρ ρ1 vs) := fun xs ρ => by
    unfold Ok
    by_cases hc : xs.length < 16777216 ∧ (vs.all fun v => calmC (ρ.getD v .no)) = true
    · simp only [if_pos hc]
      constructor
      · rintro ⟨a, ρ', h, q⟩
        obtain ⟨⟨ys, ρ1⟩, h1, h2⟩ := Option.bind_eq_some_iff.mp h
        cases h2
        exact ⟨hc.1, hc.2, ys, ρ1, h1, q⟩
      · rintro ⟨_, _, ys, ρ1, h1, q⟩
        exact ⟨ys, _, by rw [h1]; rfl, q⟩
    · simp only [if_neg hc]
      exact ⟨fun ⟨_, _, h, _⟩ => (by cases h), fun ⟨h1, h2, _⟩ => absurd ⟨h1, h2⟩ hc⟩
  simp only [h]
/-- .. that changes no slot but its own: what it makes by a plain function (none: left out) -/
theorem lc_pure {xs : List Py} {Q : List Py → Rho → Prop} (f : Py → Option Py) (hl : xs.length < 16777216) (hv : (vs.all fun v => calmC (ρ.getD v .no)) = true) (hb : ∀ ρ1, wipeC ρ1 vs = wipeC ρ vs → backC ρ ρ1 vs = ρ)
    (st : ∀ x ∈ xs, Ok (t x) (wipeC ρ vs) fun _ ρ1 => Ok c ρ1 fun b ρ2 => if b = true then Ok e ρ2 fun y ρ3 => f x = some y ∧ wipeC ρ3 vs = wipeC ρ vs else f x = none ∧ wipeC ρ2 vs = wipeC ρ vs)
    (q : Q (xs.filterMap f) ρ) : kLc t c e vs Q xs ρ := by
  refine ⟨hl, hv, ?_⟩
  have := lc_inv (t := t) (c := c) (e := e) (vs := vs) (xs := xs) (Q := fun zs ρ1 => Q zs (backC ρ ρ1 vs)) (W := fun r zs ρ1 => wipeC ρ1 vs = wipeC ρ vs ∧ (∀ x ∈ r, x ∈ xs) ∧ xs.filterMap f = zs ++ r.filterMap f) (fun x r zs ρ1 ⟨h1, h2, h3⟩ => ?_) (fun zs ρ1 ⟨h1, _, h3⟩ => ?_) (zs := []) (ρ := ρ) ⟨rfl, fun _ h => h, rfl⟩
  · exact this
  · rw [h1]
    refine (st x (h2 x List.mem_cons_self)).imp fun _ ρ2 h => h.imp fun b ρ3 h => ?_
    cases b with
    | true =>
      rw [if_pos rfl] at h ⊢
      refine h.imp fun y ρ4 ⟨h4, h5⟩ => ⟨h5, fun x hx => h2 x (List.mem_cons_of_mem _ hx), ?_⟩
      rw [h3, List.filterMap_cons_some h4, List.append_assoc]
      rfl
    | false =>
      rw [if_neg Bool.false_ne_true] at h ⊢
      refine ⟨h.2, fun x hx => h2 x (List.mem_cons_of_mem _ hx), ?_⟩
      rw [h3, List.filterMap_cons_none h.1]
  · rw [hb ρ1 h1]
    rw [List.filterMap_nil, List.append_nil] at h3
    rw [← h3]
    exact q
end
@[simp] theorem Ok_mYes {ρ : Rho} {Q : Bool → Rho → Prop} : Ok mYes ρ Q ↔ Q true ρ := Ok_ret
/-! defs -/
theorem mDef_ok {np n : Nat} {b : S} {as : List Py} {d : Py} (h : as.length = np) (k : Ok b (as.map C.val ++ List.replicate n .no) fun f _ => finP f = some d) : mDef np n b as = some d := by
  obtain ⟨f, ρ, e, q⟩ := k
  unfold mDef
  rw [if_pos h, e]
  exact q
/-- a def's end -/
def endD (P : Py → Prop) (f : Fl) (ρ : Rho) : Prop := ∃ d, finP f = some d ∧ P d
def endC (c : Option C) (P : Py → C → Prop) (d : Py) : Prop := ∃ c', c = some c' ∧ calmC c' = false ∧ P d c'
def endR (p : Nat) (P : Py → C → Prop) (f : Fl) (ρ : Rho) : Prop := ∃ d, finP f = some d ∧ endC ρ[p]? P d
@[simp] theorem endD_rt {P : Py → Prop} {d : Py} {ρ : Rho} : endD P (.rt d) ρ ↔ P d := ⟨fun ⟨_, e, q⟩ => by cases e; exact q, fun q => ⟨d, rfl, q⟩⟩
@[simp] theorem endD_nx {P : Py → Prop} {ρ : Rho} : endD P .nx ρ ↔ P .none := ⟨fun ⟨_, e, q⟩ => by cases e; exact q, fun q => ⟨.none, rfl, q⟩⟩
@[simp] theorem endR_rt {p : Nat} {P : Py → C → Prop} {d : Py} {ρ : Rho} : endR p P (.rt d) ρ ↔ endC ρ[p]? P d := ⟨fun ⟨_, e, q⟩ => by cases e; exact q, fun q => ⟨d, rfl, q⟩⟩
@[simp] theorem endR_nx {p : Nat} {P : Py → C → Prop} {ρ : Rho} : endR p P .nx ρ ↔ endC ρ[p]? P .none := ⟨fun ⟨_, e, q⟩ => by cases e; exact q, fun q => ⟨.none, rfl, q⟩⟩
@[simp] theorem endC_ml {P : Py → C → Prop} {d : Py} {l : List Py} : endC (some (.ml l)) P d ↔ P d (.ml l) := ⟨fun ⟨_, e, _, q⟩ => by cases e; exact q, fun q => ⟨_, rfl, rfl, q⟩⟩
@[simp] theorem endC_md {P : Py → C → Prop} {d : Py} {l : List (Py × Py)} : endC (some (.md l)) P d ↔ P d (.md l) := ⟨fun ⟨_, e, _, q⟩ => by cases e; exact q, fun q => ⟨_, rfl, rfl, q⟩⟩
theorem mDef_ex {np n : Nat} {b : S} {as : List Py} {P : Py → Prop} (h : as.length = np) (k : Ok b (as.map C.val ++ List.replicate n .no) (endD P)) : ∃ d, mDef np n b as = some d ∧ P d := by
  obtain ⟨f, ρ, e, d, q, r⟩ := k
  refine ⟨d, ?_, r⟩
  unfold mDef
  rw [if_pos h, e]
  exact q
/-- .. its worth told -/
theorem mDef_eq {np n : Nat} {b : S} {as : List Py} {d : Py} (h : as.length = np) (k : Ok b (as.map C.val ++ List.replicate n .no) (endD fun x => x = d)) : mDef np n b as = some d := by
  obtain ⟨_, e, rfl⟩ := mDef_ex h k
  exact e
theorem mDefR_ok {p np n : Nat} {b : S} {as : List Py} {c : C} {P : Py → C → Prop} (h : as.length + 1 = np) (hp : p ≤ as.length) (hc : calmC c = false) (k : Ok b (slotsR p n c as) (endR p P)) : ∃ d c', mDefR p np n b c as = some (d, c') ∧ P d c' := by
  obtain ⟨f, ρ, e, d, h1, c', h2, h3, h4⟩ := k
  refine ⟨d, c', ?_, h4⟩
  unfold mDefR
  rw [if_pos ⟨h, hp, hc⟩]
  show (b (slotsR p n c as)).bind _ = _
  rw [e, Option.bind_some, h1, Option.bind_some, h2, Option.bind_some, if_pos h3]
theorem mLaw_ok {n : Nat} {b : S} {ns : List Int} {d : Py} (k : Ok b (.no :: .ml (poolD ns) :: List.replicate n .no) (endD fun x => x = d)) : mLaw n b ns = some d := by
  obtain ⟨f, ρ, e, _, q, rfl⟩ := k
  unfold mLaw
  rw [e]
  exact q
end DL

set_option maxRecDepth 100000
/-! DLC: operators at their data; what every law draws and compares. -/
namespace DL
open PySem L2
/-! operators at data -/
section
variable {a b : Int} {k j : Bool} {x y : Str}
@[simp] theorem gAdd_ii : gAdd (.int a) (.int b) = some (.int (a + b)) := rfl
@[simp] theorem gAddI_ii : gAddI (.int a) (.int b) = some (.int (a + b)) := rfl
@[simp] theorem gSub_ii : gSub (.int a) (.int b) = some (.int (a - b)) := rfl
@[simp] theorem gNeg_i : gNeg (.int a) = some (.int (-a)) := rfl
@[simp] theorem gLt_ii : gLt (.int a) (.int b) = some (.bool (decide (a < b))) := rfl
@[simp] theorem gLe_ii : gLe (.int a) (.int b) = some (.bool (decide (a ≤ b))) := rfl
@[simp] theorem gGt_ii : gGt (.int a) (.int b) = some (.bool (decide (b < a))) := rfl
@[simp] theorem gGe_ii : gGe (.int a) (.int b) = some (.bool (decide (b ≤ a))) := rfl
@[simp] theorem gInt_i : gInt (.int a) = some (.int a) := rfl
@[simp] theorem gInt_b : gInt (.bool k) = some (.int (if k then 1 else 0)) := rfl
@[simp] theorem gMax2_ii : gMax2 (.int a) (.int b) = some (.int (max a b)) := by
  show some (PyData.int (if b > a then b else a)) = _
  rw [show (if b > a then b else a) = max a b by split <;> omega]
@[simp] theorem gMin2_ii : gMin2 (.int a) (.int b) = some (.int (min a b)) := by
  show some (PyData.int (if b < a then b else a)) = _
  rw [show (if b < a then b else a) = min a b by split <;> omega]
@[simp] theorem gEq_ii : gEq (.int a) (.int b) = some (.bool (decide (a = b))) := by
  show some (PyData.bool (a == b)) = _
  rfl
@[simp] theorem gNe_ii : gNe (.int a) (.int b) = some (.bool (!decide (a = b))) := rfl
@[simp] theorem gEq_bb : gEq (.bool k) (.bool j) = some (.bool (k == j)) := rfl
@[simp] theorem gNe_bb : gNe (.bool k) (.bool j) = some (.bool (!(k == j))) := rfl
@[simp] theorem gEq_ss : gEq (.str x) (.str y) = some (.bool (decide (x = y))) := rfl
@[simp] theorem gNe_ss : gNe (.str x) (.str y) = some (.bool (!decide (x = y))) := rfl
@[simp] theorem gIsN_n {d : Py} : gIsN d .none = some (.bool (isNone d)) := rfl
@[simp] theorem gNotN_n {d : Py} : gNotN d .none = some (.bool (!isNone d)) := rfl
@[simp] theorem gLen_l {l : List Py} : gLen (.list l) = some (.int l.length) := rfl
@[simp] theorem gLen_t {l : List Py} : gLen (.tuple l) = some (.int l.length) := rfl
@[simp] theorem asL_l {l : List Py} : asL (.list l) = some l := rfl
@[simp] theorem asT_t {l : List Py} : asT (.tuple l) = some l := rfl
@[simp] theorem seqOf_l {l : List Py} : seqOf (.list l) = some l := rfl
@[simp] theorem seqOf_t {l : List Py} : seqOf (.tuple l) = some l := rfl
@[simp] theorem gTupleOf_l {l : List Py} : gTupleOf (.list l) = some (.tuple l) := rfl
@[simp] theorem gTupleOf_t {l : List Py} : gTupleOf (.tuple l) = some (.tuple l) := rfl
@[simp] theorem gIx_l {l : List Py} : gIx (.list l) (.int a) = atI l a := rfl
@[simp] theorem gIx_t {l : List Py} : gIx (.tuple l) (.int a) = atI l a := rfl
@[simp] theorem asB_b : asB (.bool k) = some k := rfl
@[simp] theorem asML_ml {l : List Py} : asML (.ml l) = some l := rfl
@[simp] theorem useC_val {d : Py} : useC (.val d) = some d := rfl
@[simp] theorem useC_ml {l : List Py} : useC (.ml l) = some (.list l) := rfl
@[simp] theorem calmC_ml {l : List Py} : calmC (.ml l) = false := rfl
@[simp] theorem calmC_val {d : Py} : calmC (.val d) = true := rfl
@[simp] theorem calmC_no : calmC .no = true := rfl
@[simp] theorem finP_rt {d : Py} : finP (.rt d) = some d := rfl
@[simp] theorem finP_nx : finP .nx = some .none := rfl
@[simp] theorem isNone_none : isNone .none = true := rfl
@[simp] theorem isNone_int : isNone (.int a) = false := rfl
@[simp] theorem isNone_bool : isNone (.bool k) = false := rfl
@[simp] theorem isNone_str : isNone (.str x) = false := rfl
@[simp] theorem isNone_list {l : List Py} : isNone (.list l) = false := rfl
@[simp] theorem isNone_tuple {l : List Py} : isNone (.tuple l) = false := rfl
@[simp] theorem few_nil {α : Type} : few ([] : List α) = some [] := rfl
@[simp] theorem few_1 {α : Type} {p : α} : few [p] = some [p] := rfl
@[simp] theorem few_2 {α : Type} {p q : α} : few [p, q] = some [p, q] := rfl
@[simp] theorem few_3 {α : Type} {p q r : α} : few [p, q, r] = some [p, q, r] := rfl
@[simp] theorem few_4 {α : Type} {p q r s : α} : few [p, q, r, s] = some [p, q, r, s] := rfl
@[simp] theorem few_5 {α : Type} {p q r s t : α} : few [p, q, r, s, t] = some [p, q, r, s, t] := rfl
@[simp] theorem gMod_ii (h : 0 < b) : gMod (.int a) (.int b) = some (.int (a % b)) := if_pos h
@[simp] theorem gDiv_ii (h : 0 < b) (h2 : b < 18446744073709551616) : gDiv (.int a) (.int b) = some (.int (a / b)) := if_pos ⟨h, h2⟩
@[simp] theorem gMul_l (h : -18446744073709551616 < a) (h2 : a < 18446744073709551616) : gMul (.int a) (.int b) = some (.int (a * b)) := if_pos (.inl ⟨h, h2⟩)
@[simp] theorem gMul_r (h : -18446744073709551616 < b) (h2 : b < 18446744073709551616) : gMul (.int a) (.int b) = some (.int (a * b)) := if_pos (.inr ⟨h, h2⟩)
theorem gAdd_tt {l r : List Py} (h : l.length + r.length ≤ 16777216) : gAdd (.tuple l) (.tuple r) = some (.tuple (l ++ r)) := if_pos h
theorem gAdd_ss (h : x.length + y.length ≤ 16777216) : gAdd (.str x) (.str y) = some (.str (x ++ y)) := if_pos h
theorem gLen_s (h : x.length ≤ 16777216) : gLen (.str x) = some (.int x.length) := if_pos h
theorem catO_ll {l r : List Py} (h : l.length + r.length ≤ 16777216) : catO (.list l) (.list r) = some (l ++ r) := if_pos h
theorem gRange1_i (h : small a = true) : gRange1 (.int a) = some (upto 0 a.toNat) := if_pos h
theorem gRange2_ii (h : small a = true) (h2 : small b = true) : gRange2 (.int a) (.int b) = some (upto a (b - a).toNat) := if_pos ⟨h, h2⟩
theorem small_nat {n : Nat} (h : n < 4611686018427387904) : small (n : Int) = true := by
  unfold small
  rw [decide_eq_true]
  omega
theorem small_int {i : Int} (h : -4611686018427387904 ≤ i) (h2 : i < 4611686018427387904) : small i = true := decide_eq_true ⟨h, h2⟩
theorem atI_at {α : Type} {l : List α} {i : Int} (h0 : 0 ≤ i) (h : i < l.length) : atI l i = l[i.toNat]? := by
  unfold atI ixN
  rw [if_pos h0, if_pos h]
  rfl
@[simp] theorem atI_0 {α : Type} {p : α} {l : List α} : atI (p :: l) 0 = some p := by
  rw [atI_at (by omega) (by simp only [List.length_cons]; omega)]; rfl
@[simp] theorem atI_1 {α : Type} {p q : α} {l : List α} : atI (p :: q :: l) 1 = some q := by
  rw [atI_at (by omega) (by simp only [List.length_cons]; omega)]; rfl
@[simp] theorem atI_2 {α : Type} {p q r : α} {l : List α} : atI (p :: q :: r :: l) 2 = some r := by
  rw [atI_at (by omega) (by simp only [List.length_cons]; omega)]; rfl
@[simp] theorem atI_3 {α : Type} {p q r s : α} {l : List α} : atI (p :: q :: r :: s :: l) 3 = some s := by
  rw [atI_at (by omega) (by simp only [List.length_cons]; omega)]; rfl
@[simp] theorem atI_4 {α : Type} {p q r s t : α} {l : List α} : atI (p :: q :: r :: s :: t :: l) 4 = some t := by
  rw [atI_at (by omega) (by simp only [List.length_cons]; omega)]; rfl
theorem gIsa_plain {p : Py → Bool} {d : Py} (h : d.plain = true) : gIsa p d = some (.bool (p d)) := if_pos h
end
theorem upto_succ (lo : Int) (n : Nat) : upto lo (n + 1) = .int lo :: upto (lo + 1) n := by
  unfold upto
  rw [List.range_succ_eq_map, List.map_cons, List.map_map]
  congr 1
  · rw [Int.natCast_zero, Int.add_zero]
  · exact List.map_congr_left fun k _ => by
      show PyData.int (lo + ((k + 1 : Nat) : Int)) = .int (lo + 1 + (k : Nat))
      congr 1
      omega
@[simp] theorem upto_zero (lo : Int) : upto lo 0 = [] := rfl
theorem upto_mem {lo : Int} {n : Nat} {d : Py} (h : d ∈ upto lo n) : ∃ k : Nat, k < n ∧ d = .int (lo + (k : Nat)) := by
  unfold upto at h
  obtain ⟨k, hk, rfl⟩ := List.mem_map.mp h
  exact ⟨k, List.mem_range.mp hk, rfl⟩
@[simp] theorem upto_length (lo : Int) (n : Nat) : (upto lo n).length = n := by
  unfold upto
  rw [List.length_map, List.length_range]
/-! the pool -/
def b_law_spread : S :=
  (sSeq (sAsg (mOp2 gMod (mOp1 gInt (mPk 0)) (mC (.int 2147483647))) (tName 1))
  (sSeq (sAsg (mC (.int 1)) (tName 2))
  (sSeq (sFor (iRange1 (mC (.int 4))) (tName 3) (sSeq (sAsg (mOp2 gMod (mOp1 gInt (mOp2 gAdd (mOp2 gAdd (mOp2 gMul (mVar 1) (mC (.int 48271))) (mC (.int 12345))) (mPk 3))) (mC (.int 2147483647))) (tName 1))
  (sAsg (mOp2 gAdd (mOp2 gMul (mVar 2) (mC (.int 2147483647))) (mPk 1)) (tName 2))))
  (sRet (mVar 2)))))
def m_law_spread : List Py → Option Py := mDef 1 3 b_law_spread
def b_law_draw : S :=
  (sSeq (sIf (mAnd (mTest (mOp2 gLe (mOpV gIx 0 (mC (.int 2))) (mC (.int 0)))) (mTest (mOp2 gLt (mOpV gIx 0 (mC (.int 1))) (mOp1 gLen (mOpV gIx 0 (mC (.int 0))))))) (sSeq (sAsg (mOp2 gIx (mOpV gIx 0 (mC (.int 0))) (mOpV gIx 0 (mC (.int 1)))) (tName 2))
  (sSeq (sSetL 0 (mOp2 gAdd (mOpV gIx 0 (mC (.int 1))) (mC (.int 1))) (mC (.int 1)))
  (sSeq (sSetL 0 (mVar 2) (mC (.int 2)))
  (sIf (mTest (mOp2 gLt (mVar 2) (mC (.int 1000000000000000000)))) (sSetL 0 (mCall m_law_spread (mCons (mVar 2) mNil)) (mC (.int 2))) sNext)))) sNext)
  (sSeq (sSetL 0 (mOp2 gAdd (mOpV gIx 0 (mC (.int 3))) (mC (.int 1))) (mC (.int 3)))
  (sSeq (sIf (mTest (mOp2 gLe (mOpV gIx 0 (mC (.int 2))) (mC (.int 0)))) (sSeq (sAsg (mOp2 gMod (mOp1 gInt (mOp2 gAdd (mOp2 gAdd (mOp2 gMul (mOpV gIx 0 (mC (.int 4))) (mC (.int 48271))) (mOp2 gMul (mOpV gIx 0 (mC (.int 3))) (mC (.int 69621)))) (mC (.int 1)))) (mC (.int 2147483647))) (tName 3))
  (sSeq (sAsg (mOp2 gMod (mOp1 gInt (mOp2 gAdd (mOp2 gMul (mVar 3) (mC (.int 16807))) (mOpV gIx 0 (mC (.int 3))))) (mC (.int 2147483629))) (tName 3))
  (sRet (mOp2 gMod (mOp2 gDiv (mVar 3) (mC (.int 5))) (mPk 1))))) sNext)
  (sSeq (sAsg (mOp2 gMod (mOp1 gInt (mOpV gIx 0 (mC (.int 2)))) (mPk 1)) (tName 4))
  (sSeq (sSetL 0 (mOp2 gDiv (mOpV gIx 0 (mC (.int 2))) (mPk 1)) (mC (.int 2)))
  (sRet (mVar 4)))))))
def m_law_draw : C → List Py → Option (Py × C) := mDefR 0 2 3 b_law_draw
def b_law_same (r_law_same : List Py → Option Py) : S :=
  (sSeq (sIf (mOr (mTest (mOp1 (gIsa PyData.isTuple) (mPk 1))) (mTest (mOp1 (gIsa PyData.isList) (mPk 1)))) (sSeq (sIf (mOr (mTest (mOp2 gNe (mOp1 (gIsa PyData.isTuple) (mPk 1)) (mOp1 (gIsa PyData.isTuple) (mPk 0)))) (mOr (mTest (mOp2 gNe (mOp1 (gIsa PyData.isList) (mPk 1)) (mOp1 (gIsa PyData.isList) (mPk 0)))) (mTest (mOp2 gNe (mOp1 gLen (mPk 0)) (mOp1 gLen (mPk 1)))))) (sRet (mC (.bool false))) sNext)
  (sRet (mOp2 gEq (mOp1 gLen (mFrz (mLc (iRange1 (mOp1 gLen (mPk 1))) (tName 2) (mNot (mTest (mCall r_law_same (mCons (mOp2 gIx (mVar 0) (mPk 2)) (mCons (mOp2 gIx (mVar 1) (mPk 2)) mNil))))) (mVar 2) [2]))) (mC (.int 0))))) sNext)
  (sSeq (sIf (mTest (mOp2 gIsN (mVar 1) (mC .none))) (sRet (mOp2 gIsN (mVar 0) (mC .none))) sNext)
  (sSeq (sIf (mOr (mTest (mOp1 (gIsa PyData.isBool) (mPk 1))) (mTest (mOp1 (gIsa PyData.isBool) (mPk 0)))) (sRet (mAndV (mOp1 (gIsa PyData.isBool) (mPk 1)) (mAndV (mOp1 (gIsa PyData.isBool) (mPk 0)) (mOp2 gEq (mVar 0) (mPk 1))))) sNext)
  (sSeq (sIf (mTest (mOp1 (gIsa PyData.isInt) (mPk 1))) (sRet (mAndV (mOp1 (gIsa PyData.isInt) (mPk 0)) (mOp2 gEq (mVar 0) (mPk 1)))) sNext)
  (sRet (mAndV (mOp1 (gIsa PyData.isStr) (mPk 0)) (mOp2 gEq (mVar 0) (mPk 1))))))))
def m_law_same : Nat → List Py → Option Py
  | 0 => fun _ => none
  | n + 1 => mDef 2 1 (b_law_same (m_law_same n))
/-- a pool in order: its numbers, how many are used, what is left of the last, how often it was asked, its salt -/
def Pool (l : List Py) : Prop := ∃ (cells : List Int) (p : Nat) (v c s : Int), l = [.list (cells.map .int), .int p, .int v, .int c, .int s]
theorem pool_new (ns : List Int) : Pool (poolD ns) := ⟨ns, 0, 0, 0, _, rfl⟩
theorem spread_ok (a : Int) : ∃ d, m_law_spread [.int a] = some d ∧ ∃ z : Int, d = .int z := by
  have r4 : gRange1 (.int 4) = some [.int 0, .int 1, .int 2, .int 3] := rfl
  refine mDef_ex rfl ?_
  simp [b_law_spread, r4, kFor_at, Ok_for_cons, Ok_for_nil]
/-- the second half of a draw -/
def draw_rest : S := (sSeq (sSetL 0 (mOp2 gAdd (mOpV gIx 0 (mC (.int 3))) (mC (.int 1))) (mC (.int 3)))
  (sSeq (sIf (mTest (mOp2 gLe (mOpV gIx 0 (mC (.int 2))) (mC (.int 0)))) (sSeq (sAsg (mOp2 gMod (mOp1 gInt (mOp2 gAdd (mOp2 gAdd (mOp2 gMul (mOpV gIx 0 (mC (.int 4))) (mC (.int 48271))) (mOp2 gMul (mOpV gIx 0 (mC (.int 3))) (mC (.int 69621)))) (mC (.int 1)))) (mC (.int 2147483647))) (tName 3))
  (sSeq (sAsg (mOp2 gMod (mOp1 gInt (mOp2 gAdd (mOp2 gMul (mVar 3) (mC (.int 16807))) (mOpV gIx 0 (mC (.int 3))))) (mC (.int 2147483629))) (tName 3))
  (sRet (mOp2 gMod (mOp2 gDiv (mVar 3) (mC (.int 5))) (mPk 1))))) sNext)
  (sSeq (sAsg (mOp2 gMod (mOp1 gInt (mOpV gIx 0 (mC (.int 2)))) (mPk 1)) (tName 4))
  (sSeq (sSetL 0 (mOp2 gDiv (mOpV gIx 0 (mC (.int 2))) (mPk 1)) (mC (.int 2)))
  (sRet (mVar 4))))))
def drawn (m : Int) (d : Py) (c' : C) : Prop := ∃ (r : Int) (l' : List Py), d = .int r ∧ c' = .ml l' ∧ 0 ≤ r ∧ r < m ∧ Pool l'
theorem rest_ok (cells : List Int) (p : Nat) (v c s m : Int) (x2 : C) (h0 : 0 < m) (h1 : m < 18446744073709551616) : Ok draw_rest [.ml [.list (cells.map .int), .int p, .int v, .int c, .int s], .val (.int m), x2, .no, .no] (endR 0 (drawn m)) := by
  have hm0 : ∀ z : Int, 0 ≤ z % m := fun z => Int.emod_nonneg z (by omega)
  have hm1 : ∀ z : Int, z % m < m := fun z => Int.emod_lt_of_pos z h0
  unfold draw_rest
  simp [h0, h1]
  by_cases hv : v ≤ 0
  · rw [if_pos hv]
    exact ⟨_, _, rfl, rfl, hm0 _, hm1 _, cells, p, v, c + 1, s, rfl⟩
  · rw [if_neg hv]
    exact ⟨_, _, rfl, rfl, hm0 _, hm1 _, cells, p, v / m, c + 1, s, rfl⟩
theorem draw_ok {l : List Py} (h : Pool l) {m : Int} (h0 : 0 < m) (h1 : m < 18446744073709551616) : ∃ d c', m_law_draw (.ml l) [.int m] = some (d, c') ∧ drawn m d c' := by
  obtain ⟨cells, p, v, c, s, rfl⟩ := h
  refine mDefR_ok rfl (Nat.zero_le _) rfl ?_
  have hs : slotsR 0 3 (.ml [.list (cells.map .int), .int p, .int v, .int c, .int s]) [.int m] = [.ml [.list (cells.map .int), .int p, .int v, .int c, .int s], .val (.int m), .no, .no, .no] := rfl
  rw [hs]
  have e : ∀ Q, Ok b_law_draw [.ml [.list (cells.map .int), .int p, .int v, .int c, .int s], .val (.int m), .no, .no, .no] Q ↔ Ok _ _ (kSeq draw_rest Q) := fun Q => Ok_sSeq
  rw [e]
  have R := fun p v x2 => rest_ok cells p v c s m x2 h0 h1
  generalize draw_rest = dr at R ⊢
  simp
  by_cases hv : v ≤ 0
  · rw [if_pos hv]
    by_cases hp : p < cells.length
    · rw [if_pos hp]
      have ea : atI (cells.map PyData.int) (p : Int) = some (.int cells[p]) := atI_nat (by rw [List.getElem?_map, List.getElem?_eq_getElem hp]; rfl)
      rw [ea]
      simp
      have hp1 : ((p : Int) + 1) = ((p + 1 : Nat) : Int) := by omega
      by_cases hc : cells[p] < 1000000000000000000
      · rw [if_pos hc]
        obtain ⟨_, e, z, rfl⟩ := spread_ok cells[p]
        rw [e]
        simp
        rw [hp1]
        exact R _ _ _
      · rw [if_neg hc, hp1]
        exact R _ _ _
    · rw [if_neg hp]
      exact R _ _ _
  · rw [if_neg hv]
    exact R _ _ _
/-! the comparison of the laws: alike with itself -/
mutual
def fine : Py → Bool
  | .list l => decide (l.length < 16777216) && fineAll l
  | .tuple l => decide (l.length < 16777216) && fineAll l
  | .dict _ => false
  | _ => true
def fineAll : List Py → Bool
  | [] => true
  | x :: xs => fine x && fineAll xs
end
mutual
theorem fine_plain : ∀ d : Py, fine d = true → d.plain = true
  | .none, _ => rfl
  | .bool _, _ => rfl
  | .int _, _ => rfl
  | .str _, _ => rfl
  | .list l, h => by
    rw [fine, Bool.and_eq_true] at h
    rw [PyData.plain]
    exact fineAll_plain l h.2
  | .tuple l, h => by
    rw [fine, Bool.and_eq_true] at h
    rw [PyData.plain]
    exact fineAll_plain l h.2
  | .dict _, h => by rw [fine] at h; cases h
theorem fineAll_plain : ∀ l : List Py, fineAll l = true → PyData.plainAll l = true
  | [], _ => rfl
  | x :: xs, h => by
    rw [fineAll, Bool.and_eq_true] at h
    rw [PyData.plainAll, fine_plain x h.1, fineAll_plain xs h.2]
    rfl
end
theorem fineAll_iff : ∀ {l : List Py}, fineAll l = true ↔ ∀ x ∈ l, fine x = true
  | [] => by simp [fineAll]
  | x :: xs => by rw [fineAll, Bool.and_eq_true, fineAll_iff]; simp
theorem depth_in : ∀ {l : List Py} {x : Py}, x ∈ l → x.depth ≤ PyData.depthAll l := fun h => DL.depth_mem h
@[simp] theorem isa_int_i {a : Int} : gIsa PyData.isInt (.int a) = some (.bool true) := rfl
section
variable {a : Int} {k : Bool} {x : Str}
@[simp] theorem gIsa_i {p : Py → Bool} : gIsa p (.int a) = some (.bool (p (.int a))) := rfl
@[simp] theorem gIsa_b {p : Py → Bool} : gIsa p (.bool k) = some (.bool (p (.bool k))) := rfl
@[simp] theorem gIsa_s {p : Py → Bool} : gIsa p (.str x) = some (.bool (p (.str x))) := rfl
@[simp] theorem gIsa_n {p : Py → Bool} : gIsa p .none = some (.bool (p .none)) := rfl
@[simp] theorem gIsa_l {p : Py → Bool} {l : List Py} (h : PyData.plainAll l = true) : gIsa p (.list l) = some (.bool (p (.list l))) := gIsa_plain (by rw [PyData.plain]; exact h)
@[simp] theorem gIsa_t {p : Py → Bool} {l : List Py} (h : PyData.plainAll l = true) : gIsa p (.tuple l) = some (.bool (p (.tuple l))) := gIsa_plain (by rw [PyData.plain]; exact h)
end
@[simp] theorem isInt_i {a : Int} : PyData.isInt (.int a) = true := rfl
@[simp] theorem isInt_b {a : Bool} : PyData.isInt (.bool a) = true := rfl
@[simp] theorem isInt_s {a : Str} : PyData.isInt (.str a) = false := rfl
@[simp] theorem isInt_l {a : List Py} : PyData.isInt (.list a) = false := rfl
@[simp] theorem isInt_t {a : List Py} : PyData.isInt (.tuple a) = false := rfl
@[simp] theorem isInt_n : PyData.isInt .none = false := rfl
@[simp] theorem isBool_i {a : Int} : PyData.isBool (.int a) = false := rfl
@[simp] theorem isBool_b {a : Bool} : PyData.isBool (.bool a) = true := rfl
@[simp] theorem isBool_s {a : Str} : PyData.isBool (.str a) = false := rfl
@[simp] theorem isBool_l {a : List Py} : PyData.isBool (.list a) = false := rfl
@[simp] theorem isBool_t {a : List Py} : PyData.isBool (.tuple a) = false := rfl
@[simp] theorem isBool_n : PyData.isBool .none = false := rfl
@[simp] theorem isStr_i {a : Int} : PyData.isStr (.int a) = false := rfl
@[simp] theorem isStr_b {a : Bool} : PyData.isStr (.bool a) = false := rfl
@[simp] theorem isStr_s {a : Str} : PyData.isStr (.str a) = true := rfl
@[simp] theorem isStr_l {a : List Py} : PyData.isStr (.list a) = false := rfl
@[simp] theorem isStr_t {a : List Py} : PyData.isStr (.tuple a) = false := rfl
@[simp] theorem isStr_n : PyData.isStr .none = false := rfl
@[simp] theorem isList_i {a : Int} : PyData.isList (.int a) = false := rfl
@[simp] theorem isList_b {a : Bool} : PyData.isList (.bool a) = false := rfl
@[simp] theorem isList_s {a : Str} : PyData.isList (.str a) = false := rfl
@[simp] theorem isList_l {a : List Py} : PyData.isList (.list a) = true := rfl
@[simp] theorem isList_t {a : List Py} : PyData.isList (.tuple a) = false := rfl
@[simp] theorem isList_n : PyData.isList .none = false := rfl
@[simp] theorem isTuple_i {a : Int} : PyData.isTuple (.int a) = false := rfl
@[simp] theorem isTuple_b {a : Bool} : PyData.isTuple (.bool a) = false := rfl
@[simp] theorem isTuple_s {a : Str} : PyData.isTuple (.str a) = false := rfl
@[simp] theorem isTuple_l {a : List Py} : PyData.isTuple (.list a) = false := rfl
@[simp] theorem isTuple_t {a : List Py} : PyData.isTuple (.tuple a) = true := rfl
@[simp] theorem isTuple_n : PyData.isTuple .none = false := rfl
theorem atI_k {α : Type} {l : List α} {k : Nat} (h : k < l.length) : atI l (k : Int) = some l[k] := atI_nat (List.getElem?_eq_getElem h)
/-- the items of a row, each alike with itself -/
theorem same_row {n : Nat} (d : Py) {l : List Py} (hd : ∀ k : Int, gIx d (.int k) = atI l k) (hl : gLen d = some (.int l.length)) (hn : l.length < 16777216) (ih : ∀ x ∈ l, m_law_same n [x, x] = some (.bool true)) {Q : List Py → Rho → Prop} (q : Q [] [.val d, .val d, .no]) :
    kLc (tName 2) (mNot (mTest (mCall (m_law_same n) (mCons (mOp2 gIx (mVar 0) (mPk 2)) (mCons (mOp2 gIx (mVar 1) (mPk 2)) mNil))))) (mVar 2) [2] Q (upto 0 l.length) [.val d, .val d, .no] := by
  refine lc_pure (fun _ => none) (by rw [upto_length]; exact hn) rfl (fun ρ1 h => ?_) (fun x hx => ?_) ?_
  · match ρ1, h with
    | [a, b, c], h =>
      simp [wipeC] at h
      obtain ⟨rfl, rfl⟩ := h
      rfl
    | [], h => simp [wipeC] at h
    | [a], h => simp [wipeC] at h
    | [a, b], h => simp [wipeC] at h
    | a :: b :: c :: e :: r, h => simp [wipeC] at h
  · obtain ⟨k, hk, rfl⟩ := upto_mem hx
    rw [Int.zero_add]
    have ek : atI l ((k : Nat) : Int) = some l[k] := atI_k hk
    simp [wipeC, hd, ek, ih l[k] (List.getElem_mem hk)]
  · rw [List.filterMap_eq_nil_iff.mpr fun _ _ => rfl]
    exact q
theorem same_self : ∀ (n : Nat) (d : Py), fine d = true → d.depth < n → m_law_same n [d, d] = some (.bool true)
  | 0, _, _, h => by omega
  | n + 1, d, hf, hd => by
    have hp := fine_plain d hf
    refine mDef_eq rfl ?_
    have hI : ∀ p : Py → Bool, gIsa p d = some (.bool (p d)) := fun p => gIsa_plain hp
    cases d with
    | none => simp [b_law_same]
    | bool b => simp [b_law_same]
    | int i => simp [b_law_same]
    | str s => simp [b_law_same]
    | dict l => rw [PyData.plain] at hp; cases hp
    | list l =>
      rw [fine, Bool.and_eq_true, decide_eq_true_eq] at hf
      have hl : PyData.plainAll l = true := fineAll_plain l hf.2
      simp [b_law_same, hl]
      rw [gRange1_i (small_nat (by omega)), OkO_some]
      refine same_row (.list l) (fun k => rfl) rfl hf.1 (fun x hx => same_self n x (fineAll_iff.mp hf.2 x hx) ?_) ?_
      · have := depth_in hx
        rw [PyData.depth] at hd
        omega
      · simp
    | tuple l =>
      rw [fine, Bool.and_eq_true, decide_eq_true_eq] at hf
      have hl : PyData.plainAll l = true := fineAll_plain l hf.2
      simp [b_law_same, hl]
      rw [gRange1_i (small_nat (by omega)), OkO_some]
      refine same_row (.tuple l) (fun k => rfl) rfl hf.1 (fun x hx => same_self n x (fineAll_iff.mp hf.2 x hx) ?_) ?_
      · have := depth_in hx
        rw [PyData.depth] at hd
        omega
      · simp
end DL

set_option maxRecDepth 100000
/-! DLS: texts as lists of their signs; slices. -/
namespace DL
open PySem L2
def sOf (l : List Nat) : Str := ⟨l.toArray⟩
/-- a text -/
abbrev pT (l : List Nat) : Py := .str (sOf l)
theorem sOf_self (s : Str) : sOf s.cps.toList = s := rfl
@[simp] theorem sOf_len (l : List Nat) : (sOf l).length = l.length := by
  show l.toArray.size = l.length
  exact List.size_toArray ..
@[simp] theorem sOf_app (a b : List Nat) : sOf a ++ sOf b = sOf (a ++ b) := by
  show (⟨a.toArray ++ b.toArray⟩ : Str) = ⟨(a ++ b).toArray⟩
  rw [List.append_toArray]
theorem sOf_inj {a b : List Nat} (h : sOf a = sOf b) : a = b := by
  have : a.toArray = b.toArray := congrArg Str.cps h
  simpa using this
@[simp] theorem sOf_eq {a b : List Nat} : sOf a = sOf b ↔ a = b := ⟨sOf_inj, fun h => by rw [h]⟩
@[simp] theorem sOf_cps (l : List Nat) : (sOf l).cps.toList = l := rfl
theorem sIx_of {n d : Nat} {i : Int} (h : 0 ≤ i) : HT.sIx n d (some i) = min i.toNat n := by
  show (if i < 0 then _ else _) = _
  rw [if_neg (by omega)]
theorem cutS_to (l : List Nat) {i : Int} (h : 0 ≤ i) : cutS (sOf l) none (some i) = sOf (l.take i.toNat) := by
  unfold cutS
  rw [sIx_of h, HT.sIx_none, sOf_len, sOf_cps, List.drop_zero, Nat.sub_zero, ← List.take_eq_take_min]
  rfl
theorem cutS_from (l : List Nat) {i : Int} (h : 0 ≤ i) : cutS (sOf l) (some i) none = sOf (l.drop i.toNat) := by
  unfold cutS
  rw [sIx_of h, HT.sIx_none, sOf_len, sOf_cps]
  show sOf ((l.drop (min i.toNat l.length)).take (l.length - min i.toNat l.length)) = _
  rw [List.take_of_length_le (by rw [List.length_drop]; exact Nat.le_refl _)]
  by_cases hl : i.toNat ≤ l.length
  · rw [Nat.min_eq_left hl]
  · rw [Nat.min_eq_right (by omega), List.drop_length, List.drop_of_length_le (by omega)]
theorem cutP_to (l : List Py) {i : Int} (h : 0 ≤ i) : cutP l none (some i) = l.take i.toNat := by
  unfold cutP
  rw [sIx_of h, HT.sIx_none, List.drop_zero, Nat.sub_zero, ← List.take_eq_take_min]
theorem cutP_from (l : List Py) {i : Int} (h : 0 ≤ i) : cutP l (some i) none = l.drop i.toNat := by
  unfold cutP
  rw [sIx_of h, HT.sIx_none]
  rw [List.take_of_length_le (by rw [List.length_drop]; exact Nat.le_refl _)]
  by_cases hl : i.toNat ≤ l.length
  · rw [Nat.min_eq_left hl]
  · rw [Nat.min_eq_right (by omega), List.drop_length, List.drop_of_length_le (by omega)]
theorem gSl_sto {l : List Nat} {i : Int} (h : 0 ≤ i) (hl : l.length ≤ 16777216) : gSl (pT l) none (some i) = some (pT (l.take i.toNat)) := by
  show (if (sOf l).length ≤ 16777216 then some (PyData.str (cutS (sOf l) none (some i))) else none) = _
  rw [sOf_len, if_pos hl, cutS_to l h]
theorem gSl_sfrom {l : List Nat} {i : Int} (h : 0 ≤ i) (hl : l.length ≤ 16777216) : gSl (pT l) (some i) none = some (pT (l.drop i.toNat)) := by
  show (if (sOf l).length ≤ 16777216 then some (PyData.str (cutS (sOf l) (some i) none)) else none) = _
  rw [sOf_len, if_pos hl, cutS_from l h]
@[simp] theorem gSl_tto {l : List Py} {i : Int} (h : 0 ≤ i) : gSl (.tuple l) none (some i) = some (.tuple (l.take i.toNat)) := by
  show some (PyData.tuple (cutP l none (some i))) = _
  rw [cutP_to l h]
@[simp] theorem gSl_tfrom {l : List Py} {i : Int} (h : 0 ≤ i) : gSl (.tuple l) (some i) none = some (.tuple (l.drop i.toNat)) := by
  show some (PyData.tuple (cutP l (some i) none)) = _
  rw [cutP_from l h]
theorem gSlL_to {l : List Py} {i : Int} (h : 0 ≤ i) : gSlL (.list l) none (some i) = some (l.take i.toNat) := by
  show some (cutP l none (some i)) = _
  rw [cutP_to l h]
theorem gSlL_from {l : List Py} {i : Int} (h : 0 ≤ i) : gSlL (.list l) (some i) none = some (l.drop i.toNat) := by
  show some (cutP l (some i) none) = _
  rw [cutP_from l h]
theorem gLen_T {l : List Nat} (h : l.length ≤ 16777216) : gLen (pT l) = some (.int l.length) := by
  rw [gLen_s (by rw [sOf_len]; exact h), sOf_len]
theorem gAdd_T {a b : List Nat} (h : a.length + b.length ≤ 16777216) : gAdd (pT a) (pT b) = some (pT (a ++ b)) := by
  rw [gAdd_ss (by rw [sOf_len, sOf_len]; exact h), sOf_app]
/-- the text of a row of signs in quotes -/
theorem lit_of {s : Str} {l : List Nat} (h : s = sOf l) : s = sOf l := h
end DL

set_option maxRecDepth 100000
set_option maxHeartbeats 4000000
namespace K80
open PySem PySem.Spec PyProof.Rows L2 DL
/-! the text by places -/
def topS (i : Nat) : Stmt := PySem.Challenge.pw_foliohouse_k80_whole_rows_of_two_readers.main.body.getD i (.Pass ⟨0, 0, 0, 0⟩)
abbrev s_moved_put : Stmt := topS 2
abbrev N_moved_put : List Str := ["correction", "other", "first", "_", "place", "text", "at", "what", "stays"]
theorem sc_moved_put : FnScope N_moved_put ["correction", "other", "first"] (defScope s_moved_put) := ⟨rfl, rfl, rfl, by decide +kernel, rfl, by decide +kernel, by decide +kernel⟩
abbrev s_moved_take : Stmt := topS 3
abbrev N_moved_take : List Str := ["correction", "other", "_", "place", "many", "at", "what", "both", "start"]
theorem sc_moved_take : FnScope N_moved_take ["correction", "other"] (defScope s_moved_take) := ⟨rfl, rfl, rfl, by decide +kernel, rfl, by decide +kernel, by decide +kernel⟩
abbrev s_moved : Stmt := topS 4
abbrev N_moved : List Str := ["correction", "other", "first"]
theorem sc_moved : FnScope N_moved ["correction", "other", "first"] (defScope s_moved) := ⟨rfl, rfl, rfl, by decide +kernel, rfl, by decide +kernel, by decide +kernel⟩
abbrev s_law_behind : Stmt := topS 16
abbrev N_law_behind : List Str := ["one", "row", "first", "mine", "other", "found", "rest", "step", "told"]
theorem sc_law_behind : FnScope N_law_behind ["one", "row", "first"] (defScope s_law_behind) := ⟨rfl, rfl, rfl, by decide +kernel, rfl, by decide +kernel, by decide +kernel⟩
abbrev s_law_done : Stmt := topS 14
abbrev N_law_done : List Str := ["text", "correction", "word", "place", "what"]
theorem sc_law_done : FnScope N_law_done ["text", "correction"] (defScope s_law_done) := ⟨rfl, rfl, rfl, by decide +kernel, rfl, by decide +kernel, by decide +kernel⟩
abbrev s_law_spread : Stmt := topS 11
abbrev N_law_spread : List Str := ["cell", "mixed", "total", "k"]
theorem sc_law_spread : FnScope N_law_spread ["cell"] (defScope s_law_spread) := ⟨rfl, rfl, rfl, by decide +kernel, rfl, by decide +kernel, by decide +kernel⟩
abbrev s_law_draw : Stmt := topS 12
abbrev N_law_draw : List Str := ["pool", "many", "cell", "mixed", "value"]
theorem sc_law_draw : FnScope N_law_draw ["pool", "many"] (defScope s_law_draw) := ⟨rfl, rfl, rfl, by decide +kernel, rfl, by decide +kernel, by decide +kernel⟩
abbrev s_law_pool : Stmt := topS 10
abbrev N_law_pool : List Str := ["script", "salt", "cell"]
theorem sc_law_pool : FnScope N_law_pool ["script"] (defScope s_law_pool) := ⟨rfl, rfl, rfl, by decide +kernel, rfl, by decide +kernel, by decide +kernel⟩
abbrev s_law_correction : Stmt := topS 13
abbrev N_law_correction : List Str := ["pool", "length", "place"]
theorem sc_law_correction : FnScope N_law_correction ["pool", "length"] (defScope s_law_correction) := ⟨rfl, rfl, rfl, by decide +kernel, rfl, by decide +kernel, by decide +kernel⟩
abbrev s_law_row : Stmt := topS 15
abbrev N_law_row : List Str := ["pool", "text", "many", "row", "k", "one"]
theorem sc_law_row : FnScope N_law_row ["pool", "text", "many"] (defScope s_law_row) := ⟨rfl, rfl, rfl, by decide +kernel, rfl, by decide +kernel, by decide +kernel⟩
abbrev s_law_same : Stmt := topS 9
abbrev N_law_same : List Str := ["actual", "due", "k"]
theorem sc_law_same : FnScope N_law_same ["actual", "due"] (defScope s_law_same) := ⟨rfl, rfl, rfl, by decide +kernel, rfl, by decide +kernel, by decide +kernel⟩
abbrev s_corrected : Stmt := topS 1
abbrev N_corrected : List Str := ["text", "correction", "word", "place", "what"]
theorem sc_corrected : FnScope N_corrected ["text", "correction"] (defScope s_corrected) := ⟨rfl, rfl, rfl, by decide +kernel, rfl, by decide +kernel, by decide +kernel⟩
abbrev s_all_corrected : Stmt := topS 6
abbrev N_all_corrected : List Str := ["text", "row", "correction"]
theorem sc_all_corrected : FnScope N_all_corrected ["text", "row"] (defScope s_all_corrected) := ⟨rfl, rfl, rfl, by decide +kernel, rfl, by decide +kernel, by decide +kernel⟩
abbrev s_crossed : Stmt := topS 5
abbrev N_crossed : List Str := ["first", "second", "one", "rest", "two", "end"]
theorem sc_crossed : FnScope N_crossed ["first", "second"] (defScope s_crossed) := ⟨rfl, rfl, rfl, by decide +kernel, rfl, by decide +kernel, by decide +kernel⟩
abbrev s_both_readers : Stmt := topS 7
abbrev N_both_readers : List Str := ["text", "first", "second"]
theorem sc_both_readers : FnScope N_both_readers ["text", "first", "second"] (defScope s_both_readers) := ⟨rfl, rfl, rfl, by decide +kernel, rfl, by decide +kernel, by decide +kernel⟩
abbrev s_law : Stmt := topS 17
abbrev N_law : List Str := ["script", "pool", "text", "first", "second", "told", "now", "rest", "one", "step", "other", "alone"]
theorem sc_law : FnScope N_law ["script"] (defScope s_law) := ⟨rfl, rfl, rfl, by decide +kernel, rfl, by decide +kernel, by decide +kernel⟩
/-! what each def computes -/
def b_moved_put : S :=
  (sSeq (sAsg (mVar 0) (tTup 3 (tsCons (tName 3) (tsCons (tName 4) (tsCons (tName 5) tsNil)))))
  (sSeq (sAsg (mVar 1) (tTup 3 (tsCons (tName 3) (tsCons (tName 6) (tsCons (tName 7) tsNil)))))
  (sSeq (sIf (mTest (mOp2 gEq (mOp2 gIx (mVar 1) (mC (.int 0))) (mC (.str "put")))) (sSeq (sAsg (mOrV (mOp2 gLt (mVar 4) (mPk 6)) (mAndV (mOp2 gEq (mVar 4) (mPk 6)) (mVar 2))) (tName 8))
  (sRet (mTup (mCons (mTup (mCons (mC (.str "put")) (mCons (mIf (mTest (mVar 8)) (mVar 4) (mOp2 gAdd (mVar 4) (mOp1 gLen (mPk 7)))) (mCons (mVar 5) mNil)))) mNil)))) sNext)
  (sSeq (sIf (mTest (mOp2 gLe (mVar 4) (mPk 6))) (sRet (mTup (mCons (mVar 0) mNil))) sNext)
  (sRet (mTup (mCons (mTup (mCons (mC (.str "put")) (mCons (mOp2 gMax2 (mVar 6) (mOp2 gSub (mVar 4) (mPk 7))) (mCons (mVar 5) mNil)))) mNil)))))))
def m_moved_put : List Py → Option Py := mDef 3 6 b_moved_put
def b_moved_take : S :=
  (sSeq (sAsg (mVar 0) (tTup 3 (tsCons (tName 2) (tsCons (tName 3) (tsCons (tName 4) tsNil)))))
  (sSeq (sAsg (mVar 1) (tTup 3 (tsCons (tName 2) (tsCons (tName 5) (tsCons (tName 6) tsNil)))))
  (sSeq (sIf (mTest (mOp2 gEq (mOp2 gIx (mVar 1) (mC (.int 0))) (mC (.str "put")))) (sSeq (sIf (mTest (mOp2 gLe (mVar 5) (mPk 3))) (sRet (mTup (mCons (mTup (mCons (mC (.str "take")) (mCons (mOp2 gAdd (mVar 3) (mOp1 gLen (mPk 6))) (mCons (mVar 4) mNil)))) mNil))) sNext)
  (sSeq (sIf (mTest (mOp2 gGe (mVar 5) (mOp2 gAdd (mVar 3) (mPk 4)))) (sRet (mTup (mCons (mVar 0) mNil))) sNext)
  (sRet (mTup (mCons (mTup (mCons (mC (.str "take")) (mCons (mOp2 gAdd (mVar 5) (mOp1 gLen (mPk 6))) (mCons (mOp2 gSub (mOp2 gAdd (mVar 3) (mPk 4)) (mPk 5)) mNil)))) (mCons (mTup (mCons (mC (.str "take")) (mCons (mVar 3) (mCons (mOp2 gSub (mVar 5) (mPk 3)) mNil)))) mNil)))))) sNext)
  (sSeq (sAsg (mOp2 gMax2 (mC (.int 0)) (mOp2 gSub (mOp2 gMin2 (mOp2 gAdd (mVar 3) (mPk 4)) (mOp2 gAdd (mVar 5) (mPk 6))) (mOp2 gMax2 (mVar 3) (mVar 5)))) (tName 7))
  (sSeq (sAsg (mIf (mTest (mOp2 gLt (mVar 3) (mPk 5))) (mVar 3) (mOp2 gMax2 (mVar 5) (mOp2 gSub (mVar 3) (mPk 6)))) (tName 8))
  (sRet (mIf (mTest (mOp2 gGt (mVar 4) (mPk 7))) (mTup (mCons (mTup (mCons (mC (.str "take")) (mCons (mVar 8) (mCons (mOp2 gSub (mVar 4) (mPk 7)) mNil)))) mNil)) (mTup mNil))))))))
def m_moved_take : List Py → Option Py := mDef 2 7 b_moved_take
def b_moved : S :=
  (sRet (mIf (mTest (mOp2 gEq (mOp2 gIx (mVar 0) (mC (.int 0))) (mC (.str "put")))) (mCall m_moved_put (mCons (mVar 0) (mCons (mVar 1) (mCons (mVar 2) mNil)))) (mCall m_moved_take (mCons (mVar 0) (mCons (mVar 1) mNil)))))
def m_moved : List Py → Option Py := mDef 3 0 b_moved
def b_law_behind (r_law_behind : List Py → Option Py) : S :=
  (sSeq (sIf (mTest (mOp2 gEq (mOp1 gLen (mPk 1)) (mC (.int 0)))) (sRet (mFrz (mLst (mCons (mTup (mCons (mVar 0) mNil)) (mCons (mTup mNil) mNil))))) sNext)
  (sSeq (sAsg (mCall m_moved (mCons (mVar 0) (mCons (mOp2 gIx (mVar 1) (mC (.int 0))) (mCons (mVar 2) mNil)))) (tName 3))
  (sSeq (sAsg (mCall m_moved (mCons (mOp2 gIx (mVar 1) (mC (.int 0))) (mCons (mVar 0) (mCons (mNotV (mVar 2)) mNil)))) (tName 4))
  (sSeq (sAsg (mTup mNil) (tName 5))
  (sSeq (sAsg (mSl (mVar 1) (mPart (mC (.int 1))) mNoPart) (tName 6))
  (sSeq (sFor (iTup (mVar 3)) (tName 7) (sSeq (sAsg (mCall r_law_behind (mCons (mVar 7) (mCons (mVar 6) (mCons (mVar 2) mNil)))) (tName 8))
  (sSeq (sAsg (mOp2 gAdd (mVar 5) (mOp2 gIx (mVar 8) (mC (.int 0)))) (tName 5))
  (sAsg (mOp2 gIx (mVar 8) (mC (.int 1))) (tName 6)))))
  (sRet (mFrz (mLst (mCons (mVar 5) (mCons (mOp2 gAdd (mVar 4) (mPk 6)) mNil)))))))))))
def m_law_behind : Nat → List Py → Option Py
  | 0 => fun _ => none
  | n + 1 => mDef 3 6 (b_law_behind (m_law_behind n))
def b_law_done : S :=
  (sSeq (sAsg (mVar 1) (tTup 3 (tsCons (tName 2) (tsCons (tName 3) (tsCons (tName 4) tsNil)))))
  (sRet (mOp2 gAdd (mOp2 gAdd (mSl (mVar 0) mNoPart (mPart (mVar 3))) (mIf (mTest (mOp2 gEq (mVar 2) (mC (.str "put")))) (mVar 4) (mC (.str "")))) (mSl (mVar 0) (mPart (mOp2 gAdd (mVar 3) (mIf (mTest (mOp2 gEq (mVar 2) (mC (.str "put")))) (mC (.int 0)) (mVar 4)))) mNoPart))))
def m_law_done : List Py → Option Py := mDef 2 3 b_law_done
def b_law_correction : S :=
  (sSeq (sIf (mOr (mTest (mOp2 gEq (mVar 1) (mC (.int 0)))) (mTest (mOp2 gEq (mCallR m_law_draw 0 (mCons (mC (.int 2)) mNil)) (mC (.int 0))))) (sRet (mTup (mCons (mC (.str "put")) (mCons (mCallR m_law_draw 0 (mCons (mOp2 gAdd (mVar 1) (mC (.int 1))) mNil)) (mCons (mOp2 gIx (mTup (mCons (mC (.str "x")) (mCons (mC (.str "yz")) (mCons (mC (.str "abc")) mNil)))) (mCallR m_law_draw 0 (mCons (mC (.int 3)) mNil))) mNil))))) sNext)
  (sSeq (sAsg (mCallR m_law_draw 0 (mCons (mVar 1) mNil)) (tName 2))
  (sRet (mTup (mCons (mC (.str "take")) (mCons (mVar 2) (mCons (mOp2 gAdd (mC (.int 1)) (mCallR m_law_draw 0 (mCons (mOp2 gMin2 (mC (.int 6)) (mOp2 gSub (mVar 1) (mPk 2))) mNil))) mNil)))))))
def m_law_correction : C → List Py → Option (Py × C) := mDefR 0 2 1 b_law_correction
def b_law_row : S :=
  (sSeq (sAsg (mTup mNil) (tName 3))
  (sSeq (sFor (iRange1 (mVar 2)) (tName 4) (sSeq (sAsg (mCallR m_law_correction 0 (mCons (mOp1 gLen (mPk 1)) mNil)) (tName 5))
  (sSeq (sAsg (mCall m_law_done (mCons (mVar 1) (mCons (mVar 5) mNil))) (tName 1))
  (sAsg (mOp2 gAdd (mVar 3) (mTup (mCons (mVar 5) mNil))) (tName 3)))))
  (sRet (mVar 3))))
def m_law_row : C → List Py → Option (Py × C) := mDefR 0 3 3 b_law_row
def b_corrected : S :=
  (sSeq (sAsg (mVar 1) (tTup 3 (tsCons (tName 2) (tsCons (tName 3) (tsCons (tName 4) tsNil)))))
  (sSeq (sIf (mTest (mOp2 gEq (mVar 2) (mC (.str "put")))) (sRet (mOp2 gAdd (mOp2 gAdd (mSl (mVar 0) mNoPart (mPart (mVar 3))) (mPk 4)) (mSl (mVar 0) (mPart (mVar 3)) mNoPart))) sNext)
  (sRet (mOp2 gAdd (mSl (mVar 0) mNoPart (mPart (mVar 3))) (mSl (mVar 0) (mPart (mOp2 gAdd (mVar 3) (mPk 4))) mNoPart)))))
def m_corrected : List Py → Option Py := mDef 2 3 b_corrected
def b_all_corrected : S :=
  (sSeq (sFor (iTup (mVar 1)) (tName 2) (sAsg (mCall m_corrected (mCons (mVar 0) (mCons (mVar 2) mNil))) (tName 0)))
  (sRet (mVar 0)))
def m_all_corrected : List Py → Option Py := mDef 2 1 b_all_corrected
def b_crossed (r_crossed : List Py → Option Py) : S :=
  (sSeq (sIf (mOr (mTest (mOp2 gEq (mOp1 gLen (mPk 0)) (mC (.int 0)))) (mTest (mOp2 gEq (mOp1 gLen (mPk 1)) (mC (.int 0))))) (sRet (mTup (mCons (mVar 0) (mCons (mVar 1) mNil)))) sNext)
  (sSeq (sIf (mAnd (mTest (mOp2 gEq (mOp1 gLen (mPk 0)) (mC (.int 1)))) (mTest (mOp2 gEq (mOp1 gLen (mPk 1)) (mC (.int 1))))) (sRet (mTup (mCons (mCall m_moved (mCons (mOp2 gIx (mVar 0) (mC (.int 0))) (mCons (mOp2 gIx (mVar 1) (mC (.int 0))) (mCons (mC (.bool true)) mNil)))) (mCons (mCall m_moved (mCons (mOp2 gIx (mVar 1) (mC (.int 0))) (mCons (mOp2 gIx (mVar 0) (mC (.int 0))) (mCons (mC (.bool false)) mNil)))) mNil)))) sNext)
  (sSeq (sIf (mTest (mOp2 gGt (mOp1 gLen (mPk 0)) (mC (.int 1)))) (sSeq (sAsg (mCall r_crossed (mCons (mSl (mVar 0) mNoPart (mPart (mC (.int 1)))) (mCons (mVar 1) mNil))) (tTup 2 (tsCons (tName 2) (tsCons (tName 3) tsNil))))
  (sSeq (sAsg (mCall r_crossed (mCons (mSl (mVar 0) (mPart (mC (.int 1))) mNoPart) (mCons (mVar 3) mNil))) (tTup 2 (tsCons (tName 4) (tsCons (tName 5) tsNil))))
  (sRet (mTup (mCons (mOp2 gAdd (mVar 2) (mPk 4)) (mCons (mVar 5) mNil)))))) sNext)
  (sSeq (sAsg (mCall r_crossed (mCons (mVar 0) (mCons (mSl (mVar 1) mNoPart (mPart (mC (.int 1)))) mNil))) (tTup 2 (tsCons (tName 2) (tsCons (tName 3) tsNil))))
  (sSeq (sAsg (mCall r_crossed (mCons (mVar 2) (mCons (mSl (mVar 1) (mPart (mC (.int 1))) mNoPart) mNil))) (tTup 2 (tsCons (tName 4) (tsCons (tName 5) tsNil))))
  (sRet (mTup (mCons (mVar 4) (mCons (mOp2 gAdd (mVar 3) (mPk 5)) mNil)))))))))
def m_crossed : Nat → List Py → Option Py
  | 0 => fun _ => none
  | n + 1 => mDef 2 4 (b_crossed (m_crossed n))
def b_both_readers : S :=
  (sRet (mCall m_all_corrected (mCons (mVar 0) (mCons (mOp2 gAdd (mVar 1) (mOp2 gIx (mCall (m_crossed 140) (mCons (mVar 1) (mCons (mVar 2) mNil))) (mC (.int 1)))) mNil))))
def m_both_readers : List Py → Option Py := mDef 3 0 b_both_readers
def b_law : S :=
  (sSeq (sAsg (mSl (mC (.str "abcdefghijklmnop")) mNoPart (mPart (mCallR m_law_draw 1 (mCons (mC (.int 17)) mNil)))) (tName 2))
  (sSeq (sAsg (mCallR m_law_row 1 (mCons (mVar 2) (mCons (mCallR m_law_draw 1 (mCons (mC (.int 5)) mNil)) mNil))) (tName 3))
  (sSeq (sAsg (mCallR m_law_row 1 (mCons (mVar 2) (mCons (mCallR m_law_draw 1 (mCons (mC (.int 5)) mNil)) mNil))) (tName 4))
  (sSeq (sAsg (mCall m_both_readers (mCons (mVar 2) (mCons (mVar 3) (mCons (mVar 4) mNil)))) (tName 5))
  (sSeq (sAsg (mVar 2) (tName 6))
  (sSeq (sAsg (mVar 4) (tName 7))
  (sSeq (sFor (iTup (mVar 3)) (tName 8) (sSeq (sAsg (mCall m_law_done (mCons (mVar 6) (mCons (mVar 8) mNil))) (tName 6))
  (sAsg (mOp2 gIx (mCall (m_law_behind 70) (mCons (mVar 8) (mCons (mVar 7) (mCons (mC (.bool true)) mNil)))) (mC (.int 1))) (tName 7))))
  (sSeq (sFor (iTup (mVar 7)) (tName 9) (sAsg (mCall m_law_done (mCons (mVar 6) (mCons (mVar 9) mNil))) (tName 6)))
  (sSeq (sIf (mNot (mTest (mCall (m_law_same 40) (mCons (mVar 5) (mCons (mVar 6) mNil))))) (sRet (mC (.bool false))) sNext)
  (sSeq (sAsg (mVar 2) (tName 10))
  (sSeq (sAsg (mVar 3) (tName 7))
  (sSeq (sFor (iTup (mVar 4)) (tName 8) (sSeq (sAsg (mCall m_law_done (mCons (mVar 10) (mCons (mVar 8) mNil))) (tName 10))
  (sAsg (mOp2 gIx (mCall (m_law_behind 70) (mCons (mVar 8) (mCons (mVar 7) (mCons (mC (.bool false)) mNil)))) (mC (.int 1))) (tName 7))))
  (sSeq (sFor (iTup (mVar 7)) (tName 9) (sAsg (mCall m_law_done (mCons (mVar 10) (mCons (mVar 9) mNil))) (tName 10)))
  (sSeq (sIf (mNot (mTest (mCall (m_law_same 40) (mCons (mVar 10) (mCons (mVar 5) mNil))))) (sRet (mC (.bool false))) sNext)
  (sSeq (sAsg (mFrz (mLst (mCons (mCall m_both_readers (mCons (mVar 2) (mCons (mVar 3) (mCons (mTup mNil) mNil)))) (mCons (mCall m_both_readers (mCons (mVar 2) (mCons (mTup mNil) (mCons (mVar 4) mNil)))) mNil)))) (tName 11))
  (sRet (mCall (m_law_same 40) (mCons (mVar 11) (mCons (mFrz (mLst (mCons (mCall m_all_corrected (mCons (mVar 2) (mCons (mVar 3) mNil))) (mCons (mCall m_all_corrected (mCons (mVar 2) (mCons (mVar 4) mNil))) mNil)))) mNil)))))))))))))))))))
def m_law (ns : List Int) : Option Py := mLaw 10 b_law ns

/-! the plain law: corrections of a text, crossed -/
inductive Cor where
  | put (p : Nat) (t : List Nat)
  | take (p m : Nat)
open Cor
def isPut : Cor → Bool
  | put _ _ => true
  | take _ _ => false
def enc : Cor → Py
  | put p t => .tuple [.str "put", .int p, pT t]
  | take p m => .tuple [.str "take", .int p, .int m]
def encs (r : List Cor) : Py := .tuple (r.map enc)
def app (l : List Nat) : Cor → List Nat
  | put p t => l.take p ++ t ++ l.drop p
  | take p m => l.take p ++ l.drop (p + m)
def appAll (l : List Nat) (r : List Cor) : List Nat := r.foldl app l
def valid (l : List Nat) : Cor → Prop
  | put p _ => p ≤ l.length
  | take p m => 1 ≤ m ∧ p + m ≤ l.length
def validAll : List Nat → List Cor → Prop
  | _, [] => True
  | l, x :: r => valid l x ∧ validAll (app l x) r
/-- x moved behind y -/
def mv (t : Bool) : Cor → Cor → List Cor
  | put p s, put q w => if p < q ∨ (p = q ∧ t = true) then [put p s] else [put (p + w.length) s]
  | put p s, take q m => if p ≤ q then [put p s] else [put (max q (p - m)) s]
  | take p m, put q w => if q ≤ p then [take (p + w.length) m] else if p + m ≤ q then [take p m] else [take (q + w.length) (p + m - q), take p (q - p)]
  | take p m, take q k => if min (p + m) (q + k) - max p q < m then [take (if p < q then p else max q (p - k)) (m - (min (p + m) (q + k) - max p q))] else []
theorem app_get_put {l : List Nat} {p : Nat} {t : List Nat} (h : p ≤ l.length) (i : Nat) : (app l (put p t))[i]? = if i < p then l[i]? else if i < p + t.length then t[i - p]? else l[i - t.length]? := by
  show (l.take p ++ t ++ l.drop p)[i]? = _
  rw [List.append_assoc, List.getElem?_append, List.length_take, Nat.min_eq_left h, List.getElem?_take]
  by_cases h1 : i < p
  · rw [if_pos h1, if_pos h1, if_pos h1]
  · rw [if_neg h1, if_neg h1, List.getElem?_append]
    by_cases h2 : i < p + t.length
    · rw [if_pos (by omega), if_pos h2]
    · rw [if_neg (by omega), if_neg h2, List.getElem?_drop]
      congr 1
      omega
theorem app_get_take {l : List Nat} {p m : Nat} (h : p + m ≤ l.length) (i : Nat) : (app l (take p m))[i]? = if i < p then l[i]? else l[i + m]? := by
  show (l.take p ++ l.drop (p + m))[i]? = _
  rw [List.getElem?_append, List.length_take, Nat.min_eq_left (by omega), List.getElem?_take]
  by_cases h1 : i < p
  · rw [if_pos h1, if_pos h1, if_pos h1]
  · rw [if_neg h1, if_neg h1, List.getElem?_drop]
    congr 1
    omega
theorem app_len_put {l : List Nat} {p : Nat} {t : List Nat} (h : p ≤ l.length) : (app l (put p t)).length = l.length + t.length := by
  show (l.take p ++ t ++ l.drop p).length = _
  rw [List.length_append, List.length_append, List.length_take, List.length_drop]
  omega
theorem app_len_take {l : List Nat} {p m : Nat} (h : p + m ≤ l.length) : (app l (take p m)).length = l.length - m := by
  show (l.take p ++ l.drop (p + m)).length = _
  rw [List.length_append, List.length_take, List.length_drop]
  omega
theorem tp1 {l : List Nat} {x y a b : Cor} (h1 : valid (app l x) a) (h2 : valid (app l y) b) (e : app (app l x) a = app (app l y) b) : validAll (app l x) [a] ∧ validAll (app l y) [b] ∧ appAll (app l x) [a] = appAll (app l y) [b] := ⟨⟨h1, trivial⟩, ⟨h2, trivial⟩, e⟩
theorem tp (t : Bool) (l : List Nat) (x y : Cor) (hx : valid l x) (hy : valid l y) : validAll (app l x) (mv (!t) y x) ∧ validAll (app l y) (mv t x y) ∧ appAll (app l x) (mv (!t) y x) = appAll (app l y) (mv t x y) := by
  cases x with
  | put p s =>
    have hx : p ≤ l.length := hx
    cases y with
    | put q w =>
      have hy : q ≤ l.length := hy
      have lx := app_len_put (t := s) hx
      have ly := app_len_put (t := w) hy
      simp only [mv]
      by_cases c : p < q ∨ (p = q ∧ t = true)
      · have c2 : ¬ (q < p ∨ (q = p ∧ (!t) = true)) := by
          rcases c with c | ⟨rfl, rfl⟩
          · omega
          · simp
        rw [if_pos c, if_neg c2]
        have v1 : q + s.length ≤ (app l (put p s)).length := by omega
        have v2 : p ≤ (app l (put q w)).length := by omega
        have c3 : p ≤ q := by omega
        refine tp1 v1 v2 (List.ext_getElem? fun i => ?_)
        simp only [app_get_put v1, app_get_put v2, app_get_put hx, app_get_put hy]
        repeat' split
        all_goals first | rfl | (exfalso; omega) | (congr 1; omega)
      · have c2 : q < p ∨ (q = p ∧ (!t) = true) := by
          by_cases e : p = q
          · refine .inr ⟨e.symm, ?_⟩
            cases t with
            | true => exact absurd (.inr ⟨e, rfl⟩) c
            | false => rfl
          · omega
        rw [if_neg c, if_pos c2]
        have v1 : q ≤ (app l (put p s)).length := by omega
        have v2 : p + w.length ≤ (app l (put q w)).length := by omega
        have c3 : q ≤ p := by omega
        refine tp1 v1 v2 (List.ext_getElem? fun i => ?_)
        simp only [app_get_put v1, app_get_put v2, app_get_put hx, app_get_put hy]
        repeat' split
        all_goals first | rfl | (exfalso; omega) | (congr 1; omega)
    | take q m =>
      have hy : 1 ≤ m ∧ q + m ≤ l.length := hy
      have lx := app_len_put (t := s) hx
      have ly := app_len_take hy.2
      simp only [mv]
      by_cases c : p ≤ q
      · rw [if_pos c, if_pos c]
        have v1 : q + s.length + m ≤ (app l (put p s)).length := by omega
        have v2 : p ≤ (app l (take q m)).length := by omega
        refine tp1 ⟨hy.1, v1⟩ v2 (List.ext_getElem? fun i => ?_)
        simp only [app_get_take v1, app_get_put v2, app_get_put hx, app_get_take hy.2]
        repeat' split
        all_goals first | rfl | (exfalso; omega) | (congr 1; omega)
      · rw [if_neg c, if_neg c]
        by_cases c2 : q + m ≤ p
        · rw [if_pos c2]
          have v1 : q + m ≤ (app l (put p s)).length := by omega
          have v2 : max q (p - m) ≤ (app l (take q m)).length := by omega
          refine tp1 ⟨hy.1, v1⟩ v2 (List.ext_getElem? fun i => ?_)
          simp only [app_get_take v1, app_get_put v2, app_get_put hx, app_get_take hy.2]
          repeat' split
          all_goals first | rfl | (exfalso; omega) | (congr 1; omega)
        · rw [if_neg c2]
          have v1 : p + s.length + (q + m - p) ≤ (app l (put p s)).length := by omega
          have l1 := app_len_take v1
          have v3 : q + (p - q) ≤ (app (app l (put p s)) (take (p + s.length) (q + m - p))).length := by omega
          have v2 : max q (p - m) ≤ (app l (take q m)).length := by omega
          refine ⟨⟨⟨by omega, v1⟩, ⟨by omega, v3⟩, trivial⟩, ⟨v2, trivial⟩, ?_⟩
          show app (app (app l (put p s)) (take (p + s.length) (q + m - p))) (take q (p - q)) = app (app l (take q m)) (put (max q (p - m)) s)
          refine List.ext_getElem? fun i => ?_
          simp only [app_get_take v1, app_get_take v3, app_get_put v2, app_get_put hx, app_get_take hy.2]
          repeat' split
          all_goals first | rfl | (exfalso; omega) | (congr 1; omega)
  | take p m =>
    have hx : 1 ≤ m ∧ p + m ≤ l.length := hx
    have lx := app_len_take hx.2
    cases y with
    | put q w =>
      have hy : q ≤ l.length := hy
      have ly := app_len_put (t := w) hy
      simp only [mv]
      by_cases c : q ≤ p
      · rw [if_pos c, if_pos c]
        have v1 : q ≤ (app l (take p m)).length := by omega
        have v2 : p + w.length + m ≤ (app l (put q w)).length := by omega
        refine tp1 v1 ⟨hx.1, v2⟩ (List.ext_getElem? fun i => ?_)
        simp only [app_get_take v2, app_get_put v1, app_get_put hy, app_get_take hx.2]
        repeat' split
        all_goals first | rfl | (exfalso; omega) | (congr 1; omega)
      · rw [if_neg c, if_neg c]
        by_cases c2 : p + m ≤ q
        · rw [if_pos c2]
          have v1 : max p (q - m) ≤ (app l (take p m)).length := by omega
          have v2 : p + m ≤ (app l (put q w)).length := by omega
          refine tp1 v1 ⟨hx.1, v2⟩ (List.ext_getElem? fun i => ?_)
          simp only [app_get_take v2, app_get_put v1, app_get_put hy, app_get_take hx.2]
          repeat' split
          all_goals first | rfl | (exfalso; omega) | (congr 1; omega)
        · rw [if_neg c2]
          have v1 : max p (q - m) ≤ (app l (take p m)).length := by omega
          have v2 : q + w.length + (p + m - q) ≤ (app l (put q w)).length := by omega
          have l1 := app_len_take v2
          have v3 : p + (q - p) ≤ (app (app l (put q w)) (take (q + w.length) (p + m - q))).length := by omega
          refine ⟨⟨v1, trivial⟩, ⟨⟨by omega, v2⟩, ⟨by omega, v3⟩, trivial⟩, ?_⟩
          show app (app l (take p m)) (put (max p (q - m)) w) = app (app (app l (put q w)) (take (q + w.length) (p + m - q))) (take p (q - p))
          refine List.ext_getElem? fun i => ?_
          simp only [app_get_take v2, app_get_take v3, app_get_put v1, app_get_put hy, app_get_take hx.2]
          repeat' split
          all_goals first | rfl | (exfalso; omega) | (congr 1; omega)
    | take q k =>
      have hy : 1 ≤ k ∧ q + k ≤ l.length := hy
      have ly := app_len_take hy.2
      simp only [mv]
      by_cases c : min (p + m) (q + k) - max p q < m
      · rw [if_pos c]
        have v2 : (if p < q then p else max q (p - k)) + (m - (min (p + m) (q + k) - max p q)) ≤ (app l (take q k)).length := by split <;> omega
        by_cases c2 : min (q + k) (p + m) - max q p < k
        · rw [if_pos c2]
          have v1 : (if q < p then q else max p (q - m)) + (k - (min (q + k) (p + m) - max q p)) ≤ (app l (take p m)).length := by split <;> omega
          refine tp1 ⟨by omega, v1⟩ ⟨by omega, v2⟩ (List.ext_getElem? fun i => ?_)
          simp only [app_get_take v1, app_get_take v2, app_get_take hx.2, app_get_take hy.2]
          repeat' split
          all_goals first | rfl | (exfalso; omega) | (congr 1; omega)
        · rw [if_neg c2]
          refine ⟨trivial, ⟨⟨by omega, v2⟩, trivial⟩, ?_⟩
          show app l (take p m) = app (app l (take q k)) (take (if p < q then p else max q (p - k)) (m - (min (p + m) (q + k) - max p q)))
          refine List.ext_getElem? fun i => ?_
          simp only [app_get_take v2, app_get_take hx.2, app_get_take hy.2]
          repeat' split
          all_goals first | rfl | (exfalso; omega) | (congr 1; omega)
      · rw [if_neg c]
        by_cases c2 : min (q + k) (p + m) - max q p < k
        · rw [if_pos c2]
          have v1 : (if q < p then q else max p (q - m)) + (k - (min (q + k) (p + m) - max q p)) ≤ (app l (take p m)).length := by split <;> omega
          refine ⟨⟨⟨by omega, v1⟩, trivial⟩, trivial, ?_⟩
          show app (app l (take p m)) (take (if q < p then q else max p (q - m)) (k - (min (q + k) (p + m) - max q p))) = app l (take q k)
          refine List.ext_getElem? fun i => ?_
          simp only [app_get_take v1, app_get_take hx.2, app_get_take hy.2]
          repeat' split
          all_goals first | rfl | (exfalso; omega) | (congr 1; omega)
        · rw [if_neg c2]
          refine ⟨trivial, trivial, ?_⟩
          show app l (take p m) = app l (take q k)
          have e1 : p = q := by omega
          have e2 : m = k := by omega
          rw [e1, e2]
mutual
inductive X (t : Bool) : List Cor → List Cor → List Cor → List Cor → Prop
  | nil (s : List Cor) : X t [] s [] s
  | cons {x f s a r b e} (h : Y t x s a r) (k : X t f r b e) : X t (x :: f) s (a ++ b) e
inductive Y (t : Bool) : Cor → List Cor → List Cor → List Cor → Prop
  | nil (x : Cor) : Y t x [] [x] []
  | cons {x y s a r} (h : X t (mv t x y) s a r) : Y t x (y :: s) a (mv (!t) y x ++ r)
end
theorem X.right (t : Bool) : ∀ f, X t f [] f []
  | [] => .nil []
  | x :: f => .cons (.nil x) (X.right t f)
theorem X.one {t : Bool} {x : Cor} {s a r : List Cor} (h : Y t x s a r) : X t [x] s a r := by
  have := X.cons h (.nil r)
  rw [List.append_nil] at this
  exact this
theorem X.one' {t : Bool} {x : Cor} {s a r : List Cor} (h : X t [x] s a r) : Y t x s a r := by
  cases h with
  | cons h k =>
    cases k
    rw [List.append_nil]
    exact h
theorem X.app {t : Bool} {g : List Cor} : ∀ {f s a r b e : List Cor}, X t f s a r → X t g r b e → X t (f ++ g) s (a ++ b) e
  | _, _, _, _, _, _, .nil s, k => k
  | _, _, _, _, _, _, .cons h h2, k => by
    rw [List.append_assoc]
    exact .cons h (X.app h2 k)
theorem X.split {t : Bool} {g : List Cor} : ∀ {f s a e : List Cor}, X t (f ++ g) s a e → ∃ a1 r a2, X t f s a1 r ∧ X t g r a2 e ∧ a = a1 ++ a2
  | [], s, a, e, h => ⟨[], s, a, .nil s, h, rfl⟩
  | x :: f, s, a, e, h => by
    cases h with
    | cons h k =>
      obtain ⟨a1, r, a2, h1, h2, rfl⟩ := X.split k
      exact ⟨_, r, a2, .cons h h1, h2, (List.append_assoc ..).symm⟩
mutual
theorem X.det {t : Bool} : ∀ {f s a r a' r' : List Cor}, X t f s a r → X t f s a' r' → a = a' ∧ r = r'
  | _, _, _, _, _, _, .nil s, k => by
    cases k
    exact ⟨rfl, rfl⟩
  | _, _, _, _, _, _, .cons h h2, k => by
    cases k with
    | cons k k2 =>
      obtain ⟨rfl, rfl⟩ := Y.det h k
      obtain ⟨rfl, rfl⟩ := X.det h2 k2
      exact ⟨rfl, rfl⟩
theorem Y.det {t : Bool} : ∀ {x : Cor} {s a r a' r' : List Cor}, Y t x s a r → Y t x s a' r' → a = a' ∧ r = r'
  | _, _, _, _, _, _, .nil s, k => by
    cases k
    exact ⟨rfl, rfl⟩
  | _, _, _, _, _, _, .cons h, k => by
    cases k with
    | cons k =>
      obtain ⟨rfl, rfl⟩ := X.det h k
      exact ⟨rfl, rfl⟩
end
mutual
theorem X.down {t : Bool} : ∀ {f s g r s2 h e : List Cor}, X t f s g r → X t g s2 h e → X t f (s ++ s2) h (r ++ e)
  | _, _, _, _, s2, h, e, .nil s, k => by
    cases k
    exact .nil _
  | _, _, _, _, s2, h, e, .cons (b := b) p q, k => by
    obtain ⟨a1, m, a2, k1, k2, rfl⟩ := X.split k
    exact .cons (Y.down p k1) (X.down q k2)
theorem Y.down {t : Bool} : ∀ {x : Cor} {s g r s2 h e : List Cor}, Y t x s g r → X t g s2 h e → Y t x (s ++ s2) h (r ++ e)
  | _, _, _, _, s2, h, e, .nil x, k => X.one' k
  | _, _, _, _, s2, h, e, .cons p, k => by
    rw [List.append_assoc]
    exact .cons (X.down p k)
end
mutual
theorem X.turn {t : Bool} : ∀ {s f b a : List Cor}, X (!t) s f b a → X t f s a b
  | _, _, _, _, .nil f => X.right t f
  | _, _, _, _, .cons (x := y) p q => by
    have h1 := Y.turn p
    have h2 := X.turn q
    have := X.down h1 h2
    exact this
theorem Y.turn {t : Bool} : ∀ {y : Cor} {f b a : List Cor}, Y (!t) y f b a → X t f [y] a b
  | _, _, _, _, .nil y => .nil [y]
  | y, _, _, _, .cons (y := x) (r := r) p => by
    have h2 := X.turn p
    rw [Bool.not_not]
    have h1 : Y t x [y] (mv t x y ++ []) (mv (!t) y x ++ []) := by
      rw [List.append_nil]
      exact .cons (X.right t _)
    rw [List.append_nil, List.append_nil] at h1
    exact .cons h1 h2
end
theorem appAll_app (l : List Nat) (f g : List Cor) : appAll l (f ++ g) = appAll (appAll l f) g := List.foldl_append ..
theorem validAll_app {g : List Cor} : ∀ {l : List Nat} {f : List Cor}, validAll l (f ++ g) ↔ validAll l f ∧ validAll (appAll l f) g
  | l, [] => ⟨fun h => ⟨trivial, h⟩, fun h => h.2⟩
  | l, x :: f => by
    show valid l x ∧ validAll (app l x) (f ++ g) ↔ (valid l x ∧ validAll (app l x) f) ∧ validAll (appAll (app l x) f) g
    rw [validAll_app, and_assoc]
mutual
theorem X.sem {t : Bool} : ∀ {f s a r : List Cor}, X t f s a r → ∀ {l : List Nat}, validAll l f → validAll l s → validAll (appAll l f) r ∧ validAll (appAll l s) a ∧ appAll (appAll l f) r = appAll (appAll l s) a
  | _, _, _, _, .nil s, l, _, h => ⟨h, trivial, rfl⟩
  | _, _, _, _, .cons (x := x) (f := f) (s := s) (a := a) (r := r) p q, l, hf, hs => by
    obtain ⟨h1, h2, h3⟩ := Y.sem p hf.1 hs
    obtain ⟨h4, h5, h6⟩ := X.sem q hf.2 h1
    refine ⟨h4, ?_, ?_⟩
    · rw [validAll_app, ← h3]
      exact ⟨h2, h5⟩
    · rw [appAll_app, ← h3]
      exact h6
theorem Y.sem {t : Bool} : ∀ {x : Cor} {s a r : List Cor}, Y t x s a r → ∀ {l : List Nat}, valid l x → validAll l s → validAll (app l x) r ∧ validAll (appAll l s) a ∧ appAll (app l x) r = appAll (appAll l s) a
  | _, _, _, _, .nil x, l, h, _ => ⟨trivial, ⟨h, trivial⟩, rfl⟩
  | _, _, _, _, .cons (x := x) (y := y) (s := s) (a := a) (r := r) p, l, hx, hs => by
    obtain ⟨t1, t2, t3⟩ := tp t l x y hx hs.1
    obtain ⟨h1, h2, h3⟩ := X.sem p t2 hs.2
    refine ⟨?_, h2, ?_⟩
    · rw [validAll_app, t3]
      exact ⟨t1, h1⟩
    · rw [appAll_app, t3]
      exact h3
end

open Cor
/-! what the defs compute -/
theorem neTP : (("take" : Str) = "put") = False := eq_false (by decide +kernel)
def fat : Cor → Nat
  | put _ t => t.length
  | take _ _ => 0
theorem app_len {l : List Nat} {c : Cor} (h : valid l c) : (app l c).length ≤ l.length + fat c := by
  cases c with
  | put p t => rw [app_len_put h]; exact Nat.le_refl _
  | take p m => rw [app_len_take h.2]; exact Nat.le_trans (Nat.sub_le _ _) (Nat.le_add_right _ _)
theorem corrected_eq {l : List Nat} {c : Cor} (h : valid l c) (hl : l.length + fat c ≤ 16777216) : m_corrected [pT l, enc c] = some (pT (app l c)) := by
  refine mDef_eq rfl ?_
  cases c with
  | put p t =>
    have hl : l.length + t.length ≤ 16777216 := hl
    have e1 : gSl (pT l) none (some (p : Int)) = some (pT (l.take p)) := gSl_sto (by omega) (by omega)
    have e2 : gSl (pT l) (some (p : Int)) none = some (pT (l.drop p)) := gSl_sfrom (by omega) (by omega)
    have e3 : gAdd (pT (l.take p)) (pT t) = some (pT (l.take p ++ t)) := gAdd_T (by rw [List.length_take]; omega)
    have e4 : gAdd (pT (l.take p ++ t)) (pT (l.drop p)) = some (pT (l.take p ++ t ++ l.drop p)) := gAdd_T (by rw [List.length_append, List.length_take, List.length_drop]; omega)
    simp [b_corrected, enc, e1, e2, e3, e4, app]
  | take p m =>
    have hl : l.length + 0 ≤ 16777216 := hl
    have e1 : gSl (pT l) none (some (p : Int)) = some (pT (l.take p)) := gSl_sto (by omega) (by omega)
    have e2 : gSl (pT l) (some ((p : Int) + (m : Int))) none = some (pT (l.drop (p + m))) := gSl_sfrom (by omega) (by omega)
    have e3 : gAdd (pT (l.take p)) (pT (l.drop (p + m))) = some (pT (l.take p ++ l.drop (p + m))) := gAdd_T (by rw [List.length_take, List.length_drop]; omega)
    simp [b_corrected, enc, e1, e2, e3, app, neTP]
theorem done_eq {l : List Nat} {c : Cor} (h : valid l c) (hl : l.length + fat c ≤ 16777216) : m_law_done [pT l, enc c] = some (pT (app l c)) := by
  have e0 : (PyData.str "" : Py) = pT [] := rfl
  refine mDef_eq rfl ?_
  cases c with
  | put p t =>
    have hl : l.length + t.length ≤ 16777216 := hl
    have e1 : gSl (pT l) none (some (p : Int)) = some (pT (l.take p)) := gSl_sto (by omega) (by omega)
    have e2 : gSl (pT l) (some (p : Int)) none = some (pT (l.drop p)) := gSl_sfrom (by omega) (by omega)
    have e3 : gAdd (pT (l.take p)) (pT t) = some (pT (l.take p ++ t)) := gAdd_T (by rw [List.length_take]; omega)
    have e4 : gAdd (pT (l.take p ++ t)) (pT (l.drop p)) = some (pT (l.take p ++ t ++ l.drop p)) := gAdd_T (by rw [List.length_append, List.length_take, List.length_drop]; omega)
    simp [b_law_done, enc, e1, e2, e3, e4, app]
  | take p m =>
    have hl : l.length + 0 ≤ 16777216 := hl
    have e1 : gSl (pT l) none (some (p : Int)) = some (pT (l.take p)) := gSl_sto (by omega) (by omega)
    have e2 : gSl (pT l) (some ((p : Int) + (m : Int))) none = some (pT (l.drop (p + m))) := gSl_sfrom (by omega) (by omega)
    have e3 : gAdd (pT (l.take p)) (pT []) = some (pT (l.take p)) := by rw [gAdd_T (by rw [List.length_take]; simp; omega), List.append_nil]
    have e4 : gAdd (pT (l.take p)) (pT (l.drop (p + m))) = some (pT (l.take p ++ l.drop (p + m))) := gAdd_T (by rw [List.length_take, List.length_drop]; omega)
    rw [← e0] at e3
    simp [b_law_done, enc, e1, e2, e3, e4, app, neTP]
def fats (r : List Cor) : Nat := (r.map fat).sum
theorem appAll_len : ∀ {r : List Cor} {l : List Nat}, validAll l r → (appAll l r).length ≤ l.length + fats r
  | [], l, _ => Nat.le_refl _
  | c :: r, l, h => by
    have h1 := app_len h.1
    have h2 := appAll_len h.2
    show (appAll (app l c) r).length ≤ l.length + ((c :: r).map fat).sum
    rw [List.map_cons, List.sum_cons]
    have : fats r = (r.map fat).sum := rfl
    omega
theorem fats_cons' {c : Cor} {r : List Cor} : fats (c :: r) = fat c + fats r := by
  show ((c :: r).map fat).sum = _
  rw [List.map_cons, List.sum_cons]
  rfl
/-- a loop that corrects the text in slot i -/
theorem run_row {f : List Py → Option Py} (hf : ∀ l c, valid l c → l.length + fat c ≤ 16777216 → f [pT l, enc c] = some (pT (app l c))) {i j : Nat} {Q : Fl → Rho → Prop} (hij : i ≠ j) : ∀ (r : List Cor) (l : List Nat) (ρ : Rho), validAll l r → l.length + fats r ≤ 16777216 → ρ[i]? = some (.val (pT l)) → j < ρ.length →
    (∀ x, Q .nx ((ρ.set j x).set i (.val (pT (appAll l r))))) →
    Ok (forGo (tName j) (sAsg (mCall f (mCons (mVar i) (mCons (mVar j) mNil))) (tName i)) (r.map enc)) ρ Q
  | [], l, ρ, _, _, hi, hj, q => Ok_for_nil.mpr (by
      have := q ρ[j]
      rw [show appAll l [] = l from rfl, set_self (List.getElem?_eq_getElem hj), set_self hi] at this
      exact this)
  | c :: r, l, ρ, hv, hl, hi, hj, q => by
    rw [fats_cons'] at hl
    have h1 := app_len hv.1
    have hi' : i < ρ.length := (List.getElem?_eq_some_iff.mp hi).1
    have gi : (ρ.set j (.val (enc c)))[i]? = some (.val (pT l)) := by rw [List.getElem?_set_ne (Ne.symm hij)]; exact hi
    have gj : ((ρ.set j (.val (enc c))).set i (.val (pT l)))[j]? = some (.val (enc c)) := by rw [List.getElem?_set_ne hij, List.getElem?_set_self hj]
    rw [List.map_cons, Ok_for_cons]
    simp only [Ok_tName, kF1_at, Ok_sAsg, Ok_mCall, Ok_mCons, Ok_mVar, gi, kVar_val, kCons1_at, gj, Ok_mNil, kCons2_at, kCall_at]
    rw [hf l c hv.1 (by omega)]
    simp only [OkO_some, kAsg_at, Ok_tName, kNx_at, kF2_nx]
    refine run_row hf hij r _ _ hv.2 (by omega) ?_ ?_ (fun x => ?_)
    · rw [List.getElem?_set_self (by simp; exact hi')]
    · simp; exact hj
    · have := q x
      rw [show appAll l (c :: r) = appAll (app l c) r from rfl] at this
      simp only [List.set_set, List.set_comm _ _ hij] at this ⊢
      simp only [List.set_set, List.set_comm _ _ (Ne.symm hij)] at this ⊢
      exact this

open Cor
theorem neTP2 : (("put" : Str) = "take") = False := eq_false (by decide +kernel)
theorem ePut {a : Int} {p : Nat} (s : List Nat) (h : a = p) : (PyData.tuple [.str "put", .int a, pT s] : Py) = enc (put p s) := by rw [h]; rfl
theorem eTake {a b : Int} {p m : Nat} (h : a = p) (h2 : b = m) : (PyData.tuple [.str "take", .int a, .int b] : Py) = enc (take p m) := by rw [h, h2]; rfl
theorem moved_put_eq (p : Nat) (s : List Nat) (y : Cor) (t : Bool) (hy : ∀ q w, y = put q w → w.length ≤ 16777216) : m_moved_put [enc (put p s), enc y, .bool t] = some (encs (mv t (put p s) y)) := by
  refine mDef_eq rfl ?_
  cases y with
  | put q w =>
    have e1 : gLen (pT w) = some (.int w.length) := gLen_T (hy q w rfl)
    simp [b_moved_put, enc, encs, mv, e1]
    by_cases c : p < q
    · rw [if_pos c, if_pos (.inl c)]
      rfl
    · rw [if_neg c]
      by_cases c2 : p = q
      · rw [if_pos (by omega)]
        cases t with
        | true =>
          rw [if_pos rfl, if_pos (.inr ⟨c2, rfl⟩)]
          rfl
        | false =>
          rw [if_neg Bool.false_ne_true, if_neg (fun h => h.elim c fun z => Bool.false_ne_true z.2), ePut s (p := p + w.length) (by omega)]
          rfl
      · rw [if_neg (by omega), if_neg (by omega), ePut s (p := p + w.length) (by omega)]
        rfl
  | take q m =>
    simp [b_moved_put, enc, encs, mv, neTP]
    by_cases c : p ≤ q
    · rw [if_pos c, if_pos c]
      rfl
    · rw [if_neg c, if_neg c, ePut s (p := max q (p - m)) (by omega)]
      rfl
theorem moved_take_eq (p m : Nat) (y : Cor) (t : Bool) (hy : ∀ q w, y = put q w → w.length ≤ 16777216) : m_moved_take [enc (take p m), enc y] = some (encs (mv t (take p m) y)) := by
  refine mDef_eq rfl ?_
  cases y with
  | put q w =>
    have e1 : gLen (pT w) = some (.int w.length) := gLen_T (hy q w rfl)
    simp [b_moved_take, enc, encs, mv, e1]
    by_cases c : q ≤ p
    · rw [if_pos c, if_pos c, eTake (p := p + w.length) (m := m) (by omega) rfl]
      rfl
    · rw [if_neg c, if_neg c]
      by_cases c2 : p + m ≤ q
      · rw [if_pos (by omega), if_pos c2]
        rfl
      · rw [if_neg (by omega), if_neg c2, eTake (p := q + w.length) (m := p + m - q) (by omega) (by omega), eTake (p := p) (m := q - p) rfl (by omega)]
        rfl
  | take q k =>
    have e0 : (max 0 (min ((p : Int) + m) (q + k) - max (p : Int) q)) = ((min (p + m) (q + k) - max p q : Nat) : Int) := by omega
    simp [b_moved_take, enc, encs, mv, neTP]
    rw [e0]
    by_cases c : p < q
    · rw [if_pos c]
      by_cases c2 : min (p + m) (q + k) - max p q < m
      · rw [if_pos (by omega), if_pos c2, if_pos c, eTake (p := p) (m := m - (min (p + m) (q + k) - max p q)) rfl (by omega)]
        rfl
      · rw [if_neg (by omega)]
        omega
    · rw [if_neg c]
      by_cases c2 : min (p + m) (q + k) - max p q < m
      · rw [if_pos (by omega), if_pos c2, if_neg c, eTake (p := max q (p - k)) (m := m - (min (p + m) (q + k) - max p q)) (by omega) (by omega)]
        rfl
      · rw [if_neg (by omega)]
        omega
theorem moved_eq (x y : Cor) (t : Bool) (hy : ∀ q w, y = put q w → w.length ≤ 16777216) : m_moved [enc x, enc y, .bool t] = some (encs (mv t x y)) := by
  refine mDef_eq rfl ?_
  cases x with
  | put p s =>
    have e := moved_put_eq p s y t hy
    generalize hz : encs (mv t (put p s) y) = z at e
    generalize enc y = ey at e
    simp [enc] at e
    simp [b_moved, enc, e]
  | take p m =>
    have e := moved_take_eq p m y t hy
    generalize hz : encs (mv t (take p m) y) = z at e
    generalize enc y = ey at e
    simp [enc] at e
    simp [b_moved, enc, e, neTP]
/-! sizes -/
def P (r : List Cor) : Nat := (r.filter isPut).length
theorem P_nil : P [] = 0 := rfl
theorem P_put {p : Nat} {t : List Nat} {r : List Cor} : P (put p t :: r) = P r + 1 := by
  unfold P
  rw [List.filter_cons_of_pos rfl]
  rfl
theorem P_take {p m : Nat} {r : List Cor} : P (take p m :: r) = P r := by
  unfold P
  rw [List.filter_cons_of_neg (by simp [isPut])]
theorem P_app {f g : List Cor} : P (f ++ g) = P f + P g := by
  unfold P
  rw [List.filter_append, List.length_append]
theorem P_cons (x : Cor) (f : List Cor) : P (x :: f) = P [x] + P f := by
  rw [← P_app]
  rfl
theorem P_le (f : List Cor) : P f ≤ f.length := List.length_filter_le _ _
/-- moving keeps what is put and splits a taking by a putting alone -/
theorem mv_P (t : Bool) (x y : Cor) : P (mv t x y) = P [x] := by
  cases x with
  | put p s => cases y <;> simp only [mv] <;> split <;> simp [P_put, P_nil]
  | take p m =>
    cases y with
    | put q w =>
      simp only [mv]
      split
      · simp [P_take]
      · split <;> simp [P_take]
    | take q k =>
      simp only [mv]
      split <;> simp [P_take]
theorem mv_len (t : Bool) (x y : Cor) : (mv t x y).length ≤ 2 ^ P [y] := by
  cases x with
  | put p s =>
    have : 1 ≤ 2 ^ P [y] := Nat.one_le_two_pow
    cases y <;> simp only [mv] <;> split <;> exact this
  | take p m =>
    cases y with
    | put q w =>
      rw [P_put, P_nil]
      simp only [mv]
      split
      · exact (by decide : 1 ≤ 2)
      · split
        · exact (by decide : 1 ≤ 2)
        · exact Nat.le_refl 2
    | take q k =>
      rw [P_take, P_nil]
      simp only [mv]
      split
      · exact Nat.le_refl 1
      · exact Nat.zero_le _
theorem mv_fats (t : Bool) (x y : Cor) : fats (mv t x y) = fat x := by
  cases x with
  | put p s => cases y <;> simp only [mv] <;> split <;> simp [fats, fat]
  | take p m =>
    cases y with
    | put q w =>
      simp only [mv]
      split
      · simp [fats, fat]
      · split <;> simp [fats, fat]
    | take q k =>
      simp only [mv]
      split <;> simp [fats, fat]
theorem mv_put_one (t : Bool) (p : Nat) (s : List Nat) (y : Cor) : (mv t (put p s) y).length = 1 := by
  cases y <;> simp only [mv] <;> split <;> rfl
theorem fats_app {f g : List Cor} : fats (f ++ g) = fats f + fats g := by
  unfold fats
  rw [List.map_append, List.sum_append]
theorem fats_cons {x : Cor} {f : List Cor} : fats (x :: f) = fat x + fats f := by
  unfold fats
  rw [List.map_cons, List.sum_cons]
mutual
theorem X.size {t : Bool} : ∀ {f s a r : List Cor}, X t f s a r → P a = P f ∧ P r = P s ∧ a.length ≤ f.length * 2 ^ P s ∧ r.length ≤ s.length * 2 ^ P f ∧ fats a = fats f ∧ fats r = fats s
  | _, _, _, _, .nil s => ⟨rfl, rfl, Nat.zero_le _, by rw [P_nil]; omega, rfl, rfl⟩
  | _, _, _, _, .cons (x := x) (f := f) (s := s) (a := a) (r := r) (b := b) (e := e) p q => by
    obtain ⟨h1, h2, h3, h4, h5, h6⟩ := Y.size p
    obtain ⟨k1, k2, k3, k4, k5, k6⟩ := X.size q
    refine ⟨?_, by omega, ?_, ?_, ?_, by omega⟩
    · rw [P_app, P_cons]; omega
    · rw [List.length_append, List.length_cons, Nat.add_mul, Nat.one_mul]
      rw [h2] at k3
      omega
    · rw [P_cons, Nat.pow_add, ← Nat.mul_assoc]
      exact Nat.le_trans k4 (Nat.mul_le_mul_right _ h4)
    · rw [fats_app, fats_cons]; omega
theorem Y.size {t : Bool} : ∀ {x : Cor} {s a r : List Cor}, Y t x s a r → P a = P [x] ∧ P r = P s ∧ a.length ≤ 2 ^ P s ∧ r.length ≤ s.length * 2 ^ P [x] ∧ fats a = fat x ∧ fats r = fats s
  | _, _, _, _, .nil x => ⟨rfl, rfl, by rw [P_nil]; exact Nat.le_refl 1, Nat.zero_le _, by simp [fats], rfl⟩
  | _, _, _, _, .cons (x := x) (y := y) (s := s) (a := a) (r := r) p => by
    obtain ⟨h1, h2, h3, h4, h5, h6⟩ := X.size p
    have m1 := mv_P t x y
    have m2 := mv_len t x y
    have m3 := mv_P (!t) y x
    have m4 := mv_len (!t) y x
    rw [m1] at h4
    refine ⟨by omega, ?_, ?_, ?_, by rw [h5, mv_fats], ?_⟩
    · rw [P_app, P_cons y s]; omega
    · rw [P_cons y s, Nat.pow_add]
      exact Nat.le_trans h3 (Nat.mul_le_mul_right _ m2)
    · rw [List.length_append, List.length_cons, Nat.add_mul, Nat.one_mul]
      omega
    · rw [fats_app, mv_fats, fats_cons]; omega
end

open Cor
def M : Nat := 16777216
theorem wide_put {x : Cor} (h : fat x ≤ M) : ∀ q w, x = put q w → w.length ≤ 16777216 := fun q w e => by
  rw [e] at h
  exact h
theorem mv_kind (t : Bool) (x y : Cor) : (mv t x y).length ≤ 1 ∨ P (mv t x y) = 0 := by
  cases x with
  | put p s => exact .inl (Nat.le_of_eq (mv_put_one t p s y))
  | take p m => exact .inr (by rw [mv_P, P_take, P_nil])
theorem encs_len {r : List Cor} : (r.map enc).length = r.length := List.length_map ..
abbrev bBody (f : List Py → Option Py) : S := (sSeq (sAsg (mCall f (mCons (mVar 7) (mCons (mVar 6) (mCons (mVar 2) mNil)))) (tName 8))
  (sSeq (sAsg (mOp2 gAdd (mVar 5) (mOp2 gIx (mVar 8) (mC (.int 0)))) (tName 5))
  (sAsg (mOp2 gIx (mVar 8) (mC (.int 1))) (tName 6))))
theorem behind_loop {f : List Py → Option Py} {t : Bool} {n : Nat} (ih : ∀ (x : Cor) (s : List Cor), s.length + 1 ≤ n → fat x ≤ M → fats s ≤ M → 2 ^ P s + s.length * 2 ^ P [x] ≤ M → ∃ a r, Y t x s a r ∧ f [enc x, encs s, .bool t] = some (.list [encs a, encs r])) {v0 v1 v3 v4 : C} {Q : Fl → Rho → Prop} :
    ∀ (ms rest f0 : List Cor) (k7 k8 : C), (ms.length ≤ 1 ∨ P ms = 0) → (ms = [] ∨ rest.length + 1 ≤ n) → fats ms ≤ M → fats rest ≤ M → f0.length + ms.length * 2 ^ P rest + rest.length * 2 ^ P ms ≤ M →
      (∀ a r k7 k8, X t ms rest a r → Q .nx [v0, v1, .val (.bool t), v3, v4, .val (encs (f0 ++ a)), .val (encs r), k7, k8]) →
      Ok (forGo (tName 7) (bBody f) (ms.map enc)) [v0, v1, .val (.bool t), v3, v4, .val (encs f0), .val (encs rest), k7, k8] Q
  | [], rest, f0, k7, k8, _, _, _, _, _, q => Ok_for_nil.mpr (by
      have := q [] rest k7 k8 (.nil rest)
      rw [List.append_nil] at this
      exact this)
  | z :: ms, rest, f0, k7, k8, hk, hn, h1, h2, h3, q => by
    have hn : rest.length + 1 ≤ n := hn.resolve_left (List.cons_ne_nil _ _)
    rw [fats_cons] at h1
    rw [P_cons, List.length_cons, Nat.add_mul, Nat.one_mul, Nat.pow_add, ← Nat.mul_assoc] at h3
    have hz : rest.length * 2 ^ P [z] ≤ rest.length * 2 ^ P [z] * 2 ^ P ms := Nat.le_mul_of_pos_right _ Nat.one_le_two_pow
    obtain ⟨a, r, hy, e⟩ := ih z rest hn (by omega) h2 (by omega)
    obtain ⟨y1, y2, y3, y4, y5, y6⟩ := Y.size hy
    have ea : gAdd (.tuple (f0.map enc)) (.tuple (a.map enc)) = some (encs (f0 ++ a)) := by
      rw [gAdd_tt (by rw [encs_len, encs_len]; unfold M at h3; omega), ← List.map_append]
      rfl
    rw [List.map_cons, Ok_for_cons]
    simp [e]
    rw [show encs f0 = .tuple (f0.map enc) from rfl, show encs a = .tuple (a.map enc) from rfl, ea]
    simp
    refine behind_loop ih ms r (f0 ++ a) _ _ ?_ ?_ (by omega) (by omega) ?_ (fun b e k7 k8 h => ?_)
    · rcases hk with hk | hk
      · left
        rw [List.length_cons] at hk
        omega
      · right
        rw [P_cons] at hk
        omega
    · rcases hk with hk | hk
      · left
        rw [List.length_cons] at hk
        exact List.length_eq_zero_iff.mp (by omega)
      · have : P [z] = 0 := by rw [P_cons] at hk; omega
        rw [this] at y4
        right
        omega
    · have := Nat.mul_le_mul_right (2 ^ P ms) y4
      rw [y2, List.length_append]
      omega
    · have := q _ _ k7 k8 (.cons hy h)
      rw [← List.append_assoc] at this
      exact this

theorem behind_eq (t : Bool) : ∀ (n : Nat) (x : Cor) (s : List Cor), s.length + 1 ≤ n → fat x ≤ M → fats s ≤ M → 2 ^ P s + s.length * 2 ^ P [x] ≤ M → ∃ a r, Y t x s a r ∧ m_law_behind n [enc x, encs s, .bool t] = some (.list [encs a, encs r])
  | 0, _, _, h, _, _, _ => by omega
  | n + 1, x, [], _, _, _, _ => by
    refine ⟨[x], [], .nil x, mDef_eq rfl ?_⟩
    simp [b_law_behind, encs]
  | n + 1, x, y :: s, hn, hx, hs, hw => by
    rw [List.length_cons] at hn hw
    rw [fats_cons] at hs
    have e1 := moved_eq x y t (wide_put (by omega))
    have e2 := moved_eq y x (!t) (wide_put hx)
    have hP : P (mv t x y) = P [x] := mv_P t x y
    have hF : fats (mv t x y) = fat x := mv_fats t x y
    have hL := mv_len t x y
    rw [P_cons, Nat.pow_add, Nat.add_mul, Nat.one_mul] at hw
    have hw2 : ([] : List Cor).length + (mv t x y).length * 2 ^ P s + s.length * 2 ^ P (mv t x y) ≤ M := by
      rw [hP]
      have := Nat.mul_le_mul_right (2 ^ P s) hL
      have z : ([] : List Cor).length = 0 := rfl
      have zz : 0 < 2 ^ P [x] := Nat.two_pow_pos _
      generalize 2 ^ P [x] = A at *
      omega
    have hO : (mv (!t) y x).length ≤ 2 ^ P [x] := mv_len (!t) y x
    -- what the loop leaves is what X says
    have key : ∀ Q : Py → Prop, (∀ a r, X t (mv t x y) s a r → Q (.list [encs a, encs (mv (!t) y x ++ r)])) → ∃ d, m_law_behind (n + 1) [enc x, encs (y :: s), .bool t] = some d ∧ Q d := fun Q hQ => by
      refine mDef_ex rfl ?_
      simp [b_law_behind, encs, e1, e2]
      rw [if_neg (by omega)]
      rw [kFor_at]
      refine behind_loop (t := t) (n := n) (behind_eq t n) (mv t x y) s [] _ _ (mv_kind t x y) (.inr (by omega)) (by omega) (by omega) hw2 (fun a r k7 k8 h => ?_)
      have z := X.size h
      have ea : gAdd (.tuple ((mv (!t) y x).map enc)) (.tuple (r.map enc)) = some (encs (mv (!t) y x ++ r)) := by
        rw [gAdd_tt (by rw [encs_len, encs_len]; have := z.2.2.2.1; rw [hP] at this; unfold M at hw; omega), ← List.map_append]
        rfl
      simp [encs] at ea
      simp [encs, ea]
      have := hQ a r h
      simp [encs] at this
      exact this
    obtain ⟨d, e, a, r, h, rfl⟩ := key (fun d => ∃ a r, X t (mv t x y) s a r ∧ d = .list [encs a, encs (mv (!t) y x ++ r)]) fun a r h => ⟨a, r, h, rfl⟩
    exact ⟨a, _, .cons h, e⟩

open Cor
theorem tt {a b : List Cor} (h : a.length + b.length ≤ M) : gAdd (encs a) (encs b) = some (encs (a ++ b)) := by
  show gAdd (.tuple (a.map enc)) (.tuple (b.map enc)) = some (.tuple ((a ++ b).map enc))
  rw [gAdd_tt (by rw [encs_len, encs_len]; exact h), ← List.map_append]
theorem crossed_eq : ∀ (n : Nat) (f s : List Cor), f.length + 2 * (s.length * 2 ^ P f) + 1 ≤ n → fats f ≤ M → fats s ≤ M → f.length * 2 ^ P s + s.length * 2 ^ P f ≤ M → ∃ a r, X true f s a r ∧ m_crossed n [encs f, encs s] = some (.tuple [encs a, encs r])
  | 0, _, _, h, _, _, _ => by omega
  | n + 1, [], s, _, _, _, _ => by
    refine ⟨[], s, .nil s, mDef_eq rfl ?_⟩
    simp [b_crossed, encs]
  | n + 1, x :: f, [], _, _, _, _ => by
    refine ⟨x :: f, [], X.right true _, mDef_eq rfl ?_⟩
    simp [b_crossed, encs]
  | n + 1, [x], [y], _, hx, hy, _ => by
    simp only [fats_cons] at hx hy
    have e1 := moved_eq x y true (wide_put (by omega))
    have e2 := moved_eq y x false (wide_put (by omega))
    refine ⟨mv true x y, mv false y x ++ [], .one (.cons (X.right true _)), mDef_eq rfl ?_⟩
    simp [b_crossed, encs, e1, e2]
  | n + 1, [x], y :: z :: s, hn, hx, hy, hw => by
    simp only [fats_cons] at hx hy
    simp only [List.length_cons, List.length_nil, P_cons y (z :: s), Nat.pow_add] at hn hw
    have p1 : 0 < 2 ^ P [x] := Nat.two_pow_pos _
    have p2 : 0 < 2 ^ P (z :: s) := Nat.two_pow_pos _
    have p3 : 0 < 2 ^ P [y] := Nat.two_pow_pos _
    have q1 : 2 ^ P [y] ≤ 2 ^ P [y] * 2 ^ P (z :: s) := Nat.le_mul_of_pos_right _ p2
    have hM1 : [x].length * 2 ^ P [y] + [y].length * 2 ^ P [x] ≤ M := by
      simp only [List.length_cons, List.length_nil]
      generalize 2 ^ P [x] = A at *
      generalize 2 ^ P [y] = B at *
      generalize B * 2 ^ P (z :: s) = D at *
      have : (s.length + 1 + 1) * A = (s.length + 1) * A + A := Nat.succ_mul _ _
      omega
    obtain ⟨a1, r1, h1, e1⟩ := crossed_eq n [x] [y] (by
      simp only [List.length_cons, List.length_nil]
      have : (s.length + 1 + 1) * 2 ^ P [x] = (s.length + 1) * 2 ^ P [x] + 2 ^ P [x] := Nat.succ_mul _ _
      have : (s.length + 1) * 2 ^ P [x] = s.length * 2 ^ P [x] + 2 ^ P [x] := Nat.succ_mul _ _
      omega) (by simp only [fats_cons]; omega) (by simp only [fats_cons]; have : fats [] = 0 := rfl; omega) hM1
    obtain ⟨z1, z2, z3, z4, z5, z6⟩ := X.size h1
    have fx : fats [x] = fat x := by simp [fats]
    have fn : fats [] = 0 := rfl
    have ha : a1 = mv true x y := (X.det h1 (.one (.cons (X.right true _)))).1
    have hkind := mv_kind true x y
    rw [← ha] at hkind
    have hla : a1.length ≤ 2 ^ P [y] := by rw [ha]; exact mv_len true x y
    obtain ⟨a2, r2, h2, e2⟩ := crossed_eq n a1 (z :: s) (by
      rw [z1]
      simp only [List.length_cons]
      have t1 : (s.length + 1 + 1) * 2 ^ P [x] = (s.length + 1) * 2 ^ P [x] + 2 ^ P [x] := Nat.succ_mul _ _
      have t2 : a1.length ≤ 2 := by
        rcases hkind with h | h
        · omega
        · have : P [y] ≤ 1 := P_le [y]
          have : 2 ^ P [y] ≤ 2 ^ 1 := Nat.pow_le_pow_right (by decide) this
          omega
      omega) (by omega) (by simp only [fats_cons]; omega) (by
      rw [z1]
      simp only [List.length_cons]
      have t1 : (s.length + 1 + 1) * 2 ^ P [x] = (s.length + 1) * 2 ^ P [x] + 2 ^ P [x] := Nat.succ_mul _ _
      have t2 := Nat.mul_le_mul_right (2 ^ P (z :: s)) hla
      omega)
    have hd := X.down h1 h2
    have zd := X.size hd
    have ea := tt (a := r1) (b := r2) (by
      have t1 := zd.2.2.2.1
      simp only [List.length_append, List.length_cons, List.length_nil] at t1
      rw [show 0 + 1 + (s.length + 1) = s.length + 1 + 1 by omega] at t1
      omega)
    refine ⟨a2, r1 ++ r2, hd, mDef_eq rfl ?_⟩
    simp only [encs, List.map_cons, List.map_nil] at e1 e2 ea
    simp [b_crossed, encs, e1, e2, ea]
    rw [if_neg (by omega)]
    intro h
    omega
  | n + 1, x :: y :: f, z :: s, hn, hx, hy, hw => by
    rw [fats_cons] at hx
    have key : (z :: s).length * (2 ^ P [x] * 2 ^ P (y :: f)) = (z :: s).length * 2 ^ P [x] * 2 ^ P (y :: f) := (Nat.mul_assoc ..).symm
    rw [P_cons x (y :: f), Nat.pow_add, key] at hn hw
    have p1 : 0 < 2 ^ P (y :: f) := Nat.two_pow_pos _
    have p2 : 0 < 2 ^ P (z :: s) := Nat.two_pow_pos _
    have q1 : (z :: s).length * 2 ^ P [x] ≤ (z :: s).length * 2 ^ P [x] * 2 ^ P (y :: f) := Nat.le_mul_of_pos_right _ p1
    have hf : (x :: y :: f).length = (y :: f).length + 1 := rfl
    have hf2 : 1 ≤ (y :: f).length := Nat.succ_le_succ (Nat.zero_le _)
    rw [hf] at hn hw
    rw [Nat.add_mul, Nat.one_mul] at hw
    obtain ⟨a1, r1, h1, e1⟩ := crossed_eq n [x] (z :: s) (by
      simp only [List.length_singleton]
      omega) (by simp only [fats_cons] at *; have : fats [] = 0 := rfl; omega) hy (by
      simp only [List.length_singleton]
      omega)
    obtain ⟨z1, z2, z3, z4, z5, z6⟩ := X.size h1
    have q2 := Nat.mul_le_mul_right (2 ^ P (y :: f)) z4
    obtain ⟨a2, r2, h2, e2⟩ := crossed_eq n (y :: f) r1 (by omega) (by omega) (by omega) (by rw [z2]; omega)
    have hd : X true (x :: y :: f) (z :: s) (a1 ++ a2) r2 := X.app h1 h2
    have zd := X.size hd
    have ea := tt (a := a1) (b := a2) (by
      have t1 := zd.2.2.1
      rw [List.length_append, hf, Nat.add_mul, Nat.one_mul] at t1
      omega)
    refine ⟨a1 ++ a2, r2, hd, mDef_eq rfl ?_⟩
    simp only [encs, List.map_cons, List.map_nil] at e1 e2 ea
    simp [b_crossed, encs, e1, e2, ea]
    rw [if_neg (by omega), if_neg (by omega), if_neg (by omega)]
    intro h
    omega

open Cor
theorem all_eq {l : List Nat} {r : List Cor} (h : validAll l r) (hl : l.length + fats r ≤ 16777216) : m_all_corrected [pT l, encs r] = some (pT (appAll l r)) := by
  refine mDef_eq rfl ?_
  simp [b_all_corrected, encs]
  rw [kFor_at]
  refine run_row (fun l c => corrected_eq) (by decide) r l _ h hl rfl (by simp) fun x => ?_
  simp
theorem both_eq {l : List Nat} {f s a r : List Cor} (h : X true f s a r) (hv : validAll l f) (hs : validAll l s) (hl : l.length + fats f + fats s ≤ M) (hn : f.length + 2 * (s.length * 2 ^ P f) + 1 ≤ 140) (hw : f.length * 2 ^ P s + s.length * 2 ^ P f ≤ 1000000) (hf : f.length ≤ 1000) : m_both_readers [pT l, encs f, encs s] = some (pT (appAll (appAll l f) r)) := by
  obtain ⟨a', r', h', e⟩ := crossed_eq 140 f s hn (by omega) (by omega) (by unfold M; omega)
  obtain ⟨rfl, rfl⟩ := X.det h h'
  have z := X.size h
  have v := X.sem h hv hs
  have e2 := tt (a := f) (b := r) (by have := z.2.2.2.1; unfold M; omega)
  have e3 := all_eq (l := l) (r := f ++ r) (by rw [validAll_app]; exact ⟨hv, v.1⟩) (by rw [fats_app, z.2.2.2.2.2]; unfold M at hl; omega)
  rw [appAll_app] at e3
  refine mDef_eq rfl ?_
  generalize hz : encs f = ef at e e2
  generalize encs s = es at e
  simp [b_both_readers, e, e2, e3]
/-! what is drawn -/
def three (l : List Nat) : Prop := l.length ≤ 3
theorem word_at {r : Int} (h0 : 0 ≤ r) (h1 : r < 3) : ∃ w : List Nat, atI [PyData.str "x", PyData.str "yz", PyData.str "abc"] r = some (pT w) ∧ w.length ≤ 3 := by
  have e1 : (PyData.str "x" : Py) = pT [120] := congrArg PyData.str (by decide +kernel)
  have e2 : (PyData.str "yz" : Py) = pT [121, 122] := congrArg PyData.str (by decide +kernel)
  have e3 : (PyData.str "abc" : Py) = pT [97, 98, 99] := congrArg PyData.str (by decide +kernel)
  rw [e1, e2, e3]
  have : r = 0 ∨ r = 1 ∨ r = 2 := by omega
  rcases this with rfl | rfl | rfl
  · exact ⟨_, atI_0, by decide⟩
  · exact ⟨_, atI_1, by decide⟩
  · exact ⟨_, atI_2, by decide⟩
def oneDrawn (n : Nat) (d : Py) (c' : C) : Prop := ∃ (c : Cor) (l' : List Py), d = enc c ∧ c' = .ml l' ∧ Pool l' ∧ fat c ≤ 3 ∧ ∀ l : List Nat, l.length = n → valid l c
theorem correction_ok {pl : List Py} (hp : Pool pl) {n : Nat} (hn : n ≤ 1000) : ∃ d c', m_law_correction (.ml pl) [.int n] = some (d, c') ∧ oneDrawn n d c' := by
  refine mDefR_ok rfl (Nat.zero_le _) rfl ?_
  have hs : slotsR 0 1 (.ml pl) [.int n] = [.ml pl, .val (.int n), .no] := rfl
  rw [hs]
  have puts : ∀ (B : S) (pl : List Py) (x2 : C), Pool pl → Ok (sRet (mTup (mCons (mC (.str "put")) (mCons (mCallR m_law_draw 0 (mCons (mOp2 gAdd (mVar 1) (mC (.int 1))) mNil)) (mCons (mOp2 gIx (mTup (mCons (mC (.str "x")) (mCons (mC (.str "yz")) (mCons (mC (.str "abc")) mNil)))) (mCallR m_law_draw 0 (mCons (mC (.int 3)) mNil))) mNil))))) [.ml pl, .val (.int n), x2] (kSeq B (endR 0 (oneDrawn n))) := fun B pl x2 hp => by
    simp
    obtain ⟨_, _, e, r, l1, rfl, rfl, h0, h1, hp1⟩ := draw_ok hp (m := n + 1) (by omega) (by omega)
    rw [e]
    simp
    obtain ⟨_, _, e, r2, l2, rfl, rfl, h2, h3, hp2⟩ := draw_ok hp1 (m := 3) (by omega) (by omega)
    rw [e]
    simp
    obtain ⟨w, ew, hw⟩ := word_at h2 h3
    rw [ew]
    simp
    refine ⟨put r.toNat w, l2, ?_, rfl, hp2, hw, fun l hl => ?_⟩
    · show PyData.tuple [.str "put", .int r, pT w] = PyData.tuple [.str "put", .int (r.toNat : Int), pT w]
      rw [Int.toNat_of_nonneg h0]
    · show r.toNat ≤ l.length
      omega
  have takes : ∀ (pl : List Py) (x2 : C), Pool pl → 0 < n → Ok (sSeq (sAsg (mCallR m_law_draw 0 (mCons (mVar 1) mNil)) (tName 2))
  (sRet (mTup (mCons (mC (.str "take")) (mCons (mVar 2) (mCons (mOp2 gAdd (mC (.int 1)) (mCallR m_law_draw 0 (mCons (mOp2 gMin2 (mC (.int 6)) (mOp2 gSub (mVar 1) (mPk 2))) mNil))) mNil)))))) [.ml pl, .val (.int n), x2] (endR 0 (oneDrawn n)) := fun pl x2 hp h0 => by
    simp
    obtain ⟨_, _, e, r, l1, rfl, rfl, h0, h1, hp1⟩ := draw_ok hp (m := n) (by omega) (by omega)
    rw [e]
    simp
    obtain ⟨_, _, e, r2, l2, rfl, rfl, h2, h3, hp2⟩ := draw_ok hp1 (m := min 6 (n - r)) (by omega) (by omega)
    rw [e]
    simp
    refine ⟨take r.toNat (1 + r2.toNat), l2, ?_, rfl, hp2, Nat.zero_le _, fun l hl => ?_⟩
    · show PyData.tuple [.str "take", .int r, .int (1 + r2)] = PyData.tuple [.str "take", .int (r.toNat : Int), .int ((1 + r2.toNat : Nat) : Int)]
      rw [Int.toNat_of_nonneg h0, show ((1 + r2.toNat : Nat) : Int) = 1 + r2 by omega]
    · exact ⟨by omega, by omega⟩
  unfold b_law_correction
  generalize hP : sRet (mTup (mCons (mC (.str "put")) (mCons (mCallR m_law_draw 0 (mCons (mOp2 gAdd (mVar 1) (mC (.int 1))) mNil)) (mCons (mOp2 gIx (mTup (mCons (mC (.str "x")) (mCons (mC (.str "yz")) (mCons (mC (.str "abc")) mNil)))) (mCallR m_law_draw 0 (mCons (mC (.int 3)) mNil))) mNil)))) = A at puts ⊢
  generalize hT : sSeq (sAsg (mCallR m_law_draw 0 (mCons (mVar 1) mNil)) (tName 2)) _ = B at takes ⊢
  simp
  by_cases hz : n = 0
  · rw [if_pos hz]
    exact puts B _ _ hp
  · rw [if_neg hz]
    obtain ⟨_, _, e, r, l1, rfl, rfl, h0, h1, hp1⟩ := draw_ok hp (m := 2) (by omega) (by omega)
    rw [e]
    simp
    by_cases hr : r = 0
    · rw [if_pos hr]
      exact puts B _ _ hp1
    · rw [if_neg hr]
      exact takes _ _ hp1 (by omega)
def rowDrawn (l : List Nat) (m : Nat) (d : Py) (c' : C) : Prop := ∃ (r : List Cor) (l' : List Py), d = encs r ∧ c' = .ml l' ∧ Pool l' ∧ validAll l r ∧ r.length ≤ m ∧ fats r ≤ 3 * m
theorem row_ok {pl : List Py} (hp : Pool pl) {l : List Nat} {m : Nat} (hm : m ≤ 4) (hl : l.length ≤ 100) : ∃ d c', m_law_row (.ml pl) [pT l, .int m] = some (d, c') ∧ rowDrawn l m d c' := by
  refine mDefR_ok rfl (Nat.zero_le _) rfl ?_
  have hs : slotsR 0 3 (.ml pl) [pT l, .int m] = [.ml pl, .val (pT l), .val (.int m), .no, .no, .no] := rfl
  have hr : gRange1 (.int m) = some (upto 0 m) := gRange1_i (small_nat (by omega))
  rw [hs]
  simp [b_law_row, hr]
  rw [kFor_at]
  refine for_inv (fun rem ρ => ∃ (pool : List Py) (row : List Cor) (k4 k5 : C), ρ = [.ml pool, .val (pT (appAll l row)), .val (.int m), .val (encs row), k4, k5] ∧ Pool pool ∧ validAll l row ∧ row.length + rem.length = m ∧ fats row ≤ 3 * row.length) ⟨pl, [], .no, .no, rfl, hp, trivial, by simp, Nat.zero_le _⟩ ?_ ?_
  · rintro x rem ρ ⟨pool, row, k4, k5, rfl, hp, hv, hn, hf⟩
    rw [List.length_cons] at hn
    have hla := appAll_len hv
    have eL : gLen (pT (appAll l row)) = some (.int (appAll l row).length) := gLen_T (by omega)
    simp [eL]
    obtain ⟨_, _, e, c, l1, rfl, rfl, hp1, hc, hvc⟩ := correction_ok hp (n := (appAll l row).length) (by omega)
    have hvc := hvc _ rfl
    have ed := done_eq hvc (by omega)
    have er := tt (a := row) (b := [c]) (by simp; unfold M; omega)
    simp only [encs, List.map_cons, List.map_nil] at er
    rw [e]
    simp [encs]
    rw [ed]
    simp
    rw [er]
    simp
    refine ⟨l1, row ++ [c], ⟨rfl, ?_, by simp [encs]⟩, hp1, ?_, ?_, ?_⟩
    · rw [appAll_app]
      rfl
    · rw [validAll_app]
      exact ⟨hv, hvc, trivial⟩
    · rw [List.length_append, List.length_singleton]
      omega
    · rw [fats_app, fats_cons, List.length_append, List.length_singleton]
      have : fats [] = 0 := rfl
      omega
  · rintro ρ ⟨pool, row, k4, k5, rfl, hp, hv, hn, hf⟩
    simp
    simp at hn
    exact ⟨row, pool, rfl, rfl, hp, hv, by omega, by omega⟩

open Cor
theorem X.any (t : Bool) (f : List Cor) (r0 : List Cor) : True := trivial
/-- the law's loops -/
theorem loop6 {t : Bool} {v0 v1 v2 v3 v4 v5 v9 v10 v11 : C} {Q : Fl → Rho → Prop} : ∀ (f rest : List Cor) (l : List Nat) (k8 : C), validAll l f → l.length + fats f ≤ M → fats rest ≤ M → rest.length * 2 ^ P f ≤ 69 → P f + P rest ≤ 10 →
    (∀ a r k8, X t f rest a r → Q .nx [v0, v1, v2, v3, v4, v5, .val (pT (appAll l f)), .val (encs r), k8, v9, v10, v11]) →
    Ok (forGo (tName 8) (sSeq (sAsg (mCall m_law_done (mCons (mVar 6) (mCons (mVar 8) mNil))) (tName 6)) (sAsg (mOp2 gIx (mCall (m_law_behind 70) (mCons (mVar 8) (mCons (mVar 7) (mCons (mC (.bool t)) mNil)))) (mC (.int 1))) (tName 7))) (f.map enc))
      [v0, v1, v2, v3, v4, v5, .val (pT l), .val (encs rest), k8, v9, v10, v11] Q
  | [], rest, l, k8, _, _, _, _, _, q => Ok_for_nil.mpr (q _ _ _ (.nil rest))
  | x :: f, rest, l, k8, hv, hl, hr, hn, hp, q => by
    rw [fats_cons] at hl
    rw [P_cons, Nat.pow_add, ← Nat.mul_assoc] at hn
    rw [P_cons] at hp
    have p1 : rest.length * 2 ^ P [x] ≤ rest.length * 2 ^ P [x] * 2 ^ P f := Nat.le_mul_of_pos_right _ (Nat.two_pow_pos _)
    have p2 : rest.length ≤ rest.length * 2 ^ P [x] := Nat.le_mul_of_pos_right _ (Nat.two_pow_pos _)
    have p3 : 2 ^ P rest ≤ 2 ^ 10 := Nat.pow_le_pow_right (by decide) (by omega)
    have h1 := app_len hv.1
    have ed := done_eq hv.1 (by unfold M at hl; omega)
    obtain ⟨a, r, hy, e⟩ := behind_eq t 70 x rest (by omega) (by omega) hr (by unfold M; omega)
    have z := Y.size hy
    have z4 := Nat.mul_le_mul_right (2 ^ P f) z.2.2.2.1
    rw [List.map_cons, Ok_for_cons]
    simp [ed, e]
    refine loop6 f r _ _ hv.2 (by omega) (by omega) (by omega) (by omega) (fun a r k8 h => ?_)
    exact q _ _ _ (.cons hy h)
theorem loop10 {t : Bool} {v0 v1 v2 v3 v4 v5 v6 v9 v11 : C} {Q : Fl → Rho → Prop} : ∀ (f rest : List Cor) (l : List Nat) (k8 : C), validAll l f → l.length + fats f ≤ M → fats rest ≤ M → rest.length * 2 ^ P f ≤ 69 → P f + P rest ≤ 10 →
    (∀ a r k8, X t f rest a r → Q .nx [v0, v1, v2, v3, v4, v5, v6, .val (encs r), k8, v9, .val (pT (appAll l f)), v11]) →
    Ok (forGo (tName 8) (sSeq (sAsg (mCall m_law_done (mCons (mVar 10) (mCons (mVar 8) mNil))) (tName 10)) (sAsg (mOp2 gIx (mCall (m_law_behind 70) (mCons (mVar 8) (mCons (mVar 7) (mCons (mC (.bool t)) mNil)))) (mC (.int 1))) (tName 7))) (f.map enc))
      [v0, v1, v2, v3, v4, v5, v6, .val (encs rest), k8, v9, .val (pT l), v11] Q
  | [], rest, l, k8, _, _, _, _, _, q => Ok_for_nil.mpr (q _ _ _ (.nil rest))
  | x :: f, rest, l, k8, hv, hl, hr, hn, hp, q => by
    rw [fats_cons] at hl
    rw [P_cons, Nat.pow_add, ← Nat.mul_assoc] at hn
    rw [P_cons] at hp
    have p1 : rest.length * 2 ^ P [x] ≤ rest.length * 2 ^ P [x] * 2 ^ P f := Nat.le_mul_of_pos_right _ (Nat.two_pow_pos _)
    have p2 : rest.length ≤ rest.length * 2 ^ P [x] := Nat.le_mul_of_pos_right _ (Nat.two_pow_pos _)
    have p3 : 2 ^ P rest ≤ 2 ^ 10 := Nat.pow_le_pow_right (by decide) (by omega)
    have h1 := app_len hv.1
    have ed := done_eq hv.1 (by unfold M at hl; omega)
    obtain ⟨a, r, hy, e⟩ := behind_eq t 70 x rest (by omega) (by omega) hr (by unfold M; omega)
    have z := Y.size hy
    have z4 := Nat.mul_le_mul_right (2 ^ P f) z.2.2.2.1
    rw [List.map_cons, Ok_for_cons]
    simp [ed, e]
    refine loop10 f r _ _ hv.2 (by omega) (by omega) (by omega) (by omega) (fun a r k8 h => ?_)
    exact q _ _ _ (.cons hy h)
theorem pow4 {f s : List Cor} (hf : f.length ≤ 4) (hs : s.length ≤ 4) : s.length * 2 ^ P f ≤ 64 := by
  have h1 : P f ≤ 4 := Nat.le_trans (P_le f) hf
  have h2 : 2 ^ P f ≤ 2 ^ 4 := Nat.pow_le_pow_right (by decide) h1
  exact Nat.mul_le_mul hs h2
theorem same_T (l : List Nat) : m_law_same 40 [pT l, pT l] = some (.bool true) := same_self 40 _ rfl (Nat.zero_lt_succ 39)
theorem run6 {r : List Cor} {l : List Nat} {ρ : Rho} {Q : Fl → Rho → Prop} (hv : validAll l r) (hl : l.length + fats r ≤ M) (h6 : ρ[6]? = some (.val (pT l))) (h9 : 9 < ρ.length) (q : ∀ x, Q .nx ((ρ.set 9 x).set 6 (.val (pT (appAll l r))))) : Ok (forGo (tName 9) (sAsg (mCall m_law_done (mCons (mVar 6) (mCons (mVar 9) mNil))) (tName 6)) (r.map enc)) ρ Q :=
  run_row (fun l c => done_eq) (by decide) r l ρ hv hl h6 h9 q
theorem run10 {r : List Cor} {l : List Nat} {ρ : Rho} {Q : Fl → Rho → Prop} (hv : validAll l r) (hl : l.length + fats r ≤ M) (h6 : ρ[10]? = some (.val (pT l))) (h9 : 9 < ρ.length) (q : ∀ x, Q .nx ((ρ.set 9 x).set 10 (.val (pT (appAll l r))))) : Ok (forGo (tName 9) (sAsg (mCall m_law_done (mCons (mVar 10) (mCons (mVar 9) mNil))) (tName 10)) (r.map enc)) ρ Q :=
  run_row (fun l c => done_eq) (by decide) r l ρ hv hl h6 h9 q
theorem bothF {l : List Nat} {f : List Cor} (hv : validAll l f) (hl : l.length + fats f ≤ M) (hf : f.length ≤ 4) : m_both_readers [pT l, encs f, .tuple []] = some (pT (appAll l f)) := by
  have e0 : fats [] = 0 := rfl
  have h := both_eq (l := l) (f := f) (s := []) (a := f) (r := []) (X.right true f) hv trivial (by omega) (by rw [List.length_nil, Nat.zero_mul]; omega) (by rw [P_nil, List.length_nil, Nat.zero_mul]; omega) (by omega)
  have e1 : encs [] = .tuple [] := rfl
  have e2 : appAll (appAll l f) [] = appAll l f := rfl
  rw [e1, e2] at h
  exact h
theorem bothS {l : List Nat} {s : List Cor} (hv : validAll l s) (hl : l.length + fats s ≤ M) (hs : s.length ≤ 4) : m_both_readers [pT l, .tuple [], encs s] = some (pT (appAll l s)) := by
  have e0 : fats [] = 0 := rfl
  have h := both_eq (l := l) (f := []) (s := s) (a := []) (r := s) (X.nil s) trivial hv (by omega) (by rw [P_nil, List.length_nil]; omega) (by rw [P_nil, List.length_nil, Nat.zero_mul]; omega) (Nat.zero_le _)
  have e1 : encs [] = .tuple [] := rfl
  have e2 : appAll l [] = l := rfl
  rw [e1, e2] at h
  exact h
theorem same_2 (a b : List Nat) : m_law_same 40 [.list [pT a, pT b], .list [pT a, pT b]] = some (.bool true) := same_self 40 _ rfl (Nat.succ_lt_succ (Nat.zero_lt_succ 38))
theorem asT_encs (f : List Cor) : asT (encs f) = some (f.map enc) := rfl
theorem math : ∀ ns : List Int, ns.length ≤ 63 → m_law ns = some (.bool true) := fun ns _ => by
  refine mLaw_ok ?_
  have eA : (PyData.str "abcdefghijklmnop" : Py) = pT [97, 98, 99, 100, 101, 102, 103, 104, 105, 106, 107, 108, 109, 110, 111, 112] := congrArg PyData.str (by decide +kernel)
  unfold b_law
  rw [eA]
  generalize hL : ([97, 98, 99, 100, 101, 102, 103, 104, 105, 106, 107, 108, 109, 110, 111, 112] : List Nat) = L
  have hLn : L.length = 16 := by rw [← hL]; rfl
  clear hL eA
  have hp0 := pool_new ns
  generalize poolD ns = l0 at hp0 ⊢
  have D := @draw_ok
  generalize m_law_draw = fD at D ⊢
  have R := @row_ok
  generalize m_law_row = fR at R ⊢
  have B := @both_eq
  have BF := @bothF
  have BS := @bothS
  generalize m_both_readers = fB at B BF BS ⊢
  have A := @all_eq
  generalize m_all_corrected = fA at A ⊢
  have S1 := same_T
  have S2 := same_2
  generalize m_law_same 40 = fS at S1 S2 ⊢
  have L6 := @loop6 true
  have L10 := @loop10 false
  have R6 := @run6
  have R10 := @run10
  generalize (sSeq (sAsg (mCall m_law_done (mCons (mVar 6) (mCons (mVar 8) mNil))) (tName 6)) _) = body6 at L6 ⊢
  generalize (sSeq (sAsg (mCall m_law_done (mCons (mVar 10) (mCons (mVar 8) mNil))) (tName 10)) _) = body10 at L10 ⊢
  generalize (sAsg (mCall m_law_done (mCons (mVar 6) (mCons (mVar 9) mNil))) (tName 6)) = body69 at R6 ⊢
  generalize (sAsg (mCall m_law_done (mCons (mVar 10) (mCons (mVar 9) mNil))) (tName 10)) = body109 at R10 ⊢
  simp
  obtain ⟨_, _, e, r, l1, rfl, rfl, h0, h1, hp1⟩ := D hp0 (m := 17) (by omega) (by omega)
  rw [e]
  have es := gSl_sto (l := L) (i := r) h0 (by omega)
  simp [es]
  clear es e
  have hT : (L.take r.toNat).length ≤ 16 := by rw [List.length_take]; omega
  generalize L.take r.toNat = T at hT ⊢
  obtain ⟨_, _, e, r1, l2, rfl, rfl, h2, h3, hp2⟩ := D hp1 (m := 5) (by omega) (by omega)
  obtain ⟨k1, rfl⟩ := Int.eq_ofNat_of_zero_le h2
  rw [e]
  simp
  obtain ⟨_, _, e, f, l3, rfl, rfl, hp3, vf, hf, ff⟩ := R hp2 (l := T) (m := k1) (by omega) (by omega)
  rw [e]
  simp
  obtain ⟨_, _, e, r2, l4, rfl, rfl, h4, h5, hp4⟩ := D hp3 (m := 5) (by omega) (by omega)
  obtain ⟨k2, rfl⟩ := Int.eq_ofNat_of_zero_le h4
  rw [e]
  simp
  obtain ⟨_, _, e, s, l5, rfl, rfl, hp5, vs, hs, fs⟩ := R hp4 (l := T) (m := k2) (by omega) (by omega)
  rw [e]
  simp
  clear e
  have w1 : s.length * 2 ^ P f ≤ 64 := pow4 (by omega) (by omega)
  have w2 : f.length * 2 ^ P s ≤ 64 := pow4 (by omega) (by omega)
  obtain ⟨a, r, hX, _⟩ := crossed_eq 140 f s (by omega) (by unfold M; omega) (by unfold M; omega) (by unfold M; omega)
  have sem := X.sem hX vf vs
  have siz := X.size hX
  have eB := B hX vf vs (by unfold M; omega) (by omega) (by omega) (by omega)
  have eBF := BF vf (by unfold M; omega) (by omega)
  have eBS := BS vs (by unfold M; omega) (by omega)
  have eA1 := A vf (by omega)
  have eA2 := A vs (by omega)
  rw [eB]
  simp
  rw [asT_encs, OkO_some, kFor_at]
  refine L6 f s T _ vf (by unfold M; omega) (by unfold M; omega) (by omega) (by have := P_le f; have := P_le s; omega) (fun a1 r1 k8 hX1 => ?_)
  obtain ⟨rfl, rfl⟩ := X.det hX hX1
  simp
  have lf := appAll_len vf
  have ls := appAll_len vs
  rw [asT_encs, OkO_some, kFor_at]
  refine R6 sem.1 (by rw [siz.2.2.2.2.2]; unfold M; omega) rfl (by simp) (fun x => ?_)
  simp
  rw [S1]
  simp
  rw [asT_encs, OkO_some, kFor_at]
  refine L10 s f T _ vs (by unfold M; omega) (by unfold M; omega) (by omega) (by have := P_le f; have := P_le s; omega) (fun b1 c1 k8 hX2 => ?_)
  obtain ⟨rfl, rfl⟩ := X.det hX (X.turn hX2)
  simp
  rw [asT_encs, OkO_some, kFor_at]
  refine R10 sem.2.1 (by rw [siz.2.2.2.2.1]; unfold M; omega) rfl (by simp) (fun x => ?_)
  simp
  rw [← sem.2.2, S1]
  simp
  rw [eBF]
  simp
  rw [eBS]
  simp
  rw [eA1]
  simp
  rw [eA2]
  simp
  rw [S2]
  simp

structure Tops (K : PySem.W.Frag) (mg : Str → Option Value) where
  a_moved_put : Addr
  d_moved_put : FuncData
  F_moved_put : Fun K "moved_put" "moved_put" s_moved_put a_moved_put d_moved_put
  g_moved_put : mg "moved_put" = some (.ref a_moved_put)
  a_moved_take : Addr
  d_moved_take : FuncData
  F_moved_take : Fun K "moved_take" "moved_take" s_moved_take a_moved_take d_moved_take
  g_moved_take : mg "moved_take" = some (.ref a_moved_take)
  a_moved : Addr
  d_moved : FuncData
  F_moved : Fun K "moved" "moved" s_moved a_moved d_moved
  g_moved : mg "moved" = some (.ref a_moved)
  a_law_behind : Addr
  d_law_behind : FuncData
  F_law_behind : Fun K "_law_behind" "_law_behind" s_law_behind a_law_behind d_law_behind
  g_law_behind : mg "_law_behind" = some (.ref a_law_behind)
  a_law_done : Addr
  d_law_done : FuncData
  F_law_done : Fun K "_law_done" "_law_done" s_law_done a_law_done d_law_done
  g_law_done : mg "_law_done" = some (.ref a_law_done)
  a_law_spread : Addr
  d_law_spread : FuncData
  F_law_spread : Fun K "_law_spread" "_law_spread" s_law_spread a_law_spread d_law_spread
  g_law_spread : mg "_law_spread" = some (.ref a_law_spread)
  a_law_draw : Addr
  d_law_draw : FuncData
  F_law_draw : Fun K "_law_draw" "_law_draw" s_law_draw a_law_draw d_law_draw
  g_law_draw : mg "_law_draw" = some (.ref a_law_draw)
  a_law_pool : Addr
  d_law_pool : FuncData
  F_law_pool : Fun K "_law_pool" "_law_pool" s_law_pool a_law_pool d_law_pool
  g_law_pool : mg "_law_pool" = some (.ref a_law_pool)
  a_law_correction : Addr
  d_law_correction : FuncData
  F_law_correction : Fun K "_law_correction" "_law_correction" s_law_correction a_law_correction d_law_correction
  g_law_correction : mg "_law_correction" = some (.ref a_law_correction)
  a_law_row : Addr
  d_law_row : FuncData
  F_law_row : Fun K "_law_row" "_law_row" s_law_row a_law_row d_law_row
  g_law_row : mg "_law_row" = some (.ref a_law_row)
  a_law_same : Addr
  d_law_same : FuncData
  F_law_same : Fun K "_law_same" "_law_same" s_law_same a_law_same d_law_same
  g_law_same : mg "_law_same" = some (.ref a_law_same)
  a_corrected : Addr
  d_corrected : FuncData
  F_corrected : Fun K "corrected" "corrected" s_corrected a_corrected d_corrected
  g_corrected : mg "corrected" = some (.ref a_corrected)
  a_all_corrected : Addr
  d_all_corrected : FuncData
  F_all_corrected : Fun K "all_corrected" "all_corrected" s_all_corrected a_all_corrected d_all_corrected
  g_all_corrected : mg "all_corrected" = some (.ref a_all_corrected)
  a_crossed : Addr
  d_crossed : FuncData
  F_crossed : Fun K "crossed" "crossed" s_crossed a_crossed d_crossed
  g_crossed : mg "crossed" = some (.ref a_crossed)
  a_both_readers : Addr
  d_both_readers : FuncData
  F_both_readers : Fun K "both_readers" "both_readers" s_both_readers a_both_readers d_both_readers
  g_both_readers : mg "both_readers" = some (.ref a_both_readers)
  a_law : Addr
  d_law : FuncData
  F_law : Fun K "law" "law" s_law a_law d_law
  g_law : mg "law" = some (.ref a_law)
  z_bool : mg "bool" = none
  z_int : mg "int" = none
  z_isinstance : mg "isinstance" = none
  z_len : mg "len" = none
  z_list : mg "list" = none
  z_max : mg "max" = none
  z_min : mg "min" = none
  z_range : mg "range" = none
  z_str : mg "str" = none
  z_tuple : mg "tuple" = none
section
variable {P : Program} {w : World} {K : PySem.W.Frag} {mg : Str → Option Value} {base : Heap}
theorem bi_moved_put (U : Tops K mg) : Binds K U.d_moved_put ["correction", "other", "first"] [] := U.F_moved_put.binds (ps := ["correction", "other", "first"]) fun _ _ _ _ _ _ us hl => match us, hl with | [_, _, _], _ => rfl
theorem bi_moved_take (U : Tops K mg) : Binds K U.d_moved_take ["correction", "other"] [] := U.F_moved_take.binds (ps := ["correction", "other"]) fun _ _ _ _ _ _ us hl => match us, hl with | [_, _], _ => rfl
theorem bi_moved (U : Tops K mg) : Binds K U.d_moved ["correction", "other", "first"] [] := U.F_moved.binds (ps := ["correction", "other", "first"]) fun _ _ _ _ _ _ us hl => match us, hl with | [_, _, _], _ => rfl
theorem bi_law_behind (U : Tops K mg) : Binds K U.d_law_behind ["one", "row", "first"] [] := U.F_law_behind.binds (ps := ["one", "row", "first"]) fun _ _ _ _ _ _ us hl => match us, hl with | [_, _, _], _ => rfl
theorem bi_law_done (U : Tops K mg) : Binds K U.d_law_done ["text", "correction"] [] := U.F_law_done.binds (ps := ["text", "correction"]) fun _ _ _ _ _ _ us hl => match us, hl with | [_, _], _ => rfl
theorem bi_law_spread (U : Tops K mg) : Binds K U.d_law_spread ["cell"] [] := U.F_law_spread.binds (ps := ["cell"]) fun _ _ _ _ _ _ us hl => match us, hl with | [_], _ => rfl
theorem bi_law_draw (U : Tops K mg) : Binds K U.d_law_draw ["pool", "many"] [] := U.F_law_draw.binds (ps := ["pool", "many"]) fun _ _ _ _ _ _ us hl => match us, hl with | [_, _], _ => rfl
theorem bi_law_pool (U : Tops K mg) : Binds K U.d_law_pool ["script"] [] := U.F_law_pool.binds (ps := ["script"]) fun _ _ _ _ _ _ us hl => match us, hl with | [_], _ => rfl
theorem bi_law_correction (U : Tops K mg) : Binds K U.d_law_correction ["pool", "length"] [] := U.F_law_correction.binds (ps := ["pool", "length"]) fun _ _ _ _ _ _ us hl => match us, hl with | [_, _], _ => rfl
theorem bi_law_row (U : Tops K mg) : Binds K U.d_law_row ["pool", "text", "many"] [] := U.F_law_row.binds (ps := ["pool", "text", "many"]) fun _ _ _ _ _ _ us hl => match us, hl with | [_, _, _], _ => rfl
theorem bi_law_same (U : Tops K mg) : Binds K U.d_law_same ["actual", "due"] [] := U.F_law_same.binds (ps := ["actual", "due"]) fun _ _ _ _ _ _ us hl => match us, hl with | [_, _], _ => rfl
theorem bi_corrected (U : Tops K mg) : Binds K U.d_corrected ["text", "correction"] [] := U.F_corrected.binds (ps := ["text", "correction"]) fun _ _ _ _ _ _ us hl => match us, hl with | [_, _], _ => rfl
theorem bi_all_corrected (U : Tops K mg) : Binds K U.d_all_corrected ["text", "row"] [] := U.F_all_corrected.binds (ps := ["text", "row"]) fun _ _ _ _ _ _ us hl => match us, hl with | [_, _], _ => rfl
theorem bi_crossed (U : Tops K mg) : Binds K U.d_crossed ["first", "second"] [] := U.F_crossed.binds (ps := ["first", "second"]) fun _ _ _ _ _ _ us hl => match us, hl with | [_, _], _ => rfl
theorem bi_both_readers (U : Tops K mg) : Binds K U.d_both_readers ["text", "first", "second"] [] := U.F_both_readers.binds (ps := ["text", "first", "second"]) fun _ _ _ _ _ _ us hl => match us, hl with | [_, _, _], _ => rfl
theorem bi_law (U : Tops K mg) : Binds K U.d_law ["script"] [] := U.F_law.binds (ps := ["script"]) fun _ _ _ _ _ _ us hl => match us, hl with | [_], _ => rfl
theorem ok_law_pool (U : Tops K mg) : FnOk P w K mg base CX0 1 U.a_law_pool U.d_law_pool ["script"] (spPool K) := by
  refine U.F_law_pool.ok sc_law_pool (fun vs H Q E h => ?_) (fun cdv A outer s H vs Q E hr h => ?_)
  · obtain ⟨a, ns, rfl, _⟩ := h
    rfl
  · obtain ⟨a, ns, rfl, hS, hlen, q⟩ := h
    refine ⟨_, pss_cons (ps_set (i := 1) sc_law_pool.nd rfl (.inl rfl) pe_int)
      (pss_cons (ps_for PassesOwn.never rfl (pi_list (pe_slice sl_list (pv 0) po_none (po_some pe_int))) (pg_name (i := 2) sc_law_pool.nd rfl (.inl rfl))
        (pss_one (ps_set (i := 1) sc_law_pool.nd rfl (.inl rfl) (pe_op op_mod (pe_callTy call_int1 (by rfl) U.z_int (by decide +kernel) (pa_cons (pe_op op_add (pe_op op_mul (pv 1) pe_int) (pv 2)) pa_nil)) pe_int))))
      (pss_one (ps_ret (pe_lst (pa_cons (pe_callTy call_list_of (by rfl) U.z_list (by decide +kernel) (pa_cons (pv 0) pa_nil)) (pa_cons pe_int (pa_cons pe_int (pa_cons pe_int (pa_cons (pv 1) pa_nil))))))))), ?_⟩
    refine ⟨.ref a, rfl, 63, rfl, a, ns.map V.int, rfl, hS, fun c nc => ?_⟩
    have ec : cutV (ns.map V.int) none (some 63) = ns.map V.int := pool_cut hlen
    rw [ec]
    have s1 : Same H (upd H c (.lst (ns.map V.int))) := fun b u e => by rw [upd_ne (ne_of_none e nc)]; exact e
    refine ⟨c, rfl, ⟨_, .inl (.inl upd_same)⟩, fun i m σ H3 => ∃ y, σ = [some (.ref a), some (.int ((ns.take i).foldl (fun s c => (s * 31 + c) % 1000003) 7)), y] ∧ i + m = ns.length ∧ H3 = upd H c (.lst (ns.map V.int)), ⟨ns.length, none, rfl, by omega, rfl⟩, fun i m σ H3 hW => ?_⟩
    obtain ⟨y, rfl, em, rfl⟩ := hW
    have hC : SqL K (upd H c (.lst (ns.map V.int))) c (ns.map V.int) := .inl (.inl upd_same)
    by_cases hi : i < ns.length
    · have g : (ns.map V.int)[i]? = some (.int ns[i]) := by
        rw [List.getElem?_map, List.getElem?_eq_getElem hi]
        rfl
      refine .inr ⟨⟨_, _, hC, g⟩, fun σ' H' => ∃ y, σ' = [some (.ref a), some (.int ((ns.take (i + 1)).foldl (fun s c => (s * 31 + c) % 1000003) 7)), y] ∧ H' = upd H c (.lst (ns.map V.int)), fun σ' H' hN => ?_, fun v H' hy => ?_⟩
      · obtain ⟨y', e1, e2⟩ := hN
        exact ⟨m - 1, by omega, y', e1, by omega, e2⟩
      · obtain ⟨rfl, fv⟩ := hy
        have ev : v = .int ns[i] := Option.some.inj ((fv _ hC).symm.trans g)
        subst ev
        refine ⟨.int ((ns.take i).foldl (fun s c => (s * 31 + c) % 1000003) 7), rfl, _, 31, rfl, rfl, .inr ⟨by decide, by decide⟩, .int ns[i], rfl, _, _, rfl, rfl, .inl ⟨_, rfl, _, 1000003, rfl, rfl, (by show (0 : Int) < 1000003; decide), some (.int ns[i]), ?_, rfl⟩⟩
        rw [salt_step ns i (List.getElem?_eq_getElem hi)]
        rfl
    · refine .inl ⟨⟨_, hC, by rw [List.length_map]; omega⟩, ?_⟩
      have et : ns.take i = ns := List.take_of_length_le (by omega)
      rw [et]
      refine ⟨.ref a, rfl, a, ns.map V.int, rfl, .inl (s1.seq hS), fun z nz => ?_⟩
      refine ⟨_, rfl, (by decide : 5 ≤ sizeLine), fun p np => ?_⟩
      have s2 : Same (upd H c (.lst (ns.map V.int))) (upd (upd H c (.lst (ns.map V.int))) z (.lst (ns.map V.int))) := fun b u e => by rw [upd_ne (ne_of_none e nz)]; exact e
      have nzp : z ≠ p := fun e => by
        rw [← e, upd_same] at np
        cases np
      have s3 : Same (upd (upd H c (.lst (ns.map V.int))) z (.lst (ns.map V.int))) (upd (upd (upd H c (.lst (ns.map V.int))) z (.lst (ns.map V.int))) p (.lst [.ref z, .int 0, .int 0, .int 0, .int (saltOf ns)])) := fun b u e => by rw [upd_ne (ne_of_none e np)]; exact e
      have es : saltOf ns = ns.foldl (fun s c => (s * 31 + c) % 1000003) 7 := by
        unfold saltOf
        rw [List.take_of_length_le hlen]
      rw [← es]
      exact q p z _ (s1.trans (s2.trans s3)) ((s1.trans s2).free np) (s1.free nz) nzp.symm (s3 _ _ upd_same) upd_same
theorem ok_moved_put (U : Tops K mg) : FnOk P w K mg base CX0 1 U.a_moved_put U.d_moved_put ["correction", "other", "first"] (spP K m_moved_put) :=
  def_ok U.F_moved_put sc_moved_put (by rfl) fun cdv A outer s H E hr => by
    have hu64 := hr.units; have hu66 := hu66_of hr; have hu70 := hu70_of hr; exact (ss_cons (s_asg (d_var 0) (g_tup (by rfl) (gs_cons (g_name 3 sc_moved_put.nd (by first | exact .inl rfl | exact .inr rfl)) (gs_cons (g_name 4 sc_moved_put.nd (by first | exact .inl rfl | exact .inr rfl)) (gs_cons (g_name 5 sc_moved_put.nd (by first | exact .inl rfl | exact .inr rfl)) gs_nil)))))
  (ss_cons (s_asg (d_var 1) (g_tup (by rfl) (gs_cons (g_name 3 sc_moved_put.nd (by first | exact .inl rfl | exact .inr rfl)) (gs_cons (g_name 6 sc_moved_put.nd (by first | exact .inl rfl | exact .inr rfl)) (gs_cons (g_name 7 sc_moved_put.nd (by first | exact .inl rfl | exact .inr rfl)) gs_nil)))))
  (ss_cons (s_if (t_cmp (op_eqP hu64) o_eq (d_ix ix_seq o_ix (d_var 1) (looked d_int) (fun _ _ => rfl)) (looked d_str) (nomark _)) (ss_cons (s_set (i := 8) (d_or (d_cmp op_lt o_lt (d_var 4) (b_var 6) (nomark _)) (d_one (d_and (d_cmp (op_eqP hu64) o_eq (d_var 4) (b_var 6) (nomark _)) (d_one (d_var 2))))) sc_moved_put.nd (by first | exact .inl rfl | exact .inr rfl))
  (ss_one (s_ret (d_tup (a_cons (d_tup (a_cons d_str (a_cons (d_if (t_val (d_var 8)) (d_var 4) (d_op op_add3 o_add (d_var 4) (looked (d_call1 call_len o_len (by rfl) U.z_len (by decide +kernel) (b_var 7))))) (a_cons (d_var 5) a_nil)))) a_nil))))) ss_nil)
  (ss_cons (s_if (t_cmp op_le o_le (d_var 4) (b_var 6) (nomark _)) (ss_one (s_ret (d_tup (a_cons (d_var 0) a_nil)))) ss_nil)
  (ss_one (s_ret (d_tup (a_cons (d_tup (a_cons d_str (a_cons (d_call2 (call_max2 (by rfl)) o_max2 (by rfl) U.z_max (by decide +kernel) (d_var 6) (looked (d_op op_sub o_sub (d_var 4) (b_var 7)))) (a_cons (d_var 5) a_nil)))) a_nil))))))))
theorem ok_moved_take (U : Tops K mg) : FnOk P w K mg base CX0 1 U.a_moved_take U.d_moved_take ["correction", "other"] (spP K m_moved_take) :=
  def_ok U.F_moved_take sc_moved_take (by rfl) fun cdv A outer s H E hr => by
    have hu64 := hr.units; have hu66 := hu66_of hr; have hu70 := hu70_of hr; exact (ss_cons (s_asg (d_var 0) (g_tup (by rfl) (gs_cons (g_name 2 sc_moved_take.nd (by first | exact .inl rfl | exact .inr rfl)) (gs_cons (g_name 3 sc_moved_take.nd (by first | exact .inl rfl | exact .inr rfl)) (gs_cons (g_name 4 sc_moved_take.nd (by first | exact .inl rfl | exact .inr rfl)) gs_nil)))))
  (ss_cons (s_asg (d_var 1) (g_tup (by rfl) (gs_cons (g_name 2 sc_moved_take.nd (by first | exact .inl rfl | exact .inr rfl)) (gs_cons (g_name 5 sc_moved_take.nd (by first | exact .inl rfl | exact .inr rfl)) (gs_cons (g_name 6 sc_moved_take.nd (by first | exact .inl rfl | exact .inr rfl)) gs_nil)))))
  (ss_cons (s_if (t_cmp (op_eqP hu64) o_eq (d_ix ix_seq o_ix (d_var 1) (looked d_int) (fun _ _ => rfl)) (looked d_str) (nomark _)) (ss_cons (s_if (t_cmp op_le o_le (d_var 5) (b_var 3) (nomark _)) (ss_one (s_ret (d_tup (a_cons (d_tup (a_cons d_str (a_cons (d_op op_add3 o_add (d_var 3) (looked (d_call1 call_len o_len (by rfl) U.z_len (by decide +kernel) (b_var 6)))) (a_cons (d_var 4) a_nil)))) a_nil)))) ss_nil)
  (ss_cons (s_if (t_cmp op_ge o_ge (d_var 5) (looked (d_op op_add3 o_add (d_var 3) (b_var 4))) (nomark _)) (ss_one (s_ret (d_tup (a_cons (d_var 0) a_nil)))) ss_nil)
  (ss_one (s_ret (d_tup (a_cons (d_tup (a_cons d_str (a_cons (d_op op_add3 o_add (d_var 5) (looked (d_call1 call_len o_len (by rfl) U.z_len (by decide +kernel) (b_var 6)))) (a_cons (d_op op_sub o_sub (d_op op_add3 o_add (d_var 3) (b_var 4)) (b_var 5)) a_nil)))) (a_cons (d_tup (a_cons d_str (a_cons (d_var 3) (a_cons (d_op op_sub o_sub (d_var 5) (b_var 3)) a_nil)))) a_nil))))))) ss_nil)
  (ss_cons (s_set (i := 7) (d_call2 (call_max2 (by rfl)) o_max2 (by rfl) U.z_max (by decide +kernel) d_int (looked (d_op op_sub o_sub (d_call2 (call_min2 (by rfl)) o_min2 (by rfl) U.z_min (by decide +kernel) (d_op op_add3 o_add (d_var 3) (b_var 4)) (looked (d_op op_add3 o_add (d_var 5) (b_var 6)))) (looked (d_call2 (call_max2 (by rfl)) o_max2 (by rfl) U.z_max (by decide +kernel) (d_var 3) (looked (d_var 5))))))) sc_moved_take.nd (by first | exact .inl rfl | exact .inr rfl))
  (ss_cons (s_set (i := 8) (d_if (t_cmp op_lt o_lt (d_var 3) (b_var 5) (nomark _)) (d_var 3) (d_call2 (call_max2 (by rfl)) o_max2 (by rfl) U.z_max (by decide +kernel) (d_var 5) (looked (d_op op_sub o_sub (d_var 3) (b_var 6))))) sc_moved_take.nd (by first | exact .inl rfl | exact .inr rfl))
  (ss_one (s_ret (d_if (t_cmp op_gt o_gt (d_var 4) (b_var 7) (nomark _)) (d_tup (a_cons (d_tup (a_cons d_str (a_cons (d_var 8) (a_cons (d_op op_sub o_sub (d_var 4) (b_var 7)) a_nil)))) a_nil)) (d_tup a_nil)))))))))
theorem ok_moved (U : Tops K mg) : FnOk P w K mg base CX0 2 U.a_moved U.d_moved ["correction", "other", "first"] (spP K m_moved) :=
  def_ok U.F_moved sc_moved (by rfl) fun cdv A outer s H E hr => by
    have hu64 := hr.units; have hu66 := hu66_of hr; have hu70 := hu70_of hr; exact (ss_one (s_ret (d_if (t_cmp (op_eqP hu64) o_eq (d_ix ix_seq o_ix (d_var 0) (looked d_int) (fun _ _ => rfl)) (looked d_str) (nomark _)) (d_call ((ok_moved_put U).mono (by decide)) hr (by rfl) U.g_moved_put U.F_moved_put.kp (bi_moved_put U) (a_cons (d_var 0) (a_cons (d_var 1) (a_cons (d_var 2) a_nil)))) (d_call ((ok_moved_take U).mono (by decide)) hr (by rfl) U.g_moved_take U.F_moved_take.kp (bi_moved_take U) (a_cons (d_var 0) (a_cons (d_var 1) a_nil))))))
theorem st_law_behind (U : Tops K mg) (n : Nat) (R_law_behind : FnOk P w K mg base CX0 (n + 2) U.a_law_behind U.d_law_behind ["one", "row", "first"] (spP K (m_law_behind n))) : FnOk P w K mg base CX0 (n + 2 + 1) U.a_law_behind U.d_law_behind ["one", "row", "first"] (spP K (m_law_behind (n + 1))) :=
  def_ok U.F_law_behind sc_law_behind (by rfl) fun cdv A outer s H E hr => by
    have hu64 := hr.units; have hu66 := hu66_of hr; have hu70 := hu70_of hr; exact (ss_cons (s_if (t_cmp (op_eqP hu64) o_eq (d_call1 call_len o_len (by rfl) U.z_len (by decide +kernel) (b_var 1)) (looked d_int) (nomark _)) (ss_one (s_ret (d_frz (l_lst (a_cons (d_tup (a_cons (d_var 0) a_nil)) (a_cons (d_tup a_nil) a_nil)))))) ss_nil)
  (ss_cons (s_set (i := 3) (d_call ((ok_moved U).mono (by omega)) hr (by rfl) U.g_moved U.F_moved.kp (bi_moved U) (a_cons (d_var 0) (a_cons (d_ix ix_seq o_ix (d_var 1) (looked d_int) (fun _ _ => rfl)) (a_cons (d_var 2) a_nil)))) sc_law_behind.nd (by first | exact .inl rfl | exact .inr rfl))
  (ss_cons (s_set (i := 4) (d_call ((ok_moved U).mono (by omega)) hr (by rfl) U.g_moved U.F_moved.kp (bi_moved U) (a_cons (d_ix ix_seq o_ix (d_var 1) (looked d_int) (fun _ _ => rfl)) (a_cons (d_var 0) (a_cons (d_not (d_var 2)) a_nil)))) sc_law_behind.nd (by first | exact .inl rfl | exact .inr rfl))
  (ss_cons (s_set (i := 5) (d_tup a_nil) sc_law_behind.nd (by first | exact .inl rfl | exact .inr rfl))
  (ss_cons (s_set (i := 6) (d_slice sl_2 o_sl (d_var 1) (o_some d_int) o_no) sc_law_behind.nd (by first | exact .inl rfl | exact .inr rfl))
  (ss_cons (s_for PassesOwn.never (by rfl) (i_tup (d_var 3)) (g_name 7 sc_law_behind.nd (by first | exact .inl rfl | exact .inr rfl)) (ss_cons (s_set (i := 8) (d_call R_law_behind hr (by rfl) U.g_law_behind U.F_law_behind.kp (bi_law_behind U) (a_cons (d_var 7) (a_cons (d_var 6) (a_cons (d_var 2) a_nil)))) sc_law_behind.nd (by first | exact .inl rfl | exact .inr rfl))
  (ss_cons (s_set (i := 5) (d_op op_add3 o_add (d_var 5) (looked (d_ix ix_seq o_ix (d_var 8) (looked d_int) (fun _ _ => rfl)))) sc_law_behind.nd (by first | exact .inl rfl | exact .inr rfl))
  (ss_one (s_set (i := 6) (d_ix ix_seq o_ix (d_var 8) (looked d_int) (fun _ _ => rfl)) sc_law_behind.nd (by first | exact .inl rfl | exact .inr rfl))))))
  (ss_one (s_ret (d_frz (l_lst (a_cons (d_var 5) (a_cons (d_op op_add3 o_add (d_var 4) (b_var 6)) a_nil))))))))))))
theorem ok_law_behind (U : Tops K mg) : ∀ n, FnOk P w K mg base CX0 (n + 2) U.a_law_behind U.d_law_behind ["one", "row", "first"] (spP K (m_law_behind n))
  | 0 => none_okP
  | n + 1 => (st_law_behind U n (ok_law_behind U n)).mono (by omega)
theorem ok_law_done (U : Tops K mg) : FnOk P w K mg base CX0 1 U.a_law_done U.d_law_done ["text", "correction"] (spP K m_law_done) :=
  def_ok U.F_law_done sc_law_done (by rfl) fun cdv A outer s H E hr => by
    have hu64 := hr.units; have hu66 := hu66_of hr; have hu70 := hu70_of hr; exact (ss_cons (s_asg (d_var 1) (g_tup (by rfl) (gs_cons (g_name 2 sc_law_done.nd (by first | exact .inl rfl | exact .inr rfl)) (gs_cons (g_name 3 sc_law_done.nd (by first | exact .inl rfl | exact .inr rfl)) (gs_cons (g_name 4 sc_law_done.nd (by first | exact .inl rfl | exact .inr rfl)) gs_nil)))))
  (ss_one (s_ret (d_op op_add3 o_add (d_op op_add3 o_add (d_slice sl_2 o_sl (d_var 0) o_no (o_some (d_var 3))) (looked (d_if (t_cmp (op_eqP hu64) o_eq (d_var 2) (looked d_str) (nomark _)) (d_var 4) d_str))) (looked (d_slice sl_2 o_sl (d_var 0) (o_some (d_op op_add3 o_add (d_var 3) (looked (d_if (t_cmp (op_eqP hu64) o_eq (d_var 2) (looked d_str) (nomark _)) d_int (d_var 4))))) o_no))))))
theorem ok_law_spread (U : Tops K mg) : FnOk P w K mg base CX0 1 U.a_law_spread U.d_law_spread ["cell"] (spP K m_law_spread) :=
  def_ok U.F_law_spread sc_law_spread (by rfl) fun cdv A outer s H E hr => by
    have hu64 := hr.units; have hu66 := hu66_of hr; have hu70 := hu70_of hr; exact (ss_cons (s_set (i := 1) (d_op op_mod o_mod (d_callT call_int3 o_int (by rfl) U.z_int (by decide +kernel) (b_var 0)) (looked d_int)) sc_law_spread.nd (by first | exact .inl rfl | exact .inr rfl))
  (ss_cons (s_set (i := 2) d_int sc_law_spread.nd (by first | exact .inl rfl | exact .inr rfl))
  (ss_cons (s_for PassesOwn.never (by rfl) (i_range1 d_int (by rfl) U.z_range) (g_name 3 sc_law_spread.nd (by first | exact .inl rfl | exact .inr rfl)) (ss_cons (s_set (i := 1) (d_op op_mod o_mod (d_callT call_int3 o_int (by rfl) U.z_int (by decide +kernel) (looked (d_op op_add3 o_add (d_op op_add3 o_add (d_op op_mul o_mul (d_var 1) (looked d_int)) (looked d_int)) (b_var 3)))) (looked d_int)) sc_law_spread.nd (by first | exact .inl rfl | exact .inr rfl))
  (ss_one (s_set (i := 2) (d_op op_add3 o_add (d_op op_mul o_mul (d_var 2) (looked d_int)) (b_var 1)) sc_law_spread.nd (by first | exact .inl rfl | exact .inr rfl)))))
  (ss_one (s_ret (d_var 2))))))
theorem ok_law_draw (U : Tops K mg) : FnOk P w K mg base CX0 2 U.a_law_draw U.d_law_draw ["pool", "many"] (spR K 0 m_law_draw) :=
  def_okR U.F_law_draw sc_law_draw (by rfl) fun cdv A outer s H E hr => by
    have hu64 := hr.units; have hu66 := hu66_of hr; have hu70 := hu70_of hr; exact (ss_cons (s_if (t_bool (w_and (t_cmp op_le o_le (d_ixV 0 ix_seq o_ix (pv 0) d_int (fun _ _ => rfl)) (looked d_int) (nomark _)) (w_and1 (t_cmp op_lt o_lt (d_ixV 0 ix_seq o_ix (pv 0) d_int (fun _ _ => rfl)) (looked (d_call1 call_len o_len (by rfl) U.z_len (by decide +kernel) (looked (d_ixV 0 ix_seq o_ix (pv 0) d_int (fun _ _ => rfl))))) (nomark _))))) (ss_cons (s_set (i := 2) (d_ix ix_seq o_ix (d_ixV 0 ix_seq o_ix (pv 0) d_int (fun _ _ => rfl)) (looked (d_ixV 0 ix_seq o_ix (pv 0) d_int (fun _ _ => rfl))) (fun _ _ => rfl)) sc_law_draw.nd (by first | exact .inl rfl | exact .inr rfl))
  (ss_cons (s_setL (i := 0) (pv 0) d_int (d_op op_add3 o_add (d_ixV 0 ix_seq o_ix (pv 0) d_int (fun _ _ => rfl)) (looked d_int)))
  (ss_cons (s_setL (i := 0) (pv 0) d_int (d_var 2))
  (ss_one (s_if (t_cmp op_lt o_lt (d_var 2) (looked d_int) (nomark _)) (ss_one (s_setL (i := 0) (pv 0) d_int (d_call ((ok_law_spread U).mono (by decide)) hr (by rfl) U.g_law_spread U.F_law_spread.kp (bi_law_spread U) (a_cons (d_var 2) a_nil)))) ss_nil))))) ss_nil)
  (ss_cons (s_setL (i := 0) (pv 0) d_int (d_op op_add3 o_add (d_ixV 0 ix_seq o_ix (pv 0) d_int (fun _ _ => rfl)) (looked d_int)))
  (ss_cons (s_if (t_cmp op_le o_le (d_ixV 0 ix_seq o_ix (pv 0) d_int (fun _ _ => rfl)) (looked d_int) (nomark _)) (ss_cons (s_set (i := 3) (d_op op_mod o_mod (d_callT call_int3 o_int (by rfl) U.z_int (by decide +kernel) (looked (d_op op_add3 o_add (d_op op_add3 o_add (d_op op_mul o_mul (d_ixV 0 ix_seq o_ix (pv 0) d_int (fun _ _ => rfl)) (looked d_int)) (looked (d_op op_mul o_mul (d_ixV 0 ix_seq o_ix (pv 0) d_int (fun _ _ => rfl)) (looked d_int)))) (looked d_int)))) (looked d_int)) sc_law_draw.nd (by first | exact .inl rfl | exact .inr rfl))
  (ss_cons (s_set (i := 3) (d_op op_mod o_mod (d_callT call_int3 o_int (by rfl) U.z_int (by decide +kernel) (looked (d_op op_add3 o_add (d_op op_mul o_mul (d_var 3) (looked d_int)) (looked (d_ixV 0 ix_seq o_ix (pv 0) d_int (fun _ _ => rfl)))))) (looked d_int)) sc_law_draw.nd (by first | exact .inl rfl | exact .inr rfl))
  (ss_one (s_ret (d_op op_mod o_mod (d_op op_fdivW o_div (d_var 3) (looked d_int)) (b_var 1)))))) ss_nil)
  (ss_cons (s_set (i := 4) (d_op op_mod o_mod (d_callT call_int3 o_int (by rfl) U.z_int (by decide +kernel) (looked (d_ixV 0 ix_seq o_ix (pv 0) d_int (fun _ _ => rfl)))) (b_var 1)) sc_law_draw.nd (by first | exact .inl rfl | exact .inr rfl))
  (ss_cons (s_setL (i := 0) (pv 0) d_int (d_op op_fdivW o_div (d_ixV 0 ix_seq o_ix (pv 0) d_int (fun _ _ => rfl)) (b_var 1)))
  (ss_one (s_ret (d_var 4))))))))
theorem ok_law_correction (U : Tops K mg) : FnOk P w K mg base CX0 3 U.a_law_correction U.d_law_correction ["pool", "length"] (spR K 0 m_law_correction) :=
  def_okR U.F_law_correction sc_law_correction (by rfl) fun cdv A outer s H E hr => by
    have hu64 := hr.units; have hu66 := hu66_of hr; have hu70 := hu70_of hr; exact (ss_cons (s_if (t_bool (w_or (t_cmp (op_eqP hu64) o_eq (d_var 1) (looked d_int) (nomark _)) (w_or1 (t_cmp (op_eqP hu64) o_eq (d_callR hfr_of ((ok_law_draw U).mono (by decide)) hr (by rfl) U.g_law_draw U.F_law_draw.kp (bi_law_draw U) (ar_here (pv 0) (a_cons d_int a_nil))) (looked d_int) (nomark _))))) (ss_one (s_ret (d_tup (a_cons d_str (a_cons (d_callR hfr_of ((ok_law_draw U).mono (by decide)) hr (by rfl) U.g_law_draw U.F_law_draw.kp (bi_law_draw U) (ar_here (pv 0) (a_cons (d_op op_add3 o_add (d_var 1) (looked d_int)) a_nil))) (a_cons (d_ix ix_seq o_ix (d_tup (a_cons d_str (a_cons d_str (a_cons d_str a_nil)))) (looked (d_callR hfr_of ((ok_law_draw U).mono (by decide)) hr (by rfl) U.g_law_draw U.F_law_draw.kp (bi_law_draw U) (ar_here (pv 0) (a_cons d_int a_nil)))) (fun _ _ => rfl)) a_nil)))))) ss_nil)
  (ss_cons (s_set (i := 2) (d_callR hfr_of ((ok_law_draw U).mono (by decide)) hr (by rfl) U.g_law_draw U.F_law_draw.kp (bi_law_draw U) (ar_here (pv 0) (a_cons (d_var 1) a_nil))) sc_law_correction.nd (by first | exact .inl rfl | exact .inr rfl))
  (ss_one (s_ret (d_tup (a_cons d_str (a_cons (d_var 2) (a_cons (d_op op_add3 o_add d_int (looked (d_callR hfr_of ((ok_law_draw U).mono (by decide)) hr (by rfl) U.g_law_draw U.F_law_draw.kp (bi_law_draw U) (ar_here (pv 0) (a_cons (d_call2 (call_min2 (by rfl)) o_min2 (by rfl) U.z_min (by decide +kernel) d_int (looked (d_op op_sub o_sub (d_var 1) (b_var 2)))) a_nil))))) a_nil))))))))
theorem ok_law_row (U : Tops K mg) : FnOk P w K mg base CX0 4 U.a_law_row U.d_law_row ["pool", "text", "many"] (spR K 0 m_law_row) :=
  def_okR U.F_law_row sc_law_row (by rfl) fun cdv A outer s H E hr => by
    have hu64 := hr.units; have hu66 := hu66_of hr; have hu70 := hu70_of hr; exact (ss_cons (s_set (i := 3) (d_tup a_nil) sc_law_row.nd (by first | exact .inl rfl | exact .inr rfl))
  (ss_cons (s_for PassesOwn.never (by rfl) (i_range1 (d_var 2) (by rfl) U.z_range) (g_name 4 sc_law_row.nd (by first | exact .inl rfl | exact .inr rfl)) (ss_cons (s_set (i := 5) (d_callR hfr_of ((ok_law_correction U).mono (by decide)) hr (by rfl) U.g_law_correction U.F_law_correction.kp (bi_law_correction U) (ar_here (pv 0) (a_cons (d_call1 call_len o_len (by rfl) U.z_len (by decide +kernel) (b_var 1)) a_nil))) sc_law_row.nd (by first | exact .inl rfl | exact .inr rfl))
  (ss_cons (s_set (i := 1) (d_call ((ok_law_done U).mono (by decide)) hr (by rfl) U.g_law_done U.F_law_done.kp (bi_law_done U) (a_cons (d_var 1) (a_cons (d_var 5) a_nil))) sc_law_row.nd (by first | exact .inl rfl | exact .inr rfl))
  (ss_one (s_set (i := 3) (d_op op_add3 o_add (d_var 3) (looked (d_tup (a_cons (d_var 5) a_nil)))) sc_law_row.nd (by first | exact .inl rfl | exact .inr rfl))))))
  (ss_one (s_ret (d_var 3)))))
theorem st_law_same (U : Tops K mg) (n : Nat) (R_law_same : FnOk P w K mg base CX0 (n + 0) U.a_law_same U.d_law_same ["actual", "due"] (spP K (m_law_same n))) : FnOk P w K mg base CX0 (n + 0 + 1) U.a_law_same U.d_law_same ["actual", "due"] (spP K (m_law_same (n + 1))) :=
  def_ok U.F_law_same sc_law_same (by rfl) fun cdv A outer s H E hr => by
    have hu64 := hr.units; have hu66 := hu66_of hr; have hu70 := hu70_of hr; exact (ss_cons (s_if (t_bool (w_or (t_val (d_isa isa_tuple (by rfl) U.z_isinstance (by rfl) U.z_tuple (by decide +kernel) (b_var 1))) (w_or1 (t_val (d_isa isa_list (by rfl) U.z_isinstance (by rfl) U.z_list (by decide +kernel) (b_var 1)))))) (ss_cons (s_if (t_bool (w_or (t_cmp (op_neP hu64) o_ne (d_isa isa_tuple (by rfl) U.z_isinstance (by rfl) U.z_tuple (by decide +kernel) (b_var 1)) (looked (d_isa isa_tuple (by rfl) U.z_isinstance (by rfl) U.z_tuple (by decide +kernel) (b_var 0))) (nomark _)) (w_or (t_cmp (op_neP hu64) o_ne (d_isa isa_list (by rfl) U.z_isinstance (by rfl) U.z_list (by decide +kernel) (b_var 1)) (looked (d_isa isa_list (by rfl) U.z_isinstance (by rfl) U.z_list (by decide +kernel) (b_var 0))) (nomark _)) (w_or1 (t_cmp (op_neP hu64) o_ne (d_call1 call_len o_len (by rfl) U.z_len (by decide +kernel) (b_var 0)) (looked (d_call1 call_len o_len (by rfl) U.z_len (by decide +kernel) (b_var 1))) (nomark _)))))) (ss_one (s_ret d_bool)) ss_nil)
  (ss_one (s_ret (d_cmp (op_eqP hu64) o_eq (d_call1 call_len o_len (by rfl) U.z_len (by decide +kernel) (looked (d_frz (l_lc (by rfl) sc_law_same.nd (i_range1 (d_call1 call_len o_len (by rfl) U.z_len (by decide +kernel) (b_var 1)) (by rfl) U.z_range) (blkOk_by (own := [("k", 2)]) (N := N_law_same) (sc := defScope s_law_same) (by decide +kernel)) (g := (gName 2)) (own := [("k", 2)]) (fun _ _ _ _ _ => (pg_name (i := 2) sc_law_same.nd rfl (by first | exact .inl rfl | exact .inr rfl))) (fun _ _ _ _ _ => (ts_one (t_not (t_val (d_call R_law_same hr (by rfl) U.g_law_same U.F_law_same.kp (bi_law_same U) (a_cons (d_ix ix_seq o_ix (d_var 0) (b_var 2) (fun _ _ => rfl)) (a_cons (d_ix ix_seq o_ix (d_var 1) (b_var 2) (fun _ _ => rfl)) a_nil))))))) (fun _ _ _ _ _ => (d_var 2)) (tg_name 2 (by decide) (by decide)))))) (looked d_int) (nomark _))))) ss_nil)
  (ss_cons (s_if (t_cmp op_isN o_isN (d_var 1) (looked d_none) (nomark _)) (ss_one (s_ret (d_cmp op_isN o_isN (d_var 0) (looked d_none) (nomark _)))) ss_nil)
  (ss_cons (s_if (t_bool (w_or (t_val (d_isa isa_bool (by rfl) U.z_isinstance (by rfl) U.z_bool (by decide +kernel) (b_var 1))) (w_or1 (t_val (d_isa isa_bool (by rfl) U.z_isinstance (by rfl) U.z_bool (by decide +kernel) (b_var 0)))))) (ss_one (s_ret (d_and (d_isa isa_bool (by rfl) U.z_isinstance (by rfl) U.z_bool (by decide +kernel) (b_var 1)) (d_and (d_isa isa_bool (by rfl) U.z_isinstance (by rfl) U.z_bool (by decide +kernel) (b_var 0)) (d_one (d_cmp (op_eqP hu64) o_eq (d_var 0) (b_var 1) (nomark _))))))) ss_nil)
  (ss_cons (s_if (t_val (d_isa isa_int (by rfl) U.z_isinstance (by rfl) U.z_int (by decide +kernel) (b_var 1))) (ss_one (s_ret (d_and (d_isa isa_int (by rfl) U.z_isinstance (by rfl) U.z_int (by decide +kernel) (b_var 0)) (d_one (d_cmp (op_eqP hu64) o_eq (d_var 0) (b_var 1) (nomark _)))))) ss_nil)
  (ss_one (s_ret (d_and (d_isa isa_str (by rfl) U.z_isinstance (by rfl) U.z_str (by decide +kernel) (b_var 0)) (d_one (d_cmp (op_eqP hu64) o_eq (d_var 0) (b_var 1) (nomark _))))))))))
theorem ok_law_same (U : Tops K mg) : ∀ n, FnOk P w K mg base CX0 (n + 0) U.a_law_same U.d_law_same ["actual", "due"] (spP K (m_law_same n))
  | 0 => none_okP
  | n + 1 => (st_law_same U n (ok_law_same U n)).mono (by omega)
theorem ok_corrected (U : Tops K mg) : FnOk P w K mg base CX0 1 U.a_corrected U.d_corrected ["text", "correction"] (spP K m_corrected) :=
  def_ok U.F_corrected sc_corrected (by rfl) fun cdv A outer s H E hr => by
    have hu64 := hr.units; have hu66 := hu66_of hr; have hu70 := hu70_of hr; exact (ss_cons (s_asg (d_var 1) (g_tup (by rfl) (gs_cons (g_name 2 sc_corrected.nd (by first | exact .inl rfl | exact .inr rfl)) (gs_cons (g_name 3 sc_corrected.nd (by first | exact .inl rfl | exact .inr rfl)) (gs_cons (g_name 4 sc_corrected.nd (by first | exact .inl rfl | exact .inr rfl)) gs_nil)))))
  (ss_cons (s_if (t_cmp (op_eqP hu64) o_eq (d_var 2) (looked d_str) (nomark _)) (ss_one (s_ret (d_op op_add3 o_add (d_op op_add3 o_add (d_slice sl_2 o_sl (d_var 0) o_no (o_some (d_var 3))) (b_var 4)) (looked (d_slice sl_2 o_sl (d_var 0) (o_some (d_var 3)) o_no))))) ss_nil)
  (ss_one (s_ret (d_op op_add3 o_add (d_slice sl_2 o_sl (d_var 0) o_no (o_some (d_var 3))) (looked (d_slice sl_2 o_sl (d_var 0) (o_some (d_op op_add3 o_add (d_var 3) (b_var 4))) o_no)))))))
theorem ok_all_corrected (U : Tops K mg) : FnOk P w K mg base CX0 2 U.a_all_corrected U.d_all_corrected ["text", "row"] (spP K m_all_corrected) :=
  def_ok U.F_all_corrected sc_all_corrected (by rfl) fun cdv A outer s H E hr => by
    have hu64 := hr.units; have hu66 := hu66_of hr; have hu70 := hu70_of hr; exact (ss_cons (s_for PassesOwn.never (by rfl) (i_tup (d_var 1)) (g_name 2 sc_all_corrected.nd (by first | exact .inl rfl | exact .inr rfl)) (ss_one (s_set (i := 0) (d_call ((ok_corrected U).mono (by decide)) hr (by rfl) U.g_corrected U.F_corrected.kp (bi_corrected U) (a_cons (d_var 0) (a_cons (d_var 2) a_nil))) sc_all_corrected.nd (by first | exact .inl rfl | exact .inr rfl))))
  (ss_one (s_ret (d_var 0))))
theorem st_crossed (U : Tops K mg) (n : Nat) (R_crossed : FnOk P w K mg base CX0 (n + 2) U.a_crossed U.d_crossed ["first", "second"] (spP K (m_crossed n))) : FnOk P w K mg base CX0 (n + 2 + 1) U.a_crossed U.d_crossed ["first", "second"] (spP K (m_crossed (n + 1))) :=
  def_ok U.F_crossed sc_crossed (by rfl) fun cdv A outer s H E hr => by
    have hu64 := hr.units; have hu66 := hu66_of hr; have hu70 := hu70_of hr; exact (ss_cons (s_if (t_bool (w_or (t_cmp (op_eqP hu64) o_eq (d_call1 call_len o_len (by rfl) U.z_len (by decide +kernel) (b_var 0)) (looked d_int) (nomark _)) (w_or1 (t_cmp (op_eqP hu64) o_eq (d_call1 call_len o_len (by rfl) U.z_len (by decide +kernel) (b_var 1)) (looked d_int) (nomark _))))) (ss_one (s_ret (d_tup (a_cons (d_var 0) (a_cons (d_var 1) a_nil))))) ss_nil)
  (ss_cons (s_if (t_bool (w_and (t_cmp (op_eqP hu64) o_eq (d_call1 call_len o_len (by rfl) U.z_len (by decide +kernel) (b_var 0)) (looked d_int) (nomark _)) (w_and1 (t_cmp (op_eqP hu64) o_eq (d_call1 call_len o_len (by rfl) U.z_len (by decide +kernel) (b_var 1)) (looked d_int) (nomark _))))) (ss_one (s_ret (d_tup (a_cons (d_call ((ok_moved U).mono (by omega)) hr (by rfl) U.g_moved U.F_moved.kp (bi_moved U) (a_cons (d_ix ix_seq o_ix (d_var 0) (looked d_int) (fun _ _ => rfl)) (a_cons (d_ix ix_seq o_ix (d_var 1) (looked d_int) (fun _ _ => rfl)) (a_cons d_bool a_nil)))) (a_cons (d_call ((ok_moved U).mono (by omega)) hr (by rfl) U.g_moved U.F_moved.kp (bi_moved U) (a_cons (d_ix ix_seq o_ix (d_var 1) (looked d_int) (fun _ _ => rfl)) (a_cons (d_ix ix_seq o_ix (d_var 0) (looked d_int) (fun _ _ => rfl)) (a_cons d_bool a_nil)))) a_nil))))) ss_nil)
  (ss_cons (s_if (t_cmp op_gt o_gt (d_call1 call_len o_len (by rfl) U.z_len (by decide +kernel) (b_var 0)) (looked d_int) (nomark _)) (ss_cons (s_asg (d_call R_crossed hr (by rfl) U.g_crossed U.F_crossed.kp (bi_crossed U) (a_cons (d_slice sl_2 o_sl (d_var 0) o_no (o_some d_int)) (a_cons (d_var 1) a_nil))) (g_tup (by rfl) (gs_cons (g_name 2 sc_crossed.nd (by first | exact .inl rfl | exact .inr rfl)) (gs_cons (g_name 3 sc_crossed.nd (by first | exact .inl rfl | exact .inr rfl)) gs_nil))))
  (ss_cons (s_asg (d_call R_crossed hr (by rfl) U.g_crossed U.F_crossed.kp (bi_crossed U) (a_cons (d_slice sl_2 o_sl (d_var 0) (o_some d_int) o_no) (a_cons (d_var 3) a_nil))) (g_tup (by rfl) (gs_cons (g_name 4 sc_crossed.nd (by first | exact .inl rfl | exact .inr rfl)) (gs_cons (g_name 5 sc_crossed.nd (by first | exact .inl rfl | exact .inr rfl)) gs_nil))))
  (ss_one (s_ret (d_tup (a_cons (d_op op_add3 o_add (d_var 2) (b_var 4)) (a_cons (d_var 5) a_nil))))))) ss_nil)
  (ss_cons (s_asg (d_call R_crossed hr (by rfl) U.g_crossed U.F_crossed.kp (bi_crossed U) (a_cons (d_var 0) (a_cons (d_slice sl_2 o_sl (d_var 1) o_no (o_some d_int)) a_nil))) (g_tup (by rfl) (gs_cons (g_name 2 sc_crossed.nd (by first | exact .inl rfl | exact .inr rfl)) (gs_cons (g_name 3 sc_crossed.nd (by first | exact .inl rfl | exact .inr rfl)) gs_nil))))
  (ss_cons (s_asg (d_call R_crossed hr (by rfl) U.g_crossed U.F_crossed.kp (bi_crossed U) (a_cons (d_var 2) (a_cons (d_slice sl_2 o_sl (d_var 1) (o_some d_int) o_no) a_nil))) (g_tup (by rfl) (gs_cons (g_name 4 sc_crossed.nd (by first | exact .inl rfl | exact .inr rfl)) (gs_cons (g_name 5 sc_crossed.nd (by first | exact .inl rfl | exact .inr rfl)) gs_nil))))
  (ss_one (s_ret (d_tup (a_cons (d_var 4) (a_cons (d_op op_add3 o_add (d_var 3) (b_var 5)) a_nil))))))))))
theorem ok_crossed (U : Tops K mg) : ∀ n, FnOk P w K mg base CX0 (n + 2) U.a_crossed U.d_crossed ["first", "second"] (spP K (m_crossed n))
  | 0 => none_okP
  | n + 1 => (st_crossed U n (ok_crossed U n)).mono (by omega)
theorem ok_both_readers (U : Tops K mg) : FnOk P w K mg base CX0 143 U.a_both_readers U.d_both_readers ["text", "first", "second"] (spP K m_both_readers) :=
  def_ok U.F_both_readers sc_both_readers (by rfl) fun cdv A outer s H E hr => by
    have hu64 := hr.units; have hu66 := hu66_of hr; have hu70 := hu70_of hr; exact (ss_one (s_ret (d_call ((ok_all_corrected U).mono (by decide)) hr (by rfl) U.g_all_corrected U.F_all_corrected.kp (bi_all_corrected U) (a_cons (d_var 0) (a_cons (d_op op_add3 o_add (d_var 1) (looked (d_ix ix_seq o_ix (d_call ((ok_crossed U 140).mono (by decide)) hr (by rfl) U.g_crossed U.F_crossed.kp (bi_crossed U) (a_cons (d_var 1) (a_cons (d_var 2) a_nil))) (looked d_int) (fun _ _ => rfl)))) a_nil)))))
theorem ok_law (U : Tops K mg) (math : ∀ ns : List Int, ns.length ≤ 63 → m_law ns = some (.bool true)) : FnOk P w K mg base CX0 144 U.a_law U.d_law ["script"] (spLaw K) :=
  law_ok (n := 10) U.F_law sc_law rfl rfl (fun cdv A outer s H E hr => ⟨ps_set (i := 1) sc_law.nd rfl (.inl rfl) (pe_to (pe_call ((ok_law_pool U).mono (by decide)) hr (by rfl) U.g_law_pool U.F_law_pool.kp (bi_law_pool U) .nil pass0 (pa_cons (pv 0) pa_nil)) fun σ H Q h => h), by
    have hu64 := hr.units; have hu66 := hu66_of hr; have hu70 := hu70_of hr; exact (ss_cons (s_set (i := 2) (d_slice sl_2 o_sl d_str o_no (o_some (d_callR hfr_of ((ok_law_draw U).mono (by decide)) hr (by rfl) U.g_law_draw U.F_law_draw.kp (bi_law_draw U) (ar_here (pv 1) (a_cons d_int a_nil))))) sc_law.nd (by first | exact .inl rfl | exact .inr rfl))
  (ss_cons (s_set (i := 3) (d_callR hfr_of ((ok_law_row U).mono (by decide)) hr (by rfl) U.g_law_row U.F_law_row.kp (bi_law_row U) (ar_here (pv 1) (a_cons (d_var 2) (a_cons (d_callR hfr_of ((ok_law_draw U).mono (by decide)) hr (by rfl) U.g_law_draw U.F_law_draw.kp (bi_law_draw U) (ar_here (pv 1) (a_cons d_int a_nil))) a_nil)))) sc_law.nd (by first | exact .inl rfl | exact .inr rfl))
  (ss_cons (s_set (i := 4) (d_callR hfr_of ((ok_law_row U).mono (by decide)) hr (by rfl) U.g_law_row U.F_law_row.kp (bi_law_row U) (ar_here (pv 1) (a_cons (d_var 2) (a_cons (d_callR hfr_of ((ok_law_draw U).mono (by decide)) hr (by rfl) U.g_law_draw U.F_law_draw.kp (bi_law_draw U) (ar_here (pv 1) (a_cons d_int a_nil))) a_nil)))) sc_law.nd (by first | exact .inl rfl | exact .inr rfl))
  (ss_cons (s_set (i := 5) (d_call ((ok_both_readers U).mono (by decide)) hr (by rfl) U.g_both_readers U.F_both_readers.kp (bi_both_readers U) (a_cons (d_var 2) (a_cons (d_var 3) (a_cons (d_var 4) a_nil)))) sc_law.nd (by first | exact .inl rfl | exact .inr rfl))
  (ss_cons (s_set (i := 6) (d_var 2) sc_law.nd (by first | exact .inl rfl | exact .inr rfl))
  (ss_cons (s_set (i := 7) (d_var 4) sc_law.nd (by first | exact .inl rfl | exact .inr rfl))
  (ss_cons (s_for PassesOwn.never (by rfl) (i_tup (d_var 3)) (g_name 8 sc_law.nd (by first | exact .inl rfl | exact .inr rfl)) (ss_cons (s_set (i := 6) (d_call ((ok_law_done U).mono (by decide)) hr (by rfl) U.g_law_done U.F_law_done.kp (bi_law_done U) (a_cons (d_var 6) (a_cons (d_var 8) a_nil))) sc_law.nd (by first | exact .inl rfl | exact .inr rfl))
  (ss_one (s_set (i := 7) (d_ix ix_seq o_ix (d_call ((ok_law_behind U 70).mono (by decide)) hr (by rfl) U.g_law_behind U.F_law_behind.kp (bi_law_behind U) (a_cons (d_var 8) (a_cons (d_var 7) (a_cons d_bool a_nil)))) (looked d_int) (fun _ _ => rfl)) sc_law.nd (by first | exact .inl rfl | exact .inr rfl)))))
  (ss_cons (s_for PassesOwn.never (by rfl) (i_tup (d_var 7)) (g_name 9 sc_law.nd (by first | exact .inl rfl | exact .inr rfl)) (ss_one (s_set (i := 6) (d_call ((ok_law_done U).mono (by decide)) hr (by rfl) U.g_law_done U.F_law_done.kp (bi_law_done U) (a_cons (d_var 6) (a_cons (d_var 9) a_nil))) sc_law.nd (by first | exact .inl rfl | exact .inr rfl))))
  (ss_cons (s_if (t_not (t_val (d_call ((ok_law_same U 40).mono (by decide)) hr (by rfl) U.g_law_same U.F_law_same.kp (bi_law_same U) (a_cons (d_var 5) (a_cons (d_var 6) a_nil))))) (ss_one (s_ret d_bool)) ss_nil)
  (ss_cons (s_set (i := 10) (d_var 2) sc_law.nd (by first | exact .inl rfl | exact .inr rfl))
  (ss_cons (s_set (i := 7) (d_var 3) sc_law.nd (by first | exact .inl rfl | exact .inr rfl))
  (ss_cons (s_for PassesOwn.never (by rfl) (i_tup (d_var 4)) (g_name 8 sc_law.nd (by first | exact .inl rfl | exact .inr rfl)) (ss_cons (s_set (i := 10) (d_call ((ok_law_done U).mono (by decide)) hr (by rfl) U.g_law_done U.F_law_done.kp (bi_law_done U) (a_cons (d_var 10) (a_cons (d_var 8) a_nil))) sc_law.nd (by first | exact .inl rfl | exact .inr rfl))
  (ss_one (s_set (i := 7) (d_ix ix_seq o_ix (d_call ((ok_law_behind U 70).mono (by decide)) hr (by rfl) U.g_law_behind U.F_law_behind.kp (bi_law_behind U) (a_cons (d_var 8) (a_cons (d_var 7) (a_cons d_bool a_nil)))) (looked d_int) (fun _ _ => rfl)) sc_law.nd (by first | exact .inl rfl | exact .inr rfl)))))
  (ss_cons (s_for PassesOwn.never (by rfl) (i_tup (d_var 7)) (g_name 9 sc_law.nd (by first | exact .inl rfl | exact .inr rfl)) (ss_one (s_set (i := 10) (d_call ((ok_law_done U).mono (by decide)) hr (by rfl) U.g_law_done U.F_law_done.kp (bi_law_done U) (a_cons (d_var 10) (a_cons (d_var 9) a_nil))) sc_law.nd (by first | exact .inl rfl | exact .inr rfl))))
  (ss_cons (s_if (t_not (t_val (d_call ((ok_law_same U 40).mono (by decide)) hr (by rfl) U.g_law_same U.F_law_same.kp (bi_law_same U) (a_cons (d_var 10) (a_cons (d_var 5) a_nil))))) (ss_one (s_ret d_bool)) ss_nil)
  (ss_cons (s_set (i := 11) (d_frz (l_lst (a_cons (d_call ((ok_both_readers U).mono (by decide)) hr (by rfl) U.g_both_readers U.F_both_readers.kp (bi_both_readers U) (a_cons (d_var 2) (a_cons (d_var 3) (a_cons (d_tup a_nil) a_nil)))) (a_cons (d_call ((ok_both_readers U).mono (by decide)) hr (by rfl) U.g_both_readers U.F_both_readers.kp (bi_both_readers U) (a_cons (d_var 2) (a_cons (d_tup a_nil) (a_cons (d_var 4) a_nil)))) a_nil)))) sc_law.nd (by first | exact .inl rfl | exact .inr rfl))
  (ss_one (s_ret (d_call ((ok_law_same U 40).mono (by decide)) hr (by rfl) U.g_law_same U.F_law_same.kp (bi_law_same U) (a_cons (d_var 11) (a_cons (d_frz (l_lst (a_cons (d_call ((ok_all_corrected U).mono (by decide)) hr (by rfl) U.g_all_corrected U.F_all_corrected.kp (bi_all_corrected U) (a_cons (d_var 2) (a_cons (d_var 3) a_nil))) (a_cons (d_call ((ok_all_corrected U).mono (by decide)) hr (by rfl) U.g_all_corrected U.F_all_corrected.kp (bi_all_corrected U) (a_cons (d_var 2) (a_cons (d_var 4) a_nil))) a_nil)))) a_nil))))))))))))))))))))⟩) math
end
theorem all_mk {l : PySem.W.OpenLaw} {w : World} {K : PySem.W.Frag} {h : Heap} {mg : Str → Option Value} {fa : Addr} (X : K.In h) (G : h.Ns mainGlobals mg) (hfa : mg "law" = some (.ref fa))
    {f0 f1 f2 f3 f4 f5 f6 f7 f8 f9 f10 f11 f12 f13 f14 f15 : Addr} {od0 an0 od1 an1 od2 an2 od3 an3 od4 an4 od5 an5 od6 an6 od7 an7 od8 an8 od9 an9 od10 an10 od11 an11 od12 an12 od13 an13 od14 an14 od15 an15 : Option Addr} {sl0 sl1 sl2 sl3 sl4 sl5 sl6 sl7 sl8 sl9 sl10 sl11 sl12 sl13 sl14 sl15 : Array (Option Value)} {oc0 kV0 dc0 pm0 cd0 ct0 oc1 kV1 dc1 pm1 cd1 ct1 oc2 kV2 dc2 pm2 cd2 ct2 oc3 kV3 dc3 pm3 cd3 ct3 oc4 kV4 dc4 pm4 cd4 ct4 oc5 kV5 dc5 pm5 cd5 ct5 oc6 kV6 dc6 pm6 cd6 ct6 oc7 kV7 dc7 pm7 cd7 ct7 oc8 kV8 dc8 pm8 cd8 ct8 oc9 kV9 dc9 pm9 cd9 ct9 oc10 kV10 dc10 pm10 cd10 ct10 oc11 kV11 dc11 pm11 cd11 ct11 oc12 kV12 dc12 pm12 cd12 ct12 oc13 kV13 dc13 pm13 cd13 ct13 oc14 kV14 dc14 pm14 cd14 ct14 oc15 kV15 dc15 pm15 cd15 ct15 : Value}
    (a0 : PySem.W.nsIn K mainGlobals "moved_put" = some (some (.ref f0))) (l0 : K.lookup f0 = some ⟨oc0, od0, .func (PySem.W.fnOf "moved_put" "moved_put" (defArgs s_moved_put) (defBody s_moved_put) (defScope s_moved_put) .none kV0 dc0 pm0 an0 cd0 ct0), sl0⟩) (c0 : PySem.W.codeIn K cd0 "moved_put" = true) (k0 : PySem.W.keepIn K (.ref f0) = true)
    (a1 : PySem.W.nsIn K mainGlobals "moved_take" = some (some (.ref f1))) (l1 : K.lookup f1 = some ⟨oc1, od1, .func (PySem.W.fnOf "moved_take" "moved_take" (defArgs s_moved_take) (defBody s_moved_take) (defScope s_moved_take) .none kV1 dc1 pm1 an1 cd1 ct1), sl1⟩) (c1 : PySem.W.codeIn K cd1 "moved_take" = true) (k1 : PySem.W.keepIn K (.ref f1) = true)
    (a2 : PySem.W.nsIn K mainGlobals "moved" = some (some (.ref f2))) (l2 : K.lookup f2 = some ⟨oc2, od2, .func (PySem.W.fnOf "moved" "moved" (defArgs s_moved) (defBody s_moved) (defScope s_moved) .none kV2 dc2 pm2 an2 cd2 ct2), sl2⟩) (c2 : PySem.W.codeIn K cd2 "moved" = true) (k2 : PySem.W.keepIn K (.ref f2) = true)
    (a3 : PySem.W.nsIn K mainGlobals "_law_behind" = some (some (.ref f3))) (l3 : K.lookup f3 = some ⟨oc3, od3, .func (PySem.W.fnOf "_law_behind" "_law_behind" (defArgs s_law_behind) (defBody s_law_behind) (defScope s_law_behind) .none kV3 dc3 pm3 an3 cd3 ct3), sl3⟩) (c3 : PySem.W.codeIn K cd3 "_law_behind" = true) (k3 : PySem.W.keepIn K (.ref f3) = true)
    (a4 : PySem.W.nsIn K mainGlobals "_law_done" = some (some (.ref f4))) (l4 : K.lookup f4 = some ⟨oc4, od4, .func (PySem.W.fnOf "_law_done" "_law_done" (defArgs s_law_done) (defBody s_law_done) (defScope s_law_done) .none kV4 dc4 pm4 an4 cd4 ct4), sl4⟩) (c4 : PySem.W.codeIn K cd4 "_law_done" = true) (k4 : PySem.W.keepIn K (.ref f4) = true)
    (a5 : PySem.W.nsIn K mainGlobals "_law_spread" = some (some (.ref f5))) (l5 : K.lookup f5 = some ⟨oc5, od5, .func (PySem.W.fnOf "_law_spread" "_law_spread" (defArgs s_law_spread) (defBody s_law_spread) (defScope s_law_spread) .none kV5 dc5 pm5 an5 cd5 ct5), sl5⟩) (c5 : PySem.W.codeIn K cd5 "_law_spread" = true) (k5 : PySem.W.keepIn K (.ref f5) = true)
    (a6 : PySem.W.nsIn K mainGlobals "_law_draw" = some (some (.ref f6))) (l6 : K.lookup f6 = some ⟨oc6, od6, .func (PySem.W.fnOf "_law_draw" "_law_draw" (defArgs s_law_draw) (defBody s_law_draw) (defScope s_law_draw) .none kV6 dc6 pm6 an6 cd6 ct6), sl6⟩) (c6 : PySem.W.codeIn K cd6 "_law_draw" = true) (k6 : PySem.W.keepIn K (.ref f6) = true)
    (a7 : PySem.W.nsIn K mainGlobals "_law_pool" = some (some (.ref f7))) (l7 : K.lookup f7 = some ⟨oc7, od7, .func (PySem.W.fnOf "_law_pool" "_law_pool" (defArgs s_law_pool) (defBody s_law_pool) (defScope s_law_pool) .none kV7 dc7 pm7 an7 cd7 ct7), sl7⟩) (c7 : PySem.W.codeIn K cd7 "_law_pool" = true) (k7 : PySem.W.keepIn K (.ref f7) = true)
    (a8 : PySem.W.nsIn K mainGlobals "_law_correction" = some (some (.ref f8))) (l8 : K.lookup f8 = some ⟨oc8, od8, .func (PySem.W.fnOf "_law_correction" "_law_correction" (defArgs s_law_correction) (defBody s_law_correction) (defScope s_law_correction) .none kV8 dc8 pm8 an8 cd8 ct8), sl8⟩) (c8 : PySem.W.codeIn K cd8 "_law_correction" = true) (k8 : PySem.W.keepIn K (.ref f8) = true)
    (a9 : PySem.W.nsIn K mainGlobals "_law_row" = some (some (.ref f9))) (l9 : K.lookup f9 = some ⟨oc9, od9, .func (PySem.W.fnOf "_law_row" "_law_row" (defArgs s_law_row) (defBody s_law_row) (defScope s_law_row) .none kV9 dc9 pm9 an9 cd9 ct9), sl9⟩) (c9 : PySem.W.codeIn K cd9 "_law_row" = true) (k9 : PySem.W.keepIn K (.ref f9) = true)
    (a10 : PySem.W.nsIn K mainGlobals "_law_same" = some (some (.ref f10))) (l10 : K.lookup f10 = some ⟨oc10, od10, .func (PySem.W.fnOf "_law_same" "_law_same" (defArgs s_law_same) (defBody s_law_same) (defScope s_law_same) .none kV10 dc10 pm10 an10 cd10 ct10), sl10⟩) (c10 : PySem.W.codeIn K cd10 "_law_same" = true) (k10 : PySem.W.keepIn K (.ref f10) = true)
    (a11 : PySem.W.nsIn K mainGlobals "corrected" = some (some (.ref f11))) (l11 : K.lookup f11 = some ⟨oc11, od11, .func (PySem.W.fnOf "corrected" "corrected" (defArgs s_corrected) (defBody s_corrected) (defScope s_corrected) .none kV11 dc11 pm11 an11 cd11 ct11), sl11⟩) (c11 : PySem.W.codeIn K cd11 "corrected" = true) (k11 : PySem.W.keepIn K (.ref f11) = true)
    (a12 : PySem.W.nsIn K mainGlobals "all_corrected" = some (some (.ref f12))) (l12 : K.lookup f12 = some ⟨oc12, od12, .func (PySem.W.fnOf "all_corrected" "all_corrected" (defArgs s_all_corrected) (defBody s_all_corrected) (defScope s_all_corrected) .none kV12 dc12 pm12 an12 cd12 ct12), sl12⟩) (c12 : PySem.W.codeIn K cd12 "all_corrected" = true) (k12 : PySem.W.keepIn K (.ref f12) = true)
    (a13 : PySem.W.nsIn K mainGlobals "crossed" = some (some (.ref f13))) (l13 : K.lookup f13 = some ⟨oc13, od13, .func (PySem.W.fnOf "crossed" "crossed" (defArgs s_crossed) (defBody s_crossed) (defScope s_crossed) .none kV13 dc13 pm13 an13 cd13 ct13), sl13⟩) (c13 : PySem.W.codeIn K cd13 "crossed" = true) (k13 : PySem.W.keepIn K (.ref f13) = true)
    (a14 : PySem.W.nsIn K mainGlobals "both_readers" = some (some (.ref f14))) (l14 : K.lookup f14 = some ⟨oc14, od14, .func (PySem.W.fnOf "both_readers" "both_readers" (defArgs s_both_readers) (defBody s_both_readers) (defScope s_both_readers) .none kV14 dc14 pm14 an14 cd14 ct14), sl14⟩) (c14 : PySem.W.codeIn K cd14 "both_readers" = true) (k14 : PySem.W.keepIn K (.ref f14) = true)
    (a15 : PySem.W.nsIn K mainGlobals "law" = some (some (.ref f15))) (l15 : K.lookup f15 = some ⟨oc15, od15, .func (PySem.W.fnOf "law" "law" (defArgs s_law) (defBody s_law) (defScope s_law) .none kV15 dc15 pm15 an15 cd15 ct15), sl15⟩) (c15 : PySem.W.codeIn K cd15 "law" = true) (k15 : PySem.W.keepIn K (.ref f15) = true)
    (zbool : PySem.W.nsIn K mainGlobals "bool" = some none) (zint : PySem.W.nsIn K mainGlobals "int" = some none) (zisinstance : PySem.W.nsIn K mainGlobals "isinstance" = some none) (zlen : PySem.W.nsIn K mainGlobals "len" = some none) (zlist : PySem.W.nsIn K mainGlobals "list" = some none) (zmax : PySem.W.nsIn K mainGlobals "max" = some none) (zmin : PySem.W.nsIn K mainGlobals "min" = some none) (zrange : PySem.W.nsIn K mainGlobals "range" = some none) (zstr : PySem.W.nsIn K mainGlobals "str" = some none) (ztuple : PySem.W.nsIn K mainGlobals "tuple" = some none)
    (math : ∀ ns : List Int, ns.length ≤ 63 → m_law ns = some (.bool true)) :
    ∃ fd : FuncData, (∀ (s : Shared) (v : Value), BindsTo s fd ⟨[v], []⟩ [("script", v)]) ∧ ∀ base : Heap, K.In base → base.Ns mainGlobals mg → FnOk l.prog w K mg base CX0 144 fa fd ["script"] (spLaw K) := by
  have e := hfa.symm.trans (PySem.W.mg_of X G a15)
  cases e
  let U : Tops K mg := { a_moved_put := f0, d_moved_put := _, F_moved_put := fun_mk (st := s_moved_put) l0 c0 k0, g_moved_put := PySem.W.mg_of X G a0, a_moved_take := f1, d_moved_take := _, F_moved_take := fun_mk (st := s_moved_take) l1 c1 k1, g_moved_take := PySem.W.mg_of X G a1, a_moved := f2, d_moved := _, F_moved := fun_mk (st := s_moved) l2 c2 k2, g_moved := PySem.W.mg_of X G a2, a_law_behind := f3, d_law_behind := _, F_law_behind := fun_mk (st := s_law_behind) l3 c3 k3, g_law_behind := PySem.W.mg_of X G a3, a_law_done := f4, d_law_done := _, F_law_done := fun_mk (st := s_law_done) l4 c4 k4, g_law_done := PySem.W.mg_of X G a4, a_law_spread := f5, d_law_spread := _, F_law_spread := fun_mk (st := s_law_spread) l5 c5 k5, g_law_spread := PySem.W.mg_of X G a5, a_law_draw := f6, d_law_draw := _, F_law_draw := fun_mk (st := s_law_draw) l6 c6 k6, g_law_draw := PySem.W.mg_of X G a6, a_law_pool := f7, d_law_pool := _, F_law_pool := fun_mk (st := s_law_pool) l7 c7 k7, g_law_pool := PySem.W.mg_of X G a7, a_law_correction := f8, d_law_correction := _, F_law_correction := fun_mk (st := s_law_correction) l8 c8 k8, g_law_correction := PySem.W.mg_of X G a8, a_law_row := f9, d_law_row := _, F_law_row := fun_mk (st := s_law_row) l9 c9 k9, g_law_row := PySem.W.mg_of X G a9, a_law_same := f10, d_law_same := _, F_law_same := fun_mk (st := s_law_same) l10 c10 k10, g_law_same := PySem.W.mg_of X G a10, a_corrected := f11, d_corrected := _, F_corrected := fun_mk (st := s_corrected) l11 c11 k11, g_corrected := PySem.W.mg_of X G a11, a_all_corrected := f12, d_all_corrected := _, F_all_corrected := fun_mk (st := s_all_corrected) l12 c12 k12, g_all_corrected := PySem.W.mg_of X G a12, a_crossed := f13, d_crossed := _, F_crossed := fun_mk (st := s_crossed) l13 c13 k13, g_crossed := PySem.W.mg_of X G a13, a_both_readers := f14, d_both_readers := _, F_both_readers := fun_mk (st := s_both_readers) l14 c14 k14, g_both_readers := PySem.W.mg_of X G a14, a_law := fa, d_law := _, F_law := fun_mk (st := s_law) l15 c15 k15, g_law := PySem.W.mg_of X G a15, z_bool := PySem.W.mg_none_of X G zbool, z_int := PySem.W.mg_none_of X G zint, z_isinstance := PySem.W.mg_none_of X G zisinstance, z_len := PySem.W.mg_none_of X G zlen, z_list := PySem.W.mg_none_of X G zlist, z_max := PySem.W.mg_none_of X G zmax, z_min := PySem.W.mg_none_of X G zmin, z_range := PySem.W.mg_none_of X G zrange, z_str := PySem.W.mg_none_of X G zstr, z_tuple := PySem.W.mg_none_of X G ztuple }
  exact ⟨U.d_law, fun s v => .of_eq rfl, fun base _ _ => ok_law U math⟩

end K80
open PySem PySem.W PyProof.Rows
set_option maxRecDepth 100000 in
set_option maxHeartbeats 0 in
theorem PySem.Challenge.cw_foliohouse_k80_whole_rows_of_two_readers_holds : PySem.Challenge.rw_foliohouse_k80_whole_rows_of_two_readers.Holds := by
  w_on; o_law; k_head; (case hw => w_witness2)
  k_fill
  refine L2.walk_of (l := PySem.Challenge.rw_foliohouse_k80_whole_rows_of_two_readers) (n := 63) (k := 144) (x := "script") (CX := fun _ => L2.CX0) (sp := fun w => DL.spLaw _) rfl (by decide) rfl ⟨rfl, by decide, by decide⟩ (fun w h Y => PySem.W.kIn_of Y) ?F (fun _ _ a ns hl _ hS => ⟨a, ns, rfl, hS, hl, fun _ => rfl⟩) (fun _ _ _ _ _ h => h)
  case F =>
    intro w mg fa h KX G hmg
    refine' K80.all_mk KX G hmg ?a0 ?l0 ?c0 ?k0 ?a1 ?l1 ?c1 ?k1 ?a2 ?l2 ?c2 ?k2 ?a3 ?l3 ?c3 ?k3 ?a4 ?l4 ?c4 ?k4 ?a5 ?l5 ?c5 ?k5 ?a6 ?l6 ?c6 ?k6 ?a7 ?l7 ?c7 ?k7 ?a8 ?l8 ?c8 ?k8 ?a9 ?l9 ?c9 ?k9 ?a10 ?l10 ?c10 ?k10 ?a11 ?l11 ?c11 ?k11 ?a12 ?l12 ?c12 ?k12 ?a13 ?l13 ?c13 ?k13 ?a14 ?l14 ?c14 ?k14 ?a15 ?l15 ?c15 ?k15 ?zbool ?zint ?zisinstance ?zlen ?zlist ?zmax ?zmin ?zrange ?zstr ?ztuple K80.math
    (case a0 => k_is)
    (case l0 => k_is)
    (case c0 => k_is)
    (case k0 => k_is)
    (case a1 => k_is)
    (case l1 => k_is)
    (case c1 => k_is)
    (case k1 => k_is)
    (case a2 => k_is)
    (case l2 => k_is)
    (case c2 => k_is)
    (case k2 => k_is)
    (case a3 => k_is)
    (case l3 => k_is)
    (case c3 => k_is)
    (case k3 => k_is)
    (case a4 => k_is)
    (case l4 => k_is)
    (case c4 => k_is)
    (case k4 => k_is)
    (case a5 => k_is)
    (case l5 => k_is)
    (case c5 => k_is)
    (case k5 => k_is)
    (case a6 => k_is)
    (case l6 => k_is)
    (case c6 => k_is)
    (case k6 => k_is)
    (case a7 => k_is)
    (case l7 => k_is)
    (case c7 => k_is)
    (case k7 => k_is)
    (case a8 => k_is)
    (case l8 => k_is)
    (case c8 => k_is)
    (case k8 => k_is)
    (case a9 => k_is)
    (case l9 => k_is)
    (case c9 => k_is)
    (case k9 => k_is)
    (case a10 => k_is)
    (case l10 => k_is)
    (case c10 => k_is)
    (case k10 => k_is)
    (case a11 => k_is)
    (case l11 => k_is)
    (case c11 => k_is)
    (case k11 => k_is)
    (case a12 => k_is)
    (case l12 => k_is)
    (case c12 => k_is)
    (case k12 => k_is)
    (case a13 => k_is)
    (case l13 => k_is)
    (case c13 => k_is)
    (case k13 => k_is)
    (case a14 => k_is)
    (case l14 => k_is)
    (case c14 => k_is)
    (case k14 => k_is)
    (case a15 => k_is)
    (case l15 => k_is)
    (case c15 => k_is)
    (case k15 => k_is)
    (case zbool => k_is)
    (case zint => k_is)
    (case zisinstance => k_is)
    (case zlen => k_is)
    (case zlist => k_is)
    (case zmax => k_is)
    (case zmin => k_is)
    (case zrange => k_is)
    (case zstr => k_is)
    (case ztuple => k_is)
