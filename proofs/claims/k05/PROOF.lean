import PyProof.Rows.All
import Wide.All
import OpenK.AllK
import Wide.FinOn
import HandS.Base
import HandS.Call
import HandS.List
import HandS.Text
import HandS.Exc
import HandS.Words
import HandS.WordsExc
import HandS.ExcOwn
import HandS.HeadHook1
import HandS.Wide
import HandS.IsInst
import HandS.Style
import HandS.Iter
import HandS.TupAny
import HandS.Deep
import HandS.Comp
import HandS.ForMost
import HandS.Defaults
import KE.GoesComp
import KE.GoesRaise
import HandS.TryOnly
import HandS.Flow
import HandS.TryMany
import HandS.ExcInit
import HandS.ExcField
import HandS.WideBits
import HandS.ClsMeth
import HandS.EndOwn
import HandS.HeadEnd
import HandS.Head0
import HandS.Head1
import HandS.Head2
import HandS.HeadHook2
import KE.KStateDown
import HandS.Ends
import HandS.More
import PySem.Challenge.RW_roundonce_k05_whole_values_and_their_ste
set_option Elab.async false
set_option linter.all false
set_option maxRecDepth 100000
/-! PV1: deep values, the small language, its evaluator in plain Lean. -/
namespace PV
open PySem

/-- a value, all of it -/
inductive D where
  | non | bl (b : Bool) | int (i : Int) | str (x : Str)
  | tup (xs : List D) | lst (xs : List D)
  | dic (ks vs : List D)
  | dr
  | scr (ns : List Int)
  | fn (x : Str) | clo (k : Nat) (fv : List D)
  | xc (c : Nat) (xs : List D)
  deriving Inhabited

/-- the draws' state: made or not, the script, the place, the great number, the seed -/
structure DS where
  on : Bool := false
  cells : List Int := []
  pos : Nat := 0
  big : Int := 0
  seed : Int := 1
  deriving Inhabited

structure Exc where
  cls : Nat
  args : List D

inductive Res (α : Type) where
  | ok (a : α) (s : DS)
  | ex (e : Exc) (s : DS)

abbrev M (α : Type) := DS → Option (Res α)
def ret {α : Type} (a : α) : M α := fun s => some (.ok a s)
def bind {α β : Type} (m : M α) (f : α → M β) : M β := fun s => match m s with
  | none => none
  | some (.ok a s1) => f a s1
  | some (.ex e s1) => some (.ex e s1)
def stuck {α : Type} : M α := fun _ => none
def lift {α : Type} : Option α → M α
  | some a => ret a
  | none => stuck
def raise {α : Type} (e : Exc) : M α := fun s => some (.ex e s)

theorem bind_none {α β : Type} {m : M α} {f : α → M β} {s : DS} (h : m s = none) : bind m f s = none := by unfold bind; rw [h]
theorem bind_ok {α β : Type} {m : M α} {f : α → M β} {s s1 : DS} {a : α} (h : m s = some (.ok a s1)) : bind m f s = f a s1 := by unfold bind; rw [h]
theorem bind_ex {α β : Type} {m : M α} {f : α → M β} {s s1 : DS} {e : Exc} (h : m s = some (.ex e s1)) : bind m f s = some (.ex e s1) := by unfold bind; rw [h]
theorem bind_assoc {α β γ : Type} (m : M α) (f : α → M β) (g : β → M γ) : bind (bind m f) g = bind m fun a => bind (f a) g := by
  funext s
  unfold bind
  cases m s with
  | none => rfl
  | some r => cases r <;> rfl
theorem ret_bind {α β : Type} (a : α) (f : α → M β) : bind (ret a) f = f a := rfl
theorem bind_ret {α : Type} (m : M α) : bind m ret = m := by
  funext s
  unfold bind
  cases m s with
  | none => rfl
  | some r => cases r <;> rfl
theorem lift_some {α : Type} (a : α) : lift (some a) = ret a := rfl
theorem stuck_bind {α β : Type} (f : α → M β) : bind (stuck : M α) f = stuck := rfl
theorem raise_bind {α β : Type} (e : Exc) (f : α → M β) : bind (raise e : M α) f = raise e := rfl

inductive Slot where
  | u | v (d : D) | o (xs : List D) | x (e : Exc)
  deriving Inhabited
abbrev Rho := List Slot

inductive Bop where
  | add | sub | mul | fdiv | mod | pow | shl
  deriving DecidableEq
inductive Cop where
  | eq | ne | lt | le | gt | ge | is | isnot | in_ | notin
  deriving DecidableEq
inductive Ty where
  | int | bool | str | tuple | list | dict
  deriving DecidableEq
inductive Blt where
  | len | abs | int | str | list | tuple | all | any
  deriving DecidableEq
inductive Mth where
  | split | bitlen
  deriving DecidableEq
/-- a target: one name, or a tuple of names -/
inductive T where
  | one (i : Nat) | tup (is : List Nat)

inductive E where
  | c (d : D)
  | var (i : Nat)
  | bor (i : Nat)
  | tup (es : List E)
  | lst (es : List E)
  | bin (o : Bop) (a b : E)
  | neg (a : E)
  | not (a : E)
  | and (a b : E)
  | or (a b : E)
  | ifx (c a b : E)
  | cmp (o : Cop) (a b : E)
  | chain (o o' : Cop) (a b c : E)
  | chain3 (o o' o'' : Cop) (a b c d : E)
  | call (k : Nat) (es : List E) (ds : List D)
  | blt (b : Blt) (a : E)
  | max (a b : E)
  | min (a b : E)
  | isin (t : Ty) (a : E)
  | idx (a i : E)
  | slc (a lo hi : E)
  | rev (a : E)
  | rng1 (a : E)
  | rng2 (a b : E)
  | comp (own : List Nat) (t : T) (it cd e : E)
  | mth (m : Mth) (a : E) (es : List E)
  | xfld (i : Nat) (k : Nat) (j : Nat)
  | cloc (i : Nat) (tab : List (Str × Nat)) (es : List E)

inductive S where
  | asg (i : Nat) (e : E)
  | aug (i : Nat) (o : Bop) (e : E)
  | own (i : Nat) (e : E)
  | unp (is : List Nat) (e : E)
  | exp (e : E)
  | app (i : Nat) (e : E)
  | put (i : Nat) (j e : E)
  | ifs (c : E) (a b : List S)
  | whl (c : E) (b : List S)
  | for_ (t : T) (it : E) (b : List S)
  | ret (e : E)
  | rais (c : Nat) (es : List E)
  | try_ (b : List S) (cs : List Nat) (slot : Option Nat) (h : List S)
  | pass | brk | cnt
  | frz (is : List Nat)

/-! ### values as data, equality -/
mutual
def D.pd : D → Option PyData
  | .non => some .none
  | .bl b => some (.bool b)
  | .int i => some (.int i)
  | .str x => some (.str x)
  | .tup xs => (pdAll xs).map .tuple
  | .lst xs => (pdAll xs).map .list
  | _ => none
def pdAll : List D → Option (List PyData)
  | [] => some []
  | x :: xs => match x.pd, pdAll xs with
    | some p, some ps => some (p :: ps)
    | _, _ => none
end
def eqD (a b : D) : Option Bool := match a, b with
  | .str x, .str y => some (decide (x = y))
  | .int x, .int y => some (decide (x = y))
  | a, b => match a.pd, b.pd with
    | some p, some q => if SeqAt.shaped p && SeqAt.shaped q then some (PyData.eqv p q) else none
    | _, _ => none
def inL (x : D) (ys : List D) : Option Bool := match x.pd, pdAll ys with
  | some p, some qs => if SeqAt.shaped p && SeqAt.shaped (.list qs) then some (qs.any fun q => PyData.eqv q p) else none
  | _, _ => none
def isNon : D → Bool
  | .non => true
  | _ => false
def isD : D → D → Option Bool
  | x, .non => some (isNon x)
  | .bl a, .bl b => some (decide (a = b))
  | _, _ => none
def ltD (p : Int → Int → Bool) : D → D → Option Bool
  | .int i, .int j => some (p i j)
  | _, _ => none
def inD : D → D → Option Bool
  | x, .lst ys => inL x ys
  | x, .tup ys => inL x ys
  | .str x, .str z => (match x.cps.toList with
    | [c] => some (decide (c ∈ z.cps.toList))
    | _ => none)
  | _, _ => none
def cmpD : Cop → D → D → Option Bool
  | .eq => eqD
  | .ne => fun x y => (eqD x y).map (!·)
  | .lt => ltD fun i j => decide (i < j)
  | .le => ltD fun i j => decide (i ≤ j)
  | .gt => ltD fun i j => decide (j < i)
  | .ge => ltD fun i j => decide (j ≤ i)
  | .is => isD
  | .isnot => fun x y => (isD x y).map (!·)
  | .in_ => inD
  | .notin => fun x y => (inD x y).map (!·)

/-! ### arithmetic -/
def mulOk (i j : Int) : Bool := decide (i.natAbs.log2 + j.natAbs.log2 < 1000000)
def divOk (j : Int) : Bool := decide (j ≠ 0) && decide (j.natAbs.log2 < 9000)
def powOk (i j : Int) : Bool := decide (0 ≤ j) && decide (j ≤ 1000000) && decide (i.natAbs < 2 ^ 64)
def addD : D → D → Option D
  | .int i, .int j => some (.int (i + j))
  | .str a, .str b => if a.length + b.length ≤ sizeLine then some (.str (a ++ b)) else none
  | .tup xs, .tup ys => if xs.length + ys.length ≤ sizeLine then some (.tup (xs ++ ys)) else none
  | .lst xs, .lst ys => if xs.length + ys.length ≤ sizeLine then some (.lst (xs ++ ys)) else none
  | _, _ => none
def subD : D → D → Option D
  | .int i, .int j => some (.int (i - j))
  | _, _ => none
def mulD : D → D → Option D
  | .int i, .int j => if mulOk i j then some (.int (i * j)) else none
  | .lst xs, .int k => if xs.length * k.toNat ≤ sizeLine ∧ -(2 ^ 63) ≤ k ∧ k < 2 ^ 63 then some (.lst (List.replicate k.toNat xs).flatten) else none
  | _, _ => none
def fdivD : D → D → Option D
  | .int i, .int j => if divOk j then some (.int (i.fdiv j)) else none
  | _, _ => none
def modD : D → D → Option D
  | .int i, .int j => if j ≠ 0 then some (.int (i.fmod j)) else none
  | _, _ => none
def powD : D → D → Option D
  | .int i, .int j => if powOk i j then some (.int (i ^ j.toNat)) else none
  | _, _ => none
def shlD : D → D → Option D
  | .int i, .int j => if powOk i j then some (.int (i * 2 ^ j.toNat)) else none
  | _, _ => none
def binD : Bop → D → D → Option D
  | .add => addD
  | .sub => subD
  | .mul => mulD
  | .fdiv => fdivD
  | .mod => modD
  | .pow => powD
  | .shl => shlD
/-- name op= value: not of lists -/
def augD : Bop → D → D → Option D
  | .add => fun x y => match x, y with
    | .int i, .int j => some (.int (i + j))
    | .str a, .str b => if a.length + b.length ≤ sizeLine then some (.str (a ++ b)) else none
    | _, _ => none
  | .sub => subD
  | .mul => fun x y => match x, y with
    | .int i, .int j => if mulOk i j then some (.int (i * j)) else none
    | _, _ => none
  | .fdiv => fdivD
  | _ => fun _ _ => none
def negD : D → Option D
  | .int i => some (.int (-i))
  | _ => none
def idxD (a i : D) : Option D := match a, i with
  | .lst xs, .int j => L2.atI xs j
  | .tup xs, .int j => L2.atI xs j
  | .str z, .int j => if z.length ≤ sizeLine then (L2.atI z.cps.toList j).map fun c => .str ⟨#[c]⟩ else none
  | _, _ => none
/-- a slice's part: absent, or an int -/
def absE : E → Bool
  | .c .non => true
  | _ => false
def partD (ab : Bool) : D → Option (Option Int)
  | .int i => if ab then none else some (some i)
  | _ => if ab then some none else none
def cutD (xs : List D) (lo hi : Option Int) : List D := (xs.drop (HT.sIx xs.length 0 lo)).take (HT.sIx xs.length xs.length hi - HT.sIx xs.length 0 lo)
def slcD (a : D) (l h : Option Int) : Option D := match a with
  | .lst xs => some (.lst (cutD xs l h))
  | .tup xs => some (.tup (cutD xs l h))
  | .str z => if z.length ≤ sizeLine then some (.str (L2.cutS z l h)) else none
  | _ => none
def revD : D → Option D
  | .lst xs => some (.lst xs.reverse)
  | _ => none
def isIn : Ty → D → Option Bool
  | t, .non => some false
  | t, .bl _ => some (match t with | .int => true | .bool => true | _ => false)
  | t, .int _ => some (match t with | .int => true | _ => false)
  | t, .str _ => some (match t with | .str => true | _ => false)
  | t, .tup _ => some (match t with | .tuple => true | _ => false)
  | t, .lst _ => some (match t with | .list => true | _ => false)
  | _, _ => none
def bools : List D → Option (List Bool)
  | [] => some []
  | .bl b :: r => (bools r).map (b :: ·)
  | _ => none
def bltD : Blt → D → Option D
  | .len => fun x => match x with
    | .lst ys => some (.int ys.length)
    | .tup ys => some (.int ys.length)
    | .str z => if z.length ≤ sizeLine then some (.int z.length) else none
    | _ => none
  | .abs => fun x => match x with
    | .int i => some (.int (if i < 0 then -i else i))
    | _ => none
  | .int => fun x => match x with
    | .int i => some (.int i)
    | .bl k => some (.int (if k then 1 else 0))
    | .str a => if a.length ≤ 640 then (PySem.intText? a).map .int else none
    | _ => none
  | .str => fun x => match x with
    | .int i => if i.natAbs.log2 < 1920 then some (.str (PySem.Str.ofString (toString i))) else none
    | _ => none
  | .list => fun x => match x with
    | .lst ys => some (.lst ys)
    | .tup ys => some (.lst ys)
    | _ => none
  | .tuple => fun x => match x with
    | .lst ys => some (.tup ys)
    | .tup ys => some (.tup ys)
    | _ => none
  | .all => fun x => match x with
    | .lst ys => (bools ys).map fun bs => .bl (bs.all id)
    | _ => none
  | .any => fun x => match x with
    | .lst ys => (bools ys).map fun bs => .bl (bs.any id)
    | _ => none
def maxD : D → D → Option D
  | .int i, .int j => some (.int (if j > i then j else i))
  | _, _ => none
def minD : D → D → Option D
  | .int i, .int j => some (.int (if j < i then j else i))
  | _, _ => none
def smallI (i : Int) : Bool := decide (-(2 ^ 62) ≤ i) && decide (i < 2 ^ 62)
/-- the ints of a range, upward or downward -/
def rangeL (a : Int) (c : Int) (n : Nat) : List D := (List.range n).map fun (k : Nat) => .int (a + (k : Int) * c)
def rng1D : D → Option (List D)
  | .int b => if smallI b then some (rangeL 0 1 b.toNat) else none
  | _ => none
def rng2D : D → D → Option (List D)
  | .int a, .int b => if smallI a && smallI b then some (rangeL a 1 (b - a).toNat) else none
  | _, _ => none
def mthOk : Mth → D → Bool
  | .split, .str _ => true
  | .bitlen, .int _ => true
  | _, _ => false
def mthD (m : Mth) (x : D) (xs : List D) : Option D := match m, x, xs with
  | .split, .str a, [.str b] => if (b.length == 0) = false ∧ a.length + 2 ≤ sizeLine then some (.lst ((PySem.Txt.split a b).map .str)) else none
  | .bitlen, .int i, [] => some (.int (Builtin.Int.intBits i : Nat))
  | _, _, _ => none
/-- what is walked -/
def items : D → Option (List D)
  | .lst xs => some xs
  | .tup xs => some xs
  | .str z => some (z.cps.toList.map fun c => .str ⟨#[c]⟩)
  | _ => none

/-! ### names -/
def getV (ρ : Rho) (i : Nat) : Option D := match ρ[i]? with
  | some (.v d) => some d
  | _ => none
def getB (ρ : Rho) (i : Nat) : Option D := match ρ[i]? with
  | some (.v d) => some d
  | some (.o xs) => some (.lst xs)
  | _ => none
def wipe (ρ : Rho) : List Nat → Rho
  | [] => ρ
  | v :: vs => (wipe ρ vs).set v .u
def setAll : List Nat → List D → Rho → Option Rho
  | [], [], ρ => some ρ
  | i :: is, d :: ds, ρ => setAll is ds (ρ.set i (.v d))
  | _, _, _ => none
def setT (t : T) (d : D) (ρ : Rho) : Option Rho := match t with
  | .one i => some (ρ.set i (.v d))
  | .tup is => (match d with
    | .tup ds => setAll is ds ρ
    | .lst ds => setAll is ds ρ
    | _ => none)
def freeze (ρ : Rho) : List Nat → Rho
  | [] => ρ
  | i :: is => freeze (match ρ[i]? with
    | some (.o xs) => ρ.set i (.v (.lst xs))
    | _ => ρ) is

abbrev FE := Nat → List D → M D

def consO {α : Type} : Option α → List α → List α
  | some a, ys => a :: ys
  | none, ys => ys
def mapL {α : Type} (f : D → M (Option α)) : List D → M (List α)
  | [] => ret []
  | x :: xs => bind (f x) fun y => bind (mapL f xs) fun ys => ret (consO y ys)

def toB : D → M Bool
  | .bl b => ret b
  | _ => stuck

mutual
def evE (fe : FE) : E → Rho → M D
  | .c d, _ => ret d
  | .var i, ρ => lift (getV ρ i)
  | .bor i, ρ => lift (getB ρ i)
  | .tup es, ρ => bind (evL fe es ρ) fun xs => if xs.length ≤ sizeLine then ret (.tup xs) else stuck
  | .lst es, ρ => bind (evL fe es ρ) fun xs => if xs.length ≤ sizeLine then ret (.lst xs) else stuck
  | .bin o a b, ρ => bind (evE fe a ρ) fun x => bind (evE fe b ρ) fun y => lift (binD o x y)
  | .neg a, ρ => bind (evE fe a ρ) fun x => lift (negD x)
  | .not a, ρ => bind (evE fe a ρ) fun x => bind (toB x) fun b => ret (.bl (!b))
  | .and a b, ρ => bind (evE fe a ρ) fun x => bind (toB x) fun k => if k = true then evE fe b ρ else ret (.bl false)
  | .or a b, ρ => bind (evE fe a ρ) fun x => bind (toB x) fun k => if k = true then ret (.bl true) else evE fe b ρ
  | .ifx c a b, ρ => bind (evE fe c ρ) fun x => bind (toB x) fun k => if k = true then evE fe a ρ else evE fe b ρ
  | .cmp o a b, ρ => bind (evE fe a ρ) fun x => bind (evE fe b ρ) fun y => bind (lift (cmpD o x y)) fun k => ret (.bl k)
  | .chain o o' a b c, ρ => bind (evE fe a ρ) fun x => bind (evE fe b ρ) fun y => bind (lift (cmpD o x y)) fun k =>
      if k = true then bind (evE fe c ρ) fun z => bind (lift (cmpD o' y z)) fun k' => ret (.bl k') else ret (.bl false)
  | .chain3 o o' o'' a b c d, ρ => bind (evE fe a ρ) fun x => bind (evE fe b ρ) fun y => bind (lift (cmpD o x y)) fun k =>
      if k = true then bind (evE fe c ρ) fun z => bind (lift (cmpD o' y z)) fun k' =>
        if k' = true then bind (evE fe d ρ) fun u => bind (lift (cmpD o'' z u)) fun k'' => ret (.bl k'') else ret (.bl false) else ret (.bl false)
  | .call k es ds, ρ => bind (evL fe es ρ) fun xs => fe k (xs ++ ds)
  | .blt b a, ρ => bind (evE fe a ρ) fun x => lift (bltD b x)
  | .max a b, ρ => bind (evE fe a ρ) fun x => bind (evE fe b ρ) fun y => lift (maxD x y)
  | .min a b, ρ => bind (evE fe a ρ) fun x => bind (evE fe b ρ) fun y => lift (minD x y)
  | .isin t a, ρ => bind (evE fe a ρ) fun x => bind (lift (isIn t x)) fun b => ret (.bl b)
  | .idx a i, ρ => bind (evE fe a ρ) fun x => bind (evE fe i ρ) fun y => lift (idxD x y)
  | .slc a lo hi, ρ => bind (evE fe a ρ) fun x => bind (bind (evE fe lo ρ) fun l => lift (partD (absE lo) l)) fun l => bind (bind (evE fe hi ρ) fun h => lift (partD (absE hi) h)) fun h => lift (slcD x l h)
  | .rev a, ρ => bind (evE fe a ρ) fun x => lift (revD x)
  | .rng1 a, ρ => bind (evE fe a ρ) fun x => bind (lift (rng1D x)) fun ys => ret (.lst ys)
  | .rng2 a b, ρ => bind (evE fe a ρ) fun x => bind (evE fe b ρ) fun y => bind (lift (rng2D x y)) fun ys => ret (.lst ys)
  | .comp own t it cd e, ρ => bind (bind (evE fe it ρ) fun x => lift (items x)) fun xs =>
      if xs.length ≤ sizeLine then bind (mapL (fun x => bind (lift (setT t x (wipe ρ own))) fun ρ2 => bind (evE fe cd ρ2) fun b => bind (toB b) fun k =>
        if k = true then bind (evE fe e ρ2) fun y => ret (some y) else ret none) xs) fun ys => ret (.lst ys) else stuck
  | .mth m a es, ρ => bind (evE fe a ρ) fun x => if mthOk m x = true then bind (evL fe es ρ) fun xs => lift (mthD m x xs) else stuck
  | .xfld i k j, ρ => lift (match ρ[i]? with
    | some (.x e) => if e.cls = k then e.args[j]? else none
    | _ => none)
  | .cloc i tab es, ρ => match getV ρ i with
    | some (.fn y) => (match tab.lookup y with
      | some k => bind (evL fe es ρ) fun xs => fe k (xs ++ [])
      | none => stuck)
    | some (.clo k fv) => bind (evL fe es ρ) fun xs => fe k (xs ++ fv)
    | _ => stuck
def evL (fe : FE) : List E → Rho → M (List D)
  | [], _ => ret []
  | e :: es, ρ => bind (evE fe e ρ) fun x => bind (evL fe es ρ) fun xs => ret (x :: xs)
end

/-- a statement's end: on, handed back, break, continue, an exception -/
inductive Fl where
  | nx (ρ : Rho) | rt (d : D) | bk (ρ : Rho) | ct (ρ : Rho) | er (e : Exc) (ρ : Rho)
abbrev MS := DS → Option (Fl × DS)
def retS (f : Fl) : MS := fun s => some (f, s)
def stuckS : MS := fun _ => none
/-- an expression's value, then on; its exception leaves here -/
def bindE {α : Type} (m : M α) (ρ : Rho) (k : α → MS) : MS := fun s => match m s with
  | none => none
  | some (.ok a s1) => k a s1
  | some (.ex e s1) => some (.er e ρ, s1)
def liftS {α : Type} (o : Option α) (k : α → MS) : MS := match o with
  | some a => k a
  | none => stuckS

def whileM (c : Rho → M Bool) (b : Rho → MS) (ρ : Rho) (s : DS) : Option (Fl × DS) :=
  match c ρ s with
  | none => none
  | some (.ex e s1) => some (.er e ρ, s1)
  | some (.ok false s1) => some (.nx ρ, s1)
  | some (.ok true s1) => match b ρ s1 with
    | none => none
    | some (.nx ρ', s2) => whileM c b ρ' s2
    | some (.ct ρ', s2) => whileM c b ρ' s2
    | some (.bk ρ', s2) => some (.nx ρ', s2)
    | some (.rt d, s2) => some (.rt d, s2)
    | some (.er e ρ', s2) => some (.er e ρ', s2)
partial_fixpoint

def forM (t : T) (b : Rho → MS) : List D → Rho → MS
  | [], ρ => retS (.nx ρ)
  | x :: xs, ρ => liftS (setT t x ρ) fun ρ1 => fun s => match b ρ1 s with
    | none => none
    | some (.nx ρ2, s2) => forM t b xs ρ2 s2
    | some (.ct ρ2, s2) => forM t b xs ρ2 s2
    | some (.bk ρ2, s2) => some (.nx ρ2, s2)
    | some (.rt d, s2) => some (.rt d, s2)
    | some (.er e ρ2, s2) => some (.er e ρ2, s2)

/-- which class is under which -/
abbrev Sub := Nat → Nat → Bool
def noX : Slot → Slot
  | .x _ => .u
  | z => z
def offS (i : Option Nat) (ρ : Rho) : Rho := match i with
  | some i => (ρ.set i .u).map noX
  | none => ρ
def onS (i : Option Nat) (e : Exc) (ρ : Rho) : Rho := match i with
  | some i => ρ.set i (.x e)
  | none => ρ
/-- a clause's suite's end -/
def offF (i : Option Nat) : Option (Fl × DS) → Option (Fl × DS)
  | none => none
  | some (.nx ρ2, s2) => some (.nx (offS i ρ2), s2)
  | some (.bk ρ2, s2) => some (.bk (offS i ρ2), s2)
  | some (.ct ρ2, s2) => some (.ct (offS i ρ2), s2)
  | some (.rt d, s2) => some (.rt d, s2)
  | some (.er _ _, _) => none

mutual
def evS (sub : Sub) (fe : FE) : S → Rho → MS
  | .asg i e, ρ => bindE (evE fe e ρ) ρ fun d => retS (.nx (ρ.set i (.v d)))
  | .aug i o e, ρ => bindE (bind (lift (getV ρ i)) fun x => bind (evE fe e ρ) fun y => lift (augD o x y)) ρ fun d => retS (.nx (ρ.set i (.v d)))
  | .own i e, ρ => bindE (evE fe e ρ) ρ fun d => match d with
    | .lst xs => retS (.nx (ρ.set i (.o xs)))
    | _ => stuckS
  | .unp is e, ρ => bindE (evE fe e ρ) ρ fun d => liftS (setT (.tup is) d ρ) fun ρ' => retS (.nx ρ')
  | .exp e, ρ => bindE (evE fe e ρ) ρ fun _ => retS (.nx ρ)
  | .app i e, ρ => match ρ[i]? with
    | some (.o xs) => bindE (evE fe e ρ) ρ fun d => if xs.length < sizeLine then retS (.nx (ρ.set i (.o (xs ++ [d])))) else stuckS
    | _ => stuckS
  | .put i j e, ρ => match ρ[i]? with
    | some (.o xs) => bindE (evE fe e ρ) ρ fun d => bindE (evE fe j ρ) ρ fun y => match y with
      | .int n => (match L2.ixN xs.length n with
        | some k => retS (.nx (ρ.set i (.o (xs.set k d))))
        | none => stuckS)
      | _ => stuckS
    | _ => stuckS
  | .ifs c a b, ρ => bindE (bind (evE fe c ρ) toB) ρ fun k => if k = true then evSs sub fe a ρ else evSs sub fe b ρ
  | .whl c b, ρ => whileM (fun ρ => bind (evE fe c ρ) toB) (fun ρ => evSs sub fe b ρ) ρ
  | .for_ t it b, ρ => bindE (bind (evE fe it ρ) fun x => lift (items x)) ρ fun xs => forM t (fun ρ => evSs sub fe b ρ) xs ρ
  | .ret e, ρ => bindE (evE fe e ρ) ρ fun d => retS (.rt d)
  | .rais c es, ρ => bindE (evL fe es ρ) ρ fun xs => if xs.length = es.length then retS (.er ⟨c, xs⟩ ρ) else stuckS
  | .try_ b cs slot h, ρ => fun s => match evSs sub fe b ρ s with
    | none => none
    | some (.er e ρ1, s1) => if cs.any (fun c => sub e.cls c) then offF slot (evSs sub fe h (onS slot e ρ1) s1)
      else some (.er e ρ1, s1)
    | some (f, s1) => some (f, s1)
  | .pass, ρ => retS (.nx ρ)
  | .brk, ρ => retS (.bk ρ)
  | .cnt, ρ => retS (.ct ρ)
  | .frz is, ρ => retS (.nx (freeze ρ is))
def evSs (sub : Sub) (fe : FE) : List S → Rho → MS
  | [], ρ => retS (.nx ρ)
  | st :: r, ρ => fun s => match evS sub fe st ρ s with
    | none => none
    | some (.nx ρ', s1) => evSs sub fe r ρ' s1
    | some (f, s1) => some (f, s1)
end

/-! ### defs -/
structure Fn where
  np : Nat
  nl : Nat
  body : List S
inductive Prim where
  | draws | draw
inductive Df where
  | src (f : Fn) | prim (p : Prim)
def draw1 (s : DS) : DS := if s.big = 0 then (match s.cells[s.pos]? with
    | some c => { s with pos := s.pos + 1, big := if c ≥ 10 ^ 18 then c else s.big, seed := (s.seed * 48271 + c + 13) % 2147483647 }
    | none => s) else s
def draw2 (n : Int) (s1 : DS) : Int × DS := if s1.big > 0 then (s1.big % n, { s1 with big := s1.big / n })
  else ((s1.seed * 69621 + 7) % 2147483629 / 11 % n, { s1 with seed := (s1.seed * 69621 + 7) % 2147483629 })
def drawF (n : Int) (s : DS) : Int × DS := draw2 n (draw1 s)
def evPrim (p : Prim) (xs : List D) : M D := match p, xs with
  | .draws, [.scr ns] => fun s => if s.on then none else some (.ok .dr { on := true, cells := ns, pos := 0, big := 0, seed := 1 })
  | .draw, [.dr, .int n] => fun s => if s.on = true ∧ 0 < n ∧ n < 1073741824 ∧ 0 ≤ s.seed ∧ s.seed < 2147483648 then
      some (.ok (.int (drawF n s).1) (drawF n s).2) else none
  | _, _ => stuck
def runFl (m : MS) : M D := fun s => match m s with
  | some (.rt d, s1) => some (.ok d s1)
  | some (.nx _, s1) => some (.ok .non s1)
  | some (.er e _, s1) => some (.ex e s1)
  | _ => none
def start (f : Fn) (xs : List D) : Rho := xs.map .v ++ List.replicate (f.nl - f.np) .u
def evFn (sub : Sub) (fns : Nat → Option Df) : Nat → FE
  | 0 => fun _ _ => stuck
  | d + 1 => fun k xs => match fns k with
    | some (.src f) => if xs.length = f.np then runFl (evSs sub (evFn sub fns d) f.body (start f xs)) else stuck
    | some (.prim p) => evPrim p xs
    | none => stuck
end PV

set_option Elab.async false
set_option linter.all false
set_option maxRecDepth 100000
/-! PV2: how deep values lie in the abstract heap. -/
namespace PV
open PySem PySem.Spec PyProof.Rows L2

/-- ghosts: the lists that are never written any more, the draws' list -/
structure Wd where
  I : Addr → Prop
  A : Option Addr

/-- the script: known to the object, or an object of the module -/
def ScrAt (K : PySem.W.Frag) (H : Hp) (a : Addr) (ns : List Int) : Prop :=
  (∃ o, H a = some (.frz o (.lst (ns.map V.int)))) ∨ ∀ H', SqL K H' a (ns.map V.int)
theorem ScrAt.sq {K : PySem.W.Frag} {H : Hp} {a : Addr} {ns : List Int} (h : ScrAt K H a ns) : SqL K H a (ns.map V.int) := by
  rcases h with ⟨o, h⟩ | h
  · exact .inl (.inr ⟨o, h⟩)
  · exact h H
mutual
def Den (K : PySem.W.Frag) (W : Wd) (H : Hp) : D → V → Prop
  | .non, v => v = .non
  | .bl b, v => v = .bl b
  | .int i, v => v = .int i
  | .str x, v => v = .str x
  | .tup xs, v => ∃ a vs, v = .ref a ∧ SqT K H a vs ∧ DenL K W H xs vs
  | .lst xs, v => ∃ a vs, v = .ref a ∧ (W.I a ∧ H a = some (.lst vs)) ∧ DenL K W H xs vs
  | .scr ns, v => ∃ a, v = .ref a ∧ ScrAt K H a ns
  | .dr, v => ∃ a, v = .ref a ∧ W.A = some a
  | .fn x, v => v = .ref (He.ga K x)
  | _, _ => False
def DenL (K : PySem.W.Frag) (W : Wd) (H : Hp) : List D → List V → Prop
  | [], vs => vs = []
  | x :: xs, vs => ∃ v r, vs = v :: r ∧ Den K W H x v ∧ DenL K W H xs r
end

section
variable {K : PySem.W.Frag} {W W' W'' : Wd} {H H' H'' : Hp}

structure WOk (W : Wd) (H : Hp) : Prop where
  iS : ∀ a, W.I a → ∃ o, H a = some o
  aL : ∀ a, W.A = some a → (∃ l, H a = some (.lst l)) ∧ ¬ W.I a

/-- what evaluation leaves -/
structure Grow (W : Wd) (H : Hp) (W' : Wd) (H' : Hp) : Prop where
  iG : ∀ a, W.I a → W'.I a
  iN : ∀ a, W'.I a → W.I a ∨ H a = none
  aG : ∀ a, W.A = some a → W'.A = some a
  aN : ∀ a, W'.A = some a → W.A = some a ∨ H a = none
  keep : ∀ a o, H a = some o → W.A ≠ some a → H' a = some o
  there : ∀ a o, H a = some o → ∃ o', H' a = some o'

theorem Grow.refl (W : Wd) (H : Hp) : Grow W H W H :=
  ⟨fun _ h => h, fun _ h => .inl h, fun _ h => h, fun _ h => .inl h, fun _ _ h _ => h, fun _ o h => ⟨o, h⟩⟩
theorem Grow.gone (g : Grow W H W' H') {a : Addr} (h : H' a = none) : H a = none := by
  cases e : H a with
  | none => rfl
  | some o => obtain ⟨o', e'⟩ := g.there a o e; rw [h] at e'; cases e'
theorem Grow.trans (g : Grow W H W' H') (k : Grow W' H' W'' H'') : Grow W H W'' H'' where
  iG := fun a h => k.iG a (g.iG a h)
  iN := fun a h => by
    rcases k.iN a h with h | h
    · exact g.iN a h
    · exact .inr (g.gone h)
  aG := fun a h => k.aG a (g.aG a h)
  aN := fun a h => by
    rcases k.aN a h with h | h
    · exact g.aN a h
    · exact .inr (g.gone h)
  keep := fun a o h ha => by
    refine k.keep a o (g.keep a o h ha) fun z => ?_
    rcases g.aN a z with q | q
    · exact ha q
    · rw [h] at q; cases q
  there := fun a o h => by
    obtain ⟨o', e⟩ := g.there a o h
    exact k.there a o' e
/-- a new object -/
theorem Grow.upd {p : Addr} {o : HO} (hp : H p = none) : Grow W H W (upd H p o) where
  iG := fun _ h => h
  iN := fun _ h => .inl h
  aG := fun _ h => h
  aN := fun _ h => .inl h
  keep := fun a u h _ => by rw [upd_ne (ne_of_none h hp)]; exact h
  there := fun a u h => ⟨u, by rw [upd_ne (ne_of_none h hp)]; exact h⟩
/-- one more list that is never written -/
def Wd.add (W : Wd) (p : Addr) : Wd := ⟨fun a => W.I a ∨ a = p, W.A⟩
theorem Grow.addI {p : Addr} {o : HO} (hp : H p = none) : Grow W H (W.add p) (L2.upd H p o) where
  iG := fun _ h => .inl h
  iN := fun a h => by
    rcases h with h | h
    · exact .inl h
    · subst h; exact .inr hp
  aG := fun _ h => h
  aN := fun _ h => .inl h
  keep := fun a u h _ => by rw [upd_ne (ne_of_none h hp)]; exact h
  there := fun a u h => ⟨u, by rw [upd_ne (ne_of_none h hp)]; exact h⟩
theorem WOk.upd {p : Addr} {o : HO} (w : WOk W H) (hp : H p = none) : WOk W (L2.upd H p o) where
  iS := fun a h => by
    obtain ⟨u, e⟩ := w.iS a h
    exact ⟨u, by rw [upd_ne (ne_of_none e hp)]; exact e⟩
  aL := fun a h => by
    obtain ⟨⟨l, e⟩, n⟩ := w.aL a h
    exact ⟨⟨l, by rw [upd_ne (ne_of_none e hp)]; exact e⟩, n⟩
theorem WOk.addI {p : Addr} {o : HO} (w : WOk W H) (hp : H p = none) : WOk (W.add p) (L2.upd H p o) where
  iS := fun a h => by
    rcases h with h | h
    · obtain ⟨u, e⟩ := w.iS a h
      exact ⟨u, by rw [upd_ne (ne_of_none e hp)]; exact e⟩
    · subst h; exact ⟨o, upd_same⟩
  aL := fun a h => by
    obtain ⟨⟨l, e⟩, n⟩ := w.aL a h
    refine ⟨⟨l, by rw [upd_ne (ne_of_none e hp)]; exact e⟩, fun z => ?_⟩
    rcases z with z | z
    · exact n z
    · subst z; rw [hp] at e; cases e

theorem Grow.rdT (g : Grow W H W' H') (w : WOk W H) {a : Addr} {vs : List V} (h : SqT K H a vs) : SqT K H' a vs := by
  have nA : ∀ o, H a = some o → (∀ l, o ≠ .lst l) → W.A ≠ some a := fun o e n z => by
    obtain ⟨⟨l, e'⟩, _⟩ := w.aL a z
    rw [e] at e'; cases e'; exact n l rfl
  rcases h with (h | ⟨o, h⟩) | h
  · exact .inl (.inl (g.keep _ _ h (nA _ h fun l z => by cases z)))
  · exact .inl (.inr ⟨o, g.keep _ _ h (nA _ h fun l z => by cases z)⟩)
  · exact .inr h
theorem Grow.rdL (g : Grow W H W' H') (w : WOk W H) {a : Addr} {vs : List V} (i : W.I a) (h : H a = some (.lst vs)) : H' a = some (.lst vs) :=
  g.keep _ _ h fun z => (w.aL a z).2 i
theorem Grow.frz (g : Grow W H W' H') (w : WOk W H) {a : Addr} {ns : List Int} (h : ScrAt K H a ns) : ScrAt K H' a ns := by
  rcases h with ⟨o, h⟩ | h
  · exact .inl ⟨o, g.keep _ _ h fun z => by
      obtain ⟨⟨l, e⟩, _⟩ := w.aL a z
      rw [h] at e; cases e⟩
  · exact .inr h
mutual
theorem Den.mono (g : Grow W H W' H') (w : WOk W H) : ∀ (d : D) (v : V), Den K W H d v → Den K W' H' d v
  | .non, _, h => h
  | .bl _, _, h => h
  | .int _, _, h => h
  | .str _, _, h => h
  | .tup xs, _, h => by
    obtain ⟨a, vs, e, hs, hl⟩ := h
    exact ⟨a, vs, e, g.rdT w hs, DenL.mono g w xs vs hl⟩
  | .lst xs, _, h => by
    obtain ⟨a, vs, e, hs, hl⟩ := h
    exact ⟨a, vs, e, ⟨g.iG a hs.1, g.rdL w hs.1 hs.2⟩, DenL.mono g w xs vs hl⟩
  | .scr ns, _, h => by
    obtain ⟨a, e, hs⟩ := h
    exact ⟨a, e, g.frz w hs⟩
  | .dr, _, h => by
    obtain ⟨a, e, ha⟩ := h
    exact ⟨a, e, g.aG a ha⟩
  | .fn _, _, h => h
theorem DenL.mono (g : Grow W H W' H') (w : WOk W H) : ∀ (ds : List D) (vs : List V), DenL K W H ds vs → DenL K W' H' ds vs
  | [], _, h => h
  | d :: ds, _, h => by
    obtain ⟨v, r, e, h1, h2⟩ := h
    exact ⟨v, r, e, Den.mono g w d v h1, DenL.mono g w ds r h2⟩
end

theorem DenL.nil : DenL K W H [] [] := by unfold DenL; rfl
theorem DenL.cons {d : D} {v : V} {ds : List D} {vs : List V} (h : Den K W H d v) (t : DenL K W H ds vs) : DenL K W H (d :: ds) (v :: vs) := by
  unfold DenL; exact ⟨v, vs, rfl, h, t⟩
theorem DenL.length : ∀ {ds : List D} {vs : List V}, DenL K W H ds vs → vs.length = ds.length
  | [], _, h => by unfold DenL at h; subst h; rfl
  | d :: ds, _, h => by
    unfold DenL at h
    obtain ⟨v, r, e, _, t⟩ := h
    subst e
    simp [DenL.length t]
theorem DenL.get : ∀ {ds : List D} {vs : List V} {i : Nat} {d : D}, DenL K W H ds vs → ds[i]? = some d → ∃ v, vs[i]? = some v ∧ Den K W H d v
  | [], _, _, _, _, e => by simp at e
  | d :: ds, _, 0, _, h, e => by
    unfold DenL at h
    obtain ⟨v, r, e', h1, _⟩ := h
    subst e'
    simp at e; subst e
    exact ⟨v, by simp, h1⟩
  | d :: ds, _, i + 1, _, h, e => by
    unfold DenL at h
    obtain ⟨v, r, e', _, t⟩ := h
    subst e'
    obtain ⟨u, e1, h1⟩ := DenL.get (i := i) t (by simpa using e)
    exact ⟨u, by simpa using e1, h1⟩
theorem DenL.getV : ∀ {ds : List D} {vs : List V} {i : Nat} {v : V}, DenL K W H ds vs → vs[i]? = some v → ∃ d, ds[i]? = some d ∧ Den K W H d v := fun {ds vs i v} h e => by
  have hl := h.length
  have hi : i < vs.length := (List.getElem?_eq_some_iff.mp e).1
  have hi' : i < ds.length := by omega
  obtain ⟨v', e', h'⟩ := h.get (i := i) (d := ds[i]) (by simp [hi'])
  rw [e] at e'; cases e'
  exact ⟨_, by simp [hi'], h'⟩
theorem DenL.append : ∀ {ds es : List D} {vs us : List V}, DenL K W H ds vs → DenL K W H es us → DenL K W H (ds ++ es) (vs ++ us)
  | [], _, _, _, h, k => by unfold DenL at h; subst h; exact k
  | d :: ds, _, _, _, h, k => by
    unfold DenL at h
    obtain ⟨v, r, e, h1, t⟩ := h
    subst e
    exact DenL.cons h1 (DenL.append t k)
theorem DenL.take : ∀ {ds : List D} {vs : List V} (n : Nat), DenL K W H ds vs → DenL K W H (ds.take n) (vs.take n)
  | _, _, 0, _ => by simpa using DenL.nil
  | [], _, n + 1, h => by unfold DenL at h; subst h; simpa using DenL.nil
  | d :: ds, _, n + 1, h => by
    unfold DenL at h
    obtain ⟨v, r, e, h1, t⟩ := h
    subst e
    exact DenL.cons h1 (DenL.take n t)
theorem DenL.drop : ∀ {ds : List D} {vs : List V} (n : Nat), DenL K W H ds vs → DenL K W H (ds.drop n) (vs.drop n)
  | _, _, 0, h => h
  | [], _, n + 1, h => by unfold DenL at h; subst h; simpa using DenL.nil
  | d :: ds, _, n + 1, h => by
    unfold DenL at h
    obtain ⟨v, r, e, h1, t⟩ := h
    subst e
    exact DenL.drop n t
theorem DenL.reverse : ∀ {ds : List D} {vs : List V}, DenL K W H ds vs → DenL K W H ds.reverse vs.reverse
  | [], _, h => by unfold DenL at h; subst h; exact DenL.nil
  | d :: ds, _, h => by
    unfold DenL at h
    obtain ⟨v, r, e, h1, t⟩ := h
    subst e
    rw [List.reverse_cons, List.reverse_cons]
    exact (DenL.reverse t).append (DenL.cons h1 DenL.nil)
theorem DenL.set : ∀ {ds : List D} {vs : List V} {d : D} {v : V} (i : Nat), DenL K W H ds vs → Den K W H d v → DenL K W H (ds.set i d) (vs.set i v)
  | [], _, _, _, _, h, _ => by unfold DenL at h; subst h; exact DenL.nil
  | d' :: ds, _, _, _, 0, h, k => by
    unfold DenL at h
    obtain ⟨v, r, e, h1, t⟩ := h
    subst e
    exact DenL.cons k t
  | d' :: ds, _, _, _, i + 1, h, k => by
    unfold DenL at h
    obtain ⟨v, r, e, h1, t⟩ := h
    subst e
    exact DenL.cons h1 (DenL.set i t k)
theorem DenL.rep {ds : List D} {vs : List V} (h : DenL K W H ds vs) : ∀ k : Nat, DenL K W H (List.replicate k ds).flatten (List.replicate k vs).flatten
  | 0 => by simpa using DenL.nil
  | k + 1 => by
    rw [List.replicate_succ, List.replicate_succ, List.flatten_cons, List.flatten_cons]
    exact h.append (DenL.rep h k)
theorem DenL.ints : ∀ (ns : List Int), DenL K W H (ns.map .int) (ns.map V.int)
  | [] => DenL.nil
  | n :: ns => by
    rw [List.map_cons, List.map_cons]
    exact DenL.cons (by unfold Den; rfl) (DenL.ints ns)
theorem DenL.strs : ∀ (ns : List Str), DenL K W H (ns.map .str) (ns.map V.str)
  | [] => DenL.nil
  | n :: ns => by
    rw [List.map_cons, List.map_cons]
    exact DenL.cons (by unfold Den; rfl) (DenL.strs ns)
theorem DenL.bools : ∀ {ds : List D} {vs : List V} {bs : List Bool}, DenL K W H ds vs → PV.bools ds = some bs → vs = bs.map V.bl
  | [], _, _, h, e => by unfold DenL at h; subst h; unfold PV.bools at e; cases e; rfl
  | d :: ds, _, _, h, e => by
    unfold DenL at h
    obtain ⟨v, r, e', h1, t⟩ := h
    subst e'
    cases d with
    | bl b =>
      unfold PV.bools at e
      cases q : PV.bools ds with
      | none => rw [q] at e; cases e
      | some cs =>
        rw [q] at e
        cases e
        unfold Den at h1
        subst h1
        rw [DenL.bools t q]; rfl
    | _ => cases e

theorem Den.sqL {xs : List D} {v : V} (h : Den K W H (.lst xs) v) : ∃ a vs, v = .ref a ∧ SqL K H a vs ∧ DenL K W H xs vs := by
  unfold Den at h
  obtain ⟨a, vs, e, hs, hl⟩ := h
  exact ⟨a, vs, e, SqL.of hs.2, hl⟩

/-! ### data for == -/
mutual
theorem Den.dp : ∀ (d : D) (v : V) (p : PyData), Den K W H d v → d.pd = some p → Dp K H v p
  | .non, _, _, h, e => by unfold Den at h; subst h; unfold D.pd at e; cases e; exact .non
  | .bl b, _, _, h, e => by unfold Den at h; subst h; unfold D.pd at e; cases e; exact .bl b
  | .int i, _, _, h, e => by unfold Den at h; subst h; unfold D.pd at e; cases e; exact .int i
  | .str x, _, _, h, e => by unfold Den at h; subst h; unfold D.pd at e; cases e; exact .str x
  | .tup xs, _, _, h, e => by
    unfold Den at h
    obtain ⟨a, vs, e', hs, hl⟩ := h
    subst e'
    unfold D.pd at e
    cases q : pdAll xs with
    | none => rw [q] at e; cases e
    | some ps => rw [q] at e; cases e; exact .tup hs (DenL.dp xs vs ps hl q)
  | .lst xs, v, _, h, e => by
    obtain ⟨a, vs, e', hs, hl⟩ := Den.sqL h
    subst e'
    unfold D.pd at e
    cases q : pdAll xs with
    | none => rw [q] at e; cases e
    | some ps => rw [q] at e; cases e; exact .lst hs (DenL.dp xs vs ps hl q)
  | .dr, _, _, _, e => by unfold D.pd at e; cases e
  | .scr _, _, _, _, e => by unfold D.pd at e; cases e
  | .dic _ _, _, _, _, e => by unfold D.pd at e; cases e
  | .fn _, _, _, _, e => by unfold D.pd at e; cases e
  | .clo _ _, _, _, _, e => by unfold D.pd at e; cases e
  | .xc _ _, _, _, _, e => by unfold D.pd at e; cases e
theorem DenL.dp : ∀ (ds : List D) (vs : List V) (ps : List PyData), DenL K W H ds vs → pdAll ds = some ps → DpAll K H vs ps
  | [], _, _, h, e => by unfold DenL at h; subst h; unfold pdAll at e; cases e; exact .nil
  | d :: ds, _, _, h, e => by
    unfold DenL at h
    obtain ⟨v, r, e', h1, t⟩ := h
    subst e'
    unfold pdAll at e
    cases q : d.pd with
    | none => rw [q] at e; cases e
    | some p =>
      cases q2 : pdAll ds with
      | none => rw [q, q2] at e; cases e
      | some ps =>
        rw [q, q2] at e
        cases e
        exact .cons (Den.dp d v p h1 q) (DenL.dp ds r ps t q2)
end
end

/-! ### the draws -/
def DsR (K : PySem.W.Frag) (W : Wd) (H : Hp) (s : DS) : Prop := match W.A with
  | none => s.on = false
  | some a => s.on = true ∧ ∃ c, H a = some (.lst [c, .int s.pos, .int s.big, .int s.seed]) ∧ Den K W H (.lst (s.cells.map .int)) c

/-- the context's constants: the written part, the classes of exceptions (number: address, fields), the entry, the exception that is held -/
structure Cc where
  K : PySem.W.Frag
  XT : Nat → Option (Addr × List Str)
  W0 : Wd
  H0 : Hp
  xc : Addr → Value → Option Addr → Prop

/-- an exception as it lies in the heap -/
def DenX (K : PySem.W.Frag) (XT : Nat → Option (Addr × List Str)) (W : Wd) (H : Hp) (e : Exc) (cls : Value) (dd : Option Addr) : Prop :=
  ∃ C fs, XT e.cls = some (C, fs) ∧ cls = .ref C ∧
    match fs with
    | [] => dd = none ∧ e.args = []
    | f :: r => ∃ d vs, dd = some d ∧ H d = some (.xd ((f :: r).zip vs)) ∧ vs.length = (f :: r).length ∧ DenL K W H e.args vs

/-- a def's frame: slots against names -/
structure Rep (c : Cc) (W : Wd) (σ : L2.St) (ρ : Rho) (H : Hp) (s : DS) : Prop where
  len : ρ.length = σ.length
  val : ∀ (i : Nat) (d : D), ρ[i]? = some (.v d) → ∃ v, σ[i]? = some (some v) ∧ Den c.K W H d v
  own : ∀ (i : Nat) (xs : List D), ρ[i]? = some (.o xs) → ∃ (a : Addr) (vs : List V), σ[i]? = some (some (.ref a)) ∧ H a = some (.lst vs) ∧ DenL c.K W H xs vs ∧ ¬ W.I a ∧ W.A ≠ some a ∧ c.H0 a = none
  inj : ∀ (i j : Nat) (xs ys : List D) (v : V), ρ[i]? = some (.o xs) → ρ[j]? = some (.o ys) → σ[i]? = some (some v) → σ[j]? = some (some v) → i = j
  exc : ∀ (i : Nat) (e : Exc), ρ[i]? = some (.x e) → ∃ (a : Addr) (cls : Value) (dd : Option Addr), σ[i]? = some (some (.ref a)) ∧ c.xc a cls dd ∧ DenX c.K c.XT W H e cls dd
  ds : DsR c.K W H s
  wd : WOk W H
  base : Grow c.W0 c.H0 W H

section
variable {c : Cc} {W W' : Wd} {H H' : Hp} {σ : L2.St} {ρ : Rho} {s s' : DS}
theorem Grow.xd {W W' : Wd} {H H' : Hp} (g : Grow W H W' H') (w : WOk W H) {d : Addr} {fs : List (Str × V)} (h : H d = some (.xd fs)) : H' d = some (.xd fs) :=
  g.keep d _ h fun z => by
    obtain ⟨⟨l, e⟩, _⟩ := w.aL d z
    rw [h] at e; cases e
theorem DenX.mono (g : Grow W H W' H') (w : WOk W H) {e : Exc} {cls : Value} {dd : Option Addr} (h : DenX c.K c.XT W H e cls dd) : DenX c.K c.XT W' H' e cls dd := by
  obtain ⟨C, fs, h1, h2, h3⟩ := h
  refine ⟨C, fs, h1, h2, ?_⟩
  cases fs with
  | nil => exact h3
  | cons f r =>
    obtain ⟨d, vs, e1, e2, e3, e4⟩ := h3
    exact ⟨d, vs, e1, g.xd w e2, e3, DenL.mono g w _ _ e4⟩
/-- behind an expression -/
theorem Rep.mono (r : Rep c W σ ρ H s) (g : Grow W H W' H') (w : WOk W' H') (d : DsR c.K W' H' s') : Rep c W' σ ρ H' s' where
  len := r.len
  val := fun i x e => by
    obtain ⟨v, e', h⟩ := r.val i x e
    exact ⟨v, e', Den.mono g r.wd x v h⟩
  own := fun i xs e => by
    obtain ⟨a, vs, e1, e2, e3, e4, e5, e6⟩ := r.own i xs e
    refine ⟨a, vs, e1, g.keep a _ e2 e5, DenL.mono g r.wd xs vs e3, fun z => ?_, fun z => ?_, e6⟩
    · rcases g.iN a z with z | z
      · exact e4 z
      · rw [e2] at z; cases z
    · rcases g.aN a z with z | z
      · exact e5 z
      · rw [e2] at z; cases z
  inj := r.inj
  exc := fun i e h => by
    obtain ⟨a, cls, dd, h1, h2, h3⟩ := r.exc i e h
    exact ⟨a, cls, dd, h1, h2, h3.mono g r.wd⟩
  ds := d
  wd := w
  base := r.base.trans g
theorem DsR.mono {K : PySem.W.Frag} (d : DsR K W H s) (g : Grow W H W' H') (w : WOk W H) (h : ∀ a, W.A = some a → H' a = H a) (hA : W'.A = W.A) : DsR K W' H' s := by
  unfold DsR at d ⊢
  rw [hA]
  cases e : W.A with
  | none => rw [e] at d; exact d
  | some a =>
    rw [e] at d
    obtain ⟨d1, c, d2, d3⟩ := d
    exact ⟨d1, c, by rw [h a e]; exact d2, Den.mono g w _ _ d3⟩
theorem DsR.upd {K : PySem.W.Frag} {p : Addr} {o : HO} (d : DsR K W H s) (w : WOk W H) (hp : H p = none) : DsR K W (L2.upd H p o) s :=
  d.mono (Grow.upd hp) w (fun a e => by
    obtain ⟨⟨l, q⟩, _⟩ := w.aL a e
    rw [upd_ne (ne_of_none q hp)]) rfl
theorem DsR.addI {K : PySem.W.Frag} {p : Addr} {o : HO} (d : DsR K W H s) (w : WOk W H) (hp : H p = none) : DsR K (W.add p) (L2.upd H p o) s :=
  d.mono (Grow.addI hp) w (fun a e => by
    obtain ⟨⟨l, q⟩, _⟩ := w.aL a e
    rw [upd_ne (ne_of_none q hp)]) rfl
end
/-! freezing alone -/
mutual
theorem Den.wmono {K : PySem.W.Frag} {W W' : Wd} {H : Hp} (h : ∀ a, W.I a → W'.I a) (hA : W'.A = W.A) : ∀ (d : D) (v : V), Den K W H d v → Den K W' H d v
  | .non, _, h => h
  | .bl _, _, h => h
  | .int _, _, h => h
  | .str _, _, h => h
  | .tup xs, _, q => by
    obtain ⟨a, vs, e, hs, hl⟩ := q
    exact ⟨a, vs, e, hs, DenL.wmono h hA xs vs hl⟩
  | .lst xs, _, q => by
    obtain ⟨a, vs, e, hs, hl⟩ := q
    exact ⟨a, vs, e, ⟨h a hs.1, hs.2⟩, DenL.wmono h hA xs vs hl⟩
  | .scr _, _, q => by
    obtain ⟨a, e, q⟩ := q
    exact ⟨a, e, q⟩
  | .dr, _, q => by
    obtain ⟨a, e, ha⟩ := q
    exact ⟨a, e, by rw [hA]; exact ha⟩
  | .fn _, _, h => h
theorem DenL.wmono {K : PySem.W.Frag} {W W' : Wd} {H : Hp} (h : ∀ a, W.I a → W'.I a) (hA : W'.A = W.A) : ∀ (ds : List D) (vs : List V), DenL K W H ds vs → DenL K W' H ds vs
  | [], _, q => q
  | d :: ds, _, q => by
    obtain ⟨v, r, e, h1, h2⟩ := q
    exact ⟨v, r, e, Den.wmono h hA d v h1, DenL.wmono h hA ds r h2⟩
end
theorem DsR.wmono {K : PySem.W.Frag} {W W' : Wd} {H : Hp} {s : DS} (h : ∀ a, W.I a → W'.I a) (hA : W'.A = W.A) (d : DsR K W H s) : DsR K W' H s := by
  unfold DsR at d ⊢
  rw [hA]
  cases e : W.A with
  | none => rw [e] at d; exact d
  | some a =>
    rw [e] at d
    obtain ⟨d1, c, d2, d3⟩ := d
    exact ⟨d1, c, d2, Den.wmono h hA _ _ d3⟩
end PV

set_option Elab.async false
set_option linter.all false
set_option maxRecDepth 100000
/-! PV3: what a reading asks, from the evaluator's answer; operators by values. -/
namespace PV
open PySem PySem.Spec PyProof.Rows L2

abbrev Rl (α β : Type) := Wd → Hp → Wd → Hp → α → β → Prop

/-- what is wanted of an outcome r, met at (W, H) with slots σ -/
def At {α β : Type} (c : Cc) (Wx : WX) (R : Rl α β) (σ : L2.St) (W : Wd) (H : Hp) (r : Option (Res α)) (Q : β → Hp → Prop) : Prop := match r with
  | none => False
  | some (.ok d s') => ∀ v W' H', Grow W H W' H' → WOk W' H' → DsR c.K W' H' s' → R W H W' H' d v → Q v H'
  | some (.ex e s') => ∀ cls dd W' H', Grow W H W' H' → WOk W' H' → DsR c.K W' H' s' → DenX c.K c.XT W' H' e cls dd → Wx cls dd σ H'

def tG {α β : Type} (c : Cc) (Wx : WX) (R : Rl α β) (f : Rho → M α) : L2.St → Hp → (β → Hp → Prop) → Prop := fun σ H Q =>
  ∃ W ρ s, Rep c W σ ρ H s ∧ At c Wx R σ W H (f ρ s) Q

def rD (c : Cc) : Rl D V := fun _ _ W' H' d v => Den c.K W' H' d v
def rB (c : Cc) : Rl D V := fun _ _ W' H' d v => Den c.K W' H' d v ∨
  ∃ (a : Addr) (vs : List V) (xs : List D), d = .lst xs ∧ v = .ref a ∧ H' a = some (.lst vs) ∧ DenL c.K W' H' xs vs ∧ W'.A ≠ some a
def rN (c : Cc) : Rl D V := fun _ H W' H' d v => ∃ (p : Addr) (vs : List V) (xs : List D), d = .lst xs ∧ v = .ref p ∧ H p = none ∧ H' p = some (.lst vs) ∧ DenL c.K W' H' xs vs ∧ ¬ W'.I p ∧ W'.A ≠ some p
def rL (c : Cc) : Rl (List D) (List V) := fun _ _ W' H' ds vs => DenL c.K W' H' ds vs
def rT : Rl Bool Bool := fun _ _ _ _ a b => a = b

theorem _root_.L2.PE.imp {X : Cx} {e : Expr} {t t' : TE} (h : PE X e t) (i : ∀ σ H Q, t' σ H Q → t σ H Q) : PE X e t' := ⟨fun pins s σ H Q I q => h.run pins s σ H Q I (i _ _ _ q)⟩
theorem _root_.L2.PT.imp {X : Cx} {e : Expr} {t t' : TT} (h : PT X e t) (i : ∀ σ H Q, t' σ H Q → t σ H Q) : PT X e t' := ⟨fun pins s σ H Q I q => h.run pins s σ H Q I (i _ _ _ q)⟩
theorem _root_.L2.PW.imp {X : Cx} {e : Expr} {t t' : TT} (h : PW X e t) (i : ∀ σ H Q, t' σ H Q → t σ H Q) : PW X e t' := ⟨fun wh pins s σ H Q I q => h.run wh pins s σ H Q I (i _ _ _ q)⟩
theorem _root_.L2.PA.imp {X : Cx} {es : List Expr} {t t' : TA} (h : PA X es t) (i : ∀ σ H Q, t' σ H Q → t σ H Q) : PA X es t' := ⟨fun pos pins s σ H Q I q => h.run pos pins s σ H Q I (i _ _ _ q)⟩
theorem _root_.L2.PS.imp {X : Cx} {st : Stmt} {t t' : TS} (h : PS X st t) (i : ∀ D σ H, t' D σ H → t D σ H) : PS X st t' := ⟨fun pins s σ H D I q => h.run pins s σ H D I (i _ _ _ q)⟩
theorem _root_.L2.PSs.imp {X : Cx} {st : List Stmt} {t t' : TS} (h : PSs X st t) (i : ∀ D σ H, t' D σ H → t D σ H) : PSs X st t' := ⟨fun pins s σ H D I q => h.run pins s σ H D I (i _ _ _ q)⟩

section
variable {α β α' β' γ δ : Type} {c : Cc} {Wx : WX} {R : Rl α β} {R' : Rl α' β'} {σ : L2.St} {W W1 W' : Wd} {H H1 H' : Hp} {ρ : Rho} {s s1 : DS}

theorem At.mono {r : Option (Res α)} {R1 : Rl α β} {Q Q1 : β → Hp → Prop} (h : At c Wx R σ W H r Q)
    (k : ∀ d s' v W' H', r = some (.ok d s') → Grow W H W' H' → WOk W' H' → DsR c.K W' H' s' → R1 W H W' H' d v → (∀ v W' H', Grow W H W' H' → WOk W' H' → DsR c.K W' H' s' → R W H W' H' d v → Q v H') → Q1 v H') : At c Wx R1 σ W H r Q1 := by
  unfold At at h ⊢
  split
  · exact h
  · rename_i d s'
    exact fun v W' H' g w ds q => k d s' v W' H' rfl g w ds q h
  · exact h

/-- first m, then f -/
theorem At.bind {m : M α} {f : α → M α'} {Q : β' → Hp → Prop} (h : At c Wx R' σ W H (PV.bind m f s) Q) (R : Rl α β) :
    At c Wx R σ W H (m s) (fun v H1 => ∃ d s1 W1, m s = some (.ok d s1) ∧ Grow W H W1 H1 ∧ WOk W1 H1 ∧ DsR c.K W1 H1 s1 ∧ R W H W1 H1 d v ∧
      At c Wx (fun _ _ W' H' d v => Grow W1 H1 W' H' ∧ R' W H W' H' d v) σ W1 H1 (f d s1) Q) := by
  unfold PV.bind at h
  cases q : m s with
  | none => rw [q] at h; exact h
  | some r =>
    rw [q] at h
    cases r with
    | ex e s1 => exact h
    | ok d s1 =>
      intro v W1 H1 g w ds hR
      refine ⟨d, s1, W1, rfl, g, w, ds, hR, ?_⟩
      have h : At c Wx R' σ W H (f d s1) Q := h
      unfold At at h ⊢
      split
      · rename_i e; rw [e] at h; exact h
      · rename_i d2 s2 e
        rw [e] at h
        exact fun v2 W2 H2 g2 w2 ds2 q2 => h v2 W2 H2 (g.trans g2) w2 ds2 q2.2
      · rename_i e2 s2 e
        rw [e] at h
        exact fun cls dd W2 H2 g2 w2 ds2 q2 => h cls dd W2 H2 (g.trans g2) w2 ds2 q2
end

section
variable {α β α' β' : Type} {c : Cc} {Wx : WX} {σ : L2.St} {H : Hp}
theorem At.weaken {r : Option (Res α)} {R R1 : Rl α β} {W : Wd} {Q : β → Hp → Prop} (h : At c Wx R σ W H r Q) (k : ∀ W' H' d v, Grow W H W' H' → R1 W H W' H' d v → R W H W' H' d v) : At c Wx R1 σ W H r Q := by
  unfold At at h ⊢
  split
  · exact h
  · exact fun v W' H' g w ds q => h v W' H' g w ds (k _ _ _ _ g q)
  · exact h
theorem At.monoQ {r : Option (Res α)} {R : Rl α β} {W : Wd} {Q Q' : β → Hp → Prop} (h : At c Wx R σ W H r Q) (k : ∀ v H, Q v H → Q' v H) : At c Wx R σ W H r Q' := by
  unfold At at h ⊢
  split
  · exact h
  · exact fun v W' H' g w ds q => k _ _ (h v W' H' g w ds q)
  · exact h
theorem tG.monoQ {R : Rl α β} {f : Rho → M α} {Q Q' : β → Hp → Prop} (h : tG c Wx R f σ H Q) (k : ∀ v H, Q v H → Q' v H) : tG c Wx R f σ H Q' := by
  obtain ⟨W, ρ, s, r, a⟩ := h
  exact ⟨W, ρ, s, r, a.monoQ k⟩
/-- relations that do not lean on where they began -/
structure Free (R : Rl α β) : Prop where
  free : ∀ W H W1 H1 W' H' d v, Grow W H W1 H1 → R W1 H1 W' H' d v → R W H W' H' d v
theorem free_D : Free (rD c) := ⟨fun _ _ _ _ _ _ _ _ _ h => h⟩
theorem free_B : Free (rB c) := ⟨fun _ _ _ _ _ _ _ _ _ h => h⟩
theorem free_L : Free (rL c) := ⟨fun _ _ _ _ _ _ _ _ _ h => h⟩
theorem free_T : Free rT := ⟨fun _ _ _ _ _ _ _ _ _ h => h⟩
theorem free_N : Free (rN c) := ⟨fun _ _ _ _ _ _ _ _ g ⟨p, vs, xs, h1, h2, h3, h4⟩ => ⟨p, vs, xs, h1, h2, g.gone h3, h4⟩⟩
/-- where one stands behind the first part -/
structure Mid (c : Cc) (Wx : WX) (R : Rl α β) (R' : Rl α' β') (σ : L2.St) (v : β) (H1 : Hp) (f : Rho → α → M α') (Q : β' → Hp → Prop) : Prop where
  ex : ∃ W H W1 ρ s s1 d, Rep c W σ ρ H s ∧ Grow W H W1 H1 ∧ Rep c W1 σ ρ H1 s1 ∧ R W H W1 H1 d v ∧ At c Wx R' σ W1 H1 (f ρ d s1) Q
theorem tG.seq {m : Rho → M α} {f : Rho → α → M α'} {R' : Rl α' β'} {Q : β' → Hp → Prop} (hF : Free R') (h : tG c Wx R' (fun ρ => PV.bind (m ρ) (f ρ)) σ H Q) (R : Rl α β) :
    tG c Wx R m σ H (fun v H1 => Mid c Wx R R' σ v H1 f Q) := by
  obtain ⟨W, ρ, s, r, a⟩ := h
  refine ⟨W, ρ, s, r, ((a.bind R).monoQ fun v H1 ⟨d, s1, W1, _, g, w, ds, hR, q⟩ => ⟨W, H, W1, ρ, s, s1, d, r, g, r.mono g w ds, hR, ?_⟩)⟩
  exact q.weaken fun W' H' d' v' g' q' => ⟨g', hF.free _ _ _ _ _ _ _ _ g q'⟩
/-- a value that is told -/
theorem At.ret {R : Rl α β} {W : Wd} {s : DS} {a : α} {Q : β → Hp → Prop} (h : At c Wx R σ W H (PV.ret a s) Q) {v : β} (w : WOk W H) (d : DsR c.K W H s) (hR : R W H W H a v) : Q v H :=
  h v W H (Grow.refl _ _) w d hR
theorem At.lift_some {R : Rl α β} {W : Wd} {s : DS} {o : Option α} {Q : β → Hp → Prop} (h : At c Wx R σ W H (PV.lift o s) Q) : ∃ a, o = some a ∧ At c Wx R σ W H (PV.ret a s) Q := by
  cases o with
  | none => exact False.elim h
  | some a => exact ⟨a, rfl, h⟩
end

/-! ### operators by values -/
/-- what follows a told value d, met at (W, H) -/
def Kont (c : Cc) (W : Wd) (H : Hp) (s : DS) (d : D) (Q : VK) : Prop := ∀ v' W' H', Grow W H W' H' → WOk W' H' → DsR c.K W' H' s → Den c.K W' H' d v' → Q v' H'
section
variable {c : Cc} {W : Wd} {H : Hp} {s : DS} {Q : VK}
theorem Kont.here {d : D} {v : V} (k : Kont c W H s d Q) (w : WOk W H) (ds : DsR c.K W H s) (h : Den c.K W H d v) : Q v H := k v W H (Grow.refl _ _) w ds h
theorem Kont.newL {xs : List D} {vs : List V} (k : Kont c W H s (.lst xs) Q) (w : WOk W H) (ds : DsR c.K W H s) (h : DenL c.K W H xs vs) {p : Addr} (hp : H p = none) : Q (.ref p) (L2.upd H p (.lst vs)) :=
  k _ (W.add p) _ (Grow.addI hp) (w.addI hp) (ds.addI w hp) (by unfold Den; exact ⟨p, vs, rfl, ⟨.inr rfl, upd_same⟩, DenL.mono (Grow.addI hp) w _ _ h⟩)
theorem Kont.newT {xs : List D} {vs : List V} (k : Kont c W H s (.tup xs) Q) (w : WOk W H) (ds : DsR c.K W H s) (h : DenL c.K W H xs vs) {p : Addr} (hp : H p = none) : Q (.ref p) (L2.upd H p (.tup vs)) :=
  k _ W _ (Grow.upd hp) (w.upd hp) (ds.upd w hp) (by unfold Den; exact ⟨p, vs, rfl, SqT.of upd_same, DenL.mono (Grow.upd hp) w _ _ h⟩)
end
/-- an operator of two values keeps to F -/
def Prim2 (c : Cc) (R1 : Rl D V) (F : D → D → Option D) (r : R2) : Prop :=
  ∀ (W0 W : Wd) (H0 H : Hp) (s : DS) (d1 d2 d : D) (v u : V) (Q : VK), F d1 d2 = some d → WOk W H → DsR c.K W H s → R1 W0 H0 W H d1 v → Den c.K W H d2 u → Kont c W H s d Q → r v u H Q

theorem den_int {K : PySem.W.Frag} {W : Wd} {H : Hp} {i : Int} {v : V} (h : Den K W H (.int i) v) : v = .int i := by unfold Den at h; exact h
theorem den_bl {K : PySem.W.Frag} {W : Wd} {H : Hp} {b : Bool} {v : V} (h : Den K W H (.bl b) v) : v = .bl b := by unfold Den at h; exact h
theorem den_str {K : PySem.W.Frag} {W : Wd} {H : Hp} {x : Str} {v : V} (h : Den K W H (.str x) v) : v = .str x := by unfold Den at h; exact h
theorem den_non {K : PySem.W.Frag} {W : Wd} {H : Hp} {v : V} (h : Den K W H .non v) : v = .non := by unfold Den at h; exact h
theorem den_tup {K : PySem.W.Frag} {W : Wd} {H : Hp} {xs : List D} {v : V} (h : Den K W H (.tup xs) v) : ∃ a vs, v = .ref a ∧ SqT K H a vs ∧ DenL K W H xs vs := by unfold Den at h; exact h
theorem den_lst {K : PySem.W.Frag} {W : Wd} {H : Hp} {xs : List D} {v : V} (h : Den K W H (.lst xs) v) : ∃ a vs, v = .ref a ∧ (W.I a ∧ H a = some (.lst vs)) ∧ DenL K W H xs vs := by unfold Den at h; exact h
theorem Den.mkInt {K : PySem.W.Frag} {W : Wd} {H : Hp} {i : Int} : Den K W H (.int i) (.int i) := by unfold Den; rfl
theorem Den.mkBl {K : PySem.W.Frag} {W : Wd} {H : Hp} {b : Bool} : Den K W H (.bl b) (.bl b) := by unfold Den; rfl
theorem Den.mkStr {K : PySem.W.Frag} {W : Wd} {H : Hp} {x : Str} : Den K W H (.str x) (.str x) := by unfold Den; rfl
theorem Den.mkNon {K : PySem.W.Frag} {W : Wd} {H : Hp} : Den K W H .non .non := by unfold Den; rfl
theorem Den.mkTup {K : PySem.W.Frag} {W : Wd} {H : Hp} {xs : List D} {vs : List V} {a : Addr} (h : SqT K H a vs) (l : DenL K W H xs vs) : Den K W H (.tup xs) (.ref a) := by unfold Den; exact ⟨a, vs, rfl, h, l⟩
theorem Den.mkLst {K : PySem.W.Frag} {W : Wd} {H : Hp} {xs : List D} {vs : List V} {a : Addr} (i : W.I a) (h : H a = some (.lst vs)) (l : DenL K W H xs vs) : Den K W H (.lst xs) (.ref a) := by unfold Den; exact ⟨a, vs, rfl, ⟨i, h⟩, l⟩
/-- a list that is read, borrowed or not -/
theorem rB_lst {c : Cc} {W0 W : Wd} {H0 H : Hp} {xs : List D} {v : V} (h : rB c W0 H0 W H (.lst xs) v) : ∃ a vs, v = .ref a ∧ H a = some (.lst vs) ∧ DenL c.K W H xs vs := by
  rcases h with h | ⟨a, vs, ys, e, e2, h1, h2, _⟩
  · obtain ⟨a, vs, e, h1, h2⟩ := den_lst h
    exact ⟨a, vs, e, h1.2, h2⟩
  · cases e
    exact ⟨a, vs, e2, h1, h2⟩
theorem rB_den {c : Cc} {W0 W : Wd} {H0 H : Hp} {d : D} {v : V} (h : rB c W0 H0 W H d v) (n : ∀ xs, d ≠ .lst xs) : Den c.K W H d v := by
  rcases h with h | ⟨a, vs, ys, e, _⟩
  · exact h
  · exact absurd e (n ys)

section
variable {c : Cc} {X : Cx}
def rAddAll (K : PySem.W.Frag) : R2 := fun x y H Q => (rI0 fun i j => .int (i + j)) x y H Q ∨ (∃ i j, x = .str i ∧ y = .str j ∧ i.length + j.length ≤ sizeLine ∧ Q (.str (i ++ j)) H) ∨ rCatA K x y H Q ∨ rCat x y H Q
theorem op_addAll : OpR X (binaryOp .Add) (rAddAll X.K) := OpR.or op_add (OpR.or op_add_str (OpR.or op_catA op_cat))
theorem DenL.nil_iff {K : PySem.W.Frag} {W : Wd} {H : Hp} {xs : List D} {vs : List V} (h : DenL K W H xs vs) : xs = [] ↔ vs = [] := by
  have := h.length
  constructor
  · intro e; subst e; exact List.eq_nil_of_length_eq_zero (by simpa using this)
  · intro e; subst e; exact List.eq_nil_of_length_eq_zero (by simpa using this.symm)
theorem prim_add : Prim2 c (rB c) addD (rAddAll c.K) := by
  intro W0 W H0 H s d1 d2 d v u Q e w ds h1 h2 k
  unfold addD at e
  split at e <;> (try (cases e; done))
  · rename_i i j
    cases e
    rw [den_int (rB_den h1 (by simp)), den_int h2]
    exact .inl ⟨i, j, rfl, rfl, k.here w ds Den.mkInt⟩
  · rename_i a b
    split at e
    · cases e
      rw [den_str (rB_den h1 (by simp)), den_str h2]
      exact .inr (.inl ⟨a, b, rfl, rfl, by assumption, k.here w ds Den.mkStr⟩)
    · cases e
  · rename_i xs ys
    split at e
    · cases e
      obtain ⟨a, vs, rfl, h1, l1⟩ := den_tup (rB_den h1 (by simp))
      obtain ⟨b, us, rfl, h2, l2⟩ := den_tup h2
      refine .inr (.inr (.inl ⟨a, b, vs, us, rfl, rfl, h1, h2, by rw [l1.length, l2.length]; assumption, fun z => ?_, fun _ z => ?_, fun _ _ p hp => k.newT w ds (l1.append l2) hp⟩))
      · rw [l1.nil_iff.mpr z] at k
        exact k.here w ds (Den.mkTup h2 l2)
      · rw [l2.nil_iff.mpr z, List.append_nil] at k
        exact k.here w ds (Den.mkTup h1 l1)
    · cases e
  · rename_i xs ys
    split at e
    · cases e
      obtain ⟨a, vs, rfl, h1, l1⟩ := rB_lst h1
      obtain ⟨b, us, rfl, h2, l2⟩ := den_lst h2
      exact .inr (.inr (.inr ⟨a, b, vs, us, rfl, rfl, h1, h2.2, by rw [l1.length, l2.length]; assumption, fun p hp => k.newL w ds (l1.append l2) hp⟩))
    · cases e
theorem prim_sub : Prim2 c (rB c) subD (rI0 fun i j => .int (i - j)) := by
  intro W0 W H0 H s d1 d2 d v u Q e w ds h1 h2 k
  unfold subD at e
  split at e <;> (try (cases e; done))
  rename_i i j
  cases e
  rw [den_int (rB_den h1 (by simp)), den_int h2]
  exact ⟨i, j, rfl, rfl, k.here w ds Den.mkInt⟩
def rMulAll : R2 := fun x y H Q => (rI CMulW fun i j => .int (i * j)) x y H Q ∨ rRep x y H Q
theorem op_mulAll : OpR X (binaryOp .Mult) rMulAll := OpR.or op_mulW op_rep
theorem prim_mul : Prim2 c (rB c) mulD rMulAll := by
  intro W0 W H0 H s d1 d2 d v u Q e w ds h1 h2 k
  unfold mulD at e
  split at e <;> (try (cases e; done))
  · rename_i i j
    split at e
    · rename_i hm
      cases e
      rw [den_int (rB_den h1 (by simp)), den_int h2]
      unfold mulOk at hm
      exact .inl ⟨i, j, rfl, rfl, (show i.natAbs.log2 + j.natAbs.log2 < 1000000 from of_decide_eq_true hm), k.here w ds Den.mkInt⟩
    · cases e
  · rename_i xs j
    split at e
    · rename_i hm
      cases e
      obtain ⟨a, vs, rfl, h1, l1⟩ := rB_lst h1
      rw [den_int h2]
      exact .inr ⟨a, j, vs, rfl, rfl, h1, hm.2.1, hm.2.2, by rw [l1.length]; exact hm.1, fun p hp => k.newL w ds (l1.rep _) hp⟩
    · cases e
def CDivA (_ j : Int) : Prop := j ≠ 0 ∧ j.natAbs.log2 < 9000
theorem op_fdivA : OpR X (binaryOp .FloorDiv) (rI CDivA fun i j => .int (i.fdiv j)) := opI fun _ _ _ _ _ _ _ hc q => floordiv_int hc.1 q (.inl (PyProof.noPylong_of_log2 hc.2))
theorem prim_fdiv : Prim2 c (rB c) fdivD (rI CDivA fun i j => .int (i.fdiv j)) := by
  intro W0 W H0 H s d1 d2 d v u Q e w ds h1 h2 k
  unfold fdivD at e
  split at e <;> (try (cases e; done))
  rename_i i j
  split at e
  · rename_i hm
    cases e
    rw [den_int (rB_den h1 (by simp)), den_int h2]
    unfold divOk at hm
    rw [Bool.and_eq_true] at hm
    exact ⟨i, j, rfl, rfl, ⟨of_decide_eq_true hm.1, of_decide_eq_true hm.2⟩, k.here w ds Den.mkInt⟩
  · cases e
theorem prim_mod : Prim2 c (rB c) modD (rI (fun _ j => j ≠ 0) fun i j => .int (i.fmod j)) := by
  intro W0 W H0 H s d1 d2 d v u Q e w ds h1 h2 k
  unfold modD at e
  split at e <;> (try (cases e; done))
  rename_i i j
  split at e
  · rename_i hm
    cases e
    rw [den_int (rB_den h1 (by simp)), den_int h2]
    exact ⟨i, j, rfl, rfl, hm, k.here w ds Den.mkInt⟩
  · cases e
theorem powOk_ok {i j : Int} (h : powOk i j = true) : CPow i j := by
  unfold powOk at h
  rw [Bool.and_eq_true, Bool.and_eq_true] at h
  exact ⟨of_decide_eq_true h.1.1, of_decide_eq_true h.1.2, of_decide_eq_true h.2⟩
theorem prim_pow : Prim2 c (rB c) powD (rI CPow fun i j => .int (i ^ j.toNat)) := by
  intro W0 W H0 H s d1 d2 d v u Q e w ds h1 h2 k
  unfold powD at e
  split at e <;> (try (cases e; done))
  rename_i i j
  split at e
  · rename_i hm
    cases e
    rw [den_int (rB_den h1 (by simp)), den_int h2]
    exact ⟨i, j, rfl, rfl, powOk_ok hm, k.here w ds Den.mkInt⟩
  · cases e
theorem prim_shl : Prim2 c (rB c) shlD (rI CPow fun i j => .int (i * 2 ^ j.toNat)) := by
  intro W0 W H0 H s d1 d2 d v u Q e w ds h1 h2 k
  unfold shlD at e
  split at e <;> (try (cases e; done))
  rename_i i j
  split at e
  · rename_i hm
    cases e
    rw [den_int (rB_den h1 (by simp)), den_int h2]
    exact ⟨i, j, rfl, rfl, powOk_ok hm, k.here w ds Den.mkInt⟩
  · cases e
end

/-! ### comparisons by values -/
def PrimC (c : Cc) (R1 R2' : Rl D V) (F : D → D → Option Bool) (r : R2) : Prop :=
  ∀ (W0 W : Wd) (H0 H : Hp) (s : DS) (d1 d2 : D) (b : Bool) (v u : V) (Q : VK), F d1 d2 = some b → WOk W H → DsR c.K W H s → R1 W0 H0 W H d1 v → R2' W0 H0 W H d2 u → Q (.bl b) H → r v u H Q
theorem rB_dp {c : Cc} {W0 W : Wd} {H0 H : Hp} {d : D} {v : V} {p : PyData} (h : rB c W0 H0 W H d v) (e : d.pd = some p) : Dp c.K H v p := by
  rcases h with h | ⟨a, vs, xs, e1, e2, h1, h2, _⟩
  · exact Den.dp d v p h e
  · subst e1 e2
    unfold D.pd at e
    cases q : pdAll xs with
    | none => rw [q] at e; cases e
    | some ps => rw [q] at e; cases e; exact .lst (SqL.of h1) (DenL.dp xs vs ps h2 q)
section
variable {c : Cc} {X : Cx}
def rEqA (K : PySem.W.Frag) : R2 := fun x y H Q => rEq x y H Q ∨ rEqD K x y H Q
def rNeA (K : PySem.W.Frag) : R2 := fun x y H Q => rNe x y H Q ∨ rNeD K x y H Q
theorem op_eqA (hu : X.A.units + 64 < cLine) : OpR X (compareOp .Eq) (rEqA X.K) := OpR.or op_eq (op_eqD hu)
theorem op_neA (hu : X.A.units + 64 < cLine) : OpR X (compareOp .NotEq) (rNeA X.K) := OpR.or op_ne (op_neD hu)
theorem eqD_cases {d1 d2 : D} {b : Bool} (e : eqD d1 d2 = some b) : (∃ x y, d1 = .str x ∧ d2 = .str y ∧ b = decide (x = y)) ∨ (∃ x y, d1 = .int x ∧ d2 = .int y ∧ b = decide (x = y)) ∨
    ∃ p q, d1.pd = some p ∧ d2.pd = some q ∧ SeqAt.shaped p = true ∧ SeqAt.shaped q = true ∧ b = PyData.eqv p q := by
  unfold eqD at e
  split at e
  · exact .inl ⟨_, _, rfl, rfl, (Option.some.inj e).symm⟩
  · exact .inr (.inl ⟨_, _, rfl, rfl, (Option.some.inj e).symm⟩)
  · split at e
    · rename_i p1 p2 e1 e2
      split at e
      · rename_i hs
        rw [Bool.and_eq_true] at hs
        exact .inr (.inr ⟨p1, p2, e1, e2, hs.1, hs.2, (Option.some.inj e).symm⟩)
      · cases e
    · cases e
theorem prim_eq : PrimC c (rB c) (rB c) (cmpD .eq) (rEqA c.K) := by
  intro W0 W H0 H s d1 d2 b v u Q e w ds h1 h2 q
  rcases eqD_cases e with ⟨x, y, rfl, rfl, rfl⟩ | ⟨x, y, rfl, rfl, rfl⟩ | ⟨p1, p2, e1, e2, s1, s2, rfl⟩
  · rw [den_str (rB_den h1 (by simp)), den_str (rB_den h2 (by simp))]
    have e2 : decide (V.str x = V.str y) = decide (x = y) := by simp
    exact .inl ⟨rfl, by rw [e2]; exact q⟩
  · rw [den_int (rB_den h1 (by simp)), den_int (rB_den h2 (by simp))]
    have e2 : decide (V.int x = V.int y) = decide (x = y) := by simp
    exact .inl ⟨rfl, by rw [e2]; exact q⟩
  · exact .inr ⟨p1, p2, rB_dp h1 e1, rB_dp h2 e2, s1, s2, q⟩
theorem prim_ne : PrimC c (rB c) (rB c) (cmpD .ne) (rNeA c.K) := by
  intro W0 W H0 H s d1 d2 b v u Q e w ds h1 h2 q
  change (eqD d1 d2).map (!·) = some b at e
  obtain ⟨b', e', rfl⟩ := Option.map_eq_some_iff.mp e
  clear e
  rcases eqD_cases e' with ⟨x, y, rfl, rfl, rfl⟩ | ⟨x, y, rfl, rfl, rfl⟩ | ⟨p1, p2, e1, e2, s1, s2, rfl⟩
  · rw [den_str (rB_den h1 (by simp)), den_str (rB_den h2 (by simp))]
    have e2 : decide (V.str x = V.str y) = decide (x = y) := by simp
    exact .inl ⟨rfl, by rw [e2]; exact q⟩
  · rw [den_int (rB_den h1 (by simp)), den_int (rB_den h2 (by simp))]
    have e2 : decide (V.int x = V.int y) = decide (x = y) := by simp
    exact .inl ⟨rfl, by rw [e2]; exact q⟩
  · exact .inr ⟨p1, p2, rB_dp h1 e1, rB_dp h2 e2, s1, s2, q⟩
theorem prim_int {p : Int → Int → Bool} : PrimC c (rB c) (rB c) (ltD p) (rI0 fun i j => .bl (p i j)) := by
  intro W0 W H0 H s d1 d2 b v u Q e w ds h1 h2 q
  unfold ltD at e
  split at e
  · rename_i i j
    cases e
    rw [den_int (rB_den h1 (by simp)), den_int (rB_den h2 (by simp))]
    exact ⟨i, j, rfl, rfl, q⟩
  · cases e
theorem prim_lt : PrimC c (rB c) (rB c) (cmpD .lt) (rI0 fun i j => .bl (decide (i < j))) := prim_int
theorem prim_le : PrimC c (rB c) (rB c) (cmpD .le) (rI0 fun i j => .bl (decide (i ≤ j))) := prim_int
theorem prim_gt : PrimC c (rB c) (rB c) (cmpD .gt) (rI0 fun i j => .bl (decide (j < i))) := prim_int
theorem prim_ge : PrimC c (rB c) (rB c) (cmpD .ge) (rI0 fun i j => .bl (decide (j ≤ i))) := prim_int
def rIsA : R2 := fun x y H Q => (y = .non ∧ Q (.bl (decide (x = .non))) H) ∨ rIsB x y H Q
def rIsnA : R2 := fun x y H Q => (y = .non ∧ Q (.bl (!decide (x = .non))) H) ∨ rNotB x y H Q
theorem op_isA : OpR X (compareOp .Is) rIsA := OpR.or op_isN op_isBl
theorem op_isnA : OpR X (compareOp .IsNot) rIsnA := OpR.or op_notN op_notBl
theorem den_isN {K : PySem.W.Frag} {W : Wd} {H : Hp} {d : D} {v : V} (h : Den K W H d v) : decide (v = .non) = isNon d := by
  cases d with
  | non => rw [den_non h]; simp [isNon]
  | bl b => rw [den_bl h]; simp [isNon]
  | int i => rw [den_int h]; simp [isNon]
  | str x => rw [den_str h]; simp [isNon]
  | tup xs => obtain ⟨a, vs, rfl, _⟩ := den_tup h; simp [isNon]
  | lst xs => obtain ⟨a, vs, rfl, _⟩ := den_lst h; simp [isNon]
  | dr => unfold Den at h; obtain ⟨a, rfl, _⟩ := h; simp [isNon]
  | scr ns => unfold Den at h; obtain ⟨a, rfl, _⟩ := h; simp [isNon]
  | fn x => unfold Den at h; subst h; simp [isNon]
  | _ => unfold Den at h; exact h.elim
theorem rB_isN {c : Cc} {W0 W : Wd} {H0 H : Hp} {d : D} {v : V} (h : rB c W0 H0 W H d v) : decide (v = .non) = isNon d := by
  rcases h with h | ⟨a, vs, xs, e1, e2, _⟩
  · exact den_isN h
  · subst e1 e2; simp [isNon]
theorem isD_ok {c : Cc} {W0 W : Wd} {H0 H : Hp} {d1 d2 : D} {b : Bool} {v u : V} (e : isD d1 d2 = some b) (h1 : rB c W0 H0 W H d1 v) (h2 : rB c W0 H0 W H d2 u) :
    (u = .non ∧ decide (v = .non) = b) ∨ ∃ x y : Bool, v = .bl x ∧ u = .bl y ∧ decide (x = y) = b := by
  unfold isD at e
  split at e
  · have e := Option.some.inj e
    refine .inl ⟨den_non (rB_den h2 (by simp)), ?_⟩
    rw [rB_isN h1, ← e]
  · cases e
    exact .inr ⟨_, _, den_bl (rB_den h1 (by simp)), den_bl (rB_den h2 (by simp)), rfl⟩
  · cases e
theorem prim_is : PrimC c (rB c) (rB c) (cmpD .is) rIsA := by
  intro W0 W H0 H s d1 d2 b v u Q e w ds h1 h2 q
  rcases isD_ok e h1 h2 with ⟨e1, e2⟩ | ⟨x, y, e1, e2, e3⟩
  · exact .inl ⟨e1, by rw [e2]; exact q⟩
  · exact .inr ⟨x, y, e1, e2, by rw [e3]; exact q⟩
theorem prim_isn : PrimC c (rB c) (rB c) (cmpD .isnot) rIsnA := by
  intro W0 W H0 H s d1 d2 b v u Q e w ds h1 h2 q
  change (isD d1 d2).map (!·) = some b at e
  obtain ⟨b', e', rfl⟩ := Option.map_eq_some_iff.mp e
  rcases isD_ok e' h1 h2 with ⟨e1, e2⟩ | ⟨x, y, e1, e2, e3⟩
  · exact .inl ⟨e1, by rw [e2]; exact q⟩
  · exact .inr ⟨x, y, e1, e2, by rw [e3]; exact q⟩
/-- x in a tuple of data of any depth -/
def rInDT (K : PySem.W.Frag) (neg : Bool) : R2 := fun x y H Q => ∃ d ds, Dp K H x d ∧ Dp K H y (.tuple ds) ∧ SeqAt.shaped d = true ∧ SeqAt.shaped (.list ds) = true ∧ Q (.bl (if neg then !(ds.any fun z => PyData.eqv z d) else ds.any fun z => PyData.eqv z d)) H
theorem op_inDT (hu : X.A.units + 65 < cLine) : OpR X (compareOp .In) (rInDT X.K false) := by
  intro pins s σ H x y v u Q I rx ry h
  obtain ⟨d, ds, hd, he, sd, se, q⟩ := h
  obtain ⟨as, r1⟩ := Dp.reads I d x v hd rx
  obtain ⟨bs, r2⟩ := Dp.reads I (.tuple ds) y u he ry
  exact SeqAt.in_tuple_reads r2 r1 (SeqAt.canLay_of_shaped se) (SeqAt.canLay_of_shaped sd) (room_in_shaped sd hu) ⟨.bl _, H, I, rfl, q⟩
theorem op_notInDT (hu : X.A.units + 65 < cLine) : OpR X (compareOp .NotIn) (rInDT X.K true) := by
  intro pins s σ H x y v u Q I rx ry h
  obtain ⟨d, ds, hd, he, sd, se, q⟩ := h
  obtain ⟨as, r1⟩ := Dp.reads I d x v hd rx
  obtain ⟨bs, r2⟩ := Dp.reads I (.tuple ds) y u he ry
  exact SeqAt.notIn_tuple_reads r2 r1 (SeqAt.canLay_of_shaped se) (SeqAt.canLay_of_shaped sd) (room_in_shaped sd hu) ⟨.bl _, H, I, rfl, q⟩
def rInA (K : PySem.W.Frag) : R2 := fun x y H Q => rInD K x y H Q ∨ rInDT K false x y H Q ∨ ∃ (c : Nat) (z : Str), x = .str ⟨#[c]⟩ ∧ y = .str z ∧ Q (.bl (decide (c ∈ z.cps.toList))) H
def rNotInA (K : PySem.W.Frag) : R2 := fun x y H Q => rNotInD K x y H Q ∨ rInDT K true x y H Q ∨ ∃ (c : Nat) (z : Str), x = .str ⟨#[c]⟩ ∧ y = .str z ∧ Q (.bl (!decide (c ∈ z.cps.toList))) H
theorem op_inA (hu : X.A.units + 65 < cLine) : OpR X (compareOp .In) (rInA X.K) := OpR.or (op_inD hu) (OpR.or (op_inDT hu) op_in_sign)
theorem op_notInA (hu : X.A.units + 65 < cLine) : OpR X (compareOp .NotIn) (rNotInA X.K) := OpR.or (op_notInD hu) (OpR.or (op_notInDT hu) op_notIn_sign)
theorem inL_ok {c : Cc} {W0 W : Wd} {H0 H : Hp} {d : D} {ys : List D} {b : Bool} {v : V} (e : inL d ys = some b) (h1 : rB c W0 H0 W H d v) :
    ∃ p qs, Dp c.K H v p ∧ pdAll ys = some qs ∧ SeqAt.shaped p = true ∧ SeqAt.shaped (.list qs) = true ∧ b = qs.any fun z => PyData.eqv z p := by
  unfold inL at e
  split at e
  · rename_i p qs e1 e2
    split at e
    · rename_i hs
      cases e
      rw [Bool.and_eq_true] at hs
      exact ⟨p, qs, rB_dp h1 e1, e2, hs.1, hs.2, rfl⟩
    · cases e
  · cases e
theorem str_of_one {x : Str} {c : Nat} (h : x.cps.toList = [c]) : x = ⟨#[c]⟩ := by
  obtain ⟨⟨l⟩⟩ := x
  simp only at h
  rw [h]
theorem inD_cases {d1 d2 : D} {b : Bool} (e : inD d1 d2 = some b) : (∃ ys, d2 = .lst ys ∧ inL d1 ys = some b) ∨ (∃ ys, d2 = .tup ys ∧ inL d1 ys = some b) ∨
    ∃ k z, d1 = .str ⟨#[k]⟩ ∧ d2 = .str z ∧ b = decide (k ∈ z.cps.toList) := by
  unfold inD at e
  split at e
  · exact .inl ⟨_, rfl, e⟩
  · exact .inr (.inl ⟨_, rfl, e⟩)
  · split at e
    · rename_i hk
      exact .inr (.inr ⟨_, _, by rw [str_of_one hk], rfl, (Option.some.inj e).symm⟩)
    · cases e
  · cases e
theorem prim_in : PrimC c (rB c) (rB c) (cmpD .in_) (rInA c.K) := by
  intro W0 W H0 H s d1 d2 b v u Q e w ds h1 h2 q
  rcases inD_cases e with ⟨ys, rfl, e⟩ | ⟨ys, rfl, e⟩ | ⟨k, z, rfl, rfl, rfl⟩
  · obtain ⟨p, qs, g1, g2, g3, g4, rfl⟩ := inL_ok e h1
    obtain ⟨a, vs, rfl, k1, k2⟩ := rB_lst h2
    exact .inl ⟨p, qs, g1, .lst (SqL.of k1) (DenL.dp _ _ _ k2 g2), g3, g4, q⟩
  · obtain ⟨p, qs, g1, g2, g3, g4, rfl⟩ := inL_ok e h1
    obtain ⟨a, vs, rfl, k1, k2⟩ := den_tup (rB_den h2 (by simp))
    exact .inr (.inl ⟨p, qs, g1, .tup k1 (DenL.dp _ _ _ k2 g2), g3, g4, q⟩)
  · exact .inr (.inr ⟨_, _, den_str (rB_den h1 (by simp)), den_str (rB_den h2 (by simp)), q⟩)
theorem prim_notin : PrimC c (rB c) (rB c) (cmpD .notin) (rNotInA c.K) := by
  intro W0 W H0 H s d1 d2 b v u Q e w ds h1 h2 q
  change (inD d1 d2).map (!·) = some b at e
  obtain ⟨b', e', rfl⟩ := Option.map_eq_some_iff.mp e
  clear e
  rcases inD_cases e' with ⟨ys, rfl, e⟩ | ⟨ys, rfl, e⟩ | ⟨k, z, rfl, rfl, rfl⟩
  · obtain ⟨p, qs, g1, g2, g3, g4, rfl⟩ := inL_ok e h1
    obtain ⟨a, vs, rfl, k1, k2⟩ := rB_lst h2
    exact .inl ⟨p, qs, g1, .lst (SqL.of k1) (DenL.dp _ _ _ k2 g2), g3, g4, q⟩
  · obtain ⟨p, qs, g1, g2, g3, g4, rfl⟩ := inL_ok e h1
    obtain ⟨a, vs, rfl, k1, k2⟩ := den_tup (rB_den h2 (by simp))
    exact .inr (.inl ⟨p, qs, g1, .tup k1 (DenL.dp _ _ _ k2 g2), g3, g4, q⟩)
  · exact .inr (.inr ⟨_, _, den_str (rB_den h1 (by simp)), den_str (rB_den h2 (by simp)), q⟩)
end
end PV

set_option Elab.async false
set_option linter.all false
set_option maxRecDepth 100000
/-! PV4: rules for expressions. -/
namespace PV
open PySem PySem.Spec PyProof.Rows L2

/-! ### what a statement leaves -/
structure WGrow (W : Wd) (H : Hp) (W' : Wd) (H' : Hp) : Prop where
  iG : ∀ a, W.I a → W'.I a
  aG : ∀ a, W.A = some a → W'.A = some a
  keep : ∀ a o, H a = some o → ((∃ l, o = .lst l) → W.I a) → H' a = some o
section
variable {K : PySem.W.Frag} {W W' W'' : Wd} {H H' H'' : Hp}
theorem WGrow.refl : WGrow W H W H := ⟨fun _ h => h, fun _ h => h, fun _ _ h _ => h⟩
theorem WGrow.trans (g : WGrow W H W' H') (k : WGrow W' H' W'' H'') : WGrow W H W'' H'' :=
  ⟨fun a h => k.iG a (g.iG a h), fun a h => k.aG a (g.aG a h), fun a o h n => k.keep a o (g.keep a o h n) fun z => g.iG a (n z)⟩
theorem Grow.weak (g : Grow W H W' H') (w : WOk W H) : WGrow W H W' H' :=
  ⟨g.iG, g.aG, fun a o h n => g.keep a o h fun z => by
    obtain ⟨⟨l, e⟩, ni⟩ := w.aL a z
    rw [h] at e; cases e
    exact ni (n ⟨l, rfl⟩)⟩
theorem WGrow.sqT (g : WGrow W H W' H') {a : Addr} {vs : List V} (h : SqT K H a vs) : SqT K H' a vs := by
  rcases h with (h | ⟨o, h⟩) | h
  · exact .inl (.inl (g.keep _ _ h fun ⟨l, z⟩ => by cases z))
  · exact .inl (.inr ⟨o, g.keep _ _ h fun ⟨l, z⟩ => by cases z⟩)
  · exact .inr h
theorem WGrow.scr (g : WGrow W H W' H') {a : Addr} {ns : List Int} (h : ScrAt K H a ns) : ScrAt K H' a ns := by
  rcases h with ⟨o, h⟩ | h
  · exact .inl ⟨o, g.keep _ _ h fun ⟨l, z⟩ => by cases z⟩
  · exact .inr h
mutual
theorem Den.monoW (g : WGrow W H W' H') : ∀ (d : D) (v : V), Den K W H d v → Den K W' H' d v
  | .non, _, h => h
  | .bl _, _, h => h
  | .int _, _, h => h
  | .str _, _, h => h
  | .tup xs, _, h => by
    obtain ⟨a, vs, e, hs, hl⟩ := h
    exact ⟨a, vs, e, g.sqT hs, DenL.monoW g xs vs hl⟩
  | .lst xs, _, h => by
    obtain ⟨a, vs, e, hs, hl⟩ := h
    exact ⟨a, vs, e, ⟨g.iG a hs.1, g.keep _ _ hs.2 fun _ => hs.1⟩, DenL.monoW g xs vs hl⟩
  | .scr ns, _, h => by
    obtain ⟨a, e, hs⟩ := h
    exact ⟨a, e, g.scr hs⟩
  | .dr, _, h => by
    obtain ⟨a, e, ha⟩ := h
    exact ⟨a, e, g.aG a ha⟩
  | .fn _, _, h => h
theorem DenL.monoW (g : WGrow W H W' H') : ∀ (ds : List D) (vs : List V), DenL K W H ds vs → DenL K W' H' ds vs
  | [], _, h => h
  | d :: ds, _, h => by
    obtain ⟨v, r, e, h1, h2⟩ := h
    exact ⟨v, r, e, Den.monoW g d v h1, DenL.monoW g ds r h2⟩
end
/-- a list of one's own is written -/
theorem WGrow.own {p : Addr} {l : List V} {o : HO} (hp : H p = some (.lst l)) (n : ¬ W.I p) : WGrow W H W (L2.upd H p o) :=
  ⟨fun _ h => h, fun _ h => h, fun a u h k => by
    by_cases e : a = p
    · subst e; rw [hp] at h; cases h
      exact absurd (k ⟨l, rfl⟩) n
    · rw [upd_ne e]; exact h⟩
theorem WOk.own {p : Addr} {l l' : List V} (w : WOk W H) (hp : H p = some (.lst l)) : WOk W (L2.upd H p (.lst l')) where
  iS := fun a h => by
    by_cases e : a = p
    · subst e; exact ⟨_, upd_same⟩
    · obtain ⟨u, q⟩ := w.iS a h
      exact ⟨u, by rw [upd_ne e]; exact q⟩
  aL := fun a h => by
    refine ⟨?_, (w.aL a h).2⟩
    by_cases e : a = p
    · subst e; exact ⟨_, upd_same⟩
    · obtain ⟨⟨m, q⟩, _⟩ := w.aL a h
      exact ⟨m, by rw [upd_ne e]; exact q⟩
theorem DsR.own {p : Addr} {l l' : List V} {s : DS} (d : DsR K W H s) (hp : H p = some (.lst l)) (n : ¬ W.I p) (nA : W.A ≠ some p) : DsR K W (L2.upd H p (.lst l')) s := by
  unfold DsR at d ⊢
  cases e : W.A with
  | none => rw [e] at d; exact d
  | some a =>
    rw [e] at d
    obtain ⟨d1, c, d2, d3⟩ := d
    have ne : a ≠ p := fun z => nA (by rw [e, z])
    exact ⟨d1, c, by rw [upd_ne ne]; exact d2, Den.monoW (WGrow.own hp n) _ _ d3⟩
/-- from an entry where p was not there -/
theorem Grow.own {p : Addr} {l l' : List V} (g : Grow W H W' H') (h0 : H p = none) (hp : H' p = some (.lst l)) : Grow W H W' (L2.upd H' p (.lst l')) where
  iG := g.iG
  iN := g.iN
  aG := g.aG
  aN := g.aN
  keep := fun a o h n => by
    have ne : a ≠ p := ne_of_none h h0
    rw [upd_ne ne]; exact g.keep a o h n
  there := fun a o h => by
    have ne : a ≠ p := ne_of_none h h0
    rw [upd_ne ne]; exact g.there a o h
end

section
variable {X : Cx} {c : Cc} {Wx : WX} {pos : Pos}

/-! ### from new lists, to borrowed values -/
theorem pe_rND {e : Expr} {f : Rho → M D} (h : PE X e (tG c Wx (rN c) f)) : PE X e (tG c Wx (rD c) f) := h.imp fun σ H Q ⟨W, ρ, s, r, a⟩ => by
  refine ⟨W, ρ, s, r, ?_⟩
  unfold At at a ⊢
  split
  · rename_i q; rw [q] at a; exact a
  · rename_i d s' q
    rw [q] at a
    rintro v W' H' g w ds ⟨p, vs, xs, rfl, rfl, h0, hp, hl, ni, nA⟩
    have dl : DenL c.K (W'.add p) H' xs vs := DenL.wmono (W' := W'.add p) (fun _ h => Or.inl h) rfl _ _ hl
    refine a _ (W'.add p) H' ⟨fun a h => .inl (g.iG a h), fun a h => ?_, g.aG, g.aN, g.keep, g.there⟩ ⟨fun a h => ?_, fun a h => ⟨(w.aL a h).1, fun z => ?_⟩⟩ (ds.wmono (W' := W'.add p) (fun _ h => Or.inl h) rfl) (Den.mkLst (.inr rfl) hp dl)
    · rcases h with h | h
      · exact g.iN a h
      · subst h; exact .inr h0
    · rcases h with h | h
      · exact w.iS a h
      · subst h; exact ⟨_, hp⟩
    · rcases z with z | z
      · exact (w.aL a h).2 z
      · subst z; exact nA h
  · rename_i e s' q; rw [q] at a; exact a
theorem pe_rDB {e : Expr} {f : Rho → M D} (h : PE X e (tG c Wx (rD c) f)) : PE X e (tG c Wx (rB c) f) := h.imp fun σ H Q ⟨W, ρ, s, r, a⟩ =>
  ⟨W, ρ, s, r, a.weaken fun _ _ _ _ _ h => .inl h⟩

/-! ### constants and names -/
theorem tC_of {f : Rho → M D} {d : D} {v : V} (hf : ∀ ρ, f ρ = ret d) (hd : ∀ W H, Den c.K W H d v) : ∀ σ H Q, tG c Wx (rD c) f σ H Q → tC v σ H Q := fun σ H Q ⟨W, ρ, s, r, a⟩ => by
  rw [hf] at a
  exact a v W H (Grow.refl _ _) r.wd r.ds (hd _ _)
theorem tVar_of {i : Nat} : ∀ σ H Q, tG c Wx (rD c) (fun ρ => lift (getV ρ i)) σ H Q → tVar i σ H Q := fun σ H Q ⟨W, ρ, s, r, a⟩ => by
  obtain ⟨d, e, a⟩ := a.lift_some
  unfold getV at e
  split at e
  · rename_i d' q
    cases e
    obtain ⟨v, e1, h1⟩ := r.val i d q
    exact ⟨v, e1, a v W H (Grow.refl _ _) r.wd r.ds h1⟩
  · cases e
theorem tBor_of {i : Nat} : ∀ σ H Q, tG c Wx (rB c) (fun ρ => lift (getB ρ i)) σ H Q → tVar i σ H Q := fun σ H Q ⟨W, ρ, s, r, a⟩ => by
  obtain ⟨d, e, a⟩ := a.lift_some
  unfold getB at e
  split at e
  · rename_i d' q
    cases e
    obtain ⟨v, e1, h1⟩ := r.val i d q
    exact ⟨v, e1, a v W H (Grow.refl _ _) r.wd r.ds (.inl h1)⟩
  · rename_i xs q
    cases e
    obtain ⟨p, vs, e1, h1, h2, h3, h4, _⟩ := r.own i xs q
    exact ⟨.ref p, e1, a _ W H (Grow.refl _ _) r.wd r.ds (.inr ⟨p, vs, xs, rfl, rfl, h1, h2, h4⟩)⟩
  · cases e

/-! ### operators -/
variable {a b e : Expr} {f g h : Rho → M D}
theorem r_bin {op : Operator} {F : D → D → Option D} {r : R2} (ho : OpR X (binaryOp op) r) (hp : Prim2 c (rB c) F r) (ha : PE X a (tG c Wx (rB c) f)) (hb : PE X b (tG c Wx (rD c) g)) :
    PE X (.BinOp a op b pos) (tG c Wx (rD c) fun ρ => bind (f ρ) fun x => bind (g ρ) fun y => lift (F x y)) :=
  (pe_op ho ha hb).imp fun σ H Q q => (tG.seq free_D q (rB c)).monoQ fun v H1 ⟨W, H, W1, ρ, s, s1, d1, r, gr, r1, h1, k⟩ =>
    ⟨W1, ρ, s1, r1, (k.bind (rD c)).monoQ fun u H2 ⟨d2, s2, W2, _, g2, w2, ds2, h2, k2⟩ => by
      obtain ⟨d, e, k2⟩ := k2.lift_some
      have h1' : rB c W H W2 H2 d1 v := by
        rcases h1 with h1 | ⟨p, vs, xs, e1, e2, e3, e4, e5⟩
        · exact .inl (Den.mono g2 r1.wd _ _ h1)
        · refine .inr ⟨p, vs, xs, e1, e2, g2.keep _ _ e3 e5, DenL.mono g2 r1.wd _ _ e4, fun z => ?_⟩
          rcases g2.aN p z with z | z
          · exact e5 z
          · rw [e3] at z; cases z
      exact hp W W2 H H2 s2 d1 d2 d v u Q e w2 ds2 h1' h2 fun v' W' H' g' w' ds' hv => k2 v' W' H' g' w' ds' ⟨g', hv⟩⟩
/-- a borrowed value further on -/
theorem rB.mono {W0 W W' : Wd} {H0 H H' : Hp} {d : D} {v : V} (h1 : rB c W0 H0 W H d v) (g2 : Grow W H W' H') (w : WOk W H) : rB c W0 H0 W' H' d v := by
  rcases h1 with h1 | ⟨p, vs, xs, e1, e2, e3, e4, e5⟩
  · exact .inl (Den.mono g2 w _ _ h1)
  · refine .inr ⟨p, vs, xs, e1, e2, g2.keep _ _ e3 e5, DenL.mono g2 w _ _ e4, fun z => ?_⟩
    rcases g2.aN p z with z | z
    · exact e5 z
    · rw [e3] at z; cases z
/-- the test of a comparison -/
theorem cmp_core {F : D → D → Option Bool} {r : R2} (hp : PrimC c (rB c) (rB c) F r) {σ : L2.St} {H : Hp} {Q : VK}
    (q : tG c Wx (rD c) (fun ρ => bind (f ρ) fun x => bind (g ρ) fun y => bind (lift (F x y)) fun k => ret (.bl k)) σ H Q) :
    tOp r (tG c Wx (rB c) f) (tG c Wx (rB c) g) σ H Q :=
  (tG.seq free_D q (rB c)).monoQ fun v H1 ⟨W, H, W1, ρ, s, s1, d1, r, gr, r1, h1, k⟩ =>
    ⟨W1, ρ, s1, r1, (k.bind (rB c)).monoQ fun u H2 ⟨d2, s2, W2, _, g2, w2, ds2, h2, k2⟩ => by
      cases e : F d1 d2 with
      | none => rw [e] at k2; exact False.elim k2
      | some bb =>
        rw [e, lift_some, ret_bind] at k2
        exact hp W W2 H H2 s2 d1 d2 bb v u Q e w2 ds2 (h1.mono g2 r1.wd) h2 (k2 (.bl bb) W2 H2 (Grow.refl _ _) w2 ds2 ⟨Grow.refl _ _, Den.mkBl⟩)⟩
theorem r_cmp {op : CmpOp} {F : D → D → Option Bool} {r : R2} (ho : OpR X (compareOp op) r) (hp : PrimC c (rB c) (rB c) F r) (hm : behindInMarks op b = false) (ha : PE X a (tG c Wx (rB c) f)) (hb : PE X b (tG c Wx (rB c) g)) :
    PE X (.Compare a [op] [b] pos) (tG c Wx (rD c) fun ρ => bind (f ρ) fun x => bind (g ρ) fun y => bind (lift (F x y)) fun k => ret (.bl k)) :=
  (pe_cmpR ho ha hb hm).imp fun σ H Q q => cmp_core hp q
/-- an evaluator's test -/
def tst (f : Rho → M D) : Rho → M Bool := fun ρ => bind (f ρ) toB
/-- a test from its value -/
theorem tst_of {σ : L2.St} {H : Hp} {Q : Bool → Hp → Prop} (q : tG c Wx rT (tst f) σ H Q) : tG c Wx (rD c) f σ H fun x H1 => ∃ k, x = .bl k ∧ Q k H1 := by
  refine (tG.seq free_T q (rD c)).monoQ fun v H1 ⟨W, H, W1, ρ, s, s1, d1, r, gr, r1, h1, k⟩ => ?_
  unfold toB at k
  split at k
  · rename_i bb
    rw [den_bl h1]
    exact ⟨bb, rfl, k bb W1 H1 (Grow.refl _ _) r1.wd r1.ds rfl⟩
  · exact False.elim k
theorem rt_val (he : ∀ whole, isTrue e X.env whole = (do let v ← whole; standAt e.pos; holding [v] (truthy v))) (h : PE X e (tG c Wx (rD c) f)) : PT X e (tG c Wx rT (tst f)) :=
  (pt_val h he).imp fun σ H Q q => tst_of q
theorem rt_cmp {op : CmpOp} {F : D → D → Option Bool} {r : R2} (ho : OpR X (compareOp op) r) (hp : PrimC c (rB c) (rB c) F r) (hm : behindInMarks op b = false) (ha : PE X a (tG c Wx (rB c) f)) (hb : PE X b (tG c Wx (rB c) g)) :
    PT X (.Compare a [op] [b] pos) (tG c Wx rT (tst fun ρ => bind (f ρ) fun x => bind (g ρ) fun y => bind (lift (F x y)) fun k => ret (.bl k))) :=
  (pt_cmpR ho ha hb hm).imp fun σ H Q q => cmp_core hp (tst_of q)

/-! ### tests: not, and, or -/
theorem toB_bl {σ : L2.St} {W : Wd} {H : Hp} {s : DS} {α : Type} {β : Type} {R : Rl α β} {Q : β → Hp → Prop} {d : D} {k : Bool → M α} (h : At c Wx R σ W H (bind (toB d) k s) Q) : ∃ b, d = .bl b ∧ At c Wx R σ W H (k b s) Q := by
  unfold toB at h
  split at h
  · exact ⟨_, rfl, h⟩
  · exact False.elim h
theorem pe_rnot (h : PE X a (tG c Wx (rD c) f)) : PE X (.UnaryOp .Not a pos) (tG c Wx (rD c) fun ρ => bind (f ρ) fun x => bind (toB x) fun b => ret (.bl (!b))) :=
  (pe_not h).imp fun σ H Q q => (tG.seq free_D q (rD c)).monoQ fun v H1 ⟨W, H, W1, ρ, s, s1, d1, r, gr, r1, h1, k⟩ => by
    obtain ⟨bb, rfl, k⟩ := toB_bl k
    rw [den_bl h1]
    exact ⟨bb, rfl, k _ W1 H1 (Grow.refl _ _) r1.wd r1.ds Den.mkBl⟩
/-- what follows a test -/
theorem tst_seq {α β : Type} {R : Rl α β} {σ : L2.St} {H : Hp} {Q : β → Hp → Prop} {k : Rho → Bool → M α} (hF : Free R) (q : tG c Wx R (fun ρ => bind (f ρ) fun x => bind (toB x) fun b => k ρ b) σ H Q) :
    tG c Wx rT (tst f) σ H (fun bb H1 => tG c Wx R (fun ρ => k ρ bb) σ H1 Q) := by
  have e : (fun ρ => bind (f ρ) fun x => bind (toB x) fun b => k ρ b) = fun ρ => bind (tst f ρ) (k ρ) := by
    funext ρ
    unfold tst
    rw [bind_assoc]
  rw [e] at q
  exact (tG.seq hF q rT).monoQ fun v H1 ⟨W, H, W1, ρ, s, s1, d1, r, gr, r1, h1, z⟩ => by
    cases h1
    exact ⟨W1, ρ, s1, r1, z⟩
theorem rt_not (h : PT X a (tG c Wx rT (tst f))) : PT X (.UnaryOp .Not a pos) (tG c Wx rT (tst fun ρ => bind (f ρ) fun x => bind (toB x) fun b => ret (.bl (!b)))) :=
  (pt_not h).imp fun σ H Q q => by
    have e : (tst fun ρ => bind (f ρ) fun x => bind (toB x) fun b => ret (.bl (!b))) = fun ρ => bind (f ρ) fun x => bind (toB x) fun b => ret (!b) := by
      funext ρ
      unfold tst
      rw [bind_assoc]
      congr 1
      funext x
      rw [bind_assoc]
      rfl
    rw [e] at q
    exact (tst_seq free_T q).monoQ fun bb H1 ⟨W, ρ, s, r, a⟩ => a (!bb) W _ (Grow.refl _ _) r.wd r.ds rfl
theorem rt_and {rest : List Expr} (ha : PT X a (tG c Wx rT (tst f))) (hb : PW X (.BoolOp .And (b :: rest) pos) (tG c Wx rT (tst g))) :
    PW X (.BoolOp .And (a :: b :: rest) pos) (tG c Wx rT (tst fun ρ => bind (f ρ) fun x => bind (toB x) fun k => if k = true then g ρ else ret (.bl false))) :=
  (pw_and ha hb).imp fun σ H Q q => by
    have e : (tst fun ρ => bind (f ρ) fun x => bind (toB x) fun k => if k = true then g ρ else ret (.bl false)) = fun ρ => bind (f ρ) fun x => bind (toB x) fun k => if k = true then tst g ρ else ret false := by
      funext ρ
      unfold tst
      rw [bind_assoc]
      congr 1
      funext x
      rw [bind_assoc]
      congr 1
      funext k
      cases k <;> rfl
    rw [e] at q
    refine (tst_seq free_T q).monoQ fun bb H1 z => ?_
    cases bb with
    | true => exact z
    | false =>
      obtain ⟨W, ρ, s, r, a⟩ := z
      exact a false W _ (Grow.refl _ _) r.wd r.ds rfl
theorem rt_or {rest : List Expr} (ha : PT X a (tG c Wx rT (tst f))) (hb : PW X (.BoolOp .Or (b :: rest) pos) (tG c Wx rT (tst g))) :
    PW X (.BoolOp .Or (a :: b :: rest) pos) (tG c Wx rT (tst fun ρ => bind (f ρ) fun x => bind (toB x) fun k => if k = true then ret (.bl true) else g ρ)) :=
  (pw_or ha hb).imp fun σ H Q q => by
    have e : (tst fun ρ => bind (f ρ) fun x => bind (toB x) fun k => if k = true then ret (.bl true) else g ρ) = fun ρ => bind (f ρ) fun x => bind (toB x) fun k => if k = true then ret true else tst g ρ := by
      funext ρ
      unfold tst
      rw [bind_assoc]
      congr 1
      funext x
      rw [bind_assoc]
      congr 1
      funext k
      cases k <;> rfl
    rw [e] at q
    refine (tst_seq free_T q).monoQ fun bb H1 z => ?_
    cases bb with
    | false => exact z
    | true =>
      obtain ⟨W, ρ, s, r, a⟩ := z
      exact a true W _ (Grow.refl _ _) r.wd r.ds rfl
/-- .. as values -/
theorem val_seq {σ : L2.St} {H : Hp} {Q : VK} {k : Rho → Bool → M D} (q : tG c Wx (rD c) (fun ρ => bind (f ρ) fun x => bind (toB x) fun b => k ρ b) σ H Q) :
    tG c Wx (rD c) f σ H (fun x H1 => ∃ bb, x = .bl bb ∧ tG c Wx (rD c) (fun ρ => k ρ bb) σ H1 Q) :=
  (tG.seq free_D q (rD c)).monoQ fun v H1 ⟨W, H, W1, ρ, s, s1, d1, r, gr, r1, h1, z⟩ => by
    obtain ⟨bb, rfl, z⟩ := toB_bl z
    exact ⟨bb, den_bl h1, W1, ρ, s1, r1, z⟩
theorem pe_rand {rest : List Expr} (ha : PE X a (tG c Wx (rD c) f)) (hb : PE X (.BoolOp .And (b :: rest) pos) (tG c Wx (rD c) g)) :
    PE X (.BoolOp .And (a :: b :: rest) pos) (tG c Wx (rD c) fun ρ => bind (f ρ) fun x => bind (toB x) fun k => if k = true then g ρ else ret (.bl false)) :=
  (pe_and ha hb).imp fun σ H Q q => (val_seq q).monoQ fun v H1 ⟨bb, e, z⟩ => ⟨bb, e, by
    cases bb with
    | true => exact z
    | false =>
      obtain ⟨W, ρ, s, r, a⟩ := z
      exact a _ W _ (Grow.refl _ _) r.wd r.ds Den.mkBl⟩
theorem pe_ror {rest : List Expr} (ha : PE X a (tG c Wx (rD c) f)) (hb : PE X (.BoolOp .Or (b :: rest) pos) (tG c Wx (rD c) g)) :
    PE X (.BoolOp .Or (a :: b :: rest) pos) (tG c Wx (rD c) fun ρ => bind (f ρ) fun x => bind (toB x) fun k => if k = true then ret (.bl true) else g ρ) :=
  (pe_or ha hb).imp fun σ H Q q => (val_seq q).monoQ fun v H1 ⟨bb, e, z⟩ => ⟨bb, e, by
    cases bb with
    | false => exact z
    | true =>
      obtain ⟨W, ρ, s, r, a⟩ := z
      exact a _ W _ (Grow.refl _ _) r.wd r.ds Den.mkBl⟩
theorem pe_rif {e : Expr} (hc : PT X e (tG c Wx rT (tst f))) (ha : PE X a (tG c Wx (rD c) g)) (hb : PE X b (tG c Wx (rD c) h)) :
    PE X (.IfExp e a b pos) (tG c Wx (rD c) fun ρ => bind (f ρ) fun x => bind (toB x) fun k => if k = true then g ρ else h ρ) :=
  (pe_ifExp hc ha hb).imp fun σ H Q q => (tst_seq free_D q).monoQ fun bb H1 z => by
    cases bb with
    | true => exact z
    | false => exact z
theorem pe_rneg (h : PE X a (tG c Wx (rD c) f)) : PE X (.UnaryOp .USub a pos) (tG c Wx (rD c) fun ρ => bind (f ρ) fun x => lift (negD x)) :=
  (pe_un un_neg h).imp fun σ H Q q => (tG.seq free_D q (rD c)).monoQ fun v H1 ⟨W, H, W1, ρ, s, s1, d1, r, gr, r1, h1, k⟩ => by
    obtain ⟨d, e, k⟩ := k.lift_some
    unfold negD at e
    split at e
    · cases e
      rw [den_int h1]
      exact ⟨_, rfl, k _ W1 H1 (Grow.refl _ _) r1.wd r1.ds Den.mkInt⟩
    · cases e
/-- a op b op' c -/
theorem chain_core {F F' : D → D → Option Bool} {r r' : R2} (hp : PrimC c (rB c) (rB c) F r) (hp' : PrimC c (rB c) (rB c) F' r') {σ : L2.St} {H : Hp} {Q : VK}
    (q : tG c Wx (rD c) (fun ρ => bind (f ρ) fun x => bind (g ρ) fun y => bind (lift (F x y)) fun k => if k = true then bind (h ρ) fun z => bind (lift (F' y z)) fun k' => ret (.bl k') else ret (.bl false)) σ H Q) :
    tChain r r' (tG c Wx (rB c) f) (tG c Wx (rB c) g) (tG c Wx (rB c) h) σ H Q :=
  (tG.seq free_D q (rB c)).monoQ fun v H1 ⟨W, H, W1, ρ, s, s1, d1, r, gr, r1, h1, k⟩ =>
    ⟨W1, ρ, s1, r1, (k.bind (rB c)).monoQ fun u H2 ⟨d2, s2, W2, _, g2, w2, ds2, h2, k2⟩ => by
      cases e : F d1 d2 with
      | none => rw [e] at k2; exact False.elim k2
      | some bb =>
        rw [e, lift_some, ret_bind] at k2
        refine hp W W2 H H2 s2 d1 d2 bb v u _ e w2 ds2 (h1.mono g2 r1.wd) h2 ⟨bb, rfl, ?_⟩
        cases bb with
        | false => exact k2 _ W2 H2 (Grow.refl _ _) w2 ds2 ⟨Grow.refl _ _, Den.mkBl⟩
        | true =>
          refine ⟨W2, ρ, s2, r1.mono g2 w2 ds2, (At.bind (m := h ρ) (R' := rD c) (show At c Wx (rD c) σ W2 H2 (PV.bind (h ρ) (fun z => PV.bind (lift (F' d2 z)) fun k' => ret (.bl k')) s2) Q from k2.weaken fun W' H' d' v' g' q' => ⟨g', q'⟩) (rB c)).monoQ fun x H3 ⟨d3, s3, W3, _, g3, w3, ds3, h3, k3⟩ => ?_⟩
          cases e' : F' d2 d3 with
          | none => rw [e'] at k3; exact False.elim k3
          | some b3 =>
            rw [e', lift_some, ret_bind] at k3
            exact hp' W W3 H H3 s3 d2 d3 b3 u x Q e' w3 ds3 (rB.mono h2 g3 w2) h3 (k3 _ W3 H3 (Grow.refl _ _) w3 ds3 ⟨Grow.refl _ _, Den.mkBl⟩)⟩
theorem r_chain {op op' : CmpOp} {e : Expr} {F F' : D → D → Option Bool} {r r' : R2} (ho : OpR X (compareOp op) r) (ho' : OpR X (compareOp op') r') (hp : PrimC c (rB c) (rB c) F r) (hp' : PrimC c (rB c) (rB c) F' r') (hm : lastMarks [op, op'] [b, e] = false)
    (ha : PE X a (tG c Wx (rB c) f)) (hb : PE X b (tG c Wx (rB c) g)) (hc : PE X e (tG c Wx (rB c) h)) :
    PE X (.Compare a [op, op'] [b, e] pos) (tG c Wx (rD c) fun ρ => bind (f ρ) fun x => bind (g ρ) fun y => bind (lift (F x y)) fun k => if k = true then bind (h ρ) fun z => bind (lift (F' y z)) fun k' => ret (.bl k') else ret (.bl false)) :=
  (pe_chain ho ho' ha hb hc hm).imp fun σ H Q q => chain_core hp hp' q
theorem rt_chain {op op' : CmpOp} {e : Expr} {F F' : D → D → Option Bool} {r r' : R2} (ho : OpR X (compareOp op) r) (ho' : OpR X (compareOp op') r') (hp : PrimC c (rB c) (rB c) F r) (hp' : PrimC c (rB c) (rB c) F' r') (hm : lastMarks [op, op'] [b, e] = false)
    (ha : PE X a (tG c Wx (rB c) f)) (hb : PE X b (tG c Wx (rB c) g)) (hc : PE X e (tG c Wx (rB c) h)) :
    PT X (.Compare a [op, op'] [b, e] pos) (tG c Wx rT (tst fun ρ => bind (f ρ) fun x => bind (g ρ) fun y => bind (lift (F x y)) fun k => if k = true then bind (h ρ) fun z => bind (lift (F' y z)) fun k' => ret (.bl k') else ret (.bl false))) :=
  (pt_chain ho ho' ha hb hc hm).imp fun σ H Q q => chain_core hp hp' (tst_of q)

/-! ### lists of expressions, displays -/
variable {es : List Expr} {fs : Rho → M (List D)}
theorem pa_rnil : PA X [] (tG c Wx (rL c) fun _ => ret []) := pa_nil.imp fun σ H Q ⟨W, ρ, s, r, a⟩ => a [] W H (Grow.refl _ _) r.wd r.ds DenL.nil
theorem pa_rcons (ha : PE X a (tG c Wx (rD c) f)) (hr : PA X es (tG c Wx (rL c) fs)) (hs : starEach (a :: es) X.env = (false, eval a X.env) :: starEach es X.env) :
    PA X (a :: es) (tG c Wx (rL c) fun ρ => bind (f ρ) fun x => bind (fs ρ) fun xs => ret (x :: xs)) :=
  (pa_cons ha hr hs).imp fun σ H Q q => (tG.seq free_L q (rD c)).monoQ fun v H1 ⟨W, H, W1, ρ, s, s1, d1, r, gr, r1, h1, k⟩ =>
    ⟨W1, ρ, s1, r1, (k.bind (rL c)).monoQ fun us H2 ⟨d2, s2, W2, _, g2, w2, ds2, h2, k2⟩ =>
      k2 _ W2 H2 (Grow.refl _ _) w2 ds2 ⟨Grow.refl _ _, DenL.cons (Den.mono g2 r1.wd _ _ h1) h2⟩⟩
theorem pe_rtup {k : Nat} (h : PA X es (tG c Wx (rL c) fs)) : PE X (.Tuple es k pos) (tG c Wx (rD c) fun ρ => bind (fs ρ) fun xs => if xs.length ≤ sizeLine then ret (.tup xs) else stuck) :=
  (pe_tup h).imp fun σ H Q q => (tG.seq free_D q (rL c)).monoQ fun vs H1 ⟨W, H, W1, ρ, s, s1, d1, r, gr, r1, h1, k⟩ => by
    have h1 : DenL c.K W1 H1 d1 vs := h1
    split at k
    · rename_i hz
      exact ⟨by rw [h1.length]; exact hz, fun p hp => Kont.newT (c := c) (xs := d1) k r1.wd r1.ds h1 hp⟩
    · exact False.elim k
theorem pe_rlstN (h : PA X es (tG c Wx (rL c) fs)) : PE X (.List es pos) (tG c Wx (rN c) fun ρ => bind (fs ρ) fun xs => if xs.length ≤ sizeLine then ret (.lst xs) else stuck) :=
  (pe_lst h).imp fun σ H Q q => (tG.seq free_N q (rL c)).monoQ fun vs H1 ⟨W, H, W1, ρ, s, s1, d1, r, gr, r1, h1, k⟩ => by
    have h1 : DenL c.K W1 H1 d1 vs := h1
    split at k
    · rename_i hz
      refine ⟨by rw [h1.length]; exact hz, fun p hp => k _ W1 _ (Grow.upd hp) (r1.wd.upd hp) (r1.ds.upd r1.wd hp) ⟨p, vs, d1, rfl, rfl, hp, upd_same, DenL.mono (Grow.upd hp) r1.wd _ _ h1, fun z => ?_, fun z => ?_⟩⟩
      · obtain ⟨o, e⟩ := r1.wd.iS p z
        rw [hp] at e; cases e
      · obtain ⟨⟨l, e⟩, _⟩ := r1.wd.aL p z
        rw [hp] at e; cases e
    · exact False.elim k

/-! ### subscripts -/
theorem atI_den {K : PySem.W.Frag} {W : Wd} {H : Hp} {xs : List D} {vs : List V} {i : Int} {d : D} (l : DenL K W H xs vs) (e : L2.atI xs i = some d) : ∃ v, L2.atI vs i = some v ∧ Den K W H d v := by
  unfold L2.atI at e ⊢
  rw [l.length]
  obtain ⟨j, e1, e2⟩ := Option.bind_eq_some_iff.mp e
  obtain ⟨v, e3, h⟩ := l.get e2
  exact ⟨v, by rw [e1]; exact e3, h⟩
theorem prim_idx : Prim2 c (rB c) idxD (rIx c.K) := by
  intro W0 W H0 H s d1 d2 d v u Q e w ds h1 h2 k
  unfold idxD at e
  split at e
  · obtain ⟨a, vs, rfl, h1, l⟩ := rB_lst h1
    obtain ⟨x, e', hx⟩ := atI_den l e
    exact .inl ⟨a, vs, _, x, rfl, den_int h2, SqL.of h1, e', k.here w ds hx⟩
  · obtain ⟨a, vs, rfl, h1, l⟩ := den_tup (rB_den h1 (by simp))
    obtain ⟨x, e', hx⟩ := atI_den l e
    exact .inr (.inl ⟨a, vs, _, x, rfl, den_int h2, h1, e', k.here w ds hx⟩)
  · split at e
    · obtain ⟨x, e', rfl⟩ := Option.map_eq_some_iff.mp e
      exact .inr (.inr ⟨_, _, x, den_str (rB_den h1 (by simp)), den_int h2, by assumption, e', k.here w ds Den.mkStr⟩)
    · cases e
  · cases e
theorem r_idx (hs : PlainIx b) (ha : PE X a (tG c Wx (rB c) f)) (hb : PE X b (tG c Wx (rD c) g)) (hK : X.K = c.K) :
    PE X (.Subscript a b pos) (tG c Wx (rD c) fun ρ => bind (f ρ) fun x => bind (g ρ) fun y => lift (idxD x y)) :=
  (pe_ix ix_seq ha hb hs).imp fun σ H Q q => (tG.seq free_D q (rB c)).monoQ fun v H1 ⟨W, H, W1, ρ, s, s1, d1, r, gr, r1, h1, k⟩ =>
    ⟨W1, ρ, s1, r1, (k.bind (rD c)).monoQ fun u H2 ⟨d2, s2, W2, _, g2, w2, ds2, h2, k2⟩ => by
      obtain ⟨d, e, k2⟩ := k2.lift_some
      rw [hK]
      exact prim_idx W W2 H H2 s2 d1 d2 d v u Q e w2 ds2 (h1.mono g2 r1.wd) h2 fun v' W' H' g' w' ds' hv => k2 v' W' H' g' w' ds' ⟨g', hv⟩⟩
/-- a slice's part -/
def rP : Rl (Option Int) (Option Int) := fun _ _ _ _ a b => a = b
theorem po_rnone : PO X none (tG c Wx rP fun ρ => bind (ret D.non) fun l => lift (partD true l)) := ⟨fun pins s σ H Q I h => po_none.run pins s σ H Q I (by
  obtain ⟨W, ρ, s, r, a⟩ := h
  exact a none W H (Grow.refl _ _) r.wd r.ds rfl)⟩
theorem po_rsome (ha : PE X a (tG c Wx (rD c) f)) : PO X (some a) (tG c Wx rP fun ρ => bind (f ρ) fun l => lift (partD false l)) := ⟨fun pins s σ H Q I h => (po_some ha).run pins s σ H Q I
  ((tG.seq (R' := rP) ⟨fun _ _ _ _ _ _ _ _ _ h => h⟩ h (rD c)).monoQ fun v H1 ⟨W, H, W1, ρ, s, s1, d1, r, gr, r1, h1, k⟩ => by
    obtain ⟨o, e, k⟩ := k.lift_some
    unfold partD at e
    split at e
    · simp at e
      subst e
      exact ⟨_, den_int h1, k _ W1 H1 (Grow.refl _ _) r1.wd r1.ds rfl⟩
    · simp at e)⟩
theorem cut_den {K : PySem.W.Frag} {W : Wd} {H : Hp} {xs : List D} {vs : List V} {lo hi : Option Int} (l : DenL K W H xs vs) : DenL K W H (cutD xs lo hi) (cutV vs lo hi) := by
  unfold cutD cutV
  rw [l.length]
  exact (l.drop _).take _
def rSlAll (K : PySem.W.Frag) : V → Option Int → Option Int → Hp → VK → Prop := fun x lo hi H Q => rSlL K x lo hi H Q ∨ rSlA K x lo hi H Q ∨ rSlS x lo hi H Q
theorem sl_all : SlR X (rSlAll X.K) := SlR.or sl_list (SlR.or sl_tupA sl_str)
theorem cut_whole {α : Type} (xs : List α) : (xs.drop 0).take (xs.length - 0) = xs := by simp
theorem r_slc {p2 : Pos} {lo hi : Option Expr} {fl fh : Rho → M (Option Int)} (ha : PE X a (tG c Wx (rB c) f)) (hl : PO X lo (tG c Wx rP fl)) (hh : PO X hi (tG c Wx rP fh)) (hK : X.K = c.K) :
    PE X (.Subscript a (.Slice lo hi none p2) pos) (tG c Wx (rD c) fun ρ => bind (f ρ) fun x => bind (fl ρ) fun l => bind (fh ρ) fun h => lift (slcD x l h)) :=
  (pe_slice sl_all ha hl hh).imp fun σ H Q q => (tG.seq free_D q (rB c)).monoQ fun v H1 ⟨W, H, W1, ρ, s, s1, d1, r, gr, r1, h1, k⟩ =>
    ⟨W1, ρ, s1, r1, (k.bind rP).monoQ fun l H2 ⟨l', s2, W2, _, g2, w2, ds2, hl, k2⟩ =>
      ⟨W2, ρ, s2, r1.mono g2 w2 ds2, (k2.bind rP).monoQ fun u H3 ⟨u', s3, W3, _, g3, w3, ds3, hu, k3⟩ => by
        cases hl; cases hu
        obtain ⟨d, e, k3⟩ := k3.lift_some
        rw [hK]
        have h1 := (h1.mono g2 r1.wd).mono g3 w2
        have kk : Kont c W3 H3 s3 d Q := fun v' W' H' g' w' ds' hv => k3 v' W' H' g' w' ds' ⟨g', g3.trans g', hv⟩
        unfold slcD at e
        split at e
        · cases e
          obtain ⟨p, vs, rfl, h1, lx⟩ := rB_lst h1
          exact .inl ⟨p, vs, rfl, SqL.of h1, fun p hp => kk.newL w3 ds3 (cut_den lx) hp⟩
        · cases e
          obtain ⟨p, vs, rfl, h1, lx⟩ := den_tup (rB_den h1 (by simp))
          refine .inr (.inl ⟨p, vs, rfl, h1, fun z => ?_, fun _ p hp => kk.newT w3 ds3 (cut_den lx) hp⟩)
          have e2 : ∀ ys : List D, DenL c.K W3 H3 ys vs → cutD ys l u = ys := fun ys ly => by
            unfold cutD
            rw [← ly.length, z.1, z.2]
            rw [ly.length]
            exact cut_whole ys
          rw [e2 _ lx] at kk
          exact kk.here w3 ds3 (Den.mkTup h1 lx)
        · split at e
          · cases e
            exact .inr (.inr ⟨_, den_str (rB_den h1 (by simp)), by assumption, kk.here w3 ds3 Den.mkStr⟩)
          · cases e
        · cases e⟩⟩
theorem r_rev {k : Nat} {p1 p2 p3 : Pos} (ha : PE X a (tG c Wx (rB c) f)) (hK : X.K = c.K) :
    PE X (.Subscript a (.Slice none none (some (.UnaryOp .USub (.Constant (.int 1) k p1) p2)) p3) pos) (tG c Wx (rD c) fun ρ => bind (f ρ) fun x => lift (revD x)) :=
  (pe_revL ha).imp fun σ H Q q => (tG.seq free_D q (rB c)).monoQ fun v H1 ⟨W, H, W1, ρ, s, s1, d1, r, gr, r1, h1, k⟩ => by
    obtain ⟨d, e, k⟩ := k.lift_some
    unfold revD at e
    split at e
    · cases e
      obtain ⟨p, vs, rfl, h1, lx⟩ := rB_lst h1
      exact ⟨p, vs, rfl, SqL.of h1, fun p hp => Kont.newL (c := c) (s := s1) (fun v' W' H' g' w' ds' hv => k v' W' H' g' w' ds' hv) r1.wd r1.ds lx.reverse hp⟩
    · cases e
end
end PV

set_option Elab.async false
set_option linter.all false
set_option maxRecDepth 100000
/-! PV5: built-ins, calls of defs, what is walked. -/
namespace PV
open PySem PySem.Spec PyProof.Rows L2

/-- a built-in of one value keeps to F -/
def Prim1 (c : Cc) (R1 : Rl D V) (F : D → Option D) (r : List V → Hp → VK → Prop) : Prop :=
  ∀ (W0 W : Wd) (H0 H : Hp) (s : DS) (d1 d : D) (v : V) (Q : VK), F d1 = some d → WOk W H → DsR c.K W H s → R1 W0 H0 W H d1 v → Kont c W H s d Q → r [v] H Q

/-- one argument -/
def r1 (R : Rl D V) : Rl D (List V) := fun W H W' H' d vs => ∃ v, vs = [v] ∧ R W H W' H' d v
section
variable {X : Cx} {c : Cc} {Wx : WX} {pos : Pos} {a b e : Expr} {f g : Rho → M D}
theorem pa_r1 {R : Rl D V} (ha : PE X a (tG c Wx R f)) (hs : starEach [a] X.env = (false, eval a X.env) :: starEach [] X.env) : PA X [a] (tG c Wx (r1 R) f) :=
  (pa_cons ha pa_nil hs).imp fun σ H Q ⟨W, ρ, s, r, k⟩ => ⟨W, ρ, s, r, by
    unfold At at k ⊢
    split
    · rename_i q; rw [q] at k; exact k
    · rename_i d s' q
      rw [q] at k
      exact fun v W' H' g w ds hv => k [v] W' H' g w ds ⟨v, rfl, hv⟩
    · rename_i ex s' q; rw [q] at k; exact k⟩
/-- the call of a built-in function or type with one argument, by its rule -/
theorem blt_core {R : Rl D V} {F : D → Option D} {r : List V → Hp → VK → Prop} (hp : Prim1 c R F r) {σ : L2.St} {H : Hp} {Q : VK} (q : tG c Wx (rD c) (fun ρ => bind (f ρ) fun x => lift (F x)) σ H Q) :
    tCB r (tG c Wx (r1 R) f) σ H Q :=
  (tG.seq free_D q (r1 R)).monoQ fun vs H1 ⟨W, H, W1, ρ, s, s1, d1, rr, gr, rr1, ⟨v, e, h1⟩, k⟩ => by
    subst e
    obtain ⟨d, e, k⟩ := k.lift_some
    exact hp W W1 H H1 s1 d1 d v Q e rr1.wd rr1.ds h1 fun v' W' H' g' w' ds' hv => k v' W' H' g' w' ds' hv
theorem rB_seq {c : Cc} {W0 W : Wd} {H0 H : Hp} {d : D} {v : V} (h : rB c W0 H0 W H d v) : (∀ ys, d = .lst ys → ∃ a vs, v = .ref a ∧ SqL c.K H a vs ∧ DenL c.K W H ys vs) ∧ (∀ ys, d = .tup ys → ∃ a vs, v = .ref a ∧ SqT c.K H a vs ∧ DenL c.K W H ys vs) :=
  ⟨fun ys e => by subst e; obtain ⟨a, vs, e, h1, h2⟩ := rB_lst h; exact ⟨a, vs, e, SqL.of h1, h2⟩, fun ys e => by subst e; exact den_tup (rB_den h (by simp))⟩

/-! ### len, abs, int, str, list, tuple, all, any -/
def rLenA (K : PySem.W.Frag) : List V → Hp → VK → Prop := fun xs H Q => (∃ p ys, xs = [.ref p] ∧ (SqL K H p ys ∨ SqT K H p ys) ∧ Q (.int ys.length) H) ∨ (∃ z, xs = [.str z] ∧ z.length ≤ sizeLine ∧ Q (.int z.length) H)
theorem call_lenA : CallR X (.builtin "len") (rLenA X.K) := call_len_seq.or call_len_str
theorem prim_len : Prim1 c (rB c) (bltD .len) (rLenA c.K) := by
  intro W0 W H0 H s d1 d v Q e w ds h k
  simp only [bltD] at e
  split at e
  · cases e
    obtain ⟨a, vs, rfl, h1, l⟩ := (rB_seq h).1 _ rfl
    exact .inl ⟨a, vs, rfl, .inl h1, by rw [l.length]; exact k.here w ds Den.mkInt⟩
  · cases e
    obtain ⟨a, vs, rfl, h1, l⟩ := (rB_seq h).2 _ rfl
    exact .inl ⟨a, vs, rfl, .inr h1, by rw [l.length]; exact k.here w ds Den.mkInt⟩
  · split at e
    · cases e
      rw [den_str (rB_den h (by simp))]
      exact .inr ⟨_, rfl, by assumption, k.here w ds Den.mkInt⟩
    · cases e
  · cases e
theorem prim_abs : Prim1 c (rB c) (bltD .abs) (fun xs H Q => ∃ i, xs = [.int i] ∧ Q (.int (if i < 0 then -i else i)) H) := by
  intro W0 W H0 H s d1 d v Q e w ds h k
  simp only [bltD] at e
  split at e
  · cases e
    rw [den_int (rB_den h (by simp))]
    exact ⟨_, rfl, k.here w ds Den.mkInt⟩
  · cases e
def rIntA : List V → Hp → VK → Prop := fun xs H Q => ((∃ i, xs = [.int i] ∧ Q (.int i) H) ∨ ∃ k, xs = [.bl k] ∧ Q (.int (if k then 1 else 0)) H) ∨ (∃ a n, xs = [.str a] ∧ PySem.intText? a = some n ∧ a.length ≤ 640 ∧ Q (.int n) H)
theorem call_intA : CallR X (.type "int") rIntA := call_int1.or call_int_str
theorem prim_intA : Prim1 c (rB c) (bltD .int) rIntA := by
  intro W0 W H0 H s d1 d v Q e w ds h k
  simp only [bltD] at e
  split at e
  · cases e
    rw [den_int (rB_den h (by simp))]
    exact .inl (.inl ⟨_, rfl, k.here w ds Den.mkInt⟩)
  · cases e
    rw [den_bl (rB_den h (by simp))]
    exact .inl (.inr ⟨_, rfl, k.here w ds Den.mkInt⟩)
  · split at e
    · obtain ⟨n, e', rfl⟩ := Option.map_eq_some_iff.mp e
      rw [den_str (rB_den h (by simp))]
      exact .inr ⟨_, n, rfl, e', by assumption, k.here w ds Den.mkInt⟩
    · cases e
  · cases e
theorem prim_str : Prim1 c (rB c) (bltD .str) (fun xs H Q => ∃ i, xs = [.int i] ∧ i.natAbs.log2 < 1920 ∧ Q (.str (toString i)) H) := by
  intro W0 W H0 H s d1 d v Q e w ds h k
  simp only [bltD] at e
  split at e
  · split at e
    · cases e
      rw [den_int (rB_den h (by simp))]
      exact ⟨_, rfl, by assumption, k.here w ds Den.mkStr⟩
    · cases e
  · cases e
def rListA (K : PySem.W.Frag) : List V → Hp → VK → Prop := fun xs H Q => ∃ p ys, xs = [.ref p] ∧ (SqL K H p ys ∨ SqT K H p ys) ∧ ∀ l, H l = none → Q (.ref l) (L2.upd H l (.lst ys))
theorem prim_list : Prim1 c (rB c) (bltD .list) (rListA c.K) := by
  intro W0 W H0 H s d1 d v Q e w ds h k
  simp only [bltD] at e
  split at e
  · cases e
    obtain ⟨a, vs, rfl, h1, l⟩ := (rB_seq h).1 _ rfl
    exact ⟨a, vs, rfl, .inl h1, fun p hp => k.newL w ds l hp⟩
  · cases e
    obtain ⟨a, vs, rfl, h1, l⟩ := (rB_seq h).2 _ rfl
    exact ⟨a, vs, rfl, .inr h1, fun p hp => k.newL w ds l hp⟩
  · cases e
def rTupA (K : PySem.W.Frag) : List V → Hp → VK → Prop := fun xs H Q => ∃ p ys, xs = [.ref p] ∧ ((SqL K H p ys ∧ ∀ l, H l = none → Q (.ref l) (L2.upd H l (.tup ys))) ∨ (SqT K H p ys ∧ Q (.ref p) H))
theorem prim_tuple : Prim1 c (rB c) (bltD .tuple) (rTupA c.K) := by
  intro W0 W H0 H s d1 d v Q e w ds h k
  simp only [bltD] at e
  split at e
  · cases e
    obtain ⟨a, vs, rfl, h1, l⟩ := (rB_seq h).1 _ rfl
    exact ⟨a, vs, rfl, .inl ⟨h1, fun p hp => k.newT w ds l hp⟩⟩
  · cases e
    obtain ⟨a, vs, rfl, h1, l⟩ := (rB_seq h).2 _ rfl
    exact ⟨a, vs, rfl, .inr ⟨h1, k.here w ds (Den.mkTup h1 l)⟩⟩
  · cases e
theorem prim_all : Prim1 c (rB c) (bltD .all) (rAll c.K) := by
  intro W0 W H0 H s d1 d v Q e w ds h k
  simp only [bltD] at e
  split at e
  · obtain ⟨bs, e', rfl⟩ := Option.map_eq_some_iff.mp e
    obtain ⟨a, vs, rfl, h1, l⟩ := (rB_seq h).1 _ rfl
    exact ⟨a, bs, rfl, by rw [← l.bools e']; exact h1, k.here w ds Den.mkBl⟩
  · cases e
theorem prim_any : Prim1 c (rB c) (bltD .any) (rAny c.K) := by
  intro W0 W H0 H s d1 d v Q e w ds h k
  simp only [bltD] at e
  split at e
  · obtain ⟨bs, e', rfl⟩ := Option.map_eq_some_iff.mp e
    obtain ⟨a, vs, rfl, h1, l⟩ := (rB_seq h).1 _ rfl
    exact ⟨a, bs, rfl, by rw [← l.bools e']; exact h1, k.here w ds Den.mkBl⟩
  · cases e
/-- the name of a built-in as the def's text has it -/
structure BltN (X : Cx) (x : Str) (v : Value) : Prop where
  gl : Gl X x
  mg : X.mg x = none
  bt : bootBuiltins x = some v
  nn : x ≠ "__name__"
  nd : (x == ("__debug__" : Str)) = false
theorem star1 {a : Expr} {env : Env} (hs : starEach [a] env = (false, eval a env) :: starEach [] env) (pos : Pos) : (backTo pos (starEach ([] : List Expr) env)).any (·.1) = false := rfl
theorem r_bltB {x : Str} {id : String} {p : Pos} {F : D → Option D} {r : List V → Hp → VK → Prop} (hc : CallR X (.builtin id) r) (hp : Prim1 c (rB c) F r) (n : BltN X x (.builtin id)) (ha : PE X a (tG c Wx (rB c) f)) (hs : starEach [a] X.env = (false, eval a X.env) :: starEach [] X.env) :
    PE X (.Call (.Name x p) [a] [] pos) (tG c Wx (rD c) fun ρ => bind (f ρ) fun x => lift (F x)) :=
  (pe_callB hc n.gl n.mg n.bt (pa_r1 ha hs) n.nn n.nd hs (star1 hs pos)).imp fun σ H Q q => blt_core hp q
theorem r_bltT {x : Str} {T : String} {p : Pos} {F : D → Option D} {r : List V → Hp → VK → Prop} (hc : CallR X (.type T) r) (hp : Prim1 c (rB c) F r) (n : BltN X x (.type T)) (ha : PE X a (tG c Wx (rB c) f)) (hs : starEach [a] X.env = (false, eval a X.env) :: starEach [] X.env) :
    PE X (.Call (.Name x p) [a] [] pos) (tG c Wx (rD c) fun ρ => bind (f ρ) fun x => lift (F x)) :=
  (pe_callTy hc n.gl n.mg n.bt (pa_r1 ha hs) n.nn n.nd hs (star1 hs pos)).imp fun σ H Q q => blt_core hp q
/-- list(x), a list of one's own -/
theorem r_listN {x : Str} {p : Pos} (n : BltN X x (.type "list")) (hK : X.K = c.K) (ha : PE X a (tG c Wx (rB c) f)) (hs : starEach [a] X.env = (false, eval a X.env) :: starEach [] X.env) :
    PE X (.Call (.Name x p) [a] [] pos) (tG c Wx (rN c) fun ρ => bind (f ρ) fun x => lift (bltD .list x)) :=
  (pe_callTy call_list_of n.gl n.mg n.bt (pa_r1 ha hs) n.nn n.nd hs (star1 hs pos)).imp fun σ H Q q =>
    (tG.seq free_N q (r1 (rB c))).monoQ fun vs H1 ⟨W, H, W1, ρ, s, s1, d1, rr, gr, rr1, ⟨v, e, h1⟩, k⟩ => by
      subst e
      obtain ⟨d, e, k⟩ := k.lift_some
      have fin : ∀ {ys : List D} {us : List V}, d = .lst ys → DenL c.K W1 H1 ys us → ∀ l, H1 l = none → Q (.ref l) (L2.upd H1 l (.lst us)) := fun {ys us} ed l p hp => by
        subst ed
        refine k _ W1 _ (Grow.upd hp) (rr1.wd.upd hp) (rr1.ds.upd rr1.wd hp) ⟨p, us, ys, rfl, rfl, hp, upd_same, DenL.mono (Grow.upd hp) rr1.wd _ _ l, fun z => ?_, fun z => ?_⟩
        · obtain ⟨o, e⟩ := rr1.wd.iS p z
          rw [hp] at e; cases e
        · obtain ⟨⟨l, e⟩, _⟩ := rr1.wd.aL p z
          rw [hp] at e; cases e
      simp only [bltD] at e
      split at e
      · cases e
        obtain ⟨a, vs, rfl, h1, l⟩ := (rB_seq h1).1 _ rfl
        exact ⟨a, vs, rfl, .inl (by rw [hK]; exact h1), fin rfl l⟩
      · cases e
        obtain ⟨a, vs, rfl, h1, l⟩ := (rB_seq h1).2 _ rfl
        exact ⟨a, vs, rfl, .inr (by rw [hK]; exact h1), fin rfl l⟩
      · cases e

/-! ### max, min, isinstance -/
/-- two arguments -/
theorem pa_r2 (ha : PE X a (tG c Wx (rB c) f)) (hb : PE X b (tG c Wx (rD c) g)) (hs : starEach [a, b] X.env = (false, eval a X.env) :: starEach [b] X.env) (hs2 : starEach [b] X.env = (false, eval b X.env) :: starEach [] X.env) {F : D → D → Option D} {σ : L2.St} {H : Hp} {Q : VK}
    (q : tG c Wx (rD c) (fun ρ => bind (f ρ) fun x => bind (g ρ) fun y => lift (F x y)) σ H Q) :
    tCons (tG c Wx (rB c) f) (tCons (tG c Wx (rD c) g) tNil) σ H fun vs H2 => ∃ W0 H0 W s d1 d2 d v u, vs = [v, u] ∧ F d1 d2 = some d ∧ WOk W H2 ∧ DsR c.K W H2 s ∧ rB c W0 H0 W H2 d1 v ∧ Den c.K W H2 d2 u ∧ Kont c W H2 s d Q :=
  (tG.seq free_D q (rB c)).monoQ fun v H1 ⟨W, H, W1, ρ, s, s1, d1, r, gr, r1, h1, k⟩ =>
    ⟨W1, ρ, s1, r1, (k.bind (rD c)).monoQ fun u H2 ⟨d2, s2, W2, _, g2, w2, ds2, h2, k2⟩ => by
      obtain ⟨d, e, k2⟩ := k2.lift_some
      exact ⟨W, H, W2, s2, d1, d2, d, v, u, rfl, e, w2, ds2, h1.mono g2 r1.wd, h2, fun v' W' H' g' w' ds' hv => k2 v' W' H' g' w' ds' ⟨g', hv⟩⟩⟩
theorem r_max {x : Str} {p : Pos} (hc : X.calm = true) (n : BltN X x (.builtin "max")) (ha : PE X a (tG c Wx (rB c) f)) (hb : PE X b (tG c Wx (rD c) g)) (hs : starEach [a, b] X.env = (false, eval a X.env) :: starEach [b] X.env) (hs2 : starEach [b] X.env = (false, eval b X.env) :: starEach [] X.env) :
    PE X (.Call (.Name x p) [a, b] [] pos) (tG c Wx (rD c) fun ρ => bind (f ρ) fun x => bind (g ρ) fun y => lift (maxD x y)) :=
  (pe_callB (call_max2 hc) n.gl n.mg n.bt (pa_cons ha (pa_cons hb pa_nil hs2) hs) n.nn n.nd hs (by rw [hs2]; rfl)).imp fun σ H Q q => by
    have z := pa_r2 ha hb hs hs2 q
    obtain ⟨W, ρ, s, r, k⟩ := z
    refine ⟨W, ρ, s, r, k.monoQ fun v H1 ⟨W, ρ, s, r, k⟩ => ⟨W, ρ, s, r, k.monoQ fun u H2 ⟨W0, H0, W, s, d1, d2, d, v', u', e1, e, w, ds, h1, h2, k⟩ => ?_⟩⟩
    cases e1
    unfold maxD at e
    split at e
    · cases e
      exact ⟨_, _, by rw [den_int (rB_den h1 (by simp)), den_int h2], k.here w ds Den.mkInt⟩
    · cases e
theorem r_min {x : Str} {p : Pos} (hc : X.calm = true) (n : BltN X x (.builtin "min")) (ha : PE X a (tG c Wx (rB c) f)) (hb : PE X b (tG c Wx (rD c) g)) (hs : starEach [a, b] X.env = (false, eval a X.env) :: starEach [b] X.env) (hs2 : starEach [b] X.env = (false, eval b X.env) :: starEach [] X.env) :
    PE X (.Call (.Name x p) [a, b] [] pos) (tG c Wx (rD c) fun ρ => bind (f ρ) fun x => bind (g ρ) fun y => lift (minD x y)) :=
  (pe_callB (call_min2 hc) n.gl n.mg n.bt (pa_cons ha (pa_cons hb pa_nil hs2) hs) n.nn n.nd hs (by rw [hs2]; rfl)).imp fun σ H Q q => by
    have z := pa_r2 ha hb hs hs2 q
    obtain ⟨W, ρ, s, r, k⟩ := z
    refine ⟨W, ρ, s, r, k.monoQ fun v H1 ⟨W, ρ, s, r, k⟩ => ⟨W, ρ, s, r, k.monoQ fun u H2 ⟨W0, H0, W, s, d1, d2, d, v', u', e1, e, w, ds, h1, h2, k⟩ => ?_⟩⟩
    cases e1
    unfold minD at e
    split at e
    · cases e
      exact ⟨_, _, by rw [den_int (rB_den h1 (by simp)), den_int h2], k.here w ds Den.mkInt⟩
    · cases e
def Ty.nm : Ty → String
  | .int => "int" | .bool => "bool" | .str => "str" | .tuple => "tuple" | .list => "list" | .dict => "dict"
theorem isIn_ok {W0 W : Wd} {H0 H : Hp} {t : Ty} {d : D} {b : Bool} {v : V} (e : isIn t d = some b) (h : rB c W0 H0 W H d v) : ∃ tv, TyX c.K H v tv ∧ PySem.W.kitOne c.K tv (.type t.nm) = some b := by
  cases d with
  | non =>
    rw [den_non (rB_den h (by simp))]
    unfold isIn at e; cases e
    exact ⟨.type "NoneType", .base (.non), kit_ty (by cases t <;> decide +kernel)⟩
  | bl x =>
    rw [den_bl (rB_den h (by simp))]
    unfold isIn at e
    refine ⟨_, .base (.bl x), kit_ty ?_⟩
    cases t <;> (cases e; decide +kernel)
  | int x =>
    rw [den_int (rB_den h (by simp))]
    unfold isIn at e
    refine ⟨_, .base (.int x), kit_ty ?_⟩
    cases t <;> (cases e; decide +kernel)
  | str x =>
    rw [den_str (rB_den h (by simp))]
    unfold isIn at e
    refine ⟨_, .base (.str x), kit_ty ?_⟩
    cases t <;> (cases e; decide +kernel)
  | tup xs =>
    obtain ⟨a, vs, rfl, h1, _⟩ := den_tup (rB_den h (by simp))
    unfold isIn at e
    have kk : PySem.W.kitOne c.K (.type "tuple") (.type t.nm) = some b := kit_ty (by cases t <;> (cases e; decide +kernel))
    rcases h1 with (h1 | ⟨o, h1⟩) | ⟨o, its, n, h1, h2, _⟩
    · exact ⟨_, .base (.tup h1), kk⟩
    · exact ⟨_, .fTuple h1, kk⟩
    · exact ⟨_, .kTuple h1 h2, kk⟩
  | lst xs =>
    obtain ⟨a, vs, rfl, h1, _⟩ := rB_lst h
    unfold isIn at e
    exact ⟨.type "list", .base (.lst h1), kit_ty (by cases t <;> (cases e; decide +kernel))⟩
  | _ => unfold isIn at e; cases e
theorem r_isin {x y : Str} {t : Ty} {p p2 : Pos} (n : BltN X x (.builtin "isinstance")) (m : BltN X y (.type t.nm)) (hK : X.K = c.K) (ha : PE X a (tG c Wx (rB c) f)) (hs : starEach [a, .Name y p2] X.env = (false, eval a X.env) :: starEach [.Name y p2] X.env) :
    PE X (.Call (.Name x p) [a, .Name y p2] [] pos) (tG c Wx (rD c) fun ρ => bind (f ρ) fun x => bind (lift (isIn t x)) fun b => ret (.bl b)) :=
  (pe_callB call_isi n.gl n.mg n.bt (pa_cons ha (pa_cons (pe_bltn (v := .ty t.nm) m.gl m.mg m.bt rfl m.nn m.nd) pa_nil rfl) hs) n.nn n.nd hs rfl).imp fun σ H Q q =>
    (tG.seq free_D q (rB c)).monoQ fun v H1 ⟨W, H, W1, ρ, s, s1, d1, r, gr, r1, h1, k⟩ => by
      cases e : isIn t d1 with
      | none => rw [e] at k; exact False.elim k
      | some bb =>
        rw [e, lift_some, ret_bind] at k
        obtain ⟨tv, ty, kt⟩ := isIn_ok e h1
        rw [hK]
        exact ⟨v, .ty t.nm, tv, .type t.nm, bb, rfl, .ty t.nm, ty, kt, k _ W1 H1 (Grow.refl _ _) r1.wd r1.ds Den.mkBl⟩

/-! ### calls of defs -/
/-- what a def promises, by the evaluator's function -/
def spF (K : PySem.W.Frag) (XT : Nat → Option (Addr × List Str)) (np : Nat) (F : List D → M D) : Sp := fun vs H Q E =>
  ∃ W ds s, ds.length = np ∧ WOk W H ∧ DsR K W H s ∧ DenL K W H ds vs ∧ match F ds s with
    | none => False
    | some (.ok d s') => ∀ v W' H', Grow W H W' H' → WOk W' H' → DsR K W' H' s' → Den K W' H' d v → Q v H'
    | some (.ex e s') => ∀ cls dd W' H', Grow W H W' H' → WOk W' H' → DsR K W' H' s' → DenX K XT W' H' e cls dd → E cls dd H'
theorem spF_len {K : PySem.W.Frag} {XT : Nat → Option (Addr × List Str)} {np : Nat} {F : List D → M D} {vs : List V} {H : Hp} {Q : VK} {E : XK} (h : spF K XT np F vs H Q E) : vs.length = np := by
  obtain ⟨W, ds, s, e, _, _, l, _⟩ := h
  rw [l.length, e]
theorem call_core {fs : Rho → M (List D)} {np : Nat} {F : List D → M D} {dds : List D} {dvs : List V} (hd : ∀ W H, DenL c.K W H dds dvs) (hF : ∀ ds s, (F ds s).isSome → ds.length = np) {σ : L2.St} {H : Hp} {Q : VK}
    (q : tG c Wx (rD c) (fun ρ => bind (fs ρ) fun xs => F (xs ++ dds)) σ H Q) : tG c Wx (rL c) fs σ H fun vs H1 => spF c.K c.XT np F (vs ++ dvs) H1 Q (WE Wx σ) :=
  (tG.seq free_D q (rL c)).monoQ fun vs H1 ⟨W, H, W1, ρ, s, s1, d1, r, gr, r1, h1, k⟩ => by
    refine ⟨W1, d1 ++ dds, s1, ?_, r1.wd, r1.ds, DenL.append h1 (hd _ _), ?_⟩
    · refine hF (d1 ++ dds) s1 ?_
      cases e : F (d1 ++ dds) s1 with
      | none =>
        have k : At c Wx (rD c) σ W1 H1 (F (d1 ++ dds) s1) Q := k
        rw [e] at k; exact False.elim k
      | some _ => rfl
    · have k : At c Wx (rD c) σ W1 H1 (F (d1 ++ dds) s1) Q := k
      unfold At at k
      split
      · rename_i e; rw [e] at k; exact k
      · rename_i d s' e; rw [e] at k; exact k
      · rename_i ex s' e; rw [e] at k; exact k
/-- f(e, ..), defaults behind -/
theorem run_fnD {k : Nat} {f : Addr} {fd : FuncData} {ps : List Str} {sp : Sp} {dvs : List V} {ds : List Value} {E : L2.St → XK} {pins : List (Addr × Obj)} {σ : L2.St} {H : Hp} {s : Shared} {Q : VK} {us : List Value} {vs : List V}
    (F : FnOk X.prog X.w X.K X.mg X.base (L2.CX X.prog X.w) k f fd ps sp) (hr : Room k X.A) (hb : Binds X.K fd ps ds) (hd : Vals dvs ds) (hx : PassesAt (L2.CX X.prog X.w) X σ (E σ))
    (I : Inv X pins σ H s) (r : Vals vs us) (h : sp (vs ++ dvs) H Q (E σ)) : wpAny (model X.prog X.w) X.A (call (.ref f) us) (EP X pins σ Q) X.xe s := by
  have r2 : Vals (vs ++ dvs) (us ++ ds) := r.append hd
  have hl : (us ++ ds).length = ps.length := by rw [← r2.length]; exact F.len _ _ _ _ h
  refine wpAny_call (codeAny_mono (F.run X.A X.stack s H ⟨us, []⟩ (us ++ ds) (vs ++ dvs) Q (E σ) hr I.env0 (hb s us I.kIn hl) r2 h) fun r s' hq => ?_)
  cases r with
  | error e => exact hx pins H s e s' I hq
  | ok fl =>
    cases fl with
    | ret u => exact I.after hq
    | next => exact False.elim hq
    | brk => exact False.elim hq
    | cont => exact False.elim hq
theorem r_call {k np : Nat} {fa : Addr} {fd : FuncData} {ps : List Str} {x : Str} {p : Pos} {es : List Expr} {fs : Rho → M (List D)} {F : List D → M D} {dds : List D} {dvs : List V} {dus : List Value} (FO : FnOk X.prog X.w X.K X.mg X.base (L2.CX X.prog X.w) k fa fd ps (spF c.K c.XT np F))
    (hr : Room k X.A) (hg : Gl X x) (hm : X.mg x = some (.ref fa)) (hk : PySem.W.keepIn X.K (.ref fa) = true) (hb : Binds X.K fd ps dus) (hdv : Vals dvs dus) (hd : ∀ W H, DenL c.K W H dds dvs) (hF : ∀ ds s, (F ds s).isSome → ds.length = np) (tk : Takes X Wx)
    (ha : PA X (e :: es) (tG c Wx (rL c) fs)) (hdb : (x == ("__debug__" : Str)) = false) (he : starEach (e :: es) X.env = (false, eval e X.env) :: starEach es X.env) (hpl : ∀ pos : Pos, (backTo pos (starEach es X.env)).any (·.1) = false) :
    PE X (.Call (.Name x p) (e :: es) [] pos) (tG c Wx (rD c) fun ρ => bind (fs ρ) fun xs => F (xs ++ dds)) := by
  refine ⟨fun pins s σ H Q I h => ?_⟩
  have h := call_core (np := np) hd hF h
  refine wpAny_Call_Name_kw (ld_glob I hg hm ?_ hdb)
  refine PySem.W.callWith_K (h₀ := X.base) I.ok.mod.kin hk (thn (ha.run pos pins s σ H _ I h) fun us s1 ⟨vs, H1, I1, r, q⟩ => ⟨I1.kIn, ?_⟩) he (hpl pos)
  exact run_fnD (E := WE Wx) FO hr hb hdv (passAt tk σ) I1 r q
theorem r_call0 {k np : Nat} {fa : Addr} {fd : FuncData} {ps : List Str} {x : Str} {p : Pos} {F : List D → M D} {dds : List D} {dvs : List V} {dus : List Value} (FO : FnOk X.prog X.w X.K X.mg X.base (L2.CX X.prog X.w) k fa fd ps (spF c.K c.XT np F))
    (hr : Room k X.A) (hg : Gl X x) (hm : X.mg x = some (.ref fa)) (hk : PySem.W.keepIn X.K (.ref fa) = true) (hb : Binds X.K fd ps dus) (hdv : Vals dvs dus) (hd : ∀ W H, DenL c.K W H dds dvs) (hF : ∀ ds s, (F ds s).isSome → ds.length = np) (tk : Takes X Wx)
    (hdb : (x == ("__debug__" : Str)) = false) : PE X (.Call (.Name x p) [] [] pos) (tG c Wx (rD c) fun ρ => bind (ret []) fun xs => F (xs ++ dds)) := by
  refine ⟨fun pins s σ H Q I h => ?_⟩
  have h := call_core (np := np) hd hF h
  refine wpAny_Call_Name_kw (ld_glob I hg hm ?_ hdb)
  obtain ⟨W, ρ, s0, r, a⟩ := h
  have a := a [] W H (Grow.refl _ _) r.wd r.ds DenL.nil
  exact PySem.W.callWith_K0 I.kIn hk (run_fnD (us := []) (E := WE Wx) FO hr hb hdv (passAt tk σ) I .nil a)

/-! ### what is walked -/
def Fresh1 (H H' : Hp) : Prop := H' = H ∨ ∃ T xs, H T = none ∧ H' = L2.upd H T (.tup xs)
/-- an iterator that yields xs from (W, H) on, whatever grows by Gr -/
def Walks (Gr : Wd → Hp → Wd → Hp → Prop) (c : Cc) (W : Wd) (H : Hp) (xs : List D) (J : It) : Prop :=
  ∀ i W2 H2, Gr W H W2 H2 → (∀ d, xs[i]? = some d → J.go i H2 ∧ ∀ x H3, J.yld i H2 x H3 → Fresh1 H2 H3 ∧ Den c.K W2 H3 d x) ∧ (xs.length ≤ i → J.stop i H2)
def rIt (c : Cc) : Rl (List D) It := fun _ _ W' H' xs J => Walks WGrow c W' H' xs J
def rIB (c : Cc) : Rl (List D) It := fun _ _ W' H' xs J => Walks (fun W H W' H' => WOk W H ∧ Grow W H W' H') c W' H' xs J
theorem free_I : Free (rIt c) := ⟨fun _ _ _ _ _ _ _ _ _ h => h⟩
theorem free_IB : Free (rIB c) := ⟨fun _ _ _ _ _ _ _ _ _ h => h⟩
theorem _root_.L2.PI.or {tg : Expr} {t1 t2 : TI} (h1 : PI X tg e t1) (h2 : PI X tg e t2) : PI X tg e (fun σ H R => t1 σ H R ∨ t2 σ H R) := ⟨fun pins s σ H R I q => by
  rcases q with q | q
  · exact h1.run pins s σ H R I q
  · exact h2.run pins s σ H R I q⟩
theorem _root_.L2.PI.imp {tg : Expr} {t t' : TI} (h : PI X tg e t) (i : ∀ σ H Q, t' σ H Q → t σ H Q) : PI X tg e t' := ⟨fun pins s σ H Q I q => h.run pins s σ H Q I (i _ _ _ q)⟩
theorem listA_walk {Gr : Wd → Hp → Wd → Hp → Prop} {W : Wd} {H : Hp} {xs : List D} {a : Addr} {vs : List V} (h : ∀ W2 H2, Gr W H W2 H2 → H2 a = some (.lst vs)) (m : ∀ W2 H2, Gr W H W2 H2 → DenL c.K W2 H2 xs vs) : Walks Gr c W H xs (Itl c.K a) := fun i W2 H2 g => by
  have h2 := h W2 H2 g
  have l := m W2 H2 g
  refine ⟨fun d e => ?_, fun hi => ⟨vs, SqL.of h2, by rw [l.length]; exact hi⟩⟩
  obtain ⟨x, ex, hx⟩ := l.get e
  refine ⟨⟨vs, x, SqL.of h2, ex⟩, fun y H3 ⟨e3, hy⟩ => ?_⟩
  subst e3
  have := hy vs (SqL.of h2)
  rw [ex] at this; cases this
  exact ⟨.inl rfl, hx⟩
theorem tupA_walk {Gr : Wd → Hp → Wd → Hp → Prop} {W : Wd} {H : Hp} {xs : List D} {a : Addr} {vs : List V} (h : ∀ W2 H2, Gr W H W2 H2 → SqT c.K H2 a vs) (m : ∀ W2 H2, Gr W H W2 H2 → DenL c.K W2 H2 xs vs) : Walks Gr c W H xs (Itt c.K a) := fun i W2 H2 g => by
  have h2 := h W2 H2 g
  have l := m W2 H2 g
  refine ⟨fun d e => ?_, fun hi => ⟨vs, h2, by rw [l.length]; exact hi⟩⟩
  obtain ⟨x, ex, hx⟩ := l.get e
  refine ⟨⟨vs, x, h2, ex⟩, fun y H3 ⟨e3, hy⟩ => ?_⟩
  subst e3
  have := hy vs h2
  rw [ex] at this; cases this
  exact ⟨.inl rfl, hx⟩
theorem strA_walk {Gr : Wd → Hp → Wd → Hp → Prop} {W : Wd} {H : Hp} {z : Str} : Walks Gr c W H (z.cps.toList.map fun k => D.str ⟨#[k]⟩) (Its z) := fun i W2 H2 g => by
  refine ⟨fun d e => ?_, fun hi => by simpa [Its] using hi⟩
  rw [List.getElem?_map] at e
  obtain ⟨k, ek, rfl⟩ := Option.map_eq_some_iff.mp e
  have hk : z.cps[i]? = some k := by simpa using ek
  refine ⟨by
    have := (Array.getElem?_eq_some_iff.mp hk).1
    exact this, fun y H3 ⟨e3, k', hk', ey⟩ => ?_⟩
  rw [hk] at hk'; cases hk'
  subst e3 ey
  exact ⟨.inl rfl, Den.mkStr⟩
theorem r_items {tg : Expr} (hK : X.K = c.K) (ha : PE X e (tG c Wx (rD c) f)) : PI X tg e (tG c Wx (rIt c) fun ρ => bind (f ρ) fun x => lift (items x)) :=
  (L2.PI.or (pi_list ha) (L2.PI.or (pi_tup ha) (pi_str ha))).imp fun σ H R q => by
    obtain ⟨W, ρ, s, r, a⟩ := q
    dsimp only at a
    cases q : f ρ s with
    | none => rw [bind_none q] at a; exact False.elim a
    | some z =>
      cases z with
      | ex e s1 => rw [bind_ex q] at a; exact .inl ⟨W, ρ, s, r, by rw [q]; exact a⟩
      | ok d s1 =>
        rw [bind_ok q] at a
        obtain ⟨xs, ei, a⟩ := a.lift_some
        unfold items at ei
        split at ei
        · cases ei
          refine .inl ⟨W, ρ, s, r, ?_⟩
          rw [q]
          intro v W1 H1 g w ds hv
          obtain ⟨p, vs, rfl, h1, l⟩ := den_lst hv
          rw [hK]
          exact ⟨p, rfl, ⟨vs, SqL.of h1.2⟩, a _ W1 H1 g w ds (listA_walk (fun W2 H2 g2 => g2.keep _ _ h1.2 fun _ => h1.1) fun W2 H2 g2 => DenL.monoW g2 _ _ l)⟩
        · cases ei
          refine .inr (.inl ⟨W, ρ, s, r, ?_⟩)
          rw [q]
          intro v W1 H1 g w ds hv
          obtain ⟨p, vs, rfl, h1, l⟩ := den_tup hv
          rw [hK]
          exact ⟨p, rfl, ⟨vs, h1⟩, a _ W1 H1 g w ds (tupA_walk (fun W2 H2 g2 => g2.sqT h1) fun W2 H2 g2 => DenL.monoW g2 _ _ l)⟩
        · cases ei
          refine .inr (.inr ⟨W, ρ, s, r, ?_⟩)
          rw [q]
          intro v W1 H1 g w ds hv
          exact ⟨_, den_str hv, a _ W1 H1 g w ds strA_walk⟩
        · cases ei
theorem r_itemsB {tg : Expr} (hK : X.K = c.K) (ha : PE X e (tG c Wx (rB c) f)) : PI X tg e (tG c Wx (rIB c) fun ρ => bind (f ρ) fun x => lift (items x)) :=
  (L2.PI.or (pi_list ha) (L2.PI.or (pi_tup ha) (pi_str ha))).imp fun σ H R q => by
    obtain ⟨W, ρ, s, r, a⟩ := q
    dsimp only at a
    cases q : f ρ s with
    | none => rw [bind_none q] at a; exact False.elim a
    | some z =>
      cases z with
      | ex e s1 => rw [bind_ex q] at a; exact .inl ⟨W, ρ, s, r, by rw [q]; exact a⟩
      | ok d s1 =>
        rw [bind_ok q] at a
        obtain ⟨xs, ei, a⟩ := a.lift_some
        unfold items at ei
        split at ei
        · cases ei
          refine .inl ⟨W, ρ, s, r, ?_⟩
          rw [q]
          intro v W1 H1 g w ds hv
          rw [hK]
          rcases hv with hv | ⟨p, vs, ys, e1, e2, h1, l, nA⟩
          · obtain ⟨p, vs, rfl, h1, l⟩ := den_lst hv
            exact ⟨p, rfl, ⟨vs, SqL.of h1.2⟩, a _ W1 H1 g w ds (listA_walk (fun W2 H2 g2 => g2.2.rdL g2.1 h1.1 h1.2) fun W2 H2 g2 => DenL.mono g2.2 g2.1 _ _ l)⟩
          · cases e1
            subst e2
            exact ⟨p, rfl, ⟨vs, SqL.of h1⟩, a _ W1 H1 g w ds (listA_walk (fun W2 H2 g2 => g2.2.keep _ _ h1 nA) fun W2 H2 g2 => DenL.mono g2.2 g2.1 _ _ l)⟩
        · cases ei
          refine .inr (.inl ⟨W, ρ, s, r, ?_⟩)
          rw [q]
          intro v W1 H1 g w ds hv
          obtain ⟨p, vs, rfl, h1, l⟩ := den_tup (rB_den hv (by simp))
          rw [hK]
          exact ⟨p, rfl, ⟨vs, h1⟩, a _ W1 H1 g w ds (tupA_walk (fun W2 H2 g2 => g2.2.rdT g2.1 h1) fun W2 H2 g2 => DenL.mono g2.2 g2.1 _ _ l)⟩
        · cases ei
          refine .inr (.inr ⟨W, ρ, s, r, ?_⟩)
          rw [q]
          intro v W1 H1 g w ds hv
          exact ⟨_, den_str (rB_den hv (by simp)), a _ W1 H1 g w ds strA_walk⟩
        · cases ei
theorem range_walk {Gr : Wd → Hp → Wd → Hp → Prop} {W : Wd} {H : Hp} {a : Int} {n : Nat} : Walks Gr c W H (rangeL a 1 n) (Itr a n) := fun i W2 H2 g => by
  unfold rangeL
  refine ⟨fun d e => ?_, fun hi => by simpa [Itr] using hi⟩
  rw [List.getElem?_map] at e
  obtain ⟨k, ek, rfl⟩ := Option.map_eq_some_iff.mp e
  have hi : i < n := by simpa using (List.getElem?_eq_some_iff.mp ek).1
  have hk : k = i := by
    rw [List.getElem?_range hi] at ek
    exact (Option.some.inj ek).symm
  subst hk
  refine ⟨hi, fun y H3 ⟨e3, ey⟩ => ?_⟩
  subst e3 ey
  refine ⟨.inl rfl, ?_⟩
  rw [Int.mul_one]
  exact Den.mkInt
theorem smallI_ok {i : Int} (h : smallI i = true) : -(2 ^ 62) ≤ i ∧ i < 2 ^ 62 := by
  unfold smallI at h
  rw [Bool.and_eq_true] at h
  exact ⟨of_decide_eq_true h.1, of_decide_eq_true h.2⟩
theorem walks_weak {W : Wd} {H : Hp} {xs : List D} {J : It} (h : ∀ Gr, Walks Gr c W H xs J) : rIt c W H W H xs J ∧ rIB c W H W H xs J := ⟨h _, h _⟩
theorem r_rng1 {R : Rl (List D) It} (hR : ∀ W0 H0 W H xs J, (∀ Gr, Walks Gr c W H xs J) → R W0 H0 W H xs J) (hF : Free R) {tg : Expr} {p : Pos} (hg : Gl X "range") (hm : X.mg "range" = none) (ha : PE X a (tG c Wx (rD c) f)) (hs : starEach [a] X.env = (false, eval a X.env) :: starEach [] X.env) :
    PI X tg (.Call (.Name "range" p) [a] [] pos) (tG c Wx R fun ρ => bind (f ρ) fun x => lift (rng1D x)) :=
  (pi_range1 hg hm (pa_cons ha pa_nil hs) hs).imp fun σ H Q q => (tG.seq hF q (rD c)).monoQ fun v H1 ⟨W, H, W1, ρ, s, s1, d1, r, gr, r1, h1, k⟩ => by
    obtain ⟨xs, e, k⟩ := k.lift_some
    unfold rng1D at e
    split at e
    · split at e
      · rename_i hs
        cases e
        obtain ⟨l1, l2⟩ := smallI_ok hs
        exact ⟨_, by rw [den_int h1], l1, l2, k _ W1 H1 (Grow.refl _ _) r1.wd r1.ds (hR _ _ _ _ _ _ fun Gr => range_walk)⟩
      · cases e
    · cases e
theorem r_rng2 {R : Rl (List D) It} (hR : ∀ W0 H0 W H xs J, (∀ Gr, Walks Gr c W H xs J) → R W0 H0 W H xs J) (hF : Free R) {tg : Expr} {p : Pos} (hg : Gl X "range") (hm : X.mg "range" = none) (ha : PE X a (tG c Wx (rD c) f)) (hb : PE X b (tG c Wx (rD c) g))
    (hs : starEach [a, b] X.env = (false, eval a X.env) :: starEach [b] X.env) (hs2 : starEach [b] X.env = (false, eval b X.env) :: starEach [] X.env) :
    PI X tg (.Call (.Name "range" p) [a, b] [] pos) (tG c Wx R fun ρ => bind (f ρ) fun x => bind (g ρ) fun y => lift (rng2D x y)) :=
  (pi_range2 hg hm (pa_cons ha (pa_cons hb pa_nil hs2) hs) (by rw [hs, hs2]; rfl) (by rw [hs2]; rfl)).imp fun σ H Q q => (tG.seq hF q (rD c)).monoQ fun v H1 ⟨W, H, W1, ρ, s, s1, d1, r, gr, r1, h1, k⟩ =>
    ⟨W1, ρ, s1, r1, (k.bind (rD c)).monoQ fun u H2 ⟨d2, s2, W2, _, g2, w2, ds2, h2, k2⟩ => by
      obtain ⟨xs, e, k2⟩ := k2.lift_some
      unfold rng2D at e
      split at e
      · split at e
        · rename_i hs
          cases e
          rw [Bool.and_eq_true] at hs
          obtain ⟨l1, l2⟩ := smallI_ok hs.1
          obtain ⟨l3, l4⟩ := smallI_ok hs.2
          exact ⟨_, _, by rw [den_int (Den.mono g2 r1.wd _ _ h1), den_int h2], ⟨l1, l2, l3, l4⟩, k2 _ W2 H2 (Grow.refl _ _) w2 ds2 ⟨Grow.refl _ _, hR _ _ _ _ _ _ fun Gr => range_walk⟩⟩
        · cases e
      · cases e⟩
end
end PV

set_option Elab.async false
set_option linter.all false
set_option maxRecDepth 100000
set_option maxHeartbeats 1000000
/-! PV6: a list comprehension out of which an exception may leave. -/
namespace PV
open PySem PySem.Spec PyProof.Rows L2 PySem.HandSPX

section
variable {M : Model} {A : Around} {E : Value → Shared → Prop} {s : Shared} {Z : Obj → Prop} {base : Heap} {env : Env} {outer l : List Env} {L C e : Addr}
/-- noted by another mark than this frame's: noted by this frame -/
theorem looks_otherZ {Q : Unit → Shared → Prop} (hZ : Steady Z) (hfr : A.frames = some (env :: outer)) (hf : env.frame = some L) (hC : C ≠ L) (hfl : HeldZ base (env :: outer) e Z C s.heap)
    (hQ : ∀ h', HeldZ base (env :: outer) e Z L h' → s.heap.UpToSlots h' → Q () { s with heap := h' }) : wpAny M A (noteFrame (.ref e) env) Q E s := by
  obtain ⟨hkb, hen, hl, oe, vs, T, oT, ts, he, hz, hd, h1, hnT, hTe, hT, hdT, h3⟩ := hfl
  unfold noteFrame
  simp only [hf]
  refine wpAny_bind (wpAny_field he hd h1 ?_)
  rw [if_pos (show (Value.ref T != Value.none) = true from by simp)]
  refine wpAny_bind (wpAny_field hT hdT h3 ?_)
  rw [if_neg (show ¬ ((rawInt C == rawInt L) = true) from by
    intro z
    have z := beq_iff_eq.mp z
    unfold rawInt at z
    injection z with z1 z2
    exact hC (by exact_mod_cast z1))]
  refine wpAny_bind (wpAny_setField hT hdT (Array.getElem?_eq_some_iff.mp h3).1 ?_)
  have other : ∀ b, b ≠ T → (s.heap.update T (Obj.mapFields (·.setIfInBounds 3 Value.none))).get? b = s.heap.get? b := fun b hb => Heap.get?_update_other _ _ (Ne.symm hb)
  have noRecord : ∀ b o, s.heap.get? b = some o → (∀ vs, o.data ≠ .fields vs) → b ≠ T := fun b o hb hnf q => by
    rw [q, hT] at hb; injection hb with hb; subst hb; exact hnf ts hdT
  refine wpAny_entryZ hZ hfr (hl.of_keeps fun b o hb hnf => ⟨o, (other b (noRecord b o hb hnf)).trans hb, rfl⟩) hf ((other e (Ne.symm hTe)).trans he)
    (fun b o hbo => (other b fun q => by rw [q, hnT] at hbo; cases hbo).trans (hkb b o hbo)) hen hd (Array.getElem?_eq_some_iff.mp h1).1 hz fun h' hN => ?_
  obtain ⟨x1, x2, x3, x4⟩ := hN
  exact hQ h' ⟨x1, hen, x2, x3⟩ fun b o hb hnf => x4 b o ((other b (noRecord b o hb hnf)).trans hb) hnf
/-- a smaller ground -/
theorem HeldZ.less {B B' h : Heap} (x : HeldZ B l e Z L h) (k : ∀ b o, B'.get? b = some o → B.get? b = some o) : HeldZ B' l e Z L h := by
  have n : ∀ b, B.get? b = none → B'.get? b = none := fun b q => by
    cases z : B'.get? b with
    | none => rfl
    | some o => rw [k b o z] at q; cases q
  obtain ⟨h1, h2, h3, oe, vs, T, oT, ts, he, hz, hd, h4, hnT, r⟩ := x
  exact ⟨fun b o q => h1 b o (k b o q), n _ h2, funFrames_none h3 fun b hb => n b (h3.mem hb).1, oe, vs, T, oT, ts, he, hz, hd, h4, n _ hnT, r⟩
end

section
variable {X : Cx} {Wx : WX} {pins : List (Addr × Obj)} {σ : L2.St} {H3 : Hp} {s3 : Shared} {scope : Scope} {cl : List (Str × Addr)} {fp : List Addr} {D : Addr} {use : Option (Value → Sem Unit)} {Qf : Value → Shared → Prop}
/-- what the block wishes of an exception -/
abbrev blkE (X : Cx) (ce : Env) (use : Option (Value → Sem Unit)) (Qf : Value → Shared → Prop) (D : Addr) : Value → Shared → Prop :=
  notedBy (model X.prog X.w) X.A ce fun e s' => compEnds (model X.prog X.w) X.A X.xe use Qf (.ref D) ce (.error e) s'
theorem blk_takes (I3 : L2.Inv X pins σ H3 s3) (tk : Takes X Wx) (hst : X.stack = X.env :: X.outer) (hf : X.env.frame = some X.env.locals)
    (f3 : ∀ b ∈ fp, FpOk X pins H3 b ∧ b < s3.heap.objs.size) :
    Takes ((X.blk s3 H3 scope (compEnvC scope cl s3.heap.objs.size X.env) fp).wish (blkE X (compEnvC scope cl s3.heap.objs.size X.env) use Qf D)) (fun cls d _ H => Wx cls d σ H) := by
  intro u s' xx
  obtain ⟨a, B, sI, pins', σ', H', cls, d, rfl, J, nb, up, sky, na, os, ag, w⟩ := xx
  have hfr : X.A.frames = some (X.env :: X.outer) := by rw [I3.ok.frames, hst]
  have hC : s3.heap.objs.size ≠ X.env.locals := Nat.ne_of_gt I3.lt
  have sky : Sky B (X.env :: X.outer) a (Zc cls d) s3.heap.objs.size s'.heap := by rw [← hst]; exact sky
  have JI : L2.Inv X pins σ H' sI := I3.call' (ch := fp) J.os J.base J.hok J.bare fun b hb => ⟨(f3 b hb).1.2.2.2.1, (f3 b hb).1.2.1, (f3 b hb).1.2.2.2.2.1, (f3 b hb).1.2.2.2.2.2⟩
  have nb : ∀ b o, sI.heap.get? b = some o → b ∉ frs X.stack → B.get? b = some o := nb
  obtain ⟨mC, hnC, _⟩ := J.loc
  have hnC : sI.heap.Ns s3.heap.objs.size mC := hnC
  have freeC : H' s3.heap.objs.size = none := J.free
  have os : s'.os = sI.os := os
  show wpAny _ X.A (noteFrame (.ref a) (compEnvC scope cl s3.heap.objs.size X.env)) _ _ s'
  rw [noteFrame_env (.ref a) (show (compEnvC scope cl s3.heap.objs.size X.env).frame = X.env.frame from rfl)]
  have fin : ∀ h1, HeldZ B (X.env :: X.outer) a (Zc cls d) X.env.locals h1 → s'.heap.UpToSlots h1 →
      CompFails (model X.prog X.w) X.A X.xe (compEnvC scope cl s3.heap.objs.size X.env) (.ref a) { s' with heap := h1 } := fun h1 hh up1 => by
    refine ⟨mC, (hnC.upToSlots up).upToSlots up1, fun h2 m2 hn2 sb => ?_⟩
    have hn2 : h2.Ns s3.heap.objs.size m2 := hn2
    have sb : Heap.SameBut s3.heap.objs.size h1 h2 := sb
    obtain ⟨B', b1, b2⟩ := restrict B fun b => decide (b ≠ s3.heap.objs.size)
    obtain ⟨G, g1, g2⟩ := restrict sI.heap fun b => decide (b ≠ s3.heap.objs.size)
    have bB : ∀ b o, B'.get? b = some o → B.get? b = some o ∧ b ≠ s3.heap.objs.size := fun b o q => by
      by_cases e : b = s3.heap.objs.size
      · rw [b2 b (by simp [e])] at q; cases q
      · rw [b1 b (by simp [e])] at q; exact ⟨q, e⟩
    have gG : ∀ b o, G.get? b = some o → sI.heap.get? b = some o ∧ b ≠ s3.heap.objs.size := fun b o q => by
      by_cases e : b = s3.heap.objs.size
      · rw [g2 b (by simp [e])] at q; cases q
      · rw [g1 b (by simp [e])] at q; exact ⟨q, e⟩
    have gG' : ∀ b o, b ≠ s3.heap.objs.size → sI.heap.get? b = some o → G.get? b = some o := fun b o e q => by rw [g1 b (by simp [e])]; exact q
    have hh' := HeldZ.less hh (fun b o q => (bB b o q).1)
    -- the exception's objects stand, the block's dict is emptied
    have aC : a ≠ s3.heap.objs.size := fun z => by
      obtain ⟨_, _, _, oe, vs, T, oT, ts, he, hz, hd, _⟩ := hh
      obtain ⟨o, es, ep, ho, hd', _⟩ := (hnC.upToSlots up).upToSlots up1
      rw [z, ho] at he; cases he
      rw [hd] at hd'; cases hd'
    have hh2 : HeldZ B' (X.env :: X.outer) a (Zc cls d) X.env.locals h2 := by
      obtain ⟨k1, k2, k3, oe, vs, T, oT, ts, he, hz, hd, k4, k5, k6, k7, k8, k9⟩ := hh'
      have TC : T ≠ s3.heap.objs.size := fun z => by
        obtain ⟨o, es, ep, ho, hd', _⟩ := (hnC.upToSlots up).upToSlots up1
        rw [z, ho] at k7; cases k7
        rw [k8] at hd'; cases hd'
      refine ⟨fun b o q => (sb.2 b (bB b o q).2).trans (k1 b o q), k2, Heap.FunFrames.sameBut sb hn2 k3, oe, vs, T, oT, ts, (sb.2 a aC).trans he, hz, hd, k4, k5, k6, (sb.2 T TC).trans k7, k8, k9⟩
    have IG : L2.Inv X pins σ H' { s' with heap := h2 } → True := fun _ => trivial
    have szC : ∀ b o, s3.heap.get? b = some o → b ≠ s3.heap.objs.size := fun b o q => Nat.ne_of_lt (Heap.lt_size q)
    have UU : Un (frs X.stack) fp H3 H' s3.heap sI.heap := J.base
    have JG : L2.Inv X pins σ H' { sI with heap := G } := by
      refine I3.call' (ch := fp) (s' := { sI with heap := G }) J.os ?_ ?_ J.bare fun b hb => ⟨(f3 b hb).1.2.2.2.1, (f3 b hb).1.2.1, (f3 b hb).1.2.2.2.2.1, (f3 b hb).1.2.2.2.2.2⟩
      · exact ⟨fun b o q n h1 h2 => gG' b o (szC b o q) (UU.keep b o q n h1 h2), fun b o q n h1 h2 => by
          obtain ⟨sl, z⟩ := UU.slot b o q n h1 h2
          exact ⟨sl, gG' b _ (szC b o q) z⟩, UU.free, fun b o q h2 => by
          obtain ⟨o', z⟩ := UU.there b o q h2
          exact ⟨o', gG' b o' (szC b o q) z⟩, UU.tups, UU.frzs, UU.tbls⟩
      · intro b o q
        refine (J.hok b o q).stay (fun z v hz r => gG' z v ?_ r) (fun _ r => r) fun _ _ r => r
        intro e
        rcases hz with hz | hz
        · rw [← hz, e, freeC] at q; cases q
        · rw [e, freeC] at hz; cases hz
    obtain ⟨k1, k2, k3, oe, vs, T, oT, ts, he, hz, hd, k4, k5⟩ := id hh2
    unfold PySem.passOn
    refine wpAny_bind (wpAny_field he hd k4 ?_)
    rw [if_neg (show ¬ ((Value.ref T == Value.none) = true) from by simp)]
    have last : wpAny (model X.prog X.w) X.A (setFlight (.ref a) (compEnvC scope cl s3.heap.objs.size X.env).frame) (fun _ s4 => wpAny (model X.prog X.w) X.A (throw (.ref a) : Sem Value) (fun _ _ => False) X.xe s4) X.xe { s' with heap := h2 } := by
      rw [show (compEnvC scope cl s3.heap.objs.size X.env).frame = some X.env.locals from hf]
      refine setFlight_onZ hh2 fun h4 hh4 up4 => wpAny_throw (tk _ _ ?_)
      refine ⟨a, B', { sI with heap := G }, pins, σ, H', cls, d, rfl, JG, fun b o q hb => ?_, fun b o q hnf => ?_, .inr (.inr (by rw [hst]; exact hh4)), na, os, ag, w⟩
      · obtain ⟨q1, q2⟩ := gG b o q
        rw [b1 b (by simp [q2])]
        exact nb b o q1 hb
      · obtain ⟨q1, q2⟩ := gG b o q
        obtain ⟨sl, e1⟩ := up b o q1 hnf
        obtain ⟨sl2, e2⟩ := up1 b _ e1 hnf
        have e3 : h2.get? b = some { o with slots := sl2 } := (sb.2 b q2).trans e2
        obtain ⟨sl3, e4⟩ := up4 b _ e3 hnf
        exact ⟨sl3, e4⟩
    first
      | exact wpAny_bind (wpAny_pure (wpAny_bind last))
      | exact wpAny_bind last
  rcases sky with ⟨hB, hn, hl, oe, vs, he, hz, hd, h1⟩ | fl | hh
  · exact look_newZ Zc.steady hfr hl hf he hB hn hd h1 hz fun h1 hh up1 => fin h1 hh up1
  · exact looks_onZ Zc.steady hfr hf fl fun h1 hh up1 => fin h1 hh up1
  · exact looks_otherZ Zc.steady hfr hf hC hh fun h1 hh up1 => fin h1 hh up1
end

section
variable {X : Cx}
def tLcX (Wx : WX) (wi : TI) (g : TG) (tt : WX → TT) (te : WX → TE) (vs : List Nat) : TE := fun σ H Q => tLc wi g (tt fun cls d _ H => Wx cls d σ H) (te fun cls d _ H => Wx cls d σ H) vs σ H Q
theorem Inv.wishB {X : Cx} {pins : List (Addr × Obj)} {σ : L2.St} {H : Hp} {s : Shared} (I : L2.Inv X pins σ H s) (E : Value → Shared → Prop) : L2.Inv (X.wish E) pins σ H s := I.wish E
theorem lc_coreX {pins : List (Addr × Obj)} {s : Shared} {σ : L2.St} {H : Hp} {Q : VK} {elt tg iter : Expr} {ifs : List Expr} {scope : Scope} {own : List (Str × Nat)} {pos pos' : Pos} {wi : TI} {g : TG} {tt : WX → TT} {te : WX → TE} {Wx : WX} {use : Option (Value → Sem Unit)} {Qf : Value → Shared → Prop}
    (hc : X.calm = true) (hN : X.N.Nodup) (tk : Takes X Wx) (hst : X.stack = X.env :: X.outer) (hf : X.env.frame = some X.env.locals) (I : L2.Inv X pins σ H s) (hi : PI X tg iter wi) (ok : BlkOk X.N X.env.scope scope own)
    (hg : ∀ (s : Shared) (H : Hp) (C : Addr) (cl : List (Str × Addr)) (fp : List Addr) (E : Value → Shared → Prop), PG ((X.blk s H scope (compEnvC scope cl C X.env) fp).wish E) tg g)
    (ht : ∀ (W' : WX) (s : Shared) (H : Hp) (C : Addr) (cl : List (Str × Addr)) (fp : List Addr) (E : Value → Shared → Prop), Takes ((X.blk s H scope (compEnvC scope cl C X.env) fp).wish E) W' → PTs ((X.blk s H scope (compEnvC scope cl C X.env) fp).wish E) ifs (tt W'))
    (he : ∀ (W' : WX) (s : Shared) (H : Hp) (C : Addr) (cl : List (Str × Addr)) (fp : List Addr) (E : Value → Shared → Prop), Takes ((X.blk s H scope (compEnvC scope cl C X.env) fp).wish E) W' → PE ((X.blk s H scope (compEnvC scope cl C X.env) fp).wish E) elt (te W')) (hs : ∀ x, foldedSetIterable iter X.env x = pure x)
    (h : tLcX Wx wi g tt te (own.map (·.2)) σ H Q)
    (hRR : ∀ D (ce : Env) s' m H', L2.Inv X pins σ H' s' → Q (.ref D) H' → s'.heap.Ns ce.locals m → FpOk X pins H' ce.locals → compEnds (model X.prog X.w) X.A X.xe use Qf (.ref D) ce (.ok .next) s') :
    wpAny (model X.prog X.w) X.A (comprehension (.ListComp elt [⟨tg, iter, ifs, 0⟩] scope pos) scope X.env pos' (newList []) false (eval iter X.env) use) Qf X.xe s := by
  have hfree : ∀ y ∈ scope.names, y.2 = .free → ∃ c, X.env.cells.lookup y.1 = some c := fun y hy e => by
    rcases ok.free y hy e with k | k
    · exact I.ok.has _ (.inl k)
    · exact I.ok.has _ (.inr k)
  refine comprehension_at (use := use) rfl hs (closure_ok hfree) ok.kind (fun y hy e => by rw [ok.uniq y hy, e])
    (thn (hi.run pins s σ H _ I h) fun xv s1 hx => thn hx fun itv s2 h2 => ?_)
  obtain ⟨it, fp, tn, J, H2, e, I2, T, st2, f2, q⟩ := h2
  subst e
  refine wpAny_newObj_type (newEnv_comp ?_) (by show 0 ≤ sizeLine; decide)
  generalize hD : s2.heap.objs.size = D
  have hDn : H2 D = none := I2.hok.fresh (Nat.le_of_eq hD)
  obtain ⟨W, ⟨m0, w0⟩, turn⟩ := q D hDn
  -- the new list
  generalize hs3 : ({ s2 with heap := s2.heap.push { cls := .type "list", data := .seq ([] : List Value).toArray } } : Shared) = s3
  have I3 : L2.Inv X pins σ (L2.upd H2 D (.lst [])) s3 := by
    rw [← hs3]
    refine I2.laid (t' := s2.toks) (fun b o e => Heap.get?_push_of_some _ e) (Nat.le_of_eq hD) ⟨Nat.zero_le _, [], 0, .nil, ?_⟩
    rw [← hD]
    exact Heap.get?_push_size _ rfl
  have h3 : s3.heap = s2.heap.push { cls := .type "list", data := .seq ([] : List Value).toArray } := by rw [← hs3]
  have sz : ∀ b ∈ fp, b < s2.heap.objs.size := fun b hb => by
    obtain ⟨o, e, _⟩ := T.obj _ _ st2 b hb
    exact Heap.lt_size e
  have f3 : ∀ b ∈ fp, FpOk X pins (L2.upd H2 D (.lst [])) b ∧ b < s3.heap.objs.size := fun b hb => by
    have hlt := sz b hb
    refine ⟨⟨?_, (f2 b hb).2⟩, by rw [h3, Heap.size_push]; exact Nat.lt_succ_of_lt hlt⟩
    rw [upd_ne (by rw [← hD]; exact Nat.ne_of_lt hlt)]
    exact (f2 b hb).1
  have st3 : tn 0 s3.heap := T.keep _ _ _ st2 fun b _ o e => by rw [h3]; exact Heap.get?_push_of_some _ e
  have I4 := block_start I3 ok hN f3
  have tkB := blk_takes (scope := scope) (cl := cellsFrom (s3.heap.objs.size + 1) scope.names (cloFrom X.env.cells scope.names [])) (D := D) (use := use) (Qf := Qf) I3 tk hst hf f3
  have pg := hg s3 (L2.upd H2 D (.lst [])) s3.heap.objs.size (cellsFrom (s3.heap.objs.size + 1) scope.names (cloFrom X.env.cells scope.names [])) fp (blkE X (compEnvC scope (cellsFrom (s3.heap.objs.size + 1) scope.names (cloFrom X.env.cells scope.names [])) s3.heap.objs.size X.env) use Qf D)
  have pt := ht _ s3 (L2.upd H2 D (.lst [])) s3.heap.objs.size (cellsFrom (s3.heap.objs.size + 1) scope.names (cloFrom X.env.cells scope.names [])) fp _ tkB
  have pe := he _ s3 (L2.upd H2 D (.lst [])) s3.heap.objs.size (cellsFrom (s3.heap.objs.size + 1) scope.names (cloFrom X.env.cells scope.names [])) fp _ tkB
  show codeAny _ _ (.compStart (.ListComp elt [⟨tg, iter, ifs, 0⟩] scope pos) 0 (.ref it) (.ref D) (compEnvC scope (cellsFrom (s3.heap.objs.size + 1) scope.names (cloFrom X.env.cells scope.names [])) s3.heap.objs.size X.env)) (compEnds (model X.prog X.w) X.A X.xe use Qf (.ref D) (compEnvC scope (cellsFrom (s3.heap.objs.size + 1) scope.names (cloFrom X.env.cells scope.names [])) s3.heap.objs.size X.env)) { s3 with heap := pushCells (s3.heap.push { cls := .type "dict", data := .dict #[] }) scope.names }
  have nfp : ∀ b ∈ fp, (L2.upd H2 D (.lst [])) b = none := fun b hb => (f3 b hb).1.1
  have I4' := I4.wish (blkE X (compEnvC scope (cellsFrom (s3.heap.objs.size + 1) scope.names (cloFrom X.env.cells scope.names [])) s3.heap.objs.size X.env) use Qf D)
  clear I4 tkB hg ht he
  generalize hce : compEnvC scope (cellsFrom (s3.heap.objs.size + 1) scope.names (cloFrom X.env.cells scope.names [])) s3.heap.objs.size X.env = ce at I4' pg pt pe ⊢
  have cL : ce.locals = s3.heap.objs.size := by subst hce; rfl
  generalize hH3 : L2.upd H2 D (.lst []) = H3 at I3 I4' pg pt pe w0 nfp f3
  generalize hs4 : ({ s3 with heap := pushCells (s3.heap.push { cls := .type "dict", data := .dict #[] }) scope.names } : Shared) = s4 at I4' ⊢
  have st4 : tn 0 s4.heap := T.keep _ _ _ st3 fun b _ o e => by rw [← hs4]; exact pushCells_keeps _ _ _ _ (Heap.get?_push_of_some _ e)
  have stat : ∀ {σ' : L2.St} {H' : Hp} {s' : Shared}, L2.Inv ((X.blk s3 H3 scope ce fp).wish (blkE X ce use Qf D)) [] σ' H' s' → (∀ b ∈ fp, H' b = none) → ∀ b ∈ fp, FpOk ((X.blk s3 H3 scope ce fp).wish (blkE X ce use Qf D)) [] H' b := fun {σ' H' s'} I' hn b hb =>
    ⟨hn b hb, (I'.ok.exf b hb).1, I'.ok.exfs b hb, .inl hb, fun x c e => (I'.ok.exf b hb).2 x c e, fun p hp => absurd (show p ∈ ([] : List (Addr × Obj)) ++ [] from hp) (by simp)⟩
  have loop : codeAny (model X.prog X.w) X.A (.compLoop (.ListComp elt [⟨tg, iter, ifs, 0⟩] scope pos) 0 (.ref it) (.ref D) ce) (compEnds (model X.prog X.w) X.A X.xe use Qf (.ref D) ce) s4 := by
    refine compLoop_any (fun n s' => ∃ i H', L2.Inv ((X.blk s3 H3 scope ce fp).wish (blkE X ce use Qf D)) [] (L2.wipe σ (own.map (·.2))) H' s' ∧ tn i s'.heap ∧ (∀ b ∈ fp, H' b = none) ∧ W i n H') ?_ m0 ⟨0, H3, I4', st4, nfp, w0⟩
    rintro n s5 ⟨i, H5, I5, st5, n5, w5⟩
    rcases turn i n H5 w5 with ⟨stop, qq⟩ | ⟨go, Nx, hNx, step⟩
    · have td := T.done ((X.blk s3 H3 scope ce fp).wish (blkE X ce use Qf D)) rfl rfl rfl hc i [] s5 _ H5 (blkE X ce use Qf D) I5 (stat I5 n5) st5 stop
      refine thn td fun r s6 ⟨hr, I6⟩ => ?_
      subst hr
      -- back in the def's context
      have I7 : L2.Inv X pins σ H5 s6 := I3.call' (ch := fp) I6.os I6.base I6.hok I6.bare fun b hb => ⟨(f3 b hb).1.2.2.2.1, (f3 b hb).1.2.1, (f3 b hb).1.2.2.2.2.1, (f3 b hb).1.2.2.2.2.2⟩
      have nC : H5 s3.heap.objs.size = none := by
        have z : H5 ce.locals = none := I6.free
        rw [cL] at z
        exact z
      obtain ⟨m, hn, _⟩ := I6.loc
      have hn : s6.heap.Ns ce.locals m := hn
      exact hRR D ce s6 m H5 I7 qq hn (by rw [cL]; exact I3.fpOk (Nat.le_refl _) nC)
    · have ti := T.item ((X.blk s3 H3 scope ce fp).wish (blkE X ce use Qf D)) rfl rfl rfl hc i [] s5 _ H5 (blkE X ce use Qf D) I5 (stat I5 n5) st5 go
      refine thn ti fun r s6 ⟨u, hr, h6⟩ => ?_
      subst hr
      refine thn h6 fun _ s7 ⟨x, H7, I7, r7, y7, st7, n7⟩ => ?_
      have I7' := I7.pinned (stat I7 n7) (T.obj _ _ st7)
      refine thn (pg.run _ s7 _ H7 x u _ I7' r7 (step x H7 y7)) fun _ s8 ⟨σ8, H8, I8, hw8, q8⟩ => ?_
      refine thn (pt.run _ s8 σ8 H8 _ I8 q8) fun b s9 ⟨H9, I9, q9⟩ => ?_
      -- the turn's end
      have fin : ∀ {s' : Shared} {H' : Hp}, L2.Inv ((X.blk s3 H3 scope ce fp).wish (blkE X ce use Qf D)) ([] ++ pinsAt fp s7.heap) σ8 H' s' → Nx H' → ∃ m, m < n ∧ ∃ i H', L2.Inv ((X.blk s3 H3 scope ce fp).wish (blkE X ce use Qf D)) [] (L2.wipe σ (own.map (·.2))) H' s' ∧ tn i s'.heap ∧ (∀ b ∈ fp, H' b = none) ∧ W i m H' := fun {s' H'} I' nx => by
        obtain ⟨m', hm, w'⟩ := hNx H' nx
        have pin' : ∀ b ∈ fp, ∀ o, s7.heap.get? b = some o → s'.heap.get? b = some o ∧ H' b = none := fun b hb o e =>
          let z := I'.pin (b, o) (List.mem_append_right _ (List.mem_append_right _ (mem_pinsAt hb e)))
          ⟨z.1, z.2.1⟩
        have hl : (L2.wipe σ (own.map (·.2))).length = σ8.length := by rw [← hw8, wipe_length]
        refine ⟨m', hm, i + 1, H', (I'.unpinned (pins := [])).weak hl (fun j v e => ?_), T.keep _ _ _ st7 fun b hb o e => (pin' b hb o e).1, fun b hb => ?_, w'⟩
        · rw [← hw8] at e
          exact (wipe_some e).1
        · obtain ⟨o, e, _⟩ := T.obj _ _ st7 b hb
          exact (pin' b hb o e).2
      cases b with
      | false =>
        simp only [Bool.false_eq_true, if_false] at q9 ⊢
        exact fin I9 q9
      | true =>
        simp only [if_true] at q9 ⊢
        refine thn (pe.run _ s9 σ8 H9 _ I9 q9) fun z s10 ⟨yv, H10, I10, r10, acc, hD10, hz10, nx⟩ => ?_
        exact app_ok (X := (X.blk s3 H3 scope ce fp).wish (blkE X ce use Qf D)) I10 hD10 hz10 r10 fun s11 I11 => fin I11 nx
  exact codeAny_compStart_list loop (T.self X.A 0 _ _ _ st4 loop)
variable {Wx : WX}
/-- as a value -/
theorem pe_lcX {elt tg iter : Expr} {ifs : List Expr} {scope : Scope} {own : List (Str × Nat)} {pos : Pos} {wi : TI} {g : TG} {tt : WX → TT} {te : WX → TE} (hc : X.calm = true) (hN : X.N.Nodup) (tk : Takes X Wx) (hst : X.stack = X.env :: X.outer) (hf : X.env.frame = some X.env.locals) (hi : PI X tg iter wi) (ok : BlkOk X.N X.env.scope scope own)
    (hg : ∀ (s : Shared) (H : Hp) (C : Addr) (cl : List (Str × Addr)) (fp : List Addr) (E : Value → Shared → Prop), PG ((X.blk s H scope (compEnvC scope cl C X.env) fp).wish E) tg g)
    (ht : ∀ (W' : WX) (s : Shared) (H : Hp) (C : Addr) (cl : List (Str × Addr)) (fp : List Addr) (E : Value → Shared → Prop), Takes ((X.blk s H scope (compEnvC scope cl C X.env) fp).wish E) W' → PTs ((X.blk s H scope (compEnvC scope cl C X.env) fp).wish E) ifs (tt W'))
    (he : ∀ (W' : WX) (s : Shared) (H : Hp) (C : Addr) (cl : List (Str × Addr)) (fp : List Addr) (E : Value → Shared → Prop), Takes ((X.blk s H scope (compEnvC scope cl C X.env) fp).wish E) W' → PE ((X.blk s H scope (compEnvC scope cl C X.env) fp).wish E) elt (te W')) (hs : ∀ x, foldedSetIterable iter X.env x = pure x) :
    PE X (.ListComp elt [⟨tg, iter, ifs, 0⟩] scope pos) (tLcX Wx wi g tt te (own.map (·.2))) := by
  refine ⟨fun pins s σ H Q I h => ?_⟩
  rw [eval_ListComp]
  refine lc_coreX hc hN tk hst hf I hi ok hg ht he hs h fun D ce s' m H' I' q hn f => ⟨m, hn, fun h'' sb => ?_⟩
  obtain ⟨f0, f1, f2, f3, f4, f5⟩ := f
  exact ⟨.ref D, H', I'.turned (t' := s'.toks) (fun b o hb e => (sb.2 b hb).trans e) f0 f1 f3 f4 f5, rfl, q⟩
/-- name = [..] on one line, the name a local -/
theorem ps_setLcX {i : Nat} {y : Str} {py : Pos} {elt tg iter : Expr} {ifs : List Expr} {scope : Scope} {own : List (Str × Nat)} {pos spos : Pos} {wi : TI} {g : TG} {tt : WX → TT} {te : WX → TE} (hc : X.calm = true) (hN : X.N.Nodup) (tk : Takes X Wx) (hst : X.stack = X.env :: X.outer) (hf : X.env.frame = some X.env.locals) (hy : X.N[i]? = some y) (hyl : X.env.scope.names.lookup y = some .local)
    (hsw : swapsWith (.ListComp elt [⟨tg, iter, ifs, 0⟩] scope pos) (some (.Name y py)) spos.line X.env = pure true) (hi : PI X tg iter wi) (ok : BlkOk X.N X.env.scope scope own)
    (hg : ∀ (s : Shared) (H : Hp) (C : Addr) (cl : List (Str × Addr)) (fp : List Addr) (E : Value → Shared → Prop), PG ((X.blk s H scope (compEnvC scope cl C X.env) fp).wish E) tg g)
    (ht : ∀ (W' : WX) (s : Shared) (H : Hp) (C : Addr) (cl : List (Str × Addr)) (fp : List Addr) (E : Value → Shared → Prop), Takes ((X.blk s H scope (compEnvC scope cl C X.env) fp).wish E) W' → PTs ((X.blk s H scope (compEnvC scope cl C X.env) fp).wish E) ifs (tt W'))
    (he : ∀ (W' : WX) (s : Shared) (H : Hp) (C : Addr) (cl : List (Str × Addr)) (fp : List Addr) (E : Value → Shared → Prop), Takes ((X.blk s H scope (compEnvC scope cl C X.env) fp).wish E) W' → PE ((X.blk s H scope (compEnvC scope cl C X.env) fp).wish E) elt (te W')) (hs : ∀ x, foldedSetIterable iter X.env x = pure x) :
    PS X (.Assign [.Name y py] (.ListComp elt [⟨tg, iter, ifs, 0⟩] scope pos) spos) (tAsg (tLcX Wx wi g tt te (own.map (·.2))) (gName i)) := by
  refine ⟨fun pins s σ H D I h => ?_⟩
  rw [exec_Assign_Name_used _ _ _ _ hsw]
  refine wpAny_bind (wpAny_standAt (wpAny_bind ?_))
  show wpAny _ X.A (do let _ ← comprehension (.ListComp elt [⟨tg, iter, ifs, 0⟩] scope pos) scope X.env (firstIterPos [⟨tg, iter, ifs, 0⟩] pos) (newList []) false (eval iter X.env) (some (assign (.Name y py) X.env))) _ _ s
  have h : tLcX Wx wi g tt te (own.map (·.2)) σ H (fun x H1 => gName i x σ H1 D.nx) := h
  refine wpAny_bind (thn (lc_coreX (Qf := fun _ s' => SP X pins D .next s') hc hN tk hst hf I hi ok hg ht he hs h fun L ce s' m H' I' q hn f => ?_) fun _ s' hq => wpAny_pure (wpAny_pure hq))
  show wpAny _ _ (assign (.Name y py) X.env (.ref L)) _ _ _
  refine wpAny_assign_Name (store_ok2 (v := V.ref L) I' hN hy (.inl hyl) rfl (fun s2 I2 ⟨a, sb, ha⟩ => ?_) (.inr hyl))
  obtain ⟨f0, f1, f2, f3, f4, f5⟩ := f
  have haC : ce.locals ≠ a := by
    rcases ha with z | z
    · rw [z]; exact f1
    · exact fun e => f4 y a z e.symm
  refine ⟨m, hn.sameBut sb haC, fun h3 sb3 => ?_⟩
  exact ⟨_, H', I2.turned (t' := s2.toks) (fun b o hb e => (sb3.2 b hb).trans e) f0 f1 f3 f4 f5, q⟩
end
end PV

set_option Elab.async false
set_option linter.all false
set_option maxRecDepth 100000
set_option maxHeartbeats 1000000
/-! PV7: slots stored, targets, list comprehensions by the evaluator. -/
namespace PV
open PySem PySem.Spec PyProof.Rows L2

section
variable {c : Cc} {W W' : Wd} {H H' : Hp} {σ : L2.St} {ρ : Rho} {s s' : DS}
/-- a slot gets a value -/
theorem Rep.set {i : Nat} {d : D} {v : V} (r : Rep c W σ ρ H s) (h : Den c.K W H d v) : Rep c W (σ.set i (some v)) (ρ.set i (.v d)) H s where
  len := by simpa using r.len
  val := fun j x e => by
    by_cases hj : i = j
    · subst hj
      by_cases hi : i < ρ.length
      · rw [List.getElem?_set_self hi] at e
        cases e
        exact ⟨v, by rw [List.getElem?_set_self (by rw [← r.len]; exact hi)], h⟩
      · rw [List.getElem?_eq_none (by simpa using hi)] at e; cases e
    · rw [List.getElem?_set_ne hj] at e ⊢
      exact r.val j x e
  own := fun j xs e => by
    by_cases hj : i = j
    · subst hj
      by_cases hi : i < ρ.length
      · rw [List.getElem?_set_self hi] at e; cases e
      · rw [List.getElem?_eq_none (by simpa using hi)] at e; cases e
    · rw [List.getElem?_set_ne hj] at e ⊢
      exact r.own j xs e
  inj := fun j k xs ys u e1 e2 e3 e4 => by
    have nj : ∀ j xs, (ρ.set i (.v d))[j]? = some (.o xs) → i ≠ j := fun j xs e hj => by
      subst hj
      by_cases hi : i < ρ.length
      · rw [List.getElem?_set_self hi] at e; cases e
      · rw [List.getElem?_eq_none (by simpa using hi)] at e; cases e
    have n1 := nj j xs e1
    have n2 := nj k ys e2
    rw [List.getElem?_set_ne n1] at e1 e3
    rw [List.getElem?_set_ne n2] at e2 e4
    exact r.inj j k xs ys u e1 e2 e3 e4
  exc := fun j x e => by
    by_cases hj : i = j
    · subst hj
      by_cases hi : i < ρ.length
      · rw [List.getElem?_set_self hi] at e; cases e
      · rw [List.getElem?_eq_none (by simpa using hi)] at e; cases e
    · rw [List.getElem?_set_ne hj] at e ⊢
      exact r.exc j x e
  ds := r.ds
  wd := r.wd
  base := r.base
/-- a slot is forgotten, whatever stands there -/
theorem Rep.forget {i : Nat} {o : Option V} (r : Rep c W σ ρ H s) : Rep c W (σ.set i o) (ρ.set i .u) H s where
  len := by simpa using r.len
  val := fun j x e => by
    by_cases hj : i = j
    · subst hj
      by_cases hi : i < ρ.length
      · rw [List.getElem?_set_self hi] at e; cases e
      · rw [List.getElem?_eq_none (by simpa using hi)] at e; cases e
    · rw [List.getElem?_set_ne hj] at e ⊢
      exact r.val j x e
  own := fun j xs e => by
    by_cases hj : i = j
    · subst hj
      by_cases hi : i < ρ.length
      · rw [List.getElem?_set_self hi] at e; cases e
      · rw [List.getElem?_eq_none (by simpa using hi)] at e; cases e
    · rw [List.getElem?_set_ne hj] at e ⊢
      exact r.own j xs e
  inj := fun j k xs ys u e1 e2 e3 e4 => by
    have nj : ∀ j xs, (ρ.set i .u)[j]? = some (.o xs) → i ≠ j := fun j xs e hj => by
      subst hj
      by_cases hi : i < ρ.length
      · rw [List.getElem?_set_self hi] at e; cases e
      · rw [List.getElem?_eq_none (by simpa using hi)] at e; cases e
    have n1 := nj j xs e1
    have n2 := nj k ys e2
    rw [List.getElem?_set_ne n1] at e1 e3
    rw [List.getElem?_set_ne n2] at e2 e4
    exact r.inj j k xs ys u e1 e2 e3 e4
  exc := fun j x e => by
    by_cases hj : i = j
    · subst hj
      by_cases hi : i < ρ.length
      · rw [List.getElem?_set_self hi] at e; cases e
      · rw [List.getElem?_eq_none (by simpa using hi)] at e; cases e
    · rw [List.getElem?_set_ne hj] at e ⊢
      exact r.exc j x e
  ds := r.ds
  wd := r.wd
  base := r.base
theorem Rep.wipe (r : Rep c W σ ρ H s) : ∀ vs : List Nat, Rep c W (L2.wipe σ vs) (PV.wipe ρ vs) H s
  | [] => r
  | v :: vs => (Rep.wipe r vs).forget
theorem wipe_get {σ : L2.St} {j : Nat} : ∀ (vs : List Nat), (L2.wipe σ vs)[j]? = if j ∈ vs ∧ j < σ.length then some none else σ[j]?
  | [] => by simp [L2.wipe]
  | v :: vs => by
    unfold L2.wipe
    by_cases hv : v = j
    · subst hv
      by_cases hl : v < σ.length
      · rw [List.getElem?_set_self (by rw [wipe_length]; exact hl), if_pos ⟨List.mem_cons_self, hl⟩]
      · rw [List.getElem?_eq_none (by rw [List.length_set, wipe_length]; omega), if_neg (fun z => hl z.2), List.getElem?_eq_none (by omega)]
    · rw [List.getElem?_set_ne hv, wipe_get vs]
      have e : (j ∈ v :: vs ∧ j < σ.length) ↔ (j ∈ vs ∧ j < σ.length) := by
        simp only [List.mem_cons]
        constructor
        · rintro ⟨h | h, k⟩
          · exact absurd h.symm hv
          · exact ⟨h, k⟩
        · rintro ⟨h, k⟩
          exact ⟨.inr h, k⟩
      by_cases h : j ∈ vs ∧ j < σ.length
      · rw [if_pos h, if_pos (e.mpr h)]
      · rw [if_neg h, if_neg (fun z => h (e.mp z))]
theorem wipe_eq {σ σ2 : L2.St} {vs : List Nat} (hl : σ2.length = σ.length) (h : ∀ j, j ∉ vs → σ2[j]? = σ[j]?) : L2.wipe σ2 vs = L2.wipe σ vs := by
  apply List.ext_getElem?
  intro j
  rw [wipe_get, wipe_get, hl]
  by_cases hj : j ∈ vs
  · by_cases hk : j < σ.length
    · rw [if_pos ⟨hj, hk⟩, if_pos ⟨hj, hk⟩]
    · rw [if_neg (fun z => hk z.2), if_neg (fun z => hk z.2), List.getElem?_eq_none (by omega), List.getElem?_eq_none (by omega)]
  · rw [if_neg (fun z => hj z.1), if_neg (fun z => hj z.1)]
    exact h j hj
end

/-! ### targets -/
def gsT : List Nat → TGs
  | [] => gNil
  | i :: is => gCons (gName i) (gsT is)
def gT (K : PySem.W.Frag) : T → TG
  | .one i => gName i
  | .tup is => fun v σ H Q => gTup K is.length (gsT is) v σ H Q ∨ gLst K is.length (gsT is) v σ H Q
theorem _root_.L2.PG.or {X : Cx} {e : Expr} {g1 g2 : TG} (h1 : PG X e g1) (h2 : PG X e g2) : PG X e (fun v σ H Q => g1 v σ H Q ∨ g2 v σ H Q) := ⟨fun pins s σ H v u Q I r h => by
  rcases h with h | h
  · exact h1.run pins s σ H v u Q I r h
  · exact h2.run pins s σ H v u Q I r h⟩
theorem pg_seq {X : Cx} {es : List Expr} {k : Nat} {pos : Pos} {is : List Nat} (hc : X.calm = true) (h : PGs X es (gsT is)) (hn : (assignEach es X.env).length = is.length) (hst : (assignEach es X.env).findIdx? (·.1) = none) : PG X (.Tuple es k pos) (gT X.K (.tup is)) :=
  L2.PG.or (pg_tup hc h hn hst) (pg_lst hc h hn hst)
def T.slots : T → List Nat
  | .one i => [i]
  | .tup is => is
section
variable {c : Cc} {W : Wd} {H : Hp} {σ : L2.St} {ρ ρ' : Rho} {s : DS}
theorem gsT_ok : ∀ {is : List Nat} {ds : List D} {vs : List V} {σ : L2.St} {ρ : Rho} {Q : L2.St → Hp → Prop}, Rep c W σ ρ H s → DenL c.K W H ds vs → setAll is ds ρ = some ρ' →
    (∀ σ', Rep c W σ' ρ' H s → (∀ j, j ∉ is → σ'[j]? = σ[j]?) → σ'.length = σ.length → Q σ' H) → gsT is vs σ H Q
  | [], [], vs, σ, ρ, Q, r, l, e, k => by
    unfold DenL at l
    unfold setAll at e
    cases e
    exact ⟨l, k σ r (fun _ _ => rfl) rfl⟩
  | [], _ :: _, _, _, _, _, _, _, e, _ => by unfold setAll at e; cases e
  | _ :: _, [], _, _, _, _, _, _, e, _ => by unfold setAll at e; cases e
  | i :: is, d :: ds, _, σ, ρ, Q, r, l, e, k => by
    unfold DenL at l
    obtain ⟨v, vr, rfl, hd, l⟩ := l
    unfold setAll at e
    refine ⟨v, vr, rfl, ?_⟩
    show gsT is vr (σ.set i (some v)) H Q
    refine gsT_ok (r.set hd) l e fun σ' r' h1 h2 => k σ' r' (fun j hj => ?_) (by rw [h2, List.length_set])
    simp only [List.mem_cons, not_or] at hj
    rw [h1 j hj.2, List.getElem?_set_ne (Ne.symm hj.1)]
theorem gT_ok {t : T} {d : D} {v : V} {Q : L2.St → Hp → Prop} (r : Rep c W σ ρ H s) (hd : Den c.K W H d v) (e : setT t d ρ = some ρ') (k : ∀ σ', Rep c W σ' ρ' H s → (∀ j, j ∉ t.slots → σ'[j]? = σ[j]?) → σ'.length = σ.length → Q σ' H) : gT c.K t v σ H Q := by
  cases t with
  | one i =>
    unfold setT at e
    cases e
    exact k _ (r.set hd) (fun j hj => by rw [List.getElem?_set_ne (fun z => hj (by simp [T.slots, z]))]) (by simp)
  | tup is =>
    unfold setT at e
    have hlen : ∀ {is : List Nat} {ds : List D} {ρ : Rho}, setAll is ds ρ = some ρ' → ds.length = is.length := by
      intro is
      induction is with
      | nil => intro ds ρ e; cases ds with
        | nil => rfl
        | cons _ _ => unfold setAll at e; cases e
      | cons i is ih => intro ds ρ e; cases ds with
        | nil => unfold setAll at e; cases e
        | cons d ds => unfold setAll at e; simp [ih e]
    cases d with
    | tup ds =>
      obtain ⟨a, vs, rfl, h1, l⟩ := den_tup hd
      exact .inl ⟨a, vs, rfl, h1, by rw [l.length, hlen e], gsT_ok r l e k⟩
    | lst ds =>
      obtain ⟨a, vs, rfl, h1, l⟩ := den_lst hd
      exact .inr ⟨a, vs, rfl, SqL.of h1.2, by rw [l.length, hlen e], gsT_ok r l e k⟩
    | _ => cases e
end

/-! ### list comprehensions -/
section
variable {X : Cx} {c : Cc} {Wx : WX}
theorem Fresh1.grow {W : Wd} {H H' : Hp} {s : DS} (f : Fresh1 H H') (w : WOk W H) (d : DsR c.K W H s) : Grow W H W H' ∧ WOk W H' ∧ DsR c.K W H' s := by
  rcases f with rfl | ⟨T, xs, hT, rfl⟩
  · exact ⟨Grow.refl _ _, w, d⟩
  · exact ⟨Grow.upd hT, w.upd hT, d.upd w hT⟩
/-- the evaluator's turn -/
def cBody (t : T) (own : List Nat) (fcd fe : Rho → M D) (ρ : Rho) : D → M (Option D) := fun x => bind (lift (setT t x (wipe ρ own))) fun ρ2 => bind (fcd ρ2) fun b => bind (toB b) fun k => if k = true then bind (fe ρ2) fun y => ret (some y) else ret none
def addO (acc : List D) : Option D → List D
  | some y => acc ++ [y]
  | none => acc
theorem rest_step {acc : List D} {f : D → M (Option D)} {x : D} {xs : List D} : (bind (mapL f (x :: xs)) fun ys => ret (D.lst (acc ++ ys))) = bind (f x) fun y => bind (mapL f xs) fun ys => ret (.lst (addO acc y ++ ys)) := by
  show bind (bind (f x) fun y => bind (mapL f xs) fun ys => ret (consO y ys)) (fun ys => ret (D.lst (acc ++ ys))) = _
  rw [bind_assoc]
  congr 1
  funext y
  rw [bind_assoc]
  congr 1
  funext ys
  cases y with
  | none => rfl
  | some a =>
    show ret (D.lst (acc ++ a :: ys)) = ret (D.lst ((acc ++ [a]) ++ ys))
    rw [List.append_assoc]; rfl
/-- between two turns -/
structure LcInv (c : Cc) (Wx : WX) (σ : L2.St) (W1 : Wd) (H1 : Hp) (Q : VK) (f : D → M (Option D)) (xs : List D) (Dl : Addr) (i : Nat) (H : Hp) : Prop where
  hi : i ≤ xs.length
  ex : ∃ W s acc vs, Grow W1 H1 W H ∧ WOk W H ∧ DsR c.K W H s ∧ H Dl = some (.lst vs) ∧ ¬ W.I Dl ∧ W.A ≠ some Dl ∧ DenL c.K W H acc vs ∧ acc.length ≤ i ∧
    At c Wx (rN c) σ W1 H1 ((bind (mapL f (xs.drop i)) fun ys => ret (.lst (acc ++ ys))) s) Q
theorem At.shift {α β : Type} {R : Rl α β} {σ : L2.St} {W H W1 H1} {r : Option (Res α)} {Q : β → Hp → Prop} (hF : Free R) (h : At c Wx R σ W H r Q) (g : Grow W H W1 H1) : At c Wx R σ W1 H1 r Q := by
  unfold At at h ⊢
  split
  · exact h
  · exact fun v W' H' g' w ds q => h v W' H' (g.trans g') w ds (hF.free _ _ _ _ _ _ _ _ g q)
  · exact fun cls dd W' H' g' w ds q => h cls dd W' H' (g.trans g') w ds q
/-- own facts further on -/
theorem own_on {K : PySem.W.Frag} {W W' : Wd} {H H' : Hp} {p : Addr} {l : List V} (g : Grow W H W' H') (h : H p = some (.lst l)) (n : ¬ W.I p) (nA : W.A ≠ some p) : H' p = some (.lst l) ∧ ¬ W'.I p ∧ W'.A ≠ some p :=
  ⟨g.keep _ _ h nA, fun z => (g.iN p z).elim n fun z => (by rw [h] at z; cases z), fun z => (g.aN p z).elim nA fun z => (by rw [h] at z; cases z)⟩
theorem r_comp {elt tg iter : Expr} {ifs : List Expr} {scope : Scope} {own : List (Str × Nat)} {pos : Pos} {its : Rho → M (List D)} {t : T} {fcd fe : Rho → M D} (hK : X.K = c.K)
    (hwi : tG c Wx (rIB c) its = tG c Wx (rIB c) its) (hsub : ∀ j ∈ t.slots, j ∈ own.map (·.2)) :
    ∀ σ H Q, tG c Wx (rN c) (fun ρ => bind (its ρ) fun xs => if xs.length ≤ sizeLine then bind (mapL (cBody t (own.map (·.2)) fcd fe ρ) xs) fun ys => ret (.lst ys) else stuck) σ H Q →
      tLcX Wx (tG c Wx (rIB c) its) (gT c.K t) (fun W' => tG c W' rT (tst fcd)) (fun W' => tG c W' (rD c) fe) (own.map (·.2)) σ H Q := by
  intro σ H Q q
  refine (tG.seq free_N q (rIB c)).monoQ fun J H1 ⟨W0, H0, W1, ρ, s0, s1, xs, r0, gr, r1, hJ, k⟩ => ?_
  have hJ : Walks (fun W H W' H' => WOk W H ∧ Grow W H W' H') c W1 H1 xs J := hJ
  split at k
  case isFalse => exact False.elim k
  rename_i hsz
  intro Dl hD
  refine ⟨fun i m H => m = xs.length - i ∧ LcInv c Wx σ W1 H1 Q (cBody t (own.map (·.2)) fcd fe ρ) xs Dl i H, ⟨xs.length, by simp, Nat.zero_le _, W1, s1, [], [], Grow.upd hD, r1.wd.upd hD, r1.ds.upd r1.wd hD, upd_same, fun z => ?_, fun z => ?_, DenL.nil, Nat.zero_le _, by simpa using k⟩, ?_⟩
  · obtain ⟨o, e⟩ := r1.wd.iS _ z
    rw [hD] at e; cases e
  · obtain ⟨⟨l, e⟩, _⟩ := r1.wd.aL _ z
    rw [hD] at e; cases e
  rintro i m H2 ⟨rfl, hi, W2, s2, acc, vs, g2, w2, ds2, hDl, nI, nA, hacc, hlen, k2⟩
  by_cases hlt : i < xs.length
  · right
    have hx : xs[i]? = some xs[i] := by simp [hlt]
    obtain ⟨hgo, hy⟩ := (hJ i W2 H2 ⟨r1.wd, g2⟩).1 _ hx
    refine ⟨hgo, fun H' => LcInv c Wx σ W1 H1 Q (cBody t (own.map (·.2)) fcd fe ρ) xs Dl (i + 1) H', fun H' h' => ⟨xs.length - (i + 1), by omega, rfl, h'⟩, fun x H3 y3 => ?_⟩
    obtain ⟨fr, hdx⟩ := hy x H3 y3
    obtain ⟨g3, w3, ds3⟩ := fr.grow w2 ds2
    have hdrop : xs.drop i = xs[i] :: xs.drop (i + 1) := (List.drop_eq_getElem_cons hlt)
    rw [hdrop, rest_step] at k2
    have r3 : Rep c W2 σ ρ H3 s2 := r1.mono (g2.trans g3) w3 ds3
    have rw3 := r3.wipe (own.map (·.2))
    obtain ⟨hDl3, nI3, nA3⟩ := own_on (K := c.K) g3 hDl nI nA
    -- the turn
    unfold cBody at k2
    rw [bind_assoc] at k2
    cases est : setT t xs[i] (PV.wipe ρ (own.map (·.2))) with
    | none => rw [est] at k2; exact False.elim k2
    | some ρ2 =>
      rw [est, lift_some, ret_bind, bind_assoc] at k2
      refine gT_ok rw3 hdx est fun σ2 r4 hs4 hl4 => ⟨wipe_eq ?_ ?_, ?_⟩
      · exact hl4.trans (wipe_length _ _)
      · intro j hj
        rw [hs4 j (fun z => hj (hsub j z)), wipe_get, if_neg (fun z => hj z.1)]
      · -- the test
        have k3 := At.shift (c := c) (Wx := Wx) (α := D) free_N k2 (g2.trans g3)
        refine ⟨W2, ρ2, s2, r4, ?_⟩
        unfold tst
        cases eb : fcd ρ2 s2 with
        | none => rw [bind_none eb] at k3; exact False.elim k3
        | some z =>
          cases z with
          | ex e s3 => rw [bind_ex eb] at k3 ⊢; exact k3
          | ok b s3 =>
            rw [bind_ok eb] at k3 ⊢
            rw [bind_assoc] at k3
            unfold toB at k3 ⊢
            cases b with
            | bl b =>
              rw [ret_bind] at k3
              intro bb W4 H4 g4 w4 ds4 eb4
              cases eb4
              obtain ⟨hDl4, nI4, nA4⟩ := own_on (K := c.K) g4 hDl3 nI3 nA3
              have r5 := r4.mono g4 w4 ds4
              have acc4 : DenL c.K W4 H4 acc vs := DenL.mono g4 w3 _ _ (DenL.mono g3 w2 _ _ hacc)
              cases b with
              | false =>
                rw [if_neg Bool.false_ne_true, ret_bind] at k3
                rw [if_neg Bool.false_ne_true]
                refine ⟨hlt, W4, s3, acc, vs, (g2.trans g3).trans g4, w4, ds4, hDl4, nI4, nA4, acc4, by omega, ?_⟩
                rw [bind_ok eb] at k2
                exact k2
              | true =>
                rw [if_pos rfl, bind_assoc] at k3
                rw [if_pos rfl]
                have k4 := At.shift (c := c) (Wx := Wx) (α := D) free_N k3 g4
                refine ⟨W4, ρ2, s3, r5, ?_⟩
                cases ee : fe ρ2 s3 with
                | none => rw [bind_none ee] at k4; exact False.elim k4
                | some z =>
                  cases z with
                  | ex e s4 => rw [bind_ex ee] at k4; exact k4
                  | ok y s4 =>
                    intro yv W5 H5 g5 w5 ds5 hyv
                    obtain ⟨hDl5, nI5, nA5⟩ := own_on (K := c.K) g5 hDl4 nI4 nA4
                    have acc5 : DenL c.K W5 H5 acc vs := DenL.mono g5 w4 _ _ acc4
                    have lv := acc5.length
                    refine ⟨vs, hDl5, by omega, hlt, W5, s4, acc ++ [y], vs ++ [yv], Grow.own (((g2.trans g3).trans g4).trans g5) hD hDl5, w5.own hDl5, ds5.own hDl5 nI5 nA5, upd_same, nI5, nA5,
                      DenL.monoW (WGrow.own hDl5 nI5) _ _ (acc5.append (DenL.cons hyv DenL.nil)), by rw [List.length_append]; simp; omega, ?_⟩
                    rw [bind_ok eb] at k2
                    have k2 : At c Wx (rN c) σ W1 H1 (bind (bind (fe ρ2) fun y => ret (some y)) (fun y => bind (mapL _ (List.drop (i + 1) xs)) fun ys => ret (D.lst (addO acc y ++ ys))) s3) Q := k2
                    rw [bind_assoc, bind_ok ee, ret_bind] at k2
                    exact k2
            | _ => exact False.elim k3
  · left
    have e : i = xs.length := by omega
    subst e
    refine ⟨(hJ _ W2 H2 ⟨r1.wd, g2⟩).2 (Nat.le_refl _), ?_⟩
    rw [List.drop_length] at k2
    have k2 : At c Wx (rN c) σ W1 H1 (ret (D.lst (acc ++ [])) s2) Q := k2
    rw [List.append_nil] at k2
    exact k2 (.ref Dl) W2 H2 g2 w2 ds2 ⟨Dl, vs, acc, rfl, rfl, hD, hDl, hacc, nI, nA⟩
end
end PV

set_option Elab.async false
set_option linter.all false
set_option maxRecDepth 100000
set_option maxHeartbeats 1000000
/-! PV8: statements. -/
namespace PV
open PySem PySem.Spec PyProof.Rows L2

/-- what is wanted of a statement's outcome, met at (W, H) -/
def SAt (c : Cc) (Wx : WX) (W : Wd) (H : Hp) (r : Option (Fl × DS)) (D : Ends) : Prop := match r with
  | none => False
  | some (.nx ρ', s') => ∀ σ' W' H', WGrow W H W' H' → Rep c W' σ' ρ' H' s' → D.nx σ' H'
  | some (.bk ρ', s') => ∀ σ' W' H', WGrow W H W' H' → Rep c W' σ' ρ' H' s' → D.bk σ' H'
  | some (.ct ρ', s') => ∀ σ' W' H', WGrow W H W' H' → Rep c W' σ' ρ' H' s' → D.ct σ' H'
  | some (.rt d, s') => ∀ v W' H', Grow c.W0 c.H0 W' H' → WOk W' H' → DsR c.K W' H' s' → Den c.K W' H' d v → D.rt v H'
  | some (.er e ρ', s') => ∀ cls dd σ' W' H', WGrow W H W' H' → Rep c W' σ' ρ' H' s' → DenX c.K c.XT W' H' e cls dd → Wx cls dd σ' H'
def tS (c : Cc) (Wx : WX) (F : Rho → MS) : TS := fun D σ H => ∃ W ρ s, Rep c W σ ρ H s ∧ SAt c Wx W H (F ρ s) D

section
variable {X : Cx} {c : Cc} {Wx : WX} {W W1 : Wd} {H H1 : Hp} {σ : L2.St} {En : Ends}
theorem SAt.later {r : Option (Fl × DS)} (h : SAt c Wx W H r En) (g : WGrow W H W1 H1) : SAt c Wx W1 H1 r En := by
  unfold SAt at h ⊢
  split
  · exact h
  · exact fun σ' W' H' g' => h σ' W' H' (g.trans g')
  · exact fun σ' W' H' g' => h σ' W' H' (g.trans g')
  · exact fun σ' W' H' g' => h σ' W' H' (g.trans g')
  · exact h
  · exact fun cls dd σ' W' H' g' => h cls dd σ' W' H' (g.trans g')
/-- an expression first -/
theorem tS.exp {α β : Type} {R : Rl α β} {m : Rho → M α} {k : Rho → α → MS} (h : tS c Wx (fun ρ => bindE (m ρ) ρ (k ρ)) En σ H) :
    tG c Wx R m σ H (fun v H1 => ∃ W0 H0 W1 ρ s1 d, Rep c W1 σ ρ H1 s1 ∧ Grow W0 H0 W1 H1 ∧ Grow c.W0 c.H0 W0 H0 ∧ R W0 H0 W1 H1 d v ∧ SAt c Wx W1 H1 (k ρ d s1) En) := by
  obtain ⟨W, ρ, s, r, a⟩ := h
  refine ⟨W, ρ, s, r, ?_⟩
  unfold bindE at a
  dsimp only at a
  cases q : m ρ s with
  | none => rw [q] at a; exact a
  | some z =>
    rw [q] at a
    cases z with
    | ok d s1 => exact fun v W1 H1 g w ds hR => ⟨W, H, W1, ρ, s1, d, r.mono g w ds, g, r.base, hR, SAt.later a (g.weak r.wd)⟩
    | ex e s1 => exact fun cls dd W1 H1 g w ds hx => a cls dd σ W1 H1 (g.weak r.wd) (r.mono g w ds) hx
theorem SAt.nx {ρ : Rho} {s : DS} (h : SAt c Wx W H (retS (.nx ρ) s) En) {σ' : L2.St} (r : Rep c W σ' ρ H s) : En.nx σ' H := h σ' W H WGrow.refl r
theorem SAt.liftS {α : Type} {o : Option α} {k : α → MS} {s : DS} (h : SAt c Wx W H (PV.liftS o k s) En) : ∃ a, o = some a ∧ SAt c Wx W H (k a s) En := by
  cases o with
  | none => exact False.elim h
  | some a => exact ⟨a, rfl, h⟩

/-! ### blocks -/
theorem pss_rnil : PSs X [] (tS c Wx fun ρ => retS (.nx ρ)) := pss_nil.imp fun D σ H ⟨W, ρ, s, r, a⟩ => a.nx r
theorem pss_rcons {st : Stmt} {rest : List Stmt} {F G : Rho → MS} (h1 : PS X st (tS c Wx F)) (h2 : PSs X rest (tS c Wx G)) :
    PSs X (st :: rest) (tS c Wx fun ρ => fun s => match F ρ s with
      | none => none
      | some (.nx ρ', s1) => G ρ' s1
      | some (f, s1) => some (f, s1)) :=
  (pss_cons h1 h2).imp fun D σ H ⟨W, ρ, s, r, a⟩ => by
    refine ⟨W, ρ, s, r, ?_⟩
    dsimp only at a
    cases q : F ρ s with
    | none => rw [q] at a; exact a
    | some z =>
      rw [q] at a
      obtain ⟨f, s1⟩ := z
      cases f with
      | nx ρ' => exact fun σ' W' H' g r' => ⟨W', ρ', s1, r', SAt.later a g⟩
      | _ => exact a
theorem ps_rpass {pos : Pos} : PS X (.Pass pos) (tS c Wx fun ρ => retS (.nx ρ)) := ps_pass.imp fun D σ H ⟨W, ρ, s, r, a⟩ => a.nx r
theorem ps_rbrk {pos : Pos} : PS X (.Break pos) (tS c Wx fun ρ => retS (.bk ρ)) := ps_break.imp fun D σ H ⟨W, ρ, s, r, a⟩ => a σ W H WGrow.refl r
theorem ps_rcnt {pos : Pos} : PS X (.Continue pos) (tS c Wx fun ρ => retS (.ct ρ)) := ps_continue.imp fun D σ H ⟨W, ρ, s, r, a⟩ => a σ W H WGrow.refl r

variable {e : Expr} {f g : Rho → M D} {pos : Pos}
/-! ### names -/
theorem ps_rset {i : Nat} {x : Str} {pos' : Pos} (hN : X.N.Nodup) (hi : X.N[i]? = some x) (hx : Loc X.env.scope x) (hf : X.fn x = true ∨ X.env.scope.names.lookup x = some .local) (hs : swapsWith e (some (.Name x pos')) pos.line X.env = pure false) (he : PE X e (tG c Wx (rD c) f)) :
    PS X (.Assign [.Name x pos'] e pos) (tS c Wx fun ρ => bindE (f ρ) ρ fun d => retS (.nx (ρ.set i (.v d)))) :=
  (ps_set hN hi hx he hs hf).imp fun D σ H h => (tS.exp (R := rD c) h).monoQ fun v H1 ⟨W0, H0, W1, ρ, s1, d, r, _, _, hd, a⟩ => a.nx (r.set hd)
/-- a list of one's own -/
theorem Rep.setOwn {i : Nat} {W0 W : Wd} {H0 H : Hp} {ρ : Rho} {s : DS} {xs : List D} {vs : List V} {p : Addr} (r : Rep c W σ ρ H s) (h0 : c.H0 p = none) (hn : ∀ (j : Nat) (ys : List PV.D) (a : Addr) (us : List V), ρ[j]? = some (.o ys) → σ[j]? = some (some (.ref a)) → H a = some (.lst us) → a ≠ p)
    (hp : H p = some (.lst vs)) (l : DenL c.K W H xs vs) (nI : ¬ W.I p) (nA : W.A ≠ some p) : Rep c W (σ.set i (some (.ref p))) (ρ.set i (.o xs)) H s where
  len := by simpa using r.len
  val := fun j x e => by
    by_cases hj : i = j
    · subst hj
      by_cases hi : i < ρ.length
      · rw [List.getElem?_set_self hi] at e; cases e
      · rw [List.getElem?_eq_none (by simpa using hi)] at e; cases e
    · rw [List.getElem?_set_ne hj] at e ⊢
      exact r.val j x e
  own := fun j ys e => by
    by_cases hj : i = j
    · subst hj
      by_cases hi : i < ρ.length
      · rw [List.getElem?_set_self hi] at e
        cases e
        exact ⟨p, vs, by rw [List.getElem?_set_self (by rw [← r.len]; exact hi)], hp, l, nI, nA, h0⟩
      · rw [List.getElem?_eq_none (by simpa using hi)] at e; cases e
    · rw [List.getElem?_set_ne hj] at e ⊢
      exact r.own j ys e
  inj := fun j k xs' ys u e1 e2 e3 e4 => by
    have key : ∀ k ys, i ≠ k → (ρ.set i (.o xs))[k]? = some (.o ys) → (σ.set i (some (.ref p)))[k]? = some (some u) → u ≠ .ref p := fun k ys hk e2 e4 z => by
      rw [List.getElem?_set_ne hk] at e2 e4
      obtain ⟨a, us, q1, q2, _⟩ := r.own k ys e2
      rw [e4] at q1
      cases q1
      cases z
      exact hn k ys _ us e2 e4 q2 rfl
    have self : ∀ k ys, i = k → (ρ.set i (.o xs))[k]? = some (.o ys) → (σ.set i (some (.ref p)))[k]? = some (some u) → u = .ref p := fun k ys hk e2 e4 => by
      subst hk
      by_cases hi : i < ρ.length
      · rw [List.getElem?_set_self (by rw [← r.len]; exact hi)] at e4; cases e4; rfl
      · rw [List.getElem?_eq_none (by simpa using hi)] at e2; cases e2
    by_cases hj : i = j
    · by_cases hk : i = k
      · exact hj.symm.trans hk
      · exact absurd (self j xs' hj e1 e3) (key k ys hk e2 e4)
    · by_cases hk : i = k
      · exact absurd (self k ys hk e2 e4) (key j xs' hj e1 e3)
      · rw [List.getElem?_set_ne hj] at e1 e3
        rw [List.getElem?_set_ne hk] at e2 e4
        exact r.inj j k xs' ys u e1 e2 e3 e4
  exc := fun j x e => by
    by_cases hj : i = j
    · subst hj
      by_cases hi : i < ρ.length
      · rw [List.getElem?_set_self hi] at e; cases e
      · rw [List.getElem?_eq_none (by simpa using hi)] at e; cases e
    · rw [List.getElem?_set_ne hj] at e ⊢
      exact r.exc j x e
  ds := r.ds
  wd := r.wd
  base := r.base
theorem own_core {i : Nat} {k : Rho → D → MS} (hk : ∀ ρ xs, k ρ (.lst xs) = retS (.nx (ρ.set i (.o xs)))) (h : tS c Wx (fun ρ => bindE (f ρ) ρ (k ρ)) En σ H) : tG c Wx (rN c) f σ H (fun v H1 => En.nx (σ.set i (some v)) H1) := by
  obtain ⟨W, ρ, s, r, a⟩ := h
  refine ⟨W, ρ, s, r, ?_⟩
  unfold bindE at a
  dsimp only at a
  cases q : f ρ s with
  | none => rw [q] at a; exact a
  | some z =>
    rw [q] at a
    cases z with
    | ex e s1 => exact fun cls dd W1 H1 g w ds hx => a cls dd σ W1 H1 (g.weak r.wd) (r.mono g w ds) hx
    | ok d s1 =>
      intro v W1 H1 g w ds ⟨p, vs, xs, e1, e2, h0, hp, l, nI, nA⟩
      subst e1 e2
      have a : SAt c Wx W H (k ρ (.lst xs) s1) En := a
      rw [hk] at a
      refine SAt.nx (SAt.later a (g.weak r.wd)) ((r.mono g w ds).setOwn (W0 := W) (H0 := H) (r.base.gone h0) (fun j ys b us q1 q2 q3 z => ?_) hp l nI nA)
      subst z
      obtain ⟨b', us', z1, z2, _⟩ := r.own j ys q1
      rw [q2] at z1
      cases z1
      rw [h0] at z2; cases z2
theorem ps_rown {i : Nat} {x : Str} {pos' : Pos} {k : Rho → D → MS} (hk : ∀ ρ xs, k ρ (.lst xs) = retS (.nx (ρ.set i (.o xs)))) (hN : X.N.Nodup) (hi : X.N[i]? = some x) (hx : Loc X.env.scope x) (hf : X.fn x = true ∨ X.env.scope.names.lookup x = some .local) (hs : swapsWith e (some (.Name x pos')) pos.line X.env = pure false) (he : PE X e (tG c Wx (rN c) f)) :
    PS X (.Assign [.Name x pos'] e pos) (tS c Wx fun ρ => bindE (f ρ) ρ (k ρ)) :=
  (ps_set hN hi hx he hs hf).imp fun D σ H h => own_core hk h
/-- several names -/
theorem ps_runp {is : List Nat} {ts : List Expr} {k : Nat} {tpos : Pos} (hg : PG X (.Tuple ts k tpos) (gT c.K (.tup is))) (he : PE X e (tG c Wx (rD c) f)) (hs : swapsWithSole [.Tuple ts k tpos] e pos.line X.env = pure false) (hw : swappedStores [.Tuple ts k tpos] e X.env = pure none) :
    PS X (.Assign [.Tuple ts k tpos] e pos) (tS c Wx fun ρ => bindE (f ρ) ρ fun d => liftS (setT (.tup is) d ρ) fun ρ' => retS (.nx ρ')) :=
  (ps_asg he hg hs hw).imp fun D σ H h => (tS.exp (R := rD c) h).monoQ fun v H1 ⟨W0, H0, W1, ρ, s1, d, r, _, _, hd, a⟩ => by
    obtain ⟨ρ', e, a⟩ := a.liftS
    exact gT_ok r hd e fun σ' r' _ _ => a.nx r'
theorem ps_rexp (he : PE X e (tG c Wx (rD c) f)) (hs : swapsWith e none pos.line X.env = pure false) : PS X (.Expr e pos) (tS c Wx fun ρ => bindE (f ρ) ρ fun _ => retS (.nx ρ)) :=
  (ps_expr he hs).imp fun D σ H h => (tS.exp (R := rD c) h).monoQ fun v H1 ⟨W0, H0, W1, ρ, s1, d, r, _, _, hd, a⟩ => a.nx r
theorem ps_rret (he : PE X e (tG c Wx (rD c) f)) : PS X (.Return (some e) pos) (tS c Wx fun ρ => bindE (f ρ) ρ fun d => retS (.rt d)) :=
  (ps_ret he).imp fun D σ H h => (tS.exp (R := rD c) h).monoQ fun v H1 ⟨W0, H0, W1, ρ, s1, d, r, _, _, hd, a⟩ => a v W1 H1 r.base r.wd r.ds hd
theorem ps_rretN : PS X (.Return none pos) (tS c Wx fun ρ => bindE (ret .non) ρ fun d => retS (.rt d)) :=
  ps_retN.imp fun D σ H ⟨W, ρ, s, r, a⟩ => a .non W H r.base r.wd r.ds Den.mkNon
theorem ps_rif {p q : List Stmt} {F G : Rho → MS} (hc : PT X e (tG c Wx rT (tst f))) (ha : PSs X p (tS c Wx F)) (hb : PSs X q (tS c Wx G)) :
    PS X (.If e p q pos) (tS c Wx fun ρ => bindE (bind (f ρ) toB) ρ fun k => if k = true then F ρ else G ρ) :=
  (ps_if hc ha hb).imp fun D σ H h => (tS.exp (R := rT) (m := tst f) h).monoQ fun v H1 ⟨W0, H0, W1, ρ, s1, d, r, _, _, hd, a⟩ => by
    cases hd
    cases v with
    | true => exact ⟨W1, ρ, s1, r, a⟩
    | false => exact ⟨W1, ρ, s1, r, a⟩

/-! ### name op= e -/
def rAugAll : R2 := fun x y H Q => (rI0 fun i j => .int (i + j)) x y H Q ∨ (∃ i j, x = .str i ∧ y = .str j ∧ i.length + j.length ≤ sizeLine ∧ Q (.str (i ++ j)) H)
theorem iop_addAll : OpR X (inplaceOp .Add) rAugAll := OpR.or iop_add iop_add_str
theorem iop_fdivA : OpR X (inplaceOp .FloorDiv) (rI CDivA fun i j => .int (i.fdiv j)) := opI fun _ _ _ _ _ _ _ hc q => ifloordiv_int hc.1 q (.inl (PyProof.noPylong_of_log2 hc.2))
theorem iop_mulA : OpR X (inplaceOp .Mult) (rI CMulW fun i j => .int (i * j)) := opI fun _ _ _ _ _ _ _ hc q => imul_int q hc.ok
theorem prim_augadd : Prim2 c (rD c) (augD .add) rAugAll := by
  intro W0 W H0 H s d1 d2 d v u Q e w ds h1 h2 k
  simp only [augD] at e
  split at e
  · cases e
    rw [den_int h1, den_int h2]
    exact .inl ⟨_, _, rfl, rfl, k.here w ds Den.mkInt⟩
  · split at e
    · cases e
      rw [den_str h1, den_str h2]
      exact .inr ⟨_, _, rfl, rfl, by assumption, k.here w ds Den.mkStr⟩
    · cases e
  · cases e
theorem prim_augmul : Prim2 c (rD c) (augD .mul) (rI CMulW fun i j => .int (i * j)) := by
  intro W0 W H0 H s d1 d2 d v u Q e w ds h1 h2 k
  simp only [augD] at e
  split at e
  · split at e
    · rename_i i j hm
      cases e
      rw [den_int h1, den_int h2]
      unfold mulOk at hm
      exact ⟨i, j, rfl, rfl, (show i.natAbs.log2 + j.natAbs.log2 < 1000000 from of_decide_eq_true hm), k.here w ds Den.mkInt⟩
    · cases e
  · cases e
theorem Prim2.ofB {F : D → D → Option D} {r : R2} (h : Prim2 c (rB c) F r) : Prim2 c (rD c) F r := fun W0 W H0 H s d1 d2 d v u Q e w ds h1 h2 k => h W0 W H0 H s d1 d2 d v u Q e w ds (.inl h1) h2 k
theorem ps_raug {i : Nat} {x : Str} {pos' : Pos} {op : Operator} {o : Bop} {r : R2} (ho : OpR X (inplaceOp op) r) (hp : Prim2 c (rD c) (augD o) r) (hN : X.N.Nodup) (hi : X.N[i]? = some x) (hx : Loc X.env.scope x) (hf : X.fn x = true ∨ X.env.scope.names.lookup x = some .local) (he : PE X e (tG c Wx (rD c) f)) :
    PS X (.AugAssign (.Name x pos') op e pos) (tS c Wx fun ρ => bindE (bind (lift (getV ρ i)) fun x => bind (f ρ) fun y => lift (augD o x y)) ρ fun d => retS (.nx (ρ.set i (.v d)))) :=
  (ps_aug (ti := r) hN hi hx he ho hf).imp fun D σ H h => by
    have h := tS.exp (R := rD c) h
    have h := tG.seq (c := c) (Wx := Wx) free_D h (rD c)
    obtain ⟨W, ρ, s, r0, a⟩ := h
    obtain ⟨d1, e1, a⟩ := a.lift_some
    unfold getV at e1
    split at e1
    · rename_i d' q1
      cases e1
      obtain ⟨v, e1, h1⟩ := r0.val i _ q1
      obtain ⟨W, H, W1, ρ, s, s1, d1', r, gr, r1, h1', k⟩ := a v W _ (Grow.refl _ _) r0.wd r0.ds h1
      exact ⟨v, e1, W1, ρ, s1, r1, (k.bind (rD c)).monoQ fun u H2 ⟨d2, s2, W2, _, g2, w2, ds2, h2, k2⟩ => by
        obtain ⟨d, e, k2⟩ := k2.lift_some
        refine hp W W2 H H2 s2 d1' d2 d v u _ e w2 ds2 (Den.mono g2 r1.wd _ _ h1') h2 fun v' W' H' g' w' ds' hv => ?_
        obtain ⟨W0, H0, W3, ρ3, s3, d3, r3, _, _, hd3, a3⟩ := k2 v' W' H' g' w' ds' ⟨g', hv⟩
        exact a3.nx (r3.set hd3)⟩
    · cases e1
end
end PV

set_option Elab.async false
set_option linter.all false
set_option maxRecDepth 100000
set_option maxHeartbeats 1000000
/-! PV9: loops, lists of one's own, exceptions. -/
namespace PV
open PySem PySem.Spec PyProof.Rows L2

/-! ### while -/
def whileN (c : Rho → M Bool) (b : Rho → MS) : Nat → Rho → MS
  | 0, _ => fun _ => none
  | n + 1, ρ => fun s => match c ρ s with
    | none => none
    | some (.ex e s1) => some (.er e ρ, s1)
    | some (.ok false s1) => some (.nx ρ, s1)
    | some (.ok true s1) => match b ρ s1 with
      | none => none
      | some (.nx ρ', s2) => whileN c b n ρ' s2
      | some (.ct ρ', s2) => whileN c b n ρ' s2
      | some (.bk ρ', s2) => some (.nx ρ', s2)
      | some (.rt d, s2) => some (.rt d, s2)
      | some (.er e ρ', s2) => some (.er e ρ', s2)
theorem whileM_N {c : Rho → M Bool} {b : Rho → MS} {ρ : Rho} {s : DS} {r : Fl × DS} (h : whileM c b ρ s = some r) : ∃ n, whileN c b n ρ s = some r := by
  refine whileM.partial_correctness c b (fun ρ s r => ∃ n, whileN c b n ρ s = some r) (fun w ih ρ s r h => ?_) ρ s r h
  split at h
  · cases h
  · rename_i e s1 q
    exact ⟨1, by unfold whileN; rw [q]; exact h⟩
  · rename_i s1 q
    exact ⟨1, by unfold whileN; rw [q]; exact h⟩
  · rename_i s1 q
    split at h
    · cases h
    · rename_i ρ' s2 q2
      obtain ⟨n, hn⟩ := ih _ _ _ h
      exact ⟨n + 1, by unfold whileN; rw [q]; dsimp only; rw [q2]; exact hn⟩
    · rename_i ρ' s2 q2
      obtain ⟨n, hn⟩ := ih _ _ _ h
      exact ⟨n + 1, by unfold whileN; rw [q]; dsimp only; rw [q2]; exact hn⟩
    · rename_i ρ' s2 q2
      exact ⟨1, by unfold whileN; rw [q]; dsimp only; rw [q2]; exact h⟩
    · rename_i d s2 q2
      exact ⟨1, by unfold whileN; rw [q]; dsimp only; rw [q2]; exact h⟩
    · rename_i e ρ' s2 q2
      exact ⟨1, by unfold whileN; rw [q]; dsimp only; rw [q2]; exact h⟩
section
variable {X : Cx} {c : Cc} {Wx : WX} {e : Expr} {f g : Rho → M D} {pos : Pos} {F : Rho → MS} {body : List Stmt}
theorem ps_rwhl (hp : PassesOwn (model X.prog X.w) X.A X.env X.xe) (hc : PT X e (tG c Wx rT (tst f))) (hb : PSs X body (tS c Wx F)) :
    PS X (.While e body [] pos) (tS c Wx fun ρ => whileM (fun ρ => bind (f ρ) toB) F ρ) :=
  (ps_while hp hc hb).imp fun En σ H ⟨W0, ρ0, s0, r0, a0⟩ => by
    dsimp only at a0
    obtain ⟨r, hr⟩ : ∃ r, whileM (fun ρ => bind (f ρ) toB) F ρ0 s0 = some r := by
      cases q : whileM (fun ρ => bind (f ρ) toB) F ρ0 s0 with
      | none => rw [q] at a0; exact a0.elim
      | some r => exact ⟨r, rfl⟩
    obtain ⟨n0, hn⟩ := whileM_N hr
    rw [hr, ← hn] at a0
    refine ⟨fun n σ H => ∃ W ρ s, Rep c W σ ρ H s ∧ SAt c Wx W H (whileN (fun ρ => bind (f ρ) toB) F n ρ s) En, ⟨n0, W0, ρ0, s0, r0, a0⟩, ?_⟩
    rintro n σ H ⟨W, ρ, s, r, a⟩
    refine ⟨W, ρ, s, r, ?_⟩
    cases n with
    | zero => exact a.elim
    | succ n =>
      unfold whileN at a
      unfold tst
      cases q : bind (f ρ) toB s with
      | none => rw [q] at a; exact a.elim
      | some z =>
        rw [q] at a
        cases z with
        | ex e s1 => exact fun cls dd W1 H1 g w ds hx => a cls dd σ W1 H1 (g.weak r.wd) (r.mono g w ds) hx
        | ok k s1 =>
          intro v W1 H1 g w ds hv
          cases hv
          have r1 := r.mono g w ds
          cases k with
          | false => exact a σ W1 H1 (g.weak r.wd) r1
          | true =>
            rw [if_pos rfl]
            dsimp only at a
            refine ⟨fun σ H => ∃ W ρ s, Rep c W σ ρ H s ∧ SAt c Wx W H (whileN (fun ρ => bind (f ρ) toB) F n ρ s) En, fun σ' H' h' => ⟨n, Nat.lt_succ_self n, h'⟩, W1, ρ, s1, r1, ?_⟩
            have a := SAt.later a (g.weak r.wd)
            cases q2 : F ρ s1 with
            | none => rw [q2] at a; exact a
            | some z2 =>
              rw [q2] at a
              obtain ⟨fl, s2⟩ := z2
              cases fl with
              | nx ρ' => exact fun σ' W' H' g' r' => ⟨W', ρ', s2, r', SAt.later a g'⟩
              | ct ρ' => exact fun σ' W' H' g' r' => ⟨W', ρ', s2, r', SAt.later a g'⟩
              | bk ρ' => exact a
              | rt d => exact a
              | er e ρ' => exact a

/-! ### for -/
theorem ps_rfor {tg iter : Expr} {t : T} {its : Rho → M (List D)} (hp : PassesOwn (model X.prog X.w) X.A X.env X.xe) (hcalm : X.calm = true) (hi : PI X tg iter (tG c Wx (rIt c) its)) (hg : PG X tg (gT c.K t)) (hb : PSs X body (tS c Wx F)) (hs : ∀ x, foldedSetIterable iter X.env x = pure x) :
    PS X (.For tg iter body [] pos) (tS c Wx fun ρ => bindE (its ρ) ρ fun xs => forM t F xs ρ) :=
  (ps_for hp hcalm hi hg hb hs).imp fun En σ H h => by
    refine (tS.exp (R := rIt c) h).monoQ fun J H1 ⟨W0, H0, W1, ρ1, s1, xs, r1, _, _, hJ, a1⟩ => ?_
    have hJ : Walks WGrow c W1 H1 xs J := hJ
    refine ⟨fun i m σ H => m = xs.length - i ∧ i ≤ xs.length ∧ ∃ W ρ s, WGrow W1 H1 W H ∧ Rep c W σ ρ H s ∧ SAt c Wx W H (forM t F (xs.drop i) ρ s) En, ⟨xs.length, by simp, Nat.zero_le _, W1, ρ1, s1, WGrow.refl, r1, by simpa using a1⟩, ?_⟩
    rintro i m σ H ⟨rfl, hi, W, ρ, s, g, r, a⟩
    by_cases hlt : i < xs.length
    · right
      have hx : xs[i]? = some xs[i] := by simp [hlt]
      obtain ⟨hgo, hy⟩ := (hJ i W H g).1 _ hx
      refine ⟨hgo, fun σ' H' => i + 1 ≤ xs.length ∧ ∃ W ρ s, WGrow W1 H1 W H' ∧ Rep c W σ' ρ H' s ∧ SAt c Wx W H' (forM t F (xs.drop (i + 1)) ρ s) En, fun σ' H' ⟨h1, h2⟩ => ⟨xs.length - (i + 1), by omega, rfl, h1, h2⟩, fun x H3 y3 => ?_⟩
      obtain ⟨fr, hdx⟩ := hy x H3 y3
      obtain ⟨g3, w3, ds3⟩ := fr.grow r.wd r.ds
      have r3 := r.mono g3 w3 ds3
      have a := SAt.later a (g3.weak r.wd)
      rw [show xs.drop i = xs[i] :: xs.drop (i + 1) from List.drop_eq_getElem_cons hlt] at a
      unfold forM at a
      obtain ⟨ρ2, e2, a⟩ := a.liftS
      refine gT_ok r3 hdx e2 fun σ2 r4 _ _ => ⟨W, ρ2, s, r4, ?_⟩
      have gg := g.trans (g3.weak r.wd)
      cases q2 : F ρ2 s with
      | none => rw [q2] at a; exact a
      | some z2 =>
        rw [q2] at a
        obtain ⟨fl, s2⟩ := z2
        cases fl with
        | nx ρ' => exact fun σ' W' H' g' r' => ⟨hlt, W', ρ', s2, gg.trans g', r', SAt.later a g'⟩
        | ct ρ' => exact fun σ' W' H' g' r' => ⟨hlt, W', ρ', s2, gg.trans g', r', SAt.later a g'⟩
        | bk ρ' => exact a
        | rt d => exact a
        | er e ρ' => exact a
    · left
      have e : i = xs.length := by omega
      subst e
      rw [List.drop_length] at a
      exact ⟨(hJ _ W H g).2 (Nat.le_refl _), a σ W H WGrow.refl r⟩

/-! ### lists of one's own -/
/-- what is written in a list of one's own -/
theorem Rep.writeOwn {i : Nat} {W : Wd} {H : Hp} {σ : L2.St} {ρ : Rho} {s : DS} {p : Addr} {xs ys : List D} {vs us : List V} (r : Rep c W σ ρ H s) (hi : ρ[i]? = some (.o xs)) (hσ : σ[i]? = some (some (.ref p))) (hp : H p = some (.lst vs)) (l : DenL c.K W H ys us) :
    Rep c W σ (ρ.set i (.o ys)) (L2.upd H p (.lst us)) s ∧ WGrow W H W (L2.upd H p (.lst us)) := by
  obtain ⟨a, vs', e1, e2, e3, nI, nA, h0⟩ := r.own i xs hi
  rw [hσ] at e1
  injection e1 with e1
  injection e1 with e1
  injection e1 with e1
  subst e1
  have g := WGrow.own (o := .lst us) hp nI
  have hil : i < ρ.length := (List.getElem?_eq_some_iff.mp hi).1
  refine ⟨⟨by simpa using r.len, fun j d e => ?_, fun j zs e => ?_, fun j k z1 z2 u q1 q2 q3 q4 => ?_, fun j x e => ?_, r.ds.own hp nI nA, r.wd.own hp, r.base.own h0 hp⟩, g⟩
  · have hj : i ≠ j := fun z => by subst z; rw [List.getElem?_set_self hil] at e; cases e
    rw [List.getElem?_set_ne hj] at e
    obtain ⟨v, q1, q2⟩ := r.val j d e
    exact ⟨v, q1, Den.monoW g _ _ q2⟩
  · by_cases hj : i = j
    · subst hj
      rw [List.getElem?_set_self hil] at e
      cases e
      exact ⟨_, us, hσ, upd_same, DenL.monoW g _ _ l, nI, nA, h0⟩
    · rw [List.getElem?_set_ne hj] at e
      obtain ⟨b, ws, q1, q2, q3, q4, q5, q6⟩ := r.own j zs e
      have nb : b ≠ p := fun z => by
        subst z
        exact hj (r.inj i j xs zs _ hi e hσ q1)
      exact ⟨b, ws, q1, by rw [upd_ne nb]; exact q2, DenL.monoW g _ _ q3, q4, q5, q6⟩
  · have own : ∀ (j : Nat) (z : List D), (ρ.set i (.o ys))[j]? = some (.o z) → ∃ z', ρ[j]? = some (.o z') := fun j z e => by
      by_cases hj : i = j
      · subst hj; exact ⟨xs, hi⟩
      · rw [List.getElem?_set_ne hj] at e; exact ⟨z, e⟩
    obtain ⟨w1, p1⟩ := own j z1 q1
    obtain ⟨w2, p2⟩ := own k z2 q2
    exact r.inj j k w1 w2 u p1 p2 q3 q4
  · have hj : i ≠ j := fun z => by subst z; rw [List.getElem?_set_self hil] at e; cases e
    rw [List.getElem?_set_ne hj] at e
    obtain ⟨b, cls, dd, q1, q2, q3⟩ := r.exc j x e
    refine ⟨b, cls, dd, q1, q2, ?_⟩
    obtain ⟨C, fs, z1, z2, z3⟩ := q3
    refine ⟨C, fs, z1, z2, ?_⟩
    cases fs with
    | nil => exact z3
    | cons f0 fr =>
      obtain ⟨d, ws, k1, k2, k3, k4⟩ := z3
      refine ⟨d, ws, k1, ?_, k3, DenL.monoW g _ _ k4⟩
      rw [upd_ne (fun z => by subst z; rw [hp] at k2; cases k2)]
      exact k2
theorem rep_own_at {i : Nat} {W : Wd} {H : Hp} {σ : L2.St} {ρ : Rho} {s : DS} {xs : List D} (r : Rep c W σ ρ H s) (hi : ρ[i]? = some (.o xs)) : ∃ p vs, σ[i]? = some (some (.ref p)) ∧ H p = some (.lst vs) ∧ DenL c.K W H xs vs := by
  obtain ⟨a, vs, e1, e2, e3, _⟩ := r.own i xs hi
  exact ⟨a, vs, e1, e2, e3⟩
def appM (i : Nat) (f : Rho → M D) (ρ : Rho) : MS := match ρ[i]? with
  | some (.o xs) => bindE (f ρ) ρ fun d => if xs.length < sizeLine then retS (.nx (ρ.set i (.o (xs ++ [d])))) else stuckS
  | _ => stuckS
/-- x.append(e) -/
theorem ps_rapp {i : Nat} {x : Str} {p0 apos cpos : Pos}
    (hN : X.N[i]? = some x) (hv : Vis X.env.scope x) (hd1 : (x == ("__debug__" : Str)) = false) (hd2 : (x == ("__classdict__" : Str)) = false) (hK : X.K = c.K) (he : PE X e (tG c Wx (rD c) f)) (hline : (apos.endLine == cpos.line) = true) (hs : starEach [e] X.env = (false, eval e X.env) :: starEach [] X.env) :
    PS X (.Expr (.Call (.Attribute (.Name x p0) "append" apos) [e] [] cpos) pos) (tS c Wx (appM i f)) := by
  have base := ps_expr (pos := pos) (pe_bm (apos := apos) (cpos := cpos) PySem.F.plainAttrs_list PySem.F.slot_list_append PySem.F.type_list_append mt_append (pe_var (pos := p0) hN hv hd1 hd2) (pa_cons he pa_nil hs) rfl (by
    rw [hs]; rfl) hline hs rfl) rfl
  refine base.imp fun En σ H h => ?_
  obtain ⟨W, ρ, s, r, a⟩ := h
  obtain ⟨xs, e1, a⟩ : ∃ xs, ρ[i]? = some (.o xs) ∧ SAt c Wx W H (bindE (f ρ) ρ (fun d => if xs.length < sizeLine then retS (.nx (ρ.set i (.o (xs ++ [d])))) else stuckS) s) En := by
    have a : SAt c Wx W H (appM i f ρ s) En := a
    unfold appM at a
    cases q : ρ[i]? with
    | none => rw [q] at a; exact a.elim
    | some z =>
      rw [q] at a
      cases z with
      | o xs => exact ⟨xs, rfl, a⟩
      | _ => exact a.elim
  obtain ⟨p, vs, q1, q2, q3⟩ := rep_own_at r e1
  refine ⟨.ref p, q1, .inl ⟨rfl, vs, SqL.of q2⟩, W, ρ, s, r, ?_⟩
  unfold bindE at a
  cases q : f ρ s with
  | none => rw [q] at a; exact a.elim
  | some z =>
    rw [q] at a
    cases z with
    | ex e s1 => exact fun cls dd W1 H1 g w ds hx => a cls dd σ W1 H1 (g.weak r.wd) (r.mono g w ds) hx
    | ok d s1 =>
      intro v W1 H1 g w ds hv
      dsimp only at a
      split at a
      case isFalse => exact a.elim
      rename_i hlen
      have r1 := r.mono g w ds
      obtain ⟨p', vs', z1, z2, z3⟩ := rep_own_at r1 e1
      rw [q1] at z1
      cases z1
      obtain ⟨rr, gg⟩ := r1.writeOwn (ys := xs ++ [d]) (us := vs' ++ [v]) e1 q1 z2 (z3.append (DenL.cons hv DenL.nil))
      exact ⟨p, vs', v, rfl, rfl, z2, by rw [z3.length]; exact hlen, a σ W1 _ ((g.weak r.wd).trans gg) rr⟩
end
end PV

set_option Elab.async false
set_option linter.all false
set_option maxRecDepth 100000
set_option maxHeartbeats 1000000
/-! PV10: stores, freezing, pairs, exceptions. -/
namespace PV
open PySem PySem.Spec PyProof.Rows L2
section
variable {X : Cx} {c : Cc} {Wx : WX} {e : Expr} {f g : Rho → M D} {pos : Pos} {F G : Rho → MS} {body : List Stmt} {W : Wd} {H : Hp} {σ : L2.St} {ρ : Rho} {s : DS}
/-! ### x[j] = e -/
def putM (i : Nat) (f g : Rho → M D) (ρ : Rho) : MS := match ρ[i]? with
  | some (.o xs) => bindE (f ρ) ρ fun d => bindE (g ρ) ρ fun y => match y with
    | .int n => (match L2.ixN xs.length n with
      | some k => retS (.nx (ρ.set i (.o (xs.set k d))))
      | none => stuckS)
    | _ => stuckS
  | _ => stuckS
theorem ps_rput {i : Nat} {x : Str} {p0 spos : Pos} {j : Expr}
    (hN : X.N[i]? = some x) (hv : Vis X.env.scope x) (hd1 : (x == ("__debug__" : Str)) = false) (hd2 : (x == ("__classdict__" : Str)) = false) (hK : X.K = c.K) (he : PE X e (tG c Wx (rD c) f)) (hj : PE X j (tG c Wx (rD c) g))
    (ha : ∀ v, assign (.Subscript (.Name x p0) j spos) X.env v = (do
      let ov ← holding [v] (eval (.Name x p0) X.env)
      let iv ← holding [v, ov] (eval j X.env)
      standAt spos
      holding [v, ov, iv] (setItem ov iv v)
      release [v, ov, iv] []))
    (hs : swapsWithSole [.Subscript (.Name x p0) j spos] e pos.line X.env = pure false) (hw : swappedStores [.Subscript (.Name x p0) j spos] e X.env = pure none) :
    PS X (.Assign [.Subscript (.Name x p0) j spos] e pos) (tS c Wx (putM i f g)) := by
  have base := ps_asg (pos := pos) he (pg_sub (pos := spos) (pe_var (pos := p0) hN hv hd1 hd2) hj set_list ha) hs hw
  refine base.imp fun En σ H h => ?_
  obtain ⟨W, ρ, s, r, a⟩ := h
  obtain ⟨xs, e1, a⟩ : ∃ xs, ρ[i]? = some (.o xs) ∧ SAt c Wx W H (bindE (f ρ) ρ (fun d => bindE (g ρ) ρ fun y => match y with
    | .int n => (match L2.ixN xs.length n with
      | some k => retS (.nx (ρ.set i (.o (xs.set k d))))
      | none => stuckS)
    | _ => stuckS) s) En := by
    have a : SAt c Wx W H (putM i f g ρ s) En := a
    unfold putM at a
    cases q : ρ[i]? with
    | none => rw [q] at a; exact a.elim
    | some z =>
      rw [q] at a
      cases z with
      | o xs => exact ⟨xs, rfl, a⟩
      | _ => exact a.elim
  obtain ⟨p, vs, q1, q2, q3⟩ := rep_own_at r e1
  refine ⟨W, ρ, s, r, ?_⟩
  unfold bindE at a
  cases q : f ρ s with
  | none => rw [q] at a; exact a.elim
  | some z =>
    rw [q] at a
    cases z with
    | ex e s1 => exact fun cls dd W1 H1 g w ds hx => a cls dd σ W1 H1 (g.weak r.wd) (r.mono g w ds) hx
    | ok d s1 =>
      intro v W1 H1 gr w ds hv
      dsimp only at a
      have r1 := r.mono gr w ds
      refine ⟨.ref p, q1, W1, ρ, s1, r1, ?_⟩
      have a := SAt.later a (gr.weak r.wd)
      unfold bindE at a
      cases q' : g ρ s1 with
      | none => rw [q'] at a; exact a.elim
      | some z' =>
        rw [q'] at a
        cases z' with
        | ex e s2 => exact fun cls dd W2 H2 g2 w2 ds2 hx => a cls dd σ W2 H2 (g2.weak r1.wd) (r1.mono g2 w2 ds2) hx
        | ok y s2 =>
          intro u W2 H2 g2 w2 ds2 hu
          obtain ⟨n, k, rfl, hk, a⟩ : ∃ n k, y = .int n ∧ L2.ixN xs.length n = some k ∧ SAt c Wx W1 H1 (retS (.nx (ρ.set i (.o (xs.set k d)))) s2) En := by
            dsimp only at a
            cases y with
            | int n =>
              dsimp only at a
              cases qk : L2.ixN xs.length n with
              | none => rw [qk] at a; exact a.elim
              | some k => rw [qk] at a; exact ⟨n, k, rfl, qk, a⟩
            | _ => exact a.elim
          rw [den_int hu]
          have r2 := r1.mono g2 w2 ds2
          obtain ⟨p', vs', z1, z2, z3⟩ := rep_own_at r2 e1
          rw [q1] at z1
          cases z1
          obtain ⟨rr, gg⟩ := r2.writeOwn (ys := xs.set k d) (us := vs'.set k v) e1 q1 z2 (DenL.set k z3 (Den.mono g2 r1.wd _ _ hv))
          exact ⟨p, vs', n, k, rfl, rfl, z2, by rw [z3.length]; exact hk, a σ W2 _ ((g2.weak r1.wd).trans gg) rr⟩

/-! ### freezing -/
theorem Rep.freeze1 {i : Nat} {xs : List D} (r : Rep c W σ ρ H s) (hi : ρ[i]? = some (.o xs)) : ∃ W', Rep c W' σ (ρ.set i (.v (.lst xs))) H s ∧ WGrow W H W' H := by
  obtain ⟨a, vs, e1, e2, e3, nI, nA, h0⟩ := r.own i xs hi
  have hil : i < ρ.length := (List.getElem?_eq_some_iff.mp hi).1
  have hI : ∀ b, W.I b → (W.add a).I b := fun b h => .inl h
  have hA : (W.add a).A = W.A := rfl
  have g : WGrow W H (W.add a) H := ⟨hI, fun _ h => h, fun _ _ h _ => h⟩
  refine ⟨W.add a, ⟨by simpa using r.len, fun j d e => ?_, fun j zs e => ?_, fun j k z1 z2 u q1 q2 q3 q4 => ?_, fun j x e => ?_, r.ds.wmono hI hA, ?_, ?_⟩, g⟩
  · by_cases hj : i = j
    · subst hj
      rw [List.getElem?_set_self hil] at e
      cases e
      exact ⟨_, e1, a, vs, rfl, ⟨.inr rfl, e2⟩, DenL.wmono hI hA _ _ e3⟩
    · rw [List.getElem?_set_ne hj] at e
      obtain ⟨v, q1, q2⟩ := r.val j d e
      exact ⟨v, q1, Den.wmono hI hA _ _ q2⟩
  · have hj : i ≠ j := fun z => by subst z; rw [List.getElem?_set_self hil] at e; cases e
    rw [List.getElem?_set_ne hj] at e
    obtain ⟨b, ws, q1, q2, q3, q4, q5, q6⟩ := r.own j zs e
    have nb : b ≠ a := fun z => by
      subst z
      exact hj (r.inj i j xs zs _ hi e e1 q1)
    exact ⟨b, ws, q1, q2, DenL.wmono hI hA _ _ q3, fun z => z.elim q4 nb, q5, q6⟩
  · have own : ∀ (j : Nat) (z : List D), (ρ.set i (.v (.lst xs)))[j]? = some (.o z) → ρ[j]? = some (.o z) := fun j z e => by
      by_cases hj : i = j
      · subst hj
        rw [List.getElem?_set_self hil] at e; cases e
      · rw [List.getElem?_set_ne hj] at e; exact e
    exact r.inj j k z1 z2 u (own j z1 q1) (own k z2 q2) q3 q4
  · have hj : i ≠ j := fun z => by subst z; rw [List.getElem?_set_self hil] at e; cases e
    rw [List.getElem?_set_ne hj] at e
    obtain ⟨b, cls, dd, q1, q2, q3⟩ := r.exc j x e
    refine ⟨b, cls, dd, q1, q2, ?_⟩
    obtain ⟨C, fs, z1, z2, z3⟩ := q3
    refine ⟨C, fs, z1, z2, ?_⟩
    cases fs with
    | nil => exact z3
    | cons f0 fr =>
      obtain ⟨d, ws, k1, k2, k3, k4⟩ := z3
      exact ⟨d, ws, k1, k2, k3, DenL.wmono hI hA _ _ k4⟩
  · refine ⟨fun b h => ?_, fun b h => ?_⟩
    · rcases h with h | h
      · exact r.wd.iS b h
      · subst h; exact ⟨_, e2⟩
    · obtain ⟨q, n⟩ := r.wd.aL b h
      exact ⟨q, fun z => z.elim n fun z => by subst z; exact nA h⟩
  · have B := r.base
    refine ⟨fun b h => .inl (B.iG b h), fun b h => ?_, B.aG, B.aN, B.keep, B.there⟩
    rcases h with h | h
    · exact B.iN b h
    · subst h; exact .inr h0
theorem Rep.freeze (is : List Nat) : ∀ {W : Wd} {ρ : Rho}, Rep c W σ ρ H s → ∃ W', Rep c W' σ (PV.freeze ρ is) H s ∧ WGrow W H W' H := by
  induction is with
  | nil => exact fun r => ⟨_, r, WGrow.refl⟩
  | cons i is ih =>
    intro W ρ r
    unfold PV.freeze
    split
    · rename_i xs hi
      obtain ⟨W1, r1, g1⟩ := r.freeze1 hi
      obtain ⟨W2, r2, g2⟩ := ih r1
      exact ⟨W2, r2, g1.trans g2⟩
    · exact ih r
theorem tS.frz {En : Ends} (is : List Nat) (h : tS c Wx (fun ρ => F (PV.freeze ρ is)) En σ H) : tS c Wx F En σ H := by
  obtain ⟨W, ρ, s, r, a⟩ := h
  obtain ⟨W', r', g⟩ := r.freeze is
  exact ⟨W', _, s, r', SAt.later a g⟩

/-! ### a, b = x, y with plain names -/
theorem bindE_bind {α β : Type} (m : M α) (k : α → M β) (ρ : Rho) (h : β → MS) : bindE (bind m k) ρ h = bindE m ρ fun a => bindE (k a) ρ h := by
  funext s
  unfold bindE PV.bind
  cases m s with
  | none => rfl
  | some z => cases z <;> rfl
/-- the tuple that is at once taken apart -/
theorem par_core {is : List Nat} {h : Rho → M (List D)} {En : Ends} (q : tS c Wx (fun ρ => bindE (bind (h ρ) fun xs => if xs.length ≤ sizeLine then ret (.tup xs) else stuck) ρ fun d => liftS (setT (.tup is) d ρ) fun ρ' => retS (.nx ρ')) En σ H) :
    tG c Wx (rL c) h σ H (fun vs H1 => ∃ W1 ρ s1 ds ρ', Rep c W1 σ ρ H1 s1 ∧ DenL c.K W1 H1 ds vs ∧ setAll is ds ρ = some ρ' ∧ SAt c Wx W1 H1 (retS (.nx ρ') s1) En) := by
  have q : tS c Wx (fun ρ => bindE (h ρ) ρ fun xs => bindE (if xs.length ≤ sizeLine then ret (.tup xs) else stuck) ρ fun d => liftS (setT (.tup is) d ρ) fun ρ' => retS (.nx ρ')) En σ H := by
    simpa only [bindE_bind] using q
  refine (tS.exp (R := rL c) q).monoQ fun vs H1 ⟨W0, H0, W1, ρ, s1, d, r, _, _, hd, a⟩ => ?_
  by_cases hl : d.length ≤ sizeLine
  · rw [if_pos hl] at a
    have a : SAt c Wx W1 H1 (liftS (setT (.tup is) (.tup d) ρ) (fun ρ' => retS (.nx ρ')) s1) En := a
    obtain ⟨ρ', e, a⟩ := a.liftS
    exact ⟨W1, ρ, s1, d, ρ', r, hd, e, a⟩
  · rw [if_neg hl] at a
    exact a.elim
theorem ps_rpar {i j : Nat} {x y : Str} {a b : Expr} {h : Rho → M (List D)} {px py pt : Pos} {kt k2 pt2} (hc : X.calm = true) (hN : X.N.Nodup) (hi : X.N[i]? = some x) (hj : X.N[j]? = some y) (hij : i ≠ j)
    (hx : X.env.scope.names.lookup x = some .local) (hy : X.env.scope.names.lookup y = some .local) (ha : PA X [a, b] (tG c Wx (rL c) h))
    (hw : swappedStores [.Tuple [.Name x px, .Name y py] kt pt] (.Tuple [a, b] k2 pt2) X.env = pure (some [x, y]))
    (hs : swapsWithSole [.Tuple [.Name x px, .Name y py] kt pt] (.Tuple [a, b] k2 pt2) pos.line X.env = pure false) :
    PS X (.Assign [.Tuple [.Name x px, .Name y py] kt pt] (.Tuple [a, b] k2 pt2) pos) (tS c Wx fun ρ => bindE (bind (h ρ) fun xs => if xs.length ≤ sizeLine then ret (.tup xs) else stuck) ρ fun d => liftS (setT (.tup [i, j]) d ρ) fun ρ' => retS (.nx ρ')) :=
  (ps_par hc hN hi hj hij hx hy ha hw hs).imp fun D σ H q => (par_core q).monoQ fun vs H1 ⟨W1, ρ, s1, ds, ρ', r, l, e, a⟩ => by
    match ds, l, e with
    | [d1, d2], l, e =>
      obtain ⟨v1, r1, rfl, h1, v2, r2, rfl, h2, l⟩ := l
      cases l
      cases e
      exact ⟨v1, v2, rfl, a.nx ((r.set h1).set h2)⟩
    | [], l, e => cases e
    | [_], l, e => cases e
    | _ :: _ :: _ :: _, l, e => cases e
theorem ps_rpar3 {i j l : Nat} {x y z : Str} {a b d : Expr} {h : Rho → M (List D)} {px py pz pt : Pos} {kt k2 pt2} (hc : X.calm = true) (hN : X.N.Nodup) (hi : X.N[i]? = some x) (hj : X.N[j]? = some y) (hl : X.N[l]? = some z) (hij : i ≠ j) (hil : i ≠ l) (hjl : j ≠ l)
    (hx : X.env.scope.names.lookup x = some .local) (hy : X.env.scope.names.lookup y = some .local) (hz : X.env.scope.names.lookup z = some .local) (ha : PA X [a, b, d] (tG c Wx (rL c) h))
    (hw : swappedStores [.Tuple [.Name x px, .Name y py, .Name z pz] kt pt] (.Tuple [a, b, d] k2 pt2) X.env = pure (some [x, y, z]))
    (hs : swapsWithSole [.Tuple [.Name x px, .Name y py, .Name z pz] kt pt] (.Tuple [a, b, d] k2 pt2) pos.line X.env = pure false) :
    PS X (.Assign [.Tuple [.Name x px, .Name y py, .Name z pz] kt pt] (.Tuple [a, b, d] k2 pt2) pos) (tS c Wx fun ρ => bindE (bind (h ρ) fun xs => if xs.length ≤ sizeLine then ret (.tup xs) else stuck) ρ fun d => liftS (setT (.tup [i, j, l]) d ρ) fun ρ' => retS (.nx ρ')) :=
  (ps_par3 hc hN hi hj hl hij hil hjl hx hy hz ha hw hs).imp fun D σ H q => (par_core q).monoQ fun vs H1 ⟨W1, ρ, s1, ds, ρ', r, l, e, a⟩ => by
    match ds, l, e with
    | [d1, d2, d3], l, e =>
      obtain ⟨v1, r1, rfl, h1, v2, r2, rfl, h2, v3, r3, rfl, h3, l⟩ := l
      cases l
      cases e
      exact ⟨v1, v2, v3, rfl, a.nx (((r.set h1).set h2).set h3)⟩
    | [], l, e => cases e
    | [_], l, e => cases e
    | [_, _], l, e => cases e
    | _ :: _ :: _ :: _ :: _, l, e => cases e

/-! ### exceptions raised -/
/-- raise C(e, ..) -/
theorem ps_rraise {x : Expr} {n m : Nat} {C : Addr} {fs : List Str} {h : Rho → M (List D)} (hc : X.calm = true) (tk : Takes X Wx) (T : c.XT n = some (C, fs)) (hm : fs.length = m)
    (hp : PMk X x (fun σ H Q => tG c Wx (rL c) h σ H fun vs H1 => vs.length = m ∧ ((fs = [] ∧ Q (.ref C) none H1) ∨ (fs ≠ [] ∧ ∀ d, H1 d = none → Q (.ref C) (some d) (L2.upd H1 d (.xd (fs.zip vs))))))) :
    PS X (.Raise (some x) none pos) (tS c Wx fun ρ => bindE (h ρ) ρ fun xs => if xs.length = m then retS (.er ⟨n, xs⟩ ρ) else stuckS) :=
  (ps_raise hc tk hp).imp fun D σ H q => (tS.exp (R := rL c) q).monoQ fun vs H1 ⟨W0, H0, W1, ρ, s1, d, r, _, _, hd, a⟩ => by
    have hd : DenL c.K W1 H1 d vs := hd
    by_cases hl : d.length = m
    · rw [if_pos hl] at a
      refine ⟨hd.length.trans hl, ?_⟩
      cases fs with
      | nil =>
        left
        have e : d = [] := List.length_eq_zero_iff.mp (hl.trans hm.symm)
        exact ⟨rfl, a (.ref C) none σ W1 H1 WGrow.refl r ⟨C, [], T, rfl, rfl, e⟩⟩
      | cons f fr =>
        right
        refine ⟨by simp, fun p hp => ?_⟩
        have g : Grow W1 H1 W1 (L2.upd H1 p (.xd ((f :: fr).zip vs))) := Grow.upd hp
        have w := r.wd.upd (o := .xd ((f :: fr).zip vs)) hp
        exact a (.ref C) (some p) σ W1 _ (g.weak r.wd) (r.mono g w (r.ds.upd r.wd hp)) ⟨C, f :: fr, T, rfl, p, vs, rfl, upd_same, by rw [hd.length, hl, hm], DenL.mono g r.wd _ _ hd⟩
    · rw [if_neg hl] at a
      exact a.elim
end

/-! ### try -/
section
variable {X : Cx} {c : Cc} {Wx : WX} {F G : Rho → MS}
def tryM (sub : Sub) (cs : List Nat) (slot : Option Nat) (F G : Rho → MS) (ρ : Rho) : MS := fun s => match F ρ s with
    | none => none
    | some (.er e ρ1, s1) => if cs.any (fun c => sub e.cls c) then offF slot (G (onS slot e ρ1) s1)
      else some (.er e ρ1, s1)
    | some (f, s1) => some (f, s1)
abbrev wF : WX := fun _ _ _ _ => False
theorem ps_rtry {sub : Sub} {x : Str} {k : Nat} {cv : Value} {body suite : List Stmt} {b₀ : Stmt} {np pos pos' : Pos} (hs : X.stack = X.env :: X.outer) (hf : X.env.frame = some X.env.locals) (hc : Names X x cv) (tk : Takes X Wx)
    (hcls : ∀ n C fs, c.XT n = some (C, fs) → PySem.W.exmOne X.K (.ref C) cv = some (sub n k))
    (hb : ∀ (W : WX) (pn : List (Addr × Obj)) (xe : Value → Shared → Prop), Takes (X.tr pn xe) W → PassesOwn (model X.prog X.w) X.A X.env xe → PSs (X.tr pn xe) body (tS c W F))
    (hsu : ∀ (a : Addr) (oe : Obj) (cls : Value) (d : Option Addr) (pn : List (Addr × Obj)), Zc cls d oe → (∃ vs, oe.data = .fields vs) → PSs (X.suite a ((a, oe) :: pn)) (b₀ :: suite) (tS c wF G)) :
    PS X (.Try body [.ExceptHandler (some (.Name x np)) none (b₀ :: suite) pos'] [] [] pos) (tS c Wx (tryM sub [k] none F G)) :=
  (ps_try_only (ts := fun _ _ _ => tS c wF G) hs hf hc tk hb hsu).imp fun En σ H ⟨W, ρ, s, r, a⟩ => by
    refine ⟨W, ρ, s, r, ?_⟩
    unfold tryM at a
    cases q : F ρ s with
    | none => rw [q] at a; exact a
    | some z =>
      rw [q] at a
      obtain ⟨fl, s1⟩ := z
      cases fl with
      | er e ρ1 =>
        intro cls dd σ' W' H' g r' hx
        obtain ⟨C, fs, h1, h2, h3⟩ := id hx
        subst h2
        refine ⟨sub e.cls k, hcls _ _ _ h1, fun hb p hp => ?_, fun hb => ?_⟩
        · dsimp only at a
          rw [List.any_cons, hb, Bool.true_or, if_pos rfl] at a
          refine ⟨W', ρ1, s1, r', ?_⟩
          have a := SAt.later a g
          unfold onS at a
          dsimp only at a
          cases q2 : G ρ1 s1 with
          | none => rw [q2] at a; exact a
          | some z2 =>
            rw [q2] at a
            obtain ⟨f2, s2⟩ := z2
            cases f2 <;> first | exact a | exact a.elim
        · dsimp only at a
          rw [List.any_cons, hb, Bool.false_or, List.any_nil, if_neg Bool.false_ne_true] at a
          exact a _ dd σ' W' H' g r' hx
      | _ => exact a
/-- a slot of a held exception -/
theorem Rep.hold {c c' : Cc} {W : Wd} {H : Hp} {σ : L2.St} {ρ : Rho} {s : DS} {i : Nat} {e : Exc} {a : Addr} {cls : Value} {dd : Option Addr} (h : c'.K = c.K ∧ c'.XT = c.XT ∧ c'.W0 = c.W0 ∧ c'.H0 = c.H0) (hxc : ∀ a cls d, ¬ c.xc a cls d) (hx : DenX c.K c.XT W H e cls dd) (h' : c'.xc a cls dd) (r : Rep c W σ ρ H s) :
    Rep c' W (σ.set i (some (.ref a))) (ρ.set i (.x e)) H s := by
  obtain ⟨K, XT, W0, H0, xc⟩ := c
  obtain ⟨K', XT', W0', H0', xc'⟩ := c'
  obtain ⟨e1, e2, e3, e4⟩ := h
  dsimp only at e1 e2 e3 e4 hxc hx h'
  subst e1 e2 e3 e4
  refine ⟨by simpa using r.len, fun j d q => ?_, fun j xs q => ?_, fun j k z1 z2 u q1 q2 q3 q4 => ?_, fun j y q => ?_, r.ds, r.wd, r.base⟩
  · by_cases hj : i = j
    · subst hj
      by_cases hi : i < ρ.length
      · rw [List.getElem?_set_self hi] at q; cases q
      · rw [List.getElem?_eq_none (by simpa using hi)] at q; cases q
    · rw [List.getElem?_set_ne hj] at q ⊢
      exact r.val j d q
  · by_cases hj : i = j
    · subst hj
      by_cases hi : i < ρ.length
      · rw [List.getElem?_set_self hi] at q; cases q
      · rw [List.getElem?_eq_none (by simpa using hi)] at q; cases q
    · rw [List.getElem?_set_ne hj] at q ⊢
      exact r.own j xs q
  · have key : ∀ (j : Nat) (z : List D), (ρ.set i (.x e))[j]? = some (.o z) → i ≠ j ∧ ρ[j]? = some (.o z) := fun j z q => by
      by_cases hj : i = j
      · subst hj
        by_cases hi : i < ρ.length
        · rw [List.getElem?_set_self hi] at q; cases q
        · rw [List.getElem?_eq_none (by simpa using hi)] at q; cases q
      · rw [List.getElem?_set_ne hj] at q
        exact ⟨hj, q⟩
    obtain ⟨n1, p1⟩ := key j z1 q1
    obtain ⟨n2, p2⟩ := key k z2 q2
    rw [List.getElem?_set_ne n1] at q3
    rw [List.getElem?_set_ne n2] at q4
    exact r.inj j k z1 z2 u p1 p2 q3 q4
  · by_cases hj : i = j
    · subst hj
      by_cases hi : i < ρ.length
      · rw [List.getElem?_set_self hi] at q
        cases q
        exact ⟨a, cls, dd, by rw [List.getElem?_set_self (by rw [← r.len]; exact hi)], h', hx⟩
      · rw [List.getElem?_eq_none (by simpa using hi)] at q; cases q
    · rw [List.getElem?_set_ne hj] at q
      obtain ⟨_, _, _, _, z, _⟩ := r.exc j y q
      exact (hxc _ _ _ z).elim
theorem Rep.unhold {c c' : Cc} {W : Wd} {H : Hp} {σ : L2.St} {ρ : Rho} {s : DS} {i : Nat} (h : c'.K = c.K ∧ c'.XT = c.XT ∧ c'.W0 = c.W0 ∧ c'.H0 = c.H0) (r : Rep c' W σ ρ H s) :
    Rep c W (σ.set i none) (offS (some i) ρ) H s := by
  obtain ⟨K, XT, W0, H0, xc⟩ := c
  obtain ⟨K', XT', W0', H0', xc'⟩ := c'
  obtain ⟨e1, e2, e3, e4⟩ := h
  dsimp only at e1 e2 e3 e4
  subst e1 e2 e3 e4
  have r := r.forget (i := i) (o := none)
  have key : ∀ (j : Nat) (z : Slot), (offS (some i) ρ)[j]? = some z → z = .u ∨ ((ρ.set i .u)[j]? = some z ∧ ∀ e, z ≠ .x e) := fun j z q => by
    unfold offS at q
    dsimp only at q
    rw [List.getElem?_map] at q
    cases q2 : (ρ.set i .u)[j]? with
    | none => rw [q2] at q; cases q
    | some y =>
      rw [q2] at q
      cases y <;> (injection q with q; subst q; first | exact .inl rfl | exact .inr ⟨rfl, fun e z => by cases z⟩)
  refine ⟨by unfold offS; simpa using r.len, fun j d q => ?_, fun j xs q => ?_, fun j k z1 z2 u q1 q2 q3 q4 => ?_, fun j y q => ?_, r.ds, r.wd, r.base⟩
  · rcases key j _ q with z | ⟨z, _⟩
    · cases z
    · exact r.val j d z
  · rcases key j _ q with z | ⟨z, _⟩
    · cases z
    · exact r.own j xs z
  · rcases key j _ q1 with z | ⟨z, _⟩
    · cases z
    · rcases key k _ q2 with z' | ⟨z', _⟩
      · cases z'
      · exact r.inj j k z1 z2 u z z' q3 q4
  · rcases key j _ q with z | ⟨z, n⟩
    · cases z
    · exact (n y rfl).elim
/-- the context of a suite with a name -/
abbrev Cc.inX (c : Cc) (a : Addr) (cls : Value) (d : Option Addr) : Cc := { c with xc := fun a' cls' d' => a' = a ∧ cls' = cls ∧ d' = d }
theorem ps_rtryas {sub : Sub} {x n : Str} {i k : Nat} {cv : Value} {body suite : List Stmt} {b₀ : Stmt} {np pos pos' : Pos} (hs : X.stack = X.env :: X.outer) (hf : X.env.frame = some X.env.locals) (hN : X.N.Nodup) (hi : X.N[i]? = some n) (hln : X.env.kindOf n = some .local) (hc : Names X x cv) (tk : Takes X Wx)
    (hxc : ∀ a cls d, ¬ c.xc a cls d)
    (hcls : ∀ n C fs, c.XT n = some (C, fs) → PySem.W.exmOne X.K (.ref C) cv = some (sub n k))
    (hb : ∀ (W : WX) (pn : List (Addr × Obj)) (xe : Value → Shared → Prop), Takes (X.tr pn xe) W → PassesOwn (model X.prog X.w) X.A X.env xe → PSs (X.tr pn xe) body (tS c W F))
    (hsu : ∀ (a : Addr) (oe : Obj) (cls : Value) (d : Option Addr) (pn : List (Addr × Obj)), Zc cls d oe → (∃ vs, oe.data = .fields vs) → PSs (X.suite a ((a, oe) :: pn)) (b₀ :: suite) (tS (c.inX a cls d) wF G)) :
    PS X (.Try body [.ExceptHandler (some (.Name x np)) (some n) (b₀ :: suite) pos'] [] [] pos) (tS c Wx (tryM sub [k] (some i) F G)) :=
  (ps_try_as (ts := fun a cls d => tS (c.inX a cls d) wF G) hs hf hN hi hln hc tk hb hsu).imp fun En σ H ⟨W, ρ, s, r, a⟩ => by
    refine ⟨W, ρ, s, r, ?_⟩
    unfold tryM at a
    cases q : F ρ s with
    | none => rw [q] at a; exact a
    | some z =>
      rw [q] at a
      obtain ⟨fl, s1⟩ := z
      cases fl with
      | er e ρ1 =>
        intro cls dd σ' W' H' g r' hx
        obtain ⟨C, fs, h1, h2, h3⟩ := id hx
        subst h2
        refine ⟨sub e.cls k, hcls _ _ _ h1, fun hb p hp => ?_, fun hb => ?_⟩
        · dsimp only at a
          rw [List.any_cons, hb, Bool.true_or, if_pos rfl] at a
          refine ⟨W', _, s1, Rep.hold (c := c) (c' := c.inX p (.ref C) dd) ⟨rfl, rfl, rfl, rfl⟩ hxc hx ⟨rfl, rfl, rfl⟩ r', ?_⟩
          have a := SAt.later a g
          unfold onS at a
          dsimp only at a
          cases q2 : G (ρ1.set i (.x e)) s1 with
          | none => rw [q2] at a; exact a
          | some z2 =>
            rw [q2] at a
            obtain ⟨f2, s2⟩ := z2
            cases f2 with
            | nx ρ2 => exact fun σ2 W2 H2 g2 r2 => a _ W2 H2 g2 (Rep.unhold (c := c) (c' := c.inX p (.ref C) dd) ⟨rfl, rfl, rfl, rfl⟩ r2)
            | bk ρ2 => exact fun σ2 W2 H2 g2 r2 => a _ W2 H2 g2 (Rep.unhold (c := c) (c' := c.inX p (.ref C) dd) ⟨rfl, rfl, rfl, rfl⟩ r2)
            | ct ρ2 => exact fun σ2 W2 H2 g2 r2 => a _ W2 H2 g2 (Rep.unhold (c := c) (c' := c.inX p (.ref C) dd) ⟨rfl, rfl, rfl, rfl⟩ r2)
            | rt d => exact a
            | er e ρ2 => exact a.elim
        · dsimp only at a
          rw [List.any_cons, hb, Bool.false_or, List.any_nil, if_neg Bool.false_ne_true] at a
          exact a _ dd σ' W' H' g r' hx
      | _ => exact a
end
end PV

set_option Elab.async false
set_option linter.all false
set_option maxRecDepth 100000
set_option maxHeartbeats 1000000
/-! PV11: from the program's expressions to E. -/
namespace PV
open PySem PySem.Spec PyProof.Rows L2

/-! ### methods -/
section
variable {X : Cx} {c : Cc} {Wx : WX} {o e : Expr} {f g : Rho → M D} {pos apos : Pos}
theorem den_strs {K : PySem.W.Frag} {W : Wd} {H : Hp} : ∀ ys : List Str, DenL K W H (ys.map D.str) (ys.map V.str)
  | [] => DenL.nil
  | _ :: ys => DenL.cons Den.mkStr (den_strs ys)
theorem mthOk_split {d : D} (h : mthOk .split d = true) : ∃ a, d = .str a := by
  cases d <;> first | exact ⟨_, rfl⟩ | cases h
theorem mthOk_bits {d : D} (h : mthOk .bitlen d = true) : ∃ i, d = .int i := by
  cases d <;> first | exact ⟨_, rfl⟩ | cases h
theorem r_split (ho : PE X o (tG c Wx (rD c) f)) (he : PE X e (tG c Wx (rD c) g)) (hs : starEach [e] X.env = [(false, eval e X.env)]) (hb : attributeBase o "split" X.env (eval o X.env) = eval o X.env) (hline : (apos.endLine == pos.line) = true) :
    PE X (.Call (.Attribute o "split" apos) [e] [] pos) (tG c Wx (rD c) fun ρ => bind (f ρ) fun x => if mthOk .split x = true then bind (bind (g ρ) fun x => bind (ret []) fun xs => ret (x :: xs)) fun xs => lift (mthD .split x xs) else stuck) :=
  (pe_split ho he hs hb hline).imp fun σ H Q q => (tG.seq free_D q (rD c)).monoQ fun v H1 ⟨W, H, W1, ρ, s, s1, d1, r, gr, r1, h1, k⟩ => by
    split at k
    case isFalse => exact False.elim k
    rename_i hm
    obtain ⟨a, rfl⟩ := mthOk_split hm
    rw [den_str h1]
    refine ⟨⟨a, rfl⟩, W1, ρ, s1, r1, ?_⟩
    rw [bind_assoc] at k
    refine (At.bind k (rD c)).monoQ fun u H2 ⟨d2, s2, W2, _, g2, w2, ds2, h2, k2⟩ => ?_
    have k2 : At c Wx _ σ W2 H2 (lift (mthD .split (.str a) [d2]) s2) Q := k2
    obtain ⟨d, e, k2⟩ := k2.lift_some
    cases d2 with
    | str b =>
      simp only [mthD] at e
      split at e
      · rename_i hz
        cases e
        rw [den_str h2]
        exact ⟨a, b, rfl, rfl, hz.1, hz.2, fun p hp => Kont.newL (c := c) (fun v' W' H' g' w' ds' hv => k2 v' W' H' g' w' ds' ⟨g', hv⟩) w2 ds2 (den_strs _) hp⟩
      · cases e
    | _ => simp [mthD] at e
theorem r_bits (ho : PE X o (tG c Wx (rD c) f)) (hb : attributeBase o "bit_length" X.env (eval o X.env) = eval o X.env) (hline : (apos.endLine == pos.line) = true) :
    PE X (.Call (.Attribute o "bit_length" apos) [] [] pos) (tG c Wx (rD c) fun ρ => bind (f ρ) fun x => if mthOk .bitlen x = true then bind (ret []) fun xs => lift (mthD .bitlen x xs) else stuck) :=
  (pe_bits ho hb hline).imp fun σ H Q q => (tG.seq free_D q (rD c)).monoQ fun v H1 ⟨W, H, W1, ρ, s, s1, d1, r, gr, r1, h1, k⟩ => by
    split at k
    case isFalse => exact False.elim k
    rename_i hm
    obtain ⟨i, rfl⟩ := mthOk_bits hm
    exact ⟨i, den_int h1, k _ W1 H1 (Grow.refl _ _) r1.wd r1.ds Den.mkInt⟩
/-- a test by a choice -/
theorem rt_if {a b : Expr} {h : Rho → M D} (hc : PT X e (tG c Wx rT (tst f))) (ha : PT X a (tG c Wx rT (tst g))) (hb : PT X b (tG c Wx rT (tst h))) :
    PT X (.IfExp e a b pos) (tG c Wx rT (tst fun ρ => bind (f ρ) fun x => bind (toB x) fun k => if k = true then g ρ else h ρ)) := by
  have base : PT X (.IfExp e a b pos) (fun σ H Q => tG c Wx rT (tst f) σ H fun k H1 => if k = true then tG c Wx rT (tst g) σ H1 Q else tG c Wx rT (tst h) σ H1 Q) := by
    refine ⟨fun pins s σ H Q I q => isTrue_IfExp (thn (hc.run pins s σ H _ I q) fun k s1 ⟨H1, I1, q1⟩ => ?_)⟩
    cases k with
    | true => exact ha.run pins s1 σ H1 Q I1 q1
    | false => exact hb.run pins s1 σ H1 Q I1 q1
  refine base.imp fun σ H Q q => ?_
  have e : (tst fun ρ => bind (f ρ) fun x => bind (toB x) fun k => if k = true then g ρ else h ρ) = fun ρ => bind (f ρ) fun x => bind (toB x) fun k => if k = true then tst g ρ else tst h ρ := by
    funext ρ
    unfold tst
    rw [bind_assoc]
    congr 1
    funext x
    rw [bind_assoc]
    congr 1
    funext k
    cases k <;> rfl
  rw [e] at q
  refine (tst_seq free_T q).monoQ fun bb H1 z => ?_
  cases bb with
  | true => exact z
  | false => exact z
end

/-! ### three comparisons -/
section
variable {X : Cx} {c : Cc} {Wx : WX} {a b e d : Expr} {f g h j : Rho → M D} {pos : Pos}
def tChain3 (r r' r2 : R2) (ta tb tc td : TE) : TE := fun σ H Q => ta σ H fun x H1 => tb σ H1 fun y H2 => r x y H2 fun z H3 => ∃ k, z = .bl k ∧
  (if k = true then tc σ H3 fun w' H4 => r' y w' H4 fun z' H5 => ∃ k', z' = .bl k' ∧ (if k' = true then td σ H5 fun u' H6 => r2 w' u' H6 Q else Q (.bl false) H5) else Q (.bl false) H3)
theorem pe_chain3 {op op' op2 : CmpOp} {r r' r2 : R2} {ta tb tc td : TE} (ho : OpR X (compareOp op) r) (ho' : OpR X (compareOp op') r') (ho2 : OpR X (compareOp op2) r2) (ha : PE X a ta) (hb : PE X b tb) (hc : PE X e tc) (hd : PE X d td)
    (hm : lastMarks [op, op', op2] [b, e, d] = false) : PE X (.Compare a [op, op', op2] [b, e, d] pos) (tChain3 r r' r2 ta tb tc td) := by
  refine ⟨fun pins s σ H Q I h => ?_⟩
  refine Compare_chain (thn (ha.run pins s σ H _ I h) fun v s1 ⟨x, H1, I1, r1, q1⟩ => chain_link (thn (hb.run pins s1 σ H1 _ I1 q1) fun u s2 ⟨y, H2, I2, r2, q2⟩ =>
    thn (ho pins s2 σ H2 x y v u _ I2 r1 r2 q2) fun d s3 ⟨z, H3, I3, r3, k, e, q3⟩ => ?_)) hm
  subst e
  cases r3
  refine wpAny_truthy_bool ?_
  cases k with
  | false => exact ite_ff ⟨.bl false, H3, I3, rfl, q3⟩
  | true =>
    refine ite_tt (chain_link (thn (hc.run pins s3 σ H3 _ I3 q3) fun w' s4 ⟨z', H4, I4, r4, q4⟩ => thn (ho' pins s4 σ H4 y z' u w' _ I4 r2 r4 q4) fun d' s5 ⟨z2, H5, I5, r5, k2, e2, q5⟩ => ?_))
    subst e2
    cases r5
    refine wpAny_truthy_bool ?_
    cases k2 with
    | false => exact ite_ff ⟨.bl false, H5, I5, rfl, q5⟩
    | true => exact ite_tt (chain_last (thn (hd.run pins s5 σ H5 _ I5 q5) fun u' s6 ⟨z3, H6, I6, r6, q6⟩ => ho2 pins s6 σ H6 z' z3 w' u' Q I6 r4 r6 q6))
theorem pt_chain3 {op op' op2 : CmpOp} {r r' r2 : R2} {ta tb tc td : TE} (ho : OpR X (compareOp op) r) (ho' : OpR X (compareOp op') r') (ho2 : OpR X (compareOp op2) r2) (ha : PE X a ta) (hb : PE X b tb) (hc : PE X e tc) (hd : PE X d td)
    (hm : lastMarks [op, op', op2] [b, e, d] = false) : PT X (.Compare a [op, op', op2] [b, e, d] pos) (tTest (tChain3 r r' r2 ta tb tc td)) := by
  refine ⟨fun pins s σ H Q I h => ?_⟩
  refine isTrue_chain (thn (ha.run pins s σ H _ I h) fun v s1 ⟨x, H1, I1, r1, q1⟩ => test_link (thn (hb.run pins s1 σ H1 _ I1 q1) fun u s2 ⟨y, H2, I2, r2, q2⟩ =>
    thn (ho pins s2 σ H2 x y v u _ I2 r1 r2 q2) fun d s3 ⟨z, H3, I3, r3, k, e, q3⟩ => ?_)) hm
  subst e
  cases r3
  refine wpAny_truthy_bool ?_
  cases k with
  | false =>
    obtain ⟨k', e', q'⟩ := q3
    cases e'
    exact ite_ff ⟨H3, I3, q'⟩
  | true =>
    refine ite_tt (test_link (thn (hc.run pins s3 σ H3 _ I3 q3) fun w' s4 ⟨z', H4, I4, r4, q4⟩ => thn (ho' pins s4 σ H4 y z' u w' _ I4 r2 r4 q4) fun d' s5 ⟨z2, H5, I5, r5, k2, e2, q5⟩ => ?_))
    subst e2
    cases r5
    refine wpAny_truthy_bool ?_
    cases k2 with
    | false =>
      obtain ⟨k', e', q'⟩ := q5
      cases e'
      exact ite_ff ⟨H5, I5, q'⟩
    | true =>
      refine ite_tt (test_last (thn (hd.run pins s5 σ H5 _ I5 q5) fun u' s6 ⟨z3, H6, I6, r6, q6⟩ => thn (ho2 pins s6 σ H6 z' z3 w' u' _ I6 r4 r6 q6) fun d2 s7 ⟨z4, H7, I7, r7, k3, e3, q7⟩ => ?_))
      subst e3
      cases r7
      exact wpAny_truthy_bool ⟨H7, I7, q7⟩
theorem chain3_core {F F' F2 : D → D → Option Bool} {r r' r2 : R2} (hp : PrimC c (rB c) (rB c) F r) (hp' : PrimC c (rB c) (rB c) F' r') (hp2 : PrimC c (rB c) (rB c) F2 r2) {σ : L2.St} {H : Hp} {Q : VK}
    (q : tG c Wx (rD c) (fun ρ => bind (f ρ) fun x => bind (g ρ) fun y => bind (lift (F x y)) fun k => if k = true then bind (h ρ) fun z => bind (lift (F' y z)) fun k' => if k' = true then bind (j ρ) fun u => bind (lift (F2 z u)) fun k'' => ret (.bl k'') else ret (.bl false) else ret (.bl false)) σ H Q) :
    tChain3 r r' r2 (tG c Wx (rB c) f) (tG c Wx (rB c) g) (tG c Wx (rB c) h) (tG c Wx (rB c) j) σ H Q :=
  (tG.seq free_D q (rB c)).monoQ fun v H1 ⟨W, H, W1, ρ, s, s1, d1, r, gr, r1, h1, k⟩ =>
    ⟨W1, ρ, s1, r1, (k.bind (rB c)).monoQ fun u H2 ⟨d2, s2, W2, _, g2, w2, ds2, h2, k2⟩ => by
      cases e : F d1 d2 with
      | none => rw [e] at k2; exact False.elim k2
      | some bb =>
        rw [e, lift_some, ret_bind] at k2
        refine hp W W2 H H2 s2 d1 d2 bb v u _ e w2 ds2 (h1.mono g2 r1.wd) h2 ⟨bb, rfl, ?_⟩
        cases bb with
        | false => exact k2 _ W2 H2 (Grow.refl _ _) w2 ds2 ⟨Grow.refl _ _, Den.mkBl⟩
        | true =>
          have r2' := r1.mono g2 w2 ds2
          have k2 : At c Wx (rD c) σ W2 H2 (PV.bind (h ρ) (fun z => PV.bind (lift (F' d2 z)) fun k' => if k' = true then PV.bind (j ρ) fun u => PV.bind (lift (F2 z u)) fun k'' => ret (.bl k'') else ret (.bl false)) s2) Q := k2.weaken fun W' H' d' v' g' q' => ⟨g', q'⟩
          refine ⟨W2, ρ, s2, r2', (At.bind k2 (rB c)).monoQ fun x H3 ⟨d3, s3, W3, _, g3, w3, ds3, h3, k3⟩ => ?_⟩
          cases e' : F' d2 d3 with
          | none => rw [e'] at k3; exact False.elim k3
          | some b3 =>
            rw [e', lift_some, ret_bind] at k3
            refine hp' W W3 H H3 s3 d2 d3 b3 u x _ e' w3 ds3 (rB.mono h2 g3 w2) h3 ⟨b3, rfl, ?_⟩
            cases b3 with
            | false => exact k3 _ W3 H3 (Grow.refl _ _) w3 ds3 ⟨Grow.refl _ _, Den.mkBl⟩
            | true =>
              have k3 : At c Wx (rD c) σ W3 H3 (PV.bind (j ρ) (fun u => PV.bind (lift (F2 d3 u)) fun k'' => ret (.bl k'')) s3) Q := k3.weaken fun W' H' d' v' g' q' => ⟨g', q'⟩
              refine ⟨W3, ρ, s3, r2'.mono g3 w3 ds3, (At.bind k3 (rB c)).monoQ fun y H4 ⟨d4, s4, W4, _, g4, w4, ds4, h4, k4⟩ => ?_⟩
              cases e2 : F2 d3 d4 with
              | none => rw [e2] at k4; exact False.elim k4
              | some b4 =>
                rw [e2, lift_some, ret_bind] at k4
                exact hp2 W W4 H H4 s4 d3 d4 b4 x y Q e2 w4 ds4 (rB.mono h3 g4 w3) h4 (k4 _ W4 H4 (Grow.refl _ _) w4 ds4 ⟨Grow.refl _ _, Den.mkBl⟩)⟩
theorem r_chain3 {op op' op2 : CmpOp} {F F' F2 : D → D → Option Bool} {r r' r2 : R2} (ho : OpR X (compareOp op) r) (ho' : OpR X (compareOp op') r') (ho2 : OpR X (compareOp op2) r2) (hp : PrimC c (rB c) (rB c) F r) (hp' : PrimC c (rB c) (rB c) F' r') (hp2 : PrimC c (rB c) (rB c) F2 r2) (hm : lastMarks [op, op', op2] [b, e, d] = false)
    (ha : PE X a (tG c Wx (rB c) f)) (hb : PE X b (tG c Wx (rB c) g)) (hc : PE X e (tG c Wx (rB c) h)) (hd : PE X d (tG c Wx (rB c) j)) :
    PE X (.Compare a [op, op', op2] [b, e, d] pos) (tG c Wx (rD c) fun ρ => bind (f ρ) fun x => bind (g ρ) fun y => bind (lift (F x y)) fun k => if k = true then bind (h ρ) fun z => bind (lift (F' y z)) fun k' => if k' = true then bind (j ρ) fun u => bind (lift (F2 z u)) fun k'' => ret (.bl k'') else ret (.bl false) else ret (.bl false)) :=
  (pe_chain3 ho ho' ho2 ha hb hc hd hm).imp fun σ H Q q => chain3_core hp hp' hp2 q
theorem rt_chain3 {op op' op2 : CmpOp} {F F' F2 : D → D → Option Bool} {r r' r2 : R2} (ho : OpR X (compareOp op) r) (ho' : OpR X (compareOp op') r') (ho2 : OpR X (compareOp op2) r2) (hp : PrimC c (rB c) (rB c) F r) (hp' : PrimC c (rB c) (rB c) F' r') (hp2 : PrimC c (rB c) (rB c) F2 r2) (hm : lastMarks [op, op', op2] [b, e, d] = false)
    (ha : PE X a (tG c Wx (rB c) f)) (hb : PE X b (tG c Wx (rB c) g)) (hc : PE X e (tG c Wx (rB c) h)) (hd : PE X d (tG c Wx (rB c) j)) :
    PT X (.Compare a [op, op', op2] [b, e, d] pos) (tG c Wx rT (tst fun ρ => bind (f ρ) fun x => bind (g ρ) fun y => bind (lift (F x y)) fun k => if k = true then bind (h ρ) fun z => bind (lift (F' y z)) fun k' => if k' = true then bind (j ρ) fun u => bind (lift (F2 z u)) fun k'' => ret (.bl k'') else ret (.bl false) else ret (.bl false))) :=
  (pt_chain3 ho ho' ho2 ha hb hc hd hm).imp fun σ H Q q => chain3_core hp hp' hp2 (tst_of q)
end

/-! ### the translator's tools -/
def gd {α : Type} (b : Bool) (k : Option α) : Option α := if b = true then k else none
theorem gd_some {α : Type} {b : Bool} {k : Option α} {y : α} (h : gd b k = some y) : b = true ∧ k = some y := by
  unfold gd at h
  split at h
  · exact ⟨by assumption, h⟩
  · cases h
theorem ob {α β : Type} {x : Option α} {f : α → Option β} {y : β} (h : x.bind f = some y) : ∃ a, x = some a ∧ f a = some y := Option.bind_eq_some_iff.mp h
def ixOf : List Str → Str → Option Nat
  | [], _ => none
  | y :: r, x => if y = x then some 0 else (ixOf r x).map (· + 1)
theorem ixOf_ok : ∀ {N : List Str} {x : Str} {i : Nat}, ixOf N x = some i → N[i]? = some x
  | [], _, _, h => by cases h
  | y :: r, x, i, h => by
    unfold ixOf at h
    split at h
    · cases h; subst_vars; rfl
    · cases q : ixOf r x with
      | none => rw [q] at h; cases h
      | some j =>
        rw [q] at h
        cases h
        exact (ixOf_ok q : r[j]? = some x)
/-- what is told of the module -/
structure GX where
  fns : List (Str × Nat × Nat × List D) := []
  vals : List (Str × D) := []
  free : List Str := []
  exs : List (Str × Nat × Nat) := []
  cls : List (Str × Nat) := []
  flds : List (Nat × List Str) := []
  sub : Nat → Nat → Bool := fun _ _ => false
  fvals : List Str := []
/-- what is told of a def -/
structure TX where
  G : GX
  N : List Str
  sc : Scope
  fn : Str → Bool
  own : List Nat
  calm : Bool
  top : Bool
  xf : List ((Str × Str) × Nat × Nat × Nat)
def dbg (x : Str) : Bool := !(x == ("__debug__" : Str)) && !(x == ("__classdict__" : Str))
def visB : Option NameKind → Bool
  | some .local => true
  | some .cell => true
  | some .free => true
  | _ => false
def glbB : Option NameKind → Bool
  | some .globalImplicit => true
  | _ => false
def locB : Option NameKind → Bool
  | some .local => true
  | some .cell => true
  | _ => false
def isLc : Option NameKind → Bool
  | some .local => true
  | _ => false
def slotOf (T : TX) (x : Str) : Option Nat := gd (visB (T.sc.names.lookup x) && dbg x) (ixOf T.N x)
def isG (T : TX) (x : Str) : Bool := glbB (T.sc.names.lookup x) && dbg x
def notStar : Expr → Bool
  | .Starred .. => false
  | _ => true
def notSet : Expr → Bool
  | .Set .. => false
  | _ => true
def notSl : Expr → Bool
  | .Slice .. => false
  | _ => true
def notComp : Expr → Bool
  | .ListComp .. => false
  | .SetComp .. => false
  | .DictComp .. => false
  | _ => true
theorem star_eq {a : Expr} {es : List Expr} {env : Env} (h : notStar a = true) : starEach (a :: es) env = (false, eval a env) :: starEach es env := by
  cases a <;> first | rfl | cases h
theorem star_any {es : List Expr} {env : Env} (h : es.all notStar = true) (pos : Pos) : (backTo pos (starEach es env)).any (·.1) = false := by
  induction es with
  | nil => rfl
  | cons a es ih =>
    simp only [List.all_cons, Bool.and_eq_true] at h
    rw [star_eq h.1]
    show (false || (backTo pos (starEach es env)).any (·.1)) = false
    rw [ih h.2]; rfl
theorem behind_of {op : CmpOp} {e : Expr} (h : notSet e = true) : behindInMarks op e = false := by
  cases e <;> first | rfl | cases h
theorem plainIx_of {b : Expr} (h : notSl b = true) : PlainIx b := by
  intro o i
  cases b <;> first | rfl | cases h
theorem swaps_of {e : Expr} {t : Option Expr} {l : Nat} {env : Env} (h : notComp e = true) : swapsWith e t l env = pure false := by
  cases e <;> first | rfl | cases h
theorem folded_of {e : Expr} {env : Env} (h : notSet e = true) : ∀ x, foldedSetIterable e env x = pure x := by
  intro x
  cases e <;> first | rfl | cases h
/-- a test like a value -/
def plainT : Expr → Bool
  | .UnaryOp .Not _ _ => false
  | .BoolOp .. => false
  | .IfExp .. => false
  | .Compare .. => false
  | _ => true
theorem plainT_of {e : Expr} {env : Env} (h : plainT e = true) : ∀ whole, isTrue e env whole = (do let v ← whole; standAt e.pos; holding [v] (truthy v)) := by
  intro whole
  cases e <;> try (first | rfl | cases h)
  rename_i op _ _
  cases op <;> first | rfl | cases h
end PV

set_option Elab.async false
set_option linter.all false
set_option maxRecDepth 100000
set_option maxHeartbeats 1000000
/-! PV12: the translation of expressions, and that it is right. -/
namespace PV
open PySem PySem.Spec PyProof.Rows L2

theorem mem_of_lk {α β : Type} [BEq α] [LawfulBEq α] : ∀ {l : List (α × β)} {a : α} {b : β}, l.lookup a = some b → (a, b) ∈ l
  | [], _, _, h => by cases h
  | (x, y) :: l, a, b, h => by
    rw [List.lookup_cons] at h
    split at h
    · rename_i e
      cases h
      rw [eq_of_beq e]
      exact List.mem_cons_self
    · exact List.mem_cons_of_mem _ (mem_of_lk h)
def trC : Const → Option D
  | .none => some .non
  | .bool b => some (.bl b)
  | .int i => some (.int i)
  | .str s => some (.str s)
  | _ => none
def trBin : Operator → Option Bop
  | .Add => some .add
  | .Sub => some .sub
  | .Mult => some .mul
  | .FloorDiv => some .fdiv
  | .Mod => some .mod
  | .Pow => some .pow
  | .LShift => some .shl
  | _ => none
def trCmp : CmpOp → Cop
  | .Eq => .eq | .NotEq => .ne | .Lt => .lt | .LtE => .le | .Gt => .gt | .GtE => .ge | .Is => .is | .IsNot => .isnot | .In => .in_ | .NotIn => .notin
def isA (x : Str) (y : Str) : Bool := x == y
def bltOf (x : Str) : Option Blt :=
  if x = ("len" : Str) then some .len else if x = ("abs" : Str) then some .abs else if x = ("int" : Str) then some .int else if x = ("str" : Str) then some .str
  else if x = ("list" : Str) then some .list else if x = ("tuple" : Str) then some .tuple else if x = ("all" : Str) then some .all else if x = ("any" : Str) then some .any else none
def tyOf (x : Str) : Option Ty :=
  if x = ("int" : Str) then some .int else if x = ("bool" : Str) then some .bool else if x = ("str" : Str) then some .str else if x = ("tuple" : Str) then some .tuple
  else if x = ("list" : Str) then some .list else if x = ("dict" : Str) then some .dict else none
def calmB : Blt → Bool
  | .all => false
  | .any => false
  | _ => true
abbrev TR := TX → Expr → Option E
def trName (T : TX) (x : Str) : Option E := match slotOf T x with
  | some i => some (.var i)
  | none => gd (isG T x) (match T.G.vals.lookup x with
    | some d => some (.c d)
    | none => gd (T.G.fvals.contains x && (T.G.fns.lookup x).isSome) (some (.c (.fn x))))
def trB (T : TX) (rec : TR) (e : Expr) : Option E := match e with
  | .Name x _ => (match slotOf T x with
    | some i => if T.own.contains i = true then some (.bor i) else rec T e
    | none => rec T e)
  | _ => rec T e
def trL (f : Expr → Option E) : List Expr → Option (List E)
  | [] => some []
  | e :: r => (f e).bind fun a => (trL f r).bind fun as => some (a :: as)
def isFree (T : TX) (x : Str) : Bool := isG T x && T.G.free.contains x
def trBlt (T : TX) (rec : TR) (x : Str) (args : List Expr) : Option E := match args with
  | [a] => (bltOf x).bind fun b => gd (T.calm || calmB b) ((trB T rec a).bind fun a' => some (.blt b a'))
  | [a, b] => if x = ("isinstance" : Str) then (match b with
      | .Name y _ => gd (isFree T y) ((tyOf y).bind fun t => (trB T rec a).bind fun a' => some (.isin t a'))
      | _ => none)
    else if x = ("max" : Str) then gd T.calm ((trB T rec a).bind fun a' => (rec T b).bind fun b' => some (.max a' b'))
    else if x = ("min" : Str) then gd T.calm ((trB T rec a).bind fun a' => (rec T b).bind fun b' => some (.min a' b'))
    else none
  | _ => none
/-- the defs that a name may hold, by how many arguments they take -/
def fTab (G : GX) (n : Nat) : List (Str × Nat) := G.fvals.filterMap fun y => match G.fns.lookup y with
  | some (num, np, _) => if np = n then some (y, num) else none
  | none => none
def trLoc (T : TX) (rec : TR) (i : Nat) (args : List Expr) : Option E := match args with
  | [] => none
  | _ => gd (T.calm && args.all notStar) ((trL (rec T) args).bind fun es => some (.cloc i (fTab T.G args.length) es))
def trCall0 (T : TX) (rec : TR) (x : Str) (args : List Expr) : Option E := gd (isG T x && args.all notStar) (match T.G.fns.lookup x with
  | some (num, np, dds) => gd (T.calm && decide (args.length ≤ np) && decide (np - args.length ≤ dds.length)) ((trL (rec T) args).bind fun es => some (.call num es (dds.drop (dds.length - (np - args.length)))))
  | none => gd (T.G.free.contains x) (trBlt T rec x args))
def trCall (T : TX) (rec : TR) (x : Str) (args : List Expr) : Option E := match slotOf T x with
  | some i => trLoc T rec i args
  | none => trCall0 T rec x args
def notCall : Expr → Bool
  | .Call .. => false
  | _ => true
def trSplit (f : Expr → Option E) (o : Expr) : List Expr → Option E
  | [e] => gd (notStar e) ((f o).bind fun o' => (f e).bind fun e' => some (.mth .split o' [e']))
  | _ => none
def trBits (f : Expr → Option E) (o : Expr) : List Expr → Option E
  | [] => (f o).bind fun o' => some (.mth .bitlen o' [])
  | _ => none
def trMth (T : TX) (rec : TR) (o : Expr) (name : Str) (apos pos : Pos) (args : List Expr) : Option E := gd (notCall o && (apos.endLine == pos.line))
  (if name = ("split" : Str) then trSplit (rec T) o args else if name = ("bit_length" : Str) then trBits (rec T) o args else none)
def trO (T : TX) (rec : TR) : Option Expr → Option E
  | none => some (.c .non)
  | some e => (rec T e).bind fun e' => gd (!absE e') (some e')
def trW (f : Expr → Option E) (op : BoolOp) : List Expr → Option E
  | [] => none
  | [a] => f a
  | a :: b :: r => (f a).bind fun a' => (trW f op (b :: r)).bind fun b' => some (match op with
    | .And => .and a' b'
    | .Or => .or a' b')
/-- targets -/
def tgOk (T : TX) (x : Str) : Option Nat := gd (locB (T.sc.names.lookup x) && (T.fn x || isLc (T.sc.names.lookup x))) (ixOf T.N x)
def trTs (T : TX) : List Expr → Option (List Nat)
  | [] => some []
  | .Name x _ :: r => (tgOk T x).bind fun i => (trTs T r).bind fun is => some (i :: is)
  | _ => none
def trT (T : TX) : Expr → Option PV.T
  | .Name x _ => (tgOk T x).bind fun i => some (.one i)
  | .Tuple ts _ _ => gd T.calm ((trTs T ts).bind fun is => some (.tup is))
  | _ => none
def rangeOf (T : TX) (x : Str) : Bool := (x == ("range" : Str)) && isFree T x && (T.G.fns.lookup x).isNone
/-- what is walked -/
def trRng (T : TX) (rec : TR) : Expr → Option (Option E)
  | .Call (.Name x _) args kws _ => if rangeOf T x = true ∧ kws.isEmpty = true then some (match args with
      | [a] => gd (notStar a) ((rec T a).bind fun a' => some (.rng1 a'))
      | [a, b] => gd (notStar a && notStar b) ((rec T a).bind fun a' => (rec T b).bind fun b' => some (.rng2 a' b'))
      | _ => none) else none
  | _ => none
def trIt (T : TX) (rec : TR) (e : Expr) : Option E := match trRng T rec e with
  | some r => r
  | none => rec T e
def trItB (T : TX) (rec : TR) (e : Expr) : Option E := match trRng T rec e with
  | some r => r
  | none => trB T rec e
def ownOf (T : TX) (scope : Scope) : List (Str × Nat) := scope.names.filterMap fun y => if locB (some y.2) = true then (ixOf T.N y.1).map fun i => (y.1, i) else none
def TX.inner (T : TX) (scope : Scope) : TX := { T with sc := relS scope T.sc, fn := fun x => scope.names.lookup x == some .cell, top := false, xf := [] }
def trIfs (f : Expr → Option E) : List Expr → Option E
  | [] => some (.c (.bl true))
  | [e] => f e
  | _ => none
def T.slotsB (t : PV.T) (own : List Nat) : Bool := t.slots.all fun j => own.contains j
def trComp (T : TX) (rec : TR) (elt : Expr) (gens : List Comprehension) (scope : Scope) : Option E := match gens with
  | [⟨tg, iter, ifs, a⟩] => gd (a == 0 && T.calm && T.top && notSet iter && blkC T.N T.sc scope (ownOf T scope)) ((trItB T rec iter).bind fun it => (trT (T.inner scope) tg).bind fun t =>
      gd (t.slotsB ((ownOf T scope).map (·.2))) ((trIfs (rec (T.inner scope)) ifs).bind fun cd => (rec (T.inner scope) elt).bind fun e => some (.comp ((ownOf T scope).map (·.2)) t it cd e)))
  | _ => none
def isRev : Expr → Bool
  | .UnaryOp .USub (.Constant (.int 1) _ _) _ => true
  | _ => false
def trSub (T : TX) (rec : TR) (a s : Expr) : Option E := match s with
  | .Slice lo hi none _ => (trB T rec a).bind fun a' => (trO T rec lo).bind fun l => (trO T rec hi).bind fun h => some (.slc a' l h)
  | .Slice none none (some e) _ => gd (isRev e) ((trB T rec a).bind fun a' => some (.rev a'))
  | .Slice _ _ _ _ => none
  | _ => (trB T rec a).bind fun a' => (rec T s).bind fun i => some (.idx a' i)
def trCmps (T : TX) (rec : TR) (a : Expr) (ops : List CmpOp) (bs : List Expr) : Option E := match ops, bs with
  | [op], [b] => gd (notSet b) ((trB T rec a).bind fun a' => (trB T rec b).bind fun b' => some (.cmp (trCmp op) a' b'))
  | [op, op'], [b, e] => gd (notSet e) ((trB T rec a).bind fun a' => (trB T rec b).bind fun b' => (trB T rec e).bind fun e' => some (.chain (trCmp op) (trCmp op') a' b' e'))
  | [op, op', op2], [b, e, d] => gd (notSet d) ((trB T rec a).bind fun a' => (trB T rec b).bind fun b' => (trB T rec e).bind fun e' => (trB T rec d).bind fun d' => some (.chain3 (trCmp op) (trCmp op') (trCmp op2) a' b' e' d'))
  | _, _ => none
def trStep (rec : TR) : TR := fun T e => match e with
  | .Constant c _ _ => (trC c).map E.c
  | .Name x _ => trName T x
  | .BinOp a op b _ => (trBin op).bind fun o => (trB T rec a).bind fun a' => (rec T b).bind fun b' => some (.bin o a' b')
  | .UnaryOp .Not a _ => (rec T a).bind fun a' => some (.not a')
  | .UnaryOp .USub a _ => (rec T a).bind fun a' => some (.neg a')
  | .BoolOp op vs _ => trW (rec T) op vs
  | .IfExp t a b _ => (rec T t).bind fun t' => (rec T a).bind fun a' => (rec T b).bind fun b' => some (.ifx t' a' b')
  | .Compare a ops bs _ => trCmps T rec a ops bs
  | .Subscript a s _ => trSub T rec a s
  | .Tuple es _ _ => gd (es.all notStar) ((trL (rec T) es).bind fun es' => some (.tup es'))
  | .List es _ => gd (es.all notStar) ((trL (rec T) es).bind fun es' => some (.lst es'))
  | .ListComp elt gens scope _ => trComp T rec elt gens scope
  | .Call (.Name x _) args kws _ => gd kws.isEmpty (trCall T rec x args)
  | .Call (.Attribute o name apos) args kws pos => gd kws.isEmpty (trMth T rec o name apos pos args)
  | .Attribute (.Name x _) f _ => (T.xf.lookup (x, f)).map fun p => E.xfld p.1 p.2.1 p.2.2
  | _ => none
def tr : Nat → TR
  | 0 => fun _ _ => none
  | n + 1 => trStep (tr n)

/-! ### what must be known -/
structure FnFact (fe : FE) (XT : Nat → Option (Addr × List Str)) (P : Program) (w : World) (K : PySem.W.Frag) (mg : Str → Option Value) (base : Heap) (L : Nat) (x : Str) (num np : Nat) (dds : List D) : Prop where
  ex : ∃ (fa : Addr) (fd : FuncData) (ps : List Str), FnOk P w K mg base (L2.CX P w) L fa fd ps (spF K XT np (fe num)) ∧ mg x = some (.ref fa) ∧ PySem.W.keepIn K (.ref fa) = true ∧ fa = He.ga K x ∧
    ∀ m, m ≤ dds.length → ∃ dus dvs, Binds K fd ps dus ∧ Vals dvs dus ∧ ∀ W H, DenL K W H (dds.drop m) dvs
  len : ∀ ds s, (fe num ds s).isSome → ds.length = np
structure GOk (G : GX) (fe : FE) (XT : Nat → Option (Addr × List Str)) (P : Program) (w : World) (K : PySem.W.Frag) (mg : Str → Option Value) (base : Heap) (L : Nat) : Prop where
  fns : ∀ x num np dds, G.fns.lookup x = some (num, np, dds) → FnFact fe XT P w K mg base L x num np dds
  vals : ∀ x d, G.vals.lookup x = some d → ∃ u v, mg x = some u ∧ RelV v u ∧ ∀ W H, Den K W H d v
  free : ∀ x, G.free.contains x = true → mg x = none
  exs : ∀ x n m, G.exs.lookup x = some (n, m + 1) → ∀ (X : Cx) (c : Cc), X.prog = P → X.w = w → X.K = K → X.mg = mg → X.base = base → c.K = K → c.XT = XT → X.calm = true → Room L X.A → Gl X x → (x == ("__debug__" : Str)) = false → ∀ (Wx : WX) (es : List Expr) (f : Rho → M (List D)) (p pos : Pos), es.all notStar = true → es.length = m + 1 →
    PA X es (tG c Wx (rL c) f) → ∃ C fs, c.XT n = some (C, fs) ∧ fs.length = m + 1 ∧ PMk X (.Call (.Name x p) es [] pos) (fun σ H Q => tG c Wx (rL c) f σ H fun vs H1 => vs.length = m + 1 ∧ ((fs = [] ∧ Q (.ref C) none H1) ∨ (fs ≠ [] ∧ ∀ d, H1 d = none → Q (.ref C) (some d) (L2.upd H1 d (.xd (fs.zip vs))))))
  exp : ∀ x n, G.exs.lookup x = some (n, 0) → ∀ (X : Cx), X.prog = P → X.w = w → X.K = K → X.mg = mg → X.base = base → Gl X x → (x == ("__debug__" : Str)) = false → ∀ (m : Str) (j : Nat) (p p2 pos : Pos),
    ∃ C, XT n = some (C, []) ∧ PMk X (.Call (.Name x p) [.Constant (.str m) j p2] [] pos) (fun _ H Q => Q (.ref C) none H)
  cls : ∀ x k, G.cls.lookup x = some k → ∃ cv, (mg x = some cv ∨ (mg x = none ∧ bootBuiltins x = some cv ∧ x ≠ "__name__")) ∧ ∀ n C fs, XT n = some (C, fs) → PySem.W.exmOne K (.ref C) cv = some (G.sub n k)
  flds : ∀ k fs, G.flds.lookup k = some fs → ∃ C, XT k = some (C, fs) ∧ XfC K C ∧ ∀ f, f ∈ fs → PySem.W.findIn K (.ref C) f = some none
structure TOk (fe : FE) (T : TX) (X : Cx) (c : Cc) (L : Nat) : Prop where
  G : GOk T.G fe c.XT X.prog X.w X.K X.mg X.base L
  K : X.K = c.K
  N : X.N = T.N
  nd : T.N.Nodup
  sc : X.env.scope = T.sc
  kind : T.sc.kind = .function
  fn : X.fn = T.fn
  calm : T.calm = true → X.calm = true ∧ Room L X.A
  un : X.A.units + 65 < cLine
  top : T.top = true → X.stack = X.env :: X.outer ∧ X.env.frame = some X.env.locals
  xf : ∀ x f p, T.xf.lookup (x, f) = some p → ∀ (Wx : WX) (p1 p2 : Pos), PE X (.Attribute (.Name x p1) f p2) (tG c Wx (rD c) (evE fe (.xfld p.1 p.2.1 p.2.2)))
def Snd (fe : FE) (L : Nat) (rec : TR) : Prop := ∀ (T : TX) (X : Cx) (c : Cc) (Wx : WX) (e : Expr) (e' : E), TOk fe T X c L → Takes X Wx → rec T e = some e' →
  PE X e (tG c Wx (rD c) (evE fe e')) ∧ PT X e (tG c Wx rT (tst (evE fe e')))
section
variable {fe : FE} {L : Nat} {rec : TR} {T : TX} {X : Cx} {c : Cc} {Wx : WX} {e a b : Expr} {e' : E} {pos : Pos}
theorem dbg_ok {x : Str} (h : dbg x = true) : (x == ("__debug__" : Str)) = false ∧ (x == ("__classdict__" : Str)) = false := by
  unfold dbg at h
  rw [Bool.and_eq_true] at h
  exact ⟨by simpa using h.1, by simpa using h.2⟩
theorem vis_ok {sc : Scope} {x : Str} (h : visB (sc.names.lookup x) = true) : Vis sc x := by
  unfold Vis
  cases q : sc.names.lookup x with
  | none => rw [q] at h; cases h
  | some k => rw [q] at h; cases k <;> simp_all [visB]
theorem glb_ok {o : Option NameKind} (h : glbB o = true) : o = some .globalImplicit := by
  unfold glbB at h
  split at h
  · rfl
  · cases h
theorem TOk.slot (k : TOk fe T X c L) {x : Str} {i : Nat} (h : slotOf T x = some i) : X.N[i]? = some x ∧ Vis X.env.scope x ∧ (x == ("__debug__" : Str)) = false ∧ (x == ("__classdict__" : Str)) = false := by
  obtain ⟨h1, h2⟩ := gd_some h
  rw [Bool.and_eq_true] at h1
  rw [k.N, k.sc]
  exact ⟨ixOf_ok h2, vis_ok h1.1, dbg_ok h1.2⟩
theorem TOk.gl (k : TOk fe T X c L) {x : Str} (h : isG T x = true) : Gl X x ∧ (x == ("__debug__" : Str)) = false := by
  unfold isG at h
  rw [Bool.and_eq_true] at h
  refine ⟨?_, (dbg_ok h.2).1⟩
  show X.env.scope.names.lookup x = _
  rw [k.sc]
  exact glb_ok h.1
theorem both (hp : plainT e = true) (h : PE X e (tG c Wx (rD c) (evE fe e'))) : PE X e (tG c Wx (rD c) (evE fe e')) ∧ PT X e (tG c Wx rT (tst (evE fe e'))) :=
  ⟨h, rt_val (plainT_of hp) h⟩
theorem trName_ok (k : TOk fe T X c L) {x : Str} (h : trName T x = some e') : PE X (.Name x pos) (tG c Wx (rD c) (evE fe e')) := by
  unfold trName at h
  split at h
  · rename_i i q
    cases h
    obtain ⟨h1, h2, h3, h4⟩ := k.slot q
    exact (pe_var h1 h2 h3 h4).imp fun σ H Q q => tVar_of σ H Q (by simpa only [evE] using q)
  · obtain ⟨h1, h2⟩ := gd_some h
    cases q : T.G.vals.lookup x with
    | none =>
      rw [q] at h2
      obtain ⟨h3, h2⟩ := gd_some h2
      cases h2
      rw [Bool.and_eq_true] at h3
      cases q2 : T.G.fns.lookup x with
      | none => rw [q2] at h3; exact absurd h3.2 (by simp)
      | some t =>
        obtain ⟨num, np, dds⟩ := t
        obtain ⟨fa, fd, ps, FO, m, kp, ga, hb⟩ := (k.G.fns x num np dds q2).ex
        obtain ⟨g, nd⟩ := k.gl h1
        have hd : ∀ W H, Den c.K W H (.fn x) (.ref fa) := fun W H => by
          unfold Den
          rw [ga, k.K]
        exact (pe_glob g m (show L2.RelV (.ref fa) (.ref fa) from rfl) nd).imp fun σ H Q q => tC_of (d := .fn x) (f := evE fe (.c (.fn x))) (fun ρ => by simp only [evE]) hd σ H Q q
    | some d =>
      rw [q] at h2
      cases h2
      obtain ⟨u, v, m, r, hd⟩ := k.G.vals x d q
      rw [k.K] at hd
      obtain ⟨g, nd⟩ := k.gl h1
      exact (pe_glob g m r nd).imp fun σ H Q q => tC_of (d := d) (f := evE fe (.c d)) (fun ρ => by simp only [evE]) hd σ H Q q
theorem trB_ok (hr : Snd fe L rec) (k : TOk fe T X c L) (tk : Takes X Wx) (h : trB T rec e = some e') : PE X e (tG c Wx (rB c) (evE fe e')) := by
  have base : rec T e = some e' → PE X e (tG c Wx (rB c) (evE fe e')) := fun h => pe_rDB (hr T X c Wx e e' k tk h).1
  unfold trB at h
  split at h
  · split at h
    · rename_i i q
      split at h
      · cases h
        obtain ⟨h1, h2, h3, h4⟩ := k.slot q
        exact (pe_var h1 h2 h3 h4).imp fun σ H Q q => tBor_of σ H Q (by simpa only [evE] using q)
      · exact base h
    · exact base h
  · exact base h
theorem trL_ok (hr : Snd fe L rec) (k : TOk fe T X c L) (tk : Takes X Wx) : ∀ {es : List Expr} {es' : List E}, trL (rec T) es = some es' → es.all notStar = true → PA X es (tG c Wx (rL c) (evL fe es'))
  | [], es', h, _ => by
    cases h
    exact pa_rnil.imp fun σ H Q q => by simpa only [evL] using q
  | e :: r, es', h, hs => by
    obtain ⟨a, h1, h⟩ := ob h
    obtain ⟨as, h2, h⟩ := ob h
    cases h
    simp only [List.all_cons, Bool.and_eq_true] at hs
    exact (pa_rcons (hr T X c Wx _ _ k tk h1).1 (trL_ok hr k tk h2 hs.2) (star_eq hs.1)).imp fun σ H Q q => by simpa only [evL] using q

/-! ### operators -/
theorem bin_ok (k : TOk fe T X c L) {op : Operator} {o : Bop} (h : trBin op = some o) : ∃ r, OpR X (binaryOp op) r ∧ Prim2 c (rB c) (binD o) r := by
  cases op <;> simp [trBin] at h <;> subst h
  · exact ⟨_, op_addAll, by rw [k.K]; exact prim_add⟩
  · exact ⟨_, op_sub, prim_sub⟩
  · exact ⟨_, op_mulAll, prim_mul⟩
  · exact ⟨_, op_modN, prim_mod⟩
  · exact ⟨_, op_pow, prim_pow⟩
  · exact ⟨_, op_shl, prim_shl⟩
  · exact ⟨_, op_fdivA, prim_fdiv⟩
theorem cmp_ok (k : TOk fe T X c L) (op : CmpOp) : ∃ r, OpR X (compareOp op) r ∧ PrimC c (rB c) (rB c) (cmpD (trCmp op)) r := by
  have u := k.un
  cases op
  · exact ⟨_, op_eqA (by omega), by rw [k.K]; exact prim_eq⟩
  · exact ⟨_, op_neA (by omega), by rw [k.K]; exact prim_ne⟩
  · exact ⟨_, op_lt, prim_lt⟩
  · exact ⟨_, op_le, prim_le⟩
  · exact ⟨_, op_gt, prim_gt⟩
  · exact ⟨_, op_ge, prim_ge⟩
  · exact ⟨_, op_isA, prim_is⟩
  · exact ⟨_, op_isnA, prim_isn⟩
  · exact ⟨_, op_inA u, by rw [k.K]; exact prim_in⟩
  · exact ⟨_, op_notInA u, by rw [k.K]; exact prim_notin⟩
theorem trW_ok (hr : Snd fe L rec) (k : TOk fe T X c L) (tk : Takes X Wx) {op : BoolOp} : ∀ {vs : List Expr} {e' : E}, trW (rec T) op vs = some e' →
    PE X (.BoolOp op vs pos) (tG c Wx (rD c) (evE fe e')) ∧ PW X (.BoolOp op vs pos) (tG c Wx rT (tst (evE fe e')))
  | [], e', h => by cases h
  | [a], e', h => by
    have q := hr T X c Wx _ _ k tk h
    cases op
    · exact ⟨pe_one q.1, pw_and1 q.2⟩
    · exact ⟨pe_one q.1, pw_or1 q.2⟩
  | a :: b :: r, e', h => by
    obtain ⟨a', h1, h⟩ := ob h
    obtain ⟨b', h2, h⟩ := ob h
    have q1 := hr T X c Wx _ _ k tk h1
    have q2 := trW_ok hr k tk h2
    cases op
    · cases h
      exact ⟨(pe_rand q1.1 q2.1).imp fun σ H Q q => by simpa only [evE] using q, (rt_and q1.2 q2.2).imp fun σ H Q q => by simpa only [tst, evE] using q⟩
    · cases h
      exact ⟨(pe_ror q1.1 q2.1).imp fun σ H Q q => by simpa only [evE] using q, (rt_or q1.2 q2.2).imp fun σ H Q q => by simpa only [tst, evE] using q⟩
theorem trCmps_ok (hr : Snd fe L rec) (k : TOk fe T X c L) (tk : Takes X Wx) {ops : List CmpOp} {bs : List Expr} (h : trCmps T rec a ops bs = some e') :
    PE X (.Compare a ops bs pos) (tG c Wx (rD c) (evE fe e')) ∧ PT X (.Compare a ops bs pos) (tG c Wx rT (tst (evE fe e'))) := by
  unfold trCmps at h
  split at h
  · rename_i op b
    obtain ⟨hs, h⟩ := gd_some h
    obtain ⟨a', h1, h⟩ := ob h
    obtain ⟨b', h2, h⟩ := ob h
    cases h
    obtain ⟨r, o, p⟩ := cmp_ok k op
    have q1 := trB_ok hr k tk h1
    have q2 := trB_ok hr k tk h2
    exact ⟨(r_cmp o p (behind_of hs) q1 q2).imp fun σ H Q q => by simpa only [evE] using q, (rt_cmp o p (behind_of hs) q1 q2).imp fun σ H Q q => by simpa only [tst, evE] using q⟩
  · rename_i op op' b d
    obtain ⟨hs, h⟩ := gd_some h
    obtain ⟨a', h1, h⟩ := ob h
    obtain ⟨b', h2, h⟩ := ob h
    obtain ⟨d', h3, h⟩ := ob h
    cases h
    obtain ⟨r, o, p⟩ := cmp_ok k op
    obtain ⟨r', o', p'⟩ := cmp_ok k op'
    have q1 := trB_ok hr k tk h1
    have q2 := trB_ok hr k tk h2
    have q3 := trB_ok hr k tk h3
    have hm : lastMarks [op, op'] [b, d] = false := behind_of hs
    exact ⟨(r_chain o o' p p' hm q1 q2 q3).imp fun σ H Q q => by simpa only [evE] using q, (rt_chain o o' p p' hm q1 q2 q3).imp fun σ H Q q => by simpa only [tst, evE] using q⟩
  · rename_i op op' op2 b d g
    obtain ⟨hs, h⟩ := gd_some h
    obtain ⟨a', h1, h⟩ := ob h
    obtain ⟨b', h2, h⟩ := ob h
    obtain ⟨d', h3, h⟩ := ob h
    obtain ⟨g', h4, h⟩ := ob h
    cases h
    obtain ⟨r, o, p⟩ := cmp_ok k op
    obtain ⟨r', o', p'⟩ := cmp_ok k op'
    obtain ⟨r2, o2, p2⟩ := cmp_ok k op2
    have q1 := trB_ok hr k tk h1
    have q2 := trB_ok hr k tk h2
    have q3 := trB_ok hr k tk h3
    have q4 := trB_ok hr k tk h4
    have hm : lastMarks [op, op', op2] [b, d, g] = false := behind_of hs
    exact ⟨(r_chain3 o o' o2 p p' p2 hm q1 q2 q3 q4).imp fun σ H Q q => by simpa only [evE] using q, (rt_chain3 o o' o2 p p' p2 hm q1 q2 q3 q4).imp fun σ H Q q => by simpa only [tst, evE] using q⟩
  · cases h
theorem trO_ok (hr : Snd fe L rec) (k : TOk fe T X c L) (tk : Takes X Wx) {o : Option Expr} (h : trO T rec o = some e') : PO X o (tG c Wx rP fun ρ => bind (evE fe e' ρ) fun l => lift (partD (absE e') l)) := by
  cases o with
  | none =>
    cases h
    exact ⟨fun pins s σ H Q I q => po_rnone.run pins s σ H Q I (by simpa only [evE, absE] using q)⟩
  | some e =>
    obtain ⟨a', h1, h⟩ := ob h
    obtain ⟨h2, h⟩ := gd_some h
    cases h
    have ha : absE e' = false := by simpa using h2
    rw [ha]
    exact po_rsome (hr T X c Wx _ _ k tk h1).1
theorem trSub_ok (hr : Snd fe L rec) (k : TOk fe T X c L) (tk : Takes X Wx) {s : Expr} (h : trSub T rec a s = some e') : PE X (.Subscript a s pos) (tG c Wx (rD c) (evE fe e')) := by
  have ix : notSl s = true → (trB T rec a).bind (fun a' => (rec T s).bind fun i => some (E.idx a' i)) = some e' → PE X (.Subscript a s pos) (tG c Wx (rD c) (evE fe e')) := fun hs h => by
    obtain ⟨a', h1, h⟩ := ob h
    obtain ⟨i', h2, h⟩ := ob h
    cases h
    exact (r_idx (plainIx_of hs) (trB_ok hr k tk h1) (hr T X c Wx _ _ k tk h2).1 k.K).imp fun σ H Q q => by simpa only [evE] using q
  unfold trSub at h
  split at h
  · obtain ⟨a', h1, h⟩ := ob h
    obtain ⟨l, h2, h⟩ := ob h
    obtain ⟨u, h3, h⟩ := ob h
    cases h
    exact (r_slc (trB_ok hr k tk h1) (trO_ok hr k tk h2) (trO_ok hr k tk h3) k.K).imp fun σ H Q q => by simpa only [evE] using q
  · obtain ⟨hi, h⟩ := gd_some h
    obtain ⟨a', h1, h⟩ := ob h
    cases h
    unfold isRev at hi
    split at hi
    · exact (r_rev (trB_ok hr k tk h1) k.K).imp fun σ H Q q => by simpa only [evE] using q
    · cases hi
  · cases h
  · rename_i n1 n2 n3
    refine ix ?_ h
    cases s <;> first | rfl | exact (n3 _ _ _ _ rfl).elim
theorem free_ok (k : TOk fe T X c L) {x : Str} (h : T.G.free.contains x = true) : X.mg x = none := k.G.free x h
theorem blt_n {x : Str} {b : Blt} (h : bltOf x = some b) : x ≠ "__name__" := by
  intro e
  subst e
  rw [show bltOf "__name__" = none from by decide +kernel] at h
  cases h
theorem isN {x : Str} {v : Value} (k : TOk fe T X c L) (g : isG T x = true) (f : T.G.free.contains x = true) (hv : bootBuiltins x = some v) (hn : x ≠ "__name__") : BltN X x v :=
  ⟨(k.gl g).1, k.G.free x f, hv, hn, (k.gl g).2⟩

theorem trBlt_ok (hr : Snd fe L rec) (k : TOk fe T X c L) (tk : Takes X Wx) {x : Str} {p : Pos} {args : List Expr} (g : isG T x = true) (f : T.G.free.contains x = true) (hs : args.all notStar = true) (h : trBlt T rec x args = some e') :
    PE X (.Call (.Name x p) args [] pos) (tG c Wx (rD c) (evE fe e')) := by
  unfold trBlt at h
  split at h
  · rename_i a
    simp only [List.all_cons, List.all_nil, Bool.and_true] at hs
    obtain ⟨b, h1, h⟩ := ob h
    obtain ⟨cmB, h⟩ := gd_some h
    obtain ⟨a', h2, h⟩ := ob h
    cases h
    have q := trB_ok hr k tk h2
    have cm : calmB b = false → X.calm = true := fun z => (k.calm (by rw [z, Bool.or_false] at cmB; exact cmB)).1
    have st := star_eq (es := []) (env := X.env) hs
    have N := fun v hv => isN (v := v) k g f hv (blt_n h1)
    have fin : ∀ {F : Rho → M D}, F = evE fe (.blt b a') → PE X (.Call (.Name x p) [a] [] pos) (tG c Wx (rD c) F) → PE X (.Call (.Name x p) [a] [] pos) (tG c Wx (rD c) (evE fe (.blt b a'))) := fun e h => e ▸ h
    have ev : ∀ b, evE fe (.blt b a') = fun ρ => bind (evE fe a' ρ) fun x => lift (bltD b x) := fun b => by funext ρ; simp only [evE]
    rw [ev]
    unfold bltOf at h1
    split at h1
    · cases h1; subst_vars
      exact r_bltB call_lenA (by rw [k.K]; exact prim_len) (N _ (by first | rfl | kernel_rfl)) q st
    · split at h1
      · cases h1; subst_vars
        exact r_bltB call_abs prim_abs (N _ (by first | rfl | kernel_rfl)) q st
      · split at h1
        · cases h1; subst_vars
          exact r_bltT call_intA prim_intA (N _ (by first | rfl | kernel_rfl)) q st
        · split at h1
          · cases h1; subst_vars
            exact r_bltT call_str_int prim_str (N _ (by first | rfl | kernel_rfl)) q st
          · split at h1
            · cases h1; subst_vars
              exact r_bltT call_list_of (by rw [k.K]; exact prim_list) (N _ (by first | rfl | kernel_rfl)) q st
            · split at h1
              · cases h1; subst_vars
                exact r_bltT call_tuple_of (by rw [k.K]; exact prim_tuple) (N _ (by first | rfl | kernel_rfl)) q st
              · split at h1
                · cases h1; subst_vars
                  exact r_bltB (cr_all (cm rfl)) (by rw [k.K]; exact prim_all) (N _ (by first | rfl | kernel_rfl)) q st
                · split at h1
                  · cases h1; subst_vars
                    exact r_bltB (cr_any (cm rfl)) (by rw [k.K]; exact prim_any) (N _ (by first | rfl | kernel_rfl)) q st
                  · cases h1
  · rename_i a b
    simp only [List.all_cons, List.all_nil, Bool.and_true, Bool.and_eq_true] at hs
    have st := star_eq (es := [b]) (env := X.env) hs.1
    have st2 := star_eq (es := []) (env := X.env) hs.2
    split at h
    · rename_i ex
      subst ex
      split at h
      · rename_i y p2
        obtain ⟨fy, h⟩ := gd_some h
        unfold isFree at fy
        rw [Bool.and_eq_true] at fy
        obtain ⟨t, h1, h⟩ := ob h
        obtain ⟨a', h2, h⟩ := ob h
        cases h
        have n1 : BltN X "isinstance" (.builtin "isinstance") := isN k g f (by first | rfl | kernel_rfl) (by decide +kernel)
        have key : ∀ {y : Str} {t : Ty}, tyOf y = some t → bootBuiltins y = some (.type t.nm) ∧ y ≠ "__name__" := fun {y t} h => by
          unfold tyOf at h
          split at h
          · cases h; subst_vars; exact ⟨by first | rfl | kernel_rfl, by decide +kernel⟩
          · split at h
            · cases h; subst_vars; exact ⟨by first | rfl | kernel_rfl, by decide +kernel⟩
            · split at h
              · cases h; subst_vars; exact ⟨by first | rfl | kernel_rfl, by decide +kernel⟩
              · split at h
                · cases h; subst_vars; exact ⟨by first | rfl | kernel_rfl, by decide +kernel⟩
                · split at h
                  · cases h; subst_vars; exact ⟨by first | rfl | kernel_rfl, by decide +kernel⟩
                  · split at h
                    · cases h; subst_vars; exact ⟨by first | rfl | kernel_rfl, by decide +kernel⟩
                    · cases h
        have n2 : BltN X y (.type t.nm) := isN k fy.1 fy.2 (key h1).1 (key h1).2
        exact (r_isin n1 n2 k.K (trB_ok hr k tk h2) st).imp fun σ H Q q => by simpa only [evE] using q
      · cases h
    · split at h
      · rename_i ex
        subst ex
        obtain ⟨cm, h⟩ := gd_some h
        obtain ⟨a', h1, h⟩ := ob h
        obtain ⟨b', h2, h⟩ := ob h
        cases h
        exact (r_max (k.calm cm).1 (isN k g f (by first | rfl | kernel_rfl) (by decide +kernel)) (trB_ok hr k tk h1) (hr T X c Wx _ _ k tk h2).1 st st2).imp fun σ H Q q => by simpa only [evE] using q
      · split at h
        · rename_i ex
          subst ex
          obtain ⟨cm, h⟩ := gd_some h
          obtain ⟨a', h1, h⟩ := ob h
          obtain ⟨b', h2, h⟩ := ob h
          cases h
          exact (r_min (k.calm cm).1 (isN k g f (by first | rfl | kernel_rfl) (by decide +kernel)) (trB_ok hr k tk h1) (hr T X c Wx _ _ k tk h2).1 st st2).imp fun σ H Q q => by simpa only [evE] using q
        · cases h
  · cases h
theorem trCall0_ok (hr : Snd fe L rec) (k : TOk fe T X c L) (tk : Takes X Wx) {x : Str} {p : Pos} {args : List Expr} (h : trCall0 T rec x args = some e') :
    PE X (.Call (.Name x p) args [] pos) (tG c Wx (rD c) (evE fe e')) := by
  obtain ⟨hg, h⟩ := gd_some h
  rw [Bool.and_eq_true] at hg
  split at h
  · rename_i num np dds q
    obtain ⟨hh, h⟩ := gd_some h
    simp only [Bool.and_eq_true, decide_eq_true_eq] at hh
    obtain ⟨es, h1, h⟩ := ob h
    cases h
    obtain ⟨⟨cm, l1⟩, l2⟩ := hh
    obtain ⟨fa, fd, ps, FO, m, kp, _, hb⟩ := (k.G.fns x num np dds q).ex
    have hF := (k.G.fns x num np dds q).len
    obtain ⟨dus, dvs, b, v, hd⟩ := hb (dds.length - (np - args.length)) (Nat.sub_le _ _)
    have FO : FnOk X.prog X.w X.K X.mg X.base (L2.CX X.prog X.w) L fa fd ps (spF c.K c.XT np (fe num)) := by
      have z := k.K
      rw [← z]
      exact FO
    have hd : ∀ W H, DenL c.K W H (dds.drop (dds.length - (np - args.length))) dvs := by rw [← k.K]; exact hd
    obtain ⟨gl, nd⟩ := k.gl hg.1
    have pa := trL_ok hr k tk h1 hg.2
    cases args with
    | nil =>
      cases h1
      exact (r_call0 (F := fe num) FO (k.calm cm).2 gl m kp b v hd hF tk nd).imp fun σ H Q q => by simpa only [evE, evL] using q
    | cons a as =>
      simp only [List.all_cons, Bool.and_eq_true] at hg
      exact (r_call (F := fe num) FO (k.calm cm).2 gl m kp b v hd hF tk pa nd (star_eq hg.2.1) (fun pos => star_any hg.2.2 pos)).imp fun σ H Q q => by simpa only [evE] using q
  · obtain ⟨f, h⟩ := gd_some h
    exact trBlt_ok hr k tk hg.1 f hg.2 h

theorem fTab_mem {G : GX} {n : Nat} {y : Str} {k : Nat} (h : (fTab G n).lookup y = some k) : ∃ dds, G.fns.lookup y = some (k, n, dds) := by
  have m := mem_of_lk h
  unfold fTab at m
  rw [List.mem_filterMap] at m
  obtain ⟨z, _, e⟩ := m
  split at e
  · rename_i num np dds q
    split at e
    · rename_i hn
      cases e
      subst hn
      exact ⟨dds, q⟩
    · cases e
  · cases e
theorem trLoc_ok (hr : Snd fe L rec) (k : TOk fe T X c L) (tk : Takes X Wx) {x : Str} {i : Nat} {p : Pos} {args : List Expr} (hi : slotOf T x = some i) (h : trLoc T rec i args = some e') :
    PE X (.Call (.Name x p) args [] pos) (tG c Wx (rD c) (evE fe e')) := by
  unfold trLoc at h
  split at h
  · cases h
  rename_i args0 hne
  obtain ⟨hg, h⟩ := gd_some h
  rw [Bool.and_eq_true] at hg
  obtain ⟨es, h1, h⟩ := ob h
  cases h
  cases args with
  | nil => exact absurd rfl hne
  | cons a as =>
    obtain ⟨hN, hv, hdb, hcd⟩ := k.slot hi
    have pa := trL_ok hr k tk h1 hg.2
    have hg2 := hg.2
    simp only [List.all_cons, Bool.and_eq_true] at hg2
    refine ⟨fun pins s σ H Q I h => ?_⟩
    obtain ⟨W, ρ, s0, r, a0⟩ := h
    simp only [evE] at a0
    cases gv : getV ρ i with
    | none => rw [gv] at a0; exact False.elim a0
    | some d =>
      rw [gv] at a0
      have gr : ρ[i]? = some (.v d) := by
        unfold getV at gv
        split at gv
        · rename_i q; cases gv; exact q
        · cases gv
      obtain ⟨v, hs, hd⟩ := r.val i d gr
      cases d with
      | fn y =>
        dsimp only at a0
        cases ht : (fTab T.G (a :: as).length).lookup y with
        | none => rw [ht] at a0; exact False.elim a0
        | some num =>
          rw [ht] at a0
          obtain ⟨dds, hq⟩ := fTab_mem ht
          obtain ⟨fa, fd, ps, FO, m, kp, ga, hb⟩ := (k.G.fns y num _ dds hq).ex
          have hF := (k.G.fns y num _ dds hq).len
          obtain ⟨dus, dvs, b, v2, hd2⟩ := hb dds.length (Nat.le_refl _)
          rw [List.drop_length] at hd2
          have FO : FnOk X.prog X.w X.K X.mg X.base (L2.CX X.prog X.w) L fa fd ps (spF c.K c.XT (a :: as).length (fe num)) := by
            have z := k.K
            rw [← z]
            exact FO
          have hd2 : ∀ W H, DenL c.K W H [] dvs := by rw [← k.K]; exact hd2
          unfold Den at hd
          rw [← k.K, ← ga] at hd
          subst hd
          have h : tG c Wx (rD c) (fun ρ => bind (evL fe es ρ) fun xs => fe num (xs ++ [])) σ H Q := ⟨W, ρ, s0, r, a0⟩
          have h := call_core (np := (a :: as).length) hd2 hF h
          refine wpAny_Call_Name_kw (thn ((pe_var (pos := p) hN hv hdb hcd).run pins s σ H (fun v H1 => v = .ref fa ∧ H1 = H) I ⟨.ref fa, hs, rfl, rfl⟩) fun u s1 ⟨v, H1, I1, r1, q1⟩ => ?_)
          obtain ⟨rfl, rfl⟩ := q1
          cases r1
          refine PySem.W.callWith_K (h₀ := X.base) I.ok.mod.kin kp (thn (pa.run pos pins s1 σ _ _ I1 h) fun us s2 ⟨vs, H2, I2, r2, q⟩ => ⟨I2.kIn, ?_⟩) (star_eq hg2.1) (star_any hg2.2 pos)
          exact run_fnD (E := WE Wx) FO (k.calm hg.1).2 b v2 (passAt tk σ) I2 r2 q
      | clo y fv => unfold Den at hd; exact hd.elim
      | _ => exact False.elim a0
theorem trCall_ok (hr : Snd fe L rec) (k : TOk fe T X c L) (tk : Takes X Wx) {x : Str} {p : Pos} {args : List Expr} (h : trCall T rec x args = some e') :
    PE X (.Call (.Name x p) args [] pos) (tG c Wx (rD c) (evE fe e')) := by
  unfold trCall at h
  split at h
  · exact trLoc_ok hr k tk (by assumption) h
  · exact trCall0_ok hr k tk h

theorem attr_of_call {o : Expr} (h : notCall o = true) (nm : Str) {env : Env} : attributeBase o nm env (eval o env) = eval o env := by
  cases o <;> first | rfl | cases h
theorem trSplit_ok (hr : Snd fe L rec) (k : TOk fe T X c L) (tk : Takes X Wx) {o : Expr} {apos : Pos} {args : List Expr} (hb : attributeBase o "split" X.env (eval o X.env) = eval o X.env) (hl : (apos.endLine == pos.line) = true) (h : trSplit (rec T) o args = some e') :
    PE X (.Call (.Attribute o "split" apos) args [] pos) (tG c Wx (rD c) (evE fe e')) := by
  unfold trSplit at h
  split at h
  · obtain ⟨hs, h⟩ := gd_some h
    obtain ⟨o', h1, h⟩ := ob h
    obtain ⟨e'', h2, h⟩ := ob h
    cases h
    exact (r_split (hr T X c Wx _ _ k tk h1).1 (hr T X c Wx _ _ k tk h2).1 (star_eq hs) hb hl).imp fun σ H Q q => by simpa only [evE, evL] using q
  · cases h
theorem trBits_ok (hr : Snd fe L rec) (k : TOk fe T X c L) (tk : Takes X Wx) {o : Expr} {apos : Pos} {args : List Expr} (hb : attributeBase o "bit_length" X.env (eval o X.env) = eval o X.env) (hl : (apos.endLine == pos.line) = true) (h : trBits (rec T) o args = some e') :
    PE X (.Call (.Attribute o "bit_length" apos) args [] pos) (tG c Wx (rD c) (evE fe e')) := by
  unfold trBits at h
  split at h
  · obtain ⟨o', h1, h⟩ := ob h
    cases h
    exact (r_bits (hr T X c Wx _ _ k tk h1).1 hb hl).imp fun σ H Q q => by simpa only [evE, evL] using q
  · cases h
theorem trMth_ok (hr : Snd fe L rec) (k : TOk fe T X c L) (tk : Takes X Wx) {o : Expr} {name : Str} {apos : Pos} {args : List Expr} (h : trMth T rec o name apos pos args = some e') :
    PE X (.Call (.Attribute o name apos) args [] pos) (tG c Wx (rD c) (evE fe e')) := by
  obtain ⟨hg, h1⟩ := gd_some h
  simp only [Bool.and_eq_true] at hg
  by_cases e1 : name = ("split" : Str)
  · rw [if_pos e1] at h1
    rw [e1]
    exact trSplit_ok hr k tk (attr_of_call hg.1 _) hg.2 h1
  · rw [if_neg e1] at h1
    by_cases e2 : name = ("bit_length" : Str)
    · rw [if_pos e2] at h1
      rw [e2]
      exact trBits_ok hr k tk (attr_of_call hg.1 _) hg.2 h1
    · rw [if_neg e2] at h1
      cases h1

/-! ### targets -/
theorem loc_ok {sc : Scope} {x : Str} (h : locB (sc.names.lookup x) = true) : L2.Loc sc x := by
  unfold L2.Loc
  cases q : sc.names.lookup x with
  | none => rw [q] at h; cases h
  | some k => rw [q] at h; cases k <;> simp_all [locB]
theorem lc_ok {sc : Scope} {x : Str} (h : isLc (sc.names.lookup x) = true) : sc.names.lookup x = some .local := by
  unfold isLc at h
  split at h
  · assumption
  · cases h
theorem tgOk_ok (k : TOk fe T X c L) {x : Str} {i : Nat} (h : tgOk T x = some i) : X.N.Nodup ∧ X.N[i]? = some x ∧ L2.Loc X.env.scope x ∧ (X.fn x = true ∨ X.env.scope.names.lookup x = some .local) := by
  obtain ⟨h1, h2⟩ := gd_some h
  simp only [Bool.and_eq_true, Bool.or_eq_true] at h1
  rw [k.N, k.sc, k.fn]
  exact ⟨k.nd, ixOf_ok h2, loc_ok h1.1, h1.2.imp (fun z => z) lc_ok⟩
theorem trTs_ok (k : TOk fe T X c L) : ∀ {ts : List Expr} {is : List Nat}, trTs T ts = some is → PGs X ts (gsT is) ∧ (assignEach ts X.env).length = is.length ∧ (assignEach ts X.env).findIdx? (·.1) = none
  | [], is, h => by cases h; exact ⟨pgs_nil, rfl, rfl⟩
  | e :: r, is, h => by
    unfold trTs at h
    split at h
    · rename_i q; cases q
    · rename_i x p r' q
      cases q
      obtain ⟨i, h1, h⟩ := ob h
      obtain ⟨is', h2, h⟩ := ob h
      cases h
      obtain ⟨g, l, f⟩ := trTs_ok k h2
      obtain ⟨n1, n2, n3, n4⟩ := tgOk_ok k h1
      refine ⟨pgs_cons (pg_name n1 n2 n3 n4) g rfl, ?_, ?_⟩
      · show ((false, assign (.Name x p) X.env) :: assignEach r X.env).length = _
        simp [l]
      · show ((false, assign (.Name x p) X.env) :: assignEach r X.env).findIdx? (·.1) = none
        rw [List.findIdx?_cons]
        simp [f]
    · cases h
theorem trT_ok (k : TOk fe T X c L) {t : PV.T} (h : trT T e = some t) : PG X e (gT c.K t) := by
  unfold trT at h
  split at h
  · obtain ⟨i, h1, h⟩ := ob h
    cases h
    obtain ⟨n1, n2, n3, n4⟩ := tgOk_ok k h1
    exact pg_name n1 n2 n3 n4
  · obtain ⟨cm, h⟩ := gd_some h
    obtain ⟨is, h1, h⟩ := ob h
    cases h
    obtain ⟨g, l, f⟩ := trTs_ok k h1
    rw [← k.K]
    exact pg_seq (k.calm cm).1 g l f
  · cases h

/-! ### what is walked -/
theorem rng_eq {α : Type} {m : M α} {f : α → Option (List D)} : (bind (bind m fun x => bind (lift (f x)) fun ys => ret (D.lst ys)) fun x => lift (items x)) = bind m fun x => lift (f x) := by
  rw [bind_assoc]
  congr 1
  funext x
  rw [bind_assoc]
  cases f x with
  | none => rfl
  | some ys => rfl
theorem rng_eq2 {α β : Type} {m : M α} {n : M β} {f : α → β → Option (List D)} : (bind (bind m fun x => bind n fun y => bind (lift (f x y)) fun ys => ret (D.lst ys)) fun x => lift (items x)) = bind m fun x => bind n fun y => lift (f x y) := by
  rw [bind_assoc]
  congr 1
  funext x
  exact rng_eq
theorem trRng_ok {R : Rl (List D) It} (hR : ∀ W0 H0 W H xs J, (∀ Gr, Walks Gr c W H xs J) → R W0 H0 W H xs J) (hF : Free R) (hr : Snd fe L rec) (k : TOk fe T X c L) (tk : Takes X Wx) {tg : Expr} (h : trRng T rec e = some (some e')) :
    PI X tg e (tG c Wx R fun ρ => bind (evE fe e' ρ) fun x => lift (items x)) := by
  unfold trRng at h
  split at h
  · rename_i x p args kws pos
    split at h
    · rename_i hx
      have h := Option.some.inj h
      unfold rangeOf isFree at hx
      simp only [Bool.and_eq_true, beq_iff_eq, List.isEmpty_iff] at hx
      obtain ⟨⟨⟨rfl, hx, hfr⟩, _⟩, rfl⟩ := hx
      have hg := k.gl hx
      have hm := k.G.free _ hfr
      split at h
      · rename_i a
        obtain ⟨hs, h⟩ := gd_some h
        obtain ⟨a', h1, h⟩ := ob h
        cases h
        refine (r_rng1 hR hF hg.1 hm (hr T X c Wx _ _ k tk h1).1 (star_eq hs)).imp fun σ H Q q => ?_
        have e : (fun ρ => bind (evE fe (.rng1 a') ρ) fun x => lift (items x)) = fun ρ => bind (evE fe a' ρ) fun x => lift (rng1D x) := by
          funext ρ
          simp only [evE]
          exact rng_eq
        rwa [e] at q
      · rename_i a b
        obtain ⟨hs, h⟩ := gd_some h
        rw [Bool.and_eq_true] at hs
        obtain ⟨a', h1, h⟩ := ob h
        obtain ⟨b', h2, h⟩ := ob h
        cases h
        refine (r_rng2 hR hF hg.1 hm (hr T X c Wx _ _ k tk h1).1 (hr T X c Wx _ _ k tk h2).1 (star_eq hs.1) (star_eq hs.2)).imp fun σ H Q q => ?_
        have e : (fun ρ => bind (evE fe (.rng2 a' b') ρ) fun x => lift (items x)) = fun ρ => bind (evE fe a' ρ) fun x => bind (evE fe b' ρ) fun y => lift (rng2D x y) := by
          funext ρ
          simp only [evE]
          exact rng_eq2
        rwa [e] at q
      · cases h
    · cases h
  · cases h
theorem trIt_ok (hr : Snd fe L rec) (k : TOk fe T X c L) (tk : Takes X Wx) {tg : Expr} (h : trIt T rec e = some e') : PI X tg e (tG c Wx (rIt c) fun ρ => bind (evE fe e' ρ) fun x => lift (items x)) := by
  unfold trIt at h
  split at h
  · rename_i r q
    subst h
    exact trRng_ok (fun _ _ _ _ _ _ z => (walks_weak z).1) free_I hr k tk q
  · exact r_items k.K (hr T X c Wx _ _ k tk h).1
theorem trItB_ok (hr : Snd fe L rec) (k : TOk fe T X c L) (tk : Takes X Wx) {tg : Expr} (h : trItB T rec e = some e') : PI X tg e (tG c Wx (rIB c) fun ρ => bind (evE fe e' ρ) fun x => lift (items x)) := by
  unfold trItB at h
  split at h
  · rename_i r q
    subst h
    exact trRng_ok (fun _ _ _ _ _ _ z => (walks_weak z).2) free_IB hr k tk q
  · exact r_itemsB k.K (trB_ok hr k tk h)

/-! ### comprehensions -/
theorem TOk.inner (k : TOk fe T X c L) {scope : Scope} (hk : scope.kind = .function) {Y : Cx} (h1 : Y.prog = X.prog ∧ Y.w = X.w ∧ Y.K = X.K ∧ Y.mg = X.mg ∧ Y.base = X.base) (h2 : Y.N = X.N) (h3 : Y.env.scope = relS scope X.env.scope) (h4 : Y.fn = fun x => scope.names.lookup x == some .cell)
    (h5 : Y.calm = X.calm) (h6 : Y.A = X.A) : TOk fe (T.inner scope) Y c L where
  G := by
    obtain ⟨e1, e2, e3, e4, e5⟩ := h1
    rw [e1, e2, e3, e4, e5]
    exact k.G
  K := h1.2.2.1.trans k.K
  N := h2.trans k.N
  nd := k.nd
  sc := by rw [h3, k.sc]; rfl
  kind := hk
  fn := h4
  calm := fun h => by rw [h5, h6]; exact k.calm h
  un := by rw [h6]; exact k.un
  top := fun h => by cases h
  xf := fun x f p h => by cases h
theorem trIfs_ok (hr : Snd fe L rec) {T : TX} {X : Cx} {Wx : WX} (k : TOk fe T X c L) (tk : Takes X Wx) {ifs : List Expr} (h : trIfs (rec T) ifs = some e') : PTs X ifs (tG c Wx rT (tst (evE fe e'))) := by
  unfold trIfs at h
  split at h
  · cases h
    exact ⟨fun pins s σ H Q I q => pts_nil.run pins s σ H Q I (by
      obtain ⟨W, ρ, s', r, a⟩ := q
      have a : At c Wx rT σ W H (tst (evE fe (.c (.bl true))) ρ s') Q := a
      rw [show tst (evE fe (.c (.bl true))) ρ = ret true from by unfold tst; simp only [evE]; rfl] at a
      exact a true W H (Grow.refl _ _) r.wd r.ds rfl)⟩
  · exact pts_one (hr T X c Wx _ _ k tk h).2
  · cases h
/-- a list comprehension, a list of one's own -/
theorem trComp_core (hr : Snd fe L rec) (k : TOk fe T X c L) (tk : Takes X Wx) {elt : Expr} {gens : List Comprehension} {scope : Scope} (h : trComp T rec elt gens scope = some e') :
    ∃ (tg iter : Expr) (ifs : List Expr) (its : Rho → M (List D)) (t : PV.T) (fcd fel : Rho → M D), gens = [⟨tg, iter, ifs, 0⟩] ∧ X.calm = true ∧ X.N.Nodup ∧ (X.stack = X.env :: X.outer ∧ X.env.frame = some X.env.locals) ∧ PI X tg iter (tG c Wx (rIB c) its) ∧ BlkOk X.N X.env.scope scope (ownOf T scope) ∧
      (∀ (s : Shared) (H : Hp) (C : Addr) (cl : List (Str × Addr)) (fp : List Addr) (E : Value → Shared → Prop), PG ((X.blk s H scope (compEnvC scope cl C X.env) fp).wish E) tg (gT c.K t)) ∧
      (∀ (W' : WX) (s : Shared) (H : Hp) (C : Addr) (cl : List (Str × Addr)) (fp : List Addr) (E : Value → Shared → Prop), Takes ((X.blk s H scope (compEnvC scope cl C X.env) fp).wish E) W' → PTs ((X.blk s H scope (compEnvC scope cl C X.env) fp).wish E) ifs (tG c W' rT (tst fcd))) ∧
      (∀ (W' : WX) (s : Shared) (H : Hp) (C : Addr) (cl : List (Str × Addr)) (fp : List Addr) (E : Value → Shared → Prop), Takes ((X.blk s H scope (compEnvC scope cl C X.env) fp).wish E) W' → PE ((X.blk s H scope (compEnvC scope cl C X.env) fp).wish E) elt (tG c W' (rD c) fel)) ∧
      (∀ x, foldedSetIterable iter X.env x = pure x) ∧ (∀ j ∈ t.slots, j ∈ (ownOf T scope).map (·.2)) ∧
      evE fe e' = fun ρ => bind (its ρ) fun xs => if xs.length ≤ sizeLine then bind (mapL (cBody t ((ownOf T scope).map (·.2)) fcd fel ρ) xs) fun ys => ret (.lst ys) else stuck := by
  unfold trComp at h
  split at h
  case h_2 => cases h
  rename_i tg iter ifs a
  obtain ⟨hg, hh⟩ := gd_some h
  clear h
  simp only [Bool.and_eq_true, beq_iff_eq] at hg
  obtain ⟨⟨⟨⟨rfl, cm⟩, tp⟩, ns⟩, bk⟩ := hg
  obtain ⟨it, h1, h⟩ := ob hh
  obtain ⟨t, h2, h⟩ := ob h
  obtain ⟨hsl, h⟩ := gd_some h
  obtain ⟨cd, h3, h⟩ := ob h
  obtain ⟨el, h4, h⟩ := ob h
  cases h
  have bok := blkOk_by bk
  rw [← k.N, ← k.sc] at bok
  have hin : ∀ (s : Shared) (H : Hp) (C : Addr) (cl : List (Str × Addr)) (fp : List Addr) (E : Value → Shared → Prop), TOk fe (T.inner scope) ((X.blk s H scope (compEnvC scope cl C X.env) fp).wish E) c L := fun s H C cl fp E =>
    k.inner bok.kind ⟨rfl, rfl, rfl, rfl, rfl⟩ rfl rfl rfl rfl rfl
  refine ⟨tg, iter, ifs, _, t, evE fe cd, evE fe el, rfl, (k.calm cm).1, by rw [k.N]; exact k.nd, k.top tp, trItB_ok hr k tk h1, bok, fun s H C cl fp E => trT_ok (hin s H C cl fp E) h2, fun W' s H C cl fp E tk' => trIfs_ok hr (hin s H C cl fp E) tk' h3,
    fun W' s H C cl fp E tk' => (hr _ _ c W' _ _ (hin s H C cl fp E) tk' h4).1, folded_of ns, ?_, ?_⟩
  · intro j hj
    have z := List.all_eq_true.mp hsl j hj
    simpa using z
  · funext ρ
    simp only [evE]
    rfl
theorem trComp_ok (hr : Snd fe L rec) (k : TOk fe T X c L) (tk : Takes X Wx) {elt : Expr} {gens : List Comprehension} {scope : Scope} (h : trComp T rec elt gens scope = some e') :
    PE X (.ListComp elt gens scope pos) (tG c Wx (rN c) (evE fe e')) := by
  obtain ⟨tg, iter, ifs, its, t, fcd, fel, rfl, hc, hN, hst, hi, bok, hg, ht, he, hs, hsub, ev⟩ := trComp_core hr k tk h
  rw [ev]
  exact (pe_lcX hc hN tk hst.1 hst.2 hi bok hg ht he hs).imp (r_comp (pos := pos) (elt := elt) (tg := tg) (iter := iter) (ifs := ifs) (scope := scope) k.K rfl hsub)
end
end PV

set_option Elab.async false
set_option linter.all false
set_option maxRecDepth 100000
set_option maxHeartbeats 1000000
/-! PV13: the translation of expressions is right; statements. -/
namespace PV
open PySem PySem.Spec PyProof.Rows L2
section
variable {fe : FE} {L : Nat} {rec : TR}
theorem trStep_ok (hr : Snd fe L rec) : Snd fe L (trStep rec) := by
  intro T X c Wx e e' k tk h
  unfold trStep at h
  split at h
  · -- constants
    rename_i cc j p
    refine both rfl ?_
    cases q : trC cc with
    | none => rw [q] at h; cases h
    | some d =>
      rw [q] at h
      cases h
      cases cc <;> simp [trC] at q <;> subst q
      · exact pe_non.imp fun σ H Q q => tC_of (fun ρ => by simp only [evE]) (fun _ _ => Den.mkNon) σ H Q q
      · exact pe_bl.imp fun σ H Q q => tC_of (fun ρ => by simp only [evE]) (fun _ _ => Den.mkBl) σ H Q q
      · exact pe_int.imp fun σ H Q q => tC_of (fun ρ => by simp only [evE]) (fun _ _ => Den.mkInt) σ H Q q
      · exact pe_str.imp fun σ H Q q => tC_of (fun ρ => by simp only [evE]) (fun _ _ => Den.mkStr) σ H Q q
  · exact both rfl (trName_ok k h)
  · obtain ⟨o, h1, h⟩ := ob h
    obtain ⟨a', h2, h⟩ := ob h
    obtain ⟨b', h3, h⟩ := ob h
    cases h
    obtain ⟨r, p1, p2⟩ := bin_ok k h1
    exact both rfl ((r_bin p1 p2 (trB_ok hr k tk h2) (hr T X c Wx _ _ k tk h3).1).imp fun σ H Q q => by simpa only [evE] using q)
  · obtain ⟨a', h1, h⟩ := ob h
    cases h
    have q := hr T X c Wx _ _ k tk h1
    exact ⟨(pe_rnot q.1).imp fun σ H Q q => by simpa only [evE] using q, (rt_not q.2).imp fun σ H Q q => by simpa only [tst, evE] using q⟩
  · obtain ⟨a', h1, h⟩ := ob h
    cases h
    exact both rfl ((pe_rneg (hr T X c Wx _ _ k tk h1).1).imp fun σ H Q q => by simpa only [evE] using q)
  · have q := trW_ok (pos := (by assumption)) hr k tk h
    exact ⟨q.1, q.2.pt⟩
  · obtain ⟨t', h1, h⟩ := ob h
    obtain ⟨a', h2, h⟩ := ob h
    obtain ⟨b', h3, h⟩ := ob h
    cases h
    have q1 := hr T X c Wx _ _ k tk h1
    have q2 := hr T X c Wx _ _ k tk h2
    have q3 := hr T X c Wx _ _ k tk h3
    exact ⟨(pe_rif q1.2 q2.1 q3.1).imp fun σ H Q q => by simpa only [evE] using q, (rt_if q1.2 q2.2 q3.2).imp fun σ H Q q => by simpa only [tst, evE] using q⟩
  · exact trCmps_ok hr k tk h
  · exact both rfl (trSub_ok hr k tk h)
  · obtain ⟨hs, h⟩ := gd_some h
    obtain ⟨es', h1, h⟩ := ob h
    cases h
    exact both rfl ((pe_rtup (trL_ok hr k tk h1 hs)).imp fun σ H Q q => by simpa only [evE] using q)
  · obtain ⟨hs, h⟩ := gd_some h
    obtain ⟨es', h1, h⟩ := ob h
    cases h
    exact both rfl (pe_rND ((pe_rlstN (trL_ok hr k tk h1 hs)).imp fun σ H Q q => by simpa only [evE] using q))
  · exact both rfl (pe_rND (trComp_ok hr k tk h))
  · obtain ⟨hk, h⟩ := gd_some h
    rw [List.isEmpty_iff] at hk
    subst hk
    exact both rfl (trCall_ok hr k tk (by assumption))
  · obtain ⟨hk, h⟩ := gd_some h
    rw [List.isEmpty_iff] at hk
    subst hk
    exact both rfl (trMth_ok hr k tk (by assumption))
  · rename_i x p1 f p2
    cases q : T.xf.lookup (x, f) with
    | none => rw [q] at h; cases h
    | some p =>
      rw [q] at h
      cases h
      exact both rfl (k.xf x f p q Wx p1 p2)
  · cases h
theorem tr_ok : ∀ n, Snd fe L (tr n)
  | 0 => fun T X c Wx e e' k tk h => by cases h
  | n + 1 => trStep_ok (tr_ok n)
end
end PV

set_option Elab.async false
set_option linter.all false
set_option maxRecDepth 100000
set_option maxHeartbeats 1000000
/-! PV14: the translation of statements, and that it is right. -/
namespace PV
open PySem PySem.Spec PyProof.Rows L2

mutual
def E.vars : E → List Nat
  | .c _ => [] | .var i => [i] | .bor _ => []
  | .tup es => varsL es | .lst es => varsL es
  | .bin _ a b => a.vars ++ b.vars | .neg a => a.vars | .not a => a.vars
  | .and a b => a.vars ++ b.vars | .or a b => a.vars ++ b.vars | .ifx c a b => c.vars ++ a.vars ++ b.vars
  | .cmp _ a b => a.vars ++ b.vars | .chain _ _ a b c => a.vars ++ b.vars ++ c.vars | .chain3 _ _ _ a b c d => a.vars ++ b.vars ++ c.vars ++ d.vars
  | .call _ es _ => varsL es | .blt _ a => a.vars | .max a b => a.vars ++ b.vars | .min a b => a.vars ++ b.vars
  | .isin _ a => a.vars | .idx a i => a.vars ++ i.vars | .slc a l h => a.vars ++ l.vars ++ h.vars | .rev a => a.vars
  | .rng1 a => a.vars | .rng2 a b => a.vars ++ b.vars
  | .comp _ _ it cd e => it.vars ++ cd.vars ++ e.vars
  | .mth _ a es => a.vars ++ varsL es | .xfld _ _ _ => [] | .cloc i _ es => i :: varsL es
def varsL : List E → List Nat
  | [] => []
  | e :: es => e.vars ++ varsL es
end
def S.vars : S → List Nat
  | .asg _ e => e.vars | .aug _ _ e => e.vars | .own _ e => e.vars | .unp _ e => e.vars | .exp e => e.vars | .app _ e => e.vars | .put _ j e => j.vars ++ e.vars
  | .ifs c _ _ => c.vars | .whl c _ => c.vars | .for_ _ it _ => it.vars | .ret e => e.vars | .rais _ es => varsL es | _ => []
abbrev TRS := TX → Stmt → Option S
def fz (T : TX) (s : S) : List Nat := T.own.filter fun i => s.vars.contains i
def trSs (T : TX) (f : Stmt → Option S) : List Stmt → Option (List S)
  | [] => some []
  | st :: r => (f st).bind fun s => (trSs T f r).bind fun rs => some (if (fz T s).isEmpty = true then s :: rs else .frz (fz T s) :: s :: rs)
/-- a new list -/
def trN (T : TX) (rec : TR) (e : Expr) : Option E := match e with
  | .List es _ => gd (es.all notStar) ((trL (rec T) es).bind fun es' => some (.lst es'))
  | .ListComp elt gens scope _ => trComp T rec elt gens scope
  | .Call (.Name x _) [a] [] _ => gd ((x == ("list" : Str)) && isFree T x && (T.G.fns.lookup x).isNone && notStar a) ((trB T rec a).bind fun a' => some (.blt .list a'))
  | _ => none
/-- name = e -/
def trAsg (T : TX) (rec : TR) (i : Nat) (e : Expr) : Option S := if T.own.contains i = true then (match trN T rec e with
    | some e' => some (.own i e')
    | none => (rec T e).bind fun e' => some (.asg i e'))
  else (rec T e).bind fun e' => some (.asg i e')
/-- [..] on the name's line: the name is stored inside -/
def swB (T : TX) (y : Str) (py cpos : Pos) (scope : Scope) : Bool := isLc (T.sc.names.lookup y) && (py.line == cpos.line) && !(scope.names.any fun z => z.1 == y && (z.2 == .local || z.2 == .cell))
def trSet (T : TX) (rec : TR) (x : Str) (p : Pos) (e : Expr) : Option S := (tgOk T x).bind fun i => match e with
  | .ListComp elt gens scope cpos => (trComp T rec elt gens scope).bind fun e' => gd (swB T x p cpos scope || !(isLc (T.sc.names.lookup x) && (p.line == cpos.line) && !(scope.names.any fun z => z.1 == x && (z.2 == .local || z.2 == .cell)))) (some (if T.own.contains i = true then .own i e' else .asg i e'))
  | _ => gd (notComp e) (trAsg T rec i e)
def parOk (T : TX) (ts vs : List Expr) : Bool := match ts, vs with
  | [.Name x px, .Name y py], [a, b] => isLc (T.sc.names.lookup x) && isLc (T.sc.names.lookup y) && (py.line == px.line) && !(x == y) && !(foldedForSure 8 a && foldedForSure 8 b) && !(constantsAlone 8 a && constantsAlone 8 b)
  | [.Name x px, .Name y py, .Name z pz], [a, b, d] => isLc (T.sc.names.lookup x) && isLc (T.sc.names.lookup y) && isLc (T.sc.names.lookup z) && (py.line == px.line) && (pz.line == px.line) && !(x == y) && !(x == z) && !(y == z) &&
      !(foldedForSure 8 a && foldedForSure 8 b && foldedForSure 8 d) && !(constantsAlone 8 a && constantsAlone 8 b && constantsAlone 8 d)
  | _, _ => false
def nameLc (T : TX) : Expr → Bool
  | .Name x _ => isLc (T.sc.names.lookup x)
  | _ => false
def noPar (T : TX) (ts vs : List Expr) : Bool := !(ts.length == 2 || ts.length == 3) || (vs.length != ts.length) || vs.all (foldedForSure 8)
def trUnp (T : TX) (rec : TR) (ts : List Expr) (e : Expr) : Option S := gd T.calm ((trTs T ts).bind fun is => match e with
  | .Tuple vs _ _ => gd (vs.all notStar && (parOk T ts vs || noPar T ts vs)) ((trL (rec T) vs).bind fun es => some (.unp is (.tup es)))
  | _ => (rec T e).bind fun e' => some (.unp is e'))
def trPut (T : TX) (rec : TR) (x : Str) (j e : Expr) : Option S := gd (notComp e && notSl j) ((slotOf T x).bind fun i => (rec T j).bind fun j' => (rec T e).bind fun e' => some (.put i j' e'))
def trIop : Operator → Option Bop
  | .Add => some .add
  | .Sub => some .sub
  | .Mult => some .mul
  | .FloorDiv => some .fdiv
  | _ => none
def trAug (T : TX) (rec : TR) (x : Str) (op : Operator) (e : Expr) : Option S := (tgOk T x).bind fun i => (trIop op).bind fun o => (rec T e).bind fun e' => some (.aug i o e')
def trApp (T : TX) (rec : TR) (o : Expr) (name : Str) (apos cpos : Pos) (args : List Expr) : Option S := match o, args with
  | .Name x _, [e] => gd ((name == ("append" : Str)) && (apos.endLine == cpos.line) && notStar e) ((slotOf T x).bind fun i => (rec T e).bind fun e' => some (.app i e'))
  | _, _ => none
def trExp (T : TX) (rec : TR) (e : Expr) : Option S := match e with
  | .Call (.Attribute o name apos) args [] cpos => trApp T rec o name apos cpos args
  | _ => gd (notComp e) ((rec T e).bind fun e' => some (.exp e'))
def constStr : List Expr → Bool
  | [.Constant (.str _) _ _] => true
  | _ => false
def trRaise (T : TX) (rec : TR) (e : Expr) : Option S := match e with
  | .Call (.Name x _) args [] _ => gd (T.calm && isG T x && args.all notStar) ((T.G.exs.lookup x).bind fun nm => match nm.2 with
    | 0 => gd (constStr args) (some (.rais nm.1 []))
    | m + 1 => gd (args.length == m + 1) ((trL (rec T) args).bind fun es => some (.rais nm.1 es)))
  | _ => none
def xfOf (n : Str) (i k : Nat) (fs : List Str) : List ((Str × Str) × Nat × Nat × Nat) := fs.filterMap fun f => (ixOf fs f).map fun j => ((n, f), i, k, j)
def trTry (T : TX) (recS : TRS) (body suite : List Stmt) (x : Str) (nm : Option Str) : Option S := gd (T.calm && T.top && isG T x) ((T.G.cls.lookup x).bind fun k =>
  (trSs { T with xf := [] } (recS { T with xf := [] }) body).bind fun b => match nm with
    | none => (trSs { T with calm := false, xf := [] } (recS { T with calm := false, xf := [] }) suite).bind fun h => some (.try_ b [k] none h)
    | some n => gd (isLc (T.sc.names.lookup n) && dbg n) ((ixOf T.N n).bind fun i =>
        (trSs { T with calm := false, xf := xfOf n i k ((T.G.flds.lookup k).getD []) } (recS { T with calm := false, xf := xfOf n i k ((T.G.flds.lookup k).getD []) }) suite).bind fun h => some (.try_ b [k] (some i) h)))
def stmtStep (rec : TR) (recS : TRS) : TRS := fun T st => match st with
  | .Assign [.Name x p] e _ => trSet T rec x p e
  | .Assign [.Tuple ts _ _] e _ => trUnp T rec ts e
  | .Assign [.Subscript (.Name x _) j _] e _ => trPut T rec x j e
  | .AugAssign (.Name x _) op e _ => trAug T rec x op e
  | .Return none _ => some (.ret (.c .non))
  | .Return (some e) _ => (rec T e).bind fun e' => some (.ret e')
  | .If c a b _ => (rec T c).bind fun c' => (trSs T (recS T) a).bind fun a' => (trSs T (recS T) b).bind fun b' => some (.ifs c' a' b')
  | .While c b [] _ => gd T.calm ((rec T c).bind fun c' => (trSs T (recS T) b).bind fun b' => some (.whl c' b'))
  | .For tg it b [] _ => gd (T.calm && notSet it) ((trIt T rec it).bind fun it' => (trT T tg).bind fun t => (trSs T (recS T) b).bind fun b' => some (.for_ t it' b'))
  | .Expr e _ => trExp T rec e
  | .Raise (some e) none _ => trRaise T rec e
  | .Try body [.ExceptHandler (some (.Name x _)) nm (b₀ :: suite) _] [] [] _ => trTry T recS body (b₀ :: suite) x nm
  | .Pass _ => some .pass
  | .Break _ => some .brk
  | .Continue _ => some .cnt
  | _ => none
def trS (n : Nat) : Nat → TRS
  | 0 => fun _ _ => none
  | m + 1 => stmtStep (tr n) (trS n m)

def SndS (fe : FE) (L : Nat) (sub : Sub) (recS : TRS) : Prop := ∀ (T : TX) (X : Cx) (c : Cc) (Wx : WX) (st : Stmt) (s : S), TOk fe T X c L → T.G.sub = sub → (T.calm = true → ∀ a cls d, ¬ c.xc a cls d) → Takes X Wx → (T.calm = true → PassesOwn (model X.prog X.w) X.A X.env X.xe) → recS T st = some s →
  PS X st (tS c Wx (evS sub fe s))
section
variable {fe : FE} {L : Nat} {rec : TR} {recS : TRS} {T : TX} {X : Cx} {c : Cc} {Wx : WX} {e : Expr} {s : S} {pos : Pos} {sub : Sub}
theorem trSs_ok (hr : SndS fe L sub recS) (k : TOk fe T X c L) (hsub : T.G.sub = sub) (hxc : T.calm = true → ∀ a cls d, ¬ c.xc a cls d) (tk : Takes X Wx) (ps : T.calm = true → PassesOwn (model X.prog X.w) X.A X.env X.xe) :
    ∀ {sts : List Stmt} {ss : List S}, trSs T (recS T) sts = some ss → PSs X sts (tS c Wx (evSs sub fe ss))
  | [], ss, h => by
    cases h
    exact pss_rnil.imp fun En σ H q => by simpa only [evSs] using q
  | st :: r, ss, h => by
    obtain ⟨s, h1, h⟩ := ob h
    obtain ⟨rs, h2, h⟩ := ob h
    have q1 := hr T X c Wx st s k hsub hxc tk ps h1
    have q2 := trSs_ok hr k hsub hxc tk ps h2
    have base : PSs X (st :: r) (tS c Wx (evSs sub fe (s :: rs))) := (pss_rcons q1 q2).imp fun En σ H q => by
      have e : evSs sub fe (s :: rs) = fun ρ => fun s' => match evS sub fe s ρ s' with
        | none => none
        | some (.nx ρ', s1) => evSs sub fe rs ρ' s1
        | some (f, s1) => some (f, s1) := by
        funext ρ
        simp only [evSs]
        try rfl
      rw [e] at q
      exact q
    injection h with h
    split at h
    · subst h; exact base
    · subst h
      refine base.imp fun En σ H q => tS.frz (fz T s) ?_
      have e : evSs sub fe (.frz (fz T s) :: s :: rs) = fun ρ => evSs sub fe (s :: rs) (freeze ρ (fz T s)) := by
        funext ρ
        simp only [evSs, evS, retS]
      rw [e] at q
      exact q
theorem trN_ok {e' : E} (hr : Snd fe L rec) (k : TOk fe T X c L) (tk : Takes X Wx) (h : trN T rec e = some e') : PE X e (tG c Wx (rN c) (evE fe e')) := by
  unfold trN at h
  split at h
  · obtain ⟨hs, h⟩ := gd_some h
    obtain ⟨es', h1, h⟩ := ob h
    cases h
    exact (pe_rlstN (trL_ok hr k tk h1 hs)).imp fun σ H Q q => by simpa only [evE] using q
  · exact trComp_ok hr k tk h
  · obtain ⟨hg, h⟩ := gd_some h
    simp only [Bool.and_eq_true, beq_iff_eq, isFree] at hg
    obtain ⟨⟨⟨hx, hx1, hx2⟩, _⟩, hs⟩ := hg
    obtain ⟨a', h1, h⟩ := ob h
    cases h
    have hb : bootBuiltins ("list" : Str) = some (.type "list") := by first | rfl | kernel_rfl
    have hn : ("list" : Str) ≠ "__name__" := by decide +kernel
    rw [← hx] at hb hn
    exact (r_listN (isN k hx1 hx2 hb hn) k.K (trB_ok hr k tk h1) (star_eq hs)).imp fun σ H Q q => by simpa only [evE] using q
  · cases h
theorem trAsg_ok {i : Nat} {x : Str} {p : Pos} (hr : Snd fe L rec) (k : TOk fe T X c L) (tk : Takes X Wx) (ht : tgOk T x = some i) (hc : swapsWith e (some (.Name x p)) pos.line X.env = pure false) (h : trAsg T rec i e = some s) : PS X (.Assign [.Name x p] e pos) (tS c Wx (evS sub fe s)) := by
  obtain ⟨n1, n2, n3, n4⟩ := tgOk_ok k ht
  have asg : (rec T e).bind (fun e' => some (S.asg i e')) = some s → PS X (.Assign [.Name x p] e pos) (tS c Wx (evS sub fe s)) := fun h => by
    obtain ⟨e', h1, h⟩ := ob h
    cases h
    exact (ps_rset n1 n2 n3 n4 hc (hr T X c Wx _ _ k tk h1).1).imp fun En σ H q => by
      have e : evS sub fe (.asg i e') = fun ρ => bindE (evE fe e' ρ) ρ fun d => retS (.nx (ρ.set i (.v d))) := by funext ρ; simp only [evS]
      rwa [e] at q
  unfold trAsg at h
  split at h
  · split at h
    · rename_i e' h1
      cases h
      have e : evS sub fe (.own i e') = fun ρ => bindE (evE fe e' ρ) ρ fun d => match d with
        | .lst xs => retS (.nx (ρ.set i (.o xs)))
        | _ => stuckS := by funext ρ; simp only [evS]; try rfl
      rw [e]
      exact ps_rown (fun ρ xs => rfl) n1 n2 n3 n4 hc (trN_ok hr k tk h1)
    · exact asg h
  · exact asg h

theorem tG_ND {f : Rho → M D} {σ : L2.St} {H : Hp} {Q : VK} (q : tG c Wx (rD c) f σ H Q) : tG c Wx (rN c) f σ H Q := by
  obtain ⟨W, ρ, s, r, a⟩ := q
  refine ⟨W, ρ, s, r, ?_⟩
  unfold At at a ⊢
  split
  · rename_i q; rw [q] at a; exact a
  · rename_i d s' q
    rw [q] at a
    rintro v W' H' g w ds ⟨p, vs, xs, rfl, rfl, h0, hp, hl, ni, nA⟩
    have dl : DenL c.K (W'.add p) H' xs vs := DenL.wmono (W' := W'.add p) (fun _ h => Or.inl h) rfl _ _ hl
    refine a _ (W'.add p) H' ⟨fun a h => .inl (g.iG a h), fun a h => ?_, g.aG, g.aN, g.keep, g.there⟩ ⟨fun a h => ?_, fun a h => ⟨(w.aL a h).1, fun z => ?_⟩⟩ (ds.wmono (W' := W'.add p) (fun _ h => Or.inl h) rfl) (Den.mkLst (.inr rfl) hp dl)
    · rcases h with h | h
      · exact g.iN a h
      · subst h; exact .inr h0
    · rcases h with h | h
      · exact w.iS a h
      · subst h; exact ⟨_, hp⟩
    · rcases z with z | z
      · exact (w.aL a h).2 z
      · subst z; exact nA h
  · rename_i e s' q; rw [q] at a; exact a
theorem swapsLc {elt : Expr} {gens : List Comprehension} {scope : Scope} {cpos py : Pos} {y : Str} {l : Nat} {env : Env} : swapsWith (.ListComp elt gens scope cpos) (some (.Name y py)) l env =
    pure (env.blockKind == .function && env.kindOf y == some .local && py.line == cpos.line && !(scope.names.any fun (n, k) => n == y && (k == .local || k == .cell))) := rfl
theorem TOk.block (k : TOk fe T X c L) : X.env.blockKind = .function := by
  unfold Env.blockKind
  rw [k.sc, k.kind]
  rfl
theorem isLc_iff {o : Option NameKind} : (o == some .local) = isLc o := by
  cases o with
  | none => rfl
  | some k => cases k <;> rfl
theorem trSet_ok {x : Str} {p : Pos} (hr : Snd fe L rec) (k : TOk fe T X c L) (tk : Takes X Wx) (h : trSet T rec x p e = some s) : PS X (.Assign [.Name x p] e pos) (tS c Wx (evS sub fe s)) := by
  obtain ⟨i, ht, hh⟩ := ob h
  clear h
  split at hh
  · rename_i elt gens scope cpos
    obtain ⟨e', h1, h⟩ := ob hh
    obtain ⟨hsw, h⟩ := gd_some h
    obtain ⟨n1, n2, n3, n4⟩ := tgOk_ok k ht
    have sw : swapsWith (.ListComp elt gens scope cpos) (some (.Name x p)) pos.line X.env = pure (swB T x p cpos scope) := by
      rw [swapsLc, k.block]
      show pure (true && (X.env.scope.names.lookup x == some .local) && _ && _) = _
      rw [k.sc, isLc_iff, Bool.true_and]
      rfl
    have fin : PS X (.Assign [.Name x p] (.ListComp elt gens scope cpos) pos) (tAsg (tG c Wx (rN c) (evE fe e')) (gName i)) := by
      cases q : swB T x p cpos scope with
      | true =>
        rw [q] at sw
        obtain ⟨tg, iter, ifs, its, t, fcd, fel, rfl, hc, hN, hst, hi, bok, hg, ht, he, hs, hsub, ev⟩ := trComp_core hr k tk h1
        have hl : X.env.scope.names.lookup x = some .local := by
          rw [k.sc]
          unfold swB at q
          simp only [Bool.and_eq_true] at q
          exact lc_ok q.1.1
        rw [ev]
        exact (ps_setLcX hc hN tk hst.1 hst.2 n2 hl sw hi bok hg ht he hs).imp fun En σ H q => r_comp (pos := pos) (elt := elt) (tg := tg) (iter := iter) (ifs := ifs) (scope := scope) k.K rfl hsub σ H _ q
      | false =>
        rw [q] at sw
        exact ps_set n1 n2 n3 (trComp_ok hr k tk h1) sw n4
    injection h with h
    split at h
    · subst h
      refine fin.imp fun En σ H q => own_core (k := fun ρ d => match d with
          | .lst xs => retS (.nx (ρ.set i (.o xs)))
          | _ => stuckS) (fun ρ xs => rfl) ?_
      have e : evS sub fe (.own i e') = fun ρ => bindE (evE fe e' ρ) ρ fun d => match d with
        | .lst xs => retS (.nx (ρ.set i (.o xs)))
        | _ => stuckS := by funext ρ; simp only [evS]; try rfl
      rwa [e] at q
    · subst h
      refine fin.imp fun En σ H q => tG_ND ?_
      have e : evS sub fe (.asg i e') = fun ρ => bindE (evE fe e' ρ) ρ fun d => retS (.nx (ρ.set i (.v d))) := by funext ρ; simp only [evS]
      rw [e] at q
      exact (tS.exp (R := rD c) q).monoQ fun v H1 ⟨W0, H0, W1, ρ, s1, d, r, _, _, hd, a⟩ => a.nx (r.set hd)
  · obtain ⟨hc, h⟩ := gd_some hh
    exact trAsg_ok hr k tk ht (swaps_of hc) h
theorem trPut_ok {x : Str} {p0 spos : Pos} {j : Expr} (hr : Snd fe L rec) (k : TOk fe T X c L) (tk : Takes X Wx) (h : trPut T rec x j e = some s) : PS X (.Assign [.Subscript (.Name x p0) j spos] e pos) (tS c Wx (evS sub fe s)) := by
  obtain ⟨hc, h⟩ := gd_some h
  rw [Bool.and_eq_true] at hc
  obtain ⟨i, h1, h⟩ := ob h
  obtain ⟨j', h2, h⟩ := ob h
  obtain ⟨e', h3, h⟩ := ob h
  cases h
  obtain ⟨n1, n2, n3, n4⟩ := k.slot h1
  have ev : evS sub fe (.put i j' e') = putM i (evE fe e') (evE fe j') := by
    funext ρ
    simp only [evS]
    rfl
  rw [ev]
  exact ps_rput n1 n2 n3 n4 k.K (hr T X c Wx _ _ k tk h3).1 (hr T X c Wx _ _ k tk h2).1 (fun v => by have z := hc.2; cases j <;> first | rfl | cases z) (by unfold swapsWithSole; exact swaps_of hc.1) (by cases e <;> rfl)
theorem trAug_ok {x : Str} {p0 : Pos} {op : Operator} (hr : Snd fe L rec) (k : TOk fe T X c L) (tk : Takes X Wx) (h : trAug T rec x op e = some s) : PS X (.AugAssign (.Name x p0) op e pos) (tS c Wx (evS sub fe s)) := by
  obtain ⟨i, h1, h⟩ := ob h
  obtain ⟨o, h2, h⟩ := ob h
  obtain ⟨e', h3, h⟩ := ob h
  cases h
  obtain ⟨n1, n2, n3, n4⟩ := tgOk_ok k h1
  have q := (hr T X c Wx _ _ k tk h3).1
  have ev : evS sub fe (.aug i o e') = fun ρ => bindE (bind (lift (getV ρ i)) fun x => bind (evE fe e' ρ) fun y => lift (augD o x y)) ρ fun d => retS (.nx (ρ.set i (.v d))) := by
    funext ρ
    simp only [evS]
  rw [ev]
  cases op <;> simp [trIop] at h2 <;> subst h2
  · exact ps_raug iop_addAll prim_augadd n1 n2 n3 n4 q
  · exact ps_raug iop_sub (Prim2.ofB prim_sub) n1 n2 n3 n4 q
  · exact ps_raug iop_mulA prim_augmul n1 n2 n3 n4 q
  · exact ps_raug iop_fdivA (Prim2.ofB prim_fdiv) n1 n2 n3 n4 q
theorem trExp_ok (hr : Snd fe L rec) (k : TOk fe T X c L) (tk : Takes X Wx) (h : trExp T rec e = some s) : PS X (.Expr e pos) (tS c Wx (evS sub fe s)) := by
  unfold trExp at h
  split at h
  · rename_i o name apos args cpos
    unfold trApp at h
    split at h
    · rename_i x p0 e
      obtain ⟨hg, hh⟩ := gd_some h
      clear h
      simp only [Bool.and_eq_true, beq_iff_eq] at hg
      obtain ⟨⟨rfl, hl⟩, hs⟩ := hg
      obtain ⟨i, h1, h⟩ := ob hh
      obtain ⟨e', h2, h⟩ := ob h
      cases h
      obtain ⟨n1, n2, n3, n4⟩ := k.slot h1
      have ev : evS sub fe (.app i e') = appM i (evE fe e') := by
        funext ρ
        simp only [evS]
        rfl
      rw [ev]
      exact ps_rapp n1 n2 n3 n4 k.K (hr T X c Wx _ _ k tk h2).1 (by simpa using hl) (star_eq hs)
    · cases h
  · obtain ⟨hc, h⟩ := gd_some h
    obtain ⟨e', h1, h⟩ := ob h
    cases h
    have ev : evS sub fe (.exp e') = fun ρ => bindE (evE fe e' ρ) ρ fun _ => retS (.nx ρ) := by
      funext ρ
      simp only [evS]
    rw [ev]
    exact ps_rexp (hr T X c Wx _ _ k tk h1).1 (swaps_of hc)
theorem trL_len {f : Expr → Option E} : ∀ {es : List Expr} {es' : List E}, trL f es = some es' → es'.length = es.length
  | [], _, h => by cases h; rfl
  | e :: r, _, h => by
    obtain ⟨a, h1, h⟩ := ob h
    obtain ⟨as, h2, h⟩ := ob h
    cases h
    simp [trL_len h2]
theorem trRaise_ok (hr : Snd fe L rec) (k : TOk fe T X c L) (tk : Takes X Wx) (h : trRaise T rec e = some s) : PS X (.Raise (some e) none pos) (tS c Wx (evS sub fe s)) := by
  unfold trRaise at h
  split at h
  · rename_i x p args cpos
    obtain ⟨hg, h⟩ := gd_some h
    simp only [Bool.and_eq_true] at hg
    obtain ⟨⟨n, m⟩, h1, hh⟩ := ob h
    clear h
    cases m with
    | zero =>
      obtain ⟨hl, h⟩ := gd_some hh
      cases h
      have cs : ∃ m j p2, args = [.Constant (.str m) j p2] := by
        unfold constStr at hl
        split at hl
        · exact ⟨_, _, _, rfl⟩
        · cases hl
      obtain ⟨m, j, p2, rfl⟩ := cs
      obtain ⟨C, T1, T2⟩ := k.G.exp x n h1 X rfl rfl rfl rfl rfl (k.gl hg.1.2).1 (k.gl hg.1.2).2 m j p p2 cpos
      have ev : evS sub fe (.rais n []) = fun ρ => bindE (ret []) ρ fun xs => if xs.length = 0 then retS (.er ⟨n, xs⟩ ρ) else stuckS := by
        funext ρ
        simp only [evS, evL, List.length_nil]
      rw [ev]
      refine ps_rraise (m := 0) (fs := []) (k.calm hg.1.1).1 tk T1 rfl fun pins s σ H Q I q => T2 pins s σ H Q I ?_
      obtain ⟨W, ρ, s', r, a⟩ := q
      obtain ⟨_, z⟩ := a [] W H (Grow.refl _ _) r.wd r.ds DenL.nil
      rcases z with ⟨_, z⟩ | ⟨z, _⟩
      · exact z
      · exact (z rfl).elim
    | succ m =>
      obtain ⟨hl, h⟩ := gd_some hh
      obtain ⟨es, h2, h⟩ := ob h
      cases h
      have hl : args.length = m + 1 := by simpa using hl
      obtain ⟨C, fs, T1, T2, T3⟩ := k.G.exs x n m h1 X c rfl rfl rfl rfl rfl k.K.symm rfl (k.calm hg.1.1).1 (k.calm hg.1.1).2 (k.gl hg.1.2).1 (k.gl hg.1.2).2 Wx args _ p cpos hg.2 hl (trL_ok hr k tk h2 hg.2)
      have l2 : es.length = m + 1 := by
        rw [← hl]
        exact trL_len h2
      have ev : evS sub fe (.rais n es) = fun ρ => bindE (evL fe es ρ) ρ fun xs => if xs.length = m + 1 then retS (.er ⟨n, xs⟩ ρ) else stuckS := by
        funext ρ
        simp only [evS, l2]
      rw [ev]
      exact ps_rraise (k.calm hg.1.1).1 tk T1 T2 T3
  · cases h

/-! ### several names -/
theorem swapped_none {ts vs : List Expr} {k k2 : Nat} {p p2 : Pos} {env : Env} (hs : vs.all notStar = true) (h : (!(ts.length == 2 || ts.length == 3) || (vs.length != ts.length) || vs.all (foldedForSure 8)) = true) :
    swappedStores [.Tuple ts k p] (.Tuple vs k2 p2) env = pure none := by
  unfold swappedStores
  simp only
  split
  · rfl
  · rename_i h1
    split
    · rfl
    · split
      · rfl
      · split
        · rfl
        · rename_i h4
          exfalso
          simp only [Bool.or_eq_true] at h
          rcases h with (h | h) | h
          · exact h1 (by simp [h])
          · exact h1 (by simp [h])
          · exact h4 h

theorem swapped_other {ts : List Expr} {k : Nat} {p : Pos} {env : Env} (h : (match e with | .Tuple .. => False | _ => True)) : swappedStores [.Tuple ts k p] e env = pure none := by
  cases e <;> first | rfl | exact h.elim
theorem swapped_two {x y : Str} {a b : Expr} {px py p p2 : Pos} {k k2 : Nat} {env : Env} (hb : env.blockKind = .function) (ha : notStar a = true) (hb' : notStar b = true) (h1 : env.kindOf x = some .local) (h2 : env.kindOf y = some .local) (hl : (py.line == px.line) = true) (hxy : (x == y) = false)
    (hf : (foldedForSure 8 a && foldedForSure 8 b) = false) (hc : (constantsAlone 8 a && constantsAlone 8 b) = false) :
    swappedStores [.Tuple [.Name x px, .Name y py] k p] (.Tuple [a, b] k2 p2) env = pure (some [x, y]) := by
  have st : ∀ {e : Expr}, notStar e = true → (match e with | .Starred .. => true | _ => false) = false := fun {e} h => by cases e <;> first | rfl | cases h
  have hyx : (y == x) = false := by
    rw [beq_eq_false_iff_ne] at hxy ⊢
    exact Ne.symm hxy
  unfold swappedStores
  simp only [List.length_cons, List.length_nil, hb]
  simp [h1, h2, hl, hf, hc, hxy, hyx, List.eraseDups, List.eraseDupsBy, Expr.pos, List.filterMap]
  rw [if_neg]
  · simp [List.eraseDupsBy.loop, hxy, hyx]
  · rintro (z | z)
    · cases a <;> first | (cases ha; done) | cases z
    · cases b <;> first | (cases hb'; done) | cases z
theorem swapped_three {x y z : Str} {a b d : Expr} {px py pz p p2 : Pos} {k k2 : Nat} {env : Env} (hb : env.blockKind = .function) (ha : notStar a = true) (hb' : notStar b = true) (hd : notStar d = true) (h1 : env.kindOf x = some .local) (h2 : env.kindOf y = some .local) (h3 : env.kindOf z = some .local)
    (hl : (py.line == px.line) = true) (hl2 : (pz.line == px.line) = true) (hxy : (x == y) = false) (hxz : (x == z) = false) (hyz : (y == z) = false)
    (hf : (foldedForSure 8 a && foldedForSure 8 b && foldedForSure 8 d) = false) (hc : (constantsAlone 8 a && constantsAlone 8 b && constantsAlone 8 d) = false) :
    swappedStores [.Tuple [.Name x px, .Name y py, .Name z pz] k p] (.Tuple [a, b, d] k2 p2) env = pure (some [x, y, z]) := by
  have flip : ∀ {x y : Str}, (x == y) = false → (y == x) = false := fun {x y} h => by
    rw [beq_eq_false_iff_ne] at h ⊢
    exact Ne.symm h
  have hyx := flip hxy
  have hzx := flip hxz
  have hzy := flip hyz
  rw [Bool.and_assoc] at hf hc
  unfold swappedStores
  simp only [List.length_cons, List.length_nil, hb]
  simp [h1, h2, h3, hl, hl2, hf, hc, hxy, hyx, hxz, hzx, hyz, hzy, List.eraseDups, List.eraseDupsBy, Expr.pos, List.filterMap]
  rw [if_neg]
  · simp [List.eraseDupsBy.loop, hxy, hyx, hxz, hzx, hyz, hzy]
  · rintro (z | z | z)
    · cases a <;> first | (cases ha; done) | cases z
    · cases b <;> first | (cases hb'; done) | cases z
    · cases d <;> first | (cases hd; done) | cases z

theorem trUnp_ok {ts : List Expr} {kt : Nat} {pt : Pos} (hr : Snd fe L rec) (k : TOk fe T X c L) (tk : Takes X Wx) (h : trUnp T rec ts e = some s) : PS X (.Assign [.Tuple ts kt pt] e pos) (tS c Wx (evS sub fe s)) := by
  obtain ⟨cm, h⟩ := gd_some h
  obtain ⟨is, h1, hh⟩ := ob h
  clear h
  have hcalm := (k.calm cm).1
  have ev : ∀ e', evS sub fe (.unp is e') = fun ρ => bindE (evE fe e' ρ) ρ fun d => liftS (setT (.tup is) d ρ) fun ρ' => retS (.nx ρ') := fun e' => by funext ρ; simp only [evS]
  split at hh
  · rename_i vs k2 p2
    obtain ⟨hg, h⟩ := gd_some hh
    clear hh
    simp only [Bool.and_eq_true, Bool.or_eq_true] at hg
    obtain ⟨hs, hg⟩ := hg
    obtain ⟨es, h2, h⟩ := ob h
    cases h
    have pa := trL_ok hr k tk h2 hs
    have sw : swapsWithSole [.Tuple ts kt pt] (.Tuple vs k2 p2) pos.line X.env = pure false := rfl
    have evT : evE fe (.tup es) = fun ρ => bind (evL fe es ρ) fun xs => if xs.length ≤ sizeLine then ret (.tup xs) else stuck := by funext ρ; simp only [evE]
    rw [ev]
    rcases hg with hp | hp
    · have cs : (∃ x px y py a b, ts = [.Name x px, .Name y py] ∧ vs = [a, b]) ∨ (∃ x px y py z pz a b d, ts = [.Name x px, .Name y py, .Name z pz] ∧ vs = [a, b, d]) := by
        unfold parOk at hp
        split at hp
        · exact .inl ⟨_, _, _, _, _, _, rfl, rfl⟩
        · exact .inr ⟨_, _, _, _, _, _, _, _, _, rfl, rfl⟩
        · cases hp
      rcases cs with ⟨x, px, y, py, a, b, rfl, rfl⟩ | ⟨x, px, y, py, z, pz, a, b, d, rfl, rfl⟩
      · unfold parOk at hp
        simp only [Bool.and_eq_true, Bool.not_eq_true'] at hp
        obtain ⟨⟨⟨⟨⟨q1, q2⟩, q3⟩, q4⟩, q5⟩, q6⟩ := hp
        simp only [List.all_cons, List.all_nil, Bool.and_true, Bool.and_eq_true] at hs
        obtain ⟨i, t1, h1⟩ := ob h1
        obtain ⟨is1, h1, g1⟩ := ob h1
        obtain ⟨j, t2, h1⟩ := ob h1
        obtain ⟨is2, h1, g2⟩ := ob h1
        cases h1; cases g2; cases g1
        obtain ⟨n1, n2, n3, n4⟩ := tgOk_ok k t1
        obtain ⟨m1, m2, m3, m4⟩ := tgOk_ok k t2
        have l1 : X.env.scope.names.lookup x = some .local := by rw [k.sc]; exact lc_ok q1
        have l2 : X.env.scope.names.lookup y = some .local := by rw [k.sc]; exact lc_ok q2
        have hij : i ≠ j := fun e => by
          subst e
          rw [n2] at m2
          cases m2
          simp at q4
        rw [evT]
        exact ps_rpar hcalm n1 n2 m2 hij l1 l2 pa (swapped_two k.block hs.1 hs.2 l1 l2 q3 q4 q5 q6) sw
      · unfold parOk at hp
        simp only [Bool.and_eq_true, Bool.not_eq_true'] at hp
        obtain ⟨⟨⟨⟨⟨⟨⟨⟨⟨q1, q2⟩, q3⟩, q4⟩, q5⟩, q6⟩, q7⟩, q8⟩, q9⟩, q10⟩ := hp
        simp only [List.all_cons, List.all_nil, Bool.and_true, Bool.and_eq_true] at hs
        obtain ⟨i, t1, h1⟩ := ob h1
        obtain ⟨is1, h1, g1⟩ := ob h1
        obtain ⟨j, t2, h1⟩ := ob h1
        obtain ⟨is2, h1, g2⟩ := ob h1
        obtain ⟨l, t3, h1⟩ := ob h1
        obtain ⟨is3, h1, g3⟩ := ob h1
        cases h1; cases g3; cases g2; cases g1
        obtain ⟨n1, n2, n3, n4⟩ := tgOk_ok k t1
        obtain ⟨m1, m2, m3, m4⟩ := tgOk_ok k t2
        obtain ⟨o1, o2, o3, o4⟩ := tgOk_ok k t3
        have l1 : X.env.scope.names.lookup x = some .local := by rw [k.sc]; exact lc_ok q1
        have l2 : X.env.scope.names.lookup y = some .local := by rw [k.sc]; exact lc_ok q2
        have l3 : X.env.scope.names.lookup z = some .local := by rw [k.sc]; exact lc_ok q3
        have ne : ∀ {i j : Nat} {x y : Str}, X.N[i]? = some x → X.N[j]? = some y → (x == y) = false → i ≠ j := fun {i j x y} a b h e => by
          subst e
          rw [a] at b
          cases b
          simp at h
        rw [evT]
        exact ps_rpar3 hcalm n1 n2 m2 o2 (ne n2 m2 q6) (ne n2 o2 q7) (ne m2 o2 q8) l1 l2 l3 pa (swapped_three k.block hs.1 hs.2.1 hs.2.2 l1 l2 l3 q4 q5 q6 q7 q8 q9 q10) sw
    · have g : PG X (.Tuple ts kt pt) (gT c.K (.tup is)) := by
        obtain ⟨g, l, f⟩ := trTs_ok k h1
        rw [← k.K]
        exact pg_seq hcalm g l f
      refine ps_runp g ?_ sw (swapped_none hs hp)
      rw [evT]
      exact pe_rtup pa
  · rename_i hn
    obtain ⟨e', h2, h⟩ := ob hh
    cases h
    rw [ev]
    have g : PG X (.Tuple ts kt pt) (gT c.K (.tup is)) := by
        obtain ⟨g, l, f⟩ := trTs_ok k h1
        rw [← k.K]
        exact pg_seq hcalm g l f
    exact ps_runp g (hr T X c Wx _ _ k tk h2).1 (by unfold swapsWithSole; cases e <;> rfl) (swapped_other (by split <;> first | exact (hn _ _ _ rfl) | trivial))

/-! ### try -/
theorem TOk.tr (k : TOk fe T X c L) (pn : List (Addr × Obj)) (xe : Value → Shared → Prop) : TOk fe { T with xf := [] } (X.tr pn xe) c L where
  G := k.G
  K := k.K
  N := k.N
  nd := k.nd
  sc := k.sc
  kind := k.kind
  fn := k.fn
  calm := k.calm
  un := k.un
  top := k.top
  xf := fun x f p h => by cases h
theorem TOk.suite (k : TOk fe T X c L) {c' : Cc} (hc : c'.K = c.K ∧ c'.XT = c.XT) (a : Addr) (pn : List (Addr × Obj)) (xf : List ((Str × Str) × Nat × Nat × Nat))
    (hx : ∀ x f p, xf.lookup (x, f) = some p → ∀ (Wx : WX) (p1 p2 : Pos), PE (X.suite a pn) (.Attribute (.Name x p1) f p2) (tG c' Wx (rD c') (evE fe (.xfld p.1 p.2.1 p.2.2)))) : TOk fe { T with calm := false, xf := xf } (X.suite a pn) c' L where
  G := by
    rw [hc.2]
    exact k.G
  K := k.K.trans hc.1.symm
  N := k.N
  nd := k.nd
  sc := k.sc
  kind := k.kind
  fn := k.fn
  calm := fun h => by cases h
  un := k.un
  top := k.top
  xf := hx
theorem takes_F {a : Addr} {pn : List (Addr × Obj)} : Takes (X.suite a pn) wF := fun u s' x => by
  obtain ⟨_, _, _, _, _, _, _, _, _, _, _, _, _, _, _, _, z⟩ := x
  exact z

theorem xfOf_mem {n : Str} {i k : Nat} {fs : List Str} {x f : Str} {p : Nat × Nat × Nat} (h : (xfOf n i k fs).lookup (x, f) = some p) : x = n ∧ f ∈ fs ∧ ∃ j, ixOf fs f = some j ∧ p = (i, k, j) := by
  have m := mem_of_lk h
  unfold xfOf at m
  rw [List.mem_filterMap] at m
  obtain ⟨g, hg, e⟩ := m
  cases q : ixOf fs g with
  | none => rw [q] at e; cases e
  | some j =>
    rw [q] at e
    cases e
    exact ⟨rfl, hg, j, q, rfl⟩
theorem zip_ix {fs : List Str} {vs : List V} {f : Str} {j : Nat} {v : V} (h : ixOf fs f = some j) (hv : vs[j]? = some v) : (fs.zip vs).lookup f = some v := by
  induction fs generalizing vs j with
  | nil => cases h
  | cons g r ih =>
    cases vs with
    | nil => cases hv
    | cons u us =>
      unfold ixOf at h
      rw [List.zip_cons_cons, List.lookup_cons]
      by_cases e : g = f
      · rw [if_pos e] at h
        cases h
        cases hv
        subst e
        simp
      · rw [if_neg e] at h
        cases q : ixOf r f with
        | none => rw [q] at h; cases h
        | some i =>
          rw [q] at h
          cases h
          have ne : (f == g) = false := by
            rw [beq_eq_false_iff_ne]
            exact fun z => e z.symm
          rw [ne]
          exact ih q hv
/-- e.f in an except suite -/
theorem xf_ok {n f : Str} {i k j : Nat} {C a : Addr} {fs : List Str} {oe : Obj} {cls : Value} {d : Option Addr} {pn : List (Addr × Obj)} {p1 p2 : Pos} (hK : X.K = c.K) (hT : c.XT k = some (C, fs)) (T : XfC X.K C) (hno : PySem.W.findIn X.K (.ref C) f = some none) (hj : ixOf fs f = some j)
    (hN : X.N[i]? = some n) (hv : Vis X.env.scope n) (hd1 : (n == ("__debug__" : Str)) = false) (hd2 : (n == ("__classdict__" : Str)) = false) (hz : Zc cls d oe) (hf : ∃ vs, oe.data = .fields vs) :
    PE (X.suite a ((a, oe) :: pn)) (.Attribute (.Name n p1) f p2) (tG (c.inX a cls d) Wx (rD (c.inX a cls d)) (evE fe (.xfld i k j))) :=
  (pe_xf (n := f) T hno hz hf (pe_var (X := X.suite a ((a, oe) :: pn)) (pos := p1) hN hv hd1 hd2)).imp fun σ H Q ⟨W, ρ, s, r, q⟩ => by
    have q : At (c.inX a cls d) Wx (rD (c.inX a cls d)) σ W H (evE fe (.xfld i k j) ρ s) Q := q
    simp only [evE] at q
    obtain ⟨v0, e, q9⟩ := q.lift_some
    clear q
    split at e
    · rename_i x hx
      split at e
      · rename_i hk
        obtain ⟨b, cls', dd, z1, ⟨y1, y2, y3⟩, C', fs', z2, z3, z4⟩ := r.exc i x hx
        subst y1 y2 y3 hk
        have z2 : c.XT x.cls = some (C', fs') := z2
        rw [hT] at z2
        cases z2
        refine ⟨.ref b, z1, rfl, z3, ?_⟩
        cases fs with
        | nil => cases hj
        | cons g gs =>
          obtain ⟨d1, vs, w1, w2, w3, w4⟩ := z4
          obtain ⟨v, w5, w6⟩ := w4.get e
          exact ⟨d1, _, v, w1, w2, zip_ix hj w5, q9 v W H (Grow.refl _ _) r.wd r.ds w6⟩
      · cases e
    · cases e
theorem trTry_ok {x : Str} {nm : Option Str} {body suite : List Stmt} {b₀ : Stmt} {np hp : Pos} (hr : SndS fe L sub recS) (k : TOk fe T X c L) (hsub : T.G.sub = sub) (hxc : T.calm = true → ∀ a cls d, ¬ c.xc a cls d) (tk : Takes X Wx)
    (h : trTry T recS body (b₀ :: suite) x nm = some s) : PS X (.Try body [.ExceptHandler (some (.Name x np)) nm (b₀ :: suite) hp] [] [] pos) (tS c Wx (evS sub fe s)) := by
  obtain ⟨hg, h⟩ := gd_some h
  simp only [Bool.and_eq_true] at hg
  obtain ⟨⟨cm, tp⟩, gx⟩ := hg
  obtain ⟨kk, h1, h⟩ := ob h
  obtain ⟨b, h2, h⟩ := ob h
  obtain ⟨cv, hcv, hcl⟩ := k.G.cls x kk h1
  have hnm : Names X x cv := ⟨(k.gl gx).1, (k.gl gx).2, hcv⟩
  obtain ⟨st, fr⟩ := k.top tp
  rw [hsub] at hcl
  have hb : ∀ (W : WX) (pn : List (Addr × Obj)) (xe : Value → Shared → Prop), Takes (X.tr pn xe) W → PassesOwn (model X.prog X.w) X.A X.env xe → PSs (X.tr pn xe) body (tS c W (evSs sub fe b)) := fun W pn xe tk' ps' =>
    trSs_ok hr (k.tr pn xe) hsub hxc tk' (fun _ => ps') h2
  have ev : ∀ cs i hh, evS sub fe (.try_ b cs i hh) = tryM sub cs i (evSs sub fe b) (evSs sub fe hh) := fun cs i hh => by
    funext ρ
    simp only [evS]
    rfl
  cases nm with
  | none =>
    obtain ⟨hh, h3, h⟩ := ob h
    cases h
    rw [ev]
    exact ps_rtry st fr hnm tk hcl hb fun a oe cls d pn hz hf => trSs_ok hr (k.suite ⟨rfl, rfl⟩ a _ [] fun x f p z => by cases z) hsub (fun z => by cases z) takes_F (fun z => by cases z) h3
  | some n =>
    obtain ⟨hl, h⟩ := gd_some h
    rw [Bool.and_eq_true] at hl
    obtain ⟨hl, hd⟩ := hl
    obtain ⟨i, h3, h⟩ := ob h
    obtain ⟨hh, h4, h⟩ := ob h
    cases h
    rw [ev]
    have hN : X.N[i]? = some n := by rw [k.N]; exact ixOf_ok h3
    have hln : X.env.scope.names.lookup n = some .local := by rw [k.sc]; exact lc_ok hl
    refine ps_rtryas st fr (by rw [k.N]; exact k.nd) hN hln hnm tk (hxc cm) hcl hb fun a oe cls d pn hz hf => trSs_ok hr (c := c.inX a cls d) (k.suite (c' := c.inX a cls d) ⟨rfl, rfl⟩ a _ _ ?_) hsub (fun z => by cases z) takes_F (fun z => by cases z) h4
    intro x f p hx Wx' p1 p2
    obtain ⟨e1, hm, j, hj, e2⟩ := xfOf_mem hx
    subst e1 e2
    cases q : T.G.flds.lookup kk with
    | none => rw [q] at hm; cases hm
    | some fs =>
      rw [q] at hm hj
      obtain ⟨C, t1, t2, t3⟩ := k.G.flds kk fs q
      exact xf_ok k.K t1 t2 (t3 f hm) hj hN (.inl hln) (dbg_ok hd).1 (dbg_ok hd).2 hz hf

theorem stmtStep_ok (hr : Snd fe L rec) (hs : SndS fe L sub recS) : SndS fe L sub (stmtStep rec recS) := by
  intro T X c Wx st s k hsub hxc tk ps h
  unfold stmtStep at h
  split at h
  · exact trSet_ok hr k tk h
  · exact trUnp_ok hr k tk h
  · exact trPut_ok hr k tk h
  · exact trAug_ok hr k tk h
  · cases h
    exact ps_rretN.imp fun En σ H q => by
      have e : evS sub fe (.ret (.c .non)) = fun ρ => bindE (ret .non) ρ fun d => retS (.rt d) := by funext ρ; simp only [evS, evE]
      rwa [e] at q
  · obtain ⟨e', h1, h⟩ := ob h
    cases h
    exact (ps_rret (hr T X c Wx _ _ k tk h1).1).imp fun En σ H q => by
      have e : evS sub fe (.ret e') = fun ρ => bindE (evE fe e' ρ) ρ fun d => retS (.rt d) := by funext ρ; simp only [evS]
      rwa [e] at q
  · obtain ⟨c', h1, h⟩ := ob h
    obtain ⟨a', h2, h⟩ := ob h
    obtain ⟨b', h3, h⟩ := ob h
    cases h
    exact (ps_rif (hr T X c Wx _ _ k tk h1).2 (trSs_ok hs k hsub hxc tk ps h2) (trSs_ok hs k hsub hxc tk ps h3)).imp fun En σ H q => by
      have e : evS sub fe (.ifs c' a' b') = fun ρ => bindE (bind (evE fe c' ρ) toB) ρ fun k => if k = true then evSs sub fe a' ρ else evSs sub fe b' ρ := by funext ρ; simp only [evS]
      rwa [e] at q
  · obtain ⟨cm, h⟩ := gd_some h
    obtain ⟨c', h1, h⟩ := ob h
    obtain ⟨b', h2, h⟩ := ob h
    cases h
    exact (ps_rwhl (ps cm) (hr T X c Wx _ _ k tk h1).2 (trSs_ok hs k hsub hxc tk ps h2)).imp fun En σ H q => by
      have e : evS sub fe (.whl c' b') = fun ρ => whileM (fun ρ => bind (evE fe c' ρ) toB) (evSs sub fe b') ρ := by funext ρ; simp only [evS]
      rwa [e] at q
  · obtain ⟨cm, h⟩ := gd_some h
    rw [Bool.and_eq_true] at cm
    obtain ⟨it', h1, h⟩ := ob h
    obtain ⟨t, h2, h⟩ := ob h
    obtain ⟨b', h3, h⟩ := ob h
    cases h
    exact (ps_rfor (ps cm.1) (k.calm cm.1).1 (trIt_ok hr k tk h1) (trT_ok k h2) (trSs_ok hs k hsub hxc tk ps h3) (folded_of cm.2)).imp fun En σ H q => by
      have e : evS sub fe (.for_ t it' b') = fun ρ => bindE (bind (evE fe it' ρ) fun x => lift (items x)) ρ fun xs => forM t (evSs sub fe b') xs ρ := by funext ρ; simp only [evS]
      rwa [e] at q
  · exact trExp_ok hr k tk h
  · exact trRaise_ok hr k tk h
  · exact trTry_ok hs k hsub hxc tk h
  · cases h
    exact ps_rpass.imp fun En σ H q => by
      have e : evS sub fe .pass = fun ρ => retS (.nx ρ) := by funext ρ; simp only [evS]
      rwa [e] at q
  · cases h
    exact ps_rbrk.imp fun En σ H q => by
      have e : evS sub fe .brk = fun ρ => retS (.bk ρ) := by funext ρ; simp only [evS]
      rwa [e] at q
  · cases h
    exact ps_rcnt.imp fun En σ H q => by
      have e : evS sub fe .cnt = fun ρ => retS (.ct ρ) := by funext ρ; simp only [evS]
      rwa [e] at q
  · cases h
theorem trS_ok (n : Nat) : ∀ m, SndS fe L sub (trS n m)
  | 0 => fun T X c Wx st s k _ _ tk ps h => by cases h
  | m + 1 => stmtStep_ok (tr_ok n) (trS_ok n m)
end
end PV

set_option Elab.async false
set_option linter.all false
set_option maxRecDepth 100000
set_option maxHeartbeats 1000000
/-! PV15: defs. -/
namespace PV
open PySem PySem.Spec PyProof.Rows L2

/-! ### names -/
mutual
def nsE : Nat → Expr → List Str
  | 0, _ => []
  | n + 1, e => match e with
    | .BoolOp _ vs _ => nsL n vs
    | .BinOp a _ b _ => nsE n a ++ nsE n b
    | .UnaryOp _ a _ => nsE n a
    | .IfExp a b c _ => nsE n a ++ nsE n b ++ nsE n c
    | .ListComp e gs sc _ => (sc.names.filterMap fun y => if locB (some y.2) && !(y.1 == (".0" : Str)) then some y.1 else none) ++ nsE n e ++ gs.flatMap fun g => nsE n g.iter ++ nsL n g.ifs
    | .Compare a _ bs _ => nsE n a ++ nsL n bs
    | .Call f as _ _ => nsE n f ++ nsL n as
    | .Attribute v _ _ => nsE n v
    | .Subscript v s _ => nsE n v ++ nsE n s
    | .List es _ => nsL n es
    | .Tuple es _ _ => nsL n es
    | .Slice a b c _ => (a.elim [] (nsE n)) ++ (b.elim [] (nsE n)) ++ (c.elim [] (nsE n))
    | _ => []
def nsL : Nat → List Expr → List Str
  | 0, _ => []
  | n + 1, es => es.flatMap (nsE n)
end
mutual
def nsS : Nat → Stmt → List Str
  | 0, _ => []
  | n + 1, st => match st with
    | .Return (some e) _ => nsE n e
    | .Assign ts e _ => nsL n ts ++ nsE n e
    | .AugAssign _ _ e _ => nsE n e
    | .For _ it b o _ => nsE n it ++ nsSs n b ++ nsSs n o
    | .While c b o _ => nsE n c ++ nsSs n b ++ nsSs n o
    | .If c b o _ => nsE n c ++ nsSs n b ++ nsSs n o
    | .Raise (some e) _ _ => nsE n e
    | .Try b hs o f _ => nsSs n b ++ (hs.flatMap fun h => match h with | .ExceptHandler _ _ b _ => nsSs n b) ++ nsSs n o ++ nsSs n f
    | .Expr e _ => nsE n e
    | _ => []
def nsSs : Nat → List Stmt → List Str
  | 0, _ => []
  | n + 1, sts => sts.flatMap (nsS n)
end
mutual
/-- names of lists that are written -/
def wrS : Nat → Stmt → List Str
  | 0, _ => []
  | n + 1, st => match st with
    | .Assign [.Subscript (.Name x _) _ _] _ _ => [x]
    | .For _ _ b o _ => wrSs n b ++ wrSs n o
    | .While _ b o _ => wrSs n b ++ wrSs n o
    | .If _ b o _ => wrSs n b ++ wrSs n o
    | .Try b hs o f _ => wrSs n b ++ (hs.flatMap fun h => match h with | .ExceptHandler _ _ b _ => wrSs n b) ++ wrSs n o ++ wrSs n f
    | .Expr (.Call (.Attribute (.Name x _) name _) _ _ _) _ => if name = ("append" : Str) then [x] else []
    | _ => []
def wrSs : Nat → List Stmt → List Str
  | 0, _ => []
  | n + 1, sts => sts.flatMap (wrS n)
end
def dedup : List Str → List Str → List Str
  | _, [] => []
  | seen, x :: r => if seen.contains x then dedup seen r else x :: dedup (x :: seen) r
structure FD where
  name : Str
  args : Arguments
  body : List Stmt
  scope : Scope
def fdOf : Stmt → Option FD
  | .FunctionDef name args body _ _ _ scope _ _ _ => some ⟨name, args, body, scope⟩
  | _ => none
def FD.ps (f : FD) : List Str := f.args.args.map (·.arg)
def FD.N (f : FD) : List Str := f.ps ++ dedup f.ps ((f.scope.names.filterMap fun y => if locB (some y.2) then some y.1 else none) ++ nsSs 60 f.body)
def FD.own (f : FD) : List Nat := (dedup [] (wrSs 60 f.body)).filterMap (ixOf f.N)
def FD.T (f : FD) (G : GX) : TX := { G := G, N := f.N, sc := f.scope, fn := fun _ => true, own := f.own, calm := true, top := true, xf := [] }
def FD.tr (f : FD) (G : GX) : Option Fn := (trSs (f.T G) (trS 40 40 (f.T G)) f.body).bind fun b => some { np := f.ps.length, nl := f.N.length, body := b }
end PV

set_option Elab.async false
set_option linter.all false
set_option maxRecDepth 100000
set_option maxHeartbeats 1000000
/-! PV16: a def keeps the evaluator's promise. -/
namespace PV
open PySem PySem.Spec PyProof.Rows L2

section
variable {P : Program} {w : World} {K : PySem.W.Frag} {mg : Str → Option Value} {base : Heap} {XT : Nat → Option (Addr × List Str)} {G : GX} {fe : FE} {L : Nat}
theorem start_rep {W : Wd} {H : Hp} {ds : List D} {vs : List V} {s : DS} {n m : Nat} (hn : ds.length = n) (w : WOk W H) (d : DsR K W H s) (l : DenL K W H ds vs) (N : List Str) (hm : N.length = m) :
    Rep ⟨K, XT, W, H, fun _ _ _ => False⟩ W (L2.start N vs) (ds.map Slot.v ++ List.replicate (m - n) .u) H s where
  len := by
    unfold L2.start
    simp [l.length, hn, hm]
  val := fun i x e => by
    by_cases hi : i < ds.length
    · rw [List.getElem?_append_left (by simpa using hi), List.getElem?_map] at e
      cases q : ds[i]? with
      | none => rw [q] at e; cases e
      | some y =>
        rw [q] at e
        cases e
        obtain ⟨v, e1, e2⟩ := l.get q
        refine ⟨v, ?_, e2⟩
        unfold L2.start
        rw [List.getElem?_append_left (by rw [List.length_map, l.length]; exact hi), List.getElem?_map, e1]
        rfl
    · rw [List.getElem?_append_right (by simpa using hi), List.getElem?_replicate] at e
      split at e <;> cases e
  own := fun i xs e => by
    by_cases hi : i < ds.length
    · rw [List.getElem?_append_left (by simpa using hi), List.getElem?_map] at e
      cases q : ds[i]? with
      | none => rw [q] at e; cases e
      | some y => rw [q] at e; cases e
    · rw [List.getElem?_append_right (by simpa using hi), List.getElem?_replicate] at e
      split at e <;> cases e
  inj := fun i j xs ys v e => by
    by_cases hi : i < ds.length
    · rw [List.getElem?_append_left (by simpa using hi), List.getElem?_map] at e
      cases q : ds[i]? with
      | none => rw [q] at e; cases e
      | some y => rw [q] at e; cases e
    · rw [List.getElem?_append_right (by simpa using hi), List.getElem?_replicate] at e
      split at e <;> cases e
  exc := fun i x e => by
    by_cases hi : i < ds.length
    · rw [List.getElem?_append_left (by simpa using hi), List.getElem?_map] at e
      cases q : ds[i]? with
      | none => rw [q] at e; cases e
      | some y => rw [q] at e; cases e
    · rw [List.getElem?_append_right (by simpa using hi), List.getElem?_replicate] at e
      split at e <;> cases e
  ds := d
  wd := w
  base := Grow.refl _ _
/-- what is told of a def in the written part -/
abbrev FD.Fun (f : FD) (K : PySem.W.Frag) (dvs : List V) (fa : Addr) (fd : FuncData) : Prop := FunD K f.name f.name f.args f.body f.scope dvs [] fa fd
theorem src_ok {f : FD} {fn : Fn} {fns : Nat → Option Df} {num d : Nat} {dvs : List V} {fa : Addr} {fd : FuncData} (F : f.Fun K dvs fa fd) (S : FnScope f.N f.ps f.scope) (ht : f.tr G = some fn) (hf : fns num = some (.src fn)) (hG : GOk G (evFn G.sub fns d) XT P w K mg base L) :
    FnOk P w K mg base (L2.CX P w) (L + 1) fa fd f.ps (spF K XT f.ps.length (evFn G.sub fns (d + 1) num)) := by
  obtain ⟨b, hb, hfn⟩ := ob ht
  injection hfn with hfn
  refine F.ok S (fun vs H Q E h => spF_len h) fun cdv A outer s H vs Q E hr h => ?_
  obtain ⟨W, ds, s0, hl, hw, hd, hv, hm⟩ := h
  let c : Cc := ⟨K, XT, W, H, fun _ _ _ => False⟩
  let X : Cx := cxOf (L2.CX P w) P w K mg base f.N f.name f.scope fa cdv A outer s H E
  have tk : Takes X (fun cls d _ H => E cls d H) := takes_of rfl rfl rfl rfl
  have ps : PassesOwn (model X.prog X.w) X.A X.env X.xe := passes_of rfl
  have k : TOk (evFn G.sub fns d) (f.T G) X c L := {
    G := hG
    K := rfl
    N := rfl
    nd := S.nd
    sc := rfl
    kind := S.kind
    fn := rfl
    calm := fun _ => ⟨rfl, hr⟩
    un := by have := hr.un; show (A.deeper (envOfC f.name f.scope s.heap.objs.size fa cdv)).units + 65 < cLine; omega
    top := fun _ => ⟨rfl, rfl⟩
    xf := fun x f p h => by cases h }
  refine ⟨tS c (fun cls d _ H => E cls d H) (evSs G.sub (evFn G.sub fns d) b), trSs_ok (trS_ok 40 40) k rfl (fun _ _ _ _ z => z) tk (fun _ => ps) hb, ?_⟩
  refine ⟨W, _, s0, start_rep hl hw hd hv f.N rfl, ?_⟩
  have e : evFn G.sub fns (d + 1) num ds s0 = runFl (evSs G.sub (evFn G.sub fns d) b (ds.map Slot.v ++ List.replicate (f.N.length - f.ps.length) .u)) s0 := by
    subst hfn
    show (match fns num with
      | some (.src f) => if ds.length = f.np then runFl (evSs G.sub (evFn G.sub fns d) f.body (PV.start f ds)) else stuck
      | some (.prim p) => evPrim p ds
      | none => stuck) s0 = _
    rw [hf]
    dsimp only
    rw [if_pos hl]
    rfl
  rw [e] at hm
  unfold runFl at hm
  cases q : evSs G.sub (evFn G.sub fns d) b (ds.map Slot.v ++ List.replicate (f.N.length - f.ps.length) .u) s0 with
  | none => rw [q] at hm; exact hm.elim
  | some z =>
    rw [q] at hm
    obtain ⟨fl, s1⟩ := z
    cases fl with
    | rt d => exact fun v W' H' g w ds hv => hm v W' H' g w ds hv
    | nx ρ' => exact fun σ' W' H' g r => hm .non W' H' r.base r.wd r.ds Den.mkNon
    | er e ρ' => exact fun cls dd σ' W' H' g r hx => hm cls dd W' H' r.base r.wd r.ds hx
    | bk ρ' => exact hm.elim
    | ct ρ' => exact hm.elim
theorem fn_len {sub : Sub} {fns : Nat → Option Df} {d num : Nat} {fn : Fn} (hf : fns num = some (.src fn)) : ∀ ds s, (evFn sub fns d num ds s).isSome → ds.length = fn.np := fun ds s h => by
  cases d with
  | zero => cases h
  | succ d =>
    have h : ((match fns num with
      | some (.src f) => if ds.length = f.np then runFl (evSs sub (evFn sub fns d) f.body (PV.start f ds)) else stuck
      | some (.prim p) => evPrim p ds
      | none => stuck) s).isSome := h
    rw [hf] at h
    dsimp only at h
    split at h
    · assumption
    · cases h
/-- no call -/
theorem stuck_ok {f : FD} {dvs : List V} {fa : Addr} {fd : FuncData} {np : Nat} (F : f.Fun K dvs fa fd) (S : FnScope f.N f.ps f.scope) (hn : np = f.ps.length) : FnOk P w K mg base (L2.CX P w) 1 fa fd f.ps (spF K XT np fun _ => stuck) := by
  refine F.ok S (fun vs H Q E h => (spF_len h).trans hn) fun cdv A outer s H vs Q E hr h => ?_
  obtain ⟨W, ds, s0, _, _, _, _, hm⟩ := h
  exact hm.elim
end
end PV

set_option Elab.async false
set_option linter.all false
set_option maxRecDepth 100000
set_option maxHeartbeats 1000000
/-! PV17: the law's draws. -/
namespace PV
open PySem PySem.Spec PyProof.Rows L2

/-! ### their text, by its first line -/
def drawsB (l : Nat) : List PySem.Stmt := [ (PySem.Stmt.Return (value := (some (PySem.Expr.List (elts := [ (PySem.Expr.Call (func := (PySem.Expr.Name "list" ⟨l + 1, 12, l + 1, 16⟩)) (args := [(PySem.Expr.Name "script" ⟨l + 1, 17, l + 1, 23⟩)]) (keywords := []) (pos := ⟨l + 1, 12, l + 1, 24⟩)), (PySem.Expr.Constant (PySem.Const.int 0) 0 ⟨l + 1, 26, l + 1, 27⟩), (PySem.Expr.Constant (PySem.Const.int 0) 0 ⟨l + 1, 29, l + 1, 30⟩), (PySem.Expr.Constant (PySem.Const.int 1) 0 ⟨l + 1, 32, l + 1, 33⟩)]) (pos := ⟨l + 1, 11, l + 1, 34⟩)))) (pos := ⟨l + 1, 4, l + 1, 34⟩))]
def drawsS : PySem.Scope := { kind := PySem.ScopeKind.function, names := [ (PySem.Str.ofString "script", PySem.NameKind.local), (PySem.Str.ofString "list", PySem.NameKind.globalImplicit)], isGenerator := false, isCoroutine := false, more := [] : PySem.Scope }
def drawsA (l : Nat) : PySem.Arguments := { posonlyargs := [], args := [{ arg := "script", annotation := none, pos := ⟨l + 0, 15, l + 0, 21⟩ : PySem.Arg }], vararg := none, kwonlyargs := [], kw_defaults := [], kwarg := none, defaults := [] : PySem.Arguments }

def drawB (l : Nat) : List PySem.Stmt := [ (PySem.Stmt.If (test := (PySem.Expr.BoolOp (op := PySem.BoolOp.And) (values := [ (PySem.Expr.Compare (left := (PySem.Expr.Subscript (value := (PySem.Expr.Name "draws" ⟨l + 1, 7, l + 1, 12⟩)) (slice := (PySem.Expr.Constant (PySem.Const.int 2) 0 ⟨l + 1, 13, l + 1, 14⟩)) (pos := ⟨l + 1, 7, l + 1, 15⟩))) (ops := [PySem.CmpOp.Eq]) (comparators := [(PySem.Expr.Constant (PySem.Const.int 0) 0 ⟨l + 1, 19, l + 1, 20⟩)]) (pos := ⟨l + 1, 7, l + 1, 20⟩)), (PySem.Expr.Compare (left := (PySem.Expr.Subscript (value := (PySem.Expr.Name "draws" ⟨l + 1, 25, l + 1, 30⟩)) (slice := (PySem.Expr.Constant (PySem.Const.int 1) 0 ⟨l + 1, 31, l + 1, 32⟩)) (pos := ⟨l + 1, 25, l + 1, 33⟩))) (ops := [PySem.CmpOp.Lt]) (comparators := [ (PySem.Expr.Call (func := (PySem.Expr.Name "len" ⟨l + 1, 36, l + 1, 39⟩)) (args := [ (PySem.Expr.Subscript (value := (PySem.Expr.Name "draws" ⟨l + 1, 40, l + 1, 45⟩)) (slice := (PySem.Expr.Constant (PySem.Const.int 0) 0 ⟨l + 1, 46, l + 1, 47⟩)) (pos := ⟨l + 1, 40, l + 1, 48⟩))]) (keywords := []) (pos := ⟨l + 1, 36, l + 1, 49⟩))]) (pos := ⟨l + 1, 25, l + 1, 49⟩))]) (pos := ⟨l + 1, 7, l + 1, 49⟩))) (body := [ (PySem.Stmt.Assign (targets := [(PySem.Expr.Name "cell" ⟨l + 2, 8, l + 2, 12⟩)]) (value := (PySem.Expr.Subscript (value := (PySem.Expr.Subscript (value := (PySem.Expr.Name "draws" ⟨l + 2, 15, l + 2, 20⟩)) (slice := (PySem.Expr.Constant (PySem.Const.int 0) 0 ⟨l + 2, 21, l + 2, 22⟩)) (pos := ⟨l + 2, 15, l + 2, 23⟩))) (slice := (PySem.Expr.Subscript (value := (PySem.Expr.Name "draws" ⟨l + 2, 24, l + 2, 29⟩)) (slice := (PySem.Expr.Constant (PySem.Const.int 1) 0 ⟨l + 2, 30, l + 2, 31⟩)) (pos := ⟨l + 2, 24, l + 2, 32⟩))) (pos := ⟨l + 2, 15, l + 2, 33⟩))) (pos := ⟨l + 2, 8, l + 2, 33⟩)), (PySem.Stmt.Assign (targets := [ (PySem.Expr.Subscript (value := (PySem.Expr.Name "draws" ⟨l + 3, 8, l + 3, 13⟩)) (slice := (PySem.Expr.Constant (PySem.Const.int 1) 0 ⟨l + 3, 14, l + 3, 15⟩)) (pos := ⟨l + 3, 8, l + 3, 16⟩))]) (value := (PySem.Expr.BinOp (left := (PySem.Expr.Subscript (value := (PySem.Expr.Name "draws" ⟨l + 3, 19, l + 3, 24⟩)) (slice := (PySem.Expr.Constant (PySem.Const.int 1) 0 ⟨l + 3, 25, l + 3, 26⟩)) (pos := ⟨l + 3, 19, l + 3, 27⟩))) (op := PySem.Operator.Add) (right := (PySem.Expr.Constant (PySem.Const.int 1) 0 ⟨l + 3, 30, l + 3, 31⟩)) (pos := ⟨l + 3, 19, l + 3, 31⟩))) (pos := ⟨l + 3, 8, l + 3, 31⟩)), (PySem.Stmt.If (test := (PySem.Expr.Compare (left := (PySem.Expr.Name "cell" ⟨l + 4, 11, l + 4, 15⟩)) (ops := [PySem.CmpOp.GtE]) (comparators := [ (PySem.Expr.BinOp (left := (PySem.Expr.Constant (PySem.Const.int 10) 0 ⟨l + 4, 19, l + 4, 21⟩)) (op := PySem.Operator.Pow) (right := (PySem.Expr.Constant (PySem.Const.int 18) 0 ⟨l + 4, 25, l + 4, 27⟩)) (pos := ⟨l + 4, 19, l + 4, 27⟩))]) (pos := ⟨l + 4, 11, l + 4, 27⟩))) (body := [ (PySem.Stmt.Assign (targets := [ (PySem.Expr.Subscript (value := (PySem.Expr.Name "draws" ⟨l + 5, 12, l + 5, 17⟩)) (slice := (PySem.Expr.Constant (PySem.Const.int 2) 0 ⟨l + 5, 18, l + 5, 19⟩)) (pos := ⟨l + 5, 12, l + 5, 20⟩))]) (value := (PySem.Expr.Name "cell" ⟨l + 5, 23, l + 5, 27⟩)) (pos := ⟨l + 5, 12, l + 5, 27⟩))]) (orelse := []) (pos := ⟨l + 4, 8, l + 5, 27⟩)), (PySem.Stmt.Assign (targets := [ (PySem.Expr.Subscript (value := (PySem.Expr.Name "draws" ⟨l + 6, 8, l + 6, 13⟩)) (slice := (PySem.Expr.Constant (PySem.Const.int 3) 0 ⟨l + 6, 14, l + 6, 15⟩)) (pos := ⟨l + 6, 8, l + 6, 16⟩))]) (value := (PySem.Expr.BinOp (left := (PySem.Expr.Call (func := (PySem.Expr.Name "int" ⟨l + 6, 19, l + 6, 22⟩)) (args := [ (PySem.Expr.BinOp (left := (PySem.Expr.BinOp (left := (PySem.Expr.BinOp (left := (PySem.Expr.Subscript (value := (PySem.Expr.Name "draws" ⟨l + 6, 23, l + 6, 28⟩)) (slice := (PySem.Expr.Constant (PySem.Const.int 3) 0 ⟨l + 6, 29, l + 6, 30⟩)) (pos := ⟨l + 6, 23, l + 6, 31⟩))) (op := PySem.Operator.Mult) (right := (PySem.Expr.Constant (PySem.Const.int 48271) 0 ⟨l + 6, 34, l + 6, 39⟩)) (pos := ⟨l + 6, 23, l + 6, 39⟩))) (op := PySem.Operator.Add) (right := (PySem.Expr.Name "cell" ⟨l + 6, 42, l + 6, 46⟩)) (pos := ⟨l + 6, 23, l + 6, 46⟩))) (op := PySem.Operator.Add) (right := (PySem.Expr.Constant (PySem.Const.int 13) 0 ⟨l + 6, 49, l + 6, 51⟩)) (pos := ⟨l + 6, 23, l + 6, 51⟩))]) (keywords := []) (pos := ⟨l + 6, 19, l + 6, 52⟩))) (op := PySem.Operator.Mod) (right := (PySem.Expr.Constant (PySem.Const.int 2147483647) 0 ⟨l + 6, 55, l + 6, 65⟩)) (pos := ⟨l + 6, 19, l + 6, 65⟩))) (pos := ⟨l + 6, 8, l + 6, 65⟩))]) (orelse := []) (pos := ⟨l + 1, 4, l + 6, 65⟩)), (PySem.Stmt.If (test := (PySem.Expr.Compare (left := (PySem.Expr.Subscript (value := (PySem.Expr.Name "draws" ⟨l + 7, 7, l + 7, 12⟩)) (slice := (PySem.Expr.Constant (PySem.Const.int 2) 0 ⟨l + 7, 13, l + 7, 14⟩)) (pos := ⟨l + 7, 7, l + 7, 15⟩))) (ops := [PySem.CmpOp.Gt]) (comparators := [(PySem.Expr.Constant (PySem.Const.int 0) 0 ⟨l + 7, 18, l + 7, 19⟩)]) (pos := ⟨l + 7, 7, l + 7, 19⟩))) (body := [ (PySem.Stmt.Assign (targets := [(PySem.Expr.Name "value" ⟨l + 8, 8, l + 8, 13⟩)]) (value := (PySem.Expr.BinOp (left := (PySem.Expr.Call (func := (PySem.Expr.Name "int" ⟨l + 8, 16, l + 8, 19⟩)) (args := [ (PySem.Expr.Subscript (value := (PySem.Expr.Name "draws" ⟨l + 8, 20, l + 8, 25⟩)) (slice := (PySem.Expr.Constant (PySem.Const.int 2) 0 ⟨l + 8, 26, l + 8, 27⟩)) (pos := ⟨l + 8, 20, l + 8, 28⟩))]) (keywords := []) (pos := ⟨l + 8, 16, l + 8, 29⟩))) (op := PySem.Operator.Mod) (right := (PySem.Expr.Name "limit" ⟨l + 8, 32, l + 8, 37⟩)) (pos := ⟨l + 8, 16, l + 8, 37⟩))) (pos := ⟨l + 8, 8, l + 8, 37⟩)), (PySem.Stmt.Assign (targets := [ (PySem.Expr.Subscript (value := (PySem.Expr.Name "draws" ⟨l + 9, 8, l + 9, 13⟩)) (slice := (PySem.Expr.Constant (PySem.Const.int 2) 0 ⟨l + 9, 14, l + 9, 15⟩)) (pos := ⟨l + 9, 8, l + 9, 16⟩))]) (value := (PySem.Expr.BinOp (left := (PySem.Expr.Subscript (value := (PySem.Expr.Name "draws" ⟨l + 9, 19, l + 9, 24⟩)) (slice := (PySem.Expr.Constant (PySem.Const.int 2) 0 ⟨l + 9, 25, l + 9, 26⟩)) (pos := ⟨l + 9, 19, l + 9, 27⟩))) (op := PySem.Operator.FloorDiv) (right := (PySem.Expr.Name "limit" ⟨l + 9, 31, l + 9, 36⟩)) (pos := ⟨l + 9, 19, l + 9, 36⟩))) (pos := ⟨l + 9, 8, l + 9, 36⟩)), (PySem.Stmt.Return (some (PySem.Expr.Name "value" ⟨l + 10, 15, l + 10, 20⟩)) ⟨l + 10, 8, l + 10, 20⟩)]) (orelse := []) (pos := ⟨l + 7, 4, l + 10, 20⟩)), (PySem.Stmt.Assign (targets := [ (PySem.Expr.Subscript (value := (PySem.Expr.Name "draws" ⟨l + 11, 4, l + 11, 9⟩)) (slice := (PySem.Expr.Constant (PySem.Const.int 3) 0 ⟨l + 11, 10, l + 11, 11⟩)) (pos := ⟨l + 11, 4, l + 11, 12⟩))]) (value := (PySem.Expr.BinOp (left := (PySem.Expr.Call (func := (PySem.Expr.Name "int" ⟨l + 11, 15, l + 11, 18⟩)) (args := [ (PySem.Expr.BinOp (left := (PySem.Expr.BinOp (left := (PySem.Expr.Subscript (value := (PySem.Expr.Name "draws" ⟨l + 11, 19, l + 11, 24⟩)) (slice := (PySem.Expr.Constant (PySem.Const.int 3) 0 ⟨l + 11, 25, l + 11, 26⟩)) (pos := ⟨l + 11, 19, l + 11, 27⟩))) (op := PySem.Operator.Mult) (right := (PySem.Expr.Constant (PySem.Const.int 69621) 0 ⟨l + 11, 30, l + 11, 35⟩)) (pos := ⟨l + 11, 19, l + 11, 35⟩))) (op := PySem.Operator.Add) (right := (PySem.Expr.Constant (PySem.Const.int 7) 0 ⟨l + 11, 38, l + 11, 39⟩)) (pos := ⟨l + 11, 19, l + 11, 39⟩))]) (keywords := []) (pos := ⟨l + 11, 15, l + 11, 40⟩))) (op := PySem.Operator.Mod) (right := (PySem.Expr.Constant (PySem.Const.int 2147483629) 0 ⟨l + 11, 43, l + 11, 53⟩)) (pos := ⟨l + 11, 15, l + 11, 53⟩))) (pos := ⟨l + 11, 4, l + 11, 53⟩)), (PySem.Stmt.Return (value := (some (PySem.Expr.BinOp (left := (PySem.Expr.Call (func := (PySem.Expr.Name "int" ⟨l + 12, 11, l + 12, 14⟩)) (args := [ (PySem.Expr.BinOp (left := (PySem.Expr.Subscript (value := (PySem.Expr.Name "draws" ⟨l + 12, 15, l + 12, 20⟩)) (slice := (PySem.Expr.Constant (PySem.Const.int 3) 0 ⟨l + 12, 21, l + 12, 22⟩)) (pos := ⟨l + 12, 15, l + 12, 23⟩))) (op := PySem.Operator.FloorDiv) (right := (PySem.Expr.Constant (PySem.Const.int 11) 0 ⟨l + 12, 27, l + 12, 29⟩)) (pos := ⟨l + 12, 15, l + 12, 29⟩))]) (keywords := []) (pos := ⟨l + 12, 11, l + 12, 30⟩))) (op := PySem.Operator.Mod) (right := (PySem.Expr.Name "limit" ⟨l + 12, 33, l + 12, 38⟩)) (pos := ⟨l + 12, 11, l + 12, 38⟩)))) (pos := ⟨l + 12, 4, l + 12, 38⟩))]
def drawS : PySem.Scope := { kind := PySem.ScopeKind.function, names := [ (PySem.Str.ofString "draws", PySem.NameKind.local), (PySem.Str.ofString "limit", PySem.NameKind.local), (PySem.Str.ofString "cell", PySem.NameKind.local), (PySem.Str.ofString "value", PySem.NameKind.local), (PySem.Str.ofString "len", PySem.NameKind.globalImplicit), (PySem.Str.ofString "int", PySem.NameKind.globalImplicit)], isGenerator := false, isCoroutine := false, more := [] : PySem.Scope }
def drawA (l : Nat) : PySem.Arguments := { posonlyargs := [], args := [ { arg := "draws", annotation := none, pos := ⟨l + 0, 14, l + 0, 19⟩ : PySem.Arg }, { arg := "limit", annotation := none, pos := ⟨l + 0, 21, l + 0, 26⟩ : PySem.Arg }], vararg := none, kwonlyargs := [], kw_defaults := [], kwarg := none, defaults := [] : PySem.Arguments }

section
variable {P : Program} {w : World} {K : PySem.W.Frag} {mg : Str → Option Value} {base : Heap} {XT : Nat → Option (Addr × List Str)} {L : Nat}
theorem fs_draws : FnScope ["script"] ["script"] drawsS := ⟨rfl, rfl, rfl, by decide +kernel, rfl, by decide +kernel, by decide +kernel⟩
theorem fs_draw : FnScope ["draws", "limit", "cell", "value"] ["draws", "limit"] drawS := ⟨rfl, rfl, rfl, by decide +kernel, rfl, by decide +kernel, by decide +kernel⟩
theorem draws_ok {l : Nat} {x : Str} {fa : Addr} {fd : FuncData} (F : FunD K x x (drawsA l) (drawsB l) drawsS [] [] fa fd) (hl : mg "list" = none) :
    FnOk P w K mg base (L2.CX P w) (L + 1) fa fd ["script"] (spF K XT 1 (evPrim .draws)) := by
  refine F.ok fs_draws (fun vs H Q E h => spF_len h) fun cdv A outer s H vs Q E hr h => ?_
  obtain ⟨W, ds, s0, hle, hw, hd, hv, hm⟩ := h
  refine ⟨_, pss_one (ps_ret (pe_lst (pa_cons (pe_callTy call_list_of (by rfl) hl (by first | rfl | kernel_rfl) (pa_cons (pe_var (i := 0) (by rfl) (.inl (by rfl))) pa_nil)) (pa_cons pe_int (pa_cons pe_int (pa_cons pe_int pa_nil)))))), ?_⟩
  match ds, hle, hv, hm with
  | [d], _, hv, hm =>
    obtain ⟨v, r, rfl, hd1, hr1⟩ := hv
    cases hr1
    cases d with
    | scr ns =>
      obtain ⟨a, rfl, hs⟩ : ∃ a, v = .ref a ∧ ScrAt K H a ns := by unfold Den at hd1; exact hd1
      unfold evPrim at hm
      dsimp only at hm
      have hon : s0.on = false := by
        cases q : s0.on with
        | false => rfl
        | true => rw [q] at hm; exact hm.elim
      rw [hon] at hm
      have hA : W.A = none := by
        cases q : W.A with
        | none => rfl
        | some p =>
          unfold DsR at hd
          rw [q] at hd
          rw [hd.1] at hon
          cases hon
      refine ⟨.ref a, rfl, a, ns.map V.int, rfl, .inl hs.sq, fun l hl => ?_⟩
      refine ⟨by simp [sizeLine_eq], fun p hp => ?_⟩
      have hpl : p ≠ l := fun z => by subst z; rw [upd_same] at hp; cases hp
      have hHp : H p = none := by rwa [upd_ne hpl] at hp
      let W1 : Wd := W.add l
      let W2 : Wd := ⟨W1.I, some p⟩
      have g1 : Grow W H W1 (L2.upd H l (.lst (ns.map V.int))) := Grow.addI hl
      have w1 : WOk W1 (L2.upd H l (.lst (ns.map V.int))) := hw.addI hl
      have g2 : Grow W1 (L2.upd H l (.lst (ns.map V.int))) W2 (L2.upd (L2.upd H l (.lst (ns.map V.int))) p (.lst [.ref l, .int 0, .int 0, .int 1])) :=
        ⟨fun _ h => h, fun _ h => .inl h, fun b h => (by rw [show W1.A = none from hA] at h; cases h), fun b h => (by cases h; exact .inr hp), fun b o h _ => by rw [upd_ne (ne_of_none h hp)]; exact h, fun b o h => ⟨o, by rw [upd_ne (ne_of_none h hp)]; exact h⟩⟩
      have w2 : WOk W2 (L2.upd (L2.upd H l (.lst (ns.map V.int))) p (.lst [.ref l, .int 0, .int 0, .int 1])) := ⟨fun b h => by
        obtain ⟨o, e⟩ := w1.iS b h
        exact ⟨o, by rw [upd_ne (ne_of_none e hp)]; exact e⟩, fun b h => by
        cases h
        exact ⟨⟨_, upd_same⟩, fun z => by
          obtain ⟨o, e⟩ := w1.iS p z
          rw [hp] at e; cases e⟩⟩
      have dints : ∀ (W : Wd) (H : Hp) (ns : List Int), DenL K W H (ns.map D.int) (ns.map V.int) := fun W H ns => by
        induction ns with
        | nil => exact DenL.nil
        | cons n r ih => exact DenL.cons Den.mkInt ih
      exact hm (.ref p) W2 _ (g1.trans g2) w2 (show DsR K W2 _ _ from by
        unfold DsR
        exact ⟨rfl, .ref l, upd_same, Den.mkLst (W := W2) (.inr rfl) (by rw [upd_ne hpl.symm, upd_same]) (dints _ _ _)⟩) (by unfold Den; exact ⟨p, rfl, rfl⟩)
    | _ => exact hm.elim
end
section
variable {X : Cx}
theorem pv0 {x : Str} {i : Nat} {p : Pos} (hN : X.N[i]? = some x) (hv : Vis X.env.scope x) (hd : (x == ("__debug__" : Str)) = false := by decide +kernel) (hc : (x == ("__classdict__" : Str)) = false := by decide +kernel) : PE X (.Name x p) (tVar i) := pe_var hN hv hd hc
/-- draws[k] -/
def tDr (K : PySem.W.Frag) (k : Int) : TE := tOp (rIxL K) (tVar 0) (tC (.int k))
theorem pe_dr {x : Str} {k : Int} {j : Nat} {p1 p2 p3 : Pos} (hN : X.N[0]? = some x) (hv : Vis X.env.scope x) (hd : (x == ("__debug__" : Str)) = false := by decide +kernel) (hc : (x == ("__classdict__" : Str)) = false := by decide +kernel) : PE X (.Subscript (.Name x p1) (.Constant (.int k) j p2) p3) (tDr X.K k) :=
  pe_ix ix_list (pe_var hN hv hd hc) pe_int (plainIx_of rfl)
/-- draws[k] = e -/
theorem ps_dr {x : Str} {k : Int} {j : Nat} {p1 p2 p3 pos : Pos} {e : Expr} {te : TE} (hN : X.N[0]? = some x) (hv : Vis X.env.scope x) (he : PE X e te) (hs : swapsWithSole [.Subscript (.Name x p1) (.Constant (.int k) j p2) p3] e pos.line X.env = pure false := by rfl) (hw : swappedStores [.Subscript (.Name x p1) (.Constant (.int k) j p2) p3] e X.env = pure none := by rfl)
    (hd : (x == ("__debug__" : Str)) = false := by decide +kernel) (hc : (x == ("__classdict__" : Str)) = false := by decide +kernel) : PS X (.Assign [.Subscript (.Name x p1) (.Constant (.int k) j p2) p3] e pos) (tAsg te (gSub (tVar 0) (tC (.int k)) rSetL)) :=
  ps_asg he (pg_sub (pe_var hN hv hd hc) pe_int set_list (fun v => rfl)) hs hw
end

abbrev rdInt (e : TE) : TE := tCB rIntA (tCons e tNil)
def tD1 (K : PySem.W.Frag) : TS :=
    (tIfS
      (tAnd
        (tTest (tOp (rEqA K) (tDr K 2) (tC (V.int 0))))
        (tTest
          (tOp (rI0 fun i j => V.bl (decide (i < j))) (tDr K 1)
            (tCB (rLenA K) (tCons (tDr K 0) tNil)))))
      (tSeq
        (tAsg (tOp (rIxL K) (tDr K 0) (tDr K 1)) (gName 2))
        (tSeq
          (tAsg (tOp (rI0 fun i j => V.int (i + j)) (tDr K 1) (tC (V.int 1))) (gSub (tVar 0) (tC (V.int 1)) rSetL))
          (tSeq
            (tIfS
              (tTest
                (tOp (rI0 fun i j => V.bl (decide (j ≤ i))) (tVar 2)
                  (tOp (rI CPow fun i j => V.int (i ^ j.toNat)) (tC (V.int 10)) (tC (V.int 18)))))
              (tAsg (tVar 2) (gSub (tVar 0) (tC (V.int 2)) rSetL)) tNext)
            (tAsg
              (tOp (rI (fun x j => j ≠ 0) fun i j => V.int (i.fmod j))
                (tCB rIntA
                  (tCons
                    (tOp (rI0 fun i j => V.int (i + j))
                      (tOp (rI0 fun i j => V.int (i + j))
                        (tOp (rI CMulW fun i j => V.int (i * j)) (tDr K 3) (tC (V.int 48271))) (tVar 2))
                      (tC (V.int 13)))
                    tNil))
                (tC (V.int 2147483647)))
              (gSub (tVar 0) (tC (V.int 3)) rSetL)))))
      tNext)
def tD2 (K : PySem.W.Frag) : TS :=
    (tSeq
      (tIfS (tTest (tOp (rI0 fun i j => V.bl (decide (j < i))) (tDr K 2) (tC (V.int 0))))
        (tSeq
          (tAsg (tOp (rI (fun x j => j ≠ 0) fun i j => V.int (i.fmod j)) (tCB rIntA (tCons (tDr K 2) tNil)) (tVar 1))
            (gName 3))
          (tSeq
            (tAsg (tOp (rI CDivA fun i j => V.int (i.fdiv j)) (tDr K 2) (tVar 1))
              (gSub (tVar 0) (tC (V.int 2)) rSetL))
            (tRet (tVar 3))))
        tNext)
      (tSeq
        (tAsg
          (tOp (rI (fun x j => j ≠ 0) fun i j => V.int (i.fmod j))
            (tCB rIntA
              (tCons
                (tOp (rI0 fun i j => V.int (i + j))
                  (tOp (rI CMulW fun i j => V.int (i * j)) (tDr K 3) (tC (V.int 69621))) (tC (V.int 7)))
                tNil))
            (tC (V.int 2147483629)))
          (gSub (tVar 0) (tC (V.int 3)) rSetL))
        (tRet
          (tOp (rI (fun x j => j ≠ 0) fun i j => V.int (i.fmod j))
            (tCB rIntA (tCons (tOp (rI CDivA fun i j => V.int (i.fdiv j)) (tDr K 3) (tC (V.int 11))) tNil))
            (tVar 1)))))
section
variable {K : PySem.W.Frag} {σ : L2.St} {H : Hp} {A q : Addr} {Q : VK} {p b z n : Int} {us : List V} {En : Ends}
theorem rd_dr {xs : List V} {k : Int} {v : V} (h0 : σ[0]? = some (some (.ref A))) (hA : H A = some (.lst xs)) (e : L2.atI xs k = some v) (hQ : Q v H) : tDr K k σ H Q :=
  ⟨.ref A, h0, A, xs, k, v, rfl, rfl, SqL.of hA, e, hQ⟩
theorem wr_dr {xs : List V} {k : Int} {j : Nat} {v : V} {R : L2.St → Hp → Prop} (h0 : σ[0]? = some (some (.ref A))) (hA : H A = some (.lst xs)) (e : L2.ixN xs.length k = some j) (hQ : R σ (L2.upd H A (.lst (xs.set j v)))) : gSub (tVar 0) (tC (.int k)) rSetL v σ H R :=
  ⟨.ref A, h0, A, xs, k, j, rfl, rfl, hA, e, hQ⟩
theorem upd_upd {H : Hp} {A : Addr} {o o' : HO} : L2.upd (L2.upd H A o) A o' = L2.upd H A o' := by
  funext a
  unfold L2.upd
  split <;> rfl
theorem log31 {z : Int} (h1 : 0 ≤ z) (h2 : z < 2147483648) : z.natAbs.log2 ≤ 31 := by
  by_cases h : z.natAbs = 0
  · rw [h]; decide
  · have : z.natAbs.log2 < 32 := (Nat.log2_lt h).mpr (by omega)
    omega
theorem emod_fmod {a n : Int} (h : 0 < n) : a.fmod n = a % n := Int.fmod_eq_emod_of_nonneg a (by omega)
theorem ediv_fdiv {a n : Int} (h : 0 < n) : a.fdiv n = a / n := Int.fdiv_eq_ediv_of_nonneg a (by omega)
theorem d2_ok (h0 : σ[0]? = some (some (.ref A))) (h1 : σ[1]? = some (some (.int n))) (h3 : 3 < σ.length) (hA : H A = some (.lst [.ref q, .int p, .int b, .int z])) (n1 : 0 < n) (n2 : n < 1073741824) (z1 : 0 ≤ z) (z2 : z < 2147483648)
    (k1 : b > 0 → En.rt (.int (b % n)) (L2.upd H A (.lst [.ref q, .int p, .int (b / n), .int z])))
    (k2 : ¬ b > 0 → En.rt (.int ((z * 69621 + 7) % 2147483629 / 11 % n)) (L2.upd H A (.lst [.ref q, .int p, .int b, .int ((z * 69621 + 7) % 2147483629)]))) : tD2 K En σ H := by
  have ln : n.natAbs.log2 < 9000 := by have := log31 (z := n) (by omega) (by omega); omega
  refine rd_dr h0 hA rfl ?_
  refine ⟨b, 0, rfl, rfl, decide (0 < b), rfl, ?_⟩
  by_cases hb : 0 < b
  · rw [decide_eq_true hb]
    dsimp only
    rw [if_pos rfl]
    refine rd_dr h0 hA rfl ?_
    refine .inl (.inl ⟨b, rfl, ?_⟩)
    refine ⟨.int n, h1, b, n, rfl, rfl, by omega, ?_⟩
    show tSeq _ _ _ (σ.set 3 (some (.int (b.fmod n)))) H
    have g0 : (σ.set 3 (some (.int (b.fmod n))))[0]? = some (some (.ref A)) := by rw [List.getElem?_set_ne (by decide)]; exact h0
    have g1 : (σ.set 3 (some (.int (b.fmod n))))[1]? = some (some (.int n)) := by rw [List.getElem?_set_ne (by decide)]; exact h1
    have g3 : (σ.set 3 (some (.int (b.fmod n))))[3]? = some (some (.int (b.fmod n))) := List.getElem?_set_self h3
    refine rd_dr g0 hA rfl ?_
    refine ⟨.int n, g1, b, n, rfl, rfl, ⟨by omega, ln⟩, ?_⟩
    refine wr_dr g0 hA rfl ?_
    refine ⟨_, g3, ?_⟩
    show En.rt (V.int (b.fmod n)) (L2.upd H A (.lst [.ref q, .int p, .int (b.fdiv n), .int z]))
    rw [emod_fmod n1, ediv_fdiv n1]
    exact k1 hb
  · rw [decide_eq_false hb]
    dsimp only
    rw [if_neg Bool.false_ne_true]
    refine rd_dr h0 hA rfl ?_
    refine ⟨z, 69621, rfl, rfl, ?_, _, 7, rfl, rfl, .inl (.inl ⟨_, rfl, ?_⟩)⟩
    · show z.natAbs.log2 + (69621 : Int).natAbs.log2 < 1000000
      have := log31 z1 z2
      have : (69621 : Int).natAbs.log2 < 100 := by decide +kernel
      omega
    refine ⟨_, 2147483629, rfl, rfl, (show (2147483629 : Int) ≠ 0 by decide), ?_⟩
    show gSub (tVar 0) (tC (V.int 3)) rSetL (V.int ((z * 69621 + 7).fmod 2147483629)) σ H _
    rw [emod_fmod (by decide)]
    refine wr_dr h0 hA rfl ?_
    show tRet
            (tOp (rI (fun x j => j ≠ 0) fun i j => V.int (i.fmod j))
              (tCB rIntA (tCons (tOp (rI CDivA fun i j => V.int (i.fdiv j)) (tDr K 3) (tC (V.int 11))) tNil)) (tVar 1))
            En σ (L2.upd H A (.lst [.ref q, .int p, .int b, .int ((z * 69621 + 7) % 2147483629)]))
    refine rd_dr h0 (xs := [.ref q, .int p, .int b, .int ((z * 69621 + 7) % 2147483629)]) upd_same rfl ?_
    refine ⟨_, 11, rfl, rfl, ⟨by decide, by decide +kernel⟩, .inl (.inl ⟨_, rfl, ?_⟩)⟩
    refine ⟨.int n, h1, _, n, rfl, rfl, by omega, ?_⟩
    show En.rt (V.int ((((z * 69621 + 7) % 2147483629).fdiv 11).fmod n)) _
    rw [emod_fmod n1, ediv_fdiv (by decide)]
    exact k2 hb
theorem cells_at {cells : List Int} {pos : Nat} {k : Int} (h : cells[pos]? = some k) : L2.atI (cells.map V.int) (pos : Int) = some (.int k) := by
  have hl := (List.getElem?_eq_some_iff.mp h).1
  unfold L2.atI L2.ixN
  rw [if_pos (by omega), if_pos (by rw [List.length_map]; omega)]
  show (cells.map V.int)[(pos : Int).toNat]? = _
  rw [Int.toNat_natCast, List.getElem?_map, h]
  rfl
theorem d1_ok {cells : List Int} {pos : Nat} (h0 : σ[0]? = some (some (.ref A))) (h2 : 2 < σ.length) (hA : H A = some (.lst [.ref q, .int pos, .int b, .int z])) (hq : H q = some (.lst (cells.map V.int))) (hne : q ≠ A) (z1 : 0 ≤ z) (z2 : z < 2147483648)
    (k1 : ∀ k, b = 0 → cells[pos]? = some k → ∀ σ', σ' = σ.set 2 (some (.int k)) → En.nx σ' (L2.upd H A (.lst [.ref q, .int (pos + 1 : Nat), .int (if k ≥ 10 ^ 18 then k else b), .int ((z * 48271 + k + 13) % 2147483647)])))
    (k2 : ¬ (b = 0 ∧ pos < cells.length) → En.nx σ H) : tD1 K En σ H := by
  refine rd_dr h0 hA rfl ?_
  refine .inl ⟨rfl, decide (V.int b = V.int 0), rfl, ?_⟩
  rw [dec_int]
  by_cases hb : b = 0
  · have e : (b == (0 : Int)) = true := by simpa using hb
    rw [e]
    subst hb
    show (if true = true then _ else _)
    rw [if_pos rfl]
    refine rd_dr h0 hA rfl ?_
    refine rd_dr h0 hA rfl ?_
    refine .inl ⟨q, cells.map V.int, rfl, .inl (SqL.of hq), ?_⟩
    refine ⟨pos, _, rfl, rfl, decide ((pos : Int) < ((cells.map V.int).length : Int)), rfl, ?_⟩
    by_cases hp : pos < cells.length
    · rw [decide_eq_true (by rw [List.length_map]; omega)]
      show (if true = true then _ else _)
      rw [if_pos rfl]
      obtain ⟨k, hk⟩ : ∃ k, cells[pos]? = some k := ⟨cells[pos], by simp [hp]⟩
      refine rd_dr h0 hA rfl ?_
      refine rd_dr h0 hA rfl ?_
      refine ⟨q, cells.map V.int, pos, .int k, rfl, rfl, SqL.of hq, cells_at hk, ?_⟩
      show tSeq _ _ _ (σ.set 2 (some (.int k))) H
      have g0 : (σ.set 2 (some (.int k)))[0]? = some (some (.ref A)) := by rw [List.getElem?_set_ne (by decide)]; exact h0
      have g2 : (σ.set 2 (some (.int k)))[2]? = some (some (.int k)) := List.getElem?_set_self h2
      generalize hs : σ.set 2 (some (.int k)) = σ' at g0 g2 ⊢
      have k1 := k1 k rfl hk σ' hs.symm
      refine rd_dr g0 hA rfl ?_
      refine ⟨pos, 1, rfl, rfl, ?_⟩
      refine wr_dr g0 hA rfl ?_
      refine ⟨.int k, g2, 10, 18, rfl, rfl, ⟨by decide, by decide, by decide⟩, k, _, rfl, rfl, decide ((10 : Int) ^ 18 ≤ k), rfl, ?_⟩
      have e18 : (10 : Int) ^ (Int.toNat 18) = 10 ^ 18 := rfl
      have lz := log31 z1 z2
      have l4 : (48271 : Int).natAbs.log2 < 100 := by decide +kernel
      have tail : ∀ b', (if k ≥ 10 ^ 18 then k else 0) = b' → ∀ H1, H1 = L2.upd H A (.lst [.ref q, .int ((pos : Int) + 1), .int b', .int z]) →
          (tAsg
              (tOp (rI (fun x j => j ≠ 0) fun i j => V.int (i.fmod j))
                (tCB rIntA
                  (tCons
                    (tOp (rI0 fun i j => V.int (i + j))
                      (tOp (rI0 fun i j => V.int (i + j))
                        (tOp (rI CMulW fun i j => V.int (i * j)) (tDr K 3) (tC (V.int 48271))) (tVar 2))
                      (tC (V.int 13)))
                    tNil))
                (tC (V.int 2147483647)))
              (gSub (tVar 0) (tC (V.int 3)) rSetL)) En σ' H1 := fun b' hb' H1 hH => by
        have hA1 : H1 A = some (.lst [.ref q, .int ((pos : Int) + 1), .int b', .int z]) := by rw [hH]; exact upd_same
        refine rd_dr g0 hA1 rfl ?_
        refine ⟨z, 48271, rfl, rfl, ?_, .int k, g2, _, k, rfl, rfl, _, 13, rfl, rfl, .inl (.inl ⟨_, rfl, ?_⟩)⟩
        · show z.natAbs.log2 + (48271 : Int).natAbs.log2 < 1000000
          omega
        refine ⟨_, 2147483647, rfl, rfl, (show (2147483647 : Int) ≠ 0 by decide), ?_⟩
        show gSub (tVar 0) (tC (V.int 3)) rSetL (V.int ((z * 48271 + k + 13).fmod 2147483647)) σ' H1 _
        rw [emod_fmod (by decide)]
        refine wr_dr g0 hA1 rfl ?_
        subst hH
        rw [upd_upd]
        rw [hb'] at k1
        exact k1
      by_cases h18 : (10 : Int) ^ 18 ≤ k
      · rw [decide_eq_true h18]
        show (if true = true then _ else _)
        rw [if_pos rfl]
        refine ⟨.int k, g2, ?_⟩
        refine wr_dr g0 (xs := [.ref q, .int ((pos : Int) + 1), .int 0, .int z]) upd_same rfl ?_
        exact tail k (if_pos h18) _ (by rw [upd_upd]; rfl)
      · rw [decide_eq_false h18]
        show (if false = true then _ else _)
        rw [if_neg Bool.false_ne_true]
        exact tail 0 (if_neg h18) _ rfl
    · rw [decide_eq_false (by rw [List.length_map]; omega)]
      show (if false = true then _ else _)
      rw [if_neg Bool.false_ne_true]
      exact k2 fun h => hp h.2
  · have e : (b == (0 : Int)) = false := by simpa using hb
    rw [e]
    show (if false = true then _ else _)
    rw [if_neg Bool.false_ne_true]
    exact k2 fun h => hb h.1
end
section
variable {P : Program} {w : World} {K : PySem.W.Frag} {mg : Str → Option Value} {base : Heap} {XT : Nat → Option (Addr × List Str)} {L : Nat}
theorem dints_eq {K : PySem.W.Frag} {W : Wd} {H : Hp} : ∀ {ns : List Int} {us : List V}, DenL K W H (ns.map D.int) us → us = ns.map V.int
  | [], us, h => by unfold DenL at h; exact h
  | n :: ns, us, h => by
    unfold List.map DenL at h
    obtain ⟨v, r, rfl, h1, h2⟩ := h
    rw [den_int h1, dints_eq h2]
    rfl
theorem dints_mk (K : PySem.W.Frag) (W : Wd) (H : Hp) {ns : List Int} : DenL K W H (ns.map D.int) (ns.map V.int) := by
  induction ns with
  | nil => exact DenL.nil
  | cons n r ih => exact DenL.cons Den.mkInt ih
theorem draw_ok {l : Nat} {x : Str} {fa : Addr} {fd : FuncData} (F : FunD K x x (drawA l) (drawB l) drawS [] [] fa fd) (hlen : mg "len" = none) (hint : mg "int" = none) :
    FnOk P w K mg base (L2.CX P w) (L + 1) fa fd ["draws", "limit"] (spF K XT 2 (evPrim .draw)) := by
  refine F.ok fs_draw (fun vs H Q E h => spF_len h) fun cdv A outer s H vs Q E hr h => ?_
  obtain ⟨W, ds, s0, hle, hw, hd, hv, hm⟩ := h
  let X : Cx := cxOf (L2.CX P w) P w K mg base ["draws", "limit", "cell", "value"] x drawS fa cdv A outer s H E
  have hu : X.A.units + 200 < cLine := by have := hr.un; show (A.deeper (envOfC x drawS s.heap.objs.size fa cdv)).units + 200 < cLine; omega
  have dr : ∀ {k : Int} {j : Nat} {p1 p2 p3 : Pos}, PE X (.Subscript (.Name "draws" p1) (.Constant (.int k) j p2) p3) (tDr X.K k) := fun {k j p1 p2 p3} => pe_dr (by rfl) (.inl (by rfl))
  have cl : ∀ {p : Pos}, PE X (.Name "cell" p) (tVar 2) := fun {p} => pv0 (by rfl) (.inl (by rfl))
  have lm : ∀ {p : Pos}, PE X (.Name "limit" p) (tVar 1) := fun {p} => pv0 (by rfl) (.inl (by rfl))
  have vl : ∀ {p : Pos}, PE X (.Name "value" p) (tVar 3) := fun {p} => pv0 (by rfl) (.inl (by rfl))
  have int1 : ∀ {e : Expr} {te : TE} {p p2 : Pos}, PE X e te → starEach [e] X.env = (false, eval e X.env) :: starEach [] X.env → PE X (.Call (.Name "int" p) [e] [] p2) (tCB rIntA (tCons te tNil)) := fun {e te p p2} h hs =>
    pe_callTy call_intA (by rfl) hint (by first | rfl | kernel_rfl) (pa_cons h pa_nil hs) (by decide +kernel) (by decide +kernel) hs (by rfl)
  have b1 : PSs X [] tNext := pss_nil
  refine ⟨_, pss_cons (ps_if (PW.pt (pw_and (pt_cmpR (op_eqA (show X.A.units + 64 < cLine by omega)) dr pe_int (by rfl)) (pw_and1 (pt_cmpR op_lt dr (pe_callB call_lenA (by rfl) hlen (by first | rfl | kernel_rfl) (pa_cons dr pa_nil)) (by rfl)))))
      (pss_cons (ps_set (i := 2) fs_draw.nd (by rfl) (.inl (by rfl)) (pe_ix ix_list dr dr (plainIx_of rfl)))
        (pss_cons (ps_dr (by rfl) (.inl (by rfl)) (pe_op op_add dr pe_int))
          (pss_cons (ps_if (pt_cmpR op_ge cl (pe_op op_pow pe_int pe_int) (by rfl)) (pss_one (ps_dr (by rfl) (.inl (by rfl)) cl)) pss_nil)
            (pss_one (ps_dr (by rfl) (.inl (by rfl)) (pe_op op_modN (int1 (pe_op op_add (pe_op op_add (pe_op op_mulW dr pe_int) cl) pe_int) (by rfl)) pe_int))))))
      pss_nil)
    (pss_cons (ps_if (pt_cmpR op_gt dr pe_int (by rfl))
      (pss_cons (ps_set (i := 3) fs_draw.nd (by rfl) (.inl (by rfl)) (pe_op op_modN (int1 dr (by rfl)) lm))
        (pss_cons (ps_dr (by rfl) (.inl (by rfl)) (pe_op op_fdivA dr lm)) (pss_one (ps_ret vl)))) pss_nil)
    (pss_cons (ps_dr (by rfl) (.inl (by rfl)) (pe_op op_modN (int1 (pe_op op_add (pe_op op_mulW dr pe_int) pe_int) (by rfl)) pe_int))
      (pss_one (ps_ret (pe_op op_modN (int1 (pe_op op_fdivA dr pe_int) (by rfl)) lm))))), ?_⟩
  match ds, hle, hv, hm with
  | [d, d2], _, hv, hm =>
    obtain ⟨v, r, rfl, hd1, v2, r2, rfl, hd2, hr1⟩ := hv
    cases hr1
    unfold evPrim at hm
    cases d with
    | dr =>
      cases d2 with
      | int n =>
        dsimp only at hm
        split at hm
        case h_1 => exact hm.elim
        case h_3 q => split at q <;> cases q
        rename_i dres sres q
        split at q
        case isFalse => cases q
        rename_i hc
        cases q
        obtain ⟨hon, n1, n2, z1, z2⟩ := hc
        obtain ⟨A0, rfl, hA⟩ : ∃ a, v = .ref a ∧ W.A = some a := by unfold Den at hd1; exact hd1
        rw [den_int hd2]
        unfold DsR at hd
        rw [hA] at hd
        obtain ⟨_, cv, hcell, hcv⟩ := hd
        obtain ⟨q, us, rfl, ⟨hI, hq⟩, hus⟩ := den_lst hcv
        have ei : us = s0.cells.map V.int := dints_eq hus
        subst ei
        have hne : q ≠ A0 := fun z => (hw.aL A0 hA).2 (z ▸ hI)
        have fin : ∀ (H' : Hp) (p b z : Int) (s' : DS) (v : V), H' A0 = some (.lst [.ref q, .int p, .int b, .int z]) → (∀ a, a ≠ A0 → H' a = H a) → s'.on = true → s'.cells = s0.cells → (s'.pos : Int) = p → s'.big = b → s'.seed = z → s' = (drawF n s0).2 → v = .int (drawF n s0).1 → Q v H' := fun H' p b z s' v e1 e2 e3 e4 e5 e6 e7 e8 e9 => by
          subst e9 e5 e6 e7
          have g : Grow W H W H' := ⟨fun _ h => h, fun _ h => .inl h, fun _ h => h, fun _ h => .inl h, fun a o h na => by rw [e2 a fun z => na (z ▸ hA)]; exact h, fun a o h => by
            by_cases z : a = A0
            · subst z; exact ⟨_, e1⟩
            · exact ⟨o, by rw [e2 a z]; exact h⟩⟩
          have w' : WOk W H' := ⟨fun a h => by
            obtain ⟨o, e⟩ := hw.iS a h
            exact g.there a o e, fun a h => by
            rw [hA] at h
            cases h
            exact ⟨⟨_, e1⟩, (hw.aL A0 hA).2⟩⟩
          refine hm _ W H' g w' ?_ Den.mkInt
          rw [← e8]
          unfold DsR
          rw [hA]
          refine ⟨e3, .ref q, e1, ?_⟩
          rw [e4]
          exact Den.mkLst hI (by rw [e2 q hne]; exact hq) (dints_mk _ _ _)
        show tSeq (tD1 K) (tD2 K) { nx := fun _ H' => Q .non H', rt := Q } (L2.start ["draws", "limit", "cell", "value"] [V.ref A0, V.int n]) H
        refine d1_ok (A := A0) (q := q) (cells := s0.cells) (pos := s0.pos) (b := s0.big) (z := s0.seed) rfl (by simp [L2.start]) hcell hq hne z1 z2 ?_ ?_
        · intro k hb hk σ' hσ
          have e1 : draw1 s0 = { s0 with pos := s0.pos + 1, big := if k ≥ 10 ^ 18 then k else s0.big, seed := (s0.seed * 48271 + k + 13) % 2147483647 } := by unfold draw1; rw [if_pos hb, hk]
          have zz : 0 ≤ (s0.seed * 48271 + k + 13) % 2147483647 ∧ (s0.seed * 48271 + k + 13) % 2147483647 < 2147483648 := ⟨Int.emod_nonneg _ (by decide), by have := Int.emod_lt_of_pos (s0.seed * 48271 + k + 13) (show (0 : Int) < 2147483647 by decide); omega⟩
          refine d2_ok (A := A0) (q := q) (by rw [hσ]; rfl) (by rw [hσ]; rfl) (by rw [hσ]; simp [L2.start]) upd_same n1 n2 zz.1 zz.2 ?_ ?_
          · intro hb2
            refine fin _ _ _ _ (drawF n s0).2 _ upd_same (fun a ha => by rw [upd_ne ha, upd_ne ha]) ?_ ?_ ?_ ?_ ?_ rfl ?_ <;> (unfold drawF; rw [e1]; unfold draw2; rw [if_pos hb2])
            · exact hon
          · intro hb2
            refine fin _ _ _ _ (drawF n s0).2 _ upd_same (fun a ha => by rw [upd_ne ha, upd_ne ha]) ?_ ?_ ?_ ?_ ?_ rfl ?_ <;> (unfold drawF; rw [e1]; unfold draw2; rw [if_neg hb2])
            · exact hon
        · intro hno
          have same : draw1 s0 = s0 := by
            unfold draw1
            by_cases hb : s0.big = 0
            · rw [if_pos hb]
              have : ¬ s0.pos < s0.cells.length := fun h => hno ⟨hb, h⟩
              rw [List.getElem?_eq_none (by omega)]
            · rw [if_neg hb]
          refine d2_ok (A := A0) (q := q) rfl rfl (by simp [L2.start]) hcell n1 n2 z1 z2 ?_ ?_
          · intro hb2
            refine fin _ _ _ _ (drawF n s0).2 _ upd_same (fun a ha => by rw [upd_ne ha]) ?_ ?_ ?_ ?_ ?_ rfl ?_ <;> (unfold drawF; rw [same]; unfold draw2; rw [if_pos hb2])
            · exact hon
          · intro hb2
            refine fin _ _ _ _ (drawF n s0).2 _ upd_same (fun a ha => by rw [upd_ne ha]) ?_ ?_ ?_ ?_ ?_ rfl ?_ <;> (unfold drawF; rw [same]; unfold draw2; rw [if_neg hb2])
            · exact hon
      | _ => exact hm.elim
    | _ => exact hm.elim
end
end PV

set_option Elab.async false
set_option linter.all false
set_option maxRecDepth 100000
set_option maxHeartbeats 1000000
/-! PV18: own exceptions, plain and with an __init__ of their own. -/
namespace PV
open PySem PySem.Spec PyProof.Rows L2

/-! ### the text of the __init__s, by its first line -/
def btB (l : Nat) : List PySem.Stmt := [ (PySem.Stmt.Expr (value := (PySem.Expr.Call (func := (PySem.Expr.Attribute (PySem.Expr.Name "RoundError" ⟨l + 1, 8, l + 1, 18⟩) "__init__" ⟨l + 1, 8, l + 1, 27⟩)) (args := [(PySem.Expr.Name "self" ⟨l + 1, 28, l + 1, 32⟩), (PySem.Expr.Name "word" ⟨l + 1, 34, l + 1, 38⟩)]) (keywords := []) (pos := ⟨l + 1, 8, l + 1, 39⟩))) (pos := ⟨l + 1, 8, l + 1, 39⟩)), (PySem.Stmt.Assign (targets := [(PySem.Expr.Attribute (PySem.Expr.Name "self" ⟨l + 2, 8, l + 2, 12⟩) "place" ⟨l + 2, 8, l + 2, 18⟩)]) (value := (PySem.Expr.Name "place" ⟨l + 2, 21, l + 2, 26⟩)) (pos := ⟨l + 2, 8, l + 2, 26⟩)), (PySem.Stmt.Assign (targets := [(PySem.Expr.Attribute (PySem.Expr.Name "self" ⟨l + 3, 8, l + 3, 12⟩) "word" ⟨l + 3, 8, l + 3, 17⟩)]) (value := (PySem.Expr.Name "word" ⟨l + 3, 20, l + 3, 24⟩)) (pos := ⟨l + 3, 8, l + 3, 24⟩))]
def btS : PySem.Scope := { kind := PySem.ScopeKind.function, names := [ (PySem.Str.ofString "self", PySem.NameKind.local), (PySem.Str.ofString "place", PySem.NameKind.local), (PySem.Str.ofString "word", PySem.NameKind.local), (PySem.Str.ofString "RoundError", PySem.NameKind.globalImplicit)], isGenerator := false, isCoroutine := false, more := [] : PySem.Scope }
def btA (l : Nat) : PySem.Arguments := { posonlyargs := [], args := [ { arg := "self", annotation := none, pos := ⟨l + 0, 17, l + 0, 21⟩ : PySem.Arg }, { arg := "place", annotation := none, pos := ⟨l + 0, 23, l + 0, 28⟩ : PySem.Arg }, { arg := "word", annotation := none, pos := ⟨l + 0, 30, l + 0, 34⟩ : PySem.Arg }], vararg := none, kwonlyargs := [], kw_defaults := [], kwarg := none, defaults := [] : PySem.Arguments }

def rfB (l : Nat) : List PySem.Stmt := [ (PySem.Stmt.Expr (value := (PySem.Expr.Call (func := (PySem.Expr.Attribute (PySem.Expr.Name "RoundError" ⟨l + 1, 8, l + 1, 18⟩) "__init__" ⟨l + 1, 8, l + 1, 27⟩)) (args := [(PySem.Expr.Name "self" ⟨l + 1, 28, l + 1, 32⟩), (PySem.Expr.Name "word" ⟨l + 1, 34, l + 1, 38⟩)]) (keywords := []) (pos := ⟨l + 1, 8, l + 1, 39⟩))) (pos := ⟨l + 1, 8, l + 1, 39⟩)), (PySem.Stmt.Assign (targets := [(PySem.Expr.Attribute (PySem.Expr.Name "self" ⟨l + 2, 8, l + 2, 12⟩) "word" ⟨l + 2, 8, l + 2, 17⟩)]) (value := (PySem.Expr.Name "word" ⟨l + 2, 20, l + 2, 24⟩)) (pos := ⟨l + 2, 8, l + 2, 24⟩))]
def rfS : PySem.Scope := { kind := PySem.ScopeKind.function, names := [ (PySem.Str.ofString "self", PySem.NameKind.local), (PySem.Str.ofString "word", PySem.NameKind.local), (PySem.Str.ofString "RoundError", PySem.NameKind.globalImplicit)], isGenerator := false, isCoroutine := false, more := [] : PySem.Scope }
def rfA (l : Nat) : PySem.Arguments := { posonlyargs := [], args := [ { arg := "self", annotation := none, pos := ⟨l + 0, 17, l + 0, 21⟩ : PySem.Arg }, { arg := "word", annotation := none, pos := ⟨l + 0, 23, l + 0, 27⟩ : PySem.Arg }], vararg := none, kwonlyargs := [], kw_defaults := [], kwarg := none, defaults := [] : PySem.Arguments }

/-! ### R.__init__(self, ..) where R is an own class over ValueError without an __init__ -/
structure RCls (K : PySem.W.Frag) (R : Addr) : Prop where
  rd : PySem.W.readsIn K R (.type "type") = true
  ga : PySem.W.specialIn K (.ref R) "__getattribute__" = some (some (.builtin "type.__getattribute__"))
  at_ : PySem.W.findCls K (.ref R) (.type "type") "__init__" = some (.val (.builtin "ValueError.__init__"))
section
variable {X : Cx} {e : Expr} {es : List Expr} {ta : TA} {p1 p2 pos : Pos} {R : Addr} {x : Str}
theorem pe_rinit (hg : Gl X x) (hm : X.mg x = some (.ref R)) (T : RCls X.K R) (ha : PA X (e :: es) ta) (hd : (x == ("__debug__" : Str)) = false)
    (he : starEach (e :: es) X.env = (false, eval e X.env) :: starEach es X.env) (hpl : (backTo pos (starEach es X.env)).any (·.1) = false)
    (hf : methodCallForm ((e :: es).length + ([] : List Keyword).length) (backTo pos (starEach (e :: es) X.env)) (backToKw pos (keywordEach [] X.env)) = true) (hline : (p2.endLine == pos.line) = true) :
    PE X (.Call (.Attribute (.Name x p1) "__init__" p2) (e :: es) [] pos) (tVeI X.K ta) := by
  refine ⟨fun pins s σ H Q I h => ?_⟩
  refine PySem.W.methodCall_KW (pl := do return (← importBound (.Name x p1) X.env).getD true) (ld_glob I hg hm ?_ hd) ?hc
  case hc =>
    rw [arm_eval_Call]
    unfold methodCall methodCallPos calleeOf
    rw [hf, hline]
    rfl
  refine PySem.W.method_cls I.kIn T.ga (PySem.W.cls_value I.kIn T.rd T.at_ (by decide +kernel) ?_)
  show wpAny _ _ (callWith pos (Value.builtin "ValueError.__init__") [] (backTo pos (starEach (e :: es) X.env)) []) _ _ _
  refine PyProof.Rows.callWith_method1 (thn (ha.run pos pins _ σ H _ (I.tok _) h) fun us s1 ⟨vs, H1, I1, r1, a, C, ws, ev, hl, T, ea, q⟩ => ?_) he hpl
  subst ev
  cases r1 with
  | @cons _ u0 _ ur ra rw' =>
    obtain rfl : u0 = Value.ref a := ra
    have hlen : ur.length ≤ sizeLine := by
      rw [← Paired.length rw', sizeLine_eq]
      omega
    exact oinit_ok T I1 ea hlen fun s' J => ⟨.non, H1, J, rfl, q⟩
end

/-- what an __init__ that keeps its arguments does -/
def spInit (K : PySem.W.Frag) (C : Addr) (fs : List Str) : Sp := fun vs H Q _ => ∃ a ws, vs = .ref a :: ws ∧ ws.length = fs.length ∧ OexC K C ∧ H a = some (exo a C none) ∧ (∀ f, f ∈ fs → PySem.W.findIn K (.ref C) f = some none) ∧
  ∀ dx, H dx = none → dx ≠ a → Q .non (L2.upd (L2.upd H dx (exd dx (fs.zip ws))) a (exo a C (some dx)))
theorem exd_same {dx : Addr} {fs gs : List (Str × V)} (h : ∀ f, fs.lookup f = gs.lookup f) : exd dx fs = exd dx gs := by
  unfold exd
  congr 1
  funext hp
  apply propext
  constructor
  · rintro ⟨m, h1, h2⟩
    exact ⟨m, h1, fun f => by rw [← h]; exact h2 f⟩
  · rintro ⟨m, h1, h2⟩
    exact ⟨m, h1, fun f => by rw [h]; exact h2 f⟩
theorem upd_swap {H : Hp} {a dx : Addr} {o1 o2 o3 : HO} (n : dx ≠ a) : L2.upd (L2.upd (L2.upd H dx o1) a o2) dx o3 = L2.upd (L2.upd H dx o3) a o2 := by
  funext b
  unfold L2.upd
  by_cases h1 : b = dx
  · subst h1
    rw [if_pos rfl, if_neg n, if_pos rfl]
  · by_cases h2 : b = a
    · subst h2
      rw [if_neg h1, if_pos rfl, if_pos rfl]
    · rw [if_neg h1, if_neg h2, if_neg h1, if_neg h2, if_neg h1]
section
variable {P : Program} {w : World} {K : PySem.W.Frag} {mg : Str → Option Value} {base : Heap} {L : Nat} {C R : Addr}
theorem fs_bt : FnScope ["self", "place", "word"] ["self", "place", "word"] btS := ⟨rfl, rfl, rfl, by decide +kernel, rfl, by decide +kernel, by decide +kernel⟩
theorem fs_rf : FnScope ["self", "word"] ["self", "word"] rfS := ⟨rfl, rfl, rfl, by decide +kernel, rfl, by decide +kernel, by decide +kernel⟩
theorem bt_ok {l : Nat} {x q : Str} {fa : Addr} {fd : FuncData} (F : FunD K x q (btA l) (btB l) btS [] [] fa fd) (hR : mg "RoundError" = some (.ref R)) (T : RCls K R) :
    FnOk P w K mg base (L2.CX P w) (L + 1) fa fd ["self", "place", "word"] (spInit K C ["place", "word"]) := by
  refine F.ok fs_bt (fun vs H Q E h => ?_) fun cdv A outer s H vs Q E hr h => ?_
  · obtain ⟨a, ws, rfl, hl, _⟩ := h
    simp [hl]
  · let X : Cx := cxOf (L2.CX P w) P w K mg base ["self", "place", "word"] q btS fa cdv A outer s H E
    have sl : ∀ {p : Pos}, PE X (.Name "self" p) (tVar 0) := fun {p} => pv0 (by rfl) (.inl (by rfl))
    have pl : ∀ {p : Pos}, PE X (.Name "place" p) (tVar 1) := fun {p} => pv0 (by rfl) (.inl (by rfl))
    have wd : ∀ {p : Pos}, PE X (.Name "word" p) (tVar 2) := fun {p} => pv0 (by rfl) (.inl (by rfl))
    refine ⟨_, pss_cons (ps_expr (pe_rinit (by rfl) hR T (pa_cons sl (pa_cons wd pa_nil)) (by decide +kernel) (by rfl) (by rfl) (by rfl) (by simp)) (by rfl)) (pss_cons (ps_ost sl pl) (pss_one (ps_ost sl wd))), ?_⟩
    obtain ⟨a, ws, rfl, hl, O, ha, hf, hq⟩ := h
    match ws, hl, hq with
    | [p, wv], _, hq =>
      refine ⟨.ref a, rfl, wv, rfl, a, C, [wv], rfl, by simp, O, ha, ?_⟩
      refine ⟨p, rfl, .ref a, rfl, a, C, rfl, O, hf _ (by simp), .inl ⟨ha, fun dx h1 h2 => ?_⟩⟩
      refine ⟨wv, rfl, .ref a, rfl, a, C, rfl, O, hf _ (by simp), .inr ⟨dx, [("place", p)], upd_same, by rw [upd_ne h2]; exact upd_same, by simp, ?_⟩⟩
      have e : L2.upd (L2.upd (L2.upd H dx (exd dx [("place", p)])) a (exo a C (some dx))) dx (exd dx (("word", wv) :: [("place", p)])) = L2.upd (L2.upd H dx (exd dx ((["place", "word"] : List Str).zip [p, wv]))) a (exo a C (some dx)) := by
        rw [upd_swap h2]
        congr 2
        refine exd_same fun f => ?_
        simp only [List.zip_cons_cons, List.zip_nil_right, List.lookup_cons, List.lookup_nil]
        by_cases e1 : (f == ("word" : Str)) = true
        · have e2 : f = "word" := by simpa using e1
          subst e2
          rfl
        · simp only [Bool.not_eq_true] at e1
          rw [e1]
      show Q .non _
      rw [e]
      exact hq dx h1 h2
theorem rf_ok {l : Nat} {x q : Str} {fa : Addr} {fd : FuncData} (F : FunD K x q (rfA l) (rfB l) rfS [] [] fa fd) (hR : mg "RoundError" = some (.ref R)) (T : RCls K R) :
    FnOk P w K mg base (L2.CX P w) (L + 1) fa fd ["self", "word"] (spInit K C ["word"]) := by
  refine F.ok fs_rf (fun vs H Q E h => ?_) fun cdv A outer s H vs Q E hr h => ?_
  · obtain ⟨a, ws, rfl, hl, _⟩ := h
    simp [hl]
  · let X : Cx := cxOf (L2.CX P w) P w K mg base ["self", "word"] q rfS fa cdv A outer s H E
    have sl : ∀ {p : Pos}, PE X (.Name "self" p) (tVar 0) := fun {p} => pv0 (by rfl) (.inl (by rfl))
    have wd : ∀ {p : Pos}, PE X (.Name "word" p) (tVar 1) := fun {p} => pv0 (by rfl) (.inl (by rfl))
    refine ⟨_, pss_cons (ps_expr (pe_rinit (by rfl) hR T (pa_cons sl (pa_cons wd pa_nil)) (by decide +kernel) (by rfl) (by rfl) (by rfl) (by simp)) (by rfl)) (pss_one (ps_ost sl wd)), ?_⟩
    obtain ⟨a, ws, rfl, hl, O, ha, hf, hq⟩ := h
    match ws, hl, hq with
    | [wv], _, hq =>
      refine ⟨.ref a, rfl, wv, rfl, a, C, [wv], rfl, by simp, O, ha, ?_⟩
      exact ⟨wv, rfl, .ref a, rfl, a, C, rfl, O, hf _ (by simp), .inl ⟨ha, fun dx h1 h2 => hq dx h1 h2⟩⟩
/-- C(e, ..), C's own __init__ keeping its arguments -/
theorem pmk_init {X : Cx} {x : Str} {fI : Addr} {k n : Nat} {fd : FuncData} {ps fs : List Str} {c : Cc} {Wx : WX} {es : List Expr} {f : Rho → M (List D)} {p pos : Pos} (T : OexC X.K C) (iC : PySem.W.findIn X.K (.ref C) "__init__" = some (some (.ref fI))) (tI : PySem.W.typeIn X.K (.ref fI) = some (.type "function"))
    (hno : ∀ f, f ∈ fs → PySem.W.findIn X.K (.ref C) f = some none) (F1 : FnOk X.prog X.w X.K X.mg X.base (L2.CX X.prog X.w) k fI fd ps (spInit X.K C fs)) (hr : Room (k + 1) X.A) (hb : Binds X.K fd ps []) (hg : Gl X x) (hm : X.mg x = some (.ref C)) (hd : (x == ("__debug__" : Str)) = false) (hfs : fs ≠ [])
    (hs : es.all notStar = true) (hl : es.length = fs.length) (hl2 : fs.length ≤ 900) (ha : PA X es (tG c Wx (rL c) f)) :
    PMk X (.Call (.Name x p) es [] pos) (fun σ H Q => tG c Wx (rL c) f σ H fun vs H1 => vs.length = fs.length ∧ ((fs = [] ∧ Q (.ref C) none H1) ∨ (fs ≠ [] ∧ ∀ d, H1 d = none → Q (.ref C) (some d) (L2.upd H1 d (.xd (fs.zip vs)))))) := by
  cases es with
  | nil =>
    cases fs with
    | nil => exact (hfs rfl).elim
    | cons _ _ => cases hl
  | cons e es =>
    simp only [List.all_cons, Bool.and_eq_true] at hs
    have base := pmk_oex (p := p) (pos := pos) (dvs := []) T iC tI F1 hr hb .nil (fun pins σ H s e s' I q => by
      obtain ⟨_, _, _, _, _, _, _, _, _, _, _, _, z⟩ := q
      exact z.elim) hg hm ha hd (star_eq hs.1) (star_any hs.2 pos)
    intro pins s σ H Q I h
    refine base pins s σ H Q I ?_
    refine h.monoQ fun vs H1 ⟨hv, q⟩ => ⟨by omega, fun a hna => ?_⟩
    rcases q with ⟨z, _⟩ | ⟨_, q⟩
    · exact (hfs z).elim
    refine ⟨a, vs ++ [], rfl, by simp [hv], T, upd_same, hno, fun dx h1 h2 => ⟨rfl, dx, fs.zip vs, upd_same, by rw [upd_ne h2, List.append_nil]; exact upd_same, ?_, ?_⟩⟩
    · rw [upd_ne h2] at h1; exact h1
    · have hn1 : H1 dx = none := by rw [upd_ne h2] at h1; exact h1
      have e : L2.upd (del (L2.upd (L2.upd (L2.upd H1 a (exo a C none)) dx (exd dx (fs.zip (vs ++ [])))) a (exo a C (some dx))) a) dx (.xd (fs.zip vs)) = L2.upd H1 dx (.xd (fs.zip vs)) := by
        funext b
        by_cases hb : b = dx
        · subst hb; rw [upd_same, upd_same]
        · rw [upd_ne hb, upd_ne hb]
          by_cases hba : b = a
          · subst hba; rw [del_same, hna]
          · rw [del_ne hba, upd_ne hba, upd_ne hb, upd_ne hba]
      rw [e]
      exact q dx hn1
end
end PV

set_option Elab.async false
set_option linter.all false
set_option maxRecDepth 100000
set_option maxHeartbeats 1000000
/-! PV19: the head's facts, the end. -/
namespace PV
open PySem PySem.Spec PyProof.Rows L2

/-! ### binding -/
theorem zip_some : ∀ {ps : List Str} {us : List Value}, us.length = ps.length → ∀ n, n ∈ ps → ((ps.zip us).lookup n).isSome = true
  | x :: ps, u :: us, h, n, hn => by
    rw [List.zip_cons_cons, List.lookup_cons]
    split
    · rfl
    · rename_i e
      rcases List.mem_cons.mp hn with z | z
      · subst z; simp at e
      · exact zip_some (by simpa using h) n z
theorem zip_back : ∀ {ps : List Str} {us : List Value}, ps.Nodup → us.length = ps.length → ps.filterMap (fun n => ((ps.zip us).lookup n).map (n, ·)) = ps.zip us
  | [], [], _, _ => rfl
  | x :: ps, u :: us, nd, h => by
    rw [List.nodup_cons] at nd
    rw [List.zip_cons_cons, List.filterMap_cons]
    simp only [List.lookup_cons, beq_self_eq_true, Option.map_some]
    congr 1
    have key : ∀ l : List Str, (∀ n, n ∈ l → n ∈ ps) → l.filterMap (fun n => (match n == x with
        | true => some u
        | false => (ps.zip us).lookup n).map (n, ·)) = l.filterMap (fun n => ((ps.zip us).lookup n).map (n, ·)) := fun l => by
      induction l with
      | nil => exact fun _ => rfl
      | cons n l ih =>
        intro hl
        have e : (n == x) = false := by
          rw [beq_eq_false_iff_ne]
          exact fun z => nd.1 (z ▸ hl n List.mem_cons_self)
        rw [List.filterMap_cons, List.filterMap_cons, ih fun m hm => hl m (List.mem_cons_of_mem _ hm), e]
    exact (key ps fun _ h => h).trans (zip_back nd.2 (by simpa using h))
structure PlainA (p : Arguments) : Prop where
  po : p.posonlyargs = []
  va : p.vararg = none
  ko : p.kwonlyargs = []
  kd : p.kw_defaults = []
  kw : p.kwarg = none
theorem bind_plain {x q : Str} {p : Arguments} {body : List Stmt} {scope : Scope} (hp : PlainA p) (nd : (p.args.map (·.arg)).Nodup) (kV doc pm : Value) (an : Option Addr) (cdv ct : Value) (us : List Value) (hl : us.length = (p.args.map (·.arg)).length) :
    bindArgs (PySem.W.fnOf x q p body scope .none kV doc pm an cdv ct) ⟨us, []⟩ = pure ((p.args.map (·.arg)).zip us) := by
  obtain ⟨po, as, va, ko, kd, kwa, df⟩ := p
  obtain ⟨h1, h2, h3, h4, h5⟩ := hp
  dsimp only at h1 h2 h3 h4 h5 nd hl ⊢
  subst h1 h2 h3 h4 h5
  have e3 : seqItems? .none = pure none := rfl
  have mis : ∀ k, ((as.map (·.arg)).take k).filter (fun n => (((as.map (·.arg)).zip us).lookup n).isNone) = [] := fun k => by
    rw [List.filter_eq_nil_iff]
    intro n hn
    have z := zip_some hl n (List.mem_of_mem_take hn)
    simp only [Option.isNone_iff_eq_none]
    intro q
    rw [q] at z
    cases z
  have zb := zip_back nd hl
  unfold bindArgs
  dsimp only [PySem.W.fnOf]
  rw [e3]
  have hlt : ¬ us.length > (as.map (·.arg)).length := by omega
  simp only [List.map_nil, List.nil_append, List.append_nil, pure_bind, Option.getD_none, List.forIn_nil, mis, zb]
  simp only [List.isEmpty_nil, Bool.not_true, Bool.false_eq_true, if_false, List.drop_nil, List.zip_nil_right, List.forIn_nil, pure_bind, mis, zb, hl]
  rw [if_neg (by simp)]

/-- the last parameter has a default, it is given or not -/
theorem bind_dfl {x q : Str} {p : Arguments} {body : List Stmt} {scope : Scope} (hp : PlainA p) (nd : (p.args.map (·.arg)).Nodup) (T : Addr) (kV doc pm : Value) (an : Option Addr) (cdv ct : Value) (us : List Value) (d : Value) (b : Bool) (h0 : 0 < (p.args.map (·.arg)).length)
    (hl : us.length + (if b = true then 1 else 0) = (p.args.map (·.arg)).length) :
    ∃ k, bindArgs (PySem.W.fnOf x q p body scope (.ref T) kV doc pm an cdv ct) ⟨us, []⟩ = seqItems? (.ref T) >>= k ∧ k (some [d].toArray) = pure ((p.args.map (·.arg)).zip (us ++ if b = true then [d] else [])) := by
  obtain ⟨po, as, va, ko, kd, kwa, df⟩ := p
  obtain ⟨h1, h2, h3, h4, h5⟩ := hp
  dsimp only at h1 h2 h3 h4 h5 nd hl h0 ⊢
  subst h1 h2 h3 h4 h5
  refine ⟨_, rfl, ?_⟩
  dsimp only [PySem.W.fnOf]
  generalize hn : as.map (·.arg) = ns at *
  have n1 : ns.length - (List.drop ([d].length - ns.length) [d]).length = ns.length - 1 := by
    rw [show [d].length - ns.length = 0 by simp; omega]; rfl
  have dr : List.drop ([d].length - ns.length) [d] = [d] := by rw [show [d].length - ns.length = 0 by simp; omega]; rfl
  have hle : us.length ≤ ns.length := by split at hl <;> omega
  obtain ⟨fs, l, rfl⟩ : ∃ fs l, ns = fs ++ [l] := by
    rcases List.eq_nil_or_concat ns with rfl | ⟨fs, l, e⟩
    · simp at h0
    · exact ⟨fs, l, by simpa using e⟩
  have lf : (fs ++ [l]).length - 1 = fs.length := by simp
  have lf' : (fs ++ [l]).length - [d].length = fs.length := by simp
  have tk : (fs ++ [l]).take fs.length = fs := by simp
  have dp : (fs ++ [l]).drop fs.length = [l] := by simp
  have zl : [l].zip [d] = [(l, d)] := rfl
  have hlt : ¬ us.length > (fs ++ [l]).length := by omega
  cases b with
  | false =>
    have hl : us.length = (fs ++ [l]).length := by simpa using hl
    have mis : fs.filter (fun n => (((fs ++ [l]).zip us).lookup n).isNone) = [] := by
      rw [List.filter_eq_nil_iff]
      intro n hn
      have z := zip_some hl n (List.mem_append_left _ hn)
      simp only [Option.isNone_iff_eq_none]
      intro q
      rw [q] at z
      cases z
    have la : (((fs ++ [l]).zip us).lookup l).isNone = false := by
      have z := zip_some hl l (by simp)
      cases q : ((fs ++ [l]).zip us).lookup l with
      | none => rw [q] at z; cases z
      | some _ => rfl
    have zb := zip_back nd hl
    simp only [List.map_nil, List.nil_append, List.append_nil, pure_bind, Option.getD_some, List.forIn_nil, lf', n1, dr, lf, tk, dp, zl, mis, zb, hn]
    simp only [List.isEmpty_nil, Bool.not_true, Bool.false_eq_true, if_false, List.forIn_cons, List.forIn_nil, pure_bind, la, zb, List.append_nil]
    rw [if_neg (by simp; omega)]
  | true =>
    have hl : us.length = fs.length := by simp at hl; omega
    have ez : (fs ++ [l]).zip us = fs.zip us := by
      have := List.zip_append (l₁ := fs) (r₁ := [l]) (l₂ := us) (r₂ := ([] : List Value)) hl.symm
      simpa using this
    have ez2 : (fs ++ [l]).zip (us ++ [d]) = fs.zip us ++ [(l, d)] := List.zip_append hl.symm
    have mis : fs.filter (fun n => ((fs.zip us).lookup n).isNone) = [] := by
      rw [List.filter_eq_nil_iff]
      intro n hn
      have z := zip_some hl n hn
      simp only [Option.isNone_iff_eq_none]
      intro q
      rw [q] at z
      cases z
    have la : ((fs.zip us).lookup l).isNone = true := by
      cases q : (fs.zip us).lookup l with
      | none => rfl
      | some v =>
        have m := (List.of_mem_zip (mem_of_lk q)).1
        rw [List.nodup_append] at nd
        exact (nd.2.2 _ m l (by simp) rfl).elim
    have zb := zip_back (us := us ++ [d]) nd (by simp [hl])
    rw [ez2] at zb
    simp only [List.map_nil, List.nil_append, List.append_nil, pure_bind, Option.getD_some, List.forIn_nil, lf', n1, dr, lf, tk, dp, zl, mis, ez, hn]
    simp only [List.isEmpty_nil, Bool.not_true, Bool.false_eq_true, if_false, List.forIn_cons, List.forIn_nil, pure_bind, la, if_true, zb, List.append_nil, ez2]
    rw [if_neg (by simp; omega)]
/-! ### values of the module -/
mutual
def denB (K : PySem.W.Frag) : D → Value → Bool
  | .non, .none => true
  | .bl b, .bool c => b == c
  | .int i, .int j _ => decide (i = j)
  | .str x, .str y _ => decide (x = y)
  | .tup xs, .ref a => (match K.lookup a with
    | some ⟨.type c, _, .seq its _, _⟩ => decide (c = "tuple") && (decide (its.size ≤ sizeLine) && denBL K xs its.toList)
    | _ => false)
  | _, _ => false
def denBL (K : PySem.W.Frag) : List D → List Value → Bool
  | [], [] => true
  | x :: xs, u :: us => denB K x u && denBL K xs us
  | _, _ => false
end
mutual
theorem denB_ok {K : PySem.W.Frag} : ∀ {d : D} {u : Value}, denB K d u = true → ∃ v, RelV v u ∧ ∀ W H, Den K W H d v
  | .non, u, h => by cases u <;> first | exact ⟨.non, rfl, fun _ _ => Den.mkNon⟩ | (unfold denB at h; cases h)
  | .bl b, u, h => by
    cases u with
    | bool c =>
      unfold denB at h
      have e : b = c := by simpa using h
      subst e
      exact ⟨.bl b, rfl, fun _ _ => Den.mkBl⟩
    | _ => unfold denB at h; cases h
  | .int i, u, h => by
    cases u with
    | int j t =>
      unfold denB at h
      have e : i = j := of_decide_eq_true h
      subst e
      exact ⟨.int i, ⟨t, rfl⟩, fun _ _ => Den.mkInt⟩
    | _ => unfold denB at h; cases h
  | .str x, u, h => by
    cases u with
    | str y t =>
      unfold denB at h
      have e : x = y := of_decide_eq_true h
      subst e
      exact ⟨.str x, ⟨t, rfl⟩, fun _ _ => Den.mkStr⟩
    | _ => unfold denB at h; cases h
  | .tup xs, u, h => by
    cases u with
    | ref a =>
      unfold denB at h
      cases q : K.lookup a with
      | none => rw [q] at h; cases h
      | some o =>
        obtain ⟨oc, od, dt, osl⟩ := o
        rw [q] at h
        cases oc with
        | type c =>
          cases dt with
          | seq its n =>
            obtain ⟨h1, h2⟩ := He.ba (show (decide (c = "tuple") && (decide (its.size ≤ sizeLine) && denBL K xs its.toList)) = true from h)
            obtain ⟨h3, h4⟩ := He.ba h2
            obtain ⟨vs, r, l⟩ := denBL_ok h4
            exact ⟨.ref a, rfl, fun W H => Den.mkTup (.inr ⟨_, its, n, q, congrArg Value.type (of_decide_eq_true h1), rfl, of_decide_eq_true h3, r⟩) (l W H)⟩
          | _ => cases h
        | _ => cases dt <;> cases h
    | _ => unfold denB at h; cases h
  | .lst _, _, h => by unfold denB at h; cases h
  | .dic _ _, _, h => by unfold denB at h; cases h
  | .dr, _, h => by unfold denB at h; cases h
  | .scr _, _, h => by unfold denB at h; cases h
  | .fn _, _, h => by unfold denB at h; cases h
  | .clo _ _, _, h => by unfold denB at h; cases h
  | .xc _ _, _, h => by unfold denB at h; cases h
theorem denBL_ok {K : PySem.W.Frag} : ∀ {ds : List D} {us : List Value}, denBL K ds us = true → ∃ vs, Vals vs us ∧ ∀ W H, DenL K W H ds vs
  | [], [], _ => ⟨[], .nil, fun _ _ => DenL.nil⟩
  | [], _ :: _, h => by unfold denBL at h; cases h
  | _ :: _, [], h => by unfold denBL at h; cases h
  | d :: ds, u :: us, h => by
    unfold denBL at h
    obtain ⟨h1, h2⟩ := He.ba h
    obtain ⟨v, r, l⟩ := denB_ok h1
    obtain ⟨vs, rr, ll⟩ := denBL_ok h2
    exact ⟨v :: vs, .cons r rr, fun W H => DenL.cons (l W H) (ll W H)⟩
end

/-! ### own exceptions, checked -/
def oexB (K : PySem.W.Frag) (C : Addr) : Bool := (match K.lookup C with
  | some ⟨.type "type", _, .cls cd, sl⟩ => (match cd.mro, sl.toList with
    | .ref C' :: bm, [_, _, _, _, some (.builtin n), _] => C' == C && n == "ValueError.__new__" && !cd.hasDel && cd.hasDict && PySem.HandSPX.refsVE bm
    | _, _ => false)
  | _ => false) && (He.eqO (PySem.W.findIn K (.ref C) "__setattr__") (some (some (.builtin "object.__setattr__"))) && (decide (PySem.W.subIn K (.ref C) (.type "BaseException") = some true) && (decide (PySem.W.typeIn K (.ref C) = some (.type "type")) && PySem.W.keepIn K (.ref C))))
theorem oexB_ok {K : PySem.W.Frag} {C : Addr} (h : oexB K C = true) : OexC K C := by
  unfold oexB at h
  obtain ⟨q, h⟩ := He.ba h
  obtain ⟨h1, h⟩ := He.ba h
  obtain ⟨h2, h⟩ := He.ba h
  obtain ⟨h3, h4⟩ := He.ba h
  refine ⟨?_, He.eqO_ok h1, of_decide_eq_true h2, of_decide_eq_true h3, h4⟩
  split at q
  · rename_i dd cd sl ho
    split at q
    · rename_i C' bm k0 k1 k2 k3 n k5 hm hs
      simp only [Bool.and_eq_true, beq_iff_eq, Bool.not_eq_true'] at q
      obtain ⟨⟨⟨⟨rfl, rfl⟩, hdel⟩, ht⟩, hr⟩ := q
      obtain ⟨nm, bs, mro, ns, qn, hd, sn, sub, ab, col, del⟩ := cd
      dsimp only at hm hdel ht
      subst hm hdel ht
      have hsl : sl = #[k0, k1, k2, k3, some (.builtin "ValueError.__new__"), k5] := by
        obtain ⟨l⟩ := sl
        simp only at hs
        rw [hs]
      subst hsl
      exact ⟨nm, qn, ns, bs, bm, sn, sub, ab, col, dd, k0, k1, k2, k3, k5, ho, hr⟩
    · cases q
  · cases q
def rclsB (K : PySem.W.Frag) (R : Addr) : Bool := PySem.W.readsIn K R (.type "type") && (He.eqO (PySem.W.specialIn K (.ref R) "__getattribute__") (some (some (.builtin "type.__getattribute__"))) && (match PySem.W.findCls K (.ref R) (.type "type") "__init__" with
  | some (.val (.builtin n)) => n == "ValueError.__init__"
  | _ => false))
theorem rclsB_ok {K : PySem.W.Frag} {R : Addr} (h : rclsB K R = true) : RCls K R := by
  obtain ⟨h1, h⟩ := He.ba h
  obtain ⟨h2, h3⟩ := He.ba h
  refine ⟨h1, He.eqO_ok h2, ?_⟩
  split at h3
  · rename_i n q
    rw [q]
    have e : n = "ValueError.__init__" := by simpa using h3
    rw [e]
  · cases h3
/-- a class of exceptions: its name, the names of its fields -/
abbrev Ec := Str × List Str
def ecB (K : PySem.W.Frag) (e : Ec) : Bool := (He.Fa.glo e.1).ok K && (match e.2 with
  | [] => (He.Fa.exc e.1).ok K
  | _ => oexB K (He.ga K e.1) && (xfB K (He.ga K e.1) && (He.eqO (PySem.W.findIn K (.ref (He.ga K e.1)) "__init__") (some (some (.ref (He.ma K (He.ga K e.1) "__init__")))) && (decide (PySem.W.typeIn K (.ref (He.ma K (He.ga K e.1) "__init__")) = some (.type "function")) &&
      e.2.all fun f => He.eqO (PySem.W.findIn K (.ref (He.ga K e.1)) f) (some none)))))
end PV

set_option Elab.async false
set_option linter.all false
set_option maxRecDepth 100000
set_option maxHeartbeats 1000000
/-! PV20: a law's data, its facts, all defs by depth. -/
namespace PV
open PySem PySem.Spec PyProof.Rows L2

/-- a law's data: its defs, its constants, its free names, its exceptions, the lines of the defs whose text is known -/
structure LD where
  fds : List FD
  vals : List (Str × D) := []
  free : List Str := []
  ecs : List Ec := []
  l1 : Nat
  l2 : Nat
  lb : Nat := 0
  lr : Nat := 0
  fvals : List Str := []
def nDraws : Str := "_law_draws"
def nDraw : Str := "_law_draw"
def FD.dfl (f : FD) : List Int := f.args.defaults.filterMap fun e => match e with
  | .Constant (.int i) _ _ => some i
  | _ => none
def ixE (ecs : List Ec) : List (Str × Nat) := ecs.zipIdx.map fun p => (p.1.1, p.2)
def LD.G (D : LD) : GX where
  fns := D.fds.zipIdx.map fun p => (p.1.name, p.2, p.1.ps.length, p.1.dfl.map PV.D.int)
  vals := D.vals
  free := D.free
  exs := D.ecs.zipIdx.map fun p => (p.1.1, p.2, p.1.2.length)
  cls := ixE D.ecs
  flds := (D.ecs.zipIdx.filter fun p => !p.1.2.isEmpty).map fun p => (p.2, p.1.2)
  fvals := D.fvals
  sub := fun n k => n == k || (match D.ecs[k]? with
    | some e => e.1 == ("RoundError" : Str)
    | none => false)
def LD.tbl (D : LD) (k : Nat) : Option Df := (D.fds[k]?).bind fun f => if f.name = nDraws then some (.prim .draws) else if f.name = nDraw then some (.prim .draw) else (f.tr D.G).map Df.src
def LD.XT (D : LD) (K : PySem.W.Frag) (n : Nat) : Option (Addr × List Str) := (D.ecs[n]?).map fun e => (He.ga K e.1, e.2)
def LD.defD (D : LD) (f : FD) : He.DefD := if f.name = nDraws then ⟨(f.name, none), f.name, f.name, drawsA D.l1, drawsB D.l1, drawsS, [], []⟩
  else if f.name = nDraw then ⟨(f.name, none), f.name, f.name, drawA D.l2, drawB D.l2, drawS, [], []⟩
  else ⟨(f.name, none), f.name, f.name, f.args, f.body, f.scope, f.dfl.map He.Dv.int, []⟩
def LD.inits (D : LD) : List He.DefD := D.ecs.filterMap fun e => match e.2 with
  | [] => none
  | [_] => some ⟨(e.1, some "__init__"), "__init__", e.1 ++ (".__init__" : Str), rfA D.lr, rfB D.lr, rfS, [], []⟩
  | _ => some ⟨(e.1, some "__init__"), "__init__", e.1 ++ (".__init__" : Str), btA D.lb, btB D.lb, btS, [], []⟩
def LD.fn (D : LD) : List He.DefD := D.fds.map D.defD ++ D.inits
/-- by the text alone -/
def plainB (p : Arguments) : Bool := p.posonlyargs.isEmpty && p.vararg.isNone && p.kwonlyargs.isEmpty && p.kw_defaults.isEmpty && p.kwarg.isNone
def fsB (N ps : List Str) (sc : Scope) : Bool := (match sc.kind with | .function => true | _ => false) && !sc.isCoroutine && !sc.isGenerator && decide N.Nodup && decide (N.take ps.length = ps) && (ps.all fun x => locB (sc.names.lookup x)) && sc.names.all fun y => decide (y.2 ≠ .free)
theorem fsB_ok {N ps : List Str} {sc : Scope} (h : fsB N ps sc = true) : FnScope N ps sc := by
  unfold fsB at h
  simp only [Bool.and_eq_true, List.all_eq_true, decide_eq_true_eq, Bool.not_eq_true'] at h
  obtain ⟨⟨⟨⟨⟨⟨h1, h2⟩, h3⟩, h4⟩, h5⟩, h6⟩, h7⟩ := h
  refine ⟨?_, h2, h3, h4, h5, fun x hx => ?_, h7⟩
  · split at h1
    · assumption
    · cases h1
  · exact (loc_ok (h6 x hx)).imp (fun z => z) (fun z => z)
def oneDfl (f : FD) : Bool := match f.dfl with
  | [] => f.args.defaults.isEmpty
  | [_] => !f.ps.isEmpty
  | _ => false
def LD.okF (D : LD) (f : FD) : Bool := if f.name = nDraws then f.ps == (["script"] : List Str) && f.dfl.isEmpty else if f.name = nDraw then f.ps == (["draws", "limit"] : List Str) && f.dfl.isEmpty
  else plainB f.args && fsB f.N f.ps f.scope && oneDfl f && (f.tr D.G).isSome
def LD.okT (D : LD) : Bool := D.fds.all D.okF && ((D.free.contains ("list" : Str) && (D.free.contains ("len" : Str) && D.free.contains ("int" : Str))) && D.ecs.all fun e => match e.2 with
  | [] => true
  | [x] => x == ("word" : Str)
  | [x, y] => x == ("place" : Str) && y == ("word" : Str)
  | _ => false)
/-- by the written part -/
def LD.chk (D : LD) (K : PySem.W.Frag) : Bool := (D.fds.all fun f => (He.Fa.glo f.name).ok K) && ((D.free.all fun x => (He.Fa.free x).ok K) && ((D.vals.all fun p => match PySem.W.nsIn K mainGlobals p.1 with
    | some (some u) => denB K p.2 u
    | _ => false) && (((D.ecs.all fun e => ecB K e) && (D.ecs.zipIdx.all fun p => D.ecs.zipIdx.all fun q => decide (PySem.W.exmOne K (.ref (He.ga K p.1.1)) (.ref (He.ga K q.1.1)) = some (D.G.sub p.2 q.2)))) && ((He.Fa.glo "RoundError").ok K && rclsB K (He.ga K "RoundError")))))

/-! ### the Hook -/
abbrev AlP : Type := He.AlD × Bool
def LD.obsP (D : LD) (g : Addr → Option Obj) : AlP := (He.obsD [] D.fn (He.frG g (He.asD g 4 ++ [cStatics])), D.chk (He.frG g (He.asD g 4 ++ [cStatics])))
def LD.hook (D : LD) : PySem.W.Hook where
  α := AlP
  obs := fun s => D.obsP s.heap.get?
  val := fun _ => (He.valD D.fn, true)
  says := fun _ h => ∃ K : PySem.W.Frag, K.In h ∧ He.SaysD [] D.fn K ∧ D.chk K = true
  of := fun _ _ e => ⟨_, He.frG_in, congrArg (fun z : AlP => z.1) e, congrArg (fun z : AlP => z.2) e⟩
  keeps := fun _ _ _ ⟨K, hK, c⟩ k => ⟨K, PySem.W.Frag.In.keeps hK k, c⟩
theorem LD.obs_eq (D : LD) {g : Addr → Option Obj} {s : Shared} (h : ∀ a, g a = s.heap.get? a) : D.obsP g = D.hook.obs s := by
  have e : g = s.heap.get? := funext h
  rw [e] <;> rfl

/-! ### all defs -/
theorem lk_mem {α β γ : Type} [BEq α] [LawfulBEq α] {l : List γ} {f : γ × Nat → α × β} {a : α} {b : β} (h : (l.zipIdx.map f).lookup a = some b) : ∃ i x, l[i]? = some x ∧ f (x, i) = (a, b) := by
  have m := mem_of_lk h
  rw [List.mem_map] at m
  obtain ⟨⟨x, i⟩, hm, e⟩ := m
  rw [List.mem_zipIdx_iff_getElem?] at hm
  exact ⟨i, x, hm, e⟩
section
variable {D : LD} {P : Program} {w : World} {K : PySem.W.Frag} {h : Heap} {mg : Str → Option Value} {base : Heap}
theorem stuck_ok2 {x q : Str} {params : Arguments} {body : List Stmt} {scope : Scope} {N ps : List Str} {XT : Nat → Option (Addr × List Str)} {dvs : List V} {fa : Addr} {fd : FuncData} {np : Nat} (F : FunD K x q params body scope dvs [] fa fd) (S : FnScope N ps scope) (hn : np = ps.length) :
    FnOk P w K mg base (L2.CX P w) 1 fa fd ps (spF K XT np fun _ => stuck) := by
  refine F.ok S (fun vs H Q E h => (spF_len h).trans hn) fun cdv A outer s H vs Q E hr h => ?_
  obtain ⟨W, ds, s0, _, _, _, _, hm⟩ := h
  exact hm.elim
/-- the facts -/
structure LFacts (D : LD) (K : PySem.W.Frag) (mg : Str → Option Value) : Prop where
  okT : D.okT = true
  fn : ∀ (i : Nat) (f : FD), D.fds[i]? = some f → mg f.name = some (.ref (He.ga K f.name)) ∧ ∃ fd, FunD K (D.defD f).name (D.defD f).qual (D.defD f).params (D.defD f).body (D.defD f).scope ((D.defD f).dvs K) ((D.defD f).kws K) (He.fAd K (D.defD f).at_) fd
  ini : ∀ d, d ∈ D.inits → ∃ fd, FunD K d.name d.qual d.params d.body d.scope (d.dvs K) (d.kws K) (He.fAd K d.at_) fd
  free : ∀ x, x ∈ D.free → mg x = none
  vals : ∀ p, p ∈ D.vals → ∃ u, mg p.1 = some u ∧ denB K p.2 u = true
  ecs : ∀ e, e ∈ D.ecs → ecB K e = true ∧ mg e.1 = some (.ref (He.ga K e.1))
  sub : ∀ (i j : Nat) (e f : Ec), D.ecs[i]? = some e → D.ecs[j]? = some f → PySem.W.exmOne K (.ref (He.ga K e.1)) (.ref (He.ga K f.1)) = some (D.G.sub i j)
  re : mg "RoundError" = some (.ref (He.ga K "RoundError")) ∧ RCls K (He.ga K "RoundError")
theorem LFacts.of (X : K.In h) (G : h.Ns mainGlobals mg) (hT : D.okT = true) (c : He.SaysD [] D.fn K) (hc : D.chk K = true) : LFacts D K mg := by
  unfold LD.chk at hc
  obtain ⟨h1, hc⟩ := He.ba hc
  obtain ⟨h2, hc⟩ := He.ba hc
  obtain ⟨h3, hc⟩ := He.ba hc
  obtain ⟨h4, h5⟩ := He.ba hc
  obtain ⟨h4, h4'⟩ := He.ba h4
  obtain ⟨h5, h6⟩ := He.ba h5
  have hd : ∀ {d : He.DefD}, d ∈ D.fn → ∃ fd, FunD K d.name d.qual d.params d.body d.scope (d.dvs K) (d.kws K) (He.fAd K d.at_) fd := fun {d} hm => by
    obtain ⟨i, hi⟩ := List.mem_iff_getElem?.mp hm
    exact c.def_ i hi
  refine ⟨hT, fun i f hf => ⟨?_, ?_⟩, fun d hd' => hd (List.mem_append_right _ hd'), fun x hx => ?_, fun p hp => ?_, fun e he => ?_, fun i j e f he hf => ?_, He.glo_ok X G h5, rclsB_ok h6⟩
  · exact He.glo_ok X G (List.all_eq_true.mp h1 f (List.mem_of_getElem? hf))
  · exact hd (List.mem_append_left _ (List.mem_map.mpr ⟨f, List.mem_of_getElem? hf, rfl⟩))
  · exact He.free_ok X G (List.all_eq_true.mp h2 x hx)
  · have z := List.all_eq_true.mp h3 p hp
    cases q : PySem.W.nsIn K mainGlobals p.1 with
    | none => rw [q] at z; cases z
    | some o =>
      rw [q] at z
      cases o with
      | none => cases z
      | some u => exact ⟨u, PySem.W.mg_of X G q, z⟩
  · have z := List.all_eq_true.mp h4 e he
    exact ⟨z, He.glo_ok X G (He.ba z).1⟩
  · have z := List.all_eq_true.mp h4' (e, i) (by rw [List.mem_zipIdx_iff_getElem?]; exact he)
    have z := List.all_eq_true.mp z (f, j) (by rw [List.mem_zipIdx_iff_getElem?]; exact hf)
    exact of_decide_eq_true z

theorem defD_src {f : FD} (h1 : f.name ≠ nDraws) (h2 : f.name ≠ nDraw) : D.defD f = ⟨(f.name, none), f.name, f.name, f.args, f.body, f.scope, f.dfl.map He.Dv.int, []⟩ := by
  unfold LD.defD
  rw [if_neg h1, if_neg h2]
theorem okF_src {f : FD} (h1 : f.name ≠ nDraws) (h2 : f.name ≠ nDraw) (h : D.okF f = true) : PlainA f.args ∧ FnScope f.N f.ps f.scope ∧ oneDfl f = true ∧ ∃ fn, f.tr D.G = some fn := by
  unfold LD.okF at h
  rw [if_neg h1, if_neg h2] at h
  simp only [Bool.and_eq_true] at h
  obtain ⟨⟨⟨p, s⟩, o⟩, q⟩ := h
  unfold plainB at p
  simp only [Bool.and_eq_true, List.isEmpty_iff, Option.isNone_iff_eq_none] at p
  obtain ⟨⟨⟨⟨p1, p2⟩, p3⟩, p4⟩, p5⟩ := p
  exact ⟨⟨p1, p2, p3, p4, p5⟩, fsB_ok s, o, Option.isSome_iff_exists.mp q⟩
theorem tbl_src {f : FD} {i : Nat} {fn : Fn} (hf : D.fds[i]? = some f) (h1 : f.name ≠ nDraws) (h2 : f.name ≠ nDraw) (ht : f.tr D.G = some fn) : D.tbl i = some (.src fn) := by
  unfold LD.tbl
  rw [hf]
  show (if f.name = nDraws then _ else if f.name = nDraw then _ else _) = _
  rw [if_neg h1, if_neg h2, ht]
  rfl
theorem tbl_draws {f : FD} {i : Nat} (hf : D.fds[i]? = some f) (h1 : f.name = nDraws) : D.tbl i = some (.prim .draws) := by
  unfold LD.tbl
  rw [hf]
  show (if f.name = nDraws then _ else if f.name = nDraw then _ else _) = _
  rw [if_pos h1]
theorem tbl_draw {f : FD} {i : Nat} (hf : D.fds[i]? = some f) (h0 : f.name ≠ nDraws) (h1 : f.name = nDraw) : D.tbl i = some (.prim .draw) := by
  unfold LD.tbl
  rw [hf]
  show (if f.name = nDraws then _ else if f.name = nDraw then _ else _) = _
  rw [if_neg h0, if_pos h1]
theorem draws_ne : nDraw ≠ nDraws := by decide +kernel
/-- the defaults of a call -/
theorem src_binds {f : FD} {fa : Addr} {fd : FuncData} (hp : PlainA f.args) (S : FnScope f.N f.ps f.scope) (o : oneDfl f = true) (F : FunD K f.name f.name f.args f.body f.scope (f.dfl.map V.int) [] fa fd) :
    ∀ m, m ≤ (f.dfl.map PV.D.int).length → ∃ dus dvs, Binds K fd f.ps dus ∧ Vals dvs dus ∧ ∀ W H, DenL K W H ((f.dfl.map PV.D.int).drop m) dvs := by
  have nd : f.ps.Nodup := by rw [← S.pre]; exact S.nd.sublist (List.take_sublist _ _)
  unfold oneDfl at o
  cases q : f.dfl with
  | nil =>
    intro m _
    rw [q] at F
    refine ⟨[], [], ?_, .nil, fun W H => by simp; exact DenL.nil⟩
    exact FunD.bindsN F fun kV doc pm an cdv ct us hl => bind_plain hp nd kV doc pm an cdv ct us hl
  | cons i r =>
    rw [q] at o F
    cases r with
    | cons _ _ => cases o
    | nil =>
      intro m hm
      have hm : m = 0 ∨ m = 1 := by simp at hm; omega
      have h0 : 0 < f.ps.length := by
        cases e : f.ps with
        | nil => rw [e] at o; cases o
        | cons _ _ => simp
      have dl : ∀ W H, DenL K W H [.int i] [V.int i] := fun W H => DenL.cons Den.mkInt DenL.nil
      rcases hm with rfl | rfl
      · obtain ⟨ds, r, b⟩ := FunD.binds1 (ps := f.ps) F (f.ps.length - 1) 0 (by simp) (by simp; omega) fun T kV doc pm an cdv ct us its hl h2 => by
          match its, h2 with
          | [d], _ => exact bind_dfl hp nd T kV doc pm an cdv ct us d true h0 (by rw [if_pos rfl]; show _ = f.ps.length; omega)
        exact ⟨ds, [V.int i], b, r, dl⟩
      · obtain ⟨ds, r, b⟩ := FunD.binds1 (ps := f.ps) F f.ps.length 1 (by simp) (by simp) fun T kV doc pm an cdv ct us its hl h2 => by
          match its, h2 with
          | [d], _ => exact bind_dfl hp nd T kV doc pm an cdv ct us d false h0 (by rw [if_neg Bool.false_ne_true]; exact hl)
        exact ⟨ds, [], b, r, fun W H => DenL.nil⟩
theorem primF_len {sub : Sub} {fns : Nat → Option Df} {d num np : Nat} {p : Prim} (hf : fns num = some (.prim p)) (hp : ∀ ds s, (evPrim p ds s).isSome → ds.length = np) : ∀ ds s, (evFn sub fns d num ds s).isSome → ds.length = np := fun ds s h => by
  cases d with
  | zero => cases h
  | succ d =>
    have h : ((match fns num with
      | some (.src f) => if ds.length = f.np then runFl (evSs sub (evFn sub fns d) f.body (PV.start f ds)) else stuck
      | some (.prim p) => evPrim p ds
      | none => stuck) s).isSome := h
    rw [hf] at h
    exact hp ds s h
theorem evPrim_fn {sub : Sub} {fns : Nat → Option Df} {d num : Nat} {p : Prim} (hf : fns num = some (.prim p)) : evFn sub fns (d + 1) num = evPrim p := by
  funext ds
  show (match fns num with
      | some (.src f) => if ds.length = f.np then runFl (evSs sub (evFn sub fns d) f.body (PV.start f ds)) else stuck
      | some (.prim p) => evPrim p ds
      | none => stuck) = _
  rw [hf]
theorem drw_len : ∀ ds s, (evPrim .draws ds s).isSome → ds.length = 1 := fun ds s h => by
  cases ds with
  | nil => cases h
  | cons d r =>
    cases r with
    | nil => rfl
    | cons _ _ => cases d <;> cases h
theorem drw1_len : ∀ ds s, (evPrim .draw ds s).isSome → ds.length = 2 := fun ds s h => by
  cases ds with
  | nil => cases h
  | cons d r =>
    cases r with
    | nil => cases d <;> cases h
    | cons e r =>
      cases r with
      | nil => rfl
      | cons _ _ => cases d <;> first | (cases h; done) | (cases e <;> cases h)

theorem ecB_plain {e : Ec} (h : ecB K e = true) (h2 : e.2 = []) : PySem.W.excIn K (He.ga K e.1) He.veBase "ValueError.__new__" = true ∧ PySem.W.keepIn K (.ref (He.ga K e.1)) = true ∧ PySem.W.subIn K (.ref (He.ga K e.1)) (.type "BaseException") = some true ∧ PySem.W.typeIn K (.ref (He.ga K e.1)) = some (.type "type") := by
  obtain ⟨x, fs⟩ := e
  dsimp only at h2
  subst h2
  obtain ⟨_, h⟩ := He.ba h
  exact He.exc_ok h
structure EcI (K : PySem.W.Frag) (x : Str) (fs : List Str) : Prop where
  oex : OexC K (He.ga K x)
  xf : XfC K (He.ga K x)
  iC : PySem.W.findIn K (.ref (He.ga K x)) "__init__" = some (some (.ref (He.ma K (He.ga K x) "__init__")))
  tI : PySem.W.typeIn K (.ref (He.ma K (He.ga K x) "__init__")) = some (.type "function")
  no : ∀ f, f ∈ fs → PySem.W.findIn K (.ref (He.ga K x)) f = some none
theorem ecB_init {x f : Str} {fs : List Str} (h : ecB K (x, f :: fs) = true) : EcI K x (f :: fs) := by
  obtain ⟨_, h⟩ := He.ba h
  obtain ⟨h1, h⟩ := He.ba h
  obtain ⟨h2, h⟩ := He.ba h
  obtain ⟨h3, h⟩ := He.ba h
  obtain ⟨h4, h5⟩ := He.ba h
  exact ⟨oexB_ok h1, xfB_ok h2, He.eqO_ok h3, of_decide_eq_true h4, fun f hf => He.eqO_ok (List.all_eq_true.mp h5 f hf)⟩
theorem okT_free (F : LFacts D K mg) : mg "list" = none ∧ mg "len" = none ∧ mg "int" = none := by
  have z := F.okT
  unfold LD.okT at z
  obtain ⟨z1, z2⟩ := He.ba (He.ba (He.ba z).2).1
  obtain ⟨z2, z3⟩ := He.ba z2
  exact ⟨F.free _ (by simpa using z1), F.free _ (by simpa using z2), F.free _ (by simpa using z3)⟩
theorem fns_ok (F : LFacts D K mg) {d : Nat} (ih : ∀ e, d = e + 1 → GOk D.G (evFn D.G.sub D.tbl e) (D.XT K) P w K mg base (e + 2)) {x : Str} {num np : Nat} {dds : List PV.D} (h : D.G.fns.lookup x = some (num, np, dds)) :
    FnFact (evFn D.G.sub D.tbl d) (D.XT K) P w K mg base (d + 2) x num np dds := by
  obtain ⟨i, f, hf, e⟩ := lk_mem h
  have hok : D.okF f = true := by
    have z := F.okT
    unfold LD.okT at z
    exact List.all_eq_true.mp (He.ba z).1 f (List.mem_of_getElem? hf)
  obtain ⟨hm, fd, FD⟩ := F.fn i f hf
  simp only [Prod.mk.injEq] at e
  obtain ⟨rfl, rfl, rfl, rfl⟩ := e
  by_cases h1 : f.name = nDraws
  · have ed : D.defD f = ⟨(f.name, none), f.name, f.name, drawsA D.l1, drawsB D.l1, drawsS, [], []⟩ := by unfold LD.defD; rw [if_pos h1]
    rw [ed] at FD
    have FD : FunD K f.name f.name (drawsA D.l1) (drawsB D.l1) drawsS [] [] (He.ga K f.name) fd := FD
    unfold LD.okF at hok
    rw [if_pos h1] at hok
    obtain ⟨o1, o2⟩ := He.ba hok
    have o1 : f.ps = (["script"] : List Str) := by simpa using o1
    have o2 : f.dfl = [] := by simpa using o2
    have ht := tbl_draws hf h1
    have hl : (mg "list" = none) := (okT_free F).1
    have hb : ∀ m, m ≤ (f.dfl.map PV.D.int).length → ∃ dus dvs, Binds K fd ["script"] dus ∧ Vals dvs dus ∧ ∀ W H, DenL K W H ((f.dfl.map PV.D.int).drop m) dvs := fun m _ => ⟨[], [], FunD.bindsN FD fun kV doc pm an cdv ct us hl => bind_plain (p := drawsA D.l1) ⟨rfl, rfl, rfl, rfl, rfl⟩ (by simp [drawsA]) kV doc pm an cdv ct us hl, .nil, fun W H => by rw [o2]; simp; exact DenL.nil⟩
    refine ⟨⟨He.ga K f.name, fd, ["script"], ?_, hm, FD.kp, rfl, hb⟩, by rw [o1]; exact primF_len ht drw_len⟩
    rw [o1]
    cases d with
    | zero => exact (stuck_ok2 FD fs_draws rfl).mono (by omega)
    | succ d =>
      rw [evPrim_fn ht]
      exact draws_ok FD hl
  · by_cases h2 : f.name = nDraw
    · have ed : D.defD f = ⟨(f.name, none), f.name, f.name, drawA D.l2, drawB D.l2, drawS, [], []⟩ := by unfold LD.defD; rw [if_neg h1, if_pos h2]
      rw [ed] at FD
      have FD : FunD K f.name f.name (drawA D.l2) (drawB D.l2) drawS [] [] (He.ga K f.name) fd := FD
      unfold LD.okF at hok
      rw [if_neg h1, if_pos h2] at hok
      obtain ⟨o1, o2⟩ := He.ba hok
      have o1 : f.ps = (["draws", "limit"] : List Str) := by simpa using o1
      have o2 : f.dfl = [] := by simpa using o2
      have ht := tbl_draw hf h1 h2
      have hl : (mg "len" = none ∧ mg "int" = none) := (okT_free F).2
      have hb : ∀ m, m ≤ (f.dfl.map PV.D.int).length → ∃ dus dvs, Binds K fd ["draws", "limit"] dus ∧ Vals dvs dus ∧ ∀ W H, DenL K W H ((f.dfl.map PV.D.int).drop m) dvs := fun m _ => ⟨[], [], FunD.bindsN FD fun kV doc pm an cdv ct us hl => bind_plain (p := drawA D.l2) ⟨rfl, rfl, rfl, rfl, rfl⟩ (show (["draws", "limit"] : List Str).Nodup by decide +kernel) kV doc pm an cdv ct us hl, .nil, fun W H => by rw [o2]; simp; exact DenL.nil⟩
      refine ⟨⟨He.ga K f.name, fd, ["draws", "limit"], ?_, hm, FD.kp, rfl, hb⟩, by rw [o1]; exact primF_len ht drw1_len⟩
      rw [o1]
      cases d with
      | zero => exact (stuck_ok2 FD fs_draw rfl).mono (by omega)
      | succ d =>
        rw [evPrim_fn ht]
        exact draw_ok FD hl.1 hl.2
    · rw [defD_src h1 h2] at FD
      obtain ⟨pA, S, o, fn, ht⟩ := okF_src h1 h2 hok
      have htb := tbl_src hf h1 h2 ht
      have ev : (He.DefD.dvs K ⟨(f.name, none), f.name, f.name, f.args, f.body, f.scope, f.dfl.map He.Dv.int, []⟩) = f.dfl.map V.int := by
        unfold He.DefD.dvs
        rw [List.map_map]
        rfl
      rw [ev] at FD
      have FD : FunD K f.name f.name f.args f.body f.scope (f.dfl.map V.int) [] (He.ga K f.name) fd := FD
      have np : fn.np = f.ps.length := by
        obtain ⟨b, _, e⟩ := ob ht
        cases e
        rfl
      refine ⟨⟨He.ga K f.name, fd, f.ps, ?_, hm, FD.kp, rfl, src_binds pA S o FD⟩, by rw [← np]; exact fn_len htb⟩
      cases d with
      | zero => exact (stuck_ok2 FD S rfl).mono (by omega)
      | succ d => exact src_ok (f := f) FD S ht htb (ih d rfl)

theorem okT_ec (F : LFacts D K mg) {x : Str} {fs : List Str} (h : (x, fs) ∈ D.ecs) : fs = [] ∨ fs = (["word"] : List Str) ∨ fs = (["place", "word"] : List Str) := by
  have z := F.okT
  unfold LD.okT at z
  have z := List.all_eq_true.mp (He.ba (He.ba z).2).2 (x, fs) h
  dsimp only at z
  split at z
  · exact .inl rfl
  · right; left
    rename_i y
    have e : y = "word" := by simpa using z
    rw [e]
  · right; right
    rename_i a b
    rw [Bool.and_eq_true] at z
    have e1 : a = "place" := by simpa using z.1
    have e2 : b = "word" := by simpa using z.2
    rw [e1, e2]
  · cases z
theorem XT_some {n : Nat} {C : Addr} {fs : List Str} (h : D.XT K n = some (C, fs)) : ∃ e, D.ecs[n]? = some e ∧ C = He.ga K e.1 ∧ fs = e.2 := by
  unfold LD.XT at h
  cases q : D.ecs[n]? with
  | none => rw [q] at h; cases h
  | some e => rw [q] at h; cases h; exact ⟨e, rfl, rfl, rfl⟩
theorem XT_of {n : Nat} {e : Ec} (h : D.ecs[n]? = some e) : D.XT K n = some (He.ga K e.1, e.2) := by
  unfold LD.XT
  rw [h]
  rfl
theorem gok (F : LFacts D K mg) : ∀ d, GOk D.G (evFn D.G.sub D.tbl d) (D.XT K) P w K mg base (d + 2) := by
  intro d
  induction d using Nat.strongRecOn with
  | ind d ih =>
    refine ⟨fun x num np dds h => fns_ok F (fun e he => ih e (by omega)) h, fun x v h => ?_, fun x h => ?_, fun x n m h X c e1 e2 e3 e4 e5 e6 e7 cal rm gl nd Wx es f p pos hs hl ha => ?_, fun x n h X e1 e2 e3 e4 e5 gl nd m j p p2 pos => ?_, fun x k h => ?_, fun k fs h => ?_⟩
    · obtain ⟨u, hu, hd⟩ := F.vals (x, v) (mem_of_lk h)
      obtain ⟨v', r, l⟩ := denB_ok hd
      exact ⟨u, v', hu, r, l⟩
    · exact F.free x (by have h : D.free.contains x = true := h; simpa using h)
    · obtain ⟨i, e, he, q⟩ := lk_mem h
      simp only [Prod.mk.injEq] at q
      obtain ⟨rfl, rfl, q⟩ := q
      obtain ⟨x, fs⟩ := e
      dsimp only at q gl nd ⊢
      have hmem := List.mem_of_getElem? he
      obtain ⟨hB, hg⟩ := F.ecs _ hmem
      have hx := XT_of (K := K) he
      cases fs with
      | nil => cases q
      | cons f0 fr =>
        have E := ecB_init hB
        refine ⟨He.ga K x, f0 :: fr, by rw [e7]; exact hx, q, ?_⟩
        subst e1 e2 e3 e4 e5
        have hr1 : Room (1 + 1) X.A := rm.mono (by omega)
        rw [← q] at hl ⊢
        rcases okT_ec F hmem with z | z | z
        · cases z
        · obtain ⟨fd, FD⟩ := F.ini ⟨(x, some "__init__"), "__init__", x ++ (".__init__" : Str), rfA D.lr, rfB D.lr, rfS, [], []⟩ (by
            unfold LD.inits
            rw [List.mem_filterMap]
            exact ⟨_, hmem, by rw [z]⟩)
          have FD : FunD X.K "__init__" (x ++ (".__init__" : Str)) (rfA D.lr) (rfB D.lr) rfS [] [] (He.ma X.K (He.ga X.K x) "__init__") fd := FD
          have hb : Binds X.K fd (["self", "word"] : List Str) [] := FunD.bindsN FD fun kV doc pm an cdv ct us hl => bind_plain (p := rfA D.lr) ⟨rfl, rfl, rfl, rfl, rfl⟩ (show (["self", "word"] : List Str).Nodup by decide +kernel) kV doc pm an cdv ct us hl
          rw [z] at E hl ⊢
          exact pmk_init (n := 0) E.oex E.iC E.tI E.no (rf_ok (L := 0) FD F.re.1 F.re.2) hr1 hb gl hg nd (by simp) hs hl (by simp) ha
        · obtain ⟨fd, FD⟩ := F.ini ⟨(x, some "__init__"), "__init__", x ++ (".__init__" : Str), btA D.lb, btB D.lb, btS, [], []⟩ (by
            unfold LD.inits
            rw [List.mem_filterMap]
            exact ⟨_, hmem, by rw [z]⟩)
          have FD : FunD X.K "__init__" (x ++ (".__init__" : Str)) (btA D.lb) (btB D.lb) btS [] [] (He.ma X.K (He.ga X.K x) "__init__") fd := FD
          have hb : Binds X.K fd (["self", "place", "word"] : List Str) [] := FunD.bindsN FD fun kV doc pm an cdv ct us hl => bind_plain (p := btA D.lb) ⟨rfl, rfl, rfl, rfl, rfl⟩ (show (["self", "place", "word"] : List Str).Nodup by decide +kernel) kV doc pm an cdv ct us hl
          rw [z] at E hl ⊢
          exact pmk_init (n := 0) E.oex E.iC E.tI E.no (bt_ok (L := 0) FD F.re.1 F.re.2) hr1 hb gl hg nd (by simp) hs hl (by simp) ha
    · obtain ⟨i, e, he, q⟩ := lk_mem h
      simp only [Prod.mk.injEq] at q
      obtain ⟨rfl, rfl, q⟩ := q
      have q : e.2 = [] := List.length_eq_zero_iff.mp q
      obtain ⟨hB, hg⟩ := F.ecs _ (List.mem_of_getElem? he)
      obtain ⟨k1, k2, k3, k4⟩ := ecB_plain hB q
      subst e1 e2 e3 e4 e5
      exact ⟨He.ga X.K e.1, by rw [XT_of he, q], pmk_own _root_.PySem.F.excBase_ValueError k1 hg k2 (raises_own k3 k4) gl nd⟩
    · obtain ⟨i, e, he, q⟩ := lk_mem h
      simp only [Prod.mk.injEq] at q
      obtain ⟨rfl, rfl⟩ := q
      obtain ⟨hB, hg⟩ := F.ecs _ (List.mem_of_getElem? he)
      refine ⟨_, .inl hg, fun n C fs hx => ?_⟩
      obtain ⟨f, hf, rfl, rfl⟩ := XT_some hx
      exact F.sub n i f e hf he
    · have m := mem_of_lk h
      simp only [LD.G, List.mem_map, List.mem_filter] at m
      obtain ⟨⟨e, i⟩, ⟨hm, hne⟩, q⟩ := m
      simp only [Prod.mk.injEq] at q
      obtain ⟨rfl, rfl⟩ := q
      rw [List.mem_zipIdx_iff_getElem?] at hm
      have hm : D.ecs[i]? = some e := hm
      obtain ⟨hB, hg⟩ := F.ecs _ (List.mem_of_getElem? hm)
      obtain ⟨x, fs⟩ := e
      cases fs with
      | nil => cases hne
      | cons f0 fr =>
        have E := ecB_init hB
        exact ⟨_, XT_of hm, E.xf, E.no⟩

/-! ### the law -/
/-- the law's def answers True at every script of at most n ints -/
def LD.Good (D : LD) (lawIx d n : Nat) : Prop := ∀ ns : List Int, ns.length ≤ n → ∃ s, evFn D.G.sub D.tbl d lawIx [.scr ns] {} = some (.ok (.bl true) s)
theorem scr_of {H : Hp} {a : Addr} {ns : List Int} (hO : Only H) (hS : SqL K H a (ns.map V.int)) : ScrAt K H a ns := by
  rcases hS with (h | ⟨o, h⟩) | h
  · rcases hO a with q | ⟨o, xs, q⟩
    · rw [h] at q; cases q
    · rw [h] at q; cases q
  · exact .inl ⟨o, h⟩
  · exact .inr fun H' => .inr h
theorem law_sp {i d n : Nat} (hG : D.Good i d n) (H : Hp) (a : Addr) (ns : List Int) (hl : ns.length ≤ n) (hO : Only H) (hS : SqL K H a (ns.map V.int)) :
    spF K (D.XT K) 1 (evFn D.G.sub D.tbl d i) [.ref a] H (fun v _ => v = .bl true) fun _ _ _ => False := by
  obtain ⟨s, hs⟩ := hG ns hl
  refine ⟨⟨fun _ => False, none⟩, [.scr ns], {}, rfl, ⟨fun _ h => h.elim, fun _ h => by cases h⟩, by unfold DsR; rfl, DenL.cons (by unfold Den; exact ⟨a, rfl, scr_of hO hS⟩) DenL.nil, ?_⟩
  rw [hs]
  exact fun v W' H' _ _ _ hv => den_bl hv
theorem law_fn (F : LFacts D K mg) {f : FD} {i d : Nat} (hf : D.fds[i]? = some f) (hn : f.name = "law") (hps : f.ps = (["script"] : List Str)) (hd0 : f.dfl = []) :
    ∃ fd : FuncData, (∀ (s : Shared) (v : Value), BindsTo s fd ⟨[v], []⟩ [("script", v)]) ∧ mg "law" = some (.ref (He.ga K "law")) ∧ ∀ (P : Program) (w : World) (base : Heap), FnOk P w K mg base (L2.CX P w) (d + 2) (He.ga K "law") fd ["script"] (spF K (D.XT K) 1 (evFn D.G.sub D.tbl d i)) := by
  have hok : D.okF f = true := by
    have z := F.okT
    unfold LD.okT at z
    exact List.all_eq_true.mp (He.ba z).1 f (List.mem_of_getElem? hf)
  obtain ⟨hm, fd, FD⟩ := F.fn i f hf
  have h1 : f.name ≠ nDraws := by rw [hn]; decide +kernel
  have h2 : f.name ≠ nDraw := by rw [hn]; decide +kernel
  rw [defD_src h1 h2] at FD
  obtain ⟨pA, S, o, fn, ht⟩ := okF_src h1 h2 hok
  have htb := tbl_src hf h1 h2 ht
  have ev : (He.DefD.dvs K ⟨(f.name, none), f.name, f.name, f.args, f.body, f.scope, f.dfl.map He.Dv.int, []⟩) = f.dfl.map V.int := by
    unfold He.DefD.dvs
    rw [List.map_map]
    rfl
  rw [ev] at FD
  have FD : FunD K f.name f.name f.args f.body f.scope (f.dfl.map V.int) [] (He.ga K f.name) fd := FD
  have key : ∀ (P : Program) (w : World) (base : Heap), FnOk P w K mg base (L2.CX P w) (d + 2) (He.ga K f.name) fd f.ps (spF K (D.XT K) f.ps.length (evFn D.G.sub D.tbl d i)) := fun P w base => by
    cases d with
    | zero => exact (stuck_ok2 FD S rfl).mono (by omega)
    | succ d => exact src_ok (f := f) FD S ht htb (gok F d)
  rw [hps, hn] at key
  refine ⟨fd, ?_, by rw [hn] at hm; exact hm, key⟩
  intro s v
  rw [hd0] at FD
  have z := FunD.bindsA (ps := f.ps) FD (fun kV doc pm an cdv ct us hl => bind_plain pA (by rw [← show f.ps = f.args.args.map (·.arg) from rfl, hps]; decide +kernel) kV doc pm an cdv ct us hl) s [v] (by rw [hps]; rfl)
  rw [hps] at z
  exact z
/-- nothing leaves -/
theorem fn_quiet {P : Program} {w : World} {k : Nat} {fa : Addr} {fd : FuncData} {ps : List Str} {sp : Sp} (F : FnOk P w K mg base (L2.CX P w) k fa fd ps sp) : FnOk P w K mg base L2.CX0 k fa fd ps (fun vs H Q _ => sp vs H Q fun _ _ _ => False) :=
  ⟨fun vs H Q E h => F.len vs H Q _ h, fun A outer s H args us vs Q E hr e0 hb hv h => codeAny_mono (F.run A outer s H args us vs Q (fun _ _ _ => False) hr e0 hb hv h) fun r s' hq => by
    cases r with
    | error e =>
      obtain ⟨_, _, _, _, _, _, _, _, _, _, _, _, z⟩ := hq
      exact z.elim
    | ok fl => cases fl <;> exact hq⟩
/-- what the end wishes of the head -/
theorem law_facts {h : Heap} {n i d : Nat} {f : FD} (X : K.In h) (G : h.Ns mainGlobals mg) (c : He.SaysD [] D.fn K) (hc : D.chk K = true) (hT : D.okT = true) (hf : D.fds[i]? = some f) (hn : f.name = "law") (hps : f.ps = (["script"] : List Str)) (hd0 : f.dfl = []) {fa : Addr} (hfa : mg "law" = some (.ref fa)) (hG : D.Good i d n) (P : Program) (w : World) :
    ∃ (K : PySem.W.Frag) (fd : FuncData) (sp : Sp), K.In h ∧ (∀ (s : Shared) (u : Value), BindsTo s fd ⟨[u], []⟩ [("script", u)]) ∧
        (∀ (H : Hp) (a : Addr) (ns : List Int), ns.length ≤ n → Only H → SqL K H a (ns.map V.int) → sp [.ref a] H (fun v _ => v = .bl true) fun _ _ _ => False) ∧
        ∀ base : Heap, K.In base → base.Ns mainGlobals mg → FnOk P w K mg base L2.CX0 (d + 2) fa fd ["script"] sp := by
  obtain ⟨fd, hb, hm, hF⟩ := law_fn (d := d) (LFacts.of X G hT c hc) hf hn hps hd0
  rw [hm] at hfa
  cases hfa
  exact ⟨K, fd, fun vs H Q _ => spF K (D.XT K) 1 (evFn D.G.sub D.tbl d i) vs H Q fun _ _ _ => False, X, hb, fun H a ns hl hO hS => law_sp hG H a ns hl hO hS, fun base _ _ => fn_quiet (hF P w base)⟩
end
end PV

set_option Elab.async false
set_option linter.all false
set_option maxRecDepth 100000
set_option maxHeartbeats 1000000
/-! PV21: the evaluator with a bound of turns, that the kernel computes. -/
namespace PV
open PySem

mutual
def evSF (N : Nat) (sub : Sub) (fe : FE) : S → Rho → MS
  | .asg i e, ρ => bindE (evE fe e ρ) ρ fun d => retS (.nx (ρ.set i (.v d)))
  | .aug i o e, ρ => bindE (bind (lift (getV ρ i)) fun x => bind (evE fe e ρ) fun y => lift (augD o x y)) ρ fun d => retS (.nx (ρ.set i (.v d)))
  | .own i e, ρ => bindE (evE fe e ρ) ρ fun d => match d with
    | .lst xs => retS (.nx (ρ.set i (.o xs)))
    | _ => stuckS
  | .unp is e, ρ => bindE (evE fe e ρ) ρ fun d => liftS (setT (.tup is) d ρ) fun ρ' => retS (.nx ρ')
  | .exp e, ρ => bindE (evE fe e ρ) ρ fun _ => retS (.nx ρ)
  | .app i e, ρ => match ρ[i]? with
    | some (.o xs) => bindE (evE fe e ρ) ρ fun d => if xs.length < sizeLine then retS (.nx (ρ.set i (.o (xs ++ [d])))) else stuckS
    | _ => stuckS
  | .put i j e, ρ => match ρ[i]? with
    | some (.o xs) => bindE (evE fe e ρ) ρ fun d => bindE (evE fe j ρ) ρ fun y => match y with
      | .int n => (match L2.ixN xs.length n with
        | some k => retS (.nx (ρ.set i (.o (xs.set k d))))
        | none => stuckS)
      | _ => stuckS
    | _ => stuckS
  | .ifs c a b, ρ => bindE (bind (evE fe c ρ) toB) ρ fun k => if k = true then evSsF N sub fe a ρ else evSsF N sub fe b ρ
  | .whl c b, ρ => whileN (fun ρ => bind (evE fe c ρ) toB) (fun ρ => evSsF N sub fe b ρ) N ρ
  | .for_ t it b, ρ => bindE (bind (evE fe it ρ) fun x => lift (items x)) ρ fun xs => forM t (fun ρ => evSsF N sub fe b ρ) xs ρ
  | .ret e, ρ => bindE (evE fe e ρ) ρ fun d => retS (.rt d)
  | .rais c es, ρ => bindE (evL fe es ρ) ρ fun xs => if xs.length = es.length then retS (.er ⟨c, xs⟩ ρ) else stuckS
  | .try_ b cs slot h, ρ => fun s => match evSsF N sub fe b ρ s with
    | none => none
    | some (.er e ρ1, s1) => if cs.any (fun c => sub e.cls c) then offF slot (evSsF N sub fe h (onS slot e ρ1) s1)
      else some (.er e ρ1, s1)
    | some (f, s1) => some (f, s1)
  | .pass, ρ => retS (.nx ρ)
  | .brk, ρ => retS (.bk ρ)
  | .cnt, ρ => retS (.ct ρ)
  | .frz is, ρ => retS (.nx (freeze ρ is))
def evSsF (N : Nat) (sub : Sub) (fe : FE) : List S → Rho → MS
  | [], ρ => retS (.nx ρ)
  | st :: r, ρ => fun s => match evSF N sub fe st ρ s with
    | none => none
    | some (.nx ρ', s1) => evSsF N sub fe r ρ' s1
    | some (f, s1) => some (f, s1)
end
def evFnF (N : Nat) (sub : Sub) (fns : Nat → Option Df) : Nat → FE
  | 0 => fun _ _ => stuck
  | d + 1 => fun k xs => match fns k with
    | some (.src f) => if xs.length = f.np then runFl (evSsF N sub (evFnF N sub fns d) f.body (start f xs)) else stuck
    | some (.prim p) => evPrim p xs
    | none => stuck
end PV

set_option Elab.async false
set_option linter.all false
set_option maxRecDepth 100000
set_option maxHeartbeats 1000000
/-! PV22: what the bounded evaluator answers, the evaluator answers. -/
namespace PV
open PySem

def Le {α : Type} (m m' : DS → Option α) : Prop := ∀ s r, m s = some r → m' s = some r
theorem Le.refl {α : Type} {m : DS → Option α} : Le m m := fun _ _ h => h
theorem Le.bind {α β : Type} {m m' : M α} {f f' : α → M β} (h : Le m m') (k : ∀ a, Le (f a) (f' a)) : Le (bind m f) (bind m' f') := fun s r e => by
  unfold PV.bind at e ⊢
  cases q : m s with
  | none => rw [q] at e; cases e
  | some z =>
    rw [q] at e
    rw [h s z q]
    cases z with
    | ok a s1 => exact k a s1 r e
    | ex x s1 => exact e
theorem Le.bindE {α : Type} {m m' : M α} {ρ : Rho} {f f' : α → MS} (h : Le m m') (k : ∀ a, Le (f a) (f' a)) : Le (bindE m ρ f) (bindE m' ρ f') := fun s r e => by
  unfold PV.bindE at e ⊢
  cases q : m s with
  | none => rw [q] at e; cases e
  | some z =>
    rw [q] at e
    rw [h s z q]
    cases z with
    | ok a s1 => exact k a s1 r e
    | ex x s1 => exact e
theorem Le.ite {α : Type} {c : Prop} [Decidable c] {m m' n n' : DS → Option α} (h : Le m m') (k : Le n n') : Le (if c then m else n) (if c then m' else n') := by
  split
  · exact h
  · exact k
theorem Le.mapL {α : Type} {f f' : D → M (Option α)} (h : ∀ x, Le (f x) (f' x)) : ∀ xs, Le (mapL f xs) (mapL f' xs)
  | [] => Le.refl
  | x :: xs => by
    unfold PV.mapL
    exact Le.bind (h x) fun y => Le.bind (Le.mapL h xs) fun ys => Le.refl
section
variable {fe fe' : FE} (hf : ∀ k xs, Le (fe k xs) (fe' k xs))
include hf
mutual
theorem leE : ∀ (e : E) (ρ : Rho), Le (evE fe e ρ) (evE fe' e ρ)
  | .c d, ρ => by simp only [evE]; exact Le.refl
  | .var i, ρ => by simp only [evE]; exact Le.refl
  | .bor i, ρ => by simp only [evE]; exact Le.refl
  | .tup es, ρ => by simp only [evE]; exact Le.bind (leL es ρ) fun _ => Le.refl
  | .lst es, ρ => by simp only [evE]; exact Le.bind (leL es ρ) fun _ => Le.refl
  | .bin o a b, ρ => by simp only [evE]; exact Le.bind (leE a ρ) fun _ => Le.bind (leE b ρ) fun _ => Le.refl
  | .neg a, ρ => by simp only [evE]; exact Le.bind (leE a ρ) fun _ => Le.refl
  | .not a, ρ => by simp only [evE]; exact Le.bind (leE a ρ) fun _ => Le.refl
  | .and a b, ρ => by simp only [evE]; exact Le.bind (leE a ρ) fun _ => Le.bind Le.refl fun _ => Le.ite (leE b ρ) Le.refl
  | .or a b, ρ => by simp only [evE]; exact Le.bind (leE a ρ) fun _ => Le.bind Le.refl fun _ => Le.ite Le.refl (leE b ρ)
  | .ifx c a b, ρ => by simp only [evE]; exact Le.bind (leE c ρ) fun _ => Le.bind Le.refl fun _ => Le.ite (leE a ρ) (leE b ρ)
  | .cmp o a b, ρ => by simp only [evE]; exact Le.bind (leE a ρ) fun _ => Le.bind (leE b ρ) fun _ => Le.refl
  | .chain o o' a b c, ρ => by simp only [evE]; exact Le.bind (leE a ρ) fun _ => Le.bind (leE b ρ) fun _ => Le.bind Le.refl fun _ => Le.ite (Le.bind (leE c ρ) fun _ => Le.refl) Le.refl
  | .chain3 o o' o2 a b c d, ρ => by
    simp only [evE]
    exact Le.bind (leE a ρ) fun _ => Le.bind (leE b ρ) fun _ => Le.bind Le.refl fun _ => Le.ite (Le.bind (leE c ρ) fun _ => Le.bind Le.refl fun _ => Le.ite (Le.bind (leE d ρ) fun _ => Le.refl) Le.refl) Le.refl
  | .call k es ds, ρ => by simp only [evE]; exact Le.bind (leL es ρ) fun _ => hf _ _
  | .blt b a, ρ => by simp only [evE]; exact Le.bind (leE a ρ) fun _ => Le.refl
  | .max a b, ρ => by simp only [evE]; exact Le.bind (leE a ρ) fun _ => Le.bind (leE b ρ) fun _ => Le.refl
  | .min a b, ρ => by simp only [evE]; exact Le.bind (leE a ρ) fun _ => Le.bind (leE b ρ) fun _ => Le.refl
  | .isin t a, ρ => by simp only [evE]; exact Le.bind (leE a ρ) fun _ => Le.refl
  | .idx a i, ρ => by simp only [evE]; exact Le.bind (leE a ρ) fun _ => Le.bind (leE i ρ) fun _ => Le.refl
  | .slc a l h, ρ => by simp only [evE]; exact Le.bind (leE a ρ) fun _ => Le.bind (Le.bind (leE l ρ) fun _ => Le.refl) fun _ => Le.bind (Le.bind (leE h ρ) fun _ => Le.refl) fun _ => Le.refl
  | .rev a, ρ => by simp only [evE]; exact Le.bind (leE a ρ) fun _ => Le.refl
  | .rng1 a, ρ => by simp only [evE]; exact Le.bind (leE a ρ) fun _ => Le.refl
  | .rng2 a b, ρ => by simp only [evE]; exact Le.bind (leE a ρ) fun _ => Le.bind (leE b ρ) fun _ => Le.refl
  | .comp own t it cd e, ρ => by
    simp only [evE]
    exact Le.bind (Le.bind (leE it ρ) fun _ => Le.refl) fun _ => Le.ite (Le.bind (Le.mapL (fun _ => Le.bind Le.refl fun ρ2 => Le.bind (leE cd ρ2) fun _ => Le.bind Le.refl fun _ => Le.ite (Le.bind (leE e ρ2) fun _ => Le.refl) Le.refl) _) fun _ => Le.refl) Le.refl
  | .mth m a es, ρ => by simp only [evE]; exact Le.bind (leE a ρ) fun _ => Le.ite (Le.bind (leL es ρ) fun _ => Le.refl) Le.refl
  | .xfld i k j, ρ => by simp only [evE]; exact Le.refl
  | .cloc i tab es, ρ => by
    simp only [evE]
    split
    · split
      · exact Le.bind (leL es ρ) fun _ => hf _ _
      · exact Le.refl
    · exact Le.bind (leL es ρ) fun _ => hf _ _
    · exact Le.refl
theorem leL : ∀ (es : List E) (ρ : Rho), Le (evL fe es ρ) (evL fe' es ρ)
  | [], ρ => by simp only [evL]; exact Le.refl
  | e :: es, ρ => by simp only [evL]; exact Le.bind (leE e ρ) fun _ => Le.bind (leL es ρ) fun _ => Le.refl
end
omit hf
theorem Le.while {c c' : Rho → M Bool} {b b' : Rho → MS} (hc : ∀ ρ, Le (c ρ) (c' ρ)) (hb : ∀ ρ, Le (b ρ) (b' ρ)) : ∀ n ρ, Le (whileN c b n ρ) (whileM c' b' ρ)
  | 0, ρ => fun s r h => by cases h
  | n + 1, ρ => fun s r h => by
    rw [whileM]
    unfold whileN at h
    cases q : c ρ s with
    | none => rw [q] at h; cases h
    | some z =>
      rw [q] at h
      rw [hc ρ s z q]
      cases z with
      | ex e s1 => exact h
      | ok k s1 =>
        cases k with
        | false => exact h
        | true =>
          dsimp only at h ⊢
          cases q2 : b ρ s1 with
          | none => rw [q2] at h; cases h
          | some z2 =>
            rw [q2] at h
            rw [hb ρ s1 z2 q2]
            obtain ⟨fl, s2⟩ := z2
            cases fl with
            | nx ρ' => exact Le.while hc hb n ρ' s2 r h
            | ct ρ' => exact Le.while hc hb n ρ' s2 r h
            | bk ρ' => exact h
            | rt d => exact h
            | er e ρ' => exact h
theorem Le.for {t : T} {b b' : Rho → MS} (hb : ∀ ρ, Le (b ρ) (b' ρ)) : ∀ xs ρ, Le (forM t b xs ρ) (forM t b' xs ρ)
  | [], ρ => Le.refl
  | x :: xs, ρ => by
    unfold forM
    cases setT t x ρ with
    | none => exact Le.refl
    | some ρ1 =>
      intro s r h
      have h : (match b ρ1 s with
        | none => none
        | some (.nx ρ2, s2) => forM t b xs ρ2 s2
        | some (.ct ρ2, s2) => forM t b xs ρ2 s2
        | some (.bk ρ2, s2) => some (.nx ρ2, s2)
        | some (.rt d, s2) => some (.rt d, s2)
        | some (.er e ρ2, s2) => some (.er e ρ2, s2)) = some r := h
      show (match b' ρ1 s with
        | none => none
        | some (.nx ρ2, s2) => forM t b' xs ρ2 s2
        | some (.ct ρ2, s2) => forM t b' xs ρ2 s2
        | some (.bk ρ2, s2) => some (.nx ρ2, s2)
        | some (.rt d, s2) => some (.rt d, s2)
        | some (.er e ρ2, s2) => some (.er e ρ2, s2)) = some r
      cases q : b ρ1 s with
      | none => rw [q] at h; cases h
      | some z =>
        rw [q] at h
        rw [hb ρ1 s z q]
        obtain ⟨fl, s2⟩ := z
        cases fl with
        | nx ρ' => exact Le.for hb xs ρ' s2 r h
        | ct ρ' => exact Le.for hb xs ρ' s2 r h
        | bk ρ' => exact h
        | rt d => exact h
        | er e ρ' => exact h
variable {sub : Sub} {N : Nat}
include hf
mutual
theorem leS : ∀ (st : S) (ρ : Rho), Le (evSF N sub fe st ρ) (evS sub fe' st ρ)
  | .asg i e, ρ => by simp only [evSF, evS]; exact Le.bindE (leE hf e ρ) fun _ => Le.refl
  | .aug i o e, ρ => by simp only [evSF, evS]; exact Le.bindE (Le.bind Le.refl fun _ => Le.bind (leE hf e ρ) fun _ => Le.refl) fun _ => Le.refl
  | .own i e, ρ => by simp only [evSF, evS]; exact Le.bindE (leE hf e ρ) fun _ => Le.refl
  | .unp is e, ρ => by simp only [evSF, evS]; exact Le.bindE (leE hf e ρ) fun _ => Le.refl
  | .exp e, ρ => by simp only [evSF, evS]; exact Le.bindE (leE hf e ρ) fun _ => Le.refl
  | .app i e, ρ => by
    simp only [evSF, evS]
    split
    · rename_i q
      try rw [q]
      exact Le.bindE (leE hf e ρ) fun _ => Le.refl
    · exact fun s r h => by cases h
  | .put i j e, ρ => by
    simp only [evSF, evS]
    split
    · rename_i q
      try rw [q]
      exact Le.bindE (leE hf e ρ) fun _ => Le.bindE (leE hf j ρ) fun _ => Le.refl
    · exact fun s r h => by cases h
  | .ifs c a b, ρ => by simp only [evSF, evS]; exact Le.bindE (Le.bind (leE hf c ρ) fun _ => Le.refl) fun _ => Le.ite (leSs a ρ) (leSs b ρ)
  | .whl c b, ρ => by simp only [evSF, evS]; exact Le.while (fun ρ => Le.bind (leE hf c ρ) fun _ => Le.refl) (fun ρ => leSs b ρ) N ρ
  | .for_ t it b, ρ => by simp only [evSF, evS]; exact Le.bindE (Le.bind (leE hf it ρ) fun _ => Le.refl) fun xs => Le.for (fun ρ => leSs b ρ) xs ρ
  | .ret e, ρ => by simp only [evSF, evS]; exact Le.bindE (leE hf e ρ) fun _ => Le.refl
  | .rais c es, ρ => by simp only [evSF, evS]; exact Le.bindE (leL hf es ρ) fun _ => Le.refl
  | .try_ b cs slot h, ρ => fun s r e => by
    simp only [evSF, evS] at e ⊢
    cases q : evSsF N sub fe b ρ s with
    | none => rw [q] at e; cases e
    | some z =>
      rw [q] at e
      rw [leSs b ρ s z q]
      obtain ⟨fl, s1⟩ := z
      cases fl with
      | er x ρ1 =>
        dsimp only at e ⊢
        split at e
        · rename_i hc
          rw [if_pos hc]
          cases q2 : evSsF N sub fe h (onS slot x ρ1) s1 with
          | none => rw [q2] at e; cases e
          | some z2 =>
            rw [q2] at e
            rw [leSs h _ s1 z2 q2]
            exact e
        · rename_i hc
          rw [if_neg hc]
          exact e
      | nx ρ1 => exact e
      | rt d => exact e
      | bk ρ1 => exact e
      | ct ρ1 => exact e
  | .pass, ρ => by simp only [evSF, evS]; exact Le.refl
  | .brk, ρ => by simp only [evSF, evS]; exact Le.refl
  | .cnt, ρ => by simp only [evSF, evS]; exact Le.refl
  | .frz is, ρ => by simp only [evSF, evS]; exact Le.refl
theorem leSs : ∀ (ss : List S) (ρ : Rho), Le (evSsF N sub fe ss ρ) (evSs sub fe' ss ρ)
  | [], ρ => by simp only [evSsF, evSs]; exact Le.refl
  | st :: r, ρ => fun s z e => by
    simp only [evSsF, evSs] at e ⊢
    cases q : evSF N sub fe st ρ s with
    | none => rw [q] at e; cases e
    | some y =>
      rw [q] at e
      rw [leS st ρ s y q]
      obtain ⟨fl, s1⟩ := y
      cases fl with
      | nx ρ' => exact leSs r ρ' s1 z e
      | rt d => exact e
      | bk ρ' => exact e
      | ct ρ' => exact e
      | er x ρ' => exact e
end
end
theorem leFn {N : Nat} {sub : Sub} {fns : Nat → Option Df} : ∀ d k xs, Le (evFnF N sub fns d k xs) (evFn sub fns d k xs)
  | 0, k, xs => Le.refl
  | d + 1, k, xs => fun s r h => by
    have ih := leFn (N := N) (sub := sub) (fns := fns) d
    have h : (match fns k with
      | some (.src f) => if xs.length = f.np then runFl (evSsF N sub (evFnF N sub fns d) f.body (start f xs)) else stuck
      | some (.prim p) => evPrim p xs
      | none => stuck) s = some r := h
    show (match fns k with
      | some (.src f) => if xs.length = f.np then runFl (evSs sub (evFn sub fns d) f.body (start f xs)) else stuck
      | some (.prim p) => evPrim p xs
      | none => stuck) s = some r
    cases q : fns k with
    | none => rw [q] at h; exact h
    | some df =>
      rw [q] at h
      cases df with
      | prim p => exact h
      | src f =>
        dsimp only at h ⊢
        by_cases hl : xs.length = f.np
        · rw [if_pos hl] at h ⊢
          unfold runFl at h ⊢
          cases q2 : evSsF N sub (evFnF N sub fns d) f.body (start f xs) s with
          | none => rw [q2] at h; cases h
          | some z =>
            rw [q2] at h
            rw [leSs ih f.body (start f xs) s z q2]
            exact h
        · rw [if_neg hl] at h
          cases h
end PV

set_option Elab.async false
set_option linter.all false
set_option maxRecDepth 100000
set_option maxHeartbeats 1000000
/-! PV23: the evaluator by rewriting. -/
namespace PV
open PySem

def thenS (m : MS) (k : Rho → MS) : MS := fun s => match m s with
  | none => none
  | some (.nx ρ', s1) => k ρ' s1
  | some (f, s1) => some (f, s1)
section
variable {α β : Type} {sub : Sub} {fe : FE} {ρ : Rho} {d : D} {e : Exc} {a : α}
theorem evSs_nil : evSs sub fe [] ρ = retS (.nx ρ) := by simp only [evSs]
theorem evSs_cons {st : S} {r : List S} : evSs sub fe (st :: r) ρ = thenS (evS sub fe st ρ) (evSs sub fe r) := by
  funext s
  simp only [evSs]
  rfl
theorem thenS_nx {k : Rho → MS} : thenS (retS (.nx ρ)) k = k ρ := rfl
theorem thenS_rt {k : Rho → MS} : thenS (retS (.rt d)) k = retS (.rt d) := rfl
theorem thenS_er {k : Rho → MS} : thenS (retS (.er e ρ)) k = retS (.er e ρ) := rfl
theorem thenS_bk {k : Rho → MS} : thenS (retS (.bk ρ)) k = retS (.bk ρ) := rfl
theorem thenS_ct {k : Rho → MS} : thenS (retS (.ct ρ)) k = retS (.ct ρ) := rfl
theorem bindE_ret {k : α → MS} : bindE (PV.ret a) ρ k = k a := rfl
theorem bindE_raise {k : α → MS} : bindE (PV.raise e : M α) ρ k = retS (.er e ρ) := rfl
theorem runFl_rt : runFl (retS (.rt d)) = PV.ret d := rfl
theorem runFl_nx : runFl (retS (.nx ρ)) = PV.ret .non := rfl
theorem runFl_er : runFl (retS (.er e ρ)) = PV.raise e := rfl
theorem runFl_ret {m : M D} {k : Rho → MS} : runFl (thenS (bindE m ρ fun d => retS (.rt d)) k) = m := by
  funext s
  unfold runFl thenS bindE
  cases m s with
  | none => rfl
  | some z => cases z <;> rfl
theorem liftS_some {k : α → MS} : liftS (some a) k = k a := rfl
theorem toB_bl' {b : Bool} : toB (.bl b) = PV.ret b := rfl
theorem getV_0 {r : Rho} : getV (.v d :: r) 0 = some d := rfl
theorem getV_s {x : Slot} {r : Rho} {i : Nat} : getV (x :: r) (i + 1) = getV r i := rfl
theorem getB_0 {r : Rho} : getB (.v d :: r) 0 = some d := rfl
theorem getB_o {xs : List D} {r : Rho} : getB (.o xs :: r) 0 = some (.lst xs) := rfl
theorem getB_s {x : Slot} {r : Rho} {i : Nat} : getB (x :: r) (i + 1) = getB r i := rfl
theorem forM_nil {t : T} {b : Rho → MS} : forM t b [] ρ = retS (.nx ρ) := rfl
/-- one call of a def -/
theorem fn_src {fns : Nat → Option Df} {d k : Nat} {f : Fn} {xs : List D} (h : fns k = some (.src f)) (hl : xs.length = f.np) : evFn sub fns (d + 1) k xs = runFl (evSs sub (evFn sub fns d) f.body (PV.start f xs)) := by
  show (match fns k with
      | some (.src f) => if xs.length = f.np then runFl (evSs sub (evFn sub fns d) f.body (PV.start f xs)) else stuck
      | some (.prim p) => evPrim p xs
      | none => stuck) = _
  rw [h]
  dsimp only
  rw [if_pos hl]
/-- loops -/
theorem whl_end {c : Rho → M Bool} {b : Rho → MS} (h : c ρ = PV.ret false) : whileM c b ρ = retS (.nx ρ) := by
  funext s
  rw [whileM, h]
  rfl
theorem whl_go {c : Rho → M Bool} {b : Rho → MS} {ρ' : Rho} (h : c ρ = PV.ret true) (hb : b ρ = retS (.nx ρ')) : whileM c b ρ = whileM c b ρ' := by
  funext s
  rw [whileM, h]
  show (match b ρ s with
    | none => none
    | some (.nx ρ', s2) => whileM c b ρ' s2
    | some (.ct ρ', s2) => whileM c b ρ' s2
    | some (.bk ρ', s2) => some (.nx ρ', s2)
    | some (.rt d, s2) => some (.rt d, s2)
    | some (.er e ρ', s2) => some (.er e ρ', s2)) = _
  rw [hb]
  rfl
theorem forM_go {t : T} {b : Rho → MS} {x : D} {xs : List D} {ρ1 ρ2 : Rho} (h : setT t x ρ = some ρ1) (hb : b ρ1 = retS (.nx ρ2)) : forM t b (x :: xs) ρ = forM t b xs ρ2 := by
  conv => lhs; unfold forM
  rw [h, liftS_some, hb]
  rfl
theorem forM_rt {t : T} {b : Rho → MS} {x : D} {xs : List D} {ρ1 : Rho} (h : setT t x ρ = some ρ1) (hb : b ρ1 = retS (.rt d)) : forM t b (x :: xs) ρ = retS (.rt d) := by
  conv => lhs; unfold forM
  rw [h, liftS_some, hb]
  rfl
theorem forM_er {t : T} {b : Rho → MS} {x : D} {xs : List D} {ρ1 ρ2 : Rho} (h : setT t x ρ = some ρ1) (hb : b ρ1 = retS (.er e ρ2)) : forM t b (x :: xs) ρ = retS (.er e ρ2) := by
  conv => lhs; unfold forM
  rw [h, liftS_some, hb]
  rfl
theorem mapL_nil {f : D → M (Option α)} : mapL f [] = PV.ret [] := rfl
theorem mapL_cons {f : D → M (Option α)} {x : D} {xs : List D} : mapL f (x :: xs) = bind (f x) fun y => bind (mapL f xs) fun ys => PV.ret (consO y ys) := rfl
end
end PV

set_option Elab.async false
set_option linter.all false
set_option maxRecDepth 100000
set_option maxHeartbeats 1000000
/-! PV24: defs that many laws share, by what they answer. -/
namespace PV
open PySem

def B_is_whole : List S := [
  (.ret (.and (.isin .int (.var 0)) (.not (.isin .bool (.var 0)))))]
def B_shared : List S := [
  (.unp [0, 1] (.tup [(.blt .abs (.var 0)), (.blt .abs (.var 1))])),
  (.whl (.cmp .ne (.var 1) (.c (.int 0))) [(.unp [0, 1] (.tup [(.var 1), (.bin .mod (.var 0) (.var 1))]))]),
  (.ret (.var 0))]
def B_fraction (iw sh xc : Nat) : List S := [
  (.ifs (.or (.not (.call iw [(.var 0)] [])) (.or (.not (.call iw [(.var 1)] [])) (.cmp .eq (.var 1) (.c (.int 0))))) [(.rais xc [])] []),
  (.asg 2 (.call sh [(.var 0), (.var 1)] [])),
  (.asg 2 (.ifx (.cmp .lt (.var 1) (.c (.int 0))) (.neg (.var 2)) (.var 2))),
  (.ret (.tup [(.bin .fdiv (.var 0) (.var 2)), (.bin .fdiv (.var 1) (.var 2))]))]
def B_times (fr : Nat) : List S := [
  (.ret (.call fr [(.bin .mul (.idx (.var 0) (.c (.int 0))) (.idx (.var 1) (.c (.int 0)))), (.bin .mul (.idx (.var 0) (.c (.int 1))) (.idx (.var 1) (.c (.int 1))))] []))]
def B_power (ra fr : Nat) : List S := [
  (.ifs (.cmp .ge (.var 1) (.c (.int 0))) [(.ret (.tup [(.call ra [(.var 0), (.var 1)] []), (.c (.int 1))]))] []),
  (.ret (.ifx (.cmp .gt (.var 0) (.c (.int 0))) (.tup [(.c (.int 1)), (.call ra [(.var 0), (.neg (.var 1))] [])]) (.call fr [(.c (.int 1)), (.call ra [(.var 0), (.neg (.var 1))] [])] [])))]
def B_raised : List S := [
  (.unp [2, 3] (.tup [(.c (.int 1)), (.var 0)])),
  (.whl (.cmp .gt (.var 1) (.c (.int 0))) [(.ifs (.cmp .eq (.bin .mod (.var 1) (.c (.int 2))) (.c (.int 1))) [(.asg 2 (.bin .mul (.var 2) (.var 3)))] []), (.asg 3 (.bin .mul (.var 3) (.var 3))), (.aug 1 .fdiv (.c (.int 2)))]),
  (.ret (.var 2))]
theorem size_2 : (2 : Nat) ≤ sizeLine := by rw [sizeLine_eq]; decide
section
variable {sub : Sub} {tb : Nat → Option Df} {d : Nat}
theorem is_whole_int {k : Nat} (h : tb k = some (.src ⟨1, 1, B_is_whole⟩)) {i : Int} : evFn sub tb (d + 1) k [.int i] = PV.ret (.bl true) := by
  rw [fn_src h rfl]
  simp [evSs_nil, evSs_cons, thenS_nx, thenS_rt, thenS_er, thenS_bk, thenS_ct, bindE_ret, bindE_raise, runFl_rt, runFl_nx, runFl_er, runFl_ret, liftS_some, toB_bl', getV_0, getV_s, getB_0, getB_o, getB_s, ret_bind, raise_bind, lift_some, bind_assoc, evS, evE, evL, PV.start, setT, setAll, binD, augD, addD, subD, mulD, fdivD, modD, powD, negD, idxD, L2.atI, L2.ixN, cmpD, ltD, eqD, isD, isNon, isIn, bltD, maxD, minD, mapL_nil, mapL_cons, forM_nil, consO, items, B_is_whole]
theorem gcd_loop {fe : FE} : ∀ (y : Nat) (x : Int), 0 ≤ x → ∃ z, whileM (fun ρ => bind (evE fe (.cmp .ne (.var 1) (.c (.int 0))) ρ) toB) (fun ρ => evSs sub fe [(.unp [0, 1] (.tup [(.var 1), (.bin .mod (.var 0) (.var 1))]))] ρ) [.v (.int x), .v (.int y)] = retS (.nx [.v (.int (Int.gcd x y)), z]) := by
  intro y
  induction y using Nat.strongRecOn with
  | ind y ih =>
    intro x hx
    by_cases hy : y = 0
    · subst hy
      refine ⟨.v (.int 0), ?_⟩
      rw [whl_end (by simp [evSs_nil, evSs_cons, thenS_nx, thenS_rt, thenS_er, thenS_bk, thenS_ct, bindE_ret, bindE_raise, runFl_rt, runFl_nx, runFl_er, runFl_ret, liftS_some, toB_bl', getV_0, getV_s, getB_0, getB_o, getB_s, ret_bind, raise_bind, lift_some, bind_assoc, evS, evE, evL, PV.start, setT, setAll, binD, augD, addD, subD, mulD, fdivD, modD, powD, negD, idxD, L2.atI, L2.ixN, cmpD, ltD, eqD, isD, isNon, isIn, bltD, maxD, minD, mapL_nil, mapL_cons, forM_nil, consO, items])]
      have e : ((Int.gcd x ((0 : Nat) : Int) : Nat) : Int) = x := by
        simp only [Int.gcd, Int.natCast_zero, Int.natAbs_zero, Nat.gcd_zero_right]
        exact Int.natAbs_of_nonneg hx
      rw [e]
      rfl
    · have h1 : (y : Int) ≠ 0 := by omega
      have hm : x.fmod y = ((x.toNat % y : Nat) : Int) := by
        rw [Int.fmod_eq_emod_of_nonneg x (by omega)]
        have : x = (x.toNat : Int) := by omega
        conv => lhs; rw [this]
        rfl
      obtain ⟨z, hz⟩ := ih (x.toNat % y) (Nat.mod_lt _ (by omega)) y (by omega)
      refine ⟨z, ?_⟩
      rw [whl_go (ρ' := [.v (.int y), .v (.int ((x.toNat % y : Nat) : Int))]) (by simp [evSs_nil, evSs_cons, thenS_nx, thenS_rt, thenS_er, thenS_bk, thenS_ct, bindE_ret, bindE_raise, runFl_rt, runFl_nx, runFl_er, runFl_ret, liftS_some, toB_bl', getV_0, getV_s, getB_0, getB_o, getB_s, ret_bind, raise_bind, lift_some, bind_assoc, evS, evE, evL, PV.start, setT, setAll, binD, augD, addD, subD, mulD, fdivD, modD, powD, negD, idxD, L2.atI, L2.ixN, cmpD, ltD, eqD, isD, isNon, isIn, bltD, maxD, minD, mapL_nil, mapL_cons, forM_nil, consO, items, hy]) (by simp [evSs_nil, evSs_cons, thenS_nx, thenS_rt, thenS_er, thenS_bk, thenS_ct, bindE_ret, bindE_raise, runFl_rt, runFl_nx, runFl_er, runFl_ret, liftS_some, toB_bl', getV_0, getV_s, getB_0, getB_o, getB_s, ret_bind, raise_bind, lift_some, bind_assoc, evS, evE, evL, PV.start, setT, setAll, binD, augD, addD, subD, mulD, fdivD, modD, powD, negD, idxD, L2.atI, L2.ixN, cmpD, ltD, eqD, isD, isNon, isIn, bltD, maxD, minD, mapL_nil, mapL_cons, forM_nil, consO, items, hy, hm, size_2]), hz]
      have : Int.gcd (y : Int) ((x.toNat % y : Nat) : Int) = Int.gcd x y := by
        have e : x = (x.toNat : Int) := by omega
        rw [e]
        simp only [Int.gcd, Int.natAbs_natCast, Int.toNat_natCast]
        rw [Nat.gcd_comm, ← Nat.gcd_rec, Nat.gcd_comm]
      rw [this]

theorem abs_ite (a : Int) : (if a < 0 then -a else a) = (a.natAbs : Int) := by
  split <;> omega
theorem shared_ok {k : Nat} (h : tb k = some (.src ⟨2, 2, B_shared⟩)) {a b : Int} : evFn sub tb (d + 1) k [.int a, .int b] = PV.ret (.int (Int.gcd a b)) := by
  rw [fn_src h rfl]
  obtain ⟨z, hz⟩ := gcd_loop (sub := sub) (fe := evFn sub tb d) b.natAbs (a.natAbs : Int) (by omega)
  have e : Int.gcd (a.natAbs : Int) (b.natAbs : Int) = Int.gcd a b := by simp [Int.gcd]
  rw [e] at hz
  have z1 : evS sub (evFn sub tb d) (.unp [0, 1] (.tup [(.blt .abs (.var 0)), (.blt .abs (.var 1))])) [.v (.int a), .v (.int b)] = retS (.nx [.v (.int a.natAbs), .v (.int b.natAbs)]) := by
    simp [evSs_nil, evSs_cons, thenS_nx, thenS_rt, thenS_er, thenS_bk, thenS_ct, bindE_ret, bindE_raise, runFl_rt, runFl_nx, runFl_er, runFl_ret, liftS_some, toB_bl', getV_0, getV_s, getB_0, getB_o, getB_s, ret_bind, raise_bind, lift_some, bind_assoc, evS, evE, evL, PV.start, setT, setAll, binD, augD, addD, subD, mulD, fdivD, modD, powD, negD, idxD, L2.atI, L2.ixN, cmpD, ltD, eqD, isD, isNon, isIn, bltD, maxD, minD, mapL_nil, mapL_cons, forM_nil, consO, items, abs_ite, size_2]
  show runFl (evSs sub (evFn sub tb d) B_shared [.v (.int a), .v (.int b)]) = _
  unfold B_shared
  rw [evSs_cons, z1, thenS_nx, evSs_cons]
  have z2 : evS sub (evFn sub tb d) (.whl (.cmp .ne (.var 1) (.c (.int 0))) [(.unp [0, 1] (.tup [(.var 1), (.bin .mod (.var 0) (.var 1))]))]) [.v (.int a.natAbs), .v (.int b.natAbs)] = retS (.nx [.v (.int (Int.gcd a b)), z]) := by
    rw [← hz]
    simp only [evS]
  rw [z2, thenS_nx]
  simp [evSs_nil, evSs_cons, thenS_nx, thenS_rt, thenS_er, thenS_bk, thenS_ct, bindE_ret, bindE_raise, runFl_rt, runFl_nx, runFl_er, runFl_ret, liftS_some, toB_bl', getV_0, getV_s, getB_0, getB_o, getB_s, ret_bind, raise_bind, lift_some, bind_assoc, evS, evE, evL, PV.start, setT, setAll, binD, augD, addD, subD, mulD, fdivD, modD, powD, negD, idxD, L2.atI, L2.ixN, cmpD, ltD, eqD, isD, isNon, isIn, bltD, maxD, minD, mapL_nil, mapL_cons, forM_nil, consO, items]
/-- lowest terms, the sign above -/
def signG (a b : Int) : Int := if b < 0 then -(Int.gcd a b : Int) else (Int.gcd a b : Int)
theorem signG_ne {a b : Int} (hb : b ≠ 0) : signG a b ≠ 0 := by
  have : Int.gcd a b ≠ 0 := fun z => hb (Int.gcd_eq_zero_iff.mp z).2
  unfold signG
  split <;> omega
theorem fraction_ok {k iw sh xc : Nat} (h : tb k = some (.src ⟨2, 3, B_fraction iw sh xc⟩)) (hi : tb iw = some (.src ⟨1, 1, B_is_whole⟩)) (hs : tb sh = some (.src ⟨2, 2, B_shared⟩)) {a b : Int} (hb : b ≠ 0) (hl : divOk (signG a b) = true) :
    evFn sub tb (d + 2) k [.int a, .int b] = PV.ret (.tup [.int (a.fdiv (signG a b)), .int (b.fdiv (signG a b))]) := by
  rw [fn_src h rfl]
  unfold B_fraction
  by_cases hn : b < 0
  · have e : signG a b = -(Int.gcd a b : Int) := if_pos hn
    rw [e] at hl ⊢
    simp [evSs_nil, evSs_cons, thenS_nx, thenS_rt, thenS_er, thenS_bk, thenS_ct, bindE_ret, bindE_raise, runFl_rt, runFl_nx, runFl_er, runFl_ret, liftS_some, toB_bl', getV_0, getV_s, getB_0, getB_o, getB_s, ret_bind, raise_bind, lift_some, bind_assoc, evS, evE, evL, PV.start, setT, setAll, binD, augD, addD, subD, mulD, fdivD, modD, powD, negD, idxD, L2.atI, L2.ixN, cmpD, ltD, eqD, isD, isNon, isIn, bltD, maxD, minD, mapL_nil, mapL_cons, forM_nil, consO, items, is_whole_int hi, shared_ok hs, hb, hn, hl, size_2]
  · have e : signG a b = (Int.gcd a b : Int) := if_neg hn
    rw [e] at hl ⊢
    simp [evSs_nil, evSs_cons, thenS_nx, thenS_rt, thenS_er, thenS_bk, thenS_ct, bindE_ret, bindE_raise, runFl_rt, runFl_nx, runFl_er, runFl_ret, liftS_some, toB_bl', getV_0, getV_s, getB_0, getB_o, getB_s, ret_bind, raise_bind, lift_some, bind_assoc, evS, evE, evL, PV.start, setT, setAll, binD, augD, addD, subD, mulD, fdivD, modD, powD, negD, idxD, L2.atI, L2.ixN, cmpD, ltD, eqD, isD, isNon, isIn, bltD, maxD, minD, mapL_nil, mapL_cons, forM_nil, consO, items, is_whole_int hi, shared_ok hs, hb, hn, hl, size_2]

theorem times_ok {k fr : Nat} (h : tb k = some (.src ⟨2, 2, B_times fr⟩)) {a b c e : Int} (h1 : mulOk a c = true) (h2 : mulOk b e = true) : evFn sub tb (d + 1) k [.tup [.int a, .int b], .tup [.int c, .int e]] = evFn sub tb d fr [.int (a * c), .int (b * e)] := by
  rw [fn_src h rfl]
  simp [evSs_nil, evSs_cons, thenS_nx, thenS_rt, thenS_er, thenS_bk, thenS_ct, bindE_ret, bindE_raise, runFl_rt, runFl_nx, runFl_er, runFl_ret, liftS_some, toB_bl', getV_0, getV_s, getB_0, getB_o, getB_s, ret_bind, raise_bind, lift_some, bind_assoc, evS, evE, evL, PV.start, setT, setAll, binD, augD, addD, subD, mulD, fdivD, modD, powD, negD, idxD, L2.atI, L2.ixN, cmpD, ltD, eqD, isD, isNon, isIn, bltD, maxD, minD, mapL_nil, mapL_cons, forM_nil, consO, items, B_times, h1, h2]
end
/-! ### sizes -/
def Bd (x : Int) (n : Nat) : Prop := x.natAbs < 2 ^ n
theorem Bd.log {x : Int} {n : Nat} (h : Bd x n) : x.natAbs.log2 ≤ n := by
  by_cases e : x.natAbs = 0
  · rw [e]; simp
  · exact Nat.le_of_lt ((Nat.log2_lt e).mpr h)
theorem Bd.mul {x y : Int} {n m : Nat} (h : Bd x n) (k : Bd y m) : Bd (x * y) (n + m) := by
  unfold Bd
  rw [Int.natAbs_mul, Nat.pow_add]
  exact Nat.mul_lt_mul'' h k
theorem Bd.mulOk {x y : Int} {n m : Nat} (h : Bd x n) (k : Bd y m) (e : n + m < 1000000) : mulOk x y = true := by
  have := h.log
  have := k.log
  unfold PV.mulOk
  exact decide_eq_true (by omega)
theorem Bd.mono {x : Int} {n m : Nat} (h : Bd x n) (k : n ≤ m) : Bd x m := Nat.lt_of_lt_of_le h (Nat.pow_le_pow_right (by decide) k)
theorem Bd.one : Bd 1 1 := by unfold Bd; decide
theorem divOk_2 : divOk 2 = true := by decide +kernel
section
variable {sub : Sub} {tb : Nat → Option Df} {d : Nat}
abbrev raisedBody : List S := [(.ifs (.cmp .eq (.bin .mod (.var 1) (.c (.int 2))) (.c (.int 1))) [(.asg 2 (.bin .mul (.var 2) (.var 3)))] []), (.asg 3 (.bin .mul (.var 3) (.var 3))), (.aug 1 .fdiv (.c (.int 2)))]
theorem raised_loop {fe : FE} {x : Slot} : ∀ (e : Nat) (f h : Int) (L M : Nat), Bd f M → Bd h L → M + L * e ≤ 300000 → ∃ z, whileM (fun ρ => bind (evE fe (.cmp .gt (.var 1) (.c (.int 0))) ρ) toB) (fun ρ => evSs sub fe raisedBody ρ) [x, .v (.int e), .v (.int f), .v (.int h)] =
    retS (.nx [x, .v (.int 0), .v (.int (f * h ^ e)), z]) := by
  intro e
  induction e using Nat.strongRecOn with
  | ind e ih =>
    intro f h L M hf hh hs
    by_cases he : e = 0
    · subst he
      refine ⟨.v (.int h), ?_⟩
      rw [whl_end (by simp [evSs_nil, evSs_cons, thenS_nx, thenS_rt, thenS_er, thenS_bk, thenS_ct, bindE_ret, bindE_raise, runFl_rt, runFl_nx, runFl_er, runFl_ret, liftS_some, toB_bl', getV_0, getV_s, getB_0, getB_o, getB_s, ret_bind, raise_bind, lift_some, bind_assoc, evS, evE, evL, PV.start, setT, setAll, binD, augD, addD, subD, mulD, fdivD, modD, powD, negD, idxD, L2.atI, L2.ixN, cmpD, ltD, eqD, isD, isNon, isIn, bltD, maxD, minD, mapL_nil, mapL_cons, forM_nil, consO, items]), Int.pow_zero, Int.mul_one]
      rfl
    · have hL : L ≤ L * e := Nat.le_mul_of_pos_right L (by omega)
      have hm : mulOk h h = true := hh.mulOk hh (by omega)
      have c1 : (0 : Int) < e := by omega
      have d2 : ((e : Nat) : Int).fdiv 2 = ((e / 2 : Nat) : Int) := by
        rw [Int.fdiv_eq_ediv_of_nonneg _ (by omega)]
        rfl
      have go : ∀ f' M', Bd f' M' → M' + 2 * L * (e / 2) ≤ 300000 → f' * (h * h) ^ (e / 2) = f * h ^ e → evSs sub fe raisedBody [x, .v (.int e), .v (.int f), .v (.int h)] = retS (.nx [x, .v (.int ((e / 2 : Nat) : Int)), .v (.int f'), .v (.int (h * h))]) →
          ∃ z, whileM (fun ρ => bind (evE fe (.cmp .gt (.var 1) (.c (.int 0))) ρ) toB) (fun ρ => evSs sub fe raisedBody ρ) [x, .v (.int e), .v (.int f), .v (.int h)] = retS (.nx [x, .v (.int 0), .v (.int (f * h ^ e)), z]) := fun f' M' b1 b2 b3 b4 => by
        obtain ⟨z, hz⟩ := ih (e / 2) (by omega) f' (h * h) (2 * L) M' b1 ((hh.mul hh).mono (by omega)) b2
        refine ⟨z, ?_⟩
        have hp : 0 < e := by omega
        rw [whl_go (by simp [evSs_nil, evSs_cons, thenS_nx, thenS_rt, thenS_er, thenS_bk, thenS_ct, bindE_ret, bindE_raise, runFl_rt, runFl_nx, runFl_er, runFl_ret, liftS_some, toB_bl', getV_0, getV_s, getB_0, getB_o, getB_s, ret_bind, raise_bind, lift_some, bind_assoc, evS, evE, evL, PV.start, setT, setAll, binD, augD, addD, subD, mulD, fdivD, modD, powD, negD, idxD, L2.atI, L2.ixN, cmpD, ltD, eqD, isD, isNon, isIn, bltD, maxD, minD, mapL_nil, mapL_cons, forM_nil, consO, items, he, c1, hp]) b4, hz, b3]
      have hp : (h * h) ^ (e / 2) = h ^ (2 * (e / 2)) := by
        rw [show h * h = h ^ 2 from by rw [Int.pow_succ, Int.pow_succ, Int.pow_zero, Int.one_mul], ← Int.pow_mul]
      by_cases ho : e % 2 = 1
      · have hm2 : mulOk f h = true := hf.mulOk hh (by omega)
        have m1 : ((e : Nat) : Int).fmod 2 = 1 := by
          rw [Int.fmod_eq_emod_of_nonneg _ (by omega)]
          omega
        refine go (f * h) (M + L) (hf.mul hh) ?_ ?_ ?_
        · have : 2 * L * (e / 2) + L = L * e := by
            have : e = 2 * (e / 2) + 1 := by omega
            conv => rhs; rw [this]
            rw [Nat.mul_add, Nat.mul_one, Nat.mul_comm 2 L, Nat.mul_assoc]
          omega
        · rw [hp, Int.mul_assoc, ← Int.pow_succ', show 2 * (e / 2) + 1 = e from by omega]
        · simp [evSs_nil, evSs_cons, thenS_nx, thenS_rt, thenS_er, thenS_bk, thenS_ct, bindE_ret, bindE_raise, runFl_rt, runFl_nx, runFl_er, runFl_ret, liftS_some, toB_bl', getV_0, getV_s, getB_0, getB_o, getB_s, ret_bind, raise_bind, lift_some, bind_assoc, evS, evE, evL, PV.start, setT, setAll, binD, augD, addD, subD, mulD, fdivD, modD, powD, negD, idxD, L2.atI, L2.ixN, cmpD, ltD, eqD, isD, isNon, isIn, bltD, maxD, minD, mapL_nil, mapL_cons, forM_nil, consO, items, raisedBody, m1, hm, hm2, d2, divOk_2]
      · have m1 : ((e : Nat) : Int).fmod 2 = 0 := by
          rw [Int.fmod_eq_emod_of_nonneg _ (by omega)]
          omega
        refine go f M hf ?_ ?_ ?_
        · have : 2 * L * (e / 2) = L * e := by
            have : e = 2 * (e / 2) := by omega
            conv => rhs; rw [this]
            rw [Nat.mul_comm 2 L, Nat.mul_assoc]
          omega
        · rw [hp, show 2 * (e / 2) = e from by omega]
        · simp [evSs_nil, evSs_cons, thenS_nx, thenS_rt, thenS_er, thenS_bk, thenS_ct, bindE_ret, bindE_raise, runFl_rt, runFl_nx, runFl_er, runFl_ret, liftS_some, toB_bl', getV_0, getV_s, getB_0, getB_o, getB_s, ret_bind, raise_bind, lift_some, bind_assoc, evS, evE, evL, PV.start, setT, setAll, binD, augD, addD, subD, mulD, fdivD, modD, powD, negD, idxD, L2.atI, L2.ixN, cmpD, ltD, eqD, isD, isNon, isIn, bltD, maxD, minD, mapL_nil, mapL_cons, forM_nil, consO, items, raisedBody, m1, hm, d2, divOk_2]
theorem raised_ok {k : Nat} (h : tb k = some (.src ⟨2, 4, B_raised⟩)) {b : Int} {e L : Nat} (hb : Bd b L) (hs : 1 + L * e ≤ 300000) : evFn sub tb (d + 1) k [.int b, .int e] = PV.ret (.int (b ^ e)) := by
  rw [fn_src h rfl]
  obtain ⟨z, hz⟩ := raised_loop (sub := sub) (fe := evFn sub tb d) (x := .v (.int b)) e 1 b L 1 Bd.one hb hs
  show runFl (evSs sub (evFn sub tb d) B_raised [.v (.int b), .v (.int e), .u, .u]) = _
  unfold B_raised
  have z1 : evS sub (evFn sub tb d) (.unp [2, 3] (.tup [(.c (.int 1)), (.var 0)])) [.v (.int b), .v (.int e), .u, .u] = retS (.nx [.v (.int b), .v (.int e), .v (.int 1), .v (.int b)]) := by
    simp [evSs_nil, evSs_cons, thenS_nx, thenS_rt, thenS_er, thenS_bk, thenS_ct, bindE_ret, bindE_raise, runFl_rt, runFl_nx, runFl_er, runFl_ret, liftS_some, toB_bl', getV_0, getV_s, getB_0, getB_o, getB_s, ret_bind, raise_bind, lift_some, bind_assoc, evS, evE, evL, PV.start, setT, setAll, binD, augD, addD, subD, mulD, fdivD, modD, powD, negD, idxD, L2.atI, L2.ixN, cmpD, ltD, eqD, isD, isNon, isIn, bltD, maxD, minD, mapL_nil, mapL_cons, forM_nil, consO, items, size_2]
  have z2 : evS sub (evFn sub tb d) (.whl (.cmp .gt (.var 1) (.c (.int 0))) raisedBody) [.v (.int b), .v (.int e), .v (.int 1), .v (.int b)] = retS (.nx [.v (.int b), .v (.int 0), .v (.int (b ^ e)), z]) := by
    rw [Int.one_mul] at hz
    rw [← hz]
    simp only [evS]
  rw [evSs_cons, z1, thenS_nx, evSs_cons, z2, thenS_nx]
  simp [evSs_nil, evSs_cons, thenS_nx, thenS_rt, thenS_er, thenS_bk, thenS_ct, bindE_ret, bindE_raise, runFl_rt, runFl_nx, runFl_er, runFl_ret, liftS_some, toB_bl', getV_0, getV_s, getB_0, getB_o, getB_s, ret_bind, raise_bind, lift_some, bind_assoc, evS, evE, evL, PV.start, setT, setAll, binD, augD, addD, subD, mulD, fdivD, modD, powD, negD, idxD, L2.atI, L2.ixN, cmpD, ltD, eqD, isD, isNon, isIn, bltD, maxD, minD, mapL_nil, mapL_cons, forM_nil, consO, items]
theorem power_up {k ra fr : Nat} (h : tb k = some (.src ⟨2, 2, B_power ra fr⟩)) (hr : tb ra = some (.src ⟨2, 4, B_raised⟩)) {b : Int} {e L : Nat} (hb : Bd b L) (hs : 1 + L * e ≤ 300000) : evFn sub tb (d + 2) k [.int b, .int e] = PV.ret (.tup [.int (b ^ e), .int 1]) := by
  rw [fn_src h rfl]
  simp [evSs_nil, evSs_cons, thenS_nx, thenS_rt, thenS_er, thenS_bk, thenS_ct, bindE_ret, bindE_raise, runFl_rt, runFl_nx, runFl_er, runFl_ret, liftS_some, toB_bl', getV_0, getV_s, getB_0, getB_o, getB_s, ret_bind, raise_bind, lift_some, bind_assoc, evS, evE, evL, PV.start, setT, setAll, binD, augD, addD, subD, mulD, fdivD, modD, powD, negD, idxD, L2.atI, L2.ixN, cmpD, ltD, eqD, isD, isNon, isIn, bltD, maxD, minD, mapL_nil, mapL_cons, forM_nil, consO, items, B_power, raised_ok hr hb hs, size_2]
theorem power_down {k ra fr : Nat} (h : tb k = some (.src ⟨2, 2, B_power ra fr⟩)) (hr : tb ra = some (.src ⟨2, 4, B_raised⟩)) {b : Int} {e L : Nat} (h0 : 0 < b) (he : 0 < e) (hb : Bd b L) (hs : 1 + L * e ≤ 300000) : evFn sub tb (d + 2) k [.int b, .int (-(e : Int))] = PV.ret (.tup [.int 1, .int (b ^ e)]) := by
  have e1 : ¬ (0 : Int) ≤ -(e : Int) := by omega
  rw [fn_src h rfl]
  have he' : ¬ e = 0 := by omega
  simp [evSs_nil, evSs_cons, thenS_nx, thenS_rt, thenS_er, thenS_bk, thenS_ct, bindE_ret, bindE_raise, runFl_rt, runFl_nx, runFl_er, runFl_ret, liftS_some, toB_bl', getV_0, getV_s, getB_0, getB_o, getB_s, ret_bind, raise_bind, lift_some, bind_assoc, evS, evE, evL, PV.start, setT, setAll, binD, augD, addD, subD, mulD, fdivD, modD, powD, negD, idxD, L2.atI, L2.ixN, cmpD, ltD, eqD, isD, isNon, isIn, bltD, maxD, minD, mapL_nil, mapL_cons, forM_nil, consO, items, B_power, raised_ok hr hb hs, size_2, e1, h0, he, he']
end
end PV

set_option Elab.async false
set_option linter.all false
set_option maxRecDepth 100000
set_option maxHeartbeats 1000000
/-! PV25: the laws' own small defs. -/
namespace PV
open PySem

def B_law_same (k : Nat) : List S := [
  (.ifs (.or (.isin .tuple (.var 1)) (.isin .list (.var 1))) [(.ifs (.or (.cmp .ne (.isin .tuple (.var 1)) (.isin .tuple (.var 0))) (.cmp .ne (.isin .list (.var 1)) (.isin .list (.var 0)))) [(.ret (.c (.bl false)))] []), (.ifs (.cmp .ne (.blt .len (.var 0)) (.blt .len (.var 1))) [(.ret (.c (.bl false)))] []), (.ret (.cmp .eq (.blt .len (.comp [2] (.one 2) (.rng1 (.blt .len (.var 1))) (.not (.call k [(.idx (.var 0) (.var 2)), (.idx (.var 1) (.var 2))] [])) (.var 2))) (.c (.int 0))))] []),
  (.ifs (.isin .str (.var 1)) [(.ret (.and (.isin .str (.var 0)) (.cmp .eq (.var 0) (.var 1))))] []),
  (.ifs (.cmp .is (.var 1) (.c .non)) [(.ret (.cmp .is (.var 0) (.c .non)))] []),
  (.ifs (.or (.isin .bool (.var 1)) (.isin .bool (.var 0))) [(.ret (.and (.isin .bool (.var 1)) (.and (.isin .bool (.var 0)) (.cmp .eq (.var 0) (.var 1)))))] []),
  (.ret (.and (.isin .int (.var 0)) (.and (.isin .int (.var 1)) (.cmp .eq (.var 0) (.var 1)))))]
def B_law_raise : List S := [
  (.asg 2 (.c (.int 1))),
  (.for_ (.one 3) (.rng1 (.var 1)) [(.asg 2 (.bin .mul (.var 2) (.var 0)))]),
  (.ret (.var 2))]
def B_law_low : List S := [
  (.unp [2, 3] (.tup [(.var 0), (.var 1)])),
  (.whl (.cmp .ne (.var 3) (.c (.int 0))) [(.unp [2, 3] (.tup [(.var 3), (.bin .mod (.var 2) (.var 3))]))]),
  (.ret (.tup [(.bin .fdiv (.var 0) (.var 2)), (.bin .fdiv (.var 1) (.var 2))]))]
def B_law_power (lo ra : Nat) : List S := [
  (.ret (.call lo [(.bin .mul (.var 1) (.call ra [(.var 0), (.max (.c (.int 0)) (.var 2))] [])), (.call ra [(.var 0), (.max (.c (.int 0)) (.neg (.var 2)))] [])] []))]
theorem rangeL_succ (a : Int) (n : Nat) : rangeL a 1 (n + 1) = .int a :: rangeL (a + 1) 1 n := by
  unfold rangeL
  rw [List.range_succ_eq_map, List.map_cons, List.map_map]
  congr 1
  · simp
  · refine List.map_congr_left fun k _ => ?_
    show D.int (a + ((k + 1 : Nat) : Int) * 1) = D.int (a + 1 + (k : Int) * 1)
    congr 1
    omega
theorem small_nat {n : Nat} (h : n ≤ 1000000) : smallI (n : Int) = true := by
  unfold smallI
  have h2 : (1000000 : Int) < 2 ^ 62 := by decide
  rw [Bool.and_eq_true]
  exact ⟨decide_eq_true (by omega), decide_eq_true (by omega)⟩
theorem rng1_nat {n : Nat} (h : n ≤ 1000000) : rng1D (.int n) = some (rangeL 0 1 n) := by
  show (if smallI (n : Int) = true then some (rangeL 0 1 (n : Int).toNat) else none) = _
  rw [if_pos (small_nat h), Int.toNat_natCast]
section
variable {sub : Sub} {tb : Nat → Option Df} {d : Nat}
theorem law_raise_loop {fe : FE} {b : Int} {L : Nat} (hb : Bd b L) {z0 : D} : ∀ (n : Nat) (a f : Int) (M : Nat) (z : Slot), Bd f M → M + L * n ≤ 300000 → ∃ z', forM (.one 3) (fun ρ => evSs sub fe [(.asg 2 (.bin .mul (.var 2) (.var 0)))] ρ) (rangeL a 1 n) [.v (.int b), .v z0, .v (.int f), z] =
    retS (.nx [.v (.int b), .v z0, .v (.int (f * b ^ n)), z'])
  | 0, a, f, M, z, _, _ => ⟨z, by
    rw [Int.pow_zero, Int.mul_one]
    rfl⟩
  | n + 1, a, f, M, z, hf, hs => by
    have hL : L * (n + 1) = L * n + L := Nat.mul_succ L n
    have hm : mulOk f b = true := hf.mulOk hb (by omega)
    obtain ⟨z', hz⟩ := law_raise_loop hb n (a + 1) (f * b) (M + L) (.v (.int a)) (hf.mul hb) (by omega)
    refine ⟨z', ?_⟩
    rw [rangeL_succ, forM_go (ρ1 := [.v (.int b), .v z0, .v (.int f), .v (.int a)]) (ρ2 := [.v (.int b), .v z0, .v (.int (f * b)), .v (.int a)]) rfl (by simp [evSs_nil, evSs_cons, thenS_nx, thenS_rt, thenS_er, thenS_bk, thenS_ct, bindE_ret, bindE_raise, runFl_rt, runFl_nx, runFl_er, runFl_ret, liftS_some, toB_bl', getV_0, getV_s, getB_0, getB_o, getB_s, ret_bind, raise_bind, lift_some, bind_assoc, evS, evE, evL, PV.start, setT, setAll, binD, augD, addD, subD, mulD, fdivD, modD, powD, negD, idxD, L2.atI, L2.ixN, cmpD, ltD, eqD, isD, isNon, isIn, bltD, maxD, minD, mapL_nil, mapL_cons, forM_nil, consO, items, hm]), hz, Int.pow_succ', Int.mul_assoc]
theorem law_raise_ok {k : Nat} (h : tb k = some (.src ⟨2, 4, B_law_raise⟩)) {b : Int} {n L : Nat} (hb : Bd b L) (hs : 1 + L * n ≤ 300000) (hn : n ≤ 1000000) : evFn sub tb (d + 1) k [.int b, .int n] = PV.ret (.int (b ^ n)) := by
  rw [fn_src h rfl]
  obtain ⟨z, hz⟩ := law_raise_loop (sub := sub) (fe := evFn sub tb d) (z0 := .int n) hb n 0 1 1 .u Bd.one hs
  show runFl (evSs sub (evFn sub tb d) B_law_raise [.v (.int b), .v (.int n), .u, .u]) = _
  unfold B_law_raise
  have z1 : evS sub (evFn sub tb d) (.asg 2 (.c (.int 1))) [.v (.int b), .v (.int n), .u, .u] = retS (.nx [.v (.int b), .v (.int n), .v (.int 1), .u]) := by simp [evSs_nil, evSs_cons, thenS_nx, thenS_rt, thenS_er, thenS_bk, thenS_ct, bindE_ret, bindE_raise, runFl_rt, runFl_nx, runFl_er, runFl_ret, liftS_some, toB_bl', getV_0, getV_s, getB_0, getB_o, getB_s, ret_bind, raise_bind, lift_some, bind_assoc, evS, evE, evL, PV.start, setT, setAll, binD, augD, addD, subD, mulD, fdivD, modD, powD, negD, idxD, L2.atI, L2.ixN, cmpD, ltD, eqD, isD, isNon, isIn, bltD, maxD, minD, mapL_nil, mapL_cons, forM_nil, consO, items]
  have z2 : evS sub (evFn sub tb d) (.for_ (.one 3) (.rng1 (.var 1)) [(.asg 2 (.bin .mul (.var 2) (.var 0)))]) [.v (.int b), .v (.int n), .v (.int 1), .u] = retS (.nx [.v (.int b), .v (.int n), .v (.int (b ^ n)), z]) := by
    rw [Int.one_mul] at hz
    rw [← hz]
    simp only [evS]
    have e : (bind (evE (evFn sub tb d) (.rng1 (.var 1)) [.v (.int b), .v (.int n), .v (.int 1), .u]) fun x => lift (items x)) = PV.ret (rangeL 0 1 n) := by
      have e1 : evE (evFn sub tb d) (.rng1 (.var 1)) [.v (.int b), .v (.int n), .v (.int 1), .u] = PV.ret (.lst (rangeL 0 1 n)) := by
        simp only [evE, getV_s, getV_0]
        rw [lift_some, ret_bind, rng1_nat hn, lift_some, ret_bind]
      rw [e1, ret_bind]
      rfl
    rw [e, bindE_ret]
  rw [evSs_cons, z1, thenS_nx, evSs_cons, z2, thenS_nx]
  simp [evSs_nil, evSs_cons, thenS_nx, thenS_rt, thenS_er, thenS_bk, thenS_ct, bindE_ret, bindE_raise, runFl_rt, runFl_nx, runFl_er, runFl_ret, liftS_some, toB_bl', getV_0, getV_s, getB_0, getB_o, getB_s, ret_bind, raise_bind, lift_some, bind_assoc, evS, evE, evL, PV.start, setT, setAll, binD, augD, addD, subD, mulD, fdivD, modD, powD, negD, idxD, L2.atI, L2.ixN, cmpD, ltD, eqD, isD, isNon, isIn, bltD, maxD, minD, mapL_nil, mapL_cons, forM_nil, consO, items]
theorem low_loop {fe : FE} {x0 y0 : Slot} : ∀ (y : Nat) (x : Int), 0 ≤ x → ∃ z, whileM (fun ρ => bind (evE fe (.cmp .ne (.var 3) (.c (.int 0))) ρ) toB) (fun ρ => evSs sub fe [(.unp [2, 3] (.tup [(.var 3), (.bin .mod (.var 2) (.var 3))]))] ρ) [x0, y0, .v (.int x), .v (.int y)] = retS (.nx [x0, y0, .v (.int (Int.gcd x y)), z]) := by
  intro y
  induction y using Nat.strongRecOn with
  | ind y ih =>
    intro x hx
    by_cases hy : y = 0
    · subst hy
      refine ⟨.v (.int 0), ?_⟩
      rw [whl_end (by simp [evSs_nil, evSs_cons, thenS_nx, thenS_rt, thenS_er, thenS_bk, thenS_ct, bindE_ret, bindE_raise, runFl_rt, runFl_nx, runFl_er, runFl_ret, liftS_some, toB_bl', getV_0, getV_s, getB_0, getB_o, getB_s, ret_bind, raise_bind, lift_some, bind_assoc, evS, evE, evL, PV.start, setT, setAll, binD, augD, addD, subD, mulD, fdivD, modD, powD, negD, idxD, L2.atI, L2.ixN, cmpD, ltD, eqD, isD, isNon, isIn, bltD, maxD, minD, mapL_nil, mapL_cons, forM_nil, consO, items])]
      have e : ((Int.gcd x ((0 : Nat) : Int) : Nat) : Int) = x := by
        simp only [Int.gcd, Int.natCast_zero, Int.natAbs_zero, Nat.gcd_zero_right]
        exact Int.natAbs_of_nonneg hx
      rw [e]
      rfl
    · have h1 : (y : Int) ≠ 0 := by omega
      have hm : x.fmod y = ((x.toNat % y : Nat) : Int) := by
        rw [Int.fmod_eq_emod_of_nonneg x (by omega)]
        have : x = (x.toNat : Int) := by omega
        conv => lhs; rw [this]
        rfl
      obtain ⟨z, hz⟩ := ih (x.toNat % y) (Nat.mod_lt _ (by omega)) y (by omega)
      refine ⟨z, ?_⟩
      rw [whl_go (ρ' := [x0, y0, .v (.int y), .v (.int ((x.toNat % y : Nat) : Int))]) (by simp [evSs_nil, evSs_cons, thenS_nx, thenS_rt, thenS_er, thenS_bk, thenS_ct, bindE_ret, bindE_raise, runFl_rt, runFl_nx, runFl_er, runFl_ret, liftS_some, toB_bl', getV_0, getV_s, getB_0, getB_o, getB_s, ret_bind, raise_bind, lift_some, bind_assoc, evS, evE, evL, PV.start, setT, setAll, binD, augD, addD, subD, mulD, fdivD, modD, powD, negD, idxD, L2.atI, L2.ixN, cmpD, ltD, eqD, isD, isNon, isIn, bltD, maxD, minD, mapL_nil, mapL_cons, forM_nil, consO, items, hy]) (by simp [evSs_nil, evSs_cons, thenS_nx, thenS_rt, thenS_er, thenS_bk, thenS_ct, bindE_ret, bindE_raise, runFl_rt, runFl_nx, runFl_er, runFl_ret, liftS_some, toB_bl', getV_0, getV_s, getB_0, getB_o, getB_s, ret_bind, raise_bind, lift_some, bind_assoc, evS, evE, evL, PV.start, setT, setAll, binD, augD, addD, subD, mulD, fdivD, modD, powD, negD, idxD, L2.atI, L2.ixN, cmpD, ltD, eqD, isD, isNon, isIn, bltD, maxD, minD, mapL_nil, mapL_cons, forM_nil, consO, items, hy, hm, size_2]), hz]
      have : Int.gcd (y : Int) ((x.toNat % y : Nat) : Int) = Int.gcd x y := by
        have e : x = (x.toNat : Int) := by omega
        rw [e]
        simp only [Int.gcd, Int.natAbs_natCast, Int.toNat_natCast]
        rw [Nat.gcd_comm, ← Nat.gcd_rec, Nat.gcd_comm]
      rw [this]
theorem law_low_ok {k : Nat} (h : tb k = some (.src ⟨2, 4, B_law_low⟩)) {a : Int} {u : Nat} (ha : 0 ≤ a) (hu : 0 < u) (hl : divOk (Int.gcd a u) = true) : evFn sub tb (d + 1) k [.int a, .int u] = PV.ret (.tup [.int (a.fdiv (Int.gcd a u)), .int ((u : Int).fdiv (Int.gcd a u))]) := by
  rw [fn_src h rfl]
  obtain ⟨z, hz⟩ := low_loop (sub := sub) (fe := evFn sub tb d) (x0 := .v (.int a)) (y0 := .v (.int u)) u a ha
  show runFl (evSs sub (evFn sub tb d) B_law_low [.v (.int a), .v (.int u), .u, .u]) = _
  unfold B_law_low
  have z1 : evS sub (evFn sub tb d) (.unp [2, 3] (.tup [(.var 0), (.var 1)])) [.v (.int a), .v (.int u), .u, .u] = retS (.nx [.v (.int a), .v (.int u), .v (.int a), .v (.int u)]) := by simp [evSs_nil, evSs_cons, thenS_nx, thenS_rt, thenS_er, thenS_bk, thenS_ct, bindE_ret, bindE_raise, runFl_rt, runFl_nx, runFl_er, runFl_ret, liftS_some, toB_bl', getV_0, getV_s, getB_0, getB_o, getB_s, ret_bind, raise_bind, lift_some, bind_assoc, evS, evE, evL, PV.start, setT, setAll, binD, augD, addD, subD, mulD, fdivD, modD, powD, negD, idxD, L2.atI, L2.ixN, cmpD, ltD, eqD, isD, isNon, isIn, bltD, maxD, minD, mapL_nil, mapL_cons, forM_nil, consO, items, size_2]
  have z2 : evS sub (evFn sub tb d) (.whl (.cmp .ne (.var 3) (.c (.int 0))) [(.unp [2, 3] (.tup [(.var 3), (.bin .mod (.var 2) (.var 3))]))]) [.v (.int a), .v (.int u), .v (.int a), .v (.int u)] = retS (.nx [.v (.int a), .v (.int u), .v (.int (Int.gcd a u)), z]) := by
    rw [← hz]
    simp only [evS]
  rw [evSs_cons, z1, thenS_nx, evSs_cons, z2, thenS_nx]
  simp [evSs_nil, evSs_cons, thenS_nx, thenS_rt, thenS_er, thenS_bk, thenS_ct, bindE_ret, bindE_raise, runFl_rt, runFl_nx, runFl_er, runFl_ret, liftS_some, toB_bl', getV_0, getV_s, getB_0, getB_o, getB_s, ret_bind, raise_bind, lift_some, bind_assoc, evS, evE, evL, PV.start, setT, setAll, binD, augD, addD, subD, mulD, fdivD, modD, powD, negD, idxD, L2.atI, L2.ixN, cmpD, ltD, eqD, isD, isNon, isIn, bltD, maxD, minD, mapL_nil, mapL_cons, forM_nil, consO, items, hl, size_2]

theorem max0 (e : Int) : maxD (.int 0) (.int e) = some (.int (e.toNat : Int)) := by
  have e2 : (if e > 0 then e else 0) = (e.toNat : Int) := by split <;> omega
  show some (D.int (if e > 0 then e else 0)) = _
  rw [e2]
theorem law_power_ok {k lo ra : Nat} (h : tb k = some (.src ⟨3, 3, B_law_power lo ra⟩)) (hr : tb ra = some (.src ⟨2, 4, B_law_raise⟩)) {b x e : Int} {L M : Nat} (hb : Bd b L) (hx : Bd x M) (hs : 1 + L * e.toNat ≤ 300000) (hs2 : 1 + L * (-e).toNat ≤ 300000) (hM : M ≤ 300000) (he : e.toNat ≤ 1000000) (he2 : (-e).toNat ≤ 1000000) :
    evFn sub tb (d + 2) k [.int b, .int x, .int e] = evFn sub tb (d + 1) lo [.int (x * b ^ e.toNat), .int (b ^ (-e).toNat)] := by
  rw [fn_src h rfl]
  have bp : ∀ n : Nat, Bd (b ^ n) (1 + L * n) := fun n => by
    induction n with
    | zero => rw [Int.pow_zero]; exact Bd.one.mono (Nat.le_add_right _ _)
    | succ n ih => rw [Int.pow_succ]; exact (ih.mul hb).mono (by rw [Nat.mul_succ]; omega)
  have hm : mulOk x (b ^ e.toNat) = true := hx.mulOk (bp e.toNat) (show M + (1 + L * e.toNat) < 1000000 by omega)
  have r1 := law_raise_ok (sub := sub) (d := d) hr hb hs he
  have r2 := law_raise_ok (sub := sub) (d := d) hr hb hs2 he2
  show runFl (evSs sub (evFn sub tb (d + 1)) (B_law_power lo ra) [.v (.int b), .v (.int x), .v (.int e)]) = _
  unfold B_law_power
  have m1 : evE (evFn sub tb (d + 1)) (.call ra [(.var 0), (.max (.c (.int 0)) (.var 2))] []) [.v (.int b), .v (.int x), .v (.int e)] = PV.ret (.int (b ^ e.toNat)) := by
    simp only [evE, evL, getV_0, getV_s, lift_some, ret_bind, max0, List.append_nil, r1]
  have m2 : evE (evFn sub tb (d + 1)) (.call ra [(.var 0), (.max (.c (.int 0)) (.neg (.var 2)))] []) [.v (.int b), .v (.int x), .v (.int e)] = PV.ret (.int (b ^ (-e).toNat)) := by
    simp only [evE, evL, getV_0, getV_s, lift_some, ret_bind, negD, max0, List.append_nil, r2]
  have m3 : evE (evFn sub tb (d + 1)) (.bin .mul (.var 1) (.call ra [(.var 0), (.max (.c (.int 0)) (.var 2))] [])) [.v (.int b), .v (.int x), .v (.int e)] = PV.ret (.int (x * b ^ e.toNat)) := by
    rw [evE, m1]
    simp only [evE, getV_0, getV_s, lift_some, ret_bind, binD, mulD, hm, if_true]
  have m4 : evL (evFn sub tb (d + 1)) [(.bin .mul (.var 1) (.call ra [(.var 0), (.max (.c (.int 0)) (.var 2))] [])), (.call ra [(.var 0), (.max (.c (.int 0)) (.neg (.var 2)))] [])] [.v (.int b), .v (.int x), .v (.int e)] = PV.ret [.int (x * b ^ e.toNat), .int (b ^ (-e).toNat)] := by
    rw [evL, m3, ret_bind, evL, m2, ret_bind, evL, ret_bind, ret_bind]
  rw [evSs_cons, evS, evE, m4, ret_bind, runFl_ret]
  rfl

/-! ### _law_same -/
/-- values as a law's functions answer them: within n, at most 1000000 parts -/
inductive Lv : Nat → D → Prop
  | non {n} : Lv n .non
  | bl {n b} : Lv n (.bl b)
  | int {n i} : Lv n (.int i)
  | str {n x} : Lv n (.str x)
  | tup {n xs} (h : ∀ x, x ∈ xs → Lv n x) (hl : xs.length ≤ 1000000) : Lv (n + 1) (.tup xs)
theorem Lv.up {n m : Nat} {x : D} (h : Lv n x) (k : n ≤ m) : Lv m x := by
  induction h generalizing m with
  | non => exact .non
  | bl => exact .bl
  | int => exact .int
  | str => exact .str
  | tup _ hl ih =>
    obtain ⟨m, rfl⟩ : ∃ j, m = j + 1 := ⟨m - 1, by omega⟩
    exact .tup (fun x hx => ih x hx (by omega)) hl
theorem atI_nat {xs : List D} {i : Nat} {x : D} (h : xs[i]? = some x) : L2.atI xs (i : Int) = some x := by
  have hl := (List.getElem?_eq_some_iff.mp h).1
  unfold L2.atI L2.ixN
  rw [if_pos (by omega), if_pos (by omega)]
  exact h
theorem same_none {f : D → M (Option D)} : ∀ (xs : List D), (∀ x, x ∈ xs → f x = PV.ret none) → mapL f xs = PV.ret []
  | [], _ => rfl
  | x :: xs, h => by
    rw [mapL_cons, h x List.mem_cons_self, ret_bind, same_none xs fun y hy => h y (List.mem_cons_of_mem _ hy), ret_bind]
    rfl
theorem eq_bl {b : Bool} : eqD (.bl b) (.bl b) = some true := by cases b <;> rfl
theorem rangeL_mem {n : Nat} {x : D} (h : x ∈ rangeL 0 1 n) : ∃ i : Nat, i < n ∧ x = .int i := by
  unfold rangeL at h
  rw [List.mem_map] at h
  obtain ⟨i, hi, rfl⟩ := h
  exact ⟨i, List.mem_range.mp hi, by simp⟩
theorem line_le {n : Nat} (h : n ≤ 1000000) : n ≤ sizeLine := by rw [sizeLine_eq]; omega
theorem same_base {k d : Nat} (h : tb k = some (.src ⟨2, 3, B_law_same k⟩)) {n : Nat} {x : D} (hx : Lv n x) (ht : ∀ xs, x ≠ .tup xs) : evFn sub tb (d + 1) k [x, x] = PV.ret (.bl true) := by
  rw [fn_src h rfl]
  cases hx with
  | non => rfl
  | bl => rename_i b; cases b <;> rfl
  | int => unfold B_law_same; simp [evSs_nil, evSs_cons, thenS_nx, thenS_rt, thenS_er, thenS_bk, thenS_ct, bindE_ret, bindE_raise, runFl_rt, runFl_nx, runFl_er, runFl_ret, liftS_some, toB_bl', getV_0, getV_s, getB_0, getB_o, getB_s, ret_bind, raise_bind, lift_some, bind_assoc, evS, evE, evL, PV.start, setT, setAll, binD, augD, addD, subD, mulD, fdivD, modD, powD, negD, idxD, L2.atI, L2.ixN, cmpD, ltD, eqD, isD, isNon, isIn, bltD, maxD, minD, mapL_nil, mapL_cons, forM_nil, consO, items]
  | str => unfold B_law_same; simp [evSs_nil, evSs_cons, thenS_nx, thenS_rt, thenS_er, thenS_bk, thenS_ct, bindE_ret, bindE_raise, runFl_rt, runFl_nx, runFl_er, runFl_ret, liftS_some, toB_bl', getV_0, getV_s, getB_0, getB_o, getB_s, ret_bind, raise_bind, lift_some, bind_assoc, evS, evE, evL, PV.start, setT, setAll, binD, augD, addD, subD, mulD, fdivD, modD, powD, negD, idxD, L2.atI, L2.ixN, cmpD, ltD, eqD, isD, isNon, isIn, bltD, maxD, minD, mapL_nil, mapL_cons, forM_nil, consO, items]
  | tup _ _ => exact (ht _ rfl).elim
theorem same_ok {k : Nat} (h : tb k = some (.src ⟨2, 3, B_law_same k⟩)) : ∀ (n : Nat) (x : D), Lv n x → ∀ d, evFn sub tb (d + n + 1) k [x, x] = PV.ret (.bl true) := by
  intro n
  induction n with
  | zero =>
    intro x hx d
    exact same_base h hx (fun xs e => by subst e; cases hx)
  | succ n ih =>
    intro x hx d
    by_cases ht : ∀ xs, x ≠ .tup xs
    · exact same_base h hx ht
    obtain ⟨xs, rfl⟩ : ∃ xs, x = .tup xs := by
      cases x <;> first | exact ⟨_, rfl⟩ | (exfalso; exact ht fun _ z => by cases z)
    cases hx with
    | tup hxs hl =>
      rw [fn_src h rfl]
      generalize hfe : evFn sub tb (d + (n + 1)) = fe
      have hk : ∀ y, y ∈ xs → fe k [y, y] = PV.ret (.bl true) := fun y hy => by
        rw [← hfe, ← Nat.add_assoc]
        exact ih y (hxs y hy) d
      let ρ : Rho := [.v (.tup xs), .v (.tup xs), .u]
      have e0 : evE fe (.or (.isin .tuple (.var 1)) (.isin .list (.var 1))) ρ = PV.ret (.bl true) := rfl
      have e1 : evE fe (.or (.cmp .ne (.isin .tuple (.var 1)) (.isin .tuple (.var 0))) (.cmp .ne (.isin .list (.var 1)) (.isin .list (.var 0)))) ρ = PV.ret (.bl false) := rfl
      have e2 : evE fe (.cmp .ne (.blt .len (.var 0)) (.blt .len (.var 1))) ρ = PV.ret (.bl false) := by
        simp only [evE, ρ, getV_0, getV_s, lift_some, ret_bind, bltD, cmpD, eqD, decide_true, Option.map_some, Bool.not_true]
      have e3 : evE fe (.comp [2] (.one 2) (.rng1 (.blt .len (.var 1))) (.not (.call k [(.idx (.var 0) (.var 2)), (.idx (.var 1) (.var 2))] [])) (.var 2)) ρ = PV.ret (.lst []) := by
        have it : (bind (evE fe (.rng1 (.blt .len (.var 1))) ρ) fun x => lift (items x)) = PV.ret (rangeL 0 1 xs.length) := by
          have e : evE fe (.rng1 (.blt .len (.var 1))) ρ = PV.ret (.lst (rangeL 0 1 xs.length)) := by
            have hr : evE fe (.blt .len (.var 1)) ρ = PV.ret (.int xs.length) := rfl
            rw [evE, hr, ret_bind, rng1_nat hl, lift_some, ret_bind]
          rw [e, ret_bind]
          rfl
        rw [evE, it, ret_bind, if_pos (by unfold rangeL; rw [List.length_map, List.length_range]; exact line_le hl), same_none]
        · rfl
        · intro y hy
          obtain ⟨i, hi, rfl⟩ := rangeL_mem hy
          show bind (lift (some ([Slot.v (.tup xs), Slot.v (.tup xs), Slot.v (.int i)] : Rho))) _ = _
          rw [lift_some, ret_bind]
          have hg : xs[i]? = some xs[i] := List.getElem?_eq_getElem hi
          have ix : idxD (.tup xs) (.int i) = some xs[i] := atI_nat hg
          have c : evE fe (.not (.call k [(.idx (.var 0) (.var 2)), (.idx (.var 1) (.var 2))] [])) [.v (.tup xs), .v (.tup xs), .v (.int i)] = PV.ret (.bl false) := by
            simp only [evE, evL, getV_0, getV_s, lift_some, ret_bind, ix, List.append_nil, hk xs[i] (List.getElem_mem hi), toB_bl', Bool.not_true]
          rw [c, ret_bind, toB_bl', ret_bind]
          rfl
      show runFl (evSs sub fe (B_law_same k) ρ) = _
      unfold B_law_same
      rw [evSs_cons, evS, e0, ret_bind, toB_bl', bindE_ret, if_pos rfl]
      rw [evSs_cons, evS, e1, ret_bind, toB_bl', bindE_ret, if_neg Bool.false_ne_true, evSs_nil, thenS_nx]
      rw [evSs_cons, evS, e2, ret_bind, toB_bl', bindE_ret, if_neg Bool.false_ne_true, evSs_nil, thenS_nx]
      have e4 : evE fe (.cmp .eq (.blt .len (.comp [2] (.one 2) (.rng1 (.blt .len (.var 1))) (.not (.call k [(.idx (.var 0) (.var 2)), (.idx (.var 1) (.var 2))] [])) (.var 2))) (.c (.int 0))) ρ = PV.ret (.bl true) := by
        have e5 : evE fe (.blt .len (.comp [2] (.one 2) (.rng1 (.blt .len (.var 1))) (.not (.call k [(.idx (.var 0) (.var 2)), (.idx (.var 1) (.var 2))] [])) (.var 2))) ρ = PV.ret (.int 0) := by
          rw [evE, e3, ret_bind]
          rfl
        rw [evE, e5, ret_bind]
        rfl
      rw [evSs_cons, evS, e4, bindE_ret, thenS_rt, thenS_rt, runFl_rt]
end
end PV

set_option Elab.async false
set_option linter.all false
/-! VA: numbers of a format, their places: plain arithmetic. -/
namespace PV
/-- what a format's numbers are told by: base, least m with all digits, how many below it, ends -/
structure FP (b f few l h : Int) : Prop where
  b2 : 2 ≤ b
  f1 : 1 ≤ f
  few0 : 0 ≤ few
  few1 : few ≤ f - 1
  lh : l ≤ h
/-- a number (m, e) of it -/
structure Num (b f few l h m e : Int) : Prop where
  m1 : 1 ≤ m
  m2 : m < b * f
  e1 : l ≤ e
  e2 : e ≤ h
  fu : f ≤ m ∨ (m ≤ few ∧ e = l)
def rk (b f few l m e : Int) : Int := if m < f then m else few + (e - l) * (b * f - f) + m - f + 1
def mny (b f few l h : Int) : Int := (h - l + 1) * (b * f - f) + few
def upM (b f few p : Int) : Int := if p ≤ few then p else f + (p - few - 1) % (b * f - f)
def upE (b f few l p : Int) : Int := if p ≤ few then l else l + (p - few - 1) / (b * f - f)
section
variable {b f few l h m e m' e' p : Int}
theorem FP.w (F : FP b f few l h) : 1 ≤ b * f - f := by
  have : 2 * f ≤ b * f := Int.mul_le_mul_of_nonneg_right F.b2 (by have := F.f1; omega)
  have := F.f1
  omega
theorem rk_lo (F : FP b f few l h) (n : Num b f few l h m e) : 1 ≤ rk b f few l m e := by
  have w := F.w
  unfold rk
  split
  · exact n.m1
  · have : 0 ≤ (e - l) * (b * f - f) := Int.mul_nonneg (by have := n.e1; omega) (by omega)
    have := F.few0
    omega
theorem rk_hi (F : FP b f few l h) (n : Num b f few l h m e) : rk b f few l m e ≤ mny b f few l h := by
  have w := F.w
  have hm : 0 ≤ (h - l) * (b * f - f) := Int.mul_nonneg (by have := F.lh; omega) (by omega)
  have ex : (h - l + 1) * (b * f - f) = (h - l) * (b * f - f) + (b * f - f) := by rw [Int.add_mul, Int.one_mul]
  unfold rk mny
  split
  · rcases n.fu with q | q
    · omega
    · omega
  · have : (e - l) * (b * f - f) ≤ (h - l) * (b * f - f) := Int.mul_le_mul_of_nonneg_right (by have := n.e2; omega) (by omega)
    have := n.m2
    omega
theorem up_rk (F : FP b f few l h) (n : Num b f few l h m e) : upM b f few (rk b f few l m e) = m ∧ upE b f few l (rk b f few l m e) = e := by
  have w := F.w
  unfold rk
  split
  · rename_i hm
    rcases n.fu with q | q
    · omega
    · unfold upM upE
      rw [if_pos q.1, if_pos q.1]
      exact ⟨rfl, q.2.symm⟩
  · rename_i hm
    have h0 : 0 ≤ (e - l) * (b * f - f) := Int.mul_nonneg (by have := n.e1; omega) (by omega)
    have e1 : few + (e - l) * (b * f - f) + m - f + 1 - few - 1 = (m - f) + (e - l) * (b * f - f) := by omega
    have hm2 := n.m2
    unfold upM upE
    rw [if_neg (by omega), if_neg (by omega), e1]
    rw [Int.add_mul_emod_self_right, Int.emod_eq_of_lt (by omega) (by omega), Int.add_mul_ediv_right _ _ (by omega), Int.ediv_eq_zero_of_lt (by omega) (by omega)]
    omega
theorem rk_up (F : FP b f few l h) (p1 : 1 ≤ p) (p2 : p ≤ mny b f few l h) : rk b f few l (upM b f few p) (upE b f few l p) = p ∧ Num b f few l h (upM b f few p) (upE b f few l p) := by
  have w := F.w
  have f1 := F.f1
  have fb : f < b * f := by omega
  by_cases hp : p ≤ few
  · unfold upM upE rk
    rw [if_pos hp, if_pos hp]
    have := F.few1
    exact ⟨if_pos (by omega), p1, by omega, Int.le_refl _, F.lh, Or.inr ⟨hp, rfl⟩⟩
  · unfold upM upE rk
    rw [if_neg hp, if_neg hp]
    have q0 : 0 ≤ p - few - 1 := by omega
    have r0 : 0 ≤ (p - few - 1) % (b * f - f) := Int.emod_nonneg _ (by omega)
    have r1 : (p - few - 1) % (b * f - f) < b * f - f := Int.emod_lt_of_pos _ (by omega)
    have d0 : 0 ≤ (p - few - 1) / (b * f - f) := Int.ediv_nonneg q0 (by omega)
    have de : (b * f - f) * ((p - few - 1) / (b * f - f)) + (p - few - 1) % (b * f - f) = p - few - 1 := Int.mul_ediv_add_emod _ _
    have d1 : (p - few - 1) / (b * f - f) < h - l + 1 := by
      refine Int.ediv_lt_of_lt_mul (by omega) ?_
      unfold mny at p2
      omega
    refine ⟨?_, by omega, by omega, by omega, by omega, Or.inl (by omega)⟩
    rw [if_neg (by omega)]
    have : l + (p - few - 1) / (b * f - f) - l = (p - few - 1) / (b * f - f) := by omega
    rw [this, Int.mul_comm]
    omega
/-! ### sizes -/
def X (b l m e : Int) : Int := m * b ^ (e - l).toNat
theorem pow_le {b : Int} (hb : 1 ≤ b) {i j : Nat} (h : i ≤ j) : b ^ i ≤ b ^ j := by
  obtain ⟨k, rfl⟩ := Nat.le.dest h
  rw [Int.pow_add]
  have h1 : 0 < b ^ i := Int.pow_pos (by omega)
  have h2 : 0 < b ^ k := Int.pow_pos (by omega)
  calc b ^ i = b ^ i * 1 := (Int.mul_one _).symm
    _ ≤ b ^ i * b ^ k := Int.mul_le_mul_of_nonneg_left (by omega) (by omega)
theorem X_pos (F : FP b f few l h) (n : Num b f few l h m e) : 0 < X b l m e := by
  have := F.b2
  exact Int.mul_pos (by have := n.m1; omega) (Int.pow_pos (by omega))
theorem X_mono (F : FP b f few l h) (n : Num b f few l h m e) (n' : Num b f few l h m' e') (hr : rk b f few l m e < rk b f few l m' e') : X b l m e < X b l m' e' := by
  have w := F.w
  have hb := F.b2
  have f1 := F.f1
  unfold X
  have pe : 0 < b ^ (e - l).toNat := Int.pow_pos (by omega)
  have pe' : 0 < b ^ (e' - l).toNat := Int.pow_pos (by omega)
  by_cases hm : m < f
  · have he : e = l := by rcases n.fu with q | q <;> omega
    rw [he, Int.sub_self, Int.toNat_zero, Int.pow_zero, Int.mul_one]
    by_cases hm' : m' < f
    · have he' : e' = l := by rcases n'.fu with q | q <;> omega
      rw [he', Int.sub_self, Int.toNat_zero, Int.pow_zero, Int.mul_one]
      unfold rk at hr
      rw [if_pos hm, if_pos hm'] at hr
      exact hr
    · have : m' * 1 ≤ m' * b ^ (e' - l).toNat := Int.mul_le_mul_of_nonneg_left (by omega) (by omega)
      omega
  · by_cases hm' : m' < f
    · exfalso
      unfold rk at hr
      rw [if_neg hm, if_pos hm'] at hr
      have : 0 ≤ (e - l) * (b * f - f) := Int.mul_nonneg (by have := n.e1; omega) (by omega)
      rcases n'.fu with q | q <;> omega
    · unfold rk at hr
      rw [if_neg hm, if_neg hm'] at hr
      have m2 := n.m2
      have m2' := n'.m2
      by_cases c : e < e'
      · have h1 : m * b ^ (e - l).toNat < b * f * b ^ (e - l).toNat := Int.mul_lt_mul_of_pos_right m2 pe
        have h2 : b * f * b ^ (e - l).toNat = f * b ^ ((e - l).toNat + 1) := by rw [Int.pow_succ, Int.mul_comm b f, Int.mul_assoc, Int.mul_comm b]
        have h3 : f * b ^ ((e - l).toNat + 1) ≤ f * b ^ (e' - l).toNat := Int.mul_le_mul_of_nonneg_left (pow_le (by omega) (by have := n.e1; omega)) (by omega)
        have h4 : f * b ^ (e' - l).toNat ≤ m' * b ^ (e' - l).toNat := Int.mul_le_mul_of_nonneg_right (by omega) (by omega)
        omega
      · by_cases c2 : e' < e
        · exfalso
          have : (e' - l + 1) * (b * f - f) ≤ (e - l) * (b * f - f) := Int.mul_le_mul_of_nonneg_right (by omega) (by omega)
          rw [Int.add_mul, Int.one_mul] at this
          omega
        · have ee : e = e' := by omega
          subst ee
          exact Int.mul_lt_mul_of_pos_right (by omega) pe
theorem X_iff (F : FP b f few l h) (n : Num b f few l h m e) (n' : Num b f few l h m' e') : X b l m e < X b l m' e' ↔ rk b f few l m e < rk b f few l m' e' := by
  refine ⟨fun hx => ?_, X_mono F n n'⟩
  by_cases c : rk b f few l m e < rk b f few l m' e'
  · exact c
  · exfalso
    by_cases c2 : rk b f few l m' e' < rk b f few l m e
    · have := X_mono F n' n c2
      omega
    · have q := up_rk F n
      have q' := up_rk F n'
      have : rk b f few l m e = rk b f few l m' e' := by omega
      rw [this] at q
      have e1 : m = m' := q.1.symm.trans q'.1
      have e2 : e = e' := q.2.symm.trans q'.2
      subst e1 e2
      omega
end
end PV

set_option Elab.async false
set_option linter.all false
/-! VB: fractions in lowest terms, and how they stand. -/
namespace PV
/-- above / below in lowest terms -/
def lwA (x u : Int) : Int := x.fdiv (Int.gcd x u)
def lwB (x u : Int) : Int := u.fdiv (Int.gcd x u)
/-- p / q is z in shares of L / K -/
structure Sz (K L p q z : Int) : Prop where
  ps : 0 < q
  e : p * K = z * L * q
section
variable {K L p q z p' q' z' x u x' u' : Int}
theorem Sz.mul (h : Sz K L p q z) (h' : Sz K L p' q' z') : p * q' * K = z * (L * q * q') ∧ p' * q * K = z' * (L * q * q') := by
  refine ⟨?_, ?_⟩
  · rw [Int.mul_assoc p, Int.mul_comm q' K, ← Int.mul_assoc p, h.e]
    simp only [Int.mul_assoc]
  · rw [Int.mul_assoc p', Int.mul_comm q K, ← Int.mul_assoc p', h'.e]
    rw [Int.mul_assoc, Int.mul_assoc, Int.mul_assoc L q q', Int.mul_comm q q']
theorem Sz.lt (hK : 0 < K) (hL : 0 < L) (h : Sz K L p q z) (h' : Sz K L p' q' z') : p * q' < p' * q ↔ z < z' := by
  obtain ⟨a, b⟩ := h.mul h'
  have c : 0 < L * q * q' := Int.mul_pos (Int.mul_pos hL h.ps) h'.ps
  rw [← Int.mul_lt_mul_right hK, a, b, Int.mul_lt_mul_right c]
theorem Sz.eq (hK : 0 < K) (hL : 0 < L) (h : Sz K L p q z) (h' : Sz K L p' q' z') : p * q' = p' * q ↔ z = z' := by
  obtain ⟨a, b⟩ := h.mul h'
  have c : 0 < L * q * q' := Int.mul_pos (Int.mul_pos hL h.ps) h'.ps
  rw [← Int.mul_eq_mul_right_iff (c := K) (by omega), a, b, Int.mul_eq_mul_right_iff (by omega)]
theorem gcd_pos (hu : 0 < u) : (0 : Int) < (Int.gcd x u : Nat) := by
  have : Int.gcd x u ≠ 0 := fun z => by have := (Int.gcd_eq_zero_iff.mp z).2; omega
  omega
theorem lw_mul (hu : 0 < u) : lwA x u * (Int.gcd x u : Nat) = x ∧ lwB x u * (Int.gcd x u : Nat) = u ∧ 0 < lwB x u := by
  have g := gcd_pos (x := x) hu
  have h1 : lwA x u * (Int.gcd x u : Nat) = x := by
    unfold lwA
    rw [Int.fdiv_eq_ediv_of_dvd (Int.gcd_dvd_left _ _)]
    exact Int.ediv_mul_cancel (Int.gcd_dvd_left _ _)
  have h2 : lwB x u * (Int.gcd x u : Nat) = u := by
    unfold lwB
    rw [Int.fdiv_eq_ediv_of_dvd (Int.gcd_dvd_right _ _)]
    exact Int.ediv_mul_cancel (Int.gcd_dvd_right _ _)
  refine ⟨h1, h2, ?_⟩
  rw [← h2] at hu
  exact Int.pos_of_mul_pos_left hu g
theorem Sz.low (h : Sz K L x u z) : Sz K L (lwA x u) (lwB x u) z := by
  obtain ⟨a, b, c⟩ := lw_mul (x := x) h.ps
  refine ⟨c, ?_⟩
  have g := gcd_pos (x := x) h.ps
  have e := h.e
  rw [← Int.mul_eq_mul_right_iff (c := ((Int.gcd x u : Nat) : Int)) (by omega)]
  calc lwA x u * K * (Int.gcd x u : Nat) = (lwA x u * (Int.gcd x u : Nat)) * K := by rw [Int.mul_assoc, Int.mul_comm K, ← Int.mul_assoc]
    _ = z * L * u := by rw [a, e]
    _ = z * L * (lwB x u * (Int.gcd x u : Nat)) := by rw [b]
    _ = _ := by rw [Int.mul_assoc (z * L)]
theorem lw_scale {k : Int} (hk : 0 < k) (hu : 0 < u) : lwA (x * k) (u * k) = lwA x u ∧ lwB (x * k) (u * k) = lwB x u := by
  have g := gcd_pos (x := x) hu
  have e : ((Int.gcd (x * k) (u * k) : Nat) : Int) = (Int.gcd x u : Nat) * k := by
    rw [Int.gcd_mul_right, Int.natCast_mul, show ((k.natAbs : Nat) : Int) = k by omega]
  have p : 0 < ((Int.gcd x u : Nat) : Int) * k := Int.mul_pos g hk
  unfold lwA lwB
  rw [e, Int.fdiv_eq_ediv_of_nonneg _ (by omega), Int.fdiv_eq_ediv_of_nonneg _ (by omega), Int.fdiv_eq_ediv_of_nonneg _ (by omega), Int.fdiv_eq_ediv_of_nonneg _ (by omega)]
  rw [Int.mul_ediv_mul_of_pos_left _ _ hk, Int.mul_ediv_mul_of_pos_left _ _ hk]
  exact ⟨rfl, rfl⟩
theorem lw_eq (hu : 0 < u) (hu' : 0 < u') (h : x * u' = x' * u) : lwA x u = lwA x' u' ∧ lwB x u = lwB x' u' := by
  have a := lw_scale (x := x) hu' hu
  have b := lw_scale (x := x') hu hu'
  rw [h, Int.mul_comm u u'] at a
  exact ⟨a.1.symm.trans b.1, a.2.symm.trans b.2⟩
theorem lw_neg (x u : Int) : lwA (-x) u = -lwA x u ∧ lwB (-x) u = lwB x u := by
  unfold lwA lwB
  rw [Int.neg_gcd]
  refine ⟨?_, rfl⟩
  rw [Int.fdiv_eq_ediv_of_dvd (Int.dvd_neg.mpr (Int.gcd_dvd_left _ _)), Int.fdiv_eq_ediv_of_dvd (Int.gcd_dvd_left _ _)]
  exact Int.neg_ediv_of_dvd (Int.gcd_dvd_left _ _)
theorem lw_self (hu : 0 < u) (h : Int.gcd x u = 1) : lwA x u = x ∧ lwB x u = u := by
  unfold lwA lwB
  rw [h]
  simp
/-- lowest terms twice -/
theorem lw_lw (hu : 0 < u) : lwA (lwA x u) (lwB x u) = lwA x u ∧ lwB (lwA x u) (lwB x u) = lwB x u := by
  obtain ⟨a, b, c⟩ := lw_mul (x := x) hu
  have e : lwA x u * u = x * lwB x u := by
    have g := gcd_pos (x := x) hu
    rw [← Int.mul_eq_mul_right_iff (c := ((Int.gcd x u : Nat) : Int)) (by omega)]
    calc lwA x u * u * (Int.gcd x u : Nat) = (lwA x u * (Int.gcd x u : Nat)) * u := by rw [Int.mul_assoc, Int.mul_comm u, ← Int.mul_assoc]
      _ = x * (lwB x u * (Int.gcd x u : Nat)) := by rw [a, b]
      _ = _ := by rw [Int.mul_assoc]
  exact lw_eq c hu e
end
/-! ### numbers -/
section
variable {b f few l h m e : Int}
abbrev Kb (b l : Int) : Int := b ^ (-l).toNat
abbrev Lb (b l : Int) : Int := b ^ l.toNat
theorem num_sz (hb : 0 < b) (hl : l ≤ e) (s : Int) : Sz (Kb b l) (Lb b l) (s * m * b ^ e.toNat) (b ^ (-e).toNat) (s * X b l m e) := by
  refine ⟨Int.pow_pos hb, ?_⟩
  unfold X Kb Lb
  have : b ^ e.toNat * b ^ (-l).toNat = b ^ (e - l).toNat * b ^ l.toNat * b ^ (-e).toNat := by
    rw [← Int.pow_add, ← Int.pow_add, ← Int.pow_add]
    congr 1
    omega
  rw [Int.mul_assoc, this]
  simp only [Int.mul_assoc]
theorem zero_sz {K L : Int} : Sz K L 0 1 0 := ⟨by omega, by simp⟩
end
end PV

set_option Elab.async false
set_option linter.all false
/-! VC: values, their ranks. -/
namespace PV
inductive Vl where
  | num (s m e : Int) | zero (s : Int) | inf (s : Int) | nan
  deriving DecidableEq
def Sg (s : Int) : Prop := s = 1 ∨ s = -1
def Vl.ok (b f few l h : Int) : Vl → Prop
  | .num s m e => Sg s ∧ Num b f few l h m e
  | .zero s => Sg s
  | .inf s => Sg s
  | .nan => True
def Vl.fin : Vl → Bool
  | .num .. => true
  | .zero _ => true
  | _ => false
def Vl.rank (b f few l h : Int) : Vl → Int
  | .num s m e => s * rk b f few l m e
  | .zero _ => 0
  | .inf s => s * (mny b f few l h + 1)
  | .nan => 0
def atR (b f few l h p : Int) : Vl :=
  if p.natAbs = 0 then .zero 1 else if (p.natAbs : Int) = mny b f few l h + 1 then .inf (if 0 ≤ p then 1 else -1)
  else .num (if 0 ≤ p then 1 else -1) (upM b f few p.natAbs) (upE b f few l p.natAbs)
def Vl.neg : Vl → Vl
  | .num s m e => .num (-s) m e
  | .zero s => .zero (-s)
  | .inf s => .inf (-s)
  | .nan => .nan
def Vl.siz : Vl → Vl
  | .num s m e => .num 1 m e
  | .zero s => .zero 1
  | .inf s => .inf 1
  | .nan => .nan
/-- in shares of the least step -/
def Vl.zz (b l : Int) : Vl → Int
  | .num s m e => s * X b l m e
  | _ => 0
section
variable {b f few l h m e p s : Int} {v v' : Vl}
theorem mny_pos (F : FP b f few l h) : 1 ≤ mny b f few l h := by
  have w := F.w
  have hm : 0 ≤ (h - l) * (b * f - f) := Int.mul_nonneg (by have := F.lh; omega) (by omega)
  have ex : (h - l + 1) * (b * f - f) = (h - l) * (b * f - f) + (b * f - f) := by rw [Int.add_mul, Int.one_mul]
  have := F.few0
  unfold mny
  omega
theorem atR_rank (F : FP b f few l h) (n : Vl.ok b f few l h (.num s m e)) : atR b f few l h (Vl.rank b f few l h (.num s m e)) = .num s m e := by
  obtain ⟨hs, n⟩ := n
  have lo := rk_lo F n
  have hi := rk_hi F n
  obtain ⟨u1, u2⟩ := up_rk F n
  show atR b f few l h (s * rk b f few l m e) = _
  unfold atR
  rcases hs with rfl | rfl
  · have na : ((1 * rk b f few l m e).natAbs : Int) = rk b f few l m e := by omega
    rw [if_neg (by omega), na, if_neg (by omega), u1, u2, if_pos (by omega)]
  · have na : ((-1 * rk b f few l m e).natAbs : Int) = rk b f few l m e := by omega
    rw [if_neg (by omega), na, if_neg (by omega), u1, u2, if_neg (by omega)]
theorem atR_ok (F : FP b f few l h) (hp : (p.natAbs : Int) ≤ mny b f few l h + 1) : Vl.ok b f few l h (atR b f few l h p) ∧ Vl.rank b f few l h (atR b f few l h p) = p := by
  have sg : Sg (if 0 ≤ p then 1 else -1) := by split <;> simp [Sg]
  unfold atR
  split
  · refine ⟨Or.inl rfl, ?_⟩
    show (0 : Int) = p
    omega
  · split
    · refine ⟨sg, ?_⟩
      show (if 0 ≤ p then (1 : Int) else -1) * (mny b f few l h + 1) = p
      split <;> omega
    · obtain ⟨r1, r2⟩ := rk_up (p := (p.natAbs : Int)) F (by omega) (by omega)
      refine ⟨⟨sg, r2⟩, ?_⟩
      show (if 0 ≤ p then (1 : Int) else -1) * rk b f few l _ _ = p
      rw [r1]
      split <;> omega
theorem atR_num (F : FP b f few l h) (h0 : p ≠ 0) (hp : (p.natAbs : Int) ≤ mny b f few l h) : ∃ s m e, atR b f few l h p = .num s m e := by
  unfold atR
  rw [if_neg (by omega), if_neg (by omega)]
  exact ⟨_, _, _, rfl⟩
theorem rank_neg : Vl.rank b f few l h v.neg = -(Vl.rank b f few l h v) := by
  cases v with
  | num s m e => exact Int.neg_mul _ _
  | zero s => rfl
  | inf s => exact Int.neg_mul _ _
  | nan => rfl
theorem neg_ok (n : Vl.ok b f few l h v) : Vl.ok b f few l h v.neg := by
  cases v with
  | num s m e => exact ⟨by rcases n.1 with rfl | rfl <;> simp [Sg], n.2⟩
  | zero s => rcases n with rfl | rfl <;> simp [Sg, Vl.neg, Vl.ok]
  | inf s => rcases n with rfl | rfl <;> simp [Sg, Vl.neg, Vl.ok]
  | nan => trivial
theorem neg_neg (v : Vl) : v.neg.neg = v := by cases v <;> simp [Vl.neg]
theorem rank_le (F : FP b f few l h) (n : Vl.ok b f few l h v) : ((Vl.rank b f few l h v).natAbs : Int) ≤ mny b f few l h + 1 := by
  cases v with
  | num s m e =>
    have := rk_lo F n.2
    have := rk_hi F n.2
    show ((s * rk b f few l m e).natAbs : Int) ≤ _
    rcases n.1 with rfl | rfl <;> omega
  | zero s => have := mny_pos F; show (((0 : Int)).natAbs : Int) ≤ _; omega
  | inf s =>
    have := mny_pos F
    show ((s * (mny b f few l h + 1)).natAbs : Int) ≤ _
    rcases n with rfl | rfl <;> omega
  | nan => have := mny_pos F; show (((0 : Int)).natAbs : Int) ≤ _; omega
theorem zz_iff (F : FP b f few l h) (n : Vl.ok b f few l h v) (n' : Vl.ok b f few l h v') (c : v.fin = true) (c' : v'.fin = true) : v.zz b l < v'.zz b l ↔ Vl.rank b f few l h v < Vl.rank b f few l h v' := by
  cases v with
  | inf s => cases c
  | nan => cases c
  | zero s =>
    cases v' with
    | inf s => cases c'
    | nan => cases c'
    | zero s' => exact Iff.rfl
    | num s' m' e' =>
      have x := X_pos F n'.2
      have r := rk_lo F n'.2
      show 0 < s' * X b l m' e' ↔ 0 < s' * rk b f few l m' e'
      rcases n'.1 with rfl | rfl <;> omega
  | num s m e =>
    have x := X_pos F n.2
    have r := rk_lo F n.2
    cases v' with
    | inf s => cases c'
    | nan => cases c'
    | zero s' =>
      show s * X b l m e < 0 ↔ s * rk b f few l m e < 0
      rcases n.1 with rfl | rfl <;> omega
    | num s' m' e' =>
      have x' := X_pos F n'.2
      have r' := rk_lo F n'.2
      have i1 := X_iff F n.2 n'.2
      have i2 := X_iff F n'.2 n.2
      show s * X b l m e < s' * X b l m' e' ↔ s * rk b f few l m e < s' * rk b f few l m' e'
      rcases n.1 with rfl | rfl <;> rcases n'.1 with rfl | rfl <;> omega
theorem zz_eq (F : FP b f few l h) (n : Vl.ok b f few l h v) (n' : Vl.ok b f few l h v') (c : v.fin = true) (c' : v'.fin = true) : v.zz b l = v'.zz b l ↔ Vl.rank b f few l h v = Vl.rank b f few l h v' := by
  have a := zz_iff F n n' c c'
  have b := zz_iff F n' n c' c
  omega
end
end PV

set_option Elab.async false
set_option linter.all false
set_option maxRecDepth 100000
set_option maxHeartbeats 1000000
/-! PW1: formats and values as the evaluator has them; lowest terms. -/
namespace PV
open PySem

/-- a format -/
structure Fm where
  b : Int
  g : Int
  l : Int
  h : Int
  t : Bool
structure Fm.Ok (F : Fm) : Prop where
  b1 : 2 ≤ F.b
  b2 : F.b ≤ 16
  g1 : 1 ≤ F.g
  g2 : F.g ≤ 120
  l1 : -1000 ≤ F.l
  lh : F.l ≤ F.h
  h2 : F.h ≤ 1000
abbrev Fm.d (F : Fm) : D := .tup [.int F.b, .int F.g, .int F.l, .int F.h, .bl F.t]
/-- the least m with all digits -/
def Fm.f (F : Fm) : Int := F.b ^ (F.g - 1).toNat
/-- the least m with too many -/
def Fm.a (F : Fm) : Int := F.b * F.f
def Fm.few (F : Fm) : Int := if F.t = true then F.f - 1 else 0
def Fm.many (F : Fm) : Int := mny F.b F.f F.few F.l F.h
abbrev Fm.val (F : Fm) (v : Vl) : Prop := Vl.ok F.b F.f F.few F.l F.h v
abbrev Fm.rank (F : Fm) (v : Vl) : Int := Vl.rank F.b F.f F.few F.l F.h v
abbrev Fm.at (F : Fm) (p : Int) : Vl := atR F.b F.f F.few F.l F.h p
def sNum : Str := ⟨#[110, 117, 109]⟩
def sZero : Str := ⟨#[122, 101, 114, 111]⟩
def sInf : Str := ⟨#[105, 110, 102]⟩
def sNan : Str := ⟨#[110, 97, 110]⟩
def Vl.d : Vl → D
  | .num s m e => .tup [.str ⟨#[110, 117, 109]⟩, .int s, .int m, .int e]
  | .zero s => .tup [.str ⟨#[122, 101, 114, 111]⟩, .int s]
  | .inf s => .tup [.str ⟨#[105, 110, 102]⟩, .int s]
  | .nan => .tup [.str ⟨#[110, 97, 110]⟩]
abbrev LW (x u : Int) : D := .tup [.int (lwA x u), .int (lwB x u)]
section
variable {F : Fm}
theorem bd_b (k : F.Ok) : Bd F.b 5 ∧ 0 < F.b := ⟨by have := k.b1; have := k.b2; unfold Bd; omega, by have := k.b1; omega⟩
theorem bd_pow {b : Int} {L n : Nat} (hb : Bd b L) : Bd (b ^ n) (1 + L * n) := by
  induction n with
  | zero => rw [Int.pow_zero]; exact Bd.one.mono (Nat.le_add_right _ _)
  | succ n ih => rw [Int.pow_succ]; exact (ih.mul hb).mono (by rw [Nat.mul_succ]; omega)
theorem a_eq (k : F.Ok) : F.b ^ F.g.toNat = F.a := by
  have := k.g1
  unfold Fm.a Fm.f
  rw [show F.g.toNat = (F.g - 1).toNat + 1 by omega, Int.pow_succ, Int.mul_comm]
theorem f_pos (k : F.Ok) : 1 ≤ F.f := by
  have : 0 < F.b ^ (F.g - 1).toNat := Int.pow_pos (bd_b k).2
  unfold Fm.f
  omega
theorem fp (k : F.Ok) : FP F.b F.f F.few F.l F.h := by
  have := f_pos k
  refine ⟨k.b1, this, ?_, ?_, k.lh⟩ <;> · unfold Fm.few; split <;> omega
theorem bd_f (k : F.Ok) : Bd F.f 600 := by
  have := k.g2
  exact (bd_pow (bd_b k).1).mono (by omega)
theorem bd_a (k : F.Ok) : Bd F.a 610 := by
  have := k.g2
  rw [← a_eq k]
  exact (bd_pow (bd_b k).1).mono (by omega)
theorem bd_e (k : F.Ok) {e : Int} (he : e.natAbs ≤ 1000) : Bd (F.b ^ e.toNat) 5001 ∧ Bd (F.b ^ (-e).toNat) 5001 := ⟨(bd_pow (bd_b k).1).mono (by omega), (bd_pow (bd_b k).1).mono (by omega)⟩
theorem Bd.sub {x y : Int} {n : Nat} (h : Bd x n) (k : Bd y n) : Bd (x - y) (n + 1) := by
  unfold Bd at h k ⊢
  rw [Nat.pow_succ]
  omega
theorem Bd.add {x y : Int} {n : Nat} (h : Bd x n) (k : Bd y n) : Bd (x + y) (n + 1) := by
  unfold Bd at h k ⊢
  rw [Nat.pow_succ]
  omega
theorem Bd.lt {x y : Int} {n : Nat} (h : Bd y n) (h0 : 0 ≤ x) (k : x ≤ y) : Bd x n := by
  unfold Bd at h ⊢
  omega
theorem Bd.neg {x : Int} {n : Nat} (h : Bd x n) : Bd (-x) n := by
  unfold Bd at h ⊢
  omega
theorem Bd.sg {s : Int} (h : Sg s) : Bd s 1 := by rcases h with rfl | rfl <;> unfold Bd <;> decide
theorem bd_m (k : F.Ok) {s m e : Int} (v : F.val (.num s m e)) : Bd m 610 := (bd_a k).lt (by have := v.2.m1; omega) (by have := v.2.m2; unfold Fm.a; omega)
theorem e_le (k : F.Ok) {s m e : Int} (v : F.val (.num s m e)) : e.natAbs ≤ 1000 := by
  have := v.2.e1
  have := v.2.e2
  have := k.l1
  have := k.h2
  omega
theorem gcd_ok {a u : Int} {n : Nat} (hu : 0 < u) (hB : Bd u n) (hn : n ≤ 8000) : divOk (Int.gcd a u) = true := by
  have h0 : Int.gcd a u ≠ 0 := fun z => by have := (Int.gcd_eq_zero_iff.mp z).2; omega
  have hle : Int.gcd a u ≤ u.natAbs := Nat.gcd_le_right _ (by omega)
  have hb : Bd ((Int.gcd a u : Nat) : Int) n := by unfold Bd at hB ⊢; simp only [Int.natAbs_natCast]; omega
  have := hb.log
  unfold divOk
  rw [Bool.and_eq_true]
  exact ⟨decide_eq_true (by omega), decide_eq_true (by omega)⟩
end
/-! ### equality of data -/
theorem pd_int {i : Int} : (D.int i).pd = some (.int i) := rfl
theorem eqv_int {i j : Int} : PyData.eqv (.int i) (.int j) = decide (i = j) := rfl
end PV

set_option Elab.async false
set_option linter.all false
set_option maxRecDepth 100000
set_option maxHeartbeats 1000000
/-! PW2: the defs' texts, by where the law has them (printed by gen_ix.py). -/
namespace PV
open PySem
structure Ix where
  is_whole : Nat := 0
  shared : Nat := 0
  fraction : Nat := 0
  times : Nat := 0
  order : Nat := 0
  power : Nat := 0
  raised : Nat := 0
  is_format : Nat := 0
  look_at_format : Nat := 0
  full : Nat := 0
  above : Nat := 0
  how_many : Nat := 0
  is_value : Nat := 0
  look_at_value : Nat := 0
  exact : Nat := 0
  sign_of : Nat := 0
  turned : Nat := 0
  sized_value : Nat := 0
  rank : Nat := 0
  at_rank : Nat := 0
  compared : Nat := 0
  next_up : Nat := 0
  next_down : Nat := 0
  step_at : Nat := 0
  steps_between : Nat := 0
  number_of : Nat := 0
  is_finite : Nat := 0
  to_code : Nat := 0
  from_code : Nat := 0
  law_draws : Nat := 0
  law_draw : Nat := 0
  law_same : Nat := 0
  law_raise : Nat := 0
  law_format : Nat := 0
  law_mode : Nat := 0
  law_exact : Nat := 0
  law_value : Nat := 0
  law_number : Nat := 0
  law_bad : Nat := 0
  xBadFormat : Nat := 0
  xBadPlan : Nat := 0
  xRoundError : Nat := 0
  tab : List (Str × Nat) := []
def T_is_whole (I : Ix) : List S := [
  (.ret (.and (.isin .int (.var 0)) (.not (.isin .bool (.var 0)))))]
abbrev D_is_whole (I : Ix) : Option Df := some (.src ⟨1, 1, T_is_whole I⟩)
def T_shared (I : Ix) : List S := [
  (.unp [0, 1] (.tup [(.blt .abs (.var 0)), (.blt .abs (.var 1))])),
  (.whl (.cmp .ne (.var 1) (.c (.int 0))) [(.unp [0, 1] (.tup [(.var 1), (.bin .mod (.var 0) (.var 1))]))]),
  (.ret (.var 0))]
abbrev D_shared (I : Ix) : Option Df := some (.src ⟨2, 2, T_shared I⟩)
def T_fraction (I : Ix) : List S := [
  (.ifs (.or (.not (.call I.is_whole [(.var 0)] [])) (.or (.not (.call I.is_whole [(.var 1)] [])) (.cmp .eq (.var 1) (.c (.int 0))))) [(.rais I.xBadPlan [])] []),
  (.asg 2 (.call I.shared [(.var 0), (.var 1)] [])),
  (.asg 2 (.ifx (.cmp .lt (.var 1) (.c (.int 0))) (.neg (.var 2)) (.var 2))),
  (.ret (.tup [(.bin .fdiv (.var 0) (.var 2)), (.bin .fdiv (.var 1) (.var 2))]))]
abbrev D_fraction (I : Ix) : Option Df := some (.src ⟨2, 3, T_fraction I⟩)
def T_times (I : Ix) : List S := [
  (.ret (.call I.fraction [(.bin .mul (.idx (.var 0) (.c (.int 0))) (.idx (.var 1) (.c (.int 0)))), (.bin .mul (.idx (.var 0) (.c (.int 1))) (.idx (.var 1) (.c (.int 1))))] []))]
abbrev D_times (I : Ix) : Option Df := some (.src ⟨2, 2, T_times I⟩)
def T_order (I : Ix) : List S := [
  (.unp [2, 3] (.tup [(.bin .mul (.idx (.var 0) (.c (.int 0))) (.idx (.var 1) (.c (.int 1)))), (.bin .mul (.idx (.var 1) (.c (.int 0))) (.idx (.var 0) (.c (.int 1))))])),
  (.ret (.bin .sub (.blt .int (.cmp .gt (.var 2) (.var 3))) (.blt .int (.cmp .lt (.var 2) (.var 3)))))]
abbrev D_order (I : Ix) : Option Df := some (.src ⟨2, 4, T_order I⟩)
def T_power (I : Ix) : List S := [
  (.ifs (.cmp .ge (.var 1) (.c (.int 0))) [(.ret (.tup [(.call I.raised [(.var 0), (.var 1)] []), (.c (.int 1))]))] []),
  (.ret (.ifx (.cmp .gt (.var 0) (.c (.int 0))) (.tup [(.c (.int 1)), (.call I.raised [(.var 0), (.neg (.var 1))] [])]) (.call I.fraction [(.c (.int 1)), (.call I.raised [(.var 0), (.neg (.var 1))] [])] [])))]
abbrev D_power (I : Ix) : Option Df := some (.src ⟨2, 2, T_power I⟩)
def T_raised (I : Ix) : List S := [
  (.unp [2, 3] (.tup [(.c (.int 1)), (.var 0)])),
  (.whl (.cmp .gt (.var 1) (.c (.int 0))) [(.ifs (.cmp .eq (.bin .mod (.var 1) (.c (.int 2))) (.c (.int 1))) [(.asg 2 (.bin .mul (.var 2) (.var 3)))] []), (.asg 3 (.bin .mul (.var 3) (.var 3))), (.aug 1 .fdiv (.c (.int 2)))]),
  (.ret (.var 2))]
abbrev D_raised (I : Ix) : Option Df := some (.src ⟨2, 4, T_raised I⟩)
def T_is_format (I : Ix) : List S := [
  (.ifs (.or (.not (.isin .tuple (.var 0))) (.or (.cmp .ne (.blt .len (.var 0)) (.c (.int 5))) (.not (.blt .all (.comp [6] (.one 6) (.slc (.var 0) (.c .non) (.c (.int 4))) (.c (.bl true)) (.call I.is_whole [(.var 6)] [])))))) [(.ret (.c (.bl false)))] []),
  (.unp [1, 2, 3, 4, 5] (.var 0)),
  (.ifs (.or (.not (.chain .le .le (.c (.int 2)) (.var 1) (.c (.int 16)))) (.or (.not (.chain .le .le (.c (.int 1)) (.var 2) (.c (.int 120)))) (.not (.isin .bool (.var 5))))) [(.ret (.c (.bl false)))] []),
  (.ret (.chain3 .le .le .le (.neg (.c (.int 5000))) (.var 3) (.var 4) (.c (.int 5000))))]
abbrev D_is_format (I : Ix) : Option Df := some (.src ⟨1, 7, T_is_format I⟩)
def T_look_at_format (I : Ix) : List S := [
  (.ifs (.not (.call I.is_format [(.var 0)] [])) [(.rais I.xBadFormat [])] [])]
abbrev D_look_at_format (I : Ix) : Option Df := some (.src ⟨1, 1, T_look_at_format I⟩)
def T_full (I : Ix) : List S := [
  (.ret (.call I.raised [(.idx (.var 0) (.c (.int 0))), (.bin .sub (.idx (.var 0) (.c (.int 1))) (.c (.int 1)))] []))]
abbrev D_full (I : Ix) : Option Df := some (.src ⟨1, 1, T_full I⟩)
def T_above (I : Ix) : List S := [
  (.ret (.call I.raised [(.idx (.var 0) (.c (.int 0))), (.idx (.var 0) (.c (.int 1)))] []))]
abbrev D_above (I : Ix) : Option Df := some (.src ⟨1, 1, T_above I⟩)
def T_how_many (I : Ix) : List S := [
  (.exp (.call I.look_at_format [(.var 0)] [])),
  (.unp [1, 2, 3, 4, 5] (.var 0)),
  (.ret (.bin .add (.bin .mul (.bin .add (.bin .sub (.var 4) (.var 3)) (.c (.int 1))) (.bin .sub (.call I.above [(.var 0)] []) (.call I.full [(.var 0)] []))) (.ifx (.var 5) (.bin .sub (.call I.full [(.var 0)] []) (.c (.int 1))) (.c (.int 0)))))]
abbrev D_how_many (I : Ix) : Option Df := some (.src ⟨1, 6, T_how_many I⟩)
def T_is_value (I : Ix) : List S := [
  (.exp (.call I.look_at_format [(.var 0)] [])),
  (.ifs (.or (.not (.isin .tuple (.var 1))) (.or (.cmp .eq (.blt .len (.var 1)) (.c (.int 0))) (.not (.isin .str (.idx (.var 1) (.c (.int 0))))))) [(.ret (.c (.bl false)))] []),
  (.ifs (.cmp .eq (.idx (.var 1) (.c (.int 0))) (.c (.str ⟨#[110, 97, 110]⟩))) [(.ret (.cmp .eq (.blt .len (.var 1)) (.c (.int 1))))] []),
  (.ifs (.or (.cmp .lt (.blt .len (.var 1)) (.c (.int 2))) (.or (.not (.call I.is_whole [(.idx (.var 1) (.c (.int 1)))] [])) (.cmp .notin (.idx (.var 1) (.c (.int 1))) (.tup [(.c (.int 1)), (.neg (.c (.int 1)))])))) [(.ret (.c (.bl false)))] []),
  (.ifs (.cmp .in_ (.idx (.var 1) (.c (.int 0))) (.tup [(.c (.str ⟨#[122, 101, 114, 111]⟩)), (.c (.str ⟨#[105, 110, 102]⟩))])) [(.ret (.cmp .eq (.blt .len (.var 1)) (.c (.int 2))))] []),
  (.ifs (.or (.cmp .ne (.idx (.var 1) (.c (.int 0))) (.c (.str ⟨#[110, 117, 109]⟩))) (.or (.cmp .ne (.blt .len (.var 1)) (.c (.int 4))) (.or (.not (.call I.is_whole [(.idx (.var 1) (.c (.int 2)))] [])) (.not (.call I.is_whole [(.idx (.var 1) (.c (.int 3)))] []))))) [(.ret (.c (.bl false)))] []),
  (.unp [2, 3] (.tup [(.idx (.var 1) (.c (.int 2))), (.idx (.var 1) (.c (.int 3)))])),
  (.ifs (.or (.not (.chain .le .le (.idx (.var 0) (.c (.int 2))) (.var 3) (.idx (.var 0) (.c (.int 3))))) (.not (.chain .le .lt (.c (.int 1)) (.var 2) (.call I.above [(.var 0)] [])))) [(.ret (.c (.bl false)))] []),
  (.ret (.or (.cmp .ge (.var 2) (.call I.full [(.var 0)] [])) (.and (.idx (.var 0) (.c (.int 4))) (.cmp .eq (.var 3) (.idx (.var 0) (.c (.int 2)))))))]
abbrev D_is_value (I : Ix) : Option Df := some (.src ⟨2, 4, T_is_value I⟩)
def T_look_at_value (I : Ix) : List S := [
  (.ifs (.not (.call I.is_value [(.var 0), (.var 1)] [])) [(.rais I.xBadFormat [])] [])]
abbrev D_look_at_value (I : Ix) : Option Df := some (.src ⟨2, 2, T_look_at_value I⟩)
def T_exact (I : Ix) : List S := [
  (.exp (.call I.look_at_value [(.var 0), (.var 1)] [])),
  (.ifs (.cmp .eq (.idx (.var 1) (.c (.int 0))) (.c (.str ⟨#[122, 101, 114, 111]⟩))) [(.ret (.c (.tup [(.int 0), (.int 1)])))] []),
  (.ifs (.cmp .ne (.idx (.var 1) (.c (.int 0))) (.c (.str ⟨#[110, 117, 109]⟩))) [(.rais I.xBadFormat [])] []),
  (.ret (.call I.times [(.tup [(.bin .mul (.idx (.var 1) (.c (.int 1))) (.idx (.var 1) (.c (.int 2)))), (.c (.int 1))]), (.call I.power [(.idx (.var 0) (.c (.int 0))), (.idx (.var 1) (.c (.int 3)))] [])] []))]
abbrev D_exact (I : Ix) : Option Df := some (.src ⟨2, 2, T_exact I⟩)
def T_sign_of (I : Ix) : List S := [
  (.ret (.ifx (.cmp .gt (.blt .len (.var 0)) (.c (.int 1))) (.idx (.var 0) (.c (.int 1))) (.c .non)))]
abbrev D_sign_of (I : Ix) : Option Df := some (.src ⟨1, 1, T_sign_of I⟩)
def T_turned (I : Ix) : List S := [
  (.ret (.ifx (.cmp .eq (.idx (.var 0) (.c (.int 0))) (.c (.str ⟨#[110, 97, 110]⟩))) (.var 0) (.bin .add (.tup [(.idx (.var 0) (.c (.int 0))), (.neg (.idx (.var 0) (.c (.int 1))))]) (.slc (.var 0) (.c (.int 2)) (.c .non)))))]
abbrev D_turned (I : Ix) : Option Df := some (.src ⟨1, 1, T_turned I⟩)
def T_sized_value (I : Ix) : List S := [
  (.ret (.ifx (.cmp .eq (.idx (.var 0) (.c (.int 0))) (.c (.str ⟨#[110, 97, 110]⟩))) (.var 0) (.bin .add (.tup [(.idx (.var 0) (.c (.int 0))), (.c (.int 1))]) (.slc (.var 0) (.c (.int 2)) (.c .non)))))]
abbrev D_sized_value (I : Ix) : Option Df := some (.src ⟨1, 1, T_sized_value I⟩)
def T_rank (I : Ix) : List S := [
  (.exp (.call I.look_at_value [(.var 0), (.var 1)] [])),
  (.ifs (.cmp .eq (.idx (.var 1) (.c (.int 0))) (.c (.str ⟨#[110, 97, 110]⟩))) [(.rais I.xBadFormat [])] []),
  (.ifs (.cmp .eq (.idx (.var 1) (.c (.int 0))) (.c (.str ⟨#[122, 101, 114, 111]⟩))) [(.ret (.c (.int 0)))] []),
  (.ifs (.cmp .eq (.idx (.var 1) (.c (.int 0))) (.c (.str ⟨#[105, 110, 102]⟩))) [(.ret (.bin .mul (.idx (.var 1) (.c (.int 1))) (.bin .add (.call I.how_many [(.var 0)] []) (.c (.int 1)))))] []),
  (.asg 2 (.ifx (.idx (.var 0) (.c (.int 4))) (.bin .sub (.call I.full [(.var 0)] []) (.c (.int 1))) (.c (.int 0)))),
  (.ifs (.cmp .lt (.idx (.var 1) (.c (.int 2))) (.call I.full [(.var 0)] [])) [(.ret (.bin .mul (.idx (.var 1) (.c (.int 1))) (.idx (.var 1) (.c (.int 2)))))] []),
  (.asg 3 (.bin .sub (.call I.above [(.var 0)] []) (.call I.full [(.var 0)] []))),
  (.ret (.bin .mul (.idx (.var 1) (.c (.int 1))) (.bin .add (.bin .sub (.bin .add (.bin .add (.var 2) (.bin .mul (.bin .sub (.idx (.var 1) (.c (.int 3))) (.idx (.var 0) (.c (.int 2)))) (.var 3))) (.idx (.var 1) (.c (.int 2)))) (.call I.full [(.var 0)] [])) (.c (.int 1)))))]
abbrev D_rank (I : Ix) : Option Df := some (.src ⟨2, 4, T_rank I⟩)
def T_at_rank (I : Ix) : List S := [
  (.exp (.call I.look_at_format [(.var 0)] [])),
  (.ifs (.or (.not (.call I.is_whole [(.var 1)] [])) (.cmp .gt (.blt .abs (.var 1)) (.bin .add (.call I.how_many [(.var 0)] []) (.c (.int 1))))) [(.rais I.xBadFormat [])] []),
  (.unp [2, 3] (.tup [(.ifx (.cmp .ge (.var 1) (.c (.int 0))) (.c (.int 1)) (.neg (.c (.int 1)))), (.blt .abs (.var 1))])),
  (.ifs (.cmp .eq (.var 3) (.c (.int 0))) [(.ret (.tup [(.c (.str ⟨#[122, 101, 114, 111]⟩)), (.c (.int 1))]))] []),
  (.ifs (.cmp .eq (.var 3) (.bin .add (.call I.how_many [(.var 0)] []) (.c (.int 1)))) [(.ret (.tup [(.c (.str ⟨#[105, 110, 102]⟩)), (.var 2)]))] []),
  (.asg 4 (.ifx (.idx (.var 0) (.c (.int 4))) (.bin .sub (.call I.full [(.var 0)] []) (.c (.int 1))) (.c (.int 0)))),
  (.ifs (.cmp .le (.var 3) (.var 4)) [(.ret (.tup [(.c (.str ⟨#[110, 117, 109]⟩)), (.var 2), (.var 3), (.idx (.var 0) (.c (.int 2)))]))] []),
  (.asg 5 (.bin .sub (.call I.above [(.var 0)] []) (.call I.full [(.var 0)] []))),
  (.ret (.tup [(.c (.str ⟨#[110, 117, 109]⟩)), (.var 2), (.bin .add (.call I.full [(.var 0)] []) (.bin .mod (.bin .sub (.bin .sub (.var 3) (.var 4)) (.c (.int 1))) (.var 5))), (.bin .add (.idx (.var 0) (.c (.int 2))) (.bin .fdiv (.bin .sub (.bin .sub (.var 3) (.var 4)) (.c (.int 1))) (.var 5)))]))]
abbrev D_at_rank (I : Ix) : Option Df := some (.src ⟨2, 6, T_at_rank I⟩)
def T_compared (I : Ix) : List S := [
  (.ifs (.or (.cmp .eq (.var 1) (.tup [(.c (.str ⟨#[110, 97, 110]⟩))])) (.cmp .eq (.var 2) (.tup [(.c (.str ⟨#[110, 97, 110]⟩))]))) [(.exp (.call I.look_at_value [(.var 0), (.var 1)] [])), (.exp (.call I.look_at_value [(.var 0), (.var 2)] [])), (.ret (.c .non))] []),
  (.unp [3, 4] (.tup [(.call I.rank [(.var 0), (.var 1)] []), (.call I.rank [(.var 0), (.var 2)] [])])),
  (.ret (.bin .sub (.blt .int (.cmp .gt (.var 3) (.var 4))) (.blt .int (.cmp .lt (.var 3) (.var 4)))))]
abbrev D_compared (I : Ix) : Option Df := some (.src ⟨3, 5, T_compared I⟩)
def T_next_up (I : Ix) : List S := [
  (.exp (.call I.look_at_value [(.var 0), (.var 1)] [])),
  (.ifs (.cmp .in_ (.var 1) (.tup [(.tup [(.c (.str ⟨#[110, 97, 110]⟩))]), (.tup [(.c (.str ⟨#[105, 110, 102]⟩)), (.c (.int 1))])])) [(.ret (.var 1))] []),
  (.asg 2 (.bin .add (.call I.rank [(.var 0), (.var 1)] []) (.c (.int 1)))),
  (.ret (.ifx (.cmp .eq (.var 2) (.c (.int 0))) (.tup [(.c (.str ⟨#[122, 101, 114, 111]⟩)), (.neg (.c (.int 1)))]) (.call I.at_rank [(.var 0), (.var 2)] [])))]
abbrev D_next_up (I : Ix) : Option Df := some (.src ⟨2, 3, T_next_up I⟩)
def T_next_down (I : Ix) : List S := [
  (.exp (.call I.look_at_value [(.var 0), (.var 1)] [])),
  (.ret (.call I.turned [(.call I.next_up [(.var 0), (.call I.turned [(.var 1)] [])] [])] []))]
abbrev D_next_down (I : Ix) : Option Df := some (.src ⟨2, 2, T_next_down I⟩)
def T_step_at (I : Ix) : List S := [
  (.exp (.call I.look_at_value [(.var 0), (.var 1)] [])),
  (.ifs (.cmp .eq (.idx (.var 1) (.c (.int 0))) (.c (.str ⟨#[122, 101, 114, 111]⟩))) [(.ret (.call I.power [(.idx (.var 0) (.c (.int 0))), (.idx (.var 0) (.c (.int 2)))] []))] []),
  (.ifs (.cmp .ne (.idx (.var 1) (.c (.int 0))) (.c (.str ⟨#[110, 117, 109]⟩))) [(.rais I.xBadFormat [])] []),
  (.ret (.call I.power [(.idx (.var 0) (.c (.int 0))), (.idx (.var 1) (.c (.int 3)))] []))]
abbrev D_step_at (I : Ix) : Option Df := some (.src ⟨2, 2, T_step_at I⟩)
def T_steps_between (I : Ix) : List S := [
  (.ret (.bin .sub (.call I.rank [(.var 0), (.var 2)] []) (.call I.rank [(.var 0), (.var 1)] [])))]
abbrev D_steps_between (I : Ix) : Option Df := some (.src ⟨3, 3, T_steps_between I⟩)
def T_number_of (I : Ix) : List S := [
  (.exp (.call I.look_at_format [(.var 0)] [])),
  (.ifs (.cmp .eq (.idx (.var 1) (.c (.int 0))) (.c (.int 0))) [(.ret (.tup [(.c (.str ⟨#[122, 101, 114, 111]⟩)), (.c (.int 1))]))] []),
  (.asg 2 (.ifx (.cmp .gt (.idx (.var 1) (.c (.int 0))) (.c (.int 0))) (.c (.int 1)) (.neg (.c (.int 1))))),
  (.unp [3, 4] (.tup [(.c (.int 0)), (.call I.how_many [(.var 0)] [])])),
  (.whl (.cmp .lt (.var 3) (.var 4)) [(.asg 5 (.bin .fdiv (.bin .add (.bin .add (.var 3) (.var 4)) (.c (.int 1))) (.c (.int 2)))), (.ifs (.cmp .le (.call I.order [(.call I.exact [(.var 0), (.call I.at_rank [(.var 0), (.var 5)] [])] []), (.tup [(.blt .abs (.idx (.var 1) (.c (.int 0)))), (.idx (.var 1) (.c (.int 1)))])] []) (.c (.int 0))) [(.asg 3 (.var 5))] [(.asg 4 (.bin .sub (.var 5) (.c (.int 1))))])]),
  (.ifs (.or (.cmp .eq (.var 3) (.c (.int 0))) (.cmp .ne (.call I.exact [(.var 0), (.call I.at_rank [(.var 0), (.var 3)] [])] []) (.tup [(.blt .abs (.idx (.var 1) (.c (.int 0)))), (.idx (.var 1) (.c (.int 1)))]))) [(.ret (.c .non))] []),
  (.ret (.call I.at_rank [(.var 0), (.bin .mul (.var 2) (.var 3))] []))]
abbrev D_number_of (I : Ix) : Option Df := some (.src ⟨2, 6, T_number_of I⟩)
def T_is_finite (I : Ix) : List S := [
  (.ret (.cmp .in_ (.idx (.var 0) (.c (.int 0))) (.tup [(.c (.str ⟨#[110, 117, 109]⟩)), (.c (.str ⟨#[122, 101, 114, 111]⟩))])))]
abbrev D_is_finite (I : Ix) : Option Df := some (.src ⟨1, 1, T_is_finite I⟩)
def T_to_code (I : Ix) : List S := [
  (.exp (.call I.look_at_value [(.var 0), (.var 1)] [])),
  (.ifs (.cmp .eq (.idx (.var 1) (.c (.int 0))) (.c (.str ⟨#[110, 97, 110]⟩))) [(.ret (.bin .add (.bin .mul (.c (.int 2)) (.call I.how_many [(.var 0)] [])) (.c (.int 4))))] []),
  (.ret (.bin .add (.bin .mul (.c (.int 2)) (.blt .abs (.call I.rank [(.var 0), (.var 1)] []))) (.ifx (.cmp .eq (.idx (.var 1) (.c (.int 1))) (.neg (.c (.int 1)))) (.c (.int 1)) (.c (.int 0)))))]
abbrev D_to_code (I : Ix) : Option Df := some (.src ⟨2, 2, T_to_code I⟩)
def T_from_code (I : Ix) : List S := [
  (.exp (.call I.look_at_format [(.var 0)] [])),
  (.ifs (.or (.not (.call I.is_whole [(.var 1)] [])) (.not (.chain .le .le (.c (.int 0)) (.var 1) (.bin .add (.bin .mul (.c (.int 2)) (.call I.how_many [(.var 0)] [])) (.c (.int 4)))))) [(.rais I.xBadFormat [])] []),
  (.ifs (.cmp .eq (.var 1) (.bin .add (.bin .mul (.c (.int 2)) (.call I.how_many [(.var 0)] [])) (.c (.int 4)))) [(.ret (.tup [(.c (.str ⟨#[110, 97, 110]⟩))]))] []),
  (.asg 2 (.call I.at_rank [(.var 0), (.bin .fdiv (.var 1) (.c (.int 2)))] [])),
  (.ret (.ifx (.cmp .eq (.bin .mod (.var 1) (.c (.int 2))) (.c (.int 1))) (.call I.turned [(.var 2)] []) (.var 2)))]
abbrev D_from_code (I : Ix) : Option Df := some (.src ⟨2, 3, T_from_code I⟩)
def T_law_same (I : Ix) : List S := [
  (.ifs (.or (.isin .tuple (.var 1)) (.isin .list (.var 1))) [(.ifs (.or (.cmp .ne (.isin .tuple (.var 1)) (.isin .tuple (.var 0))) (.cmp .ne (.isin .list (.var 1)) (.isin .list (.var 0)))) [(.ret (.c (.bl false)))] []), (.ifs (.cmp .ne (.blt .len (.var 0)) (.blt .len (.var 1))) [(.ret (.c (.bl false)))] []), (.ret (.cmp .eq (.blt .len (.comp [2] (.one 2) (.rng1 (.blt .len (.var 1))) (.not (.call I.law_same [(.idx (.var 0) (.var 2)), (.idx (.var 1) (.var 2))] [])) (.var 2))) (.c (.int 0))))] []),
  (.ifs (.isin .str (.var 1)) [(.ret (.and (.isin .str (.var 0)) (.cmp .eq (.var 0) (.var 1))))] []),
  (.ifs (.cmp .is (.var 1) (.c .non)) [(.ret (.cmp .is (.var 0) (.c .non)))] []),
  (.ifs (.or (.isin .bool (.var 1)) (.isin .bool (.var 0))) [(.ret (.and (.isin .bool (.var 1)) (.and (.isin .bool (.var 0)) (.cmp .eq (.var 0) (.var 1)))))] []),
  (.ret (.and (.isin .int (.var 0)) (.and (.isin .int (.var 1)) (.cmp .eq (.var 0) (.var 1)))))]
abbrev D_law_same (I : Ix) : Option Df := some (.src ⟨2, 3, T_law_same I⟩)
def T_law_raise (I : Ix) : List S := [
  (.asg 2 (.c (.int 1))),
  (.for_ (.one 3) (.rng1 (.var 1)) [(.asg 2 (.bin .mul (.var 2) (.var 0)))]),
  (.ret (.var 2))]
abbrev D_law_raise (I : Ix) : Option Df := some (.src ⟨2, 4, T_law_raise I⟩)
def T_law_format (I : Ix) : List S := [
  (.asg 1 (.idx (.lst [(.c (.int 2)), (.c (.int 2)), (.c (.int 3)), (.c (.int 10)), (.c (.int 16)), (.c (.int 5)), (.bin .add (.c (.int 2)) (.call I.law_draw [(.var 0), (.c (.int 15))] []))]) (.call I.law_draw [(.var 0), (.c (.int 7))] []))),
  (.asg 2 (.bin .sub (.call I.law_draw [(.var 0), (.c (.int 6))] []) (.c (.int 4)))),
  (.ret (.tup [(.var 1), (.bin .add (.c (.int 1)) (.call I.law_draw [(.var 0), (.c (.int 4))] [])), (.var 2), (.bin .add (.var 2) (.call I.law_draw [(.var 0), (.c (.int 5))] [])), (.cmp .gt (.call I.law_draw [(.var 0), (.c (.int 3))] []) (.c (.int 0)))]))]
abbrev D_law_format (I : Ix) : Option Df := some (.src ⟨1, 3, T_law_format I⟩)
def T_law_mode (I : Ix) : List S := [
  (.ret (.idx (.lst [(.c (.str ⟨#[101, 118, 101, 110]⟩)), (.c (.str ⟨#[97, 119, 97, 121]⟩)), (.c (.str ⟨#[117, 112]⟩)), (.c (.str ⟨#[100, 111, 119, 110]⟩)), (.c (.str ⟨#[122, 101, 114, 111]⟩)), (.c (.str ⟨#[111, 100, 100]⟩))]) (.call I.law_draw [(.var 0), (.c (.int 6))] [])))]
abbrev D_law_mode (I : Ix) : Option Df := some (.src ⟨1, 1, T_law_mode I⟩)
def T_law_exact (I : Ix) : List S := [
  (.ifs (.cmp .eq (.idx (.var 1) (.c (.int 0))) (.c (.str ⟨#[122, 101, 114, 111]⟩))) [(.ret (.tup [(.c (.int 0)), (.c (.int 1))]))] []),
  (.asg 2 (.idx (.var 1) (.c (.int 3)))),
  (.ret (.tup [(.bin .mul (.bin .mul (.idx (.var 1) (.c (.int 1))) (.idx (.var 1) (.c (.int 2)))) (.call I.law_raise [(.idx (.var 0) (.c (.int 0))), (.max (.c (.int 0)) (.var 2))] [])), (.call I.law_raise [(.idx (.var 0) (.c (.int 0))), (.max (.c (.int 0)) (.neg (.var 2)))] [])]))]
abbrev D_law_exact (I : Ix) : Option Df := some (.src ⟨2, 3, T_law_exact I⟩)
def T_law_value (I : Ix) : List S := [
  (.asg 2 (.call I.law_draw [(.var 0), (.c (.int 12))] [])),
  (.ifs (.cmp .eq (.var 2) (.c (.int 0))) [(.ret (.tup [(.c (.str ⟨#[122, 101, 114, 111]⟩)), (.idx (.lst [(.c (.int 1)), (.neg (.c (.int 1)))]) (.call I.law_draw [(.var 0), (.c (.int 2))] []))]))] []),
  (.ifs (.cmp .eq (.var 2) (.c (.int 1))) [(.ret (.idx (.lst [(.tup [(.c (.str ⟨#[105, 110, 102]⟩)), (.c (.int 1))]), (.tup [(.c (.str ⟨#[105, 110, 102]⟩)), (.neg (.c (.int 1)))]), (.tup [(.c (.str ⟨#[110, 97, 110]⟩))])]) (.call I.law_draw [(.var 0), (.c (.int 3))] [])))] []),
  (.ret (.call I.law_number [(.var 0), (.var 1)] []))]
abbrev D_law_value (I : Ix) : Option Df := some (.src ⟨2, 3, T_law_value I⟩)
def T_law_number (I : Ix) : List S := [
  (.unp [2, 3, 4, 5, 6] (.var 1)),
  (.asg 7 (.call I.law_raise [(.var 2), (.bin .sub (.var 3) (.c (.int 1)))] [])),
  (.asg 8 (.bin .add (.var 4) (.call I.law_draw [(.var 0), (.bin .add (.bin .sub (.var 5) (.var 4)) (.c (.int 1)))] []))),
  (.asg 9 (.bin .add (.var 7) (.call I.law_draw [(.var 0), (.bin .sub (.bin .mul (.var 7) (.var 2)) (.var 7))] []))),
  (.ifs (.and (.var 6) (.and (.cmp .gt (.var 7) (.c (.int 1))) (.cmp .eq (.call I.law_draw [(.var 0), (.c (.int 4))] []) (.c (.int 0))))) [(.unp [9, 8] (.tup [(.bin .add (.c (.int 1)) (.call I.law_draw [(.var 0), (.bin .sub (.var 7) (.c (.int 1)))] [])), (.var 4)]))] []),
  (.ret (.tup [(.c (.str ⟨#[110, 117, 109]⟩)), (.idx (.lst [(.c (.int 1)), (.neg (.c (.int 1)))]) (.call I.law_draw [(.var 0), (.c (.int 2))] [])), (.var 9), (.var 8)]))]
abbrev D_law_number (I : Ix) : Option Df := some (.src ⟨2, 10, T_law_number I⟩)
def T_law_bad (I : Ix) : List S := [
  (.try_ [(.exp (.cloc 0 I.tab [(.var 1), (.var 2)]))] [I.xBadFormat] none [(.ret (.c (.bl true)))]),
  (.ret (.c (.bl false)))]
abbrev D_law_bad (I : Ix) : Option Df := some (.src ⟨3, 3, T_law_bad I⟩)
end PV

set_option Elab.async false
set_option linter.all false
set_option maxRecDepth 100000
set_option maxHeartbeats 1000000
/-! PW3: formats and values: what the defs answer. -/
namespace PV
open PySem
structure Core (I : Ix) (tb : Nat → Option Df) : Prop where
  is_whole : tb I.is_whole = D_is_whole I
  shared : tb I.shared = D_shared I
  fraction : tb I.fraction = D_fraction I
  times : tb I.times = D_times I
  power : tb I.power = D_power I
  raised : tb I.raised = D_raised I
  is_format : tb I.is_format = D_is_format I
  look_at_format : tb I.look_at_format = D_look_at_format I
  full : tb I.full = D_full I
  above : tb I.above = D_above I
section
variable {sub : Sub} {tb : Nat → Option Df} {I : Ix} {d : Nat} {F : Fm} {v : Vl}
theorem iw_int (C : Core I tb) (i : Int) : evFn sub tb (d + 1) I.is_whole [.int i] = PV.ret (.bl true) := is_whole_int C.is_whole
theorem iw_not (C : Core I tb) {x : D} (h : isIn .int x = some false) : evFn sub tb (d + 1) I.is_whole [x] = PV.ret (.bl false) := by
  rw [fn_src C.is_whole rfl]
  unfold T_is_whole
  simp only [evSs_nil, evSs_cons, thenS_nx, thenS_rt, bindE_ret, runFl_rt, toB_bl', getV_0, ret_bind, lift_some, evS, evE, PV.start, List.map_cons, List.map_nil, List.cons_append, List.nil_append, h, if_neg Bool.false_ne_true]
theorem iw_bl (C : Core I tb) (b : Bool) : evFn sub tb (d + 1) I.is_whole [.bl b] = PV.ret (.bl false) := by
  rw [fn_src C.is_whole rfl]
  rfl
theorem raised_nat (C : Core I tb) (k : F.Ok) (n : Nat) (hn : n ≤ 3000) : evFn sub tb (d + 1) I.raised [.int F.b, .int n] = PV.ret (.int (F.b ^ n)) :=
  raised_ok C.raised (L := 5) (bd_b k).1 (by omega)
theorem full_ok (C : Core I tb) (k : F.Ok) : evFn sub tb (d + 2) I.full [F.d] = PV.ret (.int F.f) := by
  have g := k.g1
  have r := raised_nat (sub := sub) (d := d) C k (F.g - 1).toNat (by have := k.g2; omega)
  rw [show (((F.g - 1).toNat : Nat) : Int) = F.g - 1 by omega] at r
  rw [fn_src C.full rfl]
  simp [evSs_nil, evSs_cons, thenS_nx, thenS_rt, thenS_er, thenS_bk, thenS_ct, bindE_ret, bindE_raise, runFl_rt, runFl_nx, runFl_er, runFl_ret, liftS_some, toB_bl', getV_0, getV_s, getB_0, getB_o, getB_s, ret_bind, raise_bind, lift_some, bind_assoc, evS, evE, evL, PV.start, setT, setAll, binD, augD, addD, subD, mulD, fdivD, modD, powD, negD, idxD, L2.atI, L2.ixN, cmpD, ltD, eqD, isD, isNon, isIn, bltD, maxD, minD, mapL_nil, mapL_cons, forM_nil, consO, items, T_full, r, Fm.f]
theorem above_ok (C : Core I tb) (k : F.Ok) : evFn sub tb (d + 2) I.above [F.d] = PV.ret (.int F.a) := by
  have g := k.g1
  have r := raised_nat (sub := sub) (d := d) C k F.g.toNat (by have := k.g2; omega)
  rw [show ((F.g.toNat : Nat) : Int) = F.g by omega, a_eq k] at r
  rw [fn_src C.above rfl]
  simp [evSs_nil, evSs_cons, thenS_nx, thenS_rt, thenS_er, thenS_bk, thenS_ct, bindE_ret, bindE_raise, runFl_rt, runFl_nx, runFl_er, runFl_ret, liftS_some, toB_bl', getV_0, getV_s, getB_0, getB_o, getB_s, ret_bind, raise_bind, lift_some, bind_assoc, evS, evE, evL, PV.start, setT, setAll, binD, augD, addD, subD, mulD, fdivD, modD, powD, negD, idxD, L2.atI, L2.ixN, cmpD, ltD, eqD, isD, isNon, isIn, bltD, maxD, minD, mapL_nil, mapL_cons, forM_nil, consO, items, T_above, r]
theorem is_format_ok (C : Core I tb) (k : F.Ok) : evFn sub tb (d + 2) I.is_format [F.d] = PV.ret (.bl true) := by
  have hw : ∀ i : Int, evFn sub tb (d + 1) I.is_whole [.int i] = PV.ret (.bl true) := fun i => iw_int C i
  obtain ⟨b1, b2, g1, g2, l1, lh, h2⟩ := k
  have c3 : -5000 ≤ F.l := by omega
  have c4 : F.h ≤ 5000 := by omega
  rw [fn_src C.is_format rfl]
  simp [evSs_nil, evSs_cons, thenS_nx, thenS_rt, thenS_er, thenS_bk, thenS_ct, bindE_ret, bindE_raise, runFl_rt, runFl_nx, runFl_er, runFl_ret, liftS_some, toB_bl', getV_0, getV_s, getB_0, getB_o, getB_s, ret_bind, raise_bind, lift_some, bind_assoc, evS, evE, evL, PV.start, setT, setAll, binD, augD, addD, subD, mulD, fdivD, modD, powD, negD, idxD, L2.atI, L2.ixN, cmpD, ltD, eqD, isD, isNon, isIn, bltD, maxD, minD, mapL_nil, mapL_cons, forM_nil, consO, items, T_is_format, hw, b1, b2, g1, g2, c3, lh, c4, partD, absE, slcD, cutD, HT.sIx, wipe, bools, sizeLine_eq]
theorem laf_ok (C : Core I tb) (k : F.Ok) : evFn sub tb (d + 3) I.look_at_format [F.d] = PV.ret .non := by
  have fo := is_format_ok (sub := sub) (d := d) C k
  rw [fn_src C.look_at_format rfl]
  simp [evSs_nil, evSs_cons, thenS_nx, thenS_rt, thenS_er, thenS_bk, thenS_ct, bindE_ret, bindE_raise, runFl_rt, runFl_nx, runFl_er, runFl_ret, liftS_some, toB_bl', getV_0, getV_s, getB_0, getB_o, getB_s, ret_bind, raise_bind, lift_some, bind_assoc, evS, evE, evL, PV.start, setT, setAll, binD, augD, addD, subD, mulD, fdivD, modD, powD, negD, idxD, L2.atI, L2.ixN, cmpD, ltD, eqD, isD, isNon, isIn, bltD, maxD, minD, mapL_nil, mapL_cons, forM_nil, consO, items, T_look_at_format, fo]
theorem how_many_ok (C : Core I tb) (hm : tb I.how_many = D_how_many I) (k : F.Ok) : evFn sub tb (d + 4) I.how_many [F.d] = PV.ret (.int F.many) := by
  have lk := laf_ok (sub := sub) (d := d) C k
  have fl := full_ok (sub := sub) (d := d + 1) C k
  have ab := above_ok (sub := sub) (d := d + 1) C k
  have m : mulOk (F.h - F.l + 1) (F.a - F.f) = true := by
    have hD : Bd (F.h - F.l + 1) 12 := by have := k.l1; have := k.h2; have := k.lh; unfold Bd; omega
    exact hD.mulOk ((bd_a k).sub ((bd_f k).mono (by omega))) (by omega)
  rw [fn_src hm rfl]
  unfold Fm.many mny Fm.few
  rw [show F.b * F.f = F.a from rfl]
  cases ht : F.t with
  | true => simp [evSs_nil, evSs_cons, thenS_nx, thenS_rt, thenS_er, thenS_bk, thenS_ct, bindE_ret, bindE_raise, runFl_rt, runFl_nx, runFl_er, runFl_ret, liftS_some, toB_bl', getV_0, getV_s, getB_0, getB_o, getB_s, ret_bind, raise_bind, lift_some, bind_assoc, evS, evE, evL, PV.start, setT, setAll, binD, augD, addD, subD, mulD, fdivD, modD, powD, negD, idxD, L2.atI, L2.ixN, cmpD, ltD, eqD, isD, isNon, isIn, bltD, maxD, minD, mapL_nil, mapL_cons, forM_nil, consO, items, T_how_many, lk, fl, ab, m, ht]
  | false => simp [evSs_nil, evSs_cons, thenS_nx, thenS_rt, thenS_er, thenS_bk, thenS_ct, bindE_ret, bindE_raise, runFl_rt, runFl_nx, runFl_er, runFl_ret, liftS_some, toB_bl', getV_0, getV_s, getB_0, getB_o, getB_s, ret_bind, raise_bind, lift_some, bind_assoc, evS, evE, evL, PV.start, setT, setAll, binD, augD, addD, subD, mulD, fdivD, modD, powD, negD, idxD, L2.atI, L2.ixN, cmpD, ltD, eqD, isD, isNon, isIn, bltD, maxD, minD, mapL_nil, mapL_cons, forM_nil, consO, items, T_how_many, lk, fl, ab, m, ht]
theorem frac_pos (C : Core I tb) {a u : Int} {n : Nat} (hu : 0 < u) (hB : Bd u n) (hn : n ≤ 8000) : evFn sub tb (d + 2) I.fraction [.int a, .int u] = PV.ret (LW a u) := by
  have e : signG a u = (Int.gcd a u : Int) := if_neg (by omega)
  rw [fraction_ok (xc := I.xBadPlan) C.fraction C.is_whole C.shared (by omega) (by rw [e]; exact gcd_ok hu hB hn), e]
  rfl
theorem power_ok (C : Core I tb) (k : F.Ok) {e : Int} (he : e.natAbs ≤ 1000) : evFn sub tb (d + 2) I.power [.int F.b, .int e] = PV.ret (.tup [.int (F.b ^ e.toNat), .int (F.b ^ (-e).toNat)]) := by
  have hb := (bd_b k).1
  have h0 := (bd_b k).2
  by_cases h : 0 ≤ e
  · have e1 : ((e.toNat : Nat) : Int) = e := by omega
    have e2 : (-e).toNat = 0 := by omega
    have r := power_up (sub := sub) (d := d) (fr := I.fraction) C.power C.raised (b := F.b) (e := e.toNat) (L := 5) hb (by omega)
    rw [e1] at r
    rw [r, e2, Int.pow_zero]
  · have e1 : -((((-e).toNat : Nat)) : Int) = e := by omega
    have e2 : e.toNat = 0 := by omega
    have r := power_down (sub := sub) (d := d) (fr := I.fraction) C.power C.raised (b := F.b) (e := (-e).toNat) (L := 5) h0 (by omega) hb (by omega)
    rw [e1] at r
    rw [r, e2, Int.pow_zero]
/-- times of a whole number and a power -/
theorem times_pow (C : Core I tb) (k : F.Ok) {x e : Int} (he : e.natAbs ≤ 1000) (hx : Bd x 2000) :
    evFn sub tb (d + 3) I.times [.tup [.int x, .int 1], .tup [.int (F.b ^ e.toNat), .int (F.b ^ (-e).toNat)]] = PV.ret (LW (x * F.b ^ e.toNat) (F.b ^ (-e).toNat)) := by
  rw [times_ok C.times (hx.mulOk (bd_e k he).1 (by omega)) (Bd.one.mulOk (bd_e k he).2 (by omega)), Int.one_mul]
  exact frac_pos C (Int.pow_pos (bd_b k).2) (bd_e k he).2 (by omega)
end
/-! ### values -/
structure CoreV (I : Ix) (tb : Nat → Option Df) : Prop extends Core I tb where
  is_value : tb I.is_value = D_is_value I
  look_at_value : tb I.look_at_value = D_look_at_value I
  exact : tb I.exact = D_exact I
theorem in_p : inD (.int 1) (.tup [.int 1, .int (-1)]) = some true := rfl
theorem in_n : inD (.int (-1)) (.tup [.int 1, .int (-1)]) = some true := rfl
abbrev zsD : D := .tup [.str ⟨#[122, 101, 114, 111]⟩, .str ⟨#[105, 110, 102]⟩]
theorem in_z : inD (.str ⟨#[122, 101, 114, 111]⟩) zsD = some true := by decide +kernel
theorem in_i : inD (.str ⟨#[105, 110, 102]⟩) zsD = some true := by decide +kernel
theorem in_m : inD (.str ⟨#[110, 117, 109]⟩) zsD = some false := by decide +kernel
section
variable {sub : Sub} {tb : Nat → Option Df} {I : Ix} {d : Nat} {F : Fm} {v : Vl}
theorem is_value_ok (C : CoreV I tb) (k : F.Ok) (hv : F.val v) : evFn sub tb (d + 4) I.is_value [F.d, v.d] = PV.ret (.bl true) := by
  have lk := laf_ok (sub := sub) (d := d) C.toCore k
  have fl := full_ok (sub := sub) (d := d + 1) C.toCore k
  have ab := above_ok (sub := sub) (d := d + 1) C.toCore k
  have iw := fun i => iw_int (sub := sub) (d := d + 2) C.toCore i
  rw [fn_src C.is_value rfl]
  cases v with
  | nan => simp [evSs_nil, evSs_cons, thenS_nx, thenS_rt, thenS_er, thenS_bk, thenS_ct, bindE_ret, bindE_raise, runFl_rt, runFl_nx, runFl_er, runFl_ret, liftS_some, toB_bl', getV_0, getV_s, getB_0, getB_o, getB_s, ret_bind, raise_bind, lift_some, bind_assoc, evS, evE, evL, PV.start, setT, setAll, binD, augD, addD, subD, mulD, fdivD, modD, powD, negD, idxD, L2.atI, L2.ixN, cmpD, ltD, eqD, isD, isNon, isIn, bltD, maxD, minD, mapL_nil, mapL_cons, forM_nil, consO, items, T_is_value, Vl.d, lk, size_2]
  | zero s =>
    rcases hv with rfl | rfl
    · simp [evSs_nil, evSs_cons, thenS_nx, thenS_rt, thenS_er, thenS_bk, thenS_ct, bindE_ret, bindE_raise, runFl_rt, runFl_nx, runFl_er, runFl_ret, liftS_some, toB_bl', getV_0, getV_s, getB_0, getB_o, getB_s, ret_bind, raise_bind, lift_some, bind_assoc, evS, evE, evL, PV.start, setT, setAll, binD, augD, addD, subD, mulD, fdivD, modD, powD, negD, idxD, L2.atI, L2.ixN, cmpD, ltD, eqD, isD, isNon, isIn, bltD, maxD, minD, mapL_nil, mapL_cons, forM_nil, consO, items, T_is_value, Vl.d, lk, iw, in_p, in_z, size_2]
    · simp [evSs_nil, evSs_cons, thenS_nx, thenS_rt, thenS_er, thenS_bk, thenS_ct, bindE_ret, bindE_raise, runFl_rt, runFl_nx, runFl_er, runFl_ret, liftS_some, toB_bl', getV_0, getV_s, getB_0, getB_o, getB_s, ret_bind, raise_bind, lift_some, bind_assoc, evS, evE, evL, PV.start, setT, setAll, binD, augD, addD, subD, mulD, fdivD, modD, powD, negD, idxD, L2.atI, L2.ixN, cmpD, ltD, eqD, isD, isNon, isIn, bltD, maxD, minD, mapL_nil, mapL_cons, forM_nil, consO, items, T_is_value, Vl.d, lk, iw, in_n, in_z, size_2]
  | inf s =>
    rcases hv with rfl | rfl
    · simp [evSs_nil, evSs_cons, thenS_nx, thenS_rt, thenS_er, thenS_bk, thenS_ct, bindE_ret, bindE_raise, runFl_rt, runFl_nx, runFl_er, runFl_ret, liftS_some, toB_bl', getV_0, getV_s, getB_0, getB_o, getB_s, ret_bind, raise_bind, lift_some, bind_assoc, evS, evE, evL, PV.start, setT, setAll, binD, augD, addD, subD, mulD, fdivD, modD, powD, negD, idxD, L2.atI, L2.ixN, cmpD, ltD, eqD, isD, isNon, isIn, bltD, maxD, minD, mapL_nil, mapL_cons, forM_nil, consO, items, T_is_value, Vl.d, lk, iw, in_p, in_i, size_2]
    · simp [evSs_nil, evSs_cons, thenS_nx, thenS_rt, thenS_er, thenS_bk, thenS_ct, bindE_ret, bindE_raise, runFl_rt, runFl_nx, runFl_er, runFl_ret, liftS_some, toB_bl', getV_0, getV_s, getB_0, getB_o, getB_s, ret_bind, raise_bind, lift_some, bind_assoc, evS, evE, evL, PV.start, setT, setAll, binD, augD, addD, subD, mulD, fdivD, modD, powD, negD, idxD, L2.atI, L2.ixN, cmpD, ltD, eqD, isD, isNon, isIn, bltD, maxD, minD, mapL_nil, mapL_cons, forM_nil, consO, items, T_is_value, Vl.d, lk, iw, in_n, in_i, size_2]
  | num s m e =>
    obtain ⟨hs, n⟩ := hv
    obtain ⟨m1, m2, e1, e2, fu⟩ := n
    have m2 : m < F.a := m2
    have hf : F.f ≤ m ∨ (F.t = true ∧ e = F.l) := fu.imp id fun z => ⟨by
      have z1 := z.1
      unfold Fm.few at z1
      split at z1
      · assumption
      · omega, z.2⟩
    by_cases q : F.f ≤ m
    · rcases hs with rfl | rfl
      · simp [evSs_nil, evSs_cons, thenS_nx, thenS_rt, thenS_er, thenS_bk, thenS_ct, bindE_ret, bindE_raise, runFl_rt, runFl_nx, runFl_er, runFl_ret, liftS_some, toB_bl', getV_0, getV_s, getB_0, getB_o, getB_s, ret_bind, raise_bind, lift_some, bind_assoc, evS, evE, evL, PV.start, setT, setAll, binD, augD, addD, subD, mulD, fdivD, modD, powD, negD, idxD, L2.atI, L2.ixN, cmpD, ltD, eqD, isD, isNon, isIn, bltD, maxD, minD, mapL_nil, mapL_cons, forM_nil, consO, items, T_is_value, Vl.d, lk, fl, ab, iw, in_p, in_m, size_2, m1, m2, e1, e2, q]
      · simp [evSs_nil, evSs_cons, thenS_nx, thenS_rt, thenS_er, thenS_bk, thenS_ct, bindE_ret, bindE_raise, runFl_rt, runFl_nx, runFl_er, runFl_ret, liftS_some, toB_bl', getV_0, getV_s, getB_0, getB_o, getB_s, ret_bind, raise_bind, lift_some, bind_assoc, evS, evE, evL, PV.start, setT, setAll, binD, augD, addD, subD, mulD, fdivD, modD, powD, negD, idxD, L2.atI, L2.ixN, cmpD, ltD, eqD, isD, isNon, isIn, bltD, maxD, minD, mapL_nil, mapL_cons, forM_nil, consO, items, T_is_value, Vl.d, lk, fl, ab, iw, in_n, in_m, size_2, m1, m2, e1, e2, q]
    · obtain ⟨q1, q2⟩ := hf.resolve_left q
      subst q2
      rcases hs with rfl | rfl
      · simp [evSs_nil, evSs_cons, thenS_nx, thenS_rt, thenS_er, thenS_bk, thenS_ct, bindE_ret, bindE_raise, runFl_rt, runFl_nx, runFl_er, runFl_ret, liftS_some, toB_bl', getV_0, getV_s, getB_0, getB_o, getB_s, ret_bind, raise_bind, lift_some, bind_assoc, evS, evE, evL, PV.start, setT, setAll, binD, augD, addD, subD, mulD, fdivD, modD, powD, negD, idxD, L2.atI, L2.ixN, cmpD, ltD, eqD, isD, isNon, isIn, bltD, maxD, minD, mapL_nil, mapL_cons, forM_nil, consO, items, T_is_value, Vl.d, lk, fl, ab, iw, in_p, in_m, size_2, m1, m2, k.lh, q, q1]
      · simp [evSs_nil, evSs_cons, thenS_nx, thenS_rt, thenS_er, thenS_bk, thenS_ct, bindE_ret, bindE_raise, runFl_rt, runFl_nx, runFl_er, runFl_ret, liftS_some, toB_bl', getV_0, getV_s, getB_0, getB_o, getB_s, ret_bind, raise_bind, lift_some, bind_assoc, evS, evE, evL, PV.start, setT, setAll, binD, augD, addD, subD, mulD, fdivD, modD, powD, negD, idxD, L2.atI, L2.ixN, cmpD, ltD, eqD, isD, isNon, isIn, bltD, maxD, minD, mapL_nil, mapL_cons, forM_nil, consO, items, T_is_value, Vl.d, lk, fl, ab, iw, in_n, in_m, size_2, m1, m2, k.lh, q, q1]
theorem lav_ok (C : CoreV I tb) (k : F.Ok) (hv : F.val v) : evFn sub tb (d + 5) I.look_at_value [F.d, v.d] = PV.ret .non := by
  have iv := is_value_ok (sub := sub) (d := d) C k hv
  rw [fn_src C.look_at_value rfl]
  simp [evSs_nil, evSs_cons, thenS_nx, thenS_rt, thenS_er, thenS_bk, thenS_ct, bindE_ret, bindE_raise, runFl_rt, runFl_nx, runFl_er, runFl_ret, liftS_some, toB_bl', getV_0, getV_s, getB_0, getB_o, getB_s, ret_bind, raise_bind, lift_some, bind_assoc, evS, evE, evL, PV.start, setT, setAll, binD, augD, addD, subD, mulD, fdivD, modD, powD, negD, idxD, L2.atI, L2.ixN, cmpD, ltD, eqD, isD, isNon, isIn, bltD, maxD, minD, mapL_nil, mapL_cons, forM_nil, consO, items, T_look_at_value, iv]
theorem lav_no (C : CoreV I tb) {x : D} (h : evFn sub tb (d + 4) I.is_value [F.d, x] = PV.ret (.bl false)) : evFn sub tb (d + 5) I.look_at_value [F.d, x] = PV.raise ⟨I.xBadFormat, []⟩ := by
  rw [fn_src C.look_at_value rfl]
  simp [evSs_nil, evSs_cons, thenS_nx, thenS_rt, thenS_er, thenS_bk, thenS_ct, bindE_ret, bindE_raise, runFl_rt, runFl_nx, runFl_er, runFl_ret, liftS_some, toB_bl', getV_0, getV_s, getB_0, getB_o, getB_s, ret_bind, raise_bind, lift_some, bind_assoc, evS, evE, evL, PV.start, setT, setAll, binD, augD, addD, subD, mulD, fdivD, modD, powD, negD, idxD, L2.atI, L2.ixN, cmpD, ltD, eqD, isD, isNon, isIn, bltD, maxD, minD, mapL_nil, mapL_cons, forM_nil, consO, items, T_look_at_value, h]
/-- numbers: exactly -/
theorem exact_num (C : CoreV I tb) (k : F.Ok) {s m e : Int} (hv : F.val (.num s m e)) : evFn sub tb (d + 6) I.exact [F.d, (Vl.num s m e).d] = PV.ret (LW (s * m * F.b ^ e.toNat) (F.b ^ (-e).toNat)) := by
  have lk := lav_ok (sub := sub) (d := d) C k hv
  have m1 : mulOk s m = true := (Bd.sg hv.1).mulOk (bd_m k hv) (by omega)
  have pw := power_ok (sub := sub) (d := d + 3) C.toCore k (e_le k hv)
  have tp := times_pow (sub := sub) (d := d + 2) C.toCore k (x := s * m) (e_le k hv) (((Bd.sg hv.1).mul (bd_m k hv)).mono (by omega))
  rw [fn_src C.exact rfl]
  unfold Vl.d at lk ⊢
  simp [evSs_nil, evSs_cons, thenS_nx, thenS_rt, thenS_er, thenS_bk, thenS_ct, bindE_ret, bindE_raise, runFl_rt, runFl_nx, runFl_er, runFl_ret, liftS_some, toB_bl', getV_0, getV_s, getB_0, getB_o, getB_s, ret_bind, raise_bind, lift_some, bind_assoc, evS, evE, evL, PV.start, setT, setAll, binD, augD, addD, subD, mulD, fdivD, modD, powD, negD, idxD, L2.atI, L2.ixN, cmpD, ltD, eqD, isD, isNon, isIn, bltD, maxD, minD, mapL_nil, mapL_cons, forM_nil, consO, items, T_exact, lk, m1, pw, tp, size_2]
theorem exact_zero (C : CoreV I tb) (k : F.Ok) {s : Int} (hv : F.val (.zero s)) : evFn sub tb (d + 6) I.exact [F.d, (Vl.zero s).d] = PV.ret (.tup [.int 0, .int 1]) := by
  have lk := lav_ok (sub := sub) (d := d) C k hv
  rw [fn_src C.exact rfl]
  unfold Vl.d at lk ⊢
  simp [evSs_nil, evSs_cons, thenS_nx, thenS_rt, thenS_er, thenS_bk, thenS_ct, bindE_ret, bindE_raise, runFl_rt, runFl_nx, runFl_er, runFl_ret, liftS_some, toB_bl', getV_0, getV_s, getB_0, getB_o, getB_s, ret_bind, raise_bind, lift_some, bind_assoc, evS, evE, evL, PV.start, setT, setAll, binD, augD, addD, subD, mulD, fdivD, modD, powD, negD, idxD, L2.atI, L2.ixN, cmpD, ltD, eqD, isD, isNon, isIn, bltD, maxD, minD, mapL_nil, mapL_cons, forM_nil, consO, items, T_exact, lk]
theorem exact_inf (C : CoreV I tb) (k : F.Ok) {s : Int} (hv : F.val (.inf s)) : evFn sub tb (d + 6) I.exact [F.d, (Vl.inf s).d] = PV.raise ⟨I.xBadFormat, []⟩ := by
  have lk := lav_ok (sub := sub) (d := d) C k hv
  rw [fn_src C.exact rfl]
  unfold Vl.d at lk ⊢
  simp [evSs_nil, evSs_cons, thenS_nx, thenS_rt, thenS_er, thenS_bk, thenS_ct, bindE_ret, bindE_raise, runFl_rt, runFl_nx, runFl_er, runFl_ret, liftS_some, toB_bl', getV_0, getV_s, getB_0, getB_o, getB_s, ret_bind, raise_bind, lift_some, bind_assoc, evS, evE, evL, PV.start, setT, setAll, binD, augD, addD, subD, mulD, fdivD, modD, powD, negD, idxD, L2.atI, L2.ixN, cmpD, ltD, eqD, isD, isNon, isIn, bltD, maxD, minD, mapL_nil, mapL_cons, forM_nil, consO, items, T_exact, lk]
theorem exact_no (C : CoreV I tb) {x : D} (h : evFn sub tb (d + 4) I.is_value [F.d, x] = PV.ret (.bl false)) : evFn sub tb (d + 6) I.exact [F.d, x] = PV.raise ⟨I.xBadFormat, []⟩ := by
  have lk := lav_no (sub := sub) (d := d) C h
  rw [fn_src C.exact rfl]
  simp [evSs_nil, evSs_cons, thenS_nx, thenS_rt, thenS_er, thenS_bk, thenS_ct, bindE_ret, bindE_raise, runFl_rt, runFl_nx, runFl_er, runFl_ret, liftS_some, toB_bl', getV_0, getV_s, getB_0, getB_o, getB_s, ret_bind, raise_bind, lift_some, bind_assoc, evS, evE, evL, PV.start, setT, setAll, binD, augD, addD, subD, mulD, fdivD, modD, powD, negD, idxD, L2.atI, L2.ixN, cmpD, ltD, eqD, isD, isNon, isIn, bltD, maxD, minD, mapL_nil, mapL_cons, forM_nil, consO, items, T_exact, lk]
theorem sign_of_ok (h : tb I.sign_of = D_sign_of I) : evFn sub tb (d + 1) I.sign_of [v.d] = PV.ret (match v with | .num s _ _ => .int s | .zero s => .int s | .inf s => .int s | .nan => .non) := by
  rw [fn_src h rfl]
  cases v <;> simp [evSs_nil, evSs_cons, thenS_nx, thenS_rt, thenS_er, thenS_bk, thenS_ct, bindE_ret, bindE_raise, runFl_rt, runFl_nx, runFl_er, runFl_ret, liftS_some, toB_bl', getV_0, getV_s, getB_0, getB_o, getB_s, ret_bind, raise_bind, lift_some, bind_assoc, evS, evE, evL, PV.start, setT, setAll, binD, augD, addD, subD, mulD, fdivD, modD, powD, negD, idxD, L2.atI, L2.ixN, cmpD, ltD, eqD, isD, isNon, isIn, bltD, maxD, minD, mapL_nil, mapL_cons, forM_nil, consO, items, T_sign_of, Vl.d]
theorem turned_ok (h : tb I.turned = D_turned I) : evFn sub tb (d + 1) I.turned [v.d] = PV.ret v.neg.d := by
  rw [fn_src h rfl]
  cases v <;> simp [evSs_nil, evSs_cons, thenS_nx, thenS_rt, thenS_er, thenS_bk, thenS_ct, bindE_ret, bindE_raise, runFl_rt, runFl_nx, runFl_er, runFl_ret, liftS_some, toB_bl', getV_0, getV_s, getB_0, getB_o, getB_s, ret_bind, raise_bind, lift_some, bind_assoc, evS, evE, evL, PV.start, setT, setAll, binD, augD, addD, subD, mulD, fdivD, modD, powD, negD, idxD, L2.atI, L2.ixN, cmpD, ltD, eqD, isD, isNon, isIn, bltD, maxD, minD, mapL_nil, mapL_cons, forM_nil, consO, items, T_turned, Vl.d, Vl.neg, slcD, cutD, HT.sIx, partD, absE, sizeLine_eq]
theorem sized_ok (h : tb I.sized_value = D_sized_value I) : evFn sub tb (d + 1) I.sized_value [v.d] = PV.ret v.siz.d := by
  rw [fn_src h rfl]
  cases v <;> simp [evSs_nil, evSs_cons, thenS_nx, thenS_rt, thenS_er, thenS_bk, thenS_ct, bindE_ret, bindE_raise, runFl_rt, runFl_nx, runFl_er, runFl_ret, liftS_some, toB_bl', getV_0, getV_s, getB_0, getB_o, getB_s, ret_bind, raise_bind, lift_some, bind_assoc, evS, evE, evL, PV.start, setT, setAll, binD, augD, addD, subD, mulD, fdivD, modD, powD, negD, idxD, L2.atI, L2.ixN, cmpD, ltD, eqD, isD, isNon, isIn, bltD, maxD, minD, mapL_nil, mapL_cons, forM_nil, consO, items, T_sized_value, Vl.d, Vl.siz, slcD, cutD, HT.sIx, partD, absE, sizeLine_eq]
theorem is_finite_ok (h : tb I.is_finite = D_is_finite I) : evFn sub tb (d + 1) I.is_finite [v.d] = PV.ret (.bl v.fin) := by
  have f1 : inD (.str ⟨#[110, 117, 109]⟩) (.tup [.str ⟨#[110, 117, 109]⟩, .str ⟨#[122, 101, 114, 111]⟩]) = some true := by decide +kernel
  have f2 : inD (.str ⟨#[122, 101, 114, 111]⟩) (.tup [.str ⟨#[110, 117, 109]⟩, .str ⟨#[122, 101, 114, 111]⟩]) = some true := by decide +kernel
  have f3 : inD (.str ⟨#[105, 110, 102]⟩) (.tup [.str ⟨#[110, 117, 109]⟩, .str ⟨#[122, 101, 114, 111]⟩]) = some false := by decide +kernel
  have f4 : inD (.str ⟨#[110, 97, 110]⟩) (.tup [.str ⟨#[110, 117, 109]⟩, .str ⟨#[122, 101, 114, 111]⟩]) = some false := by decide +kernel
  rw [fn_src h rfl]
  cases v <;> simp [evSs_nil, evSs_cons, thenS_nx, thenS_rt, thenS_er, thenS_bk, thenS_ct, bindE_ret, bindE_raise, runFl_rt, runFl_nx, runFl_er, runFl_ret, liftS_some, toB_bl', getV_0, getV_s, getB_0, getB_o, getB_s, ret_bind, raise_bind, lift_some, bind_assoc, evS, evE, evL, PV.start, setT, setAll, binD, augD, addD, subD, mulD, fdivD, modD, powD, negD, idxD, L2.atI, L2.ixN, cmpD, ltD, eqD, isD, isNon, isIn, bltD, maxD, minD, mapL_nil, mapL_cons, forM_nil, consO, items, T_is_finite, Vl.d, Vl.fin, f1, f2, f3, f4, size_2]
/-- ranks -/
structure CoreR (I : Ix) (tb : Nat → Option Df) : Prop extends CoreV I tb where
  how_many : tb I.how_many = D_how_many I
  rank : tb I.rank = D_rank I
  at_rank : tb I.at_rank = D_at_rank I
  turned : tb I.turned = D_turned I
end
end PV

set_option Elab.async false
set_option linter.all false
set_option maxRecDepth 100000
set_option maxHeartbeats 1000000
/-! PW4: ranks and the like. -/
namespace PV
open PySem
section
variable {sub : Sub} {tb : Nat → Option Df} {I : Ix} {d : Nat} {F : Fm} {v : Vl}
theorem bd_few (k : F.Ok) : Bd F.few 600 ∧ 0 ≤ F.few := by
  have h := bd_f k
  have p := f_pos k
  unfold Fm.few
  split
  · exact ⟨h.lt (by omega) (by omega), by omega⟩
  · exact ⟨(show Bd 0 1 by unfold Bd; decide).mono (by omega), by omega⟩
theorem bd_w (k : F.Ok) : Bd (F.a - F.f) 611 := (bd_a k).sub ((bd_f k).mono (by omega))
theorem bd_many (k : F.Ok) : Bd F.many 640 := by
  have hD : Bd (F.h - F.l + 1) 12 := by have := k.l1; have := k.h2; have := k.lh; unfold Bd; omega
  have := ((hD.mul (bd_w k)).mono (show 12 + 611 ≤ 630 by omega)).add ((bd_few k).1.mono (show 600 ≤ 630 by omega))
  exact this.mono (by omega)
theorem many_pos (k : F.Ok) : 1 ≤ F.many := mny_pos (fp k)
theorem bd_rk (k : F.Ok) {s m e : Int} (hv : F.val (.num s m e)) : Bd (rk F.b F.f F.few F.l m e) 640 := (bd_many k).lt (by have := rk_lo (fp k) hv.2; omega) (rk_hi (fp k) hv.2)
theorem few_if (t : Bool) : (if t = true then (F.f - 1) else 0) = (if t then F.f - 1 else 0) := rfl
theorem rank_ok (C : CoreR I tb) (k : F.Ok) (hv : F.val v) (hn : v ≠ .nan) : evFn sub tb (d + 6) I.rank [F.d, v.d] = PV.ret (.int (F.rank v)) := by
  have lk := lav_ok (sub := sub) (d := d) C.toCoreV k hv
  have hm := how_many_ok (sub := sub) (d := d + 1) C.toCore C.how_many k
  have fl := full_ok (sub := sub) (d := d + 3) C.toCore k
  have ab := above_ok (sub := sub) (d := d + 3) C.toCore k
  rw [fn_src C.rank rfl]
  cases v with
  | nan => exact absurd rfl hn
  | zero s =>
    unfold Vl.d at lk ⊢
    simp [evSs_nil, evSs_cons, thenS_nx, thenS_rt, thenS_er, thenS_bk, thenS_ct, bindE_ret, bindE_raise, runFl_rt, runFl_nx, runFl_er, runFl_ret, liftS_some, toB_bl', getV_0, getV_s, getB_0, getB_o, getB_s, ret_bind, raise_bind, lift_some, bind_assoc, evS, evE, evL, PV.start, setT, setAll, binD, augD, addD, subD, mulD, fdivD, modD, powD, negD, idxD, L2.atI, L2.ixN, cmpD, ltD, eqD, isD, isNon, isIn, bltD, maxD, minD, mapL_nil, mapL_cons, forM_nil, consO, items, T_rank, lk, Vl.rank]
  | inf s =>
    have m : mulOk s (F.many + 1) = true := (Bd.sg hv).mulOk ((bd_many k).add (Bd.one.mono (by omega))) (by omega)
    show _ = PV.ret (D.int (s * (F.many + 1)))
    unfold Vl.d at lk ⊢
    simp [evSs_nil, evSs_cons, thenS_nx, thenS_rt, thenS_er, thenS_bk, thenS_ct, bindE_ret, bindE_raise, runFl_rt, runFl_nx, runFl_er, runFl_ret, liftS_some, toB_bl', getV_0, getV_s, getB_0, getB_o, getB_s, ret_bind, raise_bind, lift_some, bind_assoc, evS, evE, evL, PV.start, setT, setAll, binD, augD, addD, subD, mulD, fdivD, modD, powD, negD, idxD, L2.atI, L2.ixN, cmpD, ltD, eqD, isD, isNon, isIn, bltD, maxD, minD, mapL_nil, mapL_cons, forM_nil, consO, items, T_rank, lk, hm, m]
  | num s m e =>
    have m1 : mulOk s m = true := (Bd.sg hv.1).mulOk (bd_m k hv) (by omega)
    have he : Bd (e - F.l) 12 := by have := e_le k hv; have := k.l1; have := k.lh; have := k.h2; unfold Bd; omega
    have m2 : mulOk (e - F.l) (F.a - F.f) = true := he.mulOk (bd_w k) (by omega)
    have m3 : mulOk s (rk F.b F.f F.few F.l m e) = true := (Bd.sg hv.1).mulOk (bd_rk k hv) (by omega)
    show _ = PV.ret (D.int (s * rk F.b F.f F.few F.l m e))
    unfold Vl.d at lk ⊢
    by_cases q : m < F.f
    · have er : rk F.b F.f F.few F.l m e = m := if_pos q
      rw [er]
      cases ht : F.t with
      | true => simp [evSs_nil, evSs_cons, thenS_nx, thenS_rt, thenS_er, thenS_bk, thenS_ct, bindE_ret, bindE_raise, runFl_rt, runFl_nx, runFl_er, runFl_ret, liftS_some, toB_bl', getV_0, getV_s, getB_0, getB_o, getB_s, ret_bind, raise_bind, lift_some, bind_assoc, evS, evE, evL, PV.start, setT, setAll, binD, augD, addD, subD, mulD, fdivD, modD, powD, negD, idxD, L2.atI, L2.ixN, cmpD, ltD, eqD, isD, isNon, isIn, bltD, maxD, minD, mapL_nil, mapL_cons, forM_nil, consO, items, T_rank, lk, fl, q, m1, ht]
      | false => simp [evSs_nil, evSs_cons, thenS_nx, thenS_rt, thenS_er, thenS_bk, thenS_ct, bindE_ret, bindE_raise, runFl_rt, runFl_nx, runFl_er, runFl_ret, liftS_some, toB_bl', getV_0, getV_s, getB_0, getB_o, getB_s, ret_bind, raise_bind, lift_some, bind_assoc, evS, evE, evL, PV.start, setT, setAll, binD, augD, addD, subD, mulD, fdivD, modD, powD, negD, idxD, L2.atI, L2.ixN, cmpD, ltD, eqD, isD, isNon, isIn, bltD, maxD, minD, mapL_nil, mapL_cons, forM_nil, consO, items, T_rank, lk, fl, q, m1, ht]
    · have er : rk F.b F.f F.few F.l m e = F.few + (e - F.l) * (F.a - F.f) + m - F.f + 1 := if_neg q
      rw [er] at m3 ⊢
      unfold Fm.few at m3 ⊢
      cases ht : F.t with
      | true =>
        rw [ht, if_pos rfl] at m3
        simp [evSs_nil, evSs_cons, thenS_nx, thenS_rt, thenS_er, thenS_bk, thenS_ct, bindE_ret, bindE_raise, runFl_rt, runFl_nx, runFl_er, runFl_ret, liftS_some, toB_bl', getV_0, getV_s, getB_0, getB_o, getB_s, ret_bind, raise_bind, lift_some, bind_assoc, evS, evE, evL, PV.start, setT, setAll, binD, augD, addD, subD, mulD, fdivD, modD, powD, negD, idxD, L2.atI, L2.ixN, cmpD, ltD, eqD, isD, isNon, isIn, bltD, maxD, minD, mapL_nil, mapL_cons, forM_nil, consO, items, T_rank, lk, fl, ab, q, m2, m3, ht]
      | false =>
        rw [ht, if_neg Bool.false_ne_true] at m3
        rw [Int.zero_add] at m3
        simp [evSs_nil, evSs_cons, thenS_nx, thenS_rt, thenS_er, thenS_bk, thenS_ct, bindE_ret, bindE_raise, runFl_rt, runFl_nx, runFl_er, runFl_ret, liftS_some, toB_bl', getV_0, getV_s, getB_0, getB_o, getB_s, ret_bind, raise_bind, lift_some, bind_assoc, evS, evE, evL, PV.start, setT, setAll, binD, augD, addD, subD, mulD, fdivD, modD, powD, negD, idxD, L2.atI, L2.ixN, cmpD, ltD, eqD, isD, isNon, isIn, bltD, maxD, minD, mapL_nil, mapL_cons, forM_nil, consO, items, T_rank, lk, fl, ab, q, m2, m3, ht]
theorem rank_nan (C : CoreR I tb) (k : F.Ok) : evFn sub tb (d + 6) I.rank [F.d, Vl.nan.d] = PV.raise ⟨I.xBadFormat, []⟩ := by
  have lk := lav_ok (sub := sub) (d := d) (v := .nan) C.toCoreV k trivial
  rw [fn_src C.rank rfl]
  unfold Vl.d at lk ⊢
  simp [evSs_nil, evSs_cons, thenS_nx, thenS_rt, thenS_er, thenS_bk, thenS_ct, bindE_ret, bindE_raise, runFl_rt, runFl_nx, runFl_er, runFl_ret, liftS_some, toB_bl', getV_0, getV_s, getB_0, getB_o, getB_s, ret_bind, raise_bind, lift_some, bind_assoc, evS, evE, evL, PV.start, setT, setAll, binD, augD, addD, subD, mulD, fdivD, modD, powD, negD, idxD, L2.atI, L2.ixN, cmpD, ltD, eqD, isD, isNon, isIn, bltD, maxD, minD, mapL_nil, mapL_cons, forM_nil, consO, items, T_rank, lk]
theorem rank_no (C : CoreR I tb) {x : D} (h : evFn sub tb (d + 4) I.is_value [F.d, x] = PV.ret (.bl false)) : evFn sub tb (d + 6) I.rank [F.d, x] = PV.raise ⟨I.xBadFormat, []⟩ := by
  have lk := lav_no (sub := sub) (d := d) C.toCoreV h
  rw [fn_src C.rank rfl]
  simp [evSs_nil, evSs_cons, thenS_nx, thenS_rt, thenS_er, thenS_bk, thenS_ct, bindE_ret, bindE_raise, runFl_rt, runFl_nx, runFl_er, runFl_ret, liftS_some, toB_bl', getV_0, getV_s, getB_0, getB_o, getB_s, ret_bind, raise_bind, lift_some, bind_assoc, evS, evE, evL, PV.start, setT, setAll, binD, augD, addD, subD, mulD, fdivD, modD, powD, negD, idxD, L2.atI, L2.ixN, cmpD, ltD, eqD, isD, isNon, isIn, bltD, maxD, minD, mapL_nil, mapL_cons, forM_nil, consO, items, T_rank, lk]
/-- places -/
theorem at_rank_ok (C : CoreR I tb) (k : F.Ok) {p : Int} (hp : (p.natAbs : Int) ≤ F.many + 1) : evFn sub tb (d + 5) I.at_rank [F.d, .int p] = PV.ret (F.at p).d := by
  have lk := laf_ok (sub := sub) (d := d + 1) C.toCore k
  have hm := how_many_ok (sub := sub) (d := d) C.toCore C.how_many k
  have fl := full_ok (sub := sub) (d := d + 2) C.toCore k
  have ab := above_ok (sub := sub) (d := d + 2) C.toCore k
  have iw := iw_int (sub := sub) (d := d + 3) C.toCore p
  have mp := many_pos k
  have w1 := (fp k).w
  have w1 : 1 ≤ F.a - F.f := w1
  have hw := bd_w k
  have hd : divOk (F.a - F.f) = true := by
    have := hw.log
    unfold divOk
    rw [Bool.and_eq_true]
    exact ⟨decide_eq_true (by omega), decide_eq_true (by omega)⟩
  have w0 : F.a - F.f ≠ 0 := by omega
  by_cases h0 : p = 0
  · subst h0
    rw [fn_src C.at_rank rfl]
    have c1 : ¬ (F.many + 1 < 0) := by omega
    have e : F.at 0 = .zero 1 := rfl
    rw [e]
    simp [evSs_nil, evSs_cons, thenS_nx, thenS_rt, thenS_er, thenS_bk, thenS_ct, bindE_ret, bindE_raise, runFl_rt, runFl_nx, runFl_er, runFl_ret, liftS_some, toB_bl', getV_0, getV_s, getB_0, getB_o, getB_s, ret_bind, raise_bind, lift_some, bind_assoc, evS, evE, evL, PV.start, setT, setAll, binD, augD, addD, subD, mulD, fdivD, modD, powD, negD, idxD, L2.atI, L2.ixN, cmpD, ltD, eqD, isD, isNon, isIn, bltD, maxD, minD, mapL_nil, mapL_cons, forM_nil, consO, items, T_at_rank, lk, iw, hm, c1, size_2, Vl.d]
  · obtain ⟨q, q1, sg⟩ : ∃ q : Int, 1 ≤ q ∧ (p = q ∨ p = -q) := by
      by_cases s : 0 ≤ p
      · exact ⟨p, by omega, Or.inl rfl⟩
      · exact ⟨-p, by omega, Or.inr (by omega)⟩
    have na : (p.natAbs : Int) = q := by omega
    have c0 : ¬ (F.many + 1 < q) := by omega
    have c1 : ¬ (q < 0) := by omega
    have c2 : 0 ≤ q := by omega
    have c3 : q ≠ 0 := by omega
    have c4 : 0 < q := by omega
    have c5 : ¬ (q ≤ 0) := by omega
    by_cases h1 : q = F.many + 1
    · have e : F.at p = .inf (if 0 ≤ p then 1 else -1) := by
        show atR F.b F.f F.few F.l F.h p = _
        unfold atR
        rw [if_neg (by omega), if_pos (show (p.natAbs : Int) = mny F.b F.f F.few F.l F.h + 1 from na.trans h1)]
      rw [e]
      rw [h1] at c0 c1 c2 c3 c4 c5
      rcases sg with rfl | rfl
      · rw [h1, fn_src C.at_rank rfl]
        simp [evSs_nil, evSs_cons, thenS_nx, thenS_rt, thenS_er, thenS_bk, thenS_ct, bindE_ret, bindE_raise, runFl_rt, runFl_nx, runFl_er, runFl_ret, liftS_some, toB_bl', getV_0, getV_s, getB_0, getB_o, getB_s, ret_bind, raise_bind, lift_some, bind_assoc, evS, evE, evL, PV.start, setT, setAll, binD, augD, addD, subD, mulD, fdivD, modD, powD, negD, idxD, L2.atI, L2.ixN, cmpD, ltD, eqD, isD, isNon, isIn, bltD, maxD, minD, mapL_nil, mapL_cons, forM_nil, consO, items, T_at_rank, lk, iw_int (sub := sub) (d := d + 3) C.toCore, hm, c0, c1, c2, c3, c4, c5, size_2, Vl.d]
      · rw [h1, fn_src C.at_rank rfl]
        simp [evSs_nil, evSs_cons, thenS_nx, thenS_rt, thenS_er, thenS_bk, thenS_ct, bindE_ret, bindE_raise, runFl_rt, runFl_nx, runFl_er, runFl_ret, liftS_some, toB_bl', getV_0, getV_s, getB_0, getB_o, getB_s, ret_bind, raise_bind, lift_some, bind_assoc, evS, evE, evL, PV.start, setT, setAll, binD, augD, addD, subD, mulD, fdivD, modD, powD, negD, idxD, L2.atI, L2.ixN, cmpD, ltD, eqD, isD, isNon, isIn, bltD, maxD, minD, mapL_nil, mapL_cons, forM_nil, consO, items, T_at_rank, lk, iw_int (sub := sub) (d := d + 3) C.toCore, hm, c0, c1, c2, c3, c4, c5, size_2, Vl.d]
    · have e : F.at p = .num (if 0 ≤ p then 1 else -1) (upM F.b F.f F.few q) (upE F.b F.f F.few F.l q) := by
        show atR F.b F.f F.few F.l F.h p = _
        unfold atR
        rw [if_neg (by omega), if_neg (show ¬ (p.natAbs : Int) = mny F.b F.f F.few F.l F.h + 1 from fun z => h1 (na.symm.trans z)), na]
      rw [e]
      have few0 := (bd_few k).2
      have rest : ∀ (P : Int) (S : Int), (if P < 0 then -P else P) = q → ((0 ≤ P ∧ S = 1) ∨ (¬ 0 ≤ P ∧ S = -1)) → evFn sub tb (d + 4 + 1) I.at_rank [F.d, .int P] = PV.ret (Vl.num S (upM F.b F.f F.few q) (upE F.b F.f F.few F.l q)).d := by
        intro P S hA hS
        have iw := iw_int (sub := sub) (d := d + 3) C.toCore P
        rw [fn_src C.at_rank rfl]
        by_cases hq : q ≤ F.few
        · have e1 : upM F.b F.f F.few q = q := if_pos hq
          have e2 : upE F.b F.f F.few F.l q = F.l := if_pos hq
          rw [e1, e2]
          unfold Fm.few at hq
          cases ht : F.t with
          | true =>
            rw [ht, if_pos rfl] at hq
            rcases hS with ⟨s1, rfl⟩ | ⟨s1, rfl⟩
            · simp [evSs_nil, evSs_cons, thenS_nx, thenS_rt, thenS_er, thenS_bk, thenS_ct, bindE_ret, bindE_raise, runFl_rt, runFl_nx, runFl_er, runFl_ret, liftS_some, toB_bl', getV_0, getV_s, getB_0, getB_o, getB_s, ret_bind, raise_bind, lift_some, bind_assoc, evS, evE, evL, PV.start, setT, setAll, binD, augD, addD, subD, mulD, fdivD, modD, powD, negD, idxD, L2.atI, L2.ixN, cmpD, ltD, eqD, isD, isNon, isIn, bltD, maxD, minD, mapL_nil, mapL_cons, forM_nil, consO, items, T_at_rank, lk, iw, hm, hA, s1, c0, h1, c3, fl, ht, hq, size_2, Vl.d, sizeLine_eq]
            · simp [evSs_nil, evSs_cons, thenS_nx, thenS_rt, thenS_er, thenS_bk, thenS_ct, bindE_ret, bindE_raise, runFl_rt, runFl_nx, runFl_er, runFl_ret, liftS_some, toB_bl', getV_0, getV_s, getB_0, getB_o, getB_s, ret_bind, raise_bind, lift_some, bind_assoc, evS, evE, evL, PV.start, setT, setAll, binD, augD, addD, subD, mulD, fdivD, modD, powD, negD, idxD, L2.atI, L2.ixN, cmpD, ltD, eqD, isD, isNon, isIn, bltD, maxD, minD, mapL_nil, mapL_cons, forM_nil, consO, items, T_at_rank, lk, iw, hm, hA, s1, c0, h1, c3, fl, ht, hq, size_2, Vl.d, sizeLine_eq]
          | false =>
            rw [ht, if_neg Bool.false_ne_true] at hq
            omega
        · have e1 : upM F.b F.f F.few q = F.f + (q - F.few - 1).fmod (F.a - F.f) := by
            rw [Int.fmod_eq_emod_of_nonneg _ (by omega)]
            exact if_neg hq
          have e2 : upE F.b F.f F.few F.l q = F.l + (q - F.few - 1).fdiv (F.a - F.f) := by
            rw [Int.fdiv_eq_ediv_of_nonneg _ (by omega)]
            exact if_neg hq
          rw [e1, e2]
          unfold Fm.few at hq ⊢
          cases ht : F.t with
          | true =>
            rw [ht, if_pos rfl] at hq
            rcases hS with ⟨s1, rfl⟩ | ⟨s1, rfl⟩
            · simp [evSs_nil, evSs_cons, thenS_nx, thenS_rt, thenS_er, thenS_bk, thenS_ct, bindE_ret, bindE_raise, runFl_rt, runFl_nx, runFl_er, runFl_ret, liftS_some, toB_bl', getV_0, getV_s, getB_0, getB_o, getB_s, ret_bind, raise_bind, lift_some, bind_assoc, evS, evE, evL, PV.start, setT, setAll, binD, augD, addD, subD, mulD, fdivD, modD, powD, negD, idxD, L2.atI, L2.ixN, cmpD, ltD, eqD, isD, isNon, isIn, bltD, maxD, minD, mapL_nil, mapL_cons, forM_nil, consO, items, T_at_rank, lk, iw, hm, hA, s1, c0, h1, c3, fl, ab, ht, hq, hd, w0, size_2, Vl.d, sizeLine_eq]
            · simp [evSs_nil, evSs_cons, thenS_nx, thenS_rt, thenS_er, thenS_bk, thenS_ct, bindE_ret, bindE_raise, runFl_rt, runFl_nx, runFl_er, runFl_ret, liftS_some, toB_bl', getV_0, getV_s, getB_0, getB_o, getB_s, ret_bind, raise_bind, lift_some, bind_assoc, evS, evE, evL, PV.start, setT, setAll, binD, augD, addD, subD, mulD, fdivD, modD, powD, negD, idxD, L2.atI, L2.ixN, cmpD, ltD, eqD, isD, isNon, isIn, bltD, maxD, minD, mapL_nil, mapL_cons, forM_nil, consO, items, T_at_rank, lk, iw, hm, hA, s1, c0, h1, c3, fl, ab, ht, hq, hd, w0, size_2, Vl.d, sizeLine_eq]
          | false =>
            rw [ht, if_neg Bool.false_ne_true] at hq
            rcases hS with ⟨s1, rfl⟩ | ⟨s1, rfl⟩
            · simp [evSs_nil, evSs_cons, thenS_nx, thenS_rt, thenS_er, thenS_bk, thenS_ct, bindE_ret, bindE_raise, runFl_rt, runFl_nx, runFl_er, runFl_ret, liftS_some, toB_bl', getV_0, getV_s, getB_0, getB_o, getB_s, ret_bind, raise_bind, lift_some, bind_assoc, evS, evE, evL, PV.start, setT, setAll, binD, augD, addD, subD, mulD, fdivD, modD, powD, negD, idxD, L2.atI, L2.ixN, cmpD, ltD, eqD, isD, isNon, isIn, bltD, maxD, minD, mapL_nil, mapL_cons, forM_nil, consO, items, T_at_rank, lk, iw, hm, hA, s1, c0, h1, c3, fl, ab, ht, hq, hd, w0, size_2, Vl.d, sizeLine_eq]
            · simp [evSs_nil, evSs_cons, thenS_nx, thenS_rt, thenS_er, thenS_bk, thenS_ct, bindE_ret, bindE_raise, runFl_rt, runFl_nx, runFl_er, runFl_ret, liftS_some, toB_bl', getV_0, getV_s, getB_0, getB_o, getB_s, ret_bind, raise_bind, lift_some, bind_assoc, evS, evE, evL, PV.start, setT, setAll, binD, augD, addD, subD, mulD, fdivD, modD, powD, negD, idxD, L2.atI, L2.ixN, cmpD, ltD, eqD, isD, isNon, isIn, bltD, maxD, minD, mapL_nil, mapL_cons, forM_nil, consO, items, T_at_rank, lk, iw, hm, hA, s1, c0, h1, c3, fl, ab, ht, hq, hd, w0, size_2, Vl.d, sizeLine_eq]
      rcases sg with rfl | rfl
      · exact rest _ _ (if_neg c1) (.inl ⟨c2, if_pos c2⟩)
      · exact rest _ _ (by rw [if_pos (by omega)]; omega) (.inr ⟨by omega, if_neg (by omega)⟩)
end
end PV

set_option Elab.async false
set_option linter.all false
set_option maxRecDepth 100000
set_option maxHeartbeats 1000000
/-! PW5: steps, codes, orders of values. -/
namespace PV
open PySem
/-- the next greater value -/
def Fm.up (F : Fm) (v : Vl) : Vl := if v = .nan ∨ v = .inf 1 then v else if F.rank v + 1 = 0 then .zero (-1) else F.at (F.rank v + 1)
def Fm.down (F : Fm) (v : Vl) : Vl := (F.up v.neg).neg
theorem ok_num : PyData.strOk ⟨#[110, 117, 109]⟩ = true := by decide +kernel
theorem ok_zero : PyData.strOk ⟨#[122, 101, 114, 111]⟩ = true := by decide +kernel
theorem ok_inf : PyData.strOk ⟨#[105, 110, 102]⟩ = true := by decide +kernel
theorem ok_nan : PyData.strOk ⟨#[110, 97, 110]⟩ = true := by decide +kernel
def Vl.pd : Vl → PyData
  | .num s m e => .tuple [.str ⟨#[110, 117, 109]⟩, .int s, .int m, .int e]
  | .zero s => .tuple [.str ⟨#[122, 101, 114, 111]⟩, .int s]
  | .inf s => .tuple [.str ⟨#[105, 110, 102]⟩, .int s]
  | .nan => .tuple [.str ⟨#[110, 97, 110]⟩]
theorem v_pd (v : Vl) : v.d.pd = some v.pd := by cases v <;> rfl
theorem v_shaped (v : Vl) : SeqAt.shaped v.pd = true := by
  cases v <;> simp [Vl.pd, SeqAt.shaped, PyData.canLay0, PyData.canLayAll0, PyData.depth, PyData.depthAll, ok_num, ok_zero, ok_inf, ok_nan]
theorem v_eqv (v w : Vl) : PyData.eqv v.pd w.pd = decide (v = w) := by
  cases v <;> cases w <;> simp [Vl.pd, PyData.eqv, PyData.eqvAll] <;> first | rfl | decide
/-- == of values -/
theorem v_eqD (v w : Vl) : eqD v.d w.d = some (decide (v = w)) := by
  have e : eqD v.d w.d = match v.d.pd, w.d.pd with
    | some p, some q => if SeqAt.shaped p && SeqAt.shaped q then some (PyData.eqv p q) else none
    | _, _ => none := by cases v <;> cases w <;> rfl
  rw [e, v_pd, v_pd]
  dsimp only
  rw [v_shaped, v_shaped, v_eqv]
  rfl
abbrev niD : D := .tup [.tup [.str ⟨#[110, 97, 110]⟩], .tup [.str ⟨#[105, 110, 102]⟩, .int 1]]
theorem v_in (v : Vl) : inD v.d niD = some (decide (v = .nan ∨ v = .inf 1)) := by
  have e : inD v.d niD = match v.d.pd, pdAll [Vl.nan.d, (Vl.inf 1).d] with
    | some p, some qs => if SeqAt.shaped p && SeqAt.shaped (.list qs) then some (qs.any fun q => PyData.eqv q p) else none
    | _, _ => none := by cases v <;> rfl
  have e2 : pdAll [Vl.nan.d, (Vl.inf 1).d] = some [Vl.nan.pd, (Vl.inf 1).pd] := rfl
  have e3 : SeqAt.shaped (.list [Vl.nan.pd, (Vl.inf 1).pd]) = true := by decide +kernel
  rw [e, v_pd, e2]
  dsimp only
  rw [v_shaped, e3]
  simp only [List.any_cons, List.any_nil, v_eqv, Bool.and_self, if_true, Bool.or_false, Option.some.injEq]
  rw [Bool.decide_or]
  congr 1
  · exact decide_eq_decide.mpr eq_comm
  · exact decide_eq_decide.mpr eq_comm
section
variable {sub : Sub} {tb : Nat → Option Df} {I : Ix} {d : Nat} {F : Fm} {v w : Vl}
theorem nan_d : (D.tup [.str ⟨#[110, 97, 110]⟩]) = Vl.nan.d := rfl
theorem compared_ok (C : CoreR I tb) (hc : tb I.compared = D_compared I) (k : F.Ok) (hv : F.val v) (hw : F.val w) (nv : v ≠ .nan) (nw : w ≠ .nan) :
    evFn sub tb (d + 7) I.compared [F.d, v.d, w.d] = PV.ret (.int (if F.rank w < F.rank v then 1 else if F.rank v < F.rank w then -1 else 0)) := by
  have r1 := rank_ok (sub := sub) (d := d) C k hv nv
  have r2 := rank_ok (sub := sub) (d := d) C k hw nw
  have e1 : eqD v.d (D.tup [.str ⟨#[110, 97, 110]⟩]) = some false := by rw [nan_d, v_eqD, decide_eq_false nv]
  have e2 : eqD w.d (D.tup [.str ⟨#[110, 97, 110]⟩]) = some false := by rw [nan_d, v_eqD, decide_eq_false nw]
  rw [fn_src hc rfl]
  generalize F.rank v = a at r1 ⊢
  generalize F.rank w = b at r2 ⊢
  generalize v.d = x at r1 e1 ⊢
  generalize w.d = y at r2 e2 ⊢
  simp [T_compared, evSs_nil, evSs_cons, thenS_nx, thenS_rt, thenS_er, bindE_ret, runFl_rt, liftS_some, toB_bl', getV_0, getV_s, ret_bind, lift_some, bind_assoc, evS, evE, evL, PV.start, setT, setAll, binD, subD, cmpD, e1, e2, ltD, bltD, r1, r2, size_2, sizeLine_eq]
  split <;> split <;> simp <;> omega
theorem compared_nan (C : CoreR I tb) (hc : tb I.compared = D_compared I) (k : F.Ok) (hv : F.val v) (hw : F.val w) (n : v = .nan ∨ w = .nan) :
    evFn sub tb (d + 7) I.compared [F.d, v.d, w.d] = PV.ret .non := by
  have l1 := lav_ok (sub := sub) (d := d + 1) C.toCoreV k hv
  have l2 := lav_ok (sub := sub) (d := d + 1) C.toCoreV k hw
  rw [fn_src hc rfl]
  have e1 : eqD v.d (D.tup [.str ⟨#[110, 97, 110]⟩]) = some (decide (v = .nan)) := by rw [nan_d, v_eqD]
  have e2 : eqD w.d (D.tup [.str ⟨#[110, 97, 110]⟩]) = some (decide (w = .nan)) := by rw [nan_d, v_eqD]
  by_cases q : v = .nan
  · rw [decide_eq_true q] at e1
    generalize v.d = x at l1 e1 ⊢
    generalize w.d = y at l2 e2 ⊢
    simp [T_compared, evSs_nil, evSs_cons, thenS_nx, thenS_rt, thenS_er, bindE_ret, runFl_rt, liftS_some, toB_bl', getV_0, getV_s, ret_bind, lift_some, bind_assoc, evS, evE, evL, PV.start, cmpD, e1, e2, l1, l2, size_2, sizeLine_eq]
  · rw [decide_eq_false q] at e1
    rw [decide_eq_true (n.resolve_left q)] at e2
    generalize v.d = x at l1 e1 ⊢
    generalize w.d = y at l2 e2 ⊢
    simp [T_compared, evSs_nil, evSs_cons, thenS_nx, thenS_rt, thenS_er, bindE_ret, runFl_rt, liftS_some, toB_bl', getV_0, getV_s, ret_bind, lift_some, bind_assoc, evS, evE, evL, PV.start, cmpD, e1, e2, l1, l2, size_2, sizeLine_eq]
theorem next_up_ok (C : CoreR I tb) (hc : tb I.next_up = D_next_up I) (k : F.Ok) (hv : F.val v) :
    evFn sub tb (d + 7) I.next_up [F.d, v.d] = PV.ret (F.up v).d := by
  have l1 := lav_ok (sub := sub) (d := d + 1) C.toCoreV k hv
  have vi := v_in v
  rw [fn_src hc rfl]
  unfold Fm.up
  by_cases q : v = .nan ∨ v = .inf 1
  · rw [decide_eq_true q] at vi
    rw [if_pos q]
    generalize v.d = x at l1 vi ⊢
    simp [T_next_up, evSs_nil, evSs_cons, thenS_nx, thenS_rt, thenS_er, bindE_ret, runFl_rt, liftS_some, toB_bl', getV_0, getV_s, ret_bind, lift_some, bind_assoc, evS, evE, evL, PV.start, cmpD, vi, l1, size_2, sizeLine_eq]
  · rw [decide_eq_false q] at vi
    rw [if_neg q]
    have r1 := rank_ok (sub := sub) (d := d) C k hv (fun z => q (.inl z))
    by_cases z : F.rank v + 1 = 0
    · rw [if_pos z]
      have zd : (Vl.zero (-1)).d = .tup [.str ⟨#[122, 101, 114, 111]⟩, .int (-1)] := rfl
      rw [zd]
      generalize F.rank v = a at r1 z ⊢
      generalize v.d = x at l1 vi r1 ⊢
      simp [T_next_up, evSs_nil, evSs_cons, thenS_nx, thenS_rt, thenS_er, bindE_ret, runFl_rt, liftS_some, toB_bl', getV_0, getV_s, ret_bind, lift_some, bind_assoc, evS, evE, evL, PV.start, cmpD, vi, l1, r1, binD, addD, negD, eqD, z, size_2, sizeLine_eq]
    · rw [if_neg z]
      have rl := rank_le (fp k) hv
      have hi : F.rank v + 1 ≤ F.many + 1 := by
        have : F.rank v ≠ F.many + 1 := fun y => by
          have nv : v ≠ .nan := fun z => q (.inl z)
          have ni : v ≠ .inf 1 := fun z => q (.inr z)
          cases v with
          | nan => exact nv rfl
          | zero s => have : (0 : Int) = F.many + 1 := y; have := many_pos k; omega
          | inf s =>
            rcases hv with rfl | rfl
            · exact ni rfl
            · have y : -1 * (F.many + 1) = F.many + 1 := y; have := many_pos k; omega
          | num s m e =>
            have y : s * rk F.b F.f F.few F.l m e = F.many + 1 := y
            have hi : rk F.b F.f F.few F.l m e ≤ F.many := rk_hi (fp k) hv.2
            have lo := rk_lo (fp k) hv.2
            rcases hv.1 with rfl | rfl <;> omega
        have rl : ((F.rank v).natAbs : Int) ≤ F.many + 1 := rl
        omega
      have rl : ((F.rank v).natAbs : Int) ≤ F.many + 1 := rl
      have at_ := at_rank_ok (sub := sub) (d := d + 1) (p := F.rank v + 1) C k (by omega)
      generalize F.at (F.rank v + 1) = y at at_ ⊢
      generalize F.rank v = a at r1 z at_ ⊢
      generalize v.d = x at l1 vi r1 ⊢
      simp [T_next_up, evSs_nil, evSs_cons, thenS_nx, thenS_rt, thenS_er, bindE_ret, runFl_rt, liftS_some, toB_bl', getV_0, getV_s, ret_bind, lift_some, bind_assoc, evS, evE, evL, PV.start, cmpD, vi, l1, r1, binD, addD, negD, eqD, z, at_, size_2, sizeLine_eq]
end
end PV

set_option Elab.async false
set_option linter.all false
set_option maxRecDepth 100000
set_option maxHeartbeats 1000000
/-! PW6: codes, steps, the value of a fraction. -/
namespace PV
open PySem
def Fm.code (F : Fm) (v : Vl) : Int := match v with
  | .num s _ _ => 2 * ((F.rank v).natAbs : Int) + (if s = -1 then 1 else 0)
  | .zero s => 2 * ((F.rank v).natAbs : Int) + (if s = -1 then 1 else 0)
  | .inf s => 2 * ((F.rank v).natAbs : Int) + (if s = -1 then 1 else 0)
  | .nan => 2 * F.many + 4
def Fm.ofCode (F : Fm) (c : Int) : Vl := if c = 2 * F.many + 4 then .nan else if c % 2 = 1 then (F.at (c / 2)).neg else F.at (c / 2)
section
variable {sub : Sub} {tb : Nat → Option Df} {I : Ix} {d : Nat} {F : Fm} {v w : Vl}
theorem next_down_ok (C : CoreR I tb) (hu : tb I.next_up = D_next_up I) (hc : tb I.next_down = D_next_down I) (k : F.Ok) (hv : F.val v) :
    evFn sub tb (d + 8) I.next_down [F.d, v.d] = PV.ret (F.down v).d := by
  have l1 := lav_ok (sub := sub) (d := d + 2) C.toCoreV k hv
  have t1 := turned_ok (sub := sub) (d := d + 6) (v := v) C.turned
  have u1 := next_up_ok (sub := sub) (d := d) (v := v.neg) C hu k (neg_ok hv)
  have t2 := turned_ok (sub := sub) (d := d + 6) (v := F.up v.neg) C.turned
  rw [fn_src hc rfl]
  unfold Fm.down
  generalize (F.up v.neg).neg.d = z at t2 ⊢
  generalize (F.up v.neg).d = y at t2 u1 ⊢
  generalize v.neg.d = a at t1 u1 ⊢
  generalize v.d = x at l1 t1 ⊢
  simp [evSs_nil, evSs_cons, thenS_nx, thenS_rt, thenS_er, thenS_bk, thenS_ct, bindE_ret, bindE_raise, runFl_rt, runFl_nx, runFl_er, runFl_ret, liftS_some, toB_bl', getV_0, getV_s, getB_0, getB_o, getB_s, ret_bind, raise_bind, lift_some, bind_assoc, evS, evE, evL, PV.start, setT, setAll, binD, augD, addD, subD, mulD, fdivD, modD, powD, negD, idxD, L2.atI, L2.ixN, cmpD, ltD, eqD, isD, isNon, isIn, bltD, maxD, minD, mapL_nil, mapL_cons, forM_nil, consO, items, T_next_down, l1, t1, t2, u1]
theorem step_num (C : CoreV I tb) (hc : tb I.step_at = D_step_at I) (k : F.Ok) {s m e : Int} (hv : F.val (.num s m e)) :
    evFn sub tb (d + 6) I.step_at [F.d, (Vl.num s m e).d] = PV.ret (.tup [.int (F.b ^ e.toNat), .int (F.b ^ (-e).toNat)]) := by
  have lk := lav_ok (sub := sub) (d := d) C k hv
  have pw := power_ok (sub := sub) (d := d + 3) C.toCore k (e_le k hv)
  rw [fn_src hc rfl]
  unfold Vl.d at lk ⊢
  simp [evSs_nil, evSs_cons, thenS_nx, thenS_rt, thenS_er, thenS_bk, thenS_ct, bindE_ret, bindE_raise, runFl_rt, runFl_nx, runFl_er, runFl_ret, liftS_some, toB_bl', getV_0, getV_s, getB_0, getB_o, getB_s, ret_bind, raise_bind, lift_some, bind_assoc, evS, evE, evL, PV.start, setT, setAll, binD, augD, addD, subD, mulD, fdivD, modD, powD, negD, idxD, L2.atI, L2.ixN, cmpD, ltD, eqD, isD, isNon, isIn, bltD, maxD, minD, mapL_nil, mapL_cons, forM_nil, consO, items, T_step_at, lk, pw]
theorem step_nan (C : CoreV I tb) (hc : tb I.step_at = D_step_at I) (k : F.Ok) : evFn sub tb (d + 6) I.step_at [F.d, Vl.nan.d] = PV.raise ⟨I.xBadFormat, []⟩ := by
  have lk := lav_ok (sub := sub) (d := d) (v := .nan) C k trivial
  rw [fn_src hc rfl]
  unfold Vl.d at lk ⊢
  simp [evSs_nil, evSs_cons, thenS_nx, thenS_rt, thenS_er, thenS_bk, thenS_ct, bindE_ret, bindE_raise, runFl_rt, runFl_nx, runFl_er, runFl_ret, liftS_some, toB_bl', getV_0, getV_s, getB_0, getB_o, getB_s, ret_bind, raise_bind, lift_some, bind_assoc, evS, evE, evL, PV.start, setT, setAll, binD, augD, addD, subD, mulD, fdivD, modD, powD, negD, idxD, L2.atI, L2.ixN, cmpD, ltD, eqD, isD, isNon, isIn, bltD, maxD, minD, mapL_nil, mapL_cons, forM_nil, consO, items, T_step_at, lk]
theorem steps_ok (C : CoreR I tb) (hc : tb I.steps_between = D_steps_between I) (k : F.Ok) (hv : F.val v) (hw : F.val w) (nv : v ≠ .nan) (nw : w ≠ .nan) :
    evFn sub tb (d + 7) I.steps_between [F.d, v.d, w.d] = PV.ret (.int (F.rank w - F.rank v)) := by
  have r1 := rank_ok (sub := sub) (d := d) C k hv nv
  have r2 := rank_ok (sub := sub) (d := d) C k hw nw
  rw [fn_src hc rfl]
  generalize F.rank v = a at r1 ⊢
  generalize F.rank w = b at r2 ⊢
  generalize v.d = x at r1 ⊢
  generalize w.d = y at r2 ⊢
  simp [evSs_nil, evSs_cons, thenS_nx, thenS_rt, thenS_er, thenS_bk, thenS_ct, bindE_ret, bindE_raise, runFl_rt, runFl_nx, runFl_er, runFl_ret, liftS_some, toB_bl', getV_0, getV_s, getB_0, getB_o, getB_s, ret_bind, raise_bind, lift_some, bind_assoc, evS, evE, evL, PV.start, setT, setAll, binD, augD, addD, subD, mulD, fdivD, modD, powD, negD, idxD, L2.atI, L2.ixN, cmpD, ltD, eqD, isD, isNon, isIn, bltD, maxD, minD, mapL_nil, mapL_cons, forM_nil, consO, items, T_steps_between, r1, r2]
theorem to_code_ok (C : CoreR I tb) (hc : tb I.to_code = D_to_code I) (k : F.Ok) (hv : F.val v) : evFn sub tb (d + 7) I.to_code [F.d, v.d] = PV.ret (.int (F.code v)) := by
  have lk := lav_ok (sub := sub) (d := d + 1) C.toCoreV k hv
  have hm := how_many_ok (sub := sub) (d := d + 2) C.toCore C.how_many k
  have mm : mulOk 2 F.many = true := (show Bd 2 2 by unfold Bd; decide).mulOk (bd_many k) (by omega)
  have hr : ((F.rank v).natAbs : Int) ≤ F.many + 1 := rank_le (fp k) hv
  have mr : mulOk 2 ((F.rank v).natAbs : Int) = true := (show Bd 2 2 by unfold Bd; decide).mulOk (((bd_many k).add (Bd.one.mono (by omega))).lt (by omega) hr) (by omega)
  rw [fn_src hc rfl]
  by_cases nv : v = .nan
  · subst nv
    unfold Vl.d at lk ⊢
    simp [evSs_nil, evSs_cons, thenS_nx, thenS_rt, thenS_er, thenS_bk, thenS_ct, bindE_ret, bindE_raise, runFl_rt, runFl_nx, runFl_er, runFl_ret, liftS_some, toB_bl', getV_0, getV_s, getB_0, getB_o, getB_s, ret_bind, raise_bind, lift_some, bind_assoc, evS, evE, evL, PV.start, setT, setAll, binD, augD, addD, subD, mulD, fdivD, modD, powD, negD, idxD, L2.atI, L2.ixN, cmpD, ltD, eqD, isD, isNon, isIn, bltD, maxD, minD, mapL_nil, mapL_cons, forM_nil, consO, items, T_to_code, lk, hm, mm, Fm.code]
  · have r1 := rank_ok (sub := sub) (d := d) C k hv nv
    have ab : (if F.rank v < 0 then -(F.rank v) else F.rank v) = ((F.rank v).natAbs : Int) := abs_ite _
    cases v with
    | nan => exact absurd rfl nv
    | num s m e =>
      show _ = PV.ret (D.int (2 * ((F.rank (.num s m e)).natAbs : Int) + (if s = -1 then 1 else 0)))
      generalize F.rank (.num s m e) = a at r1 mr ab ⊢
      unfold Vl.d at lk r1 ⊢
      by_cases hs : s = -1
      · simp [evSs_nil, evSs_cons, thenS_nx, thenS_rt, thenS_er, thenS_bk, thenS_ct, bindE_ret, bindE_raise, runFl_rt, runFl_nx, runFl_er, runFl_ret, liftS_some, toB_bl', getV_0, getV_s, getB_0, getB_o, getB_s, ret_bind, raise_bind, lift_some, bind_assoc, evS, evE, evL, PV.start, setT, setAll, binD, augD, addD, subD, mulD, fdivD, modD, powD, negD, idxD, L2.atI, L2.ixN, cmpD, ltD, eqD, isD, isNon, isIn, bltD, maxD, minD, mapL_nil, mapL_cons, forM_nil, consO, items, T_to_code, lk, r1, ab, mr, hs]
        simp [hs] at lk r1
        simp [evSs_nil, evSs_cons, thenS_nx, thenS_rt, thenS_er, thenS_bk, thenS_ct, bindE_ret, bindE_raise, runFl_rt, runFl_nx, runFl_er, runFl_ret, liftS_some, toB_bl', getV_0, getV_s, getB_0, getB_o, getB_s, ret_bind, raise_bind, lift_some, bind_assoc, evS, evE, evL, PV.start, setT, setAll, binD, augD, addD, subD, mulD, fdivD, modD, powD, negD, idxD, L2.atI, L2.ixN, cmpD, ltD, eqD, isD, isNon, isIn, bltD, maxD, minD, mapL_nil, mapL_cons, forM_nil, consO, items, lk, r1, ab, mr]
      · simp [evSs_nil, evSs_cons, thenS_nx, thenS_rt, thenS_er, thenS_bk, thenS_ct, bindE_ret, bindE_raise, runFl_rt, runFl_nx, runFl_er, runFl_ret, liftS_some, toB_bl', getV_0, getV_s, getB_0, getB_o, getB_s, ret_bind, raise_bind, lift_some, bind_assoc, evS, evE, evL, PV.start, setT, setAll, binD, augD, addD, subD, mulD, fdivD, modD, powD, negD, idxD, L2.atI, L2.ixN, cmpD, ltD, eqD, isD, isNon, isIn, bltD, maxD, minD, mapL_nil, mapL_cons, forM_nil, consO, items, T_to_code, lk, r1, ab, mr, hs]
    | zero s =>
      show _ = PV.ret (D.int (2 * ((F.rank (.zero s)).natAbs : Int) + (if s = -1 then 1 else 0)))
      generalize F.rank (.zero s) = a at r1 mr ab ⊢
      unfold Vl.d at lk r1 ⊢
      by_cases hs : s = -1
      · simp [evSs_nil, evSs_cons, thenS_nx, thenS_rt, thenS_er, thenS_bk, thenS_ct, bindE_ret, bindE_raise, runFl_rt, runFl_nx, runFl_er, runFl_ret, liftS_some, toB_bl', getV_0, getV_s, getB_0, getB_o, getB_s, ret_bind, raise_bind, lift_some, bind_assoc, evS, evE, evL, PV.start, setT, setAll, binD, augD, addD, subD, mulD, fdivD, modD, powD, negD, idxD, L2.atI, L2.ixN, cmpD, ltD, eqD, isD, isNon, isIn, bltD, maxD, minD, mapL_nil, mapL_cons, forM_nil, consO, items, T_to_code, lk, r1, ab, mr, hs]
        simp [hs] at lk r1
        simp [evSs_nil, evSs_cons, thenS_nx, thenS_rt, thenS_er, thenS_bk, thenS_ct, bindE_ret, bindE_raise, runFl_rt, runFl_nx, runFl_er, runFl_ret, liftS_some, toB_bl', getV_0, getV_s, getB_0, getB_o, getB_s, ret_bind, raise_bind, lift_some, bind_assoc, evS, evE, evL, PV.start, setT, setAll, binD, augD, addD, subD, mulD, fdivD, modD, powD, negD, idxD, L2.atI, L2.ixN, cmpD, ltD, eqD, isD, isNon, isIn, bltD, maxD, minD, mapL_nil, mapL_cons, forM_nil, consO, items, lk, r1, ab, mr]
      · simp [evSs_nil, evSs_cons, thenS_nx, thenS_rt, thenS_er, thenS_bk, thenS_ct, bindE_ret, bindE_raise, runFl_rt, runFl_nx, runFl_er, runFl_ret, liftS_some, toB_bl', getV_0, getV_s, getB_0, getB_o, getB_s, ret_bind, raise_bind, lift_some, bind_assoc, evS, evE, evL, PV.start, setT, setAll, binD, augD, addD, subD, mulD, fdivD, modD, powD, negD, idxD, L2.atI, L2.ixN, cmpD, ltD, eqD, isD, isNon, isIn, bltD, maxD, minD, mapL_nil, mapL_cons, forM_nil, consO, items, T_to_code, lk, r1, ab, mr, hs]
    | inf s =>
      show _ = PV.ret (D.int (2 * ((F.rank (.inf s)).natAbs : Int) + (if s = -1 then 1 else 0)))
      generalize F.rank (.inf s) = a at r1 mr ab ⊢
      unfold Vl.d at lk r1 ⊢
      by_cases hs : s = -1
      · simp [evSs_nil, evSs_cons, thenS_nx, thenS_rt, thenS_er, thenS_bk, thenS_ct, bindE_ret, bindE_raise, runFl_rt, runFl_nx, runFl_er, runFl_ret, liftS_some, toB_bl', getV_0, getV_s, getB_0, getB_o, getB_s, ret_bind, raise_bind, lift_some, bind_assoc, evS, evE, evL, PV.start, setT, setAll, binD, augD, addD, subD, mulD, fdivD, modD, powD, negD, idxD, L2.atI, L2.ixN, cmpD, ltD, eqD, isD, isNon, isIn, bltD, maxD, minD, mapL_nil, mapL_cons, forM_nil, consO, items, T_to_code, lk, r1, ab, mr, hs]
        simp [hs] at lk r1
        simp [evSs_nil, evSs_cons, thenS_nx, thenS_rt, thenS_er, thenS_bk, thenS_ct, bindE_ret, bindE_raise, runFl_rt, runFl_nx, runFl_er, runFl_ret, liftS_some, toB_bl', getV_0, getV_s, getB_0, getB_o, getB_s, ret_bind, raise_bind, lift_some, bind_assoc, evS, evE, evL, PV.start, setT, setAll, binD, augD, addD, subD, mulD, fdivD, modD, powD, negD, idxD, L2.atI, L2.ixN, cmpD, ltD, eqD, isD, isNon, isIn, bltD, maxD, minD, mapL_nil, mapL_cons, forM_nil, consO, items, lk, r1, ab, mr]
      · simp [evSs_nil, evSs_cons, thenS_nx, thenS_rt, thenS_er, thenS_bk, thenS_ct, bindE_ret, bindE_raise, runFl_rt, runFl_nx, runFl_er, runFl_ret, liftS_some, toB_bl', getV_0, getV_s, getB_0, getB_o, getB_s, ret_bind, raise_bind, lift_some, bind_assoc, evS, evE, evL, PV.start, setT, setAll, binD, augD, addD, subD, mulD, fdivD, modD, powD, negD, idxD, L2.atI, L2.ixN, cmpD, ltD, eqD, isD, isNon, isIn, bltD, maxD, minD, mapL_nil, mapL_cons, forM_nil, consO, items, T_to_code, lk, r1, ab, mr, hs]
theorem from_code_ok (C : CoreR I tb) (hc : tb I.from_code = D_from_code I) (k : F.Ok) {c : Int} (c0 : 0 ≤ c) (c1 : c ≤ 2 * F.many + 4) : evFn sub tb (d + 6) I.from_code [F.d, .int c] = PV.ret (F.ofCode c).d := by
  have lk := laf_ok (sub := sub) (d := d + 2) C.toCore k
  have hm := how_many_ok (sub := sub) (d := d + 1) C.toCore C.how_many k
  have iw := iw_int (sub := sub) (d := d + 4) C.toCore c
  have mm : mulOk 2 F.many = true := (show Bd 2 2 by unfold Bd; decide).mulOk (bd_many k) (by omega)
  have d2 := divOk_2
  have m2 : c.fmod 2 = c % 2 := Int.fmod_eq_emod_of_nonneg c (by omega)
  have q2 : c.fdiv 2 = c / 2 := Int.fdiv_eq_ediv_of_nonneg c (by omega)
  have mp := many_pos k
  rw [fn_src hc rfl]
  unfold Fm.ofCode
  by_cases z : c = 2 * F.many + 4
  · rw [if_pos z]
    subst z
    simp [evSs_nil, evSs_cons, thenS_nx, thenS_rt, thenS_er, thenS_bk, thenS_ct, bindE_ret, bindE_raise, runFl_rt, runFl_nx, runFl_er, runFl_ret, liftS_some, toB_bl', getV_0, getV_s, getB_0, getB_o, getB_s, ret_bind, raise_bind, lift_some, bind_assoc, evS, evE, evL, PV.start, setT, setAll, binD, augD, addD, subD, mulD, fdivD, modD, powD, negD, idxD, L2.atI, L2.ixN, cmpD, ltD, eqD, isD, isNon, isIn, bltD, maxD, minD, mapL_nil, mapL_cons, forM_nil, consO, items, T_from_code, lk, hm, iw, mm, c0, sizeLine_eq, Vl.d]
  · rw [if_neg z]
    have a1 := at_rank_ok (sub := sub) (d := d) (p := c / 2) C k (by omega)
    have t1 := turned_ok (sub := sub) (d := d + 4) (v := F.at (c / 2)) C.turned
    by_cases y : c % 2 = 1
    · rw [if_pos y]
      generalize (F.at (c / 2)).neg.d = nd at t1 ⊢
      generalize (F.at (c / 2)).d = xd at a1 t1 ⊢
      simp [evSs_nil, evSs_cons, thenS_nx, thenS_rt, thenS_er, thenS_bk, thenS_ct, bindE_ret, bindE_raise, runFl_rt, runFl_nx, runFl_er, runFl_ret, liftS_some, toB_bl', getV_0, getV_s, getB_0, getB_o, getB_s, ret_bind, raise_bind, lift_some, bind_assoc, evS, evE, evL, PV.start, setT, setAll, binD, augD, addD, subD, mulD, fdivD, modD, powD, negD, idxD, L2.atI, L2.ixN, cmpD, ltD, eqD, isD, isNon, isIn, bltD, maxD, minD, mapL_nil, mapL_cons, forM_nil, consO, items, T_from_code, lk, hm, iw, mm, c0, c1, z, d2, m2, q2, a1, t1, y]
    · rw [if_neg y]
      generalize (F.at (c / 2)).d = xd at a1 t1 ⊢
      simp [evSs_nil, evSs_cons, thenS_nx, thenS_rt, thenS_er, thenS_bk, thenS_ct, bindE_ret, bindE_raise, runFl_rt, runFl_nx, runFl_er, runFl_ret, liftS_some, toB_bl', getV_0, getV_s, getB_0, getB_o, getB_s, ret_bind, raise_bind, lift_some, bind_assoc, evS, evE, evL, PV.start, setT, setAll, binD, augD, addD, subD, mulD, fdivD, modD, powD, negD, idxD, L2.atI, L2.ixN, cmpD, ltD, eqD, isD, isNon, isIn, bltD, maxD, minD, mapL_nil, mapL_cons, forM_nil, consO, items, T_from_code, lk, hm, iw, mm, c0, c1, z, d2, m2, q2, a1, y]
end
end PV

set_option Elab.async false
set_option linter.all false
set_option maxRecDepth 100000
set_option maxHeartbeats 1000000
/-! PW7: the value of a fraction. -/
namespace PV
open PySem
theorem cmp_ne_of {x y : D} {b : Bool} (h : eqD x y = some b) : cmpD .ne x y = some (!b) := by
  show (eqD x y).map (!·) = _
  rw [h]
  rfl
theorem cmp_eq_of {x y : D} {b : Bool} (h : eqD x y = some b) : cmpD .eq x y = some b := h
theorem lw_bd {x u : Int} {n : Nat} (hu : 0 < u) (h : Bd x n) : Bd (lwA x u) n := by
  have g := gcd_pos (x := x) hu
  have e := (lw_mul (x := x) hu).1
  unfold Bd at h ⊢
  have : (lwA x u).natAbs * 1 ≤ (lwA x u).natAbs * (Int.gcd x u) := Nat.mul_le_mul_left _ (by omega)
  have e2 : (lwA x u).natAbs * (Int.gcd x u) = x.natAbs := by
    conv => rhs; rw [← e]
    rw [Int.natAbs_mul, Int.natAbs_natCast]
  omega
theorem lw_bdB {x u : Int} {n : Nat} (hu : 0 < u) (h : Bd u n) : Bd (lwB x u) n := by
  have g := gcd_pos (x := x) hu
  have e := (lw_mul (x := x) hu).2.1
  unfold Bd at h ⊢
  have : (lwB x u).natAbs * 1 ≤ (lwB x u).natAbs * (Int.gcd x u) := Nat.mul_le_mul_left _ (by omega)
  have e2 : (lwB x u).natAbs * (Int.gcd x u) = u.natAbs := by
    conv => rhs; rw [← e]
    rw [Int.natAbs_mul, Int.natAbs_natCast]
  omega
section
variable {sub : Sub} {tb : Nat → Option Df} {I : Ix} {d : Nat} {F : Fm} {v w : Vl}
theorem order_ok (h : tb I.order = D_order I) {a b c e : Int} (h1 : mulOk a e = true) (h2 : mulOk c b = true) :
    evFn sub tb (d + 1) I.order [.tup [.int a, .int b], .tup [.int c, .int e]] = PV.ret (.int (if c * b < a * e then 1 else if a * e < c * b then -1 else 0)) := by
  rw [fn_src h rfl]
  simp [evSs_nil, evSs_cons, thenS_nx, thenS_rt, thenS_er, thenS_bk, thenS_ct, bindE_ret, bindE_raise, runFl_rt, runFl_nx, runFl_er, runFl_ret, liftS_some, toB_bl', getV_0, getV_s, getB_0, getB_o, getB_s, ret_bind, raise_bind, lift_some, bind_assoc, evS, evE, evL, PV.start, setT, setAll, binD, augD, addD, subD, mulD, fdivD, modD, powD, negD, idxD, L2.atI, L2.ixN, cmpD, ltD, eqD, isD, isNon, isIn, bltD, maxD, minD, mapL_nil, mapL_cons, forM_nil, consO, items, T_order, h1, h2, size_2]
  split <;> split <;> simp <;> omega
/-- the number at a place from 1 on, exactly -/
def Fm.xZ (F : Fm) (p : Int) : Int := X F.b F.l (upM F.b F.f F.few p) (upE F.b F.f F.few F.l p)
def Fm.xA (F : Fm) (p : Int) : Int := upM F.b F.f F.few p * F.b ^ (upE F.b F.f F.few F.l p).toNat
def Fm.xB (F : Fm) (p : Int) : Int := F.b ^ (-(upE F.b F.f F.few F.l p)).toNat
theorem at_pos {p : Int} (p1 : 1 ≤ p) (p2 : p ≤ F.many) : F.at p = .num 1 (upM F.b F.f F.few p) (upE F.b F.f F.few F.l p) := by
  show atR F.b F.f F.few F.l F.h p = _
  have na : (p.natAbs : Int) = p := by omega
  unfold atR
  rw [if_neg (by omega), if_neg (show ¬ (p.natAbs : Int) = mny F.b F.f F.few F.l F.h + 1 from fun z => by
    have z : (p.natAbs : Int) = F.many + 1 := z
    omega), na, if_pos (by omega)]
theorem at_val (k : F.Ok) {p : Int} (hp : (p.natAbs : Int) ≤ F.many + 1) : F.val (F.at p) ∧ F.rank (F.at p) = p := atR_ok (fp k) hp
theorem xsz (k : F.Ok) {p : Int} (p1 : 1 ≤ p) (p2 : p ≤ F.many) : Sz (Kb F.b F.l) (Lb F.b F.l) (F.xA p) (F.xB p) (F.xZ p) := by
  have n := (rk_up (fp k) p1 p2).2
  have z := num_sz (b := F.b) (l := F.l) (m := upM F.b F.f F.few p) (e := upE F.b F.f F.few F.l p) (bd_b k).2 n.e1 1
  rw [Int.one_mul, Int.one_mul] at z
  exact z
theorem X_lt (k : F.Ok) {p q : Int} (p1 : 1 ≤ p) (p2 : p ≤ F.many) (q1 : 1 ≤ q) (q2 : q ≤ F.many) : F.xZ p < F.xZ q ↔ p < q := by
  have a := rk_up (fp k) p1 p2
  have b := rk_up (fp k) q1 q2
  have i := X_iff (fp k) a.2 b.2
  rw [a.1, b.1] at i
  exact i
theorem exact_at (C : CoreR I tb) (k : F.Ok) {p : Int} (p1 : 1 ≤ p) (p2 : p ≤ F.many) : evFn sub tb (d + 6) I.exact [F.d, (F.at p).d] = PV.ret (LW (F.xA p) (F.xB p)) := by
  have v := (at_val k (p := p) (by omega)).1
  rw [at_pos p1 p2] at v ⊢
  have := exact_num (sub := sub) (d := d) C.toCoreV k v
  rw [Int.one_mul] at this
  exact this
theorem xbd (k : F.Ok) {p : Int} (p1 : 1 ≤ p) (p2 : p ≤ F.many) : Bd (F.xA p) 5611 ∧ Bd (F.xB p) 5001 ∧ 0 < F.xB p := by
  have v := (at_val k (p := p) (by omega)).1
  rw [at_pos p1 p2] at v
  have e := bd_e k (e_le k v)
  exact ⟨((bd_m k v).mul e.1).mono (by omega), e.2, Int.pow_pos (bd_b k).2⟩
/-- the search -/
abbrev nofBody (I : Ix) : List S := [(.asg 5 (.bin .fdiv (.bin .add (.bin .add (.var 3) (.var 4)) (.c (.int 1))) (.c (.int 2)))), (.ifs (.cmp .le (.call I.order [(.call I.exact [(.var 0), (.call I.at_rank [(.var 0), (.var 5)] [])] []), (.tup [(.blt .abs (.idx (.var 1) (.c (.int 0)))), (.idx (.var 1) (.c (.int 1)))])] []) (.c (.int 0))) [(.asg 3 (.var 5))] [(.asg 4 (.bin .sub (.var 5) (.c (.int 1))))])]
theorem nof_loop (C : CoreR I tb) (ho : tb I.order = D_order I) (k : F.Ok) {r x : Int} {s0 : Slot} (r1 : 1 ≤ r) (r2 : r ≤ F.many) (hx : (if x < 0 then -x else x) = lwA (F.xA r) (F.xB r)) :
    ∀ (n : Nat) (lo hi : Int) (z : Slot), (hi - lo).toNat ≤ n → 0 ≤ lo → lo ≤ r → r ≤ hi → hi ≤ F.many →
    ∃ z', whileM (fun ρ => bind (evE (evFn sub tb (d + 6)) (.cmp .lt (.var 3) (.var 4)) ρ) toB) (fun ρ => evSs sub (evFn sub tb (d + 6)) (nofBody I) ρ) [.v F.d, .v (.tup [.int x, .int (lwB (F.xA r) (F.xB r))]), s0, .v (.int lo), .v (.int hi), z] =
      retS (.nx [.v F.d, .v (.tup [.int x, .int (lwB (F.xA r) (F.xB r))]), s0, .v (.int r), .v (.int r), z']) := by
  intro n
  induction n with
  | zero =>
    intro lo hi z hn l0 l1 h1 h2
    have e1 : lo = r := by omega
    have e2 : hi = r := by omega
    subst e1 e2
    exact ⟨z, whl_end (by simp [evSs_nil, evSs_cons, thenS_nx, thenS_rt, thenS_er, thenS_bk, thenS_ct, bindE_ret, bindE_raise, runFl_rt, runFl_nx, runFl_er, runFl_ret, liftS_some, toB_bl', getV_0, getV_s, getB_0, getB_o, getB_s, ret_bind, raise_bind, lift_some, bind_assoc, evS, evE, evL, PV.start, setT, setAll, binD, augD, addD, subD, mulD, fdivD, modD, powD, negD, idxD, L2.atI, L2.ixN, cmpD, ltD, eqD, isD, isNon, isIn, bltD, maxD, minD, mapL_nil, mapL_cons, forM_nil, consO, items])⟩
  | succ n ih =>
    intro lo hi z hn l0 l1 h1 h2
    by_cases c : lo < hi
    · generalize hm : (lo + hi + 1).fdiv 2 = mid
      have hm2 : mid = (lo + hi + 1) / 2 := by rw [← hm]; exact Int.fdiv_eq_ediv_of_nonneg _ (by omega)
      have m1 : 1 ≤ mid := by omega
      have m2 : mid ≤ F.many := by omega
      have at_ := at_rank_ok (sub := sub) (d := d + 1) (p := mid) C k (by omega)
      have ex := exact_at (sub := sub) (d := d) C k m1 m2
      obtain ⟨b1, b2, b3⟩ := xbd k m1 m2
      obtain ⟨c1, c2, c3⟩ := xbd k r1 r2
      have k1 : mulOk (lwA (F.xA mid) (F.xB mid)) (lwB (F.xA r) (F.xB r)) = true := (lw_bd b3 b1).mulOk (lw_bdB c3 c2) (by omega)
      have k2 : mulOk (lwA (F.xA r) (F.xB r)) (lwB (F.xA mid) (F.xB mid)) = true := (lw_bd c3 c1).mulOk (lw_bdB b3 b2) (by omega)
      have od := order_ok (sub := sub) (d := d + 5) ho k1 k2
      have sz1 := (xsz k m1 m2).low
      have sz2 := (xsz k r1 r2).low
      have hK : 0 < Kb F.b F.l := Int.pow_pos (bd_b k).2
      have hL : 0 < Lb F.b F.l := Int.pow_pos (bd_b k).2
      have lt1 : lwA (F.xA r) (F.xB r) * lwB (F.xA mid) (F.xB mid) < lwA (F.xA mid) (F.xB mid) * lwB (F.xA r) (F.xB r) ↔ r < mid := (Sz.lt hK hL sz2 sz1).trans (X_lt k r1 r2 m1 m2)
      have od : evFn sub tb (d + 6) I.order [LW (F.xA mid) (F.xB mid), LW (F.xA r) (F.xB r)] = _ := od
      have d2 := divOk_2
      have go : ∀ lo' hi', (if mid ≤ r then lo' = mid ∧ hi' = hi else lo' = lo ∧ hi' = mid - 1) → evSs sub (evFn sub tb (d + 6)) (nofBody I) [.v F.d, .v (.tup [.int x, .int (lwB (F.xA r) (F.xB r))]), s0, .v (.int lo), .v (.int hi), z] = retS (.nx [.v F.d, .v (.tup [.int x, .int (lwB (F.xA r) (F.xB r))]), s0, .v (.int lo'), .v (.int hi'), .v (.int mid)]) := by
        intro lo' hi' hh
        generalize hmd : (F.at mid).d = md at at_ ex
        by_cases q : mid ≤ r
        · rw [if_pos q] at hh
          obtain ⟨rfl, rfl⟩ := hh
          rw [if_neg (fun y => by have := lt1.mp y; omega)] at od
          generalize ho2 : (if lwA (F.xA lo') (F.xB lo') * lwB (F.xA r) (F.xB r) < lwA (F.xA r) (F.xB r) * lwB (F.xA lo') (F.xB lo') then (-1 : Int) else 0) = ov at od
          have ov0 : ov ≤ 0 := by rw [← ho2]; split <;> omega
          simp [evSs_nil, evSs_cons, thenS_nx, thenS_rt, thenS_er, thenS_bk, thenS_ct, bindE_ret, bindE_raise, runFl_rt, runFl_nx, runFl_er, runFl_ret, liftS_some, toB_bl', getV_0, getV_s, getB_0, getB_o, getB_s, ret_bind, raise_bind, lift_some, bind_assoc, evS, evE, evL, PV.start, setT, setAll, binD, augD, addD, subD, mulD, fdivD, modD, powD, negD, idxD, L2.atI, L2.ixN, cmpD, ltD, eqD, isD, isNon, isIn, bltD, maxD, minD, mapL_nil, mapL_cons, forM_nil, consO, items, hm, d2, at_, ex, hx, od, ov0, size_2]
        · rw [if_neg q] at hh
          obtain ⟨rfl, rfl⟩ := hh
          rw [if_pos (lt1.mpr (by omega))] at od
          simp [evSs_nil, evSs_cons, thenS_nx, thenS_rt, thenS_er, thenS_bk, thenS_ct, bindE_ret, bindE_raise, runFl_rt, runFl_nx, runFl_er, runFl_ret, liftS_some, toB_bl', getV_0, getV_s, getB_0, getB_o, getB_s, ret_bind, raise_bind, lift_some, bind_assoc, evS, evE, evL, PV.start, setT, setAll, binD, augD, addD, subD, mulD, fdivD, modD, powD, negD, idxD, L2.atI, L2.ixN, cmpD, ltD, eqD, isD, isNon, isIn, bltD, maxD, minD, mapL_nil, mapL_cons, forM_nil, consO, items, hm, d2, at_, ex, hx, od, size_2]
      have cc : (lo < hi) = True := eq_true c
      by_cases q : mid ≤ r
      · obtain ⟨z', hz⟩ := ih mid hi (.v (.int mid)) (by omega) (by omega) q h1 h2
        refine ⟨z', ?_⟩
        rw [whl_go (by simp [evSs_nil, evSs_cons, thenS_nx, thenS_rt, thenS_er, thenS_bk, thenS_ct, bindE_ret, bindE_raise, runFl_rt, runFl_nx, runFl_er, runFl_ret, liftS_some, toB_bl', getV_0, getV_s, getB_0, getB_o, getB_s, ret_bind, raise_bind, lift_some, bind_assoc, evS, evE, evL, PV.start, setT, setAll, binD, augD, addD, subD, mulD, fdivD, modD, powD, negD, idxD, L2.atI, L2.ixN, cmpD, ltD, eqD, isD, isNon, isIn, bltD, maxD, minD, mapL_nil, mapL_cons, forM_nil, consO, items, c]) (go mid hi (by rw [if_pos q]; exact ⟨rfl, rfl⟩)), hz]
      · obtain ⟨z', hz⟩ := ih lo (mid - 1) (.v (.int mid)) (by omega) l0 l1 (by omega) (by omega)
        refine ⟨z', ?_⟩
        rw [whl_go (by simp [evSs_nil, evSs_cons, thenS_nx, thenS_rt, thenS_er, thenS_bk, thenS_ct, bindE_ret, bindE_raise, runFl_rt, runFl_nx, runFl_er, runFl_ret, liftS_some, toB_bl', getV_0, getV_s, getB_0, getB_o, getB_s, ret_bind, raise_bind, lift_some, bind_assoc, evS, evE, evL, PV.start, setT, setAll, binD, augD, addD, subD, mulD, fdivD, modD, powD, negD, idxD, L2.atI, L2.ixN, cmpD, ltD, eqD, isD, isNon, isIn, bltD, maxD, minD, mapL_nil, mapL_cons, forM_nil, consO, items, c]) (go lo (mid - 1) (by rw [if_neg q]; exact ⟨rfl, rfl⟩)), hz]
    · have e1 : lo = r := by omega
      have e2 : hi = r := by omega
      subst e1 e2
      exact ⟨z, whl_end (by simp [evSs_nil, evSs_cons, thenS_nx, thenS_rt, thenS_er, thenS_bk, thenS_ct, bindE_ret, bindE_raise, runFl_rt, runFl_nx, runFl_er, runFl_ret, liftS_some, toB_bl', getV_0, getV_s, getB_0, getB_o, getB_s, ret_bind, raise_bind, lift_some, bind_assoc, evS, evE, evL, PV.start, setT, setAll, binD, augD, addD, subD, mulD, fdivD, modD, powD, negD, idxD, L2.atI, L2.ixN, cmpD, ltD, eqD, isD, isNon, isIn, bltD, maxD, minD, mapL_nil, mapL_cons, forM_nil, consO, items])⟩
theorem pair_eq (a b c e : Int) : eqD (.tup [.int a, .int b]) (.tup [.int c, .int e]) = some (decide (a = c ∧ b = e)) := by
  have s1 : ∀ a b : Int, SeqAt.shaped (.tuple [.int a, .int b]) = true := fun a b => by simp [SeqAt.shaped, PyData.canLay0, PyData.canLayAll0, PyData.depth, PyData.depthAll]
  show (if SeqAt.shaped (.tuple [.int a, .int b]) && SeqAt.shaped (.tuple [.int c, .int e]) then some (PyData.eqv (.tuple [.int a, .int b]) (.tuple [.int c, .int e])) else none) = _
  rw [s1, s1]
  simp [PyData.eqv, PyData.eqvAll]
  rfl
theorem number_of_ok (C : CoreR I tb) (ho : tb I.order = D_order I) (hn : tb I.number_of = D_number_of I) (k : F.Ok) {s m e : Int} (hv : F.val (.num s m e)) :
    evFn sub tb (d + 7) I.number_of [F.d, LW (s * m * F.b ^ e.toNat) (F.b ^ (-e).toNat)] = PV.ret (Vl.num s m e).d := by
  have lk := laf_ok (sub := sub) (d := d + 3) C.toCore k
  have hm := how_many_ok (sub := sub) (d := d + 2) C.toCore C.how_many k
  have r1 : 1 ≤ rk F.b F.f F.few F.l m e := rk_lo (fp k) hv.2
  have r2 : rk F.b F.f F.few F.l m e ≤ F.many := rk_hi (fp k) hv.2
  obtain ⟨u1, u2⟩ := up_rk (fp k) hv.2
  have aR : F.at (s * rk F.b F.f F.few F.l m e) = .num s m e := atR_rank (fp k) hv
  have xA : F.xA (rk F.b F.f F.few F.l m e) = m * F.b ^ e.toNat := by unfold Fm.xA; rw [u1, u2]
  have xB : F.xB (rk F.b F.f F.few F.l m e) = F.b ^ (-e).toNat := by unfold Fm.xB; rw [u2]
  have hs := hv.1
  have b0 := (bd_b k).2
  have pA : 0 < m * F.b ^ e.toNat := Int.mul_pos (by have := hv.2.m1; omega) (Int.pow_pos b0)
  generalize rk F.b F.f F.few F.l m e = r at *
  have pB : 0 < F.xB r := by rw [xB]; exact Int.pow_pos b0
  have lp : 0 < lwA (F.xA r) (F.xB r) := by
    have z := (lw_mul (x := F.xA r) pB).1
    rw [xA] at z ⊢
    rw [← z] at pA
    exact Int.pos_of_mul_pos_left pA (gcd_pos pB)
  have hL : LW (s * m * F.b ^ e.toNat) (F.b ^ (-e).toNat) = .tup [.int (s * lwA (F.xA r) (F.xB r)), .int (lwB (F.xA r) (F.xB r))] := by
    rw [Int.mul_assoc, ← xA, ← xB]
    rcases hs with rfl | rfl
    · rw [Int.one_mul, Int.one_mul]
    · have z := lw_neg (F.xA r) (F.xB r)
      rw [show -1 * F.xA r = -F.xA r by omega, show LW (-F.xA r) (F.xB r) = .tup [.int (lwA (-F.xA r) (F.xB r)), .int (lwB (-F.xA r) (F.xB r))] from rfl, z.1, z.2]
      congr 3
      omega
  rw [hL]
  have hx : (if s * lwA (F.xA r) (F.xB r) < 0 then -(s * lwA (F.xA r) (F.xB r)) else s * lwA (F.xA r) (F.xB r)) = lwA (F.xA r) (F.xB r) := by
    rcases hs with rfl | rfl
    · rw [if_neg (by omega)]; omega
    · rw [if_pos (by omega)]; omega
  have x0 : s * lwA (F.xA r) (F.xB r) ≠ 0 := by rcases hs with rfl | rfl <;> omega
  have sg : (if 0 < s * lwA (F.xA r) (F.xB r) then (1 : Int) else -1) = s := by
    rcases hs with rfl | rfl
    · rw [if_pos (by omega)]
    · rw [if_neg (by omega)]
  generalize hxx : s * lwA (F.xA r) (F.xB r) = x at hx x0 sg ⊢
  obtain ⟨z', hz⟩ := nof_loop (sub := sub) (d := d) (s0 := .v (.int s)) (x := x) C ho k r1 r2 hx F.many.toNat 0 F.many .u (by omega) (by omega) (by omega) r2 (Int.le_refl _)
  have at1 := at_rank_ok (sub := sub) (d := d + 1) (p := r) C k (by omega)
  have at2 := at_rank_ok (sub := sub) (d := d + 1) (p := s * r) C k (by rcases hs with rfl | rfl <;> omega)
  rw [aR] at at2
  have ex := exact_at (sub := sub) (d := d) C k r1 r2
  have ms : mulOk s r = true := (Bd.sg hs).mulOk ((bd_many k).lt (by omega) r2) (by omega)
  have pe := pair_eq (lwA (F.xA r) (F.xB r)) (lwB (F.xA r) (F.xB r)) (lwA (F.xA r) (F.xB r)) (lwB (F.xA r) (F.xB r))
  rw [decide_eq_true (by simp)] at pe
  have r0 : r ≠ 0 := by omega
  rw [fn_src hn rfl]
  generalize (F.at r).d = ad at at1 ex
  generalize (Vl.num s m e).d = nd at at2 ⊢
  show runFl (evSs sub (evFn sub tb (d + 6)) (T_number_of I) [.v F.d, .v (.tup [.int x, .int (lwB (F.xA r) (F.xB r))]), .u, .u, .u, .u]) = _
  unfold T_number_of
  have z1 : evS sub (evFn sub tb (d + 6)) (.exp (.call I.look_at_format [(.var 0)] [])) [.v F.d, .v (.tup [.int x, .int (lwB (F.xA r) (F.xB r))]), .u, .u, .u, .u] = retS (.nx [.v F.d, .v (.tup [.int x, .int (lwB (F.xA r) (F.xB r))]), .u, .u, .u, .u]) := by simp [evSs_nil, evSs_cons, thenS_nx, thenS_rt, thenS_er, thenS_bk, thenS_ct, bindE_ret, bindE_raise, runFl_rt, runFl_nx, runFl_er, runFl_ret, liftS_some, toB_bl', getV_0, getV_s, getB_0, getB_o, getB_s, ret_bind, raise_bind, lift_some, bind_assoc, evS, evE, evL, PV.start, setT, setAll, binD, augD, addD, subD, mulD, fdivD, modD, powD, negD, idxD, L2.atI, L2.ixN, cmpD, ltD, eqD, isD, isNon, isIn, bltD, maxD, minD, mapL_nil, mapL_cons, forM_nil, consO, items, lk]
  have z2 : evS sub (evFn sub tb (d + 6)) (.asg 2 (.ifx (.cmp .gt (.idx (.var 1) (.c (.int 0))) (.c (.int 0))) (.c (.int 1)) (.neg (.c (.int 1))))) [.v F.d, .v (.tup [.int x, .int (lwB (F.xA r) (F.xB r))]), .u, .u, .u, .u] = retS (.nx [.v F.d, .v (.tup [.int x, .int (lwB (F.xA r) (F.xB r))]), .v (.int s), .u, .u, .u]) := by
    rw [← sg]
    by_cases q : 0 < x
    · simp [evSs_nil, evSs_cons, thenS_nx, thenS_rt, thenS_er, thenS_bk, thenS_ct, bindE_ret, bindE_raise, runFl_rt, runFl_nx, runFl_er, runFl_ret, liftS_some, toB_bl', getV_0, getV_s, getB_0, getB_o, getB_s, ret_bind, raise_bind, lift_some, bind_assoc, evS, evE, evL, PV.start, setT, setAll, binD, augD, addD, subD, mulD, fdivD, modD, powD, negD, idxD, L2.atI, L2.ixN, cmpD, ltD, eqD, isD, isNon, isIn, bltD, maxD, minD, mapL_nil, mapL_cons, forM_nil, consO, items, q]
    · simp [evSs_nil, evSs_cons, thenS_nx, thenS_rt, thenS_er, thenS_bk, thenS_ct, bindE_ret, bindE_raise, runFl_rt, runFl_nx, runFl_er, runFl_ret, liftS_some, toB_bl', getV_0, getV_s, getB_0, getB_o, getB_s, ret_bind, raise_bind, lift_some, bind_assoc, evS, evE, evL, PV.start, setT, setAll, binD, augD, addD, subD, mulD, fdivD, modD, powD, negD, idxD, L2.atI, L2.ixN, cmpD, ltD, eqD, isD, isNon, isIn, bltD, maxD, minD, mapL_nil, mapL_cons, forM_nil, consO, items, q]
  have z4 : evS sub (evFn sub tb (d + 6)) (.whl (.cmp .lt (.var 3) (.var 4)) (nofBody I)) [.v F.d, .v (.tup [.int x, .int (lwB (F.xA r) (F.xB r))]), .v (.int s), .v (.int 0), .v (.int F.many), .u] = retS (.nx [.v F.d, .v (.tup [.int x, .int (lwB (F.xA r) (F.xB r))]), .v (.int s), .v (.int r), .v (.int r), z']) := by
    rw [← hz]
    simp only [evS]
  rw [evSs_cons, z1, thenS_nx, evSs_cons, show evS sub (evFn sub tb (d + 6)) (.ifs (.cmp .eq (.idx (.var 1) (.c (.int 0))) (.c (.int 0))) [(.ret (.tup [(.c (.str ⟨#[122, 101, 114, 111]⟩)), (.c (.int 1))]))] []) [.v F.d, .v (.tup [.int x, .int (lwB (F.xA r) (F.xB r))]), .u, .u, .u, .u] = retS (.nx [.v F.d, .v (.tup [.int x, .int (lwB (F.xA r) (F.xB r))]), .u, .u, .u, .u]) by simp [evSs_nil, evSs_cons, thenS_nx, thenS_rt, thenS_er, thenS_bk, thenS_ct, bindE_ret, bindE_raise, runFl_rt, runFl_nx, runFl_er, runFl_ret, liftS_some, toB_bl', getV_0, getV_s, getB_0, getB_o, getB_s, ret_bind, raise_bind, lift_some, bind_assoc, evS, evE, evL, PV.start, setT, setAll, binD, augD, addD, subD, mulD, fdivD, modD, powD, negD, idxD, L2.atI, L2.ixN, cmpD, ltD, eqD, isD, isNon, isIn, bltD, maxD, minD, mapL_nil, mapL_cons, forM_nil, consO, items, x0], thenS_nx, evSs_cons, z2, thenS_nx, evSs_cons,
    show evS sub (evFn sub tb (d + 6)) (.unp [3, 4] (.tup [(.c (.int 0)), (.call I.how_many [(.var 0)] [])])) [.v F.d, .v (.tup [.int x, .int (lwB (F.xA r) (F.xB r))]), .v (.int s), .u, .u, .u] = retS (.nx [.v F.d, .v (.tup [.int x, .int (lwB (F.xA r) (F.xB r))]), .v (.int s), .v (.int 0), .v (.int F.many), .u]) by simp [evSs_nil, evSs_cons, thenS_nx, thenS_rt, thenS_er, thenS_bk, thenS_ct, bindE_ret, bindE_raise, runFl_rt, runFl_nx, runFl_er, runFl_ret, liftS_some, toB_bl', getV_0, getV_s, getB_0, getB_o, getB_s, ret_bind, raise_bind, lift_some, bind_assoc, evS, evE, evL, PV.start, setT, setAll, binD, augD, addD, subD, mulD, fdivD, modD, powD, negD, idxD, L2.atI, L2.ixN, cmpD, ltD, eqD, isD, isNon, isIn, bltD, maxD, minD, mapL_nil, mapL_cons, forM_nil, consO, items, hm, size_2], thenS_nx, evSs_cons, z4, thenS_nx]
  have z5 : evE (evFn sub tb (d + 6)) (.cmp .ne (.call I.exact [(.var 0), (.call I.at_rank [(.var 0), (.var 3)] [])] []) (.tup [(.blt .abs (.idx (.var 1) (.c (.int 0)))), (.idx (.var 1) (.c (.int 1)))])) [.v F.d, .v (.tup [.int x, .int (lwB (F.xA r) (F.xB r))]), .v (.int s), .v (.int r), .v (.int r), z'] = PV.ret (.bl false) := by
    have a1 : evE (evFn sub tb (d + 6)) (.call I.exact [(.var 0), (.call I.at_rank [(.var 0), (.var 3)] [])] []) [.v F.d, .v (.tup [.int x, .int (lwB (F.xA r) (F.xB r))]), .v (.int s), .v (.int r), .v (.int r), z'] = PV.ret (LW (F.xA r) (F.xB r)) := by simp [evSs_nil, evSs_cons, thenS_nx, thenS_rt, thenS_er, thenS_bk, thenS_ct, bindE_ret, bindE_raise, runFl_rt, runFl_nx, runFl_er, runFl_ret, liftS_some, toB_bl', getV_0, getV_s, getB_0, getB_o, getB_s, ret_bind, raise_bind, lift_some, bind_assoc, evS, evE, evL, PV.start, setT, setAll, binD, augD, addD, subD, mulD, fdivD, modD, powD, negD, idxD, L2.atI, L2.ixN, cmpD, ltD, eqD, isD, isNon, isIn, bltD, maxD, minD, mapL_nil, mapL_cons, forM_nil, consO, items, at1, ex]
    have a2 : evE (evFn sub tb (d + 6)) (.tup [(.blt .abs (.idx (.var 1) (.c (.int 0)))), (.idx (.var 1) (.c (.int 1)))]) [.v F.d, .v (.tup [.int x, .int (lwB (F.xA r) (F.xB r))]), .v (.int s), .v (.int r), .v (.int r), z'] = PV.ret (.tup [.int (lwA (F.xA r) (F.xB r)), .int (lwB (F.xA r) (F.xB r))]) := by simp [evSs_nil, evSs_cons, thenS_nx, thenS_rt, thenS_er, thenS_bk, thenS_ct, bindE_ret, bindE_raise, runFl_rt, runFl_nx, runFl_er, runFl_ret, liftS_some, toB_bl', getV_0, getV_s, getB_0, getB_o, getB_s, ret_bind, raise_bind, lift_some, bind_assoc, evS, evE, evL, PV.start, setT, setAll, binD, augD, addD, subD, mulD, fdivD, modD, powD, negD, idxD, L2.atI, L2.ixN, cmpD, ltD, eqD, isD, isNon, isIn, bltD, maxD, minD, mapL_nil, mapL_cons, forM_nil, consO, items, hx, size_2]
    rw [evE, a1, ret_bind, a2, ret_bind]
    rw [cmp_ne_of pe]
    rfl
  have z6 : evE (evFn sub tb (d + 6)) (.cmp .eq (.var 3) (.c (.int 0))) [.v F.d, .v (.tup [.int x, .int (lwB (F.xA r) (F.xB r))]), .v (.int s), .v (.int r), .v (.int r), z'] = PV.ret (.bl false) := by simp [evSs_nil, evSs_cons, thenS_nx, thenS_rt, thenS_er, thenS_bk, thenS_ct, bindE_ret, bindE_raise, runFl_rt, runFl_nx, runFl_er, runFl_ret, liftS_some, toB_bl', getV_0, getV_s, getB_0, getB_o, getB_s, ret_bind, raise_bind, lift_some, bind_assoc, evS, evE, evL, PV.start, setT, setAll, binD, augD, addD, subD, mulD, fdivD, modD, powD, negD, idxD, L2.atI, L2.ixN, cmpD, ltD, eqD, isD, isNon, isIn, bltD, maxD, minD, mapL_nil, mapL_cons, forM_nil, consO, items, r0]
  rw [evSs_cons, evS, evE, z6, ret_bind, toB_bl', ret_bind, if_neg Bool.false_ne_true, z5, ret_bind, toB_bl', bindE_ret, if_neg Bool.false_ne_true, evSs_nil, thenS_nx]
  simp [evSs_nil, evSs_cons, thenS_nx, thenS_rt, thenS_er, thenS_bk, thenS_ct, bindE_ret, bindE_raise, runFl_rt, runFl_nx, runFl_er, runFl_ret, liftS_some, toB_bl', getV_0, getV_s, getB_0, getB_o, getB_s, ret_bind, raise_bind, lift_some, bind_assoc, evS, evE, evL, PV.start, setT, setAll, binD, augD, addD, subD, mulD, fdivD, modD, powD, negD, idxD, L2.atI, L2.ixN, cmpD, ltD, eqD, isD, isNon, isIn, bltD, maxD, minD, mapL_nil, mapL_cons, forM_nil, consO, items, ms, at2]
theorem number_of_0 (C : CoreR I tb) (hn : tb I.number_of = D_number_of I) (k : F.Ok) {u : Int} : evFn sub tb (d + 7) I.number_of [F.d, .tup [.int 0, .int u]] = PV.ret (Vl.zero 1).d := by
  have lk := laf_ok (sub := sub) (d := d + 3) C.toCore k
  rw [fn_src hn rfl]
  simp [evSs_nil, evSs_cons, thenS_nx, thenS_rt, thenS_er, thenS_bk, thenS_ct, bindE_ret, bindE_raise, runFl_rt, runFl_nx, runFl_er, runFl_ret, liftS_some, toB_bl', getV_0, getV_s, getB_0, getB_o, getB_s, ret_bind, raise_bind, lift_some, bind_assoc, evS, evE, evL, PV.start, setT, setAll, binD, augD, addD, subD, mulD, fdivD, modD, powD, negD, idxD, L2.atI, L2.ixN, cmpD, ltD, eqD, isD, isNon, isIn, bltD, maxD, minD, mapL_nil, mapL_cons, forM_nil, consO, items, T_number_of, lk, size_2, Vl.d]
end
end PV

set_option Elab.async false
set_option linter.all false
set_option maxRecDepth 100000
set_option maxHeartbeats 1000000
/-! PW8: draws, and the laws' own small defs that many laws share. -/
namespace PV
open PySem
structure OkS (s : DS) : Prop where
  on : s.on = true
  lo : 0 ≤ s.seed
  hi : s.seed < 2147483648
theorem draw1_ok {s : DS} (h : OkS s) : OkS (draw1 s) := by
  unfold draw1
  split
  · split
    · exact ⟨h.on, Int.emod_nonneg _ (by decide), by
        rename_i c _
        have := Int.emod_lt_of_pos (s.seed * 48271 + c + 13) (show (0 : Int) < 2147483647 by decide)
        show (s.seed * 48271 + c + 13) % 2147483647 < 2147483648
        omega⟩
    · exact h
  · exact h
theorem draw2_ok {s : DS} {n : Int} (hn : 0 < n) (h : OkS s) : 0 ≤ (draw2 n s).1 ∧ (draw2 n s).1 < n ∧ OkS (draw2 n s).2 := by
  unfold draw2
  split
  · exact ⟨Int.emod_nonneg _ (by omega), Int.emod_lt_of_pos _ hn, h.on, h.lo, h.hi⟩
  · refine ⟨Int.emod_nonneg _ (by omega), Int.emod_lt_of_pos _ hn, h.on, Int.emod_nonneg _ (by decide), ?_⟩
    have := Int.emod_lt_of_pos (s.seed * 69621 + 7) (show (0 : Int) < 2147483629 by decide)
    show (s.seed * 69621 + 7) % 2147483629 < 2147483648
    omega
theorem prim_fn {sub : Sub} {fns : Nat → Option Df} {d num : Nat} {p : Prim} (hf : fns num = some (.prim p)) (xs : List D) : evFn sub fns (d + 1) num xs = evPrim p xs := by
  show (match fns num with
    | some (.src f) => if xs.length = f.np then runFl (evSs sub (evFn sub fns d) f.body (PV.start f xs)) else stuck
    | some (.prim p) => evPrim p xs
    | none => stuck) = _
  rw [hf]
/-- a run that ends well -/
abbrev Run {α : Type} (m : M α) (s : DS) (x : α) (s' : DS) : Prop := m s = some (.ok x s')
section
variable {sub : Sub} {tb : Nat → Option Df} {I : Ix} {d : Nat} {F : Fm}
theorem draw_step {k : Nat} (hd : tb k = some (.prim .draw)) {s : DS} {n : Int} (h1 : 0 < n) (h2 : n < 1073741824) (h : OkS s) : ∃ v s', Run (evFn sub tb (d + 1) k [.dr, .int n]) s (.int v) s' ∧ 0 ≤ v ∧ v < n ∧ OkS s' := by
  obtain ⟨p1, p2, p3⟩ := draw2_ok h1 (draw1_ok h)
  refine ⟨_, _, ?_, p1, p2, p3⟩
  rw [Run, prim_fn hd]
  show (if s.on = true ∧ 0 < n ∧ n < 1073741824 ∧ 0 ≤ s.seed ∧ s.seed < 2147483648 then some (Res.ok (D.int (drawF n s).1) (drawF n s).2) else none) = _
  rw [if_pos ⟨h.on, h1, h2, h.lo, h.hi⟩]
  rfl
end
section
variable {sub : Sub} {fe : FE} {ρ : Rho} {s s1 s2 s3 : DS} {A B C : E} {x y z : D} {xs : List D} {es : List E}
theorem bindE_ok {α : Type} {m : M α} {k : α → MS} {a : α} (h : m s = some (.ok a s1)) : bindE m ρ k s = k a s1 := by unfold bindE; rw [h]
theorem rret (h : evE fe A ρ = PV.ret x) : Run (evE fe A ρ) s x s := by rw [Run, h]; rfl
theorem rc : Run (evE fe (.c x) ρ) s x s := by rw [Run]; simp only [evE]; rfl
theorem rv {i : Nat} (h : getV ρ i = some x) : Run (evE fe (.var i) ρ) s x s := by rw [Run]; simp only [evE, h]; rfl
theorem rL0 : Run (evL fe [] ρ) s [] s := by rw [Run]; simp only [evL]; rfl
theorem rL1 (h : Run (evE fe A ρ) s x s1) (k : Run (evL fe es ρ) s1 xs s2) : Run (evL fe (A :: es) ρ) s (x :: xs) s2 := by
  rw [Run, evL, bind_ok h, bind_ok k]
  rfl
theorem rbin {o : Bop} (h : Run (evE fe A ρ) s x s1) (k : Run (evE fe B ρ) s1 y s2) (e : binD o x y = some z) : Run (evE fe (.bin o A B) ρ) s z s2 := by
  rw [Run, evE, bind_ok h, bind_ok k, e]
  rfl
theorem ridx (h : Run (evE fe A ρ) s x s1) (k : Run (evE fe B ρ) s1 y s2) (e : idxD x y = some z) : Run (evE fe (.idx A B) ρ) s z s2 := by
  rw [Run, evE, bind_ok h, bind_ok k, e]
  rfl
theorem rcmp {o : Cop} {b : Bool} (h : Run (evE fe A ρ) s x s1) (k : Run (evE fe B ρ) s1 y s2) (e : cmpD o x y = some b) : Run (evE fe (.cmp o A B) ρ) s (.bl b) s2 := by
  rw [Run, evE, bind_ok h, bind_ok k, e]
  rfl
theorem rand_t (h : Run (evE fe A ρ) s (.bl true) s1) (k : Run (evE fe B ρ) s1 z s2) : Run (evE fe (.and A B) ρ) s z s2 := by
  rw [Run, evE, bind_ok h, toB_bl', ret_bind, if_pos rfl]
  exact k
theorem rand_f (h : Run (evE fe A ρ) s (.bl false) s1) : Run (evE fe (.and A B) ρ) s (.bl false) s1 := by
  rw [Run, evE, bind_ok h, toB_bl', ret_bind, if_neg Bool.false_ne_true]
  rfl
theorem rneg {i : Int} (h : Run (evE fe A ρ) s (.int i) s1) : Run (evE fe (.neg A) ρ) s (.int (-i)) s1 := by
  rw [Run, evE, bind_ok h]
  rfl
theorem rtup (h : Run (evL fe es ρ) s xs s1) (hl : xs.length ≤ 1000000) : Run (evE fe (.tup es) ρ) s (.tup xs) s1 := by
  rw [Run, evE, bind_ok h, if_pos (line_le hl)]
  rfl
theorem rlst (h : Run (evL fe es ρ) s xs s1) (hl : xs.length ≤ 1000000) : Run (evE fe (.lst es) ρ) s (.lst xs) s1 := by
  rw [Run, evE, bind_ok h, if_pos (line_le hl)]
  rfl
theorem rcall {k : Nat} {dds : List D} (h : Run (evL fe es ρ) s xs s1) (e : Run (fe k (xs ++ dds)) s1 z s2) : Run (evE fe (.call k es dds) ρ) s z s2 := by
  rw [Run, evE, bind_ok h]
  exact e
theorem then_nx {m : MS} {k : Rho → MS} (h : m s = some (.nx ρ, s1)) : thenS m k s = k ρ s1 := by unfold thenS; rw [h]
theorem then_rt {m : MS} {k : Rho → MS} (h : m s = some (.rt x, s1)) : thenS m k s = some (.rt x, s1) := by unfold thenS; rw [h]
theorem sasg {i : Nat} (h : Run (evE fe A ρ) s x s1) : evS sub fe (.asg i A) ρ s = some (.nx (ρ.set i (.v x)), s1) := by
  rw [evS, bindE_ok h]
  rfl
theorem sunp {is : List Nat} {ρ' : Rho} (h : Run (evE fe A ρ) s x s1) (e : setT (.tup is) x ρ = some ρ') : evS sub fe (.unp is A) ρ s = some (.nx ρ', s1) := by
  rw [evS, bindE_ok h, e]
  rfl
theorem sret (h : Run (evE fe A ρ) s x s1) : evS sub fe (.ret A) ρ s = some (.rt x, s1) := by
  rw [evS, bindE_ok h]
  rfl
theorem sif_t {P Q : List S} (h : Run (evE fe A ρ) s (.bl true) s1) : evS sub fe (.ifs A P Q) ρ s = evSs sub fe P ρ s1 := by
  rw [evS, bindE_ok (show (bind (evE fe A ρ) toB) s = some (.ok true s1) by rw [bind_ok h]; rfl), if_pos rfl]
theorem sif_f {P Q : List S} (h : Run (evE fe A ρ) s (.bl false) s1) : evS sub fe (.ifs A P Q) ρ s = evSs sub fe Q ρ s1 := by
  rw [evS, bindE_ok (show (bind (evE fe A ρ) toB) s = some (.ok false s1) by rw [bind_ok h]; rfl), if_neg Bool.false_ne_true]
theorem ss1 {st : S} {r : List S} {ρ' : Rho} (h : evS sub fe st ρ s = some (.nx ρ', s1)) : evSs sub fe (st :: r) ρ s = evSs sub fe r ρ' s1 := by rw [evSs_cons, then_nx h]
theorem ssr {st : S} {r : List S} (h : evS sub fe st ρ s = some (.rt x, s1)) : evSs sub fe (st :: r) ρ s = some (.rt x, s1) := by rw [evSs_cons, then_rt h]
theorem ss0 : evSs sub fe [] ρ s = some (.nx ρ, s) := by rw [evSs_nil]; rfl
theorem rfl_rt {m : MS} (h : m s = some (.rt x, s1)) : Run (runFl m) s x s1 := by rw [Run, runFl, h]
end
section
variable {sub : Sub} {tb : Nat → Option Df} {I : Ix} {d : Nat} {F : Fm}
theorem base_pick {v1 v2 : Int} (h1 : 0 ≤ v1) (h2 : v1 < 15) (h3 : 0 ≤ v2) (h4 : v2 < 7) : ∃ b, idxD (.lst [.int 2, .int 2, .int 3, .int 10, .int 16, .int 5, .int (2 + v1)]) (.int v2) = some (.int b) ∧ 2 ≤ b ∧ b ≤ 16 := by
  have : v2 = 0 ∨ v2 = 1 ∨ v2 = 2 ∨ v2 = 3 ∨ v2 = 4 ∨ v2 = 5 ∨ v2 = 6 := by omega
  rcases this with rfl | rfl | rfl | rfl | rfl | rfl | rfl
  · exact ⟨2, rfl, by omega, by omega⟩
  · exact ⟨2, rfl, by omega, by omega⟩
  · exact ⟨3, rfl, by omega, by omega⟩
  · exact ⟨10, rfl, by omega, by omega⟩
  · exact ⟨16, rfl, by omega, by omega⟩
  · exact ⟨5, rfl, by omega, by omega⟩
  · exact ⟨2 + v1, rfl, by omega, by omega⟩
/-- formats as _law_format draws them -/
structure Fm.Small (F : Fm) : Prop where
  b1 : 2 ≤ F.b
  b2 : F.b ≤ 16
  g1 : 1 ≤ F.g
  g2 : F.g ≤ 4
  l1 : -4 ≤ F.l
  l2 : F.l ≤ 1
  lh : F.l ≤ F.h
  h2 : F.h ≤ F.l + 4
theorem Fm.Small.ok (k : F.Small) : F.Ok := ⟨k.b1, k.b2, k.g1, by have := k.g2; omega, by have := k.l1; omega, k.lh, by have := k.l2; have := k.h2; omega⟩
theorem Fm.Small.a (k : F.Small) : F.a ≤ 65536 := by
  rw [← a_eq k.ok]
  have h1 : F.b ^ F.g.toNat ≤ F.b ^ 4 := pow_le (by have := k.b1; omega) (by have := k.g2; omega)
  have b := k.b2
  have b1 := k.b1
  have e : F.b = 2 ∨ F.b = 3 ∨ F.b = 4 ∨ F.b = 5 ∨ F.b = 6 ∨ F.b = 7 ∨ F.b = 8 ∨ F.b = 9 ∨ F.b = 10 ∨ F.b = 11 ∨ F.b = 12 ∨ F.b = 13 ∨ F.b = 14 ∨ F.b = 15 ∨ F.b = 16 := by omega
  have h2 : F.b ^ 4 ≤ 65536 := by rcases e with e | e | e | e | e | e | e | e | e | e | e | e | e | e | e <;> rw [e] <;> decide
  omega
abbrev rdraw (n : Int) : E := .call 0 [] []
theorem rdr {k : Nat} {fe : FE} {ρ : Rho} {s s1 : DS} {A : E} {n : Int} {v : D} (hg : getV ρ 0 = some .dr) (h : Run (evE fe A ρ) s (.int n) s) (e : Run (fe k [.dr, .int n]) s v s1) : Run (evE fe (.call k [(.var 0), A] []) ρ) s v s1 :=
  rcall (rL1 (rv hg) (rL1 h rL0)) e
theorem law_format_ok (hd : tb I.law_draw = some (.prim .draw)) (hf : tb I.law_format = D_law_format I) {s : DS} (h : OkS s) : ∃ (F : Fm) (s' : DS), Run (evFn sub tb (d + 2) I.law_format [.dr]) s F.d s' ∧ F.Small ∧ OkS s' := by
  obtain ⟨v1, s1, e1, p1, q1, o1⟩ := draw_step (sub := sub) (d := d) hd (n := 15) (by decide) (by decide) h
  obtain ⟨v2, s2, e2, p2, q2, o2⟩ := draw_step (sub := sub) (d := d) hd (n := 7) (by decide) (by decide) o1
  obtain ⟨v3, s3, e3, p3, q3, o3⟩ := draw_step (sub := sub) (d := d) hd (n := 6) (by decide) (by decide) o2
  obtain ⟨v4, s4, e4, p4, q4, o4⟩ := draw_step (sub := sub) (d := d) hd (n := 4) (by decide) (by decide) o3
  obtain ⟨v5, s5, e5, p5, q5, o5⟩ := draw_step (sub := sub) (d := d) hd (n := 5) (by decide) (by decide) o4
  obtain ⟨v6, s6, e6, p6, q6, o6⟩ := draw_step (sub := sub) (d := d) hd (n := 3) (by decide) (by decide) o5
  obtain ⟨b, hb, b1, b2⟩ := base_pick p1 q1 p2 q2
  refine ⟨⟨b, 1 + v4, v3 - 4, v3 - 4 + v5, decide (0 < v6)⟩, s6, ?_, ⟨b1, b2, by dsimp only; omega, by dsimp only; omega, by dsimp only; omega, by dsimp only; omega, by dsimp only; omega, by dsimp only; omega⟩, o6⟩
  rw [fn_src hf rfl]
  generalize evFn sub tb (d + 1) = fe at e1 e2 e3 e4 e5 e6
  refine rfl_rt ?_
  show evSs sub fe (T_law_format I) [.v .dr, .u, .u] s = _
  unfold T_law_format
  refine (ss1 (sasg (ridx (rlst (rL1 rc (rL1 rc (rL1 rc (rL1 rc (rL1 rc (rL1 rc (rL1 (rbin rc (rdr rfl rc e1) rfl) rL0))))))) (by simp)) (rdr rfl rc e2) hb))).trans ?_
  refine (ss1 (sasg (rbin (rdr rfl rc e3) rc rfl))).trans ?_
  exact ssr (sret (rtup (rL1 (rv rfl) (rL1 (rbin rc (rdr rfl rc e4) rfl) (rL1 (rv rfl) (rL1 (rbin (rv rfl) (rdr rfl rc e5) rfl) (rL1 (rcmp (rdr rfl rc e6) rc rfl) rL0))))) (by simp)))
theorem sign_pick {v : Int} (h1 : 0 ≤ v) (h2 : v < 2) : ∃ s, idxD (.lst [.int 1, .int (-1)]) (.int v) = some (.int s) ∧ Sg s := by
  have : v = 0 ∨ v = 1 := by omega
  rcases this with rfl | rfl
  · exact ⟨1, rfl, .inl rfl⟩
  · exact ⟨-1, rfl, .inr rfl⟩
theorem law_raise_F (hr : tb I.law_raise = D_law_raise I) (k : F.Ok) {n : Int} (h0 : 0 ≤ n) (hn : n ≤ 3000) : evFn sub tb (d + 1) I.law_raise [.int F.b, .int n] = PV.ret (.int (F.b ^ n.toNat)) := by
  have r := law_raise_ok (sub := sub) (d := d) hr (b := F.b) (n := n.toNat) (L := 5) (bd_b k).1 (by omega) (by omega)
  rw [show ((n.toNat : Nat) : Int) = n by omega] at r
  exact r
theorem law_number_ok (hd : tb I.law_draw = some (.prim .draw)) (hr : tb I.law_raise = D_law_raise I) (hf : tb I.law_number = D_law_number I) (k : F.Ok) (hw : F.a - F.f < 1073741824) {s : DS} (h : OkS s) :
    ∃ (sg m e : Int) (s' : DS), Run (evFn sub tb (d + 2) I.law_number [.dr, F.d]) s (Vl.num sg m e).d s' ∧ F.val (.num sg m e) ∧ OkS s' := by
  have w1 : 1 ≤ F.a - F.f := (fp k).w
  have f1 := f_pos k
  have fa : F.f < F.a := by omega
  have f2 : 2 * F.f ≤ F.a := Int.mul_le_mul_of_nonneg_right k.b1 (by omega)
  obtain ⟨v1, s1, e1, p1, q1, o1⟩ := draw_step (sub := sub) (d := d) hd (n := F.h - F.l + 1) (by have := k.lh; omega) (by have := k.l1; have := k.h2; omega) h
  obtain ⟨v2, s2, e2, p2, q2, o2⟩ := draw_step (sub := sub) (d := d) hd (n := F.a - F.f) (by omega) hw o1
  have r := law_raise_F (sub := sub) (d := d) hr k (n := F.g - 1) (by have := k.g1; omega) (by have := k.g2; omega)
  have r : evFn sub tb (d + 1) I.law_raise [.int F.b, .int (F.g - 1)] = PV.ret (.int F.f) := r
  have mf : mulOk F.f F.b = true := (bd_f k).mulOk (bd_b k).1 (by omega)
  have ea : F.f * F.b = F.a := Int.mul_comm _ _
  have fin : ∀ (m e : Int) (s3 : DS) (ρ : Rho), OkS s3 → (∃ x2 x3 x4 x5 x6 x7 : Slot, ρ = [.v .dr, .v F.d, x2, x3, x4, x5, x6, x7, .v (.int e), .v (.int m)]) → Num F.b F.f F.few F.l F.h m e →
      ∃ (sg : Int) (s' : DS), evSs sub (evFn sub tb (d + 1)) [(.ret (.tup [(.c (.str ⟨#[110, 117, 109]⟩)), (.idx (.lst [(.c (.int 1)), (.neg (.c (.int 1)))]) (.call I.law_draw [(.var 0), (.c (.int 2))] [])), (.var 9), (.var 8)]))] ρ s3 = some (.rt (Vl.num sg m e).d, s') ∧ F.val (.num sg m e) ∧ OkS s' := fun m e s3 ρ o hρ hn => by
    obtain ⟨x2, x3, x4, x5, x6, x7, rfl⟩ := hρ
    obtain ⟨v, s', e', p, q, o'⟩ := draw_step (sub := sub) (d := d) hd (n := 2) (by decide) (by decide) o
    obtain ⟨sg, hs, hg⟩ := sign_pick p q
    refine ⟨sg, s', ?_, ⟨hg, hn⟩, o'⟩
    generalize evFn sub tb (d + 1) = fe at e' ⊢
    exact ssr (sret (rtup (rL1 rc (rL1 (ridx (rlst (rL1 rc (rL1 (rneg rc) rL0)) (by simp)) (rdr rfl rc e') hs) (rL1 (rv rfl) (rL1 (rv rfl) rL0)))) (by simp)))
  have fp0 := fp k
  have nn : Num F.b F.f F.few F.l F.h (F.f + v2) (F.l + v1) := ⟨by omega, by show F.f + v2 < F.a; omega, by omega, by omega, .inl (by omega)⟩
  suffices ∃ (sg m e : Int) (s' : DS), evSs sub (evFn sub tb (d + 1)) (T_law_number I) [.v .dr, .v F.d, .u, .u, .u, .u, .u, .u, .u, .u] s = some (.rt (Vl.num sg m e).d, s') ∧ F.val (.num sg m e) ∧ OkS s' by
    obtain ⟨sg, m, e, s', h1, h2, h3⟩ := this
    refine ⟨sg, m, e, s', ?_, h2, h3⟩
    rw [fn_src hf rfl]
    exact rfl_rt h1
  have st1 : ∀ rest, evSs sub (evFn sub tb (d + 1)) ((.unp [2, 3, 4, 5, 6] (.var 1)) :: (.asg 7 (.call I.law_raise [(.var 2), (.bin .sub (.var 3) (.c (.int 1)))] [])) :: (.asg 8 (.bin .add (.var 4) (.call I.law_draw [(.var 0), (.bin .add (.bin .sub (.var 5) (.var 4)) (.c (.int 1)))] []))) :: (.asg 9 (.bin .add (.var 7) (.call I.law_draw [(.var 0), (.bin .sub (.bin .mul (.var 7) (.var 2)) (.var 7))] []))) :: rest) [.v .dr, .v F.d, .u, .u, .u, .u, .u, .u, .u, .u] s =
      evSs sub (evFn sub tb (d + 1)) rest [.v .dr, .v F.d, .v (.int F.b), .v (.int F.g), .v (.int F.l), .v (.int F.h), .v (.bl F.t), .v (.int F.f), .v (.int (F.l + v1)), .v (.int (F.f + v2))] s2 := fun rest => by
    generalize evFn sub tb (d + 1) = fe at e1 e2 r ⊢
    refine (ss1 (sunp (rv rfl) rfl)).trans ?_
    refine (ss1 (sasg (rcall (rL1 (rv rfl) (rL1 (rbin (rv rfl) rc rfl) rL0)) (show Run (fe I.law_raise [.int F.b, .int (F.g - 1)]) s (.int F.f) s by rw [Run, r]; rfl)))).trans ?_
    refine (ss1 (sasg (rbin (rv rfl) (rdr rfl (rbin (rbin (rv rfl) (rv rfl) rfl) rc rfl) e1) rfl))).trans ?_
    refine (ss1 (sasg (rbin (rv rfl) (rdr rfl (rbin (rbin (rv rfl) (rv rfl) (show binD .mul (.int F.f) (.int F.b) = some (.int F.a) by show (if mulOk F.f F.b = true then some (D.int (F.f * F.b)) else none) = _; rw [if_pos mf, ea])) (rv rfl) rfl) e2) rfl))).trans ?_
    rfl
  unfold T_law_number
  rw [st1]
  by_cases ht : F.t = true
  · by_cases hf1 : 1 < F.f
    · obtain ⟨v3, s3, e3, p3, q3, o3⟩ := draw_step (sub := sub) (d := d) hd (n := 4) (by decide) (by decide) o2
      have few : F.few = F.f - 1 := if_pos ht
      by_cases hv3 : v3 = 0
      · obtain ⟨v4, s4, e4, p4, q4, o4⟩ := draw_step (sub := sub) (d := d) hd (n := F.f - 1) (by omega) (by omega) o3
        obtain ⟨sg, s', h1, h2, h3⟩ := fin (1 + v4) F.l s4 [.v .dr, .v F.d, .v (.int F.b), .v (.int F.g), .v (.int F.l), .v (.int F.h), .v (.bl F.t), .v (.int F.f), .v (.int F.l), .v (.int (1 + v4))] o4 ⟨_, _, _, _, _, _, rfl⟩ ⟨by omega, by show 1 + v4 < F.a; omega, by omega, k.lh, .inr ⟨by omega, rfl⟩⟩
        refine ⟨sg, 1 + v4, F.l, s', ?_, h2, h3⟩
        rw [← h1]
        generalize evFn sub tb (d + 1) = fe at e3 e4 ⊢
        refine ss1 ?_
        rw [sif_t (s1 := s3) (rand_t (rv (show getV _ 6 = some (.bl true) by rw [← ht]; rfl)) (rand_t (rcmp (rv rfl) rc (show cmpD .gt (.int F.f) (.int 1) = some true by show some (decide (1 < F.f)) = _; rw [decide_eq_true hf1])) (rcmp (rdr rfl rc e3) rc (show cmpD .eq (.int v3) (.int 0) = some true by show some (decide (v3 = 0)) = _; rw [decide_eq_true hv3]))))]
        exact (ss1 (sunp (rtup (rL1 (rbin rc (rdr rfl (rbin (rv rfl) rc rfl) e4) rfl) (rL1 (rv rfl) rL0)) (by simp)) rfl)).trans ss0
      · obtain ⟨sg, s', h1, h2, h3⟩ := fin (F.f + v2) (F.l + v1) s3 [.v .dr, .v F.d, .v (.int F.b), .v (.int F.g), .v (.int F.l), .v (.int F.h), .v (.bl F.t), .v (.int F.f), .v (.int (F.l + v1)), .v (.int (F.f + v2))] o3 ⟨_, _, _, _, _, _, rfl⟩ nn
        refine ⟨sg, F.f + v2, F.l + v1, s', ?_, h2, h3⟩
        rw [← h1]
        generalize evFn sub tb (d + 1) = fe at e3 ⊢
        refine ss1 ?_
        rw [sif_f (s1 := s3) (rand_t (rv (show getV _ 6 = some (.bl true) by rw [← ht]; rfl)) (rand_t (rcmp (rv rfl) rc (show cmpD .gt (.int F.f) (.int 1) = some true by show some (decide (1 < F.f)) = _; rw [decide_eq_true hf1])) (rcmp (rdr rfl rc e3) rc (show cmpD .eq (.int v3) (.int 0) = some false by show some (decide (v3 = 0)) = _; rw [decide_eq_false hv3]))))]
        exact ss0
    · obtain ⟨sg, s', h1, h2, h3⟩ := fin (F.f + v2) (F.l + v1) s2 [.v .dr, .v F.d, .v (.int F.b), .v (.int F.g), .v (.int F.l), .v (.int F.h), .v (.bl F.t), .v (.int F.f), .v (.int (F.l + v1)), .v (.int (F.f + v2))] o2 ⟨_, _, _, _, _, _, rfl⟩ nn
      refine ⟨sg, F.f + v2, F.l + v1, s', ?_, h2, h3⟩
      rw [← h1]
      generalize evFn sub tb (d + 1) = fe
      refine ss1 ?_
      rw [sif_f (s1 := s2) (rand_t (rv (show getV _ 6 = some (.bl true) by rw [← ht]; rfl)) (rand_f (rcmp (rv rfl) rc (show cmpD .gt (.int F.f) (.int 1) = some false by show some (decide (1 < F.f)) = _; rw [decide_eq_false hf1]))))]
      exact ss0
  · obtain ⟨sg, s', h1, h2, h3⟩ := fin (F.f + v2) (F.l + v1) s2 [.v .dr, .v F.d, .v (.int F.b), .v (.int F.g), .v (.int F.l), .v (.int F.h), .v (.bl F.t), .v (.int F.f), .v (.int (F.l + v1)), .v (.int (F.f + v2))] o2 ⟨_, _, _, _, _, _, rfl⟩ nn
    refine ⟨sg, F.f + v2, F.l + v1, s', ?_, h2, h3⟩
    rw [← h1]
    have ht : F.t = false := by simpa using ht
    generalize evFn sub tb (d + 1) = fe
    refine ss1 ?_
    rw [sif_f (s1 := s2) (rand_f (rv (show getV _ 6 = some (.bl false) by rw [← ht]; rfl)))]
    exact ss0
end
end PV

set_option Elab.async false
set_option linter.all false
set_option maxRecDepth 100000
set_option maxHeartbeats 1000000
/-! PW9: more of the laws' own small defs. -/
namespace PV
open PySem
section
variable {sub : Sub} {tb : Nat → Option Df} {I : Ix} {d : Nat} {F : Fm} {v : Vl}
theorem ival_pick {v : Int} (h1 : 0 ≤ v) (h2 : v < 3) : ∃ w : Vl, idxD (.lst [(Vl.inf 1).d, (Vl.inf (-1)).d, Vl.nan.d]) (.int v) = some w.d ∧ (w = .inf 1 ∨ w = .inf (-1) ∨ w = .nan) := by
  have : v = 0 ∨ v = 1 ∨ v = 2 := by omega
  rcases this with rfl | rfl | rfl
  · exact ⟨.inf 1, rfl, .inl rfl⟩
  · exact ⟨.inf (-1), rfl, .inr (.inl rfl)⟩
  · exact ⟨.nan, rfl, .inr (.inr rfl)⟩
theorem law_value_ok (hd : tb I.law_draw = some (.prim .draw)) (hr : tb I.law_raise = D_law_raise I) (hf : tb I.law_number = D_law_number I) (hv : tb I.law_value = D_law_value I) (k : F.Ok) (hw : F.a - F.f < 1073741824) {s : DS} (h : OkS s) :
    ∃ (v : Vl) (s' : DS), Run (evFn sub tb (d + 3) I.law_value [.dr, F.d]) s v.d s' ∧ F.val v ∧ OkS s' := by
  obtain ⟨v1, s1, e1, p1, q1, o1⟩ := draw_step (sub := sub) (d := d + 1) hd (n := 12) (by decide) (by decide) h
  suffices ∃ (v : Vl) (s' : DS), evSs sub (evFn sub tb (d + 2)) (T_law_value I) [.v .dr, .v F.d, .u] s = some (.rt v.d, s') ∧ F.val v ∧ OkS s' by
    obtain ⟨v, s', h1, h2, h3⟩ := this
    refine ⟨v, s', ?_, h2, h3⟩
    rw [fn_src hv rfl]
    exact rfl_rt h1
  unfold T_law_value
  have st : ∀ rest, evSs sub (evFn sub tb (d + 2)) ((.asg 2 (.call I.law_draw [(.var 0), (.c (.int 12))] [])) :: rest) [.v .dr, .v F.d, .u] s = evSs sub (evFn sub tb (d + 2)) rest [.v .dr, .v F.d, .v (.int v1)] s1 := fun rest => by
    generalize evFn sub tb (d + 2) = fe at e1 ⊢
    exact ss1 (sasg (rdr rfl rc e1))
  rw [st]
  by_cases h0 : v1 = 0
  · obtain ⟨v2, s2, e2, p2, q2, o2⟩ := draw_step (sub := sub) (d := d + 1) hd (n := 2) (by decide) (by decide) o1
    obtain ⟨sg, hs, hg⟩ := sign_pick p2 q2
    refine ⟨.zero sg, s2, ?_, hg, o2⟩
    subst h0
    generalize evFn sub tb (d + 2) = fe at e2 ⊢
    refine ssr ?_
    rw [sif_t (s1 := s1) (rcmp (rv rfl) rc rfl)]
    exact ssr (sret (rtup (rL1 rc (rL1 (ridx (rlst (rL1 rc (rL1 (rneg rc) rL0)) (by simp)) (rdr rfl rc e2) hs) rL0)) (by simp)))
  · have st2 : ∀ P rest, evSs sub (evFn sub tb (d + 2)) ((.ifs (.cmp .eq (.var 2) (.c (.int 0))) P []) :: rest) [.v .dr, .v F.d, .v (.int v1)] s1 = evSs sub (evFn sub tb (d + 2)) rest [.v .dr, .v F.d, .v (.int v1)] s1 := fun P rest => by
      refine ss1 ?_
      rw [sif_f (s1 := s1) (rcmp (rv rfl) rc (show cmpD .eq (.int v1) (.int 0) = some false by show some (decide (v1 = 0)) = _; rw [decide_eq_false h0]))]
      exact ss0
    rw [st2]
    by_cases h1 : v1 = 1
    · obtain ⟨v2, s2, e2, p2, q2, o2⟩ := draw_step (sub := sub) (d := d + 1) hd (n := 3) (by decide) (by decide) o1
      obtain ⟨w, hw1, hw2⟩ := ival_pick p2 q2
      refine ⟨w, s2, ?_, by rcases hw2 with rfl | rfl | rfl <;> simp [Fm.val, Vl.ok, Sg], o2⟩
      subst h1
      generalize evFn sub tb (d + 2) = fe at e2 ⊢
      refine ssr ?_
      rw [sif_t (s1 := s1) (rcmp (rv rfl) rc rfl)]
      exact ssr (sret (ridx (rlst (rL1 (rtup (rL1 rc (rL1 rc rL0)) (by simp)) (rL1 (rtup (rL1 rc (rL1 (rneg rc) rL0)) (by simp)) (rL1 (rtup (rL1 rc rL0) (by simp)) rL0))) (by simp)) (rdr rfl rc e2) hw1))
    · obtain ⟨sg, m, e, s2, e2, n2, o2⟩ := law_number_ok (sub := sub) (d := d) hd hr hf k hw o1
      refine ⟨.num sg m e, s2, ?_, n2, o2⟩
      generalize evFn sub tb (d + 2) = fe at e2 ⊢
      refine (ss1 (ρ' := [.v .dr, .v F.d, .v (.int v1)]) (s1 := s1) ?_).trans (ssr (sret (rcall (rL1 (rv rfl) (rL1 (rv rfl) rL0)) e2)))
      rw [sif_f (s1 := s1) (rcmp (rv rfl) rc (show cmpD .eq (.int v1) (.int 1) = some false by show some (decide (v1 = 1)) = _; rw [decide_eq_false h1]))]
      exact ss0
theorem law_exact_num (hr : tb I.law_raise = D_law_raise I) (hx : tb I.law_exact = D_law_exact I) (k : F.Ok) {s m e : Int} (hv : F.val (.num s m e)) :
    evFn sub tb (d + 2) I.law_exact [F.d, (Vl.num s m e).d] = PV.ret (.tup [.int (s * m * F.b ^ e.toNat), .int (F.b ^ (-e).toNat)]) := by
  have he := e_le k hv
  have r1 := law_raise_F (sub := sub) (d := d) hr k (n := (e.toNat : Int)) (by omega) (by omega)
  have r2 := law_raise_F (sub := sub) (d := d) hr k (n := ((-e).toNat : Int)) (by omega) (by omega)
  rw [Int.toNat_natCast] at r1 r2
  have m1 : mulOk s m = true := (Bd.sg hv.1).mulOk (bd_m k hv) (by omega)
  have m2 : mulOk (s * m) (F.b ^ e.toNat) = true := ((Bd.sg hv.1).mul (bd_m k hv)).mulOk (bd_e k he).1 (by omega)
  have x1 : (if 0 < e then e else 0) = (e.toNat : Int) := by split <;> omega
  have x2 : (if e < 0 then -e else 0) = ((-e).toNat : Int) := by split <;> omega
  rw [fn_src hx rfl]
  unfold Vl.d
  have a1 : evL (evFn sub tb (d + 1)) [(.idx (.var 0) (.c (.int 0))), (.max (.c (.int 0)) (.var 2))] [.v F.d, .v (.tup [.str ⟨#[110, 117, 109]⟩, .int s, .int m, .int e]), .v (.int e)] = PV.ret [.int F.b, .int (e.toNat : Int)] := by simp [evSs_nil, evSs_cons, thenS_nx, thenS_rt, thenS_er, thenS_bk, thenS_ct, bindE_ret, bindE_raise, runFl_rt, runFl_nx, runFl_er, runFl_ret, liftS_some, toB_bl', getV_0, getV_s, getB_0, getB_o, getB_s, ret_bind, raise_bind, lift_some, bind_assoc, evS, evE, evL, PV.start, setT, setAll, binD, augD, addD, subD, mulD, fdivD, modD, powD, negD, idxD, L2.atI, L2.ixN, cmpD, ltD, eqD, isD, isNon, isIn, bltD, maxD, minD, mapL_nil, mapL_cons, forM_nil, consO, items, x1]
  have a2 : evL (evFn sub tb (d + 1)) [(.idx (.var 0) (.c (.int 0))), (.max (.c (.int 0)) (.neg (.var 2)))] [.v F.d, .v (.tup [.str ⟨#[110, 117, 109]⟩, .int s, .int m, .int e]), .v (.int e)] = PV.ret [.int F.b, .int ((-e).toNat : Int)] := by simp [evSs_nil, evSs_cons, thenS_nx, thenS_rt, thenS_er, thenS_bk, thenS_ct, bindE_ret, bindE_raise, runFl_rt, runFl_nx, runFl_er, runFl_ret, liftS_some, toB_bl', getV_0, getV_s, getB_0, getB_o, getB_s, ret_bind, raise_bind, lift_some, bind_assoc, evS, evE, evL, PV.start, setT, setAll, binD, augD, addD, subD, mulD, fdivD, modD, powD, negD, idxD, L2.atI, L2.ixN, cmpD, ltD, eqD, isD, isNon, isIn, bltD, maxD, minD, mapL_nil, mapL_cons, forM_nil, consO, items, x2]
  have c1 : evE (evFn sub tb (d + 1)) (.call I.law_raise [(.idx (.var 0) (.c (.int 0))), (.max (.c (.int 0)) (.var 2))] []) [.v F.d, .v (.tup [.str ⟨#[110, 117, 109]⟩, .int s, .int m, .int e]), .v (.int e)] = PV.ret (.int (F.b ^ e.toNat)) := by
    rw [evE, a1, ret_bind]; exact r1
  have c2 : evE (evFn sub tb (d + 1)) (.call I.law_raise [(.idx (.var 0) (.c (.int 0))), (.max (.c (.int 0)) (.neg (.var 2)))] []) [.v F.d, .v (.tup [.str ⟨#[110, 117, 109]⟩, .int s, .int m, .int e]), .v (.int e)] = PV.ret (.int (F.b ^ (-e).toNat)) := by
    rw [evE, a2, ret_bind]; exact r2
  show runFl (evSs sub (evFn sub tb (d + 1)) (T_law_exact I) [.v F.d, .v (.tup [.str ⟨#[110, 117, 109]⟩, .int s, .int m, .int e]), .u]) = _
  unfold T_law_exact
  have b1 : evE (evFn sub tb (d + 1)) (.bin .mul (.bin .mul (.idx (.var 1) (.c (.int 1))) (.idx (.var 1) (.c (.int 2)))) (.call I.law_raise [(.idx (.var 0) (.c (.int 0))), (.max (.c (.int 0)) (.var 2))] [])) [.v F.d, .v (.tup [.str ⟨#[110, 117, 109]⟩, .int s, .int m, .int e]), .v (.int e)] = PV.ret (.int (s * m * F.b ^ e.toNat)) := by
    rw [evE, c1]
    simp [evSs_nil, evSs_cons, thenS_nx, thenS_rt, thenS_er, thenS_bk, thenS_ct, bindE_ret, bindE_raise, runFl_rt, runFl_nx, runFl_er, runFl_ret, liftS_some, toB_bl', getV_0, getV_s, getB_0, getB_o, getB_s, ret_bind, raise_bind, lift_some, bind_assoc, evS, evE, evL, PV.start, setT, setAll, binD, augD, addD, subD, mulD, fdivD, modD, powD, negD, idxD, L2.atI, L2.ixN, cmpD, ltD, eqD, isD, isNon, isIn, bltD, maxD, minD, mapL_nil, mapL_cons, forM_nil, consO, items, m1, m2]
  have b2 : evE (evFn sub tb (d + 1)) (.tup [(.bin .mul (.bin .mul (.idx (.var 1) (.c (.int 1))) (.idx (.var 1) (.c (.int 2)))) (.call I.law_raise [(.idx (.var 0) (.c (.int 0))), (.max (.c (.int 0)) (.var 2))] [])), (.call I.law_raise [(.idx (.var 0) (.c (.int 0))), (.max (.c (.int 0)) (.neg (.var 2)))] [])]) [.v F.d, .v (.tup [.str ⟨#[110, 117, 109]⟩, .int s, .int m, .int e]), .v (.int e)] = PV.ret (.tup [.int (s * m * F.b ^ e.toNat), .int (F.b ^ (-e).toNat)]) := by
    rw [evE, evL, b1, ret_bind, evL, c2, ret_bind, evL, ret_bind, ret_bind, ret_bind, if_pos (line_le (by simp))]
  rw [evSs_cons, show evS sub (evFn sub tb (d + 1)) (.ifs (.cmp .eq (.idx (.var 1) (.c (.int 0))) (.c (.str ⟨#[122, 101, 114, 111]⟩))) [(.ret (.tup [(.c (.int 0)), (.c (.int 1))]))] []) [.v F.d, .v (.tup [.str ⟨#[110, 117, 109]⟩, .int s, .int m, .int e]), .u] = retS (.nx [.v F.d, .v (.tup [.str ⟨#[110, 117, 109]⟩, .int s, .int m, .int e]), .u]) by simp [evSs_nil, evSs_cons, thenS_nx, thenS_rt, thenS_er, thenS_bk, thenS_ct, bindE_ret, bindE_raise, runFl_rt, runFl_nx, runFl_er, runFl_ret, liftS_some, toB_bl', getV_0, getV_s, getB_0, getB_o, getB_s, ret_bind, raise_bind, lift_some, bind_assoc, evS, evE, evL, PV.start, setT, setAll, binD, augD, addD, subD, mulD, fdivD, modD, powD, negD, idxD, L2.atI, L2.ixN, cmpD, ltD, eqD, isD, isNon, isIn, bltD, maxD, minD, mapL_nil, mapL_cons, forM_nil, consO, items], thenS_nx,
    evSs_cons, show evS sub (evFn sub tb (d + 1)) (.asg 2 (.idx (.var 1) (.c (.int 3)))) [.v F.d, .v (.tup [.str ⟨#[110, 117, 109]⟩, .int s, .int m, .int e]), .u] = retS (.nx [.v F.d, .v (.tup [.str ⟨#[110, 117, 109]⟩, .int s, .int m, .int e]), .v (.int e)]) by simp [evSs_nil, evSs_cons, thenS_nx, thenS_rt, thenS_er, thenS_bk, thenS_ct, bindE_ret, bindE_raise, runFl_rt, runFl_nx, runFl_er, runFl_ret, liftS_some, toB_bl', getV_0, getV_s, getB_0, getB_o, getB_s, ret_bind, raise_bind, lift_some, bind_assoc, evS, evE, evL, PV.start, setT, setAll, binD, augD, addD, subD, mulD, fdivD, modD, powD, negD, idxD, L2.atI, L2.ixN, cmpD, ltD, eqD, isD, isNon, isIn, bltD, maxD, minD, mapL_nil, mapL_cons, forM_nil, consO, items], thenS_nx, evSs_cons, evS, b2, bindE_ret, thenS_rt, runFl_rt]
theorem law_exact_zero (hx : tb I.law_exact = D_law_exact I) {s : Int} : evFn sub tb (d + 2) I.law_exact [F.d, (Vl.zero s).d] = PV.ret (.tup [.int 0, .int 1]) := by
  rw [fn_src hx rfl]
  simp [evSs_nil, evSs_cons, thenS_nx, thenS_rt, thenS_er, thenS_bk, thenS_ct, bindE_ret, bindE_raise, runFl_rt, runFl_nx, runFl_er, runFl_ret, liftS_some, toB_bl', getV_0, getV_s, getB_0, getB_o, getB_s, ret_bind, raise_bind, lift_some, bind_assoc, evS, evE, evL, PV.start, setT, setAll, binD, augD, addD, subD, mulD, fdivD, modD, powD, negD, idxD, L2.atI, L2.ixN, cmpD, ltD, eqD, isD, isNon, isIn, bltD, maxD, minD, mapL_nil, mapL_cons, forM_nil, consO, items, T_law_exact, Vl.d, sizeLine_eq]
/-- what is refused -/
theorem law_bad_ok (hb : tb I.law_bad = D_law_bad I) (hs : sub I.xBadFormat I.xBadFormat = true) {y : Str} {num : Nat} {x z : D} (ht : I.tab.lookup y = some num) (hr : evFn sub tb d num [x, z] = PV.raise ⟨I.xBadFormat, []⟩) :
    evFn sub tb (d + 1) I.law_bad [.fn y, x, z] = PV.ret (.bl true) := by
  rw [fn_src hb rfl]
  have e1 : evSs sub (evFn sub tb d) [(.exp (.cloc 0 I.tab [(.var 1), (.var 2)]))] [.v (.fn y), .v x, .v z] = retS (.er ⟨I.xBadFormat, []⟩ [.v (.fn y), .v x, .v z]) := by
    have e2 : evE (evFn sub tb d) (.cloc 0 I.tab [(.var 1), (.var 2)]) [.v (.fn y), .v x, .v z] = PV.raise ⟨I.xBadFormat, []⟩ := by
      rw [evE]
      show (match I.tab.lookup y with
        | some k => bind (evL (evFn sub tb d) [(.var 1), (.var 2)] [.v (.fn y), .v x, .v z]) fun xs => evFn sub tb d k (xs ++ [])
        | none => stuck) = _
      rw [ht]
      dsimp only
      rw [show evL (evFn sub tb d) [(.var 1), (.var 2)] [.v (.fn y), .v x, .v z] = PV.ret [x, z] by simp [evSs_nil, evSs_cons, thenS_nx, thenS_rt, thenS_er, thenS_bk, thenS_ct, bindE_ret, bindE_raise, runFl_rt, runFl_nx, runFl_er, runFl_ret, liftS_some, toB_bl', getV_0, getV_s, getB_0, getB_o, getB_s, ret_bind, raise_bind, lift_some, bind_assoc, evS, evE, evL, PV.start, setT, setAll, binD, augD, addD, subD, mulD, fdivD, modD, powD, negD, idxD, L2.atI, L2.ixN, cmpD, ltD, eqD, isD, isNon, isIn, bltD, maxD, minD, mapL_nil, mapL_cons, forM_nil, consO, items], ret_bind]
      exact hr
    rw [evSs_cons, evS, e2]
    rfl
  have e3 : evS sub (evFn sub tb d) (.try_ [(.exp (.cloc 0 I.tab [(.var 1), (.var 2)]))] [I.xBadFormat] none [(.ret (.c (.bl true)))]) [.v (.fn y), .v x, .v z] = retS (.rt (.bl true)) := by
    funext s
    rw [evS, e1]
    show (if [I.xBadFormat].any (fun c => sub I.xBadFormat c) then offF none (evSs sub (evFn sub tb d) [(.ret (.c (.bl true)))] _ s) else _) = _
    rw [List.any_cons, hs, Bool.true_or, if_pos rfl, evSs_cons, evS, evE, bindE_ret, thenS_rt]
    rfl
  show runFl (evSs sub (evFn sub tb d) (T_law_bad I) [.v (.fn y), .v x, .v z]) = _
  unfold T_law_bad
  rw [evSs_cons, e3, thenS_rt, runFl_rt]
end
end PV

set_option Elab.async false
set_option linter.all false
set_option maxRecDepth 100000
set_option maxHeartbeats 1000000
/-! PWA: pure expressions and statements, by their parts. -/
namespace PV
open PySem
section
variable {sub : Sub} {fe : FE} {ρ ρ' : Rho} {A B C : E} {x y z : D} {xs ys : List D} {es : List E} {b : Bool} {P Q : List S}
theorem pc : evE fe (.c x) ρ = PV.ret x := by simp only [evE]
theorem pv {i : Nat} (h : getV ρ i = some x) : evE fe (.var i) ρ = PV.ret x := by simp only [evE, h]; rfl
theorem pL0 : evL fe [] ρ = PV.ret [] := by simp only [evL]
theorem pL1 (h : evE fe A ρ = PV.ret x) (k : evL fe es ρ = PV.ret xs) : evL fe (A :: es) ρ = PV.ret (x :: xs) := by rw [evL, h, ret_bind, k, ret_bind]
theorem pcall {k : Nat} {dds : List D} (h : evL fe es ρ = PV.ret xs) (e : fe k (xs ++ dds) = PV.ret z) : evE fe (.call k es dds) ρ = PV.ret z := by
  rw [evE, h, ret_bind, e]
theorem pbin {o : Bop} (h : evE fe A ρ = PV.ret x) (k : evE fe B ρ = PV.ret y) (e : binD o x y = some z) : evE fe (.bin o A B) ρ = PV.ret z := by
  rw [evE, h, ret_bind, k, ret_bind, e, lift_some]
theorem pmul {i j : Int} (h : evE fe A ρ = PV.ret (.int i)) (k : evE fe B ρ = PV.ret (.int j)) (e : mulOk i j = true) : evE fe (.bin .mul A B) ρ = PV.ret (.int (i * j)) :=
  pbin h k (show (if mulOk i j = true then some (D.int (i * j)) else none) = _ by rw [if_pos e])
theorem pneg {i : Int} (h : evE fe A ρ = PV.ret (.int i)) : evE fe (.neg A) ρ = PV.ret (.int (-i)) := by
  rw [evE, h, ret_bind]; rfl
theorem pidx (h : evE fe A ρ = PV.ret x) (k : evE fe B ρ = PV.ret y) (e : idxD x y = some z) : evE fe (.idx A B) ρ = PV.ret z := by
  rw [evE, h, ret_bind, k, ret_bind, e, lift_some]
theorem pcmp {o : Cop} (h : evE fe A ρ = PV.ret x) (k : evE fe B ρ = PV.ret y) (e : cmpD o x y = some b) : evE fe (.cmp o A B) ρ = PV.ret (.bl b) := by
  rw [evE, h, ret_bind, k, ret_bind, e, lift_some, ret_bind]
theorem pne (h : evE fe A ρ = PV.ret x) (k : evE fe B ρ = PV.ret y) (e : eqD x y = some true) : evE fe (.cmp .ne A B) ρ = PV.ret (.bl false) := pcmp h k (cmp_ne_of e)
theorem pchain {o o' : Cop} {b' : Bool} (h : evE fe A ρ = PV.ret x) (k : evE fe B ρ = PV.ret y) (m : evE fe C ρ = PV.ret z) (e : cmpD o x y = some b) (e' : cmpD o' y z = some b') : evE fe (.chain o o' A B C) ρ = PV.ret (.bl (b && b')) := by
  rw [evE, h, ret_bind, k, ret_bind, e, lift_some, ret_bind]
  cases b with
  | false => rfl
  | true => rw [if_pos rfl, m, ret_bind, e', lift_some, ret_bind]; rfl
theorem pnot (h : evE fe A ρ = PV.ret (.bl b)) : evE fe (.not A) ρ = PV.ret (.bl (!b)) := by
  rw [evE, h, ret_bind, toB_bl', ret_bind]
theorem por_f (h : evE fe A ρ = PV.ret (.bl false)) (k : evE fe B ρ = PV.ret z) : evE fe (.or A B) ρ = PV.ret z := by
  rw [evE, h, ret_bind, toB_bl', ret_bind, if_neg Bool.false_ne_true, k]
theorem por_t (h : evE fe A ρ = PV.ret (.bl true)) : evE fe (.or A B) ρ = PV.ret (.bl true) := by
  rw [evE, h, ret_bind, toB_bl', ret_bind, if_pos rfl]
theorem pand_t (h : evE fe A ρ = PV.ret (.bl true)) (k : evE fe B ρ = PV.ret z) : evE fe (.and A B) ρ = PV.ret z := by
  rw [evE, h, ret_bind, toB_bl', ret_bind, if_pos rfl, k]
theorem pand_f (h : evE fe A ρ = PV.ret (.bl false)) : evE fe (.and A B) ρ = PV.ret (.bl false) := by
  rw [evE, h, ret_bind, toB_bl', ret_bind, if_neg Bool.false_ne_true]
theorem pifx (h : evE fe A ρ = PV.ret (.bl b)) (k : b = true → evE fe B ρ = PV.ret x) (m : b = false → evE fe C ρ = PV.ret x) : evE fe (.ifx A B C) ρ = PV.ret x := by
  rw [evE, h, ret_bind, toB_bl', ret_bind]
  cases b with
  | true => rw [if_pos rfl, k rfl]
  | false => rw [if_neg Bool.false_ne_true, m rfl]
theorem ptup (h : evL fe es ρ = PV.ret xs) (hl : xs.length ≤ 1000000) : evE fe (.tup es) ρ = PV.ret (.tup xs) := by
  rw [evE, h, ret_bind, if_pos (line_le hl)]
theorem plst (h : evL fe es ρ = PV.ret xs) (hl : xs.length ≤ 1000000) : evE fe (.lst es) ρ = PV.ret (.lst xs) := by
  rw [evE, h, ret_bind, if_pos (line_le hl)]
theorem pblt {o : Blt} (h : evE fe A ρ = PV.ret x) (e : bltD o x = some z) : evE fe (.blt o A) ρ = PV.ret z := by
  rw [evE, h, ret_bind, e, lift_some]
theorem pmin (h : evE fe A ρ = PV.ret x) (k : evE fe B ρ = PV.ret y) (e : minD x y = some z) : evE fe (.min A B) ρ = PV.ret z := by
  rw [evE, h, ret_bind, k, ret_bind, e, lift_some]
theorem pmax0 {e : Int} (k : evE fe B ρ = PV.ret (.int e)) : evE fe (.max (.c (.int 0)) B) ρ = PV.ret (.int (e.toNat : Int)) := by
  rw [evE, pc, ret_bind, k, ret_bind, max0, lift_some]
/-- statements -/
theorem qif_f (h : evE fe A ρ = PV.ret (.bl false)) : evS sub fe (.ifs A P Q) ρ = evSs sub fe Q ρ := by
  rw [evS, h, ret_bind, toB_bl', bindE_ret, if_neg Bool.false_ne_true]
theorem qif_t (h : evE fe A ρ = PV.ret (.bl true)) : evS sub fe (.ifs A P Q) ρ = evSs sub fe P ρ := by
  rw [evS, h, ret_bind, toB_bl', bindE_ret, if_pos rfl]
theorem qno (h : evE fe A ρ = PV.ret (.bl false)) : evS sub fe (.ifs A P []) ρ = retS (.nx ρ) := by rw [qif_f h, evSs_nil]
theorem qasg {i : Nat} (h : evE fe A ρ = PV.ret x) : evS sub fe (.asg i A) ρ = retS (.nx (ρ.set i (.v x))) := by rw [evS, h, bindE_ret]
theorem qunp {is : List Nat} (h : evE fe A ρ = PV.ret x) (e : setT (.tup is) x ρ = some ρ') : evS sub fe (.unp is A) ρ = retS (.nx ρ') := by rw [evS, h, bindE_ret, e, liftS_some]
theorem qs1 {st : S} {r : List S} (h : evS sub fe st ρ = retS (.nx ρ')) : evSs sub fe (st :: r) ρ = evSs sub fe r ρ' := by rw [evSs_cons, h, thenS_nx]
theorem q_run {st : S} {s : DS} (h : evS sub fe st ρ = retS (.nx ρ')) : evS sub fe st ρ s = some (.nx ρ', s) := by rw [h]; rfl
/-- a walk that changes nothing but its own slot -/
theorem qfor {i : Nat} (body : List S) (hP : ∀ x ∈ xs, ∀ ρ1, (∃ w, ρ1 = ρ.set i w) → evSs sub fe body ((ρ1).set i (.v x)) = retS (.nx ((ρ1).set i (.v x)))) : ∀ (ρ1 : Rho), (∃ w, ρ1 = ρ.set i w) → ∃ w, forM (.one i) (fun ρ => evSs sub fe body ρ) xs ρ1 = retS (.nx (ρ.set i w)) := by
  induction xs with
  | nil => intro ρ1 ⟨w, e⟩; exact ⟨w, by rw [e]; rfl⟩
  | cons x xs ih =>
    intro ρ1 h1
    have hb := hP x List.mem_cons_self ρ1 h1
    obtain ⟨w1, e1⟩ := h1
    obtain ⟨w, e⟩ := ih (fun y hy => hP y (List.mem_cons_of_mem _ hy)) (ρ1.set i (.v x)) ⟨.v x, by rw [e1, List.set_set]⟩
    refine ⟨w, ?_⟩
    rw [forM_go (ρ1 := ρ1.set i (.v x)) (ρ2 := ρ1.set i (.v x)) rfl hb, e]
end
theorem getV_set_ne {ρ : Rho} {i j : Nat} {w : Slot} (h : i ≠ j) : getV (ρ.set i w) j = getV ρ j := by
  unfold getV
  rw [List.getElem?_set_ne h]
theorem getV_set_eq {ρ : Rho} {i : Nat} {x : D} (h : i < ρ.length) : getV (ρ.set i (.v x)) i = some x := by
  unfold getV
  rw [List.getElem?_set_self h]
/-! ### values, more -/
def Vl.isNum : Vl → Bool
  | .num .. => true
  | _ => false
def Vl.sgD : Vl → D
  | .num s _ _ => .int s
  | .zero s => .int s
  | .inf s => .int s
  | .nan => .non
section
variable {fe : FE} {ρ : Rho} {v w : Vl} {i : Nat} {F : Fm}
theorem p_sg (h : getV ρ i = some v.d) : evE fe (.ifx (.cmp .gt (.blt .len (.var i)) (.c (.int 1))) (.idx (.var i) (.c (.int 1))) (.c .non)) ρ = PV.ret v.sgD := by
  cases v <;> simp [evSs_nil, evSs_cons, thenS_nx, thenS_rt, thenS_er, thenS_bk, thenS_ct, bindE_ret, bindE_raise, runFl_rt, runFl_nx, runFl_er, runFl_ret, liftS_some, toB_bl', getV_0, getV_s, getB_0, getB_o, getB_s, ret_bind, raise_bind, lift_some, bind_assoc, evS, evE, evL, PV.start, setT, setAll, binD, augD, addD, subD, mulD, fdivD, modD, powD, negD, idxD, L2.atI, L2.ixN, cmpD, ltD, eqD, isD, isNon, isIn, bltD, maxD, minD, mapL_nil, mapL_cons, forM_nil, consO, items, h, Vl.d, Vl.sgD]
theorem nz_in (v : Vl) : ∃ t, idxD v.d (.int 0) = some (.str t) ∧ inD (.str t) (.lst [.str ⟨#[110, 117, 109]⟩, .str ⟨#[122, 101, 114, 111]⟩]) = some v.fin ∧ eqD (.str t) (.str ⟨#[110, 117, 109]⟩) = some v.isNum := by
  cases v with
  | num s m e => exact ⟨_, rfl, by show inD _ _ = some true; decide +kernel, by show eqD _ _ = some true; decide +kernel⟩
  | zero s => exact ⟨_, rfl, by show inD _ _ = some true; decide +kernel, by show eqD _ _ = some false; decide +kernel⟩
  | inf s => exact ⟨_, rfl, by show inD _ _ = some false; decide +kernel, by show eqD _ _ = some false; decide +kernel⟩
  | nan => exact ⟨_, rfl, by show inD _ _ = some false; decide +kernel, by show eqD _ _ = some false; decide +kernel⟩
theorem p_fin (h : getV ρ i = some v.d) : evE fe (.cmp .in_ (.idx (.var i) (.c (.int 0))) (.lst [(.c (.str ⟨#[110, 117, 109]⟩)), (.c (.str ⟨#[122, 101, 114, 111]⟩))])) ρ = PV.ret (.bl v.fin) := by
  obtain ⟨t, h1, h2, _⟩ := nz_in v
  exact pcmp (pidx (pv h) pc h1) (plst (pL1 pc (pL1 pc pL0)) (by simp)) h2
theorem p_isnum (h : getV ρ i = some v.d) : evE fe (.cmp .eq (.idx (.var i) (.c (.int 0))) (.c (.str ⟨#[110, 117, 109]⟩))) ρ = PV.ret (.bl v.isNum) := by
  obtain ⟨t, h1, _, h2⟩ := nz_in v
  exact pcmp (pidx (pv h) pc h1) pc h2
theorem p_isnan (h : getV ρ i = some v.d) : evE fe (.cmp .eq (.var i) (.tup [(.c (.str ⟨#[110, 97, 110]⟩))])) ρ = PV.ret (.bl (decide (v = .nan))) :=
  pcmp (pv h) (ptup (pL1 pc pL0) (by simp)) (v_eqD v .nan)
theorem p_siz (h : getV ρ i = some v.d) : evE fe (.ifx (.cmp .eq (.var i) (.tup [(.c (.str ⟨#[110, 97, 110]⟩))])) (.var i) (.bin .add (.tup [(.idx (.var i) (.c (.int 0))), (.c (.int 1))]) (.slc (.var i) (.c (.int 2)) (.c .non)))) ρ = PV.ret v.siz.d := by
  refine pifx (p_isnan h) (fun e => ?_) (fun e => ?_)
  · have e := of_decide_eq_true e
    subst e
    exact pv h
  · have e := of_decide_eq_false e
    cases v with
    | nan => exact absurd rfl e
    | _ => simp [evSs_nil, evSs_cons, thenS_nx, thenS_rt, thenS_er, thenS_bk, thenS_ct, bindE_ret, bindE_raise, runFl_rt, runFl_nx, runFl_er, runFl_ret, liftS_some, toB_bl', getV_0, getV_s, getB_0, getB_o, getB_s, ret_bind, raise_bind, lift_some, bind_assoc, evS, evE, evL, PV.start, setT, setAll, binD, augD, addD, subD, mulD, fdivD, modD, powD, negD, idxD, L2.atI, L2.ixN, cmpD, ltD, eqD, isD, isNon, isIn, bltD, maxD, minD, mapL_nil, mapL_cons, forM_nil, consO, items, h, Vl.d, Vl.siz, slcD, cutD, HT.sIx, partD, absE, sizeLine_eq]
theorem v_self (v : Vl) : eqD v.d v.d = some true := by rw [v_eqD, decide_eq_true rfl]
theorem v_eqs (h : v = w) : eqD v.d w.d = some true := by rw [h, v_self]
theorem siz_ok {b f few l h : Int} (n : Vl.ok b f few l h v) : Vl.ok b f few l h v.siz := by
  cases v with
  | num s m e => exact ⟨.inl rfl, n.2⟩
  | zero s => exact .inl rfl
  | inf s => exact .inl rfl
  | nan => trivial
/-! ### codes -/
theorem rank_siz (k : F.Ok) (hv : F.val v) : F.at ((F.rank v).natAbs : Int) = v.siz ∨ v = .nan := by
  cases v with
  | nan => exact .inr rfl
  | num s m e =>
    left
    have lo := rk_lo (fp k) hv.2
    have z : F.at (1 * rk F.b F.f F.few F.l m e) = .num 1 m e := atR_rank (fp k) ⟨.inl rfl, hv.2⟩
    show F.at (((s * rk F.b F.f F.few F.l m e).natAbs : Nat) : Int) = _
    rw [show (((s * rk F.b F.f F.few F.l m e).natAbs : Nat) : Int) = 1 * rk F.b F.f F.few F.l m e by rcases hv.1 with rfl | rfl <;> omega, z]
    rfl
  | zero s => exact .inl rfl
  | inf s =>
    left
    have mp := many_pos k
    show F.at (((s * (F.many + 1)).natAbs : Nat) : Int) = .inf 1
    rw [show (((s * (F.many + 1)).natAbs : Nat) : Int) = F.many + 1 by rcases hv with rfl | rfl <;> omega]
    show atR F.b F.f F.few F.l F.h (F.many + 1) = _
    unfold atR
    rw [if_neg (by omega), if_pos (show ((F.many + 1).natAbs : Int) = mny F.b F.f F.few F.l F.h + 1 from (show ((F.many + 1).natAbs : Int) = F.many + 1 by omega)), if_pos (by omega)]
theorem code_ok (k : F.Ok) (hv : F.val v) : F.ofCode (F.code v) = v ∧ 0 ≤ F.code v ∧ F.code v ≤ 2 * F.many + 4 ∧ (v ≠ .nan ↔ F.code v < 2 * F.many + 4) := by
  have mp := many_pos k
  have rl : ((F.rank v).natAbs : Int) ≤ F.many + 1 := rank_le (fp k) hv
  have rs := rank_siz k hv
  have key : ∀ s : Int, Sg s → (v = .nan → False) → F.code v = 2 * ((F.rank v).natAbs : Int) + (if s = -1 then 1 else 0) → (s = 1 → v.siz = v) → (s = -1 → v.siz.neg = v) → F.ofCode (F.code v) = v ∧ 0 ≤ F.code v ∧ F.code v ≤ 2 * F.many + 4 ∧ (v ≠ .nan ↔ F.code v < 2 * F.many + 4) := by
    intro s hs nn hc h1 h2
    have rs := rs.resolve_right nn
    rcases hs with rfl | rfl
    · rw [if_neg (by omega)] at hc
      refine ⟨?_, by omega, by omega, fun _ => by omega, fun _ z => nn z⟩
      unfold Fm.ofCode
      rw [if_neg (by omega), if_neg (by omega), show F.code v / 2 = ((F.rank v).natAbs : Int) by omega, rs, h1 rfl]
    · rw [if_pos rfl] at hc
      refine ⟨?_, by omega, by omega, fun _ => by omega, fun _ z => nn z⟩
      unfold Fm.ofCode
      rw [if_neg (by omega), if_pos (by omega), show F.code v / 2 = ((F.rank v).natAbs : Int) by omega, rs, h2 rfl]
  cases v with
  | nan =>
    refine ⟨if_pos rfl, ?_, Int.le_refl _, fun h => absurd rfl h, fun h => absurd h (Int.lt_irrefl _)⟩
    show 0 ≤ 2 * F.many + 4
    omega
  | num s m e => exact key s hv.1 (fun z => by cases z) rfl (fun z => by rw [z]; rfl) (fun z => by rw [z]; rfl)
  | zero s => exact key s hv (fun z => by cases z) rfl (fun z => by rw [z]; rfl) (fun z => by rw [z]; rfl)
  | inf s => exact key s hv (fun z => by cases z) rfl (fun z => by rw [z]; rfl) (fun z => by rw [z]; rfl)
end
end PV

set_option Elab.async false
set_option linter.all false
set_option maxRecDepth 100000
set_option maxHeartbeats 0
namespace K05
open PySem PySem.Spec PyProof.Rows L2 PV
abbrev PR : Program := PySem.Challenge.pw_roundonce_k05_whole_values_and_their_ste
def dt : LD where
  fds := PR.main.body.filterMap fdOf
  vals := [("MOST_DIGITS", .int 120), ("MOST_EXPONENT", .int 5000), ("NOUGHT", .tup [.int 0, .int 1])]
  free := ["len", "abs", "int", "str", "list", "tuple", "all", "any", "max", "min", "isinstance", "range", "bool"]
  ecs := [("BadFormat", []), ("BadPlan", []), ("RoundError", [])]
  l1 := 177
  l2 := 179
  fvals := ["rank", "exact", "at_rank", "from_code", "step_at"]
abbrev R : PySem.W.OpenRow := PySem.W.OpenLaw.row PySem.Challenge.rw_roundonce_k05_whole_values_and_their_ste
def ob (s : PySem.W.SharedT) : AlP := dt.obsP (HandSHeadRun.getT s)
theorem ob_eq (s : PySem.W.SharedT) : ob s = dt.hook.obs s.abs := dt.obs_eq (HandSHeadRun.getT_eq s)
def nm : Stmt → List Str
  | .FunctionDef n .. => [n] | .ClassDef n .. => [n] | .Assign [.Name n _] .. => [n] | _ => []
def loose : List Str := (PR.main.body.flatMap nm).filter fun x => !(x == ("law" : Str)) && !(x == ("__name__" : Str))
theorem run (w : World) : HandSHeadRun.RunEq R (PySem.W.view R.prog [50]) dt.hook ob 2000 loose w := by
  intro os
  kernel_rfl
theorem okT : dt.okT = true := by kernel_rfl
end K05

set_option Elab.async false
set_option linter.all false
set_option maxRecDepth 100000
set_option maxHeartbeats 0
namespace K05
open PySem PV
def u1 (I : Ix) : S := (.asg 3 (.call I.law_format [(.var 1)] []))
def u2 (I : Ix) : S := (.asg 4 (.call I.how_many [(.var 3)] []))
def u3 (I : Ix) : S := (.unp [5, 6] (.tup [(.call I.law_value [(.var 1), (.var 3)] []), (.call I.law_value [(.var 1), (.var 3)] [])]))
def u4 (I : Ix) : S := (.ifs (.or (.cmp .isnot (.call I.is_value [(.var 3), (.var 5)] []) (.c (.bl true))) (.or (.cmp .ne (.call I.turned [(.call I.turned [(.var 5)] [])] []) (.var 5)) (.not (.call I.law_same [(.call I.sign_of [(.var 5)] []), (.ifx (.cmp .gt (.blt .len (.var 5)) (.c (.int 1))) (.idx (.var 5) (.c (.int 1))) (.c .non))] [])))) [(.ret (.c (.bl false)))] [])
def u5 (I : Ix) : S := (.ifs (.or (.not (.call I.law_same [(.call I.is_finite [(.var 5)] []), (.cmp .in_ (.idx (.var 5) (.c (.int 0))) (.lst [(.c (.str ⟨#[110, 117, 109]⟩)), (.c (.str ⟨#[122, 101, 114, 111]⟩))]))] [])) (.cmp .ne (.call I.sized_value [(.var 5)] []) (.ifx (.cmp .eq (.var 5) (.tup [(.c (.str ⟨#[110, 97, 110]⟩))])) (.var 5) (.bin .add (.tup [(.idx (.var 5) (.c (.int 0))), (.c (.int 1))]) (.slc (.var 5) (.c (.int 2)) (.c .non)))))) [(.ret (.c (.bl false)))] [])
def u6 (I : Ix) : S := (.ifs (.or (.cmp .eq (.var 5) (.tup [(.c (.str ⟨#[110, 97, 110]⟩))])) (.cmp .eq (.var 6) (.tup [(.c (.str ⟨#[110, 97, 110]⟩))]))) [(.ifs (.or (.cmp .isnot (.call I.compared [(.var 3), (.var 5), (.var 6)] []) (.c .non)) (.or (.not (.call I.law_bad [(.c (.fn ⟨#[114, 97, 110, 107]⟩)), (.var 3), (.tup [(.c (.str ⟨#[110, 97, 110]⟩))])] [])) (.cmp .ne (.call I.next_up [(.var 3), (.tup [(.c (.str ⟨#[110, 97, 110]⟩))])] []) (.tup [(.c (.str ⟨#[110, 97, 110]⟩))])))) [(.ret (.c (.bl false)))] [])] [(.unp [7, 8] (.tup [(.call I.rank [(.var 3), (.var 5)] []), (.call I.rank [(.var 3), (.var 6)] [])])), (.ifs (.or (.not (.call I.law_same [(.call I.compared [(.var 3), (.var 5), (.var 6)] []), (.ifx (.cmp .gt (.var 7) (.var 8)) (.c (.int 1)) (.ifx (.cmp .lt (.var 7) (.var 8)) (.neg (.c (.int 1))) (.c (.int 0))))] [])) (.not (.call I.law_same [(.call I.steps_between [(.var 3), (.var 5), (.var 6)] []), (.bin .sub (.var 8) (.var 7))] []))) [(.ret (.c (.bl false)))] []), (.ifs (.and (.cmp .in_ (.idx (.var 5) (.c (.int 0))) (.lst [(.c (.str ⟨#[110, 117, 109]⟩)), (.c (.str ⟨#[122, 101, 114, 111]⟩))])) (.cmp .in_ (.idx (.var 6) (.c (.int 0))) (.lst [(.c (.str ⟨#[110, 117, 109]⟩)), (.c (.str ⟨#[122, 101, 114, 111]⟩))]))) [(.unp [9, 10] (.tup [(.call I.law_exact [(.var 3), (.var 5)] []), (.call I.law_exact [(.var 3), (.var 6)] [])])), (.unp [11, 12] (.tup [(.bin .mul (.idx (.var 9) (.c (.int 0))) (.idx (.var 10) (.c (.int 1)))), (.bin .mul (.idx (.var 10) (.c (.int 0))) (.idx (.var 9) (.c (.int 1))))])), (.ifs (.or (.cmp .ne (.cmp .gt (.var 11) (.var 12)) (.cmp .gt (.var 7) (.var 8))) (.cmp .ne (.cmp .eq (.var 11) (.var 12)) (.cmp .eq (.var 7) (.var 8)))) [(.ret (.c (.bl false)))] [])] [])])
def u7 (I : Ix) : S := (.asg 13 (.call I.to_code [(.var 3), (.var 5)] []))
def u8 (I : Ix) : S := (.ifs (.or (.cmp .ne (.call I.from_code [(.var 3), (.var 13)] []) (.var 5)) (.or (.not (.chain .le .le (.c (.int 0)) (.var 13) (.bin .add (.bin .mul (.c (.int 2)) (.var 4)) (.c (.int 4))))) (.cmp .ne (.cmp .ne (.var 5) (.tup [(.c (.str ⟨#[110, 97, 110]⟩))])) (.cmp .lt (.var 13) (.bin .add (.bin .mul (.c (.int 2)) (.var 4)) (.c (.int 4))))))) [(.ret (.c (.bl false)))] [])
def u9 (I : Ix) : S := (.ifs (.cmp .eq (.idx (.var 5) (.c (.int 0))) (.c (.str ⟨#[110, 117, 109]⟩))) [(.unp [14, 15] (.call I.law_exact [(.var 3), (.var 5)] [])), (.asg 16 (.call I.exact [(.var 3), (.var 5)] [])), (.ifs (.or (.cmp .ne (.bin .mul (.idx (.var 16) (.c (.int 0))) (.var 15)) (.bin .mul (.var 14) (.idx (.var 16) (.c (.int 1))))) (.or (.cmp .ne (.call I.number_of [(.var 3), (.var 16)] []) (.var 5)) (.or (.cmp .ne (.call I.at_rank [(.var 3), (.call I.rank [(.var 3), (.var 5)] [])] []) (.var 5)) (.cmp .ne (.call I.exact [(.var 3), (.call I.turned [(.var 5)] [])] []) (.tup [(.bin .sub (.c (.int 0)) (.idx (.var 16) (.c (.int 0)))), (.idx (.var 16) (.c (.int 1)))]))))) [(.ret (.c (.bl false)))] []), (.asg 17 (.call I.step_at [(.var 3), (.var 5)] [])), (.ifs (.cmp .ne (.bin .mul (.idx (.var 17) (.c (.int 0))) (.call I.law_raise [(.idx (.var 3) (.c (.int 0))), (.max (.c (.int 0)) (.bin .sub (.c (.int 0)) (.idx (.var 5) (.c (.int 3)))))] [])) (.bin .mul (.idx (.var 17) (.c (.int 1))) (.call I.law_raise [(.idx (.var 3) (.c (.int 0))), (.max (.c (.int 0)) (.idx (.var 5) (.c (.int 3))))] []))) [(.ret (.c (.bl false)))] [])] [])
def u10 (I : Ix) : S := (.asg 18 (.bin .sub (.bin .sub (.call I.law_draw [(.var 1), (.bin .add (.bin .mul (.c (.int 2)) (.var 4)) (.c (.int 3)))] []) (.var 4)) (.c (.int 1))))
def u11 (I : Ix) : S := (.asg 19 (.call I.at_rank [(.var 3), (.var 18)] []))
def u12 (I : Ix) : S := (.asg 20 (.call I.next_up [(.var 3), (.var 19)] []))
def u13 (I : Ix) : S := (.ifs (.or (.cmp .ne (.call I.rank [(.var 3), (.var 19)] []) (.var 18)) (.or (.cmp .ne (.call I.rank [(.var 3), (.var 20)] []) (.min (.bin .add (.var 18) (.c (.int 1))) (.bin .add (.var 4) (.c (.int 1))))) (.or (.and (.cmp .eq (.var 18) (.neg (.c (.int 1)))) (.cmp .ne (.var 20) (.tup [(.c (.str ⟨#[122, 101, 114, 111]⟩)), (.neg (.c (.int 1)))]))) (.cmp .ne (.call I.next_down [(.var 3), (.call I.turned [(.var 19)] [])] []) (.call I.turned [(.var 20)] []))))) [(.ret (.c (.bl false)))] [])
def u14 (I : Ix) : S := (.ifs (.or (.cmp .ne (.call I.next_up [(.var 3), (.tup [(.c (.str ⟨#[122, 101, 114, 111]⟩)), (.neg (.c (.int 1)))])] []) (.call I.at_rank [(.var 3), (.c (.int 1))] [])) (.or (.cmp .ne (.call I.next_up [(.var 3), (.tup [(.c (.str ⟨#[105, 110, 102]⟩)), (.neg (.c (.int 1)))])] []) (.call I.at_rank [(.var 3), (.bin .sub (.c (.int 0)) (.var 4))] [])) (.cmp .ne (.call I.next_up [(.var 3), (.tup [(.c (.str ⟨#[105, 110, 102]⟩)), (.c (.int 1))])] []) (.tup [(.c (.str ⟨#[105, 110, 102]⟩)), (.c (.int 1))])))) [(.ret (.c (.bl false)))] [])
def u15 (I : Ix) : S := (.ifs (.cmp .ne (.call I.next_down [(.var 3), (.tup [(.c (.str ⟨#[105, 110, 102]⟩)), (.c (.int 1))])] []) (.call I.at_rank [(.var 3), (.var 4)] [])) [(.ret (.c (.bl false)))] [])
def u16 (I : Ix) : S := (.unp [21, 22, 23, 24, 25] (.var 3))
def u17 (I : Ix) : S := (.asg 14 (.call I.law_raise [(.var 21), (.var 22)] []))
def u18 (I : Ix) : S := (.asg 26 (.lst [(.c .non), (.tup []), (.tup [(.c (.str ⟨#[110, 117, 109]⟩))]), (.tup [(.c (.str ⟨#[110, 117, 109]⟩)), (.c (.int 1)), (.c (.int 0)), (.var 23)]), (.tup [(.c (.str ⟨#[110, 117, 109]⟩)), (.c (.int 1)), (.var 14), (.var 23)]), (.tup [(.c (.str ⟨#[110, 117, 109]⟩)), (.c (.int 1)), (.bin .sub (.var 14) (.c (.int 1))), (.bin .sub (.var 23) (.c (.int 1)))]), (.tup [(.c (.str ⟨#[110, 117, 109]⟩)), (.c (.int 1)), (.bin .sub (.var 14) (.c (.int 1))), (.bin .add (.var 24) (.c (.int 1)))]), (.tup [(.c (.str ⟨#[110, 117, 109]⟩)), (.c (.int 2)), (.bin .sub (.var 14) (.c (.int 1))), (.var 23)])]))
def u19 (I : Ix) : S := (.asg 26 (.bin .add (.var 26) (.lst [(.tup [(.c (.str ⟨#[110, 117, 109]⟩)), (.c (.bl true)), (.bin .sub (.var 14) (.c (.int 1))), (.var 23)]), (.tup [(.c (.str ⟨#[110, 117, 109]⟩)), (.c (.int 1)), (.c (.bl true)), (.var 23)])])))
def u20 (I : Ix) : S := (.asg 26 (.bin .add (.var 26) (.lst [(.lst [(.c (.str ⟨#[122, 101, 114, 111]⟩)), (.c (.int 1))]), (.tup [(.c (.str ⟨#[122, 101, 114, 111]⟩))]), (.tup [(.c (.str ⟨#[122, 101, 114, 111]⟩)), (.c (.int 0))]), (.tup [(.c (.str ⟨#[105, 110, 102]⟩)), (.c (.int 1)), (.c (.int 1))]), (.tup [(.c (.str ⟨#[110, 97, 110]⟩)), (.c (.int 1))]), (.tup [(.c (.str ⟨#[110, 117, 109]⟩)), (.c (.int 1)), (.bin .sub (.var 14) (.c (.int 1))), (.var 23), (.c (.int 0))]), (.tup [(.c (.str ⟨#[111, 110, 101]⟩)), (.c (.int 1))]), (.tup [(.c (.int 1)), (.c (.int 1))])])))
def u21 (I : Ix) : S := (.asg 26 (.bin .add (.var 26) (.ifx (.and (.not (.var 25)) (.cmp .gt (.var 22) (.c (.int 1)))) (.lst [(.tup [(.c (.str ⟨#[110, 117, 109]⟩)), (.c (.int 1)), (.bin .sub (.blt .int (.bin .fdiv (.var 14) (.var 21))) (.c (.int 1))), (.var 23)])]) (.ifx (.cmp .gt (.var 22) (.c (.int 1))) (.lst [(.tup [(.c (.str ⟨#[110, 117, 109]⟩)), (.c (.int 1)), (.bin .sub (.blt .int (.bin .fdiv (.var 14) (.var 21))) (.c (.int 1))), (.bin .add (.var 23) (.c (.int 1)))])]) (.lst [])))))
def u22 (I : Ix) : S := (.for_ (.one 27) (.var 26) [(.ifs (.or (.cmp .isnot (.call I.is_value [(.var 3), (.var 27)] []) (.c (.bl false))) (.or (.not (.call I.law_bad [(.c (.fn ⟨#[114, 97, 110, 107]⟩)), (.var 3), (.var 27)] [])) (.not (.call I.law_bad [(.c (.fn ⟨#[101, 120, 97, 99, 116]⟩)), (.var 3), (.var 27)] [])))) [(.ret (.c (.bl false)))] [])])
def u23 (I : Ix) : S := (.for_ (.one 27) (.lst [(.bin .add (.var 4) (.c (.int 2))), (.bin .sub (.bin .sub (.c (.int 0)) (.var 4)) (.c (.int 2))), (.c (.bl true)), (.c .non), (.c (.str ⟨#[49]⟩))]) [(.ifs (.not (.call I.law_bad [(.c (.fn ⟨#[97, 116, 95, 114, 97, 110, 107]⟩)), (.var 3), (.var 27)] [])) [(.ret (.c (.bl false)))] [])])
def u24 (I : Ix) : S := (.for_ (.one 27) (.lst [(.neg (.c (.int 1))), (.bin .add (.bin .mul (.c (.int 2)) (.var 4)) (.c (.int 5))), (.c (.bl true)), (.c .non)]) [(.ifs (.not (.call I.law_bad [(.c (.fn ⟨#[102, 114, 111, 109, 95, 99, 111, 100, 101]⟩)), (.var 3), (.var 27)] [])) [(.ret (.c (.bl false)))] [])])
def u25 (I : Ix) : S := (.ifs (.or (.not (.call I.law_bad [(.c (.fn ⟨#[101, 120, 97, 99, 116]⟩)), (.var 3), (.tup [(.c (.str ⟨#[105, 110, 102]⟩)), (.c (.int 1))])] [])) (.or (.not (.call I.law_bad [(.c (.fn ⟨#[115, 116, 101, 112, 95, 97, 116]⟩)), (.var 3), (.tup [(.c (.str ⟨#[110, 97, 110]⟩))])] [])) (.cmp .ne (.call I.number_of [(.var 3), (.tup [(.c (.int 0)), (.c (.int 1))])] []) (.tup [(.c (.str ⟨#[122, 101, 114, 111]⟩)), (.c (.int 1))])))) [(.ret (.c (.bl false)))] [])
def T_law (I : Ix) : List S := [(.asg 1 (.call I.law_draws [(.var 0)] [])),
  (.for_ (.one 2) (.rng1 (.c (.int 5))) [u1 I, u2 I, u3 I, u4 I, u5 I, u6 I, u7 I, u8 I, u9 I, u10 I, u11 I, u12 I, u13 I, u14 I, u15 I, u16 I, u17 I, u18 I, u19 I, u20 I, u21 I, u22 I, u23 I, u24 I, u25 I]),
  (.ret (.c (.bl true)))]
def ix : Ix := { is_whole := 0, shared := 1, fraction := 2, times := 3, order := 4, power := 5, raised := 6, is_format := 7, look_at_format := 8, full := 9, above := 10, how_many := 11, is_value := 12, look_at_value := 13, exact := 14, sign_of := 15, turned := 16, sized_value := 17, rank := 18, at_rank := 19, compared := 20, next_up := 21, next_down := 22, step_at := 23, steps_between := 24, number_of := 25, is_finite := 26, to_code := 27, from_code := 28, law_draws := 29, law_draw := 30, law_same := 31, law_raise := 32, law_format := 33, law_mode := 34, law_exact := 35, law_value := 36, law_number := 37, law_bad := 38, xBadFormat := 0, xBadPlan := 1, xRoundError := 2, tab := [(⟨#[114, 97, 110, 107]⟩, 18), (⟨#[101, 120, 97, 99, 116]⟩, 14), (⟨#[97, 116, 95, 114, 97, 110, 107]⟩, 19), (⟨#[102, 114, 111, 109, 95, 99, 111, 100, 101]⟩, 28), (⟨#[115, 116, 101, 112, 95, 97, 116]⟩, 23)] }
def lit : List Df := [.src ⟨1, 1, T_is_whole ix⟩,
  .src ⟨2, 2, T_shared ix⟩,
  .src ⟨2, 3, T_fraction ix⟩,
  .src ⟨2, 2, T_times ix⟩,
  .src ⟨2, 4, T_order ix⟩,
  .src ⟨2, 2, T_power ix⟩,
  .src ⟨2, 4, T_raised ix⟩,
  .src ⟨1, 7, T_is_format ix⟩,
  .src ⟨1, 1, T_look_at_format ix⟩,
  .src ⟨1, 1, T_full ix⟩,
  .src ⟨1, 1, T_above ix⟩,
  .src ⟨1, 6, T_how_many ix⟩,
  .src ⟨2, 4, T_is_value ix⟩,
  .src ⟨2, 2, T_look_at_value ix⟩,
  .src ⟨2, 2, T_exact ix⟩,
  .src ⟨1, 1, T_sign_of ix⟩,
  .src ⟨1, 1, T_turned ix⟩,
  .src ⟨1, 1, T_sized_value ix⟩,
  .src ⟨2, 4, T_rank ix⟩,
  .src ⟨2, 6, T_at_rank ix⟩,
  .src ⟨3, 5, T_compared ix⟩,
  .src ⟨2, 3, T_next_up ix⟩,
  .src ⟨2, 2, T_next_down ix⟩,
  .src ⟨2, 2, T_step_at ix⟩,
  .src ⟨3, 3, T_steps_between ix⟩,
  .src ⟨2, 6, T_number_of ix⟩,
  .src ⟨1, 1, T_is_finite ix⟩,
  .src ⟨2, 2, T_to_code ix⟩,
  .src ⟨2, 3, T_from_code ix⟩,
  .prim .draws,
  .prim .draw,
  .src ⟨2, 3, T_law_same ix⟩,
  .src ⟨2, 4, T_law_raise ix⟩,
  .src ⟨1, 3, T_law_format ix⟩,
  .src ⟨1, 1, T_law_mode ix⟩,
  .src ⟨2, 3, T_law_exact ix⟩,
  .src ⟨2, 3, T_law_value ix⟩,
  .src ⟨2, 10, T_law_number ix⟩,
  .src ⟨3, 3, T_law_bad ix⟩,
  .src ⟨1, 28, T_law ix⟩]
theorem lit_eq : (List.range dt.fds.length).map dt.tbl = lit.map some := by kernel_rfl
theorem tbl_lit : dt.tbl = fun k => lit[k]? := by
  have hl : lit.length = dt.fds.length := by
    have z := congrArg List.length lit_eq
    simpa using z.symm
  funext k
  by_cases h : k < dt.fds.length
  · have z := congrArg (fun l => l[k]?) lit_eq
    simp only [List.getElem?_map, List.getElem?_range h] at z
    rw [List.getElem?_eq_getElem (by omega)] at z ⊢
    simpa using z
  · unfold LD.tbl
    rw [List.getElem?_eq_none (by omega), List.getElem?_eq_none (by omega)]
    rfl
abbrev sb : Sub := fun n k => n == k || k == 2
theorem sub_eq : dt.G.sub = sb := by
  funext n k
  show (n == k || (match dt.ecs[k]? with
    | some e => e.1 == ("RoundError" : Str)
    | none => false)) = (n == k || k == 2)
  congr 1
  match k with
  | 0 => decide +kernel
  | 1 => decide +kernel
  | 2 => decide +kernel
  | k + 3 =>
    rw [show dt.ecs[k + 3]? = none from List.getElem?_eq_none (by show 3 ≤ k + 3; omega)]
    symm
    simp
def tb : Nat → Option Df := fun k => lit[k]?
theorem core : CoreR ix tb := ⟨⟨⟨rfl, rfl, rfl, rfl, rfl, rfl, rfl, rfl, rfl, rfl⟩, rfl, rfl, rfl⟩, rfl, rfl, rfl, rfl⟩
end K05

set_option Elab.async false
set_option linter.all false
set_option maxRecDepth 100000
set_option maxHeartbeats 1000000
/-! what is no value of a format -/
namespace PV
open PySem
/-- refused as a value -/
def NV (sub : Sub) (tb : Nat → Option Df) (I : Ix) (F : Fm) (x : D) : Prop := ∀ d, evFn sub tb (d + 4) I.is_value [F.d, x] = PV.ret (.bl false)
theorem in_2 : inD (.int 2) (.tup [.int 1, .int (-1)]) = some false := rfl
theorem in_0 : inD (.int 0) (.tup [.int 1, .int (-1)]) = some false := rfl
theorem in_o : inD (.str ⟨#[111, 110, 101]⟩) zsD = some false := by decide +kernel
section
variable {sub : Sub} {tb : Nat → Option Df} {I : Ix} {F : Fm}
abbrev nmS : D := .str ⟨#[110, 117, 109]⟩
theorem nv_num (C : CoreV I tb) (k : F.Ok) {m e : Int} (h : ¬ (F.l ≤ e ∧ e ≤ F.h) ∨ ¬ (1 ≤ m ∧ m < F.a) ∨ (m < F.f ∧ (F.t = false ∨ e ≠ F.l))) : NV sub tb I F (.tup [nmS, .int 1, .int m, .int e]) := by
  intro d
  have lk := laf_ok (sub := sub) (d := d) C.toCore k
  have fl := full_ok (sub := sub) (d := d + 1) C.toCore k
  have ab := above_ok (sub := sub) (d := d + 1) C.toCore k
  have iw := fun i => iw_int (sub := sub) (d := d + 2) C.toCore i
  rw [fn_src C.is_value rfl]
  by_cases c1 : F.l ≤ e
  · by_cases c2 : e ≤ F.h
    · by_cases c3 : 1 ≤ m
      · by_cases c4 : m < F.a
        · obtain ⟨h1, h2⟩ := (h.resolve_left (fun z => z ⟨c1, c2⟩)).resolve_left (fun z => z ⟨c3, c4⟩)
          have h3 : ¬ (F.f ≤ m) := by omega
          rcases h2 with h2 | h2
          · simp [evSs_nil, evSs_cons, thenS_nx, thenS_rt, thenS_er, thenS_bk, thenS_ct, bindE_ret, bindE_raise, runFl_rt, runFl_nx, runFl_er, runFl_ret, liftS_some, toB_bl', getV_0, getV_s, getB_0, getB_o, getB_s, ret_bind, raise_bind, lift_some, bind_assoc, evS, evE, evL, PV.start, setT, setAll, binD, augD, addD, subD, mulD, fdivD, modD, powD, negD, idxD, L2.atI, L2.ixN, cmpD, ltD, eqD, isD, isNon, isIn, bltD, maxD, minD, mapL_nil, mapL_cons, forM_nil, consO, items, T_is_value, lk, fl, ab, iw, in_p, in_m, size_2, c1, c2, c3, c4, h3, h2]
          · cases ht : F.t with
            | false => simp [evSs_nil, evSs_cons, thenS_nx, thenS_rt, thenS_er, thenS_bk, thenS_ct, bindE_ret, bindE_raise, runFl_rt, runFl_nx, runFl_er, runFl_ret, liftS_some, toB_bl', getV_0, getV_s, getB_0, getB_o, getB_s, ret_bind, raise_bind, lift_some, bind_assoc, evS, evE, evL, PV.start, setT, setAll, binD, augD, addD, subD, mulD, fdivD, modD, powD, negD, idxD, L2.atI, L2.ixN, cmpD, ltD, eqD, isD, isNon, isIn, bltD, maxD, minD, mapL_nil, mapL_cons, forM_nil, consO, items, T_is_value, lk, fl, ab, iw, in_p, in_m, size_2, c1, c2, c3, c4, h3, ht]
            | true => simp [evSs_nil, evSs_cons, thenS_nx, thenS_rt, thenS_er, thenS_bk, thenS_ct, bindE_ret, bindE_raise, runFl_rt, runFl_nx, runFl_er, runFl_ret, liftS_some, toB_bl', getV_0, getV_s, getB_0, getB_o, getB_s, ret_bind, raise_bind, lift_some, bind_assoc, evS, evE, evL, PV.start, setT, setAll, binD, augD, addD, subD, mulD, fdivD, modD, powD, negD, idxD, L2.atI, L2.ixN, cmpD, ltD, eqD, isD, isNon, isIn, bltD, maxD, minD, mapL_nil, mapL_cons, forM_nil, consO, items, T_is_value, lk, fl, ab, iw, in_p, in_m, size_2, c1, c2, c3, c4, h3, ht, h2]
        · simp [evSs_nil, evSs_cons, thenS_nx, thenS_rt, thenS_er, thenS_bk, thenS_ct, bindE_ret, bindE_raise, runFl_rt, runFl_nx, runFl_er, runFl_ret, liftS_some, toB_bl', getV_0, getV_s, getB_0, getB_o, getB_s, ret_bind, raise_bind, lift_some, bind_assoc, evS, evE, evL, PV.start, setT, setAll, binD, augD, addD, subD, mulD, fdivD, modD, powD, negD, idxD, L2.atI, L2.ixN, cmpD, ltD, eqD, isD, isNon, isIn, bltD, maxD, minD, mapL_nil, mapL_cons, forM_nil, consO, items, T_is_value, lk, fl, ab, iw, in_p, in_m, size_2, c1, c2, c3, c4]
      · simp [evSs_nil, evSs_cons, thenS_nx, thenS_rt, thenS_er, thenS_bk, thenS_ct, bindE_ret, bindE_raise, runFl_rt, runFl_nx, runFl_er, runFl_ret, liftS_some, toB_bl', getV_0, getV_s, getB_0, getB_o, getB_s, ret_bind, raise_bind, lift_some, bind_assoc, evS, evE, evL, PV.start, setT, setAll, binD, augD, addD, subD, mulD, fdivD, modD, powD, negD, idxD, L2.atI, L2.ixN, cmpD, ltD, eqD, isD, isNon, isIn, bltD, maxD, minD, mapL_nil, mapL_cons, forM_nil, consO, items, T_is_value, lk, fl, ab, iw, in_p, in_m, size_2, c1, c2, c3]
    · simp [evSs_nil, evSs_cons, thenS_nx, thenS_rt, thenS_er, thenS_bk, thenS_ct, bindE_ret, bindE_raise, runFl_rt, runFl_nx, runFl_er, runFl_ret, liftS_some, toB_bl', getV_0, getV_s, getB_0, getB_o, getB_s, ret_bind, raise_bind, lift_some, bind_assoc, evS, evE, evL, PV.start, setT, setAll, binD, augD, addD, subD, mulD, fdivD, modD, powD, negD, idxD, L2.atI, L2.ixN, cmpD, ltD, eqD, isD, isNon, isIn, bltD, maxD, minD, mapL_nil, mapL_cons, forM_nil, consO, items, T_is_value, lk, fl, ab, iw, in_p, in_m, size_2, c1, c2]
  · simp [evSs_nil, evSs_cons, thenS_nx, thenS_rt, thenS_er, thenS_bk, thenS_ct, bindE_ret, bindE_raise, runFl_rt, runFl_nx, runFl_er, runFl_ret, liftS_some, toB_bl', getV_0, getV_s, getB_0, getB_o, getB_s, ret_bind, raise_bind, lift_some, bind_assoc, evS, evE, evL, PV.start, setT, setAll, binD, augD, addD, subD, mulD, fdivD, modD, powD, negD, idxD, L2.atI, L2.ixN, cmpD, ltD, eqD, isD, isNon, isIn, bltD, maxD, minD, mapL_nil, mapL_cons, forM_nil, consO, items, T_is_value, lk, fl, ab, iw, in_p, in_m, size_2, c1]
theorem nv_all (C : CoreV I tb) (k : F.Ok) (m e : Int) : NV sub tb I F .non ∧ NV sub tb I F (.tup []) ∧ NV sub tb I F (.tup [nmS]) ∧ NV sub tb I F (.tup [nmS, .int 2, .int m, .int e]) ∧
    NV sub tb I F (.tup [nmS, .bl true, .int m, .int e]) ∧ NV sub tb I F (.tup [nmS, .int 1, .bl true, .int e]) ∧ NV sub tb I F (.lst [.str ⟨#[122, 101, 114, 111]⟩, .int 1]) ∧ NV sub tb I F (.tup [.str ⟨#[122, 101, 114, 111]⟩]) ∧
    NV sub tb I F (.tup [.str ⟨#[122, 101, 114, 111]⟩, .int 0]) ∧ NV sub tb I F (.tup [.str ⟨#[105, 110, 102]⟩, .int 1, .int 1]) ∧ NV sub tb I F (.tup [.str ⟨#[110, 97, 110]⟩, .int 1]) ∧ NV sub tb I F (.tup [nmS, .int 1, .int m, .int e, .int 0]) ∧
    NV sub tb I F (.tup [.str ⟨#[111, 110, 101]⟩, .int 1]) ∧ NV sub tb I F (.tup [.int 1, .int 1]) := by
  have lk := fun d => laf_ok (sub := sub) (d := d) C.toCore k
  have iw := fun d i => iw_int (sub := sub) (d := d) C.toCore i
  have ib := fun d b => iw_bl (sub := sub) (d := d) C.toCore b
  refine ⟨fun d => ?_, fun d => ?_, fun d => ?_, fun d => ?_, fun d => ?_, fun d => ?_, fun d => ?_, fun d => ?_, fun d => ?_, fun d => ?_, fun d => ?_, fun d => ?_, fun d => ?_, fun d => ?_⟩
  all_goals
    have lk := lk d
    have iw := iw (d + 2)
    have ib := ib (d + 2)
    rw [fn_src C.is_value rfl]
    simp [evSs_nil, evSs_cons, thenS_nx, thenS_rt, thenS_er, thenS_bk, thenS_ct, bindE_ret, bindE_raise, runFl_rt, runFl_nx, runFl_er, runFl_ret, liftS_some, toB_bl', getV_0, getV_s, getB_0, getB_o, getB_s, ret_bind, raise_bind, lift_some, bind_assoc, evS, evE, evL, PV.start, setT, setAll, binD, augD, addD, subD, mulD, fdivD, modD, powD, negD, idxD, L2.atI, L2.ixN, cmpD, ltD, eqD, isD, isNon, isIn, bltD, maxD, minD, mapL_nil, mapL_cons, forM_nil, consO, items, T_is_value, lk, iw, ib, in_p, in_2, in_0, in_i, in_m, in_o, sizeLine_eq]
end
/-! ### refused places and codes -/
section
variable {sub : Sub} {tb : Nat → Option Df} {I : Ix} {d : Nat} {F : Fm}
theorem at_rank_far (C : CoreR I tb) (k : F.Ok) {p : Int} (hp : F.many + 1 < (p.natAbs : Int)) : evFn sub tb (d + 5) I.at_rank [F.d, .int p] = PV.raise ⟨I.xBadFormat, []⟩ := by
  have lk := laf_ok (sub := sub) (d := d + 1) C.toCore k
  have hm := how_many_ok (sub := sub) (d := d) C.toCore C.how_many k
  have iw := iw_int (sub := sub) (d := d + 3) C.toCore p
  have ab := abs_ite p
  rw [fn_src C.at_rank rfl]
  simp [evSs_nil, evSs_cons, thenS_nx, thenS_rt, thenS_er, thenS_bk, thenS_ct, bindE_ret, bindE_raise, runFl_rt, runFl_nx, runFl_er, runFl_ret, liftS_some, toB_bl', getV_0, getV_s, getB_0, getB_o, getB_s, ret_bind, raise_bind, lift_some, bind_assoc, evS, evE, evL, PV.start, setT, setAll, binD, augD, addD, subD, mulD, fdivD, modD, powD, negD, idxD, L2.atI, L2.ixN, cmpD, ltD, eqD, isD, isNon, isIn, bltD, maxD, minD, mapL_nil, mapL_cons, forM_nil, consO, items, T_at_rank, lk, iw, hm, ab, hp]
theorem at_rank_no (C : CoreR I tb) (k : F.Ok) {x : D} (hx : ∀ d, evFn sub tb (d + 1) I.is_whole [x] = PV.ret (.bl false)) : evFn sub tb (d + 5) I.at_rank [F.d, x] = PV.raise ⟨I.xBadFormat, []⟩ := by
  have lk := laf_ok (sub := sub) (d := d + 1) C.toCore k
  have iw := hx (d + 3)
  rw [fn_src C.at_rank rfl]
  simp [evSs_nil, evSs_cons, thenS_nx, thenS_rt, thenS_er, thenS_bk, thenS_ct, bindE_ret, bindE_raise, runFl_rt, runFl_nx, runFl_er, runFl_ret, liftS_some, toB_bl', getV_0, getV_s, getB_0, getB_o, getB_s, ret_bind, raise_bind, lift_some, bind_assoc, evS, evE, evL, PV.start, setT, setAll, binD, augD, addD, subD, mulD, fdivD, modD, powD, negD, idxD, L2.atI, L2.ixN, cmpD, ltD, eqD, isD, isNon, isIn, bltD, maxD, minD, mapL_nil, mapL_cons, forM_nil, consO, items, T_at_rank, lk, iw]
theorem from_code_far (C : CoreR I tb) (hc : tb I.from_code = D_from_code I) (k : F.Ok) {c : Int} (h : c < 0 ∨ 2 * F.many + 4 < c) : evFn sub tb (d + 6) I.from_code [F.d, .int c] = PV.raise ⟨I.xBadFormat, []⟩ := by
  have lk := laf_ok (sub := sub) (d := d + 2) C.toCore k
  have hm := how_many_ok (sub := sub) (d := d + 1) C.toCore C.how_many k
  have iw := iw_int (sub := sub) (d := d + 4) C.toCore c
  have mm : mulOk 2 F.many = true := (show Bd 2 2 by unfold Bd; decide).mulOk (bd_many k) (by omega)
  rw [fn_src hc rfl]
  by_cases c0 : 0 ≤ c
  · have c1 : ¬ (c ≤ 2 * F.many + 4) := by omega
    simp [evSs_nil, evSs_cons, thenS_nx, thenS_rt, thenS_er, thenS_bk, thenS_ct, bindE_ret, bindE_raise, runFl_rt, runFl_nx, runFl_er, runFl_ret, liftS_some, toB_bl', getV_0, getV_s, getB_0, getB_o, getB_s, ret_bind, raise_bind, lift_some, bind_assoc, evS, evE, evL, PV.start, setT, setAll, binD, augD, addD, subD, mulD, fdivD, modD, powD, negD, idxD, L2.atI, L2.ixN, cmpD, ltD, eqD, isD, isNon, isIn, bltD, maxD, minD, mapL_nil, mapL_cons, forM_nil, consO, items, T_from_code, lk, hm, iw, mm, c0, c1]
  · simp [evSs_nil, evSs_cons, thenS_nx, thenS_rt, thenS_er, thenS_bk, thenS_ct, bindE_ret, bindE_raise, runFl_rt, runFl_nx, runFl_er, runFl_ret, liftS_some, toB_bl', getV_0, getV_s, getB_0, getB_o, getB_s, ret_bind, raise_bind, lift_some, bind_assoc, evS, evE, evL, PV.start, setT, setAll, binD, augD, addD, subD, mulD, fdivD, modD, powD, negD, idxD, L2.atI, L2.ixN, cmpD, ltD, eqD, isD, isNon, isIn, bltD, maxD, minD, mapL_nil, mapL_cons, forM_nil, consO, items, T_from_code, lk, iw, c0]
theorem from_code_no (C : CoreR I tb) (hc : tb I.from_code = D_from_code I) (k : F.Ok) {x : D} (hx : ∀ d, evFn sub tb (d + 1) I.is_whole [x] = PV.ret (.bl false)) : evFn sub tb (d + 6) I.from_code [F.d, x] = PV.raise ⟨I.xBadFormat, []⟩ := by
  have lk := laf_ok (sub := sub) (d := d + 2) C.toCore k
  have iw := hx (d + 4)
  rw [fn_src hc rfl]
  simp [evSs_nil, evSs_cons, thenS_nx, thenS_rt, thenS_er, thenS_bk, thenS_ct, bindE_ret, bindE_raise, runFl_rt, runFl_nx, runFl_er, runFl_ret, liftS_some, toB_bl', getV_0, getV_s, getB_0, getB_o, getB_s, ret_bind, raise_bind, lift_some, bind_assoc, evS, evE, evL, PV.start, setT, setAll, binD, augD, addD, subD, mulD, fdivD, modD, powD, negD, idxD, L2.atI, L2.ixN, cmpD, ltD, eqD, isD, isNon, isIn, bltD, maxD, minD, mapL_nil, mapL_cons, forM_nil, consO, items, T_from_code, lk, iw]
/-! ### the next ones -/
theorem at_inf (k : F.Ok) : F.at (F.many + 1) = .inf 1 := by
  have mp := many_pos k
  show atR F.b F.f F.few F.l F.h (F.many + 1) = _
  unfold atR
  rw [if_neg (by omega), if_pos (show ((F.many + 1).natAbs : Int) = mny F.b F.f F.few F.l F.h + 1 from (show ((F.many + 1).natAbs : Int) = F.many + 1 by omega)), if_pos (by omega)]
theorem at_nn (p : Int) : F.at p ≠ .nan := by
  show atR F.b F.f F.few F.l F.h p ≠ _
  unfold atR
  split
  · intro z; cases z
  · split <;> · intro z; cases z
theorem at_not_inf (k : F.Ok) {p : Int} (hp : (p.natAbs : Int) ≤ F.many + 1) (h : p ≠ F.many + 1) : F.at p ≠ .inf 1 := fun z => by
  have r := (at_val k hp).2
  rw [z] at r
  have r : 1 * (F.many + 1) = p := r
  omega
theorem at_neg (k : F.Ok) {p : Int} (h0 : p ≠ 0) : (F.at p).neg = F.at (-p) := by
  show (atR F.b F.f F.few F.l F.h p).neg = atR F.b F.f F.few F.l F.h (-p)
  have e : (-p).natAbs = p.natAbs := by omega
  have n0 : ¬ p.natAbs = 0 := by omega
  have s1 : ∀ a b : Vl, (if p.natAbs = 0 then a else b) = b := fun a b => if_neg n0
  unfold atR
  rw [e, s1, s1]
  by_cases s : 0 ≤ p
  · have s2 : (if 0 ≤ p then (1 : Int) else -1) = 1 := if_pos s
    have s3 : (if 0 ≤ -p then (1 : Int) else -1) = -1 := if_neg (by omega)
    rw [s2, s3]
    split <;> rfl
  · have s2 : (if 0 ≤ p then (1 : Int) else -1) = -1 := if_neg s
    have s3 : (if 0 ≤ -p then (1 : Int) else -1) = 1 := if_pos (by omega)
    rw [s2, s3]
    split <;> rfl
/-- the next one at a place -/
theorem up_at (k : F.Ok) {p : Int} (hp : (p.natAbs : Int) ≤ F.many + 1) : F.val (F.up (F.at p)) ∧ F.up (F.at p) ≠ .nan ∧ F.rank (F.up (F.at p)) = (if F.many + 1 < p + 1 then F.many + 1 else p + 1) ∧ (p = -1 → F.up (F.at p) = .zero (-1)) := by
  have mp := many_pos k
  obtain ⟨hv, hr⟩ := at_val k hp
  unfold Fm.up
  by_cases h1 : p = F.many + 1
  · subst h1
    rw [if_pos (.inr (at_inf k)), at_inf k, if_pos (by omega)]
    exact ⟨.inl rfl, (fun z => by cases z), by show 1 * (F.many + 1) = F.many + 1; omega, fun z => by omega⟩
  · have n1 : ¬ (F.at p = .nan ∨ F.at p = .inf 1) := fun z => z.elim (at_nn p) (at_not_inf k hp h1)
    rw [if_neg n1, hr, if_neg (show ¬ F.many + 1 < p + 1 by omega)]
    by_cases z : p + 1 = 0
    · rw [if_pos z]
      exact ⟨.inr rfl, (fun z => by cases z), by show (0 : Int) = p + 1; omega, fun _ => rfl⟩
    · rw [if_neg z]
      obtain ⟨hv2, hr2⟩ := at_val k (p := p + 1) (by omega)
      exact ⟨hv2, at_nn _, hr2, fun y => by omega⟩
theorem up_ends (k : F.Ok) : F.up (.zero (-1)) = F.at 1 ∧ F.up (.inf (-1)) = F.at (0 - F.many) ∧ F.up (.inf 1) = .inf 1 ∧ F.down (.inf 1) = F.at F.many ∧ F.up .nan = .nan := by
  have mp := many_pos k
  have e2 : F.up (.inf (-1)) = F.at (0 - F.many) := by
    unfold Fm.up
    have r : F.rank (.inf (-1)) + 1 = 0 - F.many := by
      show -1 * (F.many + 1) + 1 = _
      omega
    rw [if_neg (fun z => by rcases z with z | z <;> cases z), r, if_neg (by omega)]
  refine ⟨?_, e2, if_pos (.inr rfl), ?_, if_pos (.inl rfl)⟩
  · unfold Fm.up
    rw [if_neg (fun z => by rcases z with z | z <;> cases z)]
    rfl
  · show (F.up (.inf (-1))).neg = _
    rw [e2, at_neg k (by omega), show -(0 - F.many) = F.many by omega]
end
end PV

set_option Elab.async false
set_option linter.all false
set_option maxRecDepth 100000
set_option maxHeartbeats 1000000
namespace K05
open PySem PV
abbrev fnRank : D := .fn ⟨#[114, 97, 110, 107]⟩
abbrev fnExact : D := .fn ⟨#[101, 120, 97, 99, 116]⟩
abbrev fnAt : D := .fn ⟨#[97, 116, 95, 114, 97, 110, 107]⟩
abbrev fnCode : D := .fn ⟨#[102, 114, 111, 109, 95, 99, 111, 100, 101]⟩
abbrev fnStep : D := .fn ⟨#[115, 116, 101, 112, 95, 97, 116]⟩
/-- what a turn needs to know -/
structure KF (fe : FE) (I : Ix) (F : Fm) (N : D → Prop) : Prop where
  k : F.Ok
  hm : fe I.how_many [F.d] = PV.ret (.int F.many)
  iv : ∀ v, F.val v → fe I.is_value [F.d, v.d] = PV.ret (.bl true)
  tu : ∀ v : Vl, fe I.turned [v.d] = PV.ret v.neg.d
  sg : ∀ v : Vl, fe I.sign_of [v.d] = PV.ret v.sgD
  fi : ∀ v : Vl, fe I.is_finite [v.d] = PV.ret (.bl v.fin)
  sz : ∀ v : Vl, fe I.sized_value [v.d] = PV.ret v.siz.d
  cn : ∀ v w, F.val v → F.val w → (v = .nan ∨ w = .nan) → fe I.compared [F.d, v.d, w.d] = PV.ret .non
  cm : ∀ v w, F.val v → F.val w → v ≠ .nan → w ≠ .nan → fe I.compared [F.d, v.d, w.d] = PV.ret (.int (if F.rank w < F.rank v then 1 else if F.rank v < F.rank w then -1 else 0))
  nu : ∀ v, F.val v → fe I.next_up [F.d, v.d] = PV.ret (F.up v).d
  nd : ∀ v, F.val v → fe I.next_down [F.d, v.d] = PV.ret (F.down v).d
  rk : ∀ v, F.val v → v ≠ .nan → fe I.rank [F.d, v.d] = PV.ret (.int (F.rank v))
  st : ∀ v w, F.val v → F.val w → v ≠ .nan → w ≠ .nan → fe I.steps_between [F.d, v.d, w.d] = PV.ret (.int (F.rank w - F.rank v))
  ex : ∀ s m e, F.val (.num s m e) → fe I.law_exact [F.d, (Vl.num s m e).d] = PV.ret (.tup [.int (s * m * F.b ^ e.toNat), .int (F.b ^ (-e).toNat)])
  xz : ∀ s, fe I.law_exact [F.d, (Vl.zero s).d] = PV.ret (.tup [.int 0, .int 1])
  co : ∀ v, F.val v → fe I.to_code [F.d, v.d] = PV.ret (.int (F.code v))
  fc : ∀ c, 0 ≤ c → c ≤ 2 * F.many + 4 → fe I.from_code [F.d, .int c] = PV.ret (F.ofCode c).d
  xa : ∀ s m e, F.val (.num s m e) → fe I.exact [F.d, (Vl.num s m e).d] = PV.ret (LW (s * m * F.b ^ e.toNat) (F.b ^ (-e).toNat))
  no : ∀ s m e, F.val (.num s m e) → fe I.number_of [F.d, LW (s * m * F.b ^ e.toNat) (F.b ^ (-e).toNat)] = PV.ret (Vl.num s m e).d
  no0 : fe I.number_of [F.d, .tup [.int 0, .int 1]] = PV.ret (Vl.zero 1).d
  ar : ∀ p : Int, (p.natAbs : Int) ≤ F.many + 1 → fe I.at_rank [F.d, .int p] = PV.ret (F.at p).d
  sp : ∀ s m e, F.val (.num s m e) → fe I.step_at [F.d, (Vl.num s m e).d] = PV.ret (.tup [.int (F.b ^ e.toNat), .int (F.b ^ (-e).toNat)])
  sm : ∀ x, Lv 1 x → fe I.law_same [x, x] = PV.ret (.bl true)
  ra : ∀ n : Int, 0 ≤ n → n ≤ 3000 → fe I.law_raise [.int F.b, .int n] = PV.ret (.int (F.b ^ n.toNat))
  bR : ∀ x, N x → fe I.law_bad [fnRank, F.d, x] = PV.ret (.bl true)
  bX : ∀ x, N x → fe I.law_bad [fnExact, F.d, x] = PV.ret (.bl true)
  bN : fe I.law_bad [fnRank, F.d, Vl.nan.d] = PV.ret (.bl true)
  bI : fe I.law_bad [fnExact, F.d, (Vl.inf 1).d] = PV.ret (.bl true)
  bS : fe I.law_bad [fnStep, F.d, Vl.nan.d] = PV.ret (.bl true)
  bA : ∀ x, x ∈ [D.int (F.many + 2), .int (0 - F.many - 2), .bl true, .non, .str ⟨#[49]⟩] → fe I.law_bad [fnAt, F.d, x] = PV.ret (.bl true)
  bC : ∀ x, x ∈ [D.int (-1), .int (2 * F.many + 5), .bl true, .non] → fe I.law_bad [fnCode, F.d, x] = PV.ret (.bl true)
  nv : ∀ x, N x → fe I.is_value [F.d, x] = PV.ret (.bl false)
section
variable {sub : Sub} {fe : FE} {I : Ix} {F : Fm} {N : D → Prop} {ρ : Rho} {v w : Vl}
theorem lv_i {n : Nat} {i : Int} : Lv n (.int i) := .int
theorem lv_sg (v : Vl) : Lv 1 v.sgD := by cases v <;> constructor
theorem t4 (K : KF fe I F N) (g3 : getV ρ 3 = some F.d) (g5 : getV ρ 5 = some v.d) (hv : F.val v) : evS sub fe (u4 I) ρ = retS (.nx ρ) :=
  qno (por_f (pcmp (pcall (pL1 (pv g3) (pL1 (pv g5) pL0)) (K.iv v hv)) pc rfl)
    (por_f (pne (pcall (pL1 (pcall (pL1 (pv g5) pL0) (K.tu v)) pL0) (K.tu v.neg)) (pv g5) (v_eqs (neg_neg v)))
      (pnot (pcall (pL1 (pcall (pL1 (pv g5) pL0) (K.sg v)) (pL1 (p_sg g5) pL0)) (K.sm _ (lv_sg v))))))
theorem t5 (K : KF fe I F N) (g3 : getV ρ 3 = some F.d) (g5 : getV ρ 5 = some v.d) : evS sub fe (u5 I) ρ = retS (.nx ρ) :=
  qno (por_f (pnot (pcall (pL1 (pcall (pL1 (pv g5) pL0) (K.fi v)) (pL1 (p_fin g5) pL0)) (K.sm _ .bl)))
    (pne (pcall (pL1 (pv g5) pL0) (K.sz v)) (p_siz g5) (v_self _)))
/-- the fraction that a number or nought is -/
theorem fr_of (K : KF fe I F N) (hv : F.val v) (hf : v.fin = true) : ∃ p q, fe I.law_exact [F.d, v.d] = PV.ret (.tup [.int p, .int q]) ∧ Sz (Kb F.b F.l) (Lb F.b F.l) p q (v.zz F.b F.l) ∧ Bd p 5700 ∧ Bd q 5001 := by
  cases v with
  | num s m e =>
    refine ⟨_, _, K.ex s m e hv, num_sz (bd_b K.k).2 hv.2.e1 s, ?_, (bd_e K.k (e_le K.k hv)).2⟩
    exact (((Bd.sg hv.1).mul (bd_m K.k hv)).mul (bd_e K.k (e_le K.k hv)).1).mono (by omega)
  | zero s => exact ⟨0, 1, K.xz s, zero_sz, (show Bd 0 1 by unfold Bd; decide).mono (by omega), Bd.one.mono (by omega)⟩
  | inf s => cases hf
  | nan => cases hf
/-- but for some slots, the same -/
structure Keep (is : List Nat) (ρ ρ' : Rho) : Prop where
  len : ρ'.length = ρ.length
  get : ∀ j, j ∉ is → getV ρ' j = getV ρ j
theorem Keep.refl {is : List Nat} (ρ : Rho) : Keep is ρ ρ := ⟨rfl, fun _ _ => rfl⟩
theorem Keep.set {is : List Nat} {ρ ρ' : Rho} (h : Keep is ρ ρ') {i : Nat} {s : Slot} (hi : i ∈ is) : Keep is ρ (ρ'.set i s) :=
  ⟨by rw [List.length_set]; exact h.len, fun j hj => by rw [getV_set_ne (fun z : i = j => hj (by rw [← z]; exact hi)), h.get j hj]⟩
theorem eq_dec {p q : Prop} [Decidable p] [Decidable q] (h : p ↔ q) : eqD (.bl (decide p)) (.bl (decide q)) = some true := by
  rw [show decide p = decide q from decide_eq_decide.mpr h]
  exact eq_bl
theorem t6 (K : KF fe I F N) (hl : ρ.length = 28) (g3 : getV ρ 3 = some F.d) (g5 : getV ρ 5 = some v.d) (g6 : getV ρ 6 = some w.d) (hv : F.val v) (hw : F.val w) : ∃ ρ', evS sub fe (u6 I) ρ = retS (.nx ρ') ∧ Keep [7, 8, 9, 10, 11, 12] ρ ρ' := by
  by_cases hn : v = .nan ∨ w = .nan
  · refine ⟨ρ, ?_, Keep.refl ρ⟩
    have c : evE fe (.or (.cmp .eq (.var 5) (.tup [(.c (.str ⟨#[110, 97, 110]⟩))])) (.cmp .eq (.var 6) (.tup [(.c (.str ⟨#[110, 97, 110]⟩))]))) ρ = PV.ret (.bl true) := by
      by_cases q : v = .nan
      · have z := p_isnan (fe := fe) g5
        rw [decide_eq_true q] at z
        exact por_t z
      · have z := p_isnan (fe := fe) g5
        rw [decide_eq_false q] at z
        have z2 := p_isnan (fe := fe) g6
        rw [decide_eq_true (hn.resolve_left q)] at z2
        exact por_f z z2
    unfold u6
    rw [qif_t c]
    have nanE : evE fe (.tup [(.c (.str ⟨#[110, 97, 110]⟩))]) ρ = PV.ret Vl.nan.d := ptup (pL1 pc pL0) (by simp)
    refine (qs1 (qno (por_f (pcmp (pcall (pL1 (pv g3) (pL1 (pv g5) (pL1 (pv g6) pL0))) (K.cn v w hv hw hn)) pc rfl)
      (por_f (pnot (pcall (pL1 pc (pL1 (pv g3) (pL1 nanE pL0))) K.bN)) (pne (pcall (pL1 (pv g3) (pL1 nanE pL0)) (K.nu .nan trivial)) nanE (v_eqs (up_ends K.k).2.2.2.2)))))).trans evSs_nil
  · have nv : v ≠ .nan := fun z => hn (.inl z)
    have nw : w ≠ .nan := fun z => hn (.inr z)
    have c : evE fe (.or (.cmp .eq (.var 5) (.tup [(.c (.str ⟨#[110, 97, 110]⟩))])) (.cmp .eq (.var 6) (.tup [(.c (.str ⟨#[110, 97, 110]⟩))]))) ρ = PV.ret (.bl false) := by
      have z := p_isnan (fe := fe) g5
      rw [decide_eq_false nv] at z
      have z2 := p_isnan (fe := fe) g6
      rw [decide_eq_false nw] at z2
      exact por_f z z2
    generalize hρ1 : (ρ.set 7 (.v (.int (F.rank v)))).set 8 (.v (.int (F.rank w))) = ρ1
    have k1 : Keep [7, 8, 9, 10, 11, 12] ρ ρ1 := by rw [← hρ1]; exact ((Keep.refl ρ).set (by decide)).set (by decide)
    have h3 := (k1.get 3 (by decide)).trans g3
    have h5 := (k1.get 5 (by decide)).trans g5
    have h6 := (k1.get 6 (by decide)).trans g6
    have h7 : getV ρ1 7 = some (.int (F.rank v)) := by rw [← hρ1, getV_set_ne (by decide), getV_set_eq (by omega)]
    have h8 : getV ρ1 8 = some (.int (F.rank w)) := by rw [← hρ1, getV_set_eq (by rw [List.length_set]; omega)]
    have l1 : ρ1.length = 28 := k1.len.trans hl
    unfold u6
    rw [qif_f c, qs1 (qunp (ρ' := ρ1) (ptup (pL1 (pcall (pL1 (pv g3) (pL1 (pv g5) pL0)) (K.rk v hv nv)) (pL1 (pcall (pL1 (pv g3) (pL1 (pv g6) pL0)) (K.rk w hw nw)) pL0)) (by simp)) (by rw [← hρ1]; rfl))]
    have e1 : evE fe (.ifx (.cmp .gt (.var 7) (.var 8)) (.c (.int 1)) (.ifx (.cmp .lt (.var 7) (.var 8)) (.neg (.c (.int 1))) (.c (.int 0)))) ρ1 = PV.ret (.int (if F.rank w < F.rank v then 1 else if F.rank v < F.rank w then -1 else 0)) := by
      refine pifx (pcmp (pv h7) (pv h8) (show cmpD .gt (.int (F.rank v)) (.int (F.rank w)) = some (decide (F.rank w < F.rank v)) from rfl)) (fun z => ?_) (fun z => ?_)
      · rw [if_pos (of_decide_eq_true z)]; exact pc
      · rw [if_neg (of_decide_eq_false z)]
        refine pifx (pcmp (pv h7) (pv h8) (show cmpD .lt (.int (F.rank v)) (.int (F.rank w)) = some (decide (F.rank v < F.rank w)) from rfl)) (fun z => ?_) (fun z => ?_)
        · rw [if_pos (of_decide_eq_true z)]; exact pneg pc
        · rw [if_neg (of_decide_eq_false z)]; exact pc
    rw [qs1 (qno (por_f (pnot (pcall (pL1 (pcall (pL1 (pv h3) (pL1 (pv h5) (pL1 (pv h6) pL0))) (K.cm v w hv hw nv nw)) (pL1 e1 pL0)) (K.sm _ .int))) (pnot (pcall (pL1 (pcall (pL1 (pv h3) (pL1 (pv h5) (pL1 (pv h6) pL0))) (K.st v w hv hw nv nw)) (pL1 (pbin (pv h8) (pv h7) rfl) pL0)) (K.sm _ .int)))))]
    by_cases hf : v.fin = true ∧ w.fin = true
    · obtain ⟨p, q, x1, z1, b1, b2⟩ := fr_of K hv hf.1
      obtain ⟨p', q', x2, z2, c1, c2⟩ := fr_of K hw hf.2
      generalize hρ2 : (((ρ1.set 9 (.v (.tup [.int p, .int q]))).set 10 (.v (.tup [.int p', .int q']))).set 11 (.v (.int (p * q')))).set 12 (.v (.int (p' * q))) = ρ2
      have k2 : Keep [7, 8, 9, 10, 11, 12] ρ ρ2 := by rw [← hρ2]; exact (((k1.set (by decide)).set (by decide)).set (by decide)).set (by decide)
      refine ⟨ρ2, ?_, k2⟩
      have f1 : evE fe (.and (.cmp .in_ (.idx (.var 5) (.c (.int 0))) (.lst [(.c (.str ⟨#[110, 117, 109]⟩)), (.c (.str ⟨#[122, 101, 114, 111]⟩))])) (.cmp .in_ (.idx (.var 6) (.c (.int 0))) (.lst [(.c (.str ⟨#[110, 117, 109]⟩)), (.c (.str ⟨#[122, 101, 114, 111]⟩))]))) ρ1 = PV.ret (.bl true) := by
        have a := p_fin (fe := fe) h5
        have b := p_fin (fe := fe) h6
        rw [hf.1] at a
        rw [hf.2] at b
        exact pand_t a b
      have m1 : mulOk p q' = true := b1.mulOk c2 (by omega)
      have m2 : mulOk p' q = true := c1.mulOk b2 (by omega)
      have hK : 0 < Kb F.b F.l := Int.pow_pos (bd_b K.k).2
      have hL : 0 < Lb F.b F.l := Int.pow_pos (bd_b K.k).2
      have lt1 : p' * q < p * q' ↔ F.rank w < F.rank v := (Sz.lt hK hL z2 z1).trans (zz_iff (fp K.k) hw hv hf.2 hf.1)
      have eq1 : p * q' = p' * q ↔ F.rank v = F.rank w := (Sz.eq hK hL z1 z2).trans (zz_eq (fp K.k) hv hw hf.1 hf.2)
      refine (qs1 ?_).trans evSs_nil
      rw [qif_t f1, qs1 (qunp (ρ' := (ρ1.set 9 (.v (.tup [.int p, .int q]))).set 10 (.v (.tup [.int p', .int q']))) (ptup (pL1 (pcall (pL1 (pv h3) (pL1 (pv h5) pL0)) x1) (pL1 (pcall (pL1 (pv h3) (pL1 (pv h6) pL0)) x2) pL0)) (by simp)) rfl)]
      have i9 : getV ((ρ1.set 9 (.v (.tup [.int p, .int q]))).set 10 (.v (.tup [.int p', .int q']))) 9 = some (.tup [.int p, .int q]) := by rw [getV_set_ne (by decide), getV_set_eq (by omega)]
      have i10 : getV ((ρ1.set 9 (.v (.tup [.int p, .int q]))).set 10 (.v (.tup [.int p', .int q']))) 10 = some (.tup [.int p', .int q']) := getV_set_eq (by rw [List.length_set]; omega)
      rw [qs1 (qunp (ρ' := ρ2) (ptup (pL1 (pmul (pidx (pv i9) pc rfl) (pidx (pv i10) pc rfl) m1) (pL1 (pmul (pidx (pv i10) pc rfl) (pidx (pv i9) pc rfl) m2) pL0)) (by simp)) (by rw [← hρ2]; rfl))]
      have l2 : ρ2.length = 28 := k2.len.trans hl
      have j7 : getV ρ2 7 = some (.int (F.rank v)) := by rw [← hρ2, getV_set_ne (by decide), getV_set_ne (by decide), getV_set_ne (by decide), getV_set_ne (by decide), h7]
      have j8 : getV ρ2 8 = some (.int (F.rank w)) := by rw [← hρ2, getV_set_ne (by decide), getV_set_ne (by decide), getV_set_ne (by decide), getV_set_ne (by decide), h8]
      have j11 : getV ρ2 11 = some (.int (p * q')) := by rw [← hρ2, getV_set_ne (by decide), getV_set_eq (by simp [l1])]
      have j12 : getV ρ2 12 = some (.int (p' * q)) := by rw [← hρ2, getV_set_eq (by simp [l1])]
      exact (qs1 (qno (por_f (pne (pcmp (pv j11) (pv j12) (show cmpD .gt (.int (p * q')) (.int (p' * q)) = some (decide (p' * q < p * q')) from rfl)) (pcmp (pv j7) (pv j8) (show cmpD .gt (.int (F.rank v)) (.int (F.rank w)) = some (decide (F.rank w < F.rank v)) from rfl)) (eq_dec lt1))
        (pne (pcmp (pv j11) (pv j12) (show cmpD .eq (.int (p * q')) (.int (p' * q)) = some (decide (p * q' = p' * q)) from rfl)) (pcmp (pv j7) (pv j8) (show cmpD .eq (.int (F.rank v)) (.int (F.rank w)) = some (decide (F.rank v = F.rank w)) from rfl)) (eq_dec eq1))))).trans evSs_nil
    · refine ⟨ρ1, ?_, k1⟩
      have f1 : evE fe (.and (.cmp .in_ (.idx (.var 5) (.c (.int 0))) (.lst [(.c (.str ⟨#[110, 117, 109]⟩)), (.c (.str ⟨#[122, 101, 114, 111]⟩))])) (.cmp .in_ (.idx (.var 6) (.c (.int 0))) (.lst [(.c (.str ⟨#[110, 117, 109]⟩)), (.c (.str ⟨#[122, 101, 114, 111]⟩))]))) ρ1 = PV.ret (.bl false) := by
        have a := p_fin (fe := fe) h5
        have b := p_fin (fe := fe) h6
        by_cases q : v.fin = true
        · rw [q] at a
          rw [show w.fin = false by simpa using fun z => hf ⟨q, z⟩] at b
          exact pand_t a b
        · rw [show v.fin = false by simpa using q] at a
          exact pand_f a
      exact (qs1 (qno f1)).trans evSs_nil
end
end K05

set_option Elab.async false
set_option linter.all false
set_option maxRecDepth 100000
set_option maxHeartbeats 1000000
namespace K05
open PySem PV
section
variable {sub : Sub} {fe : FE} {I : Ix} {F : Fm} {N : D → Prop} {ρ : Rho} {v w : Vl}
theorem mm2 (k : F.Ok) : mulOk 2 F.many = true := (show Bd 2 2 by unfold Bd; decide).mulOk (bd_many k) (by omega)
theorem p_2m (k : F.Ok) (g4 : getV ρ 4 = some (.int F.many)) (j : Int) : evE fe (.bin .add (.bin .mul (.c (.int 2)) (.var 4)) (.c (.int j))) ρ = PV.ret (.int (2 * F.many + j)) :=
  pbin (pmul pc (pv g4) (mm2 k)) pc rfl
theorem t8 (K : KF fe I F N) (g3 : getV ρ 3 = some F.d) (g4 : getV ρ 4 = some (.int F.many)) (g5 : getV ρ 5 = some v.d) (g13 : getV ρ 13 = some (.int (F.code v))) (hv : F.val v) : evS sub fe (u8 I) ρ = retS (.nx ρ) := by
  obtain ⟨c1, c2, c3, c4⟩ := code_ok K.k hv
  have e1 : evE fe (.chain .le .le (.c (.int 0)) (.var 13) (.bin .add (.bin .mul (.c (.int 2)) (.var 4)) (.c (.int 4)))) ρ = PV.ret (.bl (true && true)) :=
    pchain pc (pv g13) (p_2m K.k g4 4) (show some (decide (0 ≤ F.code v)) = some true by rw [decide_eq_true c2]) (show some (decide (F.code v ≤ 2 * F.many + 4)) = some true by rw [decide_eq_true c3])
  have e2 : evE fe (.cmp .ne (.var 5) (.tup [(.c (.str ⟨#[110, 97, 110]⟩))])) ρ = PV.ret (.bl (decide (v ≠ .nan))) := by
    have z := pcmp (o := .ne) (fe := fe) (pv g5) (ptup (pL1 (x := .str ⟨#[110, 97, 110]⟩) pc pL0) (by simp)) (cmp_ne_of (v_eqD v .nan))
    rw [z]
    by_cases q : v = .nan <;> simp [q]
  have e3 : evE fe (.cmp .lt (.var 13) (.bin .add (.bin .mul (.c (.int 2)) (.var 4)) (.c (.int 4)))) ρ = PV.ret (.bl (decide (F.code v < 2 * F.many + 4))) := pcmp (pv g13) (p_2m K.k g4 4) rfl
  exact qno (por_f (pne (pcall (pL1 (pv g3) (pL1 (pv g13) pL0)) (K.fc _ c2 c3)) (pv g5) (v_eqs c1)) (por_f (pnot e1) (pne e2 e3 (eq_dec c4))))
theorem t9 (K : KF fe I F N) (hl : ρ.length = 28) (g3 : getV ρ 3 = some F.d) (g5 : getV ρ 5 = some v.d) (hv : F.val v) : ∃ ρ', evS sub fe (u9 I) ρ = retS (.nx ρ') ∧ Keep [14, 15, 16, 17] ρ ρ' := by
  have c := p_isnum (fe := fe) g5
  by_cases hn : v.isNum = true
  · rw [hn] at c
    obtain ⟨s, m, e, rfl⟩ : ∃ s m e, v = .num s m e := by
      cases v with
      | num s m e => exact ⟨s, m, e, rfl⟩
      | _ => cases hn
    have k := K.k
    have he := e_le k hv
    have b0 := (bd_b k).2
    generalize hp : s * m * F.b ^ e.toNat = p
    generalize hq : F.b ^ (-e).toNat = q
    have q0 : 0 < q := by rw [← hq]; exact Int.pow_pos b0
    have bp : Bd p 5700 := by rw [← hp]; exact (((Bd.sg hv.1).mul (bd_m k hv)).mul (bd_e k he).1).mono (by omega)
    have bq : Bd q 5001 := by rw [← hq]; exact (bd_e k he).2
    have ex := K.ex s m e hv
    have xa := K.xa s m e hv
    have no := K.no s m e hv
    rw [hp, hq] at ex xa no
    obtain ⟨w1, w2, w3⟩ := lw_mul (x := p) q0
    have bA := lw_bd q0 bp
    have bB := lw_bdB (x := p) q0 bq
    have g0 := gcd_pos (x := p) q0
    have cross : lwA p q * q = p * lwB p q := by
      rw [← Int.mul_eq_mul_right_iff (c := ((Int.gcd p q : Nat) : Int)) (by omega)]
      calc lwA p q * q * (Int.gcd p q : Nat) = (lwA p q * (Int.gcd p q : Nat)) * q := by rw [Int.mul_assoc, Int.mul_comm q, ← Int.mul_assoc]
        _ = p * (lwB p q * (Int.gcd p q : Nat)) := by rw [w1, w2]
        _ = _ := by rw [Int.mul_assoc]
    have xn := K.xa (-s) m e (neg_ok hv)
    have hpn : -s * m * F.b ^ e.toNat = -p := by rw [Int.neg_mul, Int.neg_mul, hp]
    rw [hpn, hq] at xn
    have ln := lw_neg p q
    have tu := K.tu (.num s m e)
    have xn : fe I.exact [F.d, (Vl.num s m e).neg.d] = PV.ret (LW (-p) q) := xn
    have vd : idxD (Vl.num s m e).d (.int 3) = some (.int e) := rfl
    generalize hρ1 : (ρ.set 14 (.v (.int p))).set 15 (.v (.int q)) = ρ1
    have k1 : Keep [14, 15, 16, 17] ρ ρ1 := by rw [← hρ1]; exact ((Keep.refl ρ).set (by decide)).set (by decide)
    have l1 : ρ1.length = 28 := k1.len.trans hl
    generalize hρ2 : ρ1.set 16 (.v (LW p q)) = ρ2
    have k2 : Keep [14, 15, 16, 17] ρ ρ2 := by rw [← hρ2]; exact k1.set (by decide)
    have l2 : ρ2.length = 28 := k2.len.trans hl
    have h3 := (k2.get 3 (by decide)).trans g3
    have h5 := (k2.get 5 (by decide)).trans g5
    have h14 : getV ρ2 14 = some (.int p) := by rw [← hρ2, getV_set_ne (by decide), ← hρ1, getV_set_ne (by decide), getV_set_eq (by omega)]
    have h15 : getV ρ2 15 = some (.int q) := by rw [← hρ2, getV_set_ne (by decide), ← hρ1, getV_set_eq (by rw [List.length_set]; omega)]
    have h16 : getV ρ2 16 = some (LW p q) := by rw [← hρ2, getV_set_eq (by omega)]
    generalize hρ3 : ρ2.set 17 (.v (.tup [.int (F.b ^ e.toNat), .int q])) = ρ3
    have k3 : Keep [14, 15, 16, 17] ρ ρ3 := by rw [← hρ3]; exact k2.set (by decide)
    refine ⟨ρ3, ?_, k3⟩
    have i3 := (k3.get 3 (by decide)).trans g3
    have i5 := (k3.get 5 (by decide)).trans g5
    have i17 : getV ρ3 17 = some (.tup [.int (F.b ^ e.toNat), .int q]) := by rw [← hρ3, getV_set_eq (by omega)]
    have sp := K.sp s m e hv
    rw [hq] at sp
    have m1 : mulOk (lwA p q) q = true := bA.mulOk bq (by omega)
    have m2 : mulOk p (lwB p q) = true := bp.mulOk bB (by omega)
    have be := (bd_e k he).1
    have rk := K.rk _ hv (fun z => by cases z)
    have ar : F.at (F.rank (.num s m e)) = .num s m e := atR_rank (fp k) hv
    have rl : ((F.rank (.num s m e)).natAbs : Int) ≤ F.many + 1 := rank_le (fp k) hv
    generalize (Vl.num s m e).neg.d = nd at tu xn
    unfold u9
    rw [qif_t c, qs1 (qunp (ρ' := ρ1) (pcall (pL1 (pv g3) (pL1 (pv g5) pL0)) ex) (by rw [← hρ1]; rfl))]
    rw [qs1 (qasg (pcall (pL1 (pv ((k1.get 3 (by decide)).trans g3)) (pL1 (pv ((k1.get 5 (by decide)).trans g5)) pL0)) xa)), hρ2]
    have e1 : evE fe (.tup [(.bin .sub (.c (.int 0)) (.idx (.var 16) (.c (.int 0)))), (.idx (.var 16) (.c (.int 1)))]) ρ2 = PV.ret (.tup [.int (0 - lwA p q), .int (lwB p q)]) :=
      ptup (pL1 (pbin pc (pidx (pv h16) pc rfl) rfl) (pL1 (pidx (pv h16) pc rfl) pL0)) (by simp)
    have e2 : eqD (LW (-p) q) (.tup [.int (0 - lwA p q), .int (lwB p q)]) = some true := by
      rw [pair_eq, decide_eq_true ⟨by rw [ln.1]; omega, ln.2⟩]
    rw [qs1 (qno (por_f (pne (pmul (pidx (pv h16) pc rfl) (pv h15) m1) (pmul (pv h14) (pidx (pv h16) pc rfl) m2) (show some (decide _) = some true by rw [decide_eq_true cross]))
      (por_f (pne (pcall (pL1 (pv h3) (pL1 (pv h16) pL0)) no) (pv h5) (v_self _))
        (por_f (pne (pcall (pL1 (pv h3) (pL1 (pcall (pL1 (pv h3) (pL1 (pv h5) pL0)) rk) pL0)) (K.ar _ rl)) (pv h5) (v_eqs ar))
          (pne (pcall (pL1 (pv h3) (pL1 (pcall (pL1 (pv h5) pL0) tu) pL0)) xn) e1 e2)))))]
    rw [qs1 (qasg (pcall (pL1 (pv h3) (pL1 (pv h5) pL0)) sp)), hρ3]
    have r1 := K.ra ((0 - e).toNat : Int) (by omega) (by omega)
    have r2 := K.ra (e.toNat : Int) (by omega) (by omega)
    rw [Int.toNat_natCast] at r1 r2
    rw [show (0 - e).toNat = (-e).toNat by omega, hq] at r1
    have n1 : mulOk (F.b ^ e.toNat) q = true := be.mulOk bq (by omega)
    have n2 : mulOk q (F.b ^ e.toNat) = true := bq.mulOk be (by omega)
    have a1 : evE fe (.call I.law_raise [(.idx (.var 3) (.c (.int 0))), (.max (.c (.int 0)) (.bin .sub (.c (.int 0)) (.idx (.var 5) (.c (.int 3)))))] []) ρ3 = PV.ret (.int q) :=
      pcall (pL1 (pidx (pv i3) pc rfl) (pL1 (pmax0 (pbin pc (pidx (pv i5) pc vd) rfl)) pL0)) (by rw [show (0 - e).toNat = (-e).toNat by omega]; exact r1)
    have a2 : evE fe (.call I.law_raise [(.idx (.var 3) (.c (.int 0))), (.max (.c (.int 0)) (.idx (.var 5) (.c (.int 3))))] []) ρ3 = PV.ret (.int (F.b ^ e.toNat)) :=
      pcall (pL1 (pidx (pv i3) pc rfl) (pL1 (pmax0 (pidx (pv i5) pc vd)) pL0)) r2
    rw [qs1 (qno (pne (pmul (pidx (pv i17) pc rfl) a1 n1) (pmul (pidx (pv i17) pc rfl) a2 n2) (show some (decide _) = some true by rw [decide_eq_true (Int.mul_comm _ _)]))), evSs_nil]
  · rw [show v.isNum = false by simpa using hn] at c
    exact ⟨ρ, qno c, Keep.refl ρ⟩
theorem t13 {p : Int} (K : KF fe I F N) (hp : (p.natAbs : Int) ≤ F.many + 1) (g3 : getV ρ 3 = some F.d) (g4 : getV ρ 4 = some (.int F.many)) (g18 : getV ρ 18 = some (.int p)) (g19 : getV ρ 19 = some (F.at p).d) (g20 : getV ρ 20 = some (F.up (F.at p)).d) : evS sub fe (u13 I) ρ = retS (.nx ρ) := by
  obtain ⟨hv, hr⟩ := at_val K.k hp
  obtain ⟨u1, u2, u3, u4⟩ := up_at K.k hp
  have rk1 := K.rk _ hv (at_nn p)
  have rk2 := K.rk _ u1 u2
  rw [hr] at rk1
  rw [u3] at rk2
  have dn : F.down (F.at p).neg = (F.up (F.at p)).neg := by unfold Fm.down; rw [neg_neg]
  have nd := K.nd _ (neg_ok hv)
  rw [dn] at nd
  have tu1 := K.tu (F.at p)
  have tu2 := K.tu (F.up (F.at p))
  have e1 : evE fe (.and (.cmp .eq (.var 18) (.neg (.c (.int 1)))) (.cmp .ne (.var 20) (.tup [(.c (.str ⟨#[122, 101, 114, 111]⟩)), (.neg (.c (.int 1)))]))) ρ = PV.ret (.bl false) := by
    by_cases q : p = -1
    · refine pand_t (pcmp (pv g18) (pneg pc) (show some (decide (p = -1)) = some true by rw [decide_eq_true q])) (pne (pv g20) (ptup (pL1 pc (pL1 (pneg pc) pL0)) (by simp)) ?_)
      rw [u4 q]
      exact v_self (.zero (-1))
    · exact pand_f (pcmp (pv g18) (pneg pc) (show some (decide (p = -1)) = some false by rw [decide_eq_false q]))
  refine qno (por_f (pne (pcall (pL1 (pv g3) (pL1 (pv g19) pL0)) rk1) (pv g18) (show some (decide _) = some true by rw [decide_eq_true rfl]))
    (por_f (pne (pcall (pL1 (pv g3) (pL1 (pv g20) pL0)) rk2) (pmin (pbin (pv g18) pc rfl) (pbin (pv g4) pc rfl) rfl) (show some (decide _) = some true by rw [decide_eq_true rfl]))
      (por_f e1 (pne (pcall (pL1 (pv g3) (pL1 (pcall (pL1 (pv g19) pL0) tu1) pL0)) nd) (pcall (pL1 (pv g20) pL0) tu2) (v_self _)))))
theorem t14 (K : KF fe I F N) (g3 : getV ρ 3 = some F.d) (g4 : getV ρ 4 = some (.int F.many)) : evS sub fe (u14 I) ρ = retS (.nx ρ) := by
  have mp := many_pos K.k
  obtain ⟨e1, e2, e3, e4, e5⟩ := up_ends K.k
  have zE : evE fe (.tup [(.c (.str ⟨#[122, 101, 114, 111]⟩)), (.neg (.c (.int 1)))]) ρ = PV.ret (Vl.zero (-1)).d := ptup (pL1 pc (pL1 (pneg pc) pL0)) (by simp)
  have iE : evE fe (.tup [(.c (.str ⟨#[105, 110, 102]⟩)), (.neg (.c (.int 1)))]) ρ = PV.ret (Vl.inf (-1)).d := ptup (pL1 pc (pL1 (pneg pc) pL0)) (by simp)
  have jE : evE fe (.tup [(.c (.str ⟨#[105, 110, 102]⟩)), (.c (.int 1))]) ρ = PV.ret (Vl.inf 1).d := ptup (pL1 pc (pL1 pc pL0)) (by simp)
  exact qno (por_f (pne (pcall (pL1 (pv g3) (pL1 zE pL0)) (K.nu (.zero (-1)) (.inr rfl))) (pcall (pL1 (pv g3) (pL1 pc pL0)) (K.ar 1 (by omega))) (v_eqs e1))
    (por_f (pne (pcall (pL1 (pv g3) (pL1 iE pL0)) (K.nu (.inf (-1)) (.inr rfl))) (pcall (pL1 (pv g3) (pL1 (pbin pc (pv g4) rfl) pL0)) (K.ar (0 - F.many) (by omega))) (v_eqs e2))
      (pne (pcall (pL1 (pv g3) (pL1 jE pL0)) (K.nu (.inf 1) (.inl rfl))) jE (v_eqs e3))))
theorem t15 (K : KF fe I F N) (g3 : getV ρ 3 = some F.d) (g4 : getV ρ 4 = some (.int F.many)) : evS sub fe (u15 I) ρ = retS (.nx ρ) := by
  have mp := many_pos K.k
  have jE : evE fe (.tup [(.c (.str ⟨#[105, 110, 102]⟩)), (.c (.int 1))]) ρ = PV.ret (Vl.inf 1).d := ptup (pL1 pc (pL1 pc pL0)) (by simp)
  exact qno (pne (pcall (pL1 (pv g3) (pL1 jE pL0)) (K.nd (.inf 1) (.inl rfl))) (pcall (pL1 (pv g3) (pL1 (pv g4) pL0)) (K.ar F.many (by omega))) (v_eqs (up_ends K.k).2.2.2.1))
theorem t25 (K : KF fe I F N) (g3 : getV ρ 3 = some F.d) : evS sub fe (u25 I) ρ = retS (.nx ρ) := by
  have jE : evE fe (.tup [(.c (.str ⟨#[105, 110, 102]⟩)), (.c (.int 1))]) ρ = PV.ret (Vl.inf 1).d := ptup (pL1 pc (pL1 pc pL0)) (by simp)
  have nE : evE fe (.tup [(.c (.str ⟨#[110, 97, 110]⟩))]) ρ = PV.ret Vl.nan.d := ptup (pL1 pc pL0) (by simp)
  have zE : evE fe (.tup [(.c (.str ⟨#[122, 101, 114, 111]⟩)), (.c (.int 1))]) ρ = PV.ret (Vl.zero 1).d := ptup (pL1 pc (pL1 pc pL0)) (by simp)
  exact qno (por_f (pnot (pcall (pL1 pc (pL1 (pv g3) (pL1 jE pL0))) K.bI)) (por_f (pnot (pcall (pL1 pc (pL1 (pv g3) (pL1 nE pL0))) K.bS))
    (pne (pcall (pL1 (pv g3) (pL1 (ptup (pL1 pc (pL1 pc pL0)) (by simp)) pL0)) K.no0) zE (v_self _))))
/-- walks over what is refused -/
theorem for_keep {i : Nat} {it : E} {xs : List D} {body : List S} (hi : evE fe it ρ = PV.ret (.lst xs)) (hb : ∀ x ∈ xs, evSs sub fe body (ρ.set i (.v x)) = retS (.nx (ρ.set i (.v x)))) :
    ∃ w, evS sub fe (.for_ (.one i) it body) ρ = retS (.nx (ρ.set i w)) ∨ evS sub fe (.for_ (.one i) it body) ρ = retS (.nx ρ) := by
  have z : ∀ (xs : List D) (ρ1 : Rho), (∀ x ∈ xs, evSs sub fe body (ρ.set i (.v x)) = retS (.nx (ρ.set i (.v x)))) → (ρ1 = ρ ∨ ∃ w, ρ1 = ρ.set i w) → ∃ w, forM (.one i) (fun ρ => evSs sub fe body ρ) xs ρ1 = retS (.nx (ρ.set i w)) ∨ forM (.one i) (fun ρ => evSs sub fe body ρ) xs ρ1 = retS (.nx ρ) := by
    intro xs
    induction xs with
    | nil =>
      intro ρ1 _ h1
      rcases h1 with rfl | ⟨w, rfl⟩
      · exact ⟨.u, .inr rfl⟩
      · exact ⟨w, .inl rfl⟩
    | cons x xs ih =>
      intro ρ1 hx h1
      have hb := hx x List.mem_cons_self
      have e : ρ1.set i (.v x) = ρ.set i (.v x) := by
        rcases h1 with rfl | ⟨w, rfl⟩
        · rfl
        · rw [List.set_set]
      obtain ⟨w, e2⟩ := ih (ρ.set i (.v x)) (fun y hy => hx y (List.mem_cons_of_mem _ hy)) (.inr ⟨_, rfl⟩)
      refine ⟨w, ?_⟩
      rw [forM_go (t := .one i) (ρ := ρ1) (ρ1 := ρ.set i (.v x)) (ρ2 := ρ.set i (.v x)) (show some (ρ1.set i (.v x)) = _ by rw [e]) hb]
      exact e2
  obtain ⟨w, h⟩ := z xs ρ hb (.inl rfl)
  refine ⟨w, ?_⟩
  have e : evS sub fe (.for_ (.one i) it body) ρ = forM (.one i) (fun ρ => evSs sub fe body ρ) xs ρ := by
    rw [evS, hi, ret_bind]
    rfl
  rw [e]
  exact h
theorem for_k {is : List Nat} {i : Nat} {it : E} {xs : List D} {body : List S} (hm : i ∈ is) (hi : evE fe it ρ = PV.ret (.lst xs)) (hb : ∀ x ∈ xs, evSs sub fe body (ρ.set i (.v x)) = retS (.nx (ρ.set i (.v x)))) :
    ∃ ρ', evS sub fe (.for_ (.one i) it body) ρ = retS (.nx ρ') ∧ Keep is ρ ρ' := by
  obtain ⟨w, h⟩ := for_keep hi hb
  rcases h with h | h
  · exact ⟨_, h, (Keep.refl ρ).set hm⟩
  · exact ⟨_, h, Keep.refl ρ⟩
theorem t22 (K : KF fe I F N) {xs : List D} (hl : ρ.length = 28) (g3 : getV ρ 3 = some F.d) (g26 : getV ρ 26 = some (.lst xs)) (hx : ∀ x ∈ xs, N x) : ∃ ρ', evS sub fe (u22 I) ρ = retS (.nx ρ') ∧ Keep [27] ρ ρ' :=
  for_k (by decide) (pv g26) fun x hm => by
    have h3 : getV (ρ.set 27 (.v x)) 3 = some F.d := by rw [getV_set_ne (by decide), g3]
    have h27 : getV (ρ.set 27 (.v x)) 27 = some x := getV_set_eq (by omega)
    have n := hx x hm
    exact (qs1 (qno (por_f (pcmp (pcall (pL1 (pv h3) (pL1 (pv h27) pL0)) (K.nv x n)) pc rfl) (por_f (pnot (pcall (pL1 pc (pL1 (pv h3) (pL1 (pv h27) pL0))) (K.bR x n))) (pnot (pcall (pL1 pc (pL1 (pv h3) (pL1 (pv h27) pL0))) (K.bX x n))))))).trans evSs_nil
theorem t23 (K : KF fe I F N) (hl : ρ.length = 28) (g3 : getV ρ 3 = some F.d) (g4 : getV ρ 4 = some (.int F.many)) : ∃ ρ', evS sub fe (u23 I) ρ = retS (.nx ρ') ∧ Keep [27] ρ ρ' :=
  for_k (by decide) (plst (pL1 (pbin (pv g4) pc rfl) (pL1 (pbin (pbin pc (pv g4) rfl) pc rfl) (pL1 pc (pL1 pc (pL1 pc pL0))))) (by simp)) fun x hm => by
    have h3 : getV (ρ.set 27 (.v x)) 3 = some F.d := by rw [getV_set_ne (by decide), g3]
    have h27 : getV (ρ.set 27 (.v x)) 27 = some x := getV_set_eq (by omega)
    exact (qs1 (qno (pnot (pcall (pL1 pc (pL1 (pv h3) (pL1 (pv h27) pL0))) (K.bA x hm))))).trans evSs_nil
theorem t24 (K : KF fe I F N) (hl : ρ.length = 28) (g3 : getV ρ 3 = some F.d) (g4 : getV ρ 4 = some (.int F.many)) : ∃ ρ', evS sub fe (u24 I) ρ = retS (.nx ρ') ∧ Keep [27] ρ ρ' :=
  for_k (by decide) (plst (pL1 (pneg pc) (pL1 (p_2m K.k g4 5) (pL1 pc (pL1 pc pL0)))) (by simp)) fun x hm => by
    have h3 : getV (ρ.set 27 (.v x)) 3 = some F.d := by rw [getV_set_ne (by decide), g3]
    have h27 : getV (ρ.set 27 (.v x)) 27 = some x := getV_set_eq (by omega)
    exact (qs1 (qno (pnot (pcall (pL1 pc (pL1 (pv h3) (pL1 (pv h27) pL0))) (K.bC x hm))))).trans evSs_nil
end
end K05

set_option Elab.async false
set_option linter.all false
set_option maxRecDepth 100000
set_option maxHeartbeats 1000000
namespace K05
open PySem PV
theorem kf {F : Fm} (k : F.Ok) : KF (evFn sb tb 29) ix F (NV sb tb ix F) where
  k := k
  hm := how_many_ok (d := 25) core.toCore rfl k
  iv := fun v hv => is_value_ok (d := 25) core.toCoreV k hv
  tu := fun v => turned_ok (d := 28) rfl
  sg := fun v => by
    have z := sign_of_ok (sub := sb) (tb := tb) (I := ix) (d := 28) (v := v) rfl
    exact z.trans (by cases v <;> rfl)
  fi := fun v => is_finite_ok (d := 28) rfl
  sz := fun v => sized_ok (d := 28) rfl
  cn := fun v w hv hw h => compared_nan (d := 22) core rfl k hv hw h
  cm := fun v w hv hw nv nw => compared_ok (d := 22) core rfl k hv hw nv nw
  nu := fun v hv => next_up_ok (d := 22) core rfl k hv
  nd := fun v hv => next_down_ok (d := 21) core rfl rfl k hv
  rk := fun v hv nv => rank_ok (d := 23) core k hv nv
  st := fun v w hv hw nv nw => steps_ok (d := 22) core rfl k hv hw nv nw
  ex := fun s m e hv => law_exact_num (d := 27) rfl rfl k hv
  xz := fun s => law_exact_zero (d := 27) rfl
  co := fun v hv => to_code_ok (d := 22) core rfl k hv
  fc := fun c c0 c1 => from_code_ok (d := 23) core rfl k c0 c1
  xa := fun s m e hv => exact_num (d := 23) core.toCoreV k hv
  no := fun s m e hv => number_of_ok (d := 22) core rfl rfl k hv
  no0 := number_of_0 (d := 22) core rfl k
  ar := fun p hp => at_rank_ok (d := 24) core k hp
  sp := fun s m e hv => step_num (d := 23) core.toCoreV rfl k hv
  sm := fun x hx => same_ok (sub := sb) (tb := tb) (k := ix.law_same) rfl 1 x hx 27
  ra := fun n h0 hn => law_raise_F (d := 28) rfl k h0 hn
  bR := fun x hx => law_bad_ok (d := 28) rfl (by decide) (num := 18) (by decide +kernel) (rank_no (d := 22) core (hx 22))
  bX := fun x hx => law_bad_ok (d := 28) rfl (by decide) (num := 14) (by decide +kernel) (exact_no (d := 22) core.toCoreV (hx 22))
  bN := law_bad_ok (d := 28) rfl (by decide) (num := 18) (by decide +kernel) (rank_nan (d := 22) core k)
  bI := law_bad_ok (d := 28) rfl (by decide) (num := 14) (by decide +kernel) (exact_inf (d := 22) core.toCoreV k (.inl rfl))
  bS := law_bad_ok (d := 28) rfl (by decide) (num := 23) (by decide +kernel) (step_nan (d := 22) core.toCoreV rfl k)
  bA := fun x hx => by
    have mp := many_pos k
    refine law_bad_ok (d := 28) rfl (by decide) (num := 19) (by decide +kernel) ?_
    simp only [List.mem_cons, List.not_mem_nil, or_false] at hx
    rcases hx with rfl | rfl | rfl | rfl | rfl
    · exact at_rank_far (d := 23) core k (by omega)
    · exact at_rank_far (d := 23) core k (by omega)
    · exact at_rank_no (d := 23) core k (fun d => iw_bl core.toCore true)
    · exact at_rank_no (d := 23) core k (fun d => iw_not core.toCore rfl)
    · exact at_rank_no (d := 23) core k (fun d => iw_not core.toCore rfl)
  bC := fun x hx => by
    have mp := many_pos k
    refine law_bad_ok (d := 28) rfl (by decide) (num := 28) (by decide +kernel) ?_
    simp only [List.mem_cons, List.not_mem_nil, or_false] at hx
    rcases hx with rfl | rfl | rfl | rfl
    · exact from_code_far (d := 22) core rfl k (by omega)
    · exact from_code_far (d := 22) core rfl k (by omega)
    · exact from_code_no (d := 22) core rfl k (fun d => iw_bl core.toCore true)
    · exact from_code_no (d := 22) core rfl k (fun d => iw_not core.toCore rfl)
  nv := fun x hx => hx 25
theorem add_l {xs ys : List D} (h : xs.length + ys.length ≤ 1000000) : binD .add (.lst xs) (.lst ys) = some (.lst (xs ++ ys)) := by
  show (if xs.length + ys.length ≤ sizeLine then some (D.lst (xs ++ ys)) else none) = _
  rw [if_pos (line_le h)]
/-- the list of what is none -/
def W1 (F : Fm) : List D := [.non, .tup [], .tup [nmS], .tup [nmS, .int 1, .int 0, .int F.l], .tup [nmS, .int 1, .int F.a, .int F.l], .tup [nmS, .int 1, .int (F.a - 1), .int (F.l - 1)], .tup [nmS, .int 1, .int (F.a - 1), .int (F.h + 1)], .tup [nmS, .int 2, .int (F.a - 1), .int F.l]]
def W2 (F : Fm) : List D := [.tup [nmS, .bl true, .int (F.a - 1), .int F.l], .tup [nmS, .int 1, .bl true, .int F.l]]
def W3 (F : Fm) : List D := [.lst [.str ⟨#[122, 101, 114, 111]⟩, .int 1], .tup [.str ⟨#[122, 101, 114, 111]⟩], .tup [.str ⟨#[122, 101, 114, 111]⟩, .int 0], .tup [.str ⟨#[105, 110, 102]⟩, .int 1, .int 1], .tup [.str ⟨#[110, 97, 110]⟩, .int 1], .tup [nmS, .int 1, .int (F.a - 1), .int F.l, .int 0], .tup [.str ⟨#[111, 110, 101]⟩, .int 1], .tup [.int 1, .int 1]]
def W4 (F : Fm) : List D := if F.t = false ∧ 1 < F.g then [.tup [nmS, .int 1, .int (F.f - 1), .int F.l]] else if 1 < F.g then [.tup [nmS, .int 1, .int (F.f - 1), .int (F.l + 1)]] else []
theorem w_none {F : Fm} (k : F.Ok) : ∀ x ∈ W1 F ++ W2 F ++ W3 F ++ W4 F, NV sb tb ix F x := by
  intro x hx
  obtain ⟨n1, n2, n3, n4, n5, n6, n7, n8, n9, n10, n11, n12, n13, n14⟩ := nv_all core.toCoreV k (F.a - 1) F.l
  have lh := k.lh
  rw [List.mem_append, List.mem_append, List.mem_append] at hx
  rcases hx with ((hx | hx) | hx) | hx
  · simp only [W1, List.mem_cons, List.not_mem_nil, or_false] at hx
    rcases hx with rfl | rfl | rfl | rfl | rfl | rfl | rfl | rfl
    · exact n1
    · exact n2
    · exact n3
    · exact nv_num core.toCoreV k (by omega)
    · exact nv_num core.toCoreV k (by omega)
    · exact nv_num core.toCoreV k (by omega)
    · exact nv_num core.toCoreV k (by omega)
    · exact n4
  · simp only [W2, List.mem_cons, List.not_mem_nil, or_false] at hx
    rcases hx with rfl | rfl
    · exact n5
    · exact n6
  · simp only [W3, List.mem_cons, List.not_mem_nil, or_false] at hx
    rcases hx with rfl | rfl | rfl | rfl | rfl | rfl | rfl | rfl
    · exact n7
    · exact n8
    · exact n9
    · exact n10
    · exact n11
    · exact n12
    · exact n13
    · exact n14
  · unfold W4 at hx
    split at hx
    · rename_i h
      simp only [List.mem_cons, List.not_mem_nil, or_false] at hx
      subst hx
      exact nv_num core.toCoreV k (.inr (.inr ⟨by omega, .inl h.1⟩))
    · split at hx
      · simp only [List.mem_cons, List.not_mem_nil, or_false] at hx
        subst hx
        exact nv_num core.toCoreV k (.inr (.inr ⟨by omega, .inr (by omega)⟩))
      · cases hx
/-- the list is made -/
theorem t18 {fe : FE} {F : Fm} {ρ : Rho} {I : Ix} (k : F.Ok) (hl : ρ.length = 28) (g14 : getV ρ 14 = some (.int F.a)) (g21 : getV ρ 21 = some (.int F.b)) (g22 : getV ρ 22 = some (.int F.g)) (g23 : getV ρ 23 = some (.int F.l)) (g24 : getV ρ 24 = some (.int F.h)) (g25 : getV ρ 25 = some (.bl F.t)) :
    ∃ ρ', (∀ rest, evSs sb fe (u18 I :: u19 I :: u20 I :: u21 I :: rest) ρ = evSs sb fe rest ρ') ∧ Keep [26] ρ ρ' ∧ getV ρ' 26 = some (.lst (W1 F ++ W2 F ++ W3 F ++ W4 F)) := by
  have aE : ∀ ρ, getV ρ 14 = some (.int F.a) → evE fe (.bin .sub (.var 14) (.c (.int 1))) ρ = PV.ret (.int (F.a - 1)) := fun ρ g => pbin (pv g) pc rfl
  have s1 : evS sb fe (u18 I) ρ = retS (.nx (ρ.set 26 (.v (.lst (W1 F))))) :=
    qasg (plst (pL1 pc (pL1 (ptup pL0 (by simp)) (pL1 (ptup (pL1 pc pL0) (by simp)) (pL1 (ptup (pL1 pc (pL1 pc (pL1 pc (pL1 (pv g23) pL0)))) (by simp)) (pL1 (ptup (pL1 pc (pL1 pc (pL1 (pv g14) (pL1 (pv g23) pL0)))) (by simp)) (pL1 (ptup (pL1 pc (pL1 pc (pL1 (aE ρ g14) (pL1 (pbin (pv g23) pc rfl) pL0)))) (by simp)) (pL1 (ptup (pL1 pc (pL1 pc (pL1 (aE ρ g14) (pL1 (pbin (pv g24) pc rfl) pL0)))) (by simp)) (pL1 (ptup (pL1 pc (pL1 pc (pL1 (aE ρ g14) (pL1 (pv g23) pL0)))) (by simp)) pL0)))))))) (by simp [W1]))
  generalize h1 : ρ.set 26 (.v (.lst (W1 F))) = ρ1 at s1
  have k1 : Keep [26] ρ ρ1 := by rw [← h1]; exact (Keep.refl ρ).set (by decide)
  have v1 : getV ρ1 26 = some (.lst (W1 F)) := by rw [← h1, getV_set_eq (by omega)]
  have a14 := (k1.get 14 (by decide)).trans g14
  have a23 := (k1.get 23 (by decide)).trans g23
  have s2 : evS sb fe (u19 I) ρ1 = retS (.nx (ρ1.set 26 (.v (.lst (W1 F ++ W2 F))))) :=
    qasg (pbin (pv v1) (plst (pL1 (ptup (pL1 pc (pL1 pc (pL1 (aE ρ1 a14) (pL1 (pv a23) pL0)))) (by simp)) (pL1 (ptup (pL1 pc (pL1 pc (pL1 pc (pL1 (pv a23) pL0)))) (by simp)) pL0)) (by simp)) (add_l (by simp [W1])))
  generalize h2 : ρ1.set 26 (.v (.lst (W1 F ++ W2 F))) = ρ2 at s2
  have k2 : Keep [26] ρ ρ2 := by rw [← h2]; exact k1.set (by decide)
  have v2 : getV ρ2 26 = some (.lst (W1 F ++ W2 F)) := by rw [← h2, getV_set_eq (by rw [k1.len]; omega)]
  have b14 := (k2.get 14 (by decide)).trans g14
  have b23 := (k2.get 23 (by decide)).trans g23
  have s3 : evS sb fe (u20 I) ρ2 = retS (.nx (ρ2.set 26 (.v (.lst (W1 F ++ W2 F ++ W3 F))))) :=
    qasg (pbin (pv v2) (plst (pL1 (plst (pL1 pc (pL1 pc pL0)) (by simp)) (pL1 (ptup (pL1 pc pL0) (by simp)) (pL1 (ptup (pL1 pc (pL1 pc pL0)) (by simp)) (pL1 (ptup (pL1 pc (pL1 pc (pL1 pc pL0))) (by simp)) (pL1 (ptup (pL1 pc (pL1 pc pL0)) (by simp)) (pL1 (ptup (pL1 pc (pL1 pc (pL1 (aE ρ2 b14) (pL1 (pv b23) (pL1 pc pL0))))) (by simp)) (pL1 (ptup (pL1 pc (pL1 pc pL0)) (by simp)) (pL1 (ptup (pL1 pc (pL1 pc pL0)) (by simp)) pL0)))))))) (by simp)) (add_l (by simp [W1, W2])))
  generalize h3 : ρ2.set 26 (.v (.lst (W1 F ++ W2 F ++ W3 F))) = ρ3 at s3
  have k3 : Keep [26] ρ ρ3 := by rw [← h3]; exact k2.set (by decide)
  have v3 : getV ρ3 26 = some (.lst (W1 F ++ W2 F ++ W3 F)) := by rw [← h3, getV_set_eq (by rw [k2.len]; omega)]
  have c14 := (k3.get 14 (by decide)).trans g14
  have c21 := (k3.get 21 (by decide)).trans g21
  have c22 := (k3.get 22 (by decide)).trans g22
  have c23 := (k3.get 23 (by decide)).trans g23
  have c25 := (k3.get 25 (by decide)).trans g25
  have b0 := (bd_b k).2
  have dv : divOk F.b = true := by
    have := (bd_b k).1.log
    unfold divOk
    rw [Bool.and_eq_true]
    exact ⟨decide_eq_true (by omega), decide_eq_true (by omega)⟩
  have fE : evE fe (.bin .sub (.blt .int (.bin .fdiv (.var 14) (.var 21))) (.c (.int 1))) ρ3 = PV.ret (.int (F.f - 1)) := by
    have q : binD .fdiv (.int F.a) (.int F.b) = some (.int F.f) := by
      show (if divOk F.b = true then some (D.int (F.a.fdiv F.b)) else none) = _
      rw [if_pos dv, Int.fdiv_eq_ediv_of_nonneg _ (by omega), show F.a = F.b * F.f from rfl, Int.mul_ediv_cancel_left _ (by omega)]
    exact pbin (pblt (pbin (pv c14) (pv c21) q) rfl) pc rfl
  have s4 : evS sb fe (u21 I) ρ3 = retS (.nx (ρ3.set 26 (.v (.lst (W1 F ++ W2 F ++ W3 F ++ W4 F))))) := by
    refine qasg (pbin (pv v3) ?_ (add_l ?_))
    · have g1 : evE fe (.cmp .gt (.var 22) (.c (.int 1))) ρ3 = PV.ret (.bl (decide (1 < F.g))) := pcmp (pv c22) pc rfl
      have cE : evE fe (.and (.not (.var 25)) (.cmp .gt (.var 22) (.c (.int 1)))) ρ3 = PV.ret (.bl (decide (F.t = false ∧ 1 < F.g))) := by
        cases ht : F.t with
        | true =>
          rw [ht] at c25
          exact pand_f (pnot (pv c25))
        | false =>
          rw [ht] at c25
          have z := pand_t (pnot (pv (fe := fe) c25)) g1
          rw [z]
          simp
      refine pifx cE (fun z => ?_) (fun z => ?_)
      · unfold W4
        rw [if_pos (of_decide_eq_true z)]
        exact plst (pL1 (ptup (pL1 pc (pL1 pc (pL1 fE (pL1 (pv c23) pL0)))) (by simp)) pL0) (by simp)
      · unfold W4
        rw [if_neg (of_decide_eq_false z)]
        refine pifx g1 (fun y => ?_) (fun y => ?_)
        · rw [if_pos (of_decide_eq_true y)]
          exact plst (pL1 (ptup (pL1 pc (pL1 pc (pL1 fE (pL1 (pbin (pv c23) pc rfl) pL0)))) (by simp)) pL0) (by simp)
        · rw [if_neg (of_decide_eq_false y)]
          exact plst pL0 (by simp)
    · unfold W4
      split
      · simp [W1, W2, W3]
      · split <;> simp [W1, W2, W3]
  refine ⟨_, fun rest => ?_, k3.set (by decide), getV_set_eq (by rw [k3.len]; omega)⟩
  rw [qs1 s1, qs1 s2, qs1 s3, qs1 s4]
end K05

set_option Elab.async false
set_option linter.all false
set_option maxRecDepth 100000
set_option maxHeartbeats 1000000
namespace K05
open PySem PV
abbrev fe29 : FE := evFn sb tb 29
def turn : List S := [u1 ix, u2 ix, u3 ix, u4 ix, u5 ix, u6 ix, u7 ix, u8 ix, u9 ix, u10 ix, u11 ix, u12 ix, u13 ix, u14 ix, u15 ix, u16 ix, u17 ix, u18 ix, u19 ix, u20 ix, u21 ix, u22 ix, u23 ix, u24 ix, u25 ix]
theorem turn_ok {ρ : Rho} {s : DS} (hl : ρ.length = 28) (g1 : getV ρ 1 = some .dr) (o : OkS s) : ∃ ρ' s', evSs sb fe29 turn ρ s = some (.nx ρ', s') ∧ ρ'.length = 28 ∧ getV ρ' 1 = some .dr ∧ OkS s' := by
  -- the format
  obtain ⟨F, s1, e1, sm, o1⟩ := law_format_ok (sub := sb) (tb := tb) (I := ix) (d := 27) rfl rfl o
  have k := sm.ok
  have K := kf k
  have hw : F.a - F.f < 1073741824 := by have := sm.a; have := f_pos k; omega
  have z1 : evS sb fe29 (u1 ix) ρ s = some (.nx (ρ.set 3 (.v F.d)), s1) := sasg (rcall (rL1 (rv g1) rL0) e1)
  generalize h1 : ρ.set 3 (.v F.d) = ρ1 at z1
  have l1 : ρ1.length = 28 := by rw [← h1, List.length_set, hl]
  have a1 : getV ρ1 1 = some .dr := by rw [← h1, getV_set_ne (by decide), g1]
  have a3 : getV ρ1 3 = some F.d := by rw [← h1, getV_set_eq (by omega)]
  -- how many
  have z2 : evS sb fe29 (u2 ix) ρ1 s1 = some (.nx (ρ1.set 4 (.v (.int F.many))), s1) := q_run (qasg (pcall (pL1 (pv a3) pL0) K.hm))
  generalize h2 : ρ1.set 4 (.v (.int F.many)) = ρ2 at z2
  have l2 : ρ2.length = 28 := by rw [← h2, List.length_set, l1]
  have b1 : getV ρ2 1 = some .dr := by rw [← h2, getV_set_ne (by decide), a1]
  have b3 : getV ρ2 3 = some F.d := by rw [← h2, getV_set_ne (by decide), a3]
  have b4 : getV ρ2 4 = some (.int F.many) := by rw [← h2, getV_set_eq (by omega)]
  -- two values
  obtain ⟨v, s2, e2, hv, o2⟩ := law_value_ok (sub := sb) (tb := tb) (I := ix) (d := 26) rfl rfl rfl rfl k hw o1
  obtain ⟨w, s3, e3, hw2, o3⟩ := law_value_ok (sub := sb) (tb := tb) (I := ix) (d := 26) rfl rfl rfl rfl k hw o2
  have z3 : evS sb fe29 (u3 ix) ρ2 s1 = some (.nx ((ρ2.set 5 (.v v.d)).set 6 (.v w.d)), s3) :=
    sunp (rtup (rL1 (rcall (rL1 (rv b1) (rL1 (rv b3) rL0)) e2) (rL1 (rcall (rL1 (rv b1) (rL1 (rv b3) rL0)) e3) rL0)) (by simp)) rfl
  generalize h3 : (ρ2.set 5 (.v v.d)).set 6 (.v w.d) = ρ3 at z3
  have l3 : ρ3.length = 28 := by rw [← h3, List.length_set, List.length_set, l2]
  have c1 : getV ρ3 1 = some .dr := by rw [← h3, getV_set_ne (by decide), getV_set_ne (by decide), b1]
  have c3 : getV ρ3 3 = some F.d := by rw [← h3, getV_set_ne (by decide), getV_set_ne (by decide), b3]
  have c4 : getV ρ3 4 = some (.int F.many) := by rw [← h3, getV_set_ne (by decide), getV_set_ne (by decide), b4]
  have c5 : getV ρ3 5 = some v.d := by rw [← h3, getV_set_ne (by decide), getV_set_eq (by omega)]
  have c6 : getV ρ3 6 = some w.d := by rw [← h3, getV_set_eq (by rw [List.length_set]; omega)]
  have z4 := q_run (s := s3) (t4 (sub := sb) K c3 c5 hv)
  have z5 := q_run (s := s3) (t5 (sub := sb) K c3 c5)
  obtain ⟨ρ6, e6, k6⟩ := t6 (sub := sb) K l3 c3 c5 c6 hv hw2
  have l6 : ρ6.length = 28 := k6.len.trans l3
  have d1 := (k6.get 1 (by decide)).trans c1
  have d3 := (k6.get 3 (by decide)).trans c3
  have d4 := (k6.get 4 (by decide)).trans c4
  have d5 := (k6.get 5 (by decide)).trans c5
  -- codes
  have z7 : evS sb fe29 (u7 ix) ρ6 = retS (.nx (ρ6.set 13 (.v (.int (F.code v))))) := qasg (pcall (pL1 (pv d3) (pL1 (pv d5) pL0)) (K.co v hv))
  generalize h7 : ρ6.set 13 (.v (.int (F.code v))) = ρ7 at z7
  have l7 : ρ7.length = 28 := by rw [← h7, List.length_set, l6]
  have m1 : getV ρ7 1 = some .dr := by rw [← h7, getV_set_ne (by decide), d1]
  have m3 : getV ρ7 3 = some F.d := by rw [← h7, getV_set_ne (by decide), d3]
  have m4 : getV ρ7 4 = some (.int F.many) := by rw [← h7, getV_set_ne (by decide), d4]
  have m5 : getV ρ7 5 = some v.d := by rw [← h7, getV_set_ne (by decide), d5]
  have m13 : getV ρ7 13 = some (.int (F.code v)) := by rw [← h7, getV_set_eq (by omega)]
  have z8 := q_run (s := s3) (t8 (sub := sb) K m3 m4 m5 m13 hv)
  obtain ⟨ρ9, e9, k9⟩ := t9 (sub := sb) K l7 m3 m5 hv
  have l9 : ρ9.length = 28 := k9.len.trans l7
  have n1 := (k9.get 1 (by decide)).trans m1
  have n3 := (k9.get 3 (by decide)).trans m3
  have n4 := (k9.get 4 (by decide)).trans m4
  -- a place
  have mp := many_pos k
  have mb : F.many ≤ 400000 := by
    have := sm.a
    have fl := f_pos k
    have few : F.few ≤ F.f - 1 := (fp k).few1
    have fa : F.f ≤ F.a := by have := (fp k).w; show F.f ≤ F.b * F.f; omega
    have w1 : 1 ≤ F.a - F.f := (fp k).w
    have : (F.h - F.l + 1) * (F.a - F.f) ≤ 5 * (F.a - F.f) := Int.mul_le_mul_of_nonneg_right (by have := sm.h2; omega) (by omega)
    show (F.h - F.l + 1) * (F.a - F.f) + F.few ≤ 400000
    omega
  obtain ⟨x, s4, e4, p1, p2, o4⟩ := draw_step (sub := sb) (tb := tb) (k := ix.law_draw) (d := 28) rfl (n := 2 * F.many + 3) (by omega) (by omega) o3
  have z10 : evS sb fe29 (u10 ix) ρ9 s3 = some (.nx (ρ9.set 18 (.v (.int (x - F.many - 1)))), s4) :=
    sasg (rbin (rbin (rcall (rL1 (rv n1) (rL1 (rret (p_2m k n4 3)) rL0)) e4) (rv n4) rfl) rc rfl)
  generalize hp : x - F.many - 1 = p at z10
  have hpl : (p.natAbs : Int) ≤ F.many + 1 := by omega
  have z11 : evS sb fe29 (u11 ix) (ρ9.set 18 (.v (.int p))) = retS (.nx ((ρ9.set 18 (.v (.int p))).set 19 (.v (F.at p).d))) :=
    qasg (pcall (pL1 (pv (by rw [getV_set_ne (by decide), n3])) (pL1 (pv (getV_set_eq (by omega))) pL0)) (K.ar p hpl))
  obtain ⟨av, ar⟩ := at_val k hpl
  have z12 : evS sb fe29 (u12 ix) ((ρ9.set 18 (.v (.int p))).set 19 (.v (F.at p).d)) = retS (.nx (((ρ9.set 18 (.v (.int p))).set 19 (.v (F.at p).d)).set 20 (.v (F.up (F.at p)).d))) :=
    qasg (pcall (pL1 (pv (by rw [getV_set_ne (by decide), getV_set_ne (by decide), n3])) (pL1 (pv (getV_set_eq (by rw [List.length_set]; omega))) pL0)) (K.nu _ av))
  generalize h12 : ((ρ9.set 18 (.v (.int p))).set 19 (.v (F.at p).d)).set 20 (.v (F.up (F.at p)).d) = ρ12 at z12
  have l12 : ρ12.length = 28 := by rw [← h12, List.length_set, List.length_set, List.length_set, l9]
  have q1 : getV ρ12 1 = some .dr := by rw [← h12, getV_set_ne (by decide), getV_set_ne (by decide), getV_set_ne (by decide), n1]
  have q3 : getV ρ12 3 = some F.d := by rw [← h12, getV_set_ne (by decide), getV_set_ne (by decide), getV_set_ne (by decide), n3]
  have q4 : getV ρ12 4 = some (.int F.many) := by rw [← h12, getV_set_ne (by decide), getV_set_ne (by decide), getV_set_ne (by decide), n4]
  have q18 : getV ρ12 18 = some (.int p) := by rw [← h12, getV_set_ne (by decide), getV_set_ne (by decide), getV_set_eq (by omega)]
  have q19 : getV ρ12 19 = some (F.at p).d := by rw [← h12, getV_set_ne (by decide), getV_set_eq (by rw [List.length_set]; omega)]
  have q20 : getV ρ12 20 = some (F.up (F.at p)).d := by rw [← h12, getV_set_eq (by rw [List.length_set, List.length_set]; omega)]
  have z13 := q_run (s := s4) (t13 (sub := sb) K hpl q3 q4 q18 q19 q20)
  have z14 := q_run (s := s4) (t14 (sub := sb) K q3 q4)
  have z15 := q_run (s := s4) (t15 (sub := sb) K q3 q4)
  -- what is none
  have z16 : evS sb fe29 (u16 ix) ρ12 = retS (.nx (((((ρ12.set 21 (.v (.int F.b))).set 22 (.v (.int F.g))).set 23 (.v (.int F.l))).set 24 (.v (.int F.h))).set 25 (.v (.bl F.t)))) := qunp (pv q3) rfl
  generalize h16 : ((((ρ12.set 21 (.v (.int F.b))).set 22 (.v (.int F.g))).set 23 (.v (.int F.l))).set 24 (.v (.int F.h))).set 25 (.v (.bl F.t)) = ρ16 at z16
  have l16 : ρ16.length = 28 := by rw [← h16]; simp [l12]
  have r1 : getV ρ16 1 = some .dr := by rw [← h16, getV_set_ne (by decide), getV_set_ne (by decide), getV_set_ne (by decide), getV_set_ne (by decide), getV_set_ne (by decide), q1]
  have r3 : getV ρ16 3 = some F.d := by rw [← h16, getV_set_ne (by decide), getV_set_ne (by decide), getV_set_ne (by decide), getV_set_ne (by decide), getV_set_ne (by decide), q3]
  have r4 : getV ρ16 4 = some (.int F.many) := by rw [← h16, getV_set_ne (by decide), getV_set_ne (by decide), getV_set_ne (by decide), getV_set_ne (by decide), getV_set_ne (by decide), q4]
  have r21 : getV ρ16 21 = some (.int F.b) := by rw [← h16, getV_set_ne (by decide), getV_set_ne (by decide), getV_set_ne (by decide), getV_set_ne (by decide), getV_set_eq (by omega)]
  have r22 : getV ρ16 22 = some (.int F.g) := by rw [← h16, getV_set_ne (by decide), getV_set_ne (by decide), getV_set_ne (by decide), getV_set_eq (by simp [l12])]
  have r23 : getV ρ16 23 = some (.int F.l) := by rw [← h16, getV_set_ne (by decide), getV_set_ne (by decide), getV_set_eq (by simp [l12])]
  have r24 : getV ρ16 24 = some (.int F.h) := by rw [← h16, getV_set_ne (by decide), getV_set_eq (by simp [l12])]
  have r25 : getV ρ16 25 = some (.bl F.t) := by rw [← h16, getV_set_eq (by simp [l12])]
  have ra := K.ra F.g (by have := k.g1; omega) (by have := k.g2; omega)
  rw [a_eq k] at ra
  have z17 : evS sb fe29 (u17 ix) ρ16 = retS (.nx (ρ16.set 14 (.v (.int F.a)))) := qasg (pcall (pL1 (pv r21) (pL1 (pv r22) pL0)) ra)
  generalize h17 : ρ16.set 14 (.v (.int F.a)) = ρ17 at z17
  have l17 : ρ17.length = 28 := by rw [← h17, List.length_set, l16]
  have w1 : getV ρ17 1 = some .dr := by rw [← h17, getV_set_ne (by decide), r1]
  have w3 : getV ρ17 3 = some F.d := by rw [← h17, getV_set_ne (by decide), r3]
  have w4 : getV ρ17 4 = some (.int F.many) := by rw [← h17, getV_set_ne (by decide), r4]
  obtain ⟨ρ21, e21, k21, g26⟩ := t18 (fe := fe29) (I := ix) k l17 (by rw [← h17, getV_set_eq (by omega)]) (by rw [← h17, getV_set_ne (by decide), r21]) (by rw [← h17, getV_set_ne (by decide), r22]) (by rw [← h17, getV_set_ne (by decide), r23]) (by rw [← h17, getV_set_ne (by decide), r24]) (by rw [← h17, getV_set_ne (by decide), r25])
  have l21 : ρ21.length = 28 := k21.len.trans l17
  have x1 := (k21.get 1 (by decide)).trans w1
  have x3 := (k21.get 3 (by decide)).trans w3
  have x4 := (k21.get 4 (by decide)).trans w4
  obtain ⟨ρ22, e22, k22⟩ := t22 (sub := sb) K l21 x3 g26 (w_none k)
  have l22 : ρ22.length = 28 := k22.len.trans l21
  have y1 := (k22.get 1 (by decide)).trans x1
  have y3 := (k22.get 3 (by decide)).trans x3
  have y4 := (k22.get 4 (by decide)).trans x4
  obtain ⟨ρ23, e23, k23⟩ := t23 (sub := sb) K l22 y3 y4
  have l23 : ρ23.length = 28 := k23.len.trans l22
  have v1 := (k23.get 1 (by decide)).trans y1
  have v3 := (k23.get 3 (by decide)).trans y3
  have v4 := (k23.get 4 (by decide)).trans y4
  obtain ⟨ρ24, e24, k24⟩ := t24 (sub := sb) K l23 v3 v4
  have l24 : ρ24.length = 28 := k24.len.trans l23
  have u1' := (k24.get 1 (by decide)).trans v1
  have u3' := (k24.get 3 (by decide)).trans v3
  have z25 := q_run (s := s4) (t25 (sub := sb) K u3')
  refine ⟨ρ24, s4, ?_, l24, u1', o4⟩
  unfold turn
  rw [ss1 z1, ss1 z2, ss1 z3, ss1 z4, ss1 z5, ss1 (q_run e6), ss1 (q_run z7), ss1 z8, ss1 (q_run e9), ss1 z10, ss1 (q_run z11), ss1 (q_run z12), ss1 z13, ss1 z14, ss1 z15, ss1 (q_run z16), ss1 (q_run z17), e21, ss1 (q_run e22), ss1 (q_run e23), ss1 (q_run e24), ss1 z25, ss0]
theorem loop_ok : ∀ (xs : List D) (ρ : Rho) (s : DS), ρ.length = 28 → getV ρ 1 = some .dr → OkS s → ∃ ρ' s', forM (.one 2) (fun ρ => evSs sb fe29 turn ρ) xs ρ s = some (.nx ρ', s') ∧ ρ'.length = 28 ∧ getV ρ' 1 = some .dr ∧ OkS s'
  | [], ρ, s, hl, g, o => ⟨ρ, s, rfl, hl, g, o⟩
  | x :: xs, ρ, s, hl, g, o => by
    obtain ⟨ρ1, s1, e1, l1, g1, o1⟩ := turn_ok (ρ := ρ.set 2 (.v x)) (by rw [List.length_set, hl]) (by rw [getV_set_ne (by decide), g]) o
    obtain ⟨ρ2, s2, e2, l2, g2, o2⟩ := loop_ok xs ρ1 s1 l1 g1 o1
    refine ⟨ρ2, s2, ?_, l2, g2, o2⟩
    show (match evSs sb fe29 turn (ρ.set 2 (.v x)) s with
      | none => none
      | some (.nx ρ2, s2) => PV.forM (.one 2) (fun ρ => evSs sb fe29 turn ρ) xs ρ2 s2
      | some (.ct ρ2, s2) => PV.forM (.one 2) (fun ρ => evSs sb fe29 turn ρ) xs ρ2 s2
      | some (.bk ρ2, s2) => some (.nx ρ2, s2)
      | some (.rt d, s2) => some (.rt d, s2)
      | some (.er e ρ2, s2) => some (.er e ρ2, s2)) = _
    rw [e1]
    exact e2
theorem good : dt.Good 39 30 63 := by
  intro ns _
  rw [sub_eq, tbl_lit]
  show ∃ s, evFn sb tb 30 39 [.scr ns] {} = some (.ok (.bl true) s)
  rw [fn_src (d := 29) (f := ⟨1, 28, T_law ix⟩) rfl rfl]
  have o : OkS { on := true, cells := ns, pos := 0, big := 0, seed := 1 } := ⟨rfl, (show (0 : Int) ≤ 1 by decide), (show (1 : Int) < 2147483648 by decide)⟩
  obtain ⟨ρ', s', h1, h2, h3, h4⟩ := loop_ok (rangeL 0 1 5) ((PV.start ⟨1, 28, T_law ix⟩ [.scr ns]).set 1 (.v .dr)) { on := true, cells := ns, pos := 0, big := 0, seed := 1 } rfl rfl o
  refine ⟨s', rfl_rt ?_⟩
  show evSs sb fe29 (T_law ix) (PV.start ⟨1, 28, T_law ix⟩ [.scr ns]) {} = _
  have c : evS sb fe29 (.asg 1 (.call ix.law_draws [(.var 0)] [])) (PV.start ⟨1, 28, T_law ix⟩ [.scr ns]) {} = some (.nx ((PV.start ⟨1, 28, T_law ix⟩ [.scr ns]).set 1 (.v .dr)), { on := true, cells := ns, pos := 0, big := 0, seed := 1 }) := by
    refine sasg (rcall (rL1 (rv rfl) rL0) ?_)
    show evFn sb tb (28 + 1) ix.law_draws [.scr ns] {} = _
    rw [prim_fn (p := .draws) (show tb ix.law_draws = _ from rfl)]
    rfl
  have f : evS sb fe29 (.for_ (.one 2) (.rng1 (.c (.int 5))) turn) ((PV.start ⟨1, 28, T_law ix⟩ [.scr ns]).set 1 (.v .dr)) { on := true, cells := ns, pos := 0, big := 0, seed := 1 } = some (.nx ρ', s') := by
    have it : (bind (evE fe29 (.rng1 (.c (.int 5))) ((PV.start ⟨1, 28, T_law ix⟩ [.scr ns]).set 1 (.v .dr))) fun x => lift (items x)) = PV.ret (rangeL 0 1 5) := by
      rw [evE, evE, ret_bind, show rng1D (.int 5) = some (rangeL 0 1 5) from rfl, lift_some, ret_bind, ret_bind]
      rfl
    rw [evS, it, bindE_ret]
    exact h1
  show evSs sb fe29 ((.asg 1 (.call ix.law_draws [(.var 0)] [])) :: (.for_ (.one 2) (.rng1 (.c (.int 5))) turn) :: [(.ret (.c (.bl true)))]) _ _ = _
  rw [ss1 c, ss1 f, ssr (sret rc)]
end K05

set_option Elab.async false
set_option linter.all false
set_option maxRecDepth 100000
set_option maxHeartbeats 0
namespace K05
open PySem PV
def f0 : FD := ⟨"", ⟨[], [], none, [], [], none, []⟩, [], drawsS⟩
end K05
open PySem PySem.W PySem.Calls PyProof.Rows
theorem k05_of (hG : K05.dt.Good 39 30 63) : PySem.Challenge.rw_roundonce_k05_whole_values_and_their_ste.Holds := by
  w_on; o_law
  refine HandSHeadRun.head_any (r := OpenLaw.row PySem.Challenge.rw_roundonce_k05_whole_values_and_their_ste) (q := view (OpenLaw.row PySem.Challenge.rw_roundonce_k05_whole_values_and_their_ste).prog [50]) (H := K05.dt.hook) (ob := K05.ob) (M := 2000) (loose := K05.loose) (d := HandSHeadRun.topDef (OpenLaw.row PySem.Challenge.rw_roundonce_k05_whole_values_and_their_ste).prog 50) (kwd := []) K05.ob_eq
    (by kernel_rfl) (fun s => by kernel_rfl) K05.run (by kernel_rfl) (by kernel_rfl) (by kernel_rfl) (by rfl) (by first | assumption | decide +kernel) (by decide +kernel) ⟨rfl, rfl, rfl, rfl, rfl, by decide +kernel⟩ ?hw ?hc
  case hw => w_witness2
  case hc =>
    refine L2.walk_ofE (l := PySem.Challenge.rw_roundonce_k05_whole_values_and_their_ste) (n := 63) (k := 32) (x := "script") (CX := L2.CX0) rfl (by decide) (by kernel_rfl) ⟨rfl, by decide, by decide⟩ ?F (fun H s e s' z => ?_)
    · intro w mg fa h Y G hmg0
      obtain ⟨K, KX, c, hc⟩ := Y
      have hmg : mg ("law" : PySem.Str) = some (.ref fa) := by
        have e : (HandSHeadRun.topDef (OpenLaw.row PySem.Challenge.rw_roundonce_k05_whole_values_and_their_ste).prog 50).name = ("law" : PySem.Str) := by kernel_rfl
        rw [← e]
        exact hmg0
      exact PV.law_facts (f := (K05.dt.fds[39]?).getD K05.f0) KX G c hc K05.okT (by kernel_rfl) (by kernel_rfl) (by kernel_rfl) (by kernel_rfl) hmg hG _ _
    · exact z
theorem PySem.Challenge.cw_roundonce_k05_whole_values_and_their_ste_holds : PySem.Challenge.rw_roundonce_k05_whole_values_and_their_ste.Holds := by
  exact k05_of K05.good

