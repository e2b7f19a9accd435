import PyProof.Rows.All
import Wide.All
import OpenK.AllK
import Wide.FinOn
import PySem.Challenge.RW_walktallies_k79_names_of_parameters_halv
import PySem.Syntax
import PyProof.StrBlockL
import PySem.Eval
import HandS.Words
import HandS.Codes
import KE.KStateDown
import HandS.Ends
import HandS.Head0
import HandS.Head1
import HandS.Head2
import HandS.Head3
import HandS.HeadEnd
import HandS.HeadHook1
import HandS.HeadHook2
import HandS.HeadHook4
import KE.GoesMore
import KE.GoesEnum
import HandS.Base
import HandS.Call
import HandS.Iter
import HandS.List
import HandS.Zip
import HandS.TupMul
import KE.SortData
import KE.DataMinMax
import HandS.Set
import HandS.Strs
import HandS.SetFor
import HandS.TupSets
import HandS.SortInts
import KE.KDictZip
import KE.GoesZip
import KE.KStar
import HandS.Star
import HandS.Comp
import HandS.Dict
import HandS.Walk
import HandS.Flow
import HandS.Style
import HandS.TupAny
import HandS.Rev
import HandS.Deep
import HandS.IsInst
import PyProof.EqLayable
import HandS.Steps
import HandS.Small
import HandS.Text
import KE.KTupSum
import HandS.Gcd
import KE.KMathGC
import HandS.SuiteRaise
import HandS.SetKeys
import PyProof.DictMoreH
import KE.KDictPairs
import KE.KDictDisplayH
import HandS.More
import HandS.Replace
import HandS.RaiseMore
import HandS.Defaults
import HandS.Conv
set_option Elab.async false
set_option maxHeartbeats 0
section
set_option linter.all false
set_option autoImplicit false
noncomputable section
namespace Rk
open PySem

inductive T where
  | non | bl (b : Bool) | int (i : Int) | str (s : List Nat) | tup (ts : List T) | ref (n : Nat)
inductive Ob where
  | l (ts : List T) | d (b : Bool) (kvs : List (T × T))
inductive AL where
  | nil | cons (id : Nat) (o : Ob) (r : AL)
inductive Sto where
  | mk (n : Nat) (a : AL)
inductive Res where
  | er | v (t : T) (s : Sto) | nl (ts : List T) (s : Sto)
inductive LR where
  | er | ok (ts : List T) (s : Sto)
/-- what a loop walks -/
inductive Src where
  | fix (ts : List T) | live (n i : Nat) | rng (lo : Int) (n : Nat) | rng3 (lo st : Int) (n : Nat) | str (cs : List Nat) | enum (i : Nat) (s : Src) | zip (a b : Src) | zips (ns : List Nat) (i : Nat)
inductive IR where
  | er | ok (src : Src) (s : Sto)
inductive NR where
  | er | done | it (t : T) (src : Src)
inductive TR where
  | er | ok (b : Bool) (s : Sto)
inductive En where
  | nil | u (r : En) | b (t : T) (r : En)
inductive SR where
  | er | nx (σ : En) (s : Sto) | rtv (t : T) (s : Sto) | rtl (ts : List T) (s : Sto) | bk (σ : En) (s : Sto) | ct (σ : En) (s : Sto)
inductive GR where
  | er | ok (σ : En) (s : Sto)

abbrev Cf := Nat → List T → Sto → Res
abbrev Ev := Cf → En → Sto → Res
abbrev Av := Cf → En → Sto → LR
abbrev Tv := Cf → En → Sto → TR
abbrev Sv := Cf → En → Sto → SR
abbrev Gv := T → Cf → En → Sto → GR

section
variable {α : Type}
/-! forcing -/
def frN (n : Nat) (k : Nat → α) : α := Nat.rec (motive := fun _ => α) (k 0) (fun m _ => k (Nat.succ m)) n
def frI (i : Int) (k : Int → α) : α := Int.rec (motive := fun _ => α) (fun n => frN n fun n => k (Int.ofNat n)) (fun n => frN n fun n => k (Int.negSucc n)) i
def ifB (b : Bool) (x y : α) : α := Bool.rec (motive := fun _ => α) y x b
def onSto (s : Sto) (k : Nat → AL → α) : α := Sto.rec (motive := fun _ => α) k s
def alloc (o : Ob) (s : Sto) (k : T → Sto → α) : α := Sto.rec (motive := fun _ => α) (fun n a => frN n fun n => k (.ref n) (.mk (Nat.succ n) (.cons n o a))) s
/-- a value, new lists laid -/
def bnd (e : α) (m : Res) (k : T → Sto → α) : α := Res.rec (motive := fun _ => α) e k (fun ts s => alloc (.l ts) s k) m
def bndL (e : α) (m : LR) (k : List T → Sto → α) : α := LR.rec (motive := fun _ => α) e k m
def bndT (e : α) (m : TR) (k : Bool → Sto → α) : α := TR.rec (motive := fun _ => α) e k m
def bndG (e : α) (m : GR) (k : En → Sto → α) : α := GR.rec (motive := fun _ => α) e k m
def onT (t : T) (a : α) (b : Bool → α) (i : Int → α) (s : List Nat → α) (u : List T → α) (r : Nat → α) : α :=
  T.rec (motive_1 := fun _ => α) (motive_2 := fun _ => Unit) a b i s (fun ts _ => u ts) r () (fun _ _ _ _ => ()) t
def onInt (e : α) (t : T) (k : Int → α) : α := T.rec (motive_1 := fun _ => α) (motive_2 := fun _ => Unit) e (fun _ => e) k (fun _ => e) (fun _ _ => e) (fun _ => e) () (fun _ _ _ _ => ()) t
def onOb (o : Ob) (l : List T → α) (d : Bool → List (T × T) → α) : α := Ob.rec (motive := fun _ => α) l d o
def onOp {β : Type} (o : Option β) (e : α) (k : β → α) : α := Option.rec (motive := fun _ => α) e k o
/-! the store -/
def AL.get (e : α) (a : AL) (i : Nat) (k : Ob → α) : α := AL.rec (motive := fun _ => α) e (fun id o _ ih => ifB (Nat.beq id i) (k o) ih) a
def getO (e : α) (s : Sto) (i : Nat) (k : Ob → α) : α := Sto.rec (motive := fun _ => α) (fun _ a => AL.get e a i k) s
def AL.set (e : α) (a : AL) (i : Nat) (o' : Ob) : (AL → α) → α := AL.rec (motive := fun _ => (AL → α) → α) (fun _ => e) (fun id o r ih k => ifB (Nat.beq id i) (k (.cons id o' r)) (ih fun r' => k (.cons id o r'))) a
def setO (e : α) (s : Sto) (i : Nat) (o' : Ob) (k : Sto → α) : α := Sto.rec (motive := fun _ => α) (fun n a => AL.set e a i o' fun a' => k (.mk n a')) s
def AL.app (a b : AL) : (AL → α) → α := AL.rec (motive := fun _ => (AL → α) → α) (fun k => k b) (fun id o _ ih k => ih fun r' => k (.cons id o r')) a
/-! lists -/
def appK (xs : List T) (y : T) : (List T → α) → α := List.rec (motive := fun _ => (List T → α) → α) (fun k => k [y]) (fun x _ ih k => ih fun r => k (x :: r)) xs
def catK (xs ys : List T) : (List T → α) → α := List.rec (motive := fun _ => (List T → α) → α) (fun k => k ys) (fun x _ ih k => ih fun r => k (x :: r)) xs
def revK (xs : List T) : List T → (List T → α) → α := List.rec (motive := fun _ => List T → (List T → α) → α) (fun acc k => k acc) (fun x _ ih acc k => ih (x :: acc) k) xs
def lenK {β : Type} (xs : List β) : Nat → (Nat → α) → α := List.rec (motive := fun _ => Nat → (Nat → α) → α) (fun n k => frN n k) (fun _ _ ih n k => ih (Nat.succ n) k) xs
def nthK {β : Type} (e : α) (k : β → α) (i : Nat) : List β → α := Nat.rec (motive := fun _ => List β → α) (fun xs => List.rec (motive := fun _ => α) e (fun x _ _ => k x) xs) (fun _ ih xs => List.rec (motive := fun _ => α) e (fun _ r _ => ih r) xs) i
def setK {β : Type} (e : α) (y : β) (i : Nat) : List β → (List β → α) → α := Nat.rec (motive := fun _ => List β → (List β → α) → α)
  (fun xs k => List.rec (motive := fun _ => α) e (fun _ r _ => k (y :: r)) xs) (fun _ ih xs k => List.rec (motive := fun _ => α) e (fun x r _ => ih r fun r' => k (x :: r')) xs) i
def dropK {β : Type} (i : Nat) : List β → List β := Nat.rec (motive := fun _ => List β → List β) (fun xs => xs) (fun _ ih xs => List.rec (motive := fun _ => List β) [] (fun _ r _ => ih r) xs) i
def takeK {β : Type} (i : Nat) : List β → (List β → α) → α := Nat.rec (motive := fun _ => List β → (List β → α) → α) (fun _ k => k []) (fun _ ih xs k => List.rec (motive := fun _ => α) (k []) (fun x r _ => ih r fun r' => k (x :: r')) xs) i
/-- Python's index: i below n, from the end if negative -/
def ixK (e : α) (n : Nat) (i : Int) (k : Nat → α) : α := Int.rec (motive := fun _ => α) (fun j => ifB (Nat.blt j n) (k j) e) (fun j => ifB (Nat.blt j n) (k (Nat.sub (Nat.sub n j) 1)) e) i
/-- a slice's bound -/
def sbK (n : Nat) (i : Int) (k : Nat → α) : α := Int.rec (motive := fun _ => α) (fun j => ifB (Nat.ble j n) (k j) (k n)) (fun j => frN (Nat.sub n (Nat.succ j)) k) i
/-! slots -/
def En.get (e : α) (k : T → α) (i : Nat) : En → α := Nat.rec (motive := fun _ => En → α) (fun σ => En.rec (motive := fun _ => α) e (fun _ _ => e) (fun t _ _ => k t) σ) (fun _ ih σ => En.rec (motive := fun _ => α) e (fun r _ => ih r) (fun _ r _ => ih r) σ) i
def En.set (e : α) (y : T) (i : Nat) : En → (En → α) → α := Nat.rec (motive := fun _ => En → (En → α) → α) (fun σ k => En.rec (motive := fun _ => α) e (fun r _ => k (.b y r)) (fun _ r _ => k (.b y r)) σ)
  (fun _ ih σ k => En.rec (motive := fun _ => α) e (fun r _ => ih r fun r' => k (.u r')) (fun x r _ => ih r fun r' => k (.b x r')) σ) i
def envK (e : α) (tail : En) (np : Nat) : List T → (En → α) → α := Nat.rec (motive := fun _ => List T → (En → α) → α) (fun ts k => List.rec (motive := fun _ => α) (k tail) (fun _ _ _ => e) ts) (fun _ ih ts k => List.rec (motive := fun _ => α) e (fun t r _ => ih r fun σ => k (.b t σ)) ts) np
end

/-! integers -/
def iAdd (a b : Int) : Int := Int.rec (motive := fun _ => Int) (fun m => Int.rec (motive := fun _ => Int) (fun n => Int.ofNat (Nat.add m n)) (fun n => Int.subNatNat m (Nat.succ n)) b)
  (fun m => Int.rec (motive := fun _ => Int) (fun n => Int.subNatNat n (Nat.succ m)) (fun n => Int.negSucc (Nat.succ (Nat.add m n))) b) a
def iNeg (a : Int) : Int := Int.rec (motive := fun _ => Int) (fun n => Nat.rec (motive := fun _ => Int) (Int.ofNat 0) (fun m _ => Int.negSucc m) n) (fun n => Int.ofNat (Nat.succ n)) a
def iLt (a b : Int) : Bool := Int.rec (motive := fun _ => Bool) (fun m => Int.rec (motive := fun _ => Bool) (fun n => Nat.blt m n) (fun _ => false) b)
  (fun m => Int.rec (motive := fun _ => Bool) (fun _ => true) (fun n => Nat.blt n m) b) a
def iEq (a b : Int) : Bool := Int.rec (motive := fun _ => Bool) (fun m => Int.rec (motive := fun _ => Bool) (fun n => Nat.beq m n) (fun _ => false) b)
  (fun m => Int.rec (motive := fun _ => Bool) (fun _ => false) (fun n => Nat.beq m n) b) a

def iGtz (a : Int) : Bool := Int.rec (motive := fun _ => Bool) (fun m => Nat.rec (motive := fun _ => Bool) false (fun _ _ => true) m) (fun _ => false) a
/-- below 2 ^ 64 by size -/
def iSm (a : Int) : Bool := Int.rec (motive := fun _ => Bool) (fun m => Nat.blt m 18446744073709551616) (fun m => Nat.blt m 18446744073709551615) a
/-- below 2 ^ 30 by size -/
def iTn (a : Int) : Bool := Int.rec (motive := fun _ => Bool) (fun m => Nat.blt m 1073741824) (fun m => Nat.blt m 1073741823) a
/-- below 2 ^ 62 by size -/
def iMd (a : Int) : Bool := Int.rec (motive := fun _ => Bool) (fun m => Nat.blt m 4611686018427387904) (fun m => Nat.blt m 4611686018427387904) a

/-! == and < of values without lists; none: not decided here -/
def natsEq (a : List Nat) : List Nat → Bool := List.rec (motive := fun _ => List Nat → Bool) (fun b => List.rec (motive := fun _ => Bool) true (fun _ _ _ => false) b) (fun x _ ih b => List.rec (motive := fun _ => Bool) false (fun y r _ => ifB (Nat.beq x y) (ih r) false) b) a
def bEq (x y : Bool) : Bool := ifB x y (ifB y false true)
/-- no list within, at most n deep -/
def pT (n : Nat) : T → Bool := Nat.rec (motive := fun _ => T → Bool) (fun _ => false) (fun _ ih t => onT t true (fun _ => true) (fun _ => true) (fun _ => true) (fun ts => List.rec (motive := fun _ => Bool) true (fun x _ r => ifB (ih x) r false) ts) (fun _ => false)) n
def pTs (ts : List T) : Bool := List.rec (motive := fun _ => Bool) true (fun x _ r => ifB (pT 50 x) r false) ts
def tEq (a : T) : T → Option Bool :=
  T.rec (motive_1 := fun _ => T → Option Bool) (motive_2 := fun _ => List T → Option Bool)
    (fun b => onT b (some true) (fun _ => some false) (fun _ => some false) (fun _ => some false) (fun _ => some false) (fun _ => none))
    (fun x b => onT b (some false) (fun y => some (bEq x y)) (fun _ => none) (fun _ => some false) (fun _ => some false) (fun _ => none))
    (fun x b => onT b (some false) (fun _ => none) (fun y => some (iEq x y)) (fun _ => some false) (fun _ => some false) (fun _ => none))
    (fun x b => onT b (some false) (fun _ => some false) (fun _ => some false) (fun y => some (natsEq x y)) (fun _ => some false) (fun _ => none))
    (fun _ ih b => onT b (some false) (fun _ => some false) (fun _ => some false) (fun _ => some false) (fun ys => ih ys) (fun _ => none))
    (fun _ b => none)
    (fun ys => List.rec (motive := fun _ => Option Bool) (some true) (fun _ _ _ => some false) ys)
    (fun _ _ ihx ihr ys => List.rec (motive := fun _ => Option Bool) (some false) (fun y r _ => onOp (ihx y) none fun q => ifB q (ihr r) (some false)) ys) a
def tsEq (xs ys : List T) : Option Bool := tEq (.tup xs) (.tup ys)
def lexT (xs : List T) : List T → Option Bool := List.rec (motive := fun _ => List T → Option Bool) (fun ys => List.rec (motive := fun _ => Option Bool) (some false) (fun y _ _ => onInt none y fun _ => some true) ys)
  (fun x _ ih ys => onInt none x fun i => List.rec (motive := fun _ => Option Bool) (some false) (fun y r _ => onInt none y fun j => ifB (iEq i j) (ih r) (some (iLt i j))) ys) xs
def allI (xs : List T) : Bool := List.rec (motive := fun _ => Bool) true (fun x _ r => onInt false x fun _ => r) xs
def tLt (a b : T) : Option Bool := onT a none (fun _ => none) (fun x => onT b none (fun _ => none) (fun y => some (iLt x y)) (fun _ => none) (fun _ => none) (fun _ => none)) (fun _ => none)
  (fun xs => onT b none (fun _ => none) (fun _ => none) (fun _ => none) (fun ys => lexT xs ys) (fun _ => none)) (fun _ => none)
/-- < written out: whole tuples of ints -/
def tLtC (a b : T) : Option Bool := onT a none (fun _ => none) (fun x => onT b none (fun _ => none) (fun y => some (iLt x y)) (fun _ => none) (fun _ => none) (fun _ => none)) (fun _ => none)
  (fun xs => onT b none (fun _ => none) (fun _ => none) (fun _ => none) (fun ys => ifB (allI xs) (ifB (allI ys) (lexT xs ys) none) none) (fun _ => none)) (fun _ => none)
def nilB {β : Type} (xs : List β) : Bool := List.rec (motive := fun _ => Bool) true (fun _ _ _ => false) xs
/-- lists of one length? -/
def lenEq {β γ : Type} (xs : List β) : List γ → Bool := List.rec (motive := fun _ => List γ → Bool) (fun ys => nilB ys) (fun _ _ ih ys => List.rec (motive := fun _ => Bool) false (fun _ r _ => ih r) ys) xs

/-! ### expressions -/
def eBad : Ev := fun _ _ _ => .er
def eVar (i : Nat) : Ev := fun _ σ s => En.get .er (fun t => .v t s) i σ
def eCst (t : T) : Ev := fun _ _ s => .v t s
def eInt (n : Nat) : Ev := fun _ _ s => .v (.int (.ofNat n)) s
def mkI (i : Int) (s : Sto) : Res := frI i fun i => .v (.int i) s
def szOk (n : Nat) : Bool := Nat.ble n 16777216
def getL (e : Res) (s : Sto) (n : Nat) (k : List T → Res) : Res := getO e s n fun o => onOb o k fun _ _ => e
def opAdd (x y : T) (s : Sto) : Res := onT x .er (fun _ => .er) (fun i => onInt .er y fun j => mkI (iAdd i j) s)
  (fun a => onT y .er (fun _ => .er) (fun _ => .er) (fun b => lenK a 0 fun n => lenK b n fun m => ifB (szOk m) (.v (.str (a ++ b)) s) .er) (fun _ => .er) (fun _ => .er))
  (fun a => onT y .er (fun _ => .er) (fun _ => .er) (fun _ => .er) (fun b => lenK a 0 fun n => lenK b n fun m => ifB (szOk m) (catK a b fun c => .v (.tup c) s) .er) (fun _ => .er))
  (fun a => onT y .er (fun _ => .er) (fun _ => .er) (fun _ => .er) (fun _ => .er) (fun b => getL .er s a fun xs => getL .er s b fun ys => lenK xs 0 fun n => lenK ys n fun m => ifB (szOk m) (catK xs ys fun c => .nl c s) .er))
/-- += -/
def opAddI (x y : T) (s : Sto) : Res := onT x .er (fun _ => .er) (fun i => onInt .er y fun j => mkI (iAdd i j) s)
  (fun a => onT y .er (fun _ => .er) (fun _ => .er) (fun b => lenK a 0 fun n => lenK b n fun m => ifB (szOk m) (.v (.str (a ++ b)) s) .er) (fun _ => .er) (fun _ => .er)) (fun _ => .er) (fun _ => .er)
def opSub (x y : T) (s : Sto) : Res := onInt .er x fun i => onInt .er y fun j => mkI (iAdd i (iNeg j)) s
def repK {α : Type} (xs : List T) (n : Nat) : (List T → α) → α := Nat.rec (motive := fun _ => (List T → α) → α) (fun k => k []) (fun _ ih k => ih fun r => catK xs r k) n
def opMul (x y : T) (s : Sto) : Res := onT x .er (fun _ => .er) (fun i => onInt .er y fun j => ifB (iSm i) (mkI (Int.mul i j) s) (ifB (iSm j) (mkI (Int.mul i j) s) .er)) (fun _ => .er)
  (fun a => onInt .er y fun j => ifB (iMd j) (ifB (ifB (nilB a) true (iEq j (.ofNat 1))) (.v x s) (ifB (Nat.ble (Int.toNat j) 0) (.v (.tup []) s) (lenK a 0 fun n => ifB (Nat.ble n 1000) (ifB (Nat.ble (Int.toNat j) 1000) (repK a j.toNat fun c => .v (.tup c) s) .er) .er))) .er)
  (fun a => onInt .er y fun j => getL .er s a fun xs => ifB (iMd j) (lenK xs 0 fun n => ifB (szOk (Nat.mul n j.toNat)) (repK xs j.toNat fun c => .nl c s) .er) .er)
def opDiv (x y : T) (s : Sto) : Res := onInt .er x fun i => onInt .er y fun j => ifB (iEq j (.ofNat 0)) .er (ifB (iTn j) (mkI (Int.fdiv i j) s) .er)
def opMod (x y : T) (s : Sto) : Res := onInt .er x fun i => onInt .er y fun j => ifB (iEq j (.ofNat 0)) .er (mkI (Int.fmod i j) s)
def eBin (o : T → T → Sto → Res) (A B : Ev) : Ev := fun c σ s => bnd .er (A c σ s) fun x s => bnd .er (B c σ s) fun y s => o x y s
def eNeg (A : Ev) : Ev := fun c σ s => bnd .er (A c σ s) fun x s => onInt .er x fun i => mkI (iNeg i) s
/-! ### truth -/
def tru (t : T) (s : Sto) : TR := onT t (.ok false s) (fun b => .ok b s) (fun i => Int.rec (motive := fun _ => TR) (fun n => Nat.rec (motive := fun _ => TR) (.ok false s) (fun _ _ => .ok true s) n) (fun _ => .ok true s) i)
  (fun xs => lenK xs 0 fun n => ifB (szOk n) (.ok (ifB (nilB xs) false true) s) .er) (fun xs => .ok (ifB (nilB xs) false true) s) (fun n => getO .er s n fun o => onOb o (fun xs => .ok (ifB (nilB xs) false true) s) fun _ _ => .er)
def tVal (A : Ev) : Tv := fun c σ s => bnd .er (A c σ s) tru
def tNot (A : Tv) : Tv := fun c σ s => bndT .er (A c σ s) fun b s => .ok (ifB b false true) s
def tAnd (A B : Tv) : Tv := fun c σ s => bndT .er (A c σ s) fun b s => ifB b (B c σ s) (.ok false s)
def tOr (A B : Tv) : Tv := fun c σ s => bndT .er (A c σ s) fun b s => ifB b (.ok true s) (B c σ s)
def eTst (A : Tv) : Ev := fun c σ s => bndT .er (A c σ s) fun b s => .v (.bl b) s
def eIte (C : Tv) (A B : Ev) : Ev := fun c σ s => bndT .er (C c σ s) fun b s => ifB b (A c σ s) (B c σ s)
/-- x and y, x or y as values -/
def eAnd (A B : Ev) : Ev := fun c σ s => bnd .er (A c σ s) fun x s => bndT .er (tru x s) fun b s => ifB b (B c σ s) (.v x s)
def eOr (A B : Ev) : Ev := fun c σ s => bnd .er (A c σ s) fun x s => bndT .er (tru x s) fun b s => ifB b (.v x s) (B c σ s)
/-! ### comparisons -/
abbrev Co := T → T → Sto → Option Bool
def getLo (s : Sto) (n : Nat) (k : List T → Option Bool) : Option Bool := getO none s n fun o => onOb o k fun _ _ => none
/-- a value's data, lists too -/
inductive D where
  | non | bl (b : Bool) | int (i : Int) | str (s : List Nat) | lst (ds : List D) | tup (ds : List D)
section
variable {α : Type}
def deepL (f : T → (D → α) → α) (ts : List T) : (List D → α) → α := List.rec (motive := fun _ => (List D → α) → α) (fun k => k []) (fun x _ ih k => f x fun d => ih fun ds => k (d :: ds)) ts
def chK (xs : List Nat) : Bool := List.rec (motive := fun _ => Bool) true (fun x _ r => ifB (Nat.blt x 1114112) r false) xs
def deepK (e : α) (s : Sto) (n : Nat) : T → (D → α) → α := Nat.rec (motive := fun _ => T → (D → α) → α) (fun _ _ => e)
  (fun _ ih t k => onT t (k .non) (fun b => k (.bl b)) (fun i => k (.int i)) (fun x => ifB (chK x) (k (.str x)) e) (fun ts => deepL ih ts fun ds => k (.tup ds)) (fun m => getO e s m fun o => onOb o (fun ts => deepL ih ts fun ds => k (.lst ds)) fun _ _ => e)) n
def onD (t : D) (a : α) (b : Bool → α) (i : Int → α) (s : List Nat → α) (l u : List D → α) : α :=
  D.rec (motive_1 := fun _ => α) (motive_2 := fun _ => Unit) a b i s (fun ts _ => l ts) (fun ts _ => u ts) () (fun _ _ _ _ => ()) t
end
def b2I (b : Bool) : Int := ifB b (.ofNat 1) (.ofNat 0)
def dEq (a : D) : D → Bool :=
  D.rec (motive_1 := fun _ => D → Bool) (motive_2 := fun _ => List D → Bool)
    (fun b => onD b true (fun _ => false) (fun _ => false) (fun _ => false) (fun _ => false) (fun _ => false))
    (fun x b => onD b false (fun y => bEq x y) (fun j => iEq (b2I x) j) (fun _ => false) (fun _ => false) (fun _ => false))
    (fun x b => onD b false (fun y => iEq x (b2I y)) (fun j => iEq x j) (fun _ => false) (fun _ => false) (fun _ => false))
    (fun x b => onD b false (fun _ => false) (fun _ => false) (fun y => natsEq x y) (fun _ => false) (fun _ => false))
    (fun _ ih b => onD b false (fun _ => false) (fun _ => false) (fun _ => false) (fun ys => ih ys) (fun _ => false))
    (fun _ ih b => onD b false (fun _ => false) (fun _ => false) (fun _ => false) (fun _ => false) (fun ys => ih ys))
    (fun ys => List.rec (motive := fun _ => Bool) true (fun _ _ _ => false) ys)
    (fun _ _ ihx ihr ys => List.rec (motive := fun _ => Bool) false (fun y r _ => ifB (ihx y) (ihr r) false) ys) a
def coDeep (a b : T) (s : Sto) : Option Bool := deepK none s 50 a fun x => deepK none s 50 b fun y => some (dEq x y)
/-- lists of unlike lengths -/
def coLn (a b : T) (s : Sto) (n m : Nat) : Option Bool := getO none s n fun o => onOb o (fun xs => getO none s m fun o' => onOb o' (fun ys => ifB (lenEq xs ys) (coDeep a b s) (some false)) fun _ _ => none) fun _ _ => none
def coEq : Co := fun a b s => onT a (coDeep a b s) (fun _ => coDeep a b s)
    (fun x => onT b (some false) (fun _ => coDeep a b s) (fun y => some (iEq x y)) (fun _ => coDeep a b s) (fun _ => coDeep a b s) (fun _ => coDeep a b s))
    (fun x => onT b (some false) (fun _ => coDeep a b s) (fun _ => coDeep a b s) (fun y => some (natsEq x y)) (fun _ => coDeep a b s) (fun _ => coDeep a b s))
    (fun _ => coDeep a b s) (fun n => onT b (coDeep a b s) (fun _ => coDeep a b s) (fun _ => coDeep a b s) (fun _ => coDeep a b s) (fun _ => coDeep a b s) fun m => coLn a b s n m)
def negO (o : Option Bool) : Option Bool := onOp o none fun b => some (ifB b false true)
def coNe : Co := fun a b s => negO (coEq a b s)
def coLt : Co := fun a b _ => tLtC a b
def coGt : Co := fun a b _ => onT a none (fun _ => none) (fun i => onT b none (fun _ => none) (fun j => some (iLt j i)) (fun _ => none) (fun _ => none) (fun _ => none)) (fun _ => none) (fun _ => none) (fun _ => none)
def coLe : Co := fun a b _ => onT a none (fun _ => none) (fun i => onT b none (fun _ => none) (fun j => some (ifB (iLt j i) false true)) (fun _ => none) (fun _ => none) (fun _ => none)) (fun _ => none) (fun _ => none) (fun _ => none)
def coGe : Co := fun a b _ => onT a none (fun _ => none) (fun i => onT b none (fun _ => none) (fun j => some (ifB (iLt i j) false true)) (fun _ => none) (fun _ => none) (fun _ => none)) (fun _ => none) (fun _ => none) (fun _ => none)
def isNon (x : T) : Bool := onT x true (fun _ => false) (fun _ => false) (fun _ => false) (fun _ => false) (fun _ => false)
def coIs : Co := fun x y _ => ifB (isNon y) (some (isNon x)) none
def coIsn : Co := fun x y _ => ifB (isNon y) (some (ifB (isNon x) false true)) none
def memD (x : D) (ys : List D) : Bool := List.rec (motive := fun _ => Bool) false (fun y _ ih => ifB (dEq y x) true ih) ys
def memP (x : T) (xs : List T) (s : Sto) : Option Bool := deepK none s 50 x fun d => deepL (deepK none s 49) xs fun ds => some (memD d ds)
/-- a dict's value -/
def keyG (x : T) (kvs : List (T × T)) : Option T := List.rec (motive := fun _ => Option T) none (fun p _ ih => Prod.rec (motive := fun _ => Option T) (fun k v => onOp (tEq k x) none fun q => ifB q (some v) ih) p) kvs
/-- a key: an int, a text; a tuple of such -/
def kP (x : T) : Bool := onT x false (fun _ => false) (fun _ => true) (fun _ => true) (fun _ => false) (fun _ => false)
def kT (x : T) : Bool := onT x false (fun _ => false) (fun _ => false) (fun _ => false) (fun ts => List.rec (motive := fun _ => Bool) true (fun y _ r => ifB (kP y) r false) ts) (fun _ => false)
def memC (c : Nat) (cs : List Nat) : Bool := List.rec (motive := fun _ => Bool) false (fun d _ ih => ifB (Nat.beq d c) true ih) cs
/-- a text of one sign alone -/
def oneC (x : T) (k : Nat → Option Bool) : Option Bool := onT x none (fun _ => none) (fun _ => none) (fun cs => List.rec (motive := fun _ => Option Bool) none (fun c r _ => List.rec (motive := fun _ => Option Bool) (k c) (fun _ _ _ => none) r) cs) (fun _ => none) (fun _ => none)
def inG : Co := fun x y s => onT y none (fun _ => none) (fun _ => none)
  (fun cs => oneC x fun c => some (memC c cs))
  (fun xs => memP x xs s) (fun n => getO none s n fun o => onOb o (fun xs => memP x xs s) fun b kvs => ifB (ifB b (kT x) (kP x)) (some (Option.isSome (keyG x kvs))) none)
def ninG : Co := fun x y s => negO (inG x y s)
def tCmp (o : Co) (A B : Ev) : Tv := fun c σ s => bnd .er (A c σ s) fun x s => bnd .er (B c σ s) fun y s => onOp (o x y s) .er fun b => .ok b s
def tCmp2 (o1 o2 : Co) (A B C : Ev) : Tv := fun c σ s => bnd .er (A c σ s) fun x s => bnd .er (B c σ s) fun y s => onOp (o1 x y s) .er fun b => ifB b (bnd .er (C c σ s) fun z s => onOp (o2 y z s) .er fun b => .ok b s) (.ok false s)
/-! ### displays, calls -/
def aNil : Av := fun _ _ s => .ok [] s
def aCons (A : Ev) (R : Av) : Av := fun c σ s => bnd .er (A c σ s) fun x s => bndL .er (R c σ s) fun xs s => .ok (x :: xs) s
def eTup (R : Av) : Ev := fun c σ s => bndL .er (R c σ s) fun xs s => .v (.tup xs) s
def eLst (R : Av) : Ev := fun c σ s => bndL .er (R c σ s) fun xs s => .nl xs s
def eCall (f : Nat) (R : Av) : Ev := fun c σ s => bndL .er (R c σ s) fun xs s => c f xs s
def permK (p : List Nat) (xs : List T) : (List T → Res) → Res := List.rec (motive := fun _ => (List T → Res) → Res) (fun k => k []) (fun i _ ih k => nthK .er (fun t => ih fun r => k (t :: r)) i xs) p
def eCallP (f : Nat) (p : List Nat) (R : Av) : Ev := fun c σ s => bndL .er (R c σ s) fun xs s => permK p xs fun xs => c f xs s
/-- keywords behind the values by position -/
def eCallK (f : Nat) (p : List Nat) (R RK : Av) : Ev := fun c σ s => bndL .er (R c σ s) fun xs s => bndL .er (RK c σ s) fun ys s => catK xs ys fun zs => permK p zs fun us => c f us s
/-! ### subscripts, slices -/
def getD (y : T) (kvs : List (T × T)) (s : Sto) : Res := onOp (keyG y kvs) .er fun t => .v t s
def getIx (x y : T) (s : Sto) : Res := onT x .er (fun _ => .er) (fun _ => .er)
  (fun cs => onInt .er y fun i => lenK cs 0 fun n => ifB (szOk n) (ixK .er n i fun j => nthK .er (fun d => .v (.str [d]) s) j cs) .er)
  (fun xs => onInt .er y fun i => lenK xs 0 fun n => ixK .er n i fun j => nthK .er (fun t => .v t s) j xs)
  (fun m => getO .er s m fun o => onOb o (fun xs => onInt .er y fun i => lenK xs 0 fun n => ixK .er n i fun j => nthK .er (fun t => .v t s) j xs)
    (fun b kvs => ifB (ifB b (kT y) (kP y)) (getD y kvs s) .er))
/-- of a list, of a dict alone -/
def getIxS (x y : T) (s : Sto) : Res := onT x .er (fun _ => .er) (fun _ => .er) (fun _ => .er) (fun _ => .er)
  (fun m => getO .er s m fun o => onOb o (fun xs => onInt .er y fun i => lenK xs 0 fun n => ixK .er n i fun j => nthK .er (fun t => .v t s) j xs)
    (fun b kvs => ifB (ifB b (kT y) (kP y)) (getD y kvs s) .er))
def eIdx (A B : Ev) : Ev := eBin getIx A B
inductive OR where
  | er | ok (o : Option Int) (s : Sto)
def bndO {α : Type} (e : α) (m : OR) (k : Option Int → Sto → α) : α := OR.rec (motive := fun _ => α) e k m
abbrev Ov := Cf → En → Sto → OR
def oNone : Ov := fun _ _ s => .ok none s
def oSome (A : Ev) : Ov := fun c σ s => bnd .er (A c σ s) fun x s => onInt .er x fun i => .ok (some i) s
def cutK {β : Type} (lo hi : Option Int) (xs : List β) (k : List β → Res) : Res := lenK xs 0 fun n =>
  Option.rec (motive := fun _ => (Nat → Res) → Res) (fun k => k 0) (fun i k => sbK n i k) lo fun a =>
  Option.rec (motive := fun _ => (Nat → Res) → Res) (fun k => k n) (fun i k => sbK n i k) hi fun b => takeK (Nat.sub b a) (dropK a xs) k
def cutR (lo hi : Option Int) (x : T) (s : Sto) : Res := onT x .er (fun _ => .er) (fun _ => .er) (fun cs => lenK cs 0 fun n => ifB (szOk n) (cutK lo hi cs fun r => .v (.str r) s) .er) (fun xs => cutK lo hi xs fun r => .v (.tup r) s)
  (fun n => getL .er s n fun xs => cutK lo hi xs fun r => .nl r s)
def eSl (A : Ev) (L H : Ov) : Ev := fun c σ s => bnd .er (A c σ s) fun x s => bndO .er (L c σ s) fun lo s => bndO .er (H c σ s) fun hi s => cutR lo hi x s
def revR (x : T) (s : Sto) : Res := onT x .er (fun _ => .er) (fun _ => .er) (fun _ => .er) (fun xs => revK xs [] fun r => .v (.tup r) s) (fun n => getL .er s n fun xs => revK xs [] fun r => .nl r s)
def eRev (A : Ev) : Ev := fun c σ s => bnd .er (A c σ s) revR
/-! ### builtins over a sequence's items -/
def seqT {α : Type} (b : Bool) (t : T) (s : Sto) (e : α) (k : List T → α) : α := onT t e (fun _ => e) (fun _ => e) (fun _ => e) (fun ts => ifB b (k ts) e) (fun n => getO e s n fun o => onOb o k fun _ _ => e)
def seqR {α : Type} (b : Bool) (e : α) (m : Res) (k : List T → Sto → α) : α := Res.rec (motive := fun _ => α) e (fun t s => seqT b t s e fun xs => k xs s) k m
/-- b: a tuple too -/
def eSq (b : Bool) (f : List T → Sto → Res) (A : Ev) : Ev := fun c σ s => seqR b .er (A c σ s) f
/-- len of a text too -/
def eLen (A : Ev) : Ev := fun c σ s => Res.rec (motive := fun _ => Res) .er (fun t s => onT t .er (fun _ => .er) (fun _ => .er) (fun cs => lenK cs 0 fun n => ifB (szOk n) (.v (.int (.ofNat n)) s) .er) (fun xs => lenK xs 0 fun n => .v (.int (.ofNat n)) s) (fun n => getL .er s n fun xs => lenK xs 0 fun n => .v (.int (.ofNat n)) s)) (fun xs s => lenK xs 0 fun n => .v (.int (.ofNat n)) s) (A c σ s)
def bLen : List T → Sto → Res := fun xs s => lenK xs 0 fun n => .v (.int (.ofNat n)) s
def bTuple : List T → Sto → Res := fun xs s => .v (.tup xs) s
def bList : List T → Sto → Res := fun xs s => .nl xs s
def sumK (xs : List T) : Int → (Int → Res) → Res := List.rec (motive := fun _ => Int → (Int → Res) → Res) (fun a k => k a) (fun x _ ih a k => onInt .er x fun i => frI (iAdd a i) fun a => ih a k) xs
def bSum : List T → Sto → Res := fun xs s => sumK xs (.ofNat 0) fun i => .v (.int i) s
/-! plain data: ints, texts, tuples of such -/
def natsLt (a : List Nat) : List Nat → Bool := List.rec (motive := fun _ => List Nat → Bool) (fun b => ifB (nilB b) false true) (fun x _ ih b => List.rec (motive := fun _ => Bool) false (fun y r _ => ifB (Nat.beq x y) (ih r) (Nat.blt x y)) b) a
def teq (a : T) : T → Bool :=
  T.rec (motive_1 := fun _ => T → Bool) (motive_2 := fun _ => List T → Bool) (fun _ => false) (fun _ _ => false)
    (fun x b => onT b false (fun _ => false) (fun y => iEq x y) (fun _ => false) (fun _ => false) (fun _ => false))
    (fun x b => onT b false (fun _ => false) (fun _ => false) (fun y => natsEq x y) (fun _ => false) (fun _ => false))
    (fun _ ih b => onT b false (fun _ => false) (fun _ => false) (fun _ => false) (fun ys => ih ys) (fun _ => false))
    (fun _ _ => false)
    (fun ys => nilB ys)
    (fun _ _ ihx ihr ys => List.rec (motive := fun _ => Bool) false (fun y r _ => ifB (ihx y) (ihr r) false) ys) a
def tlt (a : T) : T → Bool :=
  T.rec (motive_1 := fun _ => T → Bool) (motive_2 := fun _ => List T → Bool) (fun _ => false) (fun _ _ => false)
    (fun x b => onT b false (fun _ => false) (fun y => iLt x y) (fun _ => false) (fun _ => false) (fun _ => false))
    (fun x b => onT b false (fun _ => false) (fun _ => false) (fun y => natsLt x y) (fun _ => false) (fun _ => false))
    (fun _ ih b => onT b false (fun _ => false) (fun _ => false) (fun _ => false) (fun ys => ih ys) (fun _ => false))
    (fun _ _ => false)
    (fun ys => ifB (nilB ys) false true)
    (fun x _ ihx ihr ys => List.rec (motive := fun _ => Bool) false (fun y r _ => ifB (teq x y) (ihr r) (ihx y)) ys) a
/-- of one build, as far as both go -/
def tal (a : T) : T → Bool :=
  T.rec (motive_1 := fun _ => T → Bool) (motive_2 := fun _ => List T → Bool) (fun _ => false) (fun _ _ => false)
    (fun _ b => onT b false (fun _ => false) (fun _ => true) (fun _ => false) (fun _ => false) (fun _ => false))
    (fun _ b => onT b false (fun _ => false) (fun _ => false) (fun _ => true) (fun _ => false) (fun _ => false))
    (fun _ ih b => onT b false (fun _ => false) (fun _ => false) (fun _ => false) (fun ys => ih ys) (fun _ => false))
    (fun _ _ => false)
    (fun _ => true)
    (fun _ _ ihx ihr ys => List.rec (motive := fun _ => Bool) true (fun y r _ => ifB (ihx y) (ihr r) false) ys) a
def chKd (xs : List Nat) : Bool := List.rec (motive := fun _ => Bool) true (fun x _ r => ifB (Nat.blt x 1114112) r false) xs
/-- plain, at most n deep -/
def plD (n : Nat) : T → Bool := Nat.rec (motive := fun _ => T → Bool) (fun _ => false) (fun _ ih t => onT t false (fun _ => false) (fun _ => true) (fun x => chKd x) (fun ts => List.rec (motive := fun _ => Bool) true (fun x _ r => ifB (ih x) r false) ts) (fun _ => false)) n
def allB (f : T → Bool) (xs : List T) : Bool := List.rec (motive := fun _ => Bool) true (fun x _ r => ifB (f x) r false) xs
/-- a tuple of ints -/
def isTI (t : T) : Bool := onT t false (fun _ => false) (fun _ => false) (fun _ => false) (fun ts => allI ts) (fun _ => false)
def isTu (t : T) : Bool := onT t false (fun _ => false) (fun _ => false) (fun _ => false) (fun _ => true) (fun _ => false)
def prs (xs : List T) : Bool := allB (fun x => allB (tal x) xs) xs
def okD (xs : List T) : Bool := ifB (allI xs) true (ifB (allB isTI xs) true (ifB (allB isTu xs) (ifB (allB (plD 40) xs) (prs xs) false) false))
def insD (x : T) (ys : List T) : (List T → Res) → Res := List.rec (motive := fun _ => (List T → Res) → Res) (fun k => k [x]) (fun y r ih k => ifB (tlt y x) (ih fun r' => k (y :: r')) (k (x :: y :: r))) ys
def srtD (xs : List T) : (List T → Res) → Res := List.rec (motive := fun _ => (List T → Res) → Res) (fun k => k []) (fun x _ ih k => ih fun ys => insD x ys k) xs
def bSorted : List T → Sto → Res := fun xs s => ifB (okD xs) (srtD xs fun r => .nl r s) .er
/-- into a row without twice -/
def insV (x : T) (ys : List T) : (List T → Res) → Res := List.rec (motive := fun _ => (List T → Res) → Res) (fun k => k [x]) (fun y r ih k => ifB (tlt x y) (k (x :: y :: r)) (ifB (teq x y) (k (y :: r)) (ih fun r' => k (y :: r')))) ys
def srtV (xs : List T) : (List T → Res) → Res := List.rec (motive := fun _ => (List T → Res) → Res) (fun k => k []) (fun x _ ih k => ih fun ys => insV x ys k) xs
def okS (xs : List T) : Bool := lenK xs 0 fun n => ifB (Nat.blt n 64) (ifB (allI xs) true (allB isTI xs)) false
def bSset : List T → Sto → Res := fun xs s => ifB (okS xs) (srtV xs fun r => .nl r s) .er
def bLset : List T → Sto → Res := fun xs s => ifB (okS xs) (srtV xs fun r => lenK r 0 fun n => .v (.int (.ofNat n)) s) .er
def extK (b : Bool) (xs : List T) : T → (T → Res) → Res := List.rec (motive := fun _ => T → (T → Res) → Res) (fun m k => k m) (fun x _ ih m k => ifB (ifB b (tlt m x) (tlt x m)) (ih x k) (ih m k)) xs
def okE (xs : List T) : Bool := ifB (allB (plD 40) xs) (okD xs) false
def bExt (b : Bool) : List T → Sto → Res := fun xs s => ifB (okE xs) (List.rec (motive := fun _ => Res) .er (fun x r _ => extK b r x fun m => .v m s) xs) .er
/-- True, False or an int-/
def bitK (x : T) (k : Bool → Res) : Res := onT x .er k (fun i => k (ifB (iEq i (.ofNat 0)) false true)) (fun _ => .er) (fun _ => .er) (fun _ => .er)
def allK (xs : List T) : (Bool → Res) → Res := List.rec (motive := fun _ => (Bool → Res) → Res) (fun k => k true) (fun x _ ih k => bitK x fun b => ih fun q => k (ifB b q false)) xs
def anyK (xs : List T) : (Bool → Res) → Res := List.rec (motive := fun _ => (Bool → Res) → Res) (fun k => k false) (fun x _ ih k => bitK x fun b => ih fun q => k (ifB b true q)) xs
def bAll : List T → Sto → Res := fun xs s => allK xs fun b => .v (.bl b) s
def bAny : List T → Sto → Res := fun xs s => anyK xs fun b => .v (.bl b) s
/-! ### builtins over values -/
def eOne (f : T → Sto → Res) (A : Ev) : Ev := fun c σ s => bnd .er (A c σ s) f
def vExt2 (b : Bool) : T → T → Sto → Res := fun x y s => onInt .er x fun i => onInt .er y fun j => ifB (ifB b (iLt i j) (iLt j i)) (.v (.int j) s) (.v (.int i) s)
def vAbs : T → Sto → Res := fun x s => onInt .er x fun i => Int.rec (motive := fun _ => Res) (fun n => .v (.int (.ofNat n)) s) (fun n => .v (.int (.ofNat (Nat.succ n))) s) i
def vInt : T → Sto → Res := fun x s => onT x .er (fun b => ifB b (.v (.int (.ofNat 1)) s) (.v (.int (.ofNat 0)) s)) (fun i => .v (.int i) s) (fun _ => .er) (fun _ => .er) (fun _ => .er)
def fallN (n k : Nat) : Nat := Nat.rec (motive := fun _ => Nat) 1 (fun i ih => Nat.mul ih (Nat.sub n i)) k
def combN (n k : Nat) : Nat := ifB (Nat.blt n k) 0 (Nat.div (fallN n (ifB (Nat.ble k (Nat.sub n k)) k (Nat.sub n k))) (fallN (ifB (Nat.ble k (Nat.sub n k)) k (Nat.sub n k)) (ifB (Nat.ble k (Nat.sub n k)) k (Nat.sub n k))))
def vComb : T → T → Sto → Res := fun x y s => onInt .er x fun i => onInt .er y fun j => ifB (iLt i (.ofNat 0)) .er (ifB (iLt j (.ofNat 0)) .er (ifB (Nat.ble i.toNat 10000) (ifB (Nat.ble j.toNat 9000) (frN (combN i.toNat j.toNat) fun n => .v (.int (.ofNat n)) s) .er) .er))
def vGcd : T → T → Sto → Res := fun x y s => onInt .er x fun i => onInt .er y fun j => frN (Nat.gcd (Int.natAbs i) (Int.natAbs j)) fun n => .v (.int (.ofNat n)) s
/-! list(zip(*rows)) -/
def rowsK (s : Sto) (ts : List T) : (List (List T) → Res) → Res := List.rec (motive := fun _ => (List (List T) → Res) → Res) (fun k => k []) (fun x _ ih k => seqT true x s .er fun xs => ih fun r => k (xs :: r)) ts
def allLen (m : Nat) (rows : List (List T)) : Bool := List.rec (motive := fun _ => Bool) true (fun x _ ih => lenK x 0 fun n => ifB (Nat.beq n m) ih false) rows
def hdsK (rows : List (List T)) : (List T → List (List T) → Res) → Res := List.rec (motive := fun _ => (List T → List (List T) → Res) → Res) (fun k => k [] []) (fun x _ ih k => List.rec (motive := fun _ => Res) .er (fun y ys _ => ih fun hs ts => k (y :: hs) (ys :: ts)) x) rows
def trK (m : Nat) : List (List T) → (List T → Res) → Res := Nat.rec (motive := fun _ => List (List T) → (List T → Res) → Res) (fun _ k => k []) (fun _ ih rows k => hdsK rows fun hs tls => ih tls fun cs => k (.tup hs :: cs)) m
def bZips : List T → Sto → Res := fun ts s => rowsK s ts fun rows => List.rec (motive := fun _ => Res) (.nl [] s) (fun r0 _ _ => lenK r0 0 fun m => ifB (allLen m rows) (trK m rows fun cs => .nl cs s) .er) rows
/-! list(range(n)), tuple(range(n)) -/
def rgK (n : Nat) : (List T → Res) → Res := Nat.rec (motive := fun _ => (List T → Res) → Res) (fun k => k []) (fun m ih k => ih fun r => appK r (.int (.ofNat m)) k) n
def eRg (b : Bool) (A : Ev) : Ev := fun c σ s => bnd .er (A c σ s) fun x s => onInt .er x fun i => ifB (iTn i) (ifB (Nat.ble i.toNat 10000) (rgK i.toNat fun r => ifB b (.v (.tup r) s) (.nl r s)) .er) .er
/-! ### isinstance: int 0, bool 1, str 2, tuple 3, list 4 -/
def isB (f : Nat → Bool) (ts : List Nat) : Bool := List.rec (motive := fun _ => Bool) false (fun t _ ih => ifB (f t) true ih) ts
def tIsin (A : Ev) (ts : List Nat) : Tv := fun c σ s => bnd .er (A c σ s) fun t s => onT t (.ok false s) (fun _ => .ok (isB (fun n => Nat.ble n 1) ts) s) (fun _ => .ok (isB (fun n => Nat.beq n 0) ts) s) (fun _ => .ok (isB (fun n => Nat.beq n 2) ts) s) (fun _ => .ok (isB (fun n => Nat.beq n 3) ts) s)
  (fun n => getO .er s n fun o => onOb o (fun _ => .ok (isB (fun n => Nat.beq n 4) ts) s) fun _ _ => .er)
/-! ### dicts -/
def mapD {α : Type} (e : α) (k v : T) (kvs : List (T × T)) : (List (T × T) → α) → α := List.rec (motive := fun _ => (List (T × T) → α) → α) (fun q => q []) (fun p r ih q => onOp (tEq p.1 k) e fun b => ih fun r' => q ((p.1, ifB b v p.2) :: r')) kvs
def putD {α : Type} (e : α) (k v : T) (kvs : List (T × T)) : (List (T × T) → α) → α := List.rec (motive := fun _ => (List (T × T) → α) → α) (fun q => q [(k, v)]) (fun p r ih q => onOp (tEq p.1 k) e fun b => ifB b (mapD e k v r fun r' => q ((p.1, v) :: r')) (ih fun r' => q ((p.1, p.2) :: r'))) kvs
/-- {}: to be keyed by ints and texts (false), by tuples (true) -/
def eDict0 (b : Bool) : Ev := fun _ _ s => alloc (.d b []) s fun t s => .v t s
/-! dicts: {k: v}, get, setdefault -/
def onDct (t : T) (s : Sto) (k : Nat → Res) : Res := onT t .er (fun _ => .er) (fun _ => .er) (fun _ => .er) (fun _ => .er) fun n => getO .er s n fun o => onOb o (fun _ => .er) fun _ _ => k n
def gDef (z y : T) (kvs : List (T × T)) (s : Sto) : Res := Option.rec (motive := fun _ => Res) (.v z s) (fun t => .v t s) (keyG y kvs)
def eGet1 (O A : Ev) : Ev := fun c σ s => bnd .er (O c σ s) fun x s => onDct x s fun n => bnd .er (A c σ s) fun y s => getO .er s n fun o => onOb o (fun _ => .er) fun b kvs => ifB (ifB b (kT y) (kP y)) (gDef .non y kvs s) .er
def eGet2 (O A B : Ev) : Ev := fun c σ s => bnd .er (O c σ s) fun x s => onDct x s fun n => bnd .er (A c σ s) fun y s => bnd .er (B c σ s) fun z s => getO .er s n fun o => onOb o (fun _ => .er) fun b kvs => ifB (ifB b (kT y) (kP y)) (gDef z y kvs s) .er
def sDef (b : Bool) (z y : T) (n : Nat) (kvs : List (T × T)) (s : Sto) : Res := Option.rec (motive := fun _ => Res) (putD .er y z kvs fun kvs => setO .er s n (.d b kvs) fun s => .v z s) (fun t => .v t s) (keyG y kvs)
def eSetd (O A B : Ev) : Ev := fun c σ s => bnd .er (O c σ s) fun x s => onDct x s fun n => bnd .er (A c σ s) fun y s => bnd .er (B c σ s) fun z s => getO .er s n fun o => onOb o (fun _ => .er) fun b kvs => ifB (ifB b (kT y) (kP y)) (lenK kvs 0 fun l => ifB (Nat.blt l 16777216) (sDef b z y n kvs s) .er) .er
def nilD (kvs : List (T × T)) (k : Res) : Res := List.rec (motive := fun _ => Res) k (fun _ _ _ => .er) kvs
def eDict1 (K W : Ev) : Ev := fun c σ s => alloc (.d false []) s fun t s => bnd .er (K c σ s) fun y s => bnd .er (W c σ s) fun z s => onT t .er (fun _ => .er) (fun _ => .er) (fun _ => .er) (fun _ => .er) fun n => getO .er s n fun o => onOb o (fun _ => .er) fun b kvs => ifB b .er (nilD kvs (ifB (kP y) (setO .er s n (.d false [(y, z)]) fun s => .v t s) .er))
/-! ### what a loop walks -/
abbrev Iv := Cf → En → Sto → IR
/-- the heads of lists at a place, if all go on -/
def hdsN (s : Sto) (i : Nat) (ns : List Nat) : (List T → NR) → NR := List.rec (motive := fun _ => (List T → NR) → NR) (fun k => k []) (fun n _ ih k => getO .er s n fun o => onOb o (fun xs => List.rec (motive := fun _ => NR) .er (fun x _ _ => ih fun r => k (x :: r)) (dropK i xs)) fun _ _ => .er) ns
def endN (s : Sto) (i : Nat) (ns : List Nat) : NR := List.rec (motive := fun _ => NR) .done (fun n _ ih => getO .er s n fun o => onOb o (fun xs => lenK xs 0 fun l => ifB (Nat.beq l i) ih .er) fun _ _ => .er) ns
def zipsK (ns : List Nat) (i : Nat) (s : Sto) : NR := List.rec (motive := fun _ => NR) .done (fun n _ _ => getO .er s n fun o => onOb o (fun xs => List.rec (motive := fun _ => NR) (endN s i ns) (fun _ _ _ => hdsN s i ns fun hs => .it (.tup hs) (.zips ns (Nat.succ i))) (dropK i xs)) fun _ _ => .er) ns
def step (src : Src) : Sto → NR := Src.rec (motive := fun _ => Sto → NR)
  (fun ts _ => List.rec (motive := fun _ => NR) .done (fun x r _ => .it x (.fix r)) ts)
  (fun n i s => getO .er s n fun o => onOb o (fun xs => List.rec (motive := fun _ => NR) .done (fun x _ _ => .it x (.live n (Nat.succ i))) (dropK i xs)) fun _ _ => .er)
  (fun lo n _ => Nat.rec (motive := fun _ => NR) .done (fun m _ => frI lo fun lo => .it (.int lo) (.rng (iAdd lo (.ofNat 1)) m)) n)
  (fun lo st n _ => Nat.rec (motive := fun _ => NR) .done (fun m _ => frI lo fun lo => .it (.int lo) (.rng3 (iAdd lo st) st m)) n)
  (fun cs _ => List.rec (motive := fun _ => NR) .done (fun x r _ => .it (.str [x]) (.str r)) cs)
  (fun i _ ih s => NR.rec (motive := fun _ => NR) .er .done (fun x q => frN i fun i => .it (.tup [.int (.ofNat i), x]) (.enum (Nat.succ i) q)) (ih s))
  (fun _ _ iha ihb s => NR.rec (motive := fun _ => NR) .er (NR.rec (motive := fun _ => NR) .er .done (fun _ _ => .done) (ihb s)) (fun x q => NR.rec (motive := fun _ => NR) .er .done (fun y r => .it (.tup [x, y]) (.zip q r)) (ihb s)) (iha s))
  (fun ns i s => zipsK ns i s) src
/-- a sequence: a list just made, a tuple, a list of the store; a text -/
def srcR {α : Type} (e : α) (m : Res) (k : Src → Sto → α) : α := Res.rec (motive := fun _ => α) e (fun t s => onT t e (fun _ => e) (fun _ => e) (fun cs => k (.str cs) s) (fun xs => k (.fix xs) s) (fun n => getO e s n fun o => onOb o (fun _ => k (.live n 0) s) fun _ _ => e)) (fun xs s => k (.fix xs) s) m
/-- .. no text; true: a tuple -/
def srcQ {α : Type} (e : α) (m : Res) (k : Bool → Src → Sto → α) : α := Res.rec (motive := fun _ => α) e (fun t s => onT t e (fun _ => e) (fun _ => e) (fun _ => e) (fun xs => k true (.fix xs) s) (fun n => getO e s n fun o => onOb o (fun _ => k false (.live n 0) s) fun _ _ => e)) (fun xs s => k false (.fix xs) s) m
def iSeq (A : Ev) : Iv := fun c σ s => srcR .er (A c σ s) fun q s => .ok q s
def iRng1 (A : Ev) : Iv := fun c σ s => bnd .er (A c σ s) fun x s => onInt .er x fun i => ifB (iMd i) (.ok (.rng (.ofNat 0) i.toNat) s) .er
def iRng2 (A B : Ev) : Iv := fun c σ s => bnd .er (A c σ s) fun x s => bnd .er (B c σ s) fun y s => onInt .er x fun i => onInt .er y fun j => ifB (iMd i) (ifB (iMd j) (.ok (.rng i (iAdd j (iNeg i)).toNat) s) .er) .er
def iEnum (A : Ev) : Iv := fun c σ s => srcQ .er (A c σ s) fun b q s => .ok (.enum 0 q) s
/-- still a list? -/
def chkS (q : Src) (s : Sto) : Bool := Src.rec (motive := fun _ => Bool) (fun _ => true) (fun n _ => getO false s n fun o => onOb o (fun _ => true) fun _ _ => false) (fun _ _ => false) (fun _ _ _ => false) (fun _ => false) (fun _ _ _ => false) (fun _ _ _ _ => false) (fun _ _ => false) q
/-- the lists' names -/
def refsK (s : Sto) (xs : List T) : (List Nat → IR) → IR := List.rec (motive := fun _ => (List Nat → IR) → IR) (fun k => k []) (fun x _ ih k => onT x .er (fun _ => .er) (fun _ => .er) (fun _ => .er) (fun _ => .er) fun n => getO .er s n fun o => onOb o (fun _ => ih fun r => k (n :: r)) fun _ _ => .er) xs
def iZips (A : Ev) : Iv := fun c σ s => seqR true .er (A c σ s) fun xs s => refsK s xs fun ns => .ok (.zips ns 0) s
def iZip (A B : Ev) : Iv := fun c σ s => srcQ .er (A c σ s) fun b q s => srcQ .er (B c σ s) fun b' r s => ifB (chkS q s) (.ok (.zip q r) s) .er
/-! ### targets -/
def gN (i : Nat) : Gv := fun t _ σ s => En.set .er t i σ fun σ => .ok σ s
abbrev Gs := List T → Cf → En → Sto → GR
def gsNil : Gs := fun xs _ σ s => List.rec (motive := fun _ => GR) (.ok σ s) (fun _ _ _ => .er) xs
def gsCons (g : Gv) (r : Gs) : Gs := fun xs c σ s => List.rec (motive := fun _ => GR) .er (fun x q _ => bndG .er (g x c σ s) fun σ s => r q c σ s) xs
def gT (g : Gs) : Gv := fun t c σ s => onT t .er (fun _ => .er) (fun _ => .er) (fun _ => .er) (fun xs => g xs c σ s) (fun _ => .er)
/-- .. of a list -/
def gL (g : Gs) : Gv := fun t c σ s => onT t .er (fun _ => .er) (fun _ => .er) (fun _ => .er) (fun _ => .er) (fun n => getO .er s n fun o => onOb o (fun xs => g xs c σ s) fun _ _ => .er)
inductive UR where
  | er | ok (s : Sto)
def bndU {α : Type} (e : α) (m : UR) (k : Sto → α) : α := UR.rec (motive := fun _ => α) e k m
def stIx (o i v : T) (s : Sto) : UR := onT o .er (fun _ => .er) (fun _ => .er) (fun _ => .er) (fun _ => .er) fun n => getO .er s n fun ob => onOb ob
  (fun xs => onInt .er i fun i => lenK xs 0 fun l => ixK .er l i fun j => setK .er v j xs fun xs => setO .er s n (.l xs) fun s => .ok s)
  (fun b kvs => lenK kvs 0 fun l => ifB (Nat.blt l 16777216) (ifB (ifB b (kT i) (kP i)) (putD .er i v kvs fun kvs => setO .er s n (.d b kvs) fun s => .ok s) .er) .er)
def gS (O I : Ev) : Gv := fun t c σ s => bnd .er (O c σ s) fun o s => bnd .er (I c σ s) fun i s => bndU .er (stIx o i t s) fun s => .ok σ s
/-! ### comprehensions: own: the slots of their names -/
def wip (own : List Nat) (σ : En) : En := List.rec (motive := fun _ => En) σ (fun i _ ih => En.rec (motive := fun _ => Nat → En) (fun _ => .nil) (fun r ihr i => Nat.rec (motive := fun _ => En) (.u r) (fun j _ => .u (ihr j)) i) (fun t r ihr i => Nat.rec (motive := fun _ => En) (.u r) (fun j _ => .b t (ihr j)) i) ih i) own
/-- the turns: m as many as may be, z the room for the items; acc the items, the last one first -/
def cmpN (elt : Ev) (g : Gv) (t : Tv) (c : Cf) (σ : En) (m : Nat) : Src → Nat → List T → Sto → (Nat → List T → Sto → LR) → LR := Nat.rec (motive := fun _ => Src → Nat → List T → Sto → (Nat → List T → Sto → LR) → LR) (fun _ _ _ _ _ => .er)
  (fun _ ih src z acc s k => NR.rec (motive := fun _ => LR) .er (k z acc s) (fun x src => bndG .er (g x c σ s) fun e s => bndT .er (t c e s) fun b s => ifB b
    (bnd .er (elt c e s) fun y s => Nat.rec (motive := fun _ => LR) .er (fun z _ => ih src z (y :: acc) s k) z) (ih src z acc s k)) (step src s)) m
def eComp (own : List Nat) (elt : Ev) (g : Gv) (I : Iv) (t : Tv) : Ev := fun c σ s => IR.rec (motive := fun _ => Res) .er (fun src s => bndL .er (cmpN elt g t c (wip own σ) 10000000 src 16000000 [] s fun _ acc s => .ok acc s) fun acc s => revK acc [] fun r => .nl r s) (I c σ s)
def cmpN2 (elt : Ev) (g : Gv) (t : Tv) (own1 : List Nat) (g1 : Gv) (I1 : Iv) (t1 : Tv) (c : Cf) (σ : En) (m : Nat) : Src → Nat → List T → Sto → LR := Nat.rec (motive := fun _ => Src → Nat → List T → Sto → LR) (fun _ _ _ _ => .er)
  (fun _ ih src z acc s => NR.rec (motive := fun _ => LR) .er (.ok acc s) (fun x src => bndG .er (g x c σ s) fun e s => bndT .er (t c e s) fun b s => ifB b
    (IR.rec (motive := fun _ => LR) .er (fun src1 s => cmpN elt g1 t1 c (wip own1 e) 10000000 src1 z acc s fun z acc s => ih src z acc s) (I1 c e s)) (ih src z acc s)) (step src s)) m
def eComp2 (own own1 : List Nat) (elt : Ev) (g : Gv) (I : Iv) (t : Tv) (g1 : Gv) (I1 : Iv) (t1 : Tv) : Ev := fun c σ s => IR.rec (motive := fun _ => Res) .er (fun src s => bndL .er (cmpN2 elt g t own1 g1 I1 t1 c (wip own σ) 10000000 src 16000000 [] s) fun acc s => revK acc [] fun r => .nl r s) (I c σ s)
def tYes : Tv := fun _ _ s => .ok true s
/-! ### methods -/
def onLst (t : T) (s : Sto) (k : Nat → List T → Res) : Res := onT t .er (fun _ => .er) (fun _ => .er) (fun _ => .er) (fun _ => .er) fun n => getL .er s n fun xs => k n xs
def mAppend : T → T → Sto → Res := fun x y s => onLst x s fun n xs => lenK xs 0 fun l => ifB (Nat.blt l 16777216) (appK xs y fun xs => setO .er s n (.l xs) fun s => .v .non s) .er
def mExtend : T → T → Sto → Res := fun x y s => onLst x s fun n xs => onLst y s fun _ ys => lenK xs 0 fun l => lenK ys l fun l => ifB (szOk l) (catK xs ys fun xs => setO .er s n (.l xs) fun s => .v .non s) .er
def lastK (xs : List T) : (List T → T → Res) → Res := List.rec (motive := fun _ => (List T → T → Res) → Res) (fun _ => .er) (fun x r ih k => List.rec (motive := fun _ => Res) (k [] x) (fun _ _ _ => ih fun r y => k (x :: r) y) r) xs
def mPop : T → Sto → Res := fun x s => onLst x s fun n xs => lastK xs fun r y => setO .er s n (.l r) fun s => .v y s
def intsK (xs : List T) : (List Int → Res) → Res := List.rec (motive := fun _ => (List Int → Res) → Res) (fun k => k []) (fun x _ ih k => onInt .er x fun i => ih fun r => k (i :: r)) xs
def cntN (k : Int) (ns : List Int) : Nat := List.rec (motive := fun _ => Nat) 0 (fun i _ ih => ifB (iEq i k) (Nat.succ ih) ih) ns
def idxN (k : Int) (ns : List Int) : Option Nat := List.rec (motive := fun _ => Option Nat) none (fun i _ ih => ifB (iEq i k) (some 0) (Option.rec (motive := fun _ => Option Nat) none (fun n => some (Nat.succ n)) ih)) ns
def mapI (ns : List Int) : List T := List.rec (motive := fun _ => List T) [] (fun j _ ih => .int j :: ih) ns
def delN (k : Int) (ns : List Int) : List T := List.rec (motive := fun _ => List T) [] (fun i r ih => ifB (iEq i k) (mapI r) (.int i :: ih)) ns
def mCount : T → T → Sto → Res := fun x y s => onLst x s fun _ xs => onInt .er y fun k => intsK xs fun ns => frN (cntN k ns) fun m => .v (.int (.ofNat m)) s
def mIndex : T → T → Sto → Res := fun x y s => onLst x s fun _ xs => onInt .er y fun k => intsK xs fun ns => Option.rec (motive := fun _ => Res) .er (fun j => frN j fun m => .v (.int (.ofNat m)) s) (idxN k ns)
def mRemove : T → T → Sto → Res := fun x y s => onLst x s fun n xs => onInt .er y fun k => intsK xs fun ns => Option.rec (motive := fun _ => Res) .er (fun _ => setO .er s n (.l (delN k ns)) fun s => .v .non s) (idxN k ns)
/-- a method of a list or of a tuple -/
def eMtB (m m2 : T → T → Sto → Res) (O A : Ev) : Ev := fun c σ s => bnd .er (O c σ s) fun x s => onT x .er (fun _ => .er) (fun _ => .er) (fun _ => .er) (fun _ => bnd .er (A c σ s) fun y s => m2 x y s) (fun n => getL .er s n fun _ => bnd .er (A c σ s) fun y s => m x y s)
def tIndex : T → T → Sto → Res := fun x y s => onT x .er (fun _ => .er) (fun _ => .er) (fun _ => .er) (fun xs => onInt .er y fun k => intsK xs fun ns => Option.rec (motive := fun _ => Res) .er (fun j => frN j fun m => .v (.int (.ofNat m)) s) (idxN k ns)) (fun _ => .er)
def eMt0 (m : T → Sto → Res) (O : Ev) : Ev := fun c σ s => bnd .er (O c σ s) m
def eMt1 (m : T → T → Sto → Res) (O A : Ev) : Ev := fun c σ s => bnd .er (O c σ s) fun x s => onLst x s fun _ _ => bnd .er (A c σ s) fun y s => m x y s
/-! ### dict(..), displays of several pairs, d.setdefault(k, []).append(v), [tuple(d[k]) for k in d], [list(r) for r in zip(*rows)] -/
def nilR (k : List (T × T) → Res) (o : Option T) : Res := Option.rec (motive := fun _ => Res) (k []) (fun _ => .er) o
/-- keys and values by turns -/
def pr2 (xs : List T) : Option T → (List (T × T) → Res) → Res := List.rec (motive := fun _ => Option T → (List (T × T) → Res) → Res) (fun o k => nilR k o)
  (fun x _ ih o k => Option.rec (motive := fun _ => Res) (ih (some x) k) (fun y => ih none fun ps => k ((y, x) :: ps)) o) xs
/-- a pair -/
def onPr (t : T) (k : T → T → Res) : Res := onT t .er (fun _ => .er) (fun _ => .er) (fun _ => .er) (fun ts => List.rec (motive := fun _ => Res) .er (fun a r _ => List.rec (motive := fun _ => Res) .er (fun b q _ => List.rec (motive := fun _ => Res) (k a b) (fun _ _ _ => .er) q) r) ts) (fun _ => .er)
def prK (xs : List T) : (List (T × T) → Res) → Res := List.rec (motive := fun _ => (List (T × T) → Res) → Res) (fun k => k []) (fun x _ ih k => onPr x fun a b => ih fun ps => k ((a, b) :: ps)) xs
def mrgK (b : Bool) (ps : List (T × T)) : List (T × T) → (List (T × T) → Res) → Res := List.rec (motive := fun _ => List (T × T) → (List (T × T) → Res) → Res) (fun acc k => k acc)
  (fun p _ ih acc k => ifB (ifB b (kT p.1) (kP p.1)) (putD .er p.1 p.2 acc fun acc => ih acc k) .er) ps
def dctP (b : Bool) (xs : List T) (s : Sto) : Res := prK xs fun ps => mrgK b ps [] fun kvs => alloc (.d b kvs) s fun t s => .v t s
/-- dict(x): of a list of pairs, of a dict with plain keys -/
def dctO (b : Bool) (o : Ob) (s : Sto) : Res := onOb o (fun xs => dctP b xs s) fun b' kvs => ifB b' .er (alloc (.d false kvs) s fun t s => .v t s)
def eDct (b : Bool) (A : Ev) : Ev := fun c σ s => Res.rec (motive := fun _ => Res) .er (fun t s => onT t .er (fun _ => .er) (fun _ => .er) (fun _ => .er) (fun _ => .er) (fun n => getO .er s n fun o => dctO b o s)) (fun xs s => dctP b xs s) (A c σ s)
def onRef (t : T) (k : Nat → Res) : Res := onT t .er (fun _ => .er) (fun _ => .er) (fun _ => .er) (fun _ => .er) k
/-- {k: v, ..} -/
def eDictN (b : Bool) (R : Av) : Ev := fun c σ s => alloc (.d b []) s fun t s => bndL .er (R c σ s) fun xs s => pr2 xs none fun ps => ifB (Nat.ble (lenK ps 0 fun n => n) 15) (onRef t fun n => getO .er s n fun o => onOb o (fun _ => .er) fun b' kvs => ifB (bEq b b') (nilD kvs (mrgK b ps [] fun kvs => setO .er s n (.d b kvs) fun s => .v t s)) .er) .er
/-- [tuple(d[k]) for k in d] -/
def tupX (t : T) (s : Sto) (k : T → Res) : Res := onRef t fun m => getL .er s m fun xs => k (.tup xs)
/-- d[k] (false), tuple(d[k]) -/
def elV (b : Bool) (t : T) (s : Sto) (k : T → Res) : Res := ifB b (tupX t s k) (k t)
def valsK (b : Bool) (s : Sto) (all kvs : List (T × T)) : (List T → Res) → Res := List.rec (motive := fun _ => (List T → Res) → Res) (fun k => k []) (fun p _ ih k => onOp (keyG p.1 all) .er fun t => elV b t s fun u => ih fun r => k (u :: r)) kvs
def En.has (i : Nat) : En → Bool := Nat.rec (motive := fun _ => En → Bool) (fun σ => En.rec (motive := fun _ => Bool) false (fun _ _ => true) (fun _ _ _ => true) σ) (fun _ ih σ => En.rec (motive := fun _ => Bool) false (fun r _ => ih r) (fun _ r _ => ih r) σ) i
def eVals (b : Bool) (i m : Nat) : Ev := fun c σ s => ifB (En.has m σ) (En.get .er (fun t => onRef t fun n => getO .er s n fun o => onOb o (fun _ => .er) fun _ kvs => lenK kvs 0 fun l => ifB (Nat.blt l 16777216) (valsK b s kvs kvs fun ts => .nl ts s) .er) i σ) .er
/-- x in a written tuple of texts -/
def memS (x : List Nat) (ys : List (List Nat)) : Bool := List.rec (motive := fun _ => Bool) false (fun y _ ih => ifB (natsEq y x) true ih) ys
def tInG (b : Bool) (ws : List (List Nat)) (A : Ev) : Tv := fun c σ s => bnd .er (A c σ s) fun x s => onT x .er (fun _ => .er) (fun _ => .er) (fun cs => .ok (ifB b (memS cs ws) (ifB (memS cs ws) false true)) s) (fun _ => .er) (fun _ => .er)
/-! ### texts -/
def strsK (xs : List T) : (List (List Nat) → Res) → Res := List.rec (motive := fun _ => (List (List Nat) → Res) → Res) (fun k => k []) (fun x _ ih k => onT x .er (fun _ => .er) (fun _ => .er) (fun a => ih fun r => k (a :: r)) (fun _ => .er) (fun _ => .er)) xs
def frL {α : Type} (xs : List Nat) : (List Nat → α) → α := List.rec (motive := fun _ => (List Nat → α) → α) (fun k => k []) (fun x _ ih k => frN x fun x => ih fun r => k (x :: r)) xs
def sumN (ys : List (List Nat)) : Nat := List.rec (motive := fun _ => Nat) 0 (fun y _ ih => Nat.add (lenK y 0 fun n => n) ih) ys
def onStr (x : T) (k : List Nat → Res) : Res := onT x .er (fun _ => .er) (fun _ => .er) k (fun _ => .er) (fun _ => .er)
/-- sep.join(list or tuple) -/
def eJoin (O A : Ev) : Ev := fun c σ s => bnd .er (O c σ s) fun x s => onStr x fun sep => seqR true .er (A c σ s) fun xs s => strsK xs fun ys => ifB (Nat.ble (Nat.add (sumN ys) (Nat.mul (lenK ys 0 fun n => n) (lenK sep 0 fun n => n))) 100000) (frL (Txt.join ⟨sep.toArray⟩ (ys.map fun y => ⟨y.toArray⟩)).cps.toList fun r => .v (.str r) s) .er
def frLs (ys : List Str) : (List T → Res) → Res := List.rec (motive := fun _ => (List T → Res) → Res) (fun k => k []) (fun y _ ih k => frL y.cps.toList fun a => ih fun r => k (.str a :: r)) ys
/-- x.split(y) -/
def eSplit (O A : Ev) : Ev := fun c σ s => bnd .er (O c σ s) fun x s => onStr x fun cs => bnd .er (A c σ s) fun y s => onStr y fun ds => ifB (nilB ds) .er (lenK cs 0 fun n => ifB (Nat.ble n 100000) (frLs (Txt.split ⟨cs.toArray⟩ ⟨ds.toArray⟩) fun ts => .nl ts s) .er)
/-- x.index(y) -/
def eSIdx (O A : Ev) : Ev := fun c σ s => bnd .er (O c σ s) fun x s => onStr x fun cs => bnd .er (A c σ s) fun y s => onStr y fun ds => List.rec (motive := fun _ => Res) .er (fun j _ _ => frN j fun m => .v (.int (.ofNat m)) s) (Builtin.Str.occurrences ⟨cs.toArray⟩ ⟨ds.toArray⟩ 0 (lenK cs 0 fun n => n) 1)
def vStr : T → Sto → Res := fun x s => onT x .er (fun _ => .er) (fun i => ifB (iSm i) (frL (Str.ofString (toString i)).cps.toList fun r => .v (.str r) s) .er) (fun cs => .v x s) (fun _ => .er) (fun _ => .er)
/-- sum(lists, []) -/
def catL (s : Sto) (xs : List T) : List T → (List T → Res) → Res := List.rec (motive := fun _ => List T → (List T → Res) → Res) (fun acc k => k acc) (fun x _ ih acc k => onRef x fun m => getL .er s m fun ys => catK acc ys fun acc => ih acc k) xs
def sumL : List T → Sto → Res := fun xs s => catL s xs [] fun r => lenK r 0 fun n => ifB (Nat.ble n 100000) (.nl r s) .er
/-! ### statements -/
def sBad : Sv := fun _ _ _ => .er
def sNx : Sv := fun _ σ s => .nx σ s
def sSeq (A B : Sv) : Sv := fun c σ s => SR.rec (motive := fun _ => SR) .er (fun σ s => B c σ s) .rtv .rtl .bk .ct (A c σ s)
def sAsg (g : Gv) (A : Ev) : Sv := fun c σ s => bnd .er (A c σ s) fun t s => bndG .er (g t c σ s) fun σ s => .nx σ s
def sAsg2 (g h : Gv) (A : Ev) : Sv := fun c σ s => bnd .er (A c σ s) fun t s => bndG .er (g t c σ s) fun σ s => bndG .er (h t c σ s) fun σ s => .nx σ s
/-- a, b = x, y: the pair is not made -/
def sPar (g : Gs) (R : Av) : Sv := fun c σ s => bndL .er (R c σ s) fun xs s => bndG .er (g xs c σ s) fun σ s => .nx σ s
def sAug (i : Nat) (o : T → T → Sto → Res) (A : Ev) : Sv := fun c σ s => En.get .er (fun x => bnd .er (A c σ s) fun y s => bnd .er (o x y s) fun z s => En.set .er z i σ fun σ => .nx σ s) i σ
def sAugS (O I : Ev) (o : T → T → Sto → Res) (A : Ev) : Sv := fun c σ s => bnd .er (O c σ s) fun ov s => bnd .er (I c σ s) fun iv s => bnd .er (getIxS ov iv s) fun x s => bnd .er (A c σ s) fun y s => bnd .er (o x y s) fun z s =>
  bndU .er (stIx ov iv z s) fun s => .nx σ s
def sExpr (A : Ev) : Sv := fun c σ s => Res.rec (motive := fun _ => SR) .er (fun _ s => .nx σ s) (fun _ s => .nx σ s) (A c σ s)
def sRet (A : Ev) : Sv := fun c σ s => Res.rec (motive := fun _ => SR) .er .rtv .rtl (A c σ s)
def sIf (C : Tv) (A B : Sv) : Sv := fun c σ s => bndT .er (C c σ s) fun b s => ifB b (A c σ s) (B c σ s)
def sBrk : Sv := fun _ σ s => .bk σ s
def sCnt : Sv := fun _ σ s => .ct σ s
def whlN (C : Tv) (B : Sv) (c : Cf) (n : Nat) : En → Sto → SR := Nat.rec (motive := fun _ => En → Sto → SR) (fun _ _ => .er)
  (fun _ ih σ s => bndT .er (C c σ s) fun b s => ifB b (SR.rec (motive := fun _ => SR) .er ih .rtv .rtl .nx ih (B c σ s)) (.nx σ s)) n
def sWhl (C : Tv) (B : Sv) : Sv := fun c σ s => whlN C B c 10000000 σ s
def forN (g : Gv) (B : Sv) (c : Cf) (m : Nat) : Src → En → Sto → SR := Nat.rec (motive := fun _ => Src → En → Sto → SR) (fun _ _ _ => .er)
  (fun _ ih src σ s => NR.rec (motive := fun _ => SR) .er (.nx σ s) (fun x src => bndG .er (g x c σ s) fun σ s => SR.rec (motive := fun _ => SR) .er (ih src) .rtv .rtl .nx (ih src) (B c σ s)) (step src s)) m
def sFor (g : Gv) (I : Iv) (B : Sv) : Sv := fun c σ s => IR.rec (motive := fun _ => SR) .er (fun src s => forN g B c 10000000 src σ s) (I c σ s)
/-! ### defs -/
inductive FD where
  | mk (np : Nat) (tail : En) (mode : Nat) (body : Sv)
inductive FT where
  | nil | node (k : Nat) (d : FD) (l r : FT)
def FT.get {α : Type} (e : α) (F : FT) (i : Nat) (k : FD → α) : α := FT.rec (motive := fun _ => α) e (fun j d _ _ il ir => ifB (Nat.beq i j) (k d) (ifB (Nat.blt i j) il ir)) F
/-- from the callee's store back: mode 0: shared; 1: apart, all new kept; 2: apart, all new let go -/
def back (a : AL) (mode : Nat) (s : Sto) (k : Sto → Res) : Res := Nat.rec (motive := fun _ => Res) (k s) (fun m _ => Nat.rec (motive := fun _ => Res) (onSto s fun n b => AL.app b a fun c => k (.mk n c)) (fun _ _ => onSto s fun n _ => k (.mk n a)) m) mode
def runF (c : Cf) (d : FD) (ts : List T) (s : Sto) : Res := FD.rec (motive := fun _ => Res) (fun np tail mode body => envK .er tail np ts fun σ => onSto s fun n a =>
  SR.rec (motive := fun _ => Res) .er (fun _ s => back a mode s fun s => .v .non s) (fun t s => back a mode s fun s => .v t s) (fun ts s => back a mode s fun s => .nl ts s) (fun _ _ => .er) (fun _ _ => .er)
    (body c σ (.mk n (Nat.rec (motive := fun _ => AL) a (fun _ _ => .nil) mode)))) d
def callAt (F : FT) (d : Nat) : Cf := Nat.rec (motive := fun _ => Cf) (fun _ _ _ => .er) (fun _ ih f ts s => FT.get .er F f fun fd => runF ih fd ts s) d
def isTrue (m : Res) : Bool := Res.rec (motive := fun _ => Bool) false (fun t _ => onT t false (fun b => b) (fun _ => false) (fun _ => false) (fun _ => false) (fun _ => false)) (fun _ _ => false) m
end Rk
end
end
section
set_option linter.all false
set_option autoImplicit false
namespace Rk
open PySem
/-! the compiler: from the model's syntax, over any algebra of the core's forms -/
inductive T0 where
  | non | bl (b : Bool) | str (s : List Nat)
inductive Bo where
  | add | sub | mul | div | mod
inductive Cp where
  | eq | ne | lt | le | gt | ge | is | isn | in_ | nin
inductive Sf where
  | tuple | list | sum | max | min | any | all | sorted | sset | lset | zips | sumL
inductive Of where
  | abs | int | str
inductive Tf where
  | max | min | gcd | comb
inductive Mf where
  | append | extend | count | index | remove
structure Al where
  (tE tT tA tS tG tGs tI tO : Type)
  eBad : tE
  eVar : Nat → tE
  eCst : T0 → tE
  eInt : Nat → tE
  eBin : Bo → tE → tE → tE
  eNeg : tE → tE
  eNot : tE → tE
  eAnd : tE → tE → tE
  eOr : tE → tE → tE
  eIte : tT → tE → tE → tE
  eCmp : Cp → tE → tE → tE
  eCmp2 : Cp → Cp → tE → tE → tE → tE
  eTup : tA → tE
  eLst : tA → tE
  eCall : Nat → tA → tE
  eCallK : Nat → List Nat → tA → tA → tE
  eIdx : tE → tE → tE
  eSl : tE → tO → tO → tE
  eRev : tE → tE
  oNone : tO
  oSome : tE → tO
  eSq : Sf → tE → tE
  eRg : Bool → tE → tE
  eLen : tE → tE
  eOne : Of → tE → tE
  eTwo : Tf → tE → tE → tE
  eIsin : tE → List Nat → tE
  eDict0 : Bool → tE
  eComp : List Nat → tE → tG → tI → tT → tE
  eComp2 : List Nat → List Nat → tE → tG → tI → tT → tG → tI → tT → tE
  ePop : tE → tE
  eDict1 : tE → tE → tE
  eGet1 : tE → tE → tE
  eGet2 : tE → tE → tE → tE
  eSetd : tE → tE → tE → tE
  eMt1 : Mf → tE → tE → tE
  eDct : Bool → tE → tE
  eDictN : Bool → tA → tE
  eVals : Bool → Nat → Nat → tE
  eInG : Bool → List (List Nat) → tE → tE
  eJoin : tE → tE → tE
  eSplit : tE → tE → tE
  eSIdx : tE → tE → tE
  gL : tGs → tG
  aBad : tA
  aNil : tA
  aCons : tE → tA → tA
  tBad : tT
  tVal : tE → tT
  tNot : tT → tT
  tAnd : tT → tT → tT
  tOr : tT → tT → tT
  tCmp : Cp → tE → tE → tT
  tCmp2 : Cp → Cp → tE → tE → tE → tT
  tYes : tT
  gBad : tG
  gN : Nat → tG
  gT : tGs → tG
  gS : tE → tE → tG
  gsNil : tGs
  gsCons : tG → tGs → tGs
  iBad : tI
  iSeq : tE → tI
  iRng1 : tE → tI
  iRng2 : tE → tE → tI
  iEnum : tE → tI
  iZip : tE → tE → tI
  iZips : tE → tI
  sBad : tS
  sNx : tS
  sSeq : tS → tS → tS
  sAsg : tG → tE → tS
  sAsg2 : tG → tG → tE → tS
  sPar : tGs → tA → tS
  sAug : Nat → Bo → tE → tS
  sAugS : tE → tE → Bo → tE → tS
  sExpr : tE → tS
  sRet : tE → tS
  sRetN : tS
  sIf : tT → tS → tS → tS
  sBrk : tS
  sCnt : tS
  sWhl : tT → tS → tS
  sFor : tG → tI → tS → tS

/-! names, by a number -/
def nk (x : Str) : Nat := x.cps.toList.foldr (fun c k => (2 * k + 1) * 2 ^ c) 0
def isNm (x y : Str) : Bool := Nat.beq (nk x) (nk y)
def lkS (k : Nat) : List (Str × NameKind) → Option NameKind
  | [] => none
  | p :: r => cond (Nat.beq (nk p.1) k) (some p.2) (lkS k r)
def ixS (k : Nat) : List Str → Option Nat
  | [] => none
  | n :: r => cond (Nat.beq (nk n) k) (some 0) (match ixS k r with
    | none => none
    | some i => some (i + 1))
def kIdx : List Str → Str → Nat
  | [], _ => 0
  | n :: r, p => cond (Nat.beq (nk n) (nk p)) 0 (kIdx r p + 1)
def memK (p : Str) (names : List Str) : Bool := Nat.blt (kIdx names p) names.length
def nodK : List Str → Bool
  | [] => true
  | n :: r => cond (memK n r) false (nodK r)
structure Gc where
  /-- defs: name's number, its place, its parameters -/
  fns : List (Nat × Nat × List Str)
  gcd : Bool
  cmb : Bool
  /-- the lines where {} is to be keyed by tuples -/
  tk : List Nat
  /-- the top's ints and texts -/
  ci : List (Nat × Nat)
  cs : List (Nat × List Nat)
  /-- the top's tuples of texts -/
  ct : List (Nat × List (List Nat))
def lookC {α : Type} (k : Nat) : List (Nat × α) → Option α
  | [] => none
  | p :: r => cond (Nat.beq p.1 k) (some p.2) (lookC k r)
def lookF (k : Nat) : List (Nat × Nat × List Str) → Option (Nat × List Str)
  | [] => none
  | p :: r => cond (Nat.beq p.1 k) (some p.2) (lookF k r)
def Gc.look (G : Gc) (k : Nat) : Option (Nat × List Str) := lookF k G.fns
structure Cc where
  N : List Str
  sc : List (Str × NameKind)
  own : List (Str × NameKind)
def kLoc : NameKind → Bool
  | .local => true | .cell => true | _ => false
def kVis : NameKind → Bool
  | .local => true | .cell => true | .free => true | _ => false
def kGlo : NameKind → Bool
  | .globalImplicit => true | _ => false
def kFree : NameKind → Bool
  | .free => true | _ => false
def kCell : NameKind → Bool
  | .cell => true | _ => false
def kLocal : NameKind → Bool
  | .local => true | _ => false
def optB (o : Option NameKind) (f : NameKind → Bool) : Bool := match o with
  | none => false
  | some k => f k
/-- a global name of that text -/
def isG (cc : Cc) (x : Str) : Bool := optB (lkS (nk x) cc.sc) kGlo
def noStarC : Expr → Bool
  | .Starred _ _ => false
  | _ => true
def plainC : Expr → Bool
  | .Slice _ _ _ _ => false
  | _ => true
def notCallC : Expr → Bool
  | .Call (.Name _ _) [] [] _ => false
  | _ => true
def noSetC : Expr → Bool
  | .Set _ _ _ => false
  | _ => true
def isNmC : Expr → Bool
  | .Name _ _ => true
  | _ => false
/-- no comprehension -/
def noCompC : Expr → Bool
  | .ListComp _ _ _ _ => false | .SetComp _ _ _ _ => false | .DictComp _ _ _ _ _ => false
  | _ => true
/-- tested by its value -/
def plainTC : Expr → Bool
  | .UnaryOp .Not _ _ => false | .BoolOp _ _ _ => false | .IfExp _ _ _ _ => false | .Compare _ _ _ _ => false
  | _ => true
structure Cs (al : Al) where
  e : Cc → Expr → al.tE
  t : Cc → Expr → al.tT
  g : Cc → Expr → al.tG
  s : Cc → Stmt → al.tS
section
variable (al : Al) (r : Cs al) (G : Gc) (cc : Cc)
def aS : List Expr → al.tA
  | [] => al.aNil
  | e :: es => cond (noStarC e) (al.aCons (r.e cc e) (aS es)) al.aBad
def aK : List Keyword → al.tA
  | [] => al.aNil
  | ⟨_, e, _⟩ :: ks => al.aCons (r.e cc e) (aK ks)
def andE (a : Expr) : List Expr → al.tE
  | [] => r.e cc a
  | b :: es => al.eAnd (r.e cc a) (andE b es)
def orE (a : Expr) : List Expr → al.tE
  | [] => r.e cc a
  | b :: es => al.eOr (r.e cc a) (orE b es)
def andT (a : Expr) : List Expr → al.tT
  | [] => r.t cc a
  | b :: es => al.tAnd (r.t cc a) (andT b es)
def orT (a : Expr) : List Expr → al.tT
  | [] => r.t cc a
  | b :: es => al.tOr (r.t cc a) (orT b es)
def gsS : List Expr → Option al.tGs
  | [] => some al.gsNil
  | e :: es => cond (noStarC e) ((gsS es).map fun q => al.gsCons (r.g cc e) q) none
def slot (x : Str) (f : NameKind → Bool) : Option Nat := cond (optB (lkS (nk x) cc.sc) f) (ixS (nk x) cc.N) none
/-- may the name be written: a local, or a cell made here -/
def wrK (x : Str) : Bool := cond (optB (lkS (nk x) cc.sc) kLocal) true (cond (optB (lkS (nk x) cc.sc) kCell) (optB (lkS (nk x) cc.own) kCell) false)
def glE (x : Str) : al.tE := match lookC (nk x) G.ci with
  | some n => al.eInt n
  | none => (match lookC (nk x) G.cs with
    | some s => al.eCst (.str s)
    | none => al.eBad)
def nmE (x : Str) : al.tE := match slot cc x kVis with
  | some i => al.eVar i
  | none => cond (isG cc x) (glE al G x) al.eBad
def nmG (x : Str) : al.tG := cond (wrK cc x) (match ixS (nk x) cc.N with
  | some i => al.gN i
  | none => al.gBad) al.gBad
def cpOf : CmpOp → Cp
  | .Eq => .eq | .NotEq => .ne | .Lt => .lt | .LtE => .le | .Gt => .gt | .GtE => .ge | .Is => .is | .IsNot => .isn | .In => .in_ | .NotIn => .nin
def cmpE (a : Expr) (ops : List CmpOp) (bs : List Expr) : al.tE := match ops, bs with
  | [o], [b] => cond (noSetC b) (al.eCmp (cpOf o) (r.e cc a) (r.e cc b)) al.eBad
  | [o, o'], [b, d] => cond (noSetC d) (al.eCmp2 (cpOf o) (cpOf o') (r.e cc a) (r.e cc b) (r.e cc d)) al.eBad
  | _, _ => al.eBad
def cmpT (a : Expr) (ops : List CmpOp) (bs : List Expr) : al.tT := match ops, bs with
  | [o], [b] => cond (noSetC b) (al.tCmp (cpOf o) (r.e cc a) (r.e cc b)) al.tBad
  | [o, o'], [b, d] => cond (noSetC d) (al.tCmp2 (cpOf o) (cpOf o') (r.e cc a) (r.e cc b) (r.e cc d)) al.tBad
  | _, _ => al.tBad
def oE (o : Option Expr) : al.tO := match o with
  | none => al.oNone
  | some e => al.oSome (r.e cc e)
def subE (a i : Expr) : al.tE := match i with
  | .Slice none none (some (.UnaryOp .USub (.Constant (.int (.ofNat 1)) _ _) _)) _ => al.eRev (r.e cc a)
  | .Slice lo hi none _ => al.eSl (r.e cc a) (oE al r cc lo) (oE al r cc hi)
  | .Slice _ _ _ _ => al.eBad
  | i => al.eIdx (r.e cc a) (r.e cc i)
/-- int 0, bool 1, str 2, tuple 3, list 4 -/
def tyOf (x : Str) : Option Nat := cond (isG cc x) (cond (isNm x "int") (some 0) (cond (isNm x "bool") (some 1) (cond (isNm x "str") (some 2) (cond (isNm x "tuple") (some 3) (cond (isNm x "list") (some 4) none))))) none
def tysOf : List Expr → Option (List Nat)
  | [] => some []
  | .Name x _ :: es => (tyOf cc x).bind fun n => (tysOf es).map fun ns => n :: ns
  | _ :: _ => none
def isinE (a t : Expr) : al.tE := cond (noStarC a) (match t with
  | .Name x _ => (match tyOf cc x with
    | some n => al.eIsin (r.e cc a) [n]
    | none => al.eBad)
  | .Tuple es _ _ => cond (Nat.ble es.length 5) (match tysOf cc es with
    | some ns => al.eIsin (r.e cc a) ns
    | none => al.eBad) al.eBad
  | _ => al.eBad) al.eBad
/-- sorted(set(a)), len(set(a)): the inner call -/
def setArg (e : Expr) : Option Expr := match e with
  | .Call (.Name y _) [a] [] _ => cond (isG cc y) (cond (isNm y "set") (cond (noStarC a) (some a) none) none) none
  | _ => none
/-- range(a): its end -/
def rgArg (e : Expr) : Option Expr := match e with
  | .Call (.Name y _) [a] [] _ => cond (isG cc y) (cond (isNm y "range") (cond (noStarC a) (some a) none) none) none
  | _ => none
/-- zip(*a) -/
def zipArg (e : Expr) : Option Expr := match e with
  | .Call (.Name y _) [.Starred a _] [] _ => cond (isG cc y) (cond (isNm y "zip") (some a) none) none
  | _ => none
def blt1 (x : Str) (a : Expr) : al.tE := cond (noStarC a) (
  cond (isNm x "len") (match setArg cc a with
    | some b => al.eSq .lset (r.e cc b)
    | none => al.eLen (r.e cc a))
  (cond (isNm x "tuple") (match rgArg cc a with
    | some b => al.eRg true (r.e cc b)
    | none => al.eSq .tuple (r.e cc a))
  (cond (isNm x "list") (match rgArg cc a with
    | some b => al.eRg false (r.e cc b)
    | none => (match zipArg cc a with
      | some b => al.eSq .zips (r.e cc b)
      | none => al.eSq .list (r.e cc a)))
  (cond (isNm x "sum") (al.eSq .sum (r.e cc a))
  (cond (isNm x "max") (al.eSq .max (r.e cc a))
  (cond (isNm x "min") (al.eSq .min (r.e cc a))
  (cond (isNm x "any") (al.eSq .any (r.e cc a))
  (cond (isNm x "all") (al.eSq .all (r.e cc a))
  (cond (isNm x "sorted") (match setArg cc a with
    | some b => al.eSq .sset (r.e cc b)
    | none => al.eSq .sorted (r.e cc a))
  (cond (isNm x "abs") (al.eOne .abs (r.e cc a))
  (cond (isNm x "int") (al.eOne .int (r.e cc a)) al.eBad))))))))))) al.eBad
def blt2 (x : Str) (a b : Expr) : al.tE := cond (isNm x "isinstance") (isinE al r cc a b) (cond (noStarC a) (cond (noStarC b) (
  cond (isNm x "max") (al.eTwo .max (r.e cc a) (r.e cc b))
  (cond (isNm x "min") (al.eTwo .min (r.e cc a) (r.e cc b))
  (cond (isNm x "gcd") (cond G.gcd (al.eTwo .gcd (r.e cc a) (r.e cc b)) al.eBad)
  (cond (isNm x "comb") (cond G.cmb (al.eTwo .comb (r.e cc a) (r.e cc b)) al.eBad) al.eBad)))) al.eBad) al.eBad)
def bindB (ps : List Str) (n : Nat) (ks : List Str) : Bool := Nat.ble n ps.length && nodK (ps.take n ++ ks) && (ks.all fun k => memK k ps) && ps.all fun p => memK p (ps.take n ++ ks)
def ownE (f : Nat) (ps : List Str) (es : List Expr) (kws : List Keyword) : al.tE := match kws with
  | [] => cond (Nat.beq es.length ps.length) (cond (es.all noStarC) (al.eCall f (aS al r cc es)) al.eBad) al.eBad
  | _ => cond (es.all noStarC) (cond (kws.all fun k => k.arg.isSome) (cond (bindB ps es.length (kws.filterMap fun k => k.arg))
        (al.eCallK f (ps.map fun p => kIdx (ps.take es.length ++ kws.filterMap fun k => k.arg) p) (aS al r cc es) (aK al r cc kws)) al.eBad) al.eBad) al.eBad
def methE (o : Expr) (m : Str) (apos : Pos) (es : List Expr) (cpos : Pos) : al.tE := cond (notCallC o) (cond (Nat.beq apos.endLine cpos.line) (match es with
  | [] => cond (isNm m "pop") (al.ePop (r.e cc o)) al.eBad
  | [a] => cond (noStarC a) (cond (isNm m "append") (al.eMt1 .append (r.e cc o) (r.e cc a)) (cond (isNm m "extend") (al.eMt1 .extend (r.e cc o) (r.e cc a)) (cond (isNm m "get") (al.eGet1 (r.e cc o) (r.e cc a)) (cond (isNm m "count") (al.eMt1 .count (r.e cc o) (r.e cc a)) (cond (isNm m "index") (al.eMt1 .index (r.e cc o) (r.e cc a)) (cond (isNm m "remove") (al.eMt1 .remove (r.e cc o) (r.e cc a)) al.eBad)))))) al.eBad
  | [a, b] => cond (noStarC a) (cond (noStarC b) (cond (isNm m "get") (al.eGet2 (r.e cc o) (r.e cc a) (r.e cc b)) (cond (isNm m "setdefault") (al.eSetd (r.e cc o) (r.e cc a) (r.e cc b)) al.eBad)) al.eBad) al.eBad
  | _ => al.eBad) al.eBad) al.eBad
def callE (f : Expr) (es : List Expr) (kws : List Keyword) (cpos : Pos) : al.tE := match f with
  | .Name x _ => cond (isG cc x) (match G.look (nk x) with
    | some (f, ps) => ownE al r cc f ps es kws
    | none => match kws with
      | [] => (match es with
        | [a] => blt1 al r cc x a
        | [a, b] => blt2 al r G cc x a b
        | _ => al.eBad)
      | _ => al.eBad) al.eBad
  | .Attribute o m apos => (match kws with
    | [] => methE al r cc o m apos es cpos
    | _ => al.eBad)
  | _ => al.eBad
/-! what a loop walks -/
def isTupC : Expr → Bool
  | .Tuple _ _ _ => true
  | _ => false
def seqI (e : Expr) : al.tI := al.iSeq (r.e cc e)
def callI (tg : Expr) (x : Str) (es : List Expr) : Option al.tI := cond (isG cc x) (match es with
  | [a] => cond (noStarC a) (cond (isNm x "range") (some (al.iRng1 (r.e cc a))) (cond (isTupC tg) (cond (isNm x "enumerate") (some (al.iEnum (r.e cc a))) none) none)) none
  | [a, b] => cond (noStarC a) (cond (noStarC b) (cond (isNm x "range") (some (al.iRng2 (r.e cc a) (r.e cc b))) (cond (isTupC tg) (cond (isNm x "zip") (some (al.iZip (r.e cc a) (r.e cc b))) none) none)) none) none
  | _ => none) none
def itG (tg e : Expr) : al.tI := match e with
  | .Call (.Name x _) es [] _ => (match callI al r cc tg x es with
    | some i => i
    | none => seqI al r cc e)
  | e => seqI al r cc e
/-- zip(*rows) -/
def spI (tg e : Expr) : Option al.tI := match tg, e with
  | .Name _ _, .Call (.Name x _) [.Starred a _] [] _ => cond (isG cc x) (cond (isNm x "zip") (some (al.iZips (r.e cc a))) none) none
  | _, _ => none
def itI (tg e : Expr) : al.tI := match spI al r cc tg e with
  | some i => i
  | none => itG al r cc tg e
/-! comprehensions -/
def relN (names sc : List (Str × NameKind)) : List (Str × NameKind) := names.map fun p => (p.1, cond (kFree p.2) (cond (optB (lkS (nk p.1) sc) kCell) .cell p.2) p.2)
def ownP (N : List Str) : List (Str × NameKind) → List (Str × Nat)
  | [] => []
  | (x, k) :: rs => cond (kLoc k) (match ixS (nk x) N with
    | some i => (x, i) :: ownP N rs
    | none => ownP N rs) (ownP N rs)
def eqK : NameKind → NameKind → Bool
  | .local, .local => true | .cell, .cell => true | .free, .free => true | .globalExplicit, .globalExplicit => true | .globalImplicit, .globalImplicit => true
  | _, _ => false
def fnK : ScopeKind → Bool
  | .function => true
  | _ => false
def blkB (scope : Scope) : Bool := fnK scope.kind && (scope.names.all fun y => optB (lkS (nk y.1) scope.names) (eqK y.2)) && (scope.names.all fun y => cond (kFree y.2) (optB (lkS (nk y.1) cc.sc) fun k => cond (kCell k) true (kFree k)) true) &&
  scope.names.all fun y => cond (kLoc y.2) (ixS (nk y.1) cc.N).isSome true
mutual
def tgS : Nat → Expr → List Nat
  | n + 1, .Name x _ => (match ixS (nk x) cc.N with
    | some i => [i]
    | none => [])
  | n + 1, .Tuple es _ _ => tgSs n es
  | _, _ => []
def tgSs : Nat → List Expr → List Nat
  | n + 1, e :: es => tgS n e ++ tgSs n es
  | _, _ => []
end
/-- every name in it is one of own's -/
def memN (i : Nat) (own : List Nat) : Bool := own.any fun j => Nat.beq i j
mutual
def tgOk (own : List Nat) : Nat → Expr → Bool
  | n + 1, .Name x _ => (match ixS (nk x) cc.N with
    | some i => memN i own
    | none => false)
  | n + 1, .Tuple es _ _ => tgOks own n es
  | _, _ => false
def tgOks (own : List Nat) : Nat → List Expr → Bool
  | _, [] => true
  | n + 1, e :: es => tgOk own n e && tgOks own n es
  | _, _ => false
end
def cc1 (scope : Scope) : Cc := ⟨cc.N, relN scope.names cc.sc, scope.names⟩
def ifT (cc : Cc) : List Expr → Option al.tT
  | [] => some al.tYes
  | [e] => some (r.t cc e)
  | _ => none
/-- d[k], tuple(d[k]) for k in d -/
def valE (b : Bool) (d k k2 d2 : Str) (scope : Scope) : Option al.tE := cond (blkB cc scope) (cond (isNm d d2) (cond (isNm k k2) (cond (wrK (cc1 cc scope) k2) (match slot cc d kVis, slot (cc1 cc scope) d kVis, slot (cc1 cc scope) k kVis, ixS (nk k2) cc.N with
  | some i, some j, some l, some m => cond (Nat.beq i j) (cond (Nat.beq l m) (cond (memN m ((ownP cc.N scope.names).map fun p => p.2)) (cond (memN i ((ownP cc.N scope.names).map fun p => p.2)) none (some (al.eVals b i m))) none) none) none
  | _, _, _, _ => none) none) none) none) none
/-- special comprehensions -/
def spC (elt : Expr) (gs : List Comprehension) (scope : Scope) : Option al.tE := match elt, gs with
  | .Call (.Name f _) [.Subscript (.Name d _) (.Name k _) _] [] _, [⟨.Name k2 _, .Name d2 _, [], .ofNat 0⟩] => cond (isG (cc1 cc scope) f) (cond (isNm f "tuple") (valE al cc true d k k2 d2 scope) none) none
  | .Subscript (.Name d _) (.Name k _) _, [⟨.Name k2 _, .Name d2 _, [], .ofNat 0⟩] => valE al cc false d k k2 d2 scope
  | _, _ => none
def compG (elt : Expr) (gs : List Comprehension) (scope : Scope) : al.tE := cond (blkB cc scope) (match gs with
  | [⟨tg, it, ifs, .ofNat 0⟩] => cond (noSetC it) (cond (tgOk cc ((ownP cc.N scope.names).map fun p => p.2) 6 tg) (match ifT al r (cc1 cc scope) ifs with
    | some t => al.eComp ((ownP cc.N scope.names).map fun p => p.2) (r.e (cc1 cc scope) elt) (r.g (cc1 cc scope) tg) (itI al r cc tg it) t
    | none => al.eBad) al.eBad) al.eBad
  | [⟨tg, it, ifs, .ofNat 0⟩, ⟨tg1, it1, ifs1, .ofNat 0⟩] => cond (noSetC it) (cond (noSetC it1) (cond (tgOk cc ((ownP cc.N scope.names).map fun p => p.2) 6 tg) (cond (tgOk cc (tgS cc 6 tg1) 6 tg1) (cond ((tgS cc 6 tg1).all fun i => memN i ((ownP cc.N scope.names).map fun p => p.2)) (match ifT al r (cc1 cc scope) ifs, ifT al r (cc1 cc scope) ifs1 with
    | some t, some t1 => al.eComp2 ((ownP cc.N scope.names).map fun p => p.2) (tgS cc 6 tg1) (r.e (cc1 cc scope) elt) (r.g (cc1 cc scope) tg) (itI al r cc tg it) t (r.g (cc1 cc scope) tg1) (itI al r (cc1 cc scope) tg1 it1) t1
    | _, _ => al.eBad) al.eBad) al.eBad) al.eBad) al.eBad) al.eBad
  | _ => al.eBad) al.eBad
def compE (elt : Expr) (gs : List Comprehension) (scope : Scope) : al.tE := match spC al cc elt gs scope with
  | some x => x
  | none => compG al r cc elt gs scope
def cstE (c : Const) : al.tE := match c with
  | .none => al.eCst .non
  | .bool b => al.eCst (.bl b)
  | .int (.ofNat n) => al.eInt n
  | .str s => al.eCst (.str s.cps.toList)
  | _ => al.eBad
def boOf : Operator → Option Bo
  | .Add => some .add | .Sub => some .sub | .Mult => some .mul | .FloorDiv => some .div | .Mod => some .mod
  | _ => none
def eStep (e : Expr) : al.tE := match e with
  | .Constant c _ _ => cstE al c
  | .Name x _ => nmE al G cc x
  | .BinOp a op b _ => (match boOf op with
    | some o => al.eBin o (r.e cc a) (r.e cc b)
    | none => al.eBad)
  | .UnaryOp op a _ => (match op with
    | .USub => al.eNeg (r.e cc a)
    | .Not => al.eNot (r.e cc a)
    | _ => al.eBad)
  | .BoolOp op es _ => (match es with
    | [] => al.eBad
    | a :: es => match op with
      | .And => andE al r cc a es
      | .Or => orE al r cc a es)
  | .Compare a ops bs _ => cmpE al r cc a ops bs
  | .IfExp t a b _ => al.eIte (r.t cc t) (r.e cc a) (r.e cc b)
  | .Tuple es _ _ => cond (es.all noStarC) (cond (Nat.ble es.length 1000) (al.eTup (aS al r cc es)) al.eBad) al.eBad
  | .List es _ => cond (es.all noStarC) (cond (Nat.ble es.length 1000) (al.eLst (aS al r cc es)) al.eBad) al.eBad
  | .Dict ks vs p => (match ks, vs with
    | [], [] => al.eDict0 (memN p.line G.tk)
    | [some k], [v] => al.eDict1 (r.e cc k) (r.e cc v)
    | _, _ => al.eBad)
  | .Subscript a i _ => subE al r cc a i
  | .Call f es kws cpos => callE al r G cc f es kws cpos
  | .ListComp elt gs scope _ => compE al r cc elt gs scope
  | _ => al.eBad
def tStep (e : Expr) : al.tT := match e with
  | .UnaryOp .Not a _ => al.tNot (r.t cc a)
  | .BoolOp op es _ => (match es with
    | [] => al.tBad
    | a :: es => match op with
      | .And => andT al r cc a es
      | .Or => orT al r cc a es)
  | .Compare a ops bs _ => cmpT al r cc a ops bs
  | .IfExp _ _ _ _ => al.tBad
  | e => al.tVal (r.e cc e)
def gStep (e : Expr) : al.tG := match e with
  | .Name x _ => nmG al cc x
  | .Tuple es _ _ => (match gsS al r cc es with
    | some q => al.gT q
    | none => al.gBad)
  | .Subscript o i _ => cond (plainC i) (al.gS (r.e cc o) (r.e cc i)) al.gBad
  | _ => al.gBad
def ssS : List Stmt → al.tS
  | [] => al.sNx
  | [s] => r.s cc s
  | s :: ss => al.sSeq (r.s cc s) (ssS ss)
/-- the plain names of a target, on one line -/
def parN (line : Nat) : List Expr → Option (List Str)
  | [] => some []
  | .Name x p :: es => cond (optB (lkS (nk x) cc.sc) kLocal) (cond (Nat.beq p.line line) ((parN line es).map fun l => x :: l) none) none
  | _ :: _ => none
def parQ : List Str → Option al.tGs
  | [] => some al.gsNil
  | x :: xs => match ixS (nk x) cc.N with
    | some i => (parQ xs).map fun q => al.gsCons (al.gN i) q
    | none => none
/-- a, b = x, y -/
def parS (tg : Expr) (ts : List Expr) (vs : List Expr) (e : Expr) : al.tS :=
  cond (Nat.beq ts.length vs.length && (Nat.beq ts.length 2 || Nat.beq ts.length 3))
    (cond (vs.all noStarC) (match ts with
      | [] => al.sBad
      | t :: _ => match parN cc t.pos.line ts with
        | none => al.sAsg (r.g cc tg) (r.e cc e)
        | some xs => cond (nodK xs) (cond (vs.all (foldedForSure 8)) (al.sAsg (r.g cc tg) (r.e cc e)) (cond (vs.all (constantsAlone 8)) al.sBad (match parQ al cc xs with
          | some q => al.sPar q (aS al r cc vs)
          | none => al.sBad))) al.sBad) al.sBad)
    (cond (Nat.beq ts.length 2 || Nat.beq ts.length 3) al.sBad (al.sAsg (r.g cc tg) (r.e cc e)))
/-- x = [..] on one line: stored within the block -/
def lcS (x : Str) (px : Pos) (elt : Expr) (gs : List Comprehension) (scope : Scope) (pos : Pos) : al.tS :=
  cond (Nat.beq px.line pos.line && optB (lkS (nk x) cc.sc) kLocal && !(scope.names.any fun y => Nat.beq (nk y.1) (nk x) && kLoc y.2)) (match ixS (nk x) cc.N with
    | some i => al.sAsg (al.gN i) (compE al r cc elt gs scope)
    | none => al.sBad) (cond (optB (lkS (nk x) cc.sc) kCell) (al.sAsg (nmG al cc x) (compE al r cc elt gs scope)) al.sBad)
def asgS (tg e : Expr) : al.tS := match tg with
  | .Name x px => (match e with
    | .ListComp elt gs scope pos => lcS al r cc x px elt gs scope pos
    | e => cond (noCompC e) (al.sAsg (nmG al cc x) (r.e cc e)) al.sBad)
  | .Tuple ts _ _ => (match e with
    | .Tuple vs _ _ => parS al r cc tg ts vs e
    | e => al.sAsg (r.g cc tg) (r.e cc e))
  | .Subscript _ _ _ => al.sAsg (r.g cc tg) (r.e cc e)
  | _ => al.sBad
def augB : Operator → Option Bo
  | .Add => some .add | .Sub => some .sub
  | _ => none
def augS (tg e : Expr) (o : Bo) : al.tS := match tg with
  | .Name x _ => cond (wrK cc x) (match ixS (nk x) cc.N with
    | some i => al.sAug i o (r.e cc e)
    | none => al.sBad) al.sBad
  | .Subscript a i _ => cond (plainC i) (al.sAugS (r.e cc a) (r.e cc i) o (r.e cc e)) al.sBad
  | _ => al.sBad
def isStrC : Expr → Bool
  | .Constant (.str _) _ _ => true
  | _ => false
def sStep (s : Stmt) : al.tS := match s with
  | .Assign tgs e _ => (match tgs with
    | [tg] => asgS al r cc tg e
    | [t1, t2] => cond (noStarC t1) (cond (noStarC t2) (al.sAsg2 (r.g cc t1) (r.g cc t2) (r.e cc e)) al.sBad) al.sBad
    | _ => al.sBad)
  | .AugAssign tg op e _ => (match augB op with
    | none => al.sBad
    | some o => augS al r cc tg e o)
  | .Expr e _ => cond (isStrC e) al.sNx (cond (noCompC e) (al.sExpr (r.e cc e)) al.sBad)
  | .Return v _ => (match v with
    | some e => al.sRet (r.e cc e)
    | none => al.sRetN)
  | .If t a b _ => al.sIf (r.t cc t) (ssS al r cc a) (ssS al r cc b)
  | .While t b o _ => (match o with
    | [] => al.sWhl (r.t cc t) (ssS al r cc b)
    | _ => al.sBad)
  | .For tg it b o _ => (match o with
    | [] => cond (noSetC it) (al.sFor (r.g cc tg) (itI al r cc tg it) (ssS al r cc b)) al.sBad
    | _ => al.sBad)
  | .Break _ => al.sBrk
  | .Continue _ => al.sCnt
  | .Pass _ => al.sNx
  | _ => al.sBad
/-! ### special forms -/
def dctE (x : Str) (a : Expr) (line : Nat) : Option al.tE := cond (isG cc x) (cond (noStarC a) (cond (isNm x "dict") (some (al.eDct (memN line G.tk) (r.e cc a))) (cond (isNm x "str") (some (al.eOne .str (r.e cc a))) none)) none) none
def sumE (x : Str) (a : Expr) : Option al.tE := cond (isG cc x) (cond (noStarC a) (cond (isNm x "sum") (some (al.eSq .sumL (r.e cc a))) none) none) none
/-- keys and values by turns -/
def flatK : List (Option Expr) → List Expr → Option (List Expr)
  | [], [] => some []
  | some k :: ks, v :: vs => (flatK ks vs).map fun l => k :: v :: l
  | _, _ => none
def dspE (ks : List (Option Expr)) (vs : List Expr) (line : Nat) : Option al.tE := cond (Nat.beq ks.length 0) none (cond (memN line G.tk || !(Nat.beq ks.length 1)) (cond (Nat.ble ks.length 15) (match flatK ks vs with
  | some l => cond (l.all noStarC) (some (al.eDictN (memN line G.tk) (aS al r cc l))) none
  | none => none) none) none)
def ingE (a : Expr) (g : Str) (b : Bool) : Option al.tE := cond (isG cc g) (match lookC (nk g) G.ct with
  | some ws => some (al.eInG b ws (r.e cc a))
  | none => none) none
def isTxt (o : Expr) : Bool := match o with
  | .Name x _ => cond (isG cc x) (lookC (nk x) G.cs).isSome false
  | _ => false
def txtE (o : Expr) (m : Str) (a : Expr) (l1 l2 : Nat) : Option al.tE := cond (notCallC o) (cond (noStarC a) (cond (Nat.beq l1 l2) (cond (isNm m "join") (some (al.eJoin (r.e cc o) (r.e cc a))) (cond (isNm m "split") (some (al.eSplit (r.e cc o) (r.e cc a))) (cond (isNm m "index") (cond (isTxt G cc o) (some (al.eSIdx (r.e cc o) (r.e cc a))) none) none))) none) none) none
def spE0 (e : Expr) : Option al.tE := match e with
  | .Call (.Name x _) [a] [] pos => dctE al r G cc x a pos.line
  | .Call (.Name x _) [a, .List [] _] [] _ => sumE al r cc x a
  | .Call (.Attribute o m ap) [a] [] cp => txtE al r G cc o m a ap.endLine cp.line
  | .Dict ks vs p => dspE al r G cc ks vs p.line
  | .Compare a [.In] [.Name g _] _ => ingE al r G cc a g true
  | .Compare a [.NotIn] [.Name g _] _ => ingE al r G cc a g false
  | _ => none
def spE (e : Expr) : Option al.tE := match e with
  | .Call (.Name x _) [a] [] pos => dctE al r G cc x a pos.line
  | .Call (.Attribute o m ap) [a] [] cp => txtE al r G cc o m a ap.endLine cp.line
  | .Dict ks vs p => dspE al r G cc ks vs p.line
  | _ => none
def isLC : Expr → Bool
  | .ListComp _ _ _ _ => true
  | _ => false
/-- a, b, c = [..] -/
def spS (s : Stmt) : Option al.tS := none
def spS0 (s : Stmt) : Option al.tS := match s with
  | .Assign [.Tuple ts _ _] e _ => cond (isLC e) (match gsS al r cc ts with
    | some q => some (al.sAsg (al.gL q) (r.e cc e))
    | none => none) none
  | _ => none
def eHook (e : Expr) : al.tE := match spE al r G cc e with
  | some x => x
  | none => eStep al r G cc e
def tHook (e : Expr) : al.tT := match spE al r G cc e with
  | some x => al.tVal x
  | none => tStep al r cc e
def sHook (s : Stmt) : al.tS := match spS al s with
  | some x => x
  | none => sStep al r cc s
end
def comp (al : Al) (G : Gc) : Nat → Cs al
  | 0 => ⟨fun _ _ => al.eBad, fun _ _ => al.tBad, fun _ _ => al.gBad, fun _ _ => al.sBad⟩
  | n + 1 => ⟨eHook al (comp al G n) G, tHook al (comp al G n) G, gStep al (comp al G n), sHook al (comp al G n)⟩
def compB (al : Al) (G : Gc) (n : Nat) (cc : Cc) (b : List Stmt) : al.tS := ssS al (comp al G n) cc b
end Rk
end
section
set_option linter.all false
set_option autoImplicit false
noncomputable section
namespace Rk
open PySem
def tBad : Tv := fun _ _ _ => .er
def aBad : Av := fun _ _ _ => .er
def gBad : Gv := fun _ _ _ _ => .er
def gsBad : Gs := fun _ _ _ _ => .er
def iBad : Iv := fun _ _ _ => .er
def sRetN : Sv := fun _ _ s => .rtv .non s
def eNot (A : Ev) : Ev := eTst (tNot (tVal A))
def toT : T0 → T
  | .non => .non | .bl b => .bl b | .str s => .str s
def boF : Bo → T → T → Sto → Res
  | .add => opAdd | .sub => opSub | .mul => opMul | .div => opDiv | .mod => opMod
def boI : Bo → T → T → Sto → Res
  | .add => opAddI | .sub => opSub | _ => fun _ _ _ => .er
def cpF : Cp → Co
  | .eq => coEq | .ne => coNe | .lt => coLt | .le => coLe | .gt => coGt | .ge => coGe | .is => coIs | .isn => coIsn | .in_ => inG | .nin => ninG
/-- .. of a tuple too? -/
def sfB : Sf → Bool
  | .tuple => true | .list => true | .max => true | .min => true | .sorted => true | .sset => true | .lset => true | .zips => true | .sumL => false | .sum => true | _ => false
def sfF : Sf → List T → Sto → Res
  | .tuple => bTuple | .list => bList | .sum => bSum | .max => bExt true | .min => bExt false | .any => bAny | .all => bAll | .sorted => bSorted | .sset => bSset | .lset => bLset | .zips => bZips | .sumL => sumL
def ofF : Of → T → Sto → Res
  | .abs => vAbs | .int => vInt | .str => vStr
def tfF : Tf → T → T → Sto → Res
  | .max => vExt2 true | .min => vExt2 false | .gcd => vGcd | .comb => vComb
def mfF : Mf → T → T → Sto → Res
  | .append => mAppend | .extend => mExtend | .count => mCount | .index => mIndex | .remove => mRemove
def comb : Al where
  tE := Ev
  tT := Tv
  tA := Av
  tS := Sv
  tG := Gv
  tGs := Gs
  tI := Iv
  tO := Ov
  eBad := eBad
  eVar := eVar
  eCst := fun t => eCst (toT t)
  eInt := eInt
  eBin := fun o => eBin (boF o)
  eNeg := eNeg
  eNot := eNot
  eAnd := eAnd
  eOr := eOr
  eIte := eIte
  eCmp := fun o a b => eTst (tCmp (cpF o) a b)
  eCmp2 := fun o o' a b c => eTst (tCmp2 (cpF o) (cpF o') a b c)
  eTup := eTup
  eLst := eLst
  eCall := eCall
  eCallK := eCallK
  eIdx := eIdx
  eSl := eSl
  eRev := eRev
  oNone := oNone
  oSome := oSome
  eSq := fun f => eSq (sfB f) (sfF f)
  eRg := eRg
  eLen := eLen
  eOne := fun f => eOne (ofF f)
  eTwo := fun f => eBin (tfF f)
  eIsin := fun a ts => eTst (tIsin a ts)
  eDict0 := eDict0
  eComp := eComp
  eComp2 := eComp2
  ePop := eMt0 mPop
  eDict1 := eDict1
  eGet1 := eGet1
  eGet2 := eGet2
  eSetd := eSetd
  eMt1 := fun f => eMt1 (mfF f)
  eDct := eDct
  eDictN := eDictN
  eVals := eVals
  eInG := fun b ws a => eTst (tInG b ws a)
  eJoin := eJoin
  eSplit := eSplit
  eSIdx := eSIdx
  gL := gL
  aBad := aBad
  aNil := aNil
  aCons := aCons
  tBad := tBad
  tVal := tVal
  tNot := tNot
  tAnd := tAnd
  tOr := tOr
  tCmp := fun o => tCmp (cpF o)
  tCmp2 := fun o o' => tCmp2 (cpF o) (cpF o')
  tYes := tYes
  gBad := gBad
  gN := gN
  gT := gT
  gS := gS
  gsNil := gsNil
  gsCons := gsCons
  iBad := iBad
  iSeq := iSeq
  iRng1 := iRng1
  iRng2 := iRng2
  iEnum := iEnum
  iZip := iZip
  iZips := iZips
  sBad := sBad
  sNx := sNx
  sSeq := sSeq
  sAsg := sAsg
  sAsg2 := sAsg2
  sPar := sPar
  sAug := fun i o => sAug i (boI o)
  sAugS := fun a i o => sAugS a i (boI o)
  sExpr := sExpr
  sRet := sRet
  sRetN := sRetN
  sIf := sIf
  sBrk := sBrk
  sCnt := sCnt
  sWhl := sWhl
  sFor := sFor
end Rk
end
end
section
set_option linter.all false
set_option autoImplicit false
set_option maxRecDepth 100000
namespace Rk
open PySem PySem.Spec PyProof.Rows L2
/-! ### defs -/
def simpleP (p : Arguments) : Bool := p.posonlyargs.isEmpty && p.vararg.isNone && p.kwonlyargs.isEmpty && p.kwarg.isNone
def bltN : List Str := ["len", "tuple", "list", "sum", "max", "min", "any", "all", "sorted", "abs", "int", "bool", "str", "set", "isinstance", "range", "enumerate", "zip", "dict"]
structure Df where
  nm : Str
  /-- the def's own name -/
  fn : Str
  id : Nat
  ps : List Str
  N : List Str
  st : Stmt
structure Gi where
  gcd : Bool
  cmb : Bool
  tk : List Nat
  ci : List (Str × Nat)
  cs : List (Str × List Nat)
  ct : List (Str × List (List Nat))
def gOf (ds : List Df) (g : Gi) : Gc := ⟨ds.map fun d => (nk d.nm, d.id, d.ps), g.gcd, g.cmb, g.tk, g.ci.map fun p => (nk p.1, p.2), g.cs.map fun p => (nk p.1, p.2), g.ct.map fun p => (nk p.1, p.2)⟩
structure GiOk (mg : Str → Option Value) (g : Gi) : Prop where
  gcd : g.gcd = true → mg "gcd" = some (.builtin "math.gcd")
  cmb : g.cmb = true → mg "comb" = some (.builtin "math.comb")
  nb : (g.ci.all fun p => !(p.1 == ("__debug__" : Str))) = true ∧ (g.cs.all fun p => !(p.1 == ("__debug__" : Str))) = true
  ci : ∀ p ∈ g.ci, ∃ t, mg p.1 = some (.int p.2 t)
  cs : ∀ p ∈ g.cs, ∃ t, mg p.1 = some (.str ⟨p.2.toArray⟩ t)
theorem lookC_eq {α : Type} {k : Nat} : ∀ {l : List (Nat × α)} {v : α}, lookC k l = some v → (k, v) ∈ l
  | [], v, h => nomatch h
  | p :: r, v, h => by
    have e : lookC k (p :: r) = cond (Nat.beq p.1 k) (some p.2) (lookC k r) := rfl
    rw [e] at h
    cases hb : Nat.beq p.1 k with
    | true =>
      rw [hb] at h; cases h
      have := Nat.eq_of_beq_eq_true hb
      subst this
      exact List.mem_cons_self
    | false => rw [hb] at h; exact List.mem_cons_of_mem _ (lookC_eq h)
def Df.cc (d : Df) : Cc := ⟨d.N, (defScope d.st).names, (defScope d.st).names⟩
def tailN : Nat → En
  | 0 => .nil
  | n + 1 => .u (tailN n)
noncomputable def FT.find (F : FT) (i : Nat) : Option FD := FT.get none F i some
theorem ft_get {α : Type} (e : α) (F : FT) (i : Nat) (k : FD → α) : FT.get e F i k = match F.find i with
    | none => e
    | some d => k d := by
  unfold FT.find
  induction F with
  | nil => rfl
  | node j d l r il ir =>
    have e1 : ∀ {β : Type} (e : β) (k : FD → β), FT.get e (.node j d l r) i k = ifB (Nat.beq i j) (k d) (ifB (Nat.blt i j) (FT.get e l i k) (FT.get e r i k)) := fun _ _ => rfl
    rw [e1, e1]
    cases Nat.beq i j with
    | true => rfl
    | false =>
      show ifB (Nat.blt i j) _ _ = match ifB (Nat.blt i j) _ _ with | none => e | some d => k d
      cases Nat.blt i j with
      | true => exact il
      | false => exact ir
def dfC (d : Df) : Bool := C8.scC d.N d.ps (defScope d.st) && (d.N.all fun x => !(x == ("__debug__" : Str)) && !(x == ("__classdict__" : Str))) && simpleP (defArgs d.st) && decide ((defArgs d.st).args.map (·.arg) = d.ps) && !(d.nm == ("__debug__" : Str))
structure DfOk (G : Gc) (F : FT) (d : Df) : Prop where
  c : dfC d = true
  f : F.find d.id = some (.mk d.ps.length (tailN (d.N.length - d.ps.length)) 0 (compB comb G 60 d.cc (defBody d.st)))
end Rk
end
section
set_option linter.all false
set_option autoImplicit false
set_option maxRecDepth 100000
namespace Rk
open PySem PySem.Spec PyProof.Rows L2
/-! ### the hook: defs, facts by names, and what stands under gcd, and under comb where it is asked for -/
/-- the module's dict, what it names, the defs' code and defaults; no care of doubles -/
def refsF (o : Obj) : List Addr := match o.data with
  | .func fd => He.refV fd.code ++ He.refV fd.defaults
  | _ => []
def asQ (g : Addr → Option Obj) : List Addr := match g mainGlobals with
  | some o => mainGlobals :: (He.refsO o ++ (He.refsO o).flatMap fun a => match g a with
    | some p => refsF p
    | none => [])
  | none => []
def vMath (cb : Bool) : Option (Option Value) × Option (Option (Option Value)) := (some (some (.builtin "math.gcd")), if cb = true then some (some (some (.builtin "math.comb"))) else none)
noncomputable def sMath (cb : Bool) (K : PySem.W.Frag) : Option (Option Value) × Option (Option (Option Value)) := (PySem.W.nsIn K mainGlobals "gcd", if cb = true then some (PySem.W.nsIn K mainGlobals "comb") else none)
noncomputable def kF (g : Addr → Option Obj) : PySem.W.Frag := He.frG g (asQ g)
noncomputable def obsG (cb : Bool) (fa : List He.Fa) (fn : List He.DefD) (g : Addr → Option Obj) : He.AlD × (Option (Option Value) × Option (Option (Option Value))) := (He.obsD fa fn (kF g), sMath cb (kF g))
noncomputable def hookG (cb : Bool) (fa : List He.Fa) (fn : List He.DefD) : PySem.W.Hook where
  α := He.AlD × (Option (Option Value) × Option (Option (Option Value)))
  obs := fun s => obsG cb fa fn s.heap.get?
  val := fun _ => (He.valD fn, vMath cb)
  says := fun _ h => ∃ K : PySem.W.Frag, K.In h ∧ He.SaysD fa fn K ∧ sMath cb K = vMath cb
  of := fun _ _ e => ⟨_, He.frG_in, (Prod.mk.inj e).1, (Prod.mk.inj e).2⟩
  keeps := fun _ _ _ ⟨K, hK, c⟩ k => ⟨K, PySem.W.Frag.In.keeps hK k, c⟩
theorem obsG_eq {cb : Bool} {fa : List He.Fa} {fn : List He.DefD} {g : Addr → Option Obj} {s : Shared} (h : ∀ a, g a = s.heap.get? a) : obsG cb fa fn g = (hookG cb fa fn).obs s := by
  have e : g = s.heap.get? := funext h
  rw [e]; rfl
/-- the run's equation out of seven, each a run of its own, so that none fills the room: statics and names; what was laid, and the looks; the facts; the defs in three parts; the defs' text -/
theorem run_split {α β : Type} {o : Option α} {L1 L2 L3 L4 : α → Bool} {S : α → β} {good : β} {g : α → Addr → Option Obj} {cb : Bool} {fa : List He.Fa} {fn : List He.DefD} {na nb : Nat}
    (h1 : o.map (fun x => L1 x && L2 x) = some true) (h2 : o.map (fun x => (L3 x && L4 x, S x)) = some (true, good))
    (h3 : o.map (fun x => (fa.all fun f => f.ok (kF (g x)), sMath cb (kF (g x)))) = some (true, vMath cb))
    (h4 : o.map (fun x => (fn.take na).all fun d => d.ok (kF (g x))) = some true)
    (h5 : o.map (fun x => ((fn.drop na).take nb).all fun d => d.ok (kF (g x))) = some true)
    (h6 : o.map (fun x => ((fn.drop na).drop nb).all fun d => d.ok (kF (g x))) = some true)
    (h7 : o.map (fun x => fn.map fun d => He.fnW (kF (g x)) d.at_) = some (fn.map He.DefD.val)) :
    o.map (fun x => (L1 x && L2 x && L3 x && L4 x, S x, obsG cb fa fn (g x))) = some (true, good, (He.valD fn, vMath cb)) := by
  cases o with
  | none => cases h1
  | some x =>
    have a1 : (L1 x && L2 x) = true := Option.some.inj h1
    obtain ⟨a2, a3⟩ := Prod.mk.inj (Option.some.inj h2)
    obtain ⟨b1, b2⟩ := Prod.mk.inj (Option.some.inj h3)
    have c1 : (fn.take na).all (fun d => d.ok (kF (g x))) = true := Option.some.inj h4
    have c2 : ((fn.drop na).take nb).all (fun d => d.ok (kF (g x))) = true := Option.some.inj h5
    have c3 : ((fn.drop na).drop nb).all (fun d => d.ok (kF (g x))) = true := Option.some.inj h6
    have c4 : (fn.map fun d => He.fnW (kF (g x)) d.at_) = fn.map He.DefD.val := Option.some.inj h7
    have c5 : (fn.all fun d => d.ok (kF (g x))) = true := by
      have e : fn = fn.take na ++ ((fn.drop na).take nb ++ (fn.drop na).drop nb) := by rw [List.take_append_drop, List.take_append_drop]
      rw [e, List.all_append, List.all_append, c1, c2, c3]; rfl
    have a4 : (L1 x && L2 x && L3 x && L4 x) = true := by
      rw [Bool.and_assoc, a1, a2]; rfl
    show some (L1 x && L2 x && L3 x && L4 x, S x, (((fa.all fun f => f.ok (kF (g x))) && fn.all fun d => d.ok (kF (g x)), fn.map fun d => He.fnW (kF (g x)) d.at_), sMath cb (kF (g x)))) = _
    rw [a4, a3, b1, b2, c5, c4]
    rfl
open HandSHeadRun PySem.W in
theorem run_eqI {r : OpenRow} {q : Program} {cb : Bool} {fa : List He.Fa} {fn : List He.DefD} {na nb : Nat} {ob : SharedT → (hookG cb fa fn).α} {M : Nat} {loose : List Str} {w : World} (eo : ob = fun s => obsG cb fa fn (HandSHeadRun.getT s))
    (h1 : (wholeF (fun p => stepQ (denQ tabQ) p w) fenceQ M r.prog).map (fun x => staticsOk (importedModules r.prog.main.body) x.1.heap x.2.abs.heap && namesBound r.prog x.2.abs.heap) = some true)
    (h2 : (wholeF (fun p => stepQ (denQ tabQ) p w) fenceQ M r.prog).map (fun x => (gensDone x.2.abs && laidKept x.1.heap x.2.abs.heap, seenQ q loose (importedModules r.prog.main.body) (fun s => xlAt q [] s && recOk r.toRowW.records s) x.2.abs)) = some (true, openGood q loose))
    (h3 : (wholeF (fun p => stepQ (denQ tabQ) p w) fenceQ M r.prog).map (fun x => (fa.all fun f => f.ok (kF (HandSHeadRun.getT x.2)), sMath cb (kF (HandSHeadRun.getT x.2)))) = some (true, vMath cb))
    (h4 : (wholeF (fun p => stepQ (denQ tabQ) p w) fenceQ M r.prog).map (fun x => (fn.take na).all fun d => d.ok (kF (HandSHeadRun.getT x.2))) = some true)
    (h5 : (wholeF (fun p => stepQ (denQ tabQ) p w) fenceQ M r.prog).map (fun x => ((fn.drop na).take nb).all fun d => d.ok (kF (HandSHeadRun.getT x.2))) = some true)
    (h6 : (wholeF (fun p => stepQ (denQ tabQ) p w) fenceQ M r.prog).map (fun x => ((fn.drop na).drop nb).all fun d => d.ok (kF (HandSHeadRun.getT x.2))) = some true)
    (h7 : (wholeF (fun p => stepQ (denQ tabQ) p w) fenceQ M r.prog).map (fun x => fn.map fun d => He.fnW (kF (HandSHeadRun.getT x.2)) d.at_) = some (fn.map He.DefD.val)) :
    RunEqI r q (hookG cb fa fn) ob M loose w := by
  subst eo
  exact run_split h1 h2 h3 h4 h5 h6 h7
def xD (x y : Str) (st : Stmt) : He.DefD := ⟨(x, none), y, y, defArgs st, defBody st, defScope st, [], []⟩
def fnL (ds : List Df) (sl sc : Stmt) : List He.DefD := ds.map (fun d => xD d.nm d.fn d.st) ++ [xD "law" "law" sl, xD "_law_cells" "_law_cells" sc]
def faL (ds : List Df) (gi : Gi) : List He.Fa := ds.map (fun d => .glo d.nm) ++ ([.glo "law", .glo "_law_cells"] ++ (bltN.map .free ++ (gi.ci.map (fun p => .int p.1 p.2) ++ gi.cs.map (fun p => .str p.1 ⟨p.2.toArray⟩))))
end Rk
end
section
set_option Elab.async false
set_option linter.all false
set_option maxRecDepth 1000000
set_option maxHeartbeats 0
noncomputable section
namespace Rk
open PySem PySem.Spec PyProof.Rows L2
def top (i : Nat) : Stmt := PySem.Challenge.pw_walktallies_k79_names_of_parameters_halv.main.body.getD i (.Pass ⟨0, 0, 0, 0⟩)
/-- is_number -/
def f6 : FD := .mk 1 .nil 0 (sRet (eAnd (eTst (tIsin (eVar 0) [0])) (eNot (eTst (tIsin (eVar 0) [1])))))
/-- is_from -/
def f7 : FD := .mk 2 .nil 0 (sRet (eAnd (eCall 6 (aCons (eVar 0) aNil)) (eTst (tCmp coGe (eVar 0) (eVar 1)))))
/-- is_long -/
def f8 : FD := .mk 2 .nil 0 (sRet (eAnd (eTst (tIsin (eVar 0) [3])) (eTst (tCmp coEq (eLen (eVar 0)) (eVar 1)))))
/-- tupled -/
def f9 : FD := .mk 1 (.u (.u .nil)) 0 (sRet (eIte (tVal (eTst (tIsin (eVar 0) [4, 3]))) (eSq true bTuple (eComp [1, 2] (eCall 9 (aCons (eVar 2) aNil)) (gN 2) (iSeq (eVar 0)) tYes)) (eVar 0)))
/-- ascends -/
def f10 : FD := .mk 1 (.u (.u .nil)) 0 (sRet (eSq false bAll (eComp [1, 2] (eTst (tCmp coLt (eIdx (eVar 0) (eVar 2)) (eIdx (eVar 0) (eBin opAdd (eVar 2) (eInt 1))))) (gN 2) (iRng1 (eBin opSub (eLen (eVar 0)) (eInt 1))) tYes)))
/-- are_numbers -/
def f11 : FD := .mk 1 (.u (.u .nil)) 0 (sRet (eAnd (eTst (tIsin (eVar 0) [3])) (eSq false bAll (eComp [1, 2] (eCall 6 (aCons (eVar 2) aNil)) (gN 2) (iSeq (eVar 0)) tYes))))
/-- is_row_below -/
def f12 : FD := .mk 2 (.u (.u .nil)) 0 (sRet (eAnd (eCall 11 (aCons (eVar 0) aNil)) (eSq false bAll (eComp [2, 3] (eTst (tCmp2 coLe coLt (eInt 0) (eVar 3) (eVar 1))) (gN 3) (iSeq (eVar 0)) tYes))))
/-- is_set_below -/
def f13 : FD := .mk 2 .nil 0 (sRet (eAnd (eCall 12 (aCons (eVar 0) (aCons (eVar 1) aNil))) (eCall 10 (aCons (eVar 0) aNil))))
/-- cut_line -/
def f16 : FD := .mk 1 (.u .nil) 0 (sSeq (sAsg (gN 1) (eLen (eVar 0))) (sSeq (sWhl (tAnd (tCmp coGt (eVar 1) (eInt 0)) (tCmp coEq (eIdx (eVar 0) (eBin opSub (eVar 1) (eInt 1))) (eInt 0))) (sAug 1 opSub (eInt 1))) (sRet (eSq true bTuple (eSl (eVar 0) oNone (oSome (eVar 1)))))))
/-- is_line_in -/
def f17 : FD := .mk 1 .nil 0 (sRet (eAnd (eCall 11 (aCons (eVar 0) aNil)) (eOr (eTst (tCmp coEq (eVar 0) (eTup aNil))) (eTst (tCmp coNe (eIdx (eVar 0) (eNeg (eInt 1))) (eInt 0))))))
/-- sure_line -/
def f18 : FD := .mk 1 (.u .nil) 0 (sSeq (sAsg (gN 1) (eCall 9 (aCons (eVar 0) aNil))) (sSeq (sIf (tOr (tNot (tVal (eCall 17 (aCons (eVar 1) aNil)))) (tCmp coGt (eLen (eVar 1)) (eInt 41))) sBad sNx) (sRet (eVar 1))))
/-- added -/
def f19 : FD := .mk 3 (.u (.u (.u (.u (.u (.u .nil)))))) 0 (sSeq (sAsg (gN 3) (eBin (vExt2 true) (eLen (eVar 0)) (eLen (eVar 1)))) (sSeq (sPar (gsCons (gN 4) (gsCons (gN 5) gsNil)) (aCons (eBin opAdd (eVar 0) (eBin opMul (eTup (aCons (eInt 0) aNil)) (eBin opSub (eVar 3) (eLen (eVar 0))))) (aCons (eBin opAdd (eVar 1) (eBin opMul (eTup (aCons (eInt 0) aNil)) (eBin opSub (eVar 3) (eLen (eVar 1))))) aNil))) (sRet (eCall 16 (aCons (eComp [6, 7, 8] (eBin opAdd (eVar 7) (eBin opMul (eVar 2) (eVar 8))) (gT (gsCons (gN 7) (gsCons (gN 8) gsNil))) (iZip (eVar 4) (eVar 5)) tYes) aNil)))))
/-- scaled -/
def f20 : FD := .mk 2 (.u (.u .nil)) 0 (sRet (eIte (tCmp coNe (eVar 1) (eInt 0)) (eSq true bTuple (eComp [2, 3] (eBin opMul (eVar 1) (eVar 3)) (gN 3) (iSeq (eVar 0)) tYes)) (eTup aNil)))
/-- times -/
def f21 : FD := .mk 2 (.u (.u (.u (.u (.u .nil))))) 0 (sSeq (sIf (tOr (tCmp coEq (eVar 0) (eTup aNil)) (tCmp coEq (eVar 1) (eTup aNil))) (sRet (eTup aNil)) sNx) (sSeq (sAsg (gN 2) (eBin opMul (eLst (aCons (eInt 0) aNil)) (eBin opSub (eBin opAdd (eLen (eVar 0)) (eLen (eVar 1))) (eInt 1)))) (sSeq (sFor (gT (gsCons (gN 3) (gsCons (gN 4) gsNil))) (iEnum (eVar 0)) (sFor (gT (gsCons (gN 5) (gsCons (gN 6) gsNil))) (iEnum (eVar 1)) (sAugS (eVar 2) (eBin opAdd (eVar 3) (eVar 5)) opAddI (eBin opMul (eVar 4) (eVar 6))))) (sRet (eSq true bTuple (eVar 2))))))
/-- often_in -/
def f22 : FD := .mk 2 (.u (.u .nil)) 0 (sSeq (sAsg (gN 2) (eTup (aCons (eInt 1) aNil))) (sSeq (sFor (gN 3) (iRng1 (eVar 1)) (sAsg (gN 2) (eCall 21 (aCons (eVar 2) (aCons (eVar 0) aNil))))) (sRet (eVar 2))))
/-- value_in -/
def f23 : FD := .mk 2 (.u (.u .nil)) 0 (sSeq (sAsg (gN 2) (eInt 0)) (sSeq (sFor (gN 3) (iSeq (eRev (eVar 0))) (sAsg (gN 2) (eBin opAdd (eBin opMul (eVar 2) (eVar 1)) (eVar 3)))) (sRet (eVar 2))))
/-- value_at -/
def f24 : FD := .mk 3 (.u (.u (.u .nil))) 0 (sSeq (sAsg (gT (gsCons (gN 3) (gsCons (gN 4) gsNil))) (eTup (aCons (eInt 0) (aCons (eInt 1) aNil)))) (sSeq (sFor (gN 5) (iSeq (eRev (eVar 0))) (sSeq (sAsg (gN 3) (eBin opAdd (eBin opMul (eVar 3) (eVar 1)) (eBin opMul (eVar 5) (eVar 4)))) (sAsg (gN 4) (eBin opMul (eVar 4) (eVar 2))))) (sRet (eVar 3))))
/-- slope_in -/
def f25 : FD := .mk 1 (.u (.u (.u .nil))) 0 (sRet (eSq true bTuple (eSl (eComp [1, 2, 3] (eBin opMul (eVar 2) (eVar 3)) (gT (gsCons (gN 2) (gsCons (gN 3) gsNil))) (iEnum (eVar 0)) tYes) (oSome (eInt 1)) oNone)))
/-- moved_in -/
def f26 : FD := .mk 2 (.u (.u .nil)) 0 (sSeq (sAsg (gN 2) (eTup aNil)) (sSeq (sFor (gN 3) (iSeq (eRev (eVar 0))) (sAsg (gN 2) (eCall 19 (aCons (eCall 21 (aCons (eVar 2) (aCons (eTup (aCons (eVar 1) (aCons (eInt 1) aNil))) aNil))) (aCons (eCall 16 (aCons (eTup (aCons (eVar 3) aNil)) aNil)) (aCons (eInt 1) aNil)))))) (sRet (eVar 2))))
/-- about_in -/
def f27 : FD := .mk 1 (.u (.u (.u .nil))) 0 (sRet (eSq true bTuple (eComp [1, 2, 3] (eIte (tCmp coEq (eBin opMod (eVar 2) (eInt 2)) (eInt 0)) (eVar 3) (eNeg (eVar 3))) (gT (gsCons (gN 2) (gsCons (gN 3) gsNil))) (iEnum (eVar 0)) tYes)))
/-- put_in -/
def f28 : FD := .mk 2 (.u (.u .nil)) 0 (sSeq (sAsg (gN 2) (eTup aNil)) (sSeq (sFor (gN 3) (iSeq (eRev (eVar 0))) (sAsg (gN 2) (eCall 19 (aCons (eCall 21 (aCons (eVar 2) (aCons (eVar 1) aNil))) (aCons (eCall 16 (aCons (eTup (aCons (eVar 3) aNil)) aNil)) (aCons (eInt 1) aNil)))))) (sRet (eVar 2))))
/-- common_number -/
def f29 : FD := .mk 1 (.u (.u .nil)) 0 (sSeq (sAsg (gN 1) (eInt 0)) (sSeq (sFor (gN 2) (iSeq (eVar 0)) (sAsg (gN 1) (eBin vGcd (eVar 1) (eVar 2)))) (sRet (eVar 1))))
/-- plain_in -/
def f30 : FD := .mk 1 (.u (.u (.u .nil))) 0 (sSeq (sIf (tCmp coEq (eVar 0) (eTup aNil)) (sRet (eTup aNil)) sNx) (sSeq (sAsg (gN 1) (eIte (tCmp coGt (eIdx (eVar 0) (eNeg (eInt 1))) (eInt 0)) (eCall 29 (aCons (eVar 0) aNil)) (eNeg (eCall 29 (aCons (eVar 0) aNil))))) (sRet (eSq true bTuple (eComp [2, 3] (eBin opDiv (eVar 3) (eVar 1)) (gN 3) (iSeq (eVar 0)) tYes)))))
/-- same_signs -/
def f31 : FD := .mk 1 (.u (.u .nil)) 0 (sRet (eSq true bTuple (eComp [1, 2] (eBin opDiv (eVar 2) (eCall 29 (aCons (eVar 0) aNil))) (gN 2) (iSeq (eVar 0)) tYes)))
/-- rest_in -/
def f32 : FD := .mk 2 (.u (.u (.u .nil))) 0 (sSeq (sPar (gsCons (gN 2) (gsCons (gN 3) gsNil)) (aCons (eVar 0) (aCons (eIdx (eVar 1) (eNeg (eInt 1))) aNil))) (sSeq (sWhl (tCmp coGe (eLen (eVar 2)) (eLen (eVar 1))) (sSeq (sAsg (gN 4) (eBin opSub (eLen (eVar 2)) (eLen (eVar 1)))) (sAsg (gN 2) (eCall 19 (aCons (eCall 20 (aCons (eVar 2) (aCons (eOne vAbs (eVar 3)) aNil))) (aCons (eBin opAdd (eBin opMul (eTup (aCons (eInt 0) aNil)) (eVar 4)) (eCall 20 (aCons (eVar 1) (aCons (eIte (tCmp coGt (eVar 3) (eInt 0)) (eIdx (eVar 2) (eNeg (eInt 1))) (eNeg (eIdx (eVar 2) (eNeg (eInt 1))))) aNil)))) (aCons (eNeg (eInt 1)) aNil))))))) (sRet (eIte (tCmp coNe (eVar 2) (eTup aNil)) (eCall 31 (aCons (eVar 2) aNil)) (eTup aNil)))))
/-- shared_in -/
def f33 : FD := .mk 2 (.u (.u .nil)) 0 (sSeq (sPar (gsCons (gN 2) (gsCons (gN 3) gsNil)) (aCons (eCall 30 (aCons (eVar 0) aNil)) (aCons (eCall 30 (aCons (eVar 1) aNil)) aNil))) (sSeq (sWhl (tCmp coNe (eVar 3) (eTup aNil)) (sPar (gsCons (gN 2) (gsCons (gN 3) gsNil)) (aCons (eVar 3) (aCons (eCall 30 (aCons (eCall 32 (aCons (eVar 2) (aCons (eVar 3) aNil))) aNil)) aNil)))) (sRet (eVar 2))))
/-- quotient_in -/
def f34 : FD := .mk 2 (.u (.u (.u (.u .nil)))) 0 (sSeq (sPar (gsCons (gN 2) (gsCons (gN 3) gsNil)) (aCons (eVar 0) (aCons (eBin opMul (eLst (aCons (eInt 0) aNil)) (eBin (vExt2 true) (eInt 0) (eBin opAdd (eBin opSub (eLen (eVar 0)) (eLen (eVar 1))) (eInt 1)))) aNil))) (sSeq (sWhl (tAnd (tCmp coGe (eLen (eVar 2)) (eLen (eVar 1))) (tCmp coNe (eVar 2) (eTup aNil))) (sSeq (sIf (tCmp coNe (eBin opMod (eIdx (eVar 2) (eNeg (eInt 1))) (eIdx (eVar 1) (eNeg (eInt 1)))) (eInt 0)) (sRet (eCst .non)) sNx) (sSeq (sPar (gsCons (gN 4) (gsCons (gN 5) gsNil)) (aCons (eBin opSub (eLen (eVar 2)) (eLen (eVar 1))) (aCons (eBin opDiv (eIdx (eVar 2) (eNeg (eInt 1))) (eIdx (eVar 1) (eNeg (eInt 1)))) aNil))) (sSeq (sAsg (gS (eVar 3) (eVar 4)) (eVar 5)) (sAsg (gN 2) (eCall 19 (aCons (eVar 2) (aCons (eBin opAdd (eBin opMul (eTup (aCons (eInt 0) aNil)) (eVar 4)) (eCall 20 (aCons (eVar 1) (aCons (eVar 5) aNil)))) (aCons (eNeg (eInt 1)) aNil))))))))) (sRet (eIte (tCmp coEq (eVar 2) (eTup aNil)) (eCall 16 (aCons (eVar 3) aNil)) (eCst .non)))))
/-- square_parts_in -/
def f35 : FD := .mk 1 (.u (.u (.u (.u (.u (.u (.u .nil))))))) 0 (sSeq (sPar (gsCons (gN 1) (gsCons (gN 2) gsNil)) (aCons (eLst aNil) (aCons (eInt 1) aNil))) (sSeq (sAsg (gN 3) (eCall 30 (aCons (eVar 0) aNil))) (sSeq (sAsg (gN 4) (eCall 33 (aCons (eVar 3) (aCons (eCall 25 (aCons (eVar 3) aNil)) aNil)))) (sSeq (sAsg (gN 5) (eCall 34 (aCons (eVar 3) (aCons (eVar 4) aNil)))) (sSeq (sWhl (tCmp coGt (eLen (eVar 5)) (eInt 1)) (sSeq (sAsg (gN 6) (eCall 33 (aCons (eVar 5) (aCons (eVar 4) aNil)))) (sSeq (sAsg (gN 7) (eCall 34 (aCons (eVar 5) (aCons (eVar 6) aNil)))) (sSeq (sIf (tCmp coGt (eLen (eVar 7)) (eInt 1)) (sExpr (eMt1 mAppend (eVar 1) (eTup (aCons (eVar 7) (aCons (eVar 2) aNil))))) sNx) (sPar (gsCons (gN 5) (gsCons (gN 4) (gsCons (gN 2) gsNil))) (aCons (eVar 6) (aCons (eCall 34 (aCons (eVar 4) (aCons (eVar 6) aNil))) (aCons (eBin opAdd (eVar 2) (eInt 1)) aNil)))))))) (sRet (eVar 1)))))))
/-- is_tie_in -/
def f38 : FD := .mk 2 .nil 0 (sRet (eAnd (eCall 8 (aCons (eVar 1) (aCons (eInt 2) aNil))) (eCall 13 (aCons (eVar 1) (aCons (eVar 0) aNil)))))
/-- is_web_in -/
def f39 : FD := .mk 1 (.u (.u .nil)) 0 (sSeq (sIf (tOr (tNot (tVal (eCall 8 (aCons (eVar 0) (aCons (eInt 2) aNil))))) (tOr (tNot (tVal (eCall 7 (aCons (eIdx (eVar 0) (eInt 0)) (aCons (eInt 0) aNil))))) (tCmp coGt (eIdx (eVar 0) (eInt 0)) (eInt 40)))) (sRet (eCst (.bl false))) sNx) (sRet (eAnd (eTst (tIsin (eIdx (eVar 0) (eInt 1)) [3])) (eAnd (eSq false bAll (eComp [1, 2] (eCall 38 (aCons (eIdx (eVar 0) (eInt 0)) (aCons (eVar 2) aNil))) (gN 2) (iSeq (eIdx (eVar 0) (eInt 1))) tYes)) (eCall 10 (aCons (eIdx (eVar 0) (eInt 1)) aNil))))))
/-- sure_web -/
def f40 : FD := .mk 1 (.u .nil) 0 (sSeq (sAsg (gN 1) (eCall 9 (aCons (eVar 0) aNil))) (sSeq (sIf (tNot (tVal (eCall 39 (aCons (eVar 1) aNil)))) sBad sNx) (sRet (eVar 1))))
/-- tie_of -/
def f41 : FD := .mk 2 .nil 0 (sRet (eIte (tCmp coLt (eVar 0) (eVar 1)) (eTup (aCons (eVar 0) (aCons (eVar 1) aNil))) (eTup (aCons (eVar 1) (aCons (eVar 0) aNil)))))
/-- near_in -/
def f42 : FD := .mk 1 (.u (.u (.u (.u (.u (.u .nil)))))) 0 (sSeq (sAsg (gN 1) (eComp [4, 5] (eLst aNil) (gN 5) (iRng1 (eIdx (eVar 0) (eInt 0))) tYes)) (sSeq (sFor (gT (gsCons (gN 2) (gsCons (gN 3) gsNil))) (iSeq (eIdx (eVar 0) (eInt 1))) (sSeq (sExpr (eMt1 mAppend (eIdx (eVar 1) (eVar 2)) (eVar 3))) (sExpr (eMt1 mAppend (eIdx (eVar 1) (eVar 3)) (eVar 2))))) (sRet (eComp [4, 6] (eSq true bSorted (eVar 6)) (gN 6) (iSeq (eVar 1)) tYes))))
/-- clique_in -/
def f43 : FD := .mk 1 (.u (.u (.u .nil))) 0 (sRet (eTup (aCons (eVar 0) (aCons (eSq true bTuple (eComp2 [1, 2, 3] [3] (eTup (aCons (eVar 2) (aCons (eVar 3) aNil))) (gN 2) (iRng1 (eVar 0)) tYes (gN 3) (iRng2 (eBin opAdd (eVar 2) (eInt 1)) (eVar 0)) tYes)) aNil))))
/-- turned_in -/
def f44 : FD := .mk 1 (.u (.u (.u .nil))) 0 (sSeq (sAsg (gN 1) (eDct true (eComp [2, 3] (eTup (aCons (eVar 3) (aCons (eCst (.bl true)) aNil))) (gN 3) (iSeq (eIdx (eVar 0) (eInt 1))) tYes))) (sRet (eTup (aCons (eIdx (eVar 0) (eInt 0)) (aCons (eSq true bTuple (eComp [2, 3] (eVar 3) (gN 3) (iSeq (eIdx (eCall 43 (aCons (eIdx (eVar 0) (eInt 0)) aNil)) (eInt 1))) (tCmp ninG (eVar 3) (eVar 1)))) aNil)))))
/-- part_in -/
def f45 : FD := .mk 2 (.u (.u (.u (.u (.u (.u (.u .nil))))))) 0 (sSeq (sAsg (gN 2) (eDict0 false)) (sSeq (sFor (gT (gsCons (gN 3) (gsCons (gN 4) gsNil))) (iEnum (eVar 1)) (sAsg (gS (eVar 2) (eVar 4)) (eVar 3))) (sSeq (sAsg (gN 5) (eComp [6, 7, 8] (eTup (aCons (eIdx (eVar 2) (eVar 7)) (aCons (eIdx (eVar 2) (eVar 8)) aNil))) (gT (gsCons (gN 7) (gsCons (gN 8) gsNil))) (iSeq (eIdx (eVar 0) (eInt 1))) (tAnd (tCmp inG (eVar 7) (eVar 2)) (tCmp inG (eVar 8) (eVar 2))))) (sRet (eTup (aCons (eLen (eVar 1)) (aCons (eSq true bTuple (eSq true bSorted (eComp [6, 7, 8] (eCall 41 (aCons (eVar 7) (aCons (eVar 8) aNil))) (gT (gsCons (gN 7) (gsCons (gN 8) gsNil))) (iSeq (eVar 5)) tYes))) aNil)))))))
/-- lots_in -/
def f46 : FD := .mk 1 (.u (.u (.u (.u (.u (.u (.u .nil))))))) 0 (sSeq (sPar (gsCons (gN 1) (gsCons (gN 2) (gsCons (gN 3) gsNil))) (aCons (eCall 42 (aCons (eVar 0) aNil)) (aCons (eDict0 false) (aCons (eLst aNil) aNil)))) (sSeq (sFor (gN 4) (iRng1 (eIdx (eVar 0) (eInt 0))) (sSeq (sIf (tCmp inG (eVar 4) (eVar 2)) sCnt sNx) (sSeq (sPar (gsCons (gN 5) (gsCons (gN 6) gsNil)) (aCons (eLst (aCons (eVar 4) aNil)) (aCons (eLst (aCons (eVar 4) aNil)) aNil))) (sSeq (sAsg (gS (eVar 2) (eVar 4)) (eCst (.bl true))) (sSeq (sWhl (tCmp coNe (eVar 6) (eLst aNil)) (sFor (gN 7) (iSeq (eIdx (eVar 1) (eMt0 mPop (eVar 6)))) (sIf (tCmp ninG (eVar 7) (eVar 2)) (sSeq (sAsg (gS (eVar 2) (eVar 7)) (eCst (.bl true))) (sSeq (sExpr (eMt1 mAppend (eVar 5) (eVar 7))) (sExpr (eMt1 mAppend (eVar 6) (eVar 7))))) sNx))) (sExpr (eMt1 mAppend (eVar 3) (eSq true bTuple (eSq true bSorted (eVar 5)))))))))) (sRet (eVar 3))))
/-- sides_in -/
def f47 : FD := .mk 1 (.u (.u (.u (.u (.u (.u (.u .nil))))))) 0 (sSeq (sPar (gsCons (gN 1) (gsCons (gN 2) gsNil)) (aCons (eCall 42 (aCons (eVar 0) aNil)) (aCons (eBin opMul (eLst (aCons (eCst .non) aNil)) (eIdx (eVar 0) (eInt 0))) aNil))) (sSeq (sFor (gN 3) (iSeq (eCall 46 (aCons (eVar 0) aNil))) (sSeq (sAsg (gS (eVar 2) (eIdx (eVar 3) (eInt 0))) (eInt 0)) (sSeq (sAsg (gN 4) (eLst (aCons (eIdx (eVar 3) (eInt 0)) aNil))) (sSeq (sAsg (gN 5) (eInt 0)) (sWhl (tCmp coLt (eVar 5) (eLen (eVar 4))) (sSeq (sAsg (gN 6) (eIdx (eVar 4) (eVar 5))) (sSeq (sAug 5 opAddI (eInt 1)) (sFor (gN 7) (iSeq (eIdx (eVar 1) (eVar 6))) (sIf (tCmp coIs (eIdx (eVar 2) (eVar 7)) (eCst .non)) (sSeq (sAsg (gS (eVar 2) (eVar 7)) (eBin opSub (eInt 1) (eIdx (eVar 2) (eVar 6)))) (sExpr (eMt1 mAppend (eVar 4) (eVar 7)))) (sIf (tCmp coEq (eIdx (eVar 2) (eVar 7)) (eIdx (eVar 2) (eVar 6))) (sRet (eCst .non)) sNx)))))))))) (sRet (eSq true bTuple (eVar 2)))))
/-- odd_ring_in -/
def f48 : FD := .mk 1 (.u (.u (.u (.u (.u (.u (.u (.u (.u (.u (.u .nil))))))))))) 0 (sSeq (sPar (gsCons (gN 1) (gsCons (gN 2) gsNil)) (aCons (eCst .non) (aCons (eCall 42 (aCons (eVar 0) aNil)) aNil))) (sSeq (sFor (gN 3) (iRng1 (eIdx (eVar 0) (eInt 0))) (sSeq (sPar (gsCons (gN 4) (gsCons (gN 5) gsNil)) (aCons (eDictN true (aCons (eTup (aCons (eVar 3) (aCons (eInt 0) aNil))) (aCons (eCst .non) aNil))) (aCons (eLst (aCons (eTup (aCons (eVar 3) (aCons (eInt 0) aNil))) aNil)) aNil))) (sSeq (sAsg (gN 6) (eInt 0)) (sSeq (sWhl (tCmp coLt (eVar 6) (eLen (eVar 5))) (sSeq (sAsg (gT (gsCons (gN 7) (gsCons (gN 8) gsNil))) (eIdx (eVar 5) (eVar 6))) (sSeq (sAug 6 opAddI (eInt 1)) (sFor (gN 9) (iSeq (eIdx (eVar 2) (eVar 7))) (sIf (tCmp ninG (eTup (aCons (eVar 9) (aCons (eBin opSub (eInt 1) (eVar 8)) aNil))) (eVar 4)) (sSeq (sAsg (gS (eVar 4) (eTup (aCons (eVar 9) (aCons (eBin opSub (eInt 1) (eVar 8)) aNil)))) (eTup (aCons (eVar 7) (aCons (eVar 8) aNil)))) (sExpr (eMt1 mAppend (eVar 5) (eTup (aCons (eVar 9) (aCons (eBin opSub (eInt 1) (eVar 8)) aNil)))))) sNx))))) (sIf (tCmp inG (eTup (aCons (eVar 3) (aCons (eInt 1) aNil))) (eVar 4)) (sSeq (sPar (gsCons (gN 10) (gsCons (gN 11) gsNil)) (aCons (eLst aNil) (aCons (eIdx (eVar 4) (eTup (aCons (eVar 3) (aCons (eInt 1) aNil)))) aNil))) (sSeq (sWhl (tCmp coIsn (eVar 11) (eCst .non)) (sSeq (sExpr (eMt1 mAppend (eVar 10) (eIdx (eVar 11) (eInt 0)))) (sAsg (gN 11) (eIdx (eVar 4) (eVar 11))))) (sIf (tOr (tCmp coIs (eVar 1) (eCst .non)) (tCmp coLt (eLen (eVar 10)) (eLen (eVar 1)))) (sAsg (gN 1) (eSq true bTuple (eVar 10))) sNx))) sNx))))) (sRet (eVar 1))))
/-- is_table_in -/
def f50 : FD := .mk 1 (.u (.u .nil)) 0 (sSeq (sIf (tOr (tNot (tVal (eTst (tIsin (eVar 0) [3])))) (tNot (tVal (eSq false bAll (eComp [1, 2] (eCall 11 (aCons (eVar 2) aNil)) (gN 2) (iSeq (eVar 0)) tYes))))) (sRet (eCst (.bl false))) sNx) (sRet (eOr (eTst (tCmp coEq (eVar 0) (eTup aNil))) (eSq false bAll (eComp [1, 2] (eTst (tCmp coEq (eLen (eVar 2)) (eLen (eIdx (eVar 0) (eInt 0))))) (gN 2) (iSeq (eVar 0)) tYes)))))
/-- one_in -/
def f51 : FD := .mk 1 (.u (.u (.u .nil))) 0 (sRet (eComp [1, 2] (eComp [1, 3] (eIte (tCmp coEq (eVar 2) (eVar 3)) (eInt 1) (eInt 0)) (gN 3) (iRng1 (eVar 0)) tYes) (gN 2) (iRng1 (eVar 0)) tYes))
/-- product_in -/
def f52 : FD := .mk 2 (.u (.u (.u (.u (.u (.u .nil)))))) 0 (sSeq (sAsg (gN 2) (eSq true bZips (eVar 1))) (sRet (eComp [3, 4] (eComp [3, 5] (eSq true bSum (eComp [3, 6, 7] (eBin opMul (eVar 6) (eVar 7)) (gT (gsCons (gN 6) (gsCons (gN 7) gsNil))) (iZip (eVar 4) (eVar 5)) tYes)) (gN 5) (iSeq (eVar 2)) tYes) (gN 4) (iSeq (eVar 0)) tYes)))
/-- sum_in -/
def f53 : FD := .mk 3 (.u (.u (.u (.u (.u .nil))))) 0 (sRet (eComp [3, 4, 5] (eComp [3, 6, 7] (eBin opAdd (eVar 6) (eBin opMul (eVar 2) (eVar 7))) (gT (gsCons (gN 6) (gsCons (gN 7) gsNil))) (iZip (eVar 4) (eVar 5)) tYes) (gT (gsCons (gN 4) (gsCons (gN 5) gsNil))) (iZip (eVar 0) (eVar 1)) tYes))
/-- trace_in -/
def f54 : FD := .mk 1 (.u (.u (.u .nil))) 0 (sRet (eSq true bSum (eComp [1, 2, 3] (eIdx (eVar 3) (eVar 2)) (gT (gsCons (gN 2) (gsCons (gN 3) gsNil))) (iEnum (eVar 0)) tYes)))
/-- power_in -/
def f55 : FD := .mk 2 (.u (.u (.u (.u (.u .nil))))) 0 (sSeq (sPar (gsCons (gN 2) (gsCons (gN 3) (gsCons (gN 4) gsNil))) (aCons (eCall 51 (aCons (eLen (eVar 0)) aNil)) (aCons (eComp [5, 6] (eSq true bList (eVar 6)) (gN 6) (iSeq (eVar 0)) tYes) (aCons (eVar 1) aNil)))) (sSeq (sWhl (tCmp coGt (eVar 4) (eInt 0)) (sSeq (sIf (tCmp coEq (eBin opMod (eVar 4) (eInt 2)) (eInt 1)) (sAsg (gN 2) (eCall 52 (aCons (eVar 2) (aCons (eVar 3) aNil)))) sNx) (sPar (gsCons (gN 3) (gsCons (gN 4) gsNil)) (aCons (eCall 52 (aCons (eVar 3) (aCons (eVar 3) aNil))) (aCons (eBin opDiv (eVar 4) (eInt 2)) aNil))))) (sRet (eVar 2))))
/-- poly_of_table -/
def f56 : FD := .mk 1 (.u (.u (.u (.u (.u (.u .nil)))))) 0 (sSeq (sPar (gsCons (gN 1) (gsCons (gN 2) (gsCons (gN 3) gsNil))) (aCons (eLen (eVar 0)) (aCons (eCall 51 (aCons (eLen (eVar 0)) aNil)) (aCons (eLst (aCons (eInt 1) aNil)) aNil)))) (sSeq (sFor (gN 4) (iRng2 (eInt 1) (eBin opAdd (eVar 1) (eInt 1))) (sSeq (sAsg (gN 5) (eCall 52 (aCons (eVar 0) (aCons (eVar 2) aNil)))) (sSeq (sAsg (gN 6) (eBin opDiv (eNeg (eCall 54 (aCons (eVar 5) aNil))) (eVar 4))) (sSeq (sExpr (eMt1 mAppend (eVar 3) (eVar 6))) (sAsg (gN 2) (eCall 53 (aCons (eVar 5) (aCons (eCall 51 (aCons (eVar 1) aNil)) (aCons (eVar 6) aNil))))))))) (sRet (eSq true bTuple (eRev (eVar 3))))))
/-- step_rows -/
def f57 : FD := .mk 1 (.u (.u (.u (.u (.u (.u (.u (.u (.u (.u (.u (.u (.u .nil))))))))))))) 0 (sSeq (sAsg (gT (gsCons (gN 1) (gsCons (gN 2) (gsCons (gN 3) (gsCons (gN 4) (gsCons (gN 5) gsNil)))))) (eTup (aCons (eComp [12, 13] (eSq true bList (eVar 13)) (gN 13) (iSeq (eVar 0)) tYes) (aCons (eInt 1) (aCons (eInt 1) (aCons (eLst aNil) (aCons (eInt 0) aNil))))))) (sSeq (sAsg (gN 6) (eIte (tCmp coNe (eVar 1) (eLst aNil)) (eLen (eIdx (eVar 1) (eInt 0))) (eInt 0))) (sSeq (sFor (gN 7) (iRng1 (eVar 6)) (sSeq (sAsg (gN 9) (eComp [12, 8] (eVar 8) (gN 8) (iRng2 (eVar 5) (eLen (eVar 1))) (tCmp coNe (eIdx (eIdx (eVar 1) (eVar 8)) (eVar 7)) (eInt 0)))) (sSeq (sIf (tCmp coEq (eVar 9) (eLst aNil)) sCnt sNx) (sSeq (sIf (tCmp coNe (eIdx (eVar 9) (eInt 0)) (eVar 5)) (sSeq (sAsg (gT (gsCons (gS (eVar 1) (eVar 5)) (gsCons (gS (eVar 1) (eIdx (eVar 9) (eInt 0))) gsNil))) (eTup (aCons (eIdx (eVar 1) (eIdx (eVar 9) (eInt 0))) (aCons (eIdx (eVar 1) (eVar 5)) aNil)))) (sAsg (gN 2) (eNeg (eVar 2)))) sNx) (sSeq (sFor (gN 8) (iRng2 (eBin opAdd (eVar 5) (eInt 1)) (eLen (eVar 1))) (sSeq (sAsg (gN 10) (eLst aNil)) (sSeq (sFor (gN 11) (iRng1 (eVar 6)) (sExpr (eMt1 mAppend (eVar 10) (eBin opDiv (eBin opSub (eBin opMul (eIdx (eIdx (eVar 1) (eVar 8)) (eVar 11)) (eIdx (eIdx (eVar 1) (eVar 5)) (eVar 7))) (eBin opMul (eIdx (eIdx (eVar 1) (eVar 5)) (eVar 11)) (eIdx (eIdx (eVar 1) (eVar 8)) (eVar 7)))) (eVar 3))))) (sAsg (gS (eVar 1) (eVar 8)) (eVar 10))))) (sSeq (sAsg (gN 3) (eIdx (eIdx (eVar 1) (eVar 5)) (eVar 7))) (sSeq (sExpr (eMt1 mAppend (eVar 4) (eVar 7))) (sAug 5 opAddI (eInt 1))))))))) (sRet (eTup (aCons (eVar 1) (aCons (eVar 2) (aCons (eVar 4) aNil))))))))
/-- rank_in -/
def f58 : FD := .mk 1 .nil 0 (sRet (eLen (eIdx (eCall 57 (aCons (eVar 0) aNil)) (eInt 2))))
/-- ties_table_in -/
def f59 : FD := .mk 1 (.u (.u (.u (.u (.u .nil))))) 0 (sSeq (sAsg (gN 1) (eComp [4, 5] (eBin opMul (eLst (aCons (eInt 0) aNil)) (eIdx (eVar 0) (eInt 0))) (gN 5) (iRng1 (eIdx (eVar 0) (eInt 0))) tYes)) (sSeq (sFor (gT (gsCons (gN 2) (gsCons (gN 3) gsNil))) (iSeq (eIdx (eVar 0) (eInt 1))) (sAsg2 (gS (eIdx (eVar 1) (eVar 2)) (eVar 3)) (gS (eIdx (eVar 1) (eVar 3)) (eVar 2)) (eInt 1))) (sRet (eVar 1))))
/-- rows_of -/
def f60 : FD := .mk 1 (.u (.u .nil)) 0 (sRet (eSq true bTuple (eComp [1, 2] (eSq true bTuple (eVar 2)) (gN 2) (iSeq (eVar 0)) tYes)))
/-- line_at_table -/
def f61 : FD := .mk 2 (.u (.u (.u (.u .nil)))) 0 (sSeq (sAsg (gN 2) (eComp [4, 5] (eBin opMul (eLst (aCons (eInt 0) aNil)) (eLen (eVar 1))) (gN 5) (iSeq (eVar 1)) tYes)) (sSeq (sFor (gN 3) (iSeq (eRev (eVar 0))) (sAsg (gN 2) (eCall 53 (aCons (eCall 52 (aCons (eVar 2) (aCons (eVar 1) aNil))) (aCons (eCall 51 (aCons (eLen (eVar 1)) aNil)) (aCons (eVar 3) aNil)))))) (sRet (eVar 2))))
/-- sure_few -/
def f64 : FD := .mk 1 (.u .nil) 0 (sSeq (sAsg (gN 1) (eCall 40 (aCons (eVar 0) aNil))) (sSeq (sIf (tCmp coGt (eIdx (eVar 1) (eInt 0)) (eInt 20)) sBad sNx) (sRet (eVar 1))))
/-- poly_in -/
def f65 : FD := .mk 1 .nil 0 (sRet (eCall 56 (aCons (eCall 59 (aCons (eVar 0) aNil)) aNil)))
/-- step_in -/
def f67 : FD := .mk 2 (.u (.u (.u .nil))) 0 (sRet (eComp [2, 3] (eSq true bSum (eComp [2, 4] (eIdx (eVar 1) (eVar 4)) (gN 4) (iSeq (eVar 3)) tYes)) (gN 3) (iSeq (eVar 0)) tYes))
/-- totals_in -/
def f68 : FD := .mk 2 (.u (.u (.u (.u .nil)))) 0 (sSeq (sPar (gsCons (gN 2) (gsCons (gN 3) (gsCons (gN 4) gsNil))) (aCons (eCall 42 (aCons (eVar 0) aNil)) (aCons (eBin opMul (eLst (aCons (eInt 1) aNil)) (eIdx (eVar 0) (eInt 0))) (aCons (eLst aNil) aNil)))) (sSeq (sFor (gN 5) (iRng1 (eVar 1)) (sSeq (sExpr (eMt1 mAppend (eVar 4) (eSq true bSum (eVar 3)))) (sAsg (gN 3) (eCall 67 (aCons (eVar 2) (aCons (eVar 3) aNil)))))) (sRet (eVar 4))))
/-- least_line_in -/
def f69 : FD := .mk 1 (.u (.u (.u .nil))) 0 (sSeq (sAsg (gN 1) (eTup (aCons (eInt 1) aNil))) (sSeq (sFor (gT (gsCons (gN 2) (gsCons (gN 3) gsNil))) (iSeq (eCall 35 (aCons (eCall 65 (aCons (eVar 0) aNil)) aNil))) (sAsg (gN 1) (eCall 21 (aCons (eVar 1) (aCons (eVar 2) aNil))))) (sRet (eVar 1))))
/-- are_lots_in -/
def f71 : FD := .mk 2 (.u (.u (.u .nil))) 0 (sSeq (sIf (tOr (tNot (tVal (eTst (tIsin (eVar 1) [3])))) (tNot (tVal (eSq false bAll (eComp [2, 3] (eAnd (eCall 13 (aCons (eVar 3) (aCons (eVar 0) aNil))) (eTst (tCmp coNe (eVar 3) (eTup aNil)))) (gN 3) (iSeq (eVar 1)) tYes))))) (sRet (eCst (.bl false))) sNx) (sRet (eAnd (eTst (tCmp coEq (eSq true bSorted (eComp2 [2, 3, 4] [4] (eVar 4) (gN 3) (iSeq (eVar 1)) tYes (gN 4) (iSeq (eVar 3)) tYes)) (eRg false (eVar 0)))) (eTst (tCmp coEq (eSq true bList (eVar 1)) (eSq true bSorted (eVar 1)))))))
/-- sure_lots -/
def f72 : FD := .mk 2 (.u .nil) 0 (sSeq (sAsg (gN 2) (eCall 9 (aCons (eVar 1) aNil))) (sSeq (sIf (tNot (tVal (eCall 71 (aCons (eIdx (eVar 0) (eInt 0)) (aCons (eVar 2) aNil))))) sBad sNx) (sRet (eVar 2))))
/-- lot_names -/
def f73 : FD := .mk 1 (.u (.u (.u (.u .nil)))) 0 (sSeq (sAsg (gN 1) (eDict0 false)) (sSeq (sFor (gT (gsCons (gN 2) (gsCons (gN 3) gsNil))) (iEnum (eVar 0)) (sFor (gN 4) (iSeq (eVar 3)) (sAsg (gS (eVar 1) (eVar 4)) (eVar 2)))) (sRet (eVar 1))))
/-- counts_in -/
def f74 : FD := .mk 2 (.u (.u (.u (.u (.u .nil))))) 0 (sSeq (sAsg (gN 2) (eCall 73 (aCons (eVar 1) aNil))) (sSeq (sAsg (gN 3) (eLst aNil)) (sSeq (sFor (gN 4) (iSeq (eVar 0)) (sSeq (sAsg (gN 5) (eBin opMul (eLst (aCons (eInt 0) aNil)) (eLen (eVar 1)))) (sSeq (sFor (gN 6) (iSeq (eVar 4)) (sAugS (eVar 5) (eIdx (eVar 2) (eVar 6)) opAddI (eInt 1))) (sExpr (eMt1 mAppend (eVar 3) (eSq true bTuple (eVar 5))))))) (sRet (eVar 3)))))
/-- is_even_in -/
def f75 : FD := .mk 2 (.u (.u (.u (.u .nil)))) 0 (sSeq (sAsg (gN 2) (eCall 74 (aCons (eCall 42 (aCons (eVar 0) aNil)) (aCons (eVar 1) aNil)))) (sRet (eSq false bAll (eComp [3, 4] (eTst (tCmp coEq (eSq true bLset (eComp [3, 5] (eIdx (eVar 2) (eVar 5)) (gN 5) (iSeq (eVar 4)) tYes)) (eInt 1))) (gN 4) (iSeq (eVar 1)) tYes))))
/-- refined_in -/
def f76 : FD := .mk 2 (.u (.u (.u (.u (.u (.u (.u (.u (.u (.u .nil)))))))))) 0 (sSeq (sPar (gsCons (gN 2) (gsCons (gN 3) gsNil)) (aCons (eCall 42 (aCons (eVar 0) aNil)) (aCons (eSq true bList (eVar 1)) aNil))) (sSeq (sFor (gN 4) (iRng1 (eBin opAdd (eIdx (eVar 0) (eInt 0)) (eInt 1))) (sSeq (sPar (gsCons (gN 5) (gsCons (gN 6) gsNil)) (aCons (eCall 74 (aCons (eVar 2) (aCons (eVar 3) aNil))) (aCons (eLst aNil) aNil))) (sSeq (sFor (gN 7) (iSeq (eVar 3)) (sSeq (sAsg (gN 8) (eDict0 true)) (sSeq (sFor (gN 9) (iSeq (eVar 7)) (sExpr (eMt1 mAppend (eSetd (eVar 8) (eIdx (eVar 5) (eVar 9)) (eLst aNil)) (eVar 9)))) (sExpr (eMt1 mExtend (eVar 6) (eVals true 8 11)))))) (sSeq (sIf (tCmp coEq (eLen (eVar 6)) (eLen (eVar 3))) sBrk sNx) (sAsg (gN 3) (eVar 6)))))) (sRet (eSq true bSorted (eVar 3)))))
/-- quotient_table_in -/
def f77 : FD := .mk 2 (.u (.u (.u .nil))) 0 (sSeq (sAsg (gN 2) (eCall 74 (aCons (eCall 42 (aCons (eVar 0) aNil)) (aCons (eVar 1) aNil)))) (sRet (eComp [3, 4] (eSq true bList (eIdx (eVar 2) (eIdx (eVar 4) (eInt 0)))) (gN 4) (iSeq (eVar 1)) tYes)))
/-- sure_even -/
def f78 : FD := .mk 2 (.u (.u .nil)) 0 (sSeq (sAsg (gN 2) (eCall 40 (aCons (eVar 0) aNil))) (sSeq (sAsg (gN 3) (eCall 72 (aCons (eVar 2) (aCons (eVar 1) aNil)))) (sSeq (sIf (tNot (tVal (eCall 75 (aCons (eVar 2) (aCons (eVar 3) aNil))))) sBad sNx) (sRet (eTup (aCons (eVar 2) (aCons (eVar 3) aNil)))))))
/-- are_lots -/
def f79 : FD := .mk 2 .nil 0 (sRet (eCall 71 (aCons (eIdx (eCall 40 (aCons (eVar 0) aNil)) (eInt 0)) (aCons (eVar 1) aNil))))
/-- is_even -/
def f80 : FD := .mk 2 (.u .nil) 0 (sSeq (sAsg (gN 2) (eCall 40 (aCons (eVar 0) aNil))) (sRet (eCall 75 (aCons (eVar 2) (aCons (eCall 72 (aCons (eVar 2) (aCons (eVar 1) aNil))) aNil)))))
/-- why_not_even -/
def f81 : FD := .mk 2 (.u (.u (.u (.u (.u (.u (.u (.u (.u (.u .nil)))))))))) 0 (sSeq (sAsg (gN 2) (eCall 40 (aCons (eVar 0) aNil))) (sSeq (sAsg (gN 3) (eCall 72 (aCons (eVar 2) (aCons (eVar 1) aNil)))) (sSeq (sAsg (gT (gsCons (gN 4) (gsCons (gN 5) gsNil))) (eTup (aCons (eCall 74 (aCons (eCall 42 (aCons (eVar 2) aNil)) (aCons (eVar 3) aNil))) (aCons (eLst aNil) aNil)))) (sSeq (sFor (gN 6) (iSeq (eVar 3)) (sFor (gT (gsCons (gN 7) (gsCons (gN 8) gsNil))) (iEnum (eVar 6)) (sFor (gN 9) (iSeq (eSl (eVar 6) (oSome (eBin opAdd (eVar 7) (eInt 1))) oNone)) (sExpr (eMt1 mExtend (eVar 5) (eComp [10, 11] (eTup (aCons (eVar 8) (aCons (eVar 9) (aCons (eVar 11) aNil)))) (gN 11) (iRng1 (eLen (eVar 3))) (tCmp coNe (eIdx (eIdx (eVar 4) (eVar 8)) (eVar 11)) (eIdx (eIdx (eVar 4) (eVar 9)) (eVar 11))))))))) (sRet (eIte (tCmp coNe (eVar 5) (eLst aNil)) (eSq true (bExt false) (eVar 5)) (eCst .non)))))))
/-- is_why_not_even -/
def f82 : FD := .mk 3 (.u (.u (.u (.u .nil)))) 0 (sSeq (sAsg (gN 3) (eCall 40 (aCons (eVar 0) aNil))) (sSeq (sAsg (gN 4) (eCall 72 (aCons (eVar 3) (aCons (eVar 1) aNil)))) (sSeq (sIf (tOr (tNot (tVal (eTst (tIsin (eVar 2) [3])))) (tOr (tCmp coNe (eLen (eVar 2)) (eInt 3)) (tNot (tVal (eCall 13 (aCons (eSl (eVar 2) oNone (oSome (eInt 2))) (aCons (eIdx (eVar 3) (eInt 0)) aNil))))))) (sRet (eCst (.bl false))) sNx) (sSeq (sIf (tNot (tVal (eCall 13 (aCons (eSl (eVar 2) (oSome (eInt 2)) oNone) (aCons (eLen (eVar 4)) aNil))))) (sRet (eCst (.bl false))) sNx) (sSeq (sPar (gsCons (gN 5) (gsCons (gN 6) gsNil)) (aCons (eCall 74 (aCons (eCall 42 (aCons (eVar 3) aNil)) (aCons (eVar 4) aNil))) (aCons (eCall 73 (aCons (eVar 4) aNil)) aNil))) (sRet (eAnd (eTst (tCmp coEq (eIdx (eVar 6) (eIdx (eVar 2) (eInt 0))) (eIdx (eVar 6) (eIdx (eVar 2) (eInt 1))))) (eTst (tCmp coNe (eIdx (eIdx (eVar 5) (eIdx (eVar 2) (eInt 0))) (eIdx (eVar 2) (eInt 2))) (eIdx (eIdx (eVar 5) (eIdx (eVar 2) (eInt 1))) (eIdx (eVar 2) (eInt 2))))))))))))
/-- even_within -/
def f83 : FD := .mk 2 (.u .nil) 0 (sSeq (sAsg (gN 2) (eCall 40 (aCons (eVar 0) aNil))) (sRet (eSq true bTuple (eCall 76 (aCons (eVar 2) (aCons (eCall 72 (aCons (eVar 2) (aCons (eVar 1) aNil))) aNil))))))
/-- coarsest_even -/
def f84 : FD := .mk 1 (.u .nil) 0 (sSeq (sAsg (gN 1) (eCall 40 (aCons (eVar 0) aNil))) (sRet (eSq true bTuple (eCall 76 (aCons (eVar 1) (aCons (eIte (tCmp coGt (eIdx (eVar 1) (eInt 0)) (eInt 0)) (eLst (aCons (eRg true (eIdx (eVar 1) (eInt 0))) aNil)) (eLst aNil)) aNil))))))
/-- quotient_table -/
def f85 : FD := .mk 2 (.u (.u .nil)) 0 (sSeq (sAsg (gT (gsCons (gN 2) (gsCons (gN 3) gsNil))) (eCall 78 (aCons (eVar 0) (aCons (eVar 1) aNil)))) (sRet (eCall 60 (aCons (eCall 77 (aCons (eVar 2) (aCons (eVar 3) aNil))) aNil))))
/-- quotient_poly -/
def f86 : FD := .mk 2 (.u (.u .nil)) 0 (sSeq (sAsg (gT (gsCons (gN 2) (gsCons (gN 3) gsNil))) (eCall 78 (aCons (eVar 0) (aCons (eVar 1) aNil)))) (sSeq (sIf (tCmp coGt (eLen (eVar 3)) (eInt 20)) sBad sNx) (sRet (eCall 56 (aCons (eCall 77 (aCons (eVar 2) (aCons (eVar 3) aNil))) aNil)))))
/-- rest_poly -/
def f87 : FD := .mk 2 (.u (.u .nil)) 0 (sSeq (sAsg (gT (gsCons (gN 2) (gsCons (gN 3) gsNil))) (eCall 78 (aCons (eVar 0) (aCons (eVar 1) aNil)))) (sSeq (sExpr (eCall 64 (aCons (eVar 2) aNil))) (sRet (eCall 34 (aCons (eCall 65 (aCons (eVar 2) aNil)) (aCons (eCall 56 (aCons (eCall 77 (aCons (eVar 2) (aCons (eVar 3) aNil))) aNil)) aNil))))))
/-- quotient_walks -/
def f88 : FD := .mk 3 (.u (.u .nil)) 0 (sSeq (sAsg (gN 3) (eCall 40 (aCons (eVar 0) aNil))) (sSeq (sAsg (gN 4) (eCall 72 (aCons (eVar 3) (aCons (eVar 1) aNil)))) (sSeq (sIf (tOr (tNot (tVal (eTst (tIsin (eVar 2) [0])))) (tOr (tVal (eTst (tIsin (eVar 2) [1]))) (tNot (tCmp2 coLe coLe (eInt 0) (eVar 2) (eInt 100))))) sBad sNx) (sSeq (sIf (tNot (tVal (eCall 75 (aCons (eVar 3) (aCons (eVar 4) aNil))))) sBad sNx) (sRet (eCall 60 (aCons (eCall 55 (aCons (eCall 77 (aCons (eVar 3) (aCons (eVar 4) aNil))) (aCons (eVar 2) aNil))) aNil)))))))
/-- totals_by_lots -/
def f89 : FD := .mk 2 (.u (.u (.u (.u (.u (.u (.u (.u (.u (.u (.u .nil))))))))))) 0 (sSeq (sAsg (gN 2) (eCall 40 (aCons (eVar 0) aNil))) (sSeq (sIf (tOr (tNot (tVal (eTst (tIsin (eVar 1) [0])))) (tOr (tVal (eTst (tIsin (eVar 1) [1]))) (tNot (tCmp2 coLe coLe (eInt 0) (eVar 1) (eInt 100))))) sBad sNx) (sSeq (sAsg (gN 3) (eCall 76 (aCons (eVar 2) (aCons (eIte (tCmp coGt (eIdx (eVar 2) (eInt 0)) (eInt 0)) (eLst (aCons (eRg true (eIdx (eVar 2) (eInt 0))) aNil)) (eLst aNil)) aNil)))) (sSeq (sAsg (gT (gsCons (gN 4) (gsCons (gN 5) (gsCons (gN 6) gsNil)))) (eTup (aCons (eCall 77 (aCons (eVar 2) (aCons (eVar 3) aNil))) (aCons (eBin opMul (eLst (aCons (eInt 1) aNil)) (eLen (eVar 3))) (aCons (eLst aNil) aNil))))) (sSeq (sFor (gN 7) (iRng1 (eVar 1)) (sSeq (sExpr (eMt1 mAppend (eVar 6) (eSq true bSum (eComp [8, 9, 10] (eBin opMul (eLen (eVar 9)) (eVar 10)) (gT (gsCons (gN 9) (gsCons (gN 10) gsNil))) (iZip (eVar 3) (eVar 5)) tYes)))) (sAsg (gN 5) (eComp [8, 11] (eSq true bSum (eComp [8, 12, 10] (eBin opMul (eVar 12) (eVar 10)) (gT (gsCons (gN 12) (gsCons (gN 10) gsNil))) (iZip (eVar 11) (eVar 5)) tYes)) (gN 11) (iSeq (eVar 4)) tYes)))) (sRet (eSq true bTuple (eVar 6))))))))
/-- by_distance -/
def f90 : FD := .mk 2 (.u (.u (.u (.u (.u (.u (.u (.u (.u (.u .nil)))))))))) 0 (sSeq (sAsg (gN 2) (eCall 40 (aCons (eVar 0) aNil))) (sSeq (sIf (tOr (tNot (tVal (eTst (tIsin (eVar 1) [0])))) (tOr (tVal (eTst (tIsin (eVar 1) [1]))) (tNot (tCmp2 coLe coLt (eInt 0) (eVar 1) (eIdx (eVar 2) (eInt 0)))))) sBad sNx) (sSeq (sPar (gsCons (gN 3) (gsCons (gN 4) (gsCons (gN 5) gsNil))) (aCons (eCall 42 (aCons (eVar 2) aNil)) (aCons (eDict1 (eVar 1) (eInt 0)) (aCons (eLst (aCons (eVar 1) aNil)) aNil)))) (sSeq (sAsg (gN 6) (eInt 0)) (sSeq (sWhl (tCmp coLt (eVar 6) (eLen (eVar 5))) (sSeq (sAsg (gN 7) (eIdx (eVar 5) (eVar 6))) (sSeq (sAug 6 opAddI (eInt 1)) (sFor (gN 8) (iSeq (eIdx (eVar 3) (eVar 7))) (sIf (tCmp ninG (eVar 8) (eVar 4)) (sSeq (sAsg (gS (eVar 4) (eVar 8)) (eBin opAdd (eIdx (eVar 4) (eVar 7)) (eInt 1))) (sExpr (eMt1 mAppend (eVar 5) (eVar 8)))) sNx))))) (sSeq (sAsg (gN 9) (eDict0 false)) (sSeq (sFor (gN 8) (iRng1 (eIdx (eVar 2) (eInt 0))) (sExpr (eMt1 mAppend (eSetd (eVar 9) (eGet2 (eVar 4) (eVar 8) (eIdx (eVar 2) (eInt 0))) (eLst aNil)) (eVar 8)))) (sRet (eSq true bTuple (eSq true bSorted (eVals true 9 11)))))))))))
/-- are_as_even -/
def f91 : FD := .mk 3 (.u (.u (.u .nil))) 0 (sSeq (sAsg (gN 3) (eCall 40 (aCons (eVar 0) aNil))) (sSeq (sFor (gN 4) (iSeq (eTup (aCons (eVar 1) (aCons (eVar 2) aNil)))) (sIf (tOr (tNot (tVal (eTst (tIsin (eVar 4) [0])))) (tOr (tVal (eTst (tIsin (eVar 4) [1]))) (tNot (tCmp2 coLe coLt (eInt 0) (eVar 4) (eIdx (eVar 3) (eInt 0)))))) sBad sNx)) (sSeq (sAsg (gN 5) (eCall 73 (aCons (eCall 76 (aCons (eVar 3) (aCons (eLst (aCons (eRg true (eIdx (eVar 3) (eInt 0))) aNil)) aNil))) aNil))) (sRet (eTst (tCmp coEq (eIdx (eVar 5) (eVar 1)) (eIdx (eVar 5) (eVar 2))))))))
/-- same_even -/
def f92 : FD := .mk 2 (.u (.u (.u (.u (.u (.u (.u (.u .nil)))))))) 0 (sSeq (sAsg (gT (gsCons (gN 2) (gsCons (gN 3) gsNil))) (eTup (aCons (eCall 40 (aCons (eVar 0) aNil)) (aCons (eCall 40 (aCons (eVar 1) aNil)) aNil)))) (sSeq (sIf (tOr (tCmp coGt (eIdx (eVar 2) (eInt 0)) (eInt 20)) (tCmp coGt (eIdx (eVar 3) (eInt 0)) (eInt 20))) sBad sNx) (sSeq (sIf (tCmp coNe (eIdx (eVar 2) (eInt 0)) (eIdx (eVar 3) (eInt 0))) (sRet (eCst (.bl false))) sNx) (sSeq (sAsg (gN 4) (eTup (aCons (eBin opMul (eInt 2) (eIdx (eVar 2) (eInt 0))) (aCons (eBin opAdd (eIdx (eVar 2) (eInt 1)) (eSq true bTuple (eComp [6, 7, 8] (eTup (aCons (eBin opAdd (eVar 7) (eIdx (eVar 2) (eInt 0))) (aCons (eBin opAdd (eVar 8) (eIdx (eVar 2) (eInt 0))) aNil))) (gT (gsCons (gN 7) (gsCons (gN 8) gsNil))) (iSeq (eIdx (eVar 3) (eInt 1))) tYes))) aNil)))) (sSeq (sFor (gN 5) (iSeq (eCall 76 (aCons (eVar 4) (aCons (eIte (tCmp coGt (eIdx (eVar 4) (eInt 0)) (eInt 0)) (eLst (aCons (eRg true (eIdx (eVar 4) (eInt 0))) aNil)) (eLst aNil)) aNil)))) (sIf (tCmp coNe (eBin opMul (eInt 2) (eLen (eComp [6, 9] (eInt 1) (gN 9) (iSeq (eVar 5)) (tCmp coLt (eVar 9) (eIdx (eVar 2) (eInt 0)))))) (eLen (eVar 5))) (sRet (eCst (.bl false))) sNx)) (sRet (eCst (.bl true))))))))
/-- even_lots -/
def f93 : FD := .mk 1 (.u (.u (.u (.u (.u (.u (.u (.u .nil)))))))) 0 (sSeq (sAsg (gN 1) (eCall 40 (aCons (eVar 0) aNil))) (sSeq (sIf (tCmp coGt (eIdx (eVar 1) (eInt 0)) (eInt 7)) sBad sNx) (sSeq (sAsg (gN 2) (eLst (aCons (eTup aNil) aNil))) (sSeq (sFor (gN 3) (iRng1 (eIdx (eVar 1) (eInt 0))) (sSeq (sAsg (gN 4) (eLst aNil)) (sSeq (sFor (gN 5) (iSeq (eVar 2)) (sSeq (sExpr (eMt1 mAppend (eVar 4) (eBin opAdd (eVar 5) (eTup (aCons (eTup (aCons (eVar 3) aNil)) aNil))))) (sExpr (eMt1 mExtend (eVar 4) (eComp [6, 7, 8] (eBin opAdd (eBin opAdd (eSl (eVar 5) oNone (oSome (eVar 7))) (eTup (aCons (eBin opAdd (eVar 8) (eTup (aCons (eVar 3) aNil))) aNil))) (eSl (eVar 5) (oSome (eBin opAdd (eVar 7) (eInt 1))) oNone)) (gT (gsCons (gN 7) (gsCons (gN 8) gsNil))) (iEnum (eVar 5)) tYes))))) (sAsg (gN 2) (eVar 4))))) (sRet (eSq true bSorted (eComp [6, 5] (eVar 5) (gN 5) (iSeq (eVar 2)) (tVal (eCall 75 (aCons (eVar 1) (aCons (eVar 5) aNil)))))))))))
/-- totals_plain -/
def f94 : FD := .mk 2 (.u .nil) 0 (sSeq (sAsg (gN 2) (eCall 40 (aCons (eVar 0) aNil))) (sSeq (sIf (tOr (tNot (tVal (eTst (tIsin (eVar 1) [0])))) (tOr (tVal (eTst (tIsin (eVar 1) [1]))) (tNot (tCmp2 coLe coLe (eInt 0) (eVar 1) (eInt 100))))) sBad sNx) (sRet (eSq true bTuple (eCall 68 (aCons (eVar 2) (aCons (eVar 1) aNil)))))))
/-- sure_rooted -/
def f96 : FD := .mk 1 (.u .nil) 0 (sSeq (sAsg (gN 1) (eCall 18 (aCons (eVar 0) aNil))) (sSeq (sIf (tCmp coEq (eVar 1) (eTup aNil)) sBad sNx) (sRet (eVar 1))))
/-- sturm_row -/
def f97 : FD := .mk 1 (.u .nil) 0 (sSeq (sAsg (gN 1) (eLst (aCons (eVar 0) (aCons (eCall 25 (aCons (eVar 0) aNil)) aNil)))) (sSeq (sWhl (tCmp coNe (eIdx (eVar 1) (eNeg (eInt 1))) (eTup aNil)) (sExpr (eMt1 mAppend (eVar 1) (eCall 20 (aCons (eCall 32 (aCons (eIdx (eVar 1) (eNeg (eInt 2))) (aCons (eIdx (eVar 1) (eNeg (eInt 1))) aNil))) (aCons (eNeg (eInt 1)) aNil)))))) (sRet (eSl (eVar 1) oNone (oSome (eNeg (eInt 1)))))))
/-- sign_of -/
def f98 : FD := .mk 1 .nil 0 (sRet (eBin opSub (eIte (tCmp coGt (eVar 0) (eInt 0)) (eInt 1) (eInt 0)) (eIte (tCmp coLt (eVar 0) (eInt 0)) (eInt 1) (eInt 0))))
/-- changes_in -/
def f99 : FD := .mk 1 (.u (.u (.u (.u .nil)))) 0 (sSeq (sAsg (gN 1) (eComp [2, 3] (eVar 3) (gN 3) (iSeq (eVar 0)) (tCmp coNe (eVar 3) (eInt 0)))) (sRet (eLen (eComp [2, 4] (eInt 1) (gN 4) (iRng2 (eInt 1) (eLen (eVar 1))) (tCmp coNe (eIdx (eVar 1) (eVar 4)) (eIdx (eVar 1) (eBin opSub (eVar 4) (eInt 1))))))))
/-- signs_at -/
def f100 : FD := .mk 2 (.u (.u .nil)) 0 (sRet (eComp [2, 3] (eCall 98 (aCons (eCall 24 (aCons (eVar 3) (aCons (eIdx (eVar 1) (eInt 0)) (aCons (eIdx (eVar 1) (eInt 1)) aNil)))) aNil)) (gN 3) (iSeq (eVar 0)) tYes))
/-- signs_far -/
def f101 : FD := .mk 2 (.u (.u .nil)) 0 (sRet (eComp [2, 3] (eBin opMul (eCall 98 (aCons (eIdx (eVar 3) (eNeg (eInt 1))) aNil)) (eIte (tCmp coEq (eBin opMod (eBin opSub (eLen (eVar 3)) (eInt 1)) (eInt 2)) (eInt 1)) (eVar 1) (eInt 1))) (gN 3) (iSeq (eVar 0)) tYes))
/-- plain_above -/
def f102 : FD := .mk 2 (.u .nil) 0 (sSeq (sIf (tCmp coLt (eLen (eVar 0)) (eInt 2)) (sRet (eInt 0)) sNx) (sSeq (sAsg (gN 2) (eCall 97 (aCons (eVar 0) aNil))) (sRet (eBin opSub (eCall 99 (aCons (eCall 100 (aCons (eVar 2) (aCons (eVar 1) aNil))) aNil)) (eCall 99 (aCons (eCall 101 (aCons (eVar 2) (aCons (eInt 1) aNil))) aNil))))))
/-- above_in -/
def f103 : FD := .mk 2 (.u (.u (.u .nil))) 0 (sRet (eSq true bSum (eComp [2, 3, 4] (eBin opMul (eVar 4) (eCall 102 (aCons (eVar 3) (aCons (eVar 1) aNil)))) (gT (gsCons (gN 3) (gsCons (gN 4) gsNil))) (iSeq (eCall 35 (aCons (eVar 0) aNil))) tYes)))
/-- turn_about -/
def f104 : FD := .mk 1 (.u (.u .nil)) 0 (sSeq (sAsg (gN 1) (eCall 96 (aCons (eVar 0) aNil))) (sSeq (sAsg (gN 2) (eCall 27 (aCons (eVar 1) aNil))) (sRet (eTst (tCmp inG (eVar 1) (eTup (aCons (eVar 2) (aCons (eCall 19 (aCons (eTup aNil) (aCons (eVar 2) (aCons (eNeg (eInt 1)) aNil)))) aNil))))))))
/-- sure_sided -/
def f106 : FD := .mk 1 (.u (.u .nil)) 0 (sSeq (sAsg (gN 1) (eCall 40 (aCons (eVar 0) aNil))) (sSeq (sAsg (gN 2) (eCall 47 (aCons (eVar 1) aNil))) (sSeq (sIf (tCmp coIs (eVar 2) (eCst .non)) sBad sNx) (sRet (eTup (aCons (eVar 1) (aCons (eVar 2) aNil)))))))
/-- half_in -/
def f107 : FD := .mk 2 (.u (.u (.u (.u (.u (.u .nil)))))) 0 (sSeq (sAsg (gN 2) (eCall 42 (aCons (eVar 0) aNil))) (sSeq (sAsg (gN 3) (eComp [5, 6] (eVar 6) (gN 6) (iRng1 (eIdx (eVar 0) (eInt 0))) (tCmp coEq (eIdx (eVar 1) (eVar 6)) (eInt 0)))) (sSeq (sAsg (gN 4) (eComp [5, 6] (eVar 6) (gN 6) (iRng1 (eIdx (eVar 0) (eInt 0))) (tCmp coEq (eIdx (eVar 1) (eVar 6)) (eInt 1)))) (sRet (eComp [5, 6] (eComp [5, 7] (eIte (tCmp inG (eVar 7) (eIdx (eVar 2) (eVar 6))) (eInt 1) (eInt 0)) (gN 7) (iSeq (eVar 4)) tYes) (gN 6) (iSeq (eVar 3)) tYes)))))
/-- squares_in -/
def f108 : FD := .mk 1 (.u (.u .nil)) 0 (sSeq (sIf (tOr (tCmp coEq (eVar 0) (eLst aNil)) (tCmp coEq (eIdx (eVar 0) (eInt 0)) (eLst aNil))) (sRet (eComp [1, 2] (eBin opMul (eLst (aCons (eInt 0) aNil)) (eLen (eVar 0))) (gN 2) (iSeq (eVar 0)) tYes)) sNx) (sRet (eCall 52 (aCons (eVar 0) (aCons (eComp [1, 2] (eSq true bList (eVar 2)) (gN 2) (iZips (eVar 0)) tYes) aNil)))))
/-- spread_in -/
def f109 : FD := .mk 1 (.u (.u .nil)) 0 (sSeq (sAsg (gN 1) (eLst aNil)) (sSeq (sFor (gN 2) (iSeq (eVar 0)) (sExpr (eMt1 mExtend (eVar 1) (eLst (aCons (eVar 2) (aCons (eInt 0) aNil)))))) (sRet (eCall 16 (aCons (eVar 1) aNil)))))
/-- half_table -/
def f110 : FD := .mk 1 (.u (.u .nil)) 0 (sSeq (sAsg (gT (gsCons (gN 1) (gsCons (gN 2) gsNil))) (eCall 106 (aCons (eVar 0) aNil))) (sRet (eCall 60 (aCons (eCall 107 (aCons (eVar 1) (aCons (eVar 2) aNil))) aNil))))
/-- sides_of -/
def f111 : FD := .mk 1 (.u (.u (.u (.u (.u .nil))))) 0 (sSeq (sAsg (gT (gsCons (gN 1) (gsCons (gN 2) gsNil))) (eCall 106 (aCons (eVar 0) aNil))) (sRet (eSq true bTuple (eComp [3, 4] (eSq true bTuple (eComp [3, 5] (eVar 5) (gN 5) (iRng1 (eIdx (eVar 1) (eInt 0))) (tCmp coEq (eIdx (eVar 2) (eVar 5)) (eVar 4)))) (gN 4) (iSeq (eTup (aCons (eInt 0) (aCons (eInt 1) aNil)))) tYes))))
/-- web_of_half -/
def f112 : FD := .mk 1 (.u (.u (.u (.u (.u (.u (.u (.u .nil)))))))) 0 (sSeq (sAsg (gN 1) (eCall 9 (aCons (eVar 0) aNil))) (sSeq (sIf (tOr (tNot (tVal (eCall 50 (aCons (eVar 1) aNil)))) (tNot (tVal (eSq false bAll (eComp2 [4, 5, 6] [6] (eTst (tCmp inG (eVar 6) (eTup (aCons (eInt 0) (aCons (eInt 1) aNil))))) (gN 5) (iSeq (eVar 1)) tYes (gN 6) (iSeq (eVar 5)) tYes))))) sBad sNx) (sSeq (sAsg (gN 2) (eIte (tCmp coNe (eVar 1) (eTup aNil)) (eLen (eIdx (eVar 1) (eInt 0))) (eInt 0))) (sSeq (sIf (tCmp coGt (eBin opAdd (eLen (eVar 1)) (eVar 2)) (eInt 40)) sBad sNx) (sSeq (sAsg (gN 3) (eComp2 [4, 7, 5, 8, 6] [8, 6] (eTup (aCons (eVar 7) (aCons (eBin opAdd (eLen (eVar 1)) (eVar 8)) aNil))) (gT (gsCons (gN 7) (gsCons (gN 5) gsNil))) (iEnum (eVar 1)) tYes (gT (gsCons (gN 8) (gsCons (gN 6) gsNil))) (iEnum (eVar 5)) (tCmp coEq (eVar 6) (eInt 1)))) (sRet (eTup (aCons (eBin opAdd (eLen (eVar 1)) (eVar 2)) (aCons (eSq true bTuple (eVar 3)) aNil)))))))))
/-- square_poly -/
def f113 : FD := .mk 1 (.u (.u .nil)) 0 (sSeq (sAsg (gT (gsCons (gN 1) (gsCons (gN 2) gsNil))) (eCall 106 (aCons (eVar 0) aNil))) (sSeq (sExpr (eCall 64 (aCons (eVar 1) aNil))) (sRet (eCall 56 (aCons (eCall 108 (aCons (eCall 107 (aCons (eVar 1) (aCons (eVar 2) aNil))) aNil)) aNil)))))
/-- poly_by_half -/
def f114 : FD := .mk 1 (.u (.u (.u (.u (.u .nil))))) 0 (sSeq (sAsg (gT (gsCons (gN 1) (gsCons (gN 2) gsNil))) (eCall 106 (aCons (eVar 0) aNil))) (sSeq (sExpr (eCall 64 (aCons (eVar 1) aNil))) (sSeq (sPar (gsCons (gN 3) (gsCons (gN 4) gsNil)) (aCons (eIdx (eVar 1) (eInt 0)) (aCons (eCall 109 (aCons (eCall 56 (aCons (eCall 108 (aCons (eCall 107 (aCons (eVar 1) (aCons (eVar 2) aNil))) aNil)) aNil)) aNil)) aNil))) (sSeq (sAsg (gN 5) (eBin opAdd (eBin opSub (eVar 3) (eLen (eVar 4))) (eInt 1))) (sRet (eIte (tCmp coGe (eVar 5) (eInt 0)) (eBin opAdd (eBin opMul (eTup (aCons (eInt 0) aNil)) (eVar 5)) (eVar 4)) (eSl (eVar 4) (oSome (eNeg (eVar 5))) oNone)))))))
/-- half_rank -/
def f115 : FD := .mk 1 (.u (.u (.u .nil))) 0 (sSeq (sAsg (gT (gsCons (gN 1) (gsCons (gN 2) gsNil))) (eCall 106 (aCons (eVar 0) aNil))) (sSeq (sExpr (eCall 64 (aCons (eVar 1) aNil))) (sSeq (sAsg (gN 3) (eCall 107 (aCons (eVar 1) (aCons (eVar 2) aNil)))) (sRet (eIte (tAnd (tCmp coNe (eVar 3) (eLst aNil)) (tCmp coNe (eIdx (eVar 3) (eInt 0)) (eLst aNil))) (eCall 58 (aCons (eVar 3) aNil)) (eInt 0))))))
/-- roots_turn -/
def f116 : FD := .mk 1 .nil 0 (sRet (eCall 104 (aCons (eCall 65 (aCons (eCall 64 (aCons (eVar 0) aNil)) aNil)) aNil)))
/-- doubled_web -/
def f117 : FD := .mk 1 (.u (.u (.u (.u .nil)))) 0 (sSeq (sAsg (gN 1) (eCall 40 (aCons (eVar 0) aNil))) (sSeq (sIf (tCmp coGt (eIdx (eVar 1) (eInt 0)) (eInt 20)) sBad sNx) (sSeq (sAsg (gN 2) (eLst aNil)) (sSeq (sFor (gT (gsCons (gN 3) (gsCons (gN 4) gsNil))) (iSeq (eIdx (eVar 1) (eInt 1))) (sExpr (eMt1 mExtend (eVar 2) (eLst (aCons (eTup (aCons (eVar 3) (aCons (eBin opAdd (eIdx (eVar 1) (eInt 0)) (eVar 4)) aNil))) (aCons (eTup (aCons (eVar 4) (aCons (eBin opAdd (eIdx (eVar 1) (eInt 0)) (eVar 3)) aNil))) aNil)))))) (sRet (eTup (aCons (eBin opMul (eInt 2) (eIdx (eVar 1) (eInt 0))) (aCons (eSq true bTuple (eSq true bSorted (eVar 2))) aNil))))))))
/-- doubled_parts -/
def f118 : FD := .mk 1 (.u (.u (.u .nil))) 0 (sSeq (sAsg (gN 1) (eCall 40 (aCons (eVar 0) aNil))) (sRet (eSq true bSum (eComp [2, 3] (eIte (tCmp coIs (eCall 47 (aCons (eCall 45 (aCons (eVar 1) (aCons (eVar 3) aNil))) aNil)) (eCst .non)) (eInt 1) (eInt 2)) (gN 3) (iSeq (eCall 46 (aCons (eVar 1) aNil))) tYes))))
/-- two_steps -/
def f119 : FD := .mk 2 (.u (.u (.u (.u (.u (.u (.u (.u (.u .nil))))))))) 0 (sSeq (sIf (tOr (tNot (tVal (eTst (tIsin (eVar 1) [0])))) (tOr (tVal (eTst (tIsin (eVar 1) [1]))) (tCmp ninG (eVar 1) (eTup (aCons (eInt 0) (aCons (eInt 1) aNil)))))) (sSeq (sExpr (eCall 40 (aCons (eVar 0) aNil))) sBad) sNx) (sSeq (sAsg (gT (gsCons (gN 2) (gsCons (gN 3) gsNil))) (eCall 106 (aCons (eVar 0) aNil))) (sSeq (sAsg (gN 4) (eCall 107 (aCons (eVar 2) (aCons (eVar 3) aNil)))) (sSeq (sAsg (gN 5) (eComp [7, 8] (eSq true bList (eVar 8)) (gN 8) (iZips (eVar 4)) tYes)) (sSeq (sIf (tCmp coEq (eVar 1) (eInt 1)) (sSeq (sAsg (gN 4) (eIte (tOr (tCmp coNe (eVar 5) (eLst aNil)) (tCmp coEq (eLen (eVar 4)) (eInt 0))) (eVar 5) (eLst aNil))) (sSeq (sAsg (gN 6) (eLen (eComp [7, 9] (eInt 1) (gN 9) (iSeq (eVar 3)) (tCmp coEq (eVar 9) (eInt 1))))) (sRet (eIte (tCmp coNe (eVar 4) (eLst aNil)) (eCall 60 (aCons (eCall 108 (aCons (eVar 4) aNil)) aNil)) (eSq true bTuple (eComp [7, 10] (eBin opMul (eTup (aCons (eInt 0) aNil)) (eVar 6)) (gN 10) (iRng1 (eVar 6)) tYes)))))) sNx) (sRet (eCall 60 (aCons (eCall 108 (aCons (eVar 4) aNil)) aNil))))))))
/-- is_sides -/
def f120 : FD := .mk 2 (.u (.u (.u (.u (.u .nil))))) 0 (sSeq (sAsg (gN 2) (eCall 40 (aCons (eVar 0) aNil))) (sSeq (sIf (tOr (tNot (tVal (eTst (tIsin (eVar 1) [3])))) (tNot (tVal (eCall 8 (aCons (eVar 1) (aCons (eIdx (eVar 2) (eInt 0)) aNil)))))) (sRet (eCst (.bl false))) sNx) (sSeq (sIf (tNot (tVal (eSq false bAll (eComp [3, 4] (eAnd (eTst (tIsin (eVar 4) [0])) (eAnd (eNot (eTst (tIsin (eVar 4) [1]))) (eTst (tCmp inG (eVar 4) (eTup (aCons (eInt 0) (aCons (eInt 1) aNil))))))) (gN 4) (iSeq (eVar 1)) tYes)))) (sRet (eCst (.bl false))) sNx) (sRet (eSq false bAll (eComp [3, 5, 6] (eTst (tCmp coNe (eIdx (eVar 1) (eVar 5)) (eIdx (eVar 1) (eVar 6)))) (gT (gsCons (gN 5) (gsCons (gN 6) gsNil))) (iSeq (eIdx (eVar 2) (eInt 1))) tYes))))))
/-- all_sides -/
def f121 : FD := .mk 1 (.u (.u (.u (.u (.u (.u (.u (.u .nil)))))))) 0 (sSeq (sAsg (gN 1) (eCall 40 (aCons (eVar 0) aNil))) (sSeq (sIf (tCmp coGt (eLen (eCall 46 (aCons (eVar 1) aNil))) (eInt 10)) sBad sNx) (sSeq (sAsg (gN 2) (eCall 47 (aCons (eVar 1) aNil))) (sSeq (sIf (tCmp coIs (eVar 2) (eCst .non)) (sRet (eLst aNil)) sNx) (sSeq (sAsg (gN 3) (eLst (aCons (eSq true bList (eVar 2)) aNil))) (sSeq (sFor (gN 4) (iSeq (eCall 46 (aCons (eVar 1) aNil))) (sAsg (gN 3) (eBin opAdd (eVar 3) (eComp [5, 6] (eComp [5, 7, 8] (eIte (tCmp inG (eVar 7) (eVar 4)) (eBin opSub (eInt 1) (eVar 8)) (eVar 8)) (gT (gsCons (gN 7) (gsCons (gN 8) gsNil))) (iEnum (eVar 6)) tYes) (gN 6) (iSeq (eVar 3)) tYes)))) (sRet (eSq true bSorted (eComp [5, 6] (eSq true bTuple (eVar 6)) (gN 6) (iSeq (eVar 3)) tYes)))))))))
/-- square_share -/
def f122 : FD := .mk 1 (.u (.u (.u (.u (.u .nil))))) 0 (sSeq (sAsg (gN 1) (eCall 65 (aCons (eCall 64 (aCons (eVar 0) aNil)) aNil))) (sSeq (sAsg (gN 2) (eIdx (eComp [3, 4, 5] (eVar 4) (gT (gsCons (gN 4) (gsCons (gN 5) gsNil))) (iEnum (eVar 1)) (tCmp coNe (eVar 5) (eInt 0))) (eInt 0))) (sRet (eSl (eVar 1) (oSome (eVar 2)) oNone))))
/-- shortest_odd -/
def f123 : FD := .mk 1 (.u .nil) 0 (sSeq (sAsg (gN 1) (eCall 48 (aCons (eCall 40 (aCons (eVar 0) aNil)) aNil))) (sRet (eIte (tCmp coIsn (eVar 1) (eCst .non)) (eLen (eVar 1)) (eCst .non))))
/-- sides_poly -/
def f124 : FD := .mk 2 (.u .nil) 0 (sSeq (sFor (gN 2) (iSeq (eTup (aCons (eVar 0) (aCons (eVar 1) aNil)))) (sIf (tOr (tNot (tVal (eTst (tIsin (eVar 2) [0])))) (tOr (tVal (eTst (tIsin (eVar 2) [1]))) (tCmp coLt (eVar 2) (eInt 0)))) sBad sNx)) (sSeq (sIf (tCmp coGt (eBin opAdd (eVar 0) (eVar 1)) (eInt 40)) sBad sNx) (sSeq (sIf (tOr (tCmp coEq (eVar 0) (eInt 0)) (tCmp coEq (eVar 1) (eInt 0))) (sRet (eBin opAdd (eBin opMul (eTup (aCons (eInt 0) aNil)) (eBin opAdd (eVar 0) (eVar 1))) (eTup (aCons (eInt 1) aNil)))) sNx) (sRet (eBin opAdd (eBin opMul (eTup (aCons (eInt 0) aNil)) (eBin opSub (eBin opAdd (eVar 0) (eVar 1)) (eInt 2))) (eTup (aCons (eBin opMul (eNeg (eVar 0)) (eVar 1)) (aCons (eInt 0) (aCons (eInt 1) aNil)))))))))
/-- sure_regular -/
def f126 : FD := .mk 1 (.u (.u (.u (.u .nil)))) 0 (sSeq (sAsg (gN 1) (eCall 40 (aCons (eVar 0) aNil))) (sSeq (sAsg (gN 2) (eComp [3, 4] (eLen (eVar 4)) (gN 4) (iSeq (eCall 42 (aCons (eVar 1) aNil))) tYes)) (sSeq (sIf (tCmp coNe (eSq true bLset (eVar 2)) (eInt 1)) sBad sNx) (sRet (eTup (aCons (eCall 64 (aCons (eVar 1) aNil)) (aCons (eIdx (eVar 2) (eInt 0)) aNil)))))))
/-- all_line -/
def f127 : FD := .mk 1 (.u (.u (.u .nil))) 0 (sSeq (sAsg (gT (gsCons (gN 1) (gsCons (gN 2) gsNil))) (eCall 126 (aCons (eVar 0) aNil))) (sSeq (sIf (tCmp coGt (eLen (eCall 46 (aCons (eVar 1) aNil))) (eInt 1)) sBad sNx) (sSeq (sAsg (gN 3) (eCall 34 (aCons (eCall 69 (aCons (eVar 1) aNil)) (aCons (eTup (aCons (eNeg (eVar 2)) (aCons (eInt 1) aNil))) aNil)))) (sRet (eTup (aCons (eCall 20 (aCons (eVar 3) (aCons (eIdx (eVar 1) (eInt 0)) aNil))) (aCons (eCall 23 (aCons (eVar 3) (aCons (eVar 2) aNil))) aNil)))))))
/-- is_all_line -/
def f128 : FD := .mk 2 (.u (.u (.u (.u .nil)))) 0 (sSeq (sAsg (gN 2) (eCall 64 (aCons (eVar 0) aNil))) (sSeq (sIf (tOr (tNot (tVal (eTst (tIsin (eVar 1) [3])))) (tOr (tCmp coNe (eLen (eVar 1)) (eInt 2)) (tNot (tVal (eTst (tIsin (eIdx (eVar 1) (eInt 0)) [3])))))) (sRet (eCst (.bl false))) sNx) (sSeq (sIf (tNot (tVal (eSq false bAll (eComp [3, 4] (eAnd (eTst (tIsin (eVar 4) [0])) (eNot (eTst (tIsin (eVar 4) [1])))) (gN 4) (iSeq (eBin opAdd (eIdx (eVar 1) (eInt 0)) (eSl (eVar 1) (oSome (eInt 1)) oNone))) tYes)))) (sRet (eCst (.bl false))) sNx) (sSeq (sIf (tOr (tCmp coEq (eIdx (eVar 1) (eInt 1)) (eInt 0)) (tAnd (tCmp coNe (eIdx (eVar 1) (eInt 0)) (eTup aNil)) (tCmp coEq (eIdx (eIdx (eVar 1) (eInt 0)) (eNeg (eInt 1))) (eInt 0)))) (sRet (eCst (.bl false))) sNx) (sRet (eSq false bAll (eComp2 [3, 5, 4] [4] (eTst (tCmp coEq (eVar 4) (eIdx (eVar 1) (eInt 1)))) (gN 5) (iSeq (eCall 61 (aCons (eIdx (eVar 1) (eInt 0)) (aCons (eCall 59 (aCons (eVar 2) aNil)) aNil)))) tYes (gN 4) (iSeq (eVar 5)) tYes)))))))
/-- thinned_all_line -/
def f129 : FD := .mk 1 (.u (.u (.u (.u (.u .nil))))) 0 (sSeq (sAsg (gT (gsCons (gN 1) (gsCons (gN 2) gsNil))) (eCall 127 (aCons (eVar 0) aNil))) (sSeq (sAsg (gN 3) (eVar 2)) (sSeq (sFor (gN 4) (iSeq (eVar 1)) (sAsg (gN 3) (eBin vGcd (eVar 3) (eVar 4)))) (sSeq (sAsg (gN 3) (eIte (tCmp coGt (eVar 2) (eInt 0)) (eVar 3) (eNeg (eVar 3)))) (sRet (eTup (aCons (eSq true bTuple (eComp [5, 4] (eBin opDiv (eVar 4) (eVar 3)) (gN 4) (iSeq (eVar 1)) tYes)) (aCons (eBin opDiv (eVar 2) (eVar 3)) aNil))))))))
/-- turned_poly_in -/
def f130 : FD := .mk 3 (.u (.u .nil)) 0 (sSeq (sAsg (gN 3) (eIte (tCmp coEq (eBin opMod (eVar 1) (eInt 2)) (eInt 0)) (eInt 1) (eNeg (eInt 1)))) (sSeq (sAsg (gN 4) (eCall 20 (aCons (eCall 26 (aCons (eCall 27 (aCons (eVar 0) aNil)) (aCons (eInt 1) aNil))) (aCons (eVar 3) aNil)))) (sRet (eCall 34 (aCons (eCall 21 (aCons (eVar 4) (aCons (eTup (aCons (eBin opAdd (eBin opSub (eVar 2) (eVar 1)) (eInt 1)) (aCons (eInt 1) aNil))) aNil))) (aCons (eTup (aCons (eBin opAdd (eVar 2) (eInt 1)) (aCons (eInt 1) aNil))) aNil))))))
/-- turned_poly -/
def f131 : FD := .mk 1 (.u (.u .nil)) 0 (sSeq (sAsg (gT (gsCons (gN 1) (gsCons (gN 2) gsNil))) (eCall 126 (aCons (eVar 0) aNil))) (sRet (eCall 130 (aCons (eCall 65 (aCons (eVar 1) aNil)) (aCons (eIdx (eVar 1) (eInt 0)) (aCons (eVar 2) aNil))))))
/-- less_poly_told -/
def f132 : FD := .mk 1 (.u (.u (.u .nil))) 0 (sSeq (sAsg (gT (gsCons (gN 1) (gsCons (gN 2) gsNil))) (eCall 126 (aCons (eVar 0) aNil))) (sSeq (sAsg (gN 3) (eIte (tCmp coEq (eBin opMod (eIdx (eVar 1) (eInt 0)) (eInt 2)) (eInt 0)) (eInt 1) (eNeg (eInt 1)))) (sRet (eCall 20 (aCons (eCall 28 (aCons (eCall 65 (aCons (eVar 1) aNil)) (aCons (eTup (aCons (eVar 2) (aCons (eNeg (eInt 1)) aNil))) aNil))) (aCons (eVar 3) aNil))))))
/-- line_poly_told -/
def f133 : FD := .mk 1 (.u (.u (.u (.u .nil)))) 0 (sSeq (sAsg (gT (gsCons (gN 1) (gsCons (gN 2) gsNil))) (eCall 126 (aCons (eVar 0) aNil))) (sSeq (sPar (gsCons (gN 3) (gsCons (gN 4) gsNil)) (aCons (eLen (eIdx (eVar 1) (eInt 1))) (aCons (eCall 26 (aCons (eCall 65 (aCons (eVar 1) aNil)) (aCons (eBin opSub (eInt 2) (eVar 2)) aNil))) aNil))) (sSeq (sIf (tCmp coGe (eVar 3) (eIdx (eVar 1) (eInt 0))) (sRet (eCall 21 (aCons (eVar 4) (aCons (eCall 22 (aCons (eTup (aCons (eInt 2) (aCons (eInt 1) aNil))) (aCons (eBin opSub (eVar 3) (eIdx (eVar 1) (eInt 0))) aNil))) aNil)))) sNx) (sRet (eCall 34 (aCons (eVar 4) (aCons (eCall 22 (aCons (eTup (aCons (eInt 2) (aCons (eInt 1) aNil))) (aCons (eBin opSub (eIdx (eVar 1) (eInt 0)) (eVar 3)) aNil))) aNil)))))))
/-- joined_poly -/
def f134 : FD := .mk 2 (.u (.u (.u (.u (.u (.u .nil)))))) 0 (sSeq (sPar (gsCons (gN 2) (gsCons (gN 3) gsNil)) (aCons (eCall 40 (aCons (eVar 0) aNil)) (aCons (eCall 40 (aCons (eVar 1) aNil)) aNil))) (sSeq (sAsg (gT (gsCons (gN 2) (gsCons (gN 4) gsNil))) (eCall 126 (aCons (eVar 2) aNil))) (sSeq (sAsg (gT (gsCons (gN 3) (gsCons (gN 5) gsNil))) (eCall 126 (aCons (eVar 3) aNil))) (sSeq (sIf (tCmp coGt (eBin opAdd (eIdx (eVar 2) (eInt 0)) (eIdx (eVar 3) (eInt 0))) (eInt 20)) sBad sNx) (sSeq (sAsg (gN 6) (eCall 19 (aCons (eCall 21 (aCons (eTup (aCons (eNeg (eVar 4)) (aCons (eInt 1) aNil))) (aCons (eTup (aCons (eNeg (eVar 5)) (aCons (eInt 1) aNil))) aNil))) (aCons (eTup (aCons (eBin opMul (eIdx (eVar 2) (eInt 0)) (eIdx (eVar 3) (eInt 0))) aNil)) (aCons (eNeg (eInt 1)) aNil))))) (sSeq (sAsg (gN 7) (eCall 21 (aCons (eCall 34 (aCons (eCall 65 (aCons (eVar 2) aNil)) (aCons (eTup (aCons (eNeg (eVar 4)) (aCons (eInt 1) aNil))) aNil))) (aCons (eCall 34 (aCons (eCall 65 (aCons (eVar 3) aNil)) (aCons (eTup (aCons (eNeg (eVar 5)) (aCons (eInt 1) aNil))) aNil))) aNil)))) (sRet (eCall 21 (aCons (eVar 6) (aCons (eVar 7) aNil))))))))))
/-- is_regular_line -/
def f135 : FD := .mk 2 (.u (.u (.u (.u .nil)))) 0 (sSeq (sAsg (gN 2) (eIte (tVal (eTst (tIsin (eVar 0) [4, 3]))) (eSq true bTuple (eVar 0)) (eVar 0))) (sSeq (sIf (tOr (tNot (tVal (eTst (tIsin (eVar 2) [3])))) (tNot (tVal (eSq false bAll (eComp [4, 5] (eAnd (eTst (tIsin (eVar 5) [0])) (eNot (eTst (tIsin (eVar 5) [1])))) (gN 5) (iSeq (eVar 2)) tYes))))) sBad sNx) (sSeq (sIf (tOr (tNot (tVal (eCall 7 (aCons (eVar 1) (aCons (eInt 1) aNil))))) (tOr (tCmp coNe (eLen (eVar 2)) (eBin opAdd (eVar 1) (eInt 1))) (tCmp coNe (eIdx (eVar 2) (eNeg (eInt 1))) (eInt 1)))) sBad sNx) (sSeq (sAsg (gN 3) (eIte (tCmp coGt (eLen (eVar 2)) (eInt 2)) (eBin opMul (eNeg (eInt 2)) (eIdx (eVar 2) (eNeg (eInt 3)))) (eInt 0))) (sSeq (sIf (tCmp coNe (eBin opMod (eVar 3) (eVar 1)) (eInt 0)) (sRet (eCst (.bl false))) sNx) (sRet (eAnd (eTst (tCmp coEq (eCall 23 (aCons (eVar 2) (aCons (eBin opDiv (eVar 3) (eVar 1)) aNil))) (eInt 0))) (eTst (tCmp coEq (eCall 103 (aCons (eVar 2) (aCons (eTup (aCons (eBin opDiv (eVar 3) (eVar 1)) (aCons (eInt 1) aNil))) aNil))) (eInt 0))))))))))
/-- is_one_part_line -/
def f136 : FD := .mk 1 (.u (.u (.u .nil))) 0 (sSeq (sAsg (gT (gsCons (gN 1) (gsCons (gN 2) gsNil))) (eCall 126 (aCons (eVar 0) aNil))) (sSeq (sAsg (gN 3) (eCall 34 (aCons (eCall 65 (aCons (eVar 1) aNil)) (aCons (eTup (aCons (eNeg (eVar 2)) (aCons (eInt 1) aNil))) aNil)))) (sRet (eTst (tCmp coNe (eCall 23 (aCons (eVar 3) (aCons (eVar 2) aNil))) (eInt 0))))))
/-- is_turned_one_part -/
def f137 : FD := .mk 1 (.u (.u (.u (.u .nil)))) 0 (sSeq (sAsg (gT (gsCons (gN 1) (gsCons (gN 2) gsNil))) (eCall 126 (aCons (eVar 0) aNil))) (sSeq (sAsg (gN 3) (eBin opSub (eBin opSub (eIdx (eVar 1) (eInt 0)) (eInt 1)) (eVar 2))) (sSeq (sAsg (gN 4) (eCall 34 (aCons (eCall 130 (aCons (eCall 65 (aCons (eVar 1) aNil)) (aCons (eIdx (eVar 1) (eInt 0)) (aCons (eVar 2) aNil)))) (aCons (eTup (aCons (eNeg (eVar 3)) (aCons (eInt 1) aNil))) aNil)))) (sRet (eTst (tCmp coNe (eCall 23 (aCons (eVar 4) (aCons (eVar 3) aNil))) (eInt 0)))))))
/-- regular_webs_ties -/
def f138 : FD := .mk 2 .nil 0 (sSeq (sIf (tOr (tNot (tVal (eCall 7 (aCons (eVar 0) (aCons (eInt 0) aNil))))) (tOr (tNot (tVal (eCall 7 (aCons (eVar 1) (aCons (eInt 0) aNil))))) (tCmp coGt (eVar 0) (eInt 40)))) sBad sNx) (sSeq (sIf (tOr (tAnd (tCmp coGe (eVar 1) (eVar 0)) (tNot (tAnd (tCmp coEq (eVar 0) (eInt 0)) (tCmp coEq (eVar 1) (eInt 0))))) (tCmp coEq (eBin opMod (eBin opMul (eVar 0) (eVar 1)) (eInt 2)) (eInt 1))) (sRet (eCst .non)) sNx) (sRet (eBin opDiv (eBin opMul (eVar 0) (eVar 1)) (eInt 2)))))
/-- ring_steps -/
def f139 : FD := .mk 2 (.u (.u (.u .nil))) 0 (sSeq (sIf (tCmp coIs (eCall 138 (aCons (eVar 0) (aCons (eVar 1) aNil))) (eCst .non)) sBad sNx) (sSeq (sAsg (gN 2) (eLst aNil)) (sSeq (sFor (gN 3) (iRng1 (eVar 0)) (sSeq (sFor (gN 4) (iRng2 (eInt 1) (eBin opAdd (eBin opDiv (eVar 1) (eInt 2)) (eInt 1))) (sExpr (eMt1 mAppend (eVar 2) (eSq true bTuple (eSq true bSorted (eLst (aCons (eVar 3) (aCons (eBin opMod (eBin opAdd (eVar 3) (eVar 4)) (eVar 0)) aNil)))))))) (sIf (tCmp coEq (eBin opMod (eVar 1) (eInt 2)) (eInt 1)) (sExpr (eMt1 mAppend (eVar 2) (eSq true bTuple (eSq true bSorted (eLst (aCons (eVar 3) (aCons (eBin opMod (eBin opAdd (eVar 3) (eBin opDiv (eVar 0) (eInt 2))) (eVar 0)) aNil))))))) sNx))) (sRet (eTup (aCons (eVar 0) (aCons (eSq true bTuple (eSq true bSset (eVar 2))) aNil)))))))
/-- short_counts -/
def f140 : FD := .mk 1 (.u (.u (.u (.u (.u (.u .nil)))))) 0 (sSeq (sAsg (gT (gsCons (gN 1) (gsCons (gN 2) gsNil))) (eCall 126 (aCons (eVar 0) aNil))) (sSeq (sAsg (gN 3) (eBin opAdd (eTup (aCons (eInt 0) (aCons (eInt 0) (aCons (eInt 0) (aCons (eInt 0) aNil))))) (eCall 65 (aCons (eVar 1) aNil)))) (sSeq (sPar (gsCons (gN 4) (gsCons (gN 5) gsNil)) (aCons (eNeg (eIdx (eVar 3) (eNeg (eInt 3)))) (aCons (eBin opDiv (eNeg (eIdx (eVar 3) (eNeg (eInt 4)))) (eInt 2)) aNil))) (sSeq (sAsg (gN 6) (eBin opSub (eBin opDiv (eBin opMul (eVar 4) (eBin opSub (eVar 4) (eInt 1))) (eInt 2)) (eBin opDiv (eBin opMul (eBin opMul (eIdx (eVar 1) (eInt 0)) (eVar 2)) (eBin opSub (eVar 2) (eInt 1))) (eInt 2)))) (sRet (eTup (aCons (eVar 5) (aCons (eBin opDiv (eBin opSub (eVar 6) (eIdx (eVar 3) (eNeg (eInt 5)))) (eInt 2)) aNil))))))))
/-- same_turned -/
def f141 : FD := .mk 1 (.u (.u .nil)) 0 (sSeq (sAsg (gT (gsCons (gN 1) (gsCons (gN 2) gsNil))) (eCall 126 (aCons (eVar 0) aNil))) (sRet (eTst (tCmp coEq (eCall 65 (aCons (eCall 44 (aCons (eVar 1) aNil)) aNil)) (eCall 130 (aCons (eCall 65 (aCons (eVar 1) aNil)) (aCons (eIdx (eVar 1) (eInt 0)) (aCons (eVar 2) aNil))))))))
/-- _law_same -/
def f144 : FD := .mk 2 (.u (.u (.u .nil))) 0 (sSeq (sIf (tVal (eTst (tIsin (eVar 1) [4, 3]))) (sSeq (sIf (tOr (tCmp coNe (eTst (tIsin (eVar 0) [4])) (eTst (tIsin (eVar 1) [4]))) (tCmp coNe (eTst (tIsin (eVar 0) [3])) (eTst (tIsin (eVar 1) [3])))) (sRet (eCst (.bl false))) sNx) (sRet (eAnd (eTst (tCmp coEq (eLen (eVar 0)) (eLen (eVar 1)))) (eSq false bAll (eComp [2, 3, 4] (eCall 144 (aCons (eVar 3) (aCons (eVar 4) aNil))) (gT (gsCons (gN 3) (gsCons (gN 4) gsNil))) (iZip (eVar 0) (eVar 1)) tYes))))) sNx) (sSeq (sIf (tCmp coIs (eVar 1) (eCst .non)) (sRet (eTst (tCmp coIs (eVar 0) (eCst .non)))) sNx) (sSeq (sIf (tVal (eTst (tIsin (eVar 1) [1, 2]))) (sRet (eAnd (eTst (tCmp coEq (eTst (tIsin (eVar 0) [1])) (eTst (tIsin (eVar 1) [1])))) (eAnd (eTst (tCmp coEq (eTst (tIsin (eVar 0) [2])) (eTst (tIsin (eVar 1) [2])))) (eTst (tCmp coEq (eVar 0) (eVar 1)))))) sNx) (sRet (eAnd (eTst (tIsin (eVar 0) [0])) (eAnd (eNot (eTst (tIsin (eVar 0) [1]))) (eTst (tCmp coEq (eVar 0) (eVar 1)))))))))
/-- _law_halves_so_right -/
def f145 : FD := .mk 0 (.u (.u .nil)) 0 (sSeq (sPar (gsCons (gN 0) (gsCons (gN 1) gsNil)) (aCons (eLst aNil) (aCons (eLst aNil) aNil))) (sSeq (sExpr (eMt1 mAppend (eVar 0) (eCallK 110 [0] aNil (aCons (eTup (aCons (eInt 4) (aCons (eTup (aCons (eTup (aCons (eInt 0) (aCons (eInt 1) aNil))) (aCons (eTup (aCons (eInt 0) (aCons (eInt 3) aNil))) (aCons (eTup (aCons (eInt 1) (aCons (eInt 2) aNil))) (aCons (eTup (aCons (eInt 2) (aCons (eInt 3) aNil))) aNil))))) aNil))) aNil)))) (sSeq (sExpr (eMt1 mAppend (eVar 1) (eCall 110 (aCons (eTup (aCons (eInt 4) (aCons (eTup (aCons (eTup (aCons (eInt 0) (aCons (eInt 1) aNil))) (aCons (eTup (aCons (eInt 0) (aCons (eInt 3) aNil))) (aCons (eTup (aCons (eInt 1) (aCons (eInt 2) aNil))) (aCons (eTup (aCons (eInt 2) (aCons (eInt 3) aNil))) aNil))))) aNil))) aNil)))) (sSeq (sExpr (eMt1 mAppend (eVar 0) (eCallK 111 [0] aNil (aCons (eTup (aCons (eInt 4) (aCons (eTup (aCons (eTup (aCons (eInt 0) (aCons (eInt 1) aNil))) (aCons (eTup (aCons (eInt 0) (aCons (eInt 3) aNil))) (aCons (eTup (aCons (eInt 1) (aCons (eInt 2) aNil))) (aCons (eTup (aCons (eInt 2) (aCons (eInt 3) aNil))) aNil))))) aNil))) aNil)))) (sSeq (sExpr (eMt1 mAppend (eVar 1) (eCall 111 (aCons (eTup (aCons (eInt 4) (aCons (eTup (aCons (eTup (aCons (eInt 0) (aCons (eInt 1) aNil))) (aCons (eTup (aCons (eInt 0) (aCons (eInt 3) aNil))) (aCons (eTup (aCons (eInt 1) (aCons (eInt 2) aNil))) (aCons (eTup (aCons (eInt 2) (aCons (eInt 3) aNil))) aNil))))) aNil))) aNil)))) (sSeq (sExpr (eMt1 mAppend (eVar 0) (eCallK 112 [0] aNil (aCons (eTup (aCons (eTup (aCons (eInt 1) (aCons (eInt 0) aNil))) (aCons (eTup (aCons (eInt 1) (aCons (eInt 1) aNil))) aNil))) aNil)))) (sSeq (sExpr (eMt1 mAppend (eVar 1) (eCall 112 (aCons (eTup (aCons (eTup (aCons (eInt 1) (aCons (eInt 0) aNil))) (aCons (eTup (aCons (eInt 1) (aCons (eInt 1) aNil))) aNil))) aNil)))) (sSeq (sExpr (eMt1 mAppend (eVar 0) (eCallK 115 [0] aNil (aCons (eTup (aCons (eInt 4) (aCons (eTup (aCons (eTup (aCons (eInt 0) (aCons (eInt 1) aNil))) (aCons (eTup (aCons (eInt 0) (aCons (eInt 3) aNil))) (aCons (eTup (aCons (eInt 1) (aCons (eInt 2) aNil))) (aCons (eTup (aCons (eInt 2) (aCons (eInt 3) aNil))) aNil))))) aNil))) aNil)))) (sSeq (sExpr (eMt1 mAppend (eVar 1) (eCall 115 (aCons (eTup (aCons (eInt 4) (aCons (eTup (aCons (eTup (aCons (eInt 0) (aCons (eInt 1) aNil))) (aCons (eTup (aCons (eInt 0) (aCons (eInt 3) aNil))) (aCons (eTup (aCons (eInt 1) (aCons (eInt 2) aNil))) (aCons (eTup (aCons (eInt 2) (aCons (eInt 3) aNil))) aNil))))) aNil))) aNil)))) (sSeq (sExpr (eMt1 mAppend (eVar 0) (eCallK 113 [0] aNil (aCons (eTup (aCons (eInt 4) (aCons (eTup (aCons (eTup (aCons (eInt 0) (aCons (eInt 1) aNil))) (aCons (eTup (aCons (eInt 0) (aCons (eInt 3) aNil))) (aCons (eTup (aCons (eInt 1) (aCons (eInt 2) aNil))) (aCons (eTup (aCons (eInt 2) (aCons (eInt 3) aNil))) aNil))))) aNil))) aNil)))) (sSeq (sExpr (eMt1 mAppend (eVar 1) (eCall 113 (aCons (eTup (aCons (eInt 4) (aCons (eTup (aCons (eTup (aCons (eInt 0) (aCons (eInt 1) aNil))) (aCons (eTup (aCons (eInt 0) (aCons (eInt 3) aNil))) (aCons (eTup (aCons (eInt 1) (aCons (eInt 2) aNil))) (aCons (eTup (aCons (eInt 2) (aCons (eInt 3) aNil))) aNil))))) aNil))) aNil)))) (sSeq (sExpr (eMt1 mAppend (eVar 0) (eCallK 114 [0] aNil (aCons (eTup (aCons (eInt 4) (aCons (eTup (aCons (eTup (aCons (eInt 0) (aCons (eInt 1) aNil))) (aCons (eTup (aCons (eInt 0) (aCons (eInt 3) aNil))) (aCons (eTup (aCons (eInt 1) (aCons (eInt 2) aNil))) (aCons (eTup (aCons (eInt 2) (aCons (eInt 3) aNil))) aNil))))) aNil))) aNil)))) (sSeq (sExpr (eMt1 mAppend (eVar 1) (eCall 114 (aCons (eTup (aCons (eInt 4) (aCons (eTup (aCons (eTup (aCons (eInt 0) (aCons (eInt 1) aNil))) (aCons (eTup (aCons (eInt 0) (aCons (eInt 3) aNil))) (aCons (eTup (aCons (eInt 1) (aCons (eInt 2) aNil))) (aCons (eTup (aCons (eInt 2) (aCons (eInt 3) aNil))) aNil))))) aNil))) aNil)))) (sSeq (sExpr (eMt1 mAppend (eVar 0) (eCallK 116 [0] aNil (aCons (eTup (aCons (eInt 4) (aCons (eTup (aCons (eTup (aCons (eInt 0) (aCons (eInt 1) aNil))) (aCons (eTup (aCons (eInt 0) (aCons (eInt 3) aNil))) (aCons (eTup (aCons (eInt 1) (aCons (eInt 2) aNil))) (aCons (eTup (aCons (eInt 2) (aCons (eInt 3) aNil))) aNil))))) aNil))) aNil)))) (sSeq (sExpr (eMt1 mAppend (eVar 1) (eCall 116 (aCons (eTup (aCons (eInt 4) (aCons (eTup (aCons (eTup (aCons (eInt 0) (aCons (eInt 1) aNil))) (aCons (eTup (aCons (eInt 0) (aCons (eInt 3) aNil))) (aCons (eTup (aCons (eInt 1) (aCons (eInt 2) aNil))) (aCons (eTup (aCons (eInt 2) (aCons (eInt 3) aNil))) aNil))))) aNil))) aNil)))) (sSeq (sExpr (eMt1 mAppend (eVar 0) (eCallK 122 [0] aNil (aCons (eTup (aCons (eInt 3) (aCons (eTup (aCons (eTup (aCons (eInt 0) (aCons (eInt 1) aNil))) (aCons (eTup (aCons (eInt 1) (aCons (eInt 2) aNil))) aNil))) aNil))) aNil)))) (sSeq (sExpr (eMt1 mAppend (eVar 1) (eCall 122 (aCons (eTup (aCons (eInt 3) (aCons (eTup (aCons (eTup (aCons (eInt 0) (aCons (eInt 1) aNil))) (aCons (eTup (aCons (eInt 1) (aCons (eInt 2) aNil))) aNil))) aNil))) aNil)))) (sRet (eCall 144 (aCons (eVar 0) (aCons (eVar 1) aNil)))))))))))))))))))))
/-- _law_halves_b_right -/
def f146 : FD := .mk 0 (.u (.u .nil)) 0 (sSeq (sPar (gsCons (gN 0) (gsCons (gN 1) gsNil)) (aCons (eLst aNil) (aCons (eLst aNil) aNil))) (sSeq (sExpr (eMt1 mAppend (eVar 0) (eCallK 123 [0] aNil (aCons (eTup (aCons (eInt 3) (aCons (eTup (aCons (eTup (aCons (eInt 0) (aCons (eInt 1) aNil))) (aCons (eTup (aCons (eInt 0) (aCons (eInt 2) aNil))) (aCons (eTup (aCons (eInt 1) (aCons (eInt 2) aNil))) aNil)))) aNil))) aNil)))) (sSeq (sExpr (eMt1 mAppend (eVar 1) (eCall 123 (aCons (eTup (aCons (eInt 3) (aCons (eTup (aCons (eTup (aCons (eInt 0) (aCons (eInt 1) aNil))) (aCons (eTup (aCons (eInt 0) (aCons (eInt 2) aNil))) (aCons (eTup (aCons (eInt 1) (aCons (eInt 2) aNil))) aNil)))) aNil))) aNil)))) (sSeq (sExpr (eMt1 mAppend (eVar 0) (eCallK 117 [0] aNil (aCons (eTup (aCons (eInt 3) (aCons (eTup (aCons (eTup (aCons (eInt 0) (aCons (eInt 1) aNil))) (aCons (eTup (aCons (eInt 0) (aCons (eInt 2) aNil))) (aCons (eTup (aCons (eInt 1) (aCons (eInt 2) aNil))) aNil)))) aNil))) aNil)))) (sSeq (sExpr (eMt1 mAppend (eVar 1) (eCall 117 (aCons (eTup (aCons (eInt 3) (aCons (eTup (aCons (eTup (aCons (eInt 0) (aCons (eInt 1) aNil))) (aCons (eTup (aCons (eInt 0) (aCons (eInt 2) aNil))) (aCons (eTup (aCons (eInt 1) (aCons (eInt 2) aNil))) aNil)))) aNil))) aNil)))) (sSeq (sExpr (eMt1 mAppend (eVar 0) (eCallK 118 [0] aNil (aCons (eTup (aCons (eInt 4) (aCons (eTup (aCons (eTup (aCons (eInt 0) (aCons (eInt 1) aNil))) (aCons (eTup (aCons (eInt 0) (aCons (eInt 3) aNil))) (aCons (eTup (aCons (eInt 1) (aCons (eInt 2) aNil))) (aCons (eTup (aCons (eInt 2) (aCons (eInt 3) aNil))) aNil))))) aNil))) aNil)))) (sSeq (sExpr (eMt1 mAppend (eVar 1) (eCall 118 (aCons (eTup (aCons (eInt 4) (aCons (eTup (aCons (eTup (aCons (eInt 0) (aCons (eInt 1) aNil))) (aCons (eTup (aCons (eInt 0) (aCons (eInt 3) aNil))) (aCons (eTup (aCons (eInt 1) (aCons (eInt 2) aNil))) (aCons (eTup (aCons (eInt 2) (aCons (eInt 3) aNil))) aNil))))) aNil))) aNil)))) (sSeq (sExpr (eMt1 mAppend (eVar 0) (eCallK 119 [1, 0] aNil (aCons (eInt 0) (aCons (eTup (aCons (eInt 4) (aCons (eTup (aCons (eTup (aCons (eInt 0) (aCons (eInt 1) aNil))) (aCons (eTup (aCons (eInt 0) (aCons (eInt 3) aNil))) (aCons (eTup (aCons (eInt 1) (aCons (eInt 2) aNil))) (aCons (eTup (aCons (eInt 2) (aCons (eInt 3) aNil))) aNil))))) aNil))) aNil))))) (sSeq (sExpr (eMt1 mAppend (eVar 1) (eCall 119 (aCons (eTup (aCons (eInt 4) (aCons (eTup (aCons (eTup (aCons (eInt 0) (aCons (eInt 1) aNil))) (aCons (eTup (aCons (eInt 0) (aCons (eInt 3) aNil))) (aCons (eTup (aCons (eInt 1) (aCons (eInt 2) aNil))) (aCons (eTup (aCons (eInt 2) (aCons (eInt 3) aNil))) aNil))))) aNil))) (aCons (eInt 0) aNil))))) (sSeq (sExpr (eMt1 mAppend (eVar 0) (eCallK 120 [1, 0] aNil (aCons (eTup (aCons (eInt 1) (aCons (eInt 0) (aCons (eInt 1) (aCons (eInt 0) aNil))))) (aCons (eTup (aCons (eInt 4) (aCons (eTup (aCons (eTup (aCons (eInt 0) (aCons (eInt 1) aNil))) (aCons (eTup (aCons (eInt 0) (aCons (eInt 3) aNil))) (aCons (eTup (aCons (eInt 1) (aCons (eInt 2) aNil))) (aCons (eTup (aCons (eInt 2) (aCons (eInt 3) aNil))) aNil))))) aNil))) aNil))))) (sSeq (sExpr (eMt1 mAppend (eVar 1) (eCall 120 (aCons (eTup (aCons (eInt 4) (aCons (eTup (aCons (eTup (aCons (eInt 0) (aCons (eInt 1) aNil))) (aCons (eTup (aCons (eInt 0) (aCons (eInt 3) aNil))) (aCons (eTup (aCons (eInt 1) (aCons (eInt 2) aNil))) (aCons (eTup (aCons (eInt 2) (aCons (eInt 3) aNil))) aNil))))) aNil))) (aCons (eTup (aCons (eInt 1) (aCons (eInt 0) (aCons (eInt 1) (aCons (eInt 0) aNil))))) aNil))))) (sSeq (sExpr (eMt1 mAppend (eVar 0) (eCallK 121 [0] aNil (aCons (eTup (aCons (eInt 3) (aCons (eTup (aCons (eTup (aCons (eInt 0) (aCons (eInt 1) aNil))) (aCons (eTup (aCons (eInt 0) (aCons (eInt 2) aNil))) (aCons (eTup (aCons (eInt 1) (aCons (eInt 2) aNil))) aNil)))) aNil))) aNil)))) (sSeq (sExpr (eMt1 mAppend (eVar 1) (eCall 121 (aCons (eTup (aCons (eInt 3) (aCons (eTup (aCons (eTup (aCons (eInt 0) (aCons (eInt 1) aNil))) (aCons (eTup (aCons (eInt 0) (aCons (eInt 2) aNil))) (aCons (eTup (aCons (eInt 1) (aCons (eInt 2) aNil))) aNil)))) aNil))) aNil)))) (sSeq (sExpr (eMt1 mAppend (eVar 0) (eCallK 124 [1, 0] aNil (aCons (eInt 3) (aCons (eInt 2) aNil))))) (sSeq (sExpr (eMt1 mAppend (eVar 1) (eCall 124 (aCons (eInt 2) (aCons (eInt 3) aNil))))) (sRet (eCall 144 (aCons (eVar 0) (aCons (eVar 1) aNil)))))))))))))))))))
/-- _law_halves_known_a_right -/
def f147 : FD := .mk 0 (.u (.u .nil)) 0 (sSeq (sPar (gsCons (gN 0) (gsCons (gN 1) gsNil)) (aCons (eLst aNil) (aCons (eLst aNil) aNil))) (sSeq (sExpr (eMt1 mAppend (eVar 0) (eCall 110 (aCons (eTup (aCons (eInt 4) (aCons (eTup (aCons (eTup (aCons (eInt 0) (aCons (eInt 1) aNil))) (aCons (eTup (aCons (eInt 0) (aCons (eInt 3) aNil))) (aCons (eTup (aCons (eInt 1) (aCons (eInt 2) aNil))) (aCons (eTup (aCons (eInt 2) (aCons (eInt 3) aNil))) aNil))))) aNil))) aNil)))) (sSeq (sExpr (eMt1 mAppend (eVar 1) (eTup (aCons (eTup (aCons (eInt 1) (aCons (eInt 1) aNil))) (aCons (eTup (aCons (eInt 1) (aCons (eInt 1) aNil))) aNil))))) (sSeq (sExpr (eMt1 mAppend (eVar 0) (eCall 111 (aCons (eTup (aCons (eInt 4) (aCons (eTup (aCons (eTup (aCons (eInt 0) (aCons (eInt 1) aNil))) (aCons (eTup (aCons (eInt 0) (aCons (eInt 3) aNil))) (aCons (eTup (aCons (eInt 1) (aCons (eInt 2) aNil))) (aCons (eTup (aCons (eInt 2) (aCons (eInt 3) aNil))) aNil))))) aNil))) aNil)))) (sSeq (sExpr (eMt1 mAppend (eVar 1) (eTup (aCons (eTup (aCons (eInt 0) (aCons (eInt 2) aNil))) (aCons (eTup (aCons (eInt 1) (aCons (eInt 3) aNil))) aNil))))) (sSeq (sExpr (eMt1 mAppend (eVar 0) (eCall 113 (aCons (eTup (aCons (eInt 4) (aCons (eTup (aCons (eTup (aCons (eInt 0) (aCons (eInt 1) aNil))) (aCons (eTup (aCons (eInt 0) (aCons (eInt 3) aNil))) (aCons (eTup (aCons (eInt 1) (aCons (eInt 2) aNil))) (aCons (eTup (aCons (eInt 2) (aCons (eInt 3) aNil))) aNil))))) aNil))) aNil)))) (sSeq (sExpr (eMt1 mAppend (eVar 1) (eTup (aCons (eInt 0) (aCons (eNeg (eInt 4)) (aCons (eInt 1) aNil)))))) (sSeq (sExpr (eMt1 mAppend (eVar 0) (eCall 114 (aCons (eTup (aCons (eInt 4) (aCons (eTup (aCons (eTup (aCons (eInt 0) (aCons (eInt 1) aNil))) (aCons (eTup (aCons (eInt 0) (aCons (eInt 3) aNil))) (aCons (eTup (aCons (eInt 1) (aCons (eInt 2) aNil))) (aCons (eTup (aCons (eInt 2) (aCons (eInt 3) aNil))) aNil))))) aNil))) aNil)))) (sSeq (sExpr (eMt1 mAppend (eVar 1) (eTup (aCons (eInt 0) (aCons (eInt 0) (aCons (eNeg (eInt 4)) (aCons (eInt 0) (aCons (eInt 1) aNil)))))))) (sSeq (sExpr (eMt1 mAppend (eVar 0) (eCall 115 (aCons (eTup (aCons (eInt 4) (aCons (eTup (aCons (eTup (aCons (eInt 0) (aCons (eInt 1) aNil))) (aCons (eTup (aCons (eInt 0) (aCons (eInt 3) aNil))) (aCons (eTup (aCons (eInt 1) (aCons (eInt 2) aNil))) (aCons (eTup (aCons (eInt 2) (aCons (eInt 3) aNil))) aNil))))) aNil))) aNil)))) (sSeq (sExpr (eMt1 mAppend (eVar 1) (eInt 1))) (sSeq (sExpr (eMt1 mAppend (eVar 0) (eCall 116 (aCons (eTup (aCons (eInt 4) (aCons (eTup (aCons (eTup (aCons (eInt 0) (aCons (eInt 1) aNil))) (aCons (eTup (aCons (eInt 0) (aCons (eInt 3) aNil))) (aCons (eTup (aCons (eInt 1) (aCons (eInt 2) aNil))) (aCons (eTup (aCons (eInt 2) (aCons (eInt 3) aNil))) aNil))))) aNil))) aNil)))) (sSeq (sExpr (eMt1 mAppend (eVar 1) (eCst (.bl true)))) (sSeq (sExpr (eMt1 mAppend (eVar 0) (eCall 119 (aCons (eTup (aCons (eInt 4) (aCons (eTup (aCons (eTup (aCons (eInt 0) (aCons (eInt 1) aNil))) (aCons (eTup (aCons (eInt 0) (aCons (eInt 3) aNil))) (aCons (eTup (aCons (eInt 1) (aCons (eInt 2) aNil))) (aCons (eTup (aCons (eInt 2) (aCons (eInt 3) aNil))) aNil))))) aNil))) (aCons (eInt 0) aNil))))) (sSeq (sExpr (eMt1 mAppend (eVar 1) (eTup (aCons (eTup (aCons (eInt 2) (aCons (eInt 2) aNil))) (aCons (eTup (aCons (eInt 2) (aCons (eInt 2) aNil))) aNil))))) (sSeq (sExpr (eMt1 mAppend (eVar 0) (eCall 121 (aCons (eTup (aCons (eInt 2) (aCons (eTup (aCons (eTup (aCons (eInt 0) (aCons (eInt 1) aNil))) aNil)) aNil))) aNil)))) (sSeq (sExpr (eMt1 mAppend (eVar 1) (eLst (aCons (eTup (aCons (eInt 0) (aCons (eInt 1) aNil))) (aCons (eTup (aCons (eInt 1) (aCons (eInt 0) aNil))) aNil))))) (sSeq (sExpr (eMt1 mAppend (eVar 0) (eCall 124 (aCons (eInt 2) (aCons (eInt 3) aNil))))) (sSeq (sExpr (eMt1 mAppend (eVar 1) (eTup (aCons (eInt 0) (aCons (eInt 0) (aCons (eInt 0) (aCons (eNeg (eInt 6)) (aCons (eInt 0) (aCons (eInt 1) aNil))))))))) (sSeq (sExpr (eMt1 mAppend (eVar 0) (eCall 116 (aCons (eTup (aCons (eInt 3) (aCons (eTup (aCons (eTup (aCons (eInt 0) (aCons (eInt 1) aNil))) (aCons (eTup (aCons (eInt 0) (aCons (eInt 2) aNil))) (aCons (eTup (aCons (eInt 1) (aCons (eInt 2) aNil))) aNil)))) aNil))) aNil)))) (sSeq (sExpr (eMt1 mAppend (eVar 1) (eCst (.bl false)))) (sRet (eCall 144 (aCons (eVar 0) (aCons (eVar 1) aNil)))))))))))))))))))))))))
/-- _law_halves_known_b_right -/
def f148 : FD := .mk 0 (.u (.u .nil)) 0 (sSeq (sPar (gsCons (gN 0) (gsCons (gN 1) gsNil)) (aCons (eLst aNil) (aCons (eLst aNil) aNil))) (sSeq (sExpr (eMt1 mAppend (eVar 0) (eCall 117 (aCons (eTup (aCons (eInt 3) (aCons (eTup (aCons (eTup (aCons (eInt 0) (aCons (eInt 1) aNil))) (aCons (eTup (aCons (eInt 0) (aCons (eInt 2) aNil))) (aCons (eTup (aCons (eInt 1) (aCons (eInt 2) aNil))) aNil)))) aNil))) aNil)))) (sSeq (sExpr (eMt1 mAppend (eVar 1) (eTup (aCons (eInt 6) (aCons (eTup (aCons (eTup (aCons (eInt 0) (aCons (eInt 4) aNil))) (aCons (eTup (aCons (eInt 0) (aCons (eInt 5) aNil))) (aCons (eTup (aCons (eInt 1) (aCons (eInt 3) aNil))) (aCons (eTup (aCons (eInt 1) (aCons (eInt 5) aNil))) (aCons (eTup (aCons (eInt 2) (aCons (eInt 3) aNil))) (aCons (eTup (aCons (eInt 2) (aCons (eInt 4) aNil))) aNil))))))) aNil))))) (sSeq (sExpr (eMt1 mAppend (eVar 0) (eCall 118 (aCons (eTup (aCons (eInt 4) (aCons (eTup (aCons (eTup (aCons (eInt 0) (aCons (eInt 1) aNil))) (aCons (eTup (aCons (eInt 0) (aCons (eInt 3) aNil))) (aCons (eTup (aCons (eInt 1) (aCons (eInt 2) aNil))) (aCons (eTup (aCons (eInt 2) (aCons (eInt 3) aNil))) aNil))))) aNil))) aNil)))) (sSeq (sExpr (eMt1 mAppend (eVar 1) (eInt 2))) (sSeq (sExpr (eMt1 mAppend (eVar 0) (eCall 123 (aCons (eTup (aCons (eInt 3) (aCons (eTup (aCons (eTup (aCons (eInt 0) (aCons (eInt 1) aNil))) (aCons (eTup (aCons (eInt 0) (aCons (eInt 2) aNil))) (aCons (eTup (aCons (eInt 1) (aCons (eInt 2) aNil))) aNil)))) aNil))) aNil)))) (sSeq (sExpr (eMt1 mAppend (eVar 1) (eInt 3))) (sSeq (sExpr (eMt1 mAppend (eVar 0) (eCall 122 (aCons (eTup (aCons (eInt 3) (aCons (eTup (aCons (eTup (aCons (eInt 0) (aCons (eInt 1) aNil))) (aCons (eTup (aCons (eInt 1) (aCons (eInt 2) aNil))) aNil))) aNil))) aNil)))) (sSeq (sExpr (eMt1 mAppend (eVar 1) (eTup (aCons (eNeg (eInt 2)) (aCons (eInt 0) (aCons (eInt 1) aNil)))))) (sSeq (sExpr (eMt1 mAppend (eVar 0) (eCall 112 (aCons (eTup (aCons (eTup (aCons (eInt 1) (aCons (eInt 0) aNil))) (aCons (eTup (aCons (eInt 1) (aCons (eInt 1) aNil))) aNil))) aNil)))) (sSeq (sExpr (eMt1 mAppend (eVar 1) (eTup (aCons (eInt 4) (aCons (eTup (aCons (eTup (aCons (eInt 0) (aCons (eInt 2) aNil))) (aCons (eTup (aCons (eInt 1) (aCons (eInt 2) aNil))) (aCons (eTup (aCons (eInt 1) (aCons (eInt 3) aNil))) aNil)))) aNil))))) (sSeq (sExpr (eMt1 mAppend (eVar 0) (eCall 120 (aCons (eTup (aCons (eInt 4) (aCons (eTup (aCons (eTup (aCons (eInt 0) (aCons (eInt 1) aNil))) (aCons (eTup (aCons (eInt 0) (aCons (eInt 3) aNil))) (aCons (eTup (aCons (eInt 1) (aCons (eInt 2) aNil))) (aCons (eTup (aCons (eInt 2) (aCons (eInt 3) aNil))) aNil))))) aNil))) (aCons (eTup (aCons (eInt 1) (aCons (eInt 0) (aCons (eInt 1) (aCons (eInt 0) aNil))))) aNil))))) (sSeq (sExpr (eMt1 mAppend (eVar 1) (eCst (.bl true)))) (sSeq (sExpr (eMt1 mAppend (eVar 0) (eCall 121 (aCons (eTup (aCons (eInt 3) (aCons (eTup (aCons (eTup (aCons (eInt 0) (aCons (eInt 1) aNil))) (aCons (eTup (aCons (eInt 0) (aCons (eInt 2) aNil))) (aCons (eTup (aCons (eInt 1) (aCons (eInt 2) aNil))) aNil)))) aNil))) aNil)))) (sSeq (sExpr (eMt1 mAppend (eVar 1) (eLst aNil))) (sSeq (sExpr (eMt1 mAppend (eVar 0) (eCall 110 (aCons (eTup (aCons (eInt 0) (aCons (eTup aNil) aNil))) aNil)))) (sSeq (sExpr (eMt1 mAppend (eVar 1) (eTup aNil))) (sSeq (sExpr (eMt1 mAppend (eVar 0) (eCall 113 (aCons (eTup (aCons (eInt 0) (aCons (eTup aNil) aNil))) aNil)))) (sSeq (sExpr (eMt1 mAppend (eVar 1) (eTup (aCons (eInt 1) aNil)))) (sSeq (sExpr (eMt1 mAppend (eVar 0) (eCall 114 (aCons (eTup (aCons (eInt 1) (aCons (eTup aNil) aNil))) aNil)))) (sSeq (sExpr (eMt1 mAppend (eVar 1) (eTup (aCons (eInt 0) (aCons (eInt 1) aNil))))) (sRet (eCall 144 (aCons (eVar 0) (aCons (eVar 1) aNil)))))))))))))))))))))))))
/-- _law_halves_known_c_right -/
def f149 : FD := .mk 0 (.u (.u .nil)) 0 (sSeq (sPar (gsCons (gN 0) (gsCons (gN 1) gsNil)) (aCons (eLst aNil) (aCons (eLst aNil) aNil))) (sSeq (sExpr (eMt1 mAppend (eVar 0) (eCall 112 (aCons (eTup aNil) aNil)))) (sSeq (sExpr (eMt1 mAppend (eVar 1) (eTup (aCons (eInt 0) (aCons (eTup aNil) aNil))))) (sSeq (sExpr (eMt1 mAppend (eVar 0) (eCall 118 (aCons (eTup (aCons (eInt 1) (aCons (eTup aNil) aNil))) aNil)))) (sSeq (sExpr (eMt1 mAppend (eVar 1) (eInt 2))) (sSeq (sExpr (eMt1 mAppend (eVar 0) (eCall 119 (aCons (eTup (aCons (eInt 0) (aCons (eTup aNil) aNil))) (aCons (eInt 1) aNil))))) (sSeq (sExpr (eMt1 mAppend (eVar 1) (eTup aNil))) (sRet (eCall 144 (aCons (eVar 0) (aCons (eVar 1) aNil)))))))))))
/-- _law_even_so_right -/
def f150 : FD := .mk 0 (.u (.u .nil)) 0 (sSeq (sPar (gsCons (gN 0) (gsCons (gN 1) gsNil)) (aCons (eLst aNil) (aCons (eLst aNil) aNil))) (sSeq (sExpr (eMt1 mAppend (eVar 0) (eCallK 79 [1, 0] aNil (aCons (eTup (aCons (eTup (aCons (eInt 0) aNil)) (aCons (eTup (aCons (eInt 1) aNil)) aNil))) (aCons (eTup (aCons (eInt 2) (aCons (eTup aNil) aNil))) aNil))))) (sSeq (sExpr (eMt1 mAppend (eVar 1) (eCall 79 (aCons (eTup (aCons (eInt 2) (aCons (eTup aNil) aNil))) (aCons (eTup (aCons (eTup (aCons (eInt 0) aNil)) (aCons (eTup (aCons (eInt 1) aNil)) aNil))) aNil))))) (sSeq (sExpr (eMt1 mAppend (eVar 0) (eCallK 80 [1, 0] aNil (aCons (eTup (aCons (eTup (aCons (eInt 0) (aCons (eInt 1) (aCons (eInt 2) aNil)))) (aCons (eTup (aCons (eInt 3) aNil)) aNil))) (aCons (eTup (aCons (eInt 4) (aCons (eTup (aCons (eTup (aCons (eInt 0) (aCons (eInt 1) aNil))) (aCons (eTup (aCons (eInt 0) (aCons (eInt 2) aNil))) (aCons (eTup (aCons (eInt 1) (aCons (eInt 2) aNil))) (aCons (eTup (aCons (eInt 2) (aCons (eInt 3) aNil))) aNil))))) aNil))) aNil))))) (sSeq (sExpr (eMt1 mAppend (eVar 1) (eCall 80 (aCons (eTup (aCons (eInt 4) (aCons (eTup (aCons (eTup (aCons (eInt 0) (aCons (eInt 1) aNil))) (aCons (eTup (aCons (eInt 0) (aCons (eInt 2) aNil))) (aCons (eTup (aCons (eInt 1) (aCons (eInt 2) aNil))) (aCons (eTup (aCons (eInt 2) (aCons (eInt 3) aNil))) aNil))))) aNil))) (aCons (eTup (aCons (eTup (aCons (eInt 0) (aCons (eInt 1) (aCons (eInt 2) aNil)))) (aCons (eTup (aCons (eInt 3) aNil)) aNil))) aNil))))) (sSeq (sExpr (eMt1 mAppend (eVar 0) (eCallK 81 [1, 0] aNil (aCons (eTup (aCons (eTup (aCons (eInt 0) (aCons (eInt 1) (aCons (eInt 2) aNil)))) (aCons (eTup (aCons (eInt 3) aNil)) aNil))) (aCons (eTup (aCons (eInt 4) (aCons (eTup (aCons (eTup (aCons (eInt 0) (aCons (eInt 1) aNil))) (aCons (eTup (aCons (eInt 0) (aCons (eInt 2) aNil))) (aCons (eTup (aCons (eInt 1) (aCons (eInt 2) aNil))) (aCons (eTup (aCons (eInt 2) (aCons (eInt 3) aNil))) aNil))))) aNil))) aNil))))) (sSeq (sExpr (eMt1 mAppend (eVar 1) (eCall 81 (aCons (eTup (aCons (eInt 4) (aCons (eTup (aCons (eTup (aCons (eInt 0) (aCons (eInt 1) aNil))) (aCons (eTup (aCons (eInt 0) (aCons (eInt 2) aNil))) (aCons (eTup (aCons (eInt 1) (aCons (eInt 2) aNil))) (aCons (eTup (aCons (eInt 2) (aCons (eInt 3) aNil))) aNil))))) aNil))) (aCons (eTup (aCons (eTup (aCons (eInt 0) (aCons (eInt 1) (aCons (eInt 2) aNil)))) (aCons (eTup (aCons (eInt 3) aNil)) aNil))) aNil))))) (sSeq (sExpr (eMt1 mAppend (eVar 0) (eCallK 82 [2, 1, 0] aNil (aCons (eTup (aCons (eInt 0) (aCons (eInt 2) (aCons (eInt 1) aNil)))) (aCons (eTup (aCons (eTup (aCons (eInt 0) (aCons (eInt 1) (aCons (eInt 2) aNil)))) (aCons (eTup (aCons (eInt 3) aNil)) aNil))) (aCons (eTup (aCons (eInt 4) (aCons (eTup (aCons (eTup (aCons (eInt 0) (aCons (eInt 1) aNil))) (aCons (eTup (aCons (eInt 0) (aCons (eInt 2) aNil))) (aCons (eTup (aCons (eInt 1) (aCons (eInt 2) aNil))) (aCons (eTup (aCons (eInt 2) (aCons (eInt 3) aNil))) aNil))))) aNil))) aNil)))))) (sSeq (sExpr (eMt1 mAppend (eVar 1) (eCall 82 (aCons (eTup (aCons (eInt 4) (aCons (eTup (aCons (eTup (aCons (eInt 0) (aCons (eInt 1) aNil))) (aCons (eTup (aCons (eInt 0) (aCons (eInt 2) aNil))) (aCons (eTup (aCons (eInt 1) (aCons (eInt 2) aNil))) (aCons (eTup (aCons (eInt 2) (aCons (eInt 3) aNil))) aNil))))) aNil))) (aCons (eTup (aCons (eTup (aCons (eInt 0) (aCons (eInt 1) (aCons (eInt 2) aNil)))) (aCons (eTup (aCons (eInt 3) aNil)) aNil))) (aCons (eTup (aCons (eInt 0) (aCons (eInt 2) (aCons (eInt 1) aNil)))) aNil)))))) (sSeq (sExpr (eMt1 mAppend (eVar 0) (eCallK 83 [1, 0] aNil (aCons (eTup (aCons (eTup (aCons (eInt 0) aNil)) (aCons (eTup (aCons (eInt 1) (aCons (eInt 2) (aCons (eInt 3) aNil)))) aNil))) (aCons (eTup (aCons (eInt 4) (aCons (eTup (aCons (eTup (aCons (eInt 0) (aCons (eInt 1) aNil))) (aCons (eTup (aCons (eInt 0) (aCons (eInt 3) aNil))) (aCons (eTup (aCons (eInt 1) (aCons (eInt 2) aNil))) (aCons (eTup (aCons (eInt 2) (aCons (eInt 3) aNil))) aNil))))) aNil))) aNil))))) (sSeq (sExpr (eMt1 mAppend (eVar 1) (eCall 83 (aCons (eTup (aCons (eInt 4) (aCons (eTup (aCons (eTup (aCons (eInt 0) (aCons (eInt 1) aNil))) (aCons (eTup (aCons (eInt 0) (aCons (eInt 3) aNil))) (aCons (eTup (aCons (eInt 1) (aCons (eInt 2) aNil))) (aCons (eTup (aCons (eInt 2) (aCons (eInt 3) aNil))) aNil))))) aNil))) (aCons (eTup (aCons (eTup (aCons (eInt 0) aNil)) (aCons (eTup (aCons (eInt 1) (aCons (eInt 2) (aCons (eInt 3) aNil)))) aNil))) aNil))))) (sSeq (sExpr (eMt1 mAppend (eVar 0) (eCallK 84 [0] aNil (aCons (eTup (aCons (eInt 4) (aCons (eTup (aCons (eTup (aCons (eInt 0) (aCons (eInt 1) aNil))) (aCons (eTup (aCons (eInt 0) (aCons (eInt 2) aNil))) (aCons (eTup (aCons (eInt 1) (aCons (eInt 2) aNil))) (aCons (eTup (aCons (eInt 2) (aCons (eInt 3) aNil))) aNil))))) aNil))) aNil)))) (sSeq (sExpr (eMt1 mAppend (eVar 1) (eCall 84 (aCons (eTup (aCons (eInt 4) (aCons (eTup (aCons (eTup (aCons (eInt 0) (aCons (eInt 1) aNil))) (aCons (eTup (aCons (eInt 0) (aCons (eInt 2) aNil))) (aCons (eTup (aCons (eInt 1) (aCons (eInt 2) aNil))) (aCons (eTup (aCons (eInt 2) (aCons (eInt 3) aNil))) aNil))))) aNil))) aNil)))) (sSeq (sExpr (eMt1 mAppend (eVar 0) (eCallK 91 [2, 1, 0] aNil (aCons (eInt 1) (aCons (eInt 0) (aCons (eTup (aCons (eInt 4) (aCons (eTup (aCons (eTup (aCons (eInt 0) (aCons (eInt 1) aNil))) (aCons (eTup (aCons (eInt 0) (aCons (eInt 2) aNil))) (aCons (eTup (aCons (eInt 1) (aCons (eInt 2) aNil))) (aCons (eTup (aCons (eInt 2) (aCons (eInt 3) aNil))) aNil))))) aNil))) aNil)))))) (sSeq (sExpr (eMt1 mAppend (eVar 1) (eCall 91 (aCons (eTup (aCons (eInt 4) (aCons (eTup (aCons (eTup (aCons (eInt 0) (aCons (eInt 1) aNil))) (aCons (eTup (aCons (eInt 0) (aCons (eInt 2) aNil))) (aCons (eTup (aCons (eInt 1) (aCons (eInt 2) aNil))) (aCons (eTup (aCons (eInt 2) (aCons (eInt 3) aNil))) aNil))))) aNil))) (aCons (eInt 0) (aCons (eInt 1) aNil)))))) (sSeq (sExpr (eMt1 mAppend (eVar 0) (eCallK 92 [1, 0] aNil (aCons (eTup (aCons (eInt 6) (aCons (eTup (aCons (eTup (aCons (eInt 0) (aCons (eInt 1) aNil))) (aCons (eTup (aCons (eInt 0) (aCons (eInt 5) aNil))) (aCons (eTup (aCons (eInt 1) (aCons (eInt 2) aNil))) (aCons (eTup (aCons (eInt 2) (aCons (eInt 3) aNil))) (aCons (eTup (aCons (eInt 3) (aCons (eInt 4) aNil))) (aCons (eTup (aCons (eInt 4) (aCons (eInt 5) aNil))) aNil))))))) aNil))) (aCons (eTup (aCons (eInt 6) (aCons (eTup (aCons (eTup (aCons (eInt 0) (aCons (eInt 1) aNil))) (aCons (eTup (aCons (eInt 0) (aCons (eInt 2) aNil))) (aCons (eTup (aCons (eInt 1) (aCons (eInt 2) aNil))) (aCons (eTup (aCons (eInt 3) (aCons (eInt 4) aNil))) (aCons (eTup (aCons (eInt 3) (aCons (eInt 5) aNil))) (aCons (eTup (aCons (eInt 4) (aCons (eInt 5) aNil))) aNil))))))) aNil))) aNil))))) (sSeq (sExpr (eMt1 mAppend (eVar 1) (eCall 92 (aCons (eTup (aCons (eInt 6) (aCons (eTup (aCons (eTup (aCons (eInt 0) (aCons (eInt 1) aNil))) (aCons (eTup (aCons (eInt 0) (aCons (eInt 2) aNil))) (aCons (eTup (aCons (eInt 1) (aCons (eInt 2) aNil))) (aCons (eTup (aCons (eInt 3) (aCons (eInt 4) aNil))) (aCons (eTup (aCons (eInt 3) (aCons (eInt 5) aNil))) (aCons (eTup (aCons (eInt 4) (aCons (eInt 5) aNil))) aNil))))))) aNil))) (aCons (eTup (aCons (eInt 6) (aCons (eTup (aCons (eTup (aCons (eInt 0) (aCons (eInt 1) aNil))) (aCons (eTup (aCons (eInt 0) (aCons (eInt 5) aNil))) (aCons (eTup (aCons (eInt 1) (aCons (eInt 2) aNil))) (aCons (eTup (aCons (eInt 2) (aCons (eInt 3) aNil))) (aCons (eTup (aCons (eInt 3) (aCons (eInt 4) aNil))) (aCons (eTup (aCons (eInt 4) (aCons (eInt 5) aNil))) aNil))))))) aNil))) aNil))))) (sRet (eCall 144 (aCons (eVar 0) (aCons (eVar 1) aNil)))))))))))))))))))))
/-- _law_even_b_right -/
def f151 : FD := .mk 0 (.u (.u .nil)) 0 (sSeq (sPar (gsCons (gN 0) (gsCons (gN 1) gsNil)) (aCons (eLst aNil) (aCons (eLst aNil) aNil))) (sSeq (sExpr (eMt1 mAppend (eVar 0) (eCallK 93 [0] aNil (aCons (eTup (aCons (eInt 2) (aCons (eTup aNil) aNil))) aNil)))) (sSeq (sExpr (eMt1 mAppend (eVar 1) (eCall 93 (aCons (eTup (aCons (eInt 2) (aCons (eTup aNil) aNil))) aNil)))) (sSeq (sExpr (eMt1 mAppend (eVar 0) (eCallK 90 [1, 0] aNil (aCons (eInt 0) (aCons (eTup (aCons (eInt 4) (aCons (eTup (aCons (eTup (aCons (eInt 0) (aCons (eInt 1) aNil))) (aCons (eTup (aCons (eInt 0) (aCons (eInt 2) aNil))) (aCons (eTup (aCons (eInt 1) (aCons (eInt 2) aNil))) (aCons (eTup (aCons (eInt 2) (aCons (eInt 3) aNil))) aNil))))) aNil))) aNil))))) (sSeq (sExpr (eMt1 mAppend (eVar 1) (eCall 90 (aCons (eTup (aCons (eInt 4) (aCons (eTup (aCons (eTup (aCons (eInt 0) (aCons (eInt 1) aNil))) (aCons (eTup (aCons (eInt 0) (aCons (eInt 2) aNil))) (aCons (eTup (aCons (eInt 1) (aCons (eInt 2) aNil))) (aCons (eTup (aCons (eInt 2) (aCons (eInt 3) aNil))) aNil))))) aNil))) (aCons (eInt 0) aNil))))) (sSeq (sExpr (eMt1 mAppend (eVar 0) (eCallK 85 [1, 0] aNil (aCons (eTup (aCons (eTup (aCons (eInt 0) (aCons (eInt 1) aNil))) (aCons (eTup (aCons (eInt 2) aNil)) (aCons (eTup (aCons (eInt 3) aNil)) aNil)))) (aCons (eTup (aCons (eInt 4) (aCons (eTup (aCons (eTup (aCons (eInt 0) (aCons (eInt 1) aNil))) (aCons (eTup (aCons (eInt 0) (aCons (eInt 2) aNil))) (aCons (eTup (aCons (eInt 1) (aCons (eInt 2) aNil))) (aCons (eTup (aCons (eInt 2) (aCons (eInt 3) aNil))) aNil))))) aNil))) aNil))))) (sSeq (sExpr (eMt1 mAppend (eVar 1) (eCall 85 (aCons (eTup (aCons (eInt 4) (aCons (eTup (aCons (eTup (aCons (eInt 0) (aCons (eInt 1) aNil))) (aCons (eTup (aCons (eInt 0) (aCons (eInt 2) aNil))) (aCons (eTup (aCons (eInt 1) (aCons (eInt 2) aNil))) (aCons (eTup (aCons (eInt 2) (aCons (eInt 3) aNil))) aNil))))) aNil))) (aCons (eTup (aCons (eTup (aCons (eInt 0) (aCons (eInt 1) aNil))) (aCons (eTup (aCons (eInt 2) aNil)) (aCons (eTup (aCons (eInt 3) aNil)) aNil)))) aNil))))) (sSeq (sExpr (eMt1 mAppend (eVar 0) (eCallK 86 [1, 0] aNil (aCons (eTup (aCons (eTup (aCons (eInt 0) (aCons (eInt 1) aNil))) (aCons (eTup (aCons (eInt 2) aNil)) (aCons (eTup (aCons (eInt 3) aNil)) aNil)))) (aCons (eTup (aCons (eInt 4) (aCons (eTup (aCons (eTup (aCons (eInt 0) (aCons (eInt 1) aNil))) (aCons (eTup (aCons (eInt 0) (aCons (eInt 2) aNil))) (aCons (eTup (aCons (eInt 1) (aCons (eInt 2) aNil))) (aCons (eTup (aCons (eInt 2) (aCons (eInt 3) aNil))) aNil))))) aNil))) aNil))))) (sSeq (sExpr (eMt1 mAppend (eVar 1) (eCall 86 (aCons (eTup (aCons (eInt 4) (aCons (eTup (aCons (eTup (aCons (eInt 0) (aCons (eInt 1) aNil))) (aCons (eTup (aCons (eInt 0) (aCons (eInt 2) aNil))) (aCons (eTup (aCons (eInt 1) (aCons (eInt 2) aNil))) (aCons (eTup (aCons (eInt 2) (aCons (eInt 3) aNil))) aNil))))) aNil))) (aCons (eTup (aCons (eTup (aCons (eInt 0) (aCons (eInt 1) aNil))) (aCons (eTup (aCons (eInt 2) aNil)) (aCons (eTup (aCons (eInt 3) aNil)) aNil)))) aNil))))) (sSeq (sExpr (eMt1 mAppend (eVar 0) (eCallK 87 [1, 0] aNil (aCons (eTup (aCons (eTup (aCons (eInt 0) (aCons (eInt 1) aNil))) (aCons (eTup (aCons (eInt 2) aNil)) (aCons (eTup (aCons (eInt 3) aNil)) aNil)))) (aCons (eTup (aCons (eInt 4) (aCons (eTup (aCons (eTup (aCons (eInt 0) (aCons (eInt 1) aNil))) (aCons (eTup (aCons (eInt 0) (aCons (eInt 2) aNil))) (aCons (eTup (aCons (eInt 1) (aCons (eInt 2) aNil))) (aCons (eTup (aCons (eInt 2) (aCons (eInt 3) aNil))) aNil))))) aNil))) aNil))))) (sSeq (sExpr (eMt1 mAppend (eVar 1) (eCall 87 (aCons (eTup (aCons (eInt 4) (aCons (eTup (aCons (eTup (aCons (eInt 0) (aCons (eInt 1) aNil))) (aCons (eTup (aCons (eInt 0) (aCons (eInt 2) aNil))) (aCons (eTup (aCons (eInt 1) (aCons (eInt 2) aNil))) (aCons (eTup (aCons (eInt 2) (aCons (eInt 3) aNil))) aNil))))) aNil))) (aCons (eTup (aCons (eTup (aCons (eInt 0) (aCons (eInt 1) aNil))) (aCons (eTup (aCons (eInt 2) aNil)) (aCons (eTup (aCons (eInt 3) aNil)) aNil)))) aNil))))) (sSeq (sExpr (eMt1 mAppend (eVar 0) (eCallK 88 [2, 1, 0] aNil (aCons (eInt 2) (aCons (eTup (aCons (eTup (aCons (eInt 0) (aCons (eInt 1) aNil))) (aCons (eTup (aCons (eInt 2) aNil)) (aCons (eTup (aCons (eInt 3) aNil)) aNil)))) (aCons (eTup (aCons (eInt 4) (aCons (eTup (aCons (eTup (aCons (eInt 0) (aCons (eInt 1) aNil))) (aCons (eTup (aCons (eInt 0) (aCons (eInt 2) aNil))) (aCons (eTup (aCons (eInt 1) (aCons (eInt 2) aNil))) (aCons (eTup (aCons (eInt 2) (aCons (eInt 3) aNil))) aNil))))) aNil))) aNil)))))) (sSeq (sExpr (eMt1 mAppend (eVar 1) (eCall 88 (aCons (eTup (aCons (eInt 4) (aCons (eTup (aCons (eTup (aCons (eInt 0) (aCons (eInt 1) aNil))) (aCons (eTup (aCons (eInt 0) (aCons (eInt 2) aNil))) (aCons (eTup (aCons (eInt 1) (aCons (eInt 2) aNil))) (aCons (eTup (aCons (eInt 2) (aCons (eInt 3) aNil))) aNil))))) aNil))) (aCons (eTup (aCons (eTup (aCons (eInt 0) (aCons (eInt 1) aNil))) (aCons (eTup (aCons (eInt 2) aNil)) (aCons (eTup (aCons (eInt 3) aNil)) aNil)))) (aCons (eInt 2) aNil)))))) (sSeq (sExpr (eMt1 mAppend (eVar 0) (eCallK 89 [1, 0] aNil (aCons (eInt 4) (aCons (eTup (aCons (eInt 4) (aCons (eTup (aCons (eTup (aCons (eInt 0) (aCons (eInt 1) aNil))) (aCons (eTup (aCons (eInt 0) (aCons (eInt 2) aNil))) (aCons (eTup (aCons (eInt 1) (aCons (eInt 2) aNil))) (aCons (eTup (aCons (eInt 2) (aCons (eInt 3) aNil))) aNil))))) aNil))) aNil))))) (sSeq (sExpr (eMt1 mAppend (eVar 1) (eCall 89 (aCons (eTup (aCons (eInt 4) (aCons (eTup (aCons (eTup (aCons (eInt 0) (aCons (eInt 1) aNil))) (aCons (eTup (aCons (eInt 0) (aCons (eInt 2) aNil))) (aCons (eTup (aCons (eInt 1) (aCons (eInt 2) aNil))) (aCons (eTup (aCons (eInt 2) (aCons (eInt 3) aNil))) aNil))))) aNil))) (aCons (eInt 4) aNil))))) (sSeq (sExpr (eMt1 mAppend (eVar 0) (eCallK 94 [1, 0] aNil (aCons (eInt 5) (aCons (eTup (aCons (eInt 4) (aCons (eTup (aCons (eTup (aCons (eInt 0) (aCons (eInt 1) aNil))) (aCons (eTup (aCons (eInt 0) (aCons (eInt 2) aNil))) (aCons (eTup (aCons (eInt 1) (aCons (eInt 2) aNil))) (aCons (eTup (aCons (eInt 2) (aCons (eInt 3) aNil))) aNil))))) aNil))) aNil))))) (sSeq (sExpr (eMt1 mAppend (eVar 1) (eCall 94 (aCons (eTup (aCons (eInt 4) (aCons (eTup (aCons (eTup (aCons (eInt 0) (aCons (eInt 1) aNil))) (aCons (eTup (aCons (eInt 0) (aCons (eInt 2) aNil))) (aCons (eTup (aCons (eInt 1) (aCons (eInt 2) aNil))) (aCons (eTup (aCons (eInt 2) (aCons (eInt 3) aNil))) aNil))))) aNil))) (aCons (eInt 5) aNil))))) (sRet (eCall 144 (aCons (eVar 0) (aCons (eVar 1) aNil)))))))))))))))))))))
/-- _law_even_known_a_right -/
def f152 : FD := .mk 0 (.u (.u .nil)) 0 (sSeq (sPar (gsCons (gN 0) (gsCons (gN 1) gsNil)) (aCons (eLst aNil) (aCons (eLst aNil) aNil))) (sSeq (sExpr (eMt1 mAppend (eVar 0) (eCall 84 (aCons (eTup (aCons (eInt 4) (aCons (eTup (aCons (eTup (aCons (eInt 0) (aCons (eInt 1) aNil))) (aCons (eTup (aCons (eInt 0) (aCons (eInt 2) aNil))) (aCons (eTup (aCons (eInt 1) (aCons (eInt 2) aNil))) (aCons (eTup (aCons (eInt 2) (aCons (eInt 3) aNil))) aNil))))) aNil))) aNil)))) (sSeq (sExpr (eMt1 mAppend (eVar 1) (eTup (aCons (eTup (aCons (eInt 0) (aCons (eInt 1) aNil))) (aCons (eTup (aCons (eInt 2) aNil)) (aCons (eTup (aCons (eInt 3) aNil)) aNil)))))) (sSeq (sExpr (eMt1 mAppend (eVar 0) (eCall 80 (aCons (eTup (aCons (eInt 4) (aCons (eTup (aCons (eTup (aCons (eInt 0) (aCons (eInt 1) aNil))) (aCons (eTup (aCons (eInt 0) (aCons (eInt 2) aNil))) (aCons (eTup (aCons (eInt 1) (aCons (eInt 2) aNil))) (aCons (eTup (aCons (eInt 2) (aCons (eInt 3) aNil))) aNil))))) aNil))) (aCons (eTup (aCons (eTup (aCons (eInt 0) (aCons (eInt 1) (aCons (eInt 2) aNil)))) (aCons (eTup (aCons (eInt 3) aNil)) aNil))) aNil))))) (sSeq (sExpr (eMt1 mAppend (eVar 1) (eCst (.bl false)))) (sSeq (sExpr (eMt1 mAppend (eVar 0) (eCall 81 (aCons (eTup (aCons (eInt 4) (aCons (eTup (aCons (eTup (aCons (eInt 0) (aCons (eInt 1) aNil))) (aCons (eTup (aCons (eInt 0) (aCons (eInt 2) aNil))) (aCons (eTup (aCons (eInt 1) (aCons (eInt 2) aNil))) (aCons (eTup (aCons (eInt 2) (aCons (eInt 3) aNil))) aNil))))) aNil))) (aCons (eTup (aCons (eTup (aCons (eInt 0) (aCons (eInt 1) (aCons (eInt 2) aNil)))) (aCons (eTup (aCons (eInt 3) aNil)) aNil))) aNil))))) (sSeq (sExpr (eMt1 mAppend (eVar 1) (eTup (aCons (eInt 0) (aCons (eInt 2) (aCons (eInt 1) aNil)))))) (sSeq (sExpr (eMt1 mAppend (eVar 0) (eCall 85 (aCons (eTup (aCons (eInt 4) (aCons (eTup (aCons (eTup (aCons (eInt 0) (aCons (eInt 1) aNil))) (aCons (eTup (aCons (eInt 0) (aCons (eInt 2) aNil))) (aCons (eTup (aCons (eInt 1) (aCons (eInt 2) aNil))) (aCons (eTup (aCons (eInt 2) (aCons (eInt 3) aNil))) aNil))))) aNil))) (aCons (eTup (aCons (eTup (aCons (eInt 0) (aCons (eInt 1) aNil))) (aCons (eTup (aCons (eInt 2) aNil)) (aCons (eTup (aCons (eInt 3) aNil)) aNil)))) aNil))))) (sSeq (sExpr (eMt1 mAppend (eVar 1) (eTup (aCons (eTup (aCons (eInt 1) (aCons (eInt 1) (aCons (eInt 0) aNil)))) (aCons (eTup (aCons (eInt 2) (aCons (eInt 0) (aCons (eInt 1) aNil)))) (aCons (eTup (aCons (eInt 0) (aCons (eInt 1) (aCons (eInt 0) aNil)))) aNil)))))) (sSeq (sExpr (eMt1 mAppend (eVar 0) (eCall 86 (aCons (eTup (aCons (eInt 4) (aCons (eTup (aCons (eTup (aCons (eInt 0) (aCons (eInt 1) aNil))) (aCons (eTup (aCons (eInt 0) (aCons (eInt 2) aNil))) (aCons (eTup (aCons (eInt 1) (aCons (eInt 2) aNil))) (aCons (eTup (aCons (eInt 2) (aCons (eInt 3) aNil))) aNil))))) aNil))) (aCons (eTup (aCons (eTup (aCons (eInt 0) (aCons (eInt 1) aNil))) (aCons (eTup (aCons (eInt 2) aNil)) (aCons (eTup (aCons (eInt 3) aNil)) aNil)))) aNil))))) (sSeq (sExpr (eMt1 mAppend (eVar 1) (eTup (aCons (eInt 1) (aCons (eNeg (eInt 3)) (aCons (eNeg (eInt 1)) (aCons (eInt 1) aNil))))))) (sSeq (sExpr (eMt1 mAppend (eVar 0) (eCall 87 (aCons (eTup (aCons (eInt 4) (aCons (eTup (aCons (eTup (aCons (eInt 0) (aCons (eInt 1) aNil))) (aCons (eTup (aCons (eInt 0) (aCons (eInt 2) aNil))) (aCons (eTup (aCons (eInt 1) (aCons (eInt 2) aNil))) (aCons (eTup (aCons (eInt 2) (aCons (eInt 3) aNil))) aNil))))) aNil))) (aCons (eTup (aCons (eTup (aCons (eInt 0) (aCons (eInt 1) aNil))) (aCons (eTup (aCons (eInt 2) aNil)) (aCons (eTup (aCons (eInt 3) aNil)) aNil)))) aNil))))) (sSeq (sExpr (eMt1 mAppend (eVar 1) (eTup (aCons (eInt 1) (aCons (eInt 1) aNil))))) (sSeq (sExpr (eMt1 mAppend (eVar 0) (eCall 90 (aCons (eTup (aCons (eInt 4) (aCons (eTup (aCons (eTup (aCons (eInt 0) (aCons (eInt 1) aNil))) (aCons (eTup (aCons (eInt 0) (aCons (eInt 2) aNil))) (aCons (eTup (aCons (eInt 1) (aCons (eInt 2) aNil))) (aCons (eTup (aCons (eInt 2) (aCons (eInt 3) aNil))) aNil))))) aNil))) (aCons (eInt 0) aNil))))) (sSeq (sExpr (eMt1 mAppend (eVar 1) (eTup (aCons (eTup (aCons (eInt 0) aNil)) (aCons (eTup (aCons (eInt 1) (aCons (eInt 2) aNil))) (aCons (eTup (aCons (eInt 3) aNil)) aNil)))))) (sSeq (sExpr (eMt1 mAppend (eVar 0) (eCall 83 (aCons (eTup (aCons (eInt 4) (aCons (eTup (aCons (eTup (aCons (eInt 0) (aCons (eInt 1) aNil))) (aCons (eTup (aCons (eInt 0) (aCons (eInt 3) aNil))) (aCons (eTup (aCons (eInt 1) (aCons (eInt 2) aNil))) (aCons (eTup (aCons (eInt 2) (aCons (eInt 3) aNil))) aNil))))) aNil))) (aCons (eTup (aCons (eTup (aCons (eInt 0) aNil)) (aCons (eTup (aCons (eInt 1) (aCons (eInt 2) (aCons (eInt 3) aNil)))) aNil))) aNil))))) (sSeq (sExpr (eMt1 mAppend (eVar 1) (eTup (aCons (eTup (aCons (eInt 0) aNil)) (aCons (eTup (aCons (eInt 1) (aCons (eInt 3) aNil))) (aCons (eTup (aCons (eInt 2) aNil)) aNil)))))) (sSeq (sExpr (eMt1 mAppend (eVar 0) (eCall 88 (aCons (eTup (aCons (eInt 4) (aCons (eTup (aCons (eTup (aCons (eInt 0) (aCons (eInt 1) aNil))) (aCons (eTup (aCons (eInt 0) (aCons (eInt 2) aNil))) (aCons (eTup (aCons (eInt 1) (aCons (eInt 2) aNil))) (aCons (eTup (aCons (eInt 2) (aCons (eInt 3) aNil))) aNil))))) aNil))) (aCons (eTup (aCons (eTup (aCons (eInt 0) (aCons (eInt 1) aNil))) (aCons (eTup (aCons (eInt 2) aNil)) (aCons (eTup (aCons (eInt 3) aNil)) aNil)))) (aCons (eInt 2) aNil)))))) (sSeq (sExpr (eMt1 mAppend (eVar 1) (eTup (aCons (eTup (aCons (eInt 3) (aCons (eInt 1) (aCons (eInt 1) aNil)))) (aCons (eTup (aCons (eInt 2) (aCons (eInt 3) (aCons (eInt 0) aNil)))) (aCons (eTup (aCons (eInt 2) (aCons (eInt 0) (aCons (eInt 1) aNil)))) aNil)))))) (sSeq (sExpr (eMt1 mAppend (eVar 0) (eCall 89 (aCons (eTup (aCons (eInt 4) (aCons (eTup (aCons (eTup (aCons (eInt 0) (aCons (eInt 1) aNil))) (aCons (eTup (aCons (eInt 0) (aCons (eInt 2) aNil))) (aCons (eTup (aCons (eInt 1) (aCons (eInt 2) aNil))) (aCons (eTup (aCons (eInt 2) (aCons (eInt 3) aNil))) aNil))))) aNil))) (aCons (eInt 4) aNil))))) (sSeq (sExpr (eMt1 mAppend (eVar 1) (eTup (aCons (eInt 4) (aCons (eInt 8) (aCons (eInt 18) (aCons (eInt 38) aNil))))))) (sRet (eCall 144 (aCons (eVar 0) (aCons (eVar 1) aNil)))))))))))))))))))))))))
/-- _law_even_known_b_right -/
def f153 : FD := .mk 0 (.u (.u .nil)) 0 (sSeq (sPar (gsCons (gN 0) (gsCons (gN 1) gsNil)) (aCons (eLst aNil) (aCons (eLst aNil) aNil))) (sSeq (sExpr (eMt1 mAppend (eVar 0) (eCall 91 (aCons (eTup (aCons (eInt 4) (aCons (eTup (aCons (eTup (aCons (eInt 0) (aCons (eInt 1) aNil))) (aCons (eTup (aCons (eInt 0) (aCons (eInt 2) aNil))) (aCons (eTup (aCons (eInt 1) (aCons (eInt 2) aNil))) (aCons (eTup (aCons (eInt 2) (aCons (eInt 3) aNil))) aNil))))) aNil))) (aCons (eInt 0) (aCons (eInt 1) aNil)))))) (sSeq (sExpr (eMt1 mAppend (eVar 1) (eCst (.bl true)))) (sSeq (sExpr (eMt1 mAppend (eVar 0) (eCall 92 (aCons (eTup (aCons (eInt 6) (aCons (eTup (aCons (eTup (aCons (eInt 0) (aCons (eInt 1) aNil))) (aCons (eTup (aCons (eInt 0) (aCons (eInt 2) aNil))) (aCons (eTup (aCons (eInt 1) (aCons (eInt 2) aNil))) (aCons (eTup (aCons (eInt 3) (aCons (eInt 4) aNil))) (aCons (eTup (aCons (eInt 3) (aCons (eInt 5) aNil))) (aCons (eTup (aCons (eInt 4) (aCons (eInt 5) aNil))) aNil))))))) aNil))) (aCons (eTup (aCons (eInt 6) (aCons (eTup (aCons (eTup (aCons (eInt 0) (aCons (eInt 1) aNil))) (aCons (eTup (aCons (eInt 0) (aCons (eInt 5) aNil))) (aCons (eTup (aCons (eInt 1) (aCons (eInt 2) aNil))) (aCons (eTup (aCons (eInt 2) (aCons (eInt 3) aNil))) (aCons (eTup (aCons (eInt 3) (aCons (eInt 4) aNil))) (aCons (eTup (aCons (eInt 4) (aCons (eInt 5) aNil))) aNil))))))) aNil))) aNil))))) (sSeq (sExpr (eMt1 mAppend (eVar 1) (eCst (.bl true)))) (sSeq (sExpr (eMt1 mAppend (eVar 0) (eCall 84 (aCons (eTup (aCons (eInt 0) (aCons (eTup aNil) aNil))) aNil)))) (sSeq (sExpr (eMt1 mAppend (eVar 1) (eTup aNil))) (sSeq (sExpr (eMt1 mAppend (eVar 0) (eCall 93 (aCons (eTup (aCons (eInt 2) (aCons (eTup aNil) aNil))) aNil)))) (sSeq (sExpr (eMt1 mAppend (eVar 1) (eLst (aCons (eTup (aCons (eTup (aCons (eInt 0) aNil)) (aCons (eTup (aCons (eInt 1) aNil)) aNil))) (aCons (eTup (aCons (eTup (aCons (eInt 0) (aCons (eInt 1) aNil))) aNil)) aNil))))) (sSeq (sExpr (eMt1 mAppend (eVar 0) (eCall 80 (aCons (eTup (aCons (eInt 0) (aCons (eTup aNil) aNil))) (aCons (eTup aNil) aNil))))) (sSeq (sExpr (eMt1 mAppend (eVar 1) (eCst (.bl true)))) (sSeq (sExpr (eMt1 mAppend (eVar 0) (eCall 86 (aCons (eTup (aCons (eInt 0) (aCons (eTup aNil) aNil))) (aCons (eTup aNil) aNil))))) (sSeq (sExpr (eMt1 mAppend (eVar 1) (eTup (aCons (eInt 1) aNil)))) (sSeq (sExpr (eMt1 mAppend (eVar 0) (eCall 79 (aCons (eTup (aCons (eInt 2) (aCons (eTup aNil) aNil))) (aCons (eTup (aCons (eTup (aCons (eInt 0) aNil)) (aCons (eTup (aCons (eInt 1) aNil)) aNil))) aNil))))) (sSeq (sExpr (eMt1 mAppend (eVar 1) (eCst (.bl true)))) (sSeq (sExpr (eMt1 mAppend (eVar 0) (eCall 79 (aCons (eTup (aCons (eInt 2) (aCons (eTup aNil) aNil))) (aCons (eTup (aCons (eTup (aCons (eInt 1) aNil)) (aCons (eTup (aCons (eInt 0) aNil)) aNil))) aNil))))) (sSeq (sExpr (eMt1 mAppend (eVar 1) (eCst (.bl false)))) (sRet (eCall 144 (aCons (eVar 0) (aCons (eVar 1) aNil)))))))))))))))))))))
/-- _law_regular_so_right -/
def f154 : FD := .mk 0 (.u (.u .nil)) 0 (sSeq (sPar (gsCons (gN 0) (gsCons (gN 1) gsNil)) (aCons (eLst aNil) (aCons (eLst aNil) aNil))) (sSeq (sExpr (eMt1 mAppend (eVar 0) (eCallK 127 [0] aNil (aCons (eTup (aCons (eInt 5) (aCons (eTup (aCons (eTup (aCons (eInt 0) (aCons (eInt 1) aNil))) (aCons (eTup (aCons (eInt 0) (aCons (eInt 4) aNil))) (aCons (eTup (aCons (eInt 1) (aCons (eInt 2) aNil))) (aCons (eTup (aCons (eInt 2) (aCons (eInt 3) aNil))) (aCons (eTup (aCons (eInt 3) (aCons (eInt 4) aNil))) aNil)))))) aNil))) aNil)))) (sSeq (sExpr (eMt1 mAppend (eVar 1) (eCall 127 (aCons (eTup (aCons (eInt 5) (aCons (eTup (aCons (eTup (aCons (eInt 0) (aCons (eInt 1) aNil))) (aCons (eTup (aCons (eInt 0) (aCons (eInt 4) aNil))) (aCons (eTup (aCons (eInt 1) (aCons (eInt 2) aNil))) (aCons (eTup (aCons (eInt 2) (aCons (eInt 3) aNil))) (aCons (eTup (aCons (eInt 3) (aCons (eInt 4) aNil))) aNil)))))) aNil))) aNil)))) (sSeq (sExpr (eMt1 mAppend (eVar 0) (eCallK 129 [0] aNil (aCons (eTup (aCons (eInt 3) (aCons (eTup (aCons (eTup (aCons (eInt 0) (aCons (eInt 1) aNil))) (aCons (eTup (aCons (eInt 0) (aCons (eInt 2) aNil))) (aCons (eTup (aCons (eInt 1) (aCons (eInt 2) aNil))) aNil)))) aNil))) aNil)))) (sSeq (sExpr (eMt1 mAppend (eVar 1) (eCall 129 (aCons (eTup (aCons (eInt 3) (aCons (eTup (aCons (eTup (aCons (eInt 0) (aCons (eInt 1) aNil))) (aCons (eTup (aCons (eInt 0) (aCons (eInt 2) aNil))) (aCons (eTup (aCons (eInt 1) (aCons (eInt 2) aNil))) aNil)))) aNil))) aNil)))) (sSeq (sExpr (eMt1 mAppend (eVar 0) (eCallK 128 [1, 0] aNil (aCons (eTup (aCons (eTup (aCons (eNeg (eInt 1)) (aCons (eInt 1) (aCons (eInt 1) aNil)))) (aCons (eInt 1) aNil))) (aCons (eTup (aCons (eInt 5) (aCons (eTup (aCons (eTup (aCons (eInt 0) (aCons (eInt 1) aNil))) (aCons (eTup (aCons (eInt 0) (aCons (eInt 4) aNil))) (aCons (eTup (aCons (eInt 1) (aCons (eInt 2) aNil))) (aCons (eTup (aCons (eInt 2) (aCons (eInt 3) aNil))) (aCons (eTup (aCons (eInt 3) (aCons (eInt 4) aNil))) aNil)))))) aNil))) aNil))))) (sSeq (sExpr (eMt1 mAppend (eVar 1) (eCall 128 (aCons (eTup (aCons (eInt 5) (aCons (eTup (aCons (eTup (aCons (eInt 0) (aCons (eInt 1) aNil))) (aCons (eTup (aCons (eInt 0) (aCons (eInt 4) aNil))) (aCons (eTup (aCons (eInt 1) (aCons (eInt 2) aNil))) (aCons (eTup (aCons (eInt 2) (aCons (eInt 3) aNil))) (aCons (eTup (aCons (eInt 3) (aCons (eInt 4) aNil))) aNil)))))) aNil))) (aCons (eTup (aCons (eTup (aCons (eNeg (eInt 1)) (aCons (eInt 1) (aCons (eInt 1) aNil)))) (aCons (eInt 1) aNil))) aNil))))) (sSeq (sExpr (eMt1 mAppend (eVar 0) (eCallK 131 [0] aNil (aCons (eTup (aCons (eInt 5) (aCons (eTup (aCons (eTup (aCons (eInt 0) (aCons (eInt 1) aNil))) (aCons (eTup (aCons (eInt 0) (aCons (eInt 4) aNil))) (aCons (eTup (aCons (eInt 1) (aCons (eInt 2) aNil))) (aCons (eTup (aCons (eInt 2) (aCons (eInt 3) aNil))) (aCons (eTup (aCons (eInt 3) (aCons (eInt 4) aNil))) aNil)))))) aNil))) aNil)))) (sSeq (sExpr (eMt1 mAppend (eVar 1) (eCall 131 (aCons (eTup (aCons (eInt 5) (aCons (eTup (aCons (eTup (aCons (eInt 0) (aCons (eInt 1) aNil))) (aCons (eTup (aCons (eInt 0) (aCons (eInt 4) aNil))) (aCons (eTup (aCons (eInt 1) (aCons (eInt 2) aNil))) (aCons (eTup (aCons (eInt 2) (aCons (eInt 3) aNil))) (aCons (eTup (aCons (eInt 3) (aCons (eInt 4) aNil))) aNil)))))) aNil))) aNil)))) (sSeq (sExpr (eMt1 mAppend (eVar 0) (eCallK 132 [0] aNil (aCons (eTup (aCons (eInt 2) (aCons (eTup (aCons (eTup (aCons (eInt 0) (aCons (eInt 1) aNil))) aNil)) aNil))) aNil)))) (sSeq (sExpr (eMt1 mAppend (eVar 1) (eCall 132 (aCons (eTup (aCons (eInt 2) (aCons (eTup (aCons (eTup (aCons (eInt 0) (aCons (eInt 1) aNil))) aNil)) aNil))) aNil)))) (sSeq (sExpr (eMt1 mAppend (eVar 0) (eCallK 133 [0] aNil (aCons (eTup (aCons (eInt 5) (aCons (eTup (aCons (eTup (aCons (eInt 0) (aCons (eInt 1) aNil))) (aCons (eTup (aCons (eInt 0) (aCons (eInt 4) aNil))) (aCons (eTup (aCons (eInt 1) (aCons (eInt 2) aNil))) (aCons (eTup (aCons (eInt 2) (aCons (eInt 3) aNil))) (aCons (eTup (aCons (eInt 3) (aCons (eInt 4) aNil))) aNil)))))) aNil))) aNil)))) (sSeq (sExpr (eMt1 mAppend (eVar 1) (eCall 133 (aCons (eTup (aCons (eInt 5) (aCons (eTup (aCons (eTup (aCons (eInt 0) (aCons (eInt 1) aNil))) (aCons (eTup (aCons (eInt 0) (aCons (eInt 4) aNil))) (aCons (eTup (aCons (eInt 1) (aCons (eInt 2) aNil))) (aCons (eTup (aCons (eInt 2) (aCons (eInt 3) aNil))) (aCons (eTup (aCons (eInt 3) (aCons (eInt 4) aNil))) aNil)))))) aNil))) aNil)))) (sSeq (sExpr (eMt1 mAppend (eVar 0) (eCallK 134 [1, 0] aNil (aCons (eTup (aCons (eInt 2) (aCons (eTup (aCons (eTup (aCons (eInt 0) (aCons (eInt 1) aNil))) aNil)) aNil))) (aCons (eTup (aCons (eInt 1) (aCons (eTup aNil) aNil))) aNil))))) (sSeq (sExpr (eMt1 mAppend (eVar 1) (eCall 134 (aCons (eTup (aCons (eInt 1) (aCons (eTup aNil) aNil))) (aCons (eTup (aCons (eInt 2) (aCons (eTup (aCons (eTup (aCons (eInt 0) (aCons (eInt 1) aNil))) aNil)) aNil))) aNil))))) (sSeq (sExpr (eMt1 mAppend (eVar 0) (eCallK 140 [0] aNil (aCons (eTup (aCons (eInt 4) (aCons (eTup (aCons (eTup (aCons (eInt 0) (aCons (eInt 1) aNil))) (aCons (eTup (aCons (eInt 0) (aCons (eInt 3) aNil))) (aCons (eTup (aCons (eInt 1) (aCons (eInt 2) aNil))) (aCons (eTup (aCons (eInt 2) (aCons (eInt 3) aNil))) aNil))))) aNil))) aNil)))) (sSeq (sExpr (eMt1 mAppend (eVar 1) (eCall 140 (aCons (eTup (aCons (eInt 4) (aCons (eTup (aCons (eTup (aCons (eInt 0) (aCons (eInt 1) aNil))) (aCons (eTup (aCons (eInt 0) (aCons (eInt 3) aNil))) (aCons (eTup (aCons (eInt 1) (aCons (eInt 2) aNil))) (aCons (eTup (aCons (eInt 2) (aCons (eInt 3) aNil))) aNil))))) aNil))) aNil)))) (sRet (eCall 144 (aCons (eVar 0) (aCons (eVar 1) aNil)))))))))))))))))))))
/-- _law_regular_b_right -/
def f155 : FD := .mk 0 (.u (.u .nil)) 0 (sSeq (sPar (gsCons (gN 0) (gsCons (gN 1) gsNil)) (aCons (eLst aNil) (aCons (eLst aNil) aNil))) (sSeq (sExpr (eMt1 mAppend (eVar 0) (eCallK 136 [0] aNil (aCons (eTup (aCons (eInt 4) (aCons (eTup (aCons (eTup (aCons (eInt 0) (aCons (eInt 1) aNil))) (aCons (eTup (aCons (eInt 2) (aCons (eInt 3) aNil))) aNil))) aNil))) aNil)))) (sSeq (sExpr (eMt1 mAppend (eVar 1) (eCall 136 (aCons (eTup (aCons (eInt 4) (aCons (eTup (aCons (eTup (aCons (eInt 0) (aCons (eInt 1) aNil))) (aCons (eTup (aCons (eInt 2) (aCons (eInt 3) aNil))) aNil))) aNil))) aNil)))) (sSeq (sExpr (eMt1 mAppend (eVar 0) (eCallK 137 [0] aNil (aCons (eTup (aCons (eInt 4) (aCons (eTup (aCons (eTup (aCons (eInt 0) (aCons (eInt 1) aNil))) (aCons (eTup (aCons (eInt 2) (aCons (eInt 3) aNil))) aNil))) aNil))) aNil)))) (sSeq (sExpr (eMt1 mAppend (eVar 1) (eCall 137 (aCons (eTup (aCons (eInt 4) (aCons (eTup (aCons (eTup (aCons (eInt 0) (aCons (eInt 1) aNil))) (aCons (eTup (aCons (eInt 2) (aCons (eInt 3) aNil))) aNil))) aNil))) aNil)))) (sSeq (sExpr (eMt1 mAppend (eVar 0) (eCallK 141 [0] aNil (aCons (eTup (aCons (eInt 5) (aCons (eTup (aCons (eTup (aCons (eInt 0) (aCons (eInt 1) aNil))) (aCons (eTup (aCons (eInt 0) (aCons (eInt 4) aNil))) (aCons (eTup (aCons (eInt 1) (aCons (eInt 2) aNil))) (aCons (eTup (aCons (eInt 2) (aCons (eInt 3) aNil))) (aCons (eTup (aCons (eInt 3) (aCons (eInt 4) aNil))) aNil)))))) aNil))) aNil)))) (sSeq (sExpr (eMt1 mAppend (eVar 1) (eCall 141 (aCons (eTup (aCons (eInt 5) (aCons (eTup (aCons (eTup (aCons (eInt 0) (aCons (eInt 1) aNil))) (aCons (eTup (aCons (eInt 0) (aCons (eInt 4) aNil))) (aCons (eTup (aCons (eInt 1) (aCons (eInt 2) aNil))) (aCons (eTup (aCons (eInt 2) (aCons (eInt 3) aNil))) (aCons (eTup (aCons (eInt 3) (aCons (eInt 4) aNil))) aNil)))))) aNil))) aNil)))) (sSeq (sExpr (eMt1 mAppend (eVar 0) (eCallK 135 [1, 0] aNil (aCons (eInt 5) (aCons (eTup (aCons (eNeg (eInt 2)) (aCons (eInt 5) (aCons (eInt 0) (aCons (eNeg (eInt 5)) (aCons (eInt 0) (aCons (eInt 1) aNil))))))) aNil))))) (sSeq (sExpr (eMt1 mAppend (eVar 1) (eCall 135 (aCons (eTup (aCons (eNeg (eInt 2)) (aCons (eInt 5) (aCons (eInt 0) (aCons (eNeg (eInt 5)) (aCons (eInt 0) (aCons (eInt 1) aNil))))))) (aCons (eInt 5) aNil))))) (sSeq (sExpr (eMt1 mAppend (eVar 0) (eCallK 138 [1, 0] aNil (aCons (eInt 3) (aCons (eInt 5) aNil))))) (sSeq (sExpr (eMt1 mAppend (eVar 1) (eCall 138 (aCons (eInt 5) (aCons (eInt 3) aNil))))) (sSeq (sExpr (eMt1 mAppend (eVar 0) (eCallK 139 [1, 0] aNil (aCons (eInt 3) (aCons (eInt 4) aNil))))) (sSeq (sExpr (eMt1 mAppend (eVar 1) (eCall 139 (aCons (eInt 4) (aCons (eInt 3) aNil))))) (sRet (eCall 144 (aCons (eVar 0) (aCons (eVar 1) aNil)))))))))))))))))
/-- _law_regular_known_a_right -/
def f156 : FD := .mk 0 (.u (.u .nil)) 0 (sSeq (sPar (gsCons (gN 0) (gsCons (gN 1) gsNil)) (aCons (eLst aNil) (aCons (eLst aNil) aNil))) (sSeq (sExpr (eMt1 mAppend (eVar 0) (eCall 127 (aCons (eTup (aCons (eInt 5) (aCons (eTup (aCons (eTup (aCons (eInt 0) (aCons (eInt 1) aNil))) (aCons (eTup (aCons (eInt 0) (aCons (eInt 4) aNil))) (aCons (eTup (aCons (eInt 1) (aCons (eInt 2) aNil))) (aCons (eTup (aCons (eInt 2) (aCons (eInt 3) aNil))) (aCons (eTup (aCons (eInt 3) (aCons (eInt 4) aNil))) aNil)))))) aNil))) aNil)))) (sSeq (sExpr (eMt1 mAppend (eVar 1) (eTup (aCons (eTup (aCons (eNeg (eInt 5)) (aCons (eInt 5) (aCons (eInt 5) aNil)))) (aCons (eInt 5) aNil))))) (sSeq (sExpr (eMt1 mAppend (eVar 0) (eCall 129 (aCons (eTup (aCons (eInt 3) (aCons (eTup (aCons (eTup (aCons (eInt 0) (aCons (eInt 1) aNil))) (aCons (eTup (aCons (eInt 0) (aCons (eInt 2) aNil))) (aCons (eTup (aCons (eInt 1) (aCons (eInt 2) aNil))) aNil)))) aNil))) aNil)))) (sSeq (sExpr (eMt1 mAppend (eVar 1) (eTup (aCons (eTup (aCons (eInt 1) (aCons (eInt 1) aNil))) (aCons (eInt 1) aNil))))) (sSeq (sExpr (eMt1 mAppend (eVar 0) (eCall 131 (aCons (eTup (aCons (eInt 5) (aCons (eTup (aCons (eTup (aCons (eInt 0) (aCons (eInt 1) aNil))) (aCons (eTup (aCons (eInt 0) (aCons (eInt 4) aNil))) (aCons (eTup (aCons (eInt 1) (aCons (eInt 2) aNil))) (aCons (eTup (aCons (eInt 2) (aCons (eInt 3) aNil))) (aCons (eTup (aCons (eInt 3) (aCons (eInt 4) aNil))) aNil)))))) aNil))) aNil)))) (sSeq (sExpr (eMt1 mAppend (eVar 1) (eTup (aCons (eNeg (eInt 2)) (aCons (eInt 5) (aCons (eInt 0) (aCons (eNeg (eInt 5)) (aCons (eInt 0) (aCons (eInt 1) aNil))))))))) (sSeq (sExpr (eMt1 mAppend (eVar 0) (eCall 140 (aCons (eTup (aCons (eInt 4) (aCons (eTup (aCons (eTup (aCons (eInt 0) (aCons (eInt 1) aNil))) (aCons (eTup (aCons (eInt 0) (aCons (eInt 3) aNil))) (aCons (eTup (aCons (eInt 1) (aCons (eInt 2) aNil))) (aCons (eTup (aCons (eInt 2) (aCons (eInt 3) aNil))) aNil))))) aNil))) aNil)))) (sSeq (sExpr (eMt1 mAppend (eVar 1) (eTup (aCons (eInt 0) (aCons (eInt 1) aNil))))) (sSeq (sExpr (eMt1 mAppend (eVar 0) (eCall 135 (aCons (eTup (aCons (eNeg (eInt 2)) (aCons (eInt 5) (aCons (eInt 0) (aCons (eNeg (eInt 5)) (aCons (eInt 0) (aCons (eInt 1) aNil))))))) (aCons (eInt 5) aNil))))) (sSeq (sExpr (eMt1 mAppend (eVar 1) (eCst (.bl true)))) (sSeq (sExpr (eMt1 mAppend (eVar 0) (eCall 135 (aCons (eTup (aCons (eInt 0) (aCons (eNeg (eInt 2)) (aCons (eInt 0) (aCons (eInt 1) aNil))))) (aCons (eInt 3) aNil))))) (sSeq (sExpr (eMt1 mAppend (eVar 1) (eCst (.bl false)))) (sSeq (sExpr (eMt1 mAppend (eVar 0) (eCall 133 (aCons (eTup (aCons (eInt 5) (aCons (eTup (aCons (eTup (aCons (eInt 0) (aCons (eInt 1) aNil))) (aCons (eTup (aCons (eInt 0) (aCons (eInt 4) aNil))) (aCons (eTup (aCons (eInt 1) (aCons (eInt 2) aNil))) (aCons (eTup (aCons (eInt 2) (aCons (eInt 3) aNil))) (aCons (eTup (aCons (eInt 3) (aCons (eInt 4) aNil))) aNil)))))) aNil))) aNil)))) (sSeq (sExpr (eMt1 mAppend (eVar 1) (eTup (aCons (eNeg (eInt 2)) (aCons (eInt 5) (aCons (eInt 0) (aCons (eNeg (eInt 5)) (aCons (eInt 0) (aCons (eInt 1) aNil))))))))) (sSeq (sExpr (eMt1 mAppend (eVar 0) (eCall 134 (aCons (eTup (aCons (eInt 1) (aCons (eTup aNil) aNil))) (aCons (eTup (aCons (eInt 2) (aCons (eTup (aCons (eTup (aCons (eInt 0) (aCons (eInt 1) aNil))) aNil)) aNil))) aNil))))) (sSeq (sExpr (eMt1 mAppend (eVar 1) (eTup (aCons (eNeg (eInt 2)) (aCons (eNeg (eInt 3)) (aCons (eInt 0) (aCons (eInt 1) aNil))))))) (sSeq (sExpr (eMt1 mAppend (eVar 0) (eCall 132 (aCons (eTup (aCons (eInt 2) (aCons (eTup (aCons (eTup (aCons (eInt 0) (aCons (eInt 1) aNil))) aNil)) aNil))) aNil)))) (sSeq (sExpr (eMt1 mAppend (eVar 1) (eTup (aCons (eInt 0) (aCons (eNeg (eInt 2)) (aCons (eInt 1) aNil)))))) (sSeq (sExpr (eMt1 mAppend (eVar 0) (eCall 139 (aCons (eInt 4) (aCons (eInt 3) aNil))))) (sSeq (sExpr (eMt1 mAppend (eVar 1) (eTup (aCons (eInt 4) (aCons (eTup (aCons (eTup (aCons (eInt 0) (aCons (eInt 1) aNil))) (aCons (eTup (aCons (eInt 0) (aCons (eInt 2) aNil))) (aCons (eTup (aCons (eInt 0) (aCons (eInt 3) aNil))) (aCons (eTup (aCons (eInt 1) (aCons (eInt 2) aNil))) (aCons (eTup (aCons (eInt 1) (aCons (eInt 3) aNil))) (aCons (eTup (aCons (eInt 2) (aCons (eInt 3) aNil))) aNil))))))) aNil))))) (sRet (eCall 144 (aCons (eVar 0) (aCons (eVar 1) aNil)))))))))))))))))))))))))
/-- _law_regular_known_b_right -/
def f157 : FD := .mk 0 (.u (.u .nil)) 0 (sSeq (sPar (gsCons (gN 0) (gsCons (gN 1) gsNil)) (aCons (eLst aNil) (aCons (eLst aNil) aNil))) (sSeq (sExpr (eMt1 mAppend (eVar 0) (eCall 138 (aCons (eInt 5) (aCons (eInt 3) aNil))))) (sSeq (sExpr (eMt1 mAppend (eVar 1) (eCst .non))) (sSeq (sExpr (eMt1 mAppend (eVar 0) (eCall 128 (aCons (eTup (aCons (eInt 5) (aCons (eTup (aCons (eTup (aCons (eInt 0) (aCons (eInt 1) aNil))) (aCons (eTup (aCons (eInt 0) (aCons (eInt 4) aNil))) (aCons (eTup (aCons (eInt 1) (aCons (eInt 2) aNil))) (aCons (eTup (aCons (eInt 2) (aCons (eInt 3) aNil))) (aCons (eTup (aCons (eInt 3) (aCons (eInt 4) aNil))) aNil)))))) aNil))) (aCons (eTup (aCons (eTup (aCons (eNeg (eInt 1)) (aCons (eInt 1) (aCons (eInt 1) aNil)))) (aCons (eInt 1) aNil))) aNil))))) (sSeq (sExpr (eMt1 mAppend (eVar 1) (eCst (.bl true)))) (sSeq (sExpr (eMt1 mAppend (eVar 0) (eCall 136 (aCons (eTup (aCons (eInt 4) (aCons (eTup (aCons (eTup (aCons (eInt 0) (aCons (eInt 1) aNil))) (aCons (eTup (aCons (eInt 2) (aCons (eInt 3) aNil))) aNil))) aNil))) aNil)))) (sSeq (sExpr (eMt1 mAppend (eVar 1) (eCst (.bl false)))) (sSeq (sExpr (eMt1 mAppend (eVar 0) (eCall 137 (aCons (eTup (aCons (eInt 4) (aCons (eTup (aCons (eTup (aCons (eInt 0) (aCons (eInt 1) aNil))) (aCons (eTup (aCons (eInt 2) (aCons (eInt 3) aNil))) aNil))) aNil))) aNil)))) (sSeq (sExpr (eMt1 mAppend (eVar 1) (eCst (.bl true)))) (sSeq (sExpr (eMt1 mAppend (eVar 0) (eCall 127 (aCons (eTup (aCons (eInt 1) (aCons (eTup aNil) aNil))) aNil)))) (sSeq (sExpr (eMt1 mAppend (eVar 1) (eTup (aCons (eTup (aCons (eInt 1) aNil)) (aCons (eInt 1) aNil))))) (sSeq (sExpr (eMt1 mAppend (eVar 0) (eCall 131 (aCons (eTup (aCons (eInt 2) (aCons (eTup aNil) aNil))) aNil)))) (sSeq (sExpr (eMt1 mAppend (eVar 1) (eTup (aCons (eNeg (eInt 1)) (aCons (eInt 0) (aCons (eInt 1) aNil)))))) (sSeq (sExpr (eMt1 mAppend (eVar 0) (eCall 139 (aCons (eInt 0) (aCons (eInt 0) aNil))))) (sSeq (sExpr (eMt1 mAppend (eVar 1) (eTup (aCons (eInt 0) (aCons (eTup aNil) aNil))))) (sSeq (sExpr (eMt1 mAppend (eVar 0) (eCall 138 (aCons (eInt 3) (aCons (eInt 0) aNil))))) (sSeq (sExpr (eMt1 mAppend (eVar 1) (eInt 0))) (sSeq (sExpr (eMt1 mAppend (eVar 0) (eCall 140 (aCons (eTup (aCons (eInt 1) (aCons (eTup aNil) aNil))) aNil)))) (sSeq (sExpr (eMt1 mAppend (eVar 1) (eTup (aCons (eInt 0) (aCons (eInt 0) aNil))))) (sRet (eCall 144 (aCons (eVar 0) (aCons (eVar 1) aNil)))))))))))))))))))))))
def F : FT := (.node 84 f84 (.node 44 f44 (.node 25 f25 (.node 16 f16 (.node 10 f10 (.node 8 f8 (.node 7 f7 (.node 6 f6 .nil .nil) .nil) (.node 9 f9 .nil .nil)) (.node 12 f12 (.node 11 f11 .nil .nil) (.node 13 f13 .nil .nil))) (.node 21 f21 (.node 19 f19 (.node 18 f18 (.node 17 f17 .nil .nil) .nil) (.node 20 f20 .nil .nil)) (.node 23 f23 (.node 22 f22 .nil .nil) (.node 24 f24 .nil .nil)))) (.node 34 f34 (.node 30 f30 (.node 28 f28 (.node 27 f27 (.node 26 f26 .nil .nil) .nil) (.node 29 f29 .nil .nil)) (.node 32 f32 (.node 31 f31 .nil .nil) (.node 33 f33 .nil .nil))) (.node 40 f40 (.node 38 f38 (.node 35 f35 .nil .nil) (.node 39 f39 .nil .nil)) (.node 42 f42 (.node 41 f41 .nil .nil) (.node 43 f43 .nil .nil))))) (.node 65 f65 (.node 54 f54 (.node 50 f50 (.node 47 f47 (.node 46 f46 (.node 45 f45 .nil .nil) .nil) (.node 48 f48 .nil .nil)) (.node 52 f52 (.node 51 f51 .nil .nil) (.node 53 f53 .nil .nil))) (.node 59 f59 (.node 57 f57 (.node 56 f56 (.node 55 f55 .nil .nil) .nil) (.node 58 f58 .nil .nil)) (.node 61 f61 (.node 60 f60 .nil .nil) (.node 64 f64 .nil .nil)))) (.node 76 f76 (.node 72 f72 (.node 69 f69 (.node 68 f68 (.node 67 f67 .nil .nil) .nil) (.node 71 f71 .nil .nil)) (.node 74 f74 (.node 73 f73 .nil .nil) (.node 75 f75 .nil .nil))) (.node 80 f80 (.node 78 f78 (.node 77 f77 .nil .nil) (.node 79 f79 .nil .nil)) (.node 82 f82 (.node 81 f81 .nil .nil) (.node 83 f83 .nil .nil)))))) (.node 121 f121 (.node 103 f103 (.node 93 f93 (.node 89 f89 (.node 87 f87 (.node 86 f86 (.node 85 f85 .nil .nil) .nil) (.node 88 f88 .nil .nil)) (.node 91 f91 (.node 90 f90 .nil .nil) (.node 92 f92 .nil .nil))) (.node 99 f99 (.node 97 f97 (.node 96 f96 (.node 94 f94 .nil .nil) .nil) (.node 98 f98 .nil .nil)) (.node 101 f101 (.node 100 f100 .nil .nil) (.node 102 f102 .nil .nil)))) (.node 113 f113 (.node 109 f109 (.node 107 f107 (.node 106 f106 (.node 104 f104 .nil .nil) .nil) (.node 108 f108 .nil .nil)) (.node 111 f111 (.node 110 f110 .nil .nil) (.node 112 f112 .nil .nil))) (.node 117 f117 (.node 115 f115 (.node 114 f114 .nil .nil) (.node 116 f116 .nil .nil)) (.node 119 f119 (.node 118 f118 .nil .nil) (.node 120 f120 .nil .nil))))) (.node 139 f139 (.node 131 f131 (.node 127 f127 (.node 124 f124 (.node 123 f123 (.node 122 f122 .nil .nil) .nil) (.node 126 f126 .nil .nil)) (.node 129 f129 (.node 128 f128 .nil .nil) (.node 130 f130 .nil .nil))) (.node 135 f135 (.node 133 f133 (.node 132 f132 .nil .nil) (.node 134 f134 .nil .nil)) (.node 137 f137 (.node 136 f136 .nil .nil) (.node 138 f138 .nil .nil)))) (.node 150 f150 (.node 146 f146 (.node 144 f144 (.node 141 f141 (.node 140 f140 .nil .nil) .nil) (.node 145 f145 .nil .nil)) (.node 148 f148 (.node 147 f147 .nil .nil) (.node 149 f149 .nil .nil))) (.node 154 f154 (.node 152 f152 (.node 151 f151 .nil .nil) (.node 153 f153 .nil .nil)) (.node 156 f156 (.node 155 f155 .nil .nil) (.node 157 f157 .nil .nil)))))))
def d_is_number : Df := ⟨"is_number", "is_number", 6, ["thing"], ["thing"], top 6⟩
def d_is_from : Df := ⟨"is_from", "is_from", 7, ["thing", "least"], ["thing", "least"], top 7⟩
def d_is_long : Df := ⟨"is_long", "is_long", 8, ["thing", "length"], ["thing", "length"], top 8⟩
def d_tupled : Df := ⟨"tupled", "tupled", 9, ["value"], ["value", ".0", "own"], top 9⟩
def d_ascends : Df := ⟨"ascends", "ascends", 10, ["row"], ["row", ".0", "k"], top 10⟩
def d_are_numbers : Df := ⟨"are_numbers", "are_numbers", 11, ["thing"], ["thing", ".0", "own"], top 11⟩
def d_is_row_below : Df := ⟨"is_row_below", "is_row_below", 12, ["thing", "many"], ["thing", "many", ".0", "own"], top 12⟩
def d_is_set_below : Df := ⟨"is_set_below", "is_set_below", 13, ["thing", "many"], ["thing", "many"], top 13⟩
def d_cut_line : Df := ⟨"cut_line", "cut_line", 16, ["row"], ["row", "last"], top 16⟩
def d_is_line_in : Df := ⟨"is_line_in", "is_line_in", 17, ["thing"], ["thing"], top 17⟩
def d_sure_line : Df := ⟨"sure_line", "sure_line", 18, ["line"], ["line", "own"], top 18⟩
def d_added : Df := ⟨"added", "added", 19, ["one", "other", "often"], ["one", "other", "often", "wide", "near", "far", ".0", "left", "right"], top 19⟩
def d_scaled : Df := ⟨"scaled", "scaled", 20, ["line", "number"], ["line", "number", ".0", "own"], top 20⟩
def d_times : Df := ⟨"times", "times", 21, ["one", "other"], ["one", "other", "found", "left", "near", "right", "far"], top 21⟩
def d_often_in : Df := ⟨"often_in", "often_in", 22, ["line", "often"], ["line", "often", "found", "lap"], top 22⟩
def d_value_in : Df := ⟨"value_in", "value_in", 23, ["line", "number"], ["line", "number", "found", "own"], top 23⟩
def d_value_at : Df := ⟨"value_at", "value_at", 24, ["line", "over", "under"], ["line", "over", "under", "found", "power", "own"], top 24⟩
def d_slope_in : Df := ⟨"slope_in", "slope_in", 25, ["line"], ["line", ".0", "at", "own"], top 25⟩
def d_moved_in : Df := ⟨"moved_in", "moved_in", 26, ["line", "number"], ["line", "number", "found", "own"], top 26⟩
def d_about_in : Df := ⟨"about_in", "about_in", 27, ["line"], ["line", ".0", "at", "own"], top 27⟩
def d_put_in : Df := ⟨"put_in", "put_in", 28, ["line", "other"], ["line", "other", "found", "own"], top 28⟩
def d_common_number : Df := ⟨"common_number", "common_number", 29, ["line"], ["line", "found", "own"], top 29⟩
def d_plain_in : Df := ⟨"plain_in", "plain_in", 30, ["line"], ["line", "part", ".0", "own"], top 30⟩
def d_same_signs : Df := ⟨"same_signs", "same_signs", 31, ["line"], ["line", ".0", "own"], top 31⟩
def d_rest_in : Df := ⟨"rest_in", "rest_in", 32, ["one", "other"], ["one", "other", "left", "lead", "far"], top 32⟩
def d_shared_in : Df := ⟨"shared_in", "shared_in", 33, ["one", "other"], ["one", "other", "near", "far"], top 33⟩
def d_quotient_in : Df := ⟨"quotient_in", "quotient_in", 34, ["one", "other"], ["one", "other", "left", "found", "far", "number"], top 34⟩
def d_square_parts_in : Df := ⟨"square_parts_in", "square_parts_in", 35, ["line"], ["line", "found", "often", "own", "common", "left", "more", "told"], top 35⟩
def d_is_tie_in : Df := ⟨"is_tie_in", "is_tie_in", 38, ["many", "thing"], ["many", "thing"], top 38⟩
def d_is_web_in : Df := ⟨"is_web_in", "is_web_in", 39, ["thing"], ["thing", ".0", "tie"], top 39⟩
def d_sure_web : Df := ⟨"sure_web", "sure_web", 40, ["web"], ["web", "own"], top 40⟩
def d_tie_of : Df := ⟨"tie_of", "tie_of", 41, ["one", "other"], ["one", "other"], top 41⟩
def d_near_in : Df := ⟨"near_in", "near_in", 42, ["web"], ["web", "found", "one", "other", ".0", "place", "own"], top 42⟩
def d_clique_in : Df := ⟨"clique_in", "clique_in", 43, ["many"], ["many", ".0", "one", "other"], top 43⟩
def d_turned_in : Df := ⟨"turned_in", "turned_in", 44, ["web"], ["web", "there", ".0", "tie"], top 44⟩
def d_part_in : Df := ⟨"part_in", "part_in", 45, ["web", "some"], ["web", "some", "names", "at", "place", "ties", ".0", "one", "other"], top 45⟩
def d_lots_in : Df := ⟨"lots_in", "lots_in", 46, ["web"], ["web", "near", "seen", "found", "place", "lot", "row", "other"], top 46⟩
def d_sides_in : Df := ⟨"sides_in", "sides_in", 47, ["web"], ["web", "near", "found", "lot", "row", "step", "place", "other"], top 47⟩
def d_odd_ring_in : Df := ⟨"odd_ring_in", "odd_ring_in", 48, ["web"], ["web", "best", "near", "start", "behind", "row", "step", "place", "side", "other", "ring", "now"], top 48⟩
def d_is_table_in : Df := ⟨"is_table_in", "is_table_in", 50, ["thing"], ["thing", ".0", "row"], top 50⟩
def d_one_in : Df := ⟨"one_in", "one_in", 51, ["many"], ["many", ".0", "one", "other"], top 51⟩
def d_product_in : Df := ⟨"product_in", "product_in", 52, ["one", "other"], ["one", "other", "turned", ".0", "row", "column", "left", "right"], top 52⟩
def d_sum_in : Df := ⟨"sum_in", "sum_in", 53, ["one", "other", "often"], ["one", "other", "often", ".0", "near", "far", "left", "right"], top 53⟩
def d_trace_in : Df := ⟨"trace_in", "trace_in", 54, ["table"], ["table", ".0", "at", "row"], top 54⟩
def d_power_in : Df := ⟨"power_in", "power_in", 55, ["table", "often"], ["table", "often", "found", "now", "left", ".0", "row"], top 55⟩
def d_poly_of_table : Df := ⟨"poly_of_table", "poly_of_table", 56, ["table"], ["table", "many", "now", "found", "count", "told", "own"], top 56⟩
def d_step_rows : Df := ⟨"step_rows", "step_rows", 57, ["table"], ["table", "rows", "sign", "ahead", "columns", "at", "wide", "column", "place", "good", "told", "other", ".0", "row"], top 57⟩
def d_rank_in : Df := ⟨"rank_in", "rank_in", 58, ["table"], ["table"], top 58⟩
def d_ties_table_in : Df := ⟨"ties_table_in", "ties_table_in", 59, ["web"], ["web", "found", "one", "other", ".0", "place"], top 59⟩
def d_rows_of : Df := ⟨"rows_of", "rows_of", 60, ["table"], ["table", ".0", "row"], top 60⟩
def d_line_at_table : Df := ⟨"line_at_table", "line_at_table", 61, ["line", "table"], ["line", "table", "found", "number", ".0", "row"], top 61⟩
def d_sure_few : Df := ⟨"sure_few", "sure_few", 64, ["web"], ["web", "own"], top 64⟩
def d_poly_in : Df := ⟨"poly_in", "poly_in", 65, ["web"], ["web"], top 65⟩
def d_step_in : Df := ⟨"step_in", "step_in", 67, ["near", "row"], ["near", "row", ".0", "own", "other"], top 67⟩
def d_totals_in : Df := ⟨"totals_in", "totals_in", 68, ["web", "count"], ["web", "count", "near", "row", "found", "lap"], top 68⟩
def d_least_line_in : Df := ⟨"least_line_in", "least_line_in", 69, ["web"], ["web", "found", "own", "_"], top 69⟩
def d_are_lots_in : Df := ⟨"are_lots_in", "are_lots_in", 71, ["many", "thing"], ["many", "thing", ".0", "lot", "place"], top 71⟩
def d_sure_lots : Df := ⟨"sure_lots", "sure_lots", 72, ["web", "lots"], ["web", "lots", "own"], top 72⟩
def d_lot_names : Df := ⟨"lot_names", "lot_names", 73, ["lots"], ["lots", "found", "at", "lot", "place"], top 73⟩
def d_counts_in : Df := ⟨"counts_in", "counts_in", 74, ["near", "lots"], ["near", "lots", "names", "found", "own", "row", "other"], top 74⟩
def d_is_even_in : Df := ⟨"is_even_in", "is_even_in", 75, ["web", "lots"], ["web", "lots", "rows", ".0", "lot", "place"], top 75⟩
def d_refined_in : Df := ⟨"refined_in", "refined_in", 76, ["web", "lots"], ["web", "lots", "near", "now", "lap", "rows", "later", "lot", "kinds", "place", ".0", "kind"], top 76⟩
def d_quotient_table_in : Df := ⟨"quotient_table_in", "quotient_table_in", 77, ["web", "lots"], ["web", "lots", "rows", ".0", "lot"], top 77⟩
def d_sure_even : Df := ⟨"sure_even", "sure_even", 78, ["web", "lots"], ["web", "lots", "own", "told"], top 78⟩
def d_are_lots : Df := ⟨"are_lots", "are_lots", 79, ["web", "thing"], ["web", "thing"], top 79⟩
def d_is_even : Df := ⟨"is_even", "is_even", 80, ["web", "lots"], ["web", "lots", "own"], top 80⟩
def d_why_not_even : Df := ⟨"why_not_even", "why_not_even", 81, ["web", "lots"], ["web", "lots", "own", "told", "rows", "found", "lot", "at", "one", "other", ".0", "lap"], top 81⟩
def d_is_why_not_even : Df := ⟨"is_why_not_even", "is_why_not_even", 82, ["web", "lots", "thing"], ["web", "lots", "thing", "own", "told", "rows", "names"], top 82⟩
def d_even_within : Df := ⟨"even_within", "even_within", 83, ["web", "lots"], ["web", "lots", "own"], top 83⟩
def d_coarsest_even : Df := ⟨"coarsest_even", "coarsest_even", 84, ["web"], ["web", "own"], top 84⟩
def d_quotient_table : Df := ⟨"quotient_table", "quotient_table", 85, ["web", "lots"], ["web", "lots", "own", "told"], top 85⟩
def d_quotient_poly : Df := ⟨"quotient_poly", "quotient_poly", 86, ["web", "lots"], ["web", "lots", "own", "told"], top 86⟩
def d_rest_poly : Df := ⟨"rest_poly", "rest_poly", 87, ["web", "lots"], ["web", "lots", "own", "told"], top 87⟩
def d_quotient_walks : Df := ⟨"quotient_walks", "quotient_walks", 88, ["web", "lots", "length"], ["web", "lots", "length", "own", "told"], top 88⟩
def d_totals_by_lots : Df := ⟨"totals_by_lots", "totals_by_lots", 89, ["web", "count"], ["web", "count", "own", "lots", "table", "row", "found", "lap", ".0", "lot", "number", "told", "often"], top 89⟩
def d_by_distance : Df := ⟨"by_distance", "by_distance", 90, ["web", "place"], ["web", "place", "own", "near", "steps", "row", "step", "now", "other", "lots", ".0", "key"], top 90⟩
def d_are_as_even : Df := ⟨"are_as_even", "are_as_even", 91, ["web", "one", "other"], ["web", "one", "other", "own", "place", "names"], top 91⟩
def d_same_even : Df := ⟨"same_even", "same_even", 92, ["one", "other"], ["one", "other", "near", "far", "both", "lot", ".0", "left", "right", "place"], top 92⟩
def d_even_lots : Df := ⟨"even_lots", "even_lots", 93, ["web"], ["web", "own", "rows", "place", "later", "row", ".0", "at", "lot"], top 93⟩
def d_totals_plain : Df := ⟨"totals_plain", "totals_plain", 94, ["web", "count"], ["web", "count", "own"], top 94⟩
def d_sure_rooted : Df := ⟨"sure_rooted", "sure_rooted", 96, ["line"], ["line", "own"], top 96⟩
def d_sturm_row : Df := ⟨"sturm_row", "sturm_row", 97, ["line"], ["line", "found"], top 97⟩
def d_sign_of : Df := ⟨"sign_of", "sign_of", 98, ["number"], ["number"], top 98⟩
def d_changes_in : Df := ⟨"changes_in", "changes_in", 99, ["signs"], ["signs", "row", ".0", "own", "at"], top 99⟩
def d_signs_at : Df := ⟨"signs_at", "signs_at", 100, ["row", "share"], ["row", "share", ".0", "own"], top 100⟩
def d_signs_far : Df := ⟨"signs_far", "signs_far", 101, ["row", "side"], ["row", "side", ".0", "own"], top 101⟩
def d_plain_above : Df := ⟨"plain_above", "plain_above", 102, ["line", "share"], ["line", "share", "row"], top 102⟩
def d_above_in : Df := ⟨"above_in", "above_in", 103, ["line", "share"], ["line", "share", ".0", "own", "often"], top 103⟩
def d_turn_about : Df := ⟨"turn_about", "turn_about", 104, ["line"], ["line", "own", "told"], top 104⟩
def d_sure_sided : Df := ⟨"sure_sided", "sure_sided", 106, ["web"], ["web", "own", "sides"], top 106⟩
def d_half_in : Df := ⟨"half_in", "half_in", 107, ["web", "sides"], ["web", "sides", "near", "left", "right", ".0", "place", "other"], top 107⟩
def d_squares_in : Df := ⟨"squares_in", "squares_in", 108, ["table"], ["table", ".0", "row"], top 108⟩
def d_spread_in : Df := ⟨"spread_in", "spread_in", 109, ["line"], ["line", "found", "own"], top 109⟩
def d_half_table : Df := ⟨"half_table", "half_table", 110, ["web"], ["web", "own", "sides"], top 110⟩
def d_sides_of : Df := ⟨"sides_of", "sides_of", 111, ["web"], ["web", "own", "sides", ".0", "side", "place"], top 111⟩
def d_web_of_half : Df := ⟨"web_of_half", "web_of_half", 112, ["table"], ["table", "own", "wide", "ties", ".0", "row", "number", "one", "other"], top 112⟩
def d_square_poly : Df := ⟨"square_poly", "square_poly", 113, ["web"], ["web", "own", "sides"], top 113⟩
def d_poly_by_half : Df := ⟨"poly_by_half", "poly_by_half", 114, ["web"], ["web", "own", "sides", "many", "told", "far"], top 114⟩
def d_half_rank : Df := ⟨"half_rank", "half_rank", 115, ["web"], ["web", "own", "sides", "table"], top 115⟩
def d_roots_turn : Df := ⟨"roots_turn", "roots_turn", 116, ["web"], ["web"], top 116⟩
def d_doubled_web : Df := ⟨"doubled_web", "doubled_web", 117, ["web"], ["web", "own", "ties", "one", "other"], top 117⟩
def d_doubled_parts : Df := ⟨"doubled_parts", "doubled_parts", 118, ["web"], ["web", "own", ".0", "lot"], top 118⟩
def d_two_steps : Df := ⟨"two_steps", "two_steps", 119, ["web", "side"], ["web", "side", "own", "sides", "table", "turned", "many", ".0", "row", "told", "place"], top 119⟩
def d_is_sides : Df := ⟨"is_sides", "is_sides", 120, ["web", "thing"], ["web", "thing", "own", ".0", "side", "one", "other"], top 120⟩
def d_all_sides : Df := ⟨"all_sides", "all_sides", 121, ["web"], ["web", "own", "sides", "rows", "lot", ".0", "row", "place", "side"], top 121⟩
def d_square_share : Df := ⟨"square_share", "square_share", 122, ["web"], ["web", "line", "low", ".0", "at", "own"], top 122⟩
def d_shortest_odd : Df := ⟨"shortest_odd", "shortest_odd", 123, ["web"], ["web", "ring"], top 123⟩
def d_sides_poly : Df := ⟨"sides_poly", "sides_poly", 124, ["one", "other"], ["one", "other", "many"], top 124⟩
def d_sure_regular : Df := ⟨"sure_regular", "sure_regular", 126, ["web"], ["web", "own", "rows", ".0", "row"], top 126⟩
def d_all_line : Df := ⟨"all_line", "all_line", 127, ["web"], ["web", "own", "many", "line"], top 127⟩
def d_is_all_line : Df := ⟨"is_all_line", "is_all_line", 128, ["web", "thing"], ["web", "thing", "own", ".0", "told", "row"], top 128⟩
def d_thinned_all_line : Df := ⟨"thinned_all_line", "thinned_all_line", 129, ["web"], ["web", "line", "number", "part", "own", ".0"], top 129⟩
def d_turned_poly_in : Df := ⟨"turned_poly_in", "turned_poly_in", 130, ["line", "many", "degree"], ["line", "many", "degree", "sign", "own"], top 130⟩
def d_turned_poly : Df := ⟨"turned_poly", "turned_poly", 131, ["web"], ["web", "own", "degree"], top 131⟩
def d_less_poly_told : Df := ⟨"less_poly_told", "less_poly_told", 132, ["web"], ["web", "own", "degree", "sign"], top 132⟩
def d_line_poly_told : Df := ⟨"line_poly_told", "line_poly_told", 133, ["web"], ["web", "own", "degree", "ties", "told"], top 133⟩
def d_joined_poly : Df := ⟨"joined_poly", "joined_poly", 134, ["one", "other"], ["one", "other", "near", "far", "left", "right", "both", "rest"], top 134⟩
def d_is_regular_line : Df := ⟨"is_regular_line", "is_regular_line", 135, ["line", "many"], ["line", "many", "own", "twice", ".0", "told"], top 135⟩
def d_is_one_part_line : Df := ⟨"is_one_part_line", "is_one_part_line", 136, ["web"], ["web", "own", "degree", "told"], top 136⟩
def d_is_turned_one_part : Df := ⟨"is_turned_one_part", "is_turned_one_part", 137, ["web"], ["web", "own", "degree", "left", "told"], top 137⟩
def d_regular_webs_ties : Df := ⟨"regular_webs_ties", "regular_webs_ties", 138, ["many", "degree"], ["many", "degree"], top 138⟩
def d_ring_steps : Df := ⟨"ring_steps", "ring_steps", 139, ["many", "degree"], ["many", "degree", "ties", "place", "step"], top 139⟩
def d_short_counts : Df := ⟨"short_counts", "short_counts", 140, ["web"], ["web", "own", "degree", "line", "ties", "threes", "pairs"], top 140⟩
def d_same_turned : Df := ⟨"same_turned", "same_turned", 141, ["web"], ["web", "own", "degree"], top 141⟩
def d__law_same : Df := ⟨"_law_same", "_law_same", 144, ["got", "due"], ["got", "due", ".0", "mine", "its"], top 144⟩
def d__law_halves_so_right : Df := ⟨"_law_halves_so_right", "_law_halves_so_right", 145, [], ["got", "due"], top 145⟩
def d__law_halves_b_right : Df := ⟨"_law_halves_b_right", "_law_halves_b_right", 146, [], ["got", "due"], top 146⟩
def d__law_halves_known_a_right : Df := ⟨"_law_halves_known_a_right", "_law_halves_known_a_right", 147, [], ["got", "due"], top 147⟩
def d__law_halves_known_b_right : Df := ⟨"_law_halves_known_b_right", "_law_halves_known_b_right", 148, [], ["got", "due"], top 148⟩
def d__law_halves_known_c_right : Df := ⟨"_law_halves_known_c_right", "_law_halves_known_c_right", 149, [], ["got", "due"], top 149⟩
def d__law_even_so_right : Df := ⟨"_law_even_so_right", "_law_even_so_right", 150, [], ["got", "due"], top 150⟩
def d__law_even_b_right : Df := ⟨"_law_even_b_right", "_law_even_b_right", 151, [], ["got", "due"], top 151⟩
def d__law_even_known_a_right : Df := ⟨"_law_even_known_a_right", "_law_even_known_a_right", 152, [], ["got", "due"], top 152⟩
def d__law_even_known_b_right : Df := ⟨"_law_even_known_b_right", "_law_even_known_b_right", 153, [], ["got", "due"], top 153⟩
def d__law_regular_so_right : Df := ⟨"_law_regular_so_right", "_law_regular_so_right", 154, [], ["got", "due"], top 154⟩
def d__law_regular_b_right : Df := ⟨"_law_regular_b_right", "_law_regular_b_right", 155, [], ["got", "due"], top 155⟩
def d__law_regular_known_a_right : Df := ⟨"_law_regular_known_a_right", "_law_regular_known_a_right", 156, [], ["got", "due"], top 156⟩
def d__law_regular_known_b_right : Df := ⟨"_law_regular_known_b_right", "_law_regular_known_b_right", 157, [], ["got", "due"], top 157⟩
def ds : List Df := [d_is_number, d_is_from, d_is_long, d_tupled, d_ascends, d_are_numbers, d_is_row_below, d_is_set_below, d_cut_line, d_is_line_in, d_sure_line, d_added, d_scaled, d_times, d_often_in, d_value_in, d_value_at, d_slope_in, d_moved_in, d_about_in, d_put_in, d_common_number, d_plain_in, d_same_signs, d_rest_in, d_shared_in, d_quotient_in, d_square_parts_in, d_is_tie_in, d_is_web_in, d_sure_web, d_tie_of, d_near_in, d_clique_in, d_turned_in, d_part_in, d_lots_in, d_sides_in, d_odd_ring_in, d_is_table_in, d_one_in, d_product_in, d_sum_in, d_trace_in, d_power_in, d_poly_of_table, d_step_rows, d_rank_in, d_ties_table_in, d_rows_of, d_line_at_table, d_sure_few, d_poly_in, d_step_in, d_totals_in, d_least_line_in, d_are_lots_in, d_sure_lots, d_lot_names, d_counts_in, d_is_even_in, d_refined_in, d_quotient_table_in, d_sure_even, d_are_lots, d_is_even, d_why_not_even, d_is_why_not_even, d_even_within, d_coarsest_even, d_quotient_table, d_quotient_poly, d_rest_poly, d_quotient_walks, d_totals_by_lots, d_by_distance, d_are_as_even, d_same_even, d_even_lots, d_totals_plain, d_sure_rooted, d_sturm_row, d_sign_of, d_changes_in, d_signs_at, d_signs_far, d_plain_above, d_above_in, d_turn_about, d_sure_sided, d_half_in, d_squares_in, d_spread_in, d_half_table, d_sides_of, d_web_of_half, d_square_poly, d_poly_by_half, d_half_rank, d_roots_turn, d_doubled_web, d_doubled_parts, d_two_steps, d_is_sides, d_all_sides, d_square_share, d_shortest_odd, d_sides_poly, d_sure_regular, d_all_line, d_is_all_line, d_thinned_all_line, d_turned_poly_in, d_turned_poly, d_less_poly_told, d_line_poly_told, d_joined_poly, d_is_regular_line, d_is_one_part_line, d_is_turned_one_part, d_regular_webs_ties, d_ring_steps, d_short_counts, d_same_turned, d__law_same, d__law_halves_so_right, d__law_halves_b_right, d__law_halves_known_a_right, d__law_halves_known_b_right, d__law_halves_known_c_right, d__law_even_so_right, d__law_even_b_right, d__law_even_known_a_right, d__law_even_known_b_right, d__law_regular_so_right, d__law_regular_b_right, d__law_regular_known_a_right, d__law_regular_known_b_right]
def gi : Gi := ⟨true, false, [152, 194, 329], [("MOST_PLACES_polys", 20), ("MOST_PLACES_webs", 40), ("MOST_LONG", 41)], [], []⟩

end Rk
end
section
set_option Elab.async false
set_option linter.all false
set_option maxRecDepth 1000000
set_option maxHeartbeats 0
namespace Rk
open PySem PySem.Spec PyProof.Rows L2
def fn : List He.DefD := fnL ds (top 158) (top 143)
def fa : List He.Fa := faL ds gi
abbrev Rw : PySem.W.OpenRow := PySem.W.OpenLaw.row PySem.Challenge.rw_walktallies_k79_names_of_parameters_halv
noncomputable abbrev hk : PySem.W.Hook := hookG gi.cmb fa fn
def loose : List Str := (["gcd", "CanNot", "TooMany", "Unfit", "is_number", "is_from", "is_long", "tupled", "ascends", "are_numbers", "is_row_below", "is_set_below", "MOST_LONG", "cut_line", "is_line_in", "sure_line", "added", "scaled", "times", "often_in", "value_in", "value_at", "slope_in", "moved_in", "about_in", "put_in", "common_number", "plain_in", "same_signs", "rest_in"] : List Str) ++ (["shared_in", "quotient_in", "square_parts_in", "MOST_PLACES_webs", "is_tie_in", "is_web_in", "sure_web", "tie_of", "near_in", "clique_in", "turned_in", "part_in", "lots_in", "sides_in", "odd_ring_in", "is_table_in", "one_in", "product_in", "sum_in", "trace_in", "power_in", "poly_of_table", "step_rows", "rank_in", "ties_table_in", "rows_of", "line_at_table", "MOST_PLACES_polys", "sure_few", "poly_in"] : List Str) ++ (["step_in", "totals_in", "least_line_in", "are_lots_in", "sure_lots", "lot_names", "counts_in", "is_even_in", "refined_in", "quotient_table_in", "sure_even", "are_lots", "is_even", "why_not_even", "is_why_not_even", "even_within", "coarsest_even", "quotient_table", "quotient_poly", "rest_poly", "quotient_walks", "totals_by_lots", "by_distance", "are_as_even", "same_even", "even_lots", "totals_plain", "sure_rooted", "sturm_row", "sign_of"] : List Str) ++ (["changes_in", "signs_at", "signs_far", "plain_above", "above_in", "turn_about", "sure_sided", "half_in", "squares_in", "spread_in", "half_table", "sides_of", "web_of_half", "square_poly", "poly_by_half", "half_rank", "roots_turn", "doubled_web", "doubled_parts", "two_steps", "is_sides", "all_sides", "square_share", "shortest_odd", "sides_poly", "sure_regular", "all_line", "is_all_line", "thinned_all_line", "turned_poly_in"] : List Str) ++ (["turned_poly", "less_poly_told", "line_poly_told", "joined_poly", "is_regular_line", "is_one_part_line", "is_turned_one_part", "regular_webs_ties", "ring_steps", "short_counts", "same_turned", "_law_cells", "_law_same", "_law_halves_so_right", "_law_halves_b_right", "_law_halves_known_a_right", "_law_halves_known_b_right", "_law_halves_known_c_right", "_law_even_so_right", "_law_even_b_right", "_law_even_known_a_right", "_law_even_known_b_right", "_law_regular_so_right", "_law_regular_b_right", "_law_regular_known_a_right", "_law_regular_known_b_right"] : List Str)
noncomputable def ob (s : PySem.W.SharedT) : hk.α := obsG gi.cmb fa fn (HandSHeadRun.getT s)
theorem ob_eq (s : PySem.W.SharedT) : ob s = hk.obs s.abs := obsG_eq (HandSHeadRun.getT_eq s)
abbrev vw : Program := PySem.W.view Rw.prog [0, 158]
open HandSHeadRun PySem.W in
theorem run1 (w : World) : (wholeF (fun p => stepQ (denQ tabQ) p w) fenceQ 40000 Rw.prog).map (fun x => staticsOk (importedModules Rw.prog.main.body) x.1.heap x.2.abs.heap && namesBound Rw.prog x.2.abs.heap) = some true := by kernel_rfl
open HandSHeadRun PySem.W in
theorem run2 (w : World) : (wholeF (fun p => stepQ (denQ tabQ) p w) fenceQ 40000 Rw.prog).map (fun x => (gensDone x.2.abs && laidKept x.1.heap x.2.abs.heap, seenQ vw loose (importedModules Rw.prog.main.body) (fun s => xlAt vw [] s && recOk Rw.toRowW.records s) x.2.abs)) = some (true, openGood vw loose) := by kernel_rfl
open HandSHeadRun PySem.W in
theorem run3 (w : World) : (wholeF (fun p => stepQ (denQ tabQ) p w) fenceQ 40000 Rw.prog).map (fun x => (fa.all fun f => f.ok (kF (HandSHeadRun.getT x.2)), sMath gi.cmb (kF (HandSHeadRun.getT x.2)))) = some (true, vMath gi.cmb) := by kernel_rfl
open HandSHeadRun PySem.W in
theorem run4 (w : World) : (wholeF (fun p => stepQ (denQ tabQ) p w) fenceQ 40000 Rw.prog).map (fun x => (fn.take 56).all fun d => d.ok (kF (HandSHeadRun.getT x.2))) = some true := by kernel_rfl
open HandSHeadRun PySem.W in
theorem run5 (w : World) : (wholeF (fun p => stepQ (denQ tabQ) p w) fenceQ 40000 Rw.prog).map (fun x => ((fn.drop 56).take 42).all fun d => d.ok (kF (HandSHeadRun.getT x.2))) = some true := by kernel_rfl
open HandSHeadRun PySem.W in
theorem run6 (w : World) : (wholeF (fun p => stepQ (denQ tabQ) p w) fenceQ 40000 Rw.prog).map (fun x => ((fn.drop 56).drop 42).all fun d => d.ok (kF (HandSHeadRun.getT x.2))) = some true := by kernel_rfl
open HandSHeadRun PySem.W in
theorem run7 (w : World) : (wholeF (fun p => stepQ (denQ tabQ) p w) fenceQ 40000 Rw.prog).map (fun x => fn.map fun d => He.fnW (kF (HandSHeadRun.getT x.2)) d.at_) = some (fn.map He.DefD.val) := by kernel_rfl
theorem run (w : World) : HandSHeadRun.RunEqI Rw vw hk ob 40000 loose w := run_eqI (r := Rw) (q := vw) (cb := gi.cmb) (fa := fa) (fn := fn) (na := 56) (nb := 42) rfl (run1 w) (run2 w) (run3 w) (run4 w) (run5 w) (run6 w) (run7 w)
end Rk
end
section
set_option Elab.async false
set_option linter.all false
set_option maxRecDepth 1000000
set_option maxHeartbeats 0
noncomputable section
namespace Rk
open PySem PySem.Spec PyProof.Rows L2
theorem k_is_number : DfOk (gOf ds gi) F d_is_number := ⟨by kernel_rfl, by kernel_rfl⟩
theorem k_is_from : DfOk (gOf ds gi) F d_is_from := ⟨by kernel_rfl, by kernel_rfl⟩
theorem k_is_long : DfOk (gOf ds gi) F d_is_long := ⟨by kernel_rfl, by kernel_rfl⟩
theorem k_tupled : DfOk (gOf ds gi) F d_tupled := ⟨by kernel_rfl, by kernel_rfl⟩
theorem k_ascends : DfOk (gOf ds gi) F d_ascends := ⟨by kernel_rfl, by kernel_rfl⟩
theorem k_are_numbers : DfOk (gOf ds gi) F d_are_numbers := ⟨by kernel_rfl, by kernel_rfl⟩
theorem k_is_row_below : DfOk (gOf ds gi) F d_is_row_below := ⟨by kernel_rfl, by kernel_rfl⟩
theorem k_is_set_below : DfOk (gOf ds gi) F d_is_set_below := ⟨by kernel_rfl, by kernel_rfl⟩
theorem k_cut_line : DfOk (gOf ds gi) F d_cut_line := ⟨by kernel_rfl, by kernel_rfl⟩
theorem k_is_line_in : DfOk (gOf ds gi) F d_is_line_in := ⟨by kernel_rfl, by kernel_rfl⟩
theorem k_sure_line : DfOk (gOf ds gi) F d_sure_line := ⟨by kernel_rfl, by kernel_rfl⟩
theorem k_added : DfOk (gOf ds gi) F d_added := ⟨by kernel_rfl, by kernel_rfl⟩
theorem k_scaled : DfOk (gOf ds gi) F d_scaled := ⟨by kernel_rfl, by kernel_rfl⟩
theorem k_times : DfOk (gOf ds gi) F d_times := ⟨by kernel_rfl, by kernel_rfl⟩
theorem k_often_in : DfOk (gOf ds gi) F d_often_in := ⟨by kernel_rfl, by kernel_rfl⟩
theorem k_value_in : DfOk (gOf ds gi) F d_value_in := ⟨by kernel_rfl, by kernel_rfl⟩
theorem k_value_at : DfOk (gOf ds gi) F d_value_at := ⟨by kernel_rfl, by kernel_rfl⟩
theorem k_slope_in : DfOk (gOf ds gi) F d_slope_in := ⟨by kernel_rfl, by kernel_rfl⟩
theorem k_moved_in : DfOk (gOf ds gi) F d_moved_in := ⟨by kernel_rfl, by kernel_rfl⟩
theorem k_about_in : DfOk (gOf ds gi) F d_about_in := ⟨by kernel_rfl, by kernel_rfl⟩
theorem k_put_in : DfOk (gOf ds gi) F d_put_in := ⟨by kernel_rfl, by kernel_rfl⟩
theorem k_common_number : DfOk (gOf ds gi) F d_common_number := ⟨by kernel_rfl, by kernel_rfl⟩
theorem k_plain_in : DfOk (gOf ds gi) F d_plain_in := ⟨by kernel_rfl, by kernel_rfl⟩
theorem k_same_signs : DfOk (gOf ds gi) F d_same_signs := ⟨by kernel_rfl, by kernel_rfl⟩
theorem k_rest_in : DfOk (gOf ds gi) F d_rest_in := ⟨by kernel_rfl, by kernel_rfl⟩
theorem k_shared_in : DfOk (gOf ds gi) F d_shared_in := ⟨by kernel_rfl, by kernel_rfl⟩
theorem k_quotient_in : DfOk (gOf ds gi) F d_quotient_in := ⟨by kernel_rfl, by kernel_rfl⟩
theorem k_square_parts_in : DfOk (gOf ds gi) F d_square_parts_in := ⟨by kernel_rfl, by kernel_rfl⟩
theorem k_is_tie_in : DfOk (gOf ds gi) F d_is_tie_in := ⟨by kernel_rfl, by kernel_rfl⟩
theorem k_is_web_in : DfOk (gOf ds gi) F d_is_web_in := ⟨by kernel_rfl, by kernel_rfl⟩
theorem k_sure_web : DfOk (gOf ds gi) F d_sure_web := ⟨by kernel_rfl, by kernel_rfl⟩
theorem k_tie_of : DfOk (gOf ds gi) F d_tie_of := ⟨by kernel_rfl, by kernel_rfl⟩
theorem k_near_in : DfOk (gOf ds gi) F d_near_in := ⟨by kernel_rfl, by kernel_rfl⟩
theorem k_clique_in : DfOk (gOf ds gi) F d_clique_in := ⟨by kernel_rfl, by kernel_rfl⟩
theorem k_turned_in : DfOk (gOf ds gi) F d_turned_in := ⟨by kernel_rfl, by kernel_rfl⟩
theorem k_part_in : DfOk (gOf ds gi) F d_part_in := ⟨by kernel_rfl, by kernel_rfl⟩
theorem k_lots_in : DfOk (gOf ds gi) F d_lots_in := ⟨by kernel_rfl, by kernel_rfl⟩
theorem k_sides_in : DfOk (gOf ds gi) F d_sides_in := ⟨by kernel_rfl, by kernel_rfl⟩
theorem k_odd_ring_in : DfOk (gOf ds gi) F d_odd_ring_in := ⟨by kernel_rfl, by kernel_rfl⟩
theorem k_is_table_in : DfOk (gOf ds gi) F d_is_table_in := ⟨by kernel_rfl, by kernel_rfl⟩
theorem k_one_in : DfOk (gOf ds gi) F d_one_in := ⟨by kernel_rfl, by kernel_rfl⟩
theorem k_product_in : DfOk (gOf ds gi) F d_product_in := ⟨by kernel_rfl, by kernel_rfl⟩
theorem k_sum_in : DfOk (gOf ds gi) F d_sum_in := ⟨by kernel_rfl, by kernel_rfl⟩
theorem k_trace_in : DfOk (gOf ds gi) F d_trace_in := ⟨by kernel_rfl, by kernel_rfl⟩
theorem k_power_in : DfOk (gOf ds gi) F d_power_in := ⟨by kernel_rfl, by kernel_rfl⟩
theorem k_poly_of_table : DfOk (gOf ds gi) F d_poly_of_table := ⟨by kernel_rfl, by kernel_rfl⟩
theorem k_step_rows : DfOk (gOf ds gi) F d_step_rows := ⟨by kernel_rfl, by kernel_rfl⟩
theorem k_rank_in : DfOk (gOf ds gi) F d_rank_in := ⟨by kernel_rfl, by kernel_rfl⟩
theorem k_ties_table_in : DfOk (gOf ds gi) F d_ties_table_in := ⟨by kernel_rfl, by kernel_rfl⟩
theorem k_rows_of : DfOk (gOf ds gi) F d_rows_of := ⟨by kernel_rfl, by kernel_rfl⟩
theorem k_line_at_table : DfOk (gOf ds gi) F d_line_at_table := ⟨by kernel_rfl, by kernel_rfl⟩
theorem k_sure_few : DfOk (gOf ds gi) F d_sure_few := ⟨by kernel_rfl, by kernel_rfl⟩
theorem k_poly_in : DfOk (gOf ds gi) F d_poly_in := ⟨by kernel_rfl, by kernel_rfl⟩
theorem k_step_in : DfOk (gOf ds gi) F d_step_in := ⟨by kernel_rfl, by kernel_rfl⟩
theorem k_totals_in : DfOk (gOf ds gi) F d_totals_in := ⟨by kernel_rfl, by kernel_rfl⟩
theorem k_least_line_in : DfOk (gOf ds gi) F d_least_line_in := ⟨by kernel_rfl, by kernel_rfl⟩
theorem k_are_lots_in : DfOk (gOf ds gi) F d_are_lots_in := ⟨by kernel_rfl, by kernel_rfl⟩
theorem k_sure_lots : DfOk (gOf ds gi) F d_sure_lots := ⟨by kernel_rfl, by kernel_rfl⟩
theorem k_lot_names : DfOk (gOf ds gi) F d_lot_names := ⟨by kernel_rfl, by kernel_rfl⟩
theorem k_counts_in : DfOk (gOf ds gi) F d_counts_in := ⟨by kernel_rfl, by kernel_rfl⟩
theorem k_is_even_in : DfOk (gOf ds gi) F d_is_even_in := ⟨by kernel_rfl, by kernel_rfl⟩
theorem k_refined_in : DfOk (gOf ds gi) F d_refined_in := ⟨by kernel_rfl, by kernel_rfl⟩
theorem k_quotient_table_in : DfOk (gOf ds gi) F d_quotient_table_in := ⟨by kernel_rfl, by kernel_rfl⟩
theorem k_sure_even : DfOk (gOf ds gi) F d_sure_even := ⟨by kernel_rfl, by kernel_rfl⟩
theorem k_are_lots : DfOk (gOf ds gi) F d_are_lots := ⟨by kernel_rfl, by kernel_rfl⟩
theorem k_is_even : DfOk (gOf ds gi) F d_is_even := ⟨by kernel_rfl, by kernel_rfl⟩
theorem k_why_not_even : DfOk (gOf ds gi) F d_why_not_even := ⟨by kernel_rfl, by kernel_rfl⟩
theorem k_is_why_not_even : DfOk (gOf ds gi) F d_is_why_not_even := ⟨by kernel_rfl, by kernel_rfl⟩
theorem k_even_within : DfOk (gOf ds gi) F d_even_within := ⟨by kernel_rfl, by kernel_rfl⟩
theorem k_coarsest_even : DfOk (gOf ds gi) F d_coarsest_even := ⟨by kernel_rfl, by kernel_rfl⟩
theorem k_quotient_table : DfOk (gOf ds gi) F d_quotient_table := ⟨by kernel_rfl, by kernel_rfl⟩
theorem k_quotient_poly : DfOk (gOf ds gi) F d_quotient_poly := ⟨by kernel_rfl, by kernel_rfl⟩
theorem k_rest_poly : DfOk (gOf ds gi) F d_rest_poly := ⟨by kernel_rfl, by kernel_rfl⟩
theorem k_quotient_walks : DfOk (gOf ds gi) F d_quotient_walks := ⟨by kernel_rfl, by kernel_rfl⟩
theorem k_totals_by_lots : DfOk (gOf ds gi) F d_totals_by_lots := ⟨by kernel_rfl, by kernel_rfl⟩
theorem k_by_distance : DfOk (gOf ds gi) F d_by_distance := ⟨by kernel_rfl, by kernel_rfl⟩
theorem k_are_as_even : DfOk (gOf ds gi) F d_are_as_even := ⟨by kernel_rfl, by kernel_rfl⟩
theorem k_same_even : DfOk (gOf ds gi) F d_same_even := ⟨by kernel_rfl, by kernel_rfl⟩
theorem k_even_lots : DfOk (gOf ds gi) F d_even_lots := ⟨by kernel_rfl, by kernel_rfl⟩
theorem k_totals_plain : DfOk (gOf ds gi) F d_totals_plain := ⟨by kernel_rfl, by kernel_rfl⟩
theorem k_sure_rooted : DfOk (gOf ds gi) F d_sure_rooted := ⟨by kernel_rfl, by kernel_rfl⟩
theorem k_sturm_row : DfOk (gOf ds gi) F d_sturm_row := ⟨by kernel_rfl, by kernel_rfl⟩
theorem k_sign_of : DfOk (gOf ds gi) F d_sign_of := ⟨by kernel_rfl, by kernel_rfl⟩
theorem k_changes_in : DfOk (gOf ds gi) F d_changes_in := ⟨by kernel_rfl, by kernel_rfl⟩
theorem k_signs_at : DfOk (gOf ds gi) F d_signs_at := ⟨by kernel_rfl, by kernel_rfl⟩
theorem k_signs_far : DfOk (gOf ds gi) F d_signs_far := ⟨by kernel_rfl, by kernel_rfl⟩
theorem k_plain_above : DfOk (gOf ds gi) F d_plain_above := ⟨by kernel_rfl, by kernel_rfl⟩
theorem k_above_in : DfOk (gOf ds gi) F d_above_in := ⟨by kernel_rfl, by kernel_rfl⟩
theorem k_turn_about : DfOk (gOf ds gi) F d_turn_about := ⟨by kernel_rfl, by kernel_rfl⟩
theorem k_sure_sided : DfOk (gOf ds gi) F d_sure_sided := ⟨by kernel_rfl, by kernel_rfl⟩
theorem k_half_in : DfOk (gOf ds gi) F d_half_in := ⟨by kernel_rfl, by kernel_rfl⟩
theorem k_squares_in : DfOk (gOf ds gi) F d_squares_in := ⟨by kernel_rfl, by kernel_rfl⟩
theorem k_spread_in : DfOk (gOf ds gi) F d_spread_in := ⟨by kernel_rfl, by kernel_rfl⟩
theorem k_half_table : DfOk (gOf ds gi) F d_half_table := ⟨by kernel_rfl, by kernel_rfl⟩
theorem k_sides_of : DfOk (gOf ds gi) F d_sides_of := ⟨by kernel_rfl, by kernel_rfl⟩
theorem k_web_of_half : DfOk (gOf ds gi) F d_web_of_half := ⟨by kernel_rfl, by kernel_rfl⟩
theorem k_square_poly : DfOk (gOf ds gi) F d_square_poly := ⟨by kernel_rfl, by kernel_rfl⟩
theorem k_poly_by_half : DfOk (gOf ds gi) F d_poly_by_half := ⟨by kernel_rfl, by kernel_rfl⟩
theorem k_half_rank : DfOk (gOf ds gi) F d_half_rank := ⟨by kernel_rfl, by kernel_rfl⟩
theorem k_roots_turn : DfOk (gOf ds gi) F d_roots_turn := ⟨by kernel_rfl, by kernel_rfl⟩
theorem k_doubled_web : DfOk (gOf ds gi) F d_doubled_web := ⟨by kernel_rfl, by kernel_rfl⟩
theorem k_doubled_parts : DfOk (gOf ds gi) F d_doubled_parts := ⟨by kernel_rfl, by kernel_rfl⟩
theorem k_two_steps : DfOk (gOf ds gi) F d_two_steps := ⟨by kernel_rfl, by kernel_rfl⟩
theorem k_is_sides : DfOk (gOf ds gi) F d_is_sides := ⟨by kernel_rfl, by kernel_rfl⟩
theorem k_all_sides : DfOk (gOf ds gi) F d_all_sides := ⟨by kernel_rfl, by kernel_rfl⟩
theorem k_square_share : DfOk (gOf ds gi) F d_square_share := ⟨by kernel_rfl, by kernel_rfl⟩
theorem k_shortest_odd : DfOk (gOf ds gi) F d_shortest_odd := ⟨by kernel_rfl, by kernel_rfl⟩
theorem k_sides_poly : DfOk (gOf ds gi) F d_sides_poly := ⟨by kernel_rfl, by kernel_rfl⟩
theorem k_sure_regular : DfOk (gOf ds gi) F d_sure_regular := ⟨by kernel_rfl, by kernel_rfl⟩
theorem k_all_line : DfOk (gOf ds gi) F d_all_line := ⟨by kernel_rfl, by kernel_rfl⟩
theorem k_is_all_line : DfOk (gOf ds gi) F d_is_all_line := ⟨by kernel_rfl, by kernel_rfl⟩
theorem k_thinned_all_line : DfOk (gOf ds gi) F d_thinned_all_line := ⟨by kernel_rfl, by kernel_rfl⟩
theorem k_turned_poly_in : DfOk (gOf ds gi) F d_turned_poly_in := ⟨by kernel_rfl, by kernel_rfl⟩
theorem k_turned_poly : DfOk (gOf ds gi) F d_turned_poly := ⟨by kernel_rfl, by kernel_rfl⟩
theorem k_less_poly_told : DfOk (gOf ds gi) F d_less_poly_told := ⟨by kernel_rfl, by kernel_rfl⟩
theorem k_line_poly_told : DfOk (gOf ds gi) F d_line_poly_told := ⟨by kernel_rfl, by kernel_rfl⟩
theorem k_joined_poly : DfOk (gOf ds gi) F d_joined_poly := ⟨by kernel_rfl, by kernel_rfl⟩
theorem k_is_regular_line : DfOk (gOf ds gi) F d_is_regular_line := ⟨by kernel_rfl, by kernel_rfl⟩
theorem k_is_one_part_line : DfOk (gOf ds gi) F d_is_one_part_line := ⟨by kernel_rfl, by kernel_rfl⟩
theorem k_is_turned_one_part : DfOk (gOf ds gi) F d_is_turned_one_part := ⟨by kernel_rfl, by kernel_rfl⟩
theorem k_regular_webs_ties : DfOk (gOf ds gi) F d_regular_webs_ties := ⟨by kernel_rfl, by kernel_rfl⟩
theorem k_ring_steps : DfOk (gOf ds gi) F d_ring_steps := ⟨by kernel_rfl, by kernel_rfl⟩
theorem k_short_counts : DfOk (gOf ds gi) F d_short_counts := ⟨by kernel_rfl, by kernel_rfl⟩
theorem k_same_turned : DfOk (gOf ds gi) F d_same_turned := ⟨by kernel_rfl, by kernel_rfl⟩
theorem k__law_same : DfOk (gOf ds gi) F d__law_same := ⟨by kernel_rfl, by kernel_rfl⟩
theorem k__law_halves_so_right : DfOk (gOf ds gi) F d__law_halves_so_right := ⟨by kernel_rfl, by kernel_rfl⟩
theorem k__law_halves_b_right : DfOk (gOf ds gi) F d__law_halves_b_right := ⟨by kernel_rfl, by kernel_rfl⟩
theorem k__law_halves_known_a_right : DfOk (gOf ds gi) F d__law_halves_known_a_right := ⟨by kernel_rfl, by kernel_rfl⟩
theorem k__law_halves_known_b_right : DfOk (gOf ds gi) F d__law_halves_known_b_right := ⟨by kernel_rfl, by kernel_rfl⟩
theorem k__law_halves_known_c_right : DfOk (gOf ds gi) F d__law_halves_known_c_right := ⟨by kernel_rfl, by kernel_rfl⟩
theorem k__law_even_so_right : DfOk (gOf ds gi) F d__law_even_so_right := ⟨by kernel_rfl, by kernel_rfl⟩
theorem k__law_even_b_right : DfOk (gOf ds gi) F d__law_even_b_right := ⟨by kernel_rfl, by kernel_rfl⟩
theorem k__law_even_known_a_right : DfOk (gOf ds gi) F d__law_even_known_a_right := ⟨by kernel_rfl, by kernel_rfl⟩
theorem k__law_even_known_b_right : DfOk (gOf ds gi) F d__law_even_known_b_right := ⟨by kernel_rfl, by kernel_rfl⟩
theorem k__law_regular_so_right : DfOk (gOf ds gi) F d__law_regular_so_right := ⟨by kernel_rfl, by kernel_rfl⟩
theorem k__law_regular_b_right : DfOk (gOf ds gi) F d__law_regular_b_right := ⟨by kernel_rfl, by kernel_rfl⟩
theorem k__law_regular_known_a_right : DfOk (gOf ds gi) F d__law_regular_known_a_right := ⟨by kernel_rfl, by kernel_rfl⟩
theorem k__law_regular_known_b_right : DfOk (gOf ds gi) F d__law_regular_known_b_right := ⟨by kernel_rfl, by kernel_rfl⟩
end Rk
end
section
set_option linter.all false
set_option maxRecDepth 1000000
set_option maxHeartbeats 0
namespace Rk
open PySem
theorem t__law_halves_so_right : isTrue (callAt F 60 145 [] (.mk 0 .nil)) = true := by kernel_rfl
theorem t__law_halves_b_right : isTrue (callAt F 60 146 [] (.mk 0 .nil)) = true := by kernel_rfl
theorem t__law_halves_known_a_right : isTrue (callAt F 60 147 [] (.mk 0 .nil)) = true := by kernel_rfl
theorem t__law_halves_known_b_right : isTrue (callAt F 60 148 [] (.mk 0 .nil)) = true := by kernel_rfl
theorem t__law_halves_known_c_right : isTrue (callAt F 60 149 [] (.mk 0 .nil)) = true := by kernel_rfl
theorem t__law_even_so_right : isTrue (callAt F 60 150 [] (.mk 0 .nil)) = true := by kernel_rfl
theorem t__law_even_b_right : isTrue (callAt F 60 151 [] (.mk 0 .nil)) = true := by kernel_rfl
theorem t__law_even_known_a_right : isTrue (callAt F 60 152 [] (.mk 0 .nil)) = true := by kernel_rfl
theorem t__law_even_known_b_right : isTrue (callAt F 60 153 [] (.mk 0 .nil)) = true := by kernel_rfl
theorem t__law_regular_so_right : isTrue (callAt F 60 154 [] (.mk 0 .nil)) = true := by kernel_rfl
theorem t__law_regular_b_right : isTrue (callAt F 60 155 [] (.mk 0 .nil)) = true := by kernel_rfl
theorem t__law_regular_known_a_right : isTrue (callAt F 60 156 [] (.mk 0 .nil)) = true := by kernel_rfl
theorem t__law_regular_known_b_right : isTrue (callAt F 60 157 [] (.mk 0 .nil)) = true := by kernel_rfl
end Rk
end
section
set_option linter.all false
set_option autoImplicit false
set_option maxRecDepth 100000
namespace Rk
open PySem PySem.Spec PyProof.Rows L2
/-! ### enumerate over a tuple -/
set_option maxHeartbeats 1000000 in
theorem meets_enum1 {v : Value} {o : Obj} {H : Heap → Prop} (B : Begins v o H) :
    Meets (Builtin.«enumerate.__new__» ⟨[.type "enumerate", v], []⟩) (fun _ R s => H s.heap ∧
      R (.ok (.ret (.ref (s.heap.push o).objs.size))) { s with heap := (s.heap.push o).push { cls := .type "enumerate", data := .fields #[.none, .bool false, .ref s.heap.objs.size, rawInt 0, .none, .none] } }) :=
  .of_wp fun prog w A R s h => by
    obtain ⟨hp, g, d, tk, os⟩ := s; obtain ⟨h1, h⟩ := h
    have hsub := sub_enumerate
    have q1 : ∀ {A' : Around} {E : Value → Shared → Prop} {Q : Value → Shared → Prop}, Q (.ref hp.objs.size) ⟨hp.push o, g, d, tk, os⟩ → wpAny (model prog w) A' (pyIter v) Q E ⟨hp, g, d, tk, os⟩ :=
      fun q => B.iter prog w _ _ ⟨hp, g, d, tk, os⟩ _ h1 q
    wp_walk using q1
    refine wpAny_stack_any fun st => wpAny_pure ?_
    split
    · rename_i c _ _ _ _ _
      cases (c == Value.type "enumerate")
      · wp_walk using q1
        exact ⟨_, rfl, h⟩
      · wp_walk using q1
        exact ⟨_, rfl, h⟩
    · wp_walk using q1
      exact ⟨_, rfl, h⟩
theorem call_enum1 {prog : Program} {w : World} {A : Around} {E : Value → Shared → Prop} {s : Shared} {v : Value} {o : Obj} {H : Heap → Prop} {Q : Value → Shared → Prop} (B : Begins v o H) (h1 : H s.heap)
    (h : ∀ h', IsEnum h' (s.heap.objs.size + 1) s.heap.objs.size 0 .none → h'.get? s.heap.objs.size = some o → h'.objs.size = s.heap.objs.size + 2 →
      (∀ b o, s.heap.get? b = some o → h'.get? b = some o) → Q (.ref (s.heap.objs.size + 1)) { s with heap := h' }) :
    wpAny (model prog w) A (call (.type "enumerate") [v]) Q E s := by
  refine callType_new F.called_enumerate (by decide) (F.typeCall_enumerate_1 _) (F.newCall_enumerate_1 _) (fun obj => F.args_object_init_2 obj _) F.entry_enumerate_new
    (meets_enum1 B) ⟨h1, ?_⟩
  have hz : (s.heap.push o).objs.size = s.heap.objs.size + 1 := Heap.size_push ..
  show _ ∧ _
  rw [hz]
  have he : IsEnum ((s.heap.push o).push { cls := .type "enumerate", data := .fields #[.none, .bool false, .ref s.heap.objs.size, rawInt 0, .none, .none] }) (s.heap.objs.size + 1) s.heap.objs.size 0 .none := by
    have := Heap.get?_push_size (s.heap.push o) (o := { cls := .type "enumerate", data := .fields #[.none, .bool false, .ref s.heap.objs.size, rawInt 0, .none, .none] }) rfl
    rw [hz] at this; exact this
  refine ⟨⟨_, he, rfl⟩, h _ he (Heap.get?_push_of_some _ (Heap.get?_push_size _ B.free)) (by rw [Heap.size_push, hz]) fun b o x => Heap.get?_push_of_some _ (Heap.get?_push_of_some _ x)⟩
/-- at its end -/
theorem draws_end {prog : Program} {w : World} {A : Around} (hh : A.handled = none) (it t : Addr) (i : Nat) {items : Array Value} (hx : items[i]? = none) :
    Draws prog w A it [it, t] i (fun _ _ => False) (fun j h => j = i ∧ h.IsTupleIter it t i ∧ h.IsTuple t items) where
  live := fun _ _ st => let ⟨o, ho, _⟩ := st.2.1; ⟨o, ho⟩
  frame := fun _ _ _ st hk => ⟨st.1, st.2.1.at fun o e => hk it (by simp) o e, st.2.2.at fun o e => hk t (by simp) o e⟩
  item := fun j s Q E hi st hQ => absurd st.1 (Nat.ne_of_lt hi)
  done := fun s Q E st hE => wpAny_nextOf_tuple_end hh st.2.1 st.2.2 hx hE
/-- the tuple at a, each item in a new pair -/
def IteT (K : PySem.W.Frag) (a : Addr) : It :=
  ⟨fun i H => ∃ (xs : List V) (x : V), SqT K H a xs ∧ xs[i]? = some x, fun i H v H' => ∃ T x, v = .ref T ∧ H T = none ∧ H' = upd H T (.tup [.int (i : Nat), x]) ∧ ∀ xs, SqT K H a xs → xs[i]? = some x, fun i H => ∃ xs : List V, SqT K H a xs ∧ xs.length ≤ i⟩
theorem turn_enumT {P : Program} {w : World} {K : PySem.W.Frag} {elts : List Expr} {kk : Nat} {tpos : Pos} (a e it : Addr) :
    Turn P w K (.Tuple elts kk tpos) (IteT K a) [e, it] e (fun i h => (∃ old, IsEnum h e it ((i : Nat) : Int) old) ∧ h.IsTupleIter it a i ∧ e ≠ it ∧ e ≠ a ∧ a ≠ it) where
  mem := by simp
  obj := fun i h st b hb => by
    obtain ⟨⟨old, he⟩, ⟨o, ho, hc, hd⟩, _⟩ := st
    have e' : b = e ∨ b = it := by simpa using hb
    rcases e' with z | z
    · rw [z]; exact ⟨_, he, fun v q => nomatch q⟩
    · rw [z]; exact ⟨o, ho, fun v q => by rw [hd] at q; cases q⟩
  keep := fun i h h' st k => let ⟨⟨old, he⟩, hi, hne⟩ := st; ⟨⟨old, k e (by simp) _ he⟩, hi.at fun o q => k it (by simp) o q, hne⟩
  item := by
    intro X hP hw hK hc i pins s σ H E I hf st hg
    subst hP hw hK
    obtain ⟨⟨old, he⟩, hit, hne, hea, hai⟩ := st
    obtain ⟨xs, x, hq, hx⟩ := hg
    obtain ⟨its, rv, p, hz⟩ := I.tuple hq
    obtain ⟨u, hu, ru⟩ := rv.get hx
    have hil' : i < its.toArray.size := by
      have := (List.getElem?_eq_some_iff.mp hu).1
      simpa using this
    have hel : e < s.heap.objs.size := Heap.lt_size he
    have hil : it < s.heap.objs.size := by obtain ⟨_, q, _⟩ := hit; exact Heap.lt_size q
    have hh : X.A.in1.handled = none := I.ok.hd hc
    refine wpAny_pyNext_enum_itemC (Draws.tuple hh it a hai its.toArray) he ⟨hit, p⟩ hil' hne (by simp [hne, hea]) fun y h' tk hy ho st' hT hsz hk => ?_
    have hyu : y = u := by
      have h1 : its.toArray[i]? = some y := hy
      have h2 : its.toArray[i]? = some u := by simpa using hu
      rw [h1] at h2; exact Option.some.inj h2
    subst hyu
    refine ⟨_, rfl, wpAny_letOwnedTupleGo_enum (s := { s with heap := h', toks := tk + 1 }) ho fun h'' he' sb => ?_⟩
    have hT2 : h''.get? s.heap.objs.size = some { cls := .type "tuple", data := .seq #[.int i tk, y] } := (sb.2 _ (Nat.ne_of_gt hel)).trans hT
    have new : ObjOk X.prog X.w (upd H s.heap.objs.size (.tup [.int (i : Nat), x])) h'' s.heap.objs.size (.tup [.int (i : Nat), x]) :=
      ⟨by show 2 ≤ sizeLine; decide, [.int i tk, y], .cons ⟨_, rfl⟩ (.cons ru .nil), ⟨_, hT2, rfl, _, rfl⟩⟩
    have I1 : Inv X pins σ (upd H s.heap.objs.size (.tup [.int (i : Nat), x])) { s with heap := h'', toks := tk + 1 } :=
      I.turnedNew (ch := [e, it]) (fun b ob hb q => (sb.2 b (fun z => hb (by simp [z]))).trans (hk b ob (fun z => hb (by simp [z])) (fun z => hb (by simp [z])) q)) hf (Nat.le_refl _) new
    refine ⟨.ref s.heap.objs.size, _, I1, rfl, ⟨_, x, rfl, I.hok.fresh (Nat.le_refl _), rfl, fun ys hy => by rw [I.tuple_inj hy hq]; exact hx⟩, ⟨⟨y, ?_⟩, st'.1.at fun o q => (sb.2 it (Ne.symm hne)).trans q, hne, hea, hai⟩, fun b hb => ?_⟩
    · have e1 : ((i + 1 : Nat) : Int) = (i : Int) + 1 := by omega
      rw [e1]; exact he'
    · have hb' : b < s.heap.objs.size := by
        have e' : b = e ∨ b = it := by simpa using hb
        rcases e' with z | z
        · rw [z]; exact hel
        · rw [z]; exact hil
      rw [upd_ne (Nat.ne_of_lt hb')]
      exact (hf b hb).1
  done := by
    intro X hP hw hK hc i pins s σ H E I hf st hg
    subst hP hw hK
    obtain ⟨⟨old, he⟩, hit, hne, hea, hai⟩ := st
    obtain ⟨xs, hq, hx⟩ := hg
    obtain ⟨its, rv, p, hz⟩ := I.tuple hq
    obtain ⟨f0, f1, f2, f3, f4, f5⟩ := hf it (by simp)
    have hl := rv.length
    have hh : X.A.in1.handled = none := I.ok.hd hc
    have hx2 : its.toArray[i]? = none := by simp; omega
    exact wpAny_pyNext_enum_endD (draws_end hh it a i hx2) he ⟨rfl, hit, p⟩ fun h' eb => ⟨rfl, I.turned (t' := s.toks) (fun b o hb q => eb b o hb q) f0 f1 f3 f4 f5⟩
  self := fun A i s Q E st h => let ⟨⟨_, he⟩, _⟩ := st; wpAny_pyIter_enum he h
def iEnumA (K : PySem.W.Frag) (ta : TA) : TI := fun σ H R => ta σ H fun vs H1 => ∃ a xs, vs = [.ref a] ∧ ((SqL K H1 a xs ∧ R (Ite K a) H1) ∨ (SqT K H1 a xs ∧ R (IteT K a) H1))
theorem pi_enumA {X : Cx} {e : Expr} {ta : TA} {p pos tpos : Pos} {elts : List Expr} {kk : Nat} (hg : Gl X "enumerate") (hm : X.mg "enumerate" = none) (ha : PA X [e] ta) (hs : starEach [e] X.env = [(false, eval e X.env)] := by rfl) :
    PI X (.Tuple elts kk tpos) (.Call (.Name "enumerate" p) [e] [] pos) (iEnumA X.K ta) := by
  refine ⟨fun pins s σ H R I h => ?_⟩
  refine Call_ (ld_blt I hg hm boot_enumerate (PyProof.Rows.callWith_type1 (thn (ha.run pos pins s σ H _ I h) fun us s1 ⟨vs, H1, I1, r1, q1⟩ => ?_) hs rfl))
  obtain ⟨a, xs, ex, q1⟩ := q1
  subst ex
  cases r1 with
  | cons r rr =>
    cases rr
    cases r
    have fresh : ∀ b ∈ [s1.heap.objs.size + 1, s1.heap.objs.size], FpOk X pins H1 b := fun b hb => by
      have e' : b = s1.heap.objs.size + 1 ∨ b = s1.heap.objs.size := by simpa using hb
      have hle : s1.heap.objs.size ≤ b := by
        rcases e' with z | z
        · rw [z]; exact Nat.le_add_right _ _
        · rw [z]; exact Nat.le_refl _
      exact I1.fpOk hle (I1.hok.fresh hle)
    rcases q1 with ⟨hq, q⟩ | ⟨hq, q⟩
    · obtain ⟨its, rv, p', hz⟩ := I1.list hq
      refine call_enumerate_list p'.isList fun h' he hit hsz hk => wpAny_pyIter_enum he ?_
      have I2 : Inv X pins σ H1 { s1 with heap := h' } := I1.kept (t' := s1.toks) hk
      exact ⟨s1.heap.objs.size + 1, [s1.heap.objs.size + 1, s1.heap.objs.size], _, _, H1, rfl, I2, turn_enum a (s1.heap.objs.size + 1) s1.heap.objs.size, ⟨⟨.none, he⟩, hit, Nat.succ_ne_self _⟩, fresh, q⟩
    · obtain ⟨its, rv, p', hz⟩ := I1.tuple hq
      have hal : a < s1.heap.objs.size := by obtain ⟨_, z, _⟩ := p'; exact Heap.lt_size z
      refine call_enum1 (begins_tuple a its.toArray) p' fun h' he ho hsz hk => wpAny_pyIter_enum he ?_
      have I2 : Inv X pins σ H1 { s1 with heap := h' } := I1.kept (t' := s1.toks) hk
      exact ⟨s1.heap.objs.size + 1, [s1.heap.objs.size + 1, s1.heap.objs.size], _, _, H1, rfl, I2, turn_enumT a (s1.heap.objs.size + 1) s1.heap.objs.size, ⟨⟨.none, he⟩, ⟨_, ho, rfl, rfl⟩, Nat.succ_ne_self _, Nat.ne_of_gt (Nat.lt_succ_of_lt hal), Nat.ne_of_lt hal⟩, fresh, q⟩
end Rk
end
section
set_option linter.all false
set_option autoImplicit false
set_option maxRecDepth 100000
namespace Rk
open PySem PySem.Spec PyProof.Rows L2
/-! ### t * 1, () * k, t * 0 -/
theorem tup_mul_same (l : Addr) (items : Array Value) (n : Nat) (dd : Option Addr) (sl : Array (Option Value)) (x : Int) (u : Tok) (c0 : (decide (x < -(2 ^ 63)) || decide (x ≥ 2 ^ 63)) = false) (c1 : (items.isEmpty || x == 1) = true) :
    Meets (Builtin.«tuple.__mul__» ⟨[.ref l, .int x u], []⟩) (fun _ R s => s.heap.get? l = some { cls := .type "tuple", dict := dd, data := .seq items n, slots := sl } ∧ R (.ok (.ret (Value.ref l))) s) :=
  .of_wp fun prog w A R s h => by
    obtain ⟨hp, g, d, tk, os⟩ := s
    obtain ⟨hl, h⟩ := h
    have f1 := AutoSeq1.idx_int
    wp_walk using wpAny_loadPart' hl
    repeat (first
      | (refine wpAny_ite_false (decide_eq_false (by rw [c0]; exact Bool.false_ne_true)) ?_; wp_walk using wpAny_loadPart' hl)
      | (rw [if_pos c1]; wp_walk using wpAny_loadPart' hl))
    exact ⟨_, rfl, h⟩
theorem tup_mul_none (l : Addr) (items : Array Value) (n : Nat) (dd : Option Addr) (sl : Array (Option Value)) (x : Int) (u : Tok) (c0 : (decide (x < -(2 ^ 63)) || decide (x ≥ 2 ^ 63)) = false) (c1 : (items.isEmpty || x == 1) = false) (c2 : (decide (x ≤ 0) || items.isEmpty) = true) :
    Meets (Builtin.«tuple.__mul__» ⟨[.ref l, .int x u], []⟩) (fun _ R s => s.heap.get? l = some { cls := .type "tuple", dict := dd, data := .seq items n, slots := sl } ∧
      R (.ok (.ret (Value.ref s.heap.objs.size))) { s with heap := s.heap.push { cls := Value.type "tuple", data := Data.seq #[] } }) :=
  .of_wp fun prog w A R s h => by
    obtain ⟨hp, g, d, tk, os⟩ := s
    obtain ⟨hl, h⟩ := h
    have f1 := AutoSeq1.idx_int
    wp_walk using wpAny_loadPart' hl
    repeat (first
      | (refine wpAny_ite_false (decide_eq_false (by rw [c0]; exact Bool.false_ne_true)) ?_; wp_walk using wpAny_loadPart' hl)
      | (refine wpAny_ite_false (decide_eq_false (by rw [c1]; exact Bool.false_ne_true)) ?_; wp_walk using wpAny_loadPart' hl)
      | (rw [if_pos c2]; wp_walk using wpAny_loadPart' hl))
    exact ⟨_, rfl, h⟩
def rMulT1 (K : PySem.W.Frag) : R2 := fun x y H Q => ∃ l k xs, x = .ref l ∧ y = .int k ∧ SqT K H l xs ∧ -(2 ^ 62) ≤ k ∧ k < 2 ^ 62 ∧ (xs = [] ∨ k = 1) ∧ Q x H
def rMulT0 (K : PySem.W.Frag) : R2 := fun x y H Q => ∃ l k xs, x = .ref l ∧ y = .int k ∧ SqT K H l xs ∧ -(2 ^ 62) ≤ k ∧ k ≤ 0 ∧ xs ≠ [] ∧ ∀ p, H p = none → Q (.ref p) (upd H p (.tup []))
section
variable {X : Cx}
theorem op_mulT1 : OpR X (binaryOp .Mult) (rMulT1 X.K) := by
  intro pins s σ H x y v u Q I rx ry h
  obtain ⟨l, k, xs, rfl, rfl, hT, h1, h2, hx, q⟩ := h
  cases rx
  obtain ⟨t, rfl⟩ := ry
  obtain ⟨its, r, ⟨⟨cls, dd, data, sl⟩, ho, hc, n, hd⟩, hs⟩ := I.tuple hT
  simp only at hc hd
  subst hc hd
  have c0 : (decide (k < -(2 ^ 63)) || decide (k ≥ 2 ^ 63)) = false := by
    rw [decide_eq_false (by omega), decide_eq_false (by omega)]; rfl
  have c1 : (its.toArray.isEmpty || k == 1) = true := by
    rcases hx with rfl | rfl
    · cases r; rfl
    · simp
  exact wpAny_binaryOp_repeat_ref (T := "tuple") (U := "int") (by decide) ⟨_, ho, rfl⟩ (fun s' => typeIs_int s' k t) noFill_tuple_mul F.fills_int_mul F.slot_int_rmul repeat_tuple F.slot_int_index.lookup
    (call_meets F.slot_int_rmul (typeIs_int s k t) F.entry_int_rmul (F.args_int_rmul_2 _ _) (int_rmul_tuple k t l its.toArray n dd sl)
      ⟨ho, rfl, ⟨_, ho, rfl⟩, call_meets F.slot_tuple_mul ⟨_, ho, rfl⟩ F.entry_tuple_mul (F.args_tuple_mul_2 _ _) (tup_mul_same l its.toArray n dd sl k t c0 c1) ⟨ho, ⟨V.ref l, H, I, rfl, q⟩⟩⟩)
theorem op_mulT0 : OpR X (binaryOp .Mult) (rMulT0 X.K) := by
  intro pins s σ H x y v u Q I rx ry h
  obtain ⟨l, k, xs, rfl, rfl, hT, h1, h2, hx, q⟩ := h
  cases rx
  obtain ⟨t, rfl⟩ := ry
  obtain ⟨its, r, ⟨⟨cls, dd, data, sl⟩, ho, hc, n, hd⟩, hs⟩ := I.tuple hT
  simp only at hc hd
  subst hc hd
  have hi : its.toArray.isEmpty = false := by
    cases r with
    | nil => exact absurd rfl hx
    | cons _ _ => rfl
  have c0 : (decide (k < -(2 ^ 63)) || decide (k ≥ 2 ^ 63)) = false := by
    rw [decide_eq_false (by omega), decide_eq_false (by omega)]; rfl
  have c1 : (its.toArray.isEmpty || k == 1) = false := by
    rw [hi, Bool.false_or]
    exact beq_eq_false_iff_ne.mpr (by omega)
  have c2 : (decide (k ≤ 0) || its.toArray.isEmpty) = true := by rw [decide_eq_true h2]; rfl
  refine wpAny_binaryOp_repeat_ref (T := "tuple") (U := "int") (by decide) ⟨_, ho, rfl⟩ (fun s' => typeIs_int s' k t) noFill_tuple_mul F.fills_int_mul F.slot_int_rmul repeat_tuple F.slot_int_index.lookup
    (call_meets F.slot_int_rmul (typeIs_int s k t) F.entry_int_rmul (F.args_int_rmul_2 _ _) (int_rmul_tuple k t l its.toArray n dd sl)
      ⟨ho, rfl, ⟨_, ho, rfl⟩, call_meets F.slot_tuple_mul ⟨_, ho, rfl⟩ F.entry_tuple_mul (F.args_tuple_mul_2 _ _) (tup_mul_none l its.toArray n dd sl k t c0 c1 c2) ⟨ho, ?_⟩⟩)
  exact ⟨.ref s.heap.objs.size, _, I.laid (t' := s.toks) (o := .tup []) (fun b ob q => Heap.get?_push_of_some _ q) (Nat.le_refl _) ⟨Nat.zero_le _, [], .nil, IsTup.new _ _⟩, rfl, q _ (I.hok.fresh (Nat.le_refl _))⟩
end
end Rk
end
section
set_option linter.all false
set_option autoImplicit false
set_option maxRecDepth 100000
namespace Rk
open PySem PySem.W PySem.Calls PyProof.Rows
/-! ### a list's or a tuple's items gathered -/
def SeqV (h : Heap) (l : Addr) (vs : List Value) : Prop := h.IsList l vs.toArray ∨ h.IsTuple l vs.toArray
section
variable {prog : Program} {w : World} {A : Around} {E : Value → Shared → Prop} {s : Shared}
theorem collect_sq {l : Addr} {vs : List Value} {Q : List Value → Shared → Prop} (hl : SeqV s.heap l vs)
    (q : Q vs { s with heap := (s.heap.push (seqObj "list" #[] 0)).update s.heap.objs.size (Obj.mapSeq (· ++ vs.toArray)) }) (hz : vs.length ≤ sizeLine) : wpAny (model prog w) A (collect (.ref l)) Q E s := by
  rcases hl with hl | hl
  · exact collect_list hl q hz
  · obtain ⟨ob, hob, hcl, k, hda⟩ := id hl
    unfold collect
    refine wpAny_bind (wpAny_runValue (codeAny_builtin entry_proto_collect' ?_))
    show wpAny _ _ (do again (.builtin "list.__iadd__" ⟨[← newList [], .ref l], []⟩)) _ _ s
    refine wpAny_bind (wpAny_newList (wpAny_pure ⟨Code.quiet_builtin _ (by decide +kernel), codeAny_builtin entry_list_iadd' ?_⟩))
    show wpAny _ _ (Builtin.List.listExtendWith (.ref s.heap.objs.size) (.ref l) (.ref s.heap.objs.size)) _ _ { s with heap := s.heap.push (seqObj "list" #[] 0) }
    unfold Builtin.List.listExtendWith
    have hob' : (s.heap.push (seqObj "list" #[] 0)).get? l = some ob := Heap.get?_push_of_some _ hob
    refine wpAny_bind (wpAny_typeOf (T := "tuple") ⟨ob, hob', hcl⟩ ?_)
    have ht : (Value.type "tuple" == Value.type "tuple") = true := by rfl
    rw [if_pos (by rw [ht]; simp)]
    refine wpAny_bind (listItems_at hob' hda ?_)
    refine wpAny_bind (listItems_at (xs := #[]) (n := 0) (Heap.get?_push_size _ rfl) rfl ?_)
    rw [if_neg (by simp)]
    refine wpAny_bind (listUpdate_at (xs := #[]) (n := 0) (Heap.get?_push_size _ rfl) rfl ?_ (Nat.zero_le _) (by show (#[] ++ vs.toArray).size ≤ sizeLine + 1; simp only [Array.size_append, List.size_toArray, List.length_nil]; omega))
    refine wpAny_pure ?_
    show wpAny (model prog w) A (do
        let o ← load s.heap.objs.size
        match o.data with
        | .seq xs _ => pure xs.toList
        | _ => unsupported "internal:collect") Q E { s with heap := (s.heap.push (seqObj "list" #[] 0)).update s.heap.objs.size (Obj.mapSeq (· ++ vs.toArray)) }
    refine wpAny_bind (wpAny_load (get?_update_seq (Heap.get?_push_size _ rfl) _) ?_)
    show wpAny _ _ (pure ((#[] : Array Value) ++ vs.toArray).toList) Q E _
    rw [show ((#[] : Array Value) ++ vs.toArray).toList = vs by simp]
    exact wpAny_pure q
/-- sorted(xs) -/
theorem sorted_sq {l : Addr} {vs : List Value} {Q : Value → Shared → Prop} {κ : PyProof.Rows.KeyKind} (hl : SeqV s.heap l vs) (hz : vs.length ≤ sizeLine)
    (S : SortsAt prog w A.in1.in1 { s with heap := sortingHeap (copyHeap s.heap vs) (s.heap.objs.size + 1) vs } κ vs)
    (h : Q (.ref (s.heap.objs.size + 1)) { s with heap := sortedAll s.heap vs (sortVals κ false vs vs).toArray }) : wpAny (model prog w) A (call (.builtin "sorted") [.ref l]) Q E s := by
  refine call_function_entry_kw kind_sorted plain_sorted entry_sorted (args_sorted1 _) ?_
  unfold Builtin.«sorted»
  refine wpAny_bind (m := checkCount "sorted" 1 1 _) (wpAny_pure ?_)
  refine wpAny_bind (collect_sq hl ?_ hz)
  refine wpAny_bind (wpAny_newList ?_ hz)
  have e0 : ((s.heap.push (seqObj "list" #[] 0)).update s.heap.objs.size (Obj.mapSeq (· ++ vs.toArray))).objs.size = s.heap.objs.size + 1 := by
    rw [Heap.size_update, size_push']
  show wpAny _ _ _ _ _ { s with heap := copyHeap s.heap vs }
  rw [e0]
  refine wpAny_bind (wpAny_holding (wpAny_call_entry_kw slot_list_sort ⟨_, copyHeap_at s.heap vs, rfl⟩ entry_list_sort ?body (args_list_sort _)))
  case body =>
    show wpAny (model prog w) A.in1.in1 (Builtin.«list.sort» ⟨[.ref (s.heap.objs.size + 1)], []⟩) _ _ _
    refine wpAny_mono (list_sort_vals (P := fun f s' => f = .done (.ret .none) ∧ Q (.ref (s.heap.objs.size + 1)) s') (s := { s with heap := copyHeap s.heap vs }) (copyHeap_at s.heap vs) S hz ⟨rfl, h⟩) (fun f s' hf => ?_) fun _ _ e => e
    obtain ⟨rfl, hq⟩ := hf
    exact ⟨_, rfl, wpAny_pure ⟨_, rfl, hq⟩⟩
/-! ### tuples, () among them -/
theorem call_tup_lt {Q : Value → Shared → Prop} {l b : Addr} {items items2 : Array Value} {e r : Nat → Bool} (hl : s.heap.IsTuple l items) (hb : s.heap.IsTuple b items2)
    (he : ∀ j (h1 : j < items.size) (h2 : j < items2.size), SeqAt.EqAt A.in1 s items[j] items2[j] (e j)) (hr : ∀ j (h1 : j < items.size) (h2 : j < items2.size), e j = false → SeqAt.RcLt A.in1 s items[j] items2[j] (r j))
    (q : Q (.bool (SeqAt.firstLt e r (decide (items.size < items2.size)) (List.range (min items.size items2.size)))) s) : wpAny (model prog w) A (call (.builtin "tuple.__lt__") [.ref l, .ref b]) Q E s := by
  obtain ⟨⟨c1, d1, t1, s1⟩, o1, hc1, n1, hd1⟩ := id hl
  obtain ⟨⟨c2, d2, t2, s2⟩, o2, hc2, n2, hd2⟩ := id hb
  simp only at hc1 hd1 hc2 hd2
  subst hc1 hd1 hc2 hd2
  exact call_meets F.slot_tuple_lt ⟨_, o1, rfl⟩ F.entry_tuple_lt (F.args_tuple_lt_2 _ _) (SeqAt.tuple_ltAt l b items items2 n1 n2 d1 d2 s1 s2 e r) ⟨o1, o2, he, hr, q⟩
theorem oneLt_tup {xs ys : List PyData} {a b : Value} {as bs : List Addr} {Q : Bool → Shared → Prop} (ra : Reads s.heap a (.tuple xs) as) (rb : Reads s.heap b (.tuple ys) bs) (h : alike (.tuple xs) (.tuple ys) = true)
    (hu : A.units + min (PyData.tuple xs).depth (PyData.tuple ys).depth < cLine) (hq : Q (dataLt (.tuple xs) (.tuple ys)) s) : wpAny (model prog w) A (oneLt' true a b) Q E s := by
  have hal : alikeAll xs ys = true := by simpa [alike] using h
  cases ra with
  | @tuple l o vs n _ as₁ h1 h2 h3 h4 =>
    cases rb with
    | @tuple l' o' vs' n' _ bs₁ k1 k2 k3 k4 =>
      have z1 : vs.size = xs.length := by simpa using SeqAt.ReadsAll.length _ _ _ h4
      have z2 : vs'.size = ys.length := by simpa using SeqAt.ReadsAll.length _ _ _ k4
      rw [dataLt_tuple, ← firstLt_toks xs ys hal, ← z1, ← z2] at hq
      rw [oneLt'_eq]
      simp only [if_true]
      refine wpAny_bind (wpAny_cRoomFor (SeqAt.room_here hu) ?_)
      refine wpAny_bind (wpAny_callSpecialIfBound?_slot (T := "tuple") ⟨_, h1, h2⟩ F.slot_tuple_lt (call_tup_lt (e := SeqAt.pairEq xs ys) (r := fun j => dataLt (xs.getD j .none) (ys.getD j .none)) ⟨_, h1, h2, _, h3⟩ ⟨_, k1, k2, _, k3⟩ (fun j j1 j2 => ?_) (fun j j1 j2 hj => ?_) ?_))
      · have := eqAt_alikeAll xs ys A.in1 s vs.toList vs'.toList _ _ h4 k4 hal (SeqAt.room_in hu) j (by simpa using j1) (by simpa using j2)
        simpa using this
      · have := rcLt_alikeAll xs ys A.in1 s vs.toList vs'.toList _ _ h4 k4 hal (SeqAt.room_in hu) j (by simpa using j1) (by simpa using j2) hj
        simpa using this
      · exact wpAny_truthy_bool hq
def neTu : PyData → Bool
  | .tuple (_ :: _) => true
  | _ => false
/-- the first items -/
theorem firsts_at : ∀ {vs : List Value} {ds : List PyData} {Q : List (Option Value) → Shared → Prop} {M : Model}, EachIs (fun v d => ∃ as, Reads s.heap v d as) vs ds → (∀ d ∈ ds, ∃ xs, d = .tuple xs) →
    (∀ os : List (Option Value), EachIs (fun o d => o.isSome = neTu d) os ds → Q os s) → wpAny M A (vs.mapM firstOfTuple') Q E s
  | _, _, Q, M, .nil, _, h => by rw [List.mapM_nil]; exact wpAny_pure (h [] .nil)
  | v :: vs, d :: ds, Q, M, .cons ⟨as, r⟩ t, ht, h => by
    obtain ⟨xs, rfl⟩ := ht d List.mem_cons_self
    cases r with
    | @tuple l o its n _ as₁ h1 h2 h3 h4 =>
      rw [List.mapM_cons]
      refine wpAny_bind ?_
      rw [kas_first_eq]
      refine wpAny_bind (Looks.here (show Looks M s.heap (typeOf (.ref l)) o.cls from (Looks.ld h1).andThen .now) ?_)
      rw [h2, if_neg (by first | decide | simp)]
      refine wpAny_bind (listItems_at h1 h3 (wpAny_pure ?_))
      refine wpAny_bind (firsts_at (Q := fun bs s' => wpAny M A (pure (its[0]? :: bs)) Q E s') t (fun d hd => ht d (List.mem_cons_of_mem _ hd)) fun os ho => wpAny_pure (h _ (.cons ?_ ho)))
      cases q : its.toList with
      | nil =>
        rw [q] at h4; cases h4
        have e0 : its[0]? = none := by rw [← Array.getElem?_toList, q]; rfl
        rw [e0]; rfl
      | cons f fr =>
        rw [q] at h4; cases h4
        have e0 : its[0]? = some f := by rw [← Array.getElem?_toList, q]; rfl
        rw [e0]; rfl
theorem SortsAt_tups {vs : List Value} {ds : List PyData} (e : EachIs (fun v d => ∃ as, Reads s.heap v d as) vs ds) (hal : AllAlike ds) (hk : ∀ d ∈ ds, ∃ xs, d = .tuple xs) (hu : ∀ d, d ∈ ds → A.units + d.depth < cLine) : SortsAt prog w A s (dataKind s.heap ds) vs := by
  by_cases hn : ∀ d, d ∈ ds → ∃ x r, d = .tuple (x :: r)
  · exact SortsAt.data e hal (.inl hn) hu
  have room : ∀ {d d' : PyData}, d ∈ ds → A.units + min d.depth d'.depth < cLine := fun {d d'} hd => Nat.lt_of_le_of_lt (Nat.add_le_add_left (Nat.min_le_left _ _) _) (hu d hd)
  have hem : PyData.tuple [] ∈ ds := by
    refine Classical.byContradiction fun hc => hn fun d hd => ?_
    obtain ⟨xs, rfl⟩ := hk d hd
    cases xs with
    | nil => exact absurd hd hc
    | cons x r => exact ⟨x, r, rfl⟩
  refine ⟨fun v hv => ?_, ?_⟩
  · obtain ⟨d, hd, as, r⟩ := e.left v hv
    exact ⟨_, dataKind_some hal hd r⟩
  cases ds with
  | nil => exact absurd hem (by simp)
  | cons d₀ ds₀ =>
  have key : ∀ (b : Bool) (E : Value → Shared → Prop) (Q : SortKind → Shared → Prop), Q (if b then general' else oneType') s → b = neTu d₀ → wpAny (model prog w) A (keyKind' vs.toArray) Q E s := by
    intro b E Q hq hb
    rw [kat_kind_eq, List.mapM_toArray, map_eq_pure_bind]
    refine wpAny_bind (wpAny_bind (firsts_at e hk fun os ho => wpAny_pure ?_))
    have hno : (os.toArray.all fun x => x.isSome) = false := by
      rw [Bool.eq_false_iff, ne_eq, List.all_toArray, List.all_eq_true]
      intro hall
      have : ∀ {os : List (Option Value)} {ds : List PyData}, EachIs (fun o d => o.isSome = neTu d) os ds → (∀ o ∈ os, o.isSome = true) → PyData.tuple [] ∉ ds := fun {os ds} ho => by
        induction ho with
        | nil => intro _ h; cases h
        | cons h t ih =>
          intro hs hm
          rcases List.mem_cons.mp hm with rfl | hm
          · have := hs _ List.mem_cons_self
            rw [h] at this; exact nomatch this
          · exact ih (fun o ho => hs o (List.mem_cons_of_mem _ ho)) hm
      exact this ho hall hem
    rw [if_neg (by rw [hno]; simp)]
    cases ho with
    | @cons o d os _ h1 h2 =>
    have e1 : (((o :: os).toArray[0]?).bind id).isSome = b := by
      rw [hb, ← h1]
      show (((o :: os)[0]?).bind id).isSome = _
      cases o <;> rfl
    rw [e1]
    cases b with
    | true => rw [if_pos rfl]; exact wpAny_pure hq
    | false =>
      rw [if_neg (by simp), oneTypeOnly'_eq, List.mapM_toArray, map_eq_pure_bind]
      refine wpAny_bind (wpAny_bind (wpAny_bind (kas_mapM (r := Value.type "tuple") _ (fun v hv Q' hq => ?_) (wpAny_pure ?_))))
      · obtain ⟨d, hd, as, r⟩ := e.left v hv
        obtain ⟨xs, rfl⟩ := hk d hd
        exact (looks_reads (M := model prog w) r).here hq
      · cases e with
        | @cons v _ vs _ _ _ =>
        have h0 : (List.map (fun _ => Value.type "tuple") (v :: vs)).toArray[0]? = some (Value.type "tuple") := by simp
        have hall2 : ((List.map (fun _ => Value.type "tuple") (v :: vs)).toArray.all fun x => x == Value.type "tuple") = true := by simp
        rw [h0]
        simp only [hall2, if_true]
        exact wpAny_pure (wpAny_pure hq)
  refine ⟨if (neTu d₀) then general' else oneType', ?_, fun _ E Q hq => key _ E Q hq rfl⟩
  intro E x y a b Q ha hb hq
  obtain ⟨d, as, hd, ra, rfl⟩ := dataKind_inv ha
  obtain ⟨d', as', hd', rb, rfl⟩ := dataKind_inv hb
  obtain ⟨xs, rfl⟩ := hk d hd
  obtain ⟨ys, rfl⟩ := hk d' hd'
  cases (neTu d₀) with
  | true =>
    show wpAny _ _ (oneLt' false x y) _ _ _
    exact oneLt_alike (fun h => nomatch h) ra rb (hal _ hd _ hd') (by simp) (room hd) hq
  | false =>
    show wpAny _ _ (oneLt' true x y) _ _ _
    exact oneLt_tup ra rb (hal _ hd _ hd') (room hd) hq
/-- all tuples; or none a tuple, none None -/
def SrtOk (ds : List PyData) : Prop := (∀ d ∈ ds, ∃ xs, d = .tuple xs) ∨ ∀ d, d ∈ ds → d ≠ .none ∧ ∀ xs, d ≠ .tuple xs
theorem SortsAt_any {vs : List Value} {ds : List PyData} (e : EachIs (fun v d => ∃ as, Reads s.heap v d as) vs ds) (hal : AllAlike ds) (hk : SrtOk ds) (hu : ∀ d, d ∈ ds → A.units + d.depth < cLine) : SortsAt prog w A s (dataKind s.heap ds) vs := by
  rcases hk with h | h
  · exact SortsAt_tups e hal h hu
  · exact SortsAt.data e hal (.inr h) hu
/-- sorted(xs): R: what the items stand for -/
theorem sorted_any {β : Type} {enc : β → PyData} {R : Value → β → Prop} {bs : List β} {l : Addr} {vs : List Value} {Q : Value → Shared → Prop} (hl : SeqV s.heap l vs) (e : EachIs R vs bs) (er : EachIs (fun v b => ∃ as, Reads s.heap v (enc b) as) vs bs) (hal : AllAlike (bs.map enc)) (hk : SrtOk (bs.map enc)) (hL : bs.length ≤ sizeLine)
    (hu : ∀ b, b ∈ bs → A.units + 2 + (enc b).depth < cLine) (h : ∀ out, out.length = bs.length → EachIs R out (bs.mergeSort (dataLe false enc)) → Q (.ref (s.heap.objs.size + 1)) { s with heap := sortedAll s.heap vs (List.toArray out) }) :
    wpAny (model prog w) A (call (.builtin "sorted") [.ref l]) Q E s := by
  have er' : EachIs (fun v b => ∃ as, Reads (sortingHeap (copyHeap s.heap vs) (s.heap.objs.size + 1) vs) v (enc b) as) vs bs := er.mono fun _ _ ⟨as, r⟩ => ⟨as, PyProof.Rows.Reads.keeps (fun _ _ => sorting_copy_old) r⟩
  have S := SortsAt_any (prog := prog) (w := w) (A := A.in1.in1) (s := { s with heap := sortingHeap (copyHeap s.heap vs) (s.heap.objs.size + 1) vs }) (each_map (R := fun v d => ∃ as, Reads (sortingHeap (copyHeap s.heap vs) (s.heap.objs.size + 1) vs) v d as) enc er') hal hk (bound_map hu)
  exact sorted_sq hl (by rw [e.length]; exact hL) S (h _ (by rw [sortVals_length false rfl]; exact e.length) (sortVals_data false e er' hal))
end
end Rk
end
section
set_option linter.all false
set_option autoImplicit false
set_option maxRecDepth 100000
namespace Rk
open PySem PySem.Calls PyProof.Rows L2
/-! ### a set made of a list, of a tuple -/
abbrev set0 (w : World) : Obj := { cls := .type "set", dict := none, data := .set #[] 0 (.fresh 0 0 (!w.params.followText "set-order")) }
section
variable {P : Program} {w : World} {A : Around} {E : Value → Shared → Prop} {s : Shared}
theorem iter_sqW {l : Addr} {vs : Array Value} {Q : Value → Shared → Prop} (hl : s.heap.IsList l vs ∨ s.heap.IsTuple l vs)
    (q : ∀ (o : Obj) (St : Nat → Shared → Prop), (∀ A' : Around, A'.handled = none → WalksS P w A' s.heap.objs.size [s.heap.objs.size, l] [s.heap.objs.size] (fun a b => b = a) vs.size (fun i v => vs[i]? = some v) St) → St 0 { s with heap := s.heap.push o } →
      Q (.ref s.heap.objs.size) { s with heap := s.heap.push o }) : wpAny (model P w) A (pyIter (.ref l)) Q E s := by
  rcases hl with hl | hl
  · have hlt : l < s.heap.objs.size := by obtain ⟨_, e, _⟩ := hl; exact Heap.lt_size e
    exact wpAny_pyIter_list hl (q _ _ (fun A' hh => (Walks.list (A := A') hh _ l (Nat.ne_of_lt hlt) vs).toS) ⟨⟨_, Heap.get?_push_size _ rfl, rfl, rfl⟩, hl.push _⟩)
  · have hlt : l < s.heap.objs.size := by obtain ⟨_, e, _⟩ := hl; exact Heap.lt_size e
    exact wpAny_pyIter_tuple hl (q _ _ (fun A' hh => (Walks.tuple (A := A') hh _ l (Nat.ne_of_lt hlt) vs).toS) ⟨⟨_, Heap.get?_push_size _ rfl, rfl, rfl⟩, hl.push _⟩)
theorem sq_kind {l : Addr} {vs : Array Value} (hl : s.heap.IsList l vs ∨ s.heap.IsTuple l vs) : ∃ T o, s.heap.get? l = some o ∧ o.cls = .type T ∧ isSubtype (.type T) (.type "set") = pure false ∧ isSubtype (.type T) (.type "frozenset") = pure false ∧ (Value.type T == Value.type "dict") = false := by
  rcases hl with ⟨o, h, c, _⟩ | ⟨o, h, c, _⟩
  · exact ⟨"list", o, h, c, F.sub_list_set, F.sub_list_frozenset, by decide⟩
  · exact ⟨"tuple", o, h, c, F.sub_tuple_set, F.sub_tuple_frozenset, by decide⟩
/-- what the loop is to do -/
def Fills (P : Program) (w : World) (A : Around) (s : Shared) (l : Addr) (vs : Array Value) (Good : Heap → Prop) : Prop :=
  ∀ (I : Addr) (G : Array GenState → Array GenState → Prop) (St : Nat → Shared → Prop) (R : Result → Shared → Prop) (s1 : Shared), WalksS P w A.in1 I [I, l] [I] G vs.size (fun i v => vs[i]? = some v) St → s.heap.objs.size < I →
    s1.heap.get? s.heap.objs.size = some (set0 w) → (∀ b o, s.heap.get? b = some o → s1.heap.get? b = some o) → St 0 s1 →
    (∀ s', Moved [s.heap.objs.size, I] G s1 s' → Good s'.heap → R (.ok (.ret .none)) s') → codeAny (model P w) A (.builtin "set.update.loop" ⟨[.ref s.heap.objs.size, .ref I], []⟩) R s1
set_option maxHeartbeats 3200000 in
theorem call_set_any {l : Addr} {vs : Array Value} {Q : Value → Shared → Prop} {Good : Heap → Prop} (hh : A.handled = none) (hl : s.heap.IsList l vs ∨ s.heap.IsTuple l vs) (U : Fills P w A.in1.in1 s l vs Good)
    (q : ∀ (h' : Heap) (tk : Nat), Good h' → (∀ b o, s.heap.get? b = some o → h'.get? b = some o) → Q (.ref s.heap.objs.size) { s with heap := h', toks := tk }) :
    wpAny (model P w) A (call (.type "set") [.ref l]) Q E s := by
  obtain ⟨T, ol, hol, hcl, hsl, hsf, hnd⟩ := sq_kind hl
  have hlS : l < s.heap.objs.size := Heap.lt_size hol
  obtain ⟨c, tl, hmro⟩ := F.called_set.mro
  have m1 := F.called_set.made; have m2 := F.called_set.sub; have m3 := F.called_set.notType; have m4 := F.called_set.canCreate; have m5 := F.typeCall_set_1 (.ref l)
  have hsz : (s.heap.push (set0 w)).objs.size = s.heap.objs.size + 1 := Heap.size_push ..
  have hS : (s.heap.push (set0 w)).get? s.heap.objs.size = some (set0 w) := Heap.get?_push_size _ rfl
  have hk0 : ∀ b o, s.heap.get? b = some o → (s.heap.push (set0 w)).get? b = some o := fun b o e => Heap.get?_push_of_some _ e
  refine wpAny_call (codeAny_of_tree ?_)
  show wpAny _ _ (callAny (.type "set") _) _ _ _
  refine wpAny_pure ⟨Code.quiet_builtin _ (by decide +kernel), codeAny_builtin F.entry_type_call (by
    rw [Around.under_plain (weight_type_call_type "set" [.ref l] []) rfl]
    repeat (any_goals (first | assumption | wp_step))
    refine codeAny_mono (code_set_led1 (.ref l) (E := E) (Q₁ := fun x s₁ => x = .ref s.heap.objs.size ∧ s₁ = { s with heap := s.heap.push (set0 w) }) ⟨rfl, rfl⟩) fun r s₁ hr => ?_
    cases r with
    | error e => exact hr
    | ok f => cases f <;> first | exact hr.elim | skip
              rename_i x
              obtain ⟨rfl, rfl⟩ := hr
              have hT : Shared.TypeIs { s with heap := s.heap.push (set0 w) } (.ref s.heap.objs.size) "set" := ⟨_, hS, rfl⟩
              have i1 := F.called_set.init.lookup; have i2 := F.called_set.init.bind (.ref s.heap.objs.size)
              repeat (any_goals (first | assumption | wp_step))
              refine codeAny_mono (codeAny_call_builtin (R := wants (fun r s₂ => r = .none ∧ ∃ h' tk, s₂ = { s with heap := h', toks := tk } ∧ Good h' ∧ ∀ b o, s.heap.get? b = some o → h'.get? b = some o) E)
                F.called_set.init.plain F.entry_set_init (check_set_init_1 hT ?_)) fun r₂ s₂ hr₂ => ?_
              · obtain ⟨cl, di, da, sl⟩ := ol
                simp only at hcl
                subst hcl
                have hl1 : (s.heap.push (set0 w)).IsList l vs ∨ (s.heap.push (set0 w)).IsTuple l vs := hl.imp (fun z => z.push _) (fun z => z.push _)
                have hol' := hk0 l _ hol
                unfold Builtin.«set.__init__» noKeywords Builtin.Frozenset.updateFrom
                generalize hPI : pyIter = PI
                wp_walk
                subst hPI
                refine iter_sqW (s := { s with heap := s.heap.push (set0 w) }) hl1 fun o St W st => wpAny_bind (wpAny_runValue ?_)
                refine U _ _ St _ _ (W _ (by simp [hh])) (by rw [hsz]; exact Nat.lt_succ_self _) (Heap.get?_push_of_some _ hS) (fun b o e => Heap.get?_push_of_some _ (hk0 b o e)) st fun s' hm g => ?_
                have hk : ∀ b o, s.heap.get? b = some o → s'.heap.get? b = some o := fun b o e => by
                  have hb := Heap.lt_size e
                  refine hm.heap b o (fun z => ?_) (Heap.get?_push_of_some _ (hk0 b o e))
                  rcases List.mem_cons.mp z with z | z
                  · exact absurd hb (by rw [z]; exact Nat.lt_irrefl _)
                  · have z : b = s.heap.objs.size + 1 := (List.mem_singleton.mp z).trans hsz
                    exact absurd hb (by rw [z]; exact Nat.not_lt_of_le (Nat.le_succ _))
                obtain ⟨h', g2, d', tk', os'⟩ := s'
                have eg : g2 = s.gens := hm.gens
                have ed : d' = s.drawn := hm.drawn
                have eo : os' = s.os := hm.os
                subst eg ed eo
                show wpAny _ _ _ _ _ _
                refine wpAny_pure ?_
                show wpAny _ _ (ret Value.none) _ _ _
                exact wpAny_pure ⟨rfl, h', tk', rfl, g, hk⟩
              · cases r₂ with
                | error e => exact hr₂
                | ok f2 => cases f2 <;> first | exact hr₂.elim | skip
                           obtain ⟨rfl, h', tk, rfl, g, hk⟩ := hr₂
                           repeat (any_goals (first | assumption | wp_step))
                           exact q _ _ g hk)⟩
end
end Rk
end
section
set_option linter.all false
set_option autoImplicit false
set_option maxRecDepth 100000
namespace Rk
open PySem PySem.Spec PySem.Calls PyProof.Rows L2
theorem perm_of_map {α β : Type} {f : α → β} : ∀ {vs : List β} {l : List α}, vs.Perm (l.map f) → ∃ m : List α, m.Perm l ∧ vs = m.map f
  | [], l, h => by
    have e := List.map_eq_nil_iff.mp (List.Perm.nil_eq h).symm
    subst e
    exact ⟨[], List.Perm.refl _, rfl⟩
  | v :: vs, l, h => by
    obtain ⟨x, hx, rfl⟩ := List.mem_map.mp (h.mem_iff.mp List.mem_cons_self)
    obtain ⟨a, b, rfl⟩ := List.append_of_mem hx
    have h1 : (f x :: vs).Perm (f x :: (a ++ b).map f) := h.trans (by rw [List.map_append, List.map_cons, List.map_append]; exact List.perm_middle)
    obtain ⟨m, p, e⟩ := perm_of_map (List.perm_cons _ |>.mp h1)
    exact ⟨x :: m, (List.perm_cons _ |>.mpr p).trans List.perm_middle.symm, by rw [e, List.map_cons]⟩

/-- tuples of ints as data -/
def encT (q : Addr × List Int) : PyData := .tuple (q.2.map .int)
theorem depth_encT (q : Addr × List Int) : (encT q).depth = 1 := by
  unfold encT
  simp only [PyData.depth]
  rw [PySem.W.depth_ints]
theorem dataLe_encT : PySem.W.dataLe false encT = fun p q => !decide (q.2 < p.2) := by
  funext p q
  show (!PySem.W.dataLt (.tuple (q.2.map .int)) (.tuple (p.2.map .int))) = _
  rw [PySem.W.dataLt_tuple]
  show (!PySem.W.rowLt (q.2.map .int) (p.2.map .int)) = _
  rw [PySem.W.dataLt_ints]
theorem alike_encT (p q : Addr × List Int) : PySem.W.alike (encT p) (encT q) = true := by
  simp only [encT, PySem.W.alike]
  exact PySem.W.alike_ints _ _
theorem srt_encT {L : List (Addr × List Int)} (nd : (L.map (·.2)).Nodup) : ((L.mergeSort (PySem.W.dataLe false encT)).map (·.2)).Pairwise (· < ·) := by
  rw [dataLe_encT]
  have p : (L.mergeSort fun p q => !decide (q.2 < p.2)).Pairwise fun a b => (!decide (b.2 < a.2)) = true := by
    refine List.pairwise_mergeSort (fun a b c h1 h2 => ?_) (fun a b => ?_) L
    · have h1 : ¬ b.2 < a.2 := by simpa using h1
      have h2 : ¬ c.2 < b.2 := by simpa using h2
      have : ¬ c.2 < a.2 := fun h => List.not_lt.mpr (List.le_trans (List.not_lt.mp h1) (List.not_lt.mp h2)) h
      simpa using this
    · by_cases h : b.2 < a.2
      · have : ¬ a.2 < b.2 := List.lt_asymm h
        simp [this]
      · simp [h]
  have nd2 : ((L.mergeSort fun p q => !decide (q.2 < p.2)).map (·.2)).Nodup := (((List.mergeSort_perm L _).map (·.2)).nodup_iff).mpr nd
  rw [List.pairwise_map]
  rw [List.Nodup, List.pairwise_map] at nd2
  refine (p.and nd2).imp fun {a b} ⟨h1, h2⟩ => ?_
  have h1 : ¬ b.2 < a.2 := by simpa using h1
  rcases List.le_iff_lt_or_eq.mp (List.not_lt.mp h1) with h | h
  · exact h
  · exact absurd h h2
section
variable {P : Program} {w : World} {A : Around} {E : Value → Shared → Prop} {s : Shared}
theorem reads_isT {h : Heap} {k : List Int} {b : Addr} (x : IsT P w h k b) : ∃ as, Reads h (.ref b) (.tuple (k.map .int)) as := by
  obtain ⟨o, its, n, ho, hc, hd, hi⟩ := x
  have key : ∀ {k : List Int} {vs : List Value}, ItemsAre (intKind P w) k vs → ∃ as, ReadsAll h vs (k.map .int) as := fun {k vs} z => by
    induction z with
    | nil => exact ⟨_, .nil⟩
    | @cons k0 v ks vs h1 _ ih =>
      obtain ⟨t, rfl⟩ := Value.isInt_shape h1
      obtain ⟨as, r⟩ := ih
      exact ⟨_, .cons (.int _ _) r⟩
  obtain ⟨as, r⟩ := key hi
  exact ⟨as, .tuple ho hc hd r⟩
theorem sorted_tups_set {a : Addr} {L : List (Addr × List Int)} {es : Array (Int × Value)} {ep : Nat} {t : SetTable} {Q : Value → Shared → Prop} (R : SetTR P w s.heap a L es ep t) (hh : A.handled = none) (hu : A.units + 8 < cLine)
    (q : ∀ s' (p : Addr) (out : Array Value) (c : Nat) (L' : List (Addr × List Int)), (∀ b o, s.heap.get? b = some o → s'.heap.get? b = some o) → s'.gens = s.gens → s'.os = s.os → s.heap.objs.size ≤ p →
      s'.heap.get? p = some (seqObj "list" out c) → out.toList = L'.map (fun q => Value.ref q.1) → L'.Perm L → (L'.map (·.2)).Pairwise (· < ·) → Q (.ref p) s') :
    wpAny (model P w) A (call (.builtin "sorted") [.ref a]) Q E s := by
  obtain ⟨o, ho, hex, hd⟩ := R.ob
  have e1 := R.size
  have e2 := R.few
  refine Calls.call_function_entry kind_sorted plain_sorted entry_sorted (args_sorted1 _) ?_
  unfold Builtin.«sorted»
  refine wpAny_bind (m := checkCount "sorted" 1 1 _) (wpAny_pure ?_)
  refine wpAny_bind (collect_set (A := A.in1) hh ⟨o, ho, hex.1, hd⟩ R.fits (by unfold scanBound; omega) R.tab.ris R.led fun s1 vs k1 hz g1 o1 pm => ?_)
  have er : es.toList.map (·.2) = L.map fun q => Value.ref q.1 := by
    rw [R.rows]; unfold rowsOf
    rw [List.map_map]; rfl
  rw [er] at pm
  obtain ⟨M, pM, rfl⟩ := perm_of_map pm
  have lM : M.length < 64 := by rw [pM.length_eq]; exact e2
  have lS : (M.map fun q => Value.ref q.1).length ≤ sizeLine := by rw [List.length_map, sizeLine_eq]; omega
  refine wpAny_bind (wpAny_newList ?_ lS)
  have hoL : (s1.heap.push (seqObj "list" (M.map fun q => Value.ref q.1).toArray 0)).get? s1.heap.objs.size = some (seqObj "list" (M.map fun q => Value.ref q.1).toArray 0) := Heap.get?_push_size _ rfl
  have kk : ∀ b o, s.heap.get? b = some o → (PySem.W.sortingHeap (s1.heap.push (seqObj "list" (M.map fun q => Value.ref q.1).toArray 0)) s1.heap.objs.size (M.map fun q => Value.ref q.1)).get? b = some o := fun b o e =>
    PySem.W.sortingHeap_old (Nat.ne_of_lt (Heap.lt_size (k1 b o e))) (Heap.get?_push_of_some _ (k1 b o e))
  have ee : ∀ (h : Heap) (N : List (Addr × List Int)), (∀ q ∈ N, ∃ as, Reads h (.ref q.1) (encT q) as) → PySem.W.EachIs (fun v q => ∃ as, Reads h v (encT q) as) (N.map fun q => Value.ref q.1) N := fun h N => by
    induction N with
    | nil => intro _; exact .nil
    | cons x N ih => intro hN; exact .cons (hN x List.mem_cons_self) (ih fun q hq => hN q (List.mem_cons_of_mem _ hq))
  have er' := ee (PySem.W.sortingHeap (s1.heap.push (seqObj "list" (M.map fun q => Value.ref q.1).toArray 0)) s1.heap.objs.size (M.map fun q => Value.ref q.1)) M fun q hq => by
    obtain ⟨as, r⟩ := reads_isT (R.tup q (pM.mem_iff.mp hq))
    exact ⟨as, PyProof.Rows.Reads.keeps kk r⟩
  have hal : PySem.W.AllAlike (M.map encT) := PySem.W.AllAlike.of alike_encT
  have hR : PySem.W.EachIs (fun v (q : Addr × List Int) => v = Value.ref q.1) (M.map fun q => Value.ref q.1) M := by
    clear er' kk hoL lS lM pM pm er hal
    induction M with
    | nil => exact .nil
    | cons x N ih => exact .cons rfl ih
  have S := SortsAt_any (prog := P) (w := w) (A := A.in1.in1) (s := { s1 with heap := PySem.W.sortingHeap (s1.heap.push (seqObj "list" (M.map fun q => Value.ref q.1).toArray 0)) s1.heap.objs.size (M.map fun q => Value.ref q.1) })
    (PySem.W.each_map (R := fun v d => ∃ as, Reads (PySem.W.sortingHeap (s1.heap.push (seqObj "list" (M.map fun q => Value.ref q.1).toArray 0)) s1.heap.objs.size (M.map fun q => Value.ref q.1)) v d as) encT er') hal
    (.inl fun d hd => by obtain ⟨q, _, rfl⟩ := List.mem_map.mp hd; exact ⟨_, rfl⟩) (fun d hd => by
      obtain ⟨q, _, rfl⟩ := List.mem_map.mp hd
      rw [depth_encT]
      have : A.in1.in1.units = A.units + 2 := rfl
      omega)
  have fin := PySem.W.sortVals_data false hR er' hal
  refine wpAny_bind (wpAny_holding (wpAny_call_entry slot_list_sort ⟨_, hoL, rfl⟩ entry_list_sort (PySem.W.list_sort_vals (s := { s1 with heap := s1.heap.push (seqObj "list" (M.map fun q => Value.ref q.1).toArray 0) }) hoL S lS ⟨_, rfl, ?_⟩) (args_list_sort _)))
  generalize hout : PySem.W.sortVals (PySem.W.dataKind (PySem.W.sortingHeap (s1.heap.push (seqObj "list" (M.map fun q => Value.ref q.1).toArray 0)) s1.heap.objs.size (M.map fun q => Value.ref q.1)) (M.map encT)) false (M.map fun q => Value.ref q.1) (M.map fun q => Value.ref q.1) = out at fin
  obtain ⟨c, hc⟩ := sortedHeap_at (vs := M.map fun q => Value.ref q.1) (out := out.toArray) hoL
  have eo : ∀ {out : List Value} {N : List (Addr × List Int)}, PySem.W.EachIs (fun v (q : Addr × List Int) => v = Value.ref q.1) out N → out = N.map fun q => Value.ref q.1 := fun {out N} z => by
    induction z with
    | nil => rfl
    | cons h _ ih => rw [h, ih]; rfl
  refine wpAny_pure ⟨_, rfl, q _ s1.heap.objs.size out.toArray c _ (fun b u e => ?_) g1 o1 hz hc (eo fin) ((List.mergeSort_perm M _).trans pM) (srt_encT (((pM.map (·.2)).nodup_iff).mpr R.nd))⟩
  have e3 := k1 b u e
  have hlt := Heap.lt_size e3
  show (sortedHeap (s1.heap.push (seqObj "list" (M.map fun q => Value.ref q.1).toArray 0)) s1.heap.objs.size (M.map fun q => Value.ref q.1) out.toArray).get? b = some u
  rw [sortedHeap_old (Nat.ne_of_lt hlt) (by rw [size_push']; exact Nat.lt_succ_of_lt hlt)]
  exact Heap.get?_push_of_some _ e3
end
end Rk
end
section
set_option linter.all false
set_option autoImplicit false
set_option maxRecDepth 100000
namespace Rk
open PySem PySem.Spec PySem.Calls PyProof.Rows L2
section
variable {P : Program} {w : World} {A : Around} {E : Value → Shared → Prop} {s : Shared}
theorem fresh_at {h : Heap} : h.get? h.objs.size = none := by
  cases q : h.get? h.objs.size with
  | none => rfl
  | some o => exact absurd (Heap.lt_size q) (Nat.lt_irrefl _)
theorem not_fp {l I S : Addr} (h1 : S < I) (h2 : l < S) : S ∉ [I, l] := by
  intro z
  rcases List.mem_cons.mp z with z | z
  · exact absurd h1 (by rw [z]; exact Nat.lt_irrefl _)
  · exact absurd h2 (by rw [List.mem_singleton.mp z]; exact Nat.lt_irrefl _)
theorem fills_ints {l : Addr} {vs : Array Value} {ns : List Int} (hl : l < s.heap.objs.size) (hi : IntsAre vs.toList ns) (hb : ns.length + 1 < scanBound) :
    Fills P w A s l vs fun h => ∃ c, c ≤ ns.length ∧ SetR w h s.heap.objs.size (fun j => decide (j ∈ ns)) c := by
  intro I G St R s1 W hI hS hk st q
  have hz : vs.size = ns.length := by
    have e := IntsAre.length hi
    rw [Array.length_toList] at e
    exact e
  refine set_update_ints W s.heap.objs.size (not_fp hI hl) ns hz hb (fun i v hv => ?_) (vs.size - 0) 0 s1 rfl (Nat.zero_le _) st ⟨0, Nat.le_refl 0, setR_new_at hS⟩ fun s' c hm hc R' => q s' hm ⟨c, by omega, R'⟩
  have hlt : i < ns.length := by rw [← hz]; exact (Array.getElem?_eq_some_iff.mp hv).1
  obtain ⟨t, e⟩ := PyProof.Rows.IntsAre.int_at hi i v (by rw [Array.getElem?_toList]; exact hv)
  refine ⟨ns[i], t, List.getElem?_eq_getElem hlt, ?_⟩
  rw [e, List.getD_eq_getElem?_getD, List.getElem?_eq_getElem hlt] <;> rfl
theorem fills_tups {l : Addr} {vs : Array Value} {ks : List (Addr × List Int)} (hl : l < s.heap.objs.size) (hv : vs.toList = ks.map fun p => Value.ref p.1) (hk : ∀ p ∈ ks, IsT P w s.heap p.2 p.1) (hf : ks.length < 64) (hu : A.in1.units < cLine) :
    Fills P w A s l vs fun h => ∃ L es ep t, SetTR P w h s.heap.objs.size L es ep t ∧ Got ks ks.length L := by
  intro I G St R s1 W hI hS hk1 st q
  have hz : vs.size = ks.length := by
    have e := congrArg List.length hv
    rw [Array.length_toList, List.length_map] at e
    exact e
  refine set_update_tups W s.heap.objs.size (not_fp hI hl) ks hz hf (fun i v hq => ?_) s.heap hk fresh_at (fun b hb => ?_) hu (vs.size - 0) 0 s1 rfl (Nat.zero_le _) st hk1 ⟨[], #[], 0, _, setTR_fresh hS, Got.zero ks⟩
    fun s' L es ep t hm R' g _ => q s' hm ⟨L, es, ep, t, R', by rw [← hz]; exact g⟩
  · have e : vs.toList[i]? = some v := by rw [Array.getElem?_toList]; exact hq
    rw [hv, List.getElem?_map] at e
    cases hp : ks[i]? with
    | none => rw [hp] at e; cases e
    | some p =>
      rw [hp] at e
      exact ⟨p, rfl, (Option.some.inj e).symm⟩
  · cases e : s.heap.get? b with
    | none => rfl
    | some o =>
      have := Heap.lt_size e
      rw [List.mem_singleton.mp hb] at this
      exact absurd (Nat.lt_trans this hI) (Nat.lt_irrefl _)
end
/-- the row of a set's members -/
def SetOfI (ns ns' : List Int) : Prop := ns'.Pairwise (· < ·) ∧ ∀ k, k ∈ ns' ↔ k ∈ ns
def SetOfT (ks L : List (Addr × List Int)) : Prop := (L.map (·.2)).Pairwise (· < ·) ∧ (∀ q ∈ L, q ∈ ks) ∧ ∀ q ∈ ks, q.2 ∈ L.map (·.2)
/-- sorted(set(xs)), xs ints or tuples of ints -/
def rSSet (K : PySem.W.Frag) (l : Addr) (H1 : Hp) (Q : VK) : Prop :=
  (∃ ns : List Int, (SqL K H1 l (ns.map V.int) ∨ SqT K H1 l (ns.map V.int)) ∧ ns.length < 64 ∧ ∀ ns' p, SetOfI ns ns' → H1 p = none → Q (.ref p) (upd H1 p (.lst (ns'.map V.int)))) ∨
  ∃ ks : List (Addr × List Int), (SqL K H1 l (ks.map fun p => V.ref p.1) ∨ SqT K H1 l (ks.map fun p => V.ref p.1)) ∧ (∀ p ∈ ks, SqT K H1 p.1 (p.2.map V.int)) ∧ ks.length < 64 ∧ ∀ L p, SetOfT ks L → H1 p = none → Q (.ref p) (upd H1 p (.lst (L.map fun q => V.ref q.1)))
/-- len(set(xs)) -/
def rLSet (K : PySem.W.Frag) (l : Addr) (H1 : Hp) (Q : VK) : Prop :=
  (∃ ns : List Int, (SqL K H1 l (ns.map V.int) ∨ SqT K H1 l (ns.map V.int)) ∧ ns.length < 64 ∧ ∀ ns' : List Int, ns'.Nodup → (∀ k, k ∈ ns' ↔ k ∈ ns) → Q (.int ns'.length) H1) ∨
  ∃ ks : List (Addr × List Int), (SqL K H1 l (ks.map fun p => V.ref p.1) ∨ SqT K H1 l (ks.map fun p => V.ref p.1)) ∧ (∀ p ∈ ks, SqT K H1 p.1 (p.2.map V.int)) ∧ ks.length < 64 ∧ ∀ L : List (Addr × List Int), (L.map (·.2)).Nodup → (∀ q ∈ L, q ∈ ks) → (∀ q ∈ ks, q.2 ∈ L.map (·.2)) → Q (.int L.length) H1
section
variable {X : Cx} {pins : List (Addr × Obj)} {σ : L2.St} {H : Hp} {s : Shared}
theorem _root_.L2.Inv.sq {a : Addr} {xs : List V} (I : Inv X pins σ H s) (h : SqL X.K H a xs ∨ SqT X.K H a xs) : ∃ its : List Value, Vals xs its ∧ (s.heap.IsList a its.toArray ∨ s.heap.IsTuple a its.toArray) ∧ xs.length ≤ sizeLine := by
  rcases h with h | h
  · obtain ⟨its, r, p, z⟩ := I.list h
    exact ⟨its, r, .inl p.isList, z⟩
  · obtain ⟨its, r, p, z⟩ := I.tuple h
    exact ⟨its, r, .inr p, z⟩
theorem sq_lt {h : Heap} {l : Addr} {vs : Array Value} (hl : h.IsList l vs ∨ h.IsTuple l vs) : l < h.objs.size := by
  rcases hl with ⟨o, e, _⟩ | ⟨o, e, _⟩ <;> exact Heap.lt_size e
theorem vals_refs {ks : List (Addr × List Int)} {its : List Value} (r : Vals (ks.map fun p => V.ref p.1) its) : its = ks.map fun p => Value.ref p.1 := refs_of_vals r
section
variable {a : Expr} {ta : TE} {p p2 q pos : Pos}
def tSS (r : PySem.W.Frag → Addr → Hp → VK → Prop) (K : PySem.W.Frag) (ta : TE) : TE := fun σ H Q => ta σ H fun x H1 => ∃ l, x = V.ref l ∧ r K l H1 Q
theorem pe_lset (hc : X.calm = true) (hu : X.A.units + 64 < cLine) (hg : Gl X "len") (hm : X.mg "len" = none) (hg2 : Gl X "set") (hm2 : X.mg "set" = none) (ha : PE X a ta)
    (na : starEach [a] X.env = (false, eval a X.env) :: starEach [] X.env) : PE X (.Call (.Name "len" p) [.Call (.Name "set" p2) [a] [] q] [] pos) (tSS rLSet X.K ta) := by
  refine ⟨fun pins s σ H Q I h => ?_⟩
  refine Call_ (ld_blt I hg hm PySem.boot_len (PyProof.Rows.callWith_builtin1 (PyProof.Rows.args_cons ?_ rfl) rfl rfl))
  refine Call_ (ld_blt I hg2 hm2 PyProof.Rows.boot_set (PyProof.Rows.callWith_type1 (PyProof.Rows.args_cons (thn (ha.run pins s σ H _ I h) fun v s1 ⟨x, H1, I1, r1, l, ex, q1⟩ => PyProof.Rows.args_nil ?_) na) na rfl))
  subst ex
  cases r1
  have hh := I1.ok.hd hc
  rcases q1 with ⟨ns, hq, hf, q1⟩ | ⟨ks, hq, hk, hf, q1⟩
  · obtain ⟨its, r, hs, hz⟩ := I1.sq hq
    refine call_set_any hh hs (fills_ints (ns := ns) (sq_lt hs) (by simpa using r.ints) (by unfold scanBound; omega)) fun h' tk ⟨c, hc', R⟩ hkp => PyProof.Rows.args_nil ?_
    obtain ⟨o, es, ep, t, ho, hex, hd, g, nd, hS, hb, hft, hn, _⟩ := R
    have I2 : Inv X pins σ H1 { s1 with heap := h', toks := tk } := I1.kept hkp
    have e : es.size = (es.toList.map keyOf).length := by rw [List.length_map, Array.length_toList]
    refine call_len_set ho hex hd hft (by rw [hn]; omega) ⟨.int (es.toList.map keyOf).length, H1, I2.tok _, ⟨_, by rw [e]⟩, q1 _ nd fun k => ?_⟩
    rw [← hS k, decide_eq_true_eq]
  · obtain ⟨its, r, hs, hz⟩ := I1.sq hq
    refine call_set_any hh hs (fills_tups (ks := ks) (sq_lt hs) (by simpa using vals_refs r) (fun p hp => I1.isT (hk p hp)) hf (by have : X.A.in1.in1.in1.units = X.A.units + 3 := rfl; omega)) fun h' tk ⟨L, es, ep, t, R, g⟩ hkp => PyProof.Rows.args_nil ?_
    have I2 : Inv X pins σ H1 { s1 with heap := h', toks := tk } := I1.kept hkp
    obtain ⟨o, ho, hex, hd⟩ := R.ob
    have e := SetTR.size (s := { s1 with heap := h', toks := tk }) R
    have hfew := R.few
    refine call_len_set ho hex hd (SetTR.fits (s := { s1 with heap := h', toks := tk }) R) (by rw [e]; omega) ⟨.int L.length, H1, I2.tok _, ⟨_, by rw [e]⟩, q1 L R.nd (fun q hq => List.mem_of_mem_take (g.sub q hq)) fun q hq => g.all q (by rw [List.take_length]; exact hq)⟩
theorem pe_sset (hc : X.calm = true) (hu : X.A.units + 64 < cLine) (hg : Gl X "sorted") (hm : X.mg "sorted" = none) (hg2 : Gl X "set") (hm2 : X.mg "set" = none) (ha : PE X a ta)
    (na : starEach [a] X.env = (false, eval a X.env) :: starEach [] X.env) : PE X (.Call (.Name "sorted" p) [.Call (.Name "set" p2) [a] [] q] [] pos) (tSS rSSet X.K ta) := by
  refine ⟨fun pins s σ H Q I h => ?_⟩
  refine Call_ (ld_blt I hg hm PyProof.Rows.boot_sorted (PyProof.Rows.callWith_builtin1 (PyProof.Rows.args_cons ?_ rfl) rfl rfl))
  refine Call_ (ld_blt I hg2 hm2 PyProof.Rows.boot_set (PyProof.Rows.callWith_type1 (PyProof.Rows.args_cons (thn (ha.run pins s σ H _ I h) fun v s1 ⟨x, H1, I1, r1, l, ex, q1⟩ => PyProof.Rows.args_nil ?_) na) na rfl))
  subst ex
  cases r1
  have hh := I1.ok.hd hc
  have fin : ∀ {H1 : Hp} {s1 : Shared} (I : Inv X pins σ H1 s1) {s' : Shared} {p : Addr} {vs : List Value} {c : Nat} {xs : List V} (k : ∀ b o, s1.heap.get? b = some o → s'.heap.get? b = some o) (g : s'.gens = s1.gens) (o : s'.os = s1.os) (hp : s1.heap.objs.size ≤ p) (hg : s'.heap.get? p = some (seqObj "list" vs.toArray c)) (hv : Vals xs vs) (hl : xs.length ≤ sizeLine),
      (∀ (h0 : H1 p = none), Q (.ref p) (upd H1 p (.lst xs))) → EP X pins σ Q (.ref p) s' := by
    intro H1 s1 I s' p vs c xs k g o hp hg hv hl q
    have hn : H1 p = none := I.hok.fresh hp
    have J : Inv X pins σ (upd H1 p (.lst xs)) { s1 with heap := s'.heap, gens := s'.gens, drawn := s'.drawn, toks := s'.toks } :=
      I.call (ch := []) (Un.laid k hp hn) (I.hok.laid k hp ⟨hl, vs, c, hv, by simpa using hg⟩) (by rw [g]; exact I.bare) (fun _ z => nomatch z)
    have e : s' = { s1 with heap := s'.heap, gens := s'.gens, drawn := s'.drawn, toks := s'.toks } := by
      cases s'; cases s1; cases o; rfl
    rw [e]
    exact ⟨.ref p, _, J, rfl, q hn⟩
  rcases q1 with ⟨ns, hq, hf, q1⟩ | ⟨ks, hq, hk, hf, q1⟩
  · obtain ⟨its, r, hs, hz⟩ := I1.sq hq
    refine call_set_any hh hs (fills_ints (ns := ns) (sq_lt hs) (by simpa using r.ints) (by unfold scanBound; omega)) fun h' tk ⟨c, hc', R⟩ hkp => PyProof.Rows.args_nil ?_
    have I2 : Inv X pins σ H1 { s1 with heap := h', toks := tk } := I1.kept hkp
    refine sorted_set (s := { s1 with heap := h', toks := tk }) R hh (by omega) fun s' p out c2 ns' k g o hp hg hi hs2 hm2 hl => ?_
    refine fin I2 (vs := out.toList) k g o hp (by simpa using hg) (vals_of_ints hi) (by rw [List.length_map, hl, sizeLine_eq]; omega) fun hn => q1 ns' p ⟨hs2, fun k => ?_⟩ hn
    rw [hm2 k, decide_eq_true_eq]
  · obtain ⟨its, r, hs, hz⟩ := I1.sq hq
    refine call_set_any hh hs (fills_tups (ks := ks) (sq_lt hs) (by simpa using vals_refs r) (fun p hp => I1.isT (hk p hp)) hf (by have : X.A.in1.in1.in1.units = X.A.units + 3 := rfl; omega)) fun h' tk ⟨L, es, ep, t, R, g⟩ hkp => PyProof.Rows.args_nil ?_
    have I2 : Inv X pins σ H1 { s1 with heap := h', toks := tk } := I1.kept hkp
    have hfew := R.few
    refine sorted_tups_set (s := { s1 with heap := h', toks := tk }) R hh (by omega) fun s' p out c2 L' k g2 o hp hg hout pm pw => ?_
    refine fin I2 (vs := out.toList) k g2 o hp (by simpa using hg) (by rw [hout]; exact vals_of_refs L') (by rw [List.length_map, pm.length_eq, sizeLine_eq]; omega) fun hn => q1 L' p ⟨pw, fun q hq => List.mem_of_mem_take (g.sub q (pm.mem_iff.mp hq)), fun q hq => ?_⟩ hn
    exact ((pm.map (·.2)).mem_iff).mpr (g.all q (by rw [List.take_length]; exact hq))
end
end
end Rk
end
section
set_option linter.all false
set_option autoImplicit false
set_option maxRecDepth 100000
namespace Rk
open PySem PySem.Spec PySem.Calls PyProof.Rows L2
/-! ### sorted, min, max over data -/
abbrev leD : (V × PyData) → (V × PyData) → Bool := PySem.W.dataLe false Prod.snd
def srtP (xs : List V) (ds : List PyData) : List V := ((xs.zip ds).mergeSort leD).map Prod.fst
def rSortD (K : PySem.W.Frag) : List V → Hp → VK → Prop := fun vs H Q => ∃ (a : Addr) (xs : List V) (ds : List PyData), vs = [V.ref a] ∧ (SqL K H a xs ∨ SqT K H a xs) ∧ DpAll K H xs ds ∧ PySem.W.AllAlike ds ∧ SrtOk ds ∧ (∀ d ∈ ds, d.depth ≤ 50) ∧
  ∀ p, H p = none → Q (.ref p) (upd H p (.lst (srtP xs ds)))
/-- the least (b = false), the greatest -/
def rExtD (b : Bool) (K : PySem.W.Frag) : List V → Hp → VK → Prop := fun vs H Q => ∃ (a : Addr) (xs : List V) (d : PyData) (ds : List PyData), vs = [V.ref a] ∧ (SqL K H a xs ∨ SqT K H a xs) ∧ DpAll K H xs (d :: ds) ∧ PySem.W.AllAlike (d :: ds) ∧ (∀ e ∈ d :: ds, e ≠ .none) ∧ (∀ e ∈ d :: ds, e.canLay0 = true) ∧
  PyData.depthAll (d :: ds) ≤ 50 ∧ ∀ (i : Nat) v, xs[i]? = some v → (d :: ds)[i]? = some (if b then PySem.W.maxD d ds else PySem.W.minD d ds) → Q v H
section
variable {X : Cx} {pins : List (Addr × Obj)} {σ : L2.St} {H : Hp} {s : Shared}
theorem dpAll_len {K : PySem.W.Frag} : ∀ {xs : List V} {ds : List PyData}, DpAll K H xs ds → xs.length = ds.length
  | _, _, .nil => rfl
  | _, _, .cons _ r => by rw [List.length_cons, List.length_cons, dpAll_len r]
theorem each_dp (I : Inv X pins σ H s) : ∀ {xs : List V} {us : List Value} {ds : List PyData}, Vals xs us → DpAll X.K H xs ds →
    PySem.W.EachIs (fun u (b : V × PyData) => RelV b.1 u) us (xs.zip ds) ∧ PySem.W.EachIs (fun u (b : V × PyData) => ∃ as, Reads s.heap u b.2 as) us (xs.zip ds)
  | _, _, _, .nil, .nil => ⟨.nil, .nil⟩
  | _, _, _, .cons r t, .cons d e => by
    obtain ⟨h1, h2⟩ := each_dp I t e
    exact ⟨.cons r h1, .cons (Dp.reads I _ _ _ d r) h2⟩
theorem vals_each : ∀ {us : List Value} {bs : List (V × PyData)}, PySem.W.EachIs (fun u (b : V × PyData) => RelV b.1 u) us bs → Vals (bs.map Prod.fst) us
  | _, _, .nil => .nil
  | _, _, .cons h t => .cons h (vals_each t)
theorem cr_sortD (hu : X.A.units + 65 < cLine) : CallR X (.builtin "sorted") (rSortD X.K) := by
  intro pins s σ H vs us Q I r h
  obtain ⟨a, xs, ds, rfl, hs, hd, hal, hk, hdp, q⟩ := h
  obtain ⟨its, rv, hl, hz⟩ := I.sq hs
  rw [Vals.ref1 r]
  obtain ⟨e1, e2⟩ := each_dp I rv hd
  have hlen := dpAll_len hd
  have em : (xs.zip ds).map Prod.snd = ds := List.map_snd_zip (by omega)
  have hzl : (xs.zip ds).length = xs.length := by rw [List.length_zip]; omega
  refine sorted_any (enc := Prod.snd) hl e1 e2 (by rw [em]; exact hal) (by rw [em]; exact hk) (by rw [hzl]; exact hz) (fun b hb => ?_) fun out ho eo => ?_
  · have hb : b.2 ∈ ds := by rw [← em]; exact List.mem_map.mpr ⟨b, hb, rfl⟩
    have := hdp _ hb
    omega
  · obtain ⟨ep, he⟩ := PyProof.Rows.sortedAll_at s.heap its out.toArray
    have hv := vals_each eo
    have hl2 : (srtP xs ds).length ≤ sizeLine := by unfold srtP; rw [List.length_map, List.length_mergeSort, hzl]; exact hz
    exact ⟨.ref _, upd H (s.heap.objs.size + 1) (.lst (srtP xs ds)), I.laid (t' := s.toks) (fun _ _ => PyProof.Rows.sortedAll_old) (Nat.le_succ _) ⟨hl2, out, ep, hv, he⟩, rfl, q _ (I.hok.fresh (Nat.le_succ _))⟩
theorem cr_extD {b : Bool} {f : String} (hf : f = if b then "max" else "min") (hc : X.calm = true) (hu : X.A.units + 65 < cLine) : CallR X (.builtin f) (rExtD b X.K) := by
  intro pins s σ H vs us Q I r h
  obtain ⟨a, xs, d, ds, rfl, hs, hd, hal, hn, hcl, hdp, q⟩ := h
  obtain ⟨its, rv, hl, hz⟩ := I.sq hs
  rw [Vals.ref1 r]
  obtain ⟨as, hr⟩ := Dp.readsAll I _ _ _ hd rv
  have hh := I.ok.hd hc
  have hlen := dpAll_len hd
  have fin : ∀ (i : Nat) v h' tk bs, its.toArray[i]? = some v → Reads h' v (if b then PySem.W.maxD d ds else PySem.W.minD d ds) bs → (∀ b o, s.heap.get? b = some o → h'.get? b = some o) → EP X pins σ Q v { s with heap := h', toks := tk } := by
    intro i v h' tk bs hv hb kp
    have hv' : its[i]? = some v := by simpa using hv
    obtain ⟨as2, r2, hlt, hm, _⟩ := PySem.W.readsAll_at hr i v hv'
    have hx : ∃ x, xs[i]? = some x ∧ RelV x v := by
      have hvl := rv.length
      have hi : i < xs.length := by rw [hlen]; exact hlt
      refine ⟨xs[i], List.getElem?_eq_getElem hi, ?_⟩
      have key : ∀ {xs : List V} {us : List Value} {i : Nat} {x : V} {u : Value}, Vals xs us → xs[i]? = some x → us[i]? = some u → RelV x u := fun {xs us i x u} r => by
        induction r generalizing i with
        | nil => intro h; simp at h
        | cons r t ih =>
          cases i with
          | zero => intro h1 h2; simp at h1 h2; subst h1 h2; exact r
          | succ i => intro h1 h2; simp at h1 h2; exact ih h1 h2
      exact key rv (List.getElem?_eq_getElem hi) hv'
    obtain ⟨x, hx1, hx2⟩ := hx
    have hd0 : (d :: ds)[i]? = some ((d :: ds).getD i .none) := by rw [List.getD_eq_getElem?_getD, List.getElem?_eq_getElem hlt]; rfl
    have e : (d :: ds).getD i .none = if b then PySem.W.maxD d ds else PySem.W.minD d ds := PySem.SeqAt.Reads.unique _ _ v _ _ (hcl _ hm) (PyProof.Rows.Reads.keeps kp r2) hb
    exact ⟨x, H, (I.kept kp), hx2, q i x hx1 (by rw [hd0, e])⟩
  have ha : PySem.W.AlikeAll (d :: ds) := ⟨hal, hn⟩
  subst hf
  cases b with
  | true =>
    rcases hl with hl | hl
    · exact PySem.W.max_list_data hh hl (by simpa using hr) ha (by omega) fin
    · exact PySem.W.max_tuple_data hh hl (by simpa using hr) ha (by omega) fin
  | false =>
    rcases hl with hl | hl
    · exact PySem.W.min_list_data hh hl (by simpa using hr) ha (by omega) fin
    · exact PySem.W.min_tuple_data hh hl (by simpa using hr) ha (by omega) fin
end
end Rk
end
section
set_option linter.all false
set_option autoImplicit false
set_option maxRecDepth 100000
namespace Rk
open PySem PySem.Spec PyProof.Rows L2
/-! ### zip over any number of lists and tuples -/
structure Row where
  it : Addr
  l : Addr
  items : Array Value
  lst : Bool
def Row.at (r : Row) (h : Heap) (j : Nat) : Prop := match r.lst with
  | true => h.IsListIter r.it r.l j ∧ h.IsList r.l r.items
  | false => h.IsTupleIter r.it r.l j ∧ h.IsTuple r.l r.items
section
variable {P : Program} {w : World} {A : Around} {E : Value → Shared → Prop} {s : Shared}
theorem Row.draws (r : Row) (hh : A.handled = none) (hne : r.l ≠ r.it) : Draws P w A r.it [r.it, r.l] r.items.size (fun i v => r.items[i]? = some v) (fun i h => r.at h i) := by
  obtain ⟨it, l, items, lst⟩ := r
  cases lst with
  | true => exact Draws.list hh it l hne items
  | false => exact Draws.tuple hh it l hne items
theorem Row.at_ext {r : Row} {h h' : Heap} {j : Nat} (a : r.at h j) (k : ∀ b o, (b = r.it ∨ b = r.l) → h.get? b = some o → h'.get? b = some o) : r.at h' j := by
  obtain ⟨it, l, items, lst⟩ := r
  cases lst with
  | true => exact ⟨a.1.at fun o e => k it o (.inl rfl) e, a.2.at fun o e => k l o (.inr rfl) e⟩
  | false => exact ⟨a.1.at fun o e => k it o (.inl rfl) e, a.2.at fun o e => k l o (.inr rfl) e⟩
structure Sep (rows : List Row) : Prop where
  it : rows.Pairwise fun a b => a.it ≠ b.it
  l : ∀ a ∈ rows, ∀ b ∈ rows, a.it ≠ b.l
theorem Sep.tail {r : Row} {rs : List Row} (S : Sep (r :: rs)) : Sep rs := ⟨(List.pairwise_cons.mp S.it).2, fun a ha b hb => S.l a (List.mem_cons_of_mem _ ha) b (List.mem_cons_of_mem _ hb)⟩
/-- the items at j -/
def colAt (rows : List Row) (j : Nat) : List Value := rows.map fun r => r.items.getD j .none
/-- one turn of all rows, each item put behind the others -/
theorem draw_rows {σ : Type} (hh : A.handled = none) {I0 : Array Value → σ} {body : Value → σ → Sem (ForInStep σ)} {j : Nat} {Q : σ → Shared → Prop}
    (hb : ∀ (it : Addr) (acc : Array Value) (s : Shared) (R : ForInStep σ → Shared → Prop), (∀ E' : Value → Shared → Prop, wpAny (model P w) A (Builtin.SmallTypes.nextOf (.ref it)) (fun x s' => R (.yield (I0 (acc.push x))) s') E' s) → wpAny (model P w) A (body (.ref it) (I0 acc)) R E s) :
    ∀ (rows : List Row) (acc : Array Value) (s : Shared), Sep rows → (∀ r ∈ rows, r.at s.heap j) → (∀ r ∈ rows, j < r.items.size) →
      (∀ h' tk, h'.objs.size = s.heap.objs.size → (∀ c o, (∀ r ∈ rows, c ≠ r.it) → s.heap.get? c = some o → h'.get? c = some o) → (∀ r ∈ rows, r.at h' (j + 1)) → Q (I0 (acc ++ (colAt rows j).toArray)) { s with heap := h', toks := tk }) →
      wpAny (model P w) A (forIn (rows.map fun r => Value.ref r.it) (I0 acc) body) Q E s
  | [], acc, s, _, _, _, q => by
    rw [List.map_nil, List.forIn_nil]
    have := q s.heap s.toks rfl (fun c o _ e => e) (fun r hr => nomatch hr)
    have e : acc ++ (colAt [] j).toArray = acc := by simp [colAt]
    rw [e] at this
    exact wpAny_pure this
  | r :: rs, acc, s, S, ha, hl, q => by
    rw [List.map_cons, List.forIn_cons]
    have D := Row.draws (P := P) (w := w) r hh (fun e => S.l r List.mem_cons_self r List.mem_cons_self e.symm)
    refine wpAny_bind (hb r.it acc s _ fun E' => (D.item j s _ E' (hl r List.mem_cons_self) (ha r List.mem_cons_self) fun x h1 tk hx st1 hs1 => ?_))
    have hne : ∀ r' ∈ rs, r.it ≠ r'.it := (List.pairwise_cons.mp S.it).1
    refine draw_rows hh hb rs (acc.push x) { s with heap := h1, toks := tk } S.tail (fun r' hr' => Row.at_ext (ha r' (List.mem_cons_of_mem _ hr')) fun b o hq e => hs1.extBut b o ?_ e) (fun r' hr' => hl r' (List.mem_cons_of_mem _ hr')) fun h' tk' hz hk hat => ?_
    · rintro rfl
      rcases hq with e | e
      · exact hne r' hr' e
      · exact S.l r List.mem_cons_self r' (List.mem_cons_of_mem _ hr') e
    · have hx' : r.items.getD j .none = x := by rw [Array.getD_eq_getD_getElem?, hx]; rfl
      have e : acc.push x ++ (colAt rs j).toArray = acc ++ (colAt (r :: rs) j).toArray := by
        unfold colAt
        rw [List.map_cons, hx']
        apply Array.toList_inj.mp
        simp
      rw [e]
      refine q h' tk' (hz.trans hs1.1) (fun c o hc e => hk c o (fun r' hr' => hc r' (List.mem_cons_of_mem _ hr')) (hs1.extBut c o (hc r List.mem_cons_self) e)) fun r' hr' => ?_
      rcases List.mem_cons.mp hr' with rfl | hr'
      · refine Row.at_ext st1 fun b o hq e => hk b o (fun r2 hr2 => ?_) e
        rintro rfl
        rcases hq with e | e
        · exact hne r2 hr2 e.symm
        · exact S.l r2 (List.mem_cons_of_mem _ hr2) r' List.mem_cons_self e
      · exact hat r' hr'
/-- .. each put into the tuple TO -/
theorem draw_own {σ : Type} {TO : Addr} (hh : A.handled = none) {I0 : σ} {body : Value × Nat → σ → Sem (ForInStep σ)} {j : Nat} {Q : σ → Shared → Prop}
    (hb : ∀ (it : Addr) (k : Nat) (s : Shared) (R : ForInStep σ → Shared → Prop),
      (∀ E' : Value → Shared → Prop, wpAny (model P w) A (Builtin.SmallTypes.nextOf (.ref it)) (fun x s' => ∃ vs : Array Value, vs.size ≤ sizeLine ∧ s'.heap.get? TO = some { cls := .type "tuple", data := .seq vs } ∧ ∀ h', h'.get? TO = some { cls := .type "tuple", data := .seq (vs.setIfInBounds k x) } → Heap.SameBut TO s'.heap h' → R (.yield I0) { s' with heap := h' }) E' s) →
      wpAny (model P w) A (body (.ref it, k) I0) R E s) :
    ∀ (rows : List Row) (k : Nat) (pre post : List Value) (s : Shared), Sep rows → (∀ r ∈ rows, r.at s.heap j) → (∀ r ∈ rows, j < r.items.size) → (∀ r ∈ rows, r.it ≠ TO ∧ r.l ≠ TO) →
      k = pre.length → post.length = rows.length → pre.length + post.length ≤ sizeLine → s.heap.get? TO = some { cls := .type "tuple", data := .seq (pre ++ post).toArray } →
      (∀ h' tk, h'.objs.size = s.heap.objs.size → h'.get? TO = some { cls := .type "tuple", data := .seq (pre ++ colAt rows j).toArray } → (∀ c o, c ≠ TO → (∀ r ∈ rows, c ≠ r.it) → s.heap.get? c = some o → h'.get? c = some o) → (∀ r ∈ rows, r.at h' (j + 1)) → Q I0 { s with heap := h', toks := tk }) →
      wpAny (model P w) A (forIn ((rows.map fun r => Value.ref r.it).zipIdx k) I0 body) Q E s
  | [], k, pre, post, s, _, _, _, _, _, hpl, _, hT, q => by
    rw [List.map_nil, List.zipIdx_nil, List.forIn_nil]
    have e : post = [] := List.eq_nil_of_length_eq_zero hpl
    subst e
    exact wpAny_pure (q s.heap s.toks rfl (by simpa [colAt] using hT) (fun c o _ _ e => e) (fun r hr => nomatch hr))
  | r :: rs, k, pre, post, s, S, ha, hl, hTO, hkp, hpl, hN, hT, q => by
    rw [List.map_cons, List.zipIdx_cons, List.forIn_cons]
    have D := Row.draws (P := P) (w := w) r hh (fun e => S.l r List.mem_cons_self r List.mem_cons_self e.symm)
    have hne : ∀ r' ∈ rs, r.it ≠ r'.it := (List.pairwise_cons.mp S.it).1
    have hr0 := hTO r List.mem_cons_self
    cases post with
    | nil => exact nomatch hpl
    | cons p0 post =>
    refine wpAny_bind (hb r.it k s _ fun E' => (D.item j s _ E' (hl r List.mem_cons_self) (ha r List.mem_cons_self) fun x h1 tk hx st1 hs1 => ⟨_, by simpa using hN, hs1.extBut TO _ (Ne.symm hr0.1) hT, fun h2 hT2 hs2 => ?_⟩))
    have hx' : r.items.getD j .none = x := by rw [Array.getD_eq_getD_getElem?, hx]; rfl
    have eT : (pre ++ p0 :: post).toArray.setIfInBounds k x = ((pre ++ [x]) ++ post).toArray := by
      subst hkp
      apply Array.toList_inj.mp
      simp
    rw [eT] at hT2
    have hs2 : Heap.SameBut TO h1 h2 := hs2
    refine draw_own hh hb rs (k + 1) (pre ++ [x]) post { s with heap := h2, toks := tk } S.tail (fun r' hr' => Row.at_ext (ha r' (List.mem_cons_of_mem _ hr')) fun b o hq e => hs2.extBut b o ?_ (hs1.extBut b o ?_ e))
      (fun r' hr' => hl r' (List.mem_cons_of_mem _ hr')) (fun r' hr' => hTO r' (List.mem_cons_of_mem _ hr')) (by rw [hkp]; simp) (by simpa using hpl) (by rw [List.length_append, List.length_cons, List.length_nil]; rw [List.length_cons] at hN; omega) hT2 fun h' tk' hz hT' hk hat => ?_
    · rintro rfl
      rcases hq with e | e
      · exact (hTO r' (List.mem_cons_of_mem _ hr')).1 e.symm
      · exact (hTO r' (List.mem_cons_of_mem _ hr')).2 e.symm
    · rintro rfl
      rcases hq with e | e
      · exact hne r' hr' e
      · exact S.l r List.mem_cons_self r' (List.mem_cons_of_mem _ hr') e
    · refine q h' tk' (hz.trans (hs2.1.trans hs1.1)) ?_ (fun c o hc0 hc e => hk c o hc0 (fun r' hr' => hc r' (List.mem_cons_of_mem _ hr')) (hs2.extBut c o hc0 (hs1.extBut c o (hc r List.mem_cons_self) e))) fun r' hr' => ?_
      · have e : pre ++ [x] ++ colAt rs j = pre ++ colAt (r :: rs) j := by
          unfold colAt
          rw [List.map_cons, hx']; simp
        rw [← e]; exact hT'
      · rcases List.mem_cons.mp hr' with rfl | hr'
        · refine Row.at_ext st1 fun b o hq e => hk b o ?_ (fun r2 hr2 => ?_) (hs2.extBut b o ?_ e)
          · rintro rfl
            rcases hq with e | e
            · exact hr0.1 e.symm
            · exact hr0.2 e.symm
          · rintro rfl
            rcases hq with e | e
            · exact hne r2 hr2 e.symm
            · exact S.l r2 (List.mem_cons_of_mem _ hr2) r' List.mem_cons_self e
          · rintro rfl
            rcases hq with e | e
            · exact hr0.1 e.symm
            · exact hr0.2 e.symm
        · exact hat r' hr'
end
end Rk
end
section
set_option linter.all false
set_option autoImplicit false
set_option maxRecDepth 100000
namespace Rk
open PySem PySem.Spec PyProof.Rows L2
abbrev tupO (xs : List Value) : Obj := { cls := .type "tuple", data := .seq xs.toArray }
abbrev refsOf (rows : List Row) : List Value := rows.map fun r => Value.ref r.it
/-- the cells of a zip lie apart -/
structure ZApart (z TI TO : Addr) (rows : List Row) : Prop where
  sep : Sep rows
  TIz : TI ≠ z
  TOz : TO ≠ z
  TITO : TI ≠ TO
  z : ∀ r ∈ rows, r.it ≠ z ∧ r.l ≠ z
  TI : ∀ r ∈ rows, r.it ≠ TI ∧ r.l ≠ TI
  TO : ∀ r ∈ rows, r.it ≠ TO ∧ r.l ≠ TO
/-- what a turn leaves alone -/
def Keeps (z TO : Addr) (rows : List Row) (h h' : Heap) : Prop := ∀ c o, c ≠ z → c ≠ TO → (∀ r ∈ rows, c ≠ r.it) → h.get? c = some o → h'.get? c = some o
section
variable {P : Program} {w : World} {A : Around} {E : Value → Shared → Prop} {s : Shared} {z TI TO : Addr} {rows : List Row} {j : Nat}
theorem at_other {r : Row} {h h' : Heap} {x : Addr} {j : Nat} (a : r.at h j) (hs : Heap.SameBut x h h') (n : r.it ≠ x ∧ r.l ≠ x) : r.at h' j := Row.at_ext a fun b o hq e => hs.extBut b o (by
  rintro rfl
  rcases hq with q | q
  · exact n.1 q.symm
  · exact n.2 q.symm) e
theorem zipN_first {Q : Value → Shared → Prop} (hh : A.handled = none) (D : ZApart z TI TO rows) (hne : rows ≠ []) (hz : IsZip s.heap z TI TO .none) (hTI : s.heap.get? TI = some (tupO (refsOf rows))) {post : List Value} (hpl : post.length = rows.length) (hTO : s.heap.get? TO = some (tupO post))
    (ha : ∀ r ∈ rows, r.at s.heap j) (hl : ∀ r ∈ rows, j < r.items.size) (hsz : rows.length ≤ sizeLine)
    (q : ∀ h' tk, IsZipHeld h' z TI TO s.heap.objs.size false → h'.get? s.heap.objs.size = some (tupO (colAt rows j)) → h'.objs.size = s.heap.objs.size + 1 → (∀ r ∈ rows, r.at h' (j + 1)) → Keeps z TO rows s.heap h' → Q (.ref s.heap.objs.size) { s with heap := h', toks := tk }) :
    wpAny (model P w) A (Builtin.«zip.__next__» ⟨[.ref z], []⟩) (fun fin s' => ∃ v, fin = .done (.ret v) ∧ Q v s') E s := by
  obtain ⟨hp, g, d, tk0, os⟩ := s
  show wpAny _ _ (field (.ref z) 2 >>= _) _ _ _
  refine wpAny_bind (wpAny_field hz rfl (x := .bool false) rfl ?_)
  show wpAny _ _ (field (.ref z) 3 >>= _) _ _ _
  refine wpAny_bind (wpAny_field hz rfl (x := .ref TI) rfl ?_)
  refine wpAny_bind (wpAny_seqItems hTI rfl ?_)
  obtain ⟨r0, rs, rfl⟩ : ∃ r0 rs, rows = r0 :: rs := by
    cases rows with
    | nil => exact absurd rfl hne
    | cons r0 rs => exact ⟨r0, rs, rfl⟩
  show wpAny _ _ (Builtin.SmallTypes.ownedTupleIsFree (.ref z) >>= _) _ _ _
  refine wpAny_bind ?_
  unfold Builtin.SmallTypes.ownedTupleIsFree
  refine wpAny_bind (wpAny_field hz rfl (x := .none) rfl (wpAny_pure ?_))
  simp only [if_true]
  refine wpAny_bind (wpAny_rule (wpAny_bind (wpAny_field hz rfl (x := .ref TO) rfl ?_)))
  refine wpAny_bind (wpAny_setField_rec hz (by simp) fun g0 hz0 hs0 => ?_)
  replace hz0 : IsZip g0 z TI TO .ellipsis := hz0
  replace hs0 : Heap.SameBut z hp g0 := hs0
  have hT0 : g0.get? TO = some (tupO post) := hs0.extBut _ _ D.TOz hTO
  have ha0 : ∀ r ∈ r0 :: rs, r.at g0 j := fun r hr => at_other (ha r hr) hs0 (D.z r hr)
  refine wpAny_bind ?_
  show wpAny _ _ (forIn (List.zipIdx (refsOf (r0 :: rs)) 0) _ _) _ _ _
  refine draw_own (P := P) (w := w) (A := A) (TO := TO) (j := j) hh (fun it k s1 R hq => ?_) (r0 :: rs) 0 [] post ⟨g0, g, d, tk0, os⟩ D.sep ha0 hl D.TO rfl hpl (by rw [hpl]; simpa using hsz) hT0 fun h' tk hz' hT' hk hat => ?_
  · refine wpAny_bind (wpAny_onRaise ?_)
    show wpAny _ _ (Builtin.SmallTypes.nextOf (.ref it) >>= _) _ _ _
    refine wpAny_bind (wpAny_mono (hq (fun _ _ => False)) (fun x s2 ⟨vs, hvz, hv, hR⟩ => wpAny_pure ?_) fun e s2 he => he.elim)
    refine wpAny_bind (wpAny_seqItems hv rfl ?_)
    refine wpAny_bind (wpAny_updateSeq (hz := hvz) (_hz' := by simp only [Array.size_setIfInBounds]; omega) hv rfl (wpAny_bind (wpAny_letGo (wpAny_pure (hR _ ?_ (Heap.SameBut.update ..))))))
    rw [Heap.get?_update_self _ hv rfl]
    simp [Obj.mapSeq]
  · replace hz' : h'.objs.size = g0.objs.size := hz'
    have hT' : h'.get? TO = some (tupO (colAt (r0 :: rs) j)) := hT'
    refine wpAny_bind (wpAny_seqItems (s := ⟨h', g, d, tk, os⟩) hT' rfl ?_)
    refine wpAny_bind (wpAny_newTuple ?_ ?_)
    · have hzz : IsZip h' z TI TO .ellipsis := hk z _ D.TOz.symm (fun r hr e => (D.z r hr).1 e.symm) hz0
      have hzlt : z < h'.objs.size := Heap.lt_size hzz
      have hs : h'.objs.size = hp.objs.size := hz'.trans hs0.1
      show wpAny _ _ (Builtin.SmallTypes.ownedTupleHandOut (.ref z) (.ref h'.objs.size) >>= _) _ _ ⟨h'.push (tupO (colAt (r0 :: rs) j)), g, d, tk, os⟩
      refine wpAny_bind ?_
      unfold Builtin.SmallTypes.ownedTupleHandOut
      have hz6 : IsZip (h'.push (tupO (colAt (r0 :: rs) j))) z TI TO .ellipsis := Heap.get?_push_of_some _ hzz
      refine wpAny_bind (wpAny_setField_rec hz6 (by simp) fun h7 hz7 hs7 => ?_)
      replace hz7 : IsZip h7 z TI TO (rawInt h'.objs.size) := hz7
      refine wpAny_setField_rec hz7 (by simp) fun h8 hz8 hs8 => ?_
      replace hz8 : IsZipHeld h8 z TI TO h'.objs.size false := hz8
      replace hs7 : Heap.SameBut z (h'.push (tupO (colAt (r0 :: rs) j))) h7 := hs7
      replace hs8 : Heap.SameBut z h7 h8 := hs8
      have up : ∀ c o, c ≠ z → h'.get? c = some o → h8.get? c = some o := fun c o c1 e => hs8.extBut _ _ c1 (hs7.extBut _ _ c1 (Heap.get?_push_of_some _ e))
      have hT8 : h8.get? h'.objs.size = some (tupO (colAt (r0 :: rs) j)) := hs8.extBut _ _ (Nat.ne_of_gt hzlt) (hs7.extBut _ _ (Nat.ne_of_gt hzlt) (Heap.get?_push_size _ rfl))
      have h8s : h8.objs.size = h'.objs.size + 1 := by rw [hs8.1, hs7.1, Heap.size_push]
      rw [hs] at hz8 hT8 h8s
      refine wpAny_pure ⟨_, rfl, ?_⟩
      show Q (.ref h'.objs.size) ⟨h8, g, d, tk, os⟩
      rw [hs]
      exact q h8 tk hz8 hT8 h8s (fun r hr => Row.at_ext (hat r hr) fun b o hq e => up b o (by
        rintro rfl
        rcases hq with e | e
        · exact (D.z r hr).1 e.symm
        · exact (D.z r hr).2 e.symm) e) fun c o c1 c2 c3 e => up c o c1 (hk c o c2 c3 (hs0.extBut _ _ c1 e))
    · have : (colAt (r0 :: rs) j).length = (r0 :: rs).length := List.length_map _
      simpa using (by omega : (colAt (r0 :: rs) j).length ≤ sizeLine)
theorem zipN_held {Q : Value → Shared → Prop} {T : Addr} {f : Bool} {oT : Obj} (hh : A.handled = none) (D : ZApart z TI TO rows) (hne : rows ≠ []) (hz : IsZipHeld s.heap z TI TO T f) (hT : s.heap.get? T = some oT) (hTI : s.heap.get? TI = some (tupO (refsOf rows)))
    (ha : ∀ r ∈ rows, r.at s.heap j) (hl : ∀ r ∈ rows, j < r.items.size) (hsz : rows.length ≤ sizeLine)
    (q : ∀ h' tk, IsZipHeld h' z TI TO T true → h'.get? s.heap.objs.size = some (tupO (colAt rows j)) → h'.objs.size = s.heap.objs.size + 1 → (∀ r ∈ rows, r.at h' (j + 1)) → Keeps z TO rows s.heap h' → Q (.ref s.heap.objs.size) { s with heap := h', toks := tk }) :
    wpAny (model P w) A (Builtin.«zip.__next__» ⟨[.ref z], []⟩) (fun fin s' => ∃ v, fin = .done (.ret v) ∧ Q v s') E s := by
  show wpAny _ _ (field (.ref z) 2 >>= _) _ _ _
  refine wpAny_bind (wpAny_field hz rfl (x := .bool false) rfl ?_)
  show wpAny _ _ (field (.ref z) 3 >>= _) _ _ _
  refine wpAny_bind (wpAny_field hz rfl (x := .ref TI) rfl ?_)
  refine wpAny_bind (wpAny_seqItems hTI rfl ?_)
  obtain ⟨r0, rs, rfl⟩ : ∃ r0 rs, rows = r0 :: rs := by
    cases rows with
    | nil => exact absurd rfl hne
    | cons r0 rs => exact ⟨r0, rs, rfl⟩
  show wpAny _ _ (Builtin.SmallTypes.ownedTupleIsFree (.ref z) >>= _) _ _ _
  refine wpAny_bind (PySem.wpAny_tupleHeld_zip hz hT fun h₁ hz₁ hs₁ => ?_)
  simp only [Bool.false_eq_true, if_false]
  refine wpAny_bind ?_
  rw [← Array.forIn_toList]
  have ha1 : ∀ r ∈ r0 :: rs, r.at h₁ j := fun r hr => at_other (ha r hr) hs₁ (D.z r hr)
  refine draw_rows (P := P) (w := w) (A := A) (j := j) (I0 := fun acc => (none, acc)) hh (fun it acc s1 R hq => ?_) (r0 :: rs) #[] { s with heap := h₁ } D.sep ha1 hl fun h' tk hz' hk hat => ?_
  · refine wpAny_bind (wpAny_holding ?_)
    show wpAny _ _ (Builtin.SmallTypes.nextOf (.ref it) >>= _) _ _ _
    exact wpAny_bind (wpAny_mono (hq (fun _ _ => False)) (fun x s2 hR => wpAny_pure (wpAny_pure hR)) fun e s2 he => he.elim)
  · replace hz' : h'.objs.size = h₁.objs.size := hz'
    have hs : h'.objs.size = s.heap.objs.size := hz'.trans hs₁.1
    have el : (#[] ++ (colAt (r0 :: rs) j).toArray : Array Value).toList = colAt (r0 :: rs) j := by simp
    show wpAny _ _ (newTuple (#[] ++ (colAt (r0 :: rs) j).toArray : Array Value).toList >>= _) _ _ _
    rw [el]
    refine wpAny_bind (wpAny_newTuple ?_ ?_)
    · refine wpAny_pure ⟨_, rfl, ?_⟩
      show Q (.ref h'.objs.size) { s with heap := h'.push (tupO (colAt (r0 :: rs) j)), toks := tk }
      have hp : (h'.push (tupO (colAt (r0 :: rs) j))).get? h'.objs.size = some (tupO (colAt (r0 :: rs) j)) := Heap.get?_push_size _ rfl
      have hz4 : (h'.push (tupO (colAt (r0 :: rs) j))).objs.size = h'.objs.size + 1 := Heap.size_push ..
      rw [hs] at hp hz4 ⊢
      exact q _ tk (Heap.get?_push_of_some _ (hk z _ (fun r hr e => (D.z r hr).1 e.symm) hz₁)) hp hz4 (fun r hr => Row.at_ext (hat r hr) fun b o _ e => Heap.get?_push_of_some _ e)
        fun c o c1 _ c3 e => Heap.get?_push_of_some _ (hk c o c3 (hs₁.extBut _ _ c1 e))
    · have : (colAt (r0 :: rs) j).length = (r0 :: rs).length := List.length_map _
      simpa using (by omega : (colAt (r0 :: rs) j).length ≤ sizeLine)
end
end Rk
end
section
set_option linter.all false
set_option autoImplicit false
set_option maxRecDepth 100000
namespace Rk
open PySem PySem.Spec PyProof.Rows L2
section
variable {P : Program} {w : World} {A : Around} {E : Value → Shared → Prop} {s : Shared} {z TI TO : Addr} {r0 : Row} {rs : List Row} {j : Nat}
def IsStop (h : Heap) (e : Addr) : Prop := ∃ o, h.get? e = some o ∧ o.cls = .type "StopIteration"
theorem zipN_stop_first {Q : PySem.Fin → Shared → Prop} (hh : A.handled = none) (D : ZApart z TI TO (r0 :: rs)) (hz : IsZip s.heap z TI TO .none) (hTI : s.heap.get? TI = some (tupO (refsOf (r0 :: rs)))) {post : List Value} (hTO : s.heap.get? TO = some (tupO post))
    (ha : r0.at s.heap r0.items.size)
    (q : ∀ h' e, Keeps z TO (r0 :: rs) s.heap h' → IsStop h' e → E (.ref e) { s with heap := h' }) : wpAny (model P w) A (Builtin.«zip.__next__» ⟨[.ref z], []⟩) Q E s := by
  obtain ⟨hp, g, d, tk0, os⟩ := s
  show wpAny _ _ (field (.ref z) 2 >>= _) _ _ _
  refine wpAny_bind (wpAny_field hz rfl (x := .bool false) rfl ?_)
  show wpAny _ _ (field (.ref z) 3 >>= _) _ _ _
  refine wpAny_bind (wpAny_field hz rfl (x := .ref TI) rfl ?_)
  refine wpAny_bind (wpAny_seqItems hTI rfl ?_)
  show wpAny _ _ (Builtin.SmallTypes.ownedTupleIsFree (.ref z) >>= _) _ _ _
  refine wpAny_bind ?_
  unfold Builtin.SmallTypes.ownedTupleIsFree
  refine wpAny_bind (wpAny_field hz rfl (x := .none) rfl (wpAny_pure ?_))
  simp only [if_true]
  refine wpAny_bind (wpAny_rule (wpAny_bind (wpAny_field hz rfl (x := .ref TO) rfl ?_)))
  refine wpAny_bind (wpAny_setField_rec hz (by simp) fun g0 hz0 hs0 => ?_)
  replace hz0 : IsZip g0 z TI TO .ellipsis := hz0
  replace hs0 : Heap.SameBut z hp g0 := hs0
  have hm := D.z r0 List.mem_cons_self
  have ha0 : r0.at g0 r0.items.size := at_other ha hs0 hm
  refine wpAny_bind ?_
  show wpAny _ _ (forIn (List.zipIdx (refsOf (r0 :: rs)) 0) _ _) _ _ _
  rw [refsOf, List.map_cons, List.zipIdx_cons, List.forIn_cons]
  refine wpAny_bind (wpAny_bind (wpAny_onRaise ?_))
  show wpAny _ _ (Builtin.SmallTypes.nextOf (.ref r0.it) >>= _) _ _ ⟨g0, g, d, tk0, os⟩
  have Dr := Row.draws (P := P) (w := w) (A := A) r0 hh (fun e => D.sep.l r0 List.mem_cons_self r0 List.mem_cons_self e.symm)
  refine wpAny_bind (Dr.done ⟨g0, g, d, tk0, os⟩ _ _ ha0 fun q1 e hq1 he => ?_)
  replace hq1 : Heap.ExtBut r0.it g0 q1 := hq1
  obtain ⟨oe, hoe, hce⟩ := he
  replace hoe : q1.get? e = some oe := hoe
  have hzq : IsZip q1 z TI TO .ellipsis := hq1 _ _ hm.1.symm hz0
  have hez : e ≠ z := fun x => by subst x; rw [hzq] at hoe; cases hoe; simp at hce
  refine wpAny_setField_rec (s := ⟨q1, g, d, tk0, os⟩) hzq (by simp) fun q2 _ hq2 => ?_
  replace hq2 : Heap.SameBut z q1 q2 := hq2
  exact q q2 e (fun c o c1 c2 c3 x => hq2.extBut _ _ c1 (hq1 _ _ (c3 r0 List.mem_cons_self) (hs0.extBut _ _ c1 x))) ⟨oe, hq2.extBut _ _ hez hoe, hce⟩
theorem zipN_stop_held {Q : PySem.Fin → Shared → Prop} {T : Addr} {f : Bool} {oT : Obj} (hh : A.handled = none) (D : ZApart z TI TO (r0 :: rs)) (hz : IsZipHeld s.heap z TI TO T f) (hT : s.heap.get? T = some oT) (hTI : s.heap.get? TI = some (tupO (refsOf (r0 :: rs))))
    (ha : r0.at s.heap r0.items.size)
    (q : ∀ h' e, Keeps z TO (r0 :: rs) s.heap h' → IsStop h' e → E (.ref e) { s with heap := h' }) : wpAny (model P w) A (Builtin.«zip.__next__» ⟨[.ref z], []⟩) Q E s := by
  show wpAny _ _ (field (.ref z) 2 >>= _) _ _ _
  refine wpAny_bind (wpAny_field hz rfl (x := .bool false) rfl ?_)
  show wpAny _ _ (field (.ref z) 3 >>= _) _ _ _
  refine wpAny_bind (wpAny_field hz rfl (x := .ref TI) rfl ?_)
  refine wpAny_bind (wpAny_seqItems hTI rfl ?_)
  show wpAny _ _ (Builtin.SmallTypes.ownedTupleIsFree (.ref z) >>= _) _ _ _
  refine wpAny_bind (PySem.wpAny_tupleHeld_zip hz hT fun h₁ hz₁ hs₁ => ?_)
  simp only [Bool.false_eq_true, if_false]
  refine wpAny_bind ?_
  rw [← Array.forIn_toList]
  have hm := D.z r0 List.mem_cons_self
  have ha0 : r0.at h₁ r0.items.size := at_other ha hs₁ hm
  show wpAny _ _ (forIn (refsOf (r0 :: rs)) _ _) _ _ _
  rw [refsOf, List.map_cons, List.forIn_cons]
  refine wpAny_bind (wpAny_bind (wpAny_holding ?_))
  show wpAny _ _ (Builtin.SmallTypes.nextOf (.ref r0.it) >>= _) _ _ { s with heap := h₁ }
  have Dr := Row.draws (P := P) (w := w) (A := A) r0 hh (fun e => D.sep.l r0 List.mem_cons_self r0 List.mem_cons_self e.symm)
  refine wpAny_bind (Dr.done { s with heap := h₁ } _ _ ha0 fun q1 e hq1 he => ?_)
  replace hq1 : Heap.ExtBut r0.it h₁ q1 := hq1
  exact q q1 e (fun c o c1 c2 c3 x => hq1 _ _ (c3 r0 List.mem_cons_self) (hs₁.extBut _ _ c1 x)) he
/-- no rows -/
theorem zipN_none {Q : PySem.Fin → Shared → Prop} (hz : IsZip s.heap z TI TO .none) (hTI : s.heap.get? TI = some (tupO []))
    (q : ∀ h' e, (∀ c o, s.heap.get? c = some o → h'.get? c = some o) → IsStop h' e → E (.ref e) { s with heap := h' }) (hh : A.handled = none) : wpAny (model P w) A (Builtin.«zip.__next__» ⟨[.ref z], []⟩) Q E s := by
  show wpAny _ _ (field (.ref z) 2 >>= _) _ _ _
  refine wpAny_bind (wpAny_field hz rfl (x := .bool false) rfl ?_)
  show wpAny _ _ (field (.ref z) 3 >>= _) _ _ _
  refine wpAny_bind (wpAny_field hz rfl (x := .ref TI) rfl ?_)
  refine wpAny_bind (wpAny_seqItems hTI rfl ?_)
  refine wpAny_bind (wpAny_rule ?_)
  refine wpAny_bind ?_
  unfold Builtin.SmallTypes.stopIteration
  refine wpAny_bind ?_
  simp only [newExc, newTuple]
  refine wpAny_bind (wpAny_newObj_type ?_ (by size_fits))
  refine wpAny_bind (m := firstArgMember _ _) (wpAny_of_eq (a := Value.none) (by first | rfl | (simp only [firstArgMember]; rfl)) ?_)
  refine wpAny_newObj_type ?_ (by size_fits)
  simp only [raiseNew]
  refine wpAny_bind (wpAny_handled ?_)
  first | rw [show A.in1.handled = none from hh] | rw [hh]
  refine wpAny_bind (wpAny_pure (wpAny_throw ?_))
  exact q _ _ (fun c o e => Heap.get?_push_of_some _ (Heap.get?_push_of_some _ e)) ⟨_, Heap.get?_push_size _ rfl, rfl⟩
end
/-! the state of a zip -/
structure ZS (z TI TO S : Addr) (rows : List Row) (h : Heap) (j : Nat) : Prop where
  sl : S < h.objs.size
  tl : TO < h.objs.size
  em : rows = [] → IsZip h z TI TO .none
  ti : h.get? TI = some (tupO (refsOf rows))
  at' : ∀ r ∈ rows, r.at h j
  st : (IsZip h z TI TO .none ∧ ∃ post : List Value, post.length = rows.length ∧ h.get? TO = some (tupO post)) ∨ ∃ T f oT, IsZipHeld h z TI TO T f ∧ h.get? T = some oT ∧ T ≠ z ∧ T ≠ TO ∧ T ≠ S ∧ ∀ r ∈ rows, T ≠ r.it
section
variable {P : Program} {w : World} {A : Around} {E : Value → Shared → Prop} {s : Shared} {z TI TO S : Addr} {rows : List Row} {j m : Nat}
theorem ZS.type (Z : ZS z TI TO S rows s.heap j) : s.TypeIs (.ref z) "zip" := by
  rcases Z.st with ⟨h, _⟩ | ⟨T, f, oT, h, _⟩
  · exact ⟨_, h, rfl⟩
  · exact ⟨_, h, rfl⟩
theorem zip_item {Q : Option Value → Shared → Prop} (hh : A.handled = none) (D : ZApart z TI TO rows) (hne : rows ≠ []) (Z : ZS z TI TO S rows s.heap j) (hl : ∀ r ∈ rows, j < r.items.size) (hsz : rows.length ≤ sizeLine)
    (q : ∀ h' tk, ZS z TI TO S rows h' (j + 1) → h'.get? s.heap.objs.size = some (tupO (colAt rows j)) → h'.objs.size = s.heap.objs.size + 1 → Keeps z TO rows s.heap h' → Q (some (.ref s.heap.objs.size)) { s with heap := h', toks := tk }) : wpAny (model P w) A (pyNext (.ref z)) Q E s := by
  have hT := Z.type
  have lt : ∀ {c o}, s.heap.get? c = some o → s.heap.objs.size ≠ c := fun e => Nat.ne_of_gt (Heap.lt_size e)
  have nit : ∀ r ∈ rows, s.heap.objs.size ≠ r.it := fun r hr => by
    have := Z.at' r hr
    obtain ⟨it, l, items, lst⟩ := r
    cases lst with
    | true => obtain ⟨⟨o, e, _⟩, _⟩ := this; exact lt e
    | false => obtain ⟨⟨o, e, _⟩, _⟩ := this; exact lt e
  unfold pyNext
  refine wpAny_bind (wpAny_attempt (wpAny_callSpecial?_slot (name := Str.ofString "__next__") hT F.slot_zip_next
    (wpAny_call_entry F.slot_zip_next hT F.entry_zip_next ?_ (F.args_zip_next_1 _))))
  rcases Z.st with ⟨hz, post, hpl, hTO⟩ | ⟨T, f, oT, hz, hTl, t1, t2, t4, t3⟩
  · refine zipN_first hh D hne hz Z.ti hpl hTO Z.at' hl hsz fun h' tk hz' hT' hs' ha' hk => wpAny_pure (q h' tk ⟨by rw [hs']; exact Nat.lt_succ_of_lt Z.sl, by rw [hs']; exact Nat.lt_succ_of_lt Z.tl, fun e => absurd e hne, hk _ _ D.TIz D.TITO (fun r hr e => (D.TI r hr).1 e.symm) Z.ti, ha', .inr ⟨_, _, _, hz', hT', lt hz, lt hTO, Nat.ne_of_gt Z.sl, nit⟩⟩ hT' hs' hk)
  · refine zipN_held hh D hne hz hTl Z.ti Z.at' hl hsz fun h' tk hz' hT' hs' ha' hk => wpAny_pure (q h' tk ⟨by rw [hs']; exact Nat.lt_succ_of_lt Z.sl, by rw [hs']; exact Nat.lt_succ_of_lt Z.tl, fun e => absurd e hne, hk _ _ D.TIz D.TITO (fun r hr e => (D.TI r hr).1 e.symm) Z.ti, ha', .inr ⟨T, _, _, hz', hk _ _ t1 t2 t3 hTl, t1, t2, t4, t3⟩⟩ hT' hs' hk)
theorem zip_stop {Q : Option Value → Shared → Prop} (hh : A.handled = none) (D : ZApart z TI TO rows) (Z : ZS z TI TO S rows s.heap j) (hl : ∀ r ∈ rows, r.items.size = j)
    (q : ∀ h', Keeps z TO rows s.heap h' → Q none { s with heap := h' }) : wpAny (model P w) A (pyNext (.ref z)) Q E s := by
  have hT := Z.type
  cases rows with
  | nil =>
    unfold pyNext
    refine wpAny_bind (wpAny_attempt (wpAny_callSpecial?_slot (name := Str.ofString "__next__") hT F.slot_zip_next
      (wpAny_call_entry F.slot_zip_next hT F.entry_zip_next (zipN_none (Z.em rfl) Z.ti (fun h' e hk ⟨o, ho, hc⟩ => ?_) hh) (F.args_zip_next_1 _))))
    refine wpAny_bind (wpAny_isInstance (T := "StopIteration") (b := true) ⟨o, ho, hc⟩ isSubtype_stop ?_)
    exact wpAny_pure (q _ fun c o _ _ _ e => hk c o e)
  | cons r0 rs =>
  have ha : r0.at s.heap r0.items.size := by rw [hl r0 List.mem_cons_self]; exact Z.at' r0 List.mem_cons_self
  unfold pyNext
  refine wpAny_bind (wpAny_attempt (wpAny_callSpecial?_slot (name := Str.ofString "__next__") hT F.slot_zip_next
    (wpAny_call_entry F.slot_zip_next hT F.entry_zip_next ?_ (F.args_zip_next_1 _))))
  have fin : ∀ h' e, Keeps z TO (r0 :: rs) s.heap h' → IsStop h' e → wpAny (model P w) A (isInstance (.ref e) (.type "StopIteration") >>= fun b => if b = true then pure none else throw (Value.ref e)) Q E { s with heap := h' } := fun h' e hk ⟨o, ho, hc⟩ => by
    refine wpAny_bind (wpAny_isInstance (T := "StopIteration") (b := true) ⟨o, ho, hc⟩ isSubtype_stop ?_)
    exact wpAny_pure (q _ hk)
  rcases Z.st with ⟨hz, post, hpl, hTO⟩ | ⟨T, f, oT, hz, hTl, t1, t2, t4, t3⟩
  · exact zipN_stop_first hh D hz Z.ti hTO ha fun h' e hk he => fin h' e hk he
  · exact zipN_stop_held hh D hz hTl Z.ti ha fun h' e hk he => fin h' e hk he
end
end Rk
end
section
set_option linter.all false
set_option autoImplicit false
set_option maxRecDepth 100000
namespace Rk
open PySem PySem.Spec PyProof.Rows L2
theorem zip_no_len : typeLookup (.type "zip") "__len__" = pure none := by rw [typeLookup_type, builtinLookup_eq_fast]; kernel_rfl
theorem zip_no_hint : typeLookup (.type "zip") "__length_hint__" = pure none := by rw [typeLookup_type, builtinLookup_eq_fast]; kernel_rfl
theorem tc_zip (us : List Value) : checkTypeCall "zip" ⟨us, []⟩ = pure () := by kernel_rfl
theorem nc_zip (us : List Value) : checkBuiltinCall "zip.__new__" ⟨.type "zip" :: us, []⟩ = pure () := by
  cases us with
  | nil => kernel_rfl
  | cons a r => kernel_rfl
theorem ao_zip (obj : Value) (us : List Value) : argsOk "object.__init__" ⟨obj :: us, []⟩ := by unfold argsOk; kernel_rfl
section
variable {P : Program} {w : World} {A : Around} {E : Value → Shared → Prop} {s : Shared} {z TI TO S : Addr} {rows : List Row} {j m : Nat}
abbrev lstO (xs : Array Value) (c : Nat) : Obj := { cls := .type "list", dict := none, data := .seq xs c, slots := #[] }
/-- the columns laid so far -/
structure Cols (n0 : Nat) (z TO S : Addr) (rows : List Row) (h : Heap) (as : List Addr) : Prop where
  le : n0 ≤ h.objs.size
  ge : ∀ a ∈ as, n0 ≤ a
  nd : as.Nodup
  at' : ∀ (i : Nat) (a : Addr), as[i]? = some a → h.get? a = some (tupO (colAt rows i)) ∧ a ≠ z ∧ a ≠ TO ∧ a ≠ S ∧ ∀ r ∈ rows, a ≠ r.it
/-- the list lies apart -/
structure SApart (z TI TO S : Addr) (rows : List Row) : Prop where
  z : S ≠ z
  TI : S ≠ TI
  TO : S ≠ TO
  r : ∀ r ∈ rows, S ≠ r.it ∧ S ≠ r.l
def Keeps2 (z TO S : Addr) (rows : List Row) (h h' : Heap) : Prop := ∀ c o, c ≠ z → c ≠ TO → c ≠ S → (∀ r ∈ rows, c ≠ r.it) → h.get? c = some o → h'.get? c = some o
theorem ZS.keep {h h' : Heap} (Z : ZS z TI TO S rows h j) (DS : SApart z TI TO S rows) (hs : Heap.SameBut S h h') : ZS z TI TO S rows h' j := by
  refine ⟨by rw [hs.1]; exact Z.sl, by rw [hs.1]; exact Z.tl, fun e => hs.extBut _ _ DS.z.symm (Z.em e), hs.extBut _ _ DS.TI.symm Z.ti, fun r hr => at_other (Z.at' r hr) hs ⟨(DS.r r hr).1.symm, (DS.r r hr).2.symm⟩, ?_⟩
  rcases Z.st with ⟨hz, post, hp, hTO⟩ | ⟨T, f, oT, hz, hT, t1, t2, t3, t4⟩
  · exact .inl ⟨hs.extBut _ _ DS.z.symm hz, post, hp, hs.extBut _ _ DS.TO.symm hTO⟩
  · exact .inr ⟨T, f, oT, hs.extBut _ _ DS.z.symm hz, hs.extBut _ _ t3 hT, t1, t2, t3, t4⟩
theorem zip_self {Q : Value → Shared → Prop} (hT : s.TypeIs (.ref z) "zip") (h : Q (.ref z) s) : wpAny (model P w) A (pyIter (.ref z)) Q E s := by
  refine wpAny_pyIter_slot hT F.slot_zip_iter (wpAny_call_entry F.slot_zip_iter hT F.entry_zip_iter (?_ : wpAny _ _ (ret (.ref z)) _ _ s) (F.args_zip_iter_1 _))
  exact wpAny_pure ⟨_, rfl, "zip", _, hT, F.slot_zip_next.lookup, h⟩
/-- list(zip)'s loop -/
theorem zip_loop {n0 : Nat} {R : Result → Shared → Prop} {res : Value} {h0 : Heap} (hh : A.in1.handled = none) (D : ZApart z TI TO rows) (DS : SApart z TI TO S rows) (hne : rows ≠ [] ∨ m = 0) (hm : ∀ r ∈ rows, r.items.size = m) (hsz : rows.length ≤ sizeLine) (hmz : m ≤ sizeLine)
    (q : ∀ (h' : Heap) (tk : Nat) (as : List Addr) (c' : Nat), as.length = m → h'.get? S = some (lstO (as.map Value.ref).toArray c') → as.Nodup → (∀ a ∈ as, n0 ≤ a) → (∀ (i : Nat) (a : Addr), as[i]? = some a → h'.get? a = some (tupO (colAt rows i))) → Keeps2 z TO S rows h0 h' → R (.ok (.ret res)) { s with heap := h', toks := tk }) :
    ∀ (k j : Nat) (h : Heap) (tk : Nat) (as : List Addr) (c : Nat), m - j = k → j ≤ m → as.length = j → ZS z TI TO S rows h j → h.get? S = some (lstO (as.map Value.ref).toArray c) → Cols n0 z TO S rows h as → Keeps2 z TO S rows h0 h →
      codeAny (model P w) A (.builtin "list.extend.loop" ⟨[.ref S, .ref z, res], []⟩) R { s with heap := h, toks := tk } := by
  intro k
  induction k with
  | zero =>
    intro j h tk as c hk hj hl Z hS C K
    have hjm : j = m := by omega
    subst hjm
    refine codeAny_builtin F.entry_extend_loop ?_
    rw [Around.under_plainId F.plain_extend_loop _]
    show wpAny _ A.in1 (pyNext (.ref z) >>= _) _ _ { s with heap := h, toks := tk }
    refine wpAny_bind (zip_stop hh D Z hm fun h' hk' => ?_)
    replace hk' : Keeps z TO rows h h' := hk'
    refine wpAny_pure (q h' tk as c hl (hk' S _ DS.z DS.TO (fun r hr => (DS.r r hr).1) hS) C.nd C.ge (fun i a hi => ?_) fun c o c1 c2 c3 c4 e => hk' c o c1 c2 c4 (K c o c1 c2 c3 c4 e))
    obtain ⟨a1, a2, a3, a4, a5⟩ := C.at' i a hi
    exact hk' a _ a2 a3 a5 a1
  | succ k ih =>
    intro j h tk as c hk hj hl Z hS C K
    have hlt : j < m := by omega
    refine codeAny_builtin F.entry_extend_loop ?_
    rw [Around.under_plainId F.plain_extend_loop _]
    show wpAny _ A.in1 (pyNext (.ref z) >>= _) _ _ { s with heap := h, toks := tk }
    have lt : ∀ {c o}, h.get? c = some o → h.objs.size ≠ c := fun e => Nat.ne_of_gt (Heap.lt_size e)
    refine wpAny_bind (zip_item hh D (hne.resolve_right (by omega)) Z (fun r hr => by rw [hm r hr]; exact hlt) hsz fun h' tk' Z' hT hs hk' => ?_)
    replace hT : h'.get? h.objs.size = some (tupO (colAt rows j)) := hT
    replace hk' : Keeps z TO rows h h' := hk'
    have hS' : h'.get? S = some (lstO (as.map Value.ref).toArray c) := hk' S _ DS.z DS.TO (fun r hr => (DS.r r hr).1) hS
    have hsm : (as.map Value.ref).toArray.size = j := by simp [hl]
    show wpAny _ A.in1 (updateSeq S (·.push (.ref h.objs.size)) >>= _) _ _ _
    refine wpAny_bind (wpAny_updateSeq (hz := by rw [hsm]; omega) (_hz' := by show ((as.map Value.ref).toArray.push (.ref h.objs.size)).size ≤ _; rw [Array.size_push, hsm]; omega) hS' rfl ?_)
    have hsb : Heap.SameBut S h' (h'.update S (Obj.mapSeq fun x => x.push (.ref h.objs.size))) := Heap.SameBut.update ..
    obtain ⟨c2, hS2⟩ : ∃ c2, (h'.update S (Obj.mapSeq fun x => x.push (.ref h.objs.size))).get? S = some (lstO ((as ++ [h.objs.size]).map Value.ref).toArray c2) := by
      have e2 := get?_update_seq (c := "list") hS' (fun x => x.push (.ref h.objs.size))
      rw [show (as.map Value.ref).toArray.push (.ref h.objs.size) = ((as ++ [h.objs.size]).map Value.ref).toArray by simp] at e2
      exact ⟨_, e2⟩
    have nit : ∀ r ∈ rows, h.objs.size ≠ r.it := fun r hr => by
      have := Z.at' r hr
      obtain ⟨it, l, items, lst⟩ := r
      cases lst with
      | true => obtain ⟨⟨o, e, _⟩, _⟩ := this; exact lt e
      | false => obtain ⟨⟨o, e, _⟩, _⟩ := this; exact lt e
    have nz : h.objs.size ≠ z := by
      obtain ⟨o, e, _⟩ := Z.type (s := { s with heap := h })
      exact lt e
    refine wpAny_pure ⟨plainId_quiet F.plain_extend_loop _, ih (j + 1) _ tk' (as ++ [h.objs.size]) c2 (by omega) hlt (by simp [hl]) (Z'.keep DS hsb) hS2 ⟨?_, ?_, ?_, fun i a hi => ?_⟩ fun c o c1 c2 c3 c4 e => hsb.extBut c o c3 (hk' c o c1 c2 c4 (K c o c1 c2 c3 c4 e))⟩
    · rw [hsb.1]
      have hs : h'.objs.size = h.objs.size + 1 := hs
      rw [hs]
      exact Nat.le_succ_of_le C.le
    · intro a ha
      rcases List.mem_append.mp ha with ha | ha
      · exact C.ge a ha
      · rw [List.mem_singleton.mp ha]; exact C.le
    · rw [List.nodup_append]
      refine ⟨C.nd, List.pairwise_singleton _ _, fun a ha b hb => ?_⟩
      rw [List.mem_singleton.mp hb]
      obtain ⟨i, hi⟩ := List.getElem?_of_mem ha
      exact fun e => lt (C.at' i a hi).1 e.symm
    rcases Nat.lt_or_ge i as.length with hi2 | hi2
    · rw [List.getElem?_append_left hi2] at hi
      obtain ⟨a1, a2, a3, a4, a5⟩ := C.at' i a hi
      exact ⟨hsb.extBut a _ a4 (hk' a _ a2 a3 a5 a1), a2, a3, a4, a5⟩
    · rw [List.getElem?_append_right hi2] at hi
      have hi3 : i - as.length = 0 := by
        have := (List.getElem?_eq_some_iff.mp hi).1
        simp at this
        omega
      rw [hi3] at hi
      have ea : h.objs.size = a := by simpa using hi
      have ei : i = j := by omega
      subst ea
      rw [ei]
      exact ⟨hsb.extBut _ _ (lt hS) hT, nz, Nat.ne_of_gt Z.tl, lt hS, nit⟩
/-- what list(zip) leaves -/
def LZ (S : Addr) (rows : List Row) (m : Nat) (h0 h' : Heap) : Prop := ∃ (as : List Addr) (c' : Nat), as.length = m ∧ as.Nodup ∧ h'.get? S = some (lstO (as.map Value.ref).toArray c') ∧ (∀ a ∈ as, h0.objs.size ≤ a) ∧ ∀ (i : Nat) (a : Addr), as[i]? = some a → h'.get? a = some (tupO (colAt rows i))
theorem zip_extend {R : Result → Shared → Prop} {res : Value} {c0 : Nat} (hh : A.in1.handled = none) (D : ZApart z TI TO rows) (DS : SApart z TI TO S rows) (hne : rows ≠ [] ∨ m = 0) (hm : ∀ r ∈ rows, r.items.size = m) (hsz : rows.length ≤ sizeLine) (hmz : m ≤ sizeLine)
    (Z : ZS z TI TO S rows s.heap 0) (hS : s.heap.get? S = some (lstO #[] c0))
    (q : ∀ h' tk, LZ S rows m s.heap h' → Keeps2 z TO S rows s.heap h' → R (.ok (.ret res)) { s with heap := h', toks := tk }) :
    wpAny (model P w) A.in1 (Builtin.List.listExtendWith (.ref S) (.ref z) res)
      (fun fin s' => match fin with | .done f => R (.ok f) s' | .again c' => c'.quiet = true ∧ codeAny (model P w) A c' R s') (fun e s' => R (.error e) s') s := by
  have hT := Z.type
  unfold Builtin.List.listExtendWith
  refine wpAny_bind (wpAny_typeOf hT ?_)
  have h1 : Builtin.List.listSameRef (.ref S) (.ref z) = false := by simp [Builtin.List.listSameRef, DS.z]
  have h2 : (Value.type "zip" == Value.type "list") = false := by decide
  have h3 : (Value.type "zip" == Value.type "tuple") = false := by decide
  simp only [h1, h2, h3, Bool.or_false, Bool.false_eq_true, if_false]
  have hzz : IsZip s.heap z TI TO .none ∨ ∃ T f, IsZipHeld s.heap z TI TO T f := by
    rcases Z.st with ⟨h, _⟩ | ⟨T, f, oT, h, _⟩
    · exact .inl h
    · exact .inr ⟨T, f, h⟩
  refine wpAny_bind (?_ : wpAny (model P w) A.in1 (pyIter (.ref z)) _ _ _)
  refine zip_self hT ?_
  refine wpAny_bind (wpAny_holding ?_)
  unfold Builtin.List.listLengthHint
  refine wpAny_bind (wpAny_specialOf hT zip_no_len ?_)
  show wpAny _ A.in1 (specialOf (Value.ref z) (Str.ofString "__length_hint__") >>= _) _ _ _
  refine wpAny_bind (wpAny_specialOf hT zip_no_hint ?_)
  refine wpAny_pure ?_
  show wpAny _ A.in1 (rule "list.extend.makes-room" >>= fun _ => Builtin.List.listTouch (.ref S) >>= fun _ =>
    again (.builtin "list.extend.loop" ⟨[.ref S, .ref z, res], []⟩)) _ _ _
  refine wpAny_bind (wpAny_rule (wpAny_bind ?_))
  show wpAny _ A.in1 (updateSeq S (·.push .none) >>= fun _ => updateSeq S (·.pop)) _ _ _
  refine wpAny_bind (wpAny_updateSeq (hz := by show (#[] : Array Value).size ≤ _; simp) (_hz' := by show ((#[] : Array Value).push .none).size ≤ _; simp) hS rfl ?_)
  have hS2 := get?_update_seq (c := "list") hS (fun x => x.push .none)
  refine wpAny_updateSeq (hz := by show ((#[] : Array Value).push .none).size ≤ _; simp [sizeLine_eq]) (_hz' := by show (((#[] : Array Value).push .none).pop).size ≤ _; simp) hS2 rfl ?_
  have hS3 := get?_update_seq (c := "list") hS2 (fun x => x.pop)
  have hb : Heap.SameBut S s.heap ((s.heap.update S (Obj.mapSeq (·.push Value.none))).update S (Obj.mapSeq (·.pop))) := by
    have a1 : Heap.SameBut S s.heap (s.heap.update S (Obj.mapSeq (·.push Value.none))) := Heap.SameBut.update ..
    have a2 : Heap.SameBut S (s.heap.update S (Obj.mapSeq (·.push Value.none))) ((s.heap.update S (Obj.mapSeq (·.push Value.none))).update S (Obj.mapSeq (·.pop))) := Heap.SameBut.update ..
    exact ⟨a2.1.trans a1.1, fun b hb => (a2.2 b hb).trans (a1.2 b hb)⟩
  refine wpAny_pure ⟨plainId_quiet F.plain_extend_loop _, zip_loop (n0 := s.heap.objs.size) (s := s) (h0 := s.heap) hh D DS hne hm hsz hmz (fun h' tk as c' hl hS' nd ge at' K => q h' tk ⟨as, c', hl, nd, hS', ge, at'⟩ K) m 0 _ s.toks [] _ (by omega) (Nat.zero_le _) rfl (Z.keep DS hb) hS3
    ⟨by rw [hb.1]; exact Nat.le_refl _, fun a ha => (nomatch ha), .nil, fun i a hi => by simp at hi⟩ fun c o c1 c2 c3 c4 e => hb.extBut c o c3 e⟩
end
end Rk
end
section
set_option linter.all false
set_option autoImplicit false
set_option maxRecDepth 100000
namespace Rk
open PySem PySem.Spec PyProof.Rows L2
/-! ### zip(*rows) begins -/
abbrev Sq := Addr × Array Value × Bool
def itO (x : Sq) : Obj := { cls := .type (if x.2.2 then "list_iterator" else "tuple_iterator"), data := .fields #[.ref x.1, .int 0 0] }
def pushAll (h : Heap) : List Sq → Heap
  | [] => h
  | x :: xs => pushAll (h.push (itO x)) xs
def mkRows (base : Nat) : List Sq → List Row
  | [] => []
  | x :: xs => ⟨base, x.1, x.2.1, x.2.2⟩ :: mkRows (base + 1) xs
def SqOk (h : Heap) (x : Sq) : Prop := match x.2.2 with
  | true => h.IsList x.1 x.2.1
  | false => h.IsTuple x.1 x.2.1
theorem SqOk.ext {h h' : Heap} {x : Sq} (a : SqOk h x) (k : ∀ b o, h.get? b = some o → h'.get? b = some o) : SqOk h' x := by
  obtain ⟨l, items, lst⟩ := x
  cases lst with
  | true => exact Heap.IsList.at a fun o e => k l o e
  | false => exact Heap.IsTuple.at a fun o e => k l o e
theorem SqOk.lt {h : Heap} {x : Sq} (a : SqOk h x) : x.1 < h.objs.size := by
  obtain ⟨l, items, lst⟩ := x
  cases lst with
  | true => obtain ⟨o, e, _⟩ := a; exact Heap.lt_size e
  | false => obtain ⟨o, e, _⟩ := a; exact Heap.lt_size e
theorem pushAll_size : ∀ (xs : List Sq) (h : Heap), (pushAll h xs).objs.size = h.objs.size + xs.length
  | [], h => rfl
  | x :: xs, h => by
    rw [pushAll, pushAll_size xs, Heap.size_push, List.length_cons]
    exact Nat.add_right_comm _ _ _
theorem pushAll_keep : ∀ (xs : List Sq) (h : Heap) (b : Addr) (o : Obj), h.get? b = some o → (pushAll h xs).get? b = some o
  | [], h, b, o, e => e
  | x :: xs, h, b, o, e => pushAll_keep xs _ b o (Heap.get?_push_of_some _ e)
theorem mkRows_len : ∀ (xs : List Sq) (base : Nat), (mkRows base xs).length = xs.length
  | [], _ => rfl
  | x :: xs, base => by rw [mkRows, List.length_cons, List.length_cons, mkRows_len xs]
theorem mkRows_it : ∀ {xs : List Sq} {base : Nat} {r : Row}, r ∈ mkRows base xs → base ≤ r.it ∧ r.it < base + xs.length ∧ ∃ x ∈ xs, r.l = x.1 ∧ r.items = x.2.1 ∧ r.lst = x.2.2
  | [], _, r, h => nomatch h
  | x :: xs, base, r, h => by
    rcases List.mem_cons.mp h with rfl | h
    · exact ⟨Nat.le_refl _, Nat.lt_add_of_pos_right (Nat.succ_pos _), x, List.mem_cons_self, rfl, rfl, rfl⟩
    · obtain ⟨h1, h2, y, hy, e⟩ := mkRows_it h
      refine ⟨Nat.le_of_succ_le h1, ?_, y, List.mem_cons_of_mem _ hy, e⟩
      rw [List.length_cons]
      exact Nat.lt_of_lt_of_le h2 (by omega)
theorem mkRows_pw : ∀ (xs : List Sq) (base : Nat), (mkRows base xs).Pairwise fun a b => a.it ≠ b.it
  | [], _ => .nil
  | x :: xs, base => by
    refine List.pairwise_cons.mpr ⟨fun r hr e => ?_, mkRows_pw xs _⟩
    have := (mkRows_it hr).1
    have e : base = r.it := e
    rw [← e] at this
    exact absurd this (Nat.not_succ_le_self _)
theorem mkRows_items : ∀ (xs : List Sq) (base : Nat), (mkRows base xs).map (fun r => r.items) = xs.map fun x => x.2.1
  | [], _ => rfl
  | x :: xs, base => by rw [mkRows, List.map_cons, List.map_cons, mkRows_items xs]
theorem mkRows_at : ∀ {xs : List Sq} {h : Heap}, (∀ x ∈ xs, SqOk h x) → ∀ r ∈ mkRows h.objs.size xs, r.at (pushAll h xs) 0
  | [], h, _, r, hr => nomatch hr
  | x :: xs, h, hx, r, hr => by
    have hsz : (h.push (itO x)).objs.size = h.objs.size + 1 := Heap.size_push ..
    rcases List.mem_cons.mp hr with rfl | hr
    · have h1 : (pushAll (h.push (itO x)) xs).get? h.objs.size = some (itO x) := pushAll_keep xs _ _ _ (Heap.get?_push_size _ rfl)
      have h2 : SqOk (pushAll h (x :: xs)) x := (hx x List.mem_cons_self).ext fun b o e => pushAll_keep (x :: xs) h b o e
      obtain ⟨l, items, lst⟩ := x
      cases lst with
      | true => exact ⟨⟨_, h1, rfl, rfl⟩, h2⟩
      | false => exact ⟨⟨_, h1, rfl, rfl⟩, h2⟩
    · rw [← hsz] at hr
      exact mkRows_at (fun y hy => (hx y (List.mem_cons_of_mem _ hy)).ext fun b o e => Heap.get?_push_of_some _ e) r hr
section
variable {P : Program} {w : World} {A : Around} {E : Value → Shared → Prop} {s : Shared}
theorem iter_sq {x : Sq} {Q : Value → Shared → Prop} (h : SqOk s.heap x) (q : Q (.ref s.heap.objs.size) { s with heap := s.heap.push (itO x) }) : wpAny (model P w) A (pyIter (.ref x.1)) Q E s := by
  obtain ⟨l, items, lst⟩ := x
  cases lst with
  | true => exact wpAny_pyIter_list h q
  | false => exact wpAny_pyIter_tuple h q
theorem iterAll_go {body : Value → Array Value → Sem (ForInStep (Array Value))}
    (hb : ∀ (x : Value) (acc : Array Value) (s : Shared) (R : ForInStep (Array Value) → Shared → Prop), (∀ E' : Value → Shared → Prop, wpAny (model P w) A (pyIter x) (fun v s' => R (.yield (acc.push v)) s') E' s) → wpAny (model P w) A (body x acc) R E s) :
    ∀ (xs : List Sq) (acc : Array Value) (s : Shared) {Q : Array Value → Shared → Prop}, (∀ x ∈ xs, SqOk s.heap x) → Q (acc ++ ((mkRows s.heap.objs.size xs).map fun r => Value.ref r.it).toArray) { s with heap := pushAll s.heap xs } →
      wpAny (model P w) A (forIn (xs.map fun x => Value.ref x.1) acc body) Q E s
  | [], acc, s, Q, _, q => by
    rw [List.map_nil, List.forIn_nil]
    refine wpAny_pure ?_
    have e : acc ++ ((mkRows s.heap.objs.size []).map fun r => Value.ref r.it).toArray = acc := by simp [mkRows]
    rw [e] at q
    exact q
  | x :: xs, acc, s, Q, hx, q => by
    rw [List.map_cons, List.forIn_cons]
    have hsz : (s.heap.push (itO x)).objs.size = s.heap.objs.size + 1 := Heap.size_push ..
    refine wpAny_bind (hb _ acc s _ fun E' => iter_sq (hx x List.mem_cons_self) ?_)
    refine iterAll_go hb xs (acc.push (.ref s.heap.objs.size)) { s with heap := s.heap.push (itO x) } (fun y hy => (hx y (List.mem_cons_of_mem _ hy)).ext fun b o e => Heap.get?_push_of_some _ e) ?_
    show Q (acc.push (.ref s.heap.objs.size) ++ ((mkRows (s.heap.push (itO x)).objs.size xs).map fun r => Value.ref r.it).toArray) { s with heap := pushAll s.heap (x :: xs) }
    rw [hsz]
    have e : acc.push (.ref s.heap.objs.size) ++ ((mkRows (s.heap.objs.size + 1) xs).map fun r => Value.ref r.it).toArray = acc ++ ((mkRows s.heap.objs.size (x :: xs)).map fun r => Value.ref r.it).toArray := by
      rw [mkRows, List.map_cons]
      apply Array.toList_inj.mp
      simp
    rw [e]
    exact q
theorem iterAll_sq {xs : List Sq} {Q : List Value → Shared → Prop} (hx : ∀ x ∈ xs, SqOk s.heap x) (q : Q (refsOf (mkRows s.heap.objs.size xs)) { s with heap := pushAll s.heap xs }) :
    wpAny (model P w) A (Builtin.SmallTypes.iterAll (xs.map fun x => Value.ref x.1)) Q E s := by
  unfold Builtin.SmallTypes.iterAll
  refine wpAny_bind (iterAll_go (fun x acc s1 R hq => ?_) xs #[] s hx ?_)
  · exact wpAny_bind (wpAny_holding (wpAny_mono (hq (fun _ _ => False)) (fun v s2 hR => wpAny_pure hR) fun e s2 he => he.elim))
  · refine wpAny_pure ?_
    have e : (#[] ++ ((mkRows s.heap.objs.size xs).map fun r => Value.ref r.it).toArray : Array Value).toList = refsOf (mkRows s.heap.objs.size xs) := by simp
    rw [e]
    exact q
abbrev zTI (h : Heap) (xs : List Sq) : Heap := (pushAll h xs).push (tupO (refsOf (mkRows h.objs.size xs)))
abbrev zTO (h : Heap) (xs : List Sq) : Heap := (zTI h xs).push (tupO ((refsOf (mkRows h.objs.size xs)).map fun _ => Value.none))
abbrev zZ (h : Heap) (xs : List Sq) : Heap := (zTO h xs).push { cls := .type "zip", data := .fields #[.none, .bool false, .bool false, .ref (pushAll h xs).objs.size, .ref (zTI h xs).objs.size] }
theorem meets_zipN {xs : List Sq} (hl : xs.length ≤ sizeLine) : Meets (Builtin.«zip.__new__» ⟨.type "zip" :: xs.map (fun x => Value.ref x.1), []⟩) (fun _ R s => (∀ x ∈ xs, SqOk s.heap x) ∧ R (.ok (.ret (.ref (zTO s.heap xs).objs.size))) { s with heap := zZ s.heap xs }) :=
  .of_wp fun prog w A R s h => by
    obtain ⟨hp, g, d, tk, os⟩ := s
    obtain ⟨hx, h⟩ := h
    have hsub := sub_zip
    have q1 : ∀ {A' : Around} {E : Value → Shared → Prop} {Q : List Value → Shared → Prop}, Q (refsOf (mkRows hp.objs.size xs)) ⟨pushAll hp xs, g, d, tk, os⟩ → wpAny (model prog w) A' (Builtin.SmallTypes.iterAll (xs.map fun x => Value.ref x.1)) Q E ⟨hp, g, d, tk, os⟩ :=
      fun q => iterAll_sq (s := ⟨hp, g, d, tk, os⟩) hx q
    have hl1 : (refsOf (mkRows hp.objs.size xs)).length ≤ sizeLine := by rw [List.length_map, mkRows_len]; exact hl
    wp_walk using q1
    rw [if_neg (by simp only [List.size_toArray]; omega)]
    wp_walk using q1
    rw [if_neg (by simp only [List.size_toArray, List.length_map] at hl1 ⊢; omega)]
    wp_walk using q1
    exact ⟨_, rfl, h⟩
end
end Rk
end
section
set_option linter.all false
set_option autoImplicit false
set_option maxRecDepth 100000
namespace Rk
open PySem PySem.Spec PyProof.Rows L2
section
variable {P : Program} {w : World} {A : Around} {E : Value → Shared → Prop} {s : Shared}
/-- a new zip, as it is made -/
structure Zip0 (z TI TO : Addr) (rows : List Row) (h0 h : Heap) : Prop where
  ap : ZApart z TI TO rows
  zip : IsZip h z TI TO .none
  ti : h.get? TI = some (tupO (refsOf rows))
  to : ∃ post : List Value, post.length = rows.length ∧ h.get? TO = some (tupO post)
  at' : ∀ r ∈ rows, r.at h 0
  keep : ∀ b o, h0.get? b = some o → h.get? b = some o
  new : h0.objs.size ≤ z ∧ h0.objs.size ≤ TI ∧ h0.objs.size ≤ TO ∧ ∀ r ∈ rows, h0.objs.size ≤ r.it
theorem call_zipN {xs : List Sq} {Q : Value → Shared → Prop} (hl : xs.length ≤ sizeLine) (hx : ∀ x ∈ xs, SqOk s.heap x)
    (q : ∀ h' z TI TO, Zip0 z TI TO (mkRows s.heap.objs.size xs) s.heap h' → Q (.ref z) { s with heap := h' }) : wpAny (model P w) A (call (.type "zip") (xs.map fun x => Value.ref x.1)) Q E s := by
  refine callType_new F.called_zip (by decide) (tc_zip _) (nc_zip _) (fun obj => ao_zip obj _) F.entry_zip_new (meets_zipN hl) ⟨hx, ?_⟩
  have e0 := pushAll_size xs s.heap
  have e1 : (zTI s.heap xs).objs.size = s.heap.objs.size + xs.length + 1 := by rw [Heap.size_push, e0]
  have e2 : (zTO s.heap xs).objs.size = s.heap.objs.size + xs.length + 2 := by rw [Heap.size_push, e1]
  have gz : (zZ s.heap xs).get? (zTO s.heap xs).objs.size = some { cls := .type "zip", data := .fields #[.none, .bool false, .bool false, .ref (pushAll s.heap xs).objs.size, .ref (zTI s.heap xs).objs.size] } := Heap.get?_push_size _ rfl
  have gO : (zZ s.heap xs).get? (zTI s.heap xs).objs.size = some (tupO ((refsOf (mkRows s.heap.objs.size xs)).map fun _ => Value.none)) := Heap.get?_push_of_some _ (Heap.get?_push_size _ rfl)
  have gI : (zZ s.heap xs).get? (pushAll s.heap xs).objs.size = some (tupO (refsOf (mkRows s.heap.objs.size xs))) := Heap.get?_push_of_some _ (Heap.get?_push_of_some _ (Heap.get?_push_size _ rfl))
  have up : ∀ b o, (pushAll s.heap xs).get? b = some o → (zZ s.heap xs).get? b = some o := fun b o e => Heap.get?_push_of_some _ (Heap.get?_push_of_some _ (Heap.get?_push_of_some _ e))
  have rl : ∀ r ∈ mkRows s.heap.objs.size xs, s.heap.objs.size ≤ r.it ∧ r.it < s.heap.objs.size + xs.length ∧ r.l < s.heap.objs.size := fun r hr => by
    obtain ⟨h1, h2, x, hx2, h3, _⟩ := mkRows_it hr
    exact ⟨h1, h2, by rw [h3]; exact (hx x hx2).lt⟩
  have ne : ∀ {a b : Addr}, a < b → a ≠ b := fun h => Nat.ne_of_lt h
  have far : ∀ (k : Nat) (r : Row), r ∈ mkRows s.heap.objs.size xs → r.it ≠ s.heap.objs.size + xs.length + k ∧ r.l ≠ s.heap.objs.size + xs.length + k := fun k r hr =>
    ⟨ne (Nat.lt_of_lt_of_le (rl r hr).2.1 (Nat.le_add_right _ _)), ne (Nat.lt_of_lt_of_le (rl r hr).2.2 (Nat.le_trans (Nat.le_add_right _ _) (Nat.le_add_right _ _)))⟩
  refine ⟨⟨_, gz, rfl⟩, q _ _ (pushAll s.heap xs).objs.size (zTI s.heap xs).objs.size ⟨⟨⟨mkRows_pw xs _, fun a ha b hb => ?_⟩, ?_, ?_, ?_, fun r hr => ?_, fun r hr => ?_, fun r hr => ?_⟩, gz, gI, ⟨_, ?_, gO⟩, fun r hr => Row.at_ext (mkRows_at hx r hr) fun b o _ e => up b o e, fun b o e => up b o (pushAll_keep xs _ b o e), ?_⟩⟩
  · exact (ne (Nat.lt_of_lt_of_le (rl b hb).2.2 (rl a ha).1)).symm
  · rw [e0, e2]; exact ne (Nat.lt_add_of_pos_right (by decide))
  · rw [e1, e2]; exact ne (Nat.lt_succ_self _)
  · rw [e0, e1]; exact ne (Nat.lt_succ_self _)
  · rw [e2]; exact far 2 r hr
  · rw [e0]; exact far 0 r hr
  · rw [e1]; exact far 1 r hr
  · rw [List.length_map, List.length_map]
  · rw [e0, e1, e2]
    exact ⟨Nat.le_trans (Nat.le_add_right _ _) (Nat.le_add_right _ _), Nat.le_add_right _ _, Nat.le_trans (Nat.le_add_right _ _) (Nat.le_add_right _ _), fun r hr => (rl r hr).1⟩
/-- list(zip) -/
theorem call_list_zip {rows : List Row} {z TI TO : Addr} {h0 : Heap} {m : Nat} {Q : Value → Shared → Prop} (hh : A.handled = none) (Z : Zip0 z TI TO rows h0 s.heap) (hne : rows ≠ [] ∨ m = 0) (hm : ∀ r ∈ rows, r.items.size = m) (hsz : rows.length ≤ sizeLine) (hmz : m ≤ sizeLine)
    (q : ∀ h' tk (as : List Addr) (S : Addr) (c' : Nat), as.length = m → as.Nodup → S ∉ as → h0.objs.size ≤ S → (∀ a ∈ as, h0.objs.size ≤ a) → h'.get? S = some (lstO (as.map Value.ref).toArray c') → (∀ (i : Nat) (a : Addr), as[i]? = some a → h'.get? a = some (tupO (colAt rows i))) →
      (∀ b o, h0.get? b = some o → h'.get? b = some o) → Q (.ref S) { s with heap := h', toks := tk }) : wpAny (model P w) A (call (.type "list") [.ref z]) Q E s := by
  refine callType_codes (Q₁ := fun obj s₁ => obj = .ref s.heap.objs.size ∧ s₁ = { s with heap := s.heap.push { cls := .type "list", data := .seq #[] } }) F.called_list (F.typeCall_list_1 _) F.entry_list_init
    (code_list_new _ ⟨rfl, rfl⟩) fun obj s₁ h₁ => ?_
  obtain ⟨rfl, rfl⟩ := h₁
  have hS : (s.heap.push { cls := .type "list", data := .seq #[] }).get? s.heap.objs.size = some { cls := .type "list", data := .seq #[] } := Heap.get?_push_size _ rfl
  have hk : ∀ b o, s.heap.get? b = some o → (s.heap.push { cls := .type "list", data := .seq #[] }).get? b = some o := fun b o e => Heap.get?_push_of_some _ e
  have lt : ∀ {c o}, s.heap.get? c = some o → s.heap.objs.size ≠ c := fun e => Nat.ne_of_gt (Heap.lt_size e)
  obtain ⟨post, hpl, hTO⟩ := Z.to
  have rit : ∀ r ∈ rows, s.heap.objs.size ≠ r.it ∧ s.heap.objs.size ≠ r.l := fun r hr => by
    have := Z.at' r hr
    obtain ⟨it, l, items, lst⟩ := r
    cases lst with
    | true => obtain ⟨⟨o, e, _⟩, o2, e2, _⟩ := this; exact ⟨lt e, lt e2⟩
    | false => obtain ⟨⟨o, e, _⟩, o2, e2, _⟩ := this; exact ⟨lt e, lt e2⟩
  have DS : SApart z TI TO s.heap.objs.size rows := ⟨lt Z.zip, lt Z.ti, lt hTO, rit⟩
  have hz0 : h0.objs.size ≤ s.heap.objs.size := Nat.le_trans Z.new.1 (Nat.le_of_lt (Heap.lt_size Z.zip))
  refine ⟨⟨_, hS, rfl⟩, F.args_list_init_2 _ _, ?_⟩
  show wpAny _ A.in1.in1 (do let old ← Builtin.List.listItems (.ref s.heap.objs.size); Builtin.List.listUpdate (.ref s.heap.objs.size) (fun _ => #[]); letGo old.toList.reverse; Builtin.List.listExtendWith (.ref s.heap.objs.size) (.ref z) .none) _ _ _
  refine wpAny_bind ?_
  unfold Builtin.List.listItems
  refine wpAny_bind (wpAny_seqItems hS rfl (wpAny_pure ?_))
  show wpAny _ _ (updateSeq s.heap.objs.size (fun _ => #[]) >>= fun _ => letGo (#[] : Array Value).toList.reverse >>= fun _ => Builtin.List.listExtendWith (.ref s.heap.objs.size) (.ref z) .none) _ _ _
  refine wpAny_bind (wpAny_updateSeq hS rfl ?_)
  have hS2 := get?_update_seq (c := "list") hS (fun _ => (#[] : Array Value))
  have hs2 : Heap.SameBut s.heap.objs.size (s.heap.push { cls := .type "list", data := .seq #[] }) ((s.heap.push { cls := .type "list", data := .seq #[] }).update s.heap.objs.size (Obj.mapSeq fun _ => (#[] : Array Value))) := Heap.SameBut.update ..
  have hk2 : ∀ b o, s.heap.get? b = some o → ((s.heap.push { cls := .type "list", data := .seq #[] }).update s.heap.objs.size (Obj.mapSeq fun _ => (#[] : Array Value))).get? b = some o := fun b o e => hs2.extBut b o (lt e).symm (hk b o e)
  have hsize : ((s.heap.push { cls := .type "list", data := .seq #[] }).update s.heap.objs.size (Obj.mapSeq fun _ => (#[] : Array Value))).objs.size = s.heap.objs.size + 1 := by rw [hs2.1]; exact Heap.size_push ..
  refine wpAny_bind (wpAny_letGo ?_)
  have hs0 : h0.objs.size ≤ ((s.heap.push { cls := .type "list", data := .seq #[] }).update s.heap.objs.size (Obj.mapSeq fun _ => (#[] : Array Value))).objs.size := by rw [hsize]; exact Nat.le_succ_of_le hz0
  refine zip_extend (z := z) (TI := TI) (TO := TO) (S := s.heap.objs.size) (rows := rows) (m := m) (by simp [hh]) Z.ap DS hne hm hsz hmz
    ⟨by rw [hsize]; exact Nat.lt_succ_self _, by rw [hsize]; exact Nat.lt_succ_of_lt (Heap.lt_size hTO), fun _ => hk2 _ _ Z.zip, hk2 _ _ Z.ti, fun r hr => Row.at_ext (Z.at' r hr) fun b o _ e => hk2 b o e, .inl ⟨hk2 _ _ Z.zip, post, hpl, hk2 _ _ hTO⟩⟩ hS2
    fun h' tk ⟨as, c', hl, nd, hSf, ge, hat⟩ K => ⟨rfl, q h' tk as _ c' hl nd (fun hm => ?_) hz0 (fun a ha => Nat.le_trans hs0 (ge a ha)) hSf hat fun b o e => ?_⟩
  · have := ge _ hm
    rw [hsize] at this
    exact absurd this (Nat.not_succ_le_self _)
  · have hb : b < h0.objs.size := Heap.lt_size e
    exact K b o (Nat.ne_of_lt (Nat.lt_of_lt_of_le hb Z.new.1)) (Nat.ne_of_lt (Nat.lt_of_lt_of_le hb Z.new.2.2.1)) (Nat.ne_of_lt (Nat.lt_of_lt_of_le hb hz0)) (fun r hr => Nat.ne_of_lt (Nat.lt_of_lt_of_le hb (Z.new.2.2.2 r hr))) (hk2 b o (Z.keep b o e))
end
end Rk
end
section
set_option linter.all false
set_option autoImplicit false
set_option maxRecDepth 100000
namespace Rk
open PySem PySem.Spec PyProof.Rows L2
/-- tuples laid -/
def layT (H : Hp) : List (Addr × List V) → Hp
  | [] => H
  | p :: r => layT (upd H p.1 (.tup p.2)) r
theorem layT_other : ∀ {ps : List (Addr × List V)} {H : Hp} {b : Addr}, (∀ p ∈ ps, b ≠ p.1) → layT H ps b = H b
  | [], H, b, _ => rfl
  | p :: r, H, b, h => by rw [layT, layT_other fun q hq => h q (List.mem_cons_of_mem _ hq), upd_ne (h p List.mem_cons_self)]
theorem layT_at : ∀ {ps : List (Addr × List V)} {H : Hp}, (ps.map Prod.fst).Nodup → ∀ p ∈ ps, layT H ps p.1 = some (.tup p.2)
  | [], H, _, p, hp => nomatch hp
  | q :: r, H, nd, p, hp => by
    rw [List.map_cons, List.nodup_cons] at nd
    rcases List.mem_cons.mp hp with rfl | hp
    · rw [layT, layT_other fun q hq e => nd.1 (by rw [e]; exact List.mem_map.mpr ⟨q, hq, rfl⟩), upd_same]
    · rw [layT]; exact layT_at nd.2 p hp
theorem layT_some {ps : List (Addr × List V)} {H : Hp} (nd : (ps.map Prod.fst).Nodup) {b : Addr} {o : HO} (h : layT H ps b = some o) : (∃ p ∈ ps, b = p.1 ∧ o = .tup p.2) ∨ H b = some o := by
  by_cases hb : ∃ p ∈ ps, b = p.1
  · obtain ⟨p, hp, rfl⟩ := hb
    rw [layT_at nd p hp] at h
    exact .inl ⟨p, hp, rfl, (Option.some.inj h).symm⟩
  · rw [layT_other fun p hp e => hb ⟨p, hp, e⟩] at h
    exact .inr h
section
variable {X : Cx} {pins : List (Addr × Obj)} {σ : L2.St} {H H' : Hp} {s : Shared} {h' : Heap}
/-- many new objects laid at once -/
theorem _root_.L2.Inv.many {t' : Nat} (I : Inv X pins σ H s) (k : ∀ b u, s.heap.get? b = some u → h'.get? b = some u) (ag : ∀ b, b < s.heap.objs.size → H' b = H b) (new : ∀ b o, s.heap.objs.size ≤ b → H' b = some o → ObjOk X.prog X.w H' h' b o) :
    Inv X pins σ H' { s with heap := h', toks := t' } := by
  have lo : ∀ {b o}, H b = some o → H' b = some o := fun {b o} e => by rw [ag b (I.hok.lt e)]; exact e
  refine I.un ⟨fun b o q _ _ _ => k b o q, fun b o q _ _ _ => ⟨o.slots, k b o q⟩, fun b o q n _ => by rw [ag b (Heap.lt_size q)]; exact n, fun b o q _ => ⟨o, k b o q⟩, fun b xs q => lo q, fun b o u q => lo q, fun b ps q => ⟨#[], by rw [lo q]; simp⟩⟩ fun b o e => ?_
  rcases Nat.lt_or_ge b s.heap.objs.size with hb | hb
  · rw [ag b hb] at e
    exact (I.hok b o e).stay (fun c u _ q => k c u q) (fun c q => lo q) fun c xs q => lo q
  · exact new b o hb e
/-- list(zip(*x)), x a list or a tuple of such, all of one length -/
def rZips (K : PySem.W.Frag) (x : V) (H1 : Hp) (Q : VK) : Prop := ∃ (a : Addr) (rows : List (Addr × List V)) (m : Nat), x = .ref a ∧ (SqT K H1 a (rows.map fun r => V.ref r.1) ∨ SqL K H1 a (rows.map fun r => V.ref r.1)) ∧ (∀ r ∈ rows, SqL K H1 r.1 r.2 ∨ SqT K H1 r.1 r.2) ∧
  (∀ r ∈ rows, r.2.length = m) ∧ (rows ≠ [] ∨ m = 0) ∧ ∀ (as : List Addr) (S : Addr), as.length = m → as.Nodup → S ∉ as → H1 S = none → (∀ a ∈ as, H1 a = none) →
    Q (.ref S) (upd (layT H1 (as.zipIdx.map fun p => (p.1, rows.map fun r => r.2.getD p.2 .non))) S (.lst (as.map V.ref)))
theorem rows_sq (I : Inv X pins σ H s) : ∀ {rows : List (Addr × List V)}, (∀ r ∈ rows, SqL X.K H r.1 r.2 ∨ SqT X.K H r.1 r.2) → ∃ xs : List Sq, xs.map (fun x => Value.ref x.1) = rows.map (fun r => Value.ref r.1) ∧ (∀ x ∈ xs, SqOk s.heap x) ∧ xs.length = rows.length ∧
    ∀ (i : Nat) (x : Sq) (r : Addr × List V), xs[i]? = some x → rows[i]? = some r → Vals r.2 x.2.1.toList
  | [], _ => ⟨[], rfl, fun x hx => (nomatch hx), rfl, fun i x r h => by simp at h⟩
  | r :: rows, h => by
    obtain ⟨xs, e1, e2, e3, e4⟩ := rows_sq I fun q hq => h q (List.mem_cons_of_mem _ hq)
    obtain ⟨its, rv, hs, hz⟩ := I.sq (h r List.mem_cons_self)
    have key : ∀ b : Bool, SqOk s.heap (r.1, its.toArray, b) → ∃ xs : List Sq, xs.map (fun x => Value.ref x.1) = (r :: rows).map (fun r => Value.ref r.1) ∧ (∀ x ∈ xs, SqOk s.heap x) ∧ xs.length = (r :: rows).length ∧
        ∀ (i : Nat) (x : Sq) (q : Addr × List V), xs[i]? = some x → (r :: rows)[i]? = some q → Vals q.2 x.2.1.toList := fun b ok => by
      refine ⟨(r.1, its.toArray, b) :: xs, by rw [List.map_cons, List.map_cons, e1], fun x hx => ?_, by rw [List.length_cons, List.length_cons, e3], fun i x q hx hq => ?_⟩
      · rcases List.mem_cons.mp hx with rfl | hx
        · exact ok
        · exact e2 x hx
      · cases i with
        | zero =>
          simp only [List.getElem?_cons_zero, Option.some.injEq] at hx hq
          subst hx hq
          simpa using rv
        | succ i => exact e4 i x q (by simpa using hx) (by simpa using hq)
    rcases hs with hs | hs
    · exact key true hs
    · exact key false hs
theorem vals_getD : ∀ {xs : List V} {us : List Value}, Vals xs us → ∀ j, j < xs.length → RelV (xs.getD j .non) (us.getD j .none)
  | _, _, .nil, j, h => nomatch h
  | _, _, .cons r t, 0, _ => r
  | _, _, .cons r t, j + 1, h => by simpa using vals_getD t j (by simpa using h)
theorem cols_vals : ∀ {rows : List (Addr × List V)} {xs : List Sq} {m j : Nat} {base : Nat}, xs.length = rows.length → (∀ (i : Nat) (x : Sq) (r : Addr × List V), xs[i]? = some x → rows[i]? = some r → Vals r.2 x.2.1.toList) → (∀ r ∈ rows, r.2.length = m) → j < m →
    Vals (rows.map fun r => r.2.getD j .non) (colAt (mkRows base xs) j)
  | [], [], m, j, base, _, _, _, _ => .nil
  | [], x :: xs, m, j, base, h, _, _, _ => nomatch h
  | r :: rows, [], m, j, base, h, _, _, _ => nomatch h
  | r :: rows, x :: xs, m, j, base, hl, hv, hm, hj => by
    have h0 := hv 0 x r rfl rfl
    have h1 := vals_getD h0 j (by rw [hm r List.mem_cons_self]; exact hj)
    have e : x.2.1.toList.getD j .none = x.2.1.getD j .none := by rw [List.getD_eq_getElem?_getD, Array.getElem?_toList, Array.getD_eq_getD_getElem?]
    rw [e] at h1
    exact .cons h1 (cols_vals (by simpa using hl) (fun i y q hy hq => hv (i + 1) y q (by simpa using hy) (by simpa using hq)) (fun q hq => hm q (List.mem_cons_of_mem _ hq)) hj)
theorem pe_zips {a : Expr} {ta : TE} {p p2 ps q pos : Pos} (hc : X.calm = true) (hg : Gl X "list") (hm : X.mg "list" = none) (hg2 : Gl X "zip") (hm2 : X.mg "zip" = none) (ha : PE X a ta) :
    PE X (.Call (.Name "list" p) [.Call (.Name "zip" p2) [.Starred a ps] [] q] [] pos) (fun σ H Q => ta σ H fun x H1 => rZips X.K x H1 Q) := by
  refine ⟨fun pins s σ H Q I h => ?_⟩
  refine Call_ (ld_blt I hg hm PyProof.Rows.boot_list (PyProof.Rows.callWith_type1 (PyProof.Rows.args_cons ?_ rfl) rfl rfl))
  refine Call_ (ld_blt I hg2 hm2 PyProof.Rows.boot_zip ?_)
  have hst : starEach [.Starred a ps] X.env = [(true, eval a X.env)] := rfl
  rw [hst]
  refine PySem.W.ks_call (P := fun _ => True) rfl (fun h _ => ⟨.machine, .inr (.inl rfl), PySem.W.Looks.of_pure rfl⟩) (PySem.W.ks_lone (thn (ha.run pins s σ H _ I h) fun v s1 ⟨x, H1, I1, r1, q1⟩ => ?_))
  obtain ⟨aa, rows, m, ex, hx, hr, hml, hne, q1⟩ := q1
  subst ex
  obtain rfl : v = Value.ref aa := r1
  refine StX.star_any I1 hx fun us s2 I2 rv => ⟨trivial, ?_⟩
  have eus : us = rows.map fun r => Value.ref r.1 := by
    clear q1 hx hr hml hne
    revert us
    induction rows with
    | nil => intro us rv; cases rv; rfl
    | cons r rows ih =>
      intro us rv
      cases rv with
      | cons r0 t => cases r0; rw [List.map_cons, ← ih _ t]
  obtain ⟨xs, e1, e2, e3, e4⟩ := rows_sq I2 hr
  have hlen : rows.length ≤ sizeLine := by
    rcases hx with hx | hx
    · obtain ⟨_, _, _, z⟩ := I2.tuple hx
      simpa using z
    · obtain ⟨_, _, _, z⟩ := I2.list hx
      simpa using z
  have hmz : m ≤ sizeLine := by
    rcases hne with hne | hne
    · cases rows with
      | nil => exact absurd rfl hne
      | cons r rows =>
        obtain ⟨_, _, _, z⟩ := I2.sq (hr r List.mem_cons_self)
        rw [← hml r List.mem_cons_self]; exact z
    · rw [hne]; exact Nat.zero_le _
  show wpAny (model X.prog X.w) X.A (call (.type "zip") ([] ++ us)) _ _ s2
  rw [List.nil_append, eus, ← e1]
  refine call_zipN (by rw [e3]; exact hlen) e2 fun h2 z TI TO Z => PyProof.Rows.args_nil ?_
  have hh := I2.ok.hd hc
  have hrl : ∀ r ∈ mkRows s2.heap.objs.size xs, r.items.size = m := fun r hr2 => by
    obtain ⟨i, hi⟩ := List.getElem?_of_mem hr2
    have h5 : (xs.map fun x => x.2.1)[i]? = some r.items := by rw [← mkRows_items xs s2.heap.objs.size, List.getElem?_map, hi]; rfl
    rw [List.getElem?_map] at h5
    cases hxi : xs[i]? with
    | none => rw [hxi] at h5; cases h5
    | some x =>
      rw [hxi] at h5
      have hil : i < rows.length := by rw [← e3]; exact (List.getElem?_eq_some_iff.mp hxi).1
      have hri : rows[i]? = some rows[i] := List.getElem?_eq_getElem hil
      have hv := (e4 i x _ hxi hri).length
      have e6 : x.2.1 = r.items := Option.some.inj h5
      rw [← e6, ← hml _ (List.getElem_mem hil), hv, Array.length_toList]
  refine call_list_zip (s := { s2 with heap := h2 }) hh Z (hne.imp (fun n e => n (List.eq_nil_of_length_eq_zero (by rw [← e3, ← mkRows_len xs s2.heap.objs.size, e]; rfl))) id) hrl (by rw [mkRows_len, e3]; exact hlen) hmz fun h' tk as S c' hl nd hSf hS0 ha0 hS hcol hk => ?_
  have f1 : H1 S = none := I2.hok.fresh hS0
  have f2 : ∀ a ∈ as, H1 a = none := fun a ha => I2.hok.fresh (ha0 a ha)
  have qq := q1 as S hl nd hSf f1 f2
  have efst : ((as.zipIdx.map fun p => (p.1, rows.map fun r => r.2.getD p.2 .non)).map Prod.fst) = as := by
    rw [List.map_map]
    exact List.zipIdx_map_fst 0 as
  have nd2 : ((as.zipIdx.map fun p => (p.1, rows.map fun r => r.2.getD p.2 .non)).map Prod.fst).Nodup := by rw [efst]; exact nd
  have hmem : ∀ p ∈ (as.zipIdx.map fun p => (p.1, rows.map fun r => r.2.getD p.2 .non)), p.1 ∈ as := fun p hp => by rw [← efst]; exact List.mem_map.mpr ⟨p, hp, rfl⟩
  refine ⟨.ref S, _, I2.many (t' := tk) hk (fun b hb => ?_) (fun b o hb e => ?_), rfl, qq⟩
  · rw [upd_ne (Nat.ne_of_lt (Nat.lt_of_lt_of_le hb hS0)), layT_other fun p hp => Nat.ne_of_lt (Nat.lt_of_lt_of_le hb (ha0 _ (hmem p hp)))]
  · by_cases hbS : b = S
    · subst hbS
      rw [upd_same] at e
      cases e
      refine ⟨by rw [List.length_map, hl]; exact hmz, as.map Value.ref, c', ?_, hS⟩
      clear hcol hl nd hSf ha0 hS f2 qq efst nd2 hmem
      induction as with
      | nil => exact .nil
      | cons a as ih => exact .cons rfl ih
    · rw [upd_ne hbS] at e
      rcases layT_some nd2 e with ⟨p, hp, rfl, rfl⟩ | e
      · obtain ⟨⟨a, i⟩, hpi, rfl⟩ := List.mem_map.mp hp
        have hai : as[i]? = some a := List.mk_mem_zipIdx_iff_getElem?.mp hpi
        have hj : i < m := by rw [← hl]; exact (List.getElem?_eq_some_iff.mp hai).1
        exact ⟨by rw [List.length_map]; exact hlen, _, cols_vals e3 e4 hml hj, ⟨_, hcol i a hai, rfl, _, rfl⟩⟩
      · rw [I2.hok.fresh hb] at e; cases e
end
end Rk
end
section
set_option linter.all false
set_option autoImplicit false
set_option maxRecDepth 100000
namespace Rk
open PySem PySem.Spec PyProof.Rows L2
/-! ### zip over a list and a tuple, in either order (true: a tuple) -/
def mkB (b : Bool) : List V → HO := if b = true then HO.tup else HO.lst
def SqB (b : Bool) (K : PySem.W.Frag) (H : Hp) (a : Addr) (xs : List V) : Prop := match b with | true => SqT K H a xs | false => SqL K H a xs
def IterB (b : Bool) (h : Heap) (it a : Addr) (i : Nat) : Prop := match b with | true => h.IsTupleIter it a i | false => h.IsListIter it a i
def IsB (b : Bool) (h : Heap) (a : Addr) (its : Array Value) : Prop := match b with | true => h.IsTuple a its | false => h.IsList a its
def itOB (b : Bool) (a : Addr) : Obj := { cls := .type (if b then "tuple_iterator" else "list_iterator"), data := .fields #[.ref a, .int 0 0] }
theorem SqB.of {b : Bool} {K : PySem.W.Frag} {H : Hp} {a : Addr} {xs : List V} (h : H a = some (mkB b xs)) : SqB b K H a xs := by
  cases b
  · exact SqL.of h
  · exact SqT.of h
theorem IterB.obj {b : Bool} {h : Heap} {it a : Addr} {i : Nat} (q : IterB b h it a i) : ∃ o, h.get? it = some o ∧ ∀ v, o.data ≠ .cell v := by
  cases b <;> (obtain ⟨o, ho, _, hd⟩ := q; exact ⟨o, ho, fun v q => by rw [hd] at q; cases q⟩)
theorem IterB.at {b : Bool} {h h' : Heap} {it a : Addr} {i : Nat} (q : IterB b h it a i) (k : ∀ o, h.get? it = some o → h'.get? it = some o) : IterB b h' it a i := by
  cases b <;> exact Exists.elim q fun o r => ⟨o, k o r.1, r.2⟩
theorem IsB.at {b : Bool} {h h' : Heap} {a : Addr} {its : Array Value} (q : IsB b h a its) (k : ∀ o, h.get? a = some o → h'.get? a = some o) : IsB b h' a its := by
  cases b
  · exact Heap.IsList.at q k
  · exact Heap.IsTuple.at q k
theorem IsB.lt {b : Bool} {h : Heap} {a : Addr} {its : Array Value} (q : IsB b h a its) : a < h.objs.size := by
  cases b <;> (obtain ⟨o, ho, _⟩ := q; exact Heap.lt_size ho)
theorem IterB.ne {b : Bool} {h : Heap} {it a : Addr} {i : Nat} {its : Array Value} (q : IterB b h it a i) (p : IsB b h a its) : a ≠ it := fun e => by
  subst e
  cases b
  · obtain ⟨o, ho, hcl, hd⟩ := q
    obtain ⟨o', ho', hc', _⟩ := p
    rw [ho] at ho'
    cases ho'
    rw [hcl] at hc'
    simp at hc'
  · obtain ⟨o, ho, hcl, hd⟩ := q
    obtain ⟨o', ho', hc', _⟩ := p
    rw [ho] at ho'
    cases ho'
    rw [hcl] at hc'
    simp at hc'
theorem drawsB (b : Bool) {prog : Program} {w : World} {A : Around} (hh : A.handled = none) (it a : Addr) (hne : a ≠ it) (items : Array Value) :
    Draws prog w A it [it, a] items.size (fun i v => items[i]? = some v) (fun i h => IterB b h it a i ∧ IsB b h a items) := by
  cases b
  · exact Draws.list hh it a hne items
  · exact Draws.tuple hh it a hne items
theorem drawsB_end (b : Bool) {prog : Program} {w : World} {A : Around} (hh : A.handled = none) (it a : Addr) (i : Nat) {items : Array Value} (hx : items[i]? = none) :
    Draws prog w A it [it, a] i (fun _ _ => False) (fun j h => j = i ∧ IterB b h it a i ∧ IsB b h a items) where
  live := fun _ _ st => let ⟨o, ho, _⟩ := st.2.1.obj; ⟨o, ho⟩
  frame := fun _ _ _ st hk => ⟨st.1, st.2.1.at fun o e => hk it (by simp) o e, st.2.2.at fun o e => hk a (by simp) o e⟩
  item := fun j s Q E hi st hQ => absurd st.1 (Nat.ne_of_lt hi)
  done := fun s Q E st hE => by
    obtain ⟨_, s1, s2⟩ := st
    cases b
    · exact wpAny_nextOf_list_end hh s1 s2 hx hE
    · exact wpAny_nextOf_tuple_end hh s1 s2 hx hE
theorem beginsB (b : Bool) (a : Addr) (items : Array Value) : Begins (.ref a) (itOB b a) fun h => IsB b h a items := by
  cases b
  · exact begins_list a items
  · exact begins_tuple a items
theorem itOB_iter (b : Bool) {h : Heap} {it a : Addr} (q : h.get? it = some (itOB b a)) : IterB b h it a 0 := by
  cases b <;> exact ⟨_, q, rfl, rfl⟩
theorem inv_sqB {X : Cx} {pins : List (Addr × Obj)} {σ : L2.St} {H : Hp} {s : Shared} (I : Inv X pins σ H s) {b : Bool} {a : Addr} {xs : List V} (q : SqB b X.K H a xs) :
    ∃ its : List Value, Vals xs its ∧ IsB b s.heap a its.toArray := by
  cases b
  · obtain ⟨its, rv, p, _⟩ := I.list q
    exact ⟨its, rv, p.isList⟩
  · obtain ⟨its, rv, p, _⟩ := I.tuple q
    exact ⟨its, rv, p⟩
theorem inv_injB {X : Cx} {pins : List (Addr × Obj)} {σ : L2.St} {H : Hp} {s : Shared} (I : Inv X pins σ H s) {b : Bool} {a : Addr} {xs ys : List V} (q : SqB b X.K H a xs) (r : SqB b X.K H a ys) : xs = ys := by
  cases b
  · exact I.list_inj q r
  · exact I.tuple_inj q r
/-- the sequences at a and c as they stand at each turn, the items in new pairs -/
def ItzB (K : PySem.W.Frag) (p q : Bool) (a c : Addr) : It :=
  ⟨fun i H => ∃ (xs ys : List V) (x y : V), SqB p K H a xs ∧ SqB q K H c ys ∧ xs[i]? = some x ∧ ys[i]? = some y,
    fun i H v H' => ∃ T x y, v = .ref T ∧ H T = none ∧ H' = upd H T (.tup [x, y]) ∧ (∀ xs, SqB p K H a xs → xs[i]? = some x) ∧ ∀ ys, SqB q K H c ys → ys[i]? = some y,
    fun i H => ∃ xs ys : List V, SqB p K H a xs ∧ SqB q K H c ys ∧ (xs.length ≤ i ∨ ys.length ≤ i)⟩
theorem turn_zipB {P : Program} {w : World} {K : PySem.W.Frag} {elts : List Expr} {kk : Nat} {tpos : Pos} {p q : Bool} {a c z TI TO i1 i2 : Addr} (D : ZipSep2 z TI TO i1 i2 [i1, a] [i2, c]) :
    Turn P w K (.Tuple elts kk tpos) (ItzB K p q a c) [z, TI, TO, i1, i2] z (fun i h => IsZip h z TI TO .none ∧ IsPair h TI (.ref i1) (.ref i2) ∧ (∃ x y, IsPair h TO x y) ∧ IterB p h i1 a i ∧ IterB q h i2 c i) where
  mem := by simp
  obj := fun i h st b hb => by
    obtain ⟨hz, hTI, ⟨x, y, hTO⟩, h1, h2⟩ := st
    have e' : b = z ∨ b = TI ∨ b = TO ∨ b = i1 ∨ b = i2 := by simpa using hb
    rcases e' with e | e | e | e | e
    · rw [e]; exact ⟨_, hz, fun v q => nomatch q⟩
    · rw [e]; exact ⟨_, hTI, fun v q => nomatch q⟩
    · rw [e]; exact ⟨_, hTO, fun v q => nomatch q⟩
    · rw [e]; exact h1.obj
    · rw [e]; exact h2.obj
  keep := fun i h h' st k => by
    obtain ⟨hz, hTI, ⟨x, y, hTO⟩, h1, h2⟩ := st
    exact ⟨k z (by simp) _ hz, k TI (by simp) _ hTI, ⟨x, y, k TO (by simp) _ hTO⟩, h1.at fun o e => k i1 (by simp) o e, h2.at fun o e => k i2 (by simp) o e⟩
  item := by
    intro X hP hw hK hc i pins s σ H E I hf st hg
    subst hP hw hK
    obtain ⟨hz, hTI, ⟨x0, y0, hTO⟩, h1, h2⟩ := st
    obtain ⟨xs, ys, x, y, hqx, hqy, hx, hy⟩ := hg
    obtain ⟨its, rv, p1⟩ := inv_sqB I hqx
    obtain ⟨its2, rv2, p2⟩ := inv_sqB I hqy
    obtain ⟨u, hu, ru⟩ := rv.get hx
    obtain ⟨u2, hu2, ru2⟩ := rv2.get hy
    have hl1 : i < its.toArray.size := by simpa using (List.getElem?_eq_some_iff.mp hu).1
    have hl2 : i < its2.toArray.size := by simpa using (List.getElem?_eq_some_iff.mp hu2).1
    have hzl : z < s.heap.objs.size := Heap.lt_size hz
    have hh : X.A.in1.handled = none := I.ok.hd hc
    have na : a ≠ i1 := h1.ne p1
    have nc : c ≠ i2 := h2.ne p2
    refine wpAny_pyNext_zipD2_item D (drawsB p hh i1 a na its.toArray) (drawsB q hh i2 c nc its2.toArray) hz hTI hTO ⟨h1, p1⟩ ⟨h2, p2⟩ hl1 hl2 fun y1 y2 h' tk hy1 hy2 z' TO' st1 st2 hT hsz hk => ?_
    have e1 : y1 = u := by
      have a1 : its.toArray[i]? = some y1 := hy1
      have a2 : its.toArray[i]? = some u := by simpa using hu
      rw [a1] at a2; exact Option.some.inj a2
    have e2 : y2 = u2 := by
      have a1 : its2.toArray[i]? = some y2 := hy2
      have a2 : its2.toArray[i]? = some u2 := by simpa using hu2
      rw [a1] at a2; exact Option.some.inj a2
    subst e1 e2
    refine ⟨_, rfl, wpAny_letOwnedTupleGo_zip (s := { s with heap := h', toks := tk }) z' fun h'' z'' sb => ?_⟩
    have hT2 : h''.get? s.heap.objs.size = some { cls := .type "tuple", data := .seq #[y1, y2] } := (sb.2 _ (Nat.ne_of_gt hzl)).trans hT
    have new : ObjOk X.prog X.w (upd H s.heap.objs.size (.tup [x, y])) h'' s.heap.objs.size (.tup [x, y]) :=
      ⟨by show 2 ≤ sizeLine; decide, [y1, y2], .cons ru (.cons ru2 .nil), ⟨_, hT2, rfl, _, rfl⟩⟩
    have I1 : Inv X pins σ (upd H s.heap.objs.size (.tup [x, y])) { s with heap := h'', toks := tk } :=
      I.turnedNew (t' := tk) (ch := [z, TI, TO, i1, i2]) (fun b o hb e => (sb.2 b (fun q' => hb (by simp [q']))).trans (hk b o (fun q' => hb (by simp [q'])) (fun q' => hb (by simp [q'])) (fun q' => hb (by simp [q'])) (fun q' => hb (by simp [q'])) e)) hf (Nat.le_refl _) new
    refine ⟨.ref s.heap.objs.size, _, I1, rfl, ⟨_, x, y, rfl, I.hok.fresh (Nat.le_refl _), rfl, fun l hl => by rw [inv_injB I hl hqx]; exact hx, fun l hl => by rw [inv_injB I hl hqy]; exact hy⟩, ⟨z'', ?_, ⟨y1, y2, ?_⟩, ?_, ?_⟩, fun b hb => ?_⟩
    · exact (sb.2 _ D.TIz).trans (hk _ _ D.TIz D.TITO D.TIi1 D.TIi2 hTI)
    · exact (sb.2 _ D.TOz).trans TO'
    · exact st1.1.at fun o e => (sb.2 _ D.zi1.symm).trans e
    · exact st2.1.at fun o e => (sb.2 _ D.zi2.symm).trans e
    · have hlt : b < s.heap.objs.size := by
        have e' : b = z ∨ b = TI ∨ b = TO ∨ b = i1 ∨ b = i2 := by simpa using hb
        rcases e' with e | e | e | e | e
        · rw [e]; exact hzl
        · rw [e]; exact Heap.lt_size hTI
        · rw [e]; exact Heap.lt_size hTO
        · rw [e]; obtain ⟨_, e1, _⟩ := h1.obj; exact Heap.lt_size e1
        · rw [e]; obtain ⟨_, e2, _⟩ := h2.obj; exact Heap.lt_size e2
      rw [upd_ne (Nat.ne_of_lt hlt)]
      exact (hf b hb).1
  done := by
    intro X hP hw hK hc i pins s σ H E I hf st hg
    subst hP hw hK
    obtain ⟨hz, hTI, ⟨x0, y0, hTO⟩, h1, h2⟩ := st
    obtain ⟨xs, ys, hqx, hqy, hend⟩ := hg
    obtain ⟨its, rv, p1⟩ := inv_sqB I hqx
    obtain ⟨its2, rv2, p2⟩ := inv_sqB I hqy
    have l1 := rv.length
    have l2 := rv2.length
    have hh : X.A.in1.handled = none := I.ok.hd hc
    have na : a ≠ i1 := h1.ne p1
    have nc : c ≠ i2 := h2.ne p2
    have fin : ∀ (h' : Heap) (tk : Tok), (∀ b o, b ≠ z → b ≠ TO → b ≠ i1 → b ≠ i2 → s.heap.get? b = some o → h'.get? b = some o) → (none : Option Value) = none ∧ Inv X pins σ H { s with heap := h', toks := tk } :=
      fun h' tk hk => ⟨rfl, I.turnedL (t' := tk) (ch := [z, TI, TO, i1, i2]) (fun b o hb e => hk b o (fun q' => hb (by simp [q'])) (fun q' => hb (by simp [q'])) (fun q' => hb (by simp [q'])) (fun q' => hb (by simp [q'])) e) hf⟩
    by_cases hx : its.length ≤ i
    · by_cases hy : its2.length ≤ i
      · exact wpAny_pyNext_zipD2_end D (drawsB_end p hh i1 a i (items := its.toArray) (by simpa using hx)) (drawsB_end q hh i2 c i (items := its2.toArray) (by simpa using hy)) hz hTI hTO ⟨rfl, h1, p1⟩ ⟨rfl, h2, p2⟩ (Nat.le_refl _) (Nat.le_refl _) (.inl rfl) fin
      · exact wpAny_pyNext_zipD2_end D (drawsB_end p hh i1 a i (items := its.toArray) (by simpa using hx)) (drawsB q hh i2 c nc its2.toArray) hz hTI hTO ⟨rfl, h1, p1⟩ ⟨h2, p2⟩ (Nat.le_refl _) (by simp; omega) (.inl rfl) fin
    · have hy : its2.length ≤ i := by rcases hend with e | e <;> omega
      exact wpAny_pyNext_zipD2_end D (drawsB p hh i1 a na its.toArray) (drawsB_end q hh i2 c i (items := its2.toArray) (by simpa using hy)) hz hTI hTO ⟨h1, p1⟩ ⟨rfl, h2, p2⟩ (by simp; omega) (Nat.le_refl _) (.inr rfl) fin
  self := fun A i s Q E st h => wpAny_pyIter_zip st.1 h
def iZipB (K : PySem.W.Frag) (ta : TA) : TI := fun σ H R => ta σ H fun vs H1 => ∃ p q a c xs ys, vs = [.ref a, .ref c] ∧ SqB p K H1 a xs ∧ SqB q K H1 c ys ∧ R (ItzB K p q a c) H1
theorem pi_zipB {X : Cx} {e e2 : Expr} {ta : TA} {p pos tpos : Pos} {elts : List Expr} {kk : Nat} (hg : Gl X "zip") (hm : X.mg "zip" = none) (ha : PA X [e, e2] ta)
    (hs : starEach [e, e2] X.env = (false, eval e X.env) :: starEach [e2] X.env := by rfl) (hpl : (backTo pos (starEach [e2] X.env)).any (·.1) = false := by rfl) :
    PI X (.Tuple elts kk tpos) (.Call (.Name "zip" p) [e, e2] [] pos) (iZipB X.K ta) := by
  refine ⟨fun pins s σ H R I h => ?_⟩
  refine Call_ (ld_blt I hg hm PyProof.Rows.boot_zip (PyProof.Rows.callWith_type1 (thn (ha.run pos pins s σ H _ I h) fun us s1 ⟨vs, H1, I1, r1, q1⟩ => ?_) hs hpl))
  obtain ⟨kp, kq, a, c, xs, ys, ex, hqx, hqy, q⟩ := q1
  subst ex
  cases r1 with
  | cons r rr =>
    cases rr with
    | cons r' rr =>
      cases rr
      cases r
      cases r'
      have fresh5 : ∀ b, b ∈ [s1.heap.objs.size + 4, s1.heap.objs.size + 2, s1.heap.objs.size + 3, s1.heap.objs.size, s1.heap.objs.size + 1] → FpOk X pins H1 b := fun b hb => by
        have hle : s1.heap.objs.size ≤ b := by
          have e' : b = s1.heap.objs.size + 4 ∨ b = s1.heap.objs.size + 2 ∨ b = s1.heap.objs.size + 3 ∨ b = s1.heap.objs.size ∨ b = s1.heap.objs.size + 1 := by simpa using hb
          rcases e' with e | e | e | e | e
          · rw [e]; exact Nat.le_add_right _ _
          · rw [e]; exact Nat.le_add_right _ _
          · rw [e]; exact Nat.le_add_right _ _
          · rw [e]; exact Nat.le_refl _
          · rw [e]; exact Nat.le_add_right _ _
        exact I1.fpOk hle (I1.hok.fresh hle)
      obtain ⟨its, rv, p1⟩ := inv_sqB I1 hqx
      obtain ⟨its2, rv2, p2⟩ := inv_sqB I1 hqy
      refine zip_begins2 (beginsB kp a its.toArray) (beginsB kq c its2.toArray) p1 p2 fun h' hz hTI hTO h1 h2 hsz hk => wpAny_pyIter_zip hz ?_
      have I2 : Inv X pins σ H1 { s1 with heap := h' } := I1.kept (t' := s1.toks) hk
      exact ⟨s1.heap.objs.size + 4, [s1.heap.objs.size + 4, s1.heap.objs.size + 2, s1.heap.objs.size + 3, s1.heap.objs.size, s1.heap.objs.size + 1], _, _, H1, rfl, I2, turn_zipB (zip_sep2 (fp1 := [a]) (fp2 := [c]) (fun b hb => by rw [List.mem_singleton.mp hb]; exact p1.lt) (fun b hb => by rw [List.mem_singleton.mp hb]; exact p2.lt)), ⟨hz, hTI, ⟨_, _, hTO⟩, itOB_iter kp h1, itOB_iter kq h2⟩, fresh5, q⟩
end Rk
end
section
set_option linter.all false
set_option autoImplicit false
set_option maxRecDepth 100000
namespace Rk
open PySem PySem.Spec PyProof.Rows L2

/-! ### what a value denotes -/
mutual
def Den (ρ : Nat → Option Addr) (H : Hp) : T → V → Prop
  | .non, v => v = .non
  | .bl b, v => v = .bl b
  | .int i, v => v = .int i
  | .str s, v => v = .str ⟨s.toArray⟩
  | .tup ts, v => ∃ a vs, v = .ref a ∧ H a = some (.tup vs) ∧ DenL ρ H ts vs
  | .ref n, v => ∃ a, v = .ref a ∧ ρ n = some a
def DenL (ρ : Nat → Option Addr) (H : Hp) : List T → List V → Prop
  | [], vs => vs = []
  | t :: ts, vs => ∃ v r, vs = v :: r ∧ Den ρ H t v ∧ DenL ρ H ts r
end

section
variable {ρ ρ' : Nat → Option Addr} {H H' : Hp}
@[simp] theorem den_non {v : V} : Den ρ H .non v ↔ v = .non := by unfold Den; exact Iff.rfl
@[simp] theorem den_bl {b : Bool} {v : V} : Den ρ H (.bl b) v ↔ v = .bl b := by unfold Den; exact Iff.rfl
@[simp] theorem den_int {i : Int} {v : V} : Den ρ H (.int i) v ↔ v = .int i := by unfold Den; exact Iff.rfl
@[simp] theorem den_str {s : List Nat} {v : V} : Den ρ H (.str s) v ↔ v = .str ⟨s.toArray⟩ := by unfold Den; exact Iff.rfl
@[simp] theorem den_tup {ts : List T} {v : V} : Den ρ H (.tup ts) v ↔ ∃ a vs, v = .ref a ∧ H a = some (.tup vs) ∧ DenL ρ H ts vs := by rw [Den]
@[simp] theorem den_ref {n : Nat} {v : V} : Den ρ H (.ref n) v ↔ ∃ a, v = .ref a ∧ ρ n = some a := by unfold Den; exact Iff.rfl
@[simp] theorem denL_nil {vs : List V} : DenL ρ H [] vs ↔ vs = [] := by unfold DenL; exact Iff.rfl
@[simp] theorem denL_cons {t : T} {ts : List T} {vs : List V} : DenL ρ H (t :: ts) vs ↔ ∃ v r, vs = v :: r ∧ Den ρ H t v ∧ DenL ρ H ts r := by rw [DenL]
theorem denL_cons2 {t : T} {ts : List T} {v : V} {vs : List V} : DenL ρ H (t :: ts) (v :: vs) ↔ Den ρ H t v ∧ DenL ρ H ts vs := by
  rw [denL_cons]
  constructor
  · rintro ⟨v', r, e, h⟩
    cases e
    exact h
  · intro h
    exact ⟨_, _, rfl, h⟩

/-- induction over values and their lists -/
theorem T.both {P : T → Prop} {PL : List T → Prop} (h1 : P .non) (h2 : ∀ b, P (.bl b)) (h3 : ∀ i, P (.int i)) (h4 : ∀ s, P (.str s)) (h5 : ∀ ts, PL ts → P (.tup ts)) (h6 : ∀ n, P (.ref n))
    (h7 : PL []) (h8 : ∀ t ts, P t → PL ts → PL (t :: ts)) : (∀ t, P t) ∧ ∀ ts, PL ts :=
  ⟨fun t => T.rec (motive_1 := P) (motive_2 := PL) h1 h2 h3 h4 h5 h6 h7 h8 t, fun ts => T.rec_1 (motive_1 := P) (motive_2 := PL) h1 h2 h3 h4 h5 h6 h7 h8 ts⟩

/-- what a denotation leans on -/
theorem den_mono_both (hr : ∀ n a, ρ n = some a → ρ' n = some a) (ht : ∀ a xs, H a = some (.tup xs) → H' a = some (.tup xs)) :
    (∀ t v, Den ρ H t v → Den ρ' H' t v) ∧ ∀ ts vs, DenL ρ H ts vs → DenL ρ' H' ts vs := by
  refine T.both (P := fun t => ∀ v, Den ρ H t v → Den ρ' H' t v) (PL := fun ts => ∀ vs, DenL ρ H ts vs → DenL ρ' H' ts vs) ?_ ?_ ?_ ?_ ?_ ?_ ?_ ?_
  · intro v h; simpa using h
  · intro b v h; simpa using h
  · intro i v h; simpa using h
  · intro s v h; simpa using h
  · intro ts ih v h
    rw [den_tup] at h ⊢
    obtain ⟨a, vs, e, s, d⟩ := h
    exact ⟨a, vs, e, ht a vs s, ih vs d⟩
  · intro n v h
    rw [den_ref] at h ⊢
    obtain ⟨a, e, q⟩ := h
    exact ⟨a, e, hr n a q⟩
  · intro vs h; simpa using h
  · intro t ts h1 h2 vs h
    rw [denL_cons] at h ⊢
    obtain ⟨v, r, e, d1, d2⟩ := h
    exact ⟨v, r, e, h1 v d1, h2 r d2⟩

theorem DenL.length : ∀ {ts : List T} {vs : List V}, DenL ρ H ts vs → ts.length = vs.length
  | [], vs, h => by rw [denL_nil] at h; subst h; rfl
  | t :: ts, vs, h => by
    rw [denL_cons] at h
    obtain ⟨v, r, rfl, _, h2⟩ := h
    simp [DenL.length h2]
theorem DenL.get : ∀ {ts : List T} {vs : List V} {i : Nat} {t : T}, DenL ρ H ts vs → ts[i]? = some t → ∃ v, vs[i]? = some v ∧ Den ρ H t v
  | [], vs, i, t, h, e => by simp at e
  | t :: ts, vs, 0, t', h, e => by
    rw [denL_cons] at h
    obtain ⟨v, r, rfl, h1, _⟩ := h
    simp at e; subst e
    exact ⟨v, by simp, h1⟩
  | t :: ts, vs, i + 1, t', h, e => by
    rw [denL_cons] at h
    obtain ⟨v, r, rfl, _, h2⟩ := h
    obtain ⟨w, h3, h4⟩ := DenL.get (i := i) h2 (by simpa using e)
    exact ⟨w, by simpa using h3, h4⟩
theorem DenL.append : ∀ {ts us : List T} {vs ws : List V}, DenL ρ H ts vs → DenL ρ H us ws → DenL ρ H (ts ++ us) (vs ++ ws)
  | [], us, vs, ws, h, g => by rw [denL_nil] at h; subst h; simpa using g
  | t :: ts, us, vs, ws, h, g => by
    rw [denL_cons] at h
    obtain ⟨v, r, rfl, h1, h2⟩ := h
    show DenL ρ H (t :: (ts ++ us)) (v :: (r ++ ws))
    rw [denL_cons2]
    exact ⟨h1, DenL.append h2 g⟩
theorem DenL.one {t : T} {v : V} (h : Den ρ H t v) : DenL ρ H [t] [v] := by rw [denL_cons2]; exact ⟨h, by simp⟩
theorem DenL.set : ∀ {ts : List T} {vs : List V} (i : Nat) {t : T} {v : V}, DenL ρ H ts vs → Den ρ H t v → DenL ρ H (ts.set i t) (vs.set i v)
  | [], vs, i, t, v, h, g => by rw [denL_nil] at h; subst h; simp
  | t' :: ts, vs, 0, t, v, h, g => by
    rw [denL_cons] at h
    obtain ⟨w, r, rfl, h1, h2⟩ := h
    show DenL ρ H (t :: ts) (v :: r)
    rw [denL_cons2]
    exact ⟨g, h2⟩
  | t' :: ts, vs, i + 1, t, v, h, g => by
    rw [denL_cons] at h
    obtain ⟨w, r, rfl, h1, h2⟩ := h
    show DenL ρ H (t' :: ts.set i t) (w :: r.set i v)
    rw [denL_cons2]
    exact ⟨h1, DenL.set i h2 g⟩
theorem DenL.take : ∀ {ts : List T} {vs : List V} (n : Nat), DenL ρ H ts vs → DenL ρ H (ts.take n) (vs.take n)
  | ts, vs, 0, h => by simp
  | [], vs, n + 1, h => by rw [denL_nil] at h; subst h; simp
  | t :: ts, vs, n + 1, h => by
    rw [denL_cons] at h
    obtain ⟨w, r, rfl, h1, h2⟩ := h
    show DenL ρ H (t :: ts.take n) (w :: r.take n)
    rw [denL_cons2]
    exact ⟨h1, DenL.take n h2⟩
theorem DenL.drop : ∀ {ts : List T} {vs : List V} (n : Nat), DenL ρ H ts vs → DenL ρ H (ts.drop n) (vs.drop n)
  | ts, vs, 0, h => h
  | [], vs, n + 1, h => by rw [denL_nil] at h; subst h; simp
  | t :: ts, vs, n + 1, h => by
    rw [denL_cons] at h
    obtain ⟨w, r, rfl, h1, h2⟩ := h
    exact DenL.drop n h2
theorem DenL.reverse {ts : List T} {vs : List V} (h : DenL ρ H ts vs) : DenL ρ H ts.reverse vs.reverse := by
  induction ts generalizing vs with
  | nil => rw [denL_nil] at h; subst h; simp
  | cons t ts ih =>
    rw [denL_cons] at h
    obtain ⟨w, r, rfl, h1, h2⟩ := h
    rw [List.reverse_cons, List.reverse_cons]
    exact (ih h2).append (.one h1)
theorem DenL.eraseIdx : ∀ {ts : List T} {vs : List V} (i : Nat), DenL ρ H ts vs → DenL ρ H (ts.eraseIdx i) (vs.eraseIdx i)
  | [], vs, i, h => by rw [denL_nil] at h; subst h; simp
  | t :: ts, vs, 0, h => by
    rw [denL_cons] at h
    obtain ⟨w, r, rfl, h1, h2⟩ := h
    exact h2
  | t :: ts, vs, i + 1, h => by
    rw [denL_cons] at h
    obtain ⟨w, r, rfl, h1, h2⟩ := h
    show DenL ρ H (t :: ts.eraseIdx i) (w :: r.eraseIdx i)
    rw [denL_cons2]
    exact ⟨h1, DenL.eraseIdx i h2⟩
theorem DenL.rep {ts : List T} {vs : List V} (h : DenL ρ H ts vs) : ∀ n : Nat, DenL ρ H (List.replicate n ts).flatten (List.replicate n vs).flatten
  | 0 => by simp
  | n + 1 => by
    rw [List.replicate_succ, List.replicate_succ, List.flatten_cons, List.flatten_cons]
    exact h.append (DenL.rep h n)
end

/-! ### the store -/
def AL.find : AL → Nat → Option Ob
  | .nil, _ => none
  | .cons id o r, i => if Nat.beq id i = true then some o else AL.find r i
def Sto.find (s : Sto) (i : Nat) : Option Ob := match s with
  | .mk _ a => a.find i
def Sto.n (s : Sto) : Nat := match s with
  | .mk n _ => n
def Sto.a (s : Sto) : AL := match s with
  | .mk _ a => a

/-- a dict's key -/
def keyT : T → Option Key
  | .int i => some (.inl i)
  | .str s => some (.inr ⟨s.toArray⟩)
  | _ => none
def keyTs : T → Option (List Key)
  | .tup ts => ts.mapM keyT
  | _ => none
def DenK {κ : Type} (kf : T → Option κ) (ρ : Nat → Option Addr) (H : Hp) : List (T × T) → List (κ × V) → Prop
  | [], ys => ys = []
  | p :: r, ys => ∃ k v q, ys = (k, v) :: q ∧ kf p.1 = some k ∧ Den ρ H p.2 v ∧ DenK kf ρ H r q
def DenO (ρ : Nat → Option Addr) (H : Hp) (o : Ob) (ho : HO) : Prop := match o with
  | .l ts => ∃ vs, ho = .lst vs ∧ DenL ρ H ts vs
  | .d false kvs => ∃ ys, ho = .dK ys ∧ DenK keyT ρ H kvs ys
  | .d true kvs => ∃ ys, ho = .dT ys ∧ DenK keyTs ρ H kvs ys

structure RelS (ρ : Nat → Option Addr) (s : Sto) (H : Hp) : Prop where
  dom : ∀ m, s.n ≤ m → ρ m = none
  def_ : ∀ m, m < s.n → ∃ a, ρ m = some a
  inj : ∀ m m' a, ρ m = some a → ρ m' = some a → m = m'
  trk : ∀ m a, ρ m = some a → H a ≠ none
  live : ∀ m o, s.find m = some o → ∃ a ho, ρ m = some a ∧ H a = some ho ∧ DenO ρ H o ho
/-- owned: an address of a live object -/
def Own (ρ : Nat → Option Addr) (s : Sto) (a : Addr) : Prop := ∃ m o, s.find m = some o ∧ ρ m = some a
structure Ext (ρ : Nat → Option Addr) (s : Sto) (H : Hp) (ρ' : Nat → Option Addr) (s' : Sto) (H' : Hp) : Prop where
  le : ∀ m a, ρ m = some a → ρ' m = some a
  n : s.n ≤ s'.n
  new : ∀ m a, ρ m = none → ρ' m = some a → H a = none
  old : ∀ m o, s'.find m = some o → m < s.n → ∃ o', s.find m = some o'
  fr : ∀ a o, H a = some o → ¬ Own ρ s a → H' a = some o
  dom : ∀ a, H a ≠ none → H' a ≠ none
/-- no tuple, nothing locked is owned -/
theorem RelS.own {ρ : Nat → Option Addr} {s : Sto} {H : Hp} (r : RelS ρ s H) {a : Addr} (h : Own ρ s a) : (∃ xs, H a = some (.lst xs)) ∨ (∃ xs, H a = some (.dK xs)) ∨ ∃ xs, H a = some (.dT xs) := by
  obtain ⟨m, o, h1, h2⟩ := h
  obtain ⟨a', ho, e1, e2, d⟩ := r.live m o h1
  rw [h2] at e1; cases e1
  cases o with
  | l ts => obtain ⟨vs, rfl, _⟩ := d; exact .inl ⟨vs, e2⟩
  | d b kvs =>
    cases b with
    | false => obtain ⟨ys, rfl, _⟩ := d; exact .inr (.inl ⟨ys, e2⟩)
    | true => obtain ⟨ys, rfl, _⟩ := d; exact .inr (.inr ⟨ys, e2⟩)
section
variable {ρ ρ1 ρ2 : Nat → Option Addr} {s s1 s2 : Sto} {H H1 H2 : Hp}
theorem Ext.refl : Ext ρ s H ρ s H := ⟨fun _ _ h => h, Nat.le_refl _, fun m a h1 h2 => (nomatch h1.symm.trans h2), fun _ o h _ => ⟨o, h⟩, fun _ _ h _ => h, fun _ h => h⟩
theorem Ext.trans (r : RelS ρ s H) (r1 : RelS ρ1 s1 H1) (a : Ext ρ s H ρ1 s1 H1) (b : Ext ρ1 s1 H1 ρ2 s2 H2) : Ext ρ s H ρ2 s2 H2 where
  le := fun m x h => b.le m x (a.le m x h)
  n := Nat.le_trans a.n b.n
  new := fun m x h1 h2 => by
    cases e : ρ1 m with
    | some y =>
      have q := b.le m y e
      rw [h2] at q; cases q
      exact a.new m x h1 e
    | none =>
      have q := b.new m x e h2
      exact Classical.byContradiction fun z => a.dom x z q
  old := fun m o h hm => by
    obtain ⟨o1, e1⟩ := b.old m o h (Nat.lt_of_lt_of_le hm a.n)
    exact a.old m o1 e1 hm
  fr := fun x o h hn => by
    refine b.fr x o (a.fr x o h hn) ?_
    rintro ⟨m, om, h1, h2⟩
    by_cases hm : m < s.n
    · obtain ⟨o', e⟩ := a.old m om h1 hm
      obtain ⟨y, ey⟩ := r.def_ m hm
      have q := a.le m y ey
      rw [h2] at q; cases q
      exact hn ⟨m, o', e, ey⟩
    · have q := a.new m x (r.dom m (Nat.le_of_not_lt hm)) h2
      rw [h] at q; cases q
  dom := fun x h => b.dom x (a.dom x h)
/-- tuples and what is locked stay -/
theorem Ext.rd (r : RelS ρ s H) (a : Ext ρ s H ρ1 s1 H1) {x : Addr} {u : HO} (h : H x = some u) (hu : (∀ xs, u ≠ .lst xs) ∧ (∀ xs, u ≠ .dK xs) ∧ ∀ xs, u ≠ .dT xs) : H1 x = some u := by
  refine a.fr x u h fun o => ?_
  rcases r.own o with ⟨xs, e⟩ | ⟨xs, e⟩ | ⟨xs, e⟩ <;> (rw [h] at e; cases e)
  · exact hu.1 _ rfl
  · exact hu.2.1 _ rfl
  · exact hu.2.2 _ rfl
theorem Ext.tup (r : RelS ρ s H) (a : Ext ρ s H ρ1 s1 H1) {x : Addr} {xs : List V} (h : H x = some (.tup xs)) : H1 x = some (.tup xs) := a.rd r h ⟨fun _ z => (nomatch z), fun _ z => (nomatch z), fun _ z => (nomatch z)⟩
theorem Den.ext {t : T} {v : V} (h : Den ρ H t v) (r : RelS ρ s H) (a : Ext ρ s H ρ1 s1 H1) : Den ρ1 H1 t v := (den_mono_both a.le fun _ _ q => a.tup r q).1 t v h
theorem DenL.ext {ts : List T} {vs : List V} (h : DenL ρ H ts vs) (r : RelS ρ s H) (a : Ext ρ s H ρ1 s1 H1) : DenL ρ1 H1 ts vs := (den_mono_both a.le fun _ _ q => a.tup r q).2 ts vs h
theorem DenK.mono {κ : Type} {kf : T → Option κ} (d : ∀ t v, Den ρ H t v → Den ρ1 H1 t v) : ∀ {xs : List (T × T)} {ys : List (κ × V)}, DenK kf ρ H xs ys → DenK kf ρ1 H1 xs ys
  | [], ys, h => h
  | p :: r, ys, h => by
    obtain ⟨k, v, q, e, h1, h2, h3⟩ := h
    exact ⟨k, v, q, e, h1, d _ _ h2, DenK.mono d h3⟩
theorem DenO.mono {o : Ob} {ho : HO} (d : ∀ t v, Den ρ H t v → Den ρ1 H1 t v) (dl : ∀ t v, DenL ρ H t v → DenL ρ1 H1 t v) (h : DenO ρ H o ho) : DenO ρ1 H1 o ho := by
  cases o with
  | l ts => obtain ⟨vs, e, h⟩ := h; exact ⟨vs, e, dl _ _ h⟩
  | d b kvs =>
    cases b with
    | false => obtain ⟨ys, e, h⟩ := h; exact ⟨ys, e, h.mono d⟩
    | true => obtain ⟨ys, e, h⟩ := h; exact ⟨ys, e, h.mono d⟩
theorem DenO.ext {o : Ob} {ho : HO} (h : DenO ρ H o ho) (r : RelS ρ s H) (a : Ext ρ s H ρ1 s1 H1) : DenO ρ1 H1 o ho := h.mono (fun _ _ q => q.ext r a) fun _ _ q => q.ext r a

/-- a new object that the store does not know -/
theorem Ext.fresh {p : Addr} {o : HO} (hp : H p = none) : Ext ρ s H ρ s (upd H p o) :=
  ⟨fun _ _ h => h, Nat.le_refl _, fun m a h1 h2 => (nomatch h1.symm.trans h2), fun _ o h _ => ⟨o, h⟩, fun a u h _ => by rw [upd_ne (ne_of_none h hp)]; exact h,
    fun a h => by
      by_cases e : a = p
      · subst e; rw [upd_same]; exact fun z => nomatch z
      · rw [upd_ne e]; exact h⟩
theorem RelS.fresh {p : Addr} {o : HO} (r : RelS ρ s H) (hp : H p = none) : RelS ρ s (upd H p o) := by
  have e : Ext ρ s H ρ s (upd H p o) := Ext.fresh hp
  refine ⟨r.dom, r.def_, r.inj, fun m a h => e.dom a (r.trk m a h), fun m ob h => ?_⟩
  obtain ⟨a, ho, h1, h2, h3⟩ := r.live m ob h
  exact ⟨a, ho, h1, by rw [upd_ne (ne_of_none h2 hp)]; exact h2, h3.ext r e⟩
end

/-! ### slots -/
def RelE (ρ : Nat → Option Addr) (H : Hp) : En → L2.St → Prop
  | .nil, σ => σ = []
  | .u r, σ => ∃ x q, σ = x :: q ∧ RelE ρ H r q
  | .b t r, σ => ∃ v q, σ = some v :: q ∧ Den ρ H t v ∧ RelE ρ H r q
section
variable {ρ ρ1 : Nat → Option Addr} {s s1 : Sto} {H H1 : Hp}
theorem RelE.mono (d : ∀ t v, Den ρ H t v → Den ρ1 H1 t v) : ∀ {e : En} {σ : L2.St}, RelE ρ H e σ → RelE ρ1 H1 e σ
  | .nil, σ, h => h
  | .u r, σ, h => by
    obtain ⟨x, q, e, h⟩ := h
    exact ⟨x, q, e, RelE.mono d h⟩
  | .b t r, σ, h => by
    obtain ⟨x, q, e, h1, h⟩ := h
    exact ⟨x, q, e, d _ _ h1, RelE.mono d h⟩
theorem RelE.ext {e : En} {σ : L2.St} (h : RelE ρ H e σ) (r : RelS ρ s H) (a : Ext ρ s H ρ1 s1 H1) : RelE ρ1 H1 e σ := h.mono fun _ _ q => q.ext r a
end

/-! ### what is wanted of a result -/
/-- a new list, unshared, of ts -/
def NewL (ρ : Nat → Option Addr) (H0 H : Hp) (ts : List T) (a : Addr) : Prop := H0 a = none ∧ (∀ m, ρ m ≠ some a) ∧ ∃ vs, H a = some (.lst vs) ∧ DenL ρ H ts vs
def Post (ρ : Nat → Option Addr) (s : Sto) (H : Hp) (m : Res) (Q : VK) : Prop := match m with
  | .er => False
  | .v t s' => ∀ ρ' H' v, Ext ρ s H ρ' s' H' → RelS ρ' s' H' → Den ρ' H' t v → Q v H'
  | .nl ts s' => ∀ ρ' H' a, Ext ρ s H ρ' s' H' → RelS ρ' s' H' → NewL ρ' H H' ts a → Q (.ref a) H'
def PostT (ρ : Nat → Option Addr) (s : Sto) (H : Hp) (m : TR) (Q : Bool → Hp → Prop) : Prop := match m with
  | .er => False
  | .ok b s' => ∀ ρ' H', Ext ρ s H ρ' s' H' → RelS ρ' s' H' → Q b H'
def PostL (ρ : Nat → Option Addr) (s : Sto) (H : Hp) (m : LR) (Q : List V → Hp → Prop) : Prop := match m with
  | .er => False
  | .ok ts s' => ∀ ρ' H' vs, Ext ρ s H ρ' s' H' → RelS ρ' s' H' → DenL ρ' H' ts vs → Q vs H'
def PostG (ρ : Nat → Option Addr) (s : Sto) (H : Hp) (m : GR) (Q : L2.St → Hp → Prop) : Prop := match m with
  | .er => False
  | .ok e' s' => ∀ ρ' H' σ', Ext ρ s H ρ' s' H' → RelS ρ' s' H' → RelE ρ' H' e' σ' → Q σ' H'
def PostS (ρ : Nat → Option Addr) (s : Sto) (H : Hp) (m : SR) (D : Ends) : Prop := match m with
  | .er => False
  | .nx e' s' => ∀ ρ' H' σ', Ext ρ s H ρ' s' H' → RelS ρ' s' H' → RelE ρ' H' e' σ' → D.nx σ' H'
  | .bk e' s' => ∀ ρ' H' σ', Ext ρ s H ρ' s' H' → RelS ρ' s' H' → RelE ρ' H' e' σ' → D.bk σ' H'
  | .ct e' s' => ∀ ρ' H' σ', Ext ρ s H ρ' s' H' → RelS ρ' s' H' → RelE ρ' H' e' σ' → D.ct σ' H'
  | .rtv t s' => ∀ ρ' H' v, Ext ρ s H ρ' s' H' → RelS ρ' s' H' → Den ρ' H' t v → D.rt v H'
  | .rtl ts s' => ∀ ρ' H' a, Ext ρ s H ρ' s' H' → RelS ρ' s' H' → NewL ρ' H H' ts a → D.rt (.ref a) H'
section
variable {ρ ρ1 : Nat → Option Addr} {s s1 : Sto} {H H1 : Hp}
theorem none_back (a : Ext ρ s H ρ1 s1 H1) {x : Addr} (h : H1 x = none) : H x = none := Classical.byContradiction fun z => a.dom x z h
theorem Post.step {m : Res} {Q : VK} (r : RelS ρ s H) (r1 : RelS ρ1 s1 H1) (a : Ext ρ s H ρ1 s1 H1) (h : Post ρ s H m Q) : Post ρ1 s1 H1 m Q := by
  cases m with
  | er => exact h
  | v t s' => exact fun ρ' H' v e rr d => h ρ' H' v (a.trans r r1 e) rr d
  | nl ts s' => exact fun ρ' H' x e rr d => h ρ' H' x (a.trans r r1 e) rr ⟨none_back a d.1, d.2⟩
theorem PostT.step {m : TR} {Q : Bool → Hp → Prop} (r : RelS ρ s H) (r1 : RelS ρ1 s1 H1) (a : Ext ρ s H ρ1 s1 H1) (h : PostT ρ s H m Q) : PostT ρ1 s1 H1 m Q := by
  cases m with
  | er => exact h
  | ok b s' => exact fun ρ' H' e rr => h ρ' H' (a.trans r r1 e) rr
theorem PostL.step {m : LR} {Q : List V → Hp → Prop} (r : RelS ρ s H) (r1 : RelS ρ1 s1 H1) (a : Ext ρ s H ρ1 s1 H1) (h : PostL ρ s H m Q) : PostL ρ1 s1 H1 m Q := by
  cases m with
  | er => exact h
  | ok b s' => exact fun ρ' H' vs e rr => h ρ' H' vs (a.trans r r1 e) rr
theorem PostG.step {m : GR} {Q : L2.St → Hp → Prop} (r : RelS ρ s H) (r1 : RelS ρ1 s1 H1) (a : Ext ρ s H ρ1 s1 H1) (h : PostG ρ s H m Q) : PostG ρ1 s1 H1 m Q := by
  cases m with
  | er => exact h
  | ok b s' => exact fun ρ' H' vs e rr => h ρ' H' vs (a.trans r r1 e) rr
theorem PostS.step {m : SR} {D : Ends} (r : RelS ρ s H) (r1 : RelS ρ1 s1 H1) (a : Ext ρ s H ρ1 s1 H1) (h : PostS ρ s H m D) : PostS ρ1 s1 H1 m D := by
  cases m with
  | er => exact h
  | nx _ _ => exact fun ρ' H' vs e rr => h ρ' H' vs (a.trans r r1 e) rr
  | bk _ _ => exact fun ρ' H' vs e rr => h ρ' H' vs (a.trans r r1 e) rr
  | ct _ _ => exact fun ρ' H' vs e rr => h ρ' H' vs (a.trans r r1 e) rr
  | rtv t s' => exact fun ρ' H' v e rr d => h ρ' H' v (a.trans r r1 e) rr d
  | rtl ts s' => exact fun ρ' H' x e rr d => h ρ' H' x (a.trans r r1 e) rr ⟨none_back a d.1, d.2⟩

/-! ### a new list comes into the store -/
theorem find_alloc {n : Nat} {a : AL} {o : Ob} {m : Nat} : (Sto.mk (Nat.succ n) (.cons n o a)).find m = if n = m then some o else (Sto.mk n a).find m := by
  show (if Nat.beq n m = true then some o else AL.find a m) = _
  by_cases e : n = m
  · rw [if_pos (by rw [Nat.beq_eq]; exact e), if_pos e]
  · rw [if_neg (by rw [Nat.beq_eq]; exact e), if_neg e]; rfl
def addR (ρ : Nat → Option Addr) (n : Nat) (a : Addr) : Nat → Option Addr := fun m => if m = n then some a else ρ m
theorem addR_same {n : Nat} {a : Addr} : addR ρ n a n = some a := if_pos rfl
theorem addR_ne {n m : Nat} {a : Addr} (h : m ≠ n) : addR ρ n a m = ρ m := if_neg h
/-- the object at a, unknown so far, becomes the store's next -/
theorem adopt {s0 : Sto} {H0 : Hp} {ρ0 : Nat → Option Addr} {n : Nat} {al : AL} {o : Ob} {ho : HO} {a : Addr} (r0 : RelS ρ0 s0 H0) (e0 : Ext ρ0 s0 H0 ρ (.mk n al) H) (r : RelS ρ (.mk n al) H)
    (h0 : H0 a = none) (hr : ∀ m, ρ m ≠ some a) (ha : H a = some ho) (d : DenO ρ H o ho) :
    Ext ρ0 s0 H0 (addR ρ n a) (.mk (Nat.succ n) (.cons n o al)) H ∧ RelS (addR ρ n a) (.mk (Nat.succ n) (.cons n o al)) H := by
  have hn : ρ n = none := r.dom n (Nat.le_refl _)
  have le : ∀ m x, ρ m = some x → addR ρ n a m = some x := fun m x h => by
    rw [addR_ne]; exact h
    rintro rfl; rw [hn] at h; cases h
  have dm := den_mono_both (H := H) (H' := H) le (fun _ _ q => q)
  refine ⟨⟨fun m x h => le m x (e0.le m x h), Nat.le_succ_of_le e0.n, fun m x h1 h2 => ?_, fun m o' h hm => ?_, e0.fr, e0.dom⟩, ⟨fun m hm => ?_, fun m hm => ?_, fun m m' x h1 h2 => ?_, fun m x h => ?_, fun m o' h => ?_⟩⟩
  · by_cases e : m = n
    · subst e; rw [addR_same] at h2; cases h2; exact h0
    · rw [addR_ne e] at h2; exact e0.new m x h1 h2
  · rw [find_alloc] at h
    have : n ≠ m := by
      have := e0.n
      have q : s0.n ≤ n := this
      omega
    rw [if_neg this] at h
    exact e0.old m o' h hm
  · have hm' : n < m := hm
    rw [addR_ne (by omega)]
    exact r.dom m (Nat.le_of_lt hm')
  · by_cases e : m = n
    · exact ⟨a, by rw [e, addR_same]⟩
    · have hm' : m < n + 1 := hm
      rw [addR_ne e]
      exact r.def_ m (show m < n by omega)
  · by_cases e1 : m = n
    · by_cases e2 : m' = n
      · rw [e1, e2]
      · subst e1; rw [addR_same] at h1; cases h1
        rw [addR_ne e2] at h2
        exact absurd h2 (hr m')
    · rw [addR_ne e1] at h1
      by_cases e2 : m' = n
      · subst e2; rw [addR_same] at h2; cases h2
        exact absurd h1 (hr m)
      · rw [addR_ne e2] at h2
        exact r.inj m m' x h1 h2
  · by_cases e : m = n
    · subst e; rw [addR_same] at h; cases h; rw [ha]; exact fun z => nomatch z
    · rw [addR_ne e] at h; exact r.trk m x h
  · rw [find_alloc] at h
    by_cases e : n = m
    · rw [if_pos e] at h; cases h
      subst e
      exact ⟨a, ho, addR_same, ha, d.mono dm.1 dm.2⟩
    · rw [if_neg e] at h
      obtain ⟨x, ho', h1, h2, h3⟩ := r.live m o' h
      exact ⟨x, ho', le m x h1, h2, h3.mono dm.1 dm.2⟩
theorem frN_eq {α : Type} (n : Nat) (k : Nat → α) : frN n k = k n := by cases n <;> rfl
theorem frI_eq {α : Type} (i : Int) (k : Int → α) : frI i k = k i := by 
  cases i with
  | ofNat n => exact frN_eq n fun n => k (Int.ofNat n)
  | negSucc n => exact frN_eq n fun n => k (Int.negSucc n)
theorem alloc_eq {α : Type} (o : Ob) (n : Nat) (a : AL) (k : T → Sto → α) : alloc o (.mk n a) k = k (.ref n) (.mk (Nat.succ n) (.cons n o a)) := frN_eq n fun n => k (.ref n) (.mk (Nat.succ n) (.cons n o a))

/-- bnd: the value's reading, then what follows -/
theorem bnd_post {m : Res} {k : T → Sto → Res} {Q : VK} (r : RelS ρ s H) (h : Post ρ s H (bnd .er m k) Q) :
    Post ρ s H m fun v H' => ∃ ρ' s' t, Ext ρ s H ρ' s' H' ∧ RelS ρ' s' H' ∧ Den ρ' H' t v ∧ Post ρ' s' H' (k t s') Q := by
  cases m with
  | er => exact h
  | v t s' => exact fun ρ' H' v e rr d => ⟨ρ', s', t, e, rr, d, h.step r rr e⟩
  | nl ts s' =>
    intro ρ' H' a e rr d
    obtain ⟨n, al⟩ := s'
    have h' : Post ρ s H (k (.ref n) (.mk (Nat.succ n) (.cons n (.l ts) al))) Q := by
      have q : Post ρ s H (alloc (.l ts) (.mk n al) k) Q := h
      rwa [alloc_eq] at q
    obtain ⟨d1, d2, vs, d3, d4⟩ := d
    obtain ⟨e2, rr2⟩ := adopt r e rr d1 d2 d3 (show DenO ρ' H' (.l ts) (.lst vs) from ⟨vs, rfl, d4⟩)
    exact ⟨_, _, _, e2, rr2, by rw [den_ref]; exact ⟨a, rfl, addR_same⟩, h'.step r rr2 e2⟩
end
end Rk
end
section
set_option linter.all false
set_option autoImplicit false
set_option maxRecDepth 100000
namespace Rk
open PySem PySem.Spec PyProof.Rows L2

/-! ### equations of the core -/
section
variable {α β : Type}
@[simp] theorem onT_non {a : α} {b i s u r} : onT .non a b i s u r = a := rfl
@[simp] theorem onT_bl {a : α} {b i s u r} {x : Bool} : onT (.bl x) a b i s u r = b x := rfl
@[simp] theorem onT_int {a : α} {b i s u r} {x : Int} : onT (.int x) a b i s u r = i x := rfl
@[simp] theorem onT_str {a : α} {b i s u r} {x : List Nat} : onT (.str x) a b i s u r = s x := rfl
@[simp] theorem onT_tup {a : α} {b i s u r} {x : List T} : onT (.tup x) a b i s u r = u x := rfl
@[simp] theorem onT_ref {a : α} {b i s u r} {x : Nat} : onT (.ref x) a b i s u r = r x := rfl
@[simp] theorem onInt_non {e : α} {k} : onInt e .non k = e := rfl
@[simp] theorem onInt_bl {e : α} {k} {x : Bool} : onInt e (.bl x) k = e := rfl
@[simp] theorem onInt_int {e : α} {k} {x : Int} : onInt e (.int x) k = k x := rfl
@[simp] theorem onInt_str {e : α} {k} {x : List Nat} : onInt e (.str x) k = e := rfl
@[simp] theorem onInt_tup {e : α} {k} {x : List T} : onInt e (.tup x) k = e := rfl
@[simp] theorem onInt_ref {e : α} {k} {x : Nat} : onInt e (.ref x) k = e := rfl
@[simp] theorem ifB_true {x y : α} : ifB true x y = x := rfl
@[simp] theorem ifB_false {x y : α} : ifB false x y = y := rfl
@[simp] theorem onOb_l {l : List T → α} {d} {x : List T} : onOb (.l x) l d = l x := rfl
@[simp] theorem onOb_d {l : List T → α} {d} {b : Bool} {x : List (T × T)} : onOb (.d b x) l d = d b x := rfl
@[simp] theorem onOp_none {e : α} {k : β → α} : onOp none e k = e := rfl
@[simp] theorem onOp_some {e : α} {k : β → α} {b : β} : onOp (some b) e k = k b := rfl
@[simp] theorem frN_is {α : Type} (n : Nat) (k : Nat → α) : frN n k = k n := frN_eq n k
@[simp] theorem frI_is {α : Type} (i : Int) (k : Int → α) : frI i k = k i := frI_eq i k
theorem AL.get_eq {e : α} (a : AL) (i : Nat) (k : Ob → α) : AL.get e a i k = match a.find i with | none => e | some o => k o := by
  induction a with
  | nil => rfl
  | cons id o r ih =>
    show ifB (Nat.beq id i) (k o) (AL.get e r i k) = match (if Nat.beq id i = true then some o else AL.find r i) with | none => e | some o => k o
    cases Nat.beq id i with
    | true => rfl
    | false => exact ih
theorem getO_eq {e : α} (s : Sto) (i : Nat) (k : Ob → α) : getO e s i k = match s.find i with | none => e | some o => k o := by
  cases s with
  | mk n a => exact AL.get_eq a i k
theorem lenK_eq (xs : List β) (n : Nat) (k : Nat → α) : lenK xs n k = k (n + xs.length) := by
  induction xs generalizing n with
  | nil => exact frN_eq n k
  | cons x r ih =>
    have : lenK (x :: r) n k = lenK r (n + 1) k := rfl
    rw [this, ih, List.length_cons]; congr 1; omega
theorem lenK0 (xs : List β) (k : Nat → α) : lenK xs 0 k = k xs.length := by rw [lenK_eq, Nat.zero_add]
theorem catK_eq (xs ys : List T) (k : List T → α) : catK xs ys k = k (xs ++ ys) := by
  induction xs generalizing k with
  | nil => rfl
  | cons x r ih => exact ih fun q => k (x :: q)
theorem appK_eq (xs : List T) (y : T) (k : List T → α) : appK xs y k = k (xs ++ [y]) := by
  induction xs generalizing k with
  | nil => rfl
  | cons x r ih => exact ih fun q => k (x :: q)
theorem revK_eq (xs acc : List T) (k : List T → α) : revK xs acc k = k (xs.reverse ++ acc) := by
  induction xs generalizing acc with
  | nil => rfl
  | cons x r ih =>
    have : revK (x :: r) acc k = revK r (x :: acc) k := rfl
    rw [this, ih]; simp
theorem nthK_eq (e : α) (k : β → α) (i : Nat) (xs : List β) : nthK e k i xs = match xs[i]? with | none => e | some x => k x := by
  induction i generalizing xs with
  | zero => cases xs <;> rfl
  | succ i ih =>
    cases xs with
    | nil => rfl
    | cons x r => exact ih r
theorem setK_eq (e : α) (y : β) (i : Nat) (xs : List β) (k : List β → α) : setK e y i xs k = if i < xs.length then k (xs.set i y) else e := by
  induction i generalizing xs k with
  | zero => cases xs <;> rfl
  | succ i ih =>
    cases xs with
    | nil => rfl
    | cons x r =>
      have := ih r fun q => k (x :: q)
      refine Eq.trans this ?_
      simp only [List.length_cons, Nat.add_lt_add_iff_right, List.set_cons_succ]
theorem dropK_eq (i : Nat) (xs : List β) : dropK i xs = xs.drop i := by
  induction i generalizing xs with
  | zero => cases xs <;> rfl
  | succ i ih =>
    cases xs with
    | nil => rfl
    | cons x r => exact ih r
theorem takeK_eq (i : Nat) (xs : List β) (k : List β → α) : takeK i xs k = k (xs.take i) := by
  induction i generalizing xs k with
  | zero => cases xs <;> rfl
  | succ i ih =>
    cases xs with
    | nil => rfl
    | cons x r => exact ih r fun q => k (x :: q)
theorem repK_eq (xs : List T) (n : Nat) (k : List T → α) : repK xs n k = k (List.replicate n xs).flatten := by
  induction n generalizing k with
  | zero => rfl
  | succ n ih =>
    have : repK xs (n + 1) k = repK xs n fun r => catK xs r k := rfl
    rw [this, ih, catK_eq]; rfl
theorem nilB_eq (xs : List β) : nilB xs = xs.isEmpty := by cases xs <;> rfl
end
theorem iAdd_eq (a b : Int) : iAdd a b = a + b := by cases a <;> cases b <;> rfl
theorem iNeg_eq (a : Int) : iNeg a = -a := by
  cases a with
  | ofNat n => cases n <;> rfl
  | negSucc n => rfl
theorem iLt_eq (a b : Int) : iLt a b = decide (a < b) := by
  cases a with
  | ofNat m =>
    cases b with
    | ofNat n =>
      show Nat.blt m n = _
      rw [Bool.eq_iff_iff, Nat.blt_eq, decide_eq_true_iff]
      simp
    | negSucc n => symm; apply decide_eq_false; simp only [Int.ofNat_eq_natCast]; omega
  | negSucc m =>
    cases b with
    | ofNat n => symm; apply decide_eq_true; simp only [Int.ofNat_eq_natCast]; omega
    | negSucc n =>
      show Nat.blt n m = _
      rw [Bool.eq_iff_iff, Nat.blt_eq, decide_eq_true_iff]; omega
theorem nbeq (m n : Nat) : Nat.beq m n = decide (m = n) := by
  rw [Bool.eq_iff_iff, Nat.beq_eq, decide_eq_true_iff]
theorem iEq_eq (a b : Int) : iEq a b = decide (a = b) := by
  cases a with
  | ofNat m =>
    cases b with
    | ofNat n => exact (nbeq m n).trans (by rw [Bool.eq_iff_iff]; simp; omega)
    | negSucc n => symm; apply decide_eq_false; simp
  | negSucc m =>
    cases b with
    | ofNat n => symm; apply decide_eq_false; simp
    | negSucc n => exact (nbeq m n).trans (by rw [Bool.eq_iff_iff]; simp)
theorem szOk_iff {n : Nat} : szOk n = true → n ≤ sizeLine := by
  intro h
  rw [sizeLine_eq]
  exact Nat.le_of_ble_eq_true h
theorem iSm_iff {a : Int} (h : iSm a = true) : -(2 ^ 64) < a ∧ a < 2 ^ 64 := by
  cases a with
  | ofNat m =>
    have : m < 18446744073709551616 := by have q : Nat.blt m 18446744073709551616 = true := h; rwa [Nat.blt_eq] at q
    simp only [Int.ofNat_eq_natCast]; omega
  | negSucc m =>
    have : m < 18446744073709551615 := by have q : Nat.blt m 18446744073709551615 = true := h; rwa [Nat.blt_eq] at q
    omega
theorem iTn_iff {a : Int} (h : iTn a = true) : a.natAbs < 1073741824 := by
  cases a with
  | ofNat m =>
    have : m < 1073741824 := by have q : Nat.blt m 1073741824 = true := h; rwa [Nat.blt_eq] at q
    simp only [Int.ofNat_eq_natCast]; omega
  | negSucc m =>
    have : m < 1073741823 := by have q : Nat.blt m 1073741823 = true := h; rwa [Nat.blt_eq] at q
    omega
theorem iMd_iff {a : Int} (h : iMd a = true) : -(2 ^ 62) ≤ a ∧ a < 2 ^ 62 := by
  cases a with
  | ofNat m =>
    have : m < 4611686018427387904 := by have q : Nat.blt m 4611686018427387904 = true := h; rwa [Nat.blt_eq] at q
    simp only [Int.ofNat_eq_natCast]; omega
  | negSucc m =>
    have : m < 4611686018427387904 := by have q : Nat.blt m 4611686018427387904 = true := h; rwa [Nat.blt_eq] at q
    omega

/-! ### readings -/
def rdE (c : Cf) (A : Ev) : TE := fun σ H Q => ∃ ρ e s, RelS ρ s H ∧ RelE ρ H e σ ∧ Post ρ s H (A c e s) Q
def rdT (c : Cf) (A : Tv) : TT := fun σ H Q => ∃ ρ e s, RelS ρ s H ∧ RelE ρ H e σ ∧ PostT ρ s H (A c e s) Q
def rdA (c : Cf) (A : Av) : TA := fun σ H Q => ∃ ρ e s, RelS ρ s H ∧ RelE ρ H e σ ∧ PostL ρ s H (A c e s) Q
def rdS (c : Cf) (A : Sv) : TS := fun D σ H => ∃ ρ e s, RelS ρ s H ∧ RelE ρ H e σ ∧ PostS ρ s H (A c e s) D
def rdG (c : Cf) (A : Gv) : TG := fun v σ H Q => ∃ ρ e s t, RelS ρ s H ∧ RelE ρ H e σ ∧ Den ρ H t v ∧ PostG ρ s H (A t c e s) Q
def rdGs (c : Cf) (A : Gs) : TGs := fun vs σ H Q => ∃ ρ e s ts, RelS ρ s H ∧ RelE ρ H e σ ∧ DenL ρ H ts vs ∧ PostG ρ s H (A ts c e s) Q

theorem _root_.L2.PE.mono {X : Cx} {e : Expr} {t t' : TE} (h : PE X e t) (m : ∀ σ H Q, t' σ H Q → t σ H Q) : PE X e t' := ⟨fun pins s σ H Q I q => h.run pins s σ H Q I (m σ H Q q)⟩
theorem _root_.L2.PT.mono {X : Cx} {e : Expr} {t t' : TT} (h : PT X e t) (m : ∀ σ H Q, t' σ H Q → t σ H Q) : PT X e t' := ⟨fun pins s σ H Q I q => h.run pins s σ H Q I (m σ H Q q)⟩
theorem _root_.L2.PW.mono {X : Cx} {e : Expr} {t t' : TT} (h : PW X e t) (m : ∀ σ H Q, t' σ H Q → t σ H Q) : PW X e t' := ⟨fun w pins s σ H Q I q => h.run w pins s σ H Q I (m σ H Q q)⟩
theorem _root_.L2.PA.mono {X : Cx} {e : List Expr} {t t' : TA} (h : PA X e t) (m : ∀ σ H Q, t' σ H Q → t σ H Q) : PA X e t' := ⟨fun pos pins s σ H Q I q => h.run pos pins s σ H Q I (m σ H Q q)⟩
theorem _root_.L2.PS.mono {X : Cx} {e : Stmt} {t t' : TS} (h : PS X e t) (m : ∀ D σ H, t' D σ H → t D σ H) : PS X e t' := ⟨fun pins s σ H D I q => h.run pins s σ H D I (m D σ H q)⟩
theorem _root_.L2.PSs.mono {X : Cx} {e : List Stmt} {t t' : TS} (h : PSs X e t) (m : ∀ D σ H, t' D σ H → t D σ H) : PSs X e t' := ⟨fun pins s σ H D I q => h.run pins s σ H D I (m D σ H q)⟩
theorem _root_.L2.PG.mono {X : Cx} {e : Expr} {t t' : TG} (h : PG X e t) (m : ∀ v σ H Q, t' v σ H Q → t v σ H Q) : PG X e t' := ⟨fun pins s σ H v u Q I r q => h.run pins s σ H v u Q I r (m v σ H Q q)⟩
theorem _root_.L2.PGs.mono {X : Cx} {e : List Expr} {t t' : TGs} (h : PGs X e t) (m : ∀ v σ H Q, t' v σ H Q → t v σ H Q) : PGs X e t' := ⟨fun pins s σ H v u Q I r q => h.run pins s σ H v u Q I r (m v σ H Q q)⟩
theorem pe_bad {X : Cx} {e : Expr} {c : Cf} : PE X e (rdE c eBad) := ⟨fun _ _ _ _ _ _ ⟨_, _, _, _, _, h⟩ => h.elim⟩
theorem pt_bad {X : Cx} {e : Expr} {c : Cf} : PT X e (rdT c tBad) := ⟨fun _ _ _ _ _ _ ⟨_, _, _, _, _, h⟩ => h.elim⟩
theorem pw_bad {X : Cx} {e : Expr} {c : Cf} : PW X e (rdT c tBad) := ⟨fun _ _ _ _ _ _ _ ⟨_, _, _, _, _, h⟩ => h.elim⟩
theorem pa_bad {X : Cx} {e : List Expr} {c : Cf} : PA X e (rdA c aBad) := ⟨fun _ _ _ _ _ _ _ ⟨_, _, _, _, _, h⟩ => h.elim⟩
theorem ps_bad {X : Cx} {e : Stmt} {c : Cf} : PS X e (rdS c sBad) := ⟨fun _ _ _ _ _ _ ⟨_, _, _, _, _, h⟩ => h.elim⟩
theorem pss_bad {X : Cx} {e : List Stmt} {c : Cf} : PSs X e (rdS c sBad) := ⟨fun _ _ _ _ _ _ ⟨_, _, _, _, _, h⟩ => h.elim⟩
theorem pg_bad {X : Cx} {e : Expr} {c : Cf} : PG X e (rdG c gBad) := ⟨fun _ _ _ _ _ _ _ _ _ ⟨_, _, _, _, _, _, _, h⟩ => h.elim⟩
theorem pgs_bad {X : Cx} {e : List Expr} {c : Cf} : PGs X e (rdGs c gsBad) := ⟨fun _ _ _ _ _ _ _ _ _ ⟨_, _, _, _, _, _, _, h⟩ => h.elim⟩

/-! ### binding, generic -/
section
variable {ρ : Nat → Option Addr} {s : Sto} {H : Hp}
/-- what is wanted of a thing that stays behind -/
structure Stb {α : Type} (P : (Nat → Option Addr) → Sto → Hp → α → Prop) : Prop where
  step : ∀ {ρ ρ1 s s1 H H1 m}, RelS ρ s H → RelS ρ1 s1 H1 → Ext ρ s H ρ1 s1 H1 → P ρ s H m → P ρ1 s1 H1 m
theorem stb_E {Q : VK} : Stb (α := Res) (fun ρ s H m => Post ρ s H m Q) := ⟨fun r r1 e h => h.step r r1 e⟩
theorem stb_T {Q : Bool → Hp → Prop} : Stb (α := TR) (fun ρ s H m => PostT ρ s H m Q) := ⟨fun r r1 e h => h.step r r1 e⟩
theorem stb_L {Q : List V → Hp → Prop} : Stb (α := LR) (fun ρ s H m => PostL ρ s H m Q) := ⟨fun r r1 e h => h.step r r1 e⟩
theorem stb_G {Q : L2.St → Hp → Prop} : Stb (α := GR) (fun ρ s H m => PostG ρ s H m Q) := ⟨fun r r1 e h => h.step r r1 e⟩
theorem stb_S {D : Ends} : Stb (α := SR) (fun ρ s H m => PostS ρ s H m D) := ⟨fun r r1 e h => h.step r r1 e⟩
theorem neE {Q : VK} : ∀ ρ s H, ¬ Post ρ s H .er Q := fun _ _ _ h => h
theorem neT {Q : Bool → Hp → Prop} : ∀ ρ s H, ¬ PostT ρ s H .er Q := fun _ _ _ h => h
theorem neL {Q : List V → Hp → Prop} : ∀ ρ s H, ¬ PostL ρ s H .er Q := fun _ _ _ h => h
theorem neG {Q : L2.St → Hp → Prop} : ∀ ρ s H, ¬ PostG ρ s H .er Q := fun _ _ _ h => h
theorem neS {D : Ends} : ∀ ρ s H, ¬ PostS ρ s H .er D := fun _ _ _ h => h
theorem bnd_gen {α : Type} {P : (Nat → Option Addr) → Sto → Hp → α → Prop} (sb : Stb P) {er : α} (ne : ∀ ρ s H, ¬ P ρ s H er) {m : Res} {k : T → Sto → α} (r : RelS ρ s H) (h : P ρ s H (bnd er m k)) :
    Post ρ s H m fun v H' => ∃ ρ' s' t, Ext ρ s H ρ' s' H' ∧ RelS ρ' s' H' ∧ Den ρ' H' t v ∧ P ρ' s' H' (k t s') := by
  cases m with
  | er => exact (ne _ _ _ h).elim
  | v t s' => exact fun ρ' H' v e rr d => ⟨ρ', s', t, e, rr, d, sb.step r rr e h⟩
  | nl ts s' =>
    intro ρ' H' a e rr d
    obtain ⟨n, al⟩ := s'
    have h' : P ρ s H (k (.ref n) (.mk (Nat.succ n) (.cons n (.l ts) al))) := by
      have q : P ρ s H (alloc (.l ts) (.mk n al) k) := h
      rwa [alloc_eq] at q
    obtain ⟨d1, d2, vs, d3, d4⟩ := d
    obtain ⟨e2, rr2⟩ := adopt r e rr d1 d2 d3 (show DenO ρ' H' (.l ts) (.lst vs) from ⟨vs, rfl, d4⟩)
    exact ⟨_, _, _, e2, rr2, by rw [den_ref]; exact ⟨a, rfl, addR_same⟩, sb.step r rr2 e2 h'⟩
theorem bnd_T {m : Res} {k : T → Sto → TR} {Q : Bool → Hp → Prop} (r : RelS ρ s H) (h : PostT ρ s H (bnd .er m k) Q) :
    Post ρ s H m fun v H' => ∃ ρ' s' t, Ext ρ s H ρ' s' H' ∧ RelS ρ' s' H' ∧ Den ρ' H' t v ∧ PostT ρ' s' H' (k t s') Q := bnd_gen stb_T neT r h
theorem bnd_L {m : Res} {k : T → Sto → LR} {Q : List V → Hp → Prop} (r : RelS ρ s H) (h : PostL ρ s H (bnd .er m k) Q) :
    Post ρ s H m fun v H' => ∃ ρ' s' t, Ext ρ s H ρ' s' H' ∧ RelS ρ' s' H' ∧ Den ρ' H' t v ∧ PostL ρ' s' H' (k t s') Q := bnd_gen stb_L neL r h
theorem bnd_S {m : Res} {k : T → Sto → SR} {D : Ends} (r : RelS ρ s H) (h : PostS ρ s H (bnd .er m k) D) :
    Post ρ s H m fun v H' => ∃ ρ' s' t, Ext ρ s H ρ' s' H' ∧ RelS ρ' s' H' ∧ Den ρ' H' t v ∧ PostS ρ' s' H' (k t s') D := bnd_gen stb_S neS r h
theorem bnd_G {m : Res} {k : T → Sto → GR} {Q : L2.St → Hp → Prop} (r : RelS ρ s H) (h : PostG ρ s H (bnd .er m k) Q) :
    Post ρ s H m fun v H' => ∃ ρ' s' t, Ext ρ s H ρ' s' H' ∧ RelS ρ' s' H' ∧ Den ρ' H' t v ∧ PostG ρ' s' H' (k t s') Q := bnd_gen stb_G neG r h
theorem bndT_gen {α : Type} {P : (Nat → Option Addr) → Sto → Hp → α → Prop} (sb : Stb P) {er : α} (ne : ∀ ρ s H, ¬ P ρ s H er) {m : TR} {k : Bool → Sto → α} (r : RelS ρ s H) (h : P ρ s H (bndT er m k)) :
    PostT ρ s H m fun b H' => ∃ ρ' s', Ext ρ s H ρ' s' H' ∧ RelS ρ' s' H' ∧ P ρ' s' H' (k b s') := by
  cases m with
  | er => exact (ne _ _ _ h).elim
  | ok b s' => exact fun ρ' H' e rr => ⟨ρ', s', e, rr, sb.step r rr e h⟩
theorem bndL_gen {α : Type} {P : (Nat → Option Addr) → Sto → Hp → α → Prop} (sb : Stb P) {er : α} (ne : ∀ ρ s H, ¬ P ρ s H er) {m : LR} {k : List T → Sto → α} (r : RelS ρ s H) (h : P ρ s H (bndL er m k)) :
    PostL ρ s H m fun vs H' => ∃ ρ' s' ts, Ext ρ s H ρ' s' H' ∧ RelS ρ' s' H' ∧ DenL ρ' H' ts vs ∧ P ρ' s' H' (k ts s') := by
  cases m with
  | er => exact (ne _ _ _ h).elim
  | ok ts s' => exact fun ρ' H' vs e rr d => ⟨ρ', s', ts, e, rr, d, sb.step r rr e h⟩
theorem bndG_gen {α : Type} {P : (Nat → Option Addr) → Sto → Hp → α → Prop} (sb : Stb P) {er : α} (ne : ∀ ρ s H, ¬ P ρ s H er) {m : GR} {k : En → Sto → α} (r : RelS ρ s H) (h : P ρ s H (bndG er m k)) :
    PostG ρ s H m fun σ' H' => ∃ ρ' s' e', Ext ρ s H ρ' s' H' ∧ RelS ρ' s' H' ∧ RelE ρ' H' e' σ' ∧ P ρ' s' H' (k e' s') := by
  cases m with
  | er => exact (ne _ _ _ h).elim
  | ok e' s' => exact fun ρ' H' σ' e rr d => ⟨ρ', s', e', e, rr, d, sb.step r rr e h⟩

/-! ### what is at hand -/
theorem RelS.lst (r : RelS ρ s H) {n : Nat} {ts : List T} (h : s.find n = some (.l ts)) {v : V} (d : Den ρ H (.ref n) v) : ∃ a vs, v = .ref a ∧ ρ n = some a ∧ H a = some (.lst vs) ∧ DenL ρ H ts vs := by
  obtain ⟨a, ho, h1, h2, h3⟩ := r.live n _ h
  obtain ⟨vs, rfl, h4⟩ := h3
  rw [den_ref] at d
  obtain ⟨a', rfl, h5⟩ := d
  rw [h1] at h5; cases h5
  exact ⟨a, vs, rfl, h1, h2, h4⟩
/-- a value that stands -/
theorem Post.val {t : T} {Q : VK} {v : V} (h : Post ρ s H (.v t s) Q) (r : RelS ρ s H) (d : Den ρ H t v) : Q v H := h ρ H v Ext.refl r d
/-- a new tuple -/
theorem Post.newT {ts : List T} {vs : List V} {Q : VK} (h : Post ρ s H (.v (.tup ts) s) Q) (r : RelS ρ s H) (d : DenL ρ H ts vs) {p : Addr} (hp : H p = none) : Q (.ref p) (upd H p (.tup vs)) := by
  have e : Ext ρ s H ρ s (upd H p (.tup vs)) := Ext.fresh hp
  refine h ρ _ _ e (r.fresh hp) ?_
  rw [den_tup]
  exact ⟨p, vs, rfl, upd_same, d.ext r e⟩
/-- a new list -/
theorem Post.newL {ts : List T} {vs : List V} {Q : VK} (h : Post ρ s H (.nl ts s) Q) (r : RelS ρ s H) (d : DenL ρ H ts vs) {p : Addr} (hp : H p = none) : Q (.ref p) (upd H p (.lst vs)) := by
  have e : Ext ρ s H ρ s (upd H p (.lst vs)) := Ext.fresh hp
  exact h ρ _ _ e (r.fresh hp) ⟨hp, fun m q => r.trk m p q hp, vs, upd_same, d.ext r e⟩
end

/-! ### two-place operations -/
def OpT (f : T → T → Sto → Res) (r : R2) : Prop := ∀ (ρ : Nat → Option Addr) (s : Sto) (H : Hp) (t u : T) (x y : V) (Q : VK), RelS ρ s H → Den ρ H t x → Den ρ H u y → Post ρ s H (f t u s) Q → r x y H Q
theorem Post.mono {ρ s H} {m : Res} {Q Q' : VK} (h : Post ρ s H m Q) (i : ∀ v H', Q v H' → Q' v H') : Post ρ s H m Q' := by
  cases m with
  | er => exact h
  | v t s' => exact fun ρ' H' v e r d => i _ _ (h ρ' H' v e r d)
  | nl t s' => exact fun ρ' H' v e r d => i _ _ (h ρ' H' v e r d)
theorem PostT.mono {ρ s H} {m : TR} {Q Q' : Bool → Hp → Prop} (h : PostT ρ s H m Q) (i : ∀ v H', Q v H' → Q' v H') : PostT ρ s H m Q' := by
  cases m with
  | er => exact h
  | ok t s' => exact fun ρ' H' e r => i _ _ (h ρ' H' e r)
theorem PostL.mono {ρ s H} {m : LR} {Q Q' : List V → Hp → Prop} (h : PostL ρ s H m Q) (i : ∀ v H', Q v H' → Q' v H') : PostL ρ s H m Q' := by
  cases m with
  | er => exact h
  | ok t s' => exact fun ρ' H' v e r d => i _ _ (h ρ' H' v e r d)
theorem PostG.mono {ρ s H} {m : GR} {Q Q' : L2.St → Hp → Prop} (h : PostG ρ s H m Q) (i : ∀ v H', Q v H' → Q' v H') : PostG ρ s H m Q' := by
  cases m with
  | er => exact h
  | ok t s' => exact fun ρ' H' v e r d => i _ _ (h ρ' H' v e r d)
theorem bin_rd {f : T → T → Sto → Res} {r : R2} (hf : OpT f r) {c : Cf} {A B : Ev} (σ : L2.St) (H : Hp) (Q : VK) (h : rdE c (eBin f A B) σ H Q) : tOp r (rdE c A) (rdE c B) σ H Q := by
  obtain ⟨ρ, e, s, rs, re, h⟩ := h
  refine ⟨ρ, e, s, rs, re, (bnd_post rs h).mono fun x H1 ⟨ρ1, s1, t1, e1, r1, d1, p1⟩ => ?_⟩
  refine ⟨ρ1, e, s1, r1, re.ext rs e1, (bnd_post r1 p1).mono fun y H2 ⟨ρ2, s2, t2, e2, r2, d2, p2⟩ => ?_⟩
  exact hf ρ2 s2 H2 t1 t2 _ _ Q r2 (d1.ext r1 e2) d2 p2
theorem pe_bin {X : Cx} {c : Cf} {A B : Ev} {a b : Expr} {op : Operator} {pos : Pos} {f : T → T → Sto → Res} {r : R2} (ho : OpR X (binaryOp op) r) (hf : OpT f r) (ha : PE X a (rdE c A)) (hb : PE X b (rdE c B)) :
    PE X (.BinOp a op b pos) (rdE c (eBin f A B)) := (pe_op ho ha hb).mono (bin_rd hf)
theorem OpT.mono {f : T → T → Sto → Res} {r r' : R2} (h : OpT f r) (m : ∀ x y H Q, r x y H Q → r' x y H Q) : OpT f r' := fun ρ s H t u x y Q rs d1 d2 p => m _ _ _ _ (h ρ s H t u x y Q rs d1 d2 p)

/-! ### arithmetic -/
def rAddV (K : PySem.W.Frag) : R2 := fun x y H Q => (∃ i j, x = .int i ∧ y = .int j ∧ Q (.int (i + j)) H) ∨ (∃ i j, x = .str i ∧ y = .str j ∧ i.length + j.length ≤ sizeLine ∧ Q (.str (i ++ j)) H) ∨ rCatA K x y H Q ∨ rCat x y H Q
theorem opr_add {X : Cx} : OpR X (binaryOp .Add) (rAddV X.K) := op_add.or (op_add_str.or (op_catA.or op_cat))
theorem str_app (a b : List Nat) : ((⟨a.toArray⟩ : Str) ++ (⟨b.toArray⟩ : Str)) = ⟨(a ++ b).toArray⟩ := by
  show (⟨a.toArray ++ b.toArray⟩ : Str) = _
  simp
theorem str_len (a : List Nat) : (⟨a.toArray⟩ : Str).length = a.length := by
  show a.toArray.size = _
  simp
theorem opt_add {K : PySem.W.Frag} : OpT opAdd (rAddV K) := by
  intro ρ s H t u x y Q rs d1 d2 h
  unfold opAdd at h
  cases t with
  | int i =>
    rw [den_int] at d1
    cases u with
    | int j =>
      rw [den_int] at d2
      subst d1 d2
      simp only [onT_int, onInt_int, mkI, frI_eq, iAdd_eq] at h
      exact .inl ⟨i, j, rfl, rfl, h.val rs (by simp)⟩
    | _ => exact h.elim
  | str a =>
    rw [den_str] at d1
    cases u with
    | str b =>
      rw [den_str] at d2
      subst d1 d2
      simp only [onT_str, lenK_eq, Nat.zero_add] at h
      cases hz : szOk (a.length + b.length) with
      | false => rw [hz] at h; exact h.elim
      | true =>
        rw [hz] at h
        refine .inr (.inl ⟨_, _, rfl, rfl, by rw [str_len, str_len]; exact szOk_iff hz, ?_⟩)
        rw [str_app]
        exact h.val rs (by simp)
    | _ => exact h.elim
  | tup a =>
    rw [den_tup] at d1
    obtain ⟨p, xs, rfl, hp, da⟩ := d1
    cases u with
    | tup b =>
      rw [den_tup] at d2
      obtain ⟨q, ys, rfl, hq, db⟩ := d2
      simp only [onT_tup, lenK_eq, catK_eq, Nat.zero_add] at h
      cases hz : szOk (a.length + b.length) with
      | false => rw [hz] at h; exact h.elim
      | true =>
        rw [hz] at h
        have h : Post ρ s H (.v (.tup (a ++ b)) s) Q := h
        refine .inr (.inr (.inl ⟨p, q, xs, ys, rfl, rfl, .of hp, .of hq, by rw [← da.length, ← db.length]; exact szOk_iff hz, fun e => ?_, fun _ e => ?_, fun _ _ r hr => ?_⟩))
        · subst e
          have : a = [] := by have := da.length; simpa using this
          subst this
          exact h.val rs (by rw [den_tup]; exact ⟨q, ys, rfl, hq, db⟩)
        · subst e
          have : b = [] := by have := db.length; simpa using this
          subst this
          exact h.val rs (by rw [den_tup]; exact ⟨p, xs, rfl, hp, by simpa using da⟩)
        · exact h.newT rs (da.append db) hr
    | _ => exact h.elim
  | ref a =>
    cases u with
    | ref b =>
      simp only [onT_ref, getL, getO_eq] at h
      cases ha : s.find a with
      | none => rw [ha] at h; exact h.elim
      | some oa =>
        rw [ha] at h
        cases oa with
        | d _ _ => exact h.elim
        | l as =>
          simp only [onOb_l] at h
          cases hb : s.find b with
          | none => rw [hb] at h; exact h.elim
          | some ob =>
            rw [hb] at h
            cases ob with
            | d _ _ => exact h.elim
            | l bs =>
              simp only [onOb_l, lenK_eq, catK_eq, Nat.zero_add] at h
              cases hz : szOk (as.length + bs.length) with
              | false => rw [hz] at h; exact h.elim
              | true =>
                rw [hz] at h
                obtain ⟨p, xs, rfl, _, hp, da⟩ := rs.lst ha d1
                obtain ⟨q, ys, rfl, _, hq, db⟩ := rs.lst hb d2
                have h : Post ρ s H (.nl (as ++ bs) s) Q := h
                exact .inr (.inr (.inr ⟨p, q, xs, ys, rfl, rfl, hp, hq, by rw [← da.length, ← db.length]; exact szOk_iff hz, fun r hr => h.newL rs (da.append db) hr⟩))
    | _ => exact h.elim
  | _ => exact h.elim
theorem opt_sub : OpT opSub (rI0 fun i j => .int (i - j)) := by
  intro ρ s H t u x y Q rs d1 d2 h
  unfold opSub at h
  cases t with
  | int i =>
    rw [den_int] at d1
    cases u with
    | int j =>
      rw [den_int] at d2
      subst d1 d2
      simp only [onInt_int, mkI, frI_eq, iAdd_eq, iNeg_eq] at h
      exact ⟨i, j, rfl, rfl, h.val rs (by simp [Int.sub_eq_add_neg])⟩
    | _ => exact h.elim
  | _ => exact h.elim
def rMulV (K : PySem.W.Frag) : R2 := fun x y H Q => rI CMul (fun i j => .int (i * j)) x y H Q ∨ rRepT K x y H Q ∨ rRep x y H Q ∨ rMulT1 K x y H Q ∨ rMulT0 K x y H Q
theorem opr_mul {X : Cx} : OpR X (binaryOp .Mult) (rMulV X.K) := op_mul.or (op_repT.or (op_rep.or (op_mulT1.or op_mulT0)))
end Rk
end
section
set_option linter.all false
set_option autoImplicit false
set_option maxRecDepth 100000
namespace Rk
open PySem PySem.Spec PyProof.Rows L2

theorem Post.ifB {ρ s H} {b : Bool} {m : Res} {Q : VK} (h : Post ρ s H (ifB b m .er) Q) : b = true ∧ Post ρ s H m Q := by
  cases b with
  | false => exact h.elim
  | true => exact ⟨rfl, h⟩
theorem Post.getO {ρ s H} {n : Nat} {k : Ob → Res} {Q : VK} (h : Post ρ s H (getO .er s n k) Q) : ∃ o, s.find n = some o ∧ Post ρ s H (k o) Q := by
  rw [getO_eq] at h
  cases e : s.find n with
  | none => rw [e] at h; exact h.elim
  | some o => rw [e] at h; exact ⟨o, rfl, h⟩
theorem Post.getL {ρ s H} {n : Nat} {k : List T → Res} {Q : VK} (h : Post ρ s H (getL .er s n k) Q) : ∃ ts, s.find n = some (.l ts) ∧ Post ρ s H (k ts) Q := by
  obtain ⟨o, e, h⟩ := Post.getO h
  cases o with
  | l ts => exact ⟨ts, e, h⟩
  | d _ _ => exact h.elim
theorem Post.onInt {ρ s H} {t : T} {k : Int → Res} {Q : VK} (h : Post ρ s H (onInt .er t k) Q) : ∃ i, t = .int i ∧ Post ρ s H (k i) Q := by
  cases t with
  | int i => exact ⟨i, rfl, h⟩
  | _ => exact h.elim

theorem opt_mul {K : PySem.W.Frag} : OpT opMul (rMulV K) := by
  intro ρ s H t u x y Q rs d1 d2 h
  unfold opMul at h
  cases t with
  | int i =>
    rw [den_int] at d1
    simp only [onT_int] at h
    obtain ⟨j, rfl, h⟩ := h.onInt
    rw [den_int] at d2
    subst d1 d2
    cases hi : iSm i with
    | true =>
      rw [hi] at h
      simp only [ifB_true, mkI, frI_eq] at h
      exact .inl ⟨i, j, rfl, rfl, .inl (iSm_iff hi), h.val rs (by simp)⟩
    | false =>
      rw [hi] at h
      simp only [ifB_false] at h
      obtain ⟨hj, h⟩ := h.ifB
      simp only [mkI, frI_eq] at h
      exact .inl ⟨i, j, rfl, rfl, .inr (iSm_iff hj), h.val rs (by simp)⟩
  | tup a =>
    rw [den_tup] at d1
    obtain ⟨p, xs, rfl, hp, da⟩ := d1
    simp only [onT_tup] at h
    obtain ⟨j, rfl, h⟩ := h.onInt
    rw [den_int] at d2
    subst d2
    obtain ⟨hj, h⟩ := h.ifB
    have hj := iMd_iff hj
    have hl := da.length
    have dt : Den ρ H (.tup a) (.ref p) := by rw [den_tup]; exact ⟨p, xs, rfl, hp, da⟩
    have e0 : nilB a = true → a = [] := fun e => by
      cases a with
      | nil => rfl
      | cons _ _ => cases e
    cases hs : ifB (nilB a) true (iEq j (.ofNat 1)) with
    | true =>
      rw [hs] at h
      refine .inr (.inr (.inr (.inl ⟨p, j, xs, rfl, rfl, .of hp, by omega, by omega, ?_, Post.val h rs dt⟩)))
      cases hn : nilB a with
      | true =>
        have e := e0 hn
        subst e
        exact .inl (List.eq_nil_of_length_eq_zero hl.symm)
      | false =>
        rw [hn] at hs
        have hs : iEq j (.ofNat 1) = true := hs
        rw [iEq_eq, decide_eq_true_eq] at hs
        exact .inr hs
    | false =>
      rw [hs] at h
      have hne : xs ≠ [] := by
        rintro rfl
        have e : a = [] := List.eq_nil_of_length_eq_zero hl
        subst e
        cases hs
      have h1 : j ≠ 1 := by
        rintro rfl
        cases hn : nilB a with
        | true =>
          have e := e0 hn
          subst e
          exact hne (List.eq_nil_of_length_eq_zero hl.symm)
        | false => rw [hn] at hs; cases hs
      cases hz : Nat.ble (Int.toNat j) 0 with
      | true =>
        rw [hz] at h
        have hz := Nat.le_of_ble_eq_true hz
        exact .inr (.inr (.inr (.inr ⟨p, j, xs, rfl, rfl, .of hp, by omega, by omega, hne, fun r hr => Post.newT h rs (by simp) hr⟩)))
      | false =>
        rw [hz] at h
        simp only [ifB_false, lenK_eq, Nat.zero_add] at h
        obtain ⟨hn, h⟩ := h.ifB
        obtain ⟨hk, h⟩ := h.ifB
        simp only [repK_eq] at h
        have hn := Nat.le_of_ble_eq_true hn
        have hk := Nat.le_of_ble_eq_true hk
        have h2 : ¬ Int.toNat j ≤ 0 := fun z => by rw [Nat.ble_eq_true_of_le z] at hz; cases hz
        exact .inr (.inl ⟨p, j, xs, rfl, rfl, .of hp, hne, by omega, by omega, by omega, fun r hr => h.newT rs (da.rep _) hr⟩)
  | ref a =>
    simp only [onT_ref] at h
    obtain ⟨j, rfl, h⟩ := h.onInt
    rw [den_int] at d2
    subst d2
    obtain ⟨ts, ht, h⟩ := h.getL
    obtain ⟨hj, h⟩ := h.ifB
    simp only [lenK_eq, Nat.zero_add] at h
    obtain ⟨hz, h⟩ := h.ifB
    simp only [repK_eq] at h
    obtain ⟨p, xs, rfl, _, hp, da⟩ := rs.lst ht d1
    have := iMd_iff hj
    have hz : ts.length * j.toNat ≤ sizeLine := szOk_iff hz
    exact .inr (.inr (.inl ⟨p, j, xs, rfl, rfl, hp, by omega, by omega, by rw [← da.length]; exact hz, fun r hr => h.newL rs (da.rep _) hr⟩))
  | _ => exact h.elim
theorem opt_div : OpT opDiv (rI CDivN fun i j => .int (i.fdiv j)) := by
  intro ρ s H t u x y Q rs d1 d2 h
  unfold opDiv at h
  obtain ⟨i, ei, h1⟩ := h.onInt
  obtain ⟨j, ej, h2⟩ := Post.onInt h1
  clear h h1
  subst ei ej
  have h := h2
  rw [den_int] at d1 d2
  subst d1 d2
  rw [iEq_eq] at h
  by_cases hj : j = Int.ofNat 0
  · rw [decide_eq_true hj] at h; exact h.elim
  · rw [decide_eq_false hj] at h
    simp only [ifB_false] at h
    obtain ⟨ht, h⟩ := h.ifB
    simp only [mkI, frI_eq] at h
    exact ⟨i, j, rfl, rfl, ⟨hj, iTn_iff ht⟩, h.val rs (by simp)⟩
theorem opt_mod : OpT opMod (rI (fun _ j => j ≠ 0) fun i j => .int (i.fmod j)) := by
  intro ρ s H t u x y Q rs d1 d2 h
  unfold opMod at h
  obtain ⟨i, ei, h1⟩ := h.onInt
  obtain ⟨j, ej, h2⟩ := Post.onInt h1
  clear h h1
  subst ei ej
  have h := h2
  rw [den_int] at d1 d2
  subst d1 d2
  rw [iEq_eq] at h
  by_cases hj : j = Int.ofNat 0
  · rw [decide_eq_true hj] at h; exact h.elim
  · rw [decide_eq_false hj] at h
    simp only [ifB_false, mkI, frI_eq] at h
    exact ⟨i, j, rfl, rfl, hj, h.val rs (by simp)⟩
/-- one value, then what follows -/
theorem one_rd {c : Cf} {A : Ev} {k : T → Sto → Res} {r : V → Hp → VK → Prop} (hk : ∀ (ρ : Nat → Option Addr) (s : Sto) (H : Hp) (t : T) (x : V) (Q : VK), RelS ρ s H → Den ρ H t x → Post ρ s H (k t s) Q → r x H Q)
    (σ : L2.St) (H : Hp) (Q : VK) (h : rdE c (fun c σ s => bnd .er (A c σ s) k) σ H Q) : rdE c A σ H fun x H1 => r x H1 Q := by
  obtain ⟨ρ, e, s, rs, re, h⟩ := h
  exact ⟨ρ, e, s, rs, re, (bnd_post rs h).mono fun x H1 ⟨ρ1, s1, t1, e1, r1, d1, p1⟩ => hk ρ1 s1 H1 t1 x Q r1 d1 p1⟩
theorem pe_neg {X : Cx} {c : Cf} {A : Ev} {a : Expr} {pos : Pos} (ha : PE X a (rdE c A)) : PE X (.UnaryOp .USub a pos) (rdE c (eNeg A)) :=
  (pe_un un_neg ha).mono (one_rd (k := fun x s => onInt .er x fun i => mkI (iNeg i) s) fun ρ s H t x Q rs d h => by
    obtain ⟨i, rfl, h⟩ := h.onInt
    rw [den_int] at d; subst d
    simp only [mkI, frI_eq, iNeg_eq] at h
    exact ⟨i, rfl, h.val rs (by simp)⟩)

/-! ### truth -/
def TruP (t : T) (s : Sto) (ρ : Nat → Option Addr) (H : Hp) (Q : Bool → Hp → Prop) : Prop := PostT ρ s H (tru t s) Q
theorem PostT.val {ρ s H} {b : Bool} {Q : Bool → Hp → Prop} (h : PostT ρ s H (.ok b s) Q) (r : RelS ρ s H) : Q b H := h ρ H Ext.refl r
theorem PostT.ifB {ρ s H} {b : Bool} {m : TR} {Q} (h : PostT ρ s H (ifB b m .er) Q) : b = true ∧ PostT ρ s H m Q := by
  cases b with
  | false => exact h.elim
  | true => exact ⟨rfl, h⟩
theorem not_empty {α : Type} (xs : List α) : ifB (nilB xs) false true = !xs.isEmpty := by cases xs <;> rfl
theorem tru_rd {K : PySem.W.Frag} {ρ s H} {t : T} {x : V} {Q : Bool → Hp → Prop} (rs : RelS ρ s H) (d : Den ρ H t x) (h : PostT ρ s H (tru t s) Q) : ∃ k, TruV K x H k ∧ Q k H := by
  unfold tru at h
  cases t with
  | non => rw [den_non] at d; subst d; exact ⟨false, rfl, h.val rs⟩
  | bl b => rw [den_bl] at d; subst d; exact ⟨b, rfl, h.val rs⟩
  | int i =>
    rw [den_int] at d; subst d
    refine ⟨i != 0, rfl, ?_⟩
    cases i with
    | ofNat n =>
      cases n with
      | zero => exact h.val rs
      | succ n => exact h.val rs
    | negSucc n => exact h.val rs
  | str a =>
    rw [den_str] at d; subst d
    simp only [onT_str, lenK_eq, Nat.zero_add] at h
    obtain ⟨hz, h⟩ := h.ifB
    refine ⟨_, ⟨by rw [str_len]; exact szOk_iff hz, rfl⟩, ?_⟩
    have := h.val rs
    rw [str_len]
    rw [not_empty] at this
    cases a with
    | nil => exact this
    | cons a1 a2 =>
      have e : (((a1 :: a2 : List Nat).length : Int) != 0) = true := by
        simp only [List.length_cons, bne_iff_ne]; omega
      rw [e]; exact this
  | tup ts =>
    rw [den_tup] at d
    obtain ⟨a, vs, rfl, ha, dl⟩ := d
    have := h.val rs
    rw [not_empty] at this
    refine ⟨_, .inr (.inl ⟨vs, .of ha, rfl⟩), ?_⟩
    have e : ts.isEmpty = vs.isEmpty := by
      have := dl.length
      cases ts <;> cases vs <;> simp_all
    rw [← e]; exact this
  | ref n =>
    simp only [onT_ref] at h
    rw [getO_eq] at h
    cases e : s.find n with
    | none => rw [e] at h; exact h.elim
    | some o =>
      rw [e] at h
      cases o with
      | d _ _ => exact h.elim
      | l ts =>
        obtain ⟨a, vs, rfl, _, ha, dl⟩ := rs.lst e d
        have := PostT.val h rs
        rw [not_empty] at this
        refine ⟨_, .inl ⟨vs, .of ha, rfl⟩, ?_⟩
        have e : ts.isEmpty = vs.isEmpty := by
          have := dl.length
          cases ts <;> cases vs <;> simp_all
        rw [← e]; exact this
theorem pt_tval {X : Cx} {c : Cf} {A : Ev} {a : Expr} (ha : PE X a (rdE c A)) (he : ∀ whole, PySem.isTrue a X.env whole = (do let v ← whole; standAt a.pos; holding [v] (truthy v))) : PT X a (rdT c (tVal A)) := by
  refine (pt_truth ha he).mono fun σ H Q h => ?_
  obtain ⟨ρ, e, s, rs, re, h⟩ := h
  refine ⟨ρ, e, s, rs, re, (bnd_T rs h).mono fun x H1 ⟨ρ1, s1, t1, e1, r1, d1, p1⟩ => ?_⟩
  exact tru_rd r1 d1 p1
theorem pt_tnot {X : Cx} {c : Cf} {A : Tv} {a : Expr} {pos : Pos} (ha : PT X a (rdT c A)) : PT X (.UnaryOp .Not a pos) (rdT c (Rk.tNot A)) := by
  refine (pt_not ha).mono fun σ H Q h => ?_
  obtain ⟨ρ, e, s, rs, re, h⟩ := h
  refine ⟨ρ, e, s, rs, re, (bndT_gen stb_T neT rs h).mono fun x H1 ⟨ρ1, s1, e1, r1, p1⟩ => ?_⟩
  cases x <;> exact PostT.val p1 r1
theorem pw_tand {X : Cx} {c : Cf} {A B : Tv} {a b : Expr} {rest : List Expr} {pos : Pos} (ha : PT X a (rdT c A)) (hb : PW X (.BoolOp .And (b :: rest) pos) (rdT c B)) : PW X (.BoolOp .And (a :: b :: rest) pos) (rdT c (Rk.tAnd A B)) := by
  refine (pw_and ha hb).mono fun σ H Q h => ?_
  obtain ⟨ρ, e, s, rs, re, h⟩ := h
  refine ⟨ρ, e, s, rs, re, (bndT_gen stb_T neT rs h).mono fun x H1 ⟨ρ1, s1, e1, r1, p1⟩ => ?_⟩
  cases x with
  | true => exact ⟨ρ1, e, s1, r1, re.ext rs e1, p1⟩
  | false => exact PostT.val p1 r1
theorem pw_tor {X : Cx} {c : Cf} {A B : Tv} {a b : Expr} {rest : List Expr} {pos : Pos} (ha : PT X a (rdT c A)) (hb : PW X (.BoolOp .Or (b :: rest) pos) (rdT c B)) : PW X (.BoolOp .Or (a :: b :: rest) pos) (rdT c (Rk.tOr A B)) := by
  refine (pw_or ha hb).mono fun σ H Q h => ?_
  obtain ⟨ρ, e, s, rs, re, h⟩ := h
  refine ⟨ρ, e, s, rs, re, (bndT_gen stb_T neT rs h).mono fun x H1 ⟨ρ1, s1, e1, r1, p1⟩ => ?_⟩
  cases x with
  | false => exact ⟨ρ1, e, s1, r1, re.ext rs e1, p1⟩
  | true => exact PostT.val p1 r1
theorem pe_ite {X : Cx} {c : Cf} {C : Tv} {A B : Ev} {k a b : Expr} {pos : Pos} (hc : PT X k (rdT c C)) (ha : PE X a (rdE c A)) (hb : PE X b (rdE c B)) : PE X (.IfExp k a b pos) (rdE c (eIte C A B)) := by
  refine (pe_ifExp hc ha hb).mono fun σ H Q h => ?_
  obtain ⟨ρ, e, s, rs, re, h⟩ := h
  refine ⟨ρ, e, s, rs, re, (bndT_gen stb_E neE rs h).mono fun x H1 ⟨ρ1, s1, e1, r1, p1⟩ => ?_⟩
  cases x with
  | false => exact ⟨ρ1, e, s1, r1, re.ext rs e1, p1⟩
  | true => exact ⟨ρ1, e, s1, r1, re.ext rs e1, p1⟩
theorem pe_vnot {X : Cx} {c : Cf} {A : Ev} {a : Expr} {pos : Pos} (ha : PE X a (rdE c A)) : PE X (.UnaryOp .Not a pos) (rdE c (eTst (Rk.tNot (tVal A)))) := by
  refine (pe_notT ha).mono fun σ H Q h => ?_
  obtain ⟨ρ, e, s, rs, re, h⟩ := h
  have h1 := bndT_gen (P := fun ρ s H m => Post ρ s H m Q) stb_E neE rs h
  have h2 : PostT ρ s H (tVal A c e s) fun b H' => ∃ ρ' s', Ext ρ s H ρ' s' H' ∧ RelS ρ' s' H' ∧ Post ρ' s' H' (.v (.bl (ifB b false true)) s') Q := by
    have h3 := bndT_gen (P := fun ρ s H m => PostT ρ s H m _) stb_T neT rs h1
    refine h3.mono fun b H1 ⟨ρ1, s1, e1, r1, p1⟩ => ?_
    obtain ⟨ρ2, s2, e2, r2, p2⟩ := PostT.val p1 r1
    exact ⟨ρ2, s2, e2, r2, p2⟩
  refine ⟨ρ, e, s, rs, re, (bnd_T rs h2).mono fun x H1 ⟨ρ1, s1, t1, e1, r1, d1, p1⟩ => ?_⟩
  obtain ⟨k, hk, ρ2, s2, e2, r2, p2⟩ := tru_rd r1 d1 p1
  refine ⟨k, hk, ?_⟩
  have := p2.val r2 (v := .bl (!k)) (by cases k <;> simp [ifB])
  exact this
theorem pe_vand {X : Cx} {c : Cf} {A B : Ev} {a b : Expr} {rest : List Expr} {pos : Pos} (ha : PE X a (rdE c A)) (hb : PE X (.BoolOp .And (b :: rest) pos) (rdE c B)) : PE X (.BoolOp .And (a :: b :: rest) pos) (rdE c (eAnd A B)) := by
  refine (pe_andT ha hb).mono fun σ H Q h => ?_
  obtain ⟨ρ, e, s, rs, re, h⟩ := h
  refine ⟨ρ, e, s, rs, re, (bnd_post rs h).mono fun x H1 ⟨ρ1, s1, t1, e1, r1, d1, p1⟩ => ?_⟩
  have h2 := bndT_gen (P := fun ρ s H m => Post ρ s H m Q) stb_E neE r1 p1
  obtain ⟨k, hk, ρ2, s2, e2, r2, p2⟩ := tru_rd (K := X.K) r1 d1 h2
  refine ⟨k, hk, ?_⟩
  cases k with
  | true => exact ⟨ρ2, e, s2, r2, (re.ext rs e1).ext r1 e2, p2⟩
  | false => exact Post.val p2 r2 (d1.ext r1 e2)
theorem pe_vor {X : Cx} {c : Cf} {A B : Ev} {a b : Expr} {rest : List Expr} {pos : Pos} (ha : PE X a (rdE c A)) (hb : PE X (.BoolOp .Or (b :: rest) pos) (rdE c B)) : PE X (.BoolOp .Or (a :: b :: rest) pos) (rdE c (eOr A B)) := by
  refine (pe_orT ha hb).mono fun σ H Q h => ?_
  obtain ⟨ρ, e, s, rs, re, h⟩ := h
  refine ⟨ρ, e, s, rs, re, (bnd_post rs h).mono fun x H1 ⟨ρ1, s1, t1, e1, r1, d1, p1⟩ => ?_⟩
  have h2 := bndT_gen (P := fun ρ s H m => Post ρ s H m Q) stb_E neE r1 p1
  obtain ⟨k, hk, ρ2, s2, e2, r2, p2⟩ := tru_rd (K := X.K) r1 d1 h2
  refine ⟨k, hk, ?_⟩
  cases k with
  | false => exact ⟨ρ2, e, s2, r2, (re.ext rs e1).ext r1 e2, p2⟩
  | true => exact Post.val p2 r2 (d1.ext r1 e2)
/-! ### names, constants -/
theorem En.get_eq {α : Type} {e : α} {k : T → α} {ρ H} : ∀ {i : Nat} {σ : En} {st : L2.St}, RelE ρ H σ st → (En.get e k i σ = e ∨ ∃ t v, En.get e k i σ = k t ∧ st[i]? = some (some v) ∧ Den ρ H t v)
  | 0, .nil, st, h => .inl rfl
  | 0, .u r, st, h => .inl rfl
  | 0, .b t r, st, h => by
    obtain ⟨v, q, rfl, d, _⟩ := h
    exact .inr ⟨t, v, rfl, rfl, d⟩
  | i + 1, .nil, st, h => by
    exact .inl rfl
  | i + 1, .u r, st, h => by
    obtain ⟨x, q, rfl, h⟩ := h
    exact En.get_eq (i := i) h
  | i + 1, .b t r, st, h => by
    obtain ⟨v, q, rfl, _, h⟩ := h
    exact En.get_eq (i := i) h
theorem pe_evar {X : Cx} {c : Cf} {i : Nat} {x : Str} {pos : Pos} (hN : X.N[i]? = some x) (hv : Vis X.env.scope x) (hd : (x == ("__debug__" : Str)) = false) (hcd : (x == ("__classdict__" : Str)) = false) : PE X (.Name x pos) (rdE c (eVar i)) := by
  refine (pe_var hN hv hd hcd).mono fun σ H Q h => ?_
  obtain ⟨ρ, e, s, rs, re, h⟩ := h
  rcases En.get_eq (e := Res.er) (k := fun t => .v t s) (i := i) re with q | ⟨t, v, q, hv, d⟩
  · have h : Post ρ s H (En.get .er (fun t => .v t s) i e) Q := h
    rw [q] at h; exact h.elim
  · have h : Post ρ s H (En.get .er (fun t => .v t s) i e) Q := h
    rw [q] at h
    exact ⟨v, hv, h.val rs d⟩
theorem pe_ecst {X : Cx} {c : Cf} {e : Expr} {t : T} {v : V} (h : PE X e (tC v)) (d : ∀ ρ H, Den ρ H t v) : PE X e (rdE c (eCst t)) :=
  h.mono fun σ H Q ⟨ρ, e, s, rs, re, h⟩ => Post.val h rs (d ρ H)
theorem pe_eint {X : Cx} {c : Cf} {n j : Nat} {pos : Pos} : PE X (.Constant (.int (Int.ofNat n)) j pos) (rdE c (eInt n)) :=
  pe_int.mono fun σ H Q ⟨ρ, e, s, rs, re, h⟩ => Post.val h rs (by simp)
end Rk
end
section
set_option linter.all false
set_option autoImplicit false
set_option maxRecDepth 100000
namespace Rk
open PySem PySem.Spec PyProof.Rows L2

/-! ### data -/
theorem D.both {P : D → Prop} {PL : List D → Prop} (h1 : P .non) (h2 : ∀ b, P (.bl b)) (h3 : ∀ i, P (.int i)) (h4 : ∀ s, P (.str s)) (h5 : ∀ ts, PL ts → P (.lst ts)) (h6 : ∀ ts, PL ts → P (.tup ts))
    (h7 : PL []) (h8 : ∀ t ts, P t → PL ts → PL (t :: ts)) : (∀ t, P t) ∧ ∀ ts, PL ts :=
  ⟨fun t => D.rec (motive_1 := P) (motive_2 := PL) h1 h2 h3 h4 h5 h6 h7 h8 t, fun ts => D.rec_1 (motive_1 := P) (motive_2 := PL) h1 h2 h3 h4 h5 h6 h7 h8 ts⟩
mutual
def toP : D → PyData
  | .non => .none
  | .bl b => .bool b
  | .int i => .int i
  | .str s => .str ⟨s.toArray⟩
  | .lst ds => .list (toPs ds)
  | .tup ds => .tuple (toPs ds)
def toPs : List D → List PyData
  | [] => []
  | d :: ds => toP d :: toPs ds
end
theorem natsEq_eq (a b : List Nat) : natsEq a b = decide (a = b) := by
  induction a generalizing b with
  | nil => cases b <;> rfl
  | cons x a ih =>
    cases b with
    | nil => rfl
    | cons y b =>
      show ifB (Nat.beq x y) (natsEq a b) false = _
      rw [nbeq, ih]
      by_cases h : x = y
      · subst h
        rw [decide_eq_true rfl]
        show decide (a = b) = _
        simp
      · rw [decide_eq_false h]
        symm; apply decide_eq_false; simp [h]
theorem bEq_eq (x y : Bool) : bEq x y = (x == y) := by cases x <;> cases y <;> rfl
theorem str_beq (x y : List Nat) : ((⟨x.toArray⟩ : Str) == (⟨y.toArray⟩ : Str)) = decide (x = y) := by
  rw [Bool.eq_iff_iff]
  simp
theorem b2I_eq (x : Bool) : b2I x = if x then 1 else 0 := by cases x <;> rfl
theorem int_beq (x y : Int) : (x == y) = decide (x = y) := by rw [Bool.eq_iff_iff]; simp
theorem dEq_both : (∀ d e, dEq d e = PyData.eqv (toP d) (toP e)) ∧ ∀ ds es, dEq (.lst ds) (.lst es) = PyData.eqvAll (toPs ds) (toPs es) := by
  refine D.both (P := fun d => ∀ e, dEq d e = PyData.eqv (toP d) (toP e)) (PL := fun ds => ∀ es, dEq (.lst ds) (.lst es) = PyData.eqvAll (toPs ds) (toPs es)) ?_ ?_ ?_ ?_ ?_ ?_ ?_ ?_
  · intro e; cases e <;> simp only [toP, PyData.eqv] <;> rfl
  · intro b e
    cases e with
    | bl c => simp only [toP, PyData.eqv]; exact bEq_eq b c
    | int j => simp only [toP, PyData.eqv]; exact (iEq_eq _ _).trans (by rw [b2I_eq, int_beq])
    | _ => simp only [toP, PyData.eqv] <;> rfl
  · intro i e
    cases e with
    | bl c => simp only [toP, PyData.eqv]; exact (iEq_eq _ _).trans (by rw [b2I_eq, int_beq])
    | int j => simp only [toP, PyData.eqv]; exact (iEq_eq _ _).trans (by rw [int_beq])
    | _ => simp only [toP, PyData.eqv] <;> rfl
  · intro x e
    cases e with
    | str y => simp only [toP, PyData.eqv]; exact (natsEq_eq x y).trans (str_beq x y).symm
    | _ => simp only [toP, PyData.eqv] <;> rfl
  · intro ts ih e
    cases e with
    | lst es => simp only [toP, PyData.eqv]; exact ih es
    | _ => simp only [toP, PyData.eqv] <;> rfl
  · intro ts ih e
    cases e with
    | tup es => simp only [toP, PyData.eqv]; exact ih es
    | _ => simp only [toP, PyData.eqv] <;> rfl
  · intro es; cases es <;> simp only [toPs, PyData.eqvAll] <;> rfl
  · intro t ts h1 h2 es
    cases es with
    | nil => simp only [toPs, PyData.eqvAll] <;> rfl
    | cons e es =>
      simp only [toPs, PyData.eqvAll]
      rw [← h1 e, ← h2 es]
      show ifB (dEq t e) (dEq (.lst ts) (.lst es)) false = _
      cases dEq t e <;> rfl
theorem toPs_map : ∀ ds : List D, toPs ds = ds.map toP
  | [] => by simp [toPs]
  | d :: ds => by rw [toPs, toPs_map ds]; rfl
theorem memD_eq (x : D) : ∀ ys : List D, memD x ys = (ys.map toP).any fun e => PyData.eqv e (toP x)
  | [] => rfl
  | y :: ys => by
    show ifB (dEq y x) true (memD x ys) = _
    rw [List.map_cons, List.any_cons, dEq_both.1, memD_eq x ys]
    cases PyData.eqv (toP y) (toP x) <;> rfl

/-! the data read from a value, n deep -/
section
variable {K : PySem.W.Frag} {ρ : Nat → Option Addr} {s : Sto} {H : Hp}
def DeepOk (K : PySem.W.Frag) (H : Hp) (n : Nat) (v : V) (d : D) : Prop := Dp K H v (toP d) ∧ (toP d).canLay0 = true ∧ (toP d).depth ≤ n
def DeepsOk (K : PySem.W.Frag) (H : Hp) (n : Nat) (vs : List V) (ds : List D) : Prop := DpAll K H vs (toPs ds) ∧ PyData.canLayAll0 (toPs ds) = true ∧ PyData.depthAll (toPs ds) ≤ n
theorem deepL_ok {n : Nat} {β : Type} {f : T → (D → Option β) → Option β} (rs : RelS ρ s H) (hf : ∀ t v k r, Den ρ H t v → f t k = some r → ∃ d, k d = some r ∧ DeepOk K H n v d) :
    ∀ {ts : List T} {vs : List V} {k : List D → Option β} {r : β}, DenL ρ H ts vs → deepL f ts k = some r → ∃ ds, k ds = some r ∧ DeepsOk K H n vs ds
  | [], vs, k, r, d, h => by
    rw [denL_nil] at d; subst d
    refine ⟨[], h, ?_⟩
    simp only [DeepsOk, toPs, PyData.canLayAll0, PyData.depthAll]
    exact ⟨.nil, trivial, Nat.zero_le _⟩
  | t :: ts, vs, k, r, d, h => by
    rw [denL_cons] at d
    obtain ⟨v, q, rfl, d1, d2⟩ := d
    have h : f t (fun d => deepL f ts fun ds => k (d :: ds)) = some r := h
    obtain ⟨x, hx, o1⟩ := hf _ _ _ _ d1 h
    obtain ⟨xs, hxs, o2⟩ := deepL_ok rs hf d2 hx
    refine ⟨x :: xs, hxs, ?_⟩
    obtain ⟨a1, a2, a3⟩ := o1
    obtain ⟨b1, b2, b3⟩ := o2
    simp only [DeepsOk, toPs, PyData.canLayAll0, PyData.depthAll]
    exact ⟨.cons a1 b1, by simp [a2, b2], by omega⟩
theorem chK_ok : ∀ {xs : List Nat}, chK xs = true → PyData.strOk ⟨xs.toArray⟩ = true := by
  intro xs h
  show (xs.toArray.all fun c => decide (c < 0x110000)) = true
  rw [Array.all_eq_true']
  intro x hx
  have hx : x ∈ xs := by simpa using hx
  induction xs with
  | nil => cases hx
  | cons y r ih =>
    have h : ifB (Nat.blt y 1114112) (chK r) false = true := h
    cases hy : Nat.blt y 1114112 with
    | false => rw [hy] at h; exact nomatch h
    | true =>
      rw [hy] at h
      rcases List.mem_cons.mp hx with rfl | hx
      · rw [Nat.blt_eq] at hy
        exact decide_eq_true hy
      · exact ih h (by simpa using hx) hx
theorem deepK_ok {β : Type} (rs : RelS ρ s H) : ∀ (n : Nat) {t : T} {v : V} {k : D → Option β} {r : β}, Den ρ H t v → deepK none s n t k = some r → ∃ d, k d = some r ∧ DeepOk K H n v d
  | 0, t, v, k, r, d, h => nomatch h
  | n + 1, t, v, k, r, d, h => by
    have h : onT t (k .non) (fun b => k (.bl b)) (fun i => k (.int i)) (fun x => ifB (chK x) (k (.str x)) none) (fun ts => deepL (deepK none s n) ts fun ds => k (.tup ds)) (fun m => getO none s m fun o => onOb o (fun ts => deepL (deepK none s n) ts fun ds => k (.lst ds)) fun _ _ => none) = some r := h
    cases t with
    | non => rw [den_non] at d; subst d; exact ⟨.non, h, by simp only [DeepOk, toP, PyData.canLay0, PyData.depth]; exact ⟨.non, trivial, by omega⟩⟩
    | bl b => rw [den_bl] at d; subst d; exact ⟨.bl b, h, by simp only [DeepOk, toP, PyData.canLay0, PyData.depth]; exact ⟨.bl b, trivial, by omega⟩⟩
    | int b => rw [den_int] at d; subst d; exact ⟨.int b, h, by simp only [DeepOk, toP, PyData.canLay0, PyData.depth]; exact ⟨.int b, trivial, by omega⟩⟩
    | str b =>
      rw [den_str] at d; subst d
      have h : ifB (chK b) (k (.str b)) none = some r := h
      cases hc : chK b with
      | false => rw [hc] at h; exact nomatch h
      | true =>
        rw [hc] at h
        exact ⟨.str b, h, by simp only [DeepOk, toP, PyData.canLay0, PyData.depth]; exact ⟨.str _, chK_ok hc, by omega⟩⟩
    | tup ts =>
      rw [den_tup] at d
      obtain ⟨a, vs, rfl, ha, dl⟩ := d
      obtain ⟨ds, h1, o1, o2, o3⟩ := deepL_ok (K := K) rs (fun t v k r => deepK_ok rs n) dl h
      refine ⟨.tup ds, h1, ?_⟩
      simp only [DeepOk, toP, PyData.canLay0, PyData.depth]
      exact ⟨.tup (.of ha) o1, o2, by omega⟩
    | ref m =>
      simp only [onT_ref] at h
      rw [getO_eq] at h
      cases e : s.find m with
      | none => rw [e] at h; exact nomatch h
      | some o =>
        rw [e] at h
        cases o with
        | d _ _ => exact nomatch h
        | l ts =>
          obtain ⟨a, vs, rfl, _, ha, dl⟩ := rs.lst e d
          obtain ⟨ds, h1, o1, o2, o3⟩ := deepL_ok (K := K) rs (fun t v k r => deepK_ok rs n) dl h
          refine ⟨.lst ds, h1, ?_⟩
          simp only [DeepOk, toP, PyData.canLay0, PyData.depth]
          exact ⟨.lst (.of ha) o1, o2, by omega⟩
theorem DeepOk.shaped {n : Nat} {v : V} {d : D} (h : DeepOk K H n v d) (hn : n ≤ 64) : SeqAt.shaped (toP d) = true := by
  show ((toP d).canLay0 && decide ((toP d).depth ≤ 64)) = true
  rw [h.2.1, decide_eq_true (Nat.le_trans h.2.2 hn)]; rfl
end

/-! ### comparisons -/
/-- a comparison's reading -/
def CoT (f : Co) (r : R2) : Prop := ∀ (ρ : Nat → Option Addr) (s : Sto) (H : Hp) (t u : T) (x y : V) (b : Bool) (Q : VK), RelS ρ s H → Den ρ H t x → Den ρ H u y → f t u s = some b → Q (.bl b) H → r x y H Q
/-- lists of unlike lengths -/
def rUnl (k : Bool) : R2 := fun x y H Q => ∃ (a b : Addr) (xs ys : List V), x = .ref a ∧ y = .ref b ∧ H a = some (.lst xs) ∧ H b = some (.lst ys) ∧ xs.length ≠ ys.length ∧ Q (.bl k) H
theorem op_eqU {X : Cx} (hu : X.A.units < cLine) : OpR X (compareOp .Eq) (rUnl false) := by
  intro pins s σ H x y v u Q I rx ry h
  obtain ⟨a, b, xs, ys, rfl, rfl, h1, h2, hne, q⟩ := h
  cases rx
  cases ry
  obtain ⟨i1, r1, p1, _⟩ := I.list (.of h1)
  obtain ⟨i2, r2, p2, _⟩ := I.list (.of h2)
  refine PySem.SeqAt.RcAt.lists_lengths p1.isList p2.isList ?_ hu X.prog X.w _ _ ⟨.bl _, H, I, rfl, q⟩
  rw [bne_iff_ne]
  have l1 := r1.length
  have l2 := r2.length
  simp only [List.size_toArray]
  omega
theorem op_neU {X : Cx} (hu : X.A.units < cLine) : OpR X (compareOp .NotEq) (rUnl true) := by
  intro pins s σ H x y v u Q I rx ry h
  obtain ⟨a, b, xs, ys, rfl, rfl, h1, h2, hne, q⟩ := h
  cases rx
  cases ry
  obtain ⟨i1, r1, p1, _⟩ := I.list (.of h1)
  obtain ⟨i2, r2, p2, _⟩ := I.list (.of h2)
  refine PySem.SeqAt.RcNeAt.lists_lengths p1.isList p2.isList ?_ hu X.prog X.w _ _ ⟨.bl _, H, I, rfl, q⟩
  rw [bne_iff_ne]
  have l1 := r1.length
  have l2 := r2.length
  simp only [List.size_toArray]
  omega
def rEqA (K : PySem.W.Frag) : R2 := fun x y H Q => rEq x y H Q ∨ rEqD K x y H Q ∨ rUnl false x y H Q
def rNeA (K : PySem.W.Frag) : R2 := fun x y H Q => rNe x y H Q ∨ rNeD K x y H Q ∨ rUnl true x y H Q
theorem lenEq_iff {α β : Type} : ∀ {xs : List α} {ys : List β}, lenEq xs ys = decide (xs.length = ys.length)
  | [], [] => rfl
  | [], _ :: _ => rfl
  | _ :: _, [] => rfl
  | x :: xs, y :: ys => by
    have e : lenEq (x :: xs) (y :: ys) = lenEq xs ys := rfl
    rw [e, lenEq_iff]
    simp
theorem cot_eq {K : PySem.W.Frag} : CoT coEq (rEqA K) := by
  intro ρ s H t u x y b Q rs d1 d2 h q
  have go : coDeep t u s = some b → rEqA K x y H Q := fun h => by
    obtain ⟨dx, h, o1⟩ := deepK_ok (K := K) rs 50 d1 h
    obtain ⟨dy, h, o2⟩ := deepK_ok (K := K) rs 50 d2 h
    cases h
    exact .inr (.inl ⟨_, _, o1.1, o2.1, o1.shaped (by omega), o2.shaped (by omega), by rw [← dEq_both.1]; exact q⟩)
  unfold coEq at h
  cases t with
  | int i =>
    rw [den_int] at d1; subst d1
    cases u with
    | int j =>
      rw [den_int] at d2; subst d2
      cases h
      refine .inl ⟨rfl, ?_⟩
      rw [dec_int, int_beq, ← iEq_eq]; exact q
    | non =>
      rw [den_non] at d2; subst d2
      cases h
      exact .inl ⟨rfl, by simpa using q⟩
    | _ => exact go h
  | str i =>
    rw [den_str] at d1; subst d1
    cases u with
    | str j =>
      rw [den_str] at d2; subst d2
      cases h
      refine .inl ⟨rfl, ?_⟩
      rw [dec_str, str_beq, ← natsEq_eq]; exact q
    | non =>
      rw [den_non] at d2; subst d2
      cases h
      exact .inl ⟨rfl, by simpa using q⟩
    | _ => exact go h
  | ref n =>
    cases u with
    | ref m =>
      have h : coLn (.ref n) (.ref m) s n m = some b := h
      unfold coLn at h
      rw [getO_eq] at h
      cases e : s.find n with
      | none => rw [e] at h; exact nomatch h
      | some o =>
        rw [e] at h
        cases o with
        | d _ _ => exact nomatch h
        | l ts =>
          have h : getO none s m (fun o' => onOb o' (fun ys => ifB (lenEq ts ys) (coDeep (.ref n) (.ref m) s) (some false)) fun _ _ => none) = some b := h
          rw [getO_eq] at h
          cases e2 : s.find m with
          | none => rw [e2] at h; exact nomatch h
          | some o =>
            rw [e2] at h
            cases o with
            | d _ _ => exact nomatch h
            | l us =>
              have h : ifB (lenEq ts us) (coDeep (.ref n) (.ref m) s) (some false) = some b := h
              cases hl : lenEq ts us with
              | true => rw [hl] at h; exact go h
              | false =>
                rw [hl] at h; cases h
                obtain ⟨a, vs, rfl, _, ha, dl⟩ := rs.lst e d1
                obtain ⟨a2, ws, rfl, _, ha2, dl2⟩ := rs.lst e2 d2
                rw [lenEq_iff] at hl
                have hl := of_decide_eq_false hl
                have l1 := dl.length
                have l2 := dl2.length
                exact .inr (.inr ⟨a, a2, vs, ws, rfl, rfl, ha, ha2, by omega, q⟩)
    | _ => exact go h
  | _ => exact go h
theorem negO_some {o : Option Bool} {b : Bool} (h : negO o = some b) : o = some (!b) := by
  cases o with
  | none => exact nomatch h
  | some c => cases c <;> cases h <;> rfl
theorem cot_ne {K : PySem.W.Frag} : CoT coNe (rNeA K) := by
  intro ρ s H t u x y b Q rs d1 d2 h q
  rcases cot_eq (K := K) ρ s H t u x y (!b) (fun v H' => ∃ k, v = .bl k ∧ Q (.bl (!k)) H') rs d1 d2 (negO_some h) ⟨_, rfl, by simpa using q⟩ with h0 | h0
  · obtain ⟨h1, k, e, h5⟩ := h0
    cases e
    exact .inl ⟨h1, h5⟩
  · rcases h0 with ⟨dx, dy, h1, h2, h3, h4, k, e, h5⟩ | ⟨a, a2, xs, ys, h1, h2, h3, h4, h6, k, e, h5⟩
    · cases e
      exact .inr (.inl ⟨dx, dy, h1, h2, h3, h4, h5⟩)
    · cases e
      exact .inr (.inr ⟨a, a2, xs, ys, h1, h2, h3, h4, h6, h5⟩)
theorem opr_eq {X : Cx} (hu : X.A.units + 64 < cLine) : OpR X (compareOp .Eq) (rEqA X.K) := op_eq.or ((op_eqD hu).or (op_eqU (by omega)))
theorem opr_ne {X : Cx} (hu : X.A.units + 64 < cLine) : OpR X (compareOp .NotEq) (rNeA X.K) := op_ne.or ((op_neD hu).or (op_neU (by omega)))
theorem opr_lt {X : Cx} (hu : X.A.units < cLine) : OpR X (compareOp .Lt) (fun x y H Q => rI0 (fun i j => .bl (decide (i < j))) x y H Q ∨ rLtT X.K x y H Q) := op_lt.or (op_ltT hu)
def rLtV (K : PySem.W.Frag) : R2 := fun x y H Q => rI0 (fun i j => .bl (decide (i < j))) x y H Q ∨ rLtT K x y H Q
theorem allI_ok {ρ H} : ∀ {ts : List T} {vs : List V}, DenL ρ H ts vs → allI ts = true → ∃ ns : List Int, ts = ns.map T.int ∧ vs = ns.map V.int
  | [], vs, d, h => by rw [denL_nil] at d; subst d; exact ⟨[], rfl, rfl⟩
  | t :: ts, vs, d, h => by
    rw [denL_cons] at d
    obtain ⟨v, q, rfl, d1, d2⟩ := d
    cases t with
    | int i =>
      obtain ⟨ns, e1, e2⟩ := allI_ok d2 (show allI ts = true from h)
      rw [den_int] at d1; subst d1
      exact ⟨i :: ns, by rw [e1]; rfl, by rw [e2]; rfl⟩
    | _ => exact nomatch h
theorem lexT_eq : ∀ (ns ms : List Int), lexT (ns.map T.int) (ms.map T.int) = some (HT.lexLt ns ms)
  | [], [] => rfl
  | [], m :: ms => rfl
  | n :: ns, [] => rfl
  | n :: ns, m :: ms => by
    show ifB (iEq n m) (lexT (ns.map T.int) (ms.map T.int)) (some (iLt n m)) = _
    rw [lexT_eq ns ms, HT.lexLt_cons, iEq_eq, iLt_eq]
    by_cases h : n = m
    · rw [decide_eq_true h, if_pos h]; rfl
    · rw [decide_eq_false h, if_neg h]; rfl
theorem cot_lt {K : PySem.W.Frag} : CoT coLt (rLtV K) := by
  intro ρ s H t u x y b Q rs d1 d2 h q
  unfold coLt tLtC at h
  cases t with
  | int i =>
    cases u with
    | int j =>
      rw [den_int] at d1 d2; subst d1 d2
      cases h
      exact .inl ⟨i, j, rfl, rfl, by rw [iLt_eq] at q; exact q⟩
    | _ => exact nomatch h
  | tup ts =>
    cases u with
    | tup us =>
      rw [den_tup] at d1 d2
      obtain ⟨a, vs, rfl, ha, da⟩ := d1
      obtain ⟨a', vs', rfl, ha', da'⟩ := d2
      have h : ifB (allI ts) (ifB (allI us) (lexT ts us) none) none = some b := h
      cases h1 : allI ts with
      | false => rw [h1] at h; exact nomatch h
      | true =>
        rw [h1] at h
        have h : (ifB (allI us) (lexT ts us) none) = some b := h
        cases h2 : allI us with
        | false => rw [h2] at h; exact nomatch h
        | true =>
          rw [h2] at h
          have h : lexT ts us = some b := h
          obtain ⟨ns, rfl, rfl⟩ := allI_ok da h1
          obtain ⟨ms, rfl, rfl⟩ := allI_ok da' h2
          rw [lexT_eq] at h
          cases h
          exact .inr ⟨a, a', ns, ms, rfl, rfl, .of ha, .of ha', q⟩
    | _ => exact nomatch h
  | _ => exact nomatch h
theorem cot_ints {f : Co} {p : Int → Int → Bool} {g : Int → Int → Bool} (hf : ∀ i j s, f (.int i) (.int j) s = some (g i j)) (ho : ∀ t u s b, f t u s = some b → (∃ i, t = .int i) ∧ ∃ j, u = .int j) (e : ∀ i j, g i j = p i j) :
    CoT f (rI0 fun i j => .bl (p i j)) := by
  intro ρ s H t u x y b Q rs d1 d2 h q
  obtain ⟨⟨i, e1⟩, j, e2⟩ := ho t u s b h
  subst e1 e2
  rw [den_int] at d1 d2; subst d1 d2
  rw [hf] at h; cases h
  exact ⟨i, j, rfl, rfl, by rw [e] at q; exact q⟩
theorem two_ints {f : Int → Int → Option Bool} {t u : T} {b : Bool} (h : onT t none (fun _ => none) (fun i => onT u none (fun _ => none) (fun j => f i j) (fun _ => none) (fun _ => none) (fun _ => none)) (fun _ => none) (fun _ => none) (fun _ => none) = some b) :
    (∃ i, t = .int i) ∧ ∃ j, u = .int j := by
  cases t with
  | int i =>
    cases u with
    | int j => exact ⟨⟨_, rfl⟩, _, rfl⟩
    | _ => exact nomatch h
  | _ => exact nomatch h
theorem cot_gt : CoT coGt (rI0 fun i j => .bl (decide (j < i))) := cot_ints (g := fun i j => iLt j i) (fun _ _ _ => rfl) (fun t u s b h => two_ints (f := fun i j => some (iLt j i)) h) fun i j => iLt_eq j i
theorem cot_le : CoT coLe (rI0 fun i j => .bl (decide (i ≤ j))) := cot_ints (g := fun i j => ifB (iLt j i) false true) (fun _ _ _ => rfl) (fun t u s b h => two_ints (f := fun i j => some (ifB (iLt j i) false true)) h) fun i j => by
  rw [iLt_eq]
  by_cases h : j < i
  · rw [decide_eq_true h]; symm; apply decide_eq_false; omega
  · rw [decide_eq_false h]; symm; apply decide_eq_true; omega
theorem cot_ge : CoT coGe (rI0 fun i j => .bl (decide (j ≤ i))) := cot_ints (g := fun i j => ifB (iLt i j) false true) (fun _ _ _ => rfl) (fun t u s b h => two_ints (f := fun i j => some (ifB (iLt i j) false true)) h) fun i j => by
  rw [iLt_eq]
  by_cases h : i < j
  · rw [decide_eq_true h]; symm; apply decide_eq_false; omega
  · rw [decide_eq_false h]; symm; apply decide_eq_true; omega
theorem isNon_ok {ρ H} {t : T} {v : V} (d : Den ρ H t v) : isNon t = decide (v = .non) := by
  cases t with
  | non => rw [den_non] at d; subst d; rfl
  | bl _ => rw [den_bl] at d; subst d; rfl
  | int _ => rw [den_int] at d; subst d; rfl
  | str _ => rw [den_str] at d; subst d; rfl
  | tup _ => rw [den_tup] at d; obtain ⟨a, vs, rfl, _⟩ := d; rfl
  | ref _ => rw [den_ref] at d; obtain ⟨a, rfl, _⟩ := d; rfl
theorem cot_is : CoT coIs (fun x y H Q => y = .non ∧ Q (.bl (decide (x = .non))) H) := by
  intro ρ s H t u x y b Q rs d1 d2 h q
  unfold coIs at h
  rw [isNon_ok d1, isNon_ok d2] at h
  by_cases hy : y = .non
  · rw [decide_eq_true hy] at h
    cases h
    exact ⟨hy, q⟩
  · rw [decide_eq_false hy] at h; exact nomatch h
theorem cot_isn : CoT coIsn (fun x y H Q => y = .non ∧ Q (.bl (!decide (x = .non))) H) := by
  intro ρ s H t u x y b Q rs d1 d2 h q
  unfold coIsn at h
  rw [isNon_ok d1, isNon_ok d2] at h
  by_cases hy : y = .non
  · rw [decide_eq_true hy] at h
    cases h
    refine ⟨hy, ?_⟩
    revert q
    cases decide (x = .non) <;> exact id
  · rw [decide_eq_false hy] at h; exact nomatch h

/-! chains of one, of two -/
theorem cmp_rd {f : Co} {r : R2} (hf : CoT f r) {c : Cf} {A B : Ev} (σ : L2.St) (H : Hp) (Q : Bool → Hp → Prop) (h : rdT c (Rk.tCmp f A B) σ H Q) : tTest (tOp r (rdE c A) (rdE c B)) σ H Q := by
  obtain ⟨ρ, e, s, rs, re, h⟩ := h
  refine ⟨ρ, e, s, rs, re, (bnd_T rs h).mono fun x H1 ⟨ρ1, s1, t1, e1, r1, d1, p1⟩ => ?_⟩
  refine ⟨ρ1, e, s1, r1, re.ext rs e1, (bnd_T r1 p1).mono fun y H2 ⟨ρ2, s2, t2, e2, r2, d2, p2⟩ => ?_⟩
  cases hb : f t1 t2 s2 with
  | none => rw [hb] at p2; exact p2.elim
  | some b =>
    rw [hb] at p2
    exact hf ρ2 s2 H2 t1 t2 _ _ b _ r2 (d1.ext r1 e2) d2 hb ⟨b, rfl, PostT.val p2 r2⟩
theorem pt_tcmp {X : Cx} {c : Cf} {A B : Ev} {a b : Expr} {op : CmpOp} {pos : Pos} {f : Co} {r : R2} (ho : OpR X (compareOp op) r) (hf : CoT f r) (ha : PE X a (rdE c A)) (hb : PE X b (rdE c B)) (hm : behindInMarks op b = false) :
    PT X (.Compare a [op] [b] pos) (rdT c (Rk.tCmp f A B)) := (pt_cmpR ho ha hb hm).mono (cmp_rd hf)
/-- a test as a value -/
theorem etst_of {c : Cf} {A : Tv} {σ : L2.St} {H : Hp} {Q : VK} (h : rdE c (eTst A) σ H Q) : rdT c A σ H fun b H' => Q (.bl b) H' := by
  obtain ⟨ρ, e, s, rs, re, h⟩ := h
  refine ⟨ρ, e, s, rs, re, (bndT_gen stb_E neE rs h).mono fun x H1 ⟨ρ1, s1, e1, r1, p1⟩ => ?_⟩
  exact Post.val p1 r1 (by simp)
theorem pe_ecmp {X : Cx} {c : Cf} {A B : Ev} {a b : Expr} {op : CmpOp} {pos : Pos} {f : Co} {r : R2} (ho : OpR X (compareOp op) r) (hf : CoT f r) (hr : ∀ x y H Q Q', r x y H Q → (∀ k H', Q (.bl k) H' → Q' (.bl k) H') → r x y H Q') (ha : PE X a (rdE c A)) (hb : PE X b (rdE c B)) (hm : behindInMarks op b = false) :
    PE X (.Compare a [op] [b] pos) (rdE c (eTst (Rk.tCmp f A B))) := (pe_cmpR ho ha hb hm).mono fun σ H Q h => by
  have h := etst_of h
  obtain ⟨ρ, e, s, rs, re, h⟩ := h
  refine ⟨ρ, e, s, rs, re, (bnd_T rs h).mono fun x H1 ⟨ρ1, s1, t1, e1, r1, d1, p1⟩ => ?_⟩
  refine ⟨ρ1, e, s1, r1, re.ext rs e1, (bnd_T r1 p1).mono fun y H2 ⟨ρ2, s2, t2, e2, r2, d2, p2⟩ => ?_⟩
  cases hb : f t1 t2 s2 with
  | none => rw [hb] at p2; exact p2.elim
  | some b =>
    rw [hb] at p2
    exact hf ρ2 s2 H2 t1 t2 _ _ b _ r2 (d1.ext r1 e2) d2 hb (PostT.val p2 r2)
theorem chain_rd {f g : Co} {r r' : R2} (hf : CoT f r) (hg : CoT g r') {c : Cf} {A B C : Ev} (σ : L2.St) (H : Hp) (Q : VK) (h : rdT c (Rk.tCmp2 f g A B C) σ H fun b H' => Q (.bl b) H') : tChain r r' (rdE c A) (rdE c B) (rdE c C) σ H Q := by
  obtain ⟨ρ, e, s, rs, re, h⟩ := h
  refine ⟨ρ, e, s, rs, re, (bnd_T rs h).mono fun x H1 ⟨ρ1, s1, t1, e1, r1, d1, p1⟩ => ?_⟩
  refine ⟨ρ1, e, s1, r1, re.ext rs e1, (bnd_T r1 p1).mono fun y H2 ⟨ρ2, s2, t2, e2, r2, d2, p2⟩ => ?_⟩
  cases hb : f t1 t2 s2 with
  | none => rw [hb] at p2; exact p2.elim
  | some b =>
    rw [hb] at p2
    refine hf ρ2 s2 H2 t1 t2 _ _ b _ r2 (d1.ext r1 e2) d2 hb ⟨b, rfl, ?_⟩
    cases b with
    | false => exact PostT.val p2 r2
    | true =>
      refine ⟨ρ2, e, s2, r2, (re.ext rs e1).ext r1 e2, (bnd_T r2 p2).mono fun z H3 ⟨ρ3, s3, t3, e3, r3, d3, p3⟩ => ?_⟩
      cases hb2 : g t2 t3 s3 with
      | none => rw [hb2] at p3; exact p3.elim
      | some b =>
        rw [hb2] at p3
        exact hg ρ3 s3 H3 t2 t3 _ _ b _ r3 (d2.ext r2 e3) d3 hb2 (PostT.val p3 r3)
theorem pt_tcmp2 {X : Cx} {c : Cf} {A B C : Ev} {a b d : Expr} {op op' : CmpOp} {pos : Pos} {f g : Co} {r r' : R2} (ho : OpR X (compareOp op) r) (ho' : OpR X (compareOp op') r') (hf : CoT f r) (hg : CoT g r') (ha : PE X a (rdE c A)) (hb : PE X b (rdE c B)) (hd : PE X d (rdE c C))
    (hm : lastMarks [op, op'] [b, d] = false) : PT X (.Compare a [op, op'] [b, d] pos) (rdT c (Rk.tCmp2 f g A B C)) := (pt_chain ho ho' ha hb hd hm).mono fun σ H Q h =>
  chain_rd hf hg σ H (fun x H' => ∃ k, x = .bl k ∧ Q k H') (by
    obtain ⟨ρ, e, s, rs, re, h⟩ := h
    exact ⟨ρ, e, s, rs, re, h.mono fun b H' q => ⟨b, rfl, q⟩⟩)
theorem pe_ecmp2 {X : Cx} {c : Cf} {A B C : Ev} {a b d : Expr} {op op' : CmpOp} {pos : Pos} {f g : Co} {r r' : R2} (ho : OpR X (compareOp op) r) (ho' : OpR X (compareOp op') r') (hf : CoT f r) (hg : CoT g r') (ha : PE X a (rdE c A)) (hb : PE X b (rdE c B)) (hd : PE X d (rdE c C))
    (hm : lastMarks [op, op'] [b, d] = false) : PE X (.Compare a [op, op'] [b, d] pos) (rdE c (eTst (Rk.tCmp2 f g A B C))) := (pe_chain ho ho' ha hb hd hm).mono fun σ H Q h => chain_rd hf hg σ H Q (etst_of h)
end Rk
end
section
set_option linter.all false
set_option autoImplicit false
set_option maxRecDepth 100000
namespace Rk
open PySem PySem.Spec PyProof.Rows L2

/-! ### keys -/
theorem tEq_int (i j : Int) : tEq (.int i) (.int j) = some (iEq i j) := rfl
theorem tEq_str (i j : List Nat) : tEq (.str i) (.str j) = some (natsEq i j) := rfl
theorem key_eq {a b : T} {ka kb : Key} (ha : keyT a = some ka) (hb : keyT b = some kb) : tEq a b = some (decide (ka = kb)) := by
  cases a with
  | int i =>
    cases ha
    cases b with
    | int j => cases hb; rw [tEq_int, iEq_eq]; congr 1; rw [Bool.eq_iff_iff]; simp
    | str j => cases hb; exact congrArg some (decide_eq_false (fun h => nomatch h)).symm
    | _ => exact nomatch hb
  | str i =>
    cases ha
    cases b with
    | int j => cases hb; exact congrArg some (decide_eq_false (fun h => nomatch h)).symm
    | str j => cases hb; rw [tEq_str, natsEq_eq]; congr 1; rw [Bool.eq_iff_iff]; simp
    | _ => exact nomatch hb
  | _ => exact nomatch ha
theorem keys_eq : ∀ {as bs : List T} {ka kb : List Key}, as.mapM keyT = some ka → bs.mapM keyT = some kb → tEq (.tup as) (.tup bs) = some (decide (ka = kb))
  | [], [], ka, kb, ha, hb => by
    simp at ha hb; subst ha hb; rfl
  | [], b :: bs, ka, kb, ha, hb => by
    simp at ha; subst ha
    rw [List.mapM_cons] at hb
    cases h1 : keyT b with
    | none => rw [h1] at hb; exact nomatch hb
    | some k =>
      cases h2 : bs.mapM keyT with
      | none => rw [h1, h2] at hb; exact nomatch hb
      | some ks => rw [h1, h2] at hb; cases hb; rfl
  | a :: as, [], ka, kb, ha, hb => by
    simp at hb; subst hb
    rw [List.mapM_cons] at ha
    cases h1 : keyT a with
    | none => rw [h1] at ha; exact nomatch ha
    | some k =>
      cases h2 : as.mapM keyT with
      | none => rw [h1, h2] at ha; exact nomatch ha
      | some ks => rw [h1, h2] at ha; cases ha; rfl
  | a :: as, b :: bs, ka, kb, ha, hb => by
    rw [List.mapM_cons] at ha hb
    cases h1 : keyT a with
    | none => rw [h1] at ha; exact nomatch ha
    | some k =>
      cases h2 : as.mapM keyT with
      | none => rw [h1, h2] at ha; exact nomatch ha
      | some ks =>
        rw [h1, h2] at ha; cases ha
        cases g1 : keyT b with
        | none => rw [g1] at hb; exact nomatch hb
        | some k' =>
          cases g2 : bs.mapM keyT with
          | none => rw [g1, g2] at hb; exact nomatch hb
          | some ks' =>
            rw [g1, g2] at hb; cases hb
            have ih := keys_eq h2 g2
            show onOp (tEq a b) none (fun q => ifB q (tEq (.tup as) (.tup bs)) (some false)) = _
            rw [key_eq h1 g1, ih]
            show ifB (decide (k = k')) (some (decide (ks = ks'))) (some false) = _
            by_cases e : k = k'
            · subst e
              rw [decide_eq_true rfl]
              show some (decide (ks = ks')) = some (decide (k :: ks = k :: ks'))
              simp
            · rw [decide_eq_false e]
              show some false = some (decide (k :: ks = k' :: ks'))
              congr 1; symm; apply decide_eq_false; simp [e]
theorem keyTs_eq {a b : T} {ka kb : List Key} (ha : keyTs a = some ka) (hb : keyTs b = some kb) : tEq a b = some (decide (ka = kb)) := by
  cases a with
  | tup as =>
    cases b with
    | tup bs => exact keys_eq ha hb
    | _ => exact nomatch hb
  | _ => exact nomatch ha
theorem kP_ok {t : T} (h : kP t = true) : ∃ k, keyT t = some k := by
  cases t with
  | int i => exact ⟨_, rfl⟩
  | str i => exact ⟨_, rfl⟩
  | _ => exact nomatch h
theorem kPs_ok : ∀ {ts : List T}, kT (.tup ts) = true → ∃ ks, ts.mapM keyT = some ks
  | [], _ => ⟨[], rfl⟩
  | t :: ts, h => by
    have h : ifB (kP t) (kT (.tup ts)) false = true := h
    cases h1 : kP t with
    | false => rw [h1] at h; exact nomatch h
    | true =>
      rw [h1] at h
      obtain ⟨k, hk⟩ := kP_ok h1
      obtain ⟨ks, hks⟩ := kPs_ok (ts := ts) h
      exact ⟨k :: ks, by rw [List.mapM_cons, hk, hks]; rfl⟩
theorem kT_ok {t : T} (h : kT t = true) : ∃ ks, keyTs t = some ks := by
  cases t with
  | tup ts => exact kPs_ok h
  | _ => exact nomatch h
section
variable {ρ : Nat → Option Addr} {s : Sto} {H : Hp}
theorem den_key {t : T} {v : V} {k : Key} (d : Den ρ H t v) (h : keyT t = some k) : v = kV k := by
  cases t with
  | int i => cases h; rw [den_int] at d; exact d
  | str i => cases h; rw [den_str] at d; exact d
  | _ => exact nomatch h
theorem den_keys : ∀ {ts : List T} {vs : List V} {ks : List Key}, DenL ρ H ts vs → ts.mapM keyT = some ks → vs = ks.map kV
  | [], vs, ks, d, h => by rw [denL_nil] at d; simp at h; subst d h; rfl
  | t :: ts, vs, ks, d, h => by
    rw [denL_cons] at d
    obtain ⟨v, r, rfl, d1, d2⟩ := d
    rw [List.mapM_cons] at h
    cases h1 : keyT t with
    | none => rw [h1] at h; exact nomatch h
    | some k =>
      cases h2 : ts.mapM keyT with
      | none => rw [h1, h2] at h; exact nomatch h
      | some ks' =>
        rw [h1, h2] at h; cases h
        rw [den_key d1 h1, den_keys d2 h2]; rfl
theorem den_keyT {t : T} {v : V} {ks : List Key} (d : Den ρ H t v) (h : keyTs t = some ks) : ∃ b, v = .ref b ∧ H b = some (.tup (ks.map kV)) := by
  cases t with
  | tup ts =>
    rw [den_tup] at d
    obtain ⟨a, vs, rfl, ha, dl⟩ := d
    exact ⟨a, rfl, by rw [ha, den_keys dl h]⟩
  | _ => exact nomatch h
theorem keyG_ok {κ : Type} [DecidableEq κ] {kf : T → Option κ} (he : ∀ {a b ka kb}, kf a = some ka → kf b = some kb → tEq a b = some (decide (ka = kb))) {x : T} {k : κ} (hx : kf x = some k) :
    ∀ {kvs : List (T × T)} {ys : List (κ × V)}, DenK kf ρ H kvs ys → (keyG x kvs = none ∧ valV ys k = none) ∨ ∃ t v, keyG x kvs = some t ∧ valV ys k = some v ∧ Den ρ H t v
  | [], ys, d => by cases d; exact .inl ⟨rfl, rfl⟩
  | p :: r, ys, d => by
    obtain ⟨k', v, q, rfl, h1, h2, h3⟩ := d
    have e : keyG x (p :: r) = onOp (tEq p.1 x) none fun q => ifB q (some p.2) (keyG x r) := rfl
    rw [e, he h1 hx]
    show (ifB (decide (k' = k)) (some p.2) (keyG x r) = none ∧ _) ∨ _
    by_cases z : k' = k
    · rw [decide_eq_true z]
      exact .inr ⟨p.2, v, rfl, valV_pos z, h2⟩
    · rw [decide_eq_false z, valV_neg z]
      exact keyG_ok he hx h3
/-- looking up -/
theorem dget_ok (rs : RelS ρ s H) {n : Nat} {b : Bool} {kvs : List (T × T)} (hn : s.find n = some (.d b kvs)) {x y : V} {u : T} (dx : Den ρ H (.ref n) x) (du : Den ρ H u y) (hk : ifB b (kT u) (kP u) = true) :
    ∃ a, x = .ref a ∧ ((keyG u kvs = none ∧ DGet H a y none) ∨ ∃ t v, keyG u kvs = some t ∧ DGet H a y (some v) ∧ Den ρ H t v) := by
  obtain ⟨a, ho, h1, h2, h3⟩ := rs.live n _ hn
  rw [den_ref] at dx
  obtain ⟨a', rfl, h5⟩ := dx
  rw [h1] at h5; cases h5
  refine ⟨a, rfl, ?_⟩
  cases b with
  | false =>
    obtain ⟨ys, rfl, dk⟩ := h3
    obtain ⟨k, hk⟩ := kP_ok (show kP u = true from hk)
    have := den_key du hk
    subst this
    rcases keyG_ok key_eq hk dk with ⟨e1, e2⟩ | ⟨t, v, e1, e2, d⟩
    · exact .inl ⟨e1, by rw [← e2]; exact .k h2⟩
    · exact .inr ⟨t, v, e1, by rw [← e2]; exact .k h2, d⟩
  | true =>
    obtain ⟨ys, rfl, dk⟩ := h3
    obtain ⟨k, hk⟩ := kT_ok (show kT u = true from hk)
    obtain ⟨q, rfl, hq⟩ := den_keyT du hk
    rcases keyG_ok keyTs_eq hk dk with ⟨e1, e2⟩ | ⟨t, v, e1, e2, d⟩
    · exact .inl ⟨e1, by rw [← e2]; exact .t h2 hq⟩
    · exact .inr ⟨t, v, e1, by rw [← e2]; exact .t h2 hq, d⟩
end

/-! ### in, not in -/
def rInT (K : PySem.W.Frag) (n : Bool) : R2 := fun x y H Q => ∃ d ds, Dp K H x d ∧ Dp K H y (.tuple ds) ∧ SeqAt.shaped d = true ∧ SeqAt.shaped (.tuple ds) = true ∧ Q (.bl (n ^^ ds.any fun z => PyData.eqv z d)) H
def rInK (n : Bool) : R2 := fun x y H Q => ∃ a o, y = .ref a ∧ DGet H a x o ∧ Q (.bl (n ^^ o.isSome)) H
theorem op_inT {X : Cx} (hu : X.A.units + 65 < cLine) : OpR X (compareOp .In) (rInT X.K false) := by
  intro pins s σ H x y v u Q I rx ry h
  obtain ⟨d, ds, hd, he, sd, se, q⟩ := h
  obtain ⟨as, r1⟩ := Dp.reads I d x v hd rx
  obtain ⟨bs, r2⟩ := Dp.reads I (.tuple ds) y u he ry
  have h1 := SeqAt.depth_of_shaped sd
  have h2 : min (PyData.depthAll ds) d.depth ≤ d.depth := Nat.min_le_right _ _
  exact SeqAt.in_tuple_reads r2 r1 (SeqAt.canLay_of_shaped se) (SeqAt.canLay_of_shaped sd) (by omega) ⟨.bl _, H, I, rfl, by simpa using q⟩
theorem op_notInT {X : Cx} (hu : X.A.units + 65 < cLine) : OpR X (compareOp .NotIn) (rInT X.K true) := by
  intro pins s σ H x y v u Q I rx ry h
  obtain ⟨d, ds, hd, he, sd, se, q⟩ := h
  obtain ⟨as, r1⟩ := Dp.reads I d x v hd rx
  obtain ⟨bs, r2⟩ := Dp.reads I (.tuple ds) y u he ry
  have h1 := SeqAt.depth_of_shaped sd
  have h2 : min (PyData.depthAll ds) d.depth ≤ d.depth := Nat.min_le_right _ _
  exact SeqAt.notIn_tuple_reads r2 r1 (SeqAt.canLay_of_shaped se) (SeqAt.canLay_of_shaped sd) (by omega) ⟨.bl _, H, I, rfl, by simpa using q⟩
theorem op_inK {X : Cx} (hu : X.A.units + 1 < cLine) : OpR X (compareOp .In) (rInK false) := by
  intro pins s σ H x y v u Q I rx ry h
  obtain ⟨a, o, rfl, g, q⟩ := h
  cases ry
  exact d_in hu I g rx fun s' I' => ⟨.bl _, H, I', rfl, by simpa using q⟩
theorem op_notInK {X : Cx} (hu : X.A.units + 1 < cLine) : OpR X (compareOp .NotIn) (rInK true) := by
  intro pins s σ H x y v u Q I rx ry h
  obtain ⟨a, o, rfl, g, q⟩ := h
  cases ry
  exact d_notIn hu I g rx fun s' I' => ⟨.bl _, H, I', rfl, by simpa using q⟩
def rInA (K : PySem.W.Frag) : R2 := fun x y H Q => rInD K x y H Q ∨ rInT K false x y H Q ∨ rInK false x y H Q ∨ rInS x y H Q
def rNinA (K : PySem.W.Frag) : R2 := fun x y H Q => rNotInD K x y H Q ∨ rInT K true x y H Q ∨ rInK true x y H Q ∨ rNotInS x y H Q
theorem opr_in {X : Cx} (hu : X.A.units + 65 < cLine) : OpR X (compareOp .In) (rInA X.K) := (op_inD hu).or ((op_inT hu).or ((op_inK (by omega)).or op_inS))
theorem opr_nin {X : Cx} (hu : X.A.units + 65 < cLine) : OpR X (compareOp .NotIn) (rNinA X.K) := (op_notInD hu).or ((op_notInT hu).or ((op_notInK (by omega)).or op_notInS))
theorem shaped_of {d : PyData} (h : d.canLay0 = true) (h2 : d.depth ≤ 64) : SeqAt.shaped d = true := by
  show (d.canLay0 && decide (d.depth ≤ 64)) = true
  rw [h, decide_eq_true h2]; rfl
theorem memC_eq (c : Nat) : ∀ cs : List Nat, memC c cs = decide (c ∈ cs)
  | [] => rfl
  | d :: cs => by
    have e : memC c (d :: cs) = ifB (Nat.beq d c) true (memC c cs) := rfl
    rw [e, memC_eq c cs]
    by_cases h : d = c
    · rw [show Nat.beq d c = true from by rw [h]; exact Nat.beq_refl c]; simp [h]
    · rw [show Nat.beq d c = false from Bool.eq_false_iff.mpr fun z => h (Nat.eq_of_beq_eq_true z)]
      have h2 : ¬ c = d := fun z => h z.symm
      show decide (c ∈ cs) = decide (c ∈ d :: cs)
      simp [h2]
theorem oneC_ok {t : T} {k : Nat → Option Bool} {b : Bool} (h : oneC t k = some b) : ∃ c, t = .str [c] ∧ k c = some b := by
  cases t with
  | str cs =>
    cases cs with
    | nil => exact nomatch h
    | cons c r =>
      cases r with
      | nil => exact ⟨c, rfl, h⟩
      | cons _ _ => exact nomatch h
  | _ => exact nomatch h
theorem cot_in {K : PySem.W.Frag} : CoT inG (rInA K) := by
  intro ρ s H t u x y b Q rs d1 d2 h q
  unfold inG at h
  have seq : ∀ {xs : List T} {vs : List V}, DenL ρ H xs vs → memP t xs s = some b → ∃ d ds, DeepOk K H 50 x d ∧ DeepsOk K H 49 vs ds ∧ b = (toPs ds).any fun z => PyData.eqv z (toP d) := fun {xs vs} dl h => by
    unfold memP at h
    obtain ⟨d, h, o1⟩ := deepK_ok (K := K) rs 50 d1 h
    obtain ⟨ds, h, o2⟩ := deepL_ok (K := K) rs (fun t v k r => deepK_ok rs 49) dl h
    cases h
    exact ⟨d, ds, o1, o2, by rw [memD_eq, toPs_map]⟩
  cases u with
  | tup xs =>
    rw [den_tup] at d2
    obtain ⟨a, vs, rfl, ha, dl⟩ := d2
    obtain ⟨d, ds, o1, o2, e⟩ := seq dl h
    refine .inr (.inl ⟨_, _, o1.1, .tup (.of ha) o2.1, o1.shaped (by omega), shaped_of (by simp only [PyData.canLay0]; exact o2.2.1) (by simp only [PyData.depth]; have := o2.2.2; omega), by rw [← e]; simpa using q⟩)
  | ref n =>
    simp only [onT_ref] at h
    rw [getO_eq] at h
    cases e : s.find n with
    | none => rw [e] at h; exact nomatch h
    | some o =>
      rw [e] at h
      cases o with
      | l xs =>
        obtain ⟨a, vs, rfl, _, ha, dl⟩ := rs.lst e d2
        obtain ⟨d, ds, o1, o2, e⟩ := seq dl h
        refine .inl ⟨_, _, o1.1, .lst (.of ha) o2.1, o1.shaped (by omega), shaped_of (by simp only [PyData.canLay0]; exact o2.2.1) (by simp only [PyData.depth]; have := o2.2.2; omega), by rw [← e]; exact q⟩
      | d c kvs =>
        have h : ifB (ifB c (kT t) (kP t)) (some (Option.isSome (keyG t kvs))) none = some b := h
        cases hk : ifB c (kT t) (kP t) with
        | false => rw [hk] at h; exact nomatch h
        | true =>
          rw [hk] at h
          obtain ⟨a, rfl, hg⟩ := dget_ok rs e d2 d1 hk
          rcases hg with ⟨e1, g⟩ | ⟨t', v, e1, g, _⟩
          · rw [e1] at h; cases h
            exact .inr (.inr (.inl ⟨a, none, rfl, g, q⟩))
          · rw [e1] at h; cases h
            exact .inr (.inr (.inl ⟨a, some v, rfl, g, q⟩))
  | str cs =>
    obtain ⟨ch, et, eb⟩ := oneC_ok (show oneC t (fun ch => some (memC ch cs)) = some b from h)
    subst et
    cases eb
    rw [den_str] at d1 d2
    subst d1 d2
    refine .inr (.inr (.inr ⟨ch, ⟨cs.toArray⟩, rfl, rfl, ?_⟩))
    rw [memC_eq] at q
    exact q
  | _ => exact nomatch h
theorem cot_nin {K : PySem.W.Frag} : CoT ninG (rNinA K) := by
  intro ρ s H t u x y b Q rs d1 d2 h q
  rcases cot_in (K := K) ρ s H t u x y (!b) (fun v H' => ∃ k, v = .bl k ∧ Q (.bl (!k)) H') rs d1 d2 (negO_some h) ⟨_, rfl, by simpa using q⟩ with h0 | h0 | h0 | h0
  · obtain ⟨dx, dy, h1, h2, h3, h4, k, e, h5⟩ := h0
    cases e
    exact .inl ⟨dx, dy, h1, h2, h3, h4, h5⟩
  · obtain ⟨dx, dy, h1, h2, h3, h4, k, e, h5⟩ := h0
    cases e
    exact .inr (.inl ⟨dx, dy, h1, h2, h3, h4, by simpa using h5⟩)
  · obtain ⟨dx, dy, h1, h2, k, e, h5⟩ := h0
    cases e
    exact .inr (.inr (.inl ⟨dx, dy, h1, h2, by simpa using h5⟩))
  · obtain ⟨dx, dy, h1, h2, k, e, h5⟩ := h0
    cases e
    exact .inr (.inr (.inr ⟨dx, dy, h1, h2, by simpa using h5⟩))

/-! ### argument lists, displays -/
theorem pa_anil {X : Cx} {c : Cf} : PA X [] (rdA c aNil) := pa_nil.mono fun σ H Q ⟨ρ, e, s, rs, re, h⟩ => h ρ H [] Ext.refl rs (by simp)
theorem cons_rd {c : Cf} {A : Ev} {R : Av} (σ : L2.St) (H : Hp) (Q : List V → Hp → Prop) (h : rdA c (aCons A R) σ H Q) : tCons (rdE c A) (rdA c R) σ H Q := by
  obtain ⟨ρ, e, s, rs, re, h⟩ := h
  refine ⟨ρ, e, s, rs, re, (bnd_L rs h).mono fun x H1 ⟨ρ1, s1, t1, e1, r1, d1, p1⟩ => ?_⟩
  refine ⟨ρ1, e, s1, r1, re.ext rs e1, (bndL_gen stb_L neL r1 p1).mono fun vs H2 ⟨ρ2, s2, ts, e2, r2, d2, p2⟩ => ?_⟩
  exact p2 ρ2 H2 _ Ext.refl r2 (by rw [denL_cons2]; exact ⟨d1.ext r1 e2, d2⟩)
def noStar : Expr → Bool
  | .Starred _ _ => false
  | _ => true
theorem star_one {e : Expr} {es : List Expr} {env : Env} (h : noStar e = true) : starEach (e :: es) env = (false, eval e env) :: starEach es env := by
  cases e <;> first | rfl | exact nomatch h
theorem star_any {pos : Pos} {env : Env} : ∀ {es : List Expr}, es.all noStar = true → (backTo pos (starEach es env)).any (·.1) = false
  | [], _ => rfl
  | e :: es, h => by
    rw [List.all_cons, Bool.and_eq_true] at h
    rw [star_one h.1]
    show (false || (backTo pos (starEach es env)).any (·.1)) = false
    rw [star_any h.2]; rfl
theorem pa_acons {X : Cx} {c : Cf} {A : Ev} {R : Av} {e : Expr} {es : List Expr} (ha : PE X e (rdE c A)) (hr : PA X es (rdA c R)) (hs : noStar e = true) : PA X (e :: es) (rdA c (aCons A R)) :=
  (pa_cons ha hr (star_one hs)).mono cons_rd
/-- room for a list -/
def LenOk (ts : List T) : Prop := ts.length ≤ sizeLine
theorem pe_etup {X : Cx} {c : Cf} {R : Av} {es : List Expr} {x1 : Nat} {pos : Pos} (h : PA X es (rdA c R)) (hl : es.length ≤ 1000) (hn : ∀ c σ s ts s', R c σ s = .ok ts s' → ts.length = es.length) : PE X (.Tuple es x1 pos) (rdE c (eTup R)) :=
  (pe_tup h).mono fun σ H Q ⟨ρ, e, s, rs, re, h⟩ => ⟨ρ, e, s, rs, re, by
    have h2 := bndL_gen stb_E neE rs h
    have hn := hn c e s
    cases hm : R c e s with
    | er => rw [hm] at h2; exact h2
    | ok ts s' =>
      rw [hm] at h2
      have hl2 := hn ts s' hm
      intro ρ' H' vs ex rr d
      obtain ⟨ρ1, s1, t1, e1, r1, d1, p1⟩ := h2 ρ' H' vs ex rr d
      exact ⟨by rw [← d.length, hl2, sizeLine_eq]; omega, fun p hp => Post.newT p1 r1 d1 hp⟩⟩
theorem pe_elst {X : Cx} {c : Cf} {R : Av} {es : List Expr} {pos : Pos} (h : PA X es (rdA c R)) (hl : es.length ≤ 1000) (hn : ∀ c σ s ts s', R c σ s = .ok ts s' → ts.length = es.length) : PE X (.List es pos) (rdE c (eLst R)) :=
  (pe_lst h).mono fun σ H Q ⟨ρ, e, s, rs, re, h⟩ => ⟨ρ, e, s, rs, re, by
    have h2 := bndL_gen stb_E neE rs h
    have hn := hn c e s
    cases hm : R c e s with
    | er => rw [hm] at h2; exact h2
    | ok ts s' =>
      rw [hm] at h2
      have hl2 := hn ts s' hm
      intro ρ' H' vs ex rr d
      obtain ⟨ρ1, s1, t1, e1, r1, d1, p1⟩ := h2 ρ' H' vs ex rr d
      exact ⟨by rw [← d.length, hl2, sizeLine_eq]; omega, fun p hp => Post.newL p1 r1 d1 hp⟩⟩
theorem cons_len {A : Ev} {R : Av} {n : Nat} (h : ∀ c σ s ts s', R c σ s = .ok ts s' → ts.length = n) : ∀ c σ s ts s', aCons A R c σ s = .ok ts s' → ts.length = n + 1 := by
  intro c σ s ts s' e
  have key : ∀ x s, bndL LR.er (R c σ s) (fun xs s => .ok (x :: xs) s) = .ok ts s' → ts.length = n + 1 := fun x s e => by
    cases hm : R c σ s with
    | er => rw [hm] at e; exact nomatch e
    | ok xs s2 =>
      rw [hm] at e
      have := h _ _ _ _ _ hm
      cases e
      simp [this]
  have e : bnd LR.er (A c σ s) (fun x s => bndL LR.er (R c σ s) fun xs s => .ok (x :: xs) s) = .ok ts s' := e
  cases hm : A c σ s with
  | er => rw [hm] at e; exact nomatch e
  | v t s2 => rw [hm] at e; exact key _ _ e
  | nl xs s2 =>
    rw [hm] at e
    obtain ⟨n2, al⟩ := s2
    have e : alloc (.l xs) (.mk n2 al) (fun x s => bndL LR.er (R c σ s) fun xs s => .ok (x :: xs) s) = .ok ts s' := e
    rw [alloc_eq] at e
    exact key _ _ e

/-! ### subscripts -/
def plainIx : Expr → Bool
  | .Slice _ _ _ _ => false
  | _ => true
theorem plain_ok {b : Expr} (h : plainIx b = true) : PlainIx b := by
  intro o i
  cases b <;> first | rfl | exact nomatch h
theorem ixK_eq (e : Res) (n : Nat) (i : Int) (k : Nat → Res) : ixK e n i k = match ixN n i with | none => e | some j => k j := by
  cases i with
  | ofNat j =>
    show ifB (Nat.blt j n) (k j) e = _
    unfold ixN
    rw [if_pos (show (0 : Int) ≤ Int.ofNat j from Int.natCast_nonneg j)]
    by_cases h : j < n
    · have h1 : Nat.blt j n = true := by rw [Nat.blt_eq]; exact h
      rw [h1, if_pos (show (Int.ofNat j) < (n : Int) from by simp only [Int.ofNat_eq_natCast]; omega)]; rfl
    · have h1 : Nat.blt j n = false := by rw [Bool.eq_false_iff, ne_eq, Nat.blt_eq]; exact h
      rw [h1, if_neg (show ¬ (Int.ofNat j) < (n : Int) from by simp only [Int.ofNat_eq_natCast]; omega)]; rfl
  | negSucc j =>
    show ifB (Nat.blt j n) (k (n - j - 1)) e = _
    unfold ixN
    rw [if_neg (show ¬ (0 : Int) ≤ Int.negSucc j from by omega)]
    by_cases h : j < n
    · have h1 : Nat.blt j n = true := by rw [Nat.blt_eq]; exact h
      rw [h1, if_pos (show -(n : Int) ≤ Int.negSucc j from by omega)]
      show k (n - j - 1) = k (Int.negSucc j + (n : Int)).toNat
      congr 1; omega
    · have h1 : Nat.blt j n = false := by rw [Bool.eq_false_iff, ne_eq, Nat.blt_eq]; exact h
      rw [h1, if_neg (show ¬ -(n : Int) ≤ Int.negSucc j from by omega)]; rfl
def rIxA (K : PySem.W.Frag) : R2 := fun x y H Q => rIx K x y H Q ∨ ∃ a v, x = .ref a ∧ DGet H a y (some v) ∧ Q v H
theorem ix_dict {X : Cx} (hu : X.A.units + 1 < cLine) : IxR X (fun x y H Q => ∃ a v, x = .ref a ∧ DGet H a y (some v) ∧ Q v H) := by
  intro value slice pins s σ H x y v u Q I rx ry h hs
  obtain ⟨a, w, rfl, g, q⟩ := h
  cases rx
  have ht := dict_typeIs I g
  obtain ⟨id, hT⟩ : ∃ id, typeLookup (.type "dict") "__getitem__" = pure (some (.builtin id)) := ⟨_, PySem.slot_dict_getitem.lookup⟩
  exact tail_any ht hT (d_getItem hu I g ry fun w' s' I' rw' => ⟨w, H, I', rw', q⟩) hs
theorem ixr_any {X : Cx} (hu : X.A.units + 1 < cLine) : IxR X (rIxA X.K) := ix_seq.or (ix_dict hu)
end Rk
end
section
set_option linter.all false
set_option autoImplicit false
set_option maxRecDepth 100000
namespace HT
open PySem PyProof.Rows
section
variable {prog : Program} {w : World} {A : Around} {E : Value → Shared → Prop} {s : Shared}
theorem rev_pick (xs : Array Value) : ((List.range xs.size).filterMap fun (m : Nat) => xs[(((xs.size : Int) - 1) + (m : Int) * (-1)).toNat]?).toArray = xs.toList.reverse.toArray := by
  congr 1
  have e : ∀ k, k ≤ xs.size → ((List.range k).filterMap fun (m : Nat) => xs[(((xs.size : Int) - 1) + (m : Int) * (-1)).toNat]?) = xs.toList.reverse.take k := by
    intro k
    induction k with
    | zero => intro _; simp
    | succ k ih =>
      intro hk
      rw [List.range_succ, List.filterMap_append, ih (by omega)]
      have h1 : (((xs.size : Int) - 1) + (k : Int) * (-1)).toNat = xs.size - 1 - k := by omega
      have h2 : xs.size - 1 - k < xs.size := by omega
      rw [List.take_add_one]
      congr 1
      simp only [List.filterMap_cons, List.filterMap_nil]
      rw [h1]
      have h3 : xs[xs.size - 1 - k]? = some xs[xs.size - 1 - k] := Array.getElem?_eq_getElem h2
      rw [h3]
      rw [List.getElem?_reverse (by rw [Array.length_toList]; omega)]
      have h4 : xs.toList[xs.toList.length - 1 - k]? = some xs[xs.size - 1 - k] := by
        rw [Array.getElem?_toList]; simpa using h3
      rw [h4]; rfl
  have := e xs.size (Nat.le_refl _)
  rw [this]
  rw [List.take_of_length_le (by simp)]
theorem sliceApplied_rev {sl : Addr} {vl vu vs : Value} {n : Nat} {Q : Int × Int × Nat → Shared → Prop} (hs : s.heap.IsSliceOf sl vl vu vs) (pl : IsPart vl none) (pu : IsPart vu none) (ps : IsPart vs (some (-1)))
    (h : Q ((n : Int) - 1, -1, n) s) : wpAny (model prog w) A (Builtin.Slice.sliceApplied (.ref sl) (pure (n : Int))) Q E s := by
  obtain ⟨os, hos, hcs, hds⟩ := id hs
  unfold Builtin.Slice.sliceApplied Builtin.Slice.sliceFields
  refine wpAny_bind (wpAny_bind (wpAny_field hos hds (x := vl) rfl (wpAny_bind (wpAny_field hos hds (x := vu) rfl (wpAny_bind (wpAny_field hos hds (x := vs) rfl (wpAny_pure ?_)))))))
  refine wpAny_bind (slicePart_ ps ?_)
  show wpAny _ _ (if (((-1 : Int)) == 0) = true then _ else _) _ _ s
  rw [if_neg (by decide)]
  refine wpAny_bind (slicePart_ pl (wpAny_bind (slicePart_ pu (wpAny_bind (wpAny_pure ?_)))))
  have e1 : Builtin.Slice.sliceAdjust none none (-1) (n : Int) = ((n : Int) - 1, -1) := rfl
  show wpAny _ _ (match Builtin.Slice.sliceAdjust none none (-1) (n : Int) with | (lo, hi) => pure (lo, (-1 : Int), Builtin.Slice.slicePlaces lo hi (-1))) _ _ s
  rw [e1]
  have e2 : Builtin.Slice.slicePlaces ((n : Int) - 1) (-1) (-1) = n := by
    unfold Builtin.Slice.slicePlaces
    have h1 : ¬ ((-1 : Int) > 0) := by omega
    simp only [h1, if_false]
    split
    · have : (-(-1 : Int)) = 1 := rfl
      rw [this, Int.ediv_one]; omega
    · omega
  show wpAny _ _ (pure ((n : Int) - 1, (-1 : Int), Builtin.Slice.slicePlaces ((n : Int) - 1) (-1) (-1))) _ _ s
  rw [e2]
  exact wpAny_pure h
theorem getItem_tuple_rev {t sl : Addr} {items : Array Value} {vl vu vs : Value} {Q : Value → Shared → Prop} (ht : IsTup s.heap t items) (hs : s.heap.IsSliceOf sl vl vu vs) (pl : IsPart vl none) (pu : IsPart vu none) (ps : IsPart vs (some (-1)))
    (h : Q (.ref s.heap.objs.size) { s with heap := s.heap.push { cls := .type "tuple", data := .seq items.toList.reverse.toArray } })
    (hsz : items.size ≤ sizeLine) : wpAny (model prog w) A (getItem (.ref t) (.ref sl)) Q E s := by
  have htake : sizeOk (.seq items.toList.reverse.toArray) := by
    show items.toList.reverse.toArray.size ≤ sizeLine
    rw [List.size_toArray, List.length_reverse, Array.length_toList]
    omega
  obtain ⟨os, hos, hcs, hds⟩ := id hs
  have hTs : s.TypeIs (.ref sl) "slice" := ⟨os, hos, hcs⟩
  unfold getItem
  try with_reducible refine wpAny_holding ?_
  first | refine wpAny_bind (wpAny_pure ?_) | skip
  refine wpAny_bind (wpAny_sequenceKey ht.typeIs (by decide) ?_)
  refine wpAny_bind (wpAny_callSpecial?_slot (name := Str.ofString "__getitem__") ht.typeIs PyProof.Rows.slot_tuple_getitem
    (wpAny_call_entry PyProof.Rows.slot_tuple_getitem ht.typeIs entry_tuple_getitem ?_ (args_tuple_getitem _ _)))
  show wpAny _ _ (Builtin.Tuple.tupleItemsOf (.ref t) >>= _) _ _ s
  refine wpAny_bind (tupleItemsOf_ ht ?_)
  refine wpAny_bind (wpAny_typeOf hTs ?_)
  rw [if_pos (by decide)]
  refine wpAny_bind (sliceApplied_rev hs pl pu ps ?_)
  have hno : ¬ ((((items.size : Int) - 1 == 0) && ((-1 : Int) == 1) && (items.size == items.size)) = true) := by
    intro q
    rw [Bool.and_eq_true, Bool.and_eq_true] at q
    exact absurd q.1.2 (by decide)
  show wpAny _ _ (if (((items.size : Int) - 1 == 0) && ((-1 : Int) == 1) && (items.size == items.size)) = true then _ else _) _ _ s
  rw [if_neg hno, rev_pick]
  first
    | exact wpAny_bind (m := Builtin.Tuple.tupleExact _) (wpAny_newObj_type (wpAny_pure ⟨_, rfl, wpAny_pure h⟩) htake)
    | exact wpAny_bind (m := Builtin.Tuple.tupleExact _) (wpAny_newObj_type (wpAny_bind (wpAny_pure (wpAny_pure ⟨_, rfl, wpAny_pure h⟩))) htake)
    | exact wpAny_bind (wpAny_bind (m := Builtin.Tuple.tupleExact _) (wpAny_newObj_type (wpAny_pure (wpAny_pure ⟨_, rfl, wpAny_pure h⟩)) htake))
    | exact wpAny_bind (wpAny_bind (m := Builtin.Tuple.tupleExact _) (wpAny_newObj_type (wpAny_pure ⟨_, rfl, wpAny_pure h⟩) htake))
end
end HT
namespace Rk
open PySem PySem.Spec PyProof.Rows L2
/-! ### [::-1] -/
def tRevA (K : PySem.W.Frag) (te : TE) : TE := fun σ H Q => te σ H fun x H1 => ∃ a xs, x = .ref a ∧ ((SqL K H1 a xs ∧ ∀ p, H1 p = none → Q (.ref p) (upd H1 p (.lst xs.reverse))) ∨ (SqT K H1 a xs ∧ ∀ p, H1 p = none → Q (.ref p) (upd H1 p (.tup xs.reverse))))
theorem pe_revA {X : Cx} {e : Expr} {te : TE} {k : Nat} {p1 p2 p3 pos : Pos} (he : PE X e te) : PE X (.Subscript e (.Slice none none (some (.UnaryOp .USub (.Constant (.int 1) k p1) p2)) p3) pos) (tRevA X.K te) := by
  refine ⟨fun pins s σ H Q I h => ?_⟩
  refine Subscript_ (thn (he.run pins s σ H _ I h) fun v s1 ⟨x, H1, I1, r1, q1⟩ => ?_)
  obtain ⟨a, xs, ex, q⟩ := q1
  subst ex
  cases r1
  have hst : PO X (some (.UnaryOp .USub (.Constant (.int 1) k p1) p2)) (tPart (tUn (rU fun i => .int (-i)) (tC (.int 1)))) := po_some (pe_un un_neg pe_int)
  refine wpAny_Slice (thn (po_none.run pins s1 σ H1 (fun o H2 => o = none ∧ H2 = H1) I1 ⟨rfl, rfl⟩) fun vl s2 ⟨l, H2, I2, pl, el, e2⟩ => ?_)
  subst el e2
  refine thn (po_none.run pins s2 σ H2 (fun o H3 => o = none ∧ H3 = H2) I2 ⟨rfl, rfl⟩) fun vu s3 ⟨u, H3, I3, pu, eu, e3⟩ => ?_
  subst eu e3
  refine thn (hst.run pins s3 σ H3 (fun o H4 => o = some (-1) ∧ H4 = H3) I3 ⟨1, rfl, -1, rfl, rfl, rfl⟩) fun vs s4 ⟨o, H4, I4, ps, eo, e4⟩ => ?_
  subst eo e4
  have I5 : Inv X pins σ H4 { s4 with heap := s4.heap.push { cls := .type "slice", data := .fields #[vl, vu, vs] } } := I4.kept (t' := s4.toks) fun b ob q => Heap.get?_push_of_some _ q
  show wpAny (model X.prog X.w) X.A (subscriptTail e (.Slice none none (some (.UnaryOp .USub (.Constant (.int 1) k p1) p2)) p3) (.ref a) (.ref s4.heap.objs.size)) (EP X pins σ Q) X.xe { s4 with heap := s4.heap.push { cls := .type "slice", data := .fields #[vl, vu, vs] } }
  rcases q with ⟨hx, q⟩ | ⟨hx, q⟩
  · obtain ⟨its, r, ht, hz⟩ := I5.list hx
    have hlen := r.length
    refine tail_any (ops := [.ref a, .ref s4.heap.objs.size]) ht.isList.typeIs (PySem.slot_list_getitem.lookup) ?_ (by with_unfolding_all rfl)
    refine wpAny_getItem_list_slice ht.isList (Heap.IsSliceOf.new _ vl vu vs) pl pu ps (by decide) ?_ (by rw [List.size_toArray]; omega)
    rw [PySem.W.krv_pick]
    refine ⟨.ref _, _, I5.laid (t' := s4.toks) (o := .lst xs.reverse) (fun b ob q => Heap.get?_push_of_some _ q) (Nat.le_refl _) ?_, rfl, q _ (I5.hok.fresh (Nat.le_refl _))⟩
    exact ⟨by rw [List.length_reverse]; exact hz, _, 0, r.reverse, Heap.get?_push_size _ rfl⟩
  · obtain ⟨its, r, ht, hz⟩ := I5.tuple hx
    have hlen := r.length
    refine tail_any (ops := [.ref a, .ref s4.heap.objs.size]) ht.typeIs (PyProof.Rows.slot_tuple_getitem.lookup) ?_ (by with_unfolding_all rfl)
    refine HT.getItem_tuple_rev ht (Heap.IsSliceOf.new _ vl vu vs) pl pu ps ?_ (by rw [List.size_toArray]; omega)
    refine ⟨.ref _, _, I5.laid (t' := s4.toks) (o := .tup xs.reverse) (fun b ob q => Heap.get?_push_of_some _ q) (Nat.le_refl _) ?_, rfl, q _ (I5.hok.fresh (Nat.le_refl _))⟩
    exact ⟨by rw [List.length_reverse]; exact hz, _, r.reverse, IsTup.new _ _⟩
theorem pe_erev {X : Cx} {c : Cf} {A : Ev} {e : Expr} {k : Nat} {p1 p2 p3 pos : Pos} (he : PE X e (rdE c A)) : PE X (.Subscript e (.Slice none none (some (.UnaryOp .USub (.Constant (.int 1) k p1) p2)) p3) pos) (rdE c (eRev A)) := by
  refine (pe_revA he).mono (one_rd (k := revR) fun ρ s H t x Q rs d h => ?_)
  unfold revR at h
  cases t with
  | tup ts =>
    rw [den_tup] at d
    obtain ⟨a, vs, rfl, ha, dl⟩ := d
    simp only [onT_tup, revK_eq, List.append_nil] at h
    exact ⟨a, vs, rfl, .inr ⟨.of ha, fun p hp => h.newT rs dl.reverse hp⟩⟩
  | ref n =>
    simp only [onT_ref] at h
    obtain ⟨ts, hn, h⟩ := h.getL
    obtain ⟨a, vs, rfl, _, ha, dl⟩ := rs.lst hn d
    simp only [revK_eq, List.append_nil] at h
    exact ⟨a, vs, rfl, .inl ⟨.of ha, fun p hp => h.newL rs dl.reverse hp⟩⟩
  | _ => exact h.elim

/-! ### subscripts -/
theorem atI_of {α : Type} {xs : List α} {i : Int} {j : Nat} {v : α} (h : ixN xs.length i = some j) (h2 : xs[j]? = some v) : atI xs i = some v := by
  unfold atI; rw [h]; exact h2
theorem opt_ix {K : PySem.W.Frag} : OpT getIx (rIxA K) := by
  intro ρ s H t u x y Q rs d1 d2 h
  unfold getIx at h
  cases t with
  | str a =>
    rw [den_str] at d1; subst d1
    simp only [onT_str] at h
    obtain ⟨i, ei, hq⟩ := h.onInt
    clear h
    subst ei
    have h := hq
    clear hq
    rw [den_int] at d2; subst d2
    simp only [lenK_eq, Nat.zero_add] at h
    obtain ⟨hz, h⟩ := h.ifB
    rw [ixK_eq] at h
    cases hi : ixN a.length i with
    | none => rw [hi] at h; exact h.elim
    | some j =>
      rw [hi] at h
      dsimp only at h
      rw [nthK_eq] at h
      cases hj : a[j]? with
      | none => rw [hj] at h; exact h.elim
      | some c =>
        rw [hj] at h
        refine .inl (.inr (.inr ⟨_, i, c, rfl, rfl, by rw [str_len]; exact szOk_iff hz, ?_, h.val rs (by simp)⟩))
        show atI (a.toArray).toList i = some c
        rw [List.toList_toArray]
        exact atI_of hi hj
  | tup ts =>
    rw [den_tup] at d1
    obtain ⟨a, vs, rfl, ha, dl⟩ := d1
    simp only [onT_tup] at h
    obtain ⟨i, ei, hq⟩ := h.onInt
    clear h
    subst ei
    have h := hq
    clear hq
    rw [den_int] at d2; subst d2
    simp only [lenK_eq, Nat.zero_add] at h
    rw [ixK_eq] at h
    cases hi : ixN ts.length i with
    | none => rw [hi] at h; exact h.elim
    | some j =>
      rw [hi] at h
      dsimp only at h
      rw [nthK_eq] at h
      cases hj : ts[j]? with
      | none => rw [hj] at h; exact h.elim
      | some c =>
        rw [hj] at h
        obtain ⟨v, hv, dv⟩ := dl.get hj
        exact .inl (.inr (.inl ⟨a, vs, i, v, rfl, rfl, .of ha, atI_of (by rw [← dl.length]; exact hi) hv, h.val rs dv⟩))
  | ref n =>
    simp only [onT_ref] at h
    obtain ⟨o, hn, h⟩ := h.getO
    cases o with
    | l ts =>
      obtain ⟨a, vs, rfl, _, ha, dl⟩ := rs.lst hn d1
      simp only [onOb_l] at h
      obtain ⟨i, ei, hq⟩ := h.onInt
      clear h
      subst ei
      have h := hq
      clear hq
      rw [den_int] at d2; subst d2
      simp only [lenK_eq, Nat.zero_add] at h
      rw [ixK_eq] at h
      cases hi : ixN ts.length i with
      | none => rw [hi] at h; exact h.elim
      | some j =>
        rw [hi] at h
        dsimp only at h
        rw [nthK_eq] at h
        cases hj : ts[j]? with
        | none => rw [hj] at h; exact h.elim
        | some c =>
          rw [hj] at h
          obtain ⟨v, hv, dv⟩ := dl.get hj
          exact .inl (.inl ⟨a, vs, i, v, rfl, rfl, .of ha, atI_of (by rw [← dl.length]; exact hi) hv, h.val rs dv⟩)
    | d b kvs =>
      simp only [onOb_d] at h
      obtain ⟨hk, h⟩ := h.ifB
      unfold getD at h
      obtain ⟨a, rfl, hg⟩ := dget_ok rs hn d1 d2 hk
      rcases hg with ⟨e1, g⟩ | ⟨t', v, e1, g, dv⟩
      · rw [e1] at h; exact h.elim
      · rw [e1] at h
        exact .inr ⟨a, v, rfl, g, Post.val h rs dv⟩
  | _ => exact h.elim
theorem pe_eidx {X : Cx} {c : Cf} {A B : Ev} {a b : Expr} {pos : Pos} (hu : X.A.units + 1 < cLine) (ha : PE X a (rdE c A)) (hb : PE X b (rdE c B)) (hs : plainIx b = true) : PE X (.Subscript a b pos) (rdE c (eIdx A B)) :=
  (pe_ix (ixr_any hu) ha hb (plain_ok hs)).mono (bin_rd opt_ix)

/-! ### slices -/
def PostO (ρ : Nat → Option Addr) (s : Sto) (H : Hp) (m : OR) (Q : Option Int → Hp → Prop) : Prop := match m with
  | .er => False
  | .ok o s' => ∀ ρ' H', Ext ρ s H ρ' s' H' → RelS ρ' s' H' → Q o H'
theorem neO {Q : Option Int → Hp → Prop} : ∀ ρ s H, ¬ PostO ρ s H .er Q := fun _ _ _ h => h
def rdO (c : Cf) (A : Ov) : TO := fun σ H Q => ∃ ρ e s, RelS ρ s H ∧ RelE ρ H e σ ∧ PostO ρ s H (A c e s) Q
theorem PostO.mono {ρ s H} {m : OR} {Q Q' : Option Int → Hp → Prop} (h : PostO ρ s H m Q) (i : ∀ v H', Q v H' → Q' v H') : PostO ρ s H m Q' := by
  cases m with
  | er => exact h
  | ok t s' => exact fun ρ' H' e r => i _ _ (h ρ' H' e r)
theorem _root_.L2.PO.mono {X : Cx} {e : Option Expr} {t t' : TO} (h : PO X e t) (m : ∀ σ H Q, t' σ H Q → t σ H Q) : PO X e t' := ⟨fun pins s σ H Q I q => h.run pins s σ H Q I (m σ H Q q)⟩
theorem po_onone {X : Cx} {c : Cf} : PO X none (rdO c oNone) := po_none.mono fun σ H Q ⟨ρ, e, s, rs, re, h⟩ => h ρ H Ext.refl rs
theorem po_osome {X : Cx} {c : Cf} {A : Ev} {e : Expr} (he : PE X e (rdE c A)) : PO X (some e) (rdO c (oSome A)) := (po_some he).mono fun σ H Q ⟨ρ, e, s, rs, re, h⟩ => by
  have stb_O : Stb (α := OR) (fun ρ s H m => PostO ρ s H m Q) := ⟨fun {ρ ρ1 s s1 H H1 m} r r1 e h => by
    cases m with
    | er => exact h
    | ok t s' => exact fun ρ' H' x rr => h ρ' H' (e.trans r r1 x) rr⟩
  refine ⟨ρ, e, s, rs, re, (bnd_gen stb_O neO rs h).mono fun x H1 ⟨ρ1, s1, t1, e1, r1, d1, p1⟩ => ?_⟩
  cases t1 with
  | int i => rw [den_int] at d1; exact ⟨i, d1, p1 ρ1 H1 Ext.refl r1⟩
  | _ => exact p1.elim
theorem po_bad {X : Cx} {e : Option Expr} {c : Cf} : PO X e (rdO c fun _ _ _ => .er) := ⟨fun _ _ _ _ _ _ ⟨_, _, _, _, _, h⟩ => h.elim⟩
theorem sbK_eq (n d : Nat) (i : Int) (k : Nat → Res) : sbK n i k = k (HT.sIx n d (some i)) := by
  cases i with
  | ofNat j =>
    show ifB (Nat.ble j n) (k j) (k n) = k (if (Int.ofNat j) < 0 then ((Int.ofNat j) + (n : Int)).toNat else min (Int.ofNat j).toNat n)
    rw [if_neg (show ¬ (Int.ofNat j) < 0 from by simp only [Int.ofNat_eq_natCast]; omega)]
    show _ = k (min j n)
    by_cases h : j ≤ n
    · rw [show Nat.ble j n = true from Nat.ble_eq_true_of_le h, Nat.min_eq_left h]; rfl
    · have h1 : Nat.ble j n = false := by
        rw [Bool.eq_false_iff, ne_eq, Nat.ble_eq]; exact h
      have h2 : min j n = n := Nat.min_eq_right (Nat.le_of_lt (Nat.lt_of_not_le h))
      rw [h1, h2]; rfl
  | negSucc j =>
    show frN (n - (j + 1)) k = k (if Int.negSucc j < 0 then (Int.negSucc j + (n : Int)).toNat else min (Int.negSucc j).toNat n)
    rw [frN_eq, if_pos (show Int.negSucc j < 0 from by omega)]
    congr 1; omega
theorem cutK_eq {β : Type} (lo hi : Option Int) (xs : List β) (k : List β → Res) : cutK lo hi xs k = k ((xs.drop (HT.sIx xs.length 0 lo)).take (HT.sIx xs.length xs.length hi - HT.sIx xs.length 0 lo)) := by
  unfold cutK
  rw [lenK0]
  have h2 : ∀ a : Nat, Option.rec (motive := fun _ => (Nat → Res) → Res) (fun k => k xs.length) (fun i k => sbK xs.length i k) hi (fun b => takeK (Nat.sub b a) (dropK a xs) k) = k ((xs.drop a).take (HT.sIx xs.length xs.length hi - a)) := by
    intro a
    cases hi with
    | none => show takeK (Nat.sub xs.length a) (dropK a xs) k = _; rw [takeK_eq, dropK_eq]; rfl
    | some i => show sbK xs.length i _ = _; rw [sbK_eq _ xs.length, takeK_eq, dropK_eq]; rfl
  cases lo with
  | none => exact h2 0
  | some i => show sbK xs.length i _ = _; rw [sbK_eq _ 0]; exact h2 _
def rSlAll (K : PySem.W.Frag) : V → Option Int → Option Int → Hp → VK → Prop := fun x lo hi H Q => rSlA K x lo hi H Q ∨ rSlL K x lo hi H Q ∨ rSlS x lo hi H Q
theorem slr_all {X : Cx} : SlR X (rSlAll X.K) := sl_tupA.or (sl_list.or sl_str)
theorem cut_len {α β : Type} {xs : List α} {ys : List β} (h : xs.length = ys.length) (lo hi : Option Int) : HT.sIx xs.length 0 lo = HT.sIx ys.length 0 lo ∧ HT.sIx xs.length xs.length hi = HT.sIx ys.length ys.length hi := by rw [h]; exact ⟨rfl, rfl⟩
theorem slt_all {K : PySem.W.Frag} {ρ s H} {t : T} {x : V} {lo hi : Option Int} {Q : VK} (rs : RelS ρ s H) (d : Den ρ H t x) (h : Post ρ s H (cutR lo hi t s) Q) : rSlAll K x lo hi H Q := by
  unfold cutR at h
  cases t with
  | tup ts =>
    rw [den_tup] at d
    obtain ⟨a, vs, rfl, ha, dl⟩ := d
    simp only [onT_tup, cutK_eq] at h
    have hl := dl.length
    rw [hl] at h
    refine .inl ⟨a, vs, rfl, .of ha, fun hw => ?_, fun hw p hp => h.newT rs ((dl.drop _).take _) hp⟩
    refine h.val rs ?_
    rw [den_tup]
    refine ⟨a, vs, rfl, ha, ?_⟩
    rw [hw.1, hw.2, List.drop_zero, Nat.sub_zero, ← hl, List.take_length]
    exact dl
  | ref n =>
    simp only [onT_ref] at h
    obtain ⟨ts, hn, h⟩ := h.getL
    obtain ⟨a, vs, rfl, _, ha, dl⟩ := rs.lst hn d
    simp only [cutK_eq] at h
    rw [dl.length] at h
    exact .inr (.inl ⟨a, vs, rfl, .of ha, fun p hp => h.newL rs ((dl.drop _).take _) hp⟩)
  | str cs =>
    rw [den_str] at d; subst d
    have h : Post ρ s H (lenK cs 0 fun n => Rk.ifB (szOk n) (cutK lo hi cs fun r => .v (.str r) s) .er) Q := h
    rw [lenK0] at h
    obtain ⟨hz, h⟩ := h.ifB
    rw [cutK_eq] at h
    have hz := Nat.le_of_ble_eq_true hz
    refine .inr (.inr ⟨_, rfl, by rw [sizeLine_eq]; simpa [Str.length] using hz, h.val rs ?_⟩)
    rw [den_str]
    simp [cutS, Str.length]
  | _ => exact h.elim
theorem pe_esl {X : Cx} {c : Cf} {A : Ev} {L U : Ov} {e : Expr} {lo hi : Option Expr} {p2 pos : Pos} (he : PE X e (rdE c A)) (hl : PO X lo (rdO c L)) (hu : PO X hi (rdO c U)) : PE X (.Subscript e (.Slice lo hi none p2) pos) (rdE c (eSl A L U)) := by
  refine (pe_slice slr_all he hl hu).mono fun σ H Q ⟨ρ, e, s, rs, re, h⟩ => ?_
  refine ⟨ρ, e, s, rs, re, (bnd_post rs h).mono fun x H1 ⟨ρ1, s1, t1, e1, r1, d1, p1⟩ => ?_⟩
  have bndO_gen : ∀ {ρ s H} {m : OR} {k : Option Int → Sto → Res} {Q : VK}, RelS ρ s H → Post ρ s H (bndO .er m k) Q → PostO ρ s H m fun o H' => ∃ ρ' s', Ext ρ s H ρ' s' H' ∧ RelS ρ' s' H' ∧ Post ρ' s' H' (k o s') Q := fun {ρ s H m k Q} r h => by
    cases m with
    | er => exact h
    | ok o s' => exact fun ρ' H' e rr => ⟨ρ', s', e, rr, Post.step r rr e h⟩
  refine ⟨ρ1, e, s1, r1, re.ext rs e1, (bndO_gen r1 p1).mono fun lo H2 ⟨ρ2, s2, e2, r2, p2⟩ => ?_⟩
  refine ⟨ρ2, e, s2, r2, (re.ext rs e1).ext r1 e2, (bndO_gen r2 p2).mono fun hi H3 ⟨ρ3, s3, e3, r3, p3⟩ => ?_⟩
  exact slt_all r3 ((d1.ext r1 e2).ext r2 e3) p3
end Rk
end
section
set_option linter.all false
set_option autoImplicit false
set_option maxRecDepth 100000
namespace Rk
open PySem PySem.Spec PyProof.Rows L2

/-! ### built-ins over a sequence -/
def SqA (H : Hp) (b : Bool) (a : Addr) (vs : List V) : Prop := H a = some (.lst vs) ∨ (b = true ∧ H a = some (.tup vs))
def SeqF (b : Bool) (f : List T → Sto → Res) (r : List V → Hp → VK → Prop) : Prop := ∀ (ρ : Nat → Option Addr) (s : Sto) (H : Hp) (ts : List T) (a : Addr) (vs : List V) (Q : VK), RelS ρ s H → SqA H b a vs → DenL ρ H ts vs → (H a = some (.tup vs) → Den ρ H (.tup ts) (.ref a)) → Post ρ s H (f ts s) Q → r [.ref a] H Q
theorem SqA.sq {K : PySem.W.Frag} {H : Hp} {b : Bool} {a : Addr} {vs : List V} (h : SqA H b a vs) : SqL K H a vs ∨ SqT K H a vs := by
  rcases h with h | ⟨_, h⟩
  · exact .inl (.of h)
  · exact .inr (.of h)
theorem SqA.sqL {K : PySem.W.Frag} {H : Hp} {a : Addr} {vs : List V} (h : SqA H false a vs) : SqL K H a vs := by
  rcases h with h | ⟨h, _⟩
  · exact .of h
  · exact nomatch h
theorem seq_rd {b : Bool} {f : List T → Sto → Res} {r : List V → Hp → VK → Prop} (hf : SeqF b f r) {c : Cf} {A : Ev} (σ : L2.St) (H : Hp) (Q : VK) (h : rdE c (eSq b f A) σ H Q) : tCB r (tCons (rdE c A) tNil) σ H Q := by
  obtain ⟨ρ, e, s, rs, re, h⟩ := h
  refine ⟨ρ, e, s, rs, re, ?_⟩
  have h : Post ρ s H (seqR b .er (A c e s) f) Q := h
  cases hm : A c e s with
  | er => rw [hm] at h; exact h
  | v t s' =>
    rw [hm] at h
    intro ρ' H' v ex rr d
    have h : Post ρ s H (seqT b t s' .er fun xs => f xs s') Q := h
    have h := h.step rs rr ex
    unfold seqT at h
    cases t with
    | tup ts =>
      obtain ⟨hb, h⟩ := h.ifB
      have d0 := d
      rw [den_tup] at d
      obtain ⟨a, vs, rfl, ha, dl⟩ := d
      exact hf ρ' s' H' ts a vs Q rr (.inr ⟨hb, ha⟩) dl (fun _ => d0) h
    | ref n =>
      obtain ⟨o, hn, h⟩ := Post.getO h
      cases o with
      | d _ _ => exact h.elim
      | l ts =>
        obtain ⟨a, vs, rfl, _, ha, dl⟩ := rr.lst hn d
        exact hf ρ' s' H' ts a vs Q rr (.inl ha) dl (fun e => by rw [ha] at e; cases e) h
    | _ => exact h.elim
  | nl ts s' =>
    rw [hm] at h
    intro ρ' H' a ex rr d
    have h : Post ρ s H (f ts s') Q := h
    have h := h.step rs rr ex
    obtain ⟨_, _, vs, ha, dl⟩ := d
    exact hf ρ' s' H' ts a vs Q rr (.inl ha) dl (fun e => by rw [ha] at e; cases e) h
section
variable {X : Cx} {c : Cf} {A B : Ev} {x : Str} {a b : Expr} {p pos : Pos} {id Ty : String} {r : List V → Hp → VK → Prop}
theorem star1 {a : Expr} {env : Env} (h : noStar a = true) : starEach [a] env = (false, eval a env) :: starEach [] env := star_one h
theorem pa1 {ta : TE} (ha : PE X a ta) (hs : noStar a = true) : PA X [a] (tCons ta tNil) := pa_cons ha pa_nil (star_one hs)
theorem pa2 {ta tb : TE} (ha : PE X a ta) (hb : PE X b tb) (hs : noStar a = true) (hs2 : noStar b = true) : PA X [a, b] (tCons ta (tCons tb tNil)) := pa_cons ha (pa1 hb hs2) (star_one hs)
theorem pe_seqB {bb : Bool} {f : List Rk.T → Sto → Res} (hc : CallR X (.builtin id) r) (hf : SeqF bb f r) (hg : Gl X x) (hm : X.mg x = none) (hv : bootBuiltins x = some (.builtin id)) (ha : PE X a (rdE c A)) (hs : noStar a = true) (hn : x ≠ "__name__") (hdb : (x == ("__debug__" : Str)) = false) :
    PE X (.Call (.Name x p) [a] [] pos) (rdE c (eSq bb f A)) := (pe_callB hc hg hm hv (pa1 ha hs) hn hdb (star1 hs) rfl).mono (seq_rd hf)
theorem pe_seqT {bb : Bool} {f : List Rk.T → Sto → Res} (hc : CallR X (.type Ty) r) (hf : SeqF bb f r) (hg : Gl X x) (hm : X.mg x = none) (hv : bootBuiltins x = some (.type Ty)) (ha : PE X a (rdE c A)) (hs : noStar a = true) (hn : x ≠ "__name__") (hdb : (x == ("__debug__" : Str)) = false) :
    PE X (.Call (.Name x p) [a] [] pos) (rdE c (eSq bb f A)) := (pe_callTy hc hg hm hv (pa1 ha hs) hn hdb (star1 hs) rfl).mono (seq_rd hf)
end
section
variable {X : Cx}
theorem sf_tuple : SeqF true bTuple (fun xs H Q => ∃ p ys, xs = [.ref p] ∧ ((SqL X.K H p ys ∧ ∀ l, H l = none → Q (.ref l) (upd H l (.tup ys))) ∨ (SqT X.K H p ys ∧ Q (.ref p) H))) := by
  intro ρ s H ts a vs Q rs hq dl hd h
  refine ⟨a, vs, rfl, ?_⟩
  rcases hq with ha | ⟨_, ha⟩
  · exact .inl ⟨.of ha, fun l hl => Post.newT h rs dl hl⟩
  · exact .inr ⟨.of ha, Post.val h rs (hd ha)⟩
theorem sf_list : SeqF true bList (fun xs H Q => ∃ p ys, xs = [.ref p] ∧ (SqL X.K H p ys ∨ SqT X.K H p ys) ∧ ∀ l, H l = none → Q (.ref l) (upd H l (.lst ys))) := by
  intro ρ s H ts a vs Q rs hq dl hd h
  exact ⟨a, vs, rfl, hq.sq, fun l hl => Post.newL h rs dl hl⟩
theorem sumK_ok {ts : List T} : ∀ {a : Int} {k : Int → Res} {ρ s H Q}, Post ρ s H (sumK ts a k) Q → ∃ ns : List Int, ts = ns.map T.int ∧ Post ρ s H (k (a + ns.sum)) Q := by
  induction ts with
  | nil =>
    intro a k ρ s H Q h
    have h : Post ρ s H (k a) Q := h
    exact ⟨[], rfl, by simpa using h⟩
  | cons t ts ih =>
    intro a k ρ s H Q h
    cases t with
    | int i =>
      have h : Post ρ s H (frI (iAdd a i) fun a => sumK ts a k) Q := h
      rw [frI_eq, iAdd_eq] at h
      obtain ⟨ns, e, h⟩ := ih h
      exact ⟨i :: ns, by rw [e]; rfl, by rw [List.sum_cons, ← Int.add_assoc]; exact h⟩
    | _ => exact h.elim
theorem denL_ints {ρ H} : ∀ {ns : List Int} {vs : List V}, DenL ρ H (ns.map T.int) vs → vs = ns.map V.int
  | [], vs, d => by rw [List.map_nil, denL_nil] at d; exact d
  | n :: ns, vs, d => by
    rw [List.map_cons, denL_cons] at d
    obtain ⟨v, r, rfl, d1, d2⟩ := d
    rw [den_int] at d1
    rw [d1, denL_ints d2]; rfl
theorem denL_of_ints {ρ H} : ∀ {ns : List Int}, DenL ρ H (ns.map T.int) (ns.map V.int)
  | [] => by simp
  | n :: ns => by rw [List.map_cons, List.map_cons, denL_cons2]; exact ⟨by simp, denL_of_ints⟩
def rSumT (K : PySem.W.Frag) : List V → Hp → VK → Prop := fun vs H Q => ∃ (a : Addr) (ns : List Int), vs = [V.ref a] ∧ SqT K H a (ns.map V.int) ∧ Q (.int ns.sum) H
theorem cr_sumT (hc : X.calm = true) : CallR X (.builtin "sum") (rSumT X.K) := by
  intro pins s σ H vs us Q I r h
  obtain ⟨a, ns, rfl, hs, q⟩ := h
  obtain ⟨its, rv, hl, _⟩ := I.tuple hs
  rw [Vals.ref1 r]
  have hi : IntsAre its ns := rv.ints
  obtain ⟨xs, hx⟩ := hi.allInts.items
  have hn : numsOf its = ns := hi.numsOf
  have hl : s.heap.IsTuple a its.toArray := hl
  rw [hx] at hl
  refine PySem.W.ktm_sumG (I.ok.hd hc) hl fun h' tk t' hk => ⟨.int ns.sum, H, I.kept hk, ?_, q⟩
  have e : preSum (numAt xs) xs.size = ns.sum := by
    rw [preSum_eq, List.take_of_length_le (by simp), ← nums_intItems, ← hx, ← hn]
  rw [e]
  exact ⟨_, rfl⟩
def rSumA (K : PySem.W.Frag) : List V → Hp → VK → Prop := fun vs H Q => rSum K vs H Q ∨ rSumT K vs H Q
theorem cr_sumA (hc : X.calm = true) : CallR X (.builtin "sum") (rSumA X.K) := (cr_sum hc).or (cr_sumT hc)
theorem sf_sum : SeqF true bSum (rSumA X.K) := by
  intro ρ s H ts a vs Q rs hq dl hd h
  unfold bSum at h
  obtain ⟨ns, et, h2⟩ := sumK_ok h
  clear h
  subst et
  have h := h2
  have e := denL_ints dl
  subst e
  rcases hq with hq | ⟨_, hq⟩
  · exact .inl ⟨a, ns, rfl, .of hq, Post.val h rs (by simp)⟩
  · exact .inr ⟨a, ns, rfl, .of hq, Post.val h rs (by simp)⟩
/-! any, all of True, False and ints -/
def TrB : V → Bool → Prop
  | .bl b, c => b = c
  | .int i, c => (i != 0) = c
  | _, _ => False
theorem truth_mixed {prog : Program} {w : World} {A : Around} {xs : List V} {bs : List Bool} {its : List Value} (p : Paired TrB xs bs) (r : Vals xs its) :
    TruthOf prog w A (fun i v => its.toArray[i]? = some v) (fun i => bs.getD i false) := fun i v s Q E hv hq => by
  have hv : its[i]? = some v := by simpa using hv
  have key : ∀ {xs : List V} {bs : List Bool} {its : List Value} {i : Nat}, Paired TrB xs bs → Vals xs its → its[i]? = some v → ∃ x, TrB x (bs.getD i false) ∧ RelV x v := by
    intro xs bs its i p r h
    induction p generalizing its i with
    | nil => cases r; cases h
    | cons h1 _ ih =>
      cases r with
      | cons r1 r2 =>
        cases i with
        | zero => cases h; exact ⟨_, h1, r1⟩
        | succ i => exact ih r2 h
  obtain ⟨x, h1, h2⟩ := key p r hv
  have hq : Q (bs.getD i false) s := hq
  generalize bs.getD i false = b at h1 hq
  cases x with
  | bl c =>
    have h2 : v = .bool c := h2
    subst h2
    cases (show c = b from h1)
    exact wpAny_truthy_bool hq
  | int j =>
    obtain ⟨t, rfl⟩ := h2
    cases (show (j != 0) = b from h1)
    exact PySem.P.truthy_int hq
  | _ => exact h1.elim
def rAnyM (K : PySem.W.Frag) : List V → Hp → VK → Prop := fun vs H Q => ∃ (a : Addr) (xs : List V) (bs : List Bool), vs = [V.ref a] ∧ SqL K H a xs ∧ Paired TrB xs bs ∧ Q (.bl (bs.any id)) H
def rAllM (K : PySem.W.Frag) : List V → Hp → VK → Prop := fun vs H Q => ∃ (a : Addr) (xs : List V) (bs : List Bool), vs = [V.ref a] ∧ SqL K H a xs ∧ Paired TrB xs bs ∧ Q (.bl (bs.all id)) H
theorem cr_anyM (hc : X.calm = true) : CallR X (.builtin "any") (rAnyM X.K) := by
  intro pins s σ H vs us Q I r h
  obtain ⟨a, xs, bs, rfl, hs, hp, q⟩ := h
  obtain ⟨its, rv, hl, _⟩ := I.list hs
  rw [Vals.ref1 r]
  refine call_any_walk (iter_any hl.isList fun s₂ e2 st hne => ?_)
  subst e2
  refine ⟨_, _, _, _, _, _, _, rfl, Walks.list (A := X.A.in1) (I.ok.hd hc) _ a hne its.toArray, st, truth_mixed hp rv, fun h' tk hk => ?_⟩
  refine ⟨.bl _, H, I.kept fun b o eo => hk b o (fun hmem => ?_) (Heap.get?_push_of_some _ eo), ?_, q⟩
  · rcases List.mem_cons.mp hmem with e1 | hmem
    · exact absurd (e1 ▸ Heap.lt_size eo) (Nat.lt_irrefl _)
    · cases hmem
  · show Value.bool _ = Value.bool _
    have e : its.toArray.size = bs.length := by rw [List.size_toArray, ← rv.length, hp.length]
    rw [← L2.any_range, e]
theorem cr_allM (hc : X.calm = true) : CallR X (.builtin "all") (rAllM X.K) := by
  intro pins s σ H vs us Q I r h
  obtain ⟨a, xs, bs, rfl, hs, hp, q⟩ := h
  obtain ⟨its, rv, hl, _⟩ := I.list hs
  rw [Vals.ref1 r]
  refine call_all_walk (iter_any hl.isList fun s₂ e2 st hne => ?_)
  subst e2
  refine ⟨_, _, _, _, _, _, _, rfl, Walks.list (A := X.A.in1) (I.ok.hd hc) _ a hne its.toArray, st, truth_mixed hp rv, fun h' tk hk => ?_⟩
  refine ⟨.bl _, H, I.kept fun b o eo => hk b o (fun hmem => ?_) (Heap.get?_push_of_some _ eo), ?_, q⟩
  · rcases List.mem_cons.mp hmem with e1 | hmem
    · exact absurd (e1 ▸ Heap.lt_size eo) (Nat.lt_irrefl _)
    · cases hmem
  · show Value.bool _ = Value.bool _
    have e : its.toArray.size = bs.length := by rw [List.size_toArray, ← rv.length, hp.length]
    rw [← L2.all_range, e]
def TrT : T → Bool → Prop
  | .bl b, c => b = c
  | .int i, c => (i != 0) = c
  | _, _ => False
theorem trT_den {ρ H} : ∀ {ts : List T} {bs : List Bool} {vs : List V}, Paired TrT ts bs → DenL ρ H ts vs → Paired TrB vs bs
  | _, _, vs, .nil, d => by rw [denL_nil] at d; subst d; exact .nil
  | t :: ts, b :: bs, vs, .cons h1 h2, d => by
    rw [denL_cons] at d
    obtain ⟨v, r, rfl, d1, d2⟩ := d
    refine .cons ?_ (trT_den h2 d2)
    cases t with
    | bl c => rw [den_bl] at d1; subst d1; exact h1
    | int c => rw [den_int] at d1; subst d1; exact h1
    | _ => exact h1.elim
theorem bitK_ok {t : T} {k : Bool → Res} {ρ s H Q} (h : Post ρ s H (bitK t k) Q) : ∃ b, TrT t b ∧ Post ρ s H (k b) Q := by
  cases t with
  | bl b => exact ⟨b, rfl, h⟩
  | int i =>
    refine ⟨i != 0, rfl, ?_⟩
    have h : Post ρ s H (k (Rk.ifB (iEq i (.ofNat 0)) false true)) Q := h
    rw [iEq_eq] at h
    have e : Rk.ifB (decide (i = Int.ofNat 0)) false true = (i != 0) := by
      by_cases z : i = 0
      · subst z; rfl
      · rw [bne_iff_ne.mpr z, decide_eq_false (show ¬ i = Int.ofNat 0 from z)]; rfl
    rw [e] at h
    exact h
  | _ => exact h.elim
theorem allK_ok : ∀ {ts : List T} {k : Bool → Res} {ρ s H Q}, Post ρ s H (allK ts k) Q → ∃ bs : List Bool, Paired TrT ts bs ∧ Post ρ s H (k (bs.all id)) Q
  | [], k, ρ, s, H, Q, h => ⟨[], .nil, h⟩
  | t :: ts, k, ρ, s, H, Q, h => by
    obtain ⟨b, h1, h⟩ := bitK_ok (show Post ρ s H (bitK t fun b => allK ts fun q => k (Rk.ifB b q false)) Q from h)
    obtain ⟨bs, e, h⟩ := allK_ok h
    refine ⟨b :: bs, .cons h1 e, ?_⟩
    cases b <;> exact h
theorem anyK_ok : ∀ {ts : List T} {k : Bool → Res} {ρ s H Q}, Post ρ s H (anyK ts k) Q → ∃ bs : List Bool, Paired TrT ts bs ∧ Post ρ s H (k (bs.any id)) Q
  | [], k, ρ, s, H, Q, h => ⟨[], .nil, h⟩
  | t :: ts, k, ρ, s, H, Q, h => by
    obtain ⟨b, h1, h⟩ := bitK_ok (show Post ρ s H (bitK t fun b => anyK ts fun q => k (Rk.ifB b true q)) Q from h)
    obtain ⟨bs, e, h⟩ := anyK_ok h
    refine ⟨b :: bs, .cons h1 e, ?_⟩
    cases b <;> exact h
theorem sf_all : SeqF false bAll (rAllM X.K) := by
  intro ρ s H ts a vs Q rs hq dl hd h
  unfold bAll at h
  obtain ⟨bs, hp, h⟩ := allK_ok h
  exact ⟨a, vs, bs, rfl, hq.sqL, trT_den hp dl, Post.val h rs (by simp)⟩
theorem sf_any : SeqF false bAny (rAnyM X.K) := by
  intro ρ s H ts a vs Q rs hq dl hd h
  unfold bAny at h
  obtain ⟨bs, hp, h⟩ := anyK_ok h
  exact ⟨a, vs, bs, rfl, hq.sqL, trT_den hp dl, Post.val h rs (by simp)⟩
theorem denL_bls {ρ H} : ∀ {ns : List Bool} {vs : List V}, DenL ρ H (ns.map T.bl) vs → vs = ns.map V.bl
  | [], vs, d => by rw [List.map_nil, denL_nil] at d; exact d
  | n :: ns, vs, d => by
    rw [List.map_cons, denL_cons] at d
    obtain ⟨v, r, rfl, d1, d2⟩ := d
    rw [den_bl] at d1
    rw [d1, denL_bls d2]; rfl
theorem len_rd {c : Cf} {A : Ev} (σ : L2.St) (H : Hp) (Q : VK) (h : rdE c (eLen A) σ H Q) : tCB (fun xs H Q => ∃ x n, xs = [x] ∧ LenV X.K x H n ∧ Q (.int (n : Nat)) H) (tCons (rdE c A) tNil) σ H Q := by
  obtain ⟨ρ, e, s, rs, re, h⟩ := h
  refine ⟨ρ, e, s, rs, re, ?_⟩
  unfold eLen at h
  cases hm : A c e s with
  | er => rw [hm] at h; exact h
  | v t s' =>
    rw [hm] at h
    intro ρ' H' v ex rr d
    have h := h.step rs rr ex
    cases t with
    | str cs =>
      rw [den_str] at d; subst d
      simp only [onT_str, lenK_eq, Nat.zero_add] at h
      obtain ⟨hz, h⟩ := h.ifB
      exact ⟨_, cs.length, rfl, ⟨by rw [str_len]; exact szOk_iff hz, by rw [str_len]⟩, h.val rr (by simp)⟩
    | tup ts =>
      rw [den_tup] at d
      obtain ⟨a, vs, rfl, ha, dl⟩ := d
      simp only [onT_tup, lenK_eq, Nat.zero_add] at h
      exact ⟨_, ts.length, rfl, .inr ⟨vs, .of ha, dl.length⟩, h.val rr (by simp)⟩
    | ref n =>
      simp only [onT_ref] at h
      obtain ⟨ts, hn, h⟩ := h.getL
      obtain ⟨a, vs, rfl, _, ha, dl⟩ := rr.lst hn d
      simp only [lenK_eq, Nat.zero_add] at h
      exact ⟨_, ts.length, rfl, .inl ⟨vs, .of ha, dl.length⟩, h.val rr (by simp)⟩
    | _ => exact h.elim
  | nl ts s' =>
    rw [hm] at h
    intro ρ' H' a ex rr d
    have h : Post ρ s H (lenK ts 0 fun n => .v (.int (.ofNat n)) s') Q := h
    have h := h.step rs rr ex
    obtain ⟨_, _, vs, ha, dl⟩ := d
    simp only [lenK_eq, Nat.zero_add] at h
    exact ⟨_, ts.length, rfl, .inl ⟨vs, .of ha, dl.length⟩, h.val rr (by simp)⟩
/-! ### one value, two values -/
theorem one_call {c : Cf} {A : Ev} {k : T → Sto → Res} {r : List V → Hp → VK → Prop} (hk : ∀ (ρ : Nat → Option Addr) (s : Sto) (H : Hp) (t : T) (x : V) (Q : VK), RelS ρ s H → Den ρ H t x → Post ρ s H (k t s) Q → r [x] H Q)
    (σ : L2.St) (H : Hp) (Q : VK) (h : rdE c (eOne k A) σ H Q) : tCB r (tCons (rdE c A) tNil) σ H Q := one_rd (r := fun x H Q => r [x] H Q) hk σ H Q h
theorem two_call {c : Cf} {A B : Ev} {k : T → T → Sto → Res} {r : List V → Hp → VK → Prop} (hk : OpT k (fun x y H Q => r [x, y] H Q)) (σ : L2.St) (H : Hp) (Q : VK) (h : rdE c (eBin k A B) σ H Q) : tCB r (tCons (rdE c A) (tCons (rdE c B) tNil)) σ H Q := bin_rd hk σ H Q h
theorem k_abs (ρ : Nat → Option Addr) (s : Sto) (H : Hp) (t : T) (x : V) (Q : VK) (rs : RelS ρ s H) (d : Den ρ H t x) (h : Post ρ s H (vAbs t s) Q) : ∃ i, [x] = [.int i] ∧ Q (.int (if i < 0 then -i else i)) H := by
  unfold vAbs at h
  cases t with
  | int i =>
    rw [den_int] at d; subst d
    refine ⟨i, rfl, ?_⟩
    cases i with
    | ofNat n =>
      rw [if_neg (by simp only [Int.ofNat_eq_natCast]; omega)]
      exact Post.val h rs (by simp)
    | negSucc n =>
      rw [if_pos (by omega)]
      exact Post.val h rs (by rw [den_int]; congr 1)
  | _ => exact h.elim
theorem k_int (ρ : Nat → Option Addr) (s : Sto) (H : Hp) (t : T) (x : V) (Q : VK) (rs : RelS ρ s H) (d : Den ρ H t x) (h : Post ρ s H (vInt t s) Q) : (∃ i, [x] = [.int i] ∧ Q (.int i) H) ∨ ∃ k, [x] = [.bl k] ∧ Q (.int (if k then 1 else 0)) H := by
  unfold vInt at h
  cases t with
  | int i => rw [den_int] at d; subst d; exact .inl ⟨i, rfl, h.val rs (by simp)⟩
  | bl b =>
    rw [den_bl] at d; subst d
    refine .inr ⟨b, rfl, ?_⟩
    cases b <;> exact Post.val h rs (by simp)
  | _ => exact h.elim
theorem k_max : OpT (vExt2 true) (fun x y H Q => ∃ i j, [x, y] = [.int i, .int j] ∧ Q (.int (if j > i then j else i)) H) := by
  intro ρ s H t u x y Q rs d1 d2 h
  unfold vExt2 at h
  cases t with
  | int i =>
    cases u with
    | int j =>
      rw [den_int] at d1 d2; subst d1 d2
      simp only [onInt_int, iLt_eq] at h
      refine ⟨i, j, rfl, ?_⟩
      by_cases hb : i < j
      · rw [decide_eq_true hb] at h
        rw [if_pos hb]; exact Post.val h rs (by simp)
      · rw [decide_eq_false hb] at h
        rw [if_neg hb]; exact Post.val h rs (by simp)
    | _ => exact h.elim
  | _ => exact h.elim
theorem k_min : OpT (vExt2 false) (fun x y H Q => ∃ i j, [x, y] = [.int i, .int j] ∧ Q (.int (if j < i then j else i)) H) := by
  intro ρ s H t u x y Q rs d1 d2 h
  unfold vExt2 at h
  cases t with
  | int i =>
    cases u with
    | int j =>
      rw [den_int] at d1 d2; subst d1 d2
      simp only [onInt_int, iLt_eq] at h
      refine ⟨i, j, rfl, ?_⟩
      by_cases hb : j < i
      · rw [decide_eq_true hb] at h
        rw [if_pos hb]; exact Post.val h rs (by simp)
      · rw [decide_eq_false hb] at h
        rw [if_neg hb]; exact Post.val h rs (by simp)
    | _ => exact h.elim
  | _ => exact h.elim
theorem k_gcd : OpT vGcd (fun x y H Q => rGcd [x, y] H Q) := by
  intro ρ s H t u x y Q rs d1 d2 h
  unfold vGcd at h
  cases t with
  | int i =>
    cases u with
    | int j =>
      rw [den_int] at d1 d2; subst d1 d2
      simp only [onInt_int, frN_eq] at h
      exact ⟨i, j, rfl, Post.val h rs (by simp)⟩
    | _ => exact h.elim
  | _ => exact h.elim
end
/-! ### isinstance -/
def tyN : Nat → String
  | 0 => "int" | 1 => "bool" | 2 => "str" | 3 => "tuple" | _ => "list"
theorem kit_non (n : Nat) : kitB "NoneType" (tyN n) = some false := by
  rcases n with _ | _ | _ | _ | n
  · decide +kernel
  · decide +kernel
  · decide +kernel
  · decide +kernel
  · show kitB "NoneType" "list" = some false
    decide +kernel
theorem kit_bl (n : Nat) (h : n < 5) : kitB "bool" (tyN n) = some (Nat.ble n 1) := by
  rcases n with _ | _ | _ | _ | _ | n <;> first | decide +kernel | omega
theorem kit_int (n : Nat) (h : n < 5) : kitB "int" (tyN n) = some (Nat.beq n 0) := by
  rcases n with _ | _ | _ | _ | _ | n <;> first | decide +kernel | omega
theorem kit_str (n : Nat) (h : n < 5) : kitB "str" (tyN n) = some (Nat.beq n 2) := by
  rcases n with _ | _ | _ | _ | _ | n <;> first | decide +kernel | omega
theorem kit_tup (n : Nat) (h : n < 5) : kitB "tuple" (tyN n) = some (Nat.beq n 3) := by
  rcases n with _ | _ | _ | _ | _ | n <;> first | decide +kernel | omega
theorem kit_lst (n : Nat) (h : n < 5) : kitB "list" (tyN n) = some (Nat.beq n 4) := by
  rcases n with _ | _ | _ | _ | _ | n <;> first | decide +kernel | omega
theorem kitAny_of {K : PySem.W.Frag} {a : String} {f : Nat → Bool} (h : ∀ n < 5, kitB a (tyN n) = some (f n)) : ∀ {ts : List Nat}, (∀ n ∈ ts, n < 5) → PySem.W.kitAny K (.type a) (ts.map fun n => Value.type (tyN n)) = some (isB f ts)
  | [], _ => rfl
  | t :: ts, ht => by
    have h1 := h t (ht t List.mem_cons_self)
    have h2 := kitAny_of (K := K) h fun n hn => ht n (List.mem_cons_of_mem _ hn)
    refine kitAny_cons (kit_ty h1) (fun e => ?_) (fun e => ?_)
    · rw [h2]
      show _ = some (Rk.ifB (f t) true (isB f ts))
      rw [e]; rfl
    · show Rk.ifB (f t) true (isB f ts) = true
      rw [e]; rfl
/-- a value's kind -/
theorem kind_ok {X : Cx} {ρ s H} {t : T} {x : V} {ts : List Nat} {Q : Bool → Hp → Prop} (rs : RelS ρ s H) (d : Den ρ H t x)
    (h : PostT ρ s H (onT t (.ok false s) (fun _ => .ok (isB (fun n => Nat.ble n 1) ts) s) (fun _ => .ok (isB (fun n => Nat.beq n 0) ts) s) (fun _ => .ok (isB (fun n => Nat.beq n 2) ts) s) (fun _ => .ok (isB (fun n => Nat.beq n 3) ts) s)
      (fun n => getO .er s n fun o => onOb o (fun _ => .ok (isB (fun n => Nat.beq n 4) ts) s) fun _ _ => .er)) Q) :
    ∃ (a : String) (f : Nat → Bool), TyOf X.K H x (.type a) ∧ (∀ n < 5, kitB a (tyN n) = some (f n)) ∧ Q (isB f ts) H := by
  cases t with
  | non =>
    rw [den_non] at d; subst d
    refine ⟨"NoneType", fun _ => false, .non, fun n _ => kit_non n, ?_⟩
    have e : isB (fun _ => false) ts = false := by induction ts with
      | nil => rfl
      | cons t ts ih => exact ih h
    rw [e]; exact PostT.val h rs
  | bl b => rw [den_bl] at d; subst d; exact ⟨"bool", _, .bl b, kit_bl, PostT.val h rs⟩
  | int b => rw [den_int] at d; subst d; exact ⟨"int", _, .int b, kit_int, PostT.val h rs⟩
  | str b => rw [den_str] at d; subst d; exact ⟨"str", _, .str _, kit_str, PostT.val h rs⟩
  | tup b => rw [den_tup] at d; obtain ⟨a, vs, rfl, ha, _⟩ := d; exact ⟨"tuple", _, .tup ha, kit_tup, PostT.val h rs⟩
  | ref n =>
    simp only [onT_ref] at h
    rw [getO_eq] at h
    cases e : s.find n with
    | none => rw [e] at h; exact h.elim
    | some o =>
      rw [e] at h
      cases o with
      | d _ _ => exact h.elim
      | l xs =>
        obtain ⟨a, vs, rfl, _, ha, dl⟩ := rs.lst e d
        exact ⟨"list", _, .lst ha, kit_lst, PostT.val h rs⟩
theorem isin1_rd {X : Cx} {c : Cf} {A : Ev} {n : Nat} (hn : n < 5) (σ : L2.St) (H : Hp) (Q : VK) (h : rdT c (tIsin A [n]) σ H fun b H' => Q (.bl b) H') : tCB (rIsi X.K) (tCons (rdE c A) (tCons (tC (.ty (tyN n))) tNil)) σ H Q := by
  obtain ⟨ρ, e, s, rs, re, h⟩ := h
  refine ⟨ρ, e, s, rs, re, (bnd_T rs h).mono fun x H1 ⟨ρ1, s1, t1, e1, r1, d1, p1⟩ => ?_⟩
  obtain ⟨a, f, ty, hk, q⟩ := kind_ok (X := X) r1 d1 p1
  refine ⟨x, .ty (tyN n), .type a, .type (tyN n), f n, rfl, .ty _, .base ty, kit_ty (hk n hn), ?_⟩
  have e : isB f [n] = f n := by
    show Rk.ifB (f n) true false = f n
    cases f n <;> rfl
  rw [e] at q; exact q
theorem isinT_rd {X : Cx} {c : Cf} {A : Ev} {ts : List Nat} (hts : ∀ n ∈ ts, n < 5) {ta : TA} (hta : ∀ σ H (Q : List V → Hp → Prop), Q (ts.map fun n => V.ty (tyN n)) H → ta σ H Q) (hl : ts.length ≤ 5) (σ : L2.St) (H : Hp) (Q : VK)
    (h : rdT c (tIsin A ts) σ H fun b H' => ∀ p, H' p = none → Q (.bl b) (upd H' p (.tup (ts.map fun n => V.ty (tyN n))))) : tCB (rIsiT X.K) (tCons (rdE c A) (tCons (tTup ta) tNil)) σ H Q := by
  obtain ⟨ρ, e, s, rs, re, h⟩ := h
  refine ⟨ρ, e, s, rs, re, (bnd_T rs h).mono fun x H1 ⟨ρ1, s1, t1, e1, r1, d1, p1⟩ => ?_⟩
  obtain ⟨a, f, ty, hk, q⟩ := kind_ok (X := X) r1 d1 p1
  refine hta σ H1 _ ⟨by rw [List.length_map, sizeLine_eq]; omega, fun p hp => ?_⟩
  have cl : Paired ClsV (ts.map fun n => V.ty (tyN n)) (ts.map fun n => Value.type (tyN n)) := by
    have key : ∀ ts : List Nat, Paired ClsV (ts.map fun n => V.ty (tyN n)) (ts.map fun n => Value.type (tyN n)) := fun ts => by
      induction ts with
      | nil => exact .nil
      | cons t ts ih => exact .cons (.ty _) ih
    exact key ts
  have ty2 : TyOf X.K (upd H1 p (.tup (ts.map fun n => V.ty (tyN n)))) x (.type a) := by
    cases ty with
    | non => exact .non
    | bl y => exact .bl y
    | int y => exact .int y
    | str y => exact .str y
    | flt y => exact .flt y
    | lst ea => exact .lst (by rw [upd_ne (ne_of_none ea hp)]; exact ea)
    | frz ea => exact .frz (by rw [upd_ne (ne_of_none ea hp)]; exact ea)
    | tup ea => exact .tup (by rw [upd_ne (ne_of_none ea hp)]; exact ea)
    | dK ea => exact .dK (by rw [upd_ne (ne_of_none ea hp)]; exact ea)
    | dT ea => exact .dT (by rw [upd_ne (ne_of_none ea hp)]; exact ea)
  exact ⟨x, p, _, .type a, _, _, rfl, upd_same, cl, .base ty2, kitAny_of hk hts, q p hp⟩
end Rk
end
section
set_option linter.all false
set_option autoImplicit false
set_option maxRecDepth 100000
namespace Rk
open PySem PySem.Spec PyProof.Rows L2
/-! ### plain data: what the core's tests say -/
mutual
def pd : T → PyData
  | .int i => .int i
  | .str s => .str ⟨s.toArray⟩
  | .tup ts => .tuple (pds ts)
  | _ => .none
def pds : List T → List PyData
  | [] => []
  | t :: ts => pd t :: pds ts
end
theorem pds_map : ∀ ts : List T, pds ts = ts.map pd
  | [] => by simp [pds]
  | t :: ts => by rw [pds, pds_map ts]; rfl
/-- no None, no truth value, no list within -/
inductive Pl : T → Prop where
  | int (i : Int) : Pl (.int i)
  | str (s : List Nat) : Pl (.str s)
  | tup {ts : List T} : (∀ t ∈ ts, Pl t) → Pl (.tup ts)
theorem pl_inv {ts : List T} (h : Pl (.tup ts)) : ∀ t ∈ ts, Pl t := by cases h; assumption
theorem natsLt_eq : ∀ a b : List Nat, natsLt a b = decide (a < b)
  | [], [] => by rfl
  | [], y :: b => by
    have : ([] : List Nat) < y :: b := List.nil_lt_cons y b
    rw [decide_eq_true this]; rfl
  | x :: a, [] => by
    have : ¬ (x :: a < ([] : List Nat)) := List.not_lt_nil _
    rw [decide_eq_false this]; rfl
  | x :: a, y :: b => by
    show ifB (Nat.beq x y) (natsLt a b) (Nat.blt x y) = _
    rw [natsLt_eq a b, nbeq]
    by_cases h : x = y
    · subst h
      rw [decide_eq_true rfl]
      show decide (a < b) = _
      rw [decide_eq_decide, List.cons_lt_cons_iff]
      simp
    · rw [decide_eq_false h]
      show Nat.blt x y = _
      rw [Bool.eq_iff_iff, Nat.blt_eq, decide_eq_true_eq, List.cons_lt_cons_iff]
      simp [h]
theorem tal_both : (∀ a b, tal a b = true → PySem.W.alike (pd a) (pd b) = true) ∧ ∀ as bs, tal (.tup as) (.tup bs) = true → PySem.W.alikeAll (pds as) (pds bs) = true := by
  refine T.both (P := fun a => ∀ b, tal a b = true → PySem.W.alike (pd a) (pd b) = true) (PL := fun as => ∀ bs, tal (.tup as) (.tup bs) = true → PySem.W.alikeAll (pds as) (pds bs) = true) ?_ ?_ ?_ ?_ ?_ ?_ ?_ ?_
  · intro b h; exact nomatch h
  · intro x b h; exact nomatch h
  · intro i b h
    cases b with
    | int j => simp [pd, PySem.W.alike]
    | _ => exact nomatch h
  · intro i b h
    cases b with
    | str j => simp [pd, PySem.W.alike]
    | _ => exact nomatch h
  · intro ts ih b h
    cases b with
    | tup us => simp only [pd, PySem.W.alike]; exact ih us h
    | _ => exact nomatch h
  · intro n b h; exact nomatch h
  · intro bs h; simp [pds, PySem.W.alikeAll]
  · intro t ts h1 h2 bs h
    cases bs with
    | nil => simp [pds, PySem.W.alikeAll]
    | cons b bs =>
      have h : ifB (tal t b) (tal (.tup ts) (.tup bs)) false = true := h
      cases hb : tal t b with
      | false => rw [hb] at h; exact nomatch h
      | true =>
        rw [hb] at h
        simp only [pds, PySem.W.alikeAll, Bool.and_eq_true]
        exact ⟨h1 b hb, h2 bs h⟩
theorem teq_both : (∀ a, Pl a → ∀ b, Pl b → PySem.W.alike (pd a) (pd b) = true → teq a b = PyData.eqv (pd a) (pd b)) ∧
    ∀ as, (∀ t ∈ as, Pl t) → ∀ bs, (∀ t ∈ bs, Pl t) → PySem.W.alikeAll (pds as) (pds bs) = true → teq (.tup as) (.tup bs) = PyData.eqvAll (pds as) (pds bs) := by
  refine T.both (P := fun a => Pl a → ∀ b, Pl b → PySem.W.alike (pd a) (pd b) = true → teq a b = PyData.eqv (pd a) (pd b))
    (PL := fun as => (∀ t ∈ as, Pl t) → ∀ bs, (∀ t ∈ bs, Pl t) → PySem.W.alikeAll (pds as) (pds bs) = true → teq (.tup as) (.tup bs) = PyData.eqvAll (pds as) (pds bs)) ?_ ?_ ?_ ?_ ?_ ?_ ?_ ?_
  · intro p; cases p
  · intro x p; cases p
  · intro i _ b p h
    cases p with
    | int j => simp only [pd, PyData.eqv]; exact (iEq_eq i j).trans (int_beq i j).symm
    | _ => simp [pd, PySem.W.alike] at h
  · intro x _ b p h
    cases p with
    | str y => simp only [pd, PyData.eqv]; exact (natsEq_eq x y).trans (str_beq x y).symm
    | _ => simp [pd, PySem.W.alike] at h
  · intro ts ih pa b p h
    cases p with
    | tup pb =>
      simp only [pd, PySem.W.alike] at h
      simp only [pd, PyData.eqv]
      exact ih (pl_inv pa) _ pb h
    | _ => simp [pd, PySem.W.alike] at h
  · intro n p; cases p
  · intro _ bs _ _; cases bs <;> simp only [pds, PyData.eqvAll] <;> rfl
  · intro t ts h1 h2 pa bs pb h
    cases bs with
    | nil => simp only [pds, PyData.eqvAll]; rfl
    | cons b bs =>
      simp only [pds, PySem.W.alikeAll, Bool.and_eq_true] at h
      simp only [pds, PyData.eqvAll]
      rw [← h1 (pa t List.mem_cons_self) b (pb b List.mem_cons_self) h.1, ← h2 (fun t ht => pa t (List.mem_cons_of_mem _ ht)) bs (fun t ht => pb t (List.mem_cons_of_mem _ ht)) h.2]
      show ifB (teq t b) (teq (.tup ts) (.tup bs)) false = _
      cases teq t b <;> rfl
theorem row_nil : PySem.W.rowLt [] [] = false := lex_irrefl _
theorem row_nc (y : PyData) (ys : List PyData) : PySem.W.rowLt [] (y :: ys) = true := by
  unfold PySem.W.rowLt
  rw [PySem.W.toks_all_cons]
  simp only [PySem.W.keyToksAll]
  rw [lex_diff (O := itemOrd) (by simp)]
  rfl
theorem row_cn (x : PyData) (xs : List PyData) : PySem.W.rowLt (x :: xs) [] = false := by
  unfold PySem.W.rowLt
  rw [PySem.W.toks_all_cons]
  simp only [PySem.W.keyToksAll]
  rw [lex_diff (O := itemOrd) (by simp)]
  rfl
theorem tlt_both : (∀ a, Pl a → ∀ b, Pl b → PySem.W.alike (pd a) (pd b) = true → tlt a b = PySem.W.dataLt (pd a) (pd b)) ∧
    ∀ as, (∀ t ∈ as, Pl t) → ∀ bs, (∀ t ∈ bs, Pl t) → PySem.W.alikeAll (pds as) (pds bs) = true → tlt (.tup as) (.tup bs) = PySem.W.rowLt (pds as) (pds bs) := by
  refine T.both (P := fun a => Pl a → ∀ b, Pl b → PySem.W.alike (pd a) (pd b) = true → tlt a b = PySem.W.dataLt (pd a) (pd b))
    (PL := fun as => (∀ t ∈ as, Pl t) → ∀ bs, (∀ t ∈ bs, Pl t) → PySem.W.alikeAll (pds as) (pds bs) = true → tlt (.tup as) (.tup bs) = PySem.W.rowLt (pds as) (pds bs)) ?_ ?_ ?_ ?_ ?_ ?_ ?_ ?_
  · intro p; cases p
  · intro x p; cases p
  · intro i _ b p h
    cases p with
    | int j => simp only [pd]; rw [PySem.W.dataLt_int]; exact iLt_eq i j
    | _ => simp [pd, PySem.W.alike] at h
  · intro x _ b p h
    cases p with
    | str y => simp only [pd]; rw [PySem.W.dataLt_str, List.toList_toArray, List.toList_toArray]; exact natsLt_eq x y
    | _ => simp [pd, PySem.W.alike] at h
  · intro ts ih pa b p h
    cases p with
    | tup pb =>
      simp only [pd, PySem.W.alike] at h
      simp only [pd]
      rw [PySem.W.dataLt_tuple]
      exact ih (pl_inv pa) _ pb h
    | _ => simp [pd, PySem.W.alike] at h
  · intro n p; cases p
  · intro _ bs _ _
    cases bs with
    | nil => simp only [pds]; rw [row_nil]; rfl
    | cons b bs => simp only [pds]; rw [row_nc]; rfl
  · intro t ts h1 h2 pa bs pb h
    cases bs with
    | nil => simp only [pds]; rw [row_cn]; rfl
    | cons b bs =>
      simp only [pds, PySem.W.alikeAll, Bool.and_eq_true] at h
      simp only [pds]
      unfold PySem.W.rowLt
      rw [PySem.W.dataLt_cons h.1, ← teq_both.1 t (pa t List.mem_cons_self) b (pb b List.mem_cons_self) h.1, ← h1 (pa t List.mem_cons_self) b (pb b List.mem_cons_self) h.1]
      have := h2 (fun t ht => pa t (List.mem_cons_of_mem _ ht)) bs (fun t ht => pb t (List.mem_cons_of_mem _ ht)) h.2
      unfold PySem.W.rowLt at this
      rw [← this]
      show ifB (teq t b) (tlt (.tup ts) (.tup bs)) (tlt t b) = _
      cases teq t b <;> rfl
theorem tlt_eq {a b : T} (pa : Pl a) (pb : Pl b) (h : PySem.W.alike (pd a) (pd b) = true) : tlt a b = PySem.W.dataLt (pd a) (pd b) := tlt_both.1 a pa b pb h
/-- what is plain is told by its data -/
theorem pd_inj_both : (∀ a, Pl a → ∀ b, Pl b → pd a = pd b → a = b) ∧ ∀ as, (∀ t ∈ as, Pl t) → ∀ bs, (∀ t ∈ bs, Pl t) → pds as = pds bs → as = bs := by
  refine T.both (P := fun a => Pl a → ∀ b, Pl b → pd a = pd b → a = b) (PL := fun as => (∀ t ∈ as, Pl t) → ∀ bs, (∀ t ∈ bs, Pl t) → pds as = pds bs → as = bs) ?_ ?_ ?_ ?_ ?_ ?_ ?_ ?_
  · intro p; cases p
  · intro x p; cases p
  · intro i _ b p h
    cases p with
    | int j => simp only [pd] at h; cases h; rfl
    | _ => simp only [pd] at h; exact nomatch h
  · intro x _ b p h
    cases p with
    | str y =>
      simp only [pd] at h
      injection h with h; injection h with h
      have := congrArg Array.toList h
      simp only [List.toList_toArray] at this
      rw [this]
    | _ => simp only [pd] at h; exact nomatch h
  · intro ts ih pa b p h
    cases p with
    | tup pb => simp only [pd] at h; injection h with h; rw [ih (pl_inv pa) _ pb h]
    | _ => simp only [pd] at h; exact nomatch h
  · intro n p; cases p
  · intro _ bs _ h
    cases bs with
    | nil => rfl
    | cons b bs => simp only [pds] at h; exact nomatch h
  · intro t ts h1 h2 pa bs pb h
    cases bs with
    | nil => simp only [pds] at h; exact nomatch h
    | cons b bs =>
      simp only [pds] at h
      injection h with ha hb
      rw [h1 (pa t List.mem_cons_self) b (pb b List.mem_cons_self) ha, h2 (fun t ht => pa t (List.mem_cons_of_mem _ ht)) bs (fun t ht => pb t (List.mem_cons_of_mem _ ht)) hb]
/-! a value's data -/
section
variable {K : PySem.W.Frag} {ρ : Nat → Option Addr} {s : Sto} {H : Hp}
theorem den_dp_both : (∀ a, Pl a → ∀ v, Den ρ H a v → Dp K H v (pd a)) ∧ ∀ as, (∀ t ∈ as, Pl t) → ∀ vs, DenL ρ H as vs → DpAll K H vs (pds as) := by
  refine T.both (P := fun a => Pl a → ∀ v, Den ρ H a v → Dp K H v (pd a)) (PL := fun as => (∀ t ∈ as, Pl t) → ∀ vs, DenL ρ H as vs → DpAll K H vs (pds as)) ?_ ?_ ?_ ?_ ?_ ?_ ?_ ?_
  · intro p; cases p
  · intro x p; cases p
  · intro i _ v d; rw [den_int] at d; subst d; simp only [pd]; exact .int i
  · intro x _ v d; rw [den_str] at d; subst d; simp only [pd]; exact .str _
  · intro ts ih p v d
    rw [den_tup] at d
    obtain ⟨a, vs, rfl, ha, dl⟩ := d
    simp only [pd]
    exact .tup (.of ha) (ih (pl_inv p) vs dl)
  · intro n p; cases p
  · intro _ vs d; rw [denL_nil] at d; subst d; simp only [pds]; exact .nil
  · intro t ts h1 h2 p vs d
    rw [denL_cons] at d
    obtain ⟨v, r, rfl, d1, d2⟩ := d
    simp only [pds]
    exact .cons (h1 (p t List.mem_cons_self) v d1) (h2 (fun t ht => p t (List.mem_cons_of_mem _ ht)) r d2)
end
/-! the checks -/
theorem allB_iff {f : T → Bool} : ∀ {xs : List T}, allB f xs = true ↔ ∀ x ∈ xs, f x = true
  | [] => ⟨fun _ x h => (nomatch h), fun _ => rfl⟩
  | x :: xs => by
    have e : allB f (x :: xs) = ifB (f x) (allB f xs) false := rfl
    rw [e]
    cases h : f x with
    | false => exact ⟨fun z => (nomatch z), fun z => by rw [z x List.mem_cons_self] at h; exact nomatch h⟩
    | true =>
      show allB f xs = true ↔ _
      rw [allB_iff]
      constructor
      · intro z y hy
        rcases List.mem_cons.mp hy with rfl | hy
        · exact h
        · exact z y hy
      · exact fun z y hy => z y (List.mem_cons_of_mem _ hy)
theorem allI_iff : ∀ {xs : List T}, allI xs = true → ∃ ns : List Int, xs = ns.map T.int
  | [], _ => ⟨[], rfl⟩
  | x :: xs, h => by
    cases x with
    | int i =>
      obtain ⟨ns, e⟩ := allI_iff (xs := xs) h
      exact ⟨i :: ns, by rw [e]; rfl⟩
    | _ => exact nomatch h
theorem isTI_iff {t : T} (h : isTI t = true) : ∃ ns : List Int, t = .tup (ns.map T.int) := by
  cases t with
  | tup ts =>
    obtain ⟨ns, e⟩ := allI_iff (xs := ts) h
    exact ⟨ns, by rw [e]⟩
  | _ => exact nomatch h
theorem pl_ints {ns : List Int} : ∀ t ∈ ns.map T.int, Pl t := fun t ht => by
  obtain ⟨n, _, rfl⟩ := List.mem_map.mp ht
  exact .int n
theorem pds_ints (ns : List Int) : pds (ns.map T.int) = ns.map PyData.int := by
  rw [pds_map, List.map_map]
  exact List.map_congr_left fun n _ => by simp [pd]
theorem pd_TI (ns : List Int) : pd (.tup (ns.map T.int)) = .tuple (ns.map PyData.int) := by rw [pd, pds_ints]
theorem plD_ok : ∀ {n : Nat} {t : T}, plD n t = true → Pl t ∧ (pd t).depth ≤ n ∧ (pd t).canLay0 = true
  | 0, t, h => nomatch h
  | n + 1, t, h => by
    cases t with
    | int i => refine ⟨.int i, ?_, ?_⟩ <;> simp [pd, PyData.depth, PyData.canLay0]
    | str x =>
      refine ⟨.str x, ?_, ?_⟩
      · simp [pd, PyData.depth]
      · simp only [pd, PyData.canLay0]
        exact chK_ok (show chK x = true from h)
    | tup ts =>
      have key : ∀ {ts : List T}, (∀ t ∈ ts, plD n t = true) → (∀ t ∈ ts, Pl t) ∧ PyData.depthAll (pds ts) ≤ n ∧ PyData.canLayAll0 (pds ts) = true := fun {ts} h => by
        induction ts with
        | nil => exact ⟨fun t ht => (nomatch ht), by simp [pds, PyData.depthAll], by simp [pds, PyData.canLayAll0]⟩
        | cons t ts ih =>
          obtain ⟨a1, a2, a3⟩ := plD_ok (h t List.mem_cons_self)
          obtain ⟨b1, b2, b3⟩ := ih fun t ht => h t (List.mem_cons_of_mem _ ht)
          simp only [pds, PyData.depthAll, PyData.canLayAll0]
          refine ⟨fun x hx => ?_, by omega, by simp [a3, b3]⟩
          rcases List.mem_cons.mp hx with rfl | hx
          · exact a1
          · exact b1 x hx
      obtain ⟨a1, a2, a3⟩ := key (allB_iff.mp (show allB (plD n) ts = true from h))
      refine ⟨.tup a1, ?_, ?_⟩
      · simp only [pd, PyData.depth]; omega
      · simp only [pd, PyData.canLay0]; exact a3
    | _ => exact nomatch h
structure OkD (ts : List T) : Prop where
  pl : ∀ t ∈ ts, Pl t
  al : ∀ t ∈ ts, ∀ u ∈ ts, PySem.W.alike (pd t) (pd u) = true
  srt : SrtOk (ts.map pd)
  dep : ∀ t ∈ ts, (pd t).depth ≤ 40
theorem alikeI : ∀ xs ys : List Int, PySem.W.alikeAll (xs.map .int) (ys.map .int) = true := PySem.W.alike_ints
theorem okD_ok {ts : List T} (h : okD ts = true) : OkD ts := by
  unfold okD at h
  cases h1 : allI ts with
  | true =>
    obtain ⟨ns, rfl⟩ := allI_iff h1
    refine ⟨pl_ints, fun t ht u hu => ?_, .inr fun d hd => ?_, fun t ht => ?_⟩
    · obtain ⟨n, _, rfl⟩ := List.mem_map.mp ht
      obtain ⟨m, _, rfl⟩ := List.mem_map.mp hu
      simp [pd, PySem.W.alike]
    · obtain ⟨t, ht, rfl⟩ := List.mem_map.mp hd
      obtain ⟨n, _, rfl⟩ := List.mem_map.mp ht
      constructor
      · simp [pd]
      · intro xs; simp [pd]
    · obtain ⟨n, _, rfl⟩ := List.mem_map.mp ht
      simp [pd, PyData.depth]
  | false =>
    rw [h1] at h
    have h : ifB (allB isTI ts) true (ifB (allB isTu ts) (ifB (allB (plD 40) ts) (prs ts) false) false) = true := h
    cases h2 : allB isTI ts with
    | true =>
      have h2 := allB_iff.mp h2
      refine ⟨fun t ht => ?_, fun t ht u hu => ?_, .inl fun d hd => ?_, fun t ht => ?_⟩
      · obtain ⟨ns, rfl⟩ := isTI_iff (h2 t ht)
        exact .tup pl_ints
      · obtain ⟨ns, rfl⟩ := isTI_iff (h2 t ht)
        obtain ⟨ms, rfl⟩ := isTI_iff (h2 u hu)
        rw [pd_TI, pd_TI, PySem.W.alike]
        exact alikeI ns ms
      · obtain ⟨t, ht, rfl⟩ := List.mem_map.mp hd
        obtain ⟨ns, rfl⟩ := isTI_iff (h2 t ht)
        exact ⟨_, pd_TI ns⟩
      · obtain ⟨ns, rfl⟩ := isTI_iff (h2 t ht)
        rw [pd_TI, PyData.depth, PySem.W.depth_ints]
        omega
    | false =>
      rw [h2] at h
      have h : ifB (allB isTu ts) (ifB (allB (plD 40) ts) (prs ts) false) false = true := h
      cases h3 : allB isTu ts with
      | false => rw [h3] at h; exact nomatch h
      | true =>
        rw [h3] at h
        have h : ifB (allB (plD 40) ts) (prs ts) false = true := h
        cases h4 : allB (plD 40) ts with
        | false => rw [h4] at h; exact nomatch h
        | true =>
          rw [h4] at h
          have h3 := allB_iff.mp h3
          have h4 := allB_iff.mp h4
          have h5 := allB_iff.mp (show allB (fun x => allB (tal x) ts) ts = true from h)
          refine ⟨fun t ht => (plD_ok (h4 t ht)).1, fun t ht u hu => tal_both.1 t u (allB_iff.mp (h5 t ht) u hu), .inl fun d hd => ?_, fun t ht => (plD_ok (h4 t ht)).2.1⟩
          obtain ⟨t, ht, rfl⟩ := List.mem_map.mp hd
          have := h3 t ht
          cases t with
          | tup us => exact ⟨pds us, by rw [pd]⟩
          | _ => exact nomatch this
end Rk
end
section
set_option linter.all false
set_option autoImplicit false
set_option maxRecDepth 100000
namespace Rk
open PySem PySem.Spec PyProof.Rows L2
theorem le_total {β : Type} (k : β → PyData) : PySem.W.TotalLe (PySem.W.dataLe false k) := PySem.W.sortLe_total _ _ _
theorem le_eq {β : Type} (k : β → PyData) (a b : β) : PySem.W.dataLe false k a b = !PySem.W.dataLt (k b) (k a) := rfl
theorem insD_eq {x : T} {k : List T → Res} : ∀ {l m : List T}, (∀ b ∈ l, tlt b x = true) → (∀ y ∈ m.head?, tlt y x = false) → insD x (l ++ m) k = k (l ++ x :: m)
  | [], [], _, _ => rfl
  | [], y :: r, _, h => by
    have e : insD x (y :: r) k = ifB (tlt y x) (insD x r fun r' => k (y :: r')) (k (x :: y :: r)) := rfl
    show insD x (y :: r) k = _
    rw [e, h y (by simp)]; rfl
  | b :: l, m, h, h2 => by
    have e : insD x (b :: (l ++ m)) k = ifB (tlt b x) (insD x (l ++ m) fun r' => k (b :: r')) (k (x :: b :: (l ++ m))) := rfl
    show insD x (b :: (l ++ m)) k = _
    rw [e, h b List.mem_cons_self]
    show insD x (l ++ m) (fun r' => k (b :: r')) = _
    rw [insD_eq (fun c hc => h c (List.mem_cons_of_mem _ hc)) h2]; rfl
theorem srtD_eq : ∀ {ts : List T} {k : List T → Res}, (∀ t ∈ ts, Pl t) → (∀ t ∈ ts, ∀ u ∈ ts, PySem.W.alike (pd t) (pd u) = true) → srtD ts k = k (ts.mergeSort (PySem.W.dataLe false pd))
  | [], k, _, _ => by simp; rfl
  | x :: xs, k, hp, ha => by
    have e : srtD (x :: xs) k = srtD xs fun ys => insD x ys k := rfl
    rw [e, srtD_eq (fun t ht => hp t (List.mem_cons_of_mem _ ht)) (fun t ht u hu => ha t (List.mem_cons_of_mem _ ht) u (List.mem_cons_of_mem _ hu))]
    have O := le_total pd
    obtain ⟨l, m, e1, e2, h⟩ := List.mergeSort_cons (le := PySem.W.dataLe false pd) (fun a b c h1 h2 => O.trans a b c h1 h2) (fun a b => Bool.or_eq_true_iff.mpr (O.total a b)) x xs
    have pw := List.pairwise_mergeSort (le := PySem.W.dataLe false pd) (fun a b c h1 h2 => O.trans a b c h1 h2) (fun a b => Bool.or_eq_true_iff.mpr (O.total a b)) (x :: xs)
    have hm : ∀ b, b ∈ l ++ m → b ∈ xs := fun b hb => (List.mergeSort_perm xs _).mem_iff.mp (by rw [e2]; exact hb)
    have tl : ∀ b, b ∈ xs → tlt b x = PySem.W.dataLt (pd b) (pd x) := fun b hb => tlt_eq (hp b (List.mem_cons_of_mem _ hb)) (hp x List.mem_cons_self) (ha b (List.mem_cons_of_mem _ hb) x List.mem_cons_self)
    rw [e1] at pw ⊢
    rw [e2]
    refine insD_eq (fun b hb => ?_) fun y hy => ?_
    · rw [tl b (hm b (List.mem_append_left _ hb))]
      have := h b hb
      rw [le_eq] at this
      simpa using this
    · have hy' : y ∈ m := List.mem_of_mem_head? hy
      rw [tl y (hm y (List.mem_append_right _ hy'))]
      have := (List.pairwise_cons.mp (List.pairwise_append.mp pw).2.1).1 y hy'
      rw [le_eq] at this
      simpa using this
section
variable {ρ : Nat → Option Addr} {H : Hp}
theorem denL_zip : ∀ {ts : List T} {vs : List V}, DenL ρ H ts vs → (ts.zip vs).map Prod.fst = ts ∧ (ts.zip vs).map Prod.snd = vs ∧ ∀ p ∈ ts.zip vs, Den ρ H p.1 p.2
  | [], vs, d => by rw [denL_nil] at d; subst d; exact ⟨rfl, rfl, fun p hp => by cases hp⟩
  | t :: ts, vs, d => by
    rw [denL_cons] at d
    obtain ⟨v, r, rfl, d1, d2⟩ := d
    obtain ⟨h1, h2, h3⟩ := denL_zip d2
    refine ⟨by rw [List.zip_cons_cons, List.map_cons, h1], by rw [List.zip_cons_cons, List.map_cons, h2], fun p hp => ?_⟩
    rw [List.zip_cons_cons] at hp
    rcases List.mem_cons.mp hp with rfl | hp
    · exact d1
    · exact h3 p hp
theorem denL_of : ∀ {l : List (T × V)}, (∀ p ∈ l, Den ρ H p.1 p.2) → DenL ρ H (l.map Prod.fst) (l.map Prod.snd)
  | [], _ => by simp
  | p :: l, h => by
    rw [List.map_cons, List.map_cons, denL_cons2]
    exact ⟨h p List.mem_cons_self, denL_of fun q hq => h q (List.mem_cons_of_mem _ hq)⟩
theorem denL_srt {ts : List T} {vs : List V} (d : DenL ρ H ts vs) : DenL ρ H (ts.mergeSort (PySem.W.dataLe false pd)) (srtP vs (ts.map pd)) := by
  obtain ⟨h1, h2, h3⟩ := denL_zip d
  have k1 : ts.mergeSort (PySem.W.dataLe false pd) = ((ts.zip vs).mergeSort (PySem.W.dataLe false fun p => pd p.1)).map Prod.fst := by
    have z := List.map_mergeSort (r := PySem.W.dataLe false fun p : T × V => pd p.1) (s := PySem.W.dataLe false pd) (f := Prod.fst) (l := ts.zip vs) (fun a _ b _ => rfl)
    rw [z, h1]
  have hz : vs.zip (ts.map pd) = (ts.zip vs).map fun p => (p.2, pd p.1) := by
    clear h1 h2 h3 k1
    revert vs
    induction ts with
    | nil => intro vs d; rw [denL_nil] at d; subst d; rfl
    | cons t ts ih =>
      intro vs d
      rw [denL_cons] at d
      obtain ⟨v, r, rfl, d1, d2⟩ := d
      rw [List.map_cons, List.zip_cons_cons, List.zip_cons_cons, List.map_cons, ih d2]
  have k2 : srtP vs (ts.map pd) = ((ts.zip vs).mergeSort (PySem.W.dataLe false fun p => pd p.1)).map Prod.snd := by
    unfold srtP
    have z := List.map_mergeSort (r := PySem.W.dataLe false fun p : T × V => pd p.1) (s := leD) (f := fun p : T × V => (p.2, pd p.1)) (l := ts.zip vs) (fun a _ b _ => rfl)
    rw [hz, ← z, List.map_map]
    rfl
  rw [k1, k2]
  exact denL_of fun p hp => h3 p ((List.mergeSort_perm _ _).mem_iff.mp hp)
end
theorem SqA.any {K : PySem.W.Frag} {H : Hp} {b : Bool} {a : Addr} {vs : List V} (h : SqA H b a vs) : SqL K H a vs ∨ SqT K H a vs := h.sq
section
variable {X : Cx}
theorem sf_sortD : SeqF true bSorted (rSortD X.K) := by
  intro ρ s H ts a vs Q rs hq dl hd h
  unfold bSorted at h
  obtain ⟨ho, h⟩ := h.ifB
  have O := okD_ok ho
  rw [srtD_eq O.pl O.al] at h
  refine ⟨a, vs, ts.map pd, rfl, hq.sq, ?_, fun d hd e he => ?_, O.srt, fun d hd => ?_, fun p hp => h.newL rs (denL_srt dl) hp⟩
  · rw [← pds_map]; exact den_dp_both.2 ts O.pl vs dl
  · obtain ⟨t, ht, rfl⟩ := List.mem_map.mp hd
    obtain ⟨u, hu, rfl⟩ := List.mem_map.mp he
    exact O.al t ht u hu
  · obtain ⟨t, ht, rfl⟩ := List.mem_map.mp hd
    have := O.dep t ht
    omega
theorem extK_ok {bb : Bool} : ∀ {r : List T} {m : T} {k : T → Res}, (∀ t ∈ m :: r, Pl t) → (∀ t ∈ m :: r, ∀ u ∈ m :: r, PySem.W.alike (pd t) (pd u) = true) →
    ∃ m', m' ∈ m :: r ∧ extK bb r m k = k m' ∧ pd m' = if bb then PySem.W.maxD (pd m) (r.map pd) else PySem.W.minD (pd m) (r.map pd)
  | [], m, k, _, _ => ⟨m, List.mem_cons_self, rfl, by cases bb <;> rfl⟩
  | x :: r, m, k, hp, ha => by
    have e : extK bb (x :: r) m k = ifB (ifB bb (tlt m x) (tlt x m)) (extK bb r x k) (extK bb r m k) := rfl
    have pm := hp m List.mem_cons_self
    have px := hp x (by simp)
    have a1 : tlt m x = PySem.W.dataLt (pd m) (pd x) := tlt_eq pm px (ha m List.mem_cons_self x (by simp))
    have a2 : tlt x m = PySem.W.dataLt (pd x) (pd m) := tlt_eq px pm (ha x (by simp) m List.mem_cons_self)
    have sub1 : ∀ t, t ∈ x :: r → t ∈ m :: x :: r := fun t ht => List.mem_cons_of_mem _ ht
    have sub2 : ∀ t, t ∈ m :: r → t ∈ m :: x :: r := fun t ht => by
      rcases List.mem_cons.mp ht with rfl | ht
      · exact List.mem_cons_self
      · exact List.mem_cons_of_mem _ (List.mem_cons_of_mem _ ht)
    obtain ⟨m1, b1, b2, b3⟩ := extK_ok (bb := bb) (r := r) (m := x) (k := k) (fun t ht => hp t (sub1 t ht)) fun t ht u hu => ha t (sub1 t ht) u (sub1 u hu)
    obtain ⟨m2, c1, c2, c3⟩ := extK_ok (bb := bb) (r := r) (m := m) (k := k) (fun t ht => hp t (sub2 t ht)) fun t ht u hu => ha t (sub2 t ht) u (sub2 u hu)
    rw [e, a1, a2, b2, c2]
    cases bb with
    | true =>
      have eM : PySem.W.maxD (pd m) ((x :: r).map pd) = PySem.W.maxD (if PySem.W.dataLt (pd m) (pd x) = true then pd x else pd m) (r.map pd) := rfl
      simp only [if_true] at b3 c3 ⊢
      rw [eM]
      show ∃ m', _ ∧ ifB (PySem.W.dataLt (pd m) (pd x)) _ _ = _ ∧ _
      cases PySem.W.dataLt (pd m) (pd x) with
      | true => exact ⟨m1, sub1 _ b1, rfl, by rw [if_pos rfl]; exact b3⟩
      | false => exact ⟨m2, sub2 _ c1, rfl, by rw [if_neg (by simp)]; exact c3⟩
    | false =>
      have eM : PySem.W.minD (pd m) ((x :: r).map pd) = PySem.W.minD (if PySem.W.dataLt (pd x) (pd m) = true then pd x else pd m) (r.map pd) := rfl
      simp only [Bool.false_eq_true, if_false] at b3 c3 ⊢
      rw [eM]
      show ∃ m', _ ∧ ifB (PySem.W.dataLt (pd x) (pd m)) _ _ = _ ∧ _
      cases PySem.W.dataLt (pd x) (pd m) with
      | true => exact ⟨m1, sub1 _ b1, rfl, by rw [if_pos rfl]; exact b3⟩
      | false => exact ⟨m2, sub2 _ c1, rfl, by rw [if_neg (by simp)]; exact c3⟩
theorem den_at {ρ : Nat → Option Addr} {H : Hp} {ts : List T} {vs : List V} (d : DenL ρ H ts vs) {i : Nat} {v : V} (h : vs[i]? = some v) : ∃ t, ts[i]? = some t ∧ Den ρ H t v := by
  obtain ⟨h1, h2, h3⟩ := denL_zip d
  have hl := d.length
  have hi : i < vs.length := (List.getElem?_eq_some_iff.mp h).1
  have e1 : ts[i]? = some ts[i] := List.getElem?_eq_getElem (by omega)
  refine ⟨_, e1, ?_⟩
  have hz : (ts.zip vs)[i]? = some (ts[i], v) := by rw [List.getElem?_zip_eq_some]; exact ⟨e1, h⟩
  exact h3 _ (List.mem_of_getElem? hz)
theorem sf_extD {b : Bool} : SeqF true (bExt b) (rExtD b X.K) := by
  intro ρ s H ts a vs Q rs hq dl hd h
  unfold bExt at h
  obtain ⟨ho, h⟩ := h.ifB
  have ho : ifB (allB (plD 40) ts) (okD ts) false = true := ho
  cases h4 : allB (plD 40) ts with
  | false => rw [h4] at ho; exact nomatch ho
  | true =>
    rw [h4] at ho
    have O := okD_ok ho
    have h4 := allB_iff.mp h4
    cases ts with
    | nil => exact h.elim
    | cons t r =>
      have h : Post ρ s H (extK b r t fun m => .v m s) Q := h
      obtain ⟨m, hm, e, hv⟩ := extK_ok (bb := b) (k := fun m => Res.v m s) O.pl O.al
      rw [e] at h
      have hds : pds (t :: r) = pd t :: r.map pd := by rw [pds_map]; rfl
      refine ⟨a, vs, pd t, r.map pd, rfl, hq.sq, ?_, fun d hd e he => ?_, fun d hd => ?_, fun d hd => ?_, ?_, fun i v hi hdi => ?_⟩
      · rw [← hds]; exact den_dp_both.2 _ O.pl vs dl
      · rw [← hds, pds_map] at hd he
        obtain ⟨t, ht, rfl⟩ := List.mem_map.mp hd
        obtain ⟨u, hu, rfl⟩ := List.mem_map.mp he
        exact O.al t ht u hu
      · rw [← hds, pds_map] at hd
        obtain ⟨t, ht, rfl⟩ := List.mem_map.mp hd
        cases O.pl t ht <;> simp [pd]
      · rw [← hds, pds_map] at hd
        obtain ⟨t, ht, rfl⟩ := List.mem_map.mp hd
        exact (plD_ok (h4 t ht)).2.2
      · rw [← hds]
        have key : ∀ ts : List T, (∀ t ∈ ts, (pd t).depth ≤ 40) → PyData.depthAll (pds ts) ≤ 40 := fun ts => by
          induction ts with
          | nil => intro _; simp [pds, PyData.depthAll]
          | cons t ts ih =>
            intro hh
            have h1 := hh t List.mem_cons_self
            have h2 := ih fun t ht => hh t (List.mem_cons_of_mem _ ht)
            simp only [pds, PyData.depthAll]
            omega
        have := key _ O.dep
        omega
      · obtain ⟨t', ht', d'⟩ := den_at dl hi
        rw [← hds, pds_map, List.getElem?_map, ht'] at hdi
        have e1 : pd t' = pd m := by rw [hv]; exact Option.some.inj hdi
        have e2 := pd_inj_both.1 t' (O.pl _ (List.mem_of_getElem? ht')) m (O.pl _ hm) e1
        subst e2
        exact Post.val h rs d'
end
end Rk
end
section
set_option linter.all false
set_option autoImplicit false
set_option maxRecDepth 100000
namespace Rk
open PySem PySem.Spec PyProof.Rows L2
/-! ### rows without twice -/
section
variable {α : Type} [LT α] [DecidableEq α] [DecidableRel (fun a b : α => a < b)]
def insG (x : α) : List α → List α
  | [] => [x]
  | y :: r => if x < y then x :: y :: r else if x = y then y :: r else y :: insG x r
def srtG : List α → List α
  | [] => []
  | x :: xs => insG x (srtG xs)
variable (tr : ∀ a b c : α, a < b → b < c → a < c) (tri : ∀ a b : α, a < b ∨ a = b ∨ b < a)
omit [DecidableEq α] [DecidableRel (fun a b : α => a < b)] in
theorem strict_uniq (as : ∀ a b : α, a < b → ¬ b < a) : ∀ {l m : List α}, l.Pairwise (· < ·) → m.Pairwise (· < ·) → (∀ k, k ∈ l ↔ k ∈ m) → l = m
  | [], [], _, _, _ => rfl
  | [], y :: m, _, _, h => absurd ((h y).mpr List.mem_cons_self) (by simp)
  | x :: l, [], _, _, h => absurd ((h x).mp List.mem_cons_self) (by simp)
  | x :: l, y :: m, hl, hm, h => by
    rw [List.pairwise_cons] at hl hm
    have hxy : x = y := by
      rcases List.mem_cons.mp ((h x).mp List.mem_cons_self) with e | hx
      · exact e
      · rcases List.mem_cons.mp ((h y).mpr List.mem_cons_self) with e | hy
        · exact e.symm
        · exact absurd (hl.1 y hy) (as _ _ (hm.1 x hx))
    subst hxy
    have irr : ∀ z : α, ¬ z < z := fun z hz => as z z hz hz
    rw [strict_uniq as hl.2 hm.2 fun k => ?_]
    constructor
    · intro hk
      rcases List.mem_cons.mp ((h k).mp (List.mem_cons_of_mem _ hk)) with e | z
      · subst e; exact absurd (hl.1 k hk) (irr k)
      · exact z
    · intro hk
      rcases List.mem_cons.mp ((h k).mpr (List.mem_cons_of_mem _ hk)) with e | z
      · subst e; exact absurd (hm.1 k hk) (irr k)
      · exact z
theorem insG_mem {x k : α} : ∀ {l : List α}, k ∈ insG x l ↔ k = x ∨ k ∈ l
  | [] => by simp [insG]
  | y :: r => by
    unfold insG
    split
    · simp
    · split
      · rename_i h; subst h; simp
      · rw [List.mem_cons, insG_mem, List.mem_cons]
        constructor <;> (intro z; rcases z with z | z | z <;> simp [z])
include tr tri in
theorem insG_srt {x : α} : ∀ {l : List α}, l.Pairwise (· < ·) → (insG x l).Pairwise (· < ·)
  | [], _ => by simp [insG]
  | y :: r, h => by
    have h0 := h
    rw [List.pairwise_cons] at h
    unfold insG
    split
    · rename_i hx
      rw [List.pairwise_cons]
      refine ⟨fun z hz => ?_, h0⟩
      rcases List.mem_cons.mp hz with rfl | hz
      · exact hx
      · exact tr _ _ _ hx (h.1 z hz)
    · split
      · exact h0
      · rename_i h1 h2
        rw [List.pairwise_cons]
        refine ⟨fun z hz => ?_, insG_srt h.2⟩
        rcases insG_mem.mp hz with rfl | hz
        · rcases tri z y with q | q | q
          · exact absurd q h1
          · exact absurd q h2
          · exact q
        · exact h.1 z hz
theorem srtG_mem {k : α} : ∀ {l : List α}, k ∈ srtG l ↔ k ∈ l
  | [] => by simp [srtG]
  | x :: l => by rw [srtG, insG_mem, srtG_mem, List.mem_cons]
include tr tri in
theorem srtG_srt : ∀ l : List α, (srtG l).Pairwise (· < ·)
  | [] => .nil
  | x :: l => insG_srt tr tri (srtG_srt l)
/-- the core's row -/
theorem srtV_eq {f : α → T} (h1 : ∀ a b, tlt (f a) (f b) = decide (a < b)) (h2 : ∀ a b, teq (f a) (f b) = decide (a = b)) : ∀ {l : List α} {k : List T → Res}, srtV (l.map f) k = k ((srtG l).map f)
  | [], k => rfl
  | x :: l, k => by
    have ins : ∀ {l : List α} {k : List T → Res}, insV (f x) (l.map f) k = k ((insG x l).map f) := fun {l} => by
      induction l with
      | nil => intro k; rfl
      | cons y r ih =>
        intro k
        have e : insV (f x) ((y :: r).map f) k = ifB (tlt (f x) (f y)) (k (f x :: f y :: r.map f)) (ifB (teq (f x) (f y)) (k (f y :: r.map f)) (insV (f x) (r.map f) fun r' => k (f y :: r'))) := rfl
        have e2 : insG x (y :: r) = if x < y then x :: y :: r else if x = y then y :: r else y :: insG x r := rfl
        rw [e, h1, h2, ih, e2]
        by_cases q : x < y
        · rw [decide_eq_true q, if_pos q]; rfl
        · rw [decide_eq_false q, if_neg q]
          by_cases q2 : x = y
          · rw [decide_eq_true q2, if_pos q2]; rfl
          · rw [decide_eq_false q2, if_neg q2]; rfl
    have e : srtV ((x :: l).map f) k = srtV (l.map f) fun ys => insV (f x) ys k := rfl
    rw [e, srtV_eq h1 h2, ins]; rfl
end
theorem int_tri (a b : Int) : a < b ∨ a = b ∨ b < a := by omega
theorem row_asym (a b : List Int) (h : a < b) : ¬ b < a := List.lt_asymm h
theorem row_tri (a b : List Int) : a < b ∨ a = b ∨ b < a := by
  by_cases h : a < b
  · exact .inl h
  · by_cases h2 : b < a
    · exact .inr (.inr h2)
    · exact .inr (.inl (List.le_antisymm (List.not_lt.mp h2) (List.not_lt.mp h)))
theorem row_tr (a b c : List Int) (h : a < b) (h2 : b < c) : a < c := List.lt_trans h h2
abbrev tI (ns : List Int) : T := .tup (ns.map T.int)
theorem tlt_tI (a b : List Int) : tlt (tI a) (tI b) = decide (a < b) := by
  rw [tlt_eq (.tup pl_ints) (.tup pl_ints) (by rw [pd_TI, pd_TI, PySem.W.alike]; exact alikeI a b), pd_TI, pd_TI, PySem.W.dataLt_tuple]
  exact PySem.W.dataLt_ints a b
theorem teq_tI : ∀ a b : List Int, teq (tI a) (tI b) = decide (a = b)
  | [], [] => rfl
  | [], y :: b => rfl
  | x :: a, [] => rfl
  | x :: a, y :: b => by
    show ifB (iEq x y) (teq (tI a) (tI b)) false = _
    rw [iEq_eq, teq_tI a b]
    by_cases h : x = y
    · subst h; rw [decide_eq_true rfl]
      show decide (a = b) = _
      simp
    · rw [decide_eq_false h]
      show false = _
      symm; apply decide_eq_false; simp [h]
section
variable {ρ : Nat → Option Addr} {H : Hp}
theorem denL_TI : ∀ {ts : List T} {vs : List V}, DenL ρ H ts vs → (∀ t ∈ ts, isTI t = true) → ∃ ks : List (Addr × List Int), ts = ks.map (fun q => tI q.2) ∧ vs = ks.map (fun q => V.ref q.1) ∧ ∀ q ∈ ks, H q.1 = some (.tup (q.2.map V.int))
  | [], vs, d, _ => by rw [denL_nil] at d; subst d; exact ⟨[], rfl, rfl, fun q hq => nomatch hq⟩
  | t :: ts, vs, d, h => by
    rw [denL_cons] at d
    obtain ⟨v, r, rfl, d1, d2⟩ := d
    obtain ⟨ks, e1, e2, e3⟩ := denL_TI d2 fun t ht => h t (List.mem_cons_of_mem _ ht)
    obtain ⟨ns, rfl⟩ := isTI_iff (h t List.mem_cons_self)
    rw [den_tup] at d1
    obtain ⟨a, us, rfl, ha, dl⟩ := d1
    have e := denL_ints dl
    subst e
    refine ⟨(a, ns) :: ks, by rw [e1]; rfl, by rw [e2]; rfl, fun q hq => ?_⟩
    rcases List.mem_cons.mp hq with rfl | hq
    · exact ha
    · exact e3 q hq
theorem denL_row : ∀ {L : List (Addr × List Int)}, (∀ q ∈ L, H q.1 = some (.tup (q.2.map V.int))) → DenL ρ H (L.map fun q => tI q.2) (L.map fun q => V.ref q.1)
  | [], _ => by simp
  | q :: L, h => by
    rw [List.map_cons, List.map_cons, denL_cons2]
    refine ⟨?_, denL_row fun p hp => h p (List.mem_cons_of_mem _ hp)⟩
    rw [den_tup]
    exact ⟨q.1, _, rfl, h q List.mem_cons_self, denL_of_ints⟩
end
section
variable {X : Cx}
theorem okS_ok {ts : List T} (h : okS ts = true) : ts.length < 64 ∧ (allI ts = true ∨ ∀ t ∈ ts, isTI t = true) := by
  unfold okS at h
  rw [lenK_eq, Nat.zero_add] at h
  cases h1 : Nat.blt ts.length 64 with
  | false => rw [h1] at h; exact nomatch h
  | true =>
    rw [h1] at h
    have h : ifB (allI ts) true (allB isTI ts) = true := h
    rw [Nat.blt_eq] at h1
    refine ⟨h1, ?_⟩
    cases h2 : allI ts with
    | true => exact .inl rfl
    | false => rw [h2] at h; exact .inr (allB_iff.mp h)
theorem sf_sset : SeqF true bSset (fun xs H Q => ∃ l, xs = [V.ref l] ∧ rSSet X.K l H Q) := by
  intro ρ s H ts a vs Q rs hq dl hd h
  unfold bSset at h
  obtain ⟨ho, h⟩ := h.ifB
  obtain ⟨hl, ho⟩ := okS_ok ho
  refine ⟨a, rfl, ?_⟩
  rcases ho with ho | ho
  · obtain ⟨ns, rfl⟩ := allI_iff ho
    have e := denL_ints dl
    subst e
    rw [List.length_map] at hl
    rw [srtV_eq (f := T.int) iLt_eq iEq_eq] at h
    refine .inl ⟨ns, hq.sq, hl, fun ns' p hs hp => ?_⟩
    have e : ns' = srtG ns := strict_uniq (fun a b h => by omega) hs.1 (srtG_srt (fun a b c h1 h2 => by omega) int_tri ns) fun k => by rw [hs.2 k, srtG_mem]
    rw [e]
    exact h.newL rs denL_of_ints hp
  · obtain ⟨ks, rfl, rfl, hk⟩ := denL_TI dl ho
    rw [List.length_map] at hl
    have em : (ks.map fun q => tI q.2) = (ks.map (·.2)).map tI := by rw [List.map_map]; rfl
    rw [em, srtV_eq (f := tI) tlt_tI teq_tI] at h
    refine .inr ⟨ks, hq.sq, fun p hp => .of (hk p hp), hl, fun L p hs hp => ?_⟩
    have e : L.map (·.2) = srtG (ks.map (·.2)) := strict_uniq row_asym hs.1 (srtG_srt row_tr row_tri _) fun k => by
      rw [srtG_mem]
      constructor
      · intro hk
        obtain ⟨q, hq, rfl⟩ := List.mem_map.mp hk
        exact List.mem_map.mpr ⟨q, hs.2.1 q hq, rfl⟩
      · intro hk
        obtain ⟨q, hq, rfl⟩ := List.mem_map.mp hk
        exact hs.2.2 q hq
    rw [← e, List.map_map] at h
    exact h.newL rs (denL_row fun q hq => hk q (hs.2.1 q hq)) hp
theorem nodup_len {α : Type} {l m : List α} (h1 : l.Nodup) (h2 : m.Nodup) (h : ∀ k, k ∈ l ↔ k ∈ m) : l.length = m.length := ((List.perm_ext_iff_of_nodup h1 h2).mpr h).length_eq
theorem strict_nodup {α : Type} [LT α] (as : ∀ a b : α, a < b → ¬ b < a) {l : List α} (h : l.Pairwise (· < ·)) : l.Nodup := h.imp fun {a b} hab e => by subst e; exact as _ _ hab hab
theorem sf_lset : SeqF true bLset (fun xs H Q => ∃ l, xs = [V.ref l] ∧ rLSet X.K l H Q) := by
  intro ρ s H ts a vs Q rs hq dl hd h
  unfold bLset at h
  obtain ⟨ho, h⟩ := h.ifB
  obtain ⟨hl, ho⟩ := okS_ok ho
  refine ⟨a, rfl, ?_⟩
  rcases ho with ho | ho
  · obtain ⟨ns, rfl⟩ := allI_iff ho
    have e := denL_ints dl
    subst e
    rw [List.length_map] at hl
    rw [srtV_eq (f := T.int) iLt_eq iEq_eq] at h
    simp only [lenK_eq, Nat.zero_add, List.length_map] at h
    refine .inl ⟨ns, hq.sq, hl, fun ns' hn hs => ?_⟩
    have e : ns'.length = (srtG ns).length := nodup_len hn (strict_nodup (fun a b h => by omega) (srtG_srt (fun a b c h1 h2 => by omega) int_tri ns)) fun k => by rw [hs k, srtG_mem]
    rw [e]
    exact Post.val h rs (by simp)
  · obtain ⟨ks, rfl, rfl, hk⟩ := denL_TI dl ho
    rw [List.length_map] at hl
    have em : (ks.map fun q => tI q.2) = (ks.map (·.2)).map tI := by rw [List.map_map]; rfl
    rw [em, srtV_eq (f := tI) tlt_tI teq_tI] at h
    simp only [lenK_eq, Nat.zero_add, List.length_map] at h
    refine .inr ⟨ks, hq.sq, fun p hp => .of (hk p hp), hl, fun L hn hs1 hs2 => ?_⟩
    have e : (L.map (·.2)).length = (srtG (ks.map (·.2))).length := nodup_len hn (strict_nodup row_asym (srtG_srt row_tr row_tri _)) fun k => by
      rw [srtG_mem]
      constructor
      · intro hk
        obtain ⟨q, hq, rfl⟩ := List.mem_map.mp hk
        exact List.mem_map.mpr ⟨q, hs1 q hq, rfl⟩
      · intro hk
        obtain ⟨q, hq, rfl⟩ := List.mem_map.mp hk
        exact hs2 q hq
    rw [List.length_map] at e
    rw [e]
    exact Post.val h rs (by simp)
theorem ss_rd {f : List T → Sto → Res} {r : PySem.W.Frag → Addr → Hp → VK → Prop} (hf : SeqF true f (fun xs H Q => ∃ l, xs = [V.ref l] ∧ r X.K l H Q)) {c : Cf} {A : Ev} (σ : L2.St) (H : Hp) (Q : VK) (h : rdE c (eSq true f A) σ H Q) : tSS r X.K (rdE c A) σ H Q := by
  have z := seq_rd hf σ H Q h
  obtain ⟨ρ, e, s, rs, re, z⟩ := z
  refine ⟨ρ, e, s, rs, re, Post.mono z fun x H1 q => ?_⟩
  obtain ⟨l, e, q⟩ := q
  injection e with e
  exact ⟨l, e, q⟩
end
end Rk
end
section
set_option linter.all false
set_option autoImplicit false
set_option maxRecDepth 100000
namespace Rk
open PySem PySem.Spec PyProof.Rows L2
/-! ### list(zip(*rows)) -/
section
variable {ρ : Nat → Option Addr} {s : Sto} {H : Hp}
theorem layT_rel : ∀ {ps : List (Addr × List V)} {H : Hp}, RelS ρ s H → (ps.map Prod.fst).Nodup → (∀ p ∈ ps, H p.1 = none) → Ext ρ s H ρ s (layT H ps) ∧ RelS ρ s (layT H ps)
  | [], H, r, _, _ => ⟨Ext.refl, r⟩
  | p :: ps, H, r, nd, h => by
    rw [List.map_cons, List.nodup_cons] at nd
    have h0 := h p List.mem_cons_self
    have e1 : Ext ρ s H ρ s (upd H p.1 (.tup p.2)) := Ext.fresh h0
    have r1 := r.fresh (o := .tup p.2) h0
    obtain ⟨e2, r2⟩ := layT_rel r1 nd.2 fun q hq => by
      rw [upd_ne (fun e => nd.1 (by rw [← e]; exact List.mem_map.mpr ⟨q, hq, rfl⟩))]
      exact h q (List.mem_cons_of_mem _ hq)
    exact ⟨e1.trans r r1 e2, r2⟩
theorem rowsK_ok (rs : RelS ρ s H) {K : PySem.W.Frag} : ∀ {ts : List T} {vs : List V} {k : List (List T) → Res} {Q : VK}, DenL ρ H ts vs → Post ρ s H (rowsK s ts k) Q →
    ∃ (tss : List (List T)) (rows : List (Addr × List V)), Post ρ s H (k tss) Q ∧ vs = rows.map (fun r => V.ref r.1) ∧ (∀ r ∈ rows, SqL K H r.1 r.2 ∨ SqT K H r.1 r.2) ∧ tss.length = rows.length ∧ ∀ (i : Nat) (t : List T) (r : Addr × List V), tss[i]? = some t → rows[i]? = some r → DenL ρ H t r.2
  | [], vs, k, Q, d, h => by
    rw [denL_nil] at d; subst d
    exact ⟨[], [], h, rfl, fun r hr => (nomatch hr), rfl, fun i t r ht => by simp at ht⟩
  | t :: ts, vs, k, Q, d, h => by
    rw [denL_cons] at d
    obtain ⟨v, r, rfl, d1, d2⟩ := d
    have h : Post ρ s H (seqT true t s .er fun xs => rowsK s ts fun r => k (xs :: r)) Q := h
    have fin : ∀ {xs : List T} {a : Addr} {us : List V}, DenL ρ H xs us → v = V.ref a → (SqL K H a us ∨ SqT K H a us) → Post ρ s H (rowsK s ts fun r => k (xs :: r)) Q →
        ∃ (tss : List (List T)) (rows : List (Addr × List V)), Post ρ s H (k tss) Q ∧ v :: r = rows.map (fun r => V.ref r.1) ∧ (∀ r ∈ rows, SqL K H r.1 r.2 ∨ SqT K H r.1 r.2) ∧ tss.length = rows.length ∧ ∀ (i : Nat) (t : List T) (r : Addr × List V), tss[i]? = some t → rows[i]? = some r → DenL ρ H t r.2 := fun {xs a us} dx ev hs hp => by
      obtain ⟨tss, rows, p1, p2, p3, p4, p5⟩ := rowsK_ok rs d2 hp
      refine ⟨xs :: tss, (a, us) :: rows, p1, by rw [ev, p2]; rfl, fun q hq => ?_, by rw [List.length_cons, List.length_cons, p4], fun i t q ht hq => ?_⟩
      · rcases List.mem_cons.mp hq with rfl | hq
        · exact hs
        · exact p3 q hq
      · cases i with
        | zero =>
          simp only [List.getElem?_cons_zero, Option.some.injEq] at ht hq
          subst ht hq
          exact dx
        | succ i => exact p5 i t q (by simpa using ht) (by simpa using hq)
    unfold seqT at h
    cases t with
    | tup xs =>
      have h : Post ρ s H (rowsK s ts fun r => k (xs :: r)) Q := h
      rw [den_tup] at d1
      obtain ⟨a, us, rfl, ha, dl⟩ := d1
      exact fin dl rfl (.inr (.of ha)) h
    | ref n =>
      obtain ⟨o, hn, h⟩ := Post.getO h
      cases o with
      | d _ _ => exact h.elim
      | l xs =>
        obtain ⟨a, us, rfl, _, ha, dl⟩ := rs.lst hn d1
        exact fin dl rfl (.inl (.of ha)) h
    | _ => exact h.elim
end
theorem allLen_iff {m : Nat} : ∀ {rows : List (List T)}, allLen m rows = true → ∀ r ∈ rows, r.length = m
  | [], _, r, hr => nomatch hr
  | x :: rows, h, r, hr => by
    have h : lenK x 0 (fun n => ifB (Nat.beq n m) (allLen m rows) false) = true := h
    rw [lenK_eq, Nat.zero_add] at h
    cases hb : Nat.beq x.length m with
    | false => rw [hb] at h; exact nomatch h
    | true =>
      rw [hb] at h
      rcases List.mem_cons.mp hr with rfl | hr
      · exact Nat.eq_of_beq_eq_true hb
      · exact allLen_iff (rows := rows) h r hr
theorem hdsK_eq {m : Nat} : ∀ {rows : List (List T)} {k : List T → List (List T) → Res}, (∀ r ∈ rows, r.length = m + 1) → hdsK rows k = k (rows.map fun r => r.getD 0 .non) (rows.map List.tail)
  | [], k, _ => rfl
  | x :: rows, k, h => by
    cases x with
    | nil => exact nomatch h [] List.mem_cons_self
    | cons y ys =>
      have e : hdsK ((y :: ys) :: rows) k = hdsK rows fun hs ts => k (y :: hs) (ys :: ts) := rfl
      rw [e, hdsK_eq fun r hr => h r (List.mem_cons_of_mem _ hr)]; rfl
theorem trK_eq : ∀ {m : Nat} {rows : List (List T)} {k : List T → Res}, (∀ r ∈ rows, r.length = m) → trK m rows k = k ((List.range m).map fun j => T.tup (rows.map fun r => r.getD j .non))
  | 0, rows, k, _ => rfl
  | m + 1, rows, k, h => by
    have e : trK (m + 1) rows k = hdsK rows fun hs tls => trK m tls fun cs => k (.tup hs :: cs) := rfl
    rw [e, hdsK_eq h, trK_eq (m := m) (fun r hr => by
      obtain ⟨q, hq, rfl⟩ := List.mem_map.mp hr
      have := h q hq
      rw [List.length_tail]; omega)]
    congr 1
    rw [List.range_succ_eq_map, List.map_cons, List.map_map]
    congr 1
    refine List.map_congr_left fun j _ => ?_
    show T.tup ((rows.map List.tail).map fun r => r.getD j .non) = T.tup (rows.map fun r => r.getD (j + 1) .non)
    rw [List.map_map]
    congr 1
    refine List.map_congr_left fun r _ => ?_
    cases r <;> simp
section
variable {X : Cx}
theorem den_col {ρ : Nat → Option Addr} {H : Hp} {j : Nat} : ∀ {tss : List (List T)} {rows : List (Addr × List V)}, tss.length = rows.length → (∀ (i : Nat) (t : List T) (r : Addr × List V), tss[i]? = some t → rows[i]? = some r → DenL ρ H t r.2) → (∀ t ∈ tss, j < t.length) →
    DenL ρ H (tss.map fun t => t.getD j .non) (rows.map fun r => r.2.getD j .non)
  | [], [], _, _, _ => by simp
  | [], r :: rows, h, _, _ => nomatch h
  | t :: tss, [], h, _, _ => nomatch h
  | t :: tss, r :: rows, hl, hd, hj => by
    rw [List.map_cons, List.map_cons, denL_cons2]
    refine ⟨?_, den_col (by simpa using hl) (fun i t r ht hr => hd (i + 1) t r (by simpa using ht) (by simpa using hr)) fun t ht => hj t (List.mem_cons_of_mem _ ht)⟩
    have d0 := hd 0 t r rfl rfl
    have hlt := hj t List.mem_cons_self
    have e1 : t[j]? = some t[j] := List.getElem?_eq_getElem hlt
    obtain ⟨v, hv, dv⟩ := d0.get e1
    rw [List.getD_eq_getElem?_getD, e1, List.getD_eq_getElem?_getD, hv]
    exact dv
theorem sf_zips : SeqF true bZips (fun xs H Q => ∃ x, xs = [x] ∧ rZips X.K x H Q) := by
  intro ρ s H ts a vs Q rs hq dl hd h
  refine ⟨.ref a, rfl, ?_⟩
  unfold bZips at h
  obtain ⟨tss, rows, h, rfl, hr, hl, hden⟩ := rowsK_ok (K := X.K) rs dl h
  have main : ∀ m, (∀ t ∈ tss, t.length = m) → (rows ≠ [] ∨ m = 0) → Post ρ s H (.nl ((List.range m).map fun j => T.tup (tss.map fun r => r.getD j .non)) s) Q → rZips X.K (.ref a) H Q := by
    intro m hm hne h
    refine ⟨a, rows, m, rfl, hq.sq.symm, hr, fun r hr2 => ?_, hne, fun as S hal nd hS hS0 ha0 => ?_⟩
    · obtain ⟨i, hi⟩ := List.getElem?_of_mem hr2
      have hil : i < tss.length := by rw [hl]; exact (List.getElem?_eq_some_iff.mp hi).1
      have hti : tss[i]? = some tss[i] := List.getElem?_eq_getElem hil
      rw [← (hden i _ r hti hi).length, hm _ (List.getElem_mem hil)]
    · have efst : ((as.zipIdx.map fun p => (p.1, rows.map fun r => r.2.getD p.2 V.non)).map Prod.fst) = as := by
        rw [List.map_map]
        exact List.zipIdx_map_fst 0 as
      have hmem : ∀ p ∈ (as.zipIdx.map fun p => (p.1, rows.map fun r => r.2.getD p.2 V.non)), p.1 ∈ as := fun p hp => by rw [← efst]; exact List.mem_map.mpr ⟨p, hp, rfl⟩
      have nd2 : ((as.zipIdx.map fun p => (p.1, rows.map fun r => r.2.getD p.2 V.non)).map Prod.fst).Nodup := by rw [efst]; exact nd
      obtain ⟨ex, rr⟩ := layT_rel (s := s) rs nd2 fun p hp => ha0 _ (hmem p hp)
      have h2 := Post.step rs rr ex h
      refine Post.newL h2 rr ?_ (by rw [layT_other fun p hp e => hS (by rw [e]; exact hmem p hp)]; exact hS0)
      have key : ∀ {bs : List Addr} {n : Nat}, (∀ (i : Nat) (b : Addr), bs[i]? = some b → as[n + i]? = some b) → DenL ρ (layT H (as.zipIdx.map fun p => (p.1, rows.map fun r => r.2.getD p.2 V.non))) ((List.range bs.length).map fun j => T.tup (tss.map fun r => r.getD (n + j) .non)) (bs.map V.ref) := fun {bs} => by
        induction bs with
        | nil => intro n _; simp
        | cons b bs ih =>
          intro n hb
          rw [List.length_cons, List.range_succ_eq_map, List.map_cons, List.map_map, List.map_cons, denL_cons2]
          have h0 : as[n]? = some b := hb 0 b rfl
          have hn : n < m := by rw [← hal]; exact (List.getElem?_eq_some_iff.mp h0).1
          constructor
          · rw [den_tup]
            refine ⟨b, _, rfl, layT_at nd2 (b, rows.map fun r => r.2.getD n V.non) (List.mem_map.mpr ⟨(b, n), List.mk_mem_zipIdx_iff_getElem?.mpr h0, rfl⟩), ?_⟩
            exact (den_col hl hden fun t ht => by rw [hm t ht]; exact hn).ext rs ex
          · have := ih (n := n + 1) fun i c hc => by
              have := hb (i + 1) c (by simpa using hc)
              rw [show n + 1 + i = n + (i + 1) by omega]; exact this
            have e : ((List.range bs.length).map ((fun j => T.tup (tss.map fun r => r.getD (n + j) .non)) ∘ Nat.succ)) = ((List.range bs.length).map fun j => T.tup (tss.map fun r => r.getD (n + 1 + j) .non)) :=
              List.map_congr_left fun j _ => by show T.tup (tss.map fun r => r.getD (n + (j + 1)) .non) = _; rw [show n + (j + 1) = n + 1 + j by omega]
            rw [e]; exact this
      have k0 := key (bs := as) (n := 0) fun i b hb => by rw [Nat.zero_add]; exact hb
      rw [hal] at k0
      have e0 : ((List.range m).map fun j => T.tup (tss.map fun r => r.getD (0 + j) .non)) = ((List.range m).map fun j => T.tup (tss.map fun r => r.getD j .non)) := List.map_congr_left fun j _ => by rw [Nat.zero_add]
      rw [e0] at k0
      exact k0
  cases tss with
  | nil =>
    have e : rows = [] := List.eq_nil_of_length_eq_zero hl.symm
    exact main 0 (fun t ht => nomatch ht) (.inr rfl) h
  | cons r0 tss =>
    have h : Post ρ s H (lenK r0 0 fun m => ifB (allLen m (r0 :: tss)) (trK m (r0 :: tss) fun cs => .nl cs s) .er) Q := h
    rw [lenK_eq, Nat.zero_add] at h
    obtain ⟨ha, h⟩ := h.ifB
    have ha := allLen_iff ha
    rw [trK_eq ha] at h
    exact main r0.length ha (.inl fun e => by rw [e] at hl; exact nomatch hl) h
theorem zips_rd {c : Cf} {A : Ev} (σ : L2.St) (H : Hp) (Q : VK) (h : rdE c (eSq true bZips A) σ H Q) : rdE c A σ H fun x H1 => rZips X.K x H1 Q := by
  have z := seq_rd (sf_zips (X := X)) σ H Q h
  obtain ⟨ρ, e, s, rs, re, z⟩ := z
  refine ⟨ρ, e, s, rs, re, Post.mono z fun x H1 q => ?_⟩
  obtain ⟨y, e, q⟩ := q
  injection e with e
  rw [e]; exact q
end
end Rk
end
section
set_option linter.all false
set_option autoImplicit false
set_option maxRecDepth 100000
namespace Rk
open PySem PySem.Spec PyProof.Rows L2
/-! ### comb -/
theorem fall_eq (n : Nat) : ∀ k, k ≤ n → Builtin.Math.fallingProduct (n : Int) k = ((fallN n k : Nat) : Int)
  | 0, _ => rfl
  | k + 1, h => by
    have ih := fall_eq n k (by omega)
    unfold Builtin.Math.fallingProduct at ih ⊢
    rw [List.range_succ, List.foldl_append, ih]
    show ((fallN n k : Nat) : Int) * ((n : Int) - (k : Int)) = ((fallN n k * (n - k) : Nat) : Int)
    rw [← Int.ofNat_sub (by omega)]
    exact (Int.natCast_mul _ _).symm
theorem comb_eq (n k : Nat) : PySem.W.mcComb (n : Int) (k : Int) = ((combN n k : Nat) : Int) := by
  unfold combN
  by_cases h : n < k
  · have h1 : Nat.blt n k = true := by rw [Nat.blt_eq]; exact h
    rw [h1, PySem.W.mcComb_above (by omega)]; rfl
  · have h1 : Nat.blt n k = false := by rw [Bool.eq_false_iff, ne_eq, Nat.blt_eq]; exact h
    rw [h1]
    have e : ∀ m : Nat, m = (ifB (Nat.ble k (Nat.sub n k)) k (Nat.sub n k)) → PySem.W.mcComb (n : Int) (k : Int) = ((Nat.div (fallN n m) (fallN m m) : Nat) : Int) := fun m hm => by
      have hm2 : m = min k (n - k) := by
        rw [hm]
        by_cases h2 : k ≤ n - k
        · have : Nat.ble k (Nat.sub n k) = true := Nat.ble_eq_true_of_le h2
          rw [this, Nat.min_eq_left h2]; rfl
        · have : Nat.ble k (Nat.sub n k) = false := by rw [Bool.eq_false_iff]; exact fun z => h2 (Nat.le_of_ble_eq_true z)
          rw [this, Nat.min_eq_right (by omega)]; rfl
      rw [PySem.W.mcComb_at (a := (n : Int)) (b := (k : Int)) (m := (m : Int)) (by omega) (by omega) (by omega), Int.toNat_natCast, fall_eq n m (by omega), fall_eq m m (Nat.le_refl _)]
      exact (Int.natCast_ediv _ _).symm
    exact e _ rfl
def rComb : List V → Hp → VK → Prop := fun vs H Q => ∃ a b : Nat, vs = [.int (a : Int), .int (b : Int)] ∧ a ≤ 10000 ∧ b ≤ 9000 ∧ Q (.int ((combN a b : Nat) : Int)) H
theorem cr_comb {X : Cx} : CallR X (.builtin "math.comb") rComb := by
  intro pins s σ H vs us Q I r h
  obtain ⟨a, b, rfl, ha, hb, q⟩ := h
  obtain ⟨t, u, rfl⟩ := Vals.int2 r
  exact PySem.W.mc_comb_v (by omega) (by omega) (by omega) (.inl (by omega)) (comb_eq a b) ⟨.int _, H, I.tok _, ⟨_, rfl⟩, q⟩
theorem k_comb : OpT vComb (fun x y H Q => rComb [x, y] H Q) := by
  intro ρ s H t u x y Q rs d1 d2 h
  unfold vComb at h
  cases t with
  | int i =>
    cases u with
    | int j =>
      rw [den_int] at d1 d2; subst d1 d2
      simp only [onInt_int] at h
      rw [iLt_eq, iLt_eq] at h
      by_cases h1 : i < 0
      · rw [decide_eq_true (show i < Int.ofNat 0 from h1)] at h; exact h.elim
      by_cases h2 : j < 0
      · rw [decide_eq_false (show ¬ i < Int.ofNat 0 from h1), decide_eq_true (show j < Int.ofNat 0 from h2)] at h; exact h.elim
      rw [decide_eq_false (show ¬ i < Int.ofNat 0 from h1), decide_eq_false (show ¬ j < Int.ofNat 0 from h2)] at h
      simp only [ifB_false] at h
      obtain ⟨h3, h⟩ := Post.ifB h
      obtain ⟨h4, h⟩ := Post.ifB h
      rw [frN_eq] at h
      have a1 : 0 ≤ i := by omega
      have a2 : 0 ≤ j := by omega
      refine ⟨i.toNat, j.toNat, by rw [Int.toNat_of_nonneg a1, Int.toNat_of_nonneg a2], Nat.le_of_ble_eq_true h3, Nat.le_of_ble_eq_true h4, Post.val h rs (by simp)⟩
    | _ => exact h.elim
  | _ => exact h.elim
end Rk
end
section
set_option linter.all false
set_option autoImplicit false
set_option maxRecDepth 100000
namespace Rk
open PySem PySem.Spec PyProof.Rows L2

/-! ### storing into slots -/
theorem En.set_eq {α : Type} {e : α} {y : T} {ρ H} {v : V} (d : Den ρ H y v) : ∀ {i : Nat} {σ : En} {st : L2.St} {k : En → α}, RelE ρ H σ st → (En.set e y i σ k = e ∨ ∃ σ', En.set e y i σ k = k σ' ∧ RelE ρ H σ' (st.set i (some v)))
  | 0, .nil, st, k, h => .inl rfl
  | 0, .u r, st, k, h => by
    obtain ⟨x, q, rfl, h⟩ := h
    exact .inr ⟨.b y r, rfl, v, q, rfl, d, h⟩
  | 0, .b t r, st, k, h => by
    obtain ⟨x, q, rfl, _, h⟩ := h
    exact .inr ⟨.b y r, rfl, v, q, rfl, d, h⟩
  | i + 1, .nil, st, k, h => .inl rfl
  | i + 1, .u r, st, k, h => by
    obtain ⟨x, q, rfl, h⟩ := h
    have e1 : En.set e y (i + 1) (.u r) k = En.set e y i r fun r' => k (.u r') := rfl
    rcases En.set_eq (e := e) d (i := i) (k := fun r' => k (.u r')) h with z | ⟨σ', z, h'⟩
    · exact .inl (e1.trans z)
    · exact .inr ⟨.u σ', e1.trans z, x, _, rfl, h'⟩
  | i + 1, .b t r, st, k, h => by
    obtain ⟨x, q, rfl, d2, h⟩ := h
    have e1 : En.set e y (i + 1) (.b t r) k = En.set e y i r fun r' => k (.b t r') := rfl
    rcases En.set_eq (e := e) d (i := i) (k := fun r' => k (.b t r')) h with z | ⟨σ', z, h'⟩
    · exact .inl (e1.trans z)
    · exact .inr ⟨.b t σ', e1.trans z, x, _, rfl, d2, h'⟩
theorem PostG.val {ρ s H} {e : En} {σ : L2.St} {Q : L2.St → Hp → Prop} (h : PostG ρ s H (.ok e s) Q) (r : RelS ρ s H) (re : RelE ρ H e σ) : Q σ H := h ρ H σ Ext.refl r re
theorem gname_rd {c : Cf} {i : Nat} (v : V) (σ : L2.St) (H : Hp) (Q : L2.St → Hp → Prop) (h : rdG c (gN i) v σ H Q) : gName i v σ H Q := by
  obtain ⟨ρ, e, s, t, rs, re, d, h⟩ := h
  have h : PostG ρ s H (En.set .er t i e fun σ => .ok σ s) Q := h
  rcases En.set_eq (e := GR.er) d (i := i) (k := fun σ => .ok σ s) re with z | ⟨σ', z, h'⟩
  · rw [z] at h; exact h.elim
  · rw [z] at h; exact PostG.val h rs h'
theorem pg_gname {X : Cx} {c : Cf} {i : Nat} {x : Str} {pos : Pos} (hN : X.N.Nodup) (hi : X.N[i]? = some x) (hx : Loc X.env.scope x) (hf : X.fn x = true ∨ X.env.scope.names.lookup x = some .local) : PG X (.Name x pos) (rdG c (gN i)) :=
  (pg_name hN hi hx hf).mono gname_rd
theorem pgs_gnil {X : Cx} {c : Cf} : PGs X [] (rdGs c gsNil) := pgs_nil.mono fun v σ H Q ⟨ρ, e, s, ts, rs, re, d, h⟩ => by
  cases ts with
  | nil => rw [denL_nil] at d; exact ⟨d, PostG.val h rs re⟩
  | cons t ts => exact h.elim
theorem gcons_rd {c : Cf} {g : Gv} {r : Gs} (v : List V) (σ : L2.St) (H : Hp) (Q : L2.St → Hp → Prop) (h : rdGs c (gsCons g r) v σ H Q) : gCons (rdG c g) (rdGs c r) v σ H Q := by
  obtain ⟨ρ, e, s, ts, rs, re, d, h⟩ := h
  cases ts with
  | nil => exact h.elim
  | cons t ts =>
    rw [denL_cons] at d
    obtain ⟨w, q, rfl, d1, d2⟩ := d
    refine ⟨w, q, rfl, ρ, e, s, t, rs, re, d1, (bndG_gen stb_G neG rs h).mono fun σ' H1 ⟨ρ1, s1, e1, x1, r1, re1, p1⟩ => ?_⟩
    exact ⟨ρ1, e1, s1, ts, r1, re1, d2.ext rs x1, p1⟩
theorem assign_one {e : Expr} {es : List Expr} {env : Env} (h : noStar e = true) : assignEach (e :: es) env = (false, assign e env) :: assignEach es env := by
  cases e <;> first | rfl | exact nomatch h
theorem pgs_gcons {X : Cx} {c : Cf} {g : Gv} {r : Gs} {e : Expr} {es : List Expr} (h1 : PG X e (rdG c g)) (h2 : PGs X es (rdGs c r)) (hs : noStar e = true) : PGs X (e :: es) (rdGs c (gsCons g r)) :=
  (pgs_cons h1 h2 (by rw [assign_one hs]; rfl)).mono gcons_rd
theorem assign_len {env : Env} : ∀ {es : List Expr}, (assignEach es env).length = es.length
  | [] => rfl
  | e :: es => by
    cases e <;> (show _ + 1 = _ + 1; congr 1; exact assign_len)
theorem assign_nostar {env : Env} : ∀ {es : List Expr}, es.all noStar = true → (assignEach es env).findIdx? (·.1) = none
  | [], _ => rfl
  | e :: es, h => by
    rw [List.all_cons, Bool.and_eq_true] at h
    rw [assign_one h.1, List.findIdx?_cons]
    simp only [Bool.false_eq_true, if_false]
    rw [assign_nostar h.2]; rfl
def GsLen (g : Gs) (n : Nat) : Prop := ∀ xs c e s, xs.length ≠ n → g xs c e s = .er
theorem len_nil : GsLen gsNil 0 := fun xs c e s h => by
  cases xs with
  | nil => exact absurd rfl h
  | cons _ _ => rfl
theorem len_cons {g : Gv} {r : Gs} {n : Nat} (h : GsLen r n) : GsLen (gsCons g r) (n + 1) := fun xs c e s hl => by
  cases xs with
  | nil => rfl
  | cons x q =>
    show bndG .er (g x c e s) (fun σ s => r q c σ s) = .er
    have hq : q.length ≠ n := fun z => hl (by simp [z])
    cases g x c e s with
    | er => rfl
    | ok σ s => exact h q c σ s hq
theorem gtup_rd {K : PySem.W.Frag} {c : Cf} {g : Gs} {n : Nat} (hl : GsLen g n) (v : V) (σ : L2.St) (H : Hp) (Q : L2.St → Hp → Prop) (h : rdG c (gT g) v σ H Q) : gTup K n (rdGs c g) v σ H Q := by
  obtain ⟨ρ, e, s, t, rs, re, d, h⟩ := h
  cases t with
  | tup ts =>
    rw [den_tup] at d
    obtain ⟨a, vs, rfl, ha, dl⟩ := d
    have h : PostG ρ s H (g ts c e s) Q := h
    refine ⟨a, vs, rfl, .of ha, ?_, ρ, e, s, ts, rs, re, dl, h⟩
    rw [← dl.length]
    exact Classical.byContradiction fun z => by rw [hl ts c e s z] at h; exact h
  | _ => exact h.elim
theorem pg_gtup {X : Cx} {c : Cf} {g : Gs} {es : List Expr} {k : Nat} {pos : Pos} (hc : X.calm = true) (h : PGs X es (rdGs c g)) (hl : GsLen g es.length) (hs : es.all noStar = true) : PG X (.Tuple es k pos) (rdG c (gT g)) :=
  (pg_tup hc h assign_len (assign_nostar hs)).mono (gtup_rd hl)

/-! ### writing into the store -/
def AL.put : AL → Nat → Ob → AL
  | .nil, _, _ => .nil
  | .cons id o r, i, o' => if Nat.beq id i = true then .cons id o' r else .cons id o (r.put i o')
theorem AL.set_eq {α : Type} {e : α} : ∀ {a : AL} {i : Nat} {o' : Ob} {k : AL → α}, AL.set e a i o' k = match a.find i with | none => e | some _ => k (a.put i o')
  | .nil, i, o', k => rfl
  | .cons id o r, i, o', k => by
    have e1 : AL.set e (.cons id o r) i o' k = ifB (Nat.beq id i) (k (.cons id o' r)) (AL.set e r i o' fun r' => k (.cons id o r')) := rfl
    rw [e1]
    unfold AL.find AL.put
    cases Nat.beq id i with
    | true => rfl
    | false =>
      simp only [Bool.false_eq_true, if_false, ifB_false]
      rw [AL.set_eq]
theorem AL.find_put : ∀ {a : AL} {i j : Nat} {o' : Ob} {o : Ob}, a.find i = some o → (a.put i o').find j = if i = j then some o' else a.find j
  | .nil, i, j, o', o, h => nomatch h
  | .cons id oo r, i, j, o', o, h => by
    unfold AL.find at h
    unfold AL.put
    by_cases hb : Nat.beq id i = true
    · rw [if_pos hb]
      rw [Nat.beq_eq] at hb
      subst hb
      show (if Nat.beq id j = true then some o' else r.find j) = if id = j then some o' else (if Nat.beq id j = true then some oo else r.find j)
      by_cases hj : id = j
      · rw [if_pos (by rw [Nat.beq_eq]; exact hj), if_pos hj]
      · rw [if_neg (by rw [Nat.beq_eq]; exact hj), if_neg hj, if_neg (by rw [Nat.beq_eq]; exact hj)]
    · rw [if_neg hb] at h ⊢
      show (if Nat.beq id j = true then some oo else (r.put i o').find j) = if i = j then some o' else (if Nat.beq id j = true then some oo else r.find j)
      rw [AL.find_put h]
      rw [Nat.beq_eq] at hb
      by_cases hj : id = j
      · subst hj
        rw [if_pos (by rw [Nat.beq_eq]), if_neg (fun z => hb z.symm), if_pos (by rw [Nat.beq_eq])]
      · rw [if_neg (by rw [Nat.beq_eq]; exact hj)]
        by_cases hi : i = j
        · rw [if_pos hi, if_pos hi]
        · rw [if_neg hi, if_neg hi, if_neg (by rw [Nat.beq_eq]; exact hj)]
def Sto.put (s : Sto) (i : Nat) (o : Ob) : Sto := match s with
  | .mk n a => .mk n (a.put i o)
theorem setO_eq {α : Type} {e : α} (s : Sto) (i : Nat) (o' : Ob) (k : Sto → α) : setO e s i o' k = match s.find i with | none => e | some _ => k (s.put i o') := by
  cases s with
  | mk n a => exact AL.set_eq
theorem Sto.find_put {s : Sto} {i j : Nat} {o o' : Ob} (h : s.find i = some o) : (s.put i o').find j = if i = j then some o' else s.find j := by
  cases s with
  | mk n a => exact AL.find_put h
theorem Sto.n_put {s : Sto} {i : Nat} {o : Ob} : (s.put i o).n = s.n := by cases s; rfl
/-- a live object is changed -/
theorem write_ok {ρ s H} {n : Nat} {o o' : Ob} {a : Addr} {ho' : HO} (rs : RelS ρ s H) (hn : s.find n = some o) (ha : ρ n = some a) (d : DenO ρ H o' ho') :
    Ext ρ s H ρ (s.put n o') (upd H a ho') ∧ RelS ρ (s.put n o') (upd H a ho') := by
  have own : Own ρ s a := ⟨n, o, hn, ha⟩
  have nt : ∀ xs, H a ≠ some (.tup xs) := fun xs z => by
    rcases rs.own own with ⟨_, e⟩ | ⟨_, e⟩ | ⟨_, e⟩ <;> (rw [z] at e; cases e)
  have tp : ∀ x xs, H x = some (.tup xs) → upd H a ho' x = some (.tup xs) := fun x xs z => by
    rw [upd_ne]
    · exact z
    · rintro rfl; exact nt _ z
  have dm := den_mono_both (ρ := ρ) (H := H) (H' := upd H a ho') (fun _ _ h => h) tp
  have ex : Ext ρ s H ρ (s.put n o') (upd H a ho') := by
    refine ⟨fun _ _ h => h, by rw [Sto.n_put]; exact Nat.le_refl _, fun m x h1 h2 => (nomatch h1.symm.trans h2), fun m om h _ => ?_, fun x u h hno => ?_, fun x h => ?_⟩
    · rw [Sto.find_put hn] at h
      by_cases e : n = m
      · exact ⟨o, by rw [← e]; exact hn⟩
      · rw [if_neg e] at h; exact ⟨om, h⟩
    · rw [upd_ne]
      · exact h
      · rintro rfl; exact hno own
    · by_cases e : x = a
      · subst e; rw [upd_same]; exact fun z => nomatch z
      · rw [upd_ne e]; exact h
  refine ⟨ex, ⟨fun m h => rs.dom m (by rwa [Sto.n_put] at h), fun m h => rs.def_ m (by rwa [Sto.n_put] at h), rs.inj, fun m x h => ex.dom x (rs.trk m x h), fun m om h => ?_⟩⟩
  rw [Sto.find_put hn] at h
  by_cases e : n = m
  · subst e
    rw [if_pos rfl] at h; cases h
    exact ⟨a, ho', ha, upd_same, d.mono dm.1 dm.2⟩
  · rw [if_neg e] at h
    obtain ⟨x, ho, h1, h2, h3⟩ := rs.live m om h
    have hx : x ≠ a := by
      rintro rfl
      exact e (rs.inj n m x ha h1)
    exact ⟨x, ho, h1, by rw [upd_ne hx]; exact h2, h3.mono dm.1 dm.2⟩
def PostU (ρ : Nat → Option Addr) (s : Sto) (H : Hp) (m : UR) (Q : Hp → Prop) : Prop := match m with
  | .er => False
  | .ok s' => ∀ ρ' H', Ext ρ s H ρ' s' H' → RelS ρ' s' H' → Q H'
theorem PostU.ifB {ρ s H} {b : Bool} {m : UR} {Q} (h : PostU ρ s H (ifB b m .er) Q) : b = true ∧ PostU ρ s H m Q := by
  cases b with
  | false => exact h.elim
  | true => exact ⟨rfl, h⟩
/-- a dict's store -/
theorem mapD_ok {α : Type} {e : α} {κ : Type} [DecidableEq κ] {kf : T → Option κ} (he : ∀ {a b ka kb}, kf a = some ka → kf b = some kb → tEq a b = some (decide (ka = kb))) {ρ H} {x t : T} {kx : κ} {v : V} (hx : kf x = some kx) (dv : Den ρ H t v) :
    ∀ {kvs : List (T × T)} {ys : List (κ × V)} {k : List (T × T) → α}, DenK kf ρ H kvs ys → ∃ kvs', mapD e x t kvs k = k kvs' ∧ DenK kf ρ H kvs' (ys.map fun kv => if kv.1 = kx then (kv.1, v) else kv)
  | [], ys, k, d => ⟨[], rfl, by cases d; rfl⟩
  | p :: r, ys, k, d => by
    obtain ⟨k', w, q, rfl, h1, h2, h3⟩ := d
    have e1 : mapD e x t (p :: r) k = onOp (tEq p.1 x) e fun b => mapD e x t r fun r' => k ((p.1, Rk.ifB b t p.2) :: r') := rfl
    rw [e1, he h1 hx]
    obtain ⟨kvs', e2, d'⟩ := mapD_ok (e := e) he hx dv (k := fun r' => k ((p.1, Rk.ifB (decide (k' = kx)) t p.2) :: r')) h3
    refine ⟨_, e2, ?_⟩
    rw [List.map_cons]
    by_cases z : k' = kx
    · rw [if_pos z, decide_eq_true z]
      exact ⟨k', v, _, rfl, h1, dv, d'⟩
    · rw [if_neg z, decide_eq_false z]
      exact ⟨k', w, _, rfl, h1, h2, d'⟩
theorem putD_ok {α : Type} {e : α} {κ : Type} [DecidableEq κ] {kf : T → Option κ} (he : ∀ {a b ka kb}, kf a = some ka → kf b = some kb → tEq a b = some (decide (ka = kb))) {ρ H} {x t : T} {kx : κ} {v : V} (hx : kf x = some kx) (dv : Den ρ H t v) :
    ∀ {kvs : List (T × T)} {ys : List (κ × V)} {k : List (T × T) → α}, DenK kf ρ H kvs ys → ∃ kvs', putD e x t kvs k = k kvs' ∧ DenK kf ρ H kvs' (putK ys kx v)
  | [], ys, k, d => ⟨[(x, t)], rfl, by cases d; exact ⟨kx, v, [], rfl, hx, dv, rfl⟩⟩
  | p :: r, ys, k, d => by
    obtain ⟨k', w, q, rfl, h1, h2, h3⟩ := d
    have e1 : putD e x t (p :: r) k = onOp (tEq p.1 x) e fun b => Rk.ifB b (mapD e x t r fun r' => k ((p.1, t) :: r')) (putD e x t r fun r' => k ((p.1, p.2) :: r')) := rfl
    rw [e1, he h1 hx]
    by_cases z : k' = kx
    · rw [decide_eq_true z]
      obtain ⟨kvs', e2, d'⟩ := mapD_ok (e := e) he hx dv (k := fun r' => k ((p.1, t) :: r')) h3
      refine ⟨_, e2, ?_⟩
      unfold putK
      rw [if_pos (by rw [List.any_cons, decide_eq_true z]; rfl), List.map_cons, if_pos z]
      exact ⟨k', v, _, rfl, h1, dv, d'⟩
    · rw [decide_eq_false z]
      obtain ⟨kvs', e2, d'⟩ := putD_ok (e := e) he hx dv (k := fun r' => k ((p.1, p.2) :: r')) h3
      refine ⟨_, e2, ?_⟩
      have ep : putK ((k', w) :: q) kx v = (k', w) :: putK q kx v := by
        unfold putK
        rw [List.any_cons, decide_eq_false z, Bool.false_or]
        split
        · rw [List.map_cons, if_neg z]
        · rfl
      rw [ep]
      exact ⟨k', w, _, rfl, h1, h2, d'⟩
theorem DenK.length {κ : Type} {kf : T → Option κ} {ρ H} : ∀ {xs : List (T × T)} {ys : List (κ × V)}, DenK kf ρ H xs ys → xs.length = ys.length
  | [], ys, h => by cases h; rfl
  | p :: r, ys, h => by
    obtain ⟨k, v, q, rfl, _, _, h3⟩ := h
    simp [DenK.length h3]
def rSetA : TSet := fun o i v H Q => rSetL o i v H Q ∨ rSetD o i v H Q
theorem pset_all {X : Cx} (hu : X.A.units + 1 < cLine) : PSet X rSetA := by
  intro pins s σ H o i v ov iv u Q I ro ri rv h
  rcases h with h | h
  · exact set_list pins s σ H o i v ov iv u Q I ro ri rv h
  · exact set_dict hu pins s σ H o i v ov iv u Q I ro ri rv h
theorem PostU.onInt {ρ s H} {t : T} {k : Int → UR} {Q} (h : PostU ρ s H (onInt .er t k) Q) : ∃ i, t = .int i ∧ PostU ρ s H (k i) Q := by
  cases t with
  | int i => exact ⟨i, rfl, h⟩
  | _ => exact h.elim
theorem ixK_eqU (e : UR) (n : Nat) (i : Int) (k : Nat → UR) : ixK e n i k = match ixN n i with | none => e | some j => k j := by
  cases i with
  | ofNat j =>
    show Rk.ifB (Nat.blt j n) (k j) e = _
    unfold ixN
    rw [if_pos (show (0 : Int) ≤ Int.ofNat j from Int.natCast_nonneg j)]
    by_cases h : j < n
    · have h1 : Nat.blt j n = true := by rw [Nat.blt_eq]; exact h
      rw [h1, if_pos (show (Int.ofNat j) < (n : Int) from by simp only [Int.ofNat_eq_natCast]; omega)]; rfl
    · have h1 : Nat.blt j n = false := by rw [Bool.eq_false_iff, ne_eq, Nat.blt_eq]; exact h
      rw [h1, if_neg (show ¬ (Int.ofNat j) < (n : Int) from by simp only [Int.ofNat_eq_natCast]; omega)]; rfl
  | negSucc j =>
    show Rk.ifB (Nat.blt j n) (k (n - j - 1)) e = _
    unfold ixN
    rw [if_neg (show ¬ (0 : Int) ≤ Int.negSucc j from by omega)]
    by_cases h : j < n
    · have h1 : Nat.blt j n = true := by rw [Nat.blt_eq]; exact h
      rw [h1, if_pos (show -(n : Int) ≤ Int.negSucc j from by omega)]
      show k (n - j - 1) = k (Int.negSucc j + (n : Int)).toNat
      congr 1; omega
    · have h1 : Nat.blt j n = false := by rw [Bool.eq_false_iff, ne_eq, Nat.blt_eq]; exact h
      rw [h1, if_neg (show ¬ -(n : Int) ≤ Int.negSucc j from by omega)]; rfl
theorem stIx_ok {ρ s H} {o i t : T} {ov iv v : V} {Q : Hp → Prop} (rs : RelS ρ s H) (d1 : Den ρ H o ov) (d2 : Den ρ H i iv) (d3 : Den ρ H t v) (h : PostU ρ s H (stIx o i t s) Q) : rSetA ov iv v H Q := by
  unfold stIx at h
  cases o with
  | ref n =>
    simp only [onT_ref] at h
    rw [getO_eq] at h
    cases hn : s.find n with
    | none => rw [hn] at h; exact h.elim
    | some ob =>
      rw [hn] at h
      cases ob with
      | l ts =>
        obtain ⟨a, vs, rfl, hr, ha, dl⟩ := rs.lst hn d1
        simp only [onOb_l] at h
        obtain ⟨j, ej, h2⟩ := PostU.onInt h
        clear h
        subst ej
        rw [den_int] at d2; subst d2
        simp only [lenK_eq, Nat.zero_add] at h2
        rw [ixK_eqU] at h2
        cases hj : ixN ts.length j with
        | none => rw [hj] at h2; exact h2.elim
        | some m =>
          rw [hj] at h2
          dsimp only at h2
          rw [setK_eq] at h2
          by_cases hm : m < ts.length
          · rw [if_pos hm, setO_eq, hn] at h2
            dsimp only at h2
            obtain ⟨ex, rr⟩ := write_ok rs hn hr (show DenO ρ H (.l (ts.set m t)) (.lst (vs.set m v)) from ⟨_, rfl, dl.set m d3⟩)
            exact .inl ⟨a, vs, j, m, rfl, rfl, ha, by rw [← dl.length]; exact hj, h2 ρ _ ex rr⟩
          · rw [if_neg hm] at h2; exact h2.elim
      | d b kvs =>
        obtain ⟨a, ho, hr, ha, dk⟩ := rs.live n _ hn
        rw [den_ref] at d1
        obtain ⟨a', rfl, hr'⟩ := d1
        rw [hr] at hr'; cases hr'
        simp only [onOb_d, lenK_eq, Nat.zero_add] at h
        obtain ⟨hl, h⟩ := PostU.ifB h
        obtain ⟨hk, h⟩ := PostU.ifB h
        rw [Nat.blt_eq] at hl
        cases b with
        | false =>
          obtain ⟨ys, rfl, dk⟩ := dk
          obtain ⟨k, hk⟩ := kP_ok (show kP i = true from hk)
          have := den_key d2 hk
          subst this
          obtain ⟨kvs', e2, dk'⟩ := putD_ok (e := UR.er) key_eq hk d3 (k := fun kvs => setO .er s n (.d false kvs) fun s => .ok s) dk
          rw [e2, setO_eq, hn] at h
          dsimp only at h
          obtain ⟨ex, rr⟩ := write_ok rs hn hr (show DenO ρ H (.d false kvs') (.dK (putK ys k v)) from ⟨_, rfl, dk'⟩)
          exact .inr ⟨a, _, rfl, .k ha (by rw [← dk.length, sizeLine_eq]; exact hl), h ρ _ ex rr⟩
        | true =>
          obtain ⟨ys, rfl, dk⟩ := dk
          obtain ⟨k, hk⟩ := kT_ok (show kT i = true from hk)
          obtain ⟨q, rfl, hq⟩ := den_keyT d2 hk
          obtain ⟨kvs', e2, dk'⟩ := putD_ok (e := UR.er) keyTs_eq hk d3 (k := fun kvs => setO .er s n (.d true kvs) fun s => .ok s) dk
          rw [e2, setO_eq, hn] at h
          dsimp only at h
          obtain ⟨ex, rr⟩ := write_ok rs hn hr (show DenO ρ H (.d true kvs') (.dT (putK ys k v)) from ⟨_, rfl, dk'⟩)
          exact .inr ⟨a, _, rfl, .t ha hq (by rw [← dk.length, sizeLine_eq]; exact hl), h ρ _ ex rr⟩
  | _ => exact h.elim
theorem bndU_S {ρ s H} {m : UR} {k : Sto → SR} {D : Ends} (rs : RelS ρ s H) (h : PostS ρ s H (bndU .er m k) D) : PostU ρ s H m fun H' => ∃ ρ' s', Ext ρ s H ρ' s' H' ∧ RelS ρ' s' H' ∧ PostS ρ' s' H' (k s') D := by
  cases m with
  | er => exact h
  | ok s' => exact fun ρ' H' e rr => ⟨ρ', s', e, rr, PostS.step rs rr e h⟩
theorem bndU_G {ρ s H} {m : UR} {k : Sto → GR} {Q : L2.St → Hp → Prop} (rs : RelS ρ s H) (h : PostG ρ s H (bndU .er m k) Q) : PostU ρ s H m fun H' => ∃ ρ' s', Ext ρ s H ρ' s' H' ∧ RelS ρ' s' H' ∧ PostG ρ' s' H' (k s') Q := by
  cases m with
  | er => exact h
  | ok s' => exact fun ρ' H' e rr => ⟨ρ', s', e, rr, PostG.step rs rr e h⟩
theorem gsub_rd {c : Cf} {O I : Ev} (v : V) (σ : L2.St) (H : Hp) (Q : L2.St → Hp → Prop) (h : rdG c (gS O I) v σ H Q) : gSub (rdE c O) (rdE c I) rSetA v σ H Q := by
  obtain ⟨ρ, e, s, t, rs, re, d, h⟩ := h
  refine ⟨ρ, e, s, rs, re, (bnd_G rs h).mono fun x H1 ⟨ρ1, s1, t1, e1, r1, d1, p1⟩ => ?_⟩
  refine ⟨ρ1, e, s1, r1, re.ext rs e1, (bnd_G r1 p1).mono fun y H2 ⟨ρ2, s2, t2, e2, r2, d2, p2⟩ => ?_⟩
  refine stIx_ok r2 (d1.ext r1 e2) d2 ((d.ext rs e1).ext r1 e2) ?_
  have p3 := bndU_G r2 p2
  cases hm : stIx t1 t2 t s2 with
  | er => rw [hm] at p3; exact p3
  | ok s' =>
    rw [hm] at p3
    intro ρ' H' ex rr
    obtain ⟨ρ3, s3, e3, r3, p4⟩ := p3 ρ' H' ex rr
    exact PostG.val p4 r3 (((re.ext rs e1).ext r1 e2).ext r2 e3)
theorem pg_gsub {X : Cx} {c : Cf} {O I : Ev} {o i : Expr} {pos : Pos} (hu : X.A.units + 1 < cLine) (ho : PE X o (rdE c O)) (hi : PE X i (rdE c I)) (hs : plainIx i = true) : PG X (.Subscript o i pos) (rdG c (gS O I)) := by
  refine (pg_sub ho hi (pset_all hu) fun v => ?_).mono gsub_rd
  cases i <;> first | rfl | exact nomatch hs
end Rk
end
section
set_option linter.all false
set_option autoImplicit false
set_option maxRecDepth 100000
namespace Rk
open PySem PySem.Spec PyProof.Rows L2

/-! ### methods of lists -/
theorem Post.onLst {ρ s H} {t : T} {k : Nat → List T → Res} {Q : VK} (h : Post ρ s H (onLst t s k) Q) : ∃ n ts, t = .ref n ∧ s.find n = some (.l ts) ∧ Post ρ s H (k n ts) Q := by
  unfold Rk.onLst at h
  cases t with
  | ref n =>
    simp only [onT_ref] at h
    obtain ⟨ts, hn, h⟩ := h.getL
    exact ⟨n, ts, rfl, hn, h⟩
  | _ => exact h.elim
theorem Post.setO {ρ s H} {n : Nat} {o o' : Ob} {k : Sto → Res} {Q : VK} (hn : s.find n = some o) (h : Post ρ s H (setO .er s n o' k) Q) : Post ρ s H (k (s.put n o')) Q := by
  rw [setO_eq, hn] at h; exact h
theorem lst_ty {K : PySem.W.Frag} {H : Hp} {a : Addr} {vs : List V} (h : H a = some (.lst vs)) : tyV K "list" (.ref a) H := .inl ⟨rfl, vs, .of h⟩
theorem mt1_rd {K : PySem.W.Frag} {c : Cf} {O A : Ev} {m : T → T → Sto → Res} {r : V → List V → Hp → VK → Prop} (hm : OpT m (fun x y H Q => r x [y] H Q)) (σ : L2.St) (H : Hp) (Q : VK) (h : rdE c (eMt1 m O A) σ H Q) : tBM K "list" r (rdE c O) (tCons (rdE c A) tNil) σ H Q := by
  obtain ⟨ρ, e, s, rs, re, h⟩ := h
  refine ⟨ρ, e, s, rs, re, (bnd_post rs h).mono fun x H1 ⟨ρ1, s1, t1, e1, r1, d1, p1⟩ => ?_⟩
  obtain ⟨n, ts, et, hn, p2⟩ := p1.onLst
  subst et
  obtain ⟨a, vs, rfl, _, ha, dl⟩ := r1.lst hn d1
  refine ⟨lst_ty ha, ρ1, e, s1, r1, re.ext rs e1, (bnd_post r1 p2).mono fun y H2 ⟨ρ2, s2, t2, e2, r2, d2, p3⟩ => ?_⟩
  exact hm ρ2 s2 H2 _ t2 _ _ Q r2 (d1.ext r1 e2) d2 p3
theorem k_append : OpT mAppend (fun x y H Q => rAppend x [y] H Q) := by
  intro ρ s H t u x y Q rs d1 d2 h
  unfold mAppend at h
  obtain ⟨n, ts, et, hn, h2⟩ := h.onLst
  clear h; subst et
  obtain ⟨a, vs, rfl, hr, ha, dl⟩ := rs.lst hn d1
  simp only [lenK_eq, Nat.zero_add] at h2
  obtain ⟨hl, h2⟩ := h2.ifB
  rw [Nat.blt_eq] at hl
  simp only [appK_eq] at h2
  have h3 := Post.setO hn h2
  obtain ⟨ex, rr⟩ := write_ok rs hn hr (show DenO ρ H (.l (ts ++ [u])) (.lst (vs ++ [y])) from ⟨_, rfl, dl.append (.one d2)⟩)
  exact ⟨a, vs, y, rfl, rfl, ha, by rw [← dl.length, sizeLine_eq]; exact hl, h3 ρ _ _ ex rr (by simp)⟩
theorem k_extend : OpT mExtend (fun x y H Q => rExtend x [y] H Q) := by
  intro ρ s H t u x y Q rs d1 d2 h
  unfold mExtend at h
  obtain ⟨n, ts, et, hn, h2⟩ := h.onLst
  clear h; subst et
  obtain ⟨m, us, eu, hm, h3⟩ := Post.onLst h2
  clear h2; subst eu
  obtain ⟨a, vs, rfl, hr, ha, dl⟩ := rs.lst hn d1
  obtain ⟨b, ws, rfl, hr2, hb, dl2⟩ := rs.lst hm d2
  simp only [lenK_eq, Nat.zero_add] at h3
  obtain ⟨hl, h4⟩ := h3.ifB
  simp only [catK_eq] at h4
  have h5 := Post.setO hn h4
  obtain ⟨ex, rr⟩ := write_ok rs hn hr (show DenO ρ H (.l (ts ++ us)) (.lst (vs ++ ws)) from ⟨_, rfl, dl.append dl2⟩)
  exact ⟨a, b, vs, ws, rfl, rfl, ha, hb, by rw [← dl.length, ← dl2.length]; exact szOk_iff hl, h5 ρ _ _ ex rr (by simp)⟩
theorem lastK_ok : ∀ {xs : List T} {k : List T → T → Res} {ρ s H Q}, Post ρ s H (lastK xs k) Q → ∃ y, xs[xs.length - 1]? = some y ∧ Post ρ s H (k xs.dropLast y) Q
  | [], k, ρ, s, H, Q, h => h.elim
  | [x], k, ρ, s, H, Q, h => ⟨x, rfl, h⟩
  | x :: y :: r, k, ρ, s, H, Q, h => by
    have h : Post ρ s H (lastK (y :: r) fun r y => k (x :: r) y) Q := h
    obtain ⟨z, e, h⟩ := lastK_ok h
    refine ⟨z, ?_, h⟩
    have : (x :: y :: r).length - 1 = (y :: r).length - 1 + 1 := by simp
    rw [this]; exact e
theorem DenL.dropLast {ρ H} {ts : List T} {vs : List V} (d : DenL ρ H ts vs) : DenL ρ H ts.dropLast vs.dropLast := by
  rw [List.dropLast_eq_take, List.dropLast_eq_take, ← d.length]
  exact d.take _
theorem pop_rd {K : PySem.W.Frag} {c : Cf} {O : Ev} (σ : L2.St) (H : Hp) (Q : VK) (h : rdE c (eMt0 mPop O) σ H Q) : tBM0 K "list" rPop (rdE c O) σ H Q := by
  obtain ⟨ρ, e, s, rs, re, h⟩ := h
  refine ⟨ρ, e, s, rs, re, (bnd_post rs h).mono fun x H1 ⟨ρ1, s1, t1, e1, r1, d1, p1⟩ => ?_⟩
  unfold mPop at p1
  obtain ⟨n, ts, et, hn, p2⟩ := p1.onLst
  subst et
  obtain ⟨a, vs, rfl, hr, ha, dl⟩ := r1.lst hn d1
  obtain ⟨y, hy, p3⟩ := lastK_ok p2
  have p4 := Post.setO hn p3
  obtain ⟨v, hv, dv⟩ := dl.get hy
  obtain ⟨ex, rr⟩ := write_ok r1 hn hr (show DenO ρ1 H1 (.l ts.dropLast) (.lst vs.dropLast) from ⟨_, rfl, dl.dropLast⟩)
  exact ⟨lst_ty ha, a, vs, v, rfl, rfl, ha, by rw [← dl.length]; exact hv, p4 ρ1 _ _ ex rr (dv.ext r1 ex)⟩
def notCall0 : Expr → Bool
  | .Call (.Name _ _) [] [] _ => false
  | _ => true
theorem base_ok {o : Expr} {m : Str} {env : Env} {w : Sem Value} (h : notCall0 o = true) : attributeBase o m env w = w := by
  cases o with
  | Call f es ks p =>
    cases f with
    | Name x q =>
      cases es with
      | nil =>
        cases ks with
        | nil => exact nomatch h
        | cons _ _ => rfl
      | cons _ _ => rfl
    | _ => rfl
  | _ => rfl
theorem few1 {e : Expr} {env : Env} {pos : Pos} (hs : noStar e = true) : ((backTo pos (starEach [e] env)).all (fun x => !x.1) && (backToKw pos (keywordEach [] env)).all (fun x => x.1.isSome)
      && decide ([e].length + ([] : List Keyword).length + (if ([] : List Keyword).isEmpty then 0 else 1) < 30)) = true := by
  rw [star_one hs]; rfl
theorem pe_mt1 {X : Cx} {c : Cf} {O A : Ev} {m : T → T → Sto → Res} {r : V → List V → Hp → VK → Prop} {o e : Expr} {name : Str} {id : String} {apos cpos : Pos} (slot : Slot "list" name id) (hty : typeOf (.builtin id) = pure (.type "method_descriptor")) (hm : MtR X id r)
    (hk : OpT m (fun x y H Q => r x [y] H Q)) (ho : PE X o (rdE c O)) (ha : PE X e (rdE c A)) (hs : noStar e = true) (hb : notCall0 o = true) (hl : (apos.endLine == cpos.line) = true) :
    PE X (.Call (.Attribute o name apos) [e] [] cpos) (rdE c (eMt1 m O A)) :=
  (pe_bm PySem.F.plainAttrs_list slot hty hm ho (pa1 ha hs) (base_ok hb) (few1 hs) hl (star_one hs) rfl).mono (mt1_rd hk)
theorem pe_pop {X : Cx} {c : Cf} {O : Ev} {o : Expr} {apos cpos : Pos} (ho : PE X o (rdE c O)) (hb : notCall0 o = true) (hl : (apos.endLine == cpos.line) = true) : PE X (.Call (.Attribute o "pop" apos) [] [] cpos) (rdE c (eMt0 mPop O)) :=
  (pe_bm0 PySem.F.plainAttrs_list PySem.F.slot_list_pop PySem.F.type_list_pop mt_pop ho (base_ok hb) hl).mono pop_rd
theorem pe_append {X : Cx} {c : Cf} {O A : Ev} {o e : Expr} {apos cpos : Pos} (ho : PE X o (rdE c O)) (ha : PE X e (rdE c A)) (hs : noStar e = true) (hb : notCall0 o = true) (hl : (apos.endLine == cpos.line) = true) : PE X (.Call (.Attribute o "append" apos) [e] [] cpos) (rdE c (eMt1 mAppend O A)) :=
  pe_mt1 PySem.F.slot_list_append PySem.F.type_list_append mt_append k_append ho ha hs hb hl
theorem pe_extend {X : Cx} {c : Cf} {O A : Ev} {o e : Expr} {apos cpos : Pos} (ho : PE X o (rdE c O)) (ha : PE X e (rdE c A)) (hs : noStar e = true) (hb : notCall0 o = true) (hl : (apos.endLine == cpos.line) = true) : PE X (.Call (.Attribute o "extend" apos) [e] [] cpos) (rdE c (eMt1 mExtend O A)) :=
  pe_mt1 PySem.F.slot_list_extend PySem.F.type_list_extend mt_extend k_extend ho ha hs hb hl

/-! ### statements -/
theorem PostS.mono {ρ s H} {m : SR} {D D' : Ends} (h : PostS ρ s H m D) (i1 : ∀ σ H, D.nx σ H → D'.nx σ H) (i2 : ∀ v H, D.rt v H → D'.rt v H) (i3 : ∀ σ H, D.bk σ H → D'.bk σ H) (i4 : ∀ σ H, D.ct σ H → D'.ct σ H) : PostS ρ s H m D' := by
  cases m with
  | er => exact h
  | nx _ _ => exact fun ρ' H' σ e r d => i1 _ _ (h ρ' H' σ e r d)
  | bk _ _ => exact fun ρ' H' σ e r d => i3 _ _ (h ρ' H' σ e r d)
  | ct _ _ => exact fun ρ' H' σ e r d => i4 _ _ (h ρ' H' σ e r d)
  | rtv _ _ => exact fun ρ' H' σ e r d => i2 _ _ (h ρ' H' σ e r d)
  | rtl _ _ => exact fun ρ' H' σ e r d => i2 _ _ (h ρ' H' σ e r d)
theorem PostS.nxv {ρ s H} {e : En} {σ : L2.St} {D : Ends} (h : PostS ρ s H (.nx e s) D) (r : RelS ρ s H) (re : RelE ρ H e σ) : D.nx σ H := h ρ H σ Ext.refl r re
theorem asg_rd {c : Cf} {g : Gv} {A : Ev} {tg : TG} (hg : ∀ v σ H Q, rdG c g v σ H Q → tg v σ H Q) (D : Ends) (σ : L2.St) (H : Hp) (h : rdS c (sAsg g A) D σ H) : tAsg (rdE c A) tg D σ H := by
  obtain ⟨ρ, e, s, rs, re, h⟩ := h
  refine ⟨ρ, e, s, rs, re, (bnd_S rs h).mono fun x H1 ⟨ρ1, s1, t1, e1, r1, d1, p1⟩ => ?_⟩
  refine hg _ _ _ _ ⟨ρ1, e, s1, t1, r1, re.ext rs e1, d1, (bndG_gen stb_S neS r1 p1).mono fun σ2 H2 ⟨ρ2, s2, e2, x2, r2, re2, p2⟩ => ?_⟩
  exact PostS.nxv p2 r2 re2
theorem ps_sset {X : Cx} {c : Cf} {A : Ev} {i : Nat} {x : Str} {e : Expr} {pos pos' : Pos} (hN : X.N.Nodup) (hi : X.N[i]? = some x) (hx : Loc X.env.scope x) (he : PE X e (rdE c A)) (hs : swapsWith e (some (.Name x pos')) pos.line X.env = pure false) (hf : X.fn x = true ∨ X.env.scope.names.lookup x = some .local) :
    PS X (.Assign [.Name x pos'] e pos) (rdS c (sAsg (gN i) A)) := (ps_set hN hi hx he hs hf).mono (asg_rd gname_rd)
theorem ps_sasg {X : Cx} {c : Cf} {g : Gv} {A : Ev} {tg e : Expr} {pos : Pos} (he : PE X e (rdE c A)) (hg : PG X tg (rdG c g)) (hs : swapsWithSole [tg] e pos.line X.env = pure false) (hw : swappedStores [tg] e X.env = pure none) (h1 : noStar tg = true) : PS X (.Assign [tg] e pos) (rdS c (sAsg g A)) :=
  (ps_asg he hg hs hw (by rw [assign_one h1]; rfl)).mono (asg_rd fun _ _ _ _ h => h)
theorem ps_sasg2 {X : Cx} {c : Cf} {g h : Gv} {A : Ev} {t1 t2 e : Expr} {pos : Pos} (he : PE X e (rdE c A)) (h1 : PG X t1 (rdG c g)) (h2 : PG X t2 (rdG c h)) (n1 : noStar t1 = true) (n2 : noStar t2 = true) (hw : swappedStores [t1, t2] e X.env = pure none) : PS X (.Assign [t1, t2] e pos) (rdS c (sAsg2 g h A)) :=
  (ps_asg2 he h1 h2 (by rw [assign_one n1, assign_one n2]; rfl) hw).mono fun D σ H ⟨ρ, e, s, rs, re, h⟩ => by
    refine ⟨ρ, e, s, rs, re, (bnd_S rs h).mono fun x H1 ⟨ρ1, s1, t1, e1, r1, d1, p1⟩ => ?_⟩
    refine ⟨ρ1, e, s1, t1, r1, re.ext rs e1, d1, (bndG_gen stb_S neS r1 p1).mono fun σ2 H2 ⟨ρ2, s2, e2, x2, r2, re2, p2⟩ => ?_⟩
    refine ⟨ρ2, e2, s2, t1, r2, re2, d1.ext r1 x2, (bndG_gen stb_S neS r2 p2).mono fun σ3 H3 ⟨ρ3, s3, e3, x3, r3, re3, p3⟩ => ?_⟩
    exact PostS.nxv p3 r3 re3
theorem par_rd {c : Cf} {g : Gs} {R : Av} (D : Ends) (σ : L2.St) (H : Hp) (h : rdS c (sPar g R) D σ H) : rdA c R σ H fun vs H1 => rdGs c g vs σ H1 D.nx := by
  obtain ⟨ρ, e, s, rs, re, h⟩ := h
  refine ⟨ρ, e, s, rs, re, (bndL_gen stb_S neS rs h).mono fun x H1 ⟨ρ1, s1, t1, e1, r1, d1, p1⟩ => ?_⟩
  exact ⟨ρ1, e, s1, t1, r1, re.ext rs e1, d1, (bndG_gen stb_S neS r1 p1).mono fun σ2 H2 ⟨ρ2, s2, e2, x2, r2, re2, p2⟩ => PostS.nxv p2 r2 re2⟩
theorem rdA_mono {c : Cf} {R : Av} {σ : L2.St} {H : Hp} {Q Q' : List V → Hp → Prop} (h : rdA c R σ H Q) (i : ∀ vs H', Q vs H' → Q' vs H') : rdA c R σ H Q' := by
  obtain ⟨ρ, e, s, rs, re, h⟩ := h
  exact ⟨ρ, e, s, rs, re, h.mono i⟩
theorem gs_nil_rd {c : Cf} {vs : List V} {σ : L2.St} {H : Hp} {Q : L2.St → Hp → Prop} (h : rdGs c gsNil vs σ H Q) : vs = [] ∧ Q σ H := by
  obtain ⟨ρ, e, s, ts, rs, re, d, h⟩ := h
  cases ts with
  | nil => rw [denL_nil] at d; exact ⟨d, PostG.val h rs re⟩
  | cons t ts => exact h.elim
theorem gs_name_rd {c : Cf} {i : Nat} {r : Gs} {vs : List V} {σ : L2.St} {H : Hp} {Q : L2.St → Hp → Prop} (h : rdGs c (gsCons (gN i) r) vs σ H Q) : ∃ v q, vs = v :: q ∧ rdGs c r q (σ.set i (some v)) H Q := by
  obtain ⟨v, q, e, h⟩ := gcons_rd _ _ _ _ h
  exact ⟨v, q, e, gname_rd _ _ _ _ h⟩
theorem ps_spar2 {X : Cx} {c : Cf} {R : Av} {i j : Nat} {x y : Str} {a b : Expr} {px py pt pos : Pos} {kt k2 pt2} (hc : X.calm = true) (hN : X.N.Nodup) (hi : X.N[i]? = some x) (hj : X.N[j]? = some y) (hij : i ≠ j)
    (hx : X.env.scope.names.lookup x = some .local) (hy : X.env.scope.names.lookup y = some .local) (ha : PA X [a, b] (rdA c R)) (hw : swappedStores [.Tuple [.Name x px, .Name y py] kt pt] (.Tuple [a, b] k2 pt2) X.env = pure (some [x, y])) :
    PS X (.Assign [.Tuple [.Name x px, .Name y py] kt pt] (.Tuple [a, b] k2 pt2) pos) (rdS c (sPar (gsCons (gN i) (gsCons (gN j) gsNil)) R)) :=
  (ps_par hc hN hi hj hij hx hy ha hw rfl).mono fun D σ H h => rdA_mono (par_rd D σ H h) fun vs H1 h => by
    obtain ⟨v, qv, ev, hv⟩ := gs_name_rd h
    clear h
    subst ev
    have h := hv
    clear hv
    obtain ⟨w, qw, ew, hw⟩ := gs_name_rd h
    clear h
    subst ew
    have h := hw
    clear hw
    obtain ⟨e0, h0⟩ := gs_nil_rd h
    clear h
    subst e0
    have h := h0
    exact ⟨v, w, rfl, h⟩
theorem ps_spar3 {X : Cx} {c : Cf} {R : Av} {i j l : Nat} {x y z : Str} {a b d : Expr} {px py pz pt pos : Pos} {kt k2 pt2} (hc : X.calm = true) (hN : X.N.Nodup) (hi : X.N[i]? = some x) (hj : X.N[j]? = some y) (hl : X.N[l]? = some z) (hij : i ≠ j) (hil : i ≠ l) (hjl : j ≠ l)
    (hx : X.env.scope.names.lookup x = some .local) (hy : X.env.scope.names.lookup y = some .local) (hz : X.env.scope.names.lookup z = some .local) (ha : PA X [a, b, d] (rdA c R)) (hw : swappedStores [.Tuple [.Name x px, .Name y py, .Name z pz] kt pt] (.Tuple [a, b, d] k2 pt2) X.env = pure (some [x, y, z])) :
    PS X (.Assign [.Tuple [.Name x px, .Name y py, .Name z pz] kt pt] (.Tuple [a, b, d] k2 pt2) pos) (rdS c (sPar (gsCons (gN i) (gsCons (gN j) (gsCons (gN l) gsNil))) R)) :=
  (ps_par3 hc hN hi hj hl hij hil hjl hx hy hz ha hw rfl).mono fun D σ H h => rdA_mono (par_rd D σ H h) fun vs H1 h => by
    obtain ⟨v, qv, ev, hv⟩ := gs_name_rd h
    clear h
    subst ev
    have h := hv
    clear hv
    obtain ⟨w, qw, ew, hw⟩ := gs_name_rd h
    clear h
    subst ew
    have h := hw
    clear hw
    obtain ⟨u, qu, eu, hu⟩ := gs_name_rd h
    clear h
    subst eu
    have h := hu
    clear hu
    obtain ⟨e0, h0⟩ := gs_nil_rd h
    clear h
    subst e0
    have h := h0
    exact ⟨v, w, u, rfl, h⟩
/-! op= -/
def rIAdd : R2 := fun x y H Q => (∃ i j, x = .int i ∧ y = .int j ∧ Q (.int (i + j)) H) ∨ ∃ i j, x = .str i ∧ y = .str j ∧ i.length + j.length ≤ sizeLine ∧ Q (.str (i ++ j)) H
theorem ipr_add {X : Cx} : OpR X (inplaceOp .Add) rIAdd := iop_add.or iop_add_str
theorem opt_iadd : OpT opAddI rIAdd := by
  intro ρ s H t u x y Q rs d1 d2 h
  unfold opAddI at h
  cases t with
  | int i =>
    rw [den_int] at d1
    cases u with
    | int j =>
      rw [den_int] at d2
      subst d1 d2
      simp only [onT_int, onInt_int, mkI, frI_eq, iAdd_eq] at h
      exact .inl ⟨i, j, rfl, rfl, h.val rs (by simp)⟩
    | _ => exact h.elim
  | str a =>
    rw [den_str] at d1
    cases u with
    | str b =>
      rw [den_str] at d2
      subst d1 d2
      simp only [onT_str, lenK_eq, Nat.zero_add] at h
      cases hz : szOk (a.length + b.length) with
      | false => rw [hz] at h; exact h.elim
      | true =>
        rw [hz] at h
        refine .inr ⟨_, _, rfl, rfl, by rw [str_len, str_len]; exact szOk_iff hz, ?_⟩
        rw [str_app]
        exact h.val rs (by simp)
    | _ => exact h.elim
  | _ => exact h.elim
theorem aug_rd {c : Cf} {i : Nat} {f : T → T → Sto → Res} {A : Ev} {r : R2} (hf : OpT f r) (D : Ends) (σ : L2.St) (H : Hp) (h : rdS c (sAug i f A) D σ H) : tAug i (rdE c A) r D σ H := by
  obtain ⟨ρ, e, s, rs, re, h⟩ := h
  unfold sAug at h
  rcases En.get_eq (e := SR.er) (k := fun x => bnd SR.er (A c e s) fun y s => bnd SR.er (f x y s) fun z s => En.set .er z i e fun σ => .nx σ s) (i := i) re with q | ⟨t, v, q, hv, d⟩
  · rw [q] at h; exact h.elim
  · rw [q] at h
    refine ⟨v, hv, ρ, e, s, rs, re, (bnd_S rs h).mono fun y H1 ⟨ρ1, s1, t1, e1, r1, d1, p1⟩ => ?_⟩
    refine hf ρ1 s1 H1 t t1 v y _ r1 (d.ext rs e1) d1 ((bnd_S r1 p1).mono fun z H2 ⟨ρ2, s2, t2, e2, r2, d2, p2⟩ => ?_)
    have re2 := (re.ext rs e1).ext r1 e2
    rcases En.set_eq (e := SR.er) d2 (i := i) (k := fun σ => .nx σ s2) re2 with w | ⟨σ', w, h'⟩
    · have p2 : PostS ρ2 s2 H2 (En.set .er t2 i e fun σ => .nx σ s2) D := p2
      rw [w] at p2; exact p2.elim
    · have p2 : PostS ρ2 s2 H2 (En.set .er t2 i e fun σ => .nx σ s2) D := p2
      rw [w] at p2; exact PostS.nxv p2 r2 h'
theorem ps_saug {X : Cx} {c : Cf} {i : Nat} {f : T → T → Sto → Res} {A : Ev} {r : R2} {x : Str} {e : Expr} {op : Operator} {pos pos' : Pos} (hN : X.N.Nodup) (hi : X.N[i]? = some x) (hx : Loc X.env.scope x) (he : PE X e (rdE c A)) (ho : OpR X (inplaceOp op) r) (hf : OpT f r) (hfn : X.fn x = true ∨ X.env.scope.names.lookup x = some .local) :
    PS X (.AugAssign (.Name x pos') op e pos) (rdS c (sAug i f A)) := (ps_aug hN hi hx he ho hfn).mono (aug_rd hf)
def rGetA (K : PySem.W.Frag) : R2 := fun x y H Q => rIxL K x y H Q ∨ ∃ a v, x = .ref a ∧ DGet H a y (some v) ∧ Q v H
theorem pget_all {X : Cx} (hu : X.A.units + 1 < cLine) : PGet X (rGetA X.K) := by
  intro pins s σ H x y v u Q I rx ry h
  rcases h with ⟨p, xs, i, z, rfl, rfl, hq, he, q⟩ | ⟨a, w, rfl, g, q⟩
  · cases rx
    obtain ⟨t, rfl⟩ := ry
    obtain ⟨its, r, pl, hz⟩ := I.list hq
    obtain ⟨j, h1, h2, h3, h4, h5⟩ := atI_get he
    obtain ⟨w, ew, rw'⟩ := r.get h2
    have hl := r.length
    have hn := line63
    have fin : EP X pins σ Q w s := ⟨z, H, I, rw', q⟩
    by_cases h0 : 0 ≤ i
    · have hj : i.toNat = j := by
        rw [seqIndex_of h0 h5] at h1
        exact Option.some.inj h1
      exact wpAny_getItem_list pl.isList h0 (by omega) (by rw [hj]; simpa using ew) fin
    · have hj : (i + (its.toArray.size : Int)).toNat = j := by
        rw [seqIndex_neg (by omega) h4] at h1
        rw [List.size_toArray, ← hl]
        exact Option.some.inj h1
      exact wpAny_getItem_list_neg pl.isList (by omega) (by rw [List.size_toArray] <;> omega) (by omega) (by rw [hj]; simpa using ew) fin
  · cases rx
    exact d_getItem hu I g ry fun w' s' I' rw' => ⟨w, H, I', rw', q⟩
theorem opt_ixS {K : PySem.W.Frag} : OpT getIxS (rGetA K) := by
  intro ρ s H t u x y Q rs d1 d2 h
  unfold getIxS at h
  cases t with
  | ref n =>
    simp only [onT_ref] at h
    obtain ⟨o, hn, h⟩ := h.getO
    cases o with
    | l ts =>
      obtain ⟨a, vs, rfl, _, ha, dl⟩ := rs.lst hn d1
      simp only [onOb_l] at h
      obtain ⟨i, ei, hq⟩ := h.onInt
      clear h
      subst ei
      have h := hq
      clear hq
      rw [den_int] at d2; subst d2
      simp only [lenK_eq, Nat.zero_add] at h
      rw [ixK_eq] at h
      cases hi : ixN ts.length i with
      | none => rw [hi] at h; exact h.elim
      | some j =>
        rw [hi] at h
        dsimp only at h
        rw [nthK_eq] at h
        cases hj : ts[j]? with
        | none => rw [hj] at h; exact h.elim
        | some c =>
          rw [hj] at h
          obtain ⟨v, hv, dv⟩ := dl.get hj
          exact .inl ⟨a, vs, i, v, rfl, rfl, .of ha, atI_of (by rw [← dl.length]; exact hi) hv, h.val rs dv⟩
    | d b kvs =>
      simp only [onOb_d] at h
      obtain ⟨hk, h⟩ := h.ifB
      unfold getD at h
      obtain ⟨a, rfl, hg⟩ := dget_ok rs hn d1 d2 hk
      rcases hg with ⟨e1, g⟩ | ⟨t', v, e1, g, dv⟩
      · rw [e1] at h; exact h.elim
      · rw [e1] at h
        exact .inr ⟨a, v, rfl, g, Post.val h rs dv⟩
  | _ => exact h.elim
theorem augs_rd {K : PySem.W.Frag} {c : Cf} {O I A : Ev} {f : T → T → Sto → Res} {r : R2} (hf : OpT f r) (D : Ends) (σ : L2.St) (H : Hp) (h : rdS c (sAugS O I f A) D σ H) : tAugS (rdE c O) (rdE c I) (rdE c A) (rGetA K) r rSetA D σ H := by
  obtain ⟨ρ, e, s, rs, re, h⟩ := h
  refine ⟨ρ, e, s, rs, re, (bnd_S rs h).mono fun ov H1 ⟨ρ1, s1, t1, e1, r1, d1, p1⟩ => ?_⟩
  refine ⟨ρ1, e, s1, r1, re.ext rs e1, (bnd_S r1 p1).mono fun iv H2 ⟨ρ2, s2, t2, e2, r2, d2, p2⟩ => ?_⟩
  have d1' := d1.ext r1 e2
  have re2 := (re.ext rs e1).ext r1 e2
  refine opt_ixS ρ2 s2 H2 t1 t2 ov iv _ r2 d1' d2 ((bnd_S r2 p2).mono fun x H3 ⟨ρ3, s3, t3, e3, r3, d3, p3⟩ => ?_)
  have d1' := d1'.ext r2 e3
  have d2' := d2.ext r2 e3
  have re3 := re2.ext r2 e3
  refine ⟨ρ3, e, s3, r3, re3, (bnd_S r3 p3).mono fun y H4 ⟨ρ4, s4, t4, e4, r4, d4, p4⟩ => ?_⟩
  have d1' := d1'.ext r3 e4
  have d2' := d2'.ext r3 e4
  have re4 := re3.ext r3 e4
  refine hf ρ4 s4 H4 t3 t4 x y _ r4 (d3.ext r3 e4) d4 ((bnd_S r4 p4).mono fun z H5 ⟨ρ5, s5, t5, e5, r5, d5, p5⟩ => ?_)
  have d1' := d1'.ext r4 e5
  have d2' := d2'.ext r4 e5
  have re5 := re4.ext r4 e5
  refine stIx_ok r5 d1' d2' d5 ?_
  have p6 := bndU_S r5 p5
  cases hm : stIx t1 t2 t5 s5 with
  | er => rw [hm] at p6; exact p6
  | ok s' =>
    rw [hm] at p6
    intro ρ' H' ex rr
    obtain ⟨ρ6, s6, e6, r6, p7⟩ := p6 ρ' H' ex rr
    exact PostS.nxv p7 r6 (re5.ext r5 e6)
theorem ps_saugS {X : Cx} {c : Cf} {O I A : Ev} {f : T → T → Sto → Res} {r : R2} {o i e : Expr} {op : Operator} {pos tpos : Pos} (hu : X.A.units + 1 < cLine) (ho : PE X o (rdE c O)) (hi : PE X i (rdE c I)) (he : PE X e (rdE c A)) (hp : OpR X (inplaceOp op) r) (hf : OpT f r) (hs : plainIx i = true) :
    PS X (.AugAssign (.Subscript o i tpos) op e pos) (rdS c (sAugS O I f A)) := by
  refine (ps_augS ho hi (pget_all hu) he hp (pset_all hu) fun ov iv new => ?_).mono (augs_rd hf)
  cases i <;> first | rfl | exact nomatch hs
theorem ps_sexpr {X : Cx} {c : Cf} {A : Ev} {e : Expr} {pos : Pos} (he : PE X e (rdE c A)) (hs : swapsWith e none pos.line X.env = pure false) : PS X (.Expr e pos) (rdS c (sExpr A)) :=
  (ps_expr he hs).mono fun D σ H ⟨ρ, e, s, rs, re, h⟩ => ⟨ρ, e, s, rs, re, by
    have h : PostS ρ s H (Res.rec (motive := fun _ => SR) .er (fun _ s => .nx e s) (fun _ s => .nx e s) (A c e s)) D := h
    cases hm : A c e s with
    | er => rw [hm] at h; exact h
    | v t s' => rw [hm] at h; exact fun ρ' H' v ex rr d => h ρ' H' σ ex rr (re.ext rs ex)
    | nl t s' => rw [hm] at h; exact fun ρ' H' v ex rr d => h ρ' H' σ ex rr (re.ext rs ex)⟩
theorem ps_sret {X : Cx} {c : Cf} {A : Ev} {e : Expr} {pos : Pos} (he : PE X e (rdE c A)) : PS X (.Return (some e) pos) (rdS c (sRet A)) :=
  (ps_ret he).mono fun D σ H ⟨ρ, e, s, rs, re, h⟩ => ⟨ρ, e, s, rs, re, by
    have h : PostS ρ s H (Res.rec (motive := fun _ => SR) .er .rtv .rtl (A c e s)) D := h
    cases hm : A c e s with
    | er => rw [hm] at h; exact h
    | v t s' => rw [hm] at h; exact h
    | nl t s' => rw [hm] at h; exact h⟩
theorem ps_sretN {X : Cx} {c : Cf} {pos : Pos} : PS X (.Return none pos) (rdS c sRetN) :=
  ps_retN.mono fun D σ H ⟨ρ, e, s, rs, re, h⟩ => h ρ H _ Ext.refl rs (by simp)
theorem ps_sif {X : Cx} {c : Cf} {C : Tv} {A B : Sv} {k : Expr} {a b : List Stmt} {pos : Pos} (hc : PT X k (rdT c C)) (ha : PSs X a (rdS c A)) (hb : PSs X b (rdS c B)) : PS X (.If k a b pos) (rdS c (sIf C A B)) :=
  (ps_if hc ha hb).mono fun D σ H ⟨ρ, e, s, rs, re, h⟩ => by
    refine ⟨ρ, e, s, rs, re, (bndT_gen stb_S neS rs h).mono fun x H1 ⟨ρ1, s1, e1, r1, p1⟩ => ?_⟩
    cases x with
    | true => exact ⟨ρ1, e, s1, r1, re.ext rs e1, p1⟩
    | false => exact ⟨ρ1, e, s1, r1, re.ext rs e1, p1⟩
theorem ps_sbrk {X : Cx} {c : Cf} {pos : Pos} : PS X (.Break pos) (rdS c sBrk) := ps_break.mono fun D σ H ⟨ρ, e, s, rs, re, h⟩ => h ρ H σ Ext.refl rs re
theorem ps_scnt {X : Cx} {c : Cf} {pos : Pos} : PS X (.Continue pos) (rdS c sCnt) := ps_continue.mono fun D σ H ⟨ρ, e, s, rs, re, h⟩ => h ρ H σ Ext.refl rs re
theorem ps_snx {X : Cx} {c : Cf} {pos : Pos} : PS X (.Pass pos) (rdS c sNx) := ps_pass.mono fun D σ H ⟨ρ, e, s, rs, re, h⟩ => h ρ H σ Ext.refl rs re
theorem ps_sdoc {X : Cx} {c : Cf} {x j pos pos'} : PS X (.Expr (.Constant (.str x) j pos) pos') (rdS c sNx) := ps_doc.mono fun D σ H ⟨ρ, e, s, rs, re, h⟩ => h ρ H σ Ext.refl rs re
theorem pss_snil {X : Cx} {c : Cf} : PSs X [] (rdS c sNx) := pss_nil.mono fun D σ H ⟨ρ, e, s, rs, re, h⟩ => h ρ H σ Ext.refl rs re
theorem seq_split {c : Cf} {A B : Sv} {ρ s H} {e : En} {D : Ends} (rs : RelS ρ s H) (h : PostS ρ s H (sSeq A B c e s) D) : PostS ρ s H (A c e s) { D with nx := rdS c B D } := by
  have h : PostS ρ s H (SR.rec (motive := fun _ => SR) .er (fun σ s => B c σ s) .rtv .rtl .bk .ct (A c e s)) D := h
  cases hm : A c e s with
  | er => rw [hm] at h; exact h
  | nx e' s' => rw [hm] at h; exact fun ρ' H' σ' ex rr d => ⟨ρ', e', s', rr, d, PostS.step rs rr ex h⟩
  | bk e' s' => rw [hm] at h; exact h
  | ct e' s' => rw [hm] at h; exact h
  | rtv e' s' => rw [hm] at h; exact h
  | rtl e' s' => rw [hm] at h; exact h
theorem pss_scons {X : Cx} {c : Cf} {A B : Sv} {st : Stmt} {rest : List Stmt} (h1 : PS X st (rdS c A)) (h2 : PSs X rest (rdS c B)) : PSs X (st :: rest) (rdS c (sSeq A B)) :=
  (pss_cons h1 h2).mono fun D σ H ⟨ρ, e, s, rs, re, h⟩ => ⟨ρ, e, s, rs, re, seq_split rs h⟩
theorem pss_sone {X : Cx} {c : Cf} {A : Sv} {st : Stmt} (h1 : PS X st (rdS c A)) : PSs X [st] (rdS c A) := pss_one h1
/-! loops -/
theorem loop_split {ρ s H} {m : SR} {D : Ends} {k : En → Sto → SR} (rs : RelS ρ s H) (h : PostS ρ s H (SR.rec (motive := fun _ => SR) .er k .rtv .rtl .nx k m) D) :
    PostS ρ s H m { D with nx := fun σ' H' => ∃ ρ' e' s', Ext ρ s H ρ' s' H' ∧ RelS ρ' s' H' ∧ RelE ρ' H' e' σ' ∧ PostS ρ' s' H' (k e' s') D, ct := fun σ' H' => ∃ ρ' e' s', Ext ρ s H ρ' s' H' ∧ RelS ρ' s' H' ∧ RelE ρ' H' e' σ' ∧ PostS ρ' s' H' (k e' s') D, bk := D.nx } := by
  cases m with
  | er => exact h
  | nx e' s' => exact fun ρ' H' σ' ex rr d => ⟨ρ', e', s', ex, rr, d, PostS.step rs rr ex h⟩
  | ct e' s' => exact fun ρ' H' σ' ex rr d => ⟨ρ', e', s', ex, rr, d, PostS.step rs rr ex h⟩
  | bk e' s' => exact h
  | rtv e' s' => exact h
  | rtl e' s' => exact h
theorem whl_rd {c : Cf} {C : Tv} {B : Sv} (D : Ends) (σ : L2.St) (H : Hp) (h : rdS c (sWhl C B) D σ H) : tWhile (rdT c C) (rdS c B) D σ H := by
  obtain ⟨ρ, e, s, rs, re, h⟩ := h
  refine ⟨fun m σ H => ∃ ρ e s, RelS ρ s H ∧ RelE ρ H e σ ∧ PostS ρ s H (whlN C B c m e s) D, ⟨10000000, ρ, e, s, rs, re, h⟩, ?_⟩
  rintro m σ H ⟨ρ, e, s, rs, re, h⟩
  cases m with
  | zero => exact h.elim
  | succ m =>
    have h : PostS ρ s H (bndT .er (C c e s) fun b s => Rk.ifB b (SR.rec (motive := fun _ => SR) .er (whlN C B c m) .rtv .rtl .nx (whlN C B c m) (B c e s)) (.nx e s)) D := h
    refine ⟨ρ, e, s, rs, re, (bndT_gen stb_S neS rs h).mono fun x H1 ⟨ρ1, s1, e1, r1, p1⟩ => ?_⟩
    cases x with
    | false => exact PostS.nxv p1 r1 (re.ext rs e1)
    | true =>
      refine ⟨fun σ' H' => ∃ ρ e s, RelS ρ s H' ∧ RelE ρ H' e σ' ∧ PostS ρ s H' (whlN C B c m e s) D, fun σ' H' w => ⟨m, Nat.lt_succ_self m, w⟩, ?_⟩
      refine ⟨ρ1, e, s1, r1, re.ext rs e1, (loop_split r1 p1).mono (fun σ H ⟨ρ', e', s', _, rr, d, p⟩ => ⟨ρ', e', s', rr, d, p⟩) (fun _ _ h => h) (fun _ _ h => h) (fun σ H ⟨ρ', e', s', _, rr, d, p⟩ => ⟨ρ', e', s', rr, d, p⟩)⟩
theorem ps_swhl {X : Cx} {c : Cf} {C : Tv} {B : Sv} {k : Expr} {body : List Stmt} {pos : Pos} (hx : X.xe = fun _ _ => False) (hc : PT X k (rdT c C)) (hb : PSs X body (rdS c B)) : PS X (.While k body [] pos) (rdS c (sWhl C B)) :=
  (ps_while (by rw [hx]; exact PassesOwn.never) hc hb).mono whl_rd
/-- what a walk leans on: slots known, tuples, the lists at F -/
structure Wk (ρ0 : Nat → Option Addr) (H0 : Hp) (F : Addr → Prop) (ρ : Nat → Option Addr) (H : Hp) : Prop where
  le : ∀ m a, ρ0 m = some a → ρ m = some a
  tp : ∀ a xs, H0 a = some (.tup xs) → H a = some (.tup xs)
  fx : ∀ a, F a → H a = H0 a ∧ H0 a ≠ none ∧ ∀ m, ρ m ≠ some a
theorem Wk.refl {ρ0 H0 F} (h : ∀ a, F a → H0 a ≠ none ∧ ∀ m, ρ0 m ≠ some a) : Wk ρ0 H0 F ρ0 H0 := ⟨fun _ _ h => h, fun _ _ h => h, fun a ha => ⟨rfl, h a ha⟩⟩
theorem Wk.step {ρ0 H0 F ρ s H ρ1 s1 H1} (w : Wk ρ0 H0 F ρ H) (r : RelS ρ s H) (e : Ext ρ s H ρ1 s1 H1) : Wk ρ0 H0 F ρ1 H1 := by
  refine ⟨fun m a h => e.le m a (w.le m a h), fun a xs h => e.tup r (w.tp a xs h), fun a ha => ?_⟩
  obtain ⟨h1, h2, h3⟩ := w.fx a ha
  refine ⟨?_, h2, fun m hm => ?_⟩
  · cases q : H a with
    | none => rw [← h1, q] at h2; exact absurd rfl h2
    | some o => rw [e.fr a o q fun ⟨m, _, _, z⟩ => h3 m z, ← h1, q]
  · cases q : ρ m with
    | some b =>
      have := e.le m b q
      rw [hm] at this; cases this
      exact h3 m q
    | none =>
      have := e.new m a q hm
      rw [this] at h1
      exact h2 h1.symm
/-- what serves a loop's turns from i on, as src says -/
def Serves : Nat → It → Nat → Src → (Nat → Option Addr) → Hp → (Addr → Prop) → Prop
  | 0, _, _, _, _, _, _ => True
  | n + 1, J, i, src, ρ0, H0, F => ∀ ρ s H, Wk ρ0 H0 F ρ H → RelS ρ s H → match step src s with
    | .er => True
    | .done => J.stop i H
    | .it t src' => J.go i H ∧ (∀ x H', J.yld i H x H' → Ext ρ s H ρ s H' ∧ RelS ρ s H' ∧ Den ρ H' t x) ∧ Serves n J (i + 1) src' ρ0 H0 F
def PostI (H00 : Hp) (ρ : Nat → Option Addr) (s : Sto) (H : Hp) (m : IR) (R : It → Hp → Prop) : Prop := match m with
  | .er => False
  | .ok src s' => ∀ ρ' H' J F, Ext ρ s H ρ' s' H' → RelS ρ' s' H' → (∀ a, F a → H00 a = none ∧ H' a ≠ none ∧ ∀ m, ρ' m ≠ some a) → (∀ n, Serves n J 0 src ρ' H' F) → R J H'
def rdI (c : Cf) (I : Iv) : TI := fun σ H R => ∃ ρ e s, RelS ρ s H ∧ RelE ρ H e σ ∧ PostI H ρ s H (I c e s) R
theorem PostI.step {H00 ρ s H ρ1 s1 H1} {m : IR} {R : It → Hp → Prop} (r : RelS ρ s H) (r1 : RelS ρ1 s1 H1) (a : Ext ρ s H ρ1 s1 H1) (h : PostI H00 ρ s H m R) : PostI H00 ρ1 s1 H1 m R := by
  cases m with
  | er => exact h
  | ok src s' => exact fun ρ' H' J F x rr f sv => h ρ' H' J F (a.trans r r1 x) rr f sv
theorem for_rd {c : Cf} {g : Gv} {I : Iv} {B : Sv} (D : Ends) (σ : L2.St) (H : Hp) (h : rdS c (sFor g I B) D σ H) : tFor (rdI c I) (rdG c g) (rdS c B) D σ H := by
  obtain ⟨ρ, e, s, rs, re, h⟩ := h
  refine ⟨ρ, e, s, rs, re, ?_⟩
  have h : PostS ρ s H (IR.rec (motive := fun _ => SR) .er (fun src s => forN g B c 10000000 src e s) (I c e s)) D := h
  cases hm : I c e s with
  | er => rw [hm] at h; exact h
  | ok src s' =>
    rw [hm] at h
    intro ρ0 H0 J F ex0 rr0 hf sv
    refine ⟨fun i m σ H => ∃ ρ e s src, Wk ρ0 H0 F ρ H ∧ RelS ρ s H ∧ RelE ρ H e σ ∧ Serves m J i src ρ0 H0 F ∧ PostS ρ s H (forN g B c m src e s) D, ⟨10000000, ρ0, e, s', src, Wk.refl fun a ha => (hf a ha).2, rr0, re.ext rs ex0, sv _, PostS.step rs rr0 ex0 h⟩, ?_⟩
    rintro i m σ H ⟨ρ, e, s, src, ex, rs, re, sv, h⟩
    cases m with
    | zero => exact h.elim
    | succ m =>
      have h : PostS ρ s H (NR.rec (motive := fun _ => SR) .er (.nx e s) (fun x src => bndG .er (g x c e s) fun σ s => SR.rec (motive := fun _ => SR) .er (forN g B c m src) .rtv .rtl .nx (forN g B c m src) (B c σ s)) (step src s)) D := h
      have sv := sv ρ s H ex rs
      cases hst : step src s with
      | er => rw [hst] at h; exact h.elim
      | done =>
        rw [hst] at h sv
        exact .inl ⟨sv, PostS.nxv h rs re⟩
      | it t src' =>
        rw [hst] at h sv
        obtain ⟨s1, s2, s3⟩ := sv
        refine .inr ⟨s1, fun σ' H' => ∃ ρ e s, Wk ρ0 H0 F ρ H' ∧ RelS ρ s H' ∧ RelE ρ H' e σ' ∧ PostS ρ s H' (forN g B c m src' e s) D, fun σ' H' ⟨ρ, e, s, w1, w2, w3, w4⟩ => ⟨m, Nat.lt_succ_self m, ρ, e, s, src', w1, w2, w3, s3, w4⟩, fun x H1 y => ?_⟩
        obtain ⟨x1, r1, dx⟩ := s2 x H1 y
        have ex1 := ex.step rs x1
        have h1 := PostS.step rs r1 x1 h
        refine ⟨ρ, e, s, t, r1, re.ext rs x1, dx, (bndG_gen stb_S neS r1 h1).mono fun σ2 H2 ⟨ρ2, s2, e2, x2, r2, re2, p2⟩ => ?_⟩
        have ex2 := ex1.step r1 x2
        exact ⟨ρ2, e2, s2, r2, re2, (loop_split r2 p2).mono (fun σ H ⟨ρ', e', s', x3, rr, d, p⟩ => ⟨ρ', e', s', ex2.step r2 x3, rr, d, p⟩) (fun _ _ h => h) (fun _ _ h => h) (fun σ H ⟨ρ', e', s', x3, rr, d, p⟩ => ⟨ρ', e', s', ex2.step r2 x3, rr, d, p⟩)⟩
def noSet : Expr → Bool
  | .Set _ _ _ => false
  | _ => true
theorem folded_ok {e : Expr} {env : Env} (h : noSet e = true) (x : Value) : foldedSetIterable e env x = pure x := by
  cases e <;> first | rfl | exact nomatch h
theorem ps_sfor {X : Cx} {c : Cf} {g : Gv} {I : Iv} {B : Sv} {tg iter : Expr} {body : List Stmt} {pos : Pos} (hx : X.xe = fun _ _ => False) (hc : X.calm = true) (hi : PI X tg iter (rdI c I)) (hg : PG X tg (rdG c g)) (hb : PSs X body (rdS c B)) (hs : noSet iter = true) :
    PS X (.For tg iter body [] pos) (rdS c (sFor g I B)) := (ps_for (by rw [hx]; exact PassesOwn.never) hc hi hg hb (folded_ok hs)).mono for_rd
end Rk
end
section
set_option linter.all false
set_option autoImplicit false
set_option maxRecDepth 100000
namespace Rk
open PySem PySem.Spec PyProof.Rows L2
/-! ### dicts: {k: v}, get, setdefault -/
variable {c : Cf} {O A B : Ev}
theorem onDct_ok {ρ s H} {t : T} {k : Nat → Res} {Q : VK} (h : Post ρ s H (onDct t s k) Q) : ∃ n b kvs, t = .ref n ∧ s.find n = some (.d b kvs) ∧ Post ρ s H (k n) Q := by
  unfold onDct at h
  cases t with
  | ref n =>
    obtain ⟨o, ho, h⟩ := Post.getO (show Post ρ s H (getO .er s n fun o => onOb o (fun _ => .er) fun _ _ => k n) Q from h)
    cases o with
    | l _ => exact h.elim
    | d b kvs => exact ⟨n, b, kvs, rfl, ho, h⟩
  | _ => exact h.elim
theorem isD_ok {ρ s H} (rs : RelS ρ s H) {n : Nat} {b : Bool} {kvs : List (T × T)} (hn : s.find n = some (.d b kvs)) {x : V} (dx : Den ρ H (.ref n) x) : ∃ a, x = .ref a ∧ ρ n = some a ∧ IsD H a := by
  obtain ⟨a, ho, h1, h2, h3⟩ := rs.live n _ hn
  rw [den_ref] at dx
  obtain ⟨a', rfl, h5⟩ := dx
  rw [h1] at h5; cases h5
  refine ⟨a, rfl, h1, ?_⟩
  cases b with
  | false => obtain ⟨ys, rfl, _⟩ := h3; exact .inl ⟨ys, .inl h2⟩
  | true => obtain ⟨ys, rfl, _⟩ := h3; exact .inr ⟨ys, .inl h2⟩
theorem onObD {ρ s H} {o : Ob} {k : Bool → List (T × T) → Res} {Q : VK} (h : Post ρ s H (onOb o (fun _ => .er) k) Q) : ∃ b kvs, o = .d b kvs ∧ Post ρ s H (k b kvs) Q := by
  cases o with
  | l _ => exact h.elim
  | d b kvs => exact ⟨b, kvs, rfl, h⟩
theorem ifB_er {ρ s H} {b : Bool} {m : Res} {Q : VK} (h : Post ρ s H (ifB b .er m) Q) : b = false ∧ Post ρ s H m Q := by
  cases b with
  | true => exact h.elim
  | false => exact ⟨rfl, h⟩
theorem gDef_ok {ρ s H} (rs : RelS ρ s H) {n : Nat} {b : Bool} {kvs : List (T × T)} (hn : s.find n = some (.d b kvs)) {a : Addr} {u z : T} {y w : V} {Q : VK} (da : Den ρ H (.ref n) (.ref a)) (du : Den ρ H u y) (dz : Den ρ H z w)
    (hk : ifB b (kT u) (kP u) = true) (h : Post ρ s H (gDef z u kvs s) Q) : ∃ o, DGet H a y o ∧ Q (o.getD w) H := by
  obtain ⟨a', ea, hg⟩ := dget_ok rs hn da du hk
  cases ea
  unfold gDef at h
  rcases hg with ⟨e1, g⟩ | ⟨t, v, e1, g, dv⟩
  · rw [e1] at h
    exact ⟨none, g, h ρ H w Ext.refl rs dz⟩
  · rw [e1] at h
    exact ⟨some v, g, h ρ H v Ext.refl rs dv⟩
theorem get1_rd (σ : L2.St) (H : Hp) (Q : VK) (h : rdE c (eGet1 O A) σ H Q) : tDGet1 (rdE c O) (rdE c A) σ H Q := by
  obtain ⟨ρ, e, s, rs, re, h⟩ := h
  refine ⟨ρ, e, s, rs, re, (bnd_post rs h).mono fun x H1 ⟨ρ1, s1, t1, e1, r1, d1, p1⟩ => ?_⟩
  obtain ⟨n, b, kvs, rfl, hn, p2⟩ := onDct_ok p1
  obtain ⟨a, rfl, _, di⟩ := isD_ok r1 hn d1
  refine ⟨a, rfl, di, ρ1, e, s1, r1, re.ext rs e1, (bnd_post r1 p2).mono fun y H2 ⟨ρ2, s2, t2, e2, r2, d2, p3⟩ => ?_⟩
  obtain ⟨o, hn2, p4⟩ := Post.getO p3
  obtain ⟨b, kvs, rfl, p5⟩ := onObD p4
  obtain ⟨hk, p6⟩ := Post.ifB p5
  exact gDef_ok r2 hn2 (d1.ext r1 e2) d2 (z := .non) (w := .non) (by simp) hk p6
theorem get2_rd (σ : L2.St) (H : Hp) (Q : VK) (h : rdE c (eGet2 O A B) σ H Q) : tDGet2 (rdE c O) (rdE c A) (rdE c B) σ H Q := by
  obtain ⟨ρ, e, s, rs, re, h⟩ := h
  refine ⟨ρ, e, s, rs, re, (bnd_post rs h).mono fun x H1 ⟨ρ1, s1, t1, e1, r1, d1, p1⟩ => ?_⟩
  obtain ⟨n, b, kvs, rfl, hn, p2⟩ := onDct_ok p1
  obtain ⟨a, rfl, _, di⟩ := isD_ok r1 hn d1
  refine ⟨a, rfl, di, ρ1, e, s1, r1, re.ext rs e1, (bnd_post r1 p2).mono fun y H2 ⟨ρ2, s2, t2, e2, r2, d2, p3⟩ => ?_⟩
  refine ⟨ρ2, e, s2, r2, (re.ext rs e1).ext r1 e2, (bnd_post r2 p3).mono fun z H3 ⟨ρ3, s3, t3, e3, r3, d3, p3⟩ => ?_⟩
  obtain ⟨o, hn2, p4⟩ := Post.getO p3
  obtain ⟨b, kvs, rfl, p5⟩ := onObD p4
  obtain ⟨hk, p6⟩ := Post.ifB p5
  exact gDef_ok r3 hn2 ((d1.ext r1 e2).ext r2 e3) (d2.ext r2 e3) d3 hk p6
theorem dict1_rd {K W : Ev} (σ : L2.St) (H : Hp) (Q : VK) (h : rdE c (eDict1 K W) σ H Q) : tDisp [(rdE c K, rdE c W)] σ H Q := by
  obtain ⟨ρ, e, s, rs, re, h⟩ := h
  intro p hp
  obtain ⟨n, al⟩ := s
  unfold eDict1 at h
  rw [alloc_eq] at h
  have ex : Ext ρ (.mk n al) H ρ (.mk n al) (upd H p (.dK [])) := Ext.fresh hp
  have rr := rs.fresh (o := .dK []) hp
  obtain ⟨ex2, rr2⟩ := adopt rs ex rr hp (fun m hm => rs.trk m p hm hp) upd_same (o := .d false []) ⟨[], rfl, rfl⟩
  have h := h.step rs rr2 ex2
  have dn : Den (addR ρ n p) (upd H p (.dK [])) (.ref n) (.ref p) := by rw [den_ref]; exact ⟨p, rfl, addR_same⟩
  refine ⟨addR ρ n p, e, _, rr2, re.ext rs ex2, (bnd_post rr2 h).mono fun x H1 ⟨ρ1, s1, t1, e1, r1, d1, p1⟩ => ?_⟩
  refine ⟨ρ1, e, s1, r1, (re.ext rs ex2).ext rr2 e1, (bnd_post r1 p1).mono fun y H2 ⟨ρ2, s2, t2, e2, r2, d2, p2⟩ => ?_⟩
  obtain ⟨o, hn, p3⟩ := Post.getO (show Post ρ2 s2 H2 (getO .er s2 n _) Q from p2)
  obtain ⟨b, kvs, rfl, p4⟩ := onObD p3
  obtain ⟨hb, p5⟩ := ifB_er p4
  subst hb
  cases kvs with
  | cons _ _ => exact (show False from p5).elim
  | nil =>
    obtain ⟨hk, p6⟩ := Post.ifB (show Post ρ2 s2 H2 (ifB (kP t1) (setO .er s2 n (.d false [(t1, t2)]) fun s => .v (.ref n) s) .er) Q from p5)
    obtain ⟨a3, ho, h1, h2, h3⟩ := r2.live n _ hn
    have h4 : ρ2 n = some p := e2.le n p (e1.le n p addR_same)
    rw [h1] at h4; cases h4
    obtain ⟨ys, rfl, dk⟩ := h3
    cases dk
    obtain ⟨k, hk⟩ := kP_ok hk
    have dx := d1.ext r1 e2
    have := den_key dx hk
    subst this
    refine ⟨h2, [(k, y)], rfl, by simp, ?_⟩
    rw [setO_eq, hn] at p6
    obtain ⟨ex3, rr3⟩ := write_ok r2 hn h1 (show DenO ρ2 H2 (.d false [(t1, t2)]) (.dK [(k, y)]) from ⟨_, rfl, ⟨k, y, [], rfl, hk, d2, rfl⟩⟩)
    exact p6 ρ2 _ _ ex3 rr3 (by rw [den_ref]; exact ⟨p, rfl, h1⟩)
theorem pe_dict1 {X : Cx} {K W : Ev} {k v : Expr} {pos : Pos} (hk : PE X k (rdE c K)) (hv : PE X v (rdE c W)) : PE X (.Dict [some k] [v] pos) (rdE c (eDict1 K W)) :=
  (pe_disp (pps_cons hk hv pps_nil) rfl rfl (by simp) (by simp)).mono dict1_rd
theorem m1_ok {X : Cx} {o e : Expr} {m : Str} {apos cpos : Pos} (hs : noStar e = true) (hb : notCall0 o = true) (hl : (apos.endLine == cpos.line) = true) : M1 X o m apos e cpos := ⟨base_ok hb, few1 hs, hl, by rw [star_one hs]; rfl⟩
theorem m2_ok {X : Cx} {o e f : Expr} {m : Str} {apos cpos : Pos} (hs : noStar e = true) (hs2 : noStar f = true) (hb : notCall0 o = true) (hl : (apos.endLine == cpos.line) = true) : M2 X o m apos e f cpos := ⟨base_ok hb, by rw [star_one hs, star_one hs2]; rfl, hl, by rw [star_one hs, star_one hs2]; rfl⟩
theorem pe_get1 {X : Cx} {o e : Expr} {apos cpos : Pos} (hu : X.A.units + 1 < cLine) (ho : PE X o (rdE c O)) (ha : PE X e (rdE c A)) (hs : noStar e = true) (hb : notCall0 o = true) (hl : (apos.endLine == cpos.line) = true) :
    PE X (.Call (.Attribute o "get" apos) [e] [] cpos) (rdE c (eGet1 O A)) := (pe_dget1 hu ho ha (m1_ok hs hb hl)).mono get1_rd
theorem pe_get2 {X : Cx} {o e f : Expr} {apos cpos : Pos} (hu : X.A.units + 1 < cLine) (ho : PE X o (rdE c O)) (ha : PE X e (rdE c A)) (hf : PE X f (rdE c B)) (hs : noStar e = true) (hs2 : noStar f = true) (hb : notCall0 o = true) (hl : (apos.endLine == cpos.line) = true) :
    PE X (.Call (.Attribute o "get" apos) [e, f] [] cpos) (rdE c (eGet2 O A B)) := (pe_dget2 hu ho ha hf (m2_ok hs hs2 hb hl)).mono get2_rd
end Rk
end
section
set_option linter.all false
set_option autoImplicit false
set_option maxRecDepth 100000
namespace Rk
open PySem PySem.Spec PyProof.Rows L2
/-! ### count, index, remove of a list of ints -/
theorem intsK_ok {ts : List T} : ∀ {k : List Int → Res} {ρ s H Q}, Post ρ s H (intsK ts k) Q → ∃ ns : List Int, ts = ns.map T.int ∧ Post ρ s H (k ns) Q := by
  induction ts with
  | nil => exact fun {k ρ s H Q} h => ⟨[], rfl, h⟩
  | cons t ts ih =>
    intro k ρ s H Q h
    cases t with
    | int i =>
      obtain ⟨ns, e, h⟩ := ih (show Post ρ s H (intsK ts fun r => k (i :: r)) Q from h)
      exact ⟨i :: ns, by rw [e]; rfl, h⟩
    | _ => exact h.elim
theorem cntN_eq (k : Int) : ∀ ns : List Int, cntN k ns = ns.count k
  | [] => rfl
  | i :: ns => by
    have e : cntN k (i :: ns) = ifB (iEq i k) (Nat.succ (cntN k ns)) (cntN k ns) := rfl
    rw [e, cntN_eq k ns, iEq_eq, List.count_cons]
    by_cases h : i = k
    · rw [decide_eq_true h]; simp [h]
    · rw [decide_eq_false h]; simp [h]
theorem idxN_ok (k : Int) : ∀ (ns : List Int) {j : Nat}, idxN k ns = some j → ns[j]? = some k ∧ (∀ m : Nat, m < j → ns[m]? ≠ some k) ∧ delN k ns = (ns.eraseIdx j).map T.int
  | [], j, h => nomatch h
  | i :: ns, j, h => by
    have e : idxN k (i :: ns) = ifB (iEq i k) (some 0) (Option.rec (motive := fun _ => Option Nat) none (fun n => some (Nat.succ n)) (idxN k ns)) := rfl
    have e2 : delN k (i :: ns) = ifB (iEq i k) (mapI ns) (.int i :: delN k ns) := rfl
    have e3 : ∀ l : List Int, mapI l = l.map T.int := fun l => by
      induction l with
      | nil => rfl
      | cons a l ih => rw [List.map_cons, ← ih]; rfl
    rw [e, iEq_eq] at h
    rw [e2, iEq_eq]
    by_cases hk : i = k
    · rw [decide_eq_true hk] at h ⊢
      cases h
      subst hk
      exact ⟨rfl, fun m hm => absurd hm (Nat.not_lt_zero _), e3 ns⟩
    · rw [decide_eq_false hk] at h ⊢
      cases hi : idxN k ns with
      | none => rw [hi] at h; exact nomatch h
      | some n =>
        rw [hi] at h
        cases h
        obtain ⟨h1, h2, h3⟩ := idxN_ok k ns hi
        refine ⟨by simpa using h1, fun m hm => ?_, ?_⟩
        · cases m with
          | zero => simpa using hk
          | succ m => simpa using h2 m (Nat.lt_of_succ_lt_succ hm)
        · show T.int i :: delN k ns = _
          rw [h3]; rfl
theorem post_int {ρ s H} {t : T} {k : Int → Res} {Q : VK} (h : Post ρ s H (onInt Res.er t k) Q) : ∃ i, t = .int i ∧ Post ρ s H (k i) Q := by
  cases t with
  | int i => exact ⟨i, rfl, h⟩
  | _ => exact h.elim
theorem k_count {K : PySem.W.Frag} : OpT mCount (fun x y H Q => rCntI K x [y] H Q) := by
  intro ρ s H t u x y Q rs d1 d2 h
  unfold mCount at h
  obtain ⟨n, ts, rfl, hn, h2⟩ := h.onLst
  obtain ⟨a, vs, rfl, hr, ha, dl⟩ := rs.lst hn d1
  obtain ⟨k, rfl, h3⟩ := post_int h2
  rw [den_int] at d2; subst d2
  obtain ⟨ns, rfl, h4⟩ := intsK_ok h3
  have e := denL_ints dl
  subst e
  rw [frN_eq, cntN_eq] at h4
  exact ⟨a, ns, k, rfl, rfl, .of ha, h4 ρ H _ Ext.refl rs (by simp)⟩
theorem k_remove : OpT mRemove (fun x y H Q => rRemI x [y] H Q) := by
  intro ρ s H t u x y Q rs d1 d2 h
  unfold mRemove at h
  obtain ⟨n, ts, rfl, hn, h2⟩ := h.onLst
  obtain ⟨a, vs, rfl, hr, ha, dl⟩ := rs.lst hn d1
  obtain ⟨k, rfl, h3⟩ := post_int h2
  rw [den_int] at d2; subst d2
  obtain ⟨ns, rfl, h4⟩ := intsK_ok h3
  have e := denL_ints dl
  subst e
  cases hi : idxN k ns with
  | none => rw [hi] at h4; exact h4.elim
  | some j =>
    rw [hi] at h4
    obtain ⟨h5, h6, h7⟩ := idxN_ok k ns hi
    have h8 := Post.setO hn (show Post ρ s H (setO .er s n (.l (delN k ns)) fun s => .v .non s) Q from h4)
    obtain ⟨ex, rr⟩ := write_ok rs hn hr (show DenO ρ H (.l (delN k ns)) (.lst ((ns.eraseIdx j).map V.int)) from ⟨_, rfl, by rw [h7]; exact denL_of_ints⟩)
    exact ⟨a, ns, k, j, rfl, rfl, ha, h5, h6, h8 ρ _ _ ex rr (by simp)⟩
theorem k_index {K : PySem.W.Frag} : OpT mIndex (fun x y H Q => rIndex K x [y] H Q) := by
  intro ρ s H t u x y Q rs d1 d2 h
  unfold mIndex at h
  obtain ⟨n, ts, rfl, hn, h2⟩ := h.onLst
  obtain ⟨a, vs, rfl, hr, ha, dl⟩ := rs.lst hn d1
  obtain ⟨k, rfl, h3⟩ := post_int h2
  rw [den_int] at d2; subst d2
  obtain ⟨ns, rfl, h4⟩ := intsK_ok h3
  have e := denL_ints dl
  subst e
  cases hi : idxN k ns with
  | none => rw [hi] at h4; exact h4.elim
  | some j =>
    rw [hi] at h4
    have h4 : Post ρ s H (frN j fun m => .v (.int (.ofNat m)) s) Q := h4
    rw [frN_eq] at h4
    obtain ⟨h5, h6, _⟩ := idxN_ok k ns hi
    refine ⟨a, ns.map V.int, .int k, j, .int k, rfl, rfl, .of ha, rfl, ?_, by rw [List.getElem?_map, h5]; rfl, ?_, fun m z' hm hz => ?_, h4 ρ H _ Ext.refl rs (by simp)⟩
    · rw [List.all_eq_true]
      intro v hv
      obtain ⟨i, _, rfl⟩ := List.mem_map.mp hv
      rfl
    · show decide (k = k) = true
      simp
    · rw [List.getElem?_map] at hz
      cases hq : ns[m]? with
      | none => rw [hq] at hz; cases hz
      | some i =>
        rw [hq] at hz
        cases hz
        have := h6 m hm
        rw [hq] at this
        show decide (i = k) = false
        exact decide_eq_false fun e => this (by rw [e])
theorem pe_count {X : Cx} {c : Cf} {O A : Ev} {o e : Expr} {apos cpos : Pos} (ho : PE X o (rdE c O)) (ha : PE X e (rdE c A)) (hs : noStar e = true) (hb : notCall0 o = true) (hl : (apos.endLine == cpos.line) = true) : PE X (.Call (.Attribute o "count" apos) [e] [] cpos) (rdE c (eMt1 mCount O A)) :=
  pe_mt1 PySem.F.slot_list_count PySem.F.type_list_count mt_lcount k_count ho ha hs hb hl
theorem pe_index {X : Cx} {c : Cf} {O A : Ev} {o e : Expr} {apos cpos : Pos} (ho : PE X o (rdE c O)) (ha : PE X e (rdE c A)) (hs : noStar e = true) (hb : notCall0 o = true) (hl : (apos.endLine == cpos.line) = true) : PE X (.Call (.Attribute o "index" apos) [e] [] cpos) (rdE c (eMt1 mIndex O A)) :=
  pe_mt1 PySem.F.slot_list_index PySem.F.type_list_index mt_index k_index ho ha hs hb hl
theorem pe_remove {X : Cx} {c : Cf} {O A : Ev} {o e : Expr} {apos cpos : Pos} (ho : PE X o (rdE c O)) (ha : PE X e (rdE c A)) (hs : noStar e = true) (hb : notCall0 o = true) (hl : (apos.endLine == cpos.line) = true) : PE X (.Call (.Attribute o "remove" apos) [e] [] cpos) (rdE c (eMt1 mRemove O A)) :=
  pe_mt1 PySem.F.slot_list_remove PySem.F.type_list_remove mt_remove k_remove ho ha hs hb hl
end Rk
end
section
set_option linter.all false
set_option autoImplicit false
set_option maxRecDepth 100000
namespace Rk
open PySem PySem.Spec PyProof.Rows L2
/-! ### setdefault, keys plain or tuples -/
def tDSetdA (td ty tx : TE) : TE := fun σ H Q => td σ H fun x H1 => ∃ a, x = .ref a ∧ IsD H1 a ∧ ty σ H1 fun y H2 => tx σ H2 fun z H3 =>
  (∃ kvs k, H3 a = some (.dK kvs) ∧ y = kV k ∧ kvs.length < sizeLine ∧ (∀ v, valV kvs k = some v → Q v H3) ∧ (valV kvs k = none → Q z (upd H3 a (.dK (putK kvs k z))))) ∨
  (∃ (kvs : List (List Key × V)) (k : List Key) (b : Addr), H3 a = some (.dT kvs) ∧ y = .ref b ∧ H3 b = some (.tup (k.map kV)) ∧ kvs.length < sizeLine ∧ (∀ v, valV kvs k = some v → Q v H3) ∧ (valV kvs k = none → Q z (upd H3 a (.dT (putK kvs k z)))))
section
variable {X : Cx} {pins : List (Addr × Obj)} {σ : L2.St} {H : Hp} {s : Shared} {a b : Addr} {d : V} {r : Value} {k : List Key} {A : Around} {E : Value → Shared → Prop}
theorem d_setdT {kvs : List (List Key × V)} {Q : Value → Shared → Prop} (hu : A.units + 1 < cLine) (I : Inv X pins σ H s) (e : H a = some (.dT kvs)) (eb : H b = some (.tup (k.map kV))) (rd : RelV d r) (hl : kvs.length < sizeLine)
    (h1 : ∀ v, valV kvs k = some v → ∀ (w' : Value) (s' : Shared), Inv X pins σ H s' → RelV v w' → Q w' s') (h2 : valV kvs k = none → ∀ (w' : Value) (s' : Shared), Inv X pins σ (upd H a (.dT (putK kvs k d))) s' → RelV d w' → Q w' s') :
    wpAny (model X.prog X.w) A (call (.builtin "dict.setdefault") [.ref a, .ref b, r]) Q E s := by
  obtain ⟨z, hd, xs, rel, dd⟩ := dt_of I.hok e
  have hz : xs.length ≤ sizeLine := by rw [← rel.length]; exact z
  have q := rel.val k
  refine call_setdefault_heap (hsz := hz) (tupleKind_room_in1 hu) (key_of I.hok eb) hd dd (fun p hp => ?_) fun hn h' dd' hs => ?_
  · rw [hp] at q
    cases q0 : valV kvs k with
    | none => rw [q0] at q; exact (show False from q).elim
    | some v0 => rw [q0] at q; exact h1 v0 q0 _ _ (I.tok _) q
  · rw [hn] at q
    cases q0 : valV kvs k with
    | some v0 => rw [q0] at q; exact (show False from q).elim
    | none =>
      refine h2 q0 _ _ ?_ rd
      have he : ∃ q, h'.get? a = some q := let ⟨q, _, _, hq, _⟩ := dd'; ⟨q, hq⟩
      refine d_write (t' := _) I (by rw [e]; exact True.intro) hs he ?_
      obtain ⟨o, es, ep, g1, g2, g3, g4, g5, g6⟩ := dd'
      refine ⟨by have := length_putK kvs k d; omega, hd, _, Paired.mapP (rel.put k eb rd) fun p q t => ⟨t.1, ?_, t.2.2⟩, o, es, ep, g1, g2, g3, g4, g6⟩
      rw [upd_ne]
      · exact t.2.1
      · intro z'
        have t1 := t.2.1
        rw [z', e] at t1
        exact nomatch t1
end
section
variable {X : Cx} {o e f : Expr} {td ty tx : TE} {apos cpos : Pos}
theorem pe_dsetdA (hu : X.A.units + 1 < cLine) (ho : PE X o td) (he : PE X e ty) (hf : PE X f tx) (m : M2 X o "setdefault" apos e f cpos) : PE X (.Call (.Attribute o "setdefault" apos) [e, f] [] cpos) (tDSetdA td ty tx) := by
  refine ⟨fun pins s σ H Q I h => ?_⟩
  refine wpAny_Call_method m.base m.few m.line PySem.F.plainAttrs_dict PySem.F.slot_dict_setdefault PySem.F.type_dict_setdefault (thn (ho.run pins s σ H _ I h) fun u s1 ⟨x, H1, I1, rx, a, ex, d, q1⟩ => ?_)
  subst ex
  obtain rfl : u = Value.ref a := rx
  obtain ⟨t1, t2, _⟩ := isD_at I1 d
  refine ⟨t1, t2, ?_⟩
  rw [m.trees]
  refine Calls.callWith_builtin rfl (Calls.evalArgs_plain (Calls.spliced_cons (thn (he.run pins s1 σ H1 _ I1 q1) fun iv s2 ⟨y, H2, I2, ry, q2⟩ =>
    Calls.spliced_cons (thn (hf.run pins s2 σ H2 _ I2 q2) fun fv s3 ⟨z, H3, I3, rz, q⟩ => Calls.spliced_nil ?_))))
  rcases q with ⟨kvs, k, ea, ey, hl, q3, q4⟩ | ⟨kvs, k, b, ea, ey, eb, hl, q3, q4⟩
  · subst ey
    exact d_setd I3 ea ry rz hl (fun v hv w' s4 I4 rw' => ⟨v, _, I4, rw', q3 v hv⟩) fun hn w' s4 I4 rw' => ⟨z, _, I4, rw', q4 hn⟩
  · subst ey
    obtain rfl : iv = Value.ref b := ry
    exact d_setdT hu I3 ea eb rz hl (fun v hv w' s4 I4 rw' => ⟨v, _, I4, rw', q3 v hv⟩) fun hn w' s4 I4 rw' => ⟨z, _, I4, rw', q4 hn⟩
end
section
variable {c : Cf} {O A B : Ev}
theorem setd_gen {κ : Type} [DecidableEq κ] {kf : T → Option κ} {mk : List (κ × V) → HO} (b : Bool) (he : ∀ {a b ka kb}, kf a = some ka → kf b = some kb → tEq a b = some (decide (ka = kb))) (hmk2 : ∀ {ρ H kvs ys}, DenK kf ρ H kvs ys → DenO ρ H (.d b kvs) (mk ys))
    {ρ s H} {n : Nat} {a : Addr} {y z : T} {k : κ} {kvs : List (T × T)} {ys : List (κ × V)} {vz : V} {Q : VK} (rs : RelS ρ s H) (hn : s.find n = some (.d b kvs)) (ha : ρ n = some a) (hk : kf y = some k) (dk : DenK kf ρ H kvs ys) (dz : Den ρ H z vz) (h : Post ρ s H (sDef b z y n kvs s) Q) :
    (∀ v, valV ys k = some v → Q v H) ∧ (valV ys k = none → Q vz (upd H a (mk (putK ys k vz)))) := by
  unfold sDef at h
  rcases keyG_ok he hk dk with ⟨q1, q2⟩ | ⟨t, v', q1, q2, d⟩
  · refine ⟨fun v hv => (by rw [q2] at hv; cases hv), fun _ => ?_⟩
    rw [q1] at h
    obtain ⟨kvs', q3, dk'⟩ := putD_ok (e := Res.er) he hk dz (k := fun kvs => setO .er s n (.d b kvs) fun s => .v z s) dk
    have h : Post ρ s H (putD .er y z kvs fun kvs => setO .er s n (.d b kvs) fun s => .v z s) Q := h
    rw [q3, setO_eq, hn] at h
    obtain ⟨ex, rr⟩ := write_ok rs hn ha (show DenO ρ H (.d b kvs') (mk (putK ys k vz)) from hmk2 dk')
    exact h ρ _ vz ex rr (dz.ext rs ex)
  · refine ⟨fun v hv => ?_, fun hv => (by rw [q2] at hv; cases hv)⟩
    have e1 := q2.symm.trans hv
    cases e1
    rw [q1] at h
    exact h ρ H _ Ext.refl rs d
theorem setd_rd (σ : L2.St) (H : Hp) (Q : VK) (h : rdE c (eSetd O A B) σ H Q) : tDSetdA (rdE c O) (rdE c A) (rdE c B) σ H Q := by
  obtain ⟨ρ, e, s, rs, re, h⟩ := h
  refine ⟨ρ, e, s, rs, re, (bnd_post rs h).mono fun x H1 ⟨ρ1, s1, t1, e1, r1, d1, p1⟩ => ?_⟩
  obtain ⟨n, b, kvs, rfl, hn, p2⟩ := onDct_ok p1
  obtain ⟨a, rfl, hr, di⟩ := isD_ok r1 hn d1
  refine ⟨a, rfl, di, ρ1, e, s1, r1, re.ext rs e1, (bnd_post r1 p2).mono fun y H2 ⟨ρ2, s2, t2, e2, r2, d2, p3⟩ => ?_⟩
  refine ⟨ρ2, e, s2, r2, (re.ext rs e1).ext r1 e2, (bnd_post r2 p3).mono fun z H3 ⟨ρ3, s3, t3, e3, r3, d3, p3⟩ => ?_⟩
  obtain ⟨o, hn2, p4⟩ := Post.getO p3
  obtain ⟨b, kvs, rfl, p5⟩ := onObD p4
  obtain ⟨hk, p7⟩ := Post.ifB p5
  rw [lenK_eq, Nat.zero_add] at p7
  obtain ⟨hl, p8⟩ := Post.ifB p7
  rw [Nat.blt_eq] at hl
  obtain ⟨a3, ho, h1, h2, h3⟩ := r3.live n _ hn2
  have h4 : ρ3 n = some a := e3.le n a (e2.le n a hr)
  rw [h1] at h4; cases h4
  have dy := d2.ext r2 e3
  cases b with
  | false =>
    obtain ⟨ys, rfl, dk⟩ := h3
    obtain ⟨k, hk⟩ := kP_ok hk
    have := den_key dy hk
    subst this
    obtain ⟨q1, q2⟩ := setd_gen (κ := Key) (kf := keyT) (mk := .dK) false key_eq (fun d => ⟨_, rfl, d⟩) r3 hn2 h1 hk dk d3 p8
    exact .inl ⟨ys, k, h2, rfl, by rw [← dk.length, sizeLine_eq]; exact hl, q1, q2⟩
  | true =>
    obtain ⟨ys, rfl, dk⟩ := h3
    obtain ⟨k, hk⟩ := kT_ok hk
    obtain ⟨b, rfl, hb⟩ := den_keyT dy hk
    obtain ⟨q1, q2⟩ := setd_gen (κ := List Key) (kf := keyTs) (mk := .dT) true keyTs_eq (fun d => ⟨_, rfl, d⟩) r3 hn2 h1 hk dk d3 p8
    exact .inr ⟨ys, k, b, h2, rfl, hb, by rw [← dk.length, sizeLine_eq]; exact hl, q1, q2⟩
theorem pe_setd {X : Cx} {o e f : Expr} {apos cpos : Pos} (hu : X.A.units + 1 < cLine) (ho : PE X o (rdE c O)) (ha : PE X e (rdE c A)) (hf : PE X f (rdE c B)) (hs : noStar e = true) (hs2 : noStar f = true) (hb : notCall0 o = true) (hl : (apos.endLine == cpos.line) = true) :
    PE X (.Call (.Attribute o "setdefault" apos) [e, f] [] cpos) (rdE c (eSetd O A B)) := (pe_dsetdA hu ho ha hf (m2_ok hs hs2 hb hl)).mono setd_rd
end
end Rk
end
section
set_option linter.all false
set_option autoImplicit false
set_option maxRecDepth 100000
namespace Rk
open PySem PySem.Spec PyProof.Rows L2
/-! ### dict(x) -/
def mergeG {κ : Type} [DecidableEq κ] (kvs more : List (κ × V)) : List (κ × V) := more.foldl (fun acc kv => putK acc kv.1 kv.2) kvs
theorem mergeG_len {κ : Type} [DecidableEq κ] : ∀ (more kvs : List (κ × V)), (mergeG kvs more).length ≤ kvs.length + more.length
  | [], kvs => Nat.le_refl _
  | p :: more, kvs => by
    refine Nat.le_trans (mergeG_len more (putK kvs p.1 p.2)) ?_
    have : (putK kvs p.1 p.2).length ≤ kvs.length + 1 := by
      unfold putK
      by_cases h : (kvs.any fun kv => decide (kv.1 = p.1)) = true
      · rw [if_pos h, List.length_map]; exact Nat.le_succ _
      · rw [if_neg h, List.length_append]; exact Nat.le_refl _
    rw [List.length_cons]; omega
def rDictT (K : PySem.W.Frag) : List V → Hp → VK → Prop := fun xs H Q => ∃ (a : Addr) (ps : List Addr) (kvs : List (List Key × V)), xs = [.ref a] ∧ SqL K H a (ps.map V.ref) ∧ Paired (fun p kv => ∃ b, H b = some (.tup (kv.1.map kV)) ∧ SqT K H p [.ref b, kv.2]) ps kvs ∧
    ∀ p, H p = none → Q (.ref p) (upd H p (.dT (mergeG [] kvs)))
section
variable {X : Cx}
theorem pairsT_of {pins : List (Addr × Obj)} {σ : L2.St} {H : Hp} {s : Shared} (I : Inv X pins σ H s) : ∀ {ps : List Addr} {kvs : List (List Key × V)}, Paired (fun p kv => ∃ b, H b = some (.tup (kv.1.map kV)) ∧ SqT X.K H p [.ref b, kv.2]) ps kvs →
    ∃ prs : List (List Key × Addr × Value), KT H kvs prs ∧ prs.length = ps.length ∧ ∀ (j : Nat) (q : List Key × Addr × Value), prs[j]? = some q → ∃ (b : Addr), ps[j]? = some b ∧ s.heap.IsTuple b #[.ref q.2.1, q.2.2]
  | _, _, .nil => ⟨[], .nil, rfl, fun j q e => by simp at e⟩
  | _, _, .cons (a := p) (b := kv) h t => by
    obtain ⟨prs, r, hl, hp⟩ := pairsT_of I t
    obtain ⟨b, hb, h⟩ := h
    obtain ⟨its, rv, ht, _⟩ := I.tuple h
    obtain ⟨u, y, ei, ru, ry⟩ := vals2 rv
    subst ei
    cases (show u = .ref b from ru)
    refine ⟨(kv.1, b, y) :: prs, .cons ⟨rfl, hb, ry⟩ r, by rw [List.length_cons, List.length_cons, hl], fun j q e => ?_⟩
    cases j with
    | zero =>
      have e' : (kv.1, b, y) = q := Option.some.inj e
      subst e'
      exact ⟨p, rfl, ht⟩
    | succ j =>
      obtain ⟨b', e1, e2⟩ := hp j q (by simpa using e)
      exact ⟨b', by simpa using e1, e2⟩
theorem KT.merge {H : Hp} : ∀ {more : List (List Key × V)} {rs : List (List Key × Addr × Value)} {kvs : List (List Key × V)} {xs : List (List Key × Addr × Value)}, KT H more rs → KT H kvs xs → KT H (mergeG kvs more) (storedAllH xs rs)
  | _, _, kvs, xs, .nil, q => q
  | p :: more, r :: rs, kvs, xs, .cons h t, q => by
    obtain ⟨k, v⟩ := p
    obtain ⟨k', b, u⟩ := r
    obtain ⟨e, hb, rv⟩ := h
    cases (show k = k' from e)
    exact KT.merge (more := more) (rs := rs) (kvs := putK kvs k v) (xs := storedH xs k b u) t (q.put k hb rv)
theorem KT.keys {P : Program} {w : World} {H : Hp} {h : Heap} (ok : HOk P w H h) : ∀ {l : List (List Key × V)} {m : List (List Key × Addr × Value)}, KT H l m → ∀ x ∈ m, (tupleKind (mixKind P w)).is h x.1 x.2.1
  | _, _, .nil, x, hx => nomatch hx
  | p :: l, r :: m, .cons h t, x, hx => by
    rcases List.mem_cons.mp hx with rfl | hx
    · exact key_of ok (by rw [← h.1]; exact h.2.1)
    · exact KT.keys ok t x hx
theorem keys_stay {P : Program} {w : World} {h h' : Heap} {b : Addr} {ks : List Key} (x : (tupleKind (mixKind P w)).is h ks b) (k : ∀ o, h.get? b = some o → h'.get? b = some o) : (tupleKind (mixKind P w)).is h' ks b := by
  obtain ⟨o, its, n, h1, h2⟩ := x
  exact ⟨o, its, n, k _ h1, h2⟩
theorem laidT {pins : List (Addr × Obj)} {σ : L2.St} {H : Hp} {s : Shared} {h' : Heap} {tk : Nat} {p : Addr} {kvs : List (List Key × V)} {xs : List (List Key × Addr × Value)} (I : Inv X pins σ H s) (hk : ∀ b o, s.heap.get? b = some o → h'.get? b = some o)
    (hp : s.heap.objs.size ≤ p) (hl : kvs.length ≤ sizeLine) (r : KT H kvs xs) (hd : h'.DictOfH (tupleKind (mixKind X.prog X.w)) p xs) : Inv X pins σ (upd H p (.dT kvs)) { s with heap := h', toks := tk } := by
  have hm : (p == sysModules) = false := beq_eq_false_iff_ne.mpr (Nat.ne_of_gt (Nat.lt_of_lt_of_le I.big hp))
  refine I.laid (t' := tk) hk hp ?_
  obtain ⟨o, es, ep, h1, h2, h3, h4, h5, h6⟩ := hd
  refine ⟨hl, hm, xs, Paired.mapP r fun q z t => ⟨t.1, ?_, t.2.2⟩, o, es, ep, h1, h2, h3, h4, h6⟩
  rw [upd_ne]
  · exact t.2.1
  · intro z'
    have := I.hok.fresh hp
    rw [← z'] at this
    rw [this] at t
    exact nomatch t.2.1
theorem call_dictT (hcalm : X.calm = true) (hu : X.A.units + 3 < cLine) : CallR X (.type "dict") (rDictT X.K) := by
  intro pins s σ H xs us Q I r q
  obtain ⟨a, ps, kvs, ex, hq, hp, q⟩ := q
  subst ex
  obtain ⟨u, eu, rx⟩ := vals1 r
  subst eu
  cases rx
  obtain ⟨its, rv, pl, hz⟩ := I.list hq
  have ei := refs_at rv
  subst ei
  rw [List.length_map] at hz
  obtain ⟨prs, rel, hl, hpr⟩ := pairsT_of I hp
  obtain ⟨o, n, ho, hc, hd, hdat⟩ := pl
  let Ts : Nat → Addr := fun j => ps.getD j 0
  let vps : List (Value × Value) := prs.map fun q => (Value.ref q.2.1, q.2.2)
  have ok : PlainSeq "list" s.heap a (ps.map Value.ref).toArray ∧ PairItems s.heap (ps.map Value.ref).toArray Ts vps := by
    refine ⟨⟨o, n, ho, hc, hd, hdat⟩, by simp [vps, hl], fun j k v e => ?_⟩
    have e : prs[j]?.map (fun q => (Value.ref q.2.1, q.2.2)) = some (k, v) := by simpa [vps] using e
    obtain ⟨p, hp2, e2⟩ := Option.map_eq_some_iff.mp e
    cases e2
    obtain ⟨b, e1, e2⟩ := hpr j p hp2
    have e3 : Ts j = b := by show ps.getD j 0 = b; rw [List.getD_eq_getElem?_getD, e1]; rfl
    exact ⟨by simp [e1, e3], .inl (by rw [e3]; exact e2)⟩
  have nl : vps.length = prs.length := by simp [vps]
  refine call_dict_pairsH (knd := tupleKind (mixKind X.prog X.w)) (ps := prs) (PairArg.list a _ Ts vps) (I.ok.hd hcalm) (by show X.A.in1.in1.units < cLine; show X.A.units + 2 < cLine; omega) ok ⟨nl.symm, fun i key v e => ?_⟩ (fun h' hk x hx => ?_) (by rw [nl, hl]; exact hz) fun h' tk hd' hk => ?_
  · have e : prs[i]?.map (fun q => (Value.ref q.2.1, q.2.2)) = some (key, v) := by simpa [PairRel, vps] using e
    obtain ⟨p, hp2, e2⟩ := Option.map_eq_some_iff.mp e
    cases e2
    exact ⟨p.1, p.2.1, hp2, rfl⟩
  · have z := KT.keys I.hok rel x hx
    obtain ⟨o', _, _, h1, _⟩ := id z
    exact keys_stay z fun o e => hk _ o (Nat.ne_of_lt (Heap.lt_size h1)) (fun q => nomatch q) e
  · have hlen : (mergeG [] kvs).length ≤ sizeLine := by
      refine Nat.le_trans (mergeG_len kvs []) ?_
      rw [List.length_nil, Nat.zero_add, rel.length, hl]
      exact hz
    exact ⟨.ref s.heap.objs.size, _, laidT (tk := tk) I (fun b o e => hk b o (fun q => nomatch q) e) (Nat.le_refl _) hlen (KT.merge rel .nil) hd', rfl, q _ (I.hok.fresh (Nat.le_refl _))⟩
end

section
variable {ρ : Nat → Option Addr} {s : Sto} {H : Hp} {Q : VK}
theorem onPr_ok {t : T} {k : T → T → Res} (h : Post ρ s H (onPr t k) Q) : ∃ a b, t = .tup [a, b] ∧ Post ρ s H (k a b) Q := by
  cases t with
  | tup ts =>
    match ts, h with
    | [], h => exact (show False from h).elim
    | [a], h => exact (show False from h).elim
    | [a, b], h => exact ⟨a, b, rfl, h⟩
    | a :: b :: d :: r, h => exact (show False from h).elim
  | _ => exact (show False from h).elim
theorem prK_ok : ∀ {xs : List T} {k : List (T × T) → Res}, Post ρ s H (prK xs k) Q → ∃ ps : List (T × T), xs = ps.map (fun p => T.tup [p.1, p.2]) ∧ Post ρ s H (k ps) Q
  | [], k, h => ⟨[], rfl, h⟩
  | x :: xs, k, h => by
    obtain ⟨a, b, rfl, h⟩ := onPr_ok (show Post ρ s H (onPr x fun a b => prK xs fun ps => k ((a, b) :: ps)) Q from h)
    obtain ⟨ps, e, h⟩ := prK_ok (k := fun ps => k ((a, b) :: ps)) h
    exact ⟨(a, b) :: ps, by rw [e]; rfl, h⟩
/-- keys by kf, values told -/
def PrD {κ : Type} (kf : T → Option κ) (ρ : Nat → Option Addr) (H : Hp) (p : T × T) (kv : κ × V) : Prop := kf p.1 = some kv.1 ∧ Den ρ H p.2 kv.2
theorem mrg_gen {κ : Type} [DecidableEq κ] {kf : T → Option κ} (b : Bool) (he : ∀ {a b ka kb}, kf a = some ka → kf b = some kb → tEq a b = some (decide (ka = kb))) (hk : ∀ {t : T}, Rk.ifB b (kT t) (kP t) = true → ∃ k, kf t = some k) :
    ∀ {ps : List (T × T)} {vs : List V} {acc : List (T × T)} {ys : List (κ × V)} {k : List (T × T) → Res}, DenL ρ H (ps.map (·.2)) vs → DenK kf ρ H acc ys → Post ρ s H (mrgK b ps acc k) Q →
      ∃ (kvs : List (T × T)) (kk : List (κ × V)), Paired (PrD kf ρ H) ps kk ∧ kk.map (·.2) = vs ∧ DenK kf ρ H kvs (mergeG ys kk) ∧ Post ρ s H (k kvs) Q
  | [], vs, acc, ys, k, dl, d, h => by
    rw [List.map_nil, denL_nil] at dl
    exact ⟨acc, [], .nil, by rw [dl]; rfl, d, h⟩
  | p :: ps, vs, acc, ys, k, dl, d, h => by
    rw [List.map_cons, denL_cons] at dl
    obtain ⟨v, r, rfl, d1, d2⟩ := dl
    have h : Post ρ s H (Rk.ifB (Rk.ifB b (kT p.1) (kP p.1)) (putD .er p.1 p.2 acc fun acc => mrgK b ps acc k) .er) Q := h
    obtain ⟨h1, h⟩ := Post.ifB h
    obtain ⟨kx, hx⟩ := hk h1
    obtain ⟨acc', e, d'⟩ := putD_ok (e := Res.er) he hx d1 (k := fun acc => mrgK b ps acc k) d
    rw [e] at h
    obtain ⟨kvs, kk, q1, q2, q3, q4⟩ := mrg_gen b he hk d2 d' h
    exact ⟨kvs, (kx, v) :: kk, .cons ⟨hx, d1⟩ q1, by rw [List.map_cons, q2], q3, q4⟩
theorem pairs_den : ∀ {ps : List (T × T)} {vs : List V}, DenL ρ H (ps.map fun p => T.tup [p.1, p.2]) vs → ∃ (as : List Addr) (xs ys : List V), vs = as.map V.ref ∧ DenL ρ H (ps.map (·.1)) xs ∧ DenL ρ H (ps.map (·.2)) ys ∧ as.length = ps.length ∧
      ∀ (i : Nat) (a : Addr) (x y : V), as[i]? = some a → xs[i]? = some x → ys[i]? = some y → H a = some (.tup [x, y])
  | [], vs, d => by
    rw [List.map_nil, denL_nil] at d
    exact ⟨[], [], [], d, by simp, by simp, rfl, fun i a x y h => by simp at h⟩
  | p :: ps, vs, d => by
    rw [List.map_cons, denL_cons] at d
    obtain ⟨v, r, rfl, d1, d2⟩ := d
    rw [den_tup] at d1
    obtain ⟨a, ws, rfl, ha, dw⟩ := d1
    rw [denL_cons] at dw
    obtain ⟨x, q, rfl, dx, dw⟩ := dw
    rw [denL_cons] at dw
    obtain ⟨y, q, rfl, dy, dw⟩ := dw
    rw [denL_nil] at dw
    subst dw
    obtain ⟨as, xs, ys, rfl, h1, h2, h3, h4⟩ := pairs_den d2
    refine ⟨a :: as, x :: xs, y :: ys, rfl, ?_, ?_, by simp [h3], fun i a' x' y' e1 e2 e3 => ?_⟩
    · rw [List.map_cons, denL_cons2]; exact ⟨dx, h1⟩
    · rw [List.map_cons, denL_cons2]; exact ⟨dy, h2⟩
    · cases i with
      | zero => simp at e1 e2 e3; subst e1 e2 e3; exact ha
      | succ i => exact h4 i a' x' y' (by simpa using e1) (by simpa using e2) (by simpa using e3)
/-- the pairs' tuples, key by key -/
theorem pairs_key {κ : Type} {kf : T → Option κ} {R : V → κ → Prop} (hr : ∀ {t v k}, Den ρ H t v → kf t = some k → R v k) : ∀ {ps : List (T × T)} {as : List Addr} {xs ys : List V} {kk : List (κ × V)}, Paired (PrD kf ρ H) ps kk → kk.map (·.2) = ys → DenL ρ H (ps.map (·.1)) xs → as.length = ps.length →
    (∀ (i : Nat) (a : Addr) (x y : V), as[i]? = some a → xs[i]? = some x → ys[i]? = some y → H a = some (.tup [x, y])) → Paired (fun a kv => ∃ x, R x kv.1 ∧ H a = some (.tup [x, kv.2])) as kk
  | [], [], xs, ys, _, .nil, e, d, hl, h => .nil
  | p :: ps, a :: as, xs, ys, kv :: kk, .cons h1 h2, e, d, hl, h => by
    rw [List.map_cons, denL_cons] at d
    obtain ⟨x, r, rfl, d1, d2⟩ := d
    subst e
    refine .cons ⟨x, hr d1 h1.1, h 0 a x kv.2 rfl rfl rfl⟩ (pairs_key hr h2 rfl d2 (by simpa using hl) fun i a' x' y' e1 e2 e3 => h (i + 1) a' x' y' (by simpa using e1) (by simpa using e2) (by simpa using e3))
  | [], a :: as, xs, ys, _, .nil, e, d, hl, h => nomatch hl
  | p :: ps, [], xs, ys, _, .cons _ _, e, d, hl, h => nomatch hl
theorem alloc_d {b : Bool} {kvs : List (T × T)} {ho : HO} (rs : RelS ρ s H) (d : DenO ρ H (.d b kvs) ho) (h : Post ρ s H (alloc (.d b kvs) s fun t s => .v t s) Q) {p : Addr} (hp : H p = none) : Q (.ref p) (upd H p ho) := by
  obtain ⟨n, al⟩ := s
  rw [alloc_eq] at h
  have ex : Ext ρ (.mk n al) H ρ (.mk n al) (upd H p ho) := Ext.fresh hp
  have rr := rs.fresh (o := ho) hp
  obtain ⟨ex2, rr2⟩ := adopt rs ex rr hp (fun m hm => rs.trk m p hm hp) upd_same (o := .d b kvs) (d.ext rs ex)
  exact h _ _ _ ex2 rr2 (by rw [den_ref]; exact ⟨p, rfl, addR_same⟩)
end
def rDictP (K : PySem.W.Frag) : List V → Hp → VK → Prop := fun xs H Q => ∃ (a : Addr) (ps : List Addr) (kvs : List (Key × V)), xs = [.ref a] ∧ SqL K H a (ps.map V.ref) ∧ Paired (fun p kv => SqT K H p [kV kv.1, kv.2]) ps kvs ∧
    ∀ p, H p = none → Q (.ref p) (upd H p (.dK (mergeK [] kvs)))
def rDictD : List V → Hp → VK → Prop := fun xs H Q => ∃ (a : Addr) (kvs : List (Key × V)), xs = [.ref a] ∧ Rd H a (.dK kvs) ∧ ∀ p, H p = none → Q (.ref p) (upd H p (.dK kvs))
def rDctA (K : PySem.W.Frag) : List V → Hp → VK → Prop := fun xs H Q => rDictT K xs H Q ∨ rDictP K xs H Q ∨ rDictD xs H Q
theorem call_dctA {X : Cx} (hc : X.calm = true) (hu : X.A.units + 3 < cLine) : CallR X (.type "dict") (rDctA X.K) := (call_dictT hc hu).or ((call_dictP hc).or call_dictD)
theorem dctP_ok {K : PySem.W.Frag} {b : Bool} {ρ s H} {ts : List T} {a : Addr} {vs : List V} {Q : VK} (rs : RelS ρ s H) (ha : H a = some (.lst vs)) (dl : DenL ρ H ts vs) (h : Post ρ s H (dctP b ts s) Q) : rDctA K [.ref a] H Q := by
  unfold dctP at h
  obtain ⟨ps, rfl, h2⟩ := prK_ok h
  clear h
  have h := h2
  obtain ⟨as, xs, ys, rfl, d1, d2, hl, hp⟩ := pairs_den dl
  cases b with
  | false =>
    obtain ⟨kvs, kk, q1, q2, q3, q4⟩ := mrg_gen (κ := Key) (kf := keyT) false key_eq (fun h => kP_ok h) (acc := []) (ys := []) d2 rfl h
    refine .inr (.inl ⟨a, as, kk, rfl, .of ha, Paired.mapP (pairs_key (R := fun x k => x = kV k) (fun d e => den_key d e) q1 q2 d1 hl hp) fun p kv z => ?_, fun p hp => alloc_d (b := false) (ho := .dK (mergeG [] kk)) rs ⟨_, rfl, q3⟩ q4 hp⟩)
    obtain ⟨x, rfl, z⟩ := z
    exact .of z
  | true =>
    obtain ⟨kvs, kk, q1, q2, q3, q4⟩ := mrg_gen (κ := List Key) (kf := keyTs) true keyTs_eq (fun h => kT_ok h) (acc := []) (ys := []) d2 rfl h
    refine .inl ⟨a, as, kk, rfl, .of ha, Paired.mapP (pairs_key (R := fun x k => ∃ b, x = .ref b ∧ H b = some (.tup (k.map kV))) (fun d e => den_keyT d e) q1 q2 d1 hl hp) fun p kv z => ?_, fun p hp => alloc_d (b := true) (ho := .dT (mergeG [] kk)) rs ⟨_, rfl, q3⟩ q4 hp⟩
    obtain ⟨x, ⟨b, rfl, hb⟩, z⟩ := z
    exact ⟨b, hb, .of z⟩
theorem dct_rd {K : PySem.W.Frag} {b : Bool} {c : Cf} {A : Ev} (σ : L2.St) (H : Hp) (Q : VK) (h : rdE c (eDct b A) σ H Q) : tCB (rDctA K) (tCons (rdE c A) tNil) σ H Q := by
  obtain ⟨ρ, e, s, rs, re, h⟩ := h
  refine ⟨ρ, e, s, rs, re, ?_⟩
  unfold eDct at h
  cases hm : A c e s with
  | er => rw [hm] at h; exact h
  | v t s' =>
    rw [hm] at h
    intro ρ' H' v ex rr d
    have h := h.step rs rr ex
    cases t with
    | ref n =>
      obtain ⟨o, hn, h⟩ := Post.getO (show Post ρ' s' H' (getO .er s' n fun o => dctO b o s') Q from h)
      cases o with
      | l ts =>
        obtain ⟨a, vs, rfl, _, ha, dl⟩ := rr.lst hn d
        exact dctP_ok rr ha dl h
      | d b' kvs =>
        obtain ⟨hb, h⟩ := ifB_er (show Post ρ' s' H' (Rk.ifB b' .er (alloc (.d false kvs) s' fun t s => .v t s)) Q from h)
        subst hb
        obtain ⟨a, ho, h1, h2, h3⟩ := rr.live n _ hn
        rw [den_ref] at d
        obtain ⟨a', rfl, h5⟩ := d
        rw [h1] at h5; cases h5
        obtain ⟨ys, rfl, dk⟩ := h3
        exact .inr (.inr ⟨a, ys, rfl, .inl h2, fun p hp => alloc_d (b := false) (ho := .dK ys) rr ⟨_, rfl, dk⟩ h hp⟩)
    | _ => exact (show False from h).elim
  | nl ts s' =>
    rw [hm] at h
    intro ρ' H' a ex rr nl
    obtain ⟨_, _, vs, ha, dl⟩ := nl
    exact dctP_ok rr ha dl (Post.step rs rr ex h)
theorem pe_edct {X : Cx} {b : Bool} {c : Cf} {A : Ev} {e : Expr} {p pos : Pos} (hc : X.calm = true) (hu : X.A.units + 3 < cLine) (hg : Gl X "dict") (hm : X.mg "dict" = none) (ha : PE X e (rdE c A)) (hs : noStar e = true) : PE X (.Call (.Name "dict" p) [e] [] pos) (rdE c (eDct b A)) :=
  (pe_callTy (call_dctA hc hu) hg hm (by decide +kernel) (pa1 ha hs) (by decide +kernel) (by decide +kernel) (star_one hs) rfl).mono dct_rd
end Rk
end
section
set_option linter.all false
set_option autoImplicit false
set_option maxRecDepth 100000
namespace Rk
open PySem PySem.Spec PyProof.Rows L2
/-! ### displays of several pairs, with tuples as keys too -/
def tDispT (trs : List (TE × TE)) : TE := fun σ H Q => ∀ p, H p = none → tPairs trs σ (upd H p (.dT [])) fun ps H2 => H2 p = some (.dT []) ∧ ∃ kvs : List (List Key × V), Paired (fun (q : V × V) kv => ∃ b, q.1 = .ref b ∧ H2 b = some (.tup (kv.1.map kV)) ∧ q.2 = kv.2) ps kvs ∧ kvs.length ≤ 15 ∧ Q (.ref p) (upd H2 p (.dT (mergeG [] kvs)))
theorem carriesT {P : Program} {w : World} {H : Hp} {h : Heap} (ok : HOk P w H h) : ∀ {ps : List (V × V)} {kvs : List (List Key × V)} {ws : List (Value × Value)}, VV ps ws → Paired (fun (q : V × V) (kv : List Key × V) => ∃ b, q.1 = .ref b ∧ H b = some (.tup (kv.1.map kV)) ∧ q.2 = kv.2) ps kvs →
    ∃ rs : List (List Key × Addr × Value), CarriesH (tupleKind (mixKind P w)) h ws rs ∧ KT H kvs rs
  | _, _, _, .nil, .nil => ⟨[], True.intro, .nil⟩
  | _, kv :: _, w1 :: _, .cons h1 h2, .cons g1 g2 => by
    obtain ⟨rs, c, r⟩ := carriesT ok h2 g2
    obtain ⟨b, e1, e2, e3⟩ := g1
    obtain ⟨r1, r2⟩ := h1
    obtain ⟨u, y⟩ := w1
    rw [e1] at r1
    cases (show u = .ref b from r1)
    rw [e3] at r2
    exact ⟨(kv.1, b, y) :: rs, ⟨rfl, rfl, key_of ok e2, c⟩, .cons ⟨rfl, e2, r2⟩ r⟩
theorem pairsH_id {K : Type} : ∀ (rs : List (K × Addr × Value)), (pairsH rs).length = rs.length := fun rs => by unfold pairsH; simp
theorem pe_dispT {X : Cx} {pos : Pos} {keys : List (Option Expr)} {values : List Expr} {trs : List (TE × TE)} (hu : X.A.units < cLine) (h : PPs X pos keys values trs) (hall : keys.all (·.isSome) = true) (hl : keys.length = values.length) (h0 : keys ≠ [])
    (h15 : keys.length ≤ 15) : PE X (.Dict keys values pos) (tDispT trs) := by
  refine ⟨fun pins s σ H Q I q => ?_⟩
  have hn := I.hok.fresh (Nat.le_refl s.heap.objs.size)
  have I1 := I.laid (a := s.heap.objs.size) (o := .dT []) (h' := s.heap.push { cls := .type "dict", data := .dict #[] }) (t' := s.toks) (fun _ _ q => Heap.get?_push_of_some _ q) (Nat.le_refl _) (dt_empty s.heap I.big)
  rw [arm_eval_Dict, zip_pairTrees keys values X.env pos hall hl]
  have pl := pairTrees_length keys values X.env pos hall hl
  rw [dictDisplay_pairs (pairTrees keys values X.env pos) (fun e => by rw [e] at pl; exact h0 (List.length_eq_zero_iff.mp pl.symm)) (by rw [pl]; omega)]
  refine wpAny_bind (wpAny_standAt (wpAny_bind (wpAny_subDictH (knd := tupleKind (mixKind X.prog X.w)) hu (by rw [pl]; exact h15) (thn (h.run pins _ σ _ _ I1 (q _ hn)) fun ws s2 ⟨ps, H2, I2, rel, e, kvs, ep, lk, q2⟩ => ?_))))
  obtain ⟨rs, c, rk⟩ := carriesT (P := X.prog) (w := X.w) I2.hok rel ep
  obtain ⟨z, hd, xs0, r0, dd⟩ := dt_of I2.hok e
  cases r0
  refine ⟨rs, c, dd, fun h' tk dd' hs => wpAny_pure ⟨.ref s.heap.objs.size, _, ?_, rfl, q2⟩⟩
  have hz : (mergeG [] kvs).length ≤ sizeLine := by
    have h1 := mergeG_len kvs []
    rw [List.length_nil] at h1
    rw [sizeLine_eq]; omega
  have he : ∃ q, h'.get? s.heap.objs.size = some q := let ⟨q, _, _, hq, _⟩ := dd'; ⟨q, hq⟩
  refine d_write (t' := tk) I2 (by rw [e]; exact True.intro) hs he ?_
  obtain ⟨o, es, ep2, h1, h2, h3, h4, h5, h6⟩ := dd'
  refine ⟨hz, hd, storedAllH [] rs, Paired.mapP (KT.merge rk .nil) fun a b t => ⟨t.1, ?_, t.2.2⟩, o, es, ep2, h1, h2, h3, h4, h6⟩
  rw [upd_ne]
  · exact t.2.1
  · intro z'
    have t1 := t.2.1
    rw [z', e] at t1
    exact nomatch t1

/-! ### the reading -/
noncomputable def flatE : List (Ev × Ev) → Av
  | [] => aNil
  | p :: r => aCons p.1 (aCons p.2 (flatE r))
def flatV : List (V × V) → List V
  | [] => []
  | p :: r => p.1 :: p.2 :: flatV r
theorem Post.monoE {c : Cf} {A : Ev} {σ : L2.St} {H : Hp} {Q Q' : VK} (h : rdE c A σ H Q) (i : ∀ v H', Q v H' → Q' v H') : rdE c A σ H Q' := by
  obtain ⟨ρ, e, s, rs, re, h⟩ := h
  exact ⟨ρ, e, s, rs, re, h.mono i⟩
theorem tpairs_rd {c : Cf} : ∀ {es : List (Ev × Ev)} {σ : L2.St} {H : Hp} {Q : List (V × V) → Hp → Prop}, rdA c (flatE es) σ H (fun vs H' => ∀ ps, flatV ps = vs → Q ps H') → tPairs (es.map fun p => (rdE c p.1, rdE c p.2)) σ H Q
  | [], σ, H, Q, h => by
    obtain ⟨ρ, e, s, rs, re, h⟩ := h
    exact h ρ H [] Ext.refl rs (by simp) [] rfl
  | p :: es, σ, H, Q, h => by
    have h1 := cons_rd σ H _ (show rdA c (aCons p.1 (aCons p.2 (flatE es))) σ H _ from h)
    show rdE c p.1 σ H fun x H1 => rdE c p.2 σ H1 fun y H2 => tPairs (es.map fun p => (rdE c p.1, rdE c p.2)) σ H2 fun ps H3 => Q ((x, y) :: ps) H3
    refine Post.monoE h1 fun x H1 h2 => ?_
    refine Post.monoE (cons_rd σ H1 _ h2) fun y H2 h3 => ?_
    refine tpairs_rd ?_
    obtain ⟨ρ, e, s, rs, re, h3⟩ := h3
    exact ⟨ρ, e, s, rs, re, h3.mono fun vs H' q ps e => q ((x, y) :: ps) (by rw [← e]; rfl)⟩
theorem pr2_ok {ρ s H} {Q : VK} : ∀ {xs : List T} {k : List (T × T) → Res}, Post ρ s H (pr2 xs none k) Q → ∃ ps : List (T × T), xs = (ps.map fun p => [p.1, p.2]).flatten ∧ Post ρ s H (k ps) Q
  | [], k, h => ⟨[], rfl, h⟩
  | [x], k, h => (show False from h).elim
  | x :: y :: xs, k, h => by
    obtain ⟨ps, e, h⟩ := pr2_ok (k := fun ps => k ((x, y) :: ps)) (show Post ρ s H (pr2 xs none fun ps => k ((x, y) :: ps)) Q from h)
    exact ⟨(x, y) :: ps, by rw [e]; rfl, h⟩
theorem flat_den {ρ H} : ∀ {ps : List (T × T)} {vs : List V}, DenL ρ H (ps.map fun p => [p.1, p.2]).flatten vs → ∃ qs : List (V × V), vs = flatV qs ∧ DenL ρ H (ps.map (·.1)) (qs.map (·.1)) ∧ DenL ρ H (ps.map (·.2)) (qs.map (·.2))
  | [], vs, d => by
    have : vs = [] := by simpa using d
    exact ⟨[], this, by simp, by simp⟩
  | p :: ps, vs, d => by
    have d : DenL ρ H (p.1 :: p.2 :: (ps.map fun p => [p.1, p.2]).flatten) vs := d
    rw [denL_cons] at d
    obtain ⟨x, r, rfl, d1, d⟩ := d
    rw [denL_cons] at d
    obtain ⟨y, r, rfl, d2, d⟩ := d
    obtain ⟨qs, rfl, h1, h2⟩ := flat_den d
    refine ⟨(x, y) :: qs, rfl, ?_, ?_⟩
    · rw [List.map_cons, List.map_cons, denL_cons2]; exact ⟨d1, h1⟩
    · rw [List.map_cons, List.map_cons, denL_cons2]; exact ⟨d2, h2⟩
theorem flatV_inj : ∀ {ps qs : List (V × V)}, flatV ps = flatV qs → ps = qs
  | [], [], _ => rfl
  | [], _ :: _, h => nomatch h
  | _ :: _, [], h => nomatch h
  | (a, b) :: ps, (a', b') :: qs, h => by
    have h : a :: b :: flatV ps = a' :: b' :: flatV qs := h
    injection h with h1 h
    injection h with h2 h
    rw [h1, h2, flatV_inj h]
theorem lenK_id {β : Type} (xs : List β) : lenK xs 0 (fun n => n) = xs.length := by rw [lenK_eq, Nat.zero_add]
theorem bEq_ok {x y : Bool} (h : bEq x y = true) : x = y := by cases x <;> cases y <;> first | rfl | exact nomatch h
/-- values and keys, pair by pair -/
theorem prD_pairs {κ : Type} {kf : T → Option κ} {ρ H} {R : V → κ → Prop} (hr : ∀ {t v k}, Den ρ H t v → kf t = some k → R v k) : ∀ {ps : List (T × T)} {qs : List (V × V)} {kk : List (κ × V)}, Paired (PrD kf ρ H) ps kk → kk.map (·.2) = qs.map (·.2) → DenL ρ H (ps.map (·.1)) (qs.map (·.1)) → Paired (fun (q : V × V) (kv : κ × V) => R q.1 kv.1 ∧ q.2 = kv.2) qs kk
  | [], [], _, .nil, e, d => .nil
  | p :: ps, q :: qs, kv :: kk, .cons h1 h2, e, d => by
    rw [List.map_cons, List.map_cons, denL_cons2] at d
    rw [List.map_cons, List.map_cons] at e
    injection e with e1 e2
    exact .cons ⟨hr d.1 h1.1, e1.symm⟩ (prD_pairs hr h2 e2 d.2)
  | [], q :: qs, _, .nil, e, d => nomatch e
  | p :: ps, [], _, .cons _ _, e, d => nomatch e
theorem dictN_gen {κ : Type} [DecidableEq κ] {kf : T → Option κ} {mk : List (κ × V) → HO} (b : Bool) (he : ∀ {a b ka kb}, kf a = some ka → kf b = some kb → tEq a b = some (decide (ka = kb))) (hk : ∀ {t : T}, Rk.ifB b (kT t) (kP t) = true → ∃ k, kf t = some k)
    (hmk : ∀ {ρ H kvs ho}, DenO ρ H (.d b kvs) ho → ∃ ys, ho = mk ys ∧ DenK kf ρ H kvs ys) (hmk2 : ∀ {ρ H kvs ys}, DenK kf ρ H kvs ys → DenO ρ H (.d b kvs) (mk ys)) {c : Cf} {es : List (Ev × Ev)} {σ : L2.St} {H : Hp} {Q : VK} (h : rdE c (eDictN b (flatE es)) σ H Q) (p : Addr) (hp : H p = none) :
    rdA c (flatE es) σ (upd H p (mk [])) fun vs H2 => ∀ qs, flatV qs = vs → H2 p = some (mk []) ∧ ∃ kk : List (κ × V), (∃ (ρ : Nat → Option Addr) (ps : List (T × T)), Paired (PrD kf ρ H2) ps kk ∧ DenL ρ H2 (ps.map (·.1)) (qs.map (·.1))) ∧ kk.map (·.2) = qs.map (·.2) ∧ kk.length ≤ 15 ∧ Q (.ref p) (upd H2 p (mk (mergeG [] kk))) := by
  obtain ⟨ρ, e, s, rs, re, h⟩ := h
  obtain ⟨n, al⟩ := s
  unfold eDictN at h
  rw [alloc_eq] at h
  have ex : Ext ρ (.mk n al) H ρ (.mk n al) (upd H p (mk [])) := Ext.fresh hp
  have rr := rs.fresh (o := mk []) hp
  obtain ⟨ex2, rr2⟩ := adopt rs ex rr hp (fun m hm => rs.trk m p hm hp) upd_same (o := .d b []) (hmk2 (ys := []) rfl)
  have h := h.step rs rr2 ex2
  refine ⟨addR ρ n p, e, _, rr2, re.ext rs ex2, (bndL_gen stb_E neE rr2 h).mono fun vs H1 ⟨ρ1, s1, ts, e1, r1, d1, p1⟩ qs hq => ?_⟩
  subst hq
  obtain ⟨ps, rfl, p2⟩ := pr2_ok p1
  obtain ⟨qs', eq', da, db⟩ := flat_den d1
  have := flatV_inj eq'
  subst this
  obtain ⟨hl, p3⟩ := Post.ifB p2
  rw [lenK_id] at hl
  have hl := Nat.le_of_ble_eq_true hl
  obtain ⟨o, hn, p4⟩ := Post.getO (show Post ρ1 s1 H1 (getO .er s1 n _) Q from p3)
  obtain ⟨b', kvs, rfl, p5⟩ := onObD p4
  obtain ⟨hb, p6⟩ := Post.ifB p5
  have := bEq_ok hb
  subst this
  cases kvs with
  | cons _ _ => exact (show False from p6).elim
  | nil =>
    have p6 : Post ρ1 s1 H1 (mrgK b ps [] fun kvs => setO .er s1 n (.d b kvs) fun s => .v (.ref n) s) Q := p6
    obtain ⟨kvs', kk, q1, q2, q3, q4⟩ := mrg_gen (κ := κ) (kf := kf) b he hk (acc := []) (ys := []) db rfl p6
    obtain ⟨a3, ho, h1, h2, h3⟩ := r1.live n _ hn
    have h4 : ρ1 n = some p := e1.le n p addR_same
    rw [h1] at h4; cases h4
    obtain ⟨ys, rfl, dk⟩ := hmk h3
    cases dk
    refine ⟨h2, kk, ⟨ρ1, ps, q1, da⟩, q2, ?_, ?_⟩
    · have := q1.length; omega
    · rw [setO_eq, hn] at q4
      obtain ⟨ex3, rr3⟩ := write_ok r1 hn h1 (show DenO ρ1 H1 (.d b kvs') (mk (mergeG [] kk)) from hmk2 q3)
      exact q4 ρ1 _ _ ex3 rr3 (by rw [den_ref]; exact ⟨p, rfl, h1⟩)
theorem dispK_rd {c : Cf} {es : List (Ev × Ev)} (σ : L2.St) (H : Hp) (Q : VK) (h : rdE c (eDictN false (flatE es)) σ H Q) : tDisp (es.map fun p => (rdE c p.1, rdE c p.2)) σ H Q := fun p hp => by
  refine tpairs_rd ?_
  obtain ⟨ρ, e, s, rs, re, h⟩ := dictN_gen (κ := Key) (kf := keyT) (mk := .dK) false key_eq (fun h => kP_ok h) (fun d => d) (fun d => ⟨_, rfl, d⟩) h p hp
  refine ⟨ρ, e, s, rs, re, h.mono fun vs H2 q qs hq => ?_⟩
  obtain ⟨h1, kk, ⟨ρ2, ps, q1, q2⟩, q3, q4, q5⟩ := q qs hq
  refine ⟨h1, kk, ?_, q4, q5⟩
  have := prD_pairs (R := fun x k => x = kV k) (fun d e => den_key d e) q1 q3 q2
  clear q1 q2 q3 q4 q5 hq
  induction this with
  | nil => rfl
  | @cons a b l m h t ih =>
    obtain ⟨a1, a2⟩ := a
    rw [List.map_cons, ← ih, show a1 = kV b.1 from h.1, show a2 = b.2 from h.2]
theorem dispT_rd {c : Cf} {es : List (Ev × Ev)} (σ : L2.St) (H : Hp) (Q : VK) (h : rdE c (eDictN true (flatE es)) σ H Q) : tDispT (es.map fun p => (rdE c p.1, rdE c p.2)) σ H Q := fun p hp => by
  refine tpairs_rd ?_
  obtain ⟨ρ, e, s, rs, re, h⟩ := dictN_gen (κ := List Key) (kf := keyTs) (mk := .dT) true keyTs_eq (fun h => kT_ok h) (fun d => d) (fun d => ⟨_, rfl, d⟩) h p hp
  refine ⟨ρ, e, s, rs, re, h.mono fun vs H2 q qs hq => ?_⟩
  obtain ⟨h1, kk, ⟨ρ2, ps, q1, q2⟩, q3, q4, q5⟩ := q qs hq
  refine ⟨h1, kk, Paired.mapP (prD_pairs (R := fun x k => ∃ b, x = .ref b ∧ H2 b = some (.tup (k.map kV))) (fun d e => den_keyT d e) q1 q3 q2) fun a b z => ?_, q4, q5⟩
  obtain ⟨⟨b', z1, z2⟩, z3⟩ := z
  exact ⟨b', z1, z2, z3⟩
end Rk
end
section
set_option linter.all false
set_option autoImplicit false
set_option maxRecDepth 100000
namespace Rk
open PySem PySem.Spec PyProof.Rows L2
/-! ### texts: join, split, index, str(x) -/
theorem frL_eq {α : Type} : ∀ (xs : List Nat) (k : List Nat → α), frL xs k = k xs
  | [], k => rfl
  | x :: xs, k => by
    have e : frL (x :: xs) k = frN x fun x => frL xs fun r => k (x :: r) := rfl
    rw [e, frN_eq, frL_eq xs]
theorem frLs_eq : ∀ (ys : List Str) (k : List T → Res), frLs ys k = k (ys.map fun y => T.str y.cps.toList)
  | [], k => rfl
  | y :: ys, k => by
    have e : frLs (y :: ys) k = frL y.cps.toList fun a => frLs ys fun r => k (.str a :: r) := rfl
    rw [e, frL_eq, frLs_eq ys]; rfl
section
variable {ρ : Nat → Option Addr} {s : Sto} {H : Hp} {Q : VK}
theorem onStr_ok {x : T} {k : List Nat → Res} (h : Post ρ s H (onStr x k) Q) : ∃ cs, x = .str cs ∧ Post ρ s H (k cs) Q := by
  cases x with
  | str cs => exact ⟨cs, rfl, h⟩
  | _ => exact (show False from h).elim
theorem strsK_ok : ∀ {xs : List T} {k : List (List Nat) → Res}, Post ρ s H (strsK xs k) Q → ∃ ys : List (List Nat), xs = ys.map T.str ∧ Post ρ s H (k ys) Q
  | [], k, h => ⟨[], rfl, h⟩
  | x :: xs, k, h => by
    cases x with
    | str a =>
      obtain ⟨ys, e, h⟩ := strsK_ok (k := fun r => k (a :: r)) (show Post ρ s H (strsK xs fun r => k (a :: r)) Q from h)
      exact ⟨a :: ys, by rw [e]; rfl, h⟩
    | _ => exact (show False from h).elim
theorem denL_strs : ∀ {ys : List (List Nat)} {vs : List V}, DenL ρ H (ys.map T.str) vs → vs = (ys.map fun y => (⟨y.toArray⟩ : Str)).map V.str
  | [], vs, d => by rw [List.map_nil, denL_nil] at d; exact d
  | y :: ys, vs, d => by
    rw [List.map_cons, denL_cons] at d
    obtain ⟨v, r, rfl, d1, d2⟩ := d
    rw [den_str] at d1
    rw [d1, denL_strs d2]; rfl
theorem sumN_eq : ∀ (ys : List (List Nat)), sumN ys = ((ys.map fun y => (⟨y.toArray⟩ : Str)).map (·.length)).sum
  | [] => rfl
  | y :: ys => by
    have e : sumN (y :: ys) = Nat.add (lenK y 0 fun n => n) (sumN ys) := rfl
    rw [e, sumN_eq ys, lenK_eq, Nat.zero_add]
    simp [Str.length]
theorem seqR_post {b : Bool} {m : Res} {k : List T → Sto → Res} (rs : RelS ρ s H) (h : Post ρ s H (seqR b .er m k) Q) : Post ρ s H m fun y H2 => ∃ ρ2 s2 ts a vs, y = .ref a ∧ Ext ρ s H ρ2 s2 H2 ∧ RelS ρ2 s2 H2 ∧ SqA H2 b a vs ∧ DenL ρ2 H2 ts vs ∧ Post ρ2 s2 H2 (k ts s2) Q := by
  cases m with
  | er => exact h
  | v t s' =>
    intro ρ' H' v ex rr d
    have h : Post ρ s H (seqT b t s' .er fun xs => k xs s') Q := h
    have h := h.step rs rr ex
    unfold seqT at h
    cases t with
    | tup ts =>
      obtain ⟨hb, h⟩ := h.ifB
      rw [den_tup] at d
      obtain ⟨a, vs, rfl, ha, dl⟩ := d
      exact ⟨ρ', s', ts, a, vs, rfl, ex, rr, .inr ⟨hb, ha⟩, dl, h⟩
    | ref n =>
      obtain ⟨o, hn, h⟩ := Post.getO h
      cases o with
      | d _ _ => exact h.elim
      | l ts =>
        obtain ⟨a, vs, rfl, _, ha, dl⟩ := rr.lst hn d
        exact ⟨ρ', s', ts, a, vs, rfl, ex, rr, .inl ha, dl, h⟩
    | _ => exact h.elim
  | nl ts s' =>
    intro ρ' H' a ex rr d
    have h : Post ρ s H (k ts s') Q := h
    have h := h.step rs rr ex
    obtain ⟨_, _, vs, ha, dl⟩ := d
    exact ⟨ρ', s', ts, a, vs, rfl, ex, rr, .inl ha, dl, h⟩
end
section
variable {X : Cx} {c : Cf} {O A : Ev} {o e : Expr} {apos cpos : Pos}
theorem pe_ejoin (ho : PE X o (rdE c O)) (ha : PE X e (rdE c A)) (hs : noStar e = true) (hb : notCall0 o = true) (hl : (apos.endLine == cpos.line) = true) : PE X (.Call (.Attribute o "join" apos) [e] [] cpos) (rdE c (eJoin O A)) :=
  (pe_join ho ha (star_one hs) (base_ok hb) hl).mono fun σ H Q ⟨ρ, e, s, rs, re, h⟩ => ⟨ρ, e, s, rs, re, (bnd_post rs h).mono fun x H1 ⟨ρ1, s1, t1, e1, r1, d1, p1⟩ => by
    obtain ⟨sep, rfl, p8⟩ := onStr_ok p1
    clear p1
    have p1 := p8
    rw [den_str] at d1; subst d1
    refine ⟨⟨_, rfl⟩, ρ1, e, s1, r1, re.ext rs e1, (seqR_post r1 p1).mono fun y H2 ⟨ρ2, s2, ts, a, vs, hy, e2, r2, hq, dl, p2⟩ => ?_⟩
    subst hy
    obtain ⟨ys, rfl, p3⟩ := strsK_ok p2
    have := denL_strs dl
    subst this
    obtain ⟨hz, p4⟩ := Post.ifB p3
    rw [frL_eq] at p4
    have hz := Nat.le_of_ble_eq_true hz
    rw [sumN_eq, lenK_eq, lenK_eq, Nat.zero_add, Nat.zero_add] at hz
    refine ⟨_, a, ys.map fun y => ⟨y.toArray⟩, rfl, rfl, hq.sq, ?_, p4.val r2 (by simp)⟩
    have hz : ((ys.map fun y => (⟨y.toArray⟩ : Str)).map (·.length)).sum + ys.length * sep.length ≤ 100000 := hz
    rw [List.length_map]
    show _ + ys.length * sep.toArray.size ≤ _
    rw [List.size_toArray]; omega⟩
theorem pe_esplit (ho : PE X o (rdE c O)) (ha : PE X e (rdE c A)) (hs : noStar e = true) (hb : notCall0 o = true) (hl : (apos.endLine == cpos.line) = true) : PE X (.Call (.Attribute o "split" apos) [e] [] cpos) (rdE c (eSplit O A)) :=
  (pe_split ho ha (star_one hs) (base_ok hb) hl).mono fun σ H Q ⟨ρ, e, s, rs, re, h⟩ => ⟨ρ, e, s, rs, re, (bnd_post rs h).mono fun x H1 ⟨ρ1, s1, t1, e1, r1, d1, p1⟩ => by
    obtain ⟨cs, rfl, p8⟩ := onStr_ok p1
    clear p1
    have p1 := p8
    rw [den_str] at d1; subst d1
    refine ⟨⟨_, rfl⟩, ρ1, e, s1, r1, re.ext rs e1, (bnd_post r1 p1).mono fun y H2 ⟨ρ2, s2, t2, e2, r2, d2, p2⟩ => ?_⟩
    obtain ⟨ds, rfl, p9⟩ := onStr_ok p2
    rw [den_str] at d2; subst d2
    obtain ⟨hn, p3⟩ := ifB_er p9
    rw [lenK_eq, Nat.zero_add] at p3
    obtain ⟨hz, p4⟩ := Post.ifB p3
    rw [frLs_eq] at p4
    have hz := Nat.le_of_ble_eq_true hz
    refine ⟨_, _, rfl, rfl, ?_, ?_, fun p hp => p4.newL r2 ?_ hp⟩
    · cases ds with
      | nil => exact nomatch hn
      | cons _ _ => rfl
    · show cs.toArray.size + 2 ≤ sizeLine
      rw [List.size_toArray, sizeLine_eq]; omega
    · generalize Txt.split ⟨cs.toArray⟩ ⟨ds.toArray⟩ = l
      induction l with
      | nil => simp
      | cons y l ih => rw [List.map_cons, List.map_cons, denL_cons2]; exact ⟨by simp, ih⟩⟩
theorem pe_esidx (ho : PE X o (rdE c O)) (ha : PE X e (rdE c A)) (hs : noStar e = true) (hb : notCall0 o = true) (hl : (apos.endLine == cpos.line) = true) : PE X (.Call (.Attribute o "index" apos) [e] [] cpos) (rdE c (eSIdx O A)) :=
  (pe_m1 PySem.F.slot_str_index PySem.F.type_str_index mt_sindex ho ha (star_one hs) (base_ok hb) hl).mono fun σ H Q ⟨ρ, e, s, rs, re, h⟩ => ⟨ρ, e, s, rs, re, (bnd_post rs h).mono fun x H1 ⟨ρ1, s1, t1, e1, r1, d1, p1⟩ => by
    obtain ⟨cs, rfl, p8⟩ := onStr_ok p1
    clear p1
    have p1 := p8
    rw [den_str] at d1; subst d1
    refine ⟨⟨_, rfl⟩, ρ1, e, s1, r1, re.ext rs e1, (bnd_post r1 p1).mono fun y H2 ⟨ρ2, s2, t2, e2, r2, d2, p2⟩ => ?_⟩
    obtain ⟨ds, rfl, p3⟩ := onStr_ok p2
    clear p2
    have p2 := p3
    rw [den_str] at d2; subst d2
    rw [lenK_eq, Nat.zero_add] at p2
    cases hq : Builtin.Str.occurrences ⟨cs.toArray⟩ ⟨ds.toArray⟩ 0 cs.length 1 with
    | nil => rw [hq] at p2; exact (show False from p2).elim
    | cons j r =>
      rw [hq] at p2
      have p2 : Post ρ2 s2 H2 (frN j fun m => .v (.int (.ofNat m)) s2) Q := p2
      rw [frN_eq] at p2
      exact ⟨_, _, j, r, rfl, rfl, by show Builtin.Str.occurrences _ _ 0 cs.toArray.size 1 = _; rw [List.size_toArray]; exact hq, p2.val r2 (by simp)⟩⟩
def rStrA : List V → Hp → VK → Prop := fun xs H Q => (∃ i, xs = [V.int i] ∧ i.natAbs.log2 < 1920 ∧ Q (.str (toString i)) H) ∨ ∃ a, xs = [V.str a] ∧ Q (.str a) H
theorem log2_small {n : Nat} (h : n < 2 ^ 64) : n.log2 < 1920 := by
  by_cases z : n = 0
  · subst z; decide
  · exact Nat.lt_trans ((Nat.log2_lt z).mpr h) (by decide)
theorem k_str (ρ : Nat → Option Addr) (s : Sto) (H : Hp) (t : T) (x : V) (Q : VK) (rs : RelS ρ s H) (d : Den ρ H t x) (h : Post ρ s H (vStr t s) Q) : rStrA [x] H Q := by
  unfold vStr at h
  cases t with
  | int i =>
    rw [den_int] at d; subst d
    obtain ⟨hz, h⟩ := Post.ifB (show Post ρ s H (Rk.ifB (iSm i) (frL (Str.ofString (toString i)).cps.toList fun r => .v (.str r) s) .er) Q from h)
    rw [frL_eq] at h
    have hz := iSm_iff hz
    refine .inl ⟨i, rfl, log2_small ?_, h.val rs (by simp)⟩
    have e : (2 : Int) ^ 64 = 18446744073709551616 := by decide
    have e2 : (2 : Nat) ^ 64 = 18446744073709551616 := by decide
    omega
  | str cs =>
    rw [den_str] at d; subst d
    exact .inr ⟨_, rfl, Post.val (show Post ρ s H (.v (.str cs) s) Q from h) rs (by simp)⟩
  | _ => exact (show False from h).elim
theorem call_strA {X : Cx} : CallR X (.type "str") rStrA := call_str_int.or SkE.call_str_str
theorem pe_estr {X : Cx} {c : Cf} {A : Ev} {e : Expr} {p pos : Pos} (hg : Gl X "str") (hm : X.mg "str" = none) (ha : PE X e (rdE c A)) (hs : noStar e = true) : PE X (.Call (.Name "str" p) [e] [] pos) (rdE c (eOne vStr A)) :=
  (pe_callTy call_strA hg hm (by decide +kernel) (pa1 ha hs) (by decide +kernel) (by decide +kernel) (star_one hs) rfl).mono (one_call k_str)
end
end Rk
end
section
set_option linter.all false
set_option autoImplicit false
set_option maxRecDepth 100000
namespace Rk
open PySem PySem.Spec PyProof.Rows L2 RZ

/-! ### what a loop walks -/
/-- src tells the items of the thing at a, from i on -/
def Feeds (mk : List V → HO) (a : Addr) : Nat → Nat → Src → (Nat → Option Addr) → Hp → (Addr → Prop) → Prop
  | 0, _, _, _, _, _ => True
  | n + 1, i, src, ρ0, H0, F => ∀ ρ s H, Wk ρ0 H0 F ρ H → RelS ρ s H → match step src s with
    | .er => True
    | .done => ∃ xs, H a = some (mk xs) ∧ xs.length ≤ i
    | .it t src' => (∃ xs x, H a = some (mk xs) ∧ xs[i]? = some x ∧ Den ρ H t x) ∧ Feeds mk a n (i + 1) src' ρ0 H0 F
section
variable {ρ0 : Nat → Option Addr} {H0 : Hp} {F : Addr → Prop} {K : PySem.W.Frag}
theorem drop_nil {vs : List V} {i : Nat} (h : vs.drop i = []) : vs.length ≤ i := by
  have := congrArg List.length h
  simp at this; omega
theorem drop_cons {vs q : List V} {v : V} {i : Nat} (h : vs.drop i = v :: q) : vs[i]? = some v ∧ vs.drop (i + 1) = q := by
  have h1 : (vs.drop i)[0]? = some v := by rw [h]; rfl
  rw [List.getElem?_drop] at h1
  refine ⟨by simpa using h1, ?_⟩
  have : vs.drop (i + 1) = (vs.drop i).drop 1 := by rw [List.drop_drop]
  rw [this, h]; rfl
theorem feeds_fix {mk : List V → HO} {a : Addr} {vs : List V} (st : ∀ ρ H, Wk ρ0 H0 F ρ H → H a = some (mk vs)) : ∀ (n i : Nat) {ts : List T}, DenL ρ0 H0 ts (vs.drop i) → Feeds mk a n i (.fix ts) ρ0 H0 F
  | 0, i, ts, d => trivial
  | n + 1, i, [], d => fun ρ s H ex rs => by
    rw [denL_nil] at d
    exact ⟨vs, st ρ H ex, drop_nil d⟩
  | n + 1, i, t :: ts, d => fun ρ s H ex rs => by
    rw [denL_cons] at d
    obtain ⟨v, q, e, d1, d2⟩ := d
    obtain ⟨h1, h2⟩ := drop_cons e
    exact ⟨⟨vs, v, st ρ H ex, h1, (den_mono_both ex.le ex.tp).1 _ _ d1⟩, feeds_fix st n (i + 1) (by rw [h2]; exact d2)⟩
theorem dropK_nil {xs : List T} {i : Nat} (h : dropK i xs = []) : xs.length ≤ i := by
  rw [dropK_eq] at h
  have := congrArg List.length h
  simp at this; omega
theorem feeds_live {a : Addr} {m : Nat} (hr : ρ0 m = some a) : ∀ (n i : Nat), Feeds .lst a n i (.live m i) ρ0 H0 F
  | 0, i => trivial
  | n + 1, i => fun ρ s H ex rs => by
    have e1 : step (.live m i) s = getO .er s m fun o => onOb o (fun xs => List.rec (motive := fun _ => NR) .done (fun x _ _ => .it x (.live m (Nat.succ i))) (dropK i xs)) fun _ _ => .er := rfl
    rw [e1, getO_eq]
    cases hn : s.find m with
    | none => trivial
    | some o =>
      cases o with
      | d _ _ => trivial
      | l ts =>
        obtain ⟨a', ho, h1, h2, h3⟩ := rs.live m _ hn
        obtain ⟨vs, rfl, dl⟩ := h3
        have := ex.le m a hr
        rw [h1] at this; cases this
        show match (List.rec (motive := fun _ => NR) .done (fun x _ _ => .it x (.live m (Nat.succ i))) (dropK i ts) : NR) with | .er => True | .done => _ | .it t src' => _
        cases hd : dropK i ts with
        | nil => exact ⟨vs, h2, by rw [← dl.length]; exact dropK_nil hd⟩
        | cons x r =>
          rw [dropK_eq] at hd
          have dd := dl.drop i
          rw [hd, denL_cons] at dd
          obtain ⟨v, q, e, d1, _⟩ := dd
          exact ⟨⟨vs, v, h2, (drop_cons e).1, d1⟩, feeds_live hr n (i + 1)⟩
theorem serves_lst {a : Addr} : ∀ (n i : Nat) {src : Src}, Feeds .lst a n i src ρ0 H0 F → Serves n (Itl K a) i src ρ0 H0 F
  | 0, i, src, h => trivial
  | n + 1, i, src, h => fun ρ s H ex rs => by
    have h := h ρ s H ex rs
    cases e : step src s with
    | er => trivial
    | done =>
      rw [e] at h
      obtain ⟨xs, h1, h2⟩ := h
      exact ⟨xs, .of h1, h2⟩
    | it t src' =>
      rw [e] at h
      obtain ⟨⟨xs, x, h1, h2, h3⟩, h4⟩ := h
      refine ⟨⟨xs, x, .of h1, h2⟩, fun y H' hy => ?_, serves_lst n (i + 1) h4⟩
      obtain ⟨rfl, hy⟩ := hy
      have := hy xs (.of h1)
      rw [h2] at this; cases this
      exact ⟨Ext.refl, rs, h3⟩
theorem serves_tup {a : Addr} : ∀ (n i : Nat) {src : Src}, Feeds .tup a n i src ρ0 H0 F → Serves n (Itt K a) i src ρ0 H0 F
  | 0, i, src, h => trivial
  | n + 1, i, src, h => fun ρ s H ex rs => by
    have h := h ρ s H ex rs
    cases e : step src s with
    | er => trivial
    | done =>
      rw [e] at h
      obtain ⟨xs, h1, h2⟩ := h
      exact ⟨xs, .of h1, h2⟩
    | it t src' =>
      rw [e] at h
      obtain ⟨⟨xs, x, h1, h2, h3⟩, h4⟩ := h
      refine ⟨⟨xs, x, .of h1, h2⟩, fun y H' hy => ?_, serves_tup n (i + 1) h4⟩
      obtain ⟨rfl, hy⟩ := hy
      have := hy xs (.of h1)
      rw [h2] at this; cases this
      exact ⟨Ext.refl, rs, h3⟩
theorem serves_rng {lo : Int} {m : Nat} : ∀ (n i : Nat) {lo' : Int} {m' : Nat}, lo' = lo + i → m = i + m' → Serves n (Itr lo m) i (.rng lo' m') ρ0 H0 F
  | 0, i, lo', m', h1, h2 => trivial
  | n + 1, i, lo', 0, h1, h2 => fun ρ s H ex rs => show m ≤ i by omega
  | n + 1, i, lo', m' + 1, h1, h2 => fun ρ s H ex rs => by
    have e1 : step (.rng lo' (m' + 1)) s = frI lo' fun lo => .it (.int lo) (.rng (iAdd lo (.ofNat 1)) m') := rfl
    rw [e1, frI_eq]
    refine ⟨show i < m by omega, fun x H' hx => ?_, serves_rng n (i + 1) (by rw [iAdd_eq, h1]; simp only [Int.ofNat_eq_natCast]; omega) (by omega)⟩
    obtain ⟨rfl, rfl⟩ := hx
    exact ⟨Ext.refl, rs, by rw [den_int, h1]⟩
theorem serves_str {z : Str} : ∀ (n i : Nat) {cs : List Nat}, z.cps.toList.drop i = cs → Serves n (Its z) i (.str cs) ρ0 H0 F
  | 0, i, cs, h => trivial
  | n + 1, i, [], h => fun ρ s H ex rs => by
    have := congrArg List.length h
    simp at this
    exact (show z.cps.size ≤ i by omega)
  | n + 1, i, c :: cs, h => fun ρ s H ex rs => by
    have h1 : (z.cps.toList.drop i)[0]? = some c := by rw [h]; rfl
    rw [List.getElem?_drop] at h1
    have h2 : z.cps[i]? = some c := by simpa using h1
    have h3 : z.cps.toList.drop (i + 1) = cs := by
      have : z.cps.toList.drop (i + 1) = (z.cps.toList.drop i).drop 1 := by rw [List.drop_drop]
      rw [this, h]; rfl
    refine ⟨?_, fun x H' hx => ?_, serves_str n (i + 1) h3⟩
    · obtain ⟨hh, _⟩ := Array.getElem?_eq_some_iff.mp h2
      exact hh
    · obtain ⟨rfl, c', hc, rfl⟩ := hx
      rw [h2] at hc; cases hc
      exact ⟨Ext.refl, rs, by rw [den_str]⟩
theorem pair_new {ρ s H} {t u : T} {x y : V} {p : Addr} (rs : RelS ρ s H) (hp : H p = none) (d1 : Den ρ H t x) (d2 : Den ρ H u y) : Ext ρ s H ρ s (upd H p (.tup [x, y])) ∧ RelS ρ s (upd H p (.tup [x, y])) ∧ Den ρ (upd H p (.tup [x, y])) (.tup [t, u]) (.ref p) := by
  have ex : Ext ρ s H ρ s (upd H p (.tup [x, y])) := Ext.fresh hp
  refine ⟨ex, rs.fresh hp, ?_⟩
  rw [den_tup]
  exact ⟨p, [x, y], rfl, upd_same, by rw [denL_cons2]; exact ⟨d1.ext rs ex, .one (d2.ext rs ex)⟩⟩
theorem serves_enum {a : Addr} : ∀ (n i : Nat) {src : Src}, Feeds .lst a n i src ρ0 H0 F → Serves n (Ite K a) i (.enum i src) ρ0 H0 F
  | 0, i, src, h => trivial
  | n + 1, i, src, h => fun ρ s H ex rs => by
    have h := h ρ s H ex rs
    have e1 : step (.enum i src) s = NR.rec (motive := fun _ => NR) .er .done (fun x q => frN i fun i => .it (.tup [.int (.ofNat i), x]) (.enum (Nat.succ i) q)) (step src s) := rfl
    rw [e1]
    cases e : step src s with
    | er => trivial
    | done =>
      rw [e] at h
      obtain ⟨xs, h1, h2⟩ := h
      exact ⟨xs, .of h1, h2⟩
    | it t src' =>
      rw [e] at h
      show match frN i fun i => NR.it (.tup [.int (.ofNat i), t]) (.enum (Nat.succ i) src') with | .er => True | .done => _ | .it t src' => _
      rw [frN_eq]
      obtain ⟨⟨xs, x, h1, h2, h3⟩, h4⟩ := h
      refine ⟨⟨xs, x, .of h1, h2⟩, fun y H' hy => ?_, serves_enum n (i + 1) h4⟩
      obtain ⟨p, z, rfl, hp, rfl, hy⟩ := hy
      have := hy xs (.of h1)
      rw [h2] at this; cases this
      exact pair_new rs hp (by simp) h3
theorem serves_enumT {a : Addr} : ∀ (n i : Nat) {src : Src}, Feeds .tup a n i src ρ0 H0 F → Serves n (IteT K a) i (.enum i src) ρ0 H0 F
  | 0, i, src, h => trivial
  | n + 1, i, src, h => fun ρ s H ex rs => by
    have h := h ρ s H ex rs
    have e1 : step (.enum i src) s = NR.rec (motive := fun _ => NR) .er .done (fun x q => frN i fun i => .it (.tup [.int (.ofNat i), x]) (.enum (Nat.succ i) q)) (step src s) := rfl
    rw [e1]
    cases e : step src s with
    | er => trivial
    | done =>
      rw [e] at h
      obtain ⟨xs, h1, h2⟩ := h
      exact ⟨xs, .of h1, h2⟩
    | it t src' =>
      rw [e] at h
      show match frN i fun i => NR.it (.tup [.int (.ofNat i), t]) (.enum (Nat.succ i) src') with | .er => True | .done => _ | .it t src' => _
      rw [frN_eq]
      obtain ⟨⟨xs, x, h1, h2, h3⟩, h4⟩ := h
      refine ⟨⟨xs, x, .of h1, h2⟩, fun y H' hy => ?_, serves_enumT n (i + 1) h4⟩
      obtain ⟨p, z, rfl, hp, rfl, hy⟩ := hy
      have := hy xs (.of h1)
      rw [h2] at this; cases this
      exact pair_new rs hp (by simp) h3
theorem serves_zipB {p q : Bool} {a b : Addr} : ∀ (n i : Nat) {src src2 : Src}, Feeds (mkB p) a n i src ρ0 H0 F → Feeds (mkB q) b n i src2 ρ0 H0 F → Serves n (ItzB K p q a b) i (.zip src src2) ρ0 H0 F
  | 0, i, _, _, _, _ => trivial
  | n + 1, i, src, src2, h, g => fun ρ s H ex rs => by
    have h := h ρ s H ex rs
    have g := g ρ s H ex rs
    have e1 : step (.zip src src2) s = NR.rec (motive := fun _ => NR) .er (NR.rec (motive := fun _ => NR) .er .done (fun _ _ => .done) (step src2 s)) (fun x q => NR.rec (motive := fun _ => NR) .er .done (fun y r => .it (.tup [x, y]) (.zip q r)) (step src2 s)) (step src s) := rfl
    rw [e1]
    cases e : step src s with
    | er => trivial
    | done =>
      rw [e] at h
      obtain ⟨xs, h1, h2⟩ := h
      cases e2 : step src2 s with
      | er => trivial
      | done => rw [e2] at g; obtain ⟨ys, g1, _⟩ := g; exact ⟨xs, ys, .of h1, .of g1, .inl h2⟩
      | it _ _ => rw [e2] at g; obtain ⟨⟨ys, _, g1, _⟩, _⟩ := g; exact ⟨xs, ys, .of h1, .of g1, .inl h2⟩
    | it t src' =>
      rw [e] at h
      obtain ⟨⟨xs, x, h1, h2, h3⟩, h4⟩ := h
      cases e2 : step src2 s with
      | er => trivial
      | done => rw [e2] at g; obtain ⟨ys, g1, g2⟩ := g; exact ⟨xs, ys, .of h1, .of g1, .inr g2⟩
      | it u src2' =>
        rw [e2] at g
        obtain ⟨⟨ys, y, g1, g2, g3⟩, g4⟩ := g
        refine ⟨⟨xs, ys, x, y, .of h1, .of g1, h2, g2⟩, fun v H' hv => ?_, serves_zipB n (i + 1) h4 g4⟩
        obtain ⟨p', z, w, rfl, hp, rfl, q1, q2⟩ := hv
        have := q1 xs (.of h1)
        rw [h2] at this; cases this
        have := q2 ys (.of g1)
        rw [g2] at this; cases this
        exact pair_new rs hp h3 g3
end
/-! ### sources -/
theorem _root_.L2.PI.mono {X : Cx} {tg e : Expr} {t t' : TI} (h : PI X tg e t) (m : ∀ σ H R, t' σ H R → t σ H R) : PI X tg e t' := ⟨fun pins s σ H R I q => h.run pins s σ H R I (m σ H R q)⟩
theorem pi_bad {X : Cx} {tg e : Expr} {c : Cf} : PI X tg e (rdI c iBad) := ⟨fun _ _ _ _ _ _ ⟨_, _, _, _, _, h⟩ => h.elim⟩
def iSeqA (K : PySem.W.Frag) (te : TE) : TI := fun σ H R => te σ H fun x H1 => (∃ a, x = .ref a ∧ (∃ xs, SqL K H1 a xs) ∧ R (Itl K a) H1) ∨ (∃ a, x = .ref a ∧ (∃ xs, SqT K H1 a xs) ∧ R (Itt K a) H1) ∨ ∃ z, x = .str z ∧ R (Its z) H1
theorem pi_seqA {X : Cx} {tg l : Expr} {tl : TE} (hl : PE X l tl) : PI X tg l (iSeqA X.K tl) := by
  refine ⟨fun pins s σ H R I h => ?_⟩
  refine thn (hl.run pins s σ H _ I h) fun v s1 ⟨x, H1, I1, r1, q1⟩ => ?_
  rcases q1 with ⟨a, e, ⟨xs, hq⟩, q⟩ | ⟨a, e, ⟨xs, hq⟩, q⟩ | ⟨z, e, q⟩
  · subst e
    cases r1
    obtain ⟨its, rv, p, hz⟩ := I1.list hq
    refine wpAny_pyIter_list p.isList ?_
    refine ⟨s1.heap.objs.size, [s1.heap.objs.size], _, _, H1, rfl, I1.kept (t' := s1.toks) fun b o e => Heap.get?_push_of_some _ e, turn_list a _, ⟨_, Heap.get?_push_size _ rfl, rfl, rfl⟩, fun b hb => ?_, q⟩
    have e : b = s1.heap.objs.size := by simpa using hb
    subst e
    exact I1.fpOk (Nat.le_refl _) (I1.hok.fresh (Nat.le_refl _))
  · subst e
    cases r1
    obtain ⟨its, rv, p, hz⟩ := I1.tuple hq
    refine wpAny_pyIter_tuple (show s1.heap.IsTuple a its.toArray from p) ?_
    refine ⟨s1.heap.objs.size, [s1.heap.objs.size], _, _, H1, rfl, I1.kept (t' := s1.toks) fun b o e => Heap.get?_push_of_some _ e, turn_tuple a _, ⟨_, Heap.get?_push_size _ rfl, rfl, rfl⟩, fun b hb => ?_, q⟩
    have e : b = s1.heap.objs.size := by simpa using hb
    subst e
    exact I1.fpOk (Nat.le_refl _) (I1.hok.fresh (Nat.le_refl _))
  · subst e
    obtain ⟨t, rfl⟩ := r1
    cases ha : z.cps.all (· < 128)
    · exact wpAny_pyIter_wide ha (pi_one (tk := s1.toks) I1 _ (turn_str _ z t "str_iterator" (.inr rfl)) ⟨_, Heap.get?_push_size _ rfl, rfl, rfl⟩ q)
    · exact wpAny_pyIter_ascii ha (pi_one (tk := s1.toks) I1 _ (turn_str _ z t "str_ascii_iterator" (.inl rfl)) ⟨_, Heap.get?_push_size _ rfl, rfl, rfl⟩ q)
theorem pi_iseq {X : Cx} {c : Cf} {A : Ev} {tg l : Expr} (hl : PE X l (rdE c A)) : PI X tg l (rdI c (iSeq A)) :=
  (pi_seqA hl).mono fun σ H R ⟨ρ, e, s, rs, re, h⟩ => ⟨ρ, e, s, rs, re, by
    have h : PostI H ρ s H (srcR .er (A c e s) fun q s => .ok q s) R := h
    have no : ∀ {H' : Hp} {ρ' : Nat → Option Addr} (a : Addr), (fun _ : Addr => False) a → H a = none ∧ H' a ≠ none ∧ ∀ m, ρ' m ≠ some a := fun a h => h.elim
    cases hm : A c e s with
    | er => rw [hm] at h; exact h
    | v t s' =>
      rw [hm] at h
      intro ρ' H' v ex rr d
      cases t with
      | str cs =>
        rw [den_str] at d; subst d
        exact .inr (.inr ⟨_, rfl, h ρ' H' _ (fun _ => False) ex rr no fun n => serves_str n 0 (by simp)⟩)
      | tup ts =>
        rw [den_tup] at d
        obtain ⟨a, vs, rfl, ha, dl⟩ := d
        exact .inr (.inl ⟨a, rfl, ⟨vs, .of ha⟩, h ρ' H' _ (fun _ => False) ex rr no fun n => serves_tup n 0 (feeds_fix (fun ρ2 H2 w => w.tp a vs ha) n 0 (by simpa using dl))⟩)
      | ref n =>
        have h : PostI H ρ s H (getO .er s' n fun o => onOb o (fun _ => .ok (.live n 0) s') fun _ _ => .er) R := h
        rw [getO_eq] at h
        cases hn : s'.find n with
        | none => rw [hn] at h; exact h.elim
        | some o =>
          rw [hn] at h
          cases o with
          | d _ _ => exact h.elim
          | l ts =>
            obtain ⟨a, vs, rfl, hr, ha, dl⟩ := rr.lst hn d
            exact .inl ⟨a, rfl, ⟨vs, .of ha⟩, h ρ' H' _ (fun _ => False) ex rr no fun n => serves_lst n 0 (feeds_live hr n 0)⟩
      | _ => exact h.elim
    | nl ts s' =>
      rw [hm] at h
      intro ρ' H' a ex rr d
      obtain ⟨d1, d2, vs, ha, dl⟩ := d
      have hf : ∀ b, (fun b => b = a) b → H b = none ∧ H' b ≠ none ∧ ∀ m, ρ' m ≠ some b := fun b hb => by
        have hb : b = a := hb
        subst hb
        exact ⟨d1, by rw [ha]; exact fun z => (nomatch z), d2⟩
      exact .inl ⟨a, rfl, ⟨vs, .of ha⟩, h ρ' H' _ (fun b => b = a) ex rr hf fun n => serves_lst n 0 (feeds_fix (fun ρ2 H2 w => by rw [(w.fx a rfl).1]; exact ha) n 0 (by simpa using dl))⟩⟩
theorem bnd_I {H00 ρ s H} {m : Res} {k : T → Sto → IR} {R : It → Hp → Prop} (r : RelS ρ s H) (h : PostI H00 ρ s H (bnd .er m k) R) :
    Post ρ s H m fun v H' => ∃ ρ' s' t, Ext ρ s H ρ' s' H' ∧ RelS ρ' s' H' ∧ Den ρ' H' t v ∧ PostI H00 ρ' s' H' (k t s') R :=
  bnd_gen (P := fun ρ s H m => PostI H00 ρ s H m R) ⟨fun r r1 e h => h.step r r1 e⟩ (er := IR.er) (fun _ _ _ h => by exact h) r h
theorem PostI.ifB {H00 ρ s H} {b : Bool} {m : IR} {R} (h : PostI H00 ρ s H (ifB b m .er) R) : b = true ∧ PostI H00 ρ s H m R := by
  cases b with
  | false => exact h.elim
  | true => exact ⟨rfl, h⟩
theorem PostI.onInt {H00 ρ s H} {t : T} {k : Int → IR} {R} (h : PostI H00 ρ s H (onInt .er t k) R) : ∃ i, t = .int i ∧ PostI H00 ρ s H (k i) R := by
  cases t with
  | int i => exact ⟨i, rfl, h⟩
  | _ => exact h.elim
theorem pi_irng1 {X : Cx} {c : Cf} {A : Ev} {tg a : Expr} {p pos : Pos} (hg : Gl X "range") (hm : X.mg "range" = none) (ha : PE X a (rdE c A)) (hs : noStar a = true) : PI X tg (.Call (.Name "range" p) [a] [] pos) (rdI c (iRng1 A)) :=
  (pi_range1 hg hm (pa1 ha hs) (star_one hs)).mono fun σ H R ⟨ρ, e, s, rs, re, h⟩ => ⟨ρ, e, s, rs, re, (bnd_I rs h).mono fun x H1 ⟨ρ1, s1, t1, e1, r1, d1, p1⟩ => by
    obtain ⟨i, ei, p2⟩ := p1.onInt
    subst ei
    rw [den_int] at d1; subst d1
    obtain ⟨hi, p3⟩ := p2.ifB
    obtain ⟨h1, h2⟩ := iMd_iff hi
    exact ⟨i, rfl, h1, h2, p3 ρ1 H1 _ (fun _ => False) Ext.refl r1 (fun _ h => h.elim) fun n => serves_rng n 0 (by simp) (by simp)⟩⟩
theorem pi_irng2 {X : Cx} {c : Cf} {A B : Ev} {tg a b : Expr} {p pos : Pos} (hg : Gl X "range") (hm : X.mg "range" = none) (ha : PE X a (rdE c A)) (hb : PE X b (rdE c B)) (hs : noStar a = true) (hs2 : noStar b = true) : PI X tg (.Call (.Name "range" p) [a, b] [] pos) (rdI c (iRng2 A B)) :=
  (pi_range2 hg hm (pa2 ha hb hs hs2) (by rw [star_one hs, star_one hs2]; rfl) (star_one hs2)).mono fun σ H R ⟨ρ, e, s, rs, re, h⟩ => ⟨ρ, e, s, rs, re, (bnd_I rs h).mono fun x H1 ⟨ρ1, s1, t1, e1, r1, d1, p1⟩ => by
    refine ⟨ρ1, e, s1, r1, re.ext rs e1, (bnd_I r1 p1).mono fun y H2 ⟨ρ2, s2, t2, e2, r2, d2, p2⟩ => ?_⟩
    obtain ⟨i, ei, p3⟩ := p2.onInt
    obtain ⟨j, ej, p4⟩ := PostI.onInt p3
    subst ei ej
    rw [den_int] at d1 d2; subst d1 d2
    obtain ⟨hi, p5⟩ := p4.ifB
    obtain ⟨hj, p6⟩ := p5.ifB
    obtain ⟨h1, h2⟩ := iMd_iff hi
    obtain ⟨h3, h4⟩ := iMd_iff hj
    exact ⟨i, j, rfl, ⟨h1, h2, h3, h4⟩, p6 ρ2 H2 _ (fun _ => False) Ext.refl r2 (fun _ h => h.elim) fun n => serves_rng n 0 (by simp) (by rw [iAdd_eq, iNeg_eq, Nat.zero_add, Int.sub_eq_add_neg])⟩⟩
/-- a sequence whose items are told: at a, leaning on F -/
structure FeedOk (b : Bool) (src : Src) (ρ : Nat → Option Addr) (H : Hp) (a : Addr) (F : Addr → Prop) : Prop where
  at_ : ∃ xs, H a = some ((if b = true then HO.tup else HO.lst) xs)
  fd : ∀ n, Feeds (if b = true then HO.tup else HO.lst) a n 0 src ρ H F
  st : b = false → ∀ ρ2 s2 H2, Wk ρ H F ρ2 H2 → RelS ρ2 s2 H2 → chkS src s2 = true → ∃ xs, H2 a = some (.lst xs)
  f : ∀ a, F a → H a ≠ none ∧ ∀ m, ρ m ≠ some a
theorem srcQ_ok {H00 : Hp} {m : Res} {k : Bool → Src → Sto → IR} {ρ s H R} (rs : RelS ρ s H) (h : PostI H00 ρ s H (srcQ .er m k) R) : Post ρ s H m fun x H' => ∃ ρ' s' b src a F, x = .ref a ∧ Ext ρ s H ρ' s' H' ∧ RelS ρ' s' H' ∧ FeedOk b src ρ' H' a F ∧ (∀ a, F a → H a = none) ∧ PostI H00 ρ' s' H' (k b src s') R := by
  cases m with
  | er => exact h
  | v t s' =>
    intro ρ' H' v ex rr d
    cases t with
    | tup ts =>
      rw [den_tup] at d
      obtain ⟨a, vs, rfl, ha, dl⟩ := d
      exact ⟨ρ', s', true, _, a, fun _ => False, rfl, ex, rr, ⟨⟨vs, ha⟩, fun n => feeds_fix (fun ρ2 H2 w => w.tp a vs ha) n 0 (by simpa using dl), fun z => (nomatch z), fun _ h => h.elim⟩, fun _ h => h.elim, PostI.step rs rr ex h⟩
    | ref n =>
      have h : PostI H00 ρ s H (getO .er s' n fun o => onOb o (fun _ => k false (.live n 0) s') fun _ _ => .er) R := h
      rw [getO_eq] at h
      cases hn : s'.find n with
      | none => rw [hn] at h; exact h.elim
      | some o =>
        rw [hn] at h
        cases o with
        | d _ _ => exact h.elim
        | l ts =>
          obtain ⟨a, vs, rfl, hr, ha, dl⟩ := rr.lst hn d
          refine ⟨ρ', s', false, _, a, fun _ => False, rfl, ex, rr, ⟨⟨vs, ha⟩, fun n => feeds_live hr n 0, fun _ ρ2 s2 H2 e2 r2 hc => ?_, fun _ h => h.elim⟩, fun _ h => h.elim, PostI.step rs rr ex h⟩
          have hc : getO false s2 n (fun o => onOb o (fun _ => true) fun _ _ => false) = true := hc
          rw [getO_eq] at hc
          cases hn2 : s2.find n with
          | none => rw [hn2] at hc; exact nomatch hc
          | some o =>
            rw [hn2] at hc
            cases o with
            | d _ _ => exact nomatch hc
            | l us =>
              obtain ⟨b, ho, k1, k2, k3⟩ := r2.live n _ hn2
              obtain ⟨ws, rfl, _⟩ := k3
              have := e2.le n a hr
              rw [k1] at this; cases this
              exact ⟨ws, k2⟩
    | _ => exact h.elim
  | nl ts s' =>
    intro ρ' H' a ex rr d
    obtain ⟨d1, d2, vs, ha, dl⟩ := d
    have keep : ∀ {ρ2 H2}, Wk ρ' H' (fun b => b = a) ρ2 H2 → H2 a = some (.lst vs) := fun {ρ2 H2} w => by rw [(w.fx a rfl).1]; exact ha
    refine ⟨ρ', s', false, _, a, fun b => b = a, rfl, ex, rr, ⟨⟨vs, ha⟩, fun n => feeds_fix (fun ρ2 H2 w => keep w) n 0 (by simpa using dl), fun _ ρ2 s2 H2 w _ _ => ⟨vs, keep w⟩, fun b hb => ?_⟩, fun b hb => ?_, PostI.step rs rr ex h⟩
    · have hb : b = a := hb
      subst hb
      exact ⟨by rw [ha]; exact fun z => (nomatch z), d2⟩
    · have hb : b = a := hb
      subst hb
      exact d1
theorem Wk.le_of {ρ0 H0 F ρ1 H1 F1 ρ H} (w0 : Wk ρ0 H0 F ρ1 H1) (hF : ∀ a, F a → F1 a) (w : Wk ρ1 H1 F1 ρ H) : Wk ρ0 H0 F ρ H :=
  ⟨fun m a h => w.le m a (w0.le m a h), fun a xs h => w.tp a xs (w0.tp a xs h), fun a ha => ⟨by rw [(w.fx a (hF a ha)).1, (w0.fx a ha).1], (w0.fx a ha).2.1, (w.fx a (hF a ha)).2.2⟩⟩
theorem feeds_ext {mk : List V → HO} {a : Addr} {ρ0 H0 F ρ1 H1 F1} (w0 : Wk ρ0 H0 F ρ1 H1) (hF : ∀ a, F a → F1 a) : ∀ (n i : Nat) {src : Src}, Feeds mk a n i src ρ0 H0 F → Feeds mk a n i src ρ1 H1 F1
  | 0, i, src, h => trivial
  | n + 1, i, src, h => fun ρ s H w rs => by
    have h := h ρ s H (w0.le_of hF w) rs
    cases e : step src s with
    | er => trivial
    | done => rw [e] at h; exact h
    | it t src' => rw [e] at h; exact ⟨h.1, feeds_ext w0 hF n (i + 1) h.2⟩
theorem pi_ienum {X : Cx} {c : Cf} {A : Ev} {a : Expr} {elts : List Expr} {kk : Nat} {p pos tpos : Pos} (hg : Gl X "enumerate") (hm : X.mg "enumerate" = none) (ha : PE X a (rdE c A)) (hs : noStar a = true) : PI X (.Tuple elts kk tpos) (.Call (.Name "enumerate" p) [a] [] pos) (rdI c (iEnum A)) :=
  (pi_enumA hg hm (pa1 ha hs) (star_one hs)).mono fun σ H R ⟨ρ, e, s, rs, re, h⟩ => ⟨ρ, e, s, rs, re, (srcQ_ok rs h).mono fun x H1 ⟨ρ1, s1, b, src, a, F, ea, e1, r1, f1, hF, p1⟩ => by
    obtain ⟨xs, h1⟩ := f1.at_
    subst ea
    cases b with
    | true => exact ⟨a, xs, rfl, .inr ⟨.of h1, p1 ρ1 H1 _ F Ext.refl r1 (fun a ha => ⟨hF a ha, f1.f a ha⟩) fun n => serves_enumT n 0 (f1.fd n)⟩⟩
    | false => exact ⟨a, xs, rfl, .inl ⟨.of h1, p1 ρ1 H1 _ F Ext.refl r1 (fun a ha => ⟨hF a ha, f1.f a ha⟩) fun n => serves_enum n 0 (f1.fd n)⟩⟩⟩
theorem pi_izip {X : Cx} {c : Cf} {A B : Ev} {a b : Expr} {elts : List Expr} {kk : Nat} {p pos tpos : Pos} (hg : Gl X "zip") (hm : X.mg "zip" = none) (ha : PE X a (rdE c A)) (hb : PE X b (rdE c B)) (hs : noStar a = true) (hs2 : noStar b = true) : PI X (.Tuple elts kk tpos) (.Call (.Name "zip" p) [a, b] [] pos) (rdI c (iZip A B)) :=
  (pi_zipB hg hm (pa2 ha hb hs hs2) (star_one hs) (by rw [star_one hs2]; rfl)).mono fun σ H R ⟨ρ, e, s, rs, re, h⟩ => ⟨ρ, e, s, rs, re, (srcQ_ok rs h).mono fun x H1 ⟨ρ1, s1, b1, src, a, F, ea, e1, r1, f1, hF, p1⟩ => by
    refine ⟨ρ1, e, s1, r1, re.ext rs e1, (srcQ_ok r1 p1).mono fun y H2 ⟨ρ2, s2, b2, src2, b, F2, eb, e2, r2, f2, hF2, p2⟩ => ?_⟩
    subst ea eb
    have w0 : Wk ρ1 H1 F ρ2 H2 := (Wk.refl f1.f).step r1 e2
    have w0' : Wk ρ1 H1 F ρ2 H2 := w0
    have wb : Wk ρ2 H2 F2 ρ2 H2 := Wk.refl f2.f
    have hFF : ∀ a, (F a ∨ F2 a) → H a = none ∧ H2 a ≠ none ∧ ∀ m, ρ2 m ≠ some a := fun a ha => by
      rcases ha with ha | ha
      · obtain ⟨k1, k2, k3⟩ := w0.fx a ha
        exact ⟨hF a ha, by rw [k1]; exact k2, k3⟩
      · have := hF2 a ha
        exact ⟨none_back e1 this, f2.f a ha⟩
    have p4 : PostI H ρ2 s2 H2 (Rk.ifB (chkS src s2) (.ok (.zip src src2) s2) .er) R := p2
    obtain ⟨hc, p5⟩ := p4.ifB
    obtain ⟨ys, h2⟩ := f2.at_
    have h1 : ∃ xs, H2 a = some (mkB b1 xs) := by
      cases b1 with
      | true => obtain ⟨xs, h1⟩ := f1.at_; exact ⟨xs, e2.tup r1 h1⟩
      | false => exact f1.st rfl ρ2 s2 H2 w0 r2 hc
    obtain ⟨xs, h1⟩ := h1
    exact ⟨b1, b2, a, b, xs, ys, rfl, .of h1, .of (b := b2) h2, p5 ρ2 H2 _ _ Ext.refl r2 hFF fun n => serves_zipB (p := b1) (q := b2) n 0 (feeds_ext w0 (fun _ h => .inl h) n 0 (f1.fd n)) (feeds_ext wb (fun _ h => .inr h) n 0 (f2.fd n))⟩⟩
end Rk
end
section
set_option linter.all false
set_option autoImplicit false
set_option maxRecDepth 100000
namespace Rk
open PySem PySem.Spec PyProof.Rows L2
/-! ### zip over n lists, walked by a loop: the tuple that was handed out may live or not -/
abbrev IsZipE (h : Heap) (z TI TO : Addr) (f : Bool) : Prop := h.get? z = some { cls := .type "zip", data := .fields #[.ellipsis, .bool f, .bool false, .ref TI, .ref TO] }
section
variable {P : Program} {w : World} {A : Around} {E : Value → Shared → Prop} {s : Shared} {z TI TO : Addr} {rows : List Row} {j : Nat}
theorem dead_load {M : Model} {a : Addr} {Q : Option Obj → Shared → Prop} (h : s.heap.get? a = none) (q : Q none s) : wpAny M A (loadIfAlive a) Q E s := fun _ _ _ => by
  have e : Sem.wp M ‹_› (loadIfAlive a) (fun a _ s' => Q a s') (fun e _ s' => E e s') ‹_› s = Q (s.heap.get? a) s := by unfold loadIfAlive; simp [Sem.wp]
  rw [e, h]
  exact q
theorem zipN_first2 {Q : Value → Shared → Prop} (hh : A.handled = none) (D : ZApart z TI TO rows) (hne : rows ≠ []) (hz : IsZip s.heap z TI TO .none) (hTI : s.heap.get? TI = some (tupO (refsOf rows))) {post : List Value} (hpl : post.length = rows.length) (hTO : s.heap.get? TO = some (tupO post))
    (ha : ∀ r ∈ rows, r.at s.heap j) (hl : ∀ r ∈ rows, j < r.items.size) (hsz : rows.length ≤ sizeLine)
    (q : ∀ h' tk, IsZipHeld h' z TI TO s.heap.objs.size false → h'.get? s.heap.objs.size = some (tupO (colAt rows j)) → h'.objs.size = s.heap.objs.size + 1 → (∀ r ∈ rows, r.at h' (j + 1)) → Keeps z TO rows s.heap h' → (∃ post : List Value, post.length = rows.length ∧ h'.get? TO = some (tupO post)) → Q (.ref s.heap.objs.size) { s with heap := h', toks := tk }) :
    wpAny (model P w) A (Builtin.«zip.__next__» ⟨[.ref z], []⟩) (fun fin s' => ∃ v, fin = .done (.ret v) ∧ Q v s') E s := by
  obtain ⟨hp, g, d, tk0, os⟩ := s
  show wpAny _ _ (field (.ref z) 2 >>= _) _ _ _
  refine wpAny_bind (wpAny_field hz rfl (x := .bool false) rfl ?_)
  show wpAny _ _ (field (.ref z) 3 >>= _) _ _ _
  refine wpAny_bind (wpAny_field hz rfl (x := .ref TI) rfl ?_)
  refine wpAny_bind (wpAny_seqItems hTI rfl ?_)
  obtain ⟨r0, rs, rfl⟩ : ∃ r0 rs, rows = r0 :: rs := by
    cases rows with
    | nil => exact absurd rfl hne
    | cons r0 rs => exact ⟨r0, rs, rfl⟩
  show wpAny _ _ (Builtin.SmallTypes.ownedTupleIsFree (.ref z) >>= _) _ _ _
  refine wpAny_bind ?_
  unfold Builtin.SmallTypes.ownedTupleIsFree
  refine wpAny_bind (wpAny_field hz rfl (x := .none) rfl (wpAny_pure ?_))
  simp only [if_true]
  refine wpAny_bind (wpAny_rule (wpAny_bind (wpAny_field hz rfl (x := .ref TO) rfl ?_)))
  refine wpAny_bind (wpAny_setField_rec hz (by simp) fun g0 hz0 hs0 => ?_)
  replace hz0 : IsZip g0 z TI TO .ellipsis := hz0
  replace hs0 : Heap.SameBut z hp g0 := hs0
  have hT0 : g0.get? TO = some (tupO post) := hs0.extBut _ _ D.TOz hTO
  have ha0 : ∀ r ∈ r0 :: rs, r.at g0 j := fun r hr => at_other (ha r hr) hs0 (D.z r hr)
  refine wpAny_bind ?_
  show wpAny _ _ (forIn (List.zipIdx (refsOf (r0 :: rs)) 0) _ _) _ _ _
  refine draw_own (P := P) (w := w) (A := A) (TO := TO) (j := j) hh (fun it k s1 R hq => ?_) (r0 :: rs) 0 [] post ⟨g0, g, d, tk0, os⟩ D.sep ha0 hl D.TO rfl hpl (by rw [hpl]; simpa using hsz) hT0 fun h' tk hz' hT' hk hat => ?_
  · refine wpAny_bind (wpAny_onRaise ?_)
    show wpAny _ _ (Builtin.SmallTypes.nextOf (.ref it) >>= _) _ _ _
    refine wpAny_bind (wpAny_mono (hq (fun _ _ => False)) (fun x s2 ⟨vs, hvz, hv, hR⟩ => wpAny_pure ?_) fun e s2 he => he.elim)
    refine wpAny_bind (wpAny_seqItems hv rfl ?_)
    refine wpAny_bind (wpAny_updateSeq (hz := hvz) (_hz' := by simp only [Array.size_setIfInBounds]; omega) hv rfl (wpAny_bind (wpAny_letGo (wpAny_pure (hR _ ?_ (Heap.SameBut.update ..))))))
    rw [Heap.get?_update_self _ hv rfl]
    simp [Obj.mapSeq]
  · replace hz' : h'.objs.size = g0.objs.size := hz'
    have hT' : h'.get? TO = some (tupO (colAt (r0 :: rs) j)) := hT'
    refine wpAny_bind (wpAny_seqItems (s := ⟨h', g, d, tk, os⟩) hT' rfl ?_)
    refine wpAny_bind (wpAny_newTuple ?_ ?_)
    · have hzz : IsZip h' z TI TO .ellipsis := hk z _ D.TOz.symm (fun r hr e => (D.z r hr).1 e.symm) hz0
      have hzlt : z < h'.objs.size := Heap.lt_size hzz
      have hs : h'.objs.size = hp.objs.size := hz'.trans hs0.1
      show wpAny _ _ (Builtin.SmallTypes.ownedTupleHandOut (.ref z) (.ref h'.objs.size) >>= _) _ _ ⟨h'.push (tupO (colAt (r0 :: rs) j)), g, d, tk, os⟩
      refine wpAny_bind ?_
      unfold Builtin.SmallTypes.ownedTupleHandOut
      have hz6 : IsZip (h'.push (tupO (colAt (r0 :: rs) j))) z TI TO .ellipsis := Heap.get?_push_of_some _ hzz
      refine wpAny_bind (wpAny_setField_rec hz6 (by simp) fun h7 hz7 hs7 => ?_)
      replace hz7 : IsZip h7 z TI TO (rawInt h'.objs.size) := hz7
      refine wpAny_setField_rec hz7 (by simp) fun h8 hz8 hs8 => ?_
      replace hz8 : IsZipHeld h8 z TI TO h'.objs.size false := hz8
      replace hs7 : Heap.SameBut z (h'.push (tupO (colAt (r0 :: rs) j))) h7 := hs7
      replace hs8 : Heap.SameBut z h7 h8 := hs8
      have up : ∀ c o, c ≠ z → h'.get? c = some o → h8.get? c = some o := fun c o c1 e => hs8.extBut _ _ c1 (hs7.extBut _ _ c1 (Heap.get?_push_of_some _ e))
      have hT8 : h8.get? h'.objs.size = some (tupO (colAt (r0 :: rs) j)) := hs8.extBut _ _ (Nat.ne_of_gt hzlt) (hs7.extBut _ _ (Nat.ne_of_gt hzlt) (Heap.get?_push_size _ rfl))
      have h8s : h8.objs.size = h'.objs.size + 1 := by rw [hs8.1, hs7.1, Heap.size_push]
      rw [hs] at hz8 hT8 h8s
      refine wpAny_pure ⟨_, rfl, ?_⟩
      show Q (.ref h'.objs.size) ⟨h8, g, d, tk, os⟩
      rw [hs]
      exact q h8 tk hz8 hT8 h8s (fun r hr => Row.at_ext (hat r hr) fun b o hq e => up b o (by
        rintro rfl
        rcases hq with e | e
        · exact (D.z r hr).1 e.symm
        · exact (D.z r hr).2 e.symm) e) (fun c o c1 c2 c3 e => up c o c1 (hk c o c2 c3 (hs0.extBut _ _ c1 e))) ⟨colAt (r0 :: rs) j, List.length_map _, up TO _ D.TOz hT'⟩
    · have : (colAt (r0 :: rs) j).length = (r0 :: rs).length := List.length_map _
      simpa using (by omega : (colAt (r0 :: rs) j).length ≤ sizeLine)
theorem zipN_dead {T : Addr} {f : Bool} {Q : Value → Shared → Prop} (hh : A.handled = none) (D : ZApart z TI TO rows) (hne : rows ≠ []) (hz : IsZipHeld s.heap z TI TO T f) (hT : s.heap.get? T = none) (hTI : s.heap.get? TI = some (tupO (refsOf rows))) {post : List Value} (hpl : post.length = rows.length) (hTO : s.heap.get? TO = some (tupO post))
    (ha : ∀ r ∈ rows, r.at s.heap j) (hl : ∀ r ∈ rows, j < r.items.size) (hsz : rows.length ≤ sizeLine)
    (q : ∀ h' tk, IsZipHeld h' z TI TO s.heap.objs.size false → h'.get? s.heap.objs.size = some (tupO (colAt rows j)) → h'.objs.size = s.heap.objs.size + 1 → (∀ r ∈ rows, r.at h' (j + 1)) → Keeps z TO rows s.heap h' → (∃ post : List Value, post.length = rows.length ∧ h'.get? TO = some (tupO post)) → Q (.ref s.heap.objs.size) { s with heap := h', toks := tk }) :
    wpAny (model P w) A (Builtin.«zip.__next__» ⟨[.ref z], []⟩) (fun fin s' => ∃ v, fin = .done (.ret v) ∧ Q v s') E s := by
  obtain ⟨hp, g, d, tk0, os⟩ := s
  show wpAny _ _ (field (.ref z) 2 >>= _) _ _ _
  refine wpAny_bind (wpAny_field hz rfl (x := .bool false) rfl ?_)
  show wpAny _ _ (field (.ref z) 3 >>= _) _ _ _
  refine wpAny_bind (wpAny_field hz rfl (x := .ref TI) rfl ?_)
  refine wpAny_bind (wpAny_seqItems hTI rfl ?_)
  obtain ⟨r0, rs, rfl⟩ : ∃ r0 rs, rows = r0 :: rs := by
    cases rows with
    | nil => exact absurd rfl hne
    | cons r0 rs => exact ⟨r0, rs, rfl⟩
  show wpAny _ _ (Builtin.SmallTypes.ownedTupleIsFree (.ref z) >>= _) _ _ _
  refine wpAny_bind ?_
  unfold Builtin.SmallTypes.ownedTupleIsFree
  refine wpAny_bind (wpAny_field hz rfl (x := rawInt T) rfl ?_)
  show wpAny _ _ (loadIfAlive ((T : Int).toNat) >>= _) _ _ _
  rw [Int.toNat_natCast]
  refine wpAny_bind (dead_load hT ?_)
  simp only [Option.isNone_none, if_true]
  refine wpAny_pure ?_
  simp only [if_true]
  refine wpAny_bind (wpAny_rule (wpAny_bind (wpAny_field hz rfl (x := .ref TO) rfl ?_)))
  refine wpAny_bind (wpAny_setField_rec hz (by simp) fun g0 hz0 hs0 => ?_)
  replace hz0 : IsZipE g0 z TI TO f := hz0
  replace hs0 : Heap.SameBut z hp g0 := hs0
  have hT0 : g0.get? TO = some (tupO post) := hs0.extBut _ _ D.TOz hTO
  have ha0 : ∀ r ∈ r0 :: rs, r.at g0 j := fun r hr => at_other (ha r hr) hs0 (D.z r hr)
  refine wpAny_bind ?_
  show wpAny _ _ (forIn (List.zipIdx (refsOf (r0 :: rs)) 0) _ _) _ _ _
  refine draw_own (P := P) (w := w) (A := A) (TO := TO) (j := j) hh (fun it k s1 R hq => ?_) (r0 :: rs) 0 [] post ⟨g0, g, d, tk0, os⟩ D.sep ha0 hl D.TO rfl hpl (by rw [hpl]; simpa using hsz) hT0 fun h' tk hz' hT' hk hat => ?_
  · refine wpAny_bind (wpAny_onRaise ?_)
    show wpAny _ _ (Builtin.SmallTypes.nextOf (.ref it) >>= _) _ _ _
    refine wpAny_bind (wpAny_mono (hq (fun _ _ => False)) (fun x s2 ⟨vs, hvz, hv, hR⟩ => wpAny_pure ?_) fun e s2 he => he.elim)
    refine wpAny_bind (wpAny_seqItems hv rfl ?_)
    refine wpAny_bind (wpAny_updateSeq (hz := hvz) (_hz' := by simp only [Array.size_setIfInBounds]; omega) hv rfl (wpAny_bind (wpAny_letGo (wpAny_pure (hR _ ?_ (Heap.SameBut.update ..))))))
    rw [Heap.get?_update_self _ hv rfl]
    simp [Obj.mapSeq]
  · replace hz' : h'.objs.size = g0.objs.size := hz'
    have hT' : h'.get? TO = some (tupO (colAt (r0 :: rs) j)) := hT'
    refine wpAny_bind (wpAny_seqItems (s := ⟨h', g, d, tk, os⟩) hT' rfl ?_)
    refine wpAny_bind (wpAny_newTuple ?_ ?_)
    · have hzz : IsZipE h' z TI TO f := hk z _ D.TOz.symm (fun r hr e => (D.z r hr).1 e.symm) hz0
      have hzlt : z < h'.objs.size := Heap.lt_size hzz
      have hs : h'.objs.size = hp.objs.size := hz'.trans hs0.1
      show wpAny _ _ (Builtin.SmallTypes.ownedTupleHandOut (.ref z) (.ref h'.objs.size) >>= _) _ _ ⟨h'.push (tupO (colAt (r0 :: rs) j)), g, d, tk, os⟩
      refine wpAny_bind ?_
      unfold Builtin.SmallTypes.ownedTupleHandOut
      have hz6 : IsZipE (h'.push (tupO (colAt (r0 :: rs) j))) z TI TO f := Heap.get?_push_of_some _ hzz
      refine wpAny_bind (wpAny_setField_rec hz6 (by simp) fun h7 hz7 hs7 => ?_)
      replace hz7 : IsZipHeld h7 z TI TO h'.objs.size f := hz7
      refine wpAny_setField_rec hz7 (by simp) fun h8 hz8 hs8 => ?_
      replace hz8 : IsZipHeld h8 z TI TO h'.objs.size false := hz8
      replace hs7 : Heap.SameBut z (h'.push (tupO (colAt (r0 :: rs) j))) h7 := hs7
      replace hs8 : Heap.SameBut z h7 h8 := hs8
      have up : ∀ c o, c ≠ z → h'.get? c = some o → h8.get? c = some o := fun c o c1 e => hs8.extBut _ _ c1 (hs7.extBut _ _ c1 (Heap.get?_push_of_some _ e))
      have hT8 : h8.get? h'.objs.size = some (tupO (colAt (r0 :: rs) j)) := hs8.extBut _ _ (Nat.ne_of_gt hzlt) (hs7.extBut _ _ (Nat.ne_of_gt hzlt) (Heap.get?_push_size _ rfl))
      have h8s : h8.objs.size = h'.objs.size + 1 := by rw [hs8.1, hs7.1, Heap.size_push]
      rw [hs] at hz8 hT8 h8s
      refine wpAny_pure ⟨_, rfl, ?_⟩
      show Q (.ref h'.objs.size) ⟨h8, g, d, tk, os⟩
      rw [hs]
      exact q h8 tk hz8 hT8 h8s (fun r hr => Row.at_ext (hat r hr) fun b o hq e => up b o (by
        rintro rfl
        rcases hq with e | e
        · exact (D.z r hr).1 e.symm
        · exact (D.z r hr).2 e.symm) e) (fun c o c1 c2 c3 e => up c o c1 (hk c o c2 c3 (hs0.extBut _ _ c1 e))) ⟨colAt (r0 :: rs) j, List.length_map _, up TO _ D.TOz hT'⟩
    · have : (colAt (r0 :: rs) j).length = (r0 :: rs).length := List.length_map _
      simpa using (by omega : (colAt (r0 :: rs) j).length ≤ sizeLine)
theorem zipN_held2 {Q : Value → Shared → Prop} {T : Addr} {f : Bool} {oT : Obj} (hh : A.handled = none) (D : ZApart z TI TO rows) (hne : rows ≠ []) (hz : IsZipHeld s.heap z TI TO T f) (hT : s.heap.get? T = some oT) {post : List Value} (hpl : post.length = rows.length) (hTO : s.heap.get? TO = some (tupO post)) (hTI : s.heap.get? TI = some (tupO (refsOf rows)))
    (ha : ∀ r ∈ rows, r.at s.heap j) (hl : ∀ r ∈ rows, j < r.items.size) (hsz : rows.length ≤ sizeLine)
    (q : ∀ h' tk, IsZipHeld h' z TI TO T true → h'.get? s.heap.objs.size = some (tupO (colAt rows j)) → h'.objs.size = s.heap.objs.size + 1 → (∀ r ∈ rows, r.at h' (j + 1)) → Keeps z TO rows s.heap h' → (∃ post : List Value, post.length = rows.length ∧ h'.get? TO = some (tupO post)) → Q (.ref s.heap.objs.size) { s with heap := h', toks := tk }) :
    wpAny (model P w) A (Builtin.«zip.__next__» ⟨[.ref z], []⟩) (fun fin s' => ∃ v, fin = .done (.ret v) ∧ Q v s') E s := by
  show wpAny _ _ (field (.ref z) 2 >>= _) _ _ _
  refine wpAny_bind (wpAny_field hz rfl (x := .bool false) rfl ?_)
  show wpAny _ _ (field (.ref z) 3 >>= _) _ _ _
  refine wpAny_bind (wpAny_field hz rfl (x := .ref TI) rfl ?_)
  refine wpAny_bind (wpAny_seqItems hTI rfl ?_)
  obtain ⟨r0, rs, rfl⟩ : ∃ r0 rs, rows = r0 :: rs := by
    cases rows with
    | nil => exact absurd rfl hne
    | cons r0 rs => exact ⟨r0, rs, rfl⟩
  show wpAny _ _ (Builtin.SmallTypes.ownedTupleIsFree (.ref z) >>= _) _ _ _
  refine wpAny_bind (PySem.wpAny_tupleHeld_zip hz hT fun h₁ hz₁ hs₁ => ?_)
  simp only [Bool.false_eq_true, if_false]
  refine wpAny_bind ?_
  rw [← Array.forIn_toList]
  have ha1 : ∀ r ∈ r0 :: rs, r.at h₁ j := fun r hr => at_other (ha r hr) hs₁ (D.z r hr)
  refine draw_rows (P := P) (w := w) (A := A) (j := j) (I0 := fun acc => (none, acc)) hh (fun it acc s1 R hq => ?_) (r0 :: rs) #[] { s with heap := h₁ } D.sep ha1 hl fun h' tk hz' hk hat => ?_
  · refine wpAny_bind (wpAny_holding ?_)
    show wpAny _ _ (Builtin.SmallTypes.nextOf (.ref it) >>= _) _ _ _
    exact wpAny_bind (wpAny_mono (hq (fun _ _ => False)) (fun x s2 hR => wpAny_pure (wpAny_pure hR)) fun e s2 he => he.elim)
  · replace hz' : h'.objs.size = h₁.objs.size := hz'
    have hs : h'.objs.size = s.heap.objs.size := hz'.trans hs₁.1
    have el : (#[] ++ (colAt (r0 :: rs) j).toArray : Array Value).toList = colAt (r0 :: rs) j := by simp
    show wpAny _ _ (newTuple (#[] ++ (colAt (r0 :: rs) j).toArray : Array Value).toList >>= _) _ _ _
    rw [el]
    refine wpAny_bind (wpAny_newTuple ?_ ?_)
    · refine wpAny_pure ⟨_, rfl, ?_⟩
      show Q (.ref h'.objs.size) { s with heap := h'.push (tupO (colAt (r0 :: rs) j)), toks := tk }
      have hp : (h'.push (tupO (colAt (r0 :: rs) j))).get? h'.objs.size = some (tupO (colAt (r0 :: rs) j)) := Heap.get?_push_size _ rfl
      have hz4 : (h'.push (tupO (colAt (r0 :: rs) j))).objs.size = h'.objs.size + 1 := Heap.size_push ..
      rw [hs] at hp hz4 ⊢
      exact q _ tk (Heap.get?_push_of_some _ (hk z _ (fun r hr e => (D.z r hr).1 e.symm) hz₁)) hp hz4 (fun r hr => Row.at_ext (hat r hr) fun b o _ e => Heap.get?_push_of_some _ e)
        (fun c o c1 _ c3 e => Heap.get?_push_of_some _ (hk c o c3 (hs₁.extBut _ _ c1 e))) ⟨post, hpl, Heap.get?_push_of_some _ (hk TO _ (fun r hr e => (D.TO r hr).1 e.symm) (hs₁.extBut _ _ D.TOz hTO))⟩
    · have : (colAt (r0 :: rs) j).length = (r0 :: rs).length := List.length_map _
      simpa using (by omega : (colAt (r0 :: rs) j).length ≤ sizeLine)
end
section
variable {P : Program} {w : World} {A : Around} {E : Value → Shared → Prop} {s : Shared} {z TI TO : Addr} {r0 : Row} {rs : List Row} {j : Nat}
theorem zipN_stop_dead {T : Addr} {f : Bool} {Q : PySem.Fin → Shared → Prop} (hh : A.handled = none) (D : ZApart z TI TO (r0 :: rs)) (hz : IsZipHeld s.heap z TI TO T f) (hT : s.heap.get? T = none) (hTI : s.heap.get? TI = some (tupO (refsOf (r0 :: rs)))) {post : List Value} (hTO : s.heap.get? TO = some (tupO post))
    (ha : r0.at s.heap r0.items.size)
    (q : ∀ h' e, Keeps z TO (r0 :: rs) s.heap h' → IsStop h' e → E (.ref e) { s with heap := h' }) : wpAny (model P w) A (Builtin.«zip.__next__» ⟨[.ref z], []⟩) Q E s := by
  obtain ⟨hp, g, d, tk0, os⟩ := s
  show wpAny _ _ (field (.ref z) 2 >>= _) _ _ _
  refine wpAny_bind (wpAny_field hz rfl (x := .bool false) rfl ?_)
  show wpAny _ _ (field (.ref z) 3 >>= _) _ _ _
  refine wpAny_bind (wpAny_field hz rfl (x := .ref TI) rfl ?_)
  refine wpAny_bind (wpAny_seqItems hTI rfl ?_)
  show wpAny _ _ (Builtin.SmallTypes.ownedTupleIsFree (.ref z) >>= _) _ _ _
  refine wpAny_bind ?_
  unfold Builtin.SmallTypes.ownedTupleIsFree
  refine wpAny_bind (wpAny_field hz rfl (x := rawInt T) rfl ?_)
  show wpAny _ _ (loadIfAlive ((T : Int).toNat) >>= _) _ _ _
  rw [Int.toNat_natCast]
  refine wpAny_bind (dead_load hT ?_)
  simp only [Option.isNone_none, if_true]
  refine wpAny_pure ?_
  simp only [if_true]
  refine wpAny_bind (wpAny_rule (wpAny_bind (wpAny_field hz rfl (x := .ref TO) rfl ?_)))
  refine wpAny_bind (wpAny_setField_rec hz (by simp) fun g0 hz0 hs0 => ?_)
  replace hz0 : IsZipE g0 z TI TO f := hz0
  replace hs0 : Heap.SameBut z hp g0 := hs0
  have hm := D.z r0 List.mem_cons_self
  have ha0 : r0.at g0 r0.items.size := at_other ha hs0 hm
  refine wpAny_bind ?_
  show wpAny _ _ (forIn (List.zipIdx (refsOf (r0 :: rs)) 0) _ _) _ _ _
  rw [refsOf, List.map_cons, List.zipIdx_cons, List.forIn_cons]
  refine wpAny_bind (wpAny_bind (wpAny_onRaise ?_))
  show wpAny _ _ (Builtin.SmallTypes.nextOf (.ref r0.it) >>= _) _ _ ⟨g0, g, d, tk0, os⟩
  have Dr := Row.draws (P := P) (w := w) (A := A) r0 hh (fun e => D.sep.l r0 List.mem_cons_self r0 List.mem_cons_self e.symm)
  refine wpAny_bind (Dr.done ⟨g0, g, d, tk0, os⟩ _ _ ha0 fun q1 e hq1 he => ?_)
  replace hq1 : Heap.ExtBut r0.it g0 q1 := hq1
  obtain ⟨oe, hoe, hce⟩ := he
  replace hoe : q1.get? e = some oe := hoe
  have hzq : IsZipE q1 z TI TO f := hq1 _ _ hm.1.symm hz0
  have hez : e ≠ z := fun x => by subst x; rw [hzq] at hoe; cases hoe; simp at hce
  refine wpAny_setField_rec (s := ⟨q1, g, d, tk0, os⟩) hzq (by simp) fun q2 _ hq2 => ?_
  replace hq2 : Heap.SameBut z q1 q2 := hq2
  exact q q2 e (fun c o c1 c2 c3 x => hq2.extBut _ _ c1 (hq1 _ _ (c3 r0 List.mem_cons_self) (hs0.extBut _ _ c1 x))) ⟨oe, hq2.extBut _ _ hez hoe, hce⟩
end
/-! ### the state, the turn -/
structure ZN (z TI TO : Addr) (rows : List Row) (h : Heap) (j : Nat) : Prop where
  em : rows = [] → IsZip h z TI TO .none
  ti : h.get? TI = some (tupO (refsOf rows))
  to : ∃ post : List Value, post.length = rows.length ∧ h.get? TO = some (tupO post)
  it : ∀ r ∈ rows, h.IsListIter r.it r.l j
  st : IsZip h z TI TO .none ∨ ∃ T f, IsZipHeld h z TI TO T f ∧ T ≠ z ∧ T ≠ TO ∧ ∀ r ∈ rows, T ≠ r.it
/-- the rows with their items -/
def withI (rows : List Row) (its : List (Array Value)) : List Row := List.zipWith (fun r a => { r with items := a, lst := true }) rows its
section
variable {rows : List Row} {its : List (Array Value)}
theorem withI_len (h : its.length = rows.length) : (withI rows its).length = rows.length := by simp [withI, h]
theorem withI_refs : ∀ {rows : List Row} {its : List (Array Value)}, its.length = rows.length → refsOf (withI rows its) = refsOf rows
  | [], [], _ => rfl
  | r :: rows, a :: its, h => by
    show Value.ref r.it :: refsOf (withI rows its) = _
    rw [withI_refs (by simpa using h)]; rfl
  | [], _ :: _, h => nomatch h
  | _ :: _, [], h => nomatch h
theorem withI_mem : ∀ {rows : List Row} {its : List (Array Value)} {q : Row}, q ∈ withI rows its → ∃ r ∈ rows, ∃ a ∈ its, ∃ i : Nat, rows[i]? = some r ∧ its[i]? = some a ∧ q = { r with items := a, lst := true }
  | [], _, q, h => by simp [withI] at h
  | _ :: _, [], q, h => by simp [withI] at h
  | r :: rows, a :: its, q, h => by
    rcases List.mem_cons.mp (show q ∈ { r with items := a, lst := true } :: withI rows its from h) with rfl | h
    · exact ⟨r, List.mem_cons_self, a, List.mem_cons_self, 0, rfl, rfl, rfl⟩
    · obtain ⟨r', h1, a', h2, i, e1, e2, e3⟩ := withI_mem h
      exact ⟨r', List.mem_cons_of_mem _ h1, a', List.mem_cons_of_mem _ h2, i + 1, by simpa using e1, by simpa using e2, e3⟩
theorem withI_pw : ∀ {rows : List Row} {its : List (Array Value)}, rows.Pairwise (fun a b => a.it ≠ b.it) → (withI rows its).Pairwise fun a b => a.it ≠ b.it
  | [], _, h => by simp [withI]
  | _ :: _, [], h => by simp [withI]
  | r :: rows, a :: its, h => by
    obtain ⟨h1, h2⟩ := List.pairwise_cons.mp h
    refine List.pairwise_cons.mpr ⟨fun q hq => ?_, withI_pw h2⟩
    obtain ⟨r', hr, _, _, _, _, _, rfl⟩ := withI_mem hq
    exact h1 r' hr
theorem withI_apart {z TI TO : Addr} (D : ZApart z TI TO rows) : ZApart z TI TO (withI rows its) := by
  refine ⟨⟨withI_pw D.sep.it, fun a ha b hb => ?_⟩, D.TIz, D.TOz, D.TITO, fun r hr => ?_, fun r hr => ?_, fun r hr => ?_⟩
  · obtain ⟨r', hr, _, _, _, _, _, rfl⟩ := withI_mem ha
    obtain ⟨q', hq, _, _, _, _, _, rfl⟩ := withI_mem hb
    exact D.sep.l r' hr q' hq
  · obtain ⟨r', hr, _, _, _, _, _, rfl⟩ := withI_mem hr
    exact D.z r' ‹_›
  · obtain ⟨r', hr, _, _, _, _, _, rfl⟩ := withI_mem hr
    exact D.TI r' ‹_›
  · obtain ⟨r', hr, _, _, _, _, _, rfl⟩ := withI_mem hr
    exact D.TO r' ‹_›
theorem withI_back (hl : its.length = rows.length) {r : Row} (hr : r ∈ rows) : ∃ q ∈ withI rows its, q.it = r.it ∧ q.l = r.l ∧ q.lst = true := by
  obtain ⟨i, hi⟩ := List.getElem?_of_mem hr
  have hil : i < its.length := by rw [hl]; exact (List.getElem?_eq_some_iff.mp hi).1
  refine ⟨{ r with items := its[i], lst := true }, List.mem_of_getElem? (i := i) ?_, rfl, rfl, rfl⟩
  show (List.zipWith _ rows its)[i]? = _
  rw [List.getElem?_zipWith, hi, List.getElem?_eq_getElem hil]
end
/-- the lists at as, item by item, each turn in a new tuple -/
def ItzN (as : List Addr) : It :=
  ⟨fun i H => as ≠ [] ∧ ∃ xss : List (List V), Paired (fun a xs => H a = some (.lst xs)) as xss ∧ ∀ xs ∈ xss, i < xs.length,
    fun i H v H' => ∃ (T : Addr) (xss : List (List V)), v = .ref T ∧ H T = none ∧ Paired (fun a xs => H a = some (.lst xs)) as xss ∧ H' = upd H T (.tup (xss.map fun xs => xs.getD i .non)),
    fun i H => ∃ xss : List (List V), Paired (fun a xs => H a = some (.lst xs)) as xss ∧ ∀ xs ∈ xss, xs.length = i⟩
section
variable {X : Cx} {pins : List (Addr × Obj)} {σ : L2.St} {H : Hp} {s : Shared}
theorem lists_of (I : Inv X pins σ H s) : ∀ {as : List Addr} {xss : List (List V)}, Paired (fun a xs => H a = some (.lst xs)) as xss → ∃ its : List (List Value), its.length = as.length ∧ Paired (fun xs (us : List Value) => Vals xs us) xss its ∧
    ∀ (i : Nat) (a : Addr) (us : List Value), as[i]? = some a → its[i]? = some us → s.heap.IsList a us.toArray
  | [], _, .nil => ⟨[], rfl, .nil, fun i a us h => by simp at h⟩
  | a :: as, xs :: xss, .cons h t => by
    obtain ⟨its, h1, h2, h3⟩ := lists_of I t
    obtain ⟨us, rv, p, _⟩ := I.list (.of h)
    refine ⟨us :: its, by simp [h1], .cons rv h2, fun i b ws e1 e2 => ?_⟩
    cases i with
    | zero => simp at e1 e2; subst e1 e2; exact p.isList
    | succ i => exact h3 i b ws (by simpa using e1) (by simpa using e2)
theorem paired_nth {α β : Type} {F : α → β → Prop} : ∀ {l : List α} {m : List β} {i : Nat} {b : β}, Paired F l m → m[i]? = some b → ∃ a, l[i]? = some a ∧ F a b
  | _, _, i, b, .nil, h => by simp at h
  | a :: l, c :: m, 0, b, .cons h t, e => by simp at e; subst e; exact ⟨a, rfl, h⟩
  | a :: l, c :: m, i + 1, b, .cons h t, e => by
    obtain ⟨x, h1, h2⟩ := paired_nth (i := i) t (by simpa using e)
    exact ⟨x, by simpa using h1, h2⟩
theorem col_vals {i : Nat} : ∀ {rows : List Row} {xss : List (List V)} {its : List (List Value)}, its.length = rows.length → Paired (fun xs (us : List Value) => Vals xs us) xss its → (∀ xs ∈ xss, i < xs.length) → Vals (xss.map fun xs => xs.getD i .non) (colAt (withI rows (its.map List.toArray)) i)
  | [], [], [], _, .nil, _ => .nil
  | r :: rows, xs :: xss, us :: its, hl, .cons h t, hi => by
    have h1 := vals_getD h i (hi xs List.mem_cons_self)
    have e : us.getD i .none = us.toArray.getD i .none := by rw [List.getD_eq_getElem?_getD, Array.getD_eq_getD_getElem?]; simp
    rw [e] at h1
    exact .cons h1 (col_vals (by simpa using hl) t fun q hq => hi q (List.mem_cons_of_mem _ hq))
  | r :: rows, [], [], hl, .nil, _ => nomatch hl
  | [], xs :: xss, us :: its, hl, .cons _ _, _ => nomatch hl
end
theorem turn_zipN {P : Program} {w : World} {K : PySem.W.Frag} {x : Str} {px : Pos} {z TI TO : Addr} {rows : List Row} (D : ZApart z TI TO rows) (hrl : rows.length ≤ sizeLine) :
    Turn P w K (.Name x px) (ItzN (rows.map (·.l))) (z :: TI :: TO :: rows.map (·.it)) z (fun i h => ZN z TI TO rows h i) where
  mem := by simp
  obj := fun i h Z b hb => by
    rcases List.mem_cons.mp hb with rfl | hb
    · rcases Z.st with hz | ⟨T, f, hz, _⟩
      · exact ⟨_, hz, fun v q => nomatch q⟩
      · exact ⟨_, hz, fun v q => nomatch q⟩
    rcases List.mem_cons.mp hb with rfl | hb
    · exact ⟨_, Z.ti, fun v q => nomatch q⟩
    rcases List.mem_cons.mp hb with rfl | hb
    · obtain ⟨post, _, e⟩ := Z.to
      exact ⟨_, e, fun v q => nomatch q⟩
    · obtain ⟨r, hr, rfl⟩ := List.mem_map.mp hb
      obtain ⟨o, ho, _, hd⟩ := Z.it r hr
      exact ⟨o, ho, fun v q => by rw [hd] at q; cases q⟩
  keep := fun i h h' Z k => by
    have kz : ∀ o, h.get? z = some o → h'.get? z = some o := k z (by simp)
    refine ⟨fun e => kz _ (Z.em e), k TI (by simp) _ Z.ti, ?_, fun r hr => (Z.it r hr).at fun o e => k r.it (by simp; exact .inr (.inr (.inr ⟨r, hr, rfl⟩))) o e, ?_⟩
    · obtain ⟨post, e1, e2⟩ := Z.to
      exact ⟨post, e1, k TO (by simp) _ e2⟩
    · rcases Z.st with hz | ⟨T, f, hz, t⟩
      · exact .inl (kz _ hz)
      · exact .inr ⟨T, f, kz _ hz, t⟩
  item := by
    intro X hP hw hK hc i pins s σ H E I hf Z hg
    subst hP hw hK
    obtain ⟨hne, xss, hx, hi⟩ := hg
    obtain ⟨its, il, iv, ip⟩ := lists_of I hx
    have il : its.length = rows.length := by simpa using il
    have il' : (its.map List.toArray).length = rows.length := by rw [List.length_map, il]
    have D' := withI_apart (its := its.map List.toArray) D
    have hne' : withI rows (its.map List.toArray) ≠ [] := fun e => by
      have := withI_len il'
      rw [e] at this
      exact hne (by rw [List.length_eq_zero_iff.mp this.symm]; rfl)
    have hxl : xss.length = rows.length := by rw [← hx.length, List.length_map]
    have hti : s.heap.get? TI = some (tupO (refsOf (withI rows (its.map List.toArray)))) := by rw [withI_refs il']; exact Z.ti
    obtain ⟨post, hpl, hto⟩ := Z.to
    have hpl' : post.length = (withI rows (its.map List.toArray)).length := by rw [hpl, withI_len il']
    have hat : ∀ r ∈ withI rows (its.map List.toArray), r.at s.heap i := fun r hr => by
      obtain ⟨q, hq, a, ha, j, e1, e2, rfl⟩ := withI_mem hr
      rw [List.getElem?_map] at e2
      obtain ⟨us, e3, rfl⟩ := Option.map_eq_some_iff.mp e2
      exact ⟨Z.it q hq, ip j q.l us (by rw [List.getElem?_map, e1]; rfl) e3⟩
    have hlt : ∀ r ∈ withI rows (its.map List.toArray), i < r.items.size := fun r hr => by
      obtain ⟨q, hq, a, ha, j, e1, e2, rfl⟩ := withI_mem hr
      rw [List.getElem?_map] at e2
      obtain ⟨us, e3, rfl⟩ := Option.map_eq_some_iff.mp e2
      obtain ⟨xs, e4, rv⟩ := paired_nth iv e3
      have := hi xs (List.mem_of_getElem? e4)
      rw [rv.length] at this
      simpa using this
    have hsz : (withI rows (its.map List.toArray)).length ≤ sizeLine := by rw [withI_len il']; exact hrl
    have hh : X.A.handled = none := I.ok.hd hc
    have lt : ∀ {c o}, s.heap.get? c = some o → s.heap.objs.size ≠ c := fun e => Nat.ne_of_gt (Heap.lt_size e)
    have nit : ∀ r ∈ rows, s.heap.objs.size ≠ r.it := fun r hr => by
      obtain ⟨o, ho, _⟩ := Z.it r hr
      exact lt ho
    have zlt : s.heap.objs.size ≠ z := by
      rcases Z.st with hz | ⟨T, f, hz, _⟩
      · exact lt hz
      · exact lt hz
    -- how a turn ends
    have fin : ∀ (h' : Heap) (tk : Tok), (∃ T f, IsZipHeld h' z TI TO T f ∧ T ≠ z ∧ T ≠ TO ∧ ∀ r ∈ rows, T ≠ r.it) → h'.get? s.heap.objs.size = some (tupO (colAt (withI rows (its.map List.toArray)) i)) → (∀ r ∈ withI rows (its.map List.toArray), r.at h' (i + 1)) → Keeps z TO (withI rows (its.map List.toArray)) s.heap h' →
        (∃ post : List Value, post.length = (withI rows (its.map List.toArray)).length ∧ h'.get? TO = some (tupO post)) →
        (fun r s1 => ∃ u, r = some u ∧ wpAny (model X.prog X.w) X.A (letOwnedTupleGo (.Name x px) (.ref z) u) (fun _ s2 => ∃ x H', Inv X pins σ H' s2 ∧ RelV x u ∧ (ItzN (rows.map (·.l))).yld i H x H' ∧ ZN z TI TO rows s2.heap (i + 1) ∧ ∀ b ∈ z :: TI :: TO :: rows.map (·.it), H' b = none) E s1) (some (Value.ref s.heap.objs.size)) { s with heap := h', toks := tk } := by
      intro h' tk hst hT hat' hk hto'
      refine ⟨_, rfl, ?_⟩
      show wpAny _ _ (pure ()) _ _ _
      refine wpAny_pure ?_
      have cv := col_vals (i := i) (rows := rows) il iv hi
      have new : ObjOk X.prog X.w (upd H s.heap.objs.size (.tup (xss.map fun xs => xs.getD i .non))) h' s.heap.objs.size (.tup (xss.map fun xs => xs.getD i .non)) :=
        ⟨by rw [List.length_map, hxl]; exact hrl, _, cv, ⟨_, hT, rfl, _, rfl⟩⟩
      have kit : ∀ r ∈ rows, ∃ q ∈ withI rows (its.map List.toArray), q.it = r.it ∧ q.l = r.l ∧ q.lst = true := fun r hr => withI_back il' hr
      have I1 : Inv X pins σ (upd H s.heap.objs.size (.tup (xss.map fun xs => xs.getD i .non))) { s with heap := h', toks := tk } :=
        I.turnedNew (t' := tk) (ch := z :: TI :: TO :: rows.map (·.it)) (fun b o hb e => hk b o (fun q => hb (by rw [q]; simp)) (fun q => hb (by rw [q]; simp)) (fun r hr q => hb (by
          obtain ⟨r', hr', _, _, _, _, _, rfl⟩ := withI_mem hr
          rw [q]
          exact List.mem_cons_of_mem _ (List.mem_cons_of_mem _ (List.mem_cons_of_mem _ (List.mem_map.mpr ⟨r', hr', rfl⟩))))) e) hf (Nat.le_refl _) new
      refine ⟨.ref s.heap.objs.size, _, I1, rfl, ⟨_, xss, rfl, I.hok.fresh (Nat.le_refl _), hx, rfl⟩, ⟨fun e => absurd (by rw [e]; rfl) hne, ?_, ?_, fun r hr => ?_, .inr hst⟩, fun b hb => ?_⟩
      · refine hk TI _ D.TIz D.TITO (fun r hr e => ?_) Z.ti
        exact (D'.TI r hr).1 e.symm
      · obtain ⟨p, h1, h2⟩ := hto'
        exact ⟨p, by rw [h1, withI_len il'], h2⟩
      · obtain ⟨q, hq, e1, e2, e3⟩ := kit r hr
        have := hat' q hq
        unfold Row.at at this
        rw [e3, e1, e2] at this
        exact this.1
      · have hlt' : b < s.heap.objs.size := by
          rcases List.mem_cons.mp hb with rfl | hb
          · rcases Z.st with hz | ⟨T, f, hz, _⟩
            · exact Heap.lt_size hz
            · exact Heap.lt_size hz
          rcases List.mem_cons.mp hb with rfl | hb
          · exact Heap.lt_size Z.ti
          rcases List.mem_cons.mp hb with rfl | hb
          · exact Heap.lt_size hto
          · obtain ⟨r, hr, rfl⟩ := List.mem_map.mp hb
            obtain ⟨o, ho, _⟩ := Z.it r hr
            exact Heap.lt_size ho
        rw [upd_ne (Nat.ne_of_lt hlt')]
        exact (hf b hb).1
    have newT : ∀ {h' : Heap} {f : Bool}, IsZipHeld h' z TI TO s.heap.objs.size f → ∃ T f, IsZipHeld h' z TI TO T f ∧ T ≠ z ∧ T ≠ TO ∧ ∀ r ∈ rows, T ≠ r.it := fun h => ⟨_, _, h, zlt, lt hto, nit⟩
    have hT : s.TypeIs (.ref z) "zip" := by
      rcases Z.st with hz | ⟨T, f, hz, _⟩
      · exact ⟨_, hz, rfl⟩
      · exact ⟨_, hz, rfl⟩
    unfold pyNext
    refine wpAny_bind (wpAny_attempt (wpAny_callSpecial?_slot (name := Str.ofString "__next__") hT F.slot_zip_next
      (wpAny_call_entry F.slot_zip_next hT F.entry_zip_next ?_ (F.args_zip_next_1 _))))
    rcases Z.st with hz | ⟨T, f, hz, t1, t2, t3⟩
    · refine zipN_first2 hh D' hne' hz hti hpl' hto hat hlt hsz fun h' tk hz' hT' hs' ha' hk hto' => wpAny_pure (fin h' tk (newT hz') hT' ha' hk hto')
    · cases hTl : s.heap.get? T with
      | none => exact zipN_dead hh D' hne' hz hTl hti hpl' hto hat hlt hsz fun h' tk hz' hT' hs' ha' hk hto' => wpAny_pure (fin h' tk (newT hz') hT' ha' hk hto')
      | some oT => exact zipN_held2 hh D' hne' hz hTl hpl' hto hti hat hlt hsz fun h' tk hz' hT' hs' ha' hk hto' => wpAny_pure (fin h' tk ⟨T, _, hz', t1, t2, t3⟩ hT' ha' hk hto')
  done := by
    intro X hP hw hK hc i pins s σ H E I hf Z hg
    subst hP hw hK
    obtain ⟨xss, hx, hi⟩ := hg
    obtain ⟨its, il, iv, ip⟩ := lists_of I hx
    have il : its.length = rows.length := by simpa using il
    have il' : (its.map List.toArray).length = rows.length := by rw [List.length_map, il]
    have D' := withI_apart (its := its.map List.toArray) D
    have hti : s.heap.get? TI = some (tupO (refsOf (withI rows (its.map List.toArray)))) := by rw [withI_refs il']; exact Z.ti
    obtain ⟨post, hpl, hto⟩ := Z.to
    have hh : X.A.handled = none := I.ok.hd hc
    have hT : s.TypeIs (.ref z) "zip" := by
      rcases Z.st with hz | ⟨T, f, hz, _⟩
      · exact ⟨_, hz, rfl⟩
      · exact ⟨_, hz, rfl⟩
    have hat : ∀ r ∈ withI rows (its.map List.toArray), r.at s.heap i ∧ r.items.size = i := fun r hr => by
      obtain ⟨q, hq, a, ha, j, e1, e2, rfl⟩ := withI_mem hr
      rw [List.getElem?_map] at e2
      obtain ⟨us, e3, rfl⟩ := Option.map_eq_some_iff.mp e2
      obtain ⟨xs, e4, rv⟩ := paired_nth iv e3
      have := hi xs (List.mem_of_getElem? e4)
      rw [rv.length] at this
      exact ⟨⟨Z.it q hq, ip j q.l us (by rw [List.getElem?_map, e1]; rfl) e3⟩, by simpa using this⟩
    have stop : ∀ h' : Heap, Keeps z TO (withI rows (its.map List.toArray)) s.heap h' → (none : Option Value) = none ∧ Inv X pins σ H { s with heap := h' } := fun h' hk => ⟨rfl, I.turnedL (t' := s.toks) (ch := z :: TI :: TO :: rows.map (·.it)) (fun b o hb e => hk b o (fun q => hb (by rw [q]; simp)) (fun q => hb (by rw [q]; simp)) (fun r hr q => hb (by
          obtain ⟨r', hr', _, _, _, _, _, rfl⟩ := withI_mem hr
          rw [q]
          exact List.mem_cons_of_mem _ (List.mem_cons_of_mem _ (List.mem_cons_of_mem _ (List.mem_map.mpr ⟨r', hr', rfl⟩))))) e) hf⟩
    cases hr0 : withI rows (its.map List.toArray) with
    | nil =>
      have hr : rows = [] := by
        have := withI_len il'
        rw [hr0] at this
        exact List.length_eq_zero_iff.mp this.symm
      rw [hr0] at hti stop
      subst hr
      unfold pyNext
      refine wpAny_bind (wpAny_attempt (wpAny_callSpecial?_slot (name := Str.ofString "__next__") hT F.slot_zip_next
        (wpAny_call_entry F.slot_zip_next hT F.entry_zip_next (zipN_none (Z.em rfl) hti (fun h' e hk ⟨o, ho, hc⟩ => ?_) hh) (F.args_zip_next_1 _))))
      refine wpAny_bind (wpAny_isInstance (T := "StopIteration") (b := true) ⟨o, ho, hc⟩ isSubtype_stop ?_)
      exact wpAny_pure (stop _ fun c o _ _ _ e => hk c o e)
    | cons r0 rs =>
      rw [hr0] at hti stop D' hat
      obtain ⟨a0, z0⟩ := hat r0 List.mem_cons_self
      rw [← z0] at a0
      unfold pyNext
      refine wpAny_bind (wpAny_attempt (wpAny_callSpecial?_slot (name := Str.ofString "__next__") hT F.slot_zip_next
        (wpAny_call_entry F.slot_zip_next hT F.entry_zip_next ?_ (F.args_zip_next_1 _))))
      have fin : ∀ h' e, Keeps z TO (r0 :: rs) s.heap h' → IsStop h' e → wpAny (model X.prog X.w) X.A (isInstance (.ref e) (.type "StopIteration") >>= fun b => if b = true then pure none else throw (Value.ref e)) (fun r s1 => r = none ∧ Inv X pins σ H s1) E { s with heap := h' } := fun h' e hk ⟨o, ho, hc⟩ => by
        refine wpAny_bind (wpAny_isInstance (T := "StopIteration") (b := true) ⟨o, ho, hc⟩ isSubtype_stop ?_)
        exact wpAny_pure (stop _ hk)
      rcases Z.st with hz | ⟨T, f, hz, t1, t2, t3⟩
      · exact zipN_stop_first hh D' hz hti hto a0 fun h' e hk he => fin h' e hk he
      · cases hTl : s.heap.get? T with
        | none => exact zipN_stop_dead hh D' hz hTl hti hto a0 fun h' e hk he => fin h' e hk he
        | some oT => exact zipN_stop_held hh D' hz hTl hti a0 fun h' e hk he => fin h' e hk he
  self := fun A i s Q E Z h => by
    have hT : s.TypeIs (.ref z) "zip" := by
      rcases Z.st with hz | ⟨T, f, hz, _⟩
      · exact ⟨_, hz, rfl⟩
      · exact ⟨_, hz, rfl⟩
    exact zip_self hT h

theorem mkRows_l : ∀ (xs : List Sq) (base : Nat), (mkRows base xs).map (·.l) = xs.map (·.1)
  | [], _ => rfl
  | x :: xs, base => by
    show x.1 :: (mkRows (base + 1) xs).map (·.l) = _
    rw [mkRows_l xs]; rfl
def iZipN (K : PySem.W.Frag) (ta : TE) : TI := fun σ H R => ta σ H fun v H1 => ∃ (a : Addr) (as : List Addr) (xss : List (List V)), v = .ref a ∧ (SqT K H1 a (as.map V.ref) ∨ SqL K H1 a (as.map V.ref)) ∧ Paired (fun b xs => H1 b = some (.lst xs)) as xss ∧ R (ItzN as) H1
theorem pi_zipN {X : Cx} {a : Expr} {ta : TE} {x : Str} {px p2 ps q : Pos} (hc : X.calm = true) (hg2 : Gl X "zip") (hm2 : X.mg "zip" = none) (ha : PE X a ta) :
    PI X (.Name x px) (.Call (.Name "zip" p2) [.Starred a ps] [] q) (iZipN X.K ta) := by
  refine ⟨fun pins s σ H R I h => ?_⟩
  refine Call_ (ld_blt I hg2 hm2 PyProof.Rows.boot_zip ?_)
  have hst : starEach [.Starred a ps] X.env = [(true, eval a X.env)] := rfl
  rw [hst]
  refine PySem.W.ks_call (P := fun _ => True) rfl (fun h _ => ⟨.machine, .inr (.inl rfl), PySem.W.Looks.of_pure rfl⟩) (PySem.W.ks_lone (thn (ha.run pins s σ H _ I h) fun v s1 ⟨y, H1, I1, r1, q1⟩ => ?_))
  obtain ⟨aa, as, xss, ex, hx, hp, q1⟩ := q1
  subst ex
  obtain rfl : v = Value.ref aa := r1
  refine StX.star_any I1 hx fun us s2 I2 rv => ⟨trivial, ?_⟩
  have eus : us = as.map Value.ref := by
    clear q1 hx hp
    revert us
    induction as with
    | nil => intro us rv; cases rv; rfl
    | cons r rows ih =>
      intro us rv
      cases rv with
      | cons r0 t => cases r0; rw [List.map_cons, ← ih _ t]
  obtain ⟨its, il, iv, ip⟩ := lists_of I2 hp
  let xs : List Sq := List.zipWith (fun a (us : List Value) => (a, us.toArray, true)) as its
  have xl : xs.length = as.length := by simp [xs, il]
  have xat : ∀ (i : Nat) (x : Sq), xs[i]? = some x → ∃ a us, as[i]? = some a ∧ its[i]? = some us ∧ x = (a, us.toArray, true) := fun i x e => by
    have e : (List.zipWith (fun a (us : List Value) => ((a, us.toArray, true) : Sq)) as its)[i]? = some x := e
    rw [List.getElem?_zipWith] at e
    cases h1 : as[i]? with
    | none => rw [h1] at e; exact nomatch e
    | some a =>
      cases h2 : its[i]? with
      | none => rw [h1, h2] at e; exact nomatch e
      | some us => rw [h1, h2] at e; exact ⟨a, us, rfl, rfl, (Option.some.inj e).symm⟩
  have e1 : xs.map (·.1) = as := by
    apply List.ext_getElem?
    intro i
    rw [List.getElem?_map]
    cases h1 : xs[i]? with
    | none =>
      have := List.getElem?_eq_none_iff.mp h1
      rw [Option.map_none, List.getElem?_eq_none_iff.mpr (by omega)]
    | some x =>
      obtain ⟨a, us, h2, _, rfl⟩ := xat i x h1
      rw [h2]; rfl
  have e2 : ∀ x ∈ xs, SqOk s2.heap x := fun x hx => by
    obtain ⟨i, hi⟩ := List.getElem?_of_mem hx
    obtain ⟨a, us, h1, h2, rfl⟩ := xat i x hi
    exact ip i a us h1 h2
  have hlen : as.length ≤ sizeLine := by
    rcases hx with hx | hx
    · obtain ⟨_, _, _, z⟩ := I2.tuple hx
      simpa using z
    · obtain ⟨_, _, _, z⟩ := I2.list hx
      simpa using z
  show wpAny (model X.prog X.w) X.A (call (.type "zip") ([] ++ us)) _ _ s2
  have e3 : ([] ++ us : List Value) = xs.map fun x => Value.ref x.1 := by rw [List.nil_append, eus, ← e1, List.map_map]; rfl
  rw [e3]
  refine call_zipN (by rw [xl]; exact hlen) e2 fun h2 z TI TO Z => ?_
  have hT : ({ s2 with heap := h2 } : Shared).TypeIs (.ref z) "zip" := ⟨_, Z.zip, rfl⟩
  refine zip_self hT ?_
  have I3 : Inv X pins σ H1 { s2 with heap := h2 } := I2.kept (t' := s2.toks) Z.keep
  have hT2 := turn_zipN (P := X.prog) (w := X.w) (K := X.K) (x := x) (px := px) Z.ap (by rw [mkRows_len, xl]; exact hlen)
  rw [mkRows_l, e1] at hT2
  refine ⟨z, _, _, _, H1, rfl, I3, hT2, ⟨fun _ => Z.zip, Z.ti, Z.to, fun r hr => ?_, .inl Z.zip⟩, fun b hb => ?_, q1⟩
  · have h1 := Z.at' r hr
    obtain ⟨_, _, x, hx', _, _, h4⟩ := mkRows_it hr
    obtain ⟨i, hi⟩ := List.getElem?_of_mem hx'
    obtain ⟨a, us, _, _, rfl⟩ := xat i x hi
    unfold Row.at at h1
    rw [h4] at h1
    exact h1.1
  · have hle : s2.heap.objs.size ≤ b := by
      rcases List.mem_cons.mp hb with rfl | hb
      · exact Z.new.1
      rcases List.mem_cons.mp hb with rfl | hb
      · exact Z.new.2.1
      rcases List.mem_cons.mp hb with rfl | hb
      · exact Z.new.2.2.1
      · obtain ⟨r, hr, rfl⟩ := List.mem_map.mp hb
        exact Z.new.2.2.2 r hr
    exact I2.fpOk hle (I2.hok.fresh hle)
end Rk
end
section
set_option linter.all false
set_option autoImplicit false
set_option maxRecDepth 100000
namespace Rk
open PySem PySem.Spec PyProof.Rows L2
/-! ### zip(*rows) as a source -/
/-- the lists' places -/
def At (ρ : Nat → Option Addr) (ns : List Nat) (as : List Addr) : Prop := Paired (fun n a => ρ n = some a) ns as
section
variable {ρ : Nat → Option Addr} {s : Sto} {H : Hp}
theorem hdsN_eq (i : Nat) (n : Nat) (ns : List Nat) (k : List T → NR) : hdsN s i (n :: ns) k = getO .er s n fun o => onOb o (fun xs => List.rec (motive := fun _ => NR) .er (fun x _ _ => hdsN s i ns fun r => k (x :: r)) (dropK i xs)) fun _ _ => .er := rfl
theorem endN_eq (i : Nat) (n : Nat) (ns : List Nat) : endN s i (n :: ns) = getO .er s n fun o => onOb o (fun xs => lenK xs 0 fun l => Rk.ifB (Nat.beq l i) (endN s i ns) .er) fun _ _ => .er := rfl
/-- all go on, or it errs -/
theorem hdsN_ok (rs : RelS ρ s H) {i : Nat} : ∀ {ns : List Nat} {as : List Addr} {k : List T → NR}, At ρ ns as → hdsN s i ns k = .er ∨ ∃ (hs : List T) (xss : List (List V)), hdsN s i ns k = k hs ∧ Paired (fun a xs => H a = some (.lst xs)) as xss ∧ (∀ xs ∈ xss, i < xs.length) ∧ DenL ρ H hs (xss.map fun xs => xs.getD i .non)
  | [], [], k, .nil => .inr ⟨[], [], rfl, .nil, fun x hx => (nomatch hx), by simp⟩
  | n :: ns, a :: as, k, .cons h t => by
    rw [hdsN_eq, getO_eq]
    cases hn : s.find n with
    | none => exact .inl rfl
    | some o =>
      cases o with
      | d _ _ => exact .inl rfl
      | l ts =>
        obtain ⟨a', ho, h1, h2, h3⟩ := rs.live n _ hn
        obtain ⟨vs, rfl, dl⟩ := h3
        rw [h] at h1; cases h1
        show (List.rec (motive := fun _ => NR) .er (fun x _ _ => hdsN s i ns fun r => k (x :: r)) (dropK i ts) : NR) = .er ∨ _
        cases hd : dropK i ts with
        | nil => exact .inl rfl
        | cons x r =>
          rcases hdsN_ok rs (i := i) (k := fun r => k (x :: r)) t with e | ⟨hs, xss, e1, e2, e3, e4⟩
          · exact .inl e
          · rw [dropK_eq] at hd
            have dd := dl.drop i
            rw [hd, denL_cons] at dd
            obtain ⟨v, q, e, d1, _⟩ := dd
            have g := (drop_cons e).1
            refine .inr ⟨x :: hs, vs :: xss, ?_, .cons h2 e2, fun xs hx => ?_, ?_⟩
            · show (List.rec (motive := fun _ => NR) .er (fun x _ _ => hdsN s i ns fun r => k (x :: r)) (dropK i ts) : NR) = _
              rw [dropK_eq, hd]; exact e1
            · rcases List.mem_cons.mp hx with rfl | hx
              · exact (List.getElem?_eq_some_iff.mp g).1
              · exact e3 xs hx
            · rw [List.map_cons, denL_cons2]
              refine ⟨?_, e4⟩
              rw [List.getD_eq_getElem?_getD, g]; exact d1
theorem endN_ok (rs : RelS ρ s H) {i : Nat} : ∀ {ns : List Nat} {as : List Addr}, At ρ ns as → endN s i ns = .er ∨ (endN s i ns = .done ∧ ∃ xss : List (List V), Paired (fun a xs => H a = some (.lst xs)) as xss ∧ ∀ xs ∈ xss, xs.length = i)
  | [], [], .nil => .inr ⟨rfl, [], .nil, fun x hx => (nomatch hx)⟩
  | n :: ns, a :: as, .cons h t => by
    rw [endN_eq, getO_eq]
    cases hn : s.find n with
    | none => exact .inl rfl
    | some o =>
      cases o with
      | d _ _ => exact .inl rfl
      | l ts =>
        obtain ⟨a', ho, h1, h2, h3⟩ := rs.live n _ hn
        obtain ⟨vs, rfl, dl⟩ := h3
        rw [h] at h1; cases h1
        show lenK ts 0 (fun l => Rk.ifB (Nat.beq l i) (endN s i ns) .er) = .er ∨ (lenK ts 0 (fun l => Rk.ifB (Nat.beq l i) (endN s i ns) .er) = .done ∧ _)
        rw [lenK_eq, Nat.zero_add]
        cases hb : Nat.beq ts.length i with
        | false => exact .inl rfl
        | true =>
          rcases endN_ok rs (i := i) t with e | ⟨e, xss, e2, e3⟩
          · exact .inl e
          · refine .inr ⟨e, vs :: xss, .cons h2 e2, fun xs hx => ?_⟩
            rcases List.mem_cons.mp hx with rfl | hx
            · rw [← dl.length]; exact Nat.eq_of_beq_eq_true hb
            · exact e3 xs hx
theorem paired_uniq {as : List Addr} {xss yss : List (List V)} (h : Paired (fun a xs => H a = some (.lst xs)) as xss) (g : Paired (fun a xs => H a = some (.lst xs)) as yss) : yss = xss := by
  induction h generalizing yss with
  | nil => cases g; rfl
  | cons h1 _ ih =>
    cases g with
    | cons g1 g2 =>
      rw [h1] at g1; cases g1
      rw [ih g2]
end
theorem at_mono {ρ ρ' : Nat → Option Addr} (h : ∀ m a, ρ m = some a → ρ' m = some a) : ∀ {ns : List Nat} {as : List Addr}, At ρ ns as → At ρ' ns as
  | _, _, .nil => .nil
  | _, _, .cons a t => .cons (h _ _ a) (at_mono h t)
theorem serves_zips {ρ0 : Nat → Option Addr} {H0 : Hp} {F : Addr → Prop} {ns : List Nat} {as : List Addr} (ha : At ρ0 ns as) : ∀ (n i : Nat), Serves n (ItzN as) i (.zips ns i) ρ0 H0 F
  | 0, i => trivial
  | n + 1, i => fun ρ s H wk rs => by
    have ha' := at_mono wk.le ha
    have e1 : step (.zips ns i) s = zipsK ns i s := rfl
    rw [e1]
    cases ns with
    | nil =>
      cases as with
      | nil => exact ⟨[], .nil, fun x hx => (nomatch hx)⟩
      | cons _ _ => cases ha
    | cons n0 ns =>
      cases as with
      | nil => cases ha
      | cons a0 as =>
        have e2 : zipsK (n0 :: ns) i s = getO .er s n0 fun o => onOb o (fun xs => List.rec (motive := fun _ => NR) (endN s i (n0 :: ns)) (fun _ _ _ => hdsN s i (n0 :: ns) fun hs => .it (.tup hs) (.zips (n0 :: ns) (Nat.succ i))) (dropK i xs)) fun _ _ => .er := rfl
        rw [e2, getO_eq]
        cases hn : s.find n0 with
        | none => trivial
        | some o =>
          cases o with
          | d _ _ => trivial
          | l ts =>
            show match (List.rec (motive := fun _ => NR) (endN s i (n0 :: ns)) (fun _ _ _ => hdsN s i (n0 :: ns) fun hs => .it (.tup hs) (.zips (n0 :: ns) (Nat.succ i))) (dropK i ts) : NR) with | .er => True | .done => _ | .it t src' => _
            cases hd : dropK i ts with
            | nil =>
              show match endN s i (n0 :: ns) with | .er => True | .done => _ | .it t src' => _
              rcases endN_ok rs (i := i) ha' with e | ⟨e, xss, e2, e3⟩
              · rw [e]; trivial
              · rw [e]; exact ⟨xss, e2, e3⟩
            | cons x r =>
              show match hdsN s i (n0 :: ns) fun hs => .it (.tup hs) (.zips (n0 :: ns) (Nat.succ i)) with | .er => True | .done => _ | .it t src' => _
              rcases hdsN_ok rs (i := i) (k := fun hs => .it (.tup hs) (.zips (n0 :: ns) (Nat.succ i))) ha' with e | ⟨hs, xss, e, e2, e3, e4⟩
              · rw [e]; trivial
              · rw [e]
                refine ⟨⟨fun z => (nomatch z), xss, e2, e3⟩, fun v H' hv => ?_, serves_zips ha n (i + 1)⟩
                obtain ⟨T, yss, rfl, hT, hy, rfl⟩ := hv
                have := paired_uniq e2 hy
                subst this
                have ex : Ext ρ s H ρ s (upd H T (.tup (yss.map fun xs => xs.getD i .non))) := Ext.fresh hT
                refine ⟨ex, rs.fresh hT, ?_⟩
                rw [den_tup]
                exact ⟨T, _, rfl, upd_same, e4.ext rs ex⟩
theorem refsK_ok {ρ s H} (rs : RelS ρ s H) {H00 : Hp} {R : It → Hp → Prop} : ∀ {ts : List T} {vs : List V} {k : List Nat → IR}, DenL ρ H ts vs → PostI H00 ρ s H (refsK s ts k) R → ∃ (ns : List Nat) (as : List Addr) (xss : List (List V)), vs = as.map V.ref ∧ At ρ ns as ∧ Paired (fun a xs => H a = some (.lst xs)) as xss ∧ PostI H00 ρ s H (k ns) R
  | [], vs, k, d, h => by
    rw [denL_nil] at d
    exact ⟨[], [], [], d, .nil, .nil, h⟩
  | t :: ts, vs, k, d, h => by
    rw [denL_cons] at d
    obtain ⟨v, r, rfl, d1, d2⟩ := d
    cases t with
    | ref n =>
      have h : PostI H00 ρ s H (getO .er s n fun o => onOb o (fun _ => refsK s ts fun r => k (n :: r)) fun _ _ => .er) R := h
      rw [getO_eq] at h
      cases hn : s.find n with
      | none => rw [hn] at h; exact (show False from h).elim
      | some o =>
        rw [hn] at h
        cases o with
        | d _ _ => exact (show False from h).elim
        | l us =>
          obtain ⟨a, ws, rfl, hr, ha, dl⟩ := rs.lst hn d1
          obtain ⟨ns, as, xss, e1, e2, e3, e4⟩ := refsK_ok rs (k := fun r => k (n :: r)) d2 h
          exact ⟨n :: ns, a :: as, ws :: xss, by rw [e1]; rfl, .cons hr e2, .cons ha e3, e4⟩
    | _ => exact (show False from h).elim
theorem zipN_rd {c : Cf} {K : PySem.W.Frag} {A : Ev} (σ : L2.St) (H : Hp) (R : It → Hp → Prop) (h : rdI c (iZips A) σ H R) : iZipN K (rdE c A) σ H R := by
  obtain ⟨ρ, e, s, rs, re, h⟩ := h
  refine ⟨ρ, e, s, rs, re, ?_⟩
  have h : PostI H ρ s H (seqR true .er (A c e s) fun xs s => refsK s xs fun ns => .ok (.zips ns 0) s) R := h
  have no : ∀ {H' : Hp} {ρ' : Nat → Option Addr} (a : Addr), (fun _ : Addr => False) a → H a = none ∧ H' a ≠ none ∧ ∀ m, ρ' m ≠ some a := fun a h => h.elim
  have fin : ∀ {ρ' : Nat → Option Addr} {s' : Sto} {H' : Hp} {ts : List T} {vs : List V} {a : Addr}, RelS ρ' s' H' → DenL ρ' H' ts vs → (SqT K H' a vs ∨ SqL K H' a vs) → PostI H ρ' s' H' (refsK s' ts fun ns => .ok (.zips ns 0) s') R →
      ∃ (b : Addr) (as : List Addr) (xss : List (List V)), V.ref a = .ref b ∧ (SqT K H' b (as.map V.ref) ∨ SqL K H' b (as.map V.ref)) ∧ Paired (fun b xs => H' b = some (.lst xs)) as xss ∧ R (ItzN as) H' := fun {ρ' s' H' ts vs a} rr dl hq h => by
    obtain ⟨ns, as, xss, rfl, h1, h2, h3⟩ := refsK_ok rr dl h
    exact ⟨a, as, xss, rfl, hq, h2, h3 ρ' H' _ (fun _ => False) Ext.refl rr no fun n => serves_zips h1 n 0⟩
  cases hm : A c e s with
  | er => rw [hm] at h; exact h
  | v t s' =>
    rw [hm] at h
    intro ρ' H' v ex rr d
    have h : PostI H ρ s H (seqT true t s' .er fun xs => refsK s' xs fun ns => .ok (.zips ns 0) s') R := h
    have h := h.step rs rr ex
    cases t with
    | tup ts =>
      rw [den_tup] at d
      obtain ⟨a, vs, rfl, ha, dl⟩ := d
      exact fin rr dl (.inl (.of ha)) h
    | ref n =>
      have h : PostI H ρ' s' H' (getO .er s' n fun o => onOb o (fun xs => refsK s' xs fun ns => .ok (.zips ns 0) s') fun _ _ => .er) R := h
      rw [getO_eq] at h
      cases hn : s'.find n with
      | none => rw [hn] at h; exact (show False from h).elim
      | some o =>
        rw [hn] at h
        cases o with
        | d _ _ => exact (show False from h).elim
        | l ts =>
          obtain ⟨a, vs, rfl, _, ha, dl⟩ := rr.lst hn d
          exact fin rr dl (.inr (.of ha)) h
    | _ => exact (show False from h).elim
  | nl ts s' =>
    rw [hm] at h
    intro ρ' H' a ex rr d
    have h : PostI H ρ s H (refsK s' ts fun ns => .ok (.zips ns 0) s') R := h
    have h := h.step rs rr ex
    obtain ⟨_, _, vs, ha, dl⟩ := d
    exact fin rr dl (.inr (.of ha)) h
end Rk
end
section
set_option linter.all false
set_option autoImplicit false
set_option maxRecDepth 100000
namespace Rk
open PySem PySem.Spec PyProof.Rows L2

/-! ### comprehensions -/
noncomputable def unset1 (i : Nat) (σ : En) : En := En.rec (motive := fun _ => Nat → En) (fun _ => .nil) (fun r ihr i => Nat.rec (motive := fun _ => En) (.u r) (fun j _ => .u (ihr j)) i) (fun t r ihr i => Nat.rec (motive := fun _ => En) (.u r) (fun j _ => .b t (ihr j)) i) σ i
theorem unset_ok {ρ H} : ∀ {σ : En} {i : Nat} {st : L2.St}, RelE ρ H σ st → RelE ρ H (unset1 i σ) (st.set i none)
  | .nil, i, st, h => by have h : st = [] := h; subst h; exact rfl
  | .u r, 0, st, h => by obtain ⟨x, q, rfl, h⟩ := h; exact ⟨none, q, rfl, h⟩
  | .u r, i + 1, st, h => by obtain ⟨x, q, rfl, h⟩ := h; exact ⟨x, _, rfl, unset_ok (σ := r) h⟩
  | .b t r, 0, st, h => by obtain ⟨x, q, rfl, d, h⟩ := h; exact ⟨none, q, rfl, h⟩
  | .b t r, i + 1, st, h => by obtain ⟨x, q, rfl, d, h⟩ := h; exact ⟨x, _, rfl, d, unset_ok (σ := r) h⟩
theorem wip_ok {ρ H} {σ : En} {st : L2.St} (h : RelE ρ H σ st) : ∀ own : List Nat, RelE ρ H (wip own σ) (wipe st own)
  | [] => h
  | i :: own => unset_ok (σ := wip own σ) (i := i) (wip_ok h own)
/-- a target that writes slots of own alone -/
structure TGw (c : Cf) (own : List Nat) (g : Gv) (tg : TG) : Prop where
  mono : ∀ {x σ H} {Q Q' : L2.St → Hp → Prop}, tg x σ H Q → (∀ σ' H', Q σ' H' → Q' σ' H') → tg x σ H Q'
  to : ∀ x σ H (Q : L2.St → Hp → Prop), rdG c g x σ H Q → tg x σ H fun σ2 H2 => wipe σ2 own = wipe σ own ∧ Q σ2 H2
structure TGsw (c : Cf) (own : List Nat) (g : Gs) (tg : TGs) : Prop where
  mono : ∀ {x σ H} {Q Q' : L2.St → Hp → Prop}, tg x σ H Q → (∀ σ' H', Q σ' H' → Q' σ' H') → tg x σ H Q'
  to : ∀ x σ H (Q : L2.St → Hp → Prop), rdGs c g x σ H Q → tg x σ H fun σ2 H2 => wipe σ2 own = wipe σ own ∧ Q σ2 H2
theorem wipe_set {σ : L2.St} {i : Nat} {v : Option V} : ∀ {own : List Nat}, i ∈ own → wipe (σ.set i v) own = wipe σ own
  | j :: own, h => by
    show (wipe (σ.set i v) own).set j none = (wipe σ own).set j none
    by_cases hm : i ∈ own
    · rw [wipe_set hm]
    · have hij : i = j := by
        rcases List.mem_cons.mp h with e | e
        · exact e
        · exact absurd e hm
      subst hij
      have key : ∀ own : List Nat, i ∉ own → wipe (σ.set i v) own = (wipe σ own).set i v := by
        intro own
        induction own with
        | nil => intro _; rfl
        | cons k own ih =>
          intro hk
          simp only [List.mem_cons, not_or] at hk
          show (wipe (σ.set i v) own).set k none = ((wipe σ own).set k none).set i v
          rw [ih hk.2, List.set_comm _ _ hk.1]
      rw [key own hm, List.set_set]
theorem tgw_name {c : Cf} {own : List Nat} {i : Nat} (h : i ∈ own) : TGw c own (gN i) (gName i) :=
  ⟨fun h i => i _ _ h, fun x σ H Q q => ⟨wipe_set h, gname_rd _ _ _ _ q⟩⟩
theorem tgsw_nil {c : Cf} {own : List Nat} : TGsw c own gsNil gNil := ⟨fun h i => ⟨h.1, i _ _ h.2⟩, fun x σ H Q q => by
  obtain ⟨e, q⟩ := gs_nil_rd q
  exact ⟨e, rfl, q⟩⟩
theorem tgsw_cons {c : Cf} {own : List Nat} {g : Gv} {r : Gs} {tg : TG} {tr : TGs} (h1 : TGw c own g tg) (h2 : TGsw c own r tr) : TGsw c own (gsCons g r) (gCons tg tr) :=
  ⟨fun ⟨v, q, e, h⟩ i => ⟨v, q, e, h1.mono h fun _ _ h => h2.mono h i⟩, fun x σ H Q q => by
    obtain ⟨v, qq, e, h⟩ := gcons_rd _ _ _ _ q
    refine ⟨v, qq, e, h1.mono (h1.to _ _ _ _ h) fun σ2 H2 ⟨w, h⟩ => h2.mono (h2.to _ _ _ _ h) fun σ3 H3 ⟨w2, h⟩ => ⟨w2.trans w, h⟩⟩⟩
theorem tgw_tup {c : Cf} {own : List Nat} {g : Gs} {tr : TGs} {n : Nat} {K : PySem.W.Frag} (hl : GsLen g n) (h : TGsw c own g tr) : TGw c own (gT g) (gTup K n tr) :=
  ⟨fun ⟨a, xs, e, s, l, h1⟩ i => ⟨a, xs, e, s, l, h.mono h1 i⟩, fun x σ H Q q => by
    obtain ⟨a, xs, e, s, l, h1⟩ := gtup_rd (K := K) hl _ _ _ _ q
    exact ⟨a, xs, e, s, l, h.to _ _ _ _ h1⟩⟩
theorem tgw_bad {c : Cf} {own : List Nat} : TGw c own gBad fun _ _ _ _ => False := ⟨fun h _ => h.elim, fun x σ H Q ⟨_, _, _, _, _, _, _, h⟩ => h⟩

section
variable {P0 : LR → Prop} {ρ : Nat → Option Addr} {s : Sto} {H : Hp}
/-- what is wanted of the whole walk, wherever it is looked at -/
theorem bnd0 (ne : ¬ P0 .er) {m : Res} {k : T → Sto → LR} (r : RelS ρ s H) (h : P0 (bnd .er m k)) : Post ρ s H m fun v H' => ∃ ρ' s' t, Ext ρ s H ρ' s' H' ∧ RelS ρ' s' H' ∧ Den ρ' H' t v ∧ P0 (k t s') :=
  bnd_gen (P := fun _ _ _ m => P0 m) ⟨fun _ _ _ h => h⟩ (fun _ _ _ => ne) r h
theorem bndT0 (ne : ¬ P0 .er) {m : TR} {k : Bool → Sto → LR} (r : RelS ρ s H) (h : P0 (bndT .er m k)) : PostT ρ s H m fun b H' => ∃ ρ' s', Ext ρ s H ρ' s' H' ∧ RelS ρ' s' H' ∧ P0 (k b s') :=
  bndT_gen (P := fun _ _ _ m => P0 m) ⟨fun _ _ _ h => h⟩ (fun _ _ _ => ne) r h
theorem bndG0 (ne : ¬ P0 .er) {m : GR} {k : En → Sto → LR} (r : RelS ρ s H) (h : P0 (bndG .er m k)) : PostG ρ s H m fun σ' H' => ∃ ρ' s' e', Ext ρ s H ρ' s' H' ∧ RelS ρ' s' H' ∧ RelE ρ' H' e' σ' ∧ P0 (k e' s') :=
  bndG_gen (P := fun _ _ _ m => P0 m) ⟨fun _ _ _ h => h⟩ (fun _ _ _ => ne) r h
end
/-- the new list at D: apart from the store, its items are acc's, from the back; room for z more -/
structure Acc (ρ : Nat → Option Addr) (H : Hp) (D : Addr) (acc : List T) (z : Nat) : Prop where
  ap : ∀ k, ρ k ≠ some D
  it : ∃ ws, H D = some (.lst ws) ∧ DenL ρ H acc.reverse ws ∧ ws.length + z ≤ 16000000
theorem Acc.step {ρ s H ρ1 s1 H1 D acc z} (a : Acc ρ H D acc z) (r : RelS ρ s H) (e : Ext ρ s H ρ1 s1 H1) : Acc ρ1 H1 D acc z := by
  obtain ⟨ws, h1, h2, h3⟩ := a.it
  refine ⟨fun k hk => ?_, ws, e.fr D _ h1 fun ⟨m, _, _, q⟩ => a.ap m q, h2.ext r e, h3⟩
  cases q : ρ k with
  | some b => have := e.le k b q; rw [hk] at this; cases this; exact a.ap k q
  | none => have := e.new k D q hk; rw [h1] at this; cases this
theorem upd_D {ρ s H D} {o : HO} (r : RelS ρ s H) (ap : ∀ k, ρ k ≠ some D) {ws : List V} (h : H D = some (.lst ws)) :
    RelS ρ s (upd H D o) ∧ (∀ t v, Den ρ H t v → Den ρ (upd H D o) t v) ∧ ∀ t v, DenL ρ H t v → DenL ρ (upd H D o) t v := by
  have tp : ∀ a xs, H a = some (.tup xs) → upd H D o a = some (.tup xs) := fun a xs q => by
    rw [upd_ne]
    · exact q
    · rintro rfl; rw [h] at q; cases q
  have dm := den_mono_both (ρ := ρ) (H := H) (H' := upd H D o) (fun _ _ h => h) tp
  have ne : ∀ m a, ρ m = some a → upd H D o a = H a := fun m a q => upd_ne fun z => ap m (by rw [q, z])
  refine ⟨⟨r.dom, r.def_, r.inj, fun m a q => by rw [ne m a q]; exact r.trk m a q, fun m ob q => ?_⟩, dm.1, dm.2⟩
  obtain ⟨a, ho, h1, h2, h3⟩ := r.live m ob q
  exact ⟨a, ho, h1, by rw [ne m a h1]; exact h2, h3.mono dm.1 dm.2⟩
theorem Ext.updD {ρ0 s0 H0 ρ s H D} {o : HO} (e : Ext ρ0 s0 H0 ρ s H) (h : H0 D = none) : Ext ρ0 s0 H0 ρ s (upd H D o) := by
  refine ⟨e.le, e.n, e.new, e.old, fun a u q n => ?_, fun a q => ?_⟩
  · rw [upd_ne]
    · exact e.fr a u q n
    · rintro rfl; rw [h] at q; cases q
  · by_cases z : a = D
    · subst z; rw [upd_same]; exact fun z => nomatch z
    · rw [upd_ne z]; exact e.dom a q
theorem Wk.updD {ρ0 H0 F ρ H D} {o : HO} (w : Wk ρ0 H0 F ρ H) {ws : List V} (h : H D = some (.lst ws)) (hF : ¬ F D) : Wk ρ0 H0 F ρ (upd H D o) := by
  refine ⟨w.le, fun a xs q => ?_, fun a ha => ⟨?_, (w.fx a ha).2⟩⟩
  · rw [upd_ne]
    · exact w.tp a xs q
    · rintro rfl
      have := w.tp _ xs q
      rw [h] at this; cases this
  · rw [upd_ne]
    · exact (w.fx a ha).1
    · rintro rfl; exact hF ha
theorem Acc.push {ρ s H D acc z} {t : T} {v : V} (a : Acc ρ H D acc (z + 1)) (r : RelS ρ s H) (d : Den ρ H t v) : ∃ ws, H D = some (.lst ws) ∧ ws.length < sizeLine ∧ Acc ρ (upd H D (.lst (ws ++ [v]))) D (t :: acc) z := by
  obtain ⟨ws, h1, h2, h3⟩ := a.it
  obtain ⟨_, u1, u2⟩ := upd_D (o := .lst (ws ++ [v])) r a.ap h1
  refine ⟨ws, h1, by rw [sizeLine_eq]; omega, a.ap, ws ++ [v], upd_same, ?_, by rw [List.length_append, List.length_singleton]; omega⟩
  rw [List.reverse_cons]
  exact (u2 _ _ h2).append (.one (u1 _ _ d))
theorem wipe_wipe (σ : L2.St) (own : List Nat) : wipe (wipe σ own) own = wipe σ own := by
  have : ∀ own : List Nat, ∀ o2 : List Nat, (∀ i ∈ o2, i ∈ own) → wipe (wipe σ own) o2 = wipe σ own := by
    intro own o2
    induction o2 with
    | nil => intro _; rfl
    | cons j o2 ih =>
      intro hj
      show (wipe (wipe σ own) o2).set j none = wipe σ own
      rw [ih fun i hi => hj i (List.mem_cons_of_mem _ hi)]
      have hjo := hj j List.mem_cons_self
      clear ih hj
      induction own with
      | nil => cases hjo
      | cons k own ih2 =>
        show ((wipe σ own).set k none).set j none = (wipe σ own).set k none
        by_cases hk : j = k
        · subst hk; rw [List.set_set]
        · rcases List.mem_cons.mp hjo with z | z
          · exact absurd z hk
          · rw [List.set_comm _ _ (Ne.symm hk), ih2 z]
  exact this own own fun _ h => h
theorem comp_rd {c : Cf} {own : List Nat} {elt : Ev} {g : Gv} {tg : TG} {I : Iv} {t : Tv} (hg : TGw c own g tg) (σ : L2.St) (H : Hp) (Q : VK) (h : rdE c (eComp own elt g I t) σ H Q) : tLc (rdI c I) tg (rdT c t) (rdE c elt) own σ H Q := by
  obtain ⟨ρ, e, s, rs, re, h⟩ := h
  refine ⟨ρ, e, s, rs, re, ?_⟩
  have h : Post ρ s H (IR.rec (motive := fun _ => Res) .er (fun src s => bndL .er (cmpN elt g t c (wip own e) 10000000 src 16000000 [] s fun _ acc s => .ok acc s) fun acc s => revK acc [] fun r => .nl r s) (I c e s)) Q := h
  cases hm : I c e s with
  | er => rw [hm] at h; exact h
  | ok src s1 =>
    rw [hm] at h
    intro ρ1 H1 J F ex1 r1 hf sv D hD
    have h : Post ρ s H (bndL .er (cmpN elt g t c (wip own e) 10000000 src 16000000 [] s1 fun _ acc s => .ok acc s) fun acc s => revK acc [] fun r => .nl r s) Q := h
    have h := h.step rs r1 ex1
    generalize hP : (fun m : LR => Post ρ1 s1 H1 (bndL .er m fun acc s => revK acc [] fun r => .nl r s) Q) = P0
    have ne : ¬ P0 .er := by rw [← hP]; exact id
    have h : P0 (cmpN elt g t c (wip own e) 10000000 src 16000000 [] s1 fun _ acc s => .ok acc s) := by rw [← hP]; exact h
    have fin : ∀ {ρ s H acc z}, Ext ρ1 s1 H1 ρ s H → RelS ρ s H → Acc ρ H D acc z → P0 (.ok acc s) → Q (.ref D) H := fun {ρ s H acc z} e r a h => by
      rw [← hP] at h
      have h : Post ρ1 s1 H1 (revK acc [] fun r => .nl r s) Q := h
      rw [revK_eq, List.append_nil] at h
      obtain ⟨ws, k1, k2, _⟩ := a.it
      exact h ρ H D e r ⟨hD, a.ap, ws, k1, k2⟩
    have rw1 := wip_ok (re.ext rs ex1) own
    have hFD : ¬ F D ∨ True := .inr trivial
    have ap1 : ∀ k, ρ1 k ≠ some D := fun k q => r1.trk k D q hD
    have nF : ¬ F D := fun z => (hf D z).2.1 hD
    have ex0 : Ext ρ1 s1 H1 ρ1 s1 (upd H1 D (.lst [])) := Ext.fresh hD
    refine ⟨fun i m H => ∃ ρ s src z acc, Ext ρ1 s1 H1 ρ s H ∧ Wk ρ1 H1 F ρ H ∧ RelS ρ s H ∧ RelE ρ H (wip own e) (wipe σ own) ∧ Serves m J i src ρ1 H1 F ∧ Acc ρ H D acc z ∧ P0 (cmpN elt g t c (wip own e) m src z acc s fun _ acc s => .ok acc s),
      ⟨10000000, ρ1, s1, src, 16000000, [], ex0, (Wk.refl fun a ha => (hf a ha).2).step r1 ex0, r1.fresh hD, rw1.ext r1 ex0, sv _, ⟨ap1, [], upd_same, by simp, by simp⟩, h⟩, ?_⟩
    rintro i m H ⟨ρ, s, src, z, acc, ex, wk, rs, re, sv, ac, h⟩
    cases m with
    | zero => exact (ne h).elim
    | succ m =>
      have h : P0 (NR.rec (motive := fun _ => LR) .er (.ok acc s) (fun x src => bndG .er (g x c (wip own e) s) fun e' s => bndT .er (t c e' s) fun b s => Rk.ifB b
        (bnd .er (elt c e' s) fun y s => Nat.rec (motive := fun _ => LR) .er (fun z _ => cmpN elt g t c (wip own e) m src z (y :: acc) s fun _ acc s => .ok acc s) z) (cmpN elt g t c (wip own e) m src z acc s fun _ acc s => .ok acc s)) (step src s)) := h
      have sv := sv ρ s H wk rs
      cases hst : step src s with
      | er => rw [hst] at h; exact (ne h).elim
      | done => rw [hst] at h sv; exact .inl ⟨sv, fin ex rs ac h⟩
      | it x0 src' =>
        rw [hst] at h sv
        obtain ⟨v1, v2, v3⟩ := sv
        refine .inr ⟨v1, fun H => ∃ ρ s z acc, Ext ρ1 s1 H1 ρ s H ∧ Wk ρ1 H1 F ρ H ∧ RelS ρ s H ∧ RelE ρ H (wip own e) (wipe σ own) ∧ Acc ρ H D acc z ∧ P0 (cmpN elt g t c (wip own e) m src' z acc s fun _ acc s => .ok acc s), fun H' ⟨ρ, s, z, acc, w1, w2, w3, w4, w5, w6⟩ => ⟨m, Nat.lt_succ_self m, ρ, s, src', z, acc, w1, w2, w3, w4, v3, w5, w6⟩, fun x H2 y => ?_⟩
        obtain ⟨x1, r2, dx⟩ := v2 x H2 y
        have ex2 := ex.trans r1 rs x1
        have wk2 := wk.step rs x1
        have ac2 := ac.step rs x1
        have re2 := re.ext rs x1
        refine hg.mono (hg.to _ _ _ _ ⟨ρ, wip own e, s, x0, r2, re2, dx, bndG0 ne r2 h⟩) ?_
        rintro σ3 H3 ⟨hw, ρ3, s3, e3, x3, r3, re3, p3⟩
        refine ⟨hw.trans (wipe_wipe σ own), ρ3, e3, s3, r3, re3, (bndT0 ne r3 p3).mono fun b H4 ⟨ρ4, s4, x4, r4, p4⟩ => ?_⟩
        have ex4 := (ex2.trans r1 r2 x3).trans r1 r3 x4
        have wk4 := (wk2.step r2 x3).step r3 x4
        have ac4 := (ac2.step r2 x3).step r3 x4
        have re4 := (re2.ext r2 x3).ext r3 x4
        cases b with
        | false => exact ⟨ρ4, s4, z, acc, ex4, wk4, r4, re4, ac4, p4⟩
        | true =>
          refine ⟨ρ4, e3, s4, r4, re3.ext r3 x4, (bnd0 ne r4 p4).mono fun y5 H5 ⟨ρ5, s5, t5, x5, r5, d5, p5⟩ => ?_⟩
          have ex5 := ex4.trans r1 r4 x5
          have wk5 := wk4.step r4 x5
          have ac5 := ac4.step r4 x5
          have re5 := re4.ext r4 x5
          cases z with
          | zero => exact (ne p5).elim
          | succ z =>
            obtain ⟨ws, k1, k2, k3⟩ := ac5.push r5 d5
            obtain ⟨u0, u1, _⟩ := upd_D (o := .lst (ws ++ [y5])) r5 ac5.ap k1
            exact ⟨ws, k1, k2, ρ5, s5, z, t5 :: acc, ex5.updD hD, wk5.updD k1 nF, u0, re5.mono u1, k3, p5⟩
theorem comp2_rd {c : Cf} {own own1 : List Nat} {elt : Ev} {g g1 : Gv} {tg tg1 : TG} {I I1 : Iv} {t t1 : Tv} (hg : TGw c own g tg) (hg1 : TGw c own1 g1 tg1) (σ : L2.St) (H : Hp) (Q : VK) (h : rdE c (eComp2 own own1 elt g I t g1 I1 t1) σ H Q) : tLc2 (rdI c I) tg (rdT c t) (rdI c I1) tg1 (rdT c t1) (rdE c elt) own own1 σ H Q := by
  obtain ⟨ρ, e, s, rs, re, h⟩ := h
  refine ⟨ρ, e, s, rs, re, ?_⟩
  have h : Post ρ s H (IR.rec (motive := fun _ => Res) .er (fun src s => bndL .er (cmpN2 elt g t own1 g1 I1 t1 c (wip own e) 10000000 src 16000000 [] s) fun acc s => revK acc [] fun r => .nl r s) (I c e s)) Q := h
  cases hm : I c e s with
  | er => rw [hm] at h; exact h
  | ok src s1 =>
    rw [hm] at h
    intro ρ1 H1 J F ex1 r1 hf sv D hD
    have h : Post ρ s H (bndL .er (cmpN2 elt g t own1 g1 I1 t1 c (wip own e) 10000000 src 16000000 [] s1) fun acc s => revK acc [] fun r => .nl r s) Q := h
    have h := h.step rs r1 ex1
    generalize hP : (fun m : LR => Post ρ1 s1 H1 (bndL .er m fun acc s => revK acc [] fun r => .nl r s) Q) = P0
    have ne : ¬ P0 .er := by rw [← hP]; exact id
    have h : P0 (cmpN2 elt g t own1 g1 I1 t1 c (wip own e) 10000000 src 16000000 [] s1) := by rw [← hP]; exact h
    have fin : ∀ {ρ s H acc z}, Ext ρ1 s1 H1 ρ s H → RelS ρ s H → Acc ρ H D acc z → P0 (.ok acc s) → Q (.ref D) H := fun {ρ s H acc z} e r a h => by
      rw [← hP] at h
      have h : Post ρ1 s1 H1 (revK acc [] fun r => .nl r s) Q := h
      rw [revK_eq, List.append_nil] at h
      obtain ⟨ws, k1, k2, _⟩ := a.it
      exact h ρ H D e r ⟨hD, a.ap, ws, k1, k2⟩
    have rw1 := wip_ok (re.ext rs ex1) own
    have ap1 : ∀ k, ρ1 k ≠ some D := fun k q => r1.trk k D q hD
    have nF : ¬ F D := fun z => (hf D z).2.1 hD
    have ex0 : Ext ρ1 s1 H1 ρ1 s1 (upd H1 D (.lst [])) := Ext.fresh hD
    refine ⟨fun i m H => ∃ ρ s src z acc, Ext ρ1 s1 H1 ρ s H ∧ Wk ρ1 H1 F ρ H ∧ RelS ρ s H ∧ RelE ρ H (wip own e) (wipe σ own) ∧ Serves m J i src ρ1 H1 F ∧ Acc ρ H D acc z ∧ P0 (cmpN2 elt g t own1 g1 I1 t1 c (wip own e) m src z acc s),
      ⟨10000000, ρ1, s1, src, 16000000, [], ex0, (Wk.refl fun a ha => (hf a ha).2).step r1 ex0, r1.fresh hD, rw1.ext r1 ex0, sv _, ⟨ap1, [], upd_same, by simp, by simp⟩, h⟩, ?_⟩
    rintro i m H ⟨ρ, s, src, z, acc, ex, wk, rs, re, sv, ac, h⟩
    cases m with
    | zero => exact (ne h).elim
    | succ m =>
      have h : P0 (NR.rec (motive := fun _ => LR) .er (.ok acc s) (fun x src => bndG .er (g x c (wip own e) s) fun e' s => bndT .er (t c e' s) fun b s => Rk.ifB b
        (IR.rec (motive := fun _ => LR) .er (fun src1 s => cmpN elt g1 t1 c (wip own1 e') 10000000 src1 z acc s fun z acc s => cmpN2 elt g t own1 g1 I1 t1 c (wip own e) m src z acc s) (I1 c e' s)) (cmpN2 elt g t own1 g1 I1 t1 c (wip own e) m src z acc s)) (step src s)) := h
      have sv := sv ρ s H wk rs
      cases hst : step src s with
      | er => rw [hst] at h; exact (ne h).elim
      | done => rw [hst] at h sv; exact .inl ⟨sv, fin ex rs ac h⟩
      | it x0 src' =>
        rw [hst] at h sv
        obtain ⟨v1, v2, v3⟩ := sv
        refine .inr ⟨v1, fun H => ∃ ρ s z acc, Ext ρ1 s1 H1 ρ s H ∧ Wk ρ1 H1 F ρ H ∧ RelS ρ s H ∧ RelE ρ H (wip own e) (wipe σ own) ∧ Acc ρ H D acc z ∧ P0 (cmpN2 elt g t own1 g1 I1 t1 c (wip own e) m src' z acc s), fun H' ⟨ρ, s, z, acc, w1, w2, w3, w4, w5, w6⟩ => ⟨m, Nat.lt_succ_self m, ρ, s, src', z, acc, w1, w2, w3, w4, v3, w5, w6⟩, fun x H2 y => ?_⟩
        obtain ⟨x1, r2, dx⟩ := v2 x H2 y
        have ex2 := ex.trans r1 rs x1
        have wk2 := wk.step rs x1
        have ac2 := ac.step rs x1
        have re2 := re.ext rs x1
        refine hg.mono (hg.to _ _ _ _ ⟨ρ, wip own e, s, x0, r2, re2, dx, bndG0 ne r2 h⟩) ?_
        rintro σ3 H3 ⟨hw, ρ3, s3, e3, x3, r3, re3, p3⟩
        refine ⟨hw.trans (wipe_wipe σ own), ρ3, e3, s3, r3, re3, (bndT0 ne r3 p3).mono fun b H4 ⟨ρ4, s4, x4, r4, p4⟩ => ?_⟩
        have ex4 := (ex2.trans r1 r2 x3).trans r1 r3 x4
        have wk4 := (wk2.step r2 x3).step r3 x4
        have ac4 := (ac2.step r2 x3).step r3 x4
        have re4 := (re2.ext r2 x3).ext r3 x4
        have re34 := re3.ext r3 x4
        cases b with
        | false => exact ⟨ρ4, s4, z, acc, ex4, wk4, r4, re4, ac4, p4⟩
        | true =>
          have p4 : P0 (IR.rec (motive := fun _ => LR) .er (fun src1 s => cmpN elt g1 t1 c (wip own1 e3) 10000000 src1 z acc s fun z acc s => cmpN2 elt g t own1 g1 I1 t1 c (wip own e) m src' z acc s) (I1 c e3 s4)) := p4
          refine ⟨ρ4, e3, s4, r4, re34, ?_⟩
          cases hm1 : I1 c e3 s4 with
          | er => rw [hm1] at p4; exact (ne p4).elim
          | ok src1 s5 =>
            rw [hm1] at p4
            intro ρ5 H5 J1 F1 x5 r5 hf1 sv1
            have ex5 := ex4.trans r1 r4 x5
            have wk5 := wk4.step r4 x5
            have ac5 := ac4.step r4 x5
            have re5 := re4.ext r4 x5
            have rwi := wip_ok (re34.ext r4 x5) own1
            have nF1 : ¬ F1 D := fun z => by
              have := (hf1 D z).1
              obtain ⟨ws, k1, _⟩ := ac4.it
              rw [k1] at this; cases this
            refine ⟨fun j k H => ∃ ρ s src1 z acc, Ext ρ1 s1 H1 ρ s H ∧ Wk ρ1 H1 F ρ H ∧ Wk ρ5 H5 F1 ρ H ∧ RelS ρ s H ∧ RelE ρ H (wip own e) (wipe σ own) ∧ RelE ρ H (wip own1 e3) (wipe σ3 own1) ∧ Serves k J1 j src1 ρ5 H5 F1 ∧ Acc ρ H D acc z ∧ P0 (cmpN elt g1 t1 c (wip own1 e3) k src1 z acc s fun z acc s => cmpN2 elt g t own1 g1 I1 t1 c (wip own e) m src' z acc s),
              ⟨10000000, ρ5, s5, src1, z, acc, ex5, wk5, Wk.refl fun a ha => (hf1 a ha).2, r5, re5, rwi, sv1 _, ac5, p4⟩, ?_⟩
            rintro j k H ⟨ρ, s, src1, z, acc, ex, wk, wk1, rs, re, rei, sv, ac, h⟩
            cases k with
            | zero => exact (ne h).elim
            | succ k =>
              have h : P0 (NR.rec (motive := fun _ => LR) .er (cmpN2 elt g t own1 g1 I1 t1 c (wip own e) m src' z acc s) (fun x src => bndG .er (g1 x c (wip own1 e3) s) fun e' s => bndT .er (t1 c e' s) fun b s => Rk.ifB b
                (bnd .er (elt c e' s) fun y s => Nat.rec (motive := fun _ => LR) .er (fun z _ => cmpN elt g1 t1 c (wip own1 e3) k src z (y :: acc) s fun z acc s => cmpN2 elt g t own1 g1 I1 t1 c (wip own e) m src' z acc s) z) (cmpN elt g1 t1 c (wip own1 e3) k src z acc s fun z acc s => cmpN2 elt g t own1 g1 I1 t1 c (wip own e) m src' z acc s)) (step src1 s)) := h
              have sv := sv ρ s H wk1 rs
              cases hst : step src1 s with
              | er => rw [hst] at h; exact (ne h).elim
              | done => rw [hst] at h sv; exact .inl ⟨sv, ρ, s, z, acc, ex, wk, rs, re, ac, h⟩
              | it x0 src1' =>
                rw [hst] at h sv
                obtain ⟨v1, v2, v3⟩ := sv
                refine .inr ⟨v1, fun H => ∃ ρ s z acc, Ext ρ1 s1 H1 ρ s H ∧ Wk ρ1 H1 F ρ H ∧ Wk ρ5 H5 F1 ρ H ∧ RelS ρ s H ∧ RelE ρ H (wip own e) (wipe σ own) ∧ RelE ρ H (wip own1 e3) (wipe σ3 own1) ∧ Acc ρ H D acc z ∧ P0 (cmpN elt g1 t1 c (wip own1 e3) k src1' z acc s fun z acc s => cmpN2 elt g t own1 g1 I1 t1 c (wip own e) m src' z acc s),
                  fun H' ⟨ρ, s, z, acc, w1, w2, w3, w4, w5, w6, w7, w8⟩ => ⟨k, Nat.lt_succ_self k, ρ, s, src1', z, acc, w1, w2, w3, w4, w5, w6, v3, w7, w8⟩, fun x H2 y => ?_⟩
                obtain ⟨x1, r2, dx⟩ := v2 x H2 y
                have ex2 := ex.trans r1 rs x1
                have wk2 := wk.step rs x1
                have wk12 := wk1.step rs x1
                have ac2 := ac.step rs x1
                have re2 := re.ext rs x1
                have rei2 := rei.ext rs x1
                refine hg1.mono (hg1.to _ _ _ _ ⟨ρ, wip own1 e3, s, x0, r2, rei2, dx, bndG0 ne r2 h⟩) ?_
                rintro σ6 H6 ⟨hw6, ρ6, s6, e6, x6, r6, re6, p6⟩
                refine ⟨hw6.trans (wipe_wipe σ3 own1), ρ6, e6, s6, r6, re6, (bndT0 ne r6 p6).mono fun b H7 ⟨ρ7, s7, x7, r7, p7⟩ => ?_⟩
                have ex7 := (ex2.trans r1 r2 x6).trans r1 r6 x7
                have wk7 := (wk2.step r2 x6).step r6 x7
                have wk17 := (wk12.step r2 x6).step r6 x7
                have ac7 := (ac2.step r2 x6).step r6 x7
                have re7 := (re2.ext r2 x6).ext r6 x7
                have rei7 := (rei2.ext r2 x6).ext r6 x7
                cases b with
                | false => exact ⟨ρ7, s7, z, acc, ex7, wk7, wk17, r7, re7, rei7, ac7, p7⟩
                | true =>
                  refine ⟨ρ7, e6, s7, r7, re6.ext r6 x7, (bnd0 ne r7 p7).mono fun y8 H8 ⟨ρ8, s8, t8, x8, r8, d8, p8⟩ => ?_⟩
                  have ex8 := ex7.trans r1 r7 x8
                  have wk8 := wk7.step r7 x8
                  have wk18 := wk17.step r7 x8
                  have ac8 := ac7.step r7 x8
                  have re8 := re7.ext r7 x8
                  have rei8 := rei7.ext r7 x8
                  cases z with
                  | zero => exact (ne p8).elim
                  | succ z =>
                    obtain ⟨ws, k1, k2, k3⟩ := ac8.push r8 d8
                    obtain ⟨u0, u1, _⟩ := upd_D (o := .lst (ws ++ [y8])) r8 ac8.ap k1
                    exact ⟨ws, k1, k2, ρ8, s8, z, t8 :: acc, ex8.updD hD, wk8.updD k1 nF, wk18.updD k1 nF1, u0, re8.mono u1, rei8.mono u1, k3, p8⟩
theorem tyes_rd {c : Cf} (σ : L2.St) (H : Hp) (Q : Bool → Hp → Prop) (h : rdT c Rk.tYes σ H Q) : L2.tYes σ H Q := by
  obtain ⟨ρ, e, s, rs, re, h⟩ := h
  exact PostT.val h rs
theorem _root_.L2.PTs.mono {X : Cx} {e : List Expr} {t t' : TT} (h : PTs X e t) (m : ∀ σ H Q, t' σ H Q → t σ H Q) : PTs X e t' := ⟨fun pins s σ H Q I q => h.run pins s σ H Q I (m σ H Q q)⟩
theorem pts_yes {X : Cx} {c : Cf} : PTs X [] (rdT c Rk.tYes) := pts_nil.mono tyes_rd
end Rk
end
section
set_option linter.all false
set_option autoImplicit false
set_option maxRecDepth 100000
namespace Rk
open PySem PySem.Spec PyProof.Rows L2
/-! ### [d[k] for k in d], [tuple(d[k]) for k in d] -/
section
variable {ρ : Nat → Option Addr} {s : Sto} {H : Hp} {Q : VK}
/-- what an item is, of the dict's value t -/
def ElOk (b : Bool) (s : Sto) (t u : T) : Prop := if b = true then ∃ m xs, t = .ref m ∧ s.find m = some (.l xs) ∧ u = .tup xs else u = t
theorem elV_ok {b : Bool} {t : T} {k : T → Res} (h : Post ρ s H (elV b t s k) Q) : ∃ u, ElOk b s t u ∧ Post ρ s H (k u) Q := by
  cases b with
  | false => exact ⟨t, rfl, h⟩
  | true =>
    have h : Post ρ s H (onRef t fun m => getL .er s m fun xs => k (.tup xs)) Q := h
    cases t with
    | ref m =>
      obtain ⟨xs, hm, h⟩ := Post.getL (show Post ρ s H (getL .er s m fun xs => k (.tup xs)) Q from h)
      exact ⟨.tup xs, ⟨m, xs, rfl, hm, rfl⟩, h⟩
    | _ => exact (show False from h).elim
theorem valsK_ok {b : Bool} {all : List (T × T)} : ∀ {kvs : List (T × T)} {k : List T → Res}, Post ρ s H (valsK b s all kvs k) Q → ∃ us : List T, us.length = kvs.length ∧ (∀ (j : Nat) (p : T × T), kvs[j]? = some p → ∃ t u, keyG p.1 all = some t ∧ us[j]? = some u ∧ ElOk b s t u) ∧ Post ρ s H (k us) Q
  | [], k, h => ⟨[], rfl, fun j p e => by simp at e, h⟩
  | q :: kvs, k, h => by
    have h : Post ρ s H (onOp (keyG q.1 all) .er fun t => elV b t s fun u => valsK b s all kvs fun r => k (u :: r)) Q := h
    cases hk : keyG q.1 all with
    | none => rw [hk] at h; exact (show False from h).elim
    | some t =>
      rw [hk] at h
      obtain ⟨u, hu, h⟩ := elV_ok (show Post ρ s H (elV b t s fun u => valsK b s all kvs fun r => k (u :: r)) Q from h)
      obtain ⟨us, h1, h2, h3⟩ := valsK_ok (k := fun r => k (u :: r)) h
      refine ⟨u :: us, by simp [h1], fun j p e => ?_, h3⟩
      cases j with
      | zero => simp at e; subst e; exact ⟨t, u, hk, rfl, hu⟩
      | succ j =>
        obtain ⟨t', u', a1, a2, a3⟩ := h2 j p (by simpa using e)
        exact ⟨t', u', a1, by simpa using a2, a3⟩
end
theorem wipe_at {σ : L2.St} {i : Nat} : ∀ {own : List Nat}, i ∉ own → (wipe σ own)[i]? = σ[i]?
  | [], _ => rfl
  | j :: own, h => by
    have h1 : i ≠ j := fun e => h (by rw [e]; exact List.mem_cons_self)
    have h2 : i ∉ own := fun e => h (List.mem_cons_of_mem _ e)
    show ((wipe σ own).set j none)[i]? = σ[i]?
    rw [List.getElem?_set_ne (Ne.symm h1), wipe_at h2]
theorem relE_get {ρ H} : ∀ {i : Nat} {e : En} {σ : L2.St} {k : T → Res} {s : Sto} {Q : VK}, RelE ρ H e σ → Post ρ s H (En.get .er k i e) Q → ∃ t v, σ[i]? = some (some v) ∧ Den ρ H t v ∧ Post ρ s H (k t) Q
  | 0, e, σ, k, s, Q, re, h => by
    cases e with
    | nil => exact (show False from h).elim
    | u r => exact (show False from h).elim
    | b t r =>
      obtain ⟨v, q, rfl, d, _⟩ := re
      exact ⟨t, v, rfl, d, h⟩
  | i + 1, e, σ, k, s, Q, re, h => by
    cases e with
    | nil => exact (show False from h).elim
    | u r =>
      obtain ⟨x, q, rfl, re⟩ := re
      obtain ⟨t, v, h1, h2, h3⟩ := relE_get (i := i) re (show Post ρ s H (En.get .er k i r) Q from h)
      exact ⟨t, v, by simpa using h1, h2, h3⟩
    | b t r =>
      obtain ⟨x, q, rfl, _, re⟩ := re
      obtain ⟨t, v, h1, h2, h3⟩ := relE_get (i := i) re (show Post ρ s H (En.get .er k i r) Q from h)
      exact ⟨t, v, by simpa using h1, h2, h3⟩
theorem denK_at {κ : Type} {kf : T → Option κ} {ρ H} : ∀ {kvs : List (T × T)} {ys : List (κ × V)} {j : Nat} {p : T × T} {k : κ} {v : V}, DenK kf ρ H kvs ys → kvs[j]? = some p → ys[j]? = some (k, v) → kf p.1 = some k
  | [], ys, j, p, k, v, d, h1, h2 => by simp at h1
  | q :: kvs, ys, j, p, k, v, d, h1, h2 => by
    obtain ⟨k', v', r, rfl, e1, e2, e3⟩ := d
    cases j with
    | zero =>
      simp at h1 h2
      obtain ⟨rfl, rfl⟩ := h2
      rw [← h1]; exact e1
    | succ j => exact denK_at e3 (by simpa using h1) (by simpa using h2)
theorem relE_has {ρ H} : ∀ {i : Nat} {e : En} {σ : L2.St}, RelE ρ H e σ → En.has i e = true → i < σ.length
  | 0, e, σ, re, h => by
    cases e with
    | nil => exact nomatch h
    | u r => obtain ⟨x, q, rfl, _⟩ := re; simp
    | b t r => obtain ⟨x, q, rfl, _, _⟩ := re; simp
  | i + 1, e, σ, re, h => by
    cases e with
    | nil => exact nomatch h
    | u r =>
      obtain ⟨x, q, rfl, re⟩ := re
      have := relE_has (i := i) re (show En.has i r = true from h)
      simp; omega
    | b t r =>
      obtain ⟨x, q, rfl, _, re⟩ := re
      have := relE_has (i := i) re (show En.has i r = true from h)
      simp; omega
/-- the element's reading -/
def teV (K : PySem.W.Frag) (b : Bool) (i m : Nat) : TE := if b = true then tCB (fun xs H Q => ∃ p ys, xs = [.ref p] ∧ ((SqL K H p ys ∧ ∀ l, H l = none → Q (.ref l) (upd H l (.tup ys))) ∨ (SqT K H p ys ∧ Q (.ref p) H))) (tCons (tDGet (tVar i) (tVar m)) tNil) else tDGet (tVar i) (tVar m)
theorem vals_rd {c : Cf} {K : PySem.W.Frag} {b : Bool} {i m : Nat} {own : List Nat} (hi : i ∉ own) (hm : m ∈ own) (σ : L2.St) (H : Hp) (Q : VK) (h : rdE c (eVals b i m) σ H Q) : tLockE (tLc (iKeys (tVar i)) (gName m) L2.tYes (teV K b i m) own) σ H Q := by
  obtain ⟨ρ, e, s, rs, re, h⟩ := h
  obtain ⟨hml, h⟩ := Post.ifB (show Post ρ s H (Rk.ifB (En.has m e) (En.get .er _ i e) .er) Q from h)
  have hml := relE_has re hml
  obtain ⟨t, v, hv, dv, h⟩ := relE_get re h
  cases t with
  | ref n =>
    obtain ⟨o, hn, h⟩ := Post.getO (show Post ρ s H (getO .er s n _) Q from h)
    obtain ⟨b', kvs, rfl, h⟩ := onObD h
    have h : Post ρ s H (lenK kvs 0 fun l => Rk.ifB (Nat.blt l 16777216) (valsK b s kvs kvs fun ts => .nl ts s) .er) Q := h
    rw [lenK_eq, Nat.zero_add] at h
    obtain ⟨hl, h⟩ := Post.ifB h
    rw [Nat.blt_eq] at hl
    obtain ⟨us, l1, l2, h⟩ := valsK_ok h
    obtain ⟨a, ho, h1, h2, h3⟩ := rs.live n _ hn
    rw [den_ref] at dv
    obtain ⟨a', rfl, h5⟩ := dv
    rw [h1] at h5; cases h5
    -- the rest, whatever the keys are
    have key : ∀ {κ : Type} [DecidableEq κ] {kf : T → Option κ} {mk : List (κ × V) → HO} {ys : List (κ × V)} {It' : Obj → It} (_ : H a = some (mk ys)) (_ : DenK kf ρ H kvs ys) (_ : ∀ {a b ka kb}, kf a = some ka → kf b = some kb → tEq a b = some (decide (ka = kb)))
        (mu : Mut (some (mk ys))) (_ : ∀ zs od, mk ys ≠ .lst zs ∧ mk ys ≠ .tup zs ∧ mk ys ≠ .frz od (mk ys))
        (_ : ∀ od j H', H' a = some (.frz od (mk ys)) → ys.length ≤ j → (It' od).stop j H') (_ : ∀ od j H', H' a = some (.frz od (mk ys)) → j < ys.length → (It' od).go j H')
        (_ : ∀ od j H' x H'', H' a = some (.frz od (mk ys)) → (It' od).yld j H' x H'' → H'' = H' ∧ ∃ k v, ys[j]? = some (k, v) ∧ ∀ v', valV ys k = some v' → DGet H' a x (some v'))
        (_ : ∀ od (R : It → Hp → Prop) H1, H1 a = some (.frz od (mk ys)) → R (It' od) H1 → iKeys (tVar i) σ H1 R),
        tLockE (tLc (iKeys (tVar i)) (gName m) L2.tYes (teV K b i m) own) σ H Q := by
      intro κ _ kf mk ys It' ha dk he mu _ fs fg fy fi
      refine ⟨a, mk ys, ha, mu, fun od => ?_⟩
      refine fi od _ _ upd_same fun D hD => ?_
      have hDa : D ≠ a := by
        rintro rfl
        rw [upd_same] at hD; cases hD
      have hD0 : H D = none := by rw [upd_ne hDa] at hD; exact hD
      -- the heap without the lock
      let un : Hp → Hp := fun H' => upd H' a (mk ys)
      have dl := dk.length
      refine ⟨fun j k Hj => j + k = ys.length ∧ Hj a = some (.frz od (mk ys)) ∧ (∀ x o, x ≠ a → H x = some o → Hj x = some o) ∧ ∃ acc, Hj D = some (.lst acc) ∧ DenL ρ Hj (us.take j) acc, ⟨ys.length, by simp, ?_, fun x o hx ho => ?_, [], upd_same, by simp⟩, ?_⟩
      · rw [upd_ne (Ne.symm hDa), upd_same]
      · rw [upd_ne, upd_ne hx]
        · exact ho
        · rintro rfl; rw [hD0] at ho; cases ho
      · rintro j k Hj ⟨hjk, hja, hjH, acc, hjD, dacc⟩
        have alen : acc.length = j := by rw [← dacc.length, List.length_take]; omega
        cases k with
        | zero =>
          refine .inl ⟨fs od j Hj hja (by omega), hja, ?_⟩
          have hfull : us.take j = us := List.take_of_length_le (by omega)
          rw [hfull] at dacc
          have eH : ∀ x o, H x = some o → un Hj x = some o := fun x o hx => by
            by_cases z : x = a
            · subst z; show upd Hj x (mk ys) x = _; rw [upd_same, ← ha, hx]
            · show upd Hj a (mk ys) x = _; rw [upd_ne z]; exact hjH x o z hx
          have ex : Ext ρ s H ρ s (un Hj) := ⟨fun _ _ h => h, Nat.le_refl _, fun m a h1 h2 => (nomatch h1.symm.trans h2), fun _ o h _ => ⟨o, h⟩, fun x o hx _ => eH x o hx, fun x hx => by
            cases q : H x with
            | none => exact absurd q hx
            | some o => rw [eH x o q]; exact fun z => nomatch z⟩
          have rr : RelS ρ s (un Hj) := ⟨rs.dom, rs.def_, rs.inj, fun m' x hx => ex.dom x (rs.trk m' x hx), fun m' ob hx => by
            obtain ⟨x, ho', g1, g2, g3⟩ := rs.live m' ob hx
            exact ⟨x, ho', g1, eH x _ g2, g3.ext rs ex⟩⟩
          refine h ρ (un Hj) D ex rr ⟨hD0, fun m' hm' => rs.trk m' D hm' hD0, acc, ?_, ?_⟩
          · show upd Hj a (mk ys) D = _; rw [upd_ne hDa]; exact hjD
          · refine (den_mono_both (fun _ _ h => h) fun x xs hx => ?_).2 _ _ dacc
            show upd Hj a (mk ys) x = _
            rw [upd_ne]
            · exact hx
            · rintro rfl; rw [hja] at hx; cases hx
        | succ k =>
          refine .inr ⟨fg od j Hj hja (by omega), fun H' => j + 1 + k = ys.length ∧ H' a = some (.frz od (mk ys)) ∧ (∀ x o, x ≠ a → H x = some o → H' x = some o) ∧ ∃ acc, H' D = some (.lst acc) ∧ DenL ρ H' (us.take (j + 1)) acc, fun H' w => ⟨k, Nat.lt_succ_self k, w⟩, fun x H' hy => ?_⟩
          obtain ⟨rfl, kx, vx, hkv, hdg⟩ := fy od j Hj x H' hja hy
          have hmw : m < (wipe σ own).length := by rw [wipe_length]; exact hml
          refine ⟨?_, ?_⟩
          · rw [wipe_set hm, wipe_wipe]
          · unfold L2.tYes
            simp only [if_true]
            have hne : i ≠ m := fun z => hi (by rw [z]; exact hm)
            have gi : ((wipe σ own).set m (some x))[i]? = some (some (.ref a)) := by rw [List.getElem?_set_ne (Ne.symm hne), wipe_at hi]; exact hv
            have gm : ((wipe σ own).set m (some x))[m]? = some (some x) := by rw [List.getElem?_set_self hmw]
            -- the pair at j
            have hjl : j < kvs.length := by omega
            obtain ⟨p, hp⟩ : ∃ p, kvs[j]? = some p := ⟨kvs[j], List.getElem?_eq_getElem hjl⟩
            obtain ⟨t, u, k1, k2, k3⟩ := l2 j p hp
            have hkp : kf p.1 = some kx := denK_at dk hp hkv
            rcases keyG_ok he hkp dk with ⟨z1, _⟩ | ⟨t', v', z1, z2, z3⟩
            · rw [k1] at z1; cases z1
            · rw [k1] at z1; cases z1
              have dj : Den ρ H' t v' := by
                refine (den_mono_both (fun _ _ h => h) fun x xs hx => hjH x _ ?_ hx).1 _ _ z3
                rintro rfl; rw [ha] at hx
                have := (by assumption : ∀ zs od, mk ys ≠ .lst zs ∧ mk ys ≠ .tup zs ∧ mk ys ≠ .frz od (mk ys)) xs od
                exact this.2.1 (Option.some.inj hx)
              have take1 : us.take (j + 1) = us.take j ++ [u] := by rw [List.take_add_one, k2]; rfl
              -- push
              have push : ∀ (H4 : Hp) (y : V), H4 a = some (.frz od (mk ys)) → (∀ x o, x ≠ a → H x = some o → H4 x = some o) → H4 D = some (.lst acc) → (∀ t v, Den ρ H' t v → Den ρ H4 t v) → (∀ t v, DenL ρ H' t v → DenL ρ H4 t v) → Den ρ H4 u y →
                  ∃ acc, H4 D = some (.lst acc) ∧ acc.length < sizeLine ∧ (j + 1 + k = ys.length ∧ (upd H4 D (.lst (acc ++ [y]))) a = some (.frz od (mk ys)) ∧ (∀ x o, x ≠ a → H x = some o → (upd H4 D (.lst (acc ++ [y]))) x = some o) ∧ ∃ acc', (upd H4 D (.lst (acc ++ [y]))) D = some (.lst acc') ∧ DenL ρ (upd H4 D (.lst (acc ++ [y]))) (us.take (j + 1)) acc') := by
                intro H4 y w1 w2 w3 w4 w4' w5
                refine ⟨acc, w3, by rw [alen, sizeLine_eq]; omega, by omega, by rw [upd_ne (Ne.symm hDa)]; exact w1, fun x o hx ho => ?_, acc ++ [y], upd_same, ?_⟩
                · rw [upd_ne]
                  · exact w2 x o hx ho
                  · rintro rfl; rw [hD0] at ho; cases ho
                · have up := den_mono_both (ρ := ρ) (ρ' := ρ) (H := H4) (H' := upd H4 D (.lst (acc ++ [y]))) (fun _ _ h => h) (fun x xs hx => by
                    rw [upd_ne]
                    · exact hx
                    · rintro rfl; rw [w3] at hx; cases hx)
                  rw [take1]
                  exact (up.2 _ _ (w4' _ _ dacc)).append (.one (up.1 _ _ w5))
              cases b with
              | false =>
                have k3 : u = t := k3
                subst k3
                exact ⟨_, gi, _, gm, a, v', rfl, hdg v' z2, push _ _ hja hjH hjD (fun _ _ h => h) (fun _ _ h => h) dj⟩
              | true =>
                obtain ⟨q, xs, rfl, hq, rfl⟩ : ∃ m xs, t = .ref m ∧ s.find m = some (.l xs) ∧ u = .tup xs := k3
                obtain ⟨b2, vs, rfl, _, hb, dxs⟩ := rs.lst hq z3
                have hb2 : b2 ≠ a := by
                  rintro rfl; rw [ha] at hb
                  have := (by assumption : ∀ zs od, mk ys ≠ .lst zs ∧ mk ys ≠ .tup zs ∧ mk ys ≠ .frz od (mk ys)) vs od
                  exact this.1 (Option.some.inj hb)
                refine ⟨_, gi, _, gm, a, _, rfl, hdg _ z2, b2, vs, rfl, .inl ⟨.of (hjH _ _ hb2 hb), fun l hl => ?_⟩⟩
                have up := den_mono_both (ρ := ρ) (ρ' := ρ) (H := H') (H' := upd H' l (.tup vs)) (fun _ _ h => h) (fun x xs hx => by
                    rw [upd_ne]
                    · exact hx
                    · rintro rfl; rw [hl] at hx; cases hx)
                refine push (upd H' l (.tup vs)) (.ref l) ?_ (fun x o hx ho => ?_) ?_ up.1 up.2 ?_
                · rw [upd_ne]
                  · exact hja
                  · rintro rfl; rw [hja] at hl; cases hl
                · rw [upd_ne]
                  · exact hjH x o hx ho
                  · rintro rfl; rw [hjH _ o hx ho] at hl; cases hl
                · rw [upd_ne]
                  · exact hjD
                  · rintro rfl; rw [hjD] at hl; cases hl
                · rw [den_tup]
                  refine ⟨l, vs, rfl, upd_same, up.2 _ _ ((den_mono_both (fun _ _ h => h) fun x ws hx => hjH x _ ?_ hx).2 _ _ dxs)⟩
                  rintro rfl; rw [ha] at hx
                  have := (by assumption : ∀ zs od, mk ys ≠ .lst zs ∧ mk ys ≠ .tup zs ∧ mk ys ≠ .frz od (mk ys)) ws od
                  exact this.2.1 (Option.some.inj hx)
    cases b' with
    | false =>
      obtain ⟨ys, rfl, dk⟩ := h3
      refine key (κ := Key) (kf := keyT) (mk := .dK) (It' := fun od => Itk a od ys) h2 dk key_eq True.intro (fun zs od => ⟨fun z => (nomatch z), fun z => (nomatch z), fun z => (nomatch z)⟩) (fun od j H' e hj => ⟨e, hj⟩) (fun od j H' e hj => ⟨e, hj⟩) (fun od j H' x H'' e hy => ?_) (fun od R H1 e r => ⟨_, hv, a, od, rfl, .inl ⟨ys, e, r⟩⟩)
      obtain ⟨rfl, k, v, hk, rfl⟩ := hy
      exact ⟨rfl, k, v, hk, fun v' hv' => .inl ⟨ys, k, .inr ⟨od, e⟩, rfl, hv'.symm⟩⟩
    | true =>
      obtain ⟨ys, rfl, dk⟩ := h3
      refine key (κ := List Key) (kf := keyTs) (mk := .dT) (It' := fun od => Itkt a od ys) h2 dk keyTs_eq True.intro (fun zs od => ⟨fun z => (nomatch z), fun z => (nomatch z), fun z => (nomatch z)⟩) (fun od j H' e hj => ⟨e, hj⟩) (fun od j H' e hj => ⟨e, hj⟩) (fun od j H' x H'' e hy => ?_) (fun od R H1 e r => ⟨_, hv, a, od, rfl, .inr ⟨ys, e, r⟩⟩)
      obtain ⟨rfl, k, v, q, hk, rfl, hq⟩ := hy
      exact ⟨rfl, k, v, hk, fun v' hv' => .inr ⟨ys, k, q, .inr ⟨od, e⟩, rfl, hq, hv'.symm⟩⟩
  | _ => exact (show False from h).elim
end Rk
end
section
set_option linter.all false
set_option autoImplicit false
set_option maxRecDepth 100000
namespace Rk
open PySem PySem.Spec PyProof.Rows L2

/-! ### binding, by position and by name -/
theorem zip_look {α : Type} {p : Str} : ∀ {names : List Str} {vals : List α}, names.length = vals.length → (names.zip vals).lookup p = vals[names.idxOf p]?
  | [], [], _ => rfl
  | n :: names, v :: vals, h => by
    rw [List.zip_cons_cons, List.lookup_cons, List.idxOf_cons]
    have ih := zip_look (p := p) (names := names) (vals := vals) (by simpa using h)
    by_cases e : p = n
    · subst e; simp
    · have e1 : (p == n) = false := by simpa using e
      have e2 : (n == p) = false := by simpa using (fun z => e z.symm)
      rw [e1, e2]
      simpa using ih
  | [], _ :: _, h => by simp at h
  | _ :: _, [], h => by simp at h
theorem kwloop {ps : List Str} {f : Str × Value → List (Str × Value) × List (Str × Value) → Sem (ForInStep (List (Str × Value) × List (Str × Value)))}
    (hf : ∀ k v sl, ps.contains k = true → (List.lookup k sl).isSome = false → f (k, v) (sl, []) = pure (.yield (sl ++ [(k, v)], []))) :
    ∀ {ks : List Str} {ws : List Value} {names : List Str} {vals : List Value}, names.length = vals.length → ks.length = ws.length → (names ++ ks).Nodup → (∀ k ∈ ks, k ∈ ps) →
      forIn (ks.zip ws) (names.zip vals, []) f = pure ((names ++ ks).zip (vals ++ ws), [])
  | [], [], names, vals, h, _, _, _ => by simp
  | k :: ks, w :: ws, names, vals, h, h2, nd, hp => by
    rw [List.zip_cons_cons, List.forIn_cons]
    have hk : k ∉ names := by
      have := (List.nodup_append.mp nd).2.2
      exact fun z => this k z k (by simp) rfl
    have hl : (List.lookup k (names.zip vals)).isSome = false := by
      rw [zip_look h, List.getElem?_eq_none (by rw [List.idxOf_eq_length hk, h]; exact Nat.le_refl _)]; rfl
    rw [hf k w _ (by simpa using hp k (by simp)) hl]
    have e1 : names.zip vals ++ [(k, w)] = (names ++ [k]).zip (vals ++ [w]) := by rw [List.zip_append h]; rfl
    have ih := kwloop hf (ks := ks) (ws := ws) (names := names ++ [k]) (vals := vals ++ [w]) (by simp [h]) (by simpa using h2) (by simpa using nd) (fun j hj => hp j (by simp [hj]))
    show (forIn (ks.zip ws) (names.zip vals ++ [(k, w)], []) f) = _
    rw [e1, ih]
    simp
  | [], _ :: _, _, _, _, h, _, _ => by simp at h
  | _ :: _, [], _, _, _, h, _, _ => by simp at h
theorem items_none : seqItems? Value.none = pure none := rfl
/-- the values in the parameters' order -/
def inOrder {α : Type} (ps names : List Str) (vals : List α) : List α := ps.filterMap fun p => vals[names.idxOf p]?
theorem inOrder_zip {α : Type} {names : List Str} {vals : List α} (h : names.length = vals.length) : ∀ {ps : List Str}, (∀ p ∈ ps, p ∈ names) → (ps.filterMap fun n => ((names.zip vals).lookup n).map fun x => (n, x)) = ps.zip (inOrder ps names vals)
  | [], _ => rfl
  | p :: ps, hp => by
    have ih := inOrder_zip h (ps := ps) fun q hq => hp q (List.mem_cons_of_mem _ hq)
    have hi : names.idxOf p < vals.length := by rw [← h]; exact List.idxOf_lt_length_of_mem (hp p List.mem_cons_self)
    unfold inOrder at ih ⊢
    rw [List.filterMap_cons, List.filterMap_cons, zip_look h, List.getElem?_eq_getElem hi]
    simp only [Option.map_some, List.zip_cons_cons]
    rw [ih]
theorem inOrder_len {α : Type} {names : List Str} {vals : List α} (h : names.length = vals.length) : ∀ {ps : List Str}, (∀ p ∈ ps, p ∈ names) → (inOrder ps names vals).length = ps.length
  | [], _ => rfl
  | p :: ps, hp => by
    have ih := inOrder_len h (ps := ps) fun q hq => hp q (List.mem_cons_of_mem _ hq)
    have hi : names.idxOf p < vals.length := by rw [← h]; exact List.idxOf_lt_length_of_mem (hp p List.mem_cons_self)
    unfold inOrder at ih ⊢
    rw [List.filterMap_cons, List.getElem?_eq_getElem hi]
    simp [ih]
/-- n values by position, the rest by the names ks -/
structure BindC (ps : List Str) (n : Nat) (ks : List Str) : Prop where
  le : n ≤ ps.length
  nd : (ps.take n ++ ks).Nodup
  sub : ∀ k ∈ ks, k ∈ ps
  all : ∀ p ∈ ps, p ∈ ps.take n ++ ks
theorem bind_all {fd : FuncData} {ps ks : List Str} {us ws : List Value} {n : Nat} (h : simpleP fd.params = true) (hd : fd.defaults = .none) (hp : fd.params.args.map (·.arg) = ps) (c : BindC ps n ks) (hu : us.length = n) (hw : ws.length = ks.length) :
    bindArgs fd ⟨us, ks.zip ws⟩ = pure (ps.zip (inOrder ps (ps.take n ++ ks) (us ++ ws))) := by
  unfold simpleP at h
  simp only [Bool.and_eq_true, List.isEmpty_iff, Option.isNone_iff_eq_none] at h
  obtain ⟨⟨⟨h1, h2⟩, h3⟩, h4⟩ := h
  have hz : ps.zip us = (ps.take n).zip us := by
    rw [← hu, List.zip_eq_zip_take_min]
    have : min ps.length us.length = us.length := Nat.min_eq_right (by rw [hu]; exact c.le)
    rw [this, List.take_length]
  have hl1 : (ps.take n).length = us.length := by rw [List.length_take, hu, Nat.min_eq_left c.le]
  have hl2 : (ps.take n ++ ks).length = (us ++ ws).length := by rw [List.length_append, List.length_append, hl1, hw]
  unfold bindArgs
  simp only [h1, h2, h3, h4, hd, hp, List.map_nil, List.nil_append, List.append_nil, Option.isSome_none, Bool.or_false, Bool.false_eq_true, if_false]
  rw [hz]
  rw [kwloop (ps := ps) (fun k v sl a b => by
    have a' : (ps.contains k || [].contains k) = true := by rw [a]; rfl
    simp only [a', if_true, b, Bool.false_eq_true, if_false]) hl1 hw.symm c.nd c.sub]
  rw [pure_bind, items_none, pure_bind]
  have g1 : decide (us.length > ps.length) = false := decide_eq_false (by rw [hu]; have := c.le; omega)
  have miss : List.filter (fun n_1 => (List.lookup n_1 ((ps.take n ++ ks).zip (us ++ ws))).isNone) ps = [] := by
    rw [List.filter_eq_nil_iff]
    intro p hpp
    have hi : (ps.take n ++ ks).idxOf p < (us ++ ws).length := by rw [← hl2]; exact List.idxOf_lt_length_of_mem (c.all p hpp)
    rw [zip_look hl2, List.getElem?_eq_getElem hi]
    simp
  have fin := inOrder_zip hl2 c.all
  simp only [g1, Bool.false_and, Bool.false_eq_true, if_false, Option.getD_none, List.length_nil, List.drop_nil, Nat.sub_zero, List.take_length, miss, List.isEmpty_nil, Bool.not_true, List.drop_length, List.zip_nil_left, List.forIn_nil, pure_bind, List.append_nil, fin]

theorem inOrder_id {α : Type} : ∀ {pre qs : List Str} {vp vs : List α}, (pre ++ qs).Nodup → pre.length = vp.length → qs.length = vs.length → inOrder qs (pre ++ qs) (vp ++ vs) = vs
  | pre, [], vp, [], _, _, _ => rfl
  | pre, q :: qs, vp, v :: vs, nd, h1, h2 => by
    have ih := inOrder_id (pre := pre ++ [q]) (qs := qs) (vp := vp ++ [v]) (vs := vs) (by simpa using nd) (by simp [h1]) (by simpa using h2)
    have hq : q ∉ pre := fun z => (List.nodup_append.mp nd).2.2 q z q (by simp) rfl
    have hi : (pre ++ q :: qs).idxOf q = vp.length := by
      rw [List.idxOf_append, if_neg hq, List.idxOf_cons_self]; omega
    unfold inOrder at ih ⊢
    rw [List.filterMap_cons, hi]
    have e1 : (vp ++ v :: vs)[vp.length]? = some v := by simp
    rw [e1]
    simp only
    congr 1
    have e2 : pre ++ q :: qs = pre ++ [q] ++ qs := by simp
    have e3 : vp ++ v :: vs = vp ++ [v] ++ vs := by simp
    rw [e2, e3]
    exact ih
  | _, [], _, _ :: _, _, _, h => by simp at h
  | _, _ :: _, _, [], _, _, h => by simp at h
theorem binds_pos {K : PySem.W.Frag} {fd : FuncData} {ps : List Str} (h : simpleP fd.params = true) (hd : fd.defaults = .none) (hp : fd.params.args.map (·.arg) = ps) (nd : ps.Nodup) : Binds K fd ps [] := by
  refine .all fun us hl => ?_
  have := bind_all (us := us) (ws := []) h hd hp (n := ps.length) (ks := []) ⟨Nat.le_refl _, by simpa using nd, by simp, fun p hpp => by simpa using hpp⟩ hl rfl
  rw [List.zip_nil_left] at this
  rw [this]
  have e := inOrder_id (pre := []) (qs := ps) (vp := []) (vs := us) (by simpa using nd) rfl hl.symm
  simp only [List.nil_append] at e
  simp only [List.take_length, List.append_nil]
  rw [e]
theorem vals_inOrder {names : List Str} {vs : List V} {us : List Value} (r : Vals vs us) : ∀ {ps : List Str}, Vals (inOrder ps names vs) (inOrder ps names us)
  | [] => .nil
  | p :: ps => by
    have ih := vals_inOrder (names := names) r (ps := ps)
    unfold inOrder at ih ⊢
    rw [List.filterMap_cons, List.filterMap_cons]
    cases e : vs[names.idxOf p]? with
    | none =>
      have := r.none_of e
      rw [this]; exact ih
    | some v =>
      obtain ⟨u, hu, ru⟩ := r.get e
      rw [hu]; exact .cons ru ih
theorem binds_kw {K : PySem.W.Frag} {fd : FuncData} {ps ks : List Str} {n : Nat} (h : simpleP fd.params = true) (hd : fd.defaults = .none) (hp : fd.params.args.map (·.arg) = ps) (c : BindC ps n ks) :
    KBn K fd ps n ks (fun us ws => inOrder ps (ps.take n ++ ks) (us ++ ws)) (fun vs zs => inOrder ps (ps.take n ++ ks) (vs ++ zs)) :=
  ⟨fun s us ws _ h1 h2 => .of_eq (bind_all h hd hp c h1 h2), fun r1 r2 => vals_inOrder (r1.append r2)⟩
/-- the callee's values, by places -/
theorem permK_ok {ρ H} {names : List Str} {ts : List T} {vs : List V} (d : DenL ρ H ts vs) : ∀ {ps : List Str} {k : List T → Res} {s Q}, Post ρ s H (permK (ps.map fun p => names.idxOf p) ts k) Q → ∃ us, DenL ρ H us (inOrder ps names vs) ∧ us.length = ps.length ∧ Post ρ s H (k us) Q
  | [], k, s, Q, h => ⟨[], by simp [inOrder], rfl, h⟩
  | p :: ps, k, s, Q, h => by
    have h : Post ρ s H (nthK .er (fun t => permK (ps.map fun p => names.idxOf p) ts fun r => k (t :: r)) (names.idxOf p) ts) Q := h
    rw [nthK_eq] at h
    cases e : ts[names.idxOf p]? with
    | none => rw [e] at h; exact h.elim
    | some t =>
      rw [e] at h
      obtain ⟨v, hv, dv⟩ := d.get e
      obtain ⟨us, h1, h2, h3⟩ := permK_ok (names := names) d (ps := ps) h
      refine ⟨t :: us, ?_, by simp [h2], h3⟩
      unfold inOrder at h1 ⊢
      rw [List.filterMap_cons, hv]
      show DenL ρ H (t :: us) (v :: _)
      rw [denL_cons2]
      exact ⟨dv, h1⟩

/-! ### calls of own defs -/
def spOf (c : Cf) (f np : Nat) : Sp := fun vs H Q _ => vs.length = np ∧ ∃ ρ s ts, RelS ρ s H ∧ DenL ρ H ts vs ∧ Post ρ s H (c f ts s) Q
/-- what one knows of a def by its name -/
structure CallOk (X : Cx) (c : Cf) (x : Str) (f : Nat) (ps : List Str) : Prop where
  ex : ∃ (k : Nat) (a : Addr) (fd : FuncData), FnOk X.prog X.w X.K X.mg X.base CX0 k a fd ps (spOf c f ps.length) ∧ Room k X.A ∧ X.mg x = some (.ref a) ∧ PySem.W.keepIn X.K (.ref a) = true ∧ simpleP fd.params = true ∧ fd.defaults = .none ∧ fd.params.args.map (·.arg) = ps
  nd : ps.Nodup
  nb : (x == ("__debug__" : Str)) = false
theorem call_rd {c : Cf} {f np : Nat} {R : Av} (hn : ∀ c σ s ts s', R c σ s = .ok ts s' → ts.length = np) (σ : L2.St) (H : Hp) (Q : VK) (h : rdE c (eCall f R) σ H Q) : tCall (spOf c f np) [] E0 (rdA c R) σ H Q := by
  obtain ⟨ρ, e, s, rs, re, h⟩ := h
  refine ⟨ρ, e, s, rs, re, ?_⟩
  have h2 := bndL_gen stb_E neE rs h
  have hn := hn c e s
  cases hm : R c e s with
  | er => rw [hm] at h2; exact h2
  | ok ts s' =>
    rw [hm] at h2
    have hl2 := hn ts s' hm
    intro ρ' H' vs ex rr d
    obtain ⟨ρ1, s1, t1, e1, r1, d1, p1⟩ := h2 ρ' H' vs ex rr d
    rw [List.append_nil]
    exact ⟨by rw [← d.length, hl2], ρ1, s1, t1, r1, d1, p1⟩
theorem pe_ecall {X : Cx} {c : Cf} {x : Str} {f : Nat} {ps : List Str} {R : Av} {e : Expr} {es : List Expr} {p pos : Pos} (C : CallOk X c x f ps) (hg : Gl X x) (ha : PA X (e :: es) (rdA c R)) (hn : ∀ c σ s ts s', R c σ s = .ok ts s' → ts.length = ps.length) (hs : (e :: es).all noStar = true) :
    PE X (.Call (.Name x p) (e :: es) [] pos) (rdE c (eCall f R)) := by
  obtain ⟨k, a, fd, F, hr, hm, hk, s1, s2, s3⟩ := C.ex
  rw [List.all_cons, Bool.and_eq_true] at hs
  exact (pe_call F hr hg hm hk (binds_pos s1 s2 s3 C.nd) .nil pass0 ha C.nb (star_one hs.1) (star_any hs.2)).mono (call_rd hn)
theorem pe_ecall0 {X : Cx} {c : Cf} {x : Str} {f : Nat} {p pos : Pos} (C : CallOk X c x f []) (hg : Gl X x) : PE X (.Call (.Name x p) [] [] pos) (rdE c (eCall f aNil)) := by
  obtain ⟨k, a, fd, F, hr, hm, hk, s1, s2, s3⟩ := C.ex
  refine (pe_call0 F hr hg hm hk (binds_pos s1 s2 s3 C.nd) .nil pass0 C.nb).mono fun σ H Q h => ?_
  obtain ⟨ρ, e, s, rs, re, h⟩ := h
  exact ⟨rfl, ρ, s, [], rs, by simp, h⟩
theorem _root_.L2.PK.mono {X : Cx} {e : List Keyword} {t t' : TA} (h : PK X e t) (m : ∀ σ H Q, t' σ H Q → t σ H Q) : PK X e t' := ⟨fun pos pins s σ H Q I q => h.run pos pins s σ H Q I (m σ H Q q)⟩
theorem pk_anil {X : Cx} {c : Cf} : PK X [] (rdA c aNil) := pk_nil.mono fun σ H Q ⟨ρ, e, s, rs, re, h⟩ => h ρ H [] Ext.refl rs (by simp)
theorem pk_acons {X : Cx} {c : Cf} {A : Ev} {R : Av} {nm : Option Str} {kpos : Pos} {e : Expr} {kws : List Keyword} (ha : PE X e (rdE c A)) (hr : PK X kws (rdA c R)) : PK X (⟨nm, e, kpos⟩ :: kws) (rdA c (aCons A R)) := (pk_cons ha hr).mono cons_rd
theorem pk_bad {X : Cx} {e : List Keyword} {c : Cf} : PK X e (rdA c aBad) := ⟨fun _ _ _ _ _ _ _ ⟨_, _, _, _, _, h⟩ => h.elim⟩
theorem callK_rd {c : Cf} {f n : Nat} {ps ks : List Str} {R RK : Av} (bc : BindC ps n ks) (h1 : ∀ c σ s ts s', R c σ s = .ok ts s' → ts.length = n) (h2 : ∀ c σ s ts s', RK c σ s = .ok ts s' → ts.length = ks.length) (σ : L2.St) (H : Hp) (Q : VK)
    (h : rdE c (eCallK f (ps.map fun p => (ps.take n ++ ks).idxOf p) R RK) σ H Q) : tCallN n ks.length (spOf c f ps.length) (fun vs zs => inOrder ps (ps.take n ++ ks) (vs ++ zs)) E0 (rdA c R) (rdA c RK) σ H Q := by
  obtain ⟨ρ, e, s, rs, re, h⟩ := h
  refine ⟨ρ, e, s, rs, re, ?_⟩
  have g1 := bndL_gen stb_E neE rs h
  have h1 := h1 c e s
  cases hm : R c e s with
  | er => rw [hm] at g1; exact g1
  | ok ts s1 =>
    rw [hm] at g1
    have hl1 := h1 ts s1 hm
    intro ρ' H' vs ex rr d
    obtain ⟨ρ1, s1', t1, e1, r1, d1, p1⟩ := g1 ρ' H' vs ex rr d
    refine ⟨ρ1, e, s1', r1, re.ext rs e1, ?_⟩
    have g2 := bndL_gen stb_E neE r1 p1
    have h2 := h2 c e s1'
    cases hm2 : RK c e s1' with
    | er => rw [hm2] at g2; exact g2
    | ok us s2 =>
      rw [hm2] at g2
      have hl2 := h2 us s2 hm2
      intro ρ'' H'' zs ex2 rr2 d2
      obtain ⟨ρ2, s2', t2, e2, r2, dd, p2⟩ := g2 ρ'' H'' zs ex2 rr2 d2
      have dl : DenL ρ2 H'' (t1 ++ t2) (vs ++ zs) := (d1.ext r1 e2).append dd
      have p3 : Post ρ2 s2' H'' (catK t1 t2 fun zs => permK (ps.map fun p => (ps.take n ++ ks).idxOf p) zs fun us => c f us s2') Q := p2
      rw [catK_eq] at p3
      obtain ⟨ws, k1, k2, k3⟩ := permK_ok (names := ps.take n ++ ks) dl p3
      exact ⟨by rw [← d.length, hl1], by rw [← d2.length, hl2], by rw [← k1.length, k2], ρ2, s2', ws, r2, k1, k3⟩
theorem kw_names {env : Env} {pos : Pos} : ∀ {kws : List Keyword}, (backToKw pos (keywordEach kws env)).filterMap (·.1) = kws.filterMap (·.arg)
  | [] => rfl
  | ⟨nm, v, p⟩ :: kws => by
    have ih := kw_names (env := env) (pos := pos) (kws := kws)
    cases nm with
    | none => exact ih
    | some k => show k :: _ = k :: _; congr 1
theorem kw_some {env : Env} {pos : Pos} : ∀ {kws : List Keyword}, kws.all (·.arg.isSome) = true → (backToKw pos (keywordEach kws env)).all (·.1.isSome) = true ∧ (backToKw pos (keywordEach kws env)).any (·.1.isNone) = false
  | [], _ => ⟨rfl, rfl⟩
  | ⟨nm, v, p⟩ :: kws, h => by
    rw [List.all_cons, Bool.and_eq_true] at h
    obtain ⟨h1, h2⟩ := h
    have ih := kw_some (env := env) (pos := pos) (kws := kws) h2
    cases nm with
    | none => exact nomatch h1
    | some k => exact ih
theorem pe_ecallK {X : Cx} {c : Cf} {x : Str} {f : Nat} {ps ks : List Str} {R RK : Av} {e : Expr} {es : List Expr} {kws : List Keyword} {p pos : Pos} (C : CallOk X c x f ps) (hg : Gl X x) (bc : BindC ps (e :: es).length ks) (ha : PA X (e :: es) (rdA c R)) (hk : PK X kws (rdA c RK))
    (h1 : ∀ c σ s ts s', R c σ s = .ok ts s' → ts.length = (e :: es).length) (h2 : ∀ c σ s ts s', RK c σ s = .ok ts s' → ts.length = ks.length) (hs : (e :: es).all noStar = true) (hks : kws.filterMap (·.arg) = ks) (hall : kws.all (·.arg.isSome) = true) :
    PE X (.Call (.Name x p) (e :: es) kws pos) (rdE c (eCallK f (ps.map fun p => (ps.take (e :: es).length ++ ks).idxOf p) R RK)) := by
  obtain ⟨k, a, fd, F, hr, hm, hkp, s1, s2, s3⟩ := C.ex
  have hs' := hs
  rw [List.all_cons, Bool.and_eq_true] at hs
  obtain ⟨k1, k2⟩ := kw_some (env := X.env) (pos := pos) hall
  exact (pe_callN F hr hg hm hkp (binds_kw s1 s2 s3 bc) pass0 ha hk k1 (by rw [kw_names]; exact hks) C.nb (star_one hs.1) (by rw [star_any hs', k2]; rfl)).mono (callK_rd bc h1 h2)
theorem pe_callN0 {X : Cx} {k : Nat} {f : Addr} {fd : FuncData} {ps ks : List Str} {sp : Sp} {E : XK} {x : Str} {p pos : Pos} {kws : List Keyword} {tk : TA} {g : List Value → List Value → List Value} {gV : List V → List V → List V}
    (F : FnOk X.prog X.w X.K X.mg X.base CX0 k f fd ps sp) (hr : Room k X.A) (hg : Gl X x) (hm : X.mg x = some (.ref f)) (hk : PySem.W.keepIn X.K (.ref f) = true) (hb : KBn X.K fd ps 0 ks g gV) (hx : Passes CX0 X E)
    (hkw : PK X kws tk) (hall : (backToKw pos (keywordEach kws X.env)).all (·.1.isSome) = true) (hks : (backToKw pos (keywordEach kws X.env)).filterMap (·.1) = ks) (hdb : (x == ("__debug__" : Str)) = false)
    (hpl : ((backTo pos (starEach [] X.env)).any (·.1) || (backToKw pos (keywordEach kws X.env)).any (·.1.isNone)) = false) :
    PE X (.Call (.Name x p) [] kws pos) (tCallN 0 ks.length sp gV E tNil tk) := by
  refine ⟨fun pins s σ H Q I h => ?_⟩
  refine wpAny_Call_Name_kw (ld_glob I hg hm ?_ hdb)
  refine PySem.W.callWith_KW0 (h₀ := X.base) I.ok.mod.kin hk hall ?_ hpl
  refine thn (hkw.run pos pins s σ H _ I h) fun ws s2 ⟨zs, H2, I2, rz, l1, l2, q2⟩ => ⟨I2.kIn, ?_⟩
  rw [hks]
  exact run_fnN F hr hb hx I2 .nil rz l1 l2 q2
theorem pe_ecallK0 {X : Cx} {c : Cf} {x : Str} {f : Nat} {ps ks : List Str} {RK : Av} {kws : List Keyword} {p pos : Pos} (C : CallOk X c x f ps) (hg : Gl X x) (bc : BindC ps 0 ks) (hk : PK X kws (rdA c RK))
    (h2 : ∀ c σ s ts s', RK c σ s = .ok ts s' → ts.length = ks.length) (hks : kws.filterMap (·.arg) = ks) (hall : kws.all (·.arg.isSome) = true) :
    PE X (.Call (.Name x p) [] kws pos) (rdE c (eCallK f (ps.map fun p => (ps.take 0 ++ ks).idxOf p) aNil RK)) := by
  obtain ⟨k, a, fd, F, hr, hm, hkp, s1, s2, s3⟩ := C.ex
  obtain ⟨k1, k2⟩ := kw_some (env := X.env) (pos := pos) hall
  refine (pe_callN0 F hr hg hm hkp (binds_kw s1 s2 s3 bc) pass0 hk k1 (by rw [kw_names]; exact hks) C.nb (by rw [k2]; rfl)).mono fun σ H Q h => ?_
  have := callK_rd bc (fun c σ s ts s' h => by cases h; rfl) h2 σ H Q h
  obtain ⟨ρ, e, s, rs, re, h⟩ := this
  exact h ρ H [] Ext.refl rs (by simp)
end Rk
end
section
set_option linter.all false
set_option autoImplicit false
set_option maxRecDepth 100000
namespace Rk
open PySem PySem.Spec PyProof.Rows L2

/-! ### names by numbers -/
theorem odd_pow : ∀ (c d a b : Nat), (2 * a + 1) * 2 ^ c = (2 * b + 1) * 2 ^ d → c = d ∧ a = b
  | 0, 0, a, b, h => by simp at h; omega
  | 0, d + 1, a, b, h => by rw [Nat.pow_succ, ← Nat.mul_assoc] at h; simp at h; omega
  | c + 1, 0, a, b, h => by rw [Nat.pow_succ, ← Nat.mul_assoc] at h; simp at h; omega
  | c + 1, d + 1, a, b, h => by
    rw [Nat.pow_succ, Nat.pow_succ, ← Nat.mul_assoc, ← Nat.mul_assoc] at h
    obtain ⟨h1, h2⟩ := odd_pow c d a b (by omega)
    exact ⟨by omega, h2⟩
theorem nk_list : ∀ (a b : List Nat), a.foldr (fun c k => (2 * k + 1) * 2 ^ c) 0 = b.foldr (fun c k => (2 * k + 1) * 2 ^ c) 0 → a = b
  | [], [], _ => rfl
  | [], b :: bs, h => by
    rw [List.foldr_cons, List.foldr_nil] at h
    have : 0 < (2 * bs.foldr (fun c k => (2 * k + 1) * 2 ^ c) 0 + 1) * 2 ^ b := Nat.mul_pos (by omega) (Nat.two_pow_pos b)
    omega
  | a :: as, [], h => by
    rw [List.foldr_cons, List.foldr_nil] at h
    have : 0 < (2 * as.foldr (fun c k => (2 * k + 1) * 2 ^ c) 0 + 1) * 2 ^ a := Nat.mul_pos (by omega) (Nat.two_pow_pos a)
    omega
  | a :: as, b :: bs, h => by
    rw [List.foldr_cons, List.foldr_cons] at h
    obtain ⟨h1, h2⟩ := odd_pow _ _ _ _ h
    rw [h1, nk_list as bs h2]
theorem nk_inj {x y : Str} (h : nk x = nk y) : x = y := by
  have := nk_list _ _ h
  cases x; cases y
  congr 1
  exact Array.toList_inj.mp this
theorem isNm_eq {x y : Str} (h : isNm x y = true) : x = y := nk_inj (Nat.eq_of_beq_eq_true h)
theorem nkb {x y : Str} : Nat.beq (nk x) (nk y) = (x == y) := by
  rw [Bool.eq_iff_iff, Nat.beq_eq]
  constructor
  · intro h; rw [nk_inj h]; simp
  · intro h; rw [eq_of_beq h]
theorem lkS_eq {x : Str} : ∀ {l : List (Str × NameKind)}, lkS (nk x) l = l.lookup x
  | [] => rfl
  | (n, k) :: r => by
    have e : lkS (nk x) ((n, k) :: r) = cond (Nat.beq (nk n) (nk x)) (some k) (lkS (nk x) r) := rfl
    rw [e, List.lookup_cons, nkb, lkS_eq]
    by_cases h : n = x
    · subst h; simp
    · have h1 : (n == x) = false := by simpa using h
      have h2 : (x == n) = false := by simpa using (fun z => h z.symm)
      rw [h1, h2]; rfl
theorem ixS_eq {x : Str} : ∀ {l : List Str} {i : Nat}, ixS (nk x) l = some i → l[i]? = some x
  | [], i, h => nomatch h
  | n :: r, i, h => by
    have e : ixS (nk x) (n :: r) = cond (Nat.beq (nk n) (nk x)) (some 0) (match ixS (nk x) r with | none => none | some i => some (i + 1)) := rfl
    rw [e] at h
    cases hb : Nat.beq (nk n) (nk x) with
    | true =>
      rw [hb] at h; cases h
      rw [nk_inj (Nat.eq_of_beq_eq_true hb)]; rfl
    | false =>
      rw [hb] at h
      cases hr : ixS (nk x) r with
      | none => rw [hr] at h; exact nomatch h
      | some j =>
        rw [hr] at h; cases h
        exact ixS_eq (l := r) hr
theorem kIdx_eq {p : Str} : ∀ {l : List Str}, kIdx l p = l.idxOf p
  | [] => rfl
  | n :: r => by
    have e : kIdx (n :: r) p = cond (Nat.beq (nk n) (nk p)) 0 (kIdx r p + 1) := rfl
    rw [e, nkb, kIdx_eq, List.idxOf_cons]
theorem memK_mem {p : Str} {l : List Str} (h : memK p l = true) : p ∈ l := by
  unfold memK at h
  rw [Nat.blt_eq, kIdx_eq] at h
  exact List.idxOf_lt_length_iff.mp h
theorem nodK_nd : ∀ {l : List Str}, nodK l = true → l.Nodup
  | [], _ => List.nodup_nil
  | n :: r, h => by
    have h : cond (memK n r) false (nodK r) = true := h
    cases hm : memK n r with
    | true => rw [hm] at h; exact nomatch h
    | false =>
      rw [hm] at h
      rw [List.nodup_cons]
      refine ⟨fun z => ?_, nodK_nd h⟩
      have : memK n r = true := by
        unfold memK
        rw [Nat.blt_eq, kIdx_eq]
        exact List.idxOf_lt_length_of_mem z
      rw [this] at hm; cases hm
theorem lookF_eq {k : Nat} : ∀ {l : List (Nat × Nat × List Str)} {v : Nat × List Str}, lookF k l = some v → (k, v) ∈ l
  | [], v, h => nomatch h
  | p :: r, v, h => by
    have e : lookF k (p :: r) = cond (Nat.beq p.1 k) (some p.2) (lookF k r) := rfl
    rw [e] at h
    cases hb : Nat.beq p.1 k with
    | true =>
      rw [hb] at h; cases h
      have := Nat.eq_of_beq_eq_true hb
      subst this
      exact List.mem_cons_self
    | false => rw [hb] at h; exact List.mem_cons_of_mem _ (lookF_eq h)

/-! ### where a text runs -/
structure CtxOk (G : Gc) (X : Cx) (c : Cf) (cc : Cc) : Prop where
  N : X.N = cc.N
  nd : X.N.Nodup
  nb : ∀ x ∈ cc.N, (x == ("__debug__" : Str)) = false ∧ (x == ("__classdict__" : Str)) = false
  sc : X.env.scope.names = cc.sc
  kd : X.env.scope.kind = .function
  calm : X.calm = true
  xe : X.xe = fun _ _ => False
  un : X.A.units + 65 < cLine
  fn : ∀ x, cc.own.lookup x = some .cell → X.fn x = true
  blt : ∀ x ∈ bltN, X.mg x = none
  gcd : G.gcd = true → X.mg "gcd" = some (.builtin "math.gcd")
  cmb : G.cmb = true → X.mg "comb" = some (.builtin "math.comb")
  fns : ∀ x f ps, G.look (nk x) = some (f, ps) → CallOk X c x f ps
  ci : ∀ x n, lookC (nk x) G.ci = some n → (x == ("__debug__" : Str)) = false ∧ ∃ t, X.mg x = some (.int n t)
  cs : ∀ x n, lookC (nk x) G.cs = some n → (x == ("__debug__" : Str)) = false ∧ ∃ t, X.mg x = some (.str ⟨n.toArray⟩ t)
section
variable {G : Gc} {X : Cx} {c : Cf} {cc : Cc}
theorem isG_gl (C : CtxOk G X c cc) {x : Str} (h : isG cc x = true) : Gl X x := by
  unfold isG at h
  rw [lkS_eq, ← C.sc] at h
  show X.env.scope.names.lookup x = some .globalImplicit
  cases e : X.env.scope.names.lookup x with
  | none => rw [e] at h; exact nomatch h
  | some k =>
    rw [e] at h
    cases k <;> first | rfl | exact nomatch h
theorem optB_look (C : CtxOk G X c cc) {x : Str} {f : NameKind → Bool} (h : optB (lkS (nk x) cc.sc) f = true) : ∃ k, X.env.scope.names.lookup x = some k ∧ f k = true := by
  rw [lkS_eq, ← C.sc] at h
  cases e : X.env.scope.names.lookup x with
  | none => rw [e] at h; exact nomatch h
  | some k => rw [e] at h; exact ⟨k, rfl, h⟩
/-! the whole of a compiler's stage -/
structure Snd (G : Gc) (r : Cs comb) : Prop where
  e : ∀ X c cc e, CtxOk G X c cc → PE X e (rdE c (r.e cc e))
  t : ∀ X c cc e, CtxOk G X c cc → PT X e (rdT c (r.t cc e))
  g : ∀ X c cc e, CtxOk G X c cc → PG X e (rdG c (r.g cc e))
  gw : ∀ K c cc cc0 own n e, cc0.N = cc.N → tgOk cc0 own n e = true → ∃ tg, TGw c own (r.g cc e) tg ∧ ∀ X, X.K = K → CtxOk G X c cc → PG X e tg
  s : ∀ X c cc e, CtxOk G X c cc → PS X e (rdS c (r.s cc e))
variable {r : Cs comb}
theorem nS {e : Expr} (h : noStarC e = true) : noStar e = true := by cases e <;> first | rfl | exact h
theorem nSs {es : List Expr} (h : es.all noStarC = true) : es.all noStar = true := by
  rw [List.all_eq_true] at h ⊢
  exact fun e he => nS (h e he)
theorem pI {e : Expr} (h : plainC e = true) : plainIx e = true := by cases e <;> first | rfl | exact h
theorem nC {e : Expr} (h : notCallC e = true) : notCall0 e = true := by
  cases e with
  | Call f es ks p =>
    cases f with
    | Name x q =>
      cases es with
      | nil =>
        cases ks with
        | nil => exact nomatch h
        | cons _ _ => rfl
      | cons _ _ => rfl
    | _ => rfl
  | _ => rfl
theorem nSt {e : Expr} (h : noSetC e = true) : noSet e = true := by cases e <;> first | rfl | exact h
theorem aS_ok (S : Snd G r) (C : CtxOk G X c cc) : ∀ {es : List Expr}, PA X es (rdA c (aS comb r cc es))
  | [] => pa_anil
  | e :: es => by
    show PA X (e :: es) (rdA c (cond (noStarC e) (aCons (r.e cc e) (aS comb r cc es)) aBad))
    cases h : noStarC e with
    | false => exact pa_bad
    | true => exact pa_acons (S.e X c cc e C) (aS_ok S C) (nS h)
theorem aS_len : ∀ {es : List Expr}, es.all noStarC = true → ∀ c σ s ts s', aS comb r cc es c σ s = .ok ts s' → ts.length = es.length
  | [], _, c, σ, s, ts, s', h => by cases h; rfl
  | e :: es, hs, c, σ, s, ts, s', h => by
    rw [List.all_cons, Bool.and_eq_true] at hs
    have e1 : aS comb r cc (e :: es) = cond (noStarC e) (aCons (r.e cc e) (aS comb r cc es)) aBad := rfl
    rw [e1, hs.1] at h
    exact cons_len (fun c σ s ts s' h => aS_len hs.2 c σ s ts s' h) c σ s ts s' h
theorem aK_ok (S : Snd G r) (C : CtxOk G X c cc) : ∀ {es : List Keyword}, PK X es (rdA c (aK comb r cc es))
  | [] => pk_anil
  | ⟨n, e, p⟩ :: es => pk_acons (S.e X c cc e C) (aK_ok S C)
theorem aK_len : ∀ {es : List Keyword} (c σ s ts s'), aK comb r cc es c σ s = .ok ts s' → ts.length = es.length
  | [], c, σ, s, ts, s', h => by cases h; rfl
  | ⟨n, e, p⟩ :: es, c, σ, s, ts, s', h => cons_len (fun c σ s ts s' h => aK_len c σ s ts s' h) c σ s ts s' h
theorem andE_ok (S : Snd G r) (C : CtxOk G X c cc) {pos : Pos} : ∀ {a : Expr} {es : List Expr}, PE X (.BoolOp .And (a :: es) pos) (rdE c (andE comb r cc a es))
  | a, [] => pe_one (S.e X c cc a C)
  | a, b :: es => pe_vand (S.e X c cc a C) (andE_ok S C)
theorem orE_ok (S : Snd G r) (C : CtxOk G X c cc) {pos : Pos} : ∀ {a : Expr} {es : List Expr}, PE X (.BoolOp .Or (a :: es) pos) (rdE c (orE comb r cc a es))
  | a, [] => pe_one (S.e X c cc a C)
  | a, b :: es => pe_vor (S.e X c cc a C) (orE_ok S C)
theorem andT_ok (S : Snd G r) (C : CtxOk G X c cc) {pos : Pos} : ∀ {a : Expr} {es : List Expr}, PW X (.BoolOp .And (a :: es) pos) (rdT c (andT comb r cc a es))
  | a, [] => pw_and1 (S.t X c cc a C)
  | a, b :: es => pw_tand (S.t X c cc a C) (andT_ok S C)
theorem orT_ok (S : Snd G r) (C : CtxOk G X c cc) {pos : Pos} : ∀ {a : Expr} {es : List Expr}, PW X (.BoolOp .Or (a :: es) pos) (rdT c (orT comb r cc a es))
  | a, [] => pw_or1 (S.t X c cc a C)
  | a, b :: es => pw_tor (S.t X c cc a C) (orT_ok S C)
theorem glE_ok (C : CtxOk G X c cc) {x : Str} {pos : Pos} (g : Gl X x) : PE X (.Name x pos) (rdE c (glE comb G x)) := by
  unfold glE
  split
  · rename_i n h
    obtain ⟨h1, t, h2⟩ := C.ci x n h
    exact (pe_glob g h2 (v := .int n) ⟨_, rfl⟩ h1).mono fun σ H Q ⟨ρ, e, s, rs, re, h⟩ => Post.val h rs (by simp)
  · split
    · rename_i n h
      obtain ⟨h1, t, h2⟩ := C.cs x n h
      exact pe_ecst (t := .str n) (pe_glob g h2 (v := .str ⟨n.toArray⟩) ⟨_, rfl⟩ h1) fun ρ H => by simp
    · exact pe_bad
theorem nmE_ok (C : CtxOk G X c cc) {x : Str} {pos : Pos} : PE X (.Name x pos) (rdE c (nmE comb G cc x)) := by
  unfold nmE
  cases h : slot cc x kVis with
  | none =>
    show PE X (.Name x pos) (rdE c (cond (isG cc x) (glE comb G x) eBad))
    cases hg : isG cc x with
    | false => exact pe_bad
    | true => exact glE_ok C (isG_gl C hg)
  | some i =>
    unfold slot at h
    cases hv : optB (lkS (nk x) cc.sc) kVis with
    | false => rw [hv] at h; exact nomatch h
    | true =>
      rw [hv] at h
      obtain ⟨k, hk, hf⟩ := optB_look C hv
      have hi : cc.N[i]? = some x := ixS_eq h
      obtain ⟨b1, b2⟩ := C.nb x (List.mem_of_getElem? hi)
      refine pe_evar (by rw [C.N]; exact hi) ?_ b1 b2
      show X.env.scope.names.lookup x = _ ∨ X.env.scope.names.lookup x = _ ∨ X.env.scope.names.lookup x = _
      rw [hk]
      cases k <;> first | exact .inl rfl | exact .inr (.inl rfl) | exact .inr (.inr rfl) | exact nomatch hf
theorem wrK_ok (C : CtxOk G X c cc) {x : Str} (h : wrK cc x = true) : Loc X.env.scope x ∧ (X.fn x = true ∨ X.env.scope.names.lookup x = some .local) := by
  unfold wrK at h
  cases h1 : optB (lkS (nk x) cc.sc) kLocal with
  | true =>
    obtain ⟨k, hk, hf⟩ := optB_look C h1
    have : k = .local := by cases k <;> first | rfl | exact nomatch hf
    subst this
    exact ⟨.inl hk, .inr hk⟩
  | false =>
    rw [h1] at h
    cases h2 : optB (lkS (nk x) cc.sc) kCell with
    | false => rw [h2] at h; exact nomatch h
    | true =>
      rw [h2] at h
      obtain ⟨k, hk, hf⟩ := optB_look C h2
      have : k = .cell := by cases k <;> first | rfl | exact nomatch hf
      subst this
      refine ⟨.inr hk, .inl (C.fn x ?_)⟩
      have h : optB (lkS (nk x) cc.own) kCell = true := h
      rw [lkS_eq] at h
      cases e : cc.own.lookup x with
      | none => rw [e] at h; exact nomatch h
      | some k => rw [e] at h; cases k <;> first | rfl | exact nomatch h
theorem nmG_ok (C : CtxOk G X c cc) {x : Str} {pos : Pos} : PG X (.Name x pos) (rdG c (nmG comb cc x)) := by
  unfold nmG
  cases h : wrK cc x with
  | false => exact pg_bad
  | true =>
    obtain ⟨h1, h2⟩ := wrK_ok C h
    show PG X (.Name x pos) (rdG c (match ixS (nk x) cc.N with | some i => gN i | none => gBad))
    cases hi : ixS (nk x) cc.N with
    | none => exact pg_bad
    | some i => exact pg_gname C.nd (by rw [C.N]; exact ixS_eq hi) h1 h2
theorem gsS_ok (S : Snd G r) (C : CtxOk G X c cc) : ∀ {es : List Expr} {q : Gs}, gsS comb r cc es = some q → PGs X es (rdGs c q) ∧ es.all noStar = true
  | [], q, h => by cases h; exact ⟨pgs_gnil, rfl⟩
  | e :: es, q, h => by
    have e1 : gsS comb r cc (e :: es) = cond (noStarC e) ((gsS comb r cc es).map fun q => gsCons (r.g cc e) q) none := rfl
    rw [e1] at h
    cases hs : noStarC e with
    | false => rw [hs] at h; exact nomatch h
    | true =>
      rw [hs] at h
      cases hq : gsS comb r cc es with
      | none => rw [hq] at h; exact nomatch h
      | some q' =>
        rw [hq] at h; cases h
        obtain ⟨h1, h3⟩ := gsS_ok S C hq
        exact ⟨pgs_gcons (S.g X c cc e C) h1 (nS hs), by rw [List.all_cons, nS hs, h3]; rfl⟩
theorem gsS_len : ∀ {es : List Expr} {q : Gs}, gsS comb r cc es = some q → GsLen q es.length ∧ es.all noStar = true
  | [], q, h => by cases h; exact ⟨len_nil, rfl⟩
  | e :: es, q, h => by
    have e1 : gsS comb r cc (e :: es) = cond (noStarC e) ((gsS comb r cc es).map fun q => gsCons (r.g cc e) q) none := rfl
    rw [e1] at h
    cases hs : noStarC e with
    | false => rw [hs] at h; exact nomatch h
    | true =>
      rw [hs] at h
      cases hq : gsS comb r cc es with
      | none => rw [hq] at h; exact nomatch h
      | some q' =>
        rw [hq] at h; cases h
        obtain ⟨h1, h3⟩ := gsS_len hq
        exact ⟨len_cons h1, by rw [List.all_cons, nS hs, h3]; rfl⟩
/-! comparisons -/
structure CpOk (X : Cx) (o : CmpOp) (r : R2) : Prop where
  op : OpR X (compareOp o) r
  co : CoT (cpF (cpOf o)) r
  mo : ∀ x y H Q Q', r x y H Q → (∀ k H', Q (.bl k) H' → Q' (.bl k) H') → r x y H Q'
theorem cp_all (C : CtxOk G X c cc) (o : CmpOp) : ∃ r, CpOk X o r := by
  have hu := C.un
  cases o with
  | Eq => exact ⟨_, opr_eq (by omega), cot_eq, fun x y H Q Q' h i => by
      rcases h with ⟨a, b⟩ | ⟨d, e, h1, h2, h3, h4, h5⟩ | ⟨a, b, xs, ys, h1, h2, h3, h4, h5, h6⟩
      · exact .inl ⟨a, i _ _ b⟩
      · exact .inr (.inl ⟨d, e, h1, h2, h3, h4, i _ _ h5⟩)
      · exact .inr (.inr ⟨a, b, xs, ys, h1, h2, h3, h4, h5, i _ _ h6⟩)⟩
  | NotEq => exact ⟨_, opr_ne (by omega), cot_ne, fun x y H Q Q' h i => by
      rcases h with ⟨a, b⟩ | ⟨d, e, h1, h2, h3, h4, h5⟩ | ⟨a, b, xs, ys, h1, h2, h3, h4, h5, h6⟩
      · exact .inl ⟨a, i _ _ b⟩
      · exact .inr (.inl ⟨d, e, h1, h2, h3, h4, i _ _ h5⟩)
      · exact .inr (.inr ⟨a, b, xs, ys, h1, h2, h3, h4, h5, i _ _ h6⟩)⟩
  | Lt => exact ⟨_, opr_lt (by omega), cot_lt, fun x y H Q Q' h i => by
      rcases h with ⟨a, b, h1, h2, h3⟩ | ⟨a, b, n, m, h1, h2, h3, h4, h5⟩
      · exact .inl ⟨a, b, h1, h2, i _ _ h3⟩
      · exact .inr ⟨a, b, n, m, h1, h2, h3, h4, i _ _ h5⟩⟩
  | LtE => exact ⟨_, op_le, cot_le, fun x y H Q Q' ⟨a, b, h1, h2, h3⟩ i => ⟨a, b, h1, h2, i _ _ h3⟩⟩
  | Gt => exact ⟨_, op_gt, cot_gt, fun x y H Q Q' ⟨a, b, h1, h2, h3⟩ i => ⟨a, b, h1, h2, i _ _ h3⟩⟩
  | GtE => exact ⟨_, op_ge, cot_ge, fun x y H Q Q' ⟨a, b, h1, h2, h3⟩ i => ⟨a, b, h1, h2, i _ _ h3⟩⟩
  | Is => exact ⟨_, op_isN, cot_is, fun x y H Q Q' ⟨h1, h2⟩ i => ⟨h1, i _ _ h2⟩⟩
  | IsNot => exact ⟨_, op_notN, cot_isn, fun x y H Q Q' ⟨h1, h2⟩ i => ⟨h1, i _ _ h2⟩⟩
  | In => exact ⟨_, opr_in hu, cot_in, fun x y H Q Q' h i => by
      rcases h with ⟨d, e, h1, h2, h3, h4, h5⟩ | ⟨d, e, h1, h2, h3, h4, h5⟩ | ⟨a, o, h1, h2, h3⟩ | ⟨ch, z, h1, h2, h3⟩
      · exact .inl ⟨d, e, h1, h2, h3, h4, i _ _ h5⟩
      · exact .inr (.inl ⟨d, e, h1, h2, h3, h4, i _ _ h5⟩)
      · exact .inr (.inr (.inl ⟨a, o, h1, h2, i _ _ h3⟩))
      · exact .inr (.inr (.inr ⟨ch, z, h1, h2, i _ _ h3⟩))⟩
  | NotIn => exact ⟨_, opr_nin hu, cot_nin, fun x y H Q Q' h i => by
      rcases h with ⟨d, e, h1, h2, h3, h4, h5⟩ | ⟨d, e, h1, h2, h3, h4, h5⟩ | ⟨a, o, h1, h2, h3⟩ | ⟨ch, z, h1, h2, h3⟩
      · exact .inl ⟨d, e, h1, h2, h3, h4, i _ _ h5⟩
      · exact .inr (.inl ⟨d, e, h1, h2, h3, h4, i _ _ h5⟩)
      · exact .inr (.inr (.inl ⟨a, o, h1, h2, i _ _ h3⟩))
      · exact .inr (.inr (.inr ⟨ch, z, h1, h2, i _ _ h3⟩))⟩
theorem marks_ok {o : CmpOp} {b : Expr} (h : noSetC b = true) : behindInMarks o b = false := by
  cases b <;> first | rfl | exact nomatch h
theorem cmpE_ok (S : Snd G r) (C : CtxOk G X c cc) {a : Expr} {ops : List CmpOp} {bs : List Expr} {pos : Pos} : PE X (.Compare a ops bs pos) (rdE c (cmpE comb r cc a ops bs)) := by
  unfold cmpE
  split
  · rename_i o b
    obtain ⟨q, h⟩ := cp_all C o
    cases hs : noSetC b with
    | false => exact pe_bad
    | true => exact pe_ecmp h.op h.co h.mo (S.e X c cc a C) (S.e X c cc b C) (marks_ok hs)
  · rename_i o o' b d
    obtain ⟨q, h⟩ := cp_all C o
    obtain ⟨q', h'⟩ := cp_all C o'
    cases hs : noSetC d with
    | false => exact pe_bad
    | true => exact pe_ecmp2 h.op h'.op h.co h'.co (S.e X c cc a C) (S.e X c cc b C) (S.e X c cc d C) (marks_ok hs)
  · exact pe_bad
theorem cmpT_ok (S : Snd G r) (C : CtxOk G X c cc) {a : Expr} {ops : List CmpOp} {bs : List Expr} {pos : Pos} : PT X (.Compare a ops bs pos) (rdT c (cmpT comb r cc a ops bs)) := by
  unfold cmpT
  split
  · rename_i o b
    obtain ⟨q, h⟩ := cp_all C o
    cases hs : noSetC b with
    | false => exact pt_bad
    | true => exact pt_tcmp h.op h.co (S.e X c cc a C) (S.e X c cc b C) (marks_ok hs)
  · rename_i o o' b d
    obtain ⟨q, h⟩ := cp_all C o
    obtain ⟨q', h'⟩ := cp_all C o'
    cases hs : noSetC d with
    | false => exact pt_bad
    | true => exact pt_tcmp2 h.op h'.op h.co h'.co (S.e X c cc a C) (S.e X c cc b C) (S.e X c cc d C) (marks_ok hs)
  · exact pt_bad
theorem oE_ok (S : Snd G r) (C : CtxOk G X c cc) {o : Option Expr} : PO X o (rdO c (oE comb r cc o)) := by
  cases o with
  | none => exact po_onone
  | some e => exact po_osome (S.e X c cc e C)
theorem subE_ok (S : Snd G r) (C : CtxOk G X c cc) {a i : Expr} {pos : Pos} : PE X (.Subscript a i pos) (rdE c (subE comb r cc a i)) := by
  have hu := C.un
  unfold subE
  split
  · exact pe_erev (S.e X c cc a C)
  · exact pe_esl (S.e X c cc a C) (oE_ok S C) (oE_ok S C)
  · exact pe_bad
  · rename_i h1 h2 h3
    refine pe_eidx (by omega) (S.e X c cc a C) (S.e X c cc i C) ?_
    cases i <;> first | rfl | skip
    rename_i l u st p
    exact absurd rfl (h3 l u st p)
end
end Rk
end
section
set_option linter.all false
set_option autoImplicit false
set_option maxRecDepth 100000
namespace Rk
open PySem PySem.Spec PyProof.Rows L2

/-! ### list(range), tuple(range) -/
theorem rgK_eq : ∀ (n : Nat) (k : List T → Res), rgK n k = k ((List.range n).map fun i => T.int (.ofNat i))
  | 0, k => rfl
  | n + 1, k => by
    have e : rgK (n + 1) k = rgK n fun r => appK r (.int (.ofNat n)) k := rfl
    rw [e, rgK_eq n, appK_eq, List.range_succ, List.map_append]; rfl
theorem rgV_den {ρ : Nat → Option Addr} {H : Hp} {i : Int} : DenL ρ H ((List.range i.toNat).map fun j => T.int (.ofNat j)) (rgV 0 i) := by
  have e1 : ((List.range i.toNat).map fun j => T.int (.ofNat j)) = ((List.range i.toNat).map fun j => ((j : Nat) : Int)).map T.int := by rw [List.map_map]; rfl
  have e2 : rgV 0 i = ((List.range i.toNat).map fun j => ((j : Nat) : Int)).map V.int := by
    unfold rgV
    rw [Int.sub_zero, List.map_map]
    exact List.map_congr_left fun j _ => by show V.int (0 + (j : Int)) = V.int (j : Int); rw [Int.zero_add]
  rw [e1, e2]
  exact denL_of_ints
theorem rg_rd (b : Bool) {c : Cf} {A : Ev} (σ : L2.St) (H : Hp) (Q : VK) (h : rdE c (eRg b A) σ H Q) : (if b then tTupRg (tRg1 (rdE c A)) σ H Q else tLstRg (tRg1 (rdE c A)) σ H Q) := by
  have key : rdE c A σ H fun x H1 => ∃ n, x = .int n ∧ (RgOk 0 n ∧ ∀ q, H1 q = none → Q (.ref q) (upd H1 q (if b then .tup (rgV 0 n) else .lst (rgV 0 n)))) := by
    obtain ⟨ρ, e, s, rs, re, h⟩ := h
    refine ⟨ρ, e, s, rs, re, (bnd_post rs h).mono fun x H1 ⟨ρ1, s1, t1, e1, r1, d1, p1⟩ => ?_⟩
    obtain ⟨i, rfl, p1⟩ := p1.onInt
    rw [den_int] at d1
    obtain ⟨ht, p1⟩ := p1.ifB
    obtain ⟨hn, p1⟩ := p1.ifB
    have ht := iTn_iff ht
    have hn := Nat.le_of_ble_eq_true hn
    rw [rgK_eq] at p1
    refine ⟨i, d1, ⟨by omega, by omega, by omega, by omega, by omega⟩, fun q hq => ?_⟩
    cases b with
    | true => exact Post.newT p1 r1 rgV_den hq
    | false => exact Post.newL p1 r1 rgV_den hq
  cases b with
  | true => exact key
  | false => exact key

/-! ### built-ins by name -/
section
variable {G : Gc} {X : Cx} {c : Cf} {cc : Cc} {r : Cs comb}
theorem bN (C : CtxOk G X c cc) {x : Str} (h : x ∈ bltN) : X.mg x = none := C.blt x h
theorem rgArg_ok (C : CtxOk G X c cc) {e a : Expr} (h : rgArg cc e = some a) : ∃ p q, e = .Call (.Name "range" p) [a] [] q ∧ Gl X "range" ∧ noStarC a = true := by
  unfold rgArg at h
  split at h
  · rename_i y p a' q
    cases h1 : isG cc y with
    | false => rw [h1] at h; exact nomatch h
    | true =>
      rw [h1] at h
      cases h2 : isNm y "range" with
      | false => rw [h2] at h; exact nomatch h
      | true =>
        rw [h2] at h
        cases h3 : noStarC a' with
        | false => rw [h3] at h; exact nomatch h
        | true =>
          rw [h3] at h
          cases h
          have e := isNm_eq h2; subst e
          exact ⟨p, q, rfl, isG_gl C h1, h3⟩
  · exact nomatch h
theorem zipArg_ok (C : CtxOk G X c cc) {e a : Expr} (h : zipArg cc e = some a) : ∃ p ps q, e = .Call (.Name "zip" p) [.Starred a ps] [] q ∧ Gl X "zip" := by
  unfold zipArg at h
  split at h
  · rename_i y p a' ps q
    cases h1 : isG cc y with
    | false => rw [h1] at h; exact nomatch h
    | true =>
      rw [h1] at h
      cases h2 : isNm y "zip" with
      | false => rw [h2] at h; exact nomatch h
      | true =>
        rw [h2] at h
        cases h
        have e := isNm_eq h2; subst e
        exact ⟨p, ps, q, rfl, isG_gl C h1⟩
  · exact nomatch h
theorem setArg_ok (C : CtxOk G X c cc) {e a : Expr} (h : setArg cc e = some a) : ∃ p q, e = .Call (.Name "set" p) [a] [] q ∧ Gl X "set" ∧ noStarC a = true := by
  unfold setArg at h
  split at h
  · rename_i y p a' q
    cases h1 : isG cc y with
    | false => rw [h1] at h; exact nomatch h
    | true =>
      rw [h1] at h
      cases h2 : isNm y "set" with
      | false => rw [h2] at h; exact nomatch h
      | true =>
        rw [h2] at h
        cases h3 : noStarC a' with
        | false => rw [h3] at h; exact nomatch h
        | true =>
          rw [h3] at h
          cases h
          have e := isNm_eq h2; subst e
          exact ⟨p, q, rfl, isG_gl C h1, h3⟩
  · exact nomatch h
theorem blt1_ok (S : Snd G r) (C : CtxOk G X c cc) {x : Str} {a : Expr} {p pos : Pos} (hg : Gl X x) : PE X (.Call (.Name x p) [a] [] pos) (rdE c (blt1 comb r cc x a)) := by
  unfold blt1
  cases hs : noStarC a with
  | false => exact pe_bad
  | true =>
    have ha := S.e X c cc a C
    have hs := nS hs
    simp only [cond_true]
    by_cases h1 : isNm x "len" = true
    · rw [h1]
      have e := isNm_eq h1; subst e
      cases hsa : setArg cc a with
      | some b =>
        obtain ⟨p2, q, rfl, g2, nb⟩ := setArg_ok C hsa
        exact (pe_lset C.calm (by have := C.un; omega) hg (bN C (by decide +kernel)) g2 (bN C (by decide +kernel)) (S.e X c cc b C) (star_one (nS nb))).mono (ss_rd sf_lset)
      | none => exact (pe_callB call_len hg (bN C (by decide +kernel)) (by decide +kernel) (pa1 ha hs) (by decide +kernel) (by decide +kernel) (star_one hs) rfl).mono len_rd
    rw [Bool.not_eq_true] at h1; rw [h1]; simp only [cond_false]
    by_cases h1 : isNm x "tuple" = true
    · rw [h1]
      have e := isNm_eq h1; subst e
      cases hsa : rgArg cc a with
      | some b =>
        obtain ⟨p2, q, rfl, g2, nb⟩ := rgArg_ok C hsa
        exact (pe_tupRg C.calm hg (bN C (by decide +kernel)) (prg_1 g2 (bN C (by decide +kernel)) (S.e X c cc b C) (star_one (nS nb))) (star_one hs)).mono (rg_rd true)
      | none => exact pe_seqT call_tuple_of sf_tuple hg (bN C (by decide +kernel)) (by decide +kernel) ha hs (by decide +kernel) (by decide +kernel)
    rw [Bool.not_eq_true] at h1; rw [h1]; simp only [cond_false]
    by_cases h1 : isNm x "list" = true
    · rw [h1]
      have e := isNm_eq h1; subst e
      cases hsa : rgArg cc a with
      | some b =>
        obtain ⟨p2, q, rfl, g2, nb⟩ := rgArg_ok C hsa
        exact (pe_listRg C.calm hg (bN C (by decide +kernel)) (prg_1 g2 (bN C (by decide +kernel)) (S.e X c cc b C) (star_one (nS nb))) (star_one hs)).mono (rg_rd false)
      | none =>
        cases hsz : zipArg cc a with
        | some b =>
          obtain ⟨p2, ps, q, rfl, g2⟩ := zipArg_ok C hsz
          exact (pe_zips C.calm hg (bN C (by decide +kernel)) g2 (bN C (by decide +kernel)) (S.e X c cc b C)).mono zips_rd
        | none => exact pe_seqT call_list_of sf_list hg (bN C (by decide +kernel)) (by decide +kernel) ha hs (by decide +kernel) (by decide +kernel)
    rw [Bool.not_eq_true] at h1; rw [h1]; simp only [cond_false]
    by_cases h1 : isNm x "sum" = true
    · rw [h1]
      have e := isNm_eq h1; subst e
      exact pe_seqB (cr_sumA C.calm) sf_sum hg (bN C (by decide +kernel)) (by decide +kernel) ha hs (by decide +kernel) (by decide +kernel)
    rw [Bool.not_eq_true] at h1; rw [h1]; simp only [cond_false]
    by_cases h1 : isNm x "max" = true
    · rw [h1]
      have e := isNm_eq h1; subst e
      exact pe_seqB (cr_extD (b := true) rfl C.calm C.un) (sf_extD (b := true)) hg (bN C (by decide +kernel)) (by decide +kernel) ha hs (by decide +kernel) (by decide +kernel)
    rw [Bool.not_eq_true] at h1; rw [h1]; simp only [cond_false]
    by_cases h1 : isNm x "min" = true
    · rw [h1]
      have e := isNm_eq h1; subst e
      exact pe_seqB (cr_extD (b := false) rfl C.calm C.un) (sf_extD (b := false)) hg (bN C (by decide +kernel)) (by decide +kernel) ha hs (by decide +kernel) (by decide +kernel)
    rw [Bool.not_eq_true] at h1; rw [h1]; simp only [cond_false]
    by_cases h1 : isNm x "any" = true
    · rw [h1]
      have e := isNm_eq h1; subst e
      exact pe_seqB (cr_anyM C.calm) sf_any hg (bN C (by decide +kernel)) (by decide +kernel) ha hs (by decide +kernel) (by decide +kernel)
    rw [Bool.not_eq_true] at h1; rw [h1]; simp only [cond_false]
    by_cases h1 : isNm x "all" = true
    · rw [h1]
      have e := isNm_eq h1; subst e
      exact pe_seqB (cr_allM C.calm) sf_all hg (bN C (by decide +kernel)) (by decide +kernel) ha hs (by decide +kernel) (by decide +kernel)
    rw [Bool.not_eq_true] at h1; rw [h1]; simp only [cond_false]
    by_cases h1 : isNm x "sorted" = true
    · rw [h1]
      have e := isNm_eq h1; subst e
      cases hsa : setArg cc a with
      | some b =>
        obtain ⟨p2, q, rfl, g2, nb⟩ := setArg_ok C hsa
        exact (pe_sset C.calm (by have := C.un; omega) hg (bN C (by decide +kernel)) g2 (bN C (by decide +kernel)) (S.e X c cc b C) (star_one (nS nb))).mono (ss_rd sf_sset)
      | none => exact pe_seqB (cr_sortD C.un) sf_sortD hg (bN C (by decide +kernel)) (by decide +kernel) ha hs (by decide +kernel) (by decide +kernel)
    rw [Bool.not_eq_true] at h1; rw [h1]; simp only [cond_false]
    by_cases h1 : isNm x "abs" = true
    · rw [h1]
      have e := isNm_eq h1; subst e
      exact (pe_callB call_abs hg (bN C (by decide +kernel)) (by decide +kernel) (pa1 ha hs) (by decide +kernel) (by decide +kernel) (star_one hs) rfl).mono (one_call k_abs)
    rw [Bool.not_eq_true] at h1; rw [h1]; simp only [cond_false]
    by_cases h1 : isNm x "int" = true
    · rw [h1]
      have e := isNm_eq h1; subst e
      exact (pe_callTy call_int1 hg (bN C (by decide +kernel)) (by decide +kernel) (pa1 ha hs) (by decide +kernel) (by decide +kernel) (star_one hs) rfl).mono (one_call k_int)
    rw [Bool.not_eq_true] at h1; rw [h1]
    exact pe_bad
theorem tyOf_ok (C : CtxOk G X c cc) {x : Str} {n : Nat} {p : Pos} (h : tyOf cc x = some n) : n < 5 ∧ PE X (.Name x p) (tC (.ty (tyN n))) := by
  unfold tyOf at h
  cases hg : isG cc x with
  | false => rw [hg] at h; exact nomatch h
  | true =>
    rw [hg] at h
    have gl := isG_gl C hg
    simp only [cond_true] at h
    by_cases h1 : isNm x "int" = true
    · rw [h1] at h; cases h
      have e := isNm_eq h1; subst e
      exact ⟨by omega, pe_bltn gl (bN C (by decide +kernel)) (u := .type "int") (by decide +kernel) rfl (by decide +kernel) (by decide +kernel)⟩
    rw [Bool.not_eq_true] at h1; rw [h1] at h; simp only [cond_false] at h
    by_cases h1 : isNm x "bool" = true
    · rw [h1] at h; cases h
      have e := isNm_eq h1; subst e
      exact ⟨by omega, pe_bltn gl (bN C (by decide +kernel)) (u := .type "bool") (by decide +kernel) rfl (by decide +kernel) (by decide +kernel)⟩
    rw [Bool.not_eq_true] at h1; rw [h1] at h; simp only [cond_false] at h
    by_cases h1 : isNm x "str" = true
    · rw [h1] at h; cases h
      have e := isNm_eq h1; subst e
      exact ⟨by omega, pe_bltn gl (bN C (by decide +kernel)) (u := .type "str") (by decide +kernel) rfl (by decide +kernel) (by decide +kernel)⟩
    rw [Bool.not_eq_true] at h1; rw [h1] at h; simp only [cond_false] at h
    by_cases h1 : isNm x "tuple" = true
    · rw [h1] at h; cases h
      have e := isNm_eq h1; subst e
      exact ⟨by omega, pe_bltn gl (bN C (by decide +kernel)) (u := .type "tuple") (by decide +kernel) rfl (by decide +kernel) (by decide +kernel)⟩
    rw [Bool.not_eq_true] at h1; rw [h1] at h; simp only [cond_false] at h
    by_cases h1 : isNm x "list" = true
    · rw [h1] at h; cases h
      have e := isNm_eq h1; subst e
      exact ⟨by omega, pe_bltn gl (bN C (by decide +kernel)) (u := .type "list") (by decide +kernel) rfl (by decide +kernel) (by decide +kernel)⟩
    rw [Bool.not_eq_true] at h1; rw [h1] at h; exact nomatch h
theorem tysOf_ok (C : CtxOk G X c cc) : ∀ {es : List Expr} {ns : List Nat}, tysOf cc es = some ns → (∀ n ∈ ns, n < 5) ∧ ns.length = es.length ∧ ∃ ta, PA X es ta ∧ ∀ σ H (Q : List V → Hp → Prop), Q (ns.map fun n => V.ty (tyN n)) H → ta σ H Q
  | [], ns, h => by cases h; exact ⟨by simp, rfl, _, pa_nil, fun σ H Q q => q⟩
  | e :: es, ns, h => by
    cases e with
    | Name x p =>
      have e1 : tysOf cc (.Name x p :: es) = (tyOf cc x).bind fun n => (tysOf cc es).map fun ns => n :: ns := rfl
      rw [e1] at h
      cases hn : tyOf cc x with
      | none => rw [hn] at h; exact nomatch h
      | some n =>
        rw [hn] at h
        cases hs : tysOf cc es with
        | none => rw [hs] at h; exact nomatch h
        | some ms =>
          rw [hs] at h; cases h
          obtain ⟨h1, h2⟩ := tyOf_ok C (p := p) hn
          obtain ⟨k1, k2, ta, k3, k4⟩ := tysOf_ok C hs
          refine ⟨fun m hm => ?_, by simp [k2], _, pa_cons h2 k3 (star_one rfl), fun σ H Q q => k4 σ H _ q⟩
          rcases List.mem_cons.mp hm with rfl | hm
          · exact h1
          · exact k1 m hm
    | _ => exact nomatch h
theorem isinE_ok (S : Snd G r) (C : CtxOk G X c cc) {a t : Expr} {p pos : Pos} (hg : Gl X "isinstance") : PE X (.Call (.Name "isinstance" p) [a, t] [] pos) (rdE c (isinE comb r cc a t)) := by
  unfold isinE
  cases hs : noStarC a with
  | false => exact pe_bad
  | true =>
    have ha := S.e X c cc a C
    have hs := nS hs
    simp only [cond_true]
    have hb : bootBuiltins "isinstance" = some (.builtin "isinstance") := by decide +kernel
    cases t with
    | Name y py =>
      show PE X _ (rdE c (match tyOf cc y with | some n => eTst (tIsin (r.e cc a) [n]) | none => eBad))
      cases hn : tyOf cc y with
      | none => exact pe_bad
      | some n =>
        obtain ⟨h1, h2⟩ := tyOf_ok C (p := py) hn
        exact (pe_callB call_isi hg (bN C (by decide +kernel)) hb (pa2 ha h2 hs rfl) (by decide +kernel) (by decide +kernel) (star_one hs) rfl).mono fun σ H Q h => isin1_rd h1 σ H Q (etst_of h)
    | Tuple es k py =>
      show PE X _ (rdE c (cond (Nat.ble es.length 5) (match tysOf cc es with | some ns => eTst (tIsin (r.e cc a) ns) | none => eBad) eBad))
      cases hl : Nat.ble es.length 5 with
      | false => exact pe_bad
      | true =>
        show PE X _ (rdE c (match tysOf cc es with | some ns => eTst (tIsin (r.e cc a) ns) | none => eBad))
        cases hn : tysOf cc es with
        | none => exact pe_bad
        | some ns =>
          obtain ⟨k1, k2, ta, k3, k4⟩ := tysOf_ok C hn
          have hl := Nat.le_of_ble_eq_true hl
          refine (pe_callB call_isiT hg (bN C (by decide +kernel)) hb (pa2 ha (pe_tup k3) hs rfl) (by decide +kernel) (by decide +kernel) (star_one hs) rfl).mono fun σ H Q h => isinT_rd k1 k4 (by omega) σ H Q ?_
          obtain ⟨ρ, e, s, rs, re, h⟩ := h
          refine ⟨ρ, e, s, rs, re, (bndT_gen stb_E neE rs h).mono fun x H1 ⟨ρ1, s1, e1, r1, p1⟩ q hq => ?_⟩
          have ex : Ext ρ1 s1 H1 ρ1 s1 (upd H1 q (.tup (ns.map fun n => V.ty (tyN n)))) := Ext.fresh hq
          exact Post.val (Post.step r1 (r1.fresh hq) ex p1) (r1.fresh hq) (by simp)
    | _ => exact pe_bad
theorem blt2_ok (S : Snd G r) (C : CtxOk G X c cc) {x : Str} {a b : Expr} {p pos : Pos} (hg : Gl X x) : PE X (.Call (.Name x p) [a, b] [] pos) (rdE c (blt2 comb r G cc x a b)) := by
  unfold blt2
  by_cases h1 : isNm x "isinstance" = true
  · rw [h1]
    have e := isNm_eq h1; subst e
    exact isinE_ok S C hg
  rw [Bool.not_eq_true] at h1; rw [h1]; simp only [cond_false]
  cases hs : noStarC a with
  | false => exact pe_bad
  | true =>
    cases hs2 : noStarC b with
    | false => exact pe_bad
    | true =>
      have ha := S.e X c cc a C
      have hb := S.e X c cc b C
      have hs := nS hs
      have hs2 := nS hs2
      simp only [cond_true]
      by_cases h1 : isNm x "max" = true
      · rw [h1]
        have e := isNm_eq h1; subst e
        exact (pe_callB (call_max2 C.calm) hg (bN C (by decide +kernel)) (by decide +kernel) (pa2 ha hb hs hs2) (by decide +kernel) (by decide +kernel) (star_one hs) (by rw [star_one hs2]; rfl)).mono (two_call k_max)
      rw [Bool.not_eq_true] at h1; rw [h1]; simp only [cond_false]
      by_cases h1 : isNm x "min" = true
      · rw [h1]
        have e := isNm_eq h1; subst e
        exact (pe_callB (call_min2 C.calm) hg (bN C (by decide +kernel)) (by decide +kernel) (pa2 ha hb hs hs2) (by decide +kernel) (by decide +kernel) (star_one hs) (by rw [star_one hs2]; rfl)).mono (two_call k_min)
      rw [Bool.not_eq_true] at h1; rw [h1]; simp only [cond_false]
      by_cases h1 : isNm x "gcd" = true
      · rw [h1]
        have e := isNm_eq h1; subst e
        simp only [cond_true]
        cases hgc : G.gcd with
        | false => exact pe_bad
        | true => exact (pe_callBfun cr_gcd hg (C.gcd hgc) (pa2 ha hb hs hs2) (by decide +kernel) (star_one hs) (by rw [star_one hs2]; rfl)).mono (two_call k_gcd)
      rw [Bool.not_eq_true] at h1; rw [h1]; simp only [cond_false]
      by_cases h1 : isNm x "comb" = true
      · rw [h1]
        have e := isNm_eq h1; subst e
        simp only [cond_true]
        cases hgc : G.cmb with
        | false => exact pe_bad
        | true => exact (pe_callBfun cr_comb hg (C.cmb hgc) (pa2 ha hb hs hs2) (by decide +kernel) (star_one hs) (by rw [star_one hs2]; rfl)).mono (two_call k_comb)
      rw [Bool.not_eq_true] at h1; rw [h1]
      exact pe_bad
theorem bindB_ok {ps ks : List Str} {n : Nat} (h : bindB ps n ks = true) : BindC ps n ks := by
  unfold bindB at h
  simp only [Bool.and_eq_true, List.all_eq_true] at h
  obtain ⟨⟨⟨h1, h2⟩, h3⟩, h4⟩ := h
  exact ⟨Nat.le_of_ble_eq_true h1, nodK_nd h2, fun k hk => memK_mem (h3 k hk), fun p hp => memK_mem (h4 p hp)⟩
theorem kw_len : ∀ {kws : List Keyword}, (kws.all fun k => k.arg.isSome) = true → (kws.filterMap fun k => k.arg).length = kws.length
  | [], _ => rfl
  | ⟨n, e, p⟩ :: kws, h => by
    rw [List.all_cons, Bool.and_eq_true] at h
    cases n with
    | none => exact nomatch h.1
    | some k =>
      have ih := kw_len h.2
      simp [List.filterMap_cons, ih]
theorem ownE_ok (S : Snd G r) (C : CtxOk G X c cc) {x : Str} {f : Nat} {ps : List Str} {es : List Expr} {kws : List Keyword} {p pos : Pos} (K : CallOk X c x f ps) (hg : Gl X x) : PE X (.Call (.Name x p) es kws pos) (rdE c (ownE comb r cc f ps es kws)) := by
  unfold ownE
  cases kws with
  | nil =>
    show PE X _ (rdE c (cond (Nat.beq es.length ps.length) (cond (es.all noStarC) (eCall f (aS comb r cc es)) eBad) eBad))
    cases hl : Nat.beq es.length ps.length with
    | false => exact pe_bad
    | true =>
      have hl := Nat.eq_of_beq_eq_true hl
      cases hs : es.all noStarC with
      | false => exact pe_bad
      | true =>
        cases es with
        | nil =>
          cases ps with
          | nil => exact pe_ecall0 K hg
          | cons _ _ => exact nomatch hl
        | cons e es => exact pe_ecall K hg (aS_ok S C) (fun c σ s ts s' h => (aS_len hs c σ s ts s' h).trans hl) (nSs hs)
  | cons k kws =>
    generalize hks : ((k :: kws).filterMap fun k => k.arg) = ks
    show PE X _ (rdE c (cond (es.all noStarC) (cond ((k :: kws).all fun k => k.arg.isSome) (cond (bindB ps es.length ks) (eCallK f (ps.map fun p => kIdx (ps.take es.length ++ ks) p) (aS comb r cc es) (aK comb r cc (k :: kws))) eBad) eBad) eBad))
    cases hs : es.all noStarC with
    | false => exact pe_bad
    | true =>
      cases ha : ((k :: kws).all fun k => k.arg.isSome) with
      | false => exact pe_bad
      | true =>
        cases hb : bindB ps es.length ks with
        | false => exact pe_bad
        | true =>
          have ep : (ps.map fun p => kIdx (ps.take es.length ++ ks) p) = ps.map fun p => (ps.take es.length ++ ks).idxOf p := by
            congr 1; funext p; exact kIdx_eq
          show PE X _ (rdE c (eCallK f (ps.map fun p => kIdx (ps.take es.length ++ ks) p) (aS comb r cc es) (aK comb r cc (k :: kws))))
          rw [ep]
          have hk2 : ∀ c σ s ts s', aK comb r cc (k :: kws) c σ s = .ok ts s' → ts.length = ks.length := fun c σ s ts s' h => by rw [aK_len c σ s ts s' h, ← hks, kw_len ha]
          cases es with
          | nil => exact pe_ecallK0 K hg (bindB_ok hb) (aK_ok S C) hk2 hks ha
          | cons e es => exact pe_ecallK K hg (bindB_ok hb) (aS_ok S C) (aK_ok S C) (fun c σ s ts s' h => aS_len hs c σ s ts s' h) hk2 (nSs hs) hks ha
theorem methE_ok (S : Snd G r) (C : CtxOk G X c cc) {o : Expr} {m : Str} {es : List Expr} {apos cpos : Pos} : PE X (.Call (.Attribute o m apos) es [] cpos) (rdE c (methE comb r cc o m apos es cpos)) := by
  unfold methE
  cases hb : notCallC o with
  | false => exact pe_bad
  | true =>
    cases hl : Nat.beq apos.endLine cpos.line with
    | false => exact pe_bad
    | true =>
      have hl : (apos.endLine == cpos.line) = true := by rw [Nat.eq_of_beq_eq_true hl]; simp
      have ho := S.e X c cc o C
      simp only [cond_true]
      cases es with
      | nil =>
        show PE X _ (rdE c (cond (isNm m "pop") (eMt0 mPop (r.e cc o)) eBad))
        by_cases h1 : isNm m "pop" = true
        · rw [h1]
          have e := isNm_eq h1; subst e
          exact pe_pop ho (nC hb) hl
        · rw [Bool.not_eq_true] at h1; rw [h1]; exact pe_bad
      | cons a es =>
        cases es with
        | nil =>
          show PE X _ (rdE c (cond (noStarC a) (cond (isNm m "append") (eMt1 mAppend (r.e cc o) (r.e cc a)) (cond (isNm m "extend") (eMt1 mExtend (r.e cc o) (r.e cc a)) (cond (isNm m "get") (eGet1 (r.e cc o) (r.e cc a)) (cond (isNm m "count") (eMt1 mCount (r.e cc o) (r.e cc a)) (cond (isNm m "index") (eMt1 mIndex (r.e cc o) (r.e cc a)) (cond (isNm m "remove") (eMt1 mRemove (r.e cc o) (r.e cc a)) eBad)))))) eBad))
          cases hs : noStarC a with
          | false => exact pe_bad
          | true =>
            have ha := S.e X c cc a C
            simp only [cond_true]
            by_cases h1 : isNm m "append" = true
            · rw [h1]
              have e := isNm_eq h1; subst e
              exact pe_append ho ha (nS hs) (nC hb) hl
            rw [Bool.not_eq_true] at h1; rw [h1]; simp only [cond_false]
            by_cases h1 : isNm m "extend" = true
            · rw [h1]
              have e := isNm_eq h1; subst e
              exact pe_extend ho ha (nS hs) (nC hb) hl
            rw [Bool.not_eq_true] at h1; rw [h1]; simp only [cond_false]
            by_cases h1 : isNm m "get" = true
            · rw [h1]
              have e := isNm_eq h1; subst e
              exact pe_get1 (by have := C.un; omega) ho ha (nS hs) (nC hb) hl
            rw [Bool.not_eq_true] at h1; rw [h1]; simp only [cond_false]
            by_cases h1 : isNm m "count" = true
            · rw [h1]
              have e := isNm_eq h1; subst e
              exact pe_count ho ha (nS hs) (nC hb) hl
            rw [Bool.not_eq_true] at h1; rw [h1]; simp only [cond_false]
            by_cases h1 : isNm m "index" = true
            · rw [h1]
              have e := isNm_eq h1; subst e
              exact pe_index ho ha (nS hs) (nC hb) hl
            rw [Bool.not_eq_true] at h1; rw [h1]; simp only [cond_false]
            by_cases h1 : isNm m "remove" = true
            · rw [h1]
              have e := isNm_eq h1; subst e
              exact pe_remove ho ha (nS hs) (nC hb) hl
            rw [Bool.not_eq_true] at h1; rw [h1]
            exact pe_bad
        | cons b es =>
          cases es with
          | cons _ _ => exact pe_bad
          | nil =>
            show PE X _ (rdE c (cond (noStarC a) (cond (noStarC b) (cond (isNm m "get") (eGet2 (r.e cc o) (r.e cc a) (r.e cc b)) (cond (isNm m "setdefault") (eSetd (r.e cc o) (r.e cc a) (r.e cc b)) eBad)) eBad) eBad))
            cases hs : noStarC a with
            | false => exact pe_bad
            | true =>
              cases hs2 : noStarC b with
              | false => exact pe_bad
              | true =>
                have ha := S.e X c cc a C
                have hbb := S.e X c cc b C
                simp only [cond_true]
                by_cases h1 : isNm m "get" = true
                · rw [h1]
                  have e := isNm_eq h1; subst e
                  exact pe_get2 (by have := C.un; omega) ho ha hbb (nS hs) (nS hs2) (nC hb) hl
                rw [Bool.not_eq_true] at h1; rw [h1]; simp only [cond_false]
                by_cases h1 : isNm m "setdefault" = true
                · rw [h1]
                  have e := isNm_eq h1; subst e
                  exact pe_setd (by have := C.un; omega) ho ha hbb (nS hs) (nS hs2) (nC hb) hl
                rw [Bool.not_eq_true] at h1; rw [h1]
                exact pe_bad
theorem callE_ok (S : Snd G r) (C : CtxOk G X c cc) {f : Expr} {es : List Expr} {kws : List Keyword} {cpos : Pos} : PE X (.Call f es kws cpos) (rdE c (callE comb r G cc f es kws cpos)) := by
  unfold callE
  split
  · rename_i x p
    cases hg : isG cc x with
    | false => exact pe_bad
    | true =>
      have gl := isG_gl C hg
      simp only [cond_true]
      cases hl : G.look (nk x) with
      | some q =>
        obtain ⟨f, ps⟩ := q
        exact ownE_ok S C (C.fns x f ps hl) gl
      | none =>
        cases kws with
        | cons _ _ => exact pe_bad
        | nil =>
          cases es with
          | nil => exact pe_bad
          | cons a es =>
            cases es with
            | nil => exact blt1_ok S C gl
            | cons b es =>
              cases es with
              | nil => exact blt2_ok S C gl
              | cons _ _ => exact pe_bad
  · cases kws with
    | cons _ _ => exact pe_bad
    | nil => exact methE_ok S C
  · exact pe_bad
/-! ### what a loop walks -/
theorem tup_of {tg : Expr} (h : isTupC tg = true) : ∃ es k p, tg = .Tuple es k p := by
  cases tg <;> first | exact ⟨_, _, _, rfl⟩ | exact nomatch h
theorem callI_ok (S : Snd G r) (C : CtxOk G X c cc) {tg : Expr} {x : Str} {es : List Expr} {i : Iv} {p pos : Pos} (h : callI comb r cc tg x es = some i) : PI X tg (.Call (.Name x p) es [] pos) (rdI c i) := by
  unfold callI at h
  cases hg : isG cc x with
  | false => rw [hg] at h; exact nomatch h
  | true =>
    rw [hg] at h
    have gl := isG_gl C hg
    simp only [cond_true] at h
    cases es with
    | nil => exact nomatch h
    | cons a es =>
      cases es with
      | nil =>
        dsimp only at h
        cases hs : noStarC a with
        | false => rw [hs] at h; exact nomatch h
        | true =>
          rw [hs] at h
          simp only [cond_true] at h
          have ha := S.e X c cc a C
          by_cases h1 : isNm x "range" = true
          · rw [h1] at h; cases h
            have e := isNm_eq h1; subst e
            exact pi_irng1 gl (bN C (by decide +kernel)) ha (nS hs)
          rw [Bool.not_eq_true] at h1; rw [h1] at h; simp only [cond_false] at h
          cases ht : isTupC tg with
          | false => rw [ht] at h; exact nomatch h
          | true =>
            rw [ht] at h
            simp only [cond_true] at h
            obtain ⟨us, k, q, rfl⟩ := tup_of ht
            by_cases h1 : isNm x "enumerate" = true
            · rw [h1] at h; cases h
              have e := isNm_eq h1; subst e
              exact pi_ienum gl (bN C (by decide +kernel)) ha (nS hs)
            rw [Bool.not_eq_true] at h1; rw [h1] at h; exact nomatch h
      | cons b es =>
        cases es with
        | cons _ _ => exact nomatch h
        | nil =>
          dsimp only at h
          cases hs : noStarC a with
          | false => rw [hs] at h; exact nomatch h
          | true =>
            cases hs2 : noStarC b with
            | false => rw [hs, hs2] at h; exact nomatch h
            | true =>
              rw [hs, hs2] at h
              simp only [cond_true] at h
              have ha := S.e X c cc a C
              have hb := S.e X c cc b C
              by_cases h1 : isNm x "range" = true
              · rw [h1] at h; cases h
                have e := isNm_eq h1; subst e
                exact pi_irng2 gl (bN C (by decide +kernel)) ha hb (nS hs) (nS hs2)
              rw [Bool.not_eq_true] at h1; rw [h1] at h; simp only [cond_false] at h
              cases ht : isTupC tg with
              | false => rw [ht] at h; exact nomatch h
              | true =>
                rw [ht] at h
                simp only [cond_true] at h
                obtain ⟨us, k, q, rfl⟩ := tup_of ht
                by_cases h1 : isNm x "zip" = true
                · rw [h1] at h; cases h
                  have e := isNm_eq h1; subst e
                  exact pi_izip gl (bN C (by decide +kernel)) ha hb (nS hs) (nS hs2)
                rw [Bool.not_eq_true] at h1; rw [h1] at h; exact nomatch h
theorem itG_ok (S : Snd G r) (C : CtxOk G X c cc) {tg e : Expr} : PI X tg e (rdI c (itG comb r cc tg e)) := by
  unfold itG
  split
  · rename_i x p es pos
    cases h : callI comb r cc tg x es with
    | none => exact pi_iseq (S.e X c cc _ C)
    | some i => exact callI_ok S C h
  · exact pi_iseq (S.e X c cc _ C)
theorem spI_ok (S : Snd G r) (C : CtxOk G X c cc) {tg e : Expr} {i : Iv} (h : spI comb r cc tg e = some i) : PI X tg e (rdI c i) := by
  unfold spI at h
  split at h
  · rename_i y py x px a ps pc
    cases h1 : isG cc x with
    | false => rw [h1] at h; exact nomatch h
    | true =>
      rw [h1] at h
      simp only [cond_true] at h
      cases h2 : isNm x "zip" with
      | false => rw [h2] at h; exact nomatch h
      | true =>
        rw [h2] at h
        cases h
        have e := isNm_eq h2; subst e
        exact (pi_zipN C.calm (isG_gl C h1) (bN C (by decide +kernel)) (S.e X c cc a C)).mono zipN_rd
  · exact nomatch h
theorem itI_ok (S : Snd G r) (C : CtxOk G X c cc) {tg e : Expr} : PI X tg e (rdI c (itI comb r cc tg e)) := by
  unfold itI
  cases h : spI comb r cc tg e with
  | none => exact itG_ok S C
  | some i => exact spI_ok S C h
end
end Rk
end
section
set_option linter.all false
set_option autoImplicit false
set_option maxRecDepth 100000
namespace Rk
open PySem PySem.Spec PyProof.Rows L2
section
variable {G : Gc} {X : Cx} {c : Cf} {cc : Cc} {r : Cs comb}
/-! ### comprehensions -/
theorem ownP_ix {N : List Str} : ∀ {names : List (Str × NameKind)} {p : Str × Nat}, p ∈ ownP N names → N[p.2]? = some p.1
  | [], p, h => by cases h
  | (x, k) :: rs, p, h => by
    have e : ownP N ((x, k) :: rs) = cond (kLoc k) (match ixS (nk x) N with | some i => (x, i) :: ownP N rs | none => ownP N rs) (ownP N rs) := rfl
    rw [e] at h
    cases hk : kLoc k with
    | false => rw [hk] at h; exact ownP_ix h
    | true =>
      rw [hk] at h
      simp only [cond_true] at h
      cases hi : ixS (nk x) N with
      | none => rw [hi] at h; exact ownP_ix h
      | some i =>
        rw [hi] at h
        rcases List.mem_cons.mp h with rfl | h
        · exact ixS_eq hi
        · exact ownP_ix h
theorem ownP_mem {N : List Str} : ∀ {names : List (Str × NameKind)} {y : Str × NameKind}, y ∈ names → kLoc y.2 = true → (ixS (nk y.1) N).isSome = true → y.1 ∈ (ownP N names).map (·.1)
  | (x, k) :: rs, y, h, hl, hs => by
    have e : ownP N ((x, k) :: rs) = cond (kLoc k) (match ixS (nk x) N with | some i => (x, i) :: ownP N rs | none => ownP N rs) (ownP N rs) := rfl
    rw [e]
    rcases List.mem_cons.mp h with rfl | h
    · simp only at hl hs
      rw [hl]
      cases hi : ixS (nk x) N with
      | none => rw [hi] at hs; exact nomatch hs
      | some i => simp
    · have ih := ownP_mem h hl hs
      cases hk : kLoc k with
      | false => exact ih
      | true =>
        simp only [cond_true]
        cases hi : ixS (nk x) N with
        | none => exact ih
        | some i => simp only [List.map_cons, List.mem_cons]; exact .inr ih
theorem eqK_eq {a b : NameKind} (h : eqK a b = true) : a = b := by cases a <;> cases b <;> first | rfl | exact nomatch h
theorem blkB_ok (C : CtxOk G X c cc) {scope : Scope} (h : blkB cc scope = true) : BlkOk X.N X.env.scope scope (ownP cc.N scope.names) ∧ scope.kind = .function := by
  unfold blkB at h
  simp only [Bool.and_eq_true, List.all_eq_true] at h
  obtain ⟨⟨⟨h1, h2⟩, h3⟩, h4⟩ := h
  have hk : scope.kind = .function := by
    revert h1
    cases scope.kind <;> intro h1 <;> first | rfl | exact nomatch h1
  refine ⟨⟨hk, fun y hy => ?_, fun p hp => by rw [C.N]; exact ownP_ix hp, fun y hy hf => ?_, fun y hy hl => ?_⟩, hk⟩
  · have := h2 y hy
    rw [lkS_eq] at this
    cases e : scope.names.lookup y.1 with
    | none => rw [e] at this; exact nomatch this
    | some k => rw [e] at this; rw [eqK_eq this]
  · have := h3 y hy
    rw [hf] at this
    have this : optB (lkS (nk y.1) cc.sc) (fun k => cond (kCell k) true (kFree k)) = true := this
    obtain ⟨k, hk, hk2⟩ := optB_look C this
    rw [hk]
    cases k <;> first | exact .inl rfl | exact .inr rfl | exact nomatch hk2
  · refine .inl (ownP_mem hy ?_ ?_)
    · rcases hl with hl | hl <;> rw [hl] <;> rfl
    · have := h4 y hy
      have hkl : kLoc y.2 = true := by rcases hl with hl | hl <;> rw [hl] <;> rfl
      rw [hkl] at this
      exact this
theorem relN_eq {scope sc : Scope} (hk : sc.kind = .function) : (relS scope sc).names = relN scope.names sc.names := by
  show scope.names.map _ = scope.names.map _
  congr 1
  funext p
  obtain ⟨n, k⟩ := p
  show (if (k == .free && sc.kind == .function && sc.names.lookup n == some .cell) then (n, NameKind.cell) else (n, k)) = (n, cond (kFree k) (cond (optB (lkS (nk n) sc.names) kCell) .cell k) k)
  rw [hk, lkS_eq]
  cases k with
  | free =>
    cases e : sc.names.lookup n with
    | none => rfl
    | some q => cases q <;> rfl
  | _ => rfl
theorem ctx_blk (C : CtxOk G X c cc) {scope : Scope} (hb : blkB cc scope = true) (s : Shared) (H : Hp) (Ca : Addr) (cl : List (Str × Addr)) (fp : List Addr) : CtxOk G (X.blk s H scope (compEnvC scope cl Ca X.env) fp) c (cc1 cc scope) := by
  obtain ⟨_, hk⟩ := blkB_ok C hb
  refine ⟨C.N, C.nd, C.nb, ?_, ?_, C.calm, rfl, C.un, fun x hx => ?_, C.blt, C.gcd, C.cmb, fun x f ps h => ?_, C.ci, C.cs⟩
  · show (relS scope X.env.scope).names = relN scope.names cc.sc
    rw [relN_eq C.kd, C.sc]
  · exact hk
  · show (scope.names.lookup x == some .cell) = true
    have hx : scope.names.lookup x = some .cell := hx
    rw [hx]; rfl
  · obtain ⟨h1, h2, h3⟩ := C.fns x f ps h
    exact ⟨h1, h2, h3⟩
theorem ifT_ok (S : Snd G r) (C : CtxOk G X c cc) {ifs : List Expr} {t : Tv} (h : ifT comb r cc ifs = some t) : PTs X ifs (rdT c t) := by
  unfold ifT at h
  cases ifs with
  | nil => cases h; exact pts_yes
  | cons e es =>
    cases es with
    | nil => cases h; exact pts_one (S.t X c cc e C)
    | cons _ _ => exact nomatch h
/-- what is at hand for a comprehension of one clause, of two -/
inductive LcOk (X : Cx) (c : Cf) : Expr → Ev → Prop
  | bad {e} : LcOk X c e eBad
  /-- with a thing locked all the while -/
  | sp {elt tg iter : Expr} {scope : Scope} {pos : Pos} {own : List (Str × Nat)} {E : Ev} {gt : TG} {wi : TI} {te : TE} (hi : PI X tg iter wi) (ok : BlkOk X.N X.env.scope scope own)
      (hg : ∀ (s : Shared) (H : Hp) (C : Addr) (cl : List (Str × Addr)) (fp : List Addr), PG (X.blk s H scope (compEnvC scope cl C X.env) fp) tg gt)
      (he : ∀ (s : Shared) (H : Hp) (C : Addr) (cl : List (Str × Addr)) (fp : List Addr), PE (X.blk s H scope (compEnvC scope cl C X.env) fp) elt te) (hs : noSet iter = true)
      (rd : ∀ σ H Q, rdE c E σ H Q → tLockE (tLc wi gt L2.tYes te (own.map (·.2))) σ H Q) :
      LcOk X c (.ListComp elt [⟨tg, iter, [], 0⟩] scope pos) E
  | one {elt tg iter : Expr} {ifs : List Expr} {scope : Scope} {pos : Pos} {own : List (Str × Nat)} {E : Ev} {g : Gv} {gt : TG} {I : Iv} {t : Tv} (hi : PI X tg iter (rdI c I)) (ok : BlkOk X.N X.env.scope scope own)
      (hg : ∀ (s : Shared) (H : Hp) (C : Addr) (cl : List (Str × Addr)) (fp : List Addr), PG (X.blk s H scope (compEnvC scope cl C X.env) fp) tg gt) (hw : TGw c (own.map (·.2)) g gt)
      (ht : ∀ (s : Shared) (H : Hp) (C : Addr) (cl : List (Str × Addr)) (fp : List Addr), PTs (X.blk s H scope (compEnvC scope cl C X.env) fp) ifs (rdT c t))
      (he : ∀ (s : Shared) (H : Hp) (C : Addr) (cl : List (Str × Addr)) (fp : List Addr), PE (X.blk s H scope (compEnvC scope cl C X.env) fp) elt (rdE c E)) (hs : noSet iter = true) :
      LcOk X c (.ListComp elt [⟨tg, iter, ifs, 0⟩] scope pos) (eComp (own.map (·.2)) E g I t)
  | two {elt tg iter tg1 iter1 : Expr} {ifs ifs1 : List Expr} {scope : Scope} {pos : Pos} {own : List (Str × Nat)} {vs1 : List Nat} {E : Ev} {g g1 : Gv} {gt gt1 : TG} {I I1 : Iv} {t t1 : Tv} (hi : PI X tg iter (rdI c I)) (ok : BlkOk X.N X.env.scope scope own) (hv : ∀ i ∈ vs1, i ∈ own.map (·.2))
      (hg : ∀ (s : Shared) (H : Hp) (C : Addr) (cl : List (Str × Addr)) (fp : List Addr), PG (X.blk s H scope (compEnvC scope cl C X.env) fp) tg gt) (hw : TGw c (own.map (·.2)) g gt)
      (ht : ∀ (s : Shared) (H : Hp) (C : Addr) (cl : List (Str × Addr)) (fp : List Addr), PTs (X.blk s H scope (compEnvC scope cl C X.env) fp) ifs (rdT c t))
      (hi1 : ∀ (s : Shared) (H : Hp) (C : Addr) (cl : List (Str × Addr)) (fp : List Addr), PI (X.blk s H scope (compEnvC scope cl C X.env) fp) tg1 iter1 (rdI c I1))
      (hg1 : ∀ (s : Shared) (H : Hp) (C : Addr) (cl : List (Str × Addr)) (fp : List Addr), PG (X.blk s H scope (compEnvC scope cl C X.env) fp) tg1 gt1) (hw1 : TGw c vs1 g1 gt1)
      (ht1 : ∀ (s : Shared) (H : Hp) (C : Addr) (cl : List (Str × Addr)) (fp : List Addr), PTs (X.blk s H scope (compEnvC scope cl C X.env) fp) ifs1 (rdT c t1))
      (he : ∀ (s : Shared) (H : Hp) (C : Addr) (cl : List (Str × Addr)) (fp : List Addr), PE (X.blk s H scope (compEnvC scope cl C X.env) fp) elt (rdE c E)) (hs : noSet iter = true) (hs1 : noSet iter1 = true) :
      LcOk X c (.ListComp elt [⟨tg, iter, ifs, 0⟩, ⟨tg1, iter1, ifs1, 0⟩] scope pos) (eComp2 (own.map (·.2)) vs1 E g I t g1 I1 t1)
theorem memN_mem {i : Nat} {own : List Nat} (h : memN i own = true) : i ∈ own := by
  unfold memN at h
  rw [List.any_eq_true] at h
  obtain ⟨j, hj, e⟩ := h
  rw [Nat.eq_of_beq_eq_true e]; exact hj
theorem compG_lc (S : Snd G r) (C : CtxOk G X c cc) {elt : Expr} {gs : List Comprehension} {scope : Scope} {pos : Pos} : LcOk X c (.ListComp elt gs scope pos) (compG comb r cc elt gs scope) := by
  unfold compG
  cases hb : blkB cc scope with
  | false => exact .bad
  | true =>
    obtain ⟨bo, _⟩ := blkB_ok C hb
    have CB := ctx_blk C hb
    simp only [cond_true]
    split
    · rename_i tg it ifs
      cases h1 : noSetC it with
      | false => exact .bad
      | true =>
        cases h2 : tgOk cc ((ownP cc.N scope.names).map fun p => p.2) 6 tg with
        | false => exact .bad
        | true =>
          simp only [cond_true]
          cases h3 : ifT comb r (cc1 cc scope) ifs with
          | none => exact .bad
          | some t =>
            obtain ⟨gt, w1, w2⟩ := S.gw X.K c (cc1 cc scope) cc _ 6 tg rfl h2
            exact .one (itI_ok S C) bo (fun s H Ca cl fp => w2 _ rfl (CB s H Ca cl fp)) w1 (fun s H Ca cl fp => ifT_ok S (CB s H Ca cl fp) h3) (fun s H Ca cl fp => S.e _ c _ elt (CB s H Ca cl fp)) (nSt h1)
    · rename_i tg it ifs tg1 it1 ifs1
      cases h1 : noSetC it with
      | false => exact .bad
      | true =>
        cases h11 : noSetC it1 with
        | false => exact .bad
        | true =>
          cases h2 : tgOk cc ((ownP cc.N scope.names).map fun p => p.2) 6 tg with
          | false => exact .bad
          | true =>
            cases h21 : tgOk cc (tgS cc 6 tg1) 6 tg1 with
            | false => exact .bad
            | true =>
              cases h22 : ((tgS cc 6 tg1).all fun i => memN i ((ownP cc.N scope.names).map fun p => p.2)) with
              | false => exact .bad
              | true =>
                simp only [cond_true]
                cases h3 : ifT comb r (cc1 cc scope) ifs with
                | none => exact .bad
                | some t =>
                  cases h31 : ifT comb r (cc1 cc scope) ifs1 with
                  | none => exact .bad
                  | some t1 =>
                    obtain ⟨gt, w1, w2⟩ := S.gw X.K c (cc1 cc scope) cc _ 6 tg rfl h2
                    obtain ⟨gt1, w11, w21⟩ := S.gw X.K c (cc1 cc scope) cc _ 6 tg1 rfl h21
                    rw [List.all_eq_true] at h22
                    exact .two (itI_ok S C) bo (fun i hi => memN_mem (h22 i hi)) (fun s H Ca cl fp => w2 _ rfl (CB s H Ca cl fp)) w1 (fun s H Ca cl fp => ifT_ok S (CB s H Ca cl fp) h3) (fun s H Ca cl fp => itI_ok S (CB s H Ca cl fp)) (fun s H Ca cl fp => w21 _ rfl (CB s H Ca cl fp)) w11
                      (fun s H Ca cl fp => ifT_ok S (CB s H Ca cl fp) h31) (fun s H Ca cl fp => S.e _ c _ elt (CB s H Ca cl fp)) (nSt h1) (nSt h11)
    · exact .bad
theorem slot_ok (C : CtxOk G X c cc) {x : Str} {i : Nat} (h : slot cc x kVis = some i) : X.N[i]? = some x ∧ Vis X.env.scope x ∧ (x == ("__debug__" : Str)) = false ∧ (x == ("__classdict__" : Str)) = false := by
  unfold slot at h
  cases hv : optB (lkS (nk x) cc.sc) kVis with
  | false => rw [hv] at h; exact nomatch h
  | true =>
    rw [hv] at h
    obtain ⟨k, hk, hf⟩ := optB_look C hv
    have hi : cc.N[i]? = some x := ixS_eq h
    obtain ⟨b1, b2⟩ := C.nb x (List.mem_of_getElem? hi)
    refine ⟨by rw [C.N]; exact hi, ?_, b1, b2⟩
    show X.env.scope.names.lookup x = _ ∨ X.env.scope.names.lookup x = _ ∨ X.env.scope.names.lookup x = _
    rw [hk]
    cases k <;> first | exact .inl rfl | exact .inr (.inl rfl) | exact .inr (.inr rfl) | exact nomatch hf
theorem condN {α : Type} {b : Bool} {o : Option α} {x : α} (h : cond b o none = some x) : b = true ∧ o = some x := by
  cases b with
  | true => exact ⟨rfl, h⟩
  | false => exact nomatch h
theorem valE_lc (S : Snd G r) (C : CtxOk G X c cc) {b : Bool} {d k k2 d2 : Str} {scope : Scope} {pos p1 p2 p3 p4 p5 : Pos} {elt : Expr} {E : Ev} (h : valE comb cc b d k k2 d2 scope = some E)
    (he : ∀ {i m : Nat} (s : Shared) (H : Hp) (Ca : Addr) (cl : List (Str × Addr)) (fp : List Addr), blkB cc scope = true → PE (X.blk s H scope (compEnvC scope cl Ca X.env) fp) (.Subscript (.Name d p1) (.Name k p2) p3) (tDGet (tVar i) (tVar m)) → PE (X.blk s H scope (compEnvC scope cl Ca X.env) fp) elt (teV X.K b i m)) :
    LcOk X c (.ListComp elt [⟨.Name k2 p4, .Name d2 p5, [], 0⟩] scope pos) E := by
  have hu := C.un
  unfold valE at h
  obtain ⟨hb, g1⟩ := condN h
  obtain ⟨e1, g2⟩ := condN g1
  obtain ⟨e2, g3⟩ := condN g2
  obtain ⟨hw, g4⟩ := condN g3
  have e1 := isNm_eq e1
  have e2 := isNm_eq e2
  clear g1 g2 g3 h
  have h := g4
  clear g4
  subst e1 e2
  obtain ⟨bo, _⟩ := blkB_ok C hb
  have CB := ctx_blk C hb
  cases h1 : slot cc d kVis with
  | none => rw [h1] at h; exact nomatch h
  | some i =>
    cases h2 : slot (cc1 cc scope) d kVis with
    | none => rw [h1, h2] at h; exact nomatch h
    | some j =>
      cases h3 : slot (cc1 cc scope) k kVis with
      | none => rw [h1, h2, h3] at h; exact nomatch h
      | some l =>
        cases h4 : ixS (nk k) cc.N with
        | none => rw [h1, h2, h3, h4] at h; exact nomatch h
        | some m =>
          rw [h1, h2, h3, h4] at h
          obtain ⟨q1, h5⟩ := condN (show cond (Nat.beq i j) _ none = some E from h)
          obtain ⟨q2, h6⟩ := condN h5
          obtain ⟨q3, h7⟩ := condN h6
          clear h h5 h6
          have q1 := Nat.eq_of_beq_eq_true q1
          have q2 := Nat.eq_of_beq_eq_true q2
          subst q1 q2
          cases q4 : memN i ((ownP cc.N scope.names).map fun p => p.2) with
          | true => rw [q4] at h7; exact nomatch h7
          | false =>
            rw [q4] at h7
            cases h7
            obtain ⟨n1, n2, n3, n4⟩ := slot_ok C h1
            have ni : i ∉ (ownP cc.N scope.names).map (·.2) := fun z => by
              have : memN i ((ownP cc.N scope.names).map fun p => p.2) = true := by
                unfold memN
                rw [List.any_eq_true]
                exact ⟨i, z, by rw [Nat.beq_eq]⟩
              rw [q4] at this; exact nomatch this
            refine .sp (wi := iKeys (tVar i)) (gt := gName l) (te := teV X.K b i l) (pi_keys (pe_var n1 n2 n3 n4)) bo (fun s H Ca cl fp => ?_) (fun s H Ca cl fp => he s H Ca cl fp hb ?_) rfl (fun σ H Q h => vals_rd ni (memN_mem q3) σ H Q h)
            · obtain ⟨w1, w2⟩ := wrK_ok (CB s H Ca cl fp) hw
              exact pg_name (CB s H Ca cl fp).nd (by rw [(CB s H Ca cl fp).N]; exact ixS_eq h4) w1 w2
            · obtain ⟨m1, m2, m3, m4⟩ := slot_ok (CB s H Ca cl fp) h2
              obtain ⟨k1, k2, k3, k4⟩ := slot_ok (CB s H Ca cl fp) h3
              exact pe_dget (by have := (CB s H Ca cl fp).un; omega) (pe_var m1 m2 m3 m4) (pe_var k1 k2 k3 k4) fun _ _ => rfl
theorem spC_lc (S : Snd G r) (C : CtxOk G X c cc) {elt : Expr} {gs : List Comprehension} {scope : Scope} {pos : Pos} {E : Ev} (h : spC comb cc elt gs scope = some E) : LcOk X c (.ListComp elt gs scope pos) E := by
  unfold spC at h
  split at h
  · rename_i f pf d pd k pk ps pc k2 pk2 d2 pd2
    obtain ⟨h1, h3⟩ := condN h
    obtain ⟨h2, h4⟩ := condN h3
    have e := isNm_eq h2; subst e
    refine valE_lc S C (p1 := pd) (p2 := pk) (p3 := ps) h4 fun {i m} s H Ca cl fp hb he => ?_
    have CB := ctx_blk C hb s H Ca cl fp
    exact pe_callTy call_tuple_of (isG_gl CB h1) (bN CB (by decide +kernel)) (by decide +kernel) (pa_cons he pa_nil) (by decide +kernel) (by decide +kernel) rfl rfl
  · exact valE_lc S C h fun {i m} s H Ca cl fp hb he => he
  · exact nomatch h
theorem compE_lc (S : Snd G r) (C : CtxOk G X c cc) {elt : Expr} {gs : List Comprehension} {scope : Scope} {pos : Pos} : LcOk X c (.ListComp elt gs scope pos) (compE comb r cc elt gs scope) := by
  unfold compE
  cases h : spC comb cc elt gs scope with
  | none => exact compG_lc S C
  | some x => exact spC_lc S C h
theorem lc_pe (C : CtxOk G X c cc) {e : Expr} {E : Ev} (h : LcOk X c e E) : PE X e (rdE c E) := by
  cases h with
  | bad => exact pe_bad
  | sp hi ok hg he hs rd => exact (pe_lock (pe_lc C.calm C.nd hi ok hg (fun _ _ _ _ _ => pts_nil) he (folded_ok hs))).mono rd
  | one hi ok hg hw ht he hs => exact (pe_lc C.calm C.nd hi ok hg ht he (folded_ok hs)).mono (comp_rd hw)
  | two hi ok hv hg hw ht hi1 hg1 hw1 ht1 he hs hs1 => exact (pe_lc2 C.calm C.nd hi ok hv hg ht hi1 hg1 ht1 he (folded_ok hs) (fun env => folded_ok hs1)).mono (comp2_rd hw hw1)
theorem asgN_rd {i : Nat} {A : Ev} {te : TE} (h : ∀ σ H Q, rdE c A σ H Q → te σ H Q) (D : Ends) (σ : L2.St) (H : Hp) (h2 : rdS c (sAsg (gN i) A) D σ H) : tAsg te (gName i) D σ H := h _ _ _ (asg_rd gname_rd D σ H h2)
theorem lc_ps (C : CtxOk G X c cc) {elt : Expr} {gs : List Comprehension} {scope : Scope} {pos spos py : Pos} {E : Ev} {y : Str} {i : Nat} (h : LcOk X c (.ListComp elt gs scope pos) E) (hy : X.N[i]? = some y) (hyl : X.env.scope.names.lookup y = some .local)
    (hsw : swapsWith (.ListComp elt gs scope pos) (some (.Name y py)) spos.line X.env = pure true) : PS X (.Assign [.Name y py] (.ListComp elt gs scope pos) spos) (rdS c (sAsg (gN i) E)) := by
  cases h with
  | bad => exact ⟨fun pins s σ H D I h => by
      obtain ⟨ρ, e, s, rs, re, h⟩ := h
      exact h.elim⟩
  | sp hi ok hg he hs rd => exact (ps_lock (ps_setLc C.calm C.nd hy hyl hsw hi ok hg (fun _ _ _ _ _ => pts_nil) he (folded_ok hs))).mono fun D σ H h => rd σ H _ (asg_rd gname_rd D σ H h)
  | one hi ok hg hw ht he hs => exact (ps_setLc C.calm C.nd hy hyl hsw hi ok hg ht he (folded_ok hs)).mono (asgN_rd (comp_rd hw))
  | two hi ok hv hg hw ht hi1 hg1 hw1 ht1 he hs hs1 => exact (ps_setLc2 C.calm C.nd hy hyl hsw hi ok hv hg ht hi1 hg1 ht1 he (folded_ok hs) (fun env => folded_ok hs1)).mono (asgN_rd (comp2_rd hw hw1))
/-! ### expressions -/
theorem den_cst {ρ H} {t : T0} {v : V} (h : match t with | .non => v = .non | .bl b => v = .bl b | .str s => v = .str ⟨s.toArray⟩) : Den ρ H (toT t) v := by
  cases t <;> simpa [toT] using h
theorem cstE_ok {cst : Const} {k : Nat} {pos : Pos} : PE X (.Constant cst k pos) (rdE c (cstE comb cst)) := by
  unfold cstE
  split
  · exact pe_ecst pe_non fun ρ H => den_cst (t := .non) rfl
  · exact pe_ecst pe_bl fun ρ H => den_cst (t := .bl _) rfl
  · exact pe_eint
  · exact pe_ecst pe_str fun ρ H => den_cst (t := .str _) (by simp)
  · exact pe_bad
theorem dict0_rd {b : Bool} (σ : L2.St) (H : Hp) (Q : VK) (h : rdE c (eDict0 b) σ H Q) : ∀ p, H p = none → Q (.ref p) (upd H p (if b then .dT [] else .dK [])) := by
  obtain ⟨ρ, e, s, rs, re, h⟩ := h
  intro p hp
  obtain ⟨n, al⟩ := s
  have h : Post ρ (.mk n al) H (alloc (.d b []) (.mk n al) fun t s => .v t s) Q := h
  rw [alloc_eq] at h
  have ex : Ext ρ (.mk n al) H ρ (.mk n al) (upd H p (if b then .dT [] else .dK [])) := Ext.fresh hp
  have rr := rs.fresh (o := if b then .dT [] else .dK []) hp
  obtain ⟨ex2, rr2⟩ := adopt rs ex rr hp (fun m hm => rs.trk m p hm hp) upd_same (o := .d b []) (by
    cases b with
    | false => exact ⟨[], rfl, rfl⟩
    | true => exact ⟨[], rfl, rfl⟩)
  exact h _ _ _ ex2 rr2 (by rw [den_ref]; exact ⟨p, rfl, addR_same⟩)
theorem dict0_ok {b : Bool} {pos : Pos} : PE X (.Dict [] [] pos) (rdE c (eDict0 b)) := by
  cases b with
  | false => exact pe_dnewK.mono fun σ H Q h => dict0_rd σ H Q h
  | true => exact pe_dnewT.mono fun σ H Q h => dict0_rd σ H Q h
theorem eStep_ok (S : Snd G r) (C : CtxOk G X c cc) (e : Expr) : PE X e (rdE c (eStep comb r G cc e)) := by
  cases e with
  | Constant cst k pos => exact cstE_ok
  | Name x pos => exact nmE_ok C
  | BinOp a op b pos =>
    cases op with
    | Add => exact pe_bin opr_add opt_add (S.e X c cc a C) (S.e X c cc b C)
    | Sub => exact pe_bin op_sub opt_sub (S.e X c cc a C) (S.e X c cc b C)
    | Mult => exact pe_bin opr_mul opt_mul (S.e X c cc a C) (S.e X c cc b C)
    | FloorDiv => exact pe_bin op_fdivN opt_div (S.e X c cc a C) (S.e X c cc b C)
    | Mod => exact pe_bin op_modN opt_mod (S.e X c cc a C) (S.e X c cc b C)
    | _ => exact pe_bad
  | UnaryOp op a pos =>
    cases op with
    | USub => exact pe_neg (S.e X c cc a C)
    | Not => exact pe_vnot (S.e X c cc a C)
    | _ => exact pe_bad
  | BoolOp op es pos =>
    cases es with
    | nil => exact pe_bad
    | cons a es =>
      cases op with
      | And => exact andE_ok S C
      | Or => exact orE_ok S C
  | Compare a ops bs pos => exact cmpE_ok S C
  | IfExp t a b pos => exact pe_ite (S.t X c cc t C) (S.e X c cc a C) (S.e X c cc b C)
  | Tuple es k pos =>
    show PE X _ (rdE c (cond (es.all noStarC) (cond (Nat.ble es.length 1000) (eTup (aS comb r cc es)) eBad) eBad))
    cases h1 : es.all noStarC with
    | false => exact pe_bad
    | true =>
      cases h2 : Nat.ble es.length 1000 with
      | false => exact pe_bad
      | true => exact pe_etup (aS_ok S C) (Nat.le_of_ble_eq_true h2) (aS_len h1)
  | List es pos =>
    show PE X _ (rdE c (cond (es.all noStarC) (cond (Nat.ble es.length 1000) (eLst (aS comb r cc es)) eBad) eBad))
    cases h1 : es.all noStarC with
    | false => exact pe_bad
    | true =>
      cases h2 : Nat.ble es.length 1000 with
      | false => exact pe_bad
      | true => exact pe_elst (aS_ok S C) (Nat.le_of_ble_eq_true h2) (aS_len h1)
  | Dict ks vs pos =>
    cases ks with
    | nil =>
      cases vs with
      | nil => exact dict0_ok
      | cons _ _ => exact pe_bad
    | cons k ks =>
      cases k with
      | none => exact pe_bad
      | some k =>
        cases ks with
        | cons _ _ => exact pe_bad
        | nil =>
          cases vs with
          | nil => exact pe_bad
          | cons v vs =>
            cases vs with
            | cons _ _ => exact pe_bad
            | nil => exact pe_dict1 (S.e X c cc k C) (S.e X c cc v C)
  | Subscript a i pos => exact subE_ok S C
  | Call f es kws pos => exact callE_ok S C
  | ListComp elt gs scope pos => exact lc_pe C (compE_lc S C)
  | _ => exact pe_bad
theorem tStep_ok (S : Snd G r) (C : CtxOk G X c cc) (e : Expr) : PT X e (rdT c (tStep comb r cc e)) := by
  have val : ∀ e : Expr, (∀ whole, PySem.isTrue e X.env whole = (do let v ← whole; standAt e.pos; holding [v] (truthy v))) → PT X e (rdT c (tVal (r.e cc e))) := fun e he => pt_tval (S.e X c cc e C) he
  cases e with
  | UnaryOp op a pos =>
    cases op with
    | Not => exact pt_tnot (S.t X c cc a C)
    | _ => exact val _ fun _ => rfl
  | BoolOp op es pos =>
    cases es with
    | nil => exact pt_bad
    | cons a es =>
      cases op with
      | And => exact (andT_ok S C).pt
      | Or => exact (orT_ok S C).pt
  | Compare a ops bs pos => exact cmpT_ok S C
  | IfExp t a b pos => exact pt_bad
  | _ => exact val _ fun _ => rfl
theorem gStep_ok (S : Snd G r) (C : CtxOk G X c cc) (e : Expr) : PG X e (rdG c (gStep comb r cc e)) := by
  have hu := C.un
  cases e with
  | Name x pos => exact nmG_ok C
  | Tuple es k pos =>
    unfold gStep
    dsimp only
    cases h : gsS comb r cc es with
    | none => exact pg_bad
    | some q => exact pg_gtup C.calm (gsS_ok S C h).1 (gsS_len h).1 (gsS_len h).2
  | Subscript o i pos =>
    show PG X _ (rdG c (cond (plainC i) (gS (r.e cc o) (r.e cc i)) gBad))
    cases h : plainC i with
    | false => exact pg_bad
    | true => exact pg_gsub (by omega) (S.e X c cc o C) (S.e X c cc i C) (pI h)
  | _ => exact pg_bad
end
end Rk
end
section
set_option linter.all false
set_option autoImplicit false
set_option maxRecDepth 100000
namespace Rk
open PySem PySem.Spec PyProof.Rows L2
section
variable {G : Gc} {X : Cx} {c : Cf} {cc : Cc} {r : Cs comb}
/-! ### targets of comprehensions -/
theorem pg_no {X : Cx} {e : Expr} : PG X e fun _ _ _ _ => False := ⟨fun _ _ _ _ _ _ _ _ _ h => h.elim⟩
theorem gsw_ok (S : Snd G r) (K : PySem.W.Frag) (c : Cf) (cc cc0 : Cc) (hN : cc0.N = cc.N) {own : List Nat} : ∀ {n : Nat} {es : List Expr} {q : Gs}, tgOks cc0 own n es = true → gsS comb r cc es = some q → ∃ tg, TGsw c own q tg ∧ ∀ X, X.K = K → CtxOk G X c cc → PGs X es tg
  | n, [], q, h, hq => by cases hq; exact ⟨_, tgsw_nil, fun X _ _ => pgs_nil⟩
  | 0, e :: es, q, h, hq => by unfold tgOks at h; exact nomatch h
  | n + 1, e :: es, q, h, hq => by
    unfold tgOks at h
    rw [Bool.and_eq_true] at h
    have e1 : gsS comb r cc (e :: es) = cond (noStarC e) ((gsS comb r cc es).map fun q => gsCons (r.g cc e) q) none := rfl
    rw [e1] at hq
    cases hs : noStarC e with
    | false => rw [hs] at hq; exact nomatch hq
    | true =>
      rw [hs] at hq
      cases hq2 : gsS comb r cc es with
      | none => rw [hq2] at hq; exact nomatch hq
      | some q' =>
        rw [hq2] at hq; cases hq
        obtain ⟨tg, w1, w2⟩ := S.gw K c cc cc0 own n e hN h.1
        obtain ⟨tr, w3, w4⟩ := gsw_ok S K c cc cc0 hN h.2 hq2
        exact ⟨_, tgsw_cons w1 w3, fun X hK C => pgs_cons (w2 X hK C) (w4 X hK C) (by rw [assign_one (nS hs)]; rfl)⟩
theorem gw_ok (S : Snd G r) (K : PySem.W.Frag) (c : Cf) (cc cc0 : Cc) (own : List Nat) (n : Nat) (e : Expr) (hN : cc0.N = cc.N) (h : tgOk cc0 own n e = true) : ∃ tg, TGw c own (gStep comb r cc e) tg ∧ ∀ X, X.K = K → CtxOk G X c cc → PG X e tg := by
  cases n with
  | zero => unfold tgOk at h; exact nomatch h
  | succ n =>
    cases e with
    | Name x pos =>
      unfold tgOk at h
      rw [hN] at h
      show ∃ tg, TGw c own (cond (wrK cc x) (match ixS (nk x) cc.N with | some i => gN i | none => gBad) gBad) tg ∧ _
      cases hw : wrK cc x with
      | false => exact ⟨_, tgw_bad, fun X _ _ => pg_no⟩
      | true =>
        simp only [cond_true]
        cases hi : ixS (nk x) cc.N with
        | none => exact ⟨_, tgw_bad, fun X _ _ => pg_no⟩
        | some i =>
          rw [hi] at h
          refine ⟨_, tgw_name (memN_mem h), fun X _ C => ?_⟩
          obtain ⟨h1, h2⟩ := wrK_ok C hw
          exact pg_name C.nd (by rw [C.N]; exact ixS_eq hi) h1 h2
    | Tuple es k pos =>
      unfold tgOk at h
      unfold gStep
      dsimp only
      cases hq : gsS comb r cc es with
      | none => exact ⟨_, tgw_bad, fun X _ _ => pg_no⟩
      | some q =>
        obtain ⟨tr, w1, w2⟩ := gsw_ok S K c cc cc0 hN h hq
        refine ⟨gTup K es.length tr, tgw_tup (gsS_len hq).1 w1, fun X hK C => ?_⟩
        rw [← hK]
        exact pg_tup C.calm (w2 X hK C) assign_len (assign_nostar (gsS_len hq).2)
    | _ => unfold tgOk at h; exact nomatch h
/-! ### statements -/
theorem ssS_ok (S : Snd G r) (C : CtxOk G X c cc) : ∀ {ss : List Stmt}, PSs X ss (rdS c (ssS comb r cc ss))
  | [] => pss_snil
  | [s] => pss_sone (S.s X c cc s C)
  | s :: s2 :: ss => pss_scons (S.s X c cc s C) (ssS_ok S C)
theorem sw_non {e : Expr} {t : Option Expr} {l : Nat} {env : Env} (h : noCompC e = true) : swapsWith e t l env = pure false := by
  cases e <;> first | rfl | exact nomatch h
theorem sw_tup {ts : List Expr} {k : Nat} {p : Pos} {e : Expr} {l : Nat} {env : Env} : swapsWithSole [.Tuple ts k p] e l env = pure false := by
  cases e <;> rfl
theorem sw_sub {a i : Expr} {p : Pos} {e : Expr} {l : Nat} {env : Env} : swapsWithSole [.Subscript a i p] e l env = pure false := by
  cases e <;> rfl
theorem st_name {x : Str} {p : Pos} {e : Expr} {env : Env} : swappedStores [.Name x p] e env = pure none := by
  cases e <;> rfl
theorem st_sub {a i : Expr} {p : Pos} {e : Expr} {env : Env} : swappedStores [.Subscript a i p] e env = pure none := by
  cases e <;> rfl
theorem st_two {t1 t2 : Expr} {e : Expr} {env : Env} : swappedStores [t1, t2] e env = pure none := by
  cases t1 <;> rfl
theorem blkK (C : CtxOk G X c cc) : X.env.blockKind = .function := by
  unfold Env.blockKind
  rw [C.kd]; rfl
def starB : Expr → Bool
  | .Starred _ _ => true
  | _ => false
def pick (env : Env) (l : Nat) : Expr → Option Str
  | .Name id pos => if (env.kindOf id == some .local && pos.line == l) = true then some id else none
  | _ => none
theorem parN_some (C : CtxOk G X c cc) {l : Nat} : ∀ {ts : List Expr} {xs : List Str}, parN cc l ts = some xs → ts.filterMap (pick X.env l) = xs ∧ xs.length = ts.length ∧ (∀ x ∈ xs, X.env.scope.names.lookup x = some .local)
  | [], xs, h => by cases h; exact ⟨rfl, rfl, by simp⟩
  | t :: ts, xs, h => by
    cases t with
    | Name x p =>
      have e1 : parN cc l (.Name x p :: ts) = cond (optB (lkS (nk x) cc.sc) kLocal) (cond (Nat.beq p.line l) ((parN cc l ts).map fun l => x :: l) none) none := rfl
      rw [e1] at h
      cases hl : optB (lkS (nk x) cc.sc) kLocal with
      | false => rw [hl] at h; exact nomatch h
      | true =>
        rw [hl] at h
        simp only [cond_true] at h
        cases hp : Nat.beq p.line l with
        | false => rw [hp] at h; exact nomatch h
        | true =>
          rw [hp] at h
          simp only [cond_true] at h
          cases hr : parN cc l ts with
          | none => rw [hr] at h; exact nomatch h
          | some ys =>
            rw [hr] at h; cases h
            obtain ⟨h1, h2, h3⟩ := parN_some C hr
            obtain ⟨k, hk, hf⟩ := optB_look C hl
            have : k = .local := by cases k <;> first | rfl | exact nomatch hf
            subst this
            refine ⟨?_, by simp [h2], fun y hy => ?_⟩
            · have : pick X.env l (.Name x p) = some x := by
                show (if (X.env.scope.names.lookup x == some .local && p.line == l) = true then some x else none) = some x
                rw [hk, Nat.eq_of_beq_eq_true hp]; simp
              rw [List.filterMap_cons, this, h1]
            · rcases List.mem_cons.mp hy with rfl | hy
              · exact hk
              · exact h3 y hy
    | _ => exact nomatch h
theorem pick_le {env : Env} {l : Nat} (ts : List Expr) : (ts.filterMap (pick env l)).length ≤ ts.length := List.length_filterMap_le _ _
theorem parN_none (C : CtxOk G X c cc) {l : Nat} : ∀ {ts : List Expr}, parN cc l ts = none → (ts.filterMap (pick X.env l)).length ≠ ts.length
  | [], h => nomatch h
  | t :: ts, h => by
    have skip : pick X.env l t = none → ((t :: ts).filterMap (pick X.env l)).length ≠ (t :: ts).length := fun e => by
      rw [List.filterMap_cons, e]
      have := pick_le (env := X.env) (l := l) ts
      simp only [List.length_cons]; omega
    cases t with
    | Name x p =>
      have e1 : parN cc l (.Name x p :: ts) = cond (optB (lkS (nk x) cc.sc) kLocal) (cond (Nat.beq p.line l) ((parN cc l ts).map fun l => x :: l) none) none := rfl
      rw [e1] at h
      cases hl : optB (lkS (nk x) cc.sc) kLocal with
      | false =>
        refine skip ?_
        show (if (X.env.scope.names.lookup x == some .local && p.line == l) = true then some x else none) = none
        rw [lkS_eq, ← C.sc] at hl
        cases e : X.env.scope.names.lookup x with
        | none => rfl
        | some k => rw [e] at hl; cases k <;> first | rfl | exact nomatch hl
      | true =>
        rw [hl] at h
        simp only [cond_true] at h
        cases hp : Nat.beq p.line l with
        | false =>
          refine skip ?_
          show (if (X.env.scope.names.lookup x == some .local && p.line == l) = true then some x else none) = none
          have : (p.line == l) = false := by
            rw [beq_eq_false_iff_ne]
            intro e; rw [e] at hp
            have h2 : Nat.beq l l = true := by rw [Nat.beq_eq]
            rw [h2] at hp; cases hp
          rw [this, Bool.and_false]; rfl
        | true =>
          rw [hp] at h
          simp only [cond_true] at h
          cases hr : parN cc l ts with
          | some ys => rw [hr] at h; exact nomatch h
          | none =>
            have ih := parN_none C hr
            cases hq : pick X.env l (.Name x p) with
            | none => exact skip hq
            | some z =>
              rw [List.filterMap_cons, hq]
              simp only [List.length_cons]; omega
    | _ => exact skip rfl
theorem st_eq (C : CtxOk G X c cc) {ts vs : List Expr} {k k2 : Nat} {p p2 : Pos} : swappedStores [.Tuple ts k p] (.Tuple vs k2 p2) X.env =
    (if (!(ts.length == 2 || ts.length == 3) || vs.length != ts.length) = true then pure none else
      if (vs.any starB) = true then pure none else
        if ((ts.filterMap (pick X.env ((Option.map (fun x => x.pos.line) ts.head?).getD 0))).length != ts.length || (ts.filterMap (pick X.env ((Option.map (fun x => x.pos.line) ts.head?).getD 0))).eraseDups.length != (ts.filterMap (pick X.env ((Option.map (fun x => x.pos.line) ts.head?).getD 0))).length) = true then pure none else
          if vs.all (foldedForSure 8) = true then pure none else
            if vs.all (constantsAlone 8) = true then (do unsupported "assign.tuple-of-constant-expressions:order-of-the-stores"; pure (some (ts.filterMap (pick X.env ((Option.map (fun x => x.pos.line) ts.head?).getD 0))))) else pure (some (ts.filterMap (pick X.env ((Option.map (fun x => x.pos.line) ts.head?).getD 0))))) := by
  have hb := blkK C
  unfold swappedStores
  simp only [hb, bne_self_eq_false, Bool.or_false]
  rfl
theorem sw_name {x : Str} {p : Pos} {e : Expr} {l : Nat} {env : Env} (h : noCompC e = true) : swapsWithSole [.Name x p] e l env = pure false := by
  show swapsWith e (some (.Name x p)) l env = pure false
  exact sw_non h
theorem tup_or (e : Expr) : (∃ vs k p, e = .Tuple vs k p) ∨ ∀ {ts : List Expr} {k : Nat} {p : Pos} {env : Env}, swappedStores [.Tuple ts k p] e env = pure none := by
  cases e <;> first | exact .inl ⟨_, _, _, rfl⟩ | exact .inr rfl
theorem parQ_ok : ∀ {xs : List Str} {q : Gs}, parQ comb cc xs = some q → ∃ is : List Nat, is.length = xs.length ∧ (∀ (j : Nat) (i : Nat) (x : Str), is[j]? = some i → xs[j]? = some x → cc.N[i]? = some x) ∧ q = is.foldr (fun i q => gsCons (gN i) q) gsNil
  | [], q, h => by cases h; exact ⟨[], rfl, by simp, rfl⟩
  | x :: xs, q, h => by
    have e : parQ comb cc (x :: xs) = match ixS (nk x) cc.N with | some i => (parQ comb cc xs).map fun q => gsCons (gN i) q | none => none := rfl
    rw [e] at h
    cases hi : ixS (nk x) cc.N with
    | none => rw [hi] at h; exact nomatch h
    | some i =>
      rw [hi] at h
      cases hq : parQ comb cc xs with
      | none => rw [hq] at h; exact nomatch h
      | some q' =>
        rw [hq] at h; cases h
        obtain ⟨is, h1, h2, h3⟩ := parQ_ok hq
        refine ⟨i :: is, by simp [h1], fun j k y hj hy => ?_, by rw [h3]; rfl⟩
        cases j with
        | zero => simp at hj hy; subst hj hy; exact ixS_eq hi
        | succ j => exact h2 j k y (by simpa using hj) (by simpa using hy)
theorem ix_ne (C : CtxOk G X c cc) {i j : Nat} {x y : Str} (hi : cc.N[i]? = some x) (hj : cc.N[j]? = some y) (h : x ≠ y) : i ≠ j := by
  rintro rfl
  rw [hi] at hj; cases hj; exact h rfl
theorem parN_names (C : CtxOk G X c cc) {l : Nat} : ∀ {ts : List Expr} {xs : List Str}, parN cc l ts = some xs → ∃ ps : List Pos, ps.length = xs.length ∧ ts = List.zipWith (fun x p => Expr.Name x p) xs ps
  | [], xs, h => by cases h; exact ⟨[], rfl, rfl⟩
  | t :: ts, xs, h => by
    cases t with
    | Name x p =>
      have e1 : parN cc l (.Name x p :: ts) = cond (optB (lkS (nk x) cc.sc) kLocal) (cond (Nat.beq p.line l) ((parN cc l ts).map fun l => x :: l) none) none := rfl
      rw [e1] at h
      cases hl : optB (lkS (nk x) cc.sc) kLocal with
      | false => rw [hl] at h; exact nomatch h
      | true =>
        rw [hl] at h
        simp only [cond_true] at h
        cases hp : Nat.beq p.line l with
        | false => rw [hp] at h; exact nomatch h
        | true =>
          rw [hp] at h
          simp only [cond_true] at h
          cases hr : parN cc l ts with
          | none => rw [hr] at h; exact nomatch h
          | some ys =>
            rw [hr] at h; cases h
            obtain ⟨ps, h1, h2⟩ := parN_names C hr
            exact ⟨p :: ps, by simp [h1], by rw [h2]; rfl⟩
    | _ => exact nomatch h
theorem dedup2 {x y : Str} (h : [x, y].Nodup) : [x, y].eraseDups = [x, y] := by
  have : y ≠ x := fun e => by subst e; simp at h
  simp [List.eraseDups_cons, this]
theorem dedup3 {x y z : Str} (h : [x, y, z].Nodup) : [x, y, z].eraseDups = [x, y, z] := by
  simp only [List.nodup_cons, List.mem_cons, not_or, List.not_mem_nil, not_false_eq_true, and_true, List.nodup_nil] at h
  have h1 : y ≠ x := fun e => h.1.1 e.symm
  have h2 : z ≠ x := fun e => h.1.2 e.symm
  have h3 : z ≠ y := fun e => h.2 e.symm
  simp [List.eraseDups_cons, h1, h2, h3]
theorem parS_ok (S : Snd G r) (C : CtxOk G X c cc) {ts vs : List Expr} {k k2 : Nat} {p p2 pos : Pos} : PS X (.Assign [.Tuple ts k p] (.Tuple vs k2 p2) pos) (rdS c (parS comb r cc (.Tuple ts k p) ts vs (.Tuple vs k2 p2))) := by
  have plain : swappedStores [.Tuple ts k p] (.Tuple vs k2 p2) X.env = pure none → PS X (.Assign [.Tuple ts k p] (.Tuple vs k2 p2) pos) (rdS c (sAsg (r.g cc (.Tuple ts k p)) (r.e cc (.Tuple vs k2 p2)))) := fun h =>
    ps_sasg (S.e X c cc _ C) (S.g X c cc _ C) sw_tup h rfl
  unfold parS
  cases hL : (Nat.beq ts.length vs.length && (Nat.beq ts.length 2 || Nat.beq ts.length 3)) with
  | false =>
    simp only [cond_false]
    cases hM : (Nat.beq ts.length 2 || Nat.beq ts.length 3) with
    | true => exact ps_bad
    | false =>
      refine plain ?_
      rw [st_eq C, if_pos]
      have h2 : (ts.length == 2 || ts.length == 3) = false := by
        rw [Bool.or_eq_false_iff] at hM ⊢
        constructor
        · rw [beq_eq_false_iff_ne]; intro e; rw [e] at hM; exact nomatch hM.1
        · rw [beq_eq_false_iff_ne]; intro e; rw [e] at hM; exact nomatch hM.2
      rw [h2]; rfl
  | true =>
    simp only [cond_true]
    rw [Bool.and_eq_true] at hL
    have hlen := Nat.eq_of_beq_eq_true hL.1
    cases hs : vs.all noStarC with
    | false => exact ps_bad
    | true =>
      simp only [cond_true]
      have hs' := nSs hs
      have c1 : (!(ts.length == 2 || ts.length == 3) || vs.length != ts.length) = false := by
        have h2 : (ts.length == 2 || ts.length == 3) = true := by
          rw [Bool.or_eq_true] at hL ⊢
          rcases hL.2 with h | h
          · exact .inl (by rw [Nat.eq_of_beq_eq_true h]; rfl)
          · exact .inr (by rw [Nat.eq_of_beq_eq_true h]; rfl)
        rw [h2, hlen]; simp
      have c2 : (vs.any starB) = false := by
        rw [List.any_eq_false]
        intro x hx
        rw [List.all_eq_true] at hs'
        have := hs' x hx
        cases x <;> first | exact Bool.false_ne_true | exact nomatch this
      cases ts with
      | nil => exact ps_bad
      | cons t tr =>
        dsimp only
        have hh : ((Option.map (fun x => x.pos.line) (t :: tr).head?).getD 0) = t.pos.line := rfl
        cases hp : parN cc t.pos.line (t :: tr) with
        | none =>
          refine plain ?_
          rw [st_eq C, if_neg (by rw [c1]; decide), if_neg (by rw [c2]; decide), hh, if_pos]
          have := parN_none C hp
          rw [Bool.or_eq_true]
          exact .inl (by rw [bne_iff_ne]; exact this)
        | some xs =>
          obtain ⟨f1, f2, f3⟩ := parN_some C hp
          dsimp only
          cases hn : nodK xs with
          | false => exact ps_bad
          | true =>
            have nd := nodK_nd hn
            simp only [cond_true]
            have l23 : xs.length = 2 ∨ xs.length = 3 := by
              rw [Bool.or_eq_true] at hL
              rcases hL.2 with h | h
              · exact .inl (f2.trans (Nat.eq_of_beq_eq_true h))
              · exact .inr (f2.trans (Nat.eq_of_beq_eq_true h))
            have dd : xs.eraseDups = xs := by
              rcases l23 with h | h
              · match xs, h, nd with
                | [x, y], _, nd => exact dedup2 nd
              · match xs, h, nd with
                | [x, y, z], _, nd => exact dedup3 nd
            have c3 : (xs.length != (t :: tr).length || xs.eraseDups.length != xs.length) = false := by rw [dd, f2]; simp
            cases hf : vs.all (foldedForSure 8) with
            | true =>
              refine plain ?_
              rw [st_eq C, if_neg (by rw [c1]; decide), if_neg (by rw [c2]; decide), hh, f1, if_neg (by rw [c3]; decide), if_pos hf]
            | false =>
              simp only [cond_false]
              cases hc : vs.all (constantsAlone 8) with
              | true => exact ps_bad
              | false =>
                simp only [cond_false]
                have hw : swappedStores [.Tuple (t :: tr) k p] (.Tuple vs k2 p2) X.env = pure (some xs) := by
                  rw [st_eq C, if_neg (by rw [c1]; decide), if_neg (by rw [c2]; decide), hh, f1, if_neg (by rw [c3]; decide), if_neg (by rw [hf]; decide), if_neg (by rw [hc]; decide)]
                cases hq : parQ comb cc xs with
                | none => exact ps_bad
                | some q =>
                  obtain ⟨is, k1, k2', rfl⟩ := parQ_ok hq
                  obtain ⟨ps, p1, p3⟩ := parN_names C hp
                  rw [p3] at hw ⊢
                  have hv : vs.length = xs.length := by rw [f2, ← hlen]
                  rcases l23 with h | h
                  · match xs, is, ps, vs, h, k1, p1, hv, nd, k2', f3, hw with
                    | [x, y], [i, j], [px, py], [a, b], _, _, _, _, nd, k2', f3, hw =>
                      have hxy : x ≠ y := by
                        rintro rfl; simp at nd
                      have hi := k2' 0 i x rfl rfl
                      have hj := k2' 1 j y rfl rfl
                      exact ps_spar2 C.calm C.nd (by rw [C.N]; exact hi) (by rw [C.N]; exact hj) (ix_ne C hi hj hxy) (f3 x (by simp)) (f3 y (by simp)) (aS_ok S C) hw
                  · match xs, is, ps, vs, h, k1, p1, hv, nd, k2', f3, hw with
                    | [x, y, z], [i, j, l], [px, py, pz], [a, b, d], _, _, _, _, nd, k2', f3, hw =>
                      simp only [List.nodup_cons, List.mem_cons, not_or, List.not_mem_nil, not_false_eq_true, and_true, List.nodup_nil] at nd
                      have hi := k2' 0 i x rfl rfl
                      have hj := k2' 1 j y rfl rfl
                      have hl := k2' 2 l z rfl rfl
                      exact ps_spar3 C.calm C.nd (by rw [C.N]; exact hi) (by rw [C.N]; exact hj) (by rw [C.N]; exact hl) (ix_ne C hi hj nd.1.1) (ix_ne C hi hl nd.1.2) (ix_ne C hj hl nd.2) (f3 x (by simp)) (f3 y (by simp)) (f3 z (by simp)) (aS_ok S C) hw
theorem sw_cell {x : Str} {p : Pos} {elt : Expr} {gs : List Comprehension} {scope : Scope} {pos : Pos} {l : Nat} {env : Env} (h : env.scope.names.lookup x = some .cell) : swapsWithSole [.Name x p] (.ListComp elt gs scope pos) l env = pure false := by
  show (pure (env.blockKind == .function && env.kindOf x == some .local && _ && _) : Sem Bool) = pure false
  have e : env.kindOf x = some .cell := h
  rw [e]
  have e2 : ((some NameKind.cell == some NameKind.local) : Bool) = false := by decide
  rw [e2, Bool.and_false]; rfl
theorem lcS_ok (S : Snd G r) (C : CtxOk G X c cc) {x : Str} {px pos spos : Pos} {elt : Expr} {gs : List Comprehension} {scope : Scope} : PS X (.Assign [.Name x px] (.ListComp elt gs scope pos) spos) (rdS c (lcS comb r cc x px elt gs scope pos)) := by
  unfold lcS
  cases h : (Nat.beq px.line pos.line && optB (lkS (nk x) cc.sc) kLocal && !(scope.names.any fun y => Nat.beq (nk y.1) (nk x) && kLoc y.2)) with
  | false =>
    simp only [cond_false]
    cases h2 : optB (lkS (nk x) cc.sc) kCell with
    | false => exact ps_bad
    | true =>
      obtain ⟨k, hk, hf⟩ := optB_look C h2
      have : k = .cell := by cases k <;> first | rfl | exact nomatch hf
      subst this
      exact ps_sasg (lc_pe C (compE_lc S C)) (nmG_ok C) (sw_cell hk) st_name rfl
  | true =>
    simp only [cond_true]
    cases hi : ixS (nk x) cc.N with
    | none => exact ps_bad
    | some i =>
      rw [Bool.and_eq_true, Bool.and_eq_true] at h
      obtain ⟨⟨h1, h2⟩, h3⟩ := h
      obtain ⟨k, hk, hf⟩ := optB_look C h2
      have : k = .local := by cases k <;> first | rfl | exact nomatch hf
      subst this
      refine lc_ps C (compE_lc S C) (by rw [C.N]; exact ixS_eq hi) hk (sw_true C.kd hk (by rw [Nat.eq_of_beq_eq_true h1]; simp) ?_)
      rw [Bool.not_eq_true'] at h3
      rw [← h3]
      congr 1
      funext y
      obtain ⟨n, q⟩ := y
      show (n == x && (q == .local || q == .cell)) = (Nat.beq (nk n) (nk x) && kLoc q)
      rw [nkb]
      cases q <;> rfl
theorem asgS_ok (S : Snd G r) (C : CtxOk G X c cc) {tg e : Expr} {pos : Pos} : PS X (.Assign [tg] e pos) (rdS c (asgS comb r cc tg e)) := by
  unfold asgS
  split
  · rename_i x px
    split
    · exact lcS_ok S C
    · cases h : noCompC e with
      | false => exact ps_bad
      | true => exact ps_sasg (S.e X c cc e C) (nmG_ok C) (sw_name h) st_name rfl
  · rename_i ts k p
    split
    · exact parS_ok S C
    · rename_i h
      rcases tup_or e with ⟨vs, k2, p2, rfl⟩ | h2
      · exact absurd rfl (h vs k2 p2)
      · exact ps_sasg (S.e X c cc e C) (S.g X c cc _ C) sw_tup h2 rfl
  · exact ps_sasg (S.e X c cc e C) (S.g X c cc _ C) sw_sub st_sub rfl
  · exact ps_bad
theorem augS_ok (S : Snd G r) (C : CtxOk G X c cc) {tg e : Expr} {op : Operator} {o : Bo} {q : R2} {pos : Pos} (h1 : OpR X (inplaceOp op) q) (h2 : OpT (boI o) q) : PS X (.AugAssign tg op e pos) (rdS c (augS comb r cc tg e o)) := by
  have hu := C.un
  unfold augS
  split
  · rename_i x p
    cases hw : wrK cc x with
    | false => exact ps_bad
    | true =>
      obtain ⟨w1, w2⟩ := wrK_ok C hw
      cases hi : ixS (nk x) cc.N with
      | none => exact ps_bad
      | some i => exact ps_saug C.nd (by rw [C.N]; exact ixS_eq hi) w1 (S.e X c cc e C) h1 h2 w2
  · rename_i a i p
    cases hp : plainC i with
    | false => exact ps_bad
    | true => exact ps_saugS (by omega) (S.e X c cc a C) (S.e X c cc i C) (S.e X c cc e C) h1 h2 (pI hp)
  · exact ps_bad
theorem sStep_ok (S : Snd G r) (C : CtxOk G X c cc) (s : Stmt) : PS X s (rdS c (sStep comb r cc s)) := by
  have hu := C.un
  cases s with
  | Assign tgs e pos =>
    cases tgs with
    | nil => exact ps_bad
    | cons t1 tr =>
      cases tr with
      | nil => exact asgS_ok S C
      | cons t2 tr =>
        cases tr with
        | cons _ _ => exact ps_bad
        | nil =>
          unfold sStep
          dsimp only
          cases h1 : noStarC t1 with
          | false => exact ps_bad
          | true =>
            cases h2 : noStarC t2 with
            | false => exact ps_bad
            | true => exact ps_sasg2 (S.e X c cc e C) (S.g X c cc t1 C) (S.g X c cc t2 C) (nS h1) (nS h2) st_two
  | AugAssign tg op e pos =>
    cases op with
    | Add => exact augS_ok S C ipr_add opt_iadd
    | Sub => exact augS_ok S C iop_sub opt_sub
    | _ => exact ps_bad
  | Expr e pos =>
    have key : PS X (.Expr e pos) (rdS c (cond (isStrC e) sNx (cond (noCompC e) (sExpr (r.e cc e)) sBad))) → PS X (.Expr e pos) (rdS c (sStep comb r cc (.Expr e pos))) := id
    refine key ?_
    clear key
    cases h1 : isStrC e with
    | true =>
      have : ∃ x k p, e = .Constant (.str x) k p := by
        cases e with
        | Constant cst k p => cases cst <;> first | exact ⟨_, _, _, rfl⟩ | exact nomatch h1
        | _ => exact nomatch h1
      obtain ⟨x, k, p, rfl⟩ := this
      exact ps_sdoc
    | false =>
      cases h2 : noCompC e with
      | false => exact ps_bad
      | true => exact ps_sexpr (S.e X c cc e C) (sw_non h2)
  | Return v pos =>
    cases v with
    | none => exact ps_sretN
    | some e => exact ps_sret (S.e X c cc e C)
  | If t a b pos => exact ps_sif (S.t X c cc t C) (ssS_ok S C) (ssS_ok S C)
  | While t b orelse pos =>
    cases orelse with
    | nil =>
      unfold sStep
      dsimp only
      exact ps_swhl (C := r.t cc t) (B := ssS comb r cc b) C.xe (S.t X c cc t C) (ssS_ok S C)
    | cons _ _ =>
      unfold sStep
      exact ps_bad
  | For tg it b orelse pos =>
    cases orelse with
    | nil =>
      unfold sStep
      dsimp only
      cases h : noSetC it with
      | false => exact ps_bad
      | true => exact ps_sfor (g := r.g cc tg) (I := itI comb r cc tg it) (B := ssS comb r cc b) C.xe C.calm (itI_ok S C) (S.g X c cc tg C) (ssS_ok S C) (nSt h)
    | cons _ _ =>
      unfold sStep
      exact ps_bad
  | Break pos => exact ps_sbrk
  | Continue pos => exact ps_scnt
  | Pass pos => exact ps_snx
  | _ => exact ps_bad
end
end Rk
end
section
set_option linter.all false
set_option autoImplicit false
set_option maxRecDepth 100000
namespace Rk
open PySem PySem.Spec PyProof.Rows L2
section
variable {G : Gc} {X : Cx} {c : Cf} {cc : Cc} {r : Cs comb}
/-! ### special forms -/
theorem condS {α : Type} {b : Bool} {o : Option α} {x : α} (h : cond b o none = some x) : b = true ∧ o = some x := by
  cases b with
  | true => exact ⟨rfl, h⟩
  | false => exact nomatch h
theorem dctE_ok (S : Snd G r) (C : CtxOk G X c cc) {x : Str} {a : Expr} {l : Nat} {E : Ev} {p pos : Pos} (h : dctE comb r G cc x a l = some E) : PE X (.Call (.Name x p) [a] [] pos) (rdE c E) := by
  have hu := C.un
  unfold dctE at h
  obtain ⟨h1, h⟩ := condS h
  obtain ⟨h2, h⟩ := condS h
  have gl := isG_gl C h1
  by_cases h3 : isNm x "dict" = true
  · rw [h3] at h; cases h
    have e := isNm_eq h3; subst e
    exact pe_edct C.calm (by omega) gl (bN C (by decide +kernel)) (S.e X c cc a C) (nS h2)
  · rw [Bool.not_eq_true] at h3
    rw [h3] at h
    obtain ⟨h4, h⟩ := condS (show cond (isNm x "str") (some (comb.eOne .str (r.e cc a))) none = some E from h)
    cases h
    have e := isNm_eq h4; subst e
    exact pe_estr gl (bN C (by decide +kernel)) (S.e X c cc a C) (nS h2)
theorem isTxt_G {o : Expr} (h : isTxt G cc o = true) : True := trivial
theorem txtE_ok (S : Snd G r) (C : CtxOk G X c cc) {o a : Expr} {m : Str} {E : Ev} {ap cp : Pos} (h : txtE comb r G cc o m a ap.endLine cp.line = some E) : PE X (.Call (.Attribute o m ap) [a] [] cp) (rdE c E) := by
  unfold txtE at h
  obtain ⟨h1, h⟩ := condS h
  obtain ⟨h2, h⟩ := condS h
  obtain ⟨h3, h⟩ := condS h
  have hl : (ap.endLine == cp.line) = true := by rw [Nat.eq_of_beq_eq_true h3]; simp
  have ho := S.e X c cc o C
  have ha := S.e X c cc a C
  by_cases h4 : isNm m "join" = true
  · rw [h4] at h; cases h
    have e := isNm_eq h4; subst e
    exact pe_ejoin ho ha (nS h2) (nC h1) hl
  rw [Bool.not_eq_true] at h4; rw [h4] at h; simp only [cond_false] at h
  by_cases h4 : isNm m "split" = true
  · rw [h4] at h; cases h
    have e := isNm_eq h4; subst e
    exact pe_esplit ho ha (nS h2) (nC h1) hl
  rw [Bool.not_eq_true] at h4; rw [h4] at h; simp only [cond_false] at h
  obtain ⟨h4, h⟩ := condS h
  obtain ⟨h5, h⟩ := condS h
  cases h
  have e := isNm_eq h4; subst e
  exact pe_esidx ho ha (nS h2) (nC h1) hl
/-- the pairs of a display -/
theorem flat_pps (S : Snd G r) (C : CtxOk G X c cc) {pos : Pos} : ∀ {ks : List (Option Expr)} {vs l : List Expr}, flatK ks vs = some l → l.all noStarC = true → ∃ es : List (Ev × Ev), aS comb r cc l = flatE es ∧ PPs X pos ks vs (es.map fun p => (rdE c p.1, rdE c p.2)) ∧ ks.all (·.isSome) = true ∧ ks.length = vs.length
  | [], [], l, h, hs => by cases h; exact ⟨[], rfl, pps_nil, rfl, rfl⟩
  | some k :: ks, v :: vs, l, h, hs => by
    have h : (flatK ks vs).map (fun l => k :: v :: l) = some l := h
    cases hf : flatK ks vs with
    | none => rw [hf] at h; exact nomatch h
    | some m =>
      rw [hf] at h; cases h
      rw [List.all_cons, List.all_cons, Bool.and_eq_true, Bool.and_eq_true] at hs
      obtain ⟨es, h1, h2, h3, h4⟩ := flat_pps S C (pos := pos) hf hs.2.2
      refine ⟨(r.e cc k, r.e cc v) :: es, ?_, pps_cons (S.e X c cc k C) (S.e X c cc v C) h2, by rw [List.all_cons, h3]; rfl, by rw [List.length_cons, List.length_cons, h4]⟩
      show cond (noStarC k) (aCons (r.e cc k) (cond (noStarC v) (aCons (r.e cc v) (aS comb r cc m)) aBad)) aBad = _
      rw [hs.1, hs.2.1, h1]; rfl
  | none :: _, _, _, h, _ => nomatch h
  | some _ :: _, [], _, h, _ => nomatch h
  | [], _ :: _, _, h, _ => nomatch h
theorem dspE_ok (S : Snd G r) (C : CtxOk G X c cc) {ks : List (Option Expr)} {vs : List Expr} {l : Nat} {E : Ev} {pos : Pos} (h : dspE comb r G cc ks vs l = some E) : PE X (.Dict ks vs pos) (rdE c E) := by
  have hu := C.un
  unfold dspE at h
  cases hb : Nat.beq ks.length 0 with
  | true => rw [hb] at h; exact nomatch h
  | false =>
    rw [hb] at h
    obtain ⟨h1, h⟩ := condS (show cond (memN l G.tk || !(Nat.beq ks.length 1)) _ none = some E from h)
    obtain ⟨h2, h⟩ := condS h
    cases hf : flatK ks vs with
    | none => rw [hf] at h; exact nomatch h
    | some m =>
      rw [hf] at h
      obtain ⟨h3, h⟩ := condS (show cond (m.all noStarC) (some (eDictN (memN l G.tk) (aS comb r cc m))) none = some E from h)
      cases h
      obtain ⟨es, e1, e2, e3, e4⟩ := flat_pps S C (pos := pos) hf h3
      have n0 : ks ≠ [] := by rintro rfl; exact nomatch hb
      have h15 := Nat.le_of_ble_eq_true h2
      rw [e1]
      cases memN l G.tk with
      | false => exact (pe_disp e2 e3 e4 n0 h15).mono dispK_rd
      | true => exact (pe_dispT (by omega) e2 e3 e4 n0 h15).mono dispT_rd
theorem spE_ok (S : Snd G r) (C : CtxOk G X c cc) {e : Expr} {E : Ev} (h : spE comb r G cc e = some E) : PE X e (rdE c E) ∧ ∀ whole, PySem.isTrue e X.env whole = (do let v ← whole; standAt e.pos; holding [v] (truthy v)) := by
  unfold spE at h
  split at h
  · exact ⟨dctE_ok S C h, fun _ => rfl⟩
  · exact ⟨txtE_ok S C h, fun _ => rfl⟩
  · exact ⟨dspE_ok S C h, fun _ => rfl⟩
  · exact nomatch h
theorem eHook_ok (S : Snd G r) (C : CtxOk G X c cc) (e : Expr) : PE X e (rdE c (eHook comb r G cc e)) := by
  unfold eHook
  cases h : spE comb r G cc e with
  | none => exact eStep_ok S C e
  | some E => exact (spE_ok S C h).1
theorem tHook_ok (S : Snd G r) (C : CtxOk G X c cc) (e : Expr) : PT X e (rdT c (tHook comb r G cc e)) := by
  unfold tHook
  cases h : spE comb r G cc e with
  | none => exact tStep_ok S C e
  | some E => exact pt_tval (spE_ok S C h).1 (spE_ok S C h).2
theorem sHook_ok (S : Snd G r) (C : CtxOk G X c cc) (s : Stmt) : PS X s (rdS c (sHook comb r cc s)) := by
  unfold sHook
  cases h : spS comb s with
  | none => exact sStep_ok S C s
  | some E => exact nomatch h
end
theorem snd_all (G : Gc) : ∀ n, Snd G (comp comb G n)
  | 0 => ⟨fun _ _ _ _ _ => pe_bad, fun _ _ _ _ _ => pt_bad, fun _ _ _ _ _ => pg_bad, fun _ _ _ _ _ _ _ _ _ => ⟨_, tgw_bad, fun _ _ _ => pg_no⟩, fun _ _ _ _ _ => ps_bad⟩
  | n + 1 => ⟨fun X c cc e C => eHook_ok (snd_all G n) C e, fun X c cc e C => tHook_ok (snd_all G n) C e, fun X c cc e C => gStep_ok (snd_all G n) C e,
    fun K c cc cc0 own m e h1 h2 => gw_ok (snd_all G n) K c cc cc0 own m e h1 h2, fun X c cc e C => sHook_ok (snd_all G n) C e⟩
theorem compB_ok {G : Gc} {n : Nat} {X : Cx} {c : Cf} {cc : Cc} {b : List Stmt} (C : CtxOk G X c cc) : PSs X b (rdS c (compB comb G n cc b)) := ssS_ok (snd_all G n) C
end Rk
end
section
set_option linter.all false
set_option autoImplicit false
set_option maxRecDepth 100000
namespace Rk
open PySem PySem.Spec PyProof.Rows L2
section
variable {P : Program} {w : World} {K : PySem.W.Frag} {mg : Str → Option Value} {base : Heap}
theorem env_ok {α : Type} {ρ : Nat → Option Addr} {H : Hp} {e : α} : ∀ {ts : List T} {vs : List V} {m : Nat} {k : En → α}, DenL ρ H ts vs → ∃ σ, envK e (tailN m) vs.length ts k = k σ ∧ RelE ρ H σ (vs.map some ++ List.replicate m none)
  | [], vs, m, k, d => by
    have : vs = [] := by simpa using d
    subst this
    refine ⟨tailN m, rfl, ?_⟩
    simp only [List.map_nil, List.nil_append]
    induction m with
    | zero => rfl
    | succ m ih => exact ⟨none, _, rfl, ih⟩
  | t :: ts, vs, m, k, d => by
    cases vs with
    | nil => simp at d
    | cons v vs =>
      rw [denL_cons2] at d
      obtain ⟨σ, h1, h2⟩ := env_ok (e := e) (m := m) (k := fun σ => k (.b t σ)) d.2
      exact ⟨.b t σ, h1, v, _, rfl, d.1, h2⟩
theorem run0 {ρ : Nat → Option Addr} {H : Hp} {c : Cf} {N : List Str} {B : Sv} {ts : List T} {vs : List V} {s : Sto} {Q : VK} (r : RelS ρ s H) (d : DenL ρ H ts vs)
    (h : Post ρ s H (runF c (.mk vs.length (tailN (N.length - vs.length)) 0 B) ts s) Q) : rdS c B { nx := fun _ H' => Q .non H', rt := Q } (start N vs) H := by
  cases s with
  | mk n a =>
    obtain ⟨σ, e1, e2⟩ := env_ok (e := Res.er) (m := N.length - vs.length) (k := fun σ => SR.rec (motive := fun _ => Res) .er (fun _ s => .v .non s) (fun t s => .v t s) (fun ts s => .nl ts s) (fun _ _ => .er) (fun _ _ => .er) (B c σ (.mk n a))) d
    have h : Post ρ (.mk n a) H (envK .er (tailN (N.length - vs.length)) vs.length ts fun σ => SR.rec (motive := fun _ => Res) .er (fun _ s => .v .non s) (fun t s => .v t s) (fun ts s => .nl ts s) (fun _ _ => .er) (fun _ _ => .er) (B c σ (.mk n a))) Q := h
    rw [e1] at h
    refine ⟨ρ, σ, .mk n a, r, e2, ?_⟩
    cases hb : B c σ (.mk n a) with
    | er => rw [hb] at h; exact h
    | nx e' s' => rw [hb] at h; exact fun ρ' H' σ' e rr _ => h ρ' H' .non e rr (by simp)
    | rtv t s' => rw [hb] at h; exact h
    | rtl t s' => rw [hb] at h; exact h
    | bk e' s' => rw [hb] at h; exact h.elim
    | ct e' s' => rw [hb] at h; exact h.elim
/-- what the head says of a def -/
structure Said (K : PySem.W.Frag) (mg : Str → Option Value) (d : Df) (a : Addr) (fd : FuncData) : Prop where
  F : FunD K d.fn d.fn (defArgs d.st) (defBody d.st) (defScope d.st) [] [] a fd
  g : mg d.nm = some (.ref a)
theorem fn_all {ds : List Df} {F : FT} {gi : Gi} (ok : ∀ d ∈ ds, DfOk (gOf ds gi) F d) (sd : ∀ d ∈ ds, ∃ a fd, Said K mg d a fd) (hb : ∀ x ∈ bltN, mg x = none) (hg : GiOk mg gi) :
    ∀ k, ∀ d ∈ ds, ∀ a fd, Said K mg d a fd → FnOk P w K mg base CX0 k a fd d.ps (spOf (callAt F k) d.id d.ps.length)
  | 0, d, hd, a, fd, S => ⟨fun vs H Q E h => h.1, fun A outer s H args us vs Q E _ _ _ _ h => by obtain ⟨_, _, _, _, _, _, h⟩ := h; exact h.elim⟩
  | k + 1, d, hd, a, fd, S => by
    have O := ok d hd
    have hc := O.c
    unfold dfC at hc
    simp only [Bool.and_eq_true] at hc
    obtain ⟨⟨⟨⟨c1, c2⟩, c3⟩, c4⟩, c5⟩ := hc
    have sc := C8.fnScope_by c1
    refine S.F.ok sc (fun vs H Q E h => h.1) fun cdv A outer s H vs Q E hr h => ⟨rdS (callAt F k) (compB comb (gOf ds gi) 60 d.cc (defBody d.st)), PSs.nox (compB_ok ?_), ?_⟩
    · refine ⟨rfl, sc.nd, fun x hx => ?_, rfl, sc.kind, rfl, rfl, ?_, fun _ _ => rfl, hb, hg.gcd, hg.cmb, fun x f ps hl => ?_, fun x n hl => ?_, fun x n hl => ?_⟩
      · have := List.all_eq_true.mp c2 x hx
        simpa using this
      · have := hr.un
        show (A.deeper _).units + 65 < cLine
        omega
      · have hm := lookF_eq hl
        obtain ⟨d', hd', e⟩ := List.mem_map.mp (show (nk x, f, ps) ∈ ds.map fun d => (nk d.nm, d.id, d.ps) from hm)
        have e1 : nk d'.nm = nk x := congrArg Prod.fst e
        have e2 : d'.id = f := congrArg (fun p => p.2.1) e
        have e3 : d'.ps = ps := congrArg (fun p => p.2.2) e
        have e1 := nk_inj e1
        subst e1; subst e2; subst e3
        obtain ⟨a', fd', S'⟩ := sd d' hd'
        have O' := ok d' hd'
        have hc := O'.c
        unfold dfC at hc
        simp only [Bool.and_eq_true] at hc
        obtain ⟨⟨⟨⟨g1, g2⟩, g3⟩, g4⟩, g5⟩ := hc
        obtain ⟨oc, od, dV, kV, doc, pm, an, cdv', ct, osl, rfl, lk, hcd, hD, hK⟩ := S'.F.ex
        have hdv : dV = .none := by
          rcases hD with ⟨_, e⟩ | ⟨e, _⟩
          · exact e
          · exact absurd rfl e
        have sc' := C8.fnScope_by g1
        refine ⟨⟨k, a', _, fn_all ok sd hb hg k d' hd' a' _ S', hr, S'.g, S'.F.kp, g3, hdv, by simpa using g4⟩, ?_, by simpa using g5⟩
        rw [← sc'.pre]; exact sc'.nd.sublist (List.take_sublist _ _)
      · obtain ⟨p, hp, e⟩ := List.mem_map.mp (show (nk x, n) ∈ gi.ci.map fun p => (nk p.1, p.2) from lookC_eq hl)
        have e1 := nk_inj (congrArg Prod.fst e)
        have e2 : p.2 = n := congrArg Prod.snd e
        subst e1; subst e2
        exact ⟨by simpa using List.all_eq_true.mp hg.nb.1 p hp, hg.ci p hp⟩
      · obtain ⟨p, hp, e⟩ := List.mem_map.mp (show (nk x, n) ∈ gi.cs.map fun p => (nk p.1, p.2) from lookC_eq hl)
        have e1 := nk_inj (congrArg Prod.fst e)
        have e2 : p.2 = n := congrArg Prod.snd e
        subst e1; subst e2
        exact ⟨by simpa using List.all_eq_true.mp hg.nb.2 p hp, hg.cs p hp⟩
    · obtain ⟨hl, ρ, st, ts, rs, dl, hp⟩ := h
      have e : callAt F (k + 1) d.id ts st = runF (callAt F k) (.mk d.ps.length (tailN (d.N.length - d.ps.length)) 0 (compB comb (gOf ds gi) 60 d.cc (defBody d.st))) ts st := by
        show FT.get .er F d.id (fun fd => runF (callAt F k) fd ts st) = _
        rw [ft_get, O.f]
      rw [e, ← hl] at hp
      exact run0 rs dl hp
/-- a helper without parameters, run by the kernel -/
theorem sp_true {c : Cf} {f : Nat} {H : Hp} {Q : VK} (h : isTrue (c f [] (.mk 0 .nil)) = true) (q : ∀ H', (∀ a o, H a = some o → H' a = some o) → Q (.bl true) H') : ∀ E, spOf c f 0 [] H Q E := fun E => by
  refine ⟨rfl, fun _ => none, .mk 0 .nil, [], ⟨fun _ _ => rfl, fun m hm => absurd hm (Nat.not_lt_zero m), fun _ _ _ h => (nomatch h), fun _ _ h => (nomatch h), fun _ _ h => (nomatch h)⟩, by simp, ?_⟩
  cases hm : c f [] (.mk 0 .nil) with
  | er => rw [hm] at h; exact nomatch h
  | nl _ _ => rw [hm] at h; exact nomatch h
  | v t s =>
    rw [hm] at h
    cases t with
    | bl b =>
      have h : b = true := h
      subst h
      refine fun ρ' H' v e rr d => ?_
      have : v = .bl true := by simpa using d
      subst this
      exact q H' fun a o ho => e.fr a o ho fun ⟨m, o, z, _⟩ => nomatch z
    | non => exact nomatch (show false = true from h)
    | int _ => exact nomatch (show false = true from h)
    | str _ => exact nomatch (show false = true from h)
    | tup _ => exact nomatch (show false = true from h)
    | ref _ => exact nomatch (show false = true from h)
end
end Rk
end
section
set_option linter.all false
set_option autoImplicit false
set_option maxRecDepth 100000
namespace Rk
open PySem PySem.Spec PyProof.Rows L2
/-! ### the law's helper that makes cells of the script, asked for one cell -/
abbrev cellsB (p1 p2 p3 p4 p5 p6 p7 p8 p9 p10 p11 p12 p13 p14 p15 p16 p17 p18 p19 p20 p21 p22 p23 p24 p25 p26 p27 p28 p29 p30 p31 p32 p33 p34 p35 p36 p37 p38 p39 p40 p41 p42 p43 p44 : Pos) (k0 k1 k2 k3 : Nat) : List Stmt :=
  [.Assign [.Name "cells_so" p1] (.BoolOp .Or [.Call (.Name "list" p2) [.Subscript (.Name "script" p3) (.Slice none (some (.Name "most_so" p4)) none p5) p6] [] p7, .List [.Constant (.int 0) k0 p8] p9] p10) p11,
   .For (.Tuple [.Name "k" p12, .Name "bit_so" p13] k1 p14) (.Call (.Name "enumerate" p15) [.Subscript (.Name "script" p16) (.Slice (some (.Name "most_so" p17)) (some (.Constant (.int 63) k2 p18)) none p19) p20] [] p21)
     [.Assign [.Name "at_so" p22] (.BinOp (.Call (.Name "int" p23) [.Name "k" p24] [] p25) .Mod (.Name "most_so" p26) p27) p28,
      .Assign [.Subscript (.Name "cells_so" p29) (.Name "at_so" p30) p31] (.BinOp (.Subscript (.Name "cells_so" p32) (.Name "at_so" p33) p34) .Add (.BinOp (.Name "bit_so" p35) .Mult (.BinOp (.Name "k" p36) .Add (.Constant (.int 2) k3 p37) p38) p39) p40) p41] [] p42,
   .Return (some (.Name "cells_so" p43)) p44]
def rListOf (K : PySem.W.Frag) : List V → Hp → VK → Prop := fun xs H Q => ∃ p ys, xs = [.ref p] ∧ (SqL K H p ys ∨ SqT K H p ys) ∧ ∀ l, H l = none → Q (.ref l) (upd H l (.lst ys))
def rIntOf : List V → Hp → VK → Prop := fun xs H Q => (∃ i, xs = [.int i] ∧ Q (.int i) H) ∨ ∃ k, xs = [.bl k] ∧ Q (.int (if k then 1 else 0)) H
def rModP : R2 := rI (fun _ j => 0 < j) fun i j => .int (i % j)
def rMulC : R2 := rI CMul fun i j => .int (i * j)
def rAddI : R2 := rI0 fun i j => .int (i + j)
def tCellsBody (K : PySem.W.Frag) : TS := tSeq (tAsg (tOp rModP (tCB rIntOf (tCons (tVar 3) tNil)) (tVar 1)) (gName 5))
  (tAsg (tOp rAddI (tOp (rIx K) (tVar 2) (tVar 5)) (tOp rMulC (tVar 4) (tOp rAddI (tVar 3) (tC (.int 2))))) (gSub (tVar 2) (tVar 5) rSetL))
def tCells (K : PySem.W.Frag) : TS :=
  tSeq (tAsg (tOrT K (tCB (rListOf K) (tCons (tSl (rSlL K) (tVar 0) tNoPart (tPart (tVar 1))) tNil)) (tLst (tCons (tC (.int 0)) tNil))) (gName 2))
  (tSeq (tFor (L2.iEnum K (tCons (tSl (rSlL K) (tVar 0) (tPart (tVar 1)) (tPart (tC (.int 63)))) tNil)) (gTup K 2 (gCons (gName 3) (gCons (gName 4) gNil))) (tCellsBody K))
  (tRet (tVar 2)))
abbrev cellsN : List Str := ["script", "most_so", "cells_so", "k", "bit_so", "at_so"]
theorem pss_cells {X : Cx} {p1 p2 p3 p4 p5 p6 p7 p8 p9 p10 p11 p12 p13 p14 p15 p16 p17 p18 p19 p20 p21 p22 p23 p24 p25 p26 p27 p28 p29 p30 p31 p32 p33 p34 p35 p36 p37 p38 p39 p40 p41 p42 p43 p44 : Pos} {k0 k1 k2 k3 : Nat}
    (hN : X.N = cellsN) (hc : X.calm = true) (hx : X.xe = fun _ _ => False) (hl : ∀ x ∈ cellsN, X.env.scope.names.lookup x = some .local) (hg : ∀ x ∈ (["list", "enumerate", "int"] : List Str), Gl X x ∧ X.mg x = none) :
    PSs X (cellsB p1 p2 p3 p4 p5 p6 p7 p8 p9 p10 p11 p12 p13 p14 p15 p16 p17 p18 p19 p20 p21 p22 p23 p24 p25 p26 p27 p28 p29 p30 p31 p32 p33 p34 p35 p36 p37 p38 p39 p40 p41 p42 p43 p44 k0 k1 k2 k3) (tCells X.K) := by
  have nd : X.N.Nodup := by rw [hN]; decide +kernel
  have e0 : X.N[0]? = some ("script" : Str) := by rw [hN]; rfl
  have e1 : X.N[1]? = some ("most_so" : Str) := by rw [hN]; rfl
  have e2 : X.N[2]? = some ("cells_so" : Str) := by rw [hN]; rfl
  have e3 : X.N[3]? = some ("k" : Str) := by rw [hN]; rfl
  have e4 : X.N[4]? = some ("bit_so" : Str) := by rw [hN]; rfl
  have e5 : X.N[5]? = some ("at_so" : Str) := by rw [hN]; rfl
  have l0 := hl ("script" : Str) (by decide +kernel)
  have l1 := hl ("most_so" : Str) (by decide +kernel)
  have l2 := hl ("cells_so" : Str) (by decide +kernel)
  have l3 := hl ("k" : Str) (by decide +kernel)
  have l4 := hl ("bit_so" : Str) (by decide +kernel)
  have l5 := hl ("at_so" : Str) (by decide +kernel)
  obtain ⟨g1, m1⟩ := hg ("list" : Str) (by decide +kernel)
  obtain ⟨g2, m2⟩ := hg ("enumerate" : Str) (by decide +kernel)
  obtain ⟨g3, m3⟩ := hg ("int" : Str) (by decide +kernel)
  have v0 : ∀ {p}, PE X (.Name "script" p) (tVar 0) := pe_var e0 (.inl l0)
  have v1 : ∀ {p}, PE X (.Name "most_so" p) (tVar 1) := pe_var e1 (.inl l1)
  have v2 : ∀ {p}, PE X (.Name "cells_so" p) (tVar 2) := pe_var e2 (.inl l2)
  have v3 : ∀ {p}, PE X (.Name "k" p) (tVar 3) := pe_var e3 (.inl l3)
  have v4 : ∀ {p}, PE X (.Name "bit_so" p) (tVar 4) := pe_var e4 (.inl l4)
  have v5 : ∀ {p}, PE X (.Name "at_so" p) (tVar 5) := pe_var e5 (.inl l5)
  refine pss_cons (ps_asg (pe_orT (pe_callTy call_list_of g1 m1 (by decide +kernel) (pa_cons (pe_slice sl_list v0 po_none (po_some v1)) pa_nil)) (pe_one (pe_lst (pa_cons pe_int pa_nil)))) (pg_name nd e2 (.inl l2) (.inr l2)) (by exact sw_name rfl) st_name) ?_
  refine pss_cons (ps_for (by rw [hx]; exact PassesOwn.never) hc (pi_enum g2 m2 (pa_cons (pe_slice sl_list v0 (po_some v1) (po_some pe_int)) pa_nil)) (pg_tup hc (pgs_cons (pg_name nd e3 (.inl l3) (.inr l3)) (pgs_cons (pg_name nd e4 (.inl l4) (.inr l4)) pgs_nil))) ?_) (pss_one (ps_ret v2))
  refine pss_cons (ps_asg (pe_op op_mod (pe_callTy call_int1 g3 m3 (by decide +kernel) (pa_cons v3 pa_nil)) v1) (pg_name nd e5 (.inl l5) (.inr l5)) (by exact sw_name rfl) st_name) ?_
  exact pss_one (ps_asg (pe_op op_add (pe_ix ix_seq v2 v5 fun _ _ => rfl) (pe_op op_mul v4 (pe_op op_add v3 pe_int))) (pg_sub v2 v5 set_list) sw_sub st_sub)
theorem cut_len1 (xs : List V) : (cutV xs none (some 1)).length ≤ 1 ∧ ∀ x ∈ cutV xs none (some 1), x ∈ xs := by
  refine ⟨?_, fun x hx => List.mem_of_mem_drop (List.mem_of_mem_take hx)⟩
  unfold cutV
  rw [List.length_take]
  have : HT.sIx xs.length xs.length (some 1) ≤ 1 := by
    unfold HT.sIx
    simp
    omega
  omega
theorem cut_mem {xs : List V} {lo hi : Option Int} : ∀ x ∈ cutV xs lo hi, x ∈ xs := fun x hx => List.mem_of_mem_drop (List.mem_of_mem_take hx)
theorem sqL_upd {K : PySem.W.Frag} {H : Hp} {a b : Addr} {xs : List V} {o : HO} (h : SqL K H a xs) (hb : H b = none) : SqL K (upd H b o) a xs := by
  rcases h with (h | ⟨o', h⟩) | h
  · exact .inl (.inl (by rw [upd_ne (ne_of_none h hb)]; exact h))
  · exact .inl (.inr ⟨o', by rw [upd_ne (ne_of_none h hb)]; exact h⟩)
  · exact .inr h
theorem ixN_one : ixN 1 0 = some 0 := by decide +kernel
theorem cells_run {K : PySem.W.Frag} {D : Ends} {H : Hp} {a : Addr} {ns : List Int} (hs : SqL K H a (ns.map V.int)) (hn : ns.length ≤ 63) (q : ∀ p H' v, H' p = some (.lst [v]) → D.rt (.ref p) H') : tCells K D (start cellsN [.ref a, .int 1]) H := by
  have st : start cellsN [.ref a, .int 1] = [some (.ref a), some (.int 1), none, none, none, none] := rfl
  rw [st]
  have hint : ∀ x ∈ ns.map V.int, ∃ i, x = V.int i := fun x hx => by
    obtain ⟨i, _, e⟩ := List.mem_map.mp hx
    exact ⟨i, e.symm⟩
  -- behind the first assignment
  have main : ∀ (p : Addr) (H1 : Hp) (c : Int), SqL K H1 a (ns.map V.int) → H1 p = some (.lst [.int c]) →
      tSeq (tFor (L2.iEnum K (tCons (tSl (rSlL K) (tVar 0) (tPart (tVar 1)) (tPart (tC (.int 63)))) tNil)) (gTup K 2 (gCons (gName 3) (gCons (gName 4) gNil))) (tCellsBody K)) (tRet (tVar 2)) D [some (.ref a), some (.int 1), some (.ref p), none, none, none] H1 := by
    intro p H1 c hs1 hp
    refine ⟨_, rfl, _, rfl, _, rfl, _, rfl, a, _, rfl, hs1, fun b hb => ?_⟩
    have hpb : p ≠ b := fun e => by rw [e, hb] at hp; cases hp
    generalize hy : cutV (ns.map V.int) (some 1) (some 63) = ys
    have hyl : ys.length ≤ 63 := by
      have := cutV_length (ns.map V.int) (some 1) (some 63)
      rw [hy, List.length_map] at this
      omega
    have hyi : ∀ x ∈ ys, ∃ i, x = V.int i := fun x hx => hint x (cut_mem x (by rw [hy]; exact hx))
    refine ⟨b, ys, rfl, .inl (.inl upd_same), ?_⟩
    refine ⟨fun i m σ H2 => i + m = ys.length ∧ H2 b = some (.lst ys) ∧ ∃ (c : Int) (x3 x4 x5 : Option V), H2 p = some (.lst [.int c]) ∧ σ = [some (.ref a), some (.int 1), some (.ref p), x3, x4, x5], ⟨ys.length, Nat.zero_add _, upd_same, c, none, none, none, by rw [upd_ne hpb]; exact hp, rfl⟩, ?_⟩
    rintro i m σ H2 ⟨him, hb2, c, x3, x4, x5, hp2, rfl⟩
    by_cases hi : i < ys.length
    · refine .inr ⟨⟨ys, ys[i], .inl (.inl hb2), List.getElem?_eq_getElem hi⟩, fun σ' H' => i + 1 + (m - 1) = ys.length ∧ H' b = some (.lst ys) ∧ ∃ (c : Int) (x3 x4 x5 : Option V), H' p = some (.lst [.int c]) ∧ σ' = [some (.ref a), some (.int 1), some (.ref p), x3, x4, x5],
        fun σ' H' w => ⟨m - 1, by omega, w⟩, ?_⟩
      rintro x H' ⟨T, y, rfl, hT, rfl, hall⟩
      have hy2 := hall ys (.inl (.inl hb2))
      obtain ⟨j, rfl⟩ := hyi y (List.mem_of_getElem? hy2)
      have hpT : p ≠ T := fun e => by rw [e, hT] at hp2; cases hp2
      have hbT : b ≠ T := fun e => by rw [e, hT] at hb2; cases hb2
      refine ⟨T, [.int (i : Nat), .int j], rfl, .inl (.inl upd_same), rfl, _, _, rfl, _, _, rfl, ?_⟩
      have e1 : ((i : Nat) : Int) % 1 = 0 := Int.emod_one _
      have hp3 : upd H2 T (.tup [.int (i : Nat), .int j]) p = some (.lst [.int c]) := by rw [upd_ne hpT]; exact hp2
      refine ⟨rfl, ?_⟩
      refine ⟨_, rfl, .inl ⟨_, rfl, _, rfl, _, _, rfl, rfl, (show (0 : Int) < 1 by decide), ?_⟩⟩
      refine ⟨_, rfl, _, rfl, .inl ⟨p, [.int c], _, .int c, rfl, rfl, .inl (.inl hp3), by rw [e1]; rfl, _, rfl, _, rfl, _, _, rfl, rfl, _, _, rfl, rfl, .inr ⟨by omega, by omega⟩, _, _, rfl, rfl, ?_⟩⟩
      refine ⟨_, rfl, _, rfl, p, [.int c], _, 0, rfl, rfl, hp3, by show ixN 1 _ = some 0; rw [e1]; exact ixN_one, ?_⟩
      exact ⟨by omega, by rw [upd_ne (Ne.symm hpb), upd_ne hbT]; exact hb2, _, _, _, _, upd_same, rfl⟩
    · exact .inl ⟨⟨ys, .inl (.inl hb2), by omega⟩, ⟨_, rfl, q p H2 _ hp2⟩⟩
  refine ⟨_, rfl, _, rfl, _, rfl, a, _, rfl, hs, fun b hb => ?_⟩
  obtain ⟨c1, c2⟩ := cut_len1 (ns.map V.int)
  generalize hy : cutV (ns.map V.int) none (some 1) = ys at c1 c2
  have hs1 : SqL K (upd H b (.lst ys)) a (ns.map V.int) := sqL_upd hs hb
  refine ⟨b, ys, rfl, .inl (.inl (.inl upd_same)), fun p hp => ?_⟩
  have hs2 : SqL K (upd (upd H b (.lst ys)) p (.lst ys)) a (ns.map V.int) := sqL_upd hs1 hp
  refine ⟨!ys.isEmpty, .inl ⟨ys, .inl (.inl upd_same), rfl⟩, ?_⟩
  cases ys with
  | nil =>
    refine ⟨by decide, fun r hr => ?_⟩
    exact main r _ 0 (sqL_upd hs2 hr) upd_same
  | cons y yr =>
    have : yr = [] := by
      cases yr with
      | nil => rfl
      | cons _ _ => simp at c1
    subst this
    obtain ⟨i, rfl⟩ := hint y (c2 y (by simp))
    exact main p _ i hs2 upd_same
end Rk
end
section
set_option linter.all false
set_option autoImplicit false
set_option maxRecDepth 100000
namespace Rk
open PySem PySem.Spec PyProof.Rows L2
def spCells (K : PySem.W.Frag) : Sp := fun vs H Q _ => ∃ (a : Addr) (ns : List Int), vs = [.ref a, .int 1] ∧ SqL K H a (ns.map V.int) ∧ ns.length ≤ 63 ∧ ∀ p H' v, H' p = some (.lst [v]) → Q (.ref p) H'
section
variable {P : Program} {w : World} {K : PySem.W.Frag} {mg : Str → Option Value} {base : Heap} {f fC : Addr} {fd fdC : FuncData} {pa : Arguments} {bd : List Stmt} {sc : Scope} {kws : List (Str × V)}
theorem ok_cells {p1 p2 p3 p4 p5 p6 p7 p8 p9 p10 p11 p12 p13 p14 p15 p16 p17 p18 p19 p20 p21 p22 p23 p24 p25 p26 p27 p28 p29 p30 p31 p32 p33 p34 p35 p36 p37 p38 p39 p40 p41 p42 p43 p44 : Pos} {k0 k1 k2 k3 : Nat}
    (F : FunD K "_law_cells" "_law_cells" pa bd sc [] kws f fd) (S : C8.scC cellsN ["script", "most_so"] sc = true)
    (hl : (cellsN.all fun x => decide (sc.names.lookup x = some .local)) = true) (hg : ((["list", "enumerate", "int"] : List Str).all fun x => decide (sc.names.lookup x = some .globalImplicit)) = true) (hm : ∀ x ∈ (["list", "enumerate", "int"] : List Str), mg x = none)
    (hb : bd = cellsB p1 p2 p3 p4 p5 p6 p7 p8 p9 p10 p11 p12 p13 p14 p15 p16 p17 p18 p19 p20 p21 p22 p23 p24 p25 p26 p27 p28 p29 p30 p31 p32 p33 p34 p35 p36 p37 p38 p39 p40 p41 p42 p43 p44 k0 k1 k2 k3) :
    FnOk P w K mg base CX0 1 f fd ["script", "most_so"] (spCells K) := by
  refine F.ok (C8.fnScope_by S) (fun vs H Q E h => ?_) (fun cdv A outer s H vs Q E hr h => ⟨tCells K, PSs.nox ?_, ?_⟩)
  · obtain ⟨a, ns, rfl, _⟩ := h
    rfl
  · rw [hb]
    refine pss_cells (X := (cxOf CX0 P w K mg base cellsN "_law_cells" sc f cdv A outer s H E).nox) rfl rfl rfl (fun x hx => ?_) (fun x hx => ⟨?_, hm x hx⟩)
    · exact of_decide_eq_true (List.all_eq_true.mp hl x hx)
    · have h := of_decide_eq_true (List.all_eq_true.mp hg x hx)
      exact h
  · obtain ⟨a, ns, rfl, h1, h2, h3⟩ := h
    exact cells_run h1 h2 fun p H' v hp => h3 p H' v hp
/-! ### the law: the helpers, one behind another -/
inductive Chain : List Stmt → List Str → Prop
  | nil {k : Nat} {p q : Pos} : Chain [.Return (some (.Constant (.bool true) k p)) q] []
  | cons {x : Str} {xs : List Str} {rest : List Stmt} {k : Nat} {p1 p2 p3 p4 p5 p6 : Pos} (h : Chain rest xs) : Chain (.If (.UnaryOp .Not (.Call (.Name x p1) [] [] p2) p3) [.Return (some (.Constant (.bool false) k p4)) p5] [] p6 :: rest) (x :: xs)
/-- a look at it -/
def chainB : List Stmt → List Str → Bool
  | [.Return (some (.Constant (.bool true) _ _)) _], [] => true
  | .If (.UnaryOp .Not (.Call (.Name y _) [] [] _) _) [.Return (some (.Constant (.bool false) _ _)) _] [] _ :: rest, x :: xs => isNm y x && chainB rest xs
  | _, _ => false
theorem chain_of : ∀ {b : List Stmt} {xs : List Str}, chainB b xs = true → Chain b xs := by
  intro b xs h
  induction b generalizing xs with
  | nil => unfold chainB at h; exact nomatch h
  | cons st rest ih =>
    unfold chainB at h
    split at h
    · rename_i e
      cases e
      exact .nil
    · rename_i y _ _ _ _ _ _ _ rest' x xs' e
      cases e
      rw [Bool.and_eq_true] at h
      have := nk_inj (Nat.eq_of_beq_eq_true h.1)
      subst this
      exact .cons (ih h.2)
    · exact nomatch h
structure Good (X : Cx) (x : Str) : Prop where
  g : Gl X x
  c : ∃ (c : Cf) (f : Nat), CallOk X c x f [] ∧ isTrue (c f [] (.mk 0 .nil)) = true
theorem chain_ok {X : Cx} {b : List Stmt} {xs : List Str} (h : Chain b xs) (hg : ∀ x ∈ xs, Good X x) : ∃ t, PSs X b t ∧ ∀ D σ H, (∀ H', D.rt (.bl true) H') → t D σ H := by
  induction h with
  | nil => exact ⟨_, pss_one (ps_ret pe_bl), fun D σ H q => q H⟩
  | @cons x xs rest k p1 p2 p3 p4 p5 p6 h ih =>
    obtain ⟨t, h1, h2⟩ := ih fun y hy => hg y (List.mem_cons_of_mem _ hy)
    obtain ⟨g, c, f, C, ht⟩ := hg x List.mem_cons_self
    obtain ⟨j, a, fd, F, hr, hm, hk, s1, s2, s3⟩ := C.ex
    refine ⟨_, pss_cons (ps_if (pt_not (pt_val (pe_call0 (E := E0) F hr g hm hk (binds_pos s1 s2 s3 C.nd) .nil pass0 C.nb))) (pss_one (ps_ret pe_bl)) pss_nil) h1, fun D σ H q => ?_⟩
    refine sp_true ht (fun H' _ => ⟨_, rfl, ?_⟩) E0
    exact h2 D σ H' q
end
end Rk
end
section
set_option linter.all false
set_option autoImplicit false
set_option maxRecDepth 100000
namespace Rk
open PySem PySem.Spec PyProof.Rows L2
abbrev lawB (p1 p2 p3 p4 p5 p6 p7 p8 p9 p10 p11 : Pos) (k0 k1 k2 : Nat) (rest : List Stmt) : List Stmt :=
  .If (.Compare (.Call (.Name "len" p1) [.Call (.Name "_law_cells" p2) [.Name "script" p3, .Constant (.int 1) k0 p4] [] p5] [] p6) [.NotEq] [.Constant (.int 1) k1 p7] p8) [.Return (some (.Constant (.bool false) k2 p9)) p10] [] p11 :: rest
def spLaw (K : PySem.W.Frag) : Sp := fun vs H Q _ => ∃ (a : Addr) (ns : List Int), vs = [.ref a] ∧ SqL K H a (ns.map V.int) ∧ ns.length ≤ 63 ∧ ∀ H', Q (.bl true) H'
section
variable {P : Program} {w : World} {K : PySem.W.Frag} {mg : Str → Option Value} {base : Heap} {f fC : Addr} {fd fdC : FuncData} {pa : Arguments} {bd : List Stmt} {sc : Scope} {kws : List (Str × V)}
theorem ok_law {ds : List Df} {F : FT} {gi : Gi} {k : Nat} {xs : List Str} {rest : List Stmt} {p1 p2 p3 p4 p5 p6 p7 p8 p9 p10 p11 : Pos} {k0 k1 k2 : Nat} (ok : ∀ d ∈ ds, DfOk (gOf ds gi) F d) (sd : ∀ d ∈ ds, ∃ a fd, Said K mg d a fd) (hm : ∀ x ∈ bltN, mg x = none) (hgi : GiOk mg gi)
    (FL : FunD K "law" "law" pa bd sc [] kws f fd) (S : C8.scC ["script"] ["script"] sc = true) (hgl : (((["len", "_law_cells"] : List Str) ++ xs).all fun x => decide (sc.names.lookup x = some .globalImplicit)) = true)
    (FC : FnOk P w K mg base CX0 (k + 1) fC fdC ["script", "most_so"] (spCells K)) (mC : mg ("_law_cells" : Str) = some (.ref fC)) (kC : PySem.W.keepIn K (.ref fC) = true) (bC : Binds K fdC ["script", "most_so"] [])
    (hx : ∀ x ∈ xs, ∃ d ∈ ds, d.nm = x ∧ d.ps = [] ∧ isTrue (callAt F (k + 1) d.id [] (.mk 0 .nil)) = true)
    (hb : bd = lawB p1 p2 p3 p4 p5 p6 p7 p8 p9 p10 p11 k0 k1 k2 rest) (hch : chainB rest xs = true) : FnOk P w K mg base CX0 (k + 2) f fd ["script"] (spLaw K) := by
  have hgl' : ∀ x ∈ (["len", "_law_cells"] : List Str) ++ xs, sc.names.lookup x = some .globalImplicit := fun x h => of_decide_eq_true (List.all_eq_true.mp hgl x h)
  refine FL.ok (C8.fnScope_by S) (fun vs H Q E h => ?_) (fun cdv A outer s H vs Q E hr h => ?_)
  · obtain ⟨a, ns, rfl, _⟩ := h
    rfl
  · have Sc := C8.fnScope_by S
    have lS : sc.names.lookup ("script" : Str) = some .local ∨ sc.names.lookup ("script" : Str) = some .cell := Sc.par _ List.mem_cons_self
    have good : ∀ x ∈ xs, Good (cxOf CX0 P w K mg base ["script"] "law" sc f cdv A outer s H E).nox x := fun x hxx => by
      obtain ⟨d, hd, rfl, hps, ht⟩ := hx x hxx
      obtain ⟨a', fd', S'⟩ := sd d hd
      have O' := ok d hd
      have hc := O'.c
      unfold dfC at hc
      simp only [Bool.and_eq_true] at hc
      obtain ⟨⟨⟨⟨g1, g2⟩, g3⟩, g4⟩, g5⟩ := hc
      obtain ⟨oc, od, dV, kV, doc, pm, an, cdv', ct, osl, rfl, lk, hcd, hD, hK⟩ := S'.F.ex
      have hdv : dV = .none := by
        rcases hD with ⟨_, e⟩ | ⟨e, _⟩
        · exact e
        · exact absurd rfl e
      have hF := fn_all (P := P) (w := w) (base := base) ok sd hm hgi (k + 1) d hd a' _ S'
      rw [hps] at hF
      have g4' : (defArgs d.st).args.map (·.arg) = [] := by rw [← hps]; simpa using g4
      exact ⟨hgl' _ (List.mem_append_right _ hxx), callAt F (k + 1), d.id, ⟨⟨k + 1, a', _, hF, hr, S'.g, S'.F.kp, g3, hdv, g4'⟩, List.nodup_nil, by simpa using g5⟩, ht⟩
    obtain ⟨t, h1, h2⟩ := chain_ok (chain_of hch) good
    rw [hb]
    have g1 : Gl (cxOf CX0 P w K mg base ["script"] "law" sc f cdv A outer s H E).nox "len" := hgl' _ (List.mem_append_left _ (by decide +kernel))
    have g2 : Gl (cxOf CX0 P w K mg base ["script"] "law" sc f cdv A outer s H E).nox "_law_cells" := hgl' _ (List.mem_append_left _ (by decide +kernel))
    have pv : ∀ {p}, PE (cxOf CX0 P w K mg base ["script"] "law" sc f cdv A outer s H E).nox (.Name "script" p) (tVar 0) := pe_var rfl (lS.elim .inl fun e => .inr (.inl e))
    refine ⟨_, PSs.nox (pss_cons (ps_if (pt_cmpR op_ne (pe_callB call_len_seq g1 (hm _ (by decide +kernel)) (by decide +kernel) (pa_cons (pe_call (E := E0) FC hr g2 mC kC bC .nil pass0 (pa_cons pv (pa_cons pe_int pa_nil))) pa_nil)) pe_int rfl) (pss_one (ps_ret pe_bl)) pss_nil) h1), ?_⟩
    obtain ⟨a, ns, rfl, q1, q2, q3⟩ := h
    refine ⟨_, rfl, a, ns, rfl, q1, q2, fun p H' v hp => ?_⟩
    refine ⟨p, [v], rfl, .inl (.inl (.inl hp)), ?_⟩
    exact ⟨rfl, _, rfl, h2 _ _ _ q3⟩
end
end Rk
end
section
set_option linter.all false
set_option autoImplicit false
set_option maxRecDepth 100000
namespace Rk
open PySem PySem.Spec PyProof.Rows L2
section
variable {P : Program} {w : World} {K : PySem.W.Frag} {mg : Str → Option Value} {h : Heap} {f : Addr} {ds : List Df} {gi : Gi} {sl sc : Stmt}
theorem said_of (X : K.In h) (G : h.Ns mainGlobals mg) (c : He.SaysD (faL ds gi) (fnL ds sl sc) K) : ∀ d ∈ ds, ∃ a fd, Said K mg d a fd := fun d hd => by
  obtain ⟨fd, F⟩ := c.defs (d := xD d.nm d.fn d.st) (List.mem_append_left _ (List.mem_map.mpr ⟨d, hd, rfl⟩))
  exact ⟨_, fd, F, He.glo_ok X G (c.facts (f := .glo d.nm) (List.mem_append_left _ (List.mem_map.mpr ⟨d, hd, rfl⟩)))⟩
theorem free_of (X : K.In h) (G : h.Ns mainGlobals mg) (c : He.SaysD (faL ds gi) (fnL ds sl sc) K) : ∀ x ∈ bltN, mg x = none := fun x hx =>
  He.free_ok X G (c.facts (f := .free x) (List.mem_append_right _ (List.mem_append_right _ (List.mem_append_left _ (List.mem_map.mpr ⟨x, hx, rfl⟩)))))
theorem gi_of (X : K.In h) (G : h.Ns mainGlobals mg) (c : He.SaysD (faL ds gi) (fnL ds sl sc) K) (hg : sMath gi.cmb K = vMath gi.cmb)
    (nb : ((gi.ci.all fun p => !(p.1 == ("__debug__" : Str))) && gi.cs.all fun p => !(p.1 == ("__debug__" : Str))) = true) : GiOk mg gi := by
  rw [Bool.and_eq_true] at nb
  refine ⟨fun _ => PySem.W.mg_of X G (Prod.mk.inj hg).1, fun hc => ?_, nb, fun p hp => ?_, fun p hp => ?_⟩
  · have h2 := (Prod.mk.inj hg).2
    rw [if_pos hc, if_pos hc] at h2
    exact PySem.W.mg_of X G (Option.some.inj h2)
  · exact He.int_ok X G (c.facts (f := .int p.1 p.2) (List.mem_append_right _ (List.mem_append_right _ (List.mem_append_right _ (List.mem_append_left _ (List.mem_map.mpr ⟨p, hp, rfl⟩))))))
  · exact He.str_ok X G (c.facts (f := .str p.1 ⟨p.2.toArray⟩) (List.mem_append_right _ (List.mem_append_right _ (List.mem_append_right _ (List.mem_append_right _ (List.mem_map.mpr ⟨p, hp, rfl⟩))))))
theorem binds_one {fd : FuncData} {x : Str} {s : Shared} {v : Value} (h1 : simpleP fd.params = true) (h2 : fd.defaults = .none) (h3 : fd.params.args.map (·.arg) = [x]) : BindsTo s fd ⟨[v], []⟩ [(x, v)] := by
  have := bind_all (us := [v]) (ws := []) h1 h2 h3 (n := 1) (ks := []) ⟨by simp, by simp, by simp, by simp⟩ rfl rfl
  rw [List.zip_nil_left] at this
  have e : [x].zip (inOrder [x] ([x].take 1 ++ []) ([v] ++ [])) = [(x, v)] := by
    unfold inOrder
    simp
  rw [e] at this
  exact .of_eq this
theorem dfl_none {x y : Str} {st : Stmt} {a : Addr} {fd : FuncData} (F : FunD K x y (defArgs st) (defBody st) (defScope st) [] [] a fd) : fd.defaults = .none ∧ fd.params = defArgs st := by
  obtain ⟨oc, od, dV, kV, doc, pm, an, cdv', ct, osl, rfl, lk, hcd, hD, hK⟩ := F.ex
  refine ⟨?_, rfl⟩
  rcases hD with ⟨_, e⟩ | ⟨e, _⟩
  · exact e
  · exact absurd rfl e
theorem facts {F : FT} {k : Nat} {xs : List Str} {rest : List Stmt} {q1 q2 q3 q4 q5 q6 q7 q8 q9 q10 q11 : Pos} {j0 j1 j2 : Nat}
    {p1 p2 p3 p4 p5 p6 p7 p8 p9 p10 p11 p12 p13 p14 p15 p16 p17 p18 p19 p20 p21 p22 p23 p24 p25 p26 p27 p28 p29 p30 p31 p32 p33 p34 p35 p36 p37 p38 p39 p40 p41 p42 p43 p44 : Pos} {k0 k1 k2 k3 : Nat}
    (X : K.In h) (G : h.Ns mainGlobals mg) (hfa : mg ("law" : Str) = some (.ref f)) (c : He.SaysD (faL ds gi) (fnL ds sl sc) K) (hg : sMath gi.cmb K = vMath gi.cmb)
    (ok : ∀ d ∈ ds, DfOk (gOf ds gi) F d) (nb : ((gi.ci.all fun p => !(p.1 == ("__debug__" : Str))) && gi.cs.all fun p => !(p.1 == ("__debug__" : Str))) = true)
    (sL : (C8.scC ["script"] ["script"] (defScope sl) && ((((["len", "_law_cells"] : List Str) ++ xs).all fun x => decide ((defScope sl).names.lookup x = some .globalImplicit)) && (simpleP (defArgs sl) && decide ((defArgs sl).args.map (·.arg) = (["script"] : List Str))))) = true)
    (sC : (C8.scC cellsN ["script", "most_so"] (defScope sc) && ((cellsN.all fun x => decide ((defScope sc).names.lookup x = some .local)) && (((["list", "enumerate", "int"] : List Str).all fun x => decide ((defScope sc).names.lookup x = some .globalImplicit)) && (simpleP (defArgs sc) && decide ((defArgs sc).args.map (·.arg) = (["script", "most_so"] : List Str)))))) = true)
    (hx : ∀ x ∈ xs, ∃ d ∈ ds, d.nm = x ∧ d.ps = [] ∧ isTrue (callAt F (k + 1) d.id [] (.mk 0 .nil)) = true)
    (hl : defBody sl = lawB q1 q2 q3 q4 q5 q6 q7 q8 q9 q10 q11 j0 j1 j2 rest) (hch : chainB rest xs = true)
    (hc : defBody sc = cellsB p1 p2 p3 p4 p5 p6 p7 p8 p9 p10 p11 p12 p13 p14 p15 p16 p17 p18 p19 p20 p21 p22 p23 p24 p25 p26 p27 p28 p29 p30 p31 p32 p33 p34 p35 p36 p37 p38 p39 p40 p41 p42 p43 p44 k0 k1 k2 k3) :
    ∃ fd : FuncData, (∀ (s : Shared) (v : Value), BindsTo s fd ⟨[v], []⟩ [("script", v)]) ∧ ∀ base : Heap, K.In base → base.Ns mainGlobals mg → FnOk P w K mg base CX0 (k + 2) f fd ["script"] (spLaw K) := by
  simp only [Bool.and_eq_true] at sL sC
  obtain ⟨l1, l2, l3, l4⟩ := sL
  obtain ⟨c1, c2, c3, c4, c5⟩ := sC
  have ml : ∀ {d : He.DefD}, d ∈ [xD "law" "law" sl, xD "_law_cells" "_law_cells" sc] → d ∈ fnL ds sl sc := fun h => List.mem_append_right _ h
  have mf : ∀ {a : He.Fa}, a ∈ ([.glo "law", .glo "_law_cells"] : List He.Fa) → a ∈ faL ds gi := fun h => List.mem_append_right _ (List.mem_append_left _ h)
  obtain ⟨fd, FL⟩ := c.defs (ml List.mem_cons_self)
  obtain ⟨fdC, FC⟩ := c.defs (ml (List.mem_cons_of_mem _ List.mem_cons_self))
  have e := hfa.symm.trans (He.glo_ok X G (c.facts (mf List.mem_cons_self)))
  cases e
  have mC := He.glo_ok X G (c.facts (mf (List.mem_cons_of_mem _ List.mem_cons_self)))
  have hm := free_of X G c
  obtain ⟨d1, d2⟩ := dfl_none (st := sl) FL
  obtain ⟨e1, e2⟩ := dfl_none (st := sc) FC
  refine ⟨fd, fun s v => binds_one (by rw [d2]; exact l3) d1 (by rw [d2]; exact of_decide_eq_true l4), fun base _ _ => ?_⟩
  have hcells : FnOk P w K mg base CX0 1 (He.fAd K ("_law_cells", none)) fdC ["script", "most_so"] (spCells K) := ok_cells (FC : FunD K "_law_cells" "_law_cells" (defArgs sc) (defBody sc) (defScope sc) [] [] _ fdC) c1 c2 c3 (fun x hx => hm x (by revert hx; revert x; decide +kernel)) hc
  exact ok_law ok (said_of X G c) hm (gi_of X G c hg nb) (FL : FunD K "law" "law" (defArgs sl) (defBody sl) (defScope sl) [] [] _ fd) l1 l2 (hcells.mono (by omega)) mC FC.kp (binds_pos (by rw [e2]; exact c4) e1 (by rw [e2]; exact of_decide_eq_true c5) (by decide +kernel)) hx hl hch
end
end Rk
end
section
set_option Elab.async false
set_option linter.all false
set_option maxRecDepth 1000000
set_option maxHeartbeats 0
namespace Rk
open PySem PySem.Spec PyProof.Rows L2
theorem al_nil {α : Type} {P : α → Prop} : ∀ d ∈ ([] : List α), P d := fun _ h => nomatch h
theorem al_cons {α : Type} {P : α → Prop} {a : α} {l : List α} (h : P a) (r : ∀ d ∈ l, P d) : ∀ d ∈ a :: l, P d := fun d hd => (List.mem_cons.mp hd).elim (fun e => e ▸ h) (r d)
theorem okAll : ∀ d ∈ ds, DfOk (gOf ds gi) F d := al_cons k_is_number (al_cons k_is_from (al_cons k_is_long (al_cons k_tupled (al_cons k_ascends (al_cons k_are_numbers (al_cons k_is_row_below (al_cons k_is_set_below (al_cons k_cut_line (al_cons k_is_line_in (al_cons k_sure_line (al_cons k_added (al_cons k_scaled (al_cons k_times (al_cons k_often_in (al_cons k_value_in (al_cons k_value_at (al_cons k_slope_in (al_cons k_moved_in (al_cons k_about_in (al_cons k_put_in (al_cons k_common_number (al_cons k_plain_in (al_cons k_same_signs (al_cons k_rest_in (al_cons k_shared_in (al_cons k_quotient_in (al_cons k_square_parts_in (al_cons k_is_tie_in (al_cons k_is_web_in (al_cons k_sure_web (al_cons k_tie_of (al_cons k_near_in (al_cons k_clique_in (al_cons k_turned_in (al_cons k_part_in (al_cons k_lots_in (al_cons k_sides_in (al_cons k_odd_ring_in (al_cons k_is_table_in (al_cons k_one_in (al_cons k_product_in (al_cons k_sum_in (al_cons k_trace_in (al_cons k_power_in (al_cons k_poly_of_table (al_cons k_step_rows (al_cons k_rank_in (al_cons k_ties_table_in (al_cons k_rows_of (al_cons k_line_at_table (al_cons k_sure_few (al_cons k_poly_in (al_cons k_step_in (al_cons k_totals_in (al_cons k_least_line_in (al_cons k_are_lots_in (al_cons k_sure_lots (al_cons k_lot_names (al_cons k_counts_in (al_cons k_is_even_in (al_cons k_refined_in (al_cons k_quotient_table_in (al_cons k_sure_even (al_cons k_are_lots (al_cons k_is_even (al_cons k_why_not_even (al_cons k_is_why_not_even (al_cons k_even_within (al_cons k_coarsest_even (al_cons k_quotient_table (al_cons k_quotient_poly (al_cons k_rest_poly (al_cons k_quotient_walks (al_cons k_totals_by_lots (al_cons k_by_distance (al_cons k_are_as_even (al_cons k_same_even (al_cons k_even_lots (al_cons k_totals_plain (al_cons k_sure_rooted (al_cons k_sturm_row (al_cons k_sign_of (al_cons k_changes_in (al_cons k_signs_at (al_cons k_signs_far (al_cons k_plain_above (al_cons k_above_in (al_cons k_turn_about (al_cons k_sure_sided (al_cons k_half_in (al_cons k_squares_in (al_cons k_spread_in (al_cons k_half_table (al_cons k_sides_of (al_cons k_web_of_half (al_cons k_square_poly (al_cons k_poly_by_half (al_cons k_half_rank (al_cons k_roots_turn (al_cons k_doubled_web (al_cons k_doubled_parts (al_cons k_two_steps (al_cons k_is_sides (al_cons k_all_sides (al_cons k_square_share (al_cons k_shortest_odd (al_cons k_sides_poly (al_cons k_sure_regular (al_cons k_all_line (al_cons k_is_all_line (al_cons k_thinned_all_line (al_cons k_turned_poly_in (al_cons k_turned_poly (al_cons k_less_poly_told (al_cons k_line_poly_told (al_cons k_joined_poly (al_cons k_is_regular_line (al_cons k_is_one_part_line (al_cons k_is_turned_one_part (al_cons k_regular_webs_ties (al_cons k_ring_steps (al_cons k_short_counts (al_cons k_same_turned (al_cons k__law_same (al_cons k__law_halves_so_right (al_cons k__law_halves_b_right (al_cons k__law_halves_known_a_right (al_cons k__law_halves_known_b_right (al_cons k__law_halves_known_c_right (al_cons k__law_even_so_right (al_cons k__law_even_b_right (al_cons k__law_even_known_a_right (al_cons k__law_even_known_b_right (al_cons k__law_regular_so_right (al_cons k__law_regular_b_right (al_cons k__law_regular_known_a_right (al_cons k__law_regular_known_b_right al_nil)))))))))))))))))))))))))))))))))))))))))))))))))))))))))))))))))))))))))))))))))))))))))))))))))))))))))))))))))))))))))))))))))))))))))
abbrev xs : List Str := ["_law_halves_so_right", "_law_halves_b_right", "_law_halves_known_a_right", "_law_halves_known_b_right", "_law_halves_known_c_right", "_law_even_so_right", "_law_even_b_right", "_law_even_known_a_right", "_law_even_known_b_right", "_law_regular_so_right", "_law_regular_b_right", "_law_regular_known_a_right", "_law_regular_known_b_right"]
theorem right (n : Str) (d : Df) (i : Nat) (h : ds[i]? = some d) (e : d.nm = n) (p : d.ps = []) (t : isTrue (callAt F 60 d.id [] (.mk 0 .nil)) = true) : ∃ d ∈ ds, d.nm = n ∧ d.ps = [] ∧ isTrue (callAt F (59 + 1) d.id [] (.mk 0 .nil)) = true := ⟨d, List.mem_of_getElem? h, e, p, t⟩
theorem rightAll : ∀ x ∈ xs, ∃ d ∈ ds, d.nm = x ∧ d.ps = [] ∧ isTrue (callAt F (59 + 1) d.id [] (.mk 0 .nil)) = true := al_cons (right _ d__law_halves_so_right 125 rfl rfl rfl t__law_halves_so_right) (al_cons (right _ d__law_halves_b_right 126 rfl rfl rfl t__law_halves_b_right) (al_cons (right _ d__law_halves_known_a_right 127 rfl rfl rfl t__law_halves_known_a_right) (al_cons (right _ d__law_halves_known_b_right 128 rfl rfl rfl t__law_halves_known_b_right) (al_cons (right _ d__law_halves_known_c_right 129 rfl rfl rfl t__law_halves_known_c_right) (al_cons (right _ d__law_even_so_right 130 rfl rfl rfl t__law_even_so_right) (al_cons (right _ d__law_even_b_right 131 rfl rfl rfl t__law_even_b_right) (al_cons (right _ d__law_even_known_a_right 132 rfl rfl rfl t__law_even_known_a_right) (al_cons (right _ d__law_even_known_b_right 133 rfl rfl rfl t__law_even_known_b_right) (al_cons (right _ d__law_regular_so_right 134 rfl rfl rfl t__law_regular_so_right) (al_cons (right _ d__law_regular_b_right 135 rfl rfl rfl t__law_regular_b_right) (al_cons (right _ d__law_regular_known_a_right 136 rfl rfl rfl t__law_regular_known_a_right) (al_cons (right _ d__law_regular_known_b_right 137 rfl rfl rfl t__law_regular_known_b_right) al_nil))))))))))))
theorem facts1 {P : Program} {w : World} {K : PySem.W.Frag} {h : Heap} {mg : Str → Option Value} {f : Addr} (X : K.In h) (G : h.Ns mainGlobals mg) (hfa : mg ("law" : Str) = some (.ref f)) (c : He.SaysD fa fn K) (hg : sMath gi.cmb K = vMath gi.cmb) :
    ∃ fd : FuncData, (∀ (s : Shared) (v : Value), BindsTo s fd ⟨[v], []⟩ [("script", v)]) ∧ ∀ base : Heap, K.In base → base.Ns mainGlobals mg → FnOk P w K mg base CX0 (59 + 2) f fd ["script"] (spLaw K) :=
  facts (xs := xs) X G hfa c hg okAll (by decide +kernel) (by decide +kernel) (by decide +kernel) rightAll rfl (by kernel_rfl) rfl
end Rk
open PySem PySem.W PySem.Calls PyProof.Rows
theorem PySem.Challenge.cw_walktallies_k79_names_of_parameters_halv_holds : PySem.Challenge.rw_walktallies_k79_names_of_parameters_halv.Holds := by
  w_on; o_law
  refine HandSHeadRun.head_imp (r := OpenLaw.row PySem.Challenge.rw_walktallies_k79_names_of_parameters_halv) (q := view (OpenLaw.row PySem.Challenge.rw_walktallies_k79_names_of_parameters_halv).prog [0, 158]) (H := Rk.hk) (ob := Rk.ob) (M := 40000) (loose := Rk.loose) (d := HandSHeadRun.topDef (OpenLaw.row PySem.Challenge.rw_walktallies_k79_names_of_parameters_halv).prog 158) (kwd := []) Rk.ob_eq Rk.run
    (by kernel_rfl) (by kernel_rfl) (by kernel_rfl) (by rfl) (by first | assumption | decide +kernel) (by decide +kernel) ⟨rfl, rfl, rfl, rfl, rfl, by decide +kernel⟩ ?hw ?hc
  case hw => w_witness2
  case hc =>
    refine L2.walk_ofE (l := PySem.Challenge.rw_walktallies_k79_names_of_parameters_halv) (n := 63) (k := 61) (x := "script") (CX := L2.CX0) rfl (by decide) (by kernel_rfl) ⟨rfl, by decide, by decide⟩ ?F (fun _ _ _ _ z => z)
    intro w mg fa h Y G hmg0
    obtain ⟨K, KX, c, hg⟩ := Y
    have hmg : mg ("law" : PySem.Str) = some (.ref fa) := by
      have e : (HandSHeadRun.topDef (OpenLaw.row PySem.Challenge.rw_walktallies_k79_names_of_parameters_halv).prog 158).name = ("law" : PySem.Str) := by kernel_rfl
      rw [← e]
      exact hmg0
    obtain ⟨fd, hb, hF⟩ := Rk.facts1 (P := (PySem.Challenge.rw_walktallies_k79_names_of_parameters_halv).prog) (w := w) KX G hmg c hg
    exact ⟨K, fd, Rk.spLaw K, KX, hb, fun H a ns hn _ hS => ⟨a, ns, rfl, hS, hn, fun _ => rfl⟩, hF⟩
end
