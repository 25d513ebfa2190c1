import PyProof.Rows.All
import Wide.All
import OpenK.AllK
import Wide.FinOn
import PySem.Str
import HandS.ForMost
import HandS.Wide
import HandS.IsInst
import HandS.ForExc
import HandS.CallSlots
import HandS.Style
import HandS.Flow
import HandS.Words
import HandS.Ends
import HandS.List
import KE.KRevSl
import PyProof.Rows.SeqMore
import HandS.New0
import HandS.Defaults
import HandS.ExcInit
import HandS.ExcField
import HandS.ExcIs
import HandS.TryMany
import PyProof.ReprRoads
import HandS.Iter
import HandS.Walk
import HandS.More
import PyProof.NeKinds
import HandS.TryOnly
import HandS.TupLe
import HandS.SortRule
import HandS.Conv
import HandS.Deep
import HandS.TupAny
import HandS.SortInts
import HandS.Star
import KE.GoesMore
import KE.KTurns
import HandS.Text
import HandS.SortOrd
import PyProof.ReprBulk
import PySem.Challenge.RW_termwide_k11_even_words
set_option Elab.async false
set_option linter.all false
set_option maxRecDepth 100000
set_option maxHeartbeats 4000000
/-! DwA: data, slots, and what a piece of Python wants of them: transformers over data, no heap in sight. -/
namespace DW
open PySem

/-- data: what a value is worth, lists as they stand -/
inductive D where
  | non | bl (b : Bool) | int (i : Int) | str (s : Str) | tup (xs : List D) | lst (xs : List D) | obj (c : Str)
  /-- a dict: its keys, what stands under them; the very object at an address, and what it is worth -/
  | dct (ks : List (Sum Int Str)) (vs : List D) | at (a : Nat) (d : D)
  deriving Inhabited

/-- what a slot holds: data that stands still; a list of the body's own; a list that the caller lent -/
inductive DV where
  | val (d : D) | own (xs : List D) | par (xs : List D)

abbrev DS := List (Option DV)
structure DX where
  cls : Str
  fs : List (Str × D)
abbrev XKd := DX → DS → Prop
inductive Out where
  | ret (r : DV) | exc (x : DX)
/-- a def's promise over data -/
abbrev FS := List DV → (Out → List DV → Prop) → Prop

abbrev WE := XKd → DS → (D → DS → Prop) → Prop
abbrev WO := XKd → DS → (List D → DS → Prop) → Prop
abbrev WT := XKd → DS → (Bool → DS → Prop) → Prop
structure Post where
  nx : DS → Prop
  rt : DV → DS → Prop
  bk : DS → Prop
  ct : DS → Prop
  x : XKd
abbrev WS := DS → Post → Prop

def gt : DS → Nat → Option DV
  | [], _ => none
  | x :: _, 0 => x
  | _ :: r, i + 1 => gt r i
def st : DS → Nat → DV → DS
  | [], _, _ => []
  | _ :: r, 0, d => some d :: r
  | x :: r, i + 1, d => x :: st r i d
def er : DS → Nat → DS
  | [], _ => []
  | _ :: r, 0 => none :: r
  | x :: r, i + 1 => x :: er r i
def ers (ds : DS) : List Nat → DS
  | [] => ds
  | v :: vs => er (ers ds vs) v
/-- new items for what a slot holds -/
def fill1 (xs : List D) : Option DV → Option DV
  | some (.own _) => some (.own xs)
  | some (.par _) => some (.par xs)
  | o => o
/-- .. put back the own list at i -/
def refill : DS → Nat → List D → DS
  | [], _, _ => []
  | o :: r, 0, xs => fill1 xs o :: r
  | o :: r, i + 1, xs => o :: refill r i xs
def listAt (ds : DS) (i : Nat) : Option (List D) :=
  match gt ds i with
  | some (.own xs) => some xs
  | some (.par xs) => some xs
  | _ => none

/-! ### operations on data -/
def itemAt {α : Type} (xs : List α) (i : Int) : Option α := if 0 ≤ i then xs[i.toNat]? else if -(xs.length : Int) ≤ i then xs[(i + xs.length).toNat]? else none
def MulOk (i j : Int) : Prop := i.natAbs.log2 + j.natAbs.log2 < 1000000
def DivOk (j : Int) : Prop := j ≠ 0 ∧ j.natAbs.log2 < 9000
abbrev B2 := D → D → (D → Prop) → Prop
abbrev B1 := D → (D → Prop) → Prop
def dAdd : B2 | .int a, .int b, k => k (.int (a + b)) | _, _, _ => False
def dSub : B2 | .int a, .int b, k => k (.int (a - b)) | _, _, _ => False
def dMul : B2 | .int a, .int b, k => MulOk a b ∧ k (.int (a * b)) | _, _, _ => False
def dFdiv : B2 | .int a, .int b, k => DivOk b ∧ k (.int (a.fdiv b)) | _, _, _ => False
def dMod : B2 | .int a, .int b, k => b ≠ 0 ∧ k (.int (a.fmod b)) | _, _, _ => False
def dPow : B2 | .int a, .int b, k => (0 ≤ b ∧ b ≤ 1000000 ∧ a.natAbs < 2 ^ 64) ∧ k (.int (a ^ b.toNat)) | _, _, _ => False
def dNeg : B1 | .int a, k => k (.int (-a)) | _, _ => False
def dAbs : B1 | .int a, k => k (.int (if a < 0 then -a else a)) | _, _ => False
def dMin : B2 | .int a, .int b, k => k (.int (if b < a then b else a)) | _, _, _ => False
def dMax : B2 | .int a, .int b, k => k (.int (if b > a then b else a)) | _, _, _ => False
def dLt : B2 | .int a, .int b, k => k (.bl (decide (a < b))) | _, _, _ => False
def dLe : B2 | .int a, .int b, k => k (.bl (decide (a ≤ b))) | _, _, _ => False
def dGt : B2 | .int a, .int b, k => k (.bl (decide (b < a))) | _, _, _ => False
def dGe : B2 | .int a, .int b, k => k (.bl (decide (b ≤ a))) | _, _, _ => False
mutual
def deq : D → D → Bool
  | .non, .non => true
  | .bl a, .bl b => a == b
  | .bl a, .int j => (if a then 1 else 0) == j
  | .int i, .bl b => i == (if b then 1 else 0)
  | .int i, .int j => i == j
  | .str x, .str y => x == y
  | .lst xs, .lst ys => deqs xs ys
  | .tup xs, .tup ys => deqs xs ys
  | .obj _, .obj _ => true
  | .dct _ _, .dct _ _ => true
  | .at _ _, .at _ _ => true
  | _, _ => false
def deqs : List D → List D → Bool
  | [], [] => true
  | x :: xs, y :: ys => deq x y && deqs xs ys
  | _, _ => false
end
mutual
/-- how deep -/
def dep : D → Nat
  | .lst xs => deps xs + 1
  | .tup xs => deps xs + 1
  | .obj _ => 1
  | .dct _ _ => 1
  | .at _ _ => 1
  | _ => 0
def deps : List D → Nat
  | [] => 0
  | x :: xs => max (dep x) (deps xs)
end
mutual
def shp : D → Bool
  | .str s => s.cps.all (· < 0x110000)
  | .lst xs => shps xs
  | .tup xs => shps xs
  | .obj _ => false
  | .dct _ _ => false
  | .at _ _ => false
  | _ => true
def shps : List D → Bool
  | [] => true
  | x :: xs => shp x && shps xs
end
/-- what may be compared: signs as signs are, not too deep -/
def Shp (x : D) : Prop := shp x = true ∧ dep x ≤ 64
def dEq : B2 := fun x y k => (Shp x ∧ Shp y) ∧ k (.bl (deq x y))
def dNe : B2 := fun x y k => (Shp x ∧ Shp y) ∧ k (.bl (!deq x y))
def isNon : D → Bool | .non => true | _ => false
def dIsN : B1 := fun x k => k (.bl (isNon x))
def dNotN : B1 := fun x k => k (.bl (!isNon x))
def dIx : B2
  | .tup xs, .int i, k => match itemAt xs i with | some v => k v | none => False
  | .lst xs, .int i, k => match itemAt xs i with | some v => k v | none => False
  | .at _ (.tup xs), .int i, k => match itemAt xs i with | some v => k v | none => False
  | .at _ (.lst xs), .int i, k => match itemAt xs i with | some v => k v | none => False
  | _, _, _ => False
def dLen : B1
  | .tup xs, k => k (.int xs.length)
  | .lst xs, k => k (.int xs.length)
  | .at _ (.tup xs), k => k (.int xs.length)
  | .at _ (.lst xs), k => k (.int xs.length)
  | _, _ => False
/-- the built-in types that are asked for -/
inductive Ty where
  | int | bool | str | tuple | list | dict
def isTy : Ty → D → Bool
  | .int, .int _ => true
  | .int, .bl _ => true
  | .bool, .bl _ => true
  | .str, .str _ => true
  | .tuple, .tup _ => true
  | .list, .lst _ => true
  | .dict, .dct _ _ => true
  | .tuple, .at _ (.tup _) => true
  | .list, .at _ (.lst _) => true
  | .dict, .at _ (.dct _ _) => true
  | _, _ => false
def dIsTy (t : Ty) : B1
  | .obj _, _ => False
  | .at _ (.tup xs), k => k (.bl (isTy t (.tup xs)))
  | .at _ (.lst xs), k => k (.bl (isTy t (.lst xs)))
  | .at _ (.dct ks xs), k => k (.bl (isTy t (.dct ks xs)))
  | .at _ _, _ => False
  | x, k => k (.bl (isTy t x))
def dIsTys (ts : List Ty) : B1
  | .obj _, _ => False
  | .at _ (.tup xs), k => k (.bl (ts.any fun t => isTy t (.tup xs)))
  | .at _ (.lst xs), k => k (.bl (ts.any fun t => isTy t (.lst xs)))
  | .at _ (.dct ks xs), k => k (.bl (ts.any fun t => isTy t (.dct ks xs)))
  | .at _ _, _ => False
  | x, k => k (.bl (ts.any fun t => isTy t x))
def boolsD : List D → Option (List Bool)
  | [] => some []
  | .bl b :: r => (boolsD r).map (b :: ·)
  | _ => none
def intsD : List D → Option (List Int)
  | [] => some []
  | .int b :: r => (intsD r).map (b :: ·)
  | _ => none
def dAll : B1 | .lst xs, k => (match boolsD xs with | some bs => k (.bl (bs.all id)) | none => False) | _, _ => False
def dAny : B1 | .lst xs, k => (match boolsD xs with | some bs => k (.bl (bs.any id)) | none => False) | _, _ => False
def dSum : B1 | .lst xs, k => (match intsD xs with | some ns => k (.int ns.sum) | none => False) | _, _ => False
def dInt : B1 | .int a, k => k (.int a) | .bl b, k => k (.int (if b then 1 else 0)) | _, _ => False

/-- what it is worth, whichever object it is -/
def core : D → D
  | .at _ d => d
  | d => d
def items : D → Option (List D)
  | .lst xs => some xs
  | .tup xs => some xs
  | .at _ (.lst xs) => some xs
  | .at _ (.tup xs) => some xs
  | _ => none
/-- x in xs, not in: items that are no lists themselves -/
def flatD : D → Bool
  | .non => true
  | .bl _ => true
  | .int _ => true
  | .str _ => true
  | _ => false
def dIn : B2 := fun x y k => match items y with
  | some xs => (flatD x = true ∧ xs.all flatD = true) ∧ k (.bl (xs.any fun z => deq z x))
  | none => False
def dNin : B2 := fun x y k => match items y with
  | some xs => (flatD x = true ∧ xs.all flatD = true) ∧ k (.bl (!xs.any fun z => deq z x))
  | none => False

/-! ### expressions -/
def wC (d : D) : WE := fun _ ds k => k d ds
def wVar (i : Nat) : WE := fun _ ds k =>
  match gt ds i with
  | some (.val d) => k d ds
  | some (.own xs) => k (.lst xs) (st ds i (.val (.lst xs)))
  | _ => False
def wBin (f : B2) (a b : WE) : WE := fun x ds k => a x ds fun u ds1 => b x ds1 fun v ds2 => f u v fun z => k z ds2
def wUn (f : B1) (a : WE) : WE := fun x ds k => a x ds fun u ds1 => f u fun z => k z ds1
def wArgs : List WE → XKd → DS → (List D → DS → Prop) → Prop
  | [], _, ds, k => k [] ds
  | a :: r, x, ds, k => a x ds fun d ds1 => wArgs r x ds1 fun l ds2 => k (d :: l) ds2
def wTup (as : List WE) : WE := fun x ds k => wArgs as x ds fun l ds1 => k (.tup l) ds1
def wLst (as : List WE) : WO := fun x ds k => wArgs as x ds fun l ds1 => k l ds1
/-- an own list stands still from here on -/
def wFrz (o : WO) : WE := fun x ds k => o x ds fun xs ds1 => k (.lst xs) ds1
/-- an item of the own list in slot i -/
def wIxO (i : Nat) (b : WE) : WE := fun x ds k => (listAt ds i).isSome = true ∧ b x ds fun v ds1 =>
  match v, listAt ds1 i with
  | .int n, some xs => (match itemAt xs n with | some z => k z ds1 | none => False)
  | _, _ => False
def wLenO (i : Nat) : WE := fun _ ds k => match listAt ds i with | some xs => k (.int xs.length) ds | none => False
def wIf (t : WT) (a b : WE) : WE := fun x ds k => t x ds fun c ds1 => if c = true then a x ds1 k else b x ds1 k
def wAndV (a b : WE) : WE := fun x ds k => a x ds fun u ds1 => match u with | .bl c => (if c = true then b x ds1 k else k (.bl false) ds1) | _ => False
def wOrV (a b : WE) : WE := fun x ds k => a x ds fun u ds1 => match u with | .bl c => (if c = true then k (.bl true) ds1 else b x ds1 k) | _ => False
def wNotV (a : WE) : WE := fun x ds k => a x ds fun u ds1 => match u with | .bl c => k (.bl (!c)) ds1 | _ => False
/-! tests -/
def wTst (a : WE) : WT := fun x ds k => a x ds fun u ds1 => match u with | .bl c => k c ds1 | _ => False
def wAnd (a b : WT) : WT := fun x ds k => a x ds fun c ds1 => if c = true then b x ds1 k else k false ds1
def wOr (a b : WT) : WT := fun x ds k => a x ds fun c ds1 => if c = true then k true ds1 else b x ds1 k
def wNot (a : WT) : WT := fun x ds k => a x ds fun c ds1 => k (!c) ds1
def wYes : WT := fun _ ds k => k true ds
/-! calls -/
inductive DA where
  | v (e : WE) | s (i : Nat)
inductive AV where
  | v (d : D) | s (i : Nat)
def wCArgs : List DA → XKd → DS → (List AV → DS → Prop) → Prop
  | [], _, ds, k => k [] ds
  | .v a :: r, x, ds, k => a x ds fun d ds1 => wCArgs r x ds1 fun l ds2 => k (.v d :: l) ds2
  | .s i :: r, x, ds, k => (listAt ds i).isSome = true ∧ wCArgs r x ds fun l ds2 => k (.s i :: l) ds2
def argDv (ds : DS) : List AV → Option (List DV)
  | [] => some []
  | .v d :: r => (argDv ds r).map (.val d :: ·)
  | .s i :: r => match listAt ds i with | some xs => (argDv ds r).map (.par xs :: ·) | none => none
def backs : DS → List AV → List DV → DS
  | ds, .s i :: r, .par ys :: q => backs (refill ds i ys) r q
  | ds, _ :: r, _ :: q => backs ds r q
  | ds, _, _ => ds
def slotsOf : List AV → List Nat
  | [] => []
  | .v _ :: r => slotsOf r
  | .s i :: r => i :: slotsOf r
def wCallB (sp : FS) (as : List DA) (dvs : List D) : XKd → DS → (DV → DS → Prop) → Prop := fun x ds k => wCArgs as x ds fun avs ds1 =>
  match argDv ds1 avs with
  | some vs => (slotsOf avs).Nodup ∧ sp (vs ++ dvs.map .val) fun out vs' => match out with
    | .ret r => k r (backs ds1 avs vs')
    | .exc e => x e (backs ds1 avs vs')
  | none => False
/-- a call that hands back data | a list of the caller's own -/
def wCall (sp : FS) (as : List DA) (dvs : List D := []) : WE := fun x ds k => wCallB sp as dvs x ds fun r ds1 => match r with | .val d => k d ds1 | .own xs => k (.lst xs) ds1 | _ => False
def wCallO (sp : FS) (as : List DA) (dvs : List D := []) : WO := fun x ds k => wCallB sp as dvs x ds fun r ds1 => match r with | .own xs => k xs ds1 | _ => False
/-- parts of a list -/
def cutAt (n d : Nat) : Option Int → Nat
  | none => d
  | some i => if 0 ≤ i then min i.toNat n else (n + i).toNat
def cutD {α : Type} (xs : List α) (lo hi : Option Int) : List α := (xs.drop (cutAt xs.length 0 lo)).take (cutAt xs.length xs.length hi - cutAt xs.length 0 lo)
abbrev WPt := XKd → DS → (Option Int → DS → Prop) → Prop
def wNoP : WPt := fun _ ds k => k none ds
def wP (a : WE) : WPt := fun x ds k => a x ds fun u ds1 => match u with | .int i => k (some i) ds1 | _ => False
/-- xs[lo:hi] | xs[::-1] | xs[-2::-1] | xs + ys of lists that stand still -/
def wCut (a : WE) (lo hi : WPt) : WO := fun x ds k => a x ds fun u ds1 => lo x ds1 fun l ds2 => hi x ds2 fun h ds3 => match u with | .lst xs => k (cutD xs l h) ds3 | _ => False
def wRev (a : WE) : WO := fun x ds k => a x ds fun u ds1 => match u with | .lst xs => k xs.reverse ds1 | _ => False
def wRev2 (a : WE) : WO := fun x ds k => a x ds fun u ds1 => match u with | .lst xs => k xs.dropLast.reverse ds1 | _ => False
def wCat (a b : WE) : WO := fun x ds k => a x ds fun u ds1 => b x ds1 fun v ds2 => match u, v with | .lst xs, .lst ys => xs.length + ys.length ≤ 10000000 ∧ k (xs ++ ys) ds2 | _, _ => False
/-- a < b < c -/
def wChain (f g : B2) (a b c : WE) : WE := fun x ds k => a x ds fun u ds1 => b x ds1 fun v ds2 => f u v fun z => match z with
  | .bl t => if t = true then c x ds2 fun w ds3 => g v w fun y => k y ds3 else k (.bl false) ds2
  | _ => False
/-- f(a list made for it) -/
def wCallT (sp : FS) (o : WO) : WE := fun x ds k => o x ds fun xs ds1 => sp [.par xs] fun out _ => match out with
  | .ret (.val d) => k d ds1
  | .ret (.own ys) => k (.lst ys) ds1
  | .ret (.par _) => False
  | .exc e => x e ds1
/-- a call by place and by name: the values as they are written, the defaults, and where each parameter's one stands among them -/
def pick {α : Type} (ix : List Nat) (l : List α) : List α := ix.filterMap fun i => l[i]?
def wCallK (sp : FS) (as : List WE) (more : List D) (ix : List Nat) : WE := fun x ds k => wArgs as x ds fun l ds1 => sp ((pick ix (l ++ more)).map .val) fun out _ => match out with
  | .ret (.val d) => k d ds1
  | .ret (.own ys) => k (.lst ys) ds1
  | .ret (.par _) => False
  | .exc e => x e ds1
/-- C() of a class without fields | o.m(..), o such an instance: the class tells whose promise it is -/
def wNew0 (c : Str) : WE := fun _ ds k => k (.obj c) ds
def wMeth (sps : List (Str × FS)) (o : WE) (as : List WE) : WE := fun x ds k => o x ds fun u ds0 => match u with
  | .obj c => ∃ sp : FS, (c, sp) ∈ sps ∧ wArgs as x ds0 fun l ds1 => sp ((.obj c :: l).map .val) fun out _ => match out with
    | .ret (.val d) => k d ds1
    | .ret (.own ys) => k (.lst ys) ds1
    | .ret (.par _) => False
    | .exc e => x e ds1
  | _ => False
/-! targets -/
inductive Tg where
  | nm (i : Nat) | tp (ts : List Tg)
mutual
def tga : Tg → D → DS → (DS → Prop) → Prop
  | .nm i, d, ds, k => k (st ds i (.val d))
  | .tp ts, .tup xs, ds, k => tgas ts xs ds k
  | .tp _, _, _, _ => False
def tgas : List Tg → List D → DS → (DS → Prop) → Prop
  | [], [], ds, k => k ds
  | t :: ts, d :: r, ds, k => tga t d ds fun ds1 => tgas ts r ds1 k
  | _, _, _, _ => False
end
/-! comprehensions -/
/-- nothing may be raised -/
def nox : XKd := fun _ _ => False
/-- one comprehension, by what holds ahead of each turn: how far, what is made, the slots -/
def compI (g : Tg) (vs : List Nat) (t : WT) (e : WE) (x : XKd) (xs : List D) (ds : DS) (k : List D → DS → Prop) : Prop :=
  ∃ I : Nat → List D → DS → Prop, I 0 [] (ers ds vs) ∧ (∀ i d acc ds, xs[i]? = some d → I i acc ds → tga g d (ers ds vs) fun ds1 => t x ds1 fun b ds2 =>
    if b = true then e x ds2 fun v ds3 => acc.length < 10000000 ∧ I (i + 1) (acc ++ [v]) ds3 else I (i + 1) acc ds2) ∧ ∀ acc ds, I xs.length acc ds → k acc (ers ds vs)
/-- .. turn by turn -/
def compD (g : Tg) (vs : List Nat) (t : WT) (e : WE) (x : XKd) (k : List D → DS → Prop) : List D → List D → DS → Prop
  | [], acc, ds => k acc (ers ds vs)
  | d :: r, acc, ds => tga g d (ers ds vs) fun ds1 => t x ds1 fun b ds2 =>
    if b = true then e x ds2 fun v ds3 => acc.length < 10000000 ∧ compD g vs t e x k r (acc ++ [v]) ds3 else compD g vs t e x k r acc ds2
def wLc (src : WE) (g : Tg) (vs : List Nat) (t : WT) (e : WE) : WO := fun x ds k => src x ds fun u ds1 => match items u with | some xs => compI g vs t e nox xs ds1 k | none => False
def rangeD (lo hi : Int) : List D := (List.range (hi - lo).toNat).map fun i => .int (lo + (i : Nat))
def RngOk (lo hi : Int) : Prop := (-(2 ^ 62) ≤ lo ∧ lo < 2 ^ 62) ∧ (-(2 ^ 62) ≤ hi ∧ hi < 2 ^ 62)
/-- range(a), range(a, b) as what is walked -/
def wRng (as : List WE) : XKd → DS → (List D → DS → Prop) → Prop := fun x ds k => wArgs as x ds fun l ds1 => match l with
  | [.int n] => RngOk 0 n ∧ k (rangeD 0 n) ds1
  | [.int a, .int b] => RngOk a b ∧ k (rangeD a b) ds1
  | _ => False
def wLcR (as : List WE) (g : Tg) (vs : List Nat) (t : WT) (e : WE) : WO := fun x ds k => wRng as x ds fun xs ds1 => compI g vs t e nox xs ds1 k

/-! ### statements -/
def wSeq (a b : WS) : WS := fun ds P => a ds { P with nx := fun ds1 => b ds1 P }
def wNext : WS := fun ds P => P.nx ds
def wAsg (e : WE) (g : Tg) : WS := fun ds P => e P.x ds fun d ds1 => tga g d ds1 P.nx
def wAsgO (o : WO) (i : Nat) : WS := fun ds P => o P.x ds fun xs ds1 => P.nx (st ds1 i (.own xs))
/-- x, y = a, b -/
def wPar (i j : Nat) (a b : WE) : WS := fun ds P => a P.x ds fun u ds1 => b P.x ds1 fun v ds2 => P.nx (st (st ds2 i (.val u)) j (.val v))
/-- x, y = a, [..] -/
def wParO (i j : Nat) (a : WE) (o : WO) : WS := fun ds P => a P.x ds fun u ds1 => o P.x ds1 fun xs ds2 => P.nx (st (st ds2 i (.val u)) j (.own xs))
def wPar3 (i j l : Nat) (a b c : WE) : WS := fun ds P => a P.x ds fun u ds1 => b P.x ds1 fun v ds2 => c P.x ds2 fun w ds3 => P.nx (st (st (st ds3 i (.val u)) j (.val v)) l (.val w))
def wRet (e : WE) : WS := fun ds P => e P.x ds fun d ds1 => P.rt (.val d) ds1
def wRetN : WS := fun ds P => P.rt (.val .non) ds
def wRetO (o : WO) : WS := fun ds P => o P.x ds fun xs ds1 => P.rt (.own xs) ds1
def wRetS (i : Nat) : WS := fun ds P => match gt ds i with | some (.own xs) => P.rt (.own xs) (er ds i) | _ => False
def wIfS (t : WT) (a b : WS) : WS := fun ds P => t P.x ds fun c ds1 => if c = true then a ds1 P else b ds1 P
def wDrop (e : WE) : WS := fun ds P => e P.x ds fun _ ds1 => P.nx ds1
def wBrk : WS := fun ds P => P.bk ds
def wCont : WS := fun ds P => P.ct ds
def wNever : WS := fun _ _ => False
/-- purse[e] = v, the list in slot i -/
def wSet (i : Nat) (b v : WE) : WS := fun ds P => v P.x ds fun z ds1 => (listAt ds1 i).isSome = true ∧ b P.x ds1 fun n ds2 =>
  match n, listAt ds2 i with
  | .int n, some xs => (0 ≤ n ∧ n < xs.length) ∧ P.nx (refill ds2 i (xs.set n.toNat z))
  | _, _ => False
def wApp (i : Nat) (v : WE) : WS := fun ds P => (listAt ds i).isSome = true ∧ v P.x ds fun z ds1 =>
  match listAt ds1 i with
  | some xs => xs.length < 10000000 ∧ P.nx (refill ds1 i (xs ++ [z]))
  | none => False
def wAug (i : Nat) (f : B2) (e : WE) : WS := fun ds P => match gt ds i with
  | some (.val u) => e P.x ds fun v ds1 => f u v fun z => P.nx (st ds1 i (.val z))
  | _ => False
def wWhile (t : WT) (b : WS) : WS := fun ds P => ∃ I : Nat → DS → Prop, (∃ m, I m ds) ∧ ∀ m ds, I m ds → t P.x ds fun c ds1 =>
  if c = true then b ds1 { nx := fun ds2 => ∃ m', m' < m ∧ I m' ds2, ct := fun ds2 => ∃ m', m' < m ∧ I m' ds2, bk := P.nx, rt := P.rt, x := P.x } else P.nx ds1
def forI (g : Tg) (b : WS) (P : Post) (xs : List D) (ds : DS) : Prop :=
  ∃ I : Nat → DS → Prop, I 0 ds ∧ (∀ i d ds, xs[i]? = some d → I i ds → tga g d ds fun ds1 => b ds1 { nx := I (i + 1), ct := I (i + 1), bk := P.nx, rt := P.rt, x := P.x }) ∧ ∀ ds, I xs.length ds → P.nx ds
def forD (g : Tg) (b : WS) (P : Post) : List D → DS → Prop
  | [], ds => P.nx ds
  | d :: r, ds => tga g d ds fun ds1 => b ds1 { nx := fun ds2 => forD g b P r ds2, ct := fun ds2 => forD g b P r ds2, bk := P.nx, rt := P.rt, x := P.x }
def wFor (src : WE) (g : Tg) (b : WS) : WS := fun ds P => src P.x ds fun u ds1 => match items u with | some xs => forI g b P xs ds1 | none => False
def wForR (as : List WE) (g : Tg) (b : WS) : WS := fun ds P => wRng as P.x ds fun xs ds1 => forI g b P xs ds1

/-- a body against a promise: the parameters' slots, then the other ones -/
def outs : List DV → DS → Option (List DV)
  | [], _ => some []
  | .par _ :: r, some (.par ys) :: s => (outs r s).map (.par ys :: ·)
  | .par _ :: _, _ => none
  | d :: r, _ :: s => (outs r s).map (d :: ·)
  | _ :: _, [] => none
def entry (n : Nat) (dvs : List DV) : DS := dvs.map some ++ List.replicate (n - dvs.length) none
/-- what is wanted of a body that is called with dvs -/
def ends (dvs : List DV) (k : Out → List DV → Prop) : Post where
  nx := fun ds => match outs dvs ds with | some o => k (.ret (.val .non)) o | none => False
  rt := fun r ds => match outs dvs ds with | some o => k (.ret r) o | none => False
  bk := fun _ => False
  ct := fun _ => False
  x := fun e ds => match outs dvs ds with | some o => k (.exc e) o | none => False
/-- .. where nothing is raised -/
def ends0 (dvs : List DV) (k : Out → List DV → Prop) : Post := { ends dvs k with x := nox }
/-- the body w of n slots keeps the promise -/
def Keeps (n : Nat) (w : WS) (fs : FS) : Prop := ∀ dvs k, fs dvs k → w (entry n dvs) (ends dvs k)
def Keeps0 (n : Nat) (w : WS) (fs : FS) : Prop := ∀ dvs k, fs dvs k → w (entry n dvs) (ends0 dvs k)

/-! ### short loops, turn by turn -/
theorem drop_of {α : Type} : ∀ {xs : List α} {i : Nat} {d : α}, xs[i]? = some d → xs.drop i = d :: xs.drop (i + 1)
  | [], i, d, h => by simp at h
  | a :: l, 0, d, h => by
    have e : a = d := Option.some.inj h
    subst e
    rfl
  | a :: l, i + 1, d, h => drop_of (xs := l) (i := i) h
theorem forI_of {g : Tg} {b : WS} {P : Post} {xs : List D} {ds : DS} (h : forD g b P xs ds) : forI g b P xs ds := by
  refine ⟨fun i ds => forD g b P (xs.drop i) ds, h, fun i d ds e q => ?_, fun ds q => ?_⟩
  · have q : forD g b P (xs.drop i) ds := q
    rw [drop_of e] at q
    exact q
  · have q : forD g b P (xs.drop xs.length) ds := q
    rw [List.drop_length] at q
    exact q
theorem compI_of {g : Tg} {vs : List Nat} {t : WT} {e : WE} {x : XKd} {xs : List D} {ds : DS} {k : List D → DS → Prop} (h : compD g vs t e x k xs [] (ers ds vs)) : compI g vs t e x xs ds k := by
  refine ⟨fun i acc ds => compD g vs t e x k (xs.drop i) acc ds, h, fun i d acc ds e q => ?_, fun acc ds q => ?_⟩
  · have q : compD g vs t _ x k (xs.drop i) acc ds := q
    rw [drop_of e] at q
    exact q
  · have q : compD g vs t _ x k (xs.drop xs.length) acc ds := q
    rw [List.drop_length] at q
    exact q
end DW

/-! DwL: plain lemmas for promises over data: bounds, choices, remainders. -/
namespace DW
open PySem

/-- below 2^n in size -/
def Bd (n : Nat) (i : Int) : Prop := i.natAbs < 2 ^ n
theorem Bd.mono {n m : Nat} {i : Int} (h : Bd n i) (l : n ≤ m) : Bd m i := Nat.lt_of_lt_of_le h (Nat.pow_le_pow_right (by decide) l)
theorem Bd.add {n : Nat} {i j : Int} (h : Bd n i) (h' : Bd n j) : Bd (n + 1) (i + j) := by
  unfold Bd at *
  have : (i + j).natAbs ≤ i.natAbs + j.natAbs := Int.natAbs_add_le i j
  rw [Nat.pow_succ]
  omega
theorem Bd.sub {n : Nat} {i j : Int} (h : Bd n i) (h' : Bd n j) : Bd (n + 1) (i - j) := by
  unfold Bd at *
  have : (i - j).natAbs ≤ i.natAbs + j.natAbs := Int.natAbs_sub_le i j
  rw [Nat.pow_succ]
  omega
theorem Bd.mul {n m : Nat} {i j : Int} (h : Bd n i) (h' : Bd m j) : Bd (n + m) (i * j) := by
  unfold Bd at *
  rw [Int.natAbs_mul, Nat.pow_add]
  exact Nat.mul_lt_mul_of_lt_of_le h (Nat.le_of_lt h') (Nat.lt_of_le_of_lt (Nat.zero_le _) h')
theorem Bd.neg {n : Nat} {i : Int} (h : Bd n i) : Bd n (-i) := by
  unfold Bd at *
  rw [Int.natAbs_neg]
  exact h
theorem Bd.of {n : Nat} {i : Int} (h : -(2 ^ n : Int) < i) (h' : i < 2 ^ n) : Bd n i := by
  unfold Bd
  have e : ((2 ^ n : Nat) : Int) = 2 ^ n := by rw [Int.natCast_pow]; rfl
  omega
theorem Bd.le {n : Nat} {i j : Int} (h : Bd n j) (l : i.natAbs ≤ j.natAbs) : Bd n i := Nat.lt_of_le_of_lt l h
theorem log2_lt {n i : Nat} (hn : 0 < n) (h : i < 2 ^ n) : i.log2 < n := by
  by_cases h0 : i = 0
  · subst h0
    simpa using hn
  · exact (Nat.log2_lt h0).mpr h
theorem mulOk {n m : Nat} {i j : Int} (h : Bd n i) (h' : Bd m j) (l : n + m ≤ 1000000 := by decide) : MulOk i j := by
  unfold MulOk
  have h1 : i.natAbs.log2 ≤ n := by
    by_cases h0 : i.natAbs = 0
    · rw [h0]
      simp
    · exact Nat.le_of_lt ((Nat.log2_lt h0).mpr h)
  by_cases h0 : j.natAbs = 0
  · by_cases h2 : i.natAbs = 0
    · rw [h0, h2]
      simp
    · have := (Nat.log2_lt h2).mpr h
      rw [h0]
      simp
      omega
  · have := (Nat.log2_lt h0).mpr h'
    omega
theorem divOk {n : Nat} {j : Int} (h0 : j ≠ 0) (h : Bd n j) (l : n ≤ 9000 := by decide) : DivOk j :=
  ⟨h0, Nat.lt_of_lt_of_le ((Nat.log2_lt (by omega)).mpr h) l⟩
theorem ite_both {c : Prop} [Decidable c] {A B : Prop} (h1 : c → A) (h2 : ¬ c → B) : if c then A else B := by
  split
  · exact h1 ‹_›
  · exact h2 ‹_›
theorem fmod_rng {a b : Int} (h : 0 < b) : 0 ≤ a.fmod b ∧ a.fmod b < b := ⟨Int.fmod_nonneg_of_pos a h, Int.fmod_lt_of_pos a h⟩
theorem fdiv_nonneg {a b : Int} (h : 0 ≤ a) (h' : 0 < b) : 0 ≤ a.fdiv b := Int.fdiv_nonneg h (Int.le_of_lt h')
theorem fdiv_le {a b : Int} (h : 0 ≤ a) (h' : 0 < b) : a.fdiv b ≤ a := by
  rw [Int.fdiv_eq_ediv_of_nonneg a (Int.le_of_lt h')]
  exact Int.ediv_le_self b h
/-! ### what may be compared -/
theorem shp_int (i : Int) : Shp (.int i) := ⟨rfl, Nat.le_of_ble_eq_true rfl⟩
theorem shp_bl (i : Bool) : Shp (.bl i) := ⟨rfl, Nat.le_of_ble_eq_true rfl⟩
theorem shp_pr (i j : Int) : Shp (.tup [.int i, .int j]) := ⟨rfl, Nat.le_of_ble_eq_true rfl⟩
theorem shp_prs (i j i' j' : Int) : Shp (.tup [.tup [.int i, .int j], .tup [.int i', .int j']]) := ⟨rfl, Nat.le_of_ble_eq_true rfl⟩
theorem deq_int (i j : Int) : deq (.int i) (.int j) = (i == j) := rfl
theorem deq_pr (i j i' j' : Int) : deq (.tup [.int i, .int j]) (.tup [.int i', .int j']) = (i == i' && (j == j' && true)) := rfl
mutual
theorem deq_refl : ∀ d : D, deq d d = true
  | .non => rfl
  | .bl b => by show (b == b) = true; simp
  | .int i => by show (i == i) = true; simp
  | .str s => by show (s == s) = true; exact BEq.rfl
  | .lst xs => deqs_refl xs
  | .tup xs => deqs_refl xs
  | .obj _ => rfl
  | .dct _ _ => rfl
  | .at _ _ => rfl
theorem deqs_refl : ∀ ds : List D, deqs ds ds = true
  | [] => rfl
  | d :: r => by show (deq d d && deqs r r) = true; rw [deq_refl d, deqs_refl r]; rfl
end
theorem eq_int {i j : Int} (h : deq (.int i) (.int j) = true) : i = j := by simpa [deq_int] using h
theorem eq_int' {i j : Int} (h : ¬ deq (.int i) (.int j) = true) : i ≠ j := by simpa [deq_int] using h
theorem ne_int {i j : Int} (h : (!deq (.int i) (.int j)) = true) : i ≠ j := by simpa [deq_int] using h
theorem ne_int' {i j : Int} (h : ¬ (!deq (.int i) (.int j)) = true) : i = j := by simpa [deq_int] using h
theorem not_self {d : D} {A : Prop} (h : (!deq d d) = true) : A := by rw [deq_refl] at h; cases h
theorem is_lt {i j : Int} (h : decide (i < j) = true) : i < j := of_decide_eq_true h
theorem is_le {i j : Int} (h : decide (i ≤ j) = true) : i ≤ j := of_decide_eq_true h
theorem no_lt {i j : Int} (h : ¬ decide (i < j) = true) : j ≤ i := Int.not_lt.mp fun z => h (decide_eq_true z)
theorem no_le {i j : Int} (h : ¬ decide (i ≤ j) = true) : j < i := Int.not_le.mp fun z => h (decide_eq_true z)
theorem ite_yes {c : Bool} {A B : Prop} (e : c = true) (h : A) : if c = true then A else B := by rw [if_pos e]; exact h
theorem ite_no {c : Bool} {A B : Prop} (e : c = false) (h : B) : if c = true then A else B := by rw [if_neg (by rw [e]; decide)]; exact h
/-! ### the greatest common part -/
theorem abs_eq (a : Int) : (if a < 0 then -a else a) = (a.natAbs : Int) := by split <;> omega
theorem gcd_step (a b : Int) (hb : 0 ≤ b) : Int.gcd b (a.fmod b) = Int.gcd a b := by
  rw [Int.fmod_eq_emod_of_nonneg a hb]
  have e : a = a % b + b * (a / b) := (Int.emod_add_mul_ediv a b).symm
  conv => rhs; rw [e, Int.gcd_comm]
  rw [Int.gcd_add_mul_left_right]
theorem gcd_abs (a b : Int) : Int.gcd (a.natAbs : Int) (b.natAbs : Int) = Int.gcd a b := by unfold Int.gcd; simp
theorem dvd_of_gcd {k m n : Int} (h : Int.gcd k m = 1) (d : k ∣ m * n) : k ∣ n := by
  have := Nat.Coprime.dvd_of_dvd_mul_left (k := k.natAbs) (m := m.natAbs) (n := n.natAbs) h (by rw [← Int.natAbs_mul]; exact Int.natAbs_dvd_natAbs.mpr d)
  exact Int.natAbs_dvd_natAbs.mp this
end DW

/-! DwB: data in the heap, the slots' word, what a reading is worth over data. -/
namespace DW
open PySem PySem.Spec PyProof.Rows L2

mutual
def Rep (K : PySem.W.Frag) (G : Hp) : D → V → Prop
  | .non, v => v = .non
  | .bl b, v => v = .bl b
  | .int i, v => v = .int i
  | .str s, v => v = .str s
  | .tup ds, v => ∃ a xs, v = .ref a ∧ SqT K G a xs ∧ Reps K G ds xs
  | .lst ds, v => ∃ a xs, v = .ref a ∧ SqL K G a xs ∧ Reps K G ds xs
  | .obj c, v => ∃ C a dx, PySem.W.nsIn K mainGlobals c = some (some (.ref C)) ∧ v = .ref a ∧ G a = some (.ins C dx [])
  | .dct ks ds, v => ∃ (a : Addr) (kvs : List (Key × V)), v = .ref a ∧ G a = some (.dK kvs) ∧ kvs.map (·.1) = ks ∧ Reps K G ds (kvs.map (·.2))
  | .at a d, v => v = .ref a ∧ Rep K G d v
def Reps (K : PySem.W.Frag) (G : Hp) : List D → List V → Prop
  | [], vs => vs = []
  | d :: ds, vs => ∃ x xs, vs = x :: xs ∧ Rep K G d x ∧ Reps K G ds xs
end

section
variable {K : PySem.W.Frag} {G H H' G' : Hp}
theorem Same.t {H H' : Hp} {a : Addr} {xs : List V} (e : Same H H') (h : SqT K H a xs) : SqT K H' a xs := by
  rcases h with (h | ⟨o, h⟩) | h
  · exact .inl (.inl (e _ _ h))
  · exact .inl (.inr ⟨o, e _ _ h⟩)
  · exact .inr h
mutual
theorem Rep.mono (e : Same G G') : ∀ {d : D} {v : V}, Rep K G d v → Rep K G' d v
  | .non, _, h => h
  | .bl _, _, h => h
  | .int _, _, h => h
  | .str _, _, h => h
  | .tup ds, v, h => by
    obtain ⟨a, xs, e1, h1, h2⟩ := h
    exact ⟨a, xs, e1, Same.t e h1, Reps.mono e h2⟩
  | .lst ds, v, h => by
    obtain ⟨a, xs, e1, h1, h2⟩ := h
    exact ⟨a, xs, e1, L2.Same.seq e h1, Reps.mono e h2⟩
  | .obj c, v, h => by
    obtain ⟨C, a, dx, e0, e1, h1⟩ := h
    exact ⟨C, a, dx, e0, e1, e _ _ h1⟩
  | .dct ks ds, v, h => by
    obtain ⟨a, kvs, e1, h1, h2, h3⟩ := h
    exact ⟨a, kvs, e1, e _ _ h1, h2, Reps.mono e h3⟩
  | .at a d, v, h => by
    obtain ⟨e1, h1⟩ := h
    exact ⟨e1, Rep.mono e h1⟩
theorem Reps.mono (e : Same G G') : ∀ {ds : List D} {vs : List V}, Reps K G ds vs → Reps K G' ds vs
  | [], _, h => h
  | d :: ds, vs, h => by
    obtain ⟨x, xs, e1, h1, h2⟩ := h
    exact ⟨x, xs, e1, Rep.mono e h1, Reps.mono e h2⟩
end
theorem Rep.core : ∀ {d : D} {v : V}, Rep K G d v → Rep K G (core d) v
  | .non, _, h => h
  | .bl _, _, h => h
  | .int _, _, h => h
  | .str _, _, h => h
  | .tup _, _, h => h
  | .lst _, _, h => h
  | .obj _, _, h => h
  | .dct _ _, _, h => h
  | .at _ _, _, h => h.2
theorem Reps.len : ∀ {ds : List D} {vs : List V}, Reps K G ds vs → ds.length = vs.length
  | [], vs, h => by
    have h : vs = [] := h
    rw [h]
    rfl
  | d :: ds, vs, h => by
    obtain ⟨x, xs, e1, h1, h2⟩ := h
    rw [e1, List.length_cons, List.length_cons, Reps.len h2]
theorem Reps.get : ∀ {ds : List D} {vs : List V} {i : Nat} {d : D}, Reps K G ds vs → ds[i]? = some d → ∃ v, vs[i]? = some v ∧ Rep K G d v
  | [], _, i, d, h, e => by simp at e
  | d0 :: ds, vs, 0, d, h, e => by
    obtain ⟨x, xs, e1, h1, h2⟩ := h
    have e : d0 = d := Option.some.inj e
    rw [e1, ← e]
    exact ⟨x, rfl, h1⟩
  | d0 :: ds, vs, i + 1, d, h, e => by
    obtain ⟨x, xs, e1, h1, h2⟩ := h
    rw [e1]
    exact Reps.get (i := i) h2 e
theorem Reps.gev : ∀ {ds : List D} {vs : List V} {i : Nat} {v : V}, Reps K G ds vs → vs[i]? = some v → ∃ d, ds[i]? = some d ∧ Rep K G d v
  | [], vs, i, v, h, e => by
    have h : vs = [] := h
    rw [h] at e
    simp at e
  | d0 :: ds, vs, 0, v, h, e => by
    obtain ⟨x, xs, e1, h1, h2⟩ := h
    rw [e1] at e
    have e : x = v := Option.some.inj e
    rw [← e]
    exact ⟨d0, rfl, h1⟩
  | d0 :: ds, vs, i + 1, v, h, e => by
    obtain ⟨x, xs, e1, h1, h2⟩ := h
    rw [e1] at e
    exact Reps.gev (i := i) h2 e
theorem Reps.app : ∀ {ds : List D} {vs : List V} {d : D} {v : V}, Reps K G ds vs → Rep K G d v → Reps K G (ds ++ [d]) (vs ++ [v])
  | [], vs, d, v, h, r => by
    have h : vs = [] := h
    rw [h]
    exact ⟨v, [], rfl, r, rfl⟩
  | d0 :: ds, vs, d, v, h, r => by
    obtain ⟨x, xs, e1, h1, h2⟩ := h
    rw [e1]
    exact ⟨x, xs ++ [v], rfl, h1, Reps.app h2 r⟩
theorem Reps.cat : ∀ {ds es : List D} {vs ws : List V}, Reps K G ds vs → Reps K G es ws → Reps K G (ds ++ es) (vs ++ ws)
  | [], _, vs, ws, h, r => by
    have h : vs = [] := h
    rw [h]
    exact r
  | d0 :: ds, es, vs, ws, h, r => by
    obtain ⟨x, xs, e1, h1, h2⟩ := h
    rw [e1]
    exact ⟨x, xs ++ ws, rfl, h1, Reps.cat h2 r⟩
theorem Reps.set : ∀ {ds : List D} {vs : List V} {d : D} {v : V} (i : Nat), Reps K G ds vs → Rep K G d v → Reps K G (ds.set i d) (vs.set i v)
  | [], vs, d, v, i, h, r => by
    have h : vs = [] := h
    rw [h]
    exact rfl
  | d0 :: ds, vs, d, v, 0, h, r => by
    obtain ⟨x, xs, e1, h1, h2⟩ := h
    rw [e1]
    exact ⟨v, xs, rfl, r, h2⟩
  | d0 :: ds, vs, d, v, i + 1, h, r => by
    obtain ⟨x, xs, e1, h1, h2⟩ := h
    rw [e1]
    exact ⟨x, xs.set i v, rfl, h1, Reps.set i h2 r⟩
theorem ix_at {α : Type} {xs : List α} {i : Int} {v : α} (h : itemAt xs i = some v) : ∃ j : Nat, j < xs.length ∧ xs[j]? = some v ∧ ixN xs.length i = some j := by
  unfold itemAt at h
  by_cases h0 : 0 ≤ i
  · rw [if_pos h0] at h
    have hl := (List.getElem?_eq_some_iff.mp h).1
    exact ⟨i.toNat, hl, h, by unfold ixN; rw [if_pos h0, if_pos (by omega)]⟩
  · rw [if_neg h0] at h
    by_cases h1 : -(xs.length : Int) ≤ i
    · rw [if_pos h1] at h
      have hl := (List.getElem?_eq_some_iff.mp h).1
      exact ⟨_, hl, h, by unfold ixN; rw [if_neg h0, if_pos h1]⟩
    · rw [if_neg h1] at h
      cases h
theorem Reps.item {ds : List D} {vs : List V} {i : Int} {d : D} (h : Reps K G ds vs) (e : itemAt ds i = some d) : ∃ v, atI vs i = some v ∧ Rep K G d v := by
  obtain ⟨j, h1, h2, h3⟩ := ix_at e
  obtain ⟨v, e1, r⟩ := h.get h2
  refine ⟨v, ?_, r⟩
  unfold atI
  rw [← h.len, h3]
  exact e1
end

/-! ### slots -/
def isO : DV → Bool
  | .val _ => false
  | _ => true
theorem gt_st : ∀ (ds : DS) (i j : Nat) (d : DV), gt (st ds i d) j = if j = i ∧ i < ds.length then some d else gt ds j
  | [], i, j, d => by
    have e : ¬ (j = i ∧ i < ([] : DS).length) := fun h => Nat.not_lt_zero _ h.2
    rw [if_neg e]
    rfl
  | x :: r, 0, 0, d => by
    rw [if_pos ⟨rfl, Nat.succ_pos _⟩]
    rfl
  | x :: r, 0, j + 1, d => by
    rw [if_neg (fun h => Nat.noConfusion h.1)]
    rfl
  | x :: r, i + 1, 0, d => by
    rw [if_neg (fun h => Nat.noConfusion h.1)]
    rfl
  | x :: r, i + 1, j + 1, d => by
    show gt (st r i d) j = _
    rw [gt_st r i j d]
    by_cases h : j = i ∧ i < r.length
    · rw [if_pos h, if_pos ⟨by omega, by rw [List.length_cons]; omega⟩]
    · rw [if_neg h, if_neg (fun q => h ⟨by omega, by have := q.2; rw [List.length_cons] at this; omega⟩)]
      rfl
theorem gt_er : ∀ (ds : DS) (i j : Nat), gt (er ds i) j = if j = i then none else gt ds j
  | [], i, j => by
    show none = _
    split <;> rfl
  | x :: r, 0, 0 => by
    rw [if_pos rfl]
    rfl
  | x :: r, 0, j + 1 => by
    rw [if_neg (fun h => Nat.noConfusion h)]
    rfl
  | x :: r, i + 1, 0 => by
    rw [if_neg (fun h => Nat.noConfusion h)]
    rfl
  | x :: r, i + 1, j + 1 => by
    show gt (er r i) j = _
    rw [gt_er r i j]
    by_cases h : j = i
    · rw [if_pos h, if_pos (by omega)]
    · rw [if_neg h, if_neg (by omega)]
      rfl
theorem len_st : ∀ (ds : DS) (i : Nat) (d : DV), (st ds i d).length = ds.length
  | [], _, _ => rfl
  | _ :: _, 0, _ => rfl
  | _ :: r, i + 1, d => by
    show (st r i d).length + 1 = _
    rw [len_st r i d, List.length_cons]
theorem len_er : ∀ (ds : DS) (i : Nat), (er ds i).length = ds.length
  | [], _ => rfl
  | _ :: _, 0 => rfl
  | _ :: r, i + 1 => by
    show (er r i).length + 1 = _
    rw [len_er r i, List.length_cons]
theorem gt_lt : ∀ {ds : DS} {i : Nat} {d : DV}, gt ds i = some d → i < ds.length
  | [], _, _, h => by cases h
  | _ :: _, 0, _, _ => Nat.succ_pos _
  | _ :: r, i + 1, d, h => Nat.succ_lt_succ (gt_lt (ds := r) h)

/-- a call's ground: the heap at the entry, what stood still there, what may be written -/
structure C0 where
  H0 : Hp
  G0 : Hp
  W : Addr → Prop
  P : Nat → Addr

def SlotOk (K : PySem.W.Frag) (c : C0) (G H : Hp) (p : Addr) (o : Option (Option V)) : DV → Prop
  | .val d => ∃ v, o = some (some v) ∧ Rep K G d v
  | .own xs => o = some (some (.ref p)) ∧ G p = none ∧ c.H0 p = none ∧ ∃ vs, H p = some (.lst vs) ∧ Reps K G xs vs
  | .par xs => o = some (some (.ref p)) ∧ G p = none ∧ c.W p ∧ ∃ vs, H p = some (.lst vs) ∧ Reps K G xs vs

structure Env (K : PySem.W.Frag) (c : C0) (pa : Nat → Addr) (G H : Hp) (σ : L2.St) (ds : DS) : Prop where
  ex : Same G H
  fr : ∀ a o, c.H0 a = some o → ¬ c.W a → H a = some o
  dom : ∀ a, c.H0 a ≠ none → H a ≠ none
  ge : Same c.G0 G
  gf : ∀ a, c.H0 a ≠ none → G a = c.G0 a
  len : ds.length = σ.length
  sl : ∀ i dv, gt ds i = some dv → SlotOk K c G H (pa i) σ[i]? dv
  inj : ∀ i j dv dv', gt ds i = some dv → gt ds j = some dv' → isO dv = true → isO dv' = true → i ≠ j → pa i ≠ pa j
  ps : ∀ i xs, gt ds i = some (.par xs) → pa i = c.P i

/-- a list that the body made and no slot holds yet -/
structure Tmp (K : PySem.W.Frag) (c : C0) (pa : Nat → Addr) (G H : Hp) (ds : DS) (p : Addr) (xs : List D) : Prop where
  g : G p = none
  h0 : c.H0 p = none
  here : ∃ vs, H p = some (.lst vs) ∧ Reps K G xs vs
  ne : ∀ i dv, gt ds i = some dv → isO dv = true → pa i ≠ p

section
variable {K : PySem.W.Frag} {c : C0} {pa : Nat → Addr} {G H H' : Hp} {σ : L2.St} {ds : DS}
theorem Env.val (E : Env K c pa G H σ ds) {i : Nat} {d : D} (h : gt ds i = some (.val d)) : ∃ v, σ[i]? = some (some v) ∧ Rep K G d v := E.sl i _ h
theorem Env.lst (E : Env K c pa G H σ ds) {i : Nat} {xs : List D} (h : listAt ds i = some xs) :
    ∃ dv, gt ds i = some dv ∧ isO dv = true ∧ (dv = .own xs ∨ dv = .par xs) ∧ σ[i]? = some (some (.ref (pa i))) ∧ G (pa i) = none ∧ (c.H0 (pa i) = none ∨ c.W (pa i)) ∧ ∃ vs, H (pa i) = some (.lst vs) ∧ Reps K G xs vs := by
  unfold listAt at h
  cases e : gt ds i with
  | none => rw [e] at h; cases h
  | some dv =>
    rw [e] at h
    have s := E.sl i dv e
    cases dv with
    | val d => cases h
    | own ys =>
      have h : ys = xs := Option.some.inj h
      subst h
      obtain ⟨h1, h2, h3, h4⟩ := s
      exact ⟨_, rfl, rfl, .inl rfl, h1, h2, .inl h3, h4⟩
    | par ys =>
      have h : ys = xs := Option.some.inj h
      subst h
      obtain ⟨h1, h2, h3, h4⟩ := s
      exact ⟨_, rfl, rfl, .inr rfl, h1, h2, .inr h3, h4⟩
theorem Env.ownNe (E : Env K c pa G H σ ds) {i : Nat} {dv : DV} (h : gt ds i = some dv) (o : isO dv = true) : H (pa i) ≠ none := by
  have s := E.sl i dv h
  cases dv with
  | val d => cases o
  | own xs =>
    obtain ⟨_, _, _, vs, e, _⟩ := s
    rw [e]
    exact fun q => nomatch q
  | par xs =>
    obtain ⟨_, _, _, vs, e, _⟩ := s
    rw [e]
    exact fun q => nomatch q
theorem SlotOk.up {p : Addr} {o : Option (Option V)} {dv : DV} {G' : Hp} (s : SlotOk K c G H p o dv) (e : Same H H') (g : Same G G') (n : G' p = none ∨ isO dv = false) : SlotOk K c G' H' p o dv := by
  cases dv with
  | val d =>
    obtain ⟨v, e1, r⟩ := s
    exact ⟨v, e1, r.mono g⟩
  | own xs =>
    obtain ⟨h1, h2, h3, vs, h4, h5⟩ := s
    exact ⟨h1, n.resolve_right (fun q => nomatch q), h3, vs, e _ _ h4, h5.mono g⟩
  | par xs =>
    obtain ⟨h1, h2, h3, vs, h4, h5⟩ := s
    exact ⟨h1, n.resolve_right (fun q => nomatch q), h3, vs, e _ _ h4, h5.mono g⟩
theorem SlotOk.gn {p : Addr} {o : Option (Option V)} {dv : DV} (s : SlotOk K c G H p o dv) (h : isO dv = true) : G p = none := by
  cases dv with
  | val d => cases h
  | own xs => exact s.2.1
  | par xs => exact s.2.1
/-- new things come beside -/
theorem Env.heap (E : Env K c pa G H σ ds) (e : Same H H') : Env K c pa G H' σ ds where
  ex := E.ex.trans e
  fr := fun a o h w => e _ _ (E.fr a o h w)
  dom := fun a h => by
    cases q : H a with
    | none => exact absurd q (E.dom a h)
    | some o =>
      rw [e _ _ q]
      exact fun z => nomatch z
  ge := E.ge
  gf := E.gf
  len := E.len
  sl := fun i dv h => by
    have s := E.sl i dv h
    cases o : isO dv with
    | true => exact s.up e (fun _ _ q => q) (.inl (s.gn o))
    | false => exact s.up e (fun _ _ q => q) (.inr o)
  inj := E.inj
  ps := E.ps
theorem same_new {H : Hp} {p : Addr} {o : HO} (h : H p = none) : Same H (upd H p o) := fun b x e => by
  rw [upd_ne (ne_of_none e h)]
  exact e
theorem same_both {G H : Hp} {p : Addr} {o : HO} (e : Same G H) (h : H p = some o) : Same (upd G p o) H := fun b x q => by
  by_cases hb : b = p
  · rw [hb, upd_same] at q
    rw [hb, h]
    exact q
  · rw [upd_ne hb] at q
    exact e _ _ q
theorem upd_none {H : Hp} {p q : Addr} {o : HO} (h : H q = none) (n : q ≠ p) : upd H p o q = none := by
  rw [upd_ne n]
  exact h
/-- what stands at p, made by the body, stands still from here on -/
theorem Env.still (E : Env K c pa G H σ ds) {p : Addr} {o : HO} (hp : H p = some o) (hg : G p = none) (h0 : c.H0 p = none) (ne : ∀ i dv, gt ds i = some dv → isO dv = true → pa i ≠ p) :
    Env K c pa (upd G p o) H σ ds where
  ex := same_both E.ex hp
  fr := E.fr
  dom := E.dom
  ge := E.ge.trans (same_new hg)
  gf := fun a h => by
    have n : a ≠ p := fun q => by
      rw [q] at h
      exact h h0
    rw [upd_ne n]
    exact E.gf a h
  len := E.len
  sl := fun i dv h => by
    have s := E.sl i dv h
    cases o : isO dv with
    | true => exact s.up (fun _ _ q => q) (same_new hg) (.inl (upd_none (s.gn o) (ne i dv h o)))
    | false => exact s.up (fun _ _ q => q) (same_new hg) (.inr o)
  inj := E.inj
  ps := E.ps
theorem Env.free (E : Env K c pa G H σ ds) {p : Addr} (h : H p = none) : G p = none ∧ c.H0 p = none ∧ ∀ i dv, gt ds i = some dv → isO dv = true → pa i ≠ p :=
  ⟨L2.Same.free E.ex h, by
    cases q : c.H0 p with
    | none => rfl
    | some o => exact absurd h (E.dom p (by rw [q]; exact fun z => nomatch z)), fun i dv hi o q => E.ownNe hi o (q ▸ h)⟩
/-- a new object, standing still at once -/
theorem Env.new (E : Env K c pa G H σ ds) {p : Addr} {o : HO} (h : H p = none) : Env K c pa (upd G p o) (upd H p o) σ ds ∧ Same G (upd G p o) := by
  obtain ⟨h1, h2, h3⟩ := E.free h
  exact ⟨(E.heap (same_new h)).still upd_same h1 h2 h3, same_new h1⟩
/-- a new list of the body's own -/
theorem Env.newOwn (E : Env K c pa G H σ ds) {p : Addr} {vs : List V} {xs : List D} (h : H p = none) (r : Reps K G xs vs) : Env K c pa G (upd H p (.lst vs)) σ ds ∧ Tmp K c pa G (upd H p (.lst vs)) ds p xs := by
  obtain ⟨h1, h2, h3⟩ := E.free h
  exact ⟨E.heap (same_new h), h1, h2, ⟨vs, upd_same, r⟩, h3⟩
theorem Tmp.freeze {p : Addr} {xs : List D} (t : Tmp K c pa G H ds p xs) (E : Env K c pa G H σ ds) : ∃ G', Env K c pa G' H σ ds ∧ Same G G' ∧ Rep K G' (.lst xs) (.ref p) := by
  obtain ⟨vs, h1, h2⟩ := t.here
  exact ⟨_, E.still h1 t.g t.h0 t.ne, same_new t.g, p, vs, rfl, SqL.of upd_same, h2.mono (same_new t.g)⟩
theorem set_get {α : Type} {σ : List α} {i j : Nat} {v : α} (h : i ≠ j) : (σ.set i v)[j]? = σ[j]? := List.getElem?_set_ne h
theorem Env.setVal (E : Env K c pa G H σ ds) {v : V} {d : D} (i : Nat) (r : Rep K G d v) : Env K c pa G H (σ.set i (some v)) (st ds i (.val d)) where
  ex := E.ex
  fr := E.fr
  dom := E.dom
  ge := E.ge
  gf := E.gf
  len := by rw [len_st, List.length_set]; exact E.len
  sl := fun j dv h => by
    rw [gt_st] at h
    by_cases q : j = i ∧ i < ds.length
    · rw [if_pos q] at h
      have h : DV.val d = dv := Option.some.inj h
      subst h
      obtain ⟨e, q⟩ := q
      subst e
      rw [E.len] at q
      exact ⟨v, List.getElem?_set_self q, r⟩
    · rw [if_neg q] at h
      have hj := gt_lt h
      have n : i ≠ j := fun e => q ⟨e.symm, e ▸ hj⟩
      rw [set_get n]
      exact E.sl j dv h
  inj := fun a b dv dv' h h' o o' n => by
    rw [gt_st] at h h'
    by_cases q : a = i ∧ i < ds.length
    · rw [if_pos q] at h
      have h : DV.val d = dv := Option.some.inj h
      subst h
      cases o
    · by_cases q' : b = i ∧ i < ds.length
      · rw [if_pos q'] at h'
        have h' : DV.val d = dv' := Option.some.inj h'
        subst h'
        cases o'
      · rw [if_neg q] at h
        rw [if_neg q'] at h'
        exact E.inj a b dv dv' h h' o o' n
  ps := fun j xs h => by
    rw [gt_st] at h
    by_cases q : j = i ∧ i < ds.length
    · rw [if_pos q] at h
      cases (Option.some.inj h : DV.val d = DV.par xs)
    · rw [if_neg q] at h
      exact E.ps j xs h
theorem Env.setOwn (E : Env K c pa G H σ ds) {p : Addr} {xs : List D} (i : Nat) (t : Tmp K c pa G H ds p xs) : Env K c (fun j => if j = i then p else pa j) G H (σ.set i (some (.ref p))) (st ds i (.own xs)) where
  ex := E.ex
  fr := E.fr
  dom := E.dom
  ge := E.ge
  gf := E.gf
  len := by rw [len_st, List.length_set]; exact E.len
  sl := fun j dv h => by
    rw [gt_st] at h
    by_cases q : j = i ∧ i < ds.length
    · rw [if_pos q] at h
      have h : DV.own xs = dv := Option.some.inj h
      subst h
      obtain ⟨e, q⟩ := q
      subst e
      rw [E.len] at q
      rw [if_pos rfl]
      exact ⟨List.getElem?_set_self q, t.g, t.h0, t.here⟩
    · rw [if_neg q] at h
      have hj := gt_lt h
      have n : i ≠ j := fun e => q ⟨e.symm, e ▸ hj⟩
      rw [set_get n, if_neg n.symm]
      exact E.sl j dv h
  inj := fun a b dv dv' h h' o o' n => by
    rw [gt_st] at h h'
    by_cases q : a = i ∧ i < ds.length
    · by_cases q' : b = i ∧ i < ds.length
      · exact absurd (q.1.trans q'.1.symm) n
      · rw [if_neg q'] at h'
        have nb : b ≠ i := fun e => n (q.1.trans e.symm)
        show (if a = i then p else pa a) ≠ (if b = i then p else pa b)
        rw [if_pos q.1, if_neg nb]
        exact (t.ne b dv' h' o').symm
    · rw [if_neg q] at h
      have ha := gt_lt h
      have na : a ≠ i := fun e => q ⟨e, e ▸ ha⟩
      by_cases q' : b = i ∧ i < ds.length
      · show (if a = i then p else pa a) ≠ (if b = i then p else pa b)
        rw [if_pos q'.1, if_neg na]
        exact t.ne a dv h o
      · rw [if_neg q'] at h'
        have hb := gt_lt h'
        have nb : b ≠ i := fun e => q' ⟨e, e ▸ hb⟩
        show (if a = i then p else pa a) ≠ (if b = i then p else pa b)
        rw [if_neg na, if_neg nb]
        exact E.inj a b dv dv' h h' o o' n
  ps := fun j ys h => by
    rw [gt_st] at h
    by_cases q : j = i ∧ i < ds.length
    · rw [if_pos q] at h
      cases (Option.some.inj h : DV.own xs = DV.par ys)
    · rw [if_neg q] at h
      have hj := gt_lt h
      have n : j ≠ i := fun e => q ⟨e, e ▸ hj⟩
      show (if j = i then p else pa j) = c.P j
      rw [if_neg n]
      exact E.ps j ys h
/-- the slot's word is forgotten; the slot itself may be wiped -/
theorem Env.forget (E : Env K c pa G H σ ds) (i : Nat) (o : Option V) : Env K c pa G H (σ.set i o) (er ds i) where
  ex := E.ex
  fr := E.fr
  dom := E.dom
  ge := E.ge
  gf := E.gf
  len := by rw [len_er, List.length_set]; exact E.len
  sl := fun j dv h => by
    rw [gt_er] at h
    by_cases q : j = i
    · rw [if_pos q] at h
      cases h
    · rw [if_neg q] at h
      rw [set_get (Ne.symm q)]
      exact E.sl j dv h
  inj := fun a b dv dv' h h' o o' n => by
    rw [gt_er] at h h'
    by_cases q : a = i
    · rw [if_pos q] at h
      cases h
    · rw [if_neg q] at h
      by_cases q' : b = i
      · rw [if_pos q'] at h'
        cases h'
      · rw [if_neg q'] at h'
        exact E.inj a b dv dv' h h' o o' n
  ps := fun j ys h => by
    rw [gt_er] at h
    by_cases q : j = i
    · rw [if_pos q] at h
      cases h
    · rw [if_neg q] at h
      exact E.ps j ys h
theorem Env.drop (E : Env K c pa G H σ ds) (i : Nat) : Env K c pa G H σ (er ds i) where
  ex := E.ex
  fr := E.fr
  dom := E.dom
  ge := E.ge
  gf := E.gf
  len := by rw [len_er]; exact E.len
  sl := fun j dv h => by
    rw [gt_er] at h
    by_cases q : j = i
    · rw [if_pos q] at h
      cases h
    · rw [if_neg q] at h
      exact E.sl j dv h
  inj := fun a b dv dv' h h' o o' n => by
    rw [gt_er] at h h'
    by_cases q : a = i
    · rw [if_pos q] at h
      cases h
    · rw [if_neg q] at h
      by_cases q' : b = i
      · rw [if_pos q'] at h'
        cases h'
      · rw [if_neg q'] at h'
        exact E.inj a b dv dv' h h' o o' n
  ps := fun j ys h => by
    rw [gt_er] at h
    by_cases q : j = i
    · rw [if_pos q] at h
      cases h
    · rw [if_neg q] at h
      exact E.ps j ys h
theorem Env.drops (E : Env K c pa G H σ ds) : ∀ vs : List Nat, Env K c pa G H σ (ers ds vs)
  | [] => E
  | v :: vs => (E.drops vs).drop v
theorem Env.wipes (E : Env K c pa G H σ ds) : ∀ vs : List Nat, Env K c pa G H (wipe σ vs) (ers ds vs)
  | [] => E
  | v :: vs => (E.wipes vs).forget v none
theorem gt_refill : ∀ {ds : DS} {i j : Nat} {xs : List D}, gt (refill ds i xs) j = (match gt ds j with
    | some (.own ys) => if j = i then some (.own xs) else some (.own ys)
    | some (.par ys) => if j = i then some (.par xs) else some (.par ys)
    | o => o)
  | [], i, j, xs => rfl
  | o :: r, 0, 0, xs => by
    show fill1 xs o = (match o with
      | some (.own ys) => if 0 = 0 then some (.own xs) else some (.own ys)
      | some (.par ys) => if 0 = 0 then some (.par xs) else some (.par ys)
      | o => o)
    cases o with
    | none => rfl
    | some d => cases d <;> rfl
  | o :: r, 0, j + 1, xs => by
    show gt r j = (match gt r j with
      | some (.own ys) => if j + 1 = 0 then some (.own xs) else some (.own ys)
      | some (.par ys) => if j + 1 = 0 then some (.par xs) else some (.par ys)
      | o => o)
    cases gt r j with
    | none => rfl
    | some d => cases d <;> rfl
  | o :: r, i + 1, 0, xs => by
    show o = (match o with
      | some (.own ys) => if 0 = i + 1 then some (.own xs) else some (.own ys)
      | some (.par ys) => if 0 = i + 1 then some (.par xs) else some (.par ys)
      | o => o)
    cases o with
    | none => rfl
    | some d => cases d <;> rfl
  | o :: r, i + 1, j + 1, xs => by
    show gt (refill r i xs) j = (match gt r j with
      | some (.own ys) => if j + 1 = i + 1 then some (.own xs) else some (.own ys)
      | some (.par ys) => if j + 1 = i + 1 then some (.par xs) else some (.par ys)
      | o => o)
    rw [gt_refill (ds := r) (i := i) (j := j)]
    simp only [Nat.add_right_cancel_iff]
theorem len_refill : ∀ {ds : DS} {i : Nat} {xs : List D}, (refill ds i xs).length = ds.length
  | [], _, _ => rfl
  | o :: r, 0, xs => rfl
  | o :: r, i + 1, xs => by
    show (refill r i xs).length + 1 = r.length + 1
    rw [len_refill]
theorem isO_gt_refill {ds : DS} {i j : Nat} {xs : List D} {dv : DV} (h : gt (refill ds i xs) j = some dv) : ∃ dv', gt ds j = some dv' ∧ isO dv' = isO dv := by
  rw [gt_refill] at h
  cases e : gt ds j with
  | none => rw [e] at h; cases h
  | some d0 =>
    rw [e] at h
    refine ⟨d0, rfl, ?_⟩
    cases d0 with
    | val d =>
      have h : DV.val d = dv := Option.some.inj h
      rw [← h]
    | own ys =>
      simp only at h
      split at h <;> (have h := Option.some.inj h; rw [← h]; try rfl)
    | par ys =>
      simp only at h
      split at h <;> (have h := Option.some.inj h; rw [← h]; try rfl)
/-- the list in slot i is written -/
theorem Env.write (E : Env K c pa G H σ ds) {i : Nat} {xs ys : List D} {ws : List V} (h : listAt ds i = some xs) (r : Reps K G ys ws) : Env K c pa G (upd H (pa i) (.lst ws)) σ (refill ds i ys) := by
  obtain ⟨dv, h1, h2, h3, h4, h5, h6, vs, h7, h8⟩ := E.lst h
  have gne : ∀ a o, G a = some o → a ≠ pa i := fun a o q => ne_of_none q h5
  refine ⟨fun a o q => ?_, fun a o q w => ?_, fun a q => ?_, E.ge, E.gf, ?_, fun j dj q => ?_, fun a b d d' q q' o o' n => ?_, fun j zs q => ?_⟩
  · rw [upd_ne (gne a o q)]
    exact E.ex a o q
  · have n : a ≠ pa i := fun e => by
      subst e
      rcases h6 with z | z
      · rw [z] at q; cases q
      · exact w z
    rw [upd_ne n]
    exact E.fr a o q w
  · by_cases n : a = pa i
    · rw [n, upd_same]
      exact fun z => nomatch z
    · rw [upd_ne n]
      exact E.dom a q
  · rw [len_refill]
    exact E.len
  · by_cases hj : j = i
    · subst hj
      rw [gt_refill, h1] at q
      have s := E.sl j dv h1
      rcases h3 with z | z
      · subst z
        simp only [if_true] at q
        have q := Option.some.inj q
        subst q
        obtain ⟨s1, s2, s3, _⟩ := s
        exact ⟨s1, s2, s3, ws, upd_same, r⟩
      · subst z
        simp only [if_true] at q
        have q := Option.some.inj q
        subst q
        obtain ⟨s1, s2, s3, _⟩ := s
        exact ⟨s1, s2, s3, ws, upd_same, r⟩
    · have q0 : gt ds j = some dj := by
        rw [gt_refill] at q
        cases e : gt ds j with
        | none => rw [e] at q; exact q
        | some d0 =>
          rw [e] at q
          cases d0 with
          | val d => exact q
          | own zs => simpa only [if_neg hj] using q
          | par zs => simpa only [if_neg hj] using q
      have s := E.sl j dj q0
      cases o : isO dj with
      | false =>
        cases dj with
        | val d => exact s
        | own _ => cases o
        | par _ => cases o
      | true =>
        have n : pa j ≠ pa i := E.inj j i dj dv q0 h1 o h2 hj
        cases dj with
        | val d => exact s
        | own zs =>
          obtain ⟨s1, s2, s3, zvs, s4, s5⟩ := s
          exact ⟨s1, s2, s3, zvs, by rw [upd_ne n]; exact s4, s5⟩
        | par zs =>
          obtain ⟨s1, s2, s3, zvs, s4, s5⟩ := s
          exact ⟨s1, s2, s3, zvs, by rw [upd_ne n]; exact s4, s5⟩
  · obtain ⟨d1, e1, o1⟩ := isO_gt_refill q
    obtain ⟨d2, e2, o2⟩ := isO_gt_refill q'
    exact E.inj a b d1 d2 e1 e2 (o1.trans o) (o2.trans o') n
  · rw [gt_refill] at q
    cases e : gt ds j with
    | none => rw [e] at q; cases q
    | some d0 =>
      rw [e] at q
      cases d0 with
      | val d => cases (Option.some.inj q : DV.val d = DV.par zs)
      | own us =>
        simp only at q
        split at q <;> cases q
      | par us => exact E.ps j us e
end
end DW

/-! DwC: readings against transformers: expressions, tests, arguments. -/
namespace DW
open PySem PySem.Spec PyProof.Rows L2

/-- an expression's step: the slots' word again, what stood still stands, all but the body's own lists is as it was -/
structure Stp (K : PySem.W.Frag) (c : C0) (pa : Nat → Addr) (σ : L2.St) (G H : Hp) (ds : DS) (G' H' : Hp) (ds' : DS) : Prop where
  env : Env K c pa G' H' σ ds'
  sg : Same G G'
  fr : ∀ a o, H a = some o → (∀ i dv, gt ds i = some dv → isO dv = true → a ≠ pa i) → H' a = some o ∧ G' a = G a
  sub : ∀ i dv, gt ds' i = some dv → isO dv = true → ∃ dv0, gt ds i = some dv0 ∧ isO dv0 = true
  dom : ∀ a, H a ≠ none → H' a ≠ none
section
variable {K : PySem.W.Frag} {c : C0} {pa : Nat → Addr} {G H G' H' G2 H2 : Hp} {σ : L2.St} {ds ds' ds2 : DS}
theorem Stp.refl (E : Env K c pa G H σ ds) : Stp K c pa σ G H ds G H ds := ⟨E, fun _ _ q => q, fun _ _ h _ => ⟨h, rfl⟩, fun _ dv h o => ⟨dv, h, o⟩, fun _ h => h⟩
theorem Stp.trans (a : Stp K c pa σ G H ds G' H' ds') (b : Stp K c pa σ G' H' ds' G2 H2 ds2) : Stp K c pa σ G H ds G2 H2 ds2 where
  env := b.env
  sg := a.sg.trans b.sg
  fr := fun x o h n => by
    obtain ⟨h1, g1⟩ := a.fr x o h n
    obtain ⟨h2, g2⟩ := b.fr x o h1 fun i dv q oo => by
      obtain ⟨dv0, q0, o0⟩ := a.sub i dv q oo
      exact n i dv0 q0 o0
    exact ⟨h2, g2.trans g1⟩
  sub := fun i dv h o => by
    obtain ⟨d1, h1, o1⟩ := b.sub i dv h o
    exact a.sub i d1 h1 o1
  dom := fun x h => b.dom x (a.dom x h)
/-- a new object -/
theorem Stp.new (E : Env K c pa G H σ ds) {p : Addr} {o : HO} (h : H p = none) : Stp K c pa σ G H ds (upd G p o) (upd H p o) ds :=
  ⟨(E.new h).1, (E.new h).2, fun a u q _ => ⟨by rw [upd_ne (ne_of_none q h)]; exact q, by rw [upd_ne (ne_of_none q h)]⟩, fun _ dv h o => ⟨dv, h, o⟩, fun a q => by
    have n : a ≠ p := fun e => by
      rw [e] at q
      exact q h
    rw [upd_ne n]
    exact q⟩
theorem Stp.newOwn (E : Env K c pa G H σ ds) {p : Addr} {vs : List V} {xs : List D} (h : H p = none) (r : Reps K G xs vs) : Stp K c pa σ G H ds G (upd H p (.lst vs)) ds ∧ Tmp K c pa G (upd H p (.lst vs)) ds p xs :=
  ⟨⟨(E.newOwn h r).1, fun _ _ q => q, fun a u q _ => ⟨by rw [upd_ne (ne_of_none q h)]; exact q, rfl⟩, fun _ dv h o => ⟨dv, h, o⟩, fun a q => by
    have n : a ≠ p := fun e => by
      rw [e] at q
      exact q h
    rw [upd_ne n]
    exact q⟩, (E.newOwn h r).2⟩
/-- a list that was made and that no slot holds stands still from here on -/
theorem Stp.freeze {p : Addr} {xs : List D} (S : Stp K c pa σ G H ds G' H' ds') (t : Tmp K c pa G' H' ds' p xs) (h : H p = none) : ∃ G2, Stp K c pa σ G H ds G2 H' ds' ∧ Rep K G2 (.lst xs) (.ref p) := by
  obtain ⟨vs, h1, h2⟩ := t.here
  refine ⟨upd G' p (.lst vs), ⟨S.env.still h1 t.g t.h0 t.ne, S.sg.trans (same_new t.g), fun a o q n => ?_, S.sub, S.dom⟩, p, vs, rfl, SqL.of upd_same, h2.mono (same_new t.g)⟩
  obtain ⟨e1, e2⟩ := S.fr a o q n
  exact ⟨e1, by rw [upd_ne (ne_of_none q h)]; exact e2⟩
/-- such a list stays as it is meanwhile -/
theorem Tmp.stay {p : Addr} {xs : List D} (t : Tmp K c pa G H ds p xs) (S : Stp K c pa σ G H ds G' H' ds') : Tmp K c pa G' H' ds' p xs := by
  obtain ⟨vs, h1, h2⟩ := t.here
  obtain ⟨e1, e2⟩ := S.fr p _ h1 fun i dv h o e => t.ne i dv h o e.symm
  refine ⟨e2.trans t.g, t.h0, ⟨vs, e1, h2.mono S.sg⟩, fun i dv h o => ?_⟩
  obtain ⟨d0, h0, o0⟩ := S.sub i dv h o
  exact t.ne i d0 h0 o0
end
/-- how an exception lies: its class, its own dict -/
structure ExcAt (K : PySem.W.Frag) (G H : Hp) (e : DX) (cls : Value) (d : Option Addr) : Prop where
  cls : ∃ C, PySem.W.nsIn K mainGlobals e.cls = some (some (.ref C)) ∧ cls = .ref C
  fs : ∃ (dd : Addr) (vs : List V), d = some dd ∧ H dd = some (.xd ((e.fs.map (·.1)).zip vs)) ∧ Reps K G (e.fs.map (·.2)) vs
/-- every exception that is told is what the reading wants of exceptions -/
def XOk (K : PySem.W.Frag) (c : C0) (W : WX) (xk : XKd) : Prop := ∀ e ds, xk e ds → ∀ pa G H σ cls d, Env K c pa G H σ ds → ExcAt K G H e cls d → W cls d σ H

def EW (K : PySem.W.Frag) (W : WX) (te : TE) (w : WE) : Prop := ∀ (c : C0) pa G H σ ds xk (kk : D → DS → Prop) (Q : VK), Env K c pa G H σ ds → w xk ds kk → XOk K c W xk →
  (∀ v G' H' d ds', kk d ds' → Stp K c pa σ G H ds G' H' ds' → Rep K G' d v → Q v H') → te σ H Q
def EO (K : PySem.W.Frag) (W : WX) (te : TE) (w : WO) : Prop := ∀ (c : C0) pa G H σ ds xk (kk : List D → DS → Prop) (Q : VK), Env K c pa G H σ ds → w xk ds kk → XOk K c W xk →
  (∀ p G' H' xs ds', kk xs ds' → Stp K c pa σ G H ds G' H' ds' → Tmp K c pa G' H' ds' p xs → H p = none → Q (.ref p) H') → te σ H Q
def TW (K : PySem.W.Frag) (W : WX) (tt : TT) (w : WT) : Prop := ∀ (c : C0) pa G H σ ds xk (kk : Bool → DS → Prop) (Q : Bool → Hp → Prop), Env K c pa G H σ ds → w xk ds kk → XOk K c W xk →
  (∀ b G' H' ds', kk b ds' → Stp K c pa σ G H ds G' H' ds' → Q b H') → tt σ H Q
def AW (K : PySem.W.Frag) (W : WX) (ta : TA) (as : List WE) : Prop := ∀ (c : C0) pa G H σ ds xk (kk : List D → DS → Prop) (Q : List V → Hp → Prop), Env K c pa G H σ ds → wArgs as xk ds kk → XOk K c W xk →
  (∀ vs G' H' l ds', kk l ds' → Stp K c pa σ G H ds G' H' ds' → Reps K G' l vs → l.length = as.length → Q vs H') → ta σ H Q
/-- an operation on values against one on data, nothing made -/
def RW2 (K : PySem.W.Frag) (r : R2) (f : B2) : Prop := ∀ (G H : Hp) (x y : V) (d e : D) (kk : D → Prop) (Q : VK), Same G H → Rep K G d x → Rep K G e y → f d e kk → (∀ z v, kk z → Rep K G z v → Q v H) → r x y H Q
def RW1 (K : PySem.W.Frag) (r : V → Hp → VK → Prop) (f : B1) : Prop := ∀ (G H : Hp) (x : V) (d : D) (kk : D → Prop) (Q : VK), Same G H → Rep K G d x → f d kk → (∀ z v, kk z → Rep K G z v → Q v H) → r x H Q
def RWC1 (K : PySem.W.Frag) (r : List V → Hp → VK → Prop) (f : B1) : Prop := ∀ (G H : Hp) (x : V) (d : D) (kk : D → Prop) (Q : VK), Same G H → Rep K G d x → f d kk → (∀ z v, kk z → Rep K G z v → Q v H) → r [x] H Q
def RWC2 (K : PySem.W.Frag) (r : List V → Hp → VK → Prop) (f : B2) : Prop := ∀ (G H : Hp) (x y : V) (d e : D) (kk : D → Prop) (Q : VK), Same G H → Rep K G d x → Rep K G e y → f d e kk → (∀ z v, kk z → Rep K G z v → Q v H) → r [x, y] H Q

section
variable {K : PySem.W.Frag} {W : WX} {ta tb te : TE} {a b : WE} {t u : TT} {wt wu : WT}

theorem ew_c {d : D} {v : V} (h : ∀ G, Rep K G d v) : EW K W (tC v) (wC d) := fun c pa G H σ ds xk kk Q E hw hx k => k v G H d ds hw (.refl E) (h G)
theorem ew_var (i : Nat) : EW K W (tVar i) (wVar i) := fun c pa G H σ ds xk kk Q E hw hx k => by
  have hw : (match gt ds i with
    | some (.val d) => kk d ds
    | some (.own xs) => kk (.lst xs) (st ds i (.val (.lst xs)))
    | _ => False) := hw
  cases e : gt ds i with
  | none => rw [e] at hw; exact hw.elim
  | some dv =>
    rw [e] at hw
    cases dv with
    | val d =>
      obtain ⟨v, e1, r⟩ := E.val e
      exact ⟨v, e1, k v G H d ds hw (.refl E) r⟩
    | par xs => exact hw.elim
    | own xs =>
      obtain ⟨e1, g, h0, vs, e2, r⟩ := E.sl i _ e
      have hl := gt_lt e
      -- from here on it stands still
      refine ⟨.ref (pa i), e1, ?_⟩
      have ne : ∀ j dv, gt (er ds i) j = some dv → isO dv = true → pa j ≠ pa i := fun j dv q o => by
        rw [gt_er] at q
        by_cases hj : j = i
        · rw [if_pos hj] at q
          cases q
        · rw [if_neg hj] at q
          exact E.inj j i dv _ q e o rfl hj
      have E1 := (E.drop i).still e2 g h0 ne
      have sg : Same G (upd G (pa i) (.lst vs)) := same_new g
      have rr : Rep K (upd G (pa i) (.lst vs)) (.lst xs) (.ref (pa i)) := ⟨pa i, vs, rfl, SqL.of upd_same, r.mono sg⟩
      have E2 := E1.setVal (v := .ref (pa i)) (d := .lst xs) i rr
      have es : σ.set i (some (.ref (pa i))) = σ := List.ext_getElem? fun j => by
        by_cases hj : i = j
        · subst hj
          rw [E.len] at hl
          rw [List.getElem?_set_self hl, e1]
        · rw [set_get hj]
      have ed : st (er ds i) i (.val (.lst xs)) = st ds i (.val (.lst xs)) := by
        have z : ∀ (l : DS) (j : Nat) (d : DV), st (er l j) j d = st l j d := by
          intro l
          induction l with
          | nil => intro j d; rfl
          | cons x r ih =>
            intro j d
            cases j with
            | zero => rfl
            | succ j =>
              show x :: st (er r j) j d = x :: st r j d
              rw [ih]
        exact z ds i _
      rw [es, ed] at E2
      refine k _ _ H _ _ hw ⟨E2, sg, fun a o q n => ⟨q, by rw [upd_ne (n i _ e rfl)]⟩, fun j dv q o => ?_, fun _ q => q⟩ rr
      rw [gt_st] at q
      by_cases hj : j = i ∧ i < ds.length
      · rw [if_pos hj] at q
        have q : DV.val (.lst xs) = dv := Option.some.inj q
        subst q
        cases o
      · rw [if_neg hj] at q
        exact ⟨dv, q, o⟩
theorem ew_op {r : R2} {f : B2} (hr : RW2 K r f) (ha : EW K W ta a) (hb : EW K W tb b) : EW K W (tOp r ta tb) (wBin f a b) := fun c pa G H σ ds xk kk Q E hw hx k => by
  refine ha c pa G H σ ds xk _ _ E hw hx fun x G1 H1 d ds1 q S1 r1 => ?_
  refine hb c pa G1 H1 σ ds1 xk _ _ S1.env q hx fun y G2 H2 e ds2 q2 S2 r2 => ?_
  exact hr G2 H2 x y d e _ Q S2.env.ex (r1.mono S2.sg) r2 q2 fun z v hz rz => k v G2 H2 z ds2 hz (S1.trans S2) rz
theorem ew_un {r : V → Hp → VK → Prop} {f : B1} (hr : RW1 K r f) (ha : EW K W ta a) : EW K W (tUn r ta) (wUn f a) := fun c pa G H σ ds xk kk Q E hw hx k => by
  refine ha c pa G H σ ds xk _ _ E hw hx fun x G1 H1 d ds1 q S1 r1 => ?_
  exact hr G1 H1 x d _ Q S1.env.ex r1 q fun z v hz rz => k v G1 H1 z ds1 hz S1 rz
theorem aw_nil : AW K W tNil [] := fun c pa G H σ ds xk kk Q E hw hx k => k [] G H [] ds hw (.refl E) rfl rfl
theorem aw_cons {tr : TA} {r : List WE} (ha : EW K W ta a) (hr : AW K W tr r) : AW K W (tCons ta tr) (a :: r) := fun c pa G H σ ds xk kk Q E hw hx k => by
  refine ha c pa G H σ ds xk _ _ E hw hx fun x G1 H1 d ds1 q S1 r1 => ?_
  refine hr c pa G1 H1 σ ds1 xk _ _ S1.env q hx fun vs G2 H2 l ds2 q2 S2 r2 l2 => ?_
  exact k (x :: vs) G2 H2 (d :: l) ds2 q2 (S1.trans S2) ⟨x, vs, rfl, r1.mono S2.sg, r2⟩ (by rw [List.length_cons, List.length_cons, l2])
theorem ew_tup {t : TA} {as : List WE} (h : AW K W t as) (hl : as.length ≤ 100000 := by decide) : EW K W (tTup t) (wTup as) := fun c pa G H σ ds xk kk Q E hw hx k => by
  refine h c pa G H σ ds xk (fun l ds1 => kk (.tup l) ds1) _ E hw hx fun vs G1 H1 l ds1 q S1 r1 l1 => ?_
  refine ⟨?_, fun p hp => ?_⟩
  · rw [← r1.len, l1]
    exact Nat.le_trans hl (by decide)
  · have S2 := Stp.new S1.env (o := .tup vs) hp
    exact k _ _ _ _ _ q (S1.trans S2) ⟨p, vs, rfl, SqT.of upd_same, r1.mono S2.sg⟩
theorem eo_lst {t : TA} {as : List WE} (h : AW K W t as) (hl : as.length ≤ 100000 := by decide) : EO K W (tLst t) (wLst as) := fun c pa G H σ ds xk kk Q E hw hx k => by
  refine h c pa G H σ ds xk (fun l ds1 => kk l ds1) _ E hw hx fun vs G1 H1 l ds1 q S1 r1 l1 => ?_
  refine ⟨?_, fun p hp => ?_⟩
  · rw [← r1.len, l1]
    exact Nat.le_trans hl (by decide)
  · obtain ⟨S2, t2⟩ := Stp.newOwn S1.env hp r1
    refine k _ _ _ _ _ q (S1.trans S2) t2 ?_
    cases z : H p with
    | none => rfl
    | some o => exact absurd hp (S1.dom p (by rw [z]; exact fun y => nomatch y))
theorem ew_frz {o : WO} (h : EO K W te o) : EW K W te (wFrz o) := fun c pa G H σ ds xk kk Q E hw hx k => by
  refine h c pa G H σ ds xk _ _ E hw hx fun p G1 H1 xs ds1 q S1 t1 n1 => ?_
  obtain ⟨G2, S2, r2⟩ := S1.freeze t1 n1
  exact k _ _ _ _ _ q S2 r2
/-! ### the own list in a slot -/
theorem own_ref {c : C0} {pa : Nat → Addr} {G H : Hp} {σ : L2.St} {ds : DS} (E : Env K c pa G H σ ds) {i : Nat} {xs : List D} (h : listAt ds i = some xs) : σ[i]? = some (some (.ref (pa i))) := by
  obtain ⟨_, _, _, _, q, _⟩ := E.lst h
  exact q
theorem listAt_some {ds : DS} {i : Nat} {P : List D → Prop} (h : match listAt ds i with | some xs => P xs | none => False) : ∃ xs, listAt ds i = some xs ∧ P xs := by
  cases e : listAt ds i with
  | none => rw [e] at h; exact h.elim
  | some xs => rw [e] at h; exact ⟨xs, rfl, h⟩
/-! ### choices -/
theorem ew_if (ht : TW K W t wt) (ha : EW K W ta a) (hb : EW K W tb b) : EW K W (tIf t ta tb) (wIf wt a b) := fun c pa G H σ ds xk kk Q E hw hx k => by
  refine ht c pa G H σ ds xk _ _ E hw hx fun v G1 H1 ds1 q S1 => ?_
  cases v with
  | true =>
    rw [if_pos rfl] at q ⊢
    exact ha c pa G1 H1 σ ds1 xk _ _ S1.env q hx fun x G2 H2 d ds2 q2 S2 r2 => k x G2 H2 d ds2 q2 (S1.trans S2) r2
  | false =>
    rw [if_neg Bool.false_ne_true] at q ⊢
    exact hb c pa G1 H1 σ ds1 xk _ _ S1.env q hx fun x G2 H2 d ds2 q2 S2 r2 => k x G2 H2 d ds2 q2 (S1.trans S2) r2
theorem bl_some {d : D} {P : Bool → Prop} (h : match d with | .bl c => P c | _ => False) : ∃ c, d = .bl c ∧ P c := by
  cases d with
  | bl c => exact ⟨c, rfl, h⟩
  | _ => exact h.elim
theorem ew_and (ha : EW K W ta a) (hb : EW K W tb b) : EW K W (tAndV ta tb) (wAndV a b) := fun c pa G H σ ds xk kk Q E hw hx k => by
  refine ha c pa G H σ ds xk _ _ E hw hx fun x G1 H1 d ds1 q S1 r1 => ?_
  obtain ⟨v, rfl, q'⟩ := bl_some q
  have q : if v = true then b xk ds1 kk else kk (.bl false) ds1 := q'
  have r1 : x = .bl v := r1
  refine ⟨v, r1, ?_⟩
  cases v with
  | true =>
    rw [if_pos rfl] at q ⊢
    exact hb c pa G1 H1 σ ds1 xk _ _ S1.env q hx fun x G2 H2 d ds2 q2 S2 r2 => k x G2 H2 d ds2 q2 (S1.trans S2) r2
  | false =>
    rw [if_neg Bool.false_ne_true] at q ⊢
    exact k _ _ _ _ _ q S1 rfl
theorem ew_or (ha : EW K W ta a) (hb : EW K W tb b) : EW K W (tOrV ta tb) (wOrV a b) := fun c pa G H σ ds xk kk Q E hw hx k => by
  refine ha c pa G H σ ds xk _ _ E hw hx fun x G1 H1 d ds1 q S1 r1 => ?_
  obtain ⟨v, rfl, q'⟩ := bl_some q
  have q : if v = true then kk (.bl true) ds1 else b xk ds1 kk := q'
  have r1 : x = .bl v := r1
  refine ⟨v, r1, ?_⟩
  cases v with
  | true =>
    rw [if_pos rfl] at q ⊢
    exact k _ _ _ _ _ q S1 rfl
  | false =>
    rw [if_neg Bool.false_ne_true] at q ⊢
    exact hb c pa G1 H1 σ ds1 xk _ _ S1.env q hx fun x G2 H2 d ds2 q2 S2 r2 => k x G2 H2 d ds2 q2 (S1.trans S2) r2
theorem ew_not (ha : EW K W ta a) : EW K W (tNotV ta) (wNotV a) := fun c pa G H σ ds xk kk Q E hw hx k => by
  refine ha c pa G H σ ds xk _ _ E hw hx fun x G1 H1 d ds1 q S1 r1 => ?_
  obtain ⟨v, rfl, q⟩ := bl_some q
  have r1 : x = .bl v := r1
  exact ⟨v, r1, k _ _ _ _ _ q S1 rfl⟩
/-! ### tests -/
theorem tw_tst (ha : EW K W ta a) : TW K W (tTest ta) (wTst a) := fun c pa G H σ ds xk kk Q E hw hx k => by
  refine ha c pa G H σ ds xk _ _ E hw hx fun x G1 H1 d ds1 q S1 r1 => ?_
  obtain ⟨v, rfl, q⟩ := bl_some q
  have r1 : x = .bl v := r1
  exact ⟨v, r1, k _ _ _ _ q S1⟩
theorem tw_b (ha : EW K W ta a) : TW K W (tB ta) (wTst a) := tw_tst ha
theorem tw_yes : TW K W tYes wYes := fun c pa G H σ ds xk kk Q E hw hx k => k true G H ds hw (.refl E)
theorem tw_and (ha : TW K W t wt) (hb : TW K W u wu) : TW K W (tAnd t u) (wAnd wt wu) := fun c pa G H σ ds xk kk Q E hw hx k => by
  refine ha c pa G H σ ds xk _ _ E hw hx fun v G1 H1 ds1 q S1 => ?_
  cases v with
  | true =>
    rw [if_pos rfl] at q ⊢
    exact hb c pa G1 H1 σ ds1 xk _ _ S1.env q hx fun x G2 H2 ds2 q2 S2 => k x G2 H2 ds2 q2 (S1.trans S2)
  | false =>
    rw [if_neg Bool.false_ne_true] at q ⊢
    exact k _ _ _ _ q S1
theorem tw_or (ha : TW K W t wt) (hb : TW K W u wu) : TW K W (tOr t u) (wOr wt wu) := fun c pa G H σ ds xk kk Q E hw hx k => by
  refine ha c pa G H σ ds xk _ _ E hw hx fun v G1 H1 ds1 q S1 => ?_
  cases v with
  | true =>
    rw [if_pos rfl] at q ⊢
    exact k _ _ _ _ q S1
  | false =>
    rw [if_neg Bool.false_ne_true] at q ⊢
    exact hb c pa G1 H1 σ ds1 xk _ _ S1.env q hx fun x G2 H2 ds2 q2 S2 => k x G2 H2 ds2 q2 (S1.trans S2)
theorem tw_not (ha : TW K W t wt) : TW K W (tNot t) (wNot wt) := fun c pa G H σ ds xk kk Q E hw hx k => by
  refine ha c pa G H σ ds xk _ _ E hw hx fun v G1 H1 ds1 q S1 => ?_
  exact k _ _ _ _ q S1
/-! ### built-ins of values -/
theorem ew_cb1 {r : List V → Hp → VK → Prop} {f : B1} (hr : RWC1 K r f) (ha : EW K W ta a) : EW K W (tCB r (tCons ta tNil)) (wUn f a) := fun c pa G H σ ds xk kk Q E hw hx k => by
  refine ha c pa G H σ ds xk _ _ E hw hx fun x G1 H1 d ds1 q S1 r1 => ?_
  exact hr G1 H1 x d _ Q S1.env.ex r1 q fun z v hz rz => k v G1 H1 z ds1 hz S1 rz
theorem ew_cb2 {r : List V → Hp → VK → Prop} {f : B2} (hr : RWC2 K r f) (ha : EW K W ta a) (hb : EW K W tb b) : EW K W (tCB r (tCons ta (tCons tb tNil))) (wBin f a b) := fun c pa G H σ ds xk kk Q E hw hx k => by
  refine ha c pa G H σ ds xk _ _ E hw hx fun x G1 H1 d ds1 q S1 r1 => ?_
  refine hb c pa G1 H1 σ ds1 xk _ _ S1.env q hx fun y G2 H2 e ds2 q2 S2 r2 => ?_
  exact hr G2 H2 x y d e _ Q S2.env.ex (r1.mono S2.sg) r2 q2 fun z v hz rz => k v G2 H2 z ds2 hz (S1.trans S2) rz
end
end DW

/-! DwD: own lists, calls, targets, statements, loops, comprehensions. -/
namespace DW
open PySem PySem.Spec PyProof.Rows L2

/-! ### promises over data as promises over the heap -/
def ArgOk (K : PySem.W.Frag) (G H : Hp) (p : Addr) (o : Option V) : DV → Prop
  | .val d => ∃ v, o = some v ∧ Rep K G d v
  | .par xs => o = some (.ref p) ∧ G p = none ∧ ∃ vs, H p = some (.lst vs) ∧ Reps K G xs vs
  | .own _ => False
structure Args (K : PySem.W.Frag) (G H : Hp) (pa : Nat → Addr) (vs : List V) (dvs : List DV) : Prop where
  len : dvs.length = vs.length
  here : ∀ i dv, dvs[i]? = some dv → ArgOk K G H (pa i) vs[i]? dv
  inj : ∀ (i j : Nat) xs ys, dvs[i]? = some (.par xs) → dvs[j]? = some (.par ys) → i ≠ j → pa i ≠ pa j
/-- behind a call: what stood stands, the lent lists have new items -/
structure Back (K : PySem.W.Frag) (G H G' H' : Hp) (pa : Nat → Addr) (dvs dvs' : List DV) : Prop where
  ex : Same G' H'
  gg : Same G G'
  gf : ∀ a, H a ≠ none → G' a = G a
  fr : ∀ a o, H a = some o → (∀ i xs, dvs[i]? = some (.par xs) → a ≠ pa i) → H' a = some o
  dom : ∀ a, H a ≠ none → H' a ≠ none
  pars : ∀ (i : Nat) xs, dvs[i]? = some (.par xs) → ∃ ys, dvs'[i]? = some (.par ys) ∧ ∃ ws, H' (pa i) = some (.lst ws) ∧ Reps K G' ys ws
def Res (K : PySem.W.Frag) (H G' H' : Hp) (v : V) : DV → Prop
  | .val d => Rep K G' d v
  | .own xs => ∃ p, v = .ref p ∧ H p = none ∧ G' p = none ∧ ∃ vs, H' p = some (.lst vs) ∧ Reps K G' xs vs
  | .par _ => False
def spOf (K : PySem.W.Frag) (fs : FS) : Sp := fun vs H Q E => ∃ (G : Hp) (pa : Nat → Addr) (dvs : List DV) (kk : Out → List DV → Prop), Same G H ∧ Args K G H pa vs dvs ∧ fs dvs kk ∧
  (∀ v r dvs' G' H', kk (.ret r) dvs' → Back K G H G' H' pa dvs dvs' → Res K H G' H' v r → Q v H') ∧
  (∀ e cls d dvs' G' H', kk (.exc e) dvs' → Back K G H G' H' pa dvs dvs' → ExcAt K G' H' e cls d → E cls d H')
theorem spOf_len {K : PySem.W.Frag} {fs : FS} {n : Nat} (h : ∀ dvs kk, fs dvs kk → dvs.length = n) : ∀ vs H Q E, spOf K fs vs H Q E → vs.length = n := fun vs H Q E ⟨G, pa, dvs, kk, _, ha, hf, _⟩ => ha.len.symm.trans (h dvs kk hf)

/-- the arguments of a call: data, own lists -/
def ArgV (K : PySem.W.Frag) (G : Hp) (pa : Nat → Addr) : AV → V → Prop
  | .v d, v => Rep K G d v
  | .s i, v => v = .ref (pa i)
def ArgVs (K : PySem.W.Frag) (G : Hp) (pa : Nat → Addr) : List AV → List V → Prop
  | [], vs => vs = []
  | a :: as, vs => ∃ x xs, vs = x :: xs ∧ ArgV K G pa a x ∧ ArgVs K G pa as xs
theorem ArgVs.mono {K : PySem.W.Frag} {G G' : Hp} {pa : Nat → Addr} (s : Same G G') : ∀ {as : List AV} {vs : List V}, ArgVs K G pa as vs → ArgVs K G' pa as vs
  | [], _, h => h
  | a :: as, vs, h => by
    obtain ⟨x, xs, e, h1, h2⟩ := h
    refine ⟨x, xs, e, ?_, ArgVs.mono s h2⟩
    cases a with
    | v d => exact Rep.mono s (show Rep K G d x from h1)
    | s i => exact h1
theorem ArgVs.len {K : PySem.W.Frag} {G : Hp} {pa : Nat → Addr} : ∀ {as : List AV} {vs : List V}, ArgVs K G pa as vs → as.length = vs.length
  | [], vs, h => by
    have h : vs = [] := h
    rw [h]
    rfl
  | a :: as, vs, h => by
    obtain ⟨x, xs, e, h1, h2⟩ := h
    rw [e, List.length_cons, List.length_cons, ArgVs.len h2]
def CAW (K : PySem.W.Frag) (W : WX) (ta : TA) (as : List DA) : Prop := ∀ (c : C0) pa G H σ ds xk (kk : List AV → DS → Prop) (Q : List V → Hp → Prop), Env K c pa G H σ ds → wCArgs as xk ds kk → XOk K c W xk →
  (∀ vs G' H' l ds', kk l ds' → Stp K c pa σ G H ds G' H' ds' → ArgVs K G' pa l vs → Q vs H') → ta σ H Q
section
variable {K : PySem.W.Frag} {W : WX} {ta tb te : TE} {a b : WE} {t u : TT} {wt wu : WT}
theorem isSome_at {ds : DS} {i : Nat} (h : (listAt ds i).isSome = true) : ∃ xs, listAt ds i = some xs := by
  cases e : listAt ds i with
  | none => rw [e] at h; cases h
  | some xs => exact ⟨xs, rfl⟩
theorem ca_nil : CAW K W tNil [] := fun c pa G H σ ds xk kk Q E hw hx k => k [] G H [] ds hw (.refl E) rfl
theorem ca_v {tr : TA} {r : List DA} (ha : EW K W ta a) (hr : CAW K W tr r) : CAW K W (tCons ta tr) (.v a :: r) := fun c pa G H σ ds xk kk Q E hw hx k => by
  refine ha c pa G H σ ds xk _ _ E hw hx fun x G1 H1 d ds1 q S1 r1 => ?_
  refine hr c pa G1 H1 σ ds1 xk _ _ S1.env q hx fun vs G2 H2 l ds2 q2 S2 r2 => ?_
  exact k (x :: vs) G2 H2 (.v d :: l) ds2 q2 (S1.trans S2) ⟨x, vs, rfl, Rep.mono S2.sg r1, r2⟩
theorem ca_s {i : Nat} {tr : TA} {r : List DA} (hr : CAW K W tr r) : CAW K W (tCons (tVar i) tr) (.s i :: r) := fun c pa G H σ ds xk kk Q E hw hx k => by
  obtain ⟨h1, h2⟩ := hw
  obtain ⟨xs, hxs⟩ := isSome_at h1
  refine ⟨.ref (pa i), own_ref E hxs, ?_⟩
  refine hr c pa G H σ ds xk _ _ E h2 hx fun vs G2 H2 l ds2 q2 S2 r2 => ?_
  exact k (.ref (pa i) :: vs) G2 H2 (.s i :: l) ds2 q2 S2 ⟨_, vs, rfl, rfl, r2⟩
/-- where the slots stand among the arguments -/
theorem argDv_at {ds : DS} : ∀ {as : List AV} {dvs : List DV}, argDv ds as = some dvs → dvs.length = as.length ∧ (∀ (j : Nat) d, as[j]? = some (.v d) → dvs[j]? = some (.val d)) ∧
    ∀ (j : Nat) i, as[j]? = some (.s i) → ∃ xs, listAt ds i = some xs ∧ dvs[j]? = some (.par xs)
  | [], dvs, h => by
    have h : ([] : List DV) = dvs := Option.some.inj h
    rw [← h]
    exact ⟨rfl, fun j d q => by simp at q, fun j i q => by simp at q⟩
  | .v d0 :: r, dvs, h => by
    have h : (argDv ds r).map (DV.val d0 :: ·) = some dvs := h
    cases e : argDv ds r with
    | none => rw [e] at h; cases h
    | some q =>
      rw [e] at h
      have h : DV.val d0 :: q = dvs := Option.some.inj h
      obtain ⟨h1, h2, h3⟩ := argDv_at e
      rw [← h]
      refine ⟨by rw [List.length_cons, List.length_cons, h1], fun j d z => ?_, fun j i z => ?_⟩
      · cases j with
        | zero =>
          have z : AV.v d0 = AV.v d := Option.some.inj z
          injection z with z
          rw [z]
          rfl
        | succ j => exact h2 j d z
      · cases j with
        | zero => cases (show AV.v d0 = AV.s i from Option.some.inj z)
        | succ j => exact h3 j i z
  | .s i0 :: r, dvs, h => by
    have h : (match listAt ds i0 with | some xs => (argDv ds r).map (DV.par xs :: ·) | none => none) = some dvs := h
    cases e0 : listAt ds i0 with
    | none => rw [e0] at h; cases h
    | some xs =>
      rw [e0] at h
      have h : (argDv ds r).map (DV.par xs :: ·) = some dvs := h
      cases e : argDv ds r with
      | none => rw [e] at h; cases h
      | some q =>
        rw [e] at h
        have h : DV.par xs :: q = dvs := Option.some.inj h
        obtain ⟨h1, h2, h3⟩ := argDv_at e
        rw [← h]
        refine ⟨by rw [List.length_cons, List.length_cons, h1], fun j d z => ?_, fun j i z => ?_⟩
        · cases j with
          | zero => cases (show AV.s i0 = AV.v d from Option.some.inj z)
          | succ j => exact h2 j d z
        · cases j with
          | zero =>
            have z : AV.s i0 = AV.s i := Option.some.inj z
            injection z with z
            rw [← z]
            exact ⟨xs, e0, rfl⟩
          | succ j => exact h3 j i z
theorem slots_mem : ∀ {as : List AV} {j i : Nat}, as[j]? = some (.s i) → i ∈ slotsOf as
  | [], j, i, h => by simp at h
  | .v d :: r, 0, i, h => by cases (show AV.v d = AV.s i from Option.some.inj h)
  | .v d :: r, j + 1, i, h => slots_mem (as := r) (j := j) h
  | .s i0 :: r, 0, i, h => by
    have z : AV.s i0 = AV.s i := Option.some.inj h
    injection z with z
    rw [z]
    exact List.mem_cons_self
  | .s i0 :: r, j + 1, i, h => List.mem_cons_of_mem _ (slots_mem (as := r) (j := j) h)
theorem slots_inj : ∀ {as : List AV} {j j' i : Nat}, (slotsOf as).Nodup → as[j]? = some (.s i) → as[j']? = some (.s i) → j = j'
  | [], j, j', i, _, h, _ => by simp at h
  | .v d :: r, 0, _, i, _, h, _ => by cases (show AV.v d = AV.s i from Option.some.inj h)
  | .v d :: r, _ + 1, 0, i, _, _, h => by cases (show AV.v d = AV.s i from Option.some.inj h)
  | .v d :: r, j + 1, j' + 1, i, n, h, h' => by rw [slots_inj (as := r) n h h']
  | .s i0 :: r, 0, 0, i, _, _, _ => rfl
  | .s i0 :: r, 0, j' + 1, i, n, h, h' => by
    have z : AV.s i0 = AV.s i := Option.some.inj h
    injection z with z
    have n : (i0 :: slotsOf r).Nodup := n
    exact absurd (z ▸ slots_mem (as := r) (j := j') h') (List.nodup_cons.mp n).1
  | .s i0 :: r, j + 1, 0, i, n, h, h' => by
    have z : AV.s i0 = AV.s i := Option.some.inj h'
    injection z with z
    have n : (i0 :: slotsOf r).Nodup := n
    exact absurd (z ▸ slots_mem (as := r) (j := j) h) (List.nodup_cons.mp n).1
  | .s i0 :: r, j + 1, j' + 1, i, n, h, h' => by
    have n : (i0 :: slotsOf r).Nodup := n
    rw [slots_inj (as := r) (List.nodup_cons.mp n).2 h h']
theorem slots_ix : ∀ {as : List AV} {i : Nat}, i ∈ slotsOf as → ∃ j : Nat, as[j]? = some (AV.s i)
  | [], i, h => by simp [slotsOf] at h
  | .v d :: r, i, h => by
    obtain ⟨j, e⟩ := slots_ix (as := r) h
    exact ⟨j + 1, e⟩
  | .s i0 :: r, i, h => by
    rcases List.mem_cons.mp (show i ∈ i0 :: slotsOf r from h) with e | h
    · exact ⟨0, by rw [e]; rfl⟩
    · obtain ⟨j, e⟩ := slots_ix (as := r) h
      exact ⟨j + 1, e⟩
theorem len_backs : ∀ (as : List AV) (vs : List DV) (ds : DS), (backs ds as vs).length = ds.length
  | [], vs, ds => by cases vs <;> rfl
  | .v d :: r, [], ds => rfl
  | .s i :: r, [], ds => rfl
  | .v d :: r, q :: vs, ds => len_backs r vs ds
  | .s i :: r, .par ys :: vs, ds => by
    show (backs (refill ds i ys) r vs).length = _
    rw [len_backs r vs, len_refill]
  | .s i :: r, .val _ :: vs, ds => len_backs r vs ds
  | .s i :: r, .own _ :: vs, ds => len_backs r vs ds
theorem refill_at {ds : DS} {i j : Nat} {ys : List D} (h : j ≠ i) : gt (refill ds i ys) j = gt ds j := by
  rw [gt_refill]
  cases gt ds j with
  | none => rfl
  | some dv => cases dv <;> simp only [if_neg h]
theorem refill_cong {ds ds' : DS} {i : Nat} {ys : List D} (h : gt ds i = gt ds' i) : gt (refill ds i ys) i = gt (refill ds' i ys) i := by
  rw [gt_refill, gt_refill, h]
/-- what the slots hold behind a call -/
theorem backs_out : ∀ (as : List AV) (vs : List DV) (ds : DS) (i : Nat), i ∉ slotsOf as → gt (backs ds as vs) i = gt ds i
  | [], vs, ds, i, _ => by cases vs <;> rfl
  | .v d :: r, [], ds, i, _ => rfl
  | .s i0 :: r, [], ds, i, _ => rfl
  | .v d :: r, q :: vs, ds, i, h => backs_out r vs ds i h
  | .s i0 :: r, .par ys :: vs, ds, i, h => by
    have h : i ∉ i0 :: slotsOf r := h
    have n : i ≠ i0 := fun e => h (e ▸ List.mem_cons_self)
    have m : i ∉ slotsOf r := fun e => h (List.mem_cons_of_mem _ e)
    show gt (backs (refill ds i0 ys) r vs) i = _
    rw [backs_out r vs _ i m, refill_at n]
  | .s i0 :: r, .val _ :: vs, ds, i, h => backs_out r vs ds i fun e => h (List.mem_cons_of_mem _ e)
  | .s i0 :: r, .own _ :: vs, ds, i, h => backs_out r vs ds i fun e => h (List.mem_cons_of_mem _ e)
theorem backs_in : ∀ (as : List AV) (vs : List DV) (ds : DS) (i j : Nat) (ys : List D), (slotsOf as).Nodup → as[j]? = some (.s i) → vs[j]? = some (.par ys) → gt (backs ds as vs) i = gt (refill ds i ys) i
  | [], vs, ds, i, j, ys, _, h, _ => by simp at h
  | _ :: _, [], ds, i, j, ys, _, _, h => by simp at h
  | .v d :: r, q :: vs, ds, i, 0, ys, _, h, _ => by cases (show AV.v d = AV.s i from Option.some.inj h)
  | .v d :: r, q :: vs, ds, i, j + 1, ys, n, h, h' => backs_in r vs ds i j ys n h h'
  | .s i0 :: r, .par zs :: vs, ds, i, 0, ys, n, h, h' => by
    have z : AV.s i0 = AV.s i := Option.some.inj h
    injection z with z
    subst z
    have z : DV.par zs = DV.par ys := Option.some.inj h'
    injection z with z
    subst z
    have n : (i0 :: slotsOf r).Nodup := n
    show gt (backs (refill ds i0 zs) r vs) i0 = _
    rw [backs_out r vs _ i0 (List.nodup_cons.mp n).1]
  | .s i0 :: r, .par zs :: vs, ds, i, j + 1, ys, n, h, h' => by
    have n : (i0 :: slotsOf r).Nodup := n
    have ne : i ≠ i0 := fun e => (List.nodup_cons.mp n).1 (e ▸ slots_mem (as := r) (j := j) h)
    show gt (backs (refill ds i0 zs) r vs) i = _
    rw [backs_in r vs _ i j ys (List.nodup_cons.mp n).2 h h']
    exact refill_cong (refill_at ne)
  | .s i0 :: r, .val _ :: vs, ds, i, 0, ys, n, h, h' => by cases (Option.some.inj h' : DV.val _ = DV.par ys)
  | .s i0 :: r, .own _ :: vs, ds, i, 0, ys, n, h, h' => by cases (Option.some.inj h' : DV.own _ = DV.par ys)
  | .s i0 :: r, .val _ :: vs, ds, i, j + 1, ys, n, h, h' => by
    have n : (i0 :: slotsOf r).Nodup := n
    exact backs_in r vs ds i j ys (List.nodup_cons.mp n).2 h h'
  | .s i0 :: r, .own _ :: vs, ds, i, j + 1, ys, n, h, h' => by
    have n : (i0 :: slotsOf r).Nodup := n
    exact backs_in r vs ds i j ys (List.nodup_cons.mp n).2 h h'
theorem argDv_par {ds : DS} {as : List AV} {dvs : List DV} {j : Nat} {xs : List D} {more : List D} (h : argDv ds as = some dvs) (e : (dvs ++ more.map DV.val)[j]? = some (.par xs)) : ∃ i, as[j]? = some (AV.s i) ∧ listAt ds i = some xs := by
  obtain ⟨h1, h2, h3⟩ := argDv_at h
  by_cases hj : j < dvs.length
  · rw [List.getElem?_append_left hj] at e
    rw [h1] at hj
    cases ea : as[j]? with
    | none => exact absurd (List.getElem?_eq_none_iff.mp ea) (by omega)
    | some av =>
      cases av with
      | v d =>
        rw [h2 j d ea] at e
        cases (Option.some.inj e : DV.val d = DV.par xs)
      | s i =>
        obtain ⟨ys, e1, e2⟩ := h3 j i ea
        rw [e2] at e
        have z : DV.par ys = DV.par xs := Option.some.inj e
        injection z with z
        exact ⟨i, rfl, by rw [e1, z]⟩
  · rw [List.getElem?_append_right (by omega), List.getElem?_map] at e
    cases q : more[j - dvs.length]? with
    | none => rw [q] at e; cases e
    | some d =>
      rw [q] at e
      cases (Option.some.inj e : DV.val d = DV.par xs)
def padr (pa : Nat → Addr) (as : List AV) (j : Nat) : Addr := match as[j]? with | some (.s i) => pa i | _ => 0
theorem padr_s {pa : Nat → Addr} {as : List AV} {j i : Nat} (h : as[j]? = some (AV.s i)) : padr pa as j = pa i := by
  unfold padr
  rw [h]
theorem Env.called {c : C0} {pa : Nat → Addr} {G H G' H' : Hp} {σ : L2.St} {ds : DS} {as : List AV} {dvs dvs' : List DV} {more : List D} (E : Env K c pa G H σ ds) (ha : argDv ds as = some dvs) (nd : (slotsOf as).Nodup)
    (B : Back K G H G' H' (padr pa as) (dvs ++ more.map DV.val) dvs') : Stp K c pa σ G H ds G' H' (backs ds as dvs') := by
  obtain ⟨a1, a2, a3⟩ := argDv_at ha
  have par_of : ∀ (j : Nat) i, as[j]? = some (AV.s i) → ∃ xs, listAt ds i = some xs ∧ (dvs ++ more.map DV.val)[j]? = some (.par xs) := fun j i e => by
    obtain ⟨xs, e1, e2⟩ := a3 j i e
    exact ⟨xs, e1, by rw [List.getElem?_append_left (List.getElem?_eq_some_iff.mp e2).1]; exact e2⟩
  have back : ∀ i dv, gt (backs ds as dvs') i = some dv → isO dv = true → ∃ d0, gt ds i = some d0 ∧ isO d0 = true := fun i dv h o => by
    by_cases hi : i ∈ slotsOf as
    · obtain ⟨j, ej⟩ := slots_ix hi
      obtain ⟨xs, e1, _⟩ := par_of j i ej
      obtain ⟨d0, g1, g2, _⟩ := E.lst e1
      exact ⟨d0, g1, g2⟩
    · rw [backs_out as dvs' ds i hi] at h
      exact ⟨dv, h, o⟩
  refine ⟨⟨B.ex, fun a o h w => ?_, fun a h => B.dom a (E.dom a h), E.ge.trans B.gg, fun a h => (B.gf a (E.dom a h)).trans (E.gf a h), by rw [len_backs]; exact E.len, fun i dv h => ?_, fun i j dv dv' h h' o o' n => ?_, fun i zs h => ?_⟩, B.gg,
    fun a o h n => ⟨B.fr a o h fun j xs e q => ?_, B.gf a (by rw [h]; exact fun z => nomatch z)⟩, back, B.dom⟩
  · refine B.fr a o (E.fr a o h w) fun j xs e q => ?_
    obtain ⟨i, e1, e2⟩ := argDv_par ha e
    rw [padr_s e1] at q
    obtain ⟨_, _, _, _, _, _, h6, _⟩ := E.lst e2
    rw [q] at h w
    rcases h6 with z | z
    · rw [z] at h; cases h
    · exact w z
  · by_cases hi : i ∈ slotsOf as
    · obtain ⟨j, ej⟩ := slots_ix hi
      obtain ⟨xs, e1, e2⟩ := par_of j i ej
      obtain ⟨ys, y1, ws, y2, y3⟩ := B.pars j xs e2
      rw [padr_s ej] at y2
      rw [backs_in as dvs' ds i j ys nd ej y1, gt_refill] at h
      obtain ⟨d0, g1, g2, g3, g4, g5, g6, _⟩ := E.lst e1
      have gn : G' (pa i) = none := (B.gf _ (E.ownNe g1 g2)).trans g5
      have s0 := E.sl i d0 g1
      rw [g1] at h
      rcases g3 with z | z
      · subst z
        simp only [if_true] at h
        have h := Option.some.inj h
        subst h
        obtain ⟨s1, s2, s3, _⟩ := s0
        exact ⟨s1, gn, s3, ws, y2, y3⟩
      · subst z
        simp only [if_true] at h
        have h := Option.some.inj h
        subst h
        obtain ⟨s1, s2, s3, _⟩ := s0
        exact ⟨s1, gn, s3, ws, y2, y3⟩
    · rw [backs_out as dvs' ds i hi] at h
      have s := E.sl i dv h
      have away : isO dv = true → ∀ o, H (pa i) = some o → H' (pa i) = some o := fun o w hw => B.fr _ w hw fun j xs e q => by
        obtain ⟨i', e1, e2⟩ := argDv_par ha e
        rw [padr_s e1] at q
        obtain ⟨d0, g1, g2, _⟩ := E.lst e2
        exact E.inj i i' dv d0 h g1 o g2 (fun z => hi (z ▸ slots_mem e1)) q
      cases dv with
      | val d =>
        obtain ⟨v, e1, r⟩ := s
        exact ⟨v, e1, r.mono B.gg⟩
      | own xs =>
        obtain ⟨s1, s2, s3, vs, s4, s5⟩ := s
        exact ⟨s1, (B.gf _ (by rw [s4]; exact fun z => nomatch z)).trans s2, s3, vs, away rfl _ s4, s5.mono B.gg⟩
      | par xs =>
        obtain ⟨s1, s2, s3, vs, s4, s5⟩ := s
        exact ⟨s1, (B.gf _ (by rw [s4]; exact fun z => nomatch z)).trans s2, s3, vs, away rfl _ s4, s5.mono B.gg⟩
  · obtain ⟨d1, e1, o1⟩ := back i dv h o
    obtain ⟨d2, e2, o2⟩ := back j dv' h' o'
    exact E.inj i j d1 d2 e1 e2 o1 o2 n
  · by_cases hi : i ∈ slotsOf as
    · obtain ⟨j, ej⟩ := slots_ix hi
      obtain ⟨xs, e1, e2⟩ := par_of j i ej
      obtain ⟨ys, y1, _⟩ := B.pars j xs e2
      rw [backs_in as dvs' ds i j ys nd ej y1, gt_refill] at h
      obtain ⟨d0, g1, g2, g3, _⟩ := E.lst e1
      rw [g1] at h
      rcases g3 with z | z
      · subst z
        simp only [if_true] at h
        cases h
      · subst z
        exact E.ps i xs g1
    · rw [backs_out as dvs' ds i hi] at h
      exact E.ps i zs h
  · obtain ⟨i, e1, e2⟩ := argDv_par ha e
    rw [padr_s e1] at q
    obtain ⟨d0, g1, g2, _⟩ := E.lst e2
    exact n i d0 g1 g2 q
theorem ArgVs.get {G : Hp} {pa : Nat → Addr} : ∀ {as : List AV} {vs : List V} {j : Nat} {a : AV}, ArgVs K G pa as vs → as[j]? = some a → ∃ v, vs[j]? = some v ∧ ArgV K G pa a v
  | [], _, j, a, _, e => by simp at e
  | a0 :: r, vs, 0, a, h, e => by
    obtain ⟨x, xs, e1, h1, h2⟩ := h
    have e : a0 = a := Option.some.inj e
    rw [e1, ← e]
    exact ⟨x, rfl, h1⟩
  | a0 :: r, vs, j + 1, a, h, e => by
    obtain ⟨x, xs, e1, h1, h2⟩ := h
    rw [e1]
    exact ArgVs.get (j := j) h2 e
/-- the call's promise from the slots' word -/
theorem Env.args {c : C0} {pa : Nat → Addr} {G H : Hp} {σ : L2.St} {ds : DS} {as : List AV} {dvs : List DV} {more : List D} {vs mv : List V} (E : Env K c pa G H σ ds) (ha : argDv ds as = some dvs) (nd : (slotsOf as).Nodup)
    (hv : ArgVs K G pa as vs) (hm : Reps K G more mv) : Args K G H (padr pa as) (vs ++ mv) (dvs ++ more.map DV.val) := by
  obtain ⟨a1, a2, a3⟩ := argDv_at ha
  have lv := hv.len
  refine ⟨?_, fun j dv e => ?_, fun j j' xs ys e e' n => ?_⟩
  · rw [List.length_append, List.length_append, List.length_map, a1, lv, hm.len]
  · by_cases hj : j < dvs.length
    · rw [List.getElem?_append_left hj] at e
      have hj2 : j < as.length := by omega
      rw [List.getElem?_append_left (by omega)]
      have ea : as[j]? = some as[j] := List.getElem?_eq_getElem hj2
      obtain ⟨v, e1, r⟩ := hv.get ea
      cases q : as[j] with
      | v d =>
        rw [q] at ea r
        rw [a2 j d ea] at e
        have e : DV.val d = dv := Option.some.inj e
        rw [← e]
        exact ⟨v, e1, r⟩
      | s i =>
        rw [q] at ea r
        obtain ⟨xs, e2, e3⟩ := a3 j i ea
        rw [e3] at e
        have e : DV.par xs = dv := Option.some.inj e
        rw [← e]
        obtain ⟨_, _, _, _, _, g5, _, g7⟩ := E.lst e2
        have r : v = .ref (pa i) := r
        rw [padr_s ea]
        exact ⟨by rw [e1, r], g5, g7⟩
    · rw [List.getElem?_append_right (by omega), List.getElem?_map] at e
      rw [List.getElem?_append_right (by omega)]
      have es : j - dvs.length = j - vs.length := by omega
      cases q : more[j - dvs.length]? with
      | none => rw [q] at e; cases e
      | some d =>
        rw [q] at e
        have e : DV.val d = dv := Option.some.inj e
        rw [← e]
        obtain ⟨v, e1, r⟩ := hm.get q
        rw [es] at e1
        exact ⟨v, e1, r⟩
  · obtain ⟨i, e1, e2⟩ := argDv_par ha e
    obtain ⟨i', e1', e2'⟩ := argDv_par ha e'
    rw [padr_s e1, padr_s e1']
    obtain ⟨d0, g1, g2, _⟩ := E.lst e2
    obtain ⟨d0', g1', g2', _⟩ := E.lst e2'
    exact E.inj i i' d0 d0' g1 g1' g2 g2' fun z => n (slots_inj nd e1 (z ▸ e1'))
/-- a call, whatever it hands back -/
theorem call_core {fs : FS} {as : List DA} {more : List D} {mv : List V} {ta : TA} (h : CAW K W ta as) (hm : ∀ G, Reps K G more mv) {c : C0} {pa : Nat → Addr} {G H : Hp} {σ : L2.St} {ds : DS} {xk : XKd} {kk : DV → DS → Prop} {Q : VK}
    (E : Env K c pa G H σ ds) (hw : wCallB fs as more xk ds kk) (hx : XOk K c W xk)
    (k : ∀ v G' H' r ds' (H0 : Hp), kk r ds' → Stp K c pa σ G H ds G' H' ds' → Res K H0 G' H' v r → (∀ a, H a ≠ none → H0 a ≠ none) → (∀ a, c.H0 a ≠ none → H0 a ≠ none) → (∀ i dv, gt ds' i = some dv → isO dv = true → H0 (pa i) ≠ none) → Q v H') :
    tCallSD (spOf K fs) mv (L2.WE W) ta σ H Q := by
  refine h c pa G H σ ds xk _ _ E hw hx fun vs G1 H1 avs ds1 q S1 r1 => ?_
  have E1 := S1.env
  cases ea : argDv ds1 avs with
  | none => rw [ea] at q; exact q.elim
  | some dvs =>
    rw [ea] at q
    obtain ⟨nd, q⟩ := q
    refine ⟨G1, padr pa avs, dvs ++ more.map DV.val, _, E1.ex, E1.args ea nd r1 (hm G1), q, fun v r dvs' G' H' hk B R => ?_, fun e cls d dvs' G' H' hk B X => ?_⟩
    · refine k v G' H' r _ H1 hk (S1.trans (E1.called ea nd B)) R S1.dom E1.dom fun i dv hi o => ?_
      by_cases hm : i ∈ slotsOf avs
      · obtain ⟨j, ej⟩ := slots_ix hm
        obtain ⟨xs, e1, _⟩ := (argDv_at ea).2.2 j i ej
        obtain ⟨d0, g1, g2, _⟩ := E1.lst e1
        exact E1.ownNe g1 g2
      · rw [backs_out avs dvs' ds1 i hm] at hi
        exact E1.ownNe hi o
    · exact hx e _ hk pa G' H' σ cls d (E1.called ea nd B).env X
theorem dv_val {r : DV} {P : D → Prop} {P2 : List D → Prop} (h : match r with | .val d => P d | .own xs => P2 xs | .par _ => False) : (∃ d, r = .val d ∧ P d) ∨ ∃ xs, r = .own xs ∧ P2 xs := by
  cases r with
  | val d => exact .inl ⟨d, rfl, h⟩
  | own xs => exact .inr ⟨xs, rfl, h⟩
  | par _ => exact h.elim
theorem ew_call {fs : FS} {as : List DA} {more : List D} {mv : List V} {ta : TA} (h : CAW K W ta as) (hm : ∀ G, Reps K G more mv) : EW K W (tCallSD (spOf K fs) mv (L2.WE W) ta) (wCall fs as more) := fun c pa G H σ ds xk kk Q E hw hx k => by
  refine call_core h hm E hw hx fun v G' H' r ds' H0 q S R ha hd hn => ?_
  cases r with
  | val d => exact k v G' H' d ds' q S R
  | own xs =>
    obtain ⟨p, rfl, p0, p1, hp⟩ := R
    have t : Tmp K c pa G' H' ds' p xs := ⟨p1, by
      cases z : c.H0 p with
      | none => rfl
      | some o => exact absurd p0 (hd p (by rw [z]; exact fun z => nomatch z)), hp, fun i dv hi o z => hn i dv hi o (z ▸ p0)⟩
    obtain ⟨G2, S2, r2⟩ := S.freeze t (by
      cases z : H p with
      | none => rfl
      | some o => exact absurd p0 (ha p (by rw [z]; exact fun z => nomatch z)))
    exact k _ G2 H' _ ds' q S2 r2
  | par _ => exact q.elim
theorem eo_call {fs : FS} {as : List DA} {more : List D} {mv : List V} {ta : TA} (h : CAW K W ta as) (hm : ∀ G, Reps K G more mv) : EO K W (tCallSD (spOf K fs) mv (L2.WE W) ta) (wCallO fs as more) := fun c pa G H σ ds xk kk Q E hw hx k => by
  refine call_core h hm E hw hx fun v G' H' r ds' H0 q S R ha hd hn => ?_
  cases r with
  | val d => exact (show False from q).elim
  | own xs =>
    obtain ⟨p, rfl, p0, p1, hp⟩ := R
    have t : Tmp K c pa G' H' ds' p xs := ⟨p1, by
      cases z : c.H0 p with
      | none => rfl
      | some o => exact absurd p0 (hd p (by rw [z]; exact fun z => nomatch z)), hp, fun i dv hi o z => hn i dv hi o (z ▸ p0)⟩
    refine k p G' H' xs ds' q S t ?_
    cases z : H p with
    | none => rfl
    | some o => exact absurd p0 (ha p (by rw [z]; exact fun z => nomatch z))
  | par _ => exact (show False from q).elim
end
end DW

/-! DwE: targets, statements, loops, comprehensions. -/
namespace DW
open PySem PySem.Spec PyProof.Rows L2

/-! ### walking a list or a tuple, whichever it is -/
def iSeq (K : PySem.W.Frag) (tl : TE) : TI := fun σ H R => tl σ H fun x H1 => ∃ a, x = .ref a ∧ ((∃ xs, SqL K H1 a xs) ∧ R (Itl K a) H1 ∨ (∃ xs, SqT K H1 a xs) ∧ R (Itt K a) H1)
theorem pi_seq {X : Cx} {tg l : Expr} {tl : TE} (hl : PE X l tl) : PI X tg l (iSeq X.K tl) := ⟨fun pins s σ H R I hw => thn (hl.run pins s σ H _ I hw) fun v s1 hv => by
  obtain ⟨x, H1, I1, rx, a, ex, hq⟩ := hv
  rw [ex] at rx
  have ev : v = Value.ref a := rx
  rw [ev]
  have inew : ∀ (t' : Nat) (ob : Obj), Inv X pins σ H1 { s1 with heap := s1.heap.push ob, toks := t' } := fun t' ob => I1.kept (fun b u z => Heap.get?_push_of_some _ z)
  have own1 : ∀ b ∈ [s1.heap.objs.size], FpOk X pins H1 b := fun b hb => by
    rw [List.mem_singleton.mp hb]
    exact I1.fpOk (Nat.le_refl _) (I1.hok.fresh (Nat.le_refl _))
  rcases hq with ⟨⟨ys, hy⟩, hR⟩ | ⟨⟨ys, hy⟩, hR⟩
  · obtain ⟨its, _, pl, _⟩ := I1.list hy
    exact wpAny_pyIter_list pl.isList ⟨_, _, _, _, H1, rfl, inew _ _, turn_list a _, ⟨_, Heap.get?_push_size _ rfl, rfl, rfl⟩, own1, hR⟩
  · obtain ⟨its, _, pl, _⟩ := I1.tuple hy
    exact wpAny_pyIter_tuple (show s1.heap.IsTuple a its.toArray from pl) ⟨_, _, _, _, H1, rfl, inew _ _, turn_tuple a _, ⟨_, Heap.get?_push_size _ rfl, rfl, rfl⟩, own1, hR⟩⟩

/-! ### wiped slots -/
theorem wipe_at : ∀ (vs : List Nat) (σ : L2.St) (j : Nat), (wipe σ vs)[j]? = if j ∈ vs then σ[j]?.map (fun _ => none) else σ[j]?
  | [], σ, j => by
    rw [if_neg (by simp)]
    rfl
  | v :: vs, σ, j => by
    show ((wipe σ vs).set v none)[j]? = _
    by_cases hj : v = j
    · subst hj
      rw [if_pos List.mem_cons_self]
      cases e : σ[v]? with
      | none =>
        have hl : (wipe σ vs).length ≤ v := by rw [wipe_length]; exact List.getElem?_eq_none_iff.mp e
        rw [List.getElem?_eq_none_iff.mpr (by rw [List.length_set]; exact hl)]
        rfl
      | some o =>
        have hl : v < (wipe σ vs).length := by rw [wipe_length]; exact (List.getElem?_eq_some_iff.mp e).1
        rw [List.getElem?_set_self hl]
        rfl
    · rw [set_get hj, wipe_at vs σ j]
      by_cases hm : j ∈ vs
      · rw [if_pos hm, if_pos (List.mem_cons_of_mem _ hm)]
      · rw [if_neg hm, if_neg (fun z => (List.mem_cons.mp z).elim (fun e => hj e.symm) hm)]
theorem wipe_set {σ : L2.St} {vs : List Nat} {i : Nat} {o : Option V} (h : i ∈ vs) : wipe (σ.set i o) vs = wipe σ vs := List.ext_getElem? fun j => by
  rw [wipe_at, wipe_at]
  by_cases hj : j ∈ vs
  · rw [if_pos hj, if_pos hj]
    by_cases e : i = j
    · subst e
      cases q : σ[i]? with
      | none => rw [List.getElem?_eq_none_iff.mpr (by rw [List.length_set]; exact List.getElem?_eq_none_iff.mp q)]
      | some u => rw [List.getElem?_set_self (List.getElem?_eq_some_iff.mp q).1]; rfl
    · rw [set_get e]
  · have n : i ≠ j := fun e => by
      rw [e] at h
      exact hj h
    rw [if_neg hj, if_neg hj, set_get n]
theorem wipe_wipe {σ : L2.St} {vs : List Nat} : wipe (wipe σ vs) vs = wipe σ vs := List.ext_getElem? fun j => by
  rw [wipe_at, wipe_at]
  by_cases hj : j ∈ vs
  · rw [if_pos hj, if_pos hj, Option.map_map]
    rfl
  · rw [if_neg hj, if_neg hj]

/-! ### targets -/
mutual
def tgn : Tg → List Nat
  | .nm i => [i]
  | .tp ts => tgns ts
def tgns : List Tg → List Nat
  | [] => []
  | t :: ts => tgn t ++ tgns ts
end
def GW (K : PySem.W.Frag) (g : TG) (tg : Tg) : Prop := ∀ (c : C0) pa G H σ ds v d (kk : DS → Prop) (Q : L2.St → Hp → Prop), Env K c pa G H σ ds → Rep K G d v → tga tg d ds kk →
  (∀ σ' ds', kk ds' → Env K c pa G H σ' ds' → (∀ vs, (∀ i ∈ tgn tg, i ∈ vs) → wipe σ' vs = wipe σ vs) → (∀ i dv, gt ds' i = some dv → isO dv = true → gt ds i = some dv) → Q σ' H) → g v σ H Q
def GWs (K : PySem.W.Frag) (g : TGs) (ts : List Tg) : Prop := ∀ (c : C0) pa G H σ ds vs l (kk : DS → Prop) (Q : L2.St → Hp → Prop), Env K c pa G H σ ds → Reps K G l vs → tgas ts l ds kk →
  (∀ σ' ds', kk ds' → Env K c pa G H σ' ds' → (∀ vs, (∀ i ∈ tgns ts, i ∈ vs) → wipe σ' vs = wipe σ vs) → (∀ i dv, gt ds' i = some dv → isO dv = true → gt ds i = some dv) → Q σ' H) → g vs σ H Q
section
variable {K : PySem.W.Frag} {W : WX} {ta tb te : TE} {a b : WE} {t u : TT} {wt wu : WT} {o : WO} {g : TG} {tg : Tg}
theorem gw_nm {i : Nat} : GW K (gName i) (.nm i) := fun c pa G H σ ds v d kk Q E r h k =>
  k _ _ h (E.setVal i r) (fun vs hv => wipe_set (hv i (List.mem_singleton.mpr rfl))) fun j dv q o => by
    rw [gt_st] at q
    by_cases hj : j = i ∧ i < ds.length
    · rw [if_pos hj] at q
      have q : DV.val d = dv := Option.some.inj q
      subst q
      cases o
    · rw [if_neg hj] at q
      exact q
theorem gws_nil : GWs K gNil [] := fun c pa G H σ ds vs l kk Q E r h k => by
  cases l with
  | nil => exact ⟨r, k σ ds h E (fun _ _ => rfl) fun _ _ q _ => q⟩
  | cons d l => exact (show False from h).elim
theorem gws_cons {gs : TGs} {ts : List Tg} (h1 : GW K g tg) (h2 : GWs K gs ts) : GWs K (gCons g gs) (tg :: ts) := fun c pa G H σ ds vs l kk Q E r h k => by
  cases l with
  | nil => exact (show False from h).elim
  | cons d l =>
    obtain ⟨x, xs, e, r1, r2⟩ := r
    refine ⟨x, xs, e, h1 c pa G H σ ds x d _ _ E r1 h fun σ1 ds1 q E1 w1 n1 => h2 c pa G H σ1 ds1 xs l _ _ E1 r2 q fun σ2 ds2 q2 E2 w2 n2 => k σ2 ds2 q2 E2 (fun vs hv => ?_) fun i dv q o => n1 i dv (n2 i dv q o) o⟩
    rw [w2 vs fun i hi => hv i (List.mem_append_right _ hi), w1 vs fun i hi => hv i (List.mem_append_left _ hi)]
theorem tgas_len : ∀ {ts : List Tg} {l : List D} {ds : DS} {kk : DS → Prop}, tgas ts l ds kk → (∀ {t : Tg} {d : D} {ds : DS} {kk : DS → Prop}, tga t d ds kk → ∃ ds', kk ds') → l.length = ts.length
  | [], [], _, _, _, _ => rfl
  | [], _ :: _, _, _, h, _ => (show False from h).elim
  | _ :: _, [], _, _, h, _ => (show False from h).elim
  | t :: ts, d :: l, ds, kk, h, hh => by
    obtain ⟨ds1, q⟩ := hh (show tga t d ds (fun ds1 => tgas ts l ds1 kk) from h)
    rw [List.length_cons, List.length_cons, tgas_len q hh]
mutual
theorem tga_ex : ∀ {t : Tg} {d : D} {ds : DS} {kk : DS → Prop}, tga t d ds kk → ∃ ds', kk ds'
  | .nm i, d, ds, kk, h => ⟨_, h⟩
  | .tp ts, .tup xs, ds, kk, h => tgas_ex (ts := ts) h
  | .tp _, .non, _, _, h => h.elim
  | .tp _, .bl _, _, _, h => h.elim
  | .tp _, .int _, _, _, h => h.elim
  | .tp _, .str _, _, _, h => h.elim
  | .tp _, .lst _, _, _, h => h.elim
  | .tp _, .obj _, _, _, h => h.elim
  | .tp _, .dct _ _, _, _, h => h.elim
  | .tp _, .at _ _, _, _, h => h.elim
theorem tgas_ex : ∀ {ts : List Tg} {l : List D} {ds : DS} {kk : DS → Prop}, tgas ts l ds kk → ∃ ds', kk ds'
  | [], [], ds, kk, h => ⟨_, h⟩
  | [], _ :: _, _, _, h => (show False from h).elim
  | _ :: _, [], _, _, h => (show False from h).elim
  | t :: ts, d :: l, ds, kk, h => by
    obtain ⟨ds1, q⟩ := tga_ex (t := t) (show tga t d ds (fun ds1 => tgas ts l ds1 kk) from h)
    exact tgas_ex (ts := ts) q
end
theorem gw_tp {gs : TGs} {ts : List Tg} {n : Nat} (h : GWs K gs ts) (hn : ts.length = n := by rfl) : GW K (gTup K n gs) (.tp ts) := fun c pa G H σ ds v d kk Q E r hw k => by
  cases d with
  | tup xs =>
    obtain ⟨a, ys, e, h1, h2⟩ := r
    have hw : tgas ts xs ds kk := hw
    exact ⟨a, ys, e, Same.t E.ex h1, by rw [← h2.len, tgas_len hw tga_ex, hn], h c pa G H σ ds ys xs kk Q E h2 hw k⟩
  | _ => exact (show False from hw).elim

/-! ### statements -/
def ResS (K : PySem.W.Frag) (c : C0) (pa : Nat → Addr) (G H : Hp) (ds : DS) (v : V) : DV → Prop
  | .val d => Rep K G d v
  | .own xs => ∃ p, v = .ref p ∧ Tmp K c pa G H ds p xs
  | .par _ => False
structure EndsOk (K : PySem.W.Frag) (c : C0) (P : Post) (D : Ends) : Prop where
  nx : ∀ pa G H σ ds, P.nx ds → Env K c pa G H σ ds → D.nx σ H
  rt : ∀ pa G H σ ds v r, P.rt r ds → Env K c pa G H σ ds → ResS K c pa G H ds v r → D.rt v H
  bk : ∀ pa G H σ ds, P.bk ds → Env K c pa G H σ ds → D.bk σ H
  ct : ∀ pa G H σ ds, P.ct ds → Env K c pa G H σ ds → D.ct σ H
def SW (K : PySem.W.Frag) (W : WX) (ts : TS) (w : WS) : Prop := ∀ (c : C0) pa G H σ ds P D, Env K c pa G H σ ds → w ds P → XOk K c W P.x → EndsOk K c P D → ts D σ H
theorem sw_next : SW K W tNext wNext := fun c pa G H σ ds P D E hw hx he => he.nx pa G H σ ds hw E
theorem sw_seq {t1 t2 : TS} {w1 w2 : WS} (h1 : SW K W t1 w1) (h2 : SW K W t2 w2) : SW K W (tSeq t1 t2) (wSeq w1 w2) := fun c pa G H σ ds P D E hw hx he =>
  h1 c pa G H σ ds _ _ E hw hx ⟨fun pa G H σ ds q E => h2 c pa G H σ ds P D E q hx he, he.rt, he.bk, he.ct⟩
theorem sw_asg (h1 : EW K W te a) (h2 : GW K g tg) : SW K W (tAsg te g) (wAsg a tg) := fun c pa G H σ ds P D E hw hx he =>
  h1 c pa G H σ ds _ _ _ E hw hx fun v G1 H1 d ds1 q S1 r1 => h2 c pa G1 H1 σ ds1 v d _ _ S1.env r1 q fun σ2 ds2 q2 E2 _ _ => he.nx pa G1 H1 σ2 ds2 q2 E2
theorem sw_asgO {i : Nat} (h1 : EO K W te o) : SW K W (tAsg te (gName i)) (wAsgO o i) := fun c pa G H σ ds P D E hw hx he =>
  h1 c pa G H σ ds _ _ _ E hw hx fun p G1 H1 xs ds1 q S1 t1 n1 => he.nx _ G1 H1 _ _ q (S1.env.setOwn i t1)
theorem sw_par {i j : Nat} (h1 : EW K W ta a) (h2 : EW K W tb b) : SW K W (tPar i j (tCons ta (tCons tb tNil))) (wPar i j a b) := fun c pa G H σ ds P D E hw hx he =>
  h1 c pa G H σ ds _ _ _ E hw hx fun v G1 H1 d ds1 q S1 r1 => h2 c pa G1 H1 σ ds1 _ _ _ S1.env q hx fun w G2 H2 e ds2 q2 S2 r2 =>
    ⟨v, w, rfl, he.nx pa G2 H2 _ _ q2 ((S2.env.setVal i (r1.mono S2.sg)).setVal j r2)⟩
theorem sw_ret (h1 : EW K W te a) : SW K W (tRet te) (wRet a) := fun c pa G H σ ds P D E hw hx he =>
  h1 c pa G H σ ds _ _ _ E hw hx fun v G1 H1 d ds1 q S1 r1 => he.rt pa G1 H1 σ ds1 v _ q S1.env r1
theorem sw_retN : SW K W tRetN wRetN := fun c pa G H σ ds P D E hw hx he => he.rt pa G H σ ds .non _ hw E rfl
theorem sw_retO (h1 : EO K W te o) : SW K W (tRet te) (wRetO o) := fun c pa G H σ ds P D E hw hx he =>
  h1 c pa G H σ ds _ _ _ E hw hx fun p G1 H1 xs ds1 q S1 t1 n1 => he.rt pa G1 H1 σ ds1 _ _ q S1.env ⟨p, rfl, t1⟩
theorem sw_retS {i : Nat} : SW K W (tRet (tVar i)) (wRetS i) := fun c pa G H σ ds P D E hw hx he => by
  have hw : (match gt ds i with | some (.own xs) => P.rt (.own xs) (er ds i) | _ => False) := hw
  cases e : gt ds i with
  | none => rw [e] at hw; exact hw.elim
  | some dv =>
    rw [e] at hw
    cases dv with
    | own xs =>
      obtain ⟨e1, g, h0, hv⟩ := E.sl i _ e
      refine ⟨_, e1, he.rt pa G H σ _ _ _ hw (E.drop i) ⟨_, rfl, g, h0, hv, fun j dv q oo => ?_⟩⟩
      rw [gt_er] at q
      by_cases hj : j = i
      · rw [if_pos hj] at q
        cases q
      · rw [if_neg hj] at q
        exact E.inj j i dv _ q e oo rfl hj
    | _ => exact hw.elim
theorem sw_if {t1 t2 : TS} {w1 w2 : WS} (h : TW K W t wt) (h1 : SW K W t1 w1) (h2 : SW K W t2 w2) : SW K W (tIfS t t1 t2) (wIfS wt w1 w2) := fun c pa G H σ ds P D E hw hx he =>
  h c pa G H σ ds _ _ _ E hw hx fun v G1 H1 ds1 q S1 => by
    cases v with
    | true =>
      rw [if_pos rfl] at q ⊢
      exact h1 c pa G1 H1 σ ds1 P D S1.env q hx he
    | false =>
      rw [if_neg Bool.false_ne_true] at q ⊢
      exact h2 c pa G1 H1 σ ds1 P D S1.env q hx he
theorem sw_drop (h1 : EW K W te a) : SW K W (tDrop te) (wDrop a) := fun c pa G H σ ds P D E hw hx he =>
  h1 c pa G H σ ds _ _ _ E hw hx fun v G1 H1 d ds1 q S1 r1 => he.nx pa G1 H1 σ ds1 q S1.env
theorem sw_brk : SW K W tBreak wBrk := fun c pa G H σ ds P D E hw hx he => he.bk pa G H σ ds hw E
theorem sw_cont : SW K W tCont wCont := fun c pa G H σ ds P D E hw hx he => he.ct pa G H σ ds hw E
theorem sw_never {ts : TS} : SW K W ts wNever := fun c pa G H σ ds P D E hw hx he => hw.elim
theorem int_list {n : D} {m : Option (List D)} {P : Int → List D → Prop} (h : match n, m with | .int n, some xs => P n xs | _, _ => False) : ∃ i xs, n = .int i ∧ m = some xs ∧ P i xs := by
  cases n with
  | int i =>
    cases m with
    | none => exact h.elim
    | some xs => exact ⟨i, xs, rfl, rfl, h⟩
  | _ => exact h.elim
/-- xs[e] = v, the list in slot i -/
theorem sw_set {i : Nat} (h1 : EW K W ta a) (h2 : EW K W tb b) : SW K W (tAsg ta (gSub (tVar i) tb rSetL)) (wSet i b a) := fun c pa G H σ ds P D E hw hx he =>
  h1 c pa G H σ ds _ _ _ E hw hx fun v G1 H1 d ds1 q S1 r1 => by
    obtain ⟨q0, q⟩ := q
    obtain ⟨zs, hz⟩ := isSome_at q0
    refine ⟨_, own_ref S1.env hz, h2 c pa G1 H1 σ ds1 _ _ _ S1.env q hx fun y G2 H2 n ds2 q2 S2 r2 => ?_⟩
    obtain ⟨j, xs, rfl, hxs, ⟨j0, j1⟩, q2⟩ := int_list q2
    obtain ⟨_, _, _, _, _, _, _, vs, hh, rr⟩ := S2.env.lst hxs
    have r2 : y = .int j := r2
    refine ⟨pa i, vs, j, j.toNat, rfl, r2, hh, ?_, he.nx pa G2 _ σ _ q2 (S2.env.write hxs (rr.set j.toNat (r1.mono S2.sg)))⟩
    unfold ixN
    rw [if_pos j0, if_pos (by rw [← rr.len]; exact j1)]
/-- xs.append(v), the list in slot i -/
theorem sw_app {i : Nat} (h1 : EW K W ta a) : SW K W (tDrop (tBM K "list" rAppend (tVar i) (tCons ta tNil))) (wApp i a) := fun c pa G H σ ds P D E hw hx he => by
  obtain ⟨q0, hw⟩ := hw
  obtain ⟨zs, hz⟩ := isSome_at q0
  obtain ⟨_, _, _, _, _, _, _, vs0, hh0, _⟩ := E.lst hz
  refine ⟨_, own_ref E hz, .inl ⟨rfl, vs0, SqL.of hh0⟩, h1 c pa G H σ ds _ _ _ E hw hx fun v G1 H1 d ds1 q S1 r1 => ?_⟩
  obtain ⟨xs, hxs, hl, q⟩ := listAt_some q
  obtain ⟨_, _, _, _, _, _, _, vs, hh, rr⟩ := S1.env.lst hxs
  refine ⟨pa i, vs, v, rfl, rfl, hh, ?_, he.nx pa G1 _ σ _ q (S1.env.write hxs (rr.app r1))⟩
  rw [← rr.len]
  exact Nat.lt_of_lt_of_le hl (by decide)
theorem ew_ixO {i : Nat} (h : EW K W tb b) : EW K W (tOp (fun x y H Q => rIxL K x y H Q ∨ rIxT K x y H Q ∨ rIxS x y H Q) (tVar i) tb) (wIxO i b) := fun c pa G H σ ds xk kk Q E hw hx k => by
  obtain ⟨q0, hw⟩ := hw
  obtain ⟨zs, hz⟩ := isSome_at q0
  refine ⟨_, own_ref E hz, h c pa G H σ ds _ _ _ E hw hx fun y G1 H1 n ds1 q S1 r1 => ?_⟩
  obtain ⟨j, xs, rfl, hxs, q⟩ := int_list q
  obtain ⟨_, _, _, _, _, _, _, vs, hh, rr⟩ := S1.env.lst hxs
  have r1 : y = .int j := r1
  cases e : itemAt xs j with
  | none => rw [e] at q; exact q.elim
  | some z =>
    rw [e] at q
    obtain ⟨v, e1, rv⟩ := rr.item e
    exact .inl ⟨pa i, vs, j, v, rfl, r1, SqL.of hh, e1, k v G1 H1 z ds1 q S1 rv⟩
/-- len of the list in slot i -/
theorem ew_lenO {i : Nat} : EW K W (tCB (fun xs H Q => ∃ x n, xs = [x] ∧ LenV K x H n ∧ Q (.int n) H) (tCons (tVar i) tNil)) (wLenO i) := fun c pa G H σ ds xk kk Q E hw hx k => by
  obtain ⟨xs, hxs, q⟩ := listAt_some (P := fun xs => kk (.int xs.length) ds) hw
  obtain ⟨_, _, _, _, _, _, _, vs, hh, rr⟩ := E.lst hxs
  refine ⟨_, own_ref E hxs, _, vs.length, rfl, .inl ⟨vs, SqL.of hh, rfl⟩, k _ G H _ ds q (.refl E) ?_⟩
  show V.int vs.length = V.int xs.length
  rw [rr.len]
/-- x op= e -/
theorem sw_aug {i : Nat} {ti : TIp} {f : B2} (hf : RW2 K ti f) (h : EW K W te a) : SW K W (tAug i te ti) (wAug i f a) := fun c pa G H σ ds P D E hw hx he => by
  have hw : (match gt ds i with
    | some (.val u) => a P.x ds fun v ds1 => f u v fun z => P.nx (st ds1 i (.val z))
    | _ => False) := hw
  cases e : gt ds i with
  | none => rw [e] at hw; exact hw.elim
  | some dv =>
    rw [e] at hw
    cases dv with
    | val u =>
      obtain ⟨x, e1, r0⟩ := E.val e
      refine ⟨x, e1, h c pa G H σ ds _ _ _ E hw hx fun y G1 H1 v ds1 q S1 r1 => ?_⟩
      exact hf G1 H1 x y u v _ _ S1.env.ex (r0.mono S1.sg) r1 q fun z w hz rz => he.nx pa G1 H1 _ _ hz (S1.env.setVal i rz)
    | _ => exact hw.elim
/-! ### loops -/
theorem sw_while {tbd : TS} {wb : WS} (h : TW K W t wt) (hb : SW K W tbd wb) : SW K W (tWhile t tbd) (wWhile wt wb) := fun c pa G H σ ds P D E hw hx he => by
  obtain ⟨I, ⟨m0, h0⟩, hs⟩ := hw
  refine ⟨fun m σ H => ∃ pa G ds, I m ds ∧ Env K c pa G H σ ds, ⟨m0, pa, G, ds, h0, E⟩, fun m σ1 H1 ⟨pa1, G1, ds1, i1, E1⟩ => ?_⟩
  refine h c pa1 G1 H1 σ1 ds1 _ _ _ E1 (hs m ds1 i1) hx fun v G2 H2 ds2 q S2 => ?_
  cases v with
  | true =>
    rw [if_pos rfl] at q ⊢
    refine ⟨fun σ H => ∃ pa G ds, (∃ m', m' < m ∧ I m' ds) ∧ Env K c pa G H σ ds, fun σ' H' ⟨pa', G', ds', ⟨m', l, i'⟩, E'⟩ => ⟨m', l, pa', G', ds', i', E'⟩, ?_⟩
    exact hb c pa1 G2 H2 σ1 ds2 _ _ S2.env q hx ⟨fun pa G H σ ds q E => ⟨pa, G, ds, q, E⟩, he.rt, he.nx, fun pa G H σ ds q E => ⟨pa, G, ds, q, E⟩⟩
  | false =>
    rw [if_neg Bool.false_ne_true] at q ⊢
    exact he.nx pa1 G2 H2 σ1 ds2 q S2.env
theorem items_some {d : D} {P : List D → Prop} (h : match items d with | some xs => P xs | none => False) : ∃ xs, (core d = .lst xs ∨ core d = .tup xs) ∧ P xs := by
  cases d with
  | lst xs => exact ⟨xs, .inl rfl, h⟩
  | tup xs => exact ⟨xs, .inr rfl, h⟩
  | «at» a d =>
    cases d with
    | lst xs => exact ⟨xs, .inl rfl, h⟩
    | tup xs => exact ⟨xs, .inr rfl, h⟩
    | _ => exact (show False from h).elim
  | _ => exact (show False from h).elim
/-- the call's ground, what stands still by now taken in -/
def C0.at_ (c : C0) (G : Hp) : C0 := { c with G0 := G }
theorem Env.into {c : C0} {pa : Nat → Addr} {G H : Hp} {σ : L2.St} {ds : DS} (E : Env K c pa G H σ ds) : Env K (c.at_ G) pa G H σ ds := ⟨E.ex, E.fr, E.dom, fun _ _ q => q, fun _ _ => rfl, E.len, fun i dv h => by
  have s := E.sl i dv h
  cases dv <;> exact s, E.inj, E.ps⟩
theorem Env.out {c : C0} {pa pa' : Nat → Addr} {G G1 H H1 : Hp} {σ σ1 : L2.St} {ds ds1 : DS} (E : Env K c pa G H σ ds) (F : Env K (c.at_ G) pa' G1 H1 σ1 ds1) : Env K c pa' G1 H1 σ1 ds1 :=
  ⟨F.ex, F.fr, F.dom, E.ge.trans F.ge, fun a h => (F.gf a h).trans (E.gf a h), F.len, fun i dv h => by
    have s := F.sl i dv h
    cases dv <;> exact s, F.inj, F.ps⟩
theorem XOk.into {c : C0} {pa : Nat → Addr} {G H : Hp} {σ : L2.St} {ds : DS} {xk : XKd} (E : Env K c pa G H σ ds) (h : XOk K c W xk) : XOk K (c.at_ G) W xk := fun e ds q pa G1 H1 σ1 cls d F X => h e ds q pa G1 H1 σ1 cls d (E.out F) X
theorem EndsOk.into {c : C0} {pa : Nat → Addr} {G H : Hp} {σ : L2.St} {ds : DS} {P : Post} {D : Ends} (E : Env K c pa G H σ ds) (h : EndsOk K c P D) : EndsOk K (c.at_ G) P D where
  nx := fun pa G1 H1 σ1 ds1 q F => h.nx pa G1 H1 σ1 ds1 q (E.out F)
  bk := fun pa G1 H1 σ1 ds1 q F => h.bk pa G1 H1 σ1 ds1 q (E.out F)
  ct := fun pa G1 H1 σ1 ds1 q F => h.ct pa G1 H1 σ1 ds1 q (E.out F)
  rt := fun pa G1 H1 σ1 ds1 v r q F R => h.rt pa G1 H1 σ1 ds1 v r q (E.out F) (by
    cases r with
    | val d => exact R
    | own xs =>
      obtain ⟨p, e, t⟩ := R
      exact ⟨p, e, t.g, t.h0, t.here, t.ne⟩
    | par xs => exact R)
theorem sw_for {tbd : TS} {wb : WS} (h : EW K W te a) (hg : GW K g tg) (hb : SW K W tbd wb) : SW K W (tFor (iSeq K te) g tbd) (wFor a tg wb) := fun c pa G H σ ds P D E hw hx he =>
  h c pa G H σ ds _ _ _ E hw hx fun v G1 H1 d ds1 q S1 r1 => by
    obtain ⟨xs, hd, I, i0, is, ie⟩ := items_some q
    have E1 := S1.env
    have hx1 := hx.into E1
    have he1 := he.into E1
    have body : ∀ (vs : List V) (i : Nat) (x : V) (σ2 : L2.St) (H2 : Hp), Reps K G1 xs vs → vs[i]? = some x → (∃ pa G ds, I i ds ∧ Env K (c.at_ G1) pa G H2 σ2 ds) →
        g x σ2 H2 fun σ3 H3 => tbd { D with nx := fun σ H => ∃ pa G ds, I (i + 1) ds ∧ Env K (c.at_ G1) pa G H σ ds, ct := fun σ H => ∃ pa G ds, I (i + 1) ds ∧ Env K (c.at_ G1) pa G H σ ds, bk := D.nx } σ3 H3 := by
      rintro vs i x σ2 H2 rv ex ⟨pa2, G2, ds2, i2, E2⟩
      obtain ⟨d2, ed, rd⟩ := rv.gev ex
      refine hg _ pa2 G2 H2 σ2 ds2 x d2 _ _ E2 (rd.mono E2.ge) (is i d2 ds2 ed i2) fun σ3 ds3 q3 E3 _ _ => ?_
      exact hb _ pa2 G2 H2 σ3 ds3 _ _ E3 q3 hx1 ⟨fun pa G H σ ds q E => ⟨pa, G, ds, q, E⟩, he1.rt, he1.nx, fun pa G H σ ds q E => ⟨pa, G, ds, q, E⟩⟩
    have done : ∀ (vs : List V) (σ2 : L2.St) (H2 : Hp), Reps K G1 xs vs → (∃ pa G ds, I vs.length ds ∧ Env K (c.at_ G1) pa G H2 σ2 ds) → D.nx σ2 H2 := by
      rintro vs σ2 H2 rv ⟨pa2, G2, ds2, i2, E2⟩
      rw [← rv.len] at i2
      exact he1.nx pa2 G2 H2 σ2 ds2 (ie ds2 i2) E2
    have r1 := r1.core
    rcases hd with z | z
    · rw [z] at r1
      obtain ⟨p, vs, ev, hs, rv⟩ := r1
      refine ⟨p, ev, .inl ⟨⟨vs, L2.Same.seq E1.ex hs⟩, ?_⟩⟩
      exact for_list (xs := vs) (fun i σ H => ∃ pa G ds, I i ds ∧ Env K (c.at_ G1) pa G H σ ds) ⟨pa, G1, ds1, i0, E1.into⟩ (fun i σ2 H2 _ ⟨_, _, _, _, F⟩ => L2.Same.seq (F.ge.trans F.ex) hs)
        (fun i x σ2 H2 ex hp => body vs i x σ2 H2 rv ex hp) (fun σ2 H2 hp => done vs σ2 H2 rv hp)
    · rw [z] at r1
      obtain ⟨p, vs, ev, hs, rv⟩ := r1
      refine ⟨p, ev, .inr ⟨⟨vs, Same.t E1.ex hs⟩, ?_⟩⟩
      exact for_tup (xs := vs) (fun i σ H => ∃ pa G ds, I i ds ∧ Env K (c.at_ G1) pa G H σ ds) ⟨pa, G1, ds1, i0, E1.into⟩ (fun i σ2 H2 _ ⟨_, _, _, _, F⟩ => Same.t (F.ge.trans F.ex) hs)
        (fun i x σ2 H2 ex hp => body vs i x σ2 H2 rv ex hp) (fun σ2 H2 hp => done vs σ2 H2 rv hp)
/-! ranges -/
theorem rangeD_at {lo hi : Int} {i : Nat} (h : i < (hi - lo).toNat) : (rangeD lo hi)[i]? = some (.int (lo + (i : Nat))) := by
  unfold rangeD
  rw [List.getElem?_map, List.getElem?_range h]
  rfl
theorem rangeD_len {lo hi : Int} : (rangeD lo hi).length = (hi - lo).toNat := by
  unfold rangeD
  rw [List.length_map, List.length_range]
theorem sw_range {tbd : TS} {wb : WS} {c : C0} {pa : Nat → Addr} {G H : Hp} {σ : L2.St} {ds : DS} {P : Post} {D : Ends} {lo hi : Int} (hg : GW K g tg) (hb : SW K W tbd wb) (E : Env K c pa G H σ ds) (hw : forI tg wb P (rangeD lo hi) ds) (hx : XOk K c W P.x) (he : EndsOk K c P D) :
    ∃ W : Nat → Nat → L2.St → Hp → Prop, (∃ m, W 0 m σ H) ∧ ∀ i m σ H, W i m σ H →
      ((Itr lo (hi - lo).toNat).stop i H ∧ D.nx σ H) ∨ ((Itr lo (hi - lo).toNat).go i H ∧ ∃ N : L2.St → Hp → Prop, (∀ σ' H', N σ' H' → ∃ m', m' < m ∧ W (i + 1) m' σ' H') ∧ ∀ x H', (Itr lo (hi - lo).toNat).yld i H x H' → g x σ H' fun σ2 H2 => tbd { D with nx := N, ct := N, bk := D.nx } σ2 H2) := by
  obtain ⟨I, i0, is, ie⟩ := hw
  refine for_range (lo := lo) (n := (hi - lo).toNat) (fun i σ H => ∃ pa G ds, I i ds ∧ Env K c pa G H σ ds) ⟨pa, G, ds, i0, E⟩ ?_ ?_
  · rintro i σ2 H2 hi ⟨pa2, G2, ds2, i2, E2⟩
    refine hg _ pa2 G2 H2 σ2 ds2 _ (.int (lo + (i : Nat))) _ _ E2 rfl (is i _ ds2 (rangeD_at hi) i2) fun σ3 ds3 q3 E3 _ _ => ?_
    exact hb _ pa2 G2 H2 σ3 ds3 _ _ E3 q3 hx ⟨fun pa G H σ ds q E => ⟨pa, G, ds, q, E⟩, he.rt, he.nx, fun pa G H σ ds q E => ⟨pa, G, ds, q, E⟩⟩
  · rintro σ2 H2 ⟨pa2, G2, ds2, i2, E2⟩
    rw [← rangeD_len (lo := lo) (hi := hi)] at i2
    exact he.nx pa2 G2 H2 σ2 ds2 (ie ds2 i2) E2
theorem sw_forR1 {tbd : TS} {wb : WS} (h : EW K W te a) (hg : GW K g tg) (hb : SW K W tbd wb) : SW K W (tFor (iRng1 (tCons te tNil)) g tbd) (wForR [a] tg wb) := fun c pa G H σ ds P D E hw hx he =>
  h c pa G H σ ds _ _ _ E hw hx fun v G1 H1 d ds1 q S1 r1 => by
    cases d with
    | int n =>
      obtain ⟨⟨_, h1, h2⟩, q⟩ := q
      have z := sw_range hg hb S1.env q hx he
      rw [Int.sub_zero] at z
      exact ⟨n, by rw [show v = V.int n from r1], h1, h2, z⟩
    | _ => exact (show False from q).elim
theorem sw_forR2 {tbd : TS} {wb : WS} (h : EW K W ta a) (h' : EW K W tb b) (hg : GW K g tg) (hb : SW K W tbd wb) : SW K W (tFor (iRng2 (tCons ta (tCons tb tNil))) g tbd) (wForR [a, b] tg wb) := fun c pa G H σ ds P D E hw hx he =>
  h c pa G H σ ds _ _ _ E hw hx fun v G1 H1 d ds1 q S1 r1 => h' c pa G1 H1 σ ds1 _ _ _ S1.env q hx fun v2 G2 H2 d2 ds2 q2 S2 r2 => by
    cases d with
    | int m =>
      cases d2 with
      | int n =>
        obtain ⟨⟨⟨h3, h4⟩, h1, h2⟩, q⟩ := q2
        exact ⟨m, n, by rw [show v = V.int m from r1, show v2 = V.int n from r2], ⟨h3, h4, h1, h2⟩, sw_range hg hb S2.env q hx he⟩
      | _ => exact (show False from q2).elim
    | _ => exact (show False from q2).elim
end
end DW

/-! DwF: comprehensions, operations, a def's body. -/
namespace DW
open PySem PySem.Spec PyProof.Rows L2

/-- nothing is wanted of exceptions: there are none -/
def Wn : WX := fun _ _ _ _ => False
section
variable {K : PySem.W.Frag} {W : WX} {ta tb te tx : TE} {a b e : WE} {t u : TT} {wt wu : WT} {o : WO} {g : TG} {tg : Tg}
theorem gt_ers {ds : DS} : ∀ (vs : List Nat) (i : Nat), gt (ers ds vs) i = if i ∈ vs then none else gt ds i
  | [], i => by
    rw [if_neg (by simp)]
    rfl
  | v :: vs, i => by
    show gt (er (ers ds vs) v) i = _
    rw [gt_er, gt_ers vs i]
    by_cases h : i = v
    · rw [if_pos h, if_pos (by rw [h]; exact List.mem_cons_self)]
    · by_cases h2 : i ∈ vs
      · rw [if_neg h, if_pos h2, if_pos (List.mem_cons_of_mem _ h2)]
      · rw [if_neg h, if_neg h2, if_neg (fun z => (List.mem_cons.mp z).elim h h2)]
theorem ers_len {ds : DS} : ∀ vs : List Nat, (ers ds vs).length = ds.length
  | [] => rfl
  | v :: vs => by
    show (er (ers ds vs) v).length = _
    rw [len_er, ers_len vs]
/-- the block's slots are its own: outside of it the slots are as they were -/
theorem Env.unwipe {c : C0} {pa : Nat → Addr} {G H : Hp} {σ : L2.St} {ds : DS} {vs : List Nat} (E : Env K c pa G H (wipe σ vs) (ers ds vs)) : Env K c pa G H σ (ers ds vs) := ⟨E.ex, E.fr, E.dom, E.ge, E.gf, by
    have := E.len
    rw [wipe_length] at this
    exact this, fun i dv h => by
    have s := E.sl i dv h
    rw [gt_ers] at h
    by_cases q : i ∈ vs
    · rw [if_pos q] at h
      cases h
    · rw [wipe_at, if_neg q] at s
      exact s, E.inj, E.ps⟩
/-- what one comprehension keeps between its turns -/
def CInv (K : PySem.W.Frag) (c : C0) (pa : Nat → Addr) (σ : L2.St) (vs : List Nat) (G0 H0 : Hp) (ds0 : DS) (I : Nat → List D → DS → Prop) (Dl : Addr) (i : Nat) (H : Hp) : Prop :=
  ∃ G ds acc, I i acc ds ∧ Stp K c pa (wipe σ vs) G0 H0 ds0 G H (ers ds vs) ∧ Tmp K c pa G H (ers ds vs) Dl acc
/-- a list that no slot holds is written -/
theorem Env.tmpWrite {c : C0} {pa : Nat → Addr} {G H : Hp} {σ : L2.St} {ds : DS} {p : Addr} {xs ys : List D} {ws : List V} (E : Env K c pa G H σ ds) (T : Tmp K c pa G H ds p xs) (r : Reps K G ys ws) :
    Env K c pa G (upd H p (.lst ws)) σ ds ∧ Tmp K c pa G (upd H p (.lst ws)) ds p ys := by
  refine ⟨⟨fun a o q => ?_, fun a o q w => ?_, fun a q => ?_, E.ge, E.gf, E.len, fun i dv h => ?_, E.inj, E.ps⟩, T.g, T.h0, ⟨ws, upd_same, r⟩, T.ne⟩
  · rw [upd_ne (ne_of_none q T.g)]
    exact E.ex a o q
  · rw [upd_ne (ne_of_none q T.h0)]
    exact E.fr a o q w
  · by_cases n : a = p
    · rw [n, upd_same]
      exact fun z => nomatch z
    · rw [upd_ne n]
      exact E.dom a q
  · have s := E.sl i dv h
    cases o : isO dv with
    | false =>
      cases dv with
      | val d => exact s
      | own _ => cases o
      | par _ => cases o
    | true =>
      have n : pa i ≠ p := T.ne i dv h o
      cases dv with
      | val d => exact s
      | own zs =>
        obtain ⟨s1, s2, s3, zvs, s4, s5⟩ := s
        exact ⟨s1, s2, s3, zvs, by rw [upd_ne n]; exact s4, s5⟩
      | par zs =>
        obtain ⟨s1, s2, s3, zvs, s4, s5⟩ := s
        exact ⟨s1, s2, s3, zvs, by rw [upd_ne n]; exact s4, s5⟩
theorem Tmp.less {c : C0} {pa : Nat → Addr} {G H : Hp} {ds ds' : DS} {p : Addr} {xs : List D} (T : Tmp K c pa G H ds p xs) (h : ∀ i dv, gt ds' i = some dv → isO dv = true → ∃ d0, gt ds i = some d0 ∧ isO d0 = true) : Tmp K c pa G H ds' p xs :=
  ⟨T.g, T.h0, T.here, fun i dv q o => by
    obtain ⟨d0, q0, o0⟩ := h i dv q o
    exact T.ne i d0 q0 o0⟩
theorem ers_less {ds : DS} {vs : List Nat} : ∀ i dv, gt (ers ds vs) i = some dv → isO dv = true → ∃ d0, gt ds i = some d0 ∧ isO d0 = true := fun i dv q o => by
  rw [gt_ers] at q
  by_cases h : i ∈ vs
  · rw [if_pos h] at q
    cases q
  · rw [if_neg h] at q
    exact ⟨dv, q, o⟩
/-- a turn of it -/
theorem comp_turn {c : C0} {pa : Nat → Addr} {σ : L2.St} {vs : List Nat} {G0 H0 : Hp} {ds0 : DS} {I : Nat → List D → DS → Prop} {Dl : Addr} {i : Nat} {H : Hp} {x : V} {d : D} {xk : XKd} (hg : GW K g tg) (ht : TW K Wn t wt) (he : EW K Wn te e) (hn : ∀ j ∈ tgn tg, j ∈ vs) (hx : XOk K c Wn xk)
    (hD : H0 Dl = none) (hi : CInv K c pa σ vs G0 H0 ds0 I Dl i H) (r : Rep K G0 d x)
    (hs : ∀ acc ds, I i acc ds → tga tg d (ers ds vs) fun ds1 => wt xk ds1 fun b ds2 => if b = true then e xk ds2 fun v ds3 => acc.length < 10000000 ∧ I (i + 1) (acc ++ [v]) ds3 else I (i + 1) acc ds2) :
    g x (wipe σ vs) H fun σ2 H2 => wipe σ2 vs = wipe σ vs ∧ t σ2 H2 fun b H3 =>
      if b = true then te σ2 H3 fun y H4 => ∃ acc, H4 Dl = some (.lst acc) ∧ acc.length < sizeLine ∧ CInv K c pa σ vs G0 H0 ds0 I Dl (i + 1) (upd H4 Dl (.lst (acc ++ [y]))) else CInv K c pa σ vs G0 H0 ds0 I Dl (i + 1) H3 := by
  obtain ⟨G, ds, acc, h1, S, T⟩ := hi
  refine hg c pa G H (wipe σ vs) (ers ds vs) x d _ _ S.env (r.mono S.sg) (hs acc ds h1) fun σ2 ds1 q1 E1 w1 n1 => ?_
  have ew : wipe σ2 vs = wipe σ vs := by
    rw [w1 vs hn, wipe_wipe]
  have T1 : Tmp K c pa G H ds1 Dl acc := T.less fun i dv q o => ⟨dv, n1 i dv q o, o⟩
  have close : ∀ {G5 H5 : Hp} {ds5 : DS}, Stp K c pa σ2 G H ds1 G5 H5 ds5 → Stp K c pa (wipe σ vs) G0 H0 ds0 G5 H5 (ers ds5 vs) := fun {G5 H5 ds5} S5 => by
    refine S.trans ⟨?_, S5.sg, fun a o q n => S5.fr a o q fun i dv h oo => n i dv (n1 i dv h oo) oo, fun i dv h o => ?_, S5.dom⟩
    · rw [← ew]
      exact S5.env.wipes vs
    · obtain ⟨d1, q1, o1⟩ := ers_less i dv h o
      obtain ⟨d2, q2, o2⟩ := S5.sub i d1 q1 o1
      exact ⟨d2, n1 i d2 q2 o2, o2⟩
  refine ⟨ew, ht c pa G H σ2 ds1 xk _ _ E1 q1 hx fun v G3 H3 ds2 q2 S2 => ?_⟩
  cases v with
  | false =>
    rw [if_neg Bool.false_ne_true] at q2 ⊢
    exact ⟨G3, ds2, acc, q2, close S2, (T1.stay S2).less ers_less⟩
  | true =>
    rw [if_pos rfl] at q2 ⊢
    refine he c pa G3 H3 σ2 ds2 xk _ _ S2.env q2 hx fun y G4 H4 z ds3 q3 S3 r3 => ?_
    have S4 := S2.trans S3
    have T4 := T1.stay S4
    obtain ⟨ws, hw, rw_⟩ := T4.here
    obtain ⟨hl, q3⟩ := q3
    refine ⟨ws, hw, ?_, G4, ds3, acc ++ [z], q3, ?_, ?_⟩
    · rw [← rw_.len]
      exact Nat.lt_of_lt_of_le hl (by decide)
    · have C := close S4
      have T5 : Tmp K c pa G4 H4 (ers ds3 vs) Dl acc := T4.less ers_less
      obtain ⟨E6, _⟩ := C.env.tmpWrite T5 (rw_.app r3)
      refine ⟨E6, C.sg, fun a o q n => ?_, C.sub, fun a q => ?_⟩
      · obtain ⟨e1, e2⟩ := C.fr a o q n
        exact ⟨by rw [upd_ne (ne_of_none q hD)]; exact e1, e2⟩
      · by_cases n : a = Dl
        · rw [n, upd_same]
          exact fun z => nomatch z
        · rw [upd_ne n]
          exact C.dom a q
    · exact ((close S4).env.tmpWrite (T4.less ers_less) (rw_.app r3)).2
/-- its beginning, its end -/
theorem comp_begin {c : C0} {pa : Nat → Addr} {G H : Hp} {σ : L2.St} {ds : DS} {vs : List Nat} {I : Nat → List D → DS → Prop} {Dl : Addr} (E : Env K c pa G H σ ds) (hD : H Dl = none) (h : I 0 [] (ers ds vs)) : CInv K c pa σ vs G H (ers ds vs) I Dl 0 (upd H Dl (.lst [])) := by
  have z : ers (ers ds vs) vs = ers ds vs := by
    have gg : ∀ (a b : DS), a.length = b.length → (∀ i, gt a i = gt b i) → a = b := by
      intro a
      induction a with
      | nil =>
        intro b hl _
        cases b with
        | nil => rfl
        | cons y b => simp at hl
      | cons x a ih =>
        intro b hl hh
        cases b with
        | nil => simp at hl
        | cons y b =>
          have e0 : x = y := hh 0
          rw [e0, ih b (by simpa using hl) fun i => hh (i + 1)]
    refine gg _ _ (by rw [ers_len]) fun i => ?_
    rw [gt_ers, gt_ers]
    by_cases hi : i ∈ vs
    · rw [if_pos hi, if_pos hi]
    · rw [if_neg hi]
  obtain ⟨S, T⟩ := Stp.newOwn (vs := []) (xs := []) (E.wipes vs) hD rfl
  exact ⟨G, ers ds vs, [], h, by rw [z]; exact S, by rw [z]; exact T⟩
theorem comp_done {c : C0} {pa : Nat → Addr} {G H H1 : Hp} {σ : L2.St} {ds : DS} {vs : List Nat} {I : Nat → List D → DS → Prop} {Dl : Addr} {n : Nat} {kk : List D → DS → Prop} {Q : VK} (E : Env K c pa G H σ ds) (hD : H Dl = none) (hi : CInv K c pa σ vs G H (ers ds vs) I Dl n H1)
    (he : ∀ acc ds, I n acc ds → kk acc (ers ds vs)) (k : ∀ p G' H' xs ds', kk xs ds' → Stp K c pa σ G H ds G' H' ds' → Tmp K c pa G' H' ds' p xs → H p = none → Q (.ref p) H') : Q (.ref Dl) H1 := by
  obtain ⟨G1, ds1, acc, h1, S, T⟩ := hi
  refine k Dl G1 H1 acc _ (he acc ds1 h1) ⟨S.env.unwipe, S.sg, fun a o q n => S.fr a o q fun i dv h oo => ?_, fun i dv h o => ?_, S.dom⟩ T hD
  · rw [gt_ers] at h
    by_cases hi : i ∈ vs
    · rw [if_pos hi] at h
      cases h
    · rw [if_neg hi] at h
      exact n i dv h oo
  · obtain ⟨d1, q1, o1⟩ := S.sub i dv h o
    exact ers_less i d1 q1 o1
/-- [e for g in src if t], src a list or a tuple -/
theorem eo_lc {vs : List Nat} (h : EW K W tx a) (hg : GW K g tg) (ht : TW K Wn t wt) (he : EW K Wn te e) (hn : ∀ j ∈ tgn tg, j ∈ vs := by decide) : EO K W (tLc (iSeq K tx) g t te vs) (wLc a tg vs wt e) := fun c pa G H σ ds xk kk Q E hw hx k => by
  refine h c pa G H σ ds xk _ _ E hw hx fun v G1 H1 d ds1 q S1 r1 => ?_
  obtain ⟨xs, hd, I, i0, is, ie⟩ := items_some q
  have E1 := S1.env
  have k1 : ∀ p G' H' xs ds', kk xs ds' → Stp K c pa σ G1 H1 ds1 G' H' ds' → Tmp K c pa G' H' ds' p xs → H1 p = none → Q (.ref p) H' := fun p G' H' xs ds' q S T n => k p G' H' xs ds' q (S1.trans S) T (by
    cases z : H p with
    | none => rfl
    | some o => exact absurd n (S1.dom p (by rw [z]; exact fun y => nomatch y)))
  have r1 := r1.core
  rcases hd with z | z
  · rw [z] at r1
    obtain ⟨p, ys, ev, hsq, rv⟩ := r1
    refine ⟨p, ev, .inl ⟨⟨ys, L2.Same.seq E1.ex hsq⟩, fun Dl hD => ?_⟩⟩
    refine lc_list (xs := ys) (CInv K c pa σ vs G1 H1 (ers ds1 vs) I Dl) (comp_begin E1 hD i0) (fun i H' _ ⟨G', ds', acc, _, S, _⟩ => L2.Same.seq (S.sg.trans S.env.ex) hsq) (fun i x H' ex hi => ?_) fun H' hi => comp_done E1 hD hi (fun acc ds h => ie acc ds (by rw [rv.len]; exact h)) k1
    obtain ⟨d2, ed, rd⟩ := rv.gev ex
    exact comp_turn hg ht he hn (fun _ _ z => z.elim) hD hi rd fun acc ds h => is i d2 acc ds ed h
  · rw [z] at r1
    obtain ⟨p, ys, ev, hsq, rv⟩ := r1
    refine ⟨p, ev, .inr ⟨⟨ys, Same.t E1.ex hsq⟩, fun Dl hD => ?_⟩⟩
    refine lc_tup (xs := ys) (CInv K c pa σ vs G1 H1 (ers ds1 vs) I Dl) (comp_begin E1 hD i0) (fun i H' _ ⟨G', ds', acc, _, S, _⟩ => Same.t (S.sg.trans S.env.ex) hsq) (fun i x H' ex hi => ?_) fun H' hi => comp_done E1 hD hi (fun acc ds h => ie acc ds (by rw [rv.len]; exact h)) k1
    obtain ⟨d2, ed, rd⟩ := rv.gev ex
    exact comp_turn hg ht he hn (fun _ _ z => z.elim) hD hi rd fun acc ds h => is i d2 acc ds ed h
theorem comp_range {c : C0} {pa : Nat → Addr} {G H : Hp} {σ : L2.St} {ds : DS} {vs : List Nat} {lo hi : Int} {xk : XKd} {kk : List D → DS → Prop} {Q : VK} (hg : GW K g tg) (ht : TW K Wn t wt) (he : EW K Wn te e) (hn : ∀ j ∈ tgn tg, j ∈ vs) (hx : XOk K c Wn xk) (E : Env K c pa G H σ ds)
    (q : compI tg vs wt e xk (rangeD lo hi) ds kk) (k : ∀ p G' H' xs ds', kk xs ds' → Stp K c pa σ G H ds G' H' ds' → Tmp K c pa G' H' ds' p xs → H p = none → Q (.ref p) H') (Dl : Addr) (hD : H Dl = none) :
    ∃ W : Nat → Nat → Hp → Prop, (∃ m, W 0 m (upd H Dl (.lst []))) ∧ ∀ i m H, W i m H →
      ((Itr lo (hi - lo).toNat).stop i H ∧ Q (.ref Dl) H) ∨ ((Itr lo (hi - lo).toNat).go i H ∧ ∃ Nx : Hp → Prop, (∀ H', Nx H' → ∃ m', m' < m ∧ W (i + 1) m' H') ∧ ∀ x H', (Itr lo (hi - lo).toNat).yld i H x H' → g x (wipe σ vs) H' fun σ2 H2 => wipe σ2 vs = wipe σ vs ∧ t σ2 H2 fun b H3 =>
        if b = true then te σ2 H3 fun y H4 => ∃ acc, H4 Dl = some (.lst acc) ∧ acc.length < sizeLine ∧ Nx (upd H4 Dl (.lst (acc ++ [y]))) else Nx H3) := by
  obtain ⟨I, i0, is, ie⟩ := q
  refine lc_range (lo := lo) (n := (hi - lo).toNat) (CInv K c pa σ vs G H (ers ds vs) I Dl) (comp_begin E hD i0) (fun i H' hl hi => ?_) fun H' hi => comp_done E hD hi (fun acc ds h => ie acc ds (by rw [rangeD_len]; exact h)) k
  exact comp_turn (d := .int (lo + (i : Nat))) hg ht he hn hx hD hi rfl fun acc ds h => is i _ acc ds (rangeD_at hl) h
theorem eo_lcR1 {vs : List Nat} (h : EW K W tx a) (hg : GW K g tg) (ht : TW K Wn t wt) (he : EW K Wn te e) (hn : ∀ j ∈ tgn tg, j ∈ vs := by decide) : EO K W (tLc (iRng1 (tCons tx tNil)) g t te vs) (wLcR [a] tg vs wt e) := fun c pa G H σ ds xk kk Q E hw hx k => by
  refine h c pa G H σ ds xk _ _ E hw hx fun v G1 H1 d ds1 q S1 r1 => ?_
  have k1 : ∀ p G' H' xs ds', kk xs ds' → Stp K c pa σ G1 H1 ds1 G' H' ds' → Tmp K c pa G' H' ds' p xs → H1 p = none → Q (.ref p) H' := fun p G' H' xs ds' q S T n => k p G' H' xs ds' q (S1.trans S) T (by
    cases z : H p with
    | none => rfl
    | some o => exact absurd n (S1.dom p (by rw [z]; exact fun y => nomatch y)))
  cases d with
  | int n =>
    obtain ⟨⟨_, h1, h2⟩, q⟩ := q
    have z := comp_range hg ht he hn (fun _ _ z => z.elim) S1.env q k1
    rw [Int.sub_zero] at z
    exact ⟨n, by rw [show v = V.int n from r1], h1, h2, z⟩
  | _ => exact (show False from q).elim
theorem eo_lcR2 {vs : List Nat} (h : EW K W ta a) (h' : EW K W tb b) (hg : GW K g tg) (ht : TW K Wn t wt) (he : EW K Wn te e) (hn : ∀ j ∈ tgn tg, j ∈ vs := by decide) : EO K W (tLc (iRng2 (tCons ta (tCons tb tNil))) g t te vs) (wLcR [a, b] tg vs wt e) := fun c pa G H σ ds xk kk Q E hw hx k => by
  refine h c pa G H σ ds xk _ _ E hw hx fun v G1 H1 d ds1 q S1 r1 => ?_
  refine h' c pa G1 H1 σ ds1 xk _ _ S1.env q hx fun v2 G2 H2 d2 ds2 q2 S2 r2 => ?_
  have S := S1.trans S2
  have k1 : ∀ p G' H' xs ds', kk xs ds' → Stp K c pa σ G2 H2 ds2 G' H' ds' → Tmp K c pa G' H' ds' p xs → H2 p = none → Q (.ref p) H' := fun p G' H' xs ds' q S' T n => k p G' H' xs ds' q (S.trans S') T (by
    cases z : H p with
    | none => rfl
    | some o => exact absurd n (S.dom p (by rw [z]; exact fun y => nomatch y)))
  cases d with
  | int m =>
    cases d2 with
    | int n =>
      obtain ⟨⟨⟨h3, h4⟩, h1, h2⟩, q⟩ := q2
      exact ⟨m, n, by rw [show v = V.int m from r1, show v2 = V.int n from r2], ⟨h3, h4, h1, h2⟩, comp_range hg ht he hn (fun _ _ z => z.elim) S2.env q k1⟩
    | _ => exact (show False from q2).elim
  | _ => exact (show False from q2).elim

/-! ### operations -/
theorem int2 {f : D → D → (D → Prop) → Prop} {d e : D} {kk : D → Prop} {P : Int → Int → Prop} (h : match d, e with | .int a, .int b => P a b | _, _ => False) : ∃ a b, d = .int a ∧ e = .int b ∧ P a b := by
  cases d with
  | int a =>
    cases e with
    | int b => exact ⟨a, b, rfl, rfl, h⟩
    | _ => exact h.elim
  | _ => exact h.elim
theorem rw_add : RW2 K (rI0 fun i j => .int (i + j)) dAdd := fun G H x y d e kk Q s rx ry h k => by
  cases d <;> try exact (show False from h).elim
  cases e <;> try exact (show False from h).elim
  exact ⟨_, _, rx, ry, k _ _ h rfl⟩
theorem rw_sub : RW2 K (rI0 fun i j => .int (i - j)) dSub := fun G H x y d e kk Q s rx ry h k => by
  cases d <;> try exact (show False from h).elim
  cases e <;> try exact (show False from h).elim
  exact ⟨_, _, rx, ry, k _ _ h rfl⟩
theorem rw_mul : RW2 K (rI CMulW fun i j => .int (i * j)) dMul := fun G H x y d e kk Q s rx ry h k => by
  cases d <;> try exact (show False from h).elim
  cases e <;> try exact (show False from h).elim
  exact ⟨_, _, rx, ry, h.1, k _ _ h.2 rfl⟩
def CDivF (_ j : Int) : Prop := j ≠ 0 ∧ j.natAbs.log2 < 9000
theorem op_fdivF {X : Cx} : OpR X (binaryOp .FloorDiv) (rI CDivF fun i j => .int (i.fdiv j)) := opI fun _ _ _ _ _ _ _ hc q => floordiv_int hc.1 q (.inl (PyProof.noPylong_of_log2 hc.2))
theorem iop_fdivF {X : Cx} : OpR X (inplaceOp .FloorDiv) (rI CDivF fun i j => .int (i.fdiv j)) := opI fun _ _ _ _ _ _ _ hc q => ifloordiv_int hc.1 q (.inl (PyProof.noPylong_of_log2 hc.2))
theorem iop_mulF {X : Cx} : OpR X (inplaceOp .Mult) (rI CMulW fun i j => .int (i * j)) := opI fun _ _ _ _ _ _ _ hc q => imul_int q hc.ok
theorem rw_fdiv : RW2 K (rI CDivF fun i j => .int (i.fdiv j)) dFdiv := fun G H x y d e kk Q s rx ry h k => by
  cases d <;> try exact (show False from h).elim
  cases e <;> try exact (show False from h).elim
  exact ⟨_, _, rx, ry, h.1, k _ _ h.2 rfl⟩
theorem rw_mod : RW2 K (rI (fun _ j => j ≠ 0) fun i j => .int (i.fmod j)) dMod := fun G H x y d e kk Q s rx ry h k => by
  cases d <;> try exact (show False from h).elim
  cases e <;> try exact (show False from h).elim
  exact ⟨_, _, rx, ry, h.1, k _ _ h.2 rfl⟩
theorem rw_pow : RW2 K (rI CPow fun i j => .int (i ^ j.toNat)) dPow := fun G H x y d e kk Q s rx ry h k => by
  cases d <;> try exact (show False from h).elim
  cases e <;> try exact (show False from h).elim
  exact ⟨_, _, rx, ry, h.1, k _ _ h.2 rfl⟩
theorem rw_neg : RW1 K (rU fun i => .int (-i)) dNeg := fun G H x d kk Q s rx h k => by
  cases d <;> try exact (show False from h).elim
  exact ⟨_, rx, k _ _ h rfl⟩
theorem rw_lt : RW2 K (rI0 fun i j => .bl (decide (i < j))) dLt := fun G H x y d e kk Q s rx ry h k => by
  cases d <;> try exact (show False from h).elim
  cases e <;> try exact (show False from h).elim
  exact ⟨_, _, rx, ry, k _ _ h rfl⟩
theorem rw_le : RW2 K (rI0 fun i j => .bl (decide (i ≤ j))) dLe := fun G H x y d e kk Q s rx ry h k => by
  cases d <;> try exact (show False from h).elim
  cases e <;> try exact (show False from h).elim
  exact ⟨_, _, rx, ry, k _ _ h rfl⟩
theorem rw_gt : RW2 K (rI0 fun i j => .bl (decide (j < i))) dGt := fun G H x y d e kk Q s rx ry h k => by
  cases d <;> try exact (show False from h).elim
  cases e <;> try exact (show False from h).elim
  exact ⟨_, _, rx, ry, k _ _ h rfl⟩
theorem rw_ge : RW2 K (rI0 fun i j => .bl (decide (j ≤ i))) dGe := fun G H x y d e kk Q s rx ry h k => by
  cases d <;> try exact (show False from h).elim
  cases e <;> try exact (show False from h).elim
  exact ⟨_, _, rx, ry, k _ _ h rfl⟩
mutual
/-- the kit's own data for these -/
def py : D → PyData
  | .non => .none
  | .bl b => .bool b
  | .int i => .int i
  | .str x => .str x
  | .tup xs => .tuple (pys xs)
  | .lst xs => .list (pys xs)
  | .obj _ => .dict []
  | .dct _ _ => .dict []
  | .at _ _ => .dict []
def pys : List D → List PyData
  | [] => []
  | x :: xs => py x :: pys xs
end
mutual
theorem rep_py {G H : Hp} (s : Same G H) : ∀ {d : D} {v : V}, shp d = true → Rep K G d v → Dp K H v (py d)
  | .non, v, _, h => by rw [show v = .non from h]; exact .non
  | .bl b, v, _, h => by rw [show v = .bl b from h]; exact .bl b
  | .int i, v, _, h => by rw [show v = .int i from h]; exact .int i
  | .str x, v, _, h => by rw [show v = .str x from h]; exact .str x
  | .tup ds, v, w, h => by
    obtain ⟨a, xs, e, h1, h2⟩ := h
    rw [e]
    exact .tup (Same.t s h1) (reps_py s w h2)
  | .lst ds, v, w, h => by
    obtain ⟨a, xs, e, h1, h2⟩ := h
    rw [e]
    exact .lst (L2.Same.seq s h1) (reps_py s w h2)
  | .obj c, v, w, h => by cases (show false = true from w)
  | .dct _ _, v, w, h => by cases (show false = true from w)
  | .at _ _, v, w, h => by cases (show false = true from w)
theorem reps_py {G H : Hp} (s : Same G H) : ∀ {ds : List D} {vs : List V}, shps ds = true → Reps K G ds vs → DpAll K H vs (pys ds)
  | [], vs, _, h => by rw [show vs = [] from h]; exact .nil
  | d :: ds, vs, w, h => by
    obtain ⟨x, xs, e, h1, h2⟩ := h
    have w : (shp d && shps ds) = true := w
    rw [Bool.and_eq_true] at w
    rw [e]
    exact .cons (rep_py s w.1 h1) (reps_py s w.2 h2)
end
mutual
theorem deq_py : ∀ (a b : D), shp a = true → shp b = true → PyData.eqv (py a) (py b) = deq a b
  | .tup xs, b, h, h' => by
    cases b with
    | tup ys => exact deqs_py xs ys h h'
    | _ => rfl
  | .lst xs, b, h, h' => by
    cases b with
    | lst ys => exact deqs_py xs ys h h'
    | _ => rfl
  | .non, b, _, _ => by cases b <;> rfl
  | .bl a, b, _, _ => by cases b <;> rfl
  | .int i, b, _, _ => by cases b <;> rfl
  | .str x, b, _, _ => by cases b <;> rfl
  | .obj c, b, h, _ => by cases (show false = true from h)
  | .dct _ _, b, h, _ => by cases (show false = true from h)
  | .at _ _, b, h, _ => by cases (show false = true from h)
theorem deqs_py : ∀ (a b : List D), shps a = true → shps b = true → PyData.eqvAll (pys a) (pys b) = deqs a b
  | [], b, _, _ => by cases b <;> rfl
  | x :: xs, [], _, _ => rfl
  | x :: xs, y :: ys, h, h' => by
    have h : (shp x && shps xs) = true := h
    have h' : (shp y && shps ys) = true := h'
    rw [Bool.and_eq_true] at h h'
    show (PyData.eqv (py x) (py y) && PyData.eqvAll (pys xs) (pys ys)) = (deq x y && deqs xs ys)
    rw [deq_py x y h.1 h'.1, deqs_py xs ys h.2 h'.2]
end
mutual
theorem shp_py : ∀ d : D, (py d).canLay0 = shp d
  | .tup xs => shps_py xs
  | .lst xs => shps_py xs
  | .non => rfl
  | .bl _ => rfl
  | .int _ => rfl
  | .str _ => rfl
  | .obj _ => rfl
  | .dct _ _ => rfl
  | .at _ _ => rfl
theorem shps_py : ∀ ds : List D, PyData.canLayAll0 (pys ds) = shps ds
  | [] => rfl
  | x :: xs => by
    show ((py x).canLay0 && PyData.canLayAll0 (pys xs)) = (shp x && shps xs)
    rw [shp_py x, shps_py xs]
end
mutual
theorem dep_py : ∀ d : D, (py d).depth = dep d
  | .tup xs => congrArg (· + 1) (deps_py xs)
  | .lst xs => congrArg (· + 1) (deps_py xs)
  | .non => rfl
  | .bl _ => rfl
  | .int _ => rfl
  | .str _ => rfl
  | .obj _ => rfl
  | .dct _ _ => rfl
  | .at _ _ => rfl
theorem deps_py : ∀ ds : List D, PyData.depthAll (pys ds) = deps ds
  | [] => rfl
  | x :: xs => by
    show max (py x).depth (PyData.depthAll (pys xs)) = max (dep x) (deps xs)
    rw [dep_py x, deps_py xs]
end
theorem shaped_of {d : D} (h : Shp d) : SeqAt.shaped (py d) = true := by
  unfold SeqAt.shaped
  rw [shp_py, dep_py, h.1, decide_eq_true h.2]
  rfl
theorem rw_eq : RW2 K (rEqD K) dEq := fun G H x y d e kk Q s rx ry h k =>
  ⟨py d, py e, rep_py s h.1.1.1 rx, rep_py s h.1.2.1 ry, shaped_of h.1.1, shaped_of h.1.2, by rw [deq_py _ _ h.1.1.1 h.1.2.1]; exact k _ _ h.2 rfl⟩
theorem rw_ne : RW2 K (rNeD K) dNe := fun G H x y d e kk Q s rx ry h k =>
  ⟨py d, py e, rep_py s h.1.1.1 rx, rep_py s h.1.2.1 ry, shaped_of h.1.1, shaped_of h.1.2, by rw [deq_py _ _ h.1.1.1 h.1.2.1]; exact k _ _ h.2 rfl⟩
theorem non_iff {G : Hp} : ∀ {d : D} {v : V}, Rep K G d v → decide (v = .non) = isNon d
  | .non, v, h => by rw [show v = .non from h]; rfl
  | .bl b, v, h => by rw [show v = .bl b from h]; rfl
  | .int i, v, h => by rw [show v = .int i from h]; rfl
  | .str s, v, h => by rw [show v = .str s from h]; rfl
  | .tup _, v, h => by
    obtain ⟨a, xs, e, _⟩ := h
    rw [e]
    rfl
  | .lst _, v, h => by
    obtain ⟨a, xs, e, _⟩ := h
    rw [e]
    rfl
  | .obj _, v, h => by
    obtain ⟨C, a, dx, _, e, _⟩ := h
    rw [e]
    rfl
  | .dct _ _, v, h => by
    obtain ⟨a, kvs, e, _⟩ := h
    rw [e]
    rfl
  | .at _ _, v, h => by
    rw [h.1]
    rfl
theorem ew_isN (h : EW K W ta a) : EW K W (tIsN ta) (wUn dIsN a) := fun c pa G H σ ds xk kk Q E hw hx k => by
  refine h c pa G H σ ds xk _ _ E hw hx fun x G1 H1 d ds1 q S1 r1 => ?_
  rw [non_iff r1]
  exact k _ G1 H1 _ ds1 q S1 rfl
theorem ew_notN (h : EW K W ta a) : EW K W (tNotN ta) (wUn dNotN a) := fun c pa G H σ ds xk kk Q E hw hx k => by
  refine h c pa G H σ ds xk _ _ E hw hx fun x G1 H1 d ds1 q S1 r1 => ?_
  rw [non_iff r1]
  exact k _ G1 H1 _ ds1 q S1 rfl
theorem ix_tup {G H : Hp} {x y : V} {xs : List D} {e : D} {kk : D → Prop} {Q : VK} (s : Same G H) (rx : Rep K G (.tup xs) x) (ry : Rep K G e y) (h : dIx (.tup xs) e kk) (k : ∀ z v, kk z → Rep K G z v → Q v H) : rIx K x y H Q := by
  cases e with
  | int i =>
    obtain ⟨p, vs, ev, h1, h2⟩ := rx
    have h : (match itemAt xs i with | some v => kk v | none => False) := h
    cases q : itemAt xs i with
    | none => rw [q] at h; exact h.elim
    | some z =>
      rw [q] at h
      obtain ⟨v, e1, rv⟩ := h2.item q
      exact .inr (.inl ⟨p, vs, i, v, ev, ry, Same.t s h1, e1, k z v h rv⟩)
  | _ => exact (show False from h).elim
theorem ix_lst {G H : Hp} {x y : V} {xs : List D} {e : D} {kk : D → Prop} {Q : VK} (s : Same G H) (rx : Rep K G (.lst xs) x) (ry : Rep K G e y) (h : dIx (.lst xs) e kk) (k : ∀ z v, kk z → Rep K G z v → Q v H) : rIx K x y H Q := by
  cases e with
  | int i =>
    obtain ⟨p, vs, ev, h1, h2⟩ := rx
    have h : (match itemAt xs i with | some v => kk v | none => False) := h
    cases q : itemAt xs i with
    | none => rw [q] at h; exact h.elim
    | some z =>
      rw [q] at h
      obtain ⟨v, e1, rv⟩ := h2.item q
      exact .inl ⟨p, vs, i, v, ev, ry, L2.Same.seq s h1, e1, k z v h rv⟩
  | _ => exact (show False from h).elim
theorem rw_ix : RW2 K (rIx K) dIx := fun G H x y d e kk Q s rx ry h k => by
  cases d with
  | tup xs => exact ix_tup s rx ry h k
  | lst xs => exact ix_lst s rx ry h k
  | «at» a d =>
    cases d with
    | tup xs => exact ix_tup s rx.2 ry (by cases e <;> exact h) k
    | lst xs => exact ix_lst s rx.2 ry (by cases e <;> exact h) k
    | _ => exact (show False from by cases e <;> exact h).elim
  | _ => exact (show False from by cases e <;> exact h).elim
/-! built-ins -/
def rAbs : List V → Hp → VK → Prop := fun xs H Q => ∃ i, xs = [.int i] ∧ Q (.int (if i < 0 then -i else i)) H
theorem rc_abs : RWC1 K rAbs dAbs := fun G H x d kk Q s rx h k => by
  cases d <;> try exact (show False from h).elim
  exact ⟨_, by rw [rx], k _ _ h rfl⟩
def rMx2 : List V → Hp → VK → Prop := fun xs H Q => ∃ i j, xs = [.int i, .int j] ∧ Q (.int (if j > i then j else i)) H
theorem rc_max : RWC2 K rMx2 dMax := fun G H x y d e kk Q s rx ry h k => by
  cases d <;> try exact (show False from h).elim
  cases e <;> try exact (show False from h).elim
  exact ⟨_, _, by rw [rx, ry], k _ _ h rfl⟩
def rMn2 : List V → Hp → VK → Prop := fun xs H Q => ∃ i j, xs = [.int i, .int j] ∧ Q (.int (if j < i then j else i)) H
theorem rc_min : RWC2 K rMn2 dMin := fun G H x y d e kk Q s rx ry h k => by
  cases d <;> try exact (show False from h).elim
  cases e <;> try exact (show False from h).elim
  exact ⟨_, _, by rw [rx, ry], k _ _ h rfl⟩
def rLen (K : PySem.W.Frag) : List V → Hp → VK → Prop := fun xs H Q => ∃ x n, xs = [x] ∧ LenV K x H n ∧ Q (.int n) H
theorem len_tup {G H : Hp} {x : V} {xs : List D} {Q : VK} (s : Same G H) (rx : Rep K G (.tup xs) x) (k : Q (.int xs.length) H) : rLen K [x] H Q := by
  obtain ⟨p, vs, ev, h1, h2⟩ := rx
  subst ev
  exact ⟨_, vs.length, rfl, .inr ⟨vs, Same.t s h1, rfl⟩, by rw [← h2.len]; exact k⟩
theorem len_lst {G H : Hp} {x : V} {xs : List D} {Q : VK} (s : Same G H) (rx : Rep K G (.lst xs) x) (k : Q (.int xs.length) H) : rLen K [x] H Q := by
  obtain ⟨p, vs, ev, h1, h2⟩ := rx
  subst ev
  exact ⟨_, vs.length, rfl, .inl ⟨vs, L2.Same.seq s h1, rfl⟩, by rw [← h2.len]; exact k⟩
theorem rc_len : RWC1 K (rLen K) dLen := fun G H x d kk Q s rx h k => by
  cases d with
  | tup xs => exact len_tup s rx (k _ _ h rfl)
  | lst xs => exact len_lst s rx (k _ _ h rfl)
  | «at» a d =>
    cases d with
    | tup xs => exact len_tup s rx.2 (k _ _ h rfl)
    | lst xs => exact len_lst s rx.2 (k _ _ h rfl)
    | _ => exact (show False from h).elim
  | _ => exact (show False from h).elim
theorem bools_rep {G : Hp} : ∀ {ds : List D} {vs : List V} {bs : List Bool}, Reps K G ds vs → boolsD ds = some bs → vs = bs.map V.bl
  | [], vs, bs, h, e => by
    have e : ([] : List Bool) = bs := Option.some.inj e
    rw [← e]
    exact h
  | d :: ds, vs, bs, h, e => by
    obtain ⟨x, xs, ev, h1, h2⟩ := h
    cases d with
    | bl b =>
      have e : (boolsD ds).map (b :: ·) = some bs := e
      cases q : boolsD ds with
      | none => rw [q] at e; cases e
      | some r =>
        rw [q] at e
        have e : b :: r = bs := Option.some.inj e
        rw [ev, ← e, bools_rep h2 q, show x = V.bl b from h1]
        rfl
    | _ => cases (show (none : Option (List Bool)) = some bs from e)
theorem ints_rep {G : Hp} : ∀ {ds : List D} {vs : List V} {bs : List Int}, Reps K G ds vs → intsD ds = some bs → vs = bs.map V.int
  | [], vs, bs, h, e => by
    have e : ([] : List Int) = bs := Option.some.inj e
    rw [← e]
    exact h
  | d :: ds, vs, bs, h, e => by
    obtain ⟨x, xs, ev, h1, h2⟩ := h
    cases d with
    | int b =>
      have e : (intsD ds).map (b :: ·) = some bs := e
      cases q : intsD ds with
      | none => rw [q] at e; cases e
      | some r =>
        rw [q] at e
        have e : b :: r = bs := Option.some.inj e
        rw [ev, ← e, ints_rep h2 q, show x = V.int b from h1]
        rfl
    | _ => cases (show (none : Option (List Int)) = some bs from e)
theorem rc_all : RWC1 K (rAll K) dAll := fun G H x d kk Q s rx h k => by
  cases d with
  | lst xs =>
    obtain ⟨p, vs, ev, h1, h2⟩ := rx
    have h : (match boolsD xs with | some bs => kk (.bl (bs.all id)) | none => False) := h
    cases q : boolsD xs with
    | none => rw [q] at h; exact h.elim
    | some bs =>
      rw [q] at h
      exact ⟨p, bs, by rw [ev], by rw [← bools_rep h2 q]; exact L2.Same.seq s h1, k _ _ h rfl⟩
  | _ => exact (show False from h).elim
theorem rc_any : RWC1 K (rAny K) dAny := fun G H x d kk Q s rx h k => by
  cases d with
  | lst xs =>
    obtain ⟨p, vs, ev, h1, h2⟩ := rx
    have h : (match boolsD xs with | some bs => kk (.bl (bs.any id)) | none => False) := h
    cases q : boolsD xs with
    | none => rw [q] at h; exact h.elim
    | some bs =>
      rw [q] at h
      exact ⟨p, bs, by rw [ev], by rw [← bools_rep h2 q]; exact L2.Same.seq s h1, k _ _ h rfl⟩
  | _ => exact (show False from h).elim
theorem rc_sum : RWC1 K (rSum K) dSum := fun G H x d kk Q s rx h k => by
  cases d with
  | lst xs =>
    obtain ⟨p, vs, ev, h1, h2⟩ := rx
    have h : (match intsD xs with | some bs => kk (.int bs.sum) | none => False) := h
    cases q : intsD xs with
    | none => rw [q] at h; exact h.elim
    | some bs =>
      rw [q] at h
      exact ⟨p, bs, by rw [ev], by rw [← ints_rep h2 q]; exact L2.Same.seq s h1, k _ _ h rfl⟩
  | _ => exact (show False from h).elim
def rInt : List V → Hp → VK → Prop := fun xs H Q => (∃ i, xs = [.int i] ∧ Q (.int i) H) ∨ ∃ k, xs = [.bl k] ∧ Q (.int (if k then 1 else 0)) H
theorem rc_int : RWC1 K rInt dInt := fun G H x d kk Q s rx h k => by
  cases d with
  | int i => exact .inl ⟨i, by rw [show x = V.int i from rx], k _ _ h rfl⟩
  | bl b => exact .inr ⟨b, by rw [show x = V.bl b from rx], k _ _ h rfl⟩
  | _ => exact (show False from h).elim
/-! isinstance of a built-in type -/
def tyN : D → String
  | .non => "NoneType" | .bl _ => "bool" | .int _ => "int" | .str _ => "str" | .tup _ => "tuple" | .lst _ => "list" | .obj _ => "NoneType" | .dct _ _ => "dict" | .at _ _ => "NoneType"
def isObj : D → Bool | .obj _ => true | .at _ _ => true | _ => false
theorem rep_ty {G H : Hp} (s : Same G H) : ∀ {d : D} {v : V}, isObj d = false → Rep K G d v → TyX K H v (.type (tyN d))
  | .non, v, _, h => by rw [show v = .non from h]; exact .base .non
  | .bl b, v, _, h => by rw [show v = .bl b from h]; exact .base (.bl b)
  | .int i, v, _, h => by rw [show v = .int i from h]; exact .base (.int i)
  | .str x, v, _, h => by rw [show v = .str x from h]; exact .base (.str x)
  | .tup ds, v, _, h => by
    obtain ⟨a, xs, e, h1, _⟩ := h
    rw [e]
    rcases Same.t s h1 with (q | ⟨o, q⟩) | ⟨o, its, n, q, q2, _⟩
    · exact .base (.tup q)
    · exact .fTuple q
    · exact .kTuple q q2
  | .lst ds, v, _, h => by
    obtain ⟨a, xs, e, h1, _⟩ := h
    rw [e]
    rcases L2.Same.seq s h1 with (q | ⟨o, q⟩) | ⟨o, its, n, q, q2, _⟩
    · exact .base (.lst q)
    · exact .base (.frz q)
    · exact .kList q q2
  | .obj _, v, w, h => by cases w
  | .dct _ _, v, _, h => by
    obtain ⟨a, kvs, e, h1, _⟩ := h
    rw [e]
    exact .base (.dK (s _ _ h1))
  | .at _ _, v, w, h => by cases w
def Ty.nm : Ty → String
  | .int => "int" | .bool => "bool" | .str => "str" | .tuple => "tuple" | .list => "list" | .dict => "dict"
theorem kit_of_ty (T : Ty) (d : D) (h : isObj d = false) : kitB (tyN d) T.nm = some (isTy T d) := by
  cases T
  · cases d
    · exact (by decide +kernel : kitB "NoneType" "int" = some false)
    · exact (by decide +kernel : kitB "bool" "int" = some true)
    · exact (by decide +kernel : kitB "int" "int" = some true)
    · exact (by decide +kernel : kitB "str" "int" = some false)
    · exact (by decide +kernel : kitB "tuple" "int" = some false)
    · exact (by decide +kernel : kitB "list" "int" = some false)
    · cases h
    · exact (by decide +kernel : kitB "dict" "int" = some false)
    · cases h
  · cases d
    · exact (by decide +kernel : kitB "NoneType" "bool" = some false)
    · exact (by decide +kernel : kitB "bool" "bool" = some true)
    · exact (by decide +kernel : kitB "int" "bool" = some false)
    · exact (by decide +kernel : kitB "str" "bool" = some false)
    · exact (by decide +kernel : kitB "tuple" "bool" = some false)
    · exact (by decide +kernel : kitB "list" "bool" = some false)
    · cases h
    · exact (by decide +kernel : kitB "dict" "bool" = some false)
    · cases h
  · cases d
    · exact (by decide +kernel : kitB "NoneType" "str" = some false)
    · exact (by decide +kernel : kitB "bool" "str" = some false)
    · exact (by decide +kernel : kitB "int" "str" = some false)
    · exact (by decide +kernel : kitB "str" "str" = some true)
    · exact (by decide +kernel : kitB "tuple" "str" = some false)
    · exact (by decide +kernel : kitB "list" "str" = some false)
    · cases h
    · exact (by decide +kernel : kitB "dict" "str" = some false)
    · cases h
  · cases d
    · exact (by decide +kernel : kitB "NoneType" "tuple" = some false)
    · exact (by decide +kernel : kitB "bool" "tuple" = some false)
    · exact (by decide +kernel : kitB "int" "tuple" = some false)
    · exact (by decide +kernel : kitB "str" "tuple" = some false)
    · exact (by decide +kernel : kitB "tuple" "tuple" = some true)
    · exact (by decide +kernel : kitB "list" "tuple" = some false)
    · cases h
    · exact (by decide +kernel : kitB "dict" "tuple" = some false)
    · cases h
  · cases d
    · exact (by decide +kernel : kitB "NoneType" "list" = some false)
    · exact (by decide +kernel : kitB "bool" "list" = some false)
    · exact (by decide +kernel : kitB "int" "list" = some false)
    · exact (by decide +kernel : kitB "str" "list" = some false)
    · exact (by decide +kernel : kitB "tuple" "list" = some false)
    · exact (by decide +kernel : kitB "list" "list" = some true)
    · cases h
    · exact (by decide +kernel : kitB "dict" "list" = some false)
    · cases h
  · cases d
    · exact (by decide +kernel : kitB "NoneType" "dict" = some false)
    · exact (by decide +kernel : kitB "bool" "dict" = some false)
    · exact (by decide +kernel : kitB "int" "dict" = some false)
    · exact (by decide +kernel : kitB "str" "dict" = some false)
    · exact (by decide +kernel : kitB "tuple" "dict" = some false)
    · exact (by decide +kernel : kitB "list" "dict" = some false)
    · cases h
    · exact (by decide +kernel : kitB "dict" "dict" = some true)
    · cases h
theorem ew_isi (T : Ty) (h : EW K W ta a) : EW K W (tCB (rIsi K) (tCons ta (tCons (tC (.ty T.nm)) tNil))) (wUn (dIsTy T) a) := fun c pa G H σ ds xk kk Q E hw hx k => by
  refine h c pa G H σ ds xk _ _ E hw hx fun x G1 H1 d ds1 q S1 r1 => ?_
  obtain ⟨d', ho, r1, q⟩ : ∃ d', isObj d' = false ∧ Rep K G1 d' x ∧ kk (.bl (isTy T d')) ds1 := by
    cases d with
    | obj _ => exact (show False from q).elim
    | «at» a d =>
      cases d <;> first | exact ⟨_, rfl, r1.2, q⟩ | exact (show False from q).elim
    | _ => exact ⟨_, rfl, r1, q⟩
  exact ⟨x, .ty T.nm, _, .type T.nm, isTy T d', rfl, .ty T.nm, rep_ty S1.env.ex ho r1, kit_ty (kit_of_ty T d' ho), k _ G1 H1 _ ds1 q S1 rfl⟩
theorem kits_any {d : D} (ho : isObj d = false) : ∀ ts : List Ty, PySem.W.kitAny K (.type (tyN d)) (ts.map fun t => Value.type t.nm) = some (ts.any fun t => isTy t d)
  | [] => rfl
  | T :: ts => by
    refine kitAny_cons (b := isTy T d) (kit_ty (kit_of_ty T d ho)) (fun e => ?_) fun e => ?_
    · rw [kits_any ho ts, List.any_cons, e]
      rfl
    · rw [List.any_cons, e]
      rfl
theorem cls_all : ∀ ts : List Ty, Paired ClsV (ts.map fun t => V.ty t.nm) (ts.map fun t => Value.type t.nm)
  | [] => .nil
  | T :: ts => .cons (.ty T.nm) (cls_all ts)
/-- the written tuple of types -/
def tTys : List Ty → TA
  | [] => tNil
  | T :: ts => tCons (tC (.ty T.nm)) (tTys ts)
theorem tTys_run : ∀ (ts : List Ty) (σ : L2.St) (H : Hp) (Q : List V → Hp → Prop), Q (ts.map fun t => V.ty t.nm) H → tTys ts σ H Q
  | [], _, _, _, h => h
  | T :: ts, σ, H, Q, h => tTys_run ts σ H _ h
theorem ew_isis {ts : List Ty} (hl : ts.length ≤ 10) (h : EW K W ta a) : EW K W (tCB (rIsiT K) (tCons ta (tCons (tTup (tTys ts)) tNil))) (wUn (dIsTys ts) a) := fun c pa G H σ ds xk kk Q E hw hx k => by
  refine h c pa G H σ ds xk _ _ E hw hx fun x G1 H1 d ds1 q S1 r1 => ?_
  obtain ⟨d', ho, r1, q⟩ : ∃ d', isObj d' = false ∧ Rep K G1 d' x ∧ kk (.bl (ts.any fun t => isTy t d')) ds1 := by
    cases d with
    | obj _ => exact (show False from q).elim
    | «at» a d =>
      cases d <;> first | exact ⟨_, rfl, r1.2, q⟩ | exact (show False from q).elim
    | _ => exact ⟨_, rfl, r1, q⟩
  refine tTys_run ts σ H1 _ ⟨by rw [List.length_map]; exact Nat.le_trans hl (by decide), fun p hp => ?_⟩
  have S2 := Stp.new S1.env (o := .tup (ts.map fun t => V.ty t.nm)) hp
  exact ⟨x, p, _, _, _, _, rfl, upd_same, cls_all ts, rep_ty S2.env.ex ho (r1.mono S2.sg), kits_any ho ts, k _ _ _ _ ds1 q (S1.trans S2) rfl⟩
end
end DW

/-! DwN: promises that also know that no repr is under way. -/
namespace DW
open PySem PySem.Spec PyProof.Rows L2

/-- sys.modules stands where it does -/
def Sys (h : Heap) : Prop := ∃ mm, h.Ns sysModules mm
/-- room for so many levels, and no repr under way -/
structure Rm (base : Heap) (k : Nat) (A : Around) : Prop where
  rm : Room k A
  gd : A.guards = some []
  sys : Sys base
theorem Rm.mono {base : Heap} {j k : Nat} {A : Around} (r : Rm base k A) (h : j ≤ k) : Rm base j A := ⟨r.rm.mono h, r.gd, r.sys⟩
theorem Rm.deeper {base : Heap} {k : Nat} {A : Around} (r : Rm base (k + 1) A) (env : PySem.Env) : Rm base k (A.deeper env) := ⟨r.rm.deeper env, r.gd, r.sys⟩
theorem Rm.units {base : Heap} {k : Nat} {A : Around} (r : Rm base k A) : A.units + 64 < cLine := r.rm.units
/-- what FnOk says, where no repr is under way -/
structure FnG (P : Program) (w : World) (K : PySem.W.Frag) (mg : Str → Option Value) (base : Heap) (CX : CXT) (k : Nat) (f : Addr) (fd : FuncData) (ps : List Str) (sp : Sp) : Prop where
  len : ∀ vs H Q E, sp vs H Q E → vs.length = ps.length
  go : ∀ (A : Around) (out : List PySem.Env) (s : Shared) (H : Hp) (as : PySem.Args) (us : List Value) (vs : List V) (Q : VK) (E : XK), Rm base k A → Env0 P w K mg base A out s H → BindsTo s fd as (ps.zip us) → Vals vs us → sp vs H Q E → codeAny (model P w) A (.call (.ref f) as) (CR CX out P w H s Q E) s
section
variable {P : Program} {w : World} {K : PySem.W.Frag} {mg : Str → Option Value} {base : Heap} {CX : CXT} {k : Nat} {f : Addr} {fd : FuncData} {ps : List Str} {sp sp' : Sp}
theorem FnG.mono {j : Nat} (G : FnG P w K mg base CX j f fd ps sp) (h : j ≤ k) : FnG P w K mg base CX k f fd ps sp := ⟨G.len, fun A o s H as us vs Q E r => G.go A o s H as us vs Q E (r.mono h)⟩
theorem FnG.imp (G : FnG P w K mg base CX k f fd ps sp) (h : ∀ vs H Q E, sp' vs H Q E → sp vs H Q E) : FnG P w K mg base CX k f fd ps sp' :=
  ⟨fun vs H Q E q => G.len vs H Q E (h vs H Q E q), fun A o s H as us vs Q E r e b v q => G.go A o s H as us vs Q E r e b v (h vs H Q E q)⟩
theorem FnG.ofOk (G : FnOk P w K mg base CX k f fd ps sp) : FnG P w K mg base CX k f fd ps sp := ⟨G.len, fun A o s H as us vs Q E r => G.run A o s H as us vs Q E r.rm⟩
/-- a def's promise, by its body -/
theorem fnG_of {name qual : Str} {params : Arguments} {body : List Stmt} {scope : Scope} {dV kV doc pm cdv ct oc : Value} {an od : Option Addr} {osl : Array (Option Value)} {N : List Str}
    (at_ : K.lookup f = some ⟨oc, od, .func (PySem.W.fnOf name qual params body scope dV kV doc pm an cdv ct), osl⟩) (cod : PySem.W.codeIn K cdv qual = true) (S : FnScope N ps scope) (len : ∀ vs H Q E, sp vs H Q E → vs.length = ps.length)
    (bod : ∀ (A : Around) (out : List PySem.Env) (s : Shared) (H : Hp) (vs : List V) (Q : VK) (E : XK), Rm base k (A.deeper (envOfC qual scope s.heap.objs.size f cdv)) → sp vs H Q E →
      ∃ t, PSs (cxOf CX P w K mg base N qual scope f cdv A out s H E) body t ∧ t { nx := fun _ H' => Q .non H', rt := Q } (L2.start N vs) H) : FnG P w K mg base CX (k + 1) f (PySem.W.fnOf name qual params body scope dV kV doc pm an cdv ct) ps sp where
  len := len
  go := fun A out s H as us vs Q E rm e0 bt rv q => by
    have n1 := len vs H Q E q
    have old : ∀ b o, base.get? b = some o → s.heap.get? b = some o := fun b o e => (e0.bs b o e).1
    have known := e0.mod.kin.keeps old
    have kinds : ∀ y ∈ ps.zip us, scope.names.lookup y.1 = some .local ∨ (scope.names.lookup y.1 = some .cell ∧ ((cellsFrom (s.heap.objs.size + 1) scope.names []).lookup y.1).isSome = true) := by
      rintro ⟨y, u⟩ hy
      cases S.par y (List.of_mem_zip hy).1 with
      | inl z => exact Or.inl z
      | inr z => exact Or.inr ⟨z, PySem.W.cellsFrom_some _ _ _ (Or.inl z)⟩
    apply codeAny_call_function rm.rm.depth (known _ _ at_) rfl S.co S.gen rfl (PySem.W.codeRec_of known cod)
    apply bt
    apply wpAny_newFunctionEnv_cells S.kind kinds
    rintro env rfl s1 mk
    refine ⟨(e0.mod.nolimit.keeps old).keeps mk.toInCall.keep, codeAny_func ?_⟩
    obtain ⟨t, d, q1⟩ := bod A out s H vs Q E (rm.deeper _) q
    refine wpAny_mono (d.run [] s1 (L2.start N vs) H _ (inv_start S rm.rm.hd e0 n1 rv mk) q1) ?_ fun _ _ z => z
    rintro (_ | _ | _ | u) s2 z
    · obtain ⟨σ', H', J, z⟩ := z
      exact ⟨.non, H', J.os, J.bare, J.base, J.hok, rfl, z⟩
    · obtain ⟨_, _, _, z⟩ := z
      exact z.elim
    · obtain ⟨_, _, _, z⟩ := z
      exact z.elim
    · obtain ⟨v, σ', H', J, r, z⟩ := z
      exact ⟨v, H', J.os, J.bare, J.base, J.hok, r, z⟩
end
/-- the callee runs -/
theorem run_G {X : Cx} {CX : CXT} {k : Nat} {f : Addr} {fd : FuncData} {ps : List Str} {sp : Sp} {E : L2.St → XK} {pins : List (Addr × Obj)} {σ : L2.St} {H : Hp} {s : Shared} {Q : VK} {as : PySem.Args} {us : List Value} {vs : List V} (G : FnG X.prog X.w X.K X.mg X.base CX k f fd ps sp) (hr : Rm X.base k X.A) (bt : BindsTo s fd as (ps.zip us)) (hx : PassesAt CX X σ (E σ))
    (I : Inv X pins σ H s) (r : Vals vs us) (h : sp vs H Q (E σ)) : wpAny (model X.prog X.w) X.A (call (.ref f) as.pos as.kw) (EP X pins σ Q) X.xe s := by
  refine wpAny_call (codeAny_mono (G.go X.A X.stack s H as us vs Q (E σ) hr I.env0 bt r h) ?_)
  rintro (e | fl) s' z
  · exact hx pins H s e s' I z
  · match fl, z with
    | .ret u, z => exact I.after z
theorem run_Gb {X : Cx} {CX : CXT} {k : Nat} {f : Addr} {fd : FuncData} {ps : List Str} {sp : Sp} {dvs : List V} {ds : List Value} {E : L2.St → XK} {pins : List (Addr × Obj)} {σ : L2.St} {H : Hp} {s : Shared} {Q : VK} {us : List Value} {vs : List V} (G : FnG X.prog X.w X.K X.mg X.base CX k f fd ps sp) (hr : Rm X.base k X.A) (hb : Binds X.K fd ps ds) (hd : Vals dvs ds) (hx : PassesAt CX X σ (E σ))
    (I : Inv X pins σ H s) (r : Vals vs us) (h : sp (vs ++ dvs) H Q (E σ)) : wpAny (model X.prog X.w) X.A (call (.ref f) us) (EP X pins σ Q) X.xe s := by
  have r2 := r.append hd
  exact run_G (as := ⟨us, []⟩) G hr (hb s us I.kIn (by rw [← r2.length]; exact G.len _ H Q (E σ) h)) hx I r2 h
theorem pe_callG {X : Cx} {CX : CXT} {k : Nat} {f : Addr} {fd : FuncData} {ps : List Str} {sp : Sp} {dvs : List V} {ds : List Value} {E : L2.St → XK} {x : Str} {p pos : Pos} {e : Expr} {es : List Expr} {t : TA} (G : FnG X.prog X.w X.K X.mg X.base CX k f fd ps sp) (hr : Rm X.base k X.A) (hg : Gl X x) (hm : X.mg x = some (.ref f)) (hk : PySem.W.keepIn X.K (.ref f) = true) (hb : Binds X.K fd ps ds) (hd : Vals dvs ds) (hx : ∀ σ, PassesAt CX X σ (E σ))
    (ha : PA X (e :: es) t) (hdb : (x == ("__debug__" : Str)) = false) (he : starEach (e :: es) X.env = (false, eval e X.env) :: starEach es X.env) (hpl : (backTo pos (starEach es X.env)).any (·.1) = false) :
    PE X (.Call (.Name x p) (e :: es) [] pos) (tCallSD sp dvs E t) := ⟨fun pins s σ H Q I h => by
  apply wpAny_Call_Name_kw (ld_glob I hg hm ?_ hdb)
  apply PySem.W.callWith_K (h₀ := X.base) I.ok.mod.kin hk (thn (ha.run pos pins s σ H _ I h) ?_) he hpl
  rintro us s1 ⟨vs, H1, I1, r, q⟩
  exact ⟨I1.kIn, run_Gb G hr hb hd (hx σ) I1 r q⟩⟩
/-! ### the law, asked from outside -/
theorem law_callG {P : Program} {w : World} {K : PySem.W.Frag} {mg mb : Str → Option Value} {CX : CXT} {k : Nat} {fa a : Addr} {fd : FuncData} {x : Str} {sp : Sp} {s₁ : Shared} {vs : List Value} {ns : List Int}
    (KX : K.In s₁.heap) (gs : s₁.heap.Ns mainGlobals mg) (bn : s₁.heap.Ns builtinsNs mb) (bb : ∀ x : Str, x ≠ "__name__" → mb x = bootBuiltins x) (nl : s₁.heap.NoLimit) (ng : s₁.gens = #[])
    (ha : s₁.heap.get? a = some { cls := .type "list", data := .seq vs.toArray }) (hi : IntsAre vs ns) (hl : ns.length ≤ sizeLine) (hr : Room k callerA) (sy : Sys s₁.heap)
    (F : ∀ base : Heap, K.In base → base.Ns mainGlobals mg → FnG P w K mg base CX k fa fd [x] sp) (bt : ∀ (s : Shared) (u : Value), BindsTo s fd ⟨[u], []⟩ [(x, u)])
    (hsp : ∀ H : Hp, Only H → SqL K H a (ns.map V.int) → sp [.ref a] H (fun v _ => v = .bl true) fun _ _ _ => False) (no : ∀ H e s', CX [] H s₁ (fun _ _ _ => False) e s' → False) :
    codeAny (model P w) callerA (.call (.ref fa) ⟨[.ref a], []⟩) (fun r s' => r = .ok (.ret (.bool true)) ∧ OldK s₁.heap s'.heap ∧ s'.os = s₁.os ∧ AllBare s'.gens) s₁ := by
  have vals := vals_ints hi
  have hn := hi.length
  -- the heap that is told: the script, where it is none of the module's own objects
  let u0 : HO := .frz { cls := .type "list", data := .seq vs.toArray } (.lst (ns.map V.int))
  let H : Hp := fun b => if b = a ∧ K.lookup a = none then some u0 else none
  have H1 : ∀ {b u}, H b = some u → b = a ∧ K.lookup a = none ∧ u = u0 := fun {b u} e => by
    by_cases c : b = a ∧ K.lookup a = none
    · have e' := (if_pos c).symm.trans e
      cases e'
      exact ⟨c.1, c.2, rfl⟩
    · exact nomatch (if_neg c).symm.trans e
  have only : Only H := fun b => by
    cases e : H b with
    | none => exact .inl rfl
    | some u =>
      obtain ⟨_, _, rfl⟩ := H1 e
      exact .inr ⟨_, _, rfl⟩
  have sq : SqL K H a (ns.map V.int) := by
    cases e : K.lookup a with
    | none => exact .inl (.inr ⟨_, if_pos ⟨rfl, e⟩⟩)
    | some o =>
      have g := KX a o e
      rw [ha] at g
      cases g
      refine .inr ⟨_, vs.toArray, _, e, rfl, rfl, rfl, ?_, ?_⟩
      · rw [List.size_toArray, hn]
        exact hl
      · simpa using vals
  have hok : HOk P w H s₁.heap := fun b u e => by
    obtain ⟨rfl, _, rfl⟩ := H1 e
    exact ⟨ha, by rw [List.length_map]; exact hl, vs, _, vals, ha⟩
  have seen : ∀ {b : Addr} {o : Obj}, s₁.heap.get? b = some o → H b = none → (hidT s₁.heap H).get? b = some o := fun e z => hidT_get e z
  have dic : ∀ {b : Addr} {o : Obj} {es : Array DictEntry} {ep : Nat}, s₁.heap.get? b = some o → o.data = .dict es ep → H b = none := fun {b o es ep} e d => by
    cases z : H b with
    | none => rfl
    | some u =>
      obtain ⟨rfl, _, _⟩ := H1 z
      rw [ha] at e
      cases e
      exact nomatch (show Data.seq vs.toArray _ = Data.dict es ep from d)
  have ns : ∀ {b : Addr} {m : Str → Option Value}, s₁.heap.Ns b m → (hidT s₁.heap H).Ns b m := by
    rintro b m ⟨o, es, ep, e, d, r⟩
    exact ⟨o, es, ep, seen e (dic e d), d, r⟩
  have kin : K.In (hidT s₁.heap H) := fun b o e => by
    cases z : H b with
    | none => exact seen (KX b o e) z
    | some u =>
      obtain ⟨rfl, z2, _⟩ := H1 z
      exact nomatch z2.symm.trans e
  have lim : (hidT s₁.heap H).NoLimit := by
    obtain ⟨mc, l1, l2⟩ := nl
    exact ⟨mc, ns l1, l2⟩
  have e0 : Env0 P w K mg (hidT s₁.heap H) callerA [] s₁ H := ⟨rfl, ⟨kin, ns gs, ⟨mb, ns bn, bb⟩, lim⟩, fun b o e => of_hidT e, Nat.le_of_eq (hidT_size _ _), trivial, fun b hb => absurd hb List.not_mem_nil, hok, .of_eq ng⟩
  refine codeAny_mono ((F _ kin (ns gs)).go callerA [] s₁ H ⟨[.ref a], []⟩ [.ref a] [.ref a] _ _ ⟨hr, rfl, let ⟨mm, y⟩ := sy; ⟨mm, ns y⟩⟩ e0 (bt s₁ (.ref a)) (.cons rfl .nil) (hsp H only sq)) ?_
  rintro (e | fl) s2 z
  · exact (no H e s2 z).elim
  · match fl, z with
    | .ret u, ⟨v, H2, os, bare, un, hok2, r, q⟩ =>
      obtain rfl : v = .bl true := q
      obtain rfl : u = Value.bool true := r
      refine ⟨rfl, OldK.of_keep fun b o e => ?_, os, bare⟩
      cases z : H b with
      | none => exact un.keep b o e z List.not_mem_nil List.not_mem_nil
      | some u =>
        obtain ⟨rfl, _, rfl⟩ := H1 z
        have g := (hok2 b _ (un.frzs b _ _ z)).1
        rw [ha] at e
        cases e
        exact g
/-- what the law's head leaves to show -/
theorem walk_ofG {l : PySem.W.OpenLaw} {n k : Nat} {q : Program} {loose : List Str} {XP : (Str → Option Value) → Heap → Prop} {YP : World → Heap → Prop} {d : DefRec} {K : Params → PySem.W.Frag} {CX : World → CXT} {sp : World → Sp} {x : Str}
    (hn : l.most = some n) (hn2 : n ≤ sizeLine) (hdf : d.params.defaults = []) (hr : Room k callerA) (im : importsNone q = true) (hY : ∀ (w : World) (h : Heap), YP w h → (K w.params).In h)
    (F : ∀ (w : World) (mg : Str → Option Value) (fa : Addr) (h : Heap), (K w.params).In h → h.Ns mainGlobals mg → mg d.name = some (.ref fa) →
      ∃ fd : FuncData, (∀ (s : Shared) (u : Value), BindsTo s fd ⟨[u], []⟩ [(x, u)]) ∧ ∀ base : Heap, (K w.params).In base → base.Ns mainGlobals mg → FnG l.prog w (K w.params) mg base (CX w) k fa fd [x] (sp w))
    (hsp : ∀ (w : World) (H : Hp) (a : Addr) (ns : List Int), ns.length ≤ n → Only H → SqL (K w.params) H a (ns.map V.int) → sp w [.ref a] H (fun v _ => v = .bl true) fun _ _ _ => False)
    (no : ∀ (w : World) (H : Hp) (s : Shared) (e : Value) (s' : Shared), CX w [] H s (fun _ _ _ => False) e s' → False) : PySem.W.WalkO q loose XP YP l.row.toRowW d [] (fun f vs => PySem.call f vs) := by
  apply Att.attach_call hn hdf
  intro w s0 s1 mg mb fa o pm cd doc a vs ns G Y _ _ _ hmg hobj hints hlen hg
  obtain ⟨fd, bt, hF⟩ := F w mg fa _ (hY w _ Y) G.T.g hmg
  exact law_callG (hY w _ Y) G.T.g G.T.b G.T.builtins G.T.nolimit hg hobj hints (Nat.le_trans hlen hn2) hr (let ⟨mm, y, _⟩ := (G.T.seer im).mods; ⟨mm, y⟩) hF bt (fun H hO hS => hsp w H a ns hlen hO hS) fun H e s' => no w H s1 e s'
end DW

/-! DwG: pieces of Python with their transformers: what a derivation is made of. -/
namespace DW
open PySem PySem.Spec PyProof.Rows L2

/-- the places where one piece of text runs (a body: one; a comprehension's block: any entry) -/
structure Fam (P : Program) (w : World) (K : PySem.W.Frag) (mg : Str → Option Value) (base : Heap) (N : List Str) (k : Nat) (W : WX) where
  ι : Type
  X : ι → Cx
  hP : ∀ i, (X i).prog = P
  hw : ∀ i, (X i).w = w
  hK : ∀ i, (X i).K = K
  hm : ∀ i, (X i).mg = mg
  hb : ∀ i, (X i).base = base
  hN : ∀ i, (X i).N = N
  calm : ∀ i, (X i).calm = true
  room : ∀ i, Rm base k (X i).A
  nd : N.Nodup
  po : ∀ i, PassesOwn (model (X i).prog (X i).w) (X i).A (X i).env (X i).xe
  tk : ∀ i, Takes (X i) W

section
variable {P : Program} {w : World} {K : PySem.W.Frag} {mg : Str → Option Value} {base : Heap} {N : List Str} {k : Nat} {W : WX}

def DE (F : Fam P w K mg base N k W) (e : Expr) (q : WE) : Prop := ∃ te, (∀ i, PE (F.X i) e te) ∧ EW K W te q
def DO (F : Fam P w K mg base N k W) (e : Expr) (q : WO) : Prop := ∃ te, (∀ i, PE (F.X i) e te) ∧ EO K W te q
def DT (F : Fam P w K mg base N k W) (e : Expr) (q : WT) : Prop := ∃ tt, (∀ i, PT (F.X i) e tt) ∧ TW K W tt q
def DP (F : Fam P w K mg base N k W) (e : Expr) (q : WT) : Prop := ∃ tt, (∀ i, PW (F.X i) e tt) ∧ TW K W tt q
def DL (F : Fam P w K mg base N k W) (es : List Expr) (q : List WE) : Prop := ∃ ta, (∀ i, PA (F.X i) es ta) ∧ AW K W ta q
def DC (F : Fam P w K mg base N k W) (es : List Expr) (q : List DA) : Prop := ∃ ta, (∀ i, PA (F.X i) es ta) ∧ CAW K W ta q
def DG (F : Fam P w K mg base N k W) (e : Expr) (q : Tg) : Prop := ∃ g, (∀ i, PG (F.X i) e g) ∧ GW K g q
def DGs (F : Fam P w K mg base N k W) (e : List Expr) (q : List Tg) : Prop := ∃ g, (∀ i, PGs (F.X i) e g) ∧ GWs K g q
def DS1 (F : Fam P w K mg base N k W) (s : Stmt) (q : WS) : Prop := ∃ t, (∀ i, PS (F.X i) s t) ∧ SW K W t q
def DSs (F : Fam P w K mg base N k W) (s : List Stmt) (q : WS) : Prop := ∃ t, (∀ i, PSs (F.X i) s t) ∧ SW K W t q

variable {F : Fam P w K mg base N k W} {a b c e : Expr} {es : List Expr} {x y : Str} {pos p p2 : Pos} {qa qb qc : WE} {q r : WT}

/-! ### names and constants -/
theorem d_var (i : Nat) (h : N[i]? = some x := by rfl) (hv : ∀ j, Vis (F.X j).env.scope x := by intro _; first | exact Or.inl rfl | exact Or.inr (Or.inl rfl) | exact Or.inr (Or.inr rfl))
    (hd : (x == ("__debug__" : Str)) = false := by decide) (hcd : (x == ("__classdict__" : Str)) = false := by decide) : DE F (.Name x pos) (wVar i) :=
  ⟨_, fun j => pe_var (by rw [F.hN j]; exact h) (hv j) hd hcd, ew_var i⟩
theorem d_int {i : Int} {j} : DE F (.Constant (.int i) j pos) (wC (.int i)) := ⟨_, fun _ => pe_int, ew_c fun _ => rfl⟩
theorem d_bl {i : Bool} {j} : DE F (.Constant (.bool i) j pos) (wC (.bl i)) := ⟨_, fun _ => pe_bl, ew_c fun _ => rfl⟩
theorem d_non {j} : DE F (.Constant .none j pos) (wC .non) := ⟨_, fun _ => pe_non, ew_c fun _ => rfl⟩
theorem d_str {i : String} {j} : DE F (.Constant (.str i) j pos) (wC (.str (Str.ofString i))) := ⟨_, fun _ => pe_str, ew_c fun _ => rfl⟩
/-- a module's constant -/
theorem d_glob {d : D} {v : V} {u : Value} (hm : mg x = some u) (r : RelV v u) (hr : ∀ G, Rep K G d v) (hg : ∀ j, Gl (F.X j) x := by intro _; rfl) (hd : (x == ("__debug__" : Str)) = false := by decide) : DE F (.Name x pos) (wC d) :=
  ⟨_, fun j => pe_glob (hg j) (by rw [F.hm j]; exact hm) r hd, ew_c hr⟩
/-! ### operators -/
theorem d_op {op : Operator} {f : B2} {rr : R2} (ho : ∀ X : Cx, OpR X (binaryOp op) rr) (hr : RW2 K rr f) (ha : DE F a qa) (hb : DE F b qb) : DE F (.BinOp a op b pos) (wBin f qa qb) := by
  obtain ⟨ta, a1, a2⟩ := ha
  obtain ⟨tb, b1, b2⟩ := hb
  exact ⟨_, fun i => pe_op (ho _) (a1 i) (b1 i), ew_op hr a2 b2⟩
theorem d_add (ha : DE F a qa) (hb : DE F b qb) : DE F (.BinOp a .Add b pos) (wBin dAdd qa qb) := d_op (fun _ => op_add) rw_add ha hb
theorem d_sub (ha : DE F a qa) (hb : DE F b qb) : DE F (.BinOp a .Sub b pos) (wBin dSub qa qb) := d_op (fun _ => op_sub) rw_sub ha hb
theorem d_mul (ha : DE F a qa) (hb : DE F b qb) : DE F (.BinOp a .Mult b pos) (wBin dMul qa qb) := d_op (fun _ => op_mulW) rw_mul ha hb
theorem d_fdiv (ha : DE F a qa) (hb : DE F b qb) : DE F (.BinOp a .FloorDiv b pos) (wBin dFdiv qa qb) := d_op (fun _ => op_fdivF) rw_fdiv ha hb
theorem d_mod (ha : DE F a qa) (hb : DE F b qb) : DE F (.BinOp a .Mod b pos) (wBin dMod qa qb) := d_op (fun _ => op_modN) rw_mod ha hb
theorem d_pow (ha : DE F a qa) (hb : DE F b qb) : DE F (.BinOp a .Pow b pos) (wBin dPow qa qb) := d_op (fun _ => op_pow) rw_pow ha hb
theorem d_neg (ha : DE F a qa) : DE F (.UnaryOp .USub a pos) (wUn dNeg qa) := by
  obtain ⟨ta, a1, a2⟩ := ha
  exact ⟨_, fun i => pe_un un_neg (a1 i), ew_un rw_neg a2⟩
/-! ### comparisons -/
theorem d_cmp {op : CmpOp} {f : B2} {rr : R2} (ho : ∀ j, OpR (F.X j) (compareOp op) rr) (hr : RW2 K rr f) (ha : DE F a qa) (hb : DE F b qb) (hm : behindInMarks op b = false) : DE F (.Compare a [op] [b] pos) (wBin f qa qb) := by
  obtain ⟨ta, a1, a2⟩ := ha
  obtain ⟨tb, b1, b2⟩ := hb
  exact ⟨_, fun i => pe_cmpR (ho i) (a1 i) (b1 i) hm, ew_op hr a2 b2⟩
theorem t_cmp {op : CmpOp} {f : B2} {rr : R2} (ho : ∀ j, OpR (F.X j) (compareOp op) rr) (hr : RW2 K rr f) (ha : DE F a qa) (hb : DE F b qb) (hm : behindInMarks op b = false) : DT F (.Compare a [op] [b] pos) (wTst (wBin f qa qb)) := by
  obtain ⟨ta, a1, a2⟩ := ha
  obtain ⟨tb, b1, b2⟩ := hb
  exact ⟨_, fun i => pt_cmpR (ho i) (a1 i) (b1 i) hm, tw_tst (ew_op hr a2 b2)⟩
theorem d_lt (ha : DE F a qa) (hb : DE F b qb) : DE F (.Compare a [.Lt] [b] pos) (wBin dLt qa qb) := d_cmp (fun _ => op_lt) rw_lt ha hb (nomark _)
theorem d_le (ha : DE F a qa) (hb : DE F b qb) : DE F (.Compare a [.LtE] [b] pos) (wBin dLe qa qb) := d_cmp (fun _ => op_le) rw_le ha hb (nomark _)
theorem d_gt (ha : DE F a qa) (hb : DE F b qb) : DE F (.Compare a [.Gt] [b] pos) (wBin dGt qa qb) := d_cmp (fun _ => op_gt) rw_gt ha hb (nomark _)
theorem d_ge (ha : DE F a qa) (hb : DE F b qb) : DE F (.Compare a [.GtE] [b] pos) (wBin dGe qa qb) := d_cmp (fun _ => op_ge) rw_ge ha hb (nomark _)
theorem t_lt (ha : DE F a qa) (hb : DE F b qb) : DT F (.Compare a [.Lt] [b] pos) (wTst (wBin dLt qa qb)) := t_cmp (fun _ => op_lt) rw_lt ha hb (nomark _)
theorem t_le (ha : DE F a qa) (hb : DE F b qb) : DT F (.Compare a [.LtE] [b] pos) (wTst (wBin dLe qa qb)) := t_cmp (fun _ => op_le) rw_le ha hb (nomark _)
theorem t_gt (ha : DE F a qa) (hb : DE F b qb) : DT F (.Compare a [.Gt] [b] pos) (wTst (wBin dGt qa qb)) := t_cmp (fun _ => op_gt) rw_gt ha hb (nomark _)
theorem t_ge (ha : DE F a qa) (hb : DE F b qb) : DT F (.Compare a [.GtE] [b] pos) (wTst (wBin dGe qa qb)) := t_cmp (fun _ => op_ge) rw_ge ha hb (nomark _)
theorem eqK {X : Cx} (h : X.K = K) (hu : X.A.units + 64 < cLine) : OpR X (compareOp .Eq) (rEqD K) := by subst h; exact op_eqD hu
theorem neK {X : Cx} (h : X.K = K) (hu : X.A.units + 64 < cLine) : OpR X (compareOp .NotEq) (rNeD K) := by subst h; exact op_neD hu
theorem d_eq (ha : DE F a qa) (hb : DE F b qb) : DE F (.Compare a [.Eq] [b] pos) (wBin dEq qa qb) := d_cmp (fun j => eqK (F.hK j) (F.room j).units) rw_eq ha hb (nomark _)
theorem d_ne (ha : DE F a qa) (hb : DE F b qb) : DE F (.Compare a [.NotEq] [b] pos) (wBin dNe qa qb) := d_cmp (fun j => neK (F.hK j) (F.room j).units) rw_ne ha hb (nomark _)
theorem t_eq (ha : DE F a qa) (hb : DE F b qb) : DT F (.Compare a [.Eq] [b] pos) (wTst (wBin dEq qa qb)) := t_cmp (fun j => eqK (F.hK j) (F.room j).units) rw_eq ha hb (nomark _)
theorem t_ne (ha : DE F a qa) (hb : DE F b qb) : DT F (.Compare a [.NotEq] [b] pos) (wTst (wBin dNe qa qb)) := t_cmp (fun j => neK (F.hK j) (F.room j).units) rw_ne ha hb (nomark _)
theorem d_isN {j} (ha : DE F a qa) : DE F (.Compare a [.Is] [.Constant .none j p] pos) (wUn dIsN qa) := by
  obtain ⟨ta, a1, a2⟩ := ha
  exact ⟨_, fun i => pe_cmp (pc_isN (a1 i)), ew_isN a2⟩
theorem d_notN {j} (ha : DE F a qa) : DE F (.Compare a [.IsNot] [.Constant .none j p] pos) (wUn dNotN qa) := by
  obtain ⟨ta, a1, a2⟩ := ha
  exact ⟨_, fun i => pe_cmp (pc_notN (a1 i)), ew_notN a2⟩
/-- any expression that gives True or False, as a test -/
theorem t_val (ha : DE F a qa) (he : ∀ j, ∀ whole, isTrue a (F.X j).env whole = (do let v ← whole; standAt a.pos; holding [v] (truthy v)) := by intro _ _; rfl) : DT F a (wTst qa) := by
  obtain ⟨ta, a1, a2⟩ := ha
  exact ⟨_, fun i => pt_val (a1 i) (he i), tw_b a2⟩
theorem t_isN {j} (ha : DE F a qa) : DT F (.Compare a [.Is] [.Constant .none j p] pos) (wTst (wUn dIsN qa)) := by
  obtain ⟨ta, a1, a2⟩ := ha
  exact ⟨_, fun i => pt_cmp (pc_isN (a1 i)), tw_b (ew_isN a2)⟩
theorem t_notN {j} (ha : DE F a qa) : DT F (.Compare a [.IsNot] [.Constant .none j p] pos) (wTst (wUn dNotN qa)) := by
  obtain ⟨ta, a1, a2⟩ := ha
  exact ⟨_, fun i => pt_cmp (pc_notN (a1 i)), tw_b (ew_notN a2)⟩
/-! ### and, or, not, if -/
theorem p_pt (h : DP F a q) : DT F a q := by
  obtain ⟨t, h1, h2⟩ := h
  exact ⟨t, fun i => (h1 i).pt, h2⟩
theorem p_and1 (h : DT F a q) : DP F (.BoolOp .And [a] pos) q := by
  obtain ⟨t, h1, h2⟩ := h
  exact ⟨t, fun i => pw_and1 (h1 i), h2⟩
theorem p_or1 (h : DT F a q) : DP F (.BoolOp .Or [a] pos) q := by
  obtain ⟨t, h1, h2⟩ := h
  exact ⟨t, fun i => pw_or1 (h1 i), h2⟩
theorem p_and (h : DT F a q) (h' : DP F (.BoolOp .And (b :: es) pos) r) : DP F (.BoolOp .And (a :: b :: es) pos) (wAnd q r) := by
  obtain ⟨t, h1, h2⟩ := h
  obtain ⟨u, u1, u2⟩ := h'
  exact ⟨_, fun i => pw_and (h1 i) (u1 i), tw_and h2 u2⟩
theorem p_or (h : DT F a q) (h' : DP F (.BoolOp .Or (b :: es) pos) r) : DP F (.BoolOp .Or (a :: b :: es) pos) (wOr q r) := by
  obtain ⟨t, h1, h2⟩ := h
  obtain ⟨u, u1, u2⟩ := h'
  exact ⟨_, fun i => pw_or (h1 i) (u1 i), tw_or h2 u2⟩
theorem t_not (h : DT F a q) : DT F (.UnaryOp .Not a pos) (wNot q) := by
  obtain ⟨t, h1, h2⟩ := h
  exact ⟨_, fun i => pt_not (h1 i), tw_not h2⟩
theorem d_one {op} (h : DE F a qa) : DE F (.BoolOp op [a] pos) qa := by
  obtain ⟨t, h1, h2⟩ := h
  exact ⟨_, fun i => pe_one (h1 i), h2⟩
theorem d_and (h : DE F a qa) (h' : DE F (.BoolOp .And (b :: es) pos) qb) : DE F (.BoolOp .And (a :: b :: es) pos) (wAndV qa qb) := by
  obtain ⟨t, h1, h2⟩ := h
  obtain ⟨u, u1, u2⟩ := h'
  exact ⟨_, fun i => pe_and (h1 i) (u1 i), ew_and h2 u2⟩
theorem d_or (h : DE F a qa) (h' : DE F (.BoolOp .Or (b :: es) pos) qb) : DE F (.BoolOp .Or (a :: b :: es) pos) (wOrV qa qb) := by
  obtain ⟨t, h1, h2⟩ := h
  obtain ⟨u, u1, u2⟩ := h'
  exact ⟨_, fun i => pe_or (h1 i) (u1 i), ew_or h2 u2⟩
theorem d_not (h : DE F a qa) : DE F (.UnaryOp .Not a pos) (wNotV qa) := by
  obtain ⟨t, h1, h2⟩ := h
  exact ⟨_, fun i => pe_not (h1 i), ew_not h2⟩
theorem d_if (h : DT F c q) (ha : DE F a qa) (hb : DE F b qb) : DE F (.IfExp c a b pos) (wIf q qa qb) := by
  obtain ⟨t, h1, h2⟩ := h
  obtain ⟨u, u1, u2⟩ := ha
  obtain ⟨v, v1, v2⟩ := hb
  exact ⟨_, fun i => pe_ifExp (h1 i) (u1 i) (v1 i), ew_if h2 u2 v2⟩
/-! ### arguments, displays, items -/
theorem l_nil : DL F [] [] := ⟨_, fun _ => pa_nil, aw_nil⟩
theorem l_cons {qs : List WE} (ha : DE F a qa) (hr : DL F es qs) (hs : ∀ j, starEach (a :: es) (F.X j).env = (false, eval a (F.X j).env) :: starEach es (F.X j).env := by intro _; rfl) : DL F (a :: es) (qa :: qs) := by
  obtain ⟨t, h1, h2⟩ := ha
  obtain ⟨u, u1, u2⟩ := hr
  exact ⟨_, fun i => pa_cons (h1 i) (u1 i) (hs i), aw_cons h2 u2⟩
theorem d_tup {qs : List WE} {x1} (h : DL F es qs) (hl : qs.length ≤ 100000 := by decide) : DE F (.Tuple es x1 pos) (wTup qs) := by
  obtain ⟨u, u1, u2⟩ := h
  exact ⟨_, fun i => pe_tup (u1 i), ew_tup u2 hl⟩
theorem o_lst {qs : List WE} (h : DL F es qs) (hl : qs.length ≤ 100000 := by decide) : DO F (.List es pos) (wLst qs) := by
  obtain ⟨u, u1, u2⟩ := h
  exact ⟨_, fun i => pe_lst (u1 i), eo_lst u2 hl⟩
theorem d_frz {o : WO} (h : DO F a o) : DE F a (wFrz o) := by
  obtain ⟨u, u1, u2⟩ := h
  exact ⟨_, u1, ew_frz u2⟩
theorem ixK {X : Cx} (h : X.K = K) : IxR X (rIx K) := by subst h; exact ix_seq
theorem d_ix (ha : DE F a qa) (hb : DE F b qb) (hs : PlainIx b := by intro _ _; rfl) : DE F (.Subscript a b pos) (wBin dIx qa qb) := by
  obtain ⟨t, h1, h2⟩ := ha
  obtain ⟨u, u1, u2⟩ := hb
  exact ⟨_, fun i => pe_ix (ixK (F.hK i)) (h1 i) (u1 i) hs, ew_op rw_ix h2 u2⟩
/-- an item of the own list in slot i -/
theorem d_ixO (i : Nat) (hb : DE F b qb) (h : N[i]? = some x := by rfl) (hv : ∀ j, Vis (F.X j).env.scope x := by intro _; first | exact Or.inl rfl | exact Or.inr (Or.inl rfl) | exact Or.inr (Or.inr rfl))
    (hd : (x == ("__debug__" : Str)) = false := by decide) (hcd : (x == ("__classdict__" : Str)) = false := by decide) (hs : PlainIx b := by intro _ _; rfl) : DE F (.Subscript (.Name x p) b pos) (wIxO i qb) := by
  obtain ⟨u, u1, u2⟩ := hb
  exact ⟨_, fun j => pe_ix (ixK (F.hK j)) (pe_var (i := i) (by rw [F.hN j]; exact h) (hv j) hd hcd) (u1 j) hs, ew_ixO u2⟩
/-! ### built-ins -/
theorem d_b1 {id : String} {f : B1} {rr : List V → Hp → VK → Prop} (hc : ∀ j, CallR (F.X j) (.builtin id) rr) (hr : RWC1 K rr f) (hm : mg x = none) (hv : bootBuiltins x = some (.builtin id)) (ha : DE F a qa) (hg : ∀ j, Gl (F.X j) x := by intro _; rfl) (hn : x ≠ "__name__" := by decide)
    (hdb : (x == ("__debug__" : Str)) = false := by decide) (hs : ∀ j, starEach [a] (F.X j).env = (false, eval a (F.X j).env) :: starEach [] (F.X j).env := by intro _; rfl) (hpl : ∀ j, (backTo pos (starEach [] (F.X j).env)).any (·.1) = false := by intro _; rfl) :
    DE F (.Call (.Name x p) [a] [] pos) (wUn f qa) := by
  obtain ⟨t, h1, h2⟩ := ha
  exact ⟨_, fun j => pe_callB (hc j) (hg j) (by rw [F.hm j]; exact hm) hv (pa_cons (h1 j) pa_nil (hs j)) hn hdb (hs j) (hpl j), ew_cb1 hr h2⟩
theorem d_b2 {id : String} {f : B2} {rr : List V → Hp → VK → Prop} (hc : ∀ j, CallR (F.X j) (.builtin id) rr) (hr : RWC2 K rr f) (hm : mg x = none) (hv : bootBuiltins x = some (.builtin id)) (ha : DE F a qa) (hb : DE F b qb) (hg : ∀ j, Gl (F.X j) x := by intro _; rfl) (hn : x ≠ "__name__" := by decide)
    (hdb : (x == ("__debug__" : Str)) = false := by decide) (hs : ∀ j, starEach [a, b] (F.X j).env = (false, eval a (F.X j).env) :: starEach [b] (F.X j).env := by intro _; rfl) (hs2 : ∀ j, starEach [b] (F.X j).env = (false, eval b (F.X j).env) :: starEach [] (F.X j).env := by intro _; rfl)
    (hpl : ∀ j, (backTo pos (starEach [b] (F.X j).env)).any (·.1) = false := by intro _; rfl) : DE F (.Call (.Name x p) [a, b] [] pos) (wBin f qa qb) := by
  obtain ⟨t, h1, h2⟩ := ha
  obtain ⟨u, u1, u2⟩ := hb
  exact ⟨_, fun j => pe_callB (hc j) (hg j) (by rw [F.hm j]; exact hm) hv (pa_cons (h1 j) (pa_cons (u1 j) pa_nil (hs2 j)) (hs j)) hn hdb (hs j) (hpl j), ew_cb2 hr h2 u2⟩
theorem lenK {X : Cx} (h : X.K = K) : CallR X (.builtin "len") (rLen K) := by subst h; exact call_len
theorem allK {X : Cx} (h : X.K = K) (c : X.calm = true) : CallR X (.builtin "all") (rAll K) := by subst h; exact cr_all c
theorem anyK {X : Cx} (h : X.K = K) (c : X.calm = true) : CallR X (.builtin "any") (rAny K) := by subst h; exact cr_any c
theorem sumK {X : Cx} (h : X.K = K) (c : X.calm = true) : CallR X (.builtin "sum") (rSum K) := by subst h; exact cr_sum c
theorem isiK {X : Cx} (h : X.K = K) : CallR X (.builtin "isinstance") (rIsi K) := by subst h; exact call_isi
theorem isiTK {X : Cx} (h : X.K = K) : CallR X (.builtin "isinstance") (rIsiT K) := by subst h; exact call_isiT
theorem d_isi (T : Ty) {u : Value} (hi : mg "isinstance" = none) (hm : mg x = none) (hv : bootBuiltins x = some u) (hu : u = .type T.nm) (ha : DE F a qa) (hgi : ∀ j, Gl (F.X j) "isinstance" := by intro _; rfl) (hg : ∀ j, Gl (F.X j) x := by intro _; rfl) (hn : x ≠ "__name__" := by decide)
    (hdb : (x == ("__debug__" : Str)) = false := by decide) (hs : ∀ j, starEach [a, .Name x p2] (F.X j).env = (false, eval a (F.X j).env) :: starEach [.Name x p2] (F.X j).env := by intro _; rfl) (hs2 : ∀ j, starEach [.Name x p2] (F.X j).env = (false, eval (.Name x p2) (F.X j).env) :: starEach [] (F.X j).env := by intro _; rfl)
    (hpl : ∀ j, (backTo pos (starEach [.Name x p2] (F.X j).env)).any (·.1) = false := by intro _; rfl) : DE F (.Call (.Name "isinstance" p) [a, .Name x p2] [] pos) (wUn (dIsTy T) qa) := by
  obtain ⟨t, h1, h2⟩ := ha
  subst hu
  exact ⟨_, fun j => pe_callB (isiK (F.hK j)) (hgi j) (by rw [F.hm j]; exact hi) (by decide +kernel) (pa_cons (h1 j) (pa_cons (pe_bltn (v := .ty T.nm) (hg j) (by rw [F.hm j]; exact hm) hv rfl hn hdb) pa_nil (hs2 j)) (hs j)) (by decide) (by decide) (hs j) (hpl j), ew_isi T h2⟩
/-! ### calls of the program's own defs -/
theorem c_nil : DC F [] [] := ⟨_, fun _ => pa_nil, ca_nil⟩
theorem c_v {qs : List DA} (ha : DE F a qa) (hr : DC F es qs) (hs : ∀ j, starEach (a :: es) (F.X j).env = (false, eval a (F.X j).env) :: starEach es (F.X j).env := by intro _; rfl) : DC F (a :: es) (.v qa :: qs) := by
  obtain ⟨t, h1, h2⟩ := ha
  obtain ⟨u, u1, u2⟩ := hr
  exact ⟨_, fun i => pa_cons (h1 i) (u1 i) (hs i), ca_v h2 u2⟩
theorem c_s (i : Nat) {qs : List DA} (hr : DC F es qs) (h : N[i]? = some x := by rfl) (hv : ∀ j, Vis (F.X j).env.scope x := by intro _; first | exact Or.inl rfl | exact Or.inr (Or.inl rfl) | exact Or.inr (Or.inr rfl))
    (hd : (x == ("__debug__" : Str)) = false := by decide) (hcd : (x == ("__classdict__" : Str)) = false := by decide) (hs : ∀ j, starEach (.Name x p :: es) (F.X j).env = (false, eval (.Name x p) (F.X j).env) :: starEach es (F.X j).env := by intro _; rfl) : DC F (.Name x p :: es) (.s i :: qs) := by
  obtain ⟨u, u1, u2⟩ := hr
  exact ⟨_, fun j => pa_cons (pe_var (i := i) (by rw [F.hN j]; exact h) (hv j) hd hcd) (u1 j) (hs j), ca_s u2⟩
theorem callX {X : Cx} {CX : CXT} {kf : Nat} {f : Addr} {fd : FuncData} {ps : List Str} {fs : FS} {ta : TA} {mv : List V} {mu : List Value} (hP : X.prog = P) (hw : X.w = w) (hK : X.K = K) (hm : X.mg = mg) (hb : X.base = base) (G : FnG P w K mg base CX kf f fd ps (spOf K fs)) (hr : Rm base k X.A) (hk : kf ≤ k)
    (hg : Gl X x) (gm : mg x = some (.ref f)) (kp : PySem.W.keepIn K (.ref f) = true) (bb : Binds K fd ps mu) (hd : Vals mv mu) (hx : ∀ σ, PassesAt CX X σ (L2.WE W σ)) (ha : PA X (a :: es) ta) (hdb : (x == ("__debug__" : Str)) = false)
    (he : starEach (a :: es) X.env = (false, eval a X.env) :: starEach es X.env) (hpl : (backTo pos (starEach es X.env)).any (·.1) = false) : PE X (.Call (.Name x p) (a :: es) [] pos) (tCallSD (spOf K fs) mv (L2.WE W) ta) := by
  subst hP hw hK hm hb
  exact pe_callG G (hr.mono hk) hg gm kp bb hd hx ha hdb he hpl
/-- f(..), f a def that raises nothing -/
theorem d_call {kf : Nat} {f : Addr} {fd : FuncData} {ps : List Str} {fs : FS} {qs : List DA} (G : FnG P w K mg base CX0 kf f fd ps (spOf K fs)) (gm : mg x = some (.ref f)) (kp : PySem.W.keepIn K (.ref f) = true) (bb : Binds K fd ps []) (ha : DC F (a :: es) qs) (hk : kf ≤ k := by decide)
    (hg : ∀ j, Gl (F.X j) x := by intro _; rfl) (hdb : (x == ("__debug__" : Str)) = false := by decide) (he : ∀ j, starEach (a :: es) (F.X j).env = (false, eval a (F.X j).env) :: starEach es (F.X j).env := by intro _; rfl)
    (hpl : ∀ j, (backTo pos (starEach es (F.X j).env)).any (·.1) = false := by intro _; rfl) : DE F (.Call (.Name x p) (a :: es) [] pos) (wCall fs qs) := by
  obtain ⟨u, u1, u2⟩ := ha
  exact ⟨_, fun j => callX (F.hP j) (F.hw j) (F.hK j) (F.hm j) (F.hb j) G (F.room j) hk (hg j) gm kp bb .nil (fun _ _ _ _ _ _ _ h => h.elim) (u1 j) hdb (he j) (hpl j), ew_call u2 fun _ => rfl⟩
theorem o_call {kf : Nat} {f : Addr} {fd : FuncData} {ps : List Str} {fs : FS} {qs : List DA} (G : FnG P w K mg base CX0 kf f fd ps (spOf K fs)) (gm : mg x = some (.ref f)) (kp : PySem.W.keepIn K (.ref f) = true) (bb : Binds K fd ps []) (ha : DC F (a :: es) qs) (hk : kf ≤ k := by decide)
    (hg : ∀ j, Gl (F.X j) x := by intro _; rfl) (hdb : (x == ("__debug__" : Str)) = false := by decide) (he : ∀ j, starEach (a :: es) (F.X j).env = (false, eval a (F.X j).env) :: starEach es (F.X j).env := by intro _; rfl)
    (hpl : ∀ j, (backTo pos (starEach es (F.X j).env)).any (·.1) = false := by intro _; rfl) : DO F (.Call (.Name x p) (a :: es) [] pos) (wCallO fs qs) := by
  obtain ⟨u, u1, u2⟩ := ha
  exact ⟨_, fun j => callX (F.hP j) (F.hw j) (F.hK j) (F.hm j) (F.hb j) G (F.room j) hk (hg j) gm kp bb .nil (fun _ _ _ _ _ _ _ h => h.elim) (u1 j) hdb (he j) (hpl j), eo_call u2 fun _ => rfl⟩
end
end DW

/-! DwH: targets, statements, a def's body. -/
namespace DW
open PySem PySem.Spec PyProof.Rows L2

section
variable {P : Program} {w : World} {K : PySem.W.Frag} {mg : Str → Option Value} {base : Heap} {N : List Str} {k : Nat} {W : WX}
variable {F : Fam P w K mg base N k W} {a b c e : Expr} {es : List Expr} {x y z : Str} {pos p p2 p3 p4 : Pos} {qa qb qc : WE} {q r : WT} {s : Stmt} {ss s1 s2 : List Stmt} {ws wr : WS} {o : WO} {tg : Tg}

/-! ### targets -/
theorem g_nm (i : Nat) (h : N[i]? = some x := by rfl) (hx : ∀ j, Loc (F.X j).env.scope x := by intro _; first | exact Or.inl rfl | exact Or.inr rfl)
    (hf : ∀ j, (F.X j).fn x = true ∨ (F.X j).env.scope.names.lookup x = some .local := by intro _; first | exact .inl rfl | exact .inr rfl) : DG F (.Name x pos) (.nm i) :=
  ⟨_, fun j => pg_name (by rw [F.hN j]; exact F.nd) (by rw [F.hN j]; exact h) (hx j) (hf j), gw_nm⟩
theorem gs_nil : DGs F [] [] := ⟨_, fun _ => pgs_nil, gws_nil⟩
theorem gs_cons {ts : List Tg} (h : DG F e tg) (hr : DGs F es ts) (hn : ∀ j, ((assignEach (e :: es) (F.X j).env).map (·.2)) = assign e (F.X j).env :: (assignEach es (F.X j).env).map (·.2) := by intro _; rfl) : DGs F (e :: es) (tg :: ts) := by
  obtain ⟨t, h1, h2⟩ := h
  obtain ⟨u, u1, u2⟩ := hr
  exact ⟨_, fun j => pgs_cons (h1 j) (u1 j) (hn j), gws_cons h2 u2⟩
theorem gtupK {X : Cx} {g : TGs} {kk : Nat} {n : Nat} (h : X.K = K) (hc : X.calm = true) (hg : PGs X es g) (hn : (assignEach es X.env).length = n) (hst : (assignEach es X.env).findIdx? (·.1) = none) : PG X (.Tuple es kk pos) (gTup K n g) := by
  subst h
  exact pg_tup hc hg hn hst
theorem g_tp {ts : List Tg} {kk : Nat} (h : DGs F es ts) (hn : ∀ j, (assignEach es (F.X j).env).length = ts.length := by intro _; rfl) (hst : ∀ j, (assignEach es (F.X j).env).findIdx? (·.1) = none := by intro _; rfl) : DG F (.Tuple es kk pos) (.tp ts) := by
  obtain ⟨u, u1, u2⟩ := h
  exact ⟨_, fun j => gtupK (F.hK j) (F.calm j) (u1 j) (hn j) (hst j), gw_tp u2⟩
/-! ### statements -/
theorem ss_nil : DSs F [] wNext := ⟨_, fun _ => pss_nil, sw_next⟩
theorem ss_cons (h : DS1 F s ws) (h' : DSs F ss wr) : DSs F (s :: ss) (wSeq ws wr) := by
  obtain ⟨t, h1, h2⟩ := h
  obtain ⟨u, u1, u2⟩ := h'
  exact ⟨_, fun i => pss_cons (h1 i) (u1 i), sw_seq h2 u2⟩
theorem ss_one (h : DS1 F s ws) : DSs F [s] ws := by
  obtain ⟨t, h1, h2⟩ := h
  exact ⟨_, fun i => pss_one (h1 i), h2⟩
/-- name = e -/
theorem s_set (i : Nat) (he : DE F e qa) (h : N[i]? = some x := by rfl) (hx : ∀ j, Loc (F.X j).env.scope x := by intro _; first | exact Or.inl rfl | exact Or.inr rfl) (hs : ∀ j, swapsWith e (some (.Name x p)) pos.line (F.X j).env = pure false := by intro _; rfl)
    (hf : ∀ j, (F.X j).fn x = true ∨ (F.X j).env.scope.names.lookup x = some .local := by intro _; first | exact .inl rfl | exact .inr rfl) : DS1 F (.Assign [.Name x p] e pos) (wAsg qa (.nm i)) := by
  obtain ⟨t, h1, h2⟩ := he
  exact ⟨_, fun j => ps_set (i := i) (by rw [F.hN j]; exact F.nd) (by rw [F.hN j]; exact h) (hx j) (h1 j) (hs j) (hf j), sw_asg h2 gw_nm⟩
/-- name = a list of the body's own -/
theorem s_setO (i : Nat) (he : DO F e o) (h : N[i]? = some x := by rfl) (hx : ∀ j, Loc (F.X j).env.scope x := by intro _; first | exact Or.inl rfl | exact Or.inr rfl) (hs : ∀ j, swapsWith e (some (.Name x p)) pos.line (F.X j).env = pure false := by intro _; rfl)
    (hf : ∀ j, (F.X j).fn x = true ∨ (F.X j).env.scope.names.lookup x = some .local := by intro _; first | exact .inl rfl | exact .inr rfl) : DS1 F (.Assign [.Name x p] e pos) (wAsgO o i) := by
  obtain ⟨t, h1, h2⟩ := he
  exact ⟨_, fun j => ps_set (i := i) (by rw [F.hN j]; exact F.nd) (by rw [F.hN j]; exact h) (hx j) (h1 j) (hs j) (hf j), sw_asgO h2⟩
/-- any other target -/
theorem s_asg (he : DE F e qa) (hg : DG F a tg) (hs : ∀ j, swapsWithSole [a] e pos.line (F.X j).env = pure false := by intro _; rfl) (hw : ∀ j, swappedStores [a] e (F.X j).env = pure none := by intro _; rfl)
    (h1 : ∀ j, (assignEach [a] (F.X j).env).map (·.2) = [assign a (F.X j).env] := by intro _; rfl) : DS1 F (.Assign [a] e pos) (wAsg qa tg) := by
  obtain ⟨t, t1, t2⟩ := he
  obtain ⟨g, g1, g2⟩ := hg
  exact ⟨_, fun j => ps_asg (t1 j) (g1 j) (hs j) (hw j) (h1 j), sw_asg t2 g2⟩
/-- x, y = a, b -/
theorem s_par (i l : Nat) {kt k2 : Nat} (ha : DE F a qa) (hb : DE F b qb) (hi : N[i]? = some x := by rfl) (hl : N[l]? = some y := by rfl) (hn : i ≠ l := by decide) (hx : ∀ j, (F.X j).env.scope.names.lookup x = some .local := by intro _; rfl) (hy : ∀ j, (F.X j).env.scope.names.lookup y = some .local := by intro _; rfl)
    (hw : ∀ j, swappedStores [.Tuple [.Name x p, .Name y p2] kt p3] (.Tuple [a, b] k2 p4) (F.X j).env = pure (some [x, y]) := by intro _; rfl) (hs : ∀ j, swapsWithSole [.Tuple [.Name x p, .Name y p2] kt p3] (.Tuple [a, b] k2 p4) pos.line (F.X j).env = pure false := by intro _; rfl)
    (h1 : ∀ j, starEach [a, b] (F.X j).env = (false, eval a (F.X j).env) :: starEach [b] (F.X j).env := by intro _; rfl) (h2 : ∀ j, starEach [b] (F.X j).env = (false, eval b (F.X j).env) :: starEach [] (F.X j).env := by intro _; rfl) :
    DS1 F (.Assign [.Tuple [.Name x p, .Name y p2] kt p3] (.Tuple [a, b] k2 p4) pos) (wPar i l qa qb) := by
  obtain ⟨t, t1, t2⟩ := ha
  obtain ⟨u, u1, u2⟩ := hb
  exact ⟨_, fun j => ps_par (F.calm j) (by rw [F.hN j]; exact F.nd) (by rw [F.hN j]; exact hi) (by rw [F.hN j]; exact hl) hn (hx j) (hy j) (pa_cons (t1 j) (pa_cons (u1 j) pa_nil (h2 j)) (h1 j)) (hw j) (hs j), sw_par t2 u2⟩
theorem s_ret (he : DE F e qa) : DS1 F (.Return (some e) pos) (wRet qa) := by
  obtain ⟨t, t1, t2⟩ := he
  exact ⟨_, fun j => ps_ret (t1 j), sw_ret t2⟩
theorem s_retO (he : DO F e o) : DS1 F (.Return (some e) pos) (wRetO o) := by
  obtain ⟨t, t1, t2⟩ := he
  exact ⟨_, fun j => ps_ret (t1 j), sw_retO t2⟩
theorem s_retS (i : Nat) (h : N[i]? = some x := by rfl) (hv : ∀ j, Vis (F.X j).env.scope x := by intro _; first | exact Or.inl rfl | exact Or.inr (Or.inl rfl) | exact Or.inr (Or.inr rfl))
    (hd : (x == ("__debug__" : Str)) = false := by decide) (hcd : (x == ("__classdict__" : Str)) = false := by decide) : DS1 F (.Return (some (.Name x p)) pos) (wRetS i) :=
  ⟨_, fun j => ps_ret (pe_var (i := i) (by rw [F.hN j]; exact h) (hv j) hd hcd), sw_retS⟩
theorem s_retN : DS1 F (.Return none pos) wRetN := ⟨_, fun _ => ps_retN, sw_retN⟩
theorem s_if (hc : DT F c q) (h1 : DSs F s1 ws) (h2 : DSs F s2 wr) : DS1 F (.If c s1 s2 pos) (wIfS q ws wr) := by
  obtain ⟨t, t1, t2⟩ := hc
  obtain ⟨u, u1, u2⟩ := h1
  obtain ⟨v, v1, v2⟩ := h2
  exact ⟨_, fun j => ps_if (t1 j) (u1 j) (v1 j), sw_if t2 u2 v2⟩
theorem s_drop (he : DE F e qa) (hs : ∀ j, swapsWith e none pos.line (F.X j).env = pure false := by intro _; rfl) : DS1 F (.Expr e pos) (wDrop qa) := by
  obtain ⟨t, t1, t2⟩ := he
  exact ⟨_, fun j => ps_expr (t1 j) (hs j), sw_drop t2⟩
theorem s_pass : DS1 F (.Pass pos) wNext := ⟨_, fun _ => ps_pass, sw_next⟩
theorem s_brk : DS1 F (.Break pos) wBrk := ⟨_, fun _ => ps_break, sw_brk⟩
theorem s_cont : DS1 F (.Continue pos) wCont := ⟨_, fun _ => ps_continue, sw_cont⟩
theorem s_never : DS1 F s wNever := ⟨_, fun _ => ps_never, sw_never⟩
/-- xs[e] = v, the own list in slot i -/
theorem s_put (i : Nat) (ha : DE F a qa) (hb : DE F b qb) (h : N[i]? = some x := by rfl) (hv : ∀ j, Vis (F.X j).env.scope x := by intro _; first | exact Or.inl rfl | exact Or.inr (Or.inl rfl) | exact Or.inr (Or.inr rfl))
    (hd : (x == ("__debug__" : Str)) = false := by decide) (hcd : (x == ("__classdict__" : Str)) = false := by decide)
    (hs : ∀ j, swapsWithSole [.Subscript (.Name x p) b p2] a pos.line (F.X j).env = pure false := by intro _; rfl) (hw : ∀ j, swappedStores [.Subscript (.Name x p) b p2] a (F.X j).env = pure none := by intro _; rfl)
    (h1 : ∀ j, (assignEach [.Subscript (.Name x p) b p2] (F.X j).env).map (·.2) = [assign (.Subscript (.Name x p) b p2) (F.X j).env] := by intro _; rfl)
    (ha2 : ∀ j, ∀ v, assign (.Subscript (.Name x p) b p2) (F.X j).env v = (do
      let ov ← holding [v] (eval (.Name x p) (F.X j).env)
      let iv ← holding [v, ov] (eval b (F.X j).env)
      standAt p2
      holding [v, ov, iv] (setItem ov iv v)
      release [v, ov, iv] []) := by intro _ _; rfl) : DS1 F (.Assign [.Subscript (.Name x p) b p2] a pos) (wSet i qb qa) := by
  obtain ⟨t, t1, t2⟩ := ha
  obtain ⟨u, u1, u2⟩ := hb
  exact ⟨_, fun j => ps_asg (t1 j) (pg_sub (pe_var (i := i) (by rw [F.hN j]; exact h) (hv j) hd hcd) (u1 j) set_list (ha2 j)) (hs j) (hw j) (h1 j), sw_set t2 u2⟩
theorem appK {X : Cx} {to : TE} {t : TA} {apos : Pos} (h : X.K = K) (ho : PE X e to) (ha : PA X [a] t) (hbase : attributeBase e "append" X.env (eval e X.env) = eval e X.env)
    (hfew : ((backTo pos (starEach [a] X.env)).all (fun x => !x.1) && (backToKw pos (keywordEach [] X.env)).all (fun x => x.1.isSome) && decide ([a].length + ([] : List Keyword).length + (if ([] : List Keyword).isEmpty then 0 else 1) < 30)) = true)
    (hline : (apos.endLine == pos.line) = true) (hs : starEach [a] X.env = (false, eval a X.env) :: starEach [] X.env) (hplain : (backTo pos (starEach [] X.env)).any (·.1) = false) :
    PE X (.Call (.Attribute e "append" apos) [a] [] pos) (tBM K "list" rAppend to t) := by
  subst h
  exact pe_bm PySem.F.plainAttrs_list PySem.F.slot_list_append PySem.F.type_list_append mt_append ho ha hbase hfew hline hs hplain
/-- xs.append(v), the own list in slot i -/
theorem s_app (i : Nat) {apos cpos : Pos} (ha : DE F a qa) (h : N[i]? = some x := by rfl) (hv : ∀ j, Vis (F.X j).env.scope x := by intro _; first | exact Or.inl rfl | exact Or.inr (Or.inl rfl) | exact Or.inr (Or.inr rfl))
    (hd : (x == ("__debug__" : Str)) = false := by decide) (hcd : (x == ("__classdict__" : Str)) = false := by decide) (hbase : ∀ j, attributeBase (.Name x p) "append" (F.X j).env (eval (.Name x p) (F.X j).env) = eval (.Name x p) (F.X j).env := by intro _; rfl)
    (hfew : ∀ j, ((backTo cpos (starEach [a] (F.X j).env)).all (fun x => !x.1) && (backToKw cpos (keywordEach [] (F.X j).env)).all (fun x => x.1.isSome) && decide ([a].length + ([] : List Keyword).length + (if ([] : List Keyword).isEmpty then 0 else 1) < 30)) = true := by intro _; rfl)
    (hline : (apos.endLine == cpos.line) = true := by rfl) (hs : ∀ j, starEach [a] (F.X j).env = (false, eval a (F.X j).env) :: starEach [] (F.X j).env := by intro _; rfl) (hplain : ∀ j, (backTo cpos (starEach [] (F.X j).env)).any (·.1) = false := by intro _; rfl)
    (hsw : ∀ j, swapsWith (.Call (.Attribute (.Name x p) "append" apos) [a] [] cpos) none pos.line (F.X j).env = pure false := by intro _; rfl) : DS1 F (.Expr (.Call (.Attribute (.Name x p) "append" apos) [a] [] cpos) pos) (wApp i qa) := by
  obtain ⟨t, t1, t2⟩ := ha
  exact ⟨_, fun j => ps_expr (appK (F.hK j) (pe_var (i := i) (by rw [F.hN j]; exact h) (hv j) hd hcd) (pa_cons (t1 j) pa_nil (hs j)) (hbase j) (hfew j) hline (hs j) (hplain j)) (hsw j), sw_app t2⟩
/-- x op= e -/
theorem s_aug (i : Nat) {op : Operator} {ti : TIp} {f : B2} (ho : ∀ X : Cx, PIp X op ti) (hr : RW2 K ti f) (he : DE F e qa) (h : N[i]? = some x := by rfl) (hx : ∀ j, Loc (F.X j).env.scope x := by intro _; first | exact Or.inl rfl | exact Or.inr rfl)
    (hf : ∀ j, (F.X j).fn x = true ∨ (F.X j).env.scope.names.lookup x = some .local := by intro _; first | exact .inl rfl | exact .inr rfl) : DS1 F (.AugAssign (.Name x p) op e pos) (wAug i f qa) := by
  obtain ⟨t, t1, t2⟩ := he
  exact ⟨_, fun j => ps_aug (i := i) (by rw [F.hN j]; exact F.nd) (by rw [F.hN j]; exact h) (hx j) (t1 j) (ho _) (hf j), sw_aug hr t2⟩
theorem s_augAdd (i : Nat) (he : DE F e qa) (h : N[i]? = some x := by rfl) (hx : ∀ j, Loc (F.X j).env.scope x := by intro _; first | exact Or.inl rfl | exact Or.inr rfl)
    (hf : ∀ j, (F.X j).fn x = true ∨ (F.X j).env.scope.names.lookup x = some .local := by intro _; first | exact .inl rfl | exact .inr rfl) : DS1 F (.AugAssign (.Name x p) .Add e pos) (wAug i dAdd qa) := s_aug i (fun _ => ip_add) rw_add he h hx hf
theorem s_augSub (i : Nat) (he : DE F e qa) (h : N[i]? = some x := by rfl) (hx : ∀ j, Loc (F.X j).env.scope x := by intro _; first | exact Or.inl rfl | exact Or.inr rfl)
    (hf : ∀ j, (F.X j).fn x = true ∨ (F.X j).env.scope.names.lookup x = some .local := by intro _; first | exact .inl rfl | exact .inr rfl) : DS1 F (.AugAssign (.Name x p) .Sub e pos) (wAug i dSub qa) := s_aug i (fun _ => ip_sub) rw_sub he h hx hf
theorem s_while (hc : DT F c q) (h1 : DSs F s1 ws) : DS1 F (.While c s1 [] pos) (wWhile q ws) := by
  obtain ⟨t, t1, t2⟩ := hc
  obtain ⟨u, u1, u2⟩ := h1
  exact ⟨_, fun j => ps_while (F.po j) (t1 j) (u1 j), sw_while t2 u2⟩
theorem piK {X : Cx} {tl : TE} (h : X.K = K) (hl : PE X a tl) : PI X b a (iSeq K tl) := by subst h; exact pi_seq hl
theorem s_for (he : DE F e qa) (hg : DG F a tg) (h1 : DSs F s1 ws) (hs : ∀ j, ∀ x, foldedSetIterable e (F.X j).env x = pure x := by intro _ _; rfl) : DS1 F (.For a e s1 [] pos) (wFor qa tg ws) := by
  obtain ⟨t, t1, t2⟩ := he
  obtain ⟨g, g1, g2⟩ := hg
  obtain ⟨u, u1, u2⟩ := h1
  exact ⟨_, fun j => ps_for (F.po j) (F.calm j) (piK (F.hK j) (t1 j)) (g1 j) (u1 j) (hs j), sw_for t2 g2 u2⟩
theorem s_forR1 {p pp : Pos} (hm : mg "range" = none) (he : DE F e qa) (hg : DG F a tg) (h1 : DSs F s1 ws) (hgl : ∀ j, Gl (F.X j) "range" := by intro _; rfl) (hs : ∀ j, starEach [e] (F.X j).env = [(false, eval e (F.X j).env)] := by intro _; rfl)
    (hf : ∀ j, ∀ x, foldedSetIterable (.Call (.Name "range" p) [e] [] pp) (F.X j).env x = pure x := by intro _ _; rfl) : DS1 F (.For a (.Call (.Name "range" p) [e] [] pp) s1 [] pos) (wForR [qa] tg ws) := by
  obtain ⟨t, t1, t2⟩ := he
  obtain ⟨g, g1, g2⟩ := hg
  obtain ⟨u, u1, u2⟩ := h1
  exact ⟨_, fun j => ps_for (F.po j) (F.calm j) (pi_range1 (hgl j) (by rw [F.hm j]; exact hm) (pa_cons (t1 j) pa_nil (hs j)) (hs j)) (g1 j) (u1 j) (hf j), sw_forR1 t2 g2 u2⟩
end
end DW

/-! DwI: comprehensions in a derivation, a def's body keeps its promise. -/
namespace DW
open PySem PySem.Spec PyProof.Rows L2

theorem takesN {X : Cx} : Takes X Wn := fun u s' x => by
  obtain ⟨a, B, sI, pins, σ, H, cls, d, e, I, nb, up, sky, na, os, ag, w⟩ := x
  exact w.elim
section
variable {P : Program} {w : World} {K : PySem.W.Frag} {mg : Str → Option Value} {base : Heap} {N : List Str} {k : Nat} {W : WX}
/-- the blocks of a comprehension -/
def Fam.blk (F : Fam P w K mg base N k W) (scope : Scope) : Fam P w K mg base N k Wn where
  ι := F.ι × Shared × Hp × Addr × List (Str × Addr) × List Addr
  X := fun j => (F.X j.1).blk j.2.1 j.2.2.1 scope (compEnvC scope j.2.2.2.2.1 j.2.2.2.1 (F.X j.1).env) j.2.2.2.2.2
  hP := fun j => F.hP j.1
  hw := fun j => F.hw j.1
  hK := fun j => F.hK j.1
  hm := fun j => F.hm j.1
  hb := fun j => F.hb j.1
  hN := fun j => F.hN j.1
  calm := fun j => F.calm j.1
  room := fun j => F.room j.1
  nd := F.nd
  po := fun _ => PassesOwn.never
  tk := fun _ => takesN
def DTs (F : Fam P w K mg base N k W) (es : List Expr) (q : WT) : Prop := ∃ tt, (∀ i, PTs (F.X i) es tt) ∧ TW K W tt q
variable {F : Fam P w K mg base N k W} {a b c e tg it : Expr} {es : List Expr} {x y z : Str} {pos p p2 p3 p4 : Pos} {qa qb qc qe : WE} {q r : WT} {g : Tg}
theorem ts_nil : DTs F [] wYes := ⟨_, fun _ => pts_nil, tw_yes⟩
theorem ts_one (h : DT F c q) : DTs F [c] q := by
  obtain ⟨t, h1, h2⟩ := h
  exact ⟨_, fun i => pts_one (h1 i), h2⟩
/-- [e for tg in it if ..] -/
theorem o_lc (own : List (Str × Nat)) {scope : Scope} (hi : DE F it qa) (hg : DG (F.blk scope) tg g) (ht : DTs (F.blk scope) es q) (he : DE (F.blk scope) e qe) (ok : ∀ j, BlkOk N (F.X j).env.scope scope own) (hn : ∀ i ∈ tgn g, i ∈ own.map (·.2) := by decide)
    (hs : ∀ j, ∀ x, foldedSetIterable it (F.X j).env x = pure x := by intro _ _; rfl) : DO F (.ListComp e [⟨tg, it, es, 0⟩] scope pos) (wLc qa g (own.map (·.2)) q qe) := by
  obtain ⟨t, t1, t2⟩ := hi
  obtain ⟨gg, g1, g2⟩ := hg
  obtain ⟨u, u1, u2⟩ := ht
  obtain ⟨v, v1, v2⟩ := he
  exact ⟨_, fun j => pe_lc (F.calm j) (by rw [F.hN j]; exact F.nd) (piK (F.hK j) (t1 j)) (by rw [F.hN j]; exact ok j) (fun s H C cl fp => g1 (j, s, H, C, cl, fp)) (fun s H C cl fp => u1 (j, s, H, C, cl, fp)) (fun s H C cl fp => v1 (j, s, H, C, cl, fp)) (hs j), eo_lc t2 g2 u2 v2 hn⟩
theorem o_lcR1 (own : List (Str × Nat)) {scope : Scope} {p pp : Pos} (hm : mg "range" = none) (hi : DE F a qa) (hg : DG (F.blk scope) tg g) (ht : DTs (F.blk scope) es q) (he : DE (F.blk scope) e qe) (ok : ∀ j, BlkOk N (F.X j).env.scope scope own) (hn : ∀ i ∈ tgn g, i ∈ own.map (·.2) := by decide)
    (hgl : ∀ j, Gl (F.X j) "range" := by intro _; rfl) (h1 : ∀ j, starEach [a] (F.X j).env = [(false, eval a (F.X j).env)] := by intro _; rfl)
    (hs : ∀ j, ∀ x, foldedSetIterable (.Call (.Name "range" p) [a] [] pp) (F.X j).env x = pure x := by intro _ _; rfl) : DO F (.ListComp e [⟨tg, .Call (.Name "range" p) [a] [] pp, es, 0⟩] scope pos) (wLcR [qa] g (own.map (·.2)) q qe) := by
  obtain ⟨t, t1, t2⟩ := hi
  obtain ⟨gg, g1, g2⟩ := hg
  obtain ⟨u, u1, u2⟩ := ht
  obtain ⟨v, v1, v2⟩ := he
  exact ⟨_, fun j => pe_lc (F.calm j) (by rw [F.hN j]; exact F.nd) (pi_range1 (hgl j) (by rw [F.hm j]; exact hm) (pa_cons (t1 j) pa_nil (h1 j)) (h1 j)) (by rw [F.hN j]; exact ok j) (fun s H C cl fp => g1 (j, s, H, C, cl, fp)) (fun s H C cl fp => u1 (j, s, H, C, cl, fp)) (fun s H C cl fp => v1 (j, s, H, C, cl, fp)) (hs j),
    eo_lcR1 t2 g2 u2 v2 hn⟩
/-! ### a def's body -/
def Fam.body (P : Program) (w : World) (K : PySem.W.Frag) (mg : Str → Option Value) (base : Heap) (N : List Str) (k : Nat) (qual : Str) (scope : Scope) (f : Addr) (cdv : Value) (A : Around) (outer : List PySem.Env) (s : Shared) (H : Hp) (E : XK) (hr : Rm base k (A.deeper (envOfC qual scope s.heap.objs.size f cdv))) (nd : N.Nodup) : Fam P w K mg base N k Wn where
  ι := Unit
  X := fun _ => (cxOf CX0 P w K mg base N qual scope f cdv A outer s H E).nox
  hP := fun _ => rfl
  hw := fun _ => rfl
  hK := fun _ => rfl
  hm := fun _ => rfl
  hb := fun _ => rfl
  hN := fun _ => rfl
  calm := fun _ => rfl
  room := fun _ => hr
  nd := nd
  po := fun _ => PassesOwn.never
  tk := fun _ => takesN
theorem gt_app : ∀ (l : List DV) (m i : Nat), gt (l.map some ++ List.replicate m none) i = l[i]?
  | [], 0, i => rfl
  | [], m + 1, 0 => rfl
  | [], m + 1, i + 1 => by
    show gt ([].map some ++ List.replicate m none) i = _
    rw [gt_app [] m i]
    rfl
  | d :: l, m, 0 => rfl
  | d :: l, m, i + 1 => gt_app l m i
theorem start_at {vs : List V} {N : List Str} {i : Nat} {v : V} (h : vs[i]? = some v) : (L2.start N vs)[i]? = some (some v) := by
  unfold L2.start
  have hl := (List.getElem?_eq_some_iff.mp h).1
  rw [List.getElem?_append_left (by rw [List.length_map]; exact hl), List.getElem?_map, h]
  rfl
theorem outs_at : ∀ {dvs : List DV} {ds : DS} {o : List DV}, outs dvs ds = some o → ∀ (i : Nat) xs, dvs[i]? = some (.par xs) → ∃ ys, gt ds i = some (.par ys) ∧ o[i]? = some (.par ys)
  | [], ds, o, _, i, xs, e => by simp at e
  | .par _ :: r, some (.par ys) :: s, o, h, i, xs, e => by
    have h : (outs r s).map (DV.par ys :: ·) = some o := h
    cases q : outs r s with
    | none => rw [q] at h; cases h
    | some o' =>
      rw [q] at h
      have h : DV.par ys :: o' = o := Option.some.inj h
      rw [← h]
      cases i with
      | zero => exact ⟨ys, rfl, rfl⟩
      | succ i => exact outs_at q i xs e
  | .par _ :: r, [], o, h, i, xs, e => by cases (show (none : Option (List DV)) = some o from h)
  | .par _ :: r, none :: s, o, h, i, xs, e => by cases (show (none : Option (List DV)) = some o from h)
  | .par _ :: r, some (.val _) :: s, o, h, i, xs, e => by cases (show (none : Option (List DV)) = some o from h)
  | .par _ :: r, some (.own _) :: s, o, h, i, xs, e => by cases (show (none : Option (List DV)) = some o from h)
  | .val d :: r, [], o, h, i, xs, e => by cases (show (none : Option (List DV)) = some o from h)
  | .own d :: r, [], o, h, i, xs, e => by cases (show (none : Option (List DV)) = some o from h)
  | .val d :: r, x :: s, o, h, i, xs, e => by
    have h : (outs r s).map (DV.val d :: ·) = some o := h
    cases q : outs r s with
    | none => rw [q] at h; cases h
    | some o' =>
      rw [q] at h
      have h : DV.val d :: o' = o := Option.some.inj h
      rw [← h]
      cases i with
      | zero => cases (Option.some.inj e : DV.val d = DV.par xs)
      | succ i => exact outs_at q i xs e
  | .own d :: r, x :: s, o, h, i, xs, e => by
    have h : (outs r s).map (DV.own d :: ·) = some o := h
    cases q : outs r s with
    | none => rw [q] at h; cases h
    | some o' =>
      rw [q] at h
      have h : DV.own d :: o' = o := Option.some.inj h
      rw [← h]
      cases i with
      | zero => cases (Option.some.inj e : DV.own d = DV.par xs)
      | succ i => exact outs_at q i xs e
/-- the ground of a call -/
def ground (G H : Hp) (pa : Nat → Addr) (dvs : List DV) : C0 := ⟨H, G, fun a => ∃ i xs, dvs[i]? = some (.par xs) ∧ a = pa i, pa⟩
theorem env_start {G H : Hp} {pa : Nat → Addr} {vs : List V} {dvs : List DV} {N : List Str} (s : Same G H) (ha : Args K G H pa vs dvs) (hl : dvs.length ≤ N.length) : Env K (ground G H pa dvs) pa G H (L2.start N vs) (entry N.length dvs) := by
  have at_ : ∀ i, gt (entry N.length dvs) i = dvs[i]? := fun i => gt_app dvs _ i
  refine ⟨s, fun a o h _ => h, fun a h => h, fun _ _ q => q, fun _ _ => rfl, ?_, fun i dv h => ?_, fun i j dv dv' h h' o o' n => ?_, fun i xs h => rfl⟩
  · unfold entry L2.start
    rw [List.length_append, List.length_append, List.length_map, List.length_map, List.length_replicate, List.length_replicate, ha.len]
  · rw [at_] at h
    have q := ha.here i dv h
    cases dv with
    | val d =>
      obtain ⟨v, e, r⟩ := q
      exact ⟨v, start_at e, r⟩
    | own xs => exact q.elim
    | par xs =>
      obtain ⟨e, g, hh⟩ := q
      exact ⟨start_at e, g, ⟨i, xs, h, rfl⟩, hh⟩
  · rw [at_] at h h'
    have q := ha.here i dv h
    have q' := ha.here j dv' h'
    cases dv with
    | val d => cases o
    | own xs => exact q.elim
    | par xs =>
      cases dv' with
      | val d => cases o'
      | own xs => exact q'.elim
      | par ys => exact ha.inj i j xs ys h h' n
theorem back_of {G H G' H' : Hp} {pa pa' : Nat → Addr} {dvs o : List DV} {σ : L2.St} {ds : DS} (E : Env K (ground G H pa dvs) pa' G' H' σ ds) (ho : outs dvs ds = some o) : Back K G H G' H' pa dvs o where
  ex := E.ex
  gg := E.ge
  gf := E.gf
  fr := fun a u h n => E.fr a u h fun ⟨i, xs, e, q⟩ => n i xs e q
  dom := E.dom
  pars := fun i xs e => by
    obtain ⟨ys, g1, g2⟩ := outs_at ho i xs e
    obtain ⟨_, _, _, hh⟩ := E.sl i _ g1
    rw [E.ps i ys g1] at hh
    exact ⟨ys, g2, hh⟩
theorem out_some {o : Option (List DV)} {P : List DV → Prop} (h : match o with | some x => P x | none => False) : ∃ x, o = some x ∧ P x := by
  cases o with
  | none => exact h.elim
  | some x => exact ⟨x, rfl, h⟩
theorem ends_ok {G H : Hp} {pa : Nat → Addr} {dvs : List DV} {kk : Out → List DV → Prop} {Q : VK} {n : L2.St → Hp → Prop} {xk : XKd} (hn : ∀ σ H', Q .non H' → n σ H')
    (k1 : ∀ v r dvs' G' H', kk (.ret r) dvs' → Back K G H G' H' pa dvs dvs' → Res K H G' H' v r → Q v H') : EndsOk K (ground G H pa dvs) { ends dvs kk with x := xk } { nx := n, rt := Q } where
  nx := fun pa' G' H' σ ds h E => by
    obtain ⟨o, ho, q⟩ := out_some (P := fun o => kk (.ret (.val .non)) o) h
    exact hn σ H' (k1 .non _ o G' H' q (back_of E ho) rfl)
  rt := fun pa' G' H' σ ds v r h E R => by
    obtain ⟨o, ho, q⟩ := out_some (P := fun o => kk (.ret r) o) h
    refine k1 v r o G' H' q (back_of E ho) ?_
    cases r with
    | val d => exact R
    | own xs =>
      obtain ⟨p, e, t⟩ := R
      exact ⟨p, e, t.h0, t.g, t.here⟩
    | par xs => exact R.elim
  bk := fun _ _ _ _ _ h _ => h.elim
  ct := fun _ _ _ _ _ h _ => h.elim
/-- THE RULE: a def of the text that raises nothing keeps its promise over data -/
theorem fn_keeps0 {x qual : Str} {st : Stmt} {f : Addr} {fd : FuncData} {N ps : List Str} {k : Nat} {fs : FS} {ws : WS} (Fn : Fun K x qual st f fd) (S : FnScope N ps (defScope st)) (hl : ∀ dvs kk, fs dvs kk → dvs.length = ps.length) (hN : ps.length ≤ N.length := by decide)
    (hd : ∀ (cdv : Value) (A : Around) (outer : List PySem.Env) (s : Shared) (H : Hp) (E : XK) (hr : Rm base k (A.deeper (envOfC qual (defScope st) s.heap.objs.size f cdv))), DSs (Fam.body P w K mg base N k qual (defScope st) f cdv A outer s H E hr S.nd) (defBody st) ws)
    (hk : Keeps0 N.length ws fs) : FnG P w K mg base CX0 (k + 1) f fd ps (spOf K fs) := by
  obtain ⟨oc, od, kV, doc, pm, an, cdv, ct, osl, rfl, lk, hcd⟩ := Fn.ex
  refine fnG_of lk hcd S (spOf_len hl) fun A outer s H vs Q E hr hsp => ?_
  obtain ⟨G, pa, dvs, kk, sg, ha, hf, k1, k2⟩ := hsp
  obtain ⟨t, t1, t2⟩ := hd cdv A outer s H E hr
  refine ⟨t, (t1 ()).nox, t2 (ground G H pa dvs) pa G H _ _ _ _ (env_start sg ha (by rw [hl dvs kk hf]; exact hN)) (hk dvs kk hf) (fun _ _ z => z.elim) (ends_ok (fun _ _ q => q) k1)⟩
end
end DW

/-! DwJ: calls by their bundles, further pieces. -/
namespace DW
open PySem PySem.Spec PyProof.Rows L2

/-- a def of the text that is called by its name: it stands there, it keeps its promise -/
structure Cal (P : Program) (w : World) (K : PySem.W.Frag) (mg : Str → Option Value) (base : Heap) (k : Nat) (x : Str) (ps : List Str) (fs : FS) : Prop where
  ex : ∃ f fd, FnG P w K mg base CX0 k f fd ps (spOf K fs) ∧ mg x = some (.ref f) ∧ PySem.W.keepIn K (.ref f) = true ∧ Binds K fd ps []

section
variable {P : Program} {w : World} {K : PySem.W.Frag} {mg : Str → Option Value} {base : Heap} {N : List Str} {k : Nat} {W : WX}
variable {F : Fam P w K mg base N k W} {a b c e tg it : Expr} {es : List Expr} {x y z : Str} {pos p p2 p3 p4 p5 : Pos} {qa qb qc qe : WE} {q r : WT} {g : Tg} {s1 : List Stmt} {ws : WS}
theorem Cal.mk2 {qual : Str} {st : Stmt} {f : Addr} {fd : FuncData} {N ps : List Str} {fs : FS} {ws : WS} {j : Nat} (Fn : Fun K x qual st f fd) (hm : mg x = some (.ref f)) (bb : Binds K fd ps []) (S : FnScope N ps (defScope st)) (hl : ∀ dvs kk, fs dvs kk → dvs.length = ps.length) (hN : ps.length ≤ N.length)
    (hd : ∀ (cdv : Value) (A : Around) (outer : List PySem.Env) (s : Shared) (H : Hp) (E : XK) (hr : Rm base j (A.deeper (envOfC qual (defScope st) s.heap.objs.size f cdv))), DSs (Fam.body P w K mg base N j qual (defScope st) f cdv A outer s H E hr S.nd) (defBody st) ws)
    (hk : Keeps0 N.length ws fs) : Cal P w K mg base (j + 1) x ps fs := ⟨f, fd, fn_keeps0 Fn S hl hN hd hk, hm, Fn.kp, bb⟩
theorem d_callC {kf : Nat} {ps : List Str} {fs : FS} {qs : List DA} (C : Cal P w K mg base kf x ps fs) (ha : DC F (a :: es) qs) (hk : kf ≤ k := by decide)
    (hg : ∀ j, Gl (F.X j) x := by intro _; rfl) (hdb : (x == ("__debug__" : Str)) = false := by decide) (he : ∀ j, starEach (a :: es) (F.X j).env = (false, eval a (F.X j).env) :: starEach es (F.X j).env := by intro _; rfl)
    (hpl : ∀ j, (backTo pos (starEach es (F.X j).env)).any (·.1) = false := by intro _; rfl) : DE F (.Call (.Name x p) (a :: es) [] pos) (wCall fs qs) := by
  obtain ⟨f, fd, c1, c2, c3, c4⟩ := C.ex
  exact d_call c1 c2 c3 c4 ha hk hg hdb he hpl
theorem o_callC {kf : Nat} {ps : List Str} {fs : FS} {qs : List DA} (C : Cal P w K mg base kf x ps fs) (ha : DC F (a :: es) qs) (hk : kf ≤ k := by decide)
    (hg : ∀ j, Gl (F.X j) x := by intro _; rfl) (hdb : (x == ("__debug__" : Str)) = false := by decide) (he : ∀ j, starEach (a :: es) (F.X j).env = (false, eval a (F.X j).env) :: starEach es (F.X j).env := by intro _; rfl)
    (hpl : ∀ j, (backTo pos (starEach es (F.X j).env)).any (·.1) = false := by intro _; rfl) : DO F (.Call (.Name x p) (a :: es) [] pos) (wCallO fs qs) := by
  obtain ⟨f, fd, c1, c2, c3, c4⟩ := C.ex
  exact o_call c1 c2 c3 c4 ha hk hg hdb he hpl
/-! ### built-ins by name -/
theorem d_abs (hm : mg "abs" = none) (ha : DE F a qa) (hg : ∀ j, Gl (F.X j) "abs" := by intro _; rfl) (hs : ∀ j, starEach [a] (F.X j).env = (false, eval a (F.X j).env) :: starEach [] (F.X j).env := by intro _; rfl) (hpl : ∀ j, (backTo pos (starEach [] (F.X j).env)).any (·.1) = false := by intro _; rfl) :
    DE F (.Call (.Name "abs" p) [a] [] pos) (wUn dAbs qa) := d_b1 (fun _ => call_abs) rc_abs hm (by decide +kernel) ha hg (by decide) (by decide) hs hpl
theorem d_len (hm : mg "len" = none) (ha : DE F a qa) (hg : ∀ j, Gl (F.X j) "len" := by intro _; rfl) (hs : ∀ j, starEach [a] (F.X j).env = (false, eval a (F.X j).env) :: starEach [] (F.X j).env := by intro _; rfl) (hpl : ∀ j, (backTo pos (starEach [] (F.X j).env)).any (·.1) = false := by intro _; rfl) :
    DE F (.Call (.Name "len" p) [a] [] pos) (wUn dLen qa) := d_b1 (fun j => lenK (F.hK j)) rc_len hm (by decide +kernel) ha hg (by decide) (by decide) hs hpl
theorem d_all (hm : mg "all" = none) (ha : DE F a qa) (hg : ∀ j, Gl (F.X j) "all" := by intro _; rfl) (hs : ∀ j, starEach [a] (F.X j).env = (false, eval a (F.X j).env) :: starEach [] (F.X j).env := by intro _; rfl) (hpl : ∀ j, (backTo pos (starEach [] (F.X j).env)).any (·.1) = false := by intro _; rfl) :
    DE F (.Call (.Name "all" p) [a] [] pos) (wUn dAll qa) := d_b1 (fun j => allK (F.hK j) (F.calm j)) rc_all hm (by decide +kernel) ha hg (by decide) (by decide) hs hpl
theorem d_any (hm : mg "any" = none) (ha : DE F a qa) (hg : ∀ j, Gl (F.X j) "any" := by intro _; rfl) (hs : ∀ j, starEach [a] (F.X j).env = (false, eval a (F.X j).env) :: starEach [] (F.X j).env := by intro _; rfl) (hpl : ∀ j, (backTo pos (starEach [] (F.X j).env)).any (·.1) = false := by intro _; rfl) :
    DE F (.Call (.Name "any" p) [a] [] pos) (wUn dAny qa) := d_b1 (fun j => anyK (F.hK j) (F.calm j)) rc_any hm (by decide +kernel) ha hg (by decide) (by decide) hs hpl
theorem d_sum (hm : mg "sum" = none) (ha : DE F a qa) (hg : ∀ j, Gl (F.X j) "sum" := by intro _; rfl) (hs : ∀ j, starEach [a] (F.X j).env = (false, eval a (F.X j).env) :: starEach [] (F.X j).env := by intro _; rfl) (hpl : ∀ j, (backTo pos (starEach [] (F.X j).env)).any (·.1) = false := by intro _; rfl) :
    DE F (.Call (.Name "sum" p) [a] [] pos) (wUn dSum qa) := d_b1 (fun j => sumK (F.hK j) (F.calm j)) rc_sum hm (by decide +kernel) ha hg (by decide) (by decide) hs hpl
theorem d_max (hm : mg "max" = none) (ha : DE F a qa) (hb : DE F b qb) (hg : ∀ j, Gl (F.X j) "max" := by intro _; rfl) (hs : ∀ j, starEach [a, b] (F.X j).env = (false, eval a (F.X j).env) :: starEach [b] (F.X j).env := by intro _; rfl) (hs2 : ∀ j, starEach [b] (F.X j).env = (false, eval b (F.X j).env) :: starEach [] (F.X j).env := by intro _; rfl)
    (hpl : ∀ j, (backTo pos (starEach [b] (F.X j).env)).any (·.1) = false := by intro _; rfl) : DE F (.Call (.Name "max" p) [a, b] [] pos) (wBin dMax qa qb) := d_b2 (fun j => call_max2 (F.calm j)) rc_max hm (by decide +kernel) ha hb hg (by decide) (by decide) hs hs2 hpl
theorem d_min (hm : mg "min" = none) (ha : DE F a qa) (hb : DE F b qb) (hg : ∀ j, Gl (F.X j) "min" := by intro _; rfl) (hs : ∀ j, starEach [a, b] (F.X j).env = (false, eval a (F.X j).env) :: starEach [b] (F.X j).env := by intro _; rfl) (hs2 : ∀ j, starEach [b] (F.X j).env = (false, eval b (F.X j).env) :: starEach [] (F.X j).env := by intro _; rfl)
    (hpl : ∀ j, (backTo pos (starEach [b] (F.X j).env)).any (·.1) = false := by intro _; rfl) : DE F (.Call (.Name "min" p) [a, b] [] pos) (wBin dMin qa qb) := d_b2 (fun j => call_min2 (F.calm j)) rc_min hm (by decide +kernel) ha hb hg (by decide) (by decide) hs hs2 hpl
theorem lenRK {X : Cx} (h : X.K = K) : CallR X (.builtin "len") (fun xs H Q => ∃ x n, xs = [x] ∧ LenV K x H n ∧ Q (.int n) H) := by subst h; exact call_len
theorem d_lenO (i : Nat) (hm : mg "len" = none) (h : N[i]? = some x := by rfl) (hv : ∀ j, Vis (F.X j).env.scope x := by intro _; first | exact Or.inl rfl | exact Or.inr (Or.inl rfl) | exact Or.inr (Or.inr rfl))
    (hd : (x == ("__debug__" : Str)) = false := by decide) (hcd : (x == ("__classdict__" : Str)) = false := by decide) (hg : ∀ j, Gl (F.X j) "len" := by intro _; rfl) (hs : ∀ j, starEach [.Name x p2] (F.X j).env = (false, eval (.Name x p2) (F.X j).env) :: starEach [] (F.X j).env := by intro _; rfl) (hpl : ∀ j, (backTo pos (starEach [] (F.X j).env)).any (·.1) = false := by intro _; rfl) :
    DE F (.Call (.Name "len" p) [.Name x p2] [] pos) (wLenO i) :=
  ⟨_, fun j => pe_callB (lenRK (F.hK j)) (hg j) (by rw [F.hm j]; exact hm) (by decide +kernel) (pa_cons (pe_var (i := i) (by rw [F.hN j]; exact h) (hv j) hd hcd) pa_nil (hs j)) (by decide) (by decide) (hs j) (hpl j), ew_lenO⟩
/-! ### x, y, z = a, b, c -/
theorem sw_par3 {ta tb tc : TE} {i j l : Nat} (h1 : EW K W ta qa) (h2 : EW K W tb qb) (h3 : EW K W tc qc) : SW K W (tPar3 i j l (tCons ta (tCons tb (tCons tc tNil)))) (wPar3 i j l qa qb qc) := fun c pa G H σ ds P D E hw hx he =>
  h1 c pa G H σ ds _ _ _ E hw hx fun v G1 H1 d ds1 q S1 r1 => h2 c pa G1 H1 σ ds1 _ _ _ S1.env q hx fun w G2 H2 e ds2 q2 S2 r2 => h3 c pa G2 H2 σ ds2 _ _ _ S2.env q2 hx fun z G3 H3 f ds3 q3 S3 r3 =>
    ⟨v, w, z, rfl, he.nx pa G3 H3 _ _ q3 (((S3.env.setVal i ((r1.mono S2.sg).mono S3.sg)).setVal j (r2.mono S3.sg)).setVal l r3)⟩
theorem s_par3 (i l m : Nat) {kt k2 : Nat} (ha : DE F a qa) (hb : DE F b qb) (hc : DE F c qc) (hi : N[i]? = some x := by rfl) (hl : N[l]? = some y := by rfl) (hz0 : N[m]? = some z := by rfl) (hn : i ≠ l := by decide) (hn2 : i ≠ m := by decide) (hn3 : l ≠ m := by decide)
    (hx : ∀ j, (F.X j).env.scope.names.lookup x = some .local := by intro _; rfl) (hy : ∀ j, (F.X j).env.scope.names.lookup y = some .local := by intro _; rfl) (hz : ∀ j, (F.X j).env.scope.names.lookup z = some .local := by intro _; rfl)
    (hw : ∀ j, swappedStores [.Tuple [.Name x p, .Name y p2, .Name z p5] kt p3] (.Tuple [a, b, c] k2 p4) (F.X j).env = pure (some [x, y, z]) := by intro _; rfl) (hs : ∀ j, swapsWithSole [.Tuple [.Name x p, .Name y p2, .Name z p5] kt p3] (.Tuple [a, b, c] k2 p4) pos.line (F.X j).env = pure false := by intro _; rfl)
    (h1 : ∀ j, starEach [a, b, c] (F.X j).env = (false, eval a (F.X j).env) :: starEach [b, c] (F.X j).env := by intro _; rfl) (h2 : ∀ j, starEach [b, c] (F.X j).env = (false, eval b (F.X j).env) :: starEach [c] (F.X j).env := by intro _; rfl) (h3 : ∀ j, starEach [c] (F.X j).env = (false, eval c (F.X j).env) :: starEach [] (F.X j).env := by intro _; rfl) :
    DS1 F (.Assign [.Tuple [.Name x p, .Name y p2, .Name z p5] kt p3] (.Tuple [a, b, c] k2 p4) pos) (wPar3 i l m qa qb qc) := by
  obtain ⟨t, t1, t2⟩ := ha
  obtain ⟨u, u1, u2⟩ := hb
  obtain ⟨v, v1, v2⟩ := hc
  exact ⟨_, fun j => ps_par3 (F.calm j) (by rw [F.hN j]; exact F.nd) (by rw [F.hN j]; exact hi) (by rw [F.hN j]; exact hl) (by rw [F.hN j]; exact hz0) hn hn2 hn3 (hx j) (hy j) (hz j) (pa_cons (t1 j) (pa_cons (u1 j) (pa_cons (v1 j) pa_nil (h3 j)) (h2 j)) (h1 j)) (hw j) (hs j), sw_par3 t2 u2 v2⟩
/-! ### range(a, b) -/
theorem s_forR2 {p pp : Pos} (hm : mg "range" = none) (he : DE F a qa) (he2 : DE F b qb) (hg : DG F e g) (h1 : DSs F s1 ws) (hgl : ∀ j, Gl (F.X j) "range" := by intro _; rfl) (hs : ∀ j, starEach [a, b] (F.X j).env = [(false, eval a (F.X j).env), (false, eval b (F.X j).env)] := by intro _; rfl) (hs2 : ∀ j, starEach [b] (F.X j).env = [(false, eval b (F.X j).env)] := by intro _; rfl)
    (hf : ∀ j, ∀ x, foldedSetIterable (.Call (.Name "range" p) [a, b] [] pp) (F.X j).env x = pure x := by intro _ _; rfl) : DS1 F (.For e (.Call (.Name "range" p) [a, b] [] pp) s1 [] pos) (wForR [qa, qb] g ws) := by
  obtain ⟨t, t1, t2⟩ := he
  obtain ⟨t', t1', t2'⟩ := he2
  obtain ⟨g, g1, g2⟩ := hg
  obtain ⟨u, u1, u2⟩ := h1
  exact ⟨_, fun j => ps_for (F.po j) (F.calm j) (pi_range2 (hgl j) (by rw [F.hm j]; exact hm) (pa_cons (t1 j) (pa_cons (t1' j) pa_nil (hs2 j)) ((hs j).trans (by rw [hs2 j]))) (hs j) (hs2 j)) (g1 j) (u1 j) (hf j), sw_forR2 t2 t2' g2 u2⟩
theorem o_lcR2 (own : List (Str × Nat)) {scope : Scope} {p pp : Pos} (hm : mg "range" = none) (hi : DE F a qa) (hi2 : DE F b qb) (hg : DG (F.blk scope) tg g) (ht : DTs (F.blk scope) es q) (he : DE (F.blk scope) e qe) (ok : ∀ j, BlkOk N (F.X j).env.scope scope own) (hn : ∀ i ∈ tgn g, i ∈ own.map (·.2) := by decide)
    (hgl : ∀ j, Gl (F.X j) "range" := by intro _; rfl) (h1 : ∀ j, starEach [a, b] (F.X j).env = [(false, eval a (F.X j).env), (false, eval b (F.X j).env)] := by intro _; rfl) (h2 : ∀ j, starEach [b] (F.X j).env = [(false, eval b (F.X j).env)] := by intro _; rfl)
    (hs : ∀ j, ∀ x, foldedSetIterable (.Call (.Name "range" p) [a, b] [] pp) (F.X j).env x = pure x := by intro _ _; rfl) : DO F (.ListComp e [⟨tg, .Call (.Name "range" p) [a, b] [] pp, es, 0⟩] scope pos) (wLcR [qa, qb] g (own.map (·.2)) q qe) := by
  obtain ⟨t, t1, t2⟩ := hi
  obtain ⟨t', t1', t2'⟩ := hi2
  obtain ⟨gg, g1, g2⟩ := hg
  obtain ⟨u, u1, u2⟩ := ht
  obtain ⟨v, v1, v2⟩ := he
  exact ⟨_, fun j => pe_lc (F.calm j) (by rw [F.hN j]; exact F.nd) (pi_range2 (hgl j) (by rw [F.hm j]; exact hm) (pa_cons (t1 j) (pa_cons (t1' j) pa_nil (h2 j)) ((h1 j).trans (by rw [h2 j]))) (h1 j) (h2 j)) (by rw [F.hN j]; exact ok j) (fun s H C cl fp => g1 (j, s, H, C, cl, fp)) (fun s H C cl fp => u1 (j, s, H, C, cl, fp)) (fun s H C cl fp => v1 (j, s, H, C, cl, fp)) (hs j),
    eo_lcR2 t2 t2' g2 u2 v2 hn⟩
end
theorem ints_reps {K : PySem.W.Frag} {G : Hp} : ∀ ns : List Int, Reps K G (ns.map .int) (ns.map V.int)
  | [] => rfl
  | n :: r => ⟨_, _, rfl, rfl, ints_reps r⟩
/-- the law's call -/
theorem law_sp {K : PySem.W.Frag} {H : Hp} {a : Addr} {ns : List Int} {fs : FS} (hf : fs [.val (.lst (ns.map .int))] fun o _ => o = .ret (.val (.bl true))) (hS : SqL K H a (ns.map V.int)) : spOf K fs [.ref a] H (fun v _ => v = .bl true) fun _ _ _ => False := by
  refine ⟨H, fun _ => 0, _, _, fun _ _ q => q, ⟨rfl, fun i dv e => ?_, fun i j xs ys e => ?_⟩, hf, fun v r dvs' G' H' e _ R => ?_, fun e cls d dvs' G' H' q => by cases q⟩
  · cases i with
    | zero =>
      have e := Option.some.inj e
      subst e
      exact ⟨_, rfl, _, _, rfl, hS, ints_reps ns⟩
    | succ i => cases e
  · cases i with
    | zero => cases e
    | succ i => cases e
  · injection e with e
    subst e
    exact R
end DW

/-! DwK: parts of lists, sums of lists, chains, calls by name, lists made for a call. -/
namespace DW
open PySem PySem.Spec PyProof.Rows L2

/-! ### parts of lists -/
theorem cutAt_eq (n d : Nat) : ∀ o : Option Int, HT.sIx n d o = cutAt n d o
  | none => rfl
  | some i => by
    show (if i < 0 then (i + (n : Int)).toNat else min i.toNat n) = if 0 ≤ i then min i.toNat n else ((n : Int) + i).toNat
    by_cases h : 0 ≤ i
    · rw [if_pos h, if_neg (by omega)]
    · rw [if_neg h, if_pos (by omega), Int.add_comm]
theorem cutV_eq (xs : List V) (lo hi : Option Int) : cutV xs lo hi = cutD xs lo hi := by
  unfold cutV cutD
  rw [cutAt_eq, cutAt_eq]
section
variable {K : PySem.W.Frag} {G : Hp}
theorem Reps.drop : ∀ {ds : List D} {vs : List V} (n : Nat), Reps K G ds vs → Reps K G (ds.drop n) (vs.drop n)
  | ds, vs, 0, h => h
  | [], vs, n + 1, h => by
    have h : vs = [] := h
    rw [h]
    rfl
  | d :: ds, vs, n + 1, h => by
    obtain ⟨x, xs, e, _, h2⟩ := h
    rw [e]
    exact Reps.drop n h2
theorem Reps.take : ∀ {ds : List D} {vs : List V} (n : Nat), Reps K G ds vs → Reps K G (ds.take n) (vs.take n)
  | ds, vs, 0, h => rfl
  | [], vs, n + 1, h => by
    have h : vs = [] := h
    rw [h]
    rfl
  | d :: ds, vs, n + 1, h => by
    obtain ⟨x, xs, e, h1, h2⟩ := h
    rw [e]
    exact ⟨x, _, rfl, h1, Reps.take n h2⟩
theorem Reps.append : ∀ {ds es : List D} {vs ws : List V}, Reps K G ds vs → Reps K G es ws → Reps K G (ds ++ es) (vs ++ ws)
  | [], es, vs, ws, h, q => by
    have h : vs = [] := h
    rw [h]
    exact q
  | d :: ds, es, vs, ws, h, q => by
    obtain ⟨x, xs, e, h1, h2⟩ := h
    rw [e]
    exact ⟨x, _, rfl, h1, Reps.append h2 q⟩
theorem Reps.reverse : ∀ {ds : List D} {vs : List V}, Reps K G ds vs → Reps K G ds.reverse vs.reverse
  | [], vs, h => by
    have h : vs = [] := h
    rw [h]
    rfl
  | d :: ds, vs, h => by
    obtain ⟨x, xs, e, h1, h2⟩ := h
    rw [e, List.reverse_cons, List.reverse_cons]
    exact (Reps.reverse h2).append ⟨x, [], rfl, h1, rfl⟩
theorem Reps.cut {ds : List D} {vs : List V} (lo hi : Option Int) (h : Reps K G ds vs) : Reps K G (cutD ds lo hi) (cutD vs lo hi) := by
  unfold cutD
  rw [h.len]
  exact (h.drop _).take _
theorem Reps.pick {ds : List D} {vs : List V} (h : Reps K G ds vs) : ∀ ix : List Nat, Reps K G (pick ix ds) (pick ix vs)
  | [] => rfl
  | i :: r => by
    unfold DW.pick
    cases e : ds[i]? with
    | none =>
      have e2 : vs[i]? = none := by
        rw [List.getElem?_eq_none_iff] at e ⊢
        rw [← h.len]
        exact e
      rw [List.filterMap_cons, List.filterMap_cons, e, e2]
      exact Reps.pick h r
    | some d =>
      obtain ⟨v, e2, rv⟩ := h.get e
      rw [List.filterMap_cons, List.filterMap_cons, e, e2]
      exact ⟨v, _, rfl, rv, Reps.pick h r⟩
end
/-! ### list + list, whatever lists -/
def rCatL (K : PySem.W.Frag) : R2 := fun x y H Q => ∃ a b xs ys, x = .ref a ∧ y = .ref b ∧ SqL K H a xs ∧ SqL K H b ys ∧ xs.length + ys.length ≤ sizeLine ∧ ∀ p, H p = none → Q (.ref p) (upd H p (.lst (xs ++ ys)))
theorem op_catL {X : Cx} : OpR X (binaryOp .Add) (rCatL X.K) := by
  intro pins s σ H x y v u Q I rx ry h
  obtain ⟨a, b, xs, ys, rfl, rfl, hA, hB, hz, q⟩ := h
  cases rx
  cases ry
  obtain ⟨its, r, ht, z1⟩ := I.list hA
  obtain ⟨its2, r2, ht2, z2⟩ := I.list hB
  obtain ⟨⟨cls, dd, data, sl⟩, n, ho, hc, hdd, hd⟩ := ht
  obtain ⟨⟨cls2, dd2, data2, sl2⟩, n2, ho2, hc2, hdd2, hd2⟩ := ht2
  simp only at hc hdd hd hc2 hdd2 hd2
  subst hc hdd hd hc2 hdd2 hd2
  refine concat_meets ⟨_, ho, rfl⟩ ⟨_, ho2, rfl⟩ noFill_list_add seq_list_add PySem.F.slot_list_add PySem.F.entry_list_add (PySem.F.args_list_add_2 _ _) (list_addW a b its.toArray its2.toArray n n2 _ _ sl sl2 (by rw [List.size_toArray, List.size_toArray, ← r.length, ← r2.length]; exact hz)) ⟨ho, ho2, ?_⟩
  have e : its.toArray ++ its2.toArray = (its ++ its2).toArray := by simp
  rw [e]
  refine ⟨.ref s.heap.objs.size, _, I.laid (t' := s.toks) (o := .lst (xs ++ ys)) (fun b ob q => Heap.get?_push_of_some _ q) (Nat.le_refl _) ?_, rfl, q _ (I.hok.fresh (Nat.le_refl _))⟩
  exact ⟨by rw [List.length_append]; exact hz, _, 0, r.append r2, Heap.get?_push_size _ rfl⟩
/-! ### xs[-2::-1] -/
def tRev2 (K : PySem.W.Frag) (te : TE) : TE := fun σ H Q => te σ H fun x H1 => ∃ a xs, x = .ref a ∧ SqL K H1 a xs ∧ ∀ p, H1 p = none → Q (.ref p) (upd H1 p (.lst xs.dropLast.reverse))
theorem pick_rev2 (items : Array Value) : slicePick items (some (-2)) none (some (-1)) = items.toList.dropLast.reverse.toArray := by
  have hb : sliceBounds (some (-2)) none (some (-1)) items.size = (((items.size - 1 : Nat) : Int) - 1, -1, -1) := by
    have e : sliceBounds (some (-2)) none (some (-1)) items.size = (max (-1) (min (-2 + (items.size : Int)) ((items.size : Int) - 1)), -1, -1) := by
      first
      | rfl
      | simp [sliceBounds]
    rw [e]
    have : max (-1) (min (-2 + (items.size : Int)) ((items.size : Int) - 1)) = ((items.size - 1 : Nat) : Int) - 1 := by omega
    rw [this]
  unfold slicePick
  rw [hb]
  show ((sliceRange (((items.size - 1 : Nat) : Int) - 1) (-1) (-1)).filterMap (items[·]?)).toArray = _
  rw [PySem.W.krv_sliceRange, PySem.W.krv_range, List.filterMap_reverse]
  have h := pick_run items 0 (items.size - 1)
  have e : (List.range (items.size - 1)).map (0 + ·) = List.range (items.size - 1) := by
    rw [show ((0 + ·) : Nat → Nat) = id from funext fun k => Nat.zero_add k, List.map_id]
  rw [e, List.drop_zero] at h
  rw [h, List.dropLast_eq_take, Array.length_toList]
theorem pe_rev2 {X : Cx} {e : Expr} {te : TE} {k k2 : Nat} {p1 p2 p3 p4 p5 pos : Pos} (he : PE X e te) : PE X (.Subscript e (.Slice (some (.UnaryOp .USub (.Constant (.int 2) k2 p4) p5)) none (some (.UnaryOp .USub (.Constant (.int 1) k p1) p2)) p3) pos) (tRev2 X.K te) := by
  refine ⟨fun pins s σ H Q I h => ?_⟩
  refine Subscript_ (thn (he.run pins s σ H _ I h) fun v s1 ⟨x, H1, I1, r1, q1⟩ => ?_)
  obtain ⟨a, xs, ex, hx, q⟩ := q1
  subst ex
  cases r1
  have neg : ∀ (n : Int) (k : Nat) (p1 p2 : Pos), PO X (some (.UnaryOp .USub (.Constant (.int n) k p1) p2)) (tPart (tUn (rU fun i => .int (-i)) (tC (.int n)))) := fun n k p1 p2 => po_some (pe_un un_neg pe_int)
  refine wpAny_Slice (thn ((neg 2 k2 p4 p5).run pins s1 σ H1 (fun o H2 => o = some (-2) ∧ H2 = H1) I1 ⟨2, rfl, -2, rfl, rfl, rfl⟩) fun vl s2 ⟨l, H2, I2, pl, el, e2⟩ => ?_)
  subst el e2
  refine thn (po_none.run pins s2 σ H2 (fun o H3 => o = none ∧ H3 = H2) I2 ⟨rfl, rfl⟩) fun vu s3 ⟨u, H3, I3, pu, eu, e3⟩ => ?_
  subst eu e3
  refine thn ((neg 1 k p1 p2).run pins s3 σ H3 (fun o H4 => o = some (-1) ∧ H4 = H3) I3 ⟨1, rfl, -1, rfl, rfl, rfl⟩) fun vs s4 ⟨o, H4, I4, ps, eo, e4⟩ => ?_
  subst eo e4
  have I5 : Inv X pins σ H4 { s4 with heap := s4.heap.push { cls := .type "slice", data := .fields #[vl, vu, vs] } } := I4.kept (t' := s4.toks) fun b ob q => Heap.get?_push_of_some _ q
  obtain ⟨its, r, ht, hz⟩ := I5.list hx
  have hlen := r.length
  have hd : Vals xs.dropLast its.dropLast := by
    rw [List.dropLast_eq_take, List.dropLast_eq_take, ← hlen]
    exact r.take _
  show wpAny (model X.prog X.w) X.A (subscriptTail e (.Slice (some (.UnaryOp .USub (.Constant (.int 2) k2 p4) p5)) none (some (.UnaryOp .USub (.Constant (.int 1) k p1) p2)) p3) (.ref a) (.ref s4.heap.objs.size)) (EP X pins σ Q) X.xe _
  refine tail_any (ops := [.ref a, .ref s4.heap.objs.size]) ht.isList.typeIs (PySem.slot_list_getitem.lookup) ?_ (by with_unfolding_all rfl)
  refine wpAny_getItem_list_slice ht.isList (Heap.IsSliceOf.new _ vl vu vs) pl pu ps (by decide) ?_ (by rw [List.size_toArray]; omega)
  rw [pick_rev2]
  refine ⟨.ref _, _, I5.laid (t' := s4.toks) (o := .lst xs.dropLast.reverse) (fun b ob q => Heap.get?_push_of_some _ q) (Nat.le_refl _) ?_, rfl, q _ (I5.hok.fresh (Nat.le_refl _))⟩
  exact ⟨by rw [List.length_reverse, List.length_dropLast]; omega, _, 0, hd.reverse, Heap.get?_push_size _ rfl⟩
/-! ### readings -/
section
variable {K : PySem.W.Frag} {W : WX} {ta0 : TA} {ta tb tc te : TE} {a b qc : WE} {o : WO} {c : C0} {pa : Nat → Addr} {G H G' H' : Hp} {σ : L2.St} {ds : DS}
/-- a new list behind what was run -/
theorem Stp.made {vs : List V} {xs : List D} {ds1 : DS} {G1 H1 : Hp} {p : Addr} (S1 : Stp K c pa σ G H ds G1 H1 ds1) (hp : H1 p = none) (r : Reps K G1 xs vs) : Stp K c pa σ G H ds G1 (upd H1 p (.lst vs)) ds1 ∧ Tmp K c pa G1 (upd H1 p (.lst vs)) ds1 p xs ∧ H p = none := by
  obtain ⟨S2, t2⟩ := Stp.newOwn S1.env hp r
  refine ⟨S1.trans S2, t2, ?_⟩
  cases z : H p with
  | none => rfl
  | some o => exact absurd hp (S1.dom p (by rw [z]; exact fun y => nomatch y))
theorem eo_cat (ha : EW K W ta a) (hb : EW K W tb b) : EO K W (tOp (rCatL K) ta tb) (wCat a b) := fun c pa G H σ ds xk kk Q E hw hx k => by
  refine ha c pa G H σ ds xk _ _ E hw hx fun x G1 H1 d ds1 q S1 r1 => ?_
  refine hb c pa G1 H1 σ ds1 xk _ _ S1.env q hx fun y G2 H2 e ds2 q2 S2 r2 => ?_
  cases d with
  | lst xs =>
    cases e with
    | lst ys =>
      obtain ⟨hz, q2⟩ := q2
      obtain ⟨p1, vs, e1, h1, m1⟩ := Rep.mono S2.sg r1
      obtain ⟨p2, ws, e2, h2, m2⟩ := r2
      refine ⟨p1, p2, vs, ws, e1, e2, L2.Same.seq S2.env.ex h1, L2.Same.seq S2.env.ex h2, by rw [← m1.len, ← m2.len]; exact Nat.le_trans hz (by decide), fun p hp => ?_⟩
      obtain ⟨S, t, n⟩ := (S1.trans S2).made hp (m1.append m2)
      exact k p _ _ _ _ q2 S t n
    | _ => exact (show False from q2).elim
  | _ => exact (show False from q2).elim
theorem eo_rev (ha : EW K W ta a) : EO K W (tRevL K ta) (wRev a) := fun c pa G H σ ds xk kk Q E hw hx k => by
  refine ha c pa G H σ ds xk _ _ E hw hx fun x G1 H1 d ds1 q S1 r1 => ?_
  cases d with
  | lst xs =>
    obtain ⟨p1, vs, e1, h1, m1⟩ := r1
    refine ⟨p1, vs, e1, L2.Same.seq S1.env.ex h1, fun p hp => ?_⟩
    obtain ⟨S, t, n⟩ := S1.made hp m1.reverse
    exact k p _ _ _ _ q S t n
  | _ => exact (show False from q).elim
theorem eo_rev2 (ha : EW K W ta a) : EO K W (tRev2 K ta) (wRev2 a) := fun c pa G H σ ds xk kk Q E hw hx k => by
  refine ha c pa G H σ ds xk _ _ E hw hx fun x G1 H1 d ds1 q S1 r1 => ?_
  cases d with
  | lst xs =>
    obtain ⟨p1, vs, e1, h1, m1⟩ := r1
    refine ⟨p1, vs, e1, L2.Same.seq S1.env.ex h1, fun p hp => ?_⟩
    have r2 : Reps K G1 xs.dropLast vs.dropLast := by
      rw [List.dropLast_eq_take, List.dropLast_eq_take, ← m1.len]
      exact m1.take _
    obtain ⟨S, t, n⟩ := S1.made hp r2.reverse
    exact k p _ _ _ _ q S t n
  | _ => exact (show False from q).elim
/-- a slice's part -/
def PWt (K : PySem.W.Frag) (W : WX) (tl : TO) (w : WPt) : Prop := ∀ (c : C0) pa G H σ ds xk (kk : Option Int → DS → Prop) (Q : Option Int → Hp → Prop), Env K c pa G H σ ds → w xk ds kk → XOk K c W xk →
  (∀ o G' H' ds', kk o ds' → Stp K c pa σ G H ds G' H' ds' → Q o H') → tl σ H Q
theorem pw_no : PWt K W tNoPart wNoP := fun c pa G H σ ds xk kk Q E hw hx k => k none G H ds hw (.refl E)
theorem pw_p (ha : EW K W ta a) : PWt K W (tPart ta) (wP a) := fun c pa G H σ ds xk kk Q E hw hx k => by
  refine ha c pa G H σ ds xk _ _ E hw hx fun x G1 H1 d ds1 q S1 r1 => ?_
  cases d with
  | int i => exact ⟨i, r1, k (some i) G1 H1 ds1 q S1⟩
  | _ => exact (show False from q).elim
theorem eo_cut {tl th : TO} {lo hi : WPt} (ha : EW K W ta a) (hl : PWt K W tl lo) (hh : PWt K W th hi) : EO K W (tSl (rSlL K) ta tl th) (wCut a lo hi) := fun c pa G H σ ds xk kk Q E hw hx k => by
  refine ha c pa G H σ ds xk _ _ E hw hx fun x G1 H1 d ds1 q S1 r1 => ?_
  refine hl c pa G1 H1 σ ds1 xk _ _ S1.env q hx fun l G2 H2 ds2 q2 S2 => ?_
  refine hh c pa G2 H2 σ ds2 xk _ _ S2.env q2 hx fun u G3 H3 ds3 q3 S3 => ?_
  cases d with
  | lst xs =>
    obtain ⟨p1, vs, e1, h1, m1⟩ := Rep.mono (S2.trans S3).sg r1
    refine ⟨p1, vs, e1, L2.Same.seq S3.env.ex h1, fun p hp => ?_⟩
    rw [cutV_eq]
    obtain ⟨S, t, n⟩ := (S1.trans (S2.trans S3)).made hp (m1.cut l u)
    exact k p _ _ _ _ q3 S t n
  | _ => exact (show False from q3).elim
theorem ew_chain {r r' : R2} {f g : B2} (hr : RW2 K r f) (hr' : RW2 K r' g) (ha : EW K W ta a) (hb : EW K W tb b) (hc : EW K W tc qc) : EW K W (tChain r r' ta tb tc) (wChain f g a b qc) := fun c pa G H σ ds xk kk Q E hw hx k => by
  refine ha c pa G H σ ds xk _ _ E hw hx fun x G1 H1 d ds1 q S1 r1 => ?_
  refine hb c pa G1 H1 σ ds1 xk _ _ S1.env q hx fun y G2 H2 e ds2 q2 S2 r2 => ?_
  refine hr G2 H2 x y d e _ _ S2.env.ex (r1.mono S2.sg) r2 q2 fun z v hz rz => ?_
  cases z with
  | bl t =>
    refine ⟨t, rz, ?_⟩
    cases t with
    | false =>
      rw [if_neg Bool.false_ne_true]
      exact k _ G2 H2 _ ds2 hz (S1.trans S2) rfl
    | true =>
      rw [if_pos rfl]
      refine hc c pa G2 H2 σ ds2 xk _ _ S2.env hz hx fun w G3 H3 u ds3 q3 S3 r3 => ?_
      exact hr' G3 H3 y w e u _ Q S3.env.ex (r2.mono S3.sg) r3 q3 fun z v hz rz => k v G3 H3 z ds3 hz ((S1.trans S2).trans S3) rz
  | _ => exact (show False from hz).elim
/-- behind a call that was lent a list of no slot -/
theorem Stp.calledT {p : Addr} {xs : List D} {dvs' : List DV} {ds1 : DS} {G1 H1 : Hp} (S : Stp K c pa σ G H ds G1 H1 ds1) (n : H p = none) (t : Tmp K c pa G1 H1 ds1 p xs) (B : Back K G1 H1 G' H' (fun _ => p) [.par xs] dvs') : Stp K c pa σ G H ds G' H' ds1 := by
  have E := S.env
  have away : ∀ a o, H1 a = some o → a ≠ p → H' a = some o := fun a o h n => B.fr a o h fun _ _ _ => n
  have slot : ∀ i dv, gt ds1 i = some dv → isO dv = true → ∀ o, H1 (pa i) = some o → H' (pa i) = some o := fun i dv h o u w => away _ _ w (t.ne i dv h o)
  refine ⟨⟨B.ex, fun a o h w => away a o (E.fr a o h w) fun e => ?_, fun a h => B.dom a (E.dom a h), E.ge.trans B.gg, fun a h => (B.gf a (E.dom a h)).trans (E.gf a h), E.len, fun i dv h => ?_, E.inj, E.ps⟩, S.sg.trans B.gg, fun a o h m => ?_, S.sub, fun a h => B.dom a (S.dom a h)⟩
  · have h0 := t.h0
    rw [← e, h] at h0
    cases h0
  · have s := E.sl i dv h
    cases dv with
    | val d =>
      obtain ⟨v, e1, r⟩ := s
      exact ⟨v, e1, r.mono B.gg⟩
    | own xs =>
      obtain ⟨s1, s2, s3, vs, s4, s5⟩ := s
      exact ⟨s1, (B.gf _ (by rw [s4]; exact fun z => nomatch z)).trans s2, s3, vs, slot i _ h rfl _ s4, s5.mono B.gg⟩
    | par xs =>
      obtain ⟨s1, s2, s3, vs, s4, s5⟩ := s
      exact ⟨s1, (B.gf _ (by rw [s4]; exact fun z => nomatch z)).trans s2, s3, vs, slot i _ h rfl _ s4, s5.mono B.gg⟩
  · obtain ⟨e1, e2⟩ := S.fr a o h m
    refine ⟨away a o e1 fun e => ?_, (B.gf a (by rw [e1]; exact fun z => nomatch z)).trans e2⟩
    rw [e, n] at h
    cases h
theorem args_one {p : Addr} {xs : List D} (g : G p = none) (h : ∃ vs, H p = some (.lst vs) ∧ Reps K G xs vs) : Args K G H (fun _ => p) [.ref p] [.par xs] := by
  refine ⟨rfl, fun i dv e => ?_, fun i j xs ys e e' n => ?_⟩
  · cases i with
    | zero =>
      have e := Option.some.inj e
      subst e
      exact ⟨rfl, g, h⟩
    | succ i => cases e
  · cases i with
    | zero =>
      cases j with
      | zero => exact absurd rfl n
      | succ j => cases e'
    | succ i => cases e
theorem ew_callT {fs : FS} (h : EO K W te o) : EW K W (tCallSD (spOf K fs) [] (L2.WE W) (tCons te tNil)) (wCallT fs o) := fun c pa G H σ ds xk kk Q E hw hx k => by
  refine h c pa G H σ ds xk _ _ E hw hx fun p G1 H1 xs ds1 q S1 t1 n1 => ?_
  refine ⟨G1, fun _ => p, [.par xs], _, S1.env.ex, args_one t1.g t1.here, q, fun v r dvs' G' H' hk B R => ?_, fun e cls d dvs' G' H' hk B X => ?_⟩
  · have S := S1.calledT n1 t1 B
    cases r with
    | val d => exact k v G' H' d ds1 hk S R
    | own ys =>
      obtain ⟨p2, rfl, p0, p1, hp⟩ := R
      have t : Tmp K c pa G' H' ds1 p2 ys := ⟨p1, by
        cases z : c.H0 p2 with
        | none => rfl
        | some o => exact absurd p0 (S1.env.dom p2 (by rw [z]; exact fun z => nomatch z)), hp, fun i dv hi o z => S1.env.ownNe hi o (z ▸ p0)⟩
      obtain ⟨G2, S2, r2⟩ := S.freeze t (by
        cases z : H p2 with
        | none => rfl
        | some o => exact absurd p0 (S1.dom p2 (by rw [z]; exact fun z => nomatch z)))
      exact k _ G2 H' _ ds1 hk S2 r2
    | par _ => exact (show False from hk).elim
  · exact hx e _ hk pa G' H' σ cls d (S1.calledT n1 t1 B).env X
/-! ### calls by name -/
/-- behind a call that was given data only -/
theorem Stp.calledK {l : List D} {dvs' : List DV} {ds1 : DS} {G1 H1 : Hp} (S : Stp K c pa σ G H ds G1 H1 ds1) (B : Back K G1 H1 G' H' (fun _ => 0) (l.map .val) dvs') : Stp K c pa σ G H ds G' H' ds1 := by
  have E := S.env
  have non : ∀ (i : Nat) xs, (l.map DV.val)[i]? ≠ some (.par xs) := fun i xs e => by
    rw [List.getElem?_map] at e
    cases q : l[i]? with
    | none => rw [q] at e; cases e
    | some d => rw [q] at e; cases (Option.some.inj e : DV.val d = DV.par xs)
  have away : ∀ a o, H1 a = some o → H' a = some o := fun a o h => B.fr a o h fun i xs e => (non i xs e).elim
  refine ⟨⟨B.ex, fun a o h w => away a o (E.fr a o h w), fun a h => B.dom a (E.dom a h), E.ge.trans B.gg, fun a h => (B.gf a (E.dom a h)).trans (E.gf a h), E.len, fun i dv h => ?_, E.inj, E.ps⟩, S.sg.trans B.gg, fun a o h m => ?_, S.sub, fun a h => B.dom a (S.dom a h)⟩
  · have s := E.sl i dv h
    cases dv with
    | val d =>
      obtain ⟨v, e1, r⟩ := s
      exact ⟨v, e1, r.mono B.gg⟩
    | own xs =>
      obtain ⟨s1, s2, s3, vs, s4, s5⟩ := s
      exact ⟨s1, (B.gf _ (by rw [s4]; exact fun z => nomatch z)).trans s2, s3, vs, away _ _ s4, s5.mono B.gg⟩
    | par xs =>
      obtain ⟨s1, s2, s3, vs, s4, s5⟩ := s
      exact ⟨s1, (B.gf _ (by rw [s4]; exact fun z => nomatch z)).trans s2, s3, vs, away _ _ s4, s5.mono B.gg⟩
  · obtain ⟨e1, e2⟩ := S.fr a o h m
    exact ⟨away a o e1, (B.gf a (by rw [e1]; exact fun z => nomatch z)).trans e2⟩
theorem args_vals {l : List D} {vs : List V} (r : Reps K G l vs) : Args K G H (fun _ => 0) vs (l.map .val) := by
  refine ⟨by rw [List.length_map]; exact r.len, fun i dv e => ?_, fun i j xs ys e _ _ => ?_⟩
  · rw [List.getElem?_map] at e
    cases q : l[i]? with
    | none => rw [q] at e; cases e
    | some d =>
      rw [q] at e
      have e := Option.some.inj e
      subst e
      exact r.get q
  · rw [List.getElem?_map] at e
    cases q : l[i]? with
    | none => rw [q] at e; cases e
    | some d => rw [q] at e; cases (Option.some.inj e : DV.val d = DV.par xs)
/-- the call: n values as they are written, the defaults mv, where each parameter's one stands -/
def tCallP (sp : Sp) (n : Nat) (mv : List V) (ix : List Nat) (E : L2.St → XK) (t : TA) : TE := fun σ H Q => t σ H fun vs H1 => vs.length = n ∧ sp (pick ix (vs ++ mv)) H1 Q (E σ)
theorem ew_callK {fs : FS} {as : List WE} {more : List D} {mv : List V} {ix : List Nat} (h : AW K W ta0 as) (hm : ∀ G, Reps K G more mv) : EW K W (tCallP (spOf K fs) as.length mv ix (L2.WE W) ta0) (wCallK fs as more ix) := fun c pa G H σ ds xk kk Q E hw hx k => by
  refine h c pa G H σ ds xk _ _ E hw hx fun vs G1 H1 l ds1 q S1 r1 l1 => ⟨by rw [← r1.len, l1], ?_⟩
  refine ⟨G1, fun _ => 0, _, _, S1.env.ex, args_vals ((r1.append (hm G1)).pick ix), q, fun v r dvs' G' H' hk B R => ?_, fun e cls d dvs' G' H' hk B X => ?_⟩
  · have S := S1.calledK B
    cases r with
    | val d => exact k v G' H' d ds1 hk S R
    | own ys =>
      obtain ⟨p2, rfl, p0, p1, hp⟩ := R
      have t : Tmp K c pa G' H' ds1 p2 ys := ⟨p1, by
        cases z : c.H0 p2 with
        | none => rfl
        | some o => exact absurd p0 (S1.env.dom p2 (by rw [z]; exact fun z => nomatch z)), hp, fun i dv hi o z => S1.env.ownNe hi o (z ▸ p0)⟩
      obtain ⟨G2, S2, r2⟩ := S.freeze t (by
        cases z : H p2 with
        | none => rfl
        | some o => exact absurd p0 (S1.dom p2 (by rw [z]; exact fun z => nomatch z)))
      exact k _ G2 H' _ ds1 hk S2 r2
    | par _ => exact (show False from hk).elim
  · exact hx e _ hk pa G' H' σ cls d (S1.calledK B).env X
/-- x, y = a, [..] -/
theorem sw_parO {i j : Nat} (hn : i ≠ j) (h1 : EW K W ta a) (h2 : EO K W te o) : SW K W (tPar i j (tCons ta (tCons te tNil))) (wParO i j a o) := fun c pa G H σ ds P D E hw hx he =>
  h1 c pa G H σ ds _ _ _ E hw hx fun v G1 H1 d ds1 q S1 r1 => h2 c pa G1 H1 σ ds1 _ _ _ S1.env q hx fun p G2 H2 xs ds2 q2 S2 t2 n2 =>
    ⟨v, .ref p, rfl, he.nx _ G2 H2 _ _ q2 ((S2.env.setVal i (r1.mono S2.sg)).setOwn j (t2.less fun l dv h o => by
      rw [gt_st] at h
      split at h
      · have h := Option.some.inj h
        subst h
        cases o
      · exact ⟨dv, h, o⟩))⟩
end
/-! ### in a derivation -/
/-- how a call binds: nu values by place, the keywords ks, the defaults mu, where each parameter's one stands -/
structure KB (K : PySem.W.Frag) (fd : FuncData) (ps : List Str) (nu : Nat) (ks : List Str) (mu : List Value) (ix : List Nat) : Prop where
  to : ∀ (s : Shared) (us ws : List Value), K.In s.heap → us.length = nu → ws.length = ks.length → BindsTo s fd ⟨us, ks.zip ws⟩ (ps.zip (pick ix (us ++ ws ++ mu)))
theorem Vals.pick {vs : List V} {us : List Value} (r : Vals vs us) : ∀ ix : List Nat, Vals (pick ix vs) (pick ix us)
  | [] => .nil
  | i :: ix => by
    unfold DW.pick
    have hl := r.length
    cases e : vs[i]? with
    | none =>
      have e2 : us[i]? = none := by
        rw [List.getElem?_eq_none_iff] at e ⊢
        omega
      rw [List.filterMap_cons, List.filterMap_cons, e, e2]
      exact Vals.pick r ix
    | some v =>
      have hi := (List.getElem?_eq_some_iff.mp e).1
      obtain ⟨u, e2, ru⟩ := r.get e
      rw [List.filterMap_cons, List.filterMap_cons, e, e2]
      exact .cons ru (Vals.pick r ix)
section
variable {X : Cx} {CX : CXT} {k : Nat} {f : Addr} {fd : FuncData} {ps ks : List Str} {nu : Nat} {mu : List Value} {mv : List V} {ix : List Nat} {sp : Sp} {E : L2.St → XK} {x : Str} {p pos : Pos} {e : Expr} {es : List Expr} {kws : List Keyword} {t tk ta : TA}
theorem run_P {pins : List (Addr × Obj)} {σ : L2.St} {H : Hp} {s : Shared} {Q : VK} {us ws : List Value} {vs zs : List V} (F : FnG X.prog X.w X.K X.mg X.base CX k f fd ps sp) (hr : Rm X.base k X.A) (hb : KB X.K fd ps nu ks mu ix) (hd : Vals mv mu) (hx : ∀ σ, PassesAt CX X σ (E σ))
    (I : Inv X pins σ H s) (r : Vals vs us) (rz : Vals zs ws) (hu : us.length = nu) (hw : ws.length = ks.length) (h : sp (pick ix (vs ++ zs ++ mv)) H Q (E σ)) : wpAny (model X.prog X.w) X.A (call (.ref f) us (ks.zip ws)) (EP X pins σ Q) X.xe s := by
  exact run_G (as := ⟨us, ks.zip ws⟩) F hr (hb.to s us ws I.kIn hu hw) (hx σ) I (Vals.pick ((r.append rz).append hd) ix) h
/-- the values by place, then those by name -/
def tTwo (n : Nat) (t tk : TA) : TA := fun σ H Q => t σ H fun vs H1 => tk σ H1 fun zs H2 => vs.length = n ∧ Q (vs ++ zs) H2
theorem pe_callP (F : FnG X.prog X.w X.K X.mg X.base CX k f fd ps sp) (hr : Rm X.base k X.A) (hg : Gl X x) (hm : X.mg x = some (.ref f)) (hk : PySem.W.keepIn X.K (.ref f) = true) (hb : KB X.K fd ps nu ks mu ix) (hd : Vals mv mu) (hx : ∀ σ, PassesAt CX X σ (E σ))
    (ha : PA X (e :: es) t) (hkw : PK X kws tk) (hall : (backToKw pos (keywordEach kws X.env)).all (·.1.isSome) = true := by rfl) (hks : (backToKw pos (keywordEach kws X.env)).filterMap (·.1) = ks := by rfl)
    (hdb : (x == ("__debug__" : Str)) = false := by decide) (he : starEach (e :: es) X.env = (false, eval e X.env) :: starEach es X.env := by rfl)
    (hpl : ((backTo pos (starEach (e :: es) X.env)).any (·.1) || (backToKw pos (keywordEach kws X.env)).any (·.1.isNone)) = false := by rfl) :
    PE X (.Call (.Name x p) (e :: es) kws pos) (tCallP sp (nu + ks.length) mv ix E (tTwo nu t tk)) := by
  refine ⟨fun pins s σ H Q I h => ?_⟩
  refine wpAny_Call_Name_kw (ld_glob I hg hm ?_ hdb)
  refine PySem.W.callWith_KW (h₀ := X.base) I.ok.mod.kin hk hall (thn (ha.run pos pins s σ H _ I h) fun us s1 ⟨vs, H1, I1, r, q⟩ => ?_) hpl he
  refine thn (hkw.run pos pins s1 σ H1 _ I1 q) fun ws s2 ⟨zs, H2, I2, rz, l1, l2, q2⟩ => ⟨I2.kIn, ?_⟩
  rw [hks]
  rw [List.length_append] at l2
  exact run_P (us := us) F hr hb hd hx I2 r rz (by rw [← r.length, l1]) (by rw [← rz.length]; omega) q2
theorem pe_callP0 (F : FnG X.prog X.w X.K X.mg X.base CX k f fd ps sp) (hr : Rm X.base k X.A) (hg : Gl X x) (hm : X.mg x = some (.ref f)) (hk : PySem.W.keepIn X.K (.ref f) = true) (hb : KB X.K fd ps 0 ks mu ix) (hd : Vals mv mu) (hx : ∀ σ, PassesAt CX X σ (E σ))
    (hkw : PK X kws tk) (hall : (backToKw pos (keywordEach kws X.env)).all (·.1.isSome) = true := by rfl) (hks : (backToKw pos (keywordEach kws X.env)).filterMap (·.1) = ks := by rfl)
    (hdb : (x == ("__debug__" : Str)) = false := by decide) (hpl : ((backTo pos (starEach [] X.env)).any (·.1) || (backToKw pos (keywordEach kws X.env)).any (·.1.isNone)) = false := by rfl) :
    PE X (.Call (.Name x p) [] kws pos) (tCallP sp (0 + ks.length) mv ix E (tTwo 0 tNil tk)) := by
  refine ⟨fun pins s σ H Q I h => ?_⟩
  refine wpAny_Call_Name_kw (ld_glob I hg hm ?_ hdb)
  refine PySem.W.callWith_KW0 (h₀ := X.base) I.ok.mod.kin hk hall (thn (hkw.run pos pins s σ H _ I h) fun ws s2 ⟨zs, H2, I2, rz, l1, l2, q2⟩ => ⟨I2.kIn, ?_⟩) hpl
  rw [hks]
  rw [List.length_append] at l2
  exact run_P (us := []) (vs := []) F hr hb hd hx I2 .nil rz rfl (by rw [← rz.length]; have : ([] : List V).length = 0 := rfl; omega) q2
end
theorem wArgs_app : ∀ (as bs : List WE) (x : XKd) (ds : DS) (k : List D → DS → Prop), wArgs (as ++ bs) x ds k = wArgs as x ds fun l ds1 => wArgs bs x ds1 fun m ds2 => k (l ++ m) ds2
  | [], bs, x, ds, k => rfl
  | a :: as, bs, x, ds, k => by
    show (a x ds fun d ds1 => wArgs (as ++ bs) x ds1 fun l ds2 => k (d :: l) ds2) = a x ds fun d ds1 => wArgs as x ds1 fun l ds2 => wArgs bs x ds2 fun m ds3 => k (d :: (l ++ m)) ds3
    congr 1
    funext d ds1
    rw [wArgs_app as bs]
theorem aw_two {K : PySem.W.Frag} {W : WX} {t tk : TA} {as bs : List WE} (h : AW K W t as) (h' : AW K W tk bs) : AW K W (tTwo as.length t tk) (as ++ bs) := fun c pa G H σ ds xk kk Q E hw hx k => by
  rw [wArgs_app] at hw
  refine h c pa G H σ ds xk _ _ E hw hx fun vs G1 H1 l ds1 q S1 r1 l1 => ?_
  refine h' c pa G1 H1 σ ds1 xk _ _ S1.env q hx fun zs G2 H2 m ds2 q2 S2 r2 l2 => ⟨by rw [← r1.len, l1], ?_⟩
  exact k _ G2 H2 _ ds2 q2 (S1.trans S2) ((Reps.mono S2.sg r1).append r2) (by rw [List.length_append, List.length_append, l1, l2])
section
variable {P : Program} {w : World} {K : PySem.W.Frag} {mg : Str → Option Value} {base : Heap} {N : List Str} {k : Nat} {W : WX}
variable {F : Fam P w K mg base N k W} {a b c e tg it : Expr} {es : List Expr} {x y z : Str} {pos p p2 p3 p4 p5 : Pos} {qa qb qc qe : WE} {q r : WT} {g : Tg} {s1 : List Stmt} {ws : WS} {o : WO}
/-- a def that keeps its promise and stands under its name -/
structure CalF (P : Program) (w : World) (K : PySem.W.Frag) (mg : Str → Option Value) (base : Heap) (k : Nat) (x : Str) (ps : List Str) (fs : FS) (f : Addr) (fd : FuncData) : Prop where
  ok : FnG P w K mg base CX0 k f fd ps (spOf K fs)
  gm : mg x = some (.ref f)
  kp : PySem.W.keepIn K (.ref f) = true
theorem CalF.mk2 {qual : Str} {st : Stmt} {f : Addr} {fd : FuncData} {N ps : List Str} {fs : FS} {ws : WS} {j : Nat} (Fn : Fun K x qual st f fd) (hm : mg x = some (.ref f)) (S : FnScope N ps (defScope st)) (hl : ∀ dvs kk, fs dvs kk → dvs.length = ps.length) (hN : ps.length ≤ N.length)
    (hd : ∀ (cdv : Value) (A : Around) (outer : List PySem.Env) (s : Shared) (H : Hp) (E : XK) (hr : Rm base j (A.deeper (envOfC qual (defScope st) s.heap.objs.size f cdv))), DSs (Fam.body P w K mg base N j qual (defScope st) f cdv A outer s H E hr S.nd) (defBody st) ws)
    (hk : Keeps0 N.length ws fs) : CalF P w K mg base (j + 1) x ps fs f fd := ⟨fn_keeps0 Fn S hl hN hd hk, hm, Fn.kp⟩
theorem CalF.cal {f : Addr} {fd : FuncData} {ps : List Str} {fs : FS} {j : Nat} (C : CalF P w K mg base j x ps fs f fd) (bb : Binds K fd ps []) : Cal P w K mg base j x ps fs := ⟨f, fd, C.ok, C.gm, C.kp, bb⟩
/-- .. called in a shape of its own: by name, with defaults -/
structure CalP (P : Program) (w : World) (K : PySem.W.Frag) (mg : Str → Option Value) (base : Heap) (k : Nat) (x : Str) (ps : List Str) (fs : FS) (nu : Nat) (ks : List Str) (more : List D) (ix : List Nat) : Prop where
  ex : ∃ f fd mu mv, FnG P w K mg base CX0 k f fd ps (spOf K fs) ∧ mg x = some (.ref f) ∧ PySem.W.keepIn K (.ref f) = true ∧ KB K fd ps nu ks mu ix ∧ Vals mv mu ∧ ∀ G, Reps K G more mv
theorem CalF.calP {f : Addr} {fd : FuncData} {ps : List Str} {fs : FS} {j nu : Nat} {ks : List Str} {mu : List Value} {mv : List V} {more : List D} {ix : List Nat} (C : CalF P w K mg base j x ps fs f fd) (bb : KB K fd ps nu ks mu ix) (hd : Vals mv mu) (hm : ∀ G, Reps K G more mv) : CalP P w K mg base j x ps fs nu ks more ix :=
  ⟨f, fd, mu, mv, C.ok, C.gm, C.kp, bb, hd, hm⟩
def DKw (F : Fam P w K mg base N k W) (kws : List Keyword) (q : List WE) : Prop := ∃ tk, (∀ i, PK (F.X i) kws tk) ∧ AW K W tk q
theorem kw_nil : DKw F [] [] := ⟨_, fun _ => pk_nil, aw_nil⟩
theorem kw_cons {nm : Option Str} {kws : List Keyword} {qs : List WE} (ha : DE F a qa) (hr : DKw F kws qs) : DKw F (⟨nm, a, p⟩ :: kws) (qa :: qs) := by
  obtain ⟨t, h1, h2⟩ := ha
  obtain ⟨u, u1, u2⟩ := hr
  exact ⟨_, fun i => pk_cons (h1 i) (u1 i), aw_cons h2 u2⟩
theorem callP {X : Cx} {kf nu : Nat} {f : Addr} {fd : FuncData} {ps ks : List Str} {fs : FS} {t tk : TA} {mv : List V} {mu : List Value} {ix : List Nat} {kws : List Keyword} (hP : X.prog = P) (hw : X.w = w) (hK : X.K = K) (hm : X.mg = mg) (hb : X.base = base) (G : FnG P w K mg base CX0 kf f fd ps (spOf K fs)) (hr : Rm base k X.A) (hk : kf ≤ k)
    (hg : Gl X x) (gm : mg x = some (.ref f)) (kp : PySem.W.keepIn K (.ref f) = true) (bb : KB K fd ps nu ks mu ix) (hd : Vals mv mu) (ha : PA X (a :: es) t) (hkw : PK X kws tk)
    (hall : (backToKw pos (keywordEach kws X.env)).all (·.1.isSome) = true) (hks : (backToKw pos (keywordEach kws X.env)).filterMap (·.1) = ks) (hdb : (x == ("__debug__" : Str)) = false)
    (he : starEach (a :: es) X.env = (false, eval a X.env) :: starEach es X.env) (hpl : ((backTo pos (starEach (a :: es) X.env)).any (·.1) || (backToKw pos (keywordEach kws X.env)).any (·.1.isNone)) = false) :
    PE X (.Call (.Name x p) (a :: es) kws pos) (tCallP (spOf K fs) (nu + ks.length) mv ix (L2.WE W) (tTwo nu t tk)) := by
  subst hP hw hK hm hb
  exact pe_callP G (hr.mono hk) hg gm kp bb hd (fun _ _ _ _ _ _ _ h => h.elim) ha hkw hall hks hdb he hpl
theorem callP0 {X : Cx} {kf : Nat} {f : Addr} {fd : FuncData} {ps ks : List Str} {fs : FS} {tk : TA} {mv : List V} {mu : List Value} {ix : List Nat} {kws : List Keyword} (hP : X.prog = P) (hw : X.w = w) (hK : X.K = K) (hm : X.mg = mg) (hb : X.base = base) (G : FnG P w K mg base CX0 kf f fd ps (spOf K fs)) (hr : Rm base k X.A) (hk : kf ≤ k)
    (hg : Gl X x) (gm : mg x = some (.ref f)) (kp : PySem.W.keepIn K (.ref f) = true) (bb : KB K fd ps 0 ks mu ix) (hd : Vals mv mu) (hkw : PK X kws tk)
    (hall : (backToKw pos (keywordEach kws X.env)).all (·.1.isSome) = true) (hks : (backToKw pos (keywordEach kws X.env)).filterMap (·.1) = ks) (hdb : (x == ("__debug__" : Str)) = false)
    (hpl : ((backTo pos (starEach [] X.env)).any (·.1) || (backToKw pos (keywordEach kws X.env)).any (·.1.isNone)) = false) :
    PE X (.Call (.Name x p) [] kws pos) (tCallP (spOf K fs) (0 + ks.length) mv ix (L2.WE W) (tTwo 0 tNil tk)) := by
  subst hP hw hK hm hb
  exact pe_callP0 G (hr.mono hk) hg gm kp bb hd (fun _ _ _ _ _ _ _ h => h.elim) hkw hall hks hdb hpl
/-- f(a, .., k = v, ..) -/
theorem d_callP {kf nu : Nat} {ps ks : List Str} {fs : FS} {qs rs : List WE} {more : List D} {ix : List Nat} {kws : List Keyword} (C : CalP P w K mg base kf x ps fs nu ks more ix) (ha : DL F (a :: es) qs) (hkw : DKw F kws rs) (hnu : qs.length = nu := by rfl) (hnk : rs.length = ks.length := by rfl) (hk : kf ≤ k := by decide)
    (hg : ∀ j, Gl (F.X j) x := by intro _; rfl) (hdb : (x == ("__debug__" : Str)) = false := by decide) (he : ∀ j, starEach (a :: es) (F.X j).env = (false, eval a (F.X j).env) :: starEach es (F.X j).env := by intro _; rfl)
    (hall : ∀ j, (backToKw pos (keywordEach kws (F.X j).env)).all (·.1.isSome) = true := by intro _; rfl) (hks : ∀ j, (backToKw pos (keywordEach kws (F.X j).env)).filterMap (·.1) = ks := by intro _; rfl)
    (hpl : ∀ j, ((backTo pos (starEach (a :: es) (F.X j).env)).any (·.1) || (backToKw pos (keywordEach kws (F.X j).env)).any (·.1.isNone)) = false := by intro _; rfl) : DE F (.Call (.Name x p) (a :: es) kws pos) (wCallK fs (qs ++ rs) more ix) := by
  obtain ⟨f, fd, mu, mv, c1, c2, c3, c4, c5, c6⟩ := C.ex
  obtain ⟨t, h1, h2⟩ := ha
  obtain ⟨u, u1, u2⟩ := hkw
  subst hnu
  refine ⟨_, fun j => callP (W := W) (F.hP j) (F.hw j) (F.hK j) (F.hm j) (F.hb j) c1 (F.room j) hk (hg j) c2 c3 c4 c5 (h1 j) (u1 j) (hall j) (hks j) hdb (he j) (hpl j), ?_⟩
  have e : qs.length + ks.length = (qs ++ rs).length := by rw [List.length_append, hnk]
  rw [e]
  exact ew_callK (aw_two h2 u2) c6
theorem d_callP0 {kf : Nat} {ps ks : List Str} {fs : FS} {rs : List WE} {more : List D} {ix : List Nat} {kws : List Keyword} (C : CalP P w K mg base kf x ps fs 0 ks more ix) (hkw : DKw F kws rs) (hnk : rs.length = ks.length := by rfl) (hk : kf ≤ k := by decide)
    (hg : ∀ j, Gl (F.X j) x := by intro _; rfl) (hdb : (x == ("__debug__" : Str)) = false := by decide)
    (hall : ∀ j, (backToKw pos (keywordEach kws (F.X j).env)).all (·.1.isSome) = true := by intro _; rfl) (hks : ∀ j, (backToKw pos (keywordEach kws (F.X j).env)).filterMap (·.1) = ks := by intro _; rfl)
    (hpl : ∀ j, ((backTo pos (starEach [] (F.X j).env)).any (·.1) || (backToKw pos (keywordEach kws (F.X j).env)).any (·.1.isNone)) = false := by intro _; rfl) : DE F (.Call (.Name x p) [] kws pos) (wCallK fs rs more ix) := by
  obtain ⟨f, fd, mu, mv, c1, c2, c3, c4, c5, c6⟩ := C.ex
  obtain ⟨u, u1, u2⟩ := hkw
  refine ⟨_, fun j => callP0 (W := W) (F.hP j) (F.hw j) (F.hK j) (F.hm j) (F.hb j) c1 (F.room j) hk (hg j) c2 c3 c4 c5 (u1 j) (hall j) (hks j) hdb (hpl j), ?_⟩
  have e : 0 + ks.length = rs.length := by rw [hnk, Nat.zero_add]
  rw [e]
  exact ew_callK (aw_two (as := []) aw_nil u2) c6
/-- f([..]): a list made for the call -/
theorem d_callT {kf : Nat} {ps : List Str} {fs : FS} (C : Cal P w K mg base kf x ps fs) (ha : DO F a o) (hk : kf ≤ k := by decide)
    (hg : ∀ j, Gl (F.X j) x := by intro _; rfl) (hdb : (x == ("__debug__" : Str)) = false := by decide) (he : ∀ j, starEach [a] (F.X j).env = (false, eval a (F.X j).env) :: starEach [] (F.X j).env := by intro _; rfl)
    (hpl : ∀ j, (backTo pos (starEach [] (F.X j).env)).any (·.1) = false := by intro _; rfl) : DE F (.Call (.Name x p) [a] [] pos) (wCallT fs o) := by
  obtain ⟨f, fd, c1, c2, c3, c4⟩ := C.ex
  obtain ⟨u, u1, u2⟩ := ha
  exact ⟨_, fun j => callX (F.hP j) (F.hw j) (F.hK j) (F.hm j) (F.hb j) c1 (F.room j) hk (hg j) c2 c3 c4 .nil (fun _ _ _ _ _ _ _ h => h.elim) (pa_cons (u1 j) pa_nil (he j)) hdb (he j) (hpl j), ew_callT u2⟩
/-! lists -/
theorem catK {X : Cx} (h : X.K = K) : OpR X (binaryOp .Add) (rCatL K) := by subst h; exact op_catL
theorem o_cat (ha : DE F a qa) (hb : DE F b qb) : DO F (.BinOp a .Add b pos) (wCat qa qb) := by
  obtain ⟨t, h1, h2⟩ := ha
  obtain ⟨u, u1, u2⟩ := hb
  exact ⟨_, fun i => pe_op (catK (F.hK i)) (h1 i) (u1 i), eo_cat h2 u2⟩
theorem revLK {X : Cx} {ta : TE} {kk : Nat} (h : X.K = K) (ha : PE X a ta) : PE X (.Subscript a (.Slice none none (some (.UnaryOp .USub (.Constant (.int 1) kk p) p2)) p3) pos) (tRevL K ta) := by subst h; exact pe_revL ha
theorem rev2K {X : Cx} {ta : TE} {kk k2 : Nat} (h : X.K = K) (ha : PE X a ta) : PE X (.Subscript a (.Slice (some (.UnaryOp .USub (.Constant (.int 2) k2 p4) p5)) none (some (.UnaryOp .USub (.Constant (.int 1) kk p) p2)) p3) pos) (tRev2 K ta) := by subst h; exact pe_rev2 ha
theorem o_rev {kk : Nat} (ha : DE F a qa) : DO F (.Subscript a (.Slice none none (some (.UnaryOp .USub (.Constant (.int 1) kk p) p2)) p3) pos) (wRev qa) := by
  obtain ⟨t, h1, h2⟩ := ha
  exact ⟨_, fun i => revLK (F.hK i) (h1 i), eo_rev h2⟩
theorem o_rev2 {kk k2 : Nat} (ha : DE F a qa) : DO F (.Subscript a (.Slice (some (.UnaryOp .USub (.Constant (.int 2) k2 p4) p5)) none (some (.UnaryOp .USub (.Constant (.int 1) kk p) p2)) p3) pos) (wRev2 qa) := by
  obtain ⟨t, h1, h2⟩ := ha
  exact ⟨_, fun i => rev2K (F.hK i) (h1 i), eo_rev2 h2⟩
def DPt (F : Fam P w K mg base N k W) (e : Option Expr) (q : WPt) : Prop := ∃ tl, (∀ i, PO (F.X i) e tl) ∧ PWt K W tl q
theorem sp_no : DPt F none wNoP := ⟨_, fun _ => po_none, pw_no⟩
theorem sp_at (ha : DE F a qa) : DPt F (some a) (wP qa) := by
  obtain ⟨t, h1, h2⟩ := ha
  exact ⟨_, fun i => po_some (h1 i), pw_p h2⟩
theorem slLK {X : Cx} (h : X.K = K) : SlR X (rSlL K) := by subst h; exact sl_list
theorem o_cut {lo hi : Option Expr} {ql qh : WPt} (ha : DE F a qa) (hl : DPt F lo ql) (hh : DPt F hi qh) : DO F (.Subscript a (.Slice lo hi none p) pos) (wCut qa ql qh) := by
  obtain ⟨t, h1, h2⟩ := ha
  obtain ⟨u, u1, u2⟩ := hl
  obtain ⟨v, v1, v2⟩ := hh
  exact ⟨_, fun i => pe_slice (slLK (F.hK i)) (h1 i) (u1 i) (v1 i), eo_cut h2 u2 v2⟩
/-! a < b < c -/
theorem d_chain {op op' : CmpOp} {f f' : B2} {rr rr' : R2} (ho : ∀ j, OpR (F.X j) (compareOp op) rr) (hr : RW2 K rr f) (ho' : ∀ j, OpR (F.X j) (compareOp op') rr') (hr' : RW2 K rr' f') (ha : DE F a qa) (hb : DE F b qb) (hc : DE F c qc) (hm : lastMarks [op, op'] [b, c] = false := by with_unfolding_all rfl) :
    DE F (.Compare a [op, op'] [b, c] pos) (wChain f f' qa qb qc) := by
  obtain ⟨t, h1, h2⟩ := ha
  obtain ⟨u, u1, u2⟩ := hb
  obtain ⟨v, v1, v2⟩ := hc
  exact ⟨_, fun j => pe_chain (ho j) (ho' j) (h1 j) (u1 j) (v1 j) hm, ew_chain hr hr' h2 u2 v2⟩
theorem t_chain {op op' : CmpOp} {f f' : B2} {rr rr' : R2} (ho : ∀ j, OpR (F.X j) (compareOp op) rr) (hr : RW2 K rr f) (ho' : ∀ j, OpR (F.X j) (compareOp op') rr') (hr' : RW2 K rr' f') (ha : DE F a qa) (hb : DE F b qb) (hc : DE F c qc) (hm : lastMarks [op, op'] [b, c] = false := by with_unfolding_all rfl) :
    DT F (.Compare a [op, op'] [b, c] pos) (wTst (wChain f f' qa qb qc)) := by
  obtain ⟨t, h1, h2⟩ := ha
  obtain ⟨u, u1, u2⟩ := hb
  obtain ⟨v, v1, v2⟩ := hc
  exact ⟨_, fun j => pt_chain (ho j) (ho' j) (h1 j) (u1 j) (v1 j) hm, tw_tst (ew_chain hr hr' h2 u2 v2)⟩
theorem d_globI {i : Int} (h : ∃ t, mg x = some (.int i t)) (hg : ∀ j, Gl (F.X j) x := by intro _; rfl) (hd : (x == ("__debug__" : Str)) = false := by decide) : DE F (.Name x pos) (wC (.int i)) := by
  obtain ⟨t, e⟩ := h
  exact d_glob e (v := .int i) ⟨t, rfl⟩ (fun _ => rfl) hg hd
theorem d_globS {i : Str} (h : ∃ t, mg x = some (.str i t)) (hg : ∀ j, Gl (F.X j) x := by intro _; rfl) (hd : (x == ("__debug__" : Str)) = false := by decide) : DE F (.Name x pos) (wC (.str i)) := by
  obtain ⟨t, e⟩ := h
  exact d_glob e (v := .str i) ⟨t, rfl⟩ (fun _ => rfl) hg hd
theorem d_intf (hm : mg "int" = none) (ha : DE F a qa) (hg : ∀ j, Gl (F.X j) "int" := by intro _; rfl) (hs : ∀ j, starEach [a] (F.X j).env = (false, eval a (F.X j).env) :: starEach [] (F.X j).env := by intro _; rfl) (hpl : ∀ j, (backTo pos (starEach [] (F.X j).env)).any (·.1) = false := by intro _; rfl) :
    DE F (.Call (.Name "int" p) [a] [] pos) (wUn dInt qa) := by
  obtain ⟨t, h1, h2⟩ := ha
  exact ⟨_, fun j => pe_callTy call_int1 (hg j) (by rw [F.hm j]; exact hm) (by decide +kernel) (pa_cons (h1 j) pa_nil (hs j)) (by decide) (by decide) (hs j) (hpl j), ew_cb1 rc_int h2⟩
/-- x, y = a, [..] -/
theorem s_parO (i l : Nat) {kt k2 : Nat} (ha : DE F a qa) (hb : DO F b o) (hi : N[i]? = some x := by rfl) (hl : N[l]? = some y := by rfl) (hn : i ≠ l := by decide) (hx : ∀ j, (F.X j).env.scope.names.lookup x = some .local := by intro _; rfl) (hy : ∀ j, (F.X j).env.scope.names.lookup y = some .local := by intro _; rfl)
    (hw : ∀ j, swappedStores [.Tuple [.Name x p, .Name y p2] kt p3] (.Tuple [a, b] k2 p4) (F.X j).env = pure (some [x, y]) := by intro _; rfl) (hs : ∀ j, swapsWithSole [.Tuple [.Name x p, .Name y p2] kt p3] (.Tuple [a, b] k2 p4) pos.line (F.X j).env = pure false := by intro _; rfl)
    (h1 : ∀ j, starEach [a, b] (F.X j).env = (false, eval a (F.X j).env) :: starEach [b] (F.X j).env := by intro _; rfl) (h2 : ∀ j, starEach [b] (F.X j).env = (false, eval b (F.X j).env) :: starEach [] (F.X j).env := by intro _; rfl) :
    DS1 F (.Assign [.Tuple [.Name x p, .Name y p2] kt p3] (.Tuple [a, b] k2 p4) pos) (wParO i l qa o) := by
  obtain ⟨t, t1, t2⟩ := ha
  obtain ⟨u, u1, u2⟩ := hb
  exact ⟨_, fun j => ps_par (F.calm j) (by rw [F.hN j]; exact F.nd) (by rw [F.hN j]; exact hi) (by rw [F.hN j]; exact hl) hn (hx j) (hy j) (pa_cons (t1 j) (pa_cons (u1 j) pa_nil (h2 j)) (h1 j)) (hw j) (hs j), sw_parO hn t2 u2⟩
end
end DW

/-! DwM: instances of classes without fields: made, asked. -/
namespace DW
open PySem PySem.Spec PyProof.Rows L2

/-- a class that is made with nothing: no __init__ but object's -/
structure Mk0 (K : PySem.W.Frag) (C : Addr) : Prop where
  makes : PySem.W.makesIn K C = true
  init : PySem.W.findIn K (.ref C) "__init__" = some (some (.builtin "object.__init__"))
  top : PySem.W.mroIn K C (.type "object") = some true
  kp : PySem.W.keepIn K (.ref C) = true
section
variable {X : Cx} {C : Addr}
theorem run_make0 {pins : List (Addr × Obj)} {σ : L2.St} {H : Hp} {s : Shared} {Q : VK} (M : Mk0 X.K C) (I : Inv X pins σ H s)
    (h : ∀ x dx, H x = none → H dx = none → dx ≠ x → Q (.ref x) (upd (upd H dx (.own x)) x (.ins C dx []))) : wpAny (model X.prog X.w) X.A (call (.ref C) []) (EP X pins σ Q) X.xe s := by
  have hq := h (s.heap.objs.size + 1) s.heap.objs.size (I.hok.fresh (Nat.le_succ _)) (I.hok.fresh (Nat.le_refl _)) (Nat.ne_of_lt (Nat.lt_succ_self _))
  have I2 := Inv.made (C := C) I
  refine wpAny_call (make_map0 I.kIn M.makes M.init (fun self => PySem.W.Looks.of_pure (PySem.W.oi_bind _)) ?_)
  have ho : ((s.heap.push PySem.W.emptyDict).push (PySem.W.instObj C s.heap.objs.size)).get? (s.heap.objs.size + 1) = some (PySem.W.instObj C s.heap.objs.size) := by
    have := Heap.get?_push_size (s.heap.push PySem.W.emptyDict) (o := PySem.W.instObj C s.heap.objs.size) rfl
    rwa [Heap.size_push] at this
  have t1 : PySem.W.Looks (model X.prog X.w) ((s.heap.push PySem.W.emptyDict).push (PySem.W.instObj C s.heap.objs.size)) (typeOf (.ref (s.heap.objs.size + 1))) (.ref C) := NwA.type_at ho rfl
  have t2 : PySem.W.Looks (model X.prog X.w) ((s.heap.push PySem.W.emptyDict).push (PySem.W.instObj C s.heap.objs.size)) (isInstance (.ref (s.heap.objs.size + 1)) (.type "object")) true := t1.andThen (PySem.W.looks_mroIn I2.kIn M.top)
  refine codeAny_call_builtin PySem.W.oi_plain PySem.W.entry_oi (@PySem.W.check_slot (model X.prog X.w) _ _ _ "object.__init__" "object" "__init__" (.ref (s.heap.objs.size + 1)) [] [] _ PySem.W.oi_kind PySem.W.oi_split t2 (NwA.oi_args_any _ _ _) ?_)
  rw [PySem.W.oi_run]
  exact wpAny_pure ⟨rfl, ⟨V.ref (s.heap.objs.size + 1), _, I2, rfl, hq⟩⟩
def tMake0 (C : Addr) : TE := fun σ H Q => ∀ x dx, H x = none → H dx = none → dx ≠ x → Q (.ref x) (upd (upd H dx (.own x)) x (.ins C dx []))
theorem pe_mk0 {x : Str} {p pos : Pos} (M : Mk0 X.K C) (hg : Gl X x) (hm : X.mg x = some (.ref C)) (hdb : (x == ("__debug__" : Str)) = false := by decide) : PE X (.Call (.Name x p) [] [] pos) (tMake0 C) := by
  refine ⟨fun pins s σ H Q I h => ?_⟩
  refine wpAny_Call_Name_kw (ld_glob I hg hm ?_ hdb)
  exact PySem.W.callWith_K0 I.kIn M.kp (run_make0 M I h)
/-- what a method's name means at the classes that may stand there: the class, its def, what that promises -/
structure MAlt (P : Program) (w : World) (K : PySem.W.Frag) (mg : Str → Option Value) (base : Heap) (k : Nat) (m : Str) (C : Addr) (sp : Sp) : Prop where
  cls : Cls K C
  ex : ∃ f fd ps, Meth K C m f ∧ FnG P w K mg base CX0 k f fd ps sp ∧ Binds K fd ps []
/-- o.m(..), o an instance of one of some classes -/
def tMeths (alts : Addr → Sp → Prop) (m : Str) (E : L2.St → XK) (ta : TE) (t : TA) : TE := fun σ H Q => ta σ H fun x H1 => ∃ C sp a dx fs, alts C sp ∧ x = .ref a ∧ H1 a = some (.ins C dx fs) ∧ fs.lookup m = none ∧ t σ H1 fun vs H2 => sp (x :: vs) H2 Q (E σ)
theorem pe_meths {k : Nat} {m : Str} {o e : Expr} {es : List Expr} {ta : TE} {t : TA} {E : L2.St → XK} {apos pos : Pos} {pl : Sem Bool} {alts : Addr → Sp → Prop} (he : PE X o ta) (al : ∀ C sp, alts C sp → MAlt X.prog X.w X.K X.mg X.base k m C sp) (hr : Rm X.base k X.A) (hx : ∀ σ, PassesAt CX0 X σ (E σ)) (ha : PA X (e :: es) t)
    (hst : starEach (e :: es) X.env = (false, eval e X.env) :: starEach es X.env := by rfl) (hpl : (backTo pos (starEach es X.env)).any (·.1) = false := by rfl)
    (ht : eval (.Call (.Attribute o m apos) (e :: es) [] pos) X.env = (do
      let ov ← eval o X.env; standAt apos.atName; let (f, first) ← holding [ov] (getMethod ov m pl); callWith pos f first (backTo pos (starEach (e :: es) X.env)) (backToKw pos (keywordEach [] X.env))) := by rfl) :
    PE X (.Call (.Attribute o m apos) (e :: es) [] pos) (tMeths alts m E ta t) := by
  refine ⟨fun pins s σ H Q I h => ?_⟩
  refine PySem.W.methodCall_KW (pl := pl) (thn (he.run pins s σ H _ I h) fun u s1 ⟨x, H1, I1, rx, C, sp, a, dx, fs, ac, ex, ea, l, q⟩ => ?_) ht
  subst ex
  obtain rfl : u = Value.ref a := rx
  obtain ⟨c, f, fd, ps, hm, F, bb⟩ := al C sp ac
  refine getmeth_ok I1 ea c hm l ?_
  refine PySem.W.callWith_K (first := [.ref a]) (h₀ := X.base) I.ok.mod.kin hm.kp (thn (ha.run pos pins s1 σ H1 _ I1 q) fun us s2 ⟨vs, H2, I2, r, q2⟩ => ⟨I2.kIn, ?_⟩) hst hpl
  exact run_Gb (us := .ref a :: us) (vs := .ref a :: vs) F hr bb .nil (hx σ) I2 (.cons rfl r) (by rw [List.append_nil]; exact q2)
theorem pe_meths0 {k : Nat} {m : Str} {o : Expr} {ta : TE} {E : L2.St → XK} {apos pos : Pos} {pl : Sem Bool} {alts : Addr → Sp → Prop} (he : PE X o ta) (al : ∀ C sp, alts C sp → MAlt X.prog X.w X.K X.mg X.base k m C sp) (hr : Rm X.base k X.A) (hx : ∀ σ, PassesAt CX0 X σ (E σ))
    (ht : eval (.Call (.Attribute o m apos) [] [] pos) X.env = (do
      let ov ← eval o X.env; standAt apos.atName; let (f, first) ← holding [ov] (getMethod ov m pl); callWith pos f first (backTo pos (starEach [] X.env)) (backToKw pos (keywordEach [] X.env))) := by rfl) :
    PE X (.Call (.Attribute o m apos) [] [] pos) (tMeths alts m E ta tNil) := by
  refine ⟨fun pins s σ H Q I h => ?_⟩
  refine PySem.W.methodCall_KW (pl := pl) (thn (he.run pins s σ H _ I h) fun u s1 ⟨x, H1, I1, rx, C, sp, a, dx, fs, ac, ex, ea, l, q⟩ => ?_) ht
  subst ex
  obtain rfl : u = Value.ref a := rx
  obtain ⟨c, f, fd, ps, hm, F, bb⟩ := al C sp ac
  refine getmeth_ok I1 ea c hm l ?_
  exact PySem.W.callWith_K0 (first := [.ref a]) I1.kIn hm.kp (run_Gb (us := [.ref a]) (vs := [.ref a]) F hr bb .nil (hx σ) I1 (.cons rfl .nil) (by rw [List.append_nil]; exact q))
end
section
variable {K : PySem.W.Frag} {W : WX} {ta : TE} {t : TA} {o : WE} {as : List WE}
theorem ew_new0 {c : Str} {C : Addr} (hc : PySem.W.nsIn K mainGlobals c = some (some (.ref C))) : EW K W (tMake0 C) (wNew0 c) := fun c0 pa G H σ ds xk kk Q E hw hx k x dx h1 h2 n => by
  have S1 := Stp.new E (o := .own x) h2
  have h3 : upd H dx (.own x) x = none := by
    rw [upd_ne (Ne.symm n)]
    exact h1
  have S2 := Stp.new S1.env (o := .ins C dx []) h3
  exact k _ _ _ _ ds hw (S1.trans S2) ⟨C, x, dx, hc, rfl, upd_same⟩
def altsOf (K : PySem.W.Frag) (sps : List (Str × FS)) : Addr → Sp → Prop := fun C sp => ∃ c fs, (c, fs) ∈ sps ∧ PySem.W.nsIn K mainGlobals c = some (some (.ref C)) ∧ sp = spOf K fs
theorem ew_meth {sps : List (Str × FS)} {m : Str} (ho : EW K W ta o) (ha : AW K W t as) : EW K W (tMeths (altsOf K sps) m (L2.WE W) ta t) (wMeth sps o as) := fun c pa G H σ ds xk kk Q E hw hx k => by
  refine ho c pa G H σ ds xk _ _ E hw hx fun x G1 H1 d ds0 q S1 r1 => ?_
  cases d with
  | obj cn =>
    obtain ⟨sp, hmem, q⟩ := q
    obtain ⟨C, a, dx, e0, e1, g1⟩ := id r1
    refine ⟨C, spOf K sp, a, dx, [], ⟨cn, sp, hmem, e0, rfl⟩, e1, S1.env.ex _ _ g1, rfl, ?_⟩
    refine ha c pa G1 H1 σ ds0 xk _ _ S1.env q hx fun vs G2 H2 l ds1 q2 S2 r2 l2 => ?_
    have S := S1.trans S2
    have rs : Reps K G2 (.obj cn :: l) (x :: vs) := ⟨x, vs, rfl, Rep.mono S2.sg r1, r2⟩
    refine ⟨G2, fun _ => 0, _, _, S.env.ex, args_vals rs, q2, fun v r dvs' G' H' hk B R => ?_, fun e cls d dvs' G' H' hk B X => ?_⟩
    · have S3 := S.calledK B
      cases r with
      | val d => exact k v G' H' d ds1 hk S3 R
      | own ys =>
        obtain ⟨p2, rfl, p0, p1, hp⟩ := R
        have t : Tmp K c pa G' H' ds1 p2 ys := ⟨p1, by
          cases z : c.H0 p2 with
          | none => rfl
          | some o => exact absurd p0 (S.env.dom p2 (by rw [z]; exact fun z => nomatch z)), hp, fun i dv hi o z => S.env.ownNe hi o (z ▸ p0)⟩
        obtain ⟨G3, S4, r3⟩ := S3.freeze t (by
          cases z : H p2 with
          | none => rfl
          | some o => exact absurd p0 (S.dom p2 (by rw [z]; exact fun z => nomatch z)))
        exact k _ G3 H' _ ds1 hk S4 r3
      | par _ => exact (show False from hk).elim
    · exact hx e _ hk pa G' H' σ cls d (S.calledK B).env X
  | _ => exact (show False from q).elim
end
section
variable {P : Program} {w : World} {K : PySem.W.Frag} {mg : Str → Option Value} {base : Heap} {N : List Str} {k : Nat} {W : WX}
variable {F : Fam P w K mg base N k W} {a b c e : Expr} {es : List Expr} {x m : Str} {pos apos p p2 : Pos} {qa qb : WE} {qs : List WE}
/-- the class x, made with nothing -/
structure New0 (K : PySem.W.Frag) (mg : Str → Option Value) (x : Str) : Prop where
  ex : ∃ C, PySem.W.nsIn K mainGlobals x = some (some (.ref C)) ∧ mg x = some (.ref C) ∧ Mk0 K C
theorem mk0K {X : Cx} {C : Addr} (h : X.K = K) (M : Mk0 K C) (hg : Gl X x) (hm : X.mg x = some (.ref C)) (hdb : (x == ("__debug__" : Str)) = false) : PE X (.Call (.Name x p) [] [] pos) (tMake0 C) := by subst h; exact pe_mk0 M hg hm hdb
theorem d_new0 (M : New0 K mg x) (hg : ∀ j, Gl (F.X j) x := by intro _; rfl) (hdb : (x == ("__debug__" : Str)) = false := by decide) : DE F (.Call (.Name x p) [] [] pos) (wNew0 x) := by
  obtain ⟨C, h1, h2, h3⟩ := M.ex
  exact ⟨_, fun j => mk0K (F.hK j) h3 (hg j) (by rw [F.hm j]; exact h2) hdb, ew_new0 h1⟩
/-- the method m at each class that may stand there -/
structure Mth (P : Program) (w : World) (K : PySem.W.Frag) (mg : Str → Option Value) (base : Heap) (k : Nat) (m : Str) (sps : List (Str × FS)) : Prop where
  al : ∀ c fs, (c, fs) ∈ sps → ∃ C, PySem.W.nsIn K mainGlobals c = some (some (.ref C)) ∧ MAlt P w K mg base k m C (spOf K fs)
theorem Mth.alts {kf : Nat} {sps : List (Str × FS)} (M : Mth P w K mg base kf m sps) : ∀ C sp, altsOf K sps C sp → MAlt P w K mg base kf m C sp := by
  rintro C sp ⟨c, fs, h1, h2, rfl⟩
  obtain ⟨C', e, A⟩ := M.al c fs h1
  rw [h2] at e
  cases e
  exact A
theorem methX {X : Cx} {kf : Nat} {o : Expr} {sps : List (Str × FS)} {tb : TE} {t : TA} {pl : Sem Bool} (hP : X.prog = P) (hw : X.w = w) (hK : X.K = K) (hm : X.mg = mg) (hb : X.base = base) (M : Mth P w K mg base kf m sps) (hr : Rm base k X.A) (hk : kf ≤ k) (he : PE X o tb) (ha : PA X (e :: es) t)
    (hst : starEach (e :: es) X.env = (false, eval e X.env) :: starEach es X.env) (hpl : (backTo pos (starEach es X.env)).any (·.1) = false)
    (ht : eval (.Call (.Attribute o m apos) (e :: es) [] pos) X.env = (do
      let ov ← eval o X.env; standAt apos.atName; let (f, first) ← holding [ov] (getMethod ov m pl); callWith pos f first (backTo pos (starEach (e :: es) X.env)) (backToKw pos (keywordEach [] X.env)))) :
    PE X (.Call (.Attribute o m apos) (e :: es) [] pos) (tMeths (altsOf K sps) m (L2.WE W) tb t) := by
  subst hP hw hK hm hb
  exact pe_meths he M.alts (hr.mono hk) (fun _ _ _ _ _ _ _ h => h.elim) ha hst hpl ht
theorem methX0 {X : Cx} {kf : Nat} {o : Expr} {sps : List (Str × FS)} {tb : TE} {pl : Sem Bool} (hP : X.prog = P) (hw : X.w = w) (hK : X.K = K) (hm : X.mg = mg) (hb : X.base = base) (M : Mth P w K mg base kf m sps) (hr : Rm base k X.A) (hk : kf ≤ k) (he : PE X o tb)
    (ht : eval (.Call (.Attribute o m apos) [] [] pos) X.env = (do
      let ov ← eval o X.env; standAt apos.atName; let (f, first) ← holding [ov] (getMethod ov m pl); callWith pos f first (backTo pos (starEach [] X.env)) (backToKw pos (keywordEach [] X.env)))) :
    PE X (.Call (.Attribute o m apos) [] [] pos) (tMeths (altsOf K sps) m (L2.WE W) tb tNil) := by
  subst hP hw hK hm hb
  exact pe_meths0 he M.alts (hr.mono hk) (fun _ _ _ _ _ _ _ h => h.elim) ht
theorem d_meth {kf : Nat} {o : Expr} {sps : List (Str × FS)} {pl : F.ι → Sem Bool} (M : Mth P w K mg base kf m sps) (ho : DE F o qa) (ha : DL F (e :: es) qs) (hk : kf ≤ k := by decide) (hst : ∀ j, starEach (e :: es) (F.X j).env = (false, eval e (F.X j).env) :: starEach es (F.X j).env := by intro _; rfl) (hpl : ∀ j, (backTo pos (starEach es (F.X j).env)).any (·.1) = false := by intro _; rfl)
    (ht : ∀ j, eval (.Call (.Attribute o m apos) (e :: es) [] pos) (F.X j).env = (do
      let ov ← eval o (F.X j).env; standAt apos.atName; let (f, first) ← holding [ov] (getMethod ov m (pl j)); callWith pos f first (backTo pos (starEach (e :: es) (F.X j).env)) (backToKw pos (keywordEach [] (F.X j).env))) := by intro _; rfl) : DE F (.Call (.Attribute o m apos) (e :: es) [] pos) (wMeth sps qa qs) := by
  obtain ⟨t, h1, h2⟩ := ho
  obtain ⟨u, u1, u2⟩ := ha
  exact ⟨_, fun j => methX (W := W) (F.hP j) (F.hw j) (F.hK j) (F.hm j) (F.hb j) M (F.room j) hk (h1 j) (u1 j) (hst j) (hpl j) (ht j), ew_meth h2 u2⟩
theorem d_meth0 {kf : Nat} {o : Expr} {sps : List (Str × FS)} {pl : F.ι → Sem Bool} (M : Mth P w K mg base kf m sps) (ho : DE F o qa) (hk : kf ≤ k := by decide)
    (ht : ∀ j, eval (.Call (.Attribute o m apos) [] [] pos) (F.X j).env = (do
      let ov ← eval o (F.X j).env; standAt apos.atName; let (f, first) ← holding [ov] (getMethod ov m (pl j)); callWith pos f first (backTo pos (starEach [] (F.X j).env)) (backToKw pos (keywordEach [] (F.X j).env))) := by intro _; rfl) : DE F (.Call (.Attribute o m apos) [] [] pos) (wMeth sps qa []) := by
  obtain ⟨t, h1, h2⟩ := ho
  exact ⟨_, fun j => methX0 (W := W) (F.hP j) (F.hw j) (F.hK j) (F.hm j) (F.hb j) M (F.room j) hk (h1 j) (ht j), ew_meth h2 aw_nil⟩
end
end DW

/-! DwO: membership. -/
namespace DW
open PySem PySem.Spec PyProof.Rows L2
section
variable {K : PySem.W.Frag} {G : Hp}
theorem flat_rep : ∀ {d : D} {v : V}, flatD d = true → Rep K G d v → flatV v = true
  | .non, v, _, h => by rw [show v = .non from h]; rfl
  | .bl b, v, _, h => by rw [show v = .bl b from h]; rfl
  | .int i, v, _, h => by rw [show v = .int i from h]; rfl
  | .str x, v, _, h => by rw [show v = .str x from h]; rfl
  | .tup _, v, w, h => by cases w
  | .lst _, v, w, h => by cases w
  | .obj _, v, w, h => by cases w
  | .dct _ _, v, w, h => by cases w
  | .at _ _, v, w, h => by cases w
theorem flats_rep : ∀ {ds : List D} {vs : List V}, ds.all flatD = true → Reps K G ds vs → vs.all flatV = true
  | [], vs, _, h => by rw [show vs = [] from h]; rfl
  | d :: ds, vs, w, h => by
    obtain ⟨x, xs, e, h1, h2⟩ := h
    rw [List.all_cons, Bool.and_eq_true] at w
    rw [e, List.all_cons, flat_rep w.1 h1, flats_rep w.2 h2]
    rfl
theorem eqV_rep : ∀ {d e : D} {v w : V}, flatD d = true → flatD e = true → Rep K G d v → Rep K G e w → eqV v w = deq d e := by
  intro d e v w h h' r r'
  cases d <;> first | (cases h; done) | skip
  all_goals (cases e <;> first | (cases h'; done) | skip)
  all_goals (
    obtain rfl := r
    obtain rfl := r'
    rfl)
theorem inV_rep {x : D} {v : V} (hx : flatD x = true) (r : Rep K G x v) : ∀ {ds : List D} {vs : List V}, ds.all flatD = true → Reps K G ds vs → inV v vs = ds.any fun z => deq z x
  | [], vs, _, h => by rw [show vs = [] from h]; rfl
  | d :: ds, vs, w, h => by
    obtain ⟨y, ys, e, h1, h2⟩ := h
    rw [List.all_cons, Bool.and_eq_true] at w
    have := inV_rep hx r w.2 h2
    unfold inV at this ⊢
    rw [e, List.any_cons, List.any_cons, this, eqV_rep w.1 hx h1 r]
theorem items_rep {H : Hp} (s : Same G H) {d : D} {v : V} {xs : List D} (e : items d = some xs) (r : Rep K G d v) : ∃ p vs, v = .ref p ∧ (SqL K H p vs ∨ SqT K H p vs) ∧ Reps K G xs vs := by
  obtain ⟨ys, hd, ey⟩ := items_some (d := d) (P := fun ys => ys = xs) (by rw [e])
  subst ey
  have r := r.core
  rcases hd with z | z
  · rw [z] at r
    obtain ⟨p, vs, ev, h1, h2⟩ := r
    exact ⟨p, vs, ev, .inl (L2.Same.seq s h1), h2⟩
  · rw [z] at r
    obtain ⟨p, vs, ev, h1, h2⟩ := r
    exact ⟨p, vs, ev, .inr (Same.t s h1), h2⟩
theorem rw_in : RW2 K (rIn K false) dIn := fun G H x y d e kk Q s rx ry h k => by
  unfold dIn at h
  cases q : items e with
  | none => rw [q] at h; exact h.elim
  | some xs =>
    rw [q] at h
    obtain ⟨⟨f1, f2⟩, h⟩ := h
    obtain ⟨p, vs, ev, hs, rs⟩ := items_rep s q ry
    refine ⟨p, vs, ev, hs, flat_rep f1 rx, flats_rep f2 rs, ?_⟩
    rw [inV_rep f1 rx f2 rs]
    exact k _ _ h rfl
theorem rw_nin : RW2 K (rIn K true) dNin := fun G H x y d e kk Q s rx ry h k => by
  unfold dNin at h
  cases q : items e with
  | none => rw [q] at h; exact h.elim
  | some xs =>
    rw [q] at h
    obtain ⟨⟨f1, f2⟩, h⟩ := h
    obtain ⟨p, vs, ev, hs, rs⟩ := items_rep s q ry
    refine ⟨p, vs, ev, hs, flat_rep f1 rx, flats_rep f2 rs, ?_⟩
    rw [inV_rep f1 rx f2 rs]
    exact k _ _ h rfl
end
section
variable {P : Program} {w : World} {K : PySem.W.Frag} {mg : Str → Option Value} {base : Heap} {N : List Str} {k : Nat} {W : WX}
variable {F : Fam P w K mg base N k W} {a b c e : Expr} {x : Str} {pos p p2 : Pos} {qa qb : WE}
theorem inK {X : Cx} (h : X.K = K) : OpR X (compareOp .In) (rIn K false) := by subst h; exact op_in_seq
theorem ninK {X : Cx} (h : X.K = K) : OpR X (compareOp .NotIn) (rIn K true) := by subst h; exact op_notIn_seq
theorem d_in (ha : DE F a qa) (hb : DE F b qb) (hm : behindInMarks .In b = false := by rfl) : DE F (.Compare a [.In] [b] pos) (wBin dIn qa qb) := d_cmp (fun j => inK (F.hK j)) rw_in ha hb hm
theorem d_nin (ha : DE F a qa) (hb : DE F b qb) (hm : behindInMarks .NotIn b = false := by rfl) : DE F (.Compare a [.NotIn] [b] pos) (wBin dNin qa qb) := d_cmp (fun j => ninK (F.hK j)) rw_nin ha hb hm
theorem t_in (ha : DE F a qa) (hb : DE F b qb) (hm : behindInMarks .In b = false := by rfl) : DT F (.Compare a [.In] [b] pos) (wTst (wBin dIn qa qb)) := t_cmp (fun j => inK (F.hK j)) rw_in ha hb hm
theorem t_nin (ha : DE F a qa) (hb : DE F b qb) (hm : behindInMarks .NotIn b = false := by rfl) : DT F (.Compare a [.NotIn] [b] pos) (wTst (wBin dNin qa qb)) := t_cmp (fun j => ninK (F.hK j)) rw_nin ha hb hm
end
end DW

/-! DwP: defs with defaults, methods: their bundles. -/
namespace DW
open PySem PySem.Spec PyProof.Rows L2

/-- a def of the text, whatever its defaults -/
structure FunV (K : PySem.W.Frag) (x qual : Str) (st : Stmt) (f : Addr) (fd : FuncData) : Prop where
  ex : ∃ (oc : Value) (od : Option Addr) (dV kV doc pm : Value) (an : Option Addr) (cdv ct : Value) (osl : Array (Option Value)),
    fd = PySem.W.fnOf x qual (defArgs st) (defBody st) (defScope st) dV kV doc pm an cdv ct ∧ K.lookup f = some ⟨oc, od, .func fd, osl⟩ ∧ PySem.W.codeIn K cdv qual = true
  kp : PySem.W.keepIn K (.ref f) = true
theorem funV_mk {K : PySem.W.Frag} {x qual : Str} {st : Stmt} {f : Addr} {oc : Value} {od an : Option Addr} {osl : Array (Option Value)} {dV kV doc pm cdv ct : Value} (l : K.lookup f = some ⟨oc, od, .func (PySem.W.fnOf x qual (defArgs st) (defBody st) (defScope st) dV kV doc pm an cdv ct), osl⟩)
    (c : PySem.W.codeIn K cdv qual = true) (k : PySem.W.keepIn K (.ref f) = true) : FunV K x qual st f (PySem.W.fnOf x qual (defArgs st) (defBody st) (defScope st) dV kV doc pm an cdv ct) := ⟨⟨oc, od, dV, kV, doc, pm, an, cdv, ct, osl, rfl, l, c⟩, k⟩
theorem FunV.of {K : PySem.W.Frag} {x qual : Str} {st : Stmt} {f : Addr} {fd : FuncData} (F : Fun K x qual st f fd) : FunV K x qual st f fd := by
  obtain ⟨oc, od, kV, doc, pm, an, cdv, ct, osl, rfl, lk, hcd⟩ := F.ex
  exact ⟨⟨oc, od, .none, kV, doc, pm, an, cdv, ct, osl, rfl, lk, hcd⟩, F.kp⟩
/-- a def of the text with defaults, told -/
structure FunT (K : PySem.W.Frag) (x qual : Str) (st : Stmt) (its : List Value) (f : Addr) (fd : FuncData) : Prop where
  ex : ∃ (oc : Value) (od : Option Addr) (T : Addr) (kV doc pm : Value) (an : Option Addr) (cdv ct : Value) (osl : Array (Option Value)) (o : Obj) (n : Nat),
    fd = PySem.W.fnOf x qual (defArgs st) (defBody st) (defScope st) (.ref T) kV doc pm an cdv ct ∧ K.lookup f = some ⟨oc, od, .func fd, osl⟩ ∧ PySem.W.codeIn K cdv qual = true ∧ K.lookup T = some o ∧ o.data = .seq its.toArray n
  kp : PySem.W.keepIn K (.ref f) = true
theorem FunT.v {K : PySem.W.Frag} {x qual : Str} {st : Stmt} {its : List Value} {f : Addr} {fd : FuncData} (F : FunT K x qual st its f fd) : FunV K x qual st f fd := by
  obtain ⟨oc, od, T, kV, doc, pm, an, cdv, ct, osl, o, n, rfl, lk, hcd, lT, oT⟩ := F.ex
  exact ⟨⟨oc, od, .ref T, kV, doc, pm, an, cdv, ct, osl, rfl, lk, hcd⟩, F.kp⟩
theorem funT_mk {K : PySem.W.Frag} {x qual : Str} {st : Stmt} {f T : Addr} {oc ocT : Value} {od odT an : Option Addr} {osl slT : Array (Option Value)} {kV doc pm cdv ct : Value} {its : List Value} {n : Nat} (l : K.lookup f = some ⟨oc, od, .func (PySem.W.fnOf x qual (defArgs st) (defBody st) (defScope st) (.ref T) kV doc pm an cdv ct), osl⟩)
    (c : PySem.W.codeIn K cdv qual = true) (k : PySem.W.keepIn K (.ref f) = true) (lT : K.lookup T = some ⟨ocT, odT, .seq its.toArray n, slT⟩) : FunT K x qual st its f (PySem.W.fnOf x qual (defArgs st) (defBody st) (defScope st) (.ref T) kV doc pm an cdv ct) :=
  ⟨⟨oc, od, T, kV, doc, pm, an, cdv, ct, osl, _, n, rfl, l, c, lT, rfl⟩, k⟩
section
variable {P : Program} {w : World} {K : PySem.W.Frag} {mg : Str → Option Value} {base : Heap}
theorem FunT.binds {x qual : Str} {st : Stmt} {its : List Value} {f : Addr} {fd : FuncData} {ps : List Str} (F : FunT K x qual st its f fd)
    (h : ∀ (T : Addr) (kV doc pm : Value) (an : Option Addr) (cdv ct : Value) (us : List Value), us.length = ps.length → ∃ k, bindArgs (PySem.W.fnOf x qual (defArgs st) (defBody st) (defScope st) (.ref T) kV doc pm an cdv ct) ⟨us, []⟩ = seqItems? (.ref T) >>= k ∧ k (some its.toArray) = pure (ps.zip us)) : Binds K fd ps [] := by
  obtain ⟨oc, od, T, kV, doc, pm, an, cdv, ct, osl, o, n, rfl, lk, hcd, lT, oT⟩ := F.ex
  refine fun s us X hl => ?_
  rw [List.append_nil] at hl ⊢
  obtain ⟨k, e1, e2⟩ := h T kV doc pm an cdv ct us hl
  refine BindsTo.of_looks fun M => ?_
  rw [e1]
  exact looks_items X lT oT (.of_pure e2)
theorem FunT.kb {x qual : Str} {st : Stmt} {its mu : List Value} {f : Addr} {fd : FuncData} {ps ks : List Str} {nu : Nat} {ix : List Nat} (F : FunT K x qual st its f fd)
    (h : ∀ (T : Addr) (kV doc pm : Value) (an : Option Addr) (cdv ct : Value) (us ws : List Value), us.length = nu → ws.length = ks.length → ∃ k, bindArgs (PySem.W.fnOf x qual (defArgs st) (defBody st) (defScope st) (.ref T) kV doc pm an cdv ct) ⟨us, ks.zip ws⟩ = seqItems? (.ref T) >>= k ∧ k (some its.toArray) = pure (ps.zip (pick ix (us ++ ws ++ mu)))) : KB K fd ps nu ks mu ix := by
  obtain ⟨oc, od, T, kV, doc, pm, an, cdv, ct, osl, o, n, rfl, lk, hcd, lT, oT⟩ := F.ex
  refine ⟨fun s us ws X h1 h2 => ?_⟩
  obtain ⟨k, e1, e2⟩ := h T kV doc pm an cdv ct us ws h1 h2
  refine BindsTo.of_looks fun M => ?_
  rw [e1]
  exact looks_items X lT oT (.of_pure e2)
theorem FunV.binds {x qual : Str} {st : Stmt} {f : Addr} {fd : FuncData} {ps : List Str} (F : FunV K x qual st f fd)
    (h : ∀ (dV kV doc pm : Value) (an : Option Addr) (cdv ct : Value) (us : List Value), us.length = ps.length → bindArgs (PySem.W.fnOf x qual (defArgs st) (defBody st) (defScope st) dV kV doc pm an cdv ct) ⟨us, []⟩ = pure (ps.zip us)) : Binds K fd ps [] := by
  obtain ⟨oc, od, dV, kV, doc, pm, an, cdv, ct, osl, rfl, lk, hcd⟩ := F.ex
  exact .all (h dV kV doc pm an cdv ct)
/-- the rule of fn_keeps0, whatever the defaults -/
theorem fn_keepsV {x qual : Str} {st : Stmt} {f : Addr} {fd : FuncData} {N ps : List Str} {k : Nat} {fs : FS} {ws : WS} (Fn : FunV K x qual st f fd) (S : FnScope N ps (defScope st)) (hl : ∀ dvs kk, fs dvs kk → dvs.length = ps.length) (hN : ps.length ≤ N.length)
    (hd : ∀ (cdv : Value) (A : Around) (outer : List PySem.Env) (s : Shared) (H : Hp) (E : XK) (hr : Rm base k (A.deeper (envOfC qual (defScope st) s.heap.objs.size f cdv))), DSs (Fam.body P w K mg base N k qual (defScope st) f cdv A outer s H E hr S.nd) (defBody st) ws)
    (hk : Keeps0 N.length ws fs) : FnG P w K mg base CX0 (k + 1) f fd ps (spOf K fs) := by
  obtain ⟨oc, od, dV, kV, doc, pm, an, cdv, ct, osl, rfl, lk, hcd⟩ := Fn.ex
  refine fnG_of lk hcd S (spOf_len hl) fun A outer s H vs Q E hr hsp => ?_
  obtain ⟨G, pa, dvs, kk, sg, ha, hf, k1, k2⟩ := hsp
  obtain ⟨t, t1, t2⟩ := hd cdv A outer s H E hr
  refine ⟨t, (t1 ()).nox, t2 (ground G H pa dvs) pa G H _ _ _ _ (env_start sg ha (by rw [hl dvs kk hf]; exact hN)) (hk dvs kk hf) (fun _ _ z => z.elim) (ends_ok (fun _ _ q => q) k1)⟩
theorem CalF.mkV {x qual : Str} {st : Stmt} {f : Addr} {fd : FuncData} {N ps : List Str} {fs : FS} {ws : WS} {j : Nat} (Fn : FunV K x qual st f fd) (hm : mg x = some (.ref f)) (S : FnScope N ps (defScope st)) (hl : ∀ dvs kk, fs dvs kk → dvs.length = ps.length) (hN : ps.length ≤ N.length)
    (hd : ∀ (cdv : Value) (A : Around) (outer : List PySem.Env) (s : Shared) (H : Hp) (E : XK) (hr : Rm base j (A.deeper (envOfC qual (defScope st) s.heap.objs.size f cdv))), DSs (Fam.body P w K mg base N j qual (defScope st) f cdv A outer s H E hr S.nd) (defBody st) ws)
    (hk : Keeps0 N.length ws fs) : CalF P w K mg base (j + 1) x ps fs f fd := ⟨fn_keepsV Fn S hl hN hd hk, hm, Fn.kp⟩
/-- a method's def and what it promises -/
structure MthF (P : Program) (w : World) (K : PySem.W.Frag) (mg : Str → Option Value) (base : Heap) (k : Nat) (ps : List Str) (fs : FS) (f : Addr) (fd : FuncData) : Prop where
  ok : FnG P w K mg base CX0 k f fd ps (spOf K fs)
  kp : PySem.W.keepIn K (.ref f) = true
theorem MthF.mkV {x qual : Str} {st : Stmt} {f : Addr} {fd : FuncData} {N ps : List Str} {fs : FS} {ws : WS} {j : Nat} (Fn : FunV K x qual st f fd) (S : FnScope N ps (defScope st)) (hl : ∀ dvs kk, fs dvs kk → dvs.length = ps.length) (hN : ps.length ≤ N.length)
    (hd : ∀ (cdv : Value) (A : Around) (outer : List PySem.Env) (s : Shared) (H : Hp) (E : XK) (hr : Rm base j (A.deeper (envOfC qual (defScope st) s.heap.objs.size f cdv))), DSs (Fam.body P w K mg base N j qual (defScope st) f cdv A outer s H E hr S.nd) (defBody st) ws)
    (hk : Keeps0 N.length ws fs) : MthF P w K mg base (j + 1) ps fs f fd := ⟨fn_keepsV Fn S hl hN hd hk, Fn.kp⟩
theorem MthF.alt {k j : Nat} {ps : List Str} {fs : FS} {f C : Addr} {fd : FuncData} {m : Str} (M : MthF P w K mg base j ps fs f fd) (hj : j ≤ k) (c : Cls K C) (h1 : PySem.W.findIn K (.ref C) m = some (some (.ref f))) (h2 : PySem.W.isFn K (.ref f) = true) (bb : Binds K fd ps []) : MAlt P w K mg base k m C (spOf K fs) :=
  ⟨c, f, fd, ps, ⟨h1, h2, M.kp⟩, M.ok.mono hj, bb⟩
/-- a module's tuple of texts -/
structure GTup (K : PySem.W.Frag) (mg : Str → Option Value) (x : Str) (ss : List Str) : Prop where
  ex : ∃ a oc od its n sl, mg x = some (.ref a) ∧ K.lookup a = some ⟨oc, od, .seq its n, sl⟩ ∧ oc = .type "tuple" ∧ its.size ≤ sizeLine ∧ Vals (ss.map V.str) its.toList
theorem GTup.mk_ {x : Str} {ss : List Str} {a : Addr} {od : Option Addr} {its : Array Value} {n : Nat} {sl : Array (Option Value)} (h : mg x = some (.ref a)) (l : K.lookup a = some ⟨.type "tuple", od, .seq its n, sl⟩) (z : its.size ≤ sizeLine) (v : Vals (ss.map V.str) its.toList) : GTup K mg x ss :=
  ⟨a, _, od, its, n, sl, h, l, rfl, z, v⟩
theorem strs_reps {G : Hp} : ∀ ss : List Str, Reps K G (ss.map .str) (ss.map V.str)
  | [] => rfl
  | s :: r => ⟨_, _, rfl, rfl, strs_reps r⟩
variable {N : List Str} {k : Nat} {W : WX} {F : Fam P w K mg base N k W}
theorem d_globT {x : Str} {ss : List Str} {pos : Pos} (h : GTup K mg x ss) (hg : ∀ j, Gl (F.X j) x := by intro _; rfl) (hd : (x == ("__debug__" : Str)) = false := by decide) : DE F (.Name x pos) (wC (.tup (ss.map .str))) := by
  obtain ⟨a, oc, od, its, n, sl, h1, h2, rfl, hz, hv⟩ := h.ex
  exact d_glob h1 (v := .ref a) rfl (fun G => ⟨a, _, rfl, .inr ⟨_, its, n, h2, rfl, rfl, hz, hv⟩, strs_reps ss⟩) hg hd
end
/-! ### isinstance of one of some built-in types -/
section
variable {P : Program} {w : World} {K : PySem.W.Frag} {mg : Str → Option Value} {base : Heap} {N : List Str} {k : Nat} {W : WX}
variable {F : Fam P w K mg base N k W} {a b c e tg it : Expr} {es : List Expr} {x y z : Str} {pos spos py p p2 p3 p4 pp : Pos} {qa qb qc qe : WE} {q r : WT} {g : Tg}
def DTy (F : Fam P w K mg base N k W) (es : List Expr) (ts : List Ty) : Prop := ∀ j, PA (F.X j) es (tTys ts)
theorem ty_nil : DTy F [] [] := fun _ => pa_nil
theorem ty_cons (T : Ty) {ts : List Ty} {u : Value} (hm : mg x = none) (hv : bootBuiltins x = some u) (hu : u = .type T.nm) (hr : DTy F es ts) (hg : ∀ j, Gl (F.X j) x := by intro _; rfl) (hn : x ≠ "__name__" := by decide) (hdb : (x == ("__debug__" : Str)) = false := by decide)
    (hs : ∀ j, starEach (.Name x p :: es) (F.X j).env = (false, eval (.Name x p) (F.X j).env) :: starEach es (F.X j).env := by intro _; rfl) : DTy F (.Name x p :: es) (T :: ts) := fun j => by
  subst hu
  exact pa_cons (pe_bltn (v := .ty T.nm) (hg j) (by rw [F.hm j]; exact hm) hv rfl hn hdb) (hr j) (hs j)
theorem d_isis {ts : List Ty} {kk : Nat} (hi : mg "isinstance" = none) (ha : DE F a qa) (ht : DTy F es ts) (hl : ts.length ≤ 10 := by decide) (hgi : ∀ j, Gl (F.X j) "isinstance" := by intro _; rfl) (hs : ∀ j, starEach [a, .Tuple es kk p2] (F.X j).env = (false, eval a (F.X j).env) :: starEach [.Tuple es kk p2] (F.X j).env := by intro _; rfl)
    (hs2 : ∀ j, starEach [.Tuple es kk p2] (F.X j).env = (false, eval (.Tuple es kk p2) (F.X j).env) :: starEach [] (F.X j).env := by intro _; rfl) (hpl : ∀ j, (backTo pos (starEach [.Tuple es kk p2] (F.X j).env)).any (·.1) = false := by intro _; rfl) :
    DE F (.Call (.Name "isinstance" p) [a, .Tuple es kk p2] [] pos) (wUn (dIsTys ts) qa) := by
  obtain ⟨t, h1, h2⟩ := ha
  exact ⟨_, fun j => pe_callB (isiTK (F.hK j)) (hgi j) (by rw [F.hm j]; exact hi) (by decide +kernel) (pa_cons (h1 j) (pa_cons (pe_tup (ht j)) pa_nil (hs2 j)) (hs j)) (by decide) (by decide) (hs j) (hpl j), ew_isis hl h2⟩
/-! ### name = [comprehension], written on one line -/
/-- the reading of one comprehension, wherever it goes -/
def DLc (F : Fam P w K mg base N k W) (elt tg iter : Expr) (ifs : List Expr) (scope : Scope) (vs : List Nat) (o : WO) : Prop :=
  ∃ (wi : TI) (g : TG) (tt : TT) (te : TE) (own : List (Str × Nat)), vs = own.map (·.2) ∧ (∀ j, PI (F.X j) tg iter wi) ∧ (∀ j, BlkOk (F.X j).N (F.X j).env.scope scope own) ∧ (∀ j s H C cl fp, PG ((F.X j).blk s H scope (compEnvC scope cl C (F.X j).env) fp) tg g) ∧
    (∀ j s H C cl fp, PTs ((F.X j).blk s H scope (compEnvC scope cl C (F.X j).env) fp) ifs tt) ∧ (∀ j s H C cl fp, PE ((F.X j).blk s H scope (compEnvC scope cl C (F.X j).env) fp) elt te) ∧ (∀ j, ∀ x, foldedSetIterable iter (F.X j).env x = pure x) ∧ EO K W (tLc wi g tt te vs) o
theorem lc_seq (own : List (Str × Nat)) {scope : Scope} (hi : DE F it qa) (hg : DG (F.blk scope) tg g) (ht : DTs (F.blk scope) es q) (he : DE (F.blk scope) e qe) (ok : ∀ j, BlkOk N (F.X j).env.scope scope own) (hn : ∀ i ∈ tgn g, i ∈ own.map (·.2) := by decide)
    (hs : ∀ j, ∀ x, foldedSetIterable it (F.X j).env x = pure x := by intro _ _; rfl) : DLc F e tg it es scope (own.map (·.2)) (wLc qa g (own.map (·.2)) q qe) := by
  obtain ⟨t, t1, t2⟩ := hi
  obtain ⟨gg, g1, g2⟩ := hg
  obtain ⟨u, u1, u2⟩ := ht
  obtain ⟨v, v1, v2⟩ := he
  exact ⟨_, gg, u, v, own, rfl, fun j => piK (F.hK j) (t1 j), fun j => by rw [F.hN j]; exact ok j, fun j s H C cl fp => g1 (j, s, H, C, cl, fp), fun j s H C cl fp => u1 (j, s, H, C, cl, fp), fun j s H C cl fp => v1 (j, s, H, C, cl, fp), hs, eo_lc t2 g2 u2 v2 hn⟩
theorem lc_rng1 (own : List (Str × Nat)) {scope : Scope} (hm : mg "range" = none) (hi : DE F a qa) (hg : DG (F.blk scope) tg g) (ht : DTs (F.blk scope) es q) (he : DE (F.blk scope) e qe) (ok : ∀ j, BlkOk N (F.X j).env.scope scope own) (hn : ∀ i ∈ tgn g, i ∈ own.map (·.2) := by decide)
    (hgl : ∀ j, Gl (F.X j) "range" := by intro _; rfl) (h1 : ∀ j, starEach [a] (F.X j).env = [(false, eval a (F.X j).env)] := by intro _; rfl)
    (hs : ∀ j, ∀ x, foldedSetIterable (.Call (.Name "range" p) [a] [] pp) (F.X j).env x = pure x := by intro _ _; rfl) : DLc F e tg (.Call (.Name "range" p) [a] [] pp) es scope (own.map (·.2)) (wLcR [qa] g (own.map (·.2)) q qe) := by
  obtain ⟨t, t1, t2⟩ := hi
  obtain ⟨gg, g1, g2⟩ := hg
  obtain ⟨u, u1, u2⟩ := ht
  obtain ⟨v, v1, v2⟩ := he
  exact ⟨_, gg, u, v, own, rfl, fun j => pi_range1 (hgl j) (by rw [F.hm j]; exact hm) (pa_cons (t1 j) pa_nil (h1 j)) (h1 j), fun j => by rw [F.hN j]; exact ok j, fun j s H C cl fp => g1 (j, s, H, C, cl, fp), fun j s H C cl fp => u1 (j, s, H, C, cl, fp), fun j s H C cl fp => v1 (j, s, H, C, cl, fp), hs, eo_lcR1 t2 g2 u2 v2 hn⟩
theorem lc_rng2 (own : List (Str × Nat)) {scope : Scope} (hm : mg "range" = none) (hi : DE F a qa) (hi2 : DE F b qb) (hg : DG (F.blk scope) tg g) (ht : DTs (F.blk scope) es q) (he : DE (F.blk scope) e qe) (ok : ∀ j, BlkOk N (F.X j).env.scope scope own) (hn : ∀ i ∈ tgn g, i ∈ own.map (·.2) := by decide)
    (hgl : ∀ j, Gl (F.X j) "range" := by intro _; rfl) (h1 : ∀ j, starEach [a, b] (F.X j).env = [(false, eval a (F.X j).env), (false, eval b (F.X j).env)] := by intro _; rfl) (h2 : ∀ j, starEach [b] (F.X j).env = [(false, eval b (F.X j).env)] := by intro _; rfl)
    (hs : ∀ j, ∀ x, foldedSetIterable (.Call (.Name "range" p) [a, b] [] pp) (F.X j).env x = pure x := by intro _ _; rfl) : DLc F e tg (.Call (.Name "range" p) [a, b] [] pp) es scope (own.map (·.2)) (wLcR [qa, qb] g (own.map (·.2)) q qe) := by
  obtain ⟨t, t1, t2⟩ := hi
  obtain ⟨t', t1', t2'⟩ := hi2
  obtain ⟨gg, g1, g2⟩ := hg
  obtain ⟨u, u1, u2⟩ := ht
  obtain ⟨v, v1, v2⟩ := he
  exact ⟨_, gg, u, v, own, rfl, fun j => pi_range2 (hgl j) (by rw [F.hm j]; exact hm) (pa_cons (t1 j) (pa_cons (t1' j) pa_nil (h2 j)) ((h1 j).trans (by rw [h2 j]))) (h1 j) (h2 j), fun j => by rw [F.hN j]; exact ok j, fun j s H C cl fp => g1 (j, s, H, C, cl, fp), fun j s H C cl fp => u1 (j, s, H, C, cl, fp), fun j s H C cl fp => v1 (j, s, H, C, cl, fp), hs, eo_lcR2 t2 t2' g2 u2 v2 hn⟩
theorem s_lc (i : Nat) {scope : Scope} {vs : List Nat} {o : WO} (h : DLc F e tg it es scope vs o) (hi : N[i]? = some y := by rfl) (hy : ∀ j, (F.X j).env.scope.names.lookup y = some .local := by intro _; rfl)
    (hsw : ∀ j, swapsWith (.ListComp e [⟨tg, it, es, 0⟩] scope pos) (some (.Name y py)) spos.line (F.X j).env = pure true := by intro _; exact sw_true rfl rfl rfl (by decide +kernel)) : DS1 F (.Assign [.Name y py] (.ListComp e [⟨tg, it, es, 0⟩] scope pos) spos) (wAsg (wFrz o) (.nm i)) := by
  obtain ⟨wi, g, tt, te, own, rfl, h1, h2, h3, h4, h5, h6, h7⟩ := h
  exact ⟨_, fun j => ps_setLc (F.calm j) (by rw [F.hN j]; exact F.nd) (by rw [F.hN j]; exact hi) (hy j) (hsw j) (h1 j) (h2 j) (h3 j) (h4 j) (h5 j) (h6 j), sw_asg (ew_frz h7) gw_nm⟩
theorem s_lcO (i : Nat) {scope : Scope} {vs : List Nat} {o : WO} (h : DLc F e tg it es scope vs o) (hi : N[i]? = some y := by rfl) (hy : ∀ j, (F.X j).env.scope.names.lookup y = some .local := by intro _; rfl)
    (hsw : ∀ j, swapsWith (.ListComp e [⟨tg, it, es, 0⟩] scope pos) (some (.Name y py)) spos.line (F.X j).env = pure true := by intro _; exact sw_true rfl rfl rfl (by decide +kernel)) : DS1 F (.Assign [.Name y py] (.ListComp e [⟨tg, it, es, 0⟩] scope pos) spos) (wAsgO o i) := by
  obtain ⟨wi, g, tt, te, own, rfl, h1, h2, h3, h4, h5, h6, h7⟩ := h
  exact ⟨_, fun j => ps_setLc (F.calm j) (by rw [F.hN j]; exact F.nd) (by rw [F.hN j]; exact hi) (hy j) (hsw j) (h1 j) (h2 j) (h3 j) (h4 j) (h5 j) (h6 j), sw_asgO h7⟩
end
end DW

/-! DwQ: defs that raise, own exceptions with one field. -/
namespace DW
open PySem PySem.Spec PyProof.Rows L2

/-- raise c(a): the field f -/
def wRaise (c f : Str) (a : WE) : WS := fun ds P => a P.x ds fun d ds1 => P.x ⟨c, [(f, d)]⟩ ds1

/-! ### defs that may raise -/
section
variable {P : Program} {w : World} {K : PySem.W.Frag} {mg : Str → Option Value} {base : Heap} {N : List Str} {k : Nat}
def Fam.bodyX (P : Program) (w : World) (K : PySem.W.Frag) (mg : Str → Option Value) (base : Heap) (N : List Str) (k : Nat) (qual : Str) (scope : Scope) (f : Addr) (cdv : Value) (A : Around) (outer : List PySem.Env) (s : Shared) (H : Hp) (E : XK) (hr : Rm base k (A.deeper (envOfC qual scope s.heap.objs.size f cdv))) (nd : N.Nodup) : Fam P w K mg base N k (fun cls d _ H' => E cls d H') where
  ι := Unit
  X := fun _ => cxOf (L2.CX P w) P w K mg base N qual scope f cdv A outer s H E
  hP := fun _ => rfl
  hw := fun _ => rfl
  hK := fun _ => rfl
  hm := fun _ => rfl
  hb := fun _ => rfl
  hN := fun _ => rfl
  calm := fun _ => rfl
  room := fun _ => hr
  nd := nd
  po := fun _ => passes_of rfl
  tk := fun _ => takes_of rfl rfl rfl rfl
theorem ends_x {G H : Hp} {pa : Nat → Addr} {dvs : List DV} {kk : Out → List DV → Prop} {E : XK} (k2 : ∀ e cls d dvs' G' H', kk (.exc e) dvs' → Back K G H G' H' pa dvs dvs' → ExcAt K G' H' e cls d → E cls d H') :
    XOk K (ground G H pa dvs) (fun cls d _ H' => E cls d H') (ends dvs kk).x := fun e ds h pa' G' H' σ cls d En X => by
  obtain ⟨o, ho, q⟩ := out_some (P := fun o => kk (.exc e) o) h
  exact k2 e cls d o G' H' q (back_of En ho) X
theorem fn_keepsX {x qual : Str} {st : Stmt} {f : Addr} {fd : FuncData} {ps : List Str} {fs : FS} {ws : WS} (Fn : FunV K x qual st f fd) (S : FnScope N ps (defScope st)) (hl : ∀ dvs kk, fs dvs kk → dvs.length = ps.length) (hN : ps.length ≤ N.length)
    (hd : ∀ (cdv : Value) (A : Around) (outer : List PySem.Env) (s : Shared) (H : Hp) (E : XK) (hr : Rm base k (A.deeper (envOfC qual (defScope st) s.heap.objs.size f cdv))), DSs (Fam.bodyX P w K mg base N k qual (defScope st) f cdv A outer s H E hr S.nd) (defBody st) ws)
    (hk : Keeps N.length ws fs) : FnG P w K mg base (L2.CX P w) (k + 1) f fd ps (spOf K fs) := by
  obtain ⟨oc, od, dV, kV, doc, pm, an, cdv, ct, osl, rfl, lk, hcd⟩ := Fn.ex
  refine fnG_of lk hcd S (spOf_len hl) fun A outer s H vs Q E hr hsp => ?_
  obtain ⟨G, pa, dvs, kk, sg, ha, hf, k1, k2⟩ := hsp
  obtain ⟨t, t1, t2⟩ := hd cdv A outer s H E hr
  exact ⟨t, t1 (), t2 (ground G H pa dvs) pa G H _ _ _ _ (env_start sg ha (by rw [hl dvs kk hf]; exact hN)) (hk dvs kk hf) (ends_x k2) (ends_ok (fun _ _ q => q) k1)⟩
/-- a def that keeps its promise and stands under its name; it may raise -/
structure CalFX (P : Program) (w : World) (K : PySem.W.Frag) (mg : Str → Option Value) (base : Heap) (k : Nat) (x : Str) (ps : List Str) (fs : FS) (f : Addr) (fd : FuncData) : Prop where
  ok : FnG P w K mg base (L2.CX P w) k f fd ps (spOf K fs)
  gm : mg x = some (.ref f)
  kp : PySem.W.keepIn K (.ref f) = true
structure CalX (P : Program) (w : World) (K : PySem.W.Frag) (mg : Str → Option Value) (base : Heap) (k : Nat) (x : Str) (ps : List Str) (fs : FS) : Prop where
  ex : ∃ f fd, FnG P w K mg base (L2.CX P w) k f fd ps (spOf K fs) ∧ mg x = some (.ref f) ∧ PySem.W.keepIn K (.ref f) = true ∧ Binds K fd ps []
structure CalPX (P : Program) (w : World) (K : PySem.W.Frag) (mg : Str → Option Value) (base : Heap) (k : Nat) (x : Str) (ps : List Str) (fs : FS) (nu : Nat) (ks : List Str) (more : List D) (ix : List Nat) : Prop where
  ex : ∃ f fd mu mv, FnG P w K mg base (L2.CX P w) k f fd ps (spOf K fs) ∧ mg x = some (.ref f) ∧ PySem.W.keepIn K (.ref f) = true ∧ KB K fd ps nu ks mu ix ∧ Vals mv mu ∧ ∀ G, Reps K G more mv
theorem CalFX.mkV {x qual : Str} {st : Stmt} {f : Addr} {fd : FuncData} {ps : List Str} {fs : FS} {ws : WS} {j : Nat} (Fn : FunV K x qual st f fd) (hm : mg x = some (.ref f)) (S : FnScope N ps (defScope st)) (hl : ∀ dvs kk, fs dvs kk → dvs.length = ps.length) (hN : ps.length ≤ N.length)
    (hd : ∀ (cdv : Value) (A : Around) (outer : List PySem.Env) (s : Shared) (H : Hp) (E : XK) (hr : Rm base j (A.deeper (envOfC qual (defScope st) s.heap.objs.size f cdv))), DSs (Fam.bodyX P w K mg base N j qual (defScope st) f cdv A outer s H E hr S.nd) (defBody st) ws)
    (hk : Keeps N.length ws fs) : CalFX P w K mg base (j + 1) x ps fs f fd := ⟨fn_keepsX Fn S hl hN hd hk, hm, Fn.kp⟩
theorem CalFX.cal {f : Addr} {fd : FuncData} {x : Str} {ps : List Str} {fs : FS} {j : Nat} (C : CalFX P w K mg base j x ps fs f fd) (bb : Binds K fd ps []) : CalX P w K mg base j x ps fs := ⟨f, fd, C.ok, C.gm, C.kp, bb⟩
theorem CalFX.calP {f : Addr} {fd : FuncData} {x : Str} {ps : List Str} {fs : FS} {j nu : Nat} {ks : List Str} {mu : List Value} {mv : List V} {more : List D} {ix : List Nat} (C : CalFX P w K mg base j x ps fs f fd) (bb : KB K fd ps nu ks mu ix) (hd : Vals mv mu) (hm : ∀ G, Reps K G more mv) : CalPX P w K mg base j x ps fs nu ks more ix :=
  ⟨f, fd, mu, mv, C.ok, C.gm, C.kp, bb, hd, hm⟩
end
section
variable {P : Program} {w : World} {K : PySem.W.Frag} {mg : Str → Option Value} {base : Heap} {N : List Str} {k : Nat} {W : WX}
variable {F : Fam P w K mg base N k W} {a b c e tg it : Expr} {es : List Expr} {x y z : Str} {pos p p2 p3 p4 p5 : Pos} {qa qb qc qe : WE} {q r : WT}
theorem passX {X : Cx} (hP : X.prog = P) (hw : X.w = w) (tk : Takes X W) : ∀ σ, PassesAt (L2.CX P w) X σ (L2.WE W σ) := by subst hP hw; exact fun σ => passAt tk σ
theorem d_callX {kf : Nat} {ps : List Str} {fs : FS} {qs : List DA} (C : CalX P w K mg base kf x ps fs) (ha : DC F (a :: es) qs) (hk : kf ≤ k := by decide)
    (hg : ∀ j, Gl (F.X j) x := by intro _; rfl) (hdb : (x == ("__debug__" : Str)) = false := by decide) (he : ∀ j, starEach (a :: es) (F.X j).env = (false, eval a (F.X j).env) :: starEach es (F.X j).env := by intro _; rfl)
    (hpl : ∀ j, (backTo pos (starEach es (F.X j).env)).any (·.1) = false := by intro _; rfl) : DE F (.Call (.Name x p) (a :: es) [] pos) (wCall fs qs) := by
  obtain ⟨f, fd, c1, c2, c3, c4⟩ := C.ex
  obtain ⟨u, u1, u2⟩ := ha
  exact ⟨_, fun j => callX (F.hP j) (F.hw j) (F.hK j) (F.hm j) (F.hb j) c1 (F.room j) hk (hg j) c2 c3 c4 .nil (passX (F.hP j) (F.hw j) (F.tk j)) (u1 j) hdb (he j) (hpl j), ew_call u2 fun _ => rfl⟩
theorem o_callX {kf : Nat} {ps : List Str} {fs : FS} {qs : List DA} (C : CalX P w K mg base kf x ps fs) (ha : DC F (a :: es) qs) (hk : kf ≤ k := by decide)
    (hg : ∀ j, Gl (F.X j) x := by intro _; rfl) (hdb : (x == ("__debug__" : Str)) = false := by decide) (he : ∀ j, starEach (a :: es) (F.X j).env = (false, eval a (F.X j).env) :: starEach es (F.X j).env := by intro _; rfl)
    (hpl : ∀ j, (backTo pos (starEach es (F.X j).env)).any (·.1) = false := by intro _; rfl) : DO F (.Call (.Name x p) (a :: es) [] pos) (wCallO fs qs) := by
  obtain ⟨f, fd, c1, c2, c3, c4⟩ := C.ex
  obtain ⟨u, u1, u2⟩ := ha
  exact ⟨_, fun j => callX (F.hP j) (F.hw j) (F.hK j) (F.hm j) (F.hb j) c1 (F.room j) hk (hg j) c2 c3 c4 .nil (passX (F.hP j) (F.hw j) (F.tk j)) (u1 j) hdb (he j) (hpl j), eo_call u2 fun _ => rfl⟩
theorem callPX {X : Cx} {CX : CXT} {kf nu : Nat} {f : Addr} {fd : FuncData} {ps ks : List Str} {fs : FS} {t tk : TA} {mv : List V} {mu : List Value} {ix : List Nat} {kws : List Keyword} (hP : X.prog = P) (hw : X.w = w) (hK : X.K = K) (hm : X.mg = mg) (hb : X.base = base) (G : FnG P w K mg base CX kf f fd ps (spOf K fs)) (hr : Rm base k X.A) (hk : kf ≤ k)
    (hg : Gl X x) (gm : mg x = some (.ref f)) (kp : PySem.W.keepIn K (.ref f) = true) (bb : KB K fd ps nu ks mu ix) (hd : Vals mv mu) (hx : ∀ σ, PassesAt CX X σ (L2.WE W σ)) (ha : PA X (a :: es) t) (hkw : PK X kws tk)
    (hall : (backToKw pos (keywordEach kws X.env)).all (·.1.isSome) = true) (hks : (backToKw pos (keywordEach kws X.env)).filterMap (·.1) = ks) (hdb : (x == ("__debug__" : Str)) = false)
    (he : starEach (a :: es) X.env = (false, eval a X.env) :: starEach es X.env) (hpl : ((backTo pos (starEach (a :: es) X.env)).any (·.1) || (backToKw pos (keywordEach kws X.env)).any (·.1.isNone)) = false) :
    PE X (.Call (.Name x p) (a :: es) kws pos) (tCallP (spOf K fs) (nu + ks.length) mv ix (L2.WE W) (tTwo nu t tk)) := by
  subst hP hw hK hm hb
  exact pe_callP G (hr.mono hk) hg gm kp bb hd hx ha hkw hall hks hdb he hpl
theorem callP0X {X : Cx} {CX : CXT} {kf : Nat} {f : Addr} {fd : FuncData} {ps ks : List Str} {fs : FS} {tk : TA} {mv : List V} {mu : List Value} {ix : List Nat} {kws : List Keyword} (hP : X.prog = P) (hw : X.w = w) (hK : X.K = K) (hm : X.mg = mg) (hb : X.base = base) (G : FnG P w K mg base CX kf f fd ps (spOf K fs)) (hr : Rm base k X.A) (hk : kf ≤ k)
    (hg : Gl X x) (gm : mg x = some (.ref f)) (kp : PySem.W.keepIn K (.ref f) = true) (bb : KB K fd ps 0 ks mu ix) (hd : Vals mv mu) (hx : ∀ σ, PassesAt CX X σ (L2.WE W σ)) (hkw : PK X kws tk)
    (hall : (backToKw pos (keywordEach kws X.env)).all (·.1.isSome) = true) (hks : (backToKw pos (keywordEach kws X.env)).filterMap (·.1) = ks) (hdb : (x == ("__debug__" : Str)) = false)
    (hpl : ((backTo pos (starEach [] X.env)).any (·.1) || (backToKw pos (keywordEach kws X.env)).any (·.1.isNone)) = false) :
    PE X (.Call (.Name x p) [] kws pos) (tCallP (spOf K fs) (0 + ks.length) mv ix (L2.WE W) (tTwo 0 tNil tk)) := by
  subst hP hw hK hm hb
  exact pe_callP0 G (hr.mono hk) hg gm kp bb hd hx hkw hall hks hdb hpl
theorem d_callPX {kf nu : Nat} {ps ks : List Str} {fs : FS} {qs rs : List WE} {more : List D} {ix : List Nat} {kws : List Keyword} (C : CalPX P w K mg base kf x ps fs nu ks more ix) (ha : DL F (a :: es) qs) (hkw : DKw F kws rs) (hnu : qs.length = nu := by rfl) (hnk : rs.length = ks.length := by rfl) (hk : kf ≤ k := by decide)
    (hg : ∀ j, Gl (F.X j) x := by intro _; rfl) (hdb : (x == ("__debug__" : Str)) = false := by decide) (he : ∀ j, starEach (a :: es) (F.X j).env = (false, eval a (F.X j).env) :: starEach es (F.X j).env := by intro _; rfl)
    (hall : ∀ j, (backToKw pos (keywordEach kws (F.X j).env)).all (·.1.isSome) = true := by intro _; rfl) (hks : ∀ j, (backToKw pos (keywordEach kws (F.X j).env)).filterMap (·.1) = ks := by intro _; rfl)
    (hpl : ∀ j, ((backTo pos (starEach (a :: es) (F.X j).env)).any (·.1) || (backToKw pos (keywordEach kws (F.X j).env)).any (·.1.isNone)) = false := by intro _; rfl) : DE F (.Call (.Name x p) (a :: es) kws pos) (wCallK fs (qs ++ rs) more ix) := by
  obtain ⟨f, fd, mu, mv, c1, c2, c3, c4, c5, c6⟩ := C.ex
  obtain ⟨t, h1, h2⟩ := ha
  obtain ⟨u, u1, u2⟩ := hkw
  subst hnu
  refine ⟨_, fun j => callPX (W := W) (F.hP j) (F.hw j) (F.hK j) (F.hm j) (F.hb j) c1 (F.room j) hk (hg j) c2 c3 c4 c5 (passX (F.hP j) (F.hw j) (F.tk j)) (h1 j) (u1 j) (hall j) (hks j) hdb (he j) (hpl j), ?_⟩
  have e : qs.length + ks.length = (qs ++ rs).length := by rw [List.length_append, hnk]
  rw [e]
  exact ew_callK (aw_two h2 u2) c6
theorem d_callP0X {kf : Nat} {ps ks : List Str} {fs : FS} {rs : List WE} {more : List D} {ix : List Nat} {kws : List Keyword} (C : CalPX P w K mg base kf x ps fs 0 ks more ix) (hkw : DKw F kws rs) (hnk : rs.length = ks.length := by rfl) (hk : kf ≤ k := by decide)
    (hg : ∀ j, Gl (F.X j) x := by intro _; rfl) (hdb : (x == ("__debug__" : Str)) = false := by decide)
    (hall : ∀ j, (backToKw pos (keywordEach kws (F.X j).env)).all (·.1.isSome) = true := by intro _; rfl) (hks : ∀ j, (backToKw pos (keywordEach kws (F.X j).env)).filterMap (·.1) = ks := by intro _; rfl)
    (hpl : ∀ j, ((backTo pos (starEach [] (F.X j).env)).any (·.1) || (backToKw pos (keywordEach kws (F.X j).env)).any (·.1.isNone)) = false := by intro _; rfl) : DE F (.Call (.Name x p) [] kws pos) (wCallK fs rs more ix) := by
  obtain ⟨f, fd, mu, mv, c1, c2, c3, c4, c5, c6⟩ := C.ex
  obtain ⟨u, u1, u2⟩ := hkw
  refine ⟨_, fun j => callP0X (W := W) (F.hP j) (F.hw j) (F.hK j) (F.hm j) (F.hb j) c1 (F.room j) hk (hg j) c2 c3 c4 c5 (passX (F.hP j) (F.hw j) (F.tk j)) (u1 j) (hall j) (hks j) hdb (hpl j), ?_⟩
  have e : 0 + ks.length = rs.length := by rw [hnk, Nat.zero_add]
  rw [e]
  exact ew_callK (aw_two (as := []) aw_nil u2) c6
end
/-! ### own exceptions: a base's __init__, then one field -/
section
variable {X : Cx} {e : Expr} {es : List Expr} {ta : TA} {x : Str} {B : Addr} {mc : Value} {p1 p2 pos : Pos}
/-- B.__init__(self, ..), B an own class with the __init__ of ValueError -/
theorem pe_binit {pl : Sem Bool} (hg : Gl X x) (hm : X.mg x = some (.ref B)) (hga : PySem.W.specialIn X.K (.ref B) "__getattribute__" = some (some (.builtin "type.__getattribute__"))) (hrd : PySem.W.readsIn X.K B mc = true)
    (vV : PySem.W.findCls X.K (.ref B) mc "__init__" = some (.val (.builtin "ValueError.__init__"))) (ha : PA X (e :: es) ta) (hdb : (x == ("__debug__" : Str)) = false := by decide)
    (hc : eval (.Call (.Attribute (.Name x p1) "__init__" p2) (e :: es) [] pos) X.env = (do
      let ov ← eval (.Name x p1) X.env; standAt p2.atName; let (f, first) ← holding [ov] (getMethod ov "__init__" pl); callWith pos f first (backTo pos (starEach (e :: es) X.env)) (backToKw pos (keywordEach [] X.env))) := by rfl)
    (he : starEach (e :: es) X.env = (false, eval e X.env) :: starEach es X.env := by rfl) (hpl : (backTo pos (starEach es X.env)).any (·.1) = false := by rfl) :
    PE X (.Call (.Attribute (.Name x p1) "__init__" p2) (e :: es) [] pos) (tVeI X.K ta) := by
  constructor
  intro pins s σ H Q I h
  refine PySem.W.methodCall_KW (ld_glob I hg hm ?_ hdb) hc
  refine PySem.W.method_cls I.kIn hga (PySem.W.cls_value I.kIn hrd vV (by decide +kernel) ?_)
  show wpAny _ _ (callWith pos (Value.builtin "ValueError.__init__") [] (backTo pos (starEach (e :: es) X.env)) []) _ _ _
  refine PyProof.Rows.callWith_method1 (thn (ha.run pos pins _ σ H _ (I.tok _) h) ?_) he hpl
  rintro us s1 ⟨vs, H1, I1, r1, a, C, ws, ev, hl, T, ea, q⟩
  subst ev
  cases r1 with
  | @cons _ u0 _ ur ra rws =>
    obtain rfl : u0 = Value.ref a := ra
    have hlen : ur.length ≤ sizeLine := by
      have := Paired.length rws
      rw [sizeLine_eq]
      omega
    exact oinit_ok T I1 ea hlen fun s2 J => ⟨.non, H1, J, rfl, q⟩
end
/-- what such an __init__ promises -/
def spXI (K : PySem.W.Frag) (f : Str) : Sp := fun vs H Q _ => ∃ (a C : Addr) (v : V), vs = [.ref a, v] ∧ OexC K C ∧ PySem.W.findIn K (.ref C) f = some none ∧ H a = some (exo a C none) ∧
  ∀ dx, H dx = none → dx ≠ a → Q .non (upd (upd H dx (exd dx [(f, v)])) a (exo a C (some dx)))
def tXI (K : PySem.W.Frag) (f m : Str) : TS := tSeq (tDrop (tVeI K (tCons (tVar 0) (tCons (tC (.str m)) tNil)))) (tOst K f (tVar 0) (tVar 1))
theorem xi_ok {P : Program} {w : World} {K : PySem.W.Frag} {mg : Str → Option Value} {base : Heap} {qual f m self : Str} {st : Stmt} {fa : Addr} {fd : FuncData} (Fn : Fun K "__init__" qual st fa fd) (S : FnScope [self, f] [self, f] (defScope st))
    (hd : ∀ (cdv : Value) (A : Around) (outer : List PySem.Env) (s : Shared) (H : Hp) (E : XK), PSs (cxOf CX0 P w K mg base [self, f] qual (defScope st) fa cdv A outer s H E).nox (defBody st) (tXI K f m)) : FnOk P w K mg base CX0 1 fa fd [self, f] (spXI K f) := by
  refine Fn.ok S (fun vs H Q E h => ?_) fun cdv A outer s H vs Q E hr hsp => ⟨_, hd cdv A outer s H E, ?_⟩
  · obtain ⟨a, C, v, rfl, _⟩ := h
    rfl
  · obtain ⟨a, C, v, rfl, T, hn, ha, hq⟩ := hsp
    refine ⟨_, rfl, a, C, _, rfl, (by show 1 ≤ 1000; decide), T, ha, ?_⟩
    exact ⟨v, rfl, .ref a, rfl, a, C, rfl, T, hn, .inl ⟨ha, fun dx h1 h2 => hq dx h1 h2⟩⟩
/-- an own exception class with one field -/
structure XCls (P : Program) (w : World) (K : PySem.W.Frag) (mg : Str → Option Value) (base : Heap) (x f : Str) : Prop where
  ex : ∃ (C fI : Addr) (fd : FuncData) (self : Str), PySem.W.nsIn K mainGlobals x = some (some (.ref C)) ∧ mg x = some (.ref C) ∧ OexC K C ∧ PySem.W.findIn K (.ref C) "__init__" = some (some (.ref fI)) ∧ PySem.W.typeIn K (.ref fI) = some (.type "function") ∧
    FnOk P w K mg base CX0 1 fI fd [self, f] (spXI K f) ∧ Binds K fd [self, f] [] ∧ PySem.W.findIn K (.ref C) f = some none
section
variable {P : Program} {w : World} {K : PySem.W.Frag} {mg : Str → Option Value} {base : Heap} {N : List Str} {k : Nat} {W : WX}
theorem del_upd {H : Hp} {a dx : Addr} {o o' o2 : HO} (ha : H a = none) (n : dx ≠ a) : upd (del (upd (upd H dx o) a o') a) dx o2 = upd H dx o2 := by
  funext b
  by_cases h1 : b = dx
  · rw [h1, upd_same, upd_same]
  · rw [upd_ne h1, upd_ne h1]
    by_cases h2 : b = a
    · rw [h2, del_same, ha]
    · rw [del_ne h2, upd_ne h2, upd_ne h1]
theorem upd_twice {H : Hp} {a : Addr} {o o' : HO} : upd (upd H a o) a o' = upd H a o' := by
  funext b
  by_cases h : b = a
  · rw [h, upd_same, upd_same]
  · rw [upd_ne h, upd_ne h, upd_ne h]
theorem upd_swap {H : Hp} {a b : Addr} {o o' : HO} (n : a ≠ b) : upd (upd H a o) b o' = upd (upd H b o') a o := by
  funext c
  by_cases h : c = b
  · rw [h, upd_same, upd_ne (Ne.symm n), upd_same]
  · rw [upd_ne h]
    by_cases h2 : c = a
    · rw [h2, upd_same, upd_same]
    · rw [upd_ne h2, upd_ne h2, upd_ne h]
theorem sw_raise {c f : Str} {C : Addr} {ta : TE} {qa : WE} (hc : PySem.W.nsIn K mainGlobals c = some (some (.ref C))) (T : OexC K C) (hn : PySem.W.findIn K (.ref C) f = some none) (ha : EW K W ta qa) :
    SW K W (fun _ σ H => tMkO C (spXI K f) [] (tCons ta tNil) σ H fun cls d H' => W cls d σ H') (wRaise c f qa) := fun c0 pa G H σ ds P D E hw hx he => by
  refine ha c0 pa G H σ ds _ _ _ E hw hx fun v G1 H1 d ds1 q S1 r1 => ⟨by show 1 ≤ 1000; decide, fun a ha => ?_⟩
  refine ⟨a, C, v, rfl, T, hn, upd_same, fun dx h1 h2 => ⟨rfl, dx, [(f, v)], upd_same, ?_, ?_, ?_⟩⟩
  · rw [upd_ne h2, upd_same]
  · rw [upd_ne h2] at h1
    exact h1
  · rw [upd_ne h2] at h1
    rw [upd_swap (H := H1) (Ne.symm h2), upd_twice, del_upd ha h2]
    obtain ⟨E2, sg⟩ := S1.env.new (o := .xd [(f, v)]) h1
    refine hx _ _ q pa _ _ σ (.ref C) (some dx) E2 ⟨⟨C, hc, rfl⟩, dx, [v], rfl, upd_same, ?_⟩
    exact ⟨v, [], rfl, r1.mono sg, rfl⟩
variable {F : Fam P w K mg base N k W} {a : Expr} {x f : Str} {pos p p2 : Pos} {qa : WE}
theorem raiseK {X : Cx} {C fI : Addr} {fd : FuncData} {ps : List Str} {t : TA} (hP : X.prog = P) (hw : X.w = w) (hK : X.K = K) (hm : X.mg = mg) (hb : X.base = base) (hc : X.calm = true) (tk : Takes X W) (T : OexC K C) (iC : PySem.W.findIn K (.ref C) "__init__" = some (some (.ref fI))) (tI : PySem.W.typeIn K (.ref fI) = some (.type "function"))
    (G : FnOk P w K mg base CX0 1 fI fd ps (spXI K f)) (hr : Rm base k X.A) (hk : 2 ≤ k) (bb : Binds K fd ps []) (hg : Gl X x) (gm : mg x = some (.ref C)) (ha : PA X [a] t) (hdb : (x == ("__debug__" : Str)) = false)
    (he : starEach [a] X.env = (false, eval a X.env) :: starEach [] X.env) (hpl : (backTo pos (starEach [] X.env)).any (·.1) = false) :
    PS X (.Raise (some (.Call (.Name x p) [a] [] pos)) none p2) (fun _ σ H => tMkO C (spXI K f) [] t σ H fun cls d H' => W cls d σ H') := by
  subst hP hw hK hm hb
  exact ps_raise hc tk (pmk_oex T iC tI G (hr.rm.mono hk) bb .nil (fun _ _ _ _ _ _ _ z => z.elim) hg gm ha hdb he hpl)
/-- raise x(a) -/
theorem s_raise (C : XCls P w K mg base x f) (ha : DE F a qa) (hk : 2 ≤ k := by decide) (hg : ∀ j, Gl (F.X j) x := by intro _; rfl) (hdb : (x == ("__debug__" : Str)) = false := by decide)
    (he : ∀ j, starEach [a] (F.X j).env = (false, eval a (F.X j).env) :: starEach [] (F.X j).env := by intro _; rfl) (hpl : ∀ j, (backTo pos (starEach [] (F.X j).env)).any (·.1) = false := by intro _; rfl) :
    DS1 F (.Raise (some (.Call (.Name x p) [a] [] pos)) none p2) (wRaise x f qa) := by
  obtain ⟨C, fI, fd, self, c1, c2, c3, c4, c5, c6, c7, c8⟩ := C.ex
  obtain ⟨t, t1, t2⟩ := ha
  exact ⟨_, fun j => raiseK (F.hP j) (F.hw j) (F.hK j) (F.hm j) (F.hb j) (F.calm j) (F.tk j) c3 c4 c5 c6 (F.room j) hk c7 (hg j) c2 (pa_cons (t1 j) pa_nil (he j)) hdb (he j) (hpl j), sw_raise c1 c3 c8 t2⟩
end
end DW

/-! DwR: repr. -/
namespace DW
open PySem PySem.Spec PyProof.Rows L2

def pyk : Key → PyData
  | .inl i => .int i
  | .inr x => .str x
mutual
/-- the kit's own data for these, tags off -/
def pyt : D → PyData
  | .non => .none
  | .bl b => .bool b
  | .int i => .int i
  | .str x => .str x
  | .tup xs => .tuple (pyts xs)
  | .lst xs => .list (pyts xs)
  | .obj _ => .none
  | .dct ks vs => .dict (pytk ks vs)
  | .at _ d => pyt d
def pyts : List D → List PyData
  | [] => []
  | x :: xs => pyt x :: pyts xs
def pytk : List Key → List D → List (PyData × PyData)
  | k :: ks, x :: xs => (pyk k, pyt x) :: pytk ks xs
  | _, _ => []
end
mutual
/-- no object of a class of one's own -/
def rsh : D → Bool
  | .tup xs => rshs xs
  | .lst xs => rshs xs
  | .obj _ => false
  | .dct _ vs => rshs vs
  | .at _ d => rsh d
  | _ => true
def rshs : List D → Bool
  | [] => true
  | x :: xs => rsh x && rshs xs
end
/-- what can be written out -/
structure Okr (d : D) : Prop where
  sh : rsh d = true
  ok : (pyt d).showable = true
  dp : (pyt d).depth ≤ 64
  sz : (pyt d).shown.length ≤ sizeLine
def dRepr : B1 := fun d k => Okr d ∧ k (.str (pyt d).shown)
section
variable {X : Cx} {pins : List (Addr × Obj)} {σ : L2.St} {H : Hp} {s : Shared}
theorem sys_list (I : Inv X pins σ H s) (sy : Sys X.base) {a : Addr} {xs : List V} (h : SqL X.K H a xs) : sysModules ≠ a := fun e => by
  obtain ⟨mm, o, es, ep, e1, e2, _⟩ := sy
  subst e
  rcases h with (h | ⟨u, h⟩) | ⟨o', its, n, hk, _, _, hd, _⟩
  · exact nomatch (I.bs _ _ e1).2.symm.trans h
  · exact nomatch (I.bs _ _ e1).2.symm.trans h
  · have g := I.mod.kin _ _ hk
    rw [e1] at g
    cases g
    rw [e2] at hd
    cases hd
theorem key_reads {h : Heap} {k : Key} {v : Value} (e : keyIs k v = true) : Reads h v (pyk k) [] := by
  rcases keyIs_shape e with ⟨i, t, rfl, rfl⟩ | ⟨x, t, rfl, rfl⟩
  · exact .int i t
  · exact .str x t
mutual
theorem rep_reads (I : Inv X pins σ H s) (sy : Sys X.base) : ∀ (d : D) (v : V) (u : Value), rsh d = true → Rep X.K H d v → RelV v u → ∃ as, Reads s.heap u (pyt d) as ∧ sysModules ∉ as
  | .non, v, u, _, h, r => by
    rw [show v = .non from h] at r
    cases r
    exact ⟨_, .none, List.not_mem_nil⟩
  | .bl b, v, u, _, h, r => by
    rw [show v = .bl b from h] at r
    cases r
    exact ⟨_, .bool b, List.not_mem_nil⟩
  | .int i, v, u, _, h, r => by
    rw [show v = .int i from h] at r
    obtain ⟨t, rfl⟩ := r
    exact ⟨_, .int i t, List.not_mem_nil⟩
  | .str x, v, u, _, h, r => by
    rw [show v = .str x from h] at r
    obtain ⟨t, rfl⟩ := r
    exact ⟨_, .str x t, List.not_mem_nil⟩
  | .lst ds, v, u, w, h, r => by
    obtain ⟨a, xs, e, h1, h2⟩ := h
    rw [e] at r
    cases r
    obtain ⟨its, rv, ⟨o, n, ho, hc, _, hd⟩, _⟩ := I.list h1
    have hd : o.data = .seq its.toArray n := by first | exact hd | exact hd.1
    obtain ⟨as, q1, q2⟩ := reps_reads I sy ds xs its w h2 rv
    exact ⟨_, .list ho hc hd q1, fun z => by
      rcases List.mem_cons.mp z with z | z
      · exact sys_list I sy h1 z
      · exact q2 z⟩
  | .tup ds, v, u, w, h, r => by
    obtain ⟨a, xs, e, h1, h2⟩ := h
    rw [e] at r
    cases r
    obtain ⟨its, rv, ⟨o, ho, hc, n, hd⟩, _⟩ := I.tuple h1
    obtain ⟨as, q1, q2⟩ := reps_reads I sy ds xs its w h2 rv
    exact ⟨_, .tuple ho hc hd q1, q2⟩
  | .obj c, v, u, w, _, _ => by cases (show false = true from w)
  | .at a d, v, u, w, h, r => rep_reads I sy d v u w h.2 r
  | .dct ks ds, v, u, w, h, r => by
    obtain ⟨a, kvs, e, ha, hk, h2⟩ := h
    rw [e] at r
    cases r
    obtain ⟨_, ns, vs, kv, o, es, ep, ho, hx, hd, _, ps, _⟩ := (show ObjOk X.prog X.w H s.heap a (.dK kvs) from I.hok a _ ha)
    obtain ⟨as, bs, q1, q2, q3, q4⟩ := dct_reads I sy ds ks kvs vs es.toList w hk h2 kv ps
    refine ⟨_, .dict ho hx.1 hd q1 q2, fun z => ?_⟩
    rcases List.mem_append.mp z with z | z
    · rcases List.mem_cons.mp z with z | z
      · subst z
        rw [beq_self_eq_true] at ns
        cases ns
      · exact q3 z
    · exact q4 z
theorem reps_reads (I : Inv X pins σ H s) (sy : Sys X.base) : ∀ (ds : List D) (vs : List V) (us : List Value), rshs ds = true → Reps X.K H ds vs → Vals vs us → ∃ as, ReadsAll s.heap us (pyts ds) as ∧ sysModules ∉ as
  | [], vs, us, _, h, r => by
    rw [show vs = [] from h] at r
    cases r
    exact ⟨_, .nil, List.not_mem_nil⟩
  | d :: ds, vs, us, w, h, r => by
    obtain ⟨x, xs, e, h1, h2⟩ := h
    have w : (rsh d && rshs ds) = true := w
    rw [Bool.and_eq_true] at w
    rw [e] at r
    cases r with
    | cons r1 r2 =>
      obtain ⟨as, q1, q2⟩ := rep_reads I sy d x _ w.1 h1 r1
      obtain ⟨bs, q3, q4⟩ := reps_reads I sy ds xs _ w.2 h2 r2
      exact ⟨_, .cons q1 q3, fun z => (List.mem_append.mp z).elim q2 q4⟩
theorem dct_reads (I : Inv X pins σ H s) (sy : Sys X.base) : ∀ (ds : List D) (ks : List Key) (kvs : List (Key × V)) (vs : List (Key × Value)) (es : List DictEntry), rshs ds = true → kvs.map (·.1) = ks → Reps X.K H ds (kvs.map (·.2)) → KV kvs vs → Pairs (mixKind X.prog X.w) es vs →
    ∃ as bs, ReadsAll s.heap (es.map (·.key)) ((pytk ks ds).map (·.1)) as ∧ ReadsAll s.heap (es.map (·.val)) ((pytk ks ds).map (·.2)) bs ∧ sysModules ∉ as ∧ sysModules ∉ bs
  | [], ks, kvs, vs, es, _, hk, h, kv, ps => by
    have e : kvs = [] := List.map_eq_nil_iff.mp (show kvs.map (·.2) = [] from h)
    subst e
    cases kv
    cases ps
    subst hk
    exact ⟨_, _, .nil, .nil, List.not_mem_nil, List.not_mem_nil⟩
  | d :: ds, ks, kvs, vs, es, w, hk, h, kv, ps => by
    obtain ⟨x, xs, e, h1, h2⟩ := h
    have w : (rsh d && rshs ds) = true := w
    rw [Bool.and_eq_true] at w
    cases kvs with
    | nil => cases e
    | cons kx kvs =>
      obtain ⟨e1, e2⟩ := List.cons.inj e
      cases kv with
      | cons r1 r2 =>
        cases ps with
        | cons p1 p2 p3 =>
          rename_i q vs e0 es
          subst hk e1 e2
          obtain ⟨as, bs, q1, q2, q3, q4⟩ := dct_reads I sy ds _ kvs vs es w.2 rfl h2 r2 p3
          obtain ⟨cs, q5, q6⟩ := rep_reads I sy d kx.2 e0.val w.1 h1 (by rw [p2]; exact r1.2)
          refine ⟨[] ++ as, cs ++ bs, .cons (key_reads (by show keyIs kx.1 e0.key = true; rw [r1.1]; exact p1)) q1, .cons q5 q2, q3, fun z => (List.mem_append.mp z).elim q6 q4⟩
end
def rRepr (K : PySem.W.Frag) : List V → Hp → VK → Prop := fun xs H Q => ∃ x d, xs = [x] ∧ Rep K H d x ∧ Okr d ∧ Q (.str (pyt d).shown) H
theorem call_repr (r : Rm X.base k X.A) : CallR X (.builtin "repr") (rRepr X.K) := by
  rintro pins s σ H xs us Q I rv ⟨x, d, rfl, rx, ok, q⟩
  obtain ⟨u, rfl, ru⟩ := vals1 rv
  obtain ⟨as, rd, ns⟩ := rep_reads I r.sys d x u ok.sh rx ru
  have sz := ok.sz
  have sh := ok.ok
  have dp := ok.dp
  have un := r.rm.un
  have hq : ∀ (h' : Heap) (tk tj : Nat), (∀ b o, s.heap.get? b = some o → h'.get? b = some o) → EP X pins σ Q (.str (pyt d).shown tk) { s with heap := h', toks := tj } := fun h' tk tj kp => ⟨.str (pyt d).shown, H, I.kept kp, ⟨_, rfl⟩, q⟩
  clear ok rx q rv ru
  generalize pyt d = e at *
  cases rd with
  | none => exact PySem.P.repr_of_none (hq s.heap _ _ fun _ _ z => z)
  | bool b => exact PySem.P.repr_of_bool (by cases b <;> exact hq s.heap _ _ fun _ _ z => z)
  | int i t => exact PySem.P.repr_of_int (of_decide_eq_true sh) (hq s.heap _ _ fun _ _ z => z)
  | str x t => exact PySem.P.repr_of_str (hq s.heap _ _ fun _ _ z => z) sz
  | list h1 h2 h3 h4 => exact repr_of_reads' (.list h1 h2 h3 h4) sh (fun _ => ns) r.gd (by omega) (fun _ _ z => z) (fun h' u tk kp => hq h' u tk kp) sz
  | tuple h1 h2 h3 h4 => exact repr_of_reads' (.tuple h1 h2 h3 h4) sh (fun _ => ns) r.gd (by omega) (fun _ _ z => z) (fun h' u tk kp => hq h' u tk kp) sz
  | dict h1 h2 h3 h4 h5 => exact repr_of_reads' (.dict h1 h2 h3 h4 h5) sh (fun _ => ns) r.gd (by omega) (fun _ _ z => z) (fun h' u tk kp => hq h' u tk kp) sz
end
section
variable {P : Program} {w : World} {K : PySem.W.Frag} {mg : Str → Option Value} {base : Heap} {N : List Str} {k : Nat} {W : WX}
variable {F : Fam P w K mg base N k W} {a b : Expr} {pos p : Pos} {qa qb : WE}
theorem rc_repr : RWC1 K (rRepr K) dRepr := fun G H x d kk Q s rx h k => ⟨x, d, rfl, Rep.mono s rx, h.1, k _ _ h.2 rfl⟩
theorem reprK {X : Cx} (hK : X.K = K) (hb : X.base = base) (r : Rm base k X.A) : CallR X (.builtin "repr") (rRepr K) := by
  subst hK hb
  exact call_repr r
theorem d_repr (hm : mg "repr" = none) (ha : DE F a qa) (hg : ∀ j, Gl (F.X j) "repr" := by intro _; rfl) (hs : ∀ j, starEach [a] (F.X j).env = (false, eval a (F.X j).env) :: starEach [] (F.X j).env := by intro _; rfl) (hpl : ∀ j, (backTo pos (starEach [] (F.X j).env)).any (·.1) = false := by intro _; rfl) :
    DE F (.Call (.Name "repr" p) [a] [] pos) (wUn dRepr qa) := d_b1 (fun j => reprK (F.hK j) (F.hb j) (F.room j)) rc_repr hm (by decide +kernel) ha hg (by decide) (by decide) hs hpl
end
end DW

/-! DwT: things made of fresh lists, tuples and dicts: copied deeply, grown. -/
namespace DW
open PySem PySem.Spec PyProof.Rows L2

def E0 : L2.St → XK := fun _ _ _ _ => False
/-- what may be written to -/
def soft : HO → Bool
  | .lst _ => true
  | .dK _ => true
  | _ => false
mutual
/-- no list, no dict within -/
def imm : D → Bool
  | .tup xs => imms xs
  | .lst _ => false
  | .obj _ => false
  | .dct _ _ => false
  | .at _ _ => false
  | _ => true
def imms : List D → Bool
  | [] => true
  | x :: xs => imm x && imms xs
end
def isOne : List D → Bool
  | [.int i] => i == 1
  | _ => false
mutual
/-- what the law's questions are made of -/
def okA : D → Bool
  | .tup xs => decide (xs.length ≤ 10000) && okAs xs
  | .lst xs => decide (xs.length ≤ 10000) && okAs xs
  | .obj _ => false
  | .dct ks vs => decide (ks = [.inr "a"]) && isOne vs
  | .at _ _ => false
  | _ => true
def okAs : List D → Bool
  | [] => true
  | x :: xs => okA x && okAs xs
end
mutual
def dpt : D → Nat
  | .tup xs => dpts xs + 1
  | .lst xs => dpts xs + 1
  | .dct _ _ => 1
  | _ => 0
def dpts : List D → Nat
  | [] => 0
  | x :: xs => max (dpt x) (dpts xs)
end
/-- a list, a tuple, a dict -/
def isC : D → Bool
  | .lst _ => true
  | .tup _ => true
  | .dct _ _ => true
  | _ => false
mutual
/-- a thing whose lists and dicts stand at cs and may be written to -/
inductive Tree (K : PySem.W.Frag) (H : Hp) (b : Bool) : D → V → List Addr → Prop
  | imm {d : D} {v : V} : (isC d = true → b = true) → imm d = true → Rep K H d v → Tree K H b d v []
  | tup {ds : List D} {a : Addr} {xs : List V} {cs : List (List Addr)} : H a = some (.tup xs) → Trees K H b ds xs cs → Tree K H b (.tup ds) (.ref a) (a :: cs.flatten)
  | lst {ds : List D} {a : Addr} {xs : List V} {cs : List (List Addr)} : H a = some (.lst xs) → Trees K H b ds xs cs → Tree K H b (.lst ds) (.ref a) (a :: cs.flatten)
  | dct {ks : List Key} {ds : List D} {a : Addr} {kvs : List (Key × V)} {cs : List (List Addr)} : H a = some (.dK kvs) → kvs.map (·.1) = ks → Trees K H b ds (kvs.map (·.2)) cs → Tree K H b (.dct ks ds) (.ref a) (a :: cs.flatten)
inductive Trees (K : PySem.W.Frag) (H : Hp) (b : Bool) : List D → List V → List (List Addr) → Prop
  | nil : Trees K H b [] [] []
  | cons {d : D} {ds : List D} {x : V} {xs : List V} {c : List Addr} {cs : List (List Addr)} : Tree K H b d x c → Trees K H b ds xs cs → Trees K H b (d :: ds) (x :: xs) (c :: cs)
end
/-- all stays but what is soft and stands at none of cs -/
def Keep (cs : List Addr) (H H' : Hp) : Prop := ∀ b o, H b = some o → (soft o = true → b ∈ cs) → H' b = some o
section
variable {K : PySem.W.Frag} {H H' : Hp} {b : Bool}
theorem Keep.sub {cs c : List Addr} (k : Keep cs H H') (h : ∀ b ∈ c, b ∈ cs) : Keep c H H' := fun b o e s => k b o e fun z => h b (s z)
theorem Keep.same (s : Same H H') {cs : List Addr} : Keep cs H H' := fun b o e _ => s b o e
theorem sqT_keep {cs : List Addr} (k : Keep cs H H') {a : Addr} {xs : List V} (h : SqT K H a xs) : SqT K H' a xs := by
  rcases h with (h | ⟨o, h⟩) | h
  · exact .inl (.inl (k _ _ h fun z => by cases z))
  · exact .inl (.inr ⟨o, k _ _ h fun z => by cases z⟩)
  · exact .inr h
mutual
theorem imm_keep {cs : List Addr} (k : Keep cs H H') : ∀ {d : D} {v : V}, imm d = true → Rep K H d v → Rep K H' d v
  | .non, _, _, h => h
  | .bl _, _, _, h => h
  | .int _, _, _, h => h
  | .str _, _, _, h => h
  | .tup ds, v, w, h => by
    obtain ⟨a, xs, e, h1, h2⟩ := h
    exact ⟨a, xs, e, sqT_keep k h1, imms_keep k w h2⟩
  | .lst _, _, w, _ => by cases w
  | .obj _, _, w, _ => by cases w
  | .dct _ _, _, w, _ => by cases w
  | .at _ _, _, w, _ => by cases w
theorem imms_keep {cs : List Addr} (k : Keep cs H H') : ∀ {ds : List D} {vs : List V}, imms ds = true → Reps K H ds vs → Reps K H' ds vs
  | [], _, _, h => h
  | d :: ds, vs, w, h => by
    obtain ⟨x, xs, e, h1, h2⟩ := h
    have w : (imm d && imms ds) = true := w
    rw [Bool.and_eq_true] at w
    exact ⟨x, xs, e, imm_keep k w.1 h1, imms_keep k w.2 h2⟩
end
mutual
theorem Tree.keep : ∀ {d : D} {v : V} {cs : List Addr}, Tree K H b d v cs → Keep cs H H' → Tree K H' b d v cs
  | _, _, _, .imm n i r, k => .imm n i (imm_keep k i r)
  | _, _, _, .tup h t, k => .tup (k _ _ h fun _ => List.mem_cons_self) (Trees.keep t (k.sub fun _ z => List.mem_cons_of_mem _ z))
  | _, _, _, .lst h t, k => .lst (k _ _ h fun _ => List.mem_cons_self) (Trees.keep t (k.sub fun _ z => List.mem_cons_of_mem _ z))
  | _, _, _, .dct h e t, k => .dct (k _ _ h fun _ => List.mem_cons_self) e (Trees.keep t (k.sub fun _ z => List.mem_cons_of_mem _ z))
theorem Trees.keep : ∀ {ds : List D} {vs : List V} {cs : List (List Addr)}, Trees K H b ds vs cs → Keep cs.flatten H H' → Trees K H' b ds vs cs
  | _, _, _, .nil, _ => .nil
  | _, _, _, .cons t ts, k => .cons (Tree.keep t (k.sub fun _ z => List.mem_append_left _ z)) (Trees.keep ts (k.sub fun _ z => List.mem_append_right _ z))
end
mutual
theorem Tree.rep : ∀ {d : D} {v : V} {cs : List Addr}, Tree K H b d v cs → Rep K H d v
  | _, _, _, .imm _ _ r => r
  | _, _, _, .tup (a := a) (xs := xs) h t => ⟨a, xs, rfl, .inl (.inl h), Trees.rep t⟩
  | _, _, _, .lst (a := a) (xs := xs) h t => ⟨a, xs, rfl, .inl (.inl h), Trees.rep t⟩
  | _, _, _, .dct (a := a) (kvs := kvs) h e t => ⟨a, kvs, rfl, h, e, Trees.rep t⟩
theorem Trees.rep : ∀ {ds : List D} {vs : List V} {cs : List (List Addr)}, Trees K H b ds vs cs → Reps K H ds vs
  | _, _, _, .nil => rfl
  | _, _, _, .cons (x := x) (xs := xs) t ts => ⟨x, xs, rfl, Tree.rep t, Trees.rep ts⟩
end
mutual
theorem Tree.live : ∀ {d : D} {v : V} {cs : List Addr}, Tree K H b d v cs → ∀ c ∈ cs, H c ≠ none
  | _, _, _, .imm _ _ _, _, z => by cases z
  | _, _, _, .tup h t, c, z => by
    rcases List.mem_cons.mp z with rfl | z
    · rw [h]
      exact nofun
    · exact Trees.live t c z
  | _, _, _, .lst h t, c, z => by
    rcases List.mem_cons.mp z with rfl | z
    · rw [h]
      exact nofun
    · exact Trees.live t c z
  | _, _, _, .dct h e t, c, z => by
    rcases List.mem_cons.mp z with rfl | z
    · rw [h]
      exact nofun
    · exact Trees.live t c z
theorem Trees.live : ∀ {ds : List D} {vs : List V} {cs : List (List Addr)}, Trees K H b ds vs cs → ∀ c ∈ cs.flatten, H c ≠ none
  | _, _, _, .nil, _, z => by cases z
  | _, _, _, .cons t ts, c, z => by
    rcases List.mem_append.mp z with z | z
    · exact Tree.live t c z
    · exact Trees.live ts c z
end
theorem Trees.len : ∀ {ds : List D} {vs : List V} {cs : List (List Addr)}, Trees K H b ds vs cs → ds.length = vs.length
  | _, _, _, .nil => rfl
  | _, _, _, .cons t ts => by rw [List.length_cons, List.length_cons, Trees.len ts]
theorem Trees.app : ∀ {ds es : List D} {vs ws : List V} {cs c2 : List (List Addr)}, Trees K H b ds vs cs → Trees K H b es ws c2 → Trees K H b (ds ++ es) (vs ++ ws) (cs ++ c2)
  | _, _, _, _, _, _, .nil, u => u
  | _, _, _, _, _, _, .cons t ts, u => .cons t (Trees.app ts u)
theorem Trees.snoc {ds : List D} {vs : List V} {cs : List (List Addr)} {c : List Addr} {d : D} {v : V} (ts : Trees K H b ds vs cs) (t : Tree K H b d v c) : Trees K H b (ds ++ [d]) (vs ++ [v]) (cs ++ [c]) := ts.app (.cons t .nil)
end
mutual
theorem Tree.repG {K : PySem.W.Frag} {H G : Hp} : ∀ {d : D} {v : V} {cs : List Addr}, Tree K H false d v cs → (∀ c ∈ cs, G c = H c) → Rep K G d v
  | d, _, _, .imm n i r, _ => by
    cases d with
    | non => exact r
    | bl _ => exact r
    | int _ => exact r
    | str _ => exact r
    | tup _ => exact nomatch n rfl
    | lst _ => cases i
    | obj _ => cases i
    | dct _ _ => cases i
    | «at» _ _ => cases i
  | _, _, _, .tup (a := a) (xs := xs) h t, g => ⟨a, xs, rfl, .inl (.inl ((g a List.mem_cons_self).trans h)), Trees.repG t fun c z => g c (List.mem_cons_of_mem _ z)⟩
  | _, _, _, .lst (a := a) (xs := xs) h t, g => ⟨a, xs, rfl, .inl (.inl ((g a List.mem_cons_self).trans h)), Trees.repG t fun c z => g c (List.mem_cons_of_mem _ z)⟩
  | _, _, _, .dct (a := a) (kvs := kvs) h e t, g => ⟨a, kvs, rfl, (g a List.mem_cons_self).trans h, e, Trees.repG t fun c z => g c (List.mem_cons_of_mem _ z)⟩
theorem Trees.repG {K : PySem.W.Frag} {H G : Hp} : ∀ {ds : List D} {vs : List V} {cs : List (List Addr)}, Trees K H false ds vs cs → (∀ c ∈ cs.flatten, G c = H c) → Reps K G ds vs
  | _, _, _, .nil, _ => rfl
  | _, _, _, .cons (x := x) (xs := xs) t ts, g => ⟨x, xs, rfl, Tree.repG t fun c z => g c (List.mem_append_left _ z), Trees.repG ts fun c z => g c (List.mem_append_right _ z)⟩
end
/-! ### isinstance -/
abbrev tIsi (K : PySem.W.Frag) (ta : TE) (T : Ty) : TT := tB (tCB (rIsi K) (tCons ta (tCons (tC (.ty T.nm)) tNil)))
abbrev tIsis (K : PySem.W.Frag) (ta : TE) (ts : List Ty) : TT := tB (tCB (rIsiT K) (tCons ta (tCons (tTup (tTys ts)) tNil)))
section
variable {K : PySem.W.Frag} {G H : Hp}
theorem isi_var {i : Nat} {σ : L2.St} {d : D} {v : V} {T : Ty} {Q : Bool → Hp → Prop} (s : Same G H) (r : Rep K G d v) (ho : isObj d = false) (e : σ[i]? = some (some v)) (q : Q (isTy T d) H) : tIsi K (tVar i) T σ H Q :=
  ⟨v, e, v, .ty T.nm, _, .type T.nm, isTy T d, rfl, .ty T.nm, rep_ty s ho r, kit_ty (kit_of_ty T d ho), isTy T d, rfl, q⟩
theorem isis_var {i : Nat} {σ : L2.St} {d : D} {v : V} {ts : List Ty} {Q : Bool → Hp → Prop} (hl : ts.length ≤ 10) (s : Same G H) (r : Rep K G d v) (ho : isObj d = false) (e : σ[i]? = some (some v)) (q : ∀ p, H p = none → Q (ts.any fun t => isTy t d) (upd H p (.tup (ts.map fun t => V.ty t.nm)))) : tIsis K (tVar i) ts σ H Q := by
  refine ⟨v, e, tTys_run ts σ H _ ⟨by rw [List.length_map]; exact Nat.le_trans hl (by decide), fun p hp => ?_⟩⟩
  exact ⟨v, p, _, _, _, _, rfl, upd_same, cls_all ts, rep_ty (s.trans fun b o h => by rw [upd_ne (ne_of_none h hp)]; exact h) ho r, kits_any ho ts, _, rfl, q p hp⟩
end
section
variable {X : Cx} {a : Expr} {x : Str} {ta : TE} {p p2 pos : Pos}
theorem pt_isi (T : Ty) {u : Value} (hi : X.mg "isinstance" = none) (hm : X.mg x = none) (hv : bootBuiltins x = some u) (hu : u = .type T.nm) (ha : PE X a ta) (hgi : Gl X "isinstance" := by rfl) (hg : Gl X x := by rfl) (hn : x ≠ "__name__" := by decide)
    (hdb : (x == ("__debug__" : Str)) = false := by decide) (hs : starEach [a, .Name x p2] X.env = (false, eval a X.env) :: starEach [.Name x p2] X.env := by rfl) (hs2 : starEach [.Name x p2] X.env = (false, eval (.Name x p2) X.env) :: starEach [] X.env := by rfl)
    (hpl : (backTo pos (starEach [.Name x p2] X.env)).any (·.1) = false := by rfl) (he : ∀ whole, isTrue (.Call (.Name "isinstance" p) [a, .Name x p2] [] pos) X.env whole = (do let v ← whole; standAt pos; holding [v] (truthy v)) := by intro _; rfl) : PT X (.Call (.Name "isinstance" p) [a, .Name x p2] [] pos) (tIsi X.K ta T) := by
  subst hu
  exact pt_val (pe_callB call_isi hgi hi (by decide +kernel) (pa_cons ha (pa_cons (pe_bltn (v := .ty T.nm) hg hm hv rfl hn hdb) pa_nil hs2) hs) (by decide) (by decide) hs hpl) he
end
/-! ### the deep copy -/
def rTupOf (K : PySem.W.Frag) : List V → Hp → VK → Prop := fun xs H Q => ∃ p ys, xs = [.ref p] ∧ ((SqL K H p ys ∧ ∀ l, H l = none → Q (.ref l) (upd H l (.tup ys))) ∨ (SqT K H p ys ∧ Q (.ref p) H))
def spCopy (K : PySem.W.Frag) (n : Nat) : Sp := fun vs H Q _ => ∃ G d v, vs = [v] ∧ Same G H ∧ Rep K G d v ∧ okA d = true ∧ dpt d < n ∧ ∀ v' H' cs, Same H H' → Tree K H' false d v' cs → (∀ c ∈ cs, H c = none) → cs.Nodup → Q v' H'
def tLcC (K : PySem.W.Frag) (sp : Sp) : TE := tLc (iSeq K (tVar 0)) (gName 3) tYes (tCallSD sp [] E0 (tCons (tVar 3) tNil)) [3]
def tCopyB (K : PySem.W.Frag) (sp : Sp) : TS :=
  tSeq (tIfS (tIsi K (tVar 0) .list) (tRet (tLcC K sp)) tNext)
  (tSeq (tIfS (tIsi K (tVar 0) .tuple) (tRet (tCB (rTupOf K) (tCons (tLcC K sp) tNil))) tNext)
  (tSeq (tAsg tDNewK (gName 1))
  (tSeq (tIfS (tIsi K (tVar 0) .dict) (tLock (tFor (iKeys (tVar 0)) (gName 2) (sDPut (tVar 1) (tVar 2) (tCallSD sp [] E0 (tCons (tDGet (tVar 0) (tVar 2)) tNil))))) tNext)
    (tRet (tIf (tIsi K (tVar 0) .dict) (tVar 1) (tVar 0))))))
theorem okAs_at : ∀ {ds : List D} {i : Nat} {d : D}, okAs ds = true → ds[i]? = some d → okA d = true
  | x :: xs, 0, d, h, e => by
    have h : (okA x && okAs xs) = true := h
    rw [Bool.and_eq_true] at h
    cases e
    exact h.1
  | x :: xs, i + 1, d, h, e => by
    have h : (okA x && okAs xs) = true := h
    rw [Bool.and_eq_true] at h
    exact okAs_at h.2 (by simpa using e)
  | [], i, d, h, e => by simp at e
theorem dpts_at : ∀ {ds : List D} {i : Nat} {d : D}, ds[i]? = some d → dpt d ≤ dpts ds
  | x :: xs, 0, d, e => by
    cases e
    exact Nat.le_max_left _ _
  | x :: xs, i + 1, d, e => Nat.le_trans (dpts_at (ds := xs) (i := i) (by simpa using e)) (Nat.le_max_right _ _)
  | [], i, d, e => by simp at e
theorem take_snoc {α : Type} : ∀ {l : List α} {i : Nat} {x : α}, l[i]? = some x → l.take (i + 1) = l.take i ++ [x]
  | y :: l, 0, x, e => by cases e; rfl
  | y :: l, i + 1, x, e => by
    have e' : l[i]? = some x := by simpa using e
    rw [List.take_succ_cons, List.take_succ_cons, take_snoc e', List.cons_append]
  | [], i, x, e => by simp at e
/-- the comprehension that copies each member -/
structure CpI (K : PySem.W.Frag) (H : Hp) (ds : List D) (Dl : Addr) (i : Nat) (H' : Hp) : Prop where
  ex : ∃ acc cs, H' Dl = some (.lst acc) ∧ Same H H' ∧ Trees K H' false (ds.take i) acc cs ∧ (∀ c ∈ cs.flatten, H c = none) ∧ Dl ∉ cs.flatten ∧ cs.flatten.Nodup
theorem lcC_ok {K : PySem.W.Frag} {n : Nat} {G H : Hp} {σ : L2.St} {p : Addr} {ys : List V} {ds : List D} {Q : VK} (s : Same G H) (rv : Reps K G ds ys) (hq : SqL K G p ys ∨ SqT K G p ys) (h0 : σ[0]? = some (some (.ref p))) (h3 : σ.length = 4)
    (ok : okAs ds = true) (dp : dpts ds < n) (sz : ds.length ≤ sizeLine) (k : ∀ l acc cs H', Same H H' → H l = none → H' l = some (.lst acc) → Trees K H' false ds acc cs → (∀ c ∈ cs.flatten, H c = none) → l ∉ cs.flatten → cs.flatten.Nodup → Q (.ref l) H') : tLcC K (spCopy K n) σ H Q := by
  have step : ∀ (Dl : Addr) (hD : H Dl = none) (i : Nat) (x : V) (H' : Hp), ys[i]? = some x → CpI K H ds Dl i H' → gName 3 x (wipe σ [3]) H' fun σ2 H2 => wipe σ2 [3] = wipe σ [3] ∧ tYes σ2 H2 fun b H3 =>
      if b = true then tCallSD (spCopy K n) [] E0 (tCons (tVar 3) tNil) σ2 H3 fun y H4 => ∃ acc, H4 Dl = some (.lst acc) ∧ acc.length < sizeLine ∧ CpI K H ds Dl (i + 1) (upd H4 Dl (.lst (acc ++ [y]))) else CpI K H ds Dl (i + 1) H3 := by
    intro Dl hD i x H' ex ⟨acc, cs, e1, e2, e3, e4, e5, e6⟩
    obtain ⟨d, ed, rd⟩ := rv.gev ex
    refine ⟨by simp [wipe, List.set_set], ?_⟩
    refine ⟨x, by simp [wipe, h3], G, d, x, rfl, s.trans e2, rd, okAs_at ok ed, Nat.lt_of_le_of_lt (dpts_at ed) dp, fun v' H4 c s4 t4 f4 n4 => ?_⟩
    have nD : Dl ∉ c := fun z => nomatch (f4 _ z).symm.trans e1
    have dis : ∀ b, b ∈ cs.flatten → b ∉ c := fun b z z2 => e3.live b z (f4 b z2)
    have up : ∀ {cc : List Addr}, Dl ∉ cc → Keep cc H4 (upd H4 Dl (.lst (acc ++ [v']))) := fun {cc} nd b o h hs => by
      by_cases hb : b = Dl
      · subst hb
        rw [s4 _ _ e1] at h
        cases h
        exact absurd (hs rfl) nd
      · rw [upd_ne hb]
        exact h
    have hi : i < ds.length := (List.getElem?_eq_some_iff.mp ed).1
    refine ⟨acc, s4 _ _ e1, ?_, ?_⟩
    · rw [← e3.len, List.length_take]
      omega
    · have fl : (cs ++ [c]).flatten = cs.flatten ++ c := by rw [List.flatten_append, List.flatten_cons, List.flatten_nil, List.append_nil]
      refine ⟨acc ++ [v'], cs ++ [c], upd_same, fun b o h => ?_, ?_, fun b z => ?_, fun z => ?_, ?_⟩
      · rw [upd_ne (ne_of_none h hD)]
        exact s4 _ _ (e2 _ _ h)
      · rw [take_snoc ed]
        exact ((e3.keep (.same s4)).keep (up e5)).snoc (t4.keep (up nD))
      · rw [fl] at z
        rcases List.mem_append.mp z with z | z
        · exact e4 b z
        · cases hb : H b with
          | none => rfl
          | some o => exact nomatch (f4 b z).symm.trans (e2 _ _ hb)
      · rw [fl] at z
        rcases List.mem_append.mp z with z | z
        · exact e5 z
        · exact nD z
      · rw [fl]
        exact List.nodup_append.mpr ⟨e6, n4, fun b z b2 z2 e => dis b z (e ▸ z2)⟩
  have zero : ∀ Dl, H Dl = none → CpI K H ds Dl 0 (upd H Dl (.lst [])) := fun Dl hD => ⟨[], [], upd_same, fun b o h => by rw [upd_ne (ne_of_none h hD)]; exact h, .nil, fun _ z => (List.not_mem_nil z).elim, List.not_mem_nil, List.nodup_nil⟩
  have done : ∀ Dl, H Dl = none → ∀ H', CpI K H ds Dl ys.length H' → Q (.ref Dl) H' := fun Dl hD H' ⟨acc, cs, e1, e2, e3, e4, e5, e6⟩ => by
    rw [← rv.len, List.take_length] at e3
    exact k Dl acc cs H' e2 hD e1 e3 e4 e5 e6
  rcases hq with hq | hq
  · refine ⟨.ref p, h0, p, rfl, .inl ⟨⟨ys, L2.Same.seq s hq⟩, fun Dl hD => ?_⟩⟩
    exact lc_list (xs := ys) (CpI K H ds Dl) (zero Dl hD) (fun i H' _ ⟨acc, cs, _, e2, _⟩ => L2.Same.seq (s.trans e2) hq) (fun i x H' ex hi => step Dl hD i x H' ex hi) (done Dl hD)
  · refine ⟨.ref p, h0, p, rfl, .inr ⟨⟨ys, Same.t s hq⟩, fun Dl hD => ?_⟩⟩
    exact lc_tup (xs := ys) (CpI K H ds Dl) (zero Dl hD) (fun i H' _ ⟨acc, cs, _, e2, _⟩ => Same.t (s.trans e2) hq) (fun i x H' ex hi => step Dl hD i x H' ex hi) (done Dl hD)
theorem same_upd {H : Hp} {p : Addr} {o : HO} (h : H p = none) : Same H (upd H p o) := fun b u e => by
  rw [upd_ne (ne_of_none e h)]
  exact e
theorem copy_run {K : PySem.W.Frag} {n : Nat} {vs : List V} {H : Hp} {Q : VK} {E : XK} (h : spCopy K (n + 1) vs H Q E) : tCopyB K (spCopy K n) { nx := fun _ H' => Q .non H', rt := Q } (L2.start ["value", "found", "key", "item"] vs) H := by
  obtain ⟨G, d, v, rfl, s, r, ok, dp, k⟩ := h
  have ho : isObj d = false := by
    cases d <;> first | rfl | cases ok
  -- what is copied is no list, no tuple
  have plain : isTy .list d = false → isTy .tuple d = false → isTy .dict d = false → (∀ H', Same H H' → Q v H') → tCopyB K (spCopy K n) { nx := fun _ H' => Q .non H', rt := Q } (L2.start ["value", "found", "key", "item"] [v]) H := fun h1 h2 h3 q => by
    refine isi_var s r ho rfl ?_
    rw [h1]
    refine isi_var s r ho rfl ?_
    rw [h2]
    intro p hp
    refine isi_var (s.trans (same_upd hp)) r ho rfl ?_
    rw [h3]
    refine isi_var (s.trans (same_upd hp)) r ho rfl ?_
    rw [h3]
    exact ⟨v, rfl, q _ (same_upd hp)⟩
  cases d with
  | non => exact plain rfl rfl rfl fun H' s' => k v H' [] s' (.imm (fun z => nomatch z) rfl r) (fun _ z => (List.not_mem_nil z).elim) List.nodup_nil
  | bl _ => exact plain rfl rfl rfl fun H' s' => k v H' [] s' (.imm (fun z => nomatch z) rfl r) (fun _ z => (List.not_mem_nil z).elim) List.nodup_nil
  | int _ => exact plain rfl rfl rfl fun H' s' => k v H' [] s' (.imm (fun z => nomatch z) rfl r) (fun _ z => (List.not_mem_nil z).elim) List.nodup_nil
  | str _ => exact plain rfl rfl rfl fun H' s' => k v H' [] s' (.imm (fun z => nomatch z) rfl r) (fun _ z => (List.not_mem_nil z).elim) List.nodup_nil
  | obj _ => cases ok
  | «at» _ _ => cases ok
  | lst ds =>
    obtain ⟨a, ys, rfl, hq, rv⟩ := id r
    refine isi_var s r ho rfl ?_
    obtain ⟨o1, o2⟩ := Bool.and_eq_true_iff.mp (show (decide (ds.length ≤ 10000) && okAs ds) = true from ok)
    show tLcC K (spCopy K n) (L2.start _ _) H _
    refine lcC_ok s rv (.inl hq) rfl rfl o2 (Nat.lt_of_succ_lt_succ dp) (Nat.le_trans (of_decide_eq_true o1) (by decide)) fun l acc cs H' s' hl e t f nd n2 => ?_
    exact k _ H' (l :: cs.flatten) s' (.lst e t) (fun c z => by
      rcases List.mem_cons.mp z with rfl | z
      · exact hl
      · exact f c z) (List.nodup_cons.mpr ⟨nd, n2⟩)
  | tup ds =>
    obtain ⟨a, ys, rfl, hq, rv⟩ := id r
    refine isi_var s r ho rfl ?_
    refine isi_var s r ho rfl ?_
    rw [if_pos (show isTy .tuple (.tup ds) = true from rfl)]
    obtain ⟨o1, o2⟩ := Bool.and_eq_true_iff.mp (show (decide (ds.length ≤ 10000) && okAs ds) = true from ok)
    refine lcC_ok (σ := L2.start ["value", "found", "key", "item"] [.ref a]) (Q := fun x H1 => rTupOf K [x] H1 Q) s rv (.inr hq) rfl rfl o2 (Nat.lt_of_succ_lt_succ dp) (Nat.le_trans (of_decide_eq_true o1) (by decide)) fun l acc cs H' s' hl e t f nd n2 => ?_
    refine ⟨l, acc, rfl, .inl ⟨.inl (.inl e), fun m hm => ?_⟩⟩
    have nm : m ∉ cs.flatten := fun z => t.live m z hm
    refine k _ _ (m :: cs.flatten) (s'.trans (same_upd hm)) (.tup upd_same (t.keep (.same (same_upd hm)))) (fun c z => ?_) (List.nodup_cons.mpr ⟨nm, n2⟩)
    rcases List.mem_cons.mp z with rfl | z
    · cases hb : H c with
      | none => rfl
      | some o => exact nomatch hm.symm.trans (s' _ _ hb)
    · exact f c z
  | dct ks ds =>
    obtain ⟨a, kvs, rfl, ha, hk, rv⟩ := id r
    obtain ⟨o1, o2⟩ := Bool.and_eq_true_iff.mp (show (decide (ks = [.inr "a"]) && isOne ds) = true from ok)
    have o1 : ks = [.inr "a"] := of_decide_eq_true o1
    obtain rfl : ds = [.int 1] := by
      match ds, o2 with
      | [.int i], o2 => rw [show i = 1 from beq_iff_eq.mp o2]
    obtain ⟨x, xs, e1, r1, r2⟩ := rv
    have r1 : x = .int 1 := r1
    have r2 : xs = [] := r2
    subst r1 r2
    obtain rfl : kvs = [(.inr "a", .int 1)] := by
      match kvs, hk, e1 with
      | [], _, e1 => cases e1
      | [(k1, v1)], hk, e1 =>
        have e3 : v1 = .int 1 := (List.cons.inj e1).1
        have e4 : k1 = .inr "a" := (List.cons.inj (hk.trans o1)).1
        rw [e3, e4]
      | _ :: _ :: _, _, e1 => exact nomatch (List.cons.inj e1).2
    refine isi_var s r ho rfl ?_
    refine isi_var s r ho rfl ?_
    intro p hp
    have Ha := s _ _ ha
    have s1 := same_upd (o := .dK []) hp
    have np : a ≠ p := ne_of_none Ha hp
    refine isi_var (s.trans s1) r ho rfl ?_
    refine ⟨a, .dK [(.inr "a", .int 1)], s1 _ _ Ha, trivial, fun od => ?_⟩
    refine ⟨.ref a, rfl, a, od, rfl, .inl ⟨_, upd_same, ?_⟩⟩
    have nn : 0 < n := Nat.lt_of_succ_lt_succ dp
    refine for_it walk_keys (fun i σ' H' => H' a = some (.frz od (.dK [(.inr "a", .int 1)])) ∧ (∀ b o, H b = some o → b ≠ a → H' b = some o) ∧ σ'.length = 4 ∧ σ'[0]? = some (some (.ref a)) ∧ σ'[1]? = some (some (.ref p)) ∧ H' p = some (.dK (([(.inr "a", .int 1)] : List (Key × V)).take i))) ?_ (fun _ _ _ _ z => z.1) ?_ ?_
    · refine ⟨upd_same, fun b o h nb => ?_, rfl, rfl, rfl, ?_⟩
      · rw [upd_ne nb]
        exact s1 _ _ h
      · rw [upd_ne (Ne.symm np), upd_same]
        rfl
    · rintro i x σ' H2 H3 hi ⟨i1, i2, i3, i4, i5, i6⟩ ⟨rfl, k1, v1, ek, rfl⟩
      obtain rfl : i = 0 := Nat.lt_one_iff.mp hi
      cases ek
      have l0 : (σ'.set 2 (some (kV (.inr "a"))))[0]? = some (some (.ref a)) := by rw [List.getElem?_set_ne (by decide)]; exact i4
      have l1 : (σ'.set 2 (some (kV (.inr "a"))))[1]? = some (some (.ref p)) := by rw [List.getElem?_set_ne (by decide)]; exact i5
      have l2 : (σ'.set 2 (some (kV (.inr "a"))))[2]? = some (some (kV (.inr "a"))) := by rw [List.getElem?_set_self (by rw [i3]; decide)]
      refine ⟨.ref a, l0, kV (.inr "a"), l2, a, .int 1, rfl, .inl ⟨_, .inr "a", .inr ⟨od, i1⟩, rfl, rfl⟩, ?_⟩
      refine ⟨fun _ => none, .int 1, .int 1, rfl, fun _ _ z => (nomatch z), rfl, rfl, nn, fun v' H4 c s4 t4 f4 n4 => ?_⟩
      obtain rfl : v' = .int 1 := by
        cases t4 with
        | imm _ _ r => exact r
      refine ⟨.ref p, l1, kV (.inr "a"), l2, p, _, rfl, .k (s4 _ _ i6) (by show 0 < sizeLine; decide), ?_⟩
      refine ⟨?_, fun b o h nb => ?_, ?_, l0, l1, upd_same⟩
      · rw [upd_ne np]
        exact s4 _ _ i1
      · rw [upd_ne (ne_of_none h hp)]
        exact s4 _ _ (i2 b o h nb)
      · rw [List.length_set]
        exact i3
    · rintro σ' H' ⟨i1, i2, i3, i4, i5, i6⟩
      refine ⟨i1, ?_⟩
      have sH : Same H (upd H' a (.dK [(.inr "a", .int 1)])) := fun b o h => by
        by_cases nb : b = a
        · subst nb
          rw [Ha] at h
          cases h
          exact upd_same
        · rw [upd_ne nb]
          exact i2 b o h nb
      refine isi_var (i := 0) (s.trans sH) r ho i4 ?_
      refine ⟨.ref p, i5, k _ _ [p] sH (.dct (kvs := [(.inr "a", .int 1)]) (ds := [.int 1]) (cs := [[]]) ?_ ?_ (.cons (c := []) (d := .int 1) (x := .int 1) (.imm (fun z => nomatch z) rfl rfl) .nil)) (fun c z => ?_) (List.nodup_cons.mpr ⟨List.not_mem_nil, List.nodup_nil⟩)⟩
      · rw [upd_ne (Ne.symm np)]
        exact i6
      · exact o1.symm
      · rw [List.mem_singleton.mp z]
        exact hp
end DW

/-! DwU: things grown: one more member for each list and dict within. -/
namespace DW
open PySem PySem.Spec PyProof.Rows L2

mutual
def grow : D → D
  | .lst ds => .lst (.str "more" :: grows ds)
  | .tup ds => .tup (grows ds)
  | .dct ks ds => .dct (ks ++ [.inr "more"]) (ds ++ [.int 1])
  | .non => .non
  | .bl b => .bl b
  | .int i => .int i
  | .str x => .str x
  | .obj c => .obj c
  | .at a d => .at a d
def grows : List D → List D
  | [] => []
  | x :: xs => grow x :: grows xs
end
mutual
/-- what may be grown -/
def okG : D → Bool
  | .lst ds => decide (ds.length < 10000) && okGs ds
  | .tup ds => decide (ds.length < 10000) && okGs ds
  | .dct ks ds => decide (ks.length ≤ 10000) && !ks.any (fun k => decide (k = .inr "more"))
  | .obj _ => false
  | .at _ _ => false
  | _ => true
def okGs : List D → Bool
  | [] => true
  | x :: xs => okG x && okGs xs
end
theorem grow_leaf {d : D} (h : isC d = false) : grow d = d := by
  cases d <;> first | rfl | cases h
mutual
theorem grow_imm : ∀ {d : D}, imm d = true → grow d = d
  | .tup ds, h => by
    show D.tup (grows ds) = _
    rw [grows_imm h]
  | .non, _ => rfl
  | .bl _, _ => rfl
  | .int _, _ => rfl
  | .str _, _ => rfl
  | .lst _, h => by cases h
  | .obj _, h => by cases h
  | .dct _ _, h => by cases h
  | .at _ _, h => by cases h
theorem grows_imm : ∀ {ds : List D}, imms ds = true → grows ds = ds
  | [], _ => rfl
  | d :: ds, h => by
    have h : (imm d && imms ds) = true := h
    rw [Bool.and_eq_true] at h
    show grow d :: grows ds = _
    rw [grow_imm h.1, grows_imm h.2]
end
theorem grows_snoc : ∀ (l : List D) (d : D), grows (l ++ [d]) = grows l ++ [grow d]
  | [], d => rfl
  | x :: l, d => by
    show grow x :: grows (l ++ [d]) = _
    rw [grows_snoc l d]
    rfl
theorem okGs_at : ∀ {ds : List D} {i : Nat} {d : D}, okGs ds = true → ds[i]? = some d → okG d = true
  | x :: xs, 0, d, h, e => by
    have h : (okG x && okGs xs) = true := h
    rw [Bool.and_eq_true] at h
    cases e
    exact h.1
  | x :: xs, i + 1, d, h, e => by
    have h : (okG x && okGs xs) = true := h
    rw [Bool.and_eq_true] at h
    exact okGs_at h.2 (by simpa using e)
  | [], i, d, h, e => by simp at e
/-- all stays but the soft things at cs -/
def Gf (cs : List Addr) (H H' : Hp) : Prop := ∀ b o, H b = some o → (soft o = true → b ∉ cs) → H' b = some o
section
variable {K : PySem.W.Frag} {H H' H2 : Hp} {cs c2 : List Addr} {b : Bool}
theorem Gf.refl : Gf cs H H := fun _ _ e _ => e
theorem Gf.same (s : Same H H') : Gf cs H H' := fun b o e _ => s b o e
theorem Gf.trans (a : Gf cs H H') (b : Gf cs H' H2) : Gf cs H H2 := fun x o e n => b x o (a x o e n) n
theorem Gf.more (a : Gf cs H H') (h : ∀ b ∈ cs, b ∈ c2) : Gf c2 H H' := fun x o e n => a x o e fun s z => n s (h x z)
theorem Gf.keep (a : Gf cs H H') (h : ∀ b ∈ c2, b ∉ cs) : Keep c2 H H' := fun x o e n => a x o e fun s z => h x (n s) z
/-- members that are containers, picked out -/
inductive Filt : List D → List V → List (List Addr) → List D → List V → List (List Addr) → Prop
  | nil : Filt [] [] [] [] [] []
  | keep {d : D} {ds fs : List D} {x : V} {xs ys : List V} {c : List Addr} {cs es : List (List Addr)} : isC d = true → Filt ds xs cs fs ys es → Filt (d :: ds) (x :: xs) (c :: cs) (d :: fs) (x :: ys) (c :: es)
  | drop {d : D} {ds fs : List D} {x : V} {xs ys : List V} {cs es : List (List Addr)} : isC d = false → Filt ds xs cs fs ys es → Filt (d :: ds) (x :: xs) ([] :: cs) fs ys es
theorem Filt.keep1 : ∀ {ds fs : List D} {xs ys : List V} {cs es : List (List Addr)} {d : D} {x : V} {c : List Addr}, isC d = true → Filt ds xs cs fs ys es → Filt (ds ++ [d]) (xs ++ [x]) (cs ++ [c]) (fs ++ [d]) (ys ++ [x]) (es ++ [c])
  | _, _, _, _, _, _, _, _, _, h, .nil => .keep h .nil
  | _, _, _, _, _, _, _, _, _, h, .keep k f => .keep k (f.keep1 h)
  | _, _, _, _, _, _, _, _, _, h, .drop k f => .drop k (f.keep1 h)
theorem Filt.drop1 : ∀ {ds fs : List D} {xs ys : List V} {cs es : List (List Addr)} {d : D} {x : V}, isC d = false → Filt ds xs cs fs ys es → Filt (ds ++ [d]) (xs ++ [x]) (cs ++ [[]]) fs ys es
  | _, _, _, _, _, _, _, _, h, .nil => .drop h .nil
  | _, _, _, _, _, _, _, _, h, .keep k f => .keep k (f.drop1 h)
  | _, _, _, _, _, _, _, _, h, .drop k f => .drop k (f.drop1 h)
theorem Filt.len : ∀ {ds fs : List D} {xs ys : List V} {cs es : List (List Addr)}, Filt ds xs cs fs ys es → ys.length ≤ ds.length
  | _, _, _, _, _, _, .nil => Nat.le_refl _
  | _, _, _, _, _, _, .keep _ f => Nat.succ_le_succ f.len
  | _, _, _, _, _, _, .drop _ f => Nat.le_succ_of_le f.len
theorem Filt.mem : ∀ {ds fs : List D} {xs ys : List V} {cs es : List (List Addr)}, Filt ds xs cs fs ys es → ∀ d ∈ fs, d ∈ ds ∧ isC d = true
  | _, _, _, _, _, _, .nil, _, z => by cases z
  | _, _, _, _, _, _, .keep k f, d, z => by
    rcases List.mem_cons.mp z with rfl | z
    · exact ⟨List.mem_cons_self, k⟩
    · exact ⟨List.mem_cons_of_mem _ (f.mem d z).1, (f.mem d z).2⟩
  | _, _, _, _, _, _, .drop k f, d, z => ⟨List.mem_cons_of_mem _ (f.mem d z).1, (f.mem d z).2⟩
theorem Filt.flat : ∀ {ds fs : List D} {xs ys : List V} {cs es : List (List Addr)}, Filt ds xs cs fs ys es → es.flatten = cs.flatten
  | _, _, _, _, _, _, .nil => rfl
  | _, _, _, _, _, _, .keep _ f => by rw [List.flatten_cons, List.flatten_cons, f.flat]
  | _, _, _, _, _, _, .drop _ f => by rw [List.flatten_cons, List.nil_append, f.flat]
theorem leaf_cs {d : D} {v : V} {cs : List Addr} (h : isC d = false) (t : Tree K H b d v cs) : cs = [] := by
  cases t with
  | imm _ _ _ => rfl
  | tup _ _ => cases h
  | lst _ _ => cases h
  | dct _ _ _ => cases h
theorem leaf_any {d : D} {v : V} {cs : List Addr} (h : isC d = false) (t : Tree K H b d v cs) : Tree K H' b d v cs := by
  cases t with
  | imm n i r =>
    refine .imm n i ?_
    cases d with
    | non => exact r
    | bl _ => exact r
    | int _ => exact r
    | str _ => exact r
    | obj _ => cases i
    | «at» _ _ => cases i
    | _ => cases h
  | tup _ _ => cases h
  | lst _ _ => cases h
  | dct _ _ _ => cases h
theorem Filt.trees : ∀ {ds fs : List D} {xs ys : List V} {cs es : List (List Addr)}, Filt ds xs cs fs ys es → Trees K H b ds xs cs → Trees K H b fs ys es
  | _, _, _, _, _, _, .nil, t => t
  | _, _, _, _, _, _, .keep _ f, .cons t ts => .cons t (f.trees ts)
  | _, _, _, _, _, _, .drop h f, .cons t ts => f.trees ts
theorem Filt.back : ∀ {ds fs : List D} {xs ys : List V} {cs es : List (List Addr)}, Filt ds xs cs fs ys es → Trees K H b ds xs cs → Trees K H' b (grows fs) ys es → Trees K H' b (grows ds) xs cs
  | _, _, _, _, _, _, .nil, _, u => u
  | _, _, _, _, _, _, .keep h f, .cons t ts, .cons u us => .cons u (f.back ts us)
  | _, _, _, _, _, _, .drop h f, .cons t ts, u => by
    show Trees K H' b (grow _ :: grows _) _ _
    rw [grow_leaf h]
    exact .cons (leaf_any h t) (f.back ts u)
theorem Trees.split : ∀ {A B : List D} {d : D} {ys : List V} {cs : List (List Addr)}, Trees K H b (A ++ d :: B) ys cs → ∃ ya y yb ca c cb, ys = ya ++ y :: yb ∧ cs = ca ++ c :: cb ∧ Trees K H b A ya ca ∧ Tree K H b d y c ∧ Trees K H b B yb cb
  | [], B, d, _, _, .cons (x := x) (xs := xs) (c := c) (cs := cs) t ts => ⟨[], x, xs, [], c, cs, rfl, rfl, .nil, t, ts⟩
  | a :: A, B, d, _, _, .cons (x := x) (xs := xs) (c := c) (cs := cs) t ts => by
    obtain ⟨ya, y, yb, ca, c2, cb, rfl, rfl, h1, h2, h3⟩ := Trees.split (A := A) ts
    exact ⟨x :: ya, y, yb, c :: ca, c2, cb, rfl, rfl, .cons t h1, h2, h3⟩
end
def rIns : V → List V → Hp → VK → Prop := fun x vs H Q => ∃ (l : Addr) (xs : List V) (i : Int) (y : V), x = .ref l ∧ vs = [.int i, y] ∧ H l = some (.lst xs) ∧ xs.length < sizeLine ∧ 0 ≤ i ∧ i < 2 ^ 63 ∧ Q .non (upd H l (.lst (xs.take i.toNat ++ [y] ++ xs.drop i.toNat)))
theorem mt_ins {X : Cx} : MtR X "list.insert" rIns := mt_insert
/-- what growing promises -/
def spGrown (K : PySem.W.Frag) (n : Nat) : Sp := fun vs H Q _ => ∃ b d v cs, vs = [v] ∧ Tree K H b d v cs ∧ cs.Nodup ∧ okG d = true ∧ dpt d < n ∧ ∀ v' H', Gf cs H H' → Tree K H' b (grow d) v cs → Q v' H'
def tGrownB (K : PySem.W.Frag) (sp : Sp) : TS :=
  tSeq (tIfS (tIsi K (tVar 0) .list) (tDrop (tBM K "list" rIns (tVar 0) (tCons (tC (.int 0)) (tCons (tC (.str "more")) tNil)))) tNext)
  (tSeq (tIfS (tIsi K (tVar 0) .dict) (sDPut (tVar 0) (tC (.str "more")) (tC (.int 1))) tNext)
    (tIfS (tIsis K (tVar 0) [.list, .tuple]) (tFor (iSeq K (tLc (iSeq K (tVar 0)) (gName 1) (tIsis K (tVar 1) [.list, .tuple, .dict]) (tVar 1) [1])) (gName 1) (tDrop (tCallSD sp [] E0 (tCons (tVar 1) tNil)))) tNext))
theorem isC_ty {d : D} (h : isObj d = false) : ([Ty.list, .tuple, .dict].any fun t => isTy t d) = isC d := by
  cases d <;> first | rfl | cases h
theorem Trees.get {K : PySem.W.Frag} {H : Hp} {b : Bool} : ∀ {ds : List D} {xs : List V} {cs : List (List Addr)} {i : Nat} {x : V}, Trees K H b ds xs cs → xs[i]? = some x → ∃ d c, ds[i]? = some d ∧ cs[i]? = some c ∧ Tree K H b d x c
  | _, _, _, 0, _, .cons t _, e => by
    cases e
    exact ⟨_, _, rfl, rfl, t⟩
  | _, _, _, i + 1, _, .cons _ ts, e => Trees.get (i := i) ts (by simpa using e)
  | _, _, _, i, _, .nil, e => by simp at e
theorem okG_obj {d : D} (h : okG d = true) : isObj d = false := by
  cases d <;> first | rfl | cases h
theorem nodup_mid {ca cb : List (List Addr)} {c : List Addr} (h : (ca ++ c :: cb).flatten.Nodup) : c.Nodup ∧ (∀ b ∈ ca.flatten, b ∉ c) ∧ ∀ b ∈ cb.flatten, b ∉ c := by
  rw [List.flatten_append, List.flatten_cons] at h
  obtain ⟨h1, h2, h3⟩ := List.nodup_append.mp h
  obtain ⟨h4, h5, h6⟩ := List.nodup_append.mp h2
  exact ⟨h4, fun b z z2 => h3 b z b (List.mem_append_left _ z2) rfl, fun b z z2 => h6 b z2 b z rfl⟩
structure GmI (H : Hp) (Dl : Addr) (ds : List D) (xs : List V) (cs : List (List Addr)) (i : Nat) (H' : Hp) : Prop where
  ex : ∃ acc fs es, H' Dl = some (.lst acc) ∧ Same H H' ∧ Filt (ds.take i) (xs.take i) (cs.take i) fs acc es
theorem gm_step {K : PySem.W.Frag} {b : Bool} {H : Hp} {σ : L2.St} {xs : List V} {ds : List D} {cs : List (List Addr)} (t : Trees K H b ds xs cs) (ok : okGs ds = true) (sz : ds.length ≤ 10000) (h3 : σ.length = 2) (Dl : Addr) (hD : H Dl = none) (i : Nat) (x : V) (H' : Hp) (ex : xs[i]? = some x) (I : GmI H Dl ds xs cs i H') :
    gName 1 x (wipe σ [1]) H' fun σ2 H2 => wipe σ2 [1] = wipe σ [1] ∧ tIsis K (tVar 1) [.list, .tuple, .dict] σ2 H2 fun b H3 =>
      if b = true then tVar 1 σ2 H3 fun y H4 => ∃ acc, H4 Dl = some (.lst acc) ∧ acc.length < sizeLine ∧ GmI H Dl ds xs cs (i + 1) (upd H4 Dl (.lst (acc ++ [y]))) else GmI H Dl ds xs cs (i + 1) H3 := by
  obtain ⟨acc, fs, es, e1, e2, f⟩ := I
  obtain ⟨d, c, ed, ec, td⟩ := t.get ex
  have ho := okG_obj (okGs_at ok ed)
  have lv : ((wipe σ [1]).set 1 (some x))[1]? = some (some x) := by
    rw [List.getElem?_set_self]
    show 1 < (σ.set 1 none).length
    rw [List.length_set, h3]
    decide
  refine ⟨by simp [wipe, List.set_set], ?_⟩
  refine isis_var (by decide) e2 td.rep ho lv fun q hq => ?_
  rw [isC_ty ho]
  have e1' : (upd H' q (.tup ([Ty.list, .tuple, .dict].map fun t => V.ty t.nm))) Dl = some (.lst acc) := by
    rw [upd_ne (ne_of_none e1 hq)]
    exact e1
  have e2' : Same H (upd H' q (.tup ([Ty.list, .tuple, .dict].map fun t => V.ty t.nm))) := e2.trans (same_upd hq)
  have hi : i < ds.length := (List.getElem?_eq_some_iff.mp ed).1
  cases hc : isC d with
  | true =>
    refine ⟨x, lv, acc, e1', ?_, acc ++ [x], fs ++ [d], es ++ [c], upd_same, fun b o h => ?_, ?_⟩
    · have := f.len
      rw [List.length_take] at this
      have : sizeLine = 16777216 := sizeLine_eq
      omega
    · rw [upd_ne (ne_of_none h hD)]
      exact e2' _ _ h
    · rw [take_snoc ed, take_snoc ex, take_snoc ec]
      exact f.keep1 hc
  | false =>
    refine ⟨acc, fs, es, e1', e2', ?_⟩
    rw [take_snoc ed, take_snoc ex, take_snoc ec, leaf_cs hc td]
    exact f.drop1 hc
theorem drop_cons {α : Type} : ∀ {l : List α} {i : Nat} {x : α}, l[i]? = some x → l.drop i = x :: l.drop (i + 1)
  | y :: l, 0, x, e => by cases e; rfl
  | y :: l, i + 1, x, e => drop_cons (l := l) (i := i) (by simpa using e)
  | [], i, x, e => by simp at e
theorem grows_len : ∀ l : List D, (grows l).length = l.length
  | [] => rfl
  | _ :: l => congrArg Nat.succ (grows_len l)
theorem Trees.lencs {K : PySem.W.Frag} {H : Hp} {b : Bool} : ∀ {ds : List D} {xs : List V} {cs : List (List Addr)}, Trees K H b ds xs cs → cs.length = xs.length
  | _, _, _, .nil => rfl
  | _, _, _, .cons _ ts => congrArg Nat.succ ts.lencs
/-- the walk over the members -/
theorem grow_members {K : PySem.W.Frag} {b : Bool} {n : Nat} {H : Hp} {σ : L2.St} {p : Addr} {ds : List D} {xs : List V} {cs : List (List Addr)} {Dn : Ends} (hq : (∀ H', Same H H' → SqL K H' p xs) ∨ ∀ H', Same H H' → SqT K H' p xs)
    (t : Trees K H b ds xs cs) (nd : cs.flatten.Nodup) (ok : okGs ds = true) (dp : dpts ds < n) (sz : ds.length ≤ 10000) (h0 : σ[0]? = some (some (.ref p))) (h3 : σ.length = 2)
    (k : ∀ σ' H', Gf cs.flatten H H' → Trees K H' b (grows ds) xs cs → Dn.nx σ' H') :
    tFor (iSeq K (tLc (iSeq K (tVar 0)) (gName 1) (tIsis K (tVar 1) [.list, .tuple, .dict]) (tVar 1) [1])) (gName 1) (tDrop (tCallSD (spGrown K n) [] E0 (tCons (tVar 1) tNil))) Dn σ H := by
  have zero : ∀ Dl, H Dl = none → GmI H Dl ds xs cs 0 (upd H Dl (.lst [])) := fun Dl hD => ⟨[], [], [], upd_same, same_upd hD, .nil⟩
  have done : ∀ Dl, H Dl = none → ∀ H', GmI H Dl ds xs cs xs.length H' → ∃ a, V.ref Dl = .ref a ∧ ((∃ ys, SqL K H' a ys) ∧ (∃ W : Nat → Nat → L2.St → Hp → Prop, (∃ m, W 0 m σ H') ∧ ∀ i m σ H, W i m σ H →
      ((Itl K a).stop i H ∧ Dn.nx σ H) ∨ ((Itl K a).go i H ∧ ∃ N : L2.St → Hp → Prop, (∀ σ' H', N σ' H' → ∃ m', m' < m ∧ W (i + 1) m' σ' H') ∧ ∀ x H', (Itl K a).yld i H x H' → gName 1 x σ H' fun σ2 H2 => tDrop (tCallSD (spGrown K n) [] E0 (tCons (tVar 1) tNil)) { Dn with nx := N, ct := N, bk := Dn.nx } σ2 H2)) ∨
      (∃ ys, SqT K H' a ys) ∧ (∃ W : Nat → Nat → L2.St → Hp → Prop, (∃ m, W 0 m σ H') ∧ ∀ i m σ H, W i m σ H →
      ((Itt K a).stop i H ∧ Dn.nx σ H) ∨ ((Itt K a).go i H ∧ ∃ N : L2.St → Hp → Prop, (∀ σ' H', N σ' H' → ∃ m', m' < m ∧ W (i + 1) m' σ' H') ∧ ∀ x H', (Itt K a).yld i H x H' → gName 1 x σ H' fun σ2 H2 => tDrop (tCallSD (spGrown K n) [] E0 (tCons (tVar 1) tNil)) { Dn with nx := N, ct := N, bk := Dn.nx } σ2 H2))) := fun Dl hD H' ⟨acc, fs, es, e1, e2, f⟩ => by
    have lc : cs.length = xs.length := t.lencs
    rw [← t.len, List.take_length, t.len, List.take_length, ← lc, List.take_length] at f
    refine ⟨Dl, rfl, .inl ⟨⟨acc, .inl (.inl e1)⟩, ?_⟩⟩
    have ft := (f.trees t)
    refine for_list (xs := acc) (fun i σ' H'' => σ'.length = 2 ∧ Gf cs.flatten H H'' ∧ H'' Dl = some (.lst acc) ∧ Trees K H'' b (grows (fs.take i) ++ fs.drop i) acc es) ?_ (fun i σ' H'' _ z => .inl (.inl z.2.2.1)) ?_ ?_
    · exact ⟨h3, .same e2, e1, ft.keep (.same e2)⟩
    · rintro i x σ' H2 ex ⟨i1, i2, i3, i4⟩
      obtain ⟨d, c0, ed, ec0, _⟩ := ft.get ex
      rw [drop_cons ed] at i4
      obtain ⟨ya, y, yb, ca, c, cb, ey, ec, t1, t2, t3⟩ := i4.split
      have hi : i < fs.length := (List.getElem?_eq_some_iff.mp ed).1
      have li : ya.length = i := by
        rw [← t1.len, grows_len, List.length_take]
        omega
      have xy : x = y := by
        rw [ey, ← li, List.getElem?_append_right (Nat.le_refl _), Nat.sub_self] at ex
        exact (Option.some.inj ex).symm
      subst xy
      have fl := f.flat
      rw [ec] at fl
      obtain ⟨n1, n2, n3⟩ := nodup_mid (by rw [fl]; exact nd)
      have inc : ∀ b ∈ c, b ∈ cs.flatten := fun b z => by
        rw [← fl, List.flatten_append, List.flatten_cons]
        exact List.mem_append_right _ (List.mem_append_left _ z)
      have mem := f.mem d (List.mem_of_getElem? ed)
      obtain ⟨j, hj⟩ := List.getElem?_of_mem mem.1
      refine ⟨x, by rw [List.getElem?_set_self]; rw [i1]; decide, _, d, x, c, rfl, t2, n1, okGs_at ok hj, Nat.lt_of_le_of_lt (dpts_at hj) dp, fun v' H4 g4 t4 => ?_⟩
      refine ⟨by rw [List.length_set]; exact i1, i2.trans (g4.more inc), ?_, ?_⟩
      · exact g4 _ _ i3 fun _ z => t.live _ (inc _ z) hD
      · rw [take_snoc ed, grows_snoc, List.append_assoc, ey, ec]
        exact (t1.keep (g4.keep n2)).app (.cons t4 (t3.keep (g4.keep n3)))
    · rintro σ' H2 ⟨i1, i2, i3, i4⟩
      rw [← ft.len, List.take_length, List.drop_length, List.append_nil] at i4
      exact k σ' H2 i2 (f.back t i4)
  rcases hq with hq | hq
  · refine ⟨.ref p, h0, p, rfl, .inl ⟨⟨xs, hq H (.refl H)⟩, fun Dl hD => ?_⟩⟩
    exact lc_list (xs := xs) (GmI H Dl ds xs cs) (zero Dl hD) (fun i H' _ ⟨_, _, _, _, e2, _⟩ => hq H' e2) (fun i x H' ex hi => gm_step t ok sz h3 Dl hD i x H' ex hi) (done Dl hD)
  · refine ⟨.ref p, h0, p, rfl, .inr ⟨⟨xs, hq H (.refl H)⟩, fun Dl hD => ?_⟩⟩
    exact lc_tup (xs := xs) (GmI H Dl ds xs cs) (zero Dl hD) (fun i H' _ ⟨_, _, _, _, e2, _⟩ => hq H' e2) (fun i x H' ex hi => gm_step t ok sz h3 Dl hD i x H' ex hi) (done Dl hD)
theorem imms_trees {K : PySem.W.Frag} {H : Hp} : ∀ {ds : List D} {xs : List V}, imms ds = true → Reps K H ds xs → ∃ cs, Trees K H true ds xs cs ∧ cs.flatten = []
  | [], xs, _, r => by
    have r : xs = [] := r
    subst r
    exact ⟨[], .nil, rfl⟩
  | d :: ds, xs, w, r => by
    obtain ⟨x, ys, rfl, r1, r2⟩ := r
    have w : (imm d && imms ds) = true := w
    rw [Bool.and_eq_true] at w
    obtain ⟨cs, t, e⟩ := imms_trees w.2 r2
    exact ⟨[] :: cs, .cons (.imm (fun _ => rfl) w.1 r1) t, e⟩
theorem notin_val {kvs : List (Key × V)} {k : Key} (h : (kvs.map (·.1)).any (fun j => decide (j = k)) = false) : valV kvs k = none := by
  unfold valV
  rw [List.find?_eq_none.mpr ?_]
  · rfl
  · intro p hp e
    have : (kvs.map (·.1)).any (fun j => decide (j = k)) = true := List.any_eq_true.mpr ⟨p.1, List.mem_map_of_mem hp, e⟩
    rw [h] at this
    cases this
theorem grown_run {K : PySem.W.Frag} {n : Nat} {vs : List V} {H : Hp} {Q : VK} {E : XK} (h : spGrown K (n + 1) vs H Q E) : tGrownB K (spGrown K n) { nx := fun _ H' => Q .non H', rt := Q } (L2.start ["value", "one"] vs) H := by
  obtain ⟨b, d, v, cs, rfl, t, nd, ok, dp, k⟩ := h
  have ho := okG_obj ok
  have big : sizeLine = 16777216 := sizeLine_eq
  have plain : isC d = false → tGrownB K (spGrown K n) { nx := fun _ H' => Q .non H', rt := Q } (L2.start ["value", "one"] [v]) H := fun hc => by
    have e1 : isTy .list d = false := by cases d <;> first | rfl | exact Bool.noConfusion (show false = true from ok) | exact Bool.noConfusion (show true = false from hc)
    have e2 : isTy .dict d = false := by cases d <;> first | rfl | exact Bool.noConfusion (show false = true from ok) | exact Bool.noConfusion (show true = false from hc)
    have e3 : ([Ty.list, .tuple].any fun t => isTy t d) = false := by cases d <;> first | rfl | exact Bool.noConfusion (show false = true from ok) | exact Bool.noConfusion (show true = false from hc)
    refine isi_var (.refl H) t.rep ho rfl ?_
    rw [e1]
    refine isi_var (.refl H) t.rep ho rfl ?_
    rw [e2]
    refine isis_var (by decide) (.refl H) t.rep ho rfl fun p hp => ?_
    rw [e3]
    refine k _ _ (.same (same_upd hp)) ?_
    rw [grow_leaf hc]
    exact leaf_any hc t
  cases t with
  | imm nc i r =>
    cases d with
    | tup ds =>
      obtain ⟨a, xs, rfl, hq, rv⟩ := id r
      obtain ⟨o1, o2⟩ := Bool.and_eq_true_iff.mp (show (decide (ds.length < 10000) && okGs ds) = true from ok)
      obtain ⟨cs, t, fl⟩ := imms_trees (show imms ds = true from i) rv
      refine isi_var (.refl H) r ho rfl ?_
      refine isi_var (.refl H) r ho rfl ?_
      refine isis_var (by decide) (.refl H) r ho rfl fun p hp => ?_
      rw [if_pos (show ([Ty.list, .tuple].any fun t => isTy t (.tup ds)) = true from rfl)]
      have s1 := same_upd (o := .tup ([Ty.list, .tuple].map fun t => V.ty t.nm)) hp
      refine grow_members (.inr fun H' s' => Same.t (s1.trans s') hq) (t.keep (.same s1)) (by rw [fl]; exact List.nodup_nil) o2 (Nat.lt_of_succ_lt_succ dp) (Nat.le_of_lt (of_decide_eq_true o1)) rfl rfl fun σ' H' g t' => ?_
      rw [fl] at g
      have g2 : Gf [] H H' := (Gf.same s1).trans g
      refine k _ H' g2 ?_
      rw [grow_imm i]
      exact .imm nc i (imm_keep (g2.keep (c2 := []) fun _ z => (List.not_mem_nil z).elim) i r)
    | non => exact plain rfl
    | bl _ => exact plain rfl
    | int _ => exact plain rfl
    | str _ => exact plain rfl
    | lst _ => cases i
    | obj _ => cases i
    | dct _ _ => cases i
    | «at» _ _ => cases i
  | @tup ds a xs cs hx t =>
    have r : Rep K H (.tup ds) (.ref a) := ⟨a, xs, rfl, .inl (.inl hx), t.rep⟩
    obtain ⟨o1, o2⟩ := Bool.and_eq_true_iff.mp (show (decide (ds.length < 10000) && okGs ds) = true from ok)
    obtain ⟨n1, n2⟩ := List.nodup_cons.mp nd
    refine isi_var (.refl H) r ho rfl ?_
    refine isi_var (.refl H) r ho rfl ?_
    refine isis_var (by decide) (.refl H) r ho rfl fun p hp => ?_
    rw [if_pos (show ([Ty.list, .tuple].any fun t => isTy t (.tup ds)) = true from rfl)]
    have s1 := same_upd (o := .tup ([Ty.list, .tuple].map fun t => V.ty t.nm)) hp
    refine grow_members (.inr fun H' s' => .inl (.inl (s' _ _ (s1 _ _ hx)))) (t.keep (.same s1)) n2 o2 (Nat.lt_of_succ_lt_succ dp) (Nat.le_of_lt (of_decide_eq_true o1)) rfl rfl fun σ' H' g t' => ?_
    have g2 : Gf cs.flatten H H' := (Gf.same s1).trans g
    exact k _ H' (g2.more fun _ z => List.mem_cons_of_mem _ z) (.tup (g2 _ _ hx fun z => nomatch z) t')
  | @lst ds a xs cs hx t =>
    have r : Rep K H (.lst ds) (.ref a) := ⟨a, xs, rfl, .inl (.inl hx), t.rep⟩
    obtain ⟨o1, o2⟩ := Bool.and_eq_true_iff.mp (show (decide (ds.length < 10000) && okGs ds) = true from ok)
    have o1 := of_decide_eq_true o1
    obtain ⟨n1, n2⟩ := List.nodup_cons.mp nd
    refine isi_var (.refl H) r ho rfl ?_
    refine ⟨.ref a, rfl, .inl ⟨rfl, xs, .inl (.inl hx)⟩, a, xs, 0, .str "more", rfl, rfl, hx, by rw [← t.len]; omega, by decide, by decide, ?_⟩
    show tSeq _ _ _ _ (upd H a (.lst (.str "more" :: xs)))
    have g1 : Gf [a] H (upd H a (.lst (.str "more" :: xs))) := fun b o e nb => by
      by_cases hb : b = a
      · subst hb
        rw [hx] at e
        cases e
        exact absurd (List.mem_singleton.mpr rfl) (nb rfl)
      · rw [upd_ne hb]
        exact e
    have t1 : Trees K (upd H a (.lst (.str "more" :: xs))) b ds xs cs := t.keep (g1.keep fun b z e => n1 (List.mem_singleton.mp e ▸ z))
    have t2 : Trees K (upd H a (.lst (.str "more" :: xs))) b (.str "more" :: ds) (.str "more" :: xs) ([] :: cs) := .cons (.imm (fun z => nomatch z) rfl rfl) t1
    have hx1 : upd H a (.lst (.str "more" :: xs)) a = some (.lst (.str "more" :: xs)) := upd_same
    have r1 : Rep K (upd H a (.lst (.str "more" :: xs))) (.lst (.str "more" :: ds)) (.ref a) := ⟨a, _, rfl, .inl (.inl hx1), t2.rep⟩
    generalize upd H a (.lst (.str "more" :: xs)) = H1 at *
    refine isi_var (.refl H1) r1 rfl rfl ?_
    refine isis_var (by decide) (.refl H1) r1 rfl rfl fun p hp => ?_
    rw [if_pos (show ([Ty.list, .tuple].any fun t => isTy t (.lst (.str "more" :: ds))) = true from rfl)]
    have s1 := same_upd (o := .tup ([Ty.list, .tuple].map fun t => V.ty t.nm)) hp
    refine grow_members (.inl fun H' s' => .inl (.inl (s' _ _ (s1 _ _ hx1)))) (t2.keep (.same s1)) n2 (by show (okG (.str "more") && okGs ds) = true; rw [o2]; rfl) (by show max 0 (dpts ds) < n; rw [Nat.zero_max]; exact Nat.lt_of_succ_lt_succ dp) o1 rfl rfl fun σ' H' g t' => ?_
    have g2 : Gf cs.flatten H1 H' := (Gf.same s1).trans g
    exact k _ H' ((g1.more fun b z => by rw [List.mem_singleton.mp z]; exact List.mem_cons_self).trans (g2.more fun _ z => List.mem_cons_of_mem _ z)) (.lst (cs := [] :: cs) (g2 _ _ hx1 fun _ => n1) t')
  | @dct ks ds a kvs cs hx hk t =>
    have r : Rep K H (.dct ks ds) (.ref a) := ⟨a, kvs, rfl, hx, hk, t.rep⟩
    obtain ⟨o1, o2⟩ := Bool.and_eq_true_iff.mp (show (decide (ks.length ≤ 10000) && !ks.any (fun k => decide (k = .inr "more"))) = true from ok)
    have o1 := of_decide_eq_true o1
    obtain ⟨n1, n2⟩ := List.nodup_cons.mp nd
    have nv : valV kvs (.inr "more") = none := notin_val (by rw [hk]; simpa using o2)
    refine isi_var (.refl H) r ho rfl ?_
    refine isi_var (.refl H) r ho rfl ?_
    have lk : kvs.length ≤ 10000 := by
      rw [← hk, List.length_map] at o1
      exact o1
    refine ⟨.ref a, rfl, a, _, rfl, DPut.k (k := .inr "more") hx (by omega), ?_⟩
    rw [putK_new _ nv]
    have g1 : Gf [a] H (upd H a (.dK (kvs ++ [(.inr "more", .int 1)]))) := fun b o e nb => by
      by_cases hb : b = a
      · subst hb
        rw [hx] at e
        cases e
        exact absurd (List.mem_singleton.mpr rfl) (nb rfl)
      · rw [upd_ne hb]
        exact e
    have t1 : Trees K (upd H a (.dK (kvs ++ [(.inr "more", .int 1)]))) b ds (kvs.map (·.2)) cs := t.keep (g1.keep fun b z e => n1 (List.mem_singleton.mp e ▸ z))
    have hx1 : upd H a (.dK (kvs ++ [(.inr "more", .int 1)])) a = some (.dK (kvs ++ [(.inr "more", .int 1)])) := upd_same
    have t3 : Trees K (upd H a (.dK (kvs ++ [(.inr "more", .int 1)]))) b (ds ++ [.int 1]) ((kvs ++ [((.inr "more" : Key), V.int 1)]).map (·.2)) (cs ++ [[]]) := by
      rw [List.map_append]
      exact t1.snoc (.imm (fun z => nomatch z) rfl rfl)
    generalize upd H a (.dK (kvs ++ [(.inr "more", .int 1)])) = H1 at *
    have tr : Tree K H1 b (.dct (ks ++ [.inr "more"]) (ds ++ [.int 1])) (.ref a) (a :: (cs ++ [[]]).flatten) := .dct hx1 (by rw [List.map_append, hk]; rfl) t3
    have fl : (cs ++ [[]]).flatten = cs.flatten := by rw [List.flatten_append, List.flatten_cons, List.flatten_nil, List.append_nil, List.append_nil]
    rw [fl] at tr
    refine isis_var (by decide) (.refl H1) tr.rep rfl rfl fun p hp => ?_
    rw [if_neg (by exact fun z => nomatch z)]
    refine k _ _ ((g1.more fun b z => by rw [List.mem_singleton.mp z]; exact List.mem_cons_self).trans (.same (same_upd hp))) ?_
    exact tr.keep (.same (same_upd hp))
end DW

/-! DwV: isinstance of an exception that has a dict of its own. -/
namespace DW
open PySem PySem.Spec PyProof.Rows L2

section
variable {prog : Program} {w : World} {A : Around} {E : Value → Shared → Prop} {s : Shared} {K : PySem.W.Frag} {x D : Addr} {ox : Obj} {od : Option Obj}
theorem findObj_dat {C : Addr} {nm : Str} {a g : Value} (h1 : (PySem.W.clsIn K C).isSome = true) (h2 : PySem.W.findIn K (.ref C) nm = some (some a)) (h3 : PySem.W.specialIn K a "__get__" = some (some g)) (h4 : PySem.W.takesIn K a = some true) : PySem.W.findObj K C od nm = some (.bind g a) := by
  obtain ⟨c, e⟩ := Option.isSome_iff_exists.mp h1
  unfold PySem.W.findObj
  rw [e, Option.bind_some, h2, Option.bind_some]
  simp [h3, h4]
/-- .. where its class is asked of the thing itself -/
theorem own_class (C : ExcC K D) {Q : Option Value → Shared → Prop} (kin : K.In s.heap) (I : PySem.W.InstAt s.heap x ox D od) (fin : Q (some (.ref D)) { s with toks := s.toks + 1 }) : wpAny (model prog w) A (getAttr? (.ref x) "__class__") Q E s := by
  have cls : (PySem.W.clsIn K D).isSome = true := by
    obtain ⟨c, e, _⟩ := PySem.W.any_some C.hd
    rw [e] <;> rfl
  have fo := findObj_dat (od := od) cls C.ha C.hn C.ht
  obtain ⟨hh, gg, dd, tt, oo⟩ := s
  have isX : PySem.W.Looks (model prog w) hh (isInstance (.ref x) (.type "BaseException")) true := (I.type (M := model prog w)).andThen (PySem.W.looks_subIn kin C.hs)
  have q1 : (Value.builtin "BaseException.__getattribute__" == Value.builtin "object.__getattribute__") = false := by decide +kernel
  have q2 : (onTheHeap (Value.ref D) && Value.builtin "BaseException.__getattribute__" == Value.builtin "object.__getattribute__") = false := by
    rw [q1] <;> rfl
  unfold getAttr? getAttrBy? getAttrBy
  apply wpAny_bind; apply wpAny_mkText; apply wpAny_bind; apply wpAny_attempt; apply wpAny_holding; apply wpAny_bind
  refine (I.type (M := model prog w)).at (wpAny_bind ((PySem.W.looks_findIn (M := model prog w) kin C.hg).at ?_))
  refine (?_ : wpAny _ _ (if (onTheHeap (Value.ref D) && Value.builtin "BaseException.__getattribute__" == Value.builtin "object.__getattribute__") = true then _ else _) _ _ _)
  rw [q2, if_neg Bool.false_ne_true]
  unfold getAttrByItsOwn hookBefore
  apply wpAny_bind
  rw [if_pos (show onTheHeap (Value.ref D) = true from rfl)]
  refine (PySem.W.looks_findIn (M := model prog w) kin C.hk).at (wpAny_bind (wpAny_attempt (wpAny_holding ?_)))
  unfold callGetattribute
  rw [show (false && onTheHeap (Value.builtin "BaseException.__getattribute__")) = false from rfl, if_neg Bool.false_ne_true]
  unfold boundAndCalled
  rw [PySem.F.excAttr_ValueError.ga.bind (.ref x)]
  refine wpAny_bind (wpAny_pure (?_ : wpAny _ _ (call (.builtin "BaseException.__getattribute__") [.ref x, .str "__class__" tt]) _ _ _))
  apply wpAny_call
  refine codeAny_call_builtin PySem.F.excAttr_ValueError.ga.plain PySem.F.entry_bexc_ga (@PySem.W.check_slot (model prog w) _ _ ⟨hh, gg, dd, tt + 1, oo⟩ "BaseException.__getattribute__" "BaseException" "__getattribute__" (.ref x) [.str "__class__" tt] [] _ (by decide +kernel) (by decide +kernel) isX (PySem.F.args_bexc_ga (.ref x) (.str "__class__" tt)) ?_)
  unfold Builtin.«object.__getattribute__»
  apply wpAny_bind
  refine wpAny_of_eq (a := ((Value.ref x : Value), [Value.str "__class__" tt])) (by first | rfl | (simp only [slotArgs]; rfl)) (wpAny_bind (wpAny_pure (wpAny_bind ((I.type (M := model prog w)).at (wpAny_bind ((PySem.W.looks_find (M := model prog w) kin I fo).at ?_))))))
  refine (?_ : wpAny _ _ (holding [Value.builtin "object.__class__"] (call (.builtin "getset_descriptor.__get__") [.builtin "object.__class__", .ref x, .ref D]) >>= ret) _ _ _)
  apply wpAny_bind; apply wpAny_holding; apply wpAny_call
  refine PySem.W.class_get (s := ⟨hh, gg, dd, tt + 1, oo⟩) (ox := ox) (od := od) kin I C.hm (wpAny_pure (?_ : wpAny _ _ (handedOut (.ref D)) _ _ _))
  rw [PySem.W.handedOut_of (v := .ref D) rfl]
  first
    | exact wpAny_pure (wpAny_pure fin)
    | exact wpAny_pure fin
    | exact wpAny_pure (wpAny_bind (wpAny_pure (wpAny_pure fin)))
theorem kitO (C : ExcC K D) : PySem.W.KitX K (.ref x) (.ref D) (fun h => PySem.W.InstAt h x ox D od) := by
  have base := PySem.W.handS_kitx_exc (x := x) (ox := ox) C.hg C.hk C.hs C.hd C.ha C.hn C.ht C.hm
  refine ⟨fun _ _ _ I => I.type, fun M h X I => ?_, base.ne, fun X I k => own_class C X I k⟩
  obtain ⟨cd, e, _⟩ := PySem.W.any_some C.hd
  unfold PySem.W.clsIn at e
  split at e
  · next ho =>
    intro A2 Q2 E2 s2 old fin
    unfold isType loadHead
    apply wpAny_bind
    exact wpAny_loadPart (old _ _ (X _ _ ho)) (wpAny_pure fin)
  · cases e
end
/-- isinstance of the exception that a suite holds, its dict at dd -/
def rIsO (K : PySem.W.Frag) (D a dd : Addr) : List V → Hp → VK → Prop := fun xs H Q => (∃ fs, H dd = some (.xd fs)) ∧ rIsE K D a xs H Q
theorem call_isO {X : Cx} {a D dd : Addr} {oe : Obj} {pn : List (Addr × Obj)} (C : ExcC X.K D) (hz : Zc (.ref D) (some dd) oe) (hf : ∃ vs, oe.data = .fields vs) : CallR (X.suite a ((a, oe) :: pn)) (.builtin "isinstance") (rIsO X.K D a dd) := by
  rintro pins s σ H xs us Q I r ⟨⟨fs, hd⟩, c, cv, b, rfl, hc, e, q⟩
  obtain ⟨u1, u2, rfl, r1, r2⟩ := vals2 r
  obtain rfl : u1 = Value.ref a := r1
  obtain rfl := hc _ r2
  have at_ := (I.pin (a, oe) (List.mem_append_left _ List.mem_cons_self)).1
  obtain ⟨mA, ns, _⟩ := (show ObjOk X.prog X.w H s.heap dd (.xd fs) from I.hok dd _ hd)
  obtain ⟨od, ho, _⟩ := lookIn_ns ns
  obtain ⟨vs, hv⟩ := hf
  have J : PySem.W.InstAt s.heap a oe D (some od) := ⟨at_, hz.1, by unfold PySem.W.notCls; rw [hv] <;> rfl, by rw [hz.2]; exact ho⟩
  exact PySem.W.kia_one (kitO C) I.kIn J e (fun z => nomatch z) fun tk => ⟨.bl b, H, I.tok tk, rfl, q⟩
end DW

/-! DwX: asking with a copy, and telling what came. -/
namespace DW
open PySem PySem.Spec PyProof.Rows L2

/-- isinstance(e, T) in a suite, whatever the suite holds -/
def rIsS (K : PySem.W.Frag) (a : Addr) (cls : Value) (d : Option Addr) : List V → Hp → VK → Prop := fun xs H Q => ∃ D dd, cls = .ref D ∧ d = some dd ∧ ExcC K D ∧ rIsO K D a dd xs H Q
theorem call_isS {X : Cx} {a : Addr} {cls : Value} {d : Option Addr} {oe : Obj} {pn : List (Addr × Obj)} (hz : Zc cls d oe) (hf : ∃ vs, oe.data = .fields vs) : CallR (X.suite a ((a, oe) :: pn)) (.builtin "isinstance") (rIsS X.K a cls d) := by
  rintro pins s σ H xs us Q I r ⟨D, dd, rfl, rfl, C, h⟩
  exact call_isO C hz hf pins s σ H xs us Q I r h

/-- the very thing, where it is one -/
def tag1 (d : D) (v : V) : D := match isC d, v with
  | true, .ref a => .at a d
  | _, _ => d
def tagz : List D → List V → List D
  | d :: ds, v :: vs => tag1 d v :: tagz ds vs
  | _, _ => []
theorem tag1_rep {K : PySem.W.Frag} {G : Hp} {d : D} {v : V} (r : Rep K G d v) : Rep K G (tag1 d v) v := by
  unfold tag1
  cases isC d <;> cases v <;> first | exact ⟨rfl, r⟩ | exact r
theorem tagz_reps {K : PySem.W.Frag} {G : Hp} : ∀ {ds : List D} {vs : List V}, Reps K G ds vs → Reps K G (tagz ds vs) vs
  | [], vs, r => by
    have r : vs = [] := r
    subst r
    rfl
  | d :: ds, vs, r => by
    obtain ⟨x, xs, rfl, r1, r2⟩ := r
    exact ⟨x, xs, rfl, tag1_rep r1, tagz_reps r2⟩
/-- what is new stands still -/
def fz (G H H1 : Hp) : Hp := fun b => match H b with
  | none => H1 b
  | some _ => G b
section
variable {G H H1 : Hp}
theorem fz_new {b : Addr} (h : H b = none) : fz G H H1 b = H1 b := by
  unfold fz
  rw [h]
theorem fz_old {b : Addr} (h : H b ≠ none) : fz G H H1 b = G b := by
  unfold fz
  cases e : H b with
  | none => exact absurd e h
  | some _ => rfl
theorem fz_up (s : Same G H) : Same G (fz G H H1) := fun b o e => by
  rw [fz_old (by rw [s b o e]; exact nofun)]
  exact e
theorem fz_in (s : Same G H) (t : Same H H1) : Same (fz G H H1) H1 := fun b o e => by
  by_cases h : H b = none
  · rw [fz_new h] at e
    exact e
  · rw [fz_old h] at e
    exact t _ _ (s _ _ e)
end
/-- the field in which an exception of the program holds its thing -/
def fldOf (cn : Str) : Str := bif cn == "TooMany" then "many" else "found"
/-- told: [word, what came, the arguments, True] -/
structure ToldR (K : PySem.W.Frag) (tb : List (Str × Str)) (G H G' H' : Hp) (ask : List D) (l g : Addr) (avs : List V) (cs : List (List Addr)) (w : Str) (x : V) (o : Out) : Prop where
  sg : Same G G'
  sh : Same G' H'
  hh : Same H H'
  gf : ∀ b, H b ≠ none → G' b = G b
  fl : H l = none
  fg : H g = none
  fc : ∀ c ∈ cs.flatten, H c = none
  ne : (l :: g :: cs.flatten).Nodup
  hl : H' l = some (.lst [.str w, x, .ref g, .bl true])
  hg : H' g = some (.lst avs)
  tr : Trees K H' false ask avs cs
  out : match o with
    | .exc e => ∃ d, e.fs = [(fldOf e.cls, d)] ∧ (e.cls, w) ∈ tb ∧ Rep K G' d x
    | .ret (.val d) => w = "told" ∧ Rep K G' d x
    | .ret (.own xs) => w = "told" ∧ ∃ p vs, x = .ref p ∧ H p = none ∧ G' p = none ∧ p ∉ l :: g :: cs.flatten ∧ H' p = some (.lst vs) ∧ Reps K G' xs vs
    | .ret (.par _) => False
def spTold (K : PySem.W.Frag) (fs : FS) (tb : List (Str × Str)) (n : Nat) : Sp := fun vs H Q _ => ∃ (G : Hp) (door by_ : D) (ask : List D) (vd va vb : V) (kk : List V → Out → Prop), vs = [vd, va, vb] ∧ Same G H ∧ Rep K G door vd ∧ Rep K G (.lst ask) va ∧ Rep K G by_ vb ∧ okA (.lst ask) = true ∧ dpt (.lst ask) < n ∧ Okr (.lst ask) ∧
  (∀ avs, ask.length = avs.length → fs [.val door, .val (.lst (tagz ask avs)), .val by_] (fun o _ => kk avs o)) ∧ (∀ avs e, kk avs (.exc e) → ∃ w d, (e.cls, w) ∈ tb ∧ e.fs = [(fldOf e.cls, d)]) ∧
  (∀ l g avs cs w x H' G' o, kk avs o → ToldR K tb G H G' H' ask l g avs cs w x o → Q (.ref l) H')
/-- what the clauses do with what they catch -/
def HdOk (K : PySem.W.Frag) (tb : List (Str × Str)) (wx : Ends → WX) : Prop := ∀ (D : Ends) (σ : L2.St) (H : Hp) (cn w : Str) (C dd : Addr) (x : V), (cn, w) ∈ tb → PySem.W.nsIn K mainGlobals cn = some (some (.ref C)) → H dd = some (.xd [(fldOf cn, x)]) → σ.length = 7 →
  (∀ σ' l, H l = none → σ'[3]? = σ[3]? → σ'[4]? = σ[4]? → σ'[5]? = some (some (.ref l)) → D.nx σ' (upd H l (.lst [.str w, x]))) → wx D (.ref C) (some dd) σ H
def tToldE (K : PySem.W.Frag) : TE := tOp (rCatL K) (tVar 5) (tLst (tCons (tVar 3) (tCons (tOp rEq (tCB (rRepr K) (tCons (tVar 3) tNil)) (tVar 4)) tNil)))
def tToldB (K : PySem.W.Frag) (sp : Sp) (fs : FS) (wx : Ends → WX) : TS :=
  tSeq (tAsg (tCallSD sp [] E0 (tCons (tVar 1) tNil)) (gName 3))
  (tSeq (tAsg (tCB (rRepr K) (tCons (tVar 3) tNil)) (gName 4))
  (tSeq (fun D σ H => tAsg (tLst (tCons (tC (.str "told")) (tCons (tCallSD (spOf K fs) [] (L2.WE (wx D)) (tCons (tVar 0) (tCons (tVar 3) (tCons (tVar 2) tNil)))) tNil))) (gName 5) D σ H)
    (tRet (tToldE K))))
theorem tail_ok {K : PySem.W.Frag} {σ : L2.St} {H : Hp} {g t : Addr} {ask : List D} {w : Str} {x : V} {Q : VK} (h3 : σ[3]? = some (some (.ref g))) (h4 : σ[4]? = some (some (.str (pyt (.lst ask)).shown))) (h5 : σ[5]? = some (some (.ref t)))
    (ht : H t = some (.lst [.str w, x])) (r : Rep K H (.lst ask) (.ref g)) (ok : Okr (.lst ask)) (k : ∀ (p l : Addr) (H' : Hp), Same H H' → H l = none → H' l = some (.lst [.str w, x, .ref g, .bl true]) → Q (.ref l) H') : tToldE K σ H Q := by
  refine ⟨.ref t, h5, .ref g, h3, .ref g, h3, .ref g, .lst ask, rfl, r, ok, .str (pyt (.lst ask)).shown, h4, rfl, ?_⟩
  rw [decide_eq_true rfl]
  refine ⟨by show 2 ≤ sizeLine; decide, fun p hp => ?_⟩
  refine ⟨t, p, [.str w, x], [.ref g, .bl true], rfl, rfl, .inl (.inl ((same_upd hp) _ _ ht)), .inl (.inl upd_same), by show 4 ≤ sizeLine; decide, fun l hl => ?_⟩
  refine k p l _ ((same_upd hp).trans (same_upd hl)) ?_ upd_same
  cases e : H l with
  | none => rfl
  | some o => exact nomatch hl.symm.trans ((same_upd hp) _ _ e)
theorem told_run {K : PySem.W.Frag} {fs : FS} {tb : List (Str × Str)} {wx : Ends → WX} {n : Nat} {vs : List V} {H : Hp} {Q : VK} {E : XK} (hd : HdOk K tb wx) (h : spTold K fs tb n vs H Q E) : tToldB K (spCopy K n) fs wx { nx := fun _ H' => Q .non H', rt := Q } (L2.start ["door", "ask", "by_name", "given", "before", "told", "e"] vs) H := by
  obtain ⟨G, door, by_, ask, vd, va, vb, kk, rfl, s, rd, ra, rb, ok, dp, okr, hf, hx, k⟩ := h
  refine ⟨va, rfl, G, .lst ask, va, rfl, s, ra, ok, dp, fun v' H1 cs0 s1 t1 f1 n1 => ?_⟩
  cases t1 with
  | imm _ i _ => cases i
  | @lst _ g avs cs hg ts =>
    obtain ⟨ng, n2⟩ := List.nodup_cons.mp n1
    have fg : H g = none := f1 g List.mem_cons_self
    have fc : ∀ c ∈ cs.flatten, H c = none := fun c z => f1 c (List.mem_cons_of_mem _ z)
    have r1 : Rep K H1 (.lst ask) (.ref g) := ⟨g, avs, rfl, .inl (.inl hg), ts.rep⟩
    refine ⟨.ref g, rfl, .ref g, .lst ask, rfl, r1, okr, ?_⟩
    -- the call
    have sg := fz_up (H1 := H1) s
    have sh := fz_in s s1
    have rg : Rep K (fz G H H1) (.lst (tagz ask avs)) (.ref g) := ⟨g, avs, rfl, .inl (.inl ((fz_new fg).trans hg)), tagz_reps (ts.repG fun c z => fz_new (fc c z))⟩
    -- what is behind it
    have after : ∀ (t : Addr) (H2 H3 G2 : Hp) (σ : L2.St) (w : Str) (x : V) (o : Out), kk avs o → Same (fz G H H1) G2 → Same G2 H2 → (∀ b, H1 b ≠ none → G2 b = fz G H H1 b) → Same H1 H2 → Same H2 H3 → H2 t = none → H3 t = some (.lst [.str w, x]) → σ[3]? = some (some (.ref g)) → σ[4]? = some (some (.str (pyt (.lst ask)).shown)) → σ[5]? = some (some (.ref t)) →
        (∀ l H', H2 l = none → Same H2 H' → (match o with
          | .exc e => ∃ d, e.fs = [(fldOf e.cls, d)] ∧ (e.cls, w) ∈ tb ∧ Rep K G2 d x
          | .ret (.val d) => w = "told" ∧ Rep K G2 d x
          | .ret (.own xs) => w = "told" ∧ ∃ p vs, x = .ref p ∧ H p = none ∧ G2 p = none ∧ p ∉ l :: g :: cs.flatten ∧ H' p = some (.lst vs) ∧ Reps K G2 xs vs
          | .ret (.par _) => False)) → tRet (tToldE K) { nx := fun _ H' => Q .non H', rt := Q } σ H3 := fun t H2 H3 G2 σ w x o ko q1 q2 q3 q4 q5 ht2 ht h3 h4 h5 out => by
      have r3 : Rep K H3 (.lst ask) (.ref g) := r1.mono (q4.trans q5)
      refine tail_ok h3 h4 h5 ht r3 okr fun p l H' s6 hl hl' => ?_
      have all : Same H1 H' := (q4.trans q5).trans s6
      have no1 : H1 l = none := by
        cases e : H1 l with
        | none => rfl
        | some o => exact nomatch hl.symm.trans (q5 _ _ (q4 _ _ e))
      have no2 : H2 l = none := by
        cases e : H2 l with
        | none => rfl
        | some o => exact nomatch hl.symm.trans (q5 _ _ e)
      have no : H l = none := by
        cases e : H l with
        | none => rfl
        | some o => exact nomatch no1.symm.trans (s1 _ _ e)
      refine k l g avs cs w x H' G2 o ko ⟨sg.trans q1, q2.trans (q5.trans s6), s1.trans all, fun b hb => ?_, no, fg, fc, ?_, hl', all _ _ hg, ts.keep (.same all), out l H' no2 (q5.trans s6)⟩
      · have hb1 : H1 b ≠ none := by
          cases e : H b with
          | none => exact absurd e hb
          | some o =>
            rw [s1 _ _ e]
            exact nofun
        rw [q3 b hb1, fz_old hb]
      · refine List.nodup_cons.mpr ⟨fun z => ?_, List.nodup_cons.mpr ⟨ng, n2⟩⟩
        rcases List.mem_cons.mp z with rfl | z
        · exact nomatch no1.symm.trans hg
        · exact ts.live l z no1
    refine ⟨vd, rfl, .ref g, rfl, vb, rfl, ?_⟩
    refine ⟨fz G H H1, fun _ => 0, [.val door, .val (.lst (tagz ask avs)), .val by_], fun o _ => kk avs o, sh, ⟨rfl, ?_, ?_⟩, hf avs ts.len, ?_, ?_⟩
    · intro i dv e
      match i, e with
      | 0, e => cases e; exact ⟨vd, rfl, rd.mono sg⟩
      | 1, e => cases e; exact ⟨.ref g, rfl, rg⟩
      | 2, e => cases e; exact ⟨vb, rfl, rb.mono sg⟩
      | i + 3, e => simp at e
    · intro i j xs ys e
      match i, e with
      | 0, e => cases e
      | 1, e => cases e
      | 2, e => cases e
      | i + 3, e => simp at e
    · intro v r dvs' G2 H2 ko B R
      have q4 : Same H1 H2 := fun b o e => B.fr b o e fun i xs e => by
        match i, e with
        | 0, e => cases e
        | 1, e => cases e
        | 2, e => cases e
        | i + 3, e => simp at e
      refine ⟨by show 2 ≤ sizeLine; decide, fun t ht => ?_⟩
      refine after t H2 _ G2 _ "told" v (.ret r) ko B.gg B.ex B.gf q4 (same_upd ht) ht upd_same rfl rfl rfl fun l H' hl sl => ?_
      cases r with
      | val d => exact ⟨rfl, R⟩
      | par _ => exact R.elim
      | own xs =>
        obtain ⟨p, e, p1, p2, vs, p3, p4⟩ := R
        refine ⟨rfl, p, vs, e, ?_, p2, fun z => ?_, sl _ _ p3, p4⟩
        · cases e : H p with
          | none => rfl
          | some o => exact nomatch p1.symm.trans (s1 _ _ e)
        · rcases List.mem_cons.mp z with rfl | z
          · exact nomatch hl.symm.trans p3
          · rcases List.mem_cons.mp z with rfl | z
            · exact nomatch p1.symm.trans hg
            · exact ts.live p z p1
    · intro e cls d dvs' G2 H2 ko B X
      have q4 : Same H1 H2 := fun b o e => B.fr b o e fun i xs e => by
        match i, e with
        | 0, e => cases e
        | 1, e => cases e
        | 2, e => cases e
        | i + 3, e => simp at e
      obtain ⟨w, dx, ew, ef⟩ := hx avs e ko
      obtain ⟨C, hC, rfl⟩ := X.cls
      obtain ⟨dd, xs, rfl, hdd, rx⟩ := X.fs
      rw [ef] at hdd rx
      obtain ⟨x, ys, rfl, rx1, rx2⟩ := rx
      have rx2 : ys = [] := rx2
      subst rx2
      refine hd _ _ H2 e.cls w C dd x ew hC hdd rfl fun σ' t ht e3 e4 e5 => ?_
      exact after t H2 _ G2 σ' w x (.exc e) ko B.gg B.ex B.gf q4 (same_upd ht) ht upd_same e3 e4 e5 fun l H' hl sl => ⟨dx, ef, ew, rx1⟩
end DW

/-! DwY: what is refused, what is told. -/
namespace DW
open PySem PySem.Spec PyProof.Rows L2

abbrev tIx (K : PySem.W.Frag) (ta : TE) (i : Int) : TE := tOp (rIx K) ta (tC (.int i))
/-- one word for each class -/
def Fun1 (tb : List (Str × Str)) : Prop := ∀ c w w', (c, w) ∈ tb → (c, w') ∈ tb → w = w'
theorem tIx_at {K : PySem.W.Frag} {σ : L2.St} {H : Hp} {ta : TE} {p : Addr} {xs : List V} {i : Nat} {v : V} {Q : VK} (h : ∀ Q', Q' (.ref p) H → ta σ H Q') (hp : H p = some (.lst xs)) (e : xs[i]? = some v) (q : Q v H) : tIx K ta (i : Nat) σ H Q :=
  h _ (.inl ⟨p, xs, (i : Nat), v, rfl, rfl, .inl (.inl hp), atI_nat e, q⟩)
theorem leaf_val {K : PySem.W.Frag} {H G : Hp} {d : D} {v x : V} {cs : List Addr} (t : Tree K H false d v cs) (r : Rep K G (tag1 d v) x) : x = v := by
  cases t with
  | imm n i r2 =>
    cases d with
    | non => rw [show v = .non from r2]; exact r
    | bl b => rw [show v = .bl b from r2]; exact r
    | int j => rw [show v = .int j from r2]; exact r
    | str s => rw [show v = .str s from r2]; exact r
    | tup _ => exact nomatch n rfl
    | lst _ => cases i
    | obj _ => cases i
    | dct _ _ => cases i
    | «at» _ _ => cases i
  | tup _ _ => exact r.1
  | lst _ _ => exact r.1
  | dct _ _ _ => exact r.1
/-- the promise: refused, with the very thing -/
def fsRefused (fs : FS) (tb : List (Str × Str)) (n : Nat) : FS := fun dvs k => ∃ (door by_ x : D) (ask : List D) (word : Str) (i : Nat), dvs = [.val door, .val (.lst ask), .val (.str word), .val (.int i), .val by_] ∧ ask[i]? = some x ∧ okA (.lst ask) = true ∧ dpt (.lst ask) < n ∧ Okr (.lst ask) ∧ okG x = true ∧ Okr (grow x) ∧
  (∀ avs : List V, ask.length = avs.length → fs [.val door, .val (.lst (tagz ask avs)), .val by_] (fun o _ => ∃ cn v, (cn, word) ∈ tb ∧ avs[i]? = some v ∧ o = .exc ⟨cn, [(fldOf cn, tag1 x v)]⟩)) ∧ k (.ret (.val (.bl true))) dvs
def tRefB (K : PySem.W.Frag) (sp spg : Sp) : TS :=
  tSeq (tAsg (tCallSD sp [] E0 (tCons (tVar 0) (tCons (tVar 1) (tCons (tVar 4) tNil)))) (gName 5))
  (tSeq (tIfS (tOr (tB (tOp rNe (tIx K (tVar 5) 0) (tVar 2))) (tNot (tB (tIx K (tVar 5) 3)))) (tRet (tC (.bl false))) tNext)
  (tSeq (tDrop (tCallSD spg [] E0 (tCons (tOp (rIx K) (tIx K (tVar 5) 2) (tVar 3)) tNil)))
    (tRet (tOp rEq (tCB (rRepr K) (tCons (tIx K (tVar 5) 1) tNil)) (tCB (rRepr K) (tCons (tOp (rIx K) (tIx K (tVar 5) 2) (tVar 3)) tNil))))))
theorem refused_run {K : PySem.W.Frag} {fs : FS} {tb : List (Str × Str)} {n : Nat} {vs : List V} {H : Hp} {Q : VK} {E : XK} (hu : Fun1 tb) (h : spOf K (fsRefused fs tb n) vs H Q E) :
    tRefB K (spTold K fs tb n) (spGrown K n) { nx := fun _ H' => Q .non H', rt := Q } (L2.start ["door", "ask", "word", "at", "by_name", "told"] vs) H := by
  obtain ⟨G, pa, dvs, kq, s, ha, hf, k1, k2⟩ := h
  obtain ⟨door, by_, x, ask, word, i, rfl, ex, ok, dp, okr, og, okg, hc, hk⟩ := hf
  obtain ⟨vd, e0, r0⟩ := ha.here 0 _ rfl
  obtain ⟨va, e1, r1⟩ := ha.here 1 _ rfl
  obtain ⟨vw, e2, r2⟩ := ha.here 2 _ rfl
  obtain ⟨vi, e3, r3⟩ := ha.here 3 _ rfl
  obtain ⟨vb, e4, r4⟩ := ha.here 4 _ rfl
  have hl := ha.len
  obtain rfl : vs = [vd, va, vw, vi, vb] := by
    match vs, hl, e0, e1, e2, e3, e4 with
    | [a, b, c, d, e], _, e0, e1, e2, e3, e4 => cases e0; cases e1; cases e2; cases e3; cases e4; rfl
  have r2 : vw = .str word := r2
  have r3 : vi = .int (i : Nat) := r3
  subst r2 r3
  refine ⟨vd, rfl, va, rfl, vb, rfl, G, door, by_, ask, vd, va, vb, fun avs o => ∃ cn v, (cn, word) ∈ tb ∧ avs[i]? = some v ∧ o = .exc ⟨cn, [(fldOf cn, tag1 x v)]⟩, rfl, s, r0, r1, r4, ok, dp, okr, hc, ?_, ?_⟩
  · rintro avs e ⟨cn, v, h1, _, q⟩
    cases q
    exact ⟨word, _, h1, rfl⟩
  · rintro l g avs cs w y H' G' o ⟨cn, v, h1, hv, rfl⟩ R
    obtain ⟨d, ed, hw, ry⟩ := R.out
    have ed : [(fldOf cn, tag1 x v)] = [(fldOf cn, d)] := ed
    cases ed
    obtain rfl : word = w := hu _ _ _ h1 hw
    obtain ⟨d2, c, ed2, ec, td⟩ := R.tr.get hv
    rw [ex] at ed2
    cases ed2
    obtain rfl : y = v := leaf_val td ry
    obtain ⟨n1, n2⟩ := List.nodup_cons.mp R.ne
    obtain ⟨n3, n4⟩ := List.nodup_cons.mp n2
    have inc : ∀ b ∈ c, b ∈ cs.flatten := fun b z => List.mem_flatten.mpr ⟨c, List.mem_of_getElem? ec, z⟩
    have lc : l ∉ c := fun z => n1 (List.mem_cons_of_mem _ (inc _ z))
    have gc : g ∉ c := fun z => n3 (inc _ z)
    have ndc : c.Nodup := by
      obtain ⟨a, b, e⟩ := List.append_of_mem (List.mem_of_getElem? ec)
      rw [e] at n4
      exact (nodup_mid n4).1
    have v5 : ∀ H' (Q' : VK), Q' (.ref l) H' → tVar 5 (((L2.start ["door", "ask", "word", "at", "by_name", "told"] [vd, va, .str word, .int (i : Nat), vb])).set 5 (some (.ref l))) H' Q' := fun _ _ q => ⟨.ref l, rfl, q⟩
    have at2 : ∀ {H2 : Hp} {Q' : VK}, H2 l = some (.lst [.str word, y, .ref g, .bl true]) → H2 g = some (.lst avs) → Q' y H2 → tOp (rIx K) (tIx K (tVar 5) 2) (tVar 3) (((L2.start ["door", "ask", "word", "at", "by_name", "told"] [vd, va, .str word, .int (i : Nat), vb])).set 5 (some (.ref l))) H2 Q' := fun hl hg q =>
      tIx_at (i := 2) (v5 _) hl rfl ⟨.int (i : Nat), rfl, .inl ⟨g, avs, (i : Nat), y, rfl, rfl, .inl (.inl hg), atI_nat hv, q⟩⟩
    refine tIx_at (i := 0) (v5 _) R.hl rfl ⟨.str word, rfl, rfl, _, rfl, ?_⟩
    rw [decide_eq_true rfl]
    refine tIx_at (i := 3) (v5 _) R.hl rfl ⟨true, rfl, ?_⟩
    refine Eq.mpr (if_neg (c := (!true) = true) (by decide)) ?_
    refine at2 R.hl R.hg ⟨false, x, y, c, rfl, td, ndc, og, Nat.lt_of_le_of_lt (Nat.le_trans (dpts_at ex) (Nat.le_succ _)) dp, fun v' H2 gf t2 => ?_⟩
    have hl2 : H2 l = some (.lst [.str word, y, .ref g, .bl true]) := gf _ _ R.hl fun _ => lc
    have hg2 : H2 g = some (.lst avs) := gf _ _ R.hg fun _ => gc
    have old : Same H H2 := fun b o e => gf _ _ (R.hh _ _ e) fun _ z => by
      have := R.fc b (inc b z)
      rw [this] at e
      cases e
    refine tIx_at (i := 1) (v5 _) hl2 rfl ⟨y, grow x, rfl, t2.rep, okg, ?_⟩
    refine at2 hl2 hg2 ⟨y, grow x, rfl, t2.rep, okg, rfl, ?_⟩
    rw [decide_eq_true rfl]
    exact k1 (.bl true) (.val (.bl true)) _ G H2 hk ⟨s.trans old, .refl G, fun _ _ => rfl, fun a o e _ => old _ _ e, fun a e => by
      cases q : H a with
      | none => exact absurd q e
      | some o => rw [old _ _ q]; exact nofun, fun j xs e => by
        match j, e with
        | 0, e => cases e
        | 1, e => cases e
        | 2, e => cases e
        | 3, e => cases e
        | 4, e => cases e
        | j + 5, e => simp at e⟩ rfl
/-- the promise of the comparison: alike are alike -/
def fsSame (good : D → Prop) : FS := fun dvs k => ∃ d, dvs = [.val d, .val d] ∧ good d ∧ k (.ret (.val (.bl true))) dvs
/-- the promise: told, twice -/
def fsToldSame (fs : FS) (good : D → Prop) (n : Nat) : FS := fun dvs k => ∃ (door due : D) (ask : List D) (b : Bool), dvs = [.val door, .val (.lst ask), .val due, .val (.bl b)] ∧ okA (.lst ask) = true ∧ dpt (.lst ask) < n ∧ Okr (.lst ask) ∧ good due ∧ okG due = true ∧ dpt due < n ∧
  (∀ (b' : Bool) (avs : List V), ask.length = avs.length → fs [.val door, .val (.lst (tagz ask avs)), .val (.bl b')] (fun o _ => (o = .ret (.val due) ∧ imm due = true) ∨ ∃ xs, due = .lst xs ∧ imms xs = true ∧ o = .ret (.own xs))) ∧ k (.ret (.val (.bl true))) dvs
def tSameB (K : PySem.W.Frag) (sp sps spg : Sp) : TS :=
  tSeq (tFor (iRng1 (tCons (tC (.int 2)) tNil)) (gName 4)
    (tSeq (tAsg (tCallSD sp [] E0 (tCons (tVar 0) (tCons (tVar 1) (tCons (tOp rEq (tVar 3) (tOp rEq (tVar 4) (tC (.int 0)))) tNil)))) (gName 5))
    (tSeq (tIfS (tOr (tB (tOp rNe (tIx K (tVar 5) 0) (tC (.str "told")))) (tOr (tNot (tB (tIx K (tVar 5) 3))) (tNot (tB (tCallSD sps [] E0 (tCons (tIx K (tVar 5) 1) (tCons (tVar 2) tNil))))))) (tRet (tC (.bl false))) tNext)
      (tDrop (tCallSD spg [] E0 (tCons (tIx K (tVar 5) 1) tNil))))))
  (tRet (tC (.bl true)))
theorem same_run {K : PySem.W.Frag} {fs : FS} {good : D → Prop} {tb : List (Str × Str)} {n : Nat} {vs : List V} {H : Hp} {Q : VK} {E : XK} (h : spOf K (fsToldSame fs good n) vs H Q E) :
    tSameB K (spTold K fs tb n) (spOf K (fsSame good)) (spGrown K n) { nx := fun _ H' => Q .non H', rt := Q } (L2.start ["door", "ask", "due", "by_name", "turn", "told"] vs) H := by
  obtain ⟨G, pa, dvs, kq, s, ha, hf, k1, k2⟩ := h
  obtain ⟨door, due, ask, b, rfl, ok, dp, okr, gd, og, dd, hc, hk⟩ := hf
  obtain ⟨vd, e0, r0⟩ := ha.here 0 _ rfl
  obtain ⟨va, e1, r1⟩ := ha.here 1 _ rfl
  obtain ⟨vu, e2, r2⟩ := ha.here 2 _ rfl
  obtain ⟨vb, e3, r3⟩ := ha.here 3 _ rfl
  have hl := ha.len
  obtain rfl : vs = [vd, va, vu, vb] := by
    match vs, hl, e0, e1, e2, e3 with
    | [a, b, c, d], _, e0, e1, e2, e3 => cases e0; cases e1; cases e2; cases e3; rfl
  have r3 : vb = .bl b := r3
  subst r3
  refine ⟨2, rfl, by decide, by decide, ?_⟩
  refine for_range (fun _ σ' H' => Same H H' ∧ σ'.length = 6 ∧ σ'[0]? = some (some vd) ∧ σ'[1]? = some (some va) ∧ σ'[2]? = some (some vu) ∧ σ'[3]? = some (some (.bl b))) ⟨.refl H, rfl, rfl, rfl, rfl, rfl⟩ ?_ ?_
  · rintro i σ' H0 hi ⟨i0, i1, i2, i3, i4, i5⟩
    have s0 : Same G H0 := s.trans i0
    have g4 : (σ'.set 4 (some (V.int (0 + (i : Nat)))))[4]? = some (some (V.int (0 + (i : Nat)))) := by
      rw [List.getElem?_set_self]
      rw [i1]
      decide
    have gk : ∀ j, j ≠ 4 → (σ'.set 4 (some (V.int (0 + (i : Nat)))))[j]? = σ'[j]? := fun j hj => List.getElem?_set_ne (Ne.symm hj)
    refine ⟨vd, (gk 0 (by decide)).trans i2, va, (gk 1 (by decide)).trans i3, .bl b, (gk 3 (by decide)).trans i5, .int (0 + (i : Nat)), g4, rfl, rfl, ?_⟩
    refine ⟨G, door, .bl (decide (V.bl b = V.bl (decide (V.int (0 + (i : Nat)) = V.int 0)))), ask, vd, va, _, fun _ o => (o = .ret (.val due) ∧ imm due = true) ∨ ∃ xs, due = .lst xs ∧ imms xs = true ∧ o = .ret (.own xs), rfl, s0, r0, r1, rfl, ok, dp, okr, fun avs hl => hc _ avs hl, ?_, ?_⟩
    · rintro avs e (⟨q, _⟩ | ⟨_, _, _, q⟩) <;> cases q
    · intro l g avs cs w y H1 G1 o ho R
      have v5 : ∀ H' (Q' : VK), Q' (.ref l) H' → tVar 5 ((σ'.set 4 (some (V.int (0 + (i : Nat))))).set 5 (some (.ref l))) H' Q' := fun _ _ q => ⟨.ref l, by rw [List.getElem?_set_self]; rw [List.length_set, i1]; decide, q⟩
      have v2 : ((σ'.set 4 (some (V.int (0 + (i : Nat))))).set 5 (some (.ref l)))[2]? = some (some vu) := by
        rw [List.getElem?_set_ne (by decide)]
        exact (gk 2 (by decide)).trans i4
      -- what came, as data
      obtain ⟨hw, G2, sg2, sh2, gf2, ry, hT⟩ : w = "told" ∧ ∃ G2, Same G G2 ∧ Same G2 H1 ∧ (∀ b, H0 b ≠ none → G2 b = G b) ∧ Rep K G2 due y ∧ ∀ H3, Same H1 H3 → ∃ c, Tree K H3 true due y c ∧ c.Nodup ∧ (∀ b ∈ c, H0 b = none) := by
        rcases ho with ⟨rfl, im⟩ | ⟨xs, rfl, im, rfl⟩
        · obtain ⟨hw, ry⟩ := R.out
          exact ⟨hw, G1, R.sg, R.sh, R.gf, ry, fun H3 s3 => ⟨[], .imm (fun _ => rfl) im (ry.mono (R.sh.trans s3)), List.nodup_nil, fun _ z => (List.not_mem_nil z).elim⟩⟩
        · obtain ⟨hw, p, ws, rfl, p1, p2, p3, p4, p5⟩ := R.out
          have su : Same G1 (upd G1 p (.lst ws)) := same_upd p2
          refine ⟨hw, upd G1 p (.lst ws), R.sg.trans su, fun b o e => ?_, fun b hb => ?_, ⟨p, ws, rfl, .inl (.inl upd_same), p5.mono su⟩, fun H3 s3 => ?_⟩
          · by_cases hb : b = p
            · subst hb
              rw [upd_same] at e
              cases e
              exact p4
            · rw [upd_ne hb] at e
              exact R.sh _ _ e
          · rw [upd_ne (fun e => hb (by rw [e]; exact p1))]
            exact R.gf b hb
          · obtain ⟨c, t, fl⟩ := imms_trees im (p5.mono (R.sh.trans s3))
            exact ⟨p :: c.flatten, .lst (s3 _ _ p4) t, by rw [fl]; exact List.nodup_cons.mpr ⟨List.not_mem_nil, List.nodup_nil⟩, fun b z => by
              rw [fl] at z
              rw [List.mem_singleton.mp z]
              exact p1⟩
      subst hw
      refine tIx_at (i := 0) (v5 _) R.hl rfl ⟨rfl, _, rfl, ?_⟩
      rw [decide_eq_true rfl]
      refine tIx_at (i := 3) (v5 _) R.hl rfl ⟨true, rfl, ?_⟩
      refine Eq.mpr (if_neg (c := (!true) = true) (by decide)) ?_
      refine tIx_at (i := 1) (v5 _) R.hl rfl ⟨vu, v2, ?_⟩
      refine ⟨G2, fun _ => 0, [.val due, .val due], fun o _ => o = .ret (.val (.bl true)), sh2, ⟨rfl, ?_, ?_⟩, ⟨due, rfl, gd, rfl⟩, ?_, ?_⟩
      · intro j dv e
        match j, e with
        | 0, e => cases e; exact ⟨y, rfl, ry⟩
        | 1, e => cases e; exact ⟨vu, rfl, r2.mono sg2⟩
        | j + 2, e => simp at e
      · intro j j2 xs ys e
        match j, e with
        | 0, e => cases e
        | 1, e => cases e
        | j + 2, e => simp at e
      · intro v r dvs' G3 H3 ko B R3
        cases ko
        have R3 : v = .bl true := R3
        subst R3
        have s13 : Same H1 H3 := fun b o e => B.fr b o e fun j xs e => by
          match j, e with
          | 0, e => cases e
          | 1, e => cases e
          | j + 2, e => simp at e
        refine ⟨true, rfl, ?_⟩
        refine Eq.mpr (if_neg (c := (!true) = true) (by decide)) ?_
        obtain ⟨c, t, nd, fr⟩ := hT H3 s13
        refine tIx_at (i := 1) (v5 _) (s13 _ _ R.hl) rfl ⟨true, due, y, c, rfl, t, nd, og, dd, fun v' H4 gf t4 => ?_⟩
        refine ⟨fun b o e => gf _ _ (s13 _ _ (R.hh _ _ (i0 _ _ e))) fun _ z => ?_, by rw [List.length_set, List.length_set]; exact i1, ?_, ?_, ?_, ?_⟩
        · have := fr b z
          rw [i0 _ _ e] at this
          cases this
        · rw [List.getElem?_set_ne (by decide)]
          exact (gk 0 (by decide)).trans i2
        · rw [List.getElem?_set_ne (by decide)]
          exact (gk 1 (by decide)).trans i3
        · exact v2
        · rw [List.getElem?_set_ne (by decide)]
          exact (gk 3 (by decide)).trans i5
      · intro e cls d dvs' G3 H3 ko
        cases ko
  · rintro σ' H0 ⟨i0, _⟩
    exact k1 (.bl true) (.val (.bl true)) _ G H0 hk ⟨s.trans i0, .refl G, fun _ _ => rfl, fun a o e _ => i0 _ _ e, fun a e => by
      cases q : H a with
      | none => exact absurd q e
      | some o => rw [i0 _ _ q]; exact nofun, fun j xs e => by
        match j, e with
        | 0, e => cases e
        | 1, e => cases e
        | 2, e => cases e
        | 3, e => cases e
        | j + 4, e => simp at e⟩ rfl
/-- the promise of one question, told -/
def fsTold (fs : FS) (n : Nat) : FS := fun dvs k => ∃ (door by_ r : D) (ask : List D), dvs = [.val door, .val (.lst ask), .val by_] ∧ okA (.lst ask) = true ∧ dpt (.lst ask) < n ∧ Okr (.lst ask) ∧
  (∀ avs : List V, ask.length = avs.length → fs [.val door, .val (.lst (tagz ask avs)), .val by_] (fun o _ => o = .ret (.val r))) ∧ k (.ret (.val (.lst [.str "told", r, .lst ask, .bl true]))) dvs
theorem told_imp {K : PySem.W.Frag} {fs : FS} {tb : List (Str × Str)} {n : Nat} {vs : List V} {H : Hp} {Q : VK} {E : XK} (h : spOf K (fsTold fs n) vs H Q E) : spTold K fs tb n vs H Q E := by
  obtain ⟨G, pa, dvs, kq, s, ha, ⟨door, by_, r, ask, rfl, ok, dp, okr, hc, hk⟩, k1, k2⟩ := h
  obtain ⟨vd, e0, r0⟩ := ha.here 0 _ rfl
  obtain ⟨va, e1, r1⟩ := ha.here 1 _ rfl
  obtain ⟨vb, e2, r2⟩ := ha.here 2 _ rfl
  have hl := ha.len
  obtain rfl : vs = [vd, va, vb] := by
    match vs, hl, e0, e1, e2 with
    | [a, b, c], _, e0, e1, e2 => cases e0; cases e1; cases e2; rfl
  refine ⟨G, door, by_, ask, vd, va, vb, fun _ o => o = .ret (.val r), rfl, s, r0, r1, r2, ok, dp, okr, hc, ?_, ?_⟩
  · rintro avs e q
    cases q
  · rintro l g avs cs w x H' G' o rfl R
    obtain ⟨hw, rx⟩ := R.out
    subst hw
    have up : Same G' (fz G H H') := fun b o e => by
      by_cases hb : H b = none
      · rw [fz_new hb]
        exact R.sh _ _ e
      · rw [fz_old hb, ← R.gf b hb]
        exact e
    refine k1 (.ref l) (.val _) _ (fz G H H') H' hk ⟨fz_in s R.hh, fz_up s, fun b hb => fz_old hb, fun a o e _ => R.hh _ _ e, fun a e => by
      cases q : H a with
      | none => exact absurd q e
      | some o => rw [R.hh _ _ q]; exact nofun, fun j xs e => by
        match j, e with
        | 0, e => cases e
        | 1, e => cases e
        | 2, e => cases e
        | j + 3, e => simp at e⟩ ?_
    refine ⟨l, _, rfl, .inl (.inl ((fz_new R.fl).trans R.hl)), _, _, rfl, rfl, x, _, rfl, rx.mono up, .ref g, _, rfl, ⟨g, avs, rfl, .inl (.inl ((fz_new R.fg).trans R.hg)), R.tr.repG fun c z => fz_new (R.fc c z)⟩, _, _, rfl, rfl, rfl⟩
end DW

/-! DwZ: the bundles for laws that ask with a copy and tell what came. -/
namespace DW
open PySem PySem.Spec PyProof.Rows L2

section
variable {P : Program} {w : World} {K : PySem.W.Frag} {mg : Str → Option Value} {base : Heap}
/-- a def's promise over the heap, by its body's reading -/
theorem fnG_body {x qual : Str} {st : Stmt} {f : Addr} {fd : FuncData} {N ps : List Str} {k : Nat} {sp : Sp} {t : TS} (Fn : Fun K x qual st f fd) (S : FnScope N ps (defScope st)) (len : ∀ vs H Q E, sp vs H Q E → vs.length = ps.length)
    (hb : ∀ (cdv : Value) (A : Around) (outer : List PySem.Env) (s : Shared) (H : Hp) (E : XK) (hr : Rm base k (A.deeper (envOfC qual (defScope st) s.heap.objs.size f cdv))), PSs ((Fam.body P w K mg base N k qual (defScope st) f cdv A outer s H E hr S.nd).X ()) (defBody st) t)
    (run : ∀ (vs : List V) (H : Hp) (Q : VK) (E : XK), sp vs H Q E → t { nx := fun _ H' => Q .non H', rt := Q } (L2.start N vs) H) : FnG P w K mg base CX0 (k + 1) f fd ps sp := by
  obtain ⟨oc, od, kV, doc, pm, an, cdv, ct, osl, rfl, lk, hcd⟩ := Fn.ex
  exact fnG_of lk hcd S len fun A outer s H vs Q E hr h => ⟨t, (hb cdv A outer s H E hr).nox, run vs H Q E h⟩
theorem fnG_none {f : Addr} {fd : FuncData} {ps : List Str} {sp : Sp} (no : ∀ vs H Q E, ¬ sp vs H Q E) (k : Nat) : FnG P w K mg base CX0 k f fd ps sp :=
  ⟨fun vs H Q E h => (no vs H Q E h).elim, fun A o s H as us vs Q E _ _ _ _ h => (no vs H Q E h).elim⟩
/-- by one level after the other -/
theorem fnG_rec {f : Addr} {fd : FuncData} {ps : List Str} {sp : Nat → Sp} (no : ∀ vs H Q E, ¬ sp 0 vs H Q E) (step : ∀ n, FnG P w K mg base CX0 n f fd ps (sp n) → FnG P w K mg base CX0 (n + 1) f fd ps (sp (n + 1))) : ∀ n, FnG P w K mg base CX0 n f fd ps (sp n)
  | 0 => fnG_none no 0
  | n + 1 => step n (fnG_rec no step n)
theorem copy_no (vs : List V) (H : Hp) (Q : VK) (E : XK) : ¬ spCopy K 0 vs H Q E := fun ⟨_, _, _, _, _, _, _, h, _⟩ => Nat.not_lt_zero _ h
theorem grown_no (vs : List V) (H : Hp) (Q : VK) (E : XK) : ¬ spGrown K 0 vs H Q E := fun ⟨_, _, _, _, _, _, _, _, h, _⟩ => Nat.not_lt_zero _ h
theorem copy_len {n : Nat} (vs : List V) (H : Hp) (Q : VK) (E : XK) (h : spCopy K n vs H Q E) : vs.length = 1 := by
  obtain ⟨_, _, _, rfl, _⟩ := h
  rfl
theorem grown_len {n : Nat} (vs : List V) (H : Hp) (Q : VK) (E : XK) (h : spGrown K n vs H Q E) : vs.length = 1 := by
  obtain ⟨_, _, _, _, rfl, _⟩ := h
  rfl
theorem told_len {fs : FS} {tb : List (Str × Str)} {n : Nat} (vs : List V) (H : Hp) (Q : VK) (E : XK) (h : spTold K fs tb n vs H Q E) : vs.length = 3 := by
  obtain ⟨_, _, _, _, _, _, _, _, rfl, _⟩ := h
  rfl
theorem refused_len {fs : FS} {tb : List (Str × Str)} {n : Nat} : ∀ dvs kk, fsRefused fs tb n dvs kk → dvs.length = 5 := by
  rintro dvs kk ⟨_, _, _, _, _, _, rfl, _⟩
  rfl
theorem tsame_len {fs : FS} {good : D → Prop} {n : Nat} : ∀ dvs kk, fsToldSame fs good n dvs kk → dvs.length = 4 := by
  rintro dvs kk ⟨_, _, _, _, rfl, _⟩
  rfl
/-! ### own exceptions in a suite -/
theorem kit_sub {C T : Addr} (hT : PySem.W.hasDictIn K T = true) (tT : PySem.W.typeIn K (.ref T) = some (.type "type")) (h : PySem.W.subIn K (.ref C) (.ref T) = some true) : PySem.W.kitOne K (.ref C) (.ref T) = some true := by
  unfold PySem.W.kitOne
  split
  · rfl
  · obtain ⟨cd, e, _⟩ := PySem.W.any_some hT
    have c : ((PySem.W.clsIn K T).isSome && PySem.W.typeIn K (.ref T) == some (.type "type")) = true := by
      rw [e, tT] <;> rfl
    exact (if_pos c).trans h
theorem lk_self {α : Type} (k : Str) (x : α) : List.lookup k [(k, x)] = some x := by rw [List.lookup_cons, beq_self_eq_true]
/-- told = [word if isinstance(e, T) else "", e.found] -/
def tHd (K : PySem.W.Frag) (T C : Addr) (word fl : Str) (a : Addr) (cls : Value) (d : Option Addr) : TS :=
  tAsg (tLst (tCons (tIf (tB (tCB (rIsS K a cls d) (tCons (tVar 6) (tCons (tC (.ref T)) tNil)))) (tC (.str word)) (tC (.str ""))) (tCons (tXf a cls d C fl (tVar 6)) tNil))) (gName 5)
theorem hd_suite {T C dd a : Addr} {word fl : Str} {D : Ends} {σ : L2.St} {H : Hp} {x : V} (ec : ExcC K C) (kt : PySem.W.kitOne K (.ref C) (.ref T) = some true) (hd : H dd = some (.xd [(fl, x)])) (hl : σ.length = 7)
    (k : ∀ σ' l, H l = none → σ'[3]? = σ[3]? → σ'[4]? = σ[4]? → σ'[5]? = some (some (.ref l)) → D.nx σ' (upd H l (.lst [.str word, x]))) :
    tHd K T C word fl a (.ref C) (some dd) { nx := fun σ' H' => D.nx (σ'.set 6 none) H', rt := D.rt, bk := fun σ' H' => D.bk (σ'.set 6 none) H', ct := fun σ' H' => D.ct (σ'.set 6 none) H' } (σ.set 6 (some (.ref a))) H := by
  have h6 : (σ.set 6 (some (V.ref a)))[6]? = some (some (V.ref a)) := by
    rw [List.getElem?_set_self]
    rw [hl]
    decide
  refine ⟨.ref a, h6, ⟨C, dd, rfl, rfl, ec, ⟨_, hd⟩, .ref T, .ref T, true, rfl, fun u e => e, kt, true, rfl, ?_⟩⟩
  refine ⟨.ref a, h6, rfl, rfl, dd, _, x, rfl, hd, lk_self fl x, by show 2 ≤ sizeLine; decide, fun l hl2 => ?_⟩
  refine k _ l hl2 ?_ ?_ ?_
  · rw [List.getElem?_set_ne (by decide), List.getElem?_set_ne (by decide), List.getElem?_set_ne (by decide)]
  · rw [List.getElem?_set_ne (by decide), List.getElem?_set_ne (by decide), List.getElem?_set_ne (by decide)]
  · rw [List.getElem?_set_ne (by decide), List.getElem?_set_self]
    rw [List.length_set, hl]
    decide
theorem hd_one {T C : Addr} {cn word : Str} (hC : PySem.W.nsIn K mainGlobals cn = some (some (.ref C))) (ec : ExcC K C) (em : PySem.W.exmOne K (.ref C) (.ref C) = some true) (kt : PySem.W.kitOne K (.ref C) (.ref T) = some true) :
    HdOk K [(cn, word)] (fun D => wAs K (.ref C) 6 (tHd K T C word (fldOf cn)) Wn D) := by
  intro D σ H cn' w' C' dd x hm hC' hd hl k
  cases List.mem_singleton.mp hm
  rw [hC] at hC'
  cases hC'
  exact ⟨true, em, fun _ a _ => hd_suite ec kt hd hl k, fun z => nomatch z⟩
end
end DW
namespace DW
open PySem PySem.Spec PyProof.Rows L2
/-- a def under its name, with a promise over the heap -/
structure HCal (P : Program) (w : World) (K : PySem.W.Frag) (mg : Str → Option Value) (base : Heap) (CX : CXT) (k : Nat) (x : Str) (ps : List Str) (sp : Sp) : Prop where
  ex : ∃ f fd, FnG P w K mg base CX k f fd ps sp ∧ mg x = some (.ref f) ∧ PySem.W.keepIn K (.ref f) = true ∧ Binds K fd ps []
section
variable {P : Program} {w : World} {K : PySem.W.Frag} {mg : Str → Option Value} {base : Heap}
theorem HCal.imp {CX : CXT} {k : Nat} {x : Str} {ps : List Str} {sp sp' : Sp} (C : HCal P w K mg base CX k x ps sp) (h : ∀ vs H Q E, sp' vs H Q E → sp vs H Q E) : HCal P w K mg base CX k x ps sp' := by
  obtain ⟨f, fd, G, r⟩ := C.ex
  exact ⟨f, fd, G.imp h, r⟩
theorem HCal.cal {k : Nat} {x : Str} {ps : List Str} {fs : FS} (C : HCal P w K mg base CX0 k x ps (spOf K fs)) : Cal P w K mg base k x ps fs := ⟨C.ex⟩
theorem CalX.h {k : Nat} {x : Str} {ps : List Str} {fs : FS} (C : CalX P w K mg base k x ps fs) : HCal P w K mg base (L2.CX P w) k x ps (spOf K fs) := ⟨C.ex⟩
theorem Cal.h {k : Nat} {x : Str} {ps : List Str} {fs : FS} (C : Cal P w K mg base k x ps fs) : HCal P w K mg base CX0 k x ps (spOf K fs) := ⟨C.ex⟩
theorem pe_callH {X : Cx} {CX : CXT} {k kf : Nat} {x : Str} {ps : List Str} {sp : Sp} {E : L2.St → XK} {p pos : Pos} {e : Expr} {es : List Expr} {t : TA} (C : HCal X.prog X.w X.K X.mg X.base CX kf x ps sp) (hr : Rm X.base k X.A) (hk : kf ≤ k) (hg : Gl X x) (hx : ∀ σ, PassesAt CX X σ (E σ))
    (ha : PA X (e :: es) t) (hdb : (x == ("__debug__" : Str)) = false) (he : starEach (e :: es) X.env = (false, eval e X.env) :: starEach es X.env) (hpl : (backTo pos (starEach es X.env)).any (·.1) = false) : PE X (.Call (.Name x p) (e :: es) [] pos) (tCallSD sp [] E t) := by
  obtain ⟨f, fd, G, gm, kp, bb⟩ := C.ex
  exact pe_callG G (hr.mono hk) hg gm kp bb .nil hx ha hdb he hpl
end
end DW
namespace DW
open PySem PySem.Spec PyProof.Rows L2
section
variable {X : Cx} {a : Expr} {es : List Expr} {x : Str} {ta : TE} {p p2 pos : Pos}
theorem pty_cons (T : Ty) {ts : List Ty} {u : Value} (hm : X.mg x = none) (hv : bootBuiltins x = some u) (hu : u = .type T.nm) (hr : PA X es (tTys ts)) (hg : Gl X x := by rfl) (hn : x ≠ "__name__" := by decide) (hdb : (x == ("__debug__" : Str)) = false := by decide)
    (hs : starEach (.Name x p :: es) X.env = (false, eval (.Name x p) X.env) :: starEach es X.env := by rfl) : PA X (.Name x p :: es) (tTys (T :: ts)) := by
  subst hu
  exact pa_cons (pe_bltn (v := .ty T.nm) hg hm hv rfl hn hdb) hr hs
theorem pt_isis (ts : List Ty) {kk : Nat} (hi : X.mg "isinstance" = none) (ha : PE X a ta) (ht : PA X es (tTys ts)) (hgi : Gl X "isinstance" := by rfl) (hs : starEach [a, .Tuple es kk p2] X.env = (false, eval a X.env) :: starEach [.Tuple es kk p2] X.env := by rfl)
    (hs2 : starEach [.Tuple es kk p2] X.env = (false, eval (.Tuple es kk p2) X.env) :: starEach [] X.env := by rfl) (hpl : (backTo pos (starEach [.Tuple es kk p2] X.env)).any (·.1) = false := by rfl)
    (he : ∀ whole, isTrue (.Call (.Name "isinstance" p) [a, .Tuple es kk p2] [] pos) X.env whole = (do let v ← whole; standAt pos; holding [v] (truthy v)) := by intro _; rfl) : PT X (.Call (.Name "isinstance" p) [a, .Tuple es kk p2] [] pos) (tIsis X.K ta ts) :=
  pt_val (pe_callB call_isiT hgi hi (by decide +kernel) (pa_cons ha (pa_cons (pe_tup ht) pa_nil hs2) hs) (by decide) (by decide) hs hpl) he
end
theorem fun1_one (c w : Str) : Fun1 [(c, w)] := fun a x y h1 h2 => by
  cases List.mem_singleton.mp h1
  cases List.mem_singleton.mp h2
  rfl
end DW

/-! DwW: further pieces: an own list against the empty one, list(..), x, y = .., .., xs.pop(i), a small dict. -/
namespace DW
open PySem PySem.Spec PyProof.Rows L2

def wNeO (i : Nat) : WT := fun _ ds k => match listAt ds i with | some xs => k (!xs.isEmpty) ds | none => False
def wListF (a : WE) : WO := fun x ds k => a x ds fun d ds1 => match d with | .lst xs => k xs ds1 | .tup xs => k xs ds1 | _ => False
def wParOO (i j : Nat) (o1 o2 : WO) : WS := fun ds P => o1 P.x ds fun xs ds1 => o2 P.x ds1 fun ys ds2 => P.nx (st (st ds2 i (.own xs)) j (.own ys))
def wPopAt (i : Nat) (q : WE) : WE := fun x ds k => (listAt ds i).isSome = true ∧ q x ds fun d ds1 => match d, listAt ds1 i with
  | .int n, some xs => (0 ≤ n ∧ n < xs.length ∧ xs.length ≤ 10000000) ∧ match xs[n.toNat]? with | some z => k z (refill ds1 i (xs.eraseIdx n.toNat)) | none => False
  | _, _ => False
def rNeNil (K : PySem.W.Frag) : R2 := fun x y H Q => ∃ a b xs, x = .ref a ∧ y = .ref b ∧ SqL K H a xs ∧ SqL K H b [] ∧ Q (.bl (!xs.isEmpty)) H
theorem op_neNil {X : Cx} (hu : X.A.units < cLine) : OpR X (compareOp .NotEq) (rNeNil X.K) := by
  rintro pins s σ H x y v u Q I rx ry ⟨a, b, xs, rfl, rfl, ha, hb, q⟩
  cases rx
  cases ry
  obtain ⟨is, ra, ⟨o1, n1, g1, c1, _, d1⟩, _⟩ := I.list ha
  obtain ⟨js, rb, ⟨o2, n2, g2, c2, _, d2⟩, _⟩ := I.list hb
  cases rb
  have l1 : s.heap.IsList a is.toArray := ⟨o1, g1, c1, n1, by first | exact d1 | exact d1.1⟩
  have l2 : s.heap.IsList b [].toArray := ⟨o2, g2, c2, n2, by first | exact d2 | exact d2.1⟩
  have fin : ∀ k, k = (!xs.isEmpty) → EP X pins σ Q (.bool k) s := fun k e => ⟨.bl k, H, I, rfl, e ▸ q⟩
  cases xs with
  | nil =>
    cases ra
    exact SeqAt.RcNeAt.lists (e := fun _ => true) l1 l2 rfl hu (fun j h1 _ => absurd h1 (Nat.not_lt_zero j)) X.prog X.w _ _ (fin _ rfl)
  | cons x xs =>
    cases ra
    exact SeqAt.RcNeAt.lists_lengths l1 l2 (by simp) hu X.prog X.w _ _ (fin _ rfl)
section
variable {K : PySem.W.Frag} {W : WX} {ta tb : TE} {a b : WE} {o o2 : WO}
theorem tw_neO {i : Nat} : TW K W (tB (tOp (rNeNil K) (tVar i) (tLst tNil))) (wNeO i) := fun c pa G H σ ds xk kk Q E hw hx k => by
  obtain ⟨xs, hxs, q⟩ := listAt_some (P := fun xs => kk (!xs.isEmpty) ds) hw
  obtain ⟨_, _, _, _, _, _, _, vs, hh, rr⟩ := E.lst hxs
  refine ⟨_, own_ref E hxs, by show 0 ≤ sizeLine; exact Nat.zero_le _, fun p hp => ?_⟩
  obtain ⟨S, t⟩ := Stp.newOwn E hp (xs := []) (vs := []) rfl
  refine ⟨_, p, vs, rfl, rfl, SqL.of (by rw [upd_ne (ne_of_none hh hp)]; exact hh), SqL.of upd_same, _, rfl, ?_⟩
  have e : vs.isEmpty = xs.isEmpty := by
    have := rr.len
    cases vs <;> cases xs <;> first | rfl | cases this
  rw [e]
  exact k _ G _ ds q S
def rListOf (K : PySem.W.Frag) : List V → Hp → VK → Prop := fun xs H Q => ∃ p ys, xs = [.ref p] ∧ (SqL K H p ys ∨ SqT K H p ys) ∧ ∀ l, H l = none → Q (.ref l) (upd H l (.lst ys))
theorem eo_listF (h : EW K W ta a) : EO K W (tCB (rListOf K) (tCons ta tNil)) (wListF a) := fun c pa G H σ ds xk kk Q E hw hx k => by
  refine h c pa G H σ ds xk _ _ E hw hx fun v G1 H1 d ds1 q S1 r1 => ?_
  have fin : ∀ (p : Addr) (ys : List V) (xs : List D), v = .ref p → (SqL K G1 p ys ∨ SqT K G1 p ys) → Reps K G1 xs ys → kk xs ds1 → rListOf K [v] H1 Q := fun p ys xs e hs rr q => by
    refine ⟨p, ys, by rw [e], hs.elim (fun z => .inl (L2.Same.seq S1.env.ex z)) fun z => .inr (Same.t S1.env.ex z), fun l hl => ?_⟩
    obtain ⟨S, t, n⟩ := S1.made hl rr
    exact k l _ _ _ _ q S t n
  cases d with
  | lst xs =>
    obtain ⟨p, ys, e, h1, h2⟩ := r1
    exact fin p ys xs e (.inl h1) h2 q
  | tup xs =>
    obtain ⟨p, ys, e, h1, h2⟩ := r1
    exact fin p ys xs e (.inr h1) h2 q
  | _ => exact (show False from q).elim
theorem sw_parOO {i j : Nat} (hn : i ≠ j) (h1 : EO K W ta o) (h2 : EO K W tb o2) : SW K W (tPar i j (tCons ta (tCons tb tNil))) (wParOO i j o o2) := fun c pa G H σ ds P D E hw hx he =>
  h1 c pa G H σ ds _ _ _ E hw hx fun p1 G1 H1 xs ds1 q S1 t1 n1 => h2 c pa G1 H1 σ ds1 _ _ _ S1.env q hx fun p2 G2 H2 ys ds2 q2 S2 t2 n2 => by
    have t1' := t1.stay S2
    have ne : p1 ≠ p2 := fun e => by
      obtain ⟨vs, h, _⟩ := t1.here
      rw [e] at h
      exact nomatch n2.symm.trans h
    refine ⟨.ref p1, .ref p2, rfl, he.nx _ G2 H2 _ _ q2 ((S2.env.setOwn i t1').setOwn j ⟨t2.g, t2.h0, t2.here, fun l dv h oo => ?_⟩)⟩
    show (if l = i then p1 else pa l) ≠ p2
    by_cases hl : l = i
    · rw [if_pos hl]
      exact ne
    · rw [if_neg hl]
      rw [gt_st, if_neg (fun z => hl z.1)] at h
      exact t2.ne l dv h oo
theorem Stp.write {c : C0} {pa : Nat → Addr} {G H : Hp} {σ : L2.St} {ds : DS} (E : Env K c pa G H σ ds) {i : Nat} {xs ys : List D} {ws : List V} (h : listAt ds i = some xs) (r : Reps K G ys ws) : Stp K c pa σ G H ds G (upd H (pa i) (.lst ws)) (refill ds i ys) := by
  obtain ⟨dv, d1, d2, _, _, _, _, vs, hh, _⟩ := E.lst h
  refine ⟨E.write h r, fun _ _ z => z, fun a o e n => ⟨by rw [upd_ne (n i dv d1 d2)]; exact e, rfl⟩, fun j dj e oo => ?_, fun a e => ?_⟩
  · obtain ⟨d0, e0, e1⟩ := isO_gt_refill e
    exact ⟨d0, e0, e1.trans oo⟩
  · by_cases ha : a = pa i
    · rw [ha, upd_same]
      exact nofun
    · rw [upd_ne ha]
      exact e
theorem Reps.erase {G : Hp} : ∀ {xs : List D} {vs : List V} (n : Nat), Reps K G xs vs → Reps K G (xs.eraseIdx n) (vs.eraseIdx n)
  | [], vs, n, r => by
    have r : vs = [] := r
    subst r
    exact rfl
  | d :: xs, vs, 0, r => by
    obtain ⟨x, ys, rfl, _, r2⟩ := r
    exact r2
  | d :: xs, vs, n + 1, r => by
    obtain ⟨x, ys, rfl, r1, r2⟩ := r
    exact ⟨x, ys.eraseIdx n, rfl, r1, Reps.erase n r2⟩
theorem ew_popAt {i : Nat} (h : EW K W ta a) : EW K W (tBM K "list" rPopAt (tVar i) (tCons ta tNil)) (wPopAt i a) := fun c pa G H σ ds xk kk Q E hw hx k => by
  obtain ⟨q0, hw⟩ := hw
  obtain ⟨zs, hz⟩ := isSome_at q0
  obtain ⟨_, _, _, _, _, _, _, vs0, hh0, _⟩ := E.lst hz
  refine ⟨_, own_ref E hz, .inl ⟨rfl, vs0, SqL.of hh0⟩, h c pa G H σ ds _ _ _ E hw hx fun v G1 H1 d ds1 q S1 r1 => ?_⟩
  obtain ⟨n, xs, rfl, hxs, ⟨n0, n1, n2⟩, q⟩ := int_list q
  obtain ⟨_, _, _, _, _, _, _, vs, hh, rr⟩ := S1.env.lst hxs
  have r1 : v = .int n := r1
  cases ez : xs[n.toNat]? with
  | none => rw [ez] at q; exact q.elim
  | some z =>
    rw [ez] at q
    obtain ⟨u, eu, ru⟩ := rr.get ez
    have ix : ixN vs.length n = some n.toNat := by
      unfold ixN
      rw [if_pos n0, if_pos (by rw [← rr.len]; exact n1)]
    have S2 := Stp.write S1.env hxs (Reps.erase n.toNat rr)
    exact ⟨pa i, vs, n, n.toNat, u, rfl, by rw [r1], hh, by omega, by omega, (ixN_seq ix).1, eu, k u _ _ z _ q (S1.trans S2) ru⟩
/-- {"..": int} -/
def wDct (s : Str) (i : Int) : WE := fun _ ds k => k (.dct [.inr s] [.int i]) ds
theorem ew_dct {s : Str} {i : Int} : EW K W (tDisp [(tC (.str s), tC (.int i))]) (wDct s i) := fun c pa G H σ ds xk kk Q E hw hx k p hp => by
  refine ⟨upd_same, [(.inr s, .int i)], rfl, by show 1 ≤ 15; decide, ?_⟩
  rw [upd_upd]
  have S := Stp.new E (o := .dK (mergeK [] [((.inr s : Key), V.int i)])) hp
  exact k _ _ _ _ ds hw S ⟨p, _, rfl, upd_same, rfl, .int i, [], rfl, rfl, rfl⟩
/-! ### in a derivation -/
variable {P : Program} {w : World} {mg : Str → Option Value} {base : Heap} {N : List Str} {k : Nat}
variable {F : Fam P w K mg base N k W} {e e2 : Expr} {x y : Str} {pos p p2 p3 p4 p5 : Pos} {qa qb : WE}
theorem neNilK {X : Cx} (h : X.K = K) (hu : X.A.units < cLine) : OpR X (compareOp .NotEq) (rNeNil K) := by subst h; exact op_neNil hu
/-- xs != [], the own list in slot i -/
theorem t_neO (i : Nat) (h : N[i]? = some x := by rfl) (hv : ∀ j, Vis (F.X j).env.scope x := by intro _; first | exact Or.inl rfl | exact Or.inr (Or.inl rfl) | exact Or.inr (Or.inr rfl))
    (hd : (x == ("__debug__" : Str)) = false := by decide) (hcd : (x == ("__classdict__" : Str)) = false := by decide) : DT F (.Compare (.Name x p) [.NotEq] [.List [] p2] pos) (wNeO i) :=
  ⟨_, fun j => pt_cmpR (neNilK (F.hK j) (by have := (F.room j).rm.un; omega)) (pe_var (i := i) (by rw [F.hN j]; exact h) (hv j) hd hcd) (pe_lst pa_nil) (nomark _), tw_neO⟩
theorem listOfK {X : Cx} (h : X.K = K) : CallR X (.type "list") (rListOf K) := by subst h; exact call_list_of
theorem o_listF (hm : mg "list" = none) (ha : DE F e qa) (hg : ∀ j, Gl (F.X j) "list" := by intro _; rfl) (hs : ∀ j, starEach [e] (F.X j).env = (false, eval e (F.X j).env) :: starEach [] (F.X j).env := by intro _; rfl) (hpl : ∀ j, (backTo pos (starEach [] (F.X j).env)).any (·.1) = false := by intro _; rfl) :
    DO F (.Call (.Name "list" p) [e] [] pos) (wListF qa) := by
  obtain ⟨t, h1, h2⟩ := ha
  exact ⟨_, fun j => pe_callTy (listOfK (F.hK j)) (hg j) (by rw [F.hm j]; exact hm) (by decide +kernel) (pa_cons (h1 j) pa_nil (hs j)) (by decide) (by decide) (hs j) (hpl j), eo_listF h2⟩
/-- x, y = [..], [..] -/
theorem s_parOO (i l : Nat) {kt k2 : Nat} (ha : DO F e o) (hb : DO F e2 o2) (hi : N[i]? = some x := by rfl) (hl : N[l]? = some y := by rfl) (hn : i ≠ l := by decide) (hx : ∀ j, (F.X j).env.scope.names.lookup x = some .local := by intro _; rfl) (hy : ∀ j, (F.X j).env.scope.names.lookup y = some .local := by intro _; rfl)
    (hw : ∀ j, swappedStores [.Tuple [.Name x p, .Name y p2] kt p3] (.Tuple [e, e2] k2 p4) (F.X j).env = pure (some [x, y]) := by intro _; rfl) (hs : ∀ j, swapsWithSole [.Tuple [.Name x p, .Name y p2] kt p3] (.Tuple [e, e2] k2 p4) pos.line (F.X j).env = pure false := by intro _; rfl)
    (h1 : ∀ j, starEach [e, e2] (F.X j).env = (false, eval e (F.X j).env) :: starEach [e2] (F.X j).env := by intro _; rfl) (h2 : ∀ j, starEach [e2] (F.X j).env = (false, eval e2 (F.X j).env) :: starEach [] (F.X j).env := by intro _; rfl) :
    DS1 F (.Assign [.Tuple [.Name x p, .Name y p2] kt p3] (.Tuple [e, e2] k2 p4) pos) (wParOO i l o o2) := by
  obtain ⟨t, t1, t2⟩ := ha
  obtain ⟨u, u1, u2⟩ := hb
  exact ⟨_, fun j => ps_par (F.calm j) (by rw [F.hN j]; exact F.nd) (by rw [F.hN j]; exact hi) (by rw [F.hN j]; exact hl) hn (hx j) (hy j) (pa_cons (t1 j) (pa_cons (u1 j) pa_nil (h2 j)) (h1 j)) (hw j) (hs j), sw_parOO hn t2 u2⟩
theorem popK {X : Cx} {to : TE} {t : TA} {a : Expr} {apos : Pos} (h : X.K = K) (ho : PE X e to) (ha : PA X [a] t) (hbase : attributeBase e "pop" X.env (eval e X.env) = eval e X.env)
    (hfew : ((backTo pos (starEach [a] X.env)).all (fun x => !x.1) && (backToKw pos (keywordEach [] X.env)).all (fun x => x.1.isSome) && decide ([a].length + ([] : List Keyword).length + (if ([] : List Keyword).isEmpty then 0 else 1) < 30)) = true)
    (hline : (apos.endLine == pos.line) = true) (hs : starEach [a] X.env = (false, eval a X.env) :: starEach [] X.env) (hplain : (backTo pos (starEach [] X.env)).any (·.1) = false) :
    PE X (.Call (.Attribute e "pop" apos) [a] [] pos) (tBM K "list" rPopAt to t) := by
  subst h
  exact pe_bm PySem.F.plainAttrs_list PySem.F.slot_list_pop PySem.F.type_list_pop mt_popAt ho ha hbase hfew hline hs hplain
/-- xs.pop(e), the own list in slot i -/
theorem d_popAt (i : Nat) {a : Expr} {apos cpos : Pos} (ha : DE F a qa) (h : N[i]? = some x := by rfl) (hv : ∀ j, Vis (F.X j).env.scope x := by intro _; first | exact Or.inl rfl | exact Or.inr (Or.inl rfl) | exact Or.inr (Or.inr rfl))
    (hd : (x == ("__debug__" : Str)) = false := by decide) (hcd : (x == ("__classdict__" : Str)) = false := by decide) (hbase : ∀ j, attributeBase (.Name x p) "pop" (F.X j).env (eval (.Name x p) (F.X j).env) = eval (.Name x p) (F.X j).env := by intro _; rfl)
    (hfew : ∀ j, ((backTo cpos (starEach [a] (F.X j).env)).all (fun x => !x.1) && (backToKw cpos (keywordEach [] (F.X j).env)).all (fun x => x.1.isSome) && decide ([a].length + ([] : List Keyword).length + (if ([] : List Keyword).isEmpty then 0 else 1) < 30)) = true := by intro _; rfl)
    (hline : (apos.endLine == cpos.line) = true := by rfl) (hs : ∀ j, starEach [a] (F.X j).env = (false, eval a (F.X j).env) :: starEach [] (F.X j).env := by intro _; rfl) (hplain : ∀ j, (backTo cpos (starEach [] (F.X j).env)).any (·.1) = false := by intro _; rfl) :
    DE F (.Call (.Attribute (.Name x p) "pop" apos) [a] [] cpos) (wPopAt i qa) := by
  obtain ⟨t, t1, t2⟩ := ha
  exact ⟨_, fun j => popK (F.hK j) (pe_var (i := i) (by rw [F.hN j]; exact h) (hv j) hd hcd) (pa_cons (t1 j) pa_nil (hs j)) (hbase j) (hfew j) hline (hs j) (hplain j), ew_popAt t2⟩
theorem d_dct {s : String} {i : Int} {k1 k2 : Nat} : DE F (.Dict [some (.Constant (.str s) k1 p)] [.Constant (.int i) k2 p2] pos) (wDct (Str.ofString s) i) :=
  ⟨_, fun _ => pe_disp (pps_cons pe_str pe_int pps_nil) rfl rfl (by exact fun z => nomatch z) (by show 1 ≤ 15; decide), ew_dct⟩
end
end DW

/-! DwS: x, y, z = a list that stands still. -/
namespace DW
open PySem PySem.Spec PyProof.Rows L2
/-- x, y, z = a list -/
def wAsgL (e : WE) (ts : List Tg) : WS := fun ds P => e P.x ds fun d ds1 => match d with | .lst xs => tgas ts xs ds1 P.nx | _ => False
section
variable {K : PySem.W.Frag} {W : WX}
theorem sw_asgL {te : TE} {a : WE} {gs : TGs} {ts : List Tg} {n : Nat} (h1 : EW K W te a) (h2 : GWs K gs ts) (hn : ts.length = n := by rfl) : SW K W (tAsg te (gLst K n gs)) (wAsgL a ts) := fun c pa G H σ ds P D E hw hx he =>
  h1 c pa G H σ ds _ _ _ E hw hx fun v G1 H1 d ds1 q S1 r1 => by
    cases d with
    | lst xs =>
      obtain ⟨a, ys, e, h3, h4⟩ := r1
      have q : tgas ts xs ds1 P.nx := q
      exact ⟨a, ys, e, L2.Same.seq S1.env.ex h3, by rw [← h4.len, tgas_len q tga_ex, hn], h2 c pa G1 H1 σ ds1 ys xs _ _ S1.env h4 q fun σ2 ds2 q2 E2 _ _ => he.nx pa G1 H1 σ2 ds2 q2 E2⟩
    | _ => exact (show False from q).elim
end
section
variable {P : Program} {w : World} {K : PySem.W.Frag} {mg : Str → Option Value} {base : Heap} {N : List Str} {k : Nat} {W : WX}
variable {F : Fam P w K mg base N k W} {e : Expr} {es : List Expr} {pos p2 : Pos} {qa : WE}
theorem gLstK {X : Cx} {g : TGs} {kk : Nat} {n : Nat} (h : X.K = K) (hc : X.calm = true) (hg : PGs X es g) (hn : (assignEach es X.env).length = n) (hst : (assignEach es X.env).findIdx? (·.1) = none) : PG X (.Tuple es kk pos) (gLst K n g) := by
  subst h
  exact pg_lst hc hg hn hst
/-- x, y, z = e, a list that stands still -/
theorem s_asgL {ts : List Tg} {kk : Nat} (he : DE F e qa) (h : DGs F es ts) (hn : ∀ j, (assignEach es (F.X j).env).length = ts.length := by intro _; rfl) (hst : ∀ j, (assignEach es (F.X j).env).findIdx? (·.1) = none := by intro _; rfl)
    (hs : ∀ j, swapsWithSole [.Tuple es kk p2] e pos.line (F.X j).env = pure false := by intro _; rfl) (hw : ∀ j, swappedStores [.Tuple es kk p2] e (F.X j).env = pure none := by intro _; rfl)
    (h1 : ∀ j, (assignEach [.Tuple es kk p2] (F.X j).env).map (·.2) = [assign (.Tuple es kk p2) (F.X j).env] := by intro _; rfl) : DS1 F (.Assign [.Tuple es kk p2] e pos) (wAsgL qa ts) := by
  obtain ⟨t, t1, t2⟩ := he
  obtain ⟨u, u1, u2⟩ := h
  exact ⟨_, fun j => ps_asg (t1 j) (gLstK (F.hK j) (F.calm j) (u1 j) (hn j) (hst j)) (hs j) (hw j) (h1 j), sw_asgL t2 u2⟩
end
end DW

/-! DwAA: x is True. -/
namespace DW
open PySem PySem.Spec PyProof.Rows L2
def dIs : B2 := fun x y k => match x, y with | .bl a, .bl b => k (.bl (decide (a = b))) | _, _ => False
def rIsB : R2 := fun x y H Q => ∃ a b, x = .bl a ∧ y = .bl b ∧ Q (.bl (decide (a = b))) H
theorem rw_is {K : PySem.W.Frag} : RW2 K rIsB dIs := fun G H x y d e kk Q ex rx ry h k => by
  cases d with
  | bl a =>
    cases e with
    | bl b => exact ⟨a, b, rx, ry, k _ _ h rfl⟩
    | _ => exact (show False from h).elim
  | _ => exact (show False from h).elim
section
variable {P : Program} {w : World} {K : PySem.W.Frag} {mg : Str → Option Value} {base : Heap} {N : List Str} {k : Nat} {W : WX}
variable {F : Fam P w K mg base N k W} {a b : Expr} {pos : Pos} {qa qb : WE}
theorem d_is (ha : DE F a qa) (hb : DE F b qb) : DE F (.Compare a [.Is] [b] pos) (wBin dIs qa qb) := d_cmp (fun _ => op_is_bl) rw_is ha hb (nomark _)
theorem t_is (ha : DE F a qa) (hb : DE F b qb) : DT F (.Compare a [.Is] [b] pos) (wTst (wBin dIs qa qb)) := t_cmp (fun _ => op_is_bl) rw_is ha hb (nomark _)
end
/-! a def that goes into itself -/
section
variable {P : Program} {w : World} {K : PySem.W.Frag} {mg : Str → Option Value} {base : Heap}
theorem CalF.rec' {x : Str} {f : Addr} {fd : FuncData} {ps : List Str} {sp : Nat → FS} (no : ∀ dvs kk, ¬ sp 0 dvs kk) (gm : mg x = some (.ref f)) (kp : PySem.W.keepIn K (.ref f) = true) (bb : Binds K fd ps [])
    (step : ∀ n, Cal P w K mg base n x ps (sp n) → CalF P w K mg base (n + 1) x ps (sp (n + 1)) f fd) : ∀ n, CalF P w K mg base n x ps (sp n) f fd
  | 0 => ⟨fnG_none (fun _ _ _ _ h => by
      obtain ⟨G, pa, dvs, kk, _, _, hf, _⟩ := h
      exact no dvs kk hf) 0, gm, kp⟩
  | n + 1 => step n ((CalF.rec' no gm kp bb step n).cal bb)
end
/-! tuple(xs) -/
def wTupF (a : WE) : WE := fun x ds k => a x ds fun d ds1 => match d with | .lst xs => k (.tup xs) ds1 | .tup xs => k (.tup xs) ds1 | _ => False
section
variable {K : PySem.W.Frag} {W : WX} {ta : TE} {a : WE}
theorem ew_tupF (h : EW K W ta a) : EW K W (tCB (rTupOf K) (tCons ta tNil)) (wTupF a) := fun c pa G H σ ds xk kk Q E hw hx k => by
  refine h c pa G H σ ds xk _ _ E hw hx fun v G1 H1 d ds1 q S1 r1 => ?_
  cases d with
  | lst xs =>
    obtain ⟨p, ys, e, h1, h2⟩ := r1
    refine ⟨p, ys, by rw [e], .inl ⟨L2.Same.seq S1.env.ex h1, fun l hl => ?_⟩⟩
    have S2 := Stp.new S1.env (o := .tup ys) hl
    exact k _ _ _ _ _ q (S1.trans S2) ⟨l, ys, rfl, SqT.of upd_same, h2.mono S2.sg⟩
  | tup xs =>
    obtain ⟨p, ys, e, h1, h2⟩ := r1
    exact ⟨p, ys, by rw [e], .inr ⟨Same.t S1.env.ex h1, k _ _ _ _ _ q S1 ⟨p, ys, rfl, h1, h2⟩⟩⟩
  | _ => exact (show False from q).elim
end
section
variable {P : Program} {w : World} {K : PySem.W.Frag} {mg : Str → Option Value} {base : Heap} {N : List Str} {k : Nat} {W : WX}
variable {F : Fam P w K mg base N k W} {e : Expr} {p pos : Pos} {qa : WE}
theorem tupOfK2 {X : Cx} (h : X.K = K) : CallR X (.type "tuple") (rTupOf K) := by subst h; exact call_tuple_of
theorem d_tupF (hm : mg "tuple" = none) (ha : DE F e qa) (hg : ∀ j, Gl (F.X j) "tuple" := by intro _; rfl) (hs : ∀ j, starEach [e] (F.X j).env = (false, eval e (F.X j).env) :: starEach [] (F.X j).env := by intro _; rfl) (hpl : ∀ j, (backTo pos (starEach [] (F.X j).env)).any (·.1) = false := by intro _; rfl) :
    DE F (.Call (.Name "tuple" p) [e] [] pos) (wTupF qa) := by
  obtain ⟨t, h1, h2⟩ := ha
  exact ⟨_, fun j => pe_callTy (tupOfK2 (F.hK j)) (hg j) (by rw [F.hm j]; exact hm) (by decide +kernel) (pa_cons (h1 j) pa_nil (hs j)) (by decide) (by decide) (hs j) (hpl j), ew_tupF h2⟩
end
end DW

/-! DwBB: several clauses `except X as e`. -/
namespace L2
open PySem PySem.Spec PyProof.Rows
/-- what the clauses wish of an exception of the body, one after the other: slot i is the caught one's -/
def wAsM (K : PySem.W.Frag) (i : Nat) (Wout : WX) (D : Ends) : List (Value × (Addr → Value → Option Addr → TS)) → WX
  | [] => Wout
  | (c, ts) :: r => fun cls d σ H => ∃ b, PySem.W.exmOne K cls c = some b ∧
      (b = true → ∀ a, H a = none → ts a cls d { nx := fun σ' H' => D.nx (σ'.set i none) H', rt := D.rt, bk := fun σ' H' => D.bk (σ'.set i none) H', ct := fun σ' H' => D.ct (σ'.set i none) H' } (σ.set i (some (.ref a))) H) ∧
      (b = false → wAsM K i Wout D r cls d σ H)
inductive HdsA (X : Cx) (n : Str) : List ExceptHandler → List (Value × (Addr → Value → Option Addr → TS)) → Prop
  | nil : HdsA X n [] []
  | cons {x : Str} {c : Value} {ts : Addr → Value → Option Addr → TS} {b₀ : Stmt} {suite : List Stmt} {np pos' : Pos} {hds : List ExceptHandler} {l : List (Value × (Addr → Value → Option Addr → TS))} (hc : Names X x c)
      (hsu : ∀ (a : Addr) (oe : Obj) (cls : Value) (d : Option Addr) (pn : List (Addr × Obj)), Zc cls d oe → (∃ vs, oe.data = .fields vs) → PSs (X.suite a ((a, oe) :: pn)) (b₀ :: suite) (ts a cls d)) (r : HdsA X n hds l) :
      HdsA X n (.ExceptHandler (some (.Name x np)) (some n) (b₀ :: suite) pos' :: hds) ((c, ts) :: l)
section
variable {X : Cx} {n : Str} {i : Nat} {body : List Stmt} {h₀ : ExceptHandler} {hds : List ExceptHandler} {l : List (Value × (Addr → Value → Option Addr → TS))} {pos : Pos} {tb : WX → TS} {Wout : WX}
theorem ps_try_asM (hs : X.stack = X.env :: X.outer) (hf : X.env.frame = some X.env.locals) (hN : X.N.Nodup) (hi : X.N[i]? = some n) (hln : X.env.kindOf n = some .local) (tk : Takes X Wout)
    (hb : ∀ (W : WX) (pn : List (Addr × Obj)) (xe : Value → Shared → Prop), Takes (X.tr pn xe) W → PassesOwn (model X.prog X.w) X.A X.env xe → PSs (X.tr pn xe) body (tb W))
    (hh : HdsA X n (h₀ :: hds) l) : PS X (.Try body (h₀ :: hds) [] [] pos) (fun D σ H => tb (wAsM X.K i Wout D l) D σ H) := by
  refine ⟨fun pins s σ H D I h => ?_⟩
  have ok := I.ok
  have hfr : X.A.frames = some (X.env :: X.outer) := by rw [ok.frames, hs]
  have hloc : Loc X.env.scope n := .inl hln
  refine wpAny_Try_except ?_
  refine wpAny_mono ((hb (wAsM X.K i Wout D l) (X.pn ++ pins) (fun e s₁ => wpAny (model X.prog X.w) X.A (noteFrame e X.env) (fun _ s₂ => wpAny (model X.prog X.w) X.A (setFlight e none) (fun _ s₃ =>
    wpAny (model X.prog X.w) X.A (handleBy e X.env (h₀ :: hds)) (SP X pins D) X.xe s₃) X.xe s₂) X.xe s₁) (fun u s' xx => ?_) PassesOwn.looking).run [] s σ H D (I.toTry _) h) (fun f s1 hsp => ?_) (fun e s1 he => he)
  · -- the catch
    obtain ⟨a, B, sI, pins', σ', H', cls, d, rfl, J', nb, up, sky, na, os, ag, w⟩ := xx
    have J : Inv X pins σ' H' sI := J'.ofTry ok
    have sky' : Sky B (X.env :: X.outer) a (Zc cls d) X.env.locals s'.heap := by rw [← hs]; exact sky
    show wpAny (model X.prog X.w) X.A (noteFrame (.ref a) X.env) _ _ _
    refine Sky.land Zc.steady hfr hf sky' fun h3 fl3 up3 => ?_
    have J3 : Inv X pins σ' H' { s' with heap := h3 } := J.landed nb fl3.1 (up.trans up3) os ag
    obtain ⟨oe3, vs3, he3, hz3, hd3⟩ := fl3.there
    have notFr : ∀ {h : Heap} {o : Obj} {vs : Array Value}, h.FunFrames B (X.env :: X.outer) → h.get? a = some o → o.data = .fields vs → a ∉ frs (X.env :: X.outer) := fun {h o vs} ff e dd hm => by
      obtain ⟨_, o', e', hnf⟩ := ff.mem hm
      rw [e] at e'; cases e'
      exact hnf _ dd
    have nfr := notFr fl3.2.2.1 he3 hd3
    have nL : a ≠ X.env.locals := fun z => nfr (List.mem_filterMap.mpr ⟨X.env, List.mem_cons_self, by rw [hf, z]⟩)
    have nF : a ∉ X.fs := fun hm => by
      obtain ⟨e, he, q⟩ := List.mem_filterMap.mp hm
      exact nfr (List.mem_filterMap.mpr ⟨e, List.mem_cons_of_mem _ he, q⟩)
    have S3 := J3.suite he3 hd3 na nL nF
    have go : ∀ {hds' : List ExceptHandler} {l' : List (Value × (Addr → Value → Option Addr → TS))}, HdsA X n hds' l' → wAsM X.K i Wout D l' cls d σ' H' →
        wpAny (model X.prog X.w) X.A (handleBy (.ref a) X.env hds') (SP X pins D) X.xe { s' with heap := h3 } := by
      intro hds' l' hk
      induction hk with
      | nil =>
        intro w
        refine wpAny_handleBy_nil ?_
        obtain ⟨k1, k2, k3, oe, vs, T, oT, ts', he, hz, hd, h1, hr⟩ := id fl3
        unfold PySem.passOn
        refine wpAny_bind (wpAny_field he hd h1 ?_)
        rw [if_neg (show ¬ ((Value.ref T == Value.none) = true) from by simp)]
        have fin : wpAny (model X.prog X.w) X.A (setFlight (.ref a) X.env.frame) (fun _ s4 => wpAny (model X.prog X.w) X.A (throw (.ref a) : Sem Flow) (SP X pins D) X.xe s4) X.xe { s' with heap := h3 } := by
          rw [hf]
          refine HandSPX.setFlight_upZ fl3 fun h4 hh4 up4 => wpAny_throw (tk _ _ ?_)
          exact ⟨a, B, sI, pins, σ', H', cls, d, rfl, J, nb, (up.trans up3).trans up4, .inr (.inr (by rw [hs]; exact hh4)), na, os, ag, w⟩
        first
          | exact wpAny_bind (wpAny_pure (wpAny_bind fin))
          | exact wpAny_bind fin
      | @cons x c ts b₀ suite np pos' hds2 l2 hc hsu r ih =>
        intro w
        obtain ⟨b, hb1, hyes, hno⟩ := w
        refine wpAny_handleBy_cons (codeAny_handlers_test ?_) (by intro q; cases q)
        have LT : PySem.W.Looks (model X.prog X.w) h3 (typeOf (.ref a)) cls := fun A Q E s k q => wpAny_typeOf_ref (k _ _ he3) (by rw [hz3.1]; exact q)
        have LM := PySem.W.exm_one (M := model X.prog X.w) (J3.kIn) LT hb1
        have test : ∀ {Q : Value → Shared → Prop} {E : Value → Shared → Prop}, Q c { s' with heap := h3 } → wpAny (model X.prog X.w) (X.A.mark (some (.ref a))) (eval (.Name x np) X.env) Q E { s' with heap := h3 } := fun {Q E} q => by
          obtain ⟨hg, hdbg, hm | ⟨hm, hv, hnn⟩⟩ := hc
          · exact ld_glob (X := X.suite a ((a, oe3) :: (X.pn ++ pins))) S3 hg hm q hdbg
          · exact ld_blt (X := X.suite a ((a, oe3) :: (X.pn ++ pins))) S3 hg hm hv q hnn hdbg
        refine test (LM.here ?_)
        cases b with
        | true =>
          refine codeAny_handlers_suite_as ?_
          refine HandSPX.lands_againZ fl3 fun h4 fl4 up4 => ?_
          have J4 : Inv X pins σ' H' { s' with heap := h4 } := J.landed nb fl4.1 ((up.trans up3).trans up4) os ag
          obtain ⟨oe4, vs4, he4, hz4, hd4⟩ := fl4.there
          have S4 := J4.suite he4 hd4 na nL nF
          refine store_ok (X := X.suite a ((a, oe4) :: (X.pn ++ pins))) (v := .ref a) S4 hN hi hloc rfl (fun s5 S5 => ?_) (.inr hln)
          refine wpAny_mono ((hsu a oe4 cls d (X.pn ++ pins) hz4 ⟨_, hd4⟩).run [] s5 _ H' _ S5 (hyes rfl a na)) (fun f s6 hsp => ?_) (fun _ _ z => False.elim z)
          have end_ : ∀ {σ6 : St} {H6 : Hp} {Q : Shared → Prop}, Inv (X.suite a ((a, oe4) :: (X.pn ++ pins))) [] σ6 H6 s6 → (∀ s7, Inv X pins (σ6.set i none) H6 s7 → Q s7) →
              wpAny (model X.prog X.w) X.A (do bindName X.env n .none; unbindBehindTheSuite X.env n pos') (fun _ s7 => Q s7) X.xe s6 := fun {σ6 H6 Q} S6 hq => gone_ok (S6.unsuite ok) hN hi hln hq
          cases f with
          | next =>
            obtain ⟨σ6, H6, S6, q6⟩ := hsp
            exact end_ S6 fun s7 J7 => ⟨_, _, J7, q6⟩
          | brk =>
            obtain ⟨σ6, H6, S6, q6⟩ := hsp
            exact end_ S6 fun s7 J7 => ⟨_, _, J7, q6⟩
          | cont =>
            obtain ⟨σ6, H6, S6, q6⟩ := hsp
            exact end_ S6 fun s7 J7 => ⟨_, _, J7, q6⟩
          | ret u =>
            obtain ⟨v6, σ6, H6, S6, r6, q6⟩ := hsp
            exact end_ S6 fun s7 J7 => ⟨_, _, _, J7, r6, q6⟩
        | false =>
          show wpAny _ X.A (handleBy (.ref a) X.env hds2) _ _ _
          exact ih (hno rfl)
    exact go hh w
  · cases f with
    | next =>
      obtain ⟨σ', H', J', q⟩ := hsp
      exact wpAny_execs_nil ⟨σ', H', J'.ofTry ok, q⟩
    | brk =>
      obtain ⟨σ', H', J', q⟩ := hsp
      exact ⟨σ', H', J'.ofTry ok, q⟩
    | cont =>
      obtain ⟨σ', H', J', q⟩ := hsp
      exact ⟨σ', H', J'.ofTry ok, q⟩
    | ret u =>
      obtain ⟨v, σ', H', J', r, q⟩ := hsp
      exact ⟨v, σ', H', J'.ofTry ok, r, q⟩
end
end L2
namespace DW
open PySem PySem.Spec PyProof.Rows L2
section
variable {K : PySem.W.Frag}
/-- one clause of several: its class's name, its word, the class -/
structure Cla where
  cn : Str
  w : Str
  C : Addr
/-- the clauses' suites -/
def clasW (K : PySem.W.Frag) (T : Addr) : List Cla → List (Value × (Addr → Value → Option Addr → TS))
  | [] => []
  | c :: r => (.ref c.C, fun a cls d => tHd K T c.C c.w (fldOf c.cn) a cls d) :: clasW K T r
def clasT : List Cla → List (Str × Str)
  | [] => []
  | c :: r => (c.cn, c.w) :: clasT r
/-- what is known of the classes -/
def ClasOk (K : PySem.W.Frag) (T : Addr) : List Cla → List Cla → Prop
  | _, [] => True
  | ahead, c :: r => PySem.W.nsIn K mainGlobals c.cn = some (some (.ref c.C)) ∧ ExcC K c.C ∧ PySem.W.exmOne K (.ref c.C) (.ref c.C) = some true ∧ PySem.W.kitOne K (.ref c.C) (.ref T) = some true ∧ (∀ b ∈ ahead, PySem.W.exmOne K (.ref c.C) (.ref b.C) = some false) ∧ ClasOk K T (ahead ++ [c]) r
theorem hd_from {T : Addr} {c : Cla} {D : Ends} {σ : L2.St} {H : Hp} {dd : Addr} {x : V} (ec : ExcC K c.C) (em : PySem.W.exmOne K (.ref c.C) (.ref c.C) = some true) (kt : PySem.W.kitOne K (.ref c.C) (.ref T) = some true) (hd : H dd = some (.xd [(fldOf c.cn, x)])) (hl : σ.length = 7)
    (k : ∀ σ' l, H l = none → σ'[3]? = σ[3]? → σ'[4]? = σ[4]? → σ'[5]? = some (some (.ref l)) → D.nx σ' (upd H l (.lst [.str c.w, x]))) : ∀ (ahead r : List Cla), (∀ b ∈ ahead, PySem.W.exmOne K (.ref c.C) (.ref b.C) = some false) → wAsM K 6 Wn D (clasW K T (ahead ++ c :: r)) (.ref c.C) (some dd) σ H
  | [], r, _ => ⟨true, em, fun _ a _ => hd_suite ec kt hd hl k, fun z => nomatch z⟩
  | b :: ahead, r, ha => ⟨false, ha b (.head _), fun z => (nomatch z), fun _ => hd_from ec em kt hd hl k ahead r fun q hq => ha q (.tail _ hq)⟩
theorem hd_any {T : Addr} : ∀ (l ahead : List Cla), ClasOk K T ahead l → ∀ (D : Ends) (σ : L2.St) (H : Hp) (cn w : Str) (C dd : Addr) (x : V), (cn, w) ∈ clasT l → PySem.W.nsIn K mainGlobals cn = some (some (.ref C)) → H dd = some (.xd [(fldOf cn, x)]) → σ.length = 7 →
    (∀ σ' t, H t = none → σ'[3]? = σ[3]? → σ'[4]? = σ[4]? → σ'[5]? = some (some (.ref t)) → D.nx σ' (upd H t (.lst [.str w, x]))) → wAsM K 6 Wn D (clasW K T (ahead ++ l)) (.ref C) (some dd) σ H
  | [], _, _, _, _, _, _, _, _, _, _, hm, _, _, _, _ => nomatch hm
  | c :: l, ahead, ok, D, σ, H, cn, w, C, dd, x, hm, hC, hd, hl, k => by
    obtain ⟨n1, ec, em, kt, no, ok⟩ := ok
    have hm : (cn, w) ∈ (c.cn, c.w) :: clasT l := hm
    rcases List.mem_cons.mp hm with e | hm
    · cases e
      rw [n1] at hC
      cases hC
      exact hd_from ec em kt hd hl k ahead l no
    · have := hd_any l (ahead ++ [c]) ok D σ H cn w C dd x hm hC hd hl k
      rw [List.append_assoc] at this
      exact this
theorem hd_many {T : Addr} {l : List Cla} (ok : ClasOk K T [] l) : HdOk K (clasT l) (fun D => wAsM K 6 Wn D (clasW K T l)) := fun D σ H cn w C dd x hm hC hd hl k => hd_any l [] ok D σ H cn w C dd x hm hC hd hl k
end
theorem fun1_of {l : List (Str × Str)} (h : (l.map (·.1)).Nodup) : Fun1 l := by
  intro c w w' h1 h2
  induction l with
  | nil => exact nomatch h1
  | cons p l ih =>
    have h : (p.1 :: l.map (·.1)).Nodup := h
    obtain ⟨n1, n2⟩ := List.nodup_cons.mp h
    rcases List.mem_cons.mp h1 with e1 | m1
    · rcases List.mem_cons.mp h2 with e2 | m2
      · exact congrArg (·.2) (e1.trans e2.symm)
      · exact (n1 (List.mem_map.mpr ⟨_, m2, by rw [← e1]⟩)).elim
    · rcases List.mem_cons.mp h2 with e2 | m2
      · exact (n1 (List.mem_map.mpr ⟨_, m1, by rw [← e2]⟩)).elim
      · exact ih n2 m1 m2
end DW

/-! DwCC: a thing's worth, whichever object it is; sorted of (int, (int, int)). -/
namespace SrtO
open PySem PyProof.Rows Srt
def IsNest (h : Heap) (v : Value) (x y z : Int) : Prop := ∃ a o t u n, v = .ref a ∧ h.get? a = some o ∧ o.cls = .type "tuple" ∧ o.data = .seq #[.int x t, u] n ∧ IsPair h u y z
theorem IsNest.keeps {h h' : Heap} {v : Value} {x y z : Int} (p : IsNest h v x y z) (k : ∀ b o, h.get? b = some o → o.cls = .type "tuple" → h'.get? b = some o) : IsNest h' v x y z := by
  obtain ⟨a, o, t, u, n, e, ho, hc, hd, hp⟩ := p
  exact ⟨a, o, t, u, n, e, k _ _ ho hc, hc, hd, hp.keeps k⟩
def lex3 (p q : Int × Int × Int) : Bool := if p.1 = q.1 then lexB p.2 q.2 else decide (p.1 < q.1)
theorem lex3_iff {p q : Int × Int × Int} : lex3 p q = true ↔ p.1 < q.1 ∨ (p.1 = q.1 ∧ (p.2.1 < q.2.1 ∨ (p.2.1 = q.2.1 ∧ p.2.2 < q.2.2))) := by
  unfold lex3
  by_cases e : p.1 = q.1
  · rw [if_pos e, lexB_iff]
    omega
  · rw [if_neg e, decide_eq_true_eq]
    omega
theorem lex3_no {p q : Int × Int × Int} : lex3 p q = false ↔ ¬ (p.1 < q.1 ∨ (p.1 = q.1 ∧ (p.2.1 < q.2.1 ∨ (p.2.1 = q.2.1 ∧ p.2.2 < q.2.2)))) := by
  rw [← lex3_iff]
  cases lex3 p q <;> simp
theorem swo_lex3 {α : Type} (k : α → Int × Int × Int) : Swo fun v u => lex3 (k v) (k u) := by
  refine ⟨fun x y h => ?_, fun x y z h1 h2 => ?_⟩
  · have a := lex3_iff.mp h
    refine lex3_no.mpr ?_
    omega
  · have a := lex3_no.mp h1
    have b := lex3_no.mp h2
    refine lex3_no.mpr ?_
    omega
section
variable {prog : Program} {w : World} {A : Around} {E : Value → Shared → Prop} {s : Shared}
theorem pair_eqAt {u u' : Value} {y z y' z' : Int} (hu : A.units + 1 < cLine) (h1 : IsPair s.heap u y z) (h2 : IsPair s.heap u' y' z') : SeqAt.EqAt A s u u' (y == y' && z == z') := by
  obtain ⟨a, o, t, t2, n, e, ho, hc, hd⟩ := h1
  obtain ⟨a', o', t', t2', n', e', ho', hc', hd'⟩ := h2
  subst e e'
  by_cases ha : a = a'
  · subst ha
    rw [ho] at ho'
    cases ho'
    rw [hd] at hd'
    injection hd' with q _
    simp only [Array.mk.injEq, List.cons.injEq, Value.int.injEq, and_true] at q
    obtain ⟨⟨q1, _⟩, ⟨q2, _⟩⟩ := q
    rw [q1, q2]
    simp only [BEq.rfl, Bool.and_self]
    exact SeqAt.EqAt.same _
  · have l1 : s.heap.IsTuple a #[.int y t, .int z t2] := ⟨o, ho, hc, n, by first | exact hd | exact hd.1⟩
    have l2 : s.heap.IsTuple a' #[.int y' t', .int z' t2'] := ⟨o', ho', hc', n', by first | exact hd' | exact hd'.1⟩
    have e : ((List.range (min 2 2)).all (fun j => if j = 0 then y == y' else z == z') && (2 == 2)) = (y == y' && z == z') := by
      simp [List.range, List.range.loop]
    rw [← e]
    refine SeqAt.EqAt.of_refs ha (SeqAt.RcAt.tuples l1 l2 (by omega) fun j h1 h2 => ?_)
    match j, h1, h2 with
    | 0, _, _ => exact SeqAt.EqAt.int_int _ _ _ _
    | 1, _, _ => exact SeqAt.EqAt.int_int _ _ _ _
theorem nest_cmp {vs : List Value} {k : Value → Int × Int × Int} (hu : A.units + 1 < cLine) (hp : ∀ v ∈ vs, IsNest s.heap v (k v).1 (k v).2.1 (k v).2.2) : Cmp prog w A s (tuples' true) (fun p => p.1 ∈ vs) (lt2 fun v u => lex3 (k v) (k u)) := by
  intro p q hm hm'
  have h1 := hp _ hm
  have h2 := hp _ hm'
  show wpAny (model prog w) A (keyLt' (tuples' true) p.1 q.1) (fun r s' => s' = s ∧ r = lex3 (k p.1) (k q.1)) (fun _ _ => False) s
  unfold lex3 lexB
  generalize (k p.1).1 = x at h1 ⊢
  generalize (k p.1).2.1 = y at h1 ⊢
  generalize (k p.1).2.2 = z at h1 ⊢
  generalize (k q.1).1 = x' at h2 ⊢
  generalize (k q.1).2.1 = y' at h2 ⊢
  generalize (k q.1).2.2 = z' at h2 ⊢
  obtain ⟨a, o, t, u, n, e, ho, hc, hd, p1⟩ := h1
  obtain ⟨a', o', t', u', n', e', ho', hc', hd', p2⟩ := h2
  rw [e, e']
  refine PySem.W.kat_lt ho hd ho' hd' ?_
  show PySem.W.KatLex prog w A true (decide (2 < 2)) _ [(.int x t, .int x' t'), (u, u')] 0 s
  refine PySem.W.kat_cons (SeqAt.EqAt.int_int x t x' t' prog w _ _ ?_)
  refine PySem.W.kat_go (fun e1 => ?_) (fun e1 => ?_)
  · have ex : x = x' := by simpa using e1
    rw [if_pos ex]
    refine PySem.W.kat_yes (PySem.W.kat_cons (pair_eqAt hu p1 p2 prog w _ _ ?_))
    refine PySem.W.kat_go (fun e2 => ?_) (fun e2 => ?_)
    · have ey : y = y' ∧ z = z' := by simpa using e2
      rw [if_pos ey.1, ey.2]
      exact PySem.W.kat_yes (PySem.W.kat_nil ⟨rfl, by simp⟩)
    · refine PySem.W.kat_no ?_
      show wpAny _ _ (oneLt' false _ _) _ _ _
      obtain ⟨b, ob, tb, tb2, nb, eb, hb, cb, db⟩ := p1
      obtain ⟨b', ob', tb', tb2', nb', eb', hb', cb', db'⟩ := p2
      subst eb eb'
      refine PySem.W.kat_one _ _ (HT.lt_tupInts (ns := [y, z]) (ms := [y', z']) ⟨ob, hb, cb, nb, by first | exact db | exact db.1⟩ ⟨ob', hb', cb', nb', by first | exact db' | exact db'.1⟩ (.cons _ _ (.cons _ _ .nil)) (.cons _ _ (.cons _ _ .nil)) (by omega) ⟨rfl, ?_⟩)
      simp only [HT.lexLt_cons, HT.lexLt_nil_nil]
      by_cases ey : y = y'
      · rw [if_pos ey, if_pos ey]
        by_cases ez : z = z'
        · rw [if_pos ez, ez]
          simp
        · rw [if_neg ez]
      · rw [if_neg ey, if_neg ey]
  · have ex : ¬ x = x' := by simpa using e1
    rw [if_neg ex]
    exact PySem.W.kat_no (oneLt_int ⟨rfl, rfl⟩)
theorem nestFirsts {h : Heap} : ∀ {vs : List Value}, (∀ v ∈ vs, ∃ x y z, IsNest h v x y z) → ∃ fs : List Value, PySem.W.KatTups h vs fs ∧ fs.length = vs.length ∧ ∀ f ∈ fs, ∃ x t, f = Value.int x t
  | [], _ => ⟨[], PySem.W.KatTups.nil, rfl, fun _ hm => by simp at hm⟩
  | v :: vs, hp => by
    obtain ⟨fs, h1, h2, h3⟩ := nestFirsts (vs := vs) fun v' hm => hp v' (List.mem_cons_of_mem _ hm)
    obtain ⟨x, y, z, a, o, t, u, n, e, ho, hc, hd, _⟩ := hp v (List.mem_cons_self ..)
    subst e
    refine ⟨.int x t :: fs, PySem.W.KatTups.cons ho hc hd rfl h1, by rw [List.length_cons, List.length_cons, h2], fun f hm => ?_⟩
    rcases List.mem_cons.mp hm with rfl | hm
    · exact ⟨x, t, rfl⟩
    · exact h3 f hm
theorem nests_sortable {a : Addr} {vs : List Value} {k : Value → Int × Int × Int} (hu : A.units + 1 < cLine) (h0 : 0 < vs.length) (hp : ∀ v ∈ vs, IsNest s.heap v (k v).1 (k v).2.1 (k v).2.2) (ha : ∀ o, s.heap.get? a = some o → o.cls ≠ .type "tuple") : SortableO prog w A s a vs fun v u => lex3 (k v) (k u) := by
  intro h' keep
  have hp' : ∀ v ∈ vs, IsNest h' v (k v).1 (k v).2.1 (k v).2.2 := fun v hm => (hp v hm).keeps fun b o e c => keep b o (fun z => by subst z; exact ha o e c) e
  obtain ⟨fs, h1, h2, h3⟩ := nestFirsts fun v hm => ⟨_, _, _, hp' v hm⟩
  refine ⟨tuples' true, fun Q E hq => ?_, nest_cmp hu hp'⟩
  refine PySem.W.kat_kind (T := .type "int") h1 (by omega) (fun f hm => ?_) (by rfl) ?_
  · obtain ⟨x, t, rfl⟩ := h3 f hm
    exact PySem.W.Looks.now
  · have e : (Value.type "int" != Value.type "tuple") = true := by first | decide +kernel | rfl | decide
    rw [e]
    exact hq
theorem sorted_nests {l : Addr} {vs : List Value} {k : Value → Int × Int × Int} {Q : Value → Shared → Prop} (hu : A.units + 3 < cLine) (hl : s.heap.IsList l vs.toArray) (hz : vs.length ≤ sizeLine) (hp : ∀ v ∈ vs, IsNest s.heap v (k v).1 (k v).2.1 (k v).2.2)
    (h : ∀ (h' : Heap) (d : Addr) (out : List Value), Srtd (fun v u => lex3 (k v) (k u)) out → Stb (fun v u => lex3 (k v) (k u)) out vs → (∀ b o, s.heap.get? b = some o → h'.get? b = some o) → s.heap.objs.size ≤ d → (∃ n, h'.get? d = some (seqObj "list" out.toArray n)) → Q (.ref d) { s with heap := h' }) :
    wpAny (model prog w) A (call (.builtin "sorted") [.ref l]) Q E s := by
  refine sorted_ord (swo_lex3 k) hl hz (fun h2 h₁ a ha kk => ?_) fun out hs hb => ?_
  · refine nests_sortable (s := { s with heap := h₁ }) (by show A.units + 1 + 1 + 1 < cLine; omega) (by omega) (fun v hm => (hp v hm).keeps fun b o e _ => (kk b o e).2) fun o e => ?_
    have e' : some o = some (seqObj "list" vs.toArray 0) := e.symm.trans ha
    cases e'
    intro c
    exact absurd (Value.type.inj c) (by decide)
  · exact h _ _ out hs hb (fun b o e => sortedAll_old e) (Nat.le_succ _) (sortedAll_at s.heap vs out.toArray)
end
end SrtO
namespace L2
open PySem PySem.Spec PyProof.Rows
def Nest (K : PySem.W.Frag) (H : Hp) (x : V) (t : Int × Int × Int) : Prop := ∃ p q, x = .ref p ∧ SqT K H p [.int t.1, .ref q] ∧ SqT K H q [.int t.2.1, .int t.2.2]
def Nests (K : PySem.W.Frag) (H : Hp) : List V → List (Int × Int × Int) → Prop
  | [], ts => ts = []
  | x :: xs, ts => ∃ t r, ts = t :: r ∧ Nest K H x t ∧ Nests K H xs r
/-- sorted(xs), xs a list of (int, (int, int)): a new list of the same ones, in order -/
def rSorted3 (K : PySem.W.Frag) : List V → Hp → VK → Prop := fun vs H Q => ∃ (a : Addr) (xs : List V) (ts : List (Int × Int × Int)), vs = [V.ref a] ∧ SqL K H a xs ∧ Nests K H xs ts ∧
  ∀ (ps : List (V × Int × Int × Int)) p, ps.Perm (xs.zip ts) → ps.Pairwise (fun x y => SrtO.lex3 y.2 x.2 = false) → H p = none → Q (.ref p) (upd H p (.lst (ps.map (·.1))))
section
variable {X : Cx}
theorem Nest.heap {pins : List (Addr × Obj)} {σ : St} {H : Hp} {s : Shared} {x : V} {t : Int × Int × Int} {u : Value} (I : Inv X pins σ H s) (h : Nest X.K H x t) (r : RelV x u) : ∃ p, x = .ref p ∧ SrtO.IsNest s.heap u t.1 t.2.1 t.2.2 := by
  obtain ⟨p, q, rfl, h1, h2⟩ := h
  obtain rfl : u = .ref p := r
  obtain ⟨its, v1, ⟨o, ho, hc, n, hd⟩, _⟩ := I.tuple h1
  obtain ⟨its2, v2, ⟨o2, ho2, hc2, n2, hd2⟩, _⟩ := I.tuple h2
  obtain ⟨a1, a2, rfl, ⟨t1, rfl⟩, r2⟩ := vals2 v1
  obtain rfl : a2 = .ref q := r2
  obtain ⟨b1, b2, rfl, ⟨t2, rfl⟩, ⟨t3, rfl⟩⟩ := vals2 v2
  exact ⟨p, rfl, p, o, t1, _, n, rfl, ho, hc, hd, q, o2, t2, t3, n2, rfl, ho2, hc2, hd2⟩
theorem Nests.heap {pins : List (Addr × Obj)} {σ : St} {H : Hp} {s : Shared} (I : Inv X pins σ H s) : ∀ {xs : List V} {ts : List (Int × Int × Int)} {us : List Value}, Nests X.K H xs ts → Vals xs us →
    (∀ x ∈ xs, ∃ p, x = V.ref p) ∧ ∀ (k : Value → Int × Int × Int), (∀ u t, SrtO.IsNest s.heap u t.1 t.2.1 t.2.2 → k u = t) → ts = us.map k ∧ ∀ u ∈ us, SrtO.IsNest s.heap u (k u).1 (k u).2.1 (k u).2.2
  | [], ts, _, h, .nil => by
    have h : ts = [] := h
    subst h
    exact ⟨nofun, fun _ _ => ⟨rfl, nofun⟩⟩
  | x :: xs, ts, _, h, .cons (b := u) r rs => by
    obtain ⟨t, ts', rfl, h1, h2⟩ := h
    obtain ⟨p, e, n⟩ := h1.heap I r
    obtain ⟨i1, i2⟩ := Nests.heap I h2 rs
    refine ⟨fun y m => ?_, fun k hk => ?_⟩
    · rcases List.mem_cons.mp m with rfl | m
      · exact ⟨p, e⟩
      · exact i1 y m
    · obtain ⟨j1, j2⟩ := i2 k hk
      have ku := hk u t n
      refine ⟨by rw [List.map_cons, ku, ← j1], fun y m => ?_⟩
      rcases List.mem_cons.mp m with rfl | m
      · rw [ku]; exact n
      · exact j2 y m
theorem isNest_uniq {h : Heap} {u : Value} {x y z x' y' z' : Int} (a : SrtO.IsNest h u x y z) (b : SrtO.IsNest h u x' y' z') : x = x' ∧ y = y' ∧ z = z' := by
  obtain ⟨p, o, t, v, n, e, ho, _, hd, q, o2, t2, t3, n2, e2, ho2, _, hd2⟩ := a
  obtain ⟨p', o', t', v', n', e', ho', _, hd', q', o2', t2', t3', n2', e2', ho2', _, hd2'⟩ := b
  rw [e] at e'
  cases e'
  rw [ho] at ho'
  cases ho'
  rw [hd] at hd'
  injection hd' with z1 _
  simp only [Array.mk.injEq, List.cons.injEq, Value.int.injEq, and_true] at z1
  obtain ⟨⟨z1, _⟩, z2⟩ := z1
  rw [e2, e2'] at z2
  cases z2
  rw [ho2] at ho2'
  cases ho2'
  rw [hd2] at hd2'
  injection hd2' with z3 _
  simp only [Array.mk.injEq, List.cons.injEq, Value.int.injEq, and_true] at z3
  exact ⟨z1, z3.1.1, z3.2.1⟩
open Classical in
noncomputable def nestK (h : Heap) (u : Value) : Int × Int × Int := if z : ∃ t : Int × Int × Int, SrtO.IsNest h u t.1 t.2.1 t.2.2 then z.choose else (0, 0, 0)
theorem nestK_at {h : Heap} {u : Value} {t : Int × Int × Int} (a : SrtO.IsNest h u t.1 t.2.1 t.2.2) : nestK h u = t := by
  unfold nestK
  have z : ∃ t : Int × Int × Int, SrtO.IsNest h u t.1 t.2.1 t.2.2 := ⟨t, a⟩
  rw [dif_pos z]
  obtain ⟨e1, e2, e3⟩ := isNest_uniq z.choose_spec a
  exact Prod.ext e1 (Prod.ext e2 e3)
theorem cr_sorted3 (hu : X.A.units + 3 < cLine) : CallR X (.builtin "sorted") (rSorted3 X.K) := by
  intro pins s σ H vs us Q I r h
  obtain ⟨a, xs, ts, rfl, hs, hx, q⟩ := h
  obtain ⟨its, rv, hl, hz⟩ := I.list hs
  obtain ⟨u, rfl, ru⟩ := vals1 r
  obtain rfl : u = Value.ref a := ru
  obtain ⟨h1, h2⟩ := hx.heap I rv
  obtain ⟨et, hn⟩ := h2 (nestK s.heap) fun u t z => nestK_at z
  obtain ⟨e1, e2⟩ := refs_back rv h1
  refine SrtO.sorted_nests (k := nestK s.heap) hu hl.isList (by rw [← rv.length]; exact hz) hn fun h' d out g1 g2 kp hd hn => ?_
  have h3 : ∀ u ∈ out, ∃ a, u = Value.ref a := fun u hu => e2 u (g2.perm.mem_iff.mp hu)
  obtain ⟨n, hn⟩ := hn
  have em : (out.map fun v => (backV v, nestK s.heap v)).map (·.1) = out.map backV := by rw [List.map_map]; rfl
  have ez : xs.zip ts = its.map fun v => (backV v, nestK s.heap v) := by
    rw [e1, et, List.zip_map']
  have hp : (out.map fun v => (backV v, nestK s.heap v)).Perm (xs.zip ts) := by
    rw [ez]
    exact g2.perm.map _
  refine ⟨.ref d, upd H d (.lst (out.map backV)), I.laid (t' := s.toks) kp hd ⟨?_, out, n, vals_back h3, hn⟩, rfl, ?_⟩
  · rw [List.length_map, g2.perm.length_eq, ← rv.length]
    exact hz
  · rw [← em]
    exact q _ d hp (List.pairwise_map.mpr g1) (I.hok.fresh hd)
end
end L2
namespace DW
open PySem PySem.Spec PyProof.Rows L2
/-- a thing's worth, whichever object it is -/
def wCore (a : WE) : WE := fun x ds k => a x ds fun d ds1 => k (core d) ds1
def d3 (t : Int × Int × Int) : D := .tup [.int t.1, .tup [.int t.2.1, .int t.2.2]]
/-- an item of the list in slot i, whether it stands still or not -/
def wIxA (i : Nat) (b : WE) : WE := fun x ds k => match gt ds i with
  | some (.val _) => wBin dIx (wVar i) b x ds k
  | _ => wIxO i b x ds k
/-- sorted(xs) of (int, (int, int)) -/
def wSort3 (a : WE) : WO := fun x ds k => a x ds fun d ds1 => ∃ ts : List (Int × Int × Int), d = .lst (ts.map d3) ∧ ∀ us : List (Int × Int × Int), us.Perm ts → us.Pairwise (fun x y => SrtO.lex3 y x = false) → k (us.map d3) ds1
section
variable {K : PySem.W.Frag} {W : WX} {ta : TE} {a : WE}
theorem core_rep {G : Hp} {d : D} {v : V} (r : Rep K G d v) : Rep K G (core d) v := by
  cases d with
  | «at» a d => exact r.2
  | _ => exact r
theorem ew_core (h : EW K W ta a) : EW K W ta (wCore a) := fun c pa G H σ ds xk kk Q E hw hx k =>
  h c pa G H σ ds xk _ _ E hw hx fun v G1 H1 d ds1 q S1 r1 => k _ _ _ _ _ q S1 (core_rep r1)
theorem ew_ixA {i : Nat} {tb : TE} {b : WE} (h : EW K W tb b) : EW K W (tOp (fun x y H Q => rIxL K x y H Q ∨ rIxT K x y H Q ∨ rIxS x y H Q) (tVar i) tb) (wIxA i b) := fun c pa G H σ ds xk kk Q E hw hx k => by
  unfold wIxA at hw
  split at hw
  · exact ew_op rw_ix (ew_var i) h c pa G H σ ds xk kk Q E hw hx k
  · exact ew_ixO h c pa G H σ ds xk kk Q E hw hx k
theorem nests_of {G : Hp} : ∀ {ts : List (Int × Int × Int)} {vs : List V}, Reps K G (ts.map d3) vs → Nests K G vs ts
  | [], vs, h => by
    have h : vs = [] := h
    subst h
    rfl
  | t :: ts, vs, h => by
    obtain ⟨x, xs, rfl, ⟨p, ys, rfl, h1, y1, ys1, rfl, r1, y2, ys2, rfl, ⟨q, zs, rfl, h2, z1, zs1, rfl, s1, z2, zs2, rfl, s2, s3⟩, r3⟩, r⟩ := h
    have r1 : y1 = .int t.1 := r1
    have s1 : z1 = .int t.2.1 := s1
    have s2 : z2 = .int t.2.2 := s2
    have r3 : ys2 = [] := r3
    have s3 : zs2 = [] := s3
    subst r1 s1 s2 r3 s3
    exact ⟨t, ts, rfl, ⟨p, q, rfl, h1, h2⟩, nests_of r⟩
theorem Nest.mono {G H : Hp} (s : Same G H) {x : V} {t : Int × Int × Int} (h : Nest K G x t) : Nest K H x t := by
  obtain ⟨p, q, e, h1, h2⟩ := h
  exact ⟨p, q, e, Same.t s h1, Same.t s h2⟩
theorem Nests.mono {G H : Hp} (s : Same G H) : ∀ {xs : List V} {ts : List (Int × Int × Int)}, Nests K G xs ts → Nests K H xs ts
  | [], _, h => h
  | _ :: _, _, ⟨t, r, e, h1, h2⟩ => ⟨t, r, e, Nest.mono s h1, Nests.mono s h2⟩
theorem reps_zip {G : Hp} : ∀ {ts : List (Int × Int × Int)} {vs : List V}, Reps K G (ts.map d3) vs → ∀ p ∈ vs.zip ts, Rep K G (d3 p.2) p.1
  | [], vs, _, p, m => by simp at m
  | t :: ts, vs, h, p, m => by
    obtain ⟨x, xs, rfl, h1, h2⟩ := h
    rw [List.zip_cons_cons] at m
    rcases List.mem_cons.mp m with rfl | m
    · exact h1
    · exact reps_zip h2 p m
theorem reps_ps {G : Hp} : ∀ {ps : List (V × Int × Int × Int)}, (∀ p ∈ ps, Rep K G (d3 p.2) p.1) → Reps K G ((ps.map (·.2)).map d3) (ps.map (·.1))
  | [], _ => rfl
  | p :: ps, h => ⟨_, _, rfl, h p (.head _), reps_ps fun q m => h q (.tail _ m)⟩
theorem zip_snd {α β : Type} : ∀ {xs : List α} {ys : List β}, xs.length = ys.length → (xs.zip ys).map (·.2) = ys
  | [], [], _ => rfl
  | [], _ :: _, h => by simp at h
  | _ :: _, [], h => by simp at h
  | x :: xs, y :: ys, h => by
    rw [List.zip_cons_cons, List.map_cons, zip_snd (by simpa using h)]
theorem eo_sort3 (h : EW K W ta a) : EO K W (tCB (rSorted3 K) (tCons ta tNil)) (wSort3 a) := fun c pa G H σ ds xk kk Q E hw hx k => by
  refine h c pa G H σ ds xk _ _ E hw hx fun v G1 H1 d ds1 q S1 r1 => ?_
  obtain ⟨ts, rfl, q⟩ := q
  obtain ⟨p, ys, rfl, h1, h2⟩ := r1
  refine ⟨p, ys, ts, rfl, L2.Same.seq S1.env.ex h1, Nests.mono S1.env.ex (nests_of h2), fun ps l hp hs hl => ?_⟩
  have r2 : Reps K G1 ((ps.map (·.2)).map d3) (ps.map (·.1)) := reps_ps fun z m => reps_zip h2 z (hp.mem_iff.mp m)
  obtain ⟨S, t, n⟩ := S1.made hl r2
  have e2 : (ys.zip ts).map (·.2) = ts := zip_snd (by rw [← h2.len, List.length_map])
  have pr : (ps.map (·.2)).Perm ts := by
    have := hp.map (·.2)
    rw [e2] at this
    exact this
  exact k l _ _ _ _ (q _ pr (List.pairwise_map.mpr hs)) S t n
end
section
variable {P : Program} {w : World} {K : PySem.W.Frag} {mg : Str → Option Value} {base : Heap} {N : List Str} {k : Nat} {W : WX}
variable {F : Fam P w K mg base N k W} {e : Expr} {p pos : Pos} {qa : WE}
theorem d_core (h : DE F e qa) : DE F e (wCore qa) := by
  obtain ⟨t, h1, h2⟩ := h
  exact ⟨t, h1, ew_core h2⟩
theorem d_ixA (i : Nat) {b : Expr} {x : Str} {qb : WE} (hb : DE F b qb) (h : N[i]? = some x := by rfl) (hv : ∀ j, Vis (F.X j).env.scope x := by intro _; first | exact Or.inl rfl | exact Or.inr (Or.inl rfl) | exact Or.inr (Or.inr rfl))
    (hd : (x == ("__debug__" : Str)) = false := by decide) (hcd : (x == ("__classdict__" : Str)) = false := by decide) (hs : PlainIx b := by intro _ _; rfl) : DE F (.Subscript (.Name x p) b pos) (wIxA i qb) := by
  obtain ⟨u, u1, u2⟩ := hb
  exact ⟨_, fun j => pe_ix (ixK (F.hK j)) (pe_var (i := i) (by rw [F.hN j]; exact h) (hv j) hd hcd) (u1 j) hs, ew_ixA u2⟩
theorem sort3K {X : Cx} (h : X.K = K) (hu : X.A.units + 3 < cLine) : CallR X (.builtin "sorted") (rSorted3 K) := by subst h; exact cr_sorted3 hu
theorem o_sort3 (hm : mg "sorted" = none) (ha : DE F e qa) (hg : ∀ j, Gl (F.X j) "sorted" := by intro _; rfl) (hs : ∀ j, starEach [e] (F.X j).env = (false, eval e (F.X j).env) :: starEach [] (F.X j).env := by intro _; rfl) (hpl : ∀ j, (backTo pos (starEach [] (F.X j).env)).any (·.1) = false := by intro _; rfl) :
    DO F (.Call (.Name "sorted" p) [e] [] pos) (wSort3 qa) := by
  obtain ⟨t, h1, h2⟩ := ha
  exact ⟨_, fun j => pe_callB (sort3K (F.hK j) (by have := (F.room j).rm.un; omega)) (hg j) (by rw [F.hm j]; exact hm) (by decide +kernel) (pa_cons (h1 j) pa_nil (hs j)) (by decide) (by decide) (hs j) (hpl j), eo_sort3 h2⟩
end
end DW

/-! DwDD: f(), without arguments. -/
namespace DW
open PySem PySem.Spec PyProof.Rows L2
theorem pe_callG0 {X : Cx} {CX : CXT} {k : Nat} {f : Addr} {fd : FuncData} {ps : List Str} {sp : Sp} {dvs : List V} {ds : List Value} {E : L2.St → XK} {x : Str} {p pos : Pos} (G : FnG X.prog X.w X.K X.mg X.base CX k f fd ps sp) (hr : Rm X.base k X.A) (hg : Gl X x) (hm : X.mg x = some (.ref f)) (hk : PySem.W.keepIn X.K (.ref f) = true) (hb : Binds X.K fd ps ds) (hd : Vals dvs ds) (hx : ∀ σ, PassesAt CX X σ (E σ))
    (hdb : (x == ("__debug__" : Str)) = false) : PE X (.Call (.Name x p) [] [] pos) (tCallSD sp dvs E tNil) := ⟨fun pins s σ H Q I h => by
  apply wpAny_Call_Name_kw (ld_glob I hg hm ?_ hdb)
  exact PySem.W.callWith_K0 I.kIn hk (run_Gb (us := []) (vs := []) G hr hb hd (hx σ) I .nil h)⟩
section
variable {P : Program} {w : World} {K : PySem.W.Frag} {mg : Str → Option Value} {base : Heap} {N : List Str} {k : Nat} {W : WX}
variable {F : Fam P w K mg base N k W} {x : Str} {p pos : Pos}
theorem callX0 {X : Cx} {kf : Nat} {f : Addr} {fd : FuncData} {ps : List Str} {fs : FS} (hP : X.prog = P) (hw : X.w = w) (hK : X.K = K) (hm : X.mg = mg) (hb : X.base = base) (G : FnG P w K mg base CX0 kf f fd ps (spOf K fs)) (hr : Rm base k X.A) (hk : kf ≤ k) (hg : Gl X x) (gm : mg x = some (.ref f)) (kp : PySem.W.keepIn K (.ref f) = true) (bb : Binds K fd ps []) (hdb : (x == ("__debug__" : Str)) = false) :
    PE X (.Call (.Name x p) [] [] pos) (tCallSD (spOf K fs) [] (L2.WE W) tNil) := by
  subst hP hw hK hm hb
  exact pe_callG0 G (hr.mono hk) hg gm kp bb .nil (fun _ _ _ _ _ _ _ h => h.elim) hdb
theorem d_callC0 {kf : Nat} {ps : List Str} {fs : FS} (C : Cal P w K mg base kf x ps fs) (hk : kf ≤ k := by decide) (hg : ∀ j, Gl (F.X j) x := by intro _; rfl) (hdb : (x == ("__debug__" : Str)) = false := by decide) : DE F (.Call (.Name x p) [] [] pos) (wCall fs []) := by
  obtain ⟨f, fd, c1, c2, c3, c4⟩ := C.ex
  exact ⟨_, fun j => callX0 (F.hP j) (F.hw j) (F.hK j) (F.hm j) (F.hb j) c1 (F.room j) hk (hg j) c2 c3 c4 hdb, ew_call ca_nil fun _ => rfl⟩
theorem o_callC0 {kf : Nat} {ps : List Str} {fs : FS} (C : Cal P w K mg base kf x ps fs) (hk : kf ≤ k := by decide) (hg : ∀ j, Gl (F.X j) x := by intro _; rfl) (hdb : (x == ("__debug__" : Str)) = false := by decide) : DO F (.Call (.Name x p) [] [] pos) (wCallO fs []) := by
  obtain ⟨f, fd, c1, c2, c3, c4⟩ := C.ex
  exact ⟨_, fun j => callX0 (F.hP j) (F.hw j) (F.hK j) (F.hm j) (F.hb j) c1 (F.room j) hk (hg j) c2 c3 c4 hdb, eo_call ca_nil fun _ => rfl⟩
end
/-! list(range(..)), max, min of a list of ints -/
def wListR (as : List WE) : WO := fun x ds k => wRng as x ds fun xs ds1 => xs.length ≤ 2 ^ 24 ∧ k xs ds1
def dMaxL : B1 | .lst xs, k => (match intsD xs with | some ns => 0 < ns.length ∧ ∀ m, m ∈ ns → (∀ y, y ∈ ns → y ≤ m) → k (.int m) | none => False) | _, _ => False
def dMinL : B1 | .lst xs, k => (match intsD xs with | some ns => 0 < ns.length ∧ ∀ m, m ∈ ns → (∀ y, y ∈ ns → m ≤ y) → k (.int m) | none => False) | _, _ => False
section
variable {K : PySem.W.Frag} {W : WX} {ta tb : TE} {a b : WE}
theorem reps_rng {G : Hp} (lo : Int) : ∀ (l : List Nat), Reps K G (l.map fun i => D.int (lo + (i : Nat))) (l.map fun i => V.int (lo + (i : Nat)))
  | [] => rfl
  | i :: l => ⟨_, _, rfl, rfl, reps_rng lo l⟩
theorem eo_listR1 (h : EW K W ta a) : EO K W (tLstRg (tRg1 ta)) (wListR [a]) := fun c pa G H σ ds xk kk Q E hw hx k => by
  refine h c pa G H σ ds xk _ _ E hw hx fun v G1 H1 d ds1 q S1 r1 => ?_
  cases d with
  | int n =>
    obtain ⟨⟨⟨a1, a2⟩, b1, b2⟩, l, q⟩ := q
    refine ⟨n, r1, ⟨a1, a2, b1, b2, ?_⟩, fun p hp => ?_⟩
    · have : (rangeD 0 n).length = (n - 0).toNat := by simp [rangeD]
      omega
    · obtain ⟨S, t, nn⟩ := S1.made hp (xs := rangeD 0 n) (vs := rgV 0 n) (reps_rng 0 _)
      exact k p _ _ _ _ q S t nn
  | _ => exact (show False from q).elim
theorem eo_listR2 (h : EW K W ta a) (h' : EW K W tb b) : EO K W (tLstRg (tRg2 ta tb)) (wListR [a, b]) := fun c pa G H σ ds xk kk Q E hw hx k => by
  refine h c pa G H σ ds xk _ _ E hw hx fun v G1 H1 d ds1 q S1 r1 => ?_
  refine h' c pa G1 H1 σ ds1 xk _ _ S1.env q hx fun v2 G2 H2 e ds2 q S2 r2 => ?_
  cases d with
  | int n =>
    cases e with
    | int m =>
      obtain ⟨⟨⟨a1, a2⟩, b1, b2⟩, l, q⟩ := q
      refine ⟨n, m, r1, r2, ⟨a1, a2, b1, b2, ?_⟩, fun p hp => ?_⟩
      · have : (rangeD n m).length = (m - n).toNat := by simp [rangeD]
        omega
      · obtain ⟨S, t, nn⟩ := (S1.trans S2).made hp (xs := rangeD n m) (vs := rgV n m) (reps_rng n _)
        exact k p _ _ _ _ q S t nn
    | _ => exact (show False from q).elim
  | _ => exact (show False from q).elim
theorem rc_maxL : RWC1 K (rMax K) dMaxL := fun G H x d kk Q ex rx h k => by
  cases d with
  | lst xs =>
    obtain ⟨a, vs, rfl, h1, h2⟩ := rx
    have h : (match intsD xs with | some ns => 0 < ns.length ∧ ∀ m, m ∈ ns → (∀ y, y ∈ ns → y ≤ m) → kk (.int m) | none => False) := h
    cases e : intsD xs with
    | none => rw [e] at h; exact h.elim
    | some ns =>
      rw [e] at h
      exact ⟨a, ns, rfl, by rw [← ints_rep h2 e]; exact L2.Same.seq ex h1, h.1, fun m m1 m2 => k _ _ (h.2 m m1 m2) rfl⟩
  | _ => exact (show False from h).elim
theorem rc_minL : RWC1 K (rMin K) dMinL := fun G H x d kk Q ex rx h k => by
  cases d with
  | lst xs =>
    obtain ⟨a, vs, rfl, h1, h2⟩ := rx
    have h : (match intsD xs with | some ns => 0 < ns.length ∧ ∀ m, m ∈ ns → (∀ y, y ∈ ns → m ≤ y) → kk (.int m) | none => False) := h
    cases e : intsD xs with
    | none => rw [e] at h; exact h.elim
    | some ns =>
      rw [e] at h
      exact ⟨a, ns, rfl, by rw [← ints_rep h2 e]; exact L2.Same.seq ex h1, h.1, fun m m1 m2 => k _ _ (h.2 m m1 m2) rfl⟩
  | _ => exact (show False from h).elim
end
section
variable {P : Program} {w : World} {K : PySem.W.Frag} {mg : Str → Option Value} {base : Heap} {N : List Str} {k : Nat} {W : WX}
variable {F : Fam P w K mg base N k W} {e e2 : Expr} {p p2 pos pos2 : Pos} {qa qb : WE}
theorem maxK {X : Cx} (h : X.K = K) (c : X.calm = true) : CallR X (.builtin "max") (rMax K) := by subst h; exact cr_max c
theorem minK {X : Cx} (h : X.K = K) (c : X.calm = true) : CallR X (.builtin "min") (rMin K) := by subst h; exact cr_min c
theorem d_maxL (hm : mg "max" = none) (ha : DE F e qa) (hg : ∀ j, Gl (F.X j) "max" := by intro _; rfl) (hs : ∀ j, starEach [e] (F.X j).env = (false, eval e (F.X j).env) :: starEach [] (F.X j).env := by intro _; rfl) (hpl : ∀ j, (backTo pos (starEach [] (F.X j).env)).any (·.1) = false := by intro _; rfl) :
    DE F (.Call (.Name "max" p) [e] [] pos) (wUn dMaxL qa) := d_b1 (fun j => maxK (F.hK j) (F.calm j)) rc_maxL hm (by decide +kernel) ha hg (by decide) (by decide) hs hpl
theorem d_minL (hm : mg "min" = none) (ha : DE F e qa) (hg : ∀ j, Gl (F.X j) "min" := by intro _; rfl) (hs : ∀ j, starEach [e] (F.X j).env = (false, eval e (F.X j).env) :: starEach [] (F.X j).env := by intro _; rfl) (hpl : ∀ j, (backTo pos (starEach [] (F.X j).env)).any (·.1) = false := by intro _; rfl) :
    DE F (.Call (.Name "min" p) [e] [] pos) (wUn dMinL qa) := d_b1 (fun j => minK (F.hK j) (F.calm j)) rc_minL hm (by decide +kernel) ha hg (by decide) (by decide) hs hpl
theorem o_listR1 (hl : mg "list" = none) (hr : mg "range" = none) (ha : DE F e qa) (hg : ∀ j, Gl (F.X j) "list" := by intro _; rfl) (hg2 : ∀ j, Gl (F.X j) "range" := by intro _; rfl)
    (hs : ∀ j, starEach [e] (F.X j).env = (false, eval e (F.X j).env) :: starEach [] (F.X j).env := by intro _; rfl) (hs2 : ∀ j, starEach [.Call (.Name "range" p2) [e] [] pos2] (F.X j).env = (false, eval (.Call (.Name "range" p2) [e] [] pos2) (F.X j).env) :: starEach [] (F.X j).env := by intro _; rfl) :
    DO F (.Call (.Name "list" p) [.Call (.Name "range" p2) [e] [] pos2] [] pos) (wListR [qa]) := by
  obtain ⟨t, h1, h2⟩ := ha
  exact ⟨_, fun j => pe_listRg (F.calm j) (hg j) (by rw [F.hm j]; exact hl) (prg_1 (hg2 j) (by rw [F.hm j]; exact hr) (h1 j) (hs j)) (hs2 j), eo_listR1 h2⟩
theorem o_listR2 (hl : mg "list" = none) (hr : mg "range" = none) (ha : DE F e qa) (hb : DE F e2 qb) (hg : ∀ j, Gl (F.X j) "list" := by intro _; rfl) (hg2 : ∀ j, Gl (F.X j) "range" := by intro _; rfl)
    (hs : ∀ j, starEach [e, e2] (F.X j).env = (false, eval e (F.X j).env) :: starEach [e2] (F.X j).env := by intro _; rfl) (hs1 : ∀ j, starEach [e2] (F.X j).env = (false, eval e2 (F.X j).env) :: starEach [] (F.X j).env := by intro _; rfl)
    (hp : ∀ j, (backTo pos2 (starEach [e2] (F.X j).env)).any (·.1) = false := by intro _; rfl) (hs2 : ∀ j, starEach [.Call (.Name "range" p2) [e, e2] [] pos2] (F.X j).env = (false, eval (.Call (.Name "range" p2) [e, e2] [] pos2) (F.X j).env) :: starEach [] (F.X j).env := by intro _; rfl) :
    DO F (.Call (.Name "list" p) [.Call (.Name "range" p2) [e, e2] [] pos2] [] pos) (wListR [qa, qb]) := by
  obtain ⟨t, h1, h2⟩ := ha
  obtain ⟨u, u1, u2⟩ := hb
  exact ⟨_, fun j => pe_listRg (F.calm j) (hg j) (by rw [F.hm j]; exact hl) (prg_2 (hg2 j) (by rw [F.hm j]; exact hr) (h1 j) (u1 j) (hs j) (hs1 j) (hp j)) (hs2 j), eo_listR2 h2 u2⟩
end
end DW

/-! A question told, whatever its outcome: a value or an own exception. -/
namespace DW
open PySem PySem.Spec PyProof.Rows L2
/-- what is told: the word and the thing, of a value or of an exception of the table -/
def Says (tb : List (Str × Str)) (o : Out) (w : Str) (r : D) : Prop := (o = .ret (.val r) ∧ w = "told") ∨ ∃ cn, (cn, w) ∈ tb ∧ o = .exc ⟨cn, [(fldOf cn, r)]⟩
def fsToldO (fs : FS) (tb : List (Str × Str)) (n : Nat) : FS := fun dvs k => ∃ (door by_ r : D) (ask : List D) (w : Str), dvs = [.val door, .val (.lst ask), .val by_] ∧ okA (.lst ask) = true ∧ dpt (.lst ask) < n ∧ Okr (.lst ask) ∧
  (∀ avs : List V, ask.length = avs.length → fs [.val door, .val (.lst (tagz ask avs)), .val by_] (fun o _ => Says tb o w r)) ∧ k (.ret (.val (.lst [.str w, r, .lst ask, .bl true]))) dvs
theorem toldO_imp {K : PySem.W.Frag} {fs : FS} {tb : List (Str × Str)} {n : Nat} {vs : List V} {H : Hp} {Q : VK} {E : XK} (hu : Fun1 tb) (h : spOf K (fsToldO fs tb n) vs H Q E) : spTold K fs tb n vs H Q E := by
  obtain ⟨G, pa, dvs, kq, s, ha, ⟨door, by_, r, ask, wd, rfl, ok, dp, okr, hc, hk⟩, k1, k2⟩ := h
  obtain ⟨vd, e0, r0⟩ := ha.here 0 _ rfl
  obtain ⟨va, e1, r1⟩ := ha.here 1 _ rfl
  obtain ⟨vb, e2, r2⟩ := ha.here 2 _ rfl
  have hl := ha.len
  obtain rfl : vs = [vd, va, vb] := by
    match vs, hl, e0, e1, e2 with
    | [a, b, c], _, e0, e1, e2 => cases e0; cases e1; cases e2; rfl
  refine ⟨G, door, by_, ask, vd, va, vb, fun _ o => Says tb o wd r, rfl, s, r0, r1, r2, ok, dp, okr, hc, ?_, ?_⟩
  · rintro avs e (⟨q, _⟩ | ⟨cn, m, q⟩)
    · cases q
    · cases q
      exact ⟨wd, r, m, rfl⟩
  · rintro l g avs cs w x H' G' o so R
    have hw : w = wd ∧ Rep K G' r x := by
      rcases so with ⟨rfl, e⟩ | ⟨cn, m, rfl⟩
      · obtain ⟨hw, rx⟩ := R.out
        exact ⟨hw.trans e.symm, rx⟩
      · obtain ⟨d, ed, hw, rx⟩ := R.out
        have ed : [(fldOf cn, r)] = [(fldOf cn, d)] := ed
        cases ed
        exact ⟨(hu _ _ _ m hw).symm, rx⟩
    obtain ⟨rfl, rx⟩ := hw
    have up : Same G' (fz G H H') := fun b o e => by
      by_cases hb : H b = none
      · rw [fz_new hb]
        exact R.sh _ _ e
      · rw [fz_old hb, ← R.gf b hb]
        exact e
    refine k1 (.ref l) (.val _) _ (fz G H H') H' hk ⟨fz_in s R.hh, fz_up s, fun b hb => fz_old hb, fun a o e _ => R.hh _ _ e, fun a e => by
      cases q : H a with
      | none => exact absurd q e
      | some o => rw [R.hh _ _ q]; exact nofun, fun j xs e => by
        match j, e with
        | 0, e => cases e
        | 1, e => cases e
        | 2, e => cases e
        | j + 3, e => simp at e⟩ ?_
    refine ⟨l, _, rfl, .inl (.inl ((fz_new R.fl).trans R.hl)), _, _, rfl, rfl, x, _, rfl, rx.mono up, .ref g, _, rfl, ⟨g, avs, rfl, .inl (.inl ((fz_new R.fg).trans R.hg)), R.tr.repG fun c z => fz_new (R.fc c z)⟩, _, _, rfl, rfl, rfl⟩
end DW

/-! DwFF: own lists of calls by name, of one of two. -/
namespace DW
open PySem PySem.Spec PyProof.Rows L2
def wIfO (q : WT) (a b : WO) : WO := fun x ds k => q x ds fun v ds1 => if v = true then a x ds1 k else b x ds1 k
def wCallKO (sp : FS) (as : List WE) (more : List D) (ix : List Nat) : WO := fun x ds k => wArgs as x ds fun l ds1 => sp ((pick ix (l ++ more)).map .val) fun out _ => match out with
  | .ret (.val _) => False
  | .ret (.own ys) => k ys ds1
  | .ret (.par _) => False
  | .exc e => x e ds1
section
variable {K : PySem.W.Frag} {W : WX}
theorem eo_if {t : TT} {ta tb : TE} {wt : WT} {a b : WO} (ht : TW K W t wt) (ha : EO K W ta a) (hb : EO K W tb b) : EO K W (tIf t ta tb) (wIfO wt a b) := fun c pa G H σ ds xk kk Q E hw hx k => by
  refine ht c pa G H σ ds xk _ _ E hw hx fun v G1 H1 ds1 q S1 => ?_
  have up : ∀ p, H1 p = none → H p = none := fun p h => by
    cases z : H p with
    | none => rfl
    | some o => exact absurd h (S1.dom p (by rw [z]; exact fun z => nomatch z))
  cases v with
  | true =>
    rw [if_pos rfl] at q ⊢
    exact ha c pa G1 H1 σ ds1 xk _ _ S1.env q hx fun x G2 H2 d ds2 q2 S2 r2 n2 => k x G2 H2 d ds2 q2 (S1.trans S2) r2 (up _ n2)
  | false =>
    rw [if_neg Bool.false_ne_true] at q ⊢
    exact hb c pa G1 H1 σ ds1 xk _ _ S1.env q hx fun x G2 H2 d ds2 q2 S2 r2 n2 => k x G2 H2 d ds2 q2 (S1.trans S2) r2 (up _ n2)
theorem eo_callK {fs : FS} {as : List WE} {more : List D} {mv : List V} {ix : List Nat} {ta0 : TA} (h : AW K W ta0 as) (hm : ∀ G, Reps K G more mv) : EO K W (tCallP (spOf K fs) as.length mv ix (L2.WE W) ta0) (wCallKO fs as more ix) := fun c pa G H σ ds xk kk Q E hw hx k => by
  refine h c pa G H σ ds xk _ _ E hw hx fun vs G1 H1 l ds1 q S1 r1 l1 => ⟨by rw [← r1.len, l1], ?_⟩
  refine ⟨G1, fun _ => 0, _, _, S1.env.ex, args_vals ((r1.append (hm G1)).pick ix), q, fun v r dvs' G' H' hk B R => ?_, fun e cls d dvs' G' H' hk B X => ?_⟩
  · have S := S1.calledK B
    cases r with
    | val d => exact (show False from hk).elim
    | own ys =>
      obtain ⟨p2, rfl, p0, p1, hp⟩ := R
      have t : Tmp K c pa G' H' ds1 p2 ys := ⟨p1, by
        cases z : c.H0 p2 with
        | none => rfl
        | some o => exact absurd p0 (S1.env.dom p2 (by rw [z]; exact fun z => nomatch z)), hp, fun i dv hi o z => S1.env.ownNe hi o (z ▸ p0)⟩
      refine k p2 G' H' ys ds1 hk S t ?_
      cases z : H p2 with
      | none => rfl
      | some o => exact absurd p0 (S1.dom p2 (by rw [z]; exact fun z => nomatch z))
    | par _ => exact (show False from hk).elim
  · exact hx e _ hk pa G' H' σ cls d (S1.calledK B).env X
end
section
variable {P : Program} {w : World} {K : PySem.W.Frag} {mg : Str → Option Value} {base : Heap} {N : List Str} {k : Nat} {W : WX}
variable {F : Fam P w K mg base N k W} {a b c e : Expr} {es : List Expr} {x : Str} {pos p : Pos} {q : WT} {oa ob : WO}
theorem o_if (h : DT F c q) (ha : DO F a oa) (hb : DO F b ob) : DO F (.IfExp c a b pos) (wIfO q oa ob) := by
  obtain ⟨t, h1, h2⟩ := h
  obtain ⟨u, u1, u2⟩ := ha
  obtain ⟨v, v1, v2⟩ := hb
  exact ⟨_, fun i => pe_ifExp (h1 i) (u1 i) (v1 i), eo_if h2 u2 v2⟩
theorem o_callPX {kf nu : Nat} {ps ks : List Str} {fs : FS} {qs rs : List WE} {more : List D} {ix : List Nat} {kws : List Keyword} (C : CalPX P w K mg base kf x ps fs nu ks more ix) (ha : DL F (a :: es) qs) (hkw : DKw F kws rs) (hnu : qs.length = nu := by rfl) (hnk : rs.length = ks.length := by rfl) (hk : kf ≤ k := by decide)
    (hg : ∀ j, Gl (F.X j) x := by intro _; rfl) (hdb : (x == ("__debug__" : Str)) = false := by decide) (he : ∀ j, starEach (a :: es) (F.X j).env = (false, eval a (F.X j).env) :: starEach es (F.X j).env := by intro _; rfl)
    (hall : ∀ j, (backToKw pos (keywordEach kws (F.X j).env)).all (·.1.isSome) = true := by intro _; rfl) (hks : ∀ j, (backToKw pos (keywordEach kws (F.X j).env)).filterMap (·.1) = ks := by intro _; rfl)
    (hpl : ∀ j, ((backTo pos (starEach (a :: es) (F.X j).env)).any (·.1) || (backToKw pos (keywordEach kws (F.X j).env)).any (·.1.isNone)) = false := by intro _; rfl) : DO F (.Call (.Name x p) (a :: es) kws pos) (wCallKO fs (qs ++ rs) more ix) := by
  obtain ⟨f, fd, mu, mv, c1, c2, c3, c4, c5, c6⟩ := C.ex
  obtain ⟨t, h1, h2⟩ := ha
  obtain ⟨u, u1, u2⟩ := hkw
  subst hnu
  refine ⟨_, fun j => callPX (W := W) (F.hP j) (F.hw j) (F.hK j) (F.hm j) (F.hb j) c1 (F.room j) hk (hg j) c2 c3 c4 c5 (passX (F.hP j) (F.hw j) (F.tk j)) (h1 j) (u1 j) (hall j) (hks j) hdb (he j) (hpl j), ?_⟩
  have e : qs.length + ks.length = (qs ++ rs).length := by rw [List.length_append, hnk]
  rw [e]
  exact eo_callK (aw_two h2 u2) c6
theorem o_callP0X {kf : Nat} {ps ks : List Str} {fs : FS} {rs : List WE} {more : List D} {ix : List Nat} {kws : List Keyword} (C : CalPX P w K mg base kf x ps fs 0 ks more ix) (hkw : DKw F kws rs) (hnk : rs.length = ks.length := by rfl) (hk : kf ≤ k := by decide)
    (hg : ∀ j, Gl (F.X j) x := by intro _; rfl) (hdb : (x == ("__debug__" : Str)) = false := by decide)
    (hall : ∀ j, (backToKw pos (keywordEach kws (F.X j).env)).all (·.1.isSome) = true := by intro _; rfl) (hks : ∀ j, (backToKw pos (keywordEach kws (F.X j).env)).filterMap (·.1) = ks := by intro _; rfl)
    (hpl : ∀ j, ((backTo pos (starEach [] (F.X j).env)).any (·.1) || (backToKw pos (keywordEach kws (F.X j).env)).any (·.1.isNone)) = false := by intro _; rfl) : DO F (.Call (.Name x p) [] kws pos) (wCallKO fs rs more ix) := by
  obtain ⟨f, fd, mu, mv, c1, c2, c3, c4, c5, c6⟩ := C.ex
  obtain ⟨u, u1, u2⟩ := hkw
  refine ⟨_, fun j => callP0X (W := W) (F.hP j) (F.hw j) (F.hK j) (F.hm j) (F.hb j) c1 (F.room j) hk (hg j) c2 c3 c4 c5 (passX (F.hP j) (F.hw j) (F.tk j)) (u1 j) (hall j) (hks j) hdb (hpl j), ?_⟩
  have e : 0 + ks.length = rs.length := by rw [hnk, Nat.zero_add]
  rw [e]
  exact eo_callK (aw_two (as := []) aw_nil u2) c6
end
end DW

/-! DwGG: x, y = [..], a; list(xs), xs == b of an own list. -/
namespace DW
open PySem PySem.Spec PyProof.Rows L2
def wOPar (i j : Nat) (o : WO) (a : WE) : WS := fun ds P => o P.x ds fun xs ds1 => a P.x ds1 fun d ds2 => P.nx (st (st ds2 i (.own xs)) j (.val d))
section
variable {K : PySem.W.Frag} {W : WX} {ta tb : TE} {a : WE} {o : WO}
theorem sw_OPar {i j : Nat} (hn : i ≠ j) (h1 : EO K W ta o) (h2 : EW K W tb a) : SW K W (tPar i j (tCons ta (tCons tb tNil))) (wOPar i j o a) := fun c pa G H σ ds P D E hw hx he =>
  h1 c pa G H σ ds _ _ _ E hw hx fun p1 G1 H1 xs ds1 q S1 t1 n1 => h2 c pa G1 H1 σ ds1 _ _ _ S1.env q hx fun v G2 H2 d ds2 q2 S2 r2 => by
    have t1' := t1.stay S2
    exact ⟨.ref p1, v, rfl, he.nx _ G2 H2 _ _ q2 ((S2.env.setOwn i t1').setVal j r2)⟩
end
section
variable {P : Program} {w : World} {K : PySem.W.Frag} {mg : Str → Option Value} {base : Heap} {N : List Str} {k : Nat} {W : WX}
variable {F : Fam P w K mg base N k W} {e e2 : Expr} {x y : Str} {p p2 p3 p4 pos : Pos} {qa : WE} {o : WO}
theorem s_OPar (i l : Nat) {kt k2 : Nat} (ha : DO F e o) (hb : DE F e2 qa) (hi : N[i]? = some x := by rfl) (hl : N[l]? = some y := by rfl) (hn : i ≠ l := by decide) (hx : ∀ j, (F.X j).env.scope.names.lookup x = some .local := by intro _; rfl) (hy : ∀ j, (F.X j).env.scope.names.lookup y = some .local := by intro _; rfl)
    (hw : ∀ j, swappedStores [.Tuple [.Name x p, .Name y p2] kt p3] (.Tuple [e, e2] k2 p4) (F.X j).env = pure (some [x, y]) := by intro _; rfl) (hs : ∀ j, swapsWithSole [.Tuple [.Name x p, .Name y p2] kt p3] (.Tuple [e, e2] k2 p4) pos.line (F.X j).env = pure false := by intro _; rfl)
    (h1 : ∀ j, starEach [e, e2] (F.X j).env = (false, eval e (F.X j).env) :: starEach [e2] (F.X j).env := by intro _; rfl) (h2 : ∀ j, starEach [e2] (F.X j).env = (false, eval e2 (F.X j).env) :: starEach [] (F.X j).env := by intro _; rfl) :
    DS1 F (.Assign [.Tuple [.Name x p, .Name y p2] kt p3] (.Tuple [e, e2] k2 p4) pos) (wOPar i l o qa) := by
  obtain ⟨t, t1, t2⟩ := ha
  obtain ⟨u, u1, u2⟩ := hb
  exact ⟨_, fun j => ps_par (F.calm j) (by rw [F.hN j]; exact F.nd) (by rw [F.hN j]; exact hi) (by rw [F.hN j]; exact hl) hn (hx j) (hy j) (pa_cons (t1 j) (pa_cons (u1 j) pa_nil (h2 j)) (h1 j)) (hw j) (hs j), sw_OPar hn t2 u2⟩
end
/-- list(xs), the own list in slot i -/
def wListO (i : Nat) : WO := fun _ ds k => match listAt ds i with | some xs => k xs ds | none => False
/-- xs == b, the own list in slot i -/
def wEqO (i : Nat) (b : WE) : WE := fun x ds k => (listAt ds i).isSome = true ∧ b x ds fun v ds1 => match listAt ds1 i with
  | some xs => dEq (.lst xs) v fun z => match z with | .bl t => k (.bl t) ds1 | _ => False
  | none => False
section
variable {K : PySem.W.Frag} {W : WX} {tb : TE} {b : WE}
theorem eo_listO {i : Nat} : EO K W (tCB (rListOf K) (tCons (tVar i) tNil)) (wListO i) := fun c pa G H σ ds xk kk Q E hw hx k => by
  obtain ⟨xs, hxs, q⟩ := listAt_some (P := fun xs => kk xs ds) hw
  obtain ⟨_, _, _, _, _, _, _, vs, hh, rr⟩ := E.lst hxs
  refine ⟨_, own_ref E hxs, ?_⟩
  refine ⟨pa i, vs, rfl, .inl (SqL.of hh), fun l hl => ?_⟩
  obtain ⟨S, t⟩ := Stp.newOwn E hl rr
  exact k l _ _ _ _ q S t hl
theorem ew_eqO {i : Nat} (hb : EW K W tb b) : EW K W (tOp (rEqD K) (tVar i) tb) (wEqO i b) := fun c pa G H σ ds xk kk Q E hw hx k => by
  obtain ⟨h0, hw⟩ := hw
  obtain ⟨xs0, hxs0⟩ := Option.isSome_iff_exists.mp h0
  refine ⟨_, own_ref E hxs0, ?_⟩
  refine hb c pa G H σ ds xk _ _ E hw hx fun y G1 H1 d ds1 q S1 r1 => ?_
  obtain ⟨xs, hxs, q⟩ := listAt_some (P := fun xs => dEq (.lst xs) d fun z => match z with | .bl t => kk (.bl t) ds1 | _ => False) q
  obtain ⟨_, _, _, _, _, g0, _, vs, hh, rr⟩ := S1.env.lst hxs
  have up : Same G1 (upd G1 (pa i) (.lst vs)) := same_new g0
  have ex : Same (upd G1 (pa i) (.lst vs)) H1 := fun a o e => by
    by_cases ha : a = pa i
    · rw [ha, upd_same] at e
      rw [ha, hh]
      exact e
    · rw [upd_ne ha] at e
      exact S1.env.ex _ _ e
  refine rw_eq (K := K) _ H1 (.ref (pa i)) y (.lst xs) d _ Q ex ⟨pa i, vs, rfl, SqL.of upd_same, rr.mono up⟩ (r1.mono up) q fun z v hz rz => ?_
  cases z with
  | bl t =>
    have rz : v = .bl t := rz
    subst rz
    exact k (.bl t) G1 H1 (.bl t) ds1 hz S1 rfl
  | _ => exact (show False from hz).elim
end
section
variable {P : Program} {w : World} {K : PySem.W.Frag} {mg : Str → Option Value} {base : Heap} {N : List Str} {k : Nat} {W : WX}
variable {F : Fam P w K mg base N k W} {e e2 : Expr} {x y : Str} {p p2 p3 p4 pos : Pos} {qb : WE}
theorem o_listO (i : Nat) (hm : mg "list" = none) (h : N[i]? = some x := by rfl) (hv : ∀ j, Vis (F.X j).env.scope x := by intro _; first | exact Or.inl rfl | exact Or.inr (Or.inl rfl) | exact Or.inr (Or.inr rfl))
    (hg : ∀ j, Gl (F.X j) "list" := by intro _; rfl) (hs : ∀ j, starEach [.Name x p2] (F.X j).env = (false, eval (.Name x p2) (F.X j).env) :: starEach [] (F.X j).env := by intro _; rfl) (hpl : ∀ j, (backTo pos (starEach [] (F.X j).env)).any (·.1) = false := by intro _; rfl)
    (hd : (x == ("__debug__" : Str)) = false := by decide) (hcd : (x == ("__classdict__" : Str)) = false := by decide) :
    DO F (.Call (.Name "list" p) [.Name x p2] [] pos) (wListO i) :=
  ⟨_, fun j => pe_callTy (listOfK (F.hK j)) (hg j) (by rw [F.hm j]; exact hm) (by decide +kernel) (pa_cons (pe_var (i := i) (by rw [F.hN j]; exact h) (hv j) hd hcd) pa_nil (hs j)) (by decide) (by decide) (hs j) (hpl j), eo_listO⟩
theorem d_eqO (i : Nat) (hb : DE F e2 qb) (h : N[i]? = some x := by rfl) (hv : ∀ j, Vis (F.X j).env.scope x := by intro _; first | exact Or.inl rfl | exact Or.inr (Or.inl rfl) | exact Or.inr (Or.inr rfl))
    (hd : (x == ("__debug__" : Str)) = false := by decide) (hcd : (x == ("__classdict__" : Str)) = false := by decide) : DE F (.Compare (.Name x p) [.Eq] [e2] pos) (wEqO i qb) := by
  obtain ⟨u, u1, u2⟩ := hb
  exact ⟨_, fun j => pe_cmpR (eqK (F.hK j) (F.room j).units) (pe_var (i := i) (by rw [F.hN j]; exact h) (hv j) hd hcd) (u1 j) (nomark _), ew_eqO u2⟩
theorem t_eqO (i : Nat) (hb : DE F e2 qb) (h : N[i]? = some x := by rfl) (hv : ∀ j, Vis (F.X j).env.scope x := by intro _; first | exact Or.inl rfl | exact Or.inr (Or.inl rfl) | exact Or.inr (Or.inr rfl))
    (hd : (x == ("__debug__" : Str)) = false := by decide) (hcd : (x == ("__classdict__" : Str)) = false := by decide) : DT F (.Compare (.Name x p) [.Eq] [e2] pos) (wTst (wEqO i qb)) := by
  obtain ⟨u, u1, u2⟩ := hb
  exact ⟨_, fun j => pt_cmpR (eqK (F.hK j) (F.room j).units) (pe_var (i := i) (by rw [F.hN j]; exact h) (hv j) hd hcd) (u1 j) (nomark _), tw_tst (ew_eqO u2)⟩
end
/-! ### min of a tuple of ints -/
section
variable {prog : Program} {w : World} {A : Around} {E : Value → Shared → Prop} {s : Shared} {l : Addr}
theorem min_intTup {xs : Array (Int × Tok)} {Q : Value → Shared → Prop} (hh : A.handled = none) (hl : s.heap.IsTuple l (intItems xs)) (hne : 0 < xs.size)
    (h : ∀ v h' tk, (intItems xs)[argBest (fun i j => decide (numAt xs i < numAt xs j)) (xs.size - 1)]? = some v → (∀ b o, s.heap.get? b = some o → h'.get? b = some o) → Q v { s with heap := h', toks := tk }) :
    wpAny (model prog w) A (call (.builtin "min") [.ref l]) Q E s := by
  have hlt : l < s.heap.objs.size := by obtain ⟨_, e, _⟩ := hl; exact Heap.lt_size e
  refine call_min_walk (wpAny_pyIter_tuple hl ?_)
  refine ⟨_, [_, l], [_], _, _, _, _, rfl, Walks.tuple (A := A.in1) hh _ l (Nat.ne_of_lt hlt) (intItems xs), ⟨⟨_, Heap.get?_push_size _ rfl, rfl, rfl⟩, hl.push _⟩, fun c hc => ?_, by simpa [intItems] using hne, CmpOf.ints_lt (numAt xs) (fun _ _ => intItems_at), fun v h' tk hP hk => ?_⟩
  · show c < (s.heap.push _).objs.size
    rw [Heap.size_push]
    rcases List.mem_cons.mp hc with rfl | hc
    · exact Nat.lt_succ_self _
    · rcases List.mem_cons.mp hc with rfl | hc
      · exact Nat.lt_succ_of_lt hlt
      · cases hc
  · refine h v h' tk (by simpa [intItems] using hP) fun c o e => ?_
    refine hk c o (fun hm => ?_) (Heap.get?_push_of_some _ e)
    rcases List.mem_cons.mp hm with e1 | hm
    · exact absurd (e1 ▸ Heap.lt_size e) (Nat.lt_irrefl _)
    · cases hm
theorem min_rawT {its : List Value} {ns : List Int} {Q : Value → Shared → Prop} (hh : A.handled = none) (hl : s.heap.IsTuple l its.toArray) (hi : IntsAre its ns) (hne : 0 < ns.length)
    (h : ∀ h' tk M t', (∀ b o, s.heap.get? b = some o → h'.get? b = some o) → M ∈ ns → (∀ a, a ∈ ns → M ≤ a) → Q (.int M t') { s with heap := h', toks := tk }) : wpAny (model prog w) A (call (.builtin "min") [.ref l]) Q E s := by
  obtain ⟨xs, e⟩ := hi.allInts.items
  have hn : numsOf (intItems xs).toList = ns := by rw [← e]; exact hi.numsOf
  rw [nums_intItems] at hn
  subst hn
  rw [e] at hl
  have hsz : 0 < xs.size := by simpa using hne
  refine min_intTup hh hl hsz fun v h' tk hv hk => ?_
  obtain ⟨t, rfl⟩ := intItems_at hv
  obtain ⟨h1, h2⟩ := argBest_lt (numAt xs) (xs.size - 1)
  refine h h' tk _ t hk ?_ fun a ha => ?_
  · rw [numAt_eq]; exact PySem.getD_mem (by rw [List.length_map, Array.length_toList]; omega)
  · obtain ⟨j, hj, rfl⟩ := mem_getD ha
    rw [List.length_map, Array.length_toList] at hj
    rw [← numAt_eq]; exact h2 j (by omega)
end
def rMinQ (K : PySem.W.Frag) : List V → Hp → VK → Prop := fun vs H Q => ∃ (a : Addr) (ns : List Int), vs = [V.ref a] ∧ (SqL K H a (ns.map V.int) ∨ SqT K H a (ns.map V.int)) ∧ 0 < ns.length ∧ ∀ m, m ∈ ns → (∀ y, y ∈ ns → m ≤ y) → Q (.int m) H
theorem cr_minQ {X : Cx} (hc : X.calm = true) : CallR X (.builtin "min") (rMinQ X.K) := by
  intro pins s σ H vs us Q I r h
  obtain ⟨a, ns, rfl, hs, hne, q⟩ := h
  rcases hs with hs | hs
  · exact cr_min hc pins s σ H _ us Q I r ⟨a, ns, rfl, hs, hne, q⟩
  · obtain ⟨its, rv, hl, _⟩ := I.tuple hs
    rw [Vals.ref1 r]
    exact min_rawT (I.ok.hd hc) hl rv.ints hne fun h' tk m t' hk h1 h2 => ⟨.int _, H, I.kept hk, ⟨_, rfl⟩, q m h1 h2⟩
def dMinQ : B1 := fun d k => match items d with
  | some xs => (match intsD xs with | some ns => 0 < ns.length ∧ ∀ m, m ∈ ns → (∀ y, y ∈ ns → m ≤ y) → k (.int m) | none => False)
  | none => False
theorem rc_minQ {K : PySem.W.Frag} : RWC1 K (rMinQ K) dMinQ := fun G H x d kk Q ex rx h k => by
  have fin : ∀ (xs : List D) (a : Addr) (vs : List V), x = .ref a → (SqL K G a vs ∨ SqT K G a vs) → Reps K G xs vs → (match intsD xs with | some ns => 0 < ns.length ∧ ∀ m, m ∈ ns → (∀ y, y ∈ ns → m ≤ y) → kk (.int m) | none => False) → rMinQ K [x] H Q := fun xs a vs e hs rr h => by
    subst e
    cases e : intsD xs with
    | none => rw [e] at h; exact h.elim
    | some ns =>
      rw [e] at h
      refine ⟨a, ns, rfl, ?_, h.1, fun m m1 m2 => k _ _ (h.2 m m1 m2) rfl⟩
      rw [← ints_rep rr e]
      exact hs.elim (fun z => .inl (L2.Same.seq ex z)) fun z => .inr (Same.t ex z)
  cases d with
  | lst xs =>
    obtain ⟨a, vs, e, h1, h2⟩ := rx
    exact fin xs a vs e (.inl h1) h2 h
  | tup xs =>
    obtain ⟨a, vs, e, h1, h2⟩ := rx
    exact fin xs a vs e (.inr h1) h2 h
  | «at» b d =>
    obtain ⟨e, rx⟩ := rx
    cases d with
    | lst xs =>
      obtain ⟨a, vs, e, h1, h2⟩ := rx
      exact fin xs a vs e (.inl h1) h2 h
    | tup xs =>
      obtain ⟨a, vs, e, h1, h2⟩ := rx
      exact fin xs a vs e (.inr h1) h2 h
    | _ => exact (show False from h).elim
  | _ => exact (show False from h).elim
section
variable {P : Program} {w : World} {K : PySem.W.Frag} {mg : Str → Option Value} {base : Heap} {N : List Str} {k : Nat} {W : WX}
variable {F : Fam P w K mg base N k W} {e e2 : Expr} {p p2 pos pos2 : Pos} {qa qb : WE}
theorem minQK {X : Cx} (h : X.K = K) (c : X.calm = true) : CallR X (.builtin "min") (rMinQ K) := by subst h; exact cr_minQ c
theorem d_minQ (hm : mg "min" = none) (ha : DE F e qa) (hg : ∀ j, Gl (F.X j) "min" := by intro _; rfl) (hs : ∀ j, starEach [e] (F.X j).env = (false, eval e (F.X j).env) :: starEach [] (F.X j).env := by intro _; rfl) (hpl : ∀ j, (backTo pos (starEach [] (F.X j).env)).any (·.1) = false := by intro _; rfl) :
    DE F (.Call (.Name "min" p) [e] [] pos) (wUn dMinQ qa) := d_b1 (fun j => minQK (F.hK j) (F.calm j)) rc_minQ hm (by decide +kernel) ha hg (by decide) (by decide) hs hpl
end
/-! ### [..] * n -/
def wRep (o : WO) (b : WE) : WO := fun x ds k => o x ds fun xs ds1 => b x ds1 fun d ds2 => match d with
  | .int n => (-1000000 ≤ n ∧ n ≤ 1000000 ∧ xs.length ≤ 10) ∧ k (List.replicate n.toNat xs).flatten ds2
  | _ => False
theorem Reps.rep {K : PySem.W.Frag} {G : Hp} {xs : List D} {vs : List V} (r : Reps K G xs vs) : ∀ n, Reps K G (List.replicate n xs).flatten (List.replicate n vs).flatten
  | 0 => rfl
  | n + 1 => by
    rw [List.replicate_succ, List.replicate_succ, List.flatten_cons, List.flatten_cons]
    exact r.append (Reps.rep r n)
theorem eo_rep {K : PySem.W.Frag} {W : WX} {ta tb : TE} {o : WO} {b : WE} (h1 : EO K W ta o) (h2 : EW K W tb b) : EO K W (tOp rRep ta tb) (wRep o b) := fun c pa G H σ ds xk kk Q E hw hx k => by
  refine h1 c pa G H σ ds xk _ _ E hw hx fun p1 G1 H1 xs ds1 q S1 t1 n1 => ?_
  refine h2 c pa G1 H1 σ ds1 xk _ _ S1.env q hx fun v G2 H2 d ds2 q2 S2 r2 => ?_
  have t1' := t1.stay S2
  obtain ⟨vs, hv, rr⟩ := t1'.here
  cases d with
  | int n =>
    obtain ⟨⟨b1, b2, b3⟩, q2⟩ := q2
    have r2 : v = .int n := r2
    refine ⟨p1, n, vs, rfl, r2, hv, by omega, by omega, ?_, fun p hp => ?_⟩
    · rw [← rr.len]
      have : xs.length * n.toNat ≤ 10 * 1000000 := Nat.mul_le_mul b3 (by omega)
      exact Nat.le_trans this (by decide)
    · obtain ⟨S, t, nn⟩ := (S1.trans S2).made hp (Reps.rep rr n.toNat)
      exact k p _ _ _ _ q2 S t nn
  | _ => exact (show False from q2).elim
section
variable {P : Program} {w : World} {K : PySem.W.Frag} {mg : Str → Option Value} {base : Heap} {N : List Str} {k : Nat} {W : WX}
variable {F : Fam P w K mg base N k W} {a b : Expr} {pos : Pos} {o : WO} {qb : WE}
theorem o_rep (ha : DO F a o) (hb : DE F b qb) : DO F (.BinOp a .Mult b pos) (wRep o qb) := by
  obtain ⟨t, h1, h2⟩ := ha
  obtain ⟨u, u1, u2⟩ := hb
  exact ⟨_, fun i => pe_op op_rep (h1 i) (u1 i), eo_rep h2 u2⟩
end
end DW

/-! DwHH: parts of a tuple, divmod, x in a tuple or a list of any data, constants of any data. -/
namespace DW
open PySem PySem.Spec PyProof.Rows L2
section
variable {K : PySem.W.Frag} {W : WX} {ta tb : TE} {a b : WE}
/-- t[lo:hi] -/
def wCutT (a : WE) (lo hi : WPt) : WE := fun x ds k => a x ds fun u ds1 => lo x ds1 fun l ds2 => hi x ds2 fun h ds3 => match u with | .tup xs => k (.tup (cutD xs l h)) ds3 | _ => False
theorem cut_whole {xs : List V} {lo hi : Option Int} (h : HT.sIx xs.length 0 lo = 0 ∧ HT.sIx xs.length xs.length hi = xs.length) : cutV xs lo hi = xs := by
  unfold cutV
  rw [h.1, h.2]
  simp
theorem ew_cutT {tl th : TO} {lo hi : WPt} (ha : EW K W ta a) (hl : PWt K W tl lo) (hh : PWt K W th hi) : EW K W (tSl (rSlA K) ta tl th) (wCutT a lo hi) := fun c pa G H σ ds xk kk Q E hw hx k => by
  refine ha c pa G H σ ds xk _ _ E hw hx fun x G1 H1 d ds1 q S1 r1 => ?_
  refine hl c pa G1 H1 σ ds1 xk _ _ S1.env q hx fun l G2 H2 ds2 q2 S2 => ?_
  refine hh c pa G2 H2 σ ds2 xk _ _ S2.env q2 hx fun u G3 H3 ds3 q3 S3 => ?_
  cases d with
  | tup xs =>
    obtain ⟨p1, vs, e1, h1, m1⟩ := Rep.mono (S2.trans S3).sg r1
    have m2 := m1.cut l u
    refine ⟨p1, vs, e1, Same.t S3.env.ex h1, fun w => ?_, fun w p hp => ?_⟩
    · have e := cut_whole w
      rw [cutV_eq] at e
      rw [e] at m2
      exact k _ G3 H3 _ ds3 q3 (S1.trans (S2.trans S3)) ⟨p1, vs, rfl, h1, m2⟩
    · rw [cutV_eq]
      have S4 := Stp.new S3.env (o := .tup (cutD vs l u)) hp
      exact k _ _ _ _ _ q3 (S1.trans (S2.trans (S3.trans S4))) ⟨p, _, rfl, SqT.of upd_same, m2.mono S4.sg⟩
  | _ => exact (show False from q3).elim
/-- divmod(a, b) -/
def wDivmod (a b : WE) : WE := fun x ds k => a x ds fun u ds1 => b x ds1 fun v ds2 => match u, v with
  | .int i, .int j => DivOk j ∧ k (.tup [.int (i.fdiv j), .int (i.fmod j)]) ds2
  | _, _ => False
def rDivmod : List V → Hp → VK → Prop := fun xs H Q => ∃ i j, xs = [.int i, .int j] ∧ DivOk j ∧ ∀ p, H p = none → Q (.ref p) (upd H p (.tup [.int (i.fdiv j), .int (i.fmod j)]))
theorem call_divmodW {X : Cx} : CallR X (.builtin "divmod") rDivmod := by
  intro pins s σ H xs us Q I r h
  obtain ⟨i, j, rfl, ⟨h1, h2⟩, q⟩ := h
  obtain ⟨u, w', rfl, ⟨t, rfl⟩, ⟨t', rfl⟩⟩ := vals2 r
  refine divmod_int h1 ?_ (.inl (PyProof.noPylong_of_log2 h2))
  have hn : H s.heap.objs.size = none := I.hok.fresh (Nat.le_refl _)
  refine ⟨.ref s.heap.objs.size, _, ?_, rfl, q _ hn⟩
  refine I.laid (fun b o e => Heap.get?_push_of_some _ e) (Nat.le_refl _) ⟨by simp only [List.length_cons, List.length_nil]; rw [sizeLine_eq]; decide, [.int (i.fdiv j) s.toks, .int (i.fmod j) (s.toks + 1)], .cons ⟨_, rfl⟩ (.cons ⟨_, rfl⟩ .nil), ?_⟩
  exact ⟨_, Heap.get?_push_size s.heap rfl, rfl, 0, rfl⟩
theorem ew_divmod (ha : EW K W ta a) (hb : EW K W tb b) : EW K W (tCB rDivmod (tCons ta (tCons tb tNil))) (wDivmod a b) := fun c pa G H σ ds xk kk Q E hw hx k => by
  refine ha c pa G H σ ds xk _ _ E hw hx fun x G1 H1 d ds1 q S1 r1 => ?_
  refine hb c pa G1 H1 σ ds1 xk _ _ S1.env q hx fun y G2 H2 e ds2 q2 S2 r2 => ?_
  cases d with
  | int i =>
    cases e with
    | int j =>
      obtain ⟨hj, q2⟩ := q2
      have r1 : x = .int i := r1
      have r2 : y = .int j := r2
      subst r1 r2
      refine ⟨i, j, rfl, hj, fun p hp => ?_⟩
      have S3 := Stp.new S2.env (o := .tup [V.int (i.fdiv j), V.int (i.fmod j)]) hp
      exact k _ _ _ _ _ q2 (S1.trans (S2.trans S3)) ⟨p, _, rfl, SqT.of upd_same, _, _, rfl, rfl, _, _, rfl, rfl, rfl⟩
    | _ => exact (show False from q2).elim
  | _ => exact (show False from q2).elim
/-- x in xs, of any data -/
def rInQ (K : PySem.W.Frag) (neg : Bool) : R2 := fun x y H Q => ∃ d ds, Dp K H x d ∧ (Dp K H y (.list ds) ∨ Dp K H y (.tuple ds)) ∧ SeqAt.shaped d = true ∧ SeqAt.shaped (.list ds) = true ∧ Q (.bl (neg != (ds.any fun z => PyData.eqv z d))) H
theorem op_inQ {X : Cx} (hu : X.A.units + 65 < cLine) : OpR X (compareOp .In) (rInQ X.K false) := by
  intro pins s σ H x y v u Q I rx ry h
  obtain ⟨d, ds, hd, he, sd, se, q⟩ := h
  obtain ⟨as, r1⟩ := Dp.reads I d x v hd rx
  rcases he with he | he
  · obtain ⟨bs, r2⟩ := Dp.reads I (.list ds) y u he ry
    exact SeqAt.in_list_reads r2 r1 (SeqAt.canLay_of_shaped se) (SeqAt.canLay_of_shaped sd) (room_in_shaped sd hu) ⟨.bl _, H, I, rfl, by simpa using q⟩
  · obtain ⟨bs, r2⟩ := Dp.reads I (.tuple ds) y u he ry
    exact SeqAt.in_tuple_reads r2 r1 (SeqAt.canLay_of_shaped se) (SeqAt.canLay_of_shaped sd) (room_in_shaped sd hu) ⟨.bl _, H, I, rfl, by simpa using q⟩
theorem op_ninQ {X : Cx} (hu : X.A.units + 65 < cLine) : OpR X (compareOp .NotIn) (rInQ X.K true) := by
  intro pins s σ H x y v u Q I rx ry h
  obtain ⟨d, ds, hd, he, sd, se, q⟩ := h
  obtain ⟨as, r1⟩ := Dp.reads I d x v hd rx
  rcases he with he | he
  · obtain ⟨bs, r2⟩ := Dp.reads I (.list ds) y u he ry
    exact SeqAt.notIn_list_reads r2 r1 (SeqAt.canLay_of_shaped se) (SeqAt.canLay_of_shaped sd) (room_in_shaped sd hu) ⟨.bl _, H, I, rfl, by simpa using q⟩
  · obtain ⟨bs, r2⟩ := Dp.reads I (.tuple ds) y u he ry
    exact SeqAt.notIn_tuple_reads r2 r1 (SeqAt.canLay_of_shaped se) (SeqAt.canLay_of_shaped sd) (room_in_shaped sd hu) ⟨.bl _, H, I, rfl, by simpa using q⟩
def seqD : D → Option (List D)
  | .lst xs => some xs
  | .tup xs => some xs
  | _ => none
def dInQ : B2 := fun x y k => match seqD y with
  | some xs => (Shp x ∧ Shp (.lst xs)) ∧ k (.bl (xs.any fun z => deq z x))
  | none => False
def dNinQ : B2 := fun x y k => match seqD y with
  | some xs => (Shp x ∧ Shp (.lst xs)) ∧ k (.bl (!xs.any fun z => deq z x))
  | none => False
theorem any_py {x : D} (hx : shp x = true) : ∀ xs : List D, shps xs = true → ((pys xs).any fun z => PyData.eqv z (py x)) = xs.any fun z => deq z x
  | [], _ => rfl
  | y :: ys, h => by
    have h : (shp y && shps ys) = true := h
    rw [Bool.and_eq_true] at h
    show (PyData.eqv (py y) (py x) || (pys ys).any fun z => PyData.eqv z (py x)) = (deq y x || ys.any fun z => deq z x)
    rw [deq_py _ _ h.1 hx, any_py hx ys h.2]
theorem seq_dp {G H : Hp} (s : Same G H) {e : D} {y : V} {xs : List D} (h : seqD e = some xs) (w : Shp (.lst xs)) (r : Rep K G e y) : Dp K H y (.list (pys xs)) ∨ Dp K H y (.tuple (pys xs)) := by
  cases e with
  | lst ys =>
    cases h
    exact .inl (rep_py s (d := .lst xs) w.1 r)
  | tup ys =>
    cases h
    exact .inr (rep_py s (d := .tup xs) w.1 r)
  | _ => cases h
theorem rw_inQ : RW2 K (rInQ K false) dInQ := fun G H x y d e kk Q s rx ry h k => by
  unfold dInQ at h
  cases q : seqD e with
  | none => rw [q] at h; exact h.elim
  | some xs =>
    rw [q] at h
    obtain ⟨⟨f1, f2⟩, h⟩ := h
    refine ⟨py d, pys xs, rep_py s f1.1 rx, seq_dp s q f2 ry, shaped_of f1, shaped_of f2, ?_⟩
    rw [any_py f1.1 xs f2.1, show ∀ t : Bool, (false != t) = t from fun t => by cases t <;> rfl]
    exact k _ _ h rfl
theorem rw_ninQ : RW2 K (rInQ K true) dNinQ := fun G H x y d e kk Q s rx ry h k => by
  unfold dNinQ at h
  cases q : seqD e with
  | none => rw [q] at h; exact h.elim
  | some xs =>
    rw [q] at h
    obtain ⟨⟨f1, f2⟩, h⟩ := h
    refine ⟨py d, pys xs, rep_py s f1.1 rx, seq_dp s q f2 ry, shaped_of f1, shaped_of f2, ?_⟩
    rw [any_py f1.1 xs f2.1, show ∀ t : Bool, (true != t) = !t from fun t => by cases t <;> rfl]
    exact k _ _ h rfl
end
section
variable {P : Program} {w : World} {K : PySem.W.Frag} {mg : Str → Option Value} {base : Heap} {N : List Str} {k : Nat} {W : WX}
variable {F : Fam P w K mg base N k W} {a b : Expr} {p p2 pos : Pos} {qa qb : WE}
theorem slAK {X : Cx} (h : X.K = K) : SlR X (rSlA K) := by subst h; exact sl_tupA
theorem d_cutT {lo hi : Option Expr} {ql qh : WPt} (ha : DE F a qa) (hl : DPt F lo ql) (hh : DPt F hi qh) : DE F (.Subscript a (.Slice lo hi none p) pos) (wCutT qa ql qh) := by
  obtain ⟨t, h1, h2⟩ := ha
  obtain ⟨u, u1, u2⟩ := hl
  obtain ⟨v, v1, v2⟩ := hh
  exact ⟨_, fun i => pe_slice (slAK (F.hK i)) (h1 i) (u1 i) (v1 i), ew_cutT h2 u2 v2⟩
theorem d_divmod (hm : mg "divmod" = none) (ha : DE F a qa) (hb : DE F b qb) (hg : ∀ j, Gl (F.X j) "divmod" := by intro _; rfl) (hs : ∀ j, starEach [a, b] (F.X j).env = (false, eval a (F.X j).env) :: starEach [b] (F.X j).env := by intro _; rfl) (hs2 : ∀ j, starEach [b] (F.X j).env = (false, eval b (F.X j).env) :: starEach [] (F.X j).env := by intro _; rfl)
    (hpl : ∀ j, (backTo pos (starEach [b] (F.X j).env)).any (·.1) = false := by intro _; rfl) : DE F (.Call (.Name "divmod" p) [a, b] [] pos) (wDivmod qa qb) := by
  obtain ⟨t, h1, h2⟩ := ha
  obtain ⟨u, u1, u2⟩ := hb
  exact ⟨_, fun j => pe_callB call_divmodW (hg j) (by rw [F.hm j]; exact hm) (by decide +kernel) (pa_cons (h1 j) (pa_cons (u1 j) pa_nil (hs2 j)) (hs j)) (by decide) (by decide) (hs j) (hpl j), ew_divmod h2 u2⟩
theorem inQK {X : Cx} (h : X.K = K) (hu : X.A.units + 65 < cLine) : OpR X (compareOp .In) (rInQ K false) := by subst h; exact op_inQ hu
theorem ninQK {X : Cx} (h : X.K = K) (hu : X.A.units + 65 < cLine) : OpR X (compareOp .NotIn) (rInQ K true) := by subst h; exact op_ninQ hu
theorem d_inQ (ha : DE F a qa) (hb : DE F b qb) (hm : behindInMarks .In b = false := by rfl) : DE F (.Compare a [.In] [b] pos) (wBin dInQ qa qb) := d_cmp (fun j => inQK (F.hK j) (by have := (F.room j).rm.un; omega)) rw_inQ ha hb hm
theorem d_ninQ (ha : DE F a qa) (hb : DE F b qb) (hm : behindInMarks .NotIn b = false := by rfl) : DE F (.Compare a [.NotIn] [b] pos) (wBin dNinQ qa qb) := d_cmp (fun j => ninQK (F.hK j) (by have := (F.room j).rm.un; omega)) rw_ninQ ha hb hm
theorem t_inQ (ha : DE F a qa) (hb : DE F b qb) (hm : behindInMarks .In b = false := by rfl) : DT F (.Compare a [.In] [b] pos) (wTst (wBin dInQ qa qb)) := t_cmp (fun j => inQK (F.hK j) (by have := (F.room j).rm.un; omega)) rw_inQ ha hb hm
theorem t_ninQ (ha : DE F a qa) (hb : DE F b qb) (hm : behindInMarks .NotIn b = false := by rfl) : DT F (.Compare a [.NotIn] [b] pos) (wTst (wBin dNinQ qa qb)) := t_cmp (fun j => ninQK (F.hK j) (by have := (F.room j).rm.un; omega)) rw_ninQ ha hb hm
end
/-! ### defs under a further name, constants -/
section
variable {P : Program} {w : World} {K : PySem.W.Frag} {mg : Str → Option Value} {base : Heap}
theorem CalF.mk2A {x y qual : Str} {st : Stmt} {f : Addr} {fd : FuncData} {N ps : List Str} {fs : FS} {ws : WS} {j : Nat} (Fn : Fun K x qual st f fd) (hm : mg y = some (.ref f)) (S : FnScope N ps (defScope st)) (hl : ∀ dvs kk, fs dvs kk → dvs.length = ps.length) (hN : ps.length ≤ N.length)
    (hd : ∀ (cdv : Value) (A : Around) (outer : List PySem.Env) (s : Shared) (H : Hp) (E : XK) (hr : Rm base j (A.deeper (envOfC qual (defScope st) s.heap.objs.size f cdv))), DSs (Fam.body P w K mg base N j qual (defScope st) f cdv A outer s H E hr S.nd) (defBody st) ws)
    (hk : Keeps0 N.length ws fs) : CalF P w K mg base (j + 1) y ps fs f fd := ⟨fn_keeps0 Fn S hl hN hd hk, hm, Fn.kp⟩
theorem CalFX.mkVA {x y qual : Str} {st : Stmt} {f : Addr} {fd : FuncData} {N ps : List Str} {fs : FS} {ws : WS} {j : Nat} (Fn : FunV K x qual st f fd) (hm : mg y = some (.ref f)) (S : FnScope N ps (defScope st)) (hl : ∀ dvs kk, fs dvs kk → dvs.length = ps.length) (hN : ps.length ≤ N.length)
    (hd : ∀ (cdv : Value) (A : Around) (outer : List PySem.Env) (s : Shared) (H : Hp) (E : XK) (hr : Rm base j (A.deeper (envOfC qual (defScope st) s.heap.objs.size f cdv))), DSs (Fam.bodyX P w K mg base N j qual (defScope st) f cdv A outer s H E hr S.nd) (defBody st) ws)
    (hk : Keeps N.length ws fs) : CalFX P w K mg base (j + 1) y ps fs f fd := ⟨fn_keepsX Fn S hl hN hd hk, hm, Fn.kp⟩
/-- a module's constant -/
structure GDat (K : PySem.W.Frag) (mg : Str → Option Value) (x : Str) (d : D) : Prop where
  ex : ∃ (v : V) (u : Value), mg x = some u ∧ RelV v u ∧ ∀ G, Rep K G d v
theorem int_pair {K : PySem.W.Frag} {a : Addr} {od : Option Addr} {i j : Int} {t u : Tok} {n : Nat} {sl : Array (Option Value)} (l : K.lookup a = some ⟨.type "tuple", od, .seq #[.int i t, .int j u] n, sl⟩) (G : Hp) : Rep K G (.tup [.int i, .int j]) (.ref a) :=
  ⟨a, [.int i, .int j], rfl, .inr ⟨_, _, n, l, rfl, rfl, by show 2 ≤ sizeLine; decide, .cons ⟨_, rfl⟩ (.cons ⟨_, rfl⟩ .nil)⟩, _, _, rfl, rfl, _, _, rfl, rfl, rfl⟩
theorem GDat.pp {x : Str} {a b c : Addr} {od o1 o2 : Option Addr} {i j k l : Int} {t1 t2 t3 t4 : Tok} {n n1 n2 : Nat} {sl s1 s2 : Array (Option Value)} (h : mg x = some (.ref a)) (la : K.lookup a = some ⟨.type "tuple", od, .seq #[.ref b, .ref c] n, sl⟩)
    (lb : K.lookup b = some ⟨.type "tuple", o1, .seq #[.int i t1, .int j t2] n1, s1⟩) (lc : K.lookup c = some ⟨.type "tuple", o2, .seq #[.int k t3, .int l t4] n2, s2⟩) : GDat K mg x (.tup [.tup [.int i, .int j], .tup [.int k, .int l]]) :=
  ⟨.ref a, _, h, rfl, fun G => ⟨a, [.ref b, .ref c], rfl, .inr ⟨_, _, n, la, rfl, rfl, by show 2 ≤ sizeLine; decide, .cons rfl (.cons rfl .nil)⟩, _, _, rfl, int_pair lb G, _, _, rfl, int_pair lc G, rfl⟩⟩
variable {N : List Str} {k : Nat} {W : WX} {F : Fam P w K mg base N k W}
theorem d_globD {x : Str} {d : D} {pos : Pos} (h : GDat K mg x d) (hg : ∀ j, Gl (F.X j) x := by intro _; rfl) (hd : (x == ("__debug__" : Str)) = false := by decide) : DE F (.Name x pos) (wC d) := by
  obtain ⟨v, u, h1, h2, h3⟩ := h.ex
  exact d_glob h1 h2 h3 hg hd
end
section
variable {P : Program} {w : World} {K : PySem.W.Frag} {mg : Str → Option Value} {base : Heap} {N : List Str} {k : Nat} {W : WX}
variable {F : Fam P w K mg base N k W} {a b c e : Expr} {es : List Expr} {x : Str} {pos p : Pos}
theorem o_callP {kf nu : Nat} {ps ks : List Str} {fs : FS} {qs rs : List WE} {more : List D} {ix : List Nat} {kws : List Keyword} (C : CalP P w K mg base kf x ps fs nu ks more ix) (ha : DL F (a :: es) qs) (hkw : DKw F kws rs) (hnu : qs.length = nu := by rfl) (hnk : rs.length = ks.length := by rfl) (hk : kf ≤ k := by decide)
    (hg : ∀ j, Gl (F.X j) x := by intro _; rfl) (hdb : (x == ("__debug__" : Str)) = false := by decide) (he : ∀ j, starEach (a :: es) (F.X j).env = (false, eval a (F.X j).env) :: starEach es (F.X j).env := by intro _; rfl)
    (hall : ∀ j, (backToKw pos (keywordEach kws (F.X j).env)).all (·.1.isSome) = true := by intro _; rfl) (hks : ∀ j, (backToKw pos (keywordEach kws (F.X j).env)).filterMap (·.1) = ks := by intro _; rfl)
    (hpl : ∀ j, ((backTo pos (starEach (a :: es) (F.X j).env)).any (·.1) || (backToKw pos (keywordEach kws (F.X j).env)).any (·.1.isNone)) = false := by intro _; rfl) : DO F (.Call (.Name x p) (a :: es) kws pos) (wCallKO fs (qs ++ rs) more ix) := by
  obtain ⟨f, fd, mu, mv, c1, c2, c3, c4, c5, c6⟩ := C.ex
  obtain ⟨t, h1, h2⟩ := ha
  obtain ⟨u, u1, u2⟩ := hkw
  subst hnu
  refine ⟨_, fun j => callP (W := W) (F.hP j) (F.hw j) (F.hK j) (F.hm j) (F.hb j) c1 (F.room j) hk (hg j) c2 c3 c4 c5 (h1 j) (u1 j) (hall j) (hks j) hdb (he j) (hpl j), ?_⟩
  have e : qs.length + ks.length = (qs ++ rs).length := by rw [List.length_append, hnk]
  rw [e]
  exact eo_callK (aw_two h2 u2) c6
theorem o_callP0 {kf : Nat} {ps ks : List Str} {fs : FS} {rs : List WE} {more : List D} {ix : List Nat} {kws : List Keyword} (C : CalP P w K mg base kf x ps fs 0 ks more ix) (hkw : DKw F kws rs) (hnk : rs.length = ks.length := by rfl) (hk : kf ≤ k := by decide)
    (hg : ∀ j, Gl (F.X j) x := by intro _; rfl) (hdb : (x == ("__debug__" : Str)) = false := by decide)
    (hall : ∀ j, (backToKw pos (keywordEach kws (F.X j).env)).all (·.1.isSome) = true := by intro _; rfl) (hks : ∀ j, (backToKw pos (keywordEach kws (F.X j).env)).filterMap (·.1) = ks := by intro _; rfl)
    (hpl : ∀ j, ((backTo pos (starEach [] (F.X j).env)).any (·.1) || (backToKw pos (keywordEach kws (F.X j).env)).any (·.1.isNone)) = false := by intro _; rfl) : DO F (.Call (.Name x p) [] kws pos) (wCallKO fs rs more ix) := by
  obtain ⟨f, fd, mu, mv, c1, c2, c3, c4, c5, c6⟩ := C.ex
  obtain ⟨u, u1, u2⟩ := hkw
  refine ⟨_, fun j => callP0 (W := W) (F.hP j) (F.hw j) (F.hK j) (F.hm j) (F.hb j) c1 (F.room j) hk (hg j) c2 c3 c4 c5 (u1 j) (hall j) (hks j) hdb (hpl j), ?_⟩
  have e : 0 + ks.length = rs.length := by rw [hnk, Nat.zero_add]
  rw [e]
  exact eo_callK (aw_two (as := []) aw_nil u2) c6
end
end DW

/-! DwII: zip of lists and tuples in any mix, enumerate of a list, sorted of whole numbers, extend. -/
namespace DW
open PySem PySem.Spec PyProof.Rows L2
/-! ### lists and tuples, by their kind -/
def sqK (K : PySem.W.Frag) : Bool → Hp → Addr → List V → Prop
  | true => SqL K
  | false => SqT K
def itK : Bool → Heap → Addr → Addr → Nat → Prop
  | true => fun h => h.IsListIter
  | false => fun h => h.IsTupleIter
def isK : Bool → Heap → Addr → Array Value → Prop
  | true => fun h => h.IsList
  | false => fun h => h.IsTuple
theorem drawsK {prog : Program} {w : World} {A : Around} (hh : A.handled = none) (it l : Addr) (hne : l ≠ it) (items : Array Value) : ∀ k : Bool,
    Draws prog w A it [it, l] items.size (fun i v => items[i]? = some v) (fun i h => itK k h it l i ∧ isK k h l items)
  | true => .list hh it l hne items
  | false => .tuple hh it l hne items
theorem itK_at {it l : Addr} {i : Nat} {h h' : Heap} : ∀ {k : Bool}, itK k h it l i → (∀ o, h.get? it = some o → h'.get? it = some o) → itK k h' it l i
  | true, q, e => Heap.IsListIter.at q e
  | false, q, e => Heap.IsTupleIter.at q e
theorem itK_obj {it l : Addr} {i : Nat} {h : Heap} : ∀ {k : Bool}, itK k h it l i → ∃ o, h.get? it = some o ∧ ∀ v, o.data ≠ .cell v
  | true, q => by
    obtain ⟨o, e, _, d⟩ := q
    exact ⟨o, e, fun v q => by rw [d] at q; cases q⟩
  | false, q => by
    obtain ⟨o, e, _, d⟩ := q
    exact ⟨o, e, fun v q => by rw [d] at q; cases q⟩
theorem inv_sq {X : Cx} {pins : List (Addr × Obj)} {σ : L2.St} {H : Hp} {s : Shared} {a : Addr} {xs : List V} (I : Inv X pins σ H s) : ∀ {k : Bool}, sqK X.K k H a xs → ∃ its, Vals xs its ∧ isK k s.heap a its.toArray ∧ ∃ o, s.heap.get? a = some o
  | true, h => by
    obtain ⟨its, rv, p, _⟩ := I.list h
    obtain ⟨o, e, _⟩ := id p.isList
    exact ⟨its, rv, p.isList, o, e⟩
  | false, h => by
    obtain ⟨its, rv, p, _⟩ := I.tuple h
    obtain ⟨o, e, _⟩ := id p
    exact ⟨its, rv, p, o, e⟩
theorem sq_inj {X : Cx} {pins : List (Addr × Obj)} {σ : L2.St} {H : Hp} {s : Shared} {a : Addr} {xs ys : List V} (I : Inv X pins σ H s) : ∀ {k : Bool}, sqK X.K k H a xs → sqK X.K k H a ys → xs = ys
  | true, h, h' => I.list_inj h h'
  | false, h, h' => I.tuple_inj h h'
theorem sqK_same {K : PySem.W.Frag} {H H' : Hp} {a : Addr} {xs : List V} (e : Same H H') : ∀ {k : Bool}, sqK K k H a xs → sqK K k H' a xs
  | true, h => L2.Same.seq e h
  | false, h => Same.t e h
/-! ### zip -/
def ItzM (K : PySem.W.Frag) (k1 k2 : Bool) (a b : Addr) : It :=
  ⟨fun i H => ∃ (xs ys : List V) (x y : V), sqK K k1 H a xs ∧ sqK K k2 H b ys ∧ xs[i]? = some x ∧ ys[i]? = some y,
    fun i H v H' => ∃ T x y, v = .ref T ∧ H T = none ∧ H' = upd H T (.tup [x, y]) ∧ (∀ xs, sqK K k1 H a xs → xs[i]? = some x) ∧ ∀ ys, sqK K k2 H b ys → ys[i]? = some y,
    fun i H => ∃ xs ys : List V, sqK K k1 H a xs ∧ sqK K k2 H b ys ∧ i ≤ xs.length ∧ i ≤ ys.length ∧ (i = xs.length ∨ i = ys.length)⟩
theorem sep_of {z TI TO i1 i2 a b : Addr} (D : ZipApart z TI TO i1 i2 a b) : ZipSep2 z TI TO i1 i2 [i1, a] [i2, b] where
  TIz := D.TIz
  TOz := D.TOz
  TITO := D.TITO
  TIi1 := D.TIi1
  mem1 := List.mem_cons_self
  zf1 := fun q => by
    rcases List.mem_cons.mp q with q | q
    · exact D.i1z q.symm
    · exact D.l1z (List.mem_singleton.mp q).symm
  Tf1 := fun q => by
    rcases List.mem_cons.mp q with q | q
    · exact D.TOi1 q
    · exact D.l1TO (List.mem_singleton.mp q).symm
  TIi2 := D.TIi2
  mem2 := List.mem_cons_self
  zf2 := fun q => by
    rcases List.mem_cons.mp q with q | q
    · exact D.i2z q.symm
    · exact D.l2z (List.mem_singleton.mp q).symm
  Tf2 := fun q => by
    rcases List.mem_cons.mp q with q | q
    · exact D.TOi2 q
    · exact D.l2TO (List.mem_singleton.mp q).symm
  sep1_2 := fun q => by
    rcases List.mem_cons.mp q with q | q
    · exact D.i12 q
    · exact D.l2i1 (List.mem_singleton.mp q).symm
  sep2_1 := fun q => by
    rcases List.mem_cons.mp q with q | q
    · exact D.i12 q.symm
    · exact D.l1i2 (List.mem_singleton.mp q).symm
theorem turn_zipM {P : Program} {w : World} {K : PySem.W.Frag} {elts : List Expr} {kk : Nat} {tpos : Pos} {k1 k2 : Bool} {a b z TI TO i1 i2 : Addr} (D : ZipApart z TI TO i1 i2 a b) :
    Turn P w K (.Tuple elts kk tpos) (ItzM K k1 k2 a b) [z, TI, TO, i1, i2] z (fun i h => IsZip h z TI TO .none ∧ IsPair h TI (.ref i1) (.ref i2) ∧ (∃ x y, IsPair h TO x y) ∧ itK k1 h i1 a i ∧ itK k2 h i2 b i) where
  mem := by simp
  obj := fun i h st c hc => by
    obtain ⟨hz, hTI, ⟨x, y, hTO⟩, h1, h2⟩ := st
    have e' : c = z ∨ c = TI ∨ c = TO ∨ c = i1 ∨ c = i2 := by simpa using hc
    rcases e' with q | q | q | q | q
    · rw [q]; exact ⟨_, hz, fun v q => nomatch q⟩
    · rw [q]; exact ⟨_, hTI, fun v q => nomatch q⟩
    · rw [q]; exact ⟨_, hTO, fun v q => nomatch q⟩
    · rw [q]; exact itK_obj h1
    · rw [q]; exact itK_obj h2
  keep := fun i h h' st k => by
    obtain ⟨hz, hTI, ⟨x, y, hTO⟩, h1, h2⟩ := st
    exact ⟨k z (by simp) _ hz, k TI (by simp) _ hTI, ⟨x, y, k TO (by simp) _ hTO⟩, itK_at h1 fun o q => k i1 (by simp) o q, itK_at h2 fun o q => k i2 (by simp) o q⟩
  item := by
    intro X hP hw hK hc i pins s σ H E I hf st hg
    subst hP hw hK
    obtain ⟨hz, hTI, ⟨x0, y0, hTO⟩, h1, h2⟩ := st
    obtain ⟨xs, ys, x, y, hqx, hqy, hx, hy⟩ := hg
    obtain ⟨its, rv, p, _⟩ := inv_sq I hqx
    obtain ⟨its2, rv2, p2, _⟩ := inv_sq I hqy
    obtain ⟨u, hu, ru⟩ := rv.get hx
    obtain ⟨u2, hu2, ru2⟩ := rv2.get hy
    have hzl : z < s.heap.objs.size := Heap.lt_size hz
    have hh : X.A.handled = none := I.ok.hd hc
    have il1 : i < its.toArray.size := by
      have := (List.getElem?_eq_some_iff.mp hu).1
      simpa using this
    have il2 : i < its2.toArray.size := by
      have := (List.getElem?_eq_some_iff.mp hu2).1
      simpa using this
    have hu' : its.toArray[i]? = some u := by simpa using hu
    have hu2' : its2.toArray[i]? = some u2 := by simpa using hu2
    refine wpAny_pyNext_zipD2_item (s := s) (sep_of D) (drawsK (A := X.A.in1) hh i1 a D.l1i1 its.toArray k1) (drawsK (A := X.A.in1) hh i2 b D.l2i2 its2.toArray k2) hz hTI hTO ⟨h1, p⟩ ⟨h2, p2⟩ il1 il2 fun v1 v2 h' tk e1 e2 z' TO' t1 t2 hT hsz hk => ?_
    have e1 := Option.some.inj (e1.symm.trans hu')
    have e2 := Option.some.inj (e2.symm.trans hu2')
    subst e1 e2
    refine ⟨_, rfl, wpAny_letOwnedTupleGo_zip (s := { s with heap := h', toks := tk }) z' fun h'' z'' sb => ?_⟩
    have hT2 : h''.get? s.heap.objs.size = some { cls := .type "tuple", data := .seq #[v1, v2] } := (sb.2 _ (Nat.ne_of_gt hzl)).trans hT
    have new : ObjOk X.prog X.w (upd H s.heap.objs.size (.tup [x, y])) h'' s.heap.objs.size (.tup [x, y]) :=
      ⟨by show 2 ≤ sizeLine; decide, [v1, v2], .cons ru (.cons ru2 .nil), ⟨_, hT2, rfl, _, rfl⟩⟩
    have I1 : Inv X pins σ (upd H s.heap.objs.size (.tup [x, y])) { s with heap := h'', toks := tk } :=
      I.turnedNew (t' := tk) (ch := [z, TI, TO, i1, i2]) (fun c o hb q => (sb.2 c (fun q' => hb (by simp [q']))).trans (hk c o (fun q' => hb (by simp [q'])) (fun q' => hb (by simp [q'])) (fun q' => hb (by simp [q'])) (fun q' => hb (by simp [q'])) q)) hf (Nat.le_refl _) new
    refine ⟨.ref s.heap.objs.size, _, I1, rfl, ⟨_, x, y, rfl, I.hok.fresh (Nat.le_refl _), rfl, fun l hl => by rw [sq_inj I hl hqx]; exact hx, fun l hl => by rw [sq_inj I hl hqy]; exact hy⟩, ⟨z'', ?_, ⟨v1, v2, ?_⟩, ?_, ?_⟩, fun c hcm => ?_⟩
    · exact (sb.2 _ D.TIz).trans (hk _ _ D.TIz D.TITO D.TIi1 D.TIi2 hTI)
    · exact (sb.2 _ D.TOz).trans TO'
    · exact itK_at t1.1 fun o q => (sb.2 _ D.i1z).trans q
    · exact itK_at t2.1 fun o q => (sb.2 _ D.i2z).trans q
    · have hlt : c < s.heap.objs.size := by
        have e' : c = z ∨ c = TI ∨ c = TO ∨ c = i1 ∨ c = i2 := by simpa using hcm
        rcases e' with q | q | q | q | q
        · rw [q]; exact hzl
        · rw [q]; exact Heap.lt_size hTI
        · rw [q]; exact Heap.lt_size hTO
        · rw [q]; obtain ⟨_, e1, _⟩ := itK_obj h1; exact Heap.lt_size e1
        · rw [q]; obtain ⟨_, e2, _⟩ := itK_obj h2; exact Heap.lt_size e2
      rw [upd_ne (Nat.ne_of_lt hlt)]
      exact (hf c hcm).1
  done := by
    intro X hP hw hK hc i pins s σ H E I hf st hg
    subst hP hw hK
    obtain ⟨hz, hTI, ⟨x0, y0, hTO⟩, h1, h2⟩ := st
    obtain ⟨xs, ys, hqx, hqy, l1, l2, hend⟩ := hg
    obtain ⟨its, rv, p, _⟩ := inv_sq I hqx
    obtain ⟨its2, rv2, p2, _⟩ := inv_sq I hqy
    have e1 : xs.length = its.toArray.size := by have := rv.length; simpa using this
    have e2 : ys.length = its2.toArray.size := by have := rv2.length; simpa using this
    have hh : X.A.handled = none := I.ok.hd hc
    refine wpAny_pyNext_zipD2_end (s := s) (sep_of D) (drawsK (A := X.A.in1) hh i1 a D.l1i1 its.toArray k1) (drawsK (A := X.A.in1) hh i2 b D.l2i2 its2.toArray k2) hz hTI hTO ⟨h1, p⟩ ⟨h2, p2⟩ (by omega) (by omega) (by omega) fun h' tk hk => ?_
    exact ⟨rfl, I.turnedL (t' := tk) (ch := [z, TI, TO, i1, i2]) (fun c o hb q => hk c o (fun q' => hb (by simp [q'])) (fun q' => hb (by simp [q'])) (fun q' => hb (by simp [q'])) (fun q' => hb (by simp [q'])) q) hf⟩
  self := fun A i s Q E st h => wpAny_pyIter_zip st.1 h
def begO : Bool → Value → Obj
  | true, v => { cls := .type "list_iterator", data := .fields #[v, .int 0 0] }
  | false, v => { cls := .type "tuple_iterator", data := .fields #[v, .int 0 0] }
theorem begins_k (l : Addr) (items : Array Value) : ∀ k : Bool, Begins (.ref l) (begO k (.ref l)) fun h => isK k h l items
  | true => begins_list l items
  | false => begins_tuple l items
theorem beg_it {l it : Addr} {h : Heap} : ∀ {k : Bool}, h.get? it = some (begO k (.ref l)) → itK k h it l 0
  | true, e => ⟨_, e, rfl, rfl⟩
  | false, e => ⟨_, e, rfl, rfl⟩
def iZipM (K : PySem.W.Frag) (ta : TA) : TI := fun σ H R => ta σ H fun vs H1 => ∃ k1 k2 a b xs ys, vs = [.ref a, .ref b] ∧ sqK K k1 H1 a xs ∧ sqK K k2 H1 b ys ∧ R (ItzM K k1 k2 a b) H1
theorem pi_zipM {X : Cx} {e e2 : Expr} {ta : TA} {p pos tpos : Pos} {elts : List Expr} {kk : Nat} (hg : Gl X "zip") (hm : X.mg "zip" = none) (ha : PA X [e, e2] ta)
    (hs : starEach [e, e2] X.env = (false, eval e X.env) :: starEach [e2] X.env) (hpl : (backTo pos (starEach [e2] X.env)).any (·.1) = false) :
    PI X (.Tuple elts kk tpos) (.Call (.Name "zip" p) [e, e2] [] pos) (iZipM X.K ta) := by
  refine ⟨fun pins s σ H R I h => ?_⟩
  refine Call_ (ld_blt I hg hm PyProof.Rows.boot_zip (PyProof.Rows.callWith_type1 (thn (ha.run pos pins s σ H _ I h) fun us s1 ⟨vs, H1, I1, r1, q1⟩ => ?_) hs hpl))
  obtain ⟨k1, k2, a, b, xs, ys, ex, hqx, hqy, q⟩ := q1
  subst ex
  cases r1 with
  | cons r rr =>
    cases rr with
    | cons r' rr =>
      cases rr
      cases r
      cases r'
      have fresh5 : ∀ c, c ∈ [s1.heap.objs.size + 4, s1.heap.objs.size + 2, s1.heap.objs.size + 3, s1.heap.objs.size, s1.heap.objs.size + 1] → FpOk X pins H1 c := fun c hcm => by
        have e' : c = s1.heap.objs.size + 4 ∨ c = s1.heap.objs.size + 2 ∨ c = s1.heap.objs.size + 3 ∨ c = s1.heap.objs.size ∨ c = s1.heap.objs.size + 1 := by simpa using hcm
        have hle : s1.heap.objs.size ≤ c := by
          rcases e' with z | z | z | z | z
          · rw [z]; exact Nat.le_add_right _ _
          · rw [z]; exact Nat.le_add_right _ _
          · rw [z]; exact Nat.le_add_right _ _
          · rw [z]; exact Nat.le_refl _
          · rw [z]; exact Nat.le_add_right _ _
        exact I1.fpOk hle (I1.hok.fresh hle)
      obtain ⟨its, rv, p1, o1, ho1⟩ := inv_sq I1 hqx
      obtain ⟨its2, rv2, p2, o2, ho2⟩ := inv_sq I1 hqy
      refine zip_begins2 (s := s1) (begins_k a its.toArray k1) (begins_k b its2.toArray k2) p1 p2 fun h' hz hTI hTO h1 h2 hsz hk => wpAny_pyIter_zip hz ?_
      have I2 : Inv X pins σ H1 { s1 with heap := h' } := I1.kept (t' := s1.toks) hk
      exact ⟨s1.heap.objs.size + 4, [s1.heap.objs.size + 4, s1.heap.objs.size + 2, s1.heap.objs.size + 3, s1.heap.objs.size, s1.heap.objs.size + 1], _, _, H1, rfl, I2, turn_zipM (PySem.W.ktu_apart s1.heap.objs.size a b (Heap.lt_size ho1) (Heap.lt_size ho2)), ⟨hz, hTI, ⟨_, _, hTO⟩, beg_it h1, beg_it h2⟩, fresh5, q⟩
/-! ### sources that give new pairs -/
abbrev Src := XKd → DS → (List D → DS → Prop) → Prop
def zipD (xs ys : List D) : List D := (xs.zip ys).map fun p => .tup [p.1, p.2]
def enumD (xs : List D) : List D := xs.zipIdx.map fun p => .tup [.int (p.2 : Int), p.1]
def wZip (a b : WE) : Src := fun x ds k => a x ds fun u ds1 => b x ds1 fun v ds2 => match items u, items v with | some xs, some ys => k (zipD xs ys) ds2 | _, _ => False
def wEnum (a : WE) : Src := fun x ds k => a x ds fun u ds1 => match u with | .lst xs => k (enumD xs) ds1 | _ => False
def wForS (src : Src) (g : Tg) (b : WS) : WS := fun ds P => src P.x ds fun xs ds1 => forI g b P xs ds1
def wLcS (src : Src) (g : Tg) (vs : List Nat) (t : WT) (e : WE) : WO := fun x ds k => src x ds fun xs ds1 => compI g vs t e nox xs ds1 k
/-- what comes is new pairs of what stands still -/
def YOk (K : PySem.W.Frag) (J : It) (xs : List D) (G : Hp) : Prop := ∃ (S : Hp → Prop) (fu fv : Nat → Option V), Walk J xs.length S (YPair fu fv) ∧ (∀ H, Same G H → S H) ∧ ∀ i u v, fu i = some u → fv i = some v → ∃ du dv, xs[i]? = some (.tup [du, dv]) ∧ Rep K G du u ∧ Rep K G dv v
def IW (K : PySem.W.Frag) (W : WX) (ti : TI) (src : Src) : Prop := ∀ (c : C0) pa G H σ ds xk (kk : List D → DS → Prop) (R : It → Hp → Prop), Env K c pa G H σ ds → src xk ds kk → XOk K c W xk →
  (∀ J G' H' xs ds', kk xs ds' → Stp K c pa σ G H ds G' H' ds' → YOk K J xs G' → R J H') → ti σ H R
section
variable {K : PySem.W.Frag} {W : WX} {ta tb te tx : TE} {a b e : WE} {t u : TT} {wt wu : WT} {o : WO} {g : TG} {tg : Tg} {ti : TI} {src : Src}
theorem pairRep {G : Hp} {T : Addr} {u v : V} {du dv : D} (h : G T = none) (ru : Rep K G du u) (rv : Rep K G dv v) : Rep K (upd G T (.tup [u, v])) (.tup [du, dv]) (.ref T) :=
  ⟨T, [u, v], rfl, SqT.of upd_same, u, [v], rfl, ru.mono (same_new h), v, [], rfl, rv.mono (same_new h), rfl⟩
theorem sw_forS {tbd : TS} {wb : WS} (h : IW K W ti src) (hg : GW K g tg) (hb : SW K W tbd wb) : SW K W (tFor ti g tbd) (wForS src tg wb) := fun c pa G H σ ds P D E hw hx he =>
  h c pa G H σ ds _ _ _ E hw hx fun J G1 H1 xs ds1 q S1 yk => by
    obtain ⟨I, i0, is, ie⟩ := q
    obtain ⟨S, fu, fv, w, hS, hr⟩ := yk
    have E1 := S1.env
    have hx1 := hx.into E1
    have he1 := he.into E1
    refine for_it w (fun i σ H => ∃ pa G ds, I i ds ∧ Env K (c.at_ G1) pa G H σ ds) ⟨pa, G1, ds1, i0, E1.into⟩ (fun i σ2 H2 _ ⟨_, _, _, _, F⟩ => hS _ (F.ge.trans F.ex)) ?_ ?_
    · rintro i x σ2 H2 H3 hi ⟨pa2, G2, ds2, i2, E2⟩ ⟨T, u, v, rfl, hT, rfl, eu, ev⟩
      obtain ⟨du, dv, ex, ru, rv⟩ := hr i u v eu ev
      have gT := (E2.free hT).1
      obtain ⟨E3, s3⟩ := E2.new (o := .tup [u, v]) hT
      refine hg _ pa2 _ _ σ2 ds2 (.ref T) (.tup [du, dv]) _ _ E3 (pairRep gT (ru.mono E2.ge) (rv.mono E2.ge)) (is i _ ds2 ex i2) fun σ3 ds3 q3 E4 _ _ => ?_
      exact hb _ pa2 _ _ σ3 ds3 _ _ E4 q3 hx1 ⟨fun pa G H σ ds q E => ⟨pa, G, ds, q, E⟩, he1.rt, he1.nx, fun pa G H σ ds q E => ⟨pa, G, ds, q, E⟩⟩
    · rintro σ2 H2 ⟨pa2, G2, ds2, i2, E2⟩
      exact he1.nx pa2 G2 H2 σ2 ds2 (ie ds2 i2) E2
theorem comp_turnG {c : C0} {pa : Nat → Addr} {σ : L2.St} {vs : List Nat} {G0 H0 : Hp} {ds0 : DS} {I : Nat → List D → DS → Prop} {Dl : Addr} {i : Nat} {H : Hp} {x : V} {d : D} {xk : XKd} (hg : GW K g tg) (ht : TW K Wn t wt) (he : EW K Wn te e) (hn : ∀ j ∈ tgn tg, j ∈ vs) (hx : XOk K c Wn xk)
    (hD : H0 Dl = none) (hi : ∃ G ds acc, I i acc ds ∧ Stp K c pa (wipe σ vs) G0 H0 ds0 G H (ers ds vs) ∧ Tmp K c pa G H (ers ds vs) Dl acc ∧ Rep K G d x)
    (hs : ∀ acc ds, I i acc ds → tga tg d (ers ds vs) fun ds1 => wt xk ds1 fun b ds2 => if b = true then e xk ds2 fun v ds3 => acc.length < 10000000 ∧ I (i + 1) (acc ++ [v]) ds3 else I (i + 1) acc ds2) :
    g x (wipe σ vs) H fun σ2 H2 => wipe σ2 vs = wipe σ vs ∧ t σ2 H2 fun b H3 =>
      if b = true then te σ2 H3 fun y H4 => ∃ acc, H4 Dl = some (.lst acc) ∧ acc.length < sizeLine ∧ CInv K c pa σ vs G0 H0 ds0 I Dl (i + 1) (upd H4 Dl (.lst (acc ++ [y]))) else CInv K c pa σ vs G0 H0 ds0 I Dl (i + 1) H3 := by
  obtain ⟨G, ds, acc, h1, S, T, r⟩ := hi
  refine hg c pa G H (wipe σ vs) (ers ds vs) x d _ _ S.env r (hs acc ds h1) fun σ2 ds1 q1 E1 w1 n1 => ?_
  have ew : wipe σ2 vs = wipe σ vs := by
    rw [w1 vs hn, wipe_wipe]
  have T1 : Tmp K c pa G H ds1 Dl acc := T.less fun i dv q o => ⟨dv, n1 i dv q o, o⟩
  have close : ∀ {G5 H5 : Hp} {ds5 : DS}, Stp K c pa σ2 G H ds1 G5 H5 ds5 → Stp K c pa (wipe σ vs) G0 H0 ds0 G5 H5 (ers ds5 vs) := fun {G5 H5 ds5} S5 => by
    refine S.trans ⟨?_, S5.sg, fun a o q n => S5.fr a o q fun i dv h oo => n i dv (n1 i dv h oo) oo, fun i dv h o => ?_, S5.dom⟩
    · rw [← ew]
      exact S5.env.wipes vs
    · obtain ⟨d1, q1, o1⟩ := ers_less i dv h o
      obtain ⟨d2, q2, o2⟩ := S5.sub i d1 q1 o1
      exact ⟨d2, n1 i d2 q2 o2, o2⟩
  refine ⟨ew, ht c pa G H σ2 ds1 xk _ _ E1 q1 hx fun v G3 H3 ds2 q2 S2 => ?_⟩
  cases v with
  | false =>
    rw [if_neg Bool.false_ne_true] at q2 ⊢
    exact ⟨G3, ds2, acc, q2, close S2, (T1.stay S2).less ers_less⟩
  | true =>
    rw [if_pos rfl] at q2 ⊢
    refine he c pa G3 H3 σ2 ds2 xk _ _ S2.env q2 hx fun y G4 H4 z ds3 q3 S3 r3 => ?_
    have S4 := S2.trans S3
    have T4 := T1.stay S4
    obtain ⟨ws, hw, rw_⟩ := T4.here
    obtain ⟨hl, q3⟩ := q3
    refine ⟨ws, hw, ?_, G4, ds3, acc ++ [z], q3, ?_, ?_⟩
    · rw [← rw_.len]
      exact Nat.lt_of_lt_of_le hl (by decide)
    · have C := close S4
      have T5 : Tmp K c pa G4 H4 (ers ds3 vs) Dl acc := T4.less ers_less
      obtain ⟨E6, _⟩ := C.env.tmpWrite T5 (rw_.app r3)
      refine ⟨E6, C.sg, fun a o q n => ?_, C.sub, fun a q => ?_⟩
      · obtain ⟨e1, e2⟩ := C.fr a o q n
        exact ⟨by rw [upd_ne (ne_of_none q hD)]; exact e1, e2⟩
      · by_cases n : a = Dl
        · rw [n, upd_same]
          exact fun z => nomatch z
        · rw [upd_ne n]
          exact C.dom a q
    · exact ((close S4).env.tmpWrite (T4.less ers_less) (rw_.app r3)).2
theorem eo_lcS {vs : List Nat} (h : IW K W ti src) (hg : GW K g tg) (ht : TW K Wn t wt) (he : EW K Wn te e) (hn : ∀ j ∈ tgn tg, j ∈ vs := by decide) : EO K W (tLc ti g t te vs) (wLcS src tg vs wt e) := fun c pa G H σ ds xk kk Q E hw hx k => by
  refine h c pa G H σ ds xk _ _ E hw hx fun J G1 H1 xs ds1 q S1 yk => ?_
  obtain ⟨I, i0, is, ie⟩ := q
  obtain ⟨S, fu, fv, w, hS, hr⟩ := yk
  have E1 := S1.env
  have k1 : ∀ p G' H' xs ds', kk xs ds' → Stp K c pa σ G1 H1 ds1 G' H' ds' → Tmp K c pa G' H' ds' p xs → H1 p = none → Q (.ref p) H' := fun p G' H' xs ds' q S T n => k p G' H' xs ds' q (S1.trans S) T (by
    cases z : H p with
    | none => rfl
    | some o => exact absurd n (S1.dom p (by rw [z]; exact fun y => nomatch y)))
  intro Dl hD
  refine lc_it w (CInv K c pa σ vs G1 H1 (ers ds1 vs) I Dl) (comp_begin E1 hD i0) (fun i H' _ ⟨G', ds', acc, _, S', _⟩ => hS _ (S'.sg.trans S'.env.ex)) ?_ fun H' hi => comp_done E1 hD hi ie k1
  rintro i x H2 H3 hi ⟨G2, ds2, acc, i2, S2, T2⟩ ⟨T, u, v, rfl, hT, rfl, eu, ev⟩
  obtain ⟨du, dv, ex, ru, rv⟩ := hr i u v eu ev
  have gT := (S2.env.free hT).1
  have N := Stp.new S2.env (o := .tup [u, v]) hT
  exact comp_turnG hg ht he hn (fun _ _ z => z.elim) hD ⟨_, ds2, acc, i2, S2.trans N, T2.stay N, pairRep gT (ru.mono S2.sg) (rv.mono S2.sg)⟩ fun acc ds h => is i _ acc ds ex h
theorem items_some2 {d d' : D} {P : List D → List D → Prop} (h : match items d, items d' with | some xs, some ys => P xs ys | _, _ => False) : ∃ xs ys, items d = some xs ∧ items d' = some ys ∧ P xs ys := by
  cases e : items d with
  | none => rw [e] at h; exact h.elim
  | some xs =>
    cases e' : items d' with
    | none => rw [e, e'] at h; exact h.elim
    | some ys => rw [e, e'] at h; exact ⟨xs, ys, rfl, rfl, h⟩
theorem items_repK {G : Hp} {d : D} {v : V} {xs : List D} (h : items d = some xs) (r : Rep K G d v) : ∃ k p vs, v = .ref p ∧ sqK K k G p vs ∧ Reps K G xs vs := by
  have main : ∀ {d : D}, Rep K G d v → (d = .lst xs ∨ d = .tup xs) → ∃ k p vs, v = .ref p ∧ sqK K k G p vs ∧ Reps K G xs vs := fun {d} r z => by
    rcases z with rfl | rfl
    · obtain ⟨p, vs, e, h1, h2⟩ := r
      exact ⟨true, p, vs, e, h1, h2⟩
    · obtain ⟨p, vs, e, h1, h2⟩ := r
      exact ⟨false, p, vs, e, h1, h2⟩
  cases d with
  | lst ys => exact main r (.inl (by cases h; rfl))
  | tup ys => exact main r (.inr (by cases h; rfl))
  | «at» a d =>
    cases d with
    | lst ys => exact main r.2 (.inl (by cases h; rfl))
    | tup ys => exact main r.2 (.inr (by cases h; rfl))
    | _ => exact nomatch h
  | _ => exact nomatch h
theorem zipD_len (xs ys : List D) : (zipD xs ys).length = min xs.length ys.length := by simp [zipD]
theorem zipD_get {xs ys : List D} {i : Nat} {x y : D} (h1 : xs[i]? = some x) (h2 : ys[i]? = some y) : (zipD xs ys)[i]? = some (.tup [x, y]) := by
  unfold zipD
  rw [List.getElem?_map, List.getElem?_zip_eq_some.mpr (show xs[i]? = some (x, y).1 ∧ ys[i]? = some (x, y).2 from ⟨h1, h2⟩)]
  rfl
theorem yok_zip {G : Hp} {k1 k2 : Bool} {p1 p2 : Addr} {xs ys : List D} {us vs : List V} (h1 : sqK K k1 G p1 us) (h2 : sqK K k2 G p2 vs) (r1 : Reps K G xs us) (r2 : Reps K G ys vs) : YOk K (ItzM K k1 k2 p1 p2) (zipD xs ys) G := by
  refine ⟨fun H => Same G H, fun i => us[i]?, fun i => vs[i]?, ⟨fun i H hi s => ?_, fun H s => ?_, fun i H v H' hi s y => ?_⟩, fun _ s => s, fun i u v eu ev => ?_⟩
  · rw [zipD_len, r1.len, r2.len] at hi
    have i1 : i < us.length := by omega
    have i2 : i < vs.length := by omega
    exact ⟨us, vs, us[i], vs[i], sqK_same s h1, sqK_same s h2, List.getElem?_eq_getElem i1, List.getElem?_eq_getElem i2⟩
  · rw [zipD_len, r1.len, r2.len]
    exact ⟨us, vs, sqK_same s h1, sqK_same s h2, by omega, by omega, by omega⟩
  · obtain ⟨T, x, z, e1, e2, e3, e4, e5⟩ := y
    exact ⟨T, x, z, e1, e2, e3, e4 us (sqK_same s h1), e5 vs (sqK_same s h2)⟩
  · obtain ⟨d1, q1, rr1⟩ := r1.gev eu
    obtain ⟨d2, q2, rr2⟩ := r2.gev ev
    exact ⟨d1, d2, zipD_get q1 q2, rr1, rr2⟩
theorem iw_zip (h : EW K W ta a) (h' : EW K W tb b) : IW K W (iZipM K (tCons ta (tCons tb tNil))) (wZip a b) := fun c pa G H σ ds xk kk R E hw hx k =>
  h c pa G H σ ds _ _ _ E hw hx fun v G1 H1 d ds1 q S1 r1 => h' c pa G1 H1 σ ds1 _ _ _ S1.env q hx fun v2 G2 H2 d2 ds2 q2 S2 r2 => by
    obtain ⟨xs, ys, e1, e2, q⟩ := items_some2 q2
    obtain ⟨k1, p1, us, rfl, s1, rs1⟩ := items_repK e1 (r1.mono S2.sg)
    obtain ⟨k2, p2, vs, rfl, s2, rs2⟩ := items_repK e2 r2
    exact ⟨k1, k2, p1, p2, us, vs, rfl, sqK_same S2.env.ex s1, sqK_same S2.env.ex s2, k _ _ _ _ _ q (S1.trans S2) (yok_zip s1 s2 rs1 rs2)⟩
theorem enumD_len (xs : List D) : (enumD xs).length = xs.length := by simp [enumD]
theorem enumD_get {xs : List D} {i : Nat} {x : D} (h : xs[i]? = some x) : (enumD xs)[i]? = some (.tup [.int (i : Int), x]) := by
  unfold enumD
  rw [List.getElem?_map, List.getElem?_zipIdx, h]
  simp
theorem yok_enum {G : Hp} {p : Addr} {xs : List D} {us : List V} (h : SqL K G p us) (r : Reps K G xs us) : YOk K (Ite K p) (enumD xs) G := by
  have w : Walk (Ite K p) us.length (fun H => SqL K H p us) (YPair (fun i => some (.int (i : Nat))) (fun i => us[i]?)) := walk_enum
  refine ⟨fun H => Same G H, fun i => some (.int (i : Nat)), fun i => us[i]?, ?_, fun _ s => s, fun i u v eu ev => ?_⟩
  · rw [enumD_len, r.len]
    exact w.mono (fun H s => L2.Same.seq s h) fun _ _ _ _ _ _ y => y
  · obtain ⟨d, q, rr⟩ := r.gev ev
    have eu : V.int (i : Nat) = u := Option.some.inj eu
    subst eu
    exact ⟨.int (i : Int), d, enumD_get q, rfl, rr⟩
theorem iw_enum (h : EW K W ta a) : IW K W (iEnum K (tCons ta tNil)) (wEnum a) := fun c pa G H σ ds xk kk R E hw hx k =>
  h c pa G H σ ds _ _ _ E hw hx fun v G1 H1 d ds1 q S1 r1 => by
    cases d with
    | lst xs =>
      obtain ⟨p, us, rfl, s1, rs1⟩ := r1
      exact ⟨p, us, rfl, L2.Same.seq S1.env.ex s1, k _ _ _ _ _ q S1 (yok_enum s1 rs1)⟩
    | _ => exact (show False from q).elim
end
end DW

/-! DwJJ: derivations of zip, enumerate, sorted of whole numbers, extend, [a, *b]. -/
namespace DW
open PySem PySem.Spec PyProof.Rows L2 StX
/-- sorted(xs) of whole numbers -/
def wSortI (a : WE) : WO := fun x ds k => a x ds fun d ds1 => ∃ ns : List Int, d = .lst (ns.map .int) ∧ ∀ ms : List Int, ms.Perm ns → ms.Pairwise (· ≤ ·) → k (ms.map .int) ds1
/-- xs.extend(a list made for it) -/
def wExt (i : Nat) (o : WO) : WS := fun ds P => (listAt ds i).isSome = true ∧ o P.x ds fun ys ds1 => match listAt ds1 i with | some xs => xs.length + ys.length ≤ 10000000 ∧ P.nx (refill ds1 i (xs ++ ys)) | none => False
/-- [a, *b] -/
def wStarR (a b : WE) : WO := fun x ds k => a x ds fun u ds1 => b x ds1 fun v ds2 => match items v with | some xs => xs.length ≤ 100000 ∧ k (u :: xs) ds2 | none => False
/-- [*b, a] -/
def wStarL (b a : WE) : WO := fun x ds k => b x ds fun v ds1 => match items v with | some xs => xs.length ≤ 100000 ∧ a x ds1 fun u ds2 => k (xs ++ [u]) ds2 | none => False
section
variable {K : PySem.W.Frag} {W : WX} {ta tb te tx : TE} {a b e : WE} {o : WO}
theorem ints_eq {G : Hp} : ∀ {ns : List Int} {vs : List V}, Reps K G (ns.map .int) vs → vs = ns.map V.int
  | [], vs, h => h
  | n :: ns, vs, h => by
    obtain ⟨x, xs, rfl, r1, r2⟩ := h
    have r1 : x = .int n := r1
    rw [r1, ints_eq r2]
    rfl
theorem reps_ints {G : Hp} : ∀ ns : List Int, Reps K G (ns.map .int) (ns.map V.int)
  | [] => rfl
  | n :: ns => ⟨_, _, rfl, rfl, reps_ints ns⟩
theorem eo_sortI (h : EW K W ta a) : EO K W (tCB (rSortedI K) (tCons ta tNil)) (wSortI a) := fun c pa G H σ ds xk kk Q E hw hx k => by
  refine h c pa G H σ ds xk _ _ E hw hx fun v G1 H1 d ds1 q S1 r1 => ?_
  obtain ⟨ns, rfl, q⟩ := q
  obtain ⟨p, ys, rfl, h1, h2⟩ := r1
  have := ints_eq h2
  subst this
  refine ⟨p, ns, rfl, L2.Same.seq S1.env.ex h1, fun ms l hp hs hl => ?_⟩
  obtain ⟨S, t, n⟩ := S1.made hl (reps_ints (G := G1) ms)
  exact k l _ _ _ _ (q _ hp hs) S t n
theorem sw_ext {i : Nat} (h1 : EO K W te o) : SW K W (tDrop (tBM K "list" rExtend (tVar i) (tCons te tNil))) (wExt i o) := fun c pa G H σ ds P D E hw hx he => by
  obtain ⟨q0, hw⟩ := hw
  obtain ⟨zs, hz⟩ := isSome_at q0
  obtain ⟨_, _, _, _, _, _, _, vs0, hh0, _⟩ := E.lst hz
  refine ⟨_, own_ref E hz, .inl ⟨rfl, vs0, SqL.of hh0⟩, h1 c pa G H σ ds _ _ _ E hw hx fun p G1 H1 ys ds1 q S1 t1 n1 => ?_⟩
  obtain ⟨xs, hxs, hl, q⟩ := listAt_some q
  obtain ⟨_, _, _, _, _, _, _, vs, hh, rr⟩ := S1.env.lst hxs
  obtain ⟨ws, hw, rw_⟩ := t1.here
  refine ⟨pa i, p, vs, ws, rfl, rfl, hh, hw, ?_, he.nx pa G1 _ σ _ q (S1.env.write hxs (rr.append rw_))⟩
  rw [← rr.len, ← rw_.len]
  exact Nat.le_trans hl (by decide)
theorem sqx {G : Hp} {k : Bool} {p : Addr} {vs : List V} : sqK K k G p vs → SqT K G p vs ∨ SqL K G p vs := by
  cases k with
  | true => exact .inr
  | false => exact .inl
theorem some_items {d : D} {P : List D → Prop} (h : match items d with | some xs => P xs | none => False) : ∃ xs, items d = some xs ∧ P xs := by
  cases e : items d with
  | none => rw [e] at h; exact h.elim
  | some xs => rw [e] at h; exact ⟨xs, rfl, h⟩
theorem eo_starR (ha : EW K W ta a) (hb : EW K W tb b) : EO K W (tLst (tCons ta (tStar K tb tNil))) (wStarR a b) := fun c pa G H σ ds xk kk Q E hw hx k => by
  refine ha c pa G H σ ds xk _ _ E hw hx fun x G1 H1 d ds1 q S1 r1 => ?_
  refine hb c pa G1 H1 σ ds1 xk _ _ S1.env q hx fun y G2 H2 e ds2 q2 S2 r2 => ?_
  obtain ⟨xs, ex, hl, q2⟩ := some_items q2
  obtain ⟨kd, p, vs, rfl, s1, rs⟩ := items_repK ex r2
  refine ⟨p, vs, rfl, sqx (sqK_same S2.env.ex s1), ?_, fun l hp => ?_⟩
  · show (vs ++ []).length + 1 ≤ sizeLine
    rw [List.append_nil, ← rs.len]
    exact Nat.le_trans (Nat.succ_le_succ hl) (by decide)
  · have rr : Reps K G2 (d :: xs) (x :: (vs ++ [])) := by
      rw [List.append_nil]
      exact ⟨x, vs, rfl, r1.mono S2.sg, rs⟩
    obtain ⟨S, t, n⟩ := (S1.trans S2).made hp rr
    exact k l _ _ _ _ q2 S t n
theorem eo_starL (hb : EW K W tb b) (ha : EW K W ta a) : EO K W (tLst (tStar K tb (tCons ta tNil))) (wStarL b a) := fun c pa G H σ ds xk kk Q E hw hx k => by
  refine hb c pa G H σ ds xk _ _ E hw hx fun y G1 H1 e ds1 q S1 r1 => ?_
  obtain ⟨xs, ex, hl, q⟩ := some_items q
  obtain ⟨kd, p, vs, rfl, s1, rs⟩ := items_repK ex r1
  refine ⟨p, vs, rfl, sqx (sqK_same S1.env.ex s1), ha c pa G1 H1 σ ds1 xk _ _ S1.env q hx fun x G2 H2 d ds2 q2 S2 r2 => ⟨?_, fun l hp => ?_⟩⟩
  · show (vs ++ [x]).length ≤ sizeLine
    rw [List.length_append, ← rs.len]
    exact Nat.le_trans (Nat.succ_le_succ hl) (by decide)
  · obtain ⟨S, t, n⟩ := (S1.trans S2).made hp ((rs.mono S2.sg).app r2)
    exact k l _ _ _ _ q2 S t n
end
section
variable {P : Program} {w : World} {K : PySem.W.Frag} {mg : Str → Option Value} {base : Heap} {N : List Str} {k : Nat} {W : WX}
variable {F : Fam P w K mg base N k W} {a b c e tg it : Expr} {es elts : List Expr} {x y z : Str} {pos spos py p p2 p3 p4 pp tpos : Pos} {qa qb qc qe : WE} {q r : WT} {g : Tg} {src : Src} {kk : Nat} {s1 : List Stmt} {ws : WS} {o : WO}
/-- what is walked, by its pairs -/
def DI (F : Fam P w K mg base N k W) (tg it : Expr) (src : Src) : Prop := ∃ ti, (∀ i, PI (F.X i) tg it ti) ∧ IW K W ti src
theorem zipK {X : Cx} {ta : TA} (h : X.K = K) (hg : Gl X "zip") (hm : X.mg "zip" = none) (ha : PA X [a, b] ta) (hs : starEach [a, b] X.env = (false, eval a X.env) :: starEach [b] X.env) (hpl : (backTo pos (starEach [b] X.env)).any (·.1) = false) : PI X (.Tuple elts kk tpos) (.Call (.Name "zip" p) [a, b] [] pos) (iZipM K ta) := by
  subst h
  exact pi_zipM hg hm ha hs hpl
theorem enumK {X : Cx} {ta : TA} (h : X.K = K) (hg : Gl X "enumerate") (hm : X.mg "enumerate" = none) (ha : PA X [a] ta) (hs : starEach [a] X.env = [(false, eval a X.env)]) : PI X (.Tuple elts kk tpos) (.Call (.Name "enumerate" p) [a] [] pos) (iEnum K ta) := by
  subst h
  exact pi_enum hg hm ha hs
theorem i_zip (hm : mg "zip" = none) (ha : DE F a qa) (hb : DE F b qb) (hg : ∀ j, Gl (F.X j) "zip" := by intro _; rfl) (h1 : ∀ j, starEach [a, b] (F.X j).env = (false, eval a (F.X j).env) :: starEach [b] (F.X j).env := by intro _; rfl)
    (h2 : ∀ j, starEach [b] (F.X j).env = (false, eval b (F.X j).env) :: starEach [] (F.X j).env := by intro _; rfl) (hpl : ∀ j, (backTo pos (starEach [b] (F.X j).env)).any (·.1) = false := by intro _; rfl) : DI F (.Tuple elts kk tpos) (.Call (.Name "zip" p) [a, b] [] pos) (wZip qa qb) := by
  obtain ⟨t, t1, t2⟩ := ha
  obtain ⟨u, u1, u2⟩ := hb
  exact ⟨_, fun j => zipK (F.hK j) (hg j) (by rw [F.hm j]; exact hm) (pa_cons (t1 j) (pa_cons (u1 j) pa_nil (h2 j)) (h1 j)) (h1 j) (hpl j), iw_zip t2 u2⟩
theorem i_enum (hm : mg "enumerate" = none) (ha : DE F a qa) (hg : ∀ j, Gl (F.X j) "enumerate" := by intro _; rfl) (h1 : ∀ j, starEach [a] (F.X j).env = [(false, eval a (F.X j).env)] := by intro _; rfl) : DI F (.Tuple elts kk tpos) (.Call (.Name "enumerate" p) [a] [] pos) (wEnum qa) := by
  obtain ⟨t, t1, t2⟩ := ha
  exact ⟨_, fun j => enumK (F.hK j) (hg j) (by rw [F.hm j]; exact hm) (pa_cons (t1 j) pa_nil (h1 j)) (h1 j), iw_enum t2⟩
theorem s_forS (hi : DI F a it src) (hg : DG F a g) (h1 : DSs F s1 ws) (hs : ∀ j, ∀ x, foldedSetIterable it (F.X j).env x = pure x := by intro _ _; rfl) : DS1 F (.For a it s1 [] pos) (wForS src g ws) := by
  obtain ⟨t, t1, t2⟩ := hi
  obtain ⟨gg, g1, g2⟩ := hg
  obtain ⟨u, u1, u2⟩ := h1
  exact ⟨_, fun j => ps_for (F.po j) (F.calm j) (t1 j) (g1 j) (u1 j) (hs j), sw_forS t2 g2 u2⟩
theorem o_lcS (own : List (Str × Nat)) {scope : Scope} (hi : DI F tg it src) (hg : DG (F.blk scope) tg g) (ht : DTs (F.blk scope) es q) (he : DE (F.blk scope) e qe) (ok : ∀ j, BlkOk N (F.X j).env.scope scope own) (hn : ∀ i ∈ tgn g, i ∈ own.map (·.2) := by decide)
    (hs : ∀ j, ∀ x, foldedSetIterable it (F.X j).env x = pure x := by intro _ _; rfl) : DO F (.ListComp e [⟨tg, it, es, 0⟩] scope pos) (wLcS src g (own.map (·.2)) q qe) := by
  obtain ⟨t, t1, t2⟩ := hi
  obtain ⟨gg, g1, g2⟩ := hg
  obtain ⟨u, u1, u2⟩ := ht
  obtain ⟨v, v1, v2⟩ := he
  exact ⟨_, fun j => pe_lc (F.calm j) (by rw [F.hN j]; exact F.nd) (t1 j) (by rw [F.hN j]; exact ok j) (fun s H C cl fp => g1 (j, s, H, C, cl, fp)) (fun s H C cl fp => u1 (j, s, H, C, cl, fp)) (fun s H C cl fp => v1 (j, s, H, C, cl, fp)) (hs j), eo_lcS t2 g2 u2 v2 hn⟩
theorem lc_src (own : List (Str × Nat)) {scope : Scope} (hi : DI F tg it src) (hg : DG (F.blk scope) tg g) (ht : DTs (F.blk scope) es q) (he : DE (F.blk scope) e qe) (ok : ∀ j, BlkOk N (F.X j).env.scope scope own) (hn : ∀ i ∈ tgn g, i ∈ own.map (·.2) := by decide)
    (hs : ∀ j, ∀ x, foldedSetIterable it (F.X j).env x = pure x := by intro _ _; rfl) : DLc F e tg it es scope (own.map (·.2)) (wLcS src g (own.map (·.2)) q qe) := by
  obtain ⟨t, t1, t2⟩ := hi
  obtain ⟨gg, g1, g2⟩ := hg
  obtain ⟨u, u1, u2⟩ := ht
  obtain ⟨v, v1, v2⟩ := he
  exact ⟨_, gg, u, v, own, rfl, t1, fun j => by rw [F.hN j]; exact ok j, fun j s H C cl fp => g1 (j, s, H, C, cl, fp), fun j s H C cl fp => u1 (j, s, H, C, cl, fp), fun j s H C cl fp => v1 (j, s, H, C, cl, fp), hs, eo_lcS t2 g2 u2 v2 hn⟩
theorem sortIK {X : Cx} (h : X.K = K) : CallR X (.builtin "sorted") (rSortedI K) := by subst h; exact cr_sortedI
theorem o_sortI (hm : mg "sorted" = none) (ha : DE F e qa) (hg : ∀ j, Gl (F.X j) "sorted" := by intro _; rfl) (hs : ∀ j, starEach [e] (F.X j).env = (false, eval e (F.X j).env) :: starEach [] (F.X j).env := by intro _; rfl) (hpl : ∀ j, (backTo pos (starEach [] (F.X j).env)).any (·.1) = false := by intro _; rfl) :
    DO F (.Call (.Name "sorted" p) [e] [] pos) (wSortI qa) := by
  obtain ⟨t, h1, h2⟩ := ha
  exact ⟨_, fun j => pe_callB (sortIK (F.hK j)) (hg j) (by rw [F.hm j]; exact hm) (by decide +kernel) (pa_cons (h1 j) pa_nil (hs j)) (by decide) (by decide) (hs j) (hpl j), eo_sortI h2⟩
theorem extK {X : Cx} {to : TE} {t : TA} {apos : Pos} (h : X.K = K) (ho : PE X e to) (ha : PA X [a] t) (hbase : attributeBase e "extend" X.env (eval e X.env) = eval e X.env)
    (hfew : ((backTo pos (starEach [a] X.env)).all (fun x => !x.1) && (backToKw pos (keywordEach [] X.env)).all (fun x => x.1.isSome) && decide ([a].length + ([] : List Keyword).length + (if ([] : List Keyword).isEmpty then 0 else 1) < 30)) = true)
    (hline : (apos.endLine == pos.line) = true) (hs : starEach [a] X.env = (false, eval a X.env) :: starEach [] X.env) (hplain : (backTo pos (starEach [] X.env)).any (·.1) = false) :
    PE X (.Call (.Attribute e "extend" apos) [a] [] pos) (tBM K "list" rExtend to t) := by
  subst h
  exact pe_bm PySem.F.plainAttrs_list PySem.F.slot_list_extend PySem.F.type_list_extend mt_extend ho ha hbase hfew hline hs hplain
/-- xs.extend(a list made for it), the own list in slot i -/
theorem s_ext (i : Nat) {apos cpos : Pos} (ha : DO F a o) (h : N[i]? = some x := by rfl) (hv : ∀ j, Vis (F.X j).env.scope x := by intro _; first | exact Or.inl rfl | exact Or.inr (Or.inl rfl) | exact Or.inr (Or.inr rfl))
    (hd : (x == ("__debug__" : Str)) = false := by decide) (hcd : (x == ("__classdict__" : Str)) = false := by decide) (hbase : ∀ j, attributeBase (.Name x p) "extend" (F.X j).env (eval (.Name x p) (F.X j).env) = eval (.Name x p) (F.X j).env := by intro _; rfl)
    (hfew : ∀ j, ((backTo cpos (starEach [a] (F.X j).env)).all (fun x => !x.1) && (backToKw cpos (keywordEach [] (F.X j).env)).all (fun x => x.1.isSome) && decide ([a].length + ([] : List Keyword).length + (if ([] : List Keyword).isEmpty then 0 else 1) < 30)) = true := by intro _; rfl)
    (hline : (apos.endLine == cpos.line) = true := by rfl) (hs : ∀ j, starEach [a] (F.X j).env = (false, eval a (F.X j).env) :: starEach [] (F.X j).env := by intro _; rfl) (hplain : ∀ j, (backTo cpos (starEach [] (F.X j).env)).any (·.1) = false := by intro _; rfl)
    (hsw : ∀ j, swapsWith (.Call (.Attribute (.Name x p) "extend" apos) [a] [] cpos) none pos.line (F.X j).env = pure false := by intro _; rfl) : DS1 F (.Expr (.Call (.Attribute (.Name x p) "extend" apos) [a] [] cpos) pos) (wExt i o) := by
  obtain ⟨t, t1, t2⟩ := ha
  exact ⟨_, fun j => ps_expr (extK (F.hK j) (pe_var (i := i) (by rw [F.hN j]; exact h) (hv j) hd hcd) (pa_cons (t1 j) pa_nil (hs j)) (hbase j) (hfew j) hline (hs j) (hplain j)) (hsw j), sw_ext t2⟩
theorem starK {X : Cx} {te : TE} {t : TA} (h : X.K = K) (he : PE X e te) (hr : PA X es t) (hs : starEach (.Starred e p :: es) X.env = (true, eval e X.env) :: starEach es X.env) : PA X (.Starred e p :: es) (tStar K te t) := by
  subst h
  exact pa_star he hr hs
theorem o_starR (ha : DE F a qa) (hb : DE F b qb) (h1 : ∀ j, starEach [a, .Starred b p] (F.X j).env = (false, eval a (F.X j).env) :: starEach [.Starred b p] (F.X j).env := by intro _; rfl)
    (h2 : ∀ j, starEach [.Starred b p] (F.X j).env = (true, eval b (F.X j).env) :: starEach [] (F.X j).env := by intro _; rfl) : DO F (.List [a, .Starred b p] pos) (wStarR qa qb) := by
  obtain ⟨t, t1, t2⟩ := ha
  obtain ⟨u, u1, u2⟩ := hb
  exact ⟨_, fun j => pe_lst (pa_cons (t1 j) (starK (F.hK j) (u1 j) pa_nil (h2 j)) (h1 j)), eo_starR t2 u2⟩
theorem o_starL (hb : DE F b qb) (ha : DE F a qa) (h1 : ∀ j, starEach [a] (F.X j).env = (false, eval a (F.X j).env) :: starEach [] (F.X j).env := by intro _; rfl)
    (h2 : ∀ j, starEach [.Starred b p, a] (F.X j).env = (true, eval b (F.X j).env) :: starEach [a] (F.X j).env := by intro _; rfl) : DO F (.List [.Starred b p, a] pos) (wStarL qb qa) := by
  obtain ⟨t, t1, t2⟩ := ha
  obtain ⟨u, u1, u2⟩ := hb
  exact ⟨_, fun j => pe_lst (starK (F.hK j) (u1 j) (pa_cons (t1 j) pa_nil (h1 j)) (h2 j)), eo_starL u2 t2⟩
end
end DW

/-! DwLL: what hands back data or a list of the caller's own, whichever it is. -/
namespace DW
open PySem PySem.Spec PyProof.Rows L2
abbrev WB := XKd → DS → (DV → DS → Prop) → Prop
def wBE (e : WE) : WB := fun x ds k => e x ds fun d ds1 => k (.val d) ds1
def wBO (o : WO) : WB := fun x ds k => o x ds fun xs ds1 => k (.own xs) ds1
def wBIf (t : WT) (a b : WB) : WB := fun x ds k => t x ds fun c ds1 => if c = true then a x ds1 k else b x ds1 k
def wBCall (sp : FS) (as : List DA) : WB := fun x ds k => wCallB sp as [] x ds fun r ds1 => match r with | .val d => k (.val d) ds1 | .own xs => k (.own xs) ds1 | .par _ => False
def wBCallK (sp : FS) (as : List WE) (more : List D) (ix : List Nat) : WB := fun x ds k => wArgs as x ds fun l ds1 => sp ((pick ix (l ++ more)).map .val) fun out _ => match out with
  | .ret (.val d) => k (.val d) ds1
  | .ret (.own ys) => k (.own ys) ds1
  | .ret (.par _) => False
  | .exc e => x e ds1
def wRetB (b : WB) : WS := fun ds P => b P.x ds fun r ds1 => P.rt r ds1
def ResB (K : PySem.W.Frag) (c : C0) (pa : Nat → Addr) (G H0 H : Hp) (ds : DS) (v : V) : DV → Prop
  | .val d => Rep K G d v
  | .own xs => ∃ p, v = .ref p ∧ Tmp K c pa G H ds p xs
  | .par _ => False
def EB (K : PySem.W.Frag) (W : WX) (te : TE) (w : WB) : Prop := ∀ (c : C0) pa G H σ ds xk (kk : DV → DS → Prop) (Q : VK), Env K c pa G H σ ds → w xk ds kk → XOk K c W xk →
  (∀ v G' H' r ds', kk r ds' → Stp K c pa σ G H ds G' H' ds' → ResB K c pa G' H H' ds' v r → Q v H') → te σ H Q
section
variable {K : PySem.W.Frag} {W : WX} {ta tb te : TE} {t : TT} {wt : WT} {e : WE} {o : WO} {a b : WB}
theorem eb_e (h : EW K W te e) : EB K W te (wBE e) := fun c pa G H σ ds xk kk Q E hw hx k => h c pa G H σ ds xk _ _ E hw hx fun v G1 H1 d ds1 q S1 r1 => k v G1 H1 _ ds1 q S1 r1
theorem eb_o (h : EO K W te o) : EB K W te (wBO o) := fun c pa G H σ ds xk kk Q E hw hx k => h c pa G H σ ds xk _ _ E hw hx fun p G1 H1 xs ds1 q S1 t1 n1 => k _ G1 H1 _ ds1 q S1 ⟨p, rfl, t1⟩
theorem eb_if (ht : TW K W t wt) (ha : EB K W ta a) (hb : EB K W tb b) : EB K W (tIf t ta tb) (wBIf wt a b) := fun c pa G H σ ds xk kk Q E hw hx k => by
  refine ht c pa G H σ ds xk _ _ E hw hx fun v G1 H1 ds1 q S1 => ?_
  cases v with
  | true =>
    rw [if_pos rfl] at q ⊢
    exact ha c pa G1 H1 σ ds1 xk _ _ S1.env q hx fun x G2 H2 d ds2 q2 S2 r2 => k x G2 H2 d ds2 q2 (S1.trans S2) r2
  | false =>
    rw [if_neg Bool.false_ne_true] at q ⊢
    exact hb c pa G1 H1 σ ds1 xk _ _ S1.env q hx fun x G2 H2 d ds2 q2 S2 r2 => k x G2 H2 d ds2 q2 (S1.trans S2) r2
theorem eb_call {fs : FS} {as : List DA} {ta : TA} (h : CAW K W ta as) : EB K W (tCallSD (spOf K fs) [] (L2.WE W) ta) (wBCall fs as) := fun c pa G H σ ds xk kk Q E hw hx k => by
  refine call_core (more := []) (mv := []) h (fun _ => rfl) E hw hx fun v G' H' r ds' H0 q S R ha hd hn => ?_
  cases r with
  | val d => exact k v G' H' (.val d) ds' q S R
  | own xs =>
    obtain ⟨p, rfl, p0, p1, hp⟩ := R
    have t : Tmp K c pa G' H' ds' p xs := ⟨p1, by
      cases z : c.H0 p with
      | none => rfl
      | some o => exact absurd p0 (hd p (by rw [z]; exact fun z => nomatch z)), hp, fun i dv hi o z => hn i dv hi o (z ▸ p0)⟩
    exact k _ G' H' (.own xs) ds' q S ⟨p, rfl, t⟩
  | par _ => exact (show False from q).elim
theorem eb_callK {fs : FS} {as : List WE} {more : List D} {mv : List V} {ix : List Nat} {ta0 : TA} (h : AW K W ta0 as) (hm : ∀ G, Reps K G more mv) : EB K W (tCallP (spOf K fs) as.length mv ix (L2.WE W) ta0) (wBCallK fs as more ix) := fun c pa G H σ ds xk kk Q E hw hx k => by
  refine h c pa G H σ ds xk _ _ E hw hx fun vs G1 H1 l ds1 q S1 r1 l1 => ⟨by rw [← r1.len, l1], ?_⟩
  refine ⟨G1, fun _ => 0, _, _, S1.env.ex, args_vals ((r1.append (hm G1)).pick ix), q, fun v r dvs' G' H' hk B R => ?_, fun e cls d dvs' G' H' hk B X => ?_⟩
  · have S := S1.calledK B
    cases r with
    | val d => exact k v G' H' (.val d) ds1 hk S R
    | own ys =>
      obtain ⟨p2, rfl, p0, p1, hp⟩ := R
      have t : Tmp K c pa G' H' ds1 p2 ys := ⟨p1, by
        cases z : c.H0 p2 with
        | none => rfl
        | some o => exact absurd p0 (S1.env.dom p2 (by rw [z]; exact fun z => nomatch z)), hp, fun i dv hi o z => S1.env.ownNe hi o (z ▸ p0)⟩
      exact k _ G' H' (.own ys) ds1 hk S ⟨p2, rfl, t⟩
    | par _ => exact (show False from hk).elim
  · exact hx e _ hk pa G' H' σ cls d (S1.calledK B).env X
/-- the list in slot i, given away -/
def wBS (i : Nat) : WB := fun _ ds k => match gt ds i with | some (.own xs) => k (.own xs) (er ds i) | _ => False
theorem eb_own {i : Nat} : EB K W (tVar i) (wBS i) := fun c pa G H σ ds xk kk Q E hw hx k => by
  have hw : (match gt ds i with | some (.own xs) => kk (.own xs) (er ds i) | _ => False) := hw
  cases e : gt ds i with
  | none => rw [e] at hw; exact hw.elim
  | some dv =>
    rw [e] at hw
    cases dv with
    | own xs =>
      obtain ⟨e1, g, h0, hv⟩ := E.sl i _ e
      have S : Stp K c pa σ G H ds G H (er ds i) := ⟨E.drop i, fun _ _ q => q, fun _ _ h _ => ⟨h, rfl⟩, fun j dv q oo => by
        rw [gt_er] at q
        by_cases hj : j = i
        · rw [if_pos hj] at q
          cases q
        · rw [if_neg hj] at q
          exact ⟨dv, q, oo⟩, fun _ h => h⟩
      refine ⟨_, e1, k _ G H (.own xs) _ hw S ⟨_, rfl, g, h0, hv, fun j dv q oo => ?_⟩⟩
      rw [gt_er] at q
      by_cases hj : j = i
      · rw [if_pos hj] at q
        cases q
      · rw [if_neg hj] at q
        exact E.inj j i dv _ q e oo rfl hj
    | val _ => exact hw.elim
    | par _ => exact hw.elim
theorem sw_retB (h1 : EB K W te a) : SW K W (tRet te) (wRetB a) := fun c pa G H σ ds P D E hw hx he =>
  h1 c pa G H σ ds _ _ _ E hw hx fun v G1 H1 r ds1 q S1 R => he.rt pa G1 H1 σ ds1 v r q S1.env (by
    cases r with
    | val d => exact R
    | own xs =>
      obtain ⟨p, e, t⟩ := R
      exact ⟨p, e, t⟩
    | par _ => exact R)
end
section
variable {P : Program} {w : World} {K : PySem.W.Frag} {mg : Str → Option Value} {base : Heap} {N : List Str} {k : Nat} {W : WX}
def DB (F : Fam P w K mg base N k W) (e : Expr) (q : WB) : Prop := ∃ te, (∀ i, PE (F.X i) e te) ∧ EB K W te q
variable {F : Fam P w K mg base N k W} {a b c e : Expr} {es : List Expr} {x : Str} {pos p : Pos} {q : WT} {qa : WE} {o : WO} {ba bb : WB}
theorem b_e (h : DE F e qa) : DB F e (wBE qa) := by
  obtain ⟨t, h1, h2⟩ := h
  exact ⟨t, h1, eb_e h2⟩
theorem b_o (h : DO F e o) : DB F e (wBO o) := by
  obtain ⟨t, h1, h2⟩ := h
  exact ⟨t, h1, eb_o h2⟩
theorem b_if (h : DT F c q) (ha : DB F a ba) (hb : DB F b bb) : DB F (.IfExp c a b pos) (wBIf q ba bb) := by
  obtain ⟨t, h1, h2⟩ := h
  obtain ⟨u, u1, u2⟩ := ha
  obtain ⟨v, v1, v2⟩ := hb
  exact ⟨_, fun i => pe_ifExp (h1 i) (u1 i) (v1 i), eb_if h2 u2 v2⟩
theorem b_callX {kf : Nat} {ps : List Str} {fs : FS} {qs : List DA} (C : CalX P w K mg base kf x ps fs) (ha : DC F (a :: es) qs) (hk : kf ≤ k := by decide)
    (hg : ∀ j, Gl (F.X j) x := by intro _; rfl) (hdb : (x == ("__debug__" : Str)) = false := by decide) (he : ∀ j, starEach (a :: es) (F.X j).env = (false, eval a (F.X j).env) :: starEach es (F.X j).env := by intro _; rfl)
    (hpl : ∀ j, (backTo pos (starEach es (F.X j).env)).any (·.1) = false := by intro _; rfl) : DB F (.Call (.Name x p) (a :: es) [] pos) (wBCall fs qs) := by
  obtain ⟨f, fd, c1, c2, c3, c4⟩ := C.ex
  obtain ⟨u, u1, u2⟩ := ha
  exact ⟨_, fun j => callX (F.hP j) (F.hw j) (F.hK j) (F.hm j) (F.hb j) c1 (F.room j) hk (hg j) c2 c3 c4 .nil (passX (F.hP j) (F.hw j) (F.tk j)) (u1 j) hdb (he j) (hpl j), eb_call u2⟩
theorem b_callPX {kf nu : Nat} {ps ks : List Str} {fs : FS} {qs rs : List WE} {more : List D} {ix : List Nat} {kws : List Keyword} (C : CalPX P w K mg base kf x ps fs nu ks more ix) (ha : DL F (a :: es) qs) (hkw : DKw F kws rs) (hnu : qs.length = nu := by rfl) (hnk : rs.length = ks.length := by rfl) (hk : kf ≤ k := by decide)
    (hg : ∀ j, Gl (F.X j) x := by intro _; rfl) (hdb : (x == ("__debug__" : Str)) = false := by decide) (he : ∀ j, starEach (a :: es) (F.X j).env = (false, eval a (F.X j).env) :: starEach es (F.X j).env := by intro _; rfl)
    (hall : ∀ j, (backToKw pos (keywordEach kws (F.X j).env)).all (·.1.isSome) = true := by intro _; rfl) (hks : ∀ j, (backToKw pos (keywordEach kws (F.X j).env)).filterMap (·.1) = ks := by intro _; rfl)
    (hpl : ∀ j, ((backTo pos (starEach (a :: es) (F.X j).env)).any (·.1) || (backToKw pos (keywordEach kws (F.X j).env)).any (·.1.isNone)) = false := by intro _; rfl) : DB F (.Call (.Name x p) (a :: es) kws pos) (wBCallK fs (qs ++ rs) more ix) := by
  obtain ⟨f, fd, mu, mv, c1, c2, c3, c4, c5, c6⟩ := C.ex
  obtain ⟨t, h1, h2⟩ := ha
  obtain ⟨u, u1, u2⟩ := hkw
  subst hnu
  refine ⟨_, fun j => callPX (W := W) (F.hP j) (F.hw j) (F.hK j) (F.hm j) (F.hb j) c1 (F.room j) hk (hg j) c2 c3 c4 c5 (passX (F.hP j) (F.hw j) (F.tk j)) (h1 j) (u1 j) (hall j) (hks j) hdb (he j) (hpl j), ?_⟩
  have e : qs.length + ks.length = (qs ++ rs).length := by rw [List.length_append, hnk]
  rw [e]
  exact eb_callK (aw_two h2 u2) c6
theorem b_callP0X {kf : Nat} {ps ks : List Str} {fs : FS} {rs : List WE} {more : List D} {ix : List Nat} {kws : List Keyword} (C : CalPX P w K mg base kf x ps fs 0 ks more ix) (hkw : DKw F kws rs) (hnk : rs.length = ks.length := by rfl) (hk : kf ≤ k := by decide)
    (hg : ∀ j, Gl (F.X j) x := by intro _; rfl) (hdb : (x == ("__debug__" : Str)) = false := by decide)
    (hall : ∀ j, (backToKw pos (keywordEach kws (F.X j).env)).all (·.1.isSome) = true := by intro _; rfl) (hks : ∀ j, (backToKw pos (keywordEach kws (F.X j).env)).filterMap (·.1) = ks := by intro _; rfl)
    (hpl : ∀ j, ((backTo pos (starEach [] (F.X j).env)).any (·.1) || (backToKw pos (keywordEach kws (F.X j).env)).any (·.1.isNone)) = false := by intro _; rfl) : DB F (.Call (.Name x p) [] kws pos) (wBCallK fs rs more ix) := by
  obtain ⟨f, fd, mu, mv, c1, c2, c3, c4, c5, c6⟩ := C.ex
  obtain ⟨u, u1, u2⟩ := hkw
  refine ⟨_, fun j => callP0X (W := W) (F.hP j) (F.hw j) (F.hK j) (F.hm j) (F.hb j) c1 (F.room j) hk (hg j) c2 c3 c4 c5 (passX (F.hP j) (F.hw j) (F.tk j)) (u1 j) (hall j) (hks j) hdb (hpl j), ?_⟩
  have e : 0 + ks.length = rs.length := by rw [hnk, Nat.zero_add]
  rw [e]
  exact eb_callK (aw_two (as := []) aw_nil u2) c6
theorem b_own {x : Str} (i : Nat) (h : N[i]? = some x := by rfl) (hv : ∀ j, Vis (F.X j).env.scope x := by intro _; first | exact Or.inl rfl | exact Or.inr (Or.inl rfl) | exact Or.inr (Or.inr rfl))
    (hd : (x == ("__debug__" : Str)) = false := by decide) (hcd : (x == ("__classdict__" : Str)) = false := by decide) : DB F (.Name x p) (wBS i) :=
  ⟨_, fun j => pe_var (i := i) (by rw [F.hN j]; exact h) (hv j) hd hcd, eb_own⟩
theorem s_retB (he : DB F e ba) : DS1 F (.Return (some e) pos) (wRetB ba) := by
  obtain ⟨t, t1, t2⟩ := he
  exact ⟨_, fun j => ps_ret (t1 j), sw_retB t2⟩
end
end DW

/-! DwMM: letters and parts of a text. -/
namespace DW
open PySem PySem.Spec PyProof.Rows L2
section
variable {K : PySem.W.Frag} {W : WX} {ta : TE} {a : WE}
def dIxS : B2
  | .str z, .int i, k => z.length ≤ sizeLine ∧ ∃ c, atI z.cps.toList i = some c ∧ k (.str ⟨#[c]⟩)
  | _, _, _ => False
theorem rw_ixS : RW2 K (rIx K) dIxS := fun G H x y d e kk Q s rx ry h k => by
  cases d with
  | str z =>
    cases e with
    | int i =>
      obtain ⟨hz, c, he, h⟩ := h
      exact .inr (.inr ⟨z, i, c, rx, ry, hz, he, k _ _ h rfl⟩)
    | _ => exact (show False from h).elim
  | _ => exact (show False from h).elim
def wCutS (a : WE) (lo hi : WPt) : WE := fun x ds k => a x ds fun u ds1 => lo x ds1 fun l ds2 => hi x ds2 fun h ds3 => match u with | .str z => z.length ≤ sizeLine ∧ k (.str (cutS z l h)) ds3 | _ => False
theorem ew_cutS {tl th : TO} {lo hi : WPt} (ha : EW K W ta a) (hl : PWt K W tl lo) (hh : PWt K W th hi) : EW K W (tSl rSlS ta tl th) (wCutS a lo hi) := fun c pa G H σ ds xk kk Q E hw hx k => by
  refine ha c pa G H σ ds xk _ _ E hw hx fun x G1 H1 d ds1 q S1 r1 => ?_
  refine hl c pa G1 H1 σ ds1 xk _ _ S1.env q hx fun l G2 H2 ds2 q2 S2 => ?_
  refine hh c pa G2 H2 σ ds2 xk _ _ S2.env q2 hx fun u G3 H3 ds3 q3 S3 => ?_
  cases d with
  | str z =>
    obtain rfl : x = .str z := r1
    obtain ⟨hz, q3⟩ := q3
    exact ⟨z, rfl, hz, k _ G3 H3 _ ds3 q3 (S1.trans (S2.trans S3)) rfl⟩
  | _ => exact (show False from q3).elim
def dLenT : B1
  | .str z, k => z.length ≤ sizeLine ∧ k (.int z.length)
  | _, _ => False
def rLenT : List V → Hp → VK → Prop := fun xs H Q => ∃ z, xs = [.str z] ∧ z.length ≤ sizeLine ∧ Q (.int z.length) H
theorem rc_lenT : RWC1 K rLenT dLenT := fun G H x d kk Q s rx h k => by
  cases d with
  | str z =>
    obtain ⟨hz, h⟩ := h
    exact ⟨z, by rw [show x = .str z from rx], hz, k _ _ h rfl⟩
  | _ => exact (show False from h).elim
/-- purse[e] = v, the list in slot i, from behind -/
def wSetN (i : Nat) (b v : WE) : WS := fun ds P => v P.x ds fun z ds1 => (listAt ds1 i).isSome = true ∧ b P.x ds1 fun n ds2 =>
  match n, listAt ds2 i with
  | .int n, some xs => (n < 0 ∧ -(xs.length : Int) ≤ n) ∧ P.nx (refill ds2 i (xs.set (n + xs.length).toNat z))
  | _, _ => False
theorem sw_setN {tb : TE} {b : WE} {i : Nat} (h1 : EW K W ta a) (h2 : EW K W tb b) : SW K W (tAsg ta (gSub (tVar i) tb rSetL)) (wSetN i b a) := fun c pa G H σ ds P D E hw hx he =>
  h1 c pa G H σ ds _ _ _ E hw hx fun v G1 H1 d ds1 q S1 r1 => by
    obtain ⟨q0, q⟩ := q
    obtain ⟨zs, hz⟩ := isSome_at q0
    refine ⟨_, own_ref S1.env hz, h2 c pa G1 H1 σ ds1 _ _ _ S1.env q hx fun y G2 H2 n ds2 q2 S2 r2 => ?_⟩
    obtain ⟨j, xs, rfl, hxs, ⟨j0, j1⟩, q2⟩ := int_list q2
    obtain ⟨_, _, _, _, _, _, _, vs, hh, rr⟩ := S2.env.lst hxs
    have r2 : y = .int j := r2
    refine ⟨pa i, vs, j, (j + xs.length).toNat, rfl, r2, hh, ?_, he.nx pa G2 _ σ _ q2 (S2.env.write hxs (rr.set _ (r1.mono S2.sg)))⟩
    unfold ixN
    rw [if_neg (by omega), ← rr.len, if_pos j1]
end
section
variable {P : Program} {w : World} {K : PySem.W.Frag} {mg : Str → Option Value} {base : Heap} {N : List Str} {k : Nat} {W : WX}
variable {F : Fam P w K mg base N k W} {a b : Expr} {p p2 pos : Pos} {qa qb : WE}
theorem d_ixS (ha : DE F a qa) (hb : DE F b qb) (hs : PlainIx b := by intro _ _; rfl) : DE F (.Subscript a b pos) (wBin dIxS qa qb) := by
  obtain ⟨t, h1, h2⟩ := ha
  obtain ⟨u, u1, u2⟩ := hb
  exact ⟨_, fun i => pe_ix (ixK (F.hK i)) (h1 i) (u1 i) hs, ew_op rw_ixS h2 u2⟩
theorem d_cutS {lo hi : Option Expr} {ql qh : WPt} (ha : DE F a qa) (hl : DPt F lo ql) (hh : DPt F hi qh) : DE F (.Subscript a (.Slice lo hi none p) pos) (wCutS qa ql qh) := by
  obtain ⟨t, h1, h2⟩ := ha
  obtain ⟨u, u1, u2⟩ := hl
  obtain ⟨v, v1, v2⟩ := hh
  exact ⟨_, fun i => pe_slice sl_str (h1 i) (u1 i) (v1 i), ew_cutS h2 u2 v2⟩
variable {x : Str}
theorem s_putN (i : Nat) (ha : DE F a qa) (hb : DE F b qb) (h : N[i]? = some x := by rfl) (hv : ∀ j, Vis (F.X j).env.scope x := by intro _; first | exact Or.inl rfl | exact Or.inr (Or.inl rfl) | exact Or.inr (Or.inr rfl))
    (hd : (x == ("__debug__" : Str)) = false := by decide) (hcd : (x == ("__classdict__" : Str)) = false := by decide)
    (hs : ∀ j, swapsWithSole [.Subscript (.Name x p) b p2] a pos.line (F.X j).env = pure false := by intro _; rfl) (hw : ∀ j, swappedStores [.Subscript (.Name x p) b p2] a (F.X j).env = pure none := by intro _; rfl)
    (h1 : ∀ j, (assignEach [.Subscript (.Name x p) b p2] (F.X j).env).map (·.2) = [assign (.Subscript (.Name x p) b p2) (F.X j).env] := by intro _; rfl)
    (ha2 : ∀ j, ∀ v, assign (.Subscript (.Name x p) b p2) (F.X j).env v = (do
      let ov ← holding [v] (eval (.Name x p) (F.X j).env)
      let iv ← holding [v, ov] (eval b (F.X j).env)
      standAt p2
      holding [v, ov, iv] (setItem ov iv v)
      release [v, ov, iv] []) := by intro _ _; rfl) : DS1 F (.Assign [.Subscript (.Name x p) b p2] a pos) (wSetN i qb qa) := by
  obtain ⟨t, t1, t2⟩ := ha
  obtain ⟨u, u1, u2⟩ := hb
  exact ⟨_, fun j => ps_asg (t1 j) (pg_sub (pe_var (i := i) (by rw [F.hN j]; exact h) (hv j) hd hcd) (u1 j) set_list (ha2 j)) (hs j) (hw j) (h1 j), sw_setN t2 u2⟩
theorem d_lenT (hm : mg "len" = none) (ha : DE F a qa) (hg : ∀ j, Gl (F.X j) "len" := by intro _; rfl) (hs : ∀ j, starEach [a] (F.X j).env = (false, eval a (F.X j).env) :: starEach [] (F.X j).env := by intro _; rfl) (hpl : ∀ j, (backTo pos (starEach [] (F.X j).env)).any (·.1) = false := by intro _; rfl) :
    DE F (.Call (.Name "len" p) [a] [] pos) (wUn dLenT qa) := d_b1 (fun j => call_len_str) rc_lenT hm (by decide +kernel) ha hg (by decide) (by decide) hs hpl
end
end DW

/-! DwNN: sorted lists of pairs of whole numbers. -/
namespace L2
open PySem PySem.Spec PyProof.Rows
def Prr (K : PySem.W.Frag) (H : Hp) (x : V) (t : Int × Int) : Prop := ∃ p, x = .ref p ∧ SqT K H p [.int t.1, .int t.2]
def Prrs (K : PySem.W.Frag) (H : Hp) : List V → List (Int × Int) → Prop
  | [], ts => ts = []
  | x :: xs, ts => ∃ t r, ts = t :: r ∧ Prr K H x t ∧ Prrs K H xs r
/-- sorted(xs), xs a list of (int, int): a new list of the same ones, in order -/
def rSorted2 (K : PySem.W.Frag) : List V → Hp → VK → Prop := fun vs H Q => ∃ (a : Addr) (xs : List V) (ts : List (Int × Int)), vs = [V.ref a] ∧ SqL K H a xs ∧ Prrs K H xs ts ∧
  ∀ (ps : List (V × Int × Int)) p, ps.Perm (xs.zip ts) → ps.Pairwise (fun x y => SrtO.lexB y.2 x.2 = false) → H p = none → Q (.ref p) (upd H p (.lst (ps.map (·.1))))
section
variable {X : Cx}
theorem Prr.heap {pins : List (Addr × Obj)} {σ : St} {H : Hp} {s : Shared} {x : V} {t : Int × Int} {u : Value} (I : Inv X pins σ H s) (h : Prr X.K H x t) (r : RelV x u) : ∃ p, x = .ref p ∧ Srt.IsPair s.heap u t.1 t.2 := by
  obtain ⟨p, rfl, h1⟩ := h
  obtain rfl : u = .ref p := r
  obtain ⟨its, v1, ⟨o, ho, hc, n, hd⟩, _⟩ := I.tuple h1
  obtain ⟨a1, a2, rfl, ⟨t1, rfl⟩, ⟨t2, rfl⟩⟩ := vals2 v1
  exact ⟨p, rfl, p, o, t1, t2, n, rfl, ho, hc, hd⟩
theorem Prrs.heap {pins : List (Addr × Obj)} {σ : St} {H : Hp} {s : Shared} (I : Inv X pins σ H s) : ∀ {xs : List V} {ts : List (Int × Int)} {us : List Value}, Prrs X.K H xs ts → Vals xs us →
    (∀ x ∈ xs, ∃ p, x = V.ref p) ∧ ∀ (k : Value → Int × Int), (∀ u t, Srt.IsPair s.heap u t.1 t.2 → k u = t) → ts = us.map k ∧ ∀ u ∈ us, Srt.IsPair s.heap u (k u).1 (k u).2
  | [], ts, _, h, .nil => by
    have h : ts = [] := h
    subst h
    exact ⟨nofun, fun _ _ => ⟨rfl, nofun⟩⟩
  | x :: xs, ts, _, h, .cons (b := u) r rs => by
    obtain ⟨t, ts', rfl, h1, h2⟩ := h
    obtain ⟨p, e, n⟩ := h1.heap I r
    obtain ⟨i1, i2⟩ := Prrs.heap I h2 rs
    refine ⟨fun y m => ?_, fun k hk => ?_⟩
    · rcases List.mem_cons.mp m with rfl | m
      · exact ⟨p, e⟩
      · exact i1 y m
    · obtain ⟨j1, j2⟩ := i2 k hk
      have ku := hk u t n
      refine ⟨by rw [List.map_cons, ku, ← j1], fun y m => ?_⟩
      rcases List.mem_cons.mp m with rfl | m
      · rw [ku]; exact n
      · exact j2 y m
theorem isPair_uniq {h : Heap} {u : Value} {x y x' y' : Int} (a : Srt.IsPair h u x y) (b : Srt.IsPair h u x' y') : x = x' ∧ y = y' := by
  obtain ⟨p, o, t, v, n, e, ho, _, hd⟩ := a
  obtain ⟨p', o', t', v', n', e', ho', _, hd'⟩ := b
  rw [e] at e'
  cases e'
  rw [ho] at ho'
  cases ho'
  rw [hd] at hd'
  injection hd' with z1 _
  simp only [Array.mk.injEq, List.cons.injEq, Value.int.injEq, and_true] at z1
  exact ⟨z1.1.1, z1.2.1⟩
open Classical in
noncomputable def pairK (h : Heap) (u : Value) : Int × Int := if z : ∃ t : Int × Int, Srt.IsPair h u t.1 t.2 then z.choose else (0, 0)
theorem pairK_at {h : Heap} {u : Value} {t : Int × Int} (a : Srt.IsPair h u t.1 t.2) : pairK h u = t := by
  unfold pairK
  have z : ∃ t : Int × Int, Srt.IsPair h u t.1 t.2 := ⟨t, a⟩
  rw [dif_pos z]
  obtain ⟨e1, e2⟩ := isPair_uniq z.choose_spec a
  exact Prod.ext e1 e2
theorem cr_sorted2   : CallR X (.builtin "sorted") (rSorted2 X.K) := by
  intro pins s σ H vs us Q I r h
  obtain ⟨a, xs, ts, rfl, hs, hx, q⟩ := h
  obtain ⟨its, rv, hl, hz⟩ := I.list hs
  obtain ⟨u, rfl, ru⟩ := vals1 r
  obtain rfl : u = Value.ref a := ru
  obtain ⟨h1, h2⟩ := hx.heap I rv
  obtain ⟨et, hn⟩ := h2 (pairK s.heap) fun u t z => pairK_at z
  obtain ⟨e1, e2⟩ := refs_back rv h1
  refine SrtO.sorted_pairsO (k := pairK s.heap) hl.isList (by rw [← rv.length]; exact hz) hn fun h' d out g1 g2 kp hd hn => ?_
  have h3 : ∀ u ∈ out, ∃ a, u = Value.ref a := fun u hu => e2 u (g2.perm.mem_iff.mp hu)
  obtain ⟨n, hn⟩ := hn
  have em : (out.map fun v => (backV v, pairK s.heap v)).map (·.1) = out.map backV := by rw [List.map_map]; rfl
  have ez : xs.zip ts = its.map fun v => (backV v, pairK s.heap v) := by
    rw [e1, et, List.zip_map']
  have hp : (out.map fun v => (backV v, pairK s.heap v)).Perm (xs.zip ts) := by
    rw [ez]
    exact g2.perm.map _
  refine ⟨.ref d, upd H d (.lst (out.map backV)), I.laid (t' := s.toks) kp hd ⟨?_, out, n, vals_back h3, hn⟩, rfl, ?_⟩
  · rw [List.length_map, g2.perm.length_eq, ← rv.length]
    exact hz
  · rw [← em]
    exact q _ d hp (List.pairwise_map.mpr g1) (I.hok.fresh hd)
end
end L2
namespace DW
open PySem PySem.Spec PyProof.Rows L2
def d2 (t : Int × Int) : D := .tup [.int t.1, .int t.2]
/-- sorted(xs) of (int, int) -/
def wSort2 (a : WE) : WO := fun x ds k => a x ds fun d ds1 => ∃ ts : List (Int × Int), d = .lst (ts.map d2) ∧ ∀ us : List (Int × Int), us.Perm ts → us.Pairwise (fun x y => SrtO.lexB y x = false) → k (us.map d2) ds1
section
variable {K : PySem.W.Frag} {W : WX} {ta : TE} {a : WE}
theorem prrs_of {G : Hp} : ∀ {ts : List (Int × Int)} {vs : List V}, Reps K G (ts.map d2) vs → Prrs K G vs ts
  | [], vs, h => by
    have h : vs = [] := h
    subst h
    rfl
  | t :: ts, vs, h => by
    obtain ⟨x, xs, rfl, ⟨p, ys, rfl, h1, y1, ys1, rfl, r1, y2, ys2, rfl, r2, r3⟩, r⟩ := h
    have r1 : y1 = .int t.1 := r1
    have r2 : y2 = .int t.2 := r2
    have r3 : ys2 = [] := r3
    subst r1 r2 r3
    exact ⟨t, ts, rfl, ⟨p, rfl, h1⟩, prrs_of r⟩
theorem Prr.mono {G H : Hp} (s : Same G H) {x : V} {t : Int × Int} (h : Prr K G x t) : Prr K H x t := by
  obtain ⟨p, e, h1⟩ := h
  exact ⟨p, e, Same.t s h1⟩
theorem Prrs.mono {G H : Hp} (s : Same G H) : ∀ {xs : List V} {ts : List (Int × Int)}, Prrs K G xs ts → Prrs K H xs ts
  | [], _, h => h
  | _ :: _, _, ⟨t, r, e, h1, h2⟩ => ⟨t, r, e, Prr.mono s h1, Prrs.mono s h2⟩
theorem reps_zip2 {G : Hp} : ∀ {ts : List (Int × Int)} {vs : List V}, Reps K G (ts.map d2) vs → ∀ p ∈ vs.zip ts, Rep K G (d2 p.2) p.1
  | [], vs, _, p, m => by simp at m
  | t :: ts, vs, h, p, m => by
    obtain ⟨x, xs, rfl, h1, h2⟩ := h
    rw [List.zip_cons_cons] at m
    rcases List.mem_cons.mp m with rfl | m
    · exact h1
    · exact reps_zip2 h2 p m
theorem reps_ps2 {G : Hp} : ∀ {ps : List (V × Int × Int)}, (∀ p ∈ ps, Rep K G (d2 p.2) p.1) → Reps K G ((ps.map (·.2)).map d2) (ps.map (·.1))
  | [], _ => rfl
  | p :: ps, h => ⟨_, _, rfl, h p (.head _), reps_ps2 fun q m => h q (.tail _ m)⟩
theorem eo_sort2 (h : EW K W ta a) : EO K W (tCB (rSorted2 K) (tCons ta tNil)) (wSort2 a) := fun c pa G H σ ds xk kk Q E hw hx k => by
  refine h c pa G H σ ds xk _ _ E hw hx fun v G1 H1 d ds1 q S1 r1 => ?_
  obtain ⟨ts, rfl, q⟩ := q
  obtain ⟨p, ys, rfl, h1, h2⟩ := r1
  refine ⟨p, ys, ts, rfl, L2.Same.seq S1.env.ex h1, Prrs.mono S1.env.ex (prrs_of h2), fun ps l hp hs hl => ?_⟩
  have r2 : Reps K G1 ((ps.map (·.2)).map d2) (ps.map (·.1)) := reps_ps2 fun z m => reps_zip2 h2 z (hp.mem_iff.mp m)
  obtain ⟨S, t, n⟩ := S1.made hl r2
  have e2 : (ys.zip ts).map (·.2) = ts := zip_snd (by rw [← h2.len, List.length_map])
  have pr : (ps.map (·.2)).Perm ts := by
    have := hp.map (·.2)
    rw [e2] at this
    exact this
  exact k l _ _ _ _ (q _ pr (List.pairwise_map.mpr hs)) S t n
end
/-- a ** b of any size that may be -/
def CPowW (i j : Int) : Prop := 0 ≤ j ∧ (PySem.Builtin.Int.intBits i : Int) * j ≤ 2 ^ 27
theorem op_powW {X : Cx} : OpR X (binaryOp .Pow) (rI CPowW fun i j => .int (i ^ j.toNat)) := opI fun _ _ _ _ _ _ _ hc q => PyProof.Rows.pow_int hc.1 hc.2 q
def dPowW : B2 | .int a, .int b, k => CPowW a b ∧ k (.int (a ^ b.toNat)) | _, _, _ => False
theorem rw_powW {K : PySem.W.Frag} : RW2 K (rI CPowW fun i j => .int (i ^ j.toNat)) dPowW := fun G H x y d e kk Q s rx ry h k => by
  cases d <;> try exact (show False from h).elim
  cases e <;> try exact (show False from h).elim
  exact ⟨_, _, rx, ry, h.1, k _ _ h.2 rfl⟩
theorem powW_ok {n : Nat} {a j : Int} (h : a.natAbs < 2 ^ n) (j0 : 0 ≤ j) (l : (n : Int) * j ≤ 2 ^ 27) : CPowW a j := by
  refine ⟨j0, Int.le_trans (Int.mul_le_mul_of_nonneg_right ?_ j0) l⟩
  unfold PySem.Builtin.Int.intBits
  by_cases z : a = 0
  · subst z
    show ((0 : Nat) : Int) ≤ n
    omega
  · rw [if_neg (by simpa using z)]
    have : a.natAbs.log2 < n := (Nat.log2_lt (by omega)).mpr h
    omega
/-- x, y, z = [..], a, b -/
def wOPar3 (i j l : Nat) (o : WO) (a b : WE) : WS := fun ds P => o P.x ds fun xs ds1 => a P.x ds1 fun d ds2 => b P.x ds2 fun e ds3 => P.nx (st (st (st ds3 i (.own xs)) j (.val d)) l (.val e))
section
variable {K : PySem.W.Frag} {W : WX} {ta tb tc : TE} {a b : WE} {o : WO}
theorem sw_OPar3 {i j l : Nat} (h1 : EO K W ta o) (h2 : EW K W tb a) (h3 : EW K W tc b) : SW K W (tPar3 i j l (tCons ta (tCons tb (tCons tc tNil)))) (wOPar3 i j l o a b) := fun c pa G H σ ds P D E hw hx he =>
  h1 c pa G H σ ds _ _ _ E hw hx fun p1 G1 H1 xs ds1 q S1 t1 n1 => h2 c pa G1 H1 σ ds1 _ _ _ S1.env q hx fun v G2 H2 d ds2 q2 S2 r2 => h3 c pa G2 H2 σ ds2 _ _ _ S2.env q2 hx fun z G3 H3 f ds3 q3 S3 r3 => by
    have t1' := (t1.stay S2).stay S3
    exact ⟨.ref p1, v, z, rfl, he.nx _ G3 H3 _ _ q3 (((S3.env.setOwn i t1').setVal j (r2.mono S3.sg)).setVal l r3)⟩
end
section
variable {P : Program} {w : World} {K : PySem.W.Frag} {mg : Str → Option Value} {base : Heap} {N : List Str} {k : Nat} {W : WX}
variable {F : Fam P w K mg base N k W} {e : Expr} {p pos : Pos} {qa : WE}
theorem sort2K {X : Cx} (h : X.K = K) : CallR X (.builtin "sorted") (rSorted2 K) := by subst h; exact cr_sorted2
theorem o_sort2 (hm : mg "sorted" = none) (ha : DE F e qa) (hg : ∀ j, Gl (F.X j) "sorted" := by intro _; rfl) (hs : ∀ j, starEach [e] (F.X j).env = (false, eval e (F.X j).env) :: starEach [] (F.X j).env := by intro _; rfl) (hpl : ∀ j, (backTo pos (starEach [] (F.X j).env)).any (·.1) = false := by intro _; rfl) :
    DO F (.Call (.Name "sorted" p) [e] [] pos) (wSort2 qa) := by
  obtain ⟨t, h1, h2⟩ := ha
  exact ⟨_, fun j => pe_callB (sort2K (F.hK j)) (hg j) (by rw [F.hm j]; exact hm) (by decide +kernel) (pa_cons (h1 j) pa_nil (hs j)) (by decide) (by decide) (hs j) (hpl j), eo_sort2 h2⟩
variable {a b c : Expr} {x y z : Str} {p2 p3 p4 p5 : Pos} {o : WO} {qb qc : WE}
theorem d_powW (ha : DE F a qa) (hb : DE F b qb) : DE F (.BinOp a .Pow b pos) (wBin dPowW qa qb) := d_op (fun _ => op_powW) rw_powW ha hb
theorem s_OPar3 (i l m : Nat) {kt k2 : Nat} (ha : DO F a o) (hb : DE F b qb) (hc : DE F c qc) (hi : N[i]? = some x := by rfl) (hl : N[l]? = some y := by rfl) (hz0 : N[m]? = some z := by rfl) (hn : i ≠ l := by decide) (hn2 : i ≠ m := by decide) (hn3 : l ≠ m := by decide)
    (hx : ∀ j, (F.X j).env.scope.names.lookup x = some .local := by intro _; rfl) (hy : ∀ j, (F.X j).env.scope.names.lookup y = some .local := by intro _; rfl) (hz : ∀ j, (F.X j).env.scope.names.lookup z = some .local := by intro _; rfl)
    (hw : ∀ j, swappedStores [.Tuple [.Name x p, .Name y p2, .Name z p5] kt p3] (.Tuple [a, b, c] k2 p4) (F.X j).env = pure (some [x, y, z]) := by intro _; rfl) (hs : ∀ j, swapsWithSole [.Tuple [.Name x p, .Name y p2, .Name z p5] kt p3] (.Tuple [a, b, c] k2 p4) pos.line (F.X j).env = pure false := by intro _; rfl)
    (h1 : ∀ j, starEach [a, b, c] (F.X j).env = (false, eval a (F.X j).env) :: starEach [b, c] (F.X j).env := by intro _; rfl) (h2 : ∀ j, starEach [b, c] (F.X j).env = (false, eval b (F.X j).env) :: starEach [c] (F.X j).env := by intro _; rfl) (h3 : ∀ j, starEach [c] (F.X j).env = (false, eval c (F.X j).env) :: starEach [] (F.X j).env := by intro _; rfl) :
    DS1 F (.Assign [.Tuple [.Name x p, .Name y p2, .Name z p5] kt p3] (.Tuple [a, b, c] k2 p4) pos) (wOPar3 i l m o qb qc) := by
  obtain ⟨t, t1, t2⟩ := ha
  obtain ⟨u, u1, u2⟩ := hb
  obtain ⟨v, v1, v2⟩ := hc
  exact ⟨_, fun j => ps_par3 (F.calm j) (by rw [F.hN j]; exact F.nd) (by rw [F.hN j]; exact hi) (by rw [F.hN j]; exact hl) (by rw [F.hN j]; exact hz0) hn hn2 hn3 (hx j) (hy j) (hz j) (pa_cons (t1 j) (pa_cons (u1 j) (pa_cons (v1 j) pa_nil (h3 j)) (h2 j)) (h1 j)) (hw j) (hs j), sw_OPar3 t2 u2 v2⟩
end
/-- a comprehension within a comprehension: its scope -/
theorem look_rel (env : PySem.Env) (x : Str) : ∀ names : List (Str × NameKind), (match (names.map fun (n, k) => if (k == .free && env.scope.kind == .function && env.kindOf n == some .cell) then (n, NameKind.cell) else (n, k)).lookup x with | some .cell => true | some .free => true | _ => false) = (match names.lookup x with | some .cell => true | some .free => true | _ => false)
  | [] => rfl
  | (n, k) :: r => by
    have ih := look_rel env x r
    show (match List.lookup x ((if (k == NameKind.free && env.scope.kind == .function && env.kindOf n == some .cell) = true then (n, NameKind.cell) else (n, k)) :: _) with | some .cell => true | some .free => true | _ => false) = _
    cases hx : x == n with
    | true =>
      by_cases hc : (k == NameKind.free && env.scope.kind == .function && env.kindOf n == some .cell) = true
      · rw [if_pos hc]
        simp only [List.lookup_cons, hx]
        rw [Bool.and_eq_true, Bool.and_eq_true] at hc
        have : k = NameKind.free := eq_of_beq hc.1.1
        rw [this]
      · rw [if_neg hc]
        simp only [List.lookup_cons, hx]
    | false =>
      by_cases hc : (k == NameKind.free && env.scope.kind == .function && env.kindOf n == some .cell) = true
      · rw [if_pos hc]
        simp only [List.lookup_cons, hx]
        exact ih
      · rw [if_neg hc]
        simp only [List.lookup_cons, hx]
        exact ih
theorem blkOk_rel {N : List Str} {SC scope : Scope} {own : List (Str × Nat)} {env : PySem.Env} (h : blkC N SC scope own = true) : BlkOk N (relabel SC env) scope own := by
  refine blkOk_by ?_
  rw [← h]
  unfold blkC
  congr 1
  refine congrArg (fun f => scope.names.all f) (funext fun y => ?_)
  split
  · exact look_rel env y.1 SC.names
  · rfl
  · rfl
  · rfl
/-! ### a list * n, of any lengths -/
def wRepL (o : WO) (b : WE) : WO := fun x ds k => o x ds fun xs ds1 => b x ds1 fun d ds2 => match d with
  | .int n => (0 ≤ n ∧ n ≤ 1000000 ∧ xs.length * n.toNat ≤ 1000000) ∧ k (List.replicate n.toNat xs).flatten ds2
  | _ => False
theorem eo_repL {K : PySem.W.Frag} {W : WX} {ta tb : TE} {o : WO} {b : WE} (h1 : EO K W ta o) (h2 : EW K W tb b) : EO K W (tOp rRep ta tb) (wRepL o b) := fun c pa G H σ ds xk kk Q E hw hx k => by
  refine h1 c pa G H σ ds xk _ _ E hw hx fun p1 G1 H1 xs ds1 q S1 t1 n1 => ?_
  refine h2 c pa G1 H1 σ ds1 xk _ _ S1.env q hx fun v G2 H2 d ds2 q2 S2 r2 => ?_
  have t1' := t1.stay S2
  obtain ⟨vs, hv, rr⟩ := t1'.here
  cases d with
  | int n =>
    obtain ⟨⟨b1, b2, b3⟩, q2⟩ := q2
    have r2 : v = .int n := r2
    refine ⟨p1, n, vs, rfl, r2, hv, by omega, by omega, ?_, fun p hp => ?_⟩
    · rw [← rr.len]
      exact Nat.le_trans b3 (by decide)
    · obtain ⟨S, t, nn⟩ := (S1.trans S2).made hp (Reps.rep rr n.toNat)
      exact k p _ _ _ _ q2 S t nn
  | _ => exact (show False from q2).elim
section
variable {P : Program} {w : World} {K : PySem.W.Frag} {mg : Str → Option Value} {base : Heap} {N : List Str} {k : Nat} {W : WX}
variable {F : Fam P w K mg base N k W} {a b : Expr} {pos : Pos} {o : WO} {qb : WE}
theorem o_repL (ha : DO F a o) (hb : DE F b qb) : DO F (.BinOp a .Mult b pos) (wRepL o qb) := by
  obtain ⟨t, h1, h2⟩ := ha
  obtain ⟨u, u1, u2⟩ := hb
  exact ⟨_, fun i => pe_op op_rep (h1 i) (u1 i), eo_repL h2 u2⟩
end
end DW

/-! DwCA: what the laws of the first family share: the purse, drawing, mixing, comparing; each def's body with its numbers open. -/
namespace DW
open PySem
theorem fdv {a b : Int} (h : 0 < b) : a.fdiv b = a / b := Int.fdiv_eq_ediv_of_nonneg a (Int.le_of_lt h)
theorem fmd {a b : Int} (h : 0 < b) : a.fmod b = a % b := Int.fmod_eq_emod_of_nonneg a (Int.le_of_lt h)
theorem ten_pow {i j : Nat} (h : i ≤ j) : (10 : Int) ^ i ≤ 10 ^ j := by
  have : 10 ^ i ≤ 10 ^ j := Nat.pow_le_pow_right (by decide) h
  exact_mod_cast this
theorem range_get {lo hi : Int} {i : Nat} {d : D} (h : (rangeD lo hi)[i]? = some d) : d = .int (lo + i) ∧ i < (hi - lo).toNat := by
  have hl := (List.getElem?_eq_some_iff.mp h).1
  unfold rangeD at h hl
  rw [List.length_map, List.length_range] at hl
  rw [List.getElem?_map, List.getElem?_range hl] at h
  exact ⟨(Option.some.inj h).symm, hl⟩
theorem range_len (lo hi : Int) : (rangeD lo hi).length = (hi - lo).toNat := by simp [rangeD]
theorem rng0 (n : Nat) (h : n < 1000000) : RngOk 0 (n : Int) := ⟨⟨by decide, by decide⟩, by omega, by omega⟩
theorem intsD_map : ∀ ns : List Int, intsD (ns.map .int) = some ns
  | [] => rfl
  | n :: r => by
    show (intsD (r.map .int)).map (n :: ·) = some (n :: r)
    rw [intsD_map r]
    rfl
theorem boolsD_map : ∀ ns : List Bool, boolsD (ns.map .bl) = some ns
  | [] => rfl
  | n :: r => by
    show (boolsD (r.map .bl)).map (n :: ·) = some (n :: r)
    rw [boolsD_map r]
    rfl
theorem map_cut (ns : List Int) (lo hi : Option Int) : cutD (ns.map D.int) lo hi = (cutD ns lo hi).map D.int := by
  unfold cutD
  rw [List.length_map, List.map_take, List.map_drop]
theorem gcd_bd {a b : Int} {n : Nat} (hb : b ≠ 0) (h : Bd n b) : Bd n (Int.gcd a b : Int) := by
  refine h.le ?_
  have : Int.gcd a b ∣ b.natAbs := Nat.gcd_dvd_right ..
  exact Nat.le_of_dvd (by omega) this
theorem Bd.add' {n m : Nat} {i j : Int} (h : Bd n i) (h' : Bd m j) : Bd (max n m + 1) (i + j) := (h.mono (Nat.le_max_left ..)).add (h'.mono (Nat.le_max_right ..))
theorem Bd.sub' {n m : Nat} {i j : Int} (h : Bd n i) (h' : Bd m j) : Bd (max n m + 1) (i - j) := (h.mono (Nat.le_max_left ..)).sub (h'.mono (Nat.le_max_right ..))
theorem Bd.fdiv {n : Nat} {i j : Int} (p : 0 < j) (h : Bd n i) : Bd n (i.fdiv j) := by
  rw [fdv p]
  exact h.le (Int.natAbs_ediv_le_natAbs ..)
abbrev pr (a b : Int) : D := .tup [.int a, .int b]
abbrev il (l : List Int) : D := .lst (l.map .int)
/-! ### things of any kind -/
def isNm : D → Bool
  | .int _ => true
  | _ => false
/-- isinstance and the like may be asked of it -/
def ok0 : D → Bool
  | .obj _ => false
  | .at _ (.lst _) => true
  | .at _ (.tup _) => true
  | .at _ (.dct _ _) => true
  | .at _ _ => false
  | _ => true
def ok1 (d : D) : Bool := ok0 d && match items d with | some xs => xs.all ok0 | none => true
def ok2 (d : D) : Bool := ok0 d && match items d with | some xs => xs.all ok1 | none => true
theorem ok1_0 {d : D} (h : ok1 d = true) : ok0 d = true := by
  unfold ok1 at h
  rw [Bool.and_eq_true] at h
  exact h.1
theorem ok2_1 {d : D} (h : ok2 d = true) : ok1 d = true := by
  unfold ok2 at h
  unfold ok1
  rw [Bool.and_eq_true] at h ⊢
  refine ⟨h.1, ?_⟩
  have h2 := h.2
  cases e : items d with
  | none => rfl
  | some xs =>
    rw [e] at h2
    exact List.all_eq_true.mpr fun x m => ok1_0 (List.all_eq_true.mp h2 x m)
theorem ok1_at {d x : D} {xs : List D} (h : ok1 d = true) (e : items d = some xs) (m : x ∈ xs) : ok0 x = true := by
  unfold ok1 at h
  rw [Bool.and_eq_true, e] at h
  exact List.all_eq_true.mp h.2 x m
theorem ok2_at {d x : D} {xs : List D} (h : ok2 d = true) (e : items d = some xs) (m : x ∈ xs) : ok1 x = true := by
  unfold ok2 at h
  rw [Bool.and_eq_true, e] at h
  exact List.all_eq_true.mp h.2 x m
end DW
namespace CA
open PySem DW
/-- the purse that numbers are drawn of -/
def Bx (n : Nat) (p : List D) : Prop := ∃ (a b c : Int) (g : Bool), p = [.int a, .bl g, .int b, .int c] ∧ 0 ≤ a ∧ 0 ≤ b ∧ b < 2147483629 ∧ 0 ≤ c ∧ c ≤ n
theorem Bx.mono {n m : Nat} {p : List D} (h : Bx n p) (l : n ≤ m) : Bx m p := by
  obtain ⟨a, b, c, g, e, h1, h2, h3, h4, h5⟩ := h
  exact ⟨a, b, c, g, e, h1, h2, h3, h4, by omega⟩
def spTake : FS := fun dvs k => ∃ (p : List D) (m : Int) (n : Nat), dvs = [.par p, .val (.int m)] ∧ Bx n p ∧ n ≤ 1000000 ∧ 1 ≤ m ∧ m < 2 ^ 250 ∧ ∀ (d : Int) p', 0 ≤ d → d < m → Bx (n + 1) p' → k (.ret (.val (.int d))) [.par p', .val (.int m)]
def spBox : FS := fun dvs k => ∃ c : Int, dvs = [.val (.int c)] ∧ ∀ p, Bx 0 p → k (.ret (.own p)) dvs
def spCell : FS := fun dvs k => ∃ (ns : List Int) (j : Int), dvs = [.val (.lst (ns.map .int)), .val (.int j)] ∧ 0 ≤ j ∧ j < 1000 ∧ ∀ c : Int, k (.ret (.val (.int c))) dvs
def spMixed : FS := fun dvs k => ∃ (p l : List D) (n : Nat), dvs = [.par p, .val (.lst l)] ∧ Bx n p ∧ n ≤ 900000 ∧ l.length ≤ 1000 ∧ ∀ (o : List D) p', (∀ d ∈ o, d ∈ l) → o.length = l.length → Bx (n + l.length) p' → k (.ret (.own o)) [.par p', .val (.lst l)]
def spDigits : FS := fun dvs k => ∃ (p : List D) (n f : Nat), dvs = [.par p, .val (.int f)] ∧ Bx n p ∧ n ≤ 900000 ∧ f ≤ 70 ∧ ∀ (d : Int) p', 0 ≤ d → d < 10 ^ f → Bx (n + f) p' → k (.ret (.val (.int d))) [.par p', .val (.int f)]
def spNum : FS := fun dvs k => ∃ d : D, dvs = [.val d] ∧ ok0 d = true ∧ k (.ret (.val (.bl (isNm d)))) dvs
def spRight : FS := fun dvs k => ∃ p : List D, dvs = [.par p] ∧ Bx 0 p ∧ ∀ p', k (.ret (.val (.bl true))) [.par p']
def spLaw : FS := fun dvs k => ∃ ns : List Int, dvs = [.val (.lst (ns.map .int))] ∧ ns.length ≤ 100 ∧ k (.ret (.val (.bl true))) dvs
theorem law_ints (ns : List Int) (h : ns.length ≤ 63) : spLaw [.val (.lst (ns.map .int))] fun o _ => o = .ret (.val (.bl true)) := ⟨ns, rfl, by omega, rfl⟩
theorem lenTake : ∀ dvs kk, spTake dvs kk → dvs.length = 2 := by
  rintro dvs kk ⟨_, _, _, rfl, h⟩
  rfl
theorem lenBox : ∀ dvs kk, spBox dvs kk → dvs.length = 1 := by
  rintro dvs kk ⟨_, rfl, h⟩
  rfl
theorem lenCell : ∀ dvs kk, spCell dvs kk → dvs.length = 2 := by
  rintro dvs kk ⟨_, _, rfl, h⟩
  rfl
theorem lenMixed : ∀ dvs kk, spMixed dvs kk → dvs.length = 2 := by
  rintro dvs kk ⟨_, _, _, rfl, h⟩
  rfl
theorem lenDigits : ∀ dvs kk, spDigits dvs kk → dvs.length = 2 := by
  rintro dvs kk ⟨_, _, _, rfl, h⟩
  rfl
theorem lenNum : ∀ dvs kk, spNum dvs kk → dvs.length = 1 := by
  rintro dvs kk ⟨_, rfl, h⟩
  rfl
theorem lenRight : ∀ dvs kk, spRight dvs kk → dvs.length = 1 := by
  rintro dvs kk ⟨_, rfl, h⟩
  rfl
theorem lenLaw : ∀ dvs kk, spLaw dvs kk → dvs.length = 1 := by
  rintro dvs kk ⟨_, rfl, h⟩
  rfl
def wTake2 (c1 c2 c3 : Int) : WS := (wSeq (wSet 0 (wC (.int 3)) (wBin dAdd (wIxO 0 (wC (.int 3))) (wC (.int 1))))
    (wSeq (wAsg (wBin dMod (wUn dInt (wBin dPow (wBin dAdd (wBin dAdd (wIxO 0 (wC (.int 2))) (wBin dMul (wC (.int c1)) (wIxO 0 (wC (.int 3))))) (wC (.int c2))) (wC (.int 5)))) (wC (.int 2147483647))) (.nm 3))
    (wRet (wBin dMod (wUn dInt (wBin dFdiv (wBin dMod (wUn dInt (wBin dPow (wBin dAdd (wBin dMul (wVar 3) (wC (.int 48271))) (wBin dMul (wC (.int c3)) (wIxO 0 (wC (.int 3))))) (wC (.int 3)))) (wC (.int 2147483587))) (wC (.int 64)))) (wVar 1)))))
def wTake (c1 c2 c3 : Int) : WS := (wSeq (wIfS (wAnd (wTst (wIxO 0 (wC (.int 1)))) (wTst (wBin dGt (wIxO 0 (wC (.int 0))) (wC (.int 0))))) (wSeq (wAsg (wBin dMod (wUn dInt (wIxO 0 (wC (.int 0)))) (wVar 1)) (.nm 2))
    (wSeq (wSet 0 (wC (.int 0)) (wBin dFdiv (wIxO 0 (wC (.int 0))) (wVar 1)))
    (wRet (wVar 2)))) wNext) (wTake2 c1 c2 c3))
theorem kpTake {c1 c2 c3 : Int} (h1 : 0 ≤ c1 ∧ c1 < 2147483648) (h2 : 0 ≤ c2 ∧ c2 < 2147483648) (h3 : 0 ≤ c3 ∧ c3 < 2147483648) : Keeps0 4 (wTake c1 c2 c3) spTake := by
  rintro dvs k ⟨p, m, n, rfl, ⟨a, b, c, g, rfl, ha, hb, hb', hc, hc'⟩, hn, hm, hm', h⟩
  have bm : Bd 250 m := .of (by omega) hm'
  have b1 : Bd 32 b := .of (by omega) (by omega)
  have b2 : Bd 32 (c + 1) := .of (by omega) (by omega)
  have r := fun a => fmod_rng (a := a) (b := 2147483647) (by decide)
  have r' := fun a => fmod_rng (a := a) (b := 2147483587) (by decide)
  have m1 : c1 * (c + 1) < 2147483648 * 1000001 ∧ 0 ≤ c1 * (c + 1) := by
    refine ⟨?_, Int.mul_nonneg h1.1 (by omega)⟩
    have := Int.mul_le_mul_of_nonneg_right (show c1 ≤ 2147483647 by omega) (show 0 ≤ c + 1 by omega)
    omega
  have m3 : c3 * (c + 1) < 2147483648 * 1000001 ∧ 0 ≤ c3 * (c + 1) := by
    refine ⟨?_, Int.mul_nonneg h3.1 (by omega)⟩
    have := Int.mul_le_mul_of_nonneg_right (show c3 ≤ 2147483647 by omega) (show 0 ≤ c + 1 by omega)
    omega
  -- mixed of the seed
  have mix : wTake2 c1 c2 c3 (entry 4 [.par [.int a, .bl g, .int b, .int c], .val (.int m)]) (ends0 [.par [.int a, .bl g, .int b, .int c], .val (.int m)] k) := by
    refine ⟨rfl, rfl, (by decide : (0:Int) ≤ 3 ∧ (3:Int) < 4), ?_⟩
    refine ⟨rfl, rfl, mulOk (n := 32) (.of (by omega) (by omega)) b2, ⟨by decide, by decide, ?_⟩, by decide, ?_⟩
    · omega
    have q0 := r ((b + c1 * (c + 1) + c2) ^ (Int.toNat 5))
    generalize ((b + c1 * (c + 1) + c2) ^ (Int.toNat 5)).fmod 2147483647 = x at q0
    refine ⟨mulOk (n := 32) (.of (by omega) (by omega)) (.of (n := 32) (by decide) (by decide)), rfl, mulOk (n := 32) (.of (by omega) (by omega)) b2, ⟨by decide, by decide, ?_⟩, by decide, ⟨by decide, by decide⟩, by omega, ?_⟩
    · omega
    have := fun a => fmod_rng (a := a) (b := m) (by omega)
    exact h _ _ (this _).1 (this _).2 ⟨_, _, _, _, rfl, ha, hb, hb', by omega, by omega⟩
  cases g with
  | false => exact ⟨rfl, mix⟩
  | true =>
    refine ⟨rfl, rfl, ite_both (fun g => ?_) (fun g => ?_)⟩
    · have g : 0 < a := of_decide_eq_true g
      refine ⟨rfl, by omega, rfl, divOk (by omega) bm, rfl, (by decide : (0:Int) ≤ 0 ∧ (0:Int) < 4), ?_⟩
      have := fmod_rng (a := a) (b := m) (by omega)
      exact h _ _ this.1 this.2 ⟨_, _, _, _, rfl, fdiv_nonneg ha (by omega), hb, hb', hc, by omega⟩
    · exact mix
def wBox : WS := (wRetO (wLst [(wUn dAbs (wVar 0)), (wBin dGe (wUn dAbs (wVar 0)) (wBin dPow (wC (.int 10)) (wC (.int 18)))), (wBin dMod (wUn dInt (wUn dAbs (wVar 0))) (wC (.int 2147483629))), (wC (.int 0))]))
theorem kpBox : Keeps0 1 wBox spBox := by
  rintro dvs k ⟨c, rfl, h⟩
  refine ⟨⟨by decide, by decide, by decide⟩, by decide, h _ ⟨_, _, _, _, rfl, ?_, (fmod_rng (by decide)).1, (fmod_rng (by decide)).2, by decide, by decide⟩⟩
  split <;> omega
def wCell (c : Int) : WS := (wRet (wIf (wTst (wBin dLt (wVar 1) (wUn dLen (wVar 0)))) (wBin dIx (wVar 0) (wVar 1)) (wBin dAdd (wBin dMul (wC (.int c)) (wVar 1)) (wBin dMod (wUn dInt (wUn dSum (wFrz (wCut (wVar 0) wNoP (wP (wC (.int 1))))))) (wC (.int 1000003))))))
theorem kpCell {c0 : Int} (hc : 0 ≤ c0 ∧ c0 < 2147483648) : Keeps0 2 (wCell c0) spCell := by
  rintro dvs k ⟨ns, j, rfl, h0, h1, h⟩
  have hl : (ns.map D.int).length = ns.length := List.length_map ..
  refine ite_both (fun g => ?_) (fun g => ?_)
  · have g := is_lt g
    rw [hl] at g
    have e : itemAt (ns.map D.int) j = some (.int (ns[j.toNat]'(by omega))) := by
      unfold itemAt
      rw [if_pos h0, List.getElem?_map, List.getElem?_eq_getElem (by omega)]
      rfl
    show match itemAt (ns.map D.int) j with | some v => _ | none => False
    rw [e]
    exact h _
  · refine ⟨mulOk (n := 32) (m := 20) (.of (by omega) (by omega)) (.of (by omega) (by omega)), ?_⟩
    show match intsD (cutD (ns.map D.int) none (some 1)) with | some ns => _ | none => False
    rw [map_cut, intsD_map]
    exact ⟨by decide, h _⟩
def wMixed : WS := (wSeq (wParOO 2 3 (wListF (wVar 1)) (wLst []))
    (wSeq (wWhile (wNeO 2) (wApp 3 (wPopAt 2 (wCall spTake [.s 0, .v (wLenO 2)]))))
    (wRetS 3)))
/-- some of them, in some order -/
theorem kpMixed : Keeps0 4 wMixed spMixed := by
  rintro dvs k ⟨p, l, n, rfl, hp, hn, hl, h⟩
  refine ⟨fun t ds => ∃ (p : List D) (xs ys : List D), ds = [some (.par p), some (.val (.lst l)), some (.own xs), some (.own ys)] ∧ (∀ d ∈ xs, d ∈ l) ∧ (∀ d ∈ ys, d ∈ l) ∧ xs.length + ys.length = l.length ∧ Bx (n + ys.length) p ∧ t = xs.length, ⟨_, p, l, [], rfl, fun _ z => z, fun _ z => (List.not_mem_nil z).elim, rfl, hp, rfl⟩, ?_⟩
  rintro t ds ⟨p, xs, ys, rfl, hx, hy, hs, hp, rfl⟩
  show if (!xs.isEmpty) = true then _ else _
  cases xs with
  | nil =>
    exact h ys p hy (by simpa using hs) (hp.mono (by simp at hs; omega))
  | cons x xs =>
    refine ⟨rfl, rfl, rfl, by simp [slotsOf], p, _, _, rfl, hp, by simp at hs; omega, by simp; omega, ?_, fun d p' d0 d1 hp' => ?_⟩
    · have : ((x :: xs).length : Int) ≤ 1000 := by
        simp only [List.length_cons] at hs ⊢
        omega
      exact Int.lt_of_le_of_lt this (by decide)
    · refine ⟨⟨d0, d1, by simp only [List.length_cons] at hs ⊢; omega⟩, ?_⟩
      obtain ⟨i, rfl⟩ := Int.eq_ofNat_of_zero_le d0
      have il : i < (x :: xs).length := by omega
      show match (x :: xs)[i]? with | some z => _ | none => False
      rw [List.getElem?_eq_getElem il]
      have lh : ((x :: xs).eraseIdx i).length = xs.length := by
        rw [List.length_eraseIdx, if_pos il]
        rfl
      refine ⟨by simp only [List.length_cons] at hs; omega, xs.length, by simp, p', _, _, rfl, fun e z => hx e (List.mem_of_mem_eraseIdx z), fun e z => ?_, ?_, ?_, lh.symm⟩
      · rcases List.mem_append.mp z with z | z
        · exact hy e z
        · rw [List.mem_singleton.mp z]
          exact hx _ (List.getElem_mem il)
      · show ((x :: xs).eraseIdx i).length + _ = _
        rw [lh, List.length_append]
        simp only [List.length_cons, List.length_nil] at hs ⊢
        omega
      · rw [List.length_append]
        exact hp'
def wDigits : WS := (wSeq (wAsg (wC (.int 0)) (.nm 2))
    (wSeq (wForR [(wVar 1)] (.nm 3) (wAsg (wBin dAdd (wBin dMul (wC (.int 10)) (wVar 2)) (wCall spTake [.s 0, .v (wC (.int 10))])) (.nm 2)))
    (wRet (wVar 2))))
theorem kpDigits : Keeps0 4 wDigits spDigits := by
  rintro dvs k ⟨p, n, f, rfl, hp, hn, hf, h⟩
  refine ⟨⟨⟨by decide, by decide⟩, by omega, by omega⟩, fun i ds => ∃ (d : Int) (p : List D) (x : Option DV), ds = [some (.par p), some (.val (.int f)), some (.val (.int d)), x] ∧ 0 ≤ d ∧ d < 10 ^ i ∧ Bx (n + i) p, ⟨_, _, _, rfl, by decide, by decide, hp⟩, ?_, ?_⟩
  · rintro i d ds hi ⟨v, p, x, rfl, v0, v1, hp⟩
    obtain ⟨_, il⟩ := range_get hi
    have il : i < f := by omega
    refine ⟨mulOk (n := 10) (m := 340) (.of (by decide) (by decide)) (.of (by omega) ?_), rfl, by simp [slotsOf], _, _, n + i, rfl, hp, by omega, by decide, by decide, fun d p' d0 d1 hp' => ?_⟩
    · have : (10:Int) ^ i ≤ 10 ^ 100 := ten_pow (by omega)
      have : (10:Int)^70 < 2^240 := by decide
      omega
    · refine ⟨_, _, _, rfl, by omega, ?_, hp'⟩
      rw [Int.pow_succ]
      omega
  · rintro ds ⟨v, p, x, rfl, v0, v1, hp⟩
    have e : (rangeD 0 f).length = f := by simp [rangeD]
    rw [e] at v1 hp
    exact h _ _ v0 v1 hp
def wNum : WS := (wRet (wAndV (wUn (dIsTy .int) (wVar 0)) (wNotV (wUn (dIsTy .bool) (wVar 0)))))
theorem kpNum : Keeps0 1 wNum spNum := by
  rintro dvs k ⟨d, rfl, ok, h⟩
  cases d with
  | obj _ => exact nomatch ok
  | «at» a d =>
    cases d <;> first | exact h | exact nomatch ok
  | _ => exact h
/-! ### the comparison -/
mutual
/-- what an answer may be: no texts, no dicts -/
def gdB : D → Bool
  | .non => true
  | .bl _ => true
  | .int _ => true
  | .tup xs => gdBs xs
  | .lst xs => gdBs xs
  | _ => false
def gdBs : List D → Bool
  | [] => true
  | x :: xs => gdB x && gdBs xs
end
theorem gdBs_at : ∀ {xs : List D} {i : Nat} {x : D}, gdBs xs = true → xs[i]? = some x → gdB x = true
  | [], i, x, _, h => by simp at h
  | y :: ys, 0, x, g, h => by
    have e : y = x := Option.some.inj h
    subst e
    have g : (gdB y && gdBs ys) = true := g
    rw [Bool.and_eq_true] at g
    exact g.1
  | y :: ys, i + 1, x, g, h => by
    have g : (gdB y && gdBs ys) = true := g
    rw [Bool.and_eq_true] at g
    exact gdBs_at (xs := ys) (i := i) g.2 h
theorem deps_at : ∀ {xs : List D} {i : Nat} {x : D}, xs[i]? = some x → dep x ≤ deps xs
  | [], i, x, h => by simp at h
  | y :: ys, 0, x, h => by
    have e : y = x := Option.some.inj h
    subst e
    exact Nat.le_max_left ..
  | y :: ys, i + 1, x, h => Nat.le_trans (deps_at (xs := ys) (i := i) h) (Nat.le_max_right ..)
def gdN (n : Nat) (d : D) : Prop := gdB d = true ∧ dep d < n ∧ (∀ xs, items d = some xs → xs.length ≤ 10000)
mutual
def lenB : D → Bool
  | .tup xs => decide (xs.length ≤ 10000) && lenBs xs
  | .lst xs => decide (xs.length ≤ 10000) && lenBs xs
  | _ => true
def lenBs : List D → Bool
  | [] => true
  | x :: xs => lenB x && lenBs xs
end
theorem lenBs_at : ∀ {xs : List D} {i : Nat} {x : D}, lenBs xs = true → xs[i]? = some x → lenB x = true
  | [], i, x, _, h => by simp at h
  | y :: ys, 0, x, g, h => by
    have e : y = x := Option.some.inj h
    subst e
    have g : (lenB y && lenBs ys) = true := g
    rw [Bool.and_eq_true] at g
    exact g.1
  | y :: ys, i + 1, x, g, h => by
    have g : (lenB y && lenBs ys) = true := g
    rw [Bool.and_eq_true] at g
    exact lenBs_at (xs := ys) (i := i) g.2 h
/-- an answer that may be compared n deep -/
def GdN (n : Nat) (d : D) : Prop := gdB d = true ∧ lenB d = true ∧ dep d < n
def sprSame (n : Nat) : FS := fun dvs k => ∃ d, dvs = [.val d, .val d] ∧ GdN n d ∧ k (.ret (.val (.bl true))) dvs
theorem lenrSame (n : Nat) : ∀ dvs kk, sprSame n dvs kk → dvs.length = 2 := by
  rintro dvs kk ⟨_, rfl, h⟩
  rfl
theorem norSame (dvs : List DV) (kk : Out → List DV → Prop) : ¬ sprSame 0 dvs kk := by
  rintro ⟨_, _, ⟨_, _, h⟩, _⟩
  exact Nat.not_lt_zero _ h
def wSame (sp : FS) : WS := (wSeq (wIfS (wOr (wTst (wUn dIsN (wVar 1))) (wTst (wUn (dIsTy .bool) (wVar 1)))) (wRet (wIf (wTst (wUn dIsN (wVar 1))) (wUn dIsN (wVar 0)) (wAndV (wUn (dIsTy .bool) (wVar 0)) (wBin dEq (wBin dIs (wVar 0) (wC (.bl true))) (wBin dIs (wVar 1) (wC (.bl true))))))) wNext)
    (wSeq (wIfS (wTst (wUn (dIsTy .int) (wVar 1))) (wRet (wAndV (wUn (dIsTy .int) (wVar 0)) (wAndV (wNotV (wUn (dIsTy .bool) (wVar 0))) (wBin dEq (wBin dSub (wUn dInt (wVar 0)) (wVar 1)) (wC (.int 0)))))) wNext)
    (wSeq (wIfS (wTst (wUn (dIsTy .str) (wVar 1))) (wRet (wAndV (wUn (dIsTy .str) (wVar 0)) (wAndV (wBin dEq (wUn dLen (wVar 0)) (wUn dLen (wVar 1))) (wBin dEq (wFrz (wLcR [(wUn dLen (wVar 1))] (.nm 2) [2] (wTst (wBin dNe (wFrz (wCut (wVar 0) (wP (wVar 2)) (wP (wBin dAdd (wVar 2) (wC (.int 1)))))) (wBin dIx (wVar 1) (wVar 2)))) (wVar 2))) (wFrz (wLst [])))))) wNext)
    (wSeq (wIfS (wOr (wTst (wBin dNe (wUn (dIsTy .list) (wVar 0)) (wUn (dIsTy .list) (wVar 1)))) (wTst (wBin dNe (wUn (dIsTy .tuple) (wVar 0)) (wUn (dIsTy .tuple) (wVar 1))))) (wRet (wC (.bl false))) wNext)
    (wRet (wAndV (wBin dEq (wUn dLen (wVar 0)) (wUn dLen (wVar 1))) (wBin dEq (wFrz (wLcR [(wUn dLen (wVar 1))] (.nm 2) [2] (wNot (wTst (wCall sp [.v (wBin dIx (wVar 0) (wVar 2)), .v (wBin dIx (wVar 1) (wVar 2))]))) (wVar 2))) (wFrz (wLst [])))))))))
theorem shp_nil : Shp (.lst []) := ⟨rfl, by decide⟩
theorem kprSame (n : Nat) : Keeps0 3 (wSame (sprSame n)) (sprSame (n + 1)) := by
  rintro dvs k ⟨d, rfl, ⟨g1, g2, g3⟩, h⟩
  have seq : ∀ (d : D) (xs : List D), (d = .tup xs ∨ d = .lst xs) → gdBs xs = true → lenBs xs = true → xs.length ≤ 10000 → deps xs + 1 < n + 1 → k (.ret (.val (.bl true))) [.val d, .val d] →
      (wRet (wAndV (wBin dEq (wUn dLen (wVar 0)) (wUn dLen (wVar 1))) (wBin dEq (wFrz (wLcR [(wUn dLen (wVar 1))] (.nm 2) [2] (wNot (wTst (wCall (sprSame n) [.v (wBin dIx (wVar 0) (wVar 2)), .v (wBin dIx (wVar 1) (wVar 2))]))) (wVar 2))) (wFrz (wLst []))))) [some (.val d), some (.val d), none] (ends0 [.val d, .val d] k) := by
    intro d xs hd a1 a2 a3 a4 h
    have len : ∀ kk : D → Prop, kk (.int xs.length) → dLen d kk := fun kk q => by
      rcases hd with rfl | rfl <;> exact q
    have ix : ∀ (i : Nat) (x : D) (kk : D → Prop), xs[i]? = some x → kk x → dIx d (.int (0 + (i : Int))) kk := fun i x kk e q => by
      have e2 : itemAt xs (0 + (i : Int)) = some x := by
        unfold itemAt
        rw [if_pos (by omega), show ((0 : Int) + (i : Int)).toNat = i by omega]
        exact e
      rcases hd with rfl | rfl
      · show match itemAt xs (0 + (i : Int)) with | some v => _ | none => False
        rw [e2]
        exact q
      · show match itemAt xs (0 + (i : Int)) with | some v => _ | none => False
        rw [e2]
        exact q
    refine len _ (len _ ⟨⟨shp_int _, shp_int _⟩, ?_⟩)
    rw [deq_refl]
    refine len _ ⟨⟨⟨by decide, by decide⟩, by omega, by omega⟩, fun i acc ds => acc = [] ∧ ∃ x2, ds = [some (.val d), some (.val d), x2], ⟨rfl, none, rfl⟩, ?_, ?_⟩
    · rintro i e acc ds hi ⟨rfl, x2, rfl⟩
      obtain ⟨rfl, il⟩ := range_get hi
      have il : i < xs.length := by omega
      refine ix i xs[i] _ (List.getElem?_eq_getElem il) (ix i xs[i] _ (List.getElem?_eq_getElem il) ⟨List.nodup_nil, xs[i], rfl, ⟨gdBs_at a1 (List.getElem?_eq_getElem il), lenBs_at a2 (List.getElem?_eq_getElem il), ?_⟩, ?_⟩)
      · have := deps_at (List.getElem?_eq_getElem il)
        omega
      · exact ⟨rfl, _, rfl⟩
    · rintro acc ds ⟨rfl, x2, rfl⟩
      exact ⟨⟨shp_nil, shp_nil⟩, h⟩
  cases d with
  | non => exact h
  | bl b =>
    refine ⟨⟨shp_bl _, shp_bl _⟩, ?_⟩
    rw [deq_refl]
    exact h
  | int i =>
    refine ⟨⟨shp_int _, shp_int _⟩, ?_⟩
    have e : deq (.int (i - i)) (.int 0) = true := by rw [Int.sub_self]; rfl
    rw [e]
    exact h
  | tup xs =>
    have g2 : (decide (xs.length ≤ 10000) && lenBs xs) = true := g2
    rw [Bool.and_eq_true] at g2
    exact ⟨⟨shp_bl _, shp_bl _⟩, ⟨shp_bl _, shp_bl _⟩, seq (.tup xs) xs (.inl rfl) g1 g2.2 (of_decide_eq_true g2.1) g3 h⟩
  | lst xs =>
    have g2 : (decide (xs.length ≤ 10000) && lenBs xs) = true := g2
    rw [Bool.and_eq_true] at g2
    exact ⟨⟨shp_bl _, shp_bl _⟩, ⟨shp_bl _, shp_bl _⟩, seq (.lst xs) xs (.inr rfl) g1 g2.2 (of_decide_eq_true g2.1) g3 h⟩
  | str _ => exact nomatch g1
  | obj _ => exact nomatch g1
  | dct _ _ => exact nomatch g1
  | «at» _ _ => exact nomatch g1
/-! ### the law itself -/
def wLaw (m : Int) : WS := (wSeq (wForR [(wBin dMax (wC (.int 2)) (wBin dMin (wC (.int m)) (wUn dLen (wVar 0))))] (.nm 1) (wIfS (wNot (wTst (wCallT spRight (wCallO spBox [.v (wCall spCell [.v (wVar 0), .v (wVar 1)])])))) (wRet (wC (.bl false))) wNext))
    (wRet (wC (.bl true))))
theorem kpLaw {m : Int} (hm : 0 ≤ m ∧ m ≤ 100) : Keeps0 2 (wLaw m) spLaw := by
  rintro dvs k ⟨ns, rfl, hns, h⟩
  have hl : (ns.map D.int).length = ns.length := List.length_map ..
  refine ⟨⟨⟨by decide, by decide⟩, ?_, ?_⟩, fun i ds => ∃ x1, ds = [some (.val (.lst (ns.map .int))), x1], ⟨_, rfl⟩, ?_, ?_⟩
  · split <;> split <;> omega
  · split <;> split <;> omega
  · rintro i d ds hi ⟨x1, rfl⟩
    obtain ⟨rfl, il⟩ := range_get hi
    have il : i < 101 := by
      split at il <;> split at il <;> omega
    exact ⟨List.nodup_nil, ns, _, rfl, by omega, by omega, fun c => ⟨List.nodup_nil, _, rfl, fun p hp => ⟨p, rfl, hp, fun p' => ite_no rfl ⟨_, rfl⟩⟩⟩⟩
  · rintro ds ⟨x1, rfl⟩
    exact h
end CA

/-! DwCQ: what a question is made of: it may be copied, written out, grown. -/
namespace DW
open PySem
/-- a thing that may be asked for, less than m deep -/
structure Qn (m : Nat) (d : D) : Prop where
  a : okA d = true
  p : dpt d < m
  r : rsh d = true
  s : (pyt d).showable = true
  l : (pyt d).leavesShort 2000 = true
  dd : (pyt d).depth ≤ 10
  w : (pyt d).bulk ≤ 1000
def qnB (m : Nat) (d : D) : Bool := okA d && (decide (dpt d < m) && (rsh d && ((pyt d).showable && ((pyt d).leavesShort 2000 && (decide ((pyt d).depth ≤ 10) && decide ((pyt d).bulk ≤ 1000))))))
theorem Qn.of {m : Nat} {d : D} (h : qnB m d = true) : Qn m d := by
  unfold qnB at h
  simp only [Bool.and_eq_true, decide_eq_true_eq] at h
  exact ⟨h.1, h.2.1, h.2.2.1, h.2.2.2.1, h.2.2.2.2.1, h.2.2.2.2.2.1, h.2.2.2.2.2.2⟩
theorem Qn.mono {m n : Nat} {d : D} (h : Qn m d) (l : m ≤ n) : Qn n d := ⟨h.a, Nat.lt_of_lt_of_le h.p l, h.r, h.s, h.l, h.dd, h.w⟩
theorem log2_bd {n : Nat} {i : Int} (h : Bd n i) (l : n ≤ 1900) : i.natAbs.log2 < 1920 := by
  by_cases z : i.natAbs = 0
  · rw [z]; decide
  · have := (Nat.log2_lt z).mpr h
    omega
theorem Qn.int {n : Nat} {i : Int} (h : Bd n i) (l : n ≤ 1900 := by decide) : Qn 1 (.int i) := by
  have hl := log2_bd h l
  refine ⟨rfl, Nat.zero_lt_one, rfl, ?_, ?_, ?_, ?_⟩
  · show decide _ = true
    exact decide_eq_true hl
  · show decide _ = true
    refine decide_eq_true ?_
    show (PySem.Str.ofString (toString i)).length ≤ 2000
    rw [PySem.ofString_length]
    exact Nat.le_trans (PySem.int_text_length_le (k := 1920) (by decide) hl) (by decide)
  · exact Nat.zero_le _
  · show (PyData.int i).bulk ≤ 1000
    simp [PyData.bulk]
theorem Qn.bl (b : Bool) : Qn 1 (.bl b) := by cases b <;> exact .of (by decide +kernel)
theorem Qn.non : Qn 1 .non := .of (by decide +kernel)
/-- a list of such -/
def Qns (m w : Nat) (xs : List D) : Prop := okAs xs = true ∧ dpts xs < m ∧ rshs xs = true ∧ PyData.showableAll (pyts xs) = true ∧ PyData.leavesShortAll 2000 (pyts xs) = true ∧ PyData.depthAll (pyts xs) ≤ 10 ∧ PyData.bulkAll (pyts xs) ≤ w
theorem Qns.of : ∀ {m : Nat} {xs : List D}, 0 < m → (∀ x ∈ xs, Qn m x) → Qns m (xs.length * 1003) xs
  | m, [], h0, _ => ⟨rfl, h0, rfl, rfl, rfl, by simp [pyts, PyData.depthAll], by simp [pyts, PyData.bulkAll]⟩
  | m, x :: xs, h0, h => by
    have q := h x (.head _)
    obtain ⟨h1, h2, h3, h4, h5, h6, h7⟩ := Qns.of h0 fun y m => h y (.tail _ m)
    refine ⟨?_, ?_, ?_, ?_, ?_, ?_, ?_⟩
    · show (okA x && okAs xs) = true
      rw [q.a, h1]; rfl
    · show max (dpt x) (dpts xs) < m
      exact Nat.max_lt.mpr ⟨q.p, h2⟩
    · show (rsh x && rshs xs) = true
      rw [q.r, h3]; rfl
    · show (PyData.showable (pyt x) && PyData.showableAll (pyts xs)) = true
      rw [q.s, h4]; rfl
    · show (PyData.leavesShort 2000 (pyt x) && PyData.leavesShortAll 2000 (pyts xs)) = true
      rw [q.l, h5]; rfl
    · have := q.dd
      simp only [pyts, PyData.depthAll]
      omega
    · have := q.w
      simp only [pyts, PyData.bulkAll, List.length_cons]
      omega
theorem Qn.seq {m w : Nat} {xs : List D} (h : Qns m w xs) (hd : PyData.depthAll (pyts xs) ≤ 9) (hw : w ≤ 997) (l : xs.length ≤ 10000) : Qn (m + 1) (.tup xs) ∧ Qn (m + 1) (.lst xs) := by
  obtain ⟨h1, h2, h3, h4, h5, h6, h7⟩ := h
  have e1 : (decide (xs.length ≤ 10000) && okAs xs) = true := by rw [h1, decide_eq_true l]; rfl
  have e2 : (PyData.tuple (pyts xs)).bulk ≤ 1000 := by simp only [PyData.bulk]; omega
  have e3 : (PyData.list (pyts xs)).bulk ≤ 1000 := by simp only [PyData.bulk]; omega
  have e4 : (PyData.tuple (pyts xs)).depth ≤ 10 := by simp only [PyData.depth]; omega
  have e5 : (PyData.list (pyts xs)).depth ≤ 10 := by simp only [PyData.depth]; omega
  exact ⟨⟨e1, Nat.succ_lt_succ h2, h3, h4, h5, e4, e2⟩, ⟨e1, Nat.succ_lt_succ h2, h3, h4, h5, e5, e3⟩⟩
/-- .. with a weight of its own -/
structure Qw (m w : Nat) (d : D) : Prop where
  q : Qn m d
  b : (pyt d).bulk ≤ w
  e : (pyt d).depth < m
theorem Qw.int {n : Nat} {i : Int} (h : Bd n i) (l : n ≤ 1900 := by decide) : Qw 1 0 (.int i) := ⟨.int h l, Nat.le_refl _, Nat.zero_lt_one⟩
theorem Qw.bl (b : Bool) : Qw 1 0 (.bl b) := ⟨.bl b, Nat.le_refl _, Nat.zero_lt_one⟩
theorem Qws.of : ∀ {m w : Nat} {xs : List D}, 0 < m → m ≤ 10 → (∀ x ∈ xs, Qw m w x) → Qns m (xs.length * (w + 1)) xs ∧ PyData.depthAll (pyts xs) < m
  | m, w, [], h0, _, _ => ⟨⟨rfl, h0, rfl, rfl, rfl, by simp [pyts, PyData.depthAll], by simp [pyts, PyData.bulkAll]⟩, by simpa [pyts, PyData.depthAll] using h0⟩
  | m, w, x :: xs, h0, hm, h => by
    have q := h x (.head _)
    obtain ⟨⟨h1, h2, h3, h4, h5, h6, h7⟩, h8⟩ := Qws.of h0 hm fun y m => h y (.tail _ m)
    refine ⟨⟨?_, ?_, ?_, ?_, ?_, ?_, ?_⟩, ?_⟩
    · show (okA x && okAs xs) = true
      rw [q.q.a, h1]; rfl
    · show max (dpt x) (dpts xs) < m
      exact Nat.max_lt.mpr ⟨q.q.p, h2⟩
    · show (rsh x && rshs xs) = true
      rw [q.q.r, h3]; rfl
    · show (PyData.showable (pyt x) && PyData.showableAll (pyts xs)) = true
      rw [q.q.s, h4]; rfl
    · show (PyData.leavesShort 2000 (pyt x) && PyData.leavesShortAll 2000 (pyts xs)) = true
      rw [q.q.l, h5]; rfl
    · have := q.e
      simp only [pyts, PyData.depthAll]
      omega
    · have := q.b
      have e : (xs.length + 1) * (w + 1) = xs.length * (w + 1) + (w + 1) := Nat.succ_mul ..
      simp only [pyts, PyData.bulkAll, List.length_cons]
      omega
    · have := q.e
      simp only [pyts, PyData.depthAll]
      omega
theorem Qw.tup {m w : Nat} {xs : List D} (h : ∀ x ∈ xs, Qw m w x) (h0 : 0 < m := by decide) (hm : m ≤ 9 := by decide) (l : xs.length * (w + 1) ≤ 900 := by exact Nat.le_of_ble_eq_true rfl) (l2 : xs.length ≤ 10000 := by exact Nat.le_of_ble_eq_true rfl) : Qw (m + 1) (xs.length * (w + 1)) (.tup xs) := by
  obtain ⟨q, e⟩ := Qws.of h0 (by omega) h
  have s := Qn.seq q (by omega) (by omega) l2
  refine ⟨s.1, ?_, ?_⟩
  · have := q.2.2.2.2.2.2
    show (PyData.tuple (pyts xs)).bulk ≤ _
    simp only [PyData.bulk]
    omega
  · show (PyData.tuple (pyts xs)).depth < _
    simp only [PyData.depth]
    omega
theorem Qw.lst {m w : Nat} {xs : List D} (h : ∀ x ∈ xs, Qw m w x) (h0 : 0 < m := by decide) (hm : m ≤ 9 := by decide) (l : xs.length * (w + 1) ≤ 900 := by exact Nat.le_of_ble_eq_true rfl) (l2 : xs.length ≤ 10000 := by exact Nat.le_of_ble_eq_true rfl) : Qw (m + 1) (xs.length * (w + 1)) (.lst xs) := by
  obtain ⟨q, e⟩ := Qws.of h0 (by omega) h
  have s := Qn.seq q (by omega) (by omega) l2
  refine ⟨s.2, ?_, ?_⟩
  · have := q.2.2.2.2.2.2
    show (PyData.list (pyts xs)).bulk ≤ _
    simp only [PyData.bulk]
    omega
  · show (PyData.list (pyts xs)).depth < _
    simp only [PyData.depth]
    omega
theorem all2 {P : D → Prop} {a b : D} (ha : P a) (hb : P b) : ∀ x ∈ [a, b], P x := by
  intro x m
  rcases List.mem_cons.mp m with rfl | m
  · exact ha
  · rw [List.mem_singleton.mp m]
    exact hb
theorem all1 {P : D → Prop} {a : D} (ha : P a) : ∀ x ∈ [a], P x := by
  intro x m
  rw [List.mem_singleton.mp m]
  exact ha
theorem all3 {P : D → Prop} {a b c : D} (ha : P a) (hb : P b) (hc : P c) : ∀ x ∈ [a, b, c], P x := by
  intro x m
  rcases List.mem_cons.mp m with rfl | m
  · exact ha
  · exact all2 hb hc x m
theorem Qw.pr {n : Nat} {a b : Int} (ha : Bd n a) (hb : Bd n b) (l : n ≤ 1900 := by decide) : Qw 2 2 (pr a b) := Qw.tup (all2 (.int ha l) (.int hb l))
/-- what the law asks with -/
structure Ask (n : Nat) (ask : List D) : Prop where
  ok : okA (.lst ask) = true
  dp : dpt (.lst ask) < n
  okr : Okr (.lst ask)
theorem Ask.of {m : Nat} {xs : List D} (h : ∀ x ∈ xs, Qn m x) (h0 : 0 < m := by decide) (l : xs.length ≤ 4 := by exact Nat.le_of_ble_eq_true rfl) : Ask (m + 1) xs := by
  obtain ⟨h1, h2, h3, h4, h5, h6, h7⟩ := Qns.of h0 h
  refine ⟨?_, Nat.succ_lt_succ h2, h3, h4, ?_, ?_⟩
  · show (decide (xs.length ≤ 10000) && okAs xs) = true
    rw [h1, decide_eq_true (by omega)]
    rfl
  · show (PyData.list (pyts xs)).depth ≤ 64
    simp only [PyData.depth]
    omega
  · have e : (PyData.list (pyts xs)).leavesShort 2000 = true := h5
    have := PyData.shown_le_bulk 2000 (by decide) (PyData.list (pyts xs)) e
    have hw : (PyData.list (pyts xs)).bulk ≤ 4800 := by simp only [PyData.bulk]; omega
    show (PyData.list (pyts xs)).shown.length ≤ sizeLine
    have : (2000 + 2) * (PyData.list (pyts xs)).bulk + 2000 ≤ 2002 * 4800 + 2000 := by omega
    have : 2002 * 4800 + 2000 ≤ sizeLine := by decide
    omega
theorem Qn.okr {m : Nat} {d : D} (h : Qn m d) : Okr d := by
  refine ⟨h.r, h.s, Nat.le_trans h.dd (by decide), ?_⟩
  have := PyData.shown_le_bulk 2000 (by decide) (pyt d) h.l
  have hw := h.w
  have : (2000 + 2) * (pyt d).bulk + 2000 ≤ 2002 * 1000 + 2000 := by omega
  have : 2002 * 1000 + 2000 ≤ sizeLine := by decide
  omega
def okrB (d : D) : Bool := rsh d && ((pyt d).showable && ((pyt d).leavesShort 2000 && (decide ((pyt d).depth ≤ 10) && decide ((pyt d).bulk ≤ 1000))))
theorem okr_of {d : D} (h : okrB d = true) : Okr d := by
  unfold okrB at h
  simp only [Bool.and_eq_true, decide_eq_true_eq] at h
  obtain ⟨h1, h2, h3, h4, h5⟩ := h
  refine ⟨h1, h2, Nat.le_trans h4 (by decide), ?_⟩
  have := PyData.shown_le_bulk 2000 (by decide) (pyt d) h3
  have : (2000 + 2) * (pyt d).bulk + 2000 ≤ 2002 * 1000 + 2000 := by omega
  have : 2002 * 1000 + 2000 ≤ sizeLine := by decide
  omega
/-- an answer -/
structure Due (n : Nat) (d : D) : Prop where
  g : okG d = true
  p : dpt d < n
/-- tags stand on containers alone -/
def bare : D → Bool
  | .at _ _ => false
  | _ => true
theorem tag_core {d : D} {v : L2.V} (h : bare d = true) : core (tag1 d v) = d := by
  cases d <;> cases v <;> first | rfl | exact nomatch h
theorem tag_ok0 {d : D} {v : L2.V} (h : bare d = true) : ok0 (tag1 d v) = ok0 d := by
  cases d <;> cases v <;> first | rfl | exact nomatch h
theorem tag_ok1 {d : D} {v : L2.V} (h : bare d = true) : ok1 (tag1 d v) = ok1 d := by
  cases d <;> cases v <;> first | rfl | exact nomatch h
theorem tag_ok2 {d : D} {v : L2.V} (h : bare d = true) : ok2 (tag1 d v) = ok2 d := by
  cases d <;> cases v <;> first | rfl | exact nomatch h
theorem avs1 {avs : List L2.V} {a : D} (h : [a].length = avs.length) : ∃ v0, avs = [v0] := by
  match avs, h with
  | [v0], _ => exact ⟨_, rfl⟩
theorem avs2 {avs : List L2.V} {a b : D} (h : [a, b].length = avs.length) : ∃ v0 v1, avs = [v0, v1] := by
  match avs, h with
  | [v0, v1], _ => exact ⟨_, _, rfl⟩
theorem avs3 {avs : List L2.V} {a b c : D} (h : [a, b, c].length = avs.length) : ∃ v0 v1 v2, avs = [v0, v1, v2] := by
  match avs, h with
  | [v0, v1, v2], _ => exact ⟨_, _, _, rfl⟩
theorem avs4 {avs : List L2.V} {a b c d : D} (h : [a, b, c, d].length = avs.length) : ∃ v0 v1 v2 v3, avs = [v0, v1, v2, v3] := by
  match avs, h with
  | [v0, v1, v2, v3], _ => exact ⟨_, _, _, _, rfl⟩
end DW

/-! DwKK: comprehensions that leave the slots, items of things of any kind, lists of whole numbers: for the plain side. -/
namespace DW
open PySem
theorem ds_ext : ∀ {a b : DS}, a.length = b.length → (∀ i, gt a i = gt b i) → a = b
  | [], [], _, _ => rfl
  | [], _ :: _, h, _ => by simp at h
  | _ :: _, [], h, _ => by simp at h
  | x :: a, y :: b, h, g => by
    have e0 : x = y := g 0
    rw [e0, ds_ext (a := a) (b := b) (by simpa using h) fun i => g (i + 1)]
theorem ers_idem (ds : DS) (vs : List Nat) : ers (ers ds vs) vs = ers ds vs := by
  refine ds_ext (by rw [ers_len]) fun i => ?_
  rw [gt_ers, gt_ers]
  by_cases hi : i ∈ vs
  · rw [if_pos hi, if_pos hi]
  · rw [if_neg hi]
/-- a comprehension whose test and value leave the slots: by the turn -/
theorem comp_ok {g : Tg} {vs : List Nat} {t : WT} {e : WE} {x : XKd} {xs : List D} {ds : DS} {k : List D → DS → Prop} (T : Nat → DS) (B : Nat → Bool) (V : Nat → D)
    (hT : ∀ j d, xs[j]? = some d → ∀ K : DS → Prop, K (T j) → tga g d (ers ds vs) K) (hE : ∀ j, j < xs.length → ers (T j) vs = ers ds vs)
    (ht : ∀ j d, xs[j]? = some d → ∀ K : Bool → DS → Prop, K (B j) (T j) → t x (T j) K) (he : ∀ j d, xs[j]? = some d → B j = true → ∀ K : D → DS → Prop, K (V j) (T j) → e x (T j) K)
    (hl : xs.length ≤ 10000000) (hk : k (((List.range xs.length).filter B).map V) (ers ds vs)) : compI g vs t e x xs ds k := by
  refine ⟨fun i acc ds' => acc = ((List.range i).filter B).map V ∧ ers ds' vs = ers ds vs, ⟨rfl, ers_idem _ _⟩, ?_, ?_⟩
  · rintro i d acc ds' hi ⟨rfl, h⟩
    have il := (List.getElem?_eq_some_iff.mp hi).1
    rw [h]
    refine hT i d hi _ (ht i d hi _ ?_)
    have hlen : (((List.range i).filter B).map V).length ≤ i := by
      rw [List.length_map]
      have := List.length_filter_le B (List.range i)
      rwa [List.length_range] at this
    cases hb : B i with
    | true =>
      refine ite_yes rfl (he i d hi hb _ ⟨by omega, ?_, hE i il⟩)
      rw [List.range_succ, List.filter_append, List.filter_cons_of_pos hb, List.map_append]
      rfl
    | false =>
      refine ite_no rfl ⟨?_, hE i il⟩
      rw [List.range_succ, List.filter_append, List.filter_cons_of_neg (by rw [hb]; decide), List.map_append]
      simp
  · rintro acc ds' ⟨rfl, h⟩
    rw [h]
    exact hk
theorem filter_tt {α : Type} (l : List α) : l.filter (fun _ => true) = l := by
  induction l with
  | nil => rfl
  | cons x l ih => rw [List.filter_cons_of_pos rfl, ih]
/-- .. without a test -/
theorem compM_ok {g : Tg} {vs : List Nat} {e : WE} {x : XKd} {xs : List D} {ds : DS} {k : List D → DS → Prop} (T : Nat → DS) (V : Nat → D)
    (hT : ∀ j d, xs[j]? = some d → ∀ K : DS → Prop, K (T j) → tga g d (ers ds vs) K) (hE : ∀ j, j < xs.length → ers (T j) vs = ers ds vs)
    (he : ∀ j d, xs[j]? = some d → ∀ K : D → DS → Prop, K (V j) (T j) → e x (T j) K)
    (hl : xs.length ≤ 10000000) (hk : k ((List.range xs.length).map V) (ers ds vs)) : compI g vs wYes e x xs ds k :=
  comp_ok T (fun _ => true) V hT hE (fun _ _ _ K h => h) (fun j d h _ => he j d h) hl (by rw [filter_tt]; exact hk)
/-- a variable -/
theorem vr_ok {i : Nat} {ds : DS} {d : D} {x : XKd} {k : D → DS → Prop} (h : gt ds i = some (.val d)) (hk : k d ds) : wVar i x ds k := by
  unfold wVar
  rw [h]
  exact hk
/-! ### items of things of any kind -/
theorem it_ty {x : D} {k : D → Prop} (o : ok0 x = true) (h : k (.bl (items x).isSome)) : dIsTys [.list, .tuple] x k := by
  cases x with
  | obj _ => exact nomatch o
  | «at» a d => cases d <;> first | exact h | exact nomatch o
  | _ => exact h
theorem it_len {x : D} {xs : List D} {k : D → Prop} (e : items x = some xs) (h : k (.int xs.length)) : dLen x k := by
  cases x with
  | tup ys => cases e; exact h
  | lst ys => cases e; exact h
  | «at» a d =>
    cases d with
    | tup ys => cases e; exact h
    | lst ys => cases e; exact h
    | _ => exact nomatch e
  | _ => exact nomatch e
theorem it_ix {x : D} {xs : List D} {i : Int} {v : D} {k : D → Prop} (e : items x = some xs) (ei : itemAt xs i = some v) (h : k v) : dIx x (.int i) k := by
  have main : (match itemAt xs i with | some v => k v | none => False) := by rw [ei]; exact h
  cases x with
  | tup ys => cases e; exact main
  | lst ys => cases e; exact main
  | «at» a d =>
    cases d with
    | tup ys => cases e; exact main
    | lst ys => cases e; exact main
    | _ => exact nomatch e
  | _ => exact nomatch e
theorem it_src {x : D} {xs : List D} {P : List D → Prop} (e : items x = some xs) (h : P xs) : (match items x with | some xs => P xs | none => False) := by rw [e]; exact h
theorem item_nat {α : Type} {xs : List α} {i : Nat} {v : α} (h : xs[i]? = some v) : itemAt xs (i : Int) = some v := by
  unfold itemAt
  rw [if_pos (by omega)]
  exact h
theorem item_last {α : Type} (l : List α) (x : α) : itemAt (l ++ [x]) (-1) = some x := by
  unfold itemAt
  rw [if_neg (by decide), if_pos (by rw [List.length_append]; simp only [List.length_cons, List.length_nil]; omega), show ((-1 : Int) + ((l ++ [x]).length : Int)).toNat = l.length by rw [List.length_append]; simp only [List.length_cons, List.length_nil]; omega]
  rw [List.getElem?_append_right (Nat.le_refl _), Nat.sub_self]
  rfl
theorem ix_ok {xs : List D} {i : Int} {v : D} {k : D → Prop} (ei : itemAt xs i = some v) (h : k v) : dIx (.lst xs) (.int i) k := it_ix (x := .lst xs) rfl ei h
/-! ### lists of whole numbers, of truths -/
theorem dep_ints : ∀ ns : List Int, deps (ns.map .int) = 0
  | [] => rfl
  | n :: r => by
    show max 0 (deps (r.map .int)) = 0
    rw [dep_ints r]
    rfl
theorem shp_ints : ∀ ns : List Int, shps (ns.map .int) = true
  | [] => rfl
  | _ :: r => shp_ints r
theorem shp_il (ns : List Int) : Shp (.lst (ns.map .int)) := by
  refine ⟨shp_ints ns, ?_⟩
  show deps _ + 1 ≤ 64
  rw [dep_ints]
  decide
theorem deqs_il : ∀ a b : List Int, deqs (a.map .int) (b.map .int) = decide (a = b)
  | [], [] => rfl
  | [], _ :: _ => rfl
  | _ :: _, [] => rfl
  | x :: a, y :: b => by
    show ((x == y) && deqs (a.map .int) (b.map .int)) = _
    rw [deqs_il a b, Bool.eq_iff_iff, Bool.and_eq_true, beq_iff_eq, decide_eq_true_iff, decide_eq_true_iff, List.cons.injEq]
theorem deq_il (a b : List Int) : deq (.lst (a.map .int)) (.lst (b.map .int)) = decide (a = b) := deqs_il a b
theorem shp_rng {P : Nat → Bool} {f : Nat → Int} (l : List Nat) : Shp (.lst ((l.filter P).map fun j => .int (f j))) := by
  have : ((l.filter P).map fun j => D.int (f j)) = ((l.filter P).map f).map .int := by rw [List.map_map]; rfl
  rw [this]
  exact shp_il _
theorem deq_empty (xs : List D) : deq (.lst xs) (.lst []) = xs.isEmpty := by cases xs <;> rfl
theorem all_bl {bs : List Bool} {k : D → Prop} (h : k (.bl (bs.all id))) : dAll (.lst (bs.map .bl)) k := by
  show match boolsD (bs.map .bl) with | some bs => _ | none => False
  rw [boolsD_map bs]
  exact h
theorem any_bl {bs : List Bool} {k : D → Prop} (h : k (.bl (bs.any id))) : dAny (.lst (bs.map .bl)) k := by
  show match boolsD (bs.map .bl) with | some bs => _ | none => False
  rw [boolsD_map bs]
  exact h
theorem map_bl {α : Type} (l : List α) (f : α → Bool) : (l.map fun x => D.bl (f x)) = (l.map f).map .bl := by rw [List.map_map]; rfl
theorem map_int {α : Type} (l : List α) (f : α → Int) : (l.map fun x => D.int (f x)) = (l.map f).map .int := by rw [List.map_map]; rfl
theorem sum_il {ns : List Int} {k : D → Prop} (h : k (.int ns.sum)) : dSum (.lst (ns.map .int)) k := by
  show match intsD (ns.map .int) with | some ns => _ | none => False
  rw [intsD_map ns]
  exact h
theorem all_rng {n : Nat} {f : Nat → Bool} : ((List.range n).map f).all id = true ↔ ∀ j, j < n → f j = true := by
  rw [List.all_map, List.all_eq_true]
  exact ⟨fun h j hj => h j (List.mem_range.mpr hj), fun h j hj => h j (List.mem_range.mp hj)⟩
theorem any_rng {n : Nat} {f : Nat → Bool} : ((List.range n).map f).any id = true ↔ ∃ j, j < n ∧ f j = true := by
  rw [List.any_map, List.any_eq_true]
  exact ⟨fun ⟨j, h1, h2⟩ => ⟨j, List.mem_range.mp h1, h2⟩, fun ⟨j, h1, h2⟩ => ⟨j, List.mem_range.mpr h1, h2⟩⟩
theorem flt_empty {n : Nat} {f : Nat → Bool} {V : Nat → D} : (((List.range n).filter f).map V).isEmpty = true ↔ ∀ j, j < n → f j = false := by
  rw [List.isEmpty_iff, List.map_eq_nil_iff, List.filter_eq_nil_iff]
  exact ⟨fun h j hj => by have := h j (List.mem_range.mpr hj); simpa using this, fun h j hj => by rw [h j (List.mem_range.mp hj)]; decide⟩
end DW

/-! K03: ways in the tree of fractions, plainly. -/
namespace K03
open PySem DW
def row (a b : Int) : List Int := if 0 < b then a / b :: row b (a % b) else []
termination_by b.toNat
decreasing_by
  have := Int.emod_lt_of_pos a (show 0 < b by assumption)
  omega
theorem row_step {a b : Int} (h : 0 < b) : row a b = a / b :: row b (a % b) := by rw [row, if_pos h]
theorem row_zero (a : Int) : row a 0 = [] := by rw [row, if_neg (by decide)]
/-- runs: a letter (true: right) and how often -/
abbrev Wy := List (Bool × Int)
def wy : Bool → List Int → Wy
  | _, [] => []
  | b, m :: r => (b, m) :: wy (!b) r
def Ps (l : List Int) : Prop := ∀ m ∈ l, 1 ≤ m
theorem Ps.head {m : Int} {l : List Int} (h : Ps (m :: l)) : 1 ≤ m := h m (.head _)
theorem Ps.tail {m : Int} {l : List Int} (h : Ps (m :: l)) : Ps l := fun x z => h x (.tail _ z)
def kp : List Int → Int × Int
  | [] => (1, 1)
  | m :: r => (m * (kp r).1 + (kp r).2, (kp r).1)
theorem kp_pos : ∀ {ms : List Int}, Ps ms → 1 ≤ (kp ms).2 ∧ (kp ms).2 ≤ (kp ms).1 ∧ (ms ≠ [] → (kp ms).2 < (kp ms).1)
  | [], _ => ⟨by decide, by decide, fun h => absurd rfl h⟩
  | m :: r, h => by
    obtain ⟨a, b, _⟩ := kp_pos h.tail
    have c : 1 * (kp r).1 ≤ m * (kp r).1 := Int.mul_le_mul_of_nonneg_right h.head (by omega)
    show 1 ≤ (kp r).1 ∧ (kp r).1 ≤ m * (kp r).1 + (kp r).2 ∧ (_ → (kp r).1 < m * (kp r).1 + (kp r).2)
    exact ⟨by omega, by omega, fun _ => by omega⟩
theorem kp_gcd : ∀ ms : List Int, Int.gcd (kp ms).1 (kp ms).2 = 1
  | [] => rfl
  | m :: r => by
    show Int.gcd (m * (kp r).1 + (kp r).2) (kp r).1 = 1
    rw [Int.add_comm, Int.gcd_comm, Int.gcd_add_mul_right_right]
    exact kp_gcd r
/-- value of a way -/
def Kw : Wy → Int × Int
  | [] => (1, 1)
  | (true, m) :: w => ((Kw w).1 + m * (Kw w).2, (Kw w).2)
  | (false, m) :: w => ((Kw w).1, (Kw w).2 + m * (Kw w).1)
theorem Kw_wy : ∀ (b : Bool) (ms : List Int), Kw (wy b ms) = if b then kp ms else ((kp ms).2, (kp ms).1)
  | true, [] => rfl
  | false, [] => rfl
  | true, m :: r => by
    show ((Kw (wy false r)).1 + m * (Kw (wy false r)).2, (Kw (wy false r)).2) = (m * (kp r).1 + (kp r).2, (kp r).1)
    rw [Kw_wy false r]
    show ((kp r).2 + m * (kp r).1, (kp r).1) = _
    rw [Int.add_comm]
  | false, m :: r => by
    show ((Kw (wy true r)).1, (Kw (wy true r)).2 + m * (Kw (wy true r)).1) = ((kp r).1, m * (kp r).1 + (kp r).2)
    rw [Kw_wy true r]
    show ((kp r).1, (kp r).2 + m * (kp r).1) = _
    rw [Int.add_comm]
/-- rows -/
def rho : List Int → List Int
  | [] => [1]
  | [m] => [m + 1]
  | m :: m' :: r => m :: rho (m' :: r)
theorem row_kp : ∀ {ms : List Int}, Ps ms → row (kp ms).1 (kp ms).2 = rho ms
  | [], _ => by
    show row 1 1 = [1]
    rw [row_step (by decide)]
    show 1 :: row 1 0 = [1]
    rw [row_zero]
  | [m], _ => by
    show row (m * 1 + 1) 1 = [m + 1]
    rw [row_step (by decide), Int.mul_one, Int.ediv_one, Int.emod_one, row_zero]
  | m :: m' :: r, h => by
    obtain ⟨a, b, c⟩ := kp_pos h.tail
    have c := c nofun
    have ih := row_kp h.tail
    show row (m * (kp (m' :: r)).1 + (kp (m' :: r)).2) (kp (m' :: r)).1 = m :: rho (m' :: r)
    rw [row_step (by omega), ← ih, Int.mul_comm, Int.add_comm, Int.add_mul_ediv_left _ _ (by omega), Int.add_mul_emod_self_left, Int.ediv_eq_zero_of_lt (by omega) c, Int.emod_eq_of_lt (by omega) c, Int.zero_add]
def rowW : Wy → List Int
  | [] => [1]
  | (true, m) :: w => rho (m :: w.map (·.2))
  | (false, m) :: w => 0 :: rho (m :: w.map (·.2))
theorem wy_snd : ∀ (b : Bool) (ms : List Int), (wy b ms).map (·.2) = ms
  | _, [] => rfl
  | b, m :: r => by
    show m :: (wy (!b) r).map (·.2) = m :: r
    rw [wy_snd]
/-- a way -/
def Alt (w : Wy) : Prop := ∃ b ms, Ps ms ∧ w = wy b ms
theorem row_way {w : Wy} (h : Alt w) : row (Kw w).1 (Kw w).2 = rowW w := by
  obtain ⟨b, ms, hp, rfl⟩ := h
  rw [Kw_wy]
  cases ms with
  | nil =>
    have : row (kp []).1 (kp []).2 = [1] := row_kp (fun _ h => nomatch h)
    cases b <;> exact this
  | cons m r =>
    have k := row_kp hp
    cases b with
    | true =>
      show row (kp (m :: r)).1 (kp (m :: r)).2 = rho (m :: (wy (!true) r).map (·.2))
      rw [wy_snd]
      exact k
    | false =>
      obtain ⟨a, _, c⟩ := kp_pos hp
      have c := c nofun
      show row (kp (m :: r)).2 (kp (m :: r)).1 = 0 :: rho (m :: (wy (!false) r).map (·.2))
      rw [wy_snd, row_step (by omega), Int.ediv_eq_zero_of_lt (by omega) c, Int.emod_eq_of_lt (by omega) c, k]
/-- the last one less one -/
def decl : List Int → List Int
  | [] => []
  | [a] => [a - 1]
  | a :: b :: r => a :: decl (b :: r)
theorem rho_ne (m : Int) (r : List Int) : ∃ a l, rho (m :: r) = a :: l := by cases r <;> exact ⟨_, _, rfl⟩
theorem decl_rho : ∀ (m : Int) (r : List Int), decl (rho (m :: r)) = m :: r
  | m, [] => by
    show [m + 1 - 1] = [m]
    rw [Int.add_sub_cancel]
  | m, m' :: r => by
    obtain ⟨a, l, e⟩ := rho_ne m' r
    have ih := decl_rho m' r
    show decl (m :: rho (m' :: r)) = m :: m' :: r
    rw [e] at ih ⊢
    show m :: decl (a :: l) = _
    rw [ih]
def runs : Bool → List Int → Wy
  | _, [] => []
  | b, m :: r => if 0 < m then (b, m) :: runs (!b) r else runs (!b) r
theorem runs_ps : ∀ (b : Bool) {ms : List Int}, Ps ms → runs b ms = wy b ms
  | _, [], _ => rfl
  | b, m :: r, h => by
    have := h.head
    show (if 0 < m then _ else _) = (b, m) :: wy (!b) r
    rw [if_pos (by omega), runs_ps (!b) h.tail]
theorem runs_way {w : Wy} (h : Alt w) : runs true (decl (rowW w)) = w := by
  obtain ⟨b, ms, hp, rfl⟩ := h
  cases ms with
  | nil => rfl
  | cons m r =>
    cases b with
    | true =>
      show runs true (decl (rho (m :: (wy (!true) r).map (·.2)))) = _
      rw [wy_snd, decl_rho, runs_ps _ hp]
    | false =>
      show runs true (decl (0 :: rho (m :: (wy (!false) r).map (·.2)))) = _
      rw [wy_snd]
      obtain ⟨a, l, e⟩ := rho_ne m r
      have d := decl_rho m r
      rw [e] at d ⊢
      show runs true (0 :: decl (a :: l)) = _
      rw [d]
      show (if (0 : Int) < 0 then _ else runs false (m :: r)) = _
      rw [if_neg (by decide), runs_ps _ hp]
/-- what a row tells -/
def cfv : List Int → Int × Int
  | [] => (1, 0)
  | a :: r => (a * (cfv r).1 + (cfv r).2, (cfv r).1)
theorem cfv_rho : ∀ ms : List Int, cfv (rho ms) = kp ms
  | [] => rfl
  | [m] => by
    show ((m + 1) * 1 + 0, 1) = (m * 1 + 1, 1)
    rw [Int.mul_one, Int.mul_one, Int.add_zero]
  | m :: m' :: r => by
    show (m * (cfv (rho (m' :: r))).1 + (cfv (rho (m' :: r))).2, (cfv (rho (m' :: r))).1) = _
    rw [cfv_rho (m' :: r)]
    rfl
theorem cfv_way {w : Wy} (h : Alt w) : cfv (rowW w) = Kw w := by
  obtain ⟨b, ms, hp, rfl⟩ := h
  rw [Kw_wy]
  cases ms with
  | nil => cases b <;> rfl
  | cons m r =>
    cases b with
    | true =>
      show cfv (rho (m :: (wy (!true) r).map (·.2))) = _
      rw [wy_snd, cfv_rho]
      rfl
    | false =>
      show (0 * (cfv (rho (m :: (wy (!false) r).map (·.2)))).1 + (cfv (rho (m :: (wy (!false) r).map (·.2)))).2, (cfv (rho (m :: (wy (!false) r).map (·.2)))).1) = _
      rw [wy_snd, cfv_rho, Int.zero_mul, Int.zero_add]
      rfl
theorem Kw_pos {w : Wy} (h : Alt w) : 1 ≤ (Kw w).1 ∧ 1 ≤ (Kw w).2 ∧ Int.gcd (Kw w).1 (Kw w).2 = 1 := by
  obtain ⟨b, ms, hp, rfl⟩ := h
  obtain ⟨a, c, _⟩ := kp_pos hp
  have g := kp_gcd ms
  rw [Kw_wy]
  cases b with
  | true => exact ⟨by show 1 ≤ (kp ms).1; omega, a, g⟩
  | false => exact ⟨a, by show 1 ≤ (kp ms).1; omega, by show Int.gcd (kp ms).2 (kp ms).1 = 1; rw [Int.gcd_comm]; exact g⟩
/-- each fraction above 0 has a way -/
theorem kp_ex : ∀ (n : Nat) {a c : Int}, a.toNat ≤ n → 1 ≤ c → c ≤ a → Int.gcd a c = 1 → ∃ ms, Ps ms ∧ kp ms = (a, c)
  | 0, a, c, hn, h1, h2, _ => by omega
  | n + 1, a, c, hn, h1, h2, g => by
    by_cases e : a = c
    · subst e
      rw [Int.gcd_self] at g
      exact ⟨[], (fun _ h => nomatch h), by rw [show a = 1 by omega]; rfl⟩
    · have d1 := Int.emod_add_mul_ediv (a - 1) c
      have d2 := Int.emod_nonneg (a - 1) (show c ≠ 0 by omega)
      have d3 := Int.emod_lt_of_pos (a - 1) (show 0 < c by omega)
      generalize hq : (a - 1) / c = q at d1
      generalize hr : (a - 1) % c = r at d1 d2 d3
      have er : a = q * c + (r + 1) := by rw [Int.mul_comm]; omega
      have q1 : 1 ≤ q := by
        rw [← hq]
        exact Int.le_ediv_of_mul_le (by omega) (by omega)
      have g' : Int.gcd c (r + 1) = 1 := by
        rw [er, Int.add_comm, Int.gcd_comm, Int.gcd_add_mul_right_right] at g
        exact g
      have hc : 1 * c ≤ q * c := Int.mul_le_mul_of_nonneg_right q1 (by omega)
      obtain ⟨ms, hp, ek⟩ := kp_ex n (a := c) (c := r + 1) (by omega) (by omega) (by omega) g'
      refine ⟨q :: ms, fun x z => ?_, ?_⟩
      · rcases List.mem_cons.mp z with rfl | z
        · exact q1
        · exact hp x z
      · show (q * (kp ms).1 + (kp ms).2, (kp ms).1) = (a, c)
        rw [ek, er]
theorem way_ex {a c : Int} (h1 : 1 ≤ a) (h2 : 1 ≤ c) (g : Int.gcd a c = 1) : ∃ w, Alt w ∧ Kw w = (a, c) := by
  by_cases h : c ≤ a
  · obtain ⟨ms, hp, e⟩ := kp_ex _ (Nat.le_refl _) h2 h g
    exact ⟨wy true ms, ⟨true, ms, hp, rfl⟩, by rw [Kw_wy]; exact e⟩
  · obtain ⟨ms, hp, e⟩ := kp_ex _ (Nat.le_refl _) h1 (show a ≤ c by omega) (by rw [Int.gcd_comm]; exact g)
    exact ⟨wy false ms, ⟨false, ms, hp, rfl⟩, by rw [Kw_wy, e]; rfl⟩
/-! turned about -/
def lt (b : Bool) (n : Nat) : Bool := if n % 2 = 0 then b else !b
theorem lt_not (b : Bool) (n : Nat) : lt (!b) n = lt b (n + 1) := by
  unfold lt
  rcases Nat.mod_two_eq_zero_or_one n with h | h
  · rw [h, show (n + 1) % 2 = 1 by omega]; simp
  · rw [h, show (n + 1) % 2 = 0 by omega]; simp
theorem wy_snoc : ∀ (b : Bool) (ms : List Int) (m : Int), wy b (ms ++ [m]) = wy b ms ++ [(lt b ms.length, m)]
  | b, [], m => rfl
  | b, x :: r, m => by
    show (b, x) :: wy (!b) (r ++ [m]) = (b, x) :: (wy (!b) r ++ [(lt b (r.length + 1), m)])
    rw [wy_snoc, lt_not]
theorem wy_rev : ∀ (b : Bool) (ms : List Int), ∃ b', (wy b ms).reverse = wy b' ms.reverse ∧ (lt b' ms.length = !b)
  | b, [] => ⟨!b, rfl, rfl⟩
  | b, m :: r => by
    obtain ⟨b', e, hl⟩ := wy_rev (!b) r
    refine ⟨b', ?_, ?_⟩
    · show ((b, m) :: wy (!b) r).reverse = wy b' (m :: r).reverse
      rw [List.reverse_cons, List.reverse_cons, wy_snoc, e, List.length_reverse, hl, Bool.not_not]
    · show lt b' (r.length + 1) = !b
      rw [← lt_not]
      have : lt (!b') r.length = !(lt b' r.length) := by
        unfold lt
        split <;> simp
      rw [this, hl, Bool.not_not]
theorem Ps.rev {l : List Int} (h : Ps l) : Ps l.reverse := fun m z => h m (List.mem_reverse.mp z)
theorem Alt.rev {w : Wy} (h : Alt w) : Alt w.reverse := by
  obtain ⟨b, ms, hp, rfl⟩ := h
  obtain ⟨b', e, _⟩ := wy_rev b ms
  exact ⟨b', ms.reverse, hp.rev, e⟩
/-! bounds -/
def prd : List Int → Int
  | [] => 1
  | m :: r => m * prd r
theorem prd_pos : ∀ {ms : List Int}, Ps ms → 1 ≤ prd ms
  | [], _ => by decide
  | m :: r, h => by
    have := Int.mul_le_mul h.head (prd_pos h.tail) (by decide) (by have := h.head; omega)
    exact this
theorem prd_app : ∀ a b : List Int, prd (a ++ b) = prd a * prd b
  | [], b => by show prd b = 1 * prd b; rw [Int.one_mul]
  | m :: a, b => by
    show m * prd (a ++ b) = m * prd a * prd b
    rw [prd_app, Int.mul_assoc]
theorem prd_rev : ∀ a : List Int, prd a.reverse = prd a
  | [] => rfl
  | m :: a => by
    rw [List.reverse_cons, prd_app, prd_rev a]
    show prd a * (m * 1) = m * prd a
    rw [Int.mul_one, Int.mul_comm]
theorem prd_le : ∀ {ms : List Int}, Ps ms → prd ms ≤ (kp ms).1
  | [], _ => by decide
  | m :: r, h => by
    have := Int.mul_le_mul_of_nonneg_left (prd_le h.tail) (show 0 ≤ m by have := h.head; omega)
    have := (kp_pos h.tail).1
    show m * prd r ≤ m * (kp r).1 + (kp r).2
    omega
theorem kp_le : ∀ {ms : List Int}, Ps ms → (kp ms).1 ≤ 2 ^ ms.length * prd ms
  | [], _ => by decide
  | m :: r, h => by
    have ih := kp_le h.tail
    have a := (kp_pos h.tail).2.1
    have m1 := h.head
    have p1 := prd_pos h.tail
    show m * (kp r).1 + (kp r).2 ≤ 2 ^ (r.length + 1) * (m * prd r)
    have e : (2 : Int) ^ (r.length + 1) * (m * prd r) = 2 * m * (2 ^ r.length * prd r) := by
      rw [Int.pow_succ]
      grind
    rw [e]
    have c1 : 2 * m * (kp r).1 ≤ 2 * m * (2 ^ r.length * prd r) := Int.mul_le_mul_of_nonneg_left ih (by omega)
    have c2 : (m + 1) * (kp r).1 ≤ 2 * m * (kp r).1 := Int.mul_le_mul_of_nonneg_right (by omega) (by have := (kp_pos h.tail).1; omega)
    have c3 : (m + 1) * (kp r).1 = m * (kp r).1 + (kp r).1 := by rw [Int.add_mul, Int.one_mul]
    omega
theorem len_le : ∀ {ms : List Int}, Ps ms → (2 : Int) ^ ms.length ≤ (kp ms).1 * (kp ms).2
  | [], _ => by decide
  | m :: r, h => by
    have ih := len_le h.tail
    obtain ⟨a, b, _⟩ := kp_pos h.tail
    have m1 := h.head
    show (2 : Int) ^ (r.length + 1) ≤ (m * (kp r).1 + (kp r).2) * (kp r).1
    rw [Int.pow_succ]
    have c1 : 1 * (kp r).1 ≤ m * (kp r).1 := Int.mul_le_mul_of_nonneg_right m1 (by omega)
    have c2 : ((kp r).1 + (kp r).2) * (kp r).1 ≤ (m * (kp r).1 + (kp r).2) * (kp r).1 := Int.mul_le_mul_of_nonneg_right (by omega) (by omega)
    have c3 : (kp r).2 * (kp r).1 ≤ (kp r).1 * (kp r).1 := Int.mul_le_mul_of_nonneg_right b (by omega)
    have c4 : ((kp r).1 + (kp r).2) * (kp r).1 = (kp r).1 * (kp r).1 + (kp r).2 * (kp r).1 := by rw [Int.add_mul]
    have c5 : (kp r).1 * (kp r).2 = (kp r).2 * (kp r).1 := Int.mul_comm ..
    omega
/-! step by step -/
def stv : List Bool → Int × Int
  | [] => (1, 1)
  | true :: s => ((stv s).1 + (stv s).2, (stv s).2)
  | false :: s => ((stv s).1, (stv s).1 + (stv s).2)
def expd : Wy → List Bool
  | [] => []
  | (b, m) :: w => List.replicate m.toNat b ++ expd w
theorem stv_true : ∀ (n : Nat) (s : List Bool), stv (List.replicate n true ++ s) = ((stv s).1 + n * (stv s).2, (stv s).2)
  | 0, s => by
    show stv s = ((stv s).1 + 0 * (stv s).2, (stv s).2)
    rw [Int.zero_mul, Int.add_zero]
  | n + 1, s => by
    rw [List.replicate_succ]
    show ((stv (List.replicate n true ++ s)).1 + (stv (List.replicate n true ++ s)).2, (stv (List.replicate n true ++ s)).2) = _
    rw [stv_true n s]
    show ((stv s).1 + n * (stv s).2 + (stv s).2, (stv s).2) = ((stv s).1 + ((n + 1 : Nat) : Int) * (stv s).2, (stv s).2)
    congr 1
    push_cast
    grind
theorem stv_false : ∀ (n : Nat) (s : List Bool), stv (List.replicate n false ++ s) = ((stv s).1, (stv s).2 + n * (stv s).1)
  | 0, s => by
    show stv s = ((stv s).1, (stv s).2 + 0 * (stv s).1)
    rw [Int.zero_mul, Int.add_zero]
  | n + 1, s => by
    rw [List.replicate_succ]
    show ((stv (List.replicate n false ++ s)).1, (stv (List.replicate n false ++ s)).1 + (stv (List.replicate n false ++ s)).2) = _
    rw [stv_false n s]
    show ((stv s).1, (stv s).1 + ((stv s).2 + n * (stv s).1)) = ((stv s).1, (stv s).2 + ((n + 1 : Nat) : Int) * (stv s).1)
    congr 1
    push_cast
    grind
theorem Kw_stv : ∀ {w : Wy}, (∀ r ∈ w, 1 ≤ r.2) → Kw w = stv (expd w)
  | [], _ => rfl
  | (true, m) :: w, h => by
    have ih := Kw_stv (w := w) fun r z => h r (.tail _ z)
    have : 1 ≤ m := h _ (.head _)
    show ((Kw w).1 + m * (Kw w).2, (Kw w).2) = stv (List.replicate m.toNat true ++ expd w)
    rw [stv_true, ih, Int.toNat_of_nonneg (by omega)]
  | (false, m) :: w, h => by
    have ih := Kw_stv (w := w) fun r z => h r (.tail _ z)
    have : 1 ≤ m := h _ (.head _)
    show ((Kw w).1, (Kw w).2 + m * (Kw w).1) = stv (List.replicate m.toNat false ++ expd w)
    rw [stv_false, ih, Int.toNat_of_nonneg (by omega)]
theorem expd_app : ∀ a b : Wy, expd (a ++ b) = expd a ++ expd b
  | [], b => rfl
  | (c, m) :: a, b => by
    show List.replicate m.toNat c ++ expd (a ++ b) = List.replicate m.toNat c ++ expd a ++ expd b
    rw [expd_app, List.append_assoc]
theorem expd_rev : ∀ a : Wy, expd a.reverse = (expd a).reverse
  | [] => rfl
  | (c, m) :: a => by
    rw [List.reverse_cons, expd_app, expd_rev a]
    show (expd a).reverse ++ (List.replicate m.toNat c ++ []) = (List.replicate m.toNat c ++ expd a).reverse
    rw [List.append_nil, List.reverse_append, List.reverse_replicate]
theorem alt_mem {w : Wy} (h : Alt w) : ∀ r ∈ w, 1 ≤ r.2 := by
  obtain ⟨b, ms, hp, rfl⟩ := h
  intro r z
  have : r.2 ∈ (wy b ms).map (·.2) := List.mem_map.mpr ⟨r, z, rfl⟩
  rw [wy_snd] at this
  exact hp _ this
/-- one step more -/
def push (w : Wy) (b : Bool) : Wy := match w.getLast? with
  | some r => if r.1 = b then w.dropLast ++ [(b, r.2 + 1)] else w ++ [(b, 1)]
  | none => [(b, 1)]
theorem push_snoc (w : Wy) (c : Bool) (m : Int) (b : Bool) : push (w ++ [(c, m)]) b = if c = b then w ++ [(b, m + 1)] else w ++ [(c, m), (b, 1)] := by
  unfold push
  rw [List.getLast?_append]
  show (if c = b then (w ++ [(c, m)]).dropLast ++ [(b, m + 1)] else w ++ [(c, m)] ++ [(b, 1)]) = _
  rw [List.dropLast_concat, List.append_assoc]
  rfl
theorem lt_val (b c : Bool) (n : Nat) (h : lt b n = !c) : lt b (n + 1) = c := by
  rw [← lt_not]
  have : lt (!b) n = !(lt b n) := by
    unfold lt
    split <;> simp
  rw [this, h, Bool.not_not]
theorem push_alt {w : Wy} (h : Alt w) (b : Bool) : Alt (push w b) ∧ expd (push w b) = expd w ++ [b] := by
  obtain ⟨c, ms, hp, rfl⟩ := h
  rcases List.eq_nil_or_concat ms with rfl | ⟨r, m, rfl⟩
  · exact ⟨⟨b, [1], fun x z => by rw [List.mem_singleton.mp z]; decide, rfl⟩, rfl⟩
  · rw [List.concat_eq_append] at *
    have m1 : 1 ≤ m := hp m (by simp)
    have hr : Ps r := fun x z => hp x (by simp [z])
    rw [wy_snoc, push_snoc]
    by_cases e : lt c r.length = b
    · rw [if_pos e]
      refine ⟨⟨c, r ++ [m + 1], fun x z => ?_, by rw [wy_snoc, e]⟩, ?_⟩
      · rcases List.mem_append.mp z with z | z
        · exact hr x z
        · rw [List.mem_singleton.mp z]
          omega
      · rw [expd_app, expd_app, e]
        show expd (wy c r) ++ (List.replicate (m + 1).toNat b ++ []) = expd (wy c r) ++ (List.replicate m.toNat b ++ []) ++ [b]
        rw [show (m + 1).toNat = m.toNat + 1 by omega, List.replicate_succ', List.append_nil, List.append_nil, List.append_assoc]
    · rw [if_neg e]
      have e' : lt c r.length = !b := by
        cases h : lt c r.length <;> cases b <;> simp_all
      refine ⟨⟨c, r ++ [m] ++ [1], fun x z => ?_, ?_⟩, ?_⟩
      · rcases List.mem_append.mp z with z | z
        · exact hp x z
        · rw [List.mem_singleton.mp z]
          decide
      · rw [wy_snoc, wy_snoc, List.length_append]
        show _ = wy c r ++ [(lt c r.length, m)] ++ [(lt c (r.length + 1), 1)]
        rw [lt_val _ _ _ e', List.append_assoc]
        rfl
      · rw [show wy c r ++ [(lt c r.length, m), (b, 1)] = (wy c r ++ [(lt c r.length, m)]) ++ [(b, 1)] by rw [List.append_assoc]; rfl, expd_app]
        rfl
/-! numbers -/
/-- the digits behind the first one, the last one first -/
def bts (n : Nat) : List Bool := if 1 < n then (n % 2 == 1) :: bts (n / 2) else []
termination_by n
decreasing_by omega
theorem bts_step {n : Nat} (h : 1 < n) : bts n = (n % 2 == 1) :: bts (n / 2) := by rw [bts, if_pos h]
theorem bts_one {n : Nat} (h : ¬ 1 < n) : bts n = [] := by rw [bts, if_neg h]
theorem bts_len : ∀ (k : Nat) {n : Nat}, n < 2 ^ (k + 1) → (bts n).length ≤ k
  | 0, n, h => by rw [bts_one (by omega)]; exact Nat.le_refl _
  | k + 1, n, h => by
    by_cases g : 1 < n
    · rw [bts_step g]
      have := bts_len k (n := n / 2) (by rw [Nat.pow_succ] at h; omega)
      simpa using this
    · rw [bts_one g]
      exact Nat.zero_le _
/-- the way of a number -/
def nW (n : Nat) : Wy := (bts n).reverse.foldl push []
theorem fold_alt : ∀ (s : List Bool) {w : Wy}, Alt w → Alt (s.foldl push w) ∧ expd (s.foldl push w) = expd w ++ s
  | [], w, h => ⟨h, by simp⟩
  | b :: s, w, h => by
    obtain ⟨a, e⟩ := push_alt h b
    obtain ⟨c, d⟩ := fold_alt s a
    refine ⟨c, ?_⟩
    show expd (s.foldl push (push w b)) = _
    rw [d, e, List.append_assoc]
    rfl
theorem alt_nil : Alt [] := ⟨true, [], (fun _ h => nomatch h), rfl⟩
theorem nW_ok (n : Nat) : Alt (nW n) ∧ expd (nW n) = (bts n).reverse := by
  obtain ⟨a, b⟩ := fold_alt (bts n).reverse alt_nil
  exact ⟨a, b⟩
/-- Calkin and Wilf's fraction -/
def fs (n : Nat) : Int × Int := stv (bts n)
theorem nW_rev (n : Nat) : Kw (nW n).reverse = fs n := by
  obtain ⟨a, b⟩ := nW_ok n
  rw [Kw_stv (alt_mem a.rev), expd_rev, b, List.reverse_reverse]
  rfl
theorem fs_even {k : Nat} (h : 1 ≤ k) : fs (2 * k) = ((fs k).1, (fs k).1 + (fs k).2) := by
  unfold fs
  rw [bts_step (show 1 < 2 * k by omega), show 2 * k % 2 = 0 by omega, show 2 * k / 2 = k by omega]
  rfl
theorem fs_odd {k : Nat} (h : 1 ≤ k) : fs (2 * k + 1) = ((fs k).1 + (fs k).2, (fs k).2) := by
  unfold fs
  rw [bts_step (show 1 < 2 * k + 1 by omega), show (2 * k + 1) % 2 = 1 by omega, show (2 * k + 1) / 2 = k by omega]
  rfl
theorem fs_one : fs 1 = (1, 1) := by unfold fs; rw [bts_one (by decide)]; rfl
theorem fs_next : ∀ (m : Nat) {n : Nat}, n ≤ m → 1 ≤ n → (fs n).2 = (fs (n + 1)).1
  | 0, n, h, h1 => by omega
  | m + 1, n, h, h1 => by
    by_cases e1 : n = 1
    · subst e1
      rw [fs_one, fs_even (k := 1) (by decide), fs_one]
    rcases Nat.mod_two_eq_zero_or_one n with e | e
    · obtain ⟨k, rfl⟩ : ∃ k, n = 2 * k := ⟨n / 2, by omega⟩
      rw [fs_even (by omega), fs_odd (by omega)]
    · obtain ⟨k, rfl⟩ : ∃ k, n = 2 * k + 1 := ⟨n / 2, by omega⟩
      rw [fs_odd (by omega), show 2 * k + 1 + 1 = 2 * (k + 1) by omega, fs_even (by omega)]
      exact fs_next m (by omega) (by omega)
theorem stv_bd : ∀ s : List Bool, 1 ≤ (stv s).1 ∧ 1 ≤ (stv s).2 ∧ (stv s).1 + (stv s).2 ≤ 2 ^ (s.length + 1)
  | [] => by decide
  | true :: s => by
    obtain ⟨a, b, c⟩ := stv_bd s
    show 1 ≤ (stv s).1 + (stv s).2 ∧ 1 ≤ (stv s).2 ∧ (stv s).1 + (stv s).2 + (stv s).2 ≤ 2 ^ (s.length + 1 + 1)
    rw [Int.pow_succ]
    omega
  | false :: s => by
    obtain ⟨a, b, c⟩ := stv_bd s
    show 1 ≤ (stv s).1 ∧ 1 ≤ (stv s).1 + (stv s).2 ∧ (stv s).1 + ((stv s).1 + (stv s).2) ≤ 2 ^ (s.length + 1 + 1)
    rw [Int.pow_succ]
    omega
/-! the row's matrix -/
abbrev M4 := Int × Int × Int × Int
def tn (m : M4) (t : Int) : M4 := (m.1 * t + m.2.1, m.1, m.2.2.1 * t + m.2.2.2, m.2.2.1)
theorem tn_cfv (m : M4) (t : Int) (r : List Int) : (tn m t).1 * (cfv r).1 + (tn m t).2.1 * (cfv r).2 = m.1 * (cfv (t :: r)).1 + m.2.1 * (cfv (t :: r)).2 ∧
    (tn m t).2.2.1 * (cfv r).1 + (tn m t).2.2.2 * (cfv r).2 = m.2.2.1 * (cfv (t :: r)).1 + m.2.2.2 * (cfv (t :: r)).2 := by
  obtain ⟨a, b, c, d⟩ := m
  show (a * t + b) * (cfv r).1 + a * (cfv r).2 = a * (t * (cfv r).1 + (cfv r).2) + b * (cfv r).1 ∧ (c * t + d) * (cfv r).1 + c * (cfv r).2 = c * (t * (cfv r).1 + (cfv r).2) + d * (cfv r).1
  constructor <;> grind
theorem cfv_ps : ∀ {l : List Int}, Ps l → 1 ≤ (cfv l).1 ∧ 0 ≤ (cfv l).2
  | [], _ => by decide
  | t :: r, h => by
    obtain ⟨a, b⟩ := cfv_ps h.tail
    have : 1 * (cfv r).1 ≤ t * (cfv r).1 := Int.mul_le_mul_of_nonneg_right h.head (by omega)
    show 1 ≤ t * (cfv r).1 + (cfv r).2 ∧ 0 ≤ (cfv r).1
    omega
end K03

/-! K03: what each def promises. -/
namespace K03
open PySem DW CA
def lD (b : Bool) : D := .str (if b then "R" else "L")
def runD (r : Bool × Int) : D := .tup [lD r.1, .int r.2]
def wD (w : Wy) : List D := w.map runD
def frw (w : Wy) : D := .tup [.int (Kw w).1, .int (Kw w).2]
/-- ways of some size -/
structure Wk (w : Wy) : Prop where
  a : Alt w
  l : w.length ≤ 240
  p : prd (w.map (·.2)) ≤ 2 ^ 130
def fracB : D → Bool
  | .tup [.int a, .int b] => decide (1 ≤ b) && Int.gcd a b == 1
  | _ => false
def abvB : D → Bool
  | .tup [.int a, .int b] => (decide (1 ≤ b) && Int.gcd a b == 1) && decide (0 < a)
  | _ => false
def nf (d : D) : Out := .exc ⟨"NoFraction", [(("found" : Str), d)]⟩
def nn (d : D) : Out := .exc ⟨"NoNumber", [(("found" : Str), d)]⟩
def whB (lo hi : Int) : D → Bool
  | .int i => decide (lo ≤ i) && decide (i ≤ hi)
  | _ => false
abbrev sp__law_take : FS := spTake
abbrev sp__law_box : FS := spBox
abbrev sp__law_cell : FS := spCell
abbrev sp__law_mixed : FS := spMixed
abbrev sp__law_digits : FS := spDigits
abbrev sp_is_number : FS := spNum
abbrev spr__law_same (n : Nat) : FS := fsSame (GdN n)
abbrev sp__law_same : FS := spr__law_same 6
abbrev sp__law_cell_right : FS := spRight
abbrev sp_law : FS := spLaw
theorem law_ints (ns : List Int) (h : ns.length ≤ 63) : sp_law [.val (.lst (ns.map .int))] fun o _ => o = .ret (.val (.bl true)) := CA.law_ints ns h
abbrev spGcd : FS := fun dvs k => ∃ a b : Int, dvs = [.val (.int a), .val (.int b)] ∧ k (.ret (.val (.int (Int.gcd a b)))) dvs
abbrev sp_common : FS := spGcd
abbrev fr (q : Rat) : D := .tup [.int q.num, .int (q.den : Int)]
def Bq (n : Nat) (q : Rat) : Prop := Bd n q.num ∧ Bd n (q.den : Int)
def sp__law_low : FS := fun dvs k => ∃ a b : Int, dvs = [.val (.int a), .val (.int b)] ∧ b ≠ 0 ∧ Bd 8000 b ∧ k (.ret (.val (fr (Rat.divInt a b)))) dvs
def sp__law_of_row : FS := fun dvs k => ∃ (f : Int) (r : List Int), dvs = [.val (.lst ((f :: r).map .int))] ∧ (-13 ≤ f ∧ f ≤ 13) ∧ (∀ t ∈ r, 1 ≤ t ∧ t ≤ 13) ∧ r.length ≤ 14 ∧ ∀ q, Bq 110 q → k (.ret (.val (fr q))) dvs
def sp__law_fraction : FS := fun dvs k => ∃ (p : List D) (f n : Nat), dvs = [.par p, .val (.int f)] ∧ Bx n p ∧ f ≤ 30 ∧ n ≤ 700000 ∧ ∀ q p', Bq 110 q → Bx (n + 100) p' → k (.ret (.val (fr q))) [.par p', .val (.int f)]
/-- a fraction above 0 -/
def Pq (a b : Int) : Prop := 1 ≤ a ∧ 1 ≤ b ∧ Int.gcd a b = 1 ∧ Bd 110 a ∧ Bd 110 b
def sp__law_above : FS := fun dvs k => ∃ (p : List D) (f n : Nat), dvs = [.par p, .val (.int f)] ∧ Bx n p ∧ f ≤ 30 ∧ n ≤ 700000 ∧ ∀ a b p', Pq a b → Bx (n + 101) p' → k (.ret (.val (pr a b))) [.par p', .val (.int f)]
def sp_is_fraction : FS := fun dvs k => ∃ d : D, dvs = [.val d] ∧ ok1 d = true ∧ k (.ret (.val (.bl (fracB (core d))))) dvs
def sp_need_fraction : FS := fun dvs k => ∃ w : Wy, dvs = [.val (frw w)] ∧ Wk w ∧ k (.ret (.val .non)) dvs
def sp_need_above : FS := fun dvs k => ∃ d : D, dvs = [.val d] ∧ ok1 d = true ∧ ((∃ w, core d = frw w ∧ Wk w ∧ k (.ret (.val .non)) dvs) ∨ (abvB (core d) = false ∧ k (nf d) dvs))
def sp_floor_row : FS := fun dvs k => ∃ w : Wy, dvs = [.val (frw w)] ∧ Wk w ∧ k (.ret (.own ((rowW w).map .int))) dvs
def sp_runs_of : FS := fun dvs k => ∃ w : Wy, dvs = [.val (frw w)] ∧ Wk w ∧ k (.ret (.own (wD w))) dvs
def sp_row_at : FS := fun dvs k => ∃ w : Wy, dvs = [.val (.lst (wD w))] ∧ Wk w ∧ k (.ret (.val (.lst ((rowW w).map .int)))) dvs
def sp_is_floor_row : FS := fun dvs k => ∃ w : Wy, dvs = [.val (.lst ((rowW w).map .int))] ∧ Wk w ∧ k (.ret (.val (.bl true))) dvs
def sp_need_row : FS := fun dvs k => ∃ w : Wy, dvs = [.val (.lst ((rowW w).map .int))] ∧ Wk w ∧ k (.ret (.val .non)) dvs
def mt (m : M4) : D := .tup [.tup [.int m.1, .int m.2.1], .tup [.int m.2.2.1, .int m.2.2.2]]
def sp_product : FS := fun dvs k => ∃ (m : M4) (t : Int), dvs = [.val (mt m), .val (.tup [.tup [.int t, .int 1], .tup [.int 1, .int 0]])] ∧ (Bd 400 m.1 ∧ Bd 400 m.2.1 ∧ Bd 400 m.2.2.1 ∧ Bd 400 m.2.2.2 ∧ Bd 400 t) ∧ k (.ret (.val (mt (tn m t)))) dvs
def sp_turn_of : FS := fun dvs k => ∃ w : Wy, dvs = [.val (.lst ((rowW w).map .int))] ∧ Wk w ∧ ∀ o q : Int, k (.ret (.val (mt ((Kw w).1, o, (Kw w).2, q)))) dvs
def sp_made : FS := fun dvs k => ∃ a b : Int, dvs = [.val (.int a), .val (.int b)] ∧ 1 ≤ b ∧ Int.gcd a b = 1 ∧ k (.ret (.val (pr a b))) dvs
def sp_fraction_of : FS := fun dvs k => ∃ w : Wy, dvs = [.val (.lst ((rowW w).map .int))] ∧ Wk w ∧ k (.ret (.val (frw w))) dvs
def sp_turned_of : FS := fun dvs k => ∃ w : Wy, dvs = [.val (frw w)] ∧ Wk w ∧ k (.ret (.val (frw w.reverse))) dvs
def sp_turned : FS := fun dvs k => ∃ d : D, dvs = [.val d] ∧ ok1 d = true ∧ ((∃ w, core d = frw w ∧ Wk w ∧ k (.ret (.val (frw w.reverse))) dvs) ∨ (abvB (core d) = false ∧ k (nf d) dvs))
def sp_is_whole : FS := fun dvs k => ∃ (x : D) (lo hi : Int), dvs = [.val x, .val (.int lo), .val (.int hi)] ∧ ok0 x = true ∧ k (.ret (.val (.bl (whB lo hi x)))) dvs
def sp_fraction_numbered : FS := fun dvs k => ∃ n : Nat, dvs = [.val (.int (n : Int))] ∧ 1 ≤ n ∧ n ≤ 100000000000000000000000000000 ∧ k (.ret (.val (frw (nW n)))) dvs
def sp_twos : FS := fun dvs k => ∃ d : D, dvs = [.val d] ∧ ok0 d = true ∧ ((∃ n : Nat, d = .int (n : Int) ∧ n < 100000000000000000000000000000 ∧ k (.ret (.val (.int (fs (n + 1)).1))) dvs) ∨ (whB 0 99999999999999999999999999999 d = false ∧ k (nn d) dvs))
def sp__law_row : FS := fun dvs k => ∃ w : Wy, dvs = [.val (.int (Kw w).1), .val (.int (Kw w).2)] ∧ Wk w ∧ k (.ret (.own ((rowW w).map .int))) dvs
def sp__law_steps : FS := fun dvs k => ∃ w : Wy, dvs = [.val (frw w)] ∧ Wk w ∧ k (.ret (.own (wD w))) dvs
def sp__law_at : FS := fun dvs k => ∃ w : Wy, dvs = [.val (.lst (wD w))] ∧ Wk w ∧ k (.ret (.val (frw w))) dvs
def sp__law_twos : FS := fun dvs k => dvs = [.val (.int 400)] ∧ k (.ret (.own ((List.range 401).map fun n => .int (fs (n + 1)).1))) dvs
def sp__law_numbered : FS := fun dvs k => ∃ n : Nat, dvs = [.val (.int (n : Int))] ∧ 1 ≤ n ∧ n ≤ 100000000000000000000000000000 ∧ k (.ret (.val (.lst (wD (nW n))))) dvs
def noF : List D := [.non, .int 7, .str "1/2", .lst [.int 1, .int 2], .tup [.int 1], .tup [.int 1, .int 2, .int 3], .tup [.int 2, .int 4], .tup [.int 1, .int 0], .tup [.int 1, .int (-2)], .tup [.int 0, .int 2], .tup [.bl true, .int 2], .tup [.int 1, .bl true], .tup [.str "1", .int 2], .dct [.inr "a"] [.int 1], .lst [], .tup [.non, .int 1], .tup [.tup [.int 1, .int 2], .int 1]]
def sp__law_no_fractions : FS := fun dvs k => dvs = [] ∧ k (.ret (.own noF)) dvs
def sp__law_called : FS := fun dvs k => ∃ (j : Nat) (d : D) (y : Bool), dvs = [.val (.int (j : Int)), .val (.lst [d]), .val (.bl y)] ∧
  ((j = 0 ∧ sp_turned [.val d] fun o _ => k o dvs) ∨ (j = 1 ∧ sp_twos [.val d] fun o _ => k o dvs))
abbrev tb03 : List (Str × Str) := [("NoFraction", "fraction"), ("NoNumber", "number")]
abbrev sp__law_told : FS := fsTold sp__law_called 4
abbrev sp__law_refused : FS := fsRefused sp__law_called tb03 4
abbrev sp__law_told_same : FS := fsToldSame sp__law_called (GdN 6) 4
end K03

namespace K03
open PySem DW CA
theorem len__law_twos : ∀ dvs kk, sp__law_twos dvs kk → dvs.length = 1 := by
  intro dvs kk h
  first
  | (obtain ⟨rfl, _⟩ := h; rfl)
  | (obtain ⟨_, rfl, _⟩ := h; rfl)
  | (obtain ⟨_, _, rfl, _⟩ := h; rfl)
  | (obtain ⟨_, _, _, rfl, _⟩ := h; rfl)
  | (obtain ⟨_, _, _, _, rfl, _⟩ := h; rfl)
  | (obtain ⟨_, _, _, _, _, rfl, _⟩ := h; rfl)
  | (obtain ⟨_, _, _, _, _, _, rfl, _⟩ := h; rfl)
  | (obtain ⟨_, _, _, _, _, _, _, rfl, _⟩ := h; rfl)
  | (obtain ⟨_, _, _, _, _, _, _, _, rfl, _⟩ := h; rfl)
  | (obtain ⟨_, _, _, _, _, _, _, _, _, rfl, _⟩ := h; rfl)
  | (obtain ⟨_, _, _, _, _, _, _, _, _, _, rfl, _⟩ := h; rfl)
  | (obtain ⟨_, _, _, _, _, _, _, _, _, _, _, rfl, _⟩ := h; rfl)
theorem len__law_at : ∀ dvs kk, sp__law_at dvs kk → dvs.length = 1 := by
  intro dvs kk h
  first
  | (obtain ⟨rfl, _⟩ := h; rfl)
  | (obtain ⟨_, rfl, _⟩ := h; rfl)
  | (obtain ⟨_, _, rfl, _⟩ := h; rfl)
  | (obtain ⟨_, _, _, rfl, _⟩ := h; rfl)
  | (obtain ⟨_, _, _, _, rfl, _⟩ := h; rfl)
  | (obtain ⟨_, _, _, _, _, rfl, _⟩ := h; rfl)
  | (obtain ⟨_, _, _, _, _, _, rfl, _⟩ := h; rfl)
  | (obtain ⟨_, _, _, _, _, _, _, rfl, _⟩ := h; rfl)
  | (obtain ⟨_, _, _, _, _, _, _, _, rfl, _⟩ := h; rfl)
  | (obtain ⟨_, _, _, _, _, _, _, _, _, rfl, _⟩ := h; rfl)
  | (obtain ⟨_, _, _, _, _, _, _, _, _, _, rfl, _⟩ := h; rfl)
  | (obtain ⟨_, _, _, _, _, _, _, _, _, _, _, rfl, _⟩ := h; rfl)
theorem len__law_take : ∀ dvs kk, sp__law_take dvs kk → dvs.length = 2 := lenTake
theorem len__law_low : ∀ dvs kk, sp__law_low dvs kk → dvs.length = 2 := by
  intro dvs kk h
  first
  | (obtain ⟨rfl, _⟩ := h; rfl)
  | (obtain ⟨_, rfl, _⟩ := h; rfl)
  | (obtain ⟨_, _, rfl, _⟩ := h; rfl)
  | (obtain ⟨_, _, _, rfl, _⟩ := h; rfl)
  | (obtain ⟨_, _, _, _, rfl, _⟩ := h; rfl)
  | (obtain ⟨_, _, _, _, _, rfl, _⟩ := h; rfl)
  | (obtain ⟨_, _, _, _, _, _, rfl, _⟩ := h; rfl)
  | (obtain ⟨_, _, _, _, _, _, _, rfl, _⟩ := h; rfl)
  | (obtain ⟨_, _, _, _, _, _, _, _, rfl, _⟩ := h; rfl)
  | (obtain ⟨_, _, _, _, _, _, _, _, _, rfl, _⟩ := h; rfl)
  | (obtain ⟨_, _, _, _, _, _, _, _, _, _, rfl, _⟩ := h; rfl)
  | (obtain ⟨_, _, _, _, _, _, _, _, _, _, _, rfl, _⟩ := h; rfl)
theorem len__law_of_row : ∀ dvs kk, sp__law_of_row dvs kk → dvs.length = 1 := by
  intro dvs kk h
  first
  | (obtain ⟨rfl, _⟩ := h; rfl)
  | (obtain ⟨_, rfl, _⟩ := h; rfl)
  | (obtain ⟨_, _, rfl, _⟩ := h; rfl)
  | (obtain ⟨_, _, _, rfl, _⟩ := h; rfl)
  | (obtain ⟨_, _, _, _, rfl, _⟩ := h; rfl)
  | (obtain ⟨_, _, _, _, _, rfl, _⟩ := h; rfl)
  | (obtain ⟨_, _, _, _, _, _, rfl, _⟩ := h; rfl)
  | (obtain ⟨_, _, _, _, _, _, _, rfl, _⟩ := h; rfl)
  | (obtain ⟨_, _, _, _, _, _, _, _, rfl, _⟩ := h; rfl)
  | (obtain ⟨_, _, _, _, _, _, _, _, _, rfl, _⟩ := h; rfl)
  | (obtain ⟨_, _, _, _, _, _, _, _, _, _, rfl, _⟩ := h; rfl)
  | (obtain ⟨_, _, _, _, _, _, _, _, _, _, _, rfl, _⟩ := h; rfl)
theorem len__law_digits : ∀ dvs kk, sp__law_digits dvs kk → dvs.length = 2 := lenDigits
theorem len__law_fraction : ∀ dvs kk, sp__law_fraction dvs kk → dvs.length = 2 := by
  intro dvs kk h
  first
  | (obtain ⟨rfl, _⟩ := h; rfl)
  | (obtain ⟨_, rfl, _⟩ := h; rfl)
  | (obtain ⟨_, _, rfl, _⟩ := h; rfl)
  | (obtain ⟨_, _, _, rfl, _⟩ := h; rfl)
  | (obtain ⟨_, _, _, _, rfl, _⟩ := h; rfl)
  | (obtain ⟨_, _, _, _, _, rfl, _⟩ := h; rfl)
  | (obtain ⟨_, _, _, _, _, _, rfl, _⟩ := h; rfl)
  | (obtain ⟨_, _, _, _, _, _, _, rfl, _⟩ := h; rfl)
  | (obtain ⟨_, _, _, _, _, _, _, _, rfl, _⟩ := h; rfl)
  | (obtain ⟨_, _, _, _, _, _, _, _, _, rfl, _⟩ := h; rfl)
  | (obtain ⟨_, _, _, _, _, _, _, _, _, _, rfl, _⟩ := h; rfl)
  | (obtain ⟨_, _, _, _, _, _, _, _, _, _, _, rfl, _⟩ := h; rfl)
theorem len__law_above : ∀ dvs kk, sp__law_above dvs kk → dvs.length = 2 := by
  intro dvs kk h
  first
  | (obtain ⟨rfl, _⟩ := h; rfl)
  | (obtain ⟨_, rfl, _⟩ := h; rfl)
  | (obtain ⟨_, _, rfl, _⟩ := h; rfl)
  | (obtain ⟨_, _, _, rfl, _⟩ := h; rfl)
  | (obtain ⟨_, _, _, _, rfl, _⟩ := h; rfl)
  | (obtain ⟨_, _, _, _, _, rfl, _⟩ := h; rfl)
  | (obtain ⟨_, _, _, _, _, _, rfl, _⟩ := h; rfl)
  | (obtain ⟨_, _, _, _, _, _, _, rfl, _⟩ := h; rfl)
  | (obtain ⟨_, _, _, _, _, _, _, _, rfl, _⟩ := h; rfl)
  | (obtain ⟨_, _, _, _, _, _, _, _, _, rfl, _⟩ := h; rfl)
  | (obtain ⟨_, _, _, _, _, _, _, _, _, _, rfl, _⟩ := h; rfl)
  | (obtain ⟨_, _, _, _, _, _, _, _, _, _, _, rfl, _⟩ := h; rfl)
theorem len__law_mixed : ∀ dvs kk, sp__law_mixed dvs kk → dvs.length = 2 := lenMixed
theorem len_is_number : ∀ dvs kk, sp_is_number dvs kk → dvs.length = 1 := lenNum
theorem len_is_whole : ∀ dvs kk, sp_is_whole dvs kk → dvs.length = 3 := by
  intro dvs kk h
  first
  | (obtain ⟨rfl, _⟩ := h; rfl)
  | (obtain ⟨_, rfl, _⟩ := h; rfl)
  | (obtain ⟨_, _, rfl, _⟩ := h; rfl)
  | (obtain ⟨_, _, _, rfl, _⟩ := h; rfl)
  | (obtain ⟨_, _, _, _, rfl, _⟩ := h; rfl)
  | (obtain ⟨_, _, _, _, _, rfl, _⟩ := h; rfl)
  | (obtain ⟨_, _, _, _, _, _, rfl, _⟩ := h; rfl)
  | (obtain ⟨_, _, _, _, _, _, _, rfl, _⟩ := h; rfl)
  | (obtain ⟨_, _, _, _, _, _, _, _, rfl, _⟩ := h; rfl)
  | (obtain ⟨_, _, _, _, _, _, _, _, _, rfl, _⟩ := h; rfl)
  | (obtain ⟨_, _, _, _, _, _, _, _, _, _, rfl, _⟩ := h; rfl)
  | (obtain ⟨_, _, _, _, _, _, _, _, _, _, _, rfl, _⟩ := h; rfl)
theorem len_is_floor_row : ∀ dvs kk, sp_is_floor_row dvs kk → dvs.length = 1 := by
  intro dvs kk h
  first
  | (obtain ⟨rfl, _⟩ := h; rfl)
  | (obtain ⟨_, rfl, _⟩ := h; rfl)
  | (obtain ⟨_, _, rfl, _⟩ := h; rfl)
  | (obtain ⟨_, _, _, rfl, _⟩ := h; rfl)
  | (obtain ⟨_, _, _, _, rfl, _⟩ := h; rfl)
  | (obtain ⟨_, _, _, _, _, rfl, _⟩ := h; rfl)
  | (obtain ⟨_, _, _, _, _, _, rfl, _⟩ := h; rfl)
  | (obtain ⟨_, _, _, _, _, _, _, rfl, _⟩ := h; rfl)
  | (obtain ⟨_, _, _, _, _, _, _, _, rfl, _⟩ := h; rfl)
  | (obtain ⟨_, _, _, _, _, _, _, _, _, rfl, _⟩ := h; rfl)
  | (obtain ⟨_, _, _, _, _, _, _, _, _, _, rfl, _⟩ := h; rfl)
  | (obtain ⟨_, _, _, _, _, _, _, _, _, _, _, rfl, _⟩ := h; rfl)
theorem len_need_row : ∀ dvs kk, sp_need_row dvs kk → dvs.length = 1 := by
  intro dvs kk h
  first
  | (obtain ⟨rfl, _⟩ := h; rfl)
  | (obtain ⟨_, rfl, _⟩ := h; rfl)
  | (obtain ⟨_, _, rfl, _⟩ := h; rfl)
  | (obtain ⟨_, _, _, rfl, _⟩ := h; rfl)
  | (obtain ⟨_, _, _, _, rfl, _⟩ := h; rfl)
  | (obtain ⟨_, _, _, _, _, rfl, _⟩ := h; rfl)
  | (obtain ⟨_, _, _, _, _, _, rfl, _⟩ := h; rfl)
  | (obtain ⟨_, _, _, _, _, _, _, rfl, _⟩ := h; rfl)
  | (obtain ⟨_, _, _, _, _, _, _, _, rfl, _⟩ := h; rfl)
  | (obtain ⟨_, _, _, _, _, _, _, _, _, rfl, _⟩ := h; rfl)
  | (obtain ⟨_, _, _, _, _, _, _, _, _, _, rfl, _⟩ := h; rfl)
  | (obtain ⟨_, _, _, _, _, _, _, _, _, _, _, rfl, _⟩ := h; rfl)
theorem len_product : ∀ dvs kk, sp_product dvs kk → dvs.length = 2 := by
  intro dvs kk h
  first
  | (obtain ⟨rfl, _⟩ := h; rfl)
  | (obtain ⟨_, rfl, _⟩ := h; rfl)
  | (obtain ⟨_, _, rfl, _⟩ := h; rfl)
  | (obtain ⟨_, _, _, rfl, _⟩ := h; rfl)
  | (obtain ⟨_, _, _, _, rfl, _⟩ := h; rfl)
  | (obtain ⟨_, _, _, _, _, rfl, _⟩ := h; rfl)
  | (obtain ⟨_, _, _, _, _, _, rfl, _⟩ := h; rfl)
  | (obtain ⟨_, _, _, _, _, _, _, rfl, _⟩ := h; rfl)
  | (obtain ⟨_, _, _, _, _, _, _, _, rfl, _⟩ := h; rfl)
  | (obtain ⟨_, _, _, _, _, _, _, _, _, rfl, _⟩ := h; rfl)
  | (obtain ⟨_, _, _, _, _, _, _, _, _, _, rfl, _⟩ := h; rfl)
  | (obtain ⟨_, _, _, _, _, _, _, _, _, _, _, rfl, _⟩ := h; rfl)
theorem len_turn_of : ∀ dvs kk, sp_turn_of dvs kk → dvs.length = 1 := by
  intro dvs kk h
  first
  | (obtain ⟨rfl, _⟩ := h; rfl)
  | (obtain ⟨_, rfl, _⟩ := h; rfl)
  | (obtain ⟨_, _, rfl, _⟩ := h; rfl)
  | (obtain ⟨_, _, _, rfl, _⟩ := h; rfl)
  | (obtain ⟨_, _, _, _, rfl, _⟩ := h; rfl)
  | (obtain ⟨_, _, _, _, _, rfl, _⟩ := h; rfl)
  | (obtain ⟨_, _, _, _, _, _, rfl, _⟩ := h; rfl)
  | (obtain ⟨_, _, _, _, _, _, _, rfl, _⟩ := h; rfl)
  | (obtain ⟨_, _, _, _, _, _, _, _, rfl, _⟩ := h; rfl)
  | (obtain ⟨_, _, _, _, _, _, _, _, _, rfl, _⟩ := h; rfl)
  | (obtain ⟨_, _, _, _, _, _, _, _, _, _, rfl, _⟩ := h; rfl)
  | (obtain ⟨_, _, _, _, _, _, _, _, _, _, _, rfl, _⟩ := h; rfl)
theorem len_common : ∀ dvs kk, sp_common dvs kk → dvs.length = 2 := by
  intro dvs kk h
  first
  | (obtain ⟨rfl, _⟩ := h; rfl)
  | (obtain ⟨_, rfl, _⟩ := h; rfl)
  | (obtain ⟨_, _, rfl, _⟩ := h; rfl)
  | (obtain ⟨_, _, _, rfl, _⟩ := h; rfl)
  | (obtain ⟨_, _, _, _, rfl, _⟩ := h; rfl)
  | (obtain ⟨_, _, _, _, _, rfl, _⟩ := h; rfl)
  | (obtain ⟨_, _, _, _, _, _, rfl, _⟩ := h; rfl)
  | (obtain ⟨_, _, _, _, _, _, _, rfl, _⟩ := h; rfl)
  | (obtain ⟨_, _, _, _, _, _, _, _, rfl, _⟩ := h; rfl)
  | (obtain ⟨_, _, _, _, _, _, _, _, _, rfl, _⟩ := h; rfl)
  | (obtain ⟨_, _, _, _, _, _, _, _, _, _, rfl, _⟩ := h; rfl)
  | (obtain ⟨_, _, _, _, _, _, _, _, _, _, _, rfl, _⟩ := h; rfl)
theorem len_made : ∀ dvs kk, sp_made dvs kk → dvs.length = 2 := by
  intro dvs kk h
  first
  | (obtain ⟨rfl, _⟩ := h; rfl)
  | (obtain ⟨_, rfl, _⟩ := h; rfl)
  | (obtain ⟨_, _, rfl, _⟩ := h; rfl)
  | (obtain ⟨_, _, _, rfl, _⟩ := h; rfl)
  | (obtain ⟨_, _, _, _, rfl, _⟩ := h; rfl)
  | (obtain ⟨_, _, _, _, _, rfl, _⟩ := h; rfl)
  | (obtain ⟨_, _, _, _, _, _, rfl, _⟩ := h; rfl)
  | (obtain ⟨_, _, _, _, _, _, _, rfl, _⟩ := h; rfl)
  | (obtain ⟨_, _, _, _, _, _, _, _, rfl, _⟩ := h; rfl)
  | (obtain ⟨_, _, _, _, _, _, _, _, _, rfl, _⟩ := h; rfl)
  | (obtain ⟨_, _, _, _, _, _, _, _, _, _, rfl, _⟩ := h; rfl)
  | (obtain ⟨_, _, _, _, _, _, _, _, _, _, _, rfl, _⟩ := h; rfl)
theorem len_fraction_of : ∀ dvs kk, sp_fraction_of dvs kk → dvs.length = 1 := by
  intro dvs kk h
  first
  | (obtain ⟨rfl, _⟩ := h; rfl)
  | (obtain ⟨_, rfl, _⟩ := h; rfl)
  | (obtain ⟨_, _, rfl, _⟩ := h; rfl)
  | (obtain ⟨_, _, _, rfl, _⟩ := h; rfl)
  | (obtain ⟨_, _, _, _, rfl, _⟩ := h; rfl)
  | (obtain ⟨_, _, _, _, _, rfl, _⟩ := h; rfl)
  | (obtain ⟨_, _, _, _, _, _, rfl, _⟩ := h; rfl)
  | (obtain ⟨_, _, _, _, _, _, _, rfl, _⟩ := h; rfl)
  | (obtain ⟨_, _, _, _, _, _, _, _, rfl, _⟩ := h; rfl)
  | (obtain ⟨_, _, _, _, _, _, _, _, _, rfl, _⟩ := h; rfl)
  | (obtain ⟨_, _, _, _, _, _, _, _, _, _, rfl, _⟩ := h; rfl)
  | (obtain ⟨_, _, _, _, _, _, _, _, _, _, _, rfl, _⟩ := h; rfl)
theorem len_row_at : ∀ dvs kk, sp_row_at dvs kk → dvs.length = 1 := by
  intro dvs kk h
  first
  | (obtain ⟨rfl, _⟩ := h; rfl)
  | (obtain ⟨_, rfl, _⟩ := h; rfl)
  | (obtain ⟨_, _, rfl, _⟩ := h; rfl)
  | (obtain ⟨_, _, _, rfl, _⟩ := h; rfl)
  | (obtain ⟨_, _, _, _, rfl, _⟩ := h; rfl)
  | (obtain ⟨_, _, _, _, _, rfl, _⟩ := h; rfl)
  | (obtain ⟨_, _, _, _, _, _, rfl, _⟩ := h; rfl)
  | (obtain ⟨_, _, _, _, _, _, _, rfl, _⟩ := h; rfl)
  | (obtain ⟨_, _, _, _, _, _, _, _, rfl, _⟩ := h; rfl)
  | (obtain ⟨_, _, _, _, _, _, _, _, _, rfl, _⟩ := h; rfl)
  | (obtain ⟨_, _, _, _, _, _, _, _, _, _, rfl, _⟩ := h; rfl)
  | (obtain ⟨_, _, _, _, _, _, _, _, _, _, _, rfl, _⟩ := h; rfl)
theorem len_is_fraction : ∀ dvs kk, sp_is_fraction dvs kk → dvs.length = 1 := by
  intro dvs kk h
  first
  | (obtain ⟨rfl, _⟩ := h; rfl)
  | (obtain ⟨_, rfl, _⟩ := h; rfl)
  | (obtain ⟨_, _, rfl, _⟩ := h; rfl)
  | (obtain ⟨_, _, _, rfl, _⟩ := h; rfl)
  | (obtain ⟨_, _, _, _, rfl, _⟩ := h; rfl)
  | (obtain ⟨_, _, _, _, _, rfl, _⟩ := h; rfl)
  | (obtain ⟨_, _, _, _, _, _, rfl, _⟩ := h; rfl)
  | (obtain ⟨_, _, _, _, _, _, _, rfl, _⟩ := h; rfl)
  | (obtain ⟨_, _, _, _, _, _, _, _, rfl, _⟩ := h; rfl)
  | (obtain ⟨_, _, _, _, _, _, _, _, _, rfl, _⟩ := h; rfl)
  | (obtain ⟨_, _, _, _, _, _, _, _, _, _, rfl, _⟩ := h; rfl)
  | (obtain ⟨_, _, _, _, _, _, _, _, _, _, _, rfl, _⟩ := h; rfl)
theorem len_need_fraction : ∀ dvs kk, sp_need_fraction dvs kk → dvs.length = 1 := by
  intro dvs kk h
  first
  | (obtain ⟨rfl, _⟩ := h; rfl)
  | (obtain ⟨_, rfl, _⟩ := h; rfl)
  | (obtain ⟨_, _, rfl, _⟩ := h; rfl)
  | (obtain ⟨_, _, _, rfl, _⟩ := h; rfl)
  | (obtain ⟨_, _, _, _, rfl, _⟩ := h; rfl)
  | (obtain ⟨_, _, _, _, _, rfl, _⟩ := h; rfl)
  | (obtain ⟨_, _, _, _, _, _, rfl, _⟩ := h; rfl)
  | (obtain ⟨_, _, _, _, _, _, _, rfl, _⟩ := h; rfl)
  | (obtain ⟨_, _, _, _, _, _, _, _, rfl, _⟩ := h; rfl)
  | (obtain ⟨_, _, _, _, _, _, _, _, _, rfl, _⟩ := h; rfl)
  | (obtain ⟨_, _, _, _, _, _, _, _, _, _, rfl, _⟩ := h; rfl)
  | (obtain ⟨_, _, _, _, _, _, _, _, _, _, _, rfl, _⟩ := h; rfl)
theorem len_floor_row : ∀ dvs kk, sp_floor_row dvs kk → dvs.length = 1 := by
  intro dvs kk h
  first
  | (obtain ⟨rfl, _⟩ := h; rfl)
  | (obtain ⟨_, rfl, _⟩ := h; rfl)
  | (obtain ⟨_, _, rfl, _⟩ := h; rfl)
  | (obtain ⟨_, _, _, rfl, _⟩ := h; rfl)
  | (obtain ⟨_, _, _, _, rfl, _⟩ := h; rfl)
  | (obtain ⟨_, _, _, _, _, rfl, _⟩ := h; rfl)
  | (obtain ⟨_, _, _, _, _, _, rfl, _⟩ := h; rfl)
  | (obtain ⟨_, _, _, _, _, _, _, rfl, _⟩ := h; rfl)
  | (obtain ⟨_, _, _, _, _, _, _, _, rfl, _⟩ := h; rfl)
  | (obtain ⟨_, _, _, _, _, _, _, _, _, rfl, _⟩ := h; rfl)
  | (obtain ⟨_, _, _, _, _, _, _, _, _, _, rfl, _⟩ := h; rfl)
  | (obtain ⟨_, _, _, _, _, _, _, _, _, _, _, rfl, _⟩ := h; rfl)
theorem len_runs_of : ∀ dvs kk, sp_runs_of dvs kk → dvs.length = 1 := by
  intro dvs kk h
  first
  | (obtain ⟨rfl, _⟩ := h; rfl)
  | (obtain ⟨_, rfl, _⟩ := h; rfl)
  | (obtain ⟨_, _, rfl, _⟩ := h; rfl)
  | (obtain ⟨_, _, _, rfl, _⟩ := h; rfl)
  | (obtain ⟨_, _, _, _, rfl, _⟩ := h; rfl)
  | (obtain ⟨_, _, _, _, _, rfl, _⟩ := h; rfl)
  | (obtain ⟨_, _, _, _, _, _, rfl, _⟩ := h; rfl)
  | (obtain ⟨_, _, _, _, _, _, _, rfl, _⟩ := h; rfl)
  | (obtain ⟨_, _, _, _, _, _, _, _, rfl, _⟩ := h; rfl)
  | (obtain ⟨_, _, _, _, _, _, _, _, _, rfl, _⟩ := h; rfl)
  | (obtain ⟨_, _, _, _, _, _, _, _, _, _, rfl, _⟩ := h; rfl)
  | (obtain ⟨_, _, _, _, _, _, _, _, _, _, _, rfl, _⟩ := h; rfl)
theorem len_turned_of : ∀ dvs kk, sp_turned_of dvs kk → dvs.length = 1 := by
  intro dvs kk h
  first
  | (obtain ⟨rfl, _⟩ := h; rfl)
  | (obtain ⟨_, rfl, _⟩ := h; rfl)
  | (obtain ⟨_, _, rfl, _⟩ := h; rfl)
  | (obtain ⟨_, _, _, rfl, _⟩ := h; rfl)
  | (obtain ⟨_, _, _, _, rfl, _⟩ := h; rfl)
  | (obtain ⟨_, _, _, _, _, rfl, _⟩ := h; rfl)
  | (obtain ⟨_, _, _, _, _, _, rfl, _⟩ := h; rfl)
  | (obtain ⟨_, _, _, _, _, _, _, rfl, _⟩ := h; rfl)
  | (obtain ⟨_, _, _, _, _, _, _, _, rfl, _⟩ := h; rfl)
  | (obtain ⟨_, _, _, _, _, _, _, _, _, rfl, _⟩ := h; rfl)
  | (obtain ⟨_, _, _, _, _, _, _, _, _, _, rfl, _⟩ := h; rfl)
  | (obtain ⟨_, _, _, _, _, _, _, _, _, _, _, rfl, _⟩ := h; rfl)
theorem len_fraction_numbered : ∀ dvs kk, sp_fraction_numbered dvs kk → dvs.length = 1 := by
  intro dvs kk h
  first
  | (obtain ⟨rfl, _⟩ := h; rfl)
  | (obtain ⟨_, rfl, _⟩ := h; rfl)
  | (obtain ⟨_, _, rfl, _⟩ := h; rfl)
  | (obtain ⟨_, _, _, rfl, _⟩ := h; rfl)
  | (obtain ⟨_, _, _, _, rfl, _⟩ := h; rfl)
  | (obtain ⟨_, _, _, _, _, rfl, _⟩ := h; rfl)
  | (obtain ⟨_, _, _, _, _, _, rfl, _⟩ := h; rfl)
  | (obtain ⟨_, _, _, _, _, _, _, rfl, _⟩ := h; rfl)
  | (obtain ⟨_, _, _, _, _, _, _, _, rfl, _⟩ := h; rfl)
  | (obtain ⟨_, _, _, _, _, _, _, _, _, rfl, _⟩ := h; rfl)
  | (obtain ⟨_, _, _, _, _, _, _, _, _, _, rfl, _⟩ := h; rfl)
  | (obtain ⟨_, _, _, _, _, _, _, _, _, _, _, rfl, _⟩ := h; rfl)
theorem len_twos : ∀ dvs kk, sp_twos dvs kk → dvs.length = 1 := by
  intro dvs kk h
  first
  | (obtain ⟨rfl, _⟩ := h; rfl)
  | (obtain ⟨_, rfl, _⟩ := h; rfl)
  | (obtain ⟨_, _, rfl, _⟩ := h; rfl)
  | (obtain ⟨_, _, _, rfl, _⟩ := h; rfl)
  | (obtain ⟨_, _, _, _, rfl, _⟩ := h; rfl)
  | (obtain ⟨_, _, _, _, _, rfl, _⟩ := h; rfl)
  | (obtain ⟨_, _, _, _, _, _, rfl, _⟩ := h; rfl)
  | (obtain ⟨_, _, _, _, _, _, _, rfl, _⟩ := h; rfl)
  | (obtain ⟨_, _, _, _, _, _, _, _, rfl, _⟩ := h; rfl)
  | (obtain ⟨_, _, _, _, _, _, _, _, _, rfl, _⟩ := h; rfl)
  | (obtain ⟨_, _, _, _, _, _, _, _, _, _, rfl, _⟩ := h; rfl)
  | (obtain ⟨_, _, _, _, _, _, _, _, _, _, _, rfl, _⟩ := h; rfl)
theorem len_need_above : ∀ dvs kk, sp_need_above dvs kk → dvs.length = 1 := by
  intro dvs kk h
  first
  | (obtain ⟨rfl, _⟩ := h; rfl)
  | (obtain ⟨_, rfl, _⟩ := h; rfl)
  | (obtain ⟨_, _, rfl, _⟩ := h; rfl)
  | (obtain ⟨_, _, _, rfl, _⟩ := h; rfl)
  | (obtain ⟨_, _, _, _, rfl, _⟩ := h; rfl)
  | (obtain ⟨_, _, _, _, _, rfl, _⟩ := h; rfl)
  | (obtain ⟨_, _, _, _, _, _, rfl, _⟩ := h; rfl)
  | (obtain ⟨_, _, _, _, _, _, _, rfl, _⟩ := h; rfl)
  | (obtain ⟨_, _, _, _, _, _, _, _, rfl, _⟩ := h; rfl)
  | (obtain ⟨_, _, _, _, _, _, _, _, _, rfl, _⟩ := h; rfl)
  | (obtain ⟨_, _, _, _, _, _, _, _, _, _, rfl, _⟩ := h; rfl)
  | (obtain ⟨_, _, _, _, _, _, _, _, _, _, _, rfl, _⟩ := h; rfl)
theorem len_turned : ∀ dvs kk, sp_turned dvs kk → dvs.length = 1 := by
  intro dvs kk h
  first
  | (obtain ⟨rfl, _⟩ := h; rfl)
  | (obtain ⟨_, rfl, _⟩ := h; rfl)
  | (obtain ⟨_, _, rfl, _⟩ := h; rfl)
  | (obtain ⟨_, _, _, rfl, _⟩ := h; rfl)
  | (obtain ⟨_, _, _, _, rfl, _⟩ := h; rfl)
  | (obtain ⟨_, _, _, _, _, rfl, _⟩ := h; rfl)
  | (obtain ⟨_, _, _, _, _, _, rfl, _⟩ := h; rfl)
  | (obtain ⟨_, _, _, _, _, _, _, rfl, _⟩ := h; rfl)
  | (obtain ⟨_, _, _, _, _, _, _, _, rfl, _⟩ := h; rfl)
  | (obtain ⟨_, _, _, _, _, _, _, _, _, rfl, _⟩ := h; rfl)
  | (obtain ⟨_, _, _, _, _, _, _, _, _, _, rfl, _⟩ := h; rfl)
  | (obtain ⟨_, _, _, _, _, _, _, _, _, _, _, rfl, _⟩ := h; rfl)
theorem len__law_called : ∀ dvs kk, sp__law_called dvs kk → dvs.length = 3 := by
  intro dvs kk h
  first
  | (obtain ⟨rfl, _⟩ := h; rfl)
  | (obtain ⟨_, rfl, _⟩ := h; rfl)
  | (obtain ⟨_, _, rfl, _⟩ := h; rfl)
  | (obtain ⟨_, _, _, rfl, _⟩ := h; rfl)
  | (obtain ⟨_, _, _, _, rfl, _⟩ := h; rfl)
  | (obtain ⟨_, _, _, _, _, rfl, _⟩ := h; rfl)
  | (obtain ⟨_, _, _, _, _, _, rfl, _⟩ := h; rfl)
  | (obtain ⟨_, _, _, _, _, _, _, rfl, _⟩ := h; rfl)
  | (obtain ⟨_, _, _, _, _, _, _, _, rfl, _⟩ := h; rfl)
  | (obtain ⟨_, _, _, _, _, _, _, _, _, rfl, _⟩ := h; rfl)
  | (obtain ⟨_, _, _, _, _, _, _, _, _, _, rfl, _⟩ := h; rfl)
  | (obtain ⟨_, _, _, _, _, _, _, _, _, _, _, rfl, _⟩ := h; rfl)
theorem lenr__law_same (n : Nat) : ∀ dvs kk, spr__law_same n dvs kk → dvs.length = 2 := by
  rintro dvs kk ⟨_, rfl, h⟩
  rfl
theorem nor__law_same : ∀ dvs kk, ¬ spr__law_same 0 dvs kk := norSame
theorem len__law_numbered : ∀ dvs kk, sp__law_numbered dvs kk → dvs.length = 1 := by
  intro dvs kk h
  first
  | (obtain ⟨rfl, _⟩ := h; rfl)
  | (obtain ⟨_, rfl, _⟩ := h; rfl)
  | (obtain ⟨_, _, rfl, _⟩ := h; rfl)
  | (obtain ⟨_, _, _, rfl, _⟩ := h; rfl)
  | (obtain ⟨_, _, _, _, rfl, _⟩ := h; rfl)
  | (obtain ⟨_, _, _, _, _, rfl, _⟩ := h; rfl)
  | (obtain ⟨_, _, _, _, _, _, rfl, _⟩ := h; rfl)
  | (obtain ⟨_, _, _, _, _, _, _, rfl, _⟩ := h; rfl)
  | (obtain ⟨_, _, _, _, _, _, _, _, rfl, _⟩ := h; rfl)
  | (obtain ⟨_, _, _, _, _, _, _, _, _, rfl, _⟩ := h; rfl)
  | (obtain ⟨_, _, _, _, _, _, _, _, _, _, rfl, _⟩ := h; rfl)
  | (obtain ⟨_, _, _, _, _, _, _, _, _, _, _, rfl, _⟩ := h; rfl)
theorem len__law_row : ∀ dvs kk, sp__law_row dvs kk → dvs.length = 2 := by
  intro dvs kk h
  first
  | (obtain ⟨rfl, _⟩ := h; rfl)
  | (obtain ⟨_, rfl, _⟩ := h; rfl)
  | (obtain ⟨_, _, rfl, _⟩ := h; rfl)
  | (obtain ⟨_, _, _, rfl, _⟩ := h; rfl)
  | (obtain ⟨_, _, _, _, rfl, _⟩ := h; rfl)
  | (obtain ⟨_, _, _, _, _, rfl, _⟩ := h; rfl)
  | (obtain ⟨_, _, _, _, _, _, rfl, _⟩ := h; rfl)
  | (obtain ⟨_, _, _, _, _, _, _, rfl, _⟩ := h; rfl)
  | (obtain ⟨_, _, _, _, _, _, _, _, rfl, _⟩ := h; rfl)
  | (obtain ⟨_, _, _, _, _, _, _, _, _, rfl, _⟩ := h; rfl)
  | (obtain ⟨_, _, _, _, _, _, _, _, _, _, rfl, _⟩ := h; rfl)
  | (obtain ⟨_, _, _, _, _, _, _, _, _, _, _, rfl, _⟩ := h; rfl)
theorem len__law_steps : ∀ dvs kk, sp__law_steps dvs kk → dvs.length = 1 := by
  intro dvs kk h
  first
  | (obtain ⟨rfl, _⟩ := h; rfl)
  | (obtain ⟨_, rfl, _⟩ := h; rfl)
  | (obtain ⟨_, _, rfl, _⟩ := h; rfl)
  | (obtain ⟨_, _, _, rfl, _⟩ := h; rfl)
  | (obtain ⟨_, _, _, _, rfl, _⟩ := h; rfl)
  | (obtain ⟨_, _, _, _, _, rfl, _⟩ := h; rfl)
  | (obtain ⟨_, _, _, _, _, _, rfl, _⟩ := h; rfl)
  | (obtain ⟨_, _, _, _, _, _, _, rfl, _⟩ := h; rfl)
  | (obtain ⟨_, _, _, _, _, _, _, _, rfl, _⟩ := h; rfl)
  | (obtain ⟨_, _, _, _, _, _, _, _, _, rfl, _⟩ := h; rfl)
  | (obtain ⟨_, _, _, _, _, _, _, _, _, _, rfl, _⟩ := h; rfl)
  | (obtain ⟨_, _, _, _, _, _, _, _, _, _, _, rfl, _⟩ := h; rfl)
theorem len__law_no_fractions : ∀ dvs kk, sp__law_no_fractions dvs kk → dvs.length = 0 := by
  intro dvs kk h
  first
  | (obtain ⟨rfl, _⟩ := h; rfl)
  | (obtain ⟨_, rfl, _⟩ := h; rfl)
  | (obtain ⟨_, _, rfl, _⟩ := h; rfl)
  | (obtain ⟨_, _, _, rfl, _⟩ := h; rfl)
  | (obtain ⟨_, _, _, _, rfl, _⟩ := h; rfl)
  | (obtain ⟨_, _, _, _, _, rfl, _⟩ := h; rfl)
  | (obtain ⟨_, _, _, _, _, _, rfl, _⟩ := h; rfl)
  | (obtain ⟨_, _, _, _, _, _, _, rfl, _⟩ := h; rfl)
  | (obtain ⟨_, _, _, _, _, _, _, _, rfl, _⟩ := h; rfl)
  | (obtain ⟨_, _, _, _, _, _, _, _, _, rfl, _⟩ := h; rfl)
  | (obtain ⟨_, _, _, _, _, _, _, _, _, _, rfl, _⟩ := h; rfl)
  | (obtain ⟨_, _, _, _, _, _, _, _, _, _, _, rfl, _⟩ := h; rfl)
theorem len__law_cell_right : ∀ dvs kk, sp__law_cell_right dvs kk → dvs.length = 1 := lenRight
theorem len__law_box : ∀ dvs kk, sp__law_box dvs kk → dvs.length = 1 := lenBox
theorem len__law_cell : ∀ dvs kk, sp__law_cell dvs kk → dvs.length = 2 := lenCell
theorem len_law : ∀ dvs kk, sp_law dvs kk → dvs.length = 1 := lenLaw
end K03

/-! the transformers of the defs, printed by gen.py -/
namespace K03
open PySem DW
/-- _law_twos(most), slots 0 most, 1 found*, 2 number, 3 half; level 1 -/
def w__law_twos : WS := (wSeq (wAsgO (wLst [(wC (.int 1))]) 1)
    (wSeq (wForR [(wC (.int 1)), (wBin dAdd (wVar 0) (wC (.int 1)))] (.nm 2) (wSeq (wAsg (wBin dFdiv (wVar 2) (wC (.int 2))) (.nm 3))
    (wApp 1 (wIf (wTst (wBin dEq (wBin dMod (wUn dInt (wVar 2)) (wC (.int 2))) (wC (.int 1)))) (wIxO 1 (wVar 3)) (wBin dAdd (wIxO 1 (wVar 3)) (wIxO 1 (wBin dSub (wVar 3) (wC (.int 1)))))))))
    (wRetS 1)))
/-- _law_at(way), slots 0 way, 1 low, 2 high, 3 letter, 4 many; level 1 -/
def w__law_at : WS := (wSeq (wAsg (wTup [(wTup [(wC (.int 0)), (wC (.int 1))]), (wTup [(wC (.int 1)), (wC (.int 0))])]) (.tp [(.nm 1), (.nm 2)]))
    (wSeq (wFor (wVar 0) (.tp [(.nm 3), (.nm 4)]) (wIfS (wTst (wBin dEq (wVar 3) (wC (.str (Str.ofString "R"))))) (wAsg (wTup [(wBin dAdd (wBin dIx (wVar 1) (wC (.int 0))) (wBin dMul (wVar 4) (wBin dIx (wVar 2) (wC (.int 0))))), (wBin dAdd (wBin dIx (wVar 1) (wC (.int 1))) (wBin dMul (wVar 4) (wBin dIx (wVar 2) (wC (.int 1)))))]) (.nm 1)) (wAsg (wTup [(wBin dAdd (wBin dIx (wVar 2) (wC (.int 0))) (wBin dMul (wVar 4) (wBin dIx (wVar 1) (wC (.int 0))))), (wBin dAdd (wBin dIx (wVar 2) (wC (.int 1))) (wBin dMul (wVar 4) (wBin dIx (wVar 1) (wC (.int 1)))))]) (.nm 2))))
    (wRet (wTup [(wBin dAdd (wBin dIx (wVar 1) (wC (.int 0))) (wBin dIx (wVar 2) (wC (.int 0)))), (wBin dAdd (wBin dIx (wVar 1) (wC (.int 1))) (wBin dIx (wVar 2) (wC (.int 1))))]))))
/-- _law_take(box, many), slots 0 box*, 1 many, 2 digit, 3 mixed; level 1 -/
def w__law_take : WS := (wSeq (wIfS (wAnd (wTst (wIxO 0 (wC (.int 1)))) (wTst (wBin dGt (wIxO 0 (wC (.int 0))) (wC (.int 0))))) (wSeq (wAsg (wBin dMod (wUn dInt (wIxO 0 (wC (.int 0)))) (wVar 1)) (.nm 2))
    (wSeq (wSet 0 (wC (.int 0)) (wBin dFdiv (wIxO 0 (wC (.int 0))) (wVar 1)))
    (wRet (wVar 2)))) wNext)
    (wSeq (wSet 0 (wC (.int 3)) (wBin dAdd (wIxO 0 (wC (.int 3))) (wC (.int 1))))
    (wSeq (wAsg (wBin dMod (wUn dInt (wBin dPow (wBin dAdd (wBin dAdd (wIxO 0 (wC (.int 2))) (wBin dMul (wC (.int 15486637)) (wIxO 0 (wC (.int 3))))) (wC (.int 179425279))) (wC (.int 5)))) (wC (.int 2147483647))) (.nm 3))
    (wRet (wBin dMod (wUn dInt (wBin dFdiv (wBin dMod (wUn dInt (wBin dPow (wBin dAdd (wBin dMul (wVar 3) (wC (.int 48271))) (wBin dMul (wC (.int 8521)) (wIxO 0 (wC (.int 3))))) (wC (.int 3)))) (wC (.int 2147483587))) (wC (.int 64)))) (wVar 1))))))
/-- _law_low(top, base), slots 0 top, 1 base, 2 one, 3 other; level 1 -/
def w__law_low : WS := (wSeq (wPar 2 3 (wUn dAbs (wVar 0)) (wUn dAbs (wVar 1)))
    (wSeq (wWhile (wTst (wBin dGt (wVar 3) (wC (.int 0)))) (wPar 2 3 (wVar 3) (wBin dMod (wUn dInt (wVar 2)) (wVar 3))))
    (wRet (wIf (wTst (wBin dGt (wVar 1) (wC (.int 0)))) (wTup [(wBin dFdiv (wVar 0) (wVar 2)), (wBin dFdiv (wVar 1) (wVar 2))]) (wTup [(wBin dFdiv (wUn dNeg (wVar 0)) (wVar 2)), (wBin dFdiv (wUn dNeg (wVar 1)) (wVar 2))])))))
/-- _law_of_row(row), slots 0 row, 1 top, 2 base, 3 term; level 2 -/
def w__law_of_row : WS := (wSeq (wPar 1 2 (wBin dIx (wVar 0) (wUn dNeg (wC (.int 1)))) (wC (.int 1)))
    (wSeq (wFor (wIf (wTst (wBin dGt (wUn dLen (wVar 0)) (wC (.int 1)))) (wFrz (wRev2 (wVar 0))) (wFrz (wLst []))) (.nm 3) (wPar 1 2 (wBin dAdd (wBin dMul (wVar 3) (wVar 1)) (wVar 2)) (wVar 1)))
    (wRet (wCall sp__law_low [.v (wVar 1), .v (wVar 2)]))))
/-- _law_digits(box, figures), slots 0 box*, 1 figures, 2 found, 3 k; level 2 -/
def w__law_digits : WS := (wSeq (wAsg (wC (.int 0)) (.nm 2))
    (wSeq (wForR [(wVar 1)] (.nm 3) (wAsg (wBin dAdd (wBin dMul (wC (.int 10)) (wVar 2)) (wCall sp__law_take [.s 0, .v (wC (.int 10))])) (.nm 2)))
    (wRet (wVar 2))))
/-- _law_fraction(box, figures), slots 0 box*, 1 figures, 2 way, 3 great, 4 row*, 5 k; level 3 -/
def w__law_fraction : WS := (wSeq (wAsg (wCall sp__law_take [.s 0, .v (wC (.int 5))]) (.nm 2))
    (wSeq (wIfS (wTst (wBin dEq (wVar 2) (wC (.int 0)))) (wRet (wCall sp__law_low [.v (wBin dSub (wCall sp__law_take [.s 0, .v (wC (.int 41))]) (wC (.int 20))), .v (wBin dAdd (wC (.int 1)) (wCall sp__law_take [.s 0, .v (wC (.int 12))]))])) wNext)
    (wSeq (wIfS (wTst (wBin dEq (wVar 2) (wC (.int 1)))) (wRet (wCall sp__law_low [.v (wBin dMul (wCall sp__law_digits [.s 0, .v (wVar 1)]) (wBin dSub (wC (.int 1)) (wBin dMul (wC (.int 2)) (wCall sp__law_take [.s 0, .v (wC (.int 2))])))), .v (wBin dAdd (wC (.int 1)) (wCall sp__law_digits [.s 0, .v (wVar 1)]))])) wNext)
    (wSeq (wParO 3 4 (wBin dIx (wFrz (wLst [(wC (.int 2)), (wC (.int 3)), (wC (.int 12))])) (wCall sp__law_take [.s 0, .v (wC (.int 3))])) (wLst [(wBin dSub (wCall sp__law_take [.s 0, .v (wC (.int 7))]) (wC (.int 3)))]))
    (wSeq (wForR [(wCall sp__law_take [.s 0, .v (wBin dIx (wFrz (wLst [(wC (.int 4)), (wC (.int 9)), (wC (.int 14))])) (wCall sp__law_take [.s 0, .v (wC (.int 3))]))])] (.nm 5) (wApp 4 (wBin dAdd (wC (.int 1)) (wCall sp__law_take [.s 0, .v (wVar 3)]))))
    (wRet (wCall sp__law_of_row [.v (wVar 4)])))))))
/-- _law_above(box, figures), slots 0 box*, 1 figures, 2 found; level 4 -/
def w__law_above : WS := (wSeq (wAsg (wCall sp__law_fraction [.s 0, .v (wVar 1)]) (.nm 2))
    (wRet (wIf (wTst (wBin dNe (wBin dIx (wVar 2) (wC (.int 0))) (wC (.int 0)))) (wTup [(wUn dAbs (wBin dIx (wVar 2) (wC (.int 0)))), (wBin dIx (wVar 2) (wC (.int 1)))]) (wTup [(wC (.int 1)), (wBin dAdd (wC (.int 1)) (wCall sp__law_take [.s 0, .v (wC (.int 9))]))]))))
/-- _law_mixed(box, items), slots 0 box*, 1 items, 2 left*, 3 found*; level 2 -/
def w__law_mixed : WS := (wSeq (wParOO 2 3 (wListF (wVar 1)) (wLst []))
    (wSeq (wWhile (wNeO 2) (wApp 3 (wPopAt 2 (wCall sp__law_take [.s 0, .v (wLenO 2)]))))
    (wRetS 3)))
/-- is_number(thing), slots 0 thing; level 1 -/
def w_is_number : WS := (wRet (wAndV (wUn (dIsTy .int) (wVar 0)) (wNotV (wUn (dIsTy .bool) (wVar 0)))))
/-- is_whole(thing, low, high), slots 0 thing, 1 low, 2 high; level 2 -/
def w_is_whole : WS := (wRet (wAndV (wCall sp_is_number [.v (wVar 0)]) (wChain dLe dLe (wVar 1) (wVar 0) (wVar 2))))
/-- is_floor_row(thing), slots 0 thing, 1 term; level 2 -/
def w_is_floor_row : WS := (wSeq (wIfS (wOr (wNot (wTst (wUn (dIsTys [.list, .tuple]) (wVar 0)))) (wOr (wTst (wBin dEq (wUn dLen (wVar 0)) (wC (.int 0)))) (wNot (wTst (wUn dAll (wFrz (wLc (wVar 0) (.nm 1) [1] wYes (wCall sp_is_number [.v (wVar 1)])))))))) (wRet (wC (.bl false))) wNext)
    (wSeq (wIfS (wNot (wTst (wUn dAll (wFrz (wLc (wFrz (wCut (wVar 0) (wP (wC (.int 1))) wNoP)) (.nm 1) [1] wYes (wBin dGe (wVar 1) (wC (.int 1)))))))) (wRet (wC (.bl false))) wNext)
    (wRet (wOrV (wBin dEq (wUn dLen (wVar 0)) (wC (.int 1))) (wBin dNe (wBin dIx (wVar 0) (wUn dNeg (wC (.int 1)))) (wC (.int 1)))))))
/-- need_row(thing), slots 0 thing; level 3 -/
def w_need_row : WS := (wIfS (wNot (wTst (wCall sp_is_floor_row [.v (wVar 0)]))) (wRaise (Str.ofString "NoRow") (Str.ofString "found") (wVar 0)) wNext)
/-- product(one, other), slots 0 one, 1 other, 2 a, 3 b, 4 c, 5 d, 6 e, 7 f, 8 g, 9 h; level 1 -/
def w_product : WS := (wSeq (wAsg (wVar 0) (.tp [(.tp [(.nm 2), (.nm 3)]), (.tp [(.nm 4), (.nm 5)])]))
    (wSeq (wAsg (wVar 1) (.tp [(.tp [(.nm 6), (.nm 7)]), (.tp [(.nm 8), (.nm 9)])]))
    (wRet (wTup [(wTup [(wBin dAdd (wBin dMul (wVar 2) (wVar 6)) (wBin dMul (wVar 3) (wVar 8))), (wBin dAdd (wBin dMul (wVar 2) (wVar 7)) (wBin dMul (wVar 3) (wVar 9)))]), (wTup [(wBin dAdd (wBin dMul (wVar 4) (wVar 6)) (wBin dMul (wVar 5) (wVar 8))), (wBin dAdd (wBin dMul (wVar 4) (wVar 7)) (wBin dMul (wVar 5) (wVar 9)))])]))))
/-- turn_of(terms), slots 0 terms, 1 found, 2 term; level 3 -/
def w_turn_of : WS := (wSeq (wIfS (wOr (wNot (wTst (wUn (dIsTys [.list, .tuple]) (wVar 0)))) (wNot (wTst (wUn dAll (wFrz (wLc (wVar 0) (.nm 2) [2] wYes (wCall sp_is_number [.v (wVar 2)]))))))) (wRaise (Str.ofString "NoRow") (Str.ofString "found") (wVar 0)) wNext)
    (wSeq (wAsg (wC (.tup [.tup [.int 1, .int 0], .tup [.int 0, .int 1]])) (.nm 1))
    (wSeq (wFor (wVar 0) (.nm 2) (wAsg (wCall sp_product [.v (wVar 1), .v (wTup [(wTup [(wVar 2), (wC (.int 1))]), (wTup [(wC (.int 1)), (wC (.int 0))])])]) (.nm 1)))
    (wRet (wVar 1)))))
/-- common(one, other), slots 0 one, 1 other; level 1 -/
def w_common : WS := (wSeq (wAsg (wUn dAbs (wVar 0)) (.nm 0))
    (wSeq (wAsg (wUn dAbs (wVar 1)) (.nm 1))
    (wSeq (wWhile (wTst (wBin dNe (wVar 1) (wC (.int 0)))) (wPar 0 1 (wVar 1) (wBin dMod (wVar 0) (wVar 1))))
    (wRet (wVar 0)))))
/-- made(top, bottom), slots 0 top, 1 bottom, 2 by; level 2 -/
def w_made : WS := (wSeq (wAsg (wCall sp_common [.v (wVar 0), .v (wVar 1)]) (.nm 2))
    (wSeq (wIfS (wTst (wBin dLt (wVar 1) (wC (.int 0)))) (wAsg (wUn dNeg (wVar 2)) (.nm 2)) wNext)
    (wRet (wTup [(wBin dFdiv (wVar 0) (wVar 2)), (wBin dFdiv (wVar 1) (wVar 2))]))))
/-- fraction_of(row), slots 0 row, 1 top, 2 other, 3 bottom, 4 more; level 4 -/
def w_fraction_of : WS := (wSeq (wDrop (wCall sp_need_row [.v (wVar 0)]))
    (wSeq (wAsg (wCall sp_turn_of [.v (wVar 0)]) (.tp [(.tp [(.nm 1), (.nm 2)]), (.tp [(.nm 3), (.nm 4)])]))
    (wRet (wCall sp_made [.v (wVar 1), .v (wVar 3)]))))
/-- row_at(way), slots 0 way, 1 row*, 2 letter, 3 many; level 1 -/
def w_row_at : WS := (wSeq (wIfS (wTst (wBin dEq (wUn dLen (wVar 0)) (wC (.int 0)))) (wRet (wFrz (wLst [(wC (.int 1))]))) wNext)
    (wSeq (wAsgO (wLc (wVar 0) (.tp [(.nm 2), (.nm 3)]) [2, 3] wYes (wVar 3)) 1)
    (wSeq (wSetN 1 (wUn dNeg (wC (.int 1))) (wBin dAdd (wIxO 1 (wUn dNeg (wC (.int 1)))) (wC (.int 1))))
    (wRet (wIf (wTst (wBin dEq (wBin dIx (wBin dIx (wVar 0) (wC (.int 0))) (wC (.int 0))) (wC (.str (Str.ofString "R"))))) (wVar 1) (wFrz (wStarR (wC (.int 0)) (wVar 1))))))))
/-- is_fraction(thing), slots 0 thing; level 2 -/
def w_is_fraction : WS := (wSeq (wIfS (wOr (wNot (wTst (wUn (dIsTy .tuple) (wVar 0)))) (wOr (wTst (wBin dNe (wUn dLen (wVar 0)) (wC (.int 2)))) (wOr (wNot (wTst (wCall sp_is_number [.v (wBin dIx (wVar 0) (wC (.int 0)))]))) (wNot (wTst (wCall sp_is_number [.v (wBin dIx (wVar 0) (wC (.int 1)))])))))) (wRet (wC (.bl false))) wNext)
    (wRet (wAndV (wBin dGe (wBin dIx (wVar 0) (wC (.int 1))) (wC (.int 1))) (wBin dEq (wCall sp_common [.v (wBin dIx (wVar 0) (wC (.int 0))), .v (wBin dIx (wVar 0) (wC (.int 1)))]) (wC (.int 1))))))
/-- need_fraction(thing), slots 0 thing; level 3 -/
def w_need_fraction : WS := (wIfS (wNot (wTst (wCall sp_is_fraction [.v (wVar 0)]))) (wRaise (Str.ofString "NoFraction") (Str.ofString "found") (wVar 0)) wNext)
/-- floor_row(fraction), slots 0 fraction, 1 top, 2 bottom, 3 found*, 4 term, 5 left; level 4 -/
def w_floor_row : WS := (wSeq (wDrop (wCall sp_need_fraction [.v (wVar 0)]))
    (wSeq (wAsg (wVar 0) (.tp [(.nm 1), (.nm 2)]))
    (wSeq (wAsgO (wLst []) 3)
    (wSeq (wWhile (wTst (wBin dNe (wVar 2) (wC (.int 0)))) (wSeq (wAsg (wDivmod (wVar 1) (wVar 2)) (.tp [(.nm 4), (.nm 5)]))
    (wSeq (wApp 3 (wVar 4))
    (wPar 1 2 (wVar 2) (wVar 5)))))
    (wRetS 3)))))
/-- runs_of(fraction), slots 0 fraction, 1 row*, 2 found*, 3 at, 4 many; level 5 -/
def w_runs_of : WS := (wSeq (wAsgO (wCallO sp_floor_row [.v (wVar 0)]) 1)
    (wSeq (wSetN 1 (wUn dNeg (wC (.int 1))) (wBin dSub (wIxO 1 (wUn dNeg (wC (.int 1)))) (wC (.int 1))))
    (wSeq (wAsgO (wLst []) 2)
    (wSeq (wForS (wEnum (wVar 1)) (.tp [(.nm 3), (.nm 4)]) (wIfS (wTst (wBin dGt (wVar 4) (wC (.int 0)))) (wApp 2 (wTup [(wIf (wTst (wBin dEq (wBin dMod (wVar 3) (wC (.int 2))) (wC (.int 0)))) (wC (.str (Str.ofString "R"))) (wC (.str (Str.ofString "L")))), (wVar 4)])) wNext))
    (wRetS 2)))))
/-- turned_of(fraction), slots 0 fraction; level 6 -/
def w_turned_of : WS := (wRet (wCall sp_fraction_of [.v (wCall sp_row_at [.v (wFrz (wRev (wFrz (wCallO sp_runs_of [.v (wVar 0)]))))])]))
/-- fraction_numbered(number), slots 0 number, 1 way*, 2 digits*, 3 digit, 4 letter; level 5 -/
def w_fraction_numbered : WS := (wSeq (wIfS (wNot (wTst (wCall sp_is_whole [.v (wVar 0), .v (wC (.int 1)), .v (wC (.int 999999999999999999999999999999))]))) (wRaise (Str.ofString "NoNumber") (Str.ofString "found") (wVar 0)) wNext)
    (wSeq (wParOO 1 2 (wLst []) (wLst []))
    (wSeq (wWhile (wTst (wBin dGt (wVar 0) (wC (.int 1)))) (wSeq (wApp 2 (wBin dMod (wVar 0) (wC (.int 2))))
    (wAsg (wBin dFdiv (wVar 0) (wC (.int 2))) (.nm 0))))
    (wSeq (wFor (wFrz (wRev (wVar 2))) (.nm 3) (wSeq (wAsg (wIf (wTst (wBin dEq (wVar 3) (wC (.int 1)))) (wC (.str (Str.ofString "R"))) (wC (.str (Str.ofString "L")))) (.nm 4))
    (wIfS (wAnd (wNeO 1) (wTst (wBin dEq (wBin dIx (wIxO 1 (wUn dNeg (wC (.int 1)))) (wC (.int 0))) (wVar 4)))) (wSetN 1 (wUn dNeg (wC (.int 1))) (wTup [(wVar 4), (wBin dAdd (wBin dIx (wIxO 1 (wUn dNeg (wC (.int 1)))) (wC (.int 1))) (wC (.int 1)))])) (wApp 1 (wTup [(wVar 4), (wC (.int 1))])))))
    (wRet (wCall sp_fraction_of [.v (wCall sp_row_at [.v (wVar 1)])]))))))
/-- twos(number), slots 0 number; level 7 -/
def w_twos : WS := (wSeq (wIfS (wNot (wTst (wCall sp_is_whole [.v (wVar 0), .v (wC (.int 0)), .v (wC (.int 99999999999999999999999999999))]))) (wRaise (Str.ofString "NoNumber") (Str.ofString "found") (wVar 0)) wNext)
    (wRet (wBin dIx (wCall sp_turned_of [.v (wCore (wCall sp_fraction_numbered [.v (wBin dAdd (wVar 0) (wC (.int 1)))]))]) (wC (.int 0)))))
/-- need_above(fraction), slots 0 fraction; level 3 -/
def w_need_above : WS := (wIfS (wOr (wNot (wTst (wCall sp_is_fraction [.v (wVar 0)]))) (wTst (wBin dLe (wBin dIx (wVar 0) (wC (.int 0))) (wC (.int 0))))) (wRaise (Str.ofString "NoFraction") (Str.ofString "found") (wVar 0)) wNext)
/-- turned(fraction), slots 0 fraction; level 7 -/
def w_turned : WS := (wSeq (wDrop (wCall sp_need_above [.v (wVar 0)]))
    (wRet (wCall sp_turned_of [.v (wCore (wVar 0))])))
/-- _law_called(door, ask, by_name), slots 0 door, 1 ask, 2 by_name; level 8 -/
def w__law_called : WS := (wSeq (wIfS (wTst (wBin dEq (wVar 0) (wC (.int 0)))) (wRet (wIf (wTst (wVar 2)) (wCallK sp_turned [(wBin dIx (wVar 1) (wC (.int 0)))] [] [0]) (wCall sp_turned [.v (wBin dIx (wVar 1) (wC (.int 0)))]))) wNext)
    (wRet (wIf (wTst (wVar 2)) (wCallK sp_twos [(wBin dIx (wVar 1) (wC (.int 0)))] [] [0]) (wCall sp_twos [.v (wBin dIx (wVar 1) (wC (.int 0)))]))))
/-- _law_same(given, due), slots 0 given, 1 due, 2 k; level 6 -/
def w__law_same (sp__law_same : FS) : WS := (wSeq (wIfS (wOr (wTst (wUn dIsN (wVar 1))) (wTst (wUn (dIsTy .bool) (wVar 1)))) (wRet (wIf (wTst (wUn dIsN (wVar 1))) (wUn dIsN (wVar 0)) (wAndV (wUn (dIsTy .bool) (wVar 0)) (wBin dEq (wBin dIs (wVar 0) (wC (.bl true))) (wBin dIs (wVar 1) (wC (.bl true))))))) wNext)
    (wSeq (wIfS (wTst (wUn (dIsTy .int) (wVar 1))) (wRet (wAndV (wUn (dIsTy .int) (wVar 0)) (wAndV (wNotV (wUn (dIsTy .bool) (wVar 0))) (wBin dEq (wBin dSub (wUn dInt (wVar 0)) (wVar 1)) (wC (.int 0)))))) wNext)
    (wSeq (wIfS (wTst (wUn (dIsTy .str) (wVar 1))) (wRet (wAndV (wUn (dIsTy .str) (wVar 0)) (wAndV (wBin dEq (wUn dLen (wVar 0)) (wUn dLen (wVar 1))) (wBin dEq (wFrz (wLcR [(wUn dLen (wVar 1))] (.nm 2) [2] (wTst (wBin dNe (wFrz (wCut (wVar 0) (wP (wVar 2)) (wP (wBin dAdd (wVar 2) (wC (.int 1)))))) (wBin dIx (wVar 1) (wVar 2)))) (wVar 2))) (wFrz (wLst [])))))) wNext)
    (wSeq (wIfS (wOr (wTst (wBin dNe (wUn (dIsTy .list) (wVar 0)) (wUn (dIsTy .list) (wVar 1)))) (wTst (wBin dNe (wUn (dIsTy .tuple) (wVar 0)) (wUn (dIsTy .tuple) (wVar 1))))) (wRet (wC (.bl false))) wNext)
    (wRet (wAndV (wBin dEq (wUn dLen (wVar 0)) (wUn dLen (wVar 1))) (wBin dEq (wFrz (wLcR [(wUn dLen (wVar 1))] (.nm 2) [2] (wNot (wTst (wCall sp__law_same [.v (wBin dIx (wVar 0) (wVar 2)), .v (wBin dIx (wVar 1) (wVar 2))]))) (wVar 2))) (wFrz (wLst [])))))))))
/-- _law_numbered(number), slots 0 number, 1 way, 2 rest, 3 digits, 4 turn, 5 digit, 6 letter; level 1 -/
def w__law_numbered : WS := (wSeq (wPar3 1 2 3 (wFrz (wLst [])) (wVar 0) (wFrz (wLst [])))
    (wSeq (wForR [(wC (.int 100))] (.nm 4) (wIfS (wTst (wBin dGt (wVar 2) (wC (.int 1)))) (wPar 3 2 (wFrz (wCat (wFrz (wLst [(wBin dMod (wUn dInt (wVar 2)) (wC (.int 2)))])) (wVar 3))) (wBin dFdiv (wVar 2) (wC (.int 2)))) wNext))
    (wSeq (wFor (wVar 3) (.nm 5) (wSeq (wAsg (wBin dIxS (wC (.str (Str.ofString "LR"))) (wVar 5)) (.nm 6))
    (wAsg (wIf (wAnd (wTst (wBin dNe (wVar 1) (wFrz (wLst [])))) (wTst (wBin dEq (wBin dIx (wBin dIx (wVar 1) (wUn dNeg (wC (.int 1)))) (wC (.int 0))) (wVar 6)))) (wFrz (wCat (wFrz (wCut (wVar 1) wNoP (wP (wUn dNeg (wC (.int 1)))))) (wFrz (wLst [(wTup [(wVar 6), (wBin dAdd (wBin dIx (wBin dIx (wVar 1) (wUn dNeg (wC (.int 1)))) (wC (.int 1))) (wC (.int 1)))])])))) (wFrz (wCat (wVar 1) (wFrz (wLst [(wTup [(wVar 6), (wC (.int 1))])]))))) (.nm 1))))
    (wRet (wVar 1)))))
/-- _law_row(top, base), slots 0 top, 1 base, 2 found*, 3 whole; level 1 -/
def w__law_row : WS := (wSeq (wAsgO (wLst []) 2)
    (wSeq (wWhile (wTst (wBin dGt (wVar 1) (wC (.int 0)))) (wSeq (wAsg (wBin dFdiv (wVar 0) (wVar 1)) (.nm 3))
    (wSeq (wApp 2 (wVar 3))
    (wPar 0 1 (wVar 1) (wBin dSub (wVar 0) (wBin dMul (wVar 3) (wVar 1)))))))
    (wRetS 2)))
/-- _law_steps(fraction), slots 0 fraction, 1 row*, 2 found*, 3 k; level 2 -/
def w__law_steps : WS := (wSeq (wParOO 1 2 (wCallO sp__law_row [.v (wBin dIx (wVar 0) (wC (.int 0))), .v (wBin dIx (wVar 0) (wC (.int 1)))]) (wLst []))
    (wSeq (wSetN 1 (wUn dNeg (wC (.int 1))) (wBin dSub (wIxO 1 (wUn dNeg (wC (.int 1)))) (wC (.int 1))))
    (wSeq (wForR [(wLenO 1)] (.nm 3) (wIfS (wTst (wBin dGt (wIxO 1 (wVar 3)) (wC (.int 0)))) (wApp 2 (wTup [(wIf (wTst (wBin dEq (wBin dMod (wUn dInt (wVar 3)) (wC (.int 2))) (wC (.int 0)))) (wC (.str (Str.ofString "R"))) (wC (.str (Str.ofString "L")))), (wIxO 1 (wVar 3))])) wNext))
    (wRetS 2))))
/-- _law_no_fractions(), slots ; level 1 -/
def w__law_no_fractions : WS := (wRetO (wLst [(wC .non), (wC (.int 7)), (wC (.str (Str.ofString "1/2"))), (wFrz (wLst [(wC (.int 1)), (wC (.int 2))])), (wTup [(wC (.int 1))]), (wTup [(wC (.int 1)), (wC (.int 2)), (wC (.int 3))]), (wTup [(wC (.int 2)), (wC (.int 4))]), (wTup [(wC (.int 1)), (wC (.int 0))]), (wTup [(wC (.int 1)), (wUn dNeg (wC (.int 2)))]), (wTup [(wC (.int 0)), (wC (.int 2))]), (wTup [(wC (.bl true)), (wC (.int 2))]), (wTup [(wC (.int 1)), (wC (.bl true))]), (wTup [(wC (.str (Str.ofString "1"))), (wC (.int 2))]), (wDct (Str.ofString "a") 1), (wFrz (wLst [])), (wTup [(wC .non), (wC (.int 1))]), (wTup [(wTup [(wC (.int 1)), (wC (.int 2))]), (wC (.int 1))])]))
/-- _law_cell_right(box), slots 0 box*, 1 by_name, 2 turn, 3 fraction, 4 due, 5 known, 6 number, 7 value, 8 letter, 9 many; level 11 -/
def w__law_cell_right : WS := (wSeq (wAsg (wBin dEq (wCall sp__law_take [.s 0, .v (wC (.int 2))]) (wC (.int 1))) (.nm 1))
    (wSeq (wForR [(wC (.int 3))] (.nm 2) (wSeq (wAsg (wCall sp__law_above [.s 0, .v (wBin dIx (wFrz (wLst [(wC (.int 6)), (wC (.int 30))])) (wCall sp__law_take [.s 0, .v (wC (.int 2))]))]) (.nm 3))
    (wSeq (wAsg (wCall sp__law_at [.v (wFrz (wRev (wFrz (wCallO sp__law_steps [.v (wVar 3)]))))]) (.nm 4))
    (wSeq (wIfS (wOr (wNot (wTst (wCall sp__law_told_same [.v (wC (.int 0)), .v (wFrz (wLst [(wVar 3)])), .v (wVar 4), .v (wVar 1)]))) (wNot (wTst (wCall sp__law_told_same [.v (wC (.int 0)), .v (wFrz (wLst [(wVar 4)])), .v (wVar 3), .v (wNotV (wVar 1))])))) (wRet (wC (.bl false))) wNext)
    (wIfS (wTst (wBin dNe (wUn dSum (wFrz (wLc (wFrz (wCallO sp__law_steps [.v (wVar 4)])) (.tp [(.nm 8), (.nm 9)]) [8, 9] wYes (wVar 9)))) (wUn dSum (wFrz (wLc (wFrz (wCallO sp__law_steps [.v (wVar 3)])) (.tp [(.nm 8), (.nm 9)]) [8, 9] wYes (wVar 9)))))) (wRet (wC (.bl false))) wNext)))))
    (wSeq (wAsg (wFrz (wCallO sp__law_twos [.v (wC (.int 400))])) (.nm 5))
    (wSeq (wFor (wFrz (wCut (wFrz (wCallO sp__law_mixed [.s 0, .v (wFrz (wListR [(wC (.int 400))]))])) wNoP (wP (wC (.int 5))))) (.nm 6) (wSeq (wIfS (wNot (wTst (wCall sp__law_told_same [.v (wC (.int 1)), .v (wFrz (wLst [(wVar 6)])), .v (wBin dIx (wVar 5) (wVar 6)), .v (wVar 1)]))) (wRet (wC (.bl false))) wNext)
    (wIfS (wAnd (wTst (wBin dGt (wVar 6) (wC (.int 0)))) (wNot (wTst (wCall sp__law_same [.v (wCall sp_turned [.v (wCall sp_fraction_numbered [.v (wVar 6)])]), .v (wCall sp__law_low [.v (wBin dIx (wVar 5) (wBin dSub (wVar 6) (wC (.int 1)))), .v (wBin dIx (wVar 5) (wVar 6))])])))) (wRet (wC (.bl false))) wNext)))
    (wSeq (wAsg (wBin dIx (wFrz (wLst [(wCall sp__law_digits [.s 0, .v (wC (.int 9))]), (wBin dAdd (wBin dPow (wC (.int 10)) (wC (.int 28))) (wCall sp__law_digits [.s 0, .v (wC (.int 28))])), (wBin dSub (wBin dSub (wBin dPow (wC (.int 10)) (wC (.int 29))) (wC (.int 1))) (wCall sp__law_take [.s 0, .v (wC (.int 3))]))])) (wCall sp__law_take [.s 0, .v (wC (.int 3))])) (.nm 6))
    (wSeq (wAsg (wCall sp__law_at [.v (wFrz (wRev (wCall sp__law_numbered [.v (wBin dAdd (wVar 6) (wC (.int 1)))])))]) (.nm 4))
    (wSeq (wIfS (wNot (wTst (wCall sp__law_told_same [.v (wC (.int 1)), .v (wFrz (wLst [(wVar 6)])), .v (wBin dIx (wVar 4) (wC (.int 0))), .v (wNotV (wVar 1))]))) (wRet (wC (.bl false))) wNext)
    (wSeq (wIfS (wAnd (wTst (wBin dGt (wVar 6) (wC (.int 0)))) (wNot (wTst (wCall sp__law_told_same [.v (wC (.int 1)), .v (wFrz (wLst [(wIf (wTst (wBin dLt (wVar 6) (wBin dPow (wC (.int 10)) (wC (.int 28))))) (wBin dAdd (wBin dMul (wC (.int 2)) (wVar 6)) (wC (.int 1))) (wVar 6))])), .v (wBin dIx (wVar 4) (wC (.int 0))), .v (wVar 1)])))) (wRet (wC (.bl false))) wNext)
    (wSeq (wFor (wFrz (wCut (wFrz (wCallO sp__law_mixed [.s 0, .v (wFrz (wCat (wFrz (wCallO sp__law_no_fractions [])) (wFrz (wLst [(wTup [(wC (.int 0)), (wC (.int 1))]), (wTup [(wUn dNeg (wC (.int 1))), (wC (.int 2))])]))))])) wNoP (wP (wC (.int 3))))) (.nm 7) (wIfS (wNot (wTst (wCall sp__law_refused [.v (wC (.int 0)), .v (wFrz (wLst [(wVar 7)])), .v (wC (.str (Str.ofString "fraction"))), .v (wC (.int 0)), .v (wVar 1)]))) (wRet (wC (.bl false))) wNext))
    (wSeq (wFor (wFrz (wCut (wFrz (wCallO sp__law_mixed [.s 0, .v (wFrz (wLst [(wUn dNeg (wC (.int 1))), (wC .non), (wC (.bl true)), (wC (.str (Str.ofString "3"))), (wFrz (wLst [(wC (.int 3))])), (wTup [(wC (.int 3))]), (wDct (Str.ofString "a") 1), (wBin dPow (wC (.int 10)) (wC (.int 29)))]))])) wNoP (wP (wC (.int 3))))) (.nm 7) (wIfS (wNot (wTst (wCall sp__law_refused [.v (wC (.int 1)), .v (wFrz (wLst [(wVar 7)])), .v (wC (.str (Str.ofString "number"))), .v (wC (.int 0)), .v (wNotV (wVar 1))]))) (wRet (wC (.bl false))) wNext))
    (wRet (wC (.bl true)))))))))))))
/-- _law_box(great), slots 0 great; level 1 -/
def w__law_box : WS := (wRetO (wLst [(wUn dAbs (wVar 0)), (wBin dGe (wUn dAbs (wVar 0)) (wBin dPow (wC (.int 10)) (wC (.int 18)))), (wBin dMod (wUn dInt (wUn dAbs (wVar 0))) (wC (.int 2147483629))), (wC (.int 0))]))
/-- _law_cell(script, k), slots 0 script, 1 k; level 1 -/
def w__law_cell : WS := (wRet (wIf (wTst (wBin dLt (wVar 1) (wUn dLen (wVar 0)))) (wBin dIx (wVar 0) (wVar 1)) (wBin dAdd (wBin dMul (wC (.int 8521)) (wVar 1)) (wBin dMod (wUn dInt (wUn dSum (wFrz (wCut (wVar 0) wNoP (wP (wC (.int 1))))))) (wC (.int 1000003))))))
/-- law(script), slots 0 script, 1 k; level 12 -/
def w_law : WS := (wSeq (wForR [(wBin dMax (wC (.int 2)) (wBin dMin (wC (.int 4)) (wUn dLen (wVar 0))))] (.nm 1) (wIfS (wNot (wTst (wCallT sp__law_cell_right (wCallO sp__law_box [.v (wCall sp__law_cell [.v (wVar 0), .v (wVar 1)])])))) (wRet (wC (.bl false))) wNext))
    (wRet (wC (.bl true))))
end K03

namespace K03
open PySem DW CA
theorem kp__law_take : Keeps0 4 w__law_take sp__law_take := kpTake (by decide) (by decide) (by decide)
theorem kp__law_box : Keeps0 1 w__law_box sp__law_box := kpBox
theorem kp__law_cell : Keeps0 2 w__law_cell sp__law_cell := kpCell (by decide)
theorem kp__law_mixed : Keeps0 4 w__law_mixed sp__law_mixed := kpMixed
theorem kp__law_digits : Keeps0 4 w__law_digits sp__law_digits := kpDigits
theorem kp_is_number : Keeps0 1 w_is_number sp_is_number := kpNum
theorem kp__law_same : ∀ n, Keeps0 3 (w__law_same (spr__law_same n)) (spr__law_same (n + 1)) := kprSame
theorem kp_law : Keeps0 2 w_law sp_law := kpLaw (by decide)
theorem kp_common : Keeps0 2 w_common sp_common := by
  rintro dvs k ⟨a, b, rfl, h⟩
  refine ⟨fun m ds => ∃ x y : Int, ds = [some (.val (.int x)), some (.val (.int y))] ∧ 0 ≤ x ∧ 0 ≤ y ∧ Int.gcd x y = Int.gcd a b ∧ m = y.toNat, ⟨_, _, _, rfl, ?_, ?_, ?_, rfl⟩, ?_⟩
  · split <;> omega
  · split <;> omega
  · rw [abs_eq, abs_eq, gcd_abs]
  · rintro m ds ⟨x, y, rfl, hx, hy, hg, rfl⟩
    refine ⟨⟨shp_int _, shp_int _⟩, ite_both (fun g => ?_) (fun g => ?_)⟩
    · have g := ne_int g
      have r := fmod_rng (a := x) (b := y) (by omega)
      exact ⟨g, _, by omega, _, _, rfl, hy, r.1, (gcd_step x y hy).trans hg, rfl⟩
    · have g := ne_int' g
      subst g
      have e : x = (Int.gcd a b : Int) := by
        rw [← hg, Int.gcd_zero_right]
        omega
      show k (.ret (.val (.int x))) _
      rw [e]
      exact h
/-- what the lowest form of a / b is -/
theorem low_pos {a b : Int} (hb : 0 < b) : fr (Rat.divInt a b) = pr (a.fdiv (Int.gcd a b)) (b.fdiv (Int.gcd a b)) := by
  have g0 : 0 < Int.gcd a b := Int.gcd_pos_of_ne_zero_right a (by omega)
  show D.tup [.int (Rat.divInt a b).num, .int ((Rat.divInt a b).den : Int)] = _
  rw [Rat.num_divInt, Rat.den_divInt, if_neg (by omega), Int.sign_eq_one_of_pos hb, Int.one_mul, Int.gcd_comm, Int.fdiv_eq_ediv_of_nonneg a (by omega), Int.fdiv_eq_ediv_of_nonneg b (by omega)]
  have e : ((b.natAbs / Int.gcd a b : Nat) : Int) = b / (Int.gcd a b : Int) := by
    rw [Int.natCast_ediv, show ((b.natAbs : Nat) : Int) = b by omega]
  rw [e]
theorem low_neg {a b : Int} (hb : b < 0) : fr (Rat.divInt a b) = pr ((-a).fdiv (Int.gcd a b)) ((-b).fdiv (Int.gcd a b)) := by
  rw [← Rat.neg_divInt_neg, low_pos (by omega), Int.gcd_neg, Int.neg_gcd]
theorem kp__law_low : Keeps0 4 w__law_low sp__law_low := by
  rintro dvs k ⟨a, b, rfl, hb0, hb, h⟩
  refine ⟨fun m ds => ∃ x y : Int, ds = [some (.val (.int a)), some (.val (.int b)), some (.val (.int x)), some (.val (.int y))] ∧ 0 ≤ x ∧ 0 ≤ y ∧ Int.gcd x y = Int.gcd a b ∧ m = y.toNat, ⟨_, _, _, rfl, ?_, ?_, ?_, rfl⟩, ?_⟩
  · split <;> omega
  · split <;> omega
  · rw [abs_eq, abs_eq, gcd_abs]
  · rintro m ds ⟨x, y, rfl, hx, hy, hg, rfl⟩
    refine ite_both (fun g => ?_) (fun g => ?_)
    · have g := is_lt g
      have r := fmod_rng (a := x) (b := y) (by omega)
      exact ⟨by omega, _, by omega, _, _, rfl, hy, r.1, (gcd_step x y hy).trans hg, rfl⟩
    · have g := no_lt g
      have g : y = 0 := by omega
      subst g
      have e : x = (Int.gcd a b : Int) := by
        rw [← hg, Int.gcd_zero_right]
        omega
      subst e
      have g0 : 0 < Int.gcd a b := Int.gcd_pos_of_ne_zero_right a hb0
      have o : DivOk (Int.gcd a b : Int) := divOk (by omega) (gcd_bd hb0 hb)
      refine ite_both (fun q => ?_) (fun q => ?_)
      · have q := is_lt q
        rw [low_pos q] at h
        exact ⟨o, o, h⟩
      · have q := no_lt q
        rw [low_neg (by omega)] at h
        exact ⟨o, o, h⟩
theorem dvd_bd {a b : Int} {n : Nat} (hb : b ≠ 0) (d : a ∣ b) (h : Bd n b) : Bd n a := h.le (Nat.le_of_dvd (by omega) (Int.natAbs_dvd_natAbs.mpr d))
/-- the lowest form is no greater -/
theorem bq_div {a b : Int} {n : Nat} (hb : b ≠ 0) (ha : Bd n a) (h : Bd n b) : Bq n (Rat.divInt a b) := by
  have g0 : 0 < Int.gcd b a := Int.gcd_pos_of_ne_zero_left a hb
  constructor
  · rw [Rat.num_divInt]
    refine ha.le ?_
    have e : (b.sign * a / (Int.gcd b a : Int)).natAbs = a.natAbs / Int.gcd b a := by
      have d : (Int.gcd b a : Int) ∣ a := Int.gcd_dvd_right ..
      obtain ⟨c, e⟩ := d
      have e2 : b.sign * a / (Int.gcd b a : Int) = b.sign * c := by
        have : b.sign * a = (Int.gcd b a : Int) * (b.sign * c) := by
          conv => lhs; rw [e]
          grind
        rw [this]
        exact Int.mul_ediv_cancel_left _ (by omega)
      have e3 : a.natAbs = Int.gcd b a * c.natAbs := by
        conv => lhs; rw [e]
        rw [Int.natAbs_mul]
        rfl
      rw [e2, Int.natAbs_mul, Int.natAbs_sign_of_ne_zero hb, Nat.one_mul, e3, Nat.mul_div_cancel_left _ g0]
    rw [e]
    exact Nat.div_le_self _ _
  · rw [Rat.den_divInt, if_neg hb]
    refine h.le ?_
    show b.natAbs / Int.gcd b a ≤ b.natAbs
    exact Nat.div_le_self _ _
theorem Bq.mono {n m : Nat} {q : Rat} (h : Bq n q) (l : n ≤ m) : Bq m q := ⟨h.1.mono l, h.2.mono l⟩
theorem back_item {f : Int} {r : List Int} (hf : -13 ≤ f ∧ f ≤ 13) (hr : ∀ t ∈ r, 1 ≤ t ∧ t ≤ 13) {i : Nat} {t : Int} (h : ((f :: r).dropLast.reverse)[i]? = some t) : i < r.length ∧ (-13 ≤ t ∧ t ≤ 13) ∧ (i + 1 < r.length → 1 ≤ t) := by
  have hi := (List.getElem?_eq_some_iff.mp h).1
  rw [List.length_reverse, List.length_dropLast] at hi
  have hi : i < r.length := by simpa using hi
  have hi2 : i < (f :: r).dropLast.length := by
    rw [List.length_dropLast]
    simpa using hi
  rw [List.getElem?_reverse hi2, List.length_dropLast] at h
  have e : (f :: r).length - 1 - 1 - i = r.length - 1 - i := by simp
  rw [e, List.getElem?_dropLast, if_pos (by simp; omega)] at h
  refine ⟨hi, ?_⟩
  by_cases z : r.length - 1 - i = 0
  · rw [z] at h
    have h : f = t := Option.some.inj h
    subst h
    exact ⟨hf, fun q => by omega⟩
  · obtain ⟨j, ej⟩ : ∃ j, r.length - 1 - i = j + 1 := ⟨r.length - 1 - i - 1, by omega⟩
    rw [ej] at h
    have h : r[j]? = some t := h
    have m := hr t (List.mem_of_getElem? h)
    exact ⟨⟨by omega, by omega⟩, fun _ => m.1⟩
theorem pow16 {i : Nat} (h : i ≤ 15) : (16 : Int) ^ i ≤ 2 ^ 60 := by
  have : 16 ^ i ≤ 16 ^ 15 := Nat.pow_le_pow_right (by decide) h
  have e : (16 : Nat) ^ 15 = 2 ^ 60 := by decide
  rw [e] at this
  exact_mod_cast this
theorem kp__law_of_row : Keeps0 4 w__law_of_row sp__law_of_row := by
  rintro dvs k ⟨f, r, rfl, hf, hr, hl, h⟩
  have len : ((f :: r).map D.int).length = r.length + 1 := by rw [List.length_map]; rfl
  -- what row[-1] is
  obtain ⟨z, hz, zb⟩ : ∃ z, itemAt ((f :: r).map D.int) (-1) = some (.int z) ∧ ((-13 ≤ z ∧ z ≤ 13) ∧ (r ≠ [] → 1 ≤ z)) := by
    unfold itemAt
    rw [if_neg (by decide), len, if_pos (by omega)]
    have e : (-1 + ((r.length + 1 : Nat) : Int)).toNat = r.length := by omega
    rw [e, List.getElem?_map]
    cases r with
    | nil => exact ⟨f, rfl, hf, fun n => (n rfl).elim⟩
    | cons a l =>
      have hi : (a :: l).length < (f :: a :: l).length := by simp
      refine ⟨(f :: a :: l)[(a :: l).length], by rw [List.getElem?_eq_getElem hi]; rfl, ?_⟩
      have m : (f :: a :: l)[(a :: l).length] ∈ a :: l := by
        have : (f :: a :: l)[(a :: l).length]'hi = (a :: l)[l.length]'(by simp) := by simp
        rw [this]
        exact List.getElem_mem _
      have := hr _ m
      exact ⟨⟨by omega, by omega⟩, fun _ => this.1⟩
  show match itemAt ((f :: r).map D.int) (-1) with | some v => _ | none => False
  rw [hz]
  -- the loop, whatever it walks
  have go : ∀ (xs : List D) (P : Post), (∀ i d, xs[i]? = some d → ∃ t, d = .int t ∧ i < r.length ∧ (-13 ≤ t ∧ t ≤ 13) ∧ (i + 1 < r.length → 1 ≤ t)) → xs.length ≤ r.length →
      (∀ t b x, 1 ≤ b → b ≤ 2 ^ 60 → t ≤ 2 ^ 60 → -2 ^ 60 ≤ t → P.nx [some (.val (.lst ((f :: r).map .int))), some (.val (.int t)), some (.val (.int b)), x]) →
      forI (.nm 3) (wPar 1 2 (wBin dAdd (wBin dMul (wVar 3) (wVar 1)) (wVar 2)) (wVar 1)) P xs [some (.val (.lst ((f :: r).map .int))), some (.val (.int z)), some (.val (.int 1)), none] := fun xs P hx hxl hP => by
    refine ⟨fun i ds => ∃ (t b : Int) (x : Option DV), ds = [some (.val (.lst ((f :: r).map .int))), some (.val (.int t)), some (.val (.int b)), x] ∧ (1 ≤ b ∧ b ≤ 16 ^ (i + 1)) ∧ (t ≤ 16 ^ (i + 1) ∧ -16 ^ (i + 1) ≤ t) ∧ (i < r.length → 1 ≤ t),
      ⟨z, 1, none, rfl, by decide, ⟨by show z ≤ 16; omega, by show -16 ≤ z; omega⟩, fun q => zb.2 fun e => by rw [e] at q; exact absurd q (by decide)⟩, ?_, ?_⟩
    · rintro i d ds hi ⟨t, b, x, rfl, ⟨b0, b1⟩, ⟨t1, t2⟩, tp⟩
      obtain ⟨u, rfl, il, ur, up⟩ := hx i d hi
      have tp := tp il
      have p16 := pow16 (i := i + 1) (by omega)
      refine ⟨mulOk (n := 10) (m := 70) (.of (by omega) (by omega)) (.of (by omega) (by omega)), _, _, _, rfl, ⟨tp, ?_⟩, ⟨?_, ?_⟩, fun q => ?_⟩
      · rw [Int.pow_succ]
        omega
      · have := Int.mul_le_mul_of_nonneg_right ur.2 (show 0 ≤ t by omega)
        rw [Int.pow_succ (16 : Int) (i + 1)]
        omega
      · have := Int.mul_le_mul_of_nonneg_right ur.1 (show 0 ≤ t by omega)
        rw [Int.pow_succ (16 : Int) (i + 1)]
        omega
      · have := Int.mul_le_mul_of_nonneg_right (up q) (show 0 ≤ t by omega)
        omega
    · rintro ds ⟨t, b, x, rfl, ⟨b0, b1⟩, ⟨t1, t2⟩, _⟩
      have p16 := pow16 (i := xs.length + 1) (by omega)
      exact hP t b x b0 (by omega) (by omega) (by omega)
  have fin : ∀ t b x, 1 ≤ b → b ≤ 2 ^ 60 → t ≤ 2 ^ 60 → -2 ^ 60 ≤ t → wRet (wCall sp__law_low [.v (wVar 1), .v (wVar 2)]) [some (.val (.lst ((f :: r).map .int))), some (.val (.int t)), some (.val (.int b)), x] (ends0 [.val (.lst ((f :: r).map .int))] k) := fun t b x b0 b1 t1 t2 => by
    have bb : Bd 61 b := .of (by omega) (by omega)
    exact ⟨List.nodup_nil, _, _, rfl, by omega, bb.mono (by decide), h _ ((bq_div (by omega) (Bd.of (n := 61) (by omega) (by omega)) bb).mono (by decide))⟩
  refine ite_both (fun g => ?_) (fun g => ?_)
  · refine go ((f :: r).map .int).dropLast.reverse _ (fun i d hi => ?_) ?_ ?_
    · rw [← List.map_dropLast, ← List.map_reverse, List.getElem?_map] at hi
      cases e : ((f :: r).dropLast.reverse)[i]? with
      | none => rw [e] at hi; cases hi
      | some t =>
        rw [e] at hi
        exact ⟨t, (Option.some.inj hi).symm, back_item hf hr e⟩
    · rw [List.length_reverse, List.length_dropLast, len]
      omega
    · exact fin
  · refine go [] _ (fun i d hi => by cases hi) (Nat.zero_le _) ?_
    exact fin
theorem three_of {x y z d : Int} (h0 : 0 ≤ d) (h1 : d < 3) : (d = 0 ∧ itemAt [D.int x, D.int y, D.int z] d = some (.int x)) ∨ (d = 1 ∧ itemAt [D.int x, D.int y, D.int z] d = some (.int y)) ∨ (d = 2 ∧ itemAt [D.int x, D.int y, D.int z] d = some (.int z)) := by
  have : d = 0 ∨ d = 1 ∨ d = 2 := by omega
  rcases this with rfl | rfl | rfl
  · exact .inl ⟨rfl, rfl⟩
  · exact .inr (.inl ⟨rfl, rfl⟩)
  · exact .inr (.inr ⟨rfl, rfl⟩)
theorem kp__law_fraction : Keeps0 6 w__law_fraction sp__law_fraction := by
  rintro dvs k ⟨p, f, n, rfl, hp, hf, hn, h⟩
  refine ⟨rfl, by simp [slotsOf], _, _, n, rfl, hp, by omega, by decide, by decide, fun d p1 d0 d1 hp1 => ?_⟩
  have t30 : (10 : Int) ^ f ≤ 10 ^ 30 := ten_pow hf
  refine ⟨⟨shp_int _, shp_int _⟩, ite_both (fun g => ?_) (fun g => ?_)⟩
  · refine ⟨rfl, by simp [slotsOf], _, _, _, rfl, hp1, by omega, by decide, by decide, fun e p2 e0 e1 hp2 => ?_⟩
    refine ⟨rfl, by simp [slotsOf], _, _, _, rfl, hp2, by omega, by decide, by decide, fun j p3 j0 j1 hp3 => ?_⟩
    have b2 : Bd 10 (1 + j) := .of (by omega) (by omega)
    exact ⟨List.nodup_nil, _, _, rfl, by omega, b2.mono (by decide), h _ _ ((bq_div (by omega) (Bd.of (by omega) (by omega)) b2).mono (by decide)) (hp3.mono (by omega))⟩
  · refine ⟨⟨shp_int _, shp_int _⟩, ite_both (fun g' => ?_) (fun g' => ?_)⟩
    · refine ⟨rfl, by simp [slotsOf], _, _, f, rfl, hp1, by omega, by omega, fun e p2 e0 e1 hp2 => ?_⟩
      refine ⟨rfl, by simp [slotsOf], _, _, _, rfl, hp2, by omega, by decide, by decide, fun j p3 j0 j1 hp3 => ?_⟩
      refine ⟨mulOk (n := 10) (m := 10) (.of (by decide) (by decide)) (.of (by omega) (by omega)), mulOk (n := 110) (m := 10) (.of (by omega) (by omega)) (.of (by omega) (by omega)), ?_⟩
      refine ⟨rfl, by simp [slotsOf], _, _, f, rfl, hp3, by omega, by omega, fun u p4 u0 u1 hp4 => ?_⟩
      have b2 : Bd 110 (1 + u) := .of (by omega) (by omega)
      have b1 : Bd 110 (e * (1 - 2 * j)) := Bd.mono (Bd.mul (n := 100) (m := 3) (.of (by omega) (by omega)) (.of (by omega) (by omega))) (by decide)
      exact ⟨List.nodup_nil, _, _, rfl, by omega, b2.mono (by decide), h _ _ ((bq_div (by omega) b1 b2).mono (by decide)) (hp4.mono (by omega))⟩
    · refine ⟨rfl, by simp [slotsOf], _, _, _, rfl, hp1, by omega, by decide, by decide, fun e p2 e0 e1 hp2 => ?_⟩
      obtain ⟨gr, g0, g1, hg⟩ : ∃ g : Int, 1 ≤ g ∧ g ≤ 12 ∧ itemAt [D.int 2, D.int 3, D.int 12] e = some (.int g) := by
        rcases three_of (x := 2) (y := 3) (z := 12) e0 e1 with ⟨_, q⟩ | ⟨_, q⟩ | ⟨_, q⟩
        · exact ⟨2, by decide, by decide, q⟩
        · exact ⟨3, by decide, by decide, q⟩
        · exact ⟨12, by decide, by decide, q⟩
      show match itemAt [D.int 2, D.int 3, D.int 12] e with | some v => _ | none => False
      rw [hg]
      refine ⟨rfl, by simp [slotsOf], _, _, _, rfl, hp2, by omega, by decide, by decide, fun s p3 s0 s1 hp3 => ?_⟩
      refine ⟨rfl, rfl, by simp [slotsOf], _, _, _, rfl, hp3, by omega, by decide, by decide, fun j p4 j0 j1 hp4 => ?_⟩
      obtain ⟨mm, m0, m1, hm⟩ : ∃ g : Int, 1 ≤ g ∧ g ≤ 14 ∧ itemAt [D.int 4, D.int 9, D.int 14] j = some (.int g) := by
        rcases three_of (x := 4) (y := 9) (z := 14) j0 j1 with ⟨_, q⟩ | ⟨_, q⟩ | ⟨_, q⟩
        · exact ⟨4, by decide, by decide, q⟩
        · exact ⟨9, by decide, by decide, q⟩
        · exact ⟨14, by decide, by decide, q⟩
      show match itemAt [D.int 4, D.int 9, D.int 14] j with | some v => _ | none => False
      rw [hm]
      refine ⟨by simp [slotsOf], _, _, _, rfl, hp4, by omega, by omega, by omega, fun c p5 c0 c1 hp5 => ?_⟩
      refine ⟨⟨⟨by decide, by decide⟩, by omega, by omega⟩, fun i ds => ∃ (r : List Int) (p : List D) (x : Option DV), ds = [some (.par p), some (.val (.int f)), some (.val (.int d)), some (.val (.int gr)), some (.own (((s - 3) :: r).map .int)), x] ∧ (∀ t ∈ r, 1 ≤ t ∧ t ≤ 13) ∧ r.length = i ∧ Bx (n + 5 + i) p,
        ⟨[], _, _, rfl, (fun t ht => by cases ht), rfl, hp5⟩, ?_, ?_⟩
      · rintro i q ds hi ⟨r, p, x, rfl, hr, hl, hp⟩
        obtain ⟨_, il⟩ := range_get hi
        refine ⟨rfl, rfl, by simp [slotsOf], _, _, _, rfl, hp, by omega, g0, by omega, fun v p' v0 v1 hp' => ?_⟩
        refine ⟨?_, r ++ [1 + v], p', some (.val q), ?_, fun t ht => ?_, by simp [hl], hp'⟩
        · show (((s - 3) :: r).map D.int).length < 10000000
          rw [List.length_map, List.length_cons]
          omega
        · have : ((s - 3) :: (r ++ [1 + v])).map D.int = ((s - 3) :: r).map D.int ++ [.int (1 + v)] := by simp
          rw [this]
          rfl
        · rcases List.mem_append.mp ht with z | z
          · exact hr t z
          · have : t = 1 + v := by simpa using z
            omega
      · rintro ds ⟨r, p, x, rfl, hr, hl, hp⟩
        have e : (rangeD 0 c).length = c.toNat := by simp [rangeD]
        rw [e] at hl hp
        exact ⟨List.nodup_nil, s - 3, r, rfl, ⟨by omega, by omega⟩, hr, by omega, fun q hq => h _ _ hq (hp.mono (by omega))⟩
theorem kp__law_above : Keeps0 3 w__law_above sp__law_above := by
  rintro dvs k ⟨p, f, n, rfl, hp, hf, hn, h⟩
  refine ⟨rfl, by simp [slotsOf], p, f, n, rfl, hp, hf, by omega, fun q p1 hq hp1 => ?_⟩
  have dp := q.den_pos
  refine ⟨⟨shp_int _, shp_int _⟩, ite_both (fun g => ?_) (fun g => ?_)⟩
  · have g := ne_int g
    refine h _ _ _ ⟨?_, by omega, ?_, ?_, hq.2⟩ (hp1.mono (by omega))
    · rw [abs_eq]
      omega
    · rw [abs_eq]
      have := q.reduced
      show Nat.gcd ((q.num.natAbs : Nat) : Int).natAbs ((q.den : Nat) : Int).natAbs = 1
      rw [Int.natAbs_natCast, Int.natAbs_natCast]
      exact this
    · rw [abs_eq]
      exact hq.1.le (by omega)
  · refine ⟨rfl, by simp [slotsOf], _, _, _, rfl, hp1, by omega, by decide, by decide, fun d p2 d0 d1 hp2 => ?_⟩
    exact h _ _ _ ⟨by decide, by omega, by rw [Int.gcd_comm, Int.gcd_one], Bd.of (by decide) (by decide), (Bd.of (n := 10) (by omega) (by omega)).mono (by decide)⟩ (hp2.mono (by omega))
end K03

namespace K03
open PySem DW CA
theorem wy_len : ∀ (b : Bool) (ms : List Int), (wy b ms).length = ms.length
  | _, [] => rfl
  | b, m :: r => by
    show (wy (!b) r).length + 1 = r.length + 1
    rw [wy_len]
theorem Wk.ex {w : Wy} (h : Wk w) : ∃ b ms, Ps ms ∧ w = wy b ms ∧ ms.length ≤ 240 ∧ prd ms ≤ 2 ^ 130 := by
  obtain ⟨b, ms, hp, e⟩ := h.a
  have l := h.l
  have p := h.p
  rw [e, wy_snd] at p
  rw [e, wy_len] at l
  exact ⟨b, ms, hp, e, l, p⟩
theorem Kw_le {w : Wy} (h : Wk w) : (Kw w).1 ≤ 2 ^ 370 ∧ (Kw w).2 ≤ 2 ^ 370 := by
  obtain ⟨b, ms, hp, rfl, l, p⟩ := h.ex
  have k := kp_le hp
  have k2 := (kp_pos hp).2.1
  have c1 : (2 : Int) ^ ms.length ≤ 2 ^ 240 := by
    have : 2 ^ ms.length ≤ 2 ^ 240 := Nat.pow_le_pow_right (by decide) l
    exact_mod_cast this
  have c2 : (2 : Int) ^ ms.length * prd ms ≤ 2 ^ 240 * 2 ^ 130 := Int.mul_le_mul c1 p (by have := prd_pos hp; omega) (by decide)
  have c3 : (2 : Int) ^ 240 * 2 ^ 130 = 2 ^ 370 := by decide +kernel
  rw [Kw_wy]
  cases b with
  | true => exact ⟨by show (kp ms).1 ≤ _; omega, by show (kp ms).2 ≤ _; omega⟩
  | false => exact ⟨by show (kp ms).2 ≤ _; omega, by show (kp ms).1 ≤ _; omega⟩
theorem p380 : (2 : Int) ^ 370 < 2 ^ 380 := by decide +kernel
theorem Kw_bd {w : Wy} (h : Wk w) : Bd 380 (Kw w).1 ∧ Bd 380 (Kw w).2 := by
  obtain ⟨a, b⟩ := Kw_le h
  obtain ⟨c, d, _⟩ := Kw_pos h.a
  have := p380
  exact ⟨.of (by omega) (by omega), .of (by omega) (by omega)⟩
theorem Wk.rev {w : Wy} (h : Wk w) : Wk w.reverse := ⟨h.a.rev, by rw [List.length_reverse]; exact h.l, by rw [List.map_reverse, prd_rev]; exact h.p⟩
theorem Wk_of {w : Wy} (h : Alt w) (h1 : (Kw w).1 < 2 ^ 110) (h2 : (Kw w).2 < 2 ^ 110) : Wk w := by
  obtain ⟨b, ms, hp, rfl⟩ := id h
  rw [Kw_wy] at h1 h2
  obtain ⟨k1, k2⟩ : (kp ms).1 < 2 ^ 110 ∧ (kp ms).2 < 2 ^ 110 := by
    cases b with
    | true => exact ⟨h1, h2⟩
    | false => exact ⟨h2, h1⟩
  obtain ⟨p1, p2, _⟩ := kp_pos hp
  have l := len_le hp
  have m : (kp ms).1 * (kp ms).2 ≤ 2 ^ 110 * 2 ^ 110 := Int.mul_le_mul (by omega) (by omega) (by omega) (by decide)
  have e : (2 : Int) ^ 110 * 2 ^ 110 = 2 ^ 220 := by decide +kernel
  refine ⟨h, ?_, ?_⟩
  · rw [wy_len]
    refine Nat.le_of_not_lt fun z => ?_
    have : 2 ^ 241 ≤ 2 ^ ms.length := Nat.pow_le_pow_right (by decide) z
    have : (2 : Int) ^ 241 ≤ 2 ^ ms.length := by exact_mod_cast this
    have : (2 : Int) ^ 220 < 2 ^ 241 := by decide +kernel
    omega
  · rw [wy_snd]
    have := prd_le hp
    have : (2 : Int) ^ 110 < 2 ^ 130 := by decide +kernel
    omega
theorem Bd.lt {n : Nat} {i : Int} (h : Bd n i) : i < 2 ^ n := by
  have h : i.natAbs < 2 ^ n := h
  have : ((i.natAbs : Nat) : Int) < 2 ^ n := by exact_mod_cast h
  omega
theorem Wk_pq {a b : Int} (h : Pq a b) : ∃ w, Wk w ∧ Kw w = (a, b) := by
  obtain ⟨a1, b1, g, ba, bb⟩ := h
  obtain ⟨w, al, e⟩ := way_ex a1 b1 g
  refine ⟨w, Wk_of al ?_ ?_, e⟩
  · rw [e]
    exact K03.Bd.lt ba
  · rw [e]
    exact K03.Bd.lt bb
theorem rho_form : ∀ (m : Int) (r : List Int), Ps (m :: r) → ∃ l t, rho (m :: r) = l ++ [t] ∧ 2 ≤ t ∧ Ps l ∧ l.length = r.length
  | m, [], h => ⟨[], m + 1, rfl, by have := h.head; omega, (fun _ z => nomatch z), rfl⟩
  | m, m' :: r, h => by
    obtain ⟨l, t, e, ht, hl, hn⟩ := rho_form m' r h.tail
    refine ⟨m :: l, t, ?_, ht, fun x z => ?_, by simp [hn]⟩
    · show m :: rho (m' :: r) = _
      rw [e]
      rfl
    · rcases List.mem_cons.mp z with rfl | z
      · exact h.head
      · exact hl x z
/-- what rows look like -/
theorem row_form {w : Wy} (h : Wk w) : ((∃ x, rowW w = [x] ∧ 1 ≤ x) ∨ ∃ a r t, rowW w = a :: (r ++ [t]) ∧ 2 ≤ t ∧ 0 ≤ a ∧ Ps r) ∧ (rowW w).length ≤ 242 := by
  obtain ⟨b, ms, hp, rfl, hl, _⟩ := h.ex
  cases ms with
  | nil => exact ⟨.inl ⟨1, rfl, by decide⟩, by show 1 ≤ 242; decide⟩
  | cons m r =>
    rw [List.length_cons] at hl
    obtain ⟨l, t, e, ht, hps, hn⟩ := rho_form m r hp
    cases b with
    | true =>
      have er : rowW (wy true (m :: r)) = rho (m :: r) := by
        show rho (m :: (wy (!true) r).map (·.2)) = _
        rw [wy_snd]
      rw [er, e]
      refine ⟨?_, by simp; omega⟩
      cases l with
      | nil => exact .inl ⟨t, rfl, by omega⟩
      | cons a l => exact .inr ⟨a, l, t, rfl, ht, by have := hps.head; omega, hps.tail⟩
    | false =>
      have er : rowW (wy false (m :: r)) = 0 :: rho (m :: r) := by
        show 0 :: rho (m :: (wy (!false) r).map (·.2)) = _
        rw [wy_snd]
      rw [er, e]
      exact ⟨.inr ⟨0, l, t, rfl, ht, by decide, hps⟩, by simp; omega⟩
/-! fractions -/
theorem frac_good {w : Wy} (h : Alt w) : fracB (frw w) = true ∧ abvB (frw w) = true := by
  obtain ⟨a, b, g⟩ := Kw_pos h
  have e : fracB (frw w) = true := by
    show (decide (1 ≤ (Kw w).2) && Int.gcd (Kw w).1 (Kw w).2 == 1) = true
    rw [decide_eq_true b, g]
    rfl
  refine ⟨e, ?_⟩
  show ((decide (1 ≤ (Kw w).2) && Int.gcd (Kw w).1 (Kw w).2 == 1) && decide (0 < (Kw w).1)) = true
  rw [decide_eq_true b, g, decide_eq_true (by omega)]
  rfl
theorem nm_int {x : D} (h : isNm x = true) : ∃ i, x = .int i := by
  cases x with
  | int i => exact ⟨i, rfl⟩
  | _ => exact nomatch h
theorem kp_is_fraction : Keeps0 1 w_is_fraction sp_is_fraction := by
  rintro dvs k ⟨d, rfl, ok, h⟩
  have seq : ∀ (d : D) (xs : List D), (d = .tup xs ∨ ∃ a, d = .at a (.tup xs)) → (∀ x ∈ xs, ok0 x = true) → k (.ret (.val (.bl (fracB (.tup xs))))) [.val d] → w_is_fraction (entry 1 [.val d]) (ends0 [.val d] k) := by
    intro d xs hd ok h
    match xs, hd, ok, h with
    | [], hd, ok, h => rcases hd with rfl | ⟨a, rfl⟩ <;> exact ⟨⟨shp_int _, shp_int _⟩, h⟩
    | [x], hd, ok, h => rcases hd with rfl | ⟨a, rfl⟩ <;> (refine ⟨⟨shp_int _, shp_int _⟩, ?_⟩; cases x <;> exact h)
    | [x, y], hd, ok, h =>
      have ox := ok x (.head _)
      have oy := ok y (.tail _ (.head _))
      cases q : isNm x with
      | false =>
        have e : fracB (.tup [x, y]) = false := by cases x <;> first | rfl | exact nomatch q
        rw [e] at h
        rcases hd with rfl | ⟨a, rfl⟩ <;>
        · refine ⟨⟨shp_int _, shp_int _⟩, List.nodup_nil, x, rfl, ox, ?_⟩
          rw [q]
          exact h
      | true =>
        obtain ⟨a', rfl⟩ := nm_int q
        cases q2 : isNm y with
        | false =>
          have e : fracB (.tup [.int a', y]) = false := by cases y <;> first | rfl | exact nomatch q2
          rw [e] at h
          rcases hd with rfl | ⟨a, rfl⟩ <;>
          · refine ⟨⟨shp_int _, shp_int _⟩, List.nodup_nil, _, rfl, ox, List.nodup_nil, y, rfl, oy, ?_⟩
            rw [q2]
            exact h
        | true =>
          obtain ⟨b', rfl⟩ := nm_int q2
          have h : k (.ret (.val (.bl (decide (1 ≤ b') && Int.gcd a' b' == 1)))) [.val d] := h
          rcases hd with rfl | ⟨a, rfl⟩ <;>
          · refine ⟨⟨shp_int _, shp_int _⟩, List.nodup_nil, _, rfl, ox, List.nodup_nil, _, rfl, oy, ite_no rfl ?_⟩
            cases q3 : decide (1 ≤ b') with
            | false =>
              rw [q3] at h
              exact ite_no q3 h
            | true =>
              rw [q3] at h
              refine ite_yes q3 ⟨List.nodup_nil, _, _, rfl, ⟨shp_int _, shp_int _⟩, ?_⟩
              have e : deq (.int (Int.gcd a' b' : Int)) (.int 1) = (Int.gcd a' b' == 1) := by
                rw [deq_int, Bool.eq_iff_iff]
                simp only [beq_iff_eq]
                omega
              rw [e]
              exact h
    | x :: y :: z :: r, hd, ok, h =>
      have e : deq (.int ((x :: y :: z :: r).length : Int)) (.int 2) = false := by
        rw [deq_int]
        simp only [List.length_cons]
        rw [beq_eq_false_iff_ne]
        omega
      have e2 : fracB (.tup (x :: y :: z :: r)) = false := by cases x <;> first | rfl | (cases y <;> rfl)
      rw [e2] at h
      rcases hd with rfl | ⟨a, rfl⟩ <;>
      · refine ⟨⟨shp_int _, shp_int _⟩, ite_yes ?_ h⟩
        rw [e]
        rfl
  cases d with
  | tup xs => exact seq _ xs (.inl rfl) (fun x m => ok1_at ok rfl m) h
  | «at» a d =>
    cases d with
    | tup xs => exact seq _ xs (.inr ⟨a, rfl⟩) (fun x m => ok1_at ok rfl m) h
    | lst xs => exact h
    | dct ks vs => exact h
    | _ => exact nomatch ok
  | obj _ => exact nomatch ok
  | _ => exact h
theorem frw_ok (w : Wy) : ok1 (frw w) = true := rfl
theorem kp_need_fraction : Keeps 1 w_need_fraction sp_need_fraction := by
  rintro dvs k ⟨w, rfl, hw, h⟩
  refine ⟨List.nodup_nil, frw w, rfl, rfl, ?_⟩
  have e : fracB (core (frw w)) = true := (frac_good hw.a).1
  rw [e]
  exact h
theorem core_items {d : D} {xs : List D} (e : core d = .tup xs) (ok : ok1 d = true) : items d = some xs := by
  cases d with
  | «at» a d =>
    cases d with
    | tup ys => cases e; rfl
    | lst _ => exact D.noConfusion e
    | dct _ _ => exact D.noConfusion e
    | _ => exact nomatch ok
  | tup ys => cases e; rfl
  | obj _ => exact nomatch ok
  | _ => exact D.noConfusion e
theorem kp_need_above : Keeps 1 w_need_above sp_need_above := by
  rintro dvs k ⟨d, rfl, ok, h⟩
  refine ⟨List.nodup_nil, d, rfl, ok, ?_⟩
  rcases h with ⟨w, e, hw, h⟩ | ⟨b, h⟩
  · obtain ⟨p1, _, _⟩ := Kw_pos hw.a
    rw [e, (frac_good hw.a).1]
    exact it_ix (x := d) (core_items e ok) (i := 0) rfl (ite_no (decide_eq_false (by omega)) h)
  · cases q : fracB (core d) with
    | false => exact h
    | true =>
      obtain ⟨a', b', e⟩ : ∃ a' b', core d = .tup [.int a', .int b'] := by
        generalize core d = c at q
        match c, q with
        | .tup [.int a', .int b'], _ => exact ⟨a', b', rfl⟩
      rw [e] at q b
      have q : (decide (1 ≤ b') && Int.gcd a' b' == 1) = true := q
      have b : ((decide (1 ≤ b') && Int.gcd a' b' == 1) && decide (0 < a')) = false := b
      rw [q, Bool.true_and] at b
      have b := of_decide_eq_false b
      exact it_ix (x := d) (core_items e ok) (i := 0) rfl (ite_yes (decide_eq_true (by omega)) h)
theorem kp_is_whole : Keeps0 3 w_is_whole sp_is_whole := by
  rintro dvs k ⟨x, lo, hi, rfl, o, h⟩
  refine ⟨List.nodup_nil, x, rfl, o, ?_⟩
  cases x with
  | int i =>
    show if decide (lo ≤ i) = true then k (.ret (.val (.bl (decide (i ≤ hi))))) _ else k (.ret (.val (.bl false))) _
    have h : k (.ret (.val (.bl (decide (lo ≤ i) && decide (i ≤ hi))))) _ := h
    cases e : decide (lo ≤ i) with
    | true => rw [e] at h; exact h
    | false => rw [e] at h; exact h
  | «at» a d => cases d <;> first | exact h | exact nomatch o
  | obj _ => exact nomatch o
  | _ => exact h
theorem kp__law_no_fractions : Keeps0 0 w__law_no_fractions sp__law_no_fractions := by
  rintro dvs k ⟨rfl, h⟩
  exact h
end K03

/-! K11: even words, balanced words, slopes. -/
namespace K11
/-- the sum of the first letters -/
def pre (w : List Int) (k : Nat) : Int := (w.take k).sum
structure Wd (w : List Int) : Prop where
  l : ∀ t ∈ w, t = 0 ∨ t = 1
/-- any two stretches as long differ by one at most -/
def Bal (S : Nat → Int) (n : Nat) : Prop := ∀ s i j : Nat, i + s ≤ n → j + s ≤ n → (S (i + s) - S i) - (S (j + s) - S j) ≤ 1
/-- stretches of any lengths -/
theorem bal_key {S : Nat → Int} {n : Nat} (h : Bal S n) : ∀ N a b i j : Nat, a + b ≤ N → 1 ≤ a → 1 ≤ b → i + a ≤ n → j + b ≤ n →
    (S (i + a) - S i) * b - (S (j + b) - S j) * a < a + b ∧ (S (j + b) - S j) * a - (S (i + a) - S i) * b < a + b
  | 0, a, b, i, j, hN, a1, b1, _, _ => by omega
  | N + 1, a, b, i, j, hN, a1, b1, hi, hj => by
    by_cases c : a = b
    · subst c
      have x := h a i j hi hj
      have y := h a j i hj hi
      generalize S (i + a) - S i = u at *
      generalize S (j + a) - S j = v at *
      have x2 : (u - v) * (a : Int) ≤ 1 * a := Int.mul_le_mul_of_nonneg_right x (by omega)
      have y2 : (v - u) * (a : Int) ≤ 1 * a := Int.mul_le_mul_of_nonneg_right y (by omega)
      rw [Int.sub_mul] at x2 y2
      omega
    · by_cases c2 : b < a
      · obtain ⟨d, rfl⟩ : ∃ d, a = b + d := ⟨a - b, by omega⟩
        obtain ⟨f, g⟩ := bal_key h N d b (i + b) j (by omega) (by omega) b1 (by omega) hj
        have x := h b i j (by omega) hj
        have y := h b j i hj (by omega)
        have e : S (i + (b + d)) = S (i + b + d) := by rw [Nat.add_assoc]
        rw [e]
        have s1 : (S (i + b + d) - S i) = (S (i + b + d) - S (i + b)) + (S (i + b) - S i) := by omega
        rw [s1]
        generalize S (i + b + d) - S (i + b) = t at *
        generalize S (i + b) - S i = z at *
        generalize S (j + b) - S j = v at *
        have x2 : (z - v) * (b : Int) ≤ 1 * b := Int.mul_le_mul_of_nonneg_right x (by omega)
        have y2 : (v - z) * (b : Int) ≤ 1 * b := Int.mul_le_mul_of_nonneg_right y (by omega)
        rw [Int.sub_mul] at x2 y2
        rw [Int.natCast_add, Int.add_mul, Int.mul_add]
        omega
      · obtain ⟨d, rfl⟩ : ∃ d, b = a + d := ⟨b - a, by omega⟩
        obtain ⟨f, g⟩ := bal_key h N a d i (j + a) (by omega) a1 (by omega) hi (by omega)
        have x := h a i j hi (by omega)
        have y := h a j i (by omega) hi
        have e : S (j + (a + d)) = S (j + a + d) := by rw [Nat.add_assoc]
        rw [e]
        have s1 : (S (j + a + d) - S j) = (S (j + a + d) - S (j + a)) + (S (j + a) - S j) := by omega
        rw [s1]
        generalize S (j + a + d) - S (j + a) = t at *
        generalize S (j + a) - S j = z at *
        generalize S (i + a) - S i = v at *
        have x2 : (v - z) * (a : Int) ≤ 1 * a := Int.mul_le_mul_of_nonneg_right x (by omega)
        have y2 : (z - v) * (a : Int) ≤ 1 * a := Int.mul_le_mul_of_nonneg_right y (by omega)
        rw [Int.sub_mul] at x2 y2
        rw [Int.natCast_add, Int.add_mul, Int.mul_add]
        omega
/-! the limits, step by step -/
abbrev L4 := (Int × Int) × (Int × Int)
def stp (S : Nat → Int) (last first : Nat) (a : L4) : L4 :=
  (if (S last - S first - 1) * a.1.2 > a.1.1 * ((last : Int) - first) then (S last - S first - 1, (last : Int) - first) else a.1,
   if (S last - S first + 1) * a.2.2 < a.2.1 * ((last : Int) - first) then (S last - S first + 1, (last : Int) - first) else a.2)
def inn (S : Nat → Int) (last : Nat) : Nat → L4 → L4
  | 0, a => a
  | f + 1, a => stp S last f (inn S last f a)
def out (S : Nat → Int) : Nat → L4
  | 0 => ((-1, 1), (2, 1))
  | m + 1 => inn S (m + 1) (m + 1) (out S m)
theorem le_le {a b c d e f : Int} (b0 : 0 < b) (d0 : 0 < d) (f0 : 0 < f) (h : a * d ≤ c * b) (h2 : c * f ≤ e * d) : a * f ≤ e * b := by
  have x1 := Int.mul_le_mul_of_nonneg_right h (show 0 ≤ f by omega)
  have x2 := Int.mul_le_mul_of_nonneg_right h2 (show 0 ≤ b by omega)
  have e1 : c * b * f = c * f * b := by grind
  have x3 : a * f * d ≤ e * b * d := by
    have : a * f * d = a * d * f := by grind
    have : e * b * d = e * d * b := by grind
    omega
  exact Int.le_of_mul_le_mul_right x3 (by omega)
structure Li (S : Nat → Int) (n : Nat) (P : Nat → Nat → Prop) (a : L4) : Prop where
  l2 : 1 ≤ a.1.2
  h2 : 1 ≤ a.2.2
  lo : ∀ f l, P f l → f < l → (S l - S f - 1) * a.1.2 ≤ a.1.1 * ((l : Int) - f)
  hi : ∀ f l, P f l → f < l → a.2.1 * ((l : Int) - f) ≤ (S l - S f + 1) * a.2.2
  el : a.1 = (-1, 1) ∨ ∃ f l, f < l ∧ l ≤ n ∧ a.1 = (S l - S f - 1, (l : Int) - f)
  eh : a.2 = (2, 1) ∨ ∃ f l, f < l ∧ l ≤ n ∧ a.2 = (S l - S f + 1, (l : Int) - f)
theorem Li.step {S : Nat → Int} {n : Nat} {P Q : Nat → Nat → Prop} {a : L4} (h : Li S n P a) {l f : Nat} (fl : f < l) (ln : l ≤ n) (hQ : ∀ f' l', Q f' l' → P f' l' ∨ (f' = f ∧ l' = l)) : Li S n Q (stp S l f a) := by
  obtain ⟨⟨a1, a2⟩, ⟨b1, b2⟩⟩ := a
  have l2 : 1 ≤ a2 := h.l2
  have h2 : 1 ≤ b2 := h.h2
  have d1 : 1 ≤ (l : Int) - f := by omega
  have lo : ∀ f l : Nat, P f l → f < l → (S l - S f - 1) * a2 ≤ a1 * ((l : Int) - f) := h.lo
  have hi : ∀ f l : Nat, P f l → f < l → b1 * ((l : Int) - f) ≤ (S l - S f + 1) * b2 := h.hi
  have low : (1 ≤ (stp S l f ((a1, a2), (b1, b2))).1.2) ∧ (∀ f' l', Q f' l' → f' < l' → (S l' - S f' - 1) * (stp S l f ((a1, a2), (b1, b2))).1.2 ≤ (stp S l f ((a1, a2), (b1, b2))).1.1 * ((l' : Int) - f')) ∧
      ((stp S l f ((a1, a2), (b1, b2))).1 = (-1, 1) ∨ ∃ f' l', f' < l' ∧ l' ≤ n ∧ (stp S l f ((a1, a2), (b1, b2))).1 = (S l' - S f' - 1, (l' : Int) - f')) := by
    show (1 ≤ (if (S l - S f - 1) * a2 > a1 * ((l : Int) - f) then (S l - S f - 1, (l : Int) - f) else (a1, a2)).2) ∧ (∀ f' l', Q f' l' → f' < l' → (S l' - S f' - 1) * (if (S l - S f - 1) * a2 > a1 * ((l : Int) - f) then (S l - S f - 1, (l : Int) - f) else (a1, a2)).2 ≤ (if (S l - S f - 1) * a2 > a1 * ((l : Int) - f) then (S l - S f - 1, (l : Int) - f) else (a1, a2)).1 * ((l' : Int) - f')) ∧
      ((if (S l - S f - 1) * a2 > a1 * ((l : Int) - f) then (S l - S f - 1, (l : Int) - f) else (a1, a2)) = (-1, 1) ∨ ∃ f' l', f' < l' ∧ l' ≤ n ∧ (if (S l - S f - 1) * a2 > a1 * ((l : Int) - f) then (S l - S f - 1, (l : Int) - f) else (a1, a2)) = (S l' - S f' - 1, (l' : Int) - f'))
    by_cases c : (S l - S f - 1) * a2 > a1 * ((l : Int) - f)
    · rw [if_pos c]
      refine ⟨d1, fun f' l' hq fl' => ?_, .inr ⟨f, l, fl, ln, rfl⟩⟩
      rcases hQ f' l' hq with hp | ⟨rfl, rfl⟩
      · have := lo f' l' hp fl'
        exact le_le (c := a1) (d := a2) (by omega) (by omega) (by show 0 < (l : Int) - f; omega) this (by show a1 * ((l : Int) - f) ≤ (S l - S f - 1) * a2; omega)
      · exact Int.le_refl _
    · rw [if_neg c]
      refine ⟨l2, fun f' l' hq fl' => ?_, h.el⟩
      rcases hQ f' l' hq with hp | ⟨rfl, rfl⟩
      · exact lo f' l' hp fl'
      · show (S l' - S f' - 1) * a2 ≤ a1 * ((l' : Int) - f')
        omega
  have high : (1 ≤ (stp S l f ((a1, a2), (b1, b2))).2.2) ∧ (∀ f' l', Q f' l' → f' < l' → (stp S l f ((a1, a2), (b1, b2))).2.1 * ((l' : Int) - f') ≤ (S l' - S f' + 1) * (stp S l f ((a1, a2), (b1, b2))).2.2) ∧
      ((stp S l f ((a1, a2), (b1, b2))).2 = (2, 1) ∨ ∃ f' l', f' < l' ∧ l' ≤ n ∧ (stp S l f ((a1, a2), (b1, b2))).2 = (S l' - S f' + 1, (l' : Int) - f')) := by
    show (1 ≤ (if (S l - S f + 1) * b2 < b1 * ((l : Int) - f) then (S l - S f + 1, (l : Int) - f) else (b1, b2)).2) ∧ (∀ f' l', Q f' l' → f' < l' → (if (S l - S f + 1) * b2 < b1 * ((l : Int) - f) then (S l - S f + 1, (l : Int) - f) else (b1, b2)).1 * ((l' : Int) - f') ≤ (S l' - S f' + 1) * (if (S l - S f + 1) * b2 < b1 * ((l : Int) - f) then (S l - S f + 1, (l : Int) - f) else (b1, b2)).2) ∧
      ((if (S l - S f + 1) * b2 < b1 * ((l : Int) - f) then (S l - S f + 1, (l : Int) - f) else (b1, b2)) = (2, 1) ∨ ∃ f' l', f' < l' ∧ l' ≤ n ∧ (if (S l - S f + 1) * b2 < b1 * ((l : Int) - f) then (S l - S f + 1, (l : Int) - f) else (b1, b2)) = (S l' - S f' + 1, (l' : Int) - f'))
    by_cases c : (S l - S f + 1) * b2 < b1 * ((l : Int) - f)
    · rw [if_pos c]
      refine ⟨d1, fun f' l' hq fl' => ?_, .inr ⟨f, l, fl, ln, rfl⟩⟩
      rcases hQ f' l' hq with hp | ⟨rfl, rfl⟩
      · have := hi f' l' hp fl'
        exact le_le (c := b1) (d := b2) (by show 0 < (l : Int) - f; omega) (by omega) (by omega) (by show (S l - S f + 1) * b2 ≤ b1 * ((l : Int) - f); omega) this
      · exact Int.le_refl _
    · rw [if_neg c]
      refine ⟨h2, fun f' l' hq fl' => ?_, h.eh⟩
      rcases hQ f' l' hq with hp | ⟨rfl, rfl⟩
      · exact hi f' l' hp fl'
      · show b1 * ((l' : Int) - f') ≤ (S l' - S f' + 1) * b2
        omega
  exact ⟨low.1, high.1, low.2.1, high.2.1, low.2.2, high.2.2⟩
theorem Li.mono {S : Nat → Int} {n m : Nat} {P Q : Nat → Nat → Prop} {a : L4} (h : Li S n P a) (nm : n ≤ m) (hQ : ∀ f l, Q f l → f < l → P f l) : Li S m Q a :=
  ⟨h.l2, h.h2, fun f l q fl => h.lo f l (hQ f l q fl) fl, fun f l q fl => h.hi f l (hQ f l q fl) fl, h.el.imp id fun ⟨f, l, a, b, c⟩ => ⟨f, l, a, by omega, c⟩, h.eh.imp id fun ⟨f, l, a, b, c⟩ => ⟨f, l, a, by omega, c⟩⟩
theorem inn_li {S : Nat → Int} {n m : Nat} {a : L4} (h : Li S n (fun _ l => l ≤ m) a) (hn : m + 1 ≤ n) : ∀ f : Nat, f ≤ m + 1 → Li S n (fun f' l' => l' ≤ m ∨ (l' = m + 1 ∧ f' < f)) (inn S (m + 1) f a)
  | 0, _ => h.mono (Nat.le_refl _) fun f l q _ => by omega
  | f + 1, hf => by
    have ih := inn_li h hn f (by omega)
    exact ih.step (l := m + 1) (f := f) (by omega) hn fun f' l' q => by omega
theorem out_li (S : Nat → Int) : ∀ m : Nat, Li S m (fun _ l => l ≤ m) (out S m)
  | 0 => ⟨by show (1 : Int) ≤ 1; decide, by show (1 : Int) ≤ 1; decide, fun f l q fl => by omega, fun f l q fl => by omega, .inl rfl, .inl rfl⟩
  | m + 1 => by
    have ih := (out_li S m).mono (m := m + 1) (Q := fun _ l => l ≤ m) (by omega) fun _ _ q _ => q
    have := inn_li ih (Nat.le_refl _) (m + 1) (Nat.le_refl _)
    exact this.mono (Nat.le_refl _) fun f l q fl => by omega
/-- there are slopes just if it is balanced -/
theorem bal_iff {S : Nat → Int} {n : Nat} (hS : ∀ i j : Nat, i ≤ j → j ≤ n → 0 ≤ S j - S i ∧ S j - S i ≤ (j : Int) - i) : Bal S n ↔ (out S n).1.1 * (out S n).2.2 < (out S n).2.1 * (out S n).1.2 := by
  have L := out_li S n
  constructor
  · intro h
    rcases L.el with el | ⟨f, l, fl, ln, el⟩
    · rcases L.eh with eh | ⟨f', l', fl', ln', eh⟩
      · rw [el, eh]
        decide
      · rw [el, eh]
        have := hS f' l' (by omega) ln'
        show -1 * ((l' : Int) - f') < (S l' - S f' + 1) * 1
        omega
    · rcases L.eh with eh | ⟨f', l', fl', ln', eh⟩
      · rw [el, eh]
        have := hS f l (by omega) ln
        show (S l - S f - 1) * 1 < 2 * ((l : Int) - f)
        omega
      · rw [el, eh]
        obtain ⟨a, rfl⟩ : ∃ a, l = f + a := ⟨l - f, by omega⟩
        obtain ⟨b, rfl⟩ : ∃ b, l' = f' + b := ⟨l' - f', by omega⟩
        have k := (bal_key h (a + b) a b f f' (Nat.le_refl _) (by omega) (by omega) ln ln').1
        show (S (f + a) - S f - 1) * (((f' + b : Nat) : Int) - f') < (S (f' + b) - S f' + 1) * (((f + a : Nat) : Int) - f)
        have e1 : ((f' + b : Nat) : Int) - f' = b := by omega
        have e2 : ((f + a : Nat) : Int) - f = a := by omega
        rw [e1, e2]
        generalize S (f + a) - S f = u at *
        generalize S (f' + b) - S f' = v at *
        rw [Int.sub_mul, Int.add_mul]
        omega
  · intro h s i j hi hj
    refine Classical.byContradiction fun c => ?_
    have s1 : 1 ≤ s := by
      refine Classical.byContradiction fun c2 => c ?_
      have : s = 0 := by omega
      subst this
      show S i - S i - (S j - S j) ≤ 1
      omega
    have a := L.lo i (i + s) hi (by omega)
    have b := L.hi j (j + s) hj (by omega)
    have hl2 := L.l2
    have hh2 := L.h2
    have e1 : ((i + s : Nat) : Int) - i = s := by omega
    have e2 : ((j + s : Nat) : Int) - j = s := by omega
    rw [e1] at a
    rw [e2] at b
    generalize S (i + s) - S i = u at *
    generalize S (j + s) - S j = v at *
    generalize (out S n).1.1 = l1 at *
    generalize (out S n).1.2 = l2 at *
    generalize (out S n).2.1 = h1 at *
    generalize (out S n).2.2 = h2 at *
    have m1 : (v + 1) * h2 ≤ (u - 1) * h2 := Int.mul_le_mul_of_nonneg_right (by omega) (by omega)
    -- h1 s l2 <= (u - 1) h2 l2 <= l1 s h2
    have m2 : h1 * s * l2 ≤ (u - 1) * h2 * l2 := Int.mul_le_mul_of_nonneg_right (by omega) (by omega)
    have m3 : (u - 1) * l2 * h2 ≤ l1 * s * h2 := Int.mul_le_mul_of_nonneg_right a (by omega)
    have e3 : (u - 1) * h2 * l2 = (u - 1) * l2 * h2 := by grind
    have m4 : (l1 * h2) * s < (h1 * l2) * s := Int.mul_lt_mul_of_pos_right h (by omega)
    have e4 : (l1 * h2) * s = l1 * s * h2 := by grind
    have e5 : (h1 * l2) * s = h1 * s * l2 := by grind
    omega
/-! sums of words -/
theorem pre_zero (w : List Int) : pre w 0 = 0 := rfl
theorem pre_succ {w : List Int} {k : Nat} {t : Int} (h : w[k]? = some t) : pre w (k + 1) = pre w k + t := by
  unfold pre
  rw [List.take_add_one, h, List.sum_append]
  show _ + (t + 0) = _
  omega
theorem pre_rng {w : List Int} (hw : Wd w) : ∀ j i : Nat, i ≤ j → j ≤ w.length → 0 ≤ pre w j - pre w i ∧ pre w j - pre w i ≤ (j : Int) - i
  | 0, i, h, _ => by
    have : i = 0 := by omega
    subst this
    omega
  | j + 1, i, h, hl => by
    by_cases c : i = j + 1
    · subst c
      omega
    · have ih := pre_rng hw j i (by omega) (by omega)
      have e := List.getElem?_eq_getElem (show j < w.length by omega)
      have t := hw.l _ (List.getElem_mem (show j < w.length by omega))
      rw [pre_succ e]
      omega
/-! even words -/
def ev (o m k : Int) : Int := k * o / m
def evn (o m : Int) (n : Nat) : List Int := (List.range n).map fun k : Nat => ev o m ((k : Int) + 1) - ev o m k
theorem evn_len (o m : Int) (n : Nat) : (evn o m n).length = n := by
  unfold evn
  rw [List.length_map, List.length_range]
theorem evn_get {o m : Int} {n k : Nat} (h : k < n) : (evn o m n)[k]? = some (ev o m ((k : Int) + 1) - ev o m k) := by
  unfold evn
  rw [List.getElem?_map, List.getElem?_range h]
  rfl
theorem ev_step {o m : Int} (m1 : 1 ≤ m) (o0 : 0 ≤ o) (om : o ≤ m) (k : Int) : ev o m (k + 1) - ev o m k = 0 ∨ ev o m (k + 1) - ev o m k = 1 := by
  unfold ev
  rw [Int.add_mul, Int.one_mul]
  have a := Int.emod_add_mul_ediv (k * o) m
  have b := Int.emod_add_mul_ediv (k * o + o) m
  have a0 := Int.emod_nonneg (k * o) (show m ≠ 0 by omega)
  have a1 := Int.emod_lt_of_pos (k * o) (show 0 < m by omega)
  have b0 := Int.emod_nonneg (k * o + o) (show m ≠ 0 by omega)
  have b1 := Int.emod_lt_of_pos (k * o + o) (show 0 < m by omega)
  generalize k * o / m = u at *
  generalize (k * o + o) / m = v at *
  have d : m * v - m * u = m * (v - u) := (Int.mul_sub ..).symm
  generalize v - u = t at *
  have t0 : -1 < t := by
    refine Classical.byContradiction fun n => ?_
    have : m * t ≤ m * -1 := Int.mul_le_mul_of_nonneg_left (by omega) (by omega)
    omega
  have t1 : t < 2 := by
    refine Classical.byContradiction fun n => ?_
    have : m * 2 ≤ m * t := Int.mul_le_mul_of_nonneg_left (by omega) (by omega)
    omega
  omega
theorem evn_wd {o m : Int} (m1 : 1 ≤ m) (o0 : 0 ≤ o) (om : o ≤ m) (n : Nat) : Wd (evn o m n) := ⟨fun t h => by
  obtain ⟨k, _, rfl⟩ := List.mem_map.mp h
  exact ev_step m1 o0 om k⟩
theorem evn_pre {o m : Int} (n : Nat) : ∀ k : Nat, k ≤ n → pre (evn o m n) k = ev o m k
  | 0, _ => by
    show 0 = (0 : Int) * o / m
    rw [Int.zero_mul, Int.zero_ediv]
  | k + 1, h => by
    rw [pre_succ (evn_get (show k < n by omega)), evn_pre n k (by omega)]
    have : ((k + 1 : Nat) : Int) = (k : Int) + 1 := by omega
    rw [this]
    omega
theorem evn_bal {o m : Int} (m1 : 1 ≤ m) (n : Nat) : Bal (pre (evn o m n)) n := by
  intro s i j hi hj
  rw [evn_pre n _ hi, evn_pre n _ hj, evn_pre n _ (show i ≤ n by omega), evn_pre n _ (show j ≤ n by omega)]
  have key : ∀ i : Nat, s * o / m ≤ ev o m ((i + s : Nat) : Int) - ev o m i ∧ ev o m ((i + s : Nat) : Int) - ev o m i ≤ s * o / m + 1 := fun i => by
    unfold ev
    have e : ((i + s : Nat) : Int) * o = i * o + s * o := by
      rw [Int.natCast_add, Int.add_mul]
    rw [e]
    generalize (i : Int) * o = A
    generalize (s : Int) * o = B
    have a := Int.emod_add_mul_ediv A m
    have b := Int.emod_add_mul_ediv B m
    have c := Int.emod_add_mul_ediv (A + B) m
    have a0 := Int.emod_nonneg A (show m ≠ 0 by omega)
    have a1 := Int.emod_lt_of_pos A (show 0 < m by omega)
    have b0 := Int.emod_nonneg B (show m ≠ 0 by omega)
    have b1 := Int.emod_lt_of_pos B (show 0 < m by omega)
    have c0 := Int.emod_nonneg (A + B) (show m ≠ 0 by omega)
    have c1 := Int.emod_lt_of_pos (A + B) (show 0 < m by omega)
    generalize A / m = u at *
    generalize B / m = v at *
    generalize (A + B) / m = w at *
    have d : m * w - m * u - m * v = m * (w - u - v) := by grind
    generalize hz : w - u - v = z at *
    have z0 : -1 < z := by
      refine Classical.byContradiction fun n => ?_
      have : m * z ≤ m * -1 := Int.mul_le_mul_of_nonneg_left (by omega) (by omega)
      omega
    have z1 : z < 2 := by
      refine Classical.byContradiction fun n => ?_
      have : m * 2 ≤ m * z := Int.mul_le_mul_of_nonneg_left (by omega) (by omega)
      omega
    omega
  have a := key i
  have b := key j
  omega
/-- round by round -/
theorem ev_round {o m : Int} (m1 : 1 ≤ m) (k : Int) : ev o m (m + k) = o + ev o m k := by
  unfold ev
  rw [Int.add_mul, Int.add_comm (m * o), Int.add_mul_ediv_left _ _ (by omega), Int.add_comm]
theorem evn_add {o : Int} {m : Nat} (m1 : 1 ≤ m) (n : Nat) : evn o m (m + n) = evn o m m ++ evn o m n := by
  unfold evn
  rw [List.range_add, List.map_append]
  congr 1
  rw [List.map_map]
  refine List.map_congr_left fun k _ => ?_
  show ev o m (((m + k : Nat) : Int) + 1) - ev o m ((m + k : Nat) : Int) = _
  have e1 : ((m + k : Nat) : Int) + 1 = (m : Int) + ((k : Int) + 1) := by omega
  have e2 : ((m + k : Nat) : Int) = (m : Int) + (k : Int) := by omega
  rw [e1, e2, ev_round (by omega), ev_round (by omega)]
  omega
theorem evn_rep {o : Int} {m : Nat} (m1 : 1 ≤ m) : ∀ g : Nat, evn o m (g * m) = (List.replicate g (evn o m m)).flatten
  | 0 => by rw [Nat.zero_mul]; rfl
  | g + 1 => by
    rw [Nat.add_mul, Nat.one_mul, Nat.add_comm, evn_add m1, evn_rep m1 g, List.replicate_succ, List.flatten_cons]
theorem ev_scale {o m g : Int} (g1 : 1 ≤ g) (k : Int) : ev (g * o) (g * m) k = ev o m k := by
  unfold ev
  have : k * (g * o) = g * (k * o) := by grind
  rw [this, Int.mul_ediv_mul_of_pos _ _ (by omega)]
theorem evn_scale {o m g : Int} (g1 : 1 ≤ g) (n : Nat) : evn (g * o) (g * m) n = evn o m n := by
  unfold evn
  refine List.map_congr_left fun k _ => ?_
  rw [ev_scale g1, ev_scale g1]
end K11

/-! K11: what each def promises. -/
namespace K11
open PySem DW CA
abbrev fracB := K03.fracB
abbrev whB := K03.whB
abbrev fr := K03.fr
abbrev Bq := K03.Bq
abbrev nf := K03.nf
abbrev nn := K03.nn
def nw (d : D) : Out := .exc ⟨"NoWord", [(("found" : Str), d)]⟩
def tm (d : D) : Out := .exc ⟨"TooMany", [(("many" : Str), d)]⟩
def isL : D → Bool
  | .int i => i == 0 || i == 1
  | _ => false
def wordB : D → Bool
  | .lst xs => (decide (1 ≤ xs.length) && decide (xs.length ≤ 100)) && xs.all isL
  | .tup xs => (decide (1 ≤ xs.length) && decide (xs.length ≤ 100)) && xs.all isL
  | _ => false
/-- a word, as a list or as a tuple -/
def wl (t : Bool) (w : List Int) : D := if t then .tup (w.map .int) else .lst (w.map .int)
structure Wo (w : List Int) : Prop where
  x : Wd w
  l1 : 1 ≤ w.length
  l2 : w.length ≤ 100
def limF (w : List Int) : L4 := out (pre w) w.length
def balB (w : List Int) : Bool := decide ((limF w).1.1 * (limF w).2.2 < (limF w).2.1 * (limF w).1.2)
def slp (w : List Int) : D := if balB w = true then .tup [if decide ((limF w).1.1 < 0) = true then pr 0 1 else fr (Rat.divInt (limF w).1.1 (limF w).1.2), .bl (decide ((limF w).1.1 < 0)), if decide ((limF w).2.2 < (limF w).2.1) = true then pr 1 1 else fr (Rat.divInt (limF w).2.1 (limF w).2.2), .bl (decide ((limF w).2.2 < (limF w).2.1))] else .non
def partB : D → Bool
  | .tup [.int a, .int b] => fracB (.tup [.int a, .int b]) && (decide (0 ≤ a) && decide (a ≤ b))
  | _ => false
/-- a part of one -/
structure Pt (a b : Int) : Prop where
  b1 : 1 ≤ b
  g : Int.gcd a b = 1
  a0 : 0 ≤ a
  ab : a ≤ b
abbrev sp__law_take : FS := spTake
abbrev sp__law_box : FS := spBox
abbrev sp__law_cell : FS := spCell
abbrev sp__law_mixed : FS := spMixed
abbrev sp_is_number : FS := spNum
abbrev sp__law_cell_right : FS := spRight
abbrev sp_law : FS := spLaw
theorem law_ints (ns : List Int) (h : ns.length ≤ 63) : sp_law [.val (.lst (ns.map .int))] fun o _ => o = .ret (.val (.bl true)) := CA.law_ints ns h
abbrev spr__law_same (n : Nat) : FS := fsSame (GdN n)
abbrev sp__law_same : FS := spr__law_same 6
abbrev sp_common : FS := K03.sp_common
abbrev sp__law_low : FS := K03.sp__law_low
abbrev sp_is_fraction : FS := K03.sp_is_fraction
abbrev sp__law_no_fractions : FS := K03.sp__law_no_fractions
abbrev sp_is_whole : FS := K03.sp_is_whole
def sp_made : FS := fun dvs k => ∃ a b : Int, dvs = [.val (.int a), .val (.int b)] ∧ 1 ≤ b ∧ Bd 8000 b ∧ k (.ret (.val (fr (Rat.divInt a b)))) dvs
def sp_is_word : FS := fun dvs k => ∃ d e : D, dvs = [.val e] ∧ e = core d ∧ ok1 d = true ∧ k (.ret (.val (.bl (wordB e)))) dvs
def sp_need_word : FS := fun dvs k => ∃ d : D, dvs = [.val d] ∧ ok1 d = true ∧ ((wordB (core d) = true ∧ k (.ret (.val .non)) dvs) ∨ (wordB (core d) = false ∧ k (nw d) dvs))
def sp_limits : FS := fun dvs k => ∃ (t : Bool) (w : List Int), dvs = [.val (wl t w)] ∧ Wo w ∧ k (.ret (.val (.tup [pr (limF w).1.1 (limF w).1.2, pr (limF w).2.1 (limF w).2.2]))) dvs
def sp_slopes_of : FS := fun dvs k => ∃ (t : Bool) (w : List Int), dvs = [.val (wl t w)] ∧ Wo w ∧ k (.ret (.val (slp w))) dvs
def sp_slopes : FS := fun dvs k => ∃ d : D, dvs = [.val d] ∧ ok1 d = true ∧ ((∃ t w, core d = wl t w ∧ Wo w ∧ k (.ret (.val (slp w))) dvs) ∨ (wordB (core d) = false ∧ k (nw d) dvs))
def sp_is_balanced : FS := fun dvs k => ∃ d : D, dvs = [.val d] ∧ ok1 d = true ∧ ((∃ t w, core d = wl t w ∧ Wo w ∧ k (.ret (.val (.bl (balB w)))) dvs) ∨ (wordB (core d) = false ∧ k (nw d) dvs))
def sp_need_part : FS := fun dvs k => ∃ d : D, dvs = [.val d] ∧ ok1 d = true ∧ ((∃ a b, core d = pr a b ∧ Pt a b ∧ k (.ret (.val .non)) dvs) ∨ (partB (core d) = false ∧ k (nf d) dvs))
def sp_need_short : FS := fun dvs k => ∃ d : D, dvs = [.val d] ∧ ok1 d = true ∧ ((∃ a b, core d = pr a b ∧ Pt a b ∧ ((b ≤ 100 ∧ k (.ret (.val .non)) dvs) ∨ (100 < b ∧ k (tm (.int b)) dvs))) ∨ (partB (core d) = false ∧ k (nf d) dvs))
def sp_even_word : FS := fun dvs k => ∃ d : D, dvs = [.val d] ∧ ok1 d = true ∧ ((∃ a b, core d = pr a b ∧ Pt a b ∧ ((b ≤ 100 ∧ k (.ret (.own ((evn a b b.toNat).map .int))) dvs) ∨ (100 < b ∧ k (tm (.int b)) dvs))) ∨ (partB (core d) = false ∧ k (nf d) dvs))
def sp_spread_of : FS := fun dvs k => ∃ (o m : Int) (n : Nat), dvs = [.val (.int o), .val (.int m), .val (.int (n : Int))] ∧ (1 ≤ m ∧ m ≤ 1000) ∧ (0 ≤ o ∧ o ≤ 1000) ∧ n ≤ 1000 ∧ k (.ret (.own ((evn o m n).map .int))) dvs
abbrev sp__law_even : FS := sp_spread_of
def sp_spread : FS := fun dvs k => ∃ d e : D, dvs = [.val d, .val e] ∧ ok0 d = true ∧ ok0 e = true ∧ ((∃ m : Int, e = .int m ∧ (1 ≤ m ∧ m ≤ 100) ∧ ((∃ o : Int, d = .int o ∧ (0 ≤ o ∧ o ≤ m) ∧ k (.ret (.own ((evn o m m.toNat).map .int))) dvs) ∨ (whB 0 m d = false ∧ k (nn d) dvs))) ∨ (whB 1 100 e = false ∧ k (nn e) dvs))
def sp__law_balanced : FS := fun dvs k => ∃ w : List Int, dvs = [.val (.lst (w.map .int))] ∧ Wo w ∧ k (.ret (.val (.bl (balB w)))) dvs
def sp__law_drawn_word : FS := fun dvs k => ∃ (p : List D) (n : Nat), dvs = [.par p, .val (.int 24)] ∧ Bx n p ∧ n ≤ 700000 ∧ ∀ w p', Wo w → Bx (n + 40) p' → k (.ret (.own (w.map .int))) [.par p', .val (.int 24)]
def noW : List D := [.non, .int 7, .str "01", .lst [], .tup [], .dct [.inr "a"] [.int 1], .lst [.int 2], .lst [.int 0, .int (-1)], .lst [.bl true], .lst [.int 0, .non], .lst [.str "0"], .lst [.lst [.int 0]], .lst (List.replicate 101 (.int 0)), .lst [.int 0, .int 1, .int 2], .tup [.int 0, .tup [.int 1]]]
def sp__law_no_words : FS := fun dvs k => dvs = [] ∧ k (.ret (.own noW)) dvs
def sp__law_called : FS := fun dvs k => ∃ (j : Nat) (ds : List D) (y : Bool), dvs = [.val (.int (j : Int)), .val (.lst ds), .val (.bl y)] ∧
  ((j = 0 ∧ ∃ d, ds = [d] ∧ sp_even_word [.val d] fun o _ => k o dvs) ∨ (j = 1 ∧ ∃ d e, ds = [d, e] ∧ sp_spread [.val d, .val e] fun o _ => k o dvs) ∨ (j = 2 ∧ ∃ d, ds = [d] ∧ sp_is_balanced [.val d] fun o _ => k o dvs) ∨ (j = 3 ∧ ∃ d, ds = [d] ∧ sp_slopes [.val d] fun o _ => k o dvs))
abbrev tb11 : List (Str × Str) := [("NoFraction", "fraction"), ("NoNumber", "number"), ("NoWord", "word"), ("TooMany", "many")]
abbrev sp__law_told : FS := fsToldO sp__law_called tb11 4
abbrev sp__law_refused : FS := fsRefused sp__law_called tb11 4
abbrev sp__law_told_same : FS := fsToldSame sp__law_called (GdN 6) 4
end K11

namespace K11
open PySem DW CA
theorem len_is_number : ∀ dvs kk, sp_is_number dvs kk → dvs.length = 1 := lenNum
theorem len_is_word : ∀ dvs kk, sp_is_word dvs kk → dvs.length = 1 := by
  intro dvs kk h
  first
  | (obtain ⟨rfl, _⟩ := h; rfl)
  | (obtain ⟨_, rfl, _⟩ := h; rfl)
  | (obtain ⟨_, _, rfl, _⟩ := h; rfl)
  | (obtain ⟨_, _, _, rfl, _⟩ := h; rfl)
  | (obtain ⟨_, _, _, _, rfl, _⟩ := h; rfl)
  | (obtain ⟨_, _, _, _, _, rfl, _⟩ := h; rfl)
  | (obtain ⟨_, _, _, _, _, _, rfl, _⟩ := h; rfl)
  | (obtain ⟨_, _, _, _, _, _, _, rfl, _⟩ := h; rfl)
  | (obtain ⟨_, _, _, _, _, _, _, _, rfl, _⟩ := h; rfl)
  | (obtain ⟨_, _, _, _, _, _, _, _, _, rfl, _⟩ := h; rfl)
  | (obtain ⟨_, _, _, _, _, _, _, _, _, _, rfl, _⟩ := h; rfl)
  | (obtain ⟨_, _, _, _, _, _, _, _, _, _, _, rfl, _⟩ := h; rfl)
theorem len_need_word : ∀ dvs kk, sp_need_word dvs kk → dvs.length = 1 := by
  intro dvs kk h
  first
  | (obtain ⟨rfl, _⟩ := h; rfl)
  | (obtain ⟨_, rfl, _⟩ := h; rfl)
  | (obtain ⟨_, _, rfl, _⟩ := h; rfl)
  | (obtain ⟨_, _, _, rfl, _⟩ := h; rfl)
  | (obtain ⟨_, _, _, _, rfl, _⟩ := h; rfl)
  | (obtain ⟨_, _, _, _, _, rfl, _⟩ := h; rfl)
  | (obtain ⟨_, _, _, _, _, _, rfl, _⟩ := h; rfl)
  | (obtain ⟨_, _, _, _, _, _, _, rfl, _⟩ := h; rfl)
  | (obtain ⟨_, _, _, _, _, _, _, _, rfl, _⟩ := h; rfl)
  | (obtain ⟨_, _, _, _, _, _, _, _, _, rfl, _⟩ := h; rfl)
  | (obtain ⟨_, _, _, _, _, _, _, _, _, _, rfl, _⟩ := h; rfl)
  | (obtain ⟨_, _, _, _, _, _, _, _, _, _, _, rfl, _⟩ := h; rfl)
theorem len_limits : ∀ dvs kk, sp_limits dvs kk → dvs.length = 1 := by
  intro dvs kk h
  first
  | (obtain ⟨rfl, _⟩ := h; rfl)
  | (obtain ⟨_, rfl, _⟩ := h; rfl)
  | (obtain ⟨_, _, rfl, _⟩ := h; rfl)
  | (obtain ⟨_, _, _, rfl, _⟩ := h; rfl)
  | (obtain ⟨_, _, _, _, rfl, _⟩ := h; rfl)
  | (obtain ⟨_, _, _, _, _, rfl, _⟩ := h; rfl)
  | (obtain ⟨_, _, _, _, _, _, rfl, _⟩ := h; rfl)
  | (obtain ⟨_, _, _, _, _, _, _, rfl, _⟩ := h; rfl)
  | (obtain ⟨_, _, _, _, _, _, _, _, rfl, _⟩ := h; rfl)
  | (obtain ⟨_, _, _, _, _, _, _, _, _, rfl, _⟩ := h; rfl)
  | (obtain ⟨_, _, _, _, _, _, _, _, _, _, rfl, _⟩ := h; rfl)
  | (obtain ⟨_, _, _, _, _, _, _, _, _, _, _, rfl, _⟩ := h; rfl)
theorem len_common : ∀ dvs kk, sp_common dvs kk → dvs.length = 2 := by
  intro dvs kk h
  first
  | (obtain ⟨rfl, _⟩ := h; rfl)
  | (obtain ⟨_, rfl, _⟩ := h; rfl)
  | (obtain ⟨_, _, rfl, _⟩ := h; rfl)
  | (obtain ⟨_, _, _, rfl, _⟩ := h; rfl)
  | (obtain ⟨_, _, _, _, rfl, _⟩ := h; rfl)
  | (obtain ⟨_, _, _, _, _, rfl, _⟩ := h; rfl)
  | (obtain ⟨_, _, _, _, _, _, rfl, _⟩ := h; rfl)
  | (obtain ⟨_, _, _, _, _, _, _, rfl, _⟩ := h; rfl)
  | (obtain ⟨_, _, _, _, _, _, _, _, rfl, _⟩ := h; rfl)
  | (obtain ⟨_, _, _, _, _, _, _, _, _, rfl, _⟩ := h; rfl)
  | (obtain ⟨_, _, _, _, _, _, _, _, _, _, rfl, _⟩ := h; rfl)
  | (obtain ⟨_, _, _, _, _, _, _, _, _, _, _, rfl, _⟩ := h; rfl)
theorem len_made : ∀ dvs kk, sp_made dvs kk → dvs.length = 2 := by
  intro dvs kk h
  first
  | (obtain ⟨rfl, _⟩ := h; rfl)
  | (obtain ⟨_, rfl, _⟩ := h; rfl)
  | (obtain ⟨_, _, rfl, _⟩ := h; rfl)
  | (obtain ⟨_, _, _, rfl, _⟩ := h; rfl)
  | (obtain ⟨_, _, _, _, rfl, _⟩ := h; rfl)
  | (obtain ⟨_, _, _, _, _, rfl, _⟩ := h; rfl)
  | (obtain ⟨_, _, _, _, _, _, rfl, _⟩ := h; rfl)
  | (obtain ⟨_, _, _, _, _, _, _, rfl, _⟩ := h; rfl)
  | (obtain ⟨_, _, _, _, _, _, _, _, rfl, _⟩ := h; rfl)
  | (obtain ⟨_, _, _, _, _, _, _, _, _, rfl, _⟩ := h; rfl)
  | (obtain ⟨_, _, _, _, _, _, _, _, _, _, rfl, _⟩ := h; rfl)
  | (obtain ⟨_, _, _, _, _, _, _, _, _, _, _, rfl, _⟩ := h; rfl)
theorem len_slopes_of : ∀ dvs kk, sp_slopes_of dvs kk → dvs.length = 1 := by
  intro dvs kk h
  first
  | (obtain ⟨rfl, _⟩ := h; rfl)
  | (obtain ⟨_, rfl, _⟩ := h; rfl)
  | (obtain ⟨_, _, rfl, _⟩ := h; rfl)
  | (obtain ⟨_, _, _, rfl, _⟩ := h; rfl)
  | (obtain ⟨_, _, _, _, rfl, _⟩ := h; rfl)
  | (obtain ⟨_, _, _, _, _, rfl, _⟩ := h; rfl)
  | (obtain ⟨_, _, _, _, _, _, rfl, _⟩ := h; rfl)
  | (obtain ⟨_, _, _, _, _, _, _, rfl, _⟩ := h; rfl)
  | (obtain ⟨_, _, _, _, _, _, _, _, rfl, _⟩ := h; rfl)
  | (obtain ⟨_, _, _, _, _, _, _, _, _, rfl, _⟩ := h; rfl)
  | (obtain ⟨_, _, _, _, _, _, _, _, _, _, rfl, _⟩ := h; rfl)
  | (obtain ⟨_, _, _, _, _, _, _, _, _, _, _, rfl, _⟩ := h; rfl)
theorem len_slopes : ∀ dvs kk, sp_slopes dvs kk → dvs.length = 1 := by
  intro dvs kk h
  first
  | (obtain ⟨rfl, _⟩ := h; rfl)
  | (obtain ⟨_, rfl, _⟩ := h; rfl)
  | (obtain ⟨_, _, rfl, _⟩ := h; rfl)
  | (obtain ⟨_, _, _, rfl, _⟩ := h; rfl)
  | (obtain ⟨_, _, _, _, rfl, _⟩ := h; rfl)
  | (obtain ⟨_, _, _, _, _, rfl, _⟩ := h; rfl)
  | (obtain ⟨_, _, _, _, _, _, rfl, _⟩ := h; rfl)
  | (obtain ⟨_, _, _, _, _, _, _, rfl, _⟩ := h; rfl)
  | (obtain ⟨_, _, _, _, _, _, _, _, rfl, _⟩ := h; rfl)
  | (obtain ⟨_, _, _, _, _, _, _, _, _, rfl, _⟩ := h; rfl)
  | (obtain ⟨_, _, _, _, _, _, _, _, _, _, rfl, _⟩ := h; rfl)
  | (obtain ⟨_, _, _, _, _, _, _, _, _, _, _, rfl, _⟩ := h; rfl)
theorem len_is_fraction : ∀ dvs kk, sp_is_fraction dvs kk → dvs.length = 1 := by
  intro dvs kk h
  first
  | (obtain ⟨rfl, _⟩ := h; rfl)
  | (obtain ⟨_, rfl, _⟩ := h; rfl)
  | (obtain ⟨_, _, rfl, _⟩ := h; rfl)
  | (obtain ⟨_, _, _, rfl, _⟩ := h; rfl)
  | (obtain ⟨_, _, _, _, rfl, _⟩ := h; rfl)
  | (obtain ⟨_, _, _, _, _, rfl, _⟩ := h; rfl)
  | (obtain ⟨_, _, _, _, _, _, rfl, _⟩ := h; rfl)
  | (obtain ⟨_, _, _, _, _, _, _, rfl, _⟩ := h; rfl)
  | (obtain ⟨_, _, _, _, _, _, _, _, rfl, _⟩ := h; rfl)
  | (obtain ⟨_, _, _, _, _, _, _, _, _, rfl, _⟩ := h; rfl)
  | (obtain ⟨_, _, _, _, _, _, _, _, _, _, rfl, _⟩ := h; rfl)
  | (obtain ⟨_, _, _, _, _, _, _, _, _, _, _, rfl, _⟩ := h; rfl)
theorem len_need_part : ∀ dvs kk, sp_need_part dvs kk → dvs.length = 1 := by
  intro dvs kk h
  first
  | (obtain ⟨rfl, _⟩ := h; rfl)
  | (obtain ⟨_, rfl, _⟩ := h; rfl)
  | (obtain ⟨_, _, rfl, _⟩ := h; rfl)
  | (obtain ⟨_, _, _, rfl, _⟩ := h; rfl)
  | (obtain ⟨_, _, _, _, rfl, _⟩ := h; rfl)
  | (obtain ⟨_, _, _, _, _, rfl, _⟩ := h; rfl)
  | (obtain ⟨_, _, _, _, _, _, rfl, _⟩ := h; rfl)
  | (obtain ⟨_, _, _, _, _, _, _, rfl, _⟩ := h; rfl)
  | (obtain ⟨_, _, _, _, _, _, _, _, rfl, _⟩ := h; rfl)
  | (obtain ⟨_, _, _, _, _, _, _, _, _, rfl, _⟩ := h; rfl)
  | (obtain ⟨_, _, _, _, _, _, _, _, _, _, rfl, _⟩ := h; rfl)
  | (obtain ⟨_, _, _, _, _, _, _, _, _, _, _, rfl, _⟩ := h; rfl)
theorem len_need_short : ∀ dvs kk, sp_need_short dvs kk → dvs.length = 1 := by
  intro dvs kk h
  first
  | (obtain ⟨rfl, _⟩ := h; rfl)
  | (obtain ⟨_, rfl, _⟩ := h; rfl)
  | (obtain ⟨_, _, rfl, _⟩ := h; rfl)
  | (obtain ⟨_, _, _, rfl, _⟩ := h; rfl)
  | (obtain ⟨_, _, _, _, rfl, _⟩ := h; rfl)
  | (obtain ⟨_, _, _, _, _, rfl, _⟩ := h; rfl)
  | (obtain ⟨_, _, _, _, _, _, rfl, _⟩ := h; rfl)
  | (obtain ⟨_, _, _, _, _, _, _, rfl, _⟩ := h; rfl)
  | (obtain ⟨_, _, _, _, _, _, _, _, rfl, _⟩ := h; rfl)
  | (obtain ⟨_, _, _, _, _, _, _, _, _, rfl, _⟩ := h; rfl)
  | (obtain ⟨_, _, _, _, _, _, _, _, _, _, rfl, _⟩ := h; rfl)
  | (obtain ⟨_, _, _, _, _, _, _, _, _, _, _, rfl, _⟩ := h; rfl)
theorem len_spread_of : ∀ dvs kk, sp_spread_of dvs kk → dvs.length = 3 := by
  intro dvs kk h
  first
  | (obtain ⟨rfl, _⟩ := h; rfl)
  | (obtain ⟨_, rfl, _⟩ := h; rfl)
  | (obtain ⟨_, _, rfl, _⟩ := h; rfl)
  | (obtain ⟨_, _, _, rfl, _⟩ := h; rfl)
  | (obtain ⟨_, _, _, _, rfl, _⟩ := h; rfl)
  | (obtain ⟨_, _, _, _, _, rfl, _⟩ := h; rfl)
  | (obtain ⟨_, _, _, _, _, _, rfl, _⟩ := h; rfl)
  | (obtain ⟨_, _, _, _, _, _, _, rfl, _⟩ := h; rfl)
  | (obtain ⟨_, _, _, _, _, _, _, _, rfl, _⟩ := h; rfl)
  | (obtain ⟨_, _, _, _, _, _, _, _, _, rfl, _⟩ := h; rfl)
  | (obtain ⟨_, _, _, _, _, _, _, _, _, _, rfl, _⟩ := h; rfl)
  | (obtain ⟨_, _, _, _, _, _, _, _, _, _, _, rfl, _⟩ := h; rfl)
theorem len_even_word : ∀ dvs kk, sp_even_word dvs kk → dvs.length = 1 := by
  intro dvs kk h
  first
  | (obtain ⟨rfl, _⟩ := h; rfl)
  | (obtain ⟨_, rfl, _⟩ := h; rfl)
  | (obtain ⟨_, _, rfl, _⟩ := h; rfl)
  | (obtain ⟨_, _, _, rfl, _⟩ := h; rfl)
  | (obtain ⟨_, _, _, _, rfl, _⟩ := h; rfl)
  | (obtain ⟨_, _, _, _, _, rfl, _⟩ := h; rfl)
  | (obtain ⟨_, _, _, _, _, _, rfl, _⟩ := h; rfl)
  | (obtain ⟨_, _, _, _, _, _, _, rfl, _⟩ := h; rfl)
  | (obtain ⟨_, _, _, _, _, _, _, _, rfl, _⟩ := h; rfl)
  | (obtain ⟨_, _, _, _, _, _, _, _, _, rfl, _⟩ := h; rfl)
  | (obtain ⟨_, _, _, _, _, _, _, _, _, _, rfl, _⟩ := h; rfl)
  | (obtain ⟨_, _, _, _, _, _, _, _, _, _, _, rfl, _⟩ := h; rfl)
theorem len_is_whole : ∀ dvs kk, sp_is_whole dvs kk → dvs.length = 3 := by
  intro dvs kk h
  first
  | (obtain ⟨rfl, _⟩ := h; rfl)
  | (obtain ⟨_, rfl, _⟩ := h; rfl)
  | (obtain ⟨_, _, rfl, _⟩ := h; rfl)
  | (obtain ⟨_, _, _, rfl, _⟩ := h; rfl)
  | (obtain ⟨_, _, _, _, rfl, _⟩ := h; rfl)
  | (obtain ⟨_, _, _, _, _, rfl, _⟩ := h; rfl)
  | (obtain ⟨_, _, _, _, _, _, rfl, _⟩ := h; rfl)
  | (obtain ⟨_, _, _, _, _, _, _, rfl, _⟩ := h; rfl)
  | (obtain ⟨_, _, _, _, _, _, _, _, rfl, _⟩ := h; rfl)
  | (obtain ⟨_, _, _, _, _, _, _, _, _, rfl, _⟩ := h; rfl)
  | (obtain ⟨_, _, _, _, _, _, _, _, _, _, rfl, _⟩ := h; rfl)
  | (obtain ⟨_, _, _, _, _, _, _, _, _, _, _, rfl, _⟩ := h; rfl)
theorem len_spread : ∀ dvs kk, sp_spread dvs kk → dvs.length = 2 := by
  intro dvs kk h
  first
  | (obtain ⟨rfl, _⟩ := h; rfl)
  | (obtain ⟨_, rfl, _⟩ := h; rfl)
  | (obtain ⟨_, _, rfl, _⟩ := h; rfl)
  | (obtain ⟨_, _, _, rfl, _⟩ := h; rfl)
  | (obtain ⟨_, _, _, _, rfl, _⟩ := h; rfl)
  | (obtain ⟨_, _, _, _, _, rfl, _⟩ := h; rfl)
  | (obtain ⟨_, _, _, _, _, _, rfl, _⟩ := h; rfl)
  | (obtain ⟨_, _, _, _, _, _, _, rfl, _⟩ := h; rfl)
  | (obtain ⟨_, _, _, _, _, _, _, _, rfl, _⟩ := h; rfl)
  | (obtain ⟨_, _, _, _, _, _, _, _, _, rfl, _⟩ := h; rfl)
  | (obtain ⟨_, _, _, _, _, _, _, _, _, _, rfl, _⟩ := h; rfl)
  | (obtain ⟨_, _, _, _, _, _, _, _, _, _, _, rfl, _⟩ := h; rfl)
theorem len_is_balanced : ∀ dvs kk, sp_is_balanced dvs kk → dvs.length = 1 := by
  intro dvs kk h
  first
  | (obtain ⟨rfl, _⟩ := h; rfl)
  | (obtain ⟨_, rfl, _⟩ := h; rfl)
  | (obtain ⟨_, _, rfl, _⟩ := h; rfl)
  | (obtain ⟨_, _, _, rfl, _⟩ := h; rfl)
  | (obtain ⟨_, _, _, _, rfl, _⟩ := h; rfl)
  | (obtain ⟨_, _, _, _, _, rfl, _⟩ := h; rfl)
  | (obtain ⟨_, _, _, _, _, _, rfl, _⟩ := h; rfl)
  | (obtain ⟨_, _, _, _, _, _, _, rfl, _⟩ := h; rfl)
  | (obtain ⟨_, _, _, _, _, _, _, _, rfl, _⟩ := h; rfl)
  | (obtain ⟨_, _, _, _, _, _, _, _, _, rfl, _⟩ := h; rfl)
  | (obtain ⟨_, _, _, _, _, _, _, _, _, _, rfl, _⟩ := h; rfl)
  | (obtain ⟨_, _, _, _, _, _, _, _, _, _, _, rfl, _⟩ := h; rfl)
theorem len__law_called : ∀ dvs kk, sp__law_called dvs kk → dvs.length = 3 := by
  intro dvs kk h
  first
  | (obtain ⟨rfl, _⟩ := h; rfl)
  | (obtain ⟨_, rfl, _⟩ := h; rfl)
  | (obtain ⟨_, _, rfl, _⟩ := h; rfl)
  | (obtain ⟨_, _, _, rfl, _⟩ := h; rfl)
  | (obtain ⟨_, _, _, _, rfl, _⟩ := h; rfl)
  | (obtain ⟨_, _, _, _, _, rfl, _⟩ := h; rfl)
  | (obtain ⟨_, _, _, _, _, _, rfl, _⟩ := h; rfl)
  | (obtain ⟨_, _, _, _, _, _, _, rfl, _⟩ := h; rfl)
  | (obtain ⟨_, _, _, _, _, _, _, _, rfl, _⟩ := h; rfl)
  | (obtain ⟨_, _, _, _, _, _, _, _, _, rfl, _⟩ := h; rfl)
  | (obtain ⟨_, _, _, _, _, _, _, _, _, _, rfl, _⟩ := h; rfl)
  | (obtain ⟨_, _, _, _, _, _, _, _, _, _, _, rfl, _⟩ := h; rfl)
theorem len__law_take : ∀ dvs kk, sp__law_take dvs kk → dvs.length = 2 := lenTake
theorem len__law_low : ∀ dvs kk, sp__law_low dvs kk → dvs.length = 2 := by
  intro dvs kk h
  first
  | (obtain ⟨rfl, _⟩ := h; rfl)
  | (obtain ⟨_, rfl, _⟩ := h; rfl)
  | (obtain ⟨_, _, rfl, _⟩ := h; rfl)
  | (obtain ⟨_, _, _, rfl, _⟩ := h; rfl)
  | (obtain ⟨_, _, _, _, rfl, _⟩ := h; rfl)
  | (obtain ⟨_, _, _, _, _, rfl, _⟩ := h; rfl)
  | (obtain ⟨_, _, _, _, _, _, rfl, _⟩ := h; rfl)
  | (obtain ⟨_, _, _, _, _, _, _, rfl, _⟩ := h; rfl)
  | (obtain ⟨_, _, _, _, _, _, _, _, rfl, _⟩ := h; rfl)
  | (obtain ⟨_, _, _, _, _, _, _, _, _, rfl, _⟩ := h; rfl)
  | (obtain ⟨_, _, _, _, _, _, _, _, _, _, rfl, _⟩ := h; rfl)
  | (obtain ⟨_, _, _, _, _, _, _, _, _, _, _, rfl, _⟩ := h; rfl)
theorem len__law_even : ∀ dvs kk, sp__law_even dvs kk → dvs.length = 3 := by
  intro dvs kk h
  first
  | (obtain ⟨rfl, _⟩ := h; rfl)
  | (obtain ⟨_, rfl, _⟩ := h; rfl)
  | (obtain ⟨_, _, rfl, _⟩ := h; rfl)
  | (obtain ⟨_, _, _, rfl, _⟩ := h; rfl)
  | (obtain ⟨_, _, _, _, rfl, _⟩ := h; rfl)
  | (obtain ⟨_, _, _, _, _, rfl, _⟩ := h; rfl)
  | (obtain ⟨_, _, _, _, _, _, rfl, _⟩ := h; rfl)
  | (obtain ⟨_, _, _, _, _, _, _, rfl, _⟩ := h; rfl)
  | (obtain ⟨_, _, _, _, _, _, _, _, rfl, _⟩ := h; rfl)
  | (obtain ⟨_, _, _, _, _, _, _, _, _, rfl, _⟩ := h; rfl)
  | (obtain ⟨_, _, _, _, _, _, _, _, _, _, rfl, _⟩ := h; rfl)
  | (obtain ⟨_, _, _, _, _, _, _, _, _, _, _, rfl, _⟩ := h; rfl)
theorem len__law_drawn_word : ∀ dvs kk, sp__law_drawn_word dvs kk → dvs.length = 2 := by
  intro dvs kk h
  first
  | (obtain ⟨rfl, _⟩ := h; rfl)
  | (obtain ⟨_, rfl, _⟩ := h; rfl)
  | (obtain ⟨_, _, rfl, _⟩ := h; rfl)
  | (obtain ⟨_, _, _, rfl, _⟩ := h; rfl)
  | (obtain ⟨_, _, _, _, rfl, _⟩ := h; rfl)
  | (obtain ⟨_, _, _, _, _, rfl, _⟩ := h; rfl)
  | (obtain ⟨_, _, _, _, _, _, rfl, _⟩ := h; rfl)
  | (obtain ⟨_, _, _, _, _, _, _, rfl, _⟩ := h; rfl)
  | (obtain ⟨_, _, _, _, _, _, _, _, rfl, _⟩ := h; rfl)
  | (obtain ⟨_, _, _, _, _, _, _, _, _, rfl, _⟩ := h; rfl)
  | (obtain ⟨_, _, _, _, _, _, _, _, _, _, rfl, _⟩ := h; rfl)
  | (obtain ⟨_, _, _, _, _, _, _, _, _, _, _, rfl, _⟩ := h; rfl)
theorem len__law_mixed : ∀ dvs kk, sp__law_mixed dvs kk → dvs.length = 2 := lenMixed
theorem lenr__law_same (n : Nat) : ∀ dvs kk, spr__law_same n dvs kk → dvs.length = 2 := by
  rintro dvs kk ⟨_, rfl, h⟩
  rfl
theorem nor__law_same : ∀ dvs kk, ¬ spr__law_same 0 dvs kk := norSame
theorem len__law_balanced : ∀ dvs kk, sp__law_balanced dvs kk → dvs.length = 1 := by
  intro dvs kk h
  first
  | (obtain ⟨rfl, _⟩ := h; rfl)
  | (obtain ⟨_, rfl, _⟩ := h; rfl)
  | (obtain ⟨_, _, rfl, _⟩ := h; rfl)
  | (obtain ⟨_, _, _, rfl, _⟩ := h; rfl)
  | (obtain ⟨_, _, _, _, rfl, _⟩ := h; rfl)
  | (obtain ⟨_, _, _, _, _, rfl, _⟩ := h; rfl)
  | (obtain ⟨_, _, _, _, _, _, rfl, _⟩ := h; rfl)
  | (obtain ⟨_, _, _, _, _, _, _, rfl, _⟩ := h; rfl)
  | (obtain ⟨_, _, _, _, _, _, _, _, rfl, _⟩ := h; rfl)
  | (obtain ⟨_, _, _, _, _, _, _, _, _, rfl, _⟩ := h; rfl)
  | (obtain ⟨_, _, _, _, _, _, _, _, _, _, rfl, _⟩ := h; rfl)
  | (obtain ⟨_, _, _, _, _, _, _, _, _, _, _, rfl, _⟩ := h; rfl)
theorem len__law_no_words : ∀ dvs kk, sp__law_no_words dvs kk → dvs.length = 0 := by
  intro dvs kk h
  first
  | (obtain ⟨rfl, _⟩ := h; rfl)
  | (obtain ⟨_, rfl, _⟩ := h; rfl)
  | (obtain ⟨_, _, rfl, _⟩ := h; rfl)
  | (obtain ⟨_, _, _, rfl, _⟩ := h; rfl)
  | (obtain ⟨_, _, _, _, rfl, _⟩ := h; rfl)
  | (obtain ⟨_, _, _, _, _, rfl, _⟩ := h; rfl)
  | (obtain ⟨_, _, _, _, _, _, rfl, _⟩ := h; rfl)
  | (obtain ⟨_, _, _, _, _, _, _, rfl, _⟩ := h; rfl)
  | (obtain ⟨_, _, _, _, _, _, _, _, rfl, _⟩ := h; rfl)
  | (obtain ⟨_, _, _, _, _, _, _, _, _, rfl, _⟩ := h; rfl)
  | (obtain ⟨_, _, _, _, _, _, _, _, _, _, rfl, _⟩ := h; rfl)
  | (obtain ⟨_, _, _, _, _, _, _, _, _, _, _, rfl, _⟩ := h; rfl)
theorem len__law_no_fractions : ∀ dvs kk, sp__law_no_fractions dvs kk → dvs.length = 0 := by
  intro dvs kk h
  first
  | (obtain ⟨rfl, _⟩ := h; rfl)
  | (obtain ⟨_, rfl, _⟩ := h; rfl)
  | (obtain ⟨_, _, rfl, _⟩ := h; rfl)
  | (obtain ⟨_, _, _, rfl, _⟩ := h; rfl)
  | (obtain ⟨_, _, _, _, rfl, _⟩ := h; rfl)
  | (obtain ⟨_, _, _, _, _, rfl, _⟩ := h; rfl)
  | (obtain ⟨_, _, _, _, _, _, rfl, _⟩ := h; rfl)
  | (obtain ⟨_, _, _, _, _, _, _, rfl, _⟩ := h; rfl)
  | (obtain ⟨_, _, _, _, _, _, _, _, rfl, _⟩ := h; rfl)
  | (obtain ⟨_, _, _, _, _, _, _, _, _, rfl, _⟩ := h; rfl)
  | (obtain ⟨_, _, _, _, _, _, _, _, _, _, rfl, _⟩ := h; rfl)
  | (obtain ⟨_, _, _, _, _, _, _, _, _, _, _, rfl, _⟩ := h; rfl)
theorem len__law_cell_right : ∀ dvs kk, sp__law_cell_right dvs kk → dvs.length = 1 := lenRight
theorem len__law_box : ∀ dvs kk, sp__law_box dvs kk → dvs.length = 1 := lenBox
theorem len__law_cell : ∀ dvs kk, sp__law_cell dvs kk → dvs.length = 2 := lenCell
theorem len_law : ∀ dvs kk, sp_law dvs kk → dvs.length = 1 := lenLaw
end K11

/-! the transformers of the defs, printed by gen.py -/
namespace K11
open PySem DW
/-- is_number(thing), slots 0 thing; level 1 -/
def w_is_number : WS := (wRet (wAndV (wUn (dIsTy .int) (wVar 0)) (wNotV (wUn (dIsTy .bool) (wVar 0)))))
/-- is_word(thing), slots 0 thing, 1 letter; level 2 -/
def w_is_word : WS := (wSeq (wIfS (wOr (wNot (wTst (wUn (dIsTys [.list, .tuple]) (wVar 0)))) (wNot (wTst (wChain dLe dLe (wC (.int 1)) (wUn dLen (wVar 0)) (wC (.int 100)))))) (wRet (wC (.bl false))) wNext)
    (wRet (wUn dAll (wFrz (wLc (wVar 0) (.nm 1) [1] wYes (wAndV (wCall sp_is_number [.v (wVar 1)]) (wBin dIn (wVar 1) (wTup [(wC (.int 0)), (wC (.int 1))]))))))))
/-- need_word(thing), slots 0 thing; level 3 -/
def w_need_word : WS := (wIfS (wNot (wTst (wCall sp_is_word [.v (wCore (wVar 0))]))) (wRaise (Str.ofString "NoWord") (Str.ofString "found") (wVar 0)) wNext)
/-- limits(word), slots 0 word, 1 sums*, 2 letter, 3 low, 4 high, 5 last, 6 first, 7 size, 8 ones; level 1 -/
def w_limits : WS := (wSeq (wAsgO (wLst [(wC (.int 0))]) 1)
    (wSeq (wFor (wVar 0) (.nm 2) (wApp 1 (wBin dAdd (wIxO 1 (wUn dNeg (wC (.int 1)))) (wVar 2))))
    (wSeq (wAsg (wTup [(wTup [(wUn dNeg (wC (.int 1))), (wC (.int 1))]), (wTup [(wC (.int 2)), (wC (.int 1))])]) (.tp [(.nm 3), (.nm 4)]))
    (wSeq (wForR [(wC (.int 1)), (wLenO 1)] (.nm 5) (wForR [(wVar 5)] (.nm 6) (wSeq (wPar 7 8 (wBin dSub (wVar 5) (wVar 6)) (wBin dSub (wIxO 1 (wVar 5)) (wIxO 1 (wVar 6))))
    (wSeq (wIfS (wTst (wBin dGt (wBin dMul (wBin dSub (wVar 8) (wC (.int 1))) (wBin dIx (wVar 3) (wC (.int 1)))) (wBin dMul (wBin dIx (wVar 3) (wC (.int 0))) (wVar 7)))) (wAsg (wTup [(wBin dSub (wVar 8) (wC (.int 1))), (wVar 7)]) (.nm 3)) wNext)
    (wIfS (wTst (wBin dLt (wBin dMul (wBin dAdd (wVar 8) (wC (.int 1))) (wBin dIx (wVar 4) (wC (.int 1)))) (wBin dMul (wBin dIx (wVar 4) (wC (.int 0))) (wVar 7)))) (wAsg (wTup [(wBin dAdd (wVar 8) (wC (.int 1))), (wVar 7)]) (.nm 4)) wNext)))))
    (wRet (wTup [(wVar 3), (wVar 4)]))))))
/-- common(one, other), slots 0 one, 1 other; level 1 -/
def w_common : WS := (wSeq (wAsg (wUn dAbs (wVar 0)) (.nm 0))
    (wSeq (wAsg (wUn dAbs (wVar 1)) (.nm 1))
    (wSeq (wWhile (wTst (wBin dNe (wVar 1) (wC (.int 0)))) (wPar 0 1 (wVar 1) (wBin dMod (wVar 0) (wVar 1))))
    (wRet (wVar 0)))))
/-- made(top, bottom), slots 0 top, 1 bottom, 2 by; level 2 -/
def w_made : WS := (wSeq (wAsg (wCall sp_common [.v (wVar 0), .v (wVar 1)]) (.nm 2))
    (wSeq (wIfS (wTst (wBin dLt (wVar 1) (wC (.int 0)))) (wAsg (wUn dNeg (wVar 2)) (.nm 2)) wNext)
    (wRet (wTup [(wBin dFdiv (wVar 0) (wVar 2)), (wBin dFdiv (wVar 1) (wVar 2))]))))
/-- slopes_of(word), slots 0 word, 1 low, 2 high, 3 low_in, 4 high_in, 5 first, 6 last; level 3 -/
def w_slopes_of : WS := (wSeq (wAsg (wCall sp_limits [.v (wCore (wVar 0))]) (.tp [(.nm 1), (.nm 2)]))
    (wSeq (wIfS (wTst (wBin dGe (wBin dMul (wBin dIx (wVar 1) (wC (.int 0))) (wBin dIx (wVar 2) (wC (.int 1)))) (wBin dMul (wBin dIx (wVar 2) (wC (.int 0))) (wBin dIx (wVar 1) (wC (.int 1)))))) (wRet (wC .non)) wNext)
    (wSeq (wPar 3 4 (wBin dLt (wBin dIx (wVar 1) (wC (.int 0))) (wC (.int 0))) (wBin dGt (wBin dIx (wVar 2) (wC (.int 0))) (wBin dIx (wVar 2) (wC (.int 1)))))
    (wSeq (wAsg (wIf (wTst (wVar 3)) (wTup [(wC (.int 0)), (wC (.int 1))]) (wCall sp_made [.v (wBin dIx (wVar 1) (wC (.int 0))), .v (wBin dIx (wVar 1) (wC (.int 1)))])) (.nm 5))
    (wSeq (wAsg (wIf (wTst (wVar 4)) (wTup [(wC (.int 1)), (wC (.int 1))]) (wCall sp_made [.v (wBin dIx (wVar 2) (wC (.int 0))), .v (wBin dIx (wVar 2) (wC (.int 1)))])) (.nm 6))
    (wRet (wTup [(wVar 5), (wVar 3), (wVar 6), (wVar 4)])))))))
/-- slopes(word), slots 0 word; level 4 -/
def w_slopes : WS := (wSeq (wDrop (wCall sp_need_word [.v (wVar 0)]))
    (wRet (wCall sp_slopes_of [.v (wCore (wVar 0))])))
/-- is_fraction(thing), slots 0 thing; level 2 -/
def w_is_fraction : WS := (wSeq (wIfS (wOr (wNot (wTst (wUn (dIsTy .tuple) (wVar 0)))) (wOr (wTst (wBin dNe (wUn dLen (wVar 0)) (wC (.int 2)))) (wOr (wNot (wTst (wCall sp_is_number [.v (wBin dIx (wVar 0) (wC (.int 0)))]))) (wNot (wTst (wCall sp_is_number [.v (wBin dIx (wVar 0) (wC (.int 1)))])))))) (wRet (wC (.bl false))) wNext)
    (wRet (wAndV (wBin dGe (wBin dIx (wVar 0) (wC (.int 1))) (wC (.int 1))) (wBin dEq (wCall sp_common [.v (wBin dIx (wVar 0) (wC (.int 0))), .v (wBin dIx (wVar 0) (wC (.int 1)))]) (wC (.int 1))))))
/-- need_part(fraction), slots 0 fraction; level 3 -/
def w_need_part : WS := (wIfS (wOr (wNot (wTst (wCall sp_is_fraction [.v (wVar 0)]))) (wNot (wTst (wChain dLe dLe (wC (.int 0)) (wBin dIx (wVar 0) (wC (.int 0))) (wBin dIx (wVar 0) (wC (.int 1))))))) (wRaise (Str.ofString "NoFraction") (Str.ofString "found") (wVar 0)) wNext)
/-- need_short(fraction), slots 0 fraction; level 4 -/
def w_need_short : WS := (wSeq (wDrop (wCall sp_need_part [.v (wVar 0)]))
    (wIfS (wTst (wBin dGt (wBin dIx (wVar 0) (wC (.int 1))) (wC (.int 100)))) (wRaise (Str.ofString "TooMany") (Str.ofString "many") (wBin dIx (wVar 0) (wC (.int 1)))) wNext))
/-- spread_of(ones, many, letters), slots 0 ones, 1 many, 2 letters, 3 at; level 1 -/
def w_spread_of : WS := (wRetO (wLcR [(wVar 2)] (.nm 3) [3] wYes (wBin dSub (wBin dFdiv (wBin dMul (wBin dAdd (wVar 3) (wC (.int 1))) (wVar 0)) (wVar 1)) (wBin dFdiv (wBin dMul (wVar 3) (wVar 0)) (wVar 1)))))
/-- even_word(fraction), slots 0 fraction; level 5 -/
def w_even_word : WS := (wSeq (wDrop (wCall sp_need_short [.v (wVar 0)]))
    (wRetO (wCallO sp_spread_of [.v (wBin dIx (wVar 0) (wC (.int 0))), .v (wBin dIx (wVar 0) (wC (.int 1))), .v (wBin dIx (wVar 0) (wC (.int 1)))])))
/-- is_whole(thing, low, high), slots 0 thing, 1 low, 2 high; level 2 -/
def w_is_whole : WS := (wRet (wAndV (wCall sp_is_number [.v (wVar 0)]) (wChain dLe dLe (wVar 1) (wVar 0) (wVar 2))))
/-- spread(ones, many), slots 0 ones, 1 many; level 3 -/
def w_spread : WS := (wSeq (wIfS (wNot (wTst (wCall sp_is_whole [.v (wVar 1), .v (wC (.int 1)), .v (wC (.int 100))]))) (wRaise (Str.ofString "NoNumber") (Str.ofString "found") (wVar 1)) wNext)
    (wSeq (wIfS (wNot (wTst (wCall sp_is_whole [.v (wVar 0), .v (wC (.int 0)), .v (wVar 1)]))) (wRaise (Str.ofString "NoNumber") (Str.ofString "found") (wVar 0)) wNext)
    (wRetO (wCallO sp_spread_of [.v (wVar 0), .v (wVar 1), .v (wVar 1)]))))
/-- is_balanced(word), slots 0 word; level 4 -/
def w_is_balanced : WS := (wSeq (wDrop (wCall sp_need_word [.v (wVar 0)]))
    (wRet (wUn dNotN (wCall sp_slopes_of [.v (wCore (wVar 0))]))))
/-- _law_called(door, ask, by_name), slots 0 door, 1 ask, 2 by_name; level 6 -/
def w__law_called : WS := (wSeq (wIfS (wTst (wBin dEq (wVar 0) (wC (.int 0)))) (wRetO (wIfO (wTst (wVar 2)) (wCallKO sp_even_word [(wBin dIx (wVar 1) (wC (.int 0)))] [] [0]) (wCallO sp_even_word [.v (wBin dIx (wVar 1) (wC (.int 0)))]))) wNext)
    (wSeq (wIfS (wTst (wBin dEq (wVar 0) (wC (.int 1)))) (wRetO (wIfO (wTst (wVar 2)) (wCallKO sp_spread [(wBin dIx (wVar 1) (wC (.int 1))), (wBin dIx (wVar 1) (wC (.int 0)))] [] [1, 0]) (wCallO sp_spread [.v (wBin dIx (wVar 1) (wC (.int 0))), .v (wBin dIx (wVar 1) (wC (.int 1)))]))) wNext)
    (wSeq (wIfS (wTst (wBin dEq (wVar 0) (wC (.int 2)))) (wRet (wIf (wTst (wVar 2)) (wCallK sp_is_balanced [(wBin dIx (wVar 1) (wC (.int 0)))] [] [0]) (wCall sp_is_balanced [.v (wBin dIx (wVar 1) (wC (.int 0)))]))) wNext)
    (wRet (wIf (wTst (wVar 2)) (wCallK sp_slopes [(wBin dIx (wVar 1) (wC (.int 0)))] [] [0]) (wCall sp_slopes [.v (wBin dIx (wVar 1) (wC (.int 0)))]))))))
/-- _law_take(box, many), slots 0 box*, 1 many, 2 digit, 3 mixed; level 1 -/
def w__law_take : WS := (wSeq (wIfS (wAnd (wTst (wIxO 0 (wC (.int 1)))) (wTst (wBin dGt (wIxO 0 (wC (.int 0))) (wC (.int 0))))) (wSeq (wAsg (wBin dMod (wUn dInt (wIxO 0 (wC (.int 0)))) (wVar 1)) (.nm 2))
    (wSeq (wSet 0 (wC (.int 0)) (wBin dFdiv (wIxO 0 (wC (.int 0))) (wVar 1)))
    (wRet (wVar 2)))) wNext)
    (wSeq (wSet 0 (wC (.int 3)) (wBin dAdd (wIxO 0 (wC (.int 3))) (wC (.int 1))))
    (wSeq (wAsg (wBin dMod (wUn dInt (wBin dPow (wBin dAdd (wBin dAdd (wIxO 0 (wC (.int 2))) (wBin dMul (wC (.int 15486703)) (wIxO 0 (wC (.int 3))))) (wC (.int 179425379))) (wC (.int 5)))) (wC (.int 2147483647))) (.nm 3))
    (wRet (wBin dMod (wUn dInt (wBin dFdiv (wBin dMod (wUn dInt (wBin dPow (wBin dAdd (wBin dMul (wVar 3) (wC (.int 48271))) (wBin dMul (wC (.int 8597)) (wIxO 0 (wC (.int 3))))) (wC (.int 3)))) (wC (.int 2147483587))) (wC (.int 64)))) (wVar 1))))))
/-- _law_low(top, base), slots 0 top, 1 base, 2 one, 3 other; level 1 -/
def w__law_low : WS := (wSeq (wPar 2 3 (wUn dAbs (wVar 0)) (wUn dAbs (wVar 1)))
    (wSeq (wWhile (wTst (wBin dGt (wVar 3) (wC (.int 0)))) (wPar 2 3 (wVar 3) (wBin dMod (wUn dInt (wVar 2)) (wVar 3))))
    (wRet (wIf (wTst (wBin dGt (wVar 1) (wC (.int 0)))) (wTup [(wBin dFdiv (wVar 0) (wVar 2)), (wBin dFdiv (wVar 1) (wVar 2))]) (wTup [(wBin dFdiv (wUn dNeg (wVar 0)) (wVar 2)), (wBin dFdiv (wUn dNeg (wVar 1)) (wVar 2))])))))
/-- _law_even(ones, many, letters), slots 0 ones, 1 many, 2 letters, 3 k; level 1 -/
def w__law_even : WS := (wRetO (wLcR [(wVar 2)] (.nm 3) [3] wYes (wBin dSub (wBin dFdiv (wBin dMul (wBin dAdd (wVar 3) (wC (.int 1))) (wVar 0)) (wVar 1)) (wBin dFdiv (wBin dMul (wVar 3) (wVar 0)) (wVar 1)))))
/-- _law_drawn_word(box, most), slots 0 box*, 1 most, 2 way, 3 many, 4 base, 5 ones, 6 start, 7 word*, 8 at, 9 k; level 2 -/
def w__law_drawn_word : WS := (wSeq (wPar 2 3 (wCall sp__law_take [.s 0, .v (wC (.int 5))]) (wBin dAdd (wC (.int 1)) (wCall sp__law_take [.s 0, .v (wVar 1)])))
    (wSeq (wIfS (wTst (wBin dEq (wVar 2) (wC (.int 0)))) (wRetO (wLcR [(wVar 3)] (.nm 9) [9] wYes (wCall sp__law_take [.s 0, .v (wC (.int 2))]))) wNext)
    (wSeq (wAsg (wBin dAdd (wC (.int 1)) (wCall sp__law_take [.s 0, .v (wC (.int 40))])) (.nm 4))
    (wSeq (wPar 5 6 (wCall sp__law_take [.s 0, .v (wBin dAdd (wVar 4) (wC (.int 1)))]) (wCall sp__law_take [.s 0, .v (wVar 4)]))
    (wSeq (wAsgO (wCut (wFrz (wCallO sp__law_even [.v (wVar 5), .v (wVar 4), .v (wBin dAdd (wVar 6) (wVar 3))])) (wP (wVar 6)) wNoP) 7)
    (wSeq (wIfS (wTst (wBin dEq (wVar 2) (wC (.int 1)))) (wSeq (wAsg (wCall sp__law_take [.s 0, .v (wVar 3)]) (.nm 8))
    (wSet 7 (wVar 8) (wBin dSub (wC (.int 1)) (wIxO 7 (wVar 8))))) wNext)
    (wRetS 7)))))))
/-- _law_mixed(box, items), slots 0 box*, 1 items, 2 left*, 3 found*; level 2 -/
def w__law_mixed : WS := (wSeq (wParOO 2 3 (wListF (wVar 1)) (wLst []))
    (wSeq (wWhile (wNeO 2) (wApp 3 (wPopAt 2 (wCall sp__law_take [.s 0, .v (wLenO 2)]))))
    (wRetS 3)))
/-- _law_same(given, due), slots 0 given, 1 due, 2 k; level 6 -/
def w__law_same (sp__law_same : FS) : WS := (wSeq (wIfS (wOr (wTst (wUn dIsN (wVar 1))) (wTst (wUn (dIsTy .bool) (wVar 1)))) (wRet (wIf (wTst (wUn dIsN (wVar 1))) (wUn dIsN (wVar 0)) (wAndV (wUn (dIsTy .bool) (wVar 0)) (wBin dEq (wBin dIs (wVar 0) (wC (.bl true))) (wBin dIs (wVar 1) (wC (.bl true))))))) wNext)
    (wSeq (wIfS (wTst (wUn (dIsTy .int) (wVar 1))) (wRet (wAndV (wUn (dIsTy .int) (wVar 0)) (wAndV (wNotV (wUn (dIsTy .bool) (wVar 0))) (wBin dEq (wBin dSub (wUn dInt (wVar 0)) (wVar 1)) (wC (.int 0)))))) wNext)
    (wSeq (wIfS (wTst (wUn (dIsTy .str) (wVar 1))) (wRet (wAndV (wUn (dIsTy .str) (wVar 0)) (wAndV (wBin dEq (wUn dLen (wVar 0)) (wUn dLen (wVar 1))) (wBin dEq (wFrz (wLcR [(wUn dLen (wVar 1))] (.nm 2) [2] (wTst (wBin dNe (wFrz (wCut (wVar 0) (wP (wVar 2)) (wP (wBin dAdd (wVar 2) (wC (.int 1)))))) (wBin dIx (wVar 1) (wVar 2)))) (wVar 2))) (wFrz (wLst [])))))) wNext)
    (wSeq (wIfS (wOr (wTst (wBin dNe (wUn (dIsTy .list) (wVar 0)) (wUn (dIsTy .list) (wVar 1)))) (wTst (wBin dNe (wUn (dIsTy .tuple) (wVar 0)) (wUn (dIsTy .tuple) (wVar 1))))) (wRet (wC (.bl false))) wNext)
    (wRet (wAndV (wBin dEq (wUn dLen (wVar 0)) (wUn dLen (wVar 1))) (wBin dEq (wFrz (wLcR [(wUn dLen (wVar 1))] (.nm 2) [2] (wNot (wTst (wCall sp__law_same [.v (wBin dIx (wVar 0) (wVar 2)), .v (wBin dIx (wVar 1) (wVar 2))]))) (wVar 2))) (wFrz (wLst [])))))))))
/-- _law_balanced(word), slots 0 word, 1 sums*, 2 letter, 3 size, 4 ones, 5 k; level 1 -/
def w__law_balanced : WS := (wSeq (wAsgO (wLst [(wC (.int 0))]) 1)
    (wSeq (wFor (wVar 0) (.nm 2) (wApp 1 (wBin dAdd (wIxO 1 (wUn dNeg (wC (.int 1)))) (wVar 2))))
    (wSeq (wForR [(wC (.int 1)), (wUn dLen (wVar 0))] (.nm 3) (wSeq (wAsg (wFrz (wLcR [(wBin dAdd (wBin dSub (wUn dLen (wVar 0)) (wVar 3)) (wC (.int 1)))] (.nm 5) [5] wYes (wBin dSub (wIxO 1 (wBin dAdd (wVar 5) (wVar 3))) (wIxO 1 (wVar 5))))) (.nm 4))
    (wIfS (wTst (wBin dGt (wBin dSub (wUn dMaxL (wVar 4)) (wUn dMinL (wVar 4))) (wC (.int 1)))) (wRet (wC (.bl false))) wNext)))
    (wRet (wC (.bl true))))))
/-- _law_no_words(), slots ; level 1 -/
def w__law_no_words : WS := (wRetO (wLst [(wC .non), (wC (.int 7)), (wC (.str (Str.ofString "01"))), (wFrz (wLst [])), (wTup []), (wDct (Str.ofString "a") 1), (wFrz (wLst [(wC (.int 2))])), (wFrz (wLst [(wC (.int 0)), (wUn dNeg (wC (.int 1)))])), (wFrz (wLst [(wC (.bl true))])), (wFrz (wLst [(wC (.int 0)), (wC .non)])), (wFrz (wLst [(wC (.str (Str.ofString "0")))])), (wFrz (wLst [(wFrz (wLst [(wC (.int 0))]))])), (wFrz (wRep (wLst [(wC (.int 0))]) (wC (.int 101)))), (wFrz (wLst [(wC (.int 0)), (wC (.int 1)), (wC (.int 2))])), (wTup [(wC (.int 0)), (wTup [(wC (.int 1))])])]))
/-- _law_no_fractions(), slots ; level 1 -/
def w__law_no_fractions : WS := (wRetO (wLst [(wC .non), (wC (.int 7)), (wC (.str (Str.ofString "1/2"))), (wFrz (wLst [(wC (.int 1)), (wC (.int 2))])), (wTup [(wC (.int 1))]), (wTup [(wC (.int 1)), (wC (.int 2)), (wC (.int 3))]), (wTup [(wC (.int 2)), (wC (.int 4))]), (wTup [(wC (.int 1)), (wC (.int 0))]), (wTup [(wC (.int 1)), (wUn dNeg (wC (.int 2)))]), (wTup [(wC (.int 0)), (wC (.int 2))]), (wTup [(wC (.bl true)), (wC (.int 2))]), (wTup [(wC (.int 1)), (wC (.bl true))]), (wTup [(wC (.str (Str.ofString "1"))), (wC (.int 2))]), (wDct (Str.ofString "a") 1), (wFrz (wLst [])), (wTup [(wC .non), (wC (.int 1))]), (wTup [(wTup [(wC (.int 1)), (wC (.int 2))]), (wC (.int 1))])]))
/-- _law_cell_right(box), slots 0 box*, 1 by_name, 2 turn, 3 x, 4 many, 5 ones, 6 due, 7 part, 8 word, 9 given, 10 good, 11 told, 12 value, 13 wide; level 9 -/
def w__law_cell_right : WS := (wSeq (wAsg (wBin dEq (wCall sp__law_take [.s 0, .v (wC (.int 2))]) (wC (.int 1))) (.nm 1))
    (wSeq (wForR [(wC (.int 3))] (.nm 2) (wSeq (wAsg (wCall sp__law_low [.v (wCall sp__law_take [.s 0, .v (wC (.int 101))]), .v (wBin dAdd (wC (.int 1)) (wCall sp__law_take [.s 0, .v (wC (.int 100))]))]) (.nm 3))
    (wSeq (wAsg (wIf (wTst (wBin dLe (wBin dIx (wVar 3) (wC (.int 0))) (wBin dIx (wVar 3) (wC (.int 1))))) (wVar 3) (wCall sp__law_low [.v (wBin dIx (wVar 3) (wC (.int 1))), .v (wBin dIx (wVar 3) (wC (.int 0)))])) (.nm 3))
    (wSeq (wIfS (wAnd (wTst (wBin dLe (wBin dIx (wVar 3) (wC (.int 1))) (wC (.int 100)))) (wNot (wTst (wCall sp__law_told_same [.v (wC (.int 0)), .v (wFrz (wLst [(wVar 3)])), .v (wFrz (wCallO sp__law_even [.v (wBin dIx (wVar 3) (wC (.int 0))), .v (wBin dIx (wVar 3) (wC (.int 1))), .v (wBin dIx (wVar 3) (wC (.int 1)))])), .v (wVar 1)])))) (wRet (wC (.bl false))) wNext)
    (wSeq (wAsg (wBin dAdd (wC (.int 1)) (wCall sp__law_take [.s 0, .v (wC (.int 100))])) (.nm 4))
    (wSeq (wAsg (wCall sp__law_take [.s 0, .v (wBin dAdd (wVar 4) (wC (.int 1)))]) (.nm 5))
    (wSeq (wAsg (wFrz (wCallO sp__law_even [.v (wVar 5), .v (wVar 4), .v (wVar 4)])) (.nm 6))
    (wSeq (wIfS (wOr (wNot (wTst (wCall sp__law_told_same [.v (wC (.int 1)), .v (wFrz (wLst [(wVar 5), (wVar 4)])), .v (wVar 6), .v (wNotV (wVar 1))]))) (wTst (wBin dNe (wUn dSum (wVar 6)) (wVar 5)))) (wRet (wC (.bl false))) wNext)
    (wSeq (wAsg (wCall sp__law_low [.v (wVar 5), .v (wVar 4)]) (.nm 7))
    (wIfS (wOr (wTst (wBin dNe (wVar 6) (wFrz (wRepL (wCallO sp__law_even [.v (wBin dIx (wVar 7) (wC (.int 0))), .v (wBin dIx (wVar 7) (wC (.int 1))), .v (wBin dIx (wVar 7) (wC (.int 1)))]) (wBin dFdiv (wVar 4) (wBin dIx (wVar 7) (wC (.int 1)))))))) (wAnd (wTst (wBin dLe (wVar 4) (wC (.int 40)))) (wNot (wTst (wCall sp__law_balanced [.v (wFrz (wCat (wVar 6) (wVar 6)))]))))) (wRet (wC (.bl false))) wNext))))))))))
    (wSeq (wForR [(wC (.int 3))] (.nm 2) (wSeq (wAsg (wFrz (wCallO sp__law_drawn_word [.s 0, .v (wC (.int 24))])) (.nm 8))
    (wSeq (wPar 9 10 (wIf (wTst (wVar 1)) (wTupF (wVar 8)) (wFrz (wListF (wVar 8)))) (wCall sp__law_balanced [.v (wVar 8)]))
    (wSeq (wIfS (wNot (wTst (wCall sp__law_told_same [.v (wC (.int 2)), .v (wFrz (wLst [(wVar 9)])), .v (wVar 10), .v (wVar 1)]))) (wRet (wC (.bl false))) wNext)
    (wSeq (wAsg (wCall sp__law_told [.v (wC (.int 3)), .v (wFrz (wLst [(wVar 9)])), .v (wNotV (wVar 1))]) (.nm 11))
    (wIfS (wOr (wTst (wBin dNe (wBin dIx (wVar 11) (wC (.int 0))) (wC (.str (Str.ofString "told"))))) (wOr (wNot (wTst (wBin dIx (wVar 11) (wC (.int 3))))) (wTst (wBin dNe (wUn dIsN (wBin dIx (wVar 11) (wC (.int 1)))) (wNotV (wVar 10)))))) (wRet (wC (.bl false))) wNext))))))
    (wSeq (wFor (wFrz (wCut (wFrz (wCallO sp__law_mixed [.s 0, .v (wFrz (wCallO sp__law_no_words []))])) wNoP (wP (wC (.int 4))))) (.nm 12) (wIfS (wOr (wNot (wTst (wCall sp__law_refused [.v (wC (.int 2)), .v (wFrz (wLst [(wVar 12)])), .v (wC (.str (Str.ofString "word"))), .v (wC (.int 0)), .v (wVar 1)]))) (wNot (wTst (wCall sp__law_refused [.v (wC (.int 3)), .v (wFrz (wLst [(wVar 12)])), .v (wC (.str (Str.ofString "word"))), .v (wC (.int 0)), .v (wNotV (wVar 1))])))) (wRet (wC (.bl false))) wNext))
    (wSeq (wFor (wFrz (wCut (wFrz (wCallO sp__law_mixed [.s 0, .v (wFrz (wCat (wFrz (wCallO sp__law_no_fractions [])) (wFrz (wLst [(wTup [(wUn dNeg (wC (.int 1))), (wC (.int 2))]), (wTup [(wC (.int 3)), (wC (.int 2))])]))))])) wNoP (wP (wC (.int 4))))) (.nm 12) (wIfS (wNot (wTst (wCall sp__law_refused [.v (wC (.int 0)), .v (wFrz (wLst [(wVar 12)])), .v (wC (.str (Str.ofString "fraction"))), .v (wC (.int 0)), .v (wVar 1)]))) (wRet (wC (.bl false))) wNext))
    (wSeq (wFor (wFrz (wCut (wFrz (wCallO sp__law_mixed [.s 0, .v (wFrz (wLst [(wC (.int 0)), (wC (.int 101)), (wUn dNeg (wC (.int 1))), (wC .non), (wC (.bl true)), (wC (.str (Str.ofString "3"))), (wFrz (wLst [(wC (.int 3))])), (wBin dPow (wC (.int 10)) (wC (.int 20)))]))])) wNoP (wP (wC (.int 3))))) (.nm 12) (wIfS (wNot (wTst (wCall sp__law_refused [.v (wC (.int 1)), .v (wFrz (wLst [(wC .non), (wVar 12)])), .v (wC (.str (Str.ofString "number"))), .v (wC (.int 1)), .v (wVar 1)]))) (wRet (wC (.bl false))) wNext))
    (wSeq (wFor (wFrz (wCut (wFrz (wCallO sp__law_mixed [.s 0, .v (wFrz (wLst [(wUn dNeg (wC (.int 1))), (wC (.int 8)), (wC .non), (wC (.bl true)), (wC (.str (Str.ofString "3"))), (wFrz (wLst [(wC (.int 3))])), (wBin dPow (wC (.int 10)) (wC (.int 20)))]))])) wNoP (wP (wC (.int 3))))) (.nm 12) (wIfS (wNot (wTst (wCall sp__law_refused [.v (wC (.int 1)), .v (wFrz (wLst [(wVar 12), (wC (.int 7))])), .v (wC (.str (Str.ofString "number"))), .v (wC (.int 0)), .v (wNotV (wVar 1))]))) (wRet (wC (.bl false))) wNext))
    (wSeq (wAsg (wTup [(wBin dAdd (wC (.int 1)) (wCall sp__law_take [.s 0, .v (wC (.int 50))])), (wC (.int 101))]) (.nm 13))
    (wSeq (wAsg (wCall sp__law_told [.v (wC (.int 0)), .v (wFrz (wLst [(wVar 13)])), .v (wVar 1)]) (.nm 11))
    (wRet (wAndV (wBin dEq (wBin dIx (wVar 11) (wC (.int 0))) (wC (.str (Str.ofString "many")))) (wAndV (wBin dIx (wVar 11) (wC (.int 3))) (wCall sp__law_same [.v (wBin dIx (wVar 11) (wC (.int 1))), .v (wC (.int 101))])))))))))))))
/-- _law_box(great), slots 0 great; level 1 -/
def w__law_box : WS := (wRetO (wLst [(wUn dAbs (wVar 0)), (wBin dGe (wUn dAbs (wVar 0)) (wBin dPow (wC (.int 10)) (wC (.int 18)))), (wBin dMod (wUn dInt (wUn dAbs (wVar 0))) (wC (.int 2147483629))), (wC (.int 0))]))
/-- _law_cell(script, k), slots 0 script, 1 k; level 1 -/
def w__law_cell : WS := (wRet (wIf (wTst (wBin dLt (wVar 1) (wUn dLen (wVar 0)))) (wBin dIx (wVar 0) (wVar 1)) (wBin dAdd (wBin dMul (wC (.int 8597)) (wVar 1)) (wBin dMod (wUn dInt (wUn dSum (wFrz (wCut (wVar 0) wNoP (wP (wC (.int 1))))))) (wC (.int 1000003))))))
/-- law(script), slots 0 script, 1 k; level 10 -/
def w_law : WS := (wSeq (wForR [(wBin dMax (wC (.int 2)) (wBin dMin (wC (.int 4)) (wUn dLen (wVar 0))))] (.nm 1) (wIfS (wNot (wTst (wCallT sp__law_cell_right (wCallO sp__law_box [.v (wCall sp__law_cell [.v (wVar 0), .v (wVar 1)])])))) (wRet (wC (.bl false))) wNext))
    (wRet (wC (.bl true))))
end K11

namespace K11
open PySem DW CA
theorem kp__law_take : Keeps0 4 w__law_take sp__law_take := kpTake (by decide) (by decide) (by decide)
theorem kp__law_box : Keeps0 1 w__law_box sp__law_box := kpBox
theorem kp__law_cell : Keeps0 2 w__law_cell sp__law_cell := kpCell (by decide)
theorem kp__law_mixed : Keeps0 4 w__law_mixed sp__law_mixed := kpMixed
theorem kp_is_number : Keeps0 1 w_is_number sp_is_number := kpNum
theorem kp__law_same : ∀ n, Keeps0 3 (w__law_same (spr__law_same n)) (spr__law_same (n + 1)) := kprSame
theorem kp_law : Keeps0 2 w_law sp_law := kpLaw (by decide)
theorem kp_common : Keeps0 2 w_common sp_common := K03.kp_common
theorem kp__law_low : Keeps0 4 w__law_low sp__law_low := K03.kp__law_low
theorem kp_is_fraction : Keeps0 1 w_is_fraction sp_is_fraction := K03.kp_is_fraction
theorem kp_is_whole : Keeps0 3 w_is_whole sp_is_whole := K03.kp_is_whole
theorem kp__law_no_fractions : Keeps0 0 w__law_no_fractions sp__law_no_fractions := K03.kp__law_no_fractions
theorem gcd_bd2 {a b : Int} {n : Nat} (hb : b ≠ 0) (h : Bd n b) : Bd n (Int.gcd a b : Int) := by
  refine h.le ?_
  have : Int.gcd a b ∣ b.natAbs := Nat.gcd_dvd_right ..
  exact Nat.le_of_dvd (by omega) this
theorem kp_made : Keeps0 3 w_made sp_made := by
  rintro dvs k ⟨a, b, rfl, hb0, hb, h⟩
  refine ⟨List.nodup_nil, _, _, rfl, ?_⟩
  refine ite_no (decide_eq_false (by omega)) ?_
  have g0 : 0 < Int.gcd a b := Int.gcd_pos_of_ne_zero_right a (by omega)
  have o : DivOk (Int.gcd a b : Int) := divOk (by omega) (gcd_bd2 (by omega) hb)
  have h : k (.ret (.val (K03.fr (Rat.divInt a b)))) _ := h
  rw [K03.low_pos (by omega)] at h
  exact ⟨o, o, h⟩
theorem bd_small {n : Nat} {i : Int} (h0 : -100000 ≤ i) (h1 : i ≤ 100000) (hn : 20 ≤ n) : Bd n i := (Bd.of (n := 20) (by omega) (by omega)).mono hn
theorem int_get {l : List Int} {i : Nat} {d : D} (h : (l.map D.int)[i]? = some d) : ∃ x, l[i]? = some x ∧ d = .int x := by
  rw [List.getElem?_map] at h
  cases e : l[i]? with
  | none => rw [e] at h; exact nomatch h
  | some x => rw [e] at h; exact ⟨x, rfl, (Option.some.inj h).symm⟩
theorem kp_spread_of : Keeps0 4 w_spread_of sp_spread_of := by
  rintro dvs k ⟨o, m, n, rfl, ⟨m1, m2⟩, ⟨o1, o2⟩, hn, h⟩
  refine ⟨⟨⟨by decide, by decide⟩, by omega, by omega⟩, ?_⟩
  have er : (rangeD 0 (n : Int)).length = n := by rw [range_len]; omega
  refine compM_ok (fun j => [some (.val (.int o)), some (.val (.int m)), some (.val (.int (n : Int))), some (.val (.int (j : Int)))]) (fun j => .int (ev o m ((j : Int) + 1) - ev o m j)) ?_ ?_ ?_ (by rw [er]; omega) ?_
  · intro j d hj K hK
    obtain ⟨rfl, _⟩ := range_get hj
    rw [Int.zero_add]
    exact hK
  · intro j _
    rfl
  · intro j d hj K hK
    obtain ⟨_, jl⟩ := range_get hj
    have bm : Bd 20 m := bd_small (by omega) (by omega) (by decide)
    have bo : Bd 20 o := bd_small (by omega) (by omega) (by decide)
    have bj : Bd 20 (j : Int) := bd_small (by omega) (by omega) (by decide)
    have bj1 : Bd 20 ((j : Int) + 1) := bd_small (by omega) (by omega) (by decide)
    refine ⟨mulOk bj1 bo, divOk (by omega) bm, mulOk bj bo, divOk (by omega) bm, ?_⟩
    rw [fdv (by omega), fdv (by omega)]
    exact hK
  · rw [er]
    have e : (List.range n).map (fun j : Nat => D.int (ev o m ((j : Int) + 1) - ev o m j)) = (evn o m n).map .int := by
      unfold evn
      rw [List.map_map]
      rfl
    rw [e]
    exact h
theorem kp__law_even : Keeps0 4 w__law_even sp__law_even := kp_spread_of
theorem core_of {d e : D} (h : core d = e) : d = e ∨ ∃ a, d = .at a e := by
  cases d with
  | «at» a x => exact .inr ⟨a, by rw [← h]; rfl⟩
  | _ => exact .inl h
theorem frac_form {e : D} (h : K03.fracB e = true) : ∃ a b : Int, e = pr a b ∧ 1 ≤ b ∧ Int.gcd a b = 1 := by
  unfold K03.fracB at h
  split at h
  next a b =>
    rw [Bool.and_eq_true] at h
    exact ⟨a, b, rfl, of_decide_eq_true h.1, beq_iff_eq.mp h.2⟩
  · exact nomatch h
theorem kp_need_part : Keeps 1 w_need_part sp_need_part := by
  rintro dvs k ⟨d, rfl, ok, h⟩
  refine ⟨List.nodup_nil, d, rfl, ok, ?_⟩
  rcases h with ⟨a, b, e, g, h⟩ | ⟨pb, h⟩
  · have f : K03.fracB (core d) = true := by
      rw [e]
      show (decide (1 ≤ b) && Int.gcd a b == 1) = true
      rw [decide_eq_true g.b1, g.g]
      rfl
    rw [f]
    have a0 := g.a0
    have ab := g.ab
    have t : (!decide (a ≤ b)) = false := by rw [decide_eq_true ab]; rfl
    rcases core_of e with rfl | ⟨x, rfl⟩
    · exact ite_no rfl (ite_yes (decide_eq_true a0) (ite_no t h))
    · exact ite_no rfl (ite_yes (decide_eq_true a0) (ite_no t h))
  · cases f : K03.fracB (core d) with
    | false => exact ite_yes rfl h
    | true =>
      obtain ⟨a, b, e, b1, gg⟩ := frac_form f
      rw [e] at pb f
      have pb : (fracB (pr a b) && (decide (0 ≤ a) && decide (a ≤ b))) = false := pb
      have f : fracB (pr a b) = true := f
      rw [f, Bool.true_and] at pb
      cases c : decide (0 ≤ a) with
      | false =>
        rcases core_of e with rfl | ⟨x, rfl⟩
        · exact ite_no rfl (ite_no c (ite_yes rfl h))
        · exact ite_no rfl (ite_no c (ite_yes rfl h))
      | true =>
        rw [c, Bool.true_and] at pb
        have t : (!decide (a ≤ b)) = true := by rw [pb]; rfl
        rcases core_of e with rfl | ⟨x, rfl⟩
        · exact ite_no rfl (ite_yes c (ite_yes t h))
        · exact ite_no rfl (ite_yes c (ite_yes t h))
theorem kp_need_short : Keeps 1 w_need_short sp_need_short := by
  rintro dvs k ⟨d, rfl, ok, h⟩
  rcases h with ⟨a, b, e, g, h⟩ | ⟨pb, h⟩
  · refine ⟨List.nodup_nil, d, rfl, ok, .inl ⟨a, b, e, g, ?_⟩⟩
    rcases h with ⟨c, h⟩ | ⟨c, h⟩
    · rcases core_of e with rfl | ⟨x, rfl⟩
      · exact ite_no (decide_eq_false (by omega)) h
      · exact ite_no (decide_eq_false (by omega)) h
    · rcases core_of e with rfl | ⟨x, rfl⟩
      · exact ite_yes (decide_eq_true c) h
      · exact ite_yes (decide_eq_true c) h
  · exact ⟨List.nodup_nil, d, rfl, ok, .inr ⟨pb, h⟩⟩
theorem kp_even_word : Keeps 1 w_even_word sp_even_word := by
  rintro dvs k ⟨d, rfl, ok, h⟩
  rcases h with ⟨a, b, e, g, h⟩ | ⟨pb, h⟩
  · refine ⟨List.nodup_nil, d, rfl, ok, .inl ⟨a, b, e, g, ?_⟩⟩
    have b1 := g.b1
    have a0 := g.a0
    have ab := g.ab
    rcases h with ⟨c, h⟩ | ⟨c, h⟩
    · refine .inl ⟨c, ?_⟩
      have run : sp_spread_of [.val (.int a), .val (.int b), .val (.int b)] fun o _ => k o [.val d] := by
        obtain ⟨n, rfl⟩ : ∃ n : Nat, b = (n : Int) := ⟨b.toNat, by omega⟩
        refine ⟨a, n, n, rfl, ⟨by omega, by omega⟩, ⟨by omega, by omega⟩, by omega, ?_⟩
        rw [Int.toNat_natCast] at h
        exact h
      obtain ⟨o, m, n, q, h1, h2, h3, h4⟩ := run
      rcases core_of e with rfl | ⟨x, rfl⟩
      · exact ⟨List.nodup_nil, o, m, n, q, h1, h2, h3, h4⟩
      · exact ⟨List.nodup_nil, o, m, n, q, h1, h2, h3, h4⟩
    · exact .inr ⟨c, h⟩
  · exact ⟨List.nodup_nil, d, rfl, ok, .inr ⟨pb, h⟩⟩
theorem kp_spread : Keeps 2 w_spread sp_spread := by
  rintro dvs k ⟨d, e, rfl, od, oe, h⟩
  refine ⟨List.nodup_nil, e, 1, 100, rfl, oe, ?_⟩
  rcases h with ⟨m, rfl, ⟨m1, m2⟩, h⟩ | ⟨b, h⟩
  · have w : K03.whB 1 100 (.int m) = true := by
      show (decide (1 ≤ m) && decide (m ≤ 100)) = true
      rw [decide_eq_true m1, decide_eq_true m2]
      rfl
    refine ite_no (by rw [w]; rfl) ?_
    refine ⟨List.nodup_nil, d, 0, m, rfl, od, ?_⟩
    rcases h with ⟨o, rfl, ⟨o1, o2⟩, h⟩ | ⟨b, h⟩
    · have w2 : K03.whB 0 m (.int o) = true := by
        show (decide (0 ≤ o) && decide (o ≤ m)) = true
        rw [decide_eq_true o1, decide_eq_true o2]
        rfl
      refine ite_no (by rw [w2]; rfl) ?_
      obtain ⟨n, rfl⟩ : ∃ n : Nat, m = (n : Int) := ⟨m.toNat, by omega⟩
      rw [Int.toNat_natCast] at h
      exact ⟨List.nodup_nil, o, n, n, rfl, ⟨by omega, by omega⟩, ⟨by omega, by omega⟩, by omega, h⟩
    · have b : K03.whB 0 m d = false := b
      exact ite_yes (by rw [b]; rfl) h
  · have b : K03.whB 1 100 e = false := b
    exact ite_yes (by rw [b]; rfl) h
end K11

namespace K11
open PySem DW CA
theorem isL_in (i : Int) : ([D.int 0, D.int 1].any fun z => deq z (.int i)) = isL (.int i) := by
  show (deq (.int 0) (.int i) || (deq (.int 1) (.int i) || false)) = (i == 0 || i == 1)
  rw [deq_int, deq_int, Bool.or_false, Bool.eq_iff_iff, Bool.or_eq_true, Bool.or_eq_true, beq_iff_eq, beq_iff_eq, beq_iff_eq, beq_iff_eq]
  omega
theorem all_map (xs : List D) : ((List.range xs.length).map fun j => isL (xs.getD j .non)).all id = xs.all isL := by
  have e : xs = (List.range xs.length).map fun j => xs.getD j .non := by
    refine List.ext_getElem (by simp) fun i h1 h2 => ?_
    rw [List.getElem_map, List.getElem_range, List.getD_eq_getElem?_getD, List.getElem?_eq_getElem h1]
    rfl
  conv => rhs; rw [e]
  rw [List.all_map, List.all_map]
  rfl
theorem letters_ok {xs : List D} {d : DV} {k : D → DS → Prop} (hx : ∀ x ∈ xs, ok0 x = true) (hl : xs.length ≤ 100000) (h : k (.bl (xs.all isL)) [some d, none]) :
    compI (.nm 1) [1] wYes (wAndV (wCall sp_is_number [.v (wVar 1)]) (wBin dIn (wVar 1) (wTup [(wC (.int 0)), (wC (.int 1))]))) nox xs [some d, none] fun xs ds1 => dAll (.lst xs) fun z => k z ds1 := by
  refine compM_ok (fun j => [some d, some (.val (xs.getD j .non))]) (fun j => .bl (isL (xs.getD j .non))) ?_ ?_ ?_ (by omega) ?_
  · intro j x hj K hK
    have : xs.getD j .non = x := by rw [List.getD_eq_getElem?_getD, hj]; rfl
    rw [this] at hK
    exact hK
  · intro j _
    rfl
  · intro j x hj K hK
    have e : xs.getD j .non = x := by rw [List.getD_eq_getElem?_getD, hj]; rfl
    have ox := hx x (List.mem_of_getElem? hj)
    rw [e] at hK
    show (wAndV (wCall sp_is_number [.v (wVar 1)]) (wBin dIn (wVar 1) (wTup [(wC (.int 0)), (wC (.int 1))]))) nox [some d, some (.val (xs.getD j .non))] K
    rw [e]
    refine ⟨List.nodup_nil, x, rfl, ox, ?_⟩
    cases q : isNm x with
    | true =>
      obtain ⟨i, rfl⟩ := K03.nm_int q
      rw [← isL_in] at hK
      exact ⟨⟨rfl, rfl⟩, hK⟩
    | false =>
      have el : isL x = false := by cases x <;> first | rfl | exact nomatch q
      rw [el] at hK
      exact hK
  · have e : (List.range xs.length).map (fun j => D.bl (isL (xs.getD j .non))) = ((List.range xs.length).map fun j => isL (xs.getD j .non)).map .bl := by rw [List.map_map]; rfl
    rw [e]
    refine all_bl ?_
    rw [all_map]
    exact h
theorem kp_is_word : Keeps0 2 w_is_word sp_is_word := by
  rintro dvs k ⟨d, e, rfl, ee, ok, h⟩
  have o0 := ok1_0 ok
  have items_ok : ∀ xs, items e = some xs → ∀ x ∈ xs, ok0 x = true := fun xs hx x m => by
    have hi : items d = some xs := by
      rw [ee] at hx
      cases d with
      | «at» a z => cases z <;> first | exact hx | exact nomatch o0
      | _ => exact hx
    unfold ok1 at ok
    rw [hi, Bool.and_eq_true] at ok
    exact List.all_eq_true.mp ok.2 x m
  have run : ∀ (xs : List D), (e = .lst xs ∨ e = .tup xs) → w_is_word (entry 2 [.val e]) (ends0 [.val e] k) := fun xs hx => by
    have hw : wordB e = ((decide (1 ≤ xs.length) && decide (xs.length ≤ 100)) && xs.all isL) := by rcases hx with rfl | rfl <;> rfl
    have hi : ∀ x ∈ xs, ok0 x = true := items_ok xs (by rcases hx with rfl | rfl <;> rfl)
    rw [hw] at h
    have c1 : decide ((1 : Int) ≤ (xs.length : Int)) = decide (1 ≤ xs.length) := by rw [decide_eq_decide]; omega
    have c2 : decide ((xs.length : Int) ≤ 100) = decide (xs.length ≤ 100) := by rw [decide_eq_decide]; omega
    cases q1 : decide (1 ≤ xs.length) with
    | false =>
      rw [q1] at h c1
      rcases hx with rfl | rfl <;> exact ite_no c1 (ite_yes rfl h)
    | true =>
      rw [q1] at h c1
      cases q2 : decide (xs.length ≤ 100) with
      | false =>
        rw [q2] at h c2
        have t : (!decide ((xs.length : Int) ≤ 100)) = true := by rw [c2]; rfl
        rcases hx with rfl | rfl <;> exact ite_yes c1 (ite_yes t h)
      | true =>
        rw [q2] at h c2
        have l100 := of_decide_eq_true q2
        have h : k (.ret (.val (.bl (xs.all isL)))) [.val e] := h
        have t : (!decide ((xs.length : Int) ≤ 100)) = false := by rw [c2]; rfl
        rcases hx with rfl | rfl <;> (refine ite_yes c1 (ite_no t (letters_ok hi (by omega) ?_)); exact h)
  have no : (dIsTys [.list, .tuple] e fun z => z = .bl false) → wordB e = false → w_is_word (entry 2 [.val e]) (ends0 [.val e] k) := fun hd hw => by
    rw [hw] at h
    cases e with
    | lst xs => exact absurd hd (by intro z; exact nomatch z)
    | tup xs => exact absurd hd (by intro z; exact nomatch z)
    | obj _ => exact hd.elim
    | «at» a z =>
      cases d with
      | «at» a' z' =>
        have : z' = .at a z := ee.symm
        subst this
        exact nomatch o0
      | _ => exact nomatch ee
    | _ => exact h
  cases e with
  | lst xs => exact run xs (.inl rfl)
  | tup xs => exact run xs (.inr rfl)
  | obj _ =>
    cases d with
    | «at» a' z' =>
      have : z' = _ := ee.symm
      subst this
      exact nomatch o0
    | obj _ => exact nomatch o0
    | _ => exact nomatch ee
  | «at» a z =>
    cases d with
    | «at» a' z' =>
      have : z' = .at a z := ee.symm
      subst this
      exact nomatch o0
    | _ => exact nomatch ee
  | _ => exact no rfl rfl
theorem kp_need_word : Keeps 1 w_need_word sp_need_word := by
  rintro dvs k ⟨d, rfl, ok, h⟩
  refine ⟨List.nodup_nil, d, core d, rfl, rfl, ok, ?_⟩
  rcases h with ⟨b, h⟩ | ⟨b, h⟩
  · rw [b]
    exact h
  · rw [b]
    exact h
theorem word_ok {t : Bool} {w : List Int} (g : Wo w) : wordB (wl t w) = true := by
  have e : wordB (wl t w) = ((decide (1 ≤ (w.map D.int).length) && decide ((w.map D.int).length ≤ 100)) && (w.map D.int).all isL) := by cases t <;> rfl
  rw [e, List.length_map, decide_eq_true g.l1, decide_eq_true g.l2, List.all_map]
  show (true && w.all (isL ∘ D.int)) = true
  rw [Bool.true_and, List.all_eq_true]
  intro x hx
  show (x == 0 || x == 1) = true
  rw [Bool.or_eq_true, beq_iff_eq, beq_iff_eq]
  exact g.x.l x hx
theorem kp_slopes : Keeps 1 w_slopes sp_slopes := by
  rintro dvs k ⟨d, rfl, ok, h⟩
  refine ⟨List.nodup_nil, d, rfl, ok, ?_⟩
  rcases h with ⟨t, w, e, g, h⟩ | ⟨b, h⟩
  · refine .inl ⟨by rw [e]; exact word_ok g, ?_⟩
    show List.Nodup _ ∧ sp_slopes_of [.val (core d)] _
    rw [e]
    exact ⟨List.nodup_nil, t, w, rfl, g, h⟩
  · exact .inr ⟨b, h⟩
theorem kp_is_balanced : Keeps 1 w_is_balanced sp_is_balanced := by
  rintro dvs k ⟨d, rfl, ok, h⟩
  refine ⟨List.nodup_nil, d, rfl, ok, ?_⟩
  rcases h with ⟨t, w, e, g, h⟩ | ⟨b, h⟩
  · refine .inl ⟨by rw [e]; exact word_ok g, ?_⟩
    show List.Nodup _ ∧ sp_slopes_of [.val (core d)] _
    rw [e]
    refine ⟨List.nodup_nil, t, w, rfl, g, ?_⟩
    have en : isNon (slp w) = !balB w := by
      unfold slp
      cases c : balB w with
      | true => rfl
      | false => rfl
    show k (.ret (.val (.bl (!isNon (slp w))))) _
    rw [en, Bool.not_not]
    exact h
  · exact .inr ⟨b, h⟩
end K11

namespace K11
open PySem DW CA
/-- the sums so far -/
def plD (w : List Int) (n : Nat) : List D := (List.range (n + 1)).map fun k => .int (pre w k)
theorem plD_succ (w : List Int) (n : Nat) : plD w (n + 1) = plD w n ++ [.int (pre w (n + 1))] := by
  unfold plD
  rw [List.range_succ (n := n + 1), List.map_append]
  rfl
theorem plD_last (w : List Int) (n : Nat) : itemAt (plD w n) (-1) = some (.int (pre w n)) := by
  unfold plD
  rw [List.range_succ, List.map_append]
  exact item_last _ _
theorem plD_at (w : List Int) {n j : Nat} {i : Int} (e : i = (j : Int)) (h : j ≤ n) : itemAt (plD w n) i = some (.int (pre w j)) := by
  subst e
  unfold itemAt plD
  rw [if_pos (by omega), show (j : Int).toNat = j by omega, List.getElem?_map, List.getElem?_range (by omega)]
  rfl
theorem plD_len (w : List Int) (n : Nat) : (plD w n).length = n + 1 := by
  unfold plD
  rw [List.length_map, List.length_range]
theorem li_bd {S : Nat → Int} {n : Nat} {P : Nat → Nat → Prop} {a : L4} (h : Li S n P a) (hn : n ≤ 100) (hS : ∀ i j : Nat, i ≤ j → j ≤ n → 0 ≤ S j - S i ∧ S j - S i ≤ (j : Int) - i) :
    (-200 ≤ a.1.1 ∧ a.1.1 ≤ 200) ∧ (1 ≤ a.1.2 ∧ a.1.2 ≤ 200) ∧ (-200 ≤ a.2.1 ∧ a.2.1 ≤ 200) ∧ (1 ≤ a.2.2 ∧ a.2.2 ≤ 200) := by
  have l2 := h.l2
  have h2 := h.h2
  have x : (-200 ≤ a.1.1 ∧ a.1.1 ≤ 200) ∧ a.1.2 ≤ 200 := by
    rcases h.el with e | ⟨f, l, fl, ln, e⟩
    · rw [e]
      exact ⟨⟨by show -200 ≤ -1; decide, by show -1 ≤ 200; decide⟩, by show 1 ≤ 200; decide⟩
    · have := hS f l (by omega) ln
      rw [e]
      exact ⟨⟨by show -200 ≤ S l - S f - 1; omega, by show S l - S f - 1 ≤ 200; omega⟩, by show (l : Int) - f ≤ 200; omega⟩
  have y : (-200 ≤ a.2.1 ∧ a.2.1 ≤ 200) ∧ a.2.2 ≤ 200 := by
    rcases h.eh with e | ⟨f, l, fl, ln, e⟩
    · rw [e]
      exact ⟨⟨by show -200 ≤ 2; decide, by show 2 ≤ 200; decide⟩, by show 1 ≤ 200; decide⟩
    · have := hS f l (by omega) ln
      rw [e]
      exact ⟨⟨by show -200 ≤ S l - S f + 1; omega, by show S l - S f + 1 ≤ 200; omega⟩, by show (l : Int) - f ≤ 200; omega⟩
  exact ⟨x.1, ⟨l2, x.2⟩, y.1, h2, y.2⟩
def lim_b : WS := (wSeq (wPar 7 8 (wBin dSub (wVar 5) (wVar 6)) (wBin dSub (wIxO 1 (wVar 5)) (wIxO 1 (wVar 6))))
    (wSeq (wIfS (wTst (wBin dGt (wBin dMul (wBin dSub (wVar 8) (wC (.int 1))) (wBin dIx (wVar 3) (wC (.int 1)))) (wBin dMul (wBin dIx (wVar 3) (wC (.int 0))) (wVar 7)))) (wAsg (wTup [(wBin dSub (wVar 8) (wC (.int 1))), (wVar 7)]) (.nm 3)) wNext)
    (wIfS (wTst (wBin dLt (wBin dMul (wBin dAdd (wVar 8) (wC (.int 1))) (wBin dIx (wVar 4) (wC (.int 1)))) (wBin dMul (wBin dIx (wVar 4) (wC (.int 0))) (wVar 7)))) (wAsg (wTup [(wBin dAdd (wVar 8) (wC (.int 1))), (wVar 7)]) (.nm 4)) wNext)))
theorem lim_b_ok {P : Post} {w : List Int} (g : Wo w) {l f n : Nat} (nw : n = w.length) (fl : f < l) (ln : l ≤ n) {a : L4} {Q : Nat → Nat → Prop} (L : Li (pre w) n Q a) {z0 z2 z7 z8 : Option DV}
    (hP : ∀ u7 u8 : Option DV, P.nx [z0, some (.own (plD w n)), z2, some (.val (pr (stp (pre w) l f a).1.1 (stp (pre w) l f a).1.2)), some (.val (pr (stp (pre w) l f a).2.1 (stp (pre w) l f a).2.2)), some (.val (.int (l : Int))), some (.val (.int (f : Int))), u7, u8]) :
    lim_b [z0, some (.own (plD w n)), z2, some (.val (pr a.1.1 a.1.2)), some (.val (pr a.2.1 a.2.2)), some (.val (.int (l : Int))), some (.val (.int (f : Int))), z7, z8] P := by
  have hS := pre_rng g.x
  have l2 := g.l2
  obtain ⟨⟨a1, a2⟩, ⟨a3, a4⟩, ⟨a5, a6⟩, ⟨a7, a8⟩⟩ := li_bd L (by omega) fun i j ij jn => hS j i ij (by omega)
  have s := hS l f (by omega) (by omega)
  have b1 : Bd 20 a.1.1 := bd_small (by omega) (by omega) (by decide)
  have b2 : Bd 20 a.1.2 := bd_small (by omega) (by omega) (by decide)
  have b3 : Bd 20 a.2.1 := bd_small (by omega) (by omega) (by decide)
  have b4 : Bd 20 a.2.2 := bd_small (by omega) (by omega) (by decide)
  have b5 : Bd 20 (pre w l - pre w f - 1) := bd_small (by omega) (by omega) (by decide)
  have b6 : Bd 20 (pre w l - pre w f + 1) := bd_small (by omega) (by omega) (by decide)
  have b7 : Bd 20 ((l : Int) - f) := bd_small (by omega) (by omega) (by decide)
  refine ⟨rfl, ?_⟩
  show (match itemAt (plD w n) (l : Int) with | some z => _ | none => False)
  rw [plD_at w rfl ln]
  refine ⟨rfl, ?_⟩
  show (match itemAt (plD w n) (f : Int) with | some z => _ | none => False)
  rw [plD_at w rfl (by omega)]
  unfold stp at hP
  refine ⟨mulOk b5 b2, mulOk b1 b7, ite_both (fun c => ?_) (fun c => ?_)⟩
  · have c : a.1.1 * ((l : Int) - f) < (pre w l - pre w f - 1) * a.1.2 := of_decide_eq_true c
    rw [if_pos c] at hP
    refine ⟨mulOk b6 b4, mulOk b3 b7, ite_both (fun c => ?_) (fun c => ?_)⟩
    · have c : (pre w l - pre w f + 1) * a.2.2 < a.2.1 * ((l : Int) - f) := of_decide_eq_true c
      rw [if_pos c] at hP
      exact hP _ _
    · have c : ¬ (pre w l - pre w f + 1) * a.2.2 < a.2.1 * ((l : Int) - f) := fun z => c (decide_eq_true z)
      rw [if_neg c] at hP
      exact hP _ _
  · have c : ¬ a.1.1 * ((l : Int) - f) < (pre w l - pre w f - 1) * a.1.2 := fun z => c (decide_eq_true z)
    rw [if_neg c] at hP
    refine ⟨mulOk b6 b4, mulOk b3 b7, ite_both (fun c => ?_) (fun c => ?_)⟩
    · have c : (pre w l - pre w f + 1) * a.2.2 < a.2.1 * ((l : Int) - f) := of_decide_eq_true c
      rw [if_pos c] at hP
      exact hP _ _
    · have c : ¬ (pre w l - pre w f + 1) * a.2.2 < a.2.1 * ((l : Int) - f) := fun z => c (decide_eq_true z)
      rw [if_neg c] at hP
      exact hP _ _
theorem kp_limits : Keeps0 9 w_limits sp_limits := by
  rintro dvs k ⟨t, w, rfl, g, h⟩
  have l2 := g.l2
  have hS := pre_rng g.x
  have ei : items (wl t w) = some (w.map .int) := by cases t <;> rfl
  show (match items (wl t w) with | some xs => _ | none => False)
  rw [ei]
  refine ⟨fun i ds => ∃ z2 : Option DV, ds = [some (.val (wl t w)), some (.own (plD w i)), z2, none, none, none, none, none, none], ⟨_, rfl⟩, ?_, ?_⟩
  · rintro i d ds hi ⟨z2, rfl⟩
    obtain ⟨x, hx, rfl⟩ := int_get hi
    have il := (List.getElem?_eq_some_iff.mp hx).1
    refine ⟨rfl, rfl, ?_⟩
    show (match itemAt (plD w i) (-1) with | some z => _ | none => False)
    rw [plD_last]
    refine ⟨by rw [plD_len]; omega, some (.val (.int x)), ?_⟩
    rw [plD_succ, pre_succ hx]
    rfl
  · rintro ds ⟨z2, rfl⟩
    rw [List.length_map]
    generalize hn : w.length = n at *
    have eo : limF w = out (pre w) n := by unfold limF; rw [hn]
    rw [eo] at h
    have en : ((plD w n).length : Int) = (n : Int) + 1 := by rw [plD_len]; omega
    refine ⟨⟨⟨by decide, by decide⟩, by rw [en]; omega, by rw [en]; omega⟩, ?_⟩
    refine ⟨fun i ds => ∃ z5 z6 z7 z8 : Option DV, ds = [some (.val (wl t w)), some (.own (plD w n)), z2, some (.val (pr (out (pre w) i).1.1 (out (pre w) i).1.2)), some (.val (pr (out (pre w) i).2.1 (out (pre w) i).2.2)), z5, z6, z7, z8], ⟨_, _, _, _, rfl⟩, ?_, ?_⟩
    · rintro i d ds hi ⟨z5, z6, z7, z8, rfl⟩
      obtain ⟨ed, il⟩ := range_get hi
      rw [en] at il
      have il : i < n := by omega
      have ed : d = .int ((i + 1 : Nat) : Int) := by
        rw [ed]
        congr 1
        omega
      subst ed
      have L0 := (out_li (pre w) i).mono (m := n) (Q := fun _ l => l ≤ i) (by omega) fun _ _ q _ => q
      refine ⟨⟨⟨by decide, by decide⟩, by omega, by omega⟩, fun f ds => ∃ z6 z7 z8 : Option DV, ds = [some (.val (wl t w)), some (.own (plD w n)), z2, some (.val (pr (inn (pre w) (i + 1) f (out (pre w) i)).1.1 (inn (pre w) (i + 1) f (out (pre w) i)).1.2)), some (.val (pr (inn (pre w) (i + 1) f (out (pre w) i)).2.1 (inn (pre w) (i + 1) f (out (pre w) i)).2.2)), some (.val (.int ((i + 1 : Nat) : Int))), z6, z7, z8], ⟨_, _, _, rfl⟩, ?_, ?_⟩
      · rintro f d ds hi ⟨z6, z7, z8, rfl⟩
        obtain ⟨rfl, fl⟩ := range_get hi
        have fl : f < i + 1 := by omega
        have L := inn_li L0 (by omega) f (by omega)
        rw [Int.zero_add]
        exact lim_b_ok g hn.symm fl (by omega) L fun u7 u8 => ⟨_, _, _, rfl⟩
      · rintro ds ⟨z6, z7, z8, rfl⟩
        have e0 : (rangeD 0 ((i + 1 : Nat) : Int)).length = i + 1 := by rw [range_len]; omega
        rw [e0]
        exact ⟨_, _, _, _, rfl⟩
    · rintro ds ⟨z5, z6, z7, z8, rfl⟩
      have e0 : (rangeD 1 ((plD w n).length : Int)).length = n := by rw [range_len, en]; omega
      rw [e0]
      exact h
end K11

namespace K11
open PySem DW CA
theorem lim_bd {w : List Int} (g : Wo w) : (-200 ≤ (limF w).1.1 ∧ (limF w).1.1 ≤ 200) ∧ (1 ≤ (limF w).1.2 ∧ (limF w).1.2 ≤ 200) ∧ (-200 ≤ (limF w).2.1 ∧ (limF w).2.1 ≤ 200) ∧ (1 ≤ (limF w).2.2 ∧ (limF w).2.2 ≤ 200) :=
  li_bd (out_li (pre w) w.length) g.l2 fun i j ij jn => pre_rng g.x j i ij jn
theorem core_wl (t : Bool) (w : List Int) : core (wl t w) = wl t w := by cases t <;> rfl
theorem kp_slopes_of : Keeps0 7 w_slopes_of sp_slopes_of := by
  rintro dvs k ⟨t, w, rfl, g, h⟩
  obtain ⟨⟨a1, a2⟩, ⟨a3, a4⟩, ⟨a5, a6⟩, ⟨a7, a8⟩⟩ := lim_bd g
  have b1 : Bd 20 (limF w).1.1 := bd_small (by omega) (by omega) (by decide)
  have b2 : Bd 20 (limF w).1.2 := bd_small (by omega) (by omega) (by decide)
  have b3 : Bd 20 (limF w).2.1 := bd_small (by omega) (by omega) (by decide)
  have b4 : Bd 20 (limF w).2.2 := bd_small (by omega) (by omega) (by decide)
  show List.Nodup _ ∧ sp_limits [.val (core (wl t w))] _
  rw [core_wl]
  refine ⟨List.nodup_nil, t, w, rfl, g, ?_⟩
  refine ⟨mulOk b1 b4, mulOk b3 b2, ite_both (fun c => ?_) (fun c => ?_)⟩
  · have c : (limF w).2.1 * (limF w).1.2 ≤ (limF w).1.1 * (limF w).2.2 := of_decide_eq_true c
    have e : slp w = .non := by
      unfold slp balB
      rw [decide_eq_false (by omega)]
      rfl
    rw [e] at h
    exact h
  · have c : ¬ (limF w).2.1 * (limF w).1.2 ≤ (limF w).1.1 * (limF w).2.2 := fun z => c (decide_eq_true z)
    have eb : balB w = true := decide_eq_true (by omega)
    unfold slp at h
    rw [if_pos eb] at h
    by_cases q2 : decide ((limF w).2.2 < (limF w).2.1) = true
    · rw [if_pos q2] at h
      by_cases q1 : decide ((limF w).1.1 < 0) = true
      · rw [if_pos q1] at h
        exact ite_yes q1 (ite_yes q2 h)
      · rw [if_neg q1] at h
        have q1 : decide ((limF w).1.1 < 0) = false := Bool.eq_false_iff.mpr q1
        exact ite_no q1 ⟨List.nodup_nil, (limF w).1.1, (limF w).1.2, rfl, a3, b2.mono (by decide), ite_yes q2 h⟩
    · rw [if_neg q2] at h
      have q2 : decide ((limF w).2.2 < (limF w).2.1) = false := Bool.eq_false_iff.mpr q2
      by_cases q1 : decide ((limF w).1.1 < 0) = true
      · rw [if_pos q1] at h
        exact ite_yes q1 (ite_no q2 ⟨List.nodup_nil, (limF w).2.1, (limF w).2.2, rfl, a7, b4.mono (by decide), h⟩)
      · rw [if_neg q1] at h
        have q1 : decide ((limF w).1.1 < 0) = false := Bool.eq_false_iff.mpr q1
        exact ite_no q1 ⟨List.nodup_nil, (limF w).1.1, (limF w).1.2, rfl, a3, b2.mono (by decide), ite_no q2 ⟨List.nodup_nil, (limF w).2.1, (limF w).2.2, rfl, a7, b4.mono (by decide), h⟩⟩
theorem balB_iff {w : List Int} (g : Wo w) : balB w = true ↔ Bal (pre w) w.length := by
  unfold balB
  rw [decide_eq_true_iff]
  exact (bal_iff fun i j ij jn => pre_rng g.x j i ij jn).symm
/-- of one length -/
def BalS (S : Nat → Int) (n s : Nat) : Prop := ∀ i j : Nat, i + s ≤ n → j + s ≤ n → (S (i + s) - S i) - (S (j + s) - S j) ≤ 1
theorem kp__law_balanced : Keeps0 6 w__law_balanced sp__law_balanced := by
  rintro dvs k ⟨w, rfl, g, h⟩
  have l1 := g.l1
  have l2 := g.l2
  refine ⟨fun i ds => ∃ z2 : Option DV, ds = [some (.val (.lst (w.map .int))), some (.own (plD w i)), z2, none, none, none], ⟨_, rfl⟩, ?_, ?_⟩
  · rintro i d ds hi ⟨z2, rfl⟩
    obtain ⟨x, hx, rfl⟩ := int_get hi
    have il := (List.getElem?_eq_some_iff.mp hx).1
    refine ⟨rfl, rfl, ?_⟩
    show (match itemAt (plD w i) (-1) with | some z => _ | none => False)
    rw [plD_last]
    refine ⟨by rw [plD_len]; omega, some (.val (.int x)), ?_⟩
    rw [plD_succ, pre_succ hx]
    rfl
  · rintro ds ⟨z2, rfl⟩
    rw [List.length_map]
    have bi := balB_iff g
    have en : ((w.map D.int).length : Int) = (w.length : Int) := by rw [List.length_map]
    refine ⟨⟨⟨by decide, by decide⟩, by rw [en]; omega, by rw [en]; omega⟩, ?_⟩
    rw [en]
    generalize hn : w.length = n at *
    refine ⟨fun i ds => ∃ z3 z4 : Option DV, ds = [some (.val (.lst (w.map .int))), some (.own (plD w n)), z2, z3, z4, none] ∧ ∀ s, 1 ≤ s → s ≤ i → BalS (pre w) n s, ⟨_, _, rfl, fun s h1 h2 => by omega⟩, ?_, ?_⟩
    · rintro i d ds hi ⟨z3, z4, rfl, hB⟩
      obtain ⟨ed, il⟩ := range_get hi
      have il : i + 1 < n := by omega
      have ed : d = .int ((i + 1 : Nat) : Int) := by
        rw [ed]
        congr 1
        omega
      subst ed
      generalize hs : i + 1 = s at *
      obtain ⟨m, hm⟩ : ∃ m, n = s + m := ⟨n - s, by omega⟩
      have el : ((w.map D.int).length : Int) - (s : Int) + 1 = ((m + 1 : Nat) : Int) := by rw [en]; omega
      refine ⟨⟨⟨by decide, by decide⟩, by rw [el]; omega, by rw [el]; omega⟩, ?_⟩
      have er : (rangeD 0 (((w.map D.int).length : Int) - (s : Int) + 1)).length = m + 1 := by rw [range_len, el]; omega
      refine compM_ok (fun j => [some (.val (.lst (w.map .int))), some (.own (plD w n)), z2, some (.val (.int (s : Int))), z4, some (.val (.int (j : Int)))]) (fun j => .int (pre w (j + s) - pre w j)) ?_ ?_ ?_ (by rw [er]; omega) ?_
      · intro j d hj K hK
        obtain ⟨rfl, _⟩ := range_get hj
        rw [Int.zero_add]
        exact hK
      · intro j _
        rfl
      · intro j d hj K hK
        obtain ⟨_, jl⟩ := range_get hj
        rw [el] at jl
        refine ⟨rfl, ?_⟩
        show (match itemAt (plD w n) ((j : Int) + (s : Int)) with | some z => _ | none => False)
        rw [plD_at w (j := j + s) (by omega) (by omega)]
        refine ⟨rfl, ?_⟩
        show (match itemAt (plD w n) (j : Int) with | some z => _ | none => False)
        rw [plD_at w rfl (by omega)]
        exact hK
      · rw [er]
        have e : (List.range (m + 1)).map (fun j : Nat => D.int (pre w (j + s) - pre w j)) = ((List.range (m + 1)).map fun j : Nat => pre w (j + s) - pre w j).map .int := by rw [List.map_map]; rfl
        rw [e]
        have lp : 0 < ((List.range (m + 1)).map fun j : Nat => pre w (j + s) - pre w j).length := by rw [List.length_map, List.length_range]; omega
        have mem : ∀ z, z ∈ ((List.range (m + 1)).map fun j : Nat => pre w (j + s) - pre w j) ↔ ∃ j, j < m + 1 ∧ pre w (j + s) - pre w j = z := fun z => by
          rw [List.mem_map]
          exact ⟨fun ⟨j, a, b⟩ => ⟨j, List.mem_range.mp a, b⟩, fun ⟨j, a, b⟩ => ⟨j, List.mem_range.mpr a, b⟩⟩
        generalize ((List.range (m + 1)).map fun j : Nat => pre w (j + s) - pre w j) = L at *
        show (match intsD (L.map .int) with | some ns => _ | none => False)
        rw [intsD_map]
        refine ⟨lp, fun M hM hMx => ?_⟩
        show (match intsD (L.map .int) with | some ns => _ | none => False)
        rw [intsD_map]
        refine ⟨lp, fun N hN hNx => ?_⟩
        obtain ⟨a, al, ea⟩ := (mem M).mp hM
        obtain ⟨b, bl, eb⟩ := (mem N).mp hN
        refine ite_both (fun c => ?_) (fun c => ?_)
        · have c : 1 < M - N := of_decide_eq_true c
          have nb : balB w = false := by
            cases q : balB w with
            | false => rfl
            | true =>
              have := bi.mp q s a b (by omega) (by omega)
              omega
          rw [nb] at h
          exact h
        · have c : ¬ 1 < M - N := fun z => c (decide_eq_true z)
          refine ⟨some (.val (.int (s : Int))), some (.val (.lst (L.map .int))), rfl, fun s' h1 h2 => ?_⟩
          by_cases es : s' = s
          · subst es
            intro x y hx hy
            have mx := hMx _ ((mem _).mpr ⟨x, by omega, rfl⟩)
            have my := hNx _ ((mem _).mpr ⟨y, by omega, rfl⟩)
            omega
          · exact hB s' h1 (by omega)
    · rintro ds ⟨z3, z4, rfl, hB⟩
      have e0 : (rangeD 1 (n : Int)).length = n - 1 := by rw [range_len]; omega
      rw [e0] at hB
      have yb : balB w = true := bi.mpr fun s i j hi hj => by
        by_cases s0 : s = 0
        · subst s0
          show pre w i - pre w i - (pre w j - pre w j) ≤ 1
          omega
        · by_cases sn : s = n
          · have i0 : i = 0 := by omega
            have j0 : j = 0 := by omega
            subst i0
            subst j0
            omega
          · exact hB s (by omega) (by omega) i j hi hj
      rw [yb] at h
      exact h
end K11

namespace K11
open PySem DW CA
theorem kp__law_no_words : Keeps0 0 w__law_no_words sp__law_no_words := by
  rintro dvs k ⟨rfl, h⟩
  exact ⟨⟨by decide, by decide, by decide⟩, h⟩
theorem kp__law_called : Keeps 3 w__law_called sp__law_called := by
  rintro dvs k ⟨j, ds, y, rfl, ⟨rfl, d, rfl, h⟩ | ⟨rfl, d, e, rfl, h⟩ | ⟨rfl, d, rfl, h⟩ | ⟨rfl, d, rfl, h⟩⟩
  · obtain ⟨d', q, od, h⟩ := h
    cases q
    refine ⟨⟨shp_int _, shp_int _⟩, ?_⟩
    rcases h with ⟨a, b, e1, g, ⟨c, h⟩ | ⟨c, h⟩⟩ | ⟨b, h⟩
    · cases y with
      | true => exact ⟨d, rfl, od, .inl ⟨a, b, e1, g, .inl ⟨c, h⟩⟩⟩
      | false => exact ⟨List.nodup_nil, d, rfl, od, .inl ⟨a, b, e1, g, .inl ⟨c, h⟩⟩⟩
    · cases y with
      | true => exact ⟨d, rfl, od, .inl ⟨a, b, e1, g, .inr ⟨c, h⟩⟩⟩
      | false => exact ⟨List.nodup_nil, d, rfl, od, .inl ⟨a, b, e1, g, .inr ⟨c, h⟩⟩⟩
    · cases y with
      | true => exact ⟨d, rfl, od, .inr ⟨b, h⟩⟩
      | false => exact ⟨List.nodup_nil, d, rfl, od, .inr ⟨b, h⟩⟩
  · obtain ⟨d', e', q, od, oe, h⟩ := h
    cases q
    refine ⟨⟨shp_int _, shp_int _⟩, ⟨shp_int _, shp_int _⟩, ?_⟩
    rcases h with ⟨m, e1, hm, ⟨o, e2, ho, h⟩ | ⟨b, h⟩⟩ | ⟨b, h⟩
    · cases y with
      | true => exact ⟨d, e, rfl, od, oe, .inl ⟨m, e1, hm, .inl ⟨o, e2, ho, h⟩⟩⟩
      | false => exact ⟨List.nodup_nil, d, e, rfl, od, oe, .inl ⟨m, e1, hm, .inl ⟨o, e2, ho, h⟩⟩⟩
    · cases y with
      | true => exact ⟨d, e, rfl, od, oe, .inl ⟨m, e1, hm, .inr ⟨b, h⟩⟩⟩
      | false => exact ⟨List.nodup_nil, d, e, rfl, od, oe, .inl ⟨m, e1, hm, .inr ⟨b, h⟩⟩⟩
    · cases y with
      | true => exact ⟨d, e, rfl, od, oe, .inr ⟨b, h⟩⟩
      | false => exact ⟨List.nodup_nil, d, e, rfl, od, oe, .inr ⟨b, h⟩⟩
  · obtain ⟨d', q, od, h⟩ := h
    cases q
    refine ⟨⟨shp_int _, shp_int _⟩, ⟨shp_int _, shp_int _⟩, ⟨shp_int _, shp_int _⟩, ?_⟩
    rcases h with ⟨t, w, e1, g, h⟩ | ⟨b, h⟩
    · cases y with
      | true => exact ⟨d, rfl, od, .inl ⟨t, w, e1, g, h⟩⟩
      | false => exact ⟨List.nodup_nil, d, rfl, od, .inl ⟨t, w, e1, g, h⟩⟩
    · cases y with
      | true => exact ⟨d, rfl, od, .inr ⟨b, h⟩⟩
      | false => exact ⟨List.nodup_nil, d, rfl, od, .inr ⟨b, h⟩⟩
  · obtain ⟨d', q, od, h⟩ := h
    cases q
    refine ⟨⟨shp_int _, shp_int _⟩, ⟨shp_int _, shp_int _⟩, ⟨shp_int _, shp_int _⟩, ?_⟩
    rcases h with ⟨t, w, e1, g, h⟩ | ⟨b, h⟩
    · cases y with
      | true => exact ⟨d, rfl, od, .inl ⟨t, w, e1, g, h⟩⟩
      | false => exact ⟨List.nodup_nil, d, rfl, od, .inl ⟨t, w, e1, g, h⟩⟩
    · cases y with
      | true => exact ⟨d, rfl, od, .inr ⟨b, h⟩⟩
      | false => exact ⟨List.nodup_nil, d, rfl, od, .inr ⟨b, h⟩⟩
end K11

namespace K11
open PySem DW CA
theorem wd_drop {w : List Int} (h : Wd w) (n : Nat) : Wd (w.drop n) := ⟨fun t m => h.l t (List.mem_of_mem_drop m)⟩
theorem wd_set {w : List Int} (h : Wd w) (n : Nat) {z : Int} (hz : z = 0 ∨ z = 1) : Wd (w.set n z) := ⟨fun t m => by
  rcases List.mem_or_eq_of_mem_set m with m | m
  · exact h.l t m
  · rw [m]; exact hz⟩
theorem cut_from (xs : List D) {j : Nat} (h : j ≤ xs.length) : cutD xs (some (j : Int)) none = xs.drop j := by
  unfold cutD
  have e1 : cutAt xs.length 0 (some (j : Int)) = j := by
    show (if (0 : Int) ≤ (j : Int) then min (j : Int).toNat xs.length else ((xs.length : Int) + (j : Int)).toNat) = j
    rw [if_pos (by omega)]
    omega
  have e2 : cutAt xs.length xs.length none = xs.length := rfl
  rw [e1, e2, List.take_of_length_le]
  rw [List.length_drop]
  omega
def dw7 : WS := (wSeq (wIfS (wTst (wBin dEq (wVar 2) (wC (.int 1)))) (wSeq (wAsg (wCall sp__law_take [.s 0, .v (wVar 3)]) (.nm 8))
    (wSet 7 (wVar 8) (wBin dSub (wC (.int 1)) (wIxO 7 (wVar 8))))) wNext)
    (wRetS 7))
theorem dw7_ok {k : Out → List DV → Prop} {p p5 : List D} {n : Nat} {d b o e m : Int} {w : List Int} (hp : Bx n p5) (hn : n ≤ 800000) (hw : Wd w) (hl : (w.length : Int) = m) (m1 : 1 ≤ m) (m2 : m ≤ 24) {xs : List D} (ex : xs = w.map .int)
    (h : ∀ w p', Wo w → Bx (n + 1) p' → k (.ret (.own (w.map .int))) [.par p', .val (.int 24)]) :
    dw7 [some (.par p5), some (.val (.int 24)), some (.val (.int d)), some (.val (.int m)), some (.val (.int b)), some (.val (.int o)), some (.val (.int e)), some (.own xs), none, none] (ends0 [.par p, .val (.int 24)] k) := by
  subst ex
  have big : m < 2 ^ 250 := by
    have : (1000 : Int) < 2 ^ 250 := by decide
    omega
  refine ⟨⟨shp_int _, shp_int _⟩, ite_both (fun _ => ?_) (fun _ => ?_)⟩
  · refine ⟨rfl, by simp [slotsOf], p5, m, n, rfl, hp, by omega, by omega, big, fun a p6 a0 a1 hp6 => ?_⟩
    obtain ⟨t, rfl⟩ : ∃ t : Nat, a = (t : Int) := ⟨a.toNat, by omega⟩
    have al : t < w.length := by omega
    have ei : itemAt (w.map D.int) (t : Int) = some (.int (w[t])) := by
      unfold itemAt
      rw [if_pos (by omega), show ((t : Nat) : Int).toNat = t by omega, List.getElem?_map, List.getElem?_eq_getElem al]
      rfl
    refine ⟨rfl, ?_⟩
    show (match itemAt (w.map D.int) (t : Int) with | some z => _ | none => False)
    rw [ei]
    refine ⟨rfl, ⟨by omega, by rw [List.length_map]; omega⟩, ?_⟩
    have em : (w.map D.int).set ((t : Nat) : Int).toNat (.int (1 - w[t])) = (w.set t (1 - w[t])).map .int := by
      rw [List.map_set, show ((t : Nat) : Int).toNat = t by omega]
    have ht := hw.l _ (List.getElem_mem al)
    have := h (w.set t (1 - w[t])) p6 ⟨wd_set hw _ (by omega), by rw [List.length_set]; omega, by rw [List.length_set]; omega⟩ hp6
    rw [← em] at this
    exact this
  · exact h w p5 ⟨hw, by omega, by omega⟩ (hp.mono (by omega))
theorem kp__law_drawn_word : Keeps0 10 w__law_drawn_word sp__law_drawn_word := by
  rintro dvs k ⟨p, n, rfl, hp, hn, h⟩
  refine ⟨rfl, by simp [slotsOf], p, 5, n, rfl, hp, by omega, by decide, by decide, fun d p1 d0 d1 hp1 => ?_⟩
  refine ⟨rfl, by simp [slotsOf], p1, 24, n + 1, rfl, hp1, by omega, by decide, by decide, fun v p2 v0 v1 hp2 => ?_⟩
  obtain ⟨m, rfl⟩ : ∃ m : Nat, v = (m : Int) := ⟨v.toNat, by omega⟩
  have big : ∀ i : Int, i ≤ 1000 → i < 2 ^ 250 := fun i hi => by
    have : (1000 : Int) < 2 ^ 250 := by decide
    omega
  refine ⟨⟨shp_int _, shp_int _⟩, ite_both (fun _ => ?_) (fun _ => ?_)⟩
  · refine ⟨⟨⟨by decide, by decide⟩, by omega, by omega⟩, ?_⟩
    have er : (rangeD 0 (1 + (m : Int))).length = m + 1 := by rw [range_len]; omega
    refine ⟨fun i acc ds => ∃ (w : List Int) (q : List D) (x : Option DV), Wd w ∧ w.length = i ∧ acc = w.map .int ∧ Bx (n + 2 + i) q ∧ ds = [some (.par q), some (.val (.int 24)), some (.val (.int d)), some (.val (.int (1 + (m : Int)))), none, none, none, none, none, x], ⟨[], p2, _, ⟨fun t m => nomatch m⟩, rfl, rfl, hp2, rfl⟩, ?_, ?_⟩
    · rintro i z acc ds hi ⟨w, q, x, hw, hl, rfl, hq, rfl⟩
      have il := (List.getElem?_eq_some_iff.mp hi).1
      rw [er] at il
      refine ⟨rfl, by simp [slotsOf], q, 2, n + 2 + i, rfl, hq, by omega, by decide, by decide, fun u q2 u0 u1 hq2 => ?_⟩
      refine ⟨by rw [List.length_map]; omega, w ++ [u], q2, some (.val z), ⟨fun t ht => ?_⟩, by rw [List.length_append, hl]; rfl, by rw [List.map_append]; rfl, hq2, rfl⟩
      rcases List.mem_append.mp ht with ht | ht
      · exact hw.l t ht
      · rw [List.mem_singleton.mp ht]
        omega
    · rintro acc ds ⟨w, q, x, hw, hl, rfl, hq, rfl⟩
      rw [er] at hl hq
      exact h w q ⟨hw, by omega, by omega⟩ (hq.mono (by omega))
  · refine ⟨rfl, by simp [slotsOf], p2, 40, n + 1 + 1, rfl, hp2, by omega, by decide, by decide, fun b p3 b0 b1 hp3 => ?_⟩
    refine ⟨rfl, by simp [slotsOf], p3, 1 + b + 1, n + 1 + 1 + 1, rfl, hp3, by omega, by omega, big _ (by omega), fun o p4 o0 o1 hp4 => ?_⟩
    refine ⟨rfl, by simp [slotsOf], p4, 1 + b, n + 1 + 1 + 1 + 1, rfl, hp4, by omega, by omega, big _ (by omega), fun s p5 s0 s1 hp5 => ?_⟩
    obtain ⟨st, rfl⟩ : ∃ st : Nat, s = (st : Int) := ⟨s.toNat, by omega⟩
    have es : (st : Int) + (1 + (m : Int)) = ((st + (1 + m) : Nat) : Int) := by omega
    refine ⟨List.nodup_nil, o, 1 + b, st + (1 + m), by rw [← es]; rfl, ⟨by omega, by omega⟩, ⟨by omega, by omega⟩, by omega, ?_⟩
    have hw : Wd ((evn o (1 + b) (st + (1 + m))).drop st) := wd_drop (evn_wd (by omega) (by omega) (by omega) _) _
    have hlen : ((evn o (1 + b) (st + (1 + m))).drop st).length = 1 + m := by
      rw [List.length_drop, evn_len]
      omega
    have ec : cutD ((evn o (1 + b) (st + (1 + m))).map D.int) (some (st : Int)) none = ((evn o (1 + b) (st + (1 + m))).drop st).map .int := by
      rw [cut_from _ (by rw [List.length_map, evn_len]; omega), List.map_drop]
    exact dw7_ok (n := n + 1 + 1 + 1 + 1 + 1) hp5 (by omega) hw (by rw [hlen]; omega) (by omega) (by omega) ec fun w p' g hq => h w p' g (hq.mono (by omega))
end K11

namespace K11
open PySem DW CA
theorem il_due {ns : List Int} (l : ns.length ≤ 9000) : imms (ns.map .int) = true ∧ okG (.lst (ns.map .int)) = true ∧ dpt (.lst (ns.map .int)) < 4 ∧ GdN 6 (.lst (ns.map .int)) := by
  have key : ∀ ns : List Int, imms (ns.map .int) = true ∧ okGs (ns.map .int) = true ∧ dpts (ns.map .int) ≤ 0 ∧ gdBs (ns.map .int) = true ∧ lenBs (ns.map .int) = true ∧ deps (ns.map .int) ≤ 0 := fun ns => by
    induction ns with
    | nil => exact ⟨rfl, rfl, Nat.zero_le _, rfl, rfl, Nat.zero_le _⟩
    | cons n ns ih =>
      obtain ⟨h1, h2, h3, h4, h5, h6⟩ := ih
      refine ⟨h1, h2, ?_, h4, h5, ?_⟩
      · show max 0 (dpts (ns.map .int)) ≤ 0
        omega
      · show max 0 (deps (ns.map .int)) ≤ 0
        omega
  obtain ⟨h1, h2, h3, h4, h5, h6⟩ := key ns
  have el : (ns.map D.int).length = ns.length := List.length_map ..
  refine ⟨h1, ?_, ?_, h4, ?_, ?_⟩
  · show (decide ((ns.map D.int).length < 10000) && okGs (ns.map .int)) = true
    rw [decide_eq_true (by omega), h2]
    rfl
  · show dpts (ns.map .int) + 1 < 4
    omega
  · show (decide ((ns.map D.int).length ≤ 10000) && lenBs (ns.map .int)) = true
    rw [decide_eq_true (by omega), h5]
    rfl
  · show deps (ns.map .int) + 1 < 6
    omega
theorem pr_q {a b : Int} (g : Pt a b) (h : b ≤ 1000) : Qn 3 (pr a b) := by
  have a0 := g.a0
  have ab := g.ab
  have b1 := g.b1
  exact (Qw.pr (n := 20) (bd_small (by omega) (by omega) (by decide)) (bd_small (by omega) (by omega) (by decide))).q.mono (by decide)
theorem wl_q {t : Bool} {w : List Int} (g : Wo w) : Qn 3 (wl t w) := by
  have hq : ∀ x ∈ w.map D.int, Qw 1 0 x := fun x hx => by
    obtain ⟨i, hi, rfl⟩ := List.mem_map.mp hx
    have := g.x.l i hi
    exact Qw.int (n := 20) (bd_small (by omega) (by omega) (by decide))
  have l2 := g.l2
  cases t with
  | true => exact (Qw.tup hq (l := by rw [List.length_map]; omega) (l2 := by rw [List.length_map]; omega)).q.mono (by decide)
  | false => exact (Qw.lst hq (l := by rw [List.length_map]; omega) (l2 := by rw [List.length_map]; omega)).q.mono (by decide)
theorem ts0 {a b : Int} (g : Pt a b) (hb : b ≤ 100) {y : Bool} {k : Out → List DV → Prop} (hk : k (.ret (.val (.bl true))) [.val (.int 0), .val (.lst [pr a b]), .val (.lst ((evn a b b.toNat).map .int)), .val (.bl y)]) :
    sp__law_told_same [.val (.int 0), .val (.lst [pr a b]), .val (.lst ((evn a b b.toNat).map .int)), .val (.bl y)] k := by
  have A : Ask 4 [pr a b] := Ask.of (m := 3) (all1 (pr_q g (by omega)))
  obtain ⟨a1, a2, a3, a4⟩ := il_due (ns := evn a b b.toNat) (by rw [evn_len]; omega)
  refine ⟨_, _, _, _, rfl, A.ok, A.dp, A.okr, a4, a2, a3, fun b' avs hl => ?_, hk⟩
  obtain ⟨v, rfl⟩ := avs1 hl
  exact ⟨0, [tag1 (pr a b) v], b', rfl, .inl ⟨rfl, _, rfl, _, rfl, by rw [tag_ok1 rfl]; rfl, .inl ⟨a, b, tag_core rfl, g, .inl ⟨hb, .inr ⟨_, rfl, a1, rfl⟩⟩⟩⟩⟩
theorem ts1 {o : Int} {m : Nat} (m1 : 1 ≤ m) (m2 : m ≤ 100) (o1 : 0 ≤ o) (o2 : o ≤ m) {y : Bool} {k : Out → List DV → Prop} (hk : k (.ret (.val (.bl true))) [.val (.int 1), .val (.lst [.int o, .int (m : Int)]), .val (.lst ((evn o m m).map .int)), .val (.bl y)]) :
    sp__law_told_same [.val (.int 1), .val (.lst [.int o, .int (m : Int)]), .val (.lst ((evn o m m).map .int)), .val (.bl y)] k := by
  have bo : Bd 20 o := bd_small (by omega) (by omega) (by decide)
  have bm : Bd 20 (m : Int) := bd_small (by omega) (by omega) (by decide)
  have A : Ask 4 [.int o, .int (m : Int)] := Ask.of (m := 3) (all2 ((Qn.int bo).mono (by decide)) ((Qn.int bm).mono (by decide)))
  obtain ⟨a1, a2, a3, a4⟩ := il_due (ns := evn o m m) (by rw [evn_len]; omega)
  refine ⟨_, _, _, _, rfl, A.ok, A.dp, A.okr, a4, a2, a3, fun b' avs hl => ?_, hk⟩
  obtain ⟨v, w, rfl⟩ := avs2 hl
  have e1 : tag1 (.int o) v = .int o := by cases v <;> rfl
  have e2 : tag1 (.int (m : Int)) w = .int (m : Int) := by cases w <;> rfl
  exact ⟨1, [tag1 (.int o) v, tag1 (.int (m : Int)) w], b', rfl, .inr (.inl ⟨rfl, _, _, rfl, _, _, rfl, by rw [e1]; rfl, by rw [e2]; rfl, .inl ⟨m, e2, ⟨by omega, by omega⟩, .inl ⟨o, e1, ⟨o1, o2⟩, .inr ⟨_, rfl, a1, by rw [Int.toNat_natCast]⟩⟩⟩⟩)⟩
theorem wl_bare (t : Bool) (w : List Int) : bare (wl t w) = true := by cases t <;> rfl
theorem wl_ok1 (t : Bool) (w : List Int) : ok1 (wl t w) = true := by
  have : (w.map D.int).all ok0 = true := by
    rw [List.all_map, List.all_eq_true]
    intro x _
    rfl
  cases t with
  | true => show (true && (w.map D.int).all ok0) = true; rw [this]; rfl
  | false => show (true && (w.map D.int).all ok0) = true; rw [this]; rfl
theorem ts2 {t : Bool} {w : List Int} (g : Wo w) {y : Bool} {k : Out → List DV → Prop} (hk : k (.ret (.val (.bl true))) [.val (.int 2), .val (.lst [wl t w]), .val (.bl (balB w)), .val (.bl y)]) :
    sp__law_told_same [.val (.int 2), .val (.lst [wl t w]), .val (.bl (balB w)), .val (.bl y)] k := by
  have A : Ask 4 [wl t w] := Ask.of (m := 3) (all1 (wl_q g))
  refine ⟨_, _, _, _, rfl, A.ok, A.dp, A.okr, ⟨rfl, rfl, by show 0 < 6; decide⟩, rfl, by show 0 < 4; decide, fun b' avs hl => ?_, hk⟩
  obtain ⟨v, rfl⟩ := avs1 hl
  exact ⟨2, [tag1 (wl t w) v], b', rfl, .inr (.inr (.inl ⟨rfl, _, rfl, _, rfl, by rw [tag_ok1 (wl_bare t w)]; exact wl_ok1 t w, .inl ⟨t, w, tag_core (wl_bare t w), g, .inl ⟨rfl, rfl⟩⟩⟩))⟩
theorem told3 {t : Bool} {w : List Int} (g : Wo w) {y : Bool} {k : Out → List DV → Prop} (hk : k (.ret (.val (.lst [.str "told", slp w, .lst [wl t w], .bl true]))) [.val (.int 3), .val (.lst [wl t w]), .val (.bl y)]) :
    sp__law_told [.val (.int 3), .val (.lst [wl t w]), .val (.bl y)] k := by
  have A : Ask 4 [wl t w] := Ask.of (m := 3) (all1 (wl_q g))
  refine ⟨_, _, slp w, _, "told", rfl, A.ok, A.dp, A.okr, fun avs hl => ?_, hk⟩
  obtain ⟨v, rfl⟩ := avs1 hl
  exact ⟨3, [tag1 (wl t w) v], y, rfl, .inr (.inr (.inr ⟨rfl, _, rfl, _, rfl, by rw [tag_ok1 (wl_bare t w)]; exact wl_ok1 t w, .inl ⟨t, w, tag_core (wl_bare t w), g, .inl ⟨rfl, rfl⟩⟩⟩))⟩
theorem toldM {a : Int} (g : Pt a 101) {y : Bool} {k : Out → List DV → Prop} (hk : k (.ret (.val (.lst [.str "many", .int 101, .lst [pr a 101], .bl true]))) [.val (.int 0), .val (.lst [pr a 101]), .val (.bl y)]) :
    sp__law_told [.val (.int 0), .val (.lst [pr a 101]), .val (.bl y)] k := by
  have A : Ask 4 [pr a 101] := Ask.of (m := 3) (all1 (pr_q g (by decide)))
  refine ⟨_, _, .int 101, _, "many", rfl, A.ok, A.dp, A.okr, fun avs hl => ?_, hk⟩
  obtain ⟨v, rfl⟩ := avs1 hl
  exact ⟨0, [tag1 (pr a 101) v], y, rfl, .inl ⟨rfl, _, rfl, _, rfl, by rw [tag_ok1 rfl]; rfl, .inl ⟨a, 101, tag_core rfl, g, .inr ⟨by decide, .inr ⟨"TooMany", .tail _ (.tail _ (.tail _ (.head _))), rfl⟩⟩⟩⟩⟩
/-! refused -/
def oddW (d : D) : Bool := (!wordB d) && (bare d && (qnB 3 d && (ok1 d && (okG d && okrB (grow d)))))
def oddP (d : D) : Bool := (!partB d) && (bare d && (qnB 3 d && (ok1 d && (okG d && okrB (grow d)))))
def oddN (hi : Int) (lo : Int) (d : D) : Bool := (!whB lo hi d) && (bare d && (qnB 3 d && (ok0 d && (okG d && okrB (grow d)))))
theorem whB_tag {lo hi : Int} {x : D} (v : L2.V) (h : whB lo hi x = false) : whB lo hi (tag1 x v) = false := by
  cases x <;> cases v <;> first | exact h | rfl
theorem rf2 {d : D} (h : oddW d = true) {y : Bool} {k : Out → List DV → Prop} (hk : k (.ret (.val (.bl true))) [.val (.int 2), .val (.lst [d]), .val (.str "word"), .val (.int 0), .val (.bl y)]) :
    sp__law_refused [.val (.int 2), .val (.lst [d]), .val (.str "word"), .val (.int 0), .val (.bl y)] k := by
  unfold oddW at h
  simp only [Bool.and_eq_true, Bool.not_eq_true'] at h
  obtain ⟨h1, h2, h3, h4, h5, h6⟩ := h
  have A : Ask 4 [d] := Ask.of (m := 3) (all1 (.of h3))
  refine ⟨_, _, d, _, _, 0, rfl, rfl, A.ok, A.dp, A.okr, h5, okr_of h6, fun avs hl => ?_, hk⟩
  obtain ⟨v, rfl⟩ := avs1 hl
  exact ⟨2, [tag1 d v], y, rfl, .inr (.inr (.inl ⟨rfl, _, rfl, _, rfl, by rw [tag_ok1 h2]; exact h4, .inr ⟨by rw [tag_core h2]; exact h1, _, v, .tail _ (.tail _ (.head _)), rfl, rfl⟩⟩))⟩
theorem rf3 {d : D} (h : oddW d = true) {y : Bool} {k : Out → List DV → Prop} (hk : k (.ret (.val (.bl true))) [.val (.int 3), .val (.lst [d]), .val (.str "word"), .val (.int 0), .val (.bl y)]) :
    sp__law_refused [.val (.int 3), .val (.lst [d]), .val (.str "word"), .val (.int 0), .val (.bl y)] k := by
  unfold oddW at h
  simp only [Bool.and_eq_true, Bool.not_eq_true'] at h
  obtain ⟨h1, h2, h3, h4, h5, h6⟩ := h
  have A : Ask 4 [d] := Ask.of (m := 3) (all1 (.of h3))
  refine ⟨_, _, d, _, _, 0, rfl, rfl, A.ok, A.dp, A.okr, h5, okr_of h6, fun avs hl => ?_, hk⟩
  obtain ⟨v, rfl⟩ := avs1 hl
  exact ⟨3, [tag1 d v], y, rfl, .inr (.inr (.inr ⟨rfl, _, rfl, _, rfl, by rw [tag_ok1 h2]; exact h4, .inr ⟨by rw [tag_core h2]; exact h1, _, v, .tail _ (.tail _ (.head _)), rfl, rfl⟩⟩))⟩
theorem rf0 {d : D} (h : oddP d = true) {y : Bool} {k : Out → List DV → Prop} (hk : k (.ret (.val (.bl true))) [.val (.int 0), .val (.lst [d]), .val (.str "fraction"), .val (.int 0), .val (.bl y)]) :
    sp__law_refused [.val (.int 0), .val (.lst [d]), .val (.str "fraction"), .val (.int 0), .val (.bl y)] k := by
  unfold oddP at h
  simp only [Bool.and_eq_true, Bool.not_eq_true'] at h
  obtain ⟨h1, h2, h3, h4, h5, h6⟩ := h
  have A : Ask 4 [d] := Ask.of (m := 3) (all1 (.of h3))
  refine ⟨_, _, d, _, _, 0, rfl, rfl, A.ok, A.dp, A.okr, h5, okr_of h6, fun avs hl => ?_, hk⟩
  obtain ⟨v, rfl⟩ := avs1 hl
  exact ⟨0, [tag1 d v], y, rfl, .inl ⟨rfl, _, rfl, _, rfl, by rw [tag_ok1 h2]; exact h4, .inr ⟨by rw [tag_core h2]; exact h1, _, v, .head _, rfl, rfl⟩⟩⟩
theorem rf1 {d : D} (h : oddN 100 1 d = true) {y : Bool} {k : Out → List DV → Prop} (hk : k (.ret (.val (.bl true))) [.val (.int 1), .val (.lst [.non, d]), .val (.str "number"), .val (.int 1), .val (.bl y)]) :
    sp__law_refused [.val (.int 1), .val (.lst [.non, d]), .val (.str "number"), .val (.int 1), .val (.bl y)] k := by
  unfold oddN at h
  simp only [Bool.and_eq_true, Bool.not_eq_true'] at h
  obtain ⟨h1, h2, h3, h4, h5, h6⟩ := h
  have A : Ask 4 [.non, d] := Ask.of (m := 3) (all2 (Qn.non.mono (by decide)) (.of h3))
  refine ⟨_, _, d, _, _, 1, rfl, rfl, A.ok, A.dp, A.okr, h5, okr_of h6, fun avs hl => ?_, hk⟩
  obtain ⟨v, w, rfl⟩ := avs2 hl
  exact ⟨1, [tag1 .non v, tag1 d w], y, rfl, .inr (.inl ⟨rfl, _, _, rfl, _, _, rfl, by cases v <;> rfl, by rw [tag_ok0 h2]; exact h4, .inr ⟨whB_tag w h1, _, w, .tail _ (.head _), rfl, rfl⟩⟩)⟩
theorem rf1b {d : D} (h : oddN 7 0 d = true) {y : Bool} {k : Out → List DV → Prop} (hk : k (.ret (.val (.bl true))) [.val (.int 1), .val (.lst [d, .int 7]), .val (.str "number"), .val (.int 0), .val (.bl y)]) :
    sp__law_refused [.val (.int 1), .val (.lst [d, .int 7]), .val (.str "number"), .val (.int 0), .val (.bl y)] k := by
  unfold oddN at h
  simp only [Bool.and_eq_true, Bool.not_eq_true'] at h
  obtain ⟨h1, h2, h3, h4, h5, h6⟩ := h
  have b7 : Bd 20 7 := bd_small (by decide) (by decide) (by decide)
  have A : Ask 4 [d, .int 7] := Ask.of (m := 3) (all2 (.of h3) ((Qn.int b7).mono (by decide)))
  refine ⟨_, _, d, _, _, 0, rfl, rfl, A.ok, A.dp, A.okr, h5, okr_of h6, fun avs hl => ?_, hk⟩
  obtain ⟨v, w, rfl⟩ := avs2 hl
  have e2 : tag1 (.int 7) w = .int 7 := by cases w <;> rfl
  exact ⟨1, [tag1 d v, tag1 (.int 7) w], y, rfl, .inr (.inl ⟨rfl, _, _, rfl, _, _, rfl, by rw [tag_ok0 h2]; exact h4, by rw [e2]; rfl, .inl ⟨7, e2, ⟨by decide, by decide⟩, .inr ⟨whB_tag v h1, _, v, .tail _ (.head _), rfl, rfl⟩⟩⟩)⟩
def noP : List D := K03.noF ++ [.tup [.int (-1), .int 2], .tup [.int 3, .int 2]]
def noA : List D := [.int 0, .int 101, .int (-1), .non, .bl true, .str "3", .lst [.int 3], .int (10 ^ 20)]
def noB : List D := [.int (-1), .int 8, .non, .bl true, .str "3", .lst [.int 3], .int (10 ^ 20)]
theorem noW_all : noW.all oddW = true := by decide +kernel
theorem noP_all : noP.all oddP = true := by decide +kernel
theorem noA_all : noA.all (oddN 100 1) = true := by decide +kernel
theorem noB_all : noB.all (oddN 7 0) = true := by decide +kernel
end K11

namespace K11
open PySem DW CA
def crb1_s0 : WS := (wAsg (wCall sp__law_low [.v (wCall sp__law_take [.s 0, .v (wC (.int 101))]), .v (wBin dAdd (wC (.int 1)) (wCall sp__law_take [.s 0, .v (wC (.int 100))]))]) (.nm 3))
def crb1_s1 : WS := (wAsg (wIf (wTst (wBin dLe (wBin dIx (wVar 3) (wC (.int 0))) (wBin dIx (wVar 3) (wC (.int 1))))) (wVar 3) (wCall sp__law_low [.v (wBin dIx (wVar 3) (wC (.int 1))), .v (wBin dIx (wVar 3) (wC (.int 0)))])) (.nm 3))
def crb1_s2 : WS := (wIfS (wAnd (wTst (wBin dLe (wBin dIx (wVar 3) (wC (.int 1))) (wC (.int 100)))) (wNot (wTst (wCall sp__law_told_same [.v (wC (.int 0)), .v (wFrz (wLst [(wVar 3)])), .v (wFrz (wCallO sp__law_even [.v (wBin dIx (wVar 3) (wC (.int 0))), .v (wBin dIx (wVar 3) (wC (.int 1))), .v (wBin dIx (wVar 3) (wC (.int 1)))])), .v (wVar 1)])))) (wRet (wC (.bl false))) wNext)
def crb1_s3 : WS := (wAsg (wBin dAdd (wC (.int 1)) (wCall sp__law_take [.s 0, .v (wC (.int 100))])) (.nm 4))
def crb1_s4 : WS := (wAsg (wCall sp__law_take [.s 0, .v (wBin dAdd (wVar 4) (wC (.int 1)))]) (.nm 5))
def crb1_s5 : WS := (wAsg (wFrz (wCallO sp__law_even [.v (wVar 5), .v (wVar 4), .v (wVar 4)])) (.nm 6))
def crb1_s6 : WS := (wIfS (wOr (wNot (wTst (wCall sp__law_told_same [.v (wC (.int 1)), .v (wFrz (wLst [(wVar 5), (wVar 4)])), .v (wVar 6), .v (wNotV (wVar 1))]))) (wTst (wBin dNe (wUn dSum (wVar 6)) (wVar 5)))) (wRet (wC (.bl false))) wNext)
def crb1_s7 : WS := (wAsg (wCall sp__law_low [.v (wVar 5), .v (wVar 4)]) (.nm 7))
def crb1_s8 : WS := (wIfS (wOr (wTst (wBin dNe (wVar 6) (wFrz (wRepL (wCallO sp__law_even [.v (wBin dIx (wVar 7) (wC (.int 0))), .v (wBin dIx (wVar 7) (wC (.int 1))), .v (wBin dIx (wVar 7) (wC (.int 1)))]) (wBin dFdiv (wVar 4) (wBin dIx (wVar 7) (wC (.int 1)))))))) (wAnd (wTst (wBin dLe (wVar 4) (wC (.int 40)))) (wNot (wTst (wCall sp__law_balanced [.v (wFrz (wCat (wVar 6) (wVar 6)))]))))) (wRet (wC (.bl false))) wNext)
def crb1_r8 : WS := crb1_s8
def crb1_r7 : WS := wSeq crb1_s7 crb1_r8
def crb1_r6 : WS := wSeq crb1_s6 crb1_r7
def crb1_r5 : WS := wSeq crb1_s5 crb1_r6
def crb1_r4 : WS := wSeq crb1_s4 crb1_r5
def crb1_r3 : WS := wSeq crb1_s3 crb1_r4
def crb1_r2 : WS := wSeq crb1_s2 crb1_r3
def crb1_r1 : WS := wSeq crb1_s1 crb1_r2
def crb1_r0 : WS := wSeq crb1_s0 crb1_r1
def crb2_s0 : WS := (wAsg (wFrz (wCallO sp__law_drawn_word [.s 0, .v (wC (.int 24))])) (.nm 8))
def crb2_s1 : WS := (wPar 9 10 (wIf (wTst (wVar 1)) (wTupF (wVar 8)) (wFrz (wListF (wVar 8)))) (wCall sp__law_balanced [.v (wVar 8)]))
def crb2_s2 : WS := (wIfS (wNot (wTst (wCall sp__law_told_same [.v (wC (.int 2)), .v (wFrz (wLst [(wVar 9)])), .v (wVar 10), .v (wVar 1)]))) (wRet (wC (.bl false))) wNext)
def crb2_s3 : WS := (wAsg (wCall sp__law_told [.v (wC (.int 3)), .v (wFrz (wLst [(wVar 9)])), .v (wNotV (wVar 1))]) (.nm 11))
def crb2_s4 : WS := (wIfS (wOr (wTst (wBin dNe (wBin dIx (wVar 11) (wC (.int 0))) (wC (.str (Str.ofString "told"))))) (wOr (wNot (wTst (wBin dIx (wVar 11) (wC (.int 3))))) (wTst (wBin dNe (wUn dIsN (wBin dIx (wVar 11) (wC (.int 1)))) (wNotV (wVar 10)))))) (wRet (wC (.bl false))) wNext)
def crb2_r4 : WS := crb2_s4
def crb2_r3 : WS := wSeq crb2_s3 crb2_r4
def crb2_r2 : WS := wSeq crb2_s2 crb2_r3
def crb2_r1 : WS := wSeq crb2_s1 crb2_r2
def crb2_r0 : WS := wSeq crb2_s0 crb2_r1
def crb3_s0 : WS := (wIfS (wOr (wNot (wTst (wCall sp__law_refused [.v (wC (.int 2)), .v (wFrz (wLst [(wVar 12)])), .v (wC (.str (Str.ofString "word"))), .v (wC (.int 0)), .v (wVar 1)]))) (wNot (wTst (wCall sp__law_refused [.v (wC (.int 3)), .v (wFrz (wLst [(wVar 12)])), .v (wC (.str (Str.ofString "word"))), .v (wC (.int 0)), .v (wNotV (wVar 1))])))) (wRet (wC (.bl false))) wNext)
def crb3_r0 : WS := crb3_s0
def crb4_s0 : WS := (wIfS (wNot (wTst (wCall sp__law_refused [.v (wC (.int 0)), .v (wFrz (wLst [(wVar 12)])), .v (wC (.str (Str.ofString "fraction"))), .v (wC (.int 0)), .v (wVar 1)]))) (wRet (wC (.bl false))) wNext)
def crb4_r0 : WS := crb4_s0
def crb5_s0 : WS := (wIfS (wNot (wTst (wCall sp__law_refused [.v (wC (.int 1)), .v (wFrz (wLst [(wC .non), (wVar 12)])), .v (wC (.str (Str.ofString "number"))), .v (wC (.int 1)), .v (wVar 1)]))) (wRet (wC (.bl false))) wNext)
def crb5_r0 : WS := crb5_s0
def crb6_s0 : WS := (wIfS (wNot (wTst (wCall sp__law_refused [.v (wC (.int 1)), .v (wFrz (wLst [(wVar 12), (wC (.int 7))])), .v (wC (.str (Str.ofString "number"))), .v (wC (.int 0)), .v (wNotV (wVar 1))]))) (wRet (wC (.bl false))) wNext)
def crb6_r0 : WS := crb6_s0
def crs0 : WS := (wAsg (wBin dEq (wCall sp__law_take [.s 0, .v (wC (.int 2))]) (wC (.int 1))) (.nm 1))
def crs1 : WS := (wForR [(wC (.int 3))] (.nm 2) crb1_r0)
def crs2 : WS := (wForR [(wC (.int 3))] (.nm 2) crb2_r0)
def crs3 : WS := (wFor (wFrz (wCut (wFrz (wCallO sp__law_mixed [.s 0, .v (wFrz (wCallO sp__law_no_words []))])) wNoP (wP (wC (.int 4))))) (.nm 12) crb3_r0)
def crs4 : WS := (wFor (wFrz (wCut (wFrz (wCallO sp__law_mixed [.s 0, .v (wFrz (wCat (wFrz (wCallO sp__law_no_fractions [])) (wFrz (wLst [(wTup [(wUn dNeg (wC (.int 1))), (wC (.int 2))]), (wTup [(wC (.int 3)), (wC (.int 2))])]))))])) wNoP (wP (wC (.int 4))))) (.nm 12) crb4_r0)
def crs5 : WS := (wFor (wFrz (wCut (wFrz (wCallO sp__law_mixed [.s 0, .v (wFrz (wLst [(wC (.int 0)), (wC (.int 101)), (wUn dNeg (wC (.int 1))), (wC .non), (wC (.bl true)), (wC (.str (Str.ofString "3"))), (wFrz (wLst [(wC (.int 3))])), (wBin dPow (wC (.int 10)) (wC (.int 20)))]))])) wNoP (wP (wC (.int 3))))) (.nm 12) crb5_r0)
def crs6 : WS := (wFor (wFrz (wCut (wFrz (wCallO sp__law_mixed [.s 0, .v (wFrz (wLst [(wUn dNeg (wC (.int 1))), (wC (.int 8)), (wC .non), (wC (.bl true)), (wC (.str (Str.ofString "3"))), (wFrz (wLst [(wC (.int 3))])), (wBin dPow (wC (.int 10)) (wC (.int 20)))]))])) wNoP (wP (wC (.int 3))))) (.nm 12) crb6_r0)
def crs7 : WS := (wAsg (wTup [(wBin dAdd (wC (.int 1)) (wCall sp__law_take [.s 0, .v (wC (.int 50))])), (wC (.int 101))]) (.nm 13))
def crs8 : WS := (wAsg (wCall sp__law_told [.v (wC (.int 0)), .v (wFrz (wLst [(wVar 13)])), .v (wVar 1)]) (.nm 11))
def crs9 : WS := (wRet (wAndV (wBin dEq (wBin dIx (wVar 11) (wC (.int 0))) (wC (.str (Str.ofString "many")))) (wAndV (wBin dIx (wVar 11) (wC (.int 3))) (wCall sp__law_same [.v (wBin dIx (wVar 11) (wC (.int 1))), .v (wC (.int 101))]))))
def crr9 : WS := crs9
def crr8 : WS := wSeq crs8 crr9
def crr7 : WS := wSeq crs7 crr8
def crr6 : WS := wSeq crs6 crr7
def crr5 : WS := wSeq crs5 crr6
def crr4 : WS := wSeq crs4 crr5
def crr3 : WS := wSeq crs3 crr4
def crr2 : WS := wSeq crs2 crr3
def crr1 : WS := wSeq crs1 crr2
def crr0 : WS := wSeq crs0 crr1
theorem mem_cut {xs : List D} {lo hi : Option Int} {d : D} (h : d ∈ cutD xs lo hi) : d ∈ xs := List.mem_of_mem_drop (List.mem_of_mem_take h)
theorem b3_ok {P : Post} {d : D} {y : Bool} (h : oddW d = true) {z0 z2 z3 z4 z5 z6 z7 z8 z9 z10 z11 z13 : Option DV} (hP : P.nx [z0, some (.val (.bl y)), z2, z3, z4, z5, z6, z7, z8, z9, z10, z11, some (.val (d)), z13]) : crb3_r0 [z0, some (.val (.bl y)), z2, z3, z4, z5, z6, z7, z8, z9, z10, z11, some (.val (d)), z13] P :=
  ⟨List.nodup_nil, rf2 h ⟨List.nodup_nil, rf3 h (ite_no rfl hP)⟩⟩
theorem b4_ok {P : Post} {d : D} {y : Bool} (h : oddP d = true) {z0 z2 z3 z4 z5 z6 z7 z8 z9 z10 z11 z13 : Option DV} (hP : P.nx [z0, some (.val (.bl y)), z2, z3, z4, z5, z6, z7, z8, z9, z10, z11, some (.val (d)), z13]) : crb4_r0 [z0, some (.val (.bl y)), z2, z3, z4, z5, z6, z7, z8, z9, z10, z11, some (.val (d)), z13] P :=
  ⟨List.nodup_nil, rf0 h (ite_no rfl hP)⟩
theorem b5_ok {P : Post} {d : D} {y : Bool} (h : oddN 100 1 d = true) {z0 z2 z3 z4 z5 z6 z7 z8 z9 z10 z11 z13 : Option DV} (hP : P.nx [z0, some (.val (.bl y)), z2, z3, z4, z5, z6, z7, z8, z9, z10, z11, some (.val (d)), z13]) : crb5_r0 [z0, some (.val (.bl y)), z2, z3, z4, z5, z6, z7, z8, z9, z10, z11, some (.val (d)), z13] P :=
  ⟨List.nodup_nil, rf1 h (ite_no rfl hP)⟩
theorem b6_ok {P : Post} {d : D} {y : Bool} (h : oddN 7 0 d = true) {z0 z2 z3 z4 z5 z6 z7 z8 z9 z10 z11 z13 : Option DV} (hP : P.nx [z0, some (.val (.bl y)), z2, z3, z4, z5, z6, z7, z8, z9, z10, z11, some (.val (d)), z13]) : crb6_r0 [z0, some (.val (.bl y)), z2, z3, z4, z5, z6, z7, z8, z9, z10, z11, some (.val (d)), z13] P :=
  ⟨List.nodup_nil, rf1b h (ite_no rfl hP)⟩
theorem g101 : ∀ v : Nat, v < 50 → Int.gcd (1 + (v : Int)) 101 = 1 := by decide +kernel
theorem c7_ok {k : Out → List DV → Prop} {b bq : List D} {y : Bool} {n : Nat} (hp : Bx n b) (hn : n ≤ 900000) (h : ∀ b, k (.ret (.val (.bl true))) [.par b]) {z2 z3 z4 z5 z6 z7 z8 z9 z10 z11 z12 z13 : Option DV} :
    crr7 [some (.par b), some (.val (.bl y)), z2, z3, z4, z5, z6, z7, z8, z9, z10, z11, z12, z13] (ends0 [.par bq] k) := by
  refine ⟨rfl, by simp [slotsOf], b, 50, n, rfl, hp, by omega, by decide, by decide, fun v p1 v0 v1 hp1 => ?_⟩
  obtain ⟨m, rfl⟩ : ∃ m : Nat, v = (m : Int) := ⟨v.toNat, by omega⟩
  have g : Pt (1 + (m : Int)) 101 := ⟨by decide, g101 m (by omega), by omega, by omega⟩
  refine ⟨List.nodup_nil, toldM g ?_⟩
  refine ⟨⟨⟨by decide +kernel, by decide +kernel⟩, ⟨by decide +kernel, by decide +kernel⟩⟩, ?_⟩
  refine ⟨List.nodup_nil, .int 101, rfl, ⟨rfl, rfl, by show 0 < 6; decide⟩, ?_⟩
  exact h _
theorem c6_ok {k : Out → List DV → Prop} {b bq : List D} {y : Bool} {n : Nat} (hp : Bx n b) (hn : n ≤ 800000) (h : ∀ b, k (.ret (.val (.bl true))) [.par b]) {z2 z3 z4 z5 z6 z7 z8 z9 z10 z11 z12 z13 : Option DV} :
    crr6 [some (.par b), some (.val (.bl y)), z2, z3, z4, z5, z6, z7, z8, z9, z10, z11, z12, z13] (ends0 [.par bq] k) := by
  refine ⟨rfl, ⟨by decide, by decide, by decide⟩, by simp [slotsOf], b, noB, n, rfl, hp, by omega, Nat.le_of_ble_eq_true rfl, fun o p2 ho _ hp2 => ?_⟩
  have all : ∀ d ∈ cutD o none (some 3), oddN 7 0 d = true := fun d m => List.all_eq_true.mp noB_all d (ho d (mem_cut m))
  refine ⟨fun i ds => ∃ z2 z3 z4 z5 z6 z7 z8 z9 z10 z11 z12 z13 : Option DV, ds = [some (.par p2), some (.val (.bl y)), z2, z3, z4, z5, z6, z7, z8, z9, z10, z11, z12, z13], ⟨_, _, _, _, _, _, _, _, _, _, _, _, rfl⟩, ?_, ?_⟩
  · rintro i d ds hi ⟨z2, z3, z4, z5, z6, z7, z8, z9, z10, z11, z12, z13, rfl⟩
    exact b6_ok (all d (List.mem_of_getElem? hi)) ⟨_, _, _, _, _, _, _, _, _, _, _, _, rfl⟩
  · rintro ds ⟨z2, z3, z4, z5, z6, z7, z8, z9, z10, z11, z12, z13, rfl⟩
    exact c7_ok (n := n + noB.length) hp2 (by have : noB.length = 7 := rfl; omega) h
theorem c5_ok {k : Out → List DV → Prop} {b bq : List D} {y : Bool} {n : Nat} (hp : Bx n b) (hn : n ≤ 700000) (h : ∀ b, k (.ret (.val (.bl true))) [.par b]) {z2 z3 z4 z5 z6 z7 z8 z9 z10 z11 z12 z13 : Option DV} :
    crr5 [some (.par b), some (.val (.bl y)), z2, z3, z4, z5, z6, z7, z8, z9, z10, z11, z12, z13] (ends0 [.par bq] k) := by
  refine ⟨rfl, ⟨by decide, by decide, by decide⟩, by simp [slotsOf], b, noA, n, rfl, hp, by omega, Nat.le_of_ble_eq_true rfl, fun o p2 ho _ hp2 => ?_⟩
  have all : ∀ d ∈ cutD o none (some 3), oddN 100 1 d = true := fun d m => List.all_eq_true.mp noA_all d (ho d (mem_cut m))
  refine ⟨fun i ds => ∃ z2 z3 z4 z5 z6 z7 z8 z9 z10 z11 z12 z13 : Option DV, ds = [some (.par p2), some (.val (.bl y)), z2, z3, z4, z5, z6, z7, z8, z9, z10, z11, z12, z13], ⟨_, _, _, _, _, _, _, _, _, _, _, _, rfl⟩, ?_, ?_⟩
  · rintro i d ds hi ⟨z2, z3, z4, z5, z6, z7, z8, z9, z10, z11, z12, z13, rfl⟩
    exact b5_ok (all d (List.mem_of_getElem? hi)) ⟨_, _, _, _, _, _, _, _, _, _, _, _, rfl⟩
  · rintro ds ⟨z2, z3, z4, z5, z6, z7, z8, z9, z10, z11, z12, z13, rfl⟩
    exact c6_ok (n := n + noA.length) hp2 (by have : noA.length = 8 := rfl; omega) h
theorem c4_ok {k : Out → List DV → Prop} {b bq : List D} {y : Bool} {n : Nat} (hp : Bx n b) (hn : n ≤ 600000) (h : ∀ b, k (.ret (.val (.bl true))) [.par b]) {z2 z3 z4 z5 z6 z7 z8 z9 z10 z11 z12 z13 : Option DV} :
    crr4 [some (.par b), some (.val (.bl y)), z2, z3, z4, z5, z6, z7, z8, z9, z10, z11, z12, z13] (ends0 [.par bq] k) := by
  refine ⟨rfl, List.nodup_nil, rfl, Nat.le_of_ble_eq_true rfl, by simp [slotsOf], b, noP, n, rfl, hp, by omega, Nat.le_of_ble_eq_true rfl, fun o p2 ho _ hp2 => ?_⟩
  have all : ∀ d ∈ cutD o none (some 4), oddP d = true := fun d m => List.all_eq_true.mp noP_all d (ho d (mem_cut m))
  refine ⟨fun i ds => ∃ z2 z3 z4 z5 z6 z7 z8 z9 z10 z11 z12 z13 : Option DV, ds = [some (.par p2), some (.val (.bl y)), z2, z3, z4, z5, z6, z7, z8, z9, z10, z11, z12, z13], ⟨_, _, _, _, _, _, _, _, _, _, _, _, rfl⟩, ?_, ?_⟩
  · rintro i d ds hi ⟨z2, z3, z4, z5, z6, z7, z8, z9, z10, z11, z12, z13, rfl⟩
    exact b4_ok (all d (List.mem_of_getElem? hi)) ⟨_, _, _, _, _, _, _, _, _, _, _, _, rfl⟩
  · rintro ds ⟨z2, z3, z4, z5, z6, z7, z8, z9, z10, z11, z12, z13, rfl⟩
    exact c5_ok (n := n + noP.length) hp2 (by have : noP.length = 19 := rfl; omega) h
theorem c3_ok {k : Out → List DV → Prop} {b bq : List D} {y : Bool} {n : Nat} (hp : Bx n b) (hn : n ≤ 500000) (h : ∀ b, k (.ret (.val (.bl true))) [.par b]) {z2 z3 z4 z5 z6 z7 z8 z9 z10 z11 z12 z13 : Option DV} :
    crr3 [some (.par b), some (.val (.bl y)), z2, z3, z4, z5, z6, z7, z8, z9, z10, z11, z12, z13] (ends0 [.par bq] k) := by
  refine ⟨rfl, List.nodup_nil, rfl, by simp [slotsOf], b, noW, n, rfl, hp, by omega, Nat.le_of_ble_eq_true rfl, fun o p2 ho _ hp2 => ?_⟩
  have all : ∀ d ∈ cutD o none (some 4), oddW d = true := fun d m => List.all_eq_true.mp noW_all d (ho d (mem_cut m))
  refine ⟨fun i ds => ∃ z2 z3 z4 z5 z6 z7 z8 z9 z10 z11 z12 z13 : Option DV, ds = [some (.par p2), some (.val (.bl y)), z2, z3, z4, z5, z6, z7, z8, z9, z10, z11, z12, z13], ⟨_, _, _, _, _, _, _, _, _, _, _, _, rfl⟩, ?_, ?_⟩
  · rintro i d ds hi ⟨z2, z3, z4, z5, z6, z7, z8, z9, z10, z11, z12, z13, rfl⟩
    exact b3_ok (all d (List.mem_of_getElem? hi)) ⟨_, _, _, _, _, _, _, _, _, _, _, _, rfl⟩
  · rintro ds ⟨z2, z3, z4, z5, z6, z7, z8, z9, z10, z11, z12, z13, rfl⟩
    exact c4_ok (n := n + noW.length) hp2 (by have : noW.length = 15 := rfl; omega) h
end K11

namespace K11
open PySem DW CA
theorem isNon_slp (w : List Int) : isNon (slp w) = !balB w := by
  unfold slp
  cases c : balB w with
  | true => rfl
  | false => rfl
theorem b2_ok {P : Post} {b : List D} {y : Bool} {n : Nat} (hp : Bx n b) (hn : n ≤ 400000) {w8 w9 w10 w11 : Option DV} {z2 z3 z4 z5 z6 z7 z12 z13 : Option DV} (hP : ∀ (c : List D) (u8 u9 u10 u11 : Option DV), Bx (n + 40) c → P.nx [some (.par c), some (.val (.bl y)), z2, z3, z4, z5, z6, z7, u8, u9, u10, u11, z12, z13]) : crb2_r0 [some (.par b), some (.val (.bl y)), z2, z3, z4, z5, z6, z7, w8, w9, w10, w11, z12, z13] P := by
  refine ⟨rfl, by simp [slotsOf], b, n, rfl, hp, by omega, fun w p1 g hp1 => ?_⟩
  have l2 := g.l2
  have go : ∀ d : D, d = wl y w → crb2_r2 [some (.par p1), some (.val (.bl y)), z2, z3, z4, z5, z6, z7, some (.val (.lst (w.map .int))), some (.val (d)), some (.val (.bl (balB w))), w11, z12, z13] P := fun d ed => by
    subst ed
    refine ⟨List.nodup_nil, ts2 g (ite_no rfl ?_)⟩
    refine ⟨List.nodup_nil, told3 g ?_⟩
    refine ⟨⟨⟨by decide +kernel, by decide +kernel⟩, ⟨by decide +kernel, by decide +kernel⟩⟩, ?_⟩
    refine ⟨⟨shp_bl _, shp_bl _⟩, ite_no ?_ (hP _ _ _ _ _ hp1)⟩
    have e := isNon_slp w
    show (!deq (.bl (isNon (slp w))) (.bl (!balB w))) = false
    rw [e, deq_refl]
    rfl
  cases y with
  | true =>
    refine ⟨List.nodup_nil, w, rfl, g, ?_⟩
    exact go _ rfl
  | false =>
    refine ⟨List.nodup_nil, w, rfl, g, ?_⟩
    exact go _ rfl
theorem low_facts {u w : Int} (u0 : 0 ≤ u) (w1 : 1 ≤ w) : ∃ a b g : Int, fr (Rat.divInt u w) = pr a b ∧ 1 ≤ g ∧ u = g * a ∧ w = g * b ∧ 0 ≤ a ∧ 1 ≤ b ∧ Int.gcd a b = 1 := by
  have g0 : 0 < Int.gcd u w := Int.gcd_pos_of_ne_zero_right u (by omega)
  have du : (Int.gcd u w : Int) ∣ u := Int.gcd_dvd_left ..
  have dw : (Int.gcd u w : Int) ∣ w := Int.gcd_dvd_right ..
  have e : fr (Rat.divInt u w) = _ := K03.low_pos (by omega)
  rw [fdv (by omega), fdv (by omega)] at e
  have eu := Int.mul_ediv_cancel' du
  have ew := Int.mul_ediv_cancel' dw
  have a0 : 0 ≤ u / (Int.gcd u w : Int) := Int.ediv_nonneg u0 (by omega)
  have b1 : 1 ≤ w / (Int.gcd u w : Int) := by
    refine Classical.byContradiction fun n => ?_
    have : (Int.gcd u w : Int) * (w / (Int.gcd u w : Int)) ≤ (Int.gcd u w : Int) * 0 := Int.mul_le_mul_of_nonneg_left (by omega) (by omega)
    omega
  refine ⟨u / (Int.gcd u w : Int), w / (Int.gcd u w : Int), (Int.gcd u w : Int), e, by omega, eu.symm, ew.symm, a0, b1, ?_⟩
  have r := (Rat.divInt u w).reduced
  have e4 : D.tup [D.int (Rat.divInt u w).num, D.int ((Rat.divInt u w).den : Int)] = pr (u / (Int.gcd u w : Int)) (w / (Int.gcd u w : Int)) := e
  injection e4 with e4
  injection e4 with e5 e6
  injection e5 with e5
  injection e6 with e6
  injection e6 with e6
  rw [← e5, ← e6]
  exact r
theorem mul_le_right {g a x : Int} (g1 : 1 ≤ g) (a0 : 0 ≤ a) (h : g * a ≤ x) : a ≤ x := by
  have : 1 * a ≤ g * a := Int.mul_le_mul_of_nonneg_right g1 a0
  omega
theorem gcd_tq {a b : Int} (b1 : 1 ≤ b) (g : Int.gcd a b = 1) : fr (Rat.divInt a b) = pr a b := by
  rw [show fr (Rat.divInt a b) = _ from K03.low_pos (by omega), g]
  show pr (a.fdiv 1) (b.fdiv 1) = _
  rw [Int.fdiv_one, Int.fdiv_one]
theorem sum_evn {o : Int} {m : Nat} (m1 : 1 ≤ m) : (evn o m m).sum = o := by
  have e := evn_pre (o := o) (m := (m : Int)) m m (Nat.le_refl _)
  unfold pre at e
  rw [List.take_of_length_le (by rw [evn_len]; exact Nat.le_refl _)] at e
  rw [e]
  unfold ev
  exact Int.mul_ediv_cancel_left _ (by omega)
end K11

namespace K11
open PySem DW CA
theorem even_bal {o : Int} {m n : Nat} (m1 : 1 ≤ m) (o1 : 0 ≤ o) (o2 : o ≤ m) (n1 : 1 ≤ n) (n2 : n ≤ 100) : Wo (evn o m n) ∧ balB (evn o m n) = true := by
  have g : Wo (evn o m n) := ⟨evn_wd (by omega) o1 o2 n, by rw [evn_len]; exact n1, by rw [evn_len]; exact n2⟩
  refine ⟨g, (balB_iff g).mpr ?_⟩
  have := evn_bal (o := o) (m := (m : Int)) (by omega) n
  rw [evn_len]
  exact this
theorem c8_ok {P : Post} {o : Int} {m : Nat} (m1 : 1 ≤ m) (m2 : m ≤ 100) (o1 : 0 ≤ o) (o2 : o ≤ m) {a b g : Int} (g1 : 1 ≤ g) (eo : o = g * a) (em : (m : Int) = g * b) (a0 : 0 ≤ a) (b1 : 1 ≤ b) {z0 z1 z2 z3 z8 z9 z10 z11 z12 z13 : Option DV} (hP : P.nx [z0, z1, z2, z3, some (.val (.int (m : Int))), some (.val (.int o)), some (.val (.lst ((evn o m m).map .int))), some (.val (pr a b)), z8, z9, z10, z11, z12, z13]) : crb1_r8 [z0, z1, z2, z3, some (.val (.int (m : Int))), some (.val (.int o)), some (.val (.lst ((evn o m m).map .int))), some (.val (pr a b)), z8, z9, z10, z11, z12, z13] P := by
  have ab : a ≤ b := by
    refine Int.le_of_mul_le_mul_left (a := g) ?_ (by omega)
    omega
  have bm : b ≤ m := mul_le_right g1 (by omega) (by omega)
  have gm : g ≤ m := by
    have : g * 1 ≤ g * b := Int.mul_le_mul_of_nonneg_left b1 (by omega)
    omega
  obtain ⟨B, rfl⟩ : ∃ B : Nat, b = (B : Int) := ⟨b.toNat, by omega⟩
  obtain ⟨G, rfl⟩ : ∃ G : Nat, g = (G : Int) := ⟨g.toNat, by omega⟩
  have em2 : m = G * B := by exact_mod_cast em
  refine ⟨List.nodup_nil, a, (B : Int), B, rfl, ⟨by omega, by omega⟩, ⟨by omega, by omega⟩, by omega, ?_⟩
  refine ⟨divOk (by omega) (n := 20) (bd_small (by omega) (by omega) (by decide)), ?_⟩
  have eq : ((m : Int)).fdiv (B : Int) = (G : Int) := by
    rw [fdv (by omega), em]
    exact Int.mul_ediv_cancel _ (by omega)
  rw [eq]
  have len : ((evn a B B).map D.int).length = B := by rw [List.length_map, evn_len]
  have rep : (List.replicate ((G : Nat) : Int).toNat ((evn a B B).map D.int)).flatten = (evn o m m).map .int := by
    rw [Int.toNat_natCast, ← List.map_replicate, ← List.map_flatten, ← evn_rep (by omega), eo, em]
    congr 1
    rw [em2]
    exact (evn_scale (by omega) _).symm
  refine ⟨⟨by omega, by omega, ?_⟩, ?_⟩
  · rw [len, Int.toNat_natCast]
    have : B * G ≤ 100 * 100 := Nat.mul_le_mul (by omega) (by omega)
    omega
  rw [rep]
  refine ⟨⟨shp_il _, shp_il _⟩, ?_⟩
  rw [deq_refl]
  refine ite_no rfl (ite_both (fun c => ?_) (fun _ => hP))
  have c : (m : Int) ≤ 40 := of_decide_eq_true c
  obtain ⟨gw, gb⟩ := even_bal (o := o) (m := m) (n := m + m) m1 o1 o2 (by omega) (by omega)
  refine ⟨?_, List.nodup_nil, evn o m (m + m), ?_, gw, ?_⟩
  · rw [List.length_map, evn_len]
    omega
  · rw [evn_add m1, List.map_append]
    rfl
  · rw [gb]
    exact hP
theorem sumne_ok {x : XKd} {ds : DS} {ns : List Int} {o : Int} {K : Bool → DS → Prop} (h6 : gt ds 6 = some (.val (.lst (ns.map .int)))) (h5 : gt ds 5 = some (.val (.int o))) (hs : ns.sum = o) (h : K false ds) : wTst (wBin dNe (wUn dSum (wVar 6)) (wVar 5)) x ds K := by
  unfold wTst wBin wUn
  refine vr_ok h6 (sum_il (vr_ok h5 ?_))
  rw [hs]
  refine ⟨⟨shp_int _, shp_int _⟩, ?_⟩
  rw [deq_refl]
  exact h
theorem c3r_ok {P : Post} {bb : List D} {y : Bool} {N : Nat} (hp : Bx N bb) (hN : N ≤ 300000) {w4 w5 w6 w7 : Option DV} {z2 z3 z8 z9 z10 z11 z12 z13 : Option DV} (hP : ∀ (c : List D) (u4 u5 u6 u7 : Option DV), Bx (N + 2) c → P.nx [some (.par c), some (.val (.bl y)), z2, z3, u4, u5, u6, u7, z8, z9, z10, z11, z12, z13]) : crb1_r3 [some (.par bb), some (.val (.bl y)), z2, z3, w4, w5, w6, w7, z8, z9, z10, z11, z12, z13] P := by
  have big : ∀ i : Int, i ≤ 1000 → i < 2 ^ 250 := fun i hi => by
    have : (1000 : Int) < 2 ^ 250 := by decide
    omega
  refine ⟨rfl, by simp [slotsOf], bb, 100, N, rfl, hp, by omega, by decide, by decide, fun v p1 v0 v1 hp1 => ?_⟩
  obtain ⟨M, hM⟩ : ∃ M : Nat, 1 + v = (M : Int) := ⟨(1 + v).toNat, by omega⟩
  show crb1_r4 [some (.par p1), some (.val (.bl y)), z2, z3, some (.val (.int (1 + v))), w5, w6, w7, z8, z9, z10, z11, z12, z13] P
  rw [hM]
  refine ⟨rfl, by simp [slotsOf], p1, (M : Int) + 1, N + 1, rfl, hp1, by omega, by omega, big _ (by omega), fun o p2 o0 o1 hp2 => ?_⟩
  refine ⟨List.nodup_nil, o, (M : Int), M, rfl, ⟨by omega, by omega⟩, ⟨by omega, by omega⟩, by omega, ?_⟩
  refine ⟨List.nodup_nil, ts1 (by omega) (by omega) o0 (by omega) (ite_no rfl ?_)⟩
  refine sumne_ok (ns := evn o (M : Int) M) rfl rfl (sum_evn (by omega)) (ite_no rfl ?_)
  obtain ⟨a, b, g, e, g1, eo, em, a0, b1, gg⟩ := low_facts (u := o) (w := (M : Int)) o0 (by omega)
  refine ⟨List.nodup_nil, o, (M : Int), rfl, by omega, (bd_small (n := 20) (by omega) (by omega) (by decide)).mono (by decide), ?_⟩
  rw [show K03.fr (Rat.divInt o (M : Int)) = pr a b from e]
  exact c8_ok (by omega) (by omega) o0 (by omega) g1 eo em a0 b1 (hP _ _ _ _ _ hp2)
theorem c2_ok {P : Post} {bb : List D} {y : Bool} {N : Nat} (hp : Bx N bb) (hN : N ≤ 300000) {a b : Int} (g : Pt a b) (hb : b ≤ 100) {w4 w5 w6 w7 : Option DV} {z2 z8 z9 z10 z11 z12 z13 : Option DV} (hP : ∀ (c : List D) (u3 u4 u5 u6 u7 : Option DV), Bx (N + 2) c → P.nx [some (.par c), some (.val (.bl y)), z2, u3, u4, u5, u6, u7, z8, z9, z10, z11, z12, z13]) : crb1_r2 [some (.par bb), some (.val (.bl y)), z2, some (.val (pr a b)), w4, w5, w6, w7, z8, z9, z10, z11, z12, z13] P := by
  have b1 := g.b1
  have a0 := g.a0
  have ab := g.ab
  refine ite_yes (decide_eq_true hb) ?_
  refine ⟨List.nodup_nil, a, b, b.toNat, by rw [Int.toNat_of_nonneg (by omega)]; rfl, ⟨by omega, by omega⟩, ⟨by omega, by omega⟩, by omega, ?_⟩
  refine ⟨List.nodup_nil, ts0 g hb (ite_no rfl ?_)⟩
  exact c3r_ok hp hN fun _ _ _ _ _ h => hP _ _ _ _ _ _ h
theorem b1_ok {P : Post} {bb : List D} {y : Bool} {N : Nat} (hp : Bx N bb) (hN : N ≤ 200000) {w3 w4 w5 w6 w7 : Option DV} {z2 z8 z9 z10 z11 z12 z13 : Option DV} (hP : ∀ (c : List D) (u3 u4 u5 u6 u7 : Option DV), Bx (N + 4) c → P.nx [some (.par c), some (.val (.bl y)), z2, u3, u4, u5, u6, u7, z8, z9, z10, z11, z12, z13]) : crb1_r0 [some (.par bb), some (.val (.bl y)), z2, w3, w4, w5, w6, w7, z8, z9, z10, z11, z12, z13] P := by
  refine ⟨rfl, by simp [slotsOf], bb, 101, N, rfl, hp, by omega, by decide, by decide, fun u p1 u0 u1 hp1 => ?_⟩
  refine ⟨rfl, by simp [slotsOf], p1, 100, N + 1, rfl, hp1, by omega, by decide, by decide, fun v p2 v0 v1 hp2 => ?_⟩
  obtain ⟨a, b, g, e, g1, eo, em, a0, b1, gg⟩ := low_facts (u := u) (w := 1 + v) u0 (by omega)
  have am : a ≤ 100 := by
    have := mul_le_right g1 a0 (x := u) (by omega)
    omega
  have bm : b ≤ 100 := by
    have := mul_le_right g1 (show 0 ≤ b by omega) (x := 1 + v) (by omega)
    omega
  refine ⟨List.nodup_nil, u, 1 + v, rfl, by omega, (bd_small (n := 20) (by omega) (by omega) (by decide)).mono (by decide), ?_⟩
  rw [show K03.fr (Rat.divInt u (1 + v)) = pr a b from e]
  refine ite_both (fun c => ?_) (fun c => ?_)
  · have c : a ≤ b := of_decide_eq_true c
    exact c2_ok (N := N + 1 + 1) hp2 (by omega) ⟨b1, gg, a0, c⟩ bm fun _ _ _ _ _ _ h => hP _ _ _ _ _ _ h
  · have c : ¬ a ≤ b := fun z => c (decide_eq_true z)
    have gg2 : Int.gcd b a = 1 := by rw [Int.gcd_comm]; exact gg
    refine ⟨List.nodup_nil, b, a, rfl, by omega, (bd_small (n := 20) (by omega) (by omega) (by decide)).mono (by decide), ?_⟩
    rw [show K03.fr (Rat.divInt b a) = pr b a from gcd_tq (by omega) gg2]
    exact c2_ok (N := N + 1 + 1) hp2 (by omega) ⟨by omega, gg2, by omega, by omega⟩ am fun _ _ _ _ _ _ h => hP _ _ _ _ _ _ h
theorem c2l_ok {k : Out → List DV → Prop} {b bq : List D} {y : Bool} {n : Nat} (hp : Bx n b) (hn : n ≤ 300000) (h : ∀ b, k (.ret (.val (.bl true))) [.par b]) {z2 z3 z4 z5 z6 z7 z8 z9 z10 z11 z12 z13 : Option DV} :
    crr2 [some (.par b), some (.val (.bl y)), z2, z3, z4, z5, z6, z7, z8, z9, z10, z11, z12, z13] (ends0 [.par bq] k) := by
  refine ⟨⟨⟨by decide, by decide⟩, by decide, by decide⟩, fun i ds => ∃ c, ∃ z2 z3 z4 z5 z6 z7 z8 z9 z10 z11 z12 z13 : Option DV, Bx (n + i * 40) c ∧ ds = [some (.par c), some (.val (.bl y)), z2, z3, z4, z5, z6, z7, z8, z9, z10, z11, z12, z13], ⟨_, _, _, _, _, _, _, _, _, _, _, _, _, by rw [Nat.zero_mul]; exact hp, rfl⟩, ?_, ?_⟩
  · rintro i d ds hi ⟨c, z2, z3, z4, z5, z6, z7, z8, z9, z10, z11, z12, z13, hc, rfl⟩
    have il : i < 3 := (range_get hi).2
    refine b2_ok (n := n + i * 40) hc (by omega) fun c2 u8 u9 u10 u11 h2 => ?_
    exact ⟨c2, _, _, _, _, _, _, _, _, _, _, _, _, by rw [show n + (i + 1) * 40 = n + i * 40 + 40 by omega]; exact h2, rfl⟩
  · rintro ds ⟨c, z2, z3, z4, z5, z6, z7, z8, z9, z10, z11, z12, z13, hc, rfl⟩
    exact c3_ok (n := n + 3 * 40) hc (by omega) h
theorem kp__law_cell_right : Keeps0 14 w__law_cell_right sp__law_cell_right := by
  rintro dvs k ⟨b, rfl, hp, h⟩
  refine ⟨rfl, by simp [slotsOf], b, 2, 0, rfl, hp, by omega, by decide, by decide, fun v p1 v0 v1 hp1 => ?_⟩
  refine ⟨⟨shp_int _, shp_int _⟩, ⟨⟨by decide, by decide⟩, by decide, by decide⟩, fun i ds => ∃ c, ∃ z2 z3 z4 z5 z6 z7 z8 z9 z10 z11 z12 z13 : Option DV, Bx (1 + i * 4) c ∧ ds = [some (.par c), some (.val (.bl (deq (.int v) (.int 1)))), z2, z3, z4, z5, z6, z7, z8, z9, z10, z11, z12, z13], ⟨_, _, _, _, _, _, _, _, _, _, _, _, _, hp1, rfl⟩, ?_, ?_⟩
  · rintro i d ds hi ⟨c, z2, z3, z4, z5, z6, z7, z8, z9, z10, z11, z12, z13, hc, rfl⟩
    have il : i < 3 := (range_get hi).2
    refine b1_ok (N := 1 + i * 4) hc (by omega) fun c2 u3 u4 u5 u6 u7 h2 => ?_
    exact ⟨c2, _, _, _, _, _, _, _, _, _, _, _, _, by rw [show 1 + (i + 1) * 4 = 1 + i * 4 + 4 by omega]; exact h2, rfl⟩
  · rintro ds ⟨c, z2, z3, z4, z5, z6, z7, z8, z9, z10, z11, z12, z13, hc, rfl⟩
    exact c2l_ok (n := 1 + 3 * 4) hc (by decide) h
end K11

/-! the defs of the text keep their promises, printed by gen.py -/
namespace K11
open PySem PySem.Spec PyProof.Rows L2 DW
def topS (i : Nat) : Stmt := PySem.Challenge.pw_termwide_k11_even_words.main.body.getD i (.Pass ⟨0, 0, 0, 0⟩)
abbrev s__law_copy : Stmt := topS 32
abbrev s_is_number : Stmt := topS 7
abbrev N_is_number : List Str := ["thing"]
theorem sc_is_number : FnScope N_is_number ["thing"] (defScope s_is_number) := ⟨rfl, rfl, rfl, by decide +kernel, rfl, by decide +kernel, by decide +kernel⟩
abbrev s_is_word : Stmt := topS 16
abbrev N_is_word : List Str := ["thing", "letter"]
theorem sc_is_word : FnScope N_is_word ["thing"] (defScope s_is_word) := ⟨rfl, rfl, rfl, by decide +kernel, rfl, by decide +kernel, by decide +kernel⟩
abbrev s_need_word : Stmt := topS 17
abbrev N_need_word : List Str := ["thing"]
theorem sc_need_word : FnScope N_need_word ["thing"] (defScope s_need_word) := ⟨rfl, rfl, rfl, by decide +kernel, rfl, by decide +kernel, by decide +kernel⟩
abbrev s_limits : Stmt := topS 22
abbrev N_limits : List Str := ["word", "sums", "letter", "low", "high", "last", "first", "size", "ones"]
theorem sc_limits : FnScope N_limits ["word"] (defScope s_limits) := ⟨rfl, rfl, rfl, by decide +kernel, rfl, by decide +kernel, by decide +kernel⟩
abbrev s_common : Stmt := topS 10
abbrev N_common : List Str := ["one", "other"]
theorem sc_common : FnScope N_common ["one", "other"] (defScope s_common) := ⟨rfl, rfl, rfl, by decide +kernel, rfl, by decide +kernel, by decide +kernel⟩
abbrev s_made : Stmt := topS 12
abbrev N_made : List Str := ["top", "bottom", "by"]
theorem sc_made : FnScope N_made ["top", "bottom"] (defScope s_made) := ⟨rfl, rfl, rfl, by decide +kernel, rfl, by decide +kernel, by decide +kernel⟩
abbrev s_slopes_of : Stmt := topS 23
abbrev N_slopes_of : List Str := ["word", "low", "high", "low_in", "high_in", "first", "last"]
theorem sc_slopes_of : FnScope N_slopes_of ["word"] (defScope s_slopes_of) := ⟨rfl, rfl, rfl, by decide +kernel, rfl, by decide +kernel, by decide +kernel⟩
abbrev s_slopes : Stmt := topS 25
abbrev N_slopes : List Str := ["word"]
theorem sc_slopes : FnScope N_slopes ["word"] (defScope s_slopes) := ⟨rfl, rfl, rfl, by decide +kernel, rfl, by decide +kernel, by decide +kernel⟩
abbrev s_is_fraction : Stmt := topS 11
abbrev N_is_fraction : List Str := ["thing"]
theorem sc_is_fraction : FnScope N_is_fraction ["thing"] (defScope s_is_fraction) := ⟨rfl, rfl, rfl, by decide +kernel, rfl, by decide +kernel, by decide +kernel⟩
abbrev s_need_part : Stmt := topS 15
abbrev N_need_part : List Str := ["fraction"]
theorem sc_need_part : FnScope N_need_part ["fraction"] (defScope s_need_part) := ⟨rfl, rfl, rfl, by decide +kernel, rfl, by decide +kernel, by decide +kernel⟩
abbrev s_need_short : Stmt := topS 19
abbrev N_need_short : List Str := ["fraction"]
theorem sc_need_short : FnScope N_need_short ["fraction"] (defScope s_need_short) := ⟨rfl, rfl, rfl, by decide +kernel, rfl, by decide +kernel, by decide +kernel⟩
abbrev s_spread_of : Stmt := topS 18
abbrev N_spread_of : List Str := ["ones", "many", "letters", "at"]
theorem sc_spread_of : FnScope N_spread_of ["ones", "many", "letters"] (defScope s_spread_of) := ⟨rfl, rfl, rfl, by decide +kernel, rfl, by decide +kernel, by decide +kernel⟩
abbrev s_even_word : Stmt := topS 20
abbrev N_even_word : List Str := ["fraction"]
theorem sc_even_word : FnScope N_even_word ["fraction"] (defScope s_even_word) := ⟨rfl, rfl, rfl, by decide +kernel, rfl, by decide +kernel, by decide +kernel⟩
abbrev s_is_whole : Stmt := topS 8
abbrev N_is_whole : List Str := ["thing", "low", "high"]
theorem sc_is_whole : FnScope N_is_whole ["thing", "low", "high"] (defScope s_is_whole) := ⟨rfl, rfl, rfl, by decide +kernel, rfl, by decide +kernel, by decide +kernel⟩
abbrev s_spread : Stmt := topS 21
abbrev N_spread : List Str := ["ones", "many"]
theorem sc_spread : FnScope N_spread ["ones", "many"] (defScope s_spread) := ⟨rfl, rfl, rfl, by decide +kernel, rfl, by decide +kernel, by decide +kernel⟩
abbrev s_is_balanced : Stmt := topS 24
abbrev N_is_balanced : List Str := ["word"]
theorem sc_is_balanced : FnScope N_is_balanced ["word"] (defScope s_is_balanced) := ⟨rfl, rfl, rfl, by decide +kernel, rfl, by decide +kernel, by decide +kernel⟩
abbrev s__law_called : Stmt := topS 40
abbrev N__law_called : List Str := ["door", "ask", "by_name"]
theorem sc__law_called : FnScope N__law_called ["door", "ask", "by_name"] (defScope s__law_called) := ⟨rfl, rfl, rfl, by decide +kernel, rfl, by decide +kernel, by decide +kernel⟩
abbrev s__law_told : Stmt := topS 41
abbrev s__law_take : Stmt := topS 29
abbrev N__law_take : List Str := ["box", "many", "digit", "mixed"]
theorem sc__law_take : FnScope N__law_take ["box", "many"] (defScope s__law_take) := ⟨rfl, rfl, rfl, by decide +kernel, rfl, by decide +kernel, by decide +kernel⟩
abbrev s__law_low : Stmt := topS 34
abbrev N__law_low : List Str := ["top", "base", "one", "other"]
theorem sc__law_low : FnScope N__law_low ["top", "base"] (defScope s__law_low) := ⟨rfl, rfl, rfl, by decide +kernel, rfl, by decide +kernel, by decide +kernel⟩
abbrev s__law_even : Stmt := topS 36
abbrev N__law_even : List Str := ["ones", "many", "letters", "k"]
theorem sc__law_even : FnScope N__law_even ["ones", "many", "letters"] (defScope s__law_even) := ⟨rfl, rfl, rfl, by decide +kernel, rfl, by decide +kernel, by decide +kernel⟩
abbrev s__law_drawn_word : Stmt := topS 38
abbrev N__law_drawn_word : List Str := ["box", "most", "way", "many", "base", "ones", "start", "word", "at", "k"]
theorem sc__law_drawn_word : FnScope N__law_drawn_word ["box", "most"] (defScope s__law_drawn_word) := ⟨rfl, rfl, rfl, by decide +kernel, rfl, by decide +kernel, by decide +kernel⟩
abbrev s__law_mixed : Stmt := topS 30
abbrev N__law_mixed : List Str := ["box", "items", "left", "found"]
theorem sc__law_mixed : FnScope N__law_mixed ["box", "items"] (defScope s__law_mixed) := ⟨rfl, rfl, rfl, by decide +kernel, rfl, by decide +kernel, by decide +kernel⟩
abbrev s__law_same : Stmt := topS 31
abbrev N__law_same : List Str := ["given", "due", "k"]
theorem sc__law_same : FnScope N__law_same ["given", "due"] (defScope s__law_same) := ⟨rfl, rfl, rfl, by decide +kernel, rfl, by decide +kernel, by decide +kernel⟩
abbrev s__law_balanced : Stmt := topS 37
abbrev N__law_balanced : List Str := ["word", "sums", "letter", "size", "ones", "k"]
theorem sc__law_balanced : FnScope N__law_balanced ["word"] (defScope s__law_balanced) := ⟨rfl, rfl, rfl, by decide +kernel, rfl, by decide +kernel, by decide +kernel⟩
abbrev s__law_grown : Stmt := topS 33
abbrev s__law_told_same : Stmt := topS 43
abbrev s__law_no_words : Stmt := topS 39
abbrev N__law_no_words : List Str := []
theorem sc__law_no_words : FnScope N__law_no_words [] (defScope s__law_no_words) := ⟨rfl, rfl, rfl, by decide +kernel, rfl, by decide +kernel, by decide +kernel⟩
abbrev s__law_refused : Stmt := topS 42
abbrev s__law_no_fractions : Stmt := topS 35
abbrev N__law_no_fractions : List Str := []
theorem sc__law_no_fractions : FnScope N__law_no_fractions [] (defScope s__law_no_fractions) := ⟨rfl, rfl, rfl, by decide +kernel, rfl, by decide +kernel, by decide +kernel⟩
abbrev s__law_cell_right : Stmt := topS 44
abbrev N__law_cell_right : List Str := ["box", "by_name", "turn", "x", "many", "ones", "due", "part", "word", "given", "good", "told", "value", "wide"]
theorem sc__law_cell_right : FnScope N__law_cell_right ["box"] (defScope s__law_cell_right) := ⟨rfl, rfl, rfl, by decide +kernel, rfl, by decide +kernel, by decide +kernel⟩
abbrev s__law_box : Stmt := topS 28
abbrev N__law_box : List Str := ["great"]
theorem sc__law_box : FnScope N__law_box ["great"] (defScope s__law_box) := ⟨rfl, rfl, rfl, by decide +kernel, rfl, by decide +kernel, by decide +kernel⟩
abbrev s__law_cell : Stmt := topS 27
abbrev N__law_cell : List Str := ["script", "k"]
theorem sc__law_cell : FnScope N__law_cell ["script", "k"] (defScope s__law_cell) := ⟨rfl, rfl, rfl, by decide +kernel, rfl, by decide +kernel, by decide +kernel⟩
abbrev s_law : Stmt := topS 45
abbrev N_law : List Str := ["script", "k"]
theorem sc_law : FnScope N_law ["script"] (defScope s_law) := ⟨rfl, rfl, rfl, by decide +kernel, rfl, by decide +kernel, by decide +kernel⟩
abbrev N__law_copy : List Str := ["value", "found", "key", "item"]
abbrev N__law_grown : List Str := ["value", "one"]
abbrev N__law_told : List Str := ["door", "ask", "by_name", "given", "before", "told", "e"]
abbrev N__law_refused : List Str := ["door", "ask", "word", "at", "by_name", "told"]
abbrev N__law_told_same : List Str := ["door", "ask", "due", "by_name", "turn", "told"]
theorem sc__law_copy : FnScope N__law_copy ["value"] (defScope s__law_copy) := ⟨rfl, rfl, rfl, by decide +kernel, rfl, by decide +kernel, by decide +kernel⟩
theorem sc__law_grown : FnScope N__law_grown ["value"] (defScope s__law_grown) := ⟨rfl, rfl, rfl, by decide +kernel, rfl, by decide +kernel, by decide +kernel⟩
theorem sc__law_told : FnScope N__law_told ["door", "ask", "by_name"] (defScope s__law_told) := ⟨rfl, rfl, rfl, by decide +kernel, rfl, by decide +kernel, by decide +kernel⟩
theorem sc__law_refused : FnScope N__law_refused ["door", "ask", "word", "at", "by_name"] (defScope s__law_refused) := ⟨rfl, rfl, rfl, by decide +kernel, rfl, by decide +kernel, by decide +kernel⟩
theorem sc__law_told_same : FnScope N__law_told_same ["door", "ask", "due", "by_name"] (defScope s__law_told_same) := ⟨rfl, rfl, rfl, by decide +kernel, rfl, by decide +kernel, by decide +kernel⟩
section
variable {P : Program} {w : World} {K : PySem.W.Frag} {mg : Str → Option Value} {base : Heap}
theorem tt_copy {f : Addr} {fd : FuncData} (Fn : Fun K "_law_copy" "_law_copy" s__law_copy f fd) (hm : mg "_law_copy" = some (.ref f)) (bb : Binds K fd ["value"] []) (m_i : mg "isinstance" = none) (m_l : mg "list" = none) (m_t : mg "tuple" = none) (m_d : mg "dict" = none) (n : Nat) :
    HCal P w K mg base CX0 n "_law_copy" ["value"] (spCopy K n) := by
  refine ⟨f, fd, fnG_rec copy_no (fun n G => fnG_body Fn sc__law_copy copy_len (t := tCopyB K (spCopy K n)) (fun cdv A outer s H E hr => ?_) fun vs H Q E h => copy_run h) n, hm, Fn.kp, bb⟩
  have hu : (A.deeper (envOfC "_law_copy" (defScope s__law_copy) s.heap.objs.size f cdv)).units + 1 < cLine := by
    have := hr.rm.un
    omega
  have C : HCal P w K mg base CX0 n "_law_copy" ["value"] (spCopy K n) := ⟨f, fd, G, hm, Fn.kp, bb⟩
  have key : ∃ t, PSs ((Fam.body P w K mg base N__law_copy n "_law_copy" (defScope s__law_copy) f cdv A outer s H E hr sc__law_copy.nd).X ()) (defBody s__law_copy) t ∧ t = tCopyB K (spCopy K n) := by
    refine ⟨_, pss_cons (ps_if (pt_isi .list m_i m_l (by decide +kernel) rfl (pe_var (i := 0) rfl (.inl rfl))) (pss_one (ps_ret (pe_lc rfl sc__law_copy.nd (pi_seq (pe_var (i := 0) rfl (.inl rfl))) (blkOk_by (own := [("item", 3)]) (N := N__law_copy) (sc := defScope s__law_copy) (by decide +kernel))
       (fun s H C0 cl fp => pg_name (i := 3) sc__law_copy.nd rfl (.inl rfl)) (fun s H C0 cl fp => pts_nil) (fun s H C0 cl fp => pe_callH (E := E0) C hr (Nat.le_refl _) rfl (fun _ _ _ _ _ _ _ h => h.elim) (pa_cons (pe_var (i := 3) rfl (.inl rfl)) pa_nil) (by decide) rfl rfl)))) pss_nil)
      (pss_cons (ps_if (pt_isi .tuple m_i m_t (by decide +kernel) rfl (pe_var (i := 0) rfl (.inl rfl))) (pss_one (ps_ret (pe_callTy call_tuple_of rfl m_t (by decide +kernel) (pa_cons (pe_lc rfl sc__law_copy.nd (pi_seq (pe_var (i := 0) rfl (.inl rfl))) (blkOk_by (own := [("item", 3)]) (N := N__law_copy) (sc := defScope s__law_copy) (by decide +kernel))
       (fun s H C0 cl fp => pg_name (i := 3) sc__law_copy.nd rfl (.inl rfl)) (fun s H C0 cl fp => pts_nil) (fun s H C0 cl fp => pe_callH (E := E0) C hr (Nat.le_refl _) rfl (fun _ _ _ _ _ _ _ h => h.elim) (pa_cons (pe_var (i := 3) rfl (.inl rfl)) pa_nil) (by decide) rfl rfl)) pa_nil)))) pss_nil)
      (pss_cons (ps_set (i := 1) sc__law_copy.nd rfl (.inl rfl) pe_dnewK)
      (pss_cons (ps_if (pt_isi .dict m_i m_d (by decide +kernel) rfl (pe_var (i := 0) rfl (.inl rfl))) (pss_one (ps_lock (ps_for ((Fam.body P w K mg base N__law_copy n "_law_copy" (defScope s__law_copy) f cdv A outer s H E hr sc__law_copy.nd).po ()) rfl (pi_keys (pe_var (i := 0) rfl (.inl rfl))) (pg_name (i := 2) sc__law_copy.nd rfl (.inl rfl))
        (pss_one (ps_dput hu (pe_var (i := 1) rfl (.inl rfl)) (pe_var (i := 2) rfl (.inl rfl)) (pe_callH (E := E0) C hr (Nat.le_refl _) rfl (fun _ _ _ _ _ _ _ h => h.elim) (pa_cons (pe_dget hu (pe_var (i := 0) rfl (.inl rfl)) (pe_var (i := 2) rfl (.inl rfl)) (by intro _ _; rfl)) pa_nil) (by decide) rfl rfl) rfl))))) pss_nil)
      (pss_one (ps_ret (pe_ifExp (pt_isi .dict m_i m_d (by decide +kernel) rfl (pe_var (i := 0) rfl (.inl rfl))) (pe_var (i := 1) rfl (.inl rfl)) (pe_var (i := 0) rfl (.inl rfl)))))))), rfl⟩
  obtain ⟨t, h, e⟩ := key
  exact e ▸ h
theorem tt_grown {f : Addr} {fd : FuncData} (Fn : Fun K "_law_grown" "_law_grown" s__law_grown f fd) (hm : mg "_law_grown" = some (.ref f)) (bb : Binds K fd ["value"] []) (m_i : mg "isinstance" = none) (m_l : mg "list" = none) (m_t : mg "tuple" = none) (m_d : mg "dict" = none) (n : Nat) :
    HCal P w K mg base CX0 n "_law_grown" ["value"] (spGrown K n) := by
  refine ⟨f, fd, fnG_rec grown_no (fun n G => fnG_body Fn sc__law_grown grown_len (t := tGrownB K (spGrown K n)) (fun cdv A outer s H E hr => ?_) fun vs H Q E h => grown_run h) n, hm, Fn.kp, bb⟩
  have hu : (A.deeper (envOfC "_law_grown" (defScope s__law_grown) s.heap.objs.size f cdv)).units + 1 < cLine := by
    have := hr.rm.un
    omega
  have C : HCal P w K mg base CX0 n "_law_grown" ["value"] (spGrown K n) := ⟨f, fd, G, hm, Fn.kp, bb⟩
  have key : ∃ t, PSs ((Fam.body P w K mg base N__law_grown n "_law_grown" (defScope s__law_grown) f cdv A outer s H E hr sc__law_grown.nd).X ()) (defBody s__law_grown) t ∧ t = tGrownB K (spGrown K n) := by
    refine ⟨_, pss_cons (ps_if (pt_isi .list m_i m_l (by decide +kernel) rfl (pe_var (i := 0) rfl (.inl rfl))) (pss_one (ps_expr (pe_bm PySem.F.plainAttrs_list PySem.F.slot_list_insert PySem.F.type_list_insert mt_ins (pe_var (i := 0) rfl (.inl rfl)) (pa_cons pe_int (pa_cons pe_str pa_nil)) rfl rfl rfl rfl rfl))) pss_nil)
      (pss_cons (ps_if (pt_isi .dict m_i m_d (by decide +kernel) rfl (pe_var (i := 0) rfl (.inl rfl))) (pss_one (ps_dput hu (pe_var (i := 0) rfl (.inl rfl)) pe_str pe_int rfl)) pss_nil)
      (pss_one (ps_if (pt_isis [.list, .tuple] m_i (pe_var (i := 0) rfl (.inl rfl)) (pty_cons .list m_l (by decide +kernel) rfl (pty_cons .tuple m_t (by decide +kernel) rfl pa_nil)))
        (pss_one (ps_for ((Fam.body P w K mg base N__law_grown n "_law_grown" (defScope s__law_grown) f cdv A outer s H E hr sc__law_grown.nd).po ()) rfl
          (pi_seq (pe_lc rfl sc__law_grown.nd (pi_seq (pe_var (i := 0) rfl (.inl rfl))) (blkOk_by (own := [("one", 1)]) (N := N__law_grown) (sc := defScope s__law_grown) (by decide +kernel)) (fun s H C0 cl fp => pg_name (i := 1) sc__law_grown.nd rfl (.inl rfl))
            (fun s H C0 cl fp => pts_one (pt_isis [.list, .tuple, .dict] m_i (pe_var (i := 1) rfl (.inl rfl)) (pty_cons .list m_l (by decide +kernel) rfl (pty_cons .tuple m_t (by decide +kernel) rfl (pty_cons .dict m_d (by decide +kernel) rfl pa_nil))))) (fun s H C0 cl fp => pe_var (i := 1) rfl (.inl rfl))))
          (pg_name (i := 1) sc__law_grown.nd rfl (.inl rfl)) (pss_one (ps_expr (pe_callH (E := E0) C hr (Nat.le_refl _) rfl (fun _ _ _ _ _ _ _ h => h.elim) (pa_cons (pe_var (i := 1) rfl (.inl rfl)) pa_nil) (by decide) rfl rfl) rfl)))) pss_nil))), rfl⟩
  obtain ⟨t, h, e⟩ := key
  exact e ▸ h
theorem tt_refused {f : Addr} {fd : FuncData} {fs : FS} {tb : List (Str × Str)} {n kt k : Nat} (hu1 : Fun1 tb) (Fn : Fun K "_law_refused" "_law_refused" s__law_refused f fd) (hm : mg "_law_refused" = some (.ref f)) (bb : Binds K fd ["door", "ask", "word", "at", "by_name"] []) (m_r : mg "repr" = none)
    (T : HCal P w K mg base CX0 kt "_law_told" ["door", "ask", "by_name"] (spTold K fs tb n)) (Gw : HCal P w K mg base CX0 n "_law_grown" ["value"] (spGrown K n)) (h1 : kt ≤ k) (h2 : n ≤ k) : HCal P w K mg base CX0 (k + 1) "_law_refused" ["door", "ask", "word", "at", "by_name"] (spOf K (fsRefused fs tb n)) := by
  refine ⟨f, fd, fnG_body Fn sc__law_refused (spOf_len refused_len) (t := tRefB K (spTold K fs tb n) (spGrown K n)) (fun cdv A outer s H E hr => ?_) fun vs H Q E h => refused_run hu1 h, hm, Fn.kp, bb⟩
  have key : ∃ t, PSs ((Fam.body P w K mg base N__law_refused k "_law_refused" (defScope s__law_refused) f cdv A outer s H E hr sc__law_refused.nd).X ()) (defBody s__law_refused) t ∧ t = tRefB K (spTold K fs tb n) (spGrown K n) := by
    refine ⟨_, pss_cons (ps_set (i := 5) sc__law_refused.nd rfl (.inl rfl) (pe_callH (E := E0) T hr h1 rfl (fun _ _ _ _ _ _ _ h => h.elim) (pa_cons (pe_var (i := 0) rfl (.inl rfl)) (pa_cons (pe_var (i := 1) rfl (.inl rfl)) (pa_cons (pe_var (i := 4) rfl (.inl rfl)) pa_nil))) (by decide) rfl rfl))
      (pss_cons (ps_if (pw_or (pt_cmpR op_ne (pe_ix ix_seq (pe_var (i := 5) rfl (.inl rfl)) pe_int (by intro _ _; rfl)) (pe_var (i := 2) rfl (.inl rfl)) rfl) (pw_or1 (pt_not (pt_val (pe_ix ix_seq (pe_var (i := 5) rfl (.inl rfl)) pe_int (by intro _ _; rfl)) (by intro _; rfl))))).pt (pss_one (ps_ret pe_bl)) pss_nil)
      (pss_cons (ps_expr (pe_callH (E := E0) Gw hr h2 rfl (fun _ _ _ _ _ _ _ h => h.elim) (pa_cons (pe_ix ix_seq (pe_ix ix_seq (pe_var (i := 5) rfl (.inl rfl)) pe_int (by intro _ _; rfl)) (pe_var (i := 3) rfl (.inl rfl)) (by intro _ _; rfl)) pa_nil) (by decide) rfl rfl) rfl)
      (pss_one (ps_ret (pe_cmpR op_eq (pe_callB (call_repr hr) rfl m_r (by decide +kernel) (pa_cons (pe_ix ix_seq (pe_var (i := 5) rfl (.inl rfl)) pe_int (by intro _ _; rfl)) pa_nil))
        (pe_callB (call_repr hr) rfl m_r (by decide +kernel) (pa_cons (pe_ix ix_seq (pe_ix ix_seq (pe_var (i := 5) rfl (.inl rfl)) pe_int (by intro _ _; rfl)) (pe_var (i := 3) rfl (.inl rfl)) (by intro _ _; rfl)) pa_nil)) rfl))))), rfl⟩
  obtain ⟨t, h, e⟩ := key
  exact e ▸ h
theorem tt_same {f : Addr} {fd : FuncData} {fs : FS} {good : D → Prop} {tb : List (Str × Str)} {n kt ks k : Nat} (Fn : Fun K "_law_told_same" "_law_told_same" s__law_told_same f fd) (hm : mg "_law_told_same" = some (.ref f)) (bb : Binds K fd ["door", "ask", "due", "by_name"] []) (m_r : mg "range" = none)
    (T : HCal P w K mg base CX0 kt "_law_told" ["door", "ask", "by_name"] (spTold K fs tb n)) (Gs : HCal P w K mg base CX0 ks "_law_same" ["given", "due"] (spOf K (fsSame good))) (Gw : HCal P w K mg base CX0 n "_law_grown" ["value"] (spGrown K n)) (h1 : kt ≤ k) (h2 : n ≤ k) (h3 : ks ≤ k) :
    HCal P w K mg base CX0 (k + 1) "_law_told_same" ["door", "ask", "due", "by_name"] (spOf K (fsToldSame fs good n)) := by
  refine ⟨f, fd, fnG_body Fn sc__law_told_same (spOf_len tsame_len) (t := tSameB K (spTold K fs tb n) (spOf K (fsSame good)) (spGrown K n)) (fun cdv A outer s H E hr => ?_) fun vs H Q E h => same_run h, hm, Fn.kp, bb⟩
  have key : ∃ t, PSs ((Fam.body P w K mg base N__law_told_same k "_law_told_same" (defScope s__law_told_same) f cdv A outer s H E hr sc__law_told_same.nd).X ()) (defBody s__law_told_same) t ∧ t = tSameB K (spTold K fs tb n) (spOf K (fsSame good)) (spGrown K n) := by
    refine ⟨_, pss_cons (ps_for ((Fam.body P w K mg base N__law_told_same k "_law_told_same" (defScope s__law_told_same) f cdv A outer s H E hr sc__law_told_same.nd).po ()) rfl (pi_range1 rfl m_r (pa_cons pe_int pa_nil) rfl) (pg_name (i := 4) sc__law_told_same.nd rfl (.inl rfl))
      (pss_cons (ps_set (i := 5) sc__law_told_same.nd rfl (.inl rfl) (pe_callH (E := E0) T hr h1 rfl (fun _ _ _ _ _ _ _ h => h.elim) (pa_cons (pe_var (i := 0) rfl (.inl rfl)) (pa_cons (pe_var (i := 1) rfl (.inl rfl)) (pa_cons (pe_cmpR op_eq (pe_var (i := 3) rfl (.inl rfl)) (pe_cmpR op_eq (pe_var (i := 4) rfl (.inl rfl)) pe_int rfl) rfl) pa_nil))) (by decide) rfl rfl))
      (pss_cons (ps_if (PW.pt (pw_or (pt_cmpR op_ne (pe_ix ix_seq (pe_var (i := 5) rfl (.inl rfl)) pe_int (by intro _ _; rfl)) pe_str rfl) (pw_or (pt_not (pt_val (pe_ix ix_seq (pe_var (i := 5) rfl (.inl rfl)) pe_int (by intro _ _; rfl)) (by intro _; rfl)))
        (pw_or1 (pt_not (pt_val (pe_callH (E := E0) Gs hr h3 rfl (fun _ _ _ _ _ _ _ h => h.elim) (pa_cons (pe_ix ix_seq (pe_var (i := 5) rfl (.inl rfl)) pe_int (by intro _ _; rfl)) (pa_cons (pe_var (i := 2) rfl (.inl rfl)) pa_nil)) (by decide) rfl rfl) (by intro _; rfl))))))) (pss_one (ps_ret pe_bl)) pss_nil)
      (pss_one (ps_expr (pe_callH (E := E0) Gw hr h2 rfl (fun _ _ _ _ _ _ _ h => h.elim) (pa_cons (pe_ix ix_seq (pe_var (i := 5) rfl (.inl rfl)) pe_int (by intro _ _; rfl)) pa_nil) (by decide) rfl rfl) rfl)))))
      (pss_one (ps_ret pe_bl)), rfl⟩
  obtain ⟨t, h, e⟩ := key
  exact e ▸ h
end

section
variable {P : Program} {w : World} {K : PySem.W.Frag} {mg : Str → Option Value} {base : Heap}
theorem tt_told {f : Addr} {fd : FuncData} {fs : FS} {n kc k : Nat} {C_NoFraction C_NoNumber C_NoWord C_TooMany T : Addr} (Fn : Fun K "_law_told" "_law_told" s__law_told f fd) (hm : mg "_law_told" = some (.ref f)) (bb : Binds K fd ["door", "ask", "by_name"] []) (m_i : mg "isinstance" = none) (m_r : mg "repr" = none)
    (Cp : HCal P w K mg base CX0 n "_law_copy" ["value"] (spCopy K n)) (Cc : HCal P w K mg base (L2.CX P w) kc "_law_called" ["door", "ask", "by_name"] (spOf K fs)) (h1 : n ≤ k) (h2 : kc ≤ k)
    (gC_NoFraction : mg "NoFraction" = some (.ref C_NoFraction)) (gC_NoNumber : mg "NoNumber" = some (.ref C_NoNumber)) (gC_NoWord : mg "NoWord" = some (.ref C_NoWord)) (gC_TooMany : mg "TooMany" = some (.ref C_TooMany)) (gT : mg "TermError" = some (.ref T)) (XC_NoFraction : XfC K C_NoFraction) (hno_NoFraction : PySem.W.findIn K (.ref C_NoFraction) "found" = some none) (XC_NoNumber : XfC K C_NoNumber) (hno_NoNumber : PySem.W.findIn K (.ref C_NoNumber) "found" = some none) (XC_NoWord : XfC K C_NoWord) (hno_NoWord : PySem.W.findIn K (.ref C_NoWord) "found" = some none) (XC_TooMany : XfC K C_TooMany) (hno_TooMany : PySem.W.findIn K (.ref C_TooMany) "many" = some none) (ok : ClasOk K T [] [⟨"NoFraction", "fraction", C_NoFraction⟩, ⟨"NoNumber", "number", C_NoNumber⟩, ⟨"NoWord", "word", C_NoWord⟩, ⟨"TooMany", "many", C_TooMany⟩]) :
    HCal P w K mg base CX0 (k + 1) "_law_told" ["door", "ask", "by_name"] (spTold K fs [("NoFraction", "fraction"), ("NoNumber", "number"), ("NoWord", "word"), ("TooMany", "many")] n) := by
  refine ⟨f, fd, fnG_body Fn sc__law_told told_len (t := tToldB K (spCopy K n) fs (fun D => wAsM K 6 Wn D (clasW K T [⟨"NoFraction", "fraction", C_NoFraction⟩, ⟨"NoNumber", "number", C_NoNumber⟩, ⟨"NoWord", "word", C_NoWord⟩, ⟨"TooMany", "many", C_TooMany⟩]))) (fun cdv A outer s H E hr => ?_) fun vs H Q E h => told_run (hd_many ok) h, hm, Fn.kp, bb⟩
  have key : ∃ t, PSs ((Fam.body P w K mg base N__law_told k "_law_told" (defScope s__law_told) f cdv A outer s H E hr sc__law_told.nd).X ()) (defBody s__law_told) t ∧ t = tToldB K (spCopy K n) fs (fun D => wAsM K 6 Wn D (clasW K T [⟨"NoFraction", "fraction", C_NoFraction⟩, ⟨"NoNumber", "number", C_NoNumber⟩, ⟨"NoWord", "word", C_NoWord⟩, ⟨"TooMany", "many", C_TooMany⟩])) := by
    refine ⟨_, pss_cons (ps_set (i := 3) sc__law_told.nd rfl (.inl rfl) (pe_callH (E := E0) Cp hr h1 rfl (fun _ _ _ _ _ _ _ h => h.elim) (pa_cons (pe_var (i := 1) rfl (.inl rfl)) pa_nil) (by decide) rfl rfl))
      (pss_cons (ps_set (i := 4) sc__law_told.nd rfl (.inl rfl) (pe_callB (call_repr hr) rfl m_r (by decide +kernel) (pa_cons (pe_var (i := 3) rfl (.inl rfl)) pa_nil)))
      (pss_cons (ps_try_asM (i := 6) (Wout := Wn) rfl rfl sc__law_told.nd rfl rfl takesN
        (fun W pn xe tk po => pss_one (ps_set (i := 5) sc__law_told.nd rfl (.inl rfl) (pe_lst (pa_cons pe_str (pa_cons (pe_callH (E := L2.WE W) Cc hr h2 rfl (fun σ => passAt tk σ) (pa_cons (pe_var (i := 0) rfl (.inl rfl)) (pa_cons (pe_var (i := 3) rfl (.inl rfl)) (pa_cons (pe_var (i := 2) rfl (.inl rfl)) pa_nil))) (by decide) rfl rfl) pa_nil)))))
        (.cons ⟨rfl, by decide, .inl gC_NoFraction⟩ (fun a oe cls d pn hz hf => pss_one (ps_set (i := 5) sc__law_told.nd rfl (.inl rfl) (pe_lst (pa_cons (pe_ifExp (pt_val (pe_callB (call_isS hz hf) rfl m_i (by decide +kernel) (pa_cons (pe_var (i := 6) rfl (.inl rfl)) (pa_cons (pe_glob (v := .ref T) rfl gT rfl) pa_nil)))) pe_str pe_str) (pa_cons (pe_xf XC_NoFraction hno_NoFraction hz hf (pe_var (i := 6) rfl (.inl rfl))) pa_nil))))) (.cons ⟨rfl, by decide, .inl gC_NoNumber⟩ (fun a oe cls d pn hz hf => pss_one (ps_set (i := 5) sc__law_told.nd rfl (.inl rfl) (pe_lst (pa_cons (pe_ifExp (pt_val (pe_callB (call_isS hz hf) rfl m_i (by decide +kernel) (pa_cons (pe_var (i := 6) rfl (.inl rfl)) (pa_cons (pe_glob (v := .ref T) rfl gT rfl) pa_nil)))) pe_str pe_str) (pa_cons (pe_xf XC_NoNumber hno_NoNumber hz hf (pe_var (i := 6) rfl (.inl rfl))) pa_nil))))) (.cons ⟨rfl, by decide, .inl gC_NoWord⟩ (fun a oe cls d pn hz hf => pss_one (ps_set (i := 5) sc__law_told.nd rfl (.inl rfl) (pe_lst (pa_cons (pe_ifExp (pt_val (pe_callB (call_isS hz hf) rfl m_i (by decide +kernel) (pa_cons (pe_var (i := 6) rfl (.inl rfl)) (pa_cons (pe_glob (v := .ref T) rfl gT rfl) pa_nil)))) pe_str pe_str) (pa_cons (pe_xf XC_NoWord hno_NoWord hz hf (pe_var (i := 6) rfl (.inl rfl))) pa_nil))))) (.cons ⟨rfl, by decide, .inl gC_TooMany⟩ (fun a oe cls d pn hz hf => pss_one (ps_set (i := 5) sc__law_told.nd rfl (.inl rfl) (pe_lst (pa_cons (pe_ifExp (pt_val (pe_callB (call_isS hz hf) rfl m_i (by decide +kernel) (pa_cons (pe_var (i := 6) rfl (.inl rfl)) (pa_cons (pe_glob (v := .ref T) rfl gT rfl) pa_nil)))) pe_str pe_str) (pa_cons (pe_xf XC_TooMany hno_TooMany hz hf (pe_var (i := 6) rfl (.inl rfl))) pa_nil))))) .nil)))))
      (pss_one (ps_ret (pe_op op_catL (pe_var (i := 5) rfl (.inl rfl)) (pe_lst (pa_cons (pe_var (i := 3) rfl (.inl rfl)) (pa_cons (pe_cmpR op_eq (pe_callB (call_repr hr) rfl m_r (by decide +kernel) (pa_cons (pe_var (i := 3) rfl (.inl rfl)) pa_nil)) (pe_var (i := 4) rfl (.inl rfl)) rfl) pa_nil)))))))), rfl⟩
  obtain ⟨t, h, e⟩ := key
  exact e ▸ h
end
abbrev si_NoWord : Stmt := inClass (topS 5) 0
theorem sci_NoWord : FnScope ["self", "found"] ["self", "found"] (defScope si_NoWord) := ⟨rfl, rfl, rfl, by decide +kernel, rfl, by decide +kernel, by decide +kernel⟩
theorem ini_NoWord {P : Program} {w : World} {K : PySem.W.Frag} {mg : Str → Option Value} {base : Heap} {T fa : Addr} {mc : Value} (gT : mg "TermError" = some (.ref T)) (b6 : PySem.W.specialIn K (.ref T) "__getattribute__" = some (some (.builtin "type.__getattribute__"))) (b7 : PySem.W.readsIn K T mc = true) (b8 : PySem.W.findCls K (.ref T) mc "__init__" = some (.val (.builtin "ValueError.__init__")))
    (cdv : Value) (A : Around) (outer : List PySem.Env) (s : Shared) (H : Hp) (E : XK) : PSs (cxOf CX0 P w K mg base ["self", "found"] "NoWord.__init__" (defScope si_NoWord) fa cdv A outer s H E).nox (defBody si_NoWord) (tXI K "found" "no word") := by
  have key : ∃ t, PSs (cxOf CX0 P w K mg base ["self", "found"] "NoWord.__init__" (defScope si_NoWord) fa cdv A outer s H E).nox (defBody si_NoWord) t ∧ t = tXI K "found" "no word" :=
    ⟨_, pss_cons (ps_expr (pe_binit rfl gT b6 b7 b8 (pa_cons (pe_var (i := 0) rfl (.inl rfl)) (pa_cons pe_str pa_nil))) rfl) (pss_one (ps_ost (pe_var (i := 0) rfl (.inl rfl)) (pe_var (i := 1) rfl (.inl rfl)))), rfl⟩
  obtain ⟨t, h, e⟩ := key
  exact e ▸ h
abbrev si_NoFraction : Stmt := inClass (topS 3) 0
theorem sci_NoFraction : FnScope ["self", "found"] ["self", "found"] (defScope si_NoFraction) := ⟨rfl, rfl, rfl, by decide +kernel, rfl, by decide +kernel, by decide +kernel⟩
theorem ini_NoFraction {P : Program} {w : World} {K : PySem.W.Frag} {mg : Str → Option Value} {base : Heap} {T fa : Addr} {mc : Value} (gT : mg "TermError" = some (.ref T)) (b6 : PySem.W.specialIn K (.ref T) "__getattribute__" = some (some (.builtin "type.__getattribute__"))) (b7 : PySem.W.readsIn K T mc = true) (b8 : PySem.W.findCls K (.ref T) mc "__init__" = some (.val (.builtin "ValueError.__init__")))
    (cdv : Value) (A : Around) (outer : List PySem.Env) (s : Shared) (H : Hp) (E : XK) : PSs (cxOf CX0 P w K mg base ["self", "found"] "NoFraction.__init__" (defScope si_NoFraction) fa cdv A outer s H E).nox (defBody si_NoFraction) (tXI K "found" "no fraction") := by
  have key : ∃ t, PSs (cxOf CX0 P w K mg base ["self", "found"] "NoFraction.__init__" (defScope si_NoFraction) fa cdv A outer s H E).nox (defBody si_NoFraction) t ∧ t = tXI K "found" "no fraction" :=
    ⟨_, pss_cons (ps_expr (pe_binit rfl gT b6 b7 b8 (pa_cons (pe_var (i := 0) rfl (.inl rfl)) (pa_cons pe_str pa_nil))) rfl) (pss_one (ps_ost (pe_var (i := 0) rfl (.inl rfl)) (pe_var (i := 1) rfl (.inl rfl)))), rfl⟩
  obtain ⟨t, h, e⟩ := key
  exact e ▸ h
abbrev si_TooMany : Stmt := inClass (topS 4) 0
theorem sci_TooMany : FnScope ["self", "many"] ["self", "many"] (defScope si_TooMany) := ⟨rfl, rfl, rfl, by decide +kernel, rfl, by decide +kernel, by decide +kernel⟩
theorem ini_TooMany {P : Program} {w : World} {K : PySem.W.Frag} {mg : Str → Option Value} {base : Heap} {T fa : Addr} {mc : Value} (gT : mg "TermError" = some (.ref T)) (b6 : PySem.W.specialIn K (.ref T) "__getattribute__" = some (some (.builtin "type.__getattribute__"))) (b7 : PySem.W.readsIn K T mc = true) (b8 : PySem.W.findCls K (.ref T) mc "__init__" = some (.val (.builtin "ValueError.__init__")))
    (cdv : Value) (A : Around) (outer : List PySem.Env) (s : Shared) (H : Hp) (E : XK) : PSs (cxOf CX0 P w K mg base ["self", "many"] "TooMany.__init__" (defScope si_TooMany) fa cdv A outer s H E).nox (defBody si_TooMany) (tXI K "many" "too many") := by
  have key : ∃ t, PSs (cxOf CX0 P w K mg base ["self", "many"] "TooMany.__init__" (defScope si_TooMany) fa cdv A outer s H E).nox (defBody si_TooMany) t ∧ t = tXI K "many" "too many" :=
    ⟨_, pss_cons (ps_expr (pe_binit rfl gT b6 b7 b8 (pa_cons (pe_var (i := 0) rfl (.inl rfl)) (pa_cons pe_str pa_nil))) rfl) (pss_one (ps_ost (pe_var (i := 0) rfl (.inl rfl)) (pe_var (i := 1) rfl (.inl rfl)))), rfl⟩
  obtain ⟨t, h, e⟩ := key
  exact e ▸ h
abbrev si_NoNumber : Stmt := inClass (topS 2) 0
theorem sci_NoNumber : FnScope ["self", "found"] ["self", "found"] (defScope si_NoNumber) := ⟨rfl, rfl, rfl, by decide +kernel, rfl, by decide +kernel, by decide +kernel⟩
theorem ini_NoNumber {P : Program} {w : World} {K : PySem.W.Frag} {mg : Str → Option Value} {base : Heap} {T fa : Addr} {mc : Value} (gT : mg "TermError" = some (.ref T)) (b6 : PySem.W.specialIn K (.ref T) "__getattribute__" = some (some (.builtin "type.__getattribute__"))) (b7 : PySem.W.readsIn K T mc = true) (b8 : PySem.W.findCls K (.ref T) mc "__init__" = some (.val (.builtin "ValueError.__init__")))
    (cdv : Value) (A : Around) (outer : List PySem.Env) (s : Shared) (H : Hp) (E : XK) : PSs (cxOf CX0 P w K mg base ["self", "found"] "NoNumber.__init__" (defScope si_NoNumber) fa cdv A outer s H E).nox (defBody si_NoNumber) (tXI K "found" "no whole number that may be there") := by
  have key : ∃ t, PSs (cxOf CX0 P w K mg base ["self", "found"] "NoNumber.__init__" (defScope si_NoNumber) fa cdv A outer s H E).nox (defBody si_NoNumber) t ∧ t = tXI K "found" "no whole number that may be there" :=
    ⟨_, pss_cons (ps_expr (pe_binit rfl gT b6 b7 b8 (pa_cons (pe_var (i := 0) rfl (.inl rfl)) (pa_cons pe_str pa_nil))) rfl) (pss_one (ps_ost (pe_var (i := 0) rfl (.inl rfl)) (pe_var (i := 1) rfl (.inl rfl)))), rfl⟩
  obtain ⟨t, h, e⟩ := key
  exact e ▸ h
section
variable {P : Program} {w : World} {K : PySem.W.Frag} {mg : Str → Option Value} {base : Heap}
theorem ok_is_number {f : Addr} {fd : FuncData} (Fn : Fun K "is_number" "is_number" s_is_number f fd) (hm : mg "is_number" = some (.ref f)) (m_isinstance : mg "isinstance" = none) (m_int : mg "int" = none) (m_bool : mg "bool" = none) :
    CalF P w K mg base 1 "is_number" ["thing"] sp_is_number f fd :=
  .mk2 Fn hm sc_is_number len_is_number (by decide) (fun cdv A outer s H E hr => (ss_one (s_ret (d_and (d_isi .int m_isinstance m_int (by decide +kernel) rfl (d_var 0)) (d_one (d_not (d_isi .bool m_isinstance m_bool (by decide +kernel) rfl (d_var 0)))))))) kp_is_number
theorem ok_is_word {f : Addr} {fd : FuncData} (Fn : Fun K "is_word" "is_word" s_is_word f fd) (hm : mg "is_word" = some (.ref f)) (m_tuple : mg "tuple" = none) (m_list : mg "list" = none) (m_isinstance : mg "isinstance" = none) (m_len : mg "len" = none) (m_all : mg "all" = none) (c_is_number : Cal P w K mg base 1 "is_number" ["thing"] sp_is_number) (g_MOST_LETTERS : ∃ t, mg "MOST_LETTERS" = some (.int 100 t)) :
    CalF P w K mg base 2 "is_word" ["thing"] sp_is_word f fd :=
  .mk2 Fn hm sc_is_word len_is_word (by decide) (fun cdv A outer s H E hr => (ss_cons (s_if (p_pt (p_or (t_not (t_val (d_isis m_isinstance (d_var 0) (ty_cons .list m_list (by decide +kernel) rfl (ty_cons .tuple m_tuple (by decide +kernel) rfl ty_nil))))) (p_or1 (t_not (t_chain (fun _ => op_le) rw_le (fun _ => op_le) rw_le d_int (d_len m_len (d_var 0)) (d_globI g_MOST_LETTERS)))))) (ss_one (s_ret d_bl)) ss_nil)
    (ss_one (s_ret (d_all m_all (d_frz (o_lc [("letter", 1)] (d_var 0) (g_nm 1) ts_nil (d_and (d_callC c_is_number (c_v (d_var 1) c_nil)) (d_one (d_in (d_var 1) (d_tup (l_cons d_int (l_cons d_int l_nil)))))) (fun _ => blkOk_by (N := N_is_word) (sc := defScope s_is_word) (by decide +kernel))))))))) kp_is_word
theorem ok_need_word {f : Addr} {fd : FuncData} (Fn : FunV K "need_word" "need_word" s_need_word f fd) (hm : mg "need_word" = some (.ref f)) (c_is_word : Cal P w K mg base 2 "is_word" ["thing"] sp_is_word) (xc_NoWord : XCls P w K mg base "NoWord" "found") :
    CalFX P w K mg base 3 "need_word" ["thing"] sp_need_word f fd :=
  .mkV Fn hm sc_need_word len_need_word (by decide) (fun cdv A outer s H E hr => (ss_one (s_if (t_not (t_val (d_callC c_is_word (c_v (d_core (d_var 0)) c_nil)))) (ss_one (s_raise xc_NoWord (d_var 0))) ss_nil))) kp_need_word
theorem ok_limits {f : Addr} {fd : FuncData} (Fn : Fun K "limits" "limits" s_limits f fd) (hm : mg "limits" = some (.ref f)) (m_len : mg "len" = none) (m_range : mg "range" = none) :
    CalF P w K mg base 1 "limits" ["word"] sp_limits f fd :=
  .mk2 Fn hm sc_limits len_limits (by decide) (fun cdv A outer s H E hr => (ss_cons (s_setO 1 (o_lst (l_cons d_int l_nil)))
    (ss_cons (s_for (d_var 0) (g_nm 2) (ss_one (s_app 1 (d_add (d_ixO 1 (d_neg d_int)) (d_var 2)))))
    (ss_cons (s_asg (d_tup (l_cons (d_tup (l_cons (d_neg d_int) (l_cons d_int l_nil))) (l_cons (d_tup (l_cons d_int (l_cons d_int l_nil))) l_nil))) (g_tp (gs_cons (g_nm 3) (gs_cons (g_nm 4) gs_nil))))
    (ss_cons (s_forR2 m_range d_int (d_lenO 1 m_len) (g_nm 5) (ss_one (s_forR1 m_range (d_var 5) (g_nm 6) (ss_cons (s_par 7 8 (d_sub (d_var 5) (d_var 6)) (d_sub (d_ixO 1 (d_var 5)) (d_ixO 1 (d_var 6))))
    (ss_cons (s_if (t_gt (d_mul (d_sub (d_var 8) d_int) (d_ix (d_var 3) d_int)) (d_mul (d_ix (d_var 3) d_int) (d_var 7))) (ss_one (s_set 3 (d_tup (l_cons (d_sub (d_var 8) d_int) (l_cons (d_var 7) l_nil))))) ss_nil)
    (ss_one (s_if (t_lt (d_mul (d_add (d_var 8) d_int) (d_ix (d_var 4) d_int)) (d_mul (d_ix (d_var 4) d_int) (d_var 7))) (ss_one (s_set 4 (d_tup (l_cons (d_add (d_var 8) d_int) (l_cons (d_var 7) l_nil))))) ss_nil)))))))
    (ss_one (s_ret (d_tup (l_cons (d_var 3) (l_cons (d_var 4) l_nil)))))))))) kp_limits
theorem ok_common {f : Addr} {fd : FuncData} (Fn : Fun K "common" "common" s_common f fd) (hm : mg "common" = some (.ref f)) (m_abs : mg "abs" = none) :
    CalF P w K mg base 1 "common" ["one", "other"] sp_common f fd :=
  .mk2 Fn hm sc_common len_common (by decide) (fun cdv A outer s H E hr => (ss_cons (s_set 0 (d_abs m_abs (d_var 0)))
    (ss_cons (s_set 1 (d_abs m_abs (d_var 1)))
    (ss_cons (s_while (t_ne (d_var 1) d_int) (ss_one (s_par 0 1 (d_var 1) (d_mod (d_var 0) (d_var 1)))))
    (ss_one (s_ret (d_var 0))))))) kp_common
theorem ok_made {f : Addr} {fd : FuncData} (Fn : Fun K "made" "made" s_made f fd) (hm : mg "made" = some (.ref f)) (c_common : Cal P w K mg base 1 "common" ["one", "other"] sp_common) :
    CalF P w K mg base 2 "made" ["top", "bottom"] sp_made f fd :=
  .mk2 Fn hm sc_made len_made (by decide) (fun cdv A outer s H E hr => (ss_cons (s_set 2 (d_callC c_common (c_v (d_var 0) (c_v (d_var 1) c_nil))))
    (ss_cons (s_if (t_lt (d_var 1) d_int) (ss_one (s_set 2 (d_neg (d_var 2)))) ss_nil)
    (ss_one (s_ret (d_tup (l_cons (d_fdiv (d_var 0) (d_var 2)) (l_cons (d_fdiv (d_var 1) (d_var 2)) l_nil)))))))) kp_made
theorem ok_slopes_of {f : Addr} {fd : FuncData} (Fn : Fun K "slopes_of" "slopes_of" s_slopes_of f fd) (hm : mg "slopes_of" = some (.ref f)) (c_limits : Cal P w K mg base 1 "limits" ["word"] sp_limits) (c_made : Cal P w K mg base 2 "made" ["top", "bottom"] sp_made) :
    CalF P w K mg base 3 "slopes_of" ["word"] sp_slopes_of f fd :=
  .mk2 Fn hm sc_slopes_of len_slopes_of (by decide) (fun cdv A outer s H E hr => (ss_cons (s_asg (d_callC c_limits (c_v (d_core (d_var 0)) c_nil)) (g_tp (gs_cons (g_nm 1) (gs_cons (g_nm 2) gs_nil))))
    (ss_cons (s_if (t_ge (d_mul (d_ix (d_var 1) d_int) (d_ix (d_var 2) d_int)) (d_mul (d_ix (d_var 2) d_int) (d_ix (d_var 1) d_int))) (ss_one (s_ret d_non)) ss_nil)
    (ss_cons (s_par 3 4 (d_lt (d_ix (d_var 1) d_int) d_int) (d_gt (d_ix (d_var 2) d_int) (d_ix (d_var 2) d_int)))
    (ss_cons (s_set 5 (d_if (t_val (d_var 3)) (d_tup (l_cons d_int (l_cons d_int l_nil))) (d_callC c_made (c_v (d_ix (d_var 1) d_int) (c_v (d_ix (d_var 1) d_int) c_nil)))))
    (ss_cons (s_set 6 (d_if (t_val (d_var 4)) (d_tup (l_cons d_int (l_cons d_int l_nil))) (d_callC c_made (c_v (d_ix (d_var 2) d_int) (c_v (d_ix (d_var 2) d_int) c_nil)))))
    (ss_one (s_ret (d_tup (l_cons (d_var 5) (l_cons (d_var 3) (l_cons (d_var 6) (l_cons (d_var 4) l_nil))))))))))))) kp_slopes_of
theorem ok_slopes {f : Addr} {fd : FuncData} (Fn : FunV K "slopes" "slopes" s_slopes f fd) (hm : mg "slopes" = some (.ref f)) (c_slopes_of : Cal P w K mg base 3 "slopes_of" ["word"] sp_slopes_of) (x_need_word : CalX P w K mg base 3 "need_word" ["thing"] sp_need_word) :
    CalFX P w K mg base 4 "slopes" ["word"] sp_slopes f fd :=
  .mkV Fn hm sc_slopes len_slopes (by decide) (fun cdv A outer s H E hr => (ss_cons (s_drop (d_callX x_need_word (c_v (d_var 0) c_nil)))
    (ss_one (s_ret (d_callC c_slopes_of (c_v (d_core (d_var 0)) c_nil)))))) kp_slopes
theorem ok_is_fraction {f : Addr} {fd : FuncData} (Fn : Fun K "is_fraction" "is_fraction" s_is_fraction f fd) (hm : mg "is_fraction" = some (.ref f)) (m_isinstance : mg "isinstance" = none) (m_tuple : mg "tuple" = none) (m_len : mg "len" = none) (c_is_number : Cal P w K mg base 1 "is_number" ["thing"] sp_is_number) (c_common : Cal P w K mg base 1 "common" ["one", "other"] sp_common) :
    CalF P w K mg base 2 "is_fraction" ["thing"] sp_is_fraction f fd :=
  .mk2 Fn hm sc_is_fraction len_is_fraction (by decide) (fun cdv A outer s H E hr => (ss_cons (s_if (p_pt (p_or (t_not (t_val (d_isi .tuple m_isinstance m_tuple (by decide +kernel) rfl (d_var 0)))) (p_or (t_ne (d_len m_len (d_var 0)) d_int) (p_or (t_not (t_val (d_callC c_is_number (c_v (d_ix (d_var 0) d_int) c_nil)))) (p_or1 (t_not (t_val (d_callC c_is_number (c_v (d_ix (d_var 0) d_int) c_nil))))))))) (ss_one (s_ret d_bl)) ss_nil)
    (ss_one (s_ret (d_and (d_ge (d_ix (d_var 0) d_int) d_int) (d_one (d_eq (d_callC c_common (c_v (d_ix (d_var 0) d_int) (c_v (d_ix (d_var 0) d_int) c_nil))) d_int))))))) kp_is_fraction
theorem ok_need_part {f : Addr} {fd : FuncData} (Fn : FunV K "need_part" "need_part" s_need_part f fd) (hm : mg "need_part" = some (.ref f)) (c_is_fraction : Cal P w K mg base 2 "is_fraction" ["thing"] sp_is_fraction) (xc_NoFraction : XCls P w K mg base "NoFraction" "found") :
    CalFX P w K mg base 3 "need_part" ["fraction"] sp_need_part f fd :=
  .mkV Fn hm sc_need_part len_need_part (by decide) (fun cdv A outer s H E hr => (ss_one (s_if (p_pt (p_or (t_not (t_val (d_callC c_is_fraction (c_v (d_var 0) c_nil)))) (p_or1 (t_not (t_chain (fun _ => op_le) rw_le (fun _ => op_le) rw_le d_int (d_ix (d_var 0) d_int) (d_ix (d_var 0) d_int)))))) (ss_one (s_raise xc_NoFraction (d_var 0))) ss_nil))) kp_need_part
theorem ok_need_short {f : Addr} {fd : FuncData} (Fn : FunV K "need_short" "need_short" s_need_short f fd) (hm : mg "need_short" = some (.ref f)) (g_MOST_LETTERS : ∃ t, mg "MOST_LETTERS" = some (.int 100 t)) (x_need_part : CalX P w K mg base 3 "need_part" ["fraction"] sp_need_part) (xc_TooMany : XCls P w K mg base "TooMany" "many") :
    CalFX P w K mg base 4 "need_short" ["fraction"] sp_need_short f fd :=
  .mkV Fn hm sc_need_short len_need_short (by decide) (fun cdv A outer s H E hr => (ss_cons (s_drop (d_callX x_need_part (c_v (d_var 0) c_nil)))
    (ss_one (s_if (t_gt (d_ix (d_var 0) d_int) (d_globI g_MOST_LETTERS)) (ss_one (s_raise xc_TooMany (d_ix (d_var 0) d_int))) ss_nil)))) kp_need_short
theorem ok_spread_of {f : Addr} {fd : FuncData} (Fn : Fun K "spread_of" "spread_of" s_spread_of f fd) (hm : mg "spread_of" = some (.ref f)) (m_range : mg "range" = none) :
    CalF P w K mg base 1 "spread_of" ["ones", "many", "letters"] sp_spread_of f fd :=
  .mk2 Fn hm sc_spread_of len_spread_of (by decide) (fun cdv A outer s H E hr => (ss_one (s_retO (o_lcR1 [("at", 3)] m_range (d_var 2) (g_nm 3) ts_nil (d_sub (d_fdiv (d_mul (d_add (d_var 3) d_int) (d_var 0)) (d_var 1)) (d_fdiv (d_mul (d_var 3) (d_var 0)) (d_var 1))) (fun _ => blkOk_by (N := N_spread_of) (sc := defScope s_spread_of) (by decide +kernel)))))) kp_spread_of
theorem ok_even_word {f : Addr} {fd : FuncData} (Fn : FunV K "even_word" "even_word" s_even_word f fd) (hm : mg "even_word" = some (.ref f)) (c_spread_of : Cal P w K mg base 1 "spread_of" ["ones", "many", "letters"] sp_spread_of) (x_need_short : CalX P w K mg base 4 "need_short" ["fraction"] sp_need_short) :
    CalFX P w K mg base 5 "even_word" ["fraction"] sp_even_word f fd :=
  .mkV Fn hm sc_even_word len_even_word (by decide) (fun cdv A outer s H E hr => (ss_cons (s_drop (d_callX x_need_short (c_v (d_var 0) c_nil)))
    (ss_one (s_retO (o_callC c_spread_of (c_v (d_ix (d_var 0) d_int) (c_v (d_ix (d_var 0) d_int) (c_v (d_ix (d_var 0) d_int) c_nil)))))))) kp_even_word
theorem ok_is_whole {f : Addr} {fd : FuncData} (Fn : Fun K "is_whole" "is_whole" s_is_whole f fd) (hm : mg "is_whole" = some (.ref f)) (c_is_number : Cal P w K mg base 1 "is_number" ["thing"] sp_is_number) :
    CalF P w K mg base 2 "is_whole" ["thing", "low", "high"] sp_is_whole f fd :=
  .mk2 Fn hm sc_is_whole len_is_whole (by decide) (fun cdv A outer s H E hr => (ss_one (s_ret (d_and (d_callC c_is_number (c_v (d_var 0) c_nil)) (d_one (d_chain (fun _ => op_le) rw_le (fun _ => op_le) rw_le (d_var 1) (d_var 0) (d_var 2))))))) kp_is_whole
theorem ok_spread {f : Addr} {fd : FuncData} (Fn : FunV K "spread" "spread" s_spread f fd) (hm : mg "spread" = some (.ref f)) (c_is_whole : Cal P w K mg base 2 "is_whole" ["thing", "low", "high"] sp_is_whole) (c_spread_of : Cal P w K mg base 1 "spread_of" ["ones", "many", "letters"] sp_spread_of) (g_MOST_LETTERS : ∃ t, mg "MOST_LETTERS" = some (.int 100 t)) (xc_NoNumber : XCls P w K mg base "NoNumber" "found") :
    CalFX P w K mg base 3 "spread" ["ones", "many"] sp_spread f fd :=
  .mkV Fn hm sc_spread len_spread (by decide) (fun cdv A outer s H E hr => (ss_cons (s_if (t_not (t_val (d_callC c_is_whole (c_v (d_var 1) (c_v d_int (c_v (d_globI g_MOST_LETTERS) c_nil)))))) (ss_one (s_raise xc_NoNumber (d_var 1))) ss_nil)
    (ss_cons (s_if (t_not (t_val (d_callC c_is_whole (c_v (d_var 0) (c_v d_int (c_v (d_var 1) c_nil)))))) (ss_one (s_raise xc_NoNumber (d_var 0))) ss_nil)
    (ss_one (s_retO (o_callC c_spread_of (c_v (d_var 0) (c_v (d_var 1) (c_v (d_var 1) c_nil))))))))) kp_spread
theorem ok_is_balanced {f : Addr} {fd : FuncData} (Fn : FunV K "is_balanced" "is_balanced" s_is_balanced f fd) (hm : mg "is_balanced" = some (.ref f)) (c_slopes_of : Cal P w K mg base 3 "slopes_of" ["word"] sp_slopes_of) (x_need_word : CalX P w K mg base 3 "need_word" ["thing"] sp_need_word) :
    CalFX P w K mg base 4 "is_balanced" ["word"] sp_is_balanced f fd :=
  .mkV Fn hm sc_is_balanced len_is_balanced (by decide) (fun cdv A outer s H E hr => (ss_cons (s_drop (d_callX x_need_word (c_v (d_var 0) c_nil)))
    (ss_one (s_ret (d_notN (d_callC c_slopes_of (c_v (d_core (d_var 0)) c_nil))))))) kp_is_balanced
theorem ok__law_called {f : Addr} {fd : FuncData} (Fn : FunV K "_law_called" "_law_called" s__law_called f fd) (hm : mg "_law_called" = some (.ref f)) (x_even_word : CalX P w K mg base 5 "even_word" ["fraction"] sp_even_word) (x_spread : CalX P w K mg base 3 "spread" ["ones", "many"] sp_spread) (x_is_balanced : CalX P w K mg base 4 "is_balanced" ["word"] sp_is_balanced) (x_slopes : CalX P w K mg base 4 "slopes" ["word"] sp_slopes) (xcp_even_word_0 : CalPX P w K mg base 5 "even_word" ["fraction"] sp_even_word 0 ["fraction"] [] [0]) (xcp_spread_1 : CalPX P w K mg base 3 "spread" ["ones", "many"] sp_spread 0 ["many", "ones"] [] [1, 0]) (xcp_is_balanced_2 : CalPX P w K mg base 4 "is_balanced" ["word"] sp_is_balanced 0 ["word"] [] [0]) (xcp_slopes_3 : CalPX P w K mg base 4 "slopes" ["word"] sp_slopes 0 ["word"] [] [0]) :
    CalFX P w K mg base 6 "_law_called" ["door", "ask", "by_name"] sp__law_called f fd :=
  .mkV Fn hm sc__law_called len__law_called (by decide) (fun cdv A outer s H E hr => (ss_cons (s_if (t_eq (d_var 0) d_int) (ss_one (s_retO (o_if (t_val (d_var 2)) (o_callP0X xcp_even_word_0 (kw_cons (d_ix (d_var 1) d_int) kw_nil)) (o_callX x_even_word (c_v (d_ix (d_var 1) d_int) c_nil))))) ss_nil)
    (ss_cons (s_if (t_eq (d_var 0) d_int) (ss_one (s_retO (o_if (t_val (d_var 2)) (o_callP0X xcp_spread_1 (kw_cons (d_ix (d_var 1) d_int) (kw_cons (d_ix (d_var 1) d_int) kw_nil))) (o_callX x_spread (c_v (d_ix (d_var 1) d_int) (c_v (d_ix (d_var 1) d_int) c_nil)))))) ss_nil)
    (ss_cons (s_if (t_eq (d_var 0) d_int) (ss_one (s_ret (d_if (t_val (d_var 2)) (d_callP0X xcp_is_balanced_2 (kw_cons (d_ix (d_var 1) d_int) kw_nil)) (d_callX x_is_balanced (c_v (d_ix (d_var 1) d_int) c_nil))))) ss_nil)
    (ss_one (s_ret (d_if (t_val (d_var 2)) (d_callP0X xcp_slopes_3 (kw_cons (d_ix (d_var 1) d_int) kw_nil)) (d_callX x_slopes (c_v (d_ix (d_var 1) d_int) c_nil))))))))) kp__law_called
theorem ok__law_take {f : Addr} {fd : FuncData} (Fn : Fun K "_law_take" "_law_take" s__law_take f fd) (hm : mg "_law_take" = some (.ref f)) (m_int : mg "int" = none) :
    CalF P w K mg base 1 "_law_take" ["box", "many"] sp__law_take f fd :=
  .mk2 Fn hm sc__law_take len__law_take (by decide) (fun cdv A outer s H E hr => (ss_cons (s_if (p_pt (p_and (t_val (d_ixO 0 d_int)) (p_and1 (t_gt (d_ixO 0 d_int) d_int)))) (ss_cons (s_set 2 (d_mod (d_intf m_int (d_ixO 0 d_int)) (d_var 1)))
    (ss_cons (s_put 0 (d_fdiv (d_ixO 0 d_int) (d_var 1)) d_int)
    (ss_one (s_ret (d_var 2))))) ss_nil)
    (ss_cons (s_put 0 (d_add (d_ixO 0 d_int) d_int) d_int)
    (ss_cons (s_set 3 (d_mod (d_intf m_int (d_pow (d_add (d_add (d_ixO 0 d_int) (d_mul d_int (d_ixO 0 d_int))) d_int) d_int)) d_int))
    (ss_one (s_ret (d_mod (d_intf m_int (d_fdiv (d_mod (d_intf m_int (d_pow (d_add (d_mul (d_var 3) d_int) (d_mul d_int (d_ixO 0 d_int))) d_int)) d_int) d_int)) (d_var 1)))))))) kp__law_take
theorem ok__law_low {f : Addr} {fd : FuncData} (Fn : Fun K "_law_low" "_law_low" s__law_low f fd) (hm : mg "_law_low" = some (.ref f)) (m_abs : mg "abs" = none) (m_int : mg "int" = none) :
    CalF P w K mg base 1 "_law_low" ["top", "base"] sp__law_low f fd :=
  .mk2 Fn hm sc__law_low len__law_low (by decide) (fun cdv A outer s H E hr => (ss_cons (s_par 2 3 (d_abs m_abs (d_var 0)) (d_abs m_abs (d_var 1)))
    (ss_cons (s_while (t_gt (d_var 3) d_int) (ss_one (s_par 2 3 (d_var 3) (d_mod (d_intf m_int (d_var 2)) (d_var 3)))))
    (ss_one (s_ret (d_if (t_gt (d_var 1) d_int) (d_tup (l_cons (d_fdiv (d_var 0) (d_var 2)) (l_cons (d_fdiv (d_var 1) (d_var 2)) l_nil))) (d_tup (l_cons (d_fdiv (d_neg (d_var 0)) (d_var 2)) (l_cons (d_fdiv (d_neg (d_var 1)) (d_var 2)) l_nil))))))))) kp__law_low
theorem ok__law_even {f : Addr} {fd : FuncData} (Fn : Fun K "_law_even" "_law_even" s__law_even f fd) (hm : mg "_law_even" = some (.ref f)) (m_range : mg "range" = none) :
    CalF P w K mg base 1 "_law_even" ["ones", "many", "letters"] sp__law_even f fd :=
  .mk2 Fn hm sc__law_even len__law_even (by decide) (fun cdv A outer s H E hr => (ss_one (s_retO (o_lcR1 [("k", 3)] m_range (d_var 2) (g_nm 3) ts_nil (d_sub (d_fdiv (d_mul (d_add (d_var 3) d_int) (d_var 0)) (d_var 1)) (d_fdiv (d_mul (d_var 3) (d_var 0)) (d_var 1))) (fun _ => blkOk_by (N := N__law_even) (sc := defScope s__law_even) (by decide +kernel)))))) kp__law_even
theorem ok__law_drawn_word {f : Addr} {fd : FuncData} (Fn : Fun K "_law_drawn_word" "_law_drawn_word" s__law_drawn_word f fd) (hm : mg "_law_drawn_word" = some (.ref f)) (m_range : mg "range" = none) (c__law_take : Cal P w K mg base 1 "_law_take" ["box", "many"] sp__law_take) (c__law_even : Cal P w K mg base 1 "_law_even" ["ones", "many", "letters"] sp__law_even) :
    CalF P w K mg base 2 "_law_drawn_word" ["box", "most"] sp__law_drawn_word f fd :=
  .mk2 Fn hm sc__law_drawn_word len__law_drawn_word (by decide) (fun cdv A outer s H E hr => (ss_cons (s_par 2 3 (d_callC c__law_take (c_s 0 (c_v d_int c_nil))) (d_add d_int (d_callC c__law_take (c_s 0 (c_v (d_var 1) c_nil)))))
    (ss_cons (s_if (t_eq (d_var 2) d_int) (ss_one (s_retO (o_lcR1 [("k", 9)] m_range (d_var 3) (g_nm 9) ts_nil (d_callC c__law_take (c_s 0 (c_v d_int c_nil))) (fun _ => blkOk_by (N := N__law_drawn_word) (sc := defScope s__law_drawn_word) (by decide +kernel))))) ss_nil)
    (ss_cons (s_set 4 (d_add d_int (d_callC c__law_take (c_s 0 (c_v d_int c_nil)))))
    (ss_cons (s_par 5 6 (d_callC c__law_take (c_s 0 (c_v (d_add (d_var 4) d_int) c_nil))) (d_callC c__law_take (c_s 0 (c_v (d_var 4) c_nil))))
    (ss_cons (s_setO 7 (o_cut (d_frz (o_callC c__law_even (c_v (d_var 5) (c_v (d_var 4) (c_v (d_add (d_var 6) (d_var 3)) c_nil))))) (sp_at (d_var 6)) sp_no))
    (ss_cons (s_if (t_eq (d_var 2) d_int) (ss_cons (s_set 8 (d_callC c__law_take (c_s 0 (c_v (d_var 3) c_nil))))
    (ss_one (s_put 7 (d_sub d_int (d_ixO 7 (d_var 8))) (d_var 8)))) ss_nil)
    (ss_one (s_retS 7))))))))) kp__law_drawn_word
theorem ok__law_mixed {f : Addr} {fd : FuncData} (Fn : Fun K "_law_mixed" "_law_mixed" s__law_mixed f fd) (hm : mg "_law_mixed" = some (.ref f)) (m_list : mg "list" = none) (m_len : mg "len" = none) (c__law_take : Cal P w K mg base 1 "_law_take" ["box", "many"] sp__law_take) :
    CalF P w K mg base 2 "_law_mixed" ["box", "items"] sp__law_mixed f fd :=
  .mk2 Fn hm sc__law_mixed len__law_mixed (by decide) (fun cdv A outer s H E hr => (ss_cons (s_parOO 2 3 (o_listF m_list (d_var 1)) (o_lst l_nil))
    (ss_cons (s_while (t_neO 2) (ss_one (s_app 3 (d_popAt 2 (d_callC c__law_take (c_s 0 (c_v (d_lenO 2 m_len) c_nil)))))))
    (ss_one (s_retS 3))))) kp__law_mixed
theorem ok__law_same {n : Nat} {f : Addr} {fd : FuncData} (Fn : Fun K "_law_same" "_law_same" s__law_same f fd) (hm : mg "_law_same" = some (.ref f)) (m_isinstance : mg "isinstance" = none) (m_bool : mg "bool" = none) (m_int : mg "int" = none) (m_str : mg "str" = none) (m_len : mg "len" = none) (m_range : mg "range" = none) (m_list : mg "list" = none) (m_tuple : mg "tuple" = none) (c__law_same : Cal P w K mg base n "_law_same" ["given", "due"] (spr__law_same n)) :
    CalF P w K mg base (n + 1) "_law_same" ["given", "due"] (spr__law_same (n + 1)) f fd :=
  .mk2 Fn hm sc__law_same (lenr__law_same (n + 1)) (by decide) (fun cdv A outer s H E hr => (ss_cons (s_if (p_pt (p_or (t_isN (d_var 1)) (p_or1 (t_val (d_isi .bool m_isinstance m_bool (by decide +kernel) rfl (d_var 1)))))) (ss_one (s_ret (d_if (t_isN (d_var 1)) (d_isN (d_var 0)) (d_and (d_isi .bool m_isinstance m_bool (by decide +kernel) rfl (d_var 0)) (d_one (d_eq (d_is (d_var 0) d_bl) (d_is (d_var 1) d_bl))))))) ss_nil)
    (ss_cons (s_if (t_val (d_isi .int m_isinstance m_int (by decide +kernel) rfl (d_var 1))) (ss_one (s_ret (d_and (d_isi .int m_isinstance m_int (by decide +kernel) rfl (d_var 0)) (d_and (d_not (d_isi .bool m_isinstance m_bool (by decide +kernel) rfl (d_var 0))) (d_one (d_eq (d_sub (d_intf m_int (d_var 0)) (d_var 1)) d_int)))))) ss_nil)
    (ss_cons (s_if (t_val (d_isi .str m_isinstance m_str (by decide +kernel) rfl (d_var 1))) (ss_one (s_ret (d_and (d_isi .str m_isinstance m_str (by decide +kernel) rfl (d_var 0)) (d_and (d_eq (d_len m_len (d_var 0)) (d_len m_len (d_var 1))) (d_one (d_eq (d_frz (o_lcR1 [("k", 2)] m_range (d_len m_len (d_var 1)) (g_nm 2) (ts_one (t_ne (d_frz (o_cut (d_var 0) (sp_at (d_var 2)) (sp_at (d_add (d_var 2) d_int)))) (d_ix (d_var 1) (d_var 2)))) (d_var 2) (fun _ => blkOk_by (N := N__law_same) (sc := defScope s__law_same) (by decide +kernel)))) (d_frz (o_lst l_nil)))))))) ss_nil)
    (ss_cons (s_if (p_pt (p_or (t_ne (d_isi .list m_isinstance m_list (by decide +kernel) rfl (d_var 0)) (d_isi .list m_isinstance m_list (by decide +kernel) rfl (d_var 1))) (p_or1 (t_ne (d_isi .tuple m_isinstance m_tuple (by decide +kernel) rfl (d_var 0)) (d_isi .tuple m_isinstance m_tuple (by decide +kernel) rfl (d_var 1)))))) (ss_one (s_ret d_bl)) ss_nil)
    (ss_one (s_ret (d_and (d_eq (d_len m_len (d_var 0)) (d_len m_len (d_var 1))) (d_one (d_eq (d_frz (o_lcR1 [("k", 2)] m_range (d_len m_len (d_var 1)) (g_nm 2) (ts_one (t_not (t_val (d_callC (hk := Nat.le_refl _) c__law_same (c_v (d_ix (d_var 0) (d_var 2)) (c_v (d_ix (d_var 1) (d_var 2)) c_nil)))))) (d_var 2) (fun _ => blkOk_by (N := N__law_same) (sc := defScope s__law_same) (by decide +kernel)))) (d_frz (o_lst l_nil)))))))))))) (kp__law_same n)
theorem ok__law_balanced {f : Addr} {fd : FuncData} (Fn : Fun K "_law_balanced" "_law_balanced" s__law_balanced f fd) (hm : mg "_law_balanced" = some (.ref f)) (m_len : mg "len" = none) (m_range : mg "range" = none) (m_max : mg "max" = none) (m_min : mg "min" = none) :
    CalF P w K mg base 1 "_law_balanced" ["word"] sp__law_balanced f fd :=
  .mk2 Fn hm sc__law_balanced len__law_balanced (by decide) (fun cdv A outer s H E hr => (ss_cons (s_setO 1 (o_lst (l_cons d_int l_nil)))
    (ss_cons (s_for (d_var 0) (g_nm 2) (ss_one (s_app 1 (d_add (d_ixO 1 (d_neg d_int)) (d_var 2)))))
    (ss_cons (s_forR2 m_range d_int (d_len m_len (d_var 0)) (g_nm 3) (ss_cons (s_lc 4 (lc_rng1 [("k", 5)] m_range (d_add (d_sub (d_len m_len (d_var 0)) (d_var 3)) d_int) (g_nm 5) ts_nil (d_sub (d_ixO 1 (d_add (d_var 5) (d_var 3))) (d_ixO 1 (d_var 5))) (fun _ => blkOk_by (N := N__law_balanced) (sc := defScope s__law_balanced) (by decide +kernel))))
    (ss_one (s_if (t_gt (d_sub (d_maxL m_max (d_var 4)) (d_minL m_min (d_var 4))) d_int) (ss_one (s_ret d_bl)) ss_nil))))
    (ss_one (s_ret d_bl)))))) kp__law_balanced
theorem ok__law_no_words {f : Addr} {fd : FuncData} (Fn : Fun K "_law_no_words" "_law_no_words" s__law_no_words f fd) (hm : mg "_law_no_words" = some (.ref f))  :
    CalF P w K mg base 1 "_law_no_words" [] sp__law_no_words f fd :=
  .mk2 Fn hm sc__law_no_words len__law_no_words (by decide) (fun cdv A outer s H E hr => (ss_one (s_retO (o_lst (l_cons d_non (l_cons d_int (l_cons d_str (l_cons (d_frz (o_lst l_nil)) (l_cons (d_tup l_nil) (l_cons d_dct (l_cons (d_frz (o_lst (l_cons d_int l_nil))) (l_cons (d_frz (o_lst (l_cons d_int (l_cons (d_neg d_int) l_nil)))) (l_cons (d_frz (o_lst (l_cons d_bl l_nil))) (l_cons (d_frz (o_lst (l_cons d_int (l_cons d_non l_nil)))) (l_cons (d_frz (o_lst (l_cons d_str l_nil))) (l_cons (d_frz (o_lst (l_cons (d_frz (o_lst (l_cons d_int l_nil))) l_nil))) (l_cons (d_frz (o_rep (o_lst (l_cons d_int l_nil)) d_int)) (l_cons (d_frz (o_lst (l_cons d_int (l_cons d_int (l_cons d_int l_nil))))) (l_cons (d_tup (l_cons d_int (l_cons (d_tup (l_cons d_int l_nil)) l_nil))) l_nil))))))))))))))))))) kp__law_no_words
theorem ok__law_no_fractions {f : Addr} {fd : FuncData} (Fn : Fun K "_law_no_fractions" "_law_no_fractions" s__law_no_fractions f fd) (hm : mg "_law_no_fractions" = some (.ref f))  :
    CalF P w K mg base 1 "_law_no_fractions" [] sp__law_no_fractions f fd :=
  .mk2 Fn hm sc__law_no_fractions len__law_no_fractions (by decide) (fun cdv A outer s H E hr => (ss_one (s_retO (o_lst (l_cons d_non (l_cons d_int (l_cons d_str (l_cons (d_frz (o_lst (l_cons d_int (l_cons d_int l_nil)))) (l_cons (d_tup (l_cons d_int l_nil)) (l_cons (d_tup (l_cons d_int (l_cons d_int (l_cons d_int l_nil)))) (l_cons (d_tup (l_cons d_int (l_cons d_int l_nil))) (l_cons (d_tup (l_cons d_int (l_cons d_int l_nil))) (l_cons (d_tup (l_cons d_int (l_cons (d_neg d_int) l_nil))) (l_cons (d_tup (l_cons d_int (l_cons d_int l_nil))) (l_cons (d_tup (l_cons d_bl (l_cons d_int l_nil))) (l_cons (d_tup (l_cons d_int (l_cons d_bl l_nil))) (l_cons (d_tup (l_cons d_str (l_cons d_int l_nil))) (l_cons d_dct (l_cons (d_frz (o_lst l_nil)) (l_cons (d_tup (l_cons d_non (l_cons d_int l_nil))) (l_cons (d_tup (l_cons (d_tup (l_cons d_int (l_cons d_int l_nil))) (l_cons d_int l_nil))) l_nil))))))))))))))))))))) kp__law_no_fractions
theorem ok__law_cell_right {f : Addr} {fd : FuncData} (Fn : Fun K "_law_cell_right" "_law_cell_right" s__law_cell_right f fd) (hm : mg "_law_cell_right" = some (.ref f)) (m_sum : mg "sum" = none) (m_range : mg "range" = none) (m_tuple : mg "tuple" = none) (m_list : mg "list" = none) (c__law_take : Cal P w K mg base 1 "_law_take" ["box", "many"] sp__law_take) (c__law_low : Cal P w K mg base 1 "_law_low" ["top", "base"] sp__law_low) (c__law_told_same : Cal P w K mg base 8 "_law_told_same" ["door", "ask", "due", "by_name"] sp__law_told_same) (c__law_even : Cal P w K mg base 1 "_law_even" ["ones", "many", "letters"] sp__law_even) (c__law_balanced : Cal P w K mg base 1 "_law_balanced" ["word"] sp__law_balanced) (c__law_drawn_word : Cal P w K mg base 2 "_law_drawn_word" ["box", "most"] sp__law_drawn_word) (c__law_told : Cal P w K mg base 7 "_law_told" ["door", "ask", "by_name"] sp__law_told) (c__law_mixed : Cal P w K mg base 2 "_law_mixed" ["box", "items"] sp__law_mixed) (c__law_no_words : Cal P w K mg base 1 "_law_no_words" [] sp__law_no_words) (c__law_refused : Cal P w K mg base 8 "_law_refused" ["door", "ask", "word", "at", "by_name"] sp__law_refused) (c__law_no_fractions : Cal P w K mg base 1 "_law_no_fractions" [] sp__law_no_fractions) (c__law_same : Cal P w K mg base 6 "_law_same" ["given", "due"] sp__law_same) :
    CalF P w K mg base 9 "_law_cell_right" ["box"] sp__law_cell_right f fd :=
  .mk2 Fn hm sc__law_cell_right len__law_cell_right (by decide) (fun cdv A outer s H E hr => (ss_cons (s_set 1 (d_eq (d_callC c__law_take (c_s 0 (c_v d_int c_nil))) d_int))
    (ss_cons (s_forR1 m_range d_int (g_nm 2) (ss_cons (s_set 3 (d_callC c__law_low (c_v (d_callC c__law_take (c_s 0 (c_v d_int c_nil))) (c_v (d_add d_int (d_callC c__law_take (c_s 0 (c_v d_int c_nil)))) c_nil))))
    (ss_cons (s_set 3 (d_if (t_le (d_ix (d_var 3) d_int) (d_ix (d_var 3) d_int)) (d_var 3) (d_callC c__law_low (c_v (d_ix (d_var 3) d_int) (c_v (d_ix (d_var 3) d_int) c_nil)))))
    (ss_cons (s_if (p_pt (p_and (t_le (d_ix (d_var 3) d_int) d_int) (p_and1 (t_not (t_val (d_callC c__law_told_same (c_v d_int (c_v (d_frz (o_lst (l_cons (d_var 3) l_nil))) (c_v (d_frz (o_callC c__law_even (c_v (d_ix (d_var 3) d_int) (c_v (d_ix (d_var 3) d_int) (c_v (d_ix (d_var 3) d_int) c_nil))))) (c_v (d_var 1) c_nil)))))))))) (ss_one (s_ret d_bl)) ss_nil)
    (ss_cons (s_set 4 (d_add d_int (d_callC c__law_take (c_s 0 (c_v d_int c_nil)))))
    (ss_cons (s_set 5 (d_callC c__law_take (c_s 0 (c_v (d_add (d_var 4) d_int) c_nil))))
    (ss_cons (s_set 6 (d_frz (o_callC c__law_even (c_v (d_var 5) (c_v (d_var 4) (c_v (d_var 4) c_nil))))))
    (ss_cons (s_if (p_pt (p_or (t_not (t_val (d_callC c__law_told_same (c_v d_int (c_v (d_frz (o_lst (l_cons (d_var 5) (l_cons (d_var 4) l_nil)))) (c_v (d_var 6) (c_v (d_not (d_var 1)) c_nil))))))) (p_or1 (t_ne (d_sum m_sum (d_var 6)) (d_var 5))))) (ss_one (s_ret d_bl)) ss_nil)
    (ss_cons (s_set 7 (d_callC c__law_low (c_v (d_var 5) (c_v (d_var 4) c_nil))))
    (ss_one (s_if (p_pt (p_or (t_ne (d_var 6) (d_frz (o_repL (o_callC c__law_even (c_v (d_ix (d_var 7) d_int) (c_v (d_ix (d_var 7) d_int) (c_v (d_ix (d_var 7) d_int) c_nil)))) (d_fdiv (d_var 4) (d_ix (d_var 7) d_int))))) (p_or1 (p_pt (p_and (t_le (d_var 4) d_int) (p_and1 (t_not (t_val (d_callC c__law_balanced (c_v (d_frz (o_cat (d_var 6) (d_var 6))) c_nil)))))))))) (ss_one (s_ret d_bl)) ss_nil)))))))))))
    (ss_cons (s_forR1 m_range d_int (g_nm 2) (ss_cons (s_set 8 (d_frz (o_callC c__law_drawn_word (c_s 0 (c_v d_int c_nil)))))
    (ss_cons (s_par 9 10 (d_if (t_val (d_var 1)) (d_tupF m_tuple (d_var 8)) (d_frz (o_listF m_list (d_var 8)))) (d_callC c__law_balanced (c_v (d_var 8) c_nil)))
    (ss_cons (s_if (t_not (t_val (d_callC c__law_told_same (c_v d_int (c_v (d_frz (o_lst (l_cons (d_var 9) l_nil))) (c_v (d_var 10) (c_v (d_var 1) c_nil))))))) (ss_one (s_ret d_bl)) ss_nil)
    (ss_cons (s_set 11 (d_callC c__law_told (c_v d_int (c_v (d_frz (o_lst (l_cons (d_var 9) l_nil))) (c_v (d_not (d_var 1)) c_nil)))))
    (ss_one (s_if (p_pt (p_or (t_ne (d_ix (d_var 11) d_int) d_str) (p_or (t_not (t_val (d_ix (d_var 11) d_int))) (p_or1 (t_ne (d_isN (d_ix (d_var 11) d_int)) (d_not (d_var 10))))))) (ss_one (s_ret d_bl)) ss_nil)))))))
    (ss_cons (s_for (d_frz (o_cut (d_frz (o_callC c__law_mixed (c_s 0 (c_v (d_frz (o_callC0 c__law_no_words)) c_nil)))) sp_no (sp_at d_int))) (g_nm 12) (ss_one (s_if (p_pt (p_or (t_not (t_val (d_callC c__law_refused (c_v d_int (c_v (d_frz (o_lst (l_cons (d_var 12) l_nil))) (c_v d_str (c_v d_int (c_v (d_var 1) c_nil)))))))) (p_or1 (t_not (t_val (d_callC c__law_refused (c_v d_int (c_v (d_frz (o_lst (l_cons (d_var 12) l_nil))) (c_v d_str (c_v d_int (c_v (d_not (d_var 1)) c_nil))))))))))) (ss_one (s_ret d_bl)) ss_nil)))
    (ss_cons (s_for (d_frz (o_cut (d_frz (o_callC c__law_mixed (c_s 0 (c_v (d_frz (o_cat (d_frz (o_callC0 c__law_no_fractions)) (d_frz (o_lst (l_cons (d_tup (l_cons (d_neg d_int) (l_cons d_int l_nil))) (l_cons (d_tup (l_cons d_int (l_cons d_int l_nil))) l_nil)))))) c_nil)))) sp_no (sp_at d_int))) (g_nm 12) (ss_one (s_if (t_not (t_val (d_callC c__law_refused (c_v d_int (c_v (d_frz (o_lst (l_cons (d_var 12) l_nil))) (c_v d_str (c_v d_int (c_v (d_var 1) c_nil)))))))) (ss_one (s_ret d_bl)) ss_nil)))
    (ss_cons (s_for (d_frz (o_cut (d_frz (o_callC c__law_mixed (c_s 0 (c_v (d_frz (o_lst (l_cons d_int (l_cons d_int (l_cons (d_neg d_int) (l_cons d_non (l_cons d_bl (l_cons d_str (l_cons (d_frz (o_lst (l_cons d_int l_nil))) (l_cons (d_pow d_int d_int) l_nil)))))))))) c_nil)))) sp_no (sp_at d_int))) (g_nm 12) (ss_one (s_if (t_not (t_val (d_callC c__law_refused (c_v d_int (c_v (d_frz (o_lst (l_cons d_non (l_cons (d_var 12) l_nil)))) (c_v d_str (c_v d_int (c_v (d_var 1) c_nil)))))))) (ss_one (s_ret d_bl)) ss_nil)))
    (ss_cons (s_for (d_frz (o_cut (d_frz (o_callC c__law_mixed (c_s 0 (c_v (d_frz (o_lst (l_cons (d_neg d_int) (l_cons d_int (l_cons d_non (l_cons d_bl (l_cons d_str (l_cons (d_frz (o_lst (l_cons d_int l_nil))) (l_cons (d_pow d_int d_int) l_nil))))))))) c_nil)))) sp_no (sp_at d_int))) (g_nm 12) (ss_one (s_if (t_not (t_val (d_callC c__law_refused (c_v d_int (c_v (d_frz (o_lst (l_cons (d_var 12) (l_cons d_int l_nil)))) (c_v d_str (c_v d_int (c_v (d_not (d_var 1)) c_nil)))))))) (ss_one (s_ret d_bl)) ss_nil)))
    (ss_cons (s_set 13 (d_tup (l_cons (d_add d_int (d_callC c__law_take (c_s 0 (c_v d_int c_nil)))) (l_cons d_int l_nil))))
    (ss_cons (s_set 11 (d_callC c__law_told (c_v d_int (c_v (d_frz (o_lst (l_cons (d_var 13) l_nil))) (c_v (d_var 1) c_nil)))))
    (ss_one (s_ret (d_and (d_eq (d_ix (d_var 11) d_int) d_str) (d_and (d_ix (d_var 11) d_int) (d_one (d_callC c__law_same (c_v (d_ix (d_var 11) d_int) (c_v d_int c_nil)))))))))))))))))) kp__law_cell_right
theorem ok__law_box {f : Addr} {fd : FuncData} (Fn : Fun K "_law_box" "_law_box" s__law_box f fd) (hm : mg "_law_box" = some (.ref f)) (m_abs : mg "abs" = none) (m_int : mg "int" = none) :
    CalF P w K mg base 1 "_law_box" ["great"] sp__law_box f fd :=
  .mk2 Fn hm sc__law_box len__law_box (by decide) (fun cdv A outer s H E hr => (ss_one (s_retO (o_lst (l_cons (d_abs m_abs (d_var 0)) (l_cons (d_ge (d_abs m_abs (d_var 0)) (d_pow d_int d_int)) (l_cons (d_mod (d_intf m_int (d_abs m_abs (d_var 0))) d_int) (l_cons d_int l_nil)))))))) kp__law_box
theorem ok__law_cell {f : Addr} {fd : FuncData} (Fn : Fun K "_law_cell" "_law_cell" s__law_cell f fd) (hm : mg "_law_cell" = some (.ref f)) (m_len : mg "len" = none) (m_sum : mg "sum" = none) (m_int : mg "int" = none) :
    CalF P w K mg base 1 "_law_cell" ["script", "k"] sp__law_cell f fd :=
  .mk2 Fn hm sc__law_cell len__law_cell (by decide) (fun cdv A outer s H E hr => (ss_one (s_ret (d_if (t_lt (d_var 1) (d_len m_len (d_var 0))) (d_ix (d_var 0) (d_var 1)) (d_add (d_mul d_int (d_var 1)) (d_mod (d_intf m_int (d_sum m_sum (d_frz (o_cut (d_var 0) sp_no (sp_at d_int))))) d_int)))))) kp__law_cell
theorem ok_law {f : Addr} {fd : FuncData} (Fn : Fun K "law" "law" s_law f fd) (hm : mg "law" = some (.ref f)) (m_len : mg "len" = none) (m_min : mg "min" = none) (m_max : mg "max" = none) (m_range : mg "range" = none) (c__law_box : Cal P w K mg base 1 "_law_box" ["great"] sp__law_box) (c__law_cell : Cal P w K mg base 1 "_law_cell" ["script", "k"] sp__law_cell) (c__law_cell_right : Cal P w K mg base 9 "_law_cell_right" ["box"] sp__law_cell_right) :
    CalF P w K mg base 10 "law" ["script"] sp_law f fd :=
  .mk2 Fn hm sc_law len_law (by decide) (fun cdv A outer s H E hr => (ss_cons (s_forR1 m_range (d_max m_max d_int (d_min m_min d_int (d_len m_len (d_var 0)))) (g_nm 1) (ss_one (s_if (t_not (t_val (d_callT c__law_cell_right (o_callC c__law_box (c_v (d_callC c__law_cell (c_v (d_var 0) (c_v (d_var 1) c_nil))) c_nil))))) (ss_one (s_ret d_bl)) ss_nil)))
    (ss_one (s_ret d_bl)))) kp_law
end
theorem all_mk {l : PySem.W.OpenLaw} {w : World} {K : PySem.W.Frag} {h : Heap} {mg : Str → Option Value} {fa f1 f2 f3 f4 f5 f6 f7 f8 f9 f10 f11 f12 f13 f14 f15 f16 f17 f18 f19 f20 f21 f22 f23 f24 f25 f26 f27 f28 f29 f30 f31 f32 f33 f34 f35 : Addr} (X : K.In h) (G : h.Ns mainGlobals mg) (hfa : mg "law" = some (.ref fa))
    {od1 an1 od2 an2 od3 an3 od4 an4 od5 an5 od6 an6 od7 an7 od8 an8 od9 an9 od10 an10 od11 an11 od12 an12 od13 an13 od14 an14 od15 an15 od16 an16 od17 an17 od18 an18 od19 an19 od20 an20 od21 an21 od22 an22 od23 an23 od24 an24 od25 an25 od26 an26 od27 an27 od28 an28 od29 an29 od30 an30 od31 an31 od32 an32 od33 an33 od34 an34 od35 an35 : Option Addr} {sl1 sl2 sl3 sl4 sl5 sl6 sl7 sl8 sl9 sl10 sl11 sl12 sl13 sl14 sl15 sl16 sl17 sl18 sl19 sl20 sl21 sl22 sl23 sl24 sl25 sl26 sl27 sl28 sl29 sl30 sl31 sl32 sl33 sl34 sl35 : Array (Option Value)} {oc1 kV1 dc1 pm1 cd1 ct1 oc2 kV2 dc2 pm2 cd2 ct2 oc3 kV3 dc3 pm3 cd3 ct3 oc4 kV4 dc4 pm4 cd4 ct4 oc5 kV5 dc5 pm5 cd5 ct5 oc6 kV6 dc6 pm6 cd6 ct6 oc7 kV7 dc7 pm7 cd7 ct7 oc8 kV8 dc8 pm8 cd8 ct8 oc9 kV9 dc9 pm9 cd9 ct9 oc10 kV10 dc10 pm10 cd10 ct10 oc11 kV11 dc11 pm11 cd11 ct11 oc12 kV12 dc12 pm12 cd12 ct12 oc13 kV13 dc13 pm13 cd13 ct13 oc14 kV14 dc14 pm14 cd14 ct14 oc15 kV15 dc15 pm15 cd15 ct15 oc16 kV16 dc16 pm16 cd16 ct16 oc17 kV17 dc17 pm17 cd17 ct17 oc18 kV18 dc18 pm18 cd18 ct18 oc19 kV19 dc19 pm19 cd19 ct19 oc20 kV20 dc20 pm20 cd20 ct20 oc21 kV21 dc21 pm21 cd21 ct21 oc22 kV22 dc22 pm22 cd22 ct22 oc23 kV23 dc23 pm23 cd23 ct23 oc24 kV24 dc24 pm24 cd24 ct24 oc25 kV25 dc25 pm25 cd25 ct25 oc26 kV26 dc26 pm26 cd26 ct26 oc27 kV27 dc27 pm27 cd27 ct27 oc28 kV28 dc28 pm28 cd28 ct28 oc29 kV29 dc29 pm29 cd29 ct29 oc30 kV30 dc30 pm30 cd30 ct30 oc31 kV31 dc31 pm31 cd31 ct31 oc32 kV32 dc32 pm32 cd32 ct32 oc33 kV33 dc33 pm33 cd33 ct33 oc34 kV34 dc34 pm34 cd34 ct34 oc35 kV35 dc35 pm35 cd35 ct35 : Value}
    (a1 : PySem.W.nsIn K mainGlobals "_law_copy" = some (some (.ref f1)))
    (l1 : K.lookup f1 = some ⟨oc1, od1, .func (PySem.W.fnOf "_law_copy" "_law_copy" (defArgs s__law_copy) (defBody s__law_copy) (defScope s__law_copy) .none kV1 dc1 pm1 an1 cd1 ct1), sl1⟩) (c1 : PySem.W.codeIn K cd1 "_law_copy" = true) (k1 : PySem.W.keepIn K (.ref f1) = true)
    (a2 : PySem.W.nsIn K mainGlobals "is_number" = some (some (.ref f2)))
    (l2 : K.lookup f2 = some ⟨oc2, od2, .func (PySem.W.fnOf "is_number" "is_number" (defArgs s_is_number) (defBody s_is_number) (defScope s_is_number) .none kV2 dc2 pm2 an2 cd2 ct2), sl2⟩) (c2 : PySem.W.codeIn K cd2 "is_number" = true) (k2 : PySem.W.keepIn K (.ref f2) = true)
    (a3 : PySem.W.nsIn K mainGlobals "is_word" = some (some (.ref f3)))
    (l3 : K.lookup f3 = some ⟨oc3, od3, .func (PySem.W.fnOf "is_word" "is_word" (defArgs s_is_word) (defBody s_is_word) (defScope s_is_word) .none kV3 dc3 pm3 an3 cd3 ct3), sl3⟩) (c3 : PySem.W.codeIn K cd3 "is_word" = true) (k3 : PySem.W.keepIn K (.ref f3) = true)
    (a4 : PySem.W.nsIn K mainGlobals "need_word" = some (some (.ref f4)))
    (l4 : K.lookup f4 = some ⟨oc4, od4, .func (PySem.W.fnOf "need_word" "need_word" (defArgs s_need_word) (defBody s_need_word) (defScope s_need_word) .none kV4 dc4 pm4 an4 cd4 ct4), sl4⟩) (c4 : PySem.W.codeIn K cd4 "need_word" = true) (k4 : PySem.W.keepIn K (.ref f4) = true)
    (a5 : PySem.W.nsIn K mainGlobals "limits" = some (some (.ref f5)))
    (l5 : K.lookup f5 = some ⟨oc5, od5, .func (PySem.W.fnOf "limits" "limits" (defArgs s_limits) (defBody s_limits) (defScope s_limits) .none kV5 dc5 pm5 an5 cd5 ct5), sl5⟩) (c5 : PySem.W.codeIn K cd5 "limits" = true) (k5 : PySem.W.keepIn K (.ref f5) = true)
    (a6 : PySem.W.nsIn K mainGlobals "common" = some (some (.ref f6)))
    (l6 : K.lookup f6 = some ⟨oc6, od6, .func (PySem.W.fnOf "common" "common" (defArgs s_common) (defBody s_common) (defScope s_common) .none kV6 dc6 pm6 an6 cd6 ct6), sl6⟩) (c6 : PySem.W.codeIn K cd6 "common" = true) (k6 : PySem.W.keepIn K (.ref f6) = true)
    (a7 : PySem.W.nsIn K mainGlobals "made" = some (some (.ref f7)))
    (l7 : K.lookup f7 = some ⟨oc7, od7, .func (PySem.W.fnOf "made" "made" (defArgs s_made) (defBody s_made) (defScope s_made) .none kV7 dc7 pm7 an7 cd7 ct7), sl7⟩) (c7 : PySem.W.codeIn K cd7 "made" = true) (k7 : PySem.W.keepIn K (.ref f7) = true)
    (a8 : PySem.W.nsIn K mainGlobals "slopes_of" = some (some (.ref f8)))
    (l8 : K.lookup f8 = some ⟨oc8, od8, .func (PySem.W.fnOf "slopes_of" "slopes_of" (defArgs s_slopes_of) (defBody s_slopes_of) (defScope s_slopes_of) .none kV8 dc8 pm8 an8 cd8 ct8), sl8⟩) (c8 : PySem.W.codeIn K cd8 "slopes_of" = true) (k8 : PySem.W.keepIn K (.ref f8) = true)
    (a9 : PySem.W.nsIn K mainGlobals "slopes" = some (some (.ref f9)))
    (l9 : K.lookup f9 = some ⟨oc9, od9, .func (PySem.W.fnOf "slopes" "slopes" (defArgs s_slopes) (defBody s_slopes) (defScope s_slopes) .none kV9 dc9 pm9 an9 cd9 ct9), sl9⟩) (c9 : PySem.W.codeIn K cd9 "slopes" = true) (k9 : PySem.W.keepIn K (.ref f9) = true)
    (a10 : PySem.W.nsIn K mainGlobals "is_fraction" = some (some (.ref f10)))
    (l10 : K.lookup f10 = some ⟨oc10, od10, .func (PySem.W.fnOf "is_fraction" "is_fraction" (defArgs s_is_fraction) (defBody s_is_fraction) (defScope s_is_fraction) .none kV10 dc10 pm10 an10 cd10 ct10), sl10⟩) (c10 : PySem.W.codeIn K cd10 "is_fraction" = true) (k10 : PySem.W.keepIn K (.ref f10) = true)
    (a11 : PySem.W.nsIn K mainGlobals "need_part" = some (some (.ref f11)))
    (l11 : K.lookup f11 = some ⟨oc11, od11, .func (PySem.W.fnOf "need_part" "need_part" (defArgs s_need_part) (defBody s_need_part) (defScope s_need_part) .none kV11 dc11 pm11 an11 cd11 ct11), sl11⟩) (c11 : PySem.W.codeIn K cd11 "need_part" = true) (k11 : PySem.W.keepIn K (.ref f11) = true)
    (a12 : PySem.W.nsIn K mainGlobals "need_short" = some (some (.ref f12)))
    (l12 : K.lookup f12 = some ⟨oc12, od12, .func (PySem.W.fnOf "need_short" "need_short" (defArgs s_need_short) (defBody s_need_short) (defScope s_need_short) .none kV12 dc12 pm12 an12 cd12 ct12), sl12⟩) (c12 : PySem.W.codeIn K cd12 "need_short" = true) (k12 : PySem.W.keepIn K (.ref f12) = true)
    (a13 : PySem.W.nsIn K mainGlobals "spread_of" = some (some (.ref f13)))
    (l13 : K.lookup f13 = some ⟨oc13, od13, .func (PySem.W.fnOf "spread_of" "spread_of" (defArgs s_spread_of) (defBody s_spread_of) (defScope s_spread_of) .none kV13 dc13 pm13 an13 cd13 ct13), sl13⟩) (c13 : PySem.W.codeIn K cd13 "spread_of" = true) (k13 : PySem.W.keepIn K (.ref f13) = true)
    (a14 : PySem.W.nsIn K mainGlobals "even_word" = some (some (.ref f14)))
    (l14 : K.lookup f14 = some ⟨oc14, od14, .func (PySem.W.fnOf "even_word" "even_word" (defArgs s_even_word) (defBody s_even_word) (defScope s_even_word) .none kV14 dc14 pm14 an14 cd14 ct14), sl14⟩) (c14 : PySem.W.codeIn K cd14 "even_word" = true) (k14 : PySem.W.keepIn K (.ref f14) = true)
    (a15 : PySem.W.nsIn K mainGlobals "is_whole" = some (some (.ref f15)))
    (l15 : K.lookup f15 = some ⟨oc15, od15, .func (PySem.W.fnOf "is_whole" "is_whole" (defArgs s_is_whole) (defBody s_is_whole) (defScope s_is_whole) .none kV15 dc15 pm15 an15 cd15 ct15), sl15⟩) (c15 : PySem.W.codeIn K cd15 "is_whole" = true) (k15 : PySem.W.keepIn K (.ref f15) = true)
    (a16 : PySem.W.nsIn K mainGlobals "spread" = some (some (.ref f16)))
    (l16 : K.lookup f16 = some ⟨oc16, od16, .func (PySem.W.fnOf "spread" "spread" (defArgs s_spread) (defBody s_spread) (defScope s_spread) .none kV16 dc16 pm16 an16 cd16 ct16), sl16⟩) (c16 : PySem.W.codeIn K cd16 "spread" = true) (k16 : PySem.W.keepIn K (.ref f16) = true)
    (a17 : PySem.W.nsIn K mainGlobals "is_balanced" = some (some (.ref f17)))
    (l17 : K.lookup f17 = some ⟨oc17, od17, .func (PySem.W.fnOf "is_balanced" "is_balanced" (defArgs s_is_balanced) (defBody s_is_balanced) (defScope s_is_balanced) .none kV17 dc17 pm17 an17 cd17 ct17), sl17⟩) (c17 : PySem.W.codeIn K cd17 "is_balanced" = true) (k17 : PySem.W.keepIn K (.ref f17) = true)
    (a18 : PySem.W.nsIn K mainGlobals "_law_called" = some (some (.ref f18)))
    (l18 : K.lookup f18 = some ⟨oc18, od18, .func (PySem.W.fnOf "_law_called" "_law_called" (defArgs s__law_called) (defBody s__law_called) (defScope s__law_called) .none kV18 dc18 pm18 an18 cd18 ct18), sl18⟩) (c18 : PySem.W.codeIn K cd18 "_law_called" = true) (k18 : PySem.W.keepIn K (.ref f18) = true)
    (a19 : PySem.W.nsIn K mainGlobals "_law_told" = some (some (.ref f19)))
    (l19 : K.lookup f19 = some ⟨oc19, od19, .func (PySem.W.fnOf "_law_told" "_law_told" (defArgs s__law_told) (defBody s__law_told) (defScope s__law_told) .none kV19 dc19 pm19 an19 cd19 ct19), sl19⟩) (c19 : PySem.W.codeIn K cd19 "_law_told" = true) (k19 : PySem.W.keepIn K (.ref f19) = true)
    (a20 : PySem.W.nsIn K mainGlobals "_law_take" = some (some (.ref f20)))
    (l20 : K.lookup f20 = some ⟨oc20, od20, .func (PySem.W.fnOf "_law_take" "_law_take" (defArgs s__law_take) (defBody s__law_take) (defScope s__law_take) .none kV20 dc20 pm20 an20 cd20 ct20), sl20⟩) (c20 : PySem.W.codeIn K cd20 "_law_take" = true) (k20 : PySem.W.keepIn K (.ref f20) = true)
    (a21 : PySem.W.nsIn K mainGlobals "_law_low" = some (some (.ref f21)))
    (l21 : K.lookup f21 = some ⟨oc21, od21, .func (PySem.W.fnOf "_law_low" "_law_low" (defArgs s__law_low) (defBody s__law_low) (defScope s__law_low) .none kV21 dc21 pm21 an21 cd21 ct21), sl21⟩) (c21 : PySem.W.codeIn K cd21 "_law_low" = true) (k21 : PySem.W.keepIn K (.ref f21) = true)
    (a22 : PySem.W.nsIn K mainGlobals "_law_even" = some (some (.ref f22)))
    (l22 : K.lookup f22 = some ⟨oc22, od22, .func (PySem.W.fnOf "_law_even" "_law_even" (defArgs s__law_even) (defBody s__law_even) (defScope s__law_even) .none kV22 dc22 pm22 an22 cd22 ct22), sl22⟩) (c22 : PySem.W.codeIn K cd22 "_law_even" = true) (k22 : PySem.W.keepIn K (.ref f22) = true)
    (a23 : PySem.W.nsIn K mainGlobals "_law_drawn_word" = some (some (.ref f23)))
    (l23 : K.lookup f23 = some ⟨oc23, od23, .func (PySem.W.fnOf "_law_drawn_word" "_law_drawn_word" (defArgs s__law_drawn_word) (defBody s__law_drawn_word) (defScope s__law_drawn_word) .none kV23 dc23 pm23 an23 cd23 ct23), sl23⟩) (c23 : PySem.W.codeIn K cd23 "_law_drawn_word" = true) (k23 : PySem.W.keepIn K (.ref f23) = true)
    (a24 : PySem.W.nsIn K mainGlobals "_law_mixed" = some (some (.ref f24)))
    (l24 : K.lookup f24 = some ⟨oc24, od24, .func (PySem.W.fnOf "_law_mixed" "_law_mixed" (defArgs s__law_mixed) (defBody s__law_mixed) (defScope s__law_mixed) .none kV24 dc24 pm24 an24 cd24 ct24), sl24⟩) (c24 : PySem.W.codeIn K cd24 "_law_mixed" = true) (k24 : PySem.W.keepIn K (.ref f24) = true)
    (a25 : PySem.W.nsIn K mainGlobals "_law_same" = some (some (.ref f25)))
    (l25 : K.lookup f25 = some ⟨oc25, od25, .func (PySem.W.fnOf "_law_same" "_law_same" (defArgs s__law_same) (defBody s__law_same) (defScope s__law_same) .none kV25 dc25 pm25 an25 cd25 ct25), sl25⟩) (c25 : PySem.W.codeIn K cd25 "_law_same" = true) (k25 : PySem.W.keepIn K (.ref f25) = true)
    (a26 : PySem.W.nsIn K mainGlobals "_law_balanced" = some (some (.ref f26)))
    (l26 : K.lookup f26 = some ⟨oc26, od26, .func (PySem.W.fnOf "_law_balanced" "_law_balanced" (defArgs s__law_balanced) (defBody s__law_balanced) (defScope s__law_balanced) .none kV26 dc26 pm26 an26 cd26 ct26), sl26⟩) (c26 : PySem.W.codeIn K cd26 "_law_balanced" = true) (k26 : PySem.W.keepIn K (.ref f26) = true)
    (a27 : PySem.W.nsIn K mainGlobals "_law_grown" = some (some (.ref f27)))
    (l27 : K.lookup f27 = some ⟨oc27, od27, .func (PySem.W.fnOf "_law_grown" "_law_grown" (defArgs s__law_grown) (defBody s__law_grown) (defScope s__law_grown) .none kV27 dc27 pm27 an27 cd27 ct27), sl27⟩) (c27 : PySem.W.codeIn K cd27 "_law_grown" = true) (k27 : PySem.W.keepIn K (.ref f27) = true)
    (a28 : PySem.W.nsIn K mainGlobals "_law_told_same" = some (some (.ref f28)))
    (l28 : K.lookup f28 = some ⟨oc28, od28, .func (PySem.W.fnOf "_law_told_same" "_law_told_same" (defArgs s__law_told_same) (defBody s__law_told_same) (defScope s__law_told_same) .none kV28 dc28 pm28 an28 cd28 ct28), sl28⟩) (c28 : PySem.W.codeIn K cd28 "_law_told_same" = true) (k28 : PySem.W.keepIn K (.ref f28) = true)
    (a29 : PySem.W.nsIn K mainGlobals "_law_no_words" = some (some (.ref f29)))
    (l29 : K.lookup f29 = some ⟨oc29, od29, .func (PySem.W.fnOf "_law_no_words" "_law_no_words" (defArgs s__law_no_words) (defBody s__law_no_words) (defScope s__law_no_words) .none kV29 dc29 pm29 an29 cd29 ct29), sl29⟩) (c29 : PySem.W.codeIn K cd29 "_law_no_words" = true) (k29 : PySem.W.keepIn K (.ref f29) = true)
    (a30 : PySem.W.nsIn K mainGlobals "_law_refused" = some (some (.ref f30)))
    (l30 : K.lookup f30 = some ⟨oc30, od30, .func (PySem.W.fnOf "_law_refused" "_law_refused" (defArgs s__law_refused) (defBody s__law_refused) (defScope s__law_refused) .none kV30 dc30 pm30 an30 cd30 ct30), sl30⟩) (c30 : PySem.W.codeIn K cd30 "_law_refused" = true) (k30 : PySem.W.keepIn K (.ref f30) = true)
    (a31 : PySem.W.nsIn K mainGlobals "_law_no_fractions" = some (some (.ref f31)))
    (l31 : K.lookup f31 = some ⟨oc31, od31, .func (PySem.W.fnOf "_law_no_fractions" "_law_no_fractions" (defArgs s__law_no_fractions) (defBody s__law_no_fractions) (defScope s__law_no_fractions) .none kV31 dc31 pm31 an31 cd31 ct31), sl31⟩) (c31 : PySem.W.codeIn K cd31 "_law_no_fractions" = true) (k31 : PySem.W.keepIn K (.ref f31) = true)
    (a32 : PySem.W.nsIn K mainGlobals "_law_cell_right" = some (some (.ref f32)))
    (l32 : K.lookup f32 = some ⟨oc32, od32, .func (PySem.W.fnOf "_law_cell_right" "_law_cell_right" (defArgs s__law_cell_right) (defBody s__law_cell_right) (defScope s__law_cell_right) .none kV32 dc32 pm32 an32 cd32 ct32), sl32⟩) (c32 : PySem.W.codeIn K cd32 "_law_cell_right" = true) (k32 : PySem.W.keepIn K (.ref f32) = true)
    (a33 : PySem.W.nsIn K mainGlobals "_law_box" = some (some (.ref f33)))
    (l33 : K.lookup f33 = some ⟨oc33, od33, .func (PySem.W.fnOf "_law_box" "_law_box" (defArgs s__law_box) (defBody s__law_box) (defScope s__law_box) .none kV33 dc33 pm33 an33 cd33 ct33), sl33⟩) (c33 : PySem.W.codeIn K cd33 "_law_box" = true) (k33 : PySem.W.keepIn K (.ref f33) = true)
    (a34 : PySem.W.nsIn K mainGlobals "_law_cell" = some (some (.ref f34)))
    (l34 : K.lookup f34 = some ⟨oc34, od34, .func (PySem.W.fnOf "_law_cell" "_law_cell" (defArgs s__law_cell) (defBody s__law_cell) (defScope s__law_cell) .none kV34 dc34 pm34 an34 cd34 ct34), sl34⟩) (c34 : PySem.W.codeIn K cd34 "_law_cell" = true) (k34 : PySem.W.keepIn K (.ref f34) = true)
    (a35 : PySem.W.nsIn K mainGlobals "law" = some (some (.ref f35)))
    (l35 : K.lookup f35 = some ⟨oc35, od35, .func (PySem.W.fnOf "law" "law" (defArgs s_law) (defBody s_law) (defScope s_law) .none kV35 dc35 pm35 an35 cd35 ct35), sl35⟩) (c35 : PySem.W.codeIn K cd35 "law" = true) (k35 : PySem.W.keepIn K (.ref f35) = true)
    {B_TermError : Addr} (b2_TermError : PySem.W.nsIn K mainGlobals "TermError" = some (some (.ref B_TermError))) (b6_TermError : PySem.W.specialIn K (.ref B_TermError) "__getattribute__" = some (some (.builtin "type.__getattribute__"))) (b7_TermError : PySem.W.readsIn K B_TermError (.type "type") = true) (b8_TermError : PySem.W.findCls K (.ref B_TermError) (.type "type") "__init__" = some (.val (.builtin "ValueError.__init__"))) (c9_TermError : PySem.W.hasDictIn K B_TermError = true) (d1_TermError : PySem.W.typeIn K (.ref B_TermError) = some (.type "type"))
    {E_NoWord I_NoWord : Addr} {nm_NoWord q_NoWord : Str} {N_NoWord : Addr} {bs_NoWord bm_NoWord : List Value} {sn_NoWord sub_NoWord ab_NoWord col_NoWord dd_NoWord k0_NoWord k1_NoWord k2_NoWord k3_NoWord k5_NoWord : _} {odi_NoWord ani_NoWord : Option Addr} {sli_NoWord : Array (Option Value)} {oci_NoWord kVi_NoWord dci_NoWord pmi_NoWord cdi_NoWord cti_NoWord : Value}
    (a1_NoWord : PySem.W.nsIn K mainGlobals "NoWord" = some (some (.ref E_NoWord))) (a3_NoWord : K.lookup E_NoWord = some (excClassObj nm_NoWord q_NoWord E_NoWord N_NoWord bs_NoWord bm_NoWord true sn_NoWord sub_NoWord ab_NoWord col_NoWord dd_NoWord k0_NoWord k1_NoWord k2_NoWord k3_NoWord k5_NoWord "ValueError.__new__")) (a4_NoWord : PySem.HandSPX.refsVE bm_NoWord = true)
    (a5_NoWord : PySem.W.findIn K (.ref E_NoWord) "__setattr__" = some (some (.builtin "object.__setattr__"))) (a6_NoWord : PySem.W.subIn K (.ref E_NoWord) (.type "BaseException") = some true) (a7_NoWord : PySem.W.typeIn K (.ref E_NoWord) = some (.type "type")) (a8_NoWord : PySem.W.keepIn K (.ref E_NoWord) = true) (a9_NoWord : PySem.W.findIn K (.ref E_NoWord) "__init__" = some (some (.ref I_NoWord))) (t1_NoWord : PySem.W.typeIn K (.ref I_NoWord) = some (.type "function")) (t2_NoWord : PySem.W.findIn K (.ref E_NoWord) "found" = some none)
    (t3_NoWord : K.lookup I_NoWord = some ⟨oci_NoWord, odi_NoWord, .func (PySem.W.fnOf "__init__" "NoWord.__init__" (defArgs si_NoWord) (defBody si_NoWord) (defScope si_NoWord) .none kVi_NoWord dci_NoWord pmi_NoWord ani_NoWord cdi_NoWord cti_NoWord), sli_NoWord⟩) (t4_NoWord : PySem.W.codeIn K cdi_NoWord "NoWord.__init__" = true) (t5_NoWord : PySem.W.keepIn K (.ref I_NoWord) = true)
    (b9_NoWord : PySem.W.findIn K (.ref E_NoWord) "__getattribute__" = some (some (.builtin "BaseException.__getattribute__"))) (c1_NoWord : PySem.W.findIn K (.ref E_NoWord) "__getattr__" = some none) (c2_NoWord : PySem.W.hasDictIn K E_NoWord = true) (c3_NoWord : PySem.W.findIn K (.ref E_NoWord) "__class__" = some (some (.builtin "object.__class__")))
    (c4_NoWord : PySem.W.specialIn K (.builtin "object.__class__") "__get__" = some (some (.builtin "getset_descriptor.__get__"))) (c5_NoWord : PySem.W.takesIn K (.builtin "object.__class__") = some true) (c6_NoWord : PySem.W.mroIn K E_NoWord (.type "object") = some true) (c7_NoWord : PySem.W.subIn K (.ref E_NoWord) (.ref E_NoWord) = some true) (c8_NoWord : PySem.W.subIn K (.ref E_NoWord) (.ref B_TermError) = some true)
    {E_NoFraction I_NoFraction : Addr} {nm_NoFraction q_NoFraction : Str} {N_NoFraction : Addr} {bs_NoFraction bm_NoFraction : List Value} {sn_NoFraction sub_NoFraction ab_NoFraction col_NoFraction dd_NoFraction k0_NoFraction k1_NoFraction k2_NoFraction k3_NoFraction k5_NoFraction : _} {odi_NoFraction ani_NoFraction : Option Addr} {sli_NoFraction : Array (Option Value)} {oci_NoFraction kVi_NoFraction dci_NoFraction pmi_NoFraction cdi_NoFraction cti_NoFraction : Value}
    (a1_NoFraction : PySem.W.nsIn K mainGlobals "NoFraction" = some (some (.ref E_NoFraction))) (a3_NoFraction : K.lookup E_NoFraction = some (excClassObj nm_NoFraction q_NoFraction E_NoFraction N_NoFraction bs_NoFraction bm_NoFraction true sn_NoFraction sub_NoFraction ab_NoFraction col_NoFraction dd_NoFraction k0_NoFraction k1_NoFraction k2_NoFraction k3_NoFraction k5_NoFraction "ValueError.__new__")) (a4_NoFraction : PySem.HandSPX.refsVE bm_NoFraction = true)
    (a5_NoFraction : PySem.W.findIn K (.ref E_NoFraction) "__setattr__" = some (some (.builtin "object.__setattr__"))) (a6_NoFraction : PySem.W.subIn K (.ref E_NoFraction) (.type "BaseException") = some true) (a7_NoFraction : PySem.W.typeIn K (.ref E_NoFraction) = some (.type "type")) (a8_NoFraction : PySem.W.keepIn K (.ref E_NoFraction) = true) (a9_NoFraction : PySem.W.findIn K (.ref E_NoFraction) "__init__" = some (some (.ref I_NoFraction))) (t1_NoFraction : PySem.W.typeIn K (.ref I_NoFraction) = some (.type "function")) (t2_NoFraction : PySem.W.findIn K (.ref E_NoFraction) "found" = some none)
    (t3_NoFraction : K.lookup I_NoFraction = some ⟨oci_NoFraction, odi_NoFraction, .func (PySem.W.fnOf "__init__" "NoFraction.__init__" (defArgs si_NoFraction) (defBody si_NoFraction) (defScope si_NoFraction) .none kVi_NoFraction dci_NoFraction pmi_NoFraction ani_NoFraction cdi_NoFraction cti_NoFraction), sli_NoFraction⟩) (t4_NoFraction : PySem.W.codeIn K cdi_NoFraction "NoFraction.__init__" = true) (t5_NoFraction : PySem.W.keepIn K (.ref I_NoFraction) = true)
    (b9_NoFraction : PySem.W.findIn K (.ref E_NoFraction) "__getattribute__" = some (some (.builtin "BaseException.__getattribute__"))) (c1_NoFraction : PySem.W.findIn K (.ref E_NoFraction) "__getattr__" = some none) (c2_NoFraction : PySem.W.hasDictIn K E_NoFraction = true) (c3_NoFraction : PySem.W.findIn K (.ref E_NoFraction) "__class__" = some (some (.builtin "object.__class__")))
    (c4_NoFraction : PySem.W.specialIn K (.builtin "object.__class__") "__get__" = some (some (.builtin "getset_descriptor.__get__"))) (c5_NoFraction : PySem.W.takesIn K (.builtin "object.__class__") = some true) (c6_NoFraction : PySem.W.mroIn K E_NoFraction (.type "object") = some true) (c7_NoFraction : PySem.W.subIn K (.ref E_NoFraction) (.ref E_NoFraction) = some true) (c8_NoFraction : PySem.W.subIn K (.ref E_NoFraction) (.ref B_TermError) = some true)
    (nx_NoWord_NoFraction : PySem.W.subIn K (.ref E_NoWord) (.ref E_NoFraction) = some false)
    {E_TooMany I_TooMany : Addr} {nm_TooMany q_TooMany : Str} {N_TooMany : Addr} {bs_TooMany bm_TooMany : List Value} {sn_TooMany sub_TooMany ab_TooMany col_TooMany dd_TooMany k0_TooMany k1_TooMany k2_TooMany k3_TooMany k5_TooMany : _} {odi_TooMany ani_TooMany : Option Addr} {sli_TooMany : Array (Option Value)} {oci_TooMany kVi_TooMany dci_TooMany pmi_TooMany cdi_TooMany cti_TooMany : Value}
    (a1_TooMany : PySem.W.nsIn K mainGlobals "TooMany" = some (some (.ref E_TooMany))) (a3_TooMany : K.lookup E_TooMany = some (excClassObj nm_TooMany q_TooMany E_TooMany N_TooMany bs_TooMany bm_TooMany true sn_TooMany sub_TooMany ab_TooMany col_TooMany dd_TooMany k0_TooMany k1_TooMany k2_TooMany k3_TooMany k5_TooMany "ValueError.__new__")) (a4_TooMany : PySem.HandSPX.refsVE bm_TooMany = true)
    (a5_TooMany : PySem.W.findIn K (.ref E_TooMany) "__setattr__" = some (some (.builtin "object.__setattr__"))) (a6_TooMany : PySem.W.subIn K (.ref E_TooMany) (.type "BaseException") = some true) (a7_TooMany : PySem.W.typeIn K (.ref E_TooMany) = some (.type "type")) (a8_TooMany : PySem.W.keepIn K (.ref E_TooMany) = true) (a9_TooMany : PySem.W.findIn K (.ref E_TooMany) "__init__" = some (some (.ref I_TooMany))) (t1_TooMany : PySem.W.typeIn K (.ref I_TooMany) = some (.type "function")) (t2_TooMany : PySem.W.findIn K (.ref E_TooMany) "many" = some none)
    (t3_TooMany : K.lookup I_TooMany = some ⟨oci_TooMany, odi_TooMany, .func (PySem.W.fnOf "__init__" "TooMany.__init__" (defArgs si_TooMany) (defBody si_TooMany) (defScope si_TooMany) .none kVi_TooMany dci_TooMany pmi_TooMany ani_TooMany cdi_TooMany cti_TooMany), sli_TooMany⟩) (t4_TooMany : PySem.W.codeIn K cdi_TooMany "TooMany.__init__" = true) (t5_TooMany : PySem.W.keepIn K (.ref I_TooMany) = true)
    (b9_TooMany : PySem.W.findIn K (.ref E_TooMany) "__getattribute__" = some (some (.builtin "BaseException.__getattribute__"))) (c1_TooMany : PySem.W.findIn K (.ref E_TooMany) "__getattr__" = some none) (c2_TooMany : PySem.W.hasDictIn K E_TooMany = true) (c3_TooMany : PySem.W.findIn K (.ref E_TooMany) "__class__" = some (some (.builtin "object.__class__")))
    (c4_TooMany : PySem.W.specialIn K (.builtin "object.__class__") "__get__" = some (some (.builtin "getset_descriptor.__get__"))) (c5_TooMany : PySem.W.takesIn K (.builtin "object.__class__") = some true) (c6_TooMany : PySem.W.mroIn K E_TooMany (.type "object") = some true) (c7_TooMany : PySem.W.subIn K (.ref E_TooMany) (.ref E_TooMany) = some true) (c8_TooMany : PySem.W.subIn K (.ref E_TooMany) (.ref B_TermError) = some true)
    (nx_TooMany_NoFraction : PySem.W.subIn K (.ref E_TooMany) (.ref E_NoFraction) = some false)
    (nx_TooMany_NoWord : PySem.W.subIn K (.ref E_TooMany) (.ref E_NoWord) = some false)
    {E_NoNumber I_NoNumber : Addr} {nm_NoNumber q_NoNumber : Str} {N_NoNumber : Addr} {bs_NoNumber bm_NoNumber : List Value} {sn_NoNumber sub_NoNumber ab_NoNumber col_NoNumber dd_NoNumber k0_NoNumber k1_NoNumber k2_NoNumber k3_NoNumber k5_NoNumber : _} {odi_NoNumber ani_NoNumber : Option Addr} {sli_NoNumber : Array (Option Value)} {oci_NoNumber kVi_NoNumber dci_NoNumber pmi_NoNumber cdi_NoNumber cti_NoNumber : Value}
    (a1_NoNumber : PySem.W.nsIn K mainGlobals "NoNumber" = some (some (.ref E_NoNumber))) (a3_NoNumber : K.lookup E_NoNumber = some (excClassObj nm_NoNumber q_NoNumber E_NoNumber N_NoNumber bs_NoNumber bm_NoNumber true sn_NoNumber sub_NoNumber ab_NoNumber col_NoNumber dd_NoNumber k0_NoNumber k1_NoNumber k2_NoNumber k3_NoNumber k5_NoNumber "ValueError.__new__")) (a4_NoNumber : PySem.HandSPX.refsVE bm_NoNumber = true)
    (a5_NoNumber : PySem.W.findIn K (.ref E_NoNumber) "__setattr__" = some (some (.builtin "object.__setattr__"))) (a6_NoNumber : PySem.W.subIn K (.ref E_NoNumber) (.type "BaseException") = some true) (a7_NoNumber : PySem.W.typeIn K (.ref E_NoNumber) = some (.type "type")) (a8_NoNumber : PySem.W.keepIn K (.ref E_NoNumber) = true) (a9_NoNumber : PySem.W.findIn K (.ref E_NoNumber) "__init__" = some (some (.ref I_NoNumber))) (t1_NoNumber : PySem.W.typeIn K (.ref I_NoNumber) = some (.type "function")) (t2_NoNumber : PySem.W.findIn K (.ref E_NoNumber) "found" = some none)
    (t3_NoNumber : K.lookup I_NoNumber = some ⟨oci_NoNumber, odi_NoNumber, .func (PySem.W.fnOf "__init__" "NoNumber.__init__" (defArgs si_NoNumber) (defBody si_NoNumber) (defScope si_NoNumber) .none kVi_NoNumber dci_NoNumber pmi_NoNumber ani_NoNumber cdi_NoNumber cti_NoNumber), sli_NoNumber⟩) (t4_NoNumber : PySem.W.codeIn K cdi_NoNumber "NoNumber.__init__" = true) (t5_NoNumber : PySem.W.keepIn K (.ref I_NoNumber) = true)
    (b9_NoNumber : PySem.W.findIn K (.ref E_NoNumber) "__getattribute__" = some (some (.builtin "BaseException.__getattribute__"))) (c1_NoNumber : PySem.W.findIn K (.ref E_NoNumber) "__getattr__" = some none) (c2_NoNumber : PySem.W.hasDictIn K E_NoNumber = true) (c3_NoNumber : PySem.W.findIn K (.ref E_NoNumber) "__class__" = some (some (.builtin "object.__class__")))
    (c4_NoNumber : PySem.W.specialIn K (.builtin "object.__class__") "__get__" = some (some (.builtin "getset_descriptor.__get__"))) (c5_NoNumber : PySem.W.takesIn K (.builtin "object.__class__") = some true) (c6_NoNumber : PySem.W.mroIn K E_NoNumber (.type "object") = some true) (c7_NoNumber : PySem.W.subIn K (.ref E_NoNumber) (.ref E_NoNumber) = some true) (c8_NoNumber : PySem.W.subIn K (.ref E_NoNumber) (.ref B_TermError) = some true)
    (nx_NoNumber_NoFraction : PySem.W.subIn K (.ref E_NoNumber) (.ref E_NoFraction) = some false)
    (nx_NoWord_NoNumber : PySem.W.subIn K (.ref E_NoWord) (.ref E_NoNumber) = some false)
    (nx_TooMany_NoNumber : PySem.W.subIn K (.ref E_TooMany) (.ref E_NoNumber) = some false)
    (z_isinstance : PySem.W.nsIn K mainGlobals "isinstance" = some none) (z_list : PySem.W.nsIn K mainGlobals "list" = some none) (z_tuple : PySem.W.nsIn K mainGlobals "tuple" = some none) (z_dict : PySem.W.nsIn K mainGlobals "dict" = some none) (z_int : PySem.W.nsIn K mainGlobals "int" = some none) (z_bool : PySem.W.nsIn K mainGlobals "bool" = some none) (z_len : PySem.W.nsIn K mainGlobals "len" = some none) (z_all : PySem.W.nsIn K mainGlobals "all" = some none) (z_range : PySem.W.nsIn K mainGlobals "range" = some none) (z_abs : PySem.W.nsIn K mainGlobals "abs" = some none) (z_repr : PySem.W.nsIn K mainGlobals "repr" = some none) (z_str : PySem.W.nsIn K mainGlobals "str" = some none) (z_max : PySem.W.nsIn K mainGlobals "max" = some none) (z_min : PySem.W.nsIn K mainGlobals "min" = some none) (z_sum : PySem.W.nsIn K mainGlobals "sum" = some none) {t_MOST_LETTERS : Tok} (y_MOST_LETTERS : PySem.W.nsIn K mainGlobals "MOST_LETTERS" = some (some (.int 100 t_MOST_LETTERS))) :
    ∃ fd : FuncData, (∀ (s : Shared) (v : Value), BindsTo s fd ⟨[v], []⟩ [("script", v)]) ∧ ∀ base : Heap, K.In base → base.Ns mainGlobals mg → FnG l.prog w K mg base CX0 10 fa fd ["script"] (spOf K sp_law) := by
  have e := hfa.symm.trans (PySem.W.mg_of X G a35)
  cases e
  have m_isinstance := PySem.W.mg_none_of X G z_isinstance
  have m_list := PySem.W.mg_none_of X G z_list
  have m_tuple := PySem.W.mg_none_of X G z_tuple
  have m_dict := PySem.W.mg_none_of X G z_dict
  have m_int := PySem.W.mg_none_of X G z_int
  have m_bool := PySem.W.mg_none_of X G z_bool
  have m_len := PySem.W.mg_none_of X G z_len
  have m_all := PySem.W.mg_none_of X G z_all
  have m_range := PySem.W.mg_none_of X G z_range
  have m_abs := PySem.W.mg_none_of X G z_abs
  have m_repr := PySem.W.mg_none_of X G z_repr
  have m_str := PySem.W.mg_none_of X G z_str
  have m_max := PySem.W.mg_none_of X G z_max
  have m_min := PySem.W.mg_none_of X G z_min
  have m_sum := PySem.W.mg_none_of X G z_sum
  refine ⟨PySem.W.fnOf "law" "law" (defArgs s_law) (defBody s_law) (defScope s_law) .none kV35 dc35 pm35 an35 cd35 ct35, fun s v => .of_eq rfl, fun base _ _ => ?_⟩
  have g_MOST_LETTERS : ∃ t, mg "MOST_LETTERS" = some (.int 100 t) := ⟨_, PySem.W.mg_of X G y_MOST_LETTERS⟩
  have Fi_NoWord := fun_mk (st := si_NoWord) t3_NoWord t4_NoWord t5_NoWord
  have ox_NoWord : OexC K E_NoWord := ⟨⟨_, _, _, _, _, _, _, _, _, _, _, _, _, _, _, a3_NoWord, a4_NoWord⟩, a5_NoWord, a6_NoWord, a7_NoWord, a8_NoWord⟩
  have xc_NoWord : XCls l.prog w K mg base "NoWord" "found" := ⟨E_NoWord, I_NoWord, _, "self", a1_NoWord, PySem.W.mg_of X G a1_NoWord, ox_NoWord, a9_NoWord, t1_NoWord, xi_ok Fi_NoWord sci_NoWord (fun cdv A outer s H E => ini_NoWord (PySem.W.mg_of X G b2_TermError) b6_TermError b7_TermError b8_TermError cdv A outer s H E), Fi_NoWord.binds (ps := ["self", "found"]) (fun _ _ _ _ _ _ us hl => match us, hl with | [_, _], _ => rfl), t2_NoWord⟩
  have Fi_NoFraction := fun_mk (st := si_NoFraction) t3_NoFraction t4_NoFraction t5_NoFraction
  have ox_NoFraction : OexC K E_NoFraction := ⟨⟨_, _, _, _, _, _, _, _, _, _, _, _, _, _, _, a3_NoFraction, a4_NoFraction⟩, a5_NoFraction, a6_NoFraction, a7_NoFraction, a8_NoFraction⟩
  have xc_NoFraction : XCls l.prog w K mg base "NoFraction" "found" := ⟨E_NoFraction, I_NoFraction, _, "self", a1_NoFraction, PySem.W.mg_of X G a1_NoFraction, ox_NoFraction, a9_NoFraction, t1_NoFraction, xi_ok Fi_NoFraction sci_NoFraction (fun cdv A outer s H E => ini_NoFraction (PySem.W.mg_of X G b2_TermError) b6_TermError b7_TermError b8_TermError cdv A outer s H E), Fi_NoFraction.binds (ps := ["self", "found"]) (fun _ _ _ _ _ _ us hl => match us, hl with | [_, _], _ => rfl), t2_NoFraction⟩
  have Fi_TooMany := fun_mk (st := si_TooMany) t3_TooMany t4_TooMany t5_TooMany
  have ox_TooMany : OexC K E_TooMany := ⟨⟨_, _, _, _, _, _, _, _, _, _, _, _, _, _, _, a3_TooMany, a4_TooMany⟩, a5_TooMany, a6_TooMany, a7_TooMany, a8_TooMany⟩
  have xc_TooMany : XCls l.prog w K mg base "TooMany" "many" := ⟨E_TooMany, I_TooMany, _, "self", a1_TooMany, PySem.W.mg_of X G a1_TooMany, ox_TooMany, a9_TooMany, t1_TooMany, xi_ok Fi_TooMany sci_TooMany (fun cdv A outer s H E => ini_TooMany (PySem.W.mg_of X G b2_TermError) b6_TermError b7_TermError b8_TermError cdv A outer s H E), Fi_TooMany.binds (ps := ["self", "many"]) (fun _ _ _ _ _ _ us hl => match us, hl with | [_, _], _ => rfl), t2_TooMany⟩
  have Fi_NoNumber := fun_mk (st := si_NoNumber) t3_NoNumber t4_NoNumber t5_NoNumber
  have ox_NoNumber : OexC K E_NoNumber := ⟨⟨_, _, _, _, _, _, _, _, _, _, _, _, _, _, _, a3_NoNumber, a4_NoNumber⟩, a5_NoNumber, a6_NoNumber, a7_NoNumber, a8_NoNumber⟩
  have xc_NoNumber : XCls l.prog w K mg base "NoNumber" "found" := ⟨E_NoNumber, I_NoNumber, _, "self", a1_NoNumber, PySem.W.mg_of X G a1_NoNumber, ox_NoNumber, a9_NoNumber, t1_NoNumber, xi_ok Fi_NoNumber sci_NoNumber (fun cdv A outer s H E => ini_NoNumber (PySem.W.mg_of X G b2_TermError) b6_TermError b7_TermError b8_TermError cdv A outer s H E), Fi_NoNumber.binds (ps := ["self", "found"]) (fun _ _ _ _ _ _ us hl => match us, hl with | [_, _], _ => rfl), t2_NoNumber⟩
  have F__law_copy := fun_mk (st := s__law_copy) l1 c1 k1
  have h__law_copy := tt_copy (P := l.prog) (w := w) (base := base) F__law_copy (PySem.W.mg_of X G a1) (F__law_copy.binds (ps := ["value"]) fun _ _ _ _ _ _ us hl => match us, hl with | [_], _ => rfl) m_isinstance m_list m_tuple m_dict 4
  have F_is_number := fun_mk (st := s_is_number) l2 c2 k2
  have o_is_number := ok_is_number (P := l.prog) (w := w) (base := base) F_is_number (PySem.W.mg_of X G a2) m_isinstance m_int m_bool
  have c_is_number := o_is_number.cal (F_is_number.binds (ps := ["thing"]) fun _ _ _ _ _ _ us hl => match us, hl with | [_], _ => rfl)
  have F_is_word := fun_mk (st := s_is_word) l3 c3 k3
  have o_is_word := ok_is_word (P := l.prog) (w := w) (base := base) F_is_word (PySem.W.mg_of X G a3) m_tuple m_list m_isinstance m_len m_all c_is_number g_MOST_LETTERS
  have c_is_word := o_is_word.cal (F_is_word.binds (ps := ["thing"]) fun _ _ _ _ _ _ us hl => match us, hl with | [_], _ => rfl)
  have F_need_word := fun_mk (st := s_need_word) l4 c4 k4
  have o_need_word := ok_need_word (P := l.prog) (w := w) (base := base) (.of F_need_word) (PySem.W.mg_of X G a4) c_is_word xc_NoWord
  have x_need_word := o_need_word.cal (F_need_word.binds (ps := ["thing"]) fun _ _ _ _ _ _ us hl => match us, hl with | [_], _ => rfl)
  have F_limits := fun_mk (st := s_limits) l5 c5 k5
  have o_limits := ok_limits (P := l.prog) (w := w) (base := base) F_limits (PySem.W.mg_of X G a5) m_len m_range
  have c_limits := o_limits.cal (F_limits.binds (ps := ["word"]) fun _ _ _ _ _ _ us hl => match us, hl with | [_], _ => rfl)
  have F_common := fun_mk (st := s_common) l6 c6 k6
  have o_common := ok_common (P := l.prog) (w := w) (base := base) F_common (PySem.W.mg_of X G a6) m_abs
  have c_common := o_common.cal (F_common.binds (ps := ["one", "other"]) fun _ _ _ _ _ _ us hl => match us, hl with | [_, _], _ => rfl)
  have F_made := fun_mk (st := s_made) l7 c7 k7
  have o_made := ok_made (P := l.prog) (w := w) (base := base) F_made (PySem.W.mg_of X G a7) c_common
  have c_made := o_made.cal (F_made.binds (ps := ["top", "bottom"]) fun _ _ _ _ _ _ us hl => match us, hl with | [_, _], _ => rfl)
  have F_slopes_of := fun_mk (st := s_slopes_of) l8 c8 k8
  have o_slopes_of := ok_slopes_of (P := l.prog) (w := w) (base := base) F_slopes_of (PySem.W.mg_of X G a8) c_limits c_made
  have c_slopes_of := o_slopes_of.cal (F_slopes_of.binds (ps := ["word"]) fun _ _ _ _ _ _ us hl => match us, hl with | [_], _ => rfl)
  have F_slopes := fun_mk (st := s_slopes) l9 c9 k9
  have o_slopes := ok_slopes (P := l.prog) (w := w) (base := base) (.of F_slopes) (PySem.W.mg_of X G a9) c_slopes_of x_need_word
  have x_slopes := o_slopes.cal (F_slopes.binds (ps := ["word"]) fun _ _ _ _ _ _ us hl => match us, hl with | [_], _ => rfl)
  have xcp_slopes_3 : CalPX l.prog w K mg base 4 "slopes" ["word"] sp_slopes 0 ["word"] [] [0] := o_slopes.calP ⟨fun s us ws X h1 h2 => match us, ws, h1, h2 with | [], [_], _, _ => .of_eq rfl⟩ .nil fun _ => rfl
  have F_is_fraction := fun_mk (st := s_is_fraction) l10 c10 k10
  have o_is_fraction := ok_is_fraction (P := l.prog) (w := w) (base := base) F_is_fraction (PySem.W.mg_of X G a10) m_isinstance m_tuple m_len c_is_number c_common
  have c_is_fraction := o_is_fraction.cal (F_is_fraction.binds (ps := ["thing"]) fun _ _ _ _ _ _ us hl => match us, hl with | [_], _ => rfl)
  have F_need_part := fun_mk (st := s_need_part) l11 c11 k11
  have o_need_part := ok_need_part (P := l.prog) (w := w) (base := base) (.of F_need_part) (PySem.W.mg_of X G a11) c_is_fraction xc_NoFraction
  have x_need_part := o_need_part.cal (F_need_part.binds (ps := ["fraction"]) fun _ _ _ _ _ _ us hl => match us, hl with | [_], _ => rfl)
  have F_need_short := fun_mk (st := s_need_short) l12 c12 k12
  have o_need_short := ok_need_short (P := l.prog) (w := w) (base := base) (.of F_need_short) (PySem.W.mg_of X G a12) g_MOST_LETTERS x_need_part xc_TooMany
  have x_need_short := o_need_short.cal (F_need_short.binds (ps := ["fraction"]) fun _ _ _ _ _ _ us hl => match us, hl with | [_], _ => rfl)
  have F_spread_of := fun_mk (st := s_spread_of) l13 c13 k13
  have o_spread_of := ok_spread_of (P := l.prog) (w := w) (base := base) F_spread_of (PySem.W.mg_of X G a13) m_range
  have c_spread_of := o_spread_of.cal (F_spread_of.binds (ps := ["ones", "many", "letters"]) fun _ _ _ _ _ _ us hl => match us, hl with | [_, _, _], _ => rfl)
  have F_even_word := fun_mk (st := s_even_word) l14 c14 k14
  have o_even_word := ok_even_word (P := l.prog) (w := w) (base := base) (.of F_even_word) (PySem.W.mg_of X G a14) c_spread_of x_need_short
  have x_even_word := o_even_word.cal (F_even_word.binds (ps := ["fraction"]) fun _ _ _ _ _ _ us hl => match us, hl with | [_], _ => rfl)
  have xcp_even_word_0 : CalPX l.prog w K mg base 5 "even_word" ["fraction"] sp_even_word 0 ["fraction"] [] [0] := o_even_word.calP ⟨fun s us ws X h1 h2 => match us, ws, h1, h2 with | [], [_], _, _ => .of_eq rfl⟩ .nil fun _ => rfl
  have F_is_whole := fun_mk (st := s_is_whole) l15 c15 k15
  have o_is_whole := ok_is_whole (P := l.prog) (w := w) (base := base) F_is_whole (PySem.W.mg_of X G a15) c_is_number
  have c_is_whole := o_is_whole.cal (F_is_whole.binds (ps := ["thing", "low", "high"]) fun _ _ _ _ _ _ us hl => match us, hl with | [_, _, _], _ => rfl)
  have F_spread := fun_mk (st := s_spread) l16 c16 k16
  have o_spread := ok_spread (P := l.prog) (w := w) (base := base) (.of F_spread) (PySem.W.mg_of X G a16) c_is_whole c_spread_of g_MOST_LETTERS xc_NoNumber
  have x_spread := o_spread.cal (F_spread.binds (ps := ["ones", "many"]) fun _ _ _ _ _ _ us hl => match us, hl with | [_, _], _ => rfl)
  have xcp_spread_1 : CalPX l.prog w K mg base 3 "spread" ["ones", "many"] sp_spread 0 ["many", "ones"] [] [1, 0] := o_spread.calP ⟨fun s us ws X h1 h2 => match us, ws, h1, h2 with | [], [_, _], _, _ => .of_eq rfl⟩ .nil fun _ => rfl
  have F_is_balanced := fun_mk (st := s_is_balanced) l17 c17 k17
  have o_is_balanced := ok_is_balanced (P := l.prog) (w := w) (base := base) (.of F_is_balanced) (PySem.W.mg_of X G a17) c_slopes_of x_need_word
  have x_is_balanced := o_is_balanced.cal (F_is_balanced.binds (ps := ["word"]) fun _ _ _ _ _ _ us hl => match us, hl with | [_], _ => rfl)
  have xcp_is_balanced_2 : CalPX l.prog w K mg base 4 "is_balanced" ["word"] sp_is_balanced 0 ["word"] [] [0] := o_is_balanced.calP ⟨fun s us ws X h1 h2 => match us, ws, h1, h2 with | [], [_], _, _ => .of_eq rfl⟩ .nil fun _ => rfl
  have F__law_called := fun_mk (st := s__law_called) l18 c18 k18
  have o__law_called := ok__law_called (P := l.prog) (w := w) (base := base) (.of F__law_called) (PySem.W.mg_of X G a18) x_even_word x_spread x_is_balanced x_slopes xcp_even_word_0 xcp_spread_1 xcp_is_balanced_2 xcp_slopes_3
  have x__law_called := o__law_called.cal (F__law_called.binds (ps := ["door", "ask", "by_name"]) fun _ _ _ _ _ _ us hl => match us, hl with | [_, _, _], _ => rfl)
  have F__law_told := fun_mk (st := s__law_told) l19 c19 k19
  have no_TooMany : ∀ b ∈ ([⟨"NoFraction", "fraction", E_NoFraction⟩, ⟨"NoNumber", "number", E_NoNumber⟩, ⟨"NoWord", "word", E_NoWord⟩] : List Cla), PySem.W.exmOne K (.ref E_TooMany) (.ref b.C) = some false := by
    intro b hb
    simp only [List.mem_cons, List.not_mem_nil, or_false] at hb
    rcases hb with rfl | rfl | rfl
    · exact PySem.W.exm_ref a6_NoFraction c2_NoFraction a7_NoFraction nx_TooMany_NoFraction
    · exact PySem.W.exm_ref a6_NoNumber c2_NoNumber a7_NoNumber nx_TooMany_NoNumber
    · exact PySem.W.exm_ref a6_NoWord c2_NoWord a7_NoWord nx_TooMany_NoWord
  have no_NoWord : ∀ b ∈ ([⟨"NoFraction", "fraction", E_NoFraction⟩, ⟨"NoNumber", "number", E_NoNumber⟩] : List Cla), PySem.W.exmOne K (.ref E_NoWord) (.ref b.C) = some false := by
    intro b hb
    simp only [List.mem_cons, List.not_mem_nil, or_false] at hb
    rcases hb with rfl | rfl
    · exact PySem.W.exm_ref a6_NoFraction c2_NoFraction a7_NoFraction nx_NoWord_NoFraction
    · exact PySem.W.exm_ref a6_NoNumber c2_NoNumber a7_NoNumber nx_NoWord_NoNumber
  have no_NoNumber : ∀ b ∈ ([⟨"NoFraction", "fraction", E_NoFraction⟩] : List Cla), PySem.W.exmOne K (.ref E_NoNumber) (.ref b.C) = some false := by
    intro b hb
    simp only [List.mem_cons, List.not_mem_nil, or_false] at hb
    subst hb
    · exact PySem.W.exm_ref a6_NoFraction c2_NoFraction a7_NoFraction nx_NoNumber_NoFraction
  have no_NoFraction : ∀ b ∈ ([] : List Cla), PySem.W.exmOne K (.ref E_NoFraction) (.ref b.C) = some false := fun b hb => nomatch hb
  have h__law_told := tt_told (P := l.prog) (w := w) (base := base) (fs := sp__law_called) (n := 4) (k := 6) F__law_told (PySem.W.mg_of X G a19) (F__law_told.binds (ps := ["door", "ask", "by_name"]) fun _ _ _ _ _ _ us hl => match us, hl with | [_, _, _], _ => rfl) m_isinstance m_repr h__law_copy x__law_called.h (by decide) (by decide) (PySem.W.mg_of X G a1_NoFraction) (PySem.W.mg_of X G a1_NoNumber) (PySem.W.mg_of X G a1_NoWord) (PySem.W.mg_of X G a1_TooMany) (PySem.W.mg_of X G b2_TermError) ⟨b9_NoFraction, c1_NoFraction, a6_NoFraction, c2_NoFraction⟩ t2_NoFraction ⟨b9_NoNumber, c1_NoNumber, a6_NoNumber, c2_NoNumber⟩ t2_NoNumber ⟨b9_NoWord, c1_NoWord, a6_NoWord, c2_NoWord⟩ t2_NoWord ⟨b9_TooMany, c1_TooMany, a6_TooMany, c2_TooMany⟩ t2_TooMany ⟨a1_NoFraction, ⟨b9_NoFraction, c1_NoFraction, a6_NoFraction, c2_NoFraction, c3_NoFraction, c4_NoFraction, c5_NoFraction, c6_NoFraction⟩, PySem.W.exm_ref a6_NoFraction c2_NoFraction a7_NoFraction c7_NoFraction, kit_sub c9_TermError d1_TermError c8_NoFraction, no_NoFraction, ⟨a1_NoNumber, ⟨b9_NoNumber, c1_NoNumber, a6_NoNumber, c2_NoNumber, c3_NoNumber, c4_NoNumber, c5_NoNumber, c6_NoNumber⟩, PySem.W.exm_ref a6_NoNumber c2_NoNumber a7_NoNumber c7_NoNumber, kit_sub c9_TermError d1_TermError c8_NoNumber, no_NoNumber, ⟨a1_NoWord, ⟨b9_NoWord, c1_NoWord, a6_NoWord, c2_NoWord, c3_NoWord, c4_NoWord, c5_NoWord, c6_NoWord⟩, PySem.W.exm_ref a6_NoWord c2_NoWord a7_NoWord c7_NoWord, kit_sub c9_TermError d1_TermError c8_NoWord, no_NoWord, ⟨a1_TooMany, ⟨b9_TooMany, c1_TooMany, a6_TooMany, c2_TooMany, c3_TooMany, c4_TooMany, c5_TooMany, c6_TooMany⟩, PySem.W.exm_ref a6_TooMany c2_TooMany a7_TooMany c7_TooMany, kit_sub c9_TermError d1_TermError c8_TooMany, no_TooMany, trivial⟩⟩⟩⟩
  have c__law_told := (h__law_told.imp fun _ _ _ _ z => toldO_imp (fun1_of (by decide +kernel)) z).cal
  have F__law_take := fun_mk (st := s__law_take) l20 c20 k20
  have o__law_take := ok__law_take (P := l.prog) (w := w) (base := base) F__law_take (PySem.W.mg_of X G a20) m_int
  have c__law_take := o__law_take.cal (F__law_take.binds (ps := ["box", "many"]) fun _ _ _ _ _ _ us hl => match us, hl with | [_, _], _ => rfl)
  have F__law_low := fun_mk (st := s__law_low) l21 c21 k21
  have o__law_low := ok__law_low (P := l.prog) (w := w) (base := base) F__law_low (PySem.W.mg_of X G a21) m_abs m_int
  have c__law_low := o__law_low.cal (F__law_low.binds (ps := ["top", "base"]) fun _ _ _ _ _ _ us hl => match us, hl with | [_, _], _ => rfl)
  have F__law_even := fun_mk (st := s__law_even) l22 c22 k22
  have o__law_even := ok__law_even (P := l.prog) (w := w) (base := base) F__law_even (PySem.W.mg_of X G a22) m_range
  have c__law_even := o__law_even.cal (F__law_even.binds (ps := ["ones", "many", "letters"]) fun _ _ _ _ _ _ us hl => match us, hl with | [_, _, _], _ => rfl)
  have F__law_drawn_word := fun_mk (st := s__law_drawn_word) l23 c23 k23
  have o__law_drawn_word := ok__law_drawn_word (P := l.prog) (w := w) (base := base) F__law_drawn_word (PySem.W.mg_of X G a23) m_range c__law_take c__law_even
  have c__law_drawn_word := o__law_drawn_word.cal (F__law_drawn_word.binds (ps := ["box", "most"]) fun _ _ _ _ _ _ us hl => match us, hl with | [_, _], _ => rfl)
  have F__law_mixed := fun_mk (st := s__law_mixed) l24 c24 k24
  have o__law_mixed := ok__law_mixed (P := l.prog) (w := w) (base := base) F__law_mixed (PySem.W.mg_of X G a24) m_list m_len c__law_take
  have c__law_mixed := o__law_mixed.cal (F__law_mixed.binds (ps := ["box", "items"]) fun _ _ _ _ _ _ us hl => match us, hl with | [_, _], _ => rfl)
  have F__law_same := fun_mk (st := s__law_same) l25 c25 k25
  have o__law_same := CalF.rec' (P := l.prog) (w := w) (base := base) (x := "_law_same") (ps := ["given", "due"]) (sp := spr__law_same) nor__law_same (PySem.W.mg_of X G a25) F__law_same.kp (F__law_same.binds (ps := ["given", "due"]) fun _ _ _ _ _ _ us hl => match us, hl with | [_, _], _ => rfl) (fun n c => ok__law_same F__law_same (PySem.W.mg_of X G a25) m_isinstance m_bool m_int m_str m_len m_range m_list m_tuple c) 6
  have c__law_same : Cal l.prog w K mg base 6 "_law_same" ["given", "due"] sp__law_same := o__law_same.cal (F__law_same.binds (ps := ["given", "due"]) fun _ _ _ _ _ _ us hl => match us, hl with | [_, _], _ => rfl)
  have F__law_balanced := fun_mk (st := s__law_balanced) l26 c26 k26
  have o__law_balanced := ok__law_balanced (P := l.prog) (w := w) (base := base) F__law_balanced (PySem.W.mg_of X G a26) m_len m_range m_max m_min
  have c__law_balanced := o__law_balanced.cal (F__law_balanced.binds (ps := ["word"]) fun _ _ _ _ _ _ us hl => match us, hl with | [_], _ => rfl)
  have F__law_grown := fun_mk (st := s__law_grown) l27 c27 k27
  have h__law_grown := tt_grown (P := l.prog) (w := w) (base := base) F__law_grown (PySem.W.mg_of X G a27) (F__law_grown.binds (ps := ["value"]) fun _ _ _ _ _ _ us hl => match us, hl with | [_], _ => rfl) m_isinstance m_list m_tuple m_dict 4
  have F__law_told_same := fun_mk (st := s__law_told_same) l28 c28 k28
  have c__law_told_same := (tt_same (P := l.prog) (w := w) (base := base) (k := 7) F__law_told_same (PySem.W.mg_of X G a28) (F__law_told_same.binds (ps := ["door", "ask", "due", "by_name"]) fun _ _ _ _ _ _ us hl => match us, hl with | [_, _, _, _], _ => rfl) m_range h__law_told c__law_same.h h__law_grown (by decide) (by decide) (by decide)).cal
  have F__law_no_words := fun_mk (st := s__law_no_words) l29 c29 k29
  have o__law_no_words := ok__law_no_words (P := l.prog) (w := w) (base := base) F__law_no_words (PySem.W.mg_of X G a29) 
  have c__law_no_words := o__law_no_words.cal (F__law_no_words.binds (ps := []) fun _ _ _ _ _ _ us hl => match us, hl with | [], _ => rfl)
  have F__law_refused := fun_mk (st := s__law_refused) l30 c30 k30
  have c__law_refused := (tt_refused (P := l.prog) (w := w) (base := base) (k := 7) (fun1_of (by decide +kernel)) F__law_refused (PySem.W.mg_of X G a30) (F__law_refused.binds (ps := ["door", "ask", "word", "at", "by_name"]) fun _ _ _ _ _ _ us hl => match us, hl with | [_, _, _, _, _], _ => rfl) m_repr h__law_told h__law_grown (by decide) (by decide)).cal
  have F__law_no_fractions := fun_mk (st := s__law_no_fractions) l31 c31 k31
  have o__law_no_fractions := ok__law_no_fractions (P := l.prog) (w := w) (base := base) F__law_no_fractions (PySem.W.mg_of X G a31) 
  have c__law_no_fractions := o__law_no_fractions.cal (F__law_no_fractions.binds (ps := []) fun _ _ _ _ _ _ us hl => match us, hl with | [], _ => rfl)
  have F__law_cell_right := fun_mk (st := s__law_cell_right) l32 c32 k32
  have o__law_cell_right := ok__law_cell_right (P := l.prog) (w := w) (base := base) F__law_cell_right (PySem.W.mg_of X G a32) m_sum m_range m_tuple m_list c__law_take c__law_low c__law_told_same c__law_even c__law_balanced c__law_drawn_word c__law_told c__law_mixed c__law_no_words c__law_refused c__law_no_fractions c__law_same
  have c__law_cell_right := o__law_cell_right.cal (F__law_cell_right.binds (ps := ["box"]) fun _ _ _ _ _ _ us hl => match us, hl with | [_], _ => rfl)
  have F__law_box := fun_mk (st := s__law_box) l33 c33 k33
  have o__law_box := ok__law_box (P := l.prog) (w := w) (base := base) F__law_box (PySem.W.mg_of X G a33) m_abs m_int
  have c__law_box := o__law_box.cal (F__law_box.binds (ps := ["great"]) fun _ _ _ _ _ _ us hl => match us, hl with | [_], _ => rfl)
  have F__law_cell := fun_mk (st := s__law_cell) l34 c34 k34
  have o__law_cell := ok__law_cell (P := l.prog) (w := w) (base := base) F__law_cell (PySem.W.mg_of X G a34) m_len m_sum m_int
  have c__law_cell := o__law_cell.cal (F__law_cell.binds (ps := ["script", "k"]) fun _ _ _ _ _ _ us hl => match us, hl with | [_, _], _ => rfl)
  exact fn_keeps0 (fun_mk (st := s_law) l35 c35 k35) sc_law len_law (by decide) (fun cdv A outer s H E hr => (ss_cons (s_forR1 m_range (d_max m_max d_int (d_min m_min d_int (d_len m_len (d_var 0)))) (g_nm 1) (ss_one (s_if (t_not (t_val (d_callT c__law_cell_right (o_callC c__law_box (c_v (d_callC c__law_cell (c_v (d_var 0) (c_v (d_var 1) c_nil))) c_nil))))) (ss_one (s_ret d_bl)) ss_nil)))
    (ss_one (s_ret d_bl)))) kp_law
end K11
open PySem PySem.W PyProof.Rows in
set_option maxRecDepth 100000 in
set_option maxHeartbeats 0 in
theorem PySem.Challenge.cw_termwide_k11_even_words_holds : PySem.Challenge.rw_termwide_k11_even_words.Holds := by
  w_on; o_law; k_head; (case hw => w_witness2)
  k_fill
  refine DW.walk_ofG (l := PySem.Challenge.rw_termwide_k11_even_words) (n := 63) (k := 10) (x := "script") (CX := fun _ => L2.CX0) (sp := fun w => DW.spOf _ K11.sp_law) rfl (by decide) rfl ⟨rfl, by decide, by decide⟩ (by decide +kernel) (fun w h Y => PySem.W.kIn_of Y) ?F (fun _ _ a ns hl _ hS => DW.law_sp (K11.law_ints ns hl) hS) (fun _ _ _ _ _ h => h)
  case F =>
    intro w mg fa h KX G hmg
    refine' K11.all_mk KX G hmg ?a1 ?l1 ?c1 ?k1 ?a2 ?l2 ?c2 ?k2 ?a3 ?l3 ?c3 ?k3 ?a4 ?l4 ?c4 ?k4 ?a5 ?l5 ?c5 ?k5 ?a6 ?l6 ?c6 ?k6 ?a7 ?l7 ?c7 ?k7 ?a8 ?l8 ?c8 ?k8 ?a9 ?l9 ?c9 ?k9 ?a10 ?l10 ?c10 ?k10 ?a11 ?l11 ?c11 ?k11 ?a12 ?l12 ?c12 ?k12 ?a13 ?l13 ?c13 ?k13 ?a14 ?l14 ?c14 ?k14 ?a15 ?l15 ?c15 ?k15 ?a16 ?l16 ?c16 ?k16 ?a17 ?l17 ?c17 ?k17 ?a18 ?l18 ?c18 ?k18 ?a19 ?l19 ?c19 ?k19 ?a20 ?l20 ?c20 ?k20 ?a21 ?l21 ?c21 ?k21 ?a22 ?l22 ?c22 ?k22 ?a23 ?l23 ?c23 ?k23 ?a24 ?l24 ?c24 ?k24 ?a25 ?l25 ?c25 ?k25 ?a26 ?l26 ?c26 ?k26 ?a27 ?l27 ?c27 ?k27 ?a28 ?l28 ?c28 ?k28 ?a29 ?l29 ?c29 ?k29 ?a30 ?l30 ?c30 ?k30 ?a31 ?l31 ?c31 ?k31 ?a32 ?l32 ?c32 ?k32 ?a33 ?l33 ?c33 ?k33 ?a34 ?l34 ?c34 ?k34 ?a35 ?l35 ?c35 ?k35 ?b2_TermError ?b6_TermError ?b7_TermError ?b8_TermError ?c9_TermError ?d1_TermError ?a1_NoWord ?a3_NoWord ?a4_NoWord ?a5_NoWord ?a6_NoWord ?a7_NoWord ?a8_NoWord ?a9_NoWord ?t1_NoWord ?t2_NoWord ?t3_NoWord ?t4_NoWord ?t5_NoWord ?b9_NoWord ?c1_NoWord ?c2_NoWord ?c3_NoWord ?c4_NoWord ?c5_NoWord ?c6_NoWord ?c7_NoWord ?c8_NoWord ?a1_NoFraction ?a3_NoFraction ?a4_NoFraction ?a5_NoFraction ?a6_NoFraction ?a7_NoFraction ?a8_NoFraction ?a9_NoFraction ?t1_NoFraction ?t2_NoFraction ?t3_NoFraction ?t4_NoFraction ?t5_NoFraction ?b9_NoFraction ?c1_NoFraction ?c2_NoFraction ?c3_NoFraction ?c4_NoFraction ?c5_NoFraction ?c6_NoFraction ?c7_NoFraction ?c8_NoFraction ?nx_NoWord_NoFraction ?a1_TooMany ?a3_TooMany ?a4_TooMany ?a5_TooMany ?a6_TooMany ?a7_TooMany ?a8_TooMany ?a9_TooMany ?t1_TooMany ?t2_TooMany ?t3_TooMany ?t4_TooMany ?t5_TooMany ?b9_TooMany ?c1_TooMany ?c2_TooMany ?c3_TooMany ?c4_TooMany ?c5_TooMany ?c6_TooMany ?c7_TooMany ?c8_TooMany ?nx_TooMany_NoFraction ?nx_TooMany_NoWord ?a1_NoNumber ?a3_NoNumber ?a4_NoNumber ?a5_NoNumber ?a6_NoNumber ?a7_NoNumber ?a8_NoNumber ?a9_NoNumber ?t1_NoNumber ?t2_NoNumber ?t3_NoNumber ?t4_NoNumber ?t5_NoNumber ?b9_NoNumber ?c1_NoNumber ?c2_NoNumber ?c3_NoNumber ?c4_NoNumber ?c5_NoNumber ?c6_NoNumber ?c7_NoNumber ?c8_NoNumber ?nx_NoNumber_NoFraction ?nx_NoWord_NoNumber ?nx_TooMany_NoNumber ?z_isinstance ?z_list ?z_tuple ?z_dict ?z_int ?z_bool ?z_len ?z_all ?z_range ?z_abs ?z_repr ?z_str ?z_max ?z_min ?z_sum ?y_MOST_LETTERS
    (case a1 => k_is)
    (case l1 => k_is)
    (case c1 => k_is)
    (case k1 => k_is)
    (case a2 => k_is)
    (case l2 => k_is)
    (case c2 => k_is)
    (case k2 => k_is)
    (case a3 => k_is)
    (case l3 => k_is)
    (case c3 => k_is)
    (case k3 => k_is)
    (case a4 => k_is)
    (case l4 => k_is)
    (case c4 => k_is)
    (case k4 => k_is)
    (case a5 => k_is)
    (case l5 => k_is)
    (case c5 => k_is)
    (case k5 => k_is)
    (case a6 => k_is)
    (case l6 => k_is)
    (case c6 => k_is)
    (case k6 => k_is)
    (case a7 => k_is)
    (case l7 => k_is)
    (case c7 => k_is)
    (case k7 => k_is)
    (case a8 => k_is)
    (case l8 => k_is)
    (case c8 => k_is)
    (case k8 => k_is)
    (case a9 => k_is)
    (case l9 => k_is)
    (case c9 => k_is)
    (case k9 => k_is)
    (case a10 => k_is)
    (case l10 => k_is)
    (case c10 => k_is)
    (case k10 => k_is)
    (case a11 => k_is)
    (case l11 => k_is)
    (case c11 => k_is)
    (case k11 => k_is)
    (case a12 => k_is)
    (case l12 => k_is)
    (case c12 => k_is)
    (case k12 => k_is)
    (case a13 => k_is)
    (case l13 => k_is)
    (case c13 => k_is)
    (case k13 => k_is)
    (case a14 => k_is)
    (case l14 => k_is)
    (case c14 => k_is)
    (case k14 => k_is)
    (case a15 => k_is)
    (case l15 => k_is)
    (case c15 => k_is)
    (case k15 => k_is)
    (case a16 => k_is)
    (case l16 => k_is)
    (case c16 => k_is)
    (case k16 => k_is)
    (case a17 => k_is)
    (case l17 => k_is)
    (case c17 => k_is)
    (case k17 => k_is)
    (case a18 => k_is)
    (case l18 => k_is)
    (case c18 => k_is)
    (case k18 => k_is)
    (case a19 => k_is)
    (case l19 => k_is)
    (case c19 => k_is)
    (case k19 => k_is)
    (case a20 => k_is)
    (case l20 => k_is)
    (case c20 => k_is)
    (case k20 => k_is)
    (case a21 => k_is)
    (case l21 => k_is)
    (case c21 => k_is)
    (case k21 => k_is)
    (case a22 => k_is)
    (case l22 => k_is)
    (case c22 => k_is)
    (case k22 => k_is)
    (case a23 => k_is)
    (case l23 => k_is)
    (case c23 => k_is)
    (case k23 => k_is)
    (case a24 => k_is)
    (case l24 => k_is)
    (case c24 => k_is)
    (case k24 => k_is)
    (case a25 => k_is)
    (case l25 => k_is)
    (case c25 => k_is)
    (case k25 => k_is)
    (case a26 => k_is)
    (case l26 => k_is)
    (case c26 => k_is)
    (case k26 => k_is)
    (case a27 => k_is)
    (case l27 => k_is)
    (case c27 => k_is)
    (case k27 => k_is)
    (case a28 => k_is)
    (case l28 => k_is)
    (case c28 => k_is)
    (case k28 => k_is)
    (case a29 => k_is)
    (case l29 => k_is)
    (case c29 => k_is)
    (case k29 => k_is)
    (case a30 => k_is)
    (case l30 => k_is)
    (case c30 => k_is)
    (case k30 => k_is)
    (case a31 => k_is)
    (case l31 => k_is)
    (case c31 => k_is)
    (case k31 => k_is)
    (case a32 => k_is)
    (case l32 => k_is)
    (case c32 => k_is)
    (case k32 => k_is)
    (case a33 => k_is)
    (case l33 => k_is)
    (case c33 => k_is)
    (case k33 => k_is)
    (case a34 => k_is)
    (case l34 => k_is)
    (case c34 => k_is)
    (case k34 => k_is)
    (case a35 => k_is)
    (case l35 => k_is)
    (case c35 => k_is)
    (case k35 => k_is)
    (case b2_TermError => k_is)
    (case b6_TermError => k_is)
    (case b7_TermError => k_is)
    (case b8_TermError => k_is)
    (case c9_TermError => k_is)
    (case d1_TermError => k_is)
    (case a1_NoWord => k_is)
    (case a3_NoWord => k_is)
    (case a4_NoWord => first | rfl | decide | k_is)
    (case a5_NoWord => k_is)
    (case a6_NoWord => k_is)
    (case a7_NoWord => k_is)
    (case a8_NoWord => k_is)
    (case a9_NoWord => k_is)
    (case t1_NoWord => k_is)
    (case t2_NoWord => k_is)
    (case t3_NoWord => k_is)
    (case t4_NoWord => k_is)
    (case t5_NoWord => k_is)
    (case b9_NoWord => k_is)
    (case c1_NoWord => k_is)
    (case c2_NoWord => k_is)
    (case c3_NoWord => k_is)
    (case c4_NoWord => k_is)
    (case c5_NoWord => k_is)
    (case c6_NoWord => k_is)
    (case c7_NoWord => k_is)
    (case c8_NoWord => k_is)
    (case a1_NoFraction => k_is)
    (case a3_NoFraction => k_is)
    (case a4_NoFraction => first | rfl | decide | k_is)
    (case a5_NoFraction => k_is)
    (case a6_NoFraction => k_is)
    (case a7_NoFraction => k_is)
    (case a8_NoFraction => k_is)
    (case a9_NoFraction => k_is)
    (case t1_NoFraction => k_is)
    (case t2_NoFraction => k_is)
    (case t3_NoFraction => k_is)
    (case t4_NoFraction => k_is)
    (case t5_NoFraction => k_is)
    (case b9_NoFraction => k_is)
    (case c1_NoFraction => k_is)
    (case c2_NoFraction => k_is)
    (case c3_NoFraction => k_is)
    (case c4_NoFraction => k_is)
    (case c5_NoFraction => k_is)
    (case c6_NoFraction => k_is)
    (case c7_NoFraction => k_is)
    (case c8_NoFraction => k_is)
    (case nx_NoWord_NoFraction => k_is)
    (case a1_TooMany => k_is)
    (case a3_TooMany => k_is)
    (case a4_TooMany => first | rfl | decide | k_is)
    (case a5_TooMany => k_is)
    (case a6_TooMany => k_is)
    (case a7_TooMany => k_is)
    (case a8_TooMany => k_is)
    (case a9_TooMany => k_is)
    (case t1_TooMany => k_is)
    (case t2_TooMany => k_is)
    (case t3_TooMany => k_is)
    (case t4_TooMany => k_is)
    (case t5_TooMany => k_is)
    (case b9_TooMany => k_is)
    (case c1_TooMany => k_is)
    (case c2_TooMany => k_is)
    (case c3_TooMany => k_is)
    (case c4_TooMany => k_is)
    (case c5_TooMany => k_is)
    (case c6_TooMany => k_is)
    (case c7_TooMany => k_is)
    (case c8_TooMany => k_is)
    (case nx_TooMany_NoFraction => k_is)
    (case nx_TooMany_NoWord => k_is)
    (case a1_NoNumber => k_is)
    (case a3_NoNumber => k_is)
    (case a4_NoNumber => first | rfl | decide | k_is)
    (case a5_NoNumber => k_is)
    (case a6_NoNumber => k_is)
    (case a7_NoNumber => k_is)
    (case a8_NoNumber => k_is)
    (case a9_NoNumber => k_is)
    (case t1_NoNumber => k_is)
    (case t2_NoNumber => k_is)
    (case t3_NoNumber => k_is)
    (case t4_NoNumber => k_is)
    (case t5_NoNumber => k_is)
    (case b9_NoNumber => k_is)
    (case c1_NoNumber => k_is)
    (case c2_NoNumber => k_is)
    (case c3_NoNumber => k_is)
    (case c4_NoNumber => k_is)
    (case c5_NoNumber => k_is)
    (case c6_NoNumber => k_is)
    (case c7_NoNumber => k_is)
    (case c8_NoNumber => k_is)
    (case nx_NoNumber_NoFraction => k_is)
    (case nx_NoWord_NoNumber => k_is)
    (case nx_TooMany_NoNumber => k_is)
    (case z_isinstance => k_is)
    (case z_list => k_is)
    (case z_tuple => k_is)
    (case z_dict => k_is)
    (case z_int => k_is)
    (case z_bool => k_is)
    (case z_len => k_is)
    (case z_all => k_is)
    (case z_range => k_is)
    (case z_abs => k_is)
    (case z_repr => k_is)
    (case z_str => k_is)
    (case z_max => k_is)
    (case z_min => k_is)
    (case z_sum => k_is)
    (case y_MOST_LETTERS => k_is)
